import PyProof.Rows.All
import Wide.All
import OpenK.AllK
import Wide.FinOn
import Open.Tops
import OpenK.XOpen
import PySem.Challenge.RW_pc0115_01
set_option Elab.async false
set_option maxRecDepth 100000
set_option linter.all false
set_option genSizeOf false
set_option genInjectivity false
set_option genCtorIdx false
set_option bootstrap.genMatcherCode false
section
open PySem renaming NameKind->nM,OsState->gE,Params->aq,World->eZ,importedModules->w_,treeTable->rA
open PySem.PyData renaming keyHash->zD
open PySem.Str renaming ofString->dy
open PySem.W renaming boot_drawn->Ef,boot_heap->kX,topFrame->o6
open PySem.W.Fast renaming te14364793385576792824->Ee,tw14364793385576792824->zQ,tw5923862056798008813->VB
open PySem.W.OpenLaw renaming wellSaid->VF
open PySem PySem.W PyProof.Rows
set_option maxHeartbeats 0
namespace HD
open PySem.Challenge
open PySem.W.SL renaming s2766695959194262286x5->y0
open PySem.W.SL renaming s5856160107412720595x4->y1
open PySem.W.SL renaming s658472552662922059x5->y2
open PySem.W.SL renaming s7174869446012820540x8->y3
open PySem.W.SL renaming s11030030927630378310x26->y4
open PySem.W.SL renaming s10062305145149207511x16->y5
open PySem.W.SL renaming s17162191345867700912x4->y6
open PySem.W.SL renaming s14018661285674007319x4->y7
open PySem.W.SL renaming s2742458400755230247x6->y8
open PySem.W.SL renaming s11443829558043349243x14->y9
open PySem.W.SL renaming s14755015743595814543x17->y10
open PySem.W.SL renaming s6511155373996960695x17->y11
open PySem.W.SL renaming s12411053484034534018x21->y12
open PySem.W.SL renaming s10220274742760427390x26->y13
open PySem.W.SL renaming s4290257624100764138x5->y14
open PySem.W.SL renaming s4860613602091757760x24->y15
open PySem.W.SL renaming s7097527257260152453x26->y16
open PySem.W.SL renaming s5946037652744460706x9->y17
open PySem.W.SL renaming s4278001404047624695x13->y18
open PySem.W.SL renaming s5160863994218179198x17->y19
noncomputable def BD:List Stmt:=pw_pc0115_01.main.body
noncomputable def fA:Stmt->Arguments | .FunctionDef _ a _ _ _ _ _ _ _ _=>a |_=>⟨[],[],none,[],[],none,[]⟩
noncomputable def fB:Stmt->List Stmt | .FunctionDef _ _ b _ _ _ _ _ _ _=>b |_=>[]
noncomputable def fS:Stmt->Scope | .FunctionDef _ _ _ _ _ _ s _ _ _=>s |_=>⟨.module,[],false,false,[]⟩
noncomputable def wG:List Stmt->Nat->Stmt
 | [],_=>.Pass ⟨0,0,0,0⟩
 |s::_,0=>s
 |_::r,n+1=>wG r n
noncomputable def zzx:=0 where
 st(i:Nat):Stmt:=wG BD i
 mt(i j:Nat):Stmt:=match wG BD i with| .ClassDef _ _ _ b _ _ _ _ _ _ _=>wG b j |s=>s
 E(P:aq)(k:Str)(t:Nat)(v:Value):DictEntry:=⟨zD P k,.str k t,v⟩
open zzx
noncomputable def tr:List (Nat×Nat)->List Value
 | []=>[]
 | (a,b)::r=>.int a 0::.int 0 0::.ref b::tr r
noncomputable def dE:BT->Nat->List Obj->BT
 |T,_,[]=>T
 |T,n,o::r=>dE (T.ins n o) (n+1) r
noncomputable abbrev S(l:List Nat):Str:=⟨⟨l⟩⟩
noncomputable def zzz:=0 where
 zs0:=S [60,109,111,100,117,108,101,62]
 zs1:=S [47,99,108,97,105,109,47,99,117,116,46,112,121]
 zs2:=S [95,95,109,97,105,110,95,95]
 zs3:=S [107]
 zs4:=S [95,119,97,108,108]
 zs5:=S [95,95,109,111,100,117,108,101,95,95]
 zs6:=S [107,105,110,100,107,101,101,112,46,110,111,100,101,115]
 zs7:=S [95,95,113,117,97,108,110,97,109,101,95,95]
 zs8:=S [78,111,100,101]
 zs9:=S [95,95,102,105,114,115,116,108,105,110,101,110,111,95,95]
 bo:=S [95,95,105,110,105,116,95,95]
 ax:=S [95,95,115,116,97,116,105,99,95,97,116,116,114,105,98,117,116,101,115,95,95]
 aR:=S [115,101,108,102]
 pW:=S [107,105,110,100]
 tH:=S [97]
 pX:=S [107,105,100,115]
 Cp:=S [102,108,97,103,115]
 pY:=S [97,116]
 JV:=S [78,111,100,101,46,95,95,105,110,105,116,95,95]
 gD:=S [110,105,100]
 ka:=S [95,95,100,105,99,116,95,95]
 jb:=S [95,95,119,101,97,107,114,101,102,95,95]
 bU:=S [95,95,100,111,99,95,95]
 tI:=S [108,101,97,102]
 tJ:=S [116,119,105,103]
 tK:=S [114,111,111,116]
 zE:=S [111,117,116]
 Cq:=S [115,116,97,99,107]
 aW:=S [110,111,100,101]
 JW:=S [107,105,100]
 tM:=S [119,97,108,107,95,110,111,100,101,115]
 Cr:=S [115,116,97,114,116]
 kR:=S [110,117,109,98,101,114]
 tN:=S [110,117,109,98,101,114,95,110,111,100,101,115]
 wH:=S [112,97,116,116,101,114,110]
 tO:=S [110,97,109,101,115,95,105,110,95,112,97,116,116,101,114,110]
 lQ:=S [95,95,110,97,109,101,95,95]
 Ug:=S [95,95,112,97,99,107,97,103,101,95,95]
 Uh:=S [95,95,108,111,97,100,101,114,95,95]
 Ui:=S [95,95,115,112,101,99,95,95]
 Uj:=S [95,95,97,110,110,111,116,97,116,105,111,110,115,95,95]
 Uk:=S [95,95,98,117,105,108,116,105,110,115,95,95]
 Ul:=S [95,95,102,105,108,101,95,95]
 Um:=S [95,95,99,97,99,104,101,100,95,95]
 ir:=S [107,105,110,100,107,101,101,112,46,100,105,97,103,115]
 Cs:=S [75,95,78,85,77]
 Ct:=S [75,95,83,84,82]
 Cu:=S [75,95,84,82,85,69]
 Cv:=S [75,95,70,65,76,83,69]
 Cw:=S [75,95,78,85,76,76]
 Cy:=S [75,95,85,78,68,69,70]
 Cz:=S [75,95,78,65,77,69]
 CA:=S [75,95,84,72,73,83]
 CB:=S [75,95,67,65,76,76]
 CC:=S [75,95,78,79,78,78,85,76,76]
 CD:=S [75,95,80,65,82,69,78]
 CF:=S [75,95,79,66,74,80,65,84]
 CG:=S [75,95,65,82,82,80,65,84]
 CH:=S [75,95,66,73,78,68]
 CI:=S [75,95,86,65,82]
 CJ:=S [75,95,68,69,67,76]
 CK:=S [75,95,69,88,80,82,83,84]
 CL:=S [75,95,73,70]
 CM:=S [75,95,87,72,73,76,69]
 CN:=S [75,95,68,79]
 CO:=S [75,95,70,79,82]
 CP:=S [75,95,70,79,82,79,70]
 CQ:=S [75,95,70,79,82,73,78]
 CS:=S [75,95,83,87,73,84,67,72]
 CU:=S [75,95,67,65,83,69]
 CV:=S [75,95,82,69,84,85,82,78]
 CW:=S [75,95,66,82,69,65,75]
 CX:=S [75,95,67,79,78,84,73,78,85,69]
 CY:=S [75,95,76,65,66,69,76]
 CZ:=S [75,95,84,72,82,79,87]
 C1:=S [75,95,84,82,89]
 C2:=S [75,95,67,65,84,67,72]
 C3:=S [75,95,66,76,79,67,75]
 C4:=S [75,95,69,77,80,84,89]
 kb:=S [75,101,101,112,69,114,114,111,114]
 wI:=S []
 jc:=S [116,101,120,116]
 C5:=S [75,101,101,112,69,114,114,111,114,46,95,95,105,110,105,116,95,95]
 pZ:=S [76,101,102,116,79,117,116]
 C6:=S [76,101,102,116,79,117,116,46,95,95,105,110,105,116,95,95]
 p_:=S [82,117,110,66,111,117,110,100]
 C7:=S [82,117,110,66,111,117,110,100,46,95,95,105,110,105,116,95,95]
 JX:=S [116,121,112,101,46,95,95,115,117,98,99,108,97,115,115,101,115,95,95,46,69,120,99,101,112,116,105,111,110,46,48]
 JY:=S [116,121,112,101,46,95,95,115,117,98,99,108,97,115,115,101,115,95,95,46,69,120,99,101,112,116,105,111,110,46,110]
 tP:=S [78,117,109,98,101,114,79,117,116]
 C8:=S [78,117,109,98,101,114,79,117,116,46,95,95,105,110,105,116,95,95]
 wJ:=S [72,111,115,116,70,97,117,108,116]
 C9:=S [72,111,115,116,70,97,117,108,116,46,95,95,105,110,105,116,95,95]
 bL:=S [107,105,110,100,107,101,101,112,46,118,97,108,117,101,115]
 tQ:=S [84,104,105,110,103]
 zF:=S [115,111,114,116]
 wK:=S [112,114,111,116,111]
 JZ:=S [84,104,105,110,103,46,95,95,105,110,105,116,95,95]
 zG:=S [99,111,100,101]
 J0:=S [102,114,111,122,101,110]
 J1:=S [103,101,116,116,101,114,115]
 C_:=S [104,111,109,101]
 J2:=S [105,116,101,109,115]
 J3:=S [110,97,109,101,115]
 J4:=S [110,97,116,105,118,101]
 J5:=S [115,101,116,116,101,114,115]
 J6:=S [115,108,111,116,115]
 Dd:=S [86,95,85,78,68,69,70]
 De:=S [86,95,78,85,76,76]
 Df:=S [86,95,66,79,79,76]
 Dg:=S [86,95,78,85,77]
 Dh:=S [86,95,78,65,78]
 Di:=S [86,95,83,84,82]
 Dj:=S [86,95,79,66,74]
 Dk:=S [79,95,65,82,82,65,89]
 J7:=S [79,95,70,85,78,67]
 Dl:=S [79,95,69,82,82,79,82]
 Dm:=S [80,95,69,82,82,79,82]
 Dn:=S [77,79,83,84,95,78,85,77,66,69,82]
 J8:=S [77,79,83,84,95,73,84,69,77,83]
 Dq:=S [77,79,83,84,95,80,76,65,67,69]
 qa:=S [72,101,97,112]
 J9:=S [72,101,97,112,46,95,95,105,110,105,116,95,95]
 J_:=S [110,97,116,105,118,101,115]
 J':=S [116,104,105,110,103,115]
 qb:=S [69,110,118]
 tR:=S [117,112]
 Ka:=S [69,110,118,46,95,95,105,110,105,116,95,95]
 wL:=S [99,101,108,108,115]
 qc:=S [117,110,100,101,102,95,118,97,108,117,101]
 qd:=S [116,101,120,116,95,118,97,108,117,101]
 Kb:=S [110]
 qe:=S [110,117,109,95,118,97,108,117,101]
 qh:=S [104,101,97,112]
 lR:=S [116,104,105,110,103]
 qi:=S [110,101,119,95,116,104,105,110,103]
 fC:=S [110,97,109,101]
 Kc:=S [108,101,116,116,101,114]
 iR:=S [112,108,97,99,101]
 qj:=S [112,108,97,99,101,95,111,102]
 qk:=S [116,101,120,116,95,112,114,111,112]
 zH:=S [105,116,101,109,95,112,114,111,112]
 ql:=S [104,97,115,95,110,97,109,101]
 Dr:=S [102,111,117,110,100]
 cg:=S [118,97,108,117,101]
 wM:=S [116,104,105,110,103,95,112,114,111,112]
 gn:=S [118]
 Kd:=S [97,110,115,119,101,114]
 qo:=S [103,101,116,95,112,114,111,112]
 wN:=S [115,101,116,95,108,101,110,103,116,104]
 wO:=S [115,101,116,95,105,116,101,109]
 qp:=S [115,101,116,95,111,119,110]
 qq:=S [104,105,100,101,95,110,97,109,101]
 tS:=S [111,119,110,95,110,97,109,101,115]
 tT:=S [116,114,117,116,104,121]
 Ke:=S [98]
 tU:=S [115,97,109,101,95,115,116,114,105,99,116]
 Kf:=S [109,101,115,115,97,103,101]
 tV:=S [101,114,114,111,114,95,116,104,105,110,103]
 aQ:=S [107,105,110,100,107,101,101,112,46,114,117,110,99,111,114,101]
 kf:=S [83,99,114,105,112,116,84,104,114,111,119]
 Kg:=S [83,99,114,105,112,116,84,104,114,111,119,46,95,95,105,110,105,116,95,95]
 iu:=S [82,117,110,82,117,108,101]
 ay:=S [109]
 Un:=S [82,117,110,82,117,108,101,46,118,97,108,117,101]
 nE:=S [68,111,82,117,108,101]
 ba:=S [114,117,110]
 Uo:=S [68,111,82,117,108,101,46,114,117,110]
 Up:=S [116,121,112,101,46,95,95,115,117,98,99,108,97,115,115,101,115,95,95,46,69,120,99,101,112,116,105,111,110,46,49]
 Ds:=S [87,95,68,69,65,68]
 Kh:=S [87,95,67,79,78,83,84]
 Dt:=S [87,95,73,84,69,82]
 Du:=S [67,95,78,79,82,77,65,76]
 Dv:=S [67,95,82,69,84,85,82,78]
 Dw:=S [67,95,66,82,69,65,75]
 Dx:=S [67,95,67,79,78,84,73,78,85,69]
 Dy:=S [67,69,76,76,95,68,69,65,68]
 Dz:=S [67,69,76,76,95,76,73,86,69]
 DA:=S [67,69,76,76,95,67,79,78,83,84]
 DB:=S [77,79,83,84,95,68,69,69,80]
 mD:=S [87,97,116,99,104,101,114]
 kS:=S [108,111,111,107]
 Uq:=S [87,97,116,99,104,101,114,46,108,111,111,107]
 qr:=S [75,101,101,112,87,97,116,99,104,101,114]
 Ki:=S [75,101,101,112,87,97,116,99,104,101,114,46,95,95,105,110,105,116,95,95]
 Kj:=S [75,101,101,112,87,97,116,99,104,101,114,46,108,111,111,107]
 Kk:=S [115,101,101,110]
 qs:=S [82,117,110,99,111,114,101,66,105,110,100,101,114]
 zJ:=S [98,105,110,100]
 DC:=S [97,115,115,105,103,110]
 DD:=S [115,116,97,116,101]
 Ur:=S [82,117,110,99,111,114,101,66,105,110,100,101,114,46,98,105,110,100]
 Us:=S [82,117,110,99,111,114,101,66,105,110,100,101,114,46,97,115,115,105,103,110]
 qt:=S [77,97,107,101,114]
 DE:=S [109,97,107,101]
 Kl:=S [102]
 DF:=S [97,114,103,115]
 Ut:=S [77,97,107,101,114,46,109,97,107,101]
 Uu:=S [77,97,107,101,114,46,117,112]
 qv:=S [72,111,105,115,116,101,114]
 oU:=S [108,97,121]
 DG:=S [98,111,100,121]
 Uv:=S [72,111,105,115,116,101,114,46,108,97,121]
 tW:=S [77,97,99,104,105,110,101]
 DH:=S [99,97,108,108]
 wQ:=S [116,104,114,111,119]
 wR:=S [102,97,117,108,116]
 Km:=S [98,111,117,110,100]
 Kn:=S [77,97,99,104,105,110,101,46,95,95,105,110,105,116,95,95]
 Ko:=S [77,97,99,104,105,110,101,46,118,97,108,117,101]
 Kp:=S [77,97,99,104,105,110,101,46,114,117,110]
 DI:=S [116,104,105,115]
 Uw:=S [77,97,99,104,105,110,101,46,99,97,108,108]
 Kq:=S [77,97,99,104,105,110,101,46,116,104,114,111,119]
 Kr:=S [77,97,99,104,105,110,101,46,102,97,117,108,116]
 Ks:=S [77,97,99,104,105,110,101,46,108,111,111,107]
 Kt:=S [98,105,110,100,101,114]
 Ku:=S [99,108,97,115,115,95,112,114,111,116,111,115]
 tX:=S [100,101,101,112]
 zK:=S [101,110,118]
 Kv:=S [101,120,112,114,115]
 Kw:=S [103,108,111,98,97,108,115]
 Kx:=S [104,111,105,115,116,101,114]
 Ky:=S [109,97,107,101,114]
 Kz:=S [109,111,115,116]
 KA:=S [109,111,115,116,95,100,101,101,112]
 KC:=S [112,114,111,116,111,115]
 KD:=S [114,97,105,115,101,100]
 KG:=S [115,116,101,112,115]
 wU:=S [115,116,109,116,115]
 DJ:=S [116,111,108,100]
 KH:=S [119,97,116,99,104]
 tY:=S [99,111,117,110,116,95,115,116,101,112]
 wV:=S [114,117,108,101]
 tZ:=S [114,117,110,99,111,114,101,95,118,97,108,117,101,95,111,102]
 kg:=S [100,111,110,101]
 t8:=S [114,117,110,95,110,111,100,101]
 t_:=S [116,101,108,108,95,102,97,117,108,116]
 aS:=S [107,105,110,100,107,101,101,112,46,114,117,110,101,120,112,114]
 nG:=S [80,108,97,99,101]
 oV:=S [114,101,97,100]
 ua:=S [119,114,105,116,101]
 zL:=S [114,101,109,111,118,101]
 Ux:=S [80,108,97,99,101,46,114,101,97,100]
 Uy:=S [80,108,97,99,101,46,119,114,105,116,101]
 Uz:=S [80,108,97,99,101,46,114,101,109,111,118,101]
 lS:=S [80,108,97,99,101,82,117,108,101]
 UA:=S [80,108,97,99,101,82,117,108,101,46,112,108,97,99,101]
 KI:=S [80,108,97,99,101,82,117,108,101,46,118,97,108,117,101]
 qw:=S [84,101,120,116,82,117,108,101]
 KJ:=S [84,101,120,116,82,117,108,101,46,118,97,108,117,101]
 qx:=S [82,117,110,101,120,112,114,78,117,109,82,117,108,101]
 KN:=S [82,117,110,101,120,112,114,78,117,109,82,117,108,101,46,118,97,108,117,101]
 qy:=S [82,117,110,101,120,112,114,87,111,114,100,82,117,108,101]
 KO:=S [82,117,110,101,120,112,114,87,111,114,100,82,117,108,101,46,118,97,108,117,101]
 qz:=S [82,117,110,101,120,112,114,80,97,114,101,110,82,117,108,101]
 UC:=S [82,117,110,101,120,112,114,80,97,114,101,110,82,117,108,101,46,118,97,108,117,101]
 qA:=S [102,105,110,100,95,99,101,108,108]
 uc:=S [99,101,108,108]
 qB:=S [114,101,97,100,95,110,97,109,101]
 zM:=S [115,101,116,95,110,97,109,101]
 qC:=S [78,97,109,101,80,108,97,99,101]
 KP:=S [78,97,109,101,80,108,97,99,101,46,95,95,105,110,105,116,95,95]
 KQ:=S [78,97,109,101,80,108,97,99,101,46,114,101,97,100]
 UD:=S [78,97,109,101,80,108,97,99,101,46,119,114,105,116,101]
 ud:=S [82,117,110,101,120,112,114,78,97,109,101,82,117,108,101]
 DK:=S [115,116,97,110,100,115]
 KR:=S [82,117,110,101,120,112,114,78,97,109,101,82,117,108,101,46,112,108,97,99,101]
 UE:=S [82,117,110,101,120,112,114,78,97,109,101,82,117,108,101,46,115,116,97,110,100,115]
 DL:=S [116,104,105,115,95,118,97,108,117,101]
 ue:=S [82,117,110,101,120,112,114,84,104,105,115,82,117,108,101]
 UG:=S [82,117,110,101,120,112,114,84,104,105,115,82,117,108,101,46,118,97,108,117,101]
 oW:=S [105,116,101,109,115,95,111,102]
 uf:=S [105,110,115,116,97,108,108,95,114,117,110,95,108,105,116,101,114,97,108,115]
 ug:=S [105,110,115,116,97,108,108,95,114,117,110,95,110,97,109,101,115]
 aF:=S [107,105,110,100,107,101,101,112,46,114,117,110,98,108,111,99,107]
 DM:=S [78,79,84,72,73,78,71]
 d_:=S [68,101,101,100]
 KS:=S [68,101,101,100,46,108,97,121]
 UH:=S [68,101,101,100,46,114,117,110]
 qD:=S [108,97,121,95,97,108,108]
 qE:=S [114,117,110,95,97,108,108]
 nH:=S [107,101,112,116]
 qF:=S [114,117,110,95,105,110,115,105,100,101]
 qG:=S [69,120,112,114,82,117,110]
 KU:=S [69,120,112,114,82,117,110,46,114,117,110]
 qH:=S [66,108,111,99,107,82,117,110]
 KW:=S [66,108,111,99,107,82,117,110,46,114,117,110]
 qI:=S [73,102,82,117,110]
 KX:=S [73,102,82,117,110,46,114,117,110]
 qJ:=S [105,110,115,116,97,108,108,95,114,117,110,95,112,108,97,105,110]
 qK:=S [100,101,97,100,95,110,97,109,101]
 qL:=S [108,105,118,101,95,110,97,109,101]
 zN:=S [118,97,114,95,99,101,108,108]
 wW:=S [115,101,116,95,118,97,114]
 DN:=S [119,111,114,100]
 qM:=S [112,117,116,95,116,97,114,103,101,116]
 qN:=S [115,116,97,116,101,95,111,102]
 DO:=S [111,110,101]
 qO:=S [108,97,121,95,108,101,120,105,99,97,108]
 qQ:=S [82,101,116,117,114,110,82,117,110]
 KY:=S [82,101,116,117,114,110,82,117,110,46,114,117,110]
 qR:=S [66,114,101,97,107,82,117,110]
 KZ:=S [66,114,101,97,107,82,117,110,46,114,117,110]
 qS:=S [67,111,110,116,105,110,117,101,82,117,110]
 K0:=S [67,111,110,116,105,110,117,101,82,117,110,46,114,117,110]
 qT:=S [84,104,114,111,119,82,117,110]
 K1:=S [84,104,114,111,119,82,117,110,46,114,117,110]
 jA:=S [76,111,111,112]
 fD:=S [116,117,114,110]
 K4:=S [76,111,111,112,46,114,117,110]
 jd:=S [108,97,98,101,108,115]
 UI:=S [76,111,111,112,46,116,117,114,110]
 uh:=S [114,117,110,95,108,97,98,101,108,108,101,100]
 ui:=S [76,97,98,101,108,82,117,110]
 K5:=S [76,97,98,101,108,82,117,110,46,114,117,110]
 uj:=S [105,110,115,116,97,108,108,95,114,117,110,95,106,117,109,112,115]
 uk:=S [97,102,116,101,114,95,114,111,117,110,100]
 aG:=S [107,105,110,100,107,101,101,112,46,114,117,110,115,116,109,116]
 um:=S [119,104,97,116]
 DP:=S [119,104,105,108,101,95,108,111,111,112]
 uo:=S [100,111,95,108,111,111,112]
 UJ:=S [102,114,101,115,104]
 DQ:=S [99,111,112,121,95,114,111,117,110,100]
 uq:=S [105,115,95,108,101,120,105,99,97,108]
 K6:=S [111,119,110]
 DR:=S [102,111,114,95,114,111,117,110,100,115]
 DS:=S [102,111,114,95,108,111,111,112]
 DT:=S [71,79,95,79,78]
 DU:=S [83,84,79,80]
 DV:=S [76,69,65,86,69]
 qU:=S [104,101,97,100,95,118,97,108,117,101]
 DW:=S [104,101,97,100]
 qV:=S [114,117,110,115,116,109,116,95,111,110,101,95,114,111,117,110,100]
 qW:=S [111,102,95,105,116,101,109,115]
 qX:=S [111,102,95,108,111,111,112]
 nI:=S [105,110,95,110,97,109,101,115]
 qY:=S [115,116,105,108,108,95,116,104,101,114,101]
 qZ:=S [105,110,95,108,111,111,112]
 q_:=S [87,104,105,108,101,82,117,110]
 UK:=S [87,104,105,108,101,82,117,110,46,116,117,114,110]
 rg:=S [68,111,82,117,110]
 K7:=S [68,111,82,117,110,46,116,117,114,110]
 rh:=S [70,111,114,82,117,110]
 UL:=S [70,111,114,82,117,110,46,116,117,114,110]
 rj:=S [79,102,82,117,110]
 K8:=S [79,102,82,117,110,46,116,117,114,110]
 rk:=S [73,110,82,117,110]
 K9:=S [73,110,82,117,110,46,116,117,114,110]
 rl:=S [105,110,115,116,97,108,108,95,114,117,110,95,108,111,111,112,115]
 DX:=S [99,97,115,101,115]
 K_:=S [100,101,102,97,117,108,116]
 K':=S [116,101,115,116]
 rm:=S [99,104,111,115,101,110,95,99,97,115,101]
 DY:=S [99,97,115,101]
 ur:=S [114,117,110,95,99,97,115,101,115]
 uu:=S [114,117,110,95,115,119,105,116,99,104]
 ux:=S [83,119,105,116,99,104,82,117,110]
 Lb:=S [83,119,105,116,99,104,82,117,110,46,114,117,110]
 uy:=S [105,110,115,116,97,108,108,95,114,117,110,95,115,119,105,116,99,104]
 uz:=S [114,117,110,95,99,97,116,99,104]
 zO:=S [116,104,114,111,119,110]
 uA:=S [114,117,110,115,116,109,116,95,103,117,97,114,100,101,100]
 DZ:=S [108,97,115,116]
 uB:=S [114,117,110,95,116,114,121]
 uC:=S [84,114,121,82,117,110]
 Ld:=S [84,114,121,82,117,110,46,114,117,110]
 uD:=S [105,110,115,116,97,108,108,95,114,117,110,95,116,114,121]
 nJ:=S [98,97,103]
 uE:=S [95,108,97,119,95,112,117,108,108]
 bQ:=S [108,97,119,95,112,99,48,49,49,53,95,48,49]
 D0:=S [119,111,114,100,115]
 zP:=S [112,105,99,107]
 uF:=S [95,108,97,119,95,101,120,112,114]
 jB:=S [95,108,97,119,95,98,108,111,99,107]
 uG:=S [95,108,97,119,95,106,117,109,112]
 wX:=S [108,111,111,112,115]
 wY:=S [109,97,114,107,115]
 uH:=S [95,108,97,119,95,115,116,109,116]
 Le:=S [108,97,112]
 uI:=S [95,108,97,119,95,116,114,121]
 Lg:=S [108,97,98,101,108]
 Lh:=S [111,118,101,114]
 Li:=S [109,111,114,101]
 Lj:=S [108,111,111,112]
 Lk:=S [114,111,119]
 uJ:=S [95,108,97,119,95,108,111,111,112]
 Ll:=S [112,114,111,98,101,115]
 Lm:=S [102,105,114,115,116]
 Ln:=S [112,114,111,98,101]
 uK:=S [95,108,97,119,95,115,119,105,116,99,104]
 nK:=S [119]
 Lo:=S [102,114,97,109,101]
 uL:=S [95,108,97,119,95,118,97,108,117,101]
 uM:=S [95,108,97,119,95,102,97,117,108,116]
 oX:=S [95,108,97,119,95,115,116,97,114,116]
 oY:=S [95,108,97,119,95,99,97,115,101,115]
 oZ:=S [95,108,97,119,95,101,110,116,101,114]
 uN:=S [116,111,112]
 uO:=S [95,108,97,119,95,114,111,117,110,100]
 uP:=S [115,105,103]
 uQ:=S [95,108,97,119,95,102,105,110,97,108,108,121]
 uR:=S [95,108,97,119,95,100,111,110,101]
 Lp:=S [112,97,114,116]
 uS:=S [95,108,97,119,95,99,97,117,103,104,116]
 Lr:=S [109,105,110,101]
 uT:=S [95,108,97,119,95,108,101,97,118,101]
 uU:=S [95,108,97,119,95,114,117,110]
 Ls:=S [115,99,111,112,101]
 Lu:=S [101,110,100]
 Lv:=S [119,104,111,108,101]
 uV:=S [95,108,97,119,95,114,101,97,108]
 Lw:=S [115,99,114,105,112,116]
 Ly:=S [114,111,97,100,115]
 Lz:=S [111,116,104,101,114]
 LA:=S [116,114,97,99,101]
 rn:=S [108,97,119]
 UM:=S [69,120,99,101,112,116,105,111,110]
open zzz
noncomputable def zzw:=0 where
 nl(l:List Str):List (Str×nM):=l.map λ x=>(x,.local)
 names:List (Str×nM):=nl [zs4,lQ,Cs,Ct,Cu,Cv,Cw,Cy,Cz,CA,CB,CC,CD,CF,CG,CH,CI,CJ,CK,CL,CM,CN,CO,CP,CQ,CS,CU,CV,CW,CX,CY,CZ,C1,C2,C3,C4,zs8,tI,tJ,tM,tN,tO,kb]++[(UM,.globalImplicit)]++nl [pZ,p_,tP,wJ,Dd,De,Df,Dg,Dh,Di,Dj,Dk,J7,Dl,Dm,Dn,J8,Dq,tQ,qa,qb,qc,qd,qe,qi,qj,qk,zH,ql,wM,qo,wN,wO,qp,qq,tS,tT,tU,tV,Ds,Kh,Dt,Du,Dv,Dw,Dx,Dy,Dz,DA,DB,kf,iu,nE,mD,qr,qs,qt,qv,tW,tY,tZ,t8,t_,nG,lS,qw,qx,qy,qz,qA,qB,zM,qC,ud,DL,ue,oW,uf,ug,DM,d_,qD,qE,qF,qG,qH,qI,qJ,qK,qL,zN,wW,qM,qN,qO,qQ,qR,qS,qT,jA,uh,ui,uj,DT,DU,DV,uk,DP,uo,DQ,uq,DR,DS,qU,qV,qW,qX,nI,qY,qZ,q_,rg,rh,rj,rk,rl,rm,ur,uu,ux,uy,uz,uA,uB,uC,uD,uE,uF,jB,uG,uH,uI,uJ,uK,uL,uM,oX,oY,oZ,uO,uQ,uR,uS,uT,uU,uV,rn]
 sc:Scope:=⟨.module,names,false,false,[]⟩
 env:Env:={scope:=sc,locals:=3,globals:=3,cells:=[],code:=.ref 13,frame:=some 14}
open zzw
noncomputable def fO(n:Nat)(Ta:aq->BT)(na ta a c:Nat)(pa:Pos)(Tb:aq->BT)(nb tb:Nat)(pb:Pos):Prop:=
 ∀(w:eZ) (p:Program) (b:List Stmt) (os:gE),
  PySem.W.Fast.tw10110043849684766642 zQ p w 11 (some (.ref 6)) 1 n ⟨Ta w.params,na,{},⟨[]⟩,{},ta,os⟩
   (piecesOf ((BD.drop a).take c) env (.body b env) pa [o6 ⟨0,0,0,0⟩])=some (.next,⟨Tb w.params,nb,{},⟨[]⟩,{},tb,os⟩,.body b env,pb)
noncomputable def zzv:=0 where
 w2(P:aq)(n:Nat)(a:Str)(m i:Nat)(l:List DictEntry):List DictEntry:=E P zs5 n (.str a m)::E P zs9 (n+4) (.int (.ofNat i) (n+3))::l
 dk(l:List DictEntry)(n:Nat):Obj:=⟨.type y7,none,.dict ⟨l⟩ n,⟨[]⟩⟩
 Er(P:aq)(k:Str)(t r:Nat):DictEntry:=E P k t (.ref r)
 w3(P:aq)(n:Nat)(a:Str)(m:Nat)(b:Str)(i:Nat)(l:List DictEntry):List DictEntry:=E P zs5 n (.str a m)::E P zs7 (n+2) (.str b (n+1))::E P zs9 (n+4) (.int (.ofNat i) (n+3))::l
 q1(a c:Str)(b d e f g:Nat):Obj:=⟨.type y1,none,.fields ⟨[.str a b,.str c (b+1),.str zs1 (b+2),.int (.ofNat d) 0,.int (.ofNat e) 0,.int 0 0,.int 0 0,.int 3 0,.ref f,.bool true,.int 181 0,.ref (f+1),.none,.ref (f+2),.ref (f+3),.ref (f+4),.int (.ofNat g) 0,.int (.ofNat d) 0,.str zs1 (g+1)]⟩,⟨[]⟩⟩
 q2(a c:Str)(b d e:Nat):Obj:=⟨.type y3,none,.func ⟨a,a,fA (st b),.stmts (fB (st b)),fS (st b),3,[],.none,.none,.none,.str c d,none,.ref e,.none,0⟩,⟨[]⟩⟩
 q3:Obj:=⟨.type y0,none,.seq ⟨[]⟩ 0,⟨[]⟩⟩
 q4(a:Str)(b:Nat):Obj:=⟨.none,none,.func ⟨a,a,fA (st b),.stmts (fB (st b)),fS (st b),0,[],.none,.none,.none,.none,none,.none,.none,0⟩,⟨[]⟩⟩
 q5(a:Str)(b c d:Nat):Obj:=⟨.type y1,none,.fields ⟨[.str a b,.str a (b+1),.str zs1 (b+2),.int (.ofNat c) 0,.int 0 0,.int 0 0,.int 0 0,.int 0 0,.ref d,.bool false,.int 181 0,.ref (d+1),.none,.none,.none,.none,.int (.ofNat (b+3)) 0,.int (.ofNat c) 0,.str zs1 (b+4)]⟩,⟨[]⟩⟩
 q6(a b e:Str)(c d f g:Nat):Obj:=⟨.type y3,none,.func ⟨a,b,fA (mt c d),.stmts (fB (mt c d)),fS (mt c d),3,[],.none,.none,.none,.str e f,none,.ref g,.none,0⟩,⟨[]⟩⟩
 q7(a b:Str)(c d:Nat):Obj:=⟨.none,none,.func ⟨a,b,fA (mt c d),.stmts (fB (mt c d)),fS (mt c d),0,[],.none,.none,.none,.none,none,.none,.none,0⟩,⟨[]⟩⟩
 q8(c:Str)(a b d:Nat):Obj:=⟨.type y2,none,.plain,⟨[some (.ref a),some (.ref 3),some (.ref b),none,some (.str c d),none,some (.ref 0)]⟩⟩
 q9:Obj:=⟨.none,none,.fields ⟨[]⟩,⟨[]⟩⟩
 cj(a c d:Str)(b:Nat):Obj:=⟨.type y0,none,.seq ⟨[.str a b,.str c (b+1),.str d (b+2)]⟩ 0,⟨[]⟩⟩
 cZ(a c d e:Str)(b:Nat):Obj:=⟨.type y0,none,.seq ⟨[.str a b,.str c (b+1),.str d (b+2),.str e (b+3)]⟩ 0,⟨[]⟩⟩
 bV(a:Nat):Obj:=⟨.type y14,none,.fields ⟨[.ref a,.ref a,.ref a]⟩,⟨[]⟩⟩
 kT(a:Str)(b c d e f g:Nat):Obj:=⟨.type y6,none,.cls ⟨a,[.ref b],[.ref c,.ref b,.ref d,.type y8],e,a,true,[],[],false,none,false⟩,⟨[some (.ref f),none,some (.str a g),some (.str a (g+8)),some (.builtin y9),some (.bool true)]⟩⟩
 bW(a:Nat):Obj:=⟨.type y4,none,.fields ⟨[.builtin y15,.ref a]⟩,⟨[]⟩⟩
 bX:Obj:=⟨.type y4,none,.fields ⟨[.builtin y5,.type y6]⟩,⟨[]⟩⟩
 cV(a b:Nat):Obj:=⟨.none,none,.fields ⟨[.int (.ofNat a) 0,.int 4 0,.ref b]⟩,⟨[]⟩⟩
 lT(a:Str)(b c d:Nat):Obj:=⟨.type y6,none,.cls ⟨a,[.type y8],[.ref b,.type y8],c,a,true,[],[],false,none,false⟩,⟨[none,none,some (.str a d),some (.str a (d+8)),some (.builtin y9),some (.bool true)]⟩⟩
 du(a c:Str)(b:Nat):Obj:=⟨.type y0,none,.seq ⟨[.str a b,.str c (b+1)]⟩ 0,⟨[]⟩⟩
 ro(a:Str)(b c d e:Nat):Obj:=⟨.type y1,none,.fields ⟨[.str a b,.str a (b+1),.str zs1 (b+2),.int (.ofNat c) 0,.int (.ofNat d) 0,.int 0 0,.int 0 0,.int 3 0,.ref e,.bool true,.int 181 0,.ref (e+1),.none,.none,.none,.ref (e+2),.int (.ofNat (b+3)) 0,.int (.ofNat c) 0,.str zs1 (b+4)]⟩,⟨[]⟩⟩
 o7(a:Str)(b c d e f:Nat):Obj:=⟨.type y6,none,.cls ⟨a,[.ref b],[.ref c,.ref b,.type y8],d,a,true,[],[],false,none,false⟩,⟨[some (.ref e),none,some (.str a f),some (.str a (f+8)),some (.builtin y9),some (.bool true)]⟩⟩
 je(a c d e f:Str)(b:Nat):Obj:=⟨.type y0,none,.seq ⟨[.str a b,.str c (b+1),.str d (b+2),.str e (b+3),.str f (b+4)]⟩ 0,⟨[]⟩⟩
 dF(a:Nat):Obj:=⟨.type y0,none,.seq ⟨[.ref a]⟩ 0,⟨[]⟩⟩
 wZ(a:Str)(b c d e:Nat):Obj:=⟨.type y6,none,.cls ⟨a,[.ref 1166],[.ref b,.ref 1166,.ref 930,.ref 423,.type y8],c,a,true,[],[],false,none,false⟩,⟨[some (.ref d),none,some (.str a e),some (.str a (e+8)),some (.builtin y9),some (.bool true)]⟩⟩
 jC(a b:Nat):Obj:=⟨.type y10,none,.fields ⟨[.str jb a,.ref b,.builtin y13,.none]⟩,⟨[]⟩⟩
 e_(a:Str)(b:Nat):Obj:=⟨.type y0,none,.seq ⟨[.str a b]⟩ 0,⟨[]⟩⟩
 kU(a b:Nat):Obj:=⟨.type y10,none,.fields ⟨[.str ka a,.ref b,.builtin y11,.builtin y12]⟩,⟨[]⟩⟩
 zR(a:Str)(b c d e:Nat):Obj:=⟨.type y6,none,.cls ⟨a,[.ref 95],[.ref b,.ref 95,.type y17,.type y18,.type y8],c,a,true,[],[],false,none,false⟩,⟨[some (.ref d),none,some (.str a e),some (.str a (e+8)),some (.builtin y19),some (.bool true)]⟩⟩
 rq(a c d e f g:Str)(b:Nat):Obj:=⟨.type y0,none,.seq ⟨[.str a b,.str c (b+1),.str d (b+2),.str e (b+3),.str f (b+4),.str g (b+5)]⟩ 0,⟨[]⟩⟩
 w7(a c d e f g h i:Str)(b:Nat):Obj:=⟨.type y0,none,.seq ⟨[.str a b,.str c (b+1),.str d (b+2),.str e (b+3),.str f (b+4),.str g (b+5),.str h (b+6),.str i (b+7)]⟩ 0,⟨[]⟩⟩
 w8(a:Str)(b c:Nat):Obj:=⟨.type y3,none,.func ⟨bo,a,fA (mt b 0),.stmts (fB (mt b 0)),fS (mt b 0),3,[],.ref c,.none,.none,.str ir 354,none,.ref (c+6),.none,0⟩,⟨[]⟩⟩
 rz(a b:Nat):Obj:=⟨.none,none,.fields ⟨[.int (.ofNat a) 0,.int 4 0,.ref b,.int (.ofNat (a+3)) 0,.int 4 0,.ref (b+7)]⟩,⟨[]⟩⟩
 qg(a:Str)(f t l k r u:Nat)(c:Str)(d:Nat)(s:List Obj):List Obj:=q3::q4 a f::q1 a a t l k r u::q2 a c f d (r+5)::s
 qm(a b:Str)(c d t l k r u:Nat)(e:Str)(f:Nat)(s:List Obj):List Obj:=q3::q7 a b c d::q1 a b t l k r u::q6 a b e c d f (r+5)::s
 qf(a:Str)(f t l k r u:Nat)(c:Str)(d:Nat)(s:List Obj):List Obj:=q3::q4 a f::q1 a a t l k r u::q2 a c f d (r+5)::q3::q9::s
open zzv
noncomputable def UN(P:aq):List Obj:=[boot_o_0 P,
 boot_o_1 P,
 boot_o_2 P,
 boot_o_3 P,
 boot_o_4 P,
 boot_o_5 P,
 boot_o_6 P,
 boot_o_7 P,
 boot_o_8 P,
 boot_o_9 P,
 boot_o_10 P,q3,q9,q5 zs0 182 1 11,q8 zs2 13 3 164]
noncomputable def zz0:=0 where
 T0(P:aq):BT:=dE .nil 0 (UN P)
 jf(P:aq):List Obj:=q3::q9::e_ zs3 190::qg zs4 0 187 1 1 15 191 zs2 164 (q3::bX::dk (w3 P 271 zs6 194 zs8 39 [Er P bo 287 35,Er P ax 294 36]) 5::q3::cV 41 34::q5 zs8 266 39 25::q8 zs6 27 24 194::q3::q9::rq aR pW tH pX Cp pY 279::qm bo JV 36 0 276 41 6 29 285 zs6 194 (rq tH pY Cp pX pW gD 288::dk (w2 P 271 zs6 194 39 [Er P bo 287 35,Er P ax 294 36,Er P ka 296 39,Er P jb 298 40,E P bU 299 .none]) 4::lT zs8 38 37 264::kU 295 38::jC 297 38::bV 38::bW 38::q3::q9::cj pW tH pY 305::qf tI 37 302 48 3 43 308 zs6 194 (cZ pW tH pX pY 314::qf tJ 38 311 50 4 50 318 zs6 194 (rq tK zE Cq aW pY JW 324::qf tM 39 321 52 1 57 330 zs6 194 (cZ tK Cr kR aW 336::qf tN 40 333 65 2 64 340 zs6 194 (je wH zE Cq aW pY 346::qg tO 41 343 71 1 71 351 zs6 194 ([])))))))
 gC(P:aq):List DictEntry:=[E P bU 166 .none,E P Ug 167 .none,E P Uh 168 (.builtin y16),E P Ui 169 .none,Er P Uj 170 6,Er P Uk 171 4,E P Ul 173 (.str zs1 172),E P Um 174 .none,Er P zs4 193 21,E P Cs 197 (.int 1 196),E P Ct 199 (.int 2 198),E P Cu 201 (.int 4 200),E P Cv 203 (.int 5 202),E P Cw 205 (.int 6 204),E P Cy 207 (.int 7 206),E P Cz 209 (.int 8 208),E P CA 211 (.int 9 210),E P CB 213 (.int 18 212),E P CC 215 (.int 32 214),E P CD 217 (.int 33 216),E P CF 219 (.int 34 218),E P CG 221 (.int 35 220),E P CH 223 (.int 36 222),E P CI 225 (.int 41 224),E P CJ 227 (.int 42 226),E P CK 229 (.int 43 228),E P CL 231 (.int 44 230),E P CM 233 (.int 45 232),E P CN 235 (.int 46 234),E P CO 237 (.int 47 236),E P CP 239 (.int 48 238),E P CQ 241 (.int 49 240),E P CS 243 (.int 50 242),E P CU 245 (.int 51 244),E P CV 247 (.int 52 246),E P CW 249 (.int 53 248),E P CX 251 (.int 54 250),E P CY 253 (.int 55 252),E P CZ 255 (.int 56 254),E P C1 257 (.int 57 256),E P C2 259 (.int 58 258),E P C3 261 (.int 59 260),E P C4 263 (.int 60 262),Er P zs8 301 38,Er P tI 310 49,Er P tJ 320 56,Er P tM 332 63,Er P tN 342 70,Er P tO 353 77]
 LB(P:aq):List DictEntry:=gC P++[Er P kb 386 95,Er P pZ 413 116,Er P p_ 440 136,Er P tP 467 156,Er P wJ 494 176,E P Dd 498 (.int 0 497),E P De 500 (.int 1 499),E P Df 502 (.int 2 501),E P Dg 504 (.int 3 503),E P Dh 506 (.int 4 505),E P Di 508 (.int 5 507),E P Dj 510 (.int 6 509),E P Dk 512 (.int 1 511),E P J7 514 (.int 2 513),E P Dl 516 (.int 3 515),E P Dm 518 (.int 3 517),E P Dn 520 (.int 9007199254740991 519),E P J8 522 (.int 4096 521),E P Dq 524 (.int 4294967294 523),Er P tQ 566 195]
 LC(P:aq):List DictEntry:=LB P++[Er P qa 595 216,Er P qb 625 237,Er P qc 631 248,Er P qd 638 255,Er P qe 645 262,Er P qi 655 269,Er P qj 664 276,Er P qk 673 283,Er P zH 682 290,Er P ql 690 297,Er P wM 700 304,Er P qo 714 311,Er P wN 722 318,Er P wO 731 325,Er P qp 743 332,Er P qq 753 339,Er P tS 759 344,Er P tT 766 351,Er P tU 774 358,Er P tV 784 365,E P Ds 788 (.int 4 787),E P Kh 790 (.int 5 789),E P Dt 792 (.int 7 791),E P Du 794 (.int 0 793),E P Dv 796 (.int 1 795),E P Dw 798 (.int 2 797),E P Dx 800 (.int 3 799),E P Dy 802 (.int 0 801),E P Dz 804 (.int 1 803),E P DA 806 (.int 2 805),E P DB 808 (.int 44 807),Er P kf 837 382,Er P iu 866 402,Er P nE 895 423]
 LD(P:aq):List DictEntry:=LC P++[Er P mD 925 444,Er P qr 959 472,Er P qs 1000 498,Er P qt 1041 526,Er P qv 1070 547,Er P tW 1172 610,Er P tY 1179 621,Er P tZ 1189 628,Er P t8 1199 635,Er P t_ 1209 642,Er P nG 1259 673]
 LF(P:aq):List DictEntry:=LD P++[Er P lS 1293 701,Er P qw 1318 720,Er P qx 1343 739,Er P qy 1368 758,Er P qz 1393 777,Er P qA 1402 786,Er P qB 1412 793,Er P zM 1423 800,Er P qC 1467 831,Er P ud 1501 857,Er P DL 1509 866,Er P ue 1534 883,Er P oW 1540 890,Er P uf 1548 897,Er P ug 1555 904,Er P DM 1561 906]
 LG(P:aq):List DictEntry:=LF P++[Er P d_ 1595 930,Er P qD 1605 939,Er P qE 1615 946,Er P qF 1624 953,Er P qG 1649 970,Er P qH 1674 989,Er P qI 1699 1008,Er P qJ 1706 1017,Er P qK 1714 1024,Er P qL 1725 1031,Er P zN 1733 1038,Er P wW 1743 1045,Er P qM 1753 1052,Er P qN 1760 1059,Er P qO 1770 1066,Er P qQ 1795 1083,Er P qR 1820 1102,Er P qS 1845 1121,Er P qT 1870 1140,Er P jA 1905 1166,Er P uh 1916 1175,Er P ui 1941 1192,Er P uj 1948 1201,E P DT 1952 (.int 0 1951),E P DU 1954 (.int 1 1953),E P DV 1956 (.int 2 1955),Er P uk 1964 1208,Er P DP 1975 1215,Er P uo 1986 1222,Er P DQ 1996 1229,Er P uq 2003 1236,Er P DR 2015 1243,Er P DS 2026 1250]
 LH(P:aq):List DictEntry:=LG P++[Er P qU 2035 1257,Er P qV 2046 1264,Er P qW 2055 1271,Er P qX 2069 1278,Er P nI 2075 1283,Er P qY 2084 1290,Er P qZ 2098 1297,Er P q_ 2124 1314,Er P rg 2150 1333,Er P rh 2176 1352,Er P rj 2202 1371,Er P rk 2228 1390,Er P rl 2235 1399,Er P rm 2247 1406,Er P ur 2259 1413,Er P uu 2270 1420,Er P ux 2295 1437,Er P uy 2302 1446,Er P uz 2312 1453,Er P uA 2322 1460,Er P uB 2333 1467,Er P uC 2358 1484,Er P uD 2365 1493,Er P uE 2375 1500,Er P uF 2384 1507,Er P jB 2390 1512,Er P uG 2399 1519]
 UO(P:aq):List DictEntry:=LH P++[Er P uH 2412 1526,Er P uI 2425 1533,Er P uJ 2443 1540,Er P uK 2457 1547,Er P uL 2466 1554,Er P uM 2474 1561,Er P oX 2480 1566,Er P oY 2486 1571,Er P oZ 2492 1576,Er P uO 2500 1583,Er P uQ 2510 1590,Er P uR 2518 1597,Er P uS 2527 1604,Er P uT 2538 1611,Er P uU 2549 1618,Er P uV 2563 1625,Er P rn 2579 1632]
 LI(P:aq):List DictEntry:=(E P lQ 165 (.str ir 354)::gC P)
 T1(P:aq):BT:=(((dE (T0 P) 15 (jf P)).set 3 λ _=>dk (LI P) 50).set 12 λ _=>⟨.none,none,.fields ⟨[.int 1 0,.int 0 0,.ref 20,.int 39 0,.int 0 0,.ref 27,.int 48 0,.int 0 0,.ref 48,.int 50 0,.int 0 0,.ref 55,.int 52 0,.int 0 0,.ref 62,.int 65 0,.int 0 0,.ref 69,.int 71 0,.int 0 0,.ref 76]⟩,⟨[]⟩⟩)
 uW(P:aq):List Obj:=[⟨.type y0,none,.seq ⟨[.type y17]⟩ 0,⟨[]⟩⟩,bX,dk (w3 P 363 ir 354 kb 90 [Er P bo 376 92,Er P ax 379 93]) 5,q3,cV 92 91,q5 kb 358 90 81,q8 ir 83 80 354,e_ wI 368,q3,q9,du aR jc 372,q3,q7 bo C5 43 0,q1 bo C5 369 92 2 86 374,w8 C5 43 85,du kR jc 377,dk (w2 P 363 ir 354 90 [Er P bo 376 92,Er P ax 379 93,Er P jb 381 96,E P bU 382 .none]) 3,⟨.type y6,none,.cls ⟨kb,[.type y17],[.ref 95,.type y17,.type y18,.type y8],94,kb,true,[],[.ref 116,.ref 136],false,none,false⟩,⟨[some (.ref 78),none,some (.str kb 356),some (.str kb 364),some (.builtin y19),some (.bool true)]⟩⟩,jC 380 95,bV 95,bW 95,dF 95,bX,dk (w3 P 394 ir 354 pZ 95 [Er P bo 407 113,Er P ax 410 114]) 5,q3,cV 97 112,q5 pZ 389 95 102,q8 ir 104 101 354,e_ wI 399,q3,q9,du aR jc 403,q3,q7 bo C6 44 0,q1 bo C6 400 97 2 107 405,w8 C6 44 106,du kR jc 408,dk (w2 P 394 ir 354 95 [Er P bo 407 113,Er P ax 410 114,E P bU 411 .none]) 2,zR pZ 116 115 99 387,bV 116,bW 116,dF 95,bX,dk (w3 P 421 ir 354 p_ 100 [Er P bo 434 133,Er P ax 437 134]) 5,q3,cV 102 132,q5 p_ 416 100 122,q8 ir 124 121 354,e_ wI 426,q3,q9,du aR jc 430,q3,q7 bo C7 45 0,q1 bo C7 427 102 2 127 432,w8 C7 45 126,du kR jc 435,dk (w2 P 421 ir 354 100 [Er P bo 434 133,Er P ax 437 134,E P bU 438 .none]) 2,zR p_ 136 135 119 414,bV 136,bW 136]
 UP(P:aq):List DictEntry:=LI P++[Er P kb 386 95,Er P pZ 413 116,Er P p_ 440 136]
 T2(P:aq):BT:=((((dE (T1 P) 78 (uW P)).set 2 λ _=>⟨.none,none,.dict ⟨[E P JX 383 (.int 95 0),E P JY 384 (.int 1 0)]⟩ 2,⟨[]⟩⟩).set 3 λ _=>dk (UP P) 53).set 12 λ _=>⟨.none,none,.fields ⟨[.int 1 0,.int 0 0,.ref 20,.int 39 0,.int 0 0,.ref 27,.int 48 0,.int 0 0,.ref 48,.int 50 0,.int 0 0,.ref 55,.int 52 0,.int 0 0,.ref 62,.int 65 0,.int 0 0,.ref 69,.int 71 0,.int 0 0,.ref 76,.int 90 0,.int 0 0,.ref 83,.int 95 0,.int 0 0,.ref 104,.int 100 0,.int 0 0,.ref 124]⟩,⟨[]⟩⟩)
 nO(P:aq):List Obj:=dF 95::bX::dk (w3 P 448 ir 354 tP 105 [Er P bo 461 153,Er P ax 464 154]) 5::q3::cV 107 152::q5 tP 443 105 142::q8 ir 144 141 354::e_ wI 453::q3::q9::du aR jc 457::q3::q7 bo C8 46 0::q1 bo C8 454 107 2 147 459::w8 C8 46 146::du kR jc 462::dk (w2 P 448 ir 354 105 [Er P bo 461 153,Er P ax 464 154,E P bU 465 .none]) 2::zR tP 156 155 139 441::bV 156::bW 156::dF 95::bX::dk (w3 P 475 ir 354 wJ 110 [Er P bo 488 173,Er P ax 491 174]) 5::q3::cV 112 172::q5 wJ 470 110 162::q8 ir 164 161 354::e_ wI 480::q3::q9::du aR jc 484::q3::q7 bo C9 47 0::q1 bo C9 481 112 2 167 486::w8 C9 47 166::du kR jc 489::dk (w2 P 475 ir 354 110 [Er P bo 488 173,Er P ax 491 174,E P bU 492 .none]) 2::zR wJ 176 175 159 468::bV 176::bW 176::q3::bX::dk (w3 P 532 bL 495 tQ 130 [Er P bo 546 192,Er P ax 559 193]) 5::q3::cV 132 191::q5 tQ 527 130 182::q8 bL 184 181 495::q3::q9::cZ aR kR zF wK 540::qm bo JZ 63 0 537 132 4 186 544 bL 495 ([⟨.type y0,none,.seq ⟨[.str zG 547,.str J0 548,.str J1 549,.str C_ 550,.str J2 551,.str J3 552,.str J4 553,.str kR 554,.str wK 555,.str J5 556,.str J6 557,.str zF 558]⟩ 0,⟨[]⟩⟩,dk (w2 P 532 bL 495 130 [Er P bo 546 192,Er P ax 559 193,Er P ka 561 196,Er P jb 563 197,E P bU 564 .none]) 4,lT tQ 195 194 525,kU 560 195,jC 562 195,bV 195,bW 195])
 LJ(P:aq):Obj:=⟨.type y6,none,.cls ⟨kb,[.type y17],[.ref 95,.type y17,.type y18,.type y8],94,kb,true,[],[.ref 116,.ref 136,.ref 156,.ref 176],false,none,false⟩,⟨[some (.ref 78),none,some (.str kb 356),some (.str kb 364),some (.builtin y19),some (.bool true)]⟩⟩
 LL(P:aq):List DictEntry:=(E P lQ 165 (.str bL 495)::(LB P))
 LM:List Value:=tr [(1,20),(39,27),(48,48),(50,55),(52,62),(65,69),(71,76),(90,83),(95,104),(100,124),(105,144),(110,164),(130,184)]
 T3(P:aq):BT:=((((dE (T2 P) 139 (nO P)).set 3 λ _=>dk (LL P) 70).set 12 λ _=>⟨.none,none,.fields ⟨LM⟩,⟨[]⟩⟩).set 95 λ _=>LJ P)
 dM(P:aq):List Obj:=q3::bX::dk (w3 P 574 bL 495 qa 145 [Er P bo 585 213,Er P ax 588 214]) 5::q3::cV 147 212::q5 qa 569 145 203::q8 bL 205 202 495::q3::q9::e_ aR 582::qm bo J9 64 0 579 147 1 207 583 bL 495 (du J_ J' 586::dk (w2 P 574 bL 495 145 [Er P bo 585 213,Er P ax 588 214,Er P ka 590 217,Er P jb 592 218,E P bU 593 .none]) 4::lT qa 216 215 567::kU 589 216::jC 591 216::bV 216::bW 216::q3::bX::dk (w3 P 603 bL 495 qb 150 [Er P bo 615 234,Er P ax 618 235]) 5::q3::cV 152 233::q5 qb 598 150 224::q8 bL 226 223 495::q3::q9::du aR tR 611::qm bo Ka 65 0 608 152 2 228 613 bL 495 (du wL tR 616::dk (w2 P 603 bL 495 150 [Er P bo 615 234,Er P ax 618 235,Er P ka 620 238,Er P jb 622 239,E P bU 623 .none]) 4::lT qb 237 236 596::kU 619 237::jC 621 237::bV 237::bW 237::q3::q9::q3::qf qc 66 626 155 0 242 629 bL 495 (e_ jc 635::qf qd 67 632 157 1 249 636 bL 495 (e_ Kb 642::qf qe 68 639 159 1 256 643 bL 495 (cZ qh zF wK lR 649::qf qi 69 646 163 3 263 653 bL 495 (cj fC Kc iR 659::qf qj 70 656 167 1 270 662 bL 495 (cj jc fC iR 668::qf qk 71 665 177 2 277 671 bL 495 (cj lR fC iR 677::qf zH 72 674 184 2 284 680 bL 495 (du lR fC 686::qf ql 73 683 191 2 291 688 bL 495 (cZ lR fC Dr cg 694::qf wM 74 691 193 2 298 698 bL 495 (w7 qh gn fC Dr cg kR lR Kd 704::qf qo 75 701 205 3 305 712 bL 495 (du lR gn 718::qf wN 76 715 219 2 312 720 bL 495 (cj lR iR gn 726::qf wO 77 723 226 3 319 729 bL 495 (rq qh kR fC gn lR iR 735::qf qp 78 732 235 4 326 741 bL 495 (cZ qh kR fC lR 747::qg qq 79 744 252 3 333 751 bL 495 ([]))))))))))))))))
 UQ(P:aq):List DictEntry:=LL P++[Er P qa 595 216,Er P qb 625 237,Er P qc 631 248,Er P qd 638 255,Er P qe 645 262,Er P qi 655 269,Er P qj 664 276,Er P qk 673 283,Er P zH 682 290,Er P ql 690 297,Er P wM 700 304,Er P qo 714 311,Er P wN 722 318,Er P wO 731 325,Er P qp 743 332,Er P qq 753 339]
 LN:List Value:=LM++tr [(145,205),(150,226),(155,247),(157,254),(159,261),(163,268),(167,275),(177,282),(184,289),(191,296),(193,303),(205,310),(219,317),(226,324),(235,331),(252,338)]
 T4(P:aq):BT:=(((dE (T3 P) 200 (dM P)).set 3 λ _=>dk (UQ P) 86).set 12 λ _=>⟨.none,none,.fields ⟨LN⟩,⟨[]⟩⟩)
 kh(P:aq):List Obj:=q3::q9::q4 tS 80::ro tS 754 256 2 340::q2 tS bL 80 495 343::q3::q9::e_ gn 763::qf tT 81 760 273 1 345 764 bL 495 (du tH Ke 770::qf tU 82 767 279 2 352 772 bL 495 (cZ qh wK Kf lR 778::qg tV 83 775 283 3 359 782 bL 495 (⟨.type y0,none,.seq ⟨[.type y17]⟩ 0,⟨[]⟩⟩::bX::dk (w3 P 816 aQ 785 kf 300 [Er P bo 828 379,Er P ax 830 380]) 5::q3::cV 302 378::q5 kf 811 300 369::q8 aQ 371 368 785::q3::q9::du aR cg 824::qm bo Kg 96 0 821 302 2 373 826 aQ 785 (e_ cg 829::dk (w2 P 816 aQ 785 300 [Er P bo 828 379,Er P ax 830 380,Er P jb 832 383,E P bU 833 .none]) 3::⟨.type y6,none,.cls ⟨kf,[.type y17],[.ref 382,.type y17,.type y18,.type y8],381,kf,true,[],[],false,none,false⟩,⟨[some (.ref 366),none,some (.str kf 809),some (.str kf 817),some (.builtin y19),some (.bool true)]⟩⟩::jC 831 382::bV 382::bW 382::q3::bX::dk (w3 P 845 aQ 785 iu 304 [Er P cg 858 399,Er P ax 859 400]) 5::q3::cV 306 398::q5 iu 840 304 389::q8 aQ 391 388 785::q3::q9::cj aR ay aW 853::qm cg Un 97 0 850 306 3 393 856 aQ 785 (q3::dk (w2 P 845 aQ 785 304 [Er P cg 858 399,Er P ax 859 400,Er P ka 861 403,Er P jb 863 404,E P bU 864 .none]) 4::lT iu 402 401 838::kU 860 402::jC 862 402::bV 402::bW 402::q3::bX::dk (w3 P 874 aQ 785 nE 308 [Er P ba 887 420,Er P ax 888 421]) 5::q3::cV 310 419::q5 nE 869 308 410::q8 aQ 412 409 785::q3::q9::cj aR ay aW 882::qm ba Uo 98 0 879 310 3 414 885 aQ 785 ([q3,dk (w2 P 874 aQ 785 308 [Er P ba 887 420,Er P ax 888 421,Er P ka 890 424,Er P jb 892 425,E P bU 893 .none]) 4,lT nE 423 422 867,kU 889 423,jC 891 423,bV 423,bW 423]))))))
 D2(P:aq):Obj:=⟨.none,none,.dict ⟨[E P JX 383 (.int 95 0),E P JY 384 (.int 2 0),E P Up 834 (.int 382 0)]⟩ 3,⟨[]⟩⟩
 LO(P:aq):List DictEntry:=(E P lQ 165 (.str aQ 785)::(LC P))
 LP:List Value:=LN++tr [(256,343),(273,350),(279,357),(283,364),(300,371),(304,391),(308,412)]
 T5(P:aq):BT:=((((dE (T4 P) 340 (kh P)).set 2 λ _=>D2 P).set 3 λ _=>dk (LO P) 104).set 12 λ _=>⟨.none,none,.fields ⟨LP⟩,⟨[]⟩⟩)
 lU(P:aq):List Obj:=q3::bX::dk (w3 P 903 aQ 785 mD 312 [Er P kS 917 441,Er P ax 918 442]) 5::q3::cV 314 440::q5 mD 898 312 431::q8 aQ 433 430 785::q3::q9::cZ aR ay gD cg 911::qm kS Uq 99 0 908 314 4 435 915 aQ 785 (q3::dk (w2 P 903 aQ 785 312 [Er P kS 917 441,Er P ax 918 442,Er P ka 920 445,Er P jb 922 446,E P bU 923 .none]) 4::⟨.type y6,none,.cls ⟨mD,[.type y8],[.ref 444,.type y8],443,mD,true,[],[.ref 472],false,none,false⟩,⟨[none,none,some (.str mD 896),some (.str mD 904),some (.builtin y9),some (.bool true)]⟩⟩::kU 919 444::jC 921 444::bV 444::bW 444::dF 444::bX::dk (w3 P 933 aQ 785 qr 316 [Er P bo 944 462,Er P kS 954 469,Er P ax 956 470]) 6::q3::rz 318 461::q5 qr 928 316 452::q8 aQ 454 451 785::q3::q9::e_ aR 941::qm bo Ki 100 0 938 318 1 456 942 aQ 785 (q3::q9::cZ aR ay gD cg 948::qm kS Kj 100 1 945 321 4 463 952 aQ 785 (e_ Kk 955::dk (w2 P 933 aQ 785 316 [Er P bo 944 462,Er P kS 954 469,Er P ax 956 470,E P bU 957 .none]) 2::o7 qr 444 472 471 449 926::bV 472::bW 472::q3::bX::dk (w3 P 967 aQ 785 qs 323 [Er P zJ 982 488,Er P DC 992 495,Er P ax 993 496]) 6::q3::rz 325 487::q5 qs 962 323 478::q8 aQ 480 477 785::q3::q9::je aR ay wH cg DD 975::qm zJ Ur 101 0 972 325 5 482 980 aQ 785 (q3::q9::cZ aR ay wH cg 986::qm DC Us 101 1 983 328 4 489 990 aQ 785 ([q3,dk (w2 P 967 aQ 785 323 [Er P zJ 982 488,Er P DC 992 495,Er P ax 993 496,Er P ka 995 499,Er P jb 997 500,E P bU 998 .none]) 4,lT qs 498 497 960,kU 994 498,jC 996 498,bV 498,bW 498])))))
 LQ(P:aq):List DictEntry:=LO P++[Er P mD 925 444,Er P qr 959 472,Er P qs 1000 498]
 LU:List Value:=LP++tr [(312,433),(316,454),(323,480)]
 T6(P:aq):BT:=(((dE (T5 P) 428 (lU P)).set 3 λ _=>dk (LQ P) 107).set 12 λ _=>⟨.none,none,.fields ⟨LU⟩,⟨[]⟩⟩)
 w9(P:aq):List Obj:=q3::bX::dk (w3 P 1008 aQ 785 qt 330 [Er P DE 1023 516,Er P tR 1033 523,Er P ax 1034 524]) 6::q3::rz 332 515::q5 qt 1003 330 506::q8 aQ 508 505 785::q3::q9::je aR ay Kl DF gD 1016::qm DE Ut 102 0 1013 332 5 510 1021 aQ 785 (q3::q9::cZ aR ay DF gD 1027::qm tR Uu 102 1 1024 335 4 517 1031 aQ 785 (q3::dk (w2 P 1008 aQ 785 330 [Er P DE 1023 516,Er P tR 1033 523,Er P ax 1034 524,Er P ka 1036 527,Er P jb 1038 528,E P bU 1039 .none]) 4::lT qt 526 525 1001::kU 1035 526::jC 1037 526::bV 526::bW 526::q3::bX::dk (w3 P 1049 aQ 785 qv 337 [Er P oU 1062 544,Er P ax 1063 545]) 5::q3::cV 339 543::q5 qv 1044 337 534::q8 aQ 536 533 785::q3::q9::cj aR ay DG 1057::qm oU Uv 103 0 1054 339 3 538 1060 aQ 785 ([q3,dk (w2 P 1049 aQ 785 337 [Er P oU 1062 544,Er P ax 1063 545,Er P ka 1065 548,Er P jb 1067 549,E P bU 1068 .none]) 4,lT qv 547 546 1042,kU 1064 547,jC 1066 547,bV 547,bW 547])))
 UR(P:aq):List DictEntry:=LQ P++[Er P qt 1041 526,Er P qv 1070 547]
 LV:List Value:=LU++tr [(330,508),(337,536)]
 T7(P:aq):BT:=(((dE (T6 P) 503 (w9 P)).set 3 λ _=>dk (UR P) 109).set 12 λ _=>⟨.none,none,.fields ⟨LV⟩,⟨[]⟩⟩)
 eO(P:aq):List Obj:=q3::bX::dk (w3 P 1078 aQ 785 tW 341 [Er P bo 1090 565,Er P cg 1098 572,Er P ba 1106 579,Er P DH 1117 586,Er P wQ 1125 593,Er P wR 1135 600,Er P kS 1144 607,Er P ax 1165 608]) 11::q3::⟨.none,none,.fields ⟨[.int 343 0,.int 4 0,.ref 564,.int 365 0,.int 4 0,.ref 571,.int 368 0,.int 4 0,.ref 578,.int 371 0,.int 4 0,.ref 585,.int 374 0,.int 4 0,.ref 592,.int 377 0,.int 4 0,.ref 599,.int 380 0,.int 4 0,.ref 606]⟩,⟨[]⟩⟩::q5 tW 1073 341 555::q8 aQ 557 554 785::q3::q9::du aR Km 1086::qm bo Kn 104 0 1083 343 2 559 1088 aQ 785 (q3::q9::du aR aW 1094::qm cg Ko 104 1 1091 365 2 566 1096 aQ 785 (q3::q9::du aR aW 1102::qm ba Kp 104 2 1099 368 2 573 1104 aQ 785 (q3::q9::je aR Kl DI DF gD 1110::qm DH Uw 104 3 1107 371 5 580 1115 aQ 785 (q3::q9::du aR cg 1121::qm wQ Kq 104 4 1118 374 2 587 1123 aQ 785 (q3::q9::cZ aR zG gD jc 1129::qm wR Kr 104 5 1126 377 4 594 1133 aQ 785 (q3::q9::cj aR gD cg 1139::qm kS Ks 104 6 1136 380 3 601 1142 aQ 785 (⟨.type y0,none,.seq ⟨[.str Kt 1145,.str Ku 1146,.str tX 1147,.str zK 1148,.str Kv 1149,.str Kw 1150,.str qh 1151,.str Kx 1152,.str C_ 1153,.str Ky 1154,.str Kz 1155,.str KA 1156,.str zE 1157,.str KC 1158,.str KD 1159,.str KG 1160,.str wU 1161,.str DI 1162,.str DJ 1163,.str KH 1164]⟩ 0,⟨[]⟩⟩::dk (w2 P 1078 aQ 785 341 [Er P bo 1090 565,Er P cg 1098 572,Er P ba 1106 579,Er P DH 1117 586,Er P wQ 1125 593,Er P wR 1135 600,Er P kS 1144 607,Er P ax 1165 608,Er P ka 1167 611,Er P jb 1169 612,E P bU 1170 .none]) 4::lT tW 610 609 1071::kU 1166 610::jC 1168 610::bV 610::bW 610::q3::q9::e_ ay 1176::qf tY 105 1173 382 1 615 1177 aQ 785 (cZ ay aW wV gn 1183::qf tZ 106 1180 388 2 622 1187 aQ 785 (cZ ay aW wV kg 1193::qf t8 107 1190 401 2 629 1197 aQ 785 (cZ ay zG gD jc 1203::qg t_ 108 1200 412 4 636 1207 aQ 785 (q3::bX::dk (w3 P 1219 aS 1210 nG 416 [Er P oV 1232 656,Er P ua 1242 663,Er P zL 1251 670,Er P ax 1252 671]) 7::q3::⟨.none,none,.fields ⟨[.int 418 0,.int 4 0,.ref 655,.int 421 0,.int 4 0,.ref 662,.int 424 0,.int 4 0,.ref 669]⟩,⟨[]⟩⟩::q5 nG 1214 416 646::q8 aS 648 645 1210::q3::q9::cj aR ay gD 1227::qm oV Ux 110 0 1224 418 3 650 1230 aS 1210 (q3::q9::cZ aR ay cg gD 1236::qm ua Uy 110 1 1233 421 4 657 1240 aS 1210 (q3::q9::cj aR ay gD 1246::qm zL Uz 110 2 1243 424 3 664 1249 aS 1210 ([q3,dk (w2 P 1219 aS 1210 416 [Er P oV 1232 656,Er P ua 1242 663,Er P zL 1251 670,Er P ax 1252 671,Er P ka 1254 674,Er P jb 1256 675,E P bU 1257 .none]) 4,lT nG 673 672 1212,kU 1253 673,jC 1255 673,bV 673,bW 673]))))))))))))))
 LW(P:aq):List DictEntry:=(E P lQ 165 (.str aS 1210)::(LD P))
 LX:List Value:=LV++tr [(341,557),(382,620),(388,627),(401,634),(412,641),(416,648)]
 T8(P:aq):BT:=(((dE (T7 P) 552 (eO P)).set 3 λ _=>dk (LW P) 115).set 12 λ _=>⟨.none,none,.fields ⟨LX⟩,⟨[]⟩⟩)
 kW(P:aq):List Obj:=dF 402::bX::dk (w3 P 1267 aS 1210 lS 426 [Er P iR 1280 691,Er P cg 1289 698,Er P ax 1290 699]) 6::q3::rz 428 690::q5 lS 1262 426 681::q8 aS 683 680 1210::q3::q9::cj aR ay aW 1275::qm iR UA 111 0 1272 428 3 685 1278 aS 1210 (q3::q9::cj aR ay aW 1284::qm cg KI 111 1 1281 431 3 692 1287 aS 1210 (q3::dk (w2 P 1267 aS 1210 426 [Er P iR 1280 691,Er P cg 1289 698,Er P ax 1290 699,E P bU 1291 .none]) 2::o7 lS 402 701 700 678 1260::bV 701::bW 701::dF 402::bX::dk (w3 P 1301 aS 1210 qw 433 [Er P cg 1314 717,Er P ax 1315 718]) 5::q3::cV 435 716::q5 qw 1296 433 707::q8 aS 709 706 1210::q3::q9::cj aR ay aW 1309::qm cg KJ 112 0 1306 435 3 711 1312 aS 1210 (q3::dk (w2 P 1301 aS 1210 433 [Er P cg 1314 717,Er P ax 1315 718,E P bU 1316 .none]) 2::o7 qw 402 720 719 704 1294::bV 720::bW 720::dF 402::bX::dk (w3 P 1326 aS 1210 qx 437 [Er P cg 1339 736,Er P ax 1340 737]) 5::q3::cV 439 735::q5 qx 1321 437 726::q8 aS 728 725 1210::q3::q9::cj aR ay aW 1334::qm cg KN 113 0 1331 439 3 730 1337 aS 1210 ([q3,dk (w2 P 1326 aS 1210 437 [Er P cg 1339 736,Er P ax 1340 737,E P bU 1341 .none]) 2,o7 qx 402 739 738 723 1319,bV 739,bW 739]))))
 LY(P:aq):List DictEntry:=LW P++[Er P lS 1293 701,Er P qw 1318 720,Er P qx 1343 739]
 LZ:List Value:=LX++tr [(426,683),(433,709),(437,728)]
 T9(P:aq):BT:=((((dE (T8 P) 678 (kW P)).set 3 λ _=>dk (LY P) 118).set 12 λ _=>⟨.none,none,.fields ⟨LZ⟩,⟨[]⟩⟩).set 402 λ _=>⟨.type y6,none,.cls ⟨iu,[.type y8],[.ref 402,.type y8],401,iu,true,[],[.ref 701,.ref 720,.ref 739],false,none,false⟩,⟨[none,none,some (.str iu 838),some (.str iu 846),some (.builtin y9),some (.bool true)]⟩⟩)
 iy(P:aq):List Obj:=dF 402::bX::dk (w3 P 1351 aS 1210 qy 441 [Er P cg 1364 755,Er P ax 1365 756]) 5::q3::cV 443 754::q5 qy 1346 441 745::q8 aS 747 744 1210::q3::q9::cj aR ay aW 1359::qm cg KO 114 0 1356 443 3 749 1362 aS 1210 (q3::dk (w2 P 1351 aS 1210 441 [Er P cg 1364 755,Er P ax 1365 756,E P bU 1366 .none]) 2::o7 qy 402 758 757 742 1344::bV 758::bW 758::dF 402::bX::dk (w3 P 1376 aS 1210 qz 447 [Er P cg 1389 774,Er P ax 1390 775]) 5::q3::cV 449 773::q5 qz 1371 447 764::q8 aS 766 763 1210::q3::q9::cj aR ay aW 1384::qm cg UC 115 0 1381 449 3 768 1387 aS 1210 (q3::dk (w2 P 1376 aS 1210 447 [Er P cg 1389 774,Er P ax 1390 775,E P bU 1391 .none]) 2::o7 qz 402 777 776 761 1369::bV 777::bW 777::q3::q9::cj ay fC zK 1397::qf qA 116 1394 451 2 780 1400 aS 1210 (cZ ay fC gD uc 1406::qf qB 117 1403 460 3 787 1410 aS 1210 (je ay fC cg gD uc 1416::qg zM 118 1413 469 4 794 1421 aS 1210 (dF 673::bX::dk (w3 P 1431 aS 1210 qC 476 [Er P bo 1443 814,Er P oV 1452 821,Er P ua 1462 828,Er P ax 1464 829]) 7::q3::⟨.none,none,.fields ⟨[.int 478 0,.int 4 0,.ref 813,.int 481 0,.int 4 0,.ref 820,.int 484 0,.int 4 0,.ref 827]⟩,⟨[]⟩⟩::q5 qC 1426 476 804::q8 aS 806 803 1210::q3::q9::du aR fC 1439::qm bo KP 119 0 1436 478 2 808 1441 aS 1210 (q3::q9::cj aR ay gD 1447::qm oV KQ 119 1 1444 481 3 815 1450 aS 1210 (q3::q9::cZ aR ay cg gD 1456::qm ua UD 119 2 1453 484 4 822 1460 aS 1210 ([e_ fC 1463,dk (w2 P 1431 aS 1210 476 [Er P bo 1443 814,Er P oV 1452 821,Er P ua 1462 828,Er P ax 1464 829,E P bU 1465 .none]) 2,o7 qC 673 831 830 801 1424,bV 831,bW 831]))))))))
 L0(P:aq):Obj:=⟨.type y6,none,.cls ⟨nG,[.type y8],[.ref 673,.type y8],672,nG,true,[],[.ref 831],false,none,false⟩,⟨[none,none,some (.str nG 1212),some (.str nG 1220),some (.builtin y9),some (.bool true)]⟩⟩
 US(P:aq):List DictEntry:=LY P++[Er P qy 1368 758,Er P qz 1393 777,Er P qA 1402 786,Er P qB 1412 793,Er P zM 1423 800,Er P qC 1467 831]
 L1:List Value:=LZ++tr [(441,747),(447,766),(451,785),(460,792),(469,799),(476,806)]
 D1(P:aq):BT:=(((((dE (T9 P) 742 (iy P)).set 3 λ _=>dk (US P) 124).set 12 λ _=>⟨.none,none,.fields ⟨L1⟩,⟨[]⟩⟩).set 402 λ _=>⟨.type y6,none,.cls ⟨iu,[.type y8],[.ref 402,.type y8],401,iu,true,[],[.ref 701,.ref 720,.ref 739,.ref 758,.ref 777],false,none,false⟩,⟨[none,none,some (.str iu 838),some (.str iu 846),some (.builtin y9),some (.bool true)]⟩⟩).set 673 λ _=>L0 P)
 jg(P:aq):List Obj:=dF 701::bX::dk (w3 P 1475 aS 1210 ud 486 [Er P iR 1488 847,Er P DK 1497 854,Er P ax 1498 855]) 6::q3::rz 488 846::q5 ud 1470 486 837::q8 aS 839 836 1210::q3::q9::cj aR ay aW 1483::qm iR KR 120 0 1480 488 3 841 1486 aS 1210 (q3::q9::cj aR ay aW 1492::qm DK UE 120 1 1489 491 3 848 1495 aS 1210 (q3::dk (w2 P 1475 aS 1210 486 [Er P iR 1488 847,Er P DK 1497 854,Er P ax 1498 855,E P bU 1499 .none]) 2::kT ud 701 857 402 856 834 1468::bV 857::bW 857::q3::q9::du ay gD 1505::qg DL 121 1502 493 2 860 1507 aS 1210 (dF 402::bX::dk (w3 P 1517 aS 1210 ue 497 [Er P cg 1530 880,Er P ax 1531 881]) 5::q3::cV 499 879::q5 ue 1512 497 870::q8 aS 872 869 1210::q3::q9::cj aR ay aW 1525::qm cg UG 122 0 1522 499 3 874 1528 aS 1210 (q3::dk (w2 P 1517 aS 1210 497 [Er P cg 1530 880,Er P ax 1531 881,E P bU 1532 .none]) 2::o7 ue 402 883 882 867 1510::bV 883::bW 883::q3::q9::q4 oW 123::ro oW 1535 501 3 886::q2 oW aS 123 1210 889::q3::q9::du ay pW 1544::qf uf 124 1541 507 1 891 1546 aS 1210 (e_ ay 1552::qg ug 125 1549 513 1 898 1553 aS 1210 ([⟨.type y0,none,.seq ⟨[.int 0 1559,.int 0 1560]⟩ 0,⟨[]⟩⟩,⟨.type y0,none,.seq ⟨[.int 0 1558,.ref 905]⟩ 0,⟨[]⟩⟩]))))))
 L2(P:aq):Obj:=⟨.type y6,none,.cls ⟨iu,[.type y8],[.ref 402,.type y8],401,iu,true,[],[.ref 701,.ref 720,.ref 739,.ref 758,.ref 777,.ref 883],false,none,false⟩,⟨[none,none,some (.str iu 838),some (.str iu 846),some (.builtin y9),some (.bool true)]⟩⟩
 L4(P:aq):Obj:=⟨.type y6,none,.cls ⟨lS,[.ref 402],[.ref 701,.ref 402,.type y8],700,lS,true,[],[.ref 857],false,none,false⟩,⟨[some (.ref 678),none,some (.str lS 1260),some (.str lS 1268),some (.builtin y9),some (.bool true)]⟩⟩
 L5(P:aq):List DictEntry:=(E P lQ 165 (.str aF 1556)::(LF P))
 L6:List Value:=L1++tr [(486,839),(493,865),(497,872),(501,889),(507,896),(513,903)]
 D4(P:aq):BT:=(((((dE (D1 P) 834 (jg P)).set 3 λ _=>dk (L5 P) 131).set 12 λ _=>⟨.none,none,.fields ⟨L6⟩,⟨[]⟩⟩).set 402 λ _=>L2 P).set 701 λ _=>L4 P)
 gU(P:aq):List Obj:=dF 423::bX::dk (w3 P 1569 aF 1556 d_ 518 [Er P oU 1582 920,Er P ba 1591 927,Er P ax 1592 928]) 6::q3::rz 520 919::q5 d_ 1564 518 910::q8 aF 912 909 1556::q3::q9::cj aR ay aW 1577::qm oU KS 128 0 1574 520 3 914 1580 aF 1556 (q3::q9::cj aR ay aW 1586::qm ba UH 128 1 1583 523 3 921 1589 aF 1556 (q3::dk (w2 P 1569 aF 1556 518 [Er P oU 1582 920,Er P ba 1591 927,Er P ax 1592 928,E P bU 1593 .none]) 2::⟨.type y6,none,.cls ⟨d_,[.ref 423],[.ref 930,.ref 423,.type y8],929,d_,true,[],[.ref 970,.ref 989],false,none,false⟩,⟨[some (.ref 907),none,some (.str d_ 1562),some (.str d_ 1570),some (.builtin y9),some (.bool true)]⟩⟩::bV 930::bW 930::q3::q9::cZ ay wU aW wV 1599::qf qD 129 1596 525 2 933 1603 aF 1556 (cZ ay wU aW kg 1609::qf qE 130 1606 530 2 940 1613 aF 1556 (cj ay wU nH 1619::qg qF 131 1616 536 2 947 1622 aF 1556 (dF 930::bX::dk (w3 P 1632 aF 1556 qG 544 [Er P ba 1645 967,Er P ax 1646 968]) 5::q3::cV 546 966::q5 qG 1627 544 957::q8 aF 959 956 1556::q3::q9::cj aR ay aW 1640::qm ba KU 132 0 1637 546 3 961 1643 aF 1556 (q3::dk (w2 P 1632 aF 1556 544 [Er P ba 1645 967,Er P ax 1646 968,E P bU 1647 .none]) 2::kT qG 930 970 423 969 954 1625::bV 970::bW 970::dF 930::bX::dk (w3 P 1657 aF 1556 qH 549 [Er P ba 1670 986,Er P ax 1671 987]) 5::q3::cV 551 985::q5 qH 1652 549 976::q8 aF 978 975 1556::q3::q9::cj aR ay aW 1665::qm ba KW 133 0 1662 551 3 980 1668 aF 1556 ([q3,dk (w2 P 1657 aF 1556 549 [Er P ba 1670 986,Er P ax 1671 987,E P bU 1672 .none]) 2,kT qH 930 989 423 988 973 1650,bV 989,bW 989])))))))
 L7(P:aq):Obj:=⟨.type y6,none,.cls ⟨nE,[.type y8],[.ref 423,.type y8],422,nE,true,[],[.ref 930],false,none,false⟩,⟨[none,none,some (.str nE 867),some (.str nE 875),some (.builtin y9),some (.bool true)]⟩⟩
 L8(P:aq):List DictEntry:=L5 P++[Er P d_ 1595 930,Er P qD 1605 939,Er P qE 1615 946,Er P qF 1624 953,Er P qG 1649 970,Er P qH 1674 989]
 L9:List Value:=L6++tr [(518,912),(525,938),(530,945),(536,952),(544,959),(549,978)]
 D5(P:aq):BT:=((((dE (D4 P) 907 (gU P)).set 3 λ _=>dk (L8 P) 137).set 12 λ _=>⟨.none,none,.fields ⟨L9⟩,⟨[]⟩⟩).set 423 λ _=>L7 P)
 fQ(P:aq):List Obj:=dF 930::bX::dk (w3 P 1682 aF 1556 qI 553 [Er P ba 1695 1005,Er P ax 1696 1006]) 5::q3::cV 555 1004::q5 qI 1677 553 995::q8 aF 997 994 1556::q3::q9::cj aR ay aW 1690::qm ba KX 134 0 1687 555 3 999 1693 aF 1556 (q3::dk (w2 P 1682 aF 1556 553 [Er P ba 1695 1005,Er P ax 1696 1006,E P bU 1697 .none]) 2::kT qI 930 1008 423 1007 992 1675::bV 1008::bW 1008::q3::q9::e_ ay 1703::qf qJ 135 1700 561 1 1011 1704 aF 1556 (du ay fC 1710::qf qK 136 1707 566 2 1018 1712 aF 1556 (je ay aW gn DD uc 1718::qf qL 137 1715 568 4 1025 1723 aF 1556 (du zK fC 1729::qf zN 138 1726 576 2 1032 1731 aF 1556 (cZ ay aW gn uc 1737::qf wW 139 1734 582 3 1039 1741 aF 1556 (cZ ay DN wH gn 1747::qf qM 140 1744 590 4 1046 1751 aF 1556 (e_ DN 1757::qf qN 141 1754 597 1 1053 1758 aF 1556 (cZ ay aW DO fC 1764::qg qO 142 1761 601 2 1060 1768 aF 1556 (dF 930::bX::dk (w3 P 1778 aF 1556 qQ 606 [Er P ba 1791 1080,Er P ax 1792 1081]) 5::q3::cV 608 1079::q5 qQ 1773 606 1070::q8 aF 1072 1069 1556::q3::q9::cj aR ay aW 1786::qm ba KY 143 0 1783 608 3 1074 1789 aF 1556 ([q3,dk (w2 P 1778 aF 1556 606 [Er P ba 1791 1080,Er P ax 1792 1081,E P bU 1793 .none]) 2,kT qQ 930 1083 423 1082 1067 1771,bV 1083,bW 1083]))))))))))
 L_(P:aq):List DictEntry:=L8 P++[Er P qI 1699 1008,Er P qJ 1706 1017,Er P qK 1714 1024,Er P qL 1725 1031,Er P zN 1733 1038,Er P wW 1743 1045,Er P qM 1753 1052,Er P qN 1760 1059,Er P qO 1770 1066,Er P qQ 1795 1083]
 Ma:List Value:=L9++tr [(553,997),(561,1016),(566,1023),(568,1030),(576,1037),(582,1044),(590,1051),(597,1058),(601,1065),(606,1072)]
 D6(P:aq):BT:=((((dE (D5 P) 992 (fQ P)).set 3 λ _=>dk (L_ P) 147).set 12 λ _=>⟨.none,none,.fields ⟨Ma⟩,⟨[]⟩⟩).set 930 λ _=>⟨.type y6,none,.cls ⟨d_,[.ref 423],[.ref 930,.ref 423,.type y8],929,d_,true,[],[.ref 970,.ref 989,.ref 1008,.ref 1083],false,none,false⟩,⟨[some (.ref 907),none,some (.str d_ 1562),some (.str d_ 1570),some (.builtin y9),some (.bool true)]⟩⟩)
 kj(P:aq):List Obj:=dF 930::bX::dk (w3 P 1803 aF 1556 qR 612 [Er P ba 1816 1099,Er P ax 1817 1100]) 5::q3::cV 614 1098::q5 qR 1798 612 1089::q8 aF 1091 1088 1556::q3::q9::cj aR ay aW 1811::qm ba KZ 144 0 1808 614 3 1093 1814 aF 1556 (q3::dk (w2 P 1803 aF 1556 612 [Er P ba 1816 1099,Er P ax 1817 1100,E P bU 1818 .none]) 2::kT qR 930 1102 423 1101 1086 1796::bV 1102::bW 1102::dF 930::bX::dk (w3 P 1828 aF 1556 qS 616 [Er P ba 1841 1118,Er P ax 1842 1119]) 5::q3::cV 618 1117::q5 qS 1823 616 1108::q8 aF 1110 1107 1556::q3::q9::cj aR ay aW 1836::qm ba K0 145 0 1833 618 3 1112 1839 aF 1556 (q3::dk (w2 P 1828 aF 1556 616 [Er P ba 1841 1118,Er P ax 1842 1119,E P bU 1843 .none]) 2::kT qS 930 1121 423 1120 1105 1821::bV 1121::bW 1121::dF 930::bX::dk (w3 P 1853 aF 1556 qT 620 [Er P ba 1866 1137,Er P ax 1867 1138]) 5::q3::cV 622 1136::q5 qT 1848 620 1127::q8 aF 1129 1126 1556::q3::q9::cj aR ay aW 1861::qm ba K1 146 0 1858 622 3 1131 1864 aF 1556 ([q3,dk (w2 P 1853 aF 1556 620 [Er P ba 1866 1137,Er P ax 1867 1138,E P bU 1868 .none]) 2,kT qT 930 1140 423 1139 1124 1846,bV 1140,bW 1140])))
 UT(P:aq):List DictEntry:=L_ P++[Er P qR 1820 1102,Er P qS 1845 1121,Er P qT 1870 1140]
 Mb:List Value:=Ma++tr [(612,1091),(616,1110),(620,1129)]
 D7(P:aq):BT:=((((dE (D6 P) 1086 (kj P)).set 3 λ _=>dk (UT P) 150).set 12 λ _=>⟨.none,none,.fields ⟨Mb⟩,⟨[]⟩⟩).set 930 λ _=>⟨.type y6,none,.cls ⟨d_,[.ref 423],[.ref 930,.ref 423,.type y8],929,d_,true,[],[.ref 970,.ref 989,.ref 1008,.ref 1083,.ref 1102,.ref 1121,.ref 1140],false,none,false⟩,⟨[some (.ref 907),none,some (.str d_ 1562),some (.str d_ 1570),some (.builtin y9),some (.bool true)]⟩⟩)
 gV(P:aq):List Obj:=dF 930::bX::dk (w3 P 1878 aF 1556 jA 625 [Er P ba 1891 1156,Er P fD 1901 1163,Er P ax 1902 1164]) 6::q3::rz 627 1155::q5 jA 1873 625 1146::q8 aF 1148 1145 1556::q3::q9::cj aR ay aW 1886::qm ba K4 147 0 1883 627 3 1150 1889 aF 1556 (q3::q9::cZ aR ay aW jd 1895::qm fD UI 147 1 1892 630 4 1157 1899 aF 1556 (q3::dk (w2 P 1878 aF 1556 625 [Er P ba 1891 1156,Er P fD 1901 1163,Er P ax 1902 1164,E P bU 1903 .none]) 2::kT jA 930 1166 423 1165 1143 1871::bV 1166::bW 1166::q3::q9::je ay aW jd wV kg 1909::qg uh 148 1906 632 2 1169 1914 aF 1556 (dF 930::bX::dk (w3 P 1924 aF 1556 ui 645 [Er P ba 1937 1189,Er P ax 1938 1190]) 5::q3::cV 647 1188::q5 ui 1919 645 1179::q8 aF 1181 1178 1556::q3::q9::cj aR ay aW 1932::qm ba K5 149 0 1929 647 3 1183 1935 aF 1556 (q3::dk (w2 P 1924 aF 1556 645 [Er P ba 1937 1189,Er P ax 1938 1190,E P bU 1939 .none]) 2::kT ui 930 1192 423 1191 1176 1917::bV 1192::bW 1192::q3::q9::e_ ay 1945::qf uj 150 1942 649 1 1195 1946 aF 1556 (du kg jd 1960::qf uk 155 1957 659 2 1202 1962 aG 1949 (je ay aW jd kg um 1968::qf DP 156 1965 667 3 1209 1973 aG 1949 (je ay aW jd kg um 1979::qf uo 157 1976 674 3 1216 1984 aG 1949 (cZ ay UJ fC uc 1990::qf DQ 158 1987 682 1 1223 1994 aG 1949 (e_ aW 2000::qf uq 159 1997 688 1 1230 2001 aG 1949 (rq ay aW jd K6 kg um 2007::qf DR 160 2004 690 4 1237 2013 aG 1949 (je ay aW jd nH K6 2019::qg DS 161 2016 701 3 1244 2024 aG 1949 ([]))))))))))))
 Mc(P:aq):List DictEntry:=(E P lQ 165 (.str aG 1949)::(LG P))
 Md:List Value:=Mb++tr [(625,1148),(632,1174),(645,1181),(649,1200),(659,1207),(667,1214),(674,1221),(682,1228),(688,1235),(690,1242),(701,1249)]
 D8(P:aq):BT:=((((dE (D7 P) 1143 (gV P)).set 3 λ _=>dk (Mc P) 164).set 12 λ _=>⟨.none,none,.fields ⟨Md⟩,⟨[]⟩⟩).set 930 λ _=>⟨.type y6,none,.cls ⟨d_,[.ref 423],[.ref 930,.ref 423,.type y8],929,d_,true,[],[.ref 970,.ref 989,.ref 1008,.ref 1083,.ref 1102,.ref 1121,.ref 1140,.ref 1166,.ref 1192],false,none,false⟩,⟨[some (.ref 907),none,some (.str d_ 1562),some (.str d_ 1570),some (.builtin y9),some (.bool true)]⟩⟩)
 fR(P:aq):List Obj:=q3::q9::cj ay aW nH 2030::qf qU 162 2027 715 2 1251 2033 aG 1949 (je ay aW nH gn DW 2039::qf qV 163 2036 723 4 1258 2044 aG 1949 (cj ay gn gD 2050::qf qW 164 2047 730 3 1265 2053 aG 1949 (w7 ay aW jd gn nH iR kg um 2059::qf qX 165 2056 734 3 1272 2067 aG 1949 (q4 nI 166::ro nI 2070 749 2 1279::q2 nI aG 166 1949 1282::q3::q9::cj ay gn fC 2079::qf qY 167 2076 761 3 1284 2082 aG 1949 (w7 ay aW jd gn nH fC kg um 2088::qg qZ 168 2085 763 3 1291 2096 aG 1949 (dF 1166::bX::dk (w3 P 2106 aG 1949 q_ 778 [Er P fD 2120 1311,Er P ax 2121 1312]) 5::q3::cV 780 1310::q5 q_ 2101 778 1301::q8 aG 1303 1300 1949::q3::q9::cZ aR ay aW jd 2114::qm fD UK 169 0 2111 780 4 1305 2118 aG 1949 (q3::dk (w2 P 2106 aG 1949 778 [Er P fD 2120 1311,Er P ax 2121 1312,E P bU 2122 .none]) 2::wZ q_ 1314 1313 1298 2099::bV 1314::bW 1314::dF 1166::bX::dk (w3 P 2132 aG 1949 rg 782 [Er P fD 2146 1330,Er P ax 2147 1331]) 5::q3::cV 784 1329::q5 rg 2127 782 1320::q8 aG 1322 1319 1949::q3::q9::cZ aR ay aW jd 2140::qm fD K7 170 0 2137 784 4 1324 2144 aG 1949 ([q3,dk (w2 P 2132 aG 1949 782 [Er P fD 2146 1330,Er P ax 2147 1331,E P bU 2148 .none]) 2,wZ rg 1333 1332 1317 2125,bV 1333,bW 1333]))))))))
 Me(P:aq):List DictEntry:=Mc P++[Er P qU 2035 1257,Er P qV 2046 1264,Er P qW 2055 1271,Er P qX 2069 1278,Er P nI 2075 1283,Er P qY 2084 1290,Er P qZ 2098 1297,Er P q_ 2124 1314,Er P rg 2150 1333]
 Mf:List Value:=Md++tr [(715,1256),(723,1263),(730,1270),(734,1277),(749,1282),(761,1289),(763,1296),(778,1303),(782,1322)]
 D9(P:aq):BT:=((((dE (D8 P) 1251 (fR P)).set 3 λ _=>dk (Me P) 173).set 12 λ _=>⟨.none,none,.fields ⟨Mf⟩,⟨[]⟩⟩).set 1166 λ _=>⟨.type y6,none,.cls ⟨jA,[.ref 930],[.ref 1166,.ref 930,.ref 423,.type y8],1165,jA,true,[],[.ref 1314,.ref 1333],false,none,false⟩,⟨[some (.ref 1143),none,some (.str jA 1871),some (.str jA 1879),some (.builtin y9),some (.bool true)]⟩⟩)
 jh(P:aq):List Obj:=dF 1166::bX::dk (w3 P 2158 aG 1949 rh 786 [Er P fD 2172 1349,Er P ax 2173 1350]) 5::q3::cV 788 1348::q5 rh 2153 786 1339::q8 aG 1341 1338 1949::q3::q9::cZ aR ay aW jd 2166::qm fD UL 171 0 2163 788 4 1343 2170 aG 1949 (q3::dk (w2 P 2158 aG 1949 786 [Er P fD 2172 1349,Er P ax 2173 1350,E P bU 2174 .none]) 2::wZ rh 1352 1351 1336 2151::bV 1352::bW 1352::dF 1166::bX::dk (w3 P 2184 aG 1949 rj 790 [Er P fD 2198 1368,Er P ax 2199 1369]) 5::q3::cV 792 1367::q5 rj 2179 790 1358::q8 aG 1360 1357 1949::q3::q9::cZ aR ay aW jd 2192::qm fD K8 172 0 2189 792 4 1362 2196 aG 1949 (q3::dk (w2 P 2184 aG 1949 790 [Er P fD 2198 1368,Er P ax 2199 1369,E P bU 2200 .none]) 2::wZ rj 1371 1370 1355 2177::bV 1371::bW 1371::dF 1166::bX::dk (w3 P 2210 aG 1949 rk 794 [Er P fD 2224 1387,Er P ax 2225 1388]) 5::q3::cV 796 1386::q5 rk 2205 794 1377::q8 aG 1379 1376 1949::q3::q9::cZ aR ay aW jd 2218::qm fD K9 173 0 2215 796 4 1381 2222 aG 1949 (q3::dk (w2 P 2210 aG 1949 794 [Er P fD 2224 1387,Er P ax 2225 1388,E P bU 2226 .none]) 2::wZ rk 1390 1389 1374 2203::bV 1390::bW 1390::q3::q9::e_ ay 2232::qf rl 174 2229 798 1 1393 2233 aG 1949 (rq ay gn DX K_ iR K' 2239::qg rm 175 2236 804 3 1400 2245 aG 1949 ([])))))
 Mg(P:aq):Obj:=⟨.type y6,none,.cls ⟨jA,[.ref 930],[.ref 1166,.ref 930,.ref 423,.type y8],1165,jA,true,[],[.ref 1314,.ref 1333,.ref 1352,.ref 1371,.ref 1390],false,none,false⟩,⟨[some (.ref 1143),none,some (.str jA 1871),some (.str jA 1879),some (.builtin y9),some (.bool true)]⟩⟩
 UU(P:aq):List DictEntry:=Me P++[Er P rh 2176 1352,Er P rj 2202 1371,Er P rk 2228 1390,Er P rl 2235 1399,Er P rm 2247 1406]
 Mh:List Value:=Mf++tr [(786,1341),(790,1360),(794,1379),(798,1398),(804,1405)]
 D_(P:aq):BT:=((((dE (D9 P) 1336 (jh P)).set 3 λ _=>dk (UU P) 178).set 12 λ _=>⟨.none,none,.fields ⟨Mh⟩,⟨[]⟩⟩).set 1166 λ _=>Mg P)
 dw(P:aq):List Obj:=q3::q9::rq ay gn DX Cr DY kg 2251::qf ur 176 2248 813 3 1407 2257 aG 1949 (je ay aW gn nH DY 2263::qg uu 177 2260 824 2 1414 2268 aG 1949 (dF 930::bX::dk (w3 P 2278 aG 1949 ux 834 [Er P ba 2291 1434,Er P ax 2292 1435]) 5::q3::cV 836 1433::q5 ux 2273 834 1424::q8 aG 1426 1423 1949::q3::q9::cj aR ay aW 2286::qm ba Lb 178 0 2283 836 3 1428 2289 aG 1949 (q3::dk (w2 P 2278 aG 1949 834 [Er P ba 2291 1434,Er P ax 2292 1435,E P bU 2293 .none]) 2::kT ux 930 1437 423 1436 1421 2271::bV 1437::bW 1437::q3::q9::e_ ay 2299::qf uy 179 2296 838 1 1440 2300 aG 1949 (cZ ay aW gn nH 2306::qf uz 180 2303 840 3 1447 2310 aG 1949 (cZ ay aW zO gn 2316::qf uA 181 2313 850 2 1454 2320 aG 1949 (je ay aW kg zO DZ 2326::qg uB 182 2323 861 2 1461 2331 aG 1949 (dF 930::bX::dk (w3 P 2341 aG 1949 uC 870 [Er P ba 2354 1481,Er P ax 2355 1482]) 5::q3::cV 872 1480::q5 uC 2336 870 1471::q8 aG 1473 1470 1949::q3::q9::cj aR ay aW 2349::qm ba Ld 183 0 2346 872 3 1475 2352 aG 1949 (q3::dk (w2 P 2341 aG 1949 870 [Er P ba 2354 1481,Er P ax 2355 1482,E P bU 2356 .none]) 2::kT uC 930 1484 423 1483 1468 2334::bV 1484::bW 1484::q3::q9::e_ ay 2362::qf uD 184 2359 874 1 1487 2363 aG 1949 (du nJ ay 2371::qf uE 186 2368 877 2 1494 2373 bQ 2366 (cj nJ D0 zP 2379::qf uF 187 2376 879 1 1501 2382 bQ 2366 (q4 jB 188::ro jB 2385 885 4 1508::q2 jB bQ 188 2366 1511::q3::q9::cj nJ pW D0 2394::qg uG 189 2391 888 3 1513 2397 bQ 2366 ([]))))))))))))
 Mi(P:aq):Obj:=⟨.type y6,none,.cls ⟨d_,[.ref 423],[.ref 930,.ref 423,.type y8],929,d_,true,[],[.ref 970,.ref 989,.ref 1008,.ref 1083,.ref 1102,.ref 1121,.ref 1140,.ref 1166,.ref 1192,.ref 1437,.ref 1484],false,none,false⟩,⟨[some (.ref 907),none,some (.str d_ 1562),some (.str d_ 1570),some (.builtin y9),some (.bool true)]⟩⟩
 UW(P:aq):List DictEntry:=(E P lQ 165 (.str bQ 2366)::(LH P))
 Mj:List Value:=Mh++tr [(813,1412),(824,1419),(834,1426),(838,1445),(840,1452),(850,1459),(861,1466),(870,1473),(874,1492),(877,1499),(879,1506),(885,1511),(888,1518)]
 Ed(P:aq):BT:=((((dE (D_ P) 1407 (dw P)).set 3 λ _=>dk (UW P) 191).set 12 λ _=>⟨.none,none,.fields ⟨Mj⟩,⟨[]⟩⟩).set 930 λ _=>Mi P)
 cR(P:aq):List Obj:=q3::q9::⟨.type y0,none,.seq ⟨[.str nJ 2403,.str tX 2404,.str wX 2405,.str wY 2406,.str zP 2407,.str fC 2408,.str pX 2409]⟩ 0,⟨[]⟩⟩::qf uH 190 2400 892 4 1520 2410 bQ 2366 (⟨.type y0,none,.seq ⟨[.str nJ 2416,.str tX 2417,.str wX 2418,.str wY 2419,.str Le 2420,.str pX 2421,.str fC 2422]⟩ 0,⟨[]⟩⟩::qf uI 191 2413 917 4 1527 2423 bQ 2366 (⟨.type y0,none,.seq ⟨[.str nJ 2429,.str tX 2430,.str wX 2431,.str wY 2432,.str zP 2433,.str Lg 2434,.str Lh 2435,.str Li 2436,.str DG 2437,.str Lj 2438,.str DW 2439,.str Lk 2440]⟩ 0,⟨[]⟩⟩::qf uJ 192 2426 926 5 1534 2441 bQ 2366 (w7 nJ tX wX wY pX Ll Lm Ln 2447::qf uK 193 2444 938 4 1541 2455 bQ 2366 (cj nK aW Lo 2461::qf uL 194 2458 945 2 1548 2464 bQ 2366 (du nK aW 2470::qf uM 195 2467 957 2 1555 2472 bQ 2366 (q4 oX 196::ro oX 2475 960 2 1562::q2 oX bQ 196 2366 1565::q3::q9::q4 oY 197::ro oY 2481 995 2 1567::q2 oY bQ 197 2366 1570::q3::q9::q4 oZ 198::ro oZ 2487 1007 2 1572::q2 oZ bQ 198 2366 1575::q3::q9::du nK uN 2496::qf uO 199 2493 1016 1 1577 2498 bQ 2366 (cZ nK uP uN DZ 2504::qf uQ 200 2501 1026 2 1584 2508 bQ 2366 (du nK uN 2514::qf uR 201 2511 1036 1 1591 2516 bQ 2366 (cj nK uP Lp 2522::qf uS 202 2519 1044 2 1598 2525 bQ 2366 (je nK uP uN Lr iR 2531::qf uT 203 2528 1052 2 1605 2536 bQ 2366 (je tK wL nK uP uN 2542::qf uU 204 2539 1069 2 1612 2547 bQ 2366 (w7 tK wL ay Ls kg Lu zO Lv 2553::qf uV 205 2550 1084 2 1619 2561 bQ 2366 (⟨.type y0,none,.seq ⟨[.str Lw 2567,.str nJ 2568,.str tK 2569,.str Ly 2570,.str DO 2571,.str Lz 2572,.str wL 2573,.str LA 2574,.str DJ 2575,.str uP 2576]⟩ 0,⟨[]⟩⟩::qg rn 206 2564 1105 1 1626 2577 bQ 2366 ([]))))))))))))))
 D3(P:aq):Obj:=dk ((E P lQ 165 (.str bQ 2366)::(UO P))) 208
 UX:List Value:=Mj++tr [(892,1525),(917,1532),(926,1539),(938,1546),(945,1553),(957,1560),(960,1565),(995,1570),(1007,1575),(1016,1582),(1026,1589),(1036,1596),(1044,1603),(1052,1610),(1069,1617),(1084,1624),(1105,1631)]
 UY(P:aq):Obj:=⟨.none,none,.fields ⟨UX⟩,⟨[]⟩⟩
 nQ(P:aq):BT:=(((dE (Ed P) 1520 (cR P)).set 3 λ _=>D3 P).set 12 λ _=>UY P)
open zz0
theorem p1:fO 747 T0 15 187 0 43 ⟨0,0,0,0⟩ T1 78 356 ⟨89,0,89,8⟩:=λ _ _ _ _=>by kernel_rfl
theorem p2:fO 728 T1 78 356 43 3 ⟨89,0,89,8⟩ T2 139 441 ⟨100,0,104,24⟩:=λ _ _ _ _=>by kernel_rfl
theorem p3:fO 867 T2 139 441 46 18 ⟨100,0,104,24⟩ T3 200 567 ⟨130,0,144,22⟩:=λ _ _ _ _=>by kernel_rfl
theorem p4:fO 882 T3 200 567 64 16 ⟨130,0,144,22⟩ T4 340 754 ⟨252,0,255,32⟩:=λ _ _ _ _=>by kernel_rfl
theorem p5:fO 898 T4 340 754 80 19 ⟨252,0,255,32⟩ T5 428 896 ⟨308,0,311,30⟩:=λ _ _ _ _=>by kernel_rfl
theorem p6:fO 760 T5 428 896 99 3 ⟨308,0,311,30⟩ T6 503 1001 ⟨323,0,329,16⟩:=λ _ _ _ _=>by kernel_rfl
theorem p7:fO 481 T6 503 1001 102 2 ⟨323,0,329,16⟩ T7 552 1071 ⟨337,0,340,14⟩:=λ _ _ _ _=>by kernel_rfl
theorem p8:fO 863 T7 552 1071 104 7 ⟨337,0,340,14⟩ T8 678 1260 ⟨416,0,425,40⟩:=λ _ _ _ _=>by kernel_rfl
theorem p9:fO 769 T8 678 1260 111 3 ⟨416,0,425,40⟩ T9 742 1344 ⟨437,0,440,32⟩:=λ _ _ _ _=>by kernel_rfl
theorem UZ:fO 899 T9 742 1344 114 6 ⟨437,0,440,32⟩ D1 834 1468 ⟨476,0,485,42⟩:=λ _ _ _ _=>by kernel_rfl
theorem U0:fO 677 D1 834 1468 120 8 ⟨476,0,485,42⟩ D4 907 1562 ⟨517,0,517,7⟩:=λ _ _ _ _=>by kernel_rfl
theorem U1:fO 892 D4 907 1562 128 6 ⟨517,0,517,7⟩ D5 992 1675 ⟨549,0,552,39⟩:=λ _ _ _ _=>by kernel_rfl
theorem U2:fO 766 D5 992 1675 134 10 ⟨549,0,552,39⟩ D6 1086 1796 ⟨606,0,611,48⟩:=λ _ _ _ _=>by kernel_rfl
theorem U3:fO 778 D6 1086 1796 144 3 ⟨606,0,611,48⟩ D7 1143 1871 ⟨620,0,624,22⟩:=λ _ _ _ _=>by kernel_rfl
theorem U4:fO 875 D7 1143 1871 147 15 ⟨620,0,624,22⟩ D8 1251 2027 ⟨701,0,714,20⟩:=λ _ _ _ _=>by kernel_rfl
theorem U5:fO 773 D8 1251 2027 162 9 ⟨701,0,714,20⟩ D9 1336 2151 ⟨782,0,785,39⟩:=λ _ _ _ _=>by kernel_rfl
theorem U6:fO 886 D9 1336 2151 171 5 ⟨782,0,785,39⟩ D_ 1407 2248 ⟨804,0,812,18⟩:=λ _ _ _ _=>by kernel_rfl
theorem U7:fO 868 D_ 1407 2248 176 14 ⟨804,0,812,18⟩ Ed 1520 2400 ⟨888,0,891,59⟩:=λ _ _ _ _=>by kernel_rfl
theorem U8:fO 549 Ed 1520 2400 190 17 ⟨888,0,891,59⟩ nQ 1633 2580 ⟨1105,0,1115,15⟩:=λ _ _ _ _=>by kernel_rfl
noncomputable abbrev Sh(T:aq->BT)(n t:Nat)(w:eZ)(os:gE):Shared:=(SharedT.mk (T w.params) n {} ⟨[]⟩ {} t os).abs
abbrev q0:Pos:=⟨0,0,0,0⟩
abbrev an:Option Value:=some (.ref 6)
theorem U9{n:Nat}{Ta:aq->BT}{na ta a c:Nat}{pa:Pos}{Tb:aq->BT}{nb tb:Nat}{pb:Pos}(h:fO n Ta na ta a c pa Tb nb tb pb)(w:eZ)(p:Program)(b:List Stmt)(os:gE):
  segRun rA p w 11 an 1 n (Sh Ta na ta w os) (piecesOf ((BD.drop a).take c) env (.body b env) pa [o6 q0])=some (.next,Sh Tb nb tb w os,.body b env,pb):=by
 have h1:=h w p b os
 rw[<- PySem.W.Fast.te10110043849684766642,<- Ee]at h1
 exact segRun_of h1
theorem gF{n:Nat}{Ta:aq->BT}{na ta a c:Nat}{pa:Pos}{Tb:aq->BT}{nb tb:Nat}{pb:Pos}(h:fO n Ta na ta a c pa Tb nb tb pb){N:Nat}{w:eZ}{os:gE}{r:Shared}
  (k:topRun rA pw_pc0115_01 w 11 an N (Sh Tb nb tb w os) (restOf (BD.drop (a+c)) env (.body BD env) pb [o6 q0])=some r):
  topRun rA pw_pc0115_01 w 11 an (n+N) (Sh Ta na ta w os) (restOf (BD.drop a) env (.body BD env) pa [o6 q0])=some r:=by
 have h1:=U9 h w pw_pc0115_01 BD os
 rw[<- List.drop_drop]at k
 have h2:=piece_app h1 k
 rw[List.take_append_drop]at h2
 exact h2
theorem agg:pw_pc0115_01.main.scope=sc:=by kernel_rfl
theorem agh:behindTheImports pw_pc0115_01=BD:=by kernel_rfl
theorem U_(w:eZ)(os:gE):PySem.W.Fast.tw14082659384304107361 zQ pw_pc0115_01 w 11 an 2 (Sh nQ 1633 2580 w os) ⟨doneF .next,.body BD env,⟨1105,0,1115,15⟩,[o6 q0]⟩=some (Sh nQ 1633 2580 w os):=by kernel_rfl
theorem U'(w:eZ)(os:gE):topRun rA pw_pc0115_01 w 11 an 2 (Sh nQ 1633 2580 w os) (restOf (BD.drop (190+17)) env (.body BD env) ⟨1105,0,1115,15⟩ [o6 q0])=some (Sh nQ 1633 2580 w os):=by
 have h:=U_ w os
 rw[<- PySem.W.Fast.te14082659384304107361,<- Ee]at h
 have e:BD.drop (190+17)=[]:=by kernel_rfl
 rw[e]
 exact piece_nil h
theorem Vb(w:eZ)(os:gE):topRun rA pw_pc0115_01 w 11 an (747+(728+(867+(882+(898+(760+(481+(863+(769+(899+(677+(892+(766+(778+(875+(773+(886+(868+(549+2))))))))))))))))))) (Sh T0 15 187 w os) (restOf (BD.drop 0) env (.body BD env) ⟨0,0,0,0⟩ [o6 q0])=some (Sh nQ 1633 2580 w os):=gF p1 (gF p2 (gF p3 (gF p4 (gF p5 (gF p6 (gF p7 (gF p8 (gF p9 (gF UZ (gF U0 (gF U1 (gF U2 (gF U3 (gF U4 (gF U5 (gF U6 (gF U7 (gF U8 (U' w os)))))))))))))))))))
noncomputable abbrev Mk(w:eZ)(os:gE):Shared:=⟨kX w.params,⟨[]⟩,Ef,boot_toks,os⟩
theorem Vc(w:eZ)(os:gE):PySem.W.Fast.tw15667345088766844465 zQ pw_pc0115_01 w 11 an 12 (Mk w os) (topStub pw_pc0115_01)=
  some (Sh T0 15 187 w os,⟨PySem.W.Fast.tw11892475500146522536 zQ (.body BD env),.body BD env,⟨0,0,0,0⟩,[o6 q0]⟩):=by kernel_rfl
theorem Ve(w:eZ)(os:gE):PySem.W.Fast.tw14374325043358763698 zQ pw_pc0115_01 w 11 an 1 1 (Sh T0 15 187 w os) (blockOf BD env (.body BD env) ⟨0,0,0,0⟩ [o6 q0])=some (.next,Sh T0 15 187 w os,.body BD env,⟨0,0,0,0⟩):=by kernel_rfl
theorem Vf(w:eZ)(os:gE):topRun rA pw_pc0115_01 w 11 an 14973 (Mk w os) (topStub pw_pc0115_01)=some (Sh nQ 1633 2580 w os):=by
 have h1:=Vc w os
 rw[<- PySem.W.Fast.te15667345088766844465,<- Ee,<- PySem.W.Fast.te11892475500146522536]at h1
 have h2:=Ve w os
 rw[<- PySem.W.Fast.te14374325043358763698,<- Ee]at h2
 have h3:=go_top h1 (piece_block h2 (Vb w os))
 exact h3
theorem Vg:∀w:eZ,(fencedOpening rA pw_pc0115_01 w 40000).map (λ s=>(s.heap,s.gens,s.drawn,s.toks))=some (kX w.params,Array.mk [],Ef,boot_toks):=
 boot_open (by kernel_rfl) (by decide) (λ s=>by kernel_rfl)
theorem Vh:∀w:eZ,((kX w.params).isNs mainGlobals&&(Array.mk []:Array GenState).size==0,(kX w.params).objs.size,(kX w.params).nsMap mainGlobals "__annotations__")=(true,11,an):=λ w=>by kernel_rfl
noncomputable def q:Program:={pw_pc0115_01 with main:={pw_pc0115_01.main with body:=[st 206]}}
noncomputable def loose:List Str:=(names.map (·.1)).filter λ x=>x != rn&&!startupNames.contains x
noncomputable abbrev HF(P:aq):Heap:=absHeap (nQ P) 1633 {}
theorem Vi(w:eZ)(os:gE):(staticsOk (w_ pw_pc0115_01.main.body) (kX w.params) (HF w.params)&&namesBound pw_pc0115_01 (HF w.params)&&gensDone ⟨HF w.params,⟨[]⟩,{},2580,os⟩&&laidKept (kX w.params) (HF w.params))=true:=by kernel_rfl
theorem Vj(w:eZ)(os:gE):PySem.W.Fast.tw4187177175401517315 q loose (w_ pw_pc0115_01.main.body) (λ _=>true) true ⟨HF w.params,⟨[]⟩,{},2580,os⟩=openGood q loose:=by kernel_rfl
noncomputable abbrev Yf(s:Shared):Heap×Array GenState×Drawn×Nat:=(s.heap,s.gens,s.drawn,s.toks)
noncomputable abbrev Ya(w:eZ):Heap×Array GenState×Drawn×Nat:=(HF w.params,⟨[]⟩,{},2580)
theorem Vk(T:aq->BT)(n t:Nat)(w:eZ)(os:gE):Sh T n t w os=⟨absHeap (T w.params) n {},⟨[]⟩,{},t,os⟩:=rfl
theorem Vl(w:eZ)(os:gE):topRun rA pw_pc0115_01 w 11 an 14973 ⟨kX w.params,⟨[]⟩,Ef,boot_toks,os⟩ (topStub pw_pc0115_01)=some ⟨HF w.params,⟨[]⟩,{},2580,os⟩:=(Vf w os).trans (congrArg some (Vk nQ 1633 2580 w os))
theorem Vm(w:eZ)(os:gE):((staticsOk (w_ pw_pc0115_01.main.body) (kX w.params) (HF w.params)&&namesBound pw_pc0115_01 (HF w.params)&&gensDone ⟨HF w.params,⟨[]⟩,{},2580,os⟩&&laidKept (kX w.params) (HF w.params)),
  openSeen q loose (w_ pw_pc0115_01.main.body) (λ _=>true) true ⟨HF w.params,⟨[]⟩,{},2580,os⟩,Yf ⟨HF w.params,⟨[]⟩,{},2580,os⟩)=(true,openGood q loose,Ya w):=by
 have h2:=Vj w os
 rw[<- PySem.W.Fast.te4187177175401517315]at h2
 exact looks_pair (Vi w os) (looks_pair h2 (Eq.refl (Ya w)))
theorem Vn(w:eZ):(λ os=>((staticsOk (w_ pw_pc0115_01.main.body) (kX w.params) (HF w.params)&&namesBound pw_pc0115_01 (HF w.params)&&gensDone ⟨HF w.params,⟨[]⟩,{},2580,os⟩&&laidKept (kX w.params) (HF w.params)),
  openSeen q loose (w_ pw_pc0115_01.main.body) (λ _=>true) true ⟨HF w.params,⟨[]⟩,{},2580,os⟩,Yf ⟨HF w.params,⟨[]⟩,{},2580,os⟩))=λ _=>(true,openGood q loose,Ya w):=funext λ os=>Vm w os
theorem Vp:LeftO pw_pc0115_01 q loose (λ _=>true) Yf Ya 40000:=
 @LeftO.of_pieces pw_pc0115_01 q loose (λ _=>true) _ Yf Ya 40000 true kX HF ⟨[]⟩ ⟨[]⟩ Ef {} boot_toks 2580 11 an 14973 Vg Vh Vl (by decide) Vn
noncomputable def dL:DefRec:=⟨dy "law",fA (st 206),fB (st 206),fS (st 206),(st 206).pos⟩
abbrev RR:OpenRow:=rw_pc0115_01.row
theorem Vq:defOf q RR.name=some (dL,[]):=by kernel_rfl
theorem xb:RR.prog.theDef RR.name=some (dL.params,dL.body,dL.scope):=by kernel_rfl
theorem Vt:kwWritten? dL.params.kwonlyargs dL.params.kw_defaults=some []:=by kernel_rfl
theorem Vu:opensWell pw_pc0115_01=true:=by kernel_rfl
theorem Vv:chainsOk q=true:=by kernel_rfl
theorem Vw:(frees RR.toRowW&&RR.within.isEmpty)=true:=by kernel_rfl
theorem Vx:(chainsOk q&&opensWell RR.prog&&(frees RR.toRowW&&RR.within.isEmpty))=true:=look_both (look_both Vv Vu) Vw
theorem Vy:RR.prog.bare:=⟨rfl,rfl,rfl,rfl,rfl,by
 unfold Program.tablesWhole TablesWhole.wProgram
 rw[PySem.W.Fast.te6116379765354995101]
 kernel_rfl⟩
theorem Vz:RR.toRowW.promised:=by w_witness2
theorem VA:(!(VB rw_pc0115_01.row.prog.main.body).all cThrough.contains)=false:=by kernel_rfl
theorem VC:List.filter (readsOut rw_pc0115_01.row.prog rw_pc0115_01.row.prog.main.body) [dy "vars",dy "dir",dy "locals"]=[]:=by kernel_rfl
theorem VD:PySem.W.Fast.tw8326940854005059898 {strict:=!(VB rw_pc0115_01.row.prog.main.body).all cThrough.contains,foot:=none,bare:=List.filter (readsOut rw_pc0115_01.row.prog rw_pc0115_01.row.prog.main.body) [dy "vars",dy "dir",dy "locals"]} rw_pc0115_01.row.prog.main.body=true:=by
 rw[VA,VC]
 kernel_rfl
theorem VE:VF rw_pc0115_01=true:=by
 unfold VF OpenRow.wellSaid OpenRow.partSaid looksOpen
 repeat' (with_reducible refine look_both ?_ ?_)
 all_goals (try rw[PySem.W.Fast.te17119622794617984870])
 all_goals (try rw[PySem.W.Fast.te11788848310118352699])
 all_goals (try rw[PySem.W.Fast.te12862048085361865435])
 all_goals (try rw[PySem.W.Fast.te5923862056798008813])
 all_goals (try rw[PySem.W.Fast.te8179353310426384613])
 all_goals (try rw[PySem.W.Fast.te9558739934217749035])
 all_goals (try rw[PySem.W.Fast.te8377067652309620493])
 all_goals (try rw[PySem.W.Fast.te9807087744658564304])
 all_goals (try rw[PySem.W.Fast.te8326940854005059898])
 all_goals first |with_reducible exact VD |decide +kernel
theorem head(walk:WalkX q loose (λ _ _=>True) Yf Ya RR.toRowW dL [] λ f vs=>PySem.call f vs):rw_pc0115_01.Holds:=by
 refine holds_law VE λ VG=>?_
 exact holds_openX (r:=RR) Vp (λ _ _=>trivial) (λ _ _ _ _ _=>trivial) Vq xb Vt (λ _ _=>recFacts_nil rfl) rfl VG Vx Vy Vz walk
end HD
end
section
open Array renaming find?_toList->WV,getElem?_eq_getElem->adv,length_toList->aag,toList_append->Ox
open Bool renaming and_eq_true->mJ,and_false->FG,and_true->BC,noConfusion->lV,or_false->RZ
open Int renaming add_sub_cancel->Mm,eq_ofNat_of_zero_le->xc,le_add_of_nonneg_right->abL,le_refl->vu,le_trans->ji,lt_add_one_of_le->IF,lt_of_le_of_lt->IE,lt_of_lt_of_le->xe,natCast_add->RX,natCast_nonneg->iC,ofNat_nonneg->oF,sub_sub->GO
open Int.ofNat renaming inj->IV
open List renaming append_nil->E_,concat_eq_append->aaJ,drop->vC,drop_eq_getElem_cons->QM,drop_length->yz,drop_sublist->S6,drop_zero->OG,eq_nil_of_length_eq_zero->acM,eq_nil_or_concat->aaI,filterMap_cons->Nc,filterMap_map->AP,filter_cons_of_pos->S7,find?_cons->vb,find?_cons_of_neg->abg,find?_cons_of_pos->abf,getElem?_append_left->Pt,getElem?_eq_getElem->lr,getElem?_eq_none->aaU,getElem?_map->iB,getElem?_range->EB,getElem?_reverse->adw,length->jF,length_append->iK,length_cons->PL,length_drop->x7,length_filter_le->ae8,length_map->gJ,length_reverse->wm,length_take->OL,lookup->eS,map_append->rQ,map_cons->u_,map_drop->OO,mem_append_left->aa_,mem_cons->Ap,mem_cons_of_mem->eA,mem_cons_self->eU,mem_of_getElem?->yl,mem_of_mem_drop->Pz,not_mem_nil->vG,range->rJ,take_add_one->SE,take_of_length_le->GP,take_sublist->Jr
open List.cons renaming inj->rD,injEq->Nr
open Nat renaming add_add_add_comm->Q7,add_assoc->kF,add_comm->mu,add_le_add->aT,add_le_add_left->eP,add_le_add_right->vM,add_mul->BG,add_right_comm->FR,add_sub_cancel_left->aaZ,beq->iT,ble->jK,blt->fE,eq_of_beq_eq_true->xj,exists_eq_add_of_le'->l_,le_add_left->eh,le_add_right->cK,le_antisymm->x9,le_of_add_le_add_right->Eg,le_of_ble_eq_true->eV,le_of_eq->aU,le_of_lt->jo,le_of_lt_succ->Px,le_of_sub_eq_zero->acC,le_of_succ_le_succ->QI,le_refl->bK,le_sub_of_add_le->aaB,le_succ->gK,le_succ_of_le->Am,le_trans->Ψ,lt_add_of_pos_right->Ts,lt_irrefl->GW,lt_of_le_of_lt->cI,lt_of_lt_of_le->jI,lt_of_sub_eq_succ->hW,lt_of_succ_lt_succ->aft,lt_or_ge->yM,lt_succ_self->lu,lt_trans->aZ,min_le_right->Ou,mul_le_mul_left->v7,mul_le_mul_right->m5,ne_of_lt->gc,not_lt_zero->EM,one_mul->pC,sub_le->AS,succ_le_succ->kC,succ_lt_succ->ko,succ_ne_self->NV,zero_add->lW,zero_le->gj,zero_lt_one->QS,zero_mul->Bx
open Nat.succ renaming inj->yW
open Ne renaming symm->cP
open Option renaming bind_some->xN,getD_some->Br,map_some->Np
open Option.some renaming inj->bY
open Prod.mk renaming inj->eJ,injEq->Fj
open PyProof.Rows renaming getItem_tuple->X2,slot_tuple_getitem->OM,subscriptTail->GQ
open PySem renaming Around->bS,Flow->bJ,NameKind->nM,Operator->rE,OsState->gE,Params->aq,getMethod_builtin->X4,strKind->vk,World->eZ,assignEach->GH,assignInOrder->GF,backTo->og,binaryOp->mK,call_meetsIn->GK,closureFor->G5,codeAny->n9,codeAny_call_builtin->NW,compareOp->cJ,getAttr->lh,getMethod->Av,holding->rR,inplaceOp->rN,intKind->u4,isInstance->FY,letOwnedTupleGo->FQ,letTemporaryGo->Nv,noteFrame->u6,rawInt->iV,relabel->iF,setAttr->rT,sizeLine_eq->mR,starEach->kB,subscripted->Ge,wpAny_Assign_Name->Na,wpAny_allTrue_And_cons->Aw,wpAny_assign_Name->NI,wpAny_bind->Δ,wpAny_callSpecial?_slot->FU,wpAny_call_entry->xR,wpAny_comprehension_free->aaq,wpAny_execs_cons->EJ,wpAny_execs_nil->Ah,wpAny_field->jm,wpAny_holding->gY,wpAny_isSubtype_exc->N_,wpAny_isTrue_BoolOp->Nx,wpAny_letTemporaryGo->Nw,wpAny_loadPart->FD,wpAny_loadPart_at->xV,wpAny_mono->cD,wpAny_newObj_type->pd,wpAny_operateT->Ny,wpAny_pure->aL,wpAny_setField->xC,wpAny_standAt->l5
open HD.zzz
open PySem.Builtin.Slice renaming sliceAdjust->OJ,slicePlaces->GS
open PySem.Builtin.Tuple renaming tupleExact->GU
open PySem.DictEntry renaming refKey->WW
open PySem.EntryCells renaming newEntry->WK
open PySem.Env renaming kindOf->rK
open PySem.F renaming args_range_iterator_next_1->Xo,entry_dict_get->OE,entry_range_iterator_next->Xn,slot_dict_get->GL,slot_range_iterator_iter->Xm,slot_range_iterator_next->FV,store_object->AG
open PySem.Heap renaming ExtBut->AB,SameBut->n6,get?_none_of_le->mM,get?_push_of_some->ez,get?_push_size->fZ,get?_update_other->mL,get?_update_self->mO,lt_size->dO,size_after_update->WI,size_push->xA
open PySem.Heap.DictOf renaming new->agB
open PySem.Heap.IsSliceOf renaming new->agC
open PySem.Heap.SameBut renaming update->lj
open PySem.Obj renaming cls_mapFields->ES,data_mapFields->u7,isFreed_of_fields->xE,mapFields->rO,mapSeq->mS,putName->kD
open PySem.PyData renaming canLay0->Be,canLayAll0->i4,depthAll->TJ,eqv->eW,keyHash->zD
open PySem.SeqAt renaming readOf->aeU
open PySem.SeqRoads2.EqGives renaming str->ags
open PySem.Str renaming ofString->dy
open PySem.Value renaming isStrOf->OD
open PySem.W renaming findIn->dc,instObj->k9,looks_findIn->xT,typeIn->rS
open PySem.W.WShape renaming has->JT,hasItems->Ub
open PySem PySem.W PyProof.Rows PySem.Calls PySem.Spec
namespace Mine
theorem aH{p q X Y:Nat}(h:X<=Y)(k:p+Y<=q+X):p<=q:=Eg (Ψ k (eP h q))
theorem Ml{p q X Y:Nat}(h:X=Y)(k:p+Y=q+X):p=q:=Nat.add_right_cancel (k.trans (congrArg _ h))
theorem nF{P:Prop}(h:false=true):P:=lV h
theorem nT{P:Prop}(h:true=false):P:=lV h
theorem nN{α:Type _}{P:Prop}{a:α}(h:none=some a):P:=nomatch h
theorem nS{α:Type _}{P:Prop}{a:α}(h:some a=none):P:=nomatch h
theorem nC{α:Type _}{P:Prop}{a:α}{l:List α}(h:a::l=[]):P:=nomatch h
theorem nL{α:Type _}{P:Prop}{a:α}{l:List α}(h:[]=a::l):P:=nomatch h
theorem zU{i:Int}{p:Int->Prop}(n:Nat)(h0:0<=i)(h:i<n)(hp:∀k,k<n->p (k:Nat)):p i:=(xc h0).elim λ k e=>e▸hp k (Int.ofNat_lt.mp (e▸h))
theorem ks{n k:Nat}(h:n+1<=k):∃j,k=j+1:=⟨k-1,(Nat.sub_add_cancel (Ψ (eh 1 n) h)).symm⟩
theorem zW{n m:Nat}{k:Int}(h:n<m)(hk:(m:Int)<=k):(n:Int)<k:=xe (Int.ofNat_lt.mpr h) hk
theorem ile{n m:Nat}{k:Int}(h:n<=m)(hk:(m:Int)<=k):(n:Int)<=k:=ji (Int.ofNat_le.mpr h) hk
theorem xf{n:Nat}:((n+1:Nat):Int)-1=n:=Mm (n:Int) 1
theorem nlt{n m:Nat}{k:Nat}(h:n<=m)(hk:m<k):n<k:=cI h hk
theorem VH{P:Prop}{X Y:Nat}(h:X<=Y)(k:Y+1<=X):P:=absurd (Ψ k h) (Nat.not_succ_le_self _)
theorem ag{p:Prop}{q:Prop}{C:Prop}(e:p/\q)(k:p->q->C):C:=k e.1 e.2
theorem Θ{α:Type _}{p:α->Prop}{C:Prop}(e:∃a,p a)(k:∀a,p a->C):C:=e.elim k
theorem fg{p:Prop}{q:Prop}{r:Prop}{C:Prop}(e:p/\q/\r)(k:p->q->r->C):C:=ag e.2 (k e.1)
theorem iS{α:Type _}{p:Prop}{q:α->Prop}{C:Prop}(e:p/\∃a,q a)(k:p->∀a,q a->C):C:=Θ e.2 (k e.1)
theorem ψ{α:Type _}{p:α->Prop}{q:α->Prop}{C:Prop}(e:∃a,p a/\q a)(k:∀a,p a->q a->C):C:=e.elim λ a z=>ag z (k a)
theorem km{α β:Type _}{p:α->β->Prop}{C:Prop}(e:∃a,∃b,p a b)(k:∀a,∀b,p a b->C):C:=e.elim λ a z=>Θ z (k a)
theorem kY{p:Prop}{q:Prop}{r:Prop}{s:Prop}{C:Prop}(e:p/\q/\r/\s)(k:p->q->r->s->C):C:=fg e.2 (k e.1)
theorem fh{α:Type _}{p:α->Prop}{q:α->Prop}{r:α->Prop}{C:Prop}(e:∃a,p a/\q a/\r a)(k:∀a,p a->q a->r a->C):C:=e.elim λ a z=>fg z (k a)
theorem c7{α β:Type _}{p:α->β->Prop}{q:α->β->Prop}{C:Prop}(e:∃a,∃b,p a b/\q a b)(k:∀a,∀b,p a b->q a b->C):C:=e.elim λ a z=>ψ z (k a)
theorem zX{α β γ:Type _}{p:α->β->γ->Prop}{C:Prop}(e:∃a,∃b,∃c,p a b c)(k:∀a,∀b,∀c,p a b c->C):C:=e.elim λ a z=>km z (k a)
theorem Mn{p:Prop}{q:Prop}{r:Prop}{s:Prop}{t:Prop}{C:Prop}(e:p/\q/\r/\s/\t)(k:p->q->r->s->t->C):C:=kY e.2 (k e.1)
theorem uX{α:Type _}{p:α->Prop}{q:α->Prop}{r:α->Prop}{s:α->Prop}{C:Prop}(e:∃a,p a/\q a/\r a/\s a)(k:∀a,p a->q a->r a->s a->C):C:=e.elim λ a z=>kY z (k a)
theorem dG{α β:Type _}{p:α->β->Prop}{q:α->β->Prop}{r:α->β->Prop}{C:Prop}(e:∃a,∃b,p a b/\q a b/\r a b)(k:∀a,∀b,p a b->q a b->r a b->C):C:=e.elim λ a z=>fh z (k a)
theorem nR{α β γ:Type _}{p:α->β->γ->Prop}{q:α->β->γ->Prop}{C:Prop}(e:∃a,∃b,∃c,p a b c/\q a b c)(k:∀a,∀b,∀c,p a b c->q a b c->C):C:=e.elim λ a z=>c7 z (k a)
theorem Mo{α:Type _}{p:α->Prop}{q:α->Prop}{r:α->Prop}{s:α->Prop}{t:α->Prop}{C:Prop}(e:∃a,p a/\q a/\r a/\s a/\t a)(k:∀a,p a->q a->r a->s a->t a->C):C:=e.elim λ a z=>Mn z (k a)
theorem Eh{α β:Type _}{p:α->β->Prop}{q:α->β->Prop}{r:α->β->Prop}{s:α->β->Prop}{C:Prop}(e:∃a,∃b,p a b/\q a b/\r a b/\s a b)(k:∀a,∀b,p a b->q a b->r a b->s a b->C):C:=e.elim λ a z=>uX z (k a)
theorem o8{α β γ:Type _}{p:α->β->γ->Prop}{q:α->β->γ->Prop}{r:α->β->γ->Prop}{C:Prop}(e:∃a,∃b,∃c,p a b c/\q a b c/\r a b c)(k:∀a,∀b,∀c,p a b c->q a b c->r a b c->C):C:=e.elim λ a z=>dG z (k a)
theorem xg{α β:Type _}{p:α->β->Prop}{q:α->β->Prop}{r:α->β->Prop}{s:α->β->Prop}{t:α->β->Prop}{C:Prop}(e:∃a,∃b,p a b/\q a b/\r a b/\s a b/\t a b)(k:∀a,∀b,p a b->q a b->r a b->s a b->t a b->C):C:=e.elim λ a z=>Mo z (k a)
theorem Ei{α β γ:Type _}{p:α->β->γ->Prop}{q:α->β->γ->Prop}{r:α->β->γ->Prop}{s:α->β->γ->Prop}{C:Prop}(e:∃a,∃b,∃c,p a b c/\q a b c/\r a b c/\s a b c)(k:∀a,∀b,∀c,p a b c->q a b c->r a b c->s a b c->C):C:=e.elim λ a z=>Eh z (k a)
theorem nU{α β γ δ:Type _}{p:α->β->γ->δ->Prop}{q:α->β->γ->δ->Prop}{r:α->β->γ->δ->Prop}{C:Prop}(e:∃a,∃b,∃c,∃d,p a b c d/\q a b c d/\r a b c d)(k:∀a,∀b,∀c,∀d,p a b c d->q a b c d->r a b c d->C):C:=e.elim λ a z=>o8 z (k a)
theorem VI{α β γ:Type _}{p:α->β->γ->Prop}{q:α->β->γ->Prop}{r:α->β->γ->Prop}{s:α->β->γ->Prop}{t:α->β->γ->Prop}{C:Prop}(e:∃a,∃b,∃c,p a b c/\q a b c/\r a b c/\s a b c/\t a b c)(k:∀a,∀b,∀c,p a b c->q a b c->r a b c->s a b c->t a b c->C):C:=e.elim λ a z=>xg z (k a)
theorem Mp{α β γ δ:Type _}{p:α->β->γ->δ->Prop}{q:α->β->γ->δ->Prop}{r:α->β->γ->δ->Prop}{s:α->β->γ->δ->Prop}{C:Prop}(e:∃a,∃b,∃c,∃d,p a b c d/\q a b c d/\r a b c d/\s a b c d)(k:∀a,∀b,∀c,∀d,p a b c d->q a b c d->r a b c d->s a b c d->C):C:=e.elim λ a z=>Ei z (k a)
theorem zY{α β γ δ ε:Type _}{p:α->β->γ->δ->ε->Prop}{q:α->β->γ->δ->ε->Prop}{r:α->β->γ->δ->ε->Prop}{C:Prop}(e:∃a,∃b,∃c,∃d,∃e,p a b c d e/\q a b c d e/\r a b c d e)(k:∀a,∀b,∀c,∀d,∀e,p a b c d e->q a b c d e->r a b c d e->C):C:=e.elim λ a z=>nU z (k a)
theorem xh{α β γ δ:Type _}{p:α->β->γ->δ->Prop}{q:α->β->γ->δ->Prop}{r:α->β->γ->δ->Prop}{s:α->β->γ->δ->Prop}{t:α->β->γ->δ->Prop}{C:Prop}(e:∃a,∃b,∃c,∃d,p a b c d/\q a b c d/\r a b c d/\s a b c d/\t a b c d)(k:∀a,∀b,∀c,∀d,p a b c d->q a b c d->r a b c d->s a b c d->t a b c d->C):C:=e.elim λ a z=>VI z (k a)
theorem rB{α β γ δ ε:Type _}{p:α->β->γ->δ->ε->Prop}{q:α->β->γ->δ->ε->Prop}{r:α->β->γ->δ->ε->Prop}{s:α->β->γ->δ->ε->Prop}{C:Prop}(e:∃a,∃b,∃c,∃d,∃e,p a b c d e/\q a b c d e/\r a b c d e/\s a b c d e)(k:∀a,∀b,∀c,∀d,∀e,p a b c d e->q a b c d e->r a b c d e->s a b c d e->C):C:=e.elim λ a z=>Mp z (k a)
theorem VJ{α β γ δ ε:Type _}{p:α->β->γ->δ->ε->Prop}{q:α->β->γ->δ->ε->Prop}{r:α->β->γ->δ->ε->Prop}{s:α->β->γ->δ->ε->Prop}{t:α->β->γ->δ->ε->Prop}{C:Prop}(e:∃a,∃b,∃c,∃d,∃e,p a b c d e/\q a b c d e/\r a b c d e/\s a b c d e/\t a b c d e)(k:∀a,∀b,∀c,∀d,∀e,p a b c d e->q a b c d e->r a b c d e->s a b c d e->t a b c d e->C):C:=e.elim λ a z=>xh z (k a)
theorem xi{α β γ δ ε ζ:Type _}{p:α->β->γ->δ->ε->ζ->Prop}{q:α->β->γ->δ->ε->ζ->Prop}{r:α->β->γ->δ->ε->ζ->Prop}{s:α->β->γ->δ->ε->ζ->Prop}{C:Prop}(e:∃a,∃b,∃c,∃d,∃e,∃f,p a b c d e f/\q a b c d e f/\r a b c d e f/\s a b c d e f)(k:∀a,∀b,∀c,∀d,∀e,∀f,p a b c d e f->q a b c d e f->r a b c d e f->s a b c d e f->C):C:=e.elim λ a z=>rB z (k a)
theorem zZ{α β γ δ ε ζ:Type _}{p:α->β->γ->δ->ε->ζ->Prop}{q:α->β->γ->δ->ε->ζ->Prop}{r:α->β->γ->δ->ε->ζ->Prop}{s:α->β->γ->δ->ε->ζ->Prop}{t:α->β->γ->δ->ε->ζ->Prop}{C:Prop}(e:∃a,∃b,∃c,∃d,∃e,∃f,p a b c d e f/\q a b c d e f/\r a b c d e f/\s a b c d e f/\t a b c d e f)(k:∀a,∀b,∀c,∀d,∀e,∀f,p a b c d e f->q a b c d e f->r a b c d e f->s a b c d e f->t a b c d e f->C):C:=e.elim λ a z=>VJ z (k a)
theorem Ej{α β γ δ ε ζ η:Type _}{p:α->β->γ->δ->ε->ζ->η->Prop}{q:α->β->γ->δ->ε->ζ->η->Prop}{r:α->β->γ->δ->ε->ζ->η->Prop}{s:α->β->γ->δ->ε->ζ->η->Prop}{t:α->β->γ->δ->ε->ζ->η->Prop}{C:Prop}(e:∃a,∃b,∃c,∃d,∃e,∃f,∃g,p a b c d e f g/\q a b c d e f g/\r a b c d e f g/\s a b c d e f g/\t a b c d e f g)(k:∀a,∀b,∀c,∀d,∀e,∀f,∀g,p a b c d e f g->q a b c d e f g->r a b c d e f g->s a b c d e f g->t a b c d e f g->C):C:=e.elim λ a z=>zZ z (k a)
noncomputable abbrev PW:Program:=PySem.Challenge.pw_pc0115_01
noncomputable abbrev Sn(l:List Nat):Str:=⟨⟨l⟩⟩
noncomputable def NT:List Str:=[aR,pW,tH,pX,Cp,pY,gD,zs8,bo,tI,tJ,tK,zE,Cq,aW,Sn [112,111,112],Sn [97,112,112,101,110,100],Sn [108,101,110],JW,tM,Cr,kR,tN,wH,CD,CC,Cz,CH,CF,CG,tO,zF,wK,J3,J6,J1,J5,J2,zG,J4,J0,C_,tQ,J',J_,qa,tR,wL,qb,Dd,qc,jc,Di,qd,Kb,Dn,tP,Dg,qe,qh,lR,qi,fC,Kc,iR,Sn [105,110,116],Dq,qj,qk,ql,gn,Dr,cg,Dj,Kd,wM,qo,Dk,wN,wO,qp,zL,qq,Df,tT,Ke,Dh,tU,Kf,Dl,tV,kf,Kk,qr,ay,kS,Km,Kv,wU,KG,Kz,tX,KA,DB,zK,Kw,DI,DJ,KH,mD,KC,Ku,Kt,qs,Ky,qt,Kx,qv,KD,tW,tZ,t8,ba,wQ,t_,wR,p_,tY,wV,Sn [103,101,116],pZ,Sn [115,116,114],CB,kg,Dm,oV,lS,qw,qx,Cy,Cw,De,Cu,qy,qA,uc,Ds,Dy,qB,qC,ud,Sn [46,48],Dt,Sn [105,116,101,109],Sn [102,97,115,116],oW,Cs,Ct,Cv,qz,uf,CA,ue,ug,d_,oU,qD,Du,DM,qE,nH,qF,qG,qH,qI,CK,C3,C4,CL,qJ,qK,DD,qL,DN,zJ,qN,wW,qM,DA,Dz,DO,qO,Dv,qQ,Dw,qR,Dx,qS,qT,fD,jA,jd,CY,Sn [105,115,105,110,115,116,97,110,99,101],uh,ui,CV,CW,CX,CZ,uj,DT,DV,DU,uk,um,uo,CI,uq,qU,DW,qV,qW,qX,Sn [108,105,98,114,97,114,121],Sn [115,111,114,116,101,100],Sn [118,97,108,117,101,115],tS,Sn [114,97,110,103,101],nI,qY,qZ,rg,rj,rk,CM,q_,CN,CO,rh,CP,CQ,rl,DX,K_,K',rm,DY,ur,uu,ux,CS,uy,uz,zO,uA,DZ,uB,uC,C1,uD,nJ,uE,D0,zP,uF,wX,wY,Sn [99,111,117,110,116],uH,Le,jB,uG,uI,uJ,uK,C2,Lg,Lh,Li,DG,Lj,CJ,Lk,Ll,Lm,Ln,CU,nK,Lo,uM,uL,Sn [102,114,97,109,101,115],oZ,uP,Sn [119,97,121,115],oY,oX,Sn [105,110,100,101,120],zs3,uO,uN,uQ,uR,Lp,uS,Lr,uT,uU,Ls,Lu,Lv,uV,Lw,Ly,Lz,LA,rn]
noncomputable def rC:List Nat->List Nat->Bool
 | [],[]=>true
 |a::x,b::y=>match iT a b with
  |true=>rC x y
  |false=>false
 |_,_=>false
theorem VL:∀{x y:List Nat},rC x y=true↔x=y:=by
 intro x
 induction x with
 |nil=>intro y;cases y with
  |nil=>exact⟨λ _=>rfl,λ _=>rfl⟩
  |cons b y=>exact⟨λ h=>nF h,λ h=>nL h⟩
 |cons a x ih=>intro y;cases y with
  |nil=>exact⟨λ h=>nF h,λ h=>nC h⟩
  |cons b y=>
   have e:rC (a::x) (b::y)=(match iT a b with|true=>rC x y |false=>false):=rfl
   rw[e]
   cases h:iT a b with
   |true=>exact⟨λ k=>xj h▸congrArg (a::·) (ih.mp k),λ k=>ih.mpr (rD k).2⟩
   |false=>exact⟨λ k=>nF k,λ k=>absurd (rD k).1 (Nat.ne_of_beq_eq_false h)⟩
noncomputable def z0:List Str->Nat->List Nat->Option Nat
 | [],_,_=>none
 |s::r,n,x=>match rC s.cps.toList x with
  |true=>some n
  |false=>z0 r (n+1) x
noncomputable def codeOf(x:Str):Option Nat:=z0 NT 0 x.cps.toList
noncomputable def Ek:List Str->Nat->Str
 | [],_=>⟨⟨[]⟩⟩
 |s::_,0=>s
 |_::r,n+1=>Ek r n
noncomputable def N(i:Nat):Str:=Ek NT i
theorem VM{l:List Str}{x:Str}{i:Nat}:∀{n:Nat},z0 l n x.cps.toList=some i->∃j,n+j=i/\j<l.length/\Ek l j=x:=by
 induction l with
 |nil=>exact λ h=>nN h
 |cons s r ih=>
  intro n h
  have h:(match rC s.cps.toList x.cps.toList with|true=>some n |false=>z0 r (n+1) x.cps.toList)=some i:=h
  cases e:rC s.cps.toList x.cps.toList with
  |true=>rw[e]at h;exact⟨0,bY h,Nat.succ_pos _,congrArg (λ l=>(⟨⟨l⟩⟩:Str)) (VL.mp e)⟩
  |false=>rw[e]at h;exact fh (ih h) λ j a b c=>⟨j+1,(Nat.succ_add n j).symm.trans a,ko b,c⟩
theorem nV{x:Str}{i:Nat}(h:codeOf x=some i):i<NT.length/\N i=x:=
 fh (VM h) λ j a b c=>(lW j).symm.trans a▸⟨b,c⟩
inductive PE where
 |az |kp (b:Bool)|int (i:Int)|str (s:Str)
 |θ (i:Nat)|ς (i:Nat)
 |bin (op:rE) (l r:PE)
 |neg (x:PE)|not (x:PE)
 |υ (l:PE) (op:CmpOp) (r:PE)
 |nW (a:PE) (o1:CmpOp) (b:PE) (o2:CmpOp) (c:PE)
 |band (l r:PE)|bor (l r:PE)|mE (a b c:PE)|fU (a b c:PE)
 |bG (t a b:PE)
 |φ (es:List PE)|κ (es:List PE)|gG
 |π (e:PE) (i:Nat)
 |sub (e s:PE)
 |dT (e:PE) (lo hi:Option PE) (st:Option PE)
 |call (f:Nat) (as:List PE)
 |au (o:PE) (i:Nat) (as:List PE)
 |comp (elt:PE) (xk:Nat) (src:PE) (ifs:List PE)
inductive PS where
 |expr (e:PE)
 |Φ (i:Nat) (e:PE)
 |aK (o:PE) (i:Nat) (e:PE)
 |bR (o s:PE) (e:PE)
 |lX (i j:Nat) (e:PE)
 |nX (i j k:Nat) (e:PE)
 |aug (i:Nat) (op:rE) (e:PE)
 |ku (o:PE) (i:Nat) (op:rE) (e:PE)
 |mF (o s:PE) (op:rE) (e:PE)
 |ret (e:PE)|dN
 |iff (t:PE) (a b:List PS)
 |fV (t:PE) (a:List PS)
 |fj (i:Nat) (e:PE) (a:List PS)
 |rF (i j:Nat) (e:PE) (a:List PS)
 |jj (a f:List PS)
 |mG (a:List PS) (cls:PE) (nm:Nat) (h:List PS)
 |mH (e:PE)
 |cont |VN
 |z_ (o s:PE)
structure Lf where
 (p q r s u:Pos)
 k:Nat
 sc:Scope
noncomputable abbrev Dc:=List Nat->Lf
noncomputable def kd(d:Dc)(i:Nat):Dc:=λ l=>d (i::l)
noncomputable def uY:Option nM->Bool |some .local=>true |_=>false
noncomputable def Aa:Option nM->Bool |some .globalImplicit=>true |_=>false
theorem xl{x:Option nM}(h:uY x=true):x=some .local:=by
 cases x with
 |none=>exact nF h
 |some y=>cases y with
  | «local»=>rfl
  |_=>exact nF h
theorem El{x:Option nM}(h:Aa x=true):x=some .globalImplicit:=by
 cases x with
 |none=>exact nF h
 |some y=>cases y with
  |globalImplicit=>rfl
  |_=>exact nF h
noncomputable def fW(sc:Scope)(x:Str):Option Nat:=cond (uY (sc.names.lookup x)) (codeOf x) none
noncomputable def rG(sc:Scope)(x:Str):Option Nat:=cond (Aa (sc.names.lookup x)) (codeOf x) none
noncomputable def jk(sc:Scope)(i:Nat):Bool:=uY (sc.names.lookup (N i))&&fE i 318
noncomputable def Ab(sc:Scope)(i:Nat):Bool:=Aa (sc.names.lookup (N i))&&fE i 318
noncomputable def Em:ScopeKind->Bool | .function=>true |_=>false
theorem Mq{x:ScopeKind}(h:Em x=true):x=.function:=by
 cases x with
 |function=>rfl
 |_=>exact nF h
noncomputable def Mr(sc:Scope)(x:Str×nM):Bool:=(uY (some x.2)&&uY (sc.names.lookup x.1))||Aa (some x.2)
noncomputable def Eo(sc:Scope):Bool:=Em sc.kind&&sc.names.all (Mr sc)&&!sc.isGenerator&&!sc.isCoroutine
mutual
noncomputable def ins:PE->Dc->Expr
 | .az,d=>.Constant .none (d []).k (d []).p
 | .kp b,d=>.Constant (.bool b) (d []).k (d []).p
 | .int i,d=>.Constant (.int i) (d []).k (d []).p
 | .str x,d=>.Constant (.str x) (d []).k (d []).p
 | .θ i,d=>.Name (N i) (d []).p
 | .ς i,d=>.Name (N i) (d []).p
 | .bin op l r,d=>.BinOp (ins l (kd d 0)) op (ins r (kd d 1)) (d []).p
 | .neg x,d=>.UnaryOp .USub (ins x (kd d 0)) (d []).p
 | .not x,d=>.UnaryOp .Not (ins x (kd d 0)) (d []).p
 | .υ l op r,d=>.Compare (ins l (kd d 0)) [op] [ins r (kd d 1)] (d []).p
 | .nW a o1 b o2 c,d=>.Compare (ins a (kd d 0)) [o1,o2] [ins b (kd d 1),ins c (kd d 2)] (d []).p
 | .band l r,d=>.BoolOp .And [ins l (kd d 0),ins r (kd d 1)] (d []).p
 | .bor l r,d=>.BoolOp .Or [ins l (kd d 0),ins r (kd d 1)] (d []).p
 | .fU a b c,d=>.BoolOp .And [ins a (kd d 0),ins b (kd d 1),ins c (kd d 2)] (d []).p
 | .mE a b c,d=>.BoolOp .Or [ins a (kd d 0),ins b (kd d 1),ins c (kd d 2)] (d []).p
 | .bG t a b,d=>.IfExp (ins t (kd d 0)) (ins a (kd d 1)) (ins b (kd d 2)) (d []).p
 | .φ es,d=>.Tuple (dE es d 0) (d []).k (d []).p
 | .κ es,d=>.List (dE es d 0) (d []).p
 | .gG,d=>.Dict [] [] (d []).p
 | .π o i,d=>.Attribute (ins o (kd d 0)) (N i) (d []).p
 | .sub v x,d=>.Subscript (ins v (kd d 0)) (ins x (kd d 1)) (d []).p
 | .dT v lo hi st,d=>.Subscript (ins v (kd d 0)) (.Slice (Ac lo (kd d 1)) (Ac hi (kd d 2)) (Ac st (kd d 3)) (d []).q) (d []).p
 | .call f es,d=>.Call (.Name (N f) (d []).q) (dE es d 0) [] (d []).p
 | .au o i es,d=>.Call (.Attribute (ins o (kd d 0)) (N i) (d []).q) (dE es d 1) [] (d []).p
 | .comp y t x z,d=>.ListComp (ins y (kd d 0)) [⟨.Name (N t) (d []).q,ins x (kd d 1),dE z d 2,0⟩] (d []).sc (d []).p
noncomputable def dE:List PE->Dc->Nat->List Expr
 | [],_,_=>[]
 |e::r,d,i=>ins e (kd d i)::dE r d (i+1)
noncomputable def Ac:Option PE->Dc->Option Expr
 |none,_=>none
 |some e,d=>some (ins e d)
end
mutual
noncomputable def aX:Scope->PE->Dc->Bool
 |sc,.θ i,_=>jk sc i
 |sc,.ς i,_=>Ab sc i
 |sc,.bin _ l r,d=>aX sc l (kd d 0)&&aX sc r (kd d 1)
 |sc,.neg x,d=>aX sc x (kd d 0)
 |sc,.not x,d=>aX sc x (kd d 0)
 |sc,.υ l _ r,d=>aX sc l (kd d 0)&&aX sc r (kd d 1)
 |sc,.nW a _ b _ c,d=>aX sc a (kd d 0)&&(aX sc b (kd d 1)&&aX sc c (kd d 2))
 |sc,.band l r,d=>aX sc l (kd d 0)&&aX sc r (kd d 1)
 |sc,.bor l r,d=>aX sc l (kd d 0)&&aX sc r (kd d 1)
 |sc,.fU a b c,d=>aX sc a (kd d 0)&&(aX sc b (kd d 1)&&aX sc c (kd d 2))
 |sc,.mE a b c,d=>aX sc a (kd d 0)&&(aX sc b (kd d 1)&&aX sc c (kd d 2))
 |sc,.bG t a b,d=>aX sc t (kd d 0)&&(aX sc a (kd d 1)&&aX sc b (kd d 2))
 |sc,.φ es,d=>rH sc es d 0
 |sc,.κ es,d=>rH sc es d 0
 |sc,.π o i,d=>aX sc o (kd d 0)&&fE i 318
 |sc,.sub v x,d=>aX sc v (kd d 0)&&aX sc x (kd d 1)
 |sc,.dT v lo hi st,d=>aX sc v (kd d 0)&&(Ad sc lo (kd d 1)&&(Ad sc hi (kd d 2)&&Ad sc st (kd d 3)))
 |sc,.call f es,d=>Ab sc f&&rH sc es d 0
 |sc,.au o i es,d=>iT (d []).q.endLine (d []).p.line&&(aX sc o (kd d 0)&&(fE i 318&&rH sc es d 1))
 |sc,.comp y t x z,d=>Eo (d []).sc&&(aX (d []).sc y (kd d 0)&&(jk (d []).sc t&&(aX sc x (kd d 1)&&rH (d []).sc z d 2)))
 |_,_,_=>true
noncomputable def rH:Scope->List PE->Dc->Nat->Bool
 |_,[],_,_=>true
 |sc,e::r,d,i=>aX sc e (kd d i)&&rH sc r d (i+1)
noncomputable def Ad:Scope->Option PE->Dc->Bool
 |_,none,_=>true
 |sc,some e,d=>aX sc e d
end
mutual
noncomputable def Mu:PS->Dc->Stmt
 | .expr e,d=>.Expr (ins e (kd d 0)) (d []).p
 | .Φ i e,d=>.Assign [.Name (N i) (d []).q] (ins e (kd d 0)) (d []).p
 | .aK o i e,d=>.Assign [.Attribute (ins o (kd d 1)) (N i) (d []).q] (ins e (kd d 0)) (d []).p
 | .bR o x e,d=>.Assign [.Subscript (ins o (kd d 1)) (ins x (kd d 2)) (d []).q] (ins e (kd d 0)) (d []).p
 | .lX i j e,d=>.Assign [.Tuple [.Name (N i) (d []).q,.Name (N j) (d []).r] (d []).k (d []).u] (ins e (kd d 0)) (d []).p
 | .nX i j k e,d=>.Assign [.Tuple [.Name (N i) (d []).q,.Name (N j) (d []).r,.Name (N k) (d []).s] (d []).k (d []).u] (ins e (kd d 0)) (d []).p
 | .aug i op e,d=>.AugAssign (.Name (N i) (d []).q) op (ins e (kd d 0)) (d []).p
 | .ku o i op e,d=>.AugAssign (.Attribute (ins o (kd d 1)) (N i) (d []).q) op (ins e (kd d 0)) (d []).p
 | .mF o x op e,d=>.AugAssign (.Subscript (ins o (kd d 1)) (ins x (kd d 2)) (d []).q) op (ins e (kd d 0)) (d []).p
 | .ret e,d=>.Return (some (ins e (kd d 0))) (d []).p
 | .dN,d=>.Return none (d []).p
 | .iff t a b,d=>.If (ins t (kd d 0)) (kZ a (kd d 1) 0) (kZ b (kd d 2) 0) (d []).p
 | .fV t a,d=>.While (ins t (kd d 0)) (kZ a (kd d 1) 0) [] (d []).p
 | .fj i e a,d=>.For (.Name (N i) (d []).q) (ins e (kd d 0)) (kZ a (kd d 1) 0) [] (d []).p
 | .rF i j e a,d=>.For (.Tuple [.Name (N i) (d []).q,.Name (N j) (d []).r] (d []).k (d []).u) (ins e (kd d 0)) (kZ a (kd d 1) 0) [] (d []).p
 | .jj a f,d=>.Try (kZ a (kd d 1) 0) [] [] (kZ f (kd d 2) 0) (d []).p
 | .mG a c i h,d=>.Try (kZ a (kd d 1) 0) [.ExceptHandler (some (ins c (kd d 0))) (some (N i)) (kZ h (kd d 2) 0) (d []).q] [] [] (d []).p
 | .mH e,d=>.Raise (some (ins e (kd d 0))) none (d []).p
 | .cont,d=>.Continue (d []).p
 | .VN,d=>.Pass (d []).p
 | .z_ o x,d=>.Delete [.Subscript (ins o (kd d 0)) (ins x (kd d 1)) (d []).q] (d []).p
noncomputable def kZ:List PS->Dc->Nat->List Stmt
 | [],_,_=>[]
 |e::r,d,i=>Mu e (kd d i)::kZ r d (i+1)
end
mutual
noncomputable def Mv:Scope->PS->Dc->Bool
 |sc,.expr e,d=>aX sc e (kd d 0)
 |sc,.Φ i e,d=>jk sc i&&aX sc e (kd d 0)
 |sc,.aK o i e,d=>aX sc o (kd d 1)&&(fE i 318&&aX sc e (kd d 0))
 |sc,.bR o x e,d=>aX sc o (kd d 1)&&(aX sc x (kd d 2)&&aX sc e (kd d 0))
 |sc,.lX i j e,d=>jk sc i&&(jk sc j&&aX sc e (kd d 0))
 |sc,.nX i j k e,d=>jk sc i&&(jk sc j&&(jk sc k&&aX sc e (kd d 0)))
 |sc,.aug i _ e,d=>jk sc i&&aX sc e (kd d 0)
 |sc,.ku o i _ e,d=>aX sc o (kd d 1)&&(fE i 318&&aX sc e (kd d 0))
 |sc,.mF o x _ e,d=>aX sc o (kd d 1)&&(aX sc x (kd d 2)&&aX sc e (kd d 0))
 |sc,.ret e,d=>aX sc e (kd d 0)
 |sc,.iff t a b,d=>aX sc t (kd d 0)&&(k8 sc a (kd d 1) 0&&k8 sc b (kd d 2) 0)
 |sc,.fV t a,d=>aX sc t (kd d 0)&&k8 sc a (kd d 1) 0
 |sc,.fj i e a,d=>jk sc i&&(aX sc e (kd d 0)&&k8 sc a (kd d 1) 0)
 |sc,.rF i j e a,d=>jk sc i&&(jk sc j&&(aX sc e (kd d 0)&&k8 sc a (kd d 1) 0))
 |sc,.jj a f,d=>k8 sc a (kd d 1) 0&&k8 sc f (kd d 2) 0
 |sc,.mG a c i h,d=>k8 sc a (kd d 1) 0&&(aX sc c (kd d 0)&&(jk sc i&&k8 sc h (kd d 2) 0))
 |sc,.mH e,d=>aX sc e (kd d 0)
 |sc,.z_ o x,d=>aX sc o (kd d 0)&&aX sc x (kd d 1)
 |_,_,_=>true
noncomputable def k8:Scope->List PS->Dc->Nat->Bool
 |_,[],_,_=>true
 |sc,e::r,d,i=>Mv sc e (kd d i)&&k8 sc r d (i+1)
end
noncomputable def xm:Pos:=⟨0,0,0,0⟩
noncomputable def dH(p:Pos):Lf:=⟨p,p,p,p,p,0,{kind:=.function,names:=[],isGenerator:=false,isCoroutine:=false}⟩
noncomputable def gH:List Expr->Nat->Expr
 | [],_=>.Constant .none 0 xm
 |e::_,0=>e
 |_::r,n+1=>gH r n
noncomputable def uZ:Option Expr->Expr
 |some e=>e
 |none=>.Constant .none 0 xm
noncomputable def vE(e:Expr):List Expr×Nat×Lf:=match e with
 | .Constant _ k p=>([],0,{dH p with k:=k})
 | .BinOp l _ r p=>([l,r],0,dH p)
 | .UnaryOp _ x p=>([x],0,dH p)
 | .Compare l _ rs p=>(l::rs,0,dH p)
 | .BoolOp _ rs p=>(rs,0,dH p)
 | .IfExp t a b p=>([t,a,b],0,dH p)
 | .Tuple es k p=>(es,4,{dH p with k:=k})
 | .List es p=>(es,0,dH p)
 | .Attribute o _ p=>([o],2,dH p)
 | .Slice a b c p=>([uZ a,uZ b,uZ c],1,dH p)
 | .Subscript v s p=>([v,s],3,{dH p with q:=s.pos})
 | .Call f es _ p=>(f::es,5,{dH p with q:=f.pos})
 | .ListComp e gs sc p=>(match gs with
  |g::_=>(e::g.iter::g.ifs,0,{dH p with q:=g.target.pos,sc:=sc})
  | []=>([e],0,dH p))
 |e=>([],0,dH e.pos)
noncomputable def VO(e:Expr):Lf:=(vE e).2.2
noncomputable def VP(e:Expr)(i:Nat):Expr:=
 cond (iT (vE e).2.1 3) (gH (gH (vE e).1 0::cond (iT (vE (gH (vE e).1 1)).2.1 1) (vE (gH (vE e).1 1)).1 [gH (vE e).1 1]) i)
 (cond (iT (vE e).2.1 5) (gH (cond (iT (vE (gH (vE e).1 0)).2.1 2) ((vE (gH (vE e).1 0)).1++(vE e).1.tail) (vE e).1.tail) i)
 (gH (vE e).1 i))
noncomputable def dec(e:Expr):List Nat->Lf
 | []=>VO e
 |i::l=>dec (VP e i) l
noncomputable def xk(t:Expr)(l:Lf):Lf:=
 cond (iT (vE t).2.1 4) {l with q:=(gH (vE t).1 0).pos,r:=(gH (vE t).1 1).pos,s:=(gH (vE t).1 2).pos,k:=(vE t).2.2.k,u:=(vE t).2.2.p} {l with q:=t.pos}
noncomputable def vS(s:Stmt):List Expr×List (List Stmt)×Lf:=match s with
 | .Expr e p=>([e],[],dH p)
 | .Assign ts e p=>(e::(vE (gH ts 0)).1,[],xk (gH ts 0) (dH p))
 | .AugAssign t _ e p=>(e::(vE t).1,[],xk t (dH p))
 | .Return e p=>([uZ e],[],dH p)
 | .If t a b p=>([t],[a,b],dH p)
 | .While t a _ p=>([t],[a],dH p)
 | .For t e a _ p=>([e],[a],xk t (dH p))
 | .Try a hs _ f p=>(match hs with
  | .ExceptHandler c _ h q::_=>([uZ c],[a,h],{dH p with q:=q})
  | []=>([],[a,f],dH p))
 | .Raise e _ p=>([uZ e],[],dH p)
 | .Delete ts p=>((vE (gH ts 0)).1,[],xk (gH ts 0) (dH p))
 | .Continue p=>([],[],dH p)
 | .Pass p=>([],[],dH p)
 |_=>([],[],dH xm)
noncomputable def xn:List Stmt->Nat->Stmt
 | [],_=>.Pass xm
 |e::_,0=>e
 |_::r,n+1=>xn r n
noncomputable def Mw:List (List Stmt)->Nat->List Stmt
 | [],_=>[]
 |e::_,0=>e
 |_::r,n+1=>Mw r n
noncomputable def Ep(ss:List Stmt):List Nat->Lf
 | []=>dH xm
 | [j]=>(vS (xn ss j)).2.2
 |j::i::l=>match(vS (xn ss j)).2.1 with
  | []=>dec (gH (vS (xn ss j)).1 i) l
  |b::bs=>match i with
   |0=>dec (gH (vS (xn ss j)).1 0) l
   |i+1=>Ep (Mw (b::bs) i) l
end Mine
namespace HD
open zzx zzw zzv zz0
noncomputable def gt:List Obj->Nat->Obj
 | [],_=>⟨.none,none,.plain,⟨[]⟩⟩
 |o::_,0=>o
 |_::r,n+1=>gt r n
noncomputable def KK(P:aq):Frag:=[(0,boot_o_0 P),(3,D3 P),(34,gt (jf P) 19),(35,gt (jf P) 20),(37,gt (jf P) 22),(38,gt (jf P) 23),(48,gt (jf P) 33),(49,gt (jf P) 34),(55,gt (jf P) 40),(56,gt (jf P) 41),(62,gt (jf P) 47),(63,gt (jf P) 48),(69,gt (jf P) 54),(70,gt (jf P) 55),(76,gt (jf P) 61),(77,gt (jf P) 62),(94,gt (uW P) 16),(95,LJ P),(115,gt (uW P) 37),(116,gt (uW P) 38),(135,gt (uW P) 57),(136,gt (uW P) 58),(155,gt (nO P) 16),(156,gt (nO P) 17),(175,gt (nO P) 36),(176,gt (nO P) 37),(191,gt (nO P) 52),(192,gt (nO P) 53),(194,gt (nO P) 55),(195,gt (nO P) 56),(212,gt (dM P) 12),(213,gt (dM P) 13),(215,gt (dM P) 15),(216,gt (dM P) 16),(233,gt (dM P) 33),(234,gt (dM P) 34),(236,gt (dM P) 36),(237,gt (dM P) 37),(247,gt (dM P) 47),(248,gt (dM P) 48),(254,gt (dM P) 54),(255,gt (dM P) 55),(261,gt (dM P) 61),(262,gt (dM P) 62),(268,gt (dM P) 68),(269,gt (dM P) 69),(275,gt (dM P) 75),(276,gt (dM P) 76),(282,gt (dM P) 82),(283,gt (dM P) 83),(296,gt (dM P) 96),(297,gt (dM P) 97),(310,gt (dM P) 110),(311,gt (dM P) 111),(331,gt (dM P) 131),(332,gt (dM P) 132),(338,gt (dM P) 138),(339,gt (dM P) 139),(350,gt (kh P) 10),(351,gt (kh P) 11),(357,gt (kh P) 17),(358,gt (kh P) 18),(364,gt (kh P) 24),(365,gt (kh P) 25),(378,gt (kh P) 38),(379,gt (kh P) 39),(381,gt (kh P) 41),(382,gt (kh P) 42),(401,gt (kh P) 61),(402,L2 P),(422,gt (kh P) 82),(423,L7 P),(443,gt (lU P) 15),(444,gt (lU P) 16),(461,gt (lU P) 33),(462,gt (lU P) 34),(468,gt (lU P) 40),(469,gt (lU P) 41),(471,gt (lU P) 43),(472,gt (lU P) 44),(497,gt (lU P) 69),(498,gt (lU P) 70),(525,gt (w9 P) 22),(526,gt (w9 P) 23),(546,gt (w9 P) 43),(547,gt (w9 P) 44),(564,gt (eO P) 12),(565,gt (eO P) 13),(571,gt (eO P) 19),(572,gt (eO P) 20),(578,gt (eO P) 26),(579,gt (eO P) 27),(592,gt (eO P) 40),(593,gt (eO P) 41),(599,gt (eO P) 47),(600,gt (eO P) 48),(606,gt (eO P) 54),(607,gt (eO P) 55),(609,gt (eO P) 57),(610,gt (eO P) 58),(620,gt (eO P) 68),(621,gt (eO P) 69),(627,gt (eO P) 75),(628,gt (eO P) 76),(634,gt (eO P) 82),(635,gt (eO P) 83),(641,gt (eO P) 89),(642,gt (eO P) 90),(672,gt (eO P) 120),(673,L0 P),(697,gt (kW P) 19),(698,gt (kW P) 20),(700,gt (kW P) 22),(701,L4 P),(716,gt (kW P) 38),(717,gt (kW P) 39),(719,gt (kW P) 41),(720,gt (kW P) 42),(735,gt (kW P) 57),(736,gt (kW P) 58),(738,gt (kW P) 60),(739,gt (kW P) 61),(754,gt (iy P) 12),(755,gt (iy P) 13),(757,gt (iy P) 15),(758,gt (iy P) 16),(776,gt (iy P) 34),(777,gt (iy P) 35),(785,gt (iy P) 43),(786,gt (iy P) 44),(792,gt (iy P) 50),(793,gt (iy P) 51),(813,gt (iy P) 71),(814,gt (iy P) 72),(820,gt (iy P) 78),(821,gt (iy P) 79),(830,gt (iy P) 88),(831,gt (iy P) 89),(846,gt (jg P) 12),(847,gt (jg P) 13),(856,gt (jg P) 22),(857,gt (jg P) 23),(882,gt (jg P) 48),(883,gt (jg P) 49),(889,gt (jg P) 55),(890,gt (jg P) 56),(896,gt (jg P) 62),(897,gt (jg P) 63),(903,gt (jg P) 69),(904,gt (jg P) 70),(905,gt (jg P) 71),(906,gt (jg P) 72),(919,gt (gU P) 12),(920,gt (gU P) 13),(929,gt (gU P) 22),(930,Mi P),(938,gt (gU P) 31),(939,gt (gU P) 32),(945,gt (gU P) 38),(946,gt (gU P) 39),(952,gt (gU P) 45),(953,gt (gU P) 46),(966,gt (gU P) 59),(967,gt (gU P) 60),(969,gt (gU P) 62),(970,gt (gU P) 63),(985,gt (gU P) 78),(986,gt (gU P) 79),(988,gt (gU P) 81),(989,gt (gU P) 82),(1004,gt (fQ P) 12),(1005,gt (fQ P) 13),(1007,gt (fQ P) 15),(1008,gt (fQ P) 16),(1016,gt (fQ P) 24),(1017,gt (fQ P) 25),(1023,gt (fQ P) 31),(1024,gt (fQ P) 32),(1030,gt (fQ P) 38),(1031,gt (fQ P) 39),(1051,gt (fQ P) 59),(1052,gt (fQ P) 60),(1058,gt (fQ P) 66),(1059,gt (fQ P) 67),(1065,gt (fQ P) 73),(1066,gt (fQ P) 74),(1079,gt (fQ P) 87),(1080,gt (fQ P) 88),(1082,gt (fQ P) 90),(1083,gt (fQ P) 91),(1098,gt (kj P) 12),(1099,gt (kj P) 13),(1101,gt (kj P) 15),(1102,gt (kj P) 16),(1117,gt (kj P) 31),(1118,gt (kj P) 32),(1120,gt (kj P) 34),(1121,gt (kj P) 35),(1136,gt (kj P) 50),(1137,gt (kj P) 51),(1139,gt (kj P) 53),(1140,gt (kj P) 54),(1155,gt (gV P) 12),(1156,gt (gV P) 13),(1165,gt (gV P) 22),(1166,Mg P),(1174,gt (gV P) 31),(1175,gt (gV P) 32),(1188,gt (gV P) 45),(1189,gt (gV P) 46),(1191,gt (gV P) 48),(1192,gt (gV P) 49),(1200,gt (gV P) 57),(1201,gt (gV P) 58),(1207,gt (gV P) 64),(1208,gt (gV P) 65),(1221,gt (gV P) 78),(1222,gt (gV P) 79),(1235,gt (gV P) 92),(1236,gt (gV P) 93),(1256,gt (fR P) 5),(1257,gt (fR P) 6),(1263,gt (fR P) 12),(1264,gt (fR P) 13),(1270,gt (fR P) 19),(1271,gt (fR P) 20),(1277,gt (fR P) 26),(1278,gt (fR P) 27),(1282,gt (fR P) 31),(1283,gt (fR P) 32),(1289,gt (fR P) 38),(1290,gt (fR P) 39),(1296,gt (fR P) 45),(1297,gt (fR P) 46),(1313,gt (fR P) 62),(1314,gt (fR P) 63),(1329,gt (fR P) 78),(1330,gt (fR P) 79),(1332,gt (fR P) 81),(1333,gt (fR P) 82),(1351,gt (jh P) 15),(1352,gt (jh P) 16),(1367,gt (jh P) 31),(1368,gt (jh P) 32),(1370,gt (jh P) 34),(1371,gt (jh P) 35),(1386,gt (jh P) 50),(1387,gt (jh P) 51),(1389,gt (jh P) 53),(1390,gt (jh P) 54),(1398,gt (jh P) 62),(1399,gt (jh P) 63),(1405,gt (jh P) 69),(1406,gt (jh P) 70),(1412,gt (dw P) 5),(1413,gt (dw P) 6),(1419,gt (dw P) 12),(1420,gt (dw P) 13),(1433,gt (dw P) 26),(1434,gt (dw P) 27),(1436,gt (dw P) 29),(1437,gt (dw P) 30),(1445,gt (dw P) 38),(1446,gt (dw P) 39),(1452,gt (dw P) 45),(1453,gt (dw P) 46),(1459,gt (dw P) 52),(1460,gt (dw P) 53),(1466,gt (dw P) 59),(1467,gt (dw P) 60),(1480,gt (dw P) 73),(1481,gt (dw P) 74),(1483,gt (dw P) 76),(1484,gt (dw P) 77),(1492,gt (dw P) 85),(1493,gt (dw P) 86),(1499,gt (dw P) 92),(1500,gt (dw P) 93),(1506,gt (dw P) 99),(1507,gt (dw P) 100),(1511,gt (dw P) 104),(1512,gt (dw P) 105),(1518,gt (dw P) 111),(1519,gt (dw P) 112),(1525,gt (cR P) 5),(1526,gt (cR P) 6),(1532,gt (cR P) 12),(1533,gt (cR P) 13),(1539,gt (cR P) 19),(1540,gt (cR P) 20),(1546,gt (cR P) 26),(1547,gt (cR P) 27),(1553,gt (cR P) 33),(1554,gt (cR P) 34),(1560,gt (cR P) 40),(1561,gt (cR P) 41),(1565,gt (cR P) 45),(1566,gt (cR P) 46),(1570,gt (cR P) 50),(1571,gt (cR P) 51),(1575,gt (cR P) 55),(1576,gt (cR P) 56),(1582,gt (cR P) 62),(1583,gt (cR P) 63),(1589,gt (cR P) 69),(1590,gt (cR P) 70),(1596,gt (cR P) 76),(1597,gt (cR P) 77),(1603,gt (cR P) 83),(1604,gt (cR P) 84),(1610,gt (cR P) 90),(1611,gt (cR P) 91),(1617,gt (cR P) 97),(1618,gt (cR P) 98),(1624,gt (cR P) 104),(1625,gt (cR P) 105),(1631,gt (cR P) 111),(1632,gt (cR P) 112)]
end HD
namespace Mine
noncomputable def nv:Value->Value
 | .int i _=>.int i 0
 | .float b _=>.float b 0
 | .str s _=>.str s 0
 | .bytes b _=>.bytes b 0
 |v=>v
@[simp] theorem agi:nv .none=.none:=rfl
@[simp] theorem agj(b:Bool):nv (.bool b)=.bool b:=rfl
@[simp] theorem agk(i:Int)(t:Tok):nv (.int i t)=.int i 0:=rfl
@[simp] theorem agl(s:Str)(t:Tok):nv (.str s t)=.str s 0:=rfl
@[simp] theorem agm(a:Addr):nv (.ref a)=.ref a:=rfl
@[simp] theorem agn(a:String):nv (.type a)=.type a:=rfl
@[simp] theorem ago(a:String):nv (.builtin a)=.builtin a:=rfl
@[simp] theorem agp(v:Value):nv (nv v)=nv v:=by cases v <;> rfl
theorem iz(h:nv v=.int i 0):∃t,v=.int i t:=by
 cases v with
 |int j t=>cases h;exact⟨t,rfl⟩
 |_=>cases h
theorem iU(h:nv v=.str s 0):∃t,v=.str s t:=by
 cases v with
 |str j t=>cases h;exact⟨t,rfl⟩
 |_=>cases h
theorem a8(h:nv v=.ref a):v=.ref a:=by
 cases v with
 |ref j=>exact h
 |_=>cases h
theorem rI(h:nv v=.none):v=.none:=by
 cases v with
 |none=>rfl
 |_=>cases h
theorem Es(h:nv v=.bool b):v=.bool b:=by
 cases v with
 |bool j=>exact h
 |_=>cases h
theorem VQ(h:nv v=.builtin a):v=.builtin a:=by
 cases v with
 |builtin j=>exact h
 |_=>cases h
noncomputable abbrev Lc:=List (Nat×Value)
set_option genCtorIdx true in
inductive AO where
 |φ (vs:List Value)
 |κ (z:Bool) (vs:List Value)
 |ai (z:Bool) (es:Lc)
 |aM (es:Lc)
 |sd (z:Bool) (es:List (Str×Value))
 |bu (z:Bool) (es:List (Int×Value))
 |ins (C d:Addr)
 |exc (C d:Addr)
 |gW (C:Addr) (d:Option Addr)
 |fix (o:Obj)
noncomputable abbrev AH:=Addr->Option AO
noncomputable def AO.cW:AO->Bool
 | .φ _=>true
 | .κ z _=>z
 | .ai z _=>z
 | .aM _=>false
 | .sd z _=>z
 | .bu z _=>z
 | .ins _ _=>true
 | .exc _ _=>true
 | .gW _ _=>false
 | .fix _=>true
noncomputable def ξ(H:AH)(a:Addr)(o:AO):AH:=λ b=>if b=a then some o else H b
@[simp] theorem ah{H:AH}{a:Addr}{o:AO}:ξ H a o a=some o:=by simp[ξ]
theorem Γ(h:b≠a):ξ H a o b=H b:=by simp[ξ,h]
noncomputable def jD:Nat:=(codeOf (dy "nid")).getD 0
structure Gv where
 w:eZ
 cm:Heap
 os:gE
 K:Frag
 st:Addr
noncomputable abbrev MM(g:Gv):Model:=model PW g.w
structure bw(g:Gv):Prop where
 dZ:g.K.In g.cm
 Et:g.cm.NoLimit
 kk:g.K=HD.KK g.w.params
 st:g.st=382
 top:∃t o,g.cm.get? t=some o/\g.cm.objs.size=t+1
def Eu(mm:Str->Option Value)(es:Lc):Prop:=∀i,i<NT.length->(mm (N i)).map nv=es.lookup i
def xo(mm:Str->Option Value)(es:Lc):Prop:=∀i v,i<NT.length->es.lookup i=some v->(mm (N i)).map nv=some v
def SeqAt(T:String)(h:Heap)(a:Addr)(items:Array Value):Prop:=∃n,h.get? a=some {cls:=.type T,data:=.seq items n}
theorem SeqAt.isList(x:SeqAt "list" h a items):h.IsList a items:=Θ (x) λ n e=>⟨_,e,rfl,n,rfl⟩
theorem SeqAt.isTup(x:SeqAt "tuple" h a items):IsTup h a items:=Θ (x) λ n e=>⟨_,e,rfl,n,rfl⟩
theorem SeqAt.Ae(x:SeqAt "tuple" h a items):h.IsTuple a items:=Θ (x) λ n e=>⟨_,e,rfl,n,rfl⟩
inductive cX(h:Heap)(a:Addr)(es:Lc):Prop
 |mk (o:Obj) (ents:Array DictEntry) (n:Nat) (h1:h.get? a=some o) (h2:o.data=.dict ents n) (r:ents.toList.map (λ e=>(nv e.key,nv e.val))=es.map (λ p=>(.str (N p.1) 0,p.2))/\∀p∈es,p.1<NT.length):cX h a es
def gI(g:Gv)(h:Heap)(a:Addr):AO->Prop
 | .φ vs=>∃items,SeqAt "tuple" h a items/\items.toList.map nv=vs
 | .κ _ vs=>∃items,SeqAt "list" h a items/\items.toList.map nv=vs
 | .ai _ es=>cX h a es
 | .aM es=>∃i,cX h a (es++[(jD,.int i 0)])
 | .sd _ es=>∃kvs,h.DictOf (strKind PW g.w) a kvs/\kvs.map (λ p=>(p.1,nv p.2))=es
 | .bu _ es=>∃kvs,h.DictOf (u4 PW g.w) a kvs/\kvs.map (λ p=>(p.1,nv p.2))=es
 | .ins C d=>h.get? a=some (k9 C d)
 | .exc C d=>∃o vs,h.get? a=some o/\o.cls=.ref C/\o.data=.fields vs/\o.dict=some d
 | .gW C d=>∃t:Addr,h.get? a=some {cls:=.ref C,dict:=d,data:=.fields #[.ref t,.none,.none,.none,.bool false,.none]}
 | .fix o=>h.get? a=some o
theorem cX.congr(e:h'.get? a=h.get? a)(x:cX h a es):cX h' a es:=by
 cases x with|mk o ents n h1 h2 r=>exact⟨o,ents,n,e.trans h1,h2,r⟩
theorem gI.congr(e:h'.get? a=h.get? a)(r:gI g h a o):gI g h' a o:=by
 cases o with
 |ai z es=>exact cX.congr e r
 |aM es=>exact Exists.imp (λ _ r=>cX.congr e r) r
 |_=>(unfold gI at r⊢;try unfold SeqAt at r⊢;try unfold Heap.DictOf at r⊢);exact e▸(r)
theorem gI.get(r:gI g h a o):∃ob,h.get? a=some ob:=by
 cases o with
 |φ vs=>refine ψ r λ _ Mx _=>?_;clear r;refine Θ Mx λ _ ho=>?_;clear Mx;exact⟨_,ho⟩
 |κ z vs=>refine ψ r λ _ My _=>?_;clear r;refine Θ My λ _ ho=>?_;clear My;exact⟨_,ho⟩
 |ai z es=>obtain⟨_,_,_,ho⟩:=r;exact⟨_,ho⟩
 |aM es=>obtain⟨_,_,_,_,ho⟩:=r;exact⟨_,ho⟩
 |sd z es=>refine ψ r λ _ Mz _=>?_;clear r;refine nR Mz λ _ _ _ ho _=>?_;clear Mz;exact⟨_,ho⟩
 |bu z es=>refine ψ r λ _ MA _=>?_;clear r;refine nR MA λ _ _ _ ho _=>?_;clear MA;exact⟨_,ho⟩
 |exc C d=>refine c7 r λ _ _ ho _=>?_;clear r;exact⟨_,ho⟩
 |gW C d=>refine Θ r λ _ ho=>?_;clear r;exact⟨_,ho⟩
 |_=>exact⟨_,r⟩
inductive Ew(g:Gv)(H:AH)(h:Heap)(env:Env):Prop
 |mk (k1:env.scope.kind≠.module) (L:Addr) (o:Obj) (k2:env.frame=some L) (k3:h.get? L=some o) (k4:∀vs,o.data≠.fields vs) (r:H L=none/\g.cm.objs.size<=L):Ew g H h env
inductive MD(g:Gv)(A:bS)(H:AH)(h:Heap):Prop
 |mk (fs:List Env) (h1:A.frames=some fs) (h2:∀env∈fs,Ew g H h env):MD g A H h
inductive ME(h:Heap)(L:Addr)(m:Lc):Prop
 |mk (mm:Str->Option Value) (a:h.Ns L mm) (b:xo mm m):ME h L m
structure aC(g:Gv)(k:Nat)(hd:Option Value)(A:bS)(H:AH)(s:Shared):Prop where
 ok:bw g
 old:∀a o,g.cm.get? a=some o->s.heap.get? a=some o
 sim:∀a o,H a=some o->gI g s.heap a o
 low:∀a o,H a=some o->g.cm.objs.size<=a
 depth:A.depth+2*k+2<recursionLimit
 units:A.units+16*k+40<cLine
 hand:A.handled=hd
 frames:MD g A H s.heap
 os:s.os=g.os
 gens:s.gens=#[]
 size:g.cm.objs.size<=s.heap.objs.size
structure Go(L:Option Addr)(H:AH)(h:Heap)(H':AH)(h':Heap):Prop where
 old:∀a o,L≠some a->H a=none->h.get? a=some o->H' a=none/\∃sl,h'.get? a=some {o with slots:=sl}
 cW:∀a o,H a=some o->o.cW=true->H' a=some o
 aM:∀a es,H a=some (.aM es)->H' a=some (.aM es)\/∃i,H' a=some (.ai true (es++[(jD,.int i 0)]))
 fk:∀a,H a≠none->H' a≠none
theorem Go.refl:Go L H h H h:=
 ⟨λ a o _ e1 e2=>⟨e1,o.slots,e2⟩,λ _ _ e _=>e,λ _ _ e=>.inl e,λ _ e=>e⟩
theorem Go.trans(x:Go L H₁ h₁ ο Ey)(y:Go L ο Ey ω Ez):Go L H₁ h₁ ω Ez where
 old a o hL e1 e2:=by
  refine iS (x.old a o hL e1 e2) λ a1 sl a2=>?_
  refine iS (y.old a _ hL a1 a2) λ b1 ky b2=>?_
  exact⟨b1,ky,b2⟩
 cW a o e z:=y.cW a o (x.cW a o e z) z
 aM a es e:=by
  rcases x.aM a es e with q |⟨i,q⟩
  ·exact y.aM a es q
  ·exact .inr ⟨i,y.cW _ _ q rfl⟩
 fk a e:=y.fk a (x.fk a e)
theorem Go.weak(x:Go none H h H' h'):Go L H h H' h':=⟨λ a o _=>x.old a o (by simp),x.cW,x.aM,x.fk⟩
theorem Go.same(k:∀a o,L≠some a->H a=none->h.get? a=some o->∃sl,h'.get? a=some {o with slots:=sl}):Go L H h H h':=
 ⟨λ a o q e1 e2=>⟨e1,k a o q e1 e2⟩,λ _ _ e _=>e,λ _ _ e=>.inl e,λ _ e=>e⟩
structure Cx where
 k:Nat
 hd:Option Value
 sc:Scope
 env:Env
 fe:Env
structure MG(c:Cx):Prop where
 sc:c.env.scope=c.sc
 kind:c.sc.kind=.function
 glob:c.env.globals=mainGlobals
 blt:c.env.builtins=builtinsNs
structure At(g:Gv)(c:Cx)(A:bS)(m:Lc)(H:AH)(s:Shared):Prop extends aC g c.k c.hd A H s where
 aY:MG c
 ns:ME s.heap c.env.locals m
 off:H c.env.locals=none
 c9:g.cm.objs.size<=c.env.locals
 head:∃outer,A.frames=some (c.fe::outer)
noncomputable def cA:Nat:=(codeOf (dy "value")).getD 0
inductive MH(g:Gv)(ea d T:Addr)(h:Heap):Prop
 |mk (oe:Obj) (vs:Array Value) (h1:h.get? ea=some oe) (h2:oe.cls=.ref g.st) (h3:oe.data=.fields vs) (h4:oe.dict=some d) (h5:vs[1]?=some (.ref T)):MH g ea d T h
inductive MI(T:Addr)(fl:Value)(h:Heap):Prop
 |mk (oT:Obj) (ts:Array Value) (h1:h.get? T=some oT) (h2:oT.data=.fields ts) (h3:ts[3]?=some fl):MI T fl h
structure iA(g:Gv)(H:AH)(ea d T:Addr)(v:Value)(fl:Value)(h:Heap):Prop where
 me:MH g ea d T h
 dict:cX h d [(cA,v)]
 tb:MI T fl h
 ne:T≠ea
 off:H ea=none/\H d=none/\H T=none
 low:g.cm.objs.size<=ea/\g.cm.objs.size<=d/\g.cm.objs.size<=T
inductive Exc(g:Gv)(H:AH)(fm:Heap)(e:Value)(v:Value)(h:Heap):Prop
 |mk (ea d T:Addr) (fl:Value) (h1:e=.ref ea) (p:iA g H ea d T v fl h) (n1:fm.get? ea=none) (n2:fm.get? d=none) (n3:fm.get? T=none):Exc g H fm e v h
inductive fF(g:Gv)(c:Cx)(A:bS)(H:AH)(s:Shared){α:Type}(Q:α->Lc->AH->Prop)(a:α)(s':Shared):Prop
 |mk (m':Lc) (H':AH) (h:At g c A m' H' s') (o:Go (some c.env.locals) H s.heap H' s'.heap) (q:Q a m' H'):fF g c A H s Q a s'
inductive cO(g:Gv)(c:Cx)(A:bS)(H:AH)(s:Shared)(X:Value->Lc->AH->Prop)(e:Value)(s':Shared):Prop
 |mk (m':Lc) (H':AH) (v:Value) (h:At g c A m' H' s') (o:Go (some c.env.locals) H s.heap H' s'.heap) (x:Exc g H' s.heap e v s'.heap) (q:X v m' H'):cO g c A H s X e s'
def W(g:Gv)(c:Cx){α:Type}(t:Sem α)(m:Lc)(H:AH)(Q:α->Lc->AH->Prop)(X:Value->Lc->AH->Prop):Prop:=
 ∀A s,At g c A m H s->wpAny (MM g) A t (fF g c A H s Q) (cO g c A H s X) s
section
variable {α β:Type}
theorem Heap.o9{h h':Heap}(k:∀o,h.get? a=some o->∃o',h'.get? a=some o')(n:h'.get? a=none):h.get? a=none:=by
 cases e:h.get? a with
 |none=>rfl
 |some o=>refine Θ (k o e) λ o' e'=>?_;rw[n]at e';exact nN e'
theorem At.has(x:At g c A m H s):∃o,s.heap.get? c.env.locals=some o:=let⟨_,⟨o,_,_,ho,_⟩,_⟩:=x.ns;⟨o,ho⟩
theorem Go.mI(x:At g c A m H s)(y:At g c A m' H' s')(G:Go (some c.env.locals) H s.heap H' s'.heap)(e:s.heap.get? a=some o):∃o',s'.heap.get? a=some o':=by
 by_cases hL:a=c.env.locals
 ·refine hL.symm▸?_;exact y.has
 ·cases q:H a with
  |none=>refine iS (G.old a o (by intro z;exact hL (bY z).symm) q e) λ _ sl e'=>?_;exact⟨_,e'⟩
  |some ao=>
   have:=G.fk a (by refine q▸?_;simp)
   cases q':H' a with
   |none=>exact absurd q' this
   |some ao'=>exact(y.sim a ao' q').get
theorem Exc.weaken{H':AH}(k:∀a o,fm.get? a=some o->∃o',h₁.get? a=some o')(x:Exc g H' h₁ e v h):Exc g H' fm e v h:=by
 obtain⟨ea,d,T,fl,h1,h2,h3,h4,h5⟩:=x
 exact⟨ea,d,T,fl,h1,h2,Heap.o9 (k ea) h3,Heap.o9 (k d) h4,Heap.o9 (k T) h5⟩
theorem next(hA:At g c A m H s)
  (h1:At g c A ρ H₁ s₁) (h2:Go (some c.env.locals) H s.heap H₁ s₁.heap) (w:W g c f ρ H₁ Q X):
  wpAny (MM g) A f (fF g c A H s Q) (cO g c A H s X) s₁:=
 cD (w A s₁ h1) (λ a s' ⟨m',H',a1,a2,a3⟩=>⟨m',H',a1,h2.trans a2,a3⟩)
  λ e s' ⟨m',H',v,a1,a2,a3,a4⟩=>⟨m',H',v,a1,h2.trans a2,a3.weaken λ a o q=>h2.mI hA h1 q,a4⟩
theorem fF.el{A:bS}{H:AH}{s s':Shared}{α:Type}{Q:α->Lc->AH->Prop}{a:α}{C:Prop}(x:fF g c A H s Q a s')(k:∀m' H',At g c A m' H' s'->Go (some c.env.locals) H s.heap H' s'.heap->Q a m' H'->C):C:=by
 cases x with|mk m' H' h o q=>exact k m' H' h o q
theorem cO.el{A:bS}{H:AH}{s s':Shared}{X:Value->Lc->AH->Prop}{e:Value}{C:Prop}(x:cO g c A H s X e s')(k:∀m' H' v,At g c A m' H' s'->Go (some c.env.locals) H s.heap H' s'.heap->Exc g H' s.heap e v s'.heap->X v m' H'->C):C:=by
 cases x with|mk m' H' v h o x q=>exact k m' H' v h o x q
theorem W.cps(h:∀A s,At g c A m H s->∀(P:α->Shared->Prop) (E:Value->Shared->Prop),(∀a s' m' H',At g c A m' H' s'->Go (some c.env.locals) H s.heap H' s'.heap->Q a m' H'->P a s')->(∀e s',cO g c A H s X e s'->E e s')->wpAny (MM g) A t P E s):W g c t m H Q X:=
 λ A s hA=>h A s hA _ _ (λ _ _ m' H' x y z=>⟨m',H',x,y,z⟩) λ _ _ x=>x
theorem W.mono(h:W g c t m H Q X)(hQ:∀a m' H',Q a m' H'->Q' a m' H')(hX:∀v m' H',X v m' H'->X' v m' H'):W g c t m H Q' X':=
 λ A s hA=>cD (h A s hA) (λ a s' ⟨m',H',a1,a2,a3⟩=>⟨m',H',a1,a2,hQ _ _ _ a3⟩) λ e s' ⟨m',H',v,a1,a2,a3,a4⟩=>⟨m',H',v,a1,a2,a3,hX _ _ _ a4⟩
theorem At.EA(x:At g c A m H s)(tk:Nat):At g c A m H {s with toks:=tk}:=
 {x with sim:=x.sim,old:=x.old,frames:=x.frames,os:=x.os,gens:=x.gens,size:=x.size,ns:=x.ns}
theorem gX(x:At g c A m H s)(tk:Nat)(q:Q a m H):fF g c A H s Q a {s with toks:=tk}:=
 ⟨m,H,x.EA tk,Go.refl,q⟩
theorem W.pure(q:Q a m H):W g c (pure a) m H Q X:=λ A s hA=>aL ⟨m,H,hA,Go.refl,q⟩
end
def Sp(n:Nat)(sc:Scope)(e:Expr)(p:PE):Prop:=∃d,aX sc p d=true/\ins p d=e
def eQ(n:Nat)(sc:Scope)(es:List Expr)(l:List PE):Prop:=∃d i,rH sc l d i=true/\dE l d i=es
def nY(n:Nat)(sc:Scope)(e:Option Expr)(o:Option PE):Prop:=∃d,Ad sc o d=true/\Ac o d=e
theorem an(h:(a&&b)=true):a=true/\b=true:=(mJ _ _).mp h
theorem codes:(rJ 318).map (λ i=>codeOf (N i))=(rJ 318).map some:=by kernel_rfl
theorem o_(h:fE i 318=true):codeOf (N i)=some i:=by
 have e:=congrArg (·[i]?) codes
 simp only[iB,(EB (Nat.blt_eq.mp h))]at e
 exact bY e
theorem VS(h:jk sc i=true):sc.names.lookup (N i)=some .local/\codeOf (N i)=some i:=⟨xl (an h).1,o_ (an h).2⟩
theorem VT(h:Ab sc i=true):sc.names.lookup (N i)=some .globalImplicit/\codeOf (N i)=some i:=⟨El (an h).1,o_ (an h).2⟩
theorem cond_of(h:b=true)(k:x=some i):cond b x none=some i:=by rw[h];exact k
theorem Ag(h:cond b x none=some i):b=true/\x=some i:=by
 cases b with
 |true=>exact⟨rfl,h⟩
 |false=>exact nN h
theorem k_(h:jk sc i=true):fW sc (N i)=some i:=cond_of (an h).1 (o_ (an h).2)
theorem VU(h:Ab sc i=true):rG sc (N i)=some i:=cond_of (an h).1 (o_ (an h).2)
theorem VV(p:PE)(d:Dc):∀a b c q,ins p d≠.Slice a b c q:=by intro a b c q h;cases p <;> cases h
theorem VW(h:Sp n sc e (.θ i)):∃x p,e=.Name x p/\sc.names.lookup x=some .local/\codeOf x=some i:=ψ (h) λ d k e=>⟨_,_,e.symm,VS k⟩
theorem MJ(h:Sp n sc e (.ς i)):∃x p,e=.Name x p/\sc.names.lookup x=some .globalImplicit/\codeOf x=some i:=ψ (h) λ d k e=>⟨_,_,e.symm,VT k⟩
theorem VX(h:Sp n sc e .az):∃k p,e=.Constant .none k p:=ψ (h) λ d _ e=>⟨_,_,e.symm⟩
theorem VY(h:Sp n sc e (.kp b)):∃k p,e=.Constant (.bool b) k p:=ψ (h) λ d _ e=>⟨_,_,e.symm⟩
theorem VZ(h:Sp n sc e (.int i)):∃k p,e=.Constant (.int i) k p:=ψ (h) λ d _ e=>⟨_,_,e.symm⟩
theorem V0(h:Sp n sc e (.str s)):∃k p,e=.Constant (.str s) k p:=ψ (h) λ d _ e=>⟨_,_,e.symm⟩
theorem V2(h:Sp n sc e (.bin op l r)):∃n' l' r' p,e=.BinOp l' op r' p/\Sp n' sc l' l/\Sp n' sc r' r:=ψ (h) λ d k e=>⟨n,_,_,_,e.symm,⟨_,(an k).1,rfl⟩,⟨_,(an k).2,rfl⟩⟩
theorem inv_neg(h:Sp n sc e (.neg x)):∃n' x' p,e=.UnaryOp .USub x' p/\Sp n' sc x' x:=ψ (h) λ d k e=>⟨n,_,_,e.symm,⟨_,k,rfl⟩⟩
theorem V3(h:Sp n sc e (.not x)):∃n' x' p,e=.UnaryOp .Not x' p/\Sp n' sc x' x:=ψ (h) λ d k e=>⟨n,_,_,e.symm,⟨_,k,rfl⟩⟩
theorem MK(h:Sp n sc e (.υ l op r)):∃n' l' r' p,e=.Compare l' [op] [r'] p/\Sp n' sc l' l/\Sp n' sc r' r:=ψ (h) λ d k e=>⟨n,_,_,_,e.symm,⟨_,(an k).1,rfl⟩,⟨_,(an k).2,rfl⟩⟩
theorem V4(h:Sp n sc e (.nW l o1 r o2 s)):∃n' l' r' s' p,e=.Compare l' [o1,o2] [r',s'] p/\Sp n' sc l' l/\Sp n' sc r' r/\Sp n' sc s' s:=ψ (h) λ d k e=>⟨n,_,_,_,_,e.symm,⟨_,(an k).1,rfl⟩,⟨_,(an (an k).2).1,rfl⟩,⟨_,(an (an k).2).2,rfl⟩⟩
theorem V5(h:Sp n sc e (.band l r)):∃n' l' r' p,e=.BoolOp .And [l',r'] p/\Sp n' sc l' l/\Sp n' sc r' r:=ψ (h) λ d k e=>⟨n,_,_,_,e.symm,⟨_,(an k).1,rfl⟩,⟨_,(an k).2,rfl⟩⟩
theorem ML(h:Sp n sc e (.fU l r s)):∃n' l' r' s' p,e=.BoolOp .And [l',r',s'] p/\Sp n' sc l' l/\Sp n' sc r' r/\Sp n' sc s' s:=ψ (h) λ d k e=>⟨n,_,_,_,_,e.symm,⟨_,(an k).1,rfl⟩,⟨_,(an (an k).2).1,rfl⟩,⟨_,(an (an k).2).2,rfl⟩⟩
theorem V6(h:Sp n sc e (.bor l r)):∃n' l' r' p,e=.BoolOp .Or [l',r'] p/\Sp n' sc l' l/\Sp n' sc r' r:=ψ (h) λ d k e=>⟨n,_,_,_,e.symm,⟨_,(an k).1,rfl⟩,⟨_,(an k).2,rfl⟩⟩
theorem V7(h:Sp n sc e (.mE l r s)):∃n' l' r' s' p,e=.BoolOp .Or [l',r',s'] p/\Sp n' sc l' l/\Sp n' sc r' r/\Sp n' sc s' s:=ψ (h) λ d k e=>⟨n,_,_,_,_,e.symm,⟨_,(an k).1,rfl⟩,⟨_,(an (an k).2).1,rfl⟩,⟨_,(an (an k).2).2,rfl⟩⟩
theorem V8(h:Sp n sc e (.bG t a b)):∃n' t' a' b' p,e=.IfExp t' a' b' p/\Sp n' sc t' t/\Sp n' sc a' a/\Sp n' sc b' b:=ψ (h) λ d k e=>⟨n,_,_,_,_,e.symm,⟨_,(an k).1,rfl⟩,⟨_,(an (an k).2).1,rfl⟩,⟨_,(an (an k).2).2,rfl⟩⟩
theorem V9(h:Sp n sc e (.φ l)):∃n' es k p,e=.Tuple es k p/\eQ n' sc es l:=ψ (h) λ d k e=>⟨n,_,_,_,e.symm,⟨_,_,k,rfl⟩⟩
theorem V_(h:Sp n sc e (.κ l)):∃n' es p,e=.List es p/\eQ n' sc es l:=ψ (h) λ d k e=>⟨n,_,_,e.symm,⟨_,_,k,rfl⟩⟩
theorem MN(h:Sp n sc e .gG):∃p,e=.Dict [] [] p:=ψ (h) λ d _ e=>⟨_,e.symm⟩
theorem V'(h:Sp n sc e (.π o i)):∃n' o' a p,e=.Attribute o' a p/\Sp n' sc o' o/\codeOf a=some i:=ψ (h) λ d k e=>⟨n,_,_,_,e.symm,⟨_,(an k).1,rfl⟩,o_ (an k).2⟩
theorem Wa(h:Sp n sc e (.sub v s)):∃n' v' s' p,e=.Subscript v' s' p/\(∀a b c q,s'≠.Slice a b c q)/\Sp n' sc v' v/\Sp n' sc s' s:=ψ (h) λ d k e=>⟨n,_,_,_,e.symm,VV _ _,⟨_,(an k).1,rfl⟩,⟨_,(an k).2,rfl⟩⟩
theorem MO{n:Nat}{sc:Scope}{e:Expr}{v:PE}{lo hi st:Option PE}(h:Sp n sc e (.dT v lo hi st)):∃n' v' a b c q p,e=.Subscript v' (.Slice a b c q) p/\Sp n' sc v' v/\nY n' sc a lo/\nY n' sc b hi/\nY n' sc c st:=ψ (h) λ d k e=>let k1:=an k;let k2:=an k1.2;let k3:=an k2.2;⟨n,_,_,_,_,_,_,e.symm,⟨_,k1.1,rfl⟩,⟨_,k2.1,rfl⟩,⟨_,k3.1,rfl⟩,⟨_,k3.2,rfl⟩⟩
theorem MP(h:Sp n sc e (.call f l)):∃n' x q as p,e=.Call (.Name x q) as [] p/\rG sc x=some f/\eQ n' sc as l:=ψ (h) λ d k e=>⟨n,_,_,_,_,e.symm,VU (an k).1,⟨_,_,(an k).2,rfl⟩⟩
theorem Wb(h:Sp n sc e (.au o i l)):∃n' o' a q as p,e=.Call (.Attribute o' a q) as [] p/\iT q.endLine p.line=true/\Sp n' sc o' o/\codeOf a=some i/\eQ n' sc as l:=ψ (h) λ d k e=>let k1:=an k;let k2:=an k1.2;let k3:=an k2.2;⟨n,_,_,_,_,_,e.symm,k1.1,⟨_,k2.1,rfl⟩,o_ k3.1,⟨_,_,k3.2,rfl⟩⟩
theorem MQ(h:Sp n sc e (.comp el t src ifs)):∃n' elt x q s' is aN p,e=.ListComp elt [⟨.Name x q,s',is,0⟩] aN p/\Eo aN=true/\Sp n' aN elt el/\fW aN x=some t/\Sp n' sc s' src/\eQ n' aN is ifs:=ψ (h) λ d k e=>let k1:=an k;let k2:=an k1.2;let k3:=an k2.2;let k4:=an k3.2;⟨n,_,_,_,_,_,_,_,e.symm,k1.1,⟨_,k2.1,rfl⟩,k_ k3.1,⟨_,k4.1,rfl⟩,⟨_,_,k4.2,rfl⟩⟩
theorem eQ.nil(h:eQ n sc es []):es=[]:=c7 (h) λ _ _ _ e=>e.symm
theorem eQ.cons(h:eQ n sc es (x::r)):∃e l',es=e::l'/\Sp n sc e x/\eQ n sc l' r:=c7 (h) λ _ _ k e=>⟨_,_,e.symm,⟨_,(an k).1,rfl⟩,⟨_,_,(an k).2,rfl⟩⟩
theorem MR:∀{l:List PE}{d:Dc}{i:Nat},(dE l d i).length=l.length
 | [],_,_=>rfl
 |_::l,_,_=>congrArg (·+1) (MR (l:=l))
theorem eQ.len(h:eQ n sc es l):es.length=l.length:=c7 (h) λ _ _ _ e=>e▸MR
theorem nY.az(h:nY n sc o none):o=none:=ψ (h) λ _ _ e=>e.symm
theorem nY.Wc(h:nY n sc o (some p)):∃e,o=some e/\Sp n sc e p:=ψ (h) λ _ k e=>⟨_,e.symm,⟨_,k,rfl⟩⟩
def fX(n:Nat)(sc:Scope)(e:Stmt)(p:PS):Prop:=∃d,Mv sc p d=true/\Mu p d=e
def ey(n:Nat)(sc:Scope)(es:List Stmt)(l:List PS):Prop:=∃d i,k8 sc l d i=true/\kZ l d i=es
theorem Wd(h:fX n sc e (.expr x)):∃n' x' p,e=.Expr x' p/\Sp n' sc x' x:=ψ (h) λ d k e=>⟨n,_,_,e.symm,⟨_,k,rfl⟩⟩
theorem MU(h:fX n sc e (.Φ i x)):∃n' a q x' p,e=.Assign [.Name a q] x' p/\fW sc a=some i/\Sp n' sc x' x:=ψ (h) λ d k e=>⟨n,_,_,_,_,e.symm,k_ (an k).1,⟨_,(an k).2,rfl⟩⟩
theorem We(h:fX n sc e (.aK o i x)):∃n' o' a q x' p,e=.Assign [.Attribute o' a q] x' p/\Sp n' sc o' o/\codeOf a=some i/\Sp n' sc x' x:=ψ (h) λ d k e=>⟨n,_,_,_,_,_,e.symm,⟨_,(an k).1,rfl⟩,o_ (an (an k).2).1,⟨_,(an (an k).2).2,rfl⟩⟩
theorem Wf(h:fX n sc e (.bR o s x)):∃n' o' s' q x' p,e=.Assign [.Subscript o' s' q] x' p/\Sp n' sc o' o/\Sp n' sc s' s/\Sp n' sc x' x:=ψ (h) λ d k e=>⟨n,_,_,_,_,_,e.symm,⟨_,(an k).1,rfl⟩,⟨_,(an (an k).2).1,rfl⟩,⟨_,(an (an k).2).2,rfl⟩⟩
theorem Wg(h:fX n sc e (.lX i j x)):∃n' a q b r k u x' p,e=.Assign [.Tuple [.Name a q,.Name b r] k u] x' p/\fW sc a=some i/\fW sc b=some j/\Sp n' sc x' x:=ψ (h) λ d k e=>⟨n,_,_,_,_,_,_,_,_,e.symm,k_ (an k).1,k_ (an (an k).2).1,⟨_,(an (an k).2).2,rfl⟩⟩
theorem Wh(h:fX n sc e (.nX i j l x)):∃n' a q b r c s k u x' p,e=.Assign [.Tuple [.Name a q,.Name b r,.Name c s] k u] x' p/\fW sc a=some i/\fW sc b=some j/\fW sc c=some l/\Sp n' sc x' x:=ψ (h) λ d k e=>let k1:=an k;let k2:=an k1.2;let k3:=an k2.2;⟨n,_,_,_,_,_,_,_,_,_,_,e.symm,k_ k1.1,k_ k2.1,k_ k3.1,⟨_,k3.2,rfl⟩⟩
theorem Wj(h:fX n sc e (.aug i op x)):∃n' a q x' p,e=.AugAssign (.Name a q) op x' p/\fW sc a=some i/\Sp n' sc x' x:=ψ (h) λ d k e=>⟨n,_,_,_,_,e.symm,k_ (an k).1,⟨_,(an k).2,rfl⟩⟩
theorem Wk(h:fX n sc e (.ku o i op x)):∃n' o' a q x' p,e=.AugAssign (.Attribute o' a q) op x' p/\Sp n' sc o' o/\codeOf a=some i/\Sp n' sc x' x:=ψ (h) λ d k e=>⟨n,_,_,_,_,_,e.symm,⟨_,(an k).1,rfl⟩,o_ (an (an k).2).1,⟨_,(an (an k).2).2,rfl⟩⟩
theorem Wl(h:fX n sc e (.mF o s op x)):∃n' o' s' q x' p,e=.AugAssign (.Subscript o' s' q) op x' p/\Sp n' sc o' o/\Sp n' sc s' s/\Sp n' sc x' x:=ψ (h) λ d k e=>⟨n,_,_,_,_,_,e.symm,⟨_,(an k).1,rfl⟩,⟨_,(an (an k).2).1,rfl⟩,⟨_,(an (an k).2).2,rfl⟩⟩
theorem Wm(h:fX n sc e (.ret x)):∃n' x' p,e=.Return (some x') p/\Sp n' sc x' x:=ψ (h) λ d k e=>⟨n,_,_,e.symm,⟨_,k,rfl⟩⟩
theorem Wn(h:fX n sc e .dN):∃p,e=.Return none p:=ψ (h) λ d _ e=>⟨_,e.symm⟩
theorem Wo(h:fX n sc e (.iff t a b)):∃n' t' a' b' p,e=.If t' a' b' p/\Sp n' sc t' t/\ey n' sc a' a/\ey n' sc b' b:=ψ (h) λ d k e=>⟨n,_,_,_,_,e.symm,⟨_,(an k).1,rfl⟩,⟨_,_,(an (an k).2).1,rfl⟩,⟨_,_,(an (an k).2).2,rfl⟩⟩
theorem Wq(h:fX n sc e (.fV t a)):∃n' t' a' p,e=.While t' a' [] p/\Sp n' sc t' t/\ey n' sc a' a:=ψ (h) λ d k e=>⟨n,_,_,_,e.symm,⟨_,(an k).1,rfl⟩,⟨_,_,(an k).2,rfl⟩⟩
theorem Ws(h:fX n sc e (.fj i t a)):∃n' x q t' a' p,e=.For (.Name x q) t' a' [] p/\fW sc x=some i/\Sp n' sc t' t/\ey n' sc a' a:=ψ (h) λ d k e=>⟨n,_,_,_,_,_,e.symm,k_ (an k).1,⟨_,(an (an k).2).1,rfl⟩,⟨_,_,(an (an k).2).2,rfl⟩⟩
theorem Wt(h:fX n sc e (.rF i j t a)):∃n' x q y r k u t' a' p,e=.For (.Tuple [.Name x q,.Name y r] k u) t' a' [] p/\fW sc x=some i/\fW sc y=some j/\Sp n' sc t' t/\ey n' sc a' a:=ψ (h) λ d k e=>let k1:=an k;let k2:=an k1.2;let k3:=an k2.2;⟨n,_,_,_,_,_,_,_,_,_,e.symm,k_ k1.1,k_ k2.1,⟨_,k3.1,rfl⟩,⟨_,_,k3.2,rfl⟩⟩
theorem Wu(h:fX n sc e (.jj a f)):∃n' a' f' p,e=.Try a' [] [] f' p/\ey n' sc a' a/\ey n' sc f' f:=ψ (h) λ d k e=>⟨n,_,_,_,e.symm,⟨_,_,(an k).1,rfl⟩,⟨_,_,(an k).2,rfl⟩⟩
theorem Wv(h:fX n sc e (.mG a c i f)):∃n' a' c' x f' q p,e=.Try a' [.ExceptHandler (some c') (some x) f' q] [] [] p/\ey n' sc a' a/\Sp n' sc c' c/\fW sc x=some i/\ey n' sc f' f:=ψ (h) λ d k e=>let k1:=an k;let k2:=an k1.2;let k3:=an k2.2;⟨n,_,_,_,_,_,_,e.symm,⟨_,_,k1.1,rfl⟩,⟨_,k2.1,rfl⟩,k_ k3.1,⟨_,_,k3.2,rfl⟩⟩
theorem Ww(h:fX n sc e (.mH x)):∃n' x' p,e=.Raise (some x') none p/\Sp n' sc x' x:=ψ (h) λ d k e=>⟨n,_,_,e.symm,⟨_,k,rfl⟩⟩
theorem Wx(h:fX n sc e .cont):∃p,e=.Continue p:=ψ (h) λ d _ e=>⟨_,e.symm⟩
theorem jE(h:fW sc x=some i):sc.names.lookup x=some .local/\codeOf x=some i:=by
 exact⟨xl (Ag h).1,(Ag h).2⟩
theorem ey.nil(h:ey n sc l []):l=[]:=c7 (h) λ _ _ _ e=>e.symm
theorem ey.cons(h:ey n sc l (x::r)):∃e l',l=e::l'/\fX n sc e x/\ey n sc l' r:=c7 (h) λ _ _ k e=>⟨_,_,e.symm,⟨_,(an k).1,rfl⟩,⟨_,_,(an k).2,rfl⟩⟩
noncomputable def nf:bJ->bJ
 | .ret v=>.ret (nv v)
 |f=>f
section
variable (g:Gv)(c:Cx)
def V(e:PE)(m:Lc)(H:AH)(Q:Value->Lc->AH->Prop)(X:Value->Lc->AH->Prop):Prop:=
 ∀n e',Sp n c.sc e' e->W g c (eval e' c.env) m H (λ v m' H'=>Q (nv v) m' H') X
def Te(e:PE)(m:Lc)(H:AH)(Q:Bool->Lc->AH->Prop)(X:Value->Lc->AH->Prop):Prop:=
 ∀n e',Sp n c.sc e' e->W g c (PySem.isTrue e' c.env (eval e' c.env)) m H Q X
def c_(f:Value->Sem Value)(a:Value)(m:Lc)(H:AH)(Q:Value->Lc->AH->Prop)(X:Value->Lc->AH->Prop):Prop:=
 ∀a',nv a'=a->W g c (f a') m H (λ v m' H'=>Q (nv v) m' H') X
def Ω(f:Value->Value->Sem Value)(a b:Value)(m:Lc)(H:AH)(Q:Value->Lc->AH->Prop)(X:Value->Lc->AH->Prop):Prop:=
 ∀a' b',nv a'=a->nv b'=b->W g c (f a' b') m H (λ v m' H'=>Q (nv v) m' H') X
def bH(a:Value)(m:Lc)(H:AH)(Q:Bool->Lc->AH->Prop)(X:Value->Lc->AH->Prop):Prop:=
 ∀a',nv a'=a->W g c (truthy a') m H Q X
def S1(x:PS)(m:Lc)(H:AH)(Q:bJ->Lc->AH->Prop)(X:Value->Lc->AH->Prop):Prop:=
 ∀n st,fX n c.sc st x->W g c (exec st c.env) m H (λ f m' H'=>Q (nf f) m' H') X
def S(l:List PS)(m:Lc)(H:AH)(Q:bJ->Lc->AH->Prop)(X:Value->Lc->AH->Prop):Prop:=
 ∀n ss,ey n c.sc ss l->W g c (execs ss c.env) m H (λ f m' H'=>Q (nf f) m' H') X
end
theorem step{α:Type}{A:bS}{s s₁:Shared}{t:Sem α}{ρ:Lc}{H₁:AH}{Q:α->Lc->AH->Prop}{P:α->Shared->Prop}(hA:At g c A m H s)(h1:At g c A ρ H₁ s₁)
  (h2:Go (some c.env.locals) H s.heap H₁ s₁.heap) (w:W g c t ρ H₁ Q X) (k:∀a ae Ξ ο,At g c A Ξ ο ae->Go (some c.env.locals) H s.heap ο ae.heap->Q a Ξ ο->P a ae):
  wpAny (MM g) A t P (cO g c A H s X) s₁:=
 cD (w A s₁ h1) (λ a s' ⟨m',H',a1,a2,a3⟩=>k a s' m' H' a1 (h2.trans a2) a3)
  λ e s' ⟨m',H',v,a1,a2,a3,a4⟩=>⟨m',H',v,a1,h2.trans a2,a3.weaken λ a o q=>h2.mI hA h1 q,a4⟩
theorem V.θ(e:m.lookup i=some v)(q:Q v m H):V g c (.θ i) m H Q X:=by
 intro n e' h A s hA
 refine dG (VW h) λ x p xp h1 h2=>?_;refine xp.symm▸?_
 refine ag (nV h2) λ hi hx=>?_
 obtain⟨mm,kz,heq⟩:=hA.ns
 have hv:=heq i _ hi e
 rw[hx]at hv
 refine ψ (Option.map_eq_some_iff.mp hv) λ v' d8 xq=>?_;subst xq
 have k1:c.env.kindOf x=some .local:=by unfold rK;exact hA.aY.sc▸(h1)
 have k2:c.env.scope.kind=.function:=by exact hA.aY.sc▸(hA.aY.kind)
 refine wpAny_Name (wpAny_loadName_local k2 k1 kz d8 ⟨m,H,hA,Go.refl,q⟩) ?_
 cases hd:(x==("__debug__":Str))with
 |false=>rfl
 |true=>
  have:x=dy "__debug__":=beq_iff_eq.mp hd
  subst this
  have:codeOf (dy "__debug__")=none:=by decide +kernel
  rw[this]at h2;exact nN h2
theorem V.int(q:Q (.int i 0) m H):V g c (.int i) m H Q X:=by
 intro n e' h A s hA
 refine km (VZ h) λ k p xr=>?_;refine xr.symm▸?_
 exact wpAny_Constant_int (gX hA _ q)
theorem V.str(q:Q (.str x 0) m H):V g c (.str x) m H Q X:=by
 intro n e' h A s hA
 refine km (V0 h) λ k p xt=>?_;refine xt.symm▸?_
 exact wpAny_Constant_str (gX hA _ q)
theorem V.az(q:Q .none m H):V g c .az m H Q X:=by
 intro n e' h A s hA
 refine km (VX h) λ k p xu=>?_;refine xu.symm▸?_
 exact wpAny_Constant_none ⟨m,H,hA,Go.refl,q⟩
theorem V.kp(q:Q (.bool b) m H):V g c (.kp b) m H Q X:=by
 intro n e' h A s hA
 refine km (VY h) λ k p xw=>?_;refine xw.symm▸?_
 exact wpAny_Constant_bool ⟨m,H,hA,Go.refl,q⟩
theorem V.bin{op:rE}{l r:PE}{Q:Value->Lc->AH->Prop}(h:V g c l m H (λ a ρ H₁=>V g c r ρ H₁ (λ b Ξ ο=>Ω g c (mK op) a b Ξ ο Q X) X) X):V g c (.bin op l r) m H Q X:=by
 intro n e' he A s hA
 refine nU (V2 he) λ n' l' r' p EC h1 h2=>?_;refine EC.symm▸?_
 exact wpAny_BinOp (step hA hA Go.refl (h n' l' h1) λ a s₁ ρ H₁ a1 a2 a3=>step hA a1 a2 (a3 n' r' h2) λ b ae Ξ ο b1 b2 b3=>next hA b1 b2 (b3 a b rfl rfl))
theorem ED{n:Nat}{sc:Scope}{e:Expr}{p:PE}(h:Sp n sc e p)(op:CmpOp):behindInMarks op e=false:=by
 refine ψ h λ d k EE=>?_;clear h;subst EE
 cases p <;> rfl
theorem V.υ{op:CmpOp}{l r:PE}{Q:Value->Lc->AH->Prop}(h:V g c l m H (λ a ρ H₁=>V g c r ρ H₁ (λ b Ξ ο=>Ω g c (cJ op) a b Ξ ο Q X) X) X):V g c (.υ l op r) m H Q X:=by
 intro n e' he A s hA
 refine nU (MK he) λ n' l' r' p EF h1 h2=>?_;refine EF.symm▸?_
 exact wpAny_Compare1 (step hA hA Go.refl (h n' l' h1) λ a s₁ ρ H₁ a1 a2 a3=>step hA a1 a2 (a3 n' r' h2) λ b ae Ξ ο b1 b2 b3=>next hA b1 b2 (b3 a b rfl rfl)) (ED h2 op)
theorem Te.υ{op:CmpOp}{l r:PE}{Q:Bool->Lc->AH->Prop}(h:V g c l m H (λ a ρ H₁=>V g c r ρ H₁ (λ b Ξ ο=>Ω g c (cJ op) a b Ξ ο (λ v cw ω=>bH g c v cw ω Q X) X) X) X):Te g c (.υ l op r) m H Q X:=by
 intro n e' he A s hA
 refine nU (MK he) λ n' l' r' p EG h1 h2=>?_;refine EG.symm▸?_
 exact wpAny_isTrue_Compare1 (step hA hA Go.refl (h n' l' h1) λ a s₁ ρ H₁ a1 a2 a3=>step hA a1 a2 (a3 n' r' h2) λ b ae Ξ ο b1 b2 b3=>step hA b1 b2 (b3 a b rfl rfl) λ v bZ cw ω d1 d2 d3=>next hA d1 d2 (d3 v rfl)) (ED h2 op)
theorem Te.not{x:PE}{Q:Bool->Lc->AH->Prop}(h:Te g c x m H (λ b m' H'=>Q (!b) m' H') X):Te g c (.not x) m H Q X:=by
 intro n e' he A s hA
 refine nR (V3 he) λ n' x' p EH h1=>?_;refine EH.symm▸?_
 exact wpAny_isTrue_Not (step hA hA Go.refl (h n' x' h1) λ a s₁ ρ H₁ a1 a2 a3=>⟨ρ,H₁,a1,a2,a3⟩)
theorem V.bG{t a b:PE}{Q:Value->Lc->AH->Prop}(h:Te g c t m H (λ k ρ H₁=>if k=true then V g c a ρ H₁ Q X else V g c b ρ H₁ Q X) X):V g c (.bG t a b) m H Q X:=by
 intro n e' he A s hA
 refine rB (V8 he) λ n' t' a' b' p Wy h1 h2 h3=>?_;refine Wy.symm▸?_
 refine wpAny_IfExp (step hA hA Go.refl (h n' t' h1) λ k s₁ ρ H₁ a1 a2 a3=>?_)
 cases k with
 |true=>exact next hA a1 a2 (a3 n' a' h2)
 |false=>exact next hA a1 a2 (a3 n' b' h3)
theorem S.nil(q:Q .next m H):S g c [] m H Q X:=by
 intro n ss h A s hA
 refine(ey.nil h)▸?_
 exact Ah ⟨m,H,hA,Go.refl,q⟩
@[reducible] def MV(g:Gv)(c:Cx)(l:List PS)(Q:bJ->Lc->AH->Prop)(X:Value->Lc->AH->Prop):bJ->Lc->AH->Prop:=λ f m H=>match f with
 | .next=>S g c l m H Q X
 |f=>Q f m H
@[reducible] def MW(J:Lc->AH->Prop)(Q:bJ->Lc->AH->Prop):bJ->Lc->AH->Prop:=λ f m H=>match f with
 | .next | .cont=>J m H
 | .brk=>Q .next m H
 | .ret v=>Q (.ret v) m H
theorem S.cons{x:PS}{l:List PS}{Q:bJ->Lc->AH->Prop}(h:S1 g c x m H (MV g c l Q X) X):S g c (x::l) m H Q X:=by
 intro n ss hs A s hA
 refine dG (ey.cons hs) λ e l' EI h1 h2=>?_;refine EI.symm▸?_
 refine EJ ?_
 refine step hA hA Go.refl (h n e h1) λ f s₁ ρ H₁ a1 a2 a3=>?_
 cases f with
 |next=>exact next hA a1 a2 (a3 n l' h2)
 |brk=>exact⟨ρ,H₁,a1,a2,a3⟩
 |cont=>exact⟨ρ,H₁,a1,a2,a3⟩
 |ret v=>exact⟨ρ,H₁,a1,a2,a3⟩
theorem S1.ret{x:PE}{Q:bJ->Lc->AH->Prop}(h:V g c x m H (λ v m' H'=>Q (.ret v) m' H') X):S1 g c (.ret x) m H Q X:=by
 intro n st hs A s hA
 refine nR (Wm hs) λ n' x' p Wz h1=>?_;subst Wz
 exact wpAny_Return_some (step hA hA Go.refl (h n' x' h1) λ a s₁ ρ H₁ a1 a2 a3=>⟨ρ,H₁,a1,a2,a3⟩)
theorem S1.dN(h:Q (.ret .none) m H):S1 g c .dN m H Q X:=by
 intro n st hs A s hA
 refine Θ (Wn hs) λ p EK=>?_;refine EK.symm▸?_
 exact wpAny_Return_none ⟨m,H,hA,Go.refl,h⟩
theorem S1.iff{t:PE}{a b:List PS}{Q:bJ->Lc->AH->Prop}(h:Te g c t m H (λ k ρ H₁=>if k=true then S g c a ρ H₁ Q X else S g c b ρ H₁ Q X) X):S1 g c (.iff t a b) m H Q X:=by
 intro n st hs A s hA
 refine rB (Wo hs) λ n' t' a' b' p WC h1 h2 h3=>?_;refine WC.symm▸?_
 refine wpAny_If (step hA hA Go.refl (h n' t' h1) λ k s₁ ρ H₁ a1 a2 a3=>?_)
 cases k with
 |true=>exact next hA a1 a2 (a3 n' a' h2)
 |false=>exact next hA a1 a2 (a3 n' b' h3)
theorem MX(h:i<NT.length):codeOf (N i)=some i:=o_ ((by kernel_rfl:NT.length=318)▸Nat.blt_eq.mpr h)
theorem rL(hi:i<NT.length)(hj:j<NT.length)(e:N i=N j):i=j:=by
 have:=MX hi
 rw[e,MX hj]at this
 exact(bY this).symm
noncomputable def put(i:Nat)(v:Value):Lc->Lc
 | []=>[(i,v)]
 | (j,u)::r=>if j=i then(i,v)::r else(j,u)::put i v r
theorem xy:put i v ((i,u)::r)=(i,v)::r:=if_pos rfl
theorem Ai(h:j≠i):put i v ((j,u)::r)=(j,u)::put i v r:=if_neg h
theorem rM{i:Nat}:eS i ((i,u)::r)=some u:=by
 show(match i==i with|true=>some u |false=>_)=_;rw[beq_self_eq_true]
theorem nZ{i j:Nat}(h:i≠j):eS i ((j,u)::r)=r.lookup i:=by
 show(match i==j with|true=>some u |false=>_)=_;rw[beq_eq_false_iff_ne.mpr h]
theorem Aj(i:Nat)(v:Value)(m:Lc)(j:Nat):(put i v m).lookup j=if j=i then some v else m.lookup j:=by
 induction m with
 |nil=>
  by_cases h:j=i
  ·rw[if_pos h,h];exact rM
  ·rw[if_neg h];exact nZ h
 |cons p r ih=>
  by_cases hk:p.1=i
  ·rw[<- hk,xy (u:=p.2)]
   by_cases h:j=p.1
   ·rw[if_pos h,h];exact rM
   ·rw[if_neg h,nZ h];exact(nZ h).symm
  ·rw[Ai (u:=p.2) hk]
   by_cases h:j=p.1
   ·rw[if_neg (λ z=>hk (h.symm.trans z)),h,rM];exact rM.symm
   ·rw[nZ h,ih,show eS j (p::r)=r.lookup j from nZ h]
theorem xo.put(h:xo mm m)(hi:i<NT.length):xo (λ x=>if x=N i then some v else mm x) (put i (nv v) m):=by
 intro j u hj e
 rw[Aj]at e
 show Option.map nv (if N j=N i then some v else mm (N j))=some u
 by_cases k:j=i
 ·subst k;rw[if_pos rfl]at e⊢;exact e
 ·rw[if_neg k]at e;rw[if_neg λ q=>k (rL hj hi q)];exact h j u hj e
theorem At.turn(x:At g c A m H s)(tk:Nat)(hn:h'.Ns c.env.locals MY)(he:xo MY m')(hs:n6 c.env.locals s.heap h'):
  At g c A m' H {s with heap:=h',toks:=tk} where
 ok:=x.ok
 old a o e:=by
  have bM:a≠c.env.locals:=λ q=>by
   have h1:=dO e
   have h2:=x.c9
   rw[q]at h1
   exact absurd h1 (Nat.not_lt.mpr h2)
  exact(hs.2 a bM).trans (x.old a o e)
 sim a o e:=by
  have bM:a≠c.env.locals:=λ q=>by rw[q,x.off]at e;cases e
  exact(x.sim a o e).congr (hs.2 a bM)
 low:=x.low
 depth:=x.depth
 units:=x.units
 hand:=x.hand
 frames:=by
  obtain⟨fs,h1,h2⟩:=x.frames
  refine⟨fs,h1,λ env he=>?_⟩
  obtain⟨k1,L,o,k2,k3,k4,k5⟩:=h2 env he
  by_cases hL:L=c.env.locals
  ·obtain⟨o',es,ep,q1,q2,_⟩:=hn
   exact⟨k1,L,o',k2,by refine hL▸?_;exact q1,(λ vs z=>by rw[q2]at z;cases z),k5⟩
  ·exact⟨k1,L,o,k2,(hs.2 L hL).trans k3,k4,k5⟩
 os:=x.os
 gens:=x.gens
 size:=Ψ x.size (aU hs.1.symm)
 aY:=x.aY
 ns:=⟨MY,hn,he⟩
 off:=x.off
 c9:=x.c9
 head:=x.head
theorem Go.turn(hs:n6 L h h'):Go (some L) H h H h':=
 Go.same λ a o q _ e=>⟨o.slots,(hs.2 a λ z=>q (by exact z▸rfl)).trans e⟩
theorem Al(h1:c.sc.names.lookup x=some .local)(h2:codeOf x=some i)(hA:At g c A m H s)(k:∀s',At g c A (put i (nv v) m) H s'->Go (some c.env.locals) H s.heap H s'.heap->Q () s'):wpAny (MM g) A (storeName c.env x v) Q E s:=by
 refine ag (nV h2) λ hi hx=>?_
 obtain⟨mm,kz,heq⟩:=hA.ns
 have k1:c.env.kindOf x=some .local:=by unfold rK;exact hA.aY.sc▸(h1)
 refine wpAny_storeName_local k1 kz (λ h' hn hs=>k _ (hA.turn _ hn (by refine hx▸?_;exact heq.put hi) hs) (Go.turn hs)) ?_
 exact hA.aY.sc▸hA.aY.kind▸rfl
theorem store(h1:c.sc.names.lookup x=some .local)(h2:codeOf x=some i)(q:Q () (put i (nv v) m) H):W g c (storeName c.env x v) m H Q X:=
 λ _ _ hA=>Al h1 h2 hA λ _ a b=>⟨_,H,a,b,q⟩
theorem load(h1:c.sc.names.lookup x=some .local)(h2:codeOf x=some i)(e:m.lookup i=some v)(q:∀v',nv v'=v->Q v' m H):W g c (loadName c.env x) m H Q X:=by
 intro A s hA
 refine ag (nV h2) λ hi hx=>?_
 obtain⟨mm,kz,heq⟩:=hA.ns
 have hv:=heq i _ hi e
 rw[hx]at hv
 refine ψ (Option.map_eq_some_iff.mp hv) λ v' d8 M_=>?_
 have k1:c.env.kindOf x=some .local:=by unfold rK;exact hA.aY.sc▸(h1)
 exact wpAny_loadName_local (by refine hA.aY.sc▸?_;exact hA.aY.kind) k1 kz d8 ⟨m,H,hA,Go.refl,q v' M_⟩
noncomputable def lY:PE->Bool
 | .comp ..=>false
 |_=>true
theorem u5(h:Sp n sc e p)(hp:lY p=true)(t:Option Expr)(l:Nat)(env:Env):swapsWith e t l env=pure false:=by
 refine ψ h λ d k EF=>?_;clear h;subst EF
 cases p <;> first |rfl |exact nF hp
theorem S1.Φ(hp:lY x=true)(h:V g c x m H (λ v ρ H₁=>Q .next (put i v ρ) H₁) X):S1 g c (.Φ i x) m H Q X:=by
 intro n st hs A s hA
 refine zY (MU hs) λ n' a q x' p EG h1 h2=>?_;refine EG.symm▸?_
 obtain⟨k1,k2⟩:=jE h1
 exact Na (step hA hA Go.refl (h n' x' h2) λ v s₁ ρ H₁ a1 a2 a3=>step hA a1 a2 (store (Q:=λ _ m' H'=>Q .next m' H') k1 k2 a3) λ _ ae Ξ ο b1 b2 b3=>⟨Ξ,ο,b1,b2,b3⟩) (u5 h2 hp _ _ _)
theorem S1.aug(e:m.lookup i=some v)(h:V g c x m H (λ b ρ H₁=>Ω g c (rN op) v b ρ H₁ (λ r Ξ ο=>Q .next (put i r Ξ) ο) X) X):S1 g c (.aug i op x) m H Q X:=by
 intro n st hs A s hA
 refine zY (Wj hs) λ n' a q x' p EH h1 h2=>?_;refine EH.symm▸?_
 obtain⟨k1,k2⟩:=jE h1
 exact wpAny_AugAssign_Name (step hA hA Go.refl (load (Q:=λ v' m' H'=>nv v'=v/\m'=m/\H'=H) k1 k2 e λ v' hv=>⟨hv,rfl,rfl⟩) λ v' s₁ ρ H₁ a1 a2 WH=>fg WH λ a3 a4 a5=>by
  subst a4 a5
  exact step hA a1 a2 (h n' x' h2) λ b ae Ξ ο b1 b2 b3=>step hA b1 b2 (b3 v' b a3 rfl) λ r bZ cw ω d1 d2 d3=>step hA d1 d2 (store (Q:=λ _ m' H'=>Q .next m' H') k1 k2 d3) λ _ bc dP ar f1 f2 f3=>⟨dP,ar,f1,f2,f3⟩)
section
variable {k:Nat}
structure bh(g:Gv)(H:AH)(h h':Heap):Prop where
 old:∀a o,a<g.cm.objs.size->h.get? a=some o->h'.get? a=some o
 lb:∀a,H a≠none->h'.get? a=h.get? a
 lg:∀a o,h.get? a=some o->(∀vs,o.data≠.fields vs)->∃sl,h'.get? a=some {o with slots:=sl}
 sz:g.cm.objs.size<=h.objs.size->g.cm.objs.size<=h'.objs.size
theorem bh.refl:bh g H h h:=⟨λ _ _ _ e=>e,λ _ _=>rfl,λ _ o e _=>⟨o.slots,e⟩,id⟩
theorem bh.trans(x:bh g H h₁ Ey)(y:bh g H Ey Ez):bh g H h₁ Ez where
 old a o q e:=y.old a o q (x.old a o q e)
 lb a q:=(y.lb a q).trans (x.lb a q)
 lg a o e n:=by
  refine Θ (x.lg a o e n) λ sl e'=>?_
  refine Θ (y.lg a {o with slots:=sl} e' n) λ ky e2=>?_
  exact⟨ky,e2⟩
 sz q:=y.sz (x.sz q)
theorem bh.push(hs:∀a o,H a=some o->∃ob,h.get? a=some ob)(o:Obj):bh g H h (h.push o) where
 old a o' _ e:=ez _ e
 lb a q:=by
  cases e:H a with
  |none=>exact absurd e q
  |some ao=>refine Θ (hs a ao e) λ ob h1=>?_;rw[ez _ h1,h1]
 lg a o' e _:=⟨o'.slots,ez _ e⟩
 sz q:=by rw[xA];exact Am q
theorem bh.record(hb:h.get? b=some ob)(hd:ob.data=.fields vs)(hH:H b=none)(hl:g.cm.objs.size<=b)(f:Obj->Obj):bh g H h (h.update b f) where
 old a o q e:=by
  have:b≠a:=λ z=>absurd q (Nat.not_lt.mpr (z▸hl))
  rw[mL _ _ this];exact e
 lb a q:=mL _ _ (λ z=>q (z▸hH))
 lg a o e n:=by
  have:b≠a:=λ z=>by subst z;rw[hb]at e;obtain rfl:=bY e;exact n _ hd
  exact⟨o.slots,by rw[mL _ _ this];exact e⟩
 sz q:=Ψ q (aU (WI ..).symm)
theorem bh.slots{h h':Heap}{S:List Addr}(x:Heap.SlotsOnly S h h')(hS:∀a∈S,H a=none/\g.cm.objs.size<=a):bh g H h h' where
 old a o q e:=by rw[x.2.1 a λ z=>absurd q (Nat.not_lt.mpr (hS a z).2)];exact e
 lb a q:=x.2.1 a λ z=>q (hS a z).1
 lg a o e _:=x.2.2 a o e
 sz q:=Ψ q (aU x.1.symm)
theorem aC.shift(x:aC g k hd A H s)(y:bh g H s.heap h')(tk:Nat):aC g k hd A H {s with heap:=h',toks:=tk} where
 ok:=x.ok
 old a o e:=y.old a o (dO e) (x.old a o e)
 sim a o e:=(x.sim a o e).congr (y.lb a (by rw[e];simp))
 low:=x.low
 depth:=x.depth
 units:=x.units
 hand:=x.hand
 frames:=by
  obtain⟨fs,h1,h2⟩:=x.frames
  refine⟨fs,h1,λ env he=>?_⟩
  obtain⟨k1,L,o,k2,k3,k4,k5⟩:=h2 env he
  refine Θ (y.lg L o k3 k4) λ sl e=>?_
  exact⟨k1,L,_,k2,e,k4,k5⟩
 os:=x.os
 gens:=x.gens
 size:=y.sz x.size
theorem Ns.stays(n:h.Ns L mm)(y:bh g H h h'):h'.Ns L mm:=by
 refine o8 n λ o es ep h1 h2 r=>?_;clear n
 refine Θ (y.lg L o h1 (λ vs z=>by rw[h2]at z;cases z)) λ sl e=>?_
 exact⟨_,es,ep,e,h2,r⟩
theorem cX.stays(n:cX h L es)(y:bh g H h h'):cX h' L es:=by
 obtain⟨o,ents,ep,h1,h2,r⟩:=n
 refine Θ (y.lg L o h1 (λ vs z=>by rw[h2]at z;cases z)) λ sl e=>?_
 exact⟨_,ents,ep,e,h2,r⟩
theorem At.shift(x:At g c A m H s)(y:bh g H s.heap h')(tk:Nat):At g c A m H {s with heap:=h',toks:=tk}:=
 {x.toaC.shift y tk with
  aY:=x.aY
  ns:=let⟨mm,a,b⟩:=x.ns;⟨mm,Ns.stays a y,b⟩
  off:=x.off,c9:=x.c9,head:=x.head}
def xB(ea T:Addr)(h h':Heap):Prop:=∀a o,a≠ea->a≠T->h.get? a=some o->∃sl,h'.get? a=some {o with slots:=sl}
theorem Nb(x:aC g k hd A H s)(h:∀env∈fs,Ew g H s.heap env):s.heap.FunFrames g.cm fs/\∀a∈fs.filterMap (·.frame),H a=none/\g.cm.objs.size<=a:=by
 induction fs with
 |nil=>exact⟨trivial,λ a ha=>nomatch ha⟩
 |cons env r ih=>
  refine ag (ih λ e he=>h e (.tail _ he)) λ i1 i2=>?_
  obtain⟨k1,L,o,k2,k3,k4,k5,k6⟩:=h env (.head _)
  refine⟨⟨k1,⟨L,o,k2,mM k6,k3,k4⟩,i1⟩,λ a ha=>?_⟩
  rw[Nc,k2]at ha
  rcases List.mem_cons.mp ha with rfl |ha
  ·exact⟨k5,k6⟩
  ·exact i2 a ha
theorem WJ(x:aC g k hd A H s)(dU:A.frames=some (env::outer))(hf:env.frame=some L)(p:iA g H ea d T v fl s.heap)
  (hn:fl≠iV L) (q:∀h' T',aC g k hd A H {s with heap:=h'}->bh g H s.heap h'->xB ea T s.heap h'->iA g H ea d T' v (iV L) h'->s.heap.get? T'=none->Q () {s with heap:=h'}):
  wpAny (MM g) A (u6 (.ref ea) env) Q E s:=by
 obtain⟨oe,vs,e1,e2,e3,e4,e5⟩:=p.me
 obtain⟨oT,ts,t1,t2,t3⟩:=p.tb
 obtain⟨fs,f1,f2⟩:=x.frames
 rw[dU]at f1;cases f1
 delta u6
 simp only[hf]
 refine Δ (jm e1 e3 e5 ?_)
 rw[if_pos (show(Value.ref T != Value.none)= true from by simp)]
 refine Δ (jm t1 t2 t3 ?_)
 rw[if_neg (by simpa using hn)]
 refine Δ (xC t1 t2 (Array.getElem?_eq_some_iff.mp t3).1 ?_)
 have y1:bh g H s.heap (s.heap.update T (rO (·.setIfInBounds 3 Value.none))):=bh.record t1 t2 p.off.2.2 p.low.2.2 _
 have Nd:∀b,b≠T->(s.heap.update T (rO (·.setIfInBounds 3 Value.none))).get? b=s.heap.get? b:=λ b hb=>mL _ _ (cP hb)
 generalize h1:s.heap.update T (rO (·.setIfInBounds 3 Value.none))=fY at *
 refine ag (Nb (x.shift y1 s.toks) (fs:=env::outer) (by obtain⟨lZ,a,b⟩:=(x.shift y1 s.toks).frames;rw[dU]at a;cases a;exact b)) λ FF FA=>?_
 refine Δ (wpAny_frameOf_fun (base:=g.cm) dU FF hf λ b_ n7=>?_)
 have y2:bh g H fY b_:=bh.slots n7 FA
 refine Δ (wpAny_entryPlaceOf λ pl EN=>?_)
 delta WK newFields
 refine Δ (pd ?_ (EN.sizeOk5 _ _ _ _ _))
 have EO:∀b o vs,fY.get? b=some o->o.data=.fields vs->b∉(env::outer).filterMap (·.frame):=λ b o vs hb hd hm=>by
  obtain⟨_,o',mN,EP⟩:=FF.mem hm
  rw[hb]at mN;cases mN;exact EP vs hd
 have E1:fY.get? ea=some oe:=(Nd ea (cP p.ne)).trans e1
 have E2:b_.get? ea=some oe:=(n7.2.1 ea (EO ea oe vs E1 e3)).trans E1
 let ob:Obj:={cls:=.type "traceback",dict:=none,data:=.fields ([Value.ref T,.ref L,.none,iV L,.none]++(if pl.isEmpty then List.replicate 6 Value.none else pl)).toArray}
 have E3:(b_.push ob).get? ea=some oe:=ez ob E2
 refine xC E3 e3 (Array.getElem?_eq_some_iff.mp e5).1 ?_
 have y3:bh g H b_ (b_.push ob):=bh.push (λ a o e=>((((x.shift y1 s.toks).sim a o e).congr (y2.lb a (by rw[e];simp))).get)) ob
 have y4:bh g H (b_.push ob) ((b_.push ob).update ea (rO (·.setIfInBounds 1 (.ref b_.objs.size)))):=bh.record E3 e3 p.off.1 p.low.1 _
 have sz:b_.objs.size=s.heap.objs.size:=n7.1.trans (by rw[<- h1];exact WI ..)
 have n8:s.heap.get? b_.objs.size=none:=mM (aU sz.symm)
 have xD:b_.objs.size≠ea:=λ z=>by rw[z,e1]at n8;cases n8
 refine q _ b_.objs.size (x.shift (y1.trans (y2.trans (y3.trans y4))) s.toks) (y1.trans (y2.trans (y3.trans y4))) ?_ ?_ n8
 ·intro a o q1 q2 e
  obtain⟨sl,a2⟩:=n7.2.2 a o ((Nd a q2).trans e)
  refine⟨sl,?_⟩
  rw[mL _ _ (cP q1)]
  exact ez ob a2
 ·have dd:=u7 e3 (·.setIfInBounds 1 (Value.ref b_.objs.size))
  refine⟨⟨_,_,mO _ E3 (xE dd),(ES _ _).trans e2,dd,?_,?_⟩,?_,?_,xD,⟨p.off.1,p.off.2.1,?_⟩,⟨p.low.1,p.low.2.1,?_⟩⟩
  ·obtain⟨c',d',dt,sl⟩:=oe;cases e3;exact e4
  ·have:=(Array.getElem?_eq_some_iff.mp e5).1
   simp[this]
  ·exact cX.stays p.dict (y1.trans (y2.trans (y3.trans y4)))
  ·refine⟨ob,_,?_,rfl,?_⟩
   ·rw[mL _ _ (cP xD)];exact fZ _ rfl
   ·simp
  ·cases e:H b_.objs.size with
   |none=>rfl
   |some ao=>obtain⟨o',h'⟩:=(x.sim _ ao e).get;rw[n8]at h';cases h'
  ·rw[sz];exact jo (cI p.low.1 (dO e1))
theorem An(x:aC g k hd A H s)(p:iA g H ea d T v fl s.heap)
  (q:∀h',aC g k hd A H {s with heap:=h'}->bh g H s.heap h'->xB ea T s.heap h'->iA g H ea d T v (fr.elim .none λ f=>iV f) h'->Q () {s with heap:=h'}):
  wpAny (MM g) A (setFlight (.ref ea) fr) Q E s:=by
 obtain⟨oe,vs,e1,e2,e3,e4,e5⟩:=p.me
 obtain⟨oT,ts,t1,t2,t3⟩:=p.tb
 refine Δ (jm e1 e3 e5 ?_)
 refine xC t1 t2 (Array.getElem?_eq_some_iff.mp t3).1 ?_
 have y1:bh g H s.heap (s.heap.update T (rO (·.setIfInBounds 3 (fr.elim .none λ f=>iV f)))):=bh.record t1 t2 p.off.2.2 p.low.2.2 _
 refine q _ (x.shift y1 s.toks) y1 (λ a o _ q2 e=>⟨o.slots,by rw[mL _ _ (cP q2)];exact e⟩) ⟨⟨oe,vs,by rw[mL _ _ p.ne];exact e1,e2,e3,e4,e5⟩,?_,⟨_,_,mO _ t1 (xE (u7 t2 (·.setIfInBounds 3 (fr.elim Value.none λ f=>iV f)))),(u7 t2 (·.setIfInBounds 3 (fr.elim Value.none λ f=>iV f))),?_⟩,p.ne,p.off,p.low⟩
 ·exact cX.stays p.dict y1
 ·have:=(Array.getElem?_eq_some_iff.mp t3).1
  simp[this]
theorem note(x:aC g k hd A H s)(dU:A.frames=some (env::outer))(hf:env.frame=some L)(p:iA g H ea d T v fl s.heap)
  (q:∀h' T',aC g k hd A H {s with heap:=h'}->bh g H s.heap h'->xB ea T s.heap h'->iA g H ea d T' v (iV L) h'->(T'=T\/s.heap.get? T'=none)->Q () {s with heap:=h'}):
  wpAny (MM g) A (u6 (.ref ea) env) Q E s:=by
 by_cases hn:fl=iV L
 ·subst hn
  obtain⟨oe,vs,e1,e2,e3,e4,e5⟩:=p.me
  obtain⟨oT,ts,t1,t2,t3⟩:=p.tb
  delta u6
  simp only[hf]
  refine Δ (jm e1 e3 e5 ?_)
  refine Δ (jm t1 t2 t3 ?_)
  rw[if_pos (by simp)]
  exact aL (q s.heap T x bh.refl (λ a o _ _ e=>⟨o.slots,e⟩) p (.inl rfl))
 ·exact WJ x dU hf p hn λ h' T' a b c d e=>q h' T' a b c d (.inr e)
theorem leave(x:aC g k hd A H s)(dU:A.frames=some (env::outer))(hf:env.frame=some L)(p:iA g H ea d T v fl s.heap)
  (q:∀h' T',aC g k hd A H {s with heap:=h'}->bh g H s.heap h'->(∀a o,a≠ea->a≠T->s.heap.get? a=some o->∃sl,h'.get? a=some {o with slots:=sl})->iA g H ea d T' v .none h'->(T'=T\/s.heap.get? T'=none)->Q () {s with heap:=h'}):
  wpAny (MM g) A («leaving» env (.ref ea)) Q E s:=by
 refine Δ (note x dU hf p λ h1 T' x1 y1 n1 p1 f1=>An (fr:=none) (s:={s with heap:=h1}) x1 p1 λ h2 x2 y2 n2 p2=>q h2 T' x2 (y1.trans y2) ?_ p2 f1)
 intro a o q1 q2 e
 refine Θ (n1 a o q1 q2 e) λ sl e'=>?_
 by_cases hT:a=T'
 ·rcases f1 with rfl |f1
  ·exact absurd hT q2
  ·rw[hT]at e;rw[f1]at e;exact nN e
 ·obtain⟨ky,e2⟩:=n2 a {o with slots:=sl} q1 hT e'
  exact⟨ky,e2⟩
structure ET(g:Gv)(H:AH)(ea d:Addr)(v:Value)(h:Heap):Prop where
 me:∃oe vs,h.get? ea=some oe/\oe.cls=.ref g.st/\oe.data=.fields vs/\oe.dict=some d/\vs[1]?=some .none
 dict:cX h d [(cA,v)]
 off:H ea=none/\H d=none
 low:g.cm.objs.size<=ea/\g.cm.objs.size<=d
theorem WL(x:aC g k hd A H s)(dU:A.frames=some (env::outer))(hf:env.frame=some L)(p:ET g H ea d v s.heap)
  (q:∀h' T',aC g k hd A H {s with heap:=h'}->bh g H s.heap h'->xB ea ea s.heap h'->iA g H ea d T' v (iV L) h'->s.heap.get? T'=none->Q () {s with heap:=h'}):
  wpAny (MM g) A (u6 (.ref ea) env) Q E s:=by
 refine xg p.me λ oe vs e1 e2 e3 e4 e5=>?_
 obtain⟨fs,f1,f2⟩:=x.frames
 rw[dU]at f1;cases f1
 delta u6
 simp only[hf]
 refine Δ (jm e1 e3 e5 ?_)
 rw[if_neg (by decide)]
 refine ag (Nb x (fs:=env::outer) f2) λ FF FA=>?_
 refine Δ (wpAny_frameOf_fun (base:=g.cm) dU FF hf λ b_ n7=>?_)
 have y2:bh g H s.heap b_:=bh.slots n7 FA
 refine Δ (wpAny_entryPlaceOf λ pl EN=>?_)
 delta WK newFields
 refine Δ (pd ?_ (EN.sizeOk5 _ _ _ _ _))
 have EO:∀b o vs,s.heap.get? b=some o->o.data=.fields vs->b∉(env::outer).filterMap (·.frame):=λ b o vs hb hd hm=>by
  obtain⟨_,o',mN,EP⟩:=FF.mem hm
  rw[hb]at mN;cases mN;exact EP vs hd
 have E2:b_.get? ea=some oe:=(n7.2.1 ea (EO ea oe vs e1 e3)).trans e1
 let ob:Obj:={cls:=.type "traceback",dict:=none,data:=.fields ([Value.none,.ref L,.none,iV L,.none]++(if pl.isEmpty then List.replicate 6 Value.none else pl)).toArray}
 have E3:(b_.push ob).get? ea=some oe:=ez ob E2
 refine xC E3 e3 (Array.getElem?_eq_some_iff.mp e5).1 ?_
 have y3:bh g H b_ (b_.push ob):=bh.push (λ a o e=>(((x.sim a o e).congr (y2.lb a (by rw[e];simp))).get)) ob
 have y4:bh g H (b_.push ob) ((b_.push ob).update ea (rO (·.setIfInBounds 1 (.ref b_.objs.size)))):=bh.record E3 e3 p.off.1 p.low.1 _
 have sz:b_.objs.size=s.heap.objs.size:=n7.1
 have n8:s.heap.get? b_.objs.size=none:=mM (aU sz.symm)
 have xD:b_.objs.size≠ea:=λ z=>by rw[z,e1]at n8;cases n8
 refine q _ b_.objs.size (x.shift (y2.trans (y3.trans y4)) s.toks) (y2.trans (y3.trans y4)) ?_ ?_ n8
 ·intro a o q1 q2 e
  refine Θ (n7.2.2 a o e) λ sl a2=>?_
  refine⟨sl,?_⟩
  rw[mL _ _ (cP q1)]
  exact ez ob a2
 ·have dd:=u7 e3 (·.setIfInBounds 1 (Value.ref b_.objs.size))
  refine⟨⟨_,_,mO _ E3 (xE dd),(ES _ _).trans e2,dd,?_,?_⟩,cX.stays p.dict (y2.trans (y3.trans y4)),?_,xD,⟨p.off.1,p.off.2,?_⟩,⟨p.low.1,p.low.2,?_⟩⟩
  ·obtain⟨c',d',dt,sl⟩:=oe;cases e3;exact e4
  ·have:=(Array.getElem?_eq_some_iff.mp e5).1
   simp[this]
  ·refine⟨ob,_,?_,rfl,?_⟩
   ·rw[mL _ _ (cP xD)];exact fZ _ rfl
   ·simp
  ·cases e:H b_.objs.size with
   |none=>rfl
   |some ao=>refine Θ ((x.sim _ ao e).get) λ o' h'=>?_;rw[n8]at h';cases h'
  ·rw[sz];exact jo (cI p.low.1 (dO e1))
theorem WM(x:aC g k hd A H s)(dU:A.frames=some (env::outer))(hf:env.frame=some L)(p:ET g H ea d v s.heap)
  (q:∀h' T',aC g k hd A H {s with heap:=h'}->bh g H s.heap h'->(∀a o,a≠ea->s.heap.get? a=some o->∃sl,h'.get? a=some {o with slots:=sl})->iA g H ea d T' v .none h'->s.heap.get? T'=none->Q () {s with heap:=h'}):
  wpAny (MM g) A («leaving» env (.ref ea)) Q E s:=by
 refine Δ (WL x dU hf p λ h1 T' x1 y1 n1 p1 f1=>An (fr:=none) (s:={s with heap:=h1}) x1 p1 λ h2 x2 y2 n2 p2=>q h2 T' x2 (y1.trans y2) ?_ p2 f1)
 intro a o q1 e
 refine Θ (n1 a o q1 q1 e) λ sl e'=>?_
 refine Θ (n2 a {o with slots:=sl} q1 (λ z=>by rw[z,f1]at e;exact nN e) e') λ ky e2=>?_
 exact⟨ky,e2⟩
end
inductive xF(g:Gv)(k:Nat)(A:bS)(H:AH)(s:Shared)(Q:Value->AH->Prop)(v:Value)(s':Shared):Prop
 |mk (H':AH) (h:aC g k none A H' s') (o:Go none H s.heap H' s'.heap) (q:Q (nv v) H'):xF g k A H s Q v s'
inductive EU(g:Gv)(k:Nat)(A:bS)(H:AH)(s:Shared)(X:Value->AH->Prop)(e:Value)(s':Shared):Prop
 |mk (H':AH) (v:Value) (h:aC g k none A H' s') (o:Go none H s.heap H' s'.heap) (x:Exc g H' s.heap e v s'.heap) (q:X v H'):EU g k A H s X e s'
def μ(g:Gv)(k:Nat)(f:Value)(args:List Value)(H:AH)(Q:Value->AH->Prop)(X:Value->AH->Prop):Prop:=
 ∀A s raw,raw.map nv=args->aC g k none A H s->wpAny (MM g) A (call f raw) (xF g k A H s Q) (EU g k A H s X) s
def cy(g:Gv)(k:Nat)(f:Value)(args:List Value)(H:AH)(Q:Value->AH->Prop)(X:Value->AH->Prop):Prop:=
 ∀A s raw,raw.map nv=args->aC g k none A H s->n9 (MM g) A (.call f ⟨raw,[]⟩) (λ r s'=>match r with| .ok (.ret v)=>xF g k A H s Q v s' | .ok _=>False | .error e=>EU g k A H s X e s') s
theorem cy.call(h:cy g k f args H Q X):μ g k f args H Q X:=
 λ A s raw hr hA=>wpAny_call (h A s raw hr hA)
theorem μ.mono(h:μ g k f args H Q X)(hQ:∀v H',Q v H'->Q' v H')(hX:∀v H',X v H'->X' v H'):μ g k f args H Q' X':=
 λ A s raw hr hA=>cD (h A s raw hr hA) (λ v s' ⟨H',a,b,c⟩=>⟨H',a,b,hQ _ _ c⟩) λ e s' ⟨H',v,a,b,c,d⟩=>⟨H',v,a,b,c,hX _ _ d⟩
theorem At.back(x:At g c A m H s)(y:aC g c.k c.hd A H' s')(G:Go none H s.heap H' s'.heap):At g c A m H' s':=by
 obtain⟨mm,⟨o,es,ep,h1,h2,r⟩,he⟩:=x.ns
 refine iS (G.old c.env.locals o (by simp) x.off h1) λ a1 sl a2=>?_
 exact{y with aY:=x.aY,ns:=⟨mm,⟨_,es,ep,a2,h2,r⟩,he⟩,off:=a1,c9:=x.c9,head:=x.head}
theorem EV(hd:c.hd=none)(h:μ g c.k f (raw.map nv) H Q X):
  W g c (call f raw) m H (λ v m' H'=>m'=m/\Q (nv v) H') (λ v m' H'=>m'=m/\X v H'):=by
 intro A s hA
 have EW:aC g c.k none A H s:=hd▸hA.toaC
 refine cD (h A s raw rfl EW) (λ v s' ⟨H',a,b,q⟩=>⟨m,H',hA.back (hd▸a) b,b.weak,rfl,q⟩) λ e s' ⟨H',v,a,b,x,q⟩=>⟨m,H',v,hA.back (hd▸a) b,b.weak,x,rfl,q⟩
noncomputable def pg:bJ->Value
 | .ret v=>v
 |_=>.none
inductive Fn(g:Gv)(fa:Addr)(names:List Nat)(body:List PS):Prop
 |i (oc:Value) (od:Option Addr) (xG:Array (Option Value)) (name qual:Str) (params:Arguments) (ss:List Stmt) (sc:Scope) (dV kV doc pm:Value) (an:Option Addr) (u9 ct:Value) (fuel:Nat)
  (f1:g.K.lookup fa=some ⟨oc,od,.func (fnOf name qual params ss sc dV kV doc pm an u9 ct),xG⟩) (f2:codeIn g.K u9 qual=true) (f3:ey fuel sc ss body)
  (f4:∀vals:List Value,vals.length=names.length->bindArgs (fnOf name qual params ss sc dV kV doc pm an u9 ct) ⟨vals,[]⟩=pure ((names.map N).zip vals))
  (f5:∀i∈names,i<NT.length/\sc.names.lookup (N i)=some .local) (f6:names.Nodup) (f7:sc.kind=.function) (f8:sc.isCoroutine=false) (f9:sc.isGenerator=false) (EY:∀x∈sc.names,x.2≠.cell):Fn g fa names body
theorem WN{names:List Nat}(hn:∀i∈names,i<NT.length)(hd:names.Nodup):∀{vals:List Value},Eu (λ x=>(((names.map N).zip vals).reverse).lookup x) (names.zip (vals.map nv)):=by
 intro vals i hi
 have key:∀(names:List Nat),(∀i∈names,i<NT.length)->names.Nodup->∀(vals:List Value) (acc:List (Str×Value)),(∀p∈acc,p.1≠N i\/i∉names)->
   (((((names.map N).zip vals).reverse++acc).lookup (N i))).map nv=match(names.zip (vals.map nv)).lookup i with|some v=>some v |none=>(acc.lookup (N i)).map nv:=by
  intro names
  induction names with
  |nil=>intro _ _ vals acc _;simp
  |cons j r ih=>
   intro h1 h2 vals acc EZ
   cases vals with
   |nil=>simp
   |cons v vs=>
    refine ag (List.nodup_cons.mp h2) λ Ao ph=>?_
    have e:(((List.map N (j::r)).zip (v::vs)).reverse++acc)=((r.map N).zip vs).reverse++((N j,v)::acc):=by simp
    refine e▸?_
    by_cases q:i=j
    ·subst q
     refine(ih (λ i hi=>h1 i (eA _ hi)) ph vs _ (λ p hp=>.inr Ao))▸?_
     have z:∀(l:List Nat) (us:List Value),i∉l->(l.zip us).lookup i=none:=by
      intro l
      induction l with
      |nil=>intro us _;simp
      |cons a l WO=>
       intro us hl
       cases us with
       |nil=>simp
       |cons u us=>
        rw[Ap,not_or]at hl
        refine ag hl λ k1 k2=>?_;clear hl
        have hb:(i==a)=false:=by simpa using k1
        simp[eS,hb,WO us k2]
     refine(z r (vs.map nv) Ao)▸?_
     simp[eS]
    ·have bM:N i≠N j:=λ z=>q (rL hi (h1 j eU) z)
     rw[ih (λ i hi=>h1 i (eA _ hi)) ph vs _ (λ p hp=>by
      rcases List.mem_cons.mp hp with rfl |hp
      ·exact .inl (cP bM)
      ·exact(EZ p hp).imp id λ z w=>z (eA _ w))]
     have hb:(i==j)=false:=by simpa using q
     have fp:(N i==N j)=false:=by simpa using bM
     simp[eS,hb,fp]
 have:=key names hn hd vals [] (λ p hp=>nomatch hp)
 rw[E_]at this
 refine this▸?_
 cases(names.zip (vals.map nv)).lookup i <;> rfl
inductive Fe(g:Gv)(c:Cx)(A:bS)(H:AH)(s:Shared)(X:Value->Lc->AH->Prop)(e:Value)(s':Shared):Prop
 |mk (m':Lc) (H':AH) (v:Value) (ea d:Addr) (h1:e=.ref ea) (h2:At g c A m' H' s') (h3:Go (some c.env.locals) H s.heap H' s'.heap) (h4:ET g H' ea d v s'.heap) (n1:s.heap.get? ea=none) (n2:s.heap.get? d=none) (q:X v m' H'):Fe g c A H s X e s'
theorem aC.dI(x:aC g k hd A H s):H s.heap.objs.size=none:=by
 cases e:H s.heap.objs.size with
 |none=>rfl
 |some ao=>
  refine Θ ((x.sim _ ao e).get) λ o ho=>?_
  rw[mM (bK _)]at ho;exact nN ho
theorem Go.Nf(G:Go none H h H' s'.heap)(y:aC g k hd A H' s')(a:Addr)(o:Obj)(e:h.get? a=some o):∃o',s'.heap.get? a=some o':=by
 cases q:H a with
 |none=>refine iS (G.old a o (λ z=>nomatch z) q e) λ _ sl z=>?_;exact⟨_,z⟩
 |some ao=>
  cases q':H' a with
  |none=>exact absurd q' (G.fk a λ z=>by rw[q]at z;exact nS z)
  |some ao'=>exact(y.sim a ao' q').get
theorem aC.inside(x:aC g (k+1) none A H s)(e2:env.frame=some L)(e3:env.scope.kind≠.module)(hk:∀a o,s.heap.get? a=some o->h₁.get? a=some o)(ho:h₁.get? L=some o)(hn:∀vs,o.data≠.fields vs)(hL:H L=none)(hs:g.cm.objs.size<=L):
  aC g k none (A.deeper env) H {s with heap:=h₁,toks:=tk}:=
 {ok:=x.ok
  old:=λ a o e=>hk a o (x.old a o e)
  sim:=λ a o e=>(x.sim a o e).congr (by refine Θ ((x.sim a o e).get) λ ob q=>?_;refine q▸?_;exact hk a ob q)
  low:=x.low
  depth:=by have:=x.depth;show A.depth+1+2*k+2<_;exact aH this (by simp +arith only)
  units:=by have:=x.units;show A.units+3+16*k+40<_;exact aH this (by simp +arith only)
  hand:=x.hand
  frames:=by
   obtain⟨fs,g1,g2⟩:=x.frames
   exact⟨env::fs,by show A.frames.map _=_;exact g1▸rfl,λ e he=>by
    rcases List.mem_cons.mp he with rfl |he
    ·exact⟨e3,L,o,e2,ho,hn,hL,hs⟩
    ·obtain⟨k1,L,o,k2,k3,k4,k5⟩:=g2 e he
     exact⟨k1,L,o,k2,hk L o k3,k4,k5⟩⟩
  os:=x.os
  gens:=x.gens
  size:=Ψ hs (jo (dO ho))}
theorem aC.back(x:aC g (k+1) none A H s)(y:aC g k none (A.deeper env) H' s'):aC g (k+1) none A H' s':=
 {ok:=y.ok,old:=y.old,sim:=y.sim,low:=y.low,depth:=x.depth,units:=x.units,hand:=x.hand
  frames:=by
   obtain⟨fs,g1,_⟩:=x.frames
   obtain⟨lZ,q1,q2⟩:=y.frames
   have e:(A.deeper env).frames=some (env::fs):=by show A.frames.map _=_;exact g1▸rfl
   rw[e]at q1
   obtain rfl:=bY q1
   exact⟨fs,g1,λ e he=>q2 e (eA _ he)⟩
  os:=y.os,gens:=y.gens,size:=y.size}
theorem Go.inside(G:Go (some L) H₁ h₁ H' h')(hk:∀a o,h.get? a=some o->h₁.get? a=some o)(hL:h.get? L=none)(E:∀a o,H a=some o->H₁ a=some o)(hn:∀a o,h.get? a=some o->H a=none->H₁ a=none):Go none H h H' h':=
 ⟨λ a o _ q e=>G.old a o (λ z=>by rw[<- bY z,hL]at e;exact nN e) (hn a o e q) (hk a o e),λ a o e z=>G.cW a o (E _ _ e) z,λ a es e=>G.aM a es (E _ _ e),λ a e=>G.fk a λ z=>e (by
  cases q:H a with
  |none=>rfl
  |some o=>rw[E _ _ q]at z;exact nS z)⟩
theorem cy.Ng{k:Nat}{fa:Addr}{names:List Nat}(F:bw g->Fn g fa names body)(hlen:args.length=names.length)
  (h:∀c:Cx,c.k=k->c.hd=none->c.fe=c.env->c.env.frame=some c.env.locals->H c.env.locals=none->∀n ss,ey n c.sc ss body->∀A s,At g c A (names.zip args) H s->
   wpAny (MM g) A (execs ss c.env) (fF g c A H s λ f m' H'=>Q (pg (nf f)) H') (λ e s'=>cO g c A H s (λ v _ H'=>X v H') e s'\/Fe g c A H s (λ v _ H'=>X v H') e s') s):
  cy g (k+1) (.ref fa) args H Q X:=by
 intro A s raw aO hA
 obtain⟨oc,od,xG,name,qual,params,ss,sc,dV,kV,doc,pm,an,u9,ct,fuel,f1,f2,f3,f4,f5,f6,f7,f8,f9,EY⟩:=F hA.ok
 have hl:raw.length=names.length:=by rw[<- hlen,<- aO,gJ]
 have hK:g.K.In s.heap:=hA.ok.dZ.keeps hA.old
 have n_:=hA.depth
 have WQ:=hA.units
 refine(codeAny_call_def (a:=fa) (fd:=fnOf name qual params ss sc dV kV doc pm an u9 ct) (body:=ss) (binds:=(names.map N).zip raw) (by exact aH n_ (by simp +arith only)) (hK _ _ f1) rfl (hA.ok.Et.keeps hA.old) (codeRec_of hK f2) rfl (BindsTo.of_eq (f4 raw hl)) EY ?_ (λ h₁ kz xH=>?_) f8 f9 f7)
 ·intro x hx
  obtain⟨x1,x2⟩:=x
  refine ψ (List.mem_map.mp (List.of_mem_zip hx).1) λ i hi e=>?_
  rw[<- e];exact(f5 i hi).2
 ·generalize hE:callEnv (fnOf name qual params ss sc dV kV doc pm an u9 ct) s.heap.objs.size fa=env
  have e1:env.locals=s.heap.objs.size:=by rw[<- hE];rfl
  have e2:env.frame=some s.heap.objs.size:=by rw[<- hE];rfl
  have e3:env.scope=sc:=by rw[<- hE];rfl
  have e4:env.globals=mainGlobals:=by rw[<- hE];rfl
  have e5:env.builtins=builtinsNs:=by rw[<- hE];rfl
  clear hE f1 f2 f4 f8 f9 EY hK n_ WQ hl
  have xI:s.heap.get? s.heap.objs.size=none:=mM (bK _)
  have Aq:H s.heap.objs.size=none:=hA.dI
  have heq:=WN (λ i hi=>(f5 i hi).1) f6 (vals:=raw)
  rw[aO]at heq
  clear f5 f6 aO
  have iW:aC g k none (A.deeper env) H {s with heap:=h₁,toks:=s.toks+((names.map N).zip raw).length}:=by
   refine o8 kz λ o es ep q1 q2 _=>?_;clear kz
   exact hA.inside e2 (by rw[e3,f7];decide) xH q1 (λ vs z=>by rw[q2]at z;cases z) Aq hA.size
  have Ar:At g ⟨k,none,sc,env,env⟩ (A.deeper env) (names.zip args) H {s with heap:=h₁,toks:=s.toks+((names.map N).zip raw).length}:=
   {iW with
    aY:=⟨e3,f7,e4,e5⟩
    ns:=⟨_,by rw[e1];exact kz,λ i v hi e=>(heq i hi).trans e⟩
    off:=by rw[e1];exact Aq
    c9:=by rw[e1];exact hA.size
    head:=by obtain⟨fs,g1,_⟩:=hA.frames;exact⟨fs,by show A.frames.map _=_;rw[g1];rfl⟩}
  have kA:∀{H':AH}{h':Heap},Go (some env.locals) H h₁ H' h'->Go none H s.heap H' h':=λ G=>G.inside xH (by rw[e1];exact xI) (λ _ _ e=>e) λ _ _ _ e=>e
  clear kz heq iW e3 e4 e5
  refine cD (h ⟨k,none,sc,env,env⟩ rfl rfl rfl (by rw[e1];exact e2) (by rw[e1];exact Aq) fuel ss f3 _ _ Ar) (λ f s' z=>?_) λ e s' z=>?_
  ·obtain⟨m',H',a1,a2,a3⟩:=z
   refine⟨H',hA.back a1.toaC,kA a2,?_⟩
   cases f <;> exact a3
  ·have back:∀{a:Addr},h₁.get? a=none->s.heap.get? a=none:=fun{a} e=>by
    cases q:s.heap.get? a with
    |none=>rfl
    |some o=>rw[xH a o q]at e;cases e
   clear Ar xI Aq h
   rcases z with z |z
   ·obtain⟨m',H',v,a1,a2,z,a4⟩:=z
    obtain⟨ea,d,T,fl,rfl,p,n1,n2,n3⟩:=z
    refine Θ a1.head λ outer ho=>?_
    refine leave a1.toaC ho e2 p λ h' T' b1 b2 b3 b4 b5=>?_
    refine⟨H',v,hA.back b1,⟨λ a o _ q e=>?_,(kA a2).cW,(kA a2).aM,(kA a2).fk⟩,⟨ea,d,T',.none,rfl,b4,back n1,back n2,?_⟩,a4⟩
    ·obtain⟨c1,sl,c2⟩:=(kA a2).old a o (by simp) q e
     refine Θ (b3 a _ (λ z=>by rw[z,back n1]at e;cases e) (λ z=>by rw[z,back n3]at e;cases e) c2) λ ky c3=>?_
     exact⟨c1,ky,c3⟩
    ·rcases b5 with rfl |b5
     ·exact back n3
     ·exact Heap.o9 ((kA a2).Nf a1.toaC T') b5
   ·obtain⟨m',H',v,ea,d,rfl,a1,a2,p,n1,n2,a4⟩:=z
    refine Θ a1.head λ outer ho=>?_
    refine WM a1.toaC ho e2 p λ h' T' b1 b2 b3 b4 b5=>?_
    refine⟨H',v,hA.back b1,⟨λ a o _ q e=>?_,(kA a2).cW,(kA a2).aM,(kA a2).fk⟩,⟨ea,d,T',.none,rfl,b4,back n1,back n2,Heap.o9 ((kA a2).Nf a1.toaC T') b5⟩,a4⟩
    refine iS ((kA a2).old a o (by simp) q e) λ c1 sl c2=>?_
    refine Θ (b3 a _ (λ z=>by rw[z,back n1]at e;cases e) c2) λ ky c3=>?_
    exact⟨c1,ky,c3⟩
theorem cy.enter(F:bw g->Fn g fa names body)(hlen:args.length=names.length)
  (h:∀c:Cx,c.k=k->c.hd=none->c.fe=c.env->c.env.frame=some c.env.locals->H c.env.locals=none->S g c body (names.zip args) H (λ f _ H'=>Q (pg f) H') (λ v _ H'=>X v H')):
  cy g (k+1) (.ref fa) args H Q X:=
 cy.Ng F hlen λ c h1 h2 h3 h4 h5 n ss hs A s hA=>cD (h c h1 h2 h3 h4 h5 n ss hs A s hA) (λ _ _ x=>x) λ _ _ x=>.inl x
def pj(g:Gv)(i:Nat)(v:Value):Prop:=nsIn g.K mainGlobals (N i)=some (some v)\/(nsIn g.K mainGlobals (N i)=some none/\nsIn g.K builtinsNs (N i)=some (some v))
def rP(g:Gv)(f:Value):Prop:=keepIn g.K f=true\/∀a,f≠.ref a
theorem aC.dZ(x:aC g k hd A H s):g.K.In s.heap:=x.ok.dZ.keeps x.old
theorem WS(h2:codeOf x=some i):(x==("__debug__":Str))=false:=by
 cases hd:(x==("__debug__":Str))with
 |false=>rfl
 |true=>
  have:x=dy "__debug__":=beq_iff_eq.mp hd
  subst this
  exact nN h2
theorem Nh(h1:c.sc.names.lookup x=some .globalImplicit)(h2:codeOf x=some i)(e:bw g->pj g i v)(hA:At g c A m H s)(q:Q v s):wpAny (MM g) A (eval (.Name x p) c.env) Q E s:=by
 refine ag (nV h2) λ hi hx=>?_
 have k1:c.env.kindOf x=some .globalImplicit:=by delta rK;exact hA.aY.sc▸(h1)
 have k2:c.env.scope.kind=.function:=by exact hA.aY.sc▸(hA.aY.kind)
 refine Name_function_global k2 k1 ?_ (WS h2)
 have hK:=hA.toaC.dZ
 delta loadGlobal
 refine hA.aY.glob▸hA.aY.blt▸hx▸?_
 rcases e hA.ok with e |⟨e1,e2⟩
 ·exact Δ ((looks_nsIn hK e).here (aL q))
 ·exact Δ ((looks_nsIn hK e1).here (Δ ((looks_nsIn hK e2).here (aL q))))
theorem Ff(h1:c.sc.names.lookup x=some .globalImplicit)(h2:codeOf x=some i)(e:bw g->pj g i v)(q:Q v m H):W g c (eval (.Name x p) c.env) m H Q X:=
 λ _ _ hA=>Nh h1 h2 e hA ⟨m,H,hA,Go.refl,q⟩
theorem V.ς(e:bw g->pj g i v)(q:Q (nv v) m H):V g c (.ς i) m H Q X:=by
 intro n e' h
 refine dG (MJ h) λ x p xJ h1 h2=>?_;refine xJ.symm▸?_
 exact Ff h1 h2 e q
def Vs(g:Gv)(c:Cx)(as:List PE)(m:Lc)(H:AH)(Q:List Value->Lc->AH->Prop)(X:Value->Lc->AH->Prop):Prop:=
 ∀n es pos,eQ n c.sc es as->W g c (spliced (og pos (kB es c.env))) m H (λ vs m' H'=>Q (vs.map nv) m' H') X
theorem Ni(h:Sp n sc e p)(rest:List Expr)(env:Env):kB (e::rest) env=(false,eval e env)::kB rest env:=by
 refine ψ h λ d k WT=>?_;clear h;subst WT
 cases p <;> rfl
theorem Vs.nil(q:Q [] m H):Vs g c [] m H Q X:=by
 intro n es pos h A s hA
 refine(eQ.nil h)▸?_
 exact args_nil ⟨m,H,hA,Go.refl,q⟩
theorem Vs.cons(h:V g c a m H (λ v ρ H₁=>Vs g c r ρ H₁ (λ vs=>Q (v::vs)) X) X):Vs g c (a::r) m H Q X:=by
 intro n es pos hs A s hA
 refine dG (eQ.cons hs) λ e l' WU h1 h2=>?_;refine WU.symm▸?_
 exact args_cons (step hA hA Go.refl (h n e h1) λ v s₁ ρ H₁ a1 a2 a3=>step hA a1 a2 (a3 n l' pos h2) λ vs ae Ξ ο b1 b2 b3=>⟨Ξ,ο,b1,b2,b3⟩) (Ni h1 _ _)
theorem As:∀{es:List Expr}{as:List PE},eQ n sc es as->(og pos (kB es env)).any (·.1)=false
 | [],_,_=>rfl
 |e::r,as,h=>by
  cases as with
  |nil=>cases eQ.nil h
  |cons a as=>
   refine dG (eQ.cons h) λ e' l' q h1 h2=>?_
   injection q with ze zf;subst ze;subst zf
   rw[Ni h1]
   show(false||(og pos (kB r env)).any (·.1))=false
   rw[As h2];rfl
theorem Nj(hp:l.any (·.1)=false)(h:wpAny M A (spliced l) (λ vs s'=>Q ⟨vs,[]⟩ s') E s):wpAny M A (evalArgs f true l []) Q E s:=by
 cases l with
 |nil=>
  refine Δ (cD h (λ vs s' h'=>?_) λ _ _ x=>x)
  refine Δ (aL (gY ?_))
  exact Δ (aL (Δ (aL (aL h'))))
 |cons x r=>
  obtain⟨b,t⟩:=x
  cases b with
  |true=>simp at hp
  |false=>exact evalArgs_plain h
theorem Nk(h:rP g f):∀h',g.K.In h'->∃k,(k=Keeper.frame\/k=Keeper.machine\/k=Keeper.boundFrame)/\Looks (MM g) h' (keeperOf f) k:=by
 intro h' hK
 rcases h with h |h
 ·exact keeps_K h h' hK
 ·exact⟨.machine,.inr (.inl rfl),Looks.of_pure (by cases f <;> first |rfl |exact absurd rfl (h _))⟩
theorem Nl{f:Value}{first:List Value}{n:Nat}{as:List PE}{es:List Expr}{pos:Pos}{Q:Value->Lc->AH->Prop}(hs:eQ n c.sc es as)(hd:c.hd=none)(hk:bw g->rP g f)
  (h:Vs g c as m H (λ vs ρ H₁=>μ g c.k f (first.map nv++vs) H₁ (λ v H'=>Q v ρ H') (λ v H'=>X v ρ H')) X):W g c (callWith pos f first (og pos (kB es c.env)) []) m H (λ v m' H'=>Q (nv v) m' H') X:=by
 intro A s hA
 refine callWith_of (P:=g.K.In) (by rw[As hs];rfl) (Nk (hk hA.ok)) (Nj (As hs) ?_)
 refine step hA hA Go.refl (h n es pos hs) λ vs s₁ ρ H₁ a1 a2 a3=>⟨a1.toaC.dZ,?_⟩
 have Fg:μ g c.k f ((first++vs).map nv) H₁ (λ v H'=>Q v ρ H') (λ v H'=>X v ρ H'):=by rw[rQ];exact a3
 refine cD (EV hd Fg A s₁ a1) (λ v ae z=>?_) λ e ae z=>?_
 ·obtain⟨m',H',b1,b2,e,b3⟩:=z
  subst e
  exact⟨m',H',b1,a2.trans b2,b3⟩
 ·obtain⟨m',H',v,b1,b2,b3,e,b4⟩:=z
  subst e
  exact⟨m',H',v,b1,a2.trans b2,b3.weaken λ a o q=>a2.mI hA a1 q,b4⟩
theorem Nm(h:rG sc x=some i):sc.names.lookup x=some .globalImplicit/\codeOf x=some i:=by
 exact⟨El (Ag h).1,(Ag h).2⟩
theorem V.call(hd:c.hd=none)(hf:bw g->pj g i f)(hk:bw g->rP g f)
  (h:Vs g c as m H (λ vs ρ H₁=>μ g c.k f vs H₁ (λ v H'=>Q v ρ H') (λ v H'=>X v ρ H')) X):V g c (.call i as) m H Q X:=by
 intro n e' he A s hA
 refine zY (MP he) λ n' x q es p Fh h1 h2=>?_;refine Fh.symm▸?_
 refine ag (Nm h1) λ k1 k2=>?_
 refine Call_ ?_
 refine step hA hA Go.refl (Ff (Q:=λ v m' H'=>v=f/\m'=m/\H'=H) k1 k2 hf ⟨rfl,rfl,rfl⟩) λ v s₁ ρ H₁ a1 a2 Nn=>?_;refine fg Nn λ a3 a4 a5=>?_;clear Nn
 subst a3 a4 a5
 exact next hA a1 a2 (Nl (first:=[]) h2 hd hk h)
structure Inst(H:AH)(x C d:Addr)(es:Lc):Prop where
 me:H x=some (.ins C d)
 it:∃z,H d=some (.ai z es)
theorem Fi{name:Str}{o:Obj}{es:Array DictEntry}{n:Nat}{mm:Str->Option Value}(hd:o.data=.dict es n)(hk:StrKeys es)(hf:∀name,nsFind es name=mm name):lookIn name o=some (mm name):=by
 delta lookIn
 refine hd▸?_
 dsimp only
 have h1:=hf name
 unfold nsFind findBy at h1
 rw[<- WV]at h1
 cases e:es.toList.find? (λ e=>e.key.isStr name)with
 |some en=>
  rw[e]at h1
  simp only[Np]at h1
  exact h1▸rfl
 |none=>
  rw[e]at h1
  simp only[Option.map_none]at h1
  refine h1▸?_
  have:es.toList.any (·.refKey)=false:=by
   rw[List.any_eq_false]
   intro en oh
   refine km (hk en (Array.mem_toList_iff.mp oh)) λ x t hx=>?_
   delta WW
   refine hx▸?_;simp
  exact this▸rfl
theorem Nq:∀{l:List DictEntry}{es:Lc},l.map (λ e=>(nv e.key,nv e.val))=es.map (λ p=>(Value.str (N p.1) 0,p.2))->(∀p∈es,p.1<NT.length)->∀i,i<NT.length->
  (((l.find? λ e=>e.key.isStr (N i)).map (·.val)).map nv)=es.lookup i
 | [],[],_,_,_,_=>rfl
 | [],_::_,h,_,_,_=>nomatch h
 |_::_,[],h,_,_,_=>nomatch h
 |e::r,(j,v)::es,h,hk,i,hi=>by
  simp only[u_,Nr,Fj]at h
  refine ag h λ Nt h3=>?_;clear h;refine ag Nt λ h1 h2=>?_;clear Nt
  refine Θ (iU h1) λ t ht=>?_
  by_cases q:i=j
  ·subst q
   have:e.key.isStr (N i)=true:=by rw[ht];exact beq_self_eq_true _
   rw[vb,this]
   simp[eS,h2]
  ·have:e.key.isStr (N i)=false:=by
    rw[ht]
    exact beq_eq_false_iff_ne.mpr λ z=>q (rL hi (hk (j,v) eU) z.symm)
   rw[vb,this]
   have hb:(i==j)=false:=by simpa using q
   simp only[eS,hb]
   exact Nq h3 (λ p hp=>hk p (eA _ hp)) i hi
theorem cX.ns(x:cX h a es):∃o ents n mm,h.get? a=some o/\o.data=.dict ents n/\StrKeys ents/\(∀name,nsFind ents name=mm name)/\Eu mm es:=by
 obtain⟨o,ents,n,h1,h2,h3,h4⟩:=x
 refine⟨o,ents,n,nsFind ents,h1,h2,?_,λ _=>rfl,λ i hi=>?_⟩
 ·intro e he
  have:(nv e.key,nv e.val)∈es.map (λ p=>(Value.str (N p.1) 0,p.2)):=by
   exact h3▸(List.mem_map.mpr ⟨e,Array.mem_toList_iff.mpr he,rfl⟩)
  refine ψ (List.mem_map.mp this) λ p _ q=>?_
  refine Θ (iU (eJ q).1.symm) λ t ht=>?_
  exact⟨_,t,ht⟩
 ·have:=Nq h3 h4 i hi
  delta nsFind findBy
  refine WV▸?_
  exact this
theorem Au(y:aC g k hd A H s)(I:Inst H x C d es):
  ∃od mm,InstAt s.heap x (k9 C d) C (some od)/\s.heap.get? d=some od/\(∀name,lookIn name od=some (mm name))/\Eu mm es/\s.heap.Ns d mm:=by
 refine Θ I.it λ z hz=>?_
 have h1:s.heap.get? x=some (k9 C d):=y.sim x _ I.me
 refine xh (cX.ns (y.sim d _ hz)) λ o ents n mm q1 q2 q3 q4 q5=>?_
 exact⟨o,mm,⟨h1,rfl,rfl,q1⟩,q1,λ name=>Fi q2 q3 q4,q5,⟨o,ents,n,q1,q2,q3,q4⟩⟩
noncomputable def xK:PE->Bool
 | .call _ []=>false
 |_=>true
theorem Nu(h:Sp n sc e p)(hp:xK p=true)(a:Str)(env:Env)(t:Sem Value):attributeBase e a env t=t:=by
 refine ψ h λ d k WX=>?_;clear h;subst WX
 cases p with
 |call f es=>cases es with
  |nil=>exact nF hp
  |cons x r=>rfl
 |_=>rfl
theorem V.π(hp:xK o=true)(h:V g c o m H (λ v ρ H₁=>c_ g c (λ w=>lh w (N i) true) v ρ H₁ Q X) X):V g c (.π o i) m H Q X:=by
 intro n e' he A s hA
 refine nU (V' he) λ n' o' a p WY h1 h2=>?_;refine WY.symm▸?_
 refine ag (nV h2) λ hi hx=>?_
 refine hx.symm▸?_
 show wpAny (MM g) A (do
  let ov <- attributeBase o' (N i) c.env (eval o' c.env)
  standAt p.atName
  let r <- rR [ov] (lh ov (N i) true)
  Nv o' ov r
  pure r) _ _ _
 rw[Nu h1 hp]
 refine Δ (step hA hA Go.refl (h n' o' h1) λ v s₁ ρ H₁ a1 a2 a3=>Δ (l5 (Δ (gY ?_))))
 refine step hA a1 a2 (a3 v rfl) λ r ae Ξ ο b1 b2 b3=>Δ (Nw (aL ⟨Ξ,ο,b1,b2,b3⟩))
def xM(g:Gv)(C:Addr):Prop:=(clsIn g.K C).any (·.hasDict)=true/\dc g.K (.ref C) "__getattribute__"=some (some (.builtin "object.__getattribute__"))/\dc g.K (.ref C) "__getattr__"=some none
noncomputable def cT:Value->Bool
 | .builtin _=>false
 |_=>true
theorem Fl(h:cT (nv v)=true):handedIn v=true:=by cases v <;> first |rfl |exact nF h
theorem Fo{K:Frag}{C:Addr}(hc:(clsIn K C).any (·.hasDict)=true)(hf:dc K (.ref C) name=some none)(hl:lookIn name od=some (some v)):findObj K C (some od) name=some (.value v):=by
 unfold findObj
 cases e:clsIn K C with
 |none=>rw[e]at hc;exact nF hc
 |some cd=>
  rw[e]at hc
  simp only[Option.any_some]at hc
  rw[xN,hf,xN]
  dsimp only
  rw[xN,xN]
  unfold W.ownOf
  refine(if_pos hc)▸?_
  dsimp only
  refine hl▸?_
  rfl
theorem c_.field(I:Inst H x C d es)(hi:i<NT.length)(e:es.lookup i=some v)(hv:cT v=true)(hC:bw g->xM g C)(hf:bw g->dc g.K (.ref C) (N i)=some none)(q:Q v m H):
  c_ g c (λ w=>lh w (N i) ex) (.ref x) m H Q X:=by
 intro a' ha A s hA
 obtain rfl:=a8 ha
 refine xg (Au hA.toaC I) λ od mm I1 _ I3 I4 _=>?_
 refine fg (hC hA.ok) λ c1 c2 c3=>?_
 have d8:=I4 i hi
 rw[e]at d8
 refine ψ (Option.map_eq_some_iff.mp d8) λ v' k1 WZ=>?_;subst WZ
 have hl:=I3 (N i)
 rw[k1]at hl
 exact get_value hA.toaC.dZ I1 c2 (Fo c1 (hf hA.ok) hl) (Fl hv) (gX hA _ q)
theorem V.au(hp:xK o=true)(hl:as.length<30)(hd:c.hd=none)
  (h:V g c o m H (λ v ρ H₁=>∀v' pl,nv v'=v->W g c (Av v' (N i) pl) ρ H₁ (λ fx Ξ ο=>(bw g->rP g fx.1)/\
   Vs g c as Ξ ο (λ vs cw ω=>μ g c.k fx.1 (fx.2.map nv++vs) ω (λ v H'=>Q v cw H') (λ v H'=>X v cw H')) X) X) X):V g c (.au o i as) m H Q X:=by
 intro n e' he A s hA
 refine zZ (Wb he) λ n' o' a q es p W0 hq h1 h2 h3=>?_;refine W0.symm▸?_
 refine ag (nV h2) λ hi hx=>?_
 refine hx.symm▸?_
 have len:es.length=as.length:=by
  exact h3.len
 show wpAny (MM g) A (do
  let ov <- attributeBase o' (N i) c.env (eval o' c.env)
  standAt q.atName
  methodCall o' (N i) q p c.env ov (es.length+0) (og p (kB es c.env)) []) _ _ _
 rw[Nu h1 hp]
 refine Δ (step hA hA Go.refl (h n' o' h1) λ v s₁ ρ H₁ a1 a2 a3=>Δ (l5 ?_))
 have W2:methodCallForm (es.length+0) (og p (kB es c.env)) []=true:=by
  unfold methodCallForm
  have h5:(og p (kB es c.env)).all (!·.1)=true:=by
   rw[List.all_eq_true]
   intro x hx
   have:=List.any_eq_false.mp (As (pos:=p) (env:=c.env) h3) x hx
   simpa using this
  rw[h5]
  simp
  exact aH (aT hl (aU len)) (by simp +arith only)
 unfold methodCall
 refine W2▸?_
 refine Δ (gY ?_)
 show wpAny _ _ (Av v (N i) _) _ _ _
 refine step hA a1 a2 (a3 v _ rfl) λ fx ae Ξ ο b1 b2 b3=>?_
 have pos:methodCallPos true o' c.env q p=pure p:=by
  unfold methodCallPos
  have:(q.endLine==p.line)=true:=by simpa using xj hq
  rw[this];rfl
 obtain⟨f,first⟩:=fx
 refine Δ (m:=methodCallPos true o' c.env q p) ?_
 refine pos▸?_
 exact aL (next hA b1 b2 (Nl h3 hd b3.1 b3.2))
theorem W3(I:Inst H x C d es)(hi:i<NT.length)(e:es.lookup i=none)(hC:bw g->xM g C)
  (hf:bw g->dc g.K (.ref C) (N i)=some (some (.ref f))/\rS g.K (.ref f)=some (.type "function")) (q:Q (.ref f,[.ref x]) m H):W g c (Av (.ref x) (N i) pl) m H Q X:=by
 intro A s hA
 refine xg (Au hA.toaC I) λ od mm I1 _ I3 I4 _=>?_
 refine fg (hC hA.ok) λ c1 c2 c3=>?_
 refine ag (hf hA.ok) λ f1 f2=>?_
 refine method_fn hA.toaC.dZ I1 c2 c3 f1 f2 ?_ ⟨m,H,hA,Go.refl,q⟩
 have d8:=I4 i hi
 rw[e]at d8
 have hn:mm (N i)=none:=by
  cases z:mm (N i)with
  |none=>rfl
  |some v=>rw[z]at d8;exact nS d8
 unfold shadowIn
 dsimp only
 exact(I3 (N i))▸hn▸rfl
noncomputable def Fq:PE->Bool
 | .not _ | .υ _ _ _ | .nW _ _ _ _ _ | .band _ _ | .bor _ _ | .mE _ _ _ | .fU _ _ _ | .bG _ _ _=>false
 |_=>true
theorem W4(h:Sp n sc e p)(hp:Fq p=true)(env:Env)(t:Sem Value):
  isTrue e env t=(do let v <- t;standAt e.pos;rR [v] (truthy v)):=by
 refine ψ h λ d k W5=>?_;clear h;subst W5
 cases p <;> first |rfl |exact nF hp
theorem Te.val(hp:Fq x=true)(h:V g c x m H (λ v ρ H₁=>bH g c v ρ H₁ Q X) X):Te g c x m H Q X:=by
 intro n e' he A s hA
 rw[W4 he hp]
 exact Δ (step hA hA Go.refl (h n e' he) λ v s₁ ρ H₁ a1 a2 a3=>Δ (l5 (gY (next hA a1 a2 (a3 v rfl)))))
theorem Te.band(h:Te g c l m H (λ b ρ H₁=>if b=true then Te g c r ρ H₁ Q X else Q false ρ H₁) X):Te g c (.band l r) m H Q X:=by
 intro n e' he A s hA
 refine nU (V5 he) λ n' l' r' p W6 h1 h2=>?_;refine W6.symm▸?_
 refine Nx (Aw (step hA hA Go.refl (h n' l' h1) λ b s₁ ρ H₁ a1 a2 a3=>?_))
 cases b with
 |false=>exact⟨ρ,H₁,a1,a2,a3⟩
 |true=>
  refine Aw (step hA a1 a2 (a3 n' r' h2) λ b ae Ξ ο b1 b2 b3=>?_)
  cases b with
  |false=>exact⟨Ξ,ο,b1,b2,b3⟩
  |true=>exact wpAny_allTrue_And_nil ⟨Ξ,ο,b1,b2,b3⟩
theorem Te.bor(h:Te g c l m H (λ b ρ H₁=>if b=true then Q true ρ H₁ else Te g c r ρ H₁ Q X) X):Te g c (.bor l r) m H Q X:=by
 intro n e' he A s hA
 refine nU (V6 he) λ n' l' r' p W7 h1 h2=>?_;refine W7.symm▸?_
 refine Nx (wpAny_allTrue_Or_cons (step hA hA Go.refl (h n' l' h1) λ b s₁ ρ H₁ a1 a2 a3=>?_))
 cases b with
 |true=>exact⟨ρ,H₁,a1,a2,a3⟩
 |false=>
  refine wpAny_allTrue_Or_cons (step hA a1 a2 (a3 n' r' h2) λ b ae Ξ ο b1 b2 b3=>?_)
  cases b with
  |true=>exact⟨Ξ,ο,b1,b2,b3⟩
  |false=>exact wpAny_allTrue_Or_nil ⟨Ξ,ο,b1,b2,b3⟩
theorem Te.fU(h:Te g c l m H (λ b ρ H₁=>if b=true then Te g c r ρ H₁ (λ b Ξ ο=>if b=true then Te g c t Ξ ο Q X else Q false Ξ ο) X else Q false ρ H₁) X):Te g c (.fU l r t) m H Q X:=by
 intro n e' he A s hA
 refine rB (ML he) λ n' l' r' t' p Fs h1 h2 h3=>?_;refine Fs.symm▸?_
 refine Nx (Aw (step hA hA Go.refl (h n' l' h1) λ b s₁ ρ H₁ a1 a2 a3=>?_))
 cases b with
 |false=>exact⟨ρ,H₁,a1,a2,a3⟩
 |true=>
  refine Aw (step hA a1 a2 (a3 n' r' h2) λ b ae Ξ ο b1 b2 b3=>?_)
  cases b with
  |false=>exact⟨Ξ,ο,b1,b2,b3⟩
  |true=>
   refine Aw (step hA b1 b2 (b3 n' t' h3) λ b bZ cw ω d1 d2 d3=>?_)
   cases b with
   |false=>exact⟨cw,ω,d1,d2,d3⟩
   |true=>exact wpAny_allTrue_And_nil ⟨cw,ω,d1,d2,d3⟩
theorem V.neg(h:V g c x m H (λ v ρ H₁=>c_ g c (unaryOp .USub) v ρ H₁ Q X) X):V g c (.neg x) m H Q X:=by
 intro n e' he A s hA
 refine nR (inv_neg he) λ n' x' p Ft h1=>?_;refine Ft.symm▸?_
 exact wpAny_UnaryOp (step hA hA Go.refl (h n' x' h1) λ v s₁ ρ H₁ a1 a2 a3=>next hA a1 a2 (a3 v rfl))
theorem V.fU(h:V g c l m H (λ v ρ H₁=>bH g c v ρ H₁ (λ b Ξ ο=>if b=true then
  V g c r Ξ ο (λ v cw ω=>bH g c v cw ω (λ b dP ar=>if b=true then V g c t dP ar Q X else Q v dP ar) X) X else Q v Ξ ο) X) X):V g c (.fU l r t) m H Q X:=by
 intro n e' he A s hA
 refine rB (ML he) λ n' l' r' t' p W8 h1 h2 h3=>?_;refine W8.symm▸?_
 refine Δ (step hA hA Go.refl (h n' l' h1) λ v s₁ ρ H₁ a1 a2 a3=>Δ (l5 (Δ (gY (step hA a1 a2 (a3 v rfl) λ b ae Ξ ο b1 b2 b3=>?_)))))
 cases b with
 |false=>exact aL ⟨Ξ,ο,b1,b2,b3⟩
 |true=>
  refine Δ (step hA b1 b2 (b3 n' r' h2) λ v s₁ ρ H₁ a1 a2 a3=>Δ (l5 (Δ (gY (step hA a1 a2 (a3 v rfl) λ b ae Ξ ο b1 b2 b3=>?_)))))
  cases b with
  |false=>exact aL ⟨Ξ,ο,b1,b2,b3⟩
  |true=>exact next hA b1 b2 (b3 n' t' h3)
theorem V.mE(h:V g c l m H (λ v ρ H₁=>bH g c v ρ H₁ (λ b Ξ ο=>if b=true then Q v Ξ ο else
  V g c r Ξ ο (λ v cw ω=>bH g c v cw ω (λ b dP ar=>if b=true then Q v dP ar else V g c t dP ar Q X) X) X) X) X):V g c (.mE l r t) m H Q X:=by
 intro n e' he A s hA
 refine rB (V7 he) λ n' l' r' t' p W9 h1 h2 h3=>?_;refine W9.symm▸?_
 refine Δ (step hA hA Go.refl (h n' l' h1) λ v s₁ ρ H₁ a1 a2 a3=>Δ (l5 (Δ (gY (step hA a1 a2 (a3 v rfl) λ b ae Ξ ο b1 b2 b3=>?_)))))
 cases b with
 |true=>exact aL ⟨Ξ,ο,b1,b2,b3⟩
 |false=>
  refine Δ (step hA b1 b2 (b3 n' r' h2) λ v s₁ ρ H₁ a1 a2 a3=>Δ (l5 (Δ (gY (step hA a1 a2 (a3 v rfl) λ b ae Ξ ο b1 b2 b3=>?_)))))
  cases b with
  |true=>exact aL ⟨Ξ,ο,b1,b2,b3⟩
  |false=>exact next hA b1 b2 (b3 n' t' h3)
theorem V.nW{Q:Value->Lc->AH->Prop}(h:V g c l m H (λ a ρ H₁=>V g c r ρ H₁ (λ b Ξ ο=>Ω g c (cJ o1) a b Ξ ο (λ v cw ω=>bH g c v cw ω
  (λ k dP ar=>if k=true then V g c t dP ar (λ d mP aV=>Ω g c (cJ o2) b d mP aV (λ v vd cU=>bH g c v vd cU Q' X) X) X else Q' false dP ar) X) X) X) X):Te g c (.nW l o1 r o2 t) m H Q' X:=by
 intro n e' he A s hA
 refine rB (V4 he) λ n' l' r' t' p Fu h1 h2 h3=>?_;refine Fu.symm▸?_
 have e:isTrue (.Compare l' [o1,o2] [r',t'] p) c.env (eval (.Compare l' [o1,o2] [r',t'] p) c.env)=(do
  let lv <- eval l' c.env
  let rv <- rR [lv] (eval r' c.env)
  standAt p
  let cv <- rR [lv,rv] (cJ o1 lv rv)
  release [lv,rv] [cv]
  if <- rR [cv,rv] (truthy cv)then(do
   let tv <- rR [rv] (markedBehindIn o2 t' (eval t' c.env))
   standAt p
   let cv <- operate [rv,tv] (cJ o2 rv tv)
   rR [cv] (truthy cv))else pure false):=rfl
 rw[e,markedBehindIn_of_false (ED h3 o2)]
 refine Δ (step hA hA Go.refl (h n' l' h1) λ a s₁ ρ H₁ a1 a2 a3=>?_)
 refine Δ (gY (step hA a1 a2 (a3 n' r' h2) λ b ae Ξ ο b1 b2 b3=>?_))
 refine Δ (l5 (Δ (gY (step hA b1 b2 (b3 a b rfl rfl) λ v bZ cw ω d1 d2 d3=>?_))))
 refine Δ (wpAny_release' (Δ (gY (step hA d1 d2 (d3 v rfl) λ k bc dP ar f1 f2 f3=>?_))))
 cases k with
 |false=>exact aL ⟨dP,ar,f1,f2,f3⟩
 |true=>
  refine Δ (gY (step hA f1 f2 (f3 n' t' h3) λ d f_ mP aV i1 i2 i3=>?_))
  refine Δ (l5 (Δ (Ny (step hA i1 i2 (i3 b d rfl rfl) λ v gZ vd cU j1 j2 j3=>?_))))
  exact gY (next hA j1 j2 (j3 v rfl))
theorem S1.expr(hp:lY x=true)(h:V g c x m H (λ _ ρ H₁=>Q .next ρ H₁) X):S1 g c (.expr x) m H Q X:=by
 intro n st hs A s hA
 refine nR (Wd hs) λ n' x' p Fv h1=>?_;subst Fv
 refine wpAny_Expr_any (step hA hA Go.refl (h n' x' h1) λ v s₁ ρ H₁ a1 a2 a3=>⟨ρ,H₁,a1,a2,a3⟩) ?_ (u5 h1 hp _ _ _)
 unfold interactive
 exact hA.aY.sc▸hA.aY.kind▸rfl
theorem S1.cont(h:Q .cont m H):S1 g c .cont m H Q X:=by
 intro n st hs A s hA
 refine Θ (Wx hs) λ p Fw=>?_;refine Fw.symm▸?_
 exact wpAny_Continue ⟨m,H,hA,Go.refl,h⟩
theorem bH.bool(q:Q b m H):bH g c (.bool b) m H Q X:=by
 intro a ha A s hA
 obtain rfl:=Es ha
 exact wpAny_truthy_bool ⟨m,H,hA,Go.refl,q⟩
theorem bH.none(q:Q false m H):bH g c .none m H Q X:=by
 intro a ha A s hA
 obtain rfl:=rI ha
 exact PyProof.Rows.truthy_none ⟨m,H,hA,Go.refl,q⟩
theorem bH.int(q:Q (i != 0) m H):bH g c (.int i 0) m H Q X:=by
 intro a ha A s hA
 refine Θ (iz ha) λ t Fx=>?_;refine Fx.symm▸?_
 exact PySem.P.truthy_int ⟨m,H,hA,Go.refl,q⟩
theorem bH.str(hf:(x.length:Int)<2 ^ 63)(q:Q ((x.length:Int) != 0) m H):bH g c (.str x 0) m H Q X:=by
 intro a ha A s hA
 refine Θ (iU ha) λ t xO=>?_;refine xO.symm▸?_
 exact PySem.P.truthy_str (by omega) (gX hA _ q)
theorem bH.κ(ha:H a=some (.κ z vs))(hf:vs.length<2 ^ 60)(q:Q (!vs.isEmpty) m H):bH g c (.ref a) m H Q X:=by
 intro a' mQ A s hA
 obtain rfl:=a8 mQ
 refine ψ (hA.sim _ _ ha) λ items hi xP=>?_;subst xP
 have hs:items.size<2 ^ 60:=by simpa using hf
 refine wpAny_truthy_list hi.isList (by omega) (gX hA _ ?_)
 have:items.isEmpty=(items.toList.map nv).isEmpty:=by
  cases items with|mk l=>cases l <;> rfl
 exact this▸(q)
theorem bH.φ(ha:H a=some (.φ vs))(hf:vs.length<2 ^ 60)(q:Q (!vs.isEmpty) m H):bH g c (.ref a) m H Q X:=by
 intro a' mQ A s hA
 obtain rfl:=a8 mQ
 refine ψ (hA.sim _ _ ha) λ items hi Fy=>?_;subst Fy
 have hs:items.size<2 ^ 60:=by simpa using hf
 refine PyProof.Rows.truthy_tuple hi.isTup (by omega) (gX hA _ ?_)
 have:items.isEmpty=(items.toList.map nv).isEmpty:=by
  cases items with|mk l=>cases l <;> rfl
 exact this▸(q)
theorem aC.new(x:aC g k hd A H s)(r:gI g (s.heap.push o) s.heap.objs.size ao)(tk:Nat):
  aC g k hd A (ξ H s.heap.objs.size ao) {s with heap:=s.heap.push o,toks:=tk} where
 ok:=x.ok
 old a o e:=ez _ (x.old a o e)
 sim a b e:=by
  by_cases q:a=s.heap.objs.size
  ·subst q
   rw[ah]at e;obtain rfl:=bY e
   exact r
  ·rw[Γ q]at e
   refine Θ ((x.sim a b e).get) λ o' mN=>?_
   exact(x.sim a b e).congr (by exact(ez _ mN)▸mN▸rfl)
 low a b e:=by
  by_cases q:a=s.heap.objs.size
  ·subst q;exact x.size
  ·rw[Γ q]at e;exact x.low a b e
 depth:=x.depth
 units:=x.units
 hand:=x.hand
 frames:=by
  obtain⟨fs,h1,h2⟩:=x.frames
  refine⟨fs,h1,λ env he=>?_⟩
  obtain⟨k1,L,o',k2,k3,k4,k5,k6⟩:=h2 env he
  exact⟨k1,L,o',k2,ez _ k3,k4,by refine(Γ (gc (dO k3)))▸?_;exact k5,k6⟩
 os:=x.os
 gens:=x.gens
 size:=Ψ x.size (by show _<=(s.heap.objs.push _).size;rw[Array.size_push];exact cK _ _)
theorem Go.new(n:H s.objs.size=none):Go L H s (ξ H s.objs.size ao) (s.push o) where
 old a o' _ e1 e2:=⟨by refine(Γ (gc (dO e2)))▸?_;exact e1,o'.slots,ez _ e2⟩
 cW a b e _:=by rw[Γ (λ z=>by rw[z,n]at e;exact nN e)];exact e
 aM a es e:=.inl (by rw[Γ (λ z=>by rw[z,n]at e;exact nN e)];exact e)
 fk a e:=by
  by_cases q:a=s.objs.size
  ·refine q.symm▸?_;refine ah▸?_;simp
  ·exact(Γ q)▸(e)
theorem At.new(x:At g c A m H s)(r:gI g (s.heap.push o) s.heap.objs.size ao)(tk:Nat):
  At g c A m (ξ H s.heap.objs.size ao) {s with heap:=s.heap.push o,toks:=tk}:=
 {x.toaC.new r tk with
  aY:=x.aY
  ns:=by obtain⟨mm,h1,h2⟩:=x.ns;exact⟨mm,h1.push o,h2⟩
  off:=by
   refine Θ x.has λ o' mN=>?_
   exact(Γ (gc (dO mN)))▸(x.off)
  c9:=x.c9
  head:=x.head}
theorem aC.chg(x:aC g k hd A H s)(ha:H a=some ao)(hs:n6 a s.heap h')(r:gI g h' a ao')(tk:Nat):
  aC g k hd A (ξ H a ao') {s with heap:=h',toks:=tk} where
 ok:=x.ok
 old b o e:=by
  have bM:b≠a:=λ q=>by
   have h1:=dO e
   rw[q]at h1
   exact absurd h1 (Nat.not_lt.mpr (x.low a ao ha))
  exact(hs.2 b bM).trans (x.old b o e)
 sim b o e:=by
  by_cases q:b=a
  ·subst q;rw[ah]at e;obtain rfl:=bY e;exact r
  ·rw[Γ q]at e
   exact(x.sim b o e).congr (hs.2 b q)
 low b o e:=by
  by_cases q:b=a
  ·subst q;exact x.low b ao ha
  ·rw[Γ q]at e;exact x.low b o e
 depth:=x.depth
 units:=x.units
 hand:=x.hand
 frames:=by
  obtain⟨fs,h1,h2⟩:=x.frames
  refine⟨fs,h1,λ env he=>?_⟩
  obtain⟨k1,L,o',k2,k3,k4,k5,k6⟩:=h2 env he
  have bM:L≠a:=λ q=>by rw[q,ha]at k5;exact nS k5
  exact⟨k1,L,o',k2,(hs.2 L bM).trans k3,k4,by rw[Γ bM];exact k5,k6⟩
 os:=x.os
 gens:=x.gens
 size:=Ψ x.size (aU hs.1.symm)
theorem Go.chg(ha:H a=some ao)(hz:ao.cW=false)(hn:∀es,ao=.aM es->ao'=.aM es)(hs:n6 a h h'):Go L H h (ξ H a ao') h' where
 old b o _ e1 e2:=by
  have bM:b≠a:=λ q=>by rw[q,ha]at e1;cases e1
  exact⟨by refine(Γ bM)▸?_;exact e1,o.slots,(hs.2 b bM).trans e2⟩
 cW b o e z:=by
  have bM:b≠a:=λ q=>by rw[q,ha]at e;cases e;rw[hz]at z;cases z
  exact(Γ bM)▸(e)
 aM b es e:=by
  by_cases q:b=a
  ·subst q;rw[ha]at e;cases e;rw[ah,hn es rfl];exact .inl rfl
  ·exact(Γ q)▸(.inl e)
 fk b e:=by
  by_cases q:b=a
  ·refine q.symm▸?_;refine ah▸?_;simp
  ·exact(Γ q)▸(e)
theorem At.chg(x:At g c A m H s)(ha:H a=some ao)(hs:n6 a s.heap h')(r:gI g h' a ao')(tk:Nat):
  At g c A m (ξ H a ao') {s with heap:=h',toks:=tk}:=
 have bM:c.env.locals≠a:=λ q=>by have:=x.off;rw[q,ha]at this;exact nS this
 {x.toaC.chg ha hs r tk with
  aY:=x.aY
  ns:=by obtain⟨mm,h1,h2⟩:=x.ns;exact⟨mm,h1.sameBut hs bM,h2⟩
  off:=by rw[Γ bM];exact x.off
  c9:=x.c9
  head:=x.head}
theorem W_(h:H a=some ao):ξ H a ao=H:=by
 funext b
 unfold ξ
 split
 ·rename_i e;rw[e,h]
 ·rfl
theorem V.φ(h:Vs g c es m H (λ vs ρ H₁=>vs.length<=sizeLine/\∀a,H₁ a=none->Q (.ref a) ρ (ξ H₁ a (.φ vs))) X):V g c (.φ es) m H Q X:=by
 intro n e' he A s hA
 obtain⟨n',es',k,p,rfl,h1⟩:=V9 he
 refine wpAny_Tuple (step hA hA Go.refl (h n' es' p h1) λ vs s₁ ρ H₁ a1 a2 a3=>⟨by simpa using a3.1,?_⟩)
 refine⟨ρ,_,a1.new (ao:=.φ (vs.map nv)) ⟨vs.toArray,⟨_,fZ _ rfl⟩,by simp⟩ s₁.toks,a2.trans (Go.new a1.toaC.dI),?_⟩
 exact a3.2 _ a1.toaC.dI
theorem V.κ(h:Vs g c es m H (λ vs ρ H₁=>vs.length<=sizeLine/\∀a,H₁ a=none->Q (.ref a) ρ (ξ H₁ a (.κ z vs))) X):V g c (.κ es) m H Q X:=by
 intro n e' he A s hA
 refine nR (V_ he) λ n' es' p Xa h1=>?_;refine Xa.symm▸?_
 refine wpAny_List (step hA hA Go.refl (h n' es' p h1) λ vs s₁ ρ H₁ a1 a2 a3=>⟨by simpa using a3.1,?_⟩)
 refine⟨ρ,_,a1.new (ao:=.κ z (vs.map nv)) ⟨vs.toArray,⟨_,fZ _ rfl⟩,by simp⟩ s₁.toks,a2.trans (Go.new a1.toaC.dI),?_⟩
 exact a3.2 _ a1.toaC.dI
theorem Nz(hi:i<NT.length){k v:Value}:∀{l:List DictEntry}{es:Lc},l.map (λ e=>(nv e.key,nv e.val))=es.map (λ p=>(Value.str (N p.1) 0,p.2))->(∀p∈es,p.1<NT.length)->
  ((nsPutIn (N i).cps.size (N i).cps.toList (λ |some e=>{e with val:=v} |none=>⟨hs,.str (N i) t,v⟩) l).1).map (λ e=>(nv e.key,nv e.val))=(put i (nv v) es).map (λ p=>(Value.str (N p.1) 0,p.2))
 | [],[],_,_=>rfl
 | [],_::_,h,_=>nomatch h
 |_::_,[],h,_=>nomatch h
 |e::r,(j,u)::es,h,hk=>by
  simp only[u_,Nr,Fj]at h
  refine ag h λ Xb h3=>?_;clear h;obtain⟨h1,h2⟩:=Xb
  refine Θ (iU h1) λ t' ht=>?_
  unfold nsPutIn
  rw[Value.isStrByCps_eq]
  by_cases q:j=i
  ·refine q▸?_
   have:e.key.isStr (N j)=true:=by rw[ht];exact beq_self_eq_true _
   rw[this,if_pos rfl]
   show _=((if j=j then(j,nv v)::es else _):Lc).map _
   rw[if_pos rfl]
   simp[h1,h3]
  ·have:e.key.isStr (N i)=false:=by
    rw[ht]
    exact beq_eq_false_iff_ne.mpr λ z=>q (rL (hk (j,u) eU) hi z)
   rw[this,if_neg (by decide)]
   show _=((if j=i then(i,nv v)::es else(j,u)::put i (nv v) es):Lc).map _
   rw[if_neg q]
   have ih:=Nz (k:=k) hi (v:=v) (hs:=hs) (t:=t) h3 (λ p hp=>hk p (eA _ hp))
   show((nv e.key,nv e.val)::_)=_
   rw[u_,h1,h2]
   congr 1
theorem Xc(hi:i<NT.length):(∀p∈es,p.1<NT.length)->∀p∈put i v es,p.1<NT.length:=by
 induction es with
 |nil=>exact λ _ p hp=>List.mem_singleton.mp hp▸hi
 |cons q r ih=>
  intro hk p hp
  by_cases e:q.1=i
  ·rw[<- e,xy (u:=q.2)]at hp
   exact(List.mem_cons.mp hp).elim (λ z=>z▸hk q eU) λ hp=>hk p (eA _ hp)
  ·rw[Ai (u:=q.2) e]at hp
   exact(List.mem_cons.mp hp).elim (λ z=>z▸hk q eU) λ hp=>ih (λ p hp=>hk p (eA _ hp)) p hp
theorem Xd:(put i v es).length<=es.length+1:=by
 induction es with
 |nil=>exact bK _
 |cons q r ih=>
  by_cases e:q.1=i
  ·rw[<- e,xy (u:=q.2)];exact gK _
  ·rw[Ai (u:=q.2) e];exact kC ih
theorem cX.put(hi:i<NT.length)(x:cX h d es):
  cX (h.update d (kD (N i) hs (.str (N i) t) v)) d (put i (nv v) es)/\
  ∃o' Ax n',(h.update d (kD (N i) hs (.str (N i) t) v)).get? d=some o'/\o'.data=.dict Ax n'/\Ax.size=(put i (nv v) es).length:=by
 obtain⟨o,ents,n,h1,h2,h3,h4⟩:=x
 obtain⟨oc,od,odt,xG⟩:=o
 dsimp only at h2
 subst h2
 have key:=Nz hi (k:=v) (v:=v) (hs:=hs) (t:=t) h3 h4
 cases e:nsPutIn (N i).cps.size (N i).cps.toList (λ |some e=>{e with val:=v} |none=>⟨hs,.str (N i) t,v⟩) ents.toList with
 |mk l' ad=>
  rw[e]at key
  have hu:∃n',kD (N i) hs (.str (N i) t) v ⟨oc,od,.dict ents n,xG⟩=⟨oc,od,.dict l'.toArray n',xG⟩:=by
   unfold kD
   dsimp only
   split <;> rename_i q <;> (have q':=q.symm.trans e;injection q' with ze;subst ze;exact⟨_,rfl⟩)
  refine Θ hu λ n' hu=>?_
  have hg:=mO (kD (N i) hs (.str (N i) t) v) h1 (by exact hu▸rfl)
  rw[hu]at hg
  refine⟨⟨_,_,_,hg,rfl,by simpa using key,Xc hi h4⟩,_,_,_,hg,rfl,?_⟩
  have:=congrArg jF key
  simpa using this
def xQ(g:Gv)(C:Addr)(i:Nat):Prop:=
 dc g.K (.ref C) "__setattr__"=some (some (.builtin "object.__setattr__"))/\plainOver g.K C=true/\takerIn g.K C (N i)=some none/\(clsIn g.K C).any (·.hasDict)=true
theorem NA(y:aC g k NB A H s)(hx:s.heap.get? x=some (k9 C d))(hd:cX s.heap d es)(hi:i<NT.length)(hl:es.length<1000)(hC:xQ g C i)
  (q:∀hs t tk,cX (s.heap.update d (kD (N i) hs (.str (N i) t) v)) d (put i (nv v) es)->Q () {s with heap:=s.heap.update d (kD (N i) hs (.str (N i) t) v),toks:=tk}):
  wpAny (MM g) A (rT (.ref x) (N i) v) Q E s:=by
 refine kY hC λ c1 c2 c3 c4=>?_;clear hC
 refine xh (cX.ns hd) λ o ents n mm q1 q2 q3 q4 _=>?_
 have I1:InstAt s.heap x (k9 C d) C (some o):=⟨hx,rfl,rfl,q1⟩
 refine set_plain (y.dZ) I1 c1 (osa_open (s:={s with toks:=s.toks+1}) (y.dZ) I1 c2 c3 λ b=>?_)
 refine ψ (any_some c4) λ cd hc NB=>?_
 refine Δ (aL (Δ (Δ (FD hx (Δ ((looks_clsIn (show g.K.In ({s with toks:=s.toks+1}:Shared).heap from(y.dZ)) hc).here ?_))))))
 rw[NB]
 refine aL (a:=some d) (Δ (aL (Δ ?_)))
 unfold nsSet
 refine Δ (Δ (wpAny_askSetting (aL (Δ (wpAny_mkText (Δ (FD q1 ?_)))))))
 refine q2▸?_
 dsimp only
 have Xe:(!ents.any (·.key.isStr (N i))&&ents.any (·.refKey))=false:=by
  have:ents.any (·.refKey)=false:=by
   rw[Array.any_eq_false'];intro e he;refine km (q3 e he) λ n t h=>?_;simp[WW,h]
  rw[this,FG]
 rw[aRefKeyMayBeTheName_at,Xe]
 refine wpAny_updatePart q1 ?_
 obtain⟨p1,o',Ax,n',p2,p3,p4⟩:=hd.put (hs:=zD g.w.params (N i)) (t:=s.toks+1) (v:=v) hi
 refine Δ (wpAny_lookBehind p2 (by refine p3▸?_;exact pastItsLine_dict (by refine p4▸mR▸?_;exact aH (aT hl (Xd (i:=i) (v:=nv v) (es:=es))) (by simp +arith only))) ?_)
 exact aL (q _ _ _ p1)
theorem FI(I:H x=some (.ins C d))(hd:H d=some (.ai false es))(hi:i<NT.length)(hl:es.length<1000)(hC:bw g->xQ g C i)(q:Q () m (ξ H d (.ai false (put i (nv v) es)))):
  W g c (rT (.ref x) (N i) v) m H Q X:=by
 intro A s hA
 refine NA hA.toaC (hA.sim _ _ I) (hA.sim _ _ hd) hi hl (hC hA.ok) λ hs t tk r=>?_
 exact⟨m,_,hA.chg (ao':=.ai false (put i (nv v) es)) hd (lj s.heap d (kD (N i) hs (.str (N i) t) v)) r tk,Go.chg hd rfl (λ _ z=>nomatch z) (lj s.heap d (kD (N i) hs (.str (N i) t) v)),q⟩
theorem Xg:es.lookup i=none->put i v (es++[(i,u)])=es++[(i,v)]:=by
 induction es with
 |nil=>exact λ _=>xy
 |cons p r ih=>
  intro h
  by_cases q:i=p.1
  ·rw[q,show eS p.1 (p::r)=some p.2 from rM]at h;exact nS h
  ·rw[show eS i (p::r)=r.lookup i from nZ q]at h
   exact(Ai (u:=p.2) λ z=>q z.symm).trans (congrArg (p::·) (ih h))
theorem Xh(I:H x=some (.ins C d))(hd:H d=some (.aM es))(hv:nv v=.int j 0)(hl:es.length<900)(hn:es.lookup jD=none)(hi:jD<NT.length)(hC:bw g->xQ g C jD)(q:Q () m H):
  W g c (rT (.ref x) (N jD) v) m H Q X:=by
 intro A s hA
 refine Θ (hA.sim _ _ hd) λ i0 r0=>?_
 refine NA hA.toaC (hA.sim _ _ I) r0 hi (by simp;exact cI (by assumption) (by decide)) (hC hA.ok) λ hs t tk r=>?_
 have r':gI g (s.heap.update d (kD (N jD) hs (.str (N jD) t) v)) d (.aM es):=⟨j,by rw[Xg hn,hv]at r;exact r⟩
 have h1:=hA.chg hd (lj s.heap d (kD (N jD) hs (.str (N jD) t) v)) r' tk
 have h2:Go (some c.env.locals) H s.heap (ξ H d (.aM es)) _:=Go.chg hd rfl (λ _ z=>z) (lj s.heap d (kD (N jD) hs (.str (N jD) t) v))
 rw[W_ hd]at h1 h2
 exact⟨m,H,h1,h2,q⟩
theorem S1.aK(hp:lY x=true)
  (h:V g c x m H (λ v ρ H₁=>V g c o ρ H₁ (λ w Ξ ο=>∀v' w',nv v'=v->nv w'=w->W g c (rT w' (N i) v') Ξ ο (λ _=>Q .next) X) X) X):S1 g c (.aK o i x) m H Q X:=by
 intro n st hs A s hA
 refine xi (We hs) λ n' o' a q x' p FJ h1 h2 h3=>?_;refine FJ.symm▸?_
 refine ag (nV h2) λ hi hx=>?_
 refine hx.symm▸?_
 refine plainObj_wpAny_Assign_Attribute (step hA hA Go.refl (h n' x' h3) λ v s₁ ρ H₁ a1 a2 a3=>step hA a1 a2 (a3 n' o' h1) λ w ae Ξ ο b1 b2 b3=>?_) (u5 h3 hp _ _ _)
 exact step hA b1 b2 (b3 v w rfl rfl) λ _ bZ cw ω d1 d2 d3=>⟨cw,ω,d1,d2,d3⟩
theorem S1.ku
  (h:V g c o m H (λ w ρ H₁=>c_ g c (λ w=>lh w (N i) true) w ρ H₁ (λ u Ξ ο=>V g c x Ξ ο (λ b cw ω=>Ω g c (rN op) u b cw ω (λ r dP ar=>
   ∀r' w',nv r'=r->nv w'=w->W g c (rT w' (N i) r') dP ar (λ _=>Q .next) X) X) X) X) X):S1 g c (.ku o i op x) m H Q X:=by
 intro n st hs A s hA
 refine xi (Wk hs) λ n' o' a q x' p FL h1 h2 h3=>?_;refine FL.symm▸?_
 refine ag (nV h2) λ hi hx=>?_
 refine hx.symm▸?_
 refine wpAny_AugAssign_AttributeAny (step hA hA Go.refl (h n' o' h1) λ w s₁ ρ H₁ a1 a2 a3=>step hA a1 a2 (a3 w rfl) λ u ae Ξ ο b1 b2 b3=>step hA b1 b2 (b3 n' x' h3) λ b bZ cw ω d1 d2 d3=>?_)
 exact step hA d1 d2 (d3 u b rfl rfl) λ r bc dP ar f1 f2 f3=>step hA f1 f2 (f3 r w rfl rfl) λ _ f_ mP aV j1 j2 j3=>⟨mP,aV,j1,j2,j3⟩
structure Own(c:Cx):Prop where
 fe:c.fe=c.env
 fr:c.env.frame=some c.env.locals
theorem Go.near(G:Go L H s H' s')(n:xB ea T s' h')(ne:s.get? ea=none)(nT:s.get? T=none):Go L H s H' h' where
 old a o q e1 e2:=by
  refine iS (G.old a o q e1 e2) λ b1 sl b2=>?_
  refine Θ (n a _ (λ z=>by rw[z,ne]at e2;cases e2) (λ z=>by rw[z,nT]at e2;cases e2) b2) λ ky b3=>?_
  exact⟨b1,ky,b3⟩
 cW:=G.cW
 aM:=G.aM
 fk:=G.fk
theorem iA.go{A':bS}{c':Cx}{m':Lc}{s s':Shared}(p:iA g H ea d T v fl s.heap)(y:At g c' A' m' H' s')(hL:∀b,b=ea\/b=d\/b=T->b≠L)(G:Go (some L) H s.heap H' s'.heap):iA g H' ea d T v fl s'.heap:=by
 obtain⟨oe,vs,e1,e2,e3,e4,e5⟩:=p.me
 obtain⟨oT,ts,t1,t2,t3⟩:=p.tb
 obtain⟨od,es,ep,d1,d2,d3⟩:=p.dict
 have nq:∀b,b=ea\/b=d\/b=T->some L≠some b:=λ b hb z=>hL b hb (bY z).symm
 refine iS (G.old ea oe (nq _ (.inl rfl)) p.off.1 e1) λ n1 sl1 q1=>?_
 refine iS (G.old d od (nq _ (.inr (.inl rfl))) p.off.2.1 d1) λ n2 sl2 q2=>?_
 refine iS (G.old T oT (nq _ (.inr (.inr rfl))) p.off.2.2 t1) λ n3 sl3 q3=>?_
 exact⟨⟨_,vs,q1,e2,e3,e4,e5⟩,⟨_,es,ep,q2,d2,d3⟩,⟨_,ts,q3,t2,t3⟩,p.ne,⟨n1,n2,n3⟩,p.low⟩
theorem FN{A:bS}{s:Shared}(x:At g c A m H s){fm:Heap}(hs:∃o,fm.get? c.env.locals=some o)(n:fm.get? b=none):b≠c.env.locals:=λ z=>by
 refine Θ hs λ o ho=>?_;clear hs
 rw[z,ho]at n;exact nS n
theorem Ay(o:Own c)(hA:At g c A m H s)(h:cO g c A H s X e s'):wpAny (MM g) A (u6 e c.env) (λ _ lq=>cO g c A H s X e lq) (λ _ _=>False) s':=by
 obtain⟨m',H',v,a1,a2,⟨ea,d,T,fl,rfl,p,n1,n2,n3⟩,a4⟩:=h
 obtain⟨outer,ho⟩:=a1.head
 rw[o.fe]at ho
 refine note a1.toaC ho o.fr p λ h' T' b1 b2 b3 b4 b5=>?_
 refine⟨m',H',v,a1.shift b2 s'.toks,a2.near b3 n1 n3,⟨ea,d,T',_,rfl,b4,n1,n2,?_⟩,a4⟩
 rcases b5 with rfl |b5
 ·exact n3
 ·exact Heap.o9 (λ o q=>a2.mI hA a1 q) b5
theorem Az{A:bS}{s s':Shared}{e:Value}{fr:Option Addr}(h:cO g c A H s X e s'):wpAny (MM g) A (setFlight e fr) (λ _ lq=>cO g c A H s X e lq) (λ _ _=>False) s':=by
 obtain⟨m',H',v,a1,a2,⟨ea,d,T,fl,rfl,p,n1,n2,n3⟩,a4⟩:=h
 exact An a1.toaC p λ h' b1 b2 b3 b4=>⟨m',H',v,a1.shift b2 s'.toks,a2.near b3 n1 n3,⟨ea,d,T,_,rfl,b4,n1,n2,n3⟩,a4⟩
theorem NC{A:bS}{s s':Shared}{e:Value}{α:Type}{t:Sem α}{Q:α->Shared->Prop}{E:Value->Shared->Prop}{Xi:Sem Unit}(h:cO g c A H s X e s')(q:wpAny (MM g) A t Q E s'):wpAny (MM g) A (do
  if(<- field e 1)==.none then Xi
  t) Q E s':=by
 obtain⟨m',H',v,a1,a2,⟨ea,d,T,fl,rfl,p,n1,n2,n3⟩,a4⟩:=h
 obtain⟨oe,vs,e1,e2,e3,e4,e5⟩:=p.me
 refine Δ (jm e1 e3 e5 ?_)
 exact q
theorem Xj{A:bS}{s s':Shared}{e:Value}(h:cO g c A H s X e s'):cameBackBy (MM g) A c.env (cO g c A H s X) e s':=
 NC h (cD (Az h) (λ _ _ x=>x) λ _ _ x=>x.elim)
theorem AA{A:bS}{s s':Shared}{e:Value}(o:Own c)(hA:At g c A m H s)(h:cO g c A H s X e s'):notedBy (MM g) A c.env (cameBackBy (MM g) A c.env (cO g c A H s X)) e s':=
 cD (Ay o hA h) (λ _ _ x=>Xj x) λ _ _ x=>x.elim
theorem ve{α:Type}{A:bS}{s s₁:Shared}{t:Sem α}{ρ:Lc}{H₁:AH}{Q:α->Lc->AH->Prop}{P:α->Shared->Prop}{E:Value->Shared->Prop}(hA:At g c A m H s)(h1:At g c A ρ H₁ s₁)
  (h2:Go (some c.env.locals) H s.heap H₁ s₁.heap) (w:W g c t ρ H₁ Q X) (hE:∀e s',cO g c A H s X e s'->E e s') (k:∀a ae Ξ ο,At g c A Ξ ο ae->Go (some c.env.locals) H s.heap ο ae.heap->Q a Ξ ο->P a ae):
  wpAny (MM g) A t P E s₁:=
 cD (w A s₁ h1) (λ a s' ⟨m',H',a1,a2,a3⟩=>k a s' m' H' a1 (h2.trans a2) a3)
  λ e s' ⟨m',H',v,a1,a2,a3,a4⟩=>hE _ _ ⟨m',H',v,a1,h2.trans a2,a3.weaken λ a o q=>h2.mI hA h1 q,a4⟩
theorem S1.fV{t:PE}{a:List PS}{Q:bJ->Lc->AH->Prop}(o:Own c)(I:Nat->Lc->AH->Prop){n:Nat}(h0:I n m H)
  (turn:∀n m H,I n m H->Te g c t m H (λ k ρ H₁=>if k=true then S g c a ρ H₁ (MW (λ Ξ ο=>∃n',n'<n/\I n' Ξ ο) Q) X else Q .next ρ H₁) X):S1 g c (.fV t a) m H Q X:=by
 intro k st hs A s hA
 refine nU (Wq hs) λ n' t' a' p FO h1 h2=>?_;refine FO.symm▸?_
 refine wpAny_While (codeAny_whileLoop (λ n s'=>∃m' H',At g c A m' H' s'/\Go (some c.env.locals) H s.heap H' s'.heap/\I n m' H') (λ n s₁ Xk=>dG Xk λ ρ H₁ a1 a2 a3=>?_) n ⟨m,H,hA,Go.refl,h0⟩)
 refine ve hA a1 a2 (turn n ρ H₁ a3 n' t' h1) (λ e s' x=>AA o hA x) λ b ae Ξ ο b1 b2 b3=>?_
 cases b with
 |false=>exact Ah ⟨Ξ,ο,b1,b2,b3⟩
 |true=>
  refine ve hA b1 b2 (b3 n' a' h2) (λ e s' x=>AA o hA x) λ f bZ cw ω d1 d2 d3=>?_
  cases f with
  |next=>refine ψ d3 λ j hj hI=>?_;clear d3;exact⟨j,hj,cw,ω,d1,d2,hI⟩
  |cont=>refine ψ d3 λ j hj hI=>?_;clear d3;exact⟨j,hj,cw,ω,d1,d2,hI⟩
  |brk=>exact⟨cw,ω,d1,d2,d3⟩
  |ret v=>exact⟨cw,ω,d1,d2,d3⟩
def iX(h:Heap)(it:Addr)(T:String)(vs:Array Value):Prop:=∃o,h.get? it=some o/\o.cls=.type T/\o.data=.fields vs
theorem bh.same{h h':Heap}{it:Addr}{T:String}{vs:Array Value}(hi:iX h it T vs)(hH:H it=none)(hl:g.cm.objs.size<=it)(hs:n6 it h h'):bh g H h h' where
 old a o q e:=by exact(hs.2 a λ z=>absurd q (Nat.not_lt.mpr (z▸hl)))▸(e)
 lb a q:=hs.2 a λ z=>q (z▸hH)
 lg a o e n:=by
  refine fh hi λ oi h1 _ h2=>?_;clear hi
  exact⟨o.slots,(hs.2 a λ z=>by rw[z,h1]at e;obtain rfl:=bY e;exact n _ h2).trans e⟩
 sz q:=Ψ q (aU hs.1.symm)
theorem bh.ext{A:bS}{s:Shared}(x:At g c A m H s){h':Heap}{it:Addr}{T:String}{vs:Array Value}(hi:iX s.heap it T vs)(hH:H it=none)(hl:g.cm.objs.size<=it)(hs:AB it s.heap h'):bh g H s.heap h' where
 old a o q e:=hs a o (λ z=>absurd q (Nat.not_lt.mpr (z▸hl))) e
 lb a q:=by
  cases e:H a with
  |none=>exact absurd e q
  |some ao=>
   refine Θ ((x.sim a ao e).get) λ o ho=>?_
   refine ho▸?_
   exact hs a o (λ z=>q (z▸hH)) ho
 lg a o e n:=by
  refine fh hi λ oi h1 _ h2=>?_;clear hi
  exact⟨o.slots,hs a o (λ z=>by rw[z,h1]at e;cases e;exact n _ h2) e⟩
 sz _:=by
  obtain⟨mm,⟨o,es,ep,h1,h2,_⟩,_⟩:=x.ns
  refine fh hi λ oi i1 _ i2=>?_;clear hi
  have:=hs c.env.locals o (λ z=>by rw[z,i1]at h1;cases h1;rw[i2]at h2;cases h2) h1
  exact Ψ x.c9 (jo (dO this))
structure g9(g:Gv)(c:Cx)(it:Addr)(T:String)(D:Nat->Array Value)(xs:List Value)(J:AH->Prop):Prop where
 item:∀(A:bS) (m:Lc) (H:AH) (s:Shared) (i:Nat) (x:Value) (Q:Option Value->Shared->Prop) (E:Value->Shared->Prop),At g c A m H s->J H->iX s.heap it T (D i)->xs[i]?=some x->
  (∀v h' tk,nv v=x->iX h' it T (D (i+1))->n6 it s.heap h'->Q (some v) {s with heap:=h',toks:=tk})->wpAny (MM g) A (pyNext (.ref it)) Q E s
 fin:∀(A:bS) (m:Lc) (H:AH) (s:Shared) (Q:Option Value->Shared->Prop) (E:Value->Shared->Prop),At g c A m H s->J H->iX s.heap it T (D xs.length)->A.handled=none->
  (∀h' tk,AB it s.heap h'->Q none {s with heap:=h',toks:=tk})->wpAny (MM g) A (pyNext (.ref it)) Q E s
 self:∀(A:bS) (s:Shared) (i:Nat) (Q:Value->Shared->Prop) (E:Value->Shared->Prop),iX s.heap it T (D i)->Q (.ref it) s->wpAny (MM g) A (pyIter (.ref it)) Q E s
theorem Go.shift{L:Option Addr}{bE:AH}{fm h h':Heap}{it:Addr}(G:Go L bE fm H h)(n:fm.get? it=none)(k:∀a o,a≠it->h.get? a=some o->h'.get? a=some o):Go L bE fm H h' where
 old a o q e1 e2:=by
  refine iS (G.old a o q e1 e2) λ b1 sl b2=>?_
  exact⟨b1,sl,k a _ (λ z=>by rw[z,n]at e2;exact nN e2) b2⟩
 cW:=G.cW
 aM:=G.aM
 fk:=G.fk
theorem Go.it{A:bS}{s s':Shared}{H':AH}{it:Addr}{T:String}{vs:Array Value}(x:At g c A m H s)(G:Go (some c.env.locals) H s.heap H' s'.heap)(h:iX s.heap it T vs)(n:H it=none):iX s'.heap it T vs/\H' it=none:=by
 refine fh h λ o h1 h2 h3=>?_;clear h
 obtain⟨mm,⟨ol,es,ep,q1,q2,_⟩,_⟩:=x.ns
 refine iS (G.old it o (λ z=>by cases z;rw[h1]at q1;cases q1;rw[h3]at q2;cases q2) n h1) λ b1 sl b2=>?_
 exact⟨⟨_,b2,h2,h3⟩,b1⟩
theorem NF{α:Type}{A:bS}{s s₁:Shared}{t:Sem α}{ρ:Lc}{H₁:AH}{Q:α->Lc->AH->Prop}{P:α->Shared->Prop}{E:Value->Shared->Prop}(hA:At g c A m H s)(h1:At g c A ρ H₁ s₁)
  (h2:Go (some c.env.locals) H s.heap H₁ s₁.heap) (w:W g c t ρ H₁ Q X) (hE:∀e s',cO g c A H s X e s'->E e s') (k:∀a ae Ξ ο,At g c A Ξ ο ae->Go (some c.env.locals) H s.heap ο ae.heap->Go (some c.env.locals) H₁ s₁.heap ο ae.heap->Q a Ξ ο->P a ae):
  wpAny (MM g) A t P E s₁:=
 cD (w A s₁ h1) (λ a s' ⟨m',H',a1,a2,a3⟩=>k a s' m' H' a1 (h2.trans a2) a2 a3)
  λ e s' ⟨m',H',v,a1,a2,a3,a4⟩=>hE _ _ ⟨m',H',v,a1,h2.trans a2,a3.weaken λ a o q=>h2.mI hA h1 q,a4⟩
inductive FP(g:Gv)(c:Cx)(A:bS)(N:Nat)(it:Addr)(T:String)(D:Nat->Array Value)(I:Nat->Lc->AH->Prop)(H:AH)(fm:Heap)(n:Nat)(s':Shared):Prop
 |mk (i:Nat) (m':Lc) (H':AH) (e:n+i=N) (a:At g c A m' H' s') (o:Go (some c.env.locals) H fm H' s'.heap) (j:I i m' H') (t:iX s'.heap it T (D i)) (z:H' it=none):FP g c A N it T D I H fm n s'
theorem NG{it:Addr}{T:String}{D:Nat->Array Value}{xs:List Value}{J:AH->Prop}{Q:bJ->Lc->AH->Prop}(o:Own c)(hd:c.hd=none)(P:g9 g c it T D xs J)(I:Nat->Lc->AH->Prop){target:Expr}{body:List Stmt}
  (ht:∀A s v i (Q:Unit->Shared->Prop) E,iX s.heap it T (D i)->Q () s->wpAny (MM g) A (FQ target (.ref it) v) Q E s)
  (turn:∀i x m H,I i m H->xs[i]?=some x->J H/\∀v,nv v=x->W g c (assign target c.env v) m H (λ _ ρ H₁=>W g c (execs body c.env) ρ H₁ (λ f Ξ ο=>match f with
   | .next | .cont=>I (i+1) Ξ ο
   | .brk=>Q .next Ξ ο
   | .ret v=>Q (.ret (nv v)) Ξ ο) X) X)
  (fin:∀m H,I xs.length m H->J H/\Q .next m H)
  {A:bS}{s s₁:Shared}{ρ:Lc}{H₁:AH} (hA:At g c A m H s) (a1:At g c A ρ H₁ s₁) (a2:Go (some c.env.locals) H s.heap H₁ s₁.heap) (a3:I 0 ρ H₁) (a4:iX s₁.heap it T (D 0)) (a5:H₁ it=none) (n0:s.heap.get? it=none) (hl:g.cm.objs.size<=it)
  {R:Result->Shared->Prop} (hR:∀f s' m' H',At g c A m' H' s'->Go (some c.env.locals) H s.heap H' s'.heap->Q (nf f) m' H'->R (.ok f) s') (hE:∀e s',cO g c A H s X e s'->notedBy (MM g) A c.env (λ e s'=>R (.error e) s') e s'):
  n9 (MM g) A (.forLoop target (.ref it) body [] c.env) R s₁:=by
 refine codeAny_forLoop_any (FP g c A xs.length it T D I H s.heap) (λ n ae x=>?_) xs.length ⟨0,ρ,H₁,rfl,a1,a2,a3,a4,a5⟩
 obtain⟨i,Ξ,ο,e,b1,b2,b3,b4,b5⟩:=x
 cases n with
 |zero=>
  have ei:i=xs.length:=(lW i).symm.trans e
  exact P.fin A Ξ ο ae _ _ b1 (fin Ξ ο (ei▸b3)).1 (ei▸b4) (b1.hand.trans hd) λ h' tk hx=>Ah (hR .next _ Ξ ο (b1.shift (bh.ext b1 b4 b5 hl hx) tk) (b2.shift n0 λ a o q e=>hx a o q e) (fin Ξ ο (ei▸b3)).2)
 |succ n=>
  have fq:i<xs.length:=by exact aH (aU e) (by simp +arith only)
  refine P.item A Ξ ο ae i _ _ _ b1 (turn i _ Ξ ο b3 (lr fq)).1 b4 (lr fq) λ v h' tk hv hi hs=>ht _ _ _ (i+1) _ _ hi ?_
  refine NF (s₁:={ae with heap:=h',toks:=tk}) hA (b1.shift (bh.same b4 b5 hl hs) tk) (b2.shift n0 λ a o q e=>(hs.2 a q).trans e) ((turn i _ Ξ ο b3 (lr fq)).2 v hv) hE λ _ bZ cw ω d1 d2 d4 d3=>?_
  refine ag (Go.it (b1.shift (bh.same b4 b5 hl hs) tk) d4 hi b5) λ e2 e3=>?_
  refine NF hA d1 d2 d3 hE λ f bc dP ar f1 f2 f4 f3=>?_
  have lp:I (i+1) dP ar->∃m,m<n+1/\FP g c A xs.length it T D I H s.heap m bc:=λ y=>⟨n,lu _,i+1,dP,ar,(FR n i 1).trans e,f1,f2,y,(Go.it d1 f4 e2 e3).1,(Go.it d1 f4 e2 e3).2⟩
  cases f with
  |next=>exact lp f3
  |cont=>exact lp f3
  |brk=>exact hR _ _ _ _ f1 f2 f3
  |ret v=>exact hR _ _ _ _ f1 f2 f3
theorem Xl{it:Addr}{T:String}{D:Nat->Array Value}{xs:List Value}{J:AH->Prop}{Q:bJ->Lc->AH->Prop}(o:Own c)(hd:c.hd=none)(P:g9 g c it T D xs J)(I:Nat->Lc->AH->Prop)(ht:∀v,FQ target (.ref it) v=pure ())
  (turn:∀i x m H,I i m H->xs[i]?=some x->J H/\∀v,nv v=x->W g c (assign target c.env v) m H (λ _ ρ H₁=>W g c (execs body c.env) ρ H₁ (λ f Ξ ο=>match f with
   | .next | .cont=>I (i+1) Ξ ο
   | .brk=>Q .next Ξ ο
   | .ret v=>Q (.ret (nv v)) Ξ ο) X) X)
  (fin:∀m H,I xs.length m H->J H/\Q .next m H)
  (hA:At g c A m H s) (a1:At g c A ρ H₁ s₁) (a2:Go (some c.env.locals) H s.heap H₁ s₁.heap) (a3:I 0 ρ H₁) (a4:iX s₁.heap it T (D 0)) (a5:H₁ it=none) (n0:s.heap.get? it=none) (hl:g.cm.objs.size<=it):
  n9 (MM g) A (.forLoop target (.ref it) body [] c.env) (λ r s'=>match r with| .ok f=>fF g c A H s (λ f m' H'=>Q (nf f) m' H') f s' | .error e=>cameBackBy (MM g) A c.env (cO g c A H s X) e s') s₁:=
 NG o hd P I (λ A s v i Q E _ h=>by rw[ht];exact aL h) turn fin hA a1 a2 a3 a4 a5 n0 hl (λ _ _ m' H' x y z=>⟨m',H',x,y,z⟩) λ e s' x=>AA o hA x
theorem g9.list(bM:l≠it):g9 g c it "list_iterator" (λ i=>#[.ref l,.int i 0]) vs (λ H=>H l=some (.κ z vs)) where
 self A s i Q E h q:=wpAny_pyIter_listiter (l:=l) (i:=i) h q
 item A m H s i x Q E hA j hi hx hQ:=by
  refine ψ (hA.sim _ _ j) λ items h1 Fh=>?_;subst Fh
  rw[iB]at hx
  refine ψ (Option.map_eq_some_iff.mp hx) λ v hv FT=>?_;subst FT
  exact wpAny_pyNext_list_item hi h1.isList (by simpa using hv) λ h' q1 q2=>hQ v h' s.toks rfl q1 q2
 fin A m H s Q E hA j hi hh hQ:=by
  refine ψ (hA.sim _ _ j) λ items h1 xp=>?_;subst xp
  exact wpAny_pyNext_list_end hh hi h1.isList (by simp) λ h' q=>hQ h' s.toks q
theorem g9.tuple(bM:l≠it):g9 g c it "tuple_iterator" (λ i=>#[.ref l,.int i 0]) vs (λ H=>H l=some (.φ vs)) where
 self A s i Q E h q:=wpAny_pyIter_tupleiter (t:=l) (i:=i) h q
 item A m H s i x Q E hA j hi hx hQ:=by
  refine ψ (hA.sim _ _ j) λ items h1 xq=>?_;subst xq
  rw[iB]at hx
  refine ψ (Option.map_eq_some_iff.mp hx) λ v hv xr=>?_;subst xr
  exact wpAny_pyNext_tuple_item hi h1.Ae (by simpa using hv) λ h' q1 q2=>hQ v h' s.toks rfl q1 q2
 fin A m H s Q E hA j hi hh hQ:=by
  refine ψ (hA.sim _ _ j) λ items h1 xt=>?_;subst xt
  exact wpAny_pyNext_tuple_end hh hi h1.Ae (by simp) λ h' q=>hQ h' s.toks q
noncomputable def pk(x:Str):List Value:=x.cps.toList.map λ c=>.str ⟨#[c]⟩ 0
theorem g9.str:g9 g c it "str_ascii_iterator" (λ i=>#[.str x t,.int i 0]) (pk x) (λ _=>True) where
 self A s i Q E h q:=wpAny_pyIter_striter_ascii (x:=x) (t:=t) (i:=i) h q
 item A m H s i y Q E hA j hi hx hQ:=by
  unfold pk at hx
  rw[iB]at hx
  refine ψ (Option.map_eq_some_iff.mp hx) λ v hv xu=>?_;subst xu
  exact wpAny_pyNext_ascii_item hi (by simpa using hv) λ h' q1 q2=>hQ _ h' _ rfl q1 q2
 fin A m H s Q E hA j hi hh hQ:=by
  exact wpAny_pyNext_ascii_end hh hi (by simp[pk]) λ h' q=>hQ h' s.toks q
noncomputable def below(n:Nat):List Value:=(rJ n).map λ i:Nat=>.int (i:Int) 0
theorem g9.range{it:Addr}{n:Nat}:g9 g c it "range_iterator" (λ i=>#[.int (i:Int) 0,.int ((n:Int)-i) 0,.int 1 0]) (below n) (λ _=>True) where
 self A s i Q E h q:=by
  refine fh h λ o ho hc hd=>?_;clear h
  have hT:s.TypeIs (.ref it) "range_iterator":=⟨o,ho,hc⟩
  refine wpAny_pyIter_slot hT Xm (xR Xm hT F.entry_range_iterator_iter ?_ (F.args_range_iterator_iter_1 _))
  show wpAny _ _ (ret (.ref it)) _ _ s
  exact aL ⟨_,rfl,"range_iterator",_,hT,F.slot_range_iterator_next.lookup,q⟩
 item A m H s i y Q E hA j hi hx hQ:=by
  unfold below at hx
  rw[iB]at hx
  refine ψ (Option.map_eq_some_iff.mp hx) λ v hv xw=>?_;subst xw
  obtain⟨fq,rfl⟩:=List.getElem?_eq_some_iff.mp hv
  simp only[List.length_range,List.getElem_range]at fq hQ
  refine fh hi λ o ho hc hd=>?_;clear hi
  have hT:s.TypeIs (.ref it) "range_iterator":=⟨o,ho,hc⟩
  unfold pyNext
  refine Δ (wpAny_attempt (FU (name:=dy "__next__") hT FV
   (xR FV hT Xn ?_ (Xo _))))
  show wpAny _ _ (field (.ref it) 0 >>= _) _ _ s
  refine Δ (jm ho hd (x:=.int (i:Int) 0) rfl ?_)
  show wpAny _ _ (field (.ref it) 1 >>= _) _ _ s
  refine Δ (jm ho hd (x:=.int ((n:Int)-i) 0) rfl ?_)
  show wpAny _ _ (field (.ref it) 2 >>= _) _ _ s
  refine Δ (jm ho hd (x:=.int 1 0) rfl ?_)
  show wpAny _ _ (if(n:Int)-i<=0 then _ else _) _ _ s
  rw[if_neg (by omega)]
  have dd:=u7 hd (·.setIfInBounds 0 (iV ((i:Int)+1)))
  refine Δ (xC ho hd (by simp) (Δ (xC (mO (rO (·.setIfInBounds 0 (iV ((i:Int)+1)))) ho (xE dd)) dd (by simp) ?_)))
  refine Δ (m:=mkInt _) (wpAny_mkInt (aL ⟨_,rfl,aL (hQ _ _ _ rfl ?_ ((lj ..).trans (lj ..)))⟩))
  refine⟨_,mO _ (mO (rO (·.setIfInBounds 0 (iV ((i:Int)+1)))) ho (xE dd)) (xE (u7 dd (·.setIfInBounds 1 (iV ((n:Int)-i-1))))),(ES ..).trans ((ES ..).trans hc),?_⟩
  rw[(u7 dd (·.setIfInBounds 1 (iV ((n:Int)-i-1))))]
  simp[iV]
  omega
 fin A m H s Q E hA j hi hh hQ:=by
  have e0:(below n).length=n:=by simp[below]
  rw[e0]at hi
  refine fh hi λ o ho hc hd=>?_;clear hi
  have hT:s.TypeIs (.ref it) "range_iterator":=⟨o,ho,hc⟩
  unfold pyNext
  refine Δ (wpAny_attempt (FU (name:=dy "__next__") hT FV
   (xR FV hT Xn ?_ (Xo _))))
  show wpAny _ _ (field (.ref it) 0 >>= _) _ _ s
  refine Δ (jm ho hd (x:=.int (n:Int) 0) rfl ?_)
  show wpAny _ _ (field (.ref it) 1 >>= _) _ _ s
  refine Δ (jm ho hd (x:=.int ((n:Int)-n) 0) rfl ?_)
  show wpAny _ _ (field (.ref it) 2 >>= _) _ _ s
  refine Δ (jm ho hd (x:=.int 1 0) rfl ?_)
  show wpAny _ _ (if(n:Int)-n<=0 then _ else _) _ _ s
  rw[if_pos (by omega)]
  refine Δ (wpAny_rule ?_)
  refine Δ ?_
  show wpAny _ _ (newExc (.type "StopIteration") [] >>= _) _ _ _
  refine Δ ?_
  simp only[newExc,newTuple]
  refine Δ (pd ?_ (by size_fits))
  refine Δ (m:=firstArgMember _ _) (wpAny_of_eq (a:=Value.none) (by first |rfl | (simp only[firstArgMember];rfl)) ?_)
  refine pd ?_ (by size_fits)
  delta raiseNew
  refine Δ (wpAny_handled ?_)
  first |rw[show A.in1.handled=none from hh]|rw[hh]
  refine Δ (aL (wpAny_throw ?_))
  refine Δ (wpAny_isInstance (T:="StopIteration") (b:=true) ⟨_,fZ _ rfl,rfl⟩ isSubtype_stop ?_)
  exact aL (hQ _ s.toks (((Heap.ExtBut.refl it s.heap).push _).push _))
theorem AD(h:Sp n sc e p)(env:Env)(x:Value):foldedSetIterable e env x=pure x:=by
 refine ψ h λ d k Xp=>?_;clear h;subst Xp
 cases p <;> rfl
def NH(g:Gv)(c:Cx)(xs:List Value)(J:AH->Prop)(i:Nat)(a:List PS)(Q:bJ->Lc->AH->Prop)(X:Value->Lc->AH->Prop)(m:Lc)(H:AH):Prop:=
 ∃I:Nat->Lc->AH->Prop,I 0 m H/\(∀k x m H,I k m H->xs[k]?=some x->J H/\S g c a (put i x m) H (MW (I (k+1)) Q) X)/\∀m H,I xs.length m H->J H/\Q .next m H
theorem At.push(x:At g c A m H s)(o:Obj)(tk:Nat):At g c A m H {s with heap:=s.heap.push o,toks:=tk}:=
 x.shift (bh.push (λ a ao e=>(x.sim a ao e).get) o) tk
theorem Go.push(o:Obj):Go L H h H (h.push o):=Go.same λ a o' _ _ e=>⟨o'.slots,ez _ e⟩
structure Goes(g:Gv)(c:Cx)(v:Value)(xs:List Value)(J:AH->Prop)(H:AH):Prop where
 make:∀(A:bS) (m:Lc) (s:Shared) (v':Value) (Q:Value->Shared->Prop) (E:Value->Shared->Prop),nv v'=v->At g c A m H s->
  (∀T D o,(∀c,g9 g c s.heap.objs.size T D xs J)->o.cls=.type T->o.data=.fields (D 0)->o.isFreed=false->Q (.ref s.heap.objs.size) {s with heap:=s.heap.push o})->wpAny (MM g) A (pyIter v') Q E s
theorem S1.fj(o:Own c)(hd:c.hd=none)
  (h:V g c e m H (λ v ρ H₁=>∃xs J,Goes g c v xs J H₁/\NH g c xs J i a Q X ρ H₁) X):S1 g c (.fj i e a) m H Q X:=by
 intro n st hs A s hA
 refine xi (Ws hs) λ n' x q e' a' p Xq h1 h2 h3=>?_;refine Xq.symm▸?_
 refine ag (jE h1) λ k1 k2=>?_
 refine wpAny_For (step hA hA Go.refl (h n' e' h2) λ v s₁ ρ H₁ a1 a2 zz=>c7 zz λ xs J G zz=>fh zz λ I i0 i1 i2=>?_) (AD h2 _)
 refine G.make A ρ s₁ v _ _ rfl a1 λ T D ob P o1 o2 o3=>?_
 refine Xl o hd (P c) I (λ _=>rfl) (λ k x m H hI hx=>?_) (λ m H hI=>i2 m H hI) hA (a1.push ob s₁.toks) (a2.trans (Go.push ob)) i0 ⟨ob,fZ _ o3,o1,o2⟩ a1.toaC.dI
  (Heap.o9 (λ o q=>a2.mI hA a1 q) (mM (bK s₁.heap.objs.size))) a1.size
 refine ag (i1 k x m H hI hx) λ j1 j2=>?_
 refine⟨j1,λ v hv=>?_⟩
 intro A s hA
 refine NI (step hA hA Go.refl (store (Q:=λ _ m' H'=>m'=put i x m/\H'=H) k1 k2 (by refine hv▸?_;exact⟨rfl,rfl⟩)) λ _ ae Ξ ο b1 b2 b3=>?_)
 refine ag b3 λ Xr Xs=>?_;clear b3;subst Xr;subst Xs
 exact⟨_,_,b1,b2,(j2 n' a' h3).mono (λ f Ξ ο z=>by cases f <;> exact z) λ _ _ _ z=>z⟩
theorem Goes.list(h:H l=some (.κ z vs)):Goes g c (.ref l) vs (λ H=>H l=some (.κ z vs)) H where
 make A m s v' Q E hv hA hQ:=by
  obtain rfl:=a8 hv
  refine ψ (hA.sim _ _ h) λ items h1 h2=>?_
  have bM:l≠s.heap.objs.size:=by refine Θ ((hA.sim _ _ h).get) λ ob ho=>?_;exact gc (dO ho)
  exact wpAny_pyIter_list h1.isList (hQ _ _ _ (λ _=>g9.list bM) rfl rfl rfl)
theorem Goes.tuple(h:H l=some (.φ vs)):Goes g c (.ref l) vs (λ H=>H l=some (.φ vs)) H where
 make A m s v' Q E hv hA hQ:=by
  obtain rfl:=a8 hv
  refine ψ (hA.sim _ _ h) λ items h1 h2=>?_
  have bM:l≠s.heap.objs.size:=by refine Θ ((hA.sim _ _ h).get) λ ob ho=>?_;exact gc (dO ho)
  exact wpAny_pyIter_tuple h1.Ae (hQ _ _ _ (λ _=>g9.tuple bM) rfl rfl rfl)
theorem Goes.str(ha:x.cps.all (·<128)=true):Goes g c (.str x 0) (pk x) (λ _=>True) H where
 make A m s v' Q E hv hA hQ:=by
  refine Θ (iU hv) λ t Xt=>?_;refine Xt.symm▸?_
  exact wpAny_pyIter_ascii ha (hQ _ _ _ (λ _=>g9.str) rfl rfl rfl)
noncomputable def Cx.mark(c:Cx)(h:Option Value):Cx:={c with hd:=h}
theorem Xu{A:bS}:(A.mark (some e)).handled=some e:=by cases A;rfl
theorem At.mark(x:At g c A m H s)(e:Value):At g (c.mark (some e)) (A.mark (some e)) m H s:=
 {ok:=x.ok,old:=x.old,sim:=x.sim,low:=x.low
  depth:=by have:=x.depth;cases A;exact this
  units:=by have:=x.units;cases A;exact this
  hand:=Xu
  frames:=by obtain⟨fs,h1,h2⟩:=x.frames;exact⟨fs,by cases A;exact h1,h2⟩
  os:=x.os,gens:=x.gens,size:=x.size
  aY:=⟨x.aY.sc,x.aY.kind,x.aY.glob,x.aY.blt⟩
  ns:=x.ns,off:=x.off,c9:=x.c9
  head:=by have:=x.head;cases A;exact this}
theorem At.unmark(x:At g (c.mark (some e)) (A.mark (some e)) m H s)(y:∃s' m' H',At g c A m' H' s'):At g c A m H s:=
 {ok:=x.ok,old:=x.old,sim:=x.sim,low:=x.low
  depth:=by have:=x.depth;cases A;exact this
  units:=by have:=x.units;cases A;exact this
  hand:=by refine zX y λ _ _ _ z=>?_;clear y;exact z.hand
  frames:=by obtain⟨fs,h1,h2⟩:=x.frames;exact⟨fs,by cases A;exact h1,h2⟩
  os:=x.os,gens:=x.gens,size:=x.size
  aY:=⟨x.aY.sc,x.aY.kind,x.aY.glob,x.aY.blt⟩
  ns:=x.ns,off:=x.off,c9:=x.c9
  head:=by have:=x.head;cases A;exact this}
theorem NJ(h:ey n sc l (x::r)):∃e l',l=e::l':=c7 (ey.cons h) λ e l' q _=>⟨e,l',q⟩
theorem Exc.Xv(x:Exc g H' h0 e v h):e≠byPass:=by
 obtain⟨ea,_,_,_,rfl,_⟩:=x;exact ref_ne_byPass ea
theorem AE{A:bS}{s s₁:Shared}{n:Nat}{Q:Lc->AH->Prop}{fs:List PS}{b:List Stmt}{bE:AH}{Xw:Lc}{P:bJ->Shared->Prop}(hA:At g c A Xw bE s)(h2:ey n c.sc b fs)(a1:At g c A m H s₁)(a2:Go (some c.env.locals) bE s.heap H s₁.heap)(a3:S g c fs m H (λ r' Ξ ο=>r'=.next/\Q Ξ ο) (λ _ _ _=>False))
  (hP:∀s' m' H',At g c A m' H' s'->Go (some c.env.locals) bE s.heap H' s'.heap->Q m' H'->P f s'):wpAny (MM g) A (execs b c.env) (λ g' s'=>match g' with| .next=>P f s' |g'=>P g' s') Y s₁:=by
 refine ve hA a1 a2 (X:=λ _ _ _=>False) (a3 n _ h2) (λ e s' x=>cO.el x λ _ _ _ _ _ _ z=>z.elim) λ r ae Ξ ο b1 b2 b3=>?_
 refine ag b3 λ b3 b4=>?_
 cases r <;> first |exact hP _ _ _ b1 b2 b4 |exact nomatch b3
theorem Xx(hA:At g c A m H s)(h2:ey n c.sc b fs)(x:cO g c A H s (λ v ρ H₁=>∀e,S g (c.mark (some e)) fs ρ H₁ (λ r' Ξ ο=>r'=.next/\X v Ξ ο) (λ _ _ _=>False)) e s4)
  (hE:∀s',cO g c A H s X e s'->P .next s'):wpAny (MM g) (A.mark (some e)) (execs b c.env) P Y s4:=by
 obtain⟨ρ,H₁,v,a1,a2,⟨ea,d,T,fl,rfl,q,n1,n2,n3⟩,a4⟩:=x
 refine cD (a4 (.ref ea) n _ h2 _ _ (a1.mark _)) (λ r s5 x=>fF.el x λ Ξ ο b1 b2 b3=>?_) λ e s' x=>cO.el x λ _ _ _ _ _ _ z=>z.elim
 have NL:At g c A Ξ ο s5:=b1.unmark ⟨_,_,_,a1⟩
 cases r with
 |next=>exact hE _ ⟨Ξ,ο,v,NL,a2.trans b2,⟨ea,d,T,fl,rfl,(q.go NL (λ b hb=>FN hA hA.has (by rcases hb with rfl |rfl |rfl <;> assumption)) b2),n1,n2,n3⟩,b3.2⟩
 |_=>exact nomatch b3.1
theorem S1.jj{a:List PS}{f0:PS}{fs:List PS}{Q:bJ->Lc->AH->Prop}(o:Own c)
  (h:S g c a m H (λ r ρ H₁=>S g c (f0::fs) ρ H₁ (λ r' Ξ ο=>r'=.next/\Q r Ξ ο) (λ _ _ _=>False))
   (λ v ρ H₁=>∀e,S g (c.mark (some e)) (f0::fs) ρ H₁ (λ r' Ξ ο=>r'=.next/\X v Ξ ο) (λ _ _ _=>False))):S1 g c (.jj a (f0::fs)) m H Q X:=by
 intro n st hs A s hA
 obtain⟨n',a',f',p,rfl,h1,h2⟩:=Wu hs
 obtain⟨e0,lZ,rfl⟩:=NJ h2
 refine wpAny_Try_finally (ve (X:=λ v ρ H₁=>∀e,S g (c.mark (some e)) (f0::fs) ρ H₁ (λ r' Ξ ο=>r'=.next/\X v Ξ ο) (λ _ _ _=>False)) hA hA Go.refl (h n' a' h1) (λ e s' x=>?_) λ f s₁ ρ H₁ a1 a2 a3=>?_)
 ·refine cD (Ay o hA x) (λ _ lq x=>⟨cO.el x λ _ _ _ _ _ z _=>z.Xv,cD (Ay o hA x) (λ _ s3 x=>cD (Az x) (λ _ s4 x=>Xx hA h2 x λ s' px=>?_) λ _ _ x=>x.elim) λ _ _ x=>x.elim⟩) λ _ _ x=>x.elim
  exact NC px (Δ (cD (Az px) (λ _ _ x=>wpAny_throw x) λ _ _ x=>x.elim))
 ·cases f with
  |next=>exact Ah (AE (f:=.next) hA h2 a1 a2 a3 λ _ m' H' x y z=>⟨m',H',x,y,z⟩)
  |brk=>exact AE (f:=.brk) hA h2 a1 a2 a3 λ _ m' H' x y z=>⟨m',H',x,y,z⟩
  |cont=>exact AE (f:=.cont) hA h2 a1 a2 a3 λ _ m' H' x y z=>⟨m',H',x,y,z⟩
  |ret v=>exact AE (f:=.ret v) hA h2 a1 a2 a3 λ _ m' H' x y z=>⟨m',H',x,y,z⟩
theorem At.xS(x:At g c A m H s)(r:gI g s.heap a ao)(hH:H a=none)(hl:g.cm.objs.size<=a)(hL:a≠c.env.locals)(hf:∀fs,A.frames=some fs->∀env∈fs,env.frame≠some a):At g c A m (ξ H a ao) s:=
 {ok:=x.ok,old:=x.old
  sim:=λ b o e=>by
   by_cases q:b=a
   ·subst q;rw[ah]at e;obtain rfl:=bY e;exact r
   ·rw[Γ q]at e;exact x.sim b o e
  low:=λ b o e=>by
   by_cases q:b=a
   ·refine q.symm▸?_;exact hl
   ·rw[Γ q]at e;exact x.low b o e
  depth:=x.depth,units:=x.units,hand:=x.hand
  frames:=by
   obtain⟨fs,h1,h2⟩:=x.frames
   refine⟨fs,h1,λ env he=>?_⟩
   obtain⟨k1,L,o',k2,k3,k4,k5,k6⟩:=h2 env he
   exact⟨k1,L,o',k2,k3,k4,by rw[Γ (λ z=>hf fs h1 env he (by exact k2▸z▸rfl))];exact k5,k6⟩
  os:=x.os,gens:=x.gens,size:=x.size,aY:=x.aY,ns:=x.ns
  off:=by exact(Γ (cP hL))▸(x.off)
  c9:=x.c9,head:=x.head}
theorem Go.xS(G:Go L bE fm H h)(hH:H a=none)(n:fm.get? a=none):Go L bE fm (ξ H a ao) h where
 old b o q e1 e2:=by
  refine iS (G.old b o q e1 e2) λ b1 sl b2=>?_
  exact⟨by rw[Γ (λ z=>by rw[z,n]at e2;exact nN e2)];exact b1,sl,b2⟩
 cW b o e z:=by rw[Γ (λ q=>by have:=G.cW b o e z;rw[q,hH]at this;exact nN this)];exact G.cW b o e z
 aM b es e:=by
  have bM:b≠a:=λ q=>by
   rcases G.aM b es e with h |⟨i,h⟩ <;> (rw[q,hH]at h;exact nN h)
  exact(Γ bM)▸(G.aM b es e)
 fk b e:=by
  by_cases q:b=a
  ·refine q.symm▸?_;refine ah▸?_;simp
  ·exact(Γ q)▸(G.fk b e)
theorem AF(x:At g c A m H s)(n:s.heap.get? a=none):∀fs,A.frames=some fs->∀env∈fs,env.frame≠some a:=by
 intro fs h env he q
 obtain⟨lZ,h1,h2⟩:=x.frames
 rw[h]at h1;cases h1
 obtain⟨k1,L,o',k2,k3,_⟩:=h2 env he
 rw[q]at k2;cases k2
 rw[n]at k3;cases k3
theorem agq{A:bS}:(A.mark h).frames=A.frames:=by cases A;rfl
noncomputable def drop(i:Nat):Lc->Lc
 | []=>[]
 | (j,u)::r=>if j=i then drop i r else(j,u)::drop i r
theorem Xy:drop i ((i,u)::r)=drop i r:=if_pos rfl
theorem Xz(h:j≠i):drop i ((j,u)::r)=(j,u)::drop i r:=if_neg h
theorem XA(i:Nat)(m:Lc)(j:Nat):(drop i m).lookup j=if j=i then none else m.lookup j:=by
 induction m with
 |nil=>exact(ite_self (c:=j=i) none).symm
 |cons p r ih=>
  by_cases hk:p.1=i
  ·rw[<- hk,Xy (u:=p.2),hk,ih]
   by_cases h:j=i
   ·rw[if_pos h,if_pos h]
   ·rw[if_neg h,if_neg h];exact(nZ λ z=>h (z.trans hk)).symm
  ·rw[Xz (u:=p.2) hk]
   by_cases h:j=p.1
   ·rw[if_neg (λ z=>hk (h.symm.trans z)),h,rM];exact rM.symm
   ·rw[nZ h,ih,show eS j (p::r)=r.lookup j from nZ h]
theorem XB(k1:c.sc.names.lookup xs=some .local)(k2:codeOf xs=some nm)(l1:At g c A (put nm .none m) H s)
  (k:∀s',At g c A (drop nm m) H s'->Go (some c.env.locals) H s.heap H s'.heap->P () s'):wpAny (MM g) A (unbindBehindTheSuite c.env xs pos) P E s:=by
 refine ag (nV k2) λ hi hx=>?_
 obtain⟨mm,r1,r2⟩:=l1.ns
 have hv:=r2 nm .none hi (by rw[Aj,if_pos rfl])
 rw[hx]at hv
 refine ψ (Option.map_eq_some_iff.mp hv) λ v0 XC _=>?_
 have kk:c.env.kindOf xs=some .local:=by unfold rK;exact l1.aY.sc▸(k1)
 unfold unbindBehindTheSuite
 refine wpAny_onRaise (wpAny_unbindName_local kk r1 XC (by exact l1.aY.sc▸l1.aY.kind▸rfl) λ h9 u' r3 r4=>k _ (l1.turn s.toks r3 (λ j u hj e=>?_) r4) (Go.turn r4))
 rw[XA]at e
 by_cases k:j=nm
 ·rw[if_pos k]at e;cases e
 ·rw[if_neg k]at e
  have nx:N j≠xs:=λ z=>k (rL hj hi (z.trans hx.symm))
  show Option.map nv (if N j=xs then u' else mm (N j))=some u
  refine(if_neg nx)▸?_
  exact r2 j u hj (by rw[Aj,if_neg k];exact e)
def NM(g:Gv)(c:Cx)(h:List PS)(nm:Nat)(Q:bJ->Lc->AH->Prop):Value->Lc->AH->Prop:=λ v ρ H₁=>∀e ea d,H₁ ea=none->H₁ d=none->ea≠d->
 S g (c.mark (some e)) h (put nm (.ref ea) ρ) (ξ (ξ H₁ d (.ai true [(cA,v)])) ea (.exc g.st d)) (λ f Ξ ο=>Q f (drop nm Ξ) ο) (λ _ _ _=>False)
theorem iA.ne'(q:iA g H ea d T v fl h):ea≠d:=λ z=>by
 obtain⟨od,_,_,d1,d2,_⟩:=q.dict
 obtain⟨NO,gp,p1,p2,p3,p4,p5⟩:=q.me
 rw[z,d1]at p1;cases p1;rw[d2]at p3;cases p3
theorem XD(o:Own c)(hA:At g c A m0 H0 s)(b6:At g c A m H s5)(c2:Go (some c.env.locals) H0 s.heap H s5.heap)(q:iA g H ea d T v fl s5.heap)(n1:s.heap.get? ea=none)(n2:s.heap.get? d=none)(n3:s.heap.get? T=none):
  At g c A m (ξ (ξ H d (.ai true [(cA,v)])) ea (.exc g.st d)) s5/\Go (some c.env.locals) H0 s.heap (ξ (ξ H d (.ai true [(cA,v)])) ea (.exc g.st d)) s5.heap:=by
 have NQ:ξ H d (.ai true [(cA,v)]) ea=none:=(Γ q.ne').trans q.off.1
 obtain⟨NO,gp,p1,p2,p3,p4,p5⟩:=q.me
 exact⟨(b6.xS (a:=d) (ao:=.ai true [(cA,v)]) q.dict q.off.2.1 q.low.2.1 (FN hA hA.has n2) (AF hA n2)).xS (a:=ea) (ao:=.exc g.st d) ⟨NO,gp,p1,p2,p3,p4⟩ NQ q.low.1 (FN hA hA.has n1) (AF hA n1),(c2.xS (a:=d) (ao:=.ai true [(cA,v)]) q.off.2.1 n2).xS (a:=ea) (ao:=.exc g.st d) NQ n1⟩
theorem XE(o:Own c)(hg:bw g->pj g i (.ref g.st))(hex:bw g->exmOne g.K (.ref g.st) (.ref g.st)=some true)
  (k1:c.sc.names.lookup xs=some .local) (k2:codeOf xs=some nm) (y1:c.sc.names.lookup y=some .globalImplicit) (y2:codeOf y=some i) (h4:ey n c.sc (e0::fs) h) (hA:At g c A m H s) (x:cO g c A H s (NM g c h nm Q) e s3)
  (hP:∀f s' m' H',At g c A m' H' s'->Go (some c.env.locals) H s.heap H' s'.heap->Q (nf f) m' H'->P f s'):wpAny (MM g) A (handleBy e c.env [.ExceptHandler (some (.Name y py)) (some xs) (e0::fs) pos]) P E s3:=by
 obtain⟨ρ,H₁,v,a1,a2,⟨ea,d,T,fl,rfl,q,n1,n2,n3⟩,a4⟩:=x
 refine wpAny_handleBy_cons (codeAny_handlers_test (Nh (c:=c.mark (some (.ref ea))) y1 y2 hg (a1.mark (.ref ea)) ?_)) (ref_ne_byPass ea)
 have LT:Looks (MM g) s3.heap (typeOf (.ref ea)) (.ref g.st):=by
  obtain⟨oe,vs,o1,o2,o3,o4,o5⟩:=q.me
  exact o2▸((Looks.ld o1).andThen .now)
 refine(exm_one (a1.toaC.dZ) LT (hex hA.ok)).here (codeAny_handlers_suite_as (An (A:=A.mark (some (.ref ea))) (a1.mark (.ref ea)).toaC q λ h5 b6 b7 b8 b9=>?_))
 refine ag (XD o hA (a1.shift b7 s3.toks) (a2.near b8 n1 n3) b9 n1 n2 n3) λ t1 t2=>?_
 refine Al (c:=c.mark (some (.ref ea))) (v:=.ref ea) k1 k2 (t1.mark (.ref ea)) λ s6 i1 i2=>?_
 refine cD (a4 (.ref ea) ea d b9.off.1 b9.off.2.1 b9.ne' n _ h4 _ _ i1) (λ f s7 x=>fF.el x λ Ξ ο j1 j2 j4=>?_) λ e s' x=>cO.el x λ _ _ _ _ _ _ z=>z.elim
 exact Δ (wpAny_bindName (Al (v:=Value.none) k1 k2 (j1.unmark ⟨_,_,_,a1⟩) λ s8 l1 l2=>XB k1 k2 l1 λ s9 l3 l4=>hP _ _ _ _ l3 ((((t2.trans i2).trans j2).trans l2).trans l4) j4))
theorem S1.mG(o:Own c)(hd:c.hd=none)(hg:bw g->pj g i (.ref g.st))(hex:bw g->exmOne g.K (.ref g.st) (.ref g.st)=some true)
  (h:S g c a m H Q (λ v ρ H₁=>∀e ea d,H₁ ea=none->H₁ d=none->ea≠d->
   S g (c.mark (some e)) (h0::hs) (put nm (.ref ea) ρ) (ξ (ξ H₁ d (.ai true [(cA,v)])) ea (.exc g.st d)) (λ f Ξ ο=>Q f (drop nm Ξ) ο) (λ _ _ _=>False))):
  S1 g c (.mG a (.ς i) nm (h0::hs)) m H Q X:=by
 intro n st iY
 refine Ej (Wv iY) λ n' a' t' xs f' q p FW h1 h2 h3 h4=>?_;subst FW
 refine km (NJ h4) λ e0 lZ XF=>?_;subst XF
 refine dG (MJ h2) λ y py FX y1 y2=>?_;subst FX
 refine ag (jE h3) λ k1 k2=>?_
 refine W.cps λ A s hA P E hP hE=>wpAny_Try_except (ve (X:=NM g c (h0::hs) nm Q) hA hA Go.refl (h n' a' h1) (λ e s' x=>?_) λ f s₁ ρ H₁ a1 a2 a3=>?_)
 ·exact cD (Ay o hA x) (λ _ s2 x=>cD (Az x) (λ _ s3 x=>XE o hg hex k1 k2 y1 y2 h4 hA x hP) λ _ _ x=>x.elim) λ _ _ x=>x.elim
 ·cases f with
  |next=>exact Ah (hP _ _ _ _ a1 a2 a3)
  |brk=>exact hP _ _ _ _ a1 a2 a3
  |cont=>exact hP _ _ _ _ a1 a2 a3
  |ret v=>exact hP _ _ _ _ a1 a2 a3
theorem NR(A:bS)(C:Addr)(rest:List Value):(A.under (.builtin "type.__call__" ⟨.ref C::rest,[]⟩)).depth=A.depth+1:=rfl
theorem NS(A:bS)(args:Args):(A.under (.builtin "type.__call__" args)).units<=A.units+2:=eP (eV (by kernel_rfl)) _
theorem vf(A:bS)(args:Args):(A.under (.builtin "type.__call__" args)).frames=A.frames:=by
 rfl
theorem NU(A:bS)(args:Args):(A.under (.builtin "type.__call__" args)).handled=A.handled:=rfl
theorem aC.inner(x:aC g (k+1) hd A H s)(h1:B.depth<=A.depth+1)(h2:B.units<=A.units+2)(h3:B.frames=A.frames)(h4:B.handled=A.handled):aC g k hd B H s:=
 {ok:=x.ok,old:=x.old,sim:=x.sim,low:=x.low
  depth:=by have:=x.depth;exact aH (aT h1 this) (by simp +arith only)
  units:=by have:=x.units;exact aH (aT h2 this) (by simp +arith only)
  hand:=h4.trans x.hand,frames:=let⟨fs,a,b⟩:=x.frames;⟨fs,h3.trans a,b⟩
  os:=x.os,gens:=x.gens,size:=x.size}
theorem aC.outer(x:aC g (k+1) hd A H s)(h3:B.frames=A.frames)(y:aC g k hd B H' s'):aC g (k+1) hd A H' s':=
 {ok:=y.ok,old:=y.old,sim:=y.sim,low:=y.low,depth:=x.depth,units:=x.units
  hand:=x.hand,frames:=let⟨fs,a,b⟩:=y.frames;⟨fs,h3▸a,b⟩
  os:=y.os,gens:=y.gens,size:=y.size}
theorem cX.empty{h:Heap}:cX (h.push emptyDict) h.objs.size []:=
 ⟨emptyDict,#[],_,fZ _ rfl,rfl,rfl,λ _ hp=>nomatch hp⟩
theorem aC.inst{k:Nat}{hd:Option Value}{A:bS}{hh:Heap}{gs:Array GenState}{dr:Drawn}{t:Nat}{os:gE}(x:aC g k hd A H ⟨hh,gs,dr,t,os⟩):
  H hh.objs.size=none/\H (hh.objs.size+1)=none/\
  aC g k hd A (ξ (ξ H hh.objs.size (.ai z [])) (hh.objs.size+1) (.ins C hh.objs.size)) ⟨(hh.push emptyDict).push (k9 C hh.objs.size),gs,dr,t,os⟩/\
  Go none H hh (ξ (ξ H hh.objs.size (.ai z [])) (hh.objs.size+1) (.ins C hh.objs.size)) ((hh.push emptyDict).push (k9 C hh.objs.size)):=by
 have n0:=x.dI
 have y:=x.new (o:=emptyDict) (ao:=.ai z []) cX.empty t
 have n1:=y.dI
 have sz:(hh.push emptyDict).objs.size=hh.objs.size+1:=xA ..
 have w:=y.new (o:=k9 C hh.objs.size) (ao:=.ins C hh.objs.size) (fZ _ rfl) t
 have g2:=Go.new (L:=none) (o:=k9 C hh.objs.size) (ao:=.ins C hh.objs.size) (s:=hh.push emptyDict) n1
 dsimp only at n0 n1 w g2
 rw[sz]at n1 w g2
 refine⟨n0,?_,w,(Go.new (L:=none) (o:=emptyDict) (ao:=.ai z []) (s:=hh) n0).trans g2⟩
 rw[Γ (show hh.objs.size+1≠hh.objs.size from λ z=>absurd z (NV _))]at n1
 exact n1
theorem cy.make(hm:bw g->makesIn g.K C=true/\dc g.K (.ref C) "__init__"=some (some (.ref fI))/\rS g.K (.ref fI)=some (.type "function"))
  (h:∀x d,H x=none->H d=none->x≠d->cy g k (.ref fI) (.ref x::args) (ξ (ξ H d (.ai false [])) x (.ins C d)) (λ v H'=>v=.none/\Q (.ref x) H') X):cy g (k+1) (.ref C) args H Q X:=by
 intro A XG raw aO hA;obtain⟨hh,gs,dr,t,os⟩:=XG
 refine fg (hm hA.ok) λ m1 m2 m3=>?_
 have hK:=hA.dZ
 refine make_core (makes_of hK m1) (xT hK m2) (λ self=>bind_fn hK self m3) (.inl rfl) ?_
 refine kY (hA.inst (C:=C) (z:=false)) λ q1 q2 q3 q4=>?_
 refine codeAny_mono (h _ _ q2 q1 (λ z=>absurd z (NV _)) _ _ (.ref (hh.objs.size+1)::raw) (by simp[aO]) (q3.inner (aU (NR A C raw)) (NS A _) (vf A _) (NU A _))) λ r s' z=>?_
 rcases r with e | (_ |_ |_ |v)
 ·obtain⟨H',v,a,b,c,d⟩:=z
  exact⟨H',v,hA.outer (vf A _) a,q4.trans b,c.weaken (λ a o e=>⟨o,ez _ (ez _ e)⟩),d⟩
 ·exact z
 ·exact z
 ·exact z
 ·obtain⟨H',a,b,c,d⟩:=z
  exact⟨rI c,H',hA.outer (vf A _) a,q4.trans b,d⟩
theorem cy.XH(hm:bw g->makesIn g.K C=true/\dc g.K (.ref C) "__init__"=some (some (.builtin "object.__init__")))
  (h:∀x d,H x=none->H d=none->x≠d->Q (.ref x) (ξ (ξ H d (.ai z [])) x (.ins C d))):cy g (k+1) (.ref C) [] H Q X:=by
 intro A XI raw aO hA;obtain⟨hh,gs,dr,t,os⟩:=XI
 refine ag (hm hA.ok) λ m1 m2=>?_
 obtain rfl:raw=[]:=by simpa using aO
 have hK:=hA.dZ
 have Y:=makes_of (M:=MM g) hK m1
 refine make_core Y (xT hK m2) (λ self=>Looks.of_pure (oi_bind self)) (.inr ⟨rfl,rfl⟩) ?_
 refine kY (hA.inst (C:=C) (z:=z)) λ q1 q2 q3 q4=>?_
 have t1:Looks (MM g) ((hh.push emptyDict).push (k9 C hh.objs.size)) (typeOf (.ref (hh.objs.size+1))) (.ref C):=(Looks.ld (by
  have:=fZ (hh.push emptyDict) (o:=k9 C hh.objs.size) rfl
  rwa [xA]at this)).andThen .now
 have t2:Looks (MM g) ((hh.push emptyDict).push (k9 C hh.objs.size)) (FY (.ref (hh.objs.size+1)) (.type "object")) true:=t1.andThen (Y.top.keeps λ b o e=>ez _ (ez _ e))
 refine NW oi_plain entry_oi (@check_slot (MM g) _ _ _ "object.__init__" "object" "__init__" (.ref (hh.objs.size+1)) [] [] _ oi_kind oi_split t2 (oi_args (.ref (hh.objs.size+1))) ?_)
 rw[oi_run]
 exact aL (And.intro rfl ⟨_,q3,q4,h _ _ q2 q1 (λ z=>absurd z (NV _))⟩)
section
variable {a b:Int}
theorem l6(h:∀t u A s,At g c A m H s->wpAny (MM g) A (f (.int a t) (.int b u)) (fF g c A H s λ v m' H'=>Q (nv v) m' H') (cO g c A H s X) s):Ω g c f (.int a 0) (.int b 0) m H Q X:=by
 intro a' b' ha hb A s hA
 obtain⟨t,rfl⟩:=iz ha
 obtain⟨u,rfl⟩:=iz hb
 exact h t u A s hA
theorem Ω.NY(q:Q (.int (a+b) 0) m H):Ω g c (mK .Add) (.int a 0) (.int b 0) m H Q X:=l6 λ t u A s hA=>PySem.P.add_int (gX hA _ q)
theorem Ω.XJ(q:Q (.int (a-b) 0) m H):Ω g c (mK .Sub) (.int a 0) (.int b 0) m H Q X:=l6 λ t u A s hA=>PySem.P.sub_int (gX hA _ q)
theorem Ω.F_(hb:b≠0)(q:Q (.int (a.fmod b) 0) m H):Ω g c (mK .Mod) (.int a 0) (.int b 0) m H Q X:=l6 λ t u A s hA=>mod_int' hb (gX hA _ q)
theorem Ω.XM(q:Q (.int (a+b) 0) m H):Ω g c (rN .Add) (.int a 0) (.int b 0) m H Q X:=l6 λ t u A s hA=>PySem.P.iadd_int (gX hA _ q)
theorem Ω.XN(q:Q (.int (a-b) 0) m H):Ω g c (rN .Sub) (.int a 0) (.int b 0) m H Q X:=l6 λ t u A s hA=>PySem.P.isub_int (gX hA _ q)
theorem Ω.XO(q:Q (.bool (a==b)) m H):Ω g c (cJ .Eq) (.int a 0) (.int b 0) m H Q X:=l6 λ t u A s hA=>PySem.P.eq_int ⟨m,H,hA,Go.refl,q⟩
theorem Ω.XP(q:Q (.bool (a != b)) m H):Ω g c (cJ .NotEq) (.int a 0) (.int b 0) m H Q X:=l6 λ t u A s hA=>PySem.P.ne_int ⟨m,H,hA,Go.refl,q⟩
theorem Ω.NZ(q:Q (.bool (decide (a<b))) m H):Ω g c (cJ .Lt) (.int a 0) (.int b 0) m H Q X:=l6 λ t u A s hA=>PySem.P.lt_int ⟨m,H,hA,Go.refl,q⟩
theorem Ω.N0(q:Q (.bool (decide (a<=b))) m H):Ω g c (cJ .LtE) (.int a 0) (.int b 0) m H Q X:=l6 λ t u A s hA=>PySem.P.le_int ⟨m,H,hA,Go.refl,q⟩
theorem Ω.XR(q:Q (.bool (decide (a>b))) m H):Ω g c (cJ .Gt) (.int a 0) (.int b 0) m H Q X:=l6 λ t u A s hA=>PySem.P.gt_int ⟨m,H,hA,Go.refl,q⟩
theorem Ω.XS(q:Q (.bool (decide (a>=b))) m H):Ω g c (cJ .GtE) (.int a 0) (.int b 0) m H Q X:=l6 λ t u A s hA=>PySem.P.ge_int ⟨m,H,hA,Go.refl,q⟩
theorem c_.XT(q:Q (.int (-a) 0) m H):c_ g c (unaryOp .USub) (.int a 0) m H Q X:=by
 intro a' ha A s hA
 refine Θ (iz ha) λ t Ga=>?_;refine Ga.symm▸?_
 exact PySem.P.neg_int (gX hA _ q)
theorem Gd(h:∀t u A s,At g c A m H s->wpAny (MM g) A (f (.str x t) (.str y u)) (fF g c A H s λ v m' H'=>Q (nv v) m' H') (cO g c A H s X) s):Ω g c f (.str x 0) (.str y 0) m H Q X:=by
 intro a' b' ha hb A s hA
 obtain⟨t,rfl⟩:=iU ha
 obtain⟨u,rfl⟩:=iU hb
 exact h t u A s hA
theorem Ω.eqs(q:Q (.bool (x.cps.toList==y.cps.toList)) m H):Ω g c (cJ .Eq) (.str x 0) (.str y 0) m H Q X:=Gd λ t u A s hA=>PySem.P.eq_str ⟨m,H,hA,Go.refl,q⟩
theorem Ω.XU(q:Q (.bool (x.cps.toList != y.cps.toList)) m H):Ω g c (cJ .NotEq) (.str x 0) (.str y 0) m H Q X:=Gd λ t u A s hA=>PySem.P.ne_str ⟨m,H,hA,Go.refl,q⟩
theorem Ω.XW(q:Q (.bool (v==.none)) m H):Ω g c (cJ .Is) v .none m H Q X:=by
 intro a' b' ha hb A s hA
 obtain rfl:=rI hb
 refine is_none ⟨m,H,hA,Go.refl,?_⟩
 have:(a'==Value.none)=(v==Value.none):=by refine ha.symm▸?_;cases a' <;> rfl
 exact this▸(q)
theorem Ω.XX(q:Q (.bool (!(v==.none))) m H):Ω g c (cJ .IsNot) v .none m H Q X:=by
 intro a' b' ha hb A s hA
 obtain rfl:=rI hb
 refine isNot_none ⟨m,H,hA,Go.refl,?_⟩
 have:(a'==Value.none)=(v==Value.none):=by refine ha.symm▸?_;cases a' <;> rfl
 exact this▸(q)
def cq(g:Gv)(c:Cx)(a b:Value)(m:Lc)(H:AH)(Q:Value->Lc->AH->Prop)(X:Value->Lc->AH->Prop):Prop:=
 ∀a' b',nv a'=a->nv b'=b->∀A s,At g c A m H s->(∃T id,s.TypeIs a' T/\typeLookup (.type T) "__getitem__"=pure (some (.builtin id)))/\wpAny (MM g) A (getItem a' b') (fF g c A H s λ v m' H'=>Q (nv v) m' H') (cO g c A H s X) s
theorem XY(h:∀a b c q,sl≠.Slice a b c q)(o i:Value):Ge sl false o i=operate [o,i] (getItem o i):=by
 cases sl <;> first |rfl |exact absurd rfl (h _ _ _ _)
theorem V.sub(h:V g c o m H (λ a ρ H₁=>V g c i ρ H₁ (λ b Ξ ο=>cq g c a b Ξ ο Q X) X) X):V g c (.sub o i) m H Q X:=by
 intro n e' he A s hA
 refine Mp (Wa he) λ n' o' i' p Gf bM h1 h2=>?_;refine Gf.symm▸?_
 refine Subscript_ (step hA hA Go.refl (h n' o' h1) λ a s₁ ρ H₁ a1 a2 a3=>step hA a1 a2 (a3 n' i' h2) λ b ae Ξ ο b1 b2 b3=>?_)
 refine ag (b3 a b rfl rfl A ae b1) λ N1 hw=>?_;refine c7 N1 λ T id hT hl=>?_;clear N1
 refine Δ ?_
 refine Δ (wpAny_specialOf hT hl ?_)
 have fin:wpAny (MM g) A (Ge i' false a b) (λ r bZ=>wpAny (MM g) A (Nv o' a r >>= λ _=>pure r) (fF g c A H s λ v m' H'=>Q (nv v) m' H') (cO g c A H s X) bZ) (cO g c A H s X) ae:=by
  rw[XY bM]
  refine Ny (cD hw (λ r bZ ⟨m',H',c1,c2,c3⟩=>Δ (Nw (aL ⟨m',H',c1,b2.trans c2,c3⟩))) λ e bZ ⟨m',H',v,c1,c2,c3,c4⟩=>⟨m',H',v,c1,b2.trans c2,c3.weaken λ a o q=>b2.mI hA b1 q,c4⟩)
 first
  |exact aL (Δ fin)
  |exact Δ (aL (Δ fin))
  |exact Δ fin
theorem cq.list(hl:H l=some (.κ z vs))(h0:0<=i)(h1:i<2 ^ 63)(hv:vs[i.toNat]?=some v)(q:Q v m H):cq g c (.ref l) (.int i 0) m H Q X:=by
 intro a' b' ha hb A s hA
 obtain rfl:=a8 ha
 refine Θ (iz hb) λ t Gg=>?_;refine Gg.symm▸?_
 refine ψ (hA.sim _ _ hl) λ items k1 Gi=>?_;subst Gi
 refine⟨⟨_,_,k1.isList.typeIs,slot_list_getitem.lookup⟩,?_⟩
 rw[iB]at hv
 refine ψ (Option.map_eq_some_iff.mp hv) λ w hw Gj=>?_;subst Gj
 exact wpAny_getItem_list k1.isList h0 h1 (by simpa using hw) ⟨m,H,hA,Go.refl,q⟩
theorem cq.last(hl:H l=some (.κ z (vs++[v])))(q:Q v m H):cq g c (.ref l) (.int (-1) 0) m H Q X:=by
 intro a' b' ha hb A s hA
 obtain rfl:=a8 ha
 refine Θ (iz hb) λ t XZ=>?_;refine XZ.symm▸?_
 refine ψ (hA.sim _ _ hl) λ items k1 k2=>?_
 refine⟨⟨_,_,k1.isList.typeIs,slot_list_getitem.lookup⟩,?_⟩
 have hs:items.size=vs.length+1:=by have:=congrArg jF k2;simpa using this
 have hw:∃w,items[vs.length]?=some w/\nv w=v:=by
  have:(items.toList.map nv)[vs.length]?=some v:=by refine k2▸?_;simp
  rw[iB]at this
  refine ψ (Option.map_eq_some_iff.mp this) λ w hw e=>?_
  exact⟨w,by simpa using hw,e⟩
 obtain⟨w,hw,rfl⟩:=hw
 exact wpAny_getItem_list_neg k1.isList (by decide) (by omega) (by decide) (by refine(show((-1:Int)+(items.size:Int)).toNat=vs.length by omega)▸?_;exact hw) ⟨m,H,hA,Go.refl,q⟩
theorem Gk{j n:Nat}(h:j<n):seqIndex? (j:Int) n=some j:=by
 show(if(decide (0<=if(j:Int)<0 then(j:Int)+n else j)&&decide ((if(j:Int)<0 then(j:Int)+n else j)<n))=true then some (if(j:Int)<0 then(j:Int)+n else j).toNat else none)=_
 rw[if_neg (Int.not_lt.mpr (iC j)),decide_eq_true (iC j),decide_eq_true (Int.ofNat_lt.mpr h)]
 rfl
theorem cq.φ{l:Addr}{vs:List Value}(hl:H l=some (.φ vs))(h0:0<=i)(h1:i<2 ^ 63)(hv:vs[i.toNat]?=some v)(q:Q v m H):cq g c (.ref l) (.int i 0) m H Q X:=by
 intro a' b' ha hb A s hA
 obtain rfl:=a8 ha
 refine Θ (iz hb) λ t X0=>?_;subst X0
 refine ψ (hA.sim _ _ hl) λ items k1 Gl=>?_;subst Gl
 refine⟨⟨_,_,k1.isTup.typeIs,slot_tuple_getitem.lookup⟩,?_⟩
 rw[iB]at hv
 refine ψ (Option.map_eq_some_iff.mp hv) λ w hw X1=>?_;subst X1
 have fq:=(List.getElem?_eq_some_iff.mp hw).1
 refine Θ (xc h0) λ j Gm=>?_;subst Gm
 exact X2 (j:=j) k1.isTup (ji (by decide) (iC j)) h1 (Gk fq) (by simpa using hw) ⟨m,H,hA,Go.refl,q⟩
end
section
variable {k:Nat}
theorem aC.EA(x:aC g k hd A H s)(tk:Nat):aC g k hd A H {s with toks:=tk}:=
 {x with sim:=x.sim,old:=x.old,frames:=x.frames,os:=x.os,gens:=x.gens,size:=x.size}
theorem lx(x:aC g k none A H s)(tk:Nat)(q:Q (nv v) H):xF g k A H s Q v {s with toks:=tk}:=⟨H,x.EA tk,Go.refl,q⟩
theorem μ.len_list(hl:H l=some (.κ z vs))(hf:vs.length<2 ^ 60)(q:Q (.int vs.length 0) H):μ g k (.builtin "len") [.ref l] H Q E:=by
 intro A s raw aO hA
 obtain⟨a,rfl,ha⟩:∃a,raw=[a]/\nv a=.ref l:=by
  cases raw with
  |nil=>exact nL aO
  |cons a r=>cases r with
   |nil=>exact⟨a,rfl,by simpa using aO⟩
   |cons=>simp at aO
 obtain rfl:=a8 ha
 refine ψ (hA.sim _ _ hl) λ items k1 Gn=>?_;subst Gn
 have hs:items.size<2 ^ 60:=by simpa using hf
 refine call_len_list k1.isList (by omega) (lx hA _ (by simpa using q))
theorem μ.len_str(hf:x.length<2 ^ 60)(q:Q (.int x.length 0) H):μ g k (.builtin "len") [.str x 0] H Q E:=by
 intro A s raw aO hA
 obtain⟨a,rfl,ha⟩:∃a,raw=[a]/\nv a=.str x 0:=by
  cases raw with
  |nil=>exact nL aO
  |cons a r=>cases r with
   |nil=>exact⟨a,rfl,by simpa using aO⟩
   |cons=>simp at aO
 obtain⟨t,rfl⟩:=iU ha
 exact PySem.P.len_str (by omega) (lx hA _ q)
theorem X3{l:Addr}{z:Bool}{vs:List Value}{name:Str}{id:String}{pl:Sem Bool}{Q:Value×List Value->Lc->AH->Prop}(hl:H l=some (.κ z vs))(slot:Slot "list" name id)(xU:typeOf (.builtin id)=pure (.type "method_descriptor"))(q:Q (.builtin id,[.ref l]) m H):
  W g c (Av (.ref l) name pl) m H Q X:=by
 intro A s hA
 refine ψ (hA.sim _ _ hl) λ items N2 _=>?_;refine Θ N2 λ n k1=>?_;clear N2
 exact X4 (T:="list") ⟨_,k1,rfl⟩ PySem.F.plainAttrs_list slot xU (λ a e=>by injection e with ze;subst ze;exact⟨_,k1,rfl⟩) ⟨m,H,hA,Go.refl,q⟩
theorem μ.append(hl:H l=some (.κ false vs))(hf:vs.length<2 ^ 20)(q:Q .none (ξ H l (.κ false (vs++[v])))):μ g k (.builtin "list.append") [.ref l,v] H Q E:=by
 intro A s raw aO hA
 obtain⟨a,b,rfl,ha,hb⟩:∃a b,raw=[a,b]/\nv a=.ref l/\nv b=v:=by
  rcases raw with _ |⟨a,_ |⟨b,_ |⟨d,r⟩⟩⟩ <;> simp at aO
  exact⟨a,b,rfl,aO.1,aO.2⟩
 obtain rfl:=a8 ha
 refine ψ (hA.sim _ _ hl) λ items N3 k2=>?_;refine Θ N3 λ n k1=>?_;clear N3
 have hs:items.size<2 ^ 20:=by have:=congrArg jF k2;simp at this;exact aH (aT hf (aU this)) (by simp +arith only)
 refine wpAny_list_append_plain ⟨n,k1⟩ (λ h' p1 p2=>?_) (by show items.size<=2 ^ 24;exact aH hs (by simp +arith))
 exact⟨_,hA.chg (ao':=.κ false (vs++[v])) hl p2 ⟨_,p1,by simp[k2,hb]⟩ s.toks,Go.chg hl rfl (λ _ z=>nomatch z) p2,q⟩
theorem μ.pop(hl:H l=some (.κ false (vs++[v])))(hf:vs.length<2 ^ 20)(q:Q v (ξ H l (.κ false vs))):μ g k (.builtin "list.pop") [.ref l] H Q E:=by
 intro A s raw aO hA
 obtain⟨a,rfl,ha⟩:∃a,raw=[a]/\nv a=.ref l:=by
  rcases raw with _ |⟨a,_ |⟨b,r⟩⟩ <;> simp at aO
  exact⟨a,rfl,aO⟩
 obtain rfl:=a8 ha
 refine ψ (hA.sim _ _ hl) λ items N4 k2=>?_;refine Θ N4 λ n k1=>?_;clear N4
 have hs:items.size=vs.length+1:=by have:=congrArg jF k2;simpa using this
 obtain⟨dJ⟩:=items
 refine km (⟨dJ.dropLast,dJ.getLast (by intro z;subst z;simp at hs),(List.dropLast_concat_getLast _).symm⟩:∃ws w,dJ=ws++[w]) λ ws w X5=>?_;subst X5
 have k3:ws.map nv=vs/\nv w=v:=by
  have:(ws.map nv)++[nv w]=vs++[v]:=by simpa using k2
  exact⟨(List.append_inj' this rfl).1,by simpa using(List.append_inj' this rfl).2⟩
 have X6:ws.length=vs.length:=by refine k3.1▸?_;simp
 refine call_meets F.slot_list_pop ⟨_,k1,rfl⟩ F.entry_list_pop (F.args_list_pop_1 _) (PySem.MeetsSeq.list_pop_last l ⟨ws++[w]⟩ n w (by simp) (by show(ws++[w]).length<=2 ^ 24;simp;exact aH (aT hf (aU X6)) (by simp +arith))) ⟨k1,?_⟩
 have hm:mS (λ xs=>xs.eraseIdxIfInBounds ((⟨ws++[w]⟩:Array Value).size-1)) {cls:=.type "list",data:=.seq ⟨ws++[w]⟩ n}={cls:=.type "list",data:=.seq ⟨ws⟩ (n+1)}:=by
  have he:(ws++[w]).eraseIdx ws.length=ws:=by rw[List.eraseIdx_append_of_length_le (bK _)];simp
  simp[mS,he]
 refine⟨_,hA.chg (ao':=.κ false vs) hl (lj s.heap l (mS λ xs=>xs.eraseIdxIfInBounds ((⟨ws++[w]⟩:Array Value).size-1))) ⟨⟨ws⟩,⟨n+1,?_⟩,k3.1⟩ s.toks,Go.chg hl rfl (λ _ z=>nomatch z) (lj s.heap l (mS λ xs=>xs.eraseIdxIfInBounds ((⟨ws++[w]⟩:Array Value).size-1))),by refine k3.2▸?_;exact q⟩
 rw[mO _ k1 (by rw[hm];rfl),hm]
end
noncomputable def mT:List Value:=[.type "Exception",.type "BaseException",.type "object"]
inductive N5(g:Gv):Prop
 |mk (nm q N bs sn sub ab col dd k0 k1 k2 k3 k5) (hl:g.K.lookup g.st=some (excClassObj nm q g.st N bs mT true sn sub ab col dd k0 k1 k2 k3 k5 "Exception.__new__")):N5 g
structure rU(g:Gv)(fI:Addr):Prop where
 set:dc g.K (.ref g.st) "__setattr__"=some (some (.builtin "object.__setattr__"))
 X7:takerIn g.K g.st (N cA)=some none
 cls:N5 g
 init:dc g.K (.ref g.st) "__init__"=some (some (.ref fI))/\rS g.K (.ref fI)=some (.type "function")
theorem X8(self:Value)(C:Addr):refuseLoop self "__setattr__" (.ref C::mT)=pure ():=by
 rw[refuseLoop_ref];exact PySem.F.store_Exception.passes self
theorem X9(X:g.K.In s.heap)(O:rU g fI)(I:InstAt s.heap x ox g.st od)
  (h:∀b,wpAny (MM g) A.in1 (Builtin.ObjectAttr.storeInOwnDict (.ref x) (.ref g.st) (.str (N cA) tk) (N cA) v b)
   (λ fin s'=>match fin with| .done f=>R (.ok f) s' | .again c'=>c'.quiet=true/\n9 (MM g) A c' R s') (λ e s'=>R (.error e) s') s):
  n9 (MM g) A (.call (.builtin "object.__setattr__") ⟨[.ref x,.str (N cA) tk,v],[]⟩) R s:=by
 obtain⟨nm,q,NN,bs,sn,sub,ab,col,dd,k0,k1,k2,k3,k5,hl⟩:=O.cls
 have hc:clsIn g.K g.st=some {name:=nm,bases:=bs,mro:=.ref g.st::mT,ns:=NN,qualname:=q,hasDict:=true,slotNames:=sn,subclasses:=sub,abstract:=ab,collection:=col,hasDel:=false}:=by
  unfold clsIn;rw[hl]
 have Gp:Looks (MM g) s.heap (FY (.ref x) (.type "object")) true:=I.type.andThen (looks_mroIn X (by unfold mroIn;rw[hc,xN];rfl))
 refine NW (AG).slot.plain (AG).entry (@check_slot (MM g) _ _ s "object.__setattr__" "object" "__setattr__" (.ref x) [.str (N cA) tk,v] [] _ (AG).kind (AG).split Gp ((AG).args (.ref x) (.str (N cA) tk) v) ?_)
 refine ψ (Option.bind_eq_some_iff.mp O.X7) λ attr ha hr=>?_
 have hm:Looks (MM g) s.heap (mroOf (.ref g.st)) (.ref g.st::mT):=(looks_clsIn X hc).andThen .now
 have L3:Looks (MM g) s.heap (Builtin.ObjectAttr.storeTaker? attr) none:=by
  cases attr with
  |none=>exact .now
  |some a=>
   refine ψ (Option.map_eq_some_iff.mp hr) λ b hb fp=>?_
   refine(looks_takesIn X hb).andThen ?_
   cases b <;> first |exact .now |exact nS fp
 rw[osa_eq,refuse_eq]
 refine Δ (Δ (I.type.here (Δ (hm.here ?_))))
 rw[X8]
 refine aL (Δ (I.type.here (Δ ((xT X ha).here (Δ (L3.here ?_))))))
 exact h _
theorem X_(hx:H x=some (.gW g.st none))(hi:cA<NT.length)(O:bw g->rU g fI)
  (q:∀d,H d=none->d≠x->Q () m (ξ (ξ H d (.ai false [(cA,nv v)])) x (.gW g.st (some d)))):W g c (rT (.ref x) (N cA) v) m H Q X:=by
 intro A Yb hA;obtain⟨hh,gs,dr,tk,os⟩:=Yb
 have hK:g.K.In hh:=hA.toaC.dZ
 refine Θ (hA.sim _ _ hx) λ t h1=>?_
 have I1:InstAt hh x {cls:=.ref g.st,dict:=none,data:=.fields #[.ref t,.none,.none,.none,.bool false,.none]} g.st none:=⟨h1,rfl,rfl,trivial⟩
 have gd:x≠hh.objs.size:=gc (dO h1)
 refine set_plain hK I1 (O hA.ok).set (X9 (s:=⟨hh,gs,dr,tk+1,os⟩) hK (O hA.ok) I1 λ b=>?_)
 obtain⟨nm,q',NN,bs,sn,sub,ab,col,dd,k0,k1,k2,k3,k5,hl⟩:=(O hA.ok).cls
 have hc:clsIn g.K g.st=some {name:=nm,bases:=bs,mro:=.ref g.st::mT,ns:=NN,qualname:=q',hasDict:=true,slotNames:=sn,subclasses:=sub,abstract:=ab,collection:=col,hasDel:=false}:=by
  unfold clsIn;rw[hl]
 refine Δ (aL (Δ (Δ (FD (s:=⟨hh,gs,dr,tk+1,os⟩) h1 (Δ ((looks_clsIn (show g.K.In (⟨hh,gs,dr,tk+1,os⟩:Shared).heap from hK) hc).here ?_))))))
 show wpAny _ _ ((alloc emptyDict >>= λ d=>PySem.update x (λ o=>{cls:=o.cls,dict:=some d,data:=o.data,slots:=o.slots}) >>= λ _=>pure (some d))) _ _ _
 refine Δ (wpAny_alloc (Δ (wpAny_update (ez emptyDict h1) (aL ?_))))
 show wpAny _ _ (Builtin.ObjectAttr.storeInDict hh.objs.size (.str (N cA) tk) (N cA) v) _ _ _
 refine Δ (aL (Δ ?_))
 let f:Obj->Obj:=λ o=>{cls:=o.cls,dict:=some hh.objs.size,data:=o.data,slots:=o.slots}
 have mU:((hh.push emptyDict).update x f).get? hh.objs.size=some emptyDict:=(mL _ _ gd).trans (fZ _ rfl)
 have lc:cX ((hh.push emptyDict).update x f) hh.objs.size []:=⟨emptyDict,#[],_,mU,rfl,rfl,λ _ hp=>nomatch hp⟩
 unfold nsSet
 refine Δ (Δ (wpAny_askSetting (aL (Δ (wpAny_mkText (Δ (FD (s:=⟨(hh.push emptyDict).update x f,gs,dr,tk+1+1,os⟩) mU ?_)))))))
 dsimp only
 rw[aRefKeyMayBeTheName_at,show((!(#[]:Array DictEntry).any (·.key.isStr (N cA))&&(#[]:Array DictEntry).any (·.refKey))=false)from by simp]
 refine wpAny_updatePart (s:=⟨(hh.push emptyDict).update x f,gs,dr,tk+1+1,os⟩) mU ?_
 obtain⟨p1,o',Ax,n',p2,p3,p4⟩:=lc.put (hs:=zD g.w.params (N cA)) (t:=tk+1) (v:=v) hi
 refine Δ (wpAny_lookBehind p2 (by rw[p3];exact pastItsLine_dict (by rw[p4,mR];show 1<=_;decide)) ?_)
 have N6:ξ H hh.objs.size (.ai false []) x=some (.gW g.st none):=by rw[Γ gd];exact hx
 have N7:n6 x (hh.push emptyDict) ((hh.push emptyDict).update x f):=lj ..
 have jG:ξ (ξ H hh.objs.size (.ai false [])) x (.gW g.st (some hh.objs.size)) hh.objs.size=some (.ai false []):=by rw[Γ (cP gd),ah]
 have w3:=((hA.new (o:=emptyDict) (ao:=.ai false []) cX.empty tk).chg (ao':=.gW g.st (some hh.objs.size)) N6 N7 ⟨t,mO f (ez emptyDict h1) rfl⟩ tk).chg (ao':=.ai false [(cA,nv v)]) jG (lj ((hh.push emptyDict).update x f) hh.objs.size (kD (N cA) (zD g.w.params (N cA)) (.str (N cA) (tk+1)) v)) p1 (tk+1+1)
 have e:ξ (ξ (ξ H hh.objs.size (.ai false [])) x (.gW g.st (some hh.objs.size))) hh.objs.size (.ai false [(cA,nv v)])=ξ (ξ H hh.objs.size (.ai false [(cA,nv v)])) x (.gW g.st (some hh.objs.size)):=by
  funext b
  unfold ξ
  by_cases h1:b=hh.objs.size
  ·subst h1;simp[cP gd]
  ·simp[h1]
 have G:Go (some c.env.locals) H hh _ _:=((Go.new (L:=some c.env.locals) (o:=emptyDict) (ao:=.ai false []) (s:=hh) (hA.toaC.dI)).trans (Go.chg N6 rfl (λ _ z=>nomatch z) N7)).trans (Go.chg (ao':=.ai false [(cA,nv v)]) jG rfl (λ _ z=>nomatch z) (lj ((hh.push emptyDict).update x f) hh.objs.size (kD (N cA) (zD g.w.params (N cA)) (.str (N cA) (tk+1)) v)))
 rw[e]at w3 G
 exact aL ⟨m,_,w3,G,q _ (hA.toaC.dI) (cP gd)⟩
section
variable {t:Nat}{os:gE}
theorem Gq(X:g.K.In h)(O:rU g fI)(Yc:rest.length<=sizeLine)
  (hq:n9 (MM g) (A.under (.builtin "type.__call__" ⟨.ref g.st::rest,[]⟩)) (.call (.ref fI) ⟨.ref (h.objs.size+1)::rest,[]⟩) (InitBack (h.objs.size+1) R)
   ⟨(h.push {cls:=.type "tuple",data:=.seq rest.toArray}).push {cls:=.ref g.st,data:=.fields #[.ref h.objs.size,.none,.none,.none,.bool false,.none]},gs,d,t,os⟩):
  n9 (MM g) A (.call (.ref g.st) ⟨rest,[]⟩) R ⟨h,gs,d,t,os⟩:=by
 obtain⟨nm,q,NN,bs,sn,sub,ab,col,dd,k0,k1,k2,k3,k5,hl⟩:=O.cls
 have hC:=X _ _ hl
 have F:ExcBaseFacts "Exception" "Exception.__new__" "Exception.__init__" mT:=PySem.F.excBase_Exception
 have f1:=tc_lookup
 have f2:=tc_bind (.ref g.st)
 have hT:(⟨h,gs,d,t,os⟩:Shared).TypeIs (.ref g.st) "type":=⟨_,hC,rfl⟩
 refine codeAny_of_tree ?_
 show wpAny _ _ (callAny (.ref g.st) _) _ _ _
 repeat (any_goals (first |assumption |with_reducible refine xV hC ?_ |wp_step))
 refine⟨rfl,?_⟩
 refine codeAny_call_builtin_at (Code.quiet_builtin _ (by decide +kernel)) entry_typeCall (wpAny_check_type_call_sub hC ?_)
 repeat (first |with_reducible refine xV hC ?_ |with_reducible refine wpAny_madeBy_exc hC ?_ |wp_step)
 refine codeAny_call_builtin_code (Code.quiet_builtin _ F.quiet) (wpAny_check_new_sub F hC ?_)
 refine codeAny_exc_new_sub F hC ?_ Yc
 show wpAny _ _ _ _ _ _
 have k:∀b o,h.get? b=some o->((h.push {cls:=.type "tuple",data:=.seq rest.toArray}).push {cls:=.ref g.st,data:=.fields #[.ref h.objs.size,.none,.none,.none,.bool false,.none]}).get? b=some o:=
  λ b o e=>ez _ (ez _ e)
 have hx:((h.push {cls:=.type "tuple",data:=.seq rest.toArray}).push {cls:=.ref g.st,data:=.fields #[.ref h.objs.size,.none,.none,.none,.bool false,.none]}).get? (h.objs.size+1)=some
   {cls:=.ref g.st,data:=.fields #[.ref h.objs.size,.none,.none,.none,.bool false,.none]}:=by heap_get
 have t1:Looks (MM g) ((h.push {cls:=.type "tuple",data:=.seq rest.toArray}).push {cls:=.ref g.st,data:=.fields #[.ref h.objs.size,.none,.none,.none,.bool false,.none]}) (typeOf (.ref (h.objs.size+1))) (.ref g.st):=(Looks.ld hx).andThen .now
 have N8:=k _ _ hC
 have N9:(Value.ref g.st::mT).contains (.ref g.st)=true:=by simp
 unfold FY
 repeat (first |with_reducible refine xV hx ?_ | (with_reducible refine N_ N8 ?_;rw[N9])|wp_step)
 show wpAny _ _ (isSubtype (.ref g.st) (.ref g.st)) _ _ _
 refine N_ N8 ?_
 rw[N9]
 repeat (first |with_reducible refine xV hx ?_ |wp_step)
 show wpAny _ _ (typeLookup (.ref g.st) _) _ _ _
 refine((xT (M:=MM g) X O.init.1).keeps k).here ?_
 refine gY (Δ (((bind_fn (M:=MM g) X (.ref (h.objs.size+1)) O.init.2).keeps k).here ?_))
 refine Δ (wpAny_call (codeAny_mono hq λ r s' z=>?_))
 rcases r with e | (v |_ |_ |_) <;> first |exact z |exact z.elim |skip
 obtain⟨rfl,z⟩:=z
 wp_walk
 exact z
end
theorem cy.Gq(O:bw g->rU g fI)
  (h:∀x,H x=none->cy g k (.ref fI) [.ref x,v] (ξ H x (.gW g.st none)) (λ w H'=>w=.none/\Q (.ref x) H') X):cy g (k+1) (.ref g.st) [v] H Q X:=by
 intro A Yd raw aO hA;obtain⟨hh,gs,dr,t,os⟩:=Yd
 obtain⟨v',rfl,hv⟩:∃a,raw=[a]/\nv a=v:=by
  rcases raw with _ |⟨a,_ |⟨b,r⟩⟩ <;> simp at aO
  exact⟨a,rfl,aO⟩
 have hK:=hA.dZ
 refine Mine.Gq hK (O hA.ok) (by show 1<=2 ^ 24;decide) ?_
 let ot:Obj:={cls:=.type "tuple",data:=.seq [v'].toArray}
 let oe:Obj:={cls:=.ref g.st,data:=.fields #[.ref hh.objs.size,.none,.none,.none,.bool false,.none]}
 have y1:=hA.shift (bh.push (g:=g) (H:=H) (λ a ao e=>(hA.sim a ao e).get) ot) t
 have n1:=y1.dI
 have sz:(hh.push ot).objs.size=hh.objs.size+1:=xA ..
 have y2:=y1.new (o:=oe) (ao:=.gW g.st none) ⟨hh.objs.size,fZ _ rfl⟩ t
 have g1:Go none H hh H (hh.push ot):=Go.push ot
 have g2:=Go.new (L:=none) (o:=oe) (ao:=.gW g.st none) (s:=hh.push ot) n1
 dsimp only at n1 y2 g2
 rw[sz]at n1 y2 g2
 refine codeAny_mono (h _ n1 _ _ [.ref (hh.objs.size+1),v'] (by simp[hv]) (y2.inner (aU (NR A g.st [v'])) (NS A _) (vf A _) (NU A _))) λ r s' z=>?_
 rcases r with e | (_ |_ |_ |w)
 ·obtain⟨H',v,a,b,c,d⟩:=z
  exact⟨H',v,hA.outer (vf A _) a,(g1.trans g2).trans b,c.weaken (λ a o e=>⟨o,ez _ (ez _ e)⟩),d⟩
 ·exact z
 ·exact z
 ·exact z
 ·obtain⟨H',a,b,c,d⟩:=z
  exact⟨rI c,H',hA.outer (vf A _) a,(g1.trans g2).trans b,d⟩
section
variable {C N:Addr}{sub:List Value}
theorem Ye(Yg:bm.contains (.type "BaseException")=true)(hh:A.handled=none)
  (h:wpAny M A x (λ v s₁=>∃(e t:Addr) (od:Option Addr),v=.ref e/\s₁.heap.get? C=some (excClassObj nm q C N bs bm hdct sn sub ab col dd k0 k1 k2 k3 k5 newId)/\
   s₁.heap.get? e=some {cls:=.ref C,dict:=od,data:=.fields #[.ref t,.none,.none,.none,.bool false,.none]}/\E (.ref e) s₁) E s):
  wpAny M A (raiseStmt env (some x) none) Q E s:=by
 have Yh:(Value.ref C::bm).contains (.type "BaseException")=true:=by rw[List.contains_cons,Yg,Bool.or_true]
 unfold raiseStmt
 refine Δ (cD h (λ v s₁ h₁=>?_) λ _ _ x=>x)
 refine Ei h₁ λ e t od Gs hC he hE=>?_;clear h₁;subst Gs
 obtain⟨hp,g,d,tk,os⟩:=s₁
 repeat (first |with_reducible refine xV he ?_ |with_reducible refine xV hC ?_ | (with_reducible refine N_ hC ?_;rw[Yh])|wp_step)
 exact wpAny_raiseNew_none hh hE
end
theorem At.xW(x:At g c A m (ξ H a ao) s)(n:H a=none):At g c A m H s:=
 {ok:=x.ok,old:=x.old
  sim:=λ b o e=>x.sim b o (by rw[Γ (λ z=>by rw[z,n]at e;exact nN e)];exact e)
  low:=λ b o e=>x.low b o (by rw[Γ (λ z=>by rw[z,n]at e;exact nN e)];exact e)
  depth:=x.depth,units:=x.units,hand:=x.hand
  frames:=by
   obtain⟨fs,h1,h2⟩:=x.frames
   refine⟨fs,h1,λ env he=>?_⟩
   obtain⟨k1,L,o',k2,k3,k4,k5,k6⟩:=h2 env he
   have:L≠a:=λ z=>by rw[z,ah]at k5;exact nS k5
   exact⟨k1,L,o',k2,k3,k4,by rw[Γ this]at k5;exact k5,k6⟩
  os:=x.os,gens:=x.gens,size:=x.size,aY:=x.aY,ns:=x.ns
  off:=by
   have h:=x.off
   have:c.env.locals≠a:=λ z=>by rw[z,ah]at h;exact nS h
   rw[Γ this]at h;exact h
  c9:=x.c9,head:=x.head}
theorem Go.xW(G:Go L bE fm (ξ H a ao) h)(n:H a=none)(Gu:bE a=none):Go L bE fm H h where
 old b o q e1 e2:=by
  refine iS (G.old b o q e1 e2) λ b1 sl b2=>?_
  have:b≠a:=λ z=>by rw[z,ah]at b1;exact nS b1
  rw[Γ this]at b1
  exact⟨b1,sl,b2⟩
 cW b o e z:=by
  have:b≠a:=λ q=>by rw[q,Gu]at e;exact nN e
  have h:=G.cW b o e z
  rw[Γ this]at h;exact h
 aM b es e:=by
  have:b≠a:=λ q=>by rw[q,Gu]at e;exact nN e
  have h:=G.aM b es e
  rw[Γ this]at h;exact h
 fk b e:=by
  have:b≠a:=λ q=>by rw[q,Gu]at e;exact e rfl
  have h:=G.fk b e
  rw[Γ this]at h;exact h
theorem Oa(x:At g c A m H s)(G:Go (some c.env.locals) H s.heap H' h')(n:H a=none)(t:H' a≠none)(ne:a≠c.env.locals):s.heap.get? a=none:=by
 cases e:s.heap.get? a with
 |none=>rfl
 |some o=>exact absurd (G.old a o (λ z=>ne (bY z).symm) n e).1 t
theorem Yi(hs:ey n c.sc ss [.mH e])(hd:c.hd=none)(O:bw g->rU g fI)
  (h:V g c e m H (λ w ρ H₁=>∃x d,H x=none/\H d=none/\d≠x/\w=.ref x/\H₁=ξ (ξ H d (.ai false [(cA,v)])) x (.gW g.st (some d))/\X v ρ H) X):
  ∀A s,At g c A m H s->wpAny (MM g) A (execs ss c.env) (fF g c A H s Q) (λ e s'=>cO g c A H s X e s'\/Fe g c A H s X e s') s:=by
 intro A s hA
 refine dG (ey.cons hs) λ st l' Yj h1 h2=>?_;refine Yj.symm▸?_
 refine nR (Ww h1) λ n' x' p Yk h3=>?_;refine Yk.symm▸?_
 refine EJ ?_
 rw[arm_exec_Raise]
 refine Δ (l5 ?_)
 obtain⟨nm,q,NN,bs,sn,sub,ab,col,dd,k0,k1,k2,k3,k5,hl⟩:=(O hA.ok).cls
 refine Ye (C:=g.st) (bm:=mT) (nm:=nm) (q:=q) (N:=NN) (bs:=bs) (hdct:=true) (sn:=sn) (sub:=sub) (ab:=ab) (col:=col) (dd:=dd) (k0:=k0) (k1:=k1) (k2:=k2) (k3:=k3) (k5:=k5) (newId:="Exception.__new__") rfl (hA.hand.trans hd) ?_
 refine Δ (ve hA hA Go.refl (h n' x' h3) (λ e s' z=>.inl z) λ w s₁ ρ H₁ a1 a2 a3=>Δ (l5 (aL ?_)))
 obtain⟨x,d,n1,n2,n3,hw,rfl,hX⟩:=a3
 obtain rfl:=a8 hw
 have gd:ξ (ξ H d (.ai false [(cA,v)])) x (.gW g.st (some d)) d=some (.ai false [(cA,v)]):=by rw[Γ n3,ah]
 refine Θ (a1.sim x _ ah) λ t hx=>?_
 have nx:x≠c.env.locals:=λ z=>by have:=a1.off;rw[<- z,ah]at this;exact nS this
 have nd:d≠c.env.locals:=λ z=>by have:=a1.off;rw[<- z,gd]at this;exact nS this
 have m1:ξ H d (.ai false [(cA,v)]) x=none:=by rw[Γ (cP n3)];exact n1
 exact⟨x,t,some d,rfl,a1.toaC.dZ _ _ hl,hx,.inr ⟨ρ,H,v,x,d,rfl,((a1.xW m1).xW n2),((a2.xW m1 n1).xW n2 n2),⟨⟨_,_,hx,rfl,rfl,rfl,rfl⟩,(a1.sim d _ gd),⟨n1,n2⟩,⟨(a1.low x _ ah),(a1.low d _ gd)⟩⟩,(Oa hA a2 n1 (by rw[ah];simp) nx),(Oa hA a2 n2 (by rw[gd];simp) nd),hX⟩⟩
theorem Yl(a:Addr):bindSpecial (.builtin "BaseException.__getattribute__") (.ref a)=pure (.builtin "BaseException.__getattribute__",[.ref a]):=by kernel_rfl
theorem Ym:plainId "BaseException.__getattribute__"=true:=by decide +kernel
theorem c_.Yn(hx:H x=some (.exc g.st d))(hd:H d=some (.ai z es))(hi:i<NT.length)(e:es.lookup i=some v)(hv:cT v=true)
  (O:bw g->rU g fI) (hC:bw g->(clsIn g.K g.st).any (·.hasDict)=true/\dc g.K (.ref g.st) "__getattribute__"=some (some (.builtin "BaseException.__getattribute__"))/\dc g.K (.ref g.st) "__getattr__"=some none/\dc g.K (.ref g.st) (N i)=some none) (q:Q v m H):
  c_ g c (λ w=>lh w (N i) ex) (.ref x) m H Q X:=by
 intro a' ha A Yo hA;obtain⟨hh,gs,dr,tk,os⟩:=Yo
 obtain rfl:=a8 ha
 refine Eh (hA.sim _ _ hx) λ o vs k1 k2 k3 k4=>?_
 refine xh (cX.ns (hA.sim d _ hd)) λ od ents n mm q1 q2 q3 q4 q5=>?_
 have I1:InstAt hh x o g.st (some od):=⟨k1,k2,by delta notCls;rw[k3],by rw[k4];exact q1⟩
 refine kY (hC hA.ok) λ c1 c2 c3 c4=>?_
 have d8:=q5 i hi
 rw[e]at d8
 refine ψ (Option.map_eq_some_iff.mp d8) λ v' p1 Yp=>?_;subst Yp
 have hl:lookIn (N i) od=some (mm (N i)):=Fi q2 q3 q4
 rw[p1]at hl
 have hK:g.K.In hh:=hA.toaC.dZ
 delta lh getAttrBy
 refine Δ (wpAny_mkText (gY (Δ ((I1.type (M:=MM g)).at (Δ ((xT (M:=MM g) hK c2).at ?_))))))
 dsimp only
 rw[show(onTheHeap (Value.ref g.st)&&Value.builtin "BaseException.__getattribute__" == Value.builtin "object.__getattribute__")=false from by
  have:(Value.builtin "BaseException.__getattribute__" == Value.builtin "object.__getattribute__")=false:=by decide +kernel
  rw[this];rfl]
 rw[if_neg (by decide)]
 delta getAttrByItsOwn hookBefore
 rw[show onTheHeap (Value.ref g.st)=true from rfl,if_pos rfl]
 refine Δ ((xT (M:=MM g) hK c3).at (Δ (wpAny_attempt (gY ?_))))
 delta callGetattribute
 rw[show(ex&&onTheHeap (Value.builtin "BaseException.__getattribute__"))=false by cases ex <;> rfl,if_neg (by decide)]
 delta boundAndCalled
 rw[Yl]
 refine Δ (aL ?_)
 obtain⟨nm,qn,NN,bs,sn,sub,ab,col,dd,k0,k1',k2',k3',k5,Yq⟩:=(O hA.ok).cls
 have ly:clsIn g.K g.st=some {name:=nm,bases:=bs,mro:=.ref g.st::mT,ns:=NN,qualname:=qn,hasDict:=true,slotNames:=sn,subclasses:=sub,abstract:=ab,collection:=col,hasDel:=false}:=by
  delta clsIn;rw[Yq]
 have Gp:Looks (MM g) hh (FY (.ref x) (.type "BaseException")) true:=I1.type.andThen (looks_mroIn hK (by delta mroIn;rw[ly,xN];rfl))
 have hk:builtinKind "BaseException.__getattribute__"=some .slot:=by decide +kernel
 have Yr:splitId "BaseException.__getattribute__"=some ("BaseException","__getattribute__"):=by decide +kernel
 refine wpAny_call (NW Ym F.entry_bexc_ga (@check_slot (MM g) _ _ ⟨hh,gs,dr,tk+1,os⟩ "BaseException.__getattribute__" "BaseException" "__getattribute__" (.ref x) [.str (N i) tk] [] _ hk Yr Gp (F.args_bexc_ga (.ref x) (.str (N i) tk)) ?_))
 unfold Builtin.«object.__getattribute__»
 refine Δ (aL (Δ (aL (Δ ((I1.type (M:=MM g)).at (Δ ((looks_find (M:=MM g) hK I1 (Fo c1 c4 hl)).at ?_)))))))
 refine aL ?_
 show wpAny _ _ (handedOut v') _ _ _
 rw[handedOut_of (Fl hv)]
 exact aL (gX hA _ q)
noncomputable def zzy:=0 where
 Ys:List PS:=[.aK (.θ 0) 1 (.θ 1),.aK (.θ 0) 2 (.θ 2),.aK (.θ 0) 3 (.θ 3),.aK (.θ 0) 4 (.θ 4),.aK (.θ 0) 5 (.θ 5),.aK (.θ 0) 6 (.int 0)]
 Yt:List PS:=[.ret (.call 7 [.θ 1,.θ 2,.κ [],.int 0,.θ 5])]
 Yu:List PS:=[.ret (.call 7 [.θ 1,.θ 2,.θ 3,.int 0,.θ 5])]
 Yv:List PS:=[.Φ 12 (.κ []),.Φ 13 (.κ [.θ 11]),.fV (.θ 13) [.Φ 14 (.au (.θ 13) 15 []),.expr (.au (.θ 12) 16 [.θ 14]),.Φ 5 (.bin .Sub (.call 17 [.π (.θ 14) 3]) (.int 1)),.fV (.υ (.θ 5) .GtE (.int 0)) [.Φ 18 (.sub (.π (.θ 14) 3) (.θ 5)),.iff (.υ (.θ 18) .IsNot .az) [.expr (.au (.θ 13) 16 [.θ 18])] [],.aug 5 .Sub (.int 1)]],.ret (.θ 12)]
 Yw:List PS:=[.Φ 21 (.θ 20),.fj 14 (.call 19 [.θ 11]) [.aK (.θ 14) 6 (.θ 21),.aug 21 .Add (.int 1)],.ret (.θ 21)]
 Yx:List PS:=[.Φ 12 (.κ []),.Φ 13 (.κ [.θ 23]),.fV (.θ 13) [.Φ 14 (.au (.θ 13) 15 []),.fV (.bor (.υ (.π (.θ 14) 1) .Eq (.ς 24)) (.υ (.π (.θ 14) 1) .Eq (.ς 25))) [.Φ 14 (.sub (.π (.θ 14) 3) (.int 0))],.iff (.υ (.π (.θ 14) 1) .Eq (.ς 26)) [.expr (.au (.θ 12) 16 [.θ 14])] [.iff (.υ (.π (.θ 14) 1) .Eq (.ς 27)) [.expr (.au (.θ 13) 16 [.sub (.π (.θ 14) 3) (.int 0)])] [.iff (.υ (.π (.θ 14) 1) .In (.φ [.ς 28,.ς 29])) [.Φ 5 (.bin .Sub (.call 17 [.π (.θ 14) 3]) (.int 1)),.fV (.υ (.θ 5) .GtE (.int 0)) [.iff (.υ (.sub (.π (.θ 14) 3) (.θ 5)) .IsNot .az) [.expr (.au (.θ 13) 16 [.sub (.π (.θ 14) 3) (.θ 5)])] [],.aug 5 .Sub (.int 1)]] []]]],.ret (.θ 12)]
 Yy:List PS:=[.aK (.θ 0) 21 (.θ 21),.aK (.θ 0) 31 (.θ 31),.aK (.θ 0) 33 (.κ []),.aK (.θ 0) 34 .gG,.aK (.θ 0) 35 .gG,.aK (.θ 0) 36 .gG,.aK (.θ 0) 32 (.θ 32),.aK (.θ 0) 37 (.κ []),.aK (.θ 0) 38 .az,.aK (.θ 0) 39 (.int 0),.aK (.θ 0) 40 (.int 0),.aK (.θ 0) 41 (.neg (.int 1))]
 Yz:List PS:=[.aK (.θ 0) 43 (.κ []),.aK (.θ 0) 44 .gG]
 YA:List PS:=[.aK (.θ 0) 47 .gG,.aK (.θ 0) 46 (.θ 46)]
 YB:List PS:=[.ret (.φ [.ς 49,.int 0])]
 YC:List PS:=[.ret (.φ [.ς 52,.θ 51])]
 YD:List PS:=[.iff (.bor (.υ (.θ 54) .Gt (.ς 55)) (.υ (.θ 54) .Lt (.bin .Sub (.int 0) (.ς 55)))) [.mH (.call 56 [.str ⟨⟨[116,104,101,32,110,117,109,98,101,114,32,105,115,32,116,111,111,32,108,97,114,103,101]⟩⟩])] [],.ret (.φ [.ς 57,.θ 54])]
 YE:List PS:=[.Φ 60 (.call 42 [.call 17 [.π (.θ 59) 43],.θ 31,.θ 32]),.expr (.au (.π (.θ 59) 43) 16 [.θ 60]),.ret (.θ 60)]
 YF:List PS:=[.iff (.bor (.υ (.θ 62) .Eq (.str ⟨⟨[]⟩⟩)) (.υ (.call 17 [.θ 62]) .Gt (.int 10))) [.ret (.neg (.int 1))] [],.fj 63 (.θ 62) [.iff (.υ (.θ 63) .NotIn (.str ⟨⟨[48,49,50,51,52,53,54,55,56,57]⟩⟩)) [.ret (.neg (.int 1))] []],.iff (.band (.υ (.sub (.θ 62) (.int 0)) .Eq (.str ⟨⟨[48]⟩⟩)) (.υ (.θ 62) .NotEq (.str ⟨⟨[48]⟩⟩))) [.ret (.neg (.int 1))] [],.Φ 64 (.call 65 [.θ 62]),.ret (.bG (.υ (.θ 64) .LtE (.ς 66)) (.θ 64) (.neg (.int 1)))]
 YG:List PS:=[.iff (.υ (.θ 62) .Eq (.str ⟨⟨[108,101,110,103,116,104]⟩⟩)) [.ret (.φ [.int 1,.φ [.ς 57,.call 17 [.θ 51]]])] [],.Φ 64 (.call 67 [.θ 62]),.iff (.nW (.int 0) .LtE (.θ 64) .Lt (.call 17 [.θ 51])) [.ret (.φ [.int 1,.φ [.ς 52,.sub (.θ 51) (.θ 64)]])] [],.ret (.φ [.int 0,.φ [.ς 49,.int 0]])]
 YH:List PS:=[.ret (.mE (.υ (.θ 62) .In (.π (.θ 60) 34)) (.υ (.θ 62) .In (.π (.θ 60) 35)) (.υ (.θ 62) .In (.π (.θ 60) 36)))]
 YI:List PS:=[.iff (.υ (.sub (.θ 70) (.int 0)) .Eq (.ς 52)) [.lX 71 72 (.call 68 [.sub (.θ 70) (.int 1),.θ 62]),.ret (.φ [.θ 71,.θ 72,.φ [.ς 49,.int 0]])] [],.iff (.υ (.sub (.θ 70) (.int 0)) .NotEq (.ς 73)) [.ret (.φ [.int 0,.φ [.ς 49,.int 0],.φ [.ς 49,.int 0]])] [],.Φ 21 (.sub (.θ 70) (.int 1)),.fV (.υ (.θ 21) .GtE (.int 0)) [.Φ 60 (.sub (.π (.θ 59) 43) (.θ 21)),.Φ 74 (.call 75 [.θ 60,.θ 62]),.iff (.sub (.θ 74) (.int 0)) [.ret (.θ 74)] [],.Φ 21 (.π (.θ 60) 32)],.ret (.φ [.int 0,.φ [.ς 49,.int 0],.φ [.ς 49,.int 0]])]
 YJ:List PS:=[.Φ 60 (.sub (.π (.θ 59) 43) (.θ 21)),.iff (.υ (.π (.θ 60) 31) .Eq (.ς 77)) [.iff (.υ (.θ 62) .Eq (.str ⟨⟨[108,101,110,103,116,104]⟩⟩)) [.expr (.call 78 [.θ 60,.θ 70]),.dN] [],.Φ 64 (.call 67 [.θ 62]),.iff (.υ (.θ 64) .GtE (.int 0)) [.expr (.call 79 [.θ 60,.θ 64,.θ 70]),.dN] []] [],.iff (.not (.call 69 [.θ 60,.θ 62])) [.expr (.au (.π (.θ 60) 33) 16 [.θ 62])] [],.iff (.υ (.θ 62) .In (.π (.θ 60) 35)) [.z_ (.π (.θ 60) 35) (.θ 62)] [],.iff (.υ (.θ 62) .In (.π (.θ 60) 36)) [.z_ (.π (.θ 60) 36) (.θ 62)] [],.bR (.π (.θ 60) 34) (.θ 62) (.θ 70)]
 YK:List PS:=[.Φ 60 (.sub (.π (.θ 59) 43) (.θ 21)),.iff (.υ (.θ 62) .In (.π (.θ 60) 33)) [.expr (.au (.π (.θ 60) 33) 81 [.θ 62])] []]
 YL:List PS:=[.iff (.bor (.υ (.sub (.θ 70) (.int 0)) .Eq (.ς 83)) (.υ (.sub (.θ 70) (.int 0)) .Eq (.ς 57))) [.ret (.υ (.sub (.θ 70) (.int 1)) .NotEq (.int 0))] [],.iff (.υ (.sub (.θ 70) (.int 0)) .Eq (.ς 52)) [.ret (.υ (.sub (.θ 70) (.int 1)) .NotEq (.str ⟨⟨[]⟩⟩))] [],.ret (.υ (.sub (.θ 70) (.int 0)) .Eq (.ς 73))]
 YM:List PS:=[.iff (.bor (.υ (.sub (.θ 2) (.int 0)) .NotEq (.sub (.θ 85) (.int 0))) (.υ (.sub (.θ 2) (.int 0)) .Eq (.ς 86))) [.ret (.kp false)] [],.ret (.υ (.sub (.θ 2) (.int 1)) .Eq (.sub (.θ 85) (.int 1)))]
 YN:List PS:=[.Φ 60 (.call 61 [.θ 59,.ς 89,.θ 32]),.expr (.call 80 [.θ 59,.π (.θ 60) 21,.str ⟨⟨[109,101,115,115,97,103,101]⟩⟩,.φ [.ς 52,.θ 88]]),.expr (.call 82 [.θ 59,.π (.θ 60) 21,.str ⟨⟨[109,101,115,115,97,103,101]⟩⟩]),.ret (.φ [.ς 73,.π (.θ 60) 21])]
 YO:List PS:=[.aK (.θ 0) 72 (.θ 72)]
 YP:List PS:=[.aK (.θ 0) 92 (.κ [])]
 YQ:List PS:=[.expr (.au (.π (.θ 0) 92) 16 [.φ [.θ 6,.θ 72]])]
 YR:List PS:=[.aK (.θ 0) 59 (.call 45 []),.aK (.θ 0) 97 .gG,.aK (.θ 0) 98 .gG,.aK (.θ 0) 99 (.int 0),.aK (.θ 0) 100 (.θ 96),.aK (.θ 0) 101 (.int 0),.aK (.θ 0) 102 (.ς 103),.aK (.θ 0) 12 (.κ []),.aK (.θ 0) 104 .az,.aK (.θ 0) 105 .az,.aK (.θ 0) 106 (.call 50 []),.aK (.θ 0) 41 (.neg (.int 1)),.aK (.θ 0) 107 (.κ []),.aK (.θ 0) 108 (.call 109 []),.aK (.θ 0) 110 .gG,.aK (.θ 0) 111 .gG,.aK (.θ 0) 112 (.call 113 []),.aK (.θ 0) 114 (.call 115 []),.aK (.θ 0) 116 (.call 117 []),.aK (.θ 0) 118 .az]
 YS:List PS:=[.ret (.call 120 [.θ 0,.θ 14])]
 YT:List PS:=[.ret (.call 121 [.θ 0,.θ 14])]
 YU:List PS:=[.mH (.call 91 [.θ 72])]
 YV:List PS:=[.expr (.call 124 [.θ 0,.θ 38,.θ 6,.θ 51])]
 YW:List PS:=[.expr (.au (.π (.θ 0) 108) 95 [.θ 0,.θ 6,.θ 72])]
 YX:List PS:=[.ku (.θ 94) 99 .Add (.int 1),.iff (.υ (.π (.θ 94) 99) .Gt (.π (.θ 94) 100)) [.mH (.call 126 [.str ⟨⟨[115,116,101,112,115]⟩⟩])] [],.iff (.υ (.π (.θ 94) 101) .GtE (.π (.θ 94) 102)) [.mH (.call 126 [.str ⟨⟨[100,101,101,112]⟩⟩])] []]
 YY:List PS:=[.Φ 128 (.au (.π (.θ 94) 97) 129 [.π (.θ 14) 1]),.iff (.υ (.θ 128) .Is .az) [.mH (.call 130 [.bin .Add (.str ⟨⟨[101,120,112,114,101,115,115,105,111,110,32]⟩⟩) (.call 131 [.π (.θ 14) 1])])] [],.expr (.call 127 [.θ 94]),.ku (.θ 94) 101 .Add (.int 1),.jj [.Φ 70 (.au (.θ 128) 72 [.θ 94,.θ 14])] [.ku (.θ 94) 101 .Sub (.int 1)],.iff (.bor (.υ (.π (.θ 14) 1) .Eq (.ς 26)) (.υ (.π (.θ 14) 1) .Eq (.ς 132))) [.expr (.au (.θ 94) 95 [.π (.θ 14) 6,.θ 70])] [],.ret (.θ 70)]
 YZ:List PS:=[.Φ 128 (.au (.π (.θ 94) 98) 129 [.π (.θ 14) 1]),.iff (.υ (.θ 128) .Is .az) [.mH (.call 130 [.bin .Add (.str ⟨⟨[115,116,97,116,101,109,101,110,116,32]⟩⟩) (.call 131 [.π (.θ 14) 1])])] [],.expr (.call 127 [.θ 94]),.ku (.θ 94) 101 .Add (.int 1),.jj [.Φ 133 (.au (.θ 128) 122 [.θ 94,.θ 14])] [.ku (.θ 94) 101 .Sub (.int 1)],.ret (.θ 133)]
 Y0:List PS:=[.expr (.au (.π (.θ 94) 107) 16 [.φ [.θ 38,.θ 6]]),.expr (.au (.θ 94) 123 [.call 90 [.π (.θ 94) 59,.au (.π (.θ 94) 110) 129 [.ς 134,.neg (.int 1)],.θ 51]])]
 Y1:List PS:=[.ret (.au (.au (.θ 0) 64 [.θ 94,.θ 14]) 135 [.θ 94,.π (.θ 14) 6])]
 Y2:List PS:=[.ret (.call 53 [.π (.θ 14) 2])]
 Y3:List PS:=[.ret (.call 58 [.π (.θ 14) 2])]
 Y4:List PS:=[.iff (.υ (.π (.θ 14) 1) .Eq (.ς 139)) [.ret (.call 50 [])] [],.ret (.bG (.υ (.π (.θ 14) 1) .Eq (.ς 140)) (.φ [.ς 141,.int 0]) (.φ [.ς 83,.bG (.υ (.π (.θ 14) 1) .Eq (.ς 142)) (.int 1) (.int 0)]))]
 Y5:List PS:=[.Φ 104 (.π (.θ 94) 104),.fV (.υ (.θ 104) .IsNot .az) [.iff (.υ (.θ 62) .In (.π (.θ 104) 47)) [.ret (.sub (.π (.θ 104) 47) (.θ 62))] [],.Φ 104 (.π (.θ 104) 46)],.iff (.band (.υ (.π (.θ 94) 105) .IsNot .az) (.υ (.θ 62) .In (.π (.π (.θ 94) 105) 47))) [.ret (.sub (.π (.π (.θ 94) 105) 47) (.θ 62))] [],.ret .az]
 Y6:List PS:=[.Φ 145 (.call 144 [.θ 94,.θ 62]),.iff (.υ (.θ 145) .Is .az) [.iff (.υ (.θ 62) .Eq (.str ⟨⟨[78,97,78]⟩⟩)) [.ret (.φ [.ς 86,.int 0])] [],.expr (.au (.θ 94) 125 [.ς 146,.θ 6,.bin .Add (.θ 62) (.str ⟨⟨[32,105,115,32,110,111,116,32,116,104,101,114,101]⟩⟩)])] [],.iff (.υ (.sub (.θ 145) (.int 1)) .Eq (.ς 147)) [.expr (.au (.θ 94) 125 [.ς 146,.θ 6,.bin .Add (.θ 62) (.str ⟨⟨[32,105,115,32,114,101,97,100,32,98,101,102,111,114,101,32,105,116,115,32,100,101,99,108,97,114,97,116,105,111,110]⟩⟩)])] [],.ret (.sub (.θ 145) (.int 0))]
 Y7:List PS:=[.aK (.θ 0) 62 (.θ 62)]
 Y8:List PS:=[.ret (.call 148 [.θ 94,.π (.θ 0) 62,.θ 6])]
 Y9:List PS:=[.ret (.call 149 [.π (.θ 14) 2])]
 Y_:List PS:=[.iff (.υ (.sub (.θ 70) (.int 0)) .Eq (.ς 52)) [.ret (.comp (.call 53 [.θ 63]) 63 (.sub (.θ 70) (.int 1)) [])] [],.iff (.bor (.υ (.sub (.θ 70) (.int 0)) .NotEq (.ς 73)) (.υ (.π (.sub (.π (.π (.θ 94) 59) 43) (.sub (.θ 70) (.int 1))) 31) .NotEq (.ς 77))) [.expr (.au (.θ 94) 125 [.ς 152,.θ 6,.str ⟨⟨[116,104,105,115,32,99,97,110,39,116,32,98,101,32,103,111,110,101,32,116,104,114,111,117,103,104]⟩⟩])] [],.ret (.comp (.θ 153) 153 (.π (.sub (.π (.π (.θ 94) 59) 43) (.sub (.θ 70) (.int 1))) 37) [])]
 Za:List PS:=[.bR (.π (.θ 94) 97) (.ς 156) (.call 138 []),.bR (.π (.θ 94) 97) (.ς 157) (.call 137 []),.fj 1 (.φ [.ς 142,.ς 158,.ς 140,.ς 139]) [.bR (.π (.θ 94) 97) (.θ 1) (.call 143 [])],.bR (.π (.θ 94) 97) (.ς 24) (.call 159 [])]
 Zb:List PS:=[.bR (.π (.θ 94) 97) (.ς 26) (.call 150 []),.bR (.π (.θ 94) 97) (.ς 161) (.call 162 [])]
 Zc:List PS:=[.dN]
 Zd:List PS:=[.fj 14 (.θ 98) [.Φ 128 (.au (.π (.θ 94) 98) 129 [.π (.θ 14) 1]),.iff (.υ (.θ 128) .IsNot .az) [.expr (.au (.θ 128) 165 [.θ 94,.θ 14])] []]]
 Ze:List PS:=[.fj 14 (.θ 98) [.Φ 133 (.au (.θ 94) 122 [.θ 14]),.iff (.υ (.sub (.θ 133) (.int 0)) .NotEq (.ς 167)) [.ret (.θ 133)] []],.ret (.ς 168)]
 Zf:List PS:=[.Φ 170 (.π (.θ 94) 104),.aK (.θ 94) 104 (.call 48 [.θ 170]),.jj [.expr (.call 166 [.θ 94,.θ 98]),.ret (.call 169 [.θ 94,.θ 98])] [.aK (.θ 94) 104 (.θ 170)]]
 Zg:List PS:=[.expr (.au (.θ 94) 72 [.sub (.π (.θ 14) 3) (.int 0)]),.ret (.ς 168)]
 Zh:List PS:=[.ret (.call 171 [.θ 94,.π (.θ 14) 3])]
 Zi:List PS:=[.iff (.call 84 [.au (.θ 94) 72 [.sub (.π (.θ 14) 3) (.int 0)]]) [.ret (.au (.θ 94) 122 [.sub (.π (.θ 14) 3) (.int 1)])] [],.iff (.υ (.sub (.π (.θ 14) 3) (.int 2)) .IsNot .az) [.ret (.au (.θ 94) 122 [.sub (.π (.θ 14) 3) (.int 2)])] [],.ret (.ς 168)]
 Zj:List PS:=[.bR (.π (.θ 94) 98) (.ς 175) (.call 172 []),.bR (.π (.θ 94) 98) (.ς 176) (.call 173 []),.bR (.π (.θ 94) 98) (.ς 177) (.call 164 []),.bR (.π (.θ 94) 98) (.ς 178) (.call 174 [])]
 Zk:List PS:=[.bR (.π (.π (.θ 94) 104) 47) (.θ 62) (.κ [.call 50 [],.ς 147])]
 Zl:List PS:=[.Φ 145 (.au (.π (.π (.θ 94) 104) 47) 129 [.π (.θ 14) 2]),.iff (.υ (.θ 145) .Is .az) [.bR (.π (.π (.θ 94) 104) 47) (.π (.θ 14) 2) (.κ [.θ 70,.θ 181])] [.bR (.θ 145) (.int 0) (.θ 70),.bR (.θ 145) (.int 1) (.θ 181)],.expr (.au (.θ 94) 95 [.π (.θ 14) 6,.θ 70])]
 Zm:List PS:=[.iff (.υ (.π (.θ 23) 1) .NotEq (.ς 26)) [.expr (.au (.π (.θ 94) 112) 184 [.θ 94,.θ 23,.θ 70,.call 185 [.θ 183]])] [.iff (.υ (.θ 183) .Eq (.str ⟨⟨[118,97,114]⟩⟩)) [.expr (.call 186 [.θ 94,.θ 23,.θ 70])] [.expr (.call 182 [.θ 94,.θ 23,.θ 70,.call 185 [.θ 183]])]]]
 Zn:List PS:=[.iff (.υ (.θ 183) .Eq (.str ⟨⟨[99,111,110,115,116]⟩⟩)) [.ret (.ς 188)] [],.ret (.bG (.υ (.θ 183) .Eq (.str ⟨⟨[108,101,116]⟩⟩)) (.ς 189) (.neg (.int 1)))]
 Zo:List PS:=[.iff (.υ (.π (.θ 14) 2) .NotEq (.str ⟨⟨[118,97,114]⟩⟩)) [.fj 190 (.π (.θ 14) 3) [.fj 62 (.call 30 [.sub (.π (.θ 190) 3) (.int 0)]) [.expr (.call 180 [.θ 94,.π (.θ 62) 2])]]] []]
 Zp:List PS:=[.iff (.υ (.sub (.π (.θ 14) 3) (.int 0)) .Is .az) [.ret (.φ [.ς 192,.call 50 []])] [],.ret (.φ [.ς 192,.au (.θ 94) 72 [.sub (.π (.θ 14) 3) (.int 0)]])]
 Zq:List PS:=[.ret (.φ [.ς 194,.π (.θ 14) 2])]
 Zr:List PS:=[.ret (.φ [.ς 196,.π (.θ 14) 2])]
 Zs:List PS:=[.expr (.au (.θ 94) 123 [.au (.θ 94) 72 [.sub (.π (.θ 14) 3) (.int 0)]]),.ret (.ς 168)]
 Zt:List PS:=[.ret (.au (.θ 0) 199 [.θ 94,.θ 14,.φ []])]
 Zu:List PS:=[.Φ 201 (.κ []),.fV (.υ (.π (.θ 14) 1) .Eq (.ς 202)) [.expr (.au (.θ 201) 16 [.π (.θ 14) 2]),.Φ 14 (.sub (.π (.θ 14) 3) (.int 0))],.Φ 128 (.au (.π (.θ 94) 98) 129 [.π (.θ 14) 1]),.iff (.call 203 [.θ 128,.ς 200]) [.Φ 133 (.au (.θ 128) 199 [.θ 94,.θ 14,.θ 201])] [.Φ 133 (.au (.θ 94) 122 [.θ 14])],.iff (.band (.υ (.sub (.θ 133) (.int 0)) .Eq (.ς 194)) (.υ (.sub (.θ 133) (.int 1)) .In (.θ 201))) [.ret (.ς 168)] [],.ret (.θ 133)]
 Zv:List PS:=[.ret (.call 204 [.θ 94,.θ 14])]
 Zw:List PS:=[.bR (.π (.θ 94) 98) (.ς 206) (.call 193 []),.bR (.π (.θ 94) 98) (.ς 207) (.call 195 []),.bR (.π (.θ 94) 98) (.ς 208) (.call 197 []),.bR (.π (.θ 94) 98) (.ς 209) (.call 198 []),.bR (.π (.θ 94) 98) (.ς 202) (.call 205 [])]
 Zx:List PS:=[.iff (.υ (.sub (.θ 133) (.int 0)) .Eq (.ς 167)) [.ret (.ς 211)] [],.iff (.υ (.sub (.θ 133) (.int 0)) .Eq (.ς 192)) [.ret (.ς 212)] [],.iff (.band (.υ (.sub (.θ 133) (.int 1)) .NotEq (.str ⟨⟨[]⟩⟩)) (.υ (.sub (.θ 133) (.int 1)) .NotIn (.θ 201))) [.ret (.ς 212)] [],.ret (.bG (.υ (.sub (.θ 133) (.int 0)) .Eq (.ς 194)) (.ς 213) (.ς 211))]
 Zy:List PS:=[.fV (.kp true) [.Φ 133 (.au (.θ 94) 122 [.sub (.π (.θ 14) 3) (.int 0)]),.Φ 215 (.call 214 [.θ 133,.θ 201]),.iff (.υ (.θ 215) .NotEq (.ς 211)) [.ret (.bG (.υ (.θ 215) .Eq (.ς 212)) (.θ 133) (.ς 168))] [],.iff (.not (.call 84 [.au (.θ 94) 72 [.sub (.π (.θ 14) 3) (.int 1)]])) [.ret (.ς 168)] []]]
 Zz:List PS:=[.ret (.fU (.υ (.θ 14) .IsNot .az) (.υ (.π (.θ 14) 1) .Eq (.ς 217)) (.υ (.π (.θ 14) 2) .NotEq (.str ⟨⟨[118,97,114]⟩⟩)))]
 ZA:List PS:=[.Φ 170 (.π (.θ 94) 104),.aK (.θ 94) 104 (.call 48 [.θ 170]),.jj [.expr (.call 191 [.θ 94,.sub (.π (.θ 14) 3) (.int 0)]),.ret (.au (.θ 94) 72 [.sub (.π (.θ 14) 3) (.int 1)])] [.aK (.θ 94) 104 (.θ 170)]]
 ZC:List PS:=[.Φ 220 (.sub (.π (.θ 14) 3) (.int 0)),.iff (.call 218 [.θ 220]) [.aK (.θ 94) 104 (.call 48 [.θ 170]),.expr (.call 191 [.θ 94,.θ 220])] [],.expr (.call 187 [.θ 94,.π (.θ 220) 2,.sub (.π (.sub (.π (.θ 220) 3) (.int 0)) 3) (.int 0),.θ 70]),.ret (.au (.θ 94) 122 [.sub (.π (.θ 14) 3) (.int 2)])]
 ZD:List PS:=[.iff (.band (.υ (.sub (.θ 70) (.int 0)) .Eq (.ς 73)) (.υ (.π (.sub (.π (.π (.θ 94) 59) 43) (.sub (.θ 70) (.int 1))) 31) .Eq (.ς 77))) [.ret (.π (.sub (.π (.π (.θ 94) 59) 43) (.sub (.θ 70) (.int 1))) 37)] [],.ret (.call 155 [.θ 94,.θ 70,.θ 6])]
 ZE:List PS:=[.Φ 70 (.call 219 [.θ 94,.θ 14]),.Φ 170 (.π (.θ 94) 104),.Φ 64 (.int 0),.jj [.fV (.υ (.θ 64) .Lt (.call 17 [.call 222 [.θ 94,.θ 70,.π (.θ 14) 6]])) [.Φ 133 (.call 221 [.θ 94,.θ 14,.θ 170,.sub (.call 222 [.θ 94,.θ 70,.π (.θ 14) 6]) (.θ 64)]),.aK (.θ 94) 104 (.θ 170),.Φ 215 (.call 214 [.θ 133,.θ 201]),.iff (.υ (.θ 215) .NotEq (.ς 211)) [.ret (.bG (.υ (.θ 215) .Eq (.ς 212)) (.θ 133) (.ς 168))] [],.aug 64 .Add (.int 1)],.ret (.ς 168)] [.aK (.θ 94) 104 (.θ 170)]]
 ZF:List PS:=[.Φ 71 (.κ []),.Φ 224 (.call 225 [.au (.π (.θ 94) 110) 226 []]),.Φ 21 (.bG (.υ (.sub (.θ 70) (.int 0)) .Eq (.ς 73)) (.sub (.θ 70) (.int 1)) (.neg (.int 1))),.fV (.band (.υ (.θ 21) .GtE (.int 0)) (.υ (.θ 21) .NotIn (.θ 224))) [.fj 62 (.call 227 [.π (.θ 94) 59,.θ 21]) [.iff (.υ (.θ 62) .NotIn (.θ 71)) [.expr (.au (.θ 71) 16 [.θ 62])] []],.Φ 21 (.π (.sub (.π (.π (.θ 94) 59) 43) (.θ 21)) 32)],.iff (.υ (.sub (.θ 70) (.int 0)) .Eq (.ς 52)) [.Φ 71 (.comp (.call 131 [.θ 64]) 64 (.call 228 [.call 17 [.sub (.θ 70) (.int 1)]]) [])] [],.ret (.θ 71)]
 ZG:List PS:=[.ret (.υ (.sub (.call 76 [.π (.θ 94) 59,.θ 70,.θ 62]) (.int 0)) .Eq (.int 1))]
 ZH:List PS:=[.Φ 70 (.call 219 [.θ 94,.θ 14]),.Φ 170 (.π (.θ 94) 104),.jj [.fj 62 (.call 229 [.θ 94,.θ 70]) [.iff (.not (.call 230 [.θ 94,.θ 70,.θ 62])) [.cont] [],.Φ 133 (.call 221 [.θ 94,.θ 14,.θ 170,.call 53 [.θ 62]]),.aK (.θ 94) 104 (.θ 170),.Φ 215 (.call 214 [.θ 133,.θ 201]),.iff (.υ (.θ 215) .NotEq (.ς 211)) [.ret (.bG (.υ (.θ 215) .Eq (.ς 212)) (.θ 133) (.ς 168))] []],.ret (.ς 168)] [.aK (.θ 94) 104 (.θ 170)]]
 ZI:List PS:=[.ret (.call 216 [.θ 94,.θ 14,.θ 201])]
 ZJ:List PS:=[.ret (.call 223 [.θ 94,.θ 14,.θ 201])]
 ZK:List PS:=[.ret (.call 231 [.θ 94,.θ 14,.θ 201])]
 ZL:List PS:=[.bR (.π (.θ 94) 98) (.ς 235) (.call 236 []),.bR (.π (.θ 94) 98) (.ς 237) (.call 232 []),.bR (.π (.θ 94) 98) (.ς 238) (.call 239 []),.bR (.π (.θ 94) 98) (.ς 240) (.call 233 []),.bR (.π (.θ 94) 98) (.ς 241) (.call 234 [])]
 ZM:List PS:=[.Φ 244 (.neg (.int 1)),.fj 64 (.call 228 [.call 17 [.θ 243]]) [.Φ 245 (.sub (.π (.sub (.θ 243) (.θ 64)) 3) (.int 0)),.iff (.υ (.θ 245) .Is .az) [.Φ 244 (.θ 64)] [.iff (.call 87 [.θ 70,.au (.θ 94) 72 [.θ 245]]) [.ret (.θ 64)] []]],.ret (.θ 244)]
 ZN:List PS:=[.Φ 20 (.call 246 [.θ 94,.θ 70,.θ 243]),.iff (.υ (.θ 20) .Lt (.int 0)) [.ret (.ς 168)] [],.fj 247 (.dT (.θ 243) (some (.θ 20)) none none) [.Φ 133 (.call 169 [.θ 94,.dT (.π (.θ 247) 3) (some (.int 1)) none none]),.iff (.band (.υ (.sub (.θ 133) (.int 0)) .Eq (.ς 194)) (.υ (.sub (.θ 133) (.int 1)) .Eq (.str ⟨⟨[]⟩⟩))) [.ret (.ς 168)] [],.iff (.υ (.sub (.θ 133) (.int 0)) .NotEq (.ς 167)) [.ret (.θ 133)] []],.ret (.ς 168)]
 ZO:List PS:=[.Φ 70 (.au (.θ 94) 72 [.sub (.π (.θ 14) 3) (.int 0)]),.Φ 170 (.π (.θ 94) 104),.aK (.θ 94) 104 (.call 48 [.θ 170]),.jj [.fj 247 (.dT (.π (.θ 14) 3) (some (.int 1)) none none) [.expr (.call 166 [.θ 94,.dT (.π (.θ 247) 3) (some (.int 1)) none none])],.ret (.call 248 [.θ 94,.θ 70,.dT (.π (.θ 14) 3) (some (.int 1)) none none])] [.aK (.θ 94) 104 (.θ 170)]]
 ZP:List PS:=[.ret (.call 249 [.θ 94,.θ 14])]
 ZQ:List PS:=[.bR (.π (.θ 94) 98) (.ς 251) (.call 250 [])]
 ZR:List PS:=[.Φ 170 (.π (.θ 94) 104),.aK (.θ 94) 104 (.call 48 [.θ 170]),.jj [.iff (.υ (.sub (.π (.θ 14) 3) (.int 0)) .IsNot .az) [.bR (.π (.π (.θ 94) 104) 47) (.π (.sub (.π (.θ 14) 3) (.int 0)) 2) (.κ [.θ 70,.ς 189]),.expr (.au (.θ 94) 95 [.π (.sub (.π (.θ 14) 3) (.int 0)) 6,.θ 70])] [],.ret (.au (.θ 94) 122 [.sub (.π (.θ 14) 3) (.int 1)])] [.aK (.θ 94) 104 (.θ 170)]]
 ZS:List PS:=[.mG [.ret (.φ [.au (.θ 94) 122 [.sub (.π (.θ 14) 3) (.int 0)],.az])] (.ς 91) 254 [.Φ 70 (.π (.θ 254) 72)],.iff (.υ (.sub (.π (.θ 14) 3) (.int 1)) .Is .az) [.ret (.φ [.ς 168,.θ 70])] [],.mG [.ret (.φ [.call 253 [.θ 94,.sub (.π (.θ 14) 3) (.int 1),.θ 70],.az])] (.ς 91) 254 [.ret (.φ [.ς 168,.π (.θ 254) 72])]]
 ZT:List PS:=[.lX 133 254 (.call 255 [.θ 94,.θ 14]),.iff (.υ (.sub (.π (.θ 14) 3) (.int 2)) .IsNot .az) [.Φ 256 (.au (.θ 94) 122 [.sub (.π (.θ 14) 3) (.int 2)]),.iff (.υ (.sub (.θ 256) (.int 0)) .NotEq (.ς 167)) [.ret (.θ 256)] []] [],.iff (.υ (.θ 254) .IsNot .az) [.expr (.au (.θ 94) 123 [.θ 254])] [],.ret (.θ 133)]
 ZU:List PS:=[.ret (.call 257 [.θ 94,.θ 14])]
 ZV:List PS:=[.bR (.π (.θ 94) 98) (.ς 259) (.call 258 [])]
 ZW:List PS:=[.ret (.bG (.θ 261) (.bin .Mod (.au (.θ 261) 15 []) (.θ 94)) (.int 0))]
 ZX:List PS:=[.Φ 263 (.φ [.str ⟨⟨[101]⟩⟩,.str ⟨⟨[]⟩⟩,.str ⟨⟨[99,48]⟩⟩,.str ⟨⟨[120]⟩⟩,.str ⟨⟨[]⟩⟩,.str ⟨⟨[99,49]⟩⟩,.str ⟨⟨[]⟩⟩]),.Φ 264 (.call 262 [.θ 261,.int 7]),.iff (.sub (.θ 263) (.θ 264)) [.ret (.call 9 [.ς 26,.sub (.θ 263) (.θ 264),.int 0])] [],.ret (.bG (.υ (.θ 264) .Eq (.int 6)) (.call 9 [.ς 157,.str ⟨⟨[97]⟩⟩,.int 0]) (.call 9 [.ς 156,.bin .Mod (.θ 264) (.int 2),.int 0]))]
 ZY:List PS:=[.iff (.not (.θ 263)) [.ret (.call 10 [.ς 175,.str ⟨⟨[]⟩⟩,.κ [.call 265 [.θ 261]],.int 0])] [],.ret (.call 9 [.θ 1,.sub (.θ 263) (.call 262 [.θ 261,.call 17 [.θ 263]]),.int 0])]
 Ob:List PS:=[.Φ 264 (.call 262 [.θ 261,.bG (.θ 101) (.int 15) (.int 8)]),.iff (.υ (.θ 264) .Lt (.int 3)) [.ret (.call 10 [.ς 175,.str ⟨⟨[]⟩⟩,.κ [.call 265 [.θ 261]],.int 0])] [],.iff (.υ (.θ 264) .Eq (.int 3)) [.ret (.call 10 [.ς 206,.str ⟨⟨[]⟩⟩,.κ [.call 265 [.θ 261]],.int 0])] [],.iff (.υ (.θ 264) .Eq (.int 4)) [.ret (.call 10 [.ς 209,.str ⟨⟨[]⟩⟩,.κ [.call 265 [.θ 261]],.int 0])] [],.iff (.υ (.θ 264) .Eq (.int 5)) [.ret (.call 272 [.θ 261,.ς 207,.θ 267])] [],.iff (.υ (.θ 264) .Eq (.int 6)) [.ret (.call 272 [.θ 261,.ς 208,.θ 266])] [],.iff (.υ (.θ 264) .Eq (.int 7)) [.ret (.call 10 [.ς 206,.str ⟨⟨[]⟩⟩,.κ [.az],.int 0])] [],.iff (.bor (.υ (.θ 264) .Eq (.int 8)) (.υ (.θ 264) .Eq (.int 14))) [.ret (.call 273 [.θ 261,.bin .Sub (.θ 101) (.int 1),.θ 266,.θ 267])] [],.iff (.bor (.υ (.θ 264) .Eq (.int 9)) (.υ (.θ 264) .Eq (.int 10))) [.ret (.call 274 [.θ 261,.bin .Sub (.θ 101) (.int 1),.θ 266,.θ 267,.θ 264])] [],.iff (.υ (.θ 264) .Eq (.int 11)) [.Φ 62 (.bin .Add (.str ⟨⟨[66]⟩⟩) (.call 131 [.θ 101])),.ret (.call 10 [.ς 202,.θ 62,.κ [.call 271 [.θ 261,.bin .Sub (.θ 101) (.int 1),.θ 266,.bin .Add (.θ 267) (.φ [.θ 62])]],.int 0])] [],.iff (.υ (.θ 264) .Eq (.int 12)) [.ret (.call 275 [.θ 261,.bin .Sub (.θ 101) (.int 1),.θ 266,.bin .Add (.θ 267) (.φ [.str ⟨⟨[]⟩⟩])])] [],.Φ 3 (.κ [.call 265 [.θ 261],.call 271 [.θ 261,.bin .Sub (.θ 101) (.int 1),.θ 266,.θ 267]]),.ret (.call 10 [.ς 178,.str ⟨⟨[]⟩⟩,.bin .Add (.θ 3) (.κ [.bG (.call 262 [.θ 261,.int 2]) (.call 269 [.θ 261,.int 0,.θ 266,.θ 267]) .az]),.int 0])]
 Z0:List PS:=[.Φ 270 (.call 262 [.θ 261,.int 3]),.Φ 3 (.κ [.call 271 [.θ 261,.θ 101,.θ 266,.θ 267],.az,.az]),.iff (.υ (.θ 270) .NotEq (.int 1)) [.Φ 62 (.bG (.υ (.call 262 [.θ 261,.int 3]) .Lt (.int 2)) (.call 9 [.ς 26,.str ⟨⟨[101]⟩⟩,.int 0]) .az),.bR (.θ 3) (.int 1) (.call 10 [.ς 276,.str ⟨⟨[]⟩⟩,.κ [.θ 62,.call 271 [.θ 261,.θ 101,.θ 266,.θ 267]],.int 0])] [],.iff (.υ (.θ 270) .NotEq (.int 2)) [.bR (.θ 3) (.int 2) (.call 271 [.θ 261,.θ 101,.θ 266,.θ 267])] [],.ret (.call 10 [.ς 259,.str ⟨⟨[]⟩⟩,.θ 3,.int 0])]
 Z1:List PS:=[.Φ 277 (.bG (.call 262 [.θ 261,.int 2]) (.bin .Add (.str ⟨⟨[76]⟩⟩) (.call 131 [.θ 101])) (.str ⟨⟨[]⟩⟩)),.Φ 278 (.call 262 [.θ 261,.int 4]),.Φ 279 (.bG (.θ 277) (.φ [.str ⟨⟨[]⟩⟩,.θ 277]) (.φ [.str ⟨⟨[]⟩⟩])),.Φ 280 (.call 271 [.θ 261,.θ 101,.bin .Add (.θ 266) (.θ 279),.bin .Add (.θ 267) (.θ 279)]),.iff (.band (.υ (.θ 264) .Eq (.int 10)) (.υ (.θ 278) .Lt (.int 2))) [.Φ 281 (.call 10 [.ς 237,.str ⟨⟨[]⟩⟩,.κ [.θ 280,.call 9 [.ς 158,.str ⟨⟨[]⟩⟩,.int 0]],.int 0])] [.Φ 220 (.call 10 [.ς 217,.str ⟨⟨[99,111,110,115,116]⟩⟩,.κ [.call 10 [.ς 282,.str ⟨⟨[]⟩⟩,.κ [.call 9 [.ς 26,.str ⟨⟨[120]⟩⟩,.int 0],.az,.az],.int 0]],.int 0]),.Φ 283 (.bG (.υ (.θ 278) .Eq (.int 3)) (.call 9 [.ς 26,.str ⟨⟨[120]⟩⟩,.int 0]) (.call 9 [.ς 157,.sub (.φ [.str ⟨⟨[97,98]⟩⟩,.str ⟨⟨[97]⟩⟩,.str ⟨⟨[98,97,98]⟩⟩]) (.θ 278),.int 0])),.Φ 281 (.call 10 [.bG (.υ (.θ 264) .Eq (.int 9)) (.ς 240) (.ς 241),.str ⟨⟨[]⟩⟩,.κ [.θ 220,.θ 283,.θ 280],.int 0])],.ret (.bG (.θ 277) (.call 10 [.ς 202,.θ 277,.κ [.θ 281],.int 0]) (.θ 281))]
 Z2:List PS:=[.Φ 3 (.κ [.call 265 [.θ 261]]),.Φ 284 (.φ [.call 9 [.ς 157,.str ⟨⟨[97]⟩⟩,.int 0],.az,.call 9 [.ς 156,.int 1,.int 0],.call 9 [.ς 142,.str ⟨⟨[]⟩⟩,.int 0]]),.Φ 285 (.call 262 [.θ 261,.int 3]),.fj 286 (.dT (.θ 284) (some (.θ 285)) (some (.bin .Add (.θ 285) (.int 2))) none) [.expr (.au (.θ 3) 16 [.call 10 [.ς 287,.str ⟨⟨[]⟩⟩,.κ [.θ 286,.call 269 [.θ 261,.θ 101,.θ 266,.θ 267]],.int 0]])],.ret (.call 10 [.ς 251,.str ⟨⟨[]⟩⟩,.θ 3,.int 0])]
 Z3:List PS:=[.iff (.υ (.π (.θ 14) 1) .Eq (.ς 156)) [.ret (.φ [.φ [.ς 57,.π (.θ 14) 2],.φ []])] [],.iff (.υ (.π (.θ 14) 1) .Eq (.ς 157)) [.ret (.φ [.φ [.ς 52,.π (.θ 14) 2],.φ []])] [],.iff (.υ (.π (.θ 14) 1) .Eq (.ς 142)) [.ret (.φ [.φ [.ς 83,.int 1],.φ []])] [],.fj 289 (.bin .Add (.dT (.sub (.θ 288) (.int 0)) none none (some (.neg (.int 1)))) (.κ [.κ [.str ⟨⟨[99]⟩⟩,.str ⟨⟨[99,48]⟩⟩,.int 0,.sub (.sub (.θ 288) (.int 1)) (.int 0)],.κ [.str ⟨⟨[99]⟩⟩,.str ⟨⟨[99,49]⟩⟩,.int 0,.sub (.sub (.θ 288) (.int 1)) (.int 1)]])) [.iff (.band (.υ (.sub (.θ 289) (.int 0)) .In (.φ [.str ⟨⟨[101]⟩⟩,.str ⟨⟨[120]⟩⟩,.str ⟨⟨[99]⟩⟩])) (.υ (.sub (.θ 289) (.int 1)) .Eq (.π (.θ 14) 2))) [.expr (.au (.sub (.θ 288) (.int 2)) 16 [.φ [.π (.θ 14) 6,.sub (.θ 289) (.int 3)]]),.ret (.φ [.sub (.θ 289) (.int 3),.φ []])] []],.ret (.φ [.az,.call 290 [.θ 288,.θ 14]])]
 Z4:List PS:=[.expr (.au (.sub (.θ 288) (.int 3)) 16 [.φ [.ς 146,.π (.θ 14) 6]]),.ret (.φ [.str ⟨⟨[116,104,114,111,119]⟩⟩,.φ [.ς 73,.bin .Sub (.call 17 [.sub (.θ 288) (.int 3)]) (.int 1)]])]
 xX:List PS:=[.Φ 292 (.sub (.θ 288) (.int 0)),.fV (.υ (.π (.θ 14) 1) .Eq (.ς 202)) [.expr (.au (.θ 292) 16 [.κ [.str ⟨⟨[108]⟩⟩,.π (.θ 14) 2,.int 0,.az]]),.Φ 14 (.sub (.π (.θ 14) 3) (.int 0))],.Φ 1 (.π (.θ 14) 1),.iff (.bor (.υ (.θ 1) .Eq (.ς 207)) (.υ (.θ 1) .Eq (.ς 208))) [.ret (.φ [.bG (.υ (.θ 1) .Eq (.ς 207)) (.str ⟨⟨[98,114,101,97,107]⟩⟩) (.str ⟨⟨[99,111,110,116,105,110,117,101]⟩⟩),.π (.θ 14) 2])] [],.iff (.υ (.θ 1) .Eq (.ς 176)) [.expr (.au (.θ 292) 16 [.κ [.str ⟨⟨[115]⟩⟩,.π (.θ 14) 3,.int 0,.az]]),.ret (.φ [])] [],.iff (.υ (.θ 1) .Eq (.ς 259)) [.expr (.au (.θ 292) 16 [.κ [.str ⟨⟨[116]⟩⟩,.θ 14,.int 0,.φ []]]),.expr (.au (.θ 292) 16 [.κ [.str ⟨⟨[115]⟩⟩,.κ [.sub (.π (.θ 14) 3) (.int 0)],.int 0,.az]]),.ret (.φ [])] [],.iff (.υ (.θ 1) .Eq (.ς 237)) [.expr (.au (.θ 292) 16 [.κ [.str ⟨⟨[100]⟩⟩,.θ 14,.int 0,.az]]),.expr (.au (.θ 292) 16 [.κ [.str ⟨⟨[115]⟩⟩,.κ [.sub (.π (.θ 14) 3) (.int 0)],.int 0,.az]]),.ret (.φ [])] [],.iff (.bor (.υ (.θ 1) .Eq (.ς 240)) (.υ (.θ 1) .Eq (.ς 241))) [.ret (.call 293 [.θ 288,.θ 14])] [],.iff (.band (.υ (.θ 1) .Eq (.ς 206)) (.υ (.sub (.π (.θ 14) 3) (.int 0)) .Is .az)) [.ret (.φ [.str ⟨⟨[114,101,116,117,114,110]⟩⟩,.φ [.ς 49,.int 0]])] [],.lX 70 294 (.call 291 [.θ 288,.sub (.π (.θ 14) 3) (.int 0)]),.iff (.θ 294) [.ret (.θ 294)] [],.iff (.bor (.υ (.θ 1) .Eq (.ς 206)) (.υ (.θ 1) .Eq (.ς 209))) [.ret (.φ [.bG (.υ (.θ 1) .Eq (.ς 206)) (.str ⟨⟨[114,101,116,117,114,110]⟩⟩) (.str ⟨⟨[116,104,114,111,119]⟩⟩),.θ 70])] [],.iff (.υ (.θ 1) .Eq (.ς 178)) [.Φ 295 (.bG (.bor (.υ (.sub (.θ 70) (.int 0)) .Eq (.ς 73)) (.sub (.θ 70) (.int 1))) (.dT (.π (.θ 14) 3) (some (.int 1)) (some (.int 2)) none) (.dT (.π (.θ 14) 3) (some (.int 2)) none none)),.expr (.au (.θ 292) 16 [.κ [.str ⟨⟨[115]⟩⟩,.comp (.θ 18) 18 (.θ 295) [.υ (.θ 18) .IsNot .az],.int 0,.az]])] [],.iff (.υ (.θ 1) .Eq (.ς 251)) [.expr (.au (.θ 292) 16 [.κ [.str ⟨⟨[119]⟩⟩,.str ⟨⟨[]⟩⟩,.int 0,.az]]),.expr (.au (.θ 292) 16 [.κ [.str ⟨⟨[115]⟩⟩,.call 296 [.dT (.π (.θ 14) 3) (some (.int 1)) none none,.θ 70],.int 0,.az]])] [],.ret (.φ [])]
 Z5:List PS:=[.Φ 284 (.comp (.bG (.υ (.sub (.π (.θ 247) 3) (.int 0)) .Is .az) .az (.sub (.call 291 [.φ [.κ [],.κ [],.κ [],.κ []],.sub (.π (.θ 247) 3) (.int 0)]) (.int 0))) 247 (.θ 243) []),.iff (.υ (.θ 70) .In (.θ 284)) [.Φ 284 (.dT (.θ 284) (some (.au (.θ 284) 298 [.θ 70])) none none)] [.iff (.υ .az .In (.θ 284)) [.Φ 284 (.dT (.θ 284) (some (.au (.θ 284) 298 [.az])) none none)] [.ret (.κ [])]],.Φ 12 (.κ []),.fj 247 (.dT (.θ 243) (some (.bin .Sub (.call 17 [.θ 243]) (.call 17 [.θ 284]))) none none) [.Φ 12 (.bin .Add (.θ 12) (.dT (.π (.θ 247) 3) (some (.int 1)) none none))],.ret (.θ 12)]
 Z6:List PS:=[.Φ 283 (.sub (.π (.θ 14) 3) (.int 1)),.iff (.υ (.π (.θ 283) 1) .Eq (.ς 26)) [.ret (.call 290 [.θ 288,.θ 283])] [],.Φ 37 (.comp (.φ [.ς 52,.θ 63]) 63 (.π (.θ 283) 2) []),.iff (.υ (.π (.θ 14) 1) .Eq (.ς 241)) [.Φ 37 (.comp (.φ [.ς 52,.call 131 [.θ 299]]) 299 (.call 228 [.call 17 [.θ 37]]) [])] [],.expr (.au (.sub (.θ 288) (.int 0)) 16 [.κ [.str ⟨⟨[102]⟩⟩,.θ 14,.int 0,.θ 37]]),.ret (.call 300 [.θ 288])]
 Z7:List PS:=[.Φ 301 (.sub (.sub (.θ 288) (.int 0)) (.neg (.int 1))),.iff (.υ (.sub (.θ 301) (.int 2)) .Eq (.call 17 [.sub (.θ 301) (.int 3)])) [.expr (.au (.sub (.θ 288) (.int 0)) 15 []),.ret (.φ [])] [],.expr (.au (.sub (.θ 288) (.int 2)) 16 [.φ [.π (.sub (.π (.sub (.π (.sub (.π (.sub (.θ 301) (.int 1)) 3) (.int 0)) 3) (.int 0)) 3) (.int 0)) 6,.sub (.sub (.θ 301) (.int 3)) (.sub (.θ 301) (.int 2))]]),.expr (.au (.sub (.θ 288) (.int 0)) 16 [.κ [.str ⟨⟨[120]⟩⟩,.str ⟨⟨[120]⟩⟩,.int 0,.sub (.sub (.θ 301) (.int 3)) (.sub (.θ 301) (.int 2))]]),.expr (.au (.sub (.θ 288) (.int 0)) 16 [.κ [.str ⟨⟨[115]⟩⟩,.κ [.sub (.π (.sub (.θ 301) (.int 1)) 3) (.int 2)],.int 0,.az]]),.mF (.θ 301) (.int 2) .Add (.int 1),.ret (.φ [])]
 Z8:List PS:=[.Φ 301 (.sub (.sub (.θ 288) (.int 0)) (.neg (.int 1))),.Φ 256 (.sub (.π (.sub (.θ 301) (.int 1)) 3) (.int 2)),.iff (.bor (.υ (.sub (.θ 301) (.int 2)) .Eq (.int 2)) (.υ (.θ 256) .Is .az)) [.expr (.au (.sub (.θ 288) (.int 0)) 15 []),.ret (.θ 294)] [],.bR (.θ 301) (.int 2) (.int 2),.bR (.θ 301) (.int 3) (.θ 294),.expr (.au (.sub (.θ 288) (.int 0)) 16 [.κ [.str ⟨⟨[115]⟩⟩,.κ [.θ 256],.int 0,.az]]),.ret (.φ [])]
 Z9:List PS:=[.Φ 301 (.sub (.sub (.θ 288) (.int 0)) (.neg (.int 1))),.iff (.υ (.sub (.θ 301) (.int 0)) .Eq (.str ⟨⟨[116]⟩⟩)) [.ret (.call 302 [.θ 288,.bG (.υ (.sub (.θ 301) (.int 2)) .Eq (.int 2)) (.sub (.θ 301) (.int 3)) (.φ [])])] [],.iff (.υ (.sub (.θ 301) (.int 0)) .Eq (.str ⟨⟨[102]⟩⟩)) [.ret (.call 300 [.θ 288])] [],.expr (.au (.sub (.θ 288) (.int 0)) 15 []),.ret (.φ [])]
 Z_:List PS:=[.Φ 304 (.sub (.π (.sub (.sub (.sub (.θ 288) (.int 0)) (.neg (.int 1))) (.int 1)) 3) (.int 1)),.bR (.sub (.sub (.θ 288) (.int 0)) (.neg (.int 1))) (.int 2) (.int 1),.iff (.υ (.sub (.π (.θ 304) 3) (.int 0)) .IsNot .az) [.expr (.au (.sub (.θ 288) (.int 2)) 16 [.φ [.π (.sub (.π (.θ 304) 3) (.int 0)) 6,.sub (.θ 294) (.int 1)]]),.expr (.au (.sub (.θ 288) (.int 0)) 16 [.κ [.str ⟨⟨[101]⟩⟩,.str ⟨⟨[101]⟩⟩,.int 0,.sub (.θ 294) (.int 1)]])] [],.expr (.au (.sub (.θ 288) (.int 0)) 16 [.κ [.str ⟨⟨[115]⟩⟩,.κ [.sub (.π (.θ 304) 3) (.int 1)],.int 0,.az]]),.ret (.φ [])]
 agD:List PS:=[.Φ 301 (.sub (.sub (.θ 288) (.int 0)) (.neg (.int 1))),.iff (.υ (.sub (.θ 301) (.int 0)) .Eq (.str ⟨⟨[116]⟩⟩)) [.iff (.fU (.υ (.sub (.θ 294) (.int 0)) .Eq (.str ⟨⟨[116,104,114,111,119]⟩⟩)) (.υ (.sub (.θ 301) (.int 2)) .Eq (.int 0)) (.υ (.sub (.π (.sub (.θ 301) (.int 1)) 3) (.int 1)) .IsNot .az)) [.ret (.call 305 [.θ 288,.θ 294])] [],.ret (.call 302 [.θ 288,.θ 294])] [],.Φ 306 (.bG (.υ (.sub (.θ 301) (.int 0)) .In (.φ [.str ⟨⟨[102]⟩⟩,.str ⟨⟨[100]⟩⟩,.str ⟨⟨[119]⟩⟩])) (.κ [.str ⟨⟨[]⟩⟩]) (.κ [])),.Φ 64 (.bG (.υ (.sub (.θ 301) (.int 0)) .In (.φ [.str ⟨⟨[102]⟩⟩,.str ⟨⟨[100]⟩⟩])) (.bin .Sub (.call 17 [.sub (.θ 288) (.int 0)]) (.int 2)) (.neg (.int 1))),.fV (.band (.υ (.θ 64) .GtE (.int 0)) (.υ (.sub (.sub (.sub (.θ 288) (.int 0)) (.θ 64)) (.int 0)) .Eq (.str ⟨⟨[108]⟩⟩))) [.expr (.au (.θ 306) 16 [.sub (.sub (.sub (.θ 288) (.int 0)) (.θ 64)) (.int 1)]),.aug 64 .Sub (.int 1)],.iff (.fU (.υ (.sub (.θ 294) (.int 0)) .Eq (.str ⟨⟨[99,111,110,116,105,110,117,101]⟩⟩)) (.υ (.sub (.θ 301) (.int 0)) .In (.φ [.str ⟨⟨[102]⟩⟩,.str ⟨⟨[100]⟩⟩])) (.υ (.sub (.θ 294) (.int 1)) .In (.θ 306))) [.ret (.call 303 [.θ 288])] [],.expr (.au (.sub (.θ 288) (.int 0)) 15 []),.iff (.band (.υ (.sub (.θ 294) (.int 0)) .Eq (.str ⟨⟨[98,114,101,97,107]⟩⟩)) (.υ (.sub (.θ 294) (.int 1)) .In (.bG (.υ (.sub (.θ 301) (.int 0)) .Eq (.str ⟨⟨[108]⟩⟩)) (.bin .Add (.θ 306) (.κ [.sub (.θ 301) (.int 1)])) (.θ 306)))) [.ret (.φ [])] [],.ret (.θ 294)]
 agE:List PS:=[.Φ 288 (.φ [.κ [.κ [.str ⟨⟨[115]⟩⟩,.κ [.θ 11],.int 0,.az]],.θ 47,.κ [],.κ []]),.Φ 294 (.φ []),.fV (.sub (.θ 288) (.int 0)) [.Φ 301 (.sub (.sub (.θ 288) (.int 0)) (.neg (.int 1))),.iff (.θ 294) [.Φ 294 (.call 307 [.θ 288,.θ 294])] [.iff (.υ (.sub (.θ 301) (.int 0)) .NotEq (.str ⟨⟨[115]⟩⟩)) [.Φ 294 (.call 303 [.θ 288])] [.iff (.υ (.sub (.θ 301) (.int 2)) .Eq (.call 17 [.sub (.θ 301) (.int 1)])) [.expr (.au (.sub (.θ 288) (.int 0)) 15 [])] [.mF (.θ 301) (.int 2) .Add (.int 1),.Φ 294 (.call 297 [.θ 288,.sub (.sub (.θ 301) (.int 1)) (.bin .Sub (.sub (.θ 301) (.int 2)) (.int 1))])]]]],.ret (.φ [.sub (.θ 288) (.int 2),.sub (.θ 288) (.int 3),.θ 294])]
 agF:List PS:=[.Φ 94 (.call 119 [.int 20000]),.expr (.call 160 [.θ 94]),.expr (.call 163 [.θ 94]),.expr (.call 179 [.θ 94]),.expr (.call 210 [.θ 94]),.expr (.call 242 [.θ 94]),.expr (.call 252 [.θ 94]),.expr (.call 260 [.θ 94]),.aK (.θ 94) 108 (.call 93 []),.Φ 309 (.call 48 [.az]),.bR (.π (.θ 309) 47) (.str ⟨⟨[99,48]⟩⟩) (.κ [.sub (.θ 47) (.int 0),.ς 189]),.bR (.π (.θ 309) 47) (.str ⟨⟨[99,49]⟩⟩) (.κ [.sub (.θ 47) (.int 1),.ς 189]),.aK (.θ 94) 104 (.θ 309),.mG [.Φ 133 (.call 257 [.θ 94,.θ 11]),.Φ 310 (.bG (.υ (.sub (.θ 133) (.int 0)) .Eq (.int 0)) (.φ []) (.φ [.bG (.υ (.sub (.θ 133) (.int 0)) .Eq (.ς 192)) (.str ⟨⟨[114,101,116,117,114,110]⟩⟩) (.str ⟨⟨[106,117,109,112]⟩⟩),.sub (.θ 133) (.int 1)]))] (.ς 91) 254 [.Φ 310 (.φ [.str ⟨⟨[116,104,114,111,119]⟩⟩,.π (.θ 254) 72])],.Φ 311 (.fU (.υ (.π (.θ 94) 104) .Is (.θ 309)) (.υ (.π (.θ 94) 101) .Eq (.int 0)) (.υ (.call 225 [.π (.θ 309) 47]) .Eq (.κ [.str ⟨⟨[99,48]⟩⟩,.str ⟨⟨[99,49]⟩⟩]))),.ret (.φ [.π (.π (.θ 94) 108) 92,.π (.θ 94) 107,.θ 310,.θ 311])]
 agG:List PS:=[.Φ 261 (.dT (.dT (.θ 313) none (some (.int 36)) none) none none (some (.neg (.int 1)))),.Φ 11 (.call 273 [.θ 261,.int 2,.φ [],.φ []]),.expr (.call 22 [.θ 11,.int 1]),.Φ 314 (.bG (.υ (.call 17 [.θ 313]) .Lt (.int 20)) (.φ [.φ [.int 0,.int 0],.φ [.int 1,.int 0],.φ [.int 0,.int 1],.φ [.int 1,.int 1]]) (.φ [.φ [.int 1,.int 0],.φ [.int 0,.int 1]])),.rF 190 315 (.θ 314) [.Φ 47 (.κ [.φ [.ς 83,.θ 190],.φ [.ς 83,.θ 315]]),.nX 316 107 294 (.call 308 [.θ 11,.θ 47]),.iff (.υ (.call 312 [.θ 11,.θ 47]) .NotEq (.φ [.θ 316,.θ 107,.θ 294,.kp true])) [.ret (.kp false)] []],.ret (.kp true)]
open zzy
noncomputable def Oc:nM->Bool | .cell=>false |_=>true
noncomputable def Od(names:List Nat)(sc:Scope):Bool:=names.all (λ i=>fE i 318&&uY (sc.names.lookup (N i)))&&decide names.Nodup&&sc.names.all (λ x=>Oc x.2)&&Em sc.kind&&!sc.isCoroutine&&!sc.isGenerator
theorem Oe:NT.length=318:=by decide +kernel
section
variable {g:Gv}
noncomputable abbrev lz:Type:=(Addr×List Nat×List PS)×Str×Str×Stmt×Str×Nat
open HD HD.zzx in
noncomputable def rV:List lz:=[((35,[0,1,2,3,4,5],Ys),bo,JV,mt 36 0,zs6,194),
 ((49,[1,2,5],Yt),tI,tI,st 37,zs6,194),
 ((56,[1,2,3,5],Yu),tJ,tJ,st 38,zs6,194),
 ((63,[11],Yv),tM,tM,st 39,zs6,194),
 ((70,[11,20],Yw),tN,tN,st 40,zs6,194),
 ((77,[23],Yx),tO,tO,st 41,zs6,194),
 ((192,[0,21,31,32],Yy),bo,JZ,mt 63 0,bL,495),
 ((213,[0],Yz),bo,J9,mt 64 0,bL,495),
 ((234,[0,46],YA),bo,Ka,mt 65 0,bL,495),
 ((248,[],YB),qc,qc,st 66,bL,495),
 ((255,[51],YC),qd,qd,st 67,bL,495),
 ((262,[54],YD),qe,qe,st 68,bL,495),
 ((269,[59,31,32],YE),qi,qi,st 69,bL,495),
 ((276,[62],YF),qj,qj,st 70,bL,495),
 ((283,[51,62],YG),qk,qk,st 71,bL,495),
 ((297,[60,62],YH),ql,ql,st 73,bL,495),
 ((311,[59,70,62],YI),qo,qo,st 75,bL,495),
 ((332,[59,21,62,70],YJ),qp,qp,st 78,bL,495),
 ((339,[59,21,62],YK),qq,qq,st 79,bL,495),
 ((351,[70],YL),tT,tT,st 81,bL,495),
 ((358,[2,85],YM),tU,tU,st 82,bL,495),
 ((365,[59,32,88],YN),tV,tV,st 83,bL,495),
 ((379,[0,72],YO),bo,Kg,mt 96 0,aQ,785),
 ((462,[0],YP),bo,Ki,mt 100 0,aQ,785),
 ((469,[0,94,6,72],YQ),kS,Kj,mt 100 1,aQ,785),
 ((565,[0,96],YR),bo,Kn,mt 104 0,aQ,785),
 ((572,[0,14],YS),cg,Ko,mt 104 1,aQ,785),
 ((579,[0,14],YT),ba,Kp,mt 104 2,aQ,785),
 ((593,[0,72],YU),wQ,Kq,mt 104 4,aQ,785),
 ((600,[0,38,6,51],YV),wR,Kr,mt 104 5,aQ,785),
 ((607,[0,6,72],YW),kS,Ks,mt 104 6,aQ,785),
 ((621,[94],YX),tY,tY,st 105,aQ,785),
 ((628,[94,14],YY),tZ,tZ,st 106,aQ,785),
 ((635,[94,14],YZ),t8,t8,st 107,aQ,785),
 ((642,[94,38,6,51],Y0),t_,t_,st 108,aQ,785),
 ((698,[0,94,14],Y1),cg,KI,mt 111 1,aS,1210),
 ((717,[0,94,14],Y2),cg,KJ,mt 112 0,aS,1210),
 ((736,[0,94,14],Y3),cg,KN,mt 113 0,aS,1210),
 ((755,[0,94,14],Y4),cg,KO,mt 114 0,aS,1210),
 ((786,[94,62],Y5),qA,qA,st 116,aS,1210),
 ((793,[94,62,6],Y6),qB,qB,st 117,aS,1210),
 ((814,[0,62],Y7),bo,KP,mt 119 0,aS,1210),
 ((821,[0,94,6],Y8),oV,KQ,mt 119 1,aS,1210),
 ((847,[0,94,14],Y9),iR,KR,mt 120 0,aS,1210),
 ((890,[94,70,6],Y_),oW,oW,st 123,aS,1210),
 ((897,[94],Za),uf,uf,st 124,aS,1210),
 ((904,[94],Zb),ug,ug,st 125,aS,1210),
 ((920,[0,94,14],Zc),oU,KS,mt 128 0,aF,1556),
 ((939,[94,98],Zd),qD,qD,st 129,aF,1556),
 ((946,[94,98],Ze),qE,qE,st 130,aF,1556),
 ((953,[94,98],Zf),qF,qF,st 131,aF,1556),
 ((967,[0,94,14],Zg),ba,KU,mt 132 0,aF,1556),
 ((986,[0,94,14],Zh),ba,KW,mt 133 0,aF,1556),
 ((1005,[0,94,14],Zi),ba,KX,mt 134 0,aF,1556),
 ((1017,[94],Zj),qJ,qJ,st 135,aF,1556),
 ((1024,[94,62],Zk),qK,qK,st 136,aF,1556),
 ((1031,[94,14,70,181],Zl),qL,qL,st 137,aF,1556),
 ((1052,[94,183,23,70],Zm),qM,qM,st 140,aF,1556),
 ((1059,[183],Zn),qN,qN,st 141,aF,1556),
 ((1066,[94,14],Zo),qO,qO,st 142,aF,1556),
 ((1080,[0,94,14],Zp),ba,KY,mt 143 0,aF,1556),
 ((1099,[0,94,14],Zq),ba,KZ,mt 144 0,aF,1556),
 ((1118,[0,94,14],Zr),ba,K0,mt 145 0,aF,1556),
 ((1137,[0,94,14],Zs),ba,K1,mt 146 0,aF,1556),
 ((1156,[0,94,14],Zt),ba,K4,mt 147 0,aF,1556),
 ((1175,[94,14],Zu),uh,uh,st 148,aF,1556),
 ((1189,[0,94,14],Zv),ba,K5,mt 149 0,aF,1556),
 ((1201,[94],Zw),uj,uj,st 150,aF,1556),
 ((1208,[133,201],Zx),uk,uk,st 155,aG,1949),
 ((1222,[94,14,201],Zy),uo,uo,st 157,aG,1949),
 ((1236,[14],Zz),uq,uq,st 159,aG,1949),
 ((1257,[94,14],ZA),qU,qU,st 162,aG,1949),
 ((1264,[94,14,170,70],ZC),qV,qV,st 163,aG,1949),
 ((1271,[94,70,6],ZD),qW,qW,st 164,aG,1949),
 ((1278,[94,14,201],ZE),qX,qX,st 165,aG,1949),
 ((1283,[94,70],ZF),nI,nI,st 166,aG,1949),
 ((1290,[94,70,62],ZG),qY,qY,st 167,aG,1949),
 ((1297,[94,14,201],ZH),qZ,qZ,st 168,aG,1949),
 ((1330,[0,94,14,201],ZI),fD,K7,mt 170 0,aG,1949),
 ((1368,[0,94,14,201],ZJ),fD,K8,mt 172 0,aG,1949),
 ((1387,[0,94,14,201],ZK),fD,K9,mt 173 0,aG,1949),
 ((1399,[94],ZL),rl,rl,st 174,aG,1949),
 ((1406,[94,70,243],ZM),rm,rm,st 175,aG,1949),
 ((1413,[94,70,243],ZN),ur,ur,st 176,aG,1949),
 ((1420,[94,14],ZO),uu,uu,st 177,aG,1949),
 ((1434,[0,94,14],ZP),ba,Lb,mt 178 0,aG,1949),
 ((1446,[94],ZQ),uy,uy,st 179,aG,1949),
 ((1453,[94,14,70],ZR),uz,uz,st 180,aG,1949),
 ((1460,[94,14],ZS),uA,uA,st 181,aG,1949),
 ((1467,[94,14],ZT),uB,uB,st 182,aG,1949),
 ((1481,[0,94,14],ZU),ba,Ld,mt 183 0,aG,1949),
 ((1493,[94],ZV),uD,uD,st 184,aG,1949),
 ((1500,[261,94],ZW),uE,uE,st 186,bQ,2366),
 ((1507,[261],ZX),uF,uF,st 187,bQ,2366),
 ((1519,[261,1,263],ZY),uG,uG,st 189,bQ,2366),
 ((1526,[261,101,266,267],Ob),uH,uH,st 190,bQ,2366),
 ((1533,[261,101,266,267],Z0),uI,uI,st 191,bQ,2366),
 ((1540,[261,101,266,267,264],Z1),uJ,uJ,st 192,bQ,2366),
 ((1547,[261,101,266,267],Z2),uK,uK,st 193,bQ,2366),
 ((1554,[288,14],Z3),uL,uL,st 194,bQ,2366),
 ((1561,[288,14],Z4),uM,uM,st 195,bQ,2366),
 ((1566,[288,14],xX),oX,oX,st 196,bQ,2366),
 ((1571,[243,70],Z5),oY,oY,st 197,bQ,2366),
 ((1576,[288,14],Z6),oZ,oZ,st 198,bQ,2366),
 ((1583,[288],Z7),uO,uO,st 199,bQ,2366),
 ((1590,[288,294],Z8),uQ,uQ,st 200,bQ,2366),
 ((1597,[288],Z9),uR,uR,st 201,bQ,2366),
 ((1604,[288,294],Z_),uS,uS,st 202,bQ,2366),
 ((1611,[288,294],agD),uT,uT,st 203,bQ,2366),
 ((1618,[11,47],agE),uU,uU,st 204,bQ,2366),
 ((1625,[11,47],agF),uV,uV,st 205,bQ,2366),
 ((1632,[313],agG),rn,rn,st 206,bQ,2366)]
noncomputable abbrev Gw(r:lz):FuncData:=fnOf r.2.1 r.2.2.1 (HD.fA r.2.2.2.1) (HD.fB r.2.2.2.1) (HD.fS r.2.2.2.1) .none .none .none (.str r.2.2.2.2.1 r.2.2.2.2.2) none (.ref (r.1.1-1)) .none
noncomputable def mapA{β:Type _}(f:lz->β):List lz->List β
 | []=>[]
 |a::r=>f a::mapA f r
noncomputable def AI{β:Type _}(f:lz->β):List lz->List β
 | []=>[]
 |a::r=>f a::AI f r
noncomputable def AJ:List lz->Nat->lz
 | [],_=>((0,[],[]),⟨⟨[]⟩⟩,⟨⟨[]⟩⟩,.Pass ⟨0,0,0,0⟩,⟨⟨[]⟩⟩,0)
 |r::_,0=>r
 |_::l,n+1=>AJ l n
noncomputable def vg:Nat->(Nat->Value)->List Value
 |0,_=>[]
 |n+1,f=>f 0::vg n λ i=>f (i+1)
theorem Of:∀v:List Value,∃f,vg v.length f=v
 | []=>⟨λ _=>.none,rfl⟩
 |a::v=>Θ (Of v) λ f e=>⟨λ i=>Nat.casesOn (motive:=λ _=>Value) i a f,congrArg (a::·) e⟩
theorem Gx{β:Type _}{f h:lz->β}:∀{l:List lz}{i:Nat},i<l.length->mapA f l=AI h l->f (AJ l i)=h (AJ l i)
 | [],_,k,_=>absurd k (EM _)
 |_::_,0,_,e=>(rD e).1
 |_::l,i+1,k,e=>Gx (l:=l) (i:=i) (aft k) (rD e).2
noncomputable def Og(K:Frag)(r:lz):=(K.lookup r.1.1,codeIn K (.ref (r.1.1-1)) r.2.2.1,k8 (HD.fS r.2.2.2.1) r.1.2.2 (Ep (HD.fB r.2.2.2.1)) 0,kZ r.1.2.2 (Ep (HD.fB r.2.2.2.1)) 0,Od r.1.2.1 (HD.fS r.2.2.2.1))
noncomputable def Oh(r:lz):=(some (Obj.mk (.type "function") none (.func (Gw r)) ⟨[]⟩),true,true,HD.fB r.2.2.2.1,true)
theorem agH(P:aq):mapA (Og (HD.KK P)) rV=AI Oh rV:=by kernel_rfl
theorem agI(f:Nat->Value):mapA (λ r=>bindArgs (Gw r) ⟨vg r.1.2.1.length f,[]⟩) rV=AI (λ r=>pure ((r.1.2.1.map N).zip (vg r.1.2.1.length f))) rV:=by kernel_rfl
theorem agJ(h:Od l sc=true):(∀i∈l,i<NT.length/\sc.names.lookup (N i)=some .local)/\l.Nodup/\sc.kind=.function/\sc.isCoroutine=false/\sc.isGenerator=false/\∀x∈sc.names,x.2≠.cell:=
 ag (an h) λ h a5=>ag (an h) λ h a4=>ag (an h) λ h a3=>ag (an h) λ h a2=>ag (an h) λ a0 a1=>
 ⟨λ i hi=>let y:=an (List.all_eq_true.mp a0 i hi);⟨Oe▸Nat.blt_eq.mp y.1,xl y.2⟩,of_decide_eq_true a1,Mq a3,(Bool.not_eq_true' _).mp a4,(Bool.not_eq_true' _).mp a5,λ x hx z=>nF ((congrArg Oc z).symm.trans (List.all_eq_true.mp a2 x hx))⟩
theorem Fn.mk(e:Og g.K r=Oh r)(hb:∀f,bindArgs (Gw r) ⟨vg r.1.2.1.length f,[]⟩=pure ((r.1.2.1.map N).zip (vg r.1.2.1.length f))):Fn g r.1.1 r.1.2.1 r.1.2.2:=
 Mn (agJ (congrArg (·.2.2.2.2) e)) λ a b c d x=>ag x λ q p=>⟨_,_,_,_,_,_,_,_,_,_,_,_,_,_,_,60,congrArg (·.1) e,congrArg (·.2.1) e,⟨_,0,congrArg (·.2.2.1) e,congrArg (·.2.2.2.1) e⟩,λ v hv=>Θ (Of v) λ f e=>e▸hv▸hb f,a,b,c,d,q,p⟩
theorem fT(i:Nat){fa:Addr}(er:(AJ rV i).1=(fa,names,body))(hi:fE i 112=true:=by exact rfl)(h:bw g):Fn g fa names body:=
 have hi:i<rV.length:=(by kernel_rfl:112=rV.length)▸Nat.blt_eq.mp hi
 @Eq.subst _ (λ x=>Fn g x.1 x.2.1 x.2.2) _ _ er (Fn.mk (h.kk.symm▸Gx hi (agH g.w.params)) λ f=>Gx hi (agI f))
noncomputable def Gy(a b:Value):Bool:=match a with
 | .int i _=>(match b with| .int j _=>decide (i=j)|_=>false)
 | .ref i=>(match b with| .ref j=>iT i j |_=>false)
 | .builtin i=>(match b with| .builtin j=>i==j |_=>false)
 | .type i=>(match b with| .type j=>i==j |_=>false)
 |_=>false
theorem Gz(h:Gy a b=true):nv a=nv b/\((∀i t,a≠.int i t)->a=b):=by
 cases a with
 |int i t=>cases b with
  |int j u=>obtain rfl:i=j:=of_decide_eq_true h;exact⟨rfl,λ k=>absurd rfl (k _ _)⟩
  |_=>exact nF h
 |ref i=>cases b with
  |ref j=>obtain rfl:i=j:=xj h;exact⟨rfl,λ _=>rfl⟩
  |_=>exact nF h
 |builtin i=>cases b with
  |builtin j=>obtain rfl:i=j:=beq_iff_eq.mp h;exact⟨rfl,λ _=>rfl⟩
  |_=>exact nF h
 |type i=>cases b with
  |type j=>obtain rfl:i=j:=beq_iff_eq.mp h;exact⟨rfl,λ _=>rfl⟩
  |_=>exact nF h
 |_=>exact nF h
noncomputable def oj(K:Frag)(i:Nat):Option Value:=match nsIn K mainGlobals (N i)with
 |some (some v)=>some v
 |some none=>(match nsIn K builtinsNs (N i)with|some (some v)=>some v |_=>none)
 |none=>none
noncomputable def GT:List (Nat×Value):=[(7,(.ref 38)),(9,(.ref 49)),(10,(.ref 56)),(17,(.builtin "len")),(19,(.ref 63)),(22,(.ref 70)),(24,(.int 33 0)),(25,(.int 32 0)),(26,(.int 8 0)),(27,(.int 36 0)),(28,(.int 34 0)),(29,(.int 35 0)),(30,(.ref 77)),(42,(.ref 195)),(45,(.ref 216)),(48,(.ref 237)),(49,(.int 0 0)),(50,(.ref 248)),(52,(.int 5 0)),(53,(.ref 255)),(55,(.int 9007199254740991 0)),(56,(.ref 156)),(57,(.int 3 0)),(58,(.ref 262)),(61,(.ref 269)),(65,(.type "int")),(66,(.int 4294967294 0)),(67,(.ref 276)),(68,(.ref 283)),(69,(.ref 297)),(73,(.int 6 0)),(76,(.ref 311)),(77,(.int 1 0)),(80,(.ref 332)),(82,(.ref 339)),(83,(.int 2 0)),(84,(.ref 351)),(86,(.int 4 0)),(87,(.ref 358)),(89,(.int 3 0)),(90,(.ref 365)),(91,(.ref 382)),(93,(.ref 472)),(103,(.int 44 0)),(109,(.ref 444)),(113,(.ref 498)),(115,(.ref 526)),(117,(.ref 547)),(119,(.ref 610)),(120,(.ref 628)),(121,(.ref 635)),(124,(.ref 642)),(126,(.ref 136)),(127,(.ref 621)),(130,(.ref 116)),(131,(.type "str")),(132,(.int 18 0)),(134,(.int 3 0)),(137,(.ref 720)),(138,(.ref 739)),(139,(.int 7 0)),(140,(.int 6 0)),(141,(.int 1 0)),(142,(.int 4 0)),(143,(.ref 758)),(144,(.ref 786)),(146,(.int 4 0)),(147,(.int 0 0)),(148,(.ref 793)),(149,(.ref 831)),(150,(.ref 857)),(152,(.int 7 0)),(155,(.ref 890)),(156,(.int 1 0)),(157,(.int 2 0)),(158,(.int 5 0)),(159,(.ref 777)),(160,(.ref 897)),(161,(.int 9 0)),(162,(.ref 883)),(163,(.ref 904)),(164,(.ref 930)),(166,(.ref 939)),(167,(.int 0 0)),(168,(.ref 906)),(169,(.ref 946)),(171,(.ref 953)),(172,(.ref 970)),(173,(.ref 989)),(174,(.ref 1008)),(175,(.int 43 0)),(176,(.int 59 0)),(177,(.int 60 0)),(178,(.int 44 0)),(179,(.ref 1017)),(180,(.ref 1024)),(182,(.ref 1031)),(185,(.ref 1059)),(187,(.ref 1052)),(188,(.int 2 0)),(189,(.int 1 0)),(191,(.ref 1066)),(192,(.int 1 0)),(193,(.ref 1083)),(194,(.int 2 0)),(195,(.ref 1102)),(196,(.int 3 0)),(197,(.ref 1121)),(198,(.ref 1140)),(200,(.ref 1166)),(202,(.int 55 0)),(203,(.builtin "isinstance")),(204,(.ref 1175)),(205,(.ref 1192)),(206,(.int 52 0)),(207,(.int 53 0)),(208,(.int 54 0)),(209,(.int 56 0)),(210,(.ref 1201)),(211,(.int 0 0)),(212,(.int 2 0)),(213,(.int 1 0)),(214,(.ref 1208)),(216,(.ref 1222)),(217,(.int 41 0)),(218,(.ref 1236)),(219,(.ref 1257)),(221,(.ref 1264)),(222,(.ref 1271)),(223,(.ref 1278)),(225,(.builtin "sorted")),(228,(.type "range")),(229,(.ref 1283)),(230,(.ref 1290)),(231,(.ref 1297)),(232,(.ref 1333)),(233,(.ref 1371)),(234,(.ref 1390)),(235,(.int 45 0)),(236,(.ref 1314)),(237,(.int 46 0)),(238,(.int 47 0)),(239,(.ref 1352)),(240,(.int 48 0)),(241,(.int 49 0)),(242,(.ref 1399)),(246,(.ref 1406)),(248,(.ref 1413)),(249,(.ref 1420)),(250,(.ref 1437)),(251,(.int 50 0)),(252,(.ref 1446)),(253,(.ref 1453)),(255,(.ref 1460)),(257,(.ref 1467)),(258,(.ref 1484)),(259,(.int 57 0)),(260,(.ref 1493)),(262,(.ref 1500)),(265,(.ref 1507)),(269,(.ref 1526)),(271,(.ref 1512)),(272,(.ref 1519)),(273,(.ref 1533)),(274,(.ref 1540)),(275,(.ref 1547)),(276,(.int 58 0)),(282,(.int 42 0)),(287,(.int 51 0)),(290,(.ref 1561)),(291,(.ref 1554)),(293,(.ref 1576)),(296,(.ref 1571)),(297,(.ref 1566)),(300,(.ref 1583)),(302,(.ref 1590)),(303,(.ref 1597)),(305,(.ref 1604)),(307,(.ref 1611)),(308,(.ref 1618)),(312,(.ref 1625))]
noncomputable def Oi:Addr:=906
noncomputable def isCall:Value->Bool
 | .ref a=>!iT a Oi
 | .builtin _=>true
 | .type _=>true
 |_=>false
theorem agK(P:aq):(GT.all λ p=>(match oj (HD.KK P) p.1 with|some v=>Gy v p.2 |none=>false)&&(match p.2 with| .ref a=>iT a Oi||keepIn (HD.KK P) (.ref a)|_=>true))=true:=by kernel_rfl
theorem mem_of_lookup{α β:Type}[BEq α][LawfulBEq α]{l:List (α×β)}{a:α}{b:β}(h:l.lookup a=some b):(a,b)∈l:=by
 induction l with
 |nil=>cases h
 |cons p r ih=>
  have h:(match a==p.1 with|true=>some p.2 |false=>r.lookup a)=some b:=h
  cases e:a==p.1 with
  |true=>rw[e]at h;rw[beq_iff_eq.mp e,<- bY h];exact eU
  |false=>rw[e]at h;exact eA _ (ih h)
theorem agL{K:Frag}(q:Mine.oj K i=some v):nsIn K mainGlobals (N i)=some (some v)\/(nsIn K mainGlobals (N i)=some none/\nsIn K builtinsNs (N i)=some (some v)):=by
 unfold Mine.oj at q
 cases e1:nsIn K mainGlobals (N i)with
 |none=>rw[e1]at q;exact nN q
 |some r=>cases r with
  |some u=>rw[e1]at q;exact .inl (congrArg some q)
  |none=>
   rw[e1]at q
   cases e2:nsIn K builtinsNs (N i)with
   |none=>rw[e2]at q;exact nN q
   |some r=>cases r with
    |some u=>rw[e2]at q;exact .inr ⟨rfl,congrArg some q⟩
    |none=>rw[e2]at q;exact nN q
theorem bw.oj{i:Nat}{v:Value}(h:bw g)(e:GT.lookup i=some v):∃v',nv v'=nv v/\((∀i t,v'≠.int i t)->v'=v)/\pj g i v'/\(isCall v=true->rP g v):=by
 have z:=List.all_eq_true.mp (agK g.w.params) _ (mem_of_lookup e)
 rw[<- h.kk]at z
 have z2:=(an z).2
 cases q:Mine.oj g.K i with
 |none=>rw[q]at z;exact nF (an z).1
 |some v'=>
  rw[q]at z
  have z1:=Gz (an z).1
  refine⟨v',z1.1,z1.2,agL q,λ k=>?_⟩
  cases v with
  |ref a=>exact .inl ((Bool.or_eq_true _ _▸z2).resolve_left λ t=>nF ((congrArg not t).symm.trans k))
  |builtin s=>exact .inr (λ a q=>nomatch q)
  |type s=>exact .inr (λ a q=>nomatch q)
  |_=>exact nF k
noncomputable def CT:List (Addr×List Nat×List (Nat×Addr)×Option Addr):=[(38,[1,2,3,4,5,6],[],some 35),
 (195,[21,31,33,34,35,36,32,37,38,39,40,41],[],some 192),
 (216,[43,44],[],some 213),
 (237,[47,46],[],some 234),
 (472,[92],[(95,469)],some 462),
 (610,[59,97,98,99,100,101,102,12,104,105,106,41,107,108,110,111,112,114,116,118],[(72,572),(122,579),(123,593),(125,600),(95,607)],some 565),
 (831,[62],[(135,821)],some 814),
 (444,[],[],none),
 (498,[],[],none),
 (526,[],[],none),
 (547,[],[],none),
 (720,[],[(72,717)],none),
 (739,[],[(72,736)],none),
 (758,[],[(72,755)],none),
 (777,[],[],none),
 (857,[],[(72,698),(64,847)],none),
 (883,[],[],none),
 (930,[],[(165,920)],none),
 (970,[],[(122,967),(165,920)],none),
 (989,[],[(122,986),(165,920)],none),
 (1008,[],[(122,1005),(165,920)],none),
 (1083,[],[(122,1080),(165,920)],none),
 (1102,[],[(122,1099),(165,920)],none),
 (1121,[],[(122,1118),(165,920)],none),
 (1140,[],[(122,1137),(165,920)],none),
 (1192,[],[(122,1189),(165,920)],none),
 (1314,[],[],none),
 (1333,[],[(122,1156),(165,920),(199,1330)],none),
 (1352,[],[],none),
 (1371,[],[(122,1156),(165,920),(199,1368)],none),
 (1390,[],[(122,1156),(165,920),(199,1387)],none),
 (1437,[],[(122,1434),(165,920)],none),
 (1484,[],[(122,1481),(165,920)],none),
 (382,[72],[],some 379)]
noncomputable def gL:Option (Option Value)->Option Value->Bool
 |some (some a),some b=>Gy a b
 |some none,none=>true
 |_,_=>false
theorem GA(h:gL x (some (.ref a))=true):x=some (some (.ref a)):=by
 cases x with
 |none=>exact nF h
 |some y=>cases y with
  |none=>exact nF h
  |some b=>rw[a8 (Gz (a:=b) (b:=.ref a) h).1]
theorem rW(h:gL x (some (.builtin a))=true):x=some (some (.builtin a)):=by
 cases x with
 |none=>exact nF h
 |some y=>cases y with
  |none=>exact nF h
  |some b=>rw[VQ (Gz (a:=b) (b:=.builtin a) h).1]
theorem vh(h:gL x none=true):x=some none:=by
 cases x with
 |none=>exact nF h
 |some y=>cases y with
  |none=>rfl
  |some b=>exact nF h
noncomputable def agM(K:Frag)(p:Addr×List Nat×List (Nat×Addr)×Option Addr):Bool:=
 (clsIn K p.1).any (·.hasDict)&&gL (dc K (.ref p.1) "__getattribute__") (some (.builtin "object.__getattribute__"))&&gL (dc K (.ref p.1) "__getattr__") none &&
 (p.2.1.all λ i=>fE i 318&&gL (dc K (.ref p.1) (N i)) none) &&
 (p.2.2.1.all λ x=>gL (dc K (.ref p.1) (N x.1)) (some (.ref x.2))&&keepIn K (.ref x.2)&&(match rS K (.ref x.2)with|some (.type s)=>s == "function" |_=>false))
noncomputable def setB(K:Frag)(p:Addr×List Nat×List (Nat×Addr)×Option Addr):Bool:=
 gL (dc K (.ref p.1) "__setattr__") (some (.builtin "object.__setattr__"))&&plainOver K p.1&&(p.2.1.all λ i=>gL (takerIn K p.1 (N i)) none)&&makesIn K p.1 &&
 (match p.2.2.2 with|some f=>gL (dc K (.ref p.1) "__init__") (some (.ref f))&&(match rS K (.ref f)with|some (.type s)=>s == "function" |_=>false)|none=>gL (dc K (.ref p.1) "__init__") (some (.builtin "object.__init__")))
theorem AK(P:aq):CT.dropLast.all (agM (HD.KK P))=true:=by kernel_rfl
theorem agN(P:aq):(CT.dropLast).all (setB (HD.KK P))=true:=by kernel_rfl
noncomputable def g_(C:Addr)(i:Nat):Bool:=match CT.dropLast.lookup C with|some p=>p.1.contains i |none=>false
noncomputable def iD(C:Addr)(i:Nat):Option Addr:=match CT.dropLast.lookup C with|some p=>p.2.1.lookup i |none=>none
noncomputable def mV(C:Addr):Option (Option Addr):=match CT.dropLast.lookup C with|some p=>some p.2.2 |none=>none
theorem GB{x:Option Value}(h:(match x with|some (.type s)=>s == "function" |_=>false)=true):x=some (.type "function"):=by
 cases x with
 |none=>exact nF h
 |some v=>cases v with
  |type s=>exact congrArg (λ s=>some (Value.type s)) (beq_iff_eq.mp h)
  |_=>exact nF h
theorem bw.cls{C:Addr}(h:bw g)(e:(CT.dropLast.lookup C).isSome=true):xM g C:=by
 refine Θ (Option.isSome_iff_exists.mp e) λ p hp=>?_
 have z:=List.all_eq_true.mp (AK g.w.params) _ (mem_of_lookup hp)
 rw[<- h.kk]at z
 have w:=an (an (an z).1).1
 exact⟨(an w.1).1,rW (an w.1).2,vh w.2⟩
theorem bw.ai{C:Addr}{i:Nat}(h:bw g)(e:g_ C i=true):i<NT.length/\xM g C/\dc g.K (.ref C) (N i)=some none:=by
 unfold g_ at e
 cases hp:CT.dropLast.lookup C with
 |none=>rw[hp]at e;exact nF e
 |some p=>
  rw[hp]at e
  have z:=List.all_eq_true.mp (AK g.w.params) _ (mem_of_lookup hp)
  rw[<- h.kk]at z
  have y:=an (List.all_eq_true.mp (an (an z).1).2 i (List.contains_iff_mem.mp e))
  exact⟨Oe▸Nat.blt_eq.mp y.1,h.cls (by rw[hp];rfl),vh y.2⟩
theorem bw.met{C:Addr}{i:Nat}{f:Addr}(h:bw g)(e:iD C i=some f):xM g C/\rP g (.ref f)/\dc g.K (.ref C) (N i)=some (some (.ref f))/\rS g.K (.ref f)=some (.type "function"):=by
 unfold iD at e
 cases hp:CT.dropLast.lookup C with
 |none=>rw[hp]at e;exact nN e
 |some p=>
  rw[hp]at e
  have z:=List.all_eq_true.mp (AK g.w.params) _ (mem_of_lookup hp)
  rw[<- h.kk]at z
  have y:=an (List.all_eq_true.mp (an z).2 (i,f) (mem_of_lookup e))
  have w:=an y.1
  exact⟨h.cls (by rw[hp];rfl),.inl w.2,GA w.1,GB y.2⟩
theorem bw.xY{C:Addr}{r:Option Addr}(h:bw g)(e:mV C=some r):(∀i,(CT.dropLast.lookup C).any (·.1.contains i)=true->xQ g C i)/\makesIn g.K C=true/\
  (match r with|some f=>dc g.K (.ref C) "__init__"=some (some (.ref f))/\rS g.K (.ref f)=some (.type "function")|none=>dc g.K (.ref C) "__init__"=some (some (.builtin "object.__init__"))):=by
 unfold mV at e
 cases hp:CT.dropLast.lookup C with
 |none=>rw[hp]at e;exact nN e
 |some p=>
  rw[hp]at e
  obtain rfl:=bY e
  have z:=List.all_eq_true.mp (agN g.w.params) _ (mem_of_lookup hp)
  have z1:=List.all_eq_true.mp (AK g.w.params) _ (mem_of_lookup hp)
  rw[<- h.kk]at z z1
  have w:=an (an z).1
  have w1:=an w.1
  have w2:=an w1.1
  refine⟨λ i hi=>⟨rW w2.1,w2.2,vh (List.all_eq_true.mp w1.2 i (List.contains_iff_mem.mp hi)),(an (an (an (an z1).1).1).1).1⟩,w.2,?_⟩
  have y:=(an z).2
  obtain⟨b,cc,r⟩:=p
  cases r with
  |some f=>exact⟨GA (an y).1,GB (an y).2⟩
  |none=>exact rW y
theorem agO(P:aq):((clsIn (HD.KK P) 382).any (·.hasDict)&&gL (dc (HD.KK P) (.ref 382) "__getattribute__") (some (.builtin "BaseException.__getattribute__"))&&gL (dc (HD.KK P) (.ref 382) "__getattr__") none&&gL (dc (HD.KK P) (.ref 382) (N 72)) none &&
 gL (dc (HD.KK P) (.ref 382) "__setattr__") (some (.builtin "object.__setattr__"))&&gL (takerIn (HD.KK P) 382 (N cA)) none&&gL (dc (HD.KK P) (.ref 382) "__init__") (some (.ref 379))&&(match rS (HD.KK P) (.ref 379)with|some (.type s)=>s == "function" |_=>false) &&
 (match exmOne (HD.KK P) (.ref 382) (.ref 382)with|some b=>b |none=>false))=true:=by kernel_rfl
theorem agP(P:aq):(HD.KK P).lookup 382=some (excClassObj kf kf 382 381 [.type "Exception"] mT true [] [] false none none (some (.ref 366)) none (some (.str kf 809)) (some (.str kf 817)) (some (.bool true)) "Exception.__new__"):=by kernel_rfl
theorem bw.exc(h:bw g):((clsIn g.K g.st).any (·.hasDict)=true/\dc g.K (.ref g.st) "__getattribute__"=some (some (.builtin "BaseException.__getattribute__"))/\dc g.K (.ref g.st) "__getattr__"=some none/\dc g.K (.ref g.st) (N 72)=some none)/\rU g 379/\exmOne g.K (.ref g.st) (.ref g.st)=some true:=by
 have z:=agO g.w.params
 have y:=agP g.w.params
 rw[<- h.kk]at z y
 rw[h.st]
 have a7:=an z
 have a6:=an a7.1
 have a5:=an a6.1
 have a4:=an a5.1
 have a3:=an a4.1
 have a2:=an a3.1
 have a1:=an a2.1
 have a0:=an a1.1
 refine⟨⟨a0.1,rW a0.2,vh a1.2,vh a2.2⟩,⟨?_,?_,?_,?_⟩,?_⟩
 ·rw[h.st];exact rW a3.2
 ·rw[h.st];exact vh a4.2
 ·rw[<- h.st]at y;exact .mk _ _ _ _ _ _ _ _ _ _ _ _ _ _ y
 ·rw[h.st];exact⟨GA a5.2,GB a6.2⟩
 ·have z9:=a7.2
  cases q:exmOne g.K (.ref 382) (.ref 382)with
  |none=>rw[q]at z9;exact nF z9
  |some b=>rw[q]at z9;exact congrArg some z9
end
theorem GC(h:fE i 318=true):i<NT.length:=by
 exact Nat.blt_eq.mp h
noncomputable def Oj:Value->Bool
 | .int _ t=>t==0
 | .float _ _=>false
 | .str _ _=>false
 | .bytes _ _=>false
 |_=>true
theorem agQ(h:Oj v=true):nv v=v:=by
 cases v with
 |int i t=>have:t=0:=beq_iff_eq.mp h;refine this.symm▸?_;rfl
 |float _ _=>exact nF h
 |str _ _=>exact nF h
 |bytes _ _=>exact nF h
 |_=>rfl
theorem agR:(GT.all λ p=>Oj p.2)=true:=by kernel_rfl
theorem GD(e:GT.lookup i=some v):nv v=v:=agQ (List.all_eq_true.mp agR _ (mem_of_lookup e))
theorem V.gl(e:GT.lookup i=some v)(q:Q v m H):V g c (.ς i) m H Q X:=by
 intro n e' h A s hA
 refine uX (hA.ok.oj e) λ v' h1 _ h3 _=>?_
 exact V.ς (λ _=>h3) (by rw[h1,GD e];exact q) n e' h A s hA
theorem V.ca(hd:c.hd=none)(e:GT.lookup i=some f)(hk:isCall f=true)
  (h:Vs g c as m H (λ vs ρ H₁=>μ g c.k f vs H₁ (λ v H'=>Q v ρ H') (λ v H'=>X v ρ H')) X):V g c (.call i as) m H Q X:=by
 intro n e' he A s hA
 refine uX (hA.ok.oj e) λ v' h1 h2 h3 h4=>?_
 have:v'=f:=h2 λ i t z=>by
  subst z
  rw[GD e]at h1
  rw[<- h1]at hk;exact nF hk
 subst this
 exact V.call hd (λ _=>h3) (λ _=>h4 hk) h n e' he A s hA
theorem c_.fl(hx:H x=some (.ins C d))(hd:H d=some (.ai z es))(e:es.lookup i=some v)(hc:g_ C i=true)(hv:cT v=true)(q:Q v m H):
  c_ g c (λ w=>lh w (N i) ex) (.ref x) m H Q X:=by
 intro a' ha A s hA
 refine fg (hA.ok.ai hc) λ k1 k2 k3=>?_
 exact c_.field ⟨hx,z,hd⟩ k1 e hv (λ _=>k2) (λ _=>k3) q a' ha A s hA
noncomputable def xZ(es:Lc):Bool:=fE es.length 1000
theorem bw.setOk(h:bw g)(e:g_ C i=true):xQ g C i:=by
 unfold g_ at e
 cases q:CT.dropLast.lookup C with
 |none=>rw[q]at e;exact nF e
 |some p=>rw[q]at e;exact(h.xY (r:=p.2.2) (by unfold mV;exact q▸rfl)).1 i (by refine q▸?_;exact e)
theorem S1.sf(hp:lY x=true)
  (h:V g c x m H (λ v ρ H₁=>V g c o ρ H₁ (λ w Ξ ο=>∃a C d es,w=.ref a/\ο a=some (.ins C d)/\ο d=some (.ai false es)/\xZ es=true/\g_ C i=true/\Q .next Ξ (ξ ο d (.ai false (put i v es)))) X) X):S1 g c (.aK o i x) m H Q X:=by
 refine S1.aK hp ?_
 intro n e' he
 refine W.mono (h n e' he) (λ v ρ H₁ q=>?_) λ _ _ _ x=>x
 intro n e' he
 refine W.mono (q n e' he) (λ w Ξ ο q=>?_) λ _ _ _ x=>x
 obtain⟨a,C,d,es,e1,e2,e3,e4,e5,e7⟩:=q
 intro v' w' hv hw
 rw[e1]at hw
 obtain rfl:=a8 hw
 intro A s hA
 exact FI e2 e3 (hA.ok.ai e5).1 (Nat.blt_eq.mp e4) (λ h=>h.setOk e5) (by refine hv▸?_;exact e7) A s hA
theorem V.agS(q:∀a,H a=none->Q (.ref a) m (ξ H a (.sd z []))):V g c .gG m H Q X:=by
 intro n e' he A s hA
 obtain⟨k,p,rfl⟩:=MN he
 exact wpAny_Dict_empty ⟨m,_,hA.new (ao:=.sd z []) ⟨[],agB _,rfl⟩ s.toks,Go.new hA.toaC.dI,q _ hA.toaC.dI⟩
theorem V.agT(q:∀a,H a=none->Q (.ref a) m (ξ H a (.bu z []))):V g c .gG m H Q X:=by
 intro n e' he A s hA
 obtain⟨k,p,rfl⟩:=MN he
 exact wpAny_Dict_empty ⟨m,_,hA.new (ao:=.bu z []) ⟨[],agB _,rfl⟩ s.toks,Go.new hA.toaC.dI,q _ hA.toaC.dI⟩
section
variable {k:Nat}
noncomputable abbrev jH(k:Nat)(sc:Scope)(env:Env):Cx:=⟨k,none,sc,env,env⟩
theorem cy.fn(F:bw g->Fn g fa names body)(hlen:args.length=names.length)
  (h:∀sc env,Own (jH k sc env)->H env.locals=none->S g (jH k sc env) body (names.zip args) H (λ f _ H'=>Q (pg f) H') (λ v _ H'=>X v H')):cy g (k+1) (.ref fa) args H Q X:=by
 refine cy.enter F hlen λ c h1 h2 h3 h4 h5=>?_
 obtain⟨k',hd,sc,env,fe⟩:=c
 dsimp only at h1 h2 h3 h4 h5
 subst h1 h2 h3
 exact h sc fe ⟨rfl,h4⟩ h5
theorem μ.fn(F:bw g->Fn g fa names body)(hlen:args.length=names.length)
  (h:∀sc env,Own (jH k sc env)->H env.locals=none->S g (jH k sc env) body (names.zip args) H (λ f _ H'=>Q (pg f) H') (λ v _ H'=>X v H')):μ g (k+1) (.ref fa) args H Q X:=(cy.fn F hlen h).call
theorem μ.mk(e:mV C=some (some fI))
  (h:∀x d,H x=none->H d=none->x≠d->cy g k (.ref fI) (.ref x::args) (ξ (ξ H d (.ai false [])) x (.ins C d)) (λ v H'=>v=.none/\Q (.ref x) H') X):μ g (k+1) (.ref C) args H Q X:=
 (cy.make (λ q=>⟨(q.xY e).2.1,(q.xY e).2.2⟩) h).call
theorem μ.agU(e:mV C=some none)
  (h:∀x d,H x=none->H d=none->x≠d->Q (.ref x) (ξ (ξ H d (.ai z [])) x (.ins C d))):μ g (k+1) (.ref C) [] H Q X:=
 (cy.XH (λ q=>⟨(q.xY e).2.1,(q.xY e).2.2⟩) h).call
structure Gh(g:Gv)(H H':AH):Prop where
 rep:∀a o',H' a=some o'->∃o,H a=some o/\∀h,gI g h a o->gI g h a o'
 cW:∀a o,H a=some o->o.cW=true->H' a=some o
 aM:∀a es,H a=some (.aM es)->H' a=some (.aM es)\/∃i,H' a=some (.ai true (es++[(jD,.int i 0)]))
 fk:∀a,H a≠none->H' a≠none
theorem Gh.none(x:Gh g H H')(n:H a=none):H' a=none:=by
 cases e:H' a with
 |none=>rfl
 |some o=>refine ψ (x.rep a o e) λ o' h _=>?_;rw[n]at h;exact nN h
theorem Gh.set(ha:H a=some ao)(hz:ao.cW=false)(hn:∀es,ao=.aM es->ao'=.aM es)(r:∀h,gI g h a ao->gI g h a ao'):Gh g H (ξ H a ao') where
 rep b o e:=by
  by_cases q:b=a
  ·subst q;rw[ah]at e;cases e;exact⟨_,ha,r⟩
  ·rw[Γ q]at e;exact⟨o,e,λ _ x=>x⟩
 cW b o e z:=by
  have:b≠a:=λ q=>by subst q;rw[ha]at e;cases e;rw[hz]at z;cases z
  exact(Γ this)▸(e)
 aM b es e:=by
  by_cases q:b=a
  ·subst q;rw[ha]at e;cases e;rw[ah,hn es rfl];exact .inl rfl
  ·exact(Γ q)▸(.inl e)
 fk b e:=by
  by_cases q:b=a
  ·subst q;refine ah▸?_;simp
  ·exact(Γ q)▸(e)
theorem aC.gh(x:aC g k hd A H s)(G:Gh g H H'):aC g k hd A H' s:=
 {x with
  sim:=λ a o e=>by refine ψ (G.rep a o e) λ o' h r=>?_;exact r _ (x.sim a o' h)
  low:=λ a o e=>by refine ψ (G.rep a o e) λ o' h r=>?_;exact x.low a o' h
  frames:=by
   obtain⟨fs,h1,h2⟩:=x.frames
   refine⟨fs,h1,λ env he=>?_⟩
   obtain⟨k1,L,o',k2,k3,k4,k5,k6⟩:=h2 env he
   exact⟨k1,L,o',k2,k3,k4,G.none k5,k6⟩}
theorem At.gh(x:At g c A m H s)(G:Gh g H H'):At g c A m H' s:=
 {x.toaC.gh G with aY:=x.aY,ns:=x.ns,off:=G.none x.off,c9:=x.c9,head:=x.head}
theorem Go.gh(x:Go L bE fm H h)(G:Gh g H H'):Go L bE fm H' h:=
 x.trans ⟨λ a o _ e1 e2=>⟨G.none e1,o.slots,e2⟩,G.cW,G.aM,G.fk⟩
theorem μ.gh(h:μ g k f args H (λ v H'=>∃aD,Gh g H' aD/\Q v aD) X):μ g k f args H Q X:=
 λ A s raw hr hA=>cD (h A s raw hr hA) (λ v s' ⟨H',a,b,aD,G,q⟩=>⟨aD,a.gh G,b.gh G,q⟩) λ _ _ x=>x
end
noncomputable def AO.tag:AO->Nat×Bool
 | .φ _=>(0,true)
 | .κ z _=>(1,z)
 | .ai z _=>(2,z)
 | .aM _=>(3,true)
 | .sd z _=>(4,z)
 | .bu z _=>(5,z)
 | .ins C _=>(C+6,true)
 | .exc _ _=>(7,true)
 | .gW _ _=>(8,true)
 | .fix _=>(9,true)
noncomputable def AO.iZ(a b:AO):Bool:=!(iT a.tag.1 b.tag.1)||(a.tag.2 != b.tag.2)
theorem jq:ξ H a o a=some o:=ah
theorem cu(h:H x=some o)(n:H a=none):ξ H a ao x=some o:=by
 rw[Γ (λ z=>by subst z;rw[n]at h;exact nN h)];exact h
theorem agV(h:H x=some o)(n:H a=some o')(d:AO.iZ o o'=true):ξ H a ao x=some o:=by
 rw[Γ (λ z=>by subst z;rw[n]at h;obtain rfl:=bY h;simp[AO.iZ]at d)];exact h
theorem kE(h:x≠a)(n:H x=none):ξ H a ao x=none:=by exact(Γ h)▸(n)
theorem l7:ξ (ξ H a o) a o'=ξ H a o':=by
 funext b;unfold ξ;split <;> rfl
def Ext(H H':AH):Prop:=∀a o,H a=some o->H' a=some o
theorem Ext.refl:Ext H H:=λ _ _ e=>e
theorem Ext.trans(x:Ext H₁ ο)(y:Ext ο ω):Ext H₁ ω:=λ a o e=>y a o (x a o e)
theorem Ext.new(n:H a=none):Ext H (ξ H a o):=λ _ _ e=>cu e n
section
variable {k:Nat}
noncomputable def x5(kind:Int)(a:Value)(kl:Addr):Lc:=[(1,.int kind 0),(2,a),(3,.ref kl),(4,.int 0 0),(5,.int 0 0)]
inductive ND(H:AH)(x:Addr)(kind:Int)(a:Value)(kv:List Value):Prop
 |mk (d kl:Addr) (n1:H x=some (.ins 38 d)) (n2:H d=some (.aM (x5 kind a kl))) (n3:H kl=some (.κ true kv)):ND H x kind a kv
theorem agW(h1:H x=some (.ins 38 d))(h2:H d=some (.ai false []))(hq:Q .none (ξ H d (.ai false [(1,v1),(2,v2),(3,v3),(4,v4),(5,v5),(6,.int 0 0)]))):cy g (k+1) (.ref 35) [.ref x,v1,v2,v3,v4,v5] H Q X:=by
 refine cy.fn (fT 0 rfl) rfl λ sc env o hL=>?_
 have rX:∀{ao},ξ H d ao x=some (.ins 38 d):=agV h1 h2 rfl
 refine S.cons (S1.sf rfl (V.θ rfl (V.θ rfl ⟨_,_,_,_,rfl,h1,h2,rfl,rfl,?_⟩)))
 refine S.cons (S1.sf rfl (V.θ rfl (V.θ rfl ⟨_,_,_,_,rfl,rX,jq,rfl,rfl,?_⟩)))
 rw[l7]
 refine S.cons (S1.sf rfl (V.θ rfl (V.θ rfl ⟨_,_,_,_,rfl,rX,jq,rfl,rfl,?_⟩)))
 rw[l7]
 refine S.cons (S1.sf rfl (V.θ rfl (V.θ rfl ⟨_,_,_,_,rfl,rX,jq,rfl,rfl,?_⟩)))
 rw[l7]
 refine S.cons (S1.sf rfl (V.θ rfl (V.θ rfl ⟨_,_,_,_,rfl,rX,jq,rfl,rfl,?_⟩)))
 rw[l7]
 refine S.cons (S1.sf rfl (V.int (V.θ rfl ⟨_,_,_,_,rfl,rX,jq,rfl,rfl,?_⟩)))
 rw[l7]
 exact S.nil hq
theorem Ol(hk:H kl=some (.κ true kv))(hq:∀H' x,Ext H H'->ND H' x kind a kv->Q (.ref x) H'):
  μ g (k+2) (.ref 38) [.int kind 0,a,.ref kl,.int 0 0,.int 0 0] H Q X:=by
 refine μ.gh (μ.mk rfl λ x d hx hd gd=>agW jq (cu jq (kE gd hx)) ⟨rfl,_,Gh.set (ao':=.aM (x5 kind a kl)) jq rfl (λ _ z=>nomatch z) (λ h r=>⟨0,r⟩),?_⟩)
 rw[l7]
 have e:Ext H (ξ (ξ (ξ H d (.ai false [])) x (.ins 38 d)) d (.aM (x5 kind a kl))):=λ b o e=>by
  rw[Γ (λ z=>by subst z;rw[hd]at e;exact nN e)]
  exact cu (cu e hd) (kE gd hx)
 exact hq _ x e ⟨d,kl,by rw[Γ gd];exact jq,jq,e _ _ hk⟩
theorem agX(hq:∀H' x,Ext H H'->ND H' x kind a []->Q (.ref x) H'):μ g (k+3) (.ref 49) [.int kind 0,a,.int 0 0] H Q X:=by
 refine μ.fn (fT 1 rfl) rfl λ sc env o hL=>?_
 refine S.cons (S1.ret (V.ca rfl rfl rfl (Vs.cons (V.θ rfl (Vs.cons (V.θ rfl (Vs.cons (V.κ (z:=true) (Vs.nil ⟨by decide,λ kl eB=>Vs.cons (V.int (Vs.cons (V.θ rfl (Vs.nil ?_))))⟩)))))))))
 exact Ol jq λ H' x e n=>hq H' x ((Ext.new eB).trans e) n
theorem agY(hk:H kl=some (.κ true kv))(hq:∀H' x,Ext H H'->ND H' x kind a kv->Q (.ref x) H'):
  μ g (k+3) (.ref 56) [.int kind 0,a,.ref kl,.int 0 0] H Q X:=by
 refine μ.fn (fT 2 rfl) rfl λ sc env o hL=>?_
 exact S.cons (S1.ret (V.ca rfl rfl rfl (Vs.cons (V.θ rfl (Vs.cons (V.θ rfl (Vs.cons (V.θ rfl (Vs.cons (V.int (Vs.cons (V.θ rfl (Vs.nil (Ol hk hq))))))))))))))
end
section
def TA(H:AH)(a:Addr)(vs:List Value):Prop:=H a=some (.φ vs)\/(a=906/\vs=[.int 0 0,.ref 905])\/(a=905/\vs=[.int 0 0,.int 0 0])
theorem agZ(P:aq):(HD.KK P).lookup 906=some ⟨.type "tuple",none,.seq ⟨[.int 0 1558,.ref 905]⟩ 0,⟨[]⟩⟩:=by kernel_rfl
theorem aha(P:aq):∃t u,(HD.KK P).lookup 905=some ⟨.type "tuple",none,.seq ⟨[.int 0 t,.int 0 u]⟩ 0,⟨[]⟩⟩:=⟨1559,1560,by kernel_rfl⟩
theorem TA.seq(x:aC g k hd A H s)(t:TA H a vs):∃items,SeqAt "tuple" s.heap a items/\items.toList.map nv=vs:=by
 rcases t with t |⟨rfl,rfl⟩|⟨rfl,rfl⟩
 ·exact x.sim _ _ t
 ·have e:=agZ g.w.params
  rw[<- x.ok.kk]at e
  exact⟨_,⟨0,x.dZ _ _ e⟩,rfl⟩
 ·obtain⟨t,u,e⟩:=aha g.w.params
  rw[<- x.ok.kk]at e
  exact⟨_,⟨0,x.dZ _ _ e⟩,rfl⟩
theorem cq.ta(hl:TA H l vs)(h0:0<=i)(h1:i<2 ^ 63)(hv:vs[i.toNat]?=some v)(q:Q v m H):cq g c (.ref l) (.int i 0) m H Q X:=by
 intro a' b' ha hb A s hA
 obtain rfl:=a8 ha
 refine Θ (iz hb) λ t xO=>?_;subst xO
 refine ψ (hl.seq hA.toaC) λ items k1 xP=>?_;subst xP
 refine⟨⟨_,_,k1.isTup.typeIs,slot_tuple_getitem.lookup⟩,?_⟩
 rw[iB]at hv
 refine ψ (Option.map_eq_some_iff.mp hv) λ w hw Fy=>?_;subst Fy
 have fq:=(List.getElem?_eq_some_iff.mp hw).1
 refine Θ (xc h0) λ j ahb=>?_;subst ahb
 exact X2 (j:=j) k1.isTup (ji (by decide) (iC j)) h1 (Gk fq) (by simpa using hw) ⟨m,H,hA,Go.refl,q⟩
theorem cq.str{x:Str}{i:Nat}(h1:i<2 ^ 60)(hv:x.cps[i]?=some ch)(q:Q (.str ⟨#[ch]⟩ 0) m H):cq g c (.str x 0) (.int i 0) m H Q X:=by
 intro a' b' ha hb A s hA
 obtain⟨t',rfl⟩:=iU ha
 obtain⟨t,rfl⟩:=iz hb
 refine⟨⟨"str",_,rfl,PySem.F.slot_str_getitem.lookup⟩,?_⟩
 refine PySem.P.getItem_str (c:=ch) ?_ ?_ (gX hA _ q)
 ·rw[Bool.or_eq_false_iff];constructor <;> rw[decide_eq_false_iff_not] <;> omega
 ·have fq:=(Array.getElem?_eq_some_iff.mp hv).1
  have hl:i<x.length:=fq
  exact(Gk hl).symm▸hv
mutual
noncomputable def RD(H:AH):Value->PyData->Prop
 |v,.none=>v=.none
 |v,.bool b=>v=.bool b
 |v,.int i=>v=.int i 0
 |v,.str x=>v=.str x 0
 |v,.list xs=>∃a z vs,v=.ref a/\H a=some (.κ z vs)/\jr H vs xs
 |v,.tuple xs=>∃a vs,v=.ref a/\H a=some (.φ vs)/\jr H vs xs
 |_,.dict _=>False
noncomputable def jr(H:AH):List Value->List PyData->Prop
 | [],[]=>True
 |v::vs,d::ds=>RD H v d/\jr H vs ds
 | [],_::_=>False
 |_::_,[]=>False
end
mutual
theorem RD.reads(x:aC g k hd A H s):∀(d:PyData) {v v':Value},RD H v d->nv v'=v->∃as,Reads s.heap v' d as
 | .none,v,v',h,e=>by delta RD at h;subst h;exact(rI e)▸(⟨_,.none⟩)
 | .bool b,v,v',h,e=>by delta RD at h;subst h;exact(Es e)▸(⟨_,.bool b⟩)
 | .int i,v,v',h,e=>by delta RD at h;subst h;refine Θ (iz e) λ t ahc=>?_;subst ahc;exact⟨_,.int i t⟩
 | .str y,v,v',h,e=>by delta RD at h;subst h;refine Θ (iU e) λ t ahd=>?_;subst ahd;exact⟨_,.str y t⟩
 | .list xs,v,v',h,e=>by
  refine o8 h λ a z vs FW h1 h2=>?_;subst FW
  obtain rfl:=a8 e
  refine ψ (x.sim _ _ h1) λ items Om k2=>?_;refine Θ Om λ n k1=>?_;clear Om
  refine Θ (jr.reads x xs h2 k2) λ as r=>?_
  exact⟨_,.list k1 rfl rfl r⟩
 | .tuple xs,v,v',h,e=>by
  refine dG h λ a vs FX h1 h2=>?_;subst FX
  obtain rfl:=a8 e
  refine ψ (x.sim _ _ h1) λ items Oo k2=>?_;refine Θ Oo λ n k1=>?_;clear Oo
  refine Θ (jr.reads x xs h2 k2) λ as r=>?_
  exact⟨_,.tuple k1 rfl rfl r⟩
 | .dict _,v,v',h,e=>by delta RD at h;exact h.elim
theorem jr.reads(x:aC g k hd A H s):∀(ds:List PyData) {vs gp:List Value},jr H vs ds->gp.map nv=vs->∃as,ReadsAll s.heap gp ds as
 | [],vs,gp,h,e=>by
  cases vs with
  |nil=>cases gp with
   |nil=>exact⟨_,.nil⟩
   |cons=>exact nC e
  |cons v r=>delta jr at h;exact h.elim
 |d::ds,vs,gp,h,e=>by
  cases vs with
  |nil=>delta jr at h;exact h.elim
  |cons v r=>
   cases gp with
   |nil=>exact nL e
   |cons v' r'=>
    simp only[u_,Nr]at e
    refine Θ (RD.reads x d h.1 e.1) λ as a=>?_
    refine Θ (jr.reads x ds h.2 e.2) λ bs b=>?_
    exact⟨_,.cons a b⟩
end
theorem Oq(h:a+16*k+40<L)(hd:d<=30):a+min d e<L:=cI (Ψ (eP (Ψ (Nat.min_le_left d e) hd) a) (aT (cK a (16*k)) (by decide))) h
theorem x6(h:a+16*k+40<L)(hd:d<=30):a+1+min e d<L:=cI (Ψ (eP (Ψ (Ou e d) hd) (a+1)) (Ψ (aU (kF a 1 30)) (aT (cK a (16*k)) (by decide)))) h
theorem Ω.ahe(ra:RD H a da)(rb:RD H b db)(ha:da.canLay0=true)(hb:db.canLay0=true)(hu:da.depth<=30)(q:Q (.bool (eW da db)) m H):Ω g c (cJ .Eq) a b m H Q X:=by
 intro a' b' ea eb A s hA
 refine Θ (RD.reads hA.toaC da ra ea) λ as r1=>?_
 refine Θ (RD.reads hA.toaC db rb eb) λ bs r2=>?_
 exact SeqAt.compareEq_reads r1 r2 ha hb (Oq hA.units hu) ⟨m,H,hA,Go.refl,q⟩
theorem Ω.ahf(ra:RD H a da)(rb:RD H b db)(ha:da.canLay0=true)(hb:db.canLay0=true)(hu:da.depth<=30)(q:Q (.bool (!eW da db)) m H):Ω g c (cJ .NotEq) a b m H Q X:=by
 intro a' b' ea eb A s hA
 refine Θ (RD.reads hA.toaC da ra ea) λ as r1=>?_
 refine Θ (RD.reads hA.toaC db rb eb) λ bs r2=>?_
 exact SeqAt.compareNe_reads r1 r2 ha hb (Oq hA.units hu) ⟨m,H,hA,Go.refl,q⟩
theorem Ω.inl(rb:RD H b (.list xs))(ra:RD H a d)(hb:i4 xs=true)(ha:d.canLay0=true)(hu:d.depth<=30)(q:Q (.bool (xs.any λ y=>eW y d)) m H):Ω g c (cJ .In) a b m H Q X:=by
 intro a' b' ea eb A s hA
 refine Θ (RD.reads hA.toaC d ra ea) λ as r1=>?_
 refine Θ (RD.reads hA.toaC _ rb eb) λ bs r2=>?_
 exact SeqAt.in_list_reads r2 r1 hb ha (x6 hA.units hu) ⟨m,H,hA,Go.refl,q⟩
theorem Ω.nil(rb:RD H b (.list xs))(ra:RD H a d)(hb:i4 xs=true)(ha:d.canLay0=true)(hu:d.depth<=30)(q:Q (.bool (!xs.any λ y=>eW y d)) m H):Ω g c (cJ .NotIn) a b m H Q X:=by
 intro a' b' ea eb A s hA
 refine Θ (RD.reads hA.toaC d ra ea) λ as r1=>?_
 refine Θ (RD.reads hA.toaC _ rb eb) λ bs r2=>?_
 exact SeqAt.notIn_list_reads r2 r1 hb ha (x6 hA.units hu) ⟨m,H,hA,Go.refl,q⟩
theorem Ω.int(rb:RD H b (.tuple xs))(ra:RD H a d)(hb:i4 xs=true)(ha:d.canLay0=true)(hu:d.depth<=30)(q:Q (.bool (xs.any λ y=>eW y d)) m H):Ω g c (cJ .In) a b m H Q X:=by
 intro a' b' ea eb A s hA
 refine Θ (RD.reads hA.toaC d ra ea) λ as r1=>?_
 refine Θ (RD.reads hA.toaC _ rb eb) λ bs r2=>?_
 exact SeqAt.in_tuple_reads r2 r1 hb ha (x6 hA.units hu) ⟨m,H,hA,Go.refl,q⟩
theorem Ω.ahg(rb:RD H b (.tuple xs))(ra:RD H a d)(hb:i4 xs=true)(ha:d.canLay0=true)(hu:d.depth<=30)(q:Q (.bool (!xs.any λ y=>eW y d)) m H):Ω g c (cJ .NotIn) a b m H Q X:=by
 intro a' b' ea eb A s hA
 refine Θ (RD.reads hA.toaC d ra ea) λ as r1=>?_
 refine Θ (RD.reads hA.toaC _ rb eb) λ bs r2=>?_
 exact SeqAt.notIn_tuple_reads r2 r1 hb ha (x6 hA.units hu) ⟨m,H,hA,Go.refl,q⟩
theorem Ω.AL(ha:H a=some (.κ z vs))(hb:H b=some (.κ z' ws))(hl:vs.length+ws.length<=1000)(q:∀x,H x=none->Q (.ref x) m (ξ H x (.κ z2 (vs++ws)))):Ω g c (mK .Add) (.ref a) (.ref b) m H Q X:=by
 intro a' b' ea eb A s hA
 obtain rfl:=a8 ea
 obtain rfl:=a8 eb
 refine ψ (hA.sim _ _ ha) λ i1 Ov e1=>?_;refine Θ Ov λ n1 k1=>?_;clear Ov
 refine ψ (hA.sim _ _ hb) λ i2 Ow e2=>?_;refine Θ Ow λ n2 k2=>?_;clear Ow
 have l1:i1.size=vs.length:=by have:=congrArg jF e1;simpa using this
 have l2:i2.size=ws.length:=by have:=congrArg jF e2;simpa using this
 refine PySem.P.add_list k1 k2 ⟨m,_,hA.new (ao:=.κ z2 (vs++ws)) ⟨i1++i2,⟨_,fZ _ rfl⟩,?_⟩ s.toks,Go.new hA.toaC.dI,q _ hA.toaC.dI⟩ ?_
 ·rw[Ox,rQ,e1,e2]
 ·exact l1▸l2▸mR▸(Ψ (by assumption) (eh _ _))
theorem Ω.AM(ha:H a=some (.φ vs))(hb:H b=some (.φ ws))(hl:vs.length+ws.length<=1000)(q:∀H' x,Ext H H'->H' x=some (.φ (vs++ws))->Q (.ref x) m H'):Ω g c (mK .Add) (.ref a) (.ref b) m H Q X:=by
 intro a' b' ea eb A s hA
 obtain rfl:=a8 ea
 obtain rfl:=a8 eb
 refine ψ (hA.sim _ _ ha) λ i1 AN e1=>?_;refine Θ AN λ n1 k1=>?_;clear AN
 refine ψ (hA.sim _ _ hb) λ i2 Oy e2=>?_;refine Θ Oy λ n2 k2=>?_;clear Oy
 have l1:i1.size=vs.length:=by have:=congrArg jF e1;simpa using this
 have l2:i2.size=ws.length:=by have:=congrArg jF e2;simpa using this
 by_cases c1:i1.isEmpty=true
 ·have:vs=[]:=by
   have:i1=#[]:=by simpa using c1
   exact e1▸this▸rfl
  subst this
  exact concat_meets ⟨_,k1,rfl⟩ ⟨_,k2,rfl⟩ noFill_tuple_add seq_tuple_add F.slot_tuple_add F.entry_tuple_add (F.args_tuple_add_2 _ _) (AutoSeq1.tuple___add___tuple_tuple_0 a i1 n1 b i2 n2 c1) ⟨k1,k2,m,H,hA,Go.refl,q H b Ext.refl (by simpa using hb)⟩
 ·by_cases c2:i2.isEmpty=true
  ·have:ws=[]:=by
    have:i2=#[]:=by simpa using c2
    exact e2▸this▸rfl
   subst this
   exact concat_meets ⟨_,k1,rfl⟩ ⟨_,k2,rfl⟩ noFill_tuple_add seq_tuple_add F.slot_tuple_add F.entry_tuple_add (F.args_tuple_add_2 _ _) (AutoSeq1.tuple___add___tuple_tuple_1 a i1 n1 b i2 n2 c1 c2) ⟨k1,k2,m,H,hA,Go.refl,q H a Ext.refl (by simpa using ha)⟩
  ·refine PySem.P.add_tuple k1 k2 c1 c2 ⟨m,_,hA.new (ao:=.φ (vs++ws)) ⟨i1++i2,⟨_,fZ _ rfl⟩,?_⟩ s.toks,Go.new hA.toaC.dI,q _ _ (Ext.new hA.toaC.dI) jq⟩ ?_
   ·rw[Ox,rQ,e1,e2]
   ·exact l1▸l2▸mR▸(Ψ (by assumption) (eh _ _))
theorem Ω.adds(hl:x.length+y.length<=1000)(q:Q (.str (x++y) 0) m H):Ω g c (mK .Add) (.str x 0) (.str y 0) m H Q X:=by
 intro a' b' ea eb A s hA
 obtain⟨t,rfl⟩:=iU ea
 obtain⟨u,rfl⟩:=iU eb
 exact PyProof.Rows.add_str (λ t' tk=>gX hA tk q) (by refine mR▸?_;exact Ψ (by assumption) (eh _ _))
end
section
variable {g:Gv}{k:Nat}
theorem bh.top(x:At g c A m H s)(he:AB s.heap.objs.size s.heap h'):bh g H s.heap h' where
 old a o q e:=he a o (gc (dO e)) e
 lb a q:=by
  cases e:H a with
  |none=>exact absurd e q
  |some ao=>
   refine Θ ((x.sim a ao e).get) λ o ho=>?_
   exact ho▸(he a o (gc (dO ho)) ho)
 lg a o e _:=⟨o.slots,he a o (gc (dO e)) e⟩
 sz _:=by
  obtain⟨mm,⟨o,es,ep,h1,h2,_⟩,_⟩:=x.ns
  exact Ψ x.c9 (jo (dO (he _ _ (gc (dO h1)) h1)))
theorem Go.top(he:AB h.objs.size h h'):Go L H h H h':=
 Go.same λ a o _ _ e=>⟨o.slots,he a o (gc (dO e)) e⟩
theorem rY(h1:c.sc.names.lookup a=some .local)(h2:codeOf a=some i)
  (q:W g c (GF ts vs) (put i (nv v) m) H Q X):W g c (GF ((λ v=>assign (.Name a p) c.env v)::ts) (v::vs)) m H Q X:=by
 intro A s hA
 exact assignInOrder_cons (assign_Name (step hA hA Go.refl (store (Q:=λ _ m' H'=>W g c (GF ts vs) m' H' Q X) h1 h2 q) λ _ s₁ ρ H₁ b1 b2 b3=>next hA b1 b2 b3))
theorem GG{v':Value}(ht:TA H t us)(hd:c.hd=none)(hn:(GH elts c.env).length=us.length)(hs:(GH elts c.env).findIdx? (·.1)=none)
  (h:∀vs:List Value,vs.map nv=us->W g c (GF ((GH elts c.env).map (·.2)) vs) m H Q X):W g c (assign (.Tuple elts kk p) c.env (.ref t)) m H Q X:=by
 intro A s hA
 refine ψ (ht.seq hA.toaC) λ items k1 k2=>?_
 have hsz:(GH elts c.env).length=items.size:=by refine hn▸k2▸?_;simp
 refine assign_Tuple_tuple (by exact hA.hand▸hd▸rfl) k1.isTup hsz hs λ h' he=>?_
 exact next hA (hA.shift (bh.top hA he) s.toks) (Go.top he) (h items.toList k2)
theorem Oz(h:Sp n sc e (.call f as))(ts:List Expr)(kk:_)(pp:Pos)(env:Env):swappedStores [.Tuple ts kk pp] e env=pure none:=by
 obtain⟨n',x,q,as',p,rfl,_⟩:=MP h
 rfl
theorem S1.lX(hd:c.hd=none)(h:V g c (.call f as) m H (λ v ρ H₁=>∃t u w,v=.ref t/\TA H₁ t [u,w]/\Q .next (put j w (put i u ρ)) H₁) X):S1 g c (.lX i j (.call f as)) m H Q X:=by
 intro n st hs A s hA
 obtain⟨n',a,q,b,r,kk,p,x',pos,rfl,h1,h2,h3⟩:=Wg hs
 refine ag (jE h1) λ a1 a2=>?_
 refine ag (jE h2) λ b1 b2=>?_
 refine Assign_Tuple (step hA hA Go.refl (h n' x' h3) λ v s₁ ρ H₁ k1 k2 GI=>o8 GI λ t u w e1 e2 e3=>?_) (u5 h3 rfl (some (.Tuple [.Name a q,.Name b r] kk p)) pos.line c.env) (Oz h3 _ _ _ _)
 obtain rfl:=a8 e1
 refine step hA k1 k2 (GG (Q:=λ _ m' H'=>Q .next m' H') (v':=.none) e2 hd rfl rfl λ vs kG=>?_) λ _ ae Ξ ο q1 q2 q3=>⟨Ξ,ο,q1,q2,q3⟩
 refine dG (List.map_eq_cons_iff.mp kG) λ x1 r1 z1 z2 z3=>?_;refine dG (List.map_eq_cons_iff.mp z3) λ x2 r2 z4 z5 z6=>?_;cases List.map_eq_nil_iff.mp z6;clear kG z3 z6;subst z1;subst z2;subst z4;subst z5
 refine rY a1 a2 (rY b1 b2 ?_)
 exact W.pure e3
theorem S1.nX(hd:c.hd=none)(h:V g c (.call f as) m H (λ v ρ H₁=>∃t u w z,v=.ref t/\TA H₁ t [u,w,z]/\Q .next (put l z (put j w (put i u ρ))) H₁) X):S1 g c (.nX i j l (.call f as)) m H Q X:=by
 intro n st hs A s hA
 obtain⟨n',a,q,b,r,d,y,kk,p,x',pos,rfl,h1,h2,h4,h3⟩:=Wh hs
 refine ag (jE h1) λ a1 a2=>?_
 refine ag (jE h2) λ b1 b2=>?_
 refine ag (jE h4) λ d1 d2=>?_
 refine Assign_Tuple (step hA hA Go.refl (h n' x' h3) λ v s₁ ρ H₁ k1 k2 GI=>nU GI λ t u w z e1 e2 e3=>?_) (u5 h3 rfl (some (.Tuple [.Name a q,.Name b r,.Name d y] kk p)) pos.line c.env) (Oz h3 _ _ _ _)
 obtain rfl:=a8 e1
 refine step hA k1 k2 (GG (Q:=λ _ m' H'=>Q .next m' H') (v':=.none) e2 hd rfl rfl λ vs kG=>?_) λ _ ae Ξ ο q1 q2 q3=>⟨Ξ,ο,q1,q2,q3⟩
 refine dG (List.map_eq_cons_iff.mp kG) λ x1 r1 z1 z2 z3=>?_;refine dG (List.map_eq_cons_iff.mp z3) λ x2 r2 z4 z5 z6=>?_;refine dG (List.map_eq_cons_iff.mp z6) λ x3 r3 z7 z8 z9=>?_;cases List.map_eq_nil_iff.mp z9;clear kG z3 z6 z9;subst z1;subst z2;subst z4;subst z5;subst z7;subst z8
 refine rY a1 a2 (rY b1 b2 (rY d1 d2 ?_))
 exact W.pure e3
def dK(g:Gv)(c:Cx)(o i v:Value)(m:Lc)(H:AH)(Q:Lc->AH->Prop)(X:Value->Lc->AH->Prop):Prop:=∀o' i' v',nv o'=o->nv i'=i->nv v'=v->W g c (setItem o' i' v') m H (λ _=>Q) X
theorem S1.bR(hp:lY x=true)(h:V g c x m H (λ v ρ H₁=>V g c o ρ H₁ (λ a Ξ ο=>V g c i Ξ ο (λ b cw ω=>dK g c a b v cw ω (Q .next) X) X) X) X):S1 g c (.bR o i x) m H Q X:=by
 intro n st hs A s hA
 refine xi (Wf hs) λ n' o' i' q x' p ahh h1 h2 h3=>?_;refine ahh.symm▸?_
 refine wpAny_Assign_Subscript (step hA hA Go.refl (h n' x' h3) λ v s₁ ρ H₁ a1 a2 a3=>step hA a1 a2 (a3 n' o' h1) λ a ae Ξ ο b1 b2 b3=>step hA b1 b2 (b3 n' i' h2) λ b bZ cw ω d1 d2 d3=>?_) (u5 h3 hp _ _ _)
 exact step hA d1 d2 (d3 a b v rfl rfl rfl) λ _ bc dP ar f1 f2 f3=>⟨dP,ar,f1,f2,f3⟩
theorem dK.κ(hl:H l=some (.κ false vs))(h0:0<=i)(OA:i<2 ^ 63)(hj:i.toNat<vs.length)(q:Q m (ξ H l (.κ false (vs.set i.toNat v)))):dK g c (.ref l) (.int i 0) v m H Q X:=by
 intro o' i' v' eo ei ev A s hA
 obtain rfl:=a8 eo
 refine Θ (iz ei) λ t EI=>?_;subst EI
 refine ψ (hA.sim _ _ hl) λ items ahi k2=>?_;obtain⟨n,k1⟩:=ahi
 have hn:i.toNat<items.size:=by have:=congrArg jF k2;simp at this;exact aH (aT hj (aU this.symm)) (by simp +arith only)
 have T:s.TypeIs (.ref l) "list":=⟨_,k1,rfl⟩
 delta setItem
 try with_reducible refine gY ?_
 first |refine Δ (aL ?_)|skip
 refine Δ (wpAny_sequenceKey T (by decide) ?_)
 refine Δ (FU (name:=dy "__setitem__") T slot_list_setitem
  (xR slot_list_setitem T entry_list_setitem ?_ (args_list_setitem _ _ _)))
 show wpAny _ _ (Builtin.List.listSubscript? (.int i t) >>= _) _ _ s
 refine Δ (wpAny_listSubscript_int (fitsIndex_of h0 OA) ?_)
 clear OA
 refine Θ (xc h0) λ j EK=>?_;subst EK
 simp only[Int.toNat_natCast]at hn hj q
 have OB:items[j]?=some items[j]:=adv hn
 show wpAny _ _ ((seqItemAt l j >>= λ r=>pure (r.map (j,·))) >>= _) _ _ s
 refine Δ (Δ (wpAny_seqItemAt k1 rfl (aL ?_)))
 refine OB▸?_
 show wpAny _ _ (setSeqItemAt l j v' >>= _) _ _ s
 refine Δ (wpAny_setSeqItemAt k1 rfl ?_)
 refine Θ (⟨_,rfl⟩:∃n',mS (·.setIfInBounds j v') {cls:=.type "list",data:=.seq items n}={cls:=.type "list",data:=.seq (items.setIfInBounds j v') n'}) λ n' hm=>?_
 have sb:=lj s.heap l (mS (·.setIfInBounds j v'))
 have ahj:gI g (s.heap.update l (mS (·.setIfInBounds j v'))) l (.κ false (vs.set j v)):=⟨_,⟨n',by rw[mO _ k1 (by exact hm▸rfl),hm]⟩,by rw[Array.toList_setIfInBounds,List.map_set,k2,ev]⟩
 have fin:fF g c A H s (λ _=>Q) () {s with heap:=s.heap.update l (mS (·.setIfInBounds j v'))}:=⟨m,_,hA.chg hl sb ahj s.toks,Go.chg hl rfl (λ _ z=>nomatch z) sb,q⟩
 first
  |exact Δ (aL (aL ⟨.none,rfl,aL fin⟩))
  |exact aL ⟨.none,rfl,aL fin⟩
theorem S1.mF
  (h:V g c o m H (λ a ρ H₁=>V g c i ρ H₁ (λ b Ξ ο=>cq g c a b Ξ ο (λ u cw ω=>V g c x cw ω (λ w dP ar=>Ω g c (rN op) u w dP ar (λ r mP aV=>dK g c a b r mP aV (Q .next) X) X) X) X) X) X):S1 g c (.mF o i op x) m H Q X:=by
 intro n st hs A s hA
 refine xi (Wl hs) λ n' o' i' q x' p ahk h1 h2 h3=>?_;refine ahk.symm▸?_
 refine wpAny_AugAssign_SubscriptAny (step hA hA Go.refl (h n' o' h1) λ a s₁ ρ H₁ a1 a2 a3=>step hA a1 a2 (a3 n' i' h2) λ b ae Ξ ο b1 b2 b3=>?_) ?_
 ·refine step hA b1 b2 (Q:=λ v m' H'=>V g c x m' H' (λ w dP ar=>Ω g c (rN op) (nv v) w dP ar (λ r mP aV=>dK g c (nv a) (nv b) r mP aV (Q .next) X) X) X) (λ A s hA=>(b3 a b rfl rfl A s hA).2) λ u bZ cw ω d1 d2 d3=>?_
  exact step hA d1 d2 (d3 n' x' h3) λ w bc dP ar e1 e2 e3=>step hA e1 e2 (e3 u w rfl rfl) λ r f_ mP aV f1 f2 f3=>step hA f1 f2 (f3 a b r rfl rfl rfl) λ _ gZ vd cU j1 j2 j3=>⟨vd,cU,j1,j2,j3⟩
 ·intro ov iv new
  refine ψ h2 λ d k ahl=>?_;clear h2;refine ahl.symm▸?_
  cases i <;> rfl
noncomputable def js{K:Type}[DecidableEq K](k:K)(v:Value)(es:List (K×Value)):List (K×Value):=if es.any (λ p=>p.1=k)then es.map (λ p=>if p.1=k then(p.1,v)else p)else es++[(k,v)]
noncomputable def atK{K:Type}[DecidableEq K](k:K)(es:List (K×Value)):Option Value:=(es.find? λ p=>p.1=k).map (·.2)
theorem vi{K:Type}[DecidableEq K](k:K):∀kvs:List (K×Value),(valueAt kvs k).map nv=atK k (kvs.map λ p=>(p.1,nv p.2))
 | []=>rfl
 | (a,b)::r=>by
  delta valueAt atK at *
  by_cases h:a=k
  ·simp[vb,h]
  ·simp only[u_,vb,h,decide_false];exact(vi k r)
theorem OC{K:Type}[DecidableEq K](k:K)(v:Value)(kvs:List (K×Value)):(stored kvs k v).map (λ p=>(p.1,nv p.2))=js k (nv v) (kvs.map λ p=>(p.1,nv p.2)):=by
 delta stored js
 refine List.any_map▸?_
 have:((λ p:K×Value=>decide (p.1=k))∘λ p:K×Value=>(p.1,nv p.2))=λ p=>decide (p.1=k):=rfl
 rw[this]
 split
 ·rw[List.map_map,List.map_map]
  congr 1
  funext p
  by_cases h:p.1=k <;> simp[h]
 ·simp
theorem vj(x:aC g k hd A H s)(h:H d=some o):(d==sysModules)=false:=by
 have h1:=x.low d o h
 have h2:3<g.cm.objs.size:=by
  have e:(HD.KK g.w.params).lookup 3=some (HD.zz0.D3 g.w.params):=by kernel_rfl
  rw[<- x.ok.kk]at e
  exact dO (x.ok.dZ _ _ e)
 rw[beq_eq_false_iff_ne]
 intro z
 have z:d=1:=z
 rw[z]at h1
 exact VH (aT h1 h2) (by simp +arith only)
theorem GJ(h:nv v=.int i 0):(u4 PW g.w).is i v=true:=by refine Θ (iz h) λ t ahm=>?_;refine ahm.symm▸?_;simp[u4,Value.isInt]
theorem isStr_of(h:nv v=.str x 0):(vk PW g.w).is x v=true:=by refine Θ (iU h) λ t ahn=>?_;refine ahn.symm▸?_;simp[vk,OD]
theorem cq.sd{d:Addr}{z:Bool}{es:List (Str×Value)}(hd:H d=some (.sd z es))(hv:atK x es=some v)(q:Q v m H):cq g c (.ref d) (.str x 0) m H Q X:=by
 intro a' b' ha hb A s hA
 obtain rfl:=a8 ha
 refine ψ (hA.sim _ _ hd) λ kvs k1 aho=>?_;subst aho
 refine⟨⟨_,_,k1.typeIs,slot_dict_getitem.lookup⟩,?_⟩
 rw[<- vi]at hv
 refine ψ (Option.map_eq_some_iff.mp hv) λ w hw ahp=>?_;subst ahp
 exact wpAny_getItem_of (isStr_of (g:=g) hb) k1.mapOf hw (gX hA _ q)
theorem Ω.vl{d:Addr}{z:Bool}(hd:H d=some (.sd z es))(q:Q (.bool (atK x es).isSome) m H):Ω g c (cJ .In) (.str x 0) (.ref d) m H Q X:=by
 intro a' b' ha hb A s hA
 obtain rfl:=a8 hb
 refine ψ (hA.sim _ _ hd) λ kvs k1 ahq=>?_;subst ahq
 refine wpAny_in_of (isStr_of (g:=g) ha) (vj hA.toaC hd) k1.mapOf (gX hA _ ?_)
 rw[<- vi,Option.isSome_map]at q
 exact q
theorem dK.sd{d:Addr}{es:List (Str×Value)}(hd:H d=some (.sd false es))(hl:es.length<1000)(q:Q m (ξ H d (.sd false (js x v es)))):dK g c (.ref d) (.str x 0) v m H Q X:=by
 intro o' i' v' eo ei ev A s hA
 obtain rfl:=a8 eo
 refine ψ (hA.sim _ _ hd) λ kvs k1 ahr=>?_;subst ahr
 refine wpAny_setItem_pairs (isStr_of (g:=g) ei) k1 (λ h' k2 sb=>⟨m,_,hA.chg (ao':=.sd false (js x v (kvs.map λ p=>(p.1,nv p.2)))) hd sb ⟨_,k2,by rw[OC,ev]⟩ _,Go.chg hd rfl (λ _ z=>nomatch z) sb,q⟩) ?_
 refine mR▸?_;simp at hl;exact aH hl (by simp +arith only)
theorem dK.bu{d:Addr}{es:List (Int×Value)}(hd:H d=some (.bu false es))(hl:es.length<1000)(q:Q m (ξ H d (.bu false (js i v es)))):dK g c (.ref d) (.int i 0) v m H Q X:=by
 intro o' i' v' eo ei ev A s hA
 obtain rfl:=a8 eo
 refine ψ (hA.sim _ _ hd) λ kvs k1 ahs=>?_;subst ahs
 refine wpAny_setItem_pairs (GJ (g:=g) ei) k1 (λ h' k2 sb=>⟨m,_,hA.chg (ao':=.bu false (js i v (kvs.map λ p=>(p.1,nv p.2)))) hd sb ⟨_,k2,by rw[OC,ev]⟩ _,Go.chg hd rfl (λ _ z=>nomatch z) sb,q⟩) ?_
 refine mR▸?_;simp at hl;exact aH hl (by simp +arith only)
theorem μ.aht{d:Addr}{z:Bool}{es:List (Int×Value)}(hd:H d=some (.bu z es))(q:Q ((atK i es).getD .none) H):μ g k (.builtin "dict.get") [.ref d,.int i 0] H Q E:=by
 intro A s raw aO hA
 obtain⟨a,b,rfl,ha,hb⟩:∃a b,raw=[a,b]/\nv a=.ref d/\nv b=.int i 0:=by
  rcases raw with _ |⟨a,_ |⟨b,_ |⟨e,r⟩⟩⟩ <;> simp at aO
  exact⟨a,b,rfl,aO.1,aO.2⟩
 obtain rfl:=a8 ha
 refine ψ (hA.sim _ _ hd) λ kvs k1 ahu=>?_;subst ahu
 refine GK GL k1.typeIs OE (F.args_dict_get_2 _ _) (meets_dict_get (u4 PW g.w) d (GJ (g:=g) hb) (vj hA hd)) ⟨_,k1.mapOf,lx hA _ ?_⟩
 rw[<- vi]at q
 cases e:valueAt kvs i <;> rw[e]at q <;> exact q
theorem μ.ahv{d:Addr}{z:Bool}{es:List (Str×Value)}(hd:H d=some (.sd z es))(q:Q ((atK x es).getD .none) H):μ g k (.builtin "dict.get") [.ref d,.str x 0] H Q E:=by
 intro A s raw aO hA
 obtain⟨a,b,rfl,ha,hb⟩:∃a b,raw=[a,b]/\nv a=.ref d/\nv b=.str x 0:=by
  rcases raw with _ |⟨a,_ |⟨b,_ |⟨e,r⟩⟩⟩ <;> simp at aO
  exact⟨a,b,rfl,aO.1,aO.2⟩
 obtain rfl:=a8 ha
 refine ψ (hA.sim _ _ hd) λ kvs k1 ahw=>?_;subst ahw
 refine GK GL k1.typeIs OE (F.args_dict_get_2 _ _) (meets_dict_get (vk PW g.w) d (isStr_of (g:=g) hb) (vj hA hd)) ⟨_,k1.mapOf,lx hA _ ?_⟩
 rw[<- vi]at q
 cases e:valueAt kvs x <;> rw[e]at q <;> exact q
theorem μ.ahx{d:Addr}{z:Bool}{es:List (Int×Value)}(hd:H d=some (.bu z es))(q:Q ((atK i es).getD v) H):μ g k (.builtin "dict.get") [.ref d,.int i 0,v] H Q E:=by
 intro A s raw aO hA
 obtain⟨a,b,e,rfl,ha,hb,he⟩:∃a b e,raw=[a,b,e]/\nv a=.ref d/\nv b=.int i 0/\nv e=v:=by
  rcases raw with _ |⟨a,_ |⟨b,_ |⟨e,_ |⟨e2,r⟩⟩⟩⟩ <;> simp at aO
  exact⟨a,b,e,rfl,aO.1,aO.2.1,aO.2.2⟩
 obtain rfl:=a8 ha
 refine ψ (hA.sim _ _ hd) λ kvs k1 ahy=>?_;subst ahy
 refine GK GL k1.typeIs OE (F.args_dict_get_3 _ _ _) (meets_dict_get_default (u4 PW g.w) d (GJ (g:=g) hb) (vj hA hd) e) ⟨_,k1.mapOf,lx hA _ ?_⟩
 rw[<- vi]at q
 cases e:valueAt kvs i <;> rw[e]at q
 ·exact Option.getD_none▸he▸(q)
 ·exact q
end
section
variable {k:Nat}
def Vo(g:Gv)(c:Cx)(e:Option PE)(m:Lc)(H:AH)(Q:Value->Lc->AH->Prop)(X:Value->Lc->AH->Prop):Prop:=match e with|none=>Q .none m H |some e=>V g c e m H Q X
theorem Vo.w{n:Nat}{a:Option Expr}{lo:Option PE}(hs:nY n c.sc a lo)(h:Vo g c lo m H Q X):W g c (evalPart a c.env) m H (λ v m' H'=>Q (nv v) m' H') X:=by
 cases lo with
 |none=>exact hs.az▸(W.pure h)
 |some p=>refine ψ hs.Wc λ e xJ h1=>?_;refine xJ.symm▸?_;exact h n e h1
noncomputable def kH:Option Int->Value
 |none=>.none
 |some i=>.int i 0
theorem GN(h:nv v=kH p):IsPart v p:=by
 cases p with
 |none=>exact(rI h)▸(.none)
 |some i=>obtain⟨t,rfl⟩:=iz h;exact .int i t
noncomputable def iE(vs:List Value)(lo hi st:Option Int):List Value:=(slicePick vs.toArray lo hi st).toList
theorem ahz(items:Array Value)(lo hi st:Option Int):(slicePick items lo hi st).toList.map nv=iE (items.toList.map nv) lo hi st:=by
 delta iE slicePick
 simp only[List.map_filterMap]
 have h1:((List.map nv items.toList).toArray).size=items.size:=by simp
 refine h1▸?_
 congr 1
 funext i
 cases items
 simp
theorem ahA(vs:List Value)(a:Nat):iE vs (some a) none none=vs.drop a:=by delta iE;rw[slicePick_from']
theorem ahB(vs:List Value)(b:Nat):iE vs none (some b) none=vs.take b:=by delta iE;rw[slicePick_upto']
theorem ahC(vs:List Value)(a b:Nat)(hb:b<=vs.length)(dz:a<=b):iE vs (some a) (some b) none=(vs.drop a).take (b-a):=by delta iE;rw[slicePick_run _ _ _ (by simpa using hb) dz]
theorem ahD(n:Nat):sliceRange ((n:Int)-1) (-1) (-1)=(rJ n).map λ k=>n-1-k:=by
 delta sliceRange
 simp only[show ¬((-1:Int)>0)by decide,if_false]
 have hc:(if(n:Int)-1 > -1 then((n:Int)-1 - -1 - -1-1) / - -1 else 0).toNat=n:=by
  cases n with
  |zero=>rfl
  |succ n=>rw[xf,if_pos (xe (by decide) (iC n)),show((n:Int) - -1 - -1-1) / - -1=((n+1:Nat):Int)from(Int.ediv_one _).trans (xf (n:=n+1))];rfl
 rw[hc]
 apply List.map_congr_left
 intro k hk
 rw[Int.neg_one_mul,<- Int.sub_eq_add_neg,GO,show(1:Int)+k=((1+k:Nat):Int)from rfl,Int.toNat_sub,Nat.sub_sub]
theorem OF{α β:Type}{f h:α->Option β}:∀{l:List α},(∀x∈l,f x=h x)->l.filterMap f=l.filterMap h
 | [],_=>rfl
 |a::r,k=>by rw[Nc,Nc,k a eU,OF λ x hx=>k x (eA _ hx)]
theorem ahE(vs:List Value):iE vs none none (some (-1))=vs.reverse:=by
 delta iE slicePick
 have e:sliceBounds none none (some (-1)) vs.toArray.size=((vs.length:Int)-1,-1,-1):=by simp[sliceBounds]
 refine e▸?_
 dsimp only
 rw[ahD,AP]
 have h:=pick_run vs.reverse.toArray 0 vs.length
 rw[AP]at h
 have h2:(rJ vs.length).filterMap ((λ x=>vs.toArray[x]?)∘λ k=>vs.length-1-k)=(rJ vs.length).filterMap ((λ x=>vs.reverse.toArray[x]?)∘λ x=>0+x):=by
  apply OF
  intro k hk
  simp only[Function.comp,List.getElem?_toArray,lW]
  exact(adw (List.mem_range.mp hk))▸rfl
 refine h2▸h▸?_
 simp only[OG]
 exact GP (by simp)
theorem ahF(o i:Value):∃hs,Ge (.Slice a b cc q) false o i=operate hs (getItem o i):=by
 cases cc <;> exact⟨_,rfl⟩
def rZ(H:AH)(a:Addr)(vs:List Value):Prop:=(∃z,H a=some (.κ z vs))\/∃items n,H a=some (.fix {cls:=.type "list",data:=.seq items n})/\items.toList.map nv=vs
theorem rZ.seq(h:rZ H a vs)(x:aC g k hd A H s):∃items,SeqAt "list" s.heap a items/\items.toList.map nv=vs:=by
 rcases h with ⟨z,h⟩|⟨items,n,h,e⟩
 ·exact x.sim _ _ h
 ·exact⟨items,⟨n,x.sim _ _ h⟩,e⟩
theorem OH{A:bS}{S:Shared}{T id:String}{x w:Addr}(T1:S.TypeIs (.ref x) T)(sl:Slot T (dy "__getitem__") id)(hg:wpAny (MM g) A (getItem (.ref x) (.ref w)) P E S):
  wpAny (MM g) A (GQ v' (.Slice a b cc q) (.ref x) (.ref w)) P E S:=by
 delta GQ
 refine Δ ?_
 refine(getitemInPython_of_ne T1.not_modules)▸?_
 refine Δ (wpAny_specialOf T1 sl.lookup ?_)
 obtain⟨hs,es⟩:=ahF (a:=a) (b:=b) (cc:=cc) (q:=q) (.ref x) (.ref w)
 have fin:wpAny (MM g) A (Ge (.Slice a b cc q) false (.ref x) (.ref w)) (λ r bZ=>wpAny (MM g) A (Nv v' (.ref x) r >>= λ _=>pure r) P E bZ) E S:=by
  refine es▸?_
  exact Ny (cD hg (λ r s h=>Δ (Nw (aL h))) λ _ _ h=>h)
 first
  |exact aL (Δ fin)
  |exact Δ (aL (Δ fin))
  |exact Δ fin
theorem ahG(d1:At g c A m H s)(e2:rZ H x vs)(e3:nv l=kH pl)(e4:nv u=kH pu)(e5:nv t=kH ps)(e6:ps≠some 0)(e7:vs.length<=100000)
  (k:∀y s',H y=none->At g c A m (ξ H y (.κ z2 (iE vs pl pu ps))) s'->Go (some c.env.locals) H s.heap (ξ H y (.κ z2 (iE vs pl pu ps))) s'.heap->P (.ref y) s'):
  wpAny (MM g) A (GQ v' (.Slice a b cc q) (.ref x) (.ref s.heap.objs.size)) P E {s with heap:=s.heap.push {cls:=.type "slice",data:=.fields #[l,u,t]}}:=by
 have f1:=d1.push {cls:=.type "slice",data:=.fields #[l,u,t]} s.toks
 refine ψ (e2.seq f1.toaC) λ items AN k2=>?_;obtain⟨nn,k1⟩:=AN
 have hsz:items.size<=sizeLine:=by
  have:=congrArg jF k2
  simp at this
  exact this▸mR▸(Ψ e7 (eh _ _))
 exact OH (T:="list") ⟨_,k1,rfl⟩ slot_list_getitem (wpAny_getItem_list_slice (hsz:=hsz) ⟨_,k1,rfl,nn,rfl⟩ (agC s.heap l u t) (GN e3) (GN e4) (GN e5) e6
  (k _ _ (f1.toaC.dI) (f1.new (ao:=.κ z2 (iE vs pl pu ps)) ⟨_,⟨_,fZ _ rfl⟩,by rw[ahz,k2]⟩ s.toks) ((Go.push (L:=some c.env.locals) (h:=s.heap) _).trans (Go.new (f1.toaC.dI)))))
theorem V.OI{o:PE}{lo hi st:Option PE}(h:V g c o m H (λ a ρ H₁=>Vo g c lo ρ H₁ (λ l Ξ ο=>Vo g c hi Ξ ο (λ u cw ω=>Vo g c st cw ω (λ s dP ar=>
  ∃x vs pl pu ps,a=.ref x/\rZ ar x vs/\l=kH pl/\u=kH pu/\s=kH ps/\ps≠some 0/\vs.length<=100000/\∀y,ar y=none->Q (.ref y) dP (ξ ar y (.κ z2 (iE vs pl pu ps)))) X) X) X) X):V g c (.dT o lo hi st) m H Q X:=by
 intro n e' he A s hA
 refine Ej (MO he) λ n' v' a b cc q p aaa h1 h2 h3 h4=>?_;refine aaa.symm▸?_
 refine Subscript_ (step hA hA Go.refl (h n' v' h1) λ o s₁ ρ H₁ a1 a2 a3=>?_)
 refine wpAny_Slice (step hA a1 a2 (Vo.w h2 a3) λ l ae Ξ ο b1 b2 b3=>step hA b1 b2 (Vo.w h3 b3) λ u bZ cw ω c1 c2 c3=>step hA c1 c2 (Vo.w h4 c3) λ t bc dP ar d1 d2 d3=>?_)
 obtain⟨x,vs,pl,pu,ps,e1,e2,e3,e4,e5,e6,e7,e8⟩:=d3
 exact a8 e1▸ahG d1 e2 e3 e4 e5 e6 e7 λ y s' y1 y2 y3=>⟨_,_,y2,d2.trans y3,e8 y y1⟩
end
section
variable {k:Nat}
theorem aab(a b n:Nat)(dz:a<=b)(hb:b<=n):OJ (some (a:Int)) (some (b:Int)) 1 (n:Int)=((a:Int),(b:Int)):=by
 unfold OJ
 have h1:¬((1:Int)<0):=by decide
 have h2:¬((a:Int)<0):=Int.not_lt.mpr (iC a)
 have h3:¬((b:Int)<0):=Int.not_lt.mpr (iC b)
 simp only[h1,h2,h3,if_false]
 congr 1 <;> omega
theorem aac(a b:Nat)(dz:a<=b):GS (a:Int) (b:Int) 1=b-a:=by
 unfold GS
 have h1:(1:Int)>0:=by exact iC _
 simp only[h1,if_true,Int.ediv_one]
 split
 ·rw[Int.sub_add_cancel];exact Int.toNat_sub b a
 ·exact(Nat.sub_eq_zero_of_le (Int.ofNat_le.mp (Int.not_lt.mp ‹_›))).symm
theorem aad{prog:Program}{w:eZ}{A:bS}{E:Value->Shared->Prop}{s:Shared}{sl:Addr}{a b n:Nat}(hs:s.heap.IsSliceOf sl (.int a u) (.int b u') .none)(dz:a<=b)(hb:b<=n)(h:Q ((a:Int),1,b-a) s):
  wpAny (model prog w) A (Builtin.Slice.sliceApplied (.ref sl) (pure (n:Int))) Q E s:=by
 refine fh (id hs) λ os jt r7 AQ=>?_
 refine Δ (Δ (jm jt AQ (x:=.int a u) rfl (Δ (jm jt AQ (x:=.int b u') rfl (Δ (jm jt AQ (x:=.none) rfl (aL ?_)))))))
 refine Δ (slicePart_none ?_)
 refine Δ (slicePart_int (Δ (slicePart_int (Δ (aL ?_)))))
 show wpAny _ _ (match OJ (some (a:Int)) (some (b:Int)) 1 (n:Int)with| (lo,hi)=>pure (lo,(1:Int),GS lo hi 1)) _ _ s
 refine(aab a b n dz hb)▸?_
 show wpAny _ _ (pure ((a:Int),(1:Int),GS (a:Int) (b:Int) 1)) _ _ s
 refine(aac a b dz)▸?_
 exact aL h
theorem aae(xs:Array Value)(a n:Nat):((rJ n).filterMap λ(k:Nat)=>xs[((a:Int)+(k:Int)*1).toNat]?).toArray=((xs.toList.drop a).take n).toArray:=by
 have e:(λ(k:Nat)=>xs[((a:Int)+(k:Int)*1).toNat]?)=λ k=>xs[a+k]?:=by
  funext k
  have:((a:Int)+(k:Int)*1).toNat=a+k:=by exact(kF _ _ _).symm
  exact this▸rfl
 refine e▸?_
 have:=pick_run xs a n
 rw[AP]at this
 have e2:((λ x=>xs[x]?)∘λ x=>a+x)=λ k=>xs[a+k]?:=rfl
 rw[e2]at this
 exact this▸rfl
theorem aaf{prog:Program}{w:eZ}{A:bS}{E:Value->Shared->Prop}{s:Shared}{t sl:Addr}{items:Array Value}{a b:Nat}(ht:IsTup s.heap t items)(hs:s.heap.IsSliceOf sl (.int a u) (.int b u') .none)(dz:a<=b)(hb:b<=items.size)(hw:b-a≠items.size)
  (h:Q (.ref s.heap.objs.size) {s with heap:=s.heap.push {cls:=.type "tuple",data:=.seq ((items.toList.drop a).take (b-a)).toArray}})
  (hsz:items.size<=sizeLine):wpAny (model prog w) A (getItem (.ref t) (.ref sl)) Q E s:=by
 have AR:sizeOk (.seq ((items.toList.drop a).take (b-a)).toArray):=by
  show((items.toList.drop a).take (b-a)).toArray.size<=sizeLine
  refine List.size_toArray▸OL▸x7▸aag▸?_
  exact Ψ (Ou _ _) (Ψ (AS _ _) hsz)
 refine fh (id hs) λ os jt r7 AQ=>?_
 have hTs:s.TypeIs (.ref sl) "slice":=⟨os,jt,r7⟩
 unfold getItem
 try with_reducible refine gY ?_
 first |refine Δ (aL ?_)|skip
 refine Δ (wpAny_sequenceKey ht.typeIs (by decide) ?_)
 refine Δ (FU (name:=dy "__getitem__") ht.typeIs OM
  (xR OM ht.typeIs entry_tuple_getitem ?_ (args_tuple_getitem _ _)))
 show wpAny _ _ (Builtin.Tuple.tupleItemsOf (.ref t) >>= _) _ _ s
 refine Δ (tupleItemsOf_ ht ?_)
 refine Δ (wpAny_typeOf hTs ?_)
 rw[if_pos (by decide)]
 refine Δ (aad hs dz hb ?_)
 have x8:¬(((a:Int)==0&&(1:Int)==1&&(b-a)==items.size)=true):=by
  have:((b-a)==items.size)=false:=by rw[beq_eq_false_iff_ne];exact hw
  refine this▸?_;simp
 show wpAny _ _ (if((a:Int)==0&&(1:Int)==1&&(b-a)==items.size)=true then _ else _) _ _ s
 refine(if_neg x8)▸(aae items a (b-a))▸?_
 first
  |exact Δ (m:=GU _) (pd (aL ⟨_,rfl,aL h⟩) AR)
  |exact Δ (m:=GU _) (pd (Δ (aL (aL ⟨_,rfl,aL h⟩))) AR)
  |exact Δ (Δ (m:=GU _) (pd (aL (aL ⟨_,rfl,aL h⟩)) AR))
  |exact Δ (Δ (m:=GU _) (pd (aL ⟨_,rfl,aL h⟩) AR))
theorem Vo.ws{n:Nat}{a:Option Expr}{lo:PE}(hs:nY n c.sc a (some lo))(h:V g c lo m H Q X):W g c (evalPart a c.env) m H (λ v m' H'=>Q (nv v) m' H') X:=Vo.w (lo:=some lo) hs h
theorem aah{A:bS}{s:Shared}{x:Addr}{vs:List Value}{v':Expr}{a b:Option Expr}{q:Pos}{l u:Value}{i j:Nat}(d1:At g c A m H s)(e2:H x=some (.φ vs))(e3:nv l=.int i 0)(e4:nv u=.int j 0)(e5:i<=j)(e6:j<=vs.length)(e7:j-i≠vs.length)(e8:vs.length<=1000)
  (k:∀y s',H y=none->At g c A m (ξ H y (.φ ((vs.drop i).take (j-i)))) s'->Go (some c.env.locals) H s.heap (ξ H y (.φ ((vs.drop i).take (j-i)))) s'.heap->P (.ref y) s'):
  wpAny (MM g) A (GQ v' (.Slice a b none q) (.ref x) (.ref s.heap.objs.size)) P E {s with heap:=s.heap.push {cls:=.type "slice",data:=.fields #[l,u,.none]}}:=by
 refine Θ (iz e3) λ t1 z1=>Θ (iz e4) λ t2 z2=>?_
 subst z1;subst z2;clear e3 e4
 have f1:=d1.push {cls:=.type "slice",data:=.fields #[.int i t1,.int j t2,.none]} s.toks
 refine ψ (f1.sim _ _ e2) λ items ON k2=>?_;refine Θ ON λ nn k1=>?_;clear ON
 have hl:items.size=vs.length:=(congrArg jF k2).symm.trans (gJ _)|>.symm
 exact OH (T:="tuple") ⟨_,k1,rfl⟩ OM (aaf ⟨_,k1,rfl,nn,rfl⟩ (agC s.heap _ _ _) e5 (hl▸e6) (hl▸e7)
  (k _ _ (f1.toaC.dI) (f1.new (ao:=.φ ((vs.drop i).take (j-i))) ⟨_,⟨_,fZ _ rfl⟩,by exact k2▸OO▸List.map_take▸rfl⟩ s.toks) ((Go.push (L:=some c.env.locals) (h:=s.heap) _).trans (Go.new (f1.toaC.dI)))) (hl▸mR▸(Ψ e8 (eh _ _))))
theorem V.aai{o lo hi:PE}{Q:Value->Lc->AH->Prop}(h:V g c o m H (λ a ρ H₁=>V g c lo ρ H₁ (λ l Ξ ο=>V g c hi Ξ ο (λ u cw ω=>
  ∃x vs,∃p q:Nat,a=.ref x/\ω x=some (.φ vs)/\l=.int p 0/\u=.int q 0/\p<=q/\q<=vs.length/\q-p≠vs.length/\vs.length<=1000/\∀y,ω y=none->Q (.ref y) cw (ξ ω y (.φ ((vs.drop p).take (q-p))))) X) X) X):V g c (.dT o (some lo) (some hi) none) m H Q X:=by
 intro n e' he A s hA
 refine Ej (MO he) λ n' v' a b cc q p xJ h1 h2 h3 h4=>?_;refine xJ.symm▸?_
 refine(h4.az).symm▸?_
 refine Subscript_ (step hA hA Go.refl (h n' v' h1) λ o s₁ ρ H₁ a1 a2 a3=>?_)
 refine wpAny_Slice (step hA a1 a2 (Vo.ws h2 a3) λ l ae Ξ ο b1 b2 b3=>step hA b1 b2 (Vo.ws h3 b3) λ u bZ cw ω c1 c2 c3=>aL ?_)
 obtain⟨x,vs,i,j,e1,e2,e3,e4,e5,e6,e7,e8,e9⟩:=c3
 exact a8 e1▸aah c1 e2 e3 e4 e5 e6 e7 e8 λ y s' y1 y2 y3=>⟨_,_,y2,c2.trans y3,e9 y y1⟩
theorem r8(h:raw.map nv=[a]):∃b,raw=[b]/\nv b=a:=by
 rcases raw with _ |⟨x,_ |⟨y,r⟩⟩ <;> simp at h
 exact⟨x,rfl,h⟩
theorem AU(h:raw.map nv=[a,b]):∃x y,raw=[x,y]/\nv x=a/\nv y=b:=by
 rcases raw with _ |⟨x,_ |⟨y,_ |⟨z,r⟩⟩⟩ <;> simp at h
 exact⟨x,y,rfl,h.1,h.2⟩
theorem μ.aaj(h:H a=some (.φ vs))(hf:vs.length<2 ^ 60)(q:Q (.int vs.length 0) H):μ g k (.builtin "len") [.ref a] H Q E:=by
 intro A s raw aO hA
 refine ψ (r8 aO) λ b FT hb=>?_;refine FT.symm▸?_
 obtain rfl:=a8 hb
 refine ψ (hA.sim _ _ h) λ items k1 k2=>?_
 have hs:items.size=vs.length:=by have:=congrArg jF k2;simpa using this
 refine PyProof.Rows.len_tuple k1.isTup (by omega) (lx hA _ ?_)
 exact hs▸(q)
theorem μ.AV(hi:0<=i)(hl:i<1000)(q:Q (.str (dy (toString i)) 0) H):μ g k (.type "str") [.int i 0] H Q E:=by
 intro A s raw aO hA
 refine ψ (r8 aO) λ b xp hb=>?_;refine xp.symm▸?_
 refine Θ (iz hb) λ t xq=>?_;refine xq.symm▸?_
 exact PyProof.Rows.str_of_int_fit (N:=1000) (by split <;> omega) (by decide) λ _=>lx hA _ q
theorem μ.ints{i:Nat}(hl:i<10 ^ 10)(q:Q (.int i 0) H):μ g k (.type "int") [.str (dy (toString (i:Int))) 0] H Q E:=by
 intro A s raw aO hA
 refine ψ (r8 aO) λ b xr hb=>?_;refine xr.symm▸?_
 refine Θ (iU hb) λ t xt=>?_;refine xt.symm▸?_
 exact KIN.call_num (iC i) (by omega) (lx hA _ q)
theorem μ.range{n:Nat}(hn:n<2 ^ 60)(q:∀a t u v,H a=none->Q (.ref a) (ξ H a (.fix {cls:=.type "range",data:=.fields #[.int 0 t,.int n u,.int 1 v]}))):μ g k (.type "range") [.int n 0] H Q E:=by
 intro A s raw aO hA
 refine ψ (r8 aO) λ b xu hb=>?_;refine xu.symm▸?_
 refine Θ (iz hb) λ t xw=>?_;refine xw.symm▸?_
 have:=hA.new (ao:=.fix {cls:=.type "range",data:=.fields #[.int 0 s.toks,.int n t,.int 1 (s.toks+1)]}) (fZ _ rfl) (s.toks+1+1)
 exact call_range_1 ⟨_,this,Go.new hA.dI,q _ _ _ _ hA.dI⟩
theorem Goes.range{a:Addr}{n:Nat}(hn:n<2 ^ 60)(h:H a=some (.fix {cls:=.type "range",data:=.fields #[.int 0 t,.int n u,.int 1 v]})):Goes g c (.ref a) (below n) (λ _=>True) H where
 make A m s v' Q E hv hA hQ:=by
  obtain rfl:=a8 hv
  refine wpAny_pyIter_range (a:=0) (b:=n) (c:=1) (t:=t) (u:=u) (v:=v) (hA.sim _ _ h) (small_one (by decide) (by decide) (by exact iC _) (by omega)) (hQ _ _ _ (λ _=>g9.range) rfl ?_ rfl)
  rw[rangeSize_one]
  have:(if(0:Int)<n then(n:Int)-0 else 0)=(n:Int)-((0:Nat):Int):=by split <;> omega
  rw[this];rfl
end
section
variable {k:Nat}
def No:Value->Lc->AH->Prop:=λ _ _ _=>False
theorem AW{A:bS}{s s':Shared}{H:AH}{e:Value}{P:Prop}(h:cO g c A H s No e s'):P:=by obtain⟨_,_,_,_,_,_,f⟩:=h;exact f.elim
def Tes(g:Gv)(c:Cx)(ifs:List PE)(m:Lc)(H:AH)(Q:Bool->Lc->AH->Prop):Prop:=match ifs with
 | []=>Q true m H
 | [t]=>Te g c t m H Q No
 |_=>False
theorem aC.but(x:aC g k hd A H s)(hC:H C=none)(hl:g.cm.objs.size<=C)(hf:∀fs,A.frames=some fs->∀env∈fs,env.frame≠some C)(hs:n6 C s.heap h')(tk:Nat):
  aC g k hd A H {s with heap:=h',toks:=tk} where
 ok:=x.ok
 old a o e:=by
  have:a≠C:=λ z=>by subst z;exact absurd (dO e) (Nat.not_lt.mpr hl)
  exact(hs.2 a this).trans (x.old a o e)
 sim a o e:=(x.sim a o e).congr (hs.2 a λ z=>by subst z;rw[hC]at e;exact nN e)
 low:=x.low
 depth:=x.depth
 units:=x.units
 hand:=x.hand
 frames:=by
  obtain⟨fs,h1,h2⟩:=x.frames
  refine⟨fs,h1,λ env he=>?_⟩
  obtain⟨k1,L,o,k2,k3,k4,k5⟩:=h2 env he
  exact⟨k1,L,o,k2,(hs.2 L λ z=>hf fs h1 env he (by exact k2▸z▸rfl)).trans k3,k4,k5⟩
 os:=x.os
 gens:=x.gens
 size:=Ψ x.size (aU hs.1.symm)
theorem At.out(x:At g c A m H s)(y:At g c' A m' H' s')(hk:c'.k=c.k)(hh:c'.hd=c.hd)(hCL:c.env.locals≠c'.env.locals)(G:Go (some c'.env.locals) H s.heap H' s'.heap):At g c A m H' s':=by
 obtain⟨mm,⟨o,es,ep,h1,h2,r⟩,he⟩:=x.ns
 refine iS (G.old c.env.locals o (λ z=>hCL (bY z).symm) x.off h1) λ a1 sl a2=>?_
 have z:aC g c.k c.hd A H' s':=by exact hk▸hh▸(y.toaC)
 exact{z with aY:=x.aY,ns:=⟨mm,⟨_,es,ep,a2,h2,r⟩,he⟩,off:=a1,c9:=x.c9,head:=x.head}
def OP(g:Gv)(c:Cx)(is:List Expr)(m:Lc)(H:AH)(Q:Bool->Lc->AH->Prop):Prop:=match is with
 | []=>Q true m H
 | [e]=>W g c (PySem.isTrue e c.env (eval e c.env)) m H Q No
 |_=>False
inductive vm(t:Nat)(x:Value)(a:Addr)(vs:List Value)(P:AH->Prop)(m':Lc)(H':AH):Prop
 |mk (em:m'=[(t,x)]) (h:H' a=some (.κ false vs)) (p:P H'):vm t x a vs P m' H'
structure AX(g:Gv)(c:Cx)(elt:Expr)(is:List Expr)(t:Nat)(xs:List Value)(J:AH->Prop)(a:Addr)(I:Nat->List Value->AH->Prop):Prop where
 j:∀i x vs H,I i vs H->H a=some (.κ false vs)->xs[i]?=some x->J H/\vs.length<=1000
 turn:∀i x vs H,I i vs H->H a=some (.κ false vs)->xs[i]?=some x->H c.env.locals=none->OP g c is [(t,x)] H λ b=>vm t x a vs λ H'=>
  if b=true then W g c (eval elt c.env) [(t,x)] H' (λ w=>vm t x a vs λ aD=>I (i+1) (vs++[nv w]) (ξ aD a (.κ false (vs++[nv w])))) No
  else I (i+1) vs H'
 fin:∀vs H,I xs.length vs H->J H
structure Inv(g:Gv)(c:Cx)(el:PE)(t:Nat)(ifs:List PE)(xs:List Value)(J:AH->Prop)(a:Addr)(I:Nat->List Value->AH->Prop):Prop where
 turn:∀i x vs H,I i vs H->H a=some (.κ false vs)->xs[i]?=some x->J H/\vs.length<=1000/\∀aN cY,H cY.locals=none->Tes g ⟨c.k,none,aN,cY,c.fe⟩ ifs [(t,x)] H λ b m' H'=>m'=[(t,x)]/\H' a=some (.κ false vs)/\
  if b=true then V g ⟨c.k,none,aN,cY,c.fe⟩ el [(t,x)] H' (λ w lA aD=>lA=[(t,x)]/\aD a=some (.κ false vs)/\I (i+1) (vs++[w]) (ξ aD a (.κ false (vs++[w])))) No
  else I (i+1) vs H'
 fin:∀vs H,I xs.length vs H->J H
theorem Inv.gen(V1:Inv g c el t ifs xs J a I)(s1:Sp n aN elt el)(s3:eQ n aN is ifs):AX g ⟨c.k,none,aN,cY,c.fe⟩ elt is t xs J a I where
 j i x vs H h1 h2 h3:=let h:=V1.turn i x vs H h1 h2 h3;⟨h.1,h.2.1⟩
 fin:=V1.fin
 turn i x vs H h1 h2 h3 h4:=by
  have k:=(V1.turn i x vs H h1 h2 h3).2.2 aN cY h4
  have key:∀b m' H',(m'=[(t,x)]/\H' a=some (.κ false vs)/\if b=true then V g ⟨c.k,none,aN,cY,c.fe⟩ el [(t,x)] H' (λ w lA aD=>lA=[(t,x)]/\aD a=some (.κ false vs)/\I (i+1) (vs++[w]) (ξ aD a (.κ false (vs++[w])))) No else I (i+1) vs H')->
    vm t x a vs (λ H'=>if b=true then W g ⟨c.k,none,aN,cY,c.fe⟩ (eval elt cY) [(t,x)] H' (λ w=>vm t x a vs λ aD=>I (i+1) (vs++[nv w]) (ξ aD a (.κ false (vs++[nv w])))) No else I (i+1) vs H') m' H':=by
   intro b m' H' OQ;refine fg OQ λ e1 e2 e3=>?_;clear OQ
   refine⟨e1,e2,?_⟩
   cases b with
   |false=>exact e3
   |true=>exact W.mono (e3 n elt s1) (λ w lA aD z=>⟨z.1,z.2.1,z.2.2⟩) λ _ _ _ z=>z
  cases ifs with
  |nil=>
   obtain rfl:=eQ.nil s3
   exact key _ _ _ k
  |cons p0 pr=>
   cases pr with
   |cons _ _=>exact k.elim
   |nil=>
    refine dG (eQ.cons s3) λ e' l' q q1 q2=>?_
    obtain rfl:=eQ.nil q2
    subst q
    exact W.mono (k n e' q1) key λ _ _ _ z=>z
theorem aak(h:m=[]\/∃y,m=[(t,y)]):put t x m=[(t,x)]:=by
 rcases h with rfl |⟨y,rfl⟩
 ·rfl
 ·exact xy
theorem aal(h:Mr sc x=true):(x.2=.local/\sc.names.lookup x.1=some .local)\/x.2=.globalImplicit:=((Bool.or_eq_true _ _).mp h).elim (λ h=>.inl ⟨bY (xl (an h).1),xl (an h).2⟩) λ h=>.inr (bY (El h))
theorem OS(h:Eo sc=true):sc.kind=.function/\(∀x∈sc.names,x.2≠.cell)/\(∀x∈sc.names,x.2≠.free)/\(∀x∈sc.names,x.2=.local->sc.names.lookup x.1=some .local):=
 have k:=an (an (an h).1).1
 have N:=λ x hx=>aal (List.all_eq_true.mp k.2 x hx)
 ⟨Mq k.1,λ x hx z=>(N x hx).elim (λ h=>absurd (h.1.symm.trans z) (by decide)) λ h=>absurd (h.symm.trans z) (by decide),λ x hx z=>(N x hx).elim (λ h=>absurd (h.1.symm.trans z) (by decide)) λ h=>absurd (h.symm.trans z) (by decide),λ x hx z=>(N x hx).elim (λ h=>h.2) λ h=>absurd (z.symm.trans h) (by decide)⟩
theorem AY(h:∀x∈sc.names,x.2≠.free):iF sc env=sc:=by
 obtain⟨a,b,d,e,f⟩:=sc
 unfold iF
 have:(b.map λ(n,k)=>if(k==NameKind.free&&env.scope.kind==.function&&env.kindOf n==some .cell)=true then(n,NameKind.cell)else(n,k))=b:=map_eq_self (λ x hx=>by
  obtain⟨n,k⟩:=x
  have:(k==NameKind.free)=false:=by simpa using h _ hx
  simp[this])
 simp only[this]
inductive OT(g:Gv)(c:Cx)(A:bS)(t:Nat)(xs:List Value)(a it:Addr)(T:String)(D:Nat->Array Value)(I:Nat->List Value->AH->Prop)(H₁:AH)(h₁:Heap)(n':Nat)(s':Shared):Prop
 |mk (i:Nat) (vs:List Value) (m':Lc) (H':AH) (e:n'+i=xs.length) (d1:At g c A m' H' s') (d2:Go (some c.env.locals) H₁ h₁ H' s'.heap) (d3:I i vs H') (d4:iX s'.heap it T (D i)) (d5:H' it=none) (d6:H' a=some (.κ false vs)) (d7:m'=[]\/∃y,m'=[(t,y)]):OT g c A t xs a it T D I H₁ h₁ n' s'
theorem aam{is:List Expr}{A:bS}{s:Shared}{Q:Bool->Lc->AH->Prop}{E:Value->Shared->Prop}(f1:At g c A m H s)(j3:OP g c is m H Q):wpAny (MM g) A (forIn is true λ e r=>if r=true then do let ok <- isTrue e c.env (eval e c.env);pure (ForInStep.yield ok)else pure (ForInStep.yield r)) (fF g c A H s Q) E s:=by
 cases is with
 |nil=>exact wpAny_tests_nil ⟨_,H,f1,Go.refl,j3⟩
 |cons e0 r=>
  cases r with
  |cons _ _=>exact j3.elim
  |nil=>exact wpAny_tests_one (cD (j3 A s f1) (λ b s' z=>z) λ e s' q=>AW q)
theorem GV:∀{n:Nat},n+i=L->i<L->n-1<n/\n-1+(i+1)=L
 |0,e,h=>absurd h (e▸(lW i).symm▸GW _)
 |n+1,e,_=>⟨lu n,(FR n i 1).trans e⟩
theorem aan{t:Nat}{xs:List Value}{J:AH->Prop}{a it:Addr}{I:Nat->List Value->AH->Prop}{T:String}{D:Nat->Array Value}{elt iter:Expr}{x:Str}{px pos:Pos}{is:List Expr}{aao:Scope}{A:bS}{R:Result->Shared->Prop}{s:Shared}
  (V1:AX g c elt is t xs J a I) (hd:c.hd=none) (P:g9 g c it T D xs J) (s2:fW c.sc x=some t)
  (b1:At g c A [] H s) (b2:Go (some c.env.locals) H₁ h₁ H s.heap) (hl:g.cm.objs.size<=it) (b3:I 0 [] H) (b4:iX s.heap it T (D 0)) (b5:H it=none) (b6:H a=some (.κ false []))
  (b8:∀H' (s' lq:Shared),Go (some c.env.locals) H₁ h₁ H' s'.heap->(∀b o,b≠it->s'.heap.get? b=some o->lq.heap.get? b=some o)->Go (some c.env.locals) H₁ h₁ H' lq.heap)
  (hR:∀H' s' m' gp,At g c A m' H' s'->Go (some c.env.locals) H₁ h₁ H' s'.heap->I xs.length gp H'->H' a=some (.κ false gp)->R (.ok .next) s'):
  n9 (MM g) A (.compLoop (.ListComp elt [⟨.Name x px,iter,is,0⟩] aao pos) 0 (.ref it) (.ref a) c.env) R s:=by
 refine ag (jE s2) λ k1 k2=>?_
 refine codeAny_compLoop_tests (OT g c A t xs a it T D I H₁ h₁) ?_ xs.length ⟨0,[],[],H,rfl,b1,b2,b3,b4,b5,b6,.inl rfl⟩
 clear b1 b2 b3 b4 b5 b6
 intro n' ae zp9;obtain⟨i,vs,Ξ,ο,e,d1,d2,d3,d4,d5,d6,d7⟩:=zp9
 cases hx:xs[i]? with
 |none=>
  have hi:i=xs.length:=x9 (e▸eh _ _) (List.getElem?_eq_none_iff.mp hx)
  exact P.fin A Ξ ο ae _ _ d1 (V1.fin _ _ (hi▸d3)) (hi▸d4) (d1.hand.trans hd) λ h' tk hx=>hR ο _ Ξ vs (d1.shift (bh.ext d1 d4 d5 hl hx) tk) (b8 ο ae _ d2 λ b o q e=>hx b o q e) (hi▸d3) d6
 |some y=>
  have hi:=(List.getElem?_eq_some_iff.mp hx).1
  have nx:=GV e hi
  clear e hi hR
  refine P.item A Ξ ο ae i _ _ _ d1 (V1.j i y vs ο d3 d6 hx).1 d4 hx λ v h' tk hv hi hs=>?_
  refine NI (Al (m:=Ξ) (H:=ο) k1 k2 (d1.shift (bh.same d4 d5 hl hs) tk) λ bZ f1 f2=>?_)
  rw[hv,aak d7]at f1
  refine ag (Go.it (d1.shift (bh.same d4 d5 hl hs) tk) f2 hi d5) λ f5 f6=>?_
  have f7:=(b8 ο ae {ae with heap:=h',toks:=tk} d2 λ b o q e=>(hs.2 b q).trans e).trans f2
  have j3:=V1.turn i y vs ο d3 d6 hx d1.off
  have jl:=(V1.j i y vs ο d3 d6 hx).2
  clear d1 d2 d3 d4 d5 d6 d7 b8 f2 hs hi hv hx
  refine cD (aam f1 j3) (λ ok bc z=>fF.el z λ dP ar g1 g2 z=>?_) λ _ _ z=>z
  obtain⟨g3,g4,g5⟩:=z
  refine ag (Go.it f1 g2 f5 f6) λ g6 g7=>?_
  have g8:=f7.trans g2
  clear f1 f7 g2 f5 f6 j3
  cases ok with
  |false=>exact⟨n'-1,nx.1,i+1,vs,_,ar,nx.2,g1,g8,g5,g6,g7,g4,.inr ⟨_,g3⟩⟩
  |true=>
   rw[g3]at g1
   refine cD (g5 A bc g1) (λ w f_ z=>fF.el z λ mP aV q1 q2 z=>?_) λ e s' q=>AW q
   obtain⟨q3,q4,q5⟩:=z
   refine ag (Go.it g1 q2 g6 g7) λ q6 q7=>?_
   have q8:=g8.trans q2
   rw[q3]at q1
   clear g1 g8 q2 g6 g7 g5 g4
   have ca:μ g c.k (.builtin "list.append") ([Value.ref a,w].map nv) aV (λ v H'=>H'=ξ aV a (.κ false (vs++[nv w]))) (λ _ _=>False):=μ.append q4 (cI jl (by decide)) rfl
   refine cD (EV (c:=c) (m:=[(t,y)]) hd ca A f_ q1) (λ u gZ z=>fF.el z λ vd cU r1 r2 z=>?_) λ e s' z=>cO.el z λ _ _ _ _ _ _ f=>f.2.elim
   refine ag z λ r3 r4=>?_
   rw[r4]at r1 r2
   refine ag (Go.it q1 r2 q6 q7) λ r5 r6=>?_
   exact⟨n'-1,nx.1,i+1,vs++[nv w],_,_,nx.2,r1,q8.trans r2,q5,r5,r6,jq,.inr ⟨_,r3⟩⟩
end
section
variable {k:Nat}
theorem Go.aap(x:Go (some C) H h H' h')(n:h.get? C=none):Go L H h H' h':=
 ⟨λ a o _ e1 e2=>x.old a o (λ z=>by rw[<- bY z,n]at e2;exact nN e2) e1 e2,x.cW,x.aM,x.fk⟩
theorem OU{t:Nat}{xs:List Value}{J:AH->Prop}{T:String}{D:Nat->Array Value}{elt iter:Expr}{x:Str}{px pos:Pos}{is:List Expr}{aN:Scope}{cl:List (Str×Addr)}{A:bS}{s:Shared}{ob:Obj}{Fin:Value->AH->Prop}{RR:Value->Addr->Result->Shared->Prop}
  (hd:c.hd=none) (P:∀c,g9 g c s.heap.objs.size T D xs J) (w1:ob.cls=.type T) (w2:ob.data=.fields (D 0)) (w3:ob.isFreed=false) (o1:aN.kind=.function) (o2:∀x∈aN.names,x.2≠.cell) (s2:fW (iF aN c.env) x=some t)
  (a1:At g c A m H s) (hI:∀a,H a=none->∃I,I 0 [] (ξ H a (.κ false []))/\(∀cY:Env,cY.cells=cl->cY.scope=iF aN c.env->AX g ⟨c.k,none,iF aN c.env,cY,c.fe⟩ elt is t xs J a I)/\∀vs H',I xs.length vs H'->H' a=some (.κ false vs)->Fin (.ref a) H')
  (hRR:∀a C H' s' mC,At g c A m H' s'->Go (some c.env.locals) H s.heap H' s'.heap->H' C=none->g.cm.objs.size<=C->s.heap.get? C=none->c.env.locals≠C->s'.heap.Ns C mC->Fin (.ref a) H'->RR (.ref a) C (.ok .next) s'):
  wpAny (MM g) A (newList []) (λ acc bZ=>wpAny (MM g) A (newFunctionEnv aN c.env.globals cl [] c.env.qual none .none (some c.env)) (λ cY bc=>
   n9 (MM g) A (.compStart (.ListComp elt [⟨.Name x px,iter,is,0⟩] aN pos) 0 (.ref s.heap.objs.size) acc {cY with scope:=iF aN c.env}) (RR acc cY.locals) bc) E bZ) E {s with heap:=s.heap.push ob}:=by
 have f1:=a1.push ob s.toks
 have na:=f1.toaC.dI
 have f2:=f1.new (ao:=.κ false []) (o:={cls:=.type "list",data:=.seq #[]}) ⟨#[],⟨0,fZ _ rfl⟩,rfl⟩ s.toks
 refine pd (wpAny_newFunctionEnv o2 (by intro y hy;simp at hy) (λ h₁ GX GY=>?_) o1)
 dsimp only at GX GY⊢
 generalize ha:(s.heap.push ob).objs.size=a at *
 have hO:s.heap.objs.size<a:=by rw[<- ha,xA];exact lu _
 have hle:s.heap.objs.size<=a:=jo hO
 generalize AZ:(s.heap.push ob).push {cls:=Value.type "list",dict:=none,data:=Data.seq ([]:List Value).toArray}=H2 at GX GY⊢
 have f2:At g c A m (ξ H a (.κ false [])) {s with heap:=H2}:=by rw[<- AZ];exact f2
 have nC:=f2.toaC.dI
 generalize hC:H2.objs.size=C at *
 have GZ:C=a+1:=by rw[<- hC,<- AZ,xA,ha]
 have ext:AB H2.objs.size H2 h₁:=λ b o hb e=>(GY.2 b (by rw[<- hC];exact hb)).trans (ez _ e)
 have hlC:s.heap.objs.size<C:=aZ hO (by rw[GZ];exact lu _)
 have gC:s.heap.get? C=none:=mM (Ψ hle (by rw[GZ];exact gK _))
 have OV:g.cm.objs.size<=C:=Ψ a1.size (Ψ hle (by rw[GZ];exact gK _))
 have bM:c.env.locals≠C:=λ z=>by refine Θ a1.has λ o ho=>?_;rw[z,gC]at ho;exact nN ho
 have old:∀b o,s.heap.get? b=some o->h₁.get? b=some o:=λ b o e=>ext b o (by rw[hC];exact λ z=>by rw[z,gC]at e;exact nN e) (by rw[<- AZ];exact ez _ (ez _ e))
 have G0:Go (some C) H s.heap (ξ H a (.κ false [])) h₁:=⟨λ b o _ e1 e2=>⟨by
   rw[Γ (λ z=>by subst z;exact GW _ (jI (dO e2) hle))];exact e1,o.slots,old b o e2⟩,λ b o e _=>cu e na,λ b es e=>.inl (cu e na),λ b e=>by
   cases q:H b with
   |none=>exact absurd q e
   |some o=>rw[cu q na];simp⟩
 refine fh (hI a na) λ I i0 i1 i2=>?_
 have f4:At g ⟨c.k,none,iF aN c.env,{(newEnv aN C c.env.globals cl c.env.qual none .none (some c.env) builtinsNs)with scope:=iF aN c.env},c.fe⟩ A [] (ξ H a (.κ false [])) {s with heap:=h₁,toks:=s.toks+([]:List (Str×Value)).length}:=
  {(by have:=(f2.shift (bh.top f2 ext) (s.toks+([]:List (Str×Value)).length)).toaC;rw[hd]at this;exact this:aC g c.k none A _ _)with
   aY:=⟨rfl,o1,a1.aY.glob,a1.aY.blt⟩
   ns:=⟨_,GX,λ i _ _ e=>nomatch e⟩
   off:=nC
   c9:=OV
   head:=a1.head}
 have OW:iX h₁ s.heap.objs.size T (D 0):=⟨ob,by
  refine ext _ _ ?_ ?_
  ·rw[hC];exact gc hlC
  ·rw[<- AZ];exact ez _ (fZ _ w3),w1,w2⟩
 have itn:ξ H a (.κ false []) s.heap.objs.size=none:=by
  rw[Γ (gc hO)]
  exact a1.toaC.dI
 have it9:s.heap.get? s.heap.objs.size=none:=mM (bK _)
 have loop:∀bZ:Shared,bZ={s with heap:=h₁,toks:=s.toks+([]:List (Str×Value)).length}->n9 (MM g) A (.compLoop (.ListComp elt [⟨.Name x px,iter,is,0⟩] aN pos) 0 (.ref s.heap.objs.size) (.ref a) {(newEnv aN C c.env.globals cl c.env.qual none .none (some c.env) builtinsNs)with scope:=iF aN c.env}) (RR (.ref a) C) bZ:=by
  rintro bZ rfl
  refine aan (H₁:=H) (h₁:=s.heap) (i1 _ rfl rfl) rfl (P _) s2 f4 G0 a1.size i0 OW itn jq (λ H' s' lq q1 q2=>q1.shift it9 q2) λ H' s' m' gp q1 q2 q3 q4=>?_
  obtain⟨mC,q5,_⟩:=q1.ns
  exact hRR a C H' s' mC (a1.out q1 rfl hd.symm bM q2) (q2.aap gC) q1.off OV gC bM q5 (i2 gp H' q3 q4)
 exact codeAny_compStart_list (loop _ rfl) ((P c).self _ _ 0 _ _ OW (loop _ rfl))
def G3(g:Gv)(c:Cx)(elt:Expr)(is:List Expr)(aN:Scope)(cl:List (Str×Addr))(t:Nat)(v:Value)(H:AH)(Fin:Value->AH->Prop):Prop:=
 ∃xs J,Goes g c v xs J H/\∀a,H a=none->∃I,I 0 [] (ξ H a (.κ false []))/\(∀cY:Env,cY.cells=cl->cY.scope=iF aN c.env->AX g ⟨c.k,none,iF aN c.env,cY,c.fe⟩ elt is t xs J a I)/\∀vs H',I xs.length vs H'->H' a=some (.κ false vs)->Fin (.ref a) H'
def pn(g:Gv)(c:Cx)(el:PE)(t:Nat)(ifs:List PE)(v:Value)(H:AH)(Fin:Value->AH->Prop):Prop:=
 ∃xs J,Goes g c v xs J H/\∀a,H a=none->∃I,I 0 [] (ξ H a (.κ false []))/\Inv g c el t ifs xs J a I/\∀vs H',I xs.length vs H'->H' a=some (.κ false vs)->Fin (.ref a) H'
theorem pn.gen{el:PE}{t n:Nat}{ifs:List PE}{v:Value}{Fin:Value->AH->Prop}{elt:Expr}(h:pn g c el t ifs v H Fin)(o3:∀x∈aN.names,x.2≠.free)(s1:Sp n aN elt el)(s3:eQ n aN is ifs):G3 g c elt is aN [] t v H Fin:=
 c7 (h) λ xs J G hI=>
 ⟨xs,J,G,λ a na=>fh (hI a na) λ I i0 i1 i2=>⟨I,i0,λ cY _ _=>i1.gen (n:=n) ((AY (env:=c.env) o3).symm▸s1) ((AY (env:=c.env) o3).symm▸s3),i2⟩⟩
theorem At.done(x:At g c A m H s)(hC:H C=none)(hl:g.cm.objs.size<=C)(hf:∀fs,A.frames=some fs->∀env∈fs,env.frame≠some C)(hL:c.env.locals≠C)(hs:n6 C s.heap h')(tk:Nat):At g c A m H {s with heap:=h',toks:=tk}:=
 {x.toaC.but hC hl hf hs tk with aY:=x.aY,ns:=let⟨mm,⟨o,es,ep,r1,r2⟩,r3⟩:=x.ns;⟨mm,⟨o,es,ep,(hs.2 _ hL).trans r1,r2⟩,r3⟩,off:=x.off,c9:=x.c9,head:=x.head}
theorem OX{elt iter:Expr}{x:Str}{px pos:Pos}{is:List Expr}{aN:Scope}{cl:List (Str×Addr)}{src:PE}{t:Nat}{Q:Value->Lc->AH->Prop}(n:Nat)(hd:c.hd=none)(o1:aN.kind=.function)(o2:∀y∈aN.names,y.2≠.cell)(o4:∀y∈aN.names,y.2=.local->aN.names.lookup y.1=some .local)
  (G4:G5 aN c.env=pure cl) (s2:fW (iF aN c.env) x=some t) (hs:Sp n c.sc iter src) (h:V g c src m H (λ v ρ H₁=>G3 g c elt is aN cl t v H₁ (λ v H'=>Q v ρ H')) X):
  W g c (eval (.ListComp elt [⟨.Name x px,iter,is,0⟩] aN pos) c.env) m H (λ v m' H'=>Q (nv v) m' H') X:=by
 intro A s hA
 refine aaq (use:=none) (cl:=cl) rfl (AD hs _) G4 o1 o4 (step hA hA Go.refl (h n _ hs) λ v s₁ ρ H₁ a1 a2 z=>?_)
 refine c7 z λ xs J G hI=>?_
 refine G.make A ρ s₁ v _ _ rfl a1 λ T D ob P w1 w2 w3=>?_
 refine OU (Fin:=λ v H'=>Q v ρ H') hd P w1 w2 w3 o1 o2 s2 a1 hI λ a C H' f_ mC b1 b2 b3 b4 b5 b6 b7 b8=>?_
 exact⟨mC,b7,λ h' hs=>⟨ρ,H',b1.done b3 b4 (AF a1 b5) b6 hs f_.toks,a2.trans (b2.shift b5 λ b o q e=>(hs.2 b q).trans e),b8⟩⟩
theorem V.comp(hd:c.hd=none)(h:V g c src m H (λ v ρ H₁=>pn g c el t ifs v H₁ (λ v H'=>Q v ρ H')) X):V g c (.comp el t src ifs) m H Q X:=by
 intro n e' he
 obtain⟨n',elt,x,q,s',is,aN,p,rfl,ok,h1,h2,h3,h4⟩:=MQ he
 refine kY (OS ok) λ o1 o2 o3 o4=>?_
 exact OX n' hd o1 o2 o4 (closureFor_none o3) ((AY (env:=c.env) o3).symm▸h2) h3 λ n e he=>W.mono (h n e he) (λ v m' H' z=>z.gen o3 h1 h4) λ _ _ _ z=>z
theorem S1.aar{i:Nat}{el src:PE}{t:Nat}(hd:c.hd=none)(h:V g c src m H (λ v ρ H₁=>pn g c el t ifs v H₁ (λ v H'=>Q .next (put i v ρ) H')) X):S1 g c (.Φ i (.comp el t src ifs)) m H Q X:=by
 intro n st hs A s hA
 refine zY (MU hs) λ nn y yp x' p Gn e1 e2=>?_;refine Gn.symm▸?_
 refine ag (jE e1) λ k1 k2=>?_
 obtain⟨n',elt,x,q,s',is,aN,pp,rfl,ok,h1,h2,h3,h4⟩:=MQ e2
 refine kY (OS ok) λ o1 o2 o3 o4=>?_
 refine Θ (⟨_,rfl⟩:∃b,swapsWith (.ListComp elt [⟨.Name x q,s',is,0⟩] aN pp) (some (.Name y yp)) p.line c.env=pure b) λ b hb=>?_
 cases b with
 |false=>
  refine Na (step hA hA Go.refl (V.comp (Q:=λ v m' H'=>Q .next (put i v m') H') hd h _ _ e2) λ v s₁ ρ H₁ a1 a2 a3=>step hA a1 a2 (store (Q:=λ _ m' H'=>Q .next m' H') k1 k2 a3) λ _ ae Ξ ο b1 b2 b3=>⟨Ξ,ο,b1,b2,b3⟩) hb
 |true=>
  rw[exec_Assign_Name_used _ _ _ _ hb]
  refine Δ (l5 (Δ ?_))
  show wpAny _ A (do let _ <- comprehension (.ListComp elt [⟨.Name x q,s',is,0⟩] aN pp) aN c.env _ (newList []) false (eval s' c.env) (some (assign (.Name y yp) c.env))) _ _ s
  refine Δ (cD (aaq (use:=some (assign (.Name y yp) c.env)) (cl:=[]) (Q:=λ _ s'=>fF g c A H s (λ f m' H'=>Q (nf f) m' H') .next s') rfl (AD h3 _) (closureFor_none o3) o1 o4
   (step hA hA Go.refl (h n' s' h3) λ v s₁ ρ H₁ a1 a2 z=>?_)) (λ _ s' hq=>aL (aL hq)) λ _ _ e=>e)
  refine c7 (z.gen o3 h1 h4) λ xs J G hI=>?_
  refine G.make A ρ s₁ v _ _ rfl a1 λ T D ob P w1 w2 w3=>?_
  refine OU (Fin:=λ v H'=>Q .next (put i v ρ) H') hd P w1 w2 w3 o1 o2 ((AY (env:=c.env) o3).symm▸h2) a1 hI λ a C H' f_ mC b1 b2 b3 b4 b5 b6 b7 b8=>?_
  refine NI (cD (store (Q:=λ _ m' aD=>m'=put i (.ref a) ρ/\aD=H') (X:=No) k1 k2 ⟨rfl,rfl⟩ A _ b1) (λ _ gZ z=>?_) λ e s' q=>AW q)
  obtain⟨vd,cU,f1,f2,f3,f4⟩:=z
  subst f3 f4
  refine nR b7 λ o es ep r1 r2=>?_
  refine iS (f2.old C o (λ z=>b6 (bY z)) b3 r1) λ _ sl r3=>?_
  exact⟨mC,⟨_,es,ep,r3,r2⟩,λ h' hs=>⟨_,cU,f1.done b3 b4 (AF a1 b5) b6 hs gZ.toks,a2.trans ((b2.trans f2).shift b5 λ b o q e=>(hs.2 b q).trans e),b8⟩⟩
end
theorem bt{b:Bool}{A B:Prop}(h:b=true)(q:A):if b=true then A else B:=by rw[if_pos h];exact q
theorem bf{b:Bool}{A B:Prop}(h:b=false)(q:B):if b=true then A else B:=by rw[if_neg (by rw[h];exact lV)];exact q
noncomputable def AO.x_:AO->Bool
 | .aM _=>true
 |o=>o.cW
def Fz(H H':AH):Prop:=∀a o,H a=some o->o.x_=true->H' a=some o
theorem Fz.refl:Fz H H:=λ _ _ e _=>e
theorem Fz.trans(x:Fz H₁ ο)(y:Fz ο ω):Fz H₁ ω:=λ a o e n=>y a o (x a o e n) n
theorem Fz.new(n:H' a=none)(x:Fz H H'):Fz H (ξ H' a o):=λ b o e i=>cu (x b o e i) n
theorem Fz.mut(h:H' a=some o')(i:o'.x_=false)(x:Fz H H'):Fz H (ξ H' a o):=λ b ob e k=>by
 rw[Γ (λ z=>by subst z;rw[x _ _ e k]at h;cases h;rw[i]at k;cases k)];exact x b ob e k
theorem Ext.fz(x:Ext H H'):Fz H H':=λ a o e _=>x a o e
theorem Ext.own(n:H a=none)(x:Ext H H'):Ext H (ξ H' a o):=λ b ob e=>by
 rw[Γ (λ z=>by subst z;rw[n]at e;exact nN e)];exact x b ob e
theorem Ext.none(x:Ext H H')(n:H' a=none):H a=none:=by
 cases e:H a with
 |none=>rfl
 |some o=>rw[x _ _ e]at n;exact nS n
theorem μ.up(hk:k<=k')(h:μ g k f args H Q X):μ g k' f args H Q X:=by
 intro A s raw hr hA
 have hd:=hA.depth
 have hu:=hA.units
 refine cD (h A s raw hr {hA with depth:=by omega,units:=by omega}) (λ v s' ⟨H',a,b,q⟩=>⟨H',{a with depth:=hd,units:=hu},b,q⟩) λ e s' ⟨H',v,a,b,x,q⟩=>⟨H',v,{a with depth:=hd,units:=hu},b,x,q⟩
theorem μ.df(F:bw g->Fn g fa names body)(hlen:args.length=names.length)(hk:1<=k)
  (h:∀sc env,Own (jH (k-1) sc env)->H env.locals=none->S g (jH (k-1) sc env) body (names.zip args) H (λ f _ H'=>Q (pg f) H') (λ v _ H'=>X v H')):μ g k (.ref fa) args H Q X:=by
 refine Θ (ks (by assumption)) λ j aas=>?_;subst aas
 exact μ.fn F hlen h
theorem Ext.at(F:Ext H H')(h:H a=some o):H' a=some o:=F a o h
theorem Fz.trans'(y:Fz M H')(x:Fz H M):Fz H H':=x.trans y
theorem Ext.trans'(y:Ext M H')(x:Ext H M):Ext H H':=x.trans y
theorem Fz.set(h:H a=some o')(i:o'.x_=false):Fz H (ξ H a o):=Fz.mut h i Fz.refl
def Fb(b:Addr)(H H':AH):Prop:=∀a o,H a=some o->a≠b->H' a=some o
theorem Fb.refl:Fb b H H:=λ _ _ e _=>e
theorem Fb.trans'(y:Fb b M H')(x:Fb b H M):Fb b H H':=λ a o e n=>y a o (x a o e n) n
theorem Fb.om(y:Ext M H')(x:Fb b H M):Fb b H H':=λ a o e n=>y a o (x a o e n)
theorem Fb.new(n:H' a=none)(x:Fb b H H'):Fb b H (ξ H' a o):=λ c ob e i=>cu (x c ob e i) n
theorem Fb.own(n:H a=none)(x:Fb b H H'):Fb b H (ξ H' a o):=λ c ob e k=>by
 rw[Γ (λ z=>by subst z;rw[n]at e;exact nN e)];exact x c ob e k
theorem Fb.me(x:Fb b H H'):Fb b H (ξ H' b o):=λ c ob e k=>by rw[Γ k];exact x c ob e k
theorem Fb.at(F:Fb b H H')(h:H a=some o)(i:a≠b):H' a=some o:=F a o h i
theorem Fb.none(F:Fb b H H')(n:H' a=none)(i:a≠b):H a=none:=by
 cases e:H a with
 |none=>rfl
 |some o=>rw[F _ _ e i]at n;exact nS n
theorem μ.pre{k:Nat}{f:Value}{args:List Value}{H':AH}{Q X:Value->AH->Prop}(G:Gh g H H')(h:μ g k f args H' Q X):μ g k f args H Q X:=
 λ A s raw hr hA=>cD (h A s raw hr (hA.gh G)) (λ v s' ⟨aD,a,b,q⟩=>⟨aD,a,(Go.gh Go.refl G).trans b,q⟩) λ e s' ⟨aD,v,a,b,x,q⟩=>⟨aD,v,a,(Go.gh Go.refl G).trans b,x,q⟩
theorem W.pre{α:Type}{t:Sem α}{H':AH}{Q:α->Lc->AH->Prop}{X:Value->Lc->AH->Prop}(G:Gh g H H')(h:W g c t m H' Q X):W g c t m H Q X:=
 λ A s hA=>cD (h A s (hA.gh G)) (λ v s' ⟨m',aD,a,b,q⟩=>⟨m',aD,a,(Go.gh Go.refl G).trans b,q⟩) λ e s' ⟨m',aD,v,a,b,x,q⟩=>⟨m',aD,v,a,(Go.gh Go.refl G).trans b,x,q⟩
theorem S.pre{l:List PS}{H':AH}{Q:bJ->Lc->AH->Prop}{X:Value->Lc->AH->Prop}(G:Gh g H H')(h:S g c l m H' Q X):S g c l m H Q X:=λ n e he=>W.pre G (h n e he)
theorem V.pre{x:PE}{H':AH}{Q:Value->Lc->AH->Prop}{X:Value->Lc->AH->Prop}(G:Gh g H H')(h:V g c x m H' Q X):V g c x m H Q X:=λ n e he=>W.pre G (h n e he)
theorem Gh.fl(h:H a=some (.κ false vs)):Gh g H (ξ H a (.κ z vs)):=Gh.set h rfl (λ _ q=>nomatch q) λ _ r=>r
theorem Gh.ff(h:H a=some (.ai false vs)):Gh g H (ξ H a (.ai z vs)):=Gh.set h rfl (λ _ q=>nomatch q) λ _ r=>r
theorem Gh.fs(h:H a=some (.sd false vs)):Gh g H (ξ H a (.sd z vs)):=Gh.set h rfl (λ _ q=>nomatch q) λ _ r=>r
theorem Gh.fi(h:H a=some (.bu false vs)):Gh g H (ξ H a (.bu z vs)):=Gh.set h rfl (λ _ q=>nomatch q) λ _ r=>r
noncomputable def A4:Nat->Bool
 |129=>false |226=>false |298=>false |81=>false |15=>false |16=>false
 |_=>true
theorem μ.ok{k:Nat}{f:Value}{args:List Value}{Q X:Value->AH->Prop}(h:bw g->μ g k f args H Q X):μ g k f args H Q X:=λ A s raw hr hA=>h hA.ok A s raw hr hA
section
variable {a b:Int}{d f:Nat}
variable {n:Nat}
end
inductive Ak where
 |call (f:Value)|φ |κ (z:Bool)
inductive It where
 |v (e:PE)|t (e:PE)|s (x:PS)|ss (l:List PS)
 |bin (o:rE)|υ (o:CmpOp)|vn (o:rE)|neg |cM |A6
 |bG (a b:PE)|iff (a b:List PS)|wh (a:List PS)|oo (r:PE)|bor (r:PE)
 |π (i:Nat)|dat (i:Nat)|sub |G6 |sa (i:Nat)|sb (i:Nat)|si |sj
 |Φ (i:Nat)|pop |ret |cont
 |lm (i:Nat) (as:List PE)|args (es:List PE) (acc:List Value) (k:Ak)|arg (es:List PE) (acc:List Value) (k:Ak)|go (k:Ak) (as:List Value)
 |kk (R:List Value->Lc->AH->Prop)
 |vo (e:Option PE)|oq (z:Bool)|slt
 |G7 (i j:Nat)|G8 (i j k:Nat)|fo (i:Nat) (a:List PS)
def FK(R:List Value->Lc->AH->Prop)(st:List Value)(Q:bJ->Lc->AH->Prop):bJ->Lc->AH->Prop:=λ f m H=>match f with
 | .next=>R st m H
 |f=>Q f m H
section
variable (g:Gv)(c:Cx)(Q:bJ->Lc->AH->Prop)(X:Value->Lc->AH->Prop)
def r9(k:Ak)(vs:List Value)(R:List Value->Lc->AH->Prop)(st:List Value)(m:Lc)(H:AH):Prop:=
 match k with
 | .call f=>μ g c.k f vs H (λ v H'=>R (v::st) m H') (λ v H'=>X v m H')
 | .φ=>vs.length<=sizeLine/\∀a,H a=none->R (.ref a::st) m (ξ H a (.φ vs))
 | .κ z=>vs.length<=sizeLine/\∀a,H a=none->R (.ref a::st) m (ξ H a (.κ z vs))
def sem(it:It)(R:List Value->Lc->AH->Prop)(st:List Value)(m:Lc)(H:AH):Prop:=
 match it with
 | .v e=>V g c e m H (λ v m' H'=>R (v::st) m' H') X
 | .t e=>Te g c e m H (λ b m' H'=>R (.bool b::st) m' H') X
 | .s x=>S1 g c x m H (FK R st Q) X
 | .ss l=>S g c l m H (FK R st Q) X
 | .bin o=>match st with|b::a::st=>Ω g c (mK o) a b m H (λ v m' H'=>R (v::st) m' H') X |_=>False
 | .υ o=>match st with|b::a::st=>Ω g c (cJ o) a b m H (λ v m' H'=>R (v::st) m' H') X |_=>False
 | .vn o=>match st with|b::a::st=>Ω g c (rN o) a b m H (λ v m' H'=>R (v::st) m' H') X |_=>False
 | .neg=>match st with|a::st=>c_ g c (unaryOp .USub) a m H (λ v m' H'=>R (v::st) m' H') X |_=>False
 | .cM=>match st with|a::st=>bH g c a m H (λ b m' H'=>R (.bool b::st) m' H') X |_=>False
 | .A6=>match st with| .bool b::st=>R (.bool (!b)::st) m H |_=>False
 | .bG x y=>match st with| .bool b::st=>if b=true then V g c x m H (λ v m' H'=>R (v::st) m' H') X else V g c y m H (λ v m' H'=>R (v::st) m' H') X |_=>False
 | .iff x y=>match st with| .bool b::st=>if b=true then S g c x m H (FK R st Q) X else S g c y m H (FK R st Q) X |_=>False
 | .wh x=>match st with| .bool b::_=>if b=true then S g c x m H Q X else Q .brk m H |_=>False
 | .oo r=>match st with| .bool b::st=>if b=true then Te g c r m H (λ b m' H'=>R (.bool b::st) m' H') X else R (.bool false::st) m H |_=>False
 | .bor r=>match st with| .bool b::st=>if b=true then R (.bool true::st) m H else Te g c r m H (λ b m' H'=>R (.bool b::st) m' H') X |_=>False
 | .π i=>match st with|a::st=>c_ g c (λ w=>lh w (N i) true) a m H (λ v m' H'=>R (v::st) m' H') X |_=>False
 | .dat i=>match st with|a::st=>c_ g c (λ w=>lh w (N i) true) a m H (λ v m' H'=>R (v::a::st) m' H') X |_=>False
 | .sub=>match st with|b::a::st=>cq g c a b m H (λ v m' H'=>R (v::st) m' H') X |_=>False
 | .G6=>match st with|b::a::st=>cq g c a b m H (λ v m' H'=>R (v::b::a::st) m' H') X |_=>False
 | .sa i=>match st with|w::v::st=>∀v' w',nv v'=v->nv w'=w->W g c (rT w' (N i) v') m H (λ _ m' H'=>R st m' H') X |_=>False
 | .sb i=>match st with|v::w::st=>∀v' w',nv v'=v->nv w'=w->W g c (rT w' (N i) v') m H (λ _ m' H'=>R st m' H') X |_=>False
 | .si=>match st with|b::a::v::st=>dK g c a b v m H (λ m' H'=>R st m' H') X |_=>False
 | .sj=>match st with|v::b::a::st=>dK g c a b v m H (λ m' H'=>R st m' H') X |_=>False
 | .Φ i=>match st with|v::st=>R st (put i v m) H |_=>False
 | .pop=>match st with|_::st=>R st m H |_=>False
 | .ret=>match st with|v::_=>Q (.ret v) m H |_=>False
 | .cont=>Q .cont m H
 | .lm i as=>match st with
  |a::st=>∀v' pl,nv v'=a->W g c (Av v' (N i) pl) m H (λ fx Ξ ο=>(bw g->rP g fx.1)/\
    Vs g c as Ξ ο (λ vs cw ω=>μ g c.k fx.1 (fx.2.map nv++vs) ω (λ v H'=>R (v::st) cw H') (λ v H'=>X v cw H')) X) X
  |_=>False
 | .args es acc k=>Vs g c es m H (λ vs m' H'=>r9 g c X k (acc.reverseAux vs) R st m' H') X
 | .arg es acc k=>match st with|u::st=>Vs g c es m H (λ vs m' H'=>r9 g c X k ((u::acc).reverseAux vs) R st m' H') X |_=>False
 | .go k as=>r9 g c X k as R st m H
 | .kk R'=>R' st m H
 | .vo e=>Vo g c e m H (λ v m' H'=>R (v::st) m' H') X
 | .oq z2=>match st with
  |s::u::l::a::st=>∃x vs pl pu ps,a=.ref x/\rZ H x vs/\l=kH pl/\u=kH pu/\s=kH ps/\ps≠some 0/\vs.length<=100000/\∀y,H y=none->R (.ref y::st) m (ξ H y (.κ z2 (iE vs pl pu ps)))
  |_=>False
 | .slt=>match st with
  |u::l::a::st=>∃x vs,∃p q:Nat,a=.ref x/\H x=some (.φ vs)/\l=.int p 0/\u=.int q 0/\p<=q/\q<=vs.length/\q-p≠vs.length/\vs.length<=1000/\∀y,H y=none->R (.ref y::st) m (ξ H y (.φ ((vs.drop p).take (q-p))))
  |_=>False
 | .G7 i j=>match st with|v::st=>∃t u w,v=.ref t/\TA H t [u,w]/\R st (put j w (put i u m)) H |_=>False
 | .G8 i j k=>match st with|v::st=>∃t u w z,v=.ref t/\TA H t [u,w,z]/\R st (put k z (put j w (put i u m))) H |_=>False
 | .fo i a=>match st with|v::st=>∃xs J,Goes g c v xs J H/\NH g c xs J i a (FK R st Q) X m H |_=>False
noncomputable def M:List It->List Value->Lc->AH->Prop
 | []=>λ _ m H=>Q .next m H
 |it::C=>sem g c Q X it (M C)
end
inductive Pr where
 |p (f:List It->List It) (st:List Value) (m:Lc)|no
section
open Pr It
noncomputable abbrev p0(st:List Value)(m:Lc):Pr:=p (λ C=>C) st m
noncomputable abbrev p1(a:It)(st:List Value)(m:Lc):Pr:=p (λ C=>a::C) st m
noncomputable abbrev p2(a b:It)(st:List Value)(m:Lc):Pr:=p (λ C=>a::b::C) st m
noncomputable abbrev p3(a b d:It)(st:List Value)(m:Lc):Pr:=p (λ C=>a::b::d::C) st m
noncomputable def oP{α:Type}(x:Option α)(f:α->Pr):Pr:=match x with|some a=>f a |none=>no
noncomputable def qP(b:Bool)(x:Pr):Pr:=match b with|true=>x |false=>no
noncomputable def iP(v:Value)(k:Int->Pr):Pr:=match v with
 | .int i u=>(match u with|0=>k i |_=>no)
 |_=>no
noncomputable def bP(v:Value)(k:Bool->Pr):Pr:=match v with
 | .bool b=>k b
 |_=>no
noncomputable def nP(v:Value)(x:Pr):Pr:=match v with
 | .none=>x
 |_=>no
noncomputable def fP(e:PE)(x:Pr):Pr:=match e with
 | .call _ _=>x
 |_=>no
noncomputable def sP(st:List Value)(k:Value->List Value->Pr):Pr:=match st with
 |a::st=>k a st
 |_=>no
noncomputable def zI(o:CmpOp)(i j:Int)(k:Bool->Pr):Pr:=match o with
 | .Eq=>k (i==j)
 | .NotEq=>k (i != j)
 | .Lt=>k (decide (i<j))
 | .LtE=>k (decide (i<=j))
 | .Gt=>k (decide (i>j))
 | .GtE=>k (decide (i>=j))
 |_=>no
noncomputable def zS(o:CmpOp)(a:Value)(y:Str)(k:Bool->Pr):Pr:=match a with
 | .str x u=>(match u,o with
  |0,.Eq=>k (x.cps.toList==y.cps.toList)
  |0,.NotEq=>k (x.cps.toList != y.cps.toList)
  |_,_=>no)
 |_=>no
noncomputable def zV(o:CmpOp)(a b:Value)(k:Bool->Pr):Pr:=match b with
 | .int j u=>(match u with|0=>iP a λ i=>zI o i j k |_=>no)
 | .str y u=>(match u with|0=>zS o a y k |_=>no)
 |_=>no
noncomputable def zC(o:CmpOp)(a b:Value)(k:Bool->Pr):Pr:=match o with
 | .Is=>nP b (k (a==.none))
 | .IsNot=>nP b (k (!(a==.none)))
 | .In=>no
 | .NotIn=>no
 |o=>zV o a b k
noncomputable def zB(o:rE)(a b:Value)(k:Value->Pr):Pr:=match o with
 | .Add=>iP b λ j=>iP a λ i=>k (.int (i+j) 0)
 | .Sub=>iP b λ j=>iP a λ i=>k (.int (i-j) 0)
 |_=>no
noncomputable def zT(a:Value)(k:Bool->Pr):Pr:=match a with
 | .none=>k false
 | .bool b=>k b
 |a=>iP a λ i=>k (i != 0)
noncomputable def OY(z:Bool)(e:PE)(st:List Value)(m:Lc):Pr:=match e with
 | .az=>p0 (.none::st) m
 | .kp b=>p0 (.bool b::st) m
 | .int i=>p0 (.int i 0::st) m
 | .str x=>p0 (.str x 0::st) m
 | .θ i=>oP (m.lookup i) λ u=>p0 (u::st) m
 | .ς i=>oP (GT.lookup i) λ u=>p0 (u::st) m
 | .bin o l r=>p3 (v l) (v r) (bin o) st m
 | .υ l o r=>p3 (v l) (v r) (υ o) st m
 | .neg x=>p2 (v x) neg st m
 | .bG q a b=>p2 (t q) (bG a b) st m
 | .φ es=>p1 (args es [] .φ) st m
 | .π o i=>qP (xK o) (p2 (v o) (π i) st m)
 | .sub o i=>p3 (v o) (v i) sub st m
 | .call f as=>qP z (oP (GT.lookup f) λ u=>qP (isCall u) (p1 (args as [] (.call u)) st m))
 | .au o i as=>qP z (qP (xK o) (qP (fE as.length 30) (p2 (v o) (lm i as) st m)))
 |_=>no
noncomputable def OZ(e:PE)(st:List Value)(m:Lc):Pr:=match e with
 | .υ l o r=>p (λ C=>v l::v r::υ o::cM::C) st m
 | .not x=>p2 (t x) A6 st m
 | .band l r=>p2 (t l) (oo r) st m
 | .fU l r q=>p3 (t l) (oo r) (oo q) st m
 | .bor l r=>p2 (t l) (bor r) st m
 |e=>qP (Fq e) (p2 (v e) cM st m)
noncomputable def O0(z:Bool)(x:PS)(st:List Value)(m:Lc):Pr:=match x with
 | .expr e=>qP (lY e) (p2 (v e) pop st m)
 | .Φ i e=>qP (lY e) (p2 (v e) (Φ i) st m)
 | .aK o i e=>qP (lY e) (p3 (v e) (v o) (sa i) st m)
 | .bR o i e=>qP (lY e) (p (λ C=>v e::v o::v i::si::C) st m)
 | .lX i j e=>qP z (fP e (p2 (v e) (G7 i j) st m))
 | .nX i j k e=>qP z (fP e (p2 (v e) (G8 i j k) st m))
 | .aug i o e=>oP (m.lookup i) λ u=>p3 (v e) (vn o) (Φ i) (u::st) m
 | .ku o i q e=>p (λ C=>v o::dat i::v e::vn q::sb i::C) st m
 | .mF o i q e=>p (λ C=>v o::v i::G6::v e::vn q::sj::C) st m
 | .ret e=>p2 (v e) ret st m
 | .dN=>p1 ret (.none::st) m
 | .iff q a b=>p2 (t q) (iff a b) st m
 | .fj i e a=>qP z (p2 (v e) (fo i a) st m)
 | .cont=>p1 cont st m
 |_=>no
noncomputable def ya(br:Bool)(st:List Value)(t f:List Value->Pr):Pr:=qP br (sP st λ a st=>bP a λ q=>match q with|true=>t st |false=>f st)
noncomputable def iG(z br:Bool)(it:It)(st:List Value)(m:Lc):Pr:=match it with
 | .v e=>OY z e st m
 | .t e=>OZ e st m
 | .s x=>O0 z x st m
 | .args es acc k=>match es with| []=>(match acc.reverseAux []with| []=>p1 (go k []) st m |a::l=>p1 (go k (a::l)) st m)|a::r=>p2 (v a) (arg r acc k) st m
 | .arg es acc k=>sP st λ u st=>p1 (args es (u::acc) k) st m
 | .ss l=>match l with| []=>p0 st m |x::l=>p2 (s x) (ss l) st m
 | .bin o=>sP st λ b st=>sP st λ a st=>zB o a b λ v=>p0 (v::st) m
 | .vn o=>sP st λ b st=>sP st λ a st=>zB o a b λ v=>p0 (v::st) m
 | .υ o=>sP st λ b st=>sP st λ a st=>zC o a b λ v=>p0 (.bool v::st) m
 | .neg=>sP st λ a st=>iP a λ i=>p0 (.int (-i) 0::st) m
 | .cM=>sP st λ a st=>zT a λ b=>p0 (.bool b::st) m
 | .A6=>sP st λ a st=>bP a λ b=>p0 (.bool (!b)::st) m
 | .bG a b=>ya br st (λ st=>p1 (v a) st m) λ st=>p1 (v b) st m
 | .iff a b=>ya br st (λ st=>p1 (ss a) st m) λ st=>p1 (ss b) st m
 | .oo r=>ya br st (λ st=>p1 (t r) st m) λ st=>p0 (.bool false::st) m
 | .bor r=>ya br st (λ st=>p0 (.bool true::st) m) λ st=>p1 (t r) st m
 | .vo e=>match e with|none=>p0 (.none::st) m |some e=>p1 (v e) st m
 | .Φ i=>sP st λ u st=>p0 st (put i u m)
 | .pop=>sP st λ _ st=>p0 st m
 |_=>no
end
inductive G9 where
 |mk (C:List It) (st:List Value) (m:Lc)
 |none
noncomputable def vp(z br:Bool):Nat->List It->List Value->Lc->G9
 |0,C,st,m=>.mk C st m
 |_+1,[],st,m=>.mk [] st m
 |n+1,it::C,st,m=>match iG z br it st m with
  | .no=>.mk (it::C) st m
  | .p f st m=>vp z br n (f C) st m
section
variable {st:List Value}
def d9(g:Gv)(c:Cx)(Q:bJ->Lc->AH->Prop)(X:Value->Lc->AH->Prop)(C:List It)(H:AH)(x:Pr):Prop:=match x with
 | .no=>False
 | .p f st m=>M g c Q X (f C) st m H
def Ms(g:Gv)(c:Cx)(Q:bJ->Lc->AH->Prop)(X:Value->Lc->AH->Prop)(H:AH)(x:G9):Prop:=match x with
 | .none=>False
 | .mk C st m=>M g c Q X C st m H
theorem S1.mono{x:PS}{Q':bJ->Lc->AH->Prop}(h:S1 g c x m H Q X)(k:∀f m H,Q f m H->Q' f m H):S1 g c x m H Q' X:=λ n e he=>(h n e he).mono (λ f m H q=>k _ _ _ q) λ _ _ _ x=>x
theorem FK.seq(h:FK (λ st m H=>S g c l m H (FK R st Q) X) st Q f m H):MV g c l (FK R st Q) X f m H:=by cases f <;> exact h
theorem A7{α:Type}{x:Option α}{f:α->Pr}(h:d9 g c Q X C H (oP x f)):∃a,x=some a/\d9 g c Q X C H (f a):=by
 cases x with
 |none=>exact h.elim
 |some a=>exact⟨a,rfl,h⟩
theorem jJ{b:Bool}{x:Pr}(h:d9 g c Q X C H (qP b x)):b=true/\d9 g c Q X C H x:=by
 cases b with
 |false=>exact h.elim
 |true=>exact⟨rfl,h⟩
theorem vq(h:d9 g c Q X C H (iP v k)):∃i,.int i 0=v/\d9 g c Q X C H (k i):=by
 cases v with
 |int i t=>cases t with
  |zero=>exact⟨i,rfl,h⟩
  |succ t=>exact h.elim
 |_=>exact h.elim
theorem O3(h:d9 g c Q X C H (bP v k)):∃i,.bool i=v/\d9 g c Q X C H (k i):=by
 cases v with
 |bool i=>exact⟨i,rfl,h⟩
 |_=>exact h.elim
theorem O4(h:d9 g c Q X C H (nP v x)):.none=v/\d9 g c Q X C H x:=by
 cases v with
 |none=>exact⟨rfl,h⟩
 |_=>exact h.elim
theorem O5{e:PE}{x:Pr}(h:d9 g c Q X C H (fP e x)):∃f as,.call f as=e/\d9 g c Q X C H x:=by
 cases e with
 |call f as=>exact⟨f,as,rfl,h⟩
 |_=>exact h.elim
theorem kI(h:d9 g c Q X C H (sP st k)):∃a l,a::l=st/\d9 g c Q X C H (k a l):=by
 cases st with
 |nil=>exact h.elim
 |cons a l=>exact⟨a,l,rfl,h⟩
theorem aat{z:Bool}(hd:z=true->Own c/\c.hd=none)(e:PE)(h:d9 g c Q X C H (OY z e st m)):V g c e m H (λ v m' H'=>M g c Q X C (v::st) m' H') X:=by
 cases e with
 |az=>exact V.az h
 |kp b=>exact V.kp h
 |int i=>exact V.int h
 |str x=>exact V.str h
 |θ i=>exact ψ (A7 h) λ v e h=>V.θ e h
 |ς i=>exact ψ (A7 h) λ v e h=>V.gl e h
 |bin o l r=>exact V.bin h
 |υ l o r=>exact V.υ h
 |neg x=>exact V.neg h
 |bG q a b=>exact V.bG h
 |φ es=>exact V.φ h
 |π o i=>exact ag (jJ h) λ e h=>V.π e h
 |sub o i=>exact V.sub h
 |call f as=>exact ag (jJ h) λ e1 h=>ψ (A7 h) λ u e h=>ag (jJ h) λ e' h=>V.ca (hd e1).2 e e' h
 |au o i as=>exact ag (jJ h) λ e1 h=>ag (jJ h) λ e2 h=>ag (jJ h) λ e3 h=>V.au e2 (Nat.blt_eq.mp e3) (hd e1).2 h
 |_=>exact h.elim
theorem aau(e:PE)(h:d9 g c Q X C H (OZ e st m)):Te g c e m H (λ b m' H'=>M g c Q X C (.bool b::st) m' H') X:=by
 cases e with
 |υ l o r=>exact Te.υ h
 |not x=>exact Te.not h
 |band l r=>exact Te.band h
 |fU l r q=>exact Te.fU h
 |bor l r=>exact Te.bor h
 |_=>first |exact Te.val rfl h |exact h.elim
theorem aav{z:Bool}(hd:z=true->Own c/\c.hd=none)(x:PS)(h:d9 g c Q X C H (O0 z x st m)):S1 g c x m H (FK (M g c Q X C) st Q) X:=by
 cases x with
 |expr e=>exact ag (jJ h) λ k h=>S1.expr k h
 |Φ i e=>exact ag (jJ h) λ k h=>S1.Φ k h
 |aK o i e=>exact ag (jJ h) λ k h=>S1.aK k h
 |bR o i e=>exact ag (jJ h) λ k h=>S1.bR k h
 |lX i j e=>
  exact ag (jJ h) λ k h=>c7 (O5 h) λ f as e h=>by subst e;exact S1.lX (hd k).2 h
 |nX i j l e=>
  exact ag (jJ h) λ k h=>c7 (O5 h) λ f as e h=>by subst e;exact S1.nX (hd k).2 h
 |aug i o e=>exact ψ (A7 h) λ u k h=>S1.aug k h
 |ku o i p e=>exact S1.ku h
 |mF o i p e=>exact S1.mF h
 |ret e=>exact S1.ret h
 |dN=>exact S1.dN h
 |iff q a b=>exact S1.iff h
 |fj i e a=>exact ag (jJ h) λ k h=>S1.fj (hd k).1 (hd k).2 h
 |cont=>exact S1.cont h
 |_=>exact h.elim
theorem aaw(h:d9 g c Q X C H (zI o i j λ r=>p0 (.bool r::st) m)):Ω g c (cJ o) (.int i 0) (.int j 0) m H (λ v m' H'=>M g c Q X C (v::st) m' H') X:=by
 cases o with
 |Eq=>exact Ω.XO h
 |NotEq=>exact Ω.XP h
 |Lt=>exact Ω.NZ h
 |LtE=>exact Ω.N0 h
 |Gt=>exact Ω.XR h
 |GtE=>exact Ω.XS h
 |_=>exact h.elim
theorem aax(h:d9 g c Q X C H (zS o a y λ r=>p0 (.bool r::st) m)):Ω g c (cJ o) a (.str y 0) m H (λ v m' H'=>M g c Q X C (v::st) m' H') X:=by
 cases a with
 |str x t=>
  cases t with
  |zero=>cases o with
   |Eq=>exact Ω.eqs h
   |NotEq=>exact Ω.XU h
   |_=>exact h.elim
  |succ t=>exact h.elim
 |_=>exact h.elim
theorem aay(h:d9 g c Q X C H (zV o a b λ r=>p0 (.bool r::st) m)):Ω g c (cJ o) a b m H (λ v m' H'=>M g c Q X C (v::st) m' H') X:=by
 cases b with
 |int j t=>cases t with
  |zero=>exact ψ (vq h) λ i e h=>e▸aaw h
  |succ t=>exact h.elim
 |str y t=>cases t with
  |zero=>exact aax h
  |succ t=>exact h.elim
 |_=>exact h.elim
theorem aaz(h:d9 g c Q X C H (zC o a b λ r=>p0 (.bool r::st) m)):Ω g c (cJ o) a b m H (λ v m' H'=>M g c Q X C (v::st) m' H') X:=by
 cases o with
 |Is=>exact ag (O4 h) λ e h=>e▸Ω.XW h
 |IsNot=>exact ag (O4 h) λ e h=>e▸Ω.XX h
 |In=>exact h.elim
 |NotIn=>exact h.elim
 |_=>exact aay h
theorem O6(h:d9 g c Q X C H (zB o a b λ r=>p0 (r::st) m)):Ω g c (mK o) a b m H (λ v m' H'=>M g c Q X C (v::st) m' H') X/\Ω g c (rN o) a b m H (λ v m' H'=>M g c Q X C (v::st) m' H') X:=by
 cases o with
 |Add=>exact ψ (vq h) λ j e1 h=>ψ (vq h) λ i e2 h=>e1▸e2▸⟨Ω.NY h,Ω.XM h⟩
 |Sub=>exact ψ (vq h) λ j e1 h=>ψ (vq h) λ i e2 h=>e1▸e2▸⟨Ω.XJ h,Ω.XN h⟩
 |_=>exact h.elim
theorem aaA(h:d9 g c Q X C H (zT a λ b=>p0 (.bool b::st) m)):bH g c a m H (λ b m' H'=>M g c Q X C (.bool b::st) m' H') X:=by
 cases a with
 |none=>exact bH.none h
 |bool q=>exact bH.bool h
 |int i k=>cases k with
  |zero=>exact bH.int h
  |succ k=>exact h.elim
 |_=>exact h.elim
theorem A8(h:d9 g c Q X C H (ya br st t f))(k:∀q st',d9 g c Q X C H (match q with|true=>t st' |false=>f st')->M g c Q X (it::C) (.bool q::st') m H):M g c Q X (it::C) st m H:=
 ag (jJ h) λ _ h=>c7 (kI h) λ a l e h=>ψ (O3 h) λ q e' h=>e▸e'▸k q l h
theorem O7(hd:z=true->Own c/\c.hd=none)(it:It)(h:d9 g c Q X C H (iG z br it st m)):M g c Q X (it::C) st m H:=by
 cases it with
 |v e=>exact aat hd e h
 |t e=>exact aau e h
 |s x=>exact aav hd x h
 |args es acc k=>
  cases es with
  |cons e r=>exact(Vs.cons h:Vs g c (e::r) m H (λ vs m' H'=>r9 g c X k (acc.reverseAux vs) (M g c Q X C) st m' H') X)
  |nil=>
   refine(Vs.nil ?_:Vs g c [] m H (λ vs m' H'=>r9 g c X k (acc.reverseAux vs) (M g c Q X C) st m' H') X)
   show r9 g c X k (acc.reverseAux []) (M g c Q X C) st m H
   unfold iG at h;dsimp only at h
   generalize acc.reverseAux []=l at h⊢
   cases l <;> exact h
 |arg es acc k=>exact c7 (kI h) λ a l e h=>e▸h
 |ss l=>
  cases l with
  |nil=>exact S.nil h
  |cons x l=>exact S.cons (S1.mono h λ f m H q=>FK.seq q)
 |bin o=>exact c7 (kI h) λ b l e h=>c7 (kI h) λ a s e' h=>e▸e'▸(O6 h).1
 |vn o=>exact c7 (kI h) λ b l e h=>c7 (kI h) λ a s e' h=>e▸e'▸(O6 h).2
 |υ o=>exact c7 (kI h) λ b l e h=>c7 (kI h) λ a s e' h=>e▸e'▸aaz h
 |neg=>exact c7 (kI h) λ b l e h=>ψ (vq h) λ i e' h=>e▸e'▸(c_.XT h:c_ g c (unaryOp .USub) _ m H (λ v m' H'=>M g c Q X C (v::_) m' H') X)
 |cM=>exact c7 (kI h) λ b l e h=>e▸aaA h
 |A6=>exact c7 (kI h) λ b l e h=>ψ (O3 h) λ i e' h=>e▸e'▸h
 |bG a b=>exact A8 h λ q st' k=>by cases q <;> exact k
 |iff a b=>exact A8 h λ q st' k=>by cases q <;> exact k
 |oo r=>exact A8 h λ q st' k=>by cases q <;> exact k
 |bor r=>exact A8 h λ q st' k=>by cases q <;> exact k
 |vo e=>cases e <;> exact h
 |Φ i=>exact c7 (kI h) λ b l e h=>e▸h
 |pop=>exact c7 (kI h) λ b l e h=>e▸h
 |_=>exact h.elim
theorem G_(hd:z=true->Own c/\c.hd=none):∀(n:Nat) (C:List It) (st:List Value) (m:Lc),Ms g c Q X H (vp z br n C st m)->M g c Q X C st m H
 |0,_,_,_=>λ h=>h
 |_+1,[],_,_=>λ h=>h
 |n+1,it::C,st,m=>Classical.byCases (p:=d9 g c Q X C H (iG z br it st m)) (λ k _=>O7 hd it k) λ k h=>by
  change Ms g c Q X H (match iG z br it st m with| .no=>.mk (it::C) st m | .p f st m=>vp z br n (f C) st m)at h
  generalize iG z br it st m=x at h k
  cases x with
  |no=>exact h
  |p f st m=>exact absurd (G_ hd n _ _ _ h) k
structure Fc(c:Cx)(n:Nat):Prop where
 own:Own c
 hd:c.hd=none
 le:n<=c.k
theorem Fc.k{c:Cx}{n m:Nat}(o:Fc c n)(e:jK m n=true):m<=c.k:=Ψ (eV e) o.le
noncomputable def A9(z br:Bool)(C:List It)(st:List Value)(m:Lc):G9:=match C with
 | []=>.none
 |it::C=>match iG z br it st m with
  | .no=>.none
  | .p f st m=>vp z br 200 (f C) st m
theorem Ha(hd:z=true->Own c/\c.hd=none)(h:Ms g c Q X H (A9 z br C st m)):M g c Q X C st m H:=by
 cases C with
 |nil=>exact h.elim
 |cons it C=>
  refine O7 (br:=br) hd it ?_
  change Ms g c Q X H (match iG z br it st m with| .no=>.none | .p f st m=>vp z br 200 (f C) st m)at h
  generalize iG z br it st m=x at h
  cases x with
  |no=>exact h.elim
  |p f st m=>exact G_ hd 200 _ _ _ h
theorem mm.ad(o:Fc c n)(h:Ms g c Q X H (A9 true true C st m)):M g c Q X C st m H:=Ha (λ _=>⟨o.own,o.hd⟩) h
theorem mm.an(o:Fc c n)(h:Ms g c Q X H (A9 true false C st m)):M g c Q X C st m H:=Ha (λ _=>⟨o.own,o.hd⟩) h
theorem mm.aP(o:Fc c nn)(n:Nat)(e:vp true true n C st m=.mk C' st' m')(h:M g c Q X C' st' m' H):M g c Q X C st m H:=G_ (λ _=>⟨o.own,o.hd⟩) n C st m (@Eq.subst _ (Ms g c Q X H) _ _ e.symm h)
theorem mm.af(h:Ms g c Q X H (A9 false false C st m)):M g c Q X C st m H:=Ha (z:=false) (λ q=>lV q) h
end
def RK(Q:Value->AH->Prop):bJ->Lc->AH->Prop:=λ f _ H=>Q (pg f) H
def XK(X:Value->AH->Prop):Value->Lc->AH->Prop:=λ v _ H=>X v H
def LK(J:Lc->AH->Prop)(Q:bJ->Lc->AH->Prop):bJ->Lc->AH->Prop:=λ f m H=>match f with
 | .next | .cont=>J m H
 | .brk=>Q .next m H
 | .ret v=>Q (.ret v) m H
def NK(P:Lc->AH->Prop):bJ->Lc->AH->Prop:=λ r m H=>r=.next/\P m H
def NX:Value->Lc->AH->Prop:=λ _ _ _=>False
def TQ(g:Gv)(c:Cx)(fs:List PS)(Q:bJ->Lc->AH->Prop):bJ->Lc->AH->Prop:=λ r m H=>M g c (NK (Q r)) NX [.ss fs] [] m H
def TX(g:Gv)(c:Cx)(fs:List PS)(X:Value->Lc->AH->Prop):Value->Lc->AH->Prop:=λ v m H=>∀e,M g (c.mark (some e)) (NK (X v)) NX [.ss fs] [] m H
noncomputable def ix(vs:List Value):Int->Option Value
 | .ofNat n=>if fE n 1000000=true then vs[n]? else none
 |_=>none
theorem A_(h:ix vs i=some v):0<=i/\i<2 ^ 63/\vs[i.toNat]?=some v:=by
 cases i with
 |negSucc n=>exact nN h
 |ofNat n=>
  unfold ix at h;dsimp only at h
  split at h
  ·rename_i k;have:=Nat.blt_eq.mp k;exact⟨iC n,by show(n:Int)<_;omega,h⟩
  ·exact nN h
section
variable {st:List Value}{H:AH}
theorem S.ma(h:M g c Q X [.ss l] [] m H):S g c l m H Q X:=by
 intro n e he
 exact W.mono (h n e he) (λ f m H q=>by cases f <;> exact q) λ _ _ _ x=>x
theorem μ.en{k n:Nat}{Q:Value->AH->Prop}{X:Value->AH->Prop}(F:bw g->Fn g fa names body)(hlen:iT args.length names.length=true)(hk:n+1<=k)
  (h:∀c,Fc c n->c.k+1=k->M g c (RK Q) (XK X) [.ss body] [] (names.zip args) H):μ g k (.ref fa) args H Q X:=
 μ.df F (xj hlen) (Ψ (eh 1 n) hk) λ sc env o hL=>S.ma (h _ ⟨o,rfl,aaB hk⟩ (Nat.sub_add_cancel (Ψ (eh 1 n) hk)))
theorem mm.rt(h:Q (.ret v) m H):M g c Q X (.ret::C) (v::st) m H:=h
theorem mm.nl(h:Q .next m H):M g c Q X [] st m H:=h
theorem RK.r{Q:Value->AH->Prop}(h:Q v H):RK Q (.ret v) m H:=h
theorem RK.n{Q:Value->AH->Prop}(h:Q .none H):RK Q .next m H:=h
theorem LK.n{J:Lc->AH->Prop}(h:J m H):LK J Q .next m H:=h
theorem LK.r(h:Q (.ret v) m H):LK J Q (.ret v) m H:=h
theorem FK.r(h:Q (.ret v) m H):FK R st Q (.ret v) m H:=h
theorem NK.n{P:Lc->AH->Prop}(h:P m H):NK P .next m H:=⟨rfl,h⟩
theorem TX.i(h:∀e,M g (c.mark (some e)) (NK (X v)) NX [.ss fs] [] m H):TX g c fs X v m H:=h
theorem mm.at(h1:H x=some (.ins C0 d))(h2:H d=some (.ai z es))(h3:es.lookup i=some u)(h4:g_ C0 i=true)(h5:cT u=true)(h:M g c Q X C (u::st) m H):M g c Q X (.π i::C) (.ref x::st) m H:=
 (c_.fl h1 h2 h3 h4 h5 h:c_ g c (λ w=>lh w (N i) true) (.ref x) m H (λ v m' H'=>M g c Q X C (v::st) m' H') X)
theorem mm.sg(h:cq g c a b m H (λ v m' H'=>M g c Q X C (v::st) m' H') X):M g c Q X (.sub::C) (b::a::st) m H:=h
theorem mm.sl(h1:H l=some (.κ z vs))(h2:ix vs i=some v)(h:M g c Q X C (v::st) m H):M g c Q X (.sub::C) (.int i 0::.ref l::st) m H:=
 fg (A_ h2) λ a b d=>
 mm.sg (cq.list h1 a b d h)
theorem mm.su(h1:H l=some (.φ vs))(h2:ix vs i=some v)(h:M g c Q X C (v::st) m H):M g c Q X (.sub::C) (.int i 0::.ref l::st) m H:=
 fg (A_ h2) λ a b d=>
 mm.sg (cq.φ h1 a b d h)
theorem mm.sm(h1:H l=some (.κ z (vs++[v])))(h:M g c Q X C (v::st) m H):M g c Q X (.sub::C) (.int (-1) 0::.ref l::st) m H:=mm.sg (cq.last h1 h)
theorem mm.mc(h0:A4 i=true)(h1:H x=some (.ins C0 d))(h2:H d=some (.ai z es))(h3:es.lookup i=none)(h4:iD C0 i=some f)(h5:fE i 318=true)
  (h:M g c Q X (.args as [.ref x] (.call (.ref f))::C) st m H):M g c Q X (.lm i as::C) (.ref x::st) m H:=by
 intro v' pl d8 A s hA
 obtain rfl:=a8 d8
 refine kY (hA.ok.met h4) λ k1 k2 k3 k4=>?_
 exact W3 ⟨h1,z,h2⟩ (GC h5) h3 (λ _=>k1) (λ _=>⟨k3,k4⟩) ⟨λ _=>k2,h⟩ A s hA
theorem mm.ml{l:Addr}{z:Bool}{vs:List Value}{i:Nat}{id:String}(slot:Slot "list" (N i) id)(xU:typeOf (.builtin id)=pure (.type "method_descriptor"))(h1:H l=some (.κ z vs))
  (h:M g c Q X (.args as [.ref l] (.call (.builtin id))::C) st m H):M g c Q X (.lm i as::C) (.ref l::st) m H:=by
 intro v' pl d8
 obtain rfl:=a8 d8
 exact X3 h1 slot xU ⟨λ _=>.inr (λ a z=>by cases z),h⟩
theorem mm.md{d:Addr}{o:AO}{i:Nat}{id:String}(slot:Slot "dict" (N i) id)(xU:typeOf (.builtin id)=pure (.type "method_descriptor"))(h1:H d=some o)(h2:(match o with| .bu _ _=>true | .sd _ _=>true |_=>false)=true)
  (h:M g c Q X (.args as [.ref d] (.call (.builtin id))::C) st m H):M g c Q X (.lm i as::C) (.ref d::st) m H:=by
 intro v' pl d8 A s hA
 obtain rfl:=a8 d8
 have key:∃o,s.heap.get? d=some o/\o.cls=.type "dict"/\o.dict=none:=by
  cases o with
  |bu z es=>refine ψ (hA.sim _ _ h1) λ kvs O8 _=>?_;refine o8 O8 λ o es ep ho hc _=>?_;clear O8;exact⟨o,ho,hc.1,hc.2.1⟩
  |sd z es=>refine ψ (hA.sim _ _ h1) λ kvs O9 _=>?_;refine o8 O9 λ o es ep ho hc _=>?_;clear O9;exact⟨o,ho,hc.1,hc.2.1⟩
  |_=>cases h2
 refine fh key λ o k1 k2 k3=>?_;clear key
 exact X4 (T:="dict") ⟨_,k1,k2⟩ PySem.F.plainAttrs_dict slot xU (λ a e=>by cases e;exact⟨_,k1,k3⟩) ⟨m,H,hA,Go.refl,λ _=>.inr (λ a z=>by cases z),h⟩
theorem mm.la(h1:H l=some (.κ z vs))(h:M g c Q X (.args as [.ref l] (.call (.builtin "list.append"))::C) st m H):M g c Q X (.lm 16 as::C) (.ref l::st) m H:=mm.ml PySem.F.slot_list_append PySem.F.type_list_append h1 h
theorem mm.lp(h1:H l=some (.κ false (vs++[w])))(h2:vs.length<2 ^ 20)(h:M g c Q X C (w::st) m (ξ H l (.κ false vs))):M g c Q X (.lm 15 []::C) (.ref l::st) m H:=
 mm.ml PySem.F.slot_list_pop PySem.F.type_list_pop h1 (Vs.nil (μ.pop h1 h2 h):Vs g c [] m H (λ vs m' H'=>r9 g c X (.call (.builtin "list.pop")) ([Value.ref l].reverseAux vs) (M g c Q X C) st m' H') X)
theorem mm.dg(h1:H d=some o)(h2:(match o with| .bu _ _=>true | .sd _ _=>true |_=>false)=true)(h:M g c Q X (.args as [.ref d] (.call (.builtin "dict.get"))::C) st m H):M g c Q X (.lm 129 as::C) (.ref d::st) m H:=mm.md GL PySem.F.type_dict_get h1 h2 h
theorem mm.go(h:μ g c.k f as H (λ v H'=>M g c Q X C (v::st) m H') (λ v H'=>X v m H')):M g c Q X (.go (.call f) as::C) st m H:=h
theorem mm.ap(h1:H l=some (.κ false vs))(h2:vs.length<2 ^ 20)(h:M g c Q X C (.none::st) m (ξ H l (.κ false (vs++[v])))):M g c Q X (.go (.call (.builtin "list.append")) [.ref l,v]::C) st m H:=μ.append h1 h2 h
theorem mm.gi(h1:H d=some (.bu z es))(h:M g c Q X C ((atK i es).getD .none::st) m H):M g c Q X (.go (.call (.builtin "dict.get")) [.ref d,.int i 0]::C) st m H:=μ.aht h1 h
theorem mm.gs(h1:H d=some (.sd z es))(h:M g c Q X C ((atK x es).getD .none::st) m H):M g c Q X (.go (.call (.builtin "dict.get")) [.ref d,.str x 0]::C) st m H:=μ.ahv h1 h
theorem mm.g2(h1:H d=some (.bu z es))(h:M g c Q X C ((atK i es).getD v::st) m H):M g c Q X (.go (.call (.builtin "dict.get")) [.ref d,.int i 0,v]::C) st m H:=μ.ahx h1 h
theorem ll{vs:List Value}(h:fE vs.length 1000=true):vs.length<=sizeLine:=by have:=Nat.blt_eq.mp h;rw[mR];exact aH this (by simp +arith only)
theorem mm.lv(h1:fE vs.length 1000=true)(h:∀a,H a=none->M g c Q X C (.ref a::st) m (ξ H a (.κ z vs))):M g c Q X (.go (.κ z) vs::C) st m H:=⟨ll h1,h⟩
theorem mm.tn(h1:fE vs.length 1000=true)(h:∀H' a,Ext H H'->H' a=some (.φ vs)->M g c Q X C (.ref a::st) m H'):M g c Q X (.go .φ vs::C) st m H:=⟨ll h1,λ a ha=>h _ a (Ext.new ha) ah⟩
theorem mm.ln(h1:fE vs.length 1000=true)(h:∀H' a,Ext H H'->H a=none->H' a=some (.κ z vs)->M g c Q X C (.ref a::st) m H'):M g c Q X (.go (.κ z) vs::C) st m H:=⟨ll h1,λ a ha=>h _ a (Ext.new ha) ha ah⟩
theorem mm.ls(z:Bool)(h:M g c Q X (.args es [] (.κ z)::C) st m H):M g c Q X (.v (.κ es)::C) st m H:=(V.κ h:V g c (.κ es) m H (λ v m' H'=>M g c Q X C (v::st) m' H') X)
theorem mm.ds(z:Bool)(h:∀a,H a=none->M g c Q X C (.ref a::st) m (ξ H a (.sd z []))):M g c Q X (.v .gG::C) st m H:=(V.agS h:V g c .gG m H (λ v m' H'=>M g c Q X C (v::st) m' H') X)
theorem mm.di(z:Bool)(h:∀a,H a=none->M g c Q X C (.ref a::st) m (ξ H a (.bu z []))):M g c Q X (.v .gG::C) st m H:=(V.agT h:V g c .gG m H (λ v m' H'=>M g c Q X C (v::st) m' H') X)
theorem mm.sf(h1:H x=some (.ins C0 d))(h2:H d=some (.ai false es))(h3:xZ es=true)(h4:g_ C0 i=true)(h:M g c Q X C st m (ξ H d (.ai false (put i v es)))):M g c Q X (.sa i::C) (.ref x::v::st) m H:=by
 intro v' w' hv hw A s hA
 obtain rfl:=a8 hw
 exact FI (Q:=λ _ m' H'=>M g c Q X C st m' H') h1 h2 (hA.ok.ai h4).1 (Nat.blt_eq.mp h3) (λ h=>h.setOk h4) (by rw[hv];exact h) A s hA
theorem mm.sh(h1:H x=some (.ins C0 d))(h2:H d=some (.ai false es))(h3:xZ es=true)(h4:g_ C0 i=true)(h:M g c Q X C st m (ξ H d (.ai false (put i v es)))):M g c Q X (.sb i::C) (v::.ref x::st) m H:=by
 intro v' w' hv hw A s hA
 obtain rfl:=a8 hw
 exact FI (Q:=λ _ m' H'=>M g c Q X C st m' H') h1 h2 (hA.ok.ai h4).1 (Nat.blt_eq.mp h3) (λ h=>h.setOk h4) (by rw[hv];exact h) A s hA
theorem mm.si(h:dK g c a b v m H (λ m' H'=>M g c Q X C st m' H') X):M g c Q X (.si::C) (b::a::v::st) m H:=h
theorem mm.sj(h:dK g c a b v m H (λ m' H'=>M g c Q X C st m' H') X):M g c Q X (.sj::C) (v::b::a::st) m H:=h
theorem mm.O_(h:cq g c a b m H (λ v m' H'=>M g c Q X C (v::b::a::st) m' H') X):M g c Q X (.G6::C) (b::a::st) m H:=h
theorem mm.ob(h:Ω g c (mK o) a b m H (λ v m' H'=>M g c Q X C (v::st) m' H') X):M g c Q X (.bin o::C) (b::a::st) m H:=h
theorem mm.oc(h:Ω g c (cJ o) a b m H (λ v m' H'=>M g c Q X C (v::st) m' H') X):M g c Q X (.υ o::C) (b::a::st) m H:=h
theorem mm.tr(h:bH g c a m H (λ b m' H'=>M g c Q X C (.bool b::st) m' H') X):M g c Q X (.cM::C) (a::st) m H:=h
theorem mm.te(h:Te g c e m H (λ b m' H'=>M g c Q X C (.bool b::st) m' H') X):M g c Q X (.t e::C) st m H:=h
theorem mm.s(h:S1 g c x m H (FK (M g c Q X C) st Q) X):M g c Q X (.s x::C) st m H:=h
theorem mm.b{b w:Bool}(h:b=w)(k:M g c Q X C (.bool w::st) m H):M g c Q X C (.bool b::st) m H:=h▸k
theorem mm.u2(h1:TA H t [u,w])(h:M g c Q X C st (put j w (put i u m)) H):M g c Q X (.G7 i j::C) (.ref t::st) m H:=⟨t,u,w,rfl,h1,h⟩
theorem mm.u3(h1:TA H t [u,w,z])(h:M g c Q X C st (put k z (put j w (put i u m))) H):M g c Q X (.G8 i j k::C) (.ref t::st) m H:=⟨t,u,w,z,rfl,h1,h⟩
theorem mm.i1{b:Bool}(e:b=true)(h:M g c Q X (.ss x::C) st m H):M g c Q X (.iff x y::C) (.bool b::st) m H:=e▸h
theorem mm.i0{b:Bool}(e:b=false)(h:M g c Q X (.ss y::C) st m H):M g c Q X (.iff x y::C) (.bool b::st) m H:=e▸h
theorem mm.e1{b:Bool}(e:b=true)(h:M g c Q X (.v x::C) st m H):M g c Q X (.bG x y::C) (.bool b::st) m H:=e▸h
theorem mm.e0{b:Bool}(e:b=false)(h:M g c Q X (.v y::C) st m H):M g c Q X (.bG x y::C) (.bool b::st) m H:=e▸h
theorem mm.a1{b:Bool}(e:b=true)(h:M g c Q X (.t x::C) st m H):M g c Q X (.oo x::C) (.bool b::st) m H:=e▸h
theorem mm.a0{b:Bool}(e:b=false)(h:M g c Q X C (.bool false::st) m H):M g c Q X (.oo x::C) (.bool b::st) m H:=e▸h
theorem mm.o1{b:Bool}(e:b=true)(h:M g c Q X C (.bool true::st) m H):M g c Q X (.bor x::C) (.bool b::st) m H:=e▸h
theorem mm.o0{b:Bool}(e:b=false)(h:M g c Q X (.t x::C) st m H):M g c Q X (.bor x::C) (.bool b::st) m H:=e▸h
theorem mm.w1{b:Bool}(e:b=true)(h:M g c Q X [.ss x] [] m H):M g c Q X (.wh x::C) (.bool b::st) m H:=e▸S.ma h
theorem mm.w0{b:Bool}(e:b=false)(h:Q .brk m H):M g c Q X (.wh x::C) (.bool b::st) m H:=e▸h
structure Fd(H:AH)(v:Value)(i:Nat)(u:Value):Prop where
 p:∀(g:Gv) (c:Cx) (m:Lc) (Q X:Value->Lc->AH->Prop),Q u m H->c_ g c (λ w=>lh w (N i) true) v m H Q X
structure jL(H:AH)(v i u:Value):Prop where
 p:∀(g:Gv) (c:Cx) (m:Lc) (Q X:Value->Lc->AH->Prop),Q u m H->cq g c v i m H Q X
theorem mm.fd(h1:Fd H v i u)(h:M g c Q X C (u::st) m H):M g c Q X (.π i::C) (v::st) m H:=h1.p g c m (λ v m' H'=>M g c Q X C (v::st) m' H') X h
theorem mm.it(h1:jL H v i u)(h:M g c Q X C (u::st) m H):M g c Q X (.sub::C) (i::v::st) m H:=h1.p g c m (λ v m' H'=>M g c Q X C (v::st) m' H') X h
theorem jL.t(h1:H l=some (.φ vs))(h2:ix vs i=some v):jL H (.ref l) (.int i 0) v:=⟨λ _ _ _ _ _ q=>fg (A_ h2) λ a b d=>cq.φ h1 a b d q⟩
theorem jL.ta(h1:TA H l vs)(h2:ix vs i=some v):jL H (.ref l) (.int i 0) v:=⟨λ _ _ _ _ _ q=>fg (A_ h2) λ a b d=>cq.ta h1 a b d q⟩
inductive Mt(H:AH)(v:Value)(i:Nat)(f:Addr):Prop
 |mk {x C0 d:Addr}{z:Bool}{es:Lc} (e:v=.ref x) (h1:H x=some (.ins C0 d)) (h2:H d=some (.ai z es)) (h3:es.lookup i=none) (h4:iD C0 i=some f) (h5:(A4 i&&fE i 318)=true):Mt H v i f
theorem mm.mt(h1:Mt H v i f)(h:M g c Q X (.args as [v] (.call (.ref f))::C) st m H):M g c Q X (.lm i as::C) (v::st) m H:=by
 obtain⟨rfl,h1,h2,h3,h4,h5⟩:=h1
 rw[mJ]at h5
 exact mm.mc h5.1 h1 h2 h3 h4 h5.2 h
def Va(g:Gv)(c:Cx)(H:AH)(m:Lc)(e:PE)(v:Value):Prop:=∀(Q:bJ->Lc->AH->Prop) (X:Value->Lc->AH->Prop) (R:List Value->Lc->AH->Prop),R [v] m H->M g c Q X [.v e,.kk R] [] m H
theorem Va.v{e:PE}{v:Value}(h:Va g c H m e v)(q:Q' v m H):V g c e m H Q' X:=h (λ _ _ _=>True) X (λ st m H=>match st with| [v]=>Q' v m H |_=>False) q
theorem mm.o3(h1:Va g c H m l (.bool false))(h2:Va g c H m r (.bool false))(h3:Va g c H m t v)(h:M g c Q X C (v::st) m H):M g c Q X (.v (.mE l r t)::C) st m H:=
 (V.mE (h1.v (bH.bool (bf rfl (h2.v (bH.bool (bf rfl (h3.v h))))))):V g c (.mE l r t) m H (λ v m' H'=>M g c Q X C (v::st) m' H') X)
theorem mm.a3(h1:Va g c H m l (.bool true))(h2:Va g c H m r (.bool true))(h3:Va g c H m t v)(h:M g c Q X C (v::st) m H):M g c Q X (.v (.fU l r t)::C) st m H:=
 (V.fU (h1.v (bH.bool (bt rfl (h2.v (bH.bool (bt rfl (h3.v h))))))):V g c (.fU l r t) m H (λ v m' H'=>M g c Q X C (v::st) m' H') X)
theorem mm.kJ(z2:Bool){o:PE}{lo hi s:Option PE}(h:M g c Q X (.v o::.vo lo::.vo hi::.vo s::.oq z2::C) st m H):M g c Q X (.v (.dT o lo hi s)::C) st m H:=(V.OI h:V g c (.dT o lo hi s) m H (λ v m' H'=>M g c Q X C (v::st) m' H') X)
theorem mm.sct{o lo hi:PE}(h:M g c Q X (.v o::.v lo::.v hi::.slt::C) st m H):M g c Q X (.v (.dT o (some lo) (some hi) none)::C) st m H:=(V.aai h:V g c (.dT o (some lo) (some hi) none) m H (λ v m' H'=>M g c Q X C (v::st) m' H') X)
theorem mm.oq(pl pu ps:Option Int)(h1:H x=some (.κ z vs))(h2:ps≠some 0)(h3:vs.length<=100000)(h:∀y,H y=none->M g c Q X C (.ref y::st) m (ξ H y (.κ z2 (iE vs pl pu ps)))):M g c Q X (.oq z2::C) (kH ps::kH pu::kH pl::.ref x::st) m H:=⟨x,vs,pl,pu,ps,rfl,.inl ⟨z,h1⟩,rfl,rfl,rfl,h2,h3,h⟩
theorem mm.slt(h1:H x=some (.φ vs))(h2:p<=q)(h3:q<=vs.length)(h4:q-p≠vs.length)(h5:vs.length<=1000)(h:∀y,H y=none->M g c Q X C (.ref y::st) m (ξ H y (.φ ((vs.drop p).take (q-p))))):M g c Q X (.slt::C) (.int q 0::.int p 0::.ref x::st) m H:=⟨x,vs,p,q,rfl,h1,rfl,rfl,h2,h3,h4,h5,h⟩
theorem mm.k{R:List Value->Lc->AH->Prop}(h:R st m H):M g c Q X (.kk R::C) st m H:=h
theorem mm.vt(P:Value->AH->Prop)(h1:∀R,(∀v H',P v H'->R (v::st') m H')->M g c Q X [d,.kk R] st m H)(h2:∀v H',P v H'->M g c Q X C (v::st') m H'):M g c Q X (d::C) st m H:=h1 (M g c Q X C) h2
theorem mm.mW(P:Lc->AH->Prop)(h1:∀R,(∀m' H',P m' H'->R st' m' H')->M g c Q X [d,.kk R] st m H)(h2:∀m' H',P m' H'->M g c Q X C st' m' H'):M g c Q X (d::C) st m H:=h1 (M g c Q X C) h2
theorem mm.aaC(P:Lc->AH->Prop)(h1:∀R,(∀m' H',P m' H'->R st' m' H')->M g c Q X [d,e,.kk R] st m H)(h2:∀m' H',P m' H'->M g c Q X C st' m' H'):M g c Q X (d::e::C) st m H:=h1 (M g c Q X C) h2
theorem mm.yb(P:Value->AH->Prop)(hp:lY e=true)(h1:∀R,(∀v H',P v H'->R (v::st) m H')->M g c Q X [.v e,.kk R] st m H)(h2:∀v H',P v H'->M g c Q X (.ss l::C) st (put i v m) H'):M g c Q X (.ss (.Φ i e::l)::C) st m H:=
 S.cons (S1.Φ hp (h1 (λ st' m' H'=>match st' with|v::st=>M g c Q X (.ss l::C) st (put i v m') H' | []=>False) h2))
noncomputable def sub:Lc->Lc->Prop
 | [],_=>True
 | (i,v)::r,m=>m.lookup i=some v/\sub r m
theorem sub.get:∀{a:Lc},sub a m->∀{i:Nat}{v:Value},a.lookup i=some v->m.lookup i=some v
 | [],_,_,_,e=>nomatch e
 | (j,u)::r,h,i,v,e=>by
  by_cases k:i=j
  ·subst k;rw[show eS i ((i,u)::r)=some u by simp[eS]]at e;obtain rfl:=bY e;exact h.1
  ·have hb:(i==j)=false:=by simp[k]
   simp only[eS,hb]at e;exact h.2.get e
def Sb(a m:Lc):Prop:=∀i v,a.lookup i=some v->m.lookup i=some v
theorem sub.sb{a m:Lc}(h:sub a m):Sb a m:=λ _ _ e=>h.get e
theorem Sb.put(h:Sb a m)(i:Nat)(v:Value):Sb (put i v a) (put i v m):=λ j u e=>by
 rw[Aj]at e⊢
 split at e
 ·rw[if_pos ‹_›];exact e
 ·rw[if_neg ‹_›];exact h j u e
theorem At.sb{A:bS}{s:Shared}{a:Lc}(k:Sb a m)(x:At g c A m H s):At g c A a H s:={x with ns:=let⟨mm,h,e⟩:=x.ns;⟨mm,h,λ i v hi q=>e i v hi (k i v q)⟩}
theorem W.sb{α:Type}{t:Sem α}{a:Lc}{Q:α->Lc->AH->Prop}(k:Sb a m)(h:W g c t a H Q X):W g c t m H Q X:=λ A s hA=>h A s (hA.sb k)
theorem S.sb{l:List PS}{a:Lc}(k:Sb a m)(h:S g c l a H Q X):S g c l m H Q X:=λ n e he=>(h n e he).sb k
theorem mm.fr(k:sub a m)(h:M g c Q X (.ss l::C) st a H):M g c Q X (.ss l::C) st m H:=S.sb k.sb h
theorem mm.fo(G:Goes g c v xs J H)(I:Nat->Lc->AH->Prop)(s0:sub m0 m)(h0:I 0 m0 H)
  (turn:∀k x m' H',I k m' H'->xs[k]?=some x->J H'/\M g c (LK (λ Ξ ο=>∃m3,sub m3 Ξ/\I (k+1) m3 ο) (FK (M g c Q X (.ss l::C)) st Q)) X [.ss a] [] (put i x m') H')
  (fin:∀m' H',I xs.length m' H'->J H'/\M g c Q X (.ss l::C) st m' H'):M g c Q X (.fo i a::.ss l::C) (v::st) m H:=
 ⟨xs,J,G,λ k m H=>∃m',Sb m' m/\I k m' H,⟨m0,s0.sb,h0⟩,λ k x m H ⟨m',a1,a2⟩ a3=>ag (turn k x m' H a2 a3) λ p q=>⟨p,S.sb (a1.put i x) λ n e he=>W.mono (S.ma q n e he) (λ f Ξ ο q=>by cases f <;> first |exact q |exact ψ (q) λ m3 b2 b3=>⟨m3,b2.sb,b3⟩) λ _ _ _ x=>x⟩,λ m H aaD=>ψ aaD λ m' a1 a2=>ag (fin m' H a2) λ p q=>⟨p,S.sb a1 q⟩⟩
theorem mm.f1(G:Goes g c v [x] J H)(hJ:J H)(h:M g c (LK (λ Ξ ο=>J ο/\M g c Q X C st Ξ ο) (FK (M g c Q X C) st Q)) X [.ss a] [] (put i x m) H):M g c Q X (.fo i a::C) (v::st) m H:=by
 refine⟨[x],J,G,λ k m' H'=>(k=0/\m'=m/\H'=H)\/(k=1/\J H'/\M g c Q X C st m' H'),.inl ⟨rfl,rfl,rfl⟩,λ k y m' H' q hx=>?_,λ m' H' q=>?_⟩
 ·rcases q with ⟨rfl,rfl,rfl⟩|⟨rfl,_⟩
  ·cases hx
   exact⟨hJ,λ n e he=>W.mono (S.ma h n e he) (λ f Ξ ο q=>by cases f <;> first |exact q |exact .inr ⟨rfl,q⟩) λ _ _ _ x=>x⟩
  ·cases hx
 ·rcases q with ⟨h0,_⟩|⟨_,q⟩
  ·cases h0
  ·exact q
theorem mm.wl{nn:Nat}{t:PE}{a:List PS}(o:Fc c nn)(I:Nat->Lc->AH->Prop){n:Nat}{m0:Lc}(s0:sub m0 m)(h0:I n m0 H)
  (turn:∀n m' H',I n m' H'->M g c (LK (λ Ξ ο=>∃n' m3,n'<n/\sub m3 Ξ/\I n' m3 ο) (FK (M g c Q X C) st Q)) X [.t t,.wh a] [] m' H'):M g c Q X (.s (.fV t a)::C) st m H:=by
 refine S1.fV o.own (λ n m H=>∃m',Sb m' m/\I n m' H) ⟨m0,s0.sb,h0⟩ λ n m H ⟨m',a1,a2⟩ n' e he=>W.sb a1 (W.mono (turn n m' H a2 n' e he) (λ b ρ H₁ q=>?_) λ _ _ _ x=>x)
 cases b with
 |false=>exact q
 |true=>exact λ n e he=>W.mono (q n e he) (λ f Ξ ο q=>by cases f <;> first |exact q |exact dG (q) λ n' m3 b1 b2 b3=>⟨n',b1,m3,b2.sb,b3⟩) λ _ _ _ x=>x
theorem mm.tf(o:Fc c nn)(h:M g c (TQ g c (f0::fs) (FK (M g c Q X C) st Q)) (TX g c (f0::fs) X) [.ss a] [] m H):M g c Q X (.s (.jj a (f0::fs))::C) st m H:=by
 refine S1.jj o.own ?_
 intro n e he
 exact W.mono (S.ma h n e he) (λ f m H q=>S.ma q) λ v m H q e=>S.ma (q e)
end
theorem yc:jD=6:=by decide +kernel
noncomputable abbrev sv(x:Str):Value:=.str x 0
noncomputable def nfn(ν:Addr->Int)(x:Addr)(es:Lc):Lc:=es++[(6,.int (ν x) 0)]
noncomputable def aaE(p:Option (Addr->Int))(x:Addr)(es:Lc):AO:=match p with
 |none=>.aM es
 |some ν=>.ai true (nfn ν x es)
inductive NP(p:Option (Addr->Int))(H:AH)(v:Value)(x:Addr)(kind:Int)(a:Value)(kv:List Value):Prop
 |mk (e:v=.ref x) (d kl:Addr) (n1:H x=some (.ins 38 d)) (n2:H d=some (aaE p x (x5 kind a kl))) (n3:H kl=some (.κ true kv)):NP p H v x kind a kv
theorem NP.fz(F:Fz H H'):NP p H v x kind a kv->NP p H' v x kind a kv
 |⟨e,d,kl,h1,h2,h3⟩=>⟨e,d,kl,F _ _ h1 rfl,F _ _ h2 (by cases p <;> rfl),F _ _ h3 rfl⟩
set_option genCtorIdx true in
inductive Ex where
 |dA (n:Str) (x:Addr)|str (t:Str)|num (i:Int)|cM
inductive Row where
 |txt (t:Str)|bad (x:Addr)
inductive St where
 |ex (e:Ex)|dN |ret (e:Ex)|aw (e:Ex)|brk (l:Str)|cnt (l:Str)
 |dQ (b:List St) (c:Option (Option Addr×List St)) (f:Option (List St))
 |hU (l:Str) (b:List St)
 |gq (l:Str) (isOf:Bool) (x:Addr) (row:Row) (b:List St)
 |kK (l:Str) (b:List St)
 |sw (e:Ex) (p1:Option Ex) (s1:St) (p2:Option Ex) (s2:St)
 |iff (e:Ex) (a:List St) (b:Option St)
noncomputable def s_:Str:=⟨⟨[]⟩⟩
noncomputable def gf:Str:=⟨⟨[101]⟩⟩
noncomputable def bC:Str:=⟨⟨[120]⟩⟩
noncomputable def cf:Str:=⟨⟨[99,48]⟩⟩
noncomputable def cE:Str:=⟨⟨[99,49]⟩⟩
noncomputable def r_:Str:=⟨⟨[99,111,110,115,116]⟩⟩
section
variable (p:Option (Addr->Int))(H:AH)
def ER(v:Value):Ex->Prop
 | .dA n x=>NP p H v x 8 (.str n 0) []
 | .str t=>∃x,NP p H v x 2 (.str t 0) []
 | .num i=>∃x,NP p H v x 1 (.int i 0) []
 | .cM=>∃x,NP p H v x 4 (.str s_ 0) []
def RR(v:Value):Row->Prop
 | .txt t=>∃x,NP p H v x 2 (.str t 0) []
 | .bad x=>NP p H v x 8 (.str bC 0) []
noncomputable def ak{α β:Type}(R:α->β->Prop):List α->List β->Prop
 | [],[]=>True
 |a::l,b::m=>R a b/\ak R l m
 |_,_=>False
def cQ{β:Type}(R:Value->β->Prop)(v:Value):Option β->Prop
 |none=>v=.none
 |some b=>R v b
inductive BR(R:Value->St->Prop)(v:Value)(ss:List St):Prop
 |mk (x:Addr) (kv:List Value) (h:NP p H v x 59 (.str s_ 0) kv) (a:ak R kv ss):BR R v ss
def LR(l:Str)(v:Value)(P:Value->Prop):Prop:=if l=s_ then P v else ∃x w,NP p H v x 55 (.str l 0) [w]/\P w
inductive CR(R:Value->St->Prop)(v:Value)(c:Option Addr×List St):Prop
 |mk (x:Addr) (n b:Value) (h:NP p H v x 58 (.str s_ 0) [n,b]) (o:cQ (λ n y=>NP p H n y 8 (.str gf 0) []) n c.1) (r:BR p H R b c.2):CR R v c
inductive sq(k:Int)(v:Value)(e:Ex):Prop
 |mk (x:Addr) (w:Value) (h:NP p H v x k (.str s_ 0) [w]) (r:ER p H w e):sq k v e
inductive Hb(R:Value->St->Prop)(v:Value)(l:Str)(b:List St):Prop
 |mk (x:Addr) (w:Value) (h:NP p H v x 55 (.str l 0) [w]) (r:BR p H R w b):Hb R v l b
inductive Ba(R:Value->St->Prop)(v:Value)(b:List St)(c:Option (Option Addr×List St))(f:Option (List St)):Prop
 |mk (x:Addr) (bv cv fv:Value) (h:NP p H v x 57 (.str s_ 0) [bv,cv,fv]) (h1:BR p H R bv b) (h2:cQ (CR p H R) cv c) (h3:cQ (BR p H R) fv f):Ba R v b c f
inductive Bc(R:Value->St->Prop)(b:List St)(v:Value):Prop
 |mk (x:Addr) (bv tv:Value) (t:Addr) (h:NP p H v x 46 (.str s_ 0) [bv,tv]) (h1:BR p H R bv b) (h2:NP p H tv t 5 (.str s_ 0) []):Bc R b v
inductive ye(R:Value->St->Prop)(isOf:Bool)(n:Addr)(row:Row)(b:List St)(v:Value):Prop
 |mk (x:Addr) (hv rv bv:Value) (hx:Addr) (dv:Value) (dx:Addr) (nv:Value) (h:NP p H v x (if isOf=true then 48 else 49) (.str s_ 0) [hv,rv,bv]) (h1:NP p H hv hx 41 (.str r_ 0) [dv])
  (h2:NP p H dv dx 42 (.str s_ 0) [nv,.none,.none]) (h3:NP p H nv n 8 (.str bC 0) []) (h4:RR p H rv row) (h5:BR p H R bv b):ye R isOf n row b v
inductive Hc(R:Value->St->Prop)(v:Value)(e:Ex)(p1:Option Ex)(s1:St)(p2:Option Ex)(s2:St):Prop
 |mk (x:Addr) (ev c1 c2:Value) (x1:Addr) (t1 v1:Value) (x2:Addr) (t2 v2:Value) (h:NP p H v x 50 (.str s_ 0) [ev,c1,c2]) (h1:ER p H ev e) (h2:NP p H c1 x1 51 (.str s_ 0) [t1,v1]) (h3:cQ (ER p H) t1 p1) (h4:R v1 s1)
  (h5:NP p H c2 x2 51 (.str s_ 0) [t2,v2]) (h6:cQ (ER p H) t2 p2) (h7:R v2 s2):Hc R v e p1 s1 p2 s2
inductive Hd(R:Value->St->Prop)(v:Value)(e:Ex)(a:List St)(b:Option St):Prop
 |mk (x:Addr) (ev av bv:Value) (h:NP p H v x 44 (.str s_ 0) [ev,av,bv]) (h1:ER p H ev e) (h2:BR p H R av a) (h3:cQ R bv b):Hd R v e a b
def mX(R:Value->St->Prop)(v:Value):St->Prop
 | .ex e=>sq p H 43 v e
 | .dN=>∃x,NP p H v x 52 (.str s_ 0) [.none]
 | .ret e=>sq p H 52 v e
 | .aw e=>sq p H 56 v e
 | .brk l=>∃x,NP p H v x 53 (.str l 0) []
 | .cnt l=>∃x,NP p H v x 54 (.str l 0) []
 | .dQ b c f=>Ba p H R v b c f
 | .hU l b=>LR p H l v (Bc p H R b)
 | .gq l isOf n row b=>LR p H l v (ye p H R isOf n row b)
 | .kK l b=>Hb p H R v l b
 | .sw e p1 s1 p2 s2=>Hc p H R v e p1 s1 p2 s2
 | .iff e a b=>Hd p H R v e a b
noncomputable def SR:Nat->Value->St->Prop
 |0=>λ _ _=>False
 |n+1=>mX p H (SR n)
end
def hV(p p':Option (Addr->Int))(H H':AH):Prop:=∀{v x kind a kv},NP p H v x kind a kv->NP p' H' v x kind a kv
theorem ER.map(F:hV p p' H H'):∀{e:Ex},ER p H v e->ER p' H' v e
 | .dA _ _,h=>F h
 | .str _,⟨x,h⟩=>⟨x,F h⟩
 | .num _,⟨x,h⟩=>⟨x,F h⟩
 | .cM,⟨x,h⟩=>⟨x,F h⟩
theorem RR.map(F:hV p p' H H'):∀{e:Row},RR p H v e->RR p' H' v e
 | .txt _,⟨x,h⟩=>⟨x,F h⟩
 | .bad _,h=>F h
theorem ak.ind{α β:Type}{R:α->β->Prop}{P:List α->List β->Prop}(n:P [] [])(c:∀a b l m,R a b->ak R l m->P l m->P (a::l) (b::m)){l:List α}:∀{m:List β},ak R l m->P l m:=by
 induction l with
 |nil=>intro m h;cases m with
  |nil=>exact n
  |cons b m=>exact h.elim
 |cons a l ih=>intro m h;cases m with
  |nil=>exact h.elim
  |cons b m=>exact c a b l m h.1 h.2 (ih h.2)
theorem ak.map{α β:Type}{R R':α->β->Prop}(k:∀a b,R a b->R' a b){l:List α}{m:List β}(h:ak R l m):ak R' l m:=ak.ind (P:=ak R') trivial (λ _ _ _ _ h _ t=>⟨k _ _ h,t⟩) h
theorem cQ.map{β:Type}{R R':Value->β->Prop}(k:∀a b,R a b->R' a b):∀{o:Option β},cQ R v o->cQ R' v o
 |none,h=>h
 |some _,h=>k _ _ h
theorem BR.map(F:hV p p' H H'){R R':Value->St->Prop}(k:∀a b,R a b->R' a b){v:Value}{ss:List St}:BR p H R v ss->BR p' H' R' v ss
 |⟨x,kv,h,a⟩=>⟨x,kv,F h,a.map k⟩
theorem CR.map(F:hV p p' H H'){R R':Value->St->Prop}(k:∀a b,R a b->R' a b){v:Value}:CR p H R v c->CR p' H' R' v c
 |⟨x,n,b,h,h1,h2⟩=>⟨x,n,b,F h,h1.map λ _ _ z=>F z,h2.map F k⟩
theorem LR.map(F:hV p p' H H')(k:∀v,P v->P' v)(h:LR p H l v P):LR p' H' l v P':=by
 unfold LR at *
 split at h
 ·rw[if_pos (by assumption)];exact k _ h
 ·rw[if_neg (by assumption)];refine c7 h λ x w h1 h2=>?_;clear h;exact⟨x,w,F h1,k _ h2⟩
theorem mX.map(F:hV p p' H H'){R R':Value->St->Prop}(k:∀a b,R a b->R' a b){v:Value}:∀{s:St},mX p H R v s->mX p' H' R' v s
 | .ex _,⟨x,w,h,e⟩=>⟨x,w,F h,e.map F⟩
 | .dN,⟨x,h⟩=>⟨x,F h⟩
 | .ret _,⟨x,w,h,e⟩=>⟨x,w,F h,e.map F⟩
 | .aw _,⟨x,w,h,e⟩=>⟨x,w,F h,e.map F⟩
 | .brk _,⟨x,h⟩=>⟨x,F h⟩
 | .cnt _,⟨x,h⟩=>⟨x,F h⟩
 | .dQ _ _ _,⟨x,bv,cv,fv,h,h1,h2,h3⟩=>⟨x,bv,cv,fv,F h,h1.map F k,h2.map λ _ _ z=>z.map F k,h3.map λ _ _ z=>z.map F k⟩
 | .hU _ _,h=>LR.map F (λ v ⟨x,bv,tv,t,h,h1,h2⟩=>⟨x,bv,tv,t,F h,h1.map F k,F h2⟩) h
 | .gq _ _ _ _ _,h=>LR.map F (λ v ⟨x,hv,rv,bv,hx,dv,dx,nv,h,h1,h2,h3,h4,h5⟩=>⟨x,hv,rv,bv,hx,dv,dx,nv,F h,F h1,F h2,F h3,h4.map F,h5.map F k⟩) h
 | .kK _ _,⟨x,w,h,e⟩=>⟨x,w,F h,e.map F k⟩
 | .sw _ _ _ _ _,⟨x,ev,c1,c2,x1,t1,v1,x2,t2,v2,h,h1,h2,h3,h4,h5,h6,h7⟩=>⟨x,ev,c1,c2,x1,t1,v1,x2,t2,v2,F h,h1.map F,F h2,h3.map λ _ _ z=>z.map F,k _ _ h4,F h5,h6.map λ _ _ z=>z.map F,k _ _ h7⟩
 | .iff _ _ _,⟨x,ev,av,bv,h,h1,h2,h3⟩=>⟨x,ev,av,bv,F h,h1.map F,h2.map F k,h3.map k⟩
theorem SR.map(F:hV p p' H H'):∀{n:Nat}{v:Value}{s:St},SR p H n v s->SR p' H' n v s
 |0,_,_,h=>h.elim
 |n+1,_,_,h=>mX.map F (λ _ _ z=>SR.map F z) h
theorem hV.fz(F:Fz H H'):hV p p H H':=λ z=>z.fz F
theorem ER.fz(F:Fz H H')(h:ER p H v e):ER p H' v e:=h.map (hV.fz F)
theorem SR.fz(F:Fz H H')(h:SR p H n v s):SR p H' n v s:=h.map (hV.fz F)
theorem BR.fz(F:Fz H H')(h:BR p H (SR p H n) v ss):BR p H' (SR p H' n) v ss:=h.map (hV.fz F) λ _ _ z=>z.fz F
def WE:Ex->Prop
 | .dA n _=>n=gf\/n=bC\/n=cf\/n=cE
 | .str t=>t=⟨⟨[97]⟩⟩
 | .num i=>i=0\/i=1
 | .cM=>False
def ou:Row->Prop
 | .txt t=>t=⟨⟨[97,98]⟩⟩\/t=⟨⟨[97]⟩⟩\/t=⟨⟨[98,97,98]⟩⟩
 | .bad _=>True
def eC:Option Ex->Prop
 |none=>True
 |some (.str t)=>t=⟨⟨[97]⟩⟩
 |some (.num i)=>i=1
 |some .cM=>True
 |some (.dA _ _)=>False
def bF(l:Str):Prop:=Be (.str l)=true
theorem l8:bF l↔∀c∈l.cps.toList,c<0x110000:=by
 unfold bF
 have:Be (.str l)=l.cps.all (·<0x110000):=by simp only[Be];rfl
 rw[this,Array.all_eq_true']
 simp
theorem aaF(h:bF x)(k:bF y):bF (x++y):=by
 rw[l8]at *
 intro c hc
 have e:(x++y).cps.toList=x.cps.toList++y.cps.toList:=by
  show(x.cps++y.cps).toList=_
  rw[Ox]
 rw[e]at hc
 rcases List.mem_append.mp hc with h1 |h1
 ·exact h c h1
 ·exact k c h1
theorem sx:bF s_:=l8.mpr λ _ h=>nomatch h
noncomputable def ext(l:Str)(L:List Str):List Str:=L++if l=s_ then[s_]else[s_,l]
def WB(W:List Str->List Str->St->Prop)(L M:List Str)(ss:List St):Prop:=1<=ss.length/\ss.length<=2/\∀s∈ss,W L M s
def l9(W:List Str->List Str->St->Prop)(L M:List Str):St->Prop
 | .ex e=>WE e
 | .dN=>True
 | .ret e=>WE e
 | .aw e=>WE e
 | .brk l=>l∈M
 | .cnt l=>l∈L
 | .dQ b c f=>WB W L M b/\(∀y,c=some y->WB W L M y.2)/\∀y,f=some y->WB W L M y
 | .hU l b=>bF l/\WB W (ext l L) (ext l M) b
 | .gq l _ _ row b=>bF l/\ou row/\WB W (ext l L) (ext l M) b
 | .kK l b=>bF l/\l≠s_/\WB W L (M++[l]) b
 | .sw e p1 s1 p2 s2=>WE e/\eC p1/\W L (M++[s_]) s1/\eC p2/\W L (M++[s_]) s2/\(p1=none->p2≠none)
 | .iff e a b=>WE e/\WB W L M a/\∀y,b=some y->W L M y
noncomputable def WF:Nat->List Str->List Str->St->Prop
 |0=>λ _ _ _=>False
 |n+1=>l9 (WF n)
theorem WB.map{W W':List Str->List Str->St->Prop}(k:∀L M s,W L M s->W' L M s){L M:List Str}:WB W L M ss->WB W' L M ss
 |⟨a,b,c⟩=>⟨a,b,λ s h=>k _ _ _ (c s h)⟩
theorem l9.map{W W':List Str->List Str->St->Prop}(k:∀L M s,W L M s->W' L M s){L M:List Str}:∀{s:St},l9 W L M s->l9 W' L M s
 | .ex _,h=>h
 | .dN,h=>h
 | .ret _,h=>h
 | .aw _,h=>h
 | .brk _,h=>h
 | .cnt _,h=>h
 | .dQ _ _ _,⟨h1,h2,h3⟩=>⟨h1.map k,λ y e=>(h2 y e).map k,λ y e=>(h3 y e).map k⟩
 | .hU _ _,⟨h1,h2⟩=>⟨h1,h2.map k⟩
 | .gq _ _ _ _ _,⟨h0,h1,h2⟩=>⟨h0,h1,h2.map k⟩
 | .kK _ _,⟨h0,h1,h2⟩=>⟨h0,h1,h2.map k⟩
 | .sw _ _ _ _ _,⟨h1,h2,h3,h4,h5,h6⟩=>⟨h1,h2,k _ _ _ h3,h4,k _ _ _ h5,h6⟩
 | .iff _ _ _,⟨h1,h2,h3⟩=>⟨h1,h2.map k,λ y e=>k _ _ _ (h3 y e)⟩
noncomputable def i5(l:List Int):List Value:=l.map λ i=>.int i 0
theorem lookup_append{es:Lc}{i:Nat}(e:es.lookup i=some v):(es++r).lookup i=some v:=by
 induction es with
 |nil=>exact nN e
 |cons p q ih=>
  obtain⟨j,u⟩:=p
  by_cases h:i=j
  ·subst h;simpa[eS]using e
  ·have hb:(i==j)=false:=by simpa using h
   simp only[List.cons_append,eS,hb]at e⊢
   exact ih e
theorem c_.O'{x C d:Addr}{es:Lc}{i:Nat}(hx:H x=some (.ins C d))(hd:H d=some (.aM es))(e:es.lookup i=some v)(hc:g_ C i=true)(hv:cT v=true)(q:Q v m H):
  c_ g c (λ w=>lh w (N i) ex) (.ref x) m H Q X:=by
 intro a' ha A s hA
 obtain rfl:=a8 ha
 refine fg (hA.ok.ai hc) λ k1 k2 k3=>?_
 refine Θ (hA.sim d _ hd) λ j L=>?_
 refine xh (cX.ns L) λ od ents n mm q1 q2 q3 q4 q5=>?_
 have I1:InstAt s.heap x (k9 C d) C (some od):=⟨hA.sim x _ hx,rfl,rfl,q1⟩
 refine fg k2 λ c1 c2 c3=>?_;clear k2
 have d8:=q5 i k1
 rw[lookup_append e]at d8
 refine ψ (Option.map_eq_some_iff.mp d8) λ v' k4 Gs=>?_;subst Gs
 have hl:lookIn (N i) od=some (mm (N i)):=Fi q2 q3 q4
 rw[k4]at hl
 exact get_value hA.toaC.dZ I1 c2 (Fo c1 k3 hl) (Fl hv) (gX hA _ q)
section
variable {kind:Int}
theorem NP.fd(np:NP p H v x kind a kv)(h:∀kl,(x5 kind a kl).lookup i=some u)(hc:g_ 38 i=true)(hd:cT u=true):Fd H v i u:=by
 obtain⟨rfl,d,kl,n1,n2,n3⟩:=np
 refine⟨λ g c m Q X q=>?_⟩
 cases p with
 |none=>exact c_.O' n1 n2 (h kl) hc hd q
 |some ν=>exact c_.fl n1 n2 (lookup_append (h kl)) hc hd q
theorem NP.ki(np:NP p H v x kind a kv):Fd H v 1 (.int kind 0):=np.fd (λ _=>rfl) rfl rfl
theorem NP.va(np:NP p H v x kind a kv)(hd:cT a=true):Fd H v 2 a:=np.fd (λ _=>rfl) rfl hd
theorem NP.iH(np:NP (some ν) H v x kind a kv):Fd H v 6 (.int (ν x) 0):=by
 obtain⟨rfl,d,kl,n1,n2,n3⟩:=np
 exact⟨λ g c m Q X q=>c_.fl n1 n2 rfl rfl rfl q⟩
theorem NP.kids(np:NP p H v x kind a kv):∃kl,Fd H v 3 (.ref kl)/\H kl=some (.κ true kv):=by
 obtain⟨rfl,d,kl,n1,n2,n3⟩:=np
 refine⟨kl,⟨λ g c m Q X q=>?_⟩,n3⟩
 cases p with
 |none=>exact c_.O' n1 n2 rfl rfl rfl q
 |some ν=>exact c_.fl n1 n2 rfl rfl rfl q
theorem NP.fe(E:Ext H H')(np:NP p H v x kind a kv):NP p H' v x kind a kv:=np.fz E.fz
theorem NP.ref(np:NP p H v x kind a kv):v=.ref x:=let⟨e,_,_,_,_,_⟩:=np;e
theorem NP.ne(np:NP p H v x kind a kv):(v==.none)=false:=by rw[np.ref];rfl
variable {st:List Value}
theorem mm.ks(np:NP p H v x kind a kv)(h:∀kl,H kl=some (.κ true kv)->M g c Q X C (.ref kl::st) m H):M g c Q X (.π 3::C) (v::st) m H:=
 ψ (np.kids) λ kl h1 h2=>mm.fd h1 (h kl h2)
theorem mm.kd(np:NP p H v x kind a kv)(e:ix kv j=some w)(h:M g c Q X C (w::st) m H):M g c Q X (.π 3::.v (.int j)::.sub::C) (v::st) m H:=
 mm.ks np λ _ h2=>(V.int (mm.sl h2 e h):V g c (.int j) m H (λ v m' H'=>M g c Q X (.sub::C) (v::_) m' H') X)
end
 def rp(l:List Lean.Syntax)(w:String):List Lean.Syntax:=
 let a:=w.splitOn "/"
 let k:=a.getD 0 w
 let n:=a.length-2
 bif k == "" then(bif n==0 then(bif a.length==1 then l else .atom .none (a.getD 1 w)::l)else l)else
 (bif a.length==1 then .ident .none w.toRawSubstring w.toName []else .node .none k.toName (l.take n).reverse.toArray)::l.drop n
set_option compiler.extract_closed false
local macro_rules | `(tactic| ktf_call $s:str) =>return (((("*:# Lean.Parser.Tactic.withReducible/// |):>null/// |&:# Lean.Parser.Tactic.case///// |;: / ] hygieneInfo// Lean.Parser.Term.hygienicLParen/// $/^/ Mine.M / Lean.Parser.Term.ellipsis// null// Lean.Parser.Term.app/// null// / Lean.Parser.Term.typeAscription////// |}:\" str// PySem.W.tacticKtf_call_///# group/// |%:$z'|?: Lean.Parser.Tactic.first/// |$: / |^: Lean.Parser.Term.syntheticHole/// |!: Lean.Parser.Term.app/// Lean.Parser.Tactic.refine'/// |@:null/|#: null// Lean.Parser.Tactic.tacticSeq1Indented// Lean.Parser.Tactic.tacticSeq// |~: Lean.binderIdent// null/ Lean.Parser.Tactic.caseArg/// null// / |<: / /\"|>:\" str// PySem.W.tacticKtf_call_/// |{: / / /\"|+: / Lean.Parser.Tactic.assumption// |=: / rfl Lean.Parser.Tactic.exact/// ".splitOn "|").foldl (λ s r=>(r.drop 2).toString.intercalate (s.splitOn (r.take 1).toString)) (((("|0:/ ah Lean.Parser.Tactic.refine'///|1:/ cu %a^%b^@//!<1c)|1c:%a~<h>&%b~+&@//|2:/ agV %a^%b^%c^@///!<2c)|2c:%a~<h>&%b~<h>&%c~=&@///|3:/ Ext.at %a^%b^@//!<3c)|3c:%a~+&%b~<h>&@//|4:/ Fb.at %a^%b^%c^@///!<4c)|4c:%a~+&%b~<h>&%c~+&@///|h:/ / +#group/// {0}{1}{2}{3}{4}@//////?|5:/ Ext.refl Lean.Parser.Tactic.refine'///|6:/ Ext.trans' %a^%b^@//!<6c)|6c:%a~+&%b~<e>&@//|e:/ / +#group/// {5}{6}@///?|7:/ Fz.refl Lean.Parser.Tactic.refine'///|8:/ Fz.new %a^%b^@//!<8c)|8c:%a~+&%b~<f>&@//|9:/ Fz.mut %a^%b^%c^@///!<9c)|9c:%a~<h>&%b~=&%c~<f>&@///|10:/ Fz.trans' %a^%b^@//!<10c)|10c:%a~+&%b~<f>&@//|f:/ / +#group/// {7}{8}{9}{10}@/////?|11:/ Fb.refl Lean.Parser.Tactic.refine'///|12:/ Fb.new %a^%b^@//!<12c)|12c:%a~+&%b~<b>&@//|13:/ Fb.trans' %a^%b^@//!<13c)|13c:%a~+&%b~<b>&@//|14:/ Fb.om %a^%b^@//!<14c)|14c:%a~+&%b~<b>&@//|15:/ Fb.own %a^%b^@//!<15c)|15c:%a~+&%b~<b>&@//|b:/ / +#group/// {11}{12}{13}{14}{15}@//////?|16:/ rfl Lean.Parser.Tactic.refine'///|r:/ {16}/ +#group/// @//?|17:/ of_decide_eq_true %a^@/!<17c)|17c:%a~=&|L:/ {17}/ +#group/// @//?|18:/ NP.fz %a^%b^@//!<18c)|18c:%a~+&%b~+&@//|19:/ NP.fe %a^%b^@//!<19c)|19c:%a~+&%b~+&@//|np:/ / +#group/// {18}{19}@///?|20:/ NP.ki %a^@/!<20c)|20c:%a~<np>&|21:/ NP.va %a^%b^@//!<21c)|21c:%a~<np>&%b~<r>&@//|22:/ NP.iH %a^@/!<22c)|22c:%a~<np>&|23:/ MS.fd %a^%b^%c^%d^@////!<23c)|23c:%a~+&%b~=&%c~=&%d~<r>&@////|24:/ eX.fd %a^%b^%c^%d^@////!<24c)|24c:%a~+&%b~=&%c~=&%d~<r>&@////|fd:/ / +#group/// {20}{21}{22}{23}{24}@//////?|25:/ VR.tg %a^@/!<25c)|25c:%a~+&|26:/ VR.py %a^@/!<26c)|26c:%a~+&|27:/ OR.tg %a^@/!<27c)|27c:%a~+&|it:/ / +#group/// {25}{26}{27}@////?|28:/ MS.mt %a^%b^%c^%d^@////!<28c)|28c:%a~+&%b~=&%c~=&%d~=&@////|29:/ RI.mt %a^%b^%c^@///!<29c)|29c:%a~+&%b~<r>&%c~=&@///|mt:/ / +#group/// {28}{29}@///?|t:/ mm.lv %a^$/^@//!<tc)|tc:%a~=&|30:/ mm.tn %a^$/^@//!<30c)|30c:%a~=&|31:/ mm.ln %a^$/^@//!<31c)|31c:%a~=&|T:/ {30}{31}@//?|32:/ mm.ad %a^;@//!<32c)|32c:%a~+&|33:/ mm.an %a^;@//!<33c)|33c:%a~+&|34:/ mm.af ;@/!|A:/ {32}{33}{34}@///?|a:/ And.intro %a^$/^@//!<ac)|ac:%a~<d>&|d:/ of_decide_eq_true %a^@/!<dc)|dc:%a~=&|35:/ Fc.k %a^%b^@//!<35c)|35c:%a~+&%b~=&@//|36:/ Fc.le %a^@/!<36c)|36c:%a~+&|37:/ Nat.le_of_succ_le %a^@/!<37c)|37c:%a~+&|k:/ {35}/ +#group/// {36}{37}@////?|38:/ / mm.kd %a^%b^$/^@///!*<38c)|38c:%a~<np>&%b~=&@//|39:/ / mm.fd %a^$/^@//!*<39c)|39c:%a~<fd>&|40:/ / mm.at %a^%b^%c^%d^%e^$/^@//////!*<40c)|40c:%a~<h>&%b~<h>&%c~=&%d~=&%e~<r>&@/////|41:/ / mm.it %a^$/^@//!*<41c)|41c:%a~<it>&|42:/ / mm.mt %a^$/^@//!*<42c)|42c:%a~<mt>&|43:/ / mm.sl %a^%b^$/^@///!*<43c)|43c:%a~<h>&%b~=&@//|44:/ / mm.su %a^%b^$/^@///!*<44c)|44c:%a~<h>&%b~=&@//|45:/ / mm.sm %a^$/^@//!*<45c)|45c:%a~<h>&|46:/ / mm.mc %a^%b^%c^%d^%e^%f^$/^@///////!*<46c)|46c:%a~=&%b~<h>&%c~<h>&%d~=&%e~=&%f~=&@//////|47:/ / mm.la %a^$/^@//!*<47c)|47c:%a~<h>&|48:/ / mm.dg %a^%b^$/^@///!*<48c)|48c:%a~<h>&%b~=&@//|49:/ / mm.ap %a^%b^$/^@///!*<49c)|49c:%a~<h>&%b~<L>&@//|50:/ / mm.lp %a^%b^$/^@///!*<50c)|50c:%a~<h>&%b~<L>&@//|51:/ / mm.gi %a^$/^@//!*<51c)|51c:%a~<h>&|52:/ / mm.gs %a^$/^@//!*<52c)|52c:%a~<h>&|53:/ / mm.g2 %a^$/^@//!*<53c)|53c:%a~<h>&|54:/ / mm.sf %a^%b^%c^%d^$/^@/////!*<54c)|54c:%a~<h>&%b~<h>&%c~=&%d~=&@////|55:/ / mm.sh %a^%b^%c^%d^$/^@/////!*<55c)|55c:%a~<h>&%b~<h>&%c~=&%d~=&@////|56:/ / mm.u2 %a^$/^@//!*<56c)|56c:%a~+&|57:/ / mm.u3 %a^$/^@//!*<57c)|57c:%a~+&|58:/ / mm.i1 %a^$/^@//!*<58c)|58c:%a~=&|59:/ / mm.i0 %a^$/^@//!*<59c)|59c:%a~=&|60:/ / mm.w1 %a^$/^@//!*<60c)|60c:%a~=&|61:/ / mm.w0 %a^$/^@//!*<61c)|61c:%a~=&|62:/ / mm.a1 %a^$/^@//!*<62c)|62c:%a~=&|63:/ / mm.a0 %a^$/^@//!*<63c)|63c:%a~=&|64:/ / mm.o1 %a^$/^@//!*<64c)|64c:%a~=&|65:/ / mm.o0 %a^$/^@//!*<65c)|65c:%a~=&|66:/ / mm.e1 %a^$/^@//!*<66c)|66c:%a~=&|67:/ / mm.e0 %a^$/^@//!*<67c)|67c:%a~=&|68:/ / mm.k $/^@/!*|69:/ / mm.rt $/^@/!*|70:/ / mm.nl $/^@/!*|71:/ / RK.r $/^@/!*|72:/ / RK.n $/^@/!*|73:/ / LK.n $/^@/!*|74:/ / LK.r $/^@/!*|75:/ / FK.r $/^@/!*|76:/ / NK.n $/^@/!*|77:/ / mm.tf %a^$/^@//!*<77c)|77c:%a~+&|78:/ / mm.fx %a^$/^@//!*<78c)|78c:%a~<fd>&|79:/ / TX.i / / Lean.Parser.Term.hole// null// null/ / $/^Lean.Parser.Term.basicFun///// Lean.Parser.Term.fun/// @/!*|x0:/ {38}{39}{40}{41}{42}{43}{44}{45}{46}{47}{48}{49}{50}{51}{52}{53}{54}{55}{56}{57}{58}{59}{60}{61}{62}{63}{64}{65}{66}{67}{68}{69}{70}{71}{72}{73}{74}{75}{76}{77}{78}{79}@//////////////////////////////////////////?|80:/ / mm.go $/^@/!*|x:/ {x0}{80}@//?|l1:/ mm.ls true $/^@//!|l0:/ mm.ls false $/^@//!|y:/ <A>#Lean.Parser.Tactic.tacticTry_///|xs:<x><y)|ys:<x0><y)|g:<y>/ <xs>#Lean.Parser.Tactic.tacticRepeat_/// null///|gq:<y>/ <ys>#Lean.Parser.Tactic.tacticRepeat_/// null///|lt:<l1><g)|lf:<l0><g)".splitOn ("|" ++ s.getString ++ ":")).getD 1 "").splitOn "|").getD 0 "")).splitOn " ").foldl rp []).getD 0 s
section
variable {k:Nat}
theorem lC(hk:3<=k)(hq:∀H' v x,Ext H H'->NP none H' v x kind a []->Q v H'):μ g k (.ref 49) [.int kind 0,a,.int 0 0] H Q X:=by
 refine Θ (l_ hk) λ j aaG=>?_;subst aaG
 exact agX λ H' x e ⟨d,kl,a,b,c⟩=>hq H' _ x e ⟨rfl,d,kl,a,b,c⟩
theorem i6(hk:3<=k)(h:H kl=some (.κ true kv))(hq:∀H' v x,Ext H H'->NP none H' v x kind a kv->Q v H'):μ g k (.ref 56) [.int kind 0,a,.ref kl,.int 0 0] H Q X:=by
 refine Θ (l_ hk) λ j aaH=>?_;subst aaH
 exact agY h λ H' x e ⟨d,kl,a,b,c⟩=>hq H' _ x e ⟨rfl,d,kl,a,b,c⟩
inductive Bg(H:AH)(b:Addr):Prop
 |mk (l:List Int) (h:H b=some (.κ false (i5 l))) (n:l.length<1000):Bg H b
theorem Bg.ext(E:Ext H H')(h:Bg H b):Bg H' b:=by cases h with|mk l h n=>exact⟨l,E _ _ h,n⟩
theorem Bg.new(n:H a=none)(h:Bg H b):Bg (ξ H a o) b:=h.ext (Ext.new n)
theorem Fb.fz(K:Fb b H H')(hb:Bg H b):Fz H H':=λ a o e i=>K a o e λ z=>by
 subst z;cases hb with|mk l h n=>rw[h]at e;cases e;cases i
theorem Bg.ne(hb:Bg H b)(n:H a=none):a≠b:=λ z=>by subst z;cases hb with|mk l h _=>rw[n]at h;exact nN h
theorem Bg.jM(h:Bg H b)(n:a≠b):Bg (ξ H a o) b:=by
 cases h with|mk l h m=>exact⟨l,by rw[Γ (cP n)];exact h,m⟩
theorem Pb{l:List Value}(h:l.length<1000):l.length<2 ^ 20:=aZ h (hW rfl)
theorem He{l:List Value}(h:l.length<1000):l.length<2 ^ 60:=aZ h (hW rfl)
theorem mf(hn:0<n)(hb:Bg H b)(hk:1<=k)
  (hq:∀i H',Fb b H H'->Bg H' b->0<=i->i<n->Q (.int i 0) H'):μ g k (.ref 1500) [.ref b,.int n 0] H Q X:=by
 refine μ.en (fT 92 rfl) rfl hk λ c o _=>?_
 ktf_call"g"
 obtain⟨l,h,hl⟩:=id hb
 refine mm.tr (bH.κ h (He (by simpa[i5]using hl)) ?_)
 rcases aaI l with rfl |⟨l',x,rfl⟩
 ·ktf_call"g"
  exact hq _ _ Fb.refl hb (vu 0) hn
 ·rw[aaJ]at *
  have mY:l'.length<1000:=by simp at hl;exact jo (by assumption)
  have e:i5 (l'++[x])=i5 l'++[.int x 0]:=rQ
  rw[e]at h⊢
  refine mm.b (w:=true) (by cases i5 l' <;> rfl) ?_
  ktf_call"g"
  refine mm.lp h (Pb (by simpa[i5]using mY)) ?_
  ktf_call"g"
  refine mm.ob (Ω.F_ (Int.ne_of_gt hn) ?_)
  ktf_call"g"
  exact hq _ _ Fb.refl.me ⟨l',jq,mY⟩ (Int.fmod_nonneg_of_pos _ hn) (Int.fmod_lt_of_pos _ hn)
theorem vx(hb:Bg H b)(hk:6<=k)(hq:∀H' v e,Fb b H H'->Bg H' b->ER none H' v e->WE e->Q v H'):μ g k (.ref 1507) [.ref b] H Q X:=by
 refine μ.en (fT 93 rfl) rfl hk λ c o _=>?_
 ktf_call"g"
 ktf_call"T";intro bE a E ha
 have Pc:=hb.ext E
 ktf_call"g"
 refine mf (by decide) Pc (by ktf_call"k") λ i H' F vy h0 h7=>?_
 have mQ:=F _ _ ha λ z=>by subst z;cases Pc with|mk l h _=>rw[ha]at h;cases h
 have K:∀{ο},Ext H' ο->Fb b H ο/\Bg ο b:=λ e=>⟨λ a o z n=>e _ _ (F _ _ (E _ _ z) n),vy.ext e⟩
 have hi:i=0\/i=1\/i=2\/i=3\/i=4\/i=5\/i=6:=zU (p:=λ i=>i=0\/i=1\/i=2\/i=3\/i=4\/i=5\/i=6) 7 h0 h7 (by decide)
 have dA:∀{n},WE (.dA n 0)->3<=c.k->μ g c.k (.ref 49) [.int 8 0,.str n 0,.int 0 0] H' Q X:=λ w hk=>lC hk λ ο v x e n=>hq _ _ (.dA _ x) (K e).1 (K e).2 n w
 have num:∀{i},WE (.num i)->3<=c.k->μ g c.k (.ref 49) [.int 1 0,.int i 0,.int 0 0] H' Q X:=λ w hk=>lC hk λ ο v x e n=>hq _ _ (.num _) (K e).1 (K e).2 ⟨x,n⟩ w
 rcases hi with rfl |rfl |rfl |rfl |rfl |rfl |rfl
 all_goals (ktf_call"g";refine mm.tr (bH.str (by decide) ?_);ktf_call"g")
 ·exact dA (.inl rfl) (by ktf_call"k")
 ·refine mm.ob (Ω.F_ (by decide) ?_)
  ktf_call"g"
  exact num (.inr rfl) (by ktf_call"k")
 ·exact dA (.inr (.inr (.inl rfl))) (by ktf_call"k")
 ·exact dA (.inr (.inl rfl)) (by ktf_call"k")
 ·refine mm.ob (Ω.F_ (by decide) ?_)
  ktf_call"g"
  exact num (.inl rfl) (by ktf_call"k")
 ·exact dA (.inr (.inr (.inr rfl))) (by ktf_call"k")
 ·exact lC (by ktf_call"k") λ ο v x e n=>hq _ _ (.str ⟨⟨[97]⟩⟩) (K e).1 (K e).2 ⟨x,n⟩ rfl
def Tp(H:AH)(w:Addr)(L:List Str):Prop:=H w=some (.φ (L.map sv))/\L.length<50
theorem Tp.fz(F:Fz H H')(h:Tp H w L):Tp H' w L:=⟨F _ _ h.1 rfl,h.2⟩
theorem Pd{b w:Addr}{L:List Str}{kind:Int}{con:Str->St}(hc:(kind=53/\con=.brk)\/(kind=54/\con=.cnt))(hb:Bg H b)(hw:Tp H w L)(hk:7<=k)
  (hq:∀H' v s,Fb b H H'->Bg H' b->SR none H' 1 v s->((∃e,s=.ex e/\WE e)\/∃l∈L,s=con l)->Q v H'):μ g k (.ref 1519) [.ref b,.int kind 0,.ref w] H Q X:=by
 obtain⟨hw,hL⟩:=hw
 refine μ.en (fT 94 rfl) rfl hk λ c o _=>?_
 have Pe:(L.map sv).length<1000:=by rw[gJ];exact aZ (by assumption) (by decide)
 ktf_call"g"
 refine mm.tr (bH.φ hw (He Pe) ?_)
 cases L with
 |nil=>
  ktf_call"g"
  ktf_call"lt"
  refine vx hb (by ktf_call"k") λ H₁ v e F dh he hw=>?_
  ktf_call"g"
  ktf_call"T";intro ο a E _ ha
  ktf_call"g"
  exact i6 (by ktf_call"k") ha λ ω v' x E' n=>hq _ _ (.ex e) (Fb.om E' (Fb.om E F)) ((dh.ext E).ext E') ⟨x,v,n,(he.fz E.fz).fz E'.fz⟩ (.inl ⟨e,rfl,hw⟩)
 |cons l r=>
  ktf_call"g"
  refine μ.aaj hw (He Pe) ?_
  ktf_call"g"
  rw[gJ]
  refine mf (Int.natCast_pos.mpr (Nat.zero_lt_succ _)) hb (by ktf_call"k") λ i H₁ F dh h0 h1=>?_
  ktf_call"g"
  have hi:i.toNat<(l::r).length:=(Int.toNat_lt h0).mpr h1
  refine mm.sg (cq.φ ((F.fz hb) _ _ hw rfl) h0 (Int.lt_trans h1 (zW hL (by decide))) (v:=sv (l::r)[i.toNat]) (by rw[iB,lr hi];try rfl) ?_)
  ktf_call"g"
  refine lC (by ktf_call"k") λ ο v x E n=>hq _ _ (con (l::r)[i.toNat]) (Fb.om E F) (dh.ext E) ?_ (.inr ⟨_,List.getElem_mem _,rfl⟩)
  rcases hc with ⟨rfl,rfl⟩|⟨rfl,rfl⟩
  ·exact⟨x,n⟩
  ·exact⟨x,n⟩
def sy(g:Gv)(d:Nat):Prop:=∀{H:AH}{k:Nat}{Q:Value->AH->Prop}{X:Value->AH->Prop}{b w m:Addr}{L M:List Str},Bg H b->Tp H w L->Tp H m M->L.length+3*d<=40->M.length+3*d<=40->3*d+12<=k->
 (∀H' v s,Fb b H H'->Bg H' b->SR none H' (d+1) v s->WF (d+1) L M s->Q v H')->μ g k (.ref 1526) [.ref b,.int d 0,.ref w,.ref m] H Q X
def Bf(g:Gv)(d:Nat):Prop:=∀{H:AH}{k:Nat}{Q:Value->AH->Prop}{X:Value->AH->Prop}{b w m:Addr}{L M:List Str},Bg H b->Tp H w L->Tp H m M->L.length+3*d<=40->M.length+3*d<=40->3*d+13<=k->
 (∀H' v s,Fb b H H'->Bg H' b->BR none H' (SR none H' (d+1)) v s->WB (WF (d+1)) L M s->Q v H')->μ g k (.ref 1512) [.ref b,.int d 0,.ref w,.ref m] H Q X
theorem Pf{d:Nat}(B:Bf g d){b w m:Addr}{L M:List Str}(hb:Bg H b)(hw:Tp H w L)(hm:Tp H m M)(hL:L.length+3*d<=40)(hM:M.length+3*d<=40)(hk:3*d+14<=k)
  (hq:∀H' v s,Fb b H H'->Bg H' b->SR none H' (d+2) v s->WF (d+2) L M s->(∃b c f,s=.dQ b c f)->Q v H'):μ g k (.ref 1533) [.ref b,.int d 0,.ref w,.ref m] H Q X:=by
 refine μ.en (fT 96 rfl) rfl hk λ c o ek=>?_
 ktf_call"g"
 refine mf (by decide) hb (by ktf_call"k") λ i H₁ bN dh h0 h1=>?_
 ktf_call"g"
 ktf_call"lf"
 have oz:=bN.fz hb
 refine B dh (hw.fz oz) (hm.fz oz) hL hM (by ktf_call"k") λ ο bv bs dB gg mZ pq=>?_
 ktf_call"g"
 ktf_call"t";intro a ha;ktf_call"g"
 have dz:=gg.ne ha
 have mj:=dB.fz dh
 have sA:=bN.none (dB.none ha dz) dz
 have key:∀(ω:AH) (cv fv:Value) (cc:Option (Option Addr×List St)) (f:Option (List St)),3<=c.k->Fb b H ω->Bg ω b->ω a=some (.κ false [bv,cv,fv])->BR none ω (SR none ω (d+1)) bv bs->cQ (CR none ω (SR none ω (d+1))) cv cc->(∀y,cc=some y->WB (WF (d+1)) L M y.2)->
   cQ (BR none ω (SR none ω (d+1))) fv f->(∀y,f=some y->WB (WF (d+1)) L M y)->μ g c.k (.ref 56) [.int 57 0,.str ⟨⟨[]⟩⟩ 0,.ref a,.int 0 0] ω Q X:=by
  intro ω cv fv cc f hk4 K lD pv h1 h2 h3 h4 h5
  have Z:Fz ω (ξ ω a (.κ true [bv,cv,fv])):=Fz.set pv rfl
  refine μ.pre (Gh.fl (z:=true) pv) (i6 (by assumption) ah λ ar v x E n=>?_)
  have Z':=Z.trans E.fz
  have sC:Bg (ξ ω a (.κ true [bv,cv,fv])) b:=lD.jM dz
  refine hq _ _ (.dQ bs cc f) (Fb.om E (Fb.own sA K)) (sC.ext E) ⟨x,bv,cv,fv,n,h1.fz Z',h2.map λ _ _ z=>z.map (hV.fz Z') λ _ _ z=>z.fz Z',h4.map λ _ _ z=>z.fz Z'⟩ ⟨pq,h3,h5⟩ ⟨_,_,_,rfl⟩
 have hi:i=1\/(i=0\/i=2):=zU (p:=λ i=>i=1\/(i=0\/i=2)) 3 h0 h1 (by decide)
 rcases hi with rfl |hi
 ·ktf_call"g"
  refine B (gg.new ha) (((hw.fz oz).fz mj).fz (by ktf_call"f")) (((hm.fz oz).fz mj).fz (by ktf_call"f")) hL hM (by ktf_call"k") λ ω fv fs hY lD dU Hf=>?_
  ktf_call"g"
  have pv:ω a=some (.κ false [bv,.none,.none]):=by ktf_call"h"
  have sD:=hY.fz (gg.new ha)
  refine mm.si (dK.κ pv (by decide) (by decide) (by ktf_call"d") ?_)
  ktf_call"g"
  exact key _ .none fv none (some fs) (by exact aH (aT hk (aU ek.symm)) (by simp +arith only)) (Fb.own sA (by ktf_call"b")) (lD.jM dz) ah (mZ.fz (by ktf_call"f")) rfl (λ _ z=>nomatch z) (dU.fz (by ktf_call"f")) (λ _ z=>by cases z;exact Hf)
 ·have e1:(i != 1)= true:=by rcases hi with rfl |rfl <;> rfl
  ktf_call"g"
  refine mm.b e1 ?_
  ktf_call"g"
  refine mf (by decide) (gg.new ha) (by ktf_call"k") λ j ω hY lD h0 h1=>?_
  have pv:ω a=some (.κ false [bv,.none,.none]):=by ktf_call"h"
  ktf_call"g"
  refine mm.vt (st':=[]) (P:=λ n ω=>Fb b ο ω/\Bg ω b/\ω a=some (.κ false [bv,.none,.none])/\∃c1:Option Addr,cQ (λ n y=>NP none ω n y 8 (.str gf 0) []) n c1) (λ R hR=>?_) λ n ω zz=>kY zz λ hY lD pv zz=>Θ zz λ c1 jN=>?_
  ·by_cases hj:j<2
   ·refine mm.b (decide_eq_true hj) ?_
    ktf_call"g"
    refine lC (by ktf_call"k") λ ar v x E n=>?_
    ktf_call"g"
    exact hR _ _ ⟨by ktf_call"b",lD.ext E,E _ _ pv,some x,n⟩
   ·refine mm.b (decide_eq_false hj) ?_
    ktf_call"g"
    exact hR _ _ ⟨by ktf_call"b",lD,pv,none,rfl⟩
  ·have sD:=hY.fz gg
   ktf_call"g"
   ktf_call"lt"
   refine B lD (hw.fz (by ktf_call"f")) (hm.fz (by ktf_call"f")) hL hM (by ktf_call"k") λ ar cv cs cF sC hcr Pg=>?_
   have oA:=cF.fz lD
   ktf_call"g"
   ktf_call"t";intro q ft;ktf_call"g"
   ktf_call"g"
   have agr:ar a=some (.κ false [bv,.none,.none]):=by ktf_call"h"
   refine i6 (by ktf_call"k") ah λ aV wv x E nw=>?_
   ktf_call"g"
   have Bh:aV a=some (.κ false [bv,.none,.none]):=by ktf_call"h"
   have vz:Bg aV b:=(sC.new ft).ext E
   have Hg:=E.fz
   have hc:CR none aV (SR none aV (d+1)) wv (c1,cs):=⟨x,n,cv,nw,cQ.map (λ _ _ z=>z.fz (by ktf_call"f")) jN,hcr.fz (by ktf_call"f")⟩
   refine mm.si (dK.κ Bh (by decide) (by decide) (by ktf_call"d") ?_)
   have Hh:Bg (ξ aV a (.κ false [bv,wv,.none])) b:=vz.jM dz
   have Ph:Fb b H (ξ aV a (.κ false [bv,wv,.none])):=Fb.own sA (by ktf_call"b")
   have Hi:Fz aV (ξ aV a (.κ false [bv,wv,.none])):=Fz.set Bh rfl
   rcases hi with rfl |rfl
   ·ktf_call"g"
    have Y:=Ph.fz hb
    refine B Hh (hw.fz Y) (hm.fz Y) hL hM (by ktf_call"k") λ cU fv fs bT pw dU Hf=>?_
    have pz:=bT.fz Hh
    ktf_call"g"
    have aaK:cU a=some (.κ false [bv,wv,.none]):=by ktf_call"h"
    refine mm.si (dK.κ aaK (by decide) (by decide) (by ktf_call"d") ?_)
    ktf_call"g"
    exact key _ wv fv (some (c1,cs)) (some fs) (by exact aH (aT hk (aU ek.symm)) (by simp +arith only)) (Fb.own sA (by ktf_call"b")) (pw.jM dz) ah (mZ.fz (by ktf_call"f"))
     (CR.map (hV.fz (by ktf_call"f")) (λ _ _ z=>z.fz (by ktf_call"f")) hc) (λ _ z=>by cases z;exact Pg) (dU.fz (by ktf_call"f")) (λ _ z=>by cases z;exact Hf)
   ·ktf_call"g"
    exact key _ wv .none (some (c1,cs)) none (by exact aH (aT hk (aU ek.symm)) (by simp +arith only)) Ph Hh ah (mZ.fz (by ktf_call"f")) (CR.map (hV.fz (by ktf_call"f")) (λ _ _ z=>z.fz (by ktf_call"f")) hc) (λ _ z=>by cases z;exact Pg) rfl (λ _ z=>nomatch z)
end
section
variable {k:Nat}
theorem Pj{x:Str}:((x.length:Int) != 0)= (x.cps.toList != []):=by
 obtain⟨⟨l⟩⟩:=x
 cases l with
 |nil=>rfl
 |cons a r=>
  have h1:((Str.length ⟨⟨a::r⟩⟩:Int))≠0:=by
   show((⟨⟨a::r⟩⟩:Str).cps.size:Int)≠0
   simp;omega
  rfl
theorem Hj:x≠s_->(x.cps.toList != [])= true:=by
 obtain⟨⟨l⟩⟩:=x
 cases l with
 |nil=>intro h;exact absurd rfl h
 |cons a r=>intro _;rfl
abbrev yf(d:Nat)(bs:List St)(H:AH)(v:Value):Prop:=Bc none H (SR none H (d+1)) bs v
abbrev yg(d:Nat)(isOf:Bool)(n:Addr)(row:Row)(bs:List St)(H:AH)(v:Value):Prop:=ye none H (SR none H (d+1)) isOf n row bs v
theorem yf.fz(F:Fz H H'):yf d bs H v->yf d bs H' v
 |⟨x,bv,tv,t,h,h1,h2⟩=>⟨x,bv,tv,t,h.fz F,h1.fz F,h2.fz F⟩
theorem yg.fz(F:Fz H H'):yg d isOf n row bs H v->yg d isOf n row bs H' v
 |⟨x,hv,rv,bv,hx,dv,dx,nv,h,h1,h2,h3,h4,h5⟩=>⟨x,hv,rv,bv,hx,dv,dx,nv,h.fz F,h1.fz F,h2.fz F,h3.fz F,h4.map (hV.fz F),h5.fz F⟩
theorem aaL:L.map sv++(ext l []).map sv=(ext l L).map sv:=by
 unfold ext;simp
theorem Bi:(ext l L).length<=L.length+2:=by
 unfold ext;split <;> simp
theorem Pk{P:Nat->Prop}(h:∀m:Fin 10,P m)(k:d<=9):P d:=h ⟨d,Nat.lt_succ_of_le k⟩
theorem dl{d:Nat}(h:d<=9):(dy (toString (d:Int))).length=1:=Pk (P:=λ d=>(dy (toString (d:Int))).length=1) (by decide) h
theorem dok{d:Nat}(h:d<=9):bF (dy (toString (d:Int))):=l8.mpr (Pk (P:=λ d=>∀c∈(dy (toString (d:Int))).cps.toList,c<0x110000) (by decide) h)
theorem Pl{d:Nat}(h:d<=9)(c:Nat)(hc:c<128):bF ((⟨⟨[c]⟩⟩:Str)++dy (toString (d:Int))):=
 aaF (l8.mpr λ x hx=>by refine(List.mem_singleton.mp hx)▸?_;exact aZ hc (by decide)) (dok h)
theorem Pm{x y:Str}:(x++y).length=x.length+y.length:=by
 show(x.cps++y.cps).size=_
 exact Array.size_append▸rfl
theorem two{i:Int}(h0:0<=i)(h1:i<2):i=0\/i=1:=zU (p:=λ i=>i=0\/i=1) 2 h0 h1 (by decide)
theorem four{i:Int}(h0:0<=i)(h1:i<4):i=0\/i=1\/i=2\/i=3:=zU (p:=λ i=>i=0\/i=1\/i=2\/i=3) 4 h0 h1 (by decide)
structure Gb(H:AH)(b:Addr)(H':AH):Prop where
 fb:Fb b H H'
 bg:Bg H' b
theorem Gb.ext(x:Gb H b H')(E:Ext H' aD):Gb H b aD:=⟨Fb.om E x.fb,x.bg.ext E⟩
theorem Gb.on(x:Gb H b H')(F:Fb b H' aD)(k:Bg aD b):Gb H b aD:=⟨F.trans' x.fb,k⟩
theorem Pn{l:Str}{L:List Str}(h:L.length+3*(d+1)<=40):(L.map sv).length+((ext l []).map sv).length<=1000:=by
 rw[gJ,gJ];have:=Bi (l:=l) (L:=[]);simp at this;exact aH (aT h this) (by simp +arith only)
theorem Pp(h:L.length+3*(d+1)<=40)(k:H w=some (.φ (L.map sv++(ext l []).map sv))):Tp H w (ext l L):=by
 rw[aaL]at k;exact⟨k,by have:=Bi (l:=l) (L:=L);exact aH (aT h this) (by simp +arith only)⟩
theorem slt{l:Str}(h:l.length<100):(l.length:Int)<2 ^ 63:=zW h (by decide)
theorem aaM{d:Nat}(hd:d<=9)(B:Bf g d){b w m:Addr}{L M:List Str}(hp:pick=9\/pick=10)(hb:Bg H b)(hw:Tp H w L)(hm:Tp H m M)(hL:L.length+3*(d+1)<=40)(hM:M.length+3*(d+1)<=40)(hk:3*d+14<=k)
  (hq:∀H' v s,Fb b H H'->Bg H' b->SR none H' (d+2) v s->WF (d+2) L M s->Q v H'):μ g k (.ref 1540) [.ref b,.int d 0,.ref w,.ref m,.int pick 0] H Q X:=by
 refine μ.en (n:=3*d+13) (fT 97 rfl) rfl hk λ c o ek=>?_
 have iI:=o.le
 have k3:3<=c.k:=Ψ (eh 3 (3*d+10)) iI
 ktf_call"g"
 refine mf (by decide) hb (Ψ (by decide) k3) λ i H₁ bN dh h0 h1=>?_
 ktf_call"g"
 refine mm.vt (st':=[]) (P:=λ v H'=>H'=H₁/\∃l:Str,v=sv l/\l.length<100/\bF l) ?_ ?_
 ·intro R hR
  rcases two h0 h1 with rfl |rfl
  ·ktf_call"g"
   exact hR _ _ ⟨rfl,s_,rfl,by decide,sx⟩
  ·ktf_call"g"
   refine μ.AV (iC d) (by omega) ?_
   ktf_call"g"
   refine mm.ob (Ω.adds (by refine(dl hd)▸?_;decide) ?_)
   ktf_call"g"
   exact hR _ _ ⟨rfl,_,rfl,by refine Pm▸(dl hd)▸?_;decide,Pl hd 76 (by decide)⟩
 intro v H' aaN;obtain⟨e,l,e',hl,i7⟩:=aaN
 subst e e'
 clear h0 h1
 ktf_call"g"
 refine mf (by decide) dh (Ψ (by decide) k3) λ j ο dB gg h0 h4=>?_
 have mj:Gb H b ο:=⟨dB.trans' bN,gg⟩
 clear bN dh dB gg
 ktf_call"g"
 refine mm.tr (bH.str (slt hl) ?_)
 refine Pj▸?_
 ktf_call"g"
 refine mm.vt (st':=[]) (P:=λ v ω=>Ext ο ω/\∃t,v=.ref t/\ω t=some (.φ ((ext l []).map sv))) ?_ ?_
 ·intro R hR
  by_cases hs:l=s_
  ·subst hs
   ktf_call"g"
   ktf_call"T";intro ω a E ha;ktf_call"g"
   exact hR _ _ ⟨E,a,rfl,ha⟩
  ·refine mm.b (Hj hs) ?_
   ktf_call"g"
   ktf_call"T";intro ω a E ha;ktf_call"g"
   exact hR _ _ ⟨E,a,rfl,by unfold ext;refine(if_neg hs)▸?_;exact ha⟩
 intro v ω aaO;obtain⟨bx,t,e,ht⟩:=aaO
 subst e
 have sD:=mj.ext bx
 clear bx mj
 ktf_call"g"
 refine mm.ob (Ω.AM (hw.fz (sD.fb.fz hb)).1 ht (Pn hL) λ ar w' aJ vA=>?_)
 ktf_call"g"
 have oA:=sD.ext aJ
 refine mm.ob (Ω.AM (hm.fz (oA.fb.fz hb)).1 (aJ _ _ ht) (Pn hM) λ aV m' a9 m4=>?_)
 ktf_call"g"
 refine B (oA.ext a9).bg (Pp hL (a9 _ _ vA)) (Pp hM m4) (by have:=Bi (l:=l) (L:=L);exact aH (aT hL this) (by simp +arith only)) (by have:=Bi (l:=l) (L:=M);exact aH (aT hM this) (by simp +arith only)) iI λ cU bv bs bT pw mZ pq=>?_
 have pz:=(oA.ext a9).on bT pw
 clear sD oA aJ a9 ht vA m4 bT pw
 ktf_call"g"
 have fin:∀(ω:AH) (lv:Value) (P:AH->Value->Prop) (s:St),(∀H H' v,Fz H H'->P H v->P H' v)->(∀H v,LR none H l v (P H)->SR none H (d+2) v s)->WF (d+2) L M s->Gb H b ω->P ω lv->
   Mine.M g c (RK Q) (XK X) [.ss [.ret (.bG (.θ 277) (.call 10 [.ς 202,.θ 277,.κ [.θ 281],.int 0]) (.θ 281))]] [] [(277,sv l),(281,lv)] ω:=λ ω lv P s mono hs hZ K hP=>by
  ktf_call"g"
  refine mm.tr (bH.str (slt hl) ?_)
  rw[Pj]
  by_cases hl:l=s_
  ·subst hl
   ktf_call"g"
   exact hq _ _ s K.fb K.bg (hs _ _ (by unfold LR;rw[if_pos rfl];exact hP)) hZ
  ·refine mm.b (Hj hl) ?_
   ktf_call"g"
   ktf_call"lt"
   ktf_call"T";intro aV a E _ ha;ktf_call"g"
   refine i6 k3 ha λ ar v x E' n=>hq _ _ s ((K.ext E).ext E').fb ((K.ext E).ext E').bg (hs _ _ ?_) hZ
   unfold LR
   rw[if_neg hl]
   exact⟨x,lv,n,mono _ _ _ (Ext.trans' E' E).fz hP⟩
 refine mm.aaC (st':=[]) (P:=λ m' ω=>∃lv,sub [(277,sv l),(281,lv)] m'/\∃(P:AH->Value->Prop) (s:St),(∀H H' v,Fz H H'->P H v->P H' v)/\(∀H v,LR none H l v (P H)->SR none H (d+2) v s)/\WF (d+2) L M s/\Gb H b ω/\P ω lv) (λ R hR=>?_)
  λ m' ω zz=>ψ zz λ lv s0 zz=>xg zz λ P s h1 h2 h3 h4 h5=>mm.fr s0 (fin ω lv P s h1 h2 h3 h4 h5)
 clear fin hq
 have other:∀(isOf:Bool),pick=(if isOf=true then 9 else 10)->Mine.M g c (RK Q) (XK X) (.ss [.Φ 220 (.call 10 [.ς 217,.str ⟨⟨[99,111,110,115,116]⟩⟩,.κ [.call 10 [.ς 282,.str ⟨⟨[]⟩⟩,.κ [.call 9 [.ς 26,.str ⟨⟨[120]⟩⟩,.int 0],.az,.az],.int 0]],.int 0]),.Φ 283 (.bG (.υ (.θ 278) .Eq (.int 3)) (.call 9 [.ς 26,.str ⟨⟨[120]⟩⟩,.int 0]) (.call 9 [.ς 157,.sub (.φ [.str ⟨⟨[97,98]⟩⟩,.str ⟨⟨[97]⟩⟩,.str ⟨⟨[98,97,98]⟩⟩]) (.θ 278),.int 0])),
   .Φ 281 (.call 10 [.bG (.υ (.θ 264) .Eq (.int 9)) (.ς 240) (.ς 241),.str ⟨⟨[]⟩⟩,.κ [.θ 220,.θ 283,.θ 280],.int 0])]::[.kk R]) [] [(277,sv l),(278,.int j 0),(280,bv),(264,.int pick 0)] cU:=λ isOf ep=>by
  refine mm.yb (P:=λ hv gM=>Gb H b gM/\Fz cU gM/\∃hx dv dx nv n,NP none gM hv hx 41 (.str r_ 0) [dv]/\NP none gM dv dx 42 (.str s_ 0) [nv,.none,.none]/\NP none gM nv n 8 (.str bC 0) []) rfl ?_ ?_
  ·intro R hR
   ktf_call"g"
   ktf_call"lt"
   ktf_call"lt"
   refine lC k3 λ gM nv n i8 Hk=>?_
   ktf_call"g"
   ktf_call"T";intro h_ a ia _ ha;ktf_call"g"
   refine i6 k3 ha λ mn dv dx jO yh=>?_
   ktf_call"g"
   ktf_call"T";intro fG a' iJ _ mQ;ktf_call"g"
   refine i6 k3 mQ λ jP hv hx jQ n11=>?_
   ktf_call"g"
   have E:=(jQ.trans' iJ)
   have E':=E.trans' (jO.trans' ia)
   exact hR _ _ ⟨pz.ext (E'.trans' i8),(E'.trans' i8).fz,hx,dv,dx,nv,n,n11,yh.fz E.fz,Hk.fz E'.fz⟩
  intro hv gM aaP;obtain⟨Hl,aaQ,hx,dv,dx,nv,n,hh,pA,hnv⟩:=aaP
  refine mm.yb (P:=λ rv h_=>Ext gM h_/\∃row,RR none h_ rv row/\ou row) rfl ?_ ?_
  ·intro R hR
   have txt:∀{h_:AH}{t:Str},Ext gM h_->ou (.txt t)->μ g c.k (.ref 49) [.int 2 0,.str t 0,.int 0 0] h_ (λ v H'=>Mine.M g c (RK Q) (XK X) [.kk R] [v] (put 220 hv [(277,sv l),(278,.int j 0),(280,bv),(264,.int pick 0)]) H') (XK X · [] ·):=λ E w=>lC k3 λ mn rv rx jO yh=>by
    ktf_call"g"
    exact hR _ _ ⟨jO.trans' E,.txt _,⟨rx,yh⟩,w⟩
   rcases four h0 h4 with rfl |rfl |rfl |rfl
   ·ktf_call"g"
    ktf_call"T";intro h_ a E ha;ktf_call"g"
    exact txt E (.inl rfl)
   ·ktf_call"g"
    ktf_call"T";intro h_ a E ha;ktf_call"g"
    exact txt E (.inr (.inl rfl))
   ·ktf_call"g"
    ktf_call"T";intro h_ a E ha;ktf_call"g"
    exact txt E (.inr (.inr rfl))
   ·ktf_call"g"
    refine lC k3 λ h_ rv rx ia aaR=>?_
    ktf_call"g"
    exact hR _ _ ⟨ia,.bad rx,aaR,trivial⟩
  intro rv h_ aaS;obtain⟨ia,row,hr,yi⟩:=aaS
  have Pq:∀{mn fG:AH}{lv:Value}{x:Addr},Ext h_ mn->Ext mn fG->NP none fG lv x (if isOf=true then 48 else 49) (.str s_ 0) [hv,rv,bv]->∀m',sub [(277,sv l),(281,lv)] m'->R [] m' fG:=fun{mn fG lv x} E E' n' m' s=>by
   have Y:=(E'.trans' E).fz
   have Y':=ia.fz.trans Y
   exact hR _ _ ⟨lv,s,yg d isOf n row bs,.gq l isOf n row bs,λ _ _ _=>yg.fz,λ _ _ z=>z,⟨i7,yi,pq⟩,((Hl.ext ia).ext E).ext E',⟨x,hv,rv,bv,hx,dv,dx,nv,n',hh.fz Y',pA.fz Y',hnv.fz Y',hr.map (hV.fz Y),mZ.fz ((aaQ.trans ia.fz).trans Y)⟩⟩
  cases isOf with
  |true=>
   subst ep
   ktf_call"g"
   ktf_call"lt"
   ktf_call"T";intro mn a E _ ha;ktf_call"g"
   refine i6 k3 ha λ fG lv x E' n=>?_
   ktf_call"g"
   exact Pq E E' n _ ⟨rfl,rfl,trivial⟩
  |false=>
   subst ep
   ktf_call"g"
   ktf_call"lt"
   ktf_call"T";intro mn a E _ ha;ktf_call"g"
   refine i6 k3 ha λ fG lv x E' n=>?_
   ktf_call"g"
   exact Pq E E' n _ ⟨rfl,rfl,trivial⟩
 rcases hp with rfl |rfl
 ·refine mm.aP o 2 rfl ?_
  exact mm.fr (by exact⟨rfl,rfl,rfl,rfl,trivial⟩) (other true rfl)
 ·by_cases hj:j<2
  ·ktf_call"g"
   refine mm.b (decide_eq_true hj) ?_
   ktf_call"g"
   ktf_call"lt"
   refine lC k3 λ gM tv x i8 Hk=>?_
   ktf_call"g"
   ktf_call"T";intro h_ a ia _ ha;ktf_call"g"
   refine i6 k3 ha λ mn lv y jO yh=>?_
   ktf_call"g"
   have E:=jO.trans' ia
   exact hR _ _ ⟨lv,⟨rfl,rfl,trivial⟩,yf d bs,.hU l bs,λ _ _ _=>yf.fz,λ _ _ z=>z,⟨i7,pq⟩,pz.ext (E.trans' i8),⟨y,bv,tv,x,yh,mZ.fz (E.trans' i8).fz,Hk.fz E.fz⟩⟩
  ·ktf_call"g"
   refine mm.b (decide_eq_false hj) ?_
   refine mm.aP o 1 rfl ?_
   exact mm.fr (by exact⟨rfl,rfl,rfl,rfl,trivial⟩) (other false rfl)
end
section
variable {k:Nat}
inductive yj(d:Nat)(L M:List Str)(H:AH)(v:Value)(c:Option Ex×St):Prop
 |mk (x:Addr) (t w:Value) (h:NP none H v x 51 (.str s_ 0) [t,w]) (h1:cQ (ER none H) t c.1) (h2:SR none H (d+1) w c.2) (h3:eC c.1) (h4:WF (d+1) L M c.2):yj d L M H v c
theorem yj.fz{d:Nat}{L M:List Str}{H':AH}(F:Fz H H'){v:Value}{c:Option Ex×St}(h:yj d L M H v c):yj d L M H' v c:=by
 cases h with|mk x t w h h1 h2 h3 h4=>exact⟨x,t,w,h.fz F,h1.map λ _ _ z=>z.fz F,h2.fz F,h3,h4⟩
theorem ak.app{α β:Type}{R:α->β->Prop}{l:List α}{m:List β}{a:α}{b:β}(h:ak R l m)(k:R a b):ak R (l++[a]) (m++[b]):=ak.ind (R:=R) (P:=λ l m=>ak R (l++[a]) (m++[b])) (And.intro k trivial) (λ _ _ _ _ h _ t=>And.intro h t) h
theorem ak.len{α β:Type}{R:α->β->Prop}{l:List α}{m:List β}(h:ak R l m):l.length=m.length:=ak.ind (R:=R) (P:=λ l m=>l.length=m.length) rfl (λ _ _ _ _ _ _ t=>congrArg (·+1) t) h
structure SwI(d:Nat)(L M:List Str)(b a:Addr)(ev:Value)(xs:List Value)(H aV:AH)(j:Nat)(H':AH)(vs:List Value)(cs:List (Option Ex×St)):Prop where
 gb:Gb H b H'
 fz:Fz aV H'
 la:H' a=some (.κ false (ev::vs))
 all:ak (yj d L M H') vs cs
 len:cs.length=j
 no:∀(i:Nat) (c:Option Ex×St),cs[i]?=some c->c.1=Option.none->xs[i]?=some Value.none
theorem aaT{cs:List (Option Ex×St)}{xs:List Value}{p:Option Ex}{s:St}{x:Value}(x8:∀(i:Nat) (c:Option Ex×St),cs[i]?=some c->c.1=Option.none->xs[i]?=some Value.none)(hx:xs[cs.length]?=some x)(hp:p=Option.none->x=Value.none):
  ∀(i:Nat) (c:Option Ex×St),(cs++[(p,s)])[i]?=some c->c.1=Option.none->xs[i]?=some Value.none:=λ i c h hc=>by
 rcases Nat.lt_trichotomy i cs.length with hi |rfl |hi
 ·exact x8 i c (by rw[Pt hi]at h;exact h) hc
 ·rw[List.getElem?_concat_length]at h;obtain rfl:=bY h;exact hx▸(hp hc)▸rfl
 ·rw[aaU (by refine iK▸?_;exact hi)]at h;exact nN h
theorem Pu{α:Type}{l:List α}(h:l.length=2):∃a b,l=[a,b]:=by
 cases l with
 |nil=>cases h
 |cons a l=>
  cases l with
  |nil=>cases h
  |cons b l=>
   cases l with
   |nil=>exact⟨a,b,rfl⟩
   |cons c l=>exact absurd h (by simp)
theorem aaV{n:Nat}{p:Nat->Prop}(h:n<3)(h0:p 0)(h1:p 1)(h2:p 2):p n:=by
 cases n with
 |zero=>exact h0
 |succ n=>cases n with
  |zero=>exact h1
  |succ n=>cases n with
   |zero=>exact h2
   |succ n=>exact absurd h (Nat.not_lt.mpr (eh 3 n))
theorem aaW{d:Nat}(B:sy g d){b w m:Addr}{L M:List Str}(hb:Bg H b)(hw:Tp H w L)(hm:Tp H m (M++[s_]))(hL:L.length+3*d<=40)(hM:(M++[s_]).length+3*d<=40)(hk:3*d+13<=k)
  (hq:∀H' v s,Fb b H H'->Bg H' b->SR none H' (d+2) v s->WF (d+2) L M s->Q v H'):μ g k (.ref 1547) [.ref b,.int d 0,.ref w,.ref m] H Q X:=by
 refine μ.en (n:=3*d+12) (fT 98 rfl) rfl hk λ c o ek=>?_
 have iI:=o.le
 have k6:6<=c.k:=Ψ (eh 6 (3*d+6)) iI
 have k3:3<=c.k:=Ψ (by decide) k6
 ktf_call"g"
 ktf_call"lf"
 refine vx hb k6 λ H₁ ev e bN dh i9 mq=>?_
 ktf_call"g"
 ktf_call"T";intro ο a aJ na ha;ktf_call"g"
 have mj:Gb H b ο:=Gb.ext ⟨bN,dh⟩ aJ
 have dz:=dh.ne na
 have sA:=bN.none na dz
 have i9:=i9.fz aJ.fz
 clear bN dh aJ na
 refine lC k3 λ ω v1 x1 bx n1=>?_
 ktf_call"g"
 refine lC k3 λ ar v2 x2 i_ n2=>?_
 ktf_call"g"
 refine lC k3 λ aV v3 x3 iL n3=>?_
 ktf_call"g"
 ktf_call"T";intro cU t vB ht;ktf_call"g"
 have Hm:=vB.trans' iL
 have yk:=Hm.trans' i_
 have pz:=mj.ext (yk.trans' bx)
 refine mf (by decide) pz.bg (Ψ (by decide) k3) λ i gM Bj Pw h0 h3=>?_
 obtain⟨n,rfl⟩:=xc h0
 have Z:=Bj.fz pz.bg
 have Hl:=pz.on Bj Pw
 have aaX:=Bj _ _ (yk _ _ (bx _ _ ha)) dz
 have hev:=i9.fz ((yk.trans' bx).fz.trans Z)
 have aaY:=Z _ _ ht rfl
 have key:∀x∈[v1,.none,v2,v3],∃p,cQ (ER none gM) x p/\eC p:=by
  have z1:=n1.fz (yk.fz.trans Z)
  have z2:=n2.fz (Hm.fz.trans Z)
  intro x hx
  rcases List.mem_cons.mp hx with rfl |hx
  ·exact⟨some (.str ⟨⟨[97]⟩⟩),⟨x1,z1⟩,rfl⟩
  rcases List.mem_cons.mp hx with rfl |hx
  ·exact⟨none,rfl,trivial⟩
  rcases List.mem_cons.mp hx with rfl |hx
  ·exact⟨some (.num 1),⟨x2,z2⟩,rfl⟩
  ·rw[List.mem_singleton.mp hx];exact⟨some .cM,⟨x3,(n3.fz (vB.fz.trans Z))⟩,trivial⟩
 have w1:=n1.ne
 have w2:=n2.ne
 clear n1 n2 n3 ht ha i9 Bj Pw Hm yk bx i_ iL vB mj pz Z
 have hn:n<3:=by exact Int.ofNat_lt.mp (by assumption)
 ktf_call"g"
 refine mm.sct ?_
 ktf_call"g"
 refine mm.slt (q:=n+2) aaY (cK n 2) (by show n+2<=4;exact Nat.lt_succ_of_le (by assumption)) (by show n+2-n≠4;rw[aaZ];decide) (by show 4<=1000;decide) λ y hy=>?_
 rw[aaZ]
 have sE:((vC n [v1,Value.none,v2,v3]).take 2).length=2:=by rw[OL,x7];exact Nat.min_eq_left (aaB (eP (Px hn) 2))
 have Py:∀{i:Nat}{x:Value},((vC n [v1,Value.none,v2,v3]).take 2)[i]?=some x->x∈[v1,.none,v2,v3]:=λ h=>Pz (List.mem_of_mem_take (yl h))
 have PA:((vC n [v1,Value.none,v2,v3]).take 2)[0]?=some .none->((vC n [v1,Value.none,v2,v3]).take 2)[1]?=some .none->False:=λ y1 y2=>by
  have e1:v1≠.none:=λ z=>by rw[z]at w1;cases w1
  have e2:v2≠.none:=λ z=>by rw[z]at w2;cases w2
  exact aaV (p:=λ n=>((vC n [v1,Value.none,v2,v3]).take 2)[0]?=some .none->((vC n [v1,Value.none,v2,v3]).take 2)[1]?=some .none->False) hn (λ y _=>e1 (bY y)) (λ _ y=>e2 (bY y)) (λ y _=>e2 (bY y)) y1 y2
 generalize (vC n [v1,Value.none,v2,v3]).take 2=xs at sE Py PA⊢
 refine mm.fo (Goes.tuple ah) (I:=λ j m' H'=>m'=[(261,.ref b),(101,.int d 0),(266,.ref w),(267,.ref m),(3,.ref a)]/\∃vs cs,SwI d L (M++[s_]) b a ev xs H (ξ gM y (.φ xs)) j H' vs cs) (by exact⟨rfl,rfl,rfl,rfl,rfl,trivial⟩)
  ⟨rfl,[],[],Hl.ext (Ext.new hy),Fz.refl,cu aaX hy,trivial,rfl,λ i c h=>nomatch h⟩ ?_ ?_
 ·intro j x _ H' aa0 hx;obtain⟨rfl,vs,cs,I⟩:=aa0
  refine⟨I.fz _ _ ah rfl,?_⟩
  refine ψ (key x (Py hx)) λ p fY b_=>?_
  have hj2:=(List.getElem?_eq_some_iff.mp hx).1
  have FH:=(I.gb.fb.fz hb)
  have F7:Fz gM H':=(Ext.new hy).fz.trans I.fz
  ktf_call"g"
  have ym:=I.la
  refine mm.la ym ?_
  ktf_call"g"
  ktf_call"lt"
  refine B I.gb.bg (hw.fz FH) (hm.fz FH) hL hM iI λ h_ sv' s pB aa1 vD hsw=>?_
  ktf_call"g"
  ktf_call"T";intro mn q jO _ ft;ktf_call"g"
  refine i6 k3 ft λ fG cv cx iJ nc=>?_
  ktf_call"g"
  have E:=iJ.trans' jO
  have PB:=(I.gb.on pB aa1).ext E
  have PC:=E _ _ (pB _ _ ym dz)
  have Y:Fz fG (ξ fG a (.κ false (ev::vs++[cv]))):=Fz.set PC rfl
  have Z:Fz H' (ξ fG a (.κ false (ev::vs++[cv]))):=((pB.fz I.gb.bg).trans E.fz).trans Y
  refine μ.append PC (Pb (by have:=I.all.len;have:=I.len;simp;omega)) ?_
  ktf_call"g"
  exact⟨_,by exact⟨rfl,rfl,rfl,rfl,rfl,trivial⟩,rfl,vs++[cv],cs++[(p,s)],⟨Fb.own sA PB.fb,PB.bg.jM dz⟩,I.fz.trans Z,ah,(I.all.map λ _ _ z=>z.fz Z).app ⟨cx,x,sv',nc.fz Y,fY.map λ _ _ z=>z.fz (F7.trans Z),vD.fz (E.fz.trans Y),b_,hsw⟩,
   by rw[iK,I.len];rfl,aaT I.no (by rw[I.len];exact hx) λ z=>by subst z;exact fY⟩
 ·intro _ H' aa2;obtain⟨rfl,vs,cs,I⟩:=aa2
  refine⟨I.fz _ _ ah rfl,?_⟩
  refine km (Pu (I.len.trans sE)) λ c1 c2 EC=>?_;subst EC
  refine km (Pu (I.all.len.trans (I.len.trans sE))) λ u1 u2 EE=>?_;subst EE
  have ym:=I.la
  have Z:Fz H' (ξ H' a (.κ true [ev,u1,u2])):=Fz.set ym rfl
  ktf_call"g"
  refine μ.pre (Gh.fl (z:=true) ym) (i6 k3 ah λ h_ v x ia nn=>?_)
  have Z':=Z.trans ia.fz
  obtain⟨y1,t1,q1,a1,a2,a3,a4,a5⟩:=I.all.1.fz Z'
  obtain⟨y2,t2,q2,b1,b2,b3,b4,b5⟩:=I.all.2.1.fz Z'
  ktf_call"g"
  exact hq _ _ (.sw e c1.1 c1.2 c2.1 c2.2) (Fb.om ia (Fb.own sA I.gb.fb)) ((I.gb.bg.jM dz).ext ia) ⟨x,ev,u1,u2,y1,t1,q1,y2,t2,q2,nn,hev.fz (((Ext.new hy).fz.trans I.fz).trans Z'),a1,a2,a3,b1,b2,b3⟩ ⟨mq,a4,a5,b4,b5,λ z1 z2=>PA (I.no 0 c1 rfl z1) (I.no 1 c2 rfl z2)⟩
end
section
variable {k:Nat}
theorem str0(h:x.length=1):(⟨⟨66::l⟩⟩:Str)++x≠s_:=λ e=>by
 have:=congrArg Str.length e
 rw[Pm,h]at this
 exact Nat.noConfusion this
theorem aa3{P:Int->Prop}(h:∀m:Fin 15,P (m.val:Int))(h0:0<=i)(h1:i<15):P i:=by
 refine Θ (xc h0) λ n aa4=>?_;subst aa4
 exact h ⟨n,Int.ofNat_lt.mp h1⟩
theorem aa5{i:Int}(h0:0<=i)(h1:i<15)(h2:d=0->i<8):(i=0\/i=1\/i=2)\/i=3\/i=4\/i=5\/i=6\/i=7\/(d≠0/\((i=8\/i=14)\/(i=9\/i=10)\/i=11\/i=12\/i=13)):=by
 have key:i<8\/d≠0:=by
  by_cases e:d=0
  ·exact .inl (h2 e)
  ·exact .inr e
 revert key
 exact aa3 (P:=λ i=>i<8\/d≠0->(i=0\/i=1\/i=2)\/i=3\/i=4\/i=5\/i=6\/i=7\/(d≠0/\((i=8\/i=14)\/(i=9\/i=10)\/i=11\/i=12\/i=13))) (by
  by_cases e:d=0
  ·simp only[e,ne_eq,not_true,or_false,false_and];decide
  ·simp only[e,ne_eq,not_false_eq_true,or_true,true_and];decide) h0 h1
theorem up1(h:SR none H 1 v s):SR none H (n+1) v s:=mX.map (λ z=>z) (λ _ _ z=>z.elim) h
theorem Ho{d:Nat}(hd:d<=9)(B:∀d',d=d'+1->sy g d'/\Bf g d')(B0:d≠0->sy g 0){b w m:Addr}{L M:List Str}(hb:Bg H b)(hw:Tp H w L)(hm:Tp H m M)(hL:L.length+3*d<=40)(hM:M.length+3*d<=40)(hk:3*d+12<=k)
  (hq:∀H' v s,Fb b H H'->Bg H' b->SR none H' (d+1) v s->WF (d+1) L M s->Q v H'):μ g k (.ref 1526) [.ref b,.int d 0,.ref w,.ref m] H Q X:=by
 refine μ.en (n:=3*d+11) (fT 95 rfl) rfl hk λ c o ek=>?_
 have iI:=o.le
 have k7:7<=c.k:=Ψ (eh 7 (3*d+4)) iI
 have k3:3<=c.k:=Ψ (by decide) k7
 have k6:6<=c.k:=Ψ (by decide) k7
 refine mm.yb (P:=λ v H₁=>∃i:Int,Gb H b H₁/\v=.int i 0/\0<=i/\i<15/\(d=0->i<8)) rfl (λ R hR=>?_) ?_
 ·by_cases mU:d=0
  ·subst mU
   ktf_call"g"
   refine mf (by decide) hb (Ψ (by decide) k3) λ i H₁ bN dh h0 h1=>?_
   ktf_call"g"
   exact hR _ _ ⟨i,⟨bN,dh⟩,rfl,h0,Int.lt_trans h1 (by decide),λ _=>h1⟩
  ·ktf_call"g"
   refine mm.b (w:=true) (by simpa using mU) ?_
   ktf_call"g"
   refine mf (by decide) hb (Ψ (by decide) k3) λ i H₁ bN dh h0 h1=>?_
   ktf_call"g"
   exact hR _ _ ⟨i,⟨bN,dh⟩,rfl,h0,h1,λ z=>absurd z mU⟩
 intro _ H₁ PD;refine Mo PD λ i oz FJ h0 h15 h8=>?_;clear PD;refine FJ.symm▸?_
 have sF:=hw.fz (oz.fb.fz hb)
 have sG:=hm.fz (oz.fb.fz hb)
 have dh:=oz.bg
 have ft:∀{H':AH}{v:Value}{s:St},Gb H₁ b H'->SR none H' (d+1) v s->WF (d+1) L M s->Q v H':=λ G a b=>hq _ _ _ (G.fb.trans' oz.fb) G.bg a b
 clear hq hb hw hm
 have one:∀{kind:Int}{con:Ex->St}{Q':Value->AH->Prop}{X':Value->AH->Prop},(∀v H',Q v H'->Q' v H')->(∀{H v x ev e},NP none H v x kind (.str s_ 0) [ev]->ER none H ev e->SR none H (d+1) v (con e))->(∀e,WE e->WF (d+1) L M (con e))->
   ∀{ο ω:AH}{ev:Value}{e:Ex}{a:Addr},Gb H₁ b ο->ER none ο ev e->WE e->Ext ο ω->ω a=some (.κ true [ev])->μ g c.k (.ref 56) [.int kind 0,.str ⟨⟨[]⟩⟩ 0,.ref a,.int 0 0] ω Q' X':=
  by
  intro kind con Q' X' hQ h1 h2 ο ω ev e a G i9 mq E ha
  exact i6 k3 ha λ ar v x E' n=>hQ _ _ (ft ((G.ext E).ext E') (h1 n ((i9.fz E.fz).fz E'.fz)) (h2 e mq))
 have jmp:∀{con:Str->St}{l:List Str}{Q':Value->AH->Prop},(∀v H',Q v H'->Q' v H')->(∀x∈l,WF (d+1) L M (con x))->∀H' v s,Fb b H₁ H'->Bg H' b->SR none H' 1 v s->((∃e,s=.ex e/\WE e)\/∃x∈l,s=con x)->Q' v H':=λ hQ h H' v s F hb hs hc=>
  hQ _ _ (ft ⟨F,hb⟩ (up1 hs) (by
   rcases hc with ⟨e,rfl,he⟩|⟨x,hx,rfl⟩
   ·exact he
   ·exact h x hx))
 have frm:∀j:Int,i=j->put 264 (.int i 0) ([261,101,266,267].zip [.ref b,.int d 0,.ref w,.ref m])=put 264 (.int j 0) ([261,101,266,267].zip [.ref b,.int d 0,.ref w,.ref m]):=λ j e=>by exact e▸rfl
 rcases aa5 h0 h15 h8 with h |h |h |h |h |h |⟨mU,h⟩
 ·have:Mine.M g c (RK Q) (XK X) [.iff [.ret (.call 10 [.ς 175,.str ⟨⟨[]⟩⟩,.κ [.call 265 [.θ 261]],.int 0])] [],.ss (Ob.drop 2)] [.bool true] (put 264 (.int i 0) ([261,101,266,267].zip [.ref b,.int d 0,.ref w,.ref m])) H₁:=by
   ktf_call"g"
   ktf_call"lt"
   refine vx dh k6 λ ο ev e dB gg i9 mq=>?_
   ktf_call"g"
   ktf_call"T";intro ω a E _ ha;ktf_call"g"
   exact one (con:=.ex) (λ _ _ h=>h) (λ n r=>⟨_,_,n,r⟩) (λ _ h=>h) ⟨dB,gg⟩ i9 mq E ha
  rcases h with rfl |rfl |rfl
  ·exact mm.aP o 7 rfl this
  ·exact mm.aP o 7 rfl this
  ·exact mm.aP o 7 rfl this
 ·refine h.symm▸?_
  ktf_call"g"
  ktf_call"lt"
  refine vx dh k6 λ ο ev e dB gg i9 mq=>?_
  ktf_call"g"
  ktf_call"T";intro ω a E _ ha;ktf_call"g"
  exact one (con:=.ret) (λ _ _ h=>h) (λ n r=>⟨_,_,n,r⟩) (λ _ h=>h) ⟨dB,gg⟩ i9 mq E ha
 ·refine h.symm▸?_
  ktf_call"g"
  ktf_call"lt"
  refine vx dh k6 λ ο ev e dB gg i9 mq=>?_
  ktf_call"g"
  ktf_call"T";intro ω a E _ ha;ktf_call"g"
  exact one (con:=.aw) (λ _ _ h=>h) (λ n r=>⟨_,_,n,r⟩) (λ _ h=>h) ⟨dB,gg⟩ i9 mq E ha
 ·refine h.symm▸?_
  ktf_call"g"
  exact Pd (.inl ⟨rfl,rfl⟩) dh sG k7 (jmp (λ _ _ h=>h) λ _ h=>h)
 ·refine h.symm▸?_
  ktf_call"g"
  exact Pd (.inr ⟨rfl,rfl⟩) dh sF k7 (jmp (λ _ _ h=>h) λ _ h=>h)
 ·refine h.symm▸?_
  ktf_call"g"
  ktf_call"lt"
  ktf_call"T";intro ω a E _ ha;ktf_call"g"
  exact i6 k3 ha λ ar v x E' n=>ft (s:=.dN) ⟨Fb.om (E'.trans' E) Fb.refl,dh.ext (E'.trans' E)⟩ ⟨x,n⟩ trivial
 refine Θ (Nat.exists_eq_succ_of_ne_zero mU) λ d' aa6=>?_;subst aa6
 refine ag (B d' rfl) λ Bs Bb=>?_
 have ed:(((d'+1:Nat):Int)-1)=(d':Int):=xf
 have Gr:Gb H₁ b H₁:=⟨Fb.refl,dh⟩
 have mr:L.length+3*d'<=40:=by exact aH hL (by simp +arith only)
 have PF:M.length+3*d'<=40:=by exact aH hM (by simp +arith only)
 have PG:∀x:Str,(M++[x]).length+3*d'<=40:=λ x=>by refine iK▸?_;show M.length+1+_<=40;exact aH hM (by simp +arith only)
 have PH:(M.map sv).length+1<=1000:=by rw[gJ];exact aH hM (by simp +arith only)
 have PI:∀{ο:AH}{m':Addr}{x:Str},ο m'=some (.φ (M.map sv++[sv x]))->Tp ο m' (M++[x]):=fun{ο m' x} h=>⟨by exact h▸rQ▸rfl,by refine iK▸?_;show M.length+1<50;exact aH hM (by simp +arith only)⟩
 have ok:∀ο v s,Fb b H₁ ο->Bg ο b->SR none ο (d'+2) v s->WF (d'+2) L M s->Q v ο:=λ _ _ _ F hb a b=>ft ⟨F,hb⟩ a b
 rcases h with h |h |rfl |rfl |rfl
 ·have:μ g c.k (.ref 1533) [.ref b,.int d' 0,.ref w,.ref m] H₁ Q (XK X · (put 264 (.int i 0) ([261,101,266,267].zip [.ref b,.int ((d'+1:Nat):Int) 0,.ref w,.ref m])) ·):=Pf Bb dh sF sG mr PF iI λ ο v s dB gg hs hZ _=>ok _ _ _ dB gg hs hZ
  rw[<- ed]at this
  rcases h with rfl |rfl
  ·ktf_call"g";exact this
  ·ktf_call"g";exact this
 ·have:μ g c.k (.ref 1540) [.ref b,.int d' 0,.ref w,.ref m,.int i 0] H₁ Q (XK X · (put 264 (.int i 0) ([261,101,266,267].zip [.ref b,.int ((d'+1:Nat):Int) 0,.ref w,.ref m])) ·):=aaM (Nat.le_of_succ_le hd) Bb h dh sF sG hL hM iI ok
  rw[<- ed]at this
  rcases h with rfl |rfl
  ·ktf_call"g";exact this
  ·ktf_call"g";exact this
 ·ktf_call"g"
  refine μ.AV (iC _) (by omega) ?_
  ktf_call"g"
  have e1:=dl hd
  refine mm.ob (Ω.adds (by refine e1▸?_;decide) ?_)
  ktf_call"g"
  ktf_call"lt"
  refine ed▸?_
  ktf_call"T";intro ο a a9 ha;ktf_call"g"
  refine mm.ob (Ω.AM (a9 _ _ sG.1) ha PH λ ω m' bx m4=>?_)
  ktf_call"g"
  have E:=bx.trans' a9
  refine Bb (dh.ext E) (sF.fz E.fz) (PI m4) mr (PG _) (Ψ (cK _ 1) iI) λ ar bv bs cF sC mZ pq=>?_
  ktf_call"g"
  ktf_call"T";intro aV q iL _ Hp;ktf_call"g"
  exact i6 k3 Hp λ cU v x vB n=>ft (s:=.kK _ bs) ((((Gr.ext E).on cF sC).ext iL).ext vB) ⟨x,bv,n,mZ.fz (iL.fz.trans vB.fz)⟩ ⟨Pl hd 66 (by decide),str0 e1,pq⟩
 ·ktf_call"g"
  refine ed▸?_
  ktf_call"T";intro ο a a9 ha;ktf_call"g"
  refine mm.ob (Ω.AM (a9 _ _ sG.1) ha PH λ ω m' bx m4=>?_)
  ktf_call"g"
  have E:=bx.trans' a9
  exact aaW Bs (dh.ext E) (sF.fz E.fz) (PI m4) mr (PG _) (Ψ (cK _ 1) iI) λ ar v s cF sC hs hZ=>ft ((Gr.ext E).on cF sC) hs hZ
 ·ktf_call"g"
  ktf_call"lf"
  refine vx dh k6 λ ο ev e dB gg i9 mq=>?_
  have mj:Gb H₁ b ο:=⟨dB,gg⟩
  have Hq:=dB.fz dh
  ktf_call"g"
  refine ed▸?_
  refine Bb gg (sF.fz Hq) (sG.fz Hq) mr PF (Ψ (cK _ 1) iI) λ ω bv bs hY lD mZ pq=>?_
  have sD:=mj.on hY lD
  have i9:=i9.fz (hY.fz gg)
  clear mj Hq dB hY gg
  ktf_call"g"
  ktf_call"T";intro ar a i_ na ha;ktf_call"g"
  have dz:=lD.ne na
  ktf_call"lt"
  have oA:=sD.ext i_
  refine mf (by decide) oA.bg (Ψ (by decide) k3) λ j aV dR vz h0 h2=>?_
  have Hi:=dR.fz oA.bg
  have Hg:=oA.on dR vz
  have Bh:=dR _ _ ha dz
  ktf_call"g"
  refine mm.vt (st':=[.ref a]) (P:=λ v cU=>Fb b aV cU/\Bg cU b/\∃o,cQ (SR none cU (d'+1)) v o/\∀s,o=some s->WF (d'+1) L M s) (λ R hR=>?_) ?_
  ·rcases two h0 h2 with rfl |rfl
   ·ktf_call"g"
    exact hR _ _ ⟨Fb.refl,vz,none,rfl,λ _ z=>nomatch z⟩
   ·ktf_call"g"
    have Y:=Hg.fb.fz dh
    refine B0 mU vz (sF.fz Y) (sG.fz Y) (Ψ (cK _ _) hL) (Ψ (cK _ _) hM) (Ψ (eh 12 (3*d'+2)) iI) λ cU v s bT pw hs hZ=>?_
    ktf_call"g"
    refine hR _ _ ⟨bT,pw,some s,up1 hs,λ y e=>?_⟩
    obtain rfl:=bY e
    exact l9.map (λ _ _ _ z=>z.elim) hZ
  intro v cU aa7;obtain⟨bT,pw,os,jt,hZ⟩:=aa7
  ktf_call"g"
  ktf_call"T";intro gM q i8 _ hq7;ktf_call"g"
  refine mm.ob (Ω.AL (z2:=true) (i8 _ _ (bT _ _ Bh dz)) hq7 (by simp) λ y hy=>?_)
  ktf_call"g"
  have Z:=((bT.fz vz).trans i8.fz).trans (Ext.new (o:=.κ true ([ev,bv]++[v])) hy).fz
  exact i6 k3 ah λ h_ u x ia n=>ft (s:=.iff e bs os) (((Hg.on bT pw).ext i8).ext (ia.trans' (Ext.new hy))) ⟨x,ev,bv,v,n,(i9.fz (i_.fz.trans Hi)).fz (Z.trans ia.fz),(mZ.fz (i_.fz.trans Hi)).fz (Z.trans ia.fz),jt.map λ _ _ z=>z.fz ((i8.fz.trans (Ext.new hy).fz).trans ia.fz)⟩ ⟨mq,pq,hZ⟩
end
theorem mm.sn{Q:bJ->Lc->AH->Prop}{C:List It}{st:List Value}{v:Value}(np:NP none H v x kind a kv)(h:M g c Q X C st m H):M g c Q X (.sa 6::C) (v::.int j 0::st) m H:=by
 obtain⟨rfl,d,kl,n1,n2,n3⟩:=np
 intro v' w' hv hw
 obtain rfl:=a8 hw
 intro A s hA
 have hC:g_ 38 6=true:=rfl
 refine yc▸?_
 exact Xh (Q:=λ _ m' H'=>M g c Q X C st m' H') n1 n2 hv (by show 5<900;decide) (by exact yc▸rfl) (by refine yc▸?_;exact(hA.ok.ai hC).1) (λ h=>by rw[yc];exact h.setOk hC) h A s hA
noncomputable def eE(ι:Addr->Int)(H:AH):AH:=λ a=>match H a with
 |some (.aM es)=>some (.ai true (es++[(6,.int (ι a) 0)]))
 |o=>o
theorem Bk(e:H a=none):eE ι H a=none:=by unfold eE;rw[e]
theorem Bl(e:H a=some (.aM es)):eE ι H a=some (.ai true (es++[(6,.int (ι a) 0)])):=by unfold eE;exact e▸rfl
theorem vF(e:H a=some o)(h:∀es,o≠.aM es):eE ι H a=some o:=by
 unfold eE;rw[e]
 cases o with
 |aM es=>exact absurd rfl (h es)
 |_=>rfl
theorem PJ(e:eE ι H a=some o):(∃es,H a=some (.aM es)/\o=.ai true (es++[(6,.int (ι a) 0)]))\/H a=some o:=by
 cases q:H a with
 |none=>rw[Bk q]at e;cases e
 |some o'=>
  by_cases h:∃es,o'=.aM es
  ·obtain⟨es,rfl⟩:=h
   rw[Bl q]at e;cases e
   exact .inl ⟨es,rfl,rfl⟩
  ·rw[vF q λ es z=>h ⟨es,z⟩]at e;cases e
   exact .inr rfl
theorem At.eE{A:bS}{s:Shared}(x:At g c A m H s):∃ι,At g c A m (eE ι H) s/\∀L,Go L H s.heap (Mine.eE ι H) s.heap:=by
 have PK:∀a,∃i:Int,∀es,H a=some (.aM es)->cX s.heap a (es++[(6,.int i 0)]):=λ a=>by
  cases q:H a with
  |none=>exact⟨0,λ _ z=>by cases z⟩
  |some o=>
   by_cases h:∃es,o=.aM es
   ·obtain⟨es,rfl⟩:=h
    obtain⟨i,r⟩:=x.sim a _ q
    exact⟨i,λ es' z=>by cases z;exact r⟩
   ·exact⟨0,λ es z=>absurd ⟨es,bY z⟩ h⟩
 let ι:Addr->Int:=λ a=>(PK a).choose
 have spec:∀a es,H a=some (.aM es)->cX s.heap a (es++[(6,.int (ι a) 0)]):=λ a es e=>(PK a).choose_spec es e
 refine⟨ι,{x with sim:=λ a o e=>?_,low:=λ a o e=>?_,frames:=?_,off:=Bk x.off},λ L=>⟨λ a o _ e1 e2=>⟨Bk e1,o.slots,e2⟩,λ a o e z=>vF e λ es h=>(by subst h;cases z),λ a es e=>.inr ⟨ι a,by refine yc▸?_;exact Bl e⟩,λ a e h=>?_⟩⟩
 ·rcases PJ e with ⟨es,h1,rfl⟩|h1
  ·exact spec a es h1
  ·exact x.sim a o h1
 ·rcases PJ e with ⟨es,h1,rfl⟩|h1
  ·exact x.low a _ h1
  ·exact x.low a _ h1
 ·obtain⟨fs,h1,h2⟩:=x.frames
  refine⟨fs,h1,λ env he=>?_⟩
  obtain⟨k1,L,o',k2,k3,k4,k5,k6⟩:=h2 env he
  exact⟨k1,L,o',k2,k3,k4,Bk k5,k6⟩
 ·cases q:H a with
  |none=>exact e q
  |some o=>
   by_cases z:∃es,o=.aM es
   ·obtain⟨es,rfl⟩:=z;rw[Bl q]at h;cases h
   ·rw[vF q λ es y=>z ⟨es,y⟩]at h;cases h
theorem W.eE{α:Type}{t:Sem α}{Q:α->Lc->AH->Prop}(h:∀ι,W g c t m (Mine.eE ι H) Q X):W g c t m H Q X:=λ A s hA=>by
 refine ψ hA.eE λ ι a G=>?_
 exact next hA a (G _) (h ι)
theorem S.eE{l:List PS}{Q:bJ->Lc->AH->Prop}(h:∀ι,S g c l m (Mine.eE ι H) Q X):S g c l m H Q X:=λ n e he=>W.eE λ ι=>h ι n e he
noncomputable def yn(ι:Addr->Int)(H:AH)(x:Addr):Int:=match H x with
 |some (.ins _ d)=>ι d
 |_=>0
theorem NP.eE{ι:Addr->Int}:hV none (some (yn ι H)) H (Mine.eE ι H):=fun{v x kind a kv} h=>by
 obtain⟨e,d,kl,h1,h2,h3⟩:=h
 exact⟨e,d,kl,vF h1 (λ _ z=>nomatch z),by
  have e':yn ι H x=ι d:=by unfold yn;exact h1▸rfl
  exact(Bl h2)▸e'▸rfl,vF h3 (λ _ z=>nomatch z)⟩
theorem mm.eE{Q:bJ->Lc->AH->Prop}{C:List It}{st:List Value}{l:List PS}(h:∀ι,M g c Q X (.ss l::C) st m (Mine.eE ι H)):M g c Q X (.ss l::C) st m H:=S.eE h
inductive TL(H:AH):List Value->Nat->Prop
 |nil {n:Nat}:TL H [] n
 |az {r:List Value}{n:Nat}:TL H r n->TL H (.none::r) n
 |aM {v:Value}{x:Addr}{kind:Int}{a:Value}{kv r:List Value}{p q n:Nat}:NP none H v x kind a kv->kv.length<100->TL H kv p->TL H r q->p+q+1<=n->TL H (v::r) n
theorem TL.fz(F:Fz H H')(h:TL H l n):TL H' l n:=by
 induction h with
 |nil=>exact .nil
 |az _ ih=>exact .az ih
 |aM n hl _ _ e ih1 Hr=>exact .aM (n.fz F) hl ih1 Hr e
theorem TL.mono{l:List Value}{n n':Nat}(h:TL H l n)(k:n<=n'):TL H l n':=by
 induction h with
 |nil=>exact .nil
 |az _ ih=>exact .az (ih k)
 |aM n hl h1 h2 e _ _=>exact .aM n hl h1 h2 (Ψ e k)
theorem TL.app{l r:List Value}{p q:Nat}(h:TL H l p)(k:TL H r q):TL H (l++r) (p+q):=by
 induction h with
 |nil=>exact k.mono (eh _ _)
 |az _ ih=>exact .az ih
 |aM n hl h1 _ e _ Hr=>exact .aM n hl h1 Hr (by exact aH e (by simp +arith only))
theorem TL.split:∀{l r:List Value}{n:Nat},TL H (l++r) n->∃p q,TL H l p/\TL H r q/\p+q<=n
 | [],r,n,h=>⟨0,n,.nil,h,by exact(by simp +arith only)⟩
 |v::l,r,n,h=>by
  cases h with
  |az h=>refine dG (TL.split h) λ p q a b e=>?_;exact⟨p,q,.az a,b,e⟩
  |aM n hl h1 h2 e0=>refine dG (TL.split h2) λ p q a b e=>?_;exact⟨_,q,.aM n hl h1 a (bK _),b,by exact aH (aT e0 e) (by simp +arith only)⟩
theorem TL.all{N:Nat}:∀{kv:List Value},(∀w∈kv,TL H [w] N)->TL H kv (kv.length*N)
 | [],_=>.nil
 |v::r,h=>by
  have:=(h v eU).app (TL.all λ w hw=>h w (eA _ hw))
  exact this.mono (by rw[PL,Nat.succ_mul,mu];exact bK _)
theorem TL.kids{v:Value}{x:Addr}{kind:Int}{a:Value}{kv:List Value}{N n:Nat}(h:NP none H v x kind a kv)(k:∀w∈kv,TL H [w] N)(hl:kv.length<100)(e:kv.length*N+1<=n):TL H [v] n:=.aM h hl (TL.all k) (.nil (n:=0)) e
theorem jR{P:Value->Prop}:∀w∈([]:List Value),P w:=λ _ h=>nomatch h
theorem all1{P:Value->Prop}{a:Value}{l:List Value}(h:P a)(k:∀w∈l,P w):∀w∈a::l,P w:=λ w hw=>by
 rcases List.mem_cons.mp hw with rfl |hw
 ·exact h
 ·exact k w hw
theorem TL.leaf{v:Value}{x:Addr}{kind:Int}{a:Value}{n:Nat}(h:NP none H v x kind a [])(k:1<=n):TL H [v] n:=.aM h (by show 0<100;decide) (.nil (n:=0)) (.nil (n:=0)) k
theorem ER.tl{v:Value}{n:Nat}(k:1<=n):∀{e:Ex},ER none H v e->TL H [v] n
 | .dA _ _,h=>TL.leaf h k
 | .str _,⟨_,h⟩=>TL.leaf h k
 | .num _,⟨_,h⟩=>TL.leaf h k
 | .cM,⟨_,h⟩=>TL.leaf h k
theorem RR.tl{v:Value}{n:Nat}(k:1<=n):∀{e:Row},RR none H v e->TL H [v] n
 | .txt _,⟨_,h⟩=>TL.leaf h k
 | .bad _,h=>TL.leaf h k
theorem ak.mem{α β:Type}{R:α->β->Prop}{kv:List α}{ss:List β}(h:ak R kv ss):∀w∈kv,∃s∈ss,R w s:=ak.ind (R:=R) (P:=λ l m=>∀w∈l,∃s∈m,R w s) (λ _ h=>absurd h vG) (λ _ b _ _ h _ t w hw=>(List.mem_cons.mp hw).elim (λ e=>⟨b,eU,e▸h⟩) λ hw=>ψ (t w hw) λ s x y=>⟨s,eA _ x,y⟩) h
theorem BR.tl{n b N:Nat}{L M:List Str}(ih:∀v s L M,SR none H n v s->WF n L M s->TL H [v] b){v:Value}{ss:List St}(h:BR none H (SR none H n) v ss)(w:WB (WF n) L M ss)(e:2*b+1<=N):TL H [v] N:=by
 obtain⟨x,kv,h,a⟩:=h
 have hl:=a.len
 have:=w.2.1
 exact .kids h (λ u hu=>ψ (a.mem u hu) λ s h1 h2=>ih u s L M h2 (w.2.2 s h1)) (by exact aH (aT (aU hl) this) (by simp +arith only)) (Ψ (kC (m5 b (hl▸this))) e)
theorem cQ.tl{β:Type}{R:Value->β->Prop}{v:Value}{b:Nat}{o:Option β}(h:cQ R v o)(k:∀y,o=some y->R v y->TL H [v] b):TL H [v] b:=by
 cases o with
 |none=>have e:v=.none:=h;refine e.symm▸?_;exact .az .nil
 |some y=>exact k y rfl h
theorem LR.tl{l:Str}{v:Value}{P:Value->Prop}{b:Nat}(h:LR none H l v P)(k:∀v,P v->TL H [v] b):TL H [v] (b+1):=by
 unfold LR at h
 split at h
 ·exact(k _ h).mono (gK b)
 ·obtain⟨x,w,h1,h2⟩:=h
  exact .kids h1 (all1 (k _ h2) jR) (by show 1<100;decide) (by show 1*b+1<=b+1;rw[pC];exact bK _)
noncomputable def nb:Nat->Nat
 |0=>0
 |n+1=>3*(2*nb n+3)+2
theorem TL.k3{v:Value}{x:Addr}{kind:Int}{a:Value}{kv:List Value}{N:Nat}(h:NP none H v x kind a kv)(hl:jK kv.length 3=true)(k:∀w∈kv,TL H [w] N):TL H [v] (3*N+1):=by
 have hl:=eV hl
 exact .kids h k (by exact cI (by assumption) (by decide)) (kC (m5 N hl))
theorem TL.s{l:List Value}{n:Nat}(h:TL H l n):TL H l (n+1):=h.mono (gK n)
theorem SR.tl:∀{n:Nat}{v:Value}{s:St}{L M:List Str},SR none H n v s->WF n L M s->TL H [v] (nb n)
 |0,_,_,_,_,h,_=>h.elim
 |n+1,v,s,L,M,h,hw=>by
  have ih:∀v s L M,SR none H n v s->WF n L M s->TL H [v] (nb n):=λ v s L M=>SR.tl
  replace h:mX none H (SR none H n) v s:=h
  replace hw:l9 (WF n) L M s:=hw
  show TL H [v] (3*(2*nb n+3)+1+1)
  have h1:1<=2*nb n+3:=eh 1 _
  have hb:2*nb n+1<=2*nb n+3:=eP (by decide) _
  have hn:nb n<=2*nb n+3:=by exact(by simp +arith only)
  have h3:3<=2*nb n+3:=eh 3 _
  have hc:1+(2*nb n+1)+0+1<=2*nb n+3:=by exact(by simp +arith only)
  have lE:1+nb n+0+1<=2*nb n+3:=by exact(by simp +arith only)
  generalize 2*nb n+3=N at h1 hb hn h3 hc lE
  cases s with
  |ex e=>obtain⟨x,w,h,e⟩:=h;exact(TL.k3 h rfl (all1 (e.tl h1) jR)).s
  |dN=>obtain⟨x,h⟩:=h;exact(TL.k3 h rfl (all1 (.az .nil) jR)).s
  |ret e=>obtain⟨x,w,h,e⟩:=h;exact(TL.k3 h rfl (all1 (e.tl h1) jR)).s
  |aw e=>obtain⟨x,w,h,e⟩:=h;exact(TL.k3 h rfl (all1 (e.tl h1) jR)).s
  |brk l=>obtain⟨x,h⟩:=h;exact(TL.k3 h rfl jR).s
  |cnt l=>obtain⟨x,h⟩:=h;exact(TL.k3 h rfl jR).s
  |dQ b c f=>
   obtain⟨x,bv,cv,fv,h,a1,a2,a3⟩:=h
   refine(TL.k3 h rfl (all1 (a1.tl ih hw.1 hb) (all1 (a2.tl λ y e r=>?_) (all1 (a3.tl λ y e r=>r.tl ih (hw.2.2 y e) hb) jR)))).s
   obtain⟨x,nn,b,c1,c2,c3⟩:=r
   exact .aM c1 (by show 2<100;decide) ((c2.tl λ z _ r=>.leaf r (bK 1)).app (c3.tl ih (hw.2.1 y e) (bK _))) (.nil (n:=0)) hc
  |hU l b=>exact LR.tl h λ v r=>by obtain⟨x,bv,tv,t,h,a1,a2⟩:=r;exact TL.k3 h rfl (all1 (a1.tl ih hw.2 hb) (all1 (.leaf a2 h1) jR))
  |gq l isOf x row b=>
   refine LR.tl h λ v r=>?_
   obtain⟨x,hv,rv,bv,hx,dv,dx,nv,h,a1,a2,a3,a4,a5⟩:=r
   exact TL.k3 h rfl (all1 (.kids a1 (N:=2) (all1 (.aM a2 (by show 3<100;decide) (.app (.leaf a3 (bK 1)) (.az (.az (.nil (n:=0))))) (.nil (n:=0)) (bK 2)) jR) (by show 1<100;decide) h3) (all1 (a4.tl h1) (all1 (a5.tl ih hw.2.2 hb) jR)))
  |kK l b=>obtain⟨x,w,h,e⟩:=h;exact(TL.k3 h rfl (all1 (e.tl ih hw.2.2 hb) jR)).s
  |sw e p1 s1 p2 s2=>
   obtain⟨x,ev,c1,c2,x1,t1,v1,x2,t2,v2,h,a1,a2,a3,a4,a5,a6,a7⟩:=h
   have cs:∀{v x t w q},NP none H v x 51 (.str s_ 0) [t,w]->cQ (ER none H) t q->TL H [w] (nb n)->TL H [v] N:=λ h a b=>.aM h (by show 2<100;decide) ((a.tl λ z _ r=>r.tl (bK 1)).app b) (.nil (n:=0)) lE
   exact(TL.k3 h rfl (all1 (a1.tl h1) (all1 (cs a2 a3 (ih _ _ _ _ a4 hw.2.2.1)) (all1 (cs a5 a6 (ih _ _ _ _ a7 hw.2.2.2.2.1)) jR)))).s
  |iff e a b=>
   obtain⟨x,ev,av,bv,h,a1,a2,a3⟩:=h
   exact(TL.k3 h rfl (all1 (a1.tl h1) (all1 (a2.tl ih hw.2.1 hb) (all1 (a3.tl λ z e r=>(ih _ _ _ _ r (hw.2.2 z e)).mono hn) jR)))).s
section
variable {k:Nat}
def sH(l:List Value):Prop:=∀v∈l,v≠.none
inductive vH(H:AH)(v:Value):Prop
 |mk (x:Addr) (kind:Int) (a:Value) (kv:List Value) (h:NP none H v x kind a kv):vH H v
theorem vH.fz(F:Fz H H')(h:vH H v):vH H' v:=by cases h with|mk x kd a kv h=>exact⟨x,kd,a,kv,h.fz F⟩
theorem TL.head(hv:v≠.none)(h:TL H (v::r) n):∃x kind a kv p q,NP none H v x kind a kv/\kv.length<100/\TL H kv p/\TL H r q/\p+q+1<=n:=by
 cases h with
 |az h=>exact absurd rfl hv
 |aM n hl h1 h2 e=>exact⟨_,_,_,_,_,_,n,hl,h1,h2,e⟩
theorem TL.len:∀{l:List Value}{n:Nat},TL H l n->sH l->l.length<=n
 | [],_,_,_=>gj _
 |v::r,n,h,hn=>by
  refine zZ (h.head (hn v eU)) λ x kind a kv p q _ _ _ h2 e=>?_
  have:=TL.len h2 λ w hw=>hn w (eA _ hw)
  simp only[PL];exact aH (aT e this) (by simp +arith only)
theorem sH.snoc(h:sH l)(k:v≠.none):sH (l++[v]):=λ w hw=>by
 rcases List.mem_append.mp hw with hw |hw
 ·exact h w hw
 ·rw[List.mem_singleton.mp hw];exact k
structure WkI(H:AH)(n:Nat)(ol st:Addr)(j:Nat)(H':AH)(ss os:List Value):Prop where
 fz:Fz H H'
 st:H' st=some (.κ false ss)
 ol:H' ol=some (.κ false os)
 tl:TL H' ss j
 no:sH ss
 is:∀w∈os,vH H' w
 le:os.length+j<=n
structure WkK(ο:AH)(ol st:Addr)(os sr kv:List Value)(p' j:Nat)(H':AH)(ps:List Value)(a b:Nat):Prop where
 le:j<=kv.length
 fz:Fz ο H'
 ol:H' ol=some (.κ false os)
 st:H' st=some (.κ false (sr++ps))
 no:sH ps
 ta:TL H' (kv.take j) a
 tb:TL H' ps b
 ab:a+b<=p'
theorem ge0(j:Nat):decide ((j:Int)-1>=0)=jK 1 j:=by
 cases j with
 |zero=>rfl
 |succ j=>exact decide_eq_true (xf.symm▸iC j)
theorem aa8(ht:TL H [v] n)(hv:v≠.none)(hn:n<100000)(hk:1<=k)
  (hq:∀H' l vs,Fz H H'->H' l=some (.κ false vs)->(∀w∈vs,vH H' w)->vs.length<=n->Q (.ref l) H'):μ g k (.ref 63) [v] H Q X:=by
 refine μ.en (fT 3 rfl) rfl hk λ c o _=>?_
 ktf_call"g"
 ktf_call"lf"
 ktf_call"T";intro H₁ ol aJ Hs sI;ktf_call"g"
 ktf_call"lf"
 ktf_call"T";intro ο st a9 sJ iY;ktf_call"g"
 have jt:ol≠st:=λ e=>by subst e;rw[sI]at sJ;cases sJ
 refine mm.wl o (I:=λ j m' H'=>m'=[(12,.ref ol),(13,.ref st)]/\∃ss os,WkI H n ol st j H' ss os) (by exact⟨rfl,rfl,trivial⟩)
  ⟨rfl,[v],[],(a9.trans' aJ).fz,iY,a9 _ _ sI,ht.fz (a9.trans' aJ).fz,(λ w hw=>by rw[List.mem_singleton.mp hw];exact hv),(λ w hw=>nomatch hw),by rw[List.length_nil,lW];exact bK n⟩ ?_
 intro j _ H₁ aa9;obtain⟨rfl,ss,os,I⟩:=aa9
 ktf_call"g"
 have ib:=I.tl.len I.no
 refine mm.tr (bH.κ I.st (by have:=I.le;exact aH (aT (aT hn ib) this) (by simp +arith)) ?_)
 rcases aaI ss with rfl |⟨sr,w,rfl⟩
 ·ktf_call"g"
  exact hq _ _ _ I.fz I.ol I.is (Ψ (cK _ _) I.le)
 rw[aaJ]at I ib⊢
 refine dG I.tl.split λ p q t1 t2 PM=>?_
 refine zZ (t2.head (I.no w (by simp))) λ x kind a kv p' q' np hlen t3 _ PO=>?_
 have Ao:sH sr:=λ w hw=>I.no w (aa_ _ hw)
 have big:os.length+j<100000:=cI I.le hn
 refine mm.b (w:=true) (by cases sr <;> rfl) ?_
 ktf_call"g"
 rw[iK]at ib
 refine mm.lp I.st (by exact aH (aT ib big) (by simp +arith)) ?_
 have h2:ξ H₁ st (.κ false sr) ol=some (.κ false os):=by rw[Γ jt];exact I.ol
 have F1:Fz H₁ (ξ H₁ st (.κ false sr)):=Fz.set I.st rfl
 have s1:ξ H₁ st (.κ false sr) st=some (.κ false sr):=ah
 generalize ξ H₁ st (.κ false sr)=ο at F1 h2 s1⊢
 ktf_call"g"
 refine μ.append h2 (by exact aH big (by simp +arith)) ?_
 have F2:Fz H₁ (ξ ο ol (.κ false (os++[w]))):=F1.trans (Fz.set h2 rfl)
 have s2:ξ ο ol (.κ false (os++[w])) st=some (.κ false sr):=by rw[Γ (cP jt)];exact s1
 have o2:ξ ο ol (.κ false (os++[w])) ol=some (.κ false (os++[w])):=ah
 generalize ξ ο ol (.κ false (os++[w]))=ω at F2 s2 o2⊢
 have ic:=np.fz F2
 ktf_call"g"
 refine mm.ks ic λ kl eB=>?_
 ktf_call"g"
 refine μ.len_list eB (by exact aZ (by assumption) (by decide)) ?_
 ktf_call"g"
 refine mm.wl o (I:=λ j m' H'=>m'=[(12,.ref ol),(13,.ref st),(14,w),(5,.int ((j:Int)-1) 0)]/\∃ps a b,WkK ω ol st (os++[w]) sr kv p' j H' ps a b) (n:=kv.length) (by exact⟨rfl,rfl,rfl,rfl,trivial⟩)
  ⟨rfl,[],p',0,bK _,Fz.refl,o2,by rw[E_];exact s2,(λ _ h=>nomatch h),by rw[List.take_length];exact t3.fz F2,.nil,bK _⟩ ?_
 intro i _ ar aa';obtain⟨rfl,ps,aa,bb,K⟩:=aa'
 ktf_call"g"
 refine mm.b (ge0 i) ?_
 have sL:=ic.fz K.fz
 cases i with
 |zero=>
  ktf_call"g"
  refine⟨p+p',_,by exact aH (aT PM PO) (by simp +arith only),by exact⟨rfl,rfl,trivial⟩,rfl,sr++ps,os++[w],I.fz.trans (F2.trans K.fz),K.st,K.ol,?_,λ u hu=>?_,λ u hu=>?_,?_⟩
  ·exact((t1.fz (F2.trans K.fz)).app K.tb).mono (by have:=K.ab;exact aH this (by simp +arith only))
  ·rcases List.mem_append.mp hu with h |h
   ·exact Ao u h
   ·exact K.no u h
  ·rcases List.mem_append.mp hu with h |h
   ·exact(I.is u h).fz (F2.trans K.fz)
   ·rw[List.mem_singleton.mp h];exact⟨_,_,_,_,sL⟩
  ·have:=I.le;rw[iK];show os.length+1+_<=n;exact aH (aT (aT PM PO) this) (by simp +arith only)
 |succ i=>
  have m6:i<kv.length:=K.le
  have ei:((i+1:Nat):Int)-1=(i:Int):=xf
  rw[ei]
  have ek:kv.take (i+1)=kv.take i++[kv[i]]:=(List.take_append_getElem m6).symm
  have ta:=K.ta
  rw[ek]at ta
  refine dG ta.split λ a1 a2 PQ ta2 ea=>?_
  have eb:=K.ab
  ktf_call"g"
  refine mm.ks sL λ kl eB=>?_
  ktf_call"g"
  refine mm.sg (cq.list eB (iC i) (zW (aZ m6 hlen) (by decide)) (v:=kv[i]) (lr m6) ?_)
  ktf_call"g"
  cases xI:kv[i]==Value.none with
  |false=>
   have bM:kv[i]≠.none:=λ e=>by rw[e]at xI;cases xI
   ktf_call"g"
   have l1:=K.tb.len K.no
   refine mm.la K.st ?_
   ktf_call"g"
   refine μ.append K.st (by rw[iK];omega) ?_
   ktf_call"g"
   have F4:Fz ar (ξ ar st (.κ false (sr++ps++[kv[i]]))):=Fz.set K.st rfl
   exact⟨i,_,lu i,by exact⟨rfl,rfl,rfl,rfl,trivial⟩,rfl,ps++[kv[i]],a1,bb+a2,jo m6,K.fz.trans F4,by rw[Γ jt];exact K.ol,by rw[<- List.append_assoc];exact ah,K.no.snoc bM,PQ.fz F4,(K.tb.app ta2).fz F4,by exact aH (aT ea eb) (by simp +arith only)⟩
  |true=>
   ktf_call"g"
   exact⟨i,_,lu i,by exact⟨rfl,rfl,rfl,rfl,trivial⟩,rfl,ps,a1,bb,jo m6,K.fz,K.ol,K.st,K.no,PQ,K.tb,by exact aH (aT ea eb) (by simp +arith only)⟩
end
section
variable {k:Nat}
theorem aba(ht:TL H [v] n)(hv:v≠.none)(hn:n<100000)(hk:2<=k)(hq:∀H' w,Fz H H'->Q w H'):μ g k (.ref 70) [v,.int 1 0] H Q X:=by
 refine μ.en (fT 4 rfl) rfl hk λ c o _=>?_
 ktf_call"g"
 refine aa8 ht hv hn (by ktf_call"k") λ H₁ l vs bN hl kG hlen=>?_
 refine mm.fo (Goes.list hl) (I:=λ j m' H'=>H'=H₁/\∃i:Int,m'=[(21,.int i 0)]) (by exact⟨rfl,trivial⟩) ⟨rfl,1,rfl⟩ ?_ ?_
 ·intro j x _ _ abb hx;obtain⟨rfl,i,rfl⟩:=abb
  refine⟨hl,?_⟩
  ktf_call"g"
  obtain⟨y,kind,a,kv,np⟩:=kG x (yl hx)
  refine mm.sn np ?_
  ktf_call"g"
  exact⟨_,by exact⟨rfl,trivial⟩,rfl,_,rfl⟩
 ·intro _ _ abc;obtain⟨rfl,i,rfl⟩:=abc
  refine⟨hl,?_⟩
  ktf_call"g"
  exact hq _ _ bN
end
inductive SV where
 |u |b (z:Int)|n (i:Int)|s (x:Str)|o (z:Int)
noncomputable def SV.tag:SV->Int
 | .u=>0 | .b _=>2 | .n _=>3 | .s _=>5 | .o _=>6
noncomputable def SV.jS:SV->Value
 | .u=>.int 0 0 | .b z=>.int z 0 | .n i=>.int i 0 | .s x=>.str x 0 | .o k=>.int k 0
inductive VR(H:AH)(v:Value)(w:SV):Prop
 |mk (a:Addr) (e:v=.ref a) (h:H a=some (.φ [.int w.tag 0,w.jS])):VR H v w
theorem VR.fz{H H':AH}(F:Fz H H'){v:Value}{w:SV}(h:VR H v w):VR H' v w:=by cases h with|mk a e h=>exact⟨a,e,F _ _ h rfl⟩
theorem VR.tg(h:VR H v w):jL H v (.int 0 0) (.int w.tag 0):=by cases h with|mk a e h=>subst e;exact jL.t h rfl
theorem VR.py(h:VR H v w):jL H v (.int 1 0) w.jS:=by cases h with|mk a e h=>subst e;exact jL.t h rfl
noncomputable abbrev Ev:=List (Str×SV×Bool)
inductive sM(H:AH)(p:Str×Value)(q:Str×SV×Bool):Prop
 |mk (e:p.1 = q.1) (a:Addr) (w:Value) (st:Int) (h1:p.2 = .ref a) (h2:H a = some (.κ true [w,.int st 0])) (h3:VR H w q.2.1) (h4:q.2.2 = (st != 0)):sM H p q
inductive a_(H:AH):Value->Ev->Nat->Prop
 |nil:a_ H Value.none [] 0
 |sc {x d cd:Addr}{up:Value}{cells:List (Str×Value)}{cs E:Ev}{n:Nat}:H x=some (.ins 237 d)->H d=some (.ai true [(47,.ref cd),(46,up)])->H cd=some (.sd true cells)->ak (sM H) cells cs->a_ H up E n->a_ H (.ref x) (cs++E) (n+1)
theorem sM.fz{H H':AH}(F:Fz H H'){p:Str×Value}{q:Str×SV×Bool}(h:sM H p q):sM H' p q:=by cases h with|mk e a w st h1 h2 h3 h4=>exact⟨e,a,w,st,h1,F _ _ h2 rfl,h3.fz F,h4⟩
theorem a_.fz{H H':AH}(F:Fz H H'){v:Value}{E:Ev}{n:Nat}(h:a_ H v E n):a_ H' v E n:=by
 induction h with
 |nil=>exact .nil
 |sc h1 h2 h3 h4 _ ih=>exact .sc (F _ _ h1 rfl) (F _ _ h2 rfl) (F _ _ h3 rfl) (h4.map λ _ _ z=>z.fz F) ih
noncomputable def gN(n:Str)(E:Ev):Option (SV×Bool):=(E.find? λ p=>p.1=n).map (·.2)
theorem abd:gN n (cs++E)=match gN n cs with|some x=>some x |none=>gN n E:=by
 delta gN
 rw[List.find?_append]
 cases cs.find? λ p=>p.1=n <;> rfl
inductive Ht(H:AH)(r:Option Value):Option (SV×Bool)->Prop
 |no (e:r=none):Ht H r none
 |so {v:SV}{l:Bool} (a:Addr) (w:Value) (st:Int) (e:r = some (.ref a)) (h:H a = some (.κ true [w,.int st 0])) (k:VR H w v) (q:l = (st != 0)):Ht H r (some (v,l))
theorem abe(h:ak (sM H) cells cs):Ht H (atK n cells) (gN n cs):=by
 induction cells generalizing cs with
 |nil=>
  cases cs with
  |nil=>exact .no rfl
  |cons _ _=>exact h.elim
 |cons p r ih=>
  cases cs with
  |nil=>exact h.elim
  |cons q t=>
   obtain⟨k,h⟩:=h
   obtain⟨e,a,w,st,h1,h2,h3,h4⟩:=k
   delta gN atK
   by_cases hn:p.1=n
   ·rw[abf (by simpa using hn),abf (by rw[e]at hn;simpa using hn),Np,Np,h1]
    exact .so a w st rfl h2 h3 h4
   ·rw[abg (by simpa using hn),abg (by rw[e]at hn;simpa using hn)]
    exact ih h
structure MC where
 (m d hp jG ex sm out th nt sn tl wt wd pr:Addr)
 (yo cp bi Hu ho:Value)
structure bI where
 (st dp:Int)
 env:Value
 seen:List (Int×SV)
 aj:List Int
 bA:Nat
noncomputable def gO(C:MC)(s:bI):Lc:=[(59,.ref C.hp),(97,.ref C.ex),(98,.ref C.sm),(99,.int s.st 0),(100,.int 20000 0),(101,.int s.dp 0),(102,.int 44 0),(12,.ref C.out),(104,s.env),(105,.none),(106,C.yo),(41,.int (-1) 0),
 (107,.ref C.tl),(108,.ref C.wt),(110,.ref C.pr),(111,C.cp),(112,C.bi),(114,C.Hu),(116,C.ho),(118,.none)]
inductive RI(H:AH)(v:Value)(C:Addr):Prop
 |mk (a d:Addr) (e:v=.ref a) (h1:H a=some (.ins C d)) (h2:H d=some (.ai true [])):RI H v C
noncomputable def yq:List (Int×Addr):=[(1,739),(2,720),(4,758),(5,758),(8,857)]
noncomputable def lF:List (Int×Addr):=[(43,970),(59,989),(44,1008),(52,1083),(53,1102),(54,1121),(56,1140),(55,1192),(46,1333),(48,1371),(49,1390),(50,1437),(57,1484)]
inductive oB(H:AH)(a:Addr)(t:List (Int×Addr)):Prop
 |mk (es:List (Int×Value)) (h:H a=some (.bu true es)) (k:∀p∈t,∃v,atK p.1 es=some v/\RI H v p.2):oB H a t
theorem RI.fz{H H':AH}(F:Fz H H'){v:Value}{C:Addr}(h:RI H v C):RI H' v C:=by cases h with|mk a d e h1 h2=>exact⟨a,d,e,F _ _ h1 rfl,F _ _ h2 rfl⟩
theorem RI.ne(h:RI H v C):(v==.none)=false:=by cases h with|mk a d e h1 h2=>rw[e];rfl
theorem RI.mt(h:RI H v C)(h4:iD C i=some f)(h5:(A4 i&&fE i 318)=true):Mt H v i f:=by cases h with|mk a d e h1 h2=>exact⟨e,h1,h2,rfl,h4,h5⟩
theorem oB.fz{H H':AH}(F:Fz H H'){a:Addr}{t:List (Int×Addr)}(h:oB H a t):oB H' a t:=by cases h with|mk es h k=>exact⟨es,F _ _ h rfl,λ p hp=>ψ (k p hp) λ v a b=>⟨v,a,b.fz F⟩⟩
structure MF(H:AH)(C:MC):Prop where
 m:H C.m=some (.ins 610 C.d)
 hp:H C.hp=some (.ins 216 C.jG)
 hd:H C.jG=some (.ai true [(43,.ref C.th),(44,.ref C.nt)])
 ex:oB H C.ex yq
 sm:oB H C.sm lF
 pr:H C.pr=some (.bu true [])
 wt:H C.wt=some (.ins 472 C.wd)
 wd:H C.wd=some (.ai true [(92,.ref C.sn)])
theorem MF.fz{H H':AH}(F:Fz H H'){C:MC}(x:MF H C):MF H' C:=
 ⟨F _ _ x.m rfl,F _ _ x.hp rfl,F _ _ x.hd rfl,x.ex.fz F,x.sm.fz F,F _ _ x.pr rfl,F _ _ x.wt rfl,F _ _ x.wd rfl⟩
inductive gk(H:AH)(v:Value)(p:Int×SV):Prop
 |mk (a:Addr) (w:Value) (e:v=.ref a) (h:H a=some (.φ [.int p.1 0,w])) (k:VR H w p.2):gk H v p
inductive gu(H:AH)(v:Value)(n:Int):Prop
 |mk (a:Addr) (e:v=.ref a) (h:H a=some (.φ [.int 4 0,.int n 0])):gu H v n
theorem gk.fz{H H':AH}(F:Fz H H'){v:Value}{p:Int×SV}(h:gk H v p):gk H' v p:=by cases h with|mk a w e h1 h2=>exact⟨a,w,e,F _ _ h1 rfl,h2.fz F⟩
theorem gu.fz{H H':AH}(F:Fz H H'){v:Value}{n:Int}(h:gu H v n):gu H' v n:=by cases h with|mk a e h=>exact⟨a,e,F _ _ h rfl⟩
inductive Lq{β:Type}(R:AH->Value->β->Prop)(H:AH)(a:Addr)(l:List β):Prop
 |mk (vs:List Value) (h:H a=some (.κ false vs)) (k:ak (R H) vs l):Lq R H a l
theorem Lq.fz{β:Type}{R:AH->Value->β->Prop}(k:∀{H H' v b},Fz H H'->R H v b->R H' v b){H H':AH}{a:Addr}{l:List β}(F:Fz H H')(e:H' a=H a)(h:Lq R H a l):Lq R H' a l:=by
 cases h with|mk vs h q=>exact⟨vs,e.trans h,q.map λ _ _ z=>k F z⟩
theorem Lq.get{β:Type}{R:AH->Value->β->Prop}{H:AH}{a:Addr}{l:List β}(h:Lq R H a l):∃vs,H a=some (.κ false vs):=by cases h with|mk vs h _=>exact⟨vs,h⟩
structure MS(H:AH)(C:MC)(s:bI):Prop extends MF H C where
 dd:H C.d=some (.ai false (gO C s))
 seen:Lq gk H C.sn s.seen
 aj:Lq gu H C.tl s.aj
 jT:∃vs,H C.th=some (.κ false vs)/\vs.length=s.bA
 n1:C.sn≠C.tl
 n2:C.sn≠C.th
 n3:C.tl≠C.th
section
variable {s:bI}
theorem MS.fd(x:MS H C s)(h:(gO C s).lookup i=some u)(hc:g_ 610 i=true)(hd:cT u=true):Fd H (.ref C.m) i u:=⟨λ _ _ _ _ _ q=>c_.fl x.m x.dd h hc hd q⟩
theorem MS.mt(x:MS H C s)(h3:(gO C s).lookup i=none)(h4:iD 610 i=some f)(h5:(A4 i&&fE i 318)=true):Mt H (.ref C.m) i f:=⟨rfl,x.m,x.dd,h3,h4,h5⟩
theorem MS.PR{s':bI}(x:MS H C s)(F:Fz H H')(e1:H' C.d=some (.ai false (gO C s')))(e2:H' C.sn=H C.sn)(e3:H' C.tl=H C.tl)(e4:H' C.th=H C.th)(h1:s'.seen=s.seen)(h2:s'.aj=s.aj)(h3:s'.bA=s.bA):MS H' C s':=
 {toMF:=x.toMF.fz F,dd:=e1,seen:=h1▸x.seen.fz (λ F z=>z.fz F) F e2,aj:=h2▸x.aj.fz (λ F z=>z.fz F) F e3,jT:=ψ (x.jT) λ vs a b=>⟨vs,e4.trans a,b.trans h3.symm⟩,n1:=x.n1,n2:=x.n2,n3:=x.n3}
theorem MS.of(x:MS H C s)(F:Fz H H')(e1:H' C.d=H C.d)(e2:H' C.sn=H C.sn)(e3:H' C.tl=H C.tl)(e4:H' C.th=H C.th):MS H' C s:=x.PR F (e1.trans x.dd) e2 e3 e4 rfl rfl rfl
theorem MS.ext(E:Ext H H')(x:MS H C s):MS H' C s:=by
 refine Θ x.seen.get λ _ h1=>?_
 refine Θ x.aj.get λ _ h2=>?_
 refine ψ x.jT λ _ h3 _=>?_
 exact x.of E.fz ((E _ _ x.dd).trans x.dd.symm) ((E _ _ h1).trans h1.symm) ((E _ _ h2).trans h2.symm) ((E _ _ h3).trans h3.symm)
theorem MS.new(n:H a=none)(x:MS H C s):MS (ξ H a o) C s:=x.ext (Ext.new n)
theorem cG{H:AH}{a b:Addr}{o o':AO}(h:H a=some o)(k:H b=some o')(d:AO.iZ o o'=true):a≠b:=λ z=>by
 subst z;rw[h]at k;obtain rfl:=bY k;simp[AO.iZ]at d
theorem MS.jM{a:Addr}{o o':AO}(x:MS H C s)(h:H a=some o)(h1:AO.iZ o (.κ false [])=true)(h2:AO.iZ o (.ai false [])=true)(hi:o.x_=false):MS (ξ H a o') C s:=by
 have k:∀{b:Addr}{vs:List Value},H b=some (.κ false vs)->ξ H a o' b=H b:=λ hb=>Γ (cP (cG h hb h1))
 refine Θ x.seen.get λ _ l1=>?_
 refine Θ x.aj.get λ _ l2=>?_
 refine ψ x.jT λ _ l3 _=>?_
 exact x.of (Fz.set h hi) (Γ (cP (cG h x.dd h2))) (k l1) (k l2) (k l3)
theorem MS.ai(x:MS H C s)(s':bI)(h1:s'.seen=s.seen)(h2:s'.aj=s.aj)(h3:s'.bA=s.bA):MS (ξ H C.d (.ai false (gO C s'))) C s'/\Fz H (ξ H C.d (.ai false (gO C s'))):=by
 have F:Fz H (ξ H C.d (.ai false (gO C s'))):=Fz.set x.dd rfl
 have k:∀{b:Addr}{vs:List Value},H b=some (.κ false vs)->ξ H C.d (.ai false (gO C s')) b=H b:=λ hb=>Γ (cG hb x.dd rfl)
 refine Θ x.seen.get λ _ l1=>?_
 refine Θ x.aj.get λ _ l2=>?_
 refine ψ x.jT λ _ l3 _=>?_
 exact⟨x.PR F ah (k l1) (k l2) (k l3) h1 h2 h3,F⟩
theorem MS.look(x:MS H C s){vs:List Value}{v:Value}{p:Int×SV}(h:H C.sn=some (.κ false vs))(hp:gk H v p)(hv:ak (gk H) vs s.seen):
  MS (ξ H C.sn (.κ false (vs++[v]))) C {s with seen:=s.seen++[p]}/\Fz H (ξ H C.sn (.κ false (vs++[v]))):=by
 have F:Fz H (ξ H C.sn (.κ false (vs++[v]))):=Fz.set h rfl
 refine⟨{toMF:=x.toMF.fz F,dd:=?_,seen:=⟨_,ah,(hv.map λ _ _ z=>z.fz F).app (hp.fz F)⟩,aj:=x.aj.fz (λ F z=>z.fz F) F (Γ (cP x.n1)),jT:=?_,n1:=x.n1,n2:=x.n2,n3:=x.n3},F⟩
 ·rw[Γ (cG x.dd h rfl)];exact x.dd
 ·refine ψ x.jT λ ws a b=>?_;exact⟨ws,by rw[Γ (cP x.n2)];exact a,b⟩
theorem MS.tell(x:MS H C s){vs:List Value}{v:Value}{p:Int}(h:H C.tl=some (.κ false vs))(hp:gu H v p)(hv:ak (gu H) vs s.aj):
  MS (ξ H C.tl (.κ false (vs++[v]))) C {s with aj:=s.aj++[p]}/\Fz H (ξ H C.tl (.κ false (vs++[v]))):=by
 have F:Fz H (ξ H C.tl (.κ false (vs++[v]))):=Fz.set h rfl
 refine⟨{toMF:=x.toMF.fz F,dd:=?_,seen:=x.seen.fz (λ F z=>z.fz F) F (Γ x.n1),aj:=⟨_,ah,(hv.map λ _ _ z=>z.fz F).app (hp.fz F)⟩,jT:=?_,n1:=x.n1,n2:=x.n2,n3:=x.n3},F⟩
 ·rw[Γ (cG x.dd h rfl)];exact x.dd
 ·refine ψ x.jT λ ws a b=>?_;exact⟨ws,by rw[Γ (cP x.n3)];exact a,b⟩
variable {st:List Value}
theorem mm.ms(x:MS H C s)(s':bI)(e:put i v (gO C s)=gO C s')(hc:g_ 610 i=true)(h1:s'.seen=s.seen)(h2:s'.aj=s.aj)(h3:s'.bA=s.bA)(h:∀H',Fz H H'->MS H' C s'->M g c Q X D st m H'):M g c Q X (.sa i::D) (.ref C.m::v::st) m H:=by
 refine ag (x.ai s' h1 h2 h3) λ a b=>?_
 exact mm.sf x.m x.dd rfl hc (by rw[e];exact h _ b a)
theorem mm.mh(x:MS H C s)(s':bI)(e:put i v (gO C s)=gO C s')(hc:g_ 610 i=true)(h1:s'.seen=s.seen)(h2:s'.aj=s.aj)(h3:s'.bA=s.bA)(h:∀H',Fz H H'->MS H' C s'->M g c Q X D st m H'):M g c Q X (.sb i::D) (v::.ref C.m::st) m H:=by
 refine ag (x.ai s' h1 h2 h3) λ a b=>?_
 exact mm.sh x.m x.dd rfl hc (by rw[e];exact h _ b a)
theorem mm.fx(h1:Fd H v i u)(h:M g c Q X D (u::v::st) m H):M g c Q X (.dat i::D) (v::st) m H:=h1.p g c m (λ u m' H'=>M g c Q X D (u::v::st) m' H') X h
end
structure Bd(s:bI)(B:Nat):Prop where
 st:s.st<=(B:Int)
 p0:0<=s.st
 sn:s.seen.length<=B
 tl:s.aj.length<=B
 th:s.bA=s.aj.length
theorem Bd.mono(h:Bd s B)(k:B<=B'):Bd s B':=⟨ji h.st (Int.ofNat_le.mpr k),h.p0,Ψ h.sn k,Ψ h.tl k,h.th⟩
section
variable {k:Nat}
theorem Hv(hk:1<=k)(hq:∀H' v,Ext H H'->VR H' v .u->Q v H'):μ g k (.ref 248) [] H Q X:=by
 refine μ.en (fT 9 rfl) rfl hk λ c o _=>?_
 ktf_call"g"
 ktf_call"T";intro H' a E ha;ktf_call"g"
 exact hq _ _ E ⟨a,rfl,ha⟩
theorem Hw(hk:1<=k)(hq:∀H' v,Ext H H'->VR H' v (.s x)->Q v H'):μ g k (.ref 255) [.str x 0] H Q X:=by
 refine μ.en (fT 10 rfl) rfl hk λ c o _=>?_
 ktf_call"g"
 ktf_call"T";intro H' a E ha;ktf_call"g"
 exact hq _ _ E ⟨a,rfl,ha⟩
theorem abh(h0:0<=i)(h1:i<1000)(hk:1<=k)(hq:∀H' v,Ext H H'->VR H' v (.n i)->Q v H'):μ g k (.ref 262) [.int i 0] H Q X:=by
 refine μ.en (fT 11 rfl) rfl hk λ c o _=>?_
 ktf_call"g"
 refine mm.b (decide_eq_false (by omega)) ?_
 ktf_call"g"
 refine mm.b (decide_eq_false (by omega)) ?_
 ktf_call"g"
 ktf_call"T";intro H' a E ha;ktf_call"g"
 exact hq _ _ E ⟨a,rfl,ha⟩
theorem PT(M:MS H C s)(h1:s.st<20000)(h2:s.dp<44)(hk:1<=k)(hq:∀H',Fz H H'->MS H' C {s with st:=s.st+1}->Q .none H'):μ g k (.ref 621) [.ref C.m] H Q X:=by
 refine μ.en (fT 31 rfl) rfl hk λ c o _=>?_
 ktf_call"g"
 refine mm.mh M {s with st:=s.st+1} rfl rfl rfl rfl rfl λ H' F M'=>?_
 ktf_call"g"
 refine mm.b (decide_eq_false (by show ¬(s.st+1>20000);exact Int.not_lt.mpr (by assumption))) ?_
 ktf_call"g"
 refine mm.b (decide_eq_false (by show ¬(s.dp>=44);exact Int.not_le.mpr (by assumption))) ?_
 ktf_call"g"
 exact hq _ F M'
end
section
variable {k:Nat}
theorem abi(M:MS H C s)(hv:VR H v w)(hl:s.seen.length<2 ^ 19)(hk:1<=k)(hq:∀H',Fz H H'->Fb C.sn H H'->MS H' C {s with seen:=s.seen++[(iH,w)]}->Q .none H'):
  μ g k (.ref 469) [.ref C.wt,.ref C.m,.int iH 0,v] H Q X:=by
 refine μ.en (fT 24 rfl) rfl hk λ c o _=>?_
 have h1:=M.wt
 have h2:=M.wd
 obtain⟨vs,h3,h4⟩:=M.seen
 ktf_call"g"
 ktf_call"T";intro H₁ a E ha;ktf_call"g"
 have h5:=E _ _ h3
 refine μ.append h5 (by refine h4.len▸?_;exact jI (by assumption) (cK _ _)) ?_
 refine ag ((M.ext E).look h5 (v:=.ref a) (p:=(iH,w)) ⟨a,v,rfl,ha,hv.fz E.fz⟩ (h4.map λ _ _ z=>z.fz E.fz)) λ M' F=>?_
 ktf_call"g"
 exact hq _ (E.fz.trans F) (Fb.om E Fb.refl).me M'
theorem PU(M:MS H C s)(hv:VR H v w)(hl:s.seen.length<2 ^ 19)(hk:2<=k)(hq:∀H',Fz H H'->Fb C.sn H H'->MS H' C {s with seen:=s.seen++[(iH,w)]}->Q .none H'):
  μ g k (.ref 607) [.ref C.m,.int iH 0,v] H Q X:=by
 refine μ.en (fT 30 rfl) rfl hk λ c o _=>?_
 have h3:=M.wt
 have h4:=M.wd
 ktf_call"g"
 refine abi M hv hl (by ktf_call"k") λ H' F K M'=>?_
 ktf_call"g"
 exact hq _ F K M'
theorem PV(M:MS H C s)(hv:VR H v w)(hl:s.seen.length<2 ^ 19)(hk:2<=k)(hq:∀H',Fz H H'->MS H' C {s with seen:=s.seen++[(iH,w)]}->Q .none H'):
  μ g k (.ref 607) [.ref C.m,.int iH 0,v] H Q X:=PU M hv hl hk λ H' F _ M'=>hq H' F M'
theorem abj:cA=72:=by decide +kernel
theorem abk(hx:H x=some (.gW g.st none))(hq:∀d,H d=none->d≠x->Q .none (ξ (ξ H d (.ai false [(cA,v)])) x (.gW g.st (some d)))):cy g (k+1) (.ref 379) [.ref x,v] H Q X:=by
 refine cy.fn (fT 22 rfl) rfl λ sc env o mr=>?_
 refine S.cons (S1.aK rfl (V.θ rfl (V.θ rfl λ v' w' hv hw=>?_)))
 obtain rfl:=a8 hw
 have hi:cA<NT.length:=by exact abj▸(GC rfl)
 exact X_ (fI:=379) hx hi (λ h=>h.exc.2.1) λ d h1 h2=>by rw[hv];exact S.nil (hq d h1 h2)
theorem abl:ξ (ξ (ξ H x o) d p) x o'=ξ (ξ H d p) x o':=by
 funext b;unfold ξ;by_cases hb:b=x
 ·simp[hb]
 ·simp[hb]
theorem Hx(hX:X v H)(hk:3<=k):μ g k (.ref 593) [.ref x,v] H Q X:=by
 refine Θ (ks (by assumption)) λ j abm=>?_;subst abm
 refine Θ (⟨j-2,by omega⟩:∃i,j=i+2) λ j abn=>?_;subst abn
 refine μ.ok λ ok=>(cy.Ng (fT 28 rfl) rfl λ c h1 h2 h3 h4 h5 n ss hs A s hA=>?_).call
 refine cD (Yi (v:=v) (Q:=λ _ _ _=>False) (X:=λ v _ H'=>X v H') (fI:=379) hs h2 (λ h=>h.exc.2.1) ?_ A s hA) (λ _ _ ⟨_,_,_,_,f⟩=>f.elim) λ _ _ z=>z
 refine V.ca (f:=.ref 382) h2 rfl rfl (Vs.cons (V.θ rfl (Vs.nil ?_)))
 refine h1▸ok.st▸?_
 exact(cy.Gq (λ h=>h.exc.2.1) λ x hx=>abk ah λ d h6 h7=>⟨rfl,x,d,hx,(by rw[Γ h7]at h6;exact h6),h7,rfl,abl,hX⟩).call
end
section
variable {st:List Value}
structure kL(bE:AH)(x C d:Addr)(es:Lc)(H:AH):Prop where
 old:∀a o,bE a=some o->a≠d->H a=some o
 hx:bE x=some (.ins C d)
 hd:H d=some (.ai false es)
 ne:x≠d
theorem kL.ext(E:Ext H H')(I:kL bE x C d es H):kL bE x C d es H':=⟨λ a o e n=>E _ _ (I.old a o e n),I.hx,E _ _ I.hd,I.ne⟩
theorem kL.me(I:kL bE x C d es H):H x=some (.ins C d):=I.old _ _ I.hx I.ne
theorem mm.in(I:kL bE x C d es H)(ht:xZ es=true)(hc:g_ C i=true)(h:∀H',Fb d H H'->kL bE x C d (put i v es) H'->M g c Q X D st m H'):M g c Q X (.sa i::D) (.ref x::v::st) m H:=
 mm.sf I.me I.hd ht hc (h _ Fb.refl.me ⟨λ a o e n=>by refine(Γ n)▸?_;exact I.old a o e n,I.hx,ah,I.ne⟩)
theorem mm.dn(z:Bool)(h:∀H' a,Ext H H'->H a=none->H' a=some (.sd z [])->M g c Q X D (.ref a::st) m H'):M g c Q X (.v .gG::D) st m H:=mm.ds z λ a ha=>h _ a (Ext.new ha) ha ah
theorem mm.dj(z:Bool)(h:∀H' a,Ext H H'->H a=none->H' a=some (.bu z [])->M g c Q X D (.ref a::st) m H'):M g c Q X (.v .gG::D) st m H:=mm.di z λ a ha=>h _ a (Ext.new ha) ha ah
end
section
variable {k:Nat}
theorem cy.en(F:bw g->Fn g fa names body)(hlen:iT args.length names.length=true)(hk:n<=k)
  (h:∀c,Fc c n->c.k=k->M g c (RK Q) (XK X) [.ss body] [] (names.zip args) H):cy g (k+1) (.ref fa) args H Q X:=
 cy.fn F (xj hlen) λ sc env o hL=>S.ma (h _ ⟨o,rfl,hk⟩ rfl)
noncomputable def pD(n:Int)(lG:Value)(l sl ge se it:Addr):Lc:=[(21,.int n 0),(31,.int 3 0),(33,.ref l),(34,.ref sl),(35,.ref ge),(36,.ref se),(32,lG),(37,.ref it),(38,.none),(39,.int 0 0),(40,.int 0 0),(41,.int (-1) 0)]
structure eX(H:AH)(x d:Addr)(n:Int)(lG:Value)(l sl ge se it:Addr)(z:Bool)(names:List Value)(slots:List (Str×Value)):Prop where
 x:H x=some (.ins 195 d)
 d:H d=some (.ai z (pD n lG l sl ge se it))
 l:H l=some (.κ false names)
 sl:H sl=some (.sd false slots)
 ge:H ge=some (.sd true [])
 se:H se=some (.sd true [])
theorem Fb.h(F:Fb b H H')(hb:H b=some o')(h:H a=some o)(d:AO.iZ o o'=true):H' a=some o:=F _ _ h (cG h hb d)
theorem abo(h1:H x=some (.ins 195 d))(h2:H d=some (.ai false []))(hq:∀H' l sl ge se it,(∀a o,H a=some o->a≠d->H' a=some o)->eX H' x d n lG l sl ge se it false [] []->H l=none->Q .none H'):
  cy g (k+1) (.ref 192) [.ref x,.int n 0,.int 3 0,lG] H Q X:=by
 refine cy.en (fT 6 rfl) rfl (gj k) λ c o _=>?_
 have I:kL H x 195 d [] H:=⟨λ _ _ e _=>e,h1,h2,cG h1 h2 rfl⟩
 clear h1 h2
 ktf_call"g"
 refine mm.in I rfl rfl λ H₁ _ I=>?_
 ktf_call"g"
 refine mm.in I rfl rfl λ ο _ I=>?_
 ktf_call"g"
 ktf_call"lf"
 ktf_call"T";intro ω l bx nl hl;ktf_call"g"
 have Hy:H l=none:=by
  cases e:H l with
  |none=>rfl
  |some o=>rw[I.old l o e λ z=>by subst z;rw[I.hd]at nl;cases nl]at nl;exact nS nl
 refine mm.in (I.ext bx) rfl rfl λ ar cF Bm=>?_
 have hl:=cF.h (I.ext bx).hd hl rfl
 ktf_call"g"
 refine mm.dn false λ aV sl iL _ ib=>?_
 ktf_call"g"
 refine mm.in (Bm.ext iL) rfl rfl λ cU bT Hz=>?_
 have hl:=bT.h (Bm.ext iL).hd (iL _ _ hl) rfl
 have ib:=bT.h (Bm.ext iL).hd ib rfl
 ktf_call"g"
 refine mm.dn true λ gM ge i8 _ yr=>?_
 ktf_call"g"
 refine mm.in (Hz.ext i8) rfl rfl λ h_ pB HA=>?_
 have Y:=Hz.ext i8
 have hl:=pB.h Y.hd (i8 _ _ hl) rfl
 have ib:=pB.h Y.hd (i8 _ _ ib) rfl
 have yr:=pB.h Y.hd yr rfl
 ktf_call"g"
 refine mm.dn true λ mn se jO _ HB=>?_
 ktf_call"g"
 refine mm.in (HA.ext jO) rfl rfl λ fG sN PX=>?_
 have Y:=HA.ext jO
 have hl:=sN.h Y.hd (jO _ _ hl) rfl
 have ib:=sN.h Y.hd (jO _ _ ib) rfl
 have yr:=sN.h Y.hd (jO _ _ yr) rfl
 have HB:=sN.h Y.hd HB rfl
 clear Y bx iL i8 jO cF bT pB sN I Bm Hz HA nl
 ktf_call"g"
 refine mm.in PX rfl rfl λ jP sO PY=>?_
 have k11:∀{a:Addr}{o:AO},fG a=some o->AO.iZ o (.ai false [])=true->jP a=some o:=λ h d=>sO.h PX.hd h d
 ktf_call"g"
 ktf_call"lt"
 ktf_call"T";intro HC it pE _ hit;ktf_call"g"
 refine mm.in (PY.ext pE) rfl rfl λ sQ sR PZ=>?_
 have k13:∀{a:Addr}{o:AO},fG a=some o->AO.iZ o (.ai false [])=true->sQ a=some o:=λ h d=>sR.h (PY.ext pE).hd (pE _ _ (k11 h d)) d
 ktf_call"g"
 refine mm.in PZ rfl rfl λ yt gP P0=>?_
 ktf_call"g"
 refine mm.in P0 rfl rfl λ yu F15 P1=>?_
 ktf_call"g"
 refine mm.in P1 rfl rfl λ yv pF P2=>?_
 ktf_call"g"
 refine mm.in P2 rfl rfl λ Bn mv HE=>?_
 have Bo:∀{a:Addr}{o:AO},fG a=some o->AO.iZ o (.ai false [])=true->Bn a=some o:=λ h d=>mv.h P2.hd (pF.h P1.hd (F15.h P0.hd (gP.h PZ.hd (k13 h d) d) d) d) d
 ktf_call"g"
 exact hq Bn l sl ge se it HE.old ⟨HE.me,HE.hd,Bo hl rfl,Bo ib rfl,Bo yr rfl,Bo HB rfl⟩ Hy
end
section
variable {k:Nat}
theorem μ.abp(hl:H l=some (.κ false [.str x 0]))(q:Q .none (ξ H l (.κ false []))):μ g k (.builtin "list.remove") [.ref l,.str x 0] H Q E:=by
 intro A s raw aO hA
 refine dG (AU aO) λ a b abq ha hb=>?_;refine abq.symm▸?_
 obtain rfl:=a8 ha
 refine Θ (iU hb) λ t abr=>?_;refine abr.symm▸?_
 refine ψ (hA.sim _ _ hl) λ items P4 k2=>?_;refine Θ P4 λ n k1=>?_;clear P4
 obtain⟨dJ⟩:=items
 refine ψ (r8 (show dJ.map nv=[.str x 0]from k2)) λ w abt hw=>?_;subst abt
 refine Θ (iU hw) λ u abu=>?_;subst abu
 have sb:=lj s.heap l (mS λ xs=>xs.eraseIdxIfInBounds 0)
 refine call_meets F.slot_list_remove ⟨_,k1,rfl⟩ F.entry_list_remove (F.args_list_remove_2 _ _) (PySem.MeetsSeq.list_remove l ⟨[.str x u]⟩ n (.str x t) (λ _=>true) (λ y hy=>?_) 0 (by simp) rfl (λ _ _ h=>absurd h (EM _)) (by show 1<=2 ^ 24;decide)) ⟨k1,?_⟩
 ·have:y=.str x u:=by simpa using hy
  refine this.symm▸?_
  have:=ags x x u t
  rwa [beq_self_eq_true]at this
 have hm:mS (λ xs=>xs.eraseIdxIfInBounds 0) {cls:=.type "list",data:=.seq ⟨[.str x u]⟩ n}={cls:=.type "list",data:=.seq ⟨[]⟩ (n+1)}:=by simp[mS]
 refine⟨_,hA.chg (ao':=.κ false []) hl sb ⟨⟨[]⟩,⟨n+1,?_⟩,rfl⟩ s.toks,Go.chg hl rfl (λ _ z=>nomatch z) sb,q⟩
 rw[mO _ k1 (by rw[hm];rfl),hm]
theorem Ω.abv{x y:Str}{Q:Value->Lc->AH->Prop}(q:Q (.bool (!Txt.contains y x)) m H):Ω g c (cJ .NotIn) (.str x 0) (.str y 0) m H Q X:=Gd λ t u A s hA=>PySem.P.notIn_str ⟨m,H,hA,Go.refl,q⟩
end
section
variable {k:Nat}
structure MT(H:AH)(C:MC)(s:bI)(x d:Addr)(n:Int)(p:Value)(l sl ge se it:Addr)(names:List Value)(slots:List (Str×Value)):Prop extends MS H C s where
 th:eX H x d n p l sl ge se it true names slots
 o1:C.sn≠l
 o2:C.tl≠l
 o3:C.th≠l
 last:∃vs,H C.th=some (.κ false (vs++[.ref x]))/\(vs.length:Int)=n
theorem eX.cW{x d:Addr}{n:Int}{p:Value}{l sl ge se it:Addr}(T:eX H x d n p l sl ge se it false names slots):eX (ξ H d (.ai true (pD n p l sl ge se it))) x d n p l sl ge se it true names slots:=
 have k:∀{a:Addr}{o:AO},H a=some o->AO.iZ o (.ai false [])=true->ξ H d (.ai true (pD n p l sl ge se it)) a=some o:=λ h z=>by rw[Γ (cG h T.d z)];exact h
 ⟨k T.x rfl,ah,k T.l rfl,k T.sl rfl,k T.ge rfl,k T.se rfl⟩
theorem MS.dct(x:MS H C s)(h:H d=some (.ai false es))(n:C.d≠d):MS (ξ H d (.ai true es')) C s:=by
 refine Θ x.seen.get λ _ l1=>?_
 refine Θ x.aj.get λ _ l2=>?_
 refine ψ x.jT λ _ l3 _=>?_
 exact x.of (Fz.set h rfl) (Γ n) (Γ (cG l1 h rfl)) (Γ (cG l2 h rfl)) (Γ (cG l3 h rfl))
theorem MS.things(x:MS H C s)(h:H C.th=some (.κ false vs))(hn:vs.length=s.bA):MS (ξ H C.th (.κ false (vs++[v]))) C {s with bA:=s.bA+1}/\Fz H (ξ H C.th (.κ false (vs++[v]))):=by
 have F:Fz H (ξ H C.th (.κ false (vs++[v]))):=Fz.set h rfl
 refine⟨{toMF:=x.toMF.fz F,dd:=?_,seen:=x.seen.fz (λ F z=>z.fz F) F (Γ x.n2),aj:=x.aj.fz (λ F z=>z.fz F) F (Γ x.n3),jT:=⟨_,ah,by rw[iK,hn];rfl⟩,n1:=x.n1,n2:=x.n2,n3:=x.n3},F⟩
 rw[Γ (cG x.dd h rfl)];exact x.dd
theorem mm.gh{g:Gv}{c:Cx}{Q:bJ->Lc->AH->Prop}{X:Value->Lc->AH->Prop}{D:List It}{l:List PS}{st:List Value}(G:Gh g H H')(h:M g c Q X (.ss l::D) st m H'):M g c Q X (.ss l::D) st m H:=S.pre G h
theorem abw(M:MS H C s)(hn:s.bA<100000)(hk:3<=k)(hq:∀H' x d p l sl ge se it,Fz H H'->MT H' C {s with bA:=s.bA+1} x d s.bA p l sl ge se it [] []->Q (.ref x) H'):μ g k (.ref 269) [.ref C.hp,.int 3 0,lG] H Q X:=by
 refine μ.en (fT 12 rfl) rfl hk λ c o ek=>?_
 have h1:=M.hp
 have h2:=M.hd
 refine ψ M.jT λ vs h3 h4=>?_
 ktf_call"g"
 refine μ.len_list h3 (by exact aH (aT hn (aU h4)) (by simp +arith)) ?_
 ktf_call"g"
 refine Θ (l_ o.le) λ j ej=>?_
 rw[ej]
 refine μ.mk (C:=195) rfl λ x d hx hd gd=>abo ah (cu ah (kE gd hx)) λ H' l sl ge se it K T nl=>⟨rfl,?_⟩
 have E:Ext H H':=λ a o e=>K _ _ (cu (cu e hd) (kE gd hx)) (λ z=>by subst z;rw[hd]at e;exact nN e)
 have M1:MS H' C s:=M.ext E
 have Hy:H l=none:=by
  cases e:H l with
  |none=>rfl
  |some o=>rw[cu (cu e hd) (kE gd hx)]at nl;exact nS nl
 have ne:∀{b:Addr}{o:AO},H b=some o->b≠l:=λ hb z=>by rw[z,Hy]at hb;exact nN hb
 have pG:=E _ _ h3
 have nd:C.d≠d:=λ z=>by rw[<- z,M.dd]at hd;exact nS hd
 clear K hx hd h1 h2 nl
 rw[h4]at T
 refine mm.aP o 1 rfl ?_
 refine mm.gh (Gh.ff (z:=true) T.d) ?_
 have F2:Fz H' (ξ H' d (.ai true (pD s.bA lG l sl ge se it))):=Fz.set T.d rfl
 have M2:=M1.dct (es':=pD s.bA lG l sl ge se it) T.d nd
 have h5:ξ H' d (.ai true (pD s.bA lG l sl ge se it)) C.th=some (.κ false vs):=by rw[Γ (cG pG T.d rfl)];exact pG
 have T:=T.cW
 generalize ξ H' d (.ai true (pD s.bA lG l sl ge se it))=ο at F2 M2 h5 T⊢
 have k1:=M2.hp
 have k2:=M2.hd
 ktf_call"g"
 refine μ.append h5 (by exact aH (aT hn (aU h4)) (by simp +arith)) ?_
 refine ag (M2.things (v:=.ref x) h5 h4) λ M3 F3=>?_
 ktf_call"g"
 obtain⟨_,o1,_⟩:=M.seen
 obtain⟨_,o2,_⟩:=M.aj
 have q:∀{b:Addr}{o:AO},ο b=some o->AO.iZ o (.κ false [])=true->ξ ο C.th (.κ false (vs++[.ref x])) b=some o:=λ h z=>by rw[Γ (cG h h5 z)];exact h
 exact hq _ x d lG l sl ge se it ((E.fz.trans F2).trans F3) ⟨M3,⟨q T.x rfl,q T.d rfl,by rw[Γ (cP (ne h3))];exact T.l,q T.sl rfl,q T.ge rfl,q T.se rfl⟩,ne o1,ne o2,ne h3,vs,ah,by rw[h4]⟩
end
section
variable {k:Nat}
noncomputable def jU:Str:=⟨⟨[109,101,115,115,97,103,101]⟩⟩
section
variable {x d:Addr}{n:Int}{l sl ge se it:Addr}
theorem eX.fd(T:eX H x d n p l sl ge se it z names slots)(h:(pD n p l sl ge se it).lookup i=some u)(hc:g_ 195 i=true)(hd:cT u=true):Fd H (.ref x) i u:=⟨λ _ _ _ _ _ q=>c_.fl T.x T.d h hc hd q⟩
theorem MT.P5(T:MT H C s x d n p l sl ge se it names slots)(hn:n<100000):jL H (.ref C.th) (.int n 0) (.ref x):=by
 refine ψ T.last λ vs h3 h4=>?_
 exact⟨λ _ _ _ _ _ q=>cq.list h3 (by omega) (by omega) (by rw[<- h4];simp) q⟩
end
variable {n:Int}
theorem abx(T:eX H x d n p l sl ge se it true [] [])(hk:1<=k)(hq:Q (.bool false) H):μ g k (.ref 297) [.ref x,.str nm 0] H Q X:=by
 refine μ.en (fT 15 rfl) rfl hk λ c o _=>?_
 refine mm.aP o 3 rfl ?_
 refine mm.o3 (λ Q X R hR=>?_) (λ Q X R hR=>?_) (v:=.bool false) (λ Q X R hR=>?_) ?_
 ·ktf_call"g"
  refine mm.oc (Ω.vl T.sl ?_)
  ktf_call"g"
  exact hR
 ·ktf_call"g"
  refine mm.oc (Ω.vl T.ge ?_)
  ktf_call"g"
  exact hR
 ·ktf_call"g"
  refine mm.oc (Ω.vl T.se ?_)
  ktf_call"g"
  exact hR
 ·ktf_call"g"
  exact hq
theorem eX.h(h:H a=some o)(hb:H b=some o2)(d:AO.iZ o o2=true):ξ H b o' a=some o:=by rw[Γ (cG h hb d)];exact h
theorem aby(T:MT H C s x d n p l sl ge se it [] [])(hn:n<100000)(hk:3<=k)(hq:∀H',Fz H H'->MT H' C s x d n p l sl ge se it [.str jU 0] [(jU,v)]->Q .none H'):
  μ g k (.ref 332) [.ref C.hp,.int n 0,.str jU 0,v] H Q X:=by
 refine μ.en (fT 17 rfl) rfl hk λ c o _=>?_
 have h1:=T.hp
 have h2:=T.hd
 have g3:=T.P5 hn
 have th:=T.th
 ktf_call"g"
 refine abx th (by ktf_call"k") ?_
 ktf_call"g"
 refine mm.la th.l ?_
 ktf_call"g"
 have t3:=th.l
 refine μ.append t3 (by decide) ?_
 have F1:Fz H (ξ H l (.κ false ([]++[.str jU 0]))):=Fz.set t3 rfl
 have M1:MS (ξ H l (.κ false ([]++[.str jU 0]))) C s:=T.toMS.of F1 (Γ (cG T.dd t3 rfl)) (Γ T.o1) (Γ T.o2) (Γ T.o3)
 have T1:eX (ξ H l (.κ false ([]++[.str jU 0]))) x d n p l sl ge se it true [.str jU 0] []:=⟨eX.h th.x t3 rfl,eX.h th.d t3 rfl,ah,eX.h th.sl t3 rfl,eX.h th.ge t3 rfl,eX.h th.se t3 rfl⟩
 have l1:∃vs,ξ H l (.κ false ([]++[.str jU 0])) C.th=some (.κ false (vs++[.ref x]))/\(vs.length:Int)=n:=ψ (T.last) λ vs a b=>⟨vs,by rw[Γ T.o3];exact a,b⟩
 clear g3 th h1 h2 t3
 generalize ξ H l (.κ false ([]++[.str jU 0]))=H₁ at F1 M1 T1 l1⊢
 ktf_call"g"
 refine mm.oc (Ω.vl T1.ge ?_)
 ktf_call"g"
 refine mm.oc (Ω.vl T1.se ?_)
 ktf_call"g"
 refine mm.si (dK.sd T1.sl (by decide) ?_)
 ktf_call"g"
 have F2:Fz H₁ (ξ H₁ sl (.sd false (js jU v []))):=Fz.set T1.sl rfl
 exact hq _ (F1.trans F2) ⟨M1.jM T1.sl rfl rfl rfl,⟨eX.h T1.x T1.sl rfl,eX.h T1.d T1.sl rfl,eX.h T1.l T1.sl rfl,ah,eX.h T1.ge T1.sl rfl,eX.h T1.se T1.sl rfl⟩,T.o1,T.o2,T.o3,ψ (l1) λ vs a b=>⟨vs,eX.h a T1.sl rfl,b⟩⟩
theorem abz(T:MT H C s x d n p l sl ge se it [.str jU 0] slots)(hn:n<100000)(hk:1<=k)(hq:∀H',Fz H H'->MS H' C s->Q .none H'):
  μ g k (.ref 339) [.ref C.hp,.int n 0,.str jU 0] H Q X:=by
 refine μ.en (fT 18 rfl) rfl hk λ c o _=>?_
 have h1:=T.hp
 have h2:=T.hd
 have g3:=T.P5 hn
 have th:=T.th
 have t3:=th.l
 ktf_call"g"
 refine mm.oc (Ω.inl (xs:=[.str jU]) (d:=.str jU) ⟨l,false,_,rfl,t3,rfl,trivial⟩ rfl (by decide +kernel) (by decide +kernel) (by decide +kernel) ?_)
 ktf_call"g"
 refine mm.ml PySem.F.slot_list_remove PySem.F.type_list_remove t3 ?_
 ktf_call"g"
 refine μ.abp t3 ?_
 ktf_call"g"
 have F1:Fz H (ξ H l (.κ false [])):=Fz.set t3 rfl
 exact hq _ F1 (T.toMS.of F1 (Γ (cG T.dd t3 rfl)) (Γ T.o1) (Γ T.o2) (Γ T.o3))
theorem MT.ext(E:Ext H H')(T:MT H C s x d n p l sl ge se it names slots):MT H' C s x d n p l sl ge se it names slots:=
 ⟨T.toMS.ext E,⟨E _ _ T.th.x,E _ _ T.th.d,E _ _ T.th.l,E _ _ T.th.sl,E _ _ T.th.ge,E _ _ T.th.se⟩,T.o1,T.o2,T.o3,ψ (T.last) λ vs a b=>⟨vs,E _ _ a,b⟩⟩
theorem abA(M:MS H C s)(hn:s.bA<99000)(hk:5<=k)(hq:∀H' v,Fz H H'->MS H' C {s with bA:=s.bA+1}->VR H' v (.o s.bA)->Q v H'):
  μ g k (.ref 365) [.ref C.hp,lG,.str msg 0] H Q X:=by
 refine μ.en (fT 21 rfl) rfl hk λ c o _=>?_
 ktf_call"g"
 have P6:(s.bA:Int)<100000:=by omega
 refine abw M (by exact aZ (by assumption) (by decide)) (by ktf_call"k") λ H₁ x d p l sl ge se it bN P7=>?_
 have t1:=P7.th
 ktf_call"g"
 ktf_call"T";intro ο a a9 ha;ktf_call"g"
 refine aby (P7.ext a9) P6 (by ktf_call"k") λ ω hY P8=>?_
 have t3:=P8.th
 ktf_call"g"
 refine abz P8 P6 (by ktf_call"k") λ ar cF ie=>?_
 have t4:=cF _ _ t3.x rfl
 have t5:=cF _ _ t3.d rfl
 ktf_call"g"
 ktf_call"T";intro aV b iL hb;ktf_call"g"
 exact hq _ _ ((((bN.trans a9.fz).trans hY).trans cF).trans iL.fz) (ie.ext iL) ⟨b,rfl,hb⟩
theorem abB(M:MS H C s)(hn:s.bA<99000)(hl:s.aj.length<99000)(hk:7<=k)
  (hX:∀H' v,Fz H H'->MS H' C {s with aj:=s.aj++[iH],bA:=s.bA+1}->VR H' v (.o s.bA)->X v H'):μ g k (.ref 642) [.ref C.m,.int 4 0,.int iH 0,.str msg 0] H Q X:=by
 refine μ.en (fT 34 rfl) rfl hk λ c o _=>?_
 obtain⟨vs,h3,h4⟩:=M.aj
 ktf_call"g"
 ktf_call"T";intro H₁ a aJ ha;ktf_call"g"
 have M0:=M.ext aJ
 have h5:=aJ _ _ h3
 refine μ.append h5 (by rw[h4.len];exact aZ (by assumption) (by decide)) ?_
 refine ag (M0.tell (v:=.ref a) h5 ⟨a,rfl,ha⟩ (h4.map λ _ _ z=>z.fz aJ.fz)) λ M1 F1=>?_
 generalize ξ H₁ C.tl (.κ false (vs++[.ref a]))=ο at F1 M1⊢
 have hp:=M1.pr
 ktf_call"g"
 refine abA M1 hn (by ktf_call"k") λ ο v dB oC r=>?_
 ktf_call"g"
 exact Hx (hX _ _ ((aJ.fz.trans F1).trans dB) oC r) (by ktf_call"k")
theorem P9(M:MS H C s)(hn:s.bA<99000)(hl:s.aj.length<99000)(hk:8<=k)
  (hX:∀H' v,Fz H H'->MS H' C {s with aj:=s.aj++[iH],bA:=s.bA+1}->VR H' v (.o s.bA)->X v H'):μ g k (.ref 600) [.ref C.m,.int 4 0,.int iH 0,.str msg 0] H Q X:=by
 refine μ.en (fT 29 rfl) rfl hk λ c o _=>?_
 ktf_call"g"
 exact abB M hn hl (by ktf_call"k") hX
end
section
variable {k:Nat}
theorem a_.dat(h:a_ H v E n):cT v=true:=by cases h <;> rfl
theorem abC(M:MS H C s)(hE:a_ H s.env E n)(hk:1<=k)(hn:gN nm E=none->Q .none H)
  (hs:∀v l a w st,gN nm E = some (v,l)->H a = some (.κ true [w,.int st 0])->VR H w v->l = (st != 0)->Q (.ref a) H):μ g k (.ref 786) [.ref C.m,.str nm 0] H Q X:=by
 refine μ.en (fT 39 rfl) rfl hk λ c o _=>?_
 have pA:cT s.env=true:=hE.dat
 ktf_call"g"
 refine mm.wl o (I:=λ j m' H'=>∃v E',m'=[(94,.ref C.m),(62,.str nm 0),(104,v)]/\H'=H/\a_ H v E' j/\gN nm E'=gN nm E) (n:=n) (by exact⟨rfl,rfl,rfl,trivial⟩) ⟨s.env,E,rfl,rfl,hE,rfl⟩ ?_
 intro j _ _ P_;refine Eh P_ λ v E' FL FO ju hf=>?_;clear P_;refine FL.symm▸?_;refine FO.symm▸?_
 ktf_call"g"
 cases ju with
 |nil=>
  ktf_call"g"
  exact hn hf.symm
 | @sc x d cd up cells cs E'' j' e1 e2 e3 e4 e5=>
  have hdu:cT up=true:=e5.dat
  ktf_call"g"
  refine mm.oc (Ω.vl e3 ?_)
  have key:=abe (n:=nm) e4
  rw[abd]at hf
  generalize gN nm cs=fc at key hf
  cases key with
  |no e=>
   rw[e]
   ktf_call"g"
   exact⟨j',_,lu _,by exact⟨rfl,rfl,rfl,trivial⟩,up,E'',rfl,rfl,e5,hf⟩
  | @so v l a w st e k2 k3 k4=>
   rw[e]
   ktf_call"g"
   refine mm.sg (cq.sd e3 e ?_)
   ktf_call"g"
   exact hs v l a w st hf.symm k2 k3 k4
noncomputable def rd(E:Ev)(n:Str):Option SV:=match gN n E with
 |some (v,true)=>some v
 |_=>none
def okN(n:Str):Prop:=n=gf\/n=bC\/n=cf\/n=cE
theorem okN.len(h:okN n):n.length<=2/\(n.cps.toList==[78,97,78])=false:=by
 rcases h with rfl |rfl |rfl |rfl <;> exact⟨by decide,by decide⟩
theorem abD(M:MS H C s)(hE:a_ H s.env E n)(yw:okN nm)(ht:s.bA<99000)(hl:s.aj.length<99000)(hk:9<=k)
  (hq:∀w v,rd E nm=some v->VR H w v->Q w H)
  (hX:∀H' v,rd E nm=none->Fz H H'->MS H' C {s with aj:=s.aj++[iH],bA:=s.bA+1}->VR H' v (.o s.bA)->X v H'):μ g k (.ref 793) [.ref C.m,.str nm 0,.int iH 0] H Q X:=by
 refine ag yw.len λ l1 l2=>?_
 refine μ.en (fT 40 rfl) rfl hk λ c o _=>?_
 ktf_call"g"
 refine abC M hE (by ktf_call"k") (λ e=>?_) λ v l a w st e ha hw mY=>?_
 ·ktf_call"g"
  refine mm.b l2 ?_
  ktf_call"g"
  refine mm.ob (Ω.adds (by show _+13<=1000;exact aH l1 (by simp +arith only)) ?_)
  ktf_call"g"
  exact P9 M ht hl (by ktf_call"k") λ H' v F M' r=>hX H' v (by unfold rd;exact e▸rfl) F M' r
 ·ktf_call"g"
  by_cases iY:st=0
  ·subst iY
   ktf_call"g"
   refine mm.ob (Ω.adds (by show _+31<=1000;exact aH l1 (by simp +arith only)) ?_)
   ktf_call"g"
   exact P9 M ht hl (by ktf_call"k") λ H' v F M' r=>hX H' v (by unfold rd;exact e▸mY▸rfl) F M' r
  ·refine mm.b (beq_eq_false_iff_ne.mpr iY) ?_
   ktf_call"g"
   exact hq w v (by unfold rd;exact e▸mY▸(bne_iff_ne.mpr iY)▸rfl) hw
theorem abE(np:NP (some ν) H v x 8 (.str nm 0) [])(hk:3<=k)(hq:∀H' a d,Ext H H'->H' a=some (.ins 831 d)->H' d=some (.ai true [(62,.str nm 0)])->Q (.ref a) H'):
  μ g k (.ref 847) [sf,m2,v] H Q X:=by
 refine μ.en (fT 43 rfl) rfl hk λ c o _=>?_
 ktf_call"g"
 refine Θ (l_ o.le) λ j ej=>?_
 refine ej▸?_
 refine μ.mk (C:=831) rfl λ y d' hy hd jV=>?_
 refine cy.en (fT 41 rfl) rfl (gj _) λ c o _=>?_
 have I:kL (ξ (ξ H d' (.ai false [])) y (.ins 831 d')) y 831 d' [] (ξ (ξ H d' (.ai false [])) y (.ins 831 d')):=⟨λ _ _ e _=>e,ah,cu ah (kE jV hy),jV⟩
 ktf_call"g"
 refine Mine.mm.in I rfl rfl λ ο _ I=>?_
 refine Mine.mm.aP o 0 rfl ?_
 refine Mine.mm.gh (l:=[]) (Gh.ff (z:=true) I.hd) ?_
 ktf_call"g"
 refine⟨rfl,hq _ y d' (λ a ob e=>?_) (by refine(Γ jV)▸?_;exact I.me) ah⟩
 have ne:a≠d':=λ z=>by subst z;rw[hd]at e;exact nN e
 refine(Γ ne)▸?_
 exact I.old a ob (cu (cu e hd) (kE jV hy)) ne
theorem abF(ha:H a=some (.ins 831 d))(hd:H d=some (.ai true [(62,.str nm 0)]))(M:MS H C s)(hE:a_ H s.env E n)(yw:okN nm)(ht:s.bA<99000)(hl:s.aj.length<99000)(hk:10<=k)
  (hq:∀w v,rd E nm=some v->VR H w v->Q w H)
  (hX:∀H' v,rd E nm=none->Fz H H'->MS H' C {s with aj:=s.aj++[iH],bA:=s.bA+1}->VR H' v (.o s.bA)->X v H'):μ g k (.ref 821) [.ref a,.ref C.m,.int iH 0] H Q X:=by
 refine μ.en (fT 42 rfl) rfl hk λ c o _=>?_
 ktf_call"g"
 exact abD M hE yw ht hl (by ktf_call"k") hq hX
theorem abG(hsf:RI H sf 857)(np:NP (some ν) H v x 8 (.str nm 0) [])(M:MS H C s)(hE:a_ H s.env E n)(yw:okN nm)(ht:s.bA<99000)(hl:s.aj.length<99000)(hk:11<=k)
  (hq:∀H' w u,Ext H H'->rd E nm=some u->VR H' w u->Q w H')
  (hX:∀H' w,rd E nm=none->Fz H H'->MS H' C {s with aj:=s.aj++[ν x],bA:=s.bA+1}->VR H' w (.o s.bA)->X w H'):μ g k (.ref 698) [sf,.ref C.m,v] H Q X:=by
 refine μ.en (fT 35 rfl) rfl hk λ c o _=>?_
 ktf_call"g"
 refine abE np (by ktf_call"k") λ H₁ a d' aJ a1 a2=>?_
 ktf_call"g"
 exact abF a1 a2 (M.ext aJ) (hE.fz aJ.fz) yw ht hl (by ktf_call"k") (λ w v e r=>hq _ w v aJ e r) λ H' w e F M' r=>hX _ w e (aJ.fz.trans F) M' r
theorem abH(np:NP (some ν) H v x 2 (.str t 0) [])(hk:2<=k)(hq:∀H' w,Ext H H'->VR H' w (.s t)->Q w H'):μ g k (.ref 717) [sf,m2,v] H Q X:=by
 refine μ.en (fT 36 rfl) rfl hk λ c o _=>?_
 ktf_call"g"
 exact Hw (by ktf_call"k") hq
theorem abI(h0:0<=i)(h1:i<1000)(np:NP (some ν) H v x 1 (.int i 0) [])(hk:2<=k)(hq:∀H' w,Ext H H'->VR H' w (.n i)->Q w H'):μ g k (.ref 736) [sf,m2,v] H Q X:=by
 refine μ.en (fT 37 rfl) rfl hk λ c o _=>?_
 ktf_call"g"
 exact abh h0 h1 (by ktf_call"k") hq
theorem Qa(sS:kind=4\/kind=5)(np:NP (some ν) H v x kind a [])(hk:2<=k)(hq:∀H' w,Ext H H'->VR H' w (.b (if kind=4 then 1 else 0))->Q w H'):μ g k (.ref 755) [sf,m2,v] H Q X:=by
 refine μ.en (fT 38 rfl) rfl hk λ c o _=>?_
 rcases sS with rfl |rfl
 ·ktf_call"g"
  ktf_call"T";intro H' b E hb;ktf_call"g"
  exact hq _ _ E ⟨b,rfl,hb⟩
 ·ktf_call"g"
  ktf_call"T";intro H' b E hb;ktf_call"g"
  exact hq _ _ E ⟨b,rfl,hb⟩
end
structure Sg where
 seen:List (Int×SV)
 aj:List Int
set_option genCtorIdx true in
inductive Ot where
 |χ |ret (v:SV)|brk (l:Str)|cnt (l:Str)|aw (v:SV)
noncomputable def bI.sg(s:bI):Sg:=⟨s.seen,s.aj⟩
noncomputable def dm(ν:Addr->Int)(E:Ev)(e:Ex)(σ:Sg):Except SV SV×Sg:=match e with
 | .dA n x=>match rd E n with
  |some v=>(.ok v,{σ with seen:=σ.seen++[(ν x,v)]})
  |none=>(.error (.o σ.aj.length),{σ with aj:=σ.aj++[ν x]})
 | .str t=>(.ok (.s t),σ)
 | .num i=>(.ok (.n i),σ)
 | .cM=>(.ok (.b 1),σ)
theorem HG(h:rd E n=some v):dm ν E (.dA n x) σ=(.ok v,{σ with seen:=σ.seen++[(ν x,v)]}):=by
 show(match rd E n with|some v=>_ |none=>_)=_
 rw[h]
theorem yx(h:rd E n=none):dm ν E (.dA n x) σ=(.error (.o σ.aj.length),{σ with aj:=σ.aj++[ν x]}):=by
 show(match rd E n with|some v=>_ |none=>_)=_
 rw[h]
structure Af(H:AH)(C:MC)(s:bI)(B:Nat)(H':AH)(s':bI):Prop where
 fz:Fz H H'
 ms:MS H' C s'
 env:s'.env=s.env
 dp:s'.dp=s.dp
 bd:Bd s' B
theorem Bp(h:ae.dp=d+1):put 101 (.int (ae.dp-1) 0) (gO C ae)=gO C {ae with dp:=d}:=by
 rw[show ae.dp-1=d by omega];rfl
structure Vd(H:AH)(C:MC)(d:Int)(ο:AH)(ae:bI):Prop where
 fz:Fz H ο
 ms:MS ο C ae
 dp:ae.dp=d+1
 len:ae.seen.length<2 ^ 19
noncomputable def Bq(kind:Int)(n:Int)(u:SV)(s:bI):bI:=if(kind==8)=true then{s with seen:=s.seen++[(n,u)]}else s
section
variable {k:Nat}
theorem Qb(np:NP (some ν) H v x kind a kv)(hr:(kind,Cc)∈yq)(HH:(kind==18)=false)(hm:iD Cc 72=some f)(M:MS H C s)(h1:s.st<20000)(h2:s.dp<44)(jW:kk+1<=k)(hk:4<=k)
  (hc:∀H₁ sf,Fz H H₁->MS H₁ C {s with st:=s.st+1,dp:=s.dp+1}->RI H₁ sf Cc->μ g kk (.ref f) [sf,.ref C.m,v] H₁
   (λ w ο=>∃ae u,Vd H C s.dp ο ae/\VR ο w u/\∀ω,Fz H ω->VR ω w u->MS ω C (Bq kind (ν x) u {ae with dp:=s.dp})->Q w ω)
   (λ w ο=>∃ae u,Vd H C s.dp ο ae/\VR ο w u/\∀ω,Fz H ω->VR ω w u->MS ω C {ae with dp:=s.dp}->X w ω)):μ g k (.ref 628) [.ref C.m,v] H Q X:=by
 refine μ.en (fT 32 rfl) rfl hk λ c o ek=>?_
 obtain⟨es,t1,t2⟩:=M.ex
 refine ψ (t2 _ hr) λ sf t3 t4=>?_
 ktf_call"g"
 rw[t3,Br]
 refine mm.b t4.ne ?_
 ktf_call"g"
 refine PT M h1 h2 (by ktf_call"k") λ H₁ bN iM=>?_
 ktf_call"g"
 refine mm.mh iM {s with st:=s.st+1,dp:=s.dp+1} rfl rfl rfl rfl rfl λ ο dB oC=>?_
 have fu:=bN.trans dB
 have rs:=t4.fz fu
 ktf_call"g"
 refine μ.up (k:=kk) (by exact aH (aT jW (aU ek.symm)) (by simp +arith only)) (μ.mono (hc _ sf fu oC rs) (λ w ω abJ=>dG abJ λ ae u D r q=>?_) λ w ω abK=>dG abK λ ae u D r q=>?_)
 ·have jv:=D.ms
  ktf_call"g"
  refine mm.mh jv {ae with dp:=s.dp} (Bp D.dp) rfl rfl rfl rfl λ ar cF ie=>?_
  have sL:=np.fz (D.fz.trans cF)
  ktf_call"g"
  cases h8:kind==8 with
  |true=>
   have q:∀ω,Fz H ω->VR ω w u->MS ω C {ae with dp:=s.dp,seen:=ae.seen++[(ν x,u)]}->Q w ω:=λ _ a b d=>q _ a b (by unfold Bq;rw[if_pos h8];exact d)
   ktf_call"g"
   refine PV ie (r.fz cF) D.len (by ktf_call"k") λ aV dR mw=>?_
   ktf_call"g"
   exact q _ ((D.fz.trans cF).trans dR) ((r.fz cF).fz dR) mw
  |false=>
   have q:∀ω,Fz H ω->VR ω w u->MS ω C {ae with dp:=s.dp}->Q w ω:=λ _ a b d=>q _ a b (by unfold Bq;rw[if_neg (by rw[h8];exact lV)];exact d)
   ktf_call"g"
   refine mm.b HH ?_
   ktf_call"g"
   exact q _ (D.fz.trans cF) (r.fz cF) ie
 ·have jv:=D.ms
  ktf_call"g"
  refine mm.mh jv {ae with dp:=s.dp} (Bp D.dp) rfl rfl rfl rfl λ ar cF ie=>?_
  ktf_call"g"
  exact q _ (D.fz.trans cF) (r.fz cF) ie
end
section
variable {k:Nat}
def m7:Ex->Prop
 | .dA n _=>okN n
 | .str _=>True
 | .num i=>0<=i/\i<1000
 | .cM=>True
theorem WE.ok(h:WE e):m7 e:=by
 cases e with
 |dA n x=>exact h
 |str t=>trivial
 |num i=>rcases h with rfl |rfl <;> exact⟨by decide,by decide⟩
 |cM=>trivial
theorem eC.ok(h:eC (some e)):m7 e:=by
 cases e with
 |dA n x=>exact h.elim
 |str t=>trivial
 |num i=>have:i=1:=h;subst this;exact⟨by decide,by decide⟩
 |cM=>trivial
theorem Bd.sT(h:Bd s B)(d:Int)(env:Value):Bd {s with st:=s.st+1,dp:=d,env:=env} (B+1):=
 ⟨Int.add_le_add_right h.st 1,ji h.p0 (abL (by decide)),Am h.sn,Am h.tl,h.th⟩
theorem Bd.HI(h:Bd s B)(p:Int×SV):Bd {s with seen:=s.seen++[p]} (B+1):=
 ⟨ji h.st (Int.ofNat_le.mpr (gK B)),h.p0,by refine iK▸?_;exact kC h.sn,Am h.tl,h.th⟩
theorem Bd.tel(h:Bd s B)(p:Int):Bd {s with aj:=s.aj++[p],bA:=s.bA+1} (B+1):=
 ⟨ji h.st (Int.ofNat_le.mpr (gK B)),h.p0,Am h.sn,by rw[iK];exact kC h.tl,by show s.bA+1=_;rw[iK,h.th];rfl⟩
theorem Bd.same(h:Bd s B)(h1:s'.st=s.st)(h2:s'.seen=s.seen)(h3:s'.aj=s.aj)(h4:s'.bA=s.bA):Bd s' B:=
 ⟨h1▸h.st,h1▸h.p0,h2▸h.sn,h3▸h.tl,by refine h4▸h3▸?_;exact h.th⟩
theorem Bd.sl(h:Bd s B)(k:B+n<=20000):s.seen.length<2 ^ 18:=by have:=h.sn;exact aH (aT k this) (by simp +arith)
theorem Bd.tl9(h:Bd s B)(k:B+n<=20000):s.aj.length<99000:=by have:=h.tl;exact aH (aT k this) (by simp +arith only)
theorem Bd.lt(h:Bd s B)(k:B+3<=20000):s.st<20000:=by have:=h.st;omega
theorem Bt(h:n<2 ^ 18):n<2 ^ 19:=aZ h (by decide)
theorem Bu(np:NP (some ν) H v x kind a kv)(hr:(kind,Cc)∈yq)(HH:(kind==18)=false)(h8:(kind==8)=false)(hm:iD Cc 72=some f)
  (hc:∀H₁ sf (Q X:Value->AH->Prop),Fz H H₁->(∀ο w,Ext H₁ ο->VR ο w u->Q w ο)->μ g 15 (.ref f) [sf,.ref C.m,v] H₁ Q X)
  (M:MS H C s) (hB:Bd s B) (aI:B+3<=20000) (aE:s.dp<44) (hk:16<=k)
  (hq:∀H' s' w,Af H C s (B+2) H' s'->s'.sg=s.sg->VR H' w u->Q w H'):μ g k (.ref 628) [.ref C.m,v] H Q X:=by
 refine Qb np hr HH hm M (hB.lt aI) aE hk (Ψ (by decide) hk) λ H₁ sf bN iM r=>hc H₁ sf _ _ bN λ ο w E q=>⟨_,u,⟨bN.trans E.fz,iM.ext E,rfl,Bt (hB.sl aI)⟩,q,λ ω hY yy jv=>?_⟩
 unfold Bq at jv
 rw[if_neg (by refine h8▸?_;exact lV)]at jv
 exact hq ω _ w ⟨hY,jv,rfl,rfl,(hB.sT s.dp s.env).mono (gK _)⟩ rfl yy
theorem abM(er:ER (some ν) H v e)(he:m7 e)(M:MS H C s)(hE:a_ H s.env E n)(hB:Bd s B)(aI:B+3<=20000)(aE:s.dp<44)(hk:16<=k)
  (hq:∀H' s' w u,Af H C s (B+2) H' s'->dm ν E e s.sg=(.ok u,s'.sg)->VR H' w u->Q w H')
  (hX:∀H' s' w u,Af H C s (B+2) H' s'->dm ν E e s.sg=(.error u,s'.sg)->VR H' w u->X w H'):μ g k (.ref 628) [.ref C.m,v] H Q X:=by
 cases e with
 |dA nm x=>
  have np:NP (some ν) H v x 8 (.str nm 0) []:=er
  have t9:=hB.tl9 aI
  refine Qb (Cc:=857) (f:=698) np (by decide) rfl rfl M (hB.lt aI) aE hk (Ψ (by decide) hk) λ H₁ sf bN iM r=>?_
  refine abG r (np.fz bN) iM (hE.fz bN) he (by show s.bA<_;refine hB.th▸?_;exact t9) t9 (by decide) (λ ο w u a9 e q=>?_) λ ο w e dB oC q=>?_
  ·exact⟨_,u,⟨bN.trans a9.fz,iM.ext a9,rfl,Bt (hB.sl aI)⟩,q,λ ω hY yy jv=>hq ω _ w u ⟨hY,jv,rfl,rfl,(hB.sT s.dp s.env).HI _⟩ ((HG e).trans rfl) yy⟩
  ·refine⟨_,_,⟨bN.trans dB,oC,rfl,Bt (hB.sl aI)⟩,q,λ ω hY yy jv=>hX ω _ w _ ⟨hY,jv,rfl,rfl,(hB.sT s.dp s.env).tel (ν x)⟩ ((yx e).trans ?_) yy⟩
   show(Except.error (SV.o s.aj.length),(⟨s.seen,s.aj++[ν x]⟩:Sg))=(.error (.o s.bA),⟨s.seen,s.aj++[ν x]⟩)
   exact hB.th▸rfl
 |str t=>
  refine Θ er λ x np=>?_;clear er
  exact Bu (Cc:=720) (f:=717) np (by decide) rfl rfl rfl (λ H₁ sf Q X F q=>abH (np.fz F) (by decide) q) M hB aI aE hk λ H' s' w A e r=>hq _ _ _ _ A (by exact e▸rfl) r
 |num i=>
  refine Θ er λ x np=>?_;clear er
  exact Bu (Cc:=739) (f:=736) np (by decide) rfl rfl rfl (λ H₁ sf Q X F q=>abI he.1 he.2 (np.fz F) (by decide) q) M hB aI aE hk λ H' s' w A e r=>hq _ _ _ _ A (by exact e▸rfl) r
 |cM=>
  refine Θ er λ x np=>?_;clear er
  exact Bu (Cc:=758) (f:=755) np (by decide) rfl rfl rfl (λ H₁ sf Q X F q=>Qa (.inl rfl) (np.fz F) (by decide) q) M hB aI aE hk λ H' s' w A e r=>hq _ _ _ _ A (by exact e▸rfl) r
theorem abN(np:NP (some ν) H v x 5 (.str s_ 0) [])(M:MS H C s)(hB:Bd s B)(aI:B+3<=20000)(aE:s.dp<44)(hk:16<=k)
  (hq:∀H' s' w,Af H C s (B+2) H' s'->s'.sg=s.sg->VR H' w (.b 0)->Q w H'):μ g k (.ref 628) [.ref C.m,v] H Q X:=
 Bu (Cc:=758) (f:=755) np (by decide) rfl rfl rfl (λ H₁ sf Q X F q=>Qa (.inr rfl) (np.fz F) (by decide) q) M hB aI aE hk hq
theorem Qc(M:MS H C s)(hk:n+1<=k)(h:∀kk,n<=kk->μ g kk (.ref 628) [.ref C.m,v] H Q X):μ g k (.ref 572) [.ref C.m,v] H Q X:=by
 refine μ.en (fT 26 rfl) rfl hk λ c o _=>?_
 ktf_call"g"
 exact h c.k o.le
theorem sU(er:ER (some ν) H v e)(he:m7 e)(M:MS H C s)(hE:a_ H s.env E n)(hB:Bd s B)(aI:B+3<=20000)(aE:s.dp<44)(hk:17<=k)
  (hq:∀H' s' w u,Af H C s (B+2) H' s'->dm ν E e s.sg=(.ok u,s'.sg)->VR H' w u->Q w H')
  (hX:∀H' s' w u,Af H C s (B+2) H' s'->dm ν E e s.sg=(.error u,s'.sg)->VR H' w u->X w H'):μ g k (.ref 572) [.ref C.m,v] H Q X:=
 Qc M hk λ kk jW=>abM er he M hE hB aI aE jW hq hX
theorem abO(np:NP (some ν) H v x 5 (.str s_ 0) [])(M:MS H C s)(hB:Bd s B)(aI:B+3<=20000)(aE:s.dp<44)(hk:17<=k)
  (hq:∀H' s' w,Af H C s (B+2) H' s'->s'.sg=s.sg->VR H' w (.b 0)->Q w H'):μ g k (.ref 572) [.ref C.m,v] H Q X:=
 Qc M hk λ kk jW=>abN np M hB aI aE jW hq
noncomputable def cM:SV->Bool
 | .u=>false | .b z=>z != 0 | .n i=>i != 0 | .s x=>x.cps.toList != []| .o _=>true
theorem Qd(hv:VR H v w)(hk:1<=k)(hq:Q (.bool (cM w)) H):μ g k (.ref 351) [v] H Q X:=by
 refine μ.en (fT 19 rfl) rfl hk λ c o _=>?_
 ktf_call"g"
 cases w <;> (ktf_call"g";exact hq)
noncomputable def same(a b:SV):Bool:=match a,b with
 | .u,.u=>true | .b x,.b y=>x==y | .n x,.n y=>x==y | .s x,.s y=>x.cps.toList==y.cps.toList | .o x,.o y=>x==y
 |_,_=>false
theorem abP(hv:VR H v w)(d8:VR H v' w')(hk:1<=k)(hq:Q (.bool (same w w')) H):μ g k (.ref 358) [v,v'] H Q X:=by
 refine μ.en (fT 20 rfl) rfl hk λ c o _=>?_
 ktf_call"g"
 cases w <;> cases w' <;> (ktf_call"g";exact hq)
end
noncomputable def aA(f:St->Sg->Ot×Sg):List St->Sg->Ot×Sg
 | [],σ=>(.χ,σ)
 |s::r,σ=>match f s σ with
  | (.χ,bz)=>aA f r bz
  |p=>p
noncomputable def bB(l:Str)(L:List Str):Bool:=L.any λ x=>x==l
noncomputable def fH(L:List Str):Ot->Nat
 | .χ=>0
 | .ret _=>2
 | .brk l=>if(l.cps.toList != [])= true/\bB l L = false then 2 else 1
 | .cnt l=>if(l.cps.toList != [])= true/\bB l L = false then 2 else 0
 | .aw _=>2
noncomputable def c8(l:Str):List Str:=if l=s_ then[]else[l]
noncomputable def fw(l:Str)(p:Ot×Sg):Ot×Sg:=match p with
 | (.brk x,σ)=>if bB x (c8 l)=true then(.χ,σ)else(.brk x,σ)
 |p=>p
noncomputable def lp(L:List Str)(body:SV->Sg->Ot×Sg):List SV->Sg->Ot×Sg
 | [],σ=>(.χ,σ)
 |v::r,σ=>
  let p:=body v σ
  match fH L p.1 with
  |0=>lp L body r p.2
  |1=>(.χ,p.2)
  |_=>p
noncomputable def items(isOf:Bool)(t:Str):List SV:=if isOf=true then t.cps.toList.map λ c=>.s ⟨#[c]⟩else(rJ t.cps.size).map λ k:Nat=>.s (dy (toString (k:Int)))
noncomputable def eF:Ex->SV
 | .dA _ _=>.u | .str t=>.s t | .num i=>.n i | .cM=>.b 1
noncomputable def hit(v:SV):Option Ex->Bool
 |none=>false
 |some e=>same v (eF e)
noncomputable def eG(v:SV)(p1 p2:Option Ex):Nat:=if hit v p1=true then 0 else if hit v p2=true then 1 else if p2.isNone=true then 1 else if p1.isNone=true then 0 else 2
noncomputable def fJ(ν:Addr->Int)(E:Ev)(e:Ex)(σ:Sg)(f:SV->Sg->Ot×Sg):Ot×Sg:=match dm ν E e σ with
 | (.ok v,bz)=>f v bz
 | (.error u,bz)=>(.aw u,bz)
noncomputable def pH:Ot×Sg->Ot×Sg
 | (.brk l,σ)=>if(l.cps.toList==[])=true then(.χ,σ)else(.brk l,σ)
 |p=>p
noncomputable def mx(f:List St->Sg->Ot×Sg)(p:Ot×Sg):Option (List St)->Ot×Sg
 |none=>p
 |some b=>match f b p.2 with
  | (.χ,σ)=>(p.1,σ)
  |q=>q
noncomputable def vI(ν:Addr->Int)(f:Ev->List St->Sg->Ot×Sg)(E:Ev)(c:Option Addr×List St)(u:SV)(σ:Sg):Ot×Sg:=match c.1 with
 |some x=>f ((gf,u,true)::E) c.2 {σ with seen:=σ.seen++[(ν x,u)]}
 |none=>f E c.2 σ
noncomputable def jX(ν:Addr->Int)(f:Ev->List St->Sg->Ot×Sg)(E:Ev)(b:List St)(c:Option (Option Addr×List St))(σ:Sg):Ot×Sg:=match f E b σ,c with
 | (.aw u,bz),some c=>vI ν f E c u bz
 |p,_=>p
noncomputable def HJ(ν:Addr->Int)(f:Ev->St->Sg->Ot×Sg)(E:Ev):St->Sg->Ot×Sg
 | .ex e,σ=>fJ ν E e σ λ _ σ=>(.χ,σ)
 | .dN,σ=>(.ret .u,σ)
 | .ret e,σ=>fJ ν E e σ λ v σ=>(.ret v,σ)
 | .aw e,σ=>fJ ν E e σ λ v σ=>(.aw v,σ)
 | .brk l,σ=>(.brk l,σ)
 | .cnt l,σ=>(.cnt l,σ)
 | .dQ b c fi,σ=>mx (aA (f E)) (jX ν (λ E=>aA (f E)) E b c σ) fi
 | .hU l b,σ=>fw l (lp (c8 l) (λ _=>aA (f E) b) [.u] σ)
 | .gq l isOf x row b,σ=>match row with
  | .bad y=>(.aw (.o σ.aj.length),{σ with aj:=σ.aj++[ν y]})
  | .txt t=>fw l (lp (c8 l) (λ v σ=>aA (f ((bC,v,true)::E)) b {σ with seen:=σ.seen++[(ν x,v)]}) (items isOf t) σ)
 | .kK l b,σ=>fw l (aA (f E) b σ)
 | .sw e p1 s1 p2 s2,σ=>fJ ν E e σ λ v σ=>pH (aA (f E) ([s1,s2].drop (eG v p1 p2)) σ)
 | .iff e a b,σ=>fJ ν E e σ λ v σ=>if cM v=true then aA (f E) a σ else match b with|some s=>f E s σ |none=>(.χ,σ)
noncomputable def ev(ν:Addr->Int):Nat->Ev->St->Sg->Ot×Sg
 |0,_,_,σ=>(.χ,σ)
 |n+1,E,s,σ=>HJ ν (ev ν n) E s σ
inductive OR(H:AH)(w:Value):Ot->Prop
 |χ (e:w=.ref 906):OR H w .χ
 |ret {v:SV} (a:Addr) (x:Value) (e:w=.ref a) (h:H a=some (.φ [.int 1 0,x])) (r:VR H x v):OR H w (.ret v)
 |brk {l:Str} (a:Addr) (e:w=.ref a) (h:H a=some (.φ [.int 2 0,.str l 0])):OR H w (.brk l)
 |cnt {l:Str} (a:Addr) (e:w=.ref a) (h:H a=some (.φ [.int 3 0,.str l 0])):OR H w (.cnt l)
theorem OR.fz(F:Fz H H')(h:OR H w o):OR H' w o:=by
 cases h with
 |χ e=>exact .χ e
 |ret a x e h r=>exact .ret a x e (F _ _ h rfl) (r.fz F)
 |brk a e h=>exact .brk a e (F _ _ h rfl)
 |cnt a e h=>exact .cnt a e (F _ _ h rfl)
def bD(g:Gv)(k:Nat)(f:Value)(args:List Value)(H:AH)(C:MC)(s:bI)(B:Nat)(res:Ot×Sg):Prop:=
 ∀(Q X:Value->AH->Prop),(∀H' s' w o,Af H C s B H' s'->res=(o,s'.sg)->OR H' w o->Q w H')->(∀H' s' w u,Af H C s B H' s'->res=(.aw u,s'.sg)->VR H' w u->X w H')->μ g k f args H Q X
section
variable {k:Nat}
theorem bD.up(h:bD g k f args H C s B res)(hk:k<=k'):bD g k' f args H C s B res:=λ Q X a b=>μ.up hk (h Q X a b)
theorem abQ(h:(kind,Cc)∈lF):iD Cc 165=some 920:=
 (by decide:∀p∈lF,iD p.2 165=some 920) _ h
theorem Qe(np:NP (some ν) H v x kind a kv)(hr:(kind,Cc)∈lF)(hm:iD Cc 122=some f)(M:MS H C s)(hB:Bd s B)(h1:B+1<=20000)(h2:s.dp<44)(jW:kk+1<=k)(hk:4<=k)
  (hc:∀H₁ s₁ sf,Fz H H₁->MS H₁ C s₁->s₁.env=s.env->s₁.dp=s.dp+1->s₁.sg=s.sg->Bd s₁ (B+1)->RI H₁ sf Cc->bD g kk (.ref f) [sf,.ref C.m,v] H₁ C s₁ B' res):bD g k (.ref 635) [.ref C.m,v] H C s B' res:=by
 intro Q X hq hX
 have iY:s.st<20000:=by have:=hB.st;omega
 refine μ.en (fT 33 rfl) rfl hk λ c o ek=>?_
 obtain⟨es,t1,t2⟩:=M.sm
 refine ψ (t2 _ hr) λ sf t3 t4=>?_
 ktf_call"g"
 refine t3▸Br▸?_
 refine mm.b t4.ne ?_
 ktf_call"g"
 refine PT M iY h2 (by ktf_call"k") λ H₁ bN iM=>?_
 ktf_call"g"
 refine mm.mh iM {s with st:=s.st+1,dp:=s.dp+1} rfl rfl rfl rfl rfl λ ο dB oC=>?_
 have fu:=bN.trans dB
 have rs:=t4.fz fu
 clear iM bN dB t1 t2 t3 t4
 ktf_call"g"
 refine μ.up (k:=kk) (by exact aH (aT jW (aU ek.symm)) (by simp +arith only)) (hc _ _ sf fu oC rfl rfl rfl (hB.sT _ _) rs _ _ (λ ω bZ w ot A e r=>?_) λ ω bZ w u A e r=>?_)
 ·have jv:=A.ms
  ktf_call"g"
  refine mm.mh jv {bZ with dp:=s.dp} (Bp A.dp) rfl rfl rfl rfl λ ar cF ie=>?_
  ktf_call"g"
  exact hq _ _ w ot ⟨(fu.trans A.fz).trans cF,ie,A.env,rfl,A.bd.same rfl rfl rfl rfl⟩ e (r.fz cF)
 ·have jv:=A.ms
  ktf_call"g"
  refine mm.mh jv {bZ with dp:=s.dp} (Bp A.dp) rfl rfl rfl rfl λ ar cF ie=>?_
  ktf_call"g"
  exact hX _ _ w u ⟨(fu.trans A.fz).trans cF,ie,A.env,rfl,A.bd.same rfl rfl rfl rfl⟩ e (r.fz cF)
theorem Qg(M:MS H C s)(hk:n+1<=k)(h:∀kk,n<=kk->bD g kk (.ref 635) [.ref C.m,v] H C s B res):bD g k (.ref 579) [.ref C.m,v] H C s B res:=by
 intro Q X hq hX
 refine μ.en (fT 27 rfl) rfl hk λ c o _=>?_
 ktf_call"g"
 exact h c.k o.le _ _ hq hX
theorem Qh(hk:2<=k)(hq:∀H' x d cd,Ext H H'->H' x=some (.ins 237 d)->H' d=some (.ai true [(47,.ref cd),(46,up)])->H' cd=some (.sd false [])->H cd=none->Q (.ref x) H'):μ g k (.ref 237) [up] H Q X:=by
 refine Θ (l_ hk) λ j abR=>?_;subst abR
 refine μ.mk (C:=237) rfl λ y d' hy hd jV=>?_
 refine cy.en (fT 8 rfl) rfl (gj _) λ c o _=>?_
 have I:kL (ξ (ξ H d' (.ai false [])) y (.ins 237 d')) y 237 d' [] (ξ (ξ H d' (.ai false [])) y (.ins 237 d')):=⟨λ _ _ e _=>e,ah,cu ah (kE jV hy),jV⟩
 have old:∀{a:Addr}{o:AO},H a=some o->ξ (ξ H d' (.ai false [])) y (.ins 237 d') a=some o/\a≠d':=λ e=>⟨cu (cu e hd) (kE jV hy),λ z=>by subst z;rw[hd]at e;cases e⟩
 ktf_call"g"
 refine mm.dn false λ H₁ cd aJ Qi pI=>?_
 have n0:H cd=none:=by
  cases e:H cd with
  |none=>rfl
  |some o=>rw[(old e).1]at Qi;exact nS Qi
 ktf_call"g"
 refine mm.in (I.ext aJ) rfl rfl λ ο dB Qj=>?_
 have pI:=dB.h (I.ext aJ).hd pI rfl
 ktf_call"g"
 refine mm.in Qj rfl rfl λ ω hY Bv=>?_
 have pI:=hY.h Qj.hd pI rfl
 refine mm.gh (l:=[]) (Gh.ff (z:=true) Bv.hd) ?_
 ktf_call"g"
 exact⟨rfl,hq _ y d' cd (λ a o e=>by refine(Γ (old e).2)▸?_;exact Bv.old a o (old e).1 (old e).2) (by rw[Γ jV];exact Bv.me) ah (by rw[Γ (cG pI Bv.hd rfl)];exact pI) n0⟩
end
noncomputable def Ot.tg:Ot->Int
 | .χ=>0 | .ret _=>1 | .brk _=>2 | .cnt _=>3 | .aw _=>9
inductive Qk(H:AH)(w:Value)(o:Ot):Prop
 |mk (a:Addr) (jS:Value) (e:w=.ref a) (h:TA H a [.int o.tg 0,jS]) (k:∀l,o=.brk l\/o=.cnt l->jS=.str l 0):Qk H w o
theorem OR.ta(h:OR H w o):Qk H w o:=by
 cases h with
 |χ e=>exact⟨906,.ref 905,e,.inr (.inl ⟨rfl,rfl⟩),λ l h=>by rcases h with h |h <;> cases h⟩
 |ret a x e h r=>exact⟨a,x,e,.inl h,λ l h=>by rcases h with h |h <;> cases h⟩
 |brk a e h=>exact⟨a,_,e,.inl h,λ l' h=>by rcases h with h |h <;> cases h;rfl⟩
 |cnt a e h=>exact⟨a,_,e,.inl h,λ l' h=>by rcases h with h |h <;> cases h;rfl⟩
theorem OR.tg(h:OR H w o):jL H w (.int 0 0) (.int o.tg 0):=by
 obtain⟨a,jS,rfl,h1,_⟩:=h.ta
 exact jL.ta h1 rfl
theorem OR.pl(h:OR H w o)(k:o=.brk l\/o=.cnt l):jL H w (.int 1 0) (.str l 0):=by
 obtain⟨a,jS,rfl,h1,q⟩:=h.ta
 rw[q l k]at h1
 exact jL.ta h1 rfl
def Runs(g:Gv)(C:MC)(k:Nat)(H:AH)(env:Value)(dp:Int)(v:Value)(c:Nat)(F:Sg->Ot×Sg):Prop:=
 ∀H' s' B,Fz H H'->MS H' C s'->s'.env=env->s'.dp=dp->Bd s' B->B+c<=19990->bD g k (.ref 579) [.ref C.m,v] H' C s' (B+c) (F s'.sg)
inductive lH(ν:Addr->Int)(H:AH)(v:Value):Prop
 |mk (x:Addr) (kind:Int) (a:Value) (kv:List Value) (Cc:Addr) (h:NP (some ν) H v x kind a kv) (r:(kind,Cc)∈lF):lH ν H v
theorem lH.fz(F:Fz H H')(h:lH ν H v):lH ν H' v:=by cases h with|mk x kind a kv Cc h r=>exact⟨x,kind,a,kv,Cc,h.fz F,r⟩
theorem NP.is(h:NP (some ν) H v x kind a kv)(Cc:Addr)(r:(kind,Cc)∈lF):lH ν H v:=⟨_,_,_,_,Cc,h,r⟩
theorem LR.is(h:LR (some ν) H l v P)(k:∀v,P v->lH ν H v):lH ν H v:=by
 unfold LR at h
 split at h
 ·exact k v h
 ·obtain⟨x,w,h,_⟩:=h;exact h.is 1192 (by decide)
theorem SR.Bw(h:SR (some ν) H n v s):lH ν H v:=by
 cases n with
 |zero=>exact h.elim
 |succ n=>
  replace h:mX (some ν) H (SR (some ν) H n) v s:=h
  cases s with
  |ex e=>obtain⟨x,w,h,_⟩:=h;exact h.is 970 (by decide)
  |dN=>obtain⟨x,h⟩:=h;exact h.is 1083 (by decide)
  |ret e=>obtain⟨x,w,h,_⟩:=h;exact h.is 1083 (by decide)
  |aw e=>obtain⟨x,w,h,_⟩:=h;exact h.is 1140 (by decide)
  |brk l=>obtain⟨x,h⟩:=h;exact h.is 1102 (by decide)
  |cnt l=>obtain⟨x,h⟩:=h;exact h.is 1121 (by decide)
  |dQ b c f=>obtain⟨x,bv,cv,fv,h,_⟩:=h;exact h.is 1484 (by decide)
  |hU l b=>exact LR.is h λ v r=>by obtain⟨x,bv,tv,t,h,_⟩:=r;exact h.is 1333 (by decide)
  |gq l isOf n row b=>
   refine LR.is h λ v r=>?_
   obtain⟨x,hv,rv,bv,hx,dv,dx,nv,h,_⟩:=r
   cases isOf with
   |true=>exact h.is 1371 (by decide)
   |false=>exact h.is 1390 (by decide)
  |kK l b=>obtain⟨x,w,h,_⟩:=h;exact h.is 1192 (by decide)
  |sw e p1 s1 p2 s2=>obtain⟨x,ev,c1,c2,x1,t1,v1,x2,t2,v2,h,_⟩:=h;exact h.is 1437 (by decide)
  |iff e a b=>obtain⟨x,ev,av,bv,h,_⟩:=h;exact h.is 1008 (by decide)
theorem ak.at{α β:Type}{R:α->β->Prop}{l:List α}{m:List β}(h:ak R l m):∀{j:Nat}{v:α},l[j]?=some v->∃b,m[j]?=some b/\m.drop j=b::m.drop (j+1)/\R v b:=
 ak.ind (R:=R) (P:=λ l m=>∀{j:Nat}{v:α},l[j]?=some v->∃b,m[j]?=some b/\m.drop j=b::m.drop (j+1)/\R v b) (λ e=>nN e) (λ _ b _ _ h _ t j v=>by
  cases j with
  |zero=>exact λ e=>⟨b,rfl,rfl,bY e▸h⟩
  |succ j=>exact t (j:=j)) h
theorem Af.mono(h:Af H C s B H' s')(k:B<=B'):Af H C s B' H' s':=⟨h.fz,h.ms,h.env,h.dp,h.bd.mono k⟩
theorem Af.trans(h:Af H C s B H' s')(k:Af H' C s' B' aD lq):Af H C s B' aD lq:=⟨h.fz.trans k.fz,k.ms,k.env.trans h.env,k.dp.trans h.dp,k.bd⟩
theorem Af.refl(M:MS H C s)(hB:Bd s B):Af H C s B H s:=⟨Fz.refl,M,rfl,rfl,hB⟩
section
variable {k:Nat}
theorem abS(hk:1<=k)(hq:Q .none H):μ g k (.ref 920) [a,b,c] H Q X:=by
 refine μ.en (fT 47 rfl) rfl hk λ c o _=>?_
 ktf_call"g"
 exact hq
theorem Ql(M:MS H C s)(hl:H l=some (.κ true kv))(sV:∀v∈kv,lH ν H v)(hk:2<=k)(hq:Q .none H):μ g k (.ref 939) [.ref C.m,.ref l] H Q X:=by
 refine μ.en (fT 48 rfl) rfl hk λ c o _=>?_
 ktf_call"g"
 refine mm.fo (Goes.list hl) (I:=λ j m' H'=>m'=[(94,.ref C.m)]/\H'=H) (by exact⟨rfl,trivial⟩) ⟨rfl,rfl⟩ ?_ ?_
 ·intro j v _ _ abT hx;obtain⟨rfl,rfl⟩:=abT
  refine⟨hl,?_⟩
  obtain⟨x,kind,a,ks,Cc,np,hr⟩:=sV v (yl hx)
  obtain⟨es,t1,t2⟩:=M.sm
  refine ψ (t2 _ hr) λ sf t3 t4=>?_
  have Qm:=abQ hr
  ktf_call"g"
  refine t3▸Br▸?_
  refine mm.b (w:=true) (by exact t4.ne▸rfl) ?_
  ktf_call"g"
  refine abS (by ktf_call"k") ?_
  ktf_call"g"
  exact⟨_,by exact⟨rfl,trivial⟩,rfl,rfl⟩
 ·intro _ _ abU;obtain⟨rfl,rfl⟩:=abU
  refine⟨hl,?_⟩
  ktf_call"g"
  exact hq
theorem Qn(h:j<n):B+(j+1)*c<=B+n*c:=eP (m5 c h) B
theorem vJ:B+j*c+c=B+(j+1)*c:=by rw[Nat.succ_mul,kF]
theorem Qo{l:Addr}{kv:List Value}{ss:List St}{f:St->Sg->Ot×Sg}(M:MS H C s)(hl:H l=some (.κ true kv))(hr:ak (λ v st=>Runs g C kk H s.env s.dp v c (f st)) kv ss)(hB:Bd s B)(aI:B+ss.length*c<=19990)(hk:kk+1<=k):
  bD g k (.ref 946) [.ref C.m,.ref l] H C s (B+ss.length*c) (aA f ss s.sg):=by
 intro Q X hq hX
 refine μ.en (fT 49 rfl) rfl hk λ cx o _=>?_
 ktf_call"g"
 refine mm.fo (Goes.list hl) (I:=λ j m' H'=>m'=[(94,.ref C.m)]/\∃s',Af H C s (B+j*c) H' s'/\aA f ss s.sg=aA f (ss.drop j) s'.sg) (by exact⟨rfl,trivial⟩)
  ⟨rfl,s,Af.refl M (by rw[Bx];exact hB),rfl⟩ ?_ ?_
 ·intro j v _ H' abV hx;obtain⟨rfl,s',A,e⟩:=abV
  refine⟨A.fz _ _ hl rfl,?_⟩
  refine fh (hr.at hx) λ st iY hd hrj=>?_
  have jN:B+(j+1)*c<=B+ss.length*c:=Qn (List.getElem?_eq_some_iff.mp iY).1
  have M':=A.ms
  rw[hd]at e
  ktf_call"g"
  refine μ.up (k:=kk) o.le (hrj H' s' (B+j*c) A.fz A.ms A.env A.dp A.bd (by rw[vJ];exact Ψ jN aI) _ _ (λ ο ae w ot dS fK r=>?_) λ ο ae w u dS fK r=>?_)
  ·rw[vJ]at dS
   have A3:=A.trans dS
   have e3:aA f ss s.sg=match f st s'.sg with| (.χ,bz)=>aA f (ss.drop (j+1)) bz |p=>p:=e
   rw[fK]at e3
   ktf_call"g"
   cases ot with
   |χ=>
    ktf_call"g"
    exact⟨_,by exact⟨rfl,trivial⟩,rfl,ae,A3,e3⟩
   |ret v=>ktf_call"g";exact hq _ _ _ _ (A3.mono jN) e3 r
   |brk v=>ktf_call"g";exact hq _ _ _ _ (A3.mono jN) e3 r
   |cnt v=>ktf_call"g";exact hq _ _ _ _ (A3.mono jN) e3 r
   |aw v=>nomatch r
  ·rw[vJ]at dS
   have e3:aA f ss s.sg=match f st s'.sg with| (.χ,bz)=>aA f (ss.drop (j+1)) bz |p=>p:=e
   rw[fK]at e3
   exact hX _ _ _ _ ((A.trans dS).mono jN) e3 r
 ·intro _ H' abW;obtain⟨rfl,s',A,e⟩:=abW
  refine⟨A.fz _ _ hl rfl,?_⟩
  rw[hr.len,yz]at e
  rw[hr.len]at A
  ktf_call"g"
  exact hq _ _ _ .χ A e (.χ rfl)
end
section
variable {k:Nat}{s:bI}
theorem MS.sd(M:MS H C s)(h:H cd=some (.sd false es)):MS (ξ H cd o') C s/\Fz H (ξ H cd o'):=⟨M.jM h rfl rfl rfl,Fz.set h rfl⟩
def Scp(H:AH)(x cd:Addr)(E:Ev)(n:Nat):Prop:=∀H' cells cs,Fz H H'->H' cd=some (.sd true cells)->ak (sM H') cells cs->a_ H' (.ref x) (cs++E) (n+1)
section
variable {st:List Value}{n i:Nat}
theorem mm.gx(G:Gh g H H')(h:Mine.M g c Q X (.s x::D) st m H'):Mine.M g c Q X (.s x::D) st m H:=λ n e he=>W.pre G (h n e he)
theorem mm.scope(M:MS H C s)(hE:a_ H s.env E n)(hk:2<=c.k)(hm:m.lookup i=some (.ref C.m))(h:∀H' x d cd,Fz H H'->MS H' C {s with env:=.ref x}->H' x=some (.ins 237 d)->H' d=some (.ai true [(47,.ref cd),(46,s.env)])->H' cd=some (.sd false [])->Scp H' x cd E n->Mine.M g c Q X D st m H'):
  Mine.M g c Q X (.go (.call (.ref 237)) [s.env]::.v (.θ i)::.sa 104::D) st m H:=by
 refine Qh hk λ H₁ x d cd aJ x1 x2 x3 _=>?_
 have M1:=M.ext aJ
 refine(V.θ hm ?_:V g c (.θ i) m H₁ (λ v m' H'=>Mine.M g c Q X (.sa 104::D) (v::_) m' H') X)
 refine ag (M1.ai {s with env:=.ref x} rfl rfl rfl) λ M2 F2=>?_
 exact mm.sf M1.m M1.dd rfl rfl (h _ x d cd (aJ.fz.trans F2) M2 (F2 _ _ x1 rfl) (F2 _ _ x2 rfl) (eX.h (o':=.ai false (gO C {s with env:=.ref x})) x3 M1.dd rfl) λ H' cells cs F k1 k2=>.sc (F _ _ (F2 _ _ x1 rfl) rfl) (F _ _ (F2 _ _ x2 rfl) rfl) k1 k2 (hE.fz ((aJ.fz.trans F2).trans F)))
theorem mm.Qp(M:MS H C s)(hE:a_ H s.env E n)(hk:2<=c.k)(hm:m.lookup i=some (.ref C.m))(h:∀H' x,Fz H H'->MS H' C {s with env:=.ref x}->a_ H' (.ref x) E (n+1)->Mine.M g c Q X (.ss l::D) st m H'):
  Mine.M g c Q X (.go (.call (.ref 237)) [s.env]::.v (.θ i)::.sa 104::.ss l::D) st m H:=
 mm.scope M hE hk hm λ H' x d cd F M' _ _ e S=>mm.gh (Gh.fs (z:=true) e) (by
  refine ag (M'.sd (o':=.sd true []) e) λ M3 F3=>?_
  exact h _ x (F.trans F3) M3 (S _ [] [] F3 ah trivial))
end
theorem Af.back{ω:AH}{ev:Value}{B:Nat}(Z:Fz H ω)(A:Af ω C {s with env:=ev} B ο ae)(F:Fz ο H')(M:MS H' C {ae with env:=s.env}):Af H C s B H' {ae with env:=s.env}:=
 ⟨(Z.trans A.fz).trans F,M,rfl,A.dp,A.bd.same rfl rfl rfl rfl⟩
theorem abX(M:MS H C s)(hE:a_ H s.env E n)(hl:H l=some (.κ true kv))(sV:∀v∈kv,lH ν H v)
  (hr:∀H' ev m,Fz H H'->a_ H' ev E m->ak (λ v st=>Runs g C kk H' ev s.dp v c (f st)) kv ss) (hB:Bd s B) (aI:B+ss.length*c<=19990) (hk:kk+2<=k) (bO:4<=k):
  bD g k (.ref 953) [.ref C.m,.ref l] H C s (B+ss.length*c) (aA f ss s.sg):=by
 intro Q X hq hX
 refine μ.en (fT 50 rfl) rfl bO λ cx o ek=>?_
 have pA:=hE.dat
 ktf_call"gq"
 refine mm.Qp M hE (by ktf_call"k") rfl λ ω x Z M3 HK=>?_
 ktf_call"g"
 refine Ql M3 (Z _ _ hl rfl) (λ v hv=>(sV v hv).fz Z) (by ktf_call"k") ?_
 ktf_call"g"
 refine Qo (kk:=kk) (c:=c) (B:=B) M3 (Z _ _ hl rfl) (hr _ _ _ Z HK) (hB.same rfl rfl rfl rfl) aI (by exact aH (aT hk (aU ek.symm)) (by simp +arith only)) _ _ (λ ο ae w ot A e r=>?_) λ ο ae w u A e r=>?_
 ·ktf_call"g"
  refine mm.ms A.ms {ae with env:=s.env} rfl rfl rfl rfl rfl λ ar cF ie=>?_
  ktf_call"g"
  exact hq _ _ w ot (A.back Z cF ie) e (r.fz cF)
 ·ktf_call"g"
  refine mm.ms A.ms {ae with env:=s.env} rfl rfl rfl rfl rfl λ ar cF ie=>?_
  ktf_call"g"
  exact hX _ _ w u (A.back Z cF ie) e (r.fz cF)
theorem abY{v:Value}{x:Addr}{kv:List Value}{ss:List St}{f:St->Sg->Ot×Sg}{c kk n:Nat}{E:Ev}{a:Value}{ev:Value}(np:NP (some ν) H v x 59 a kv)(sV:∀v∈kv,lH ν H v)(hE:a_ H ev E n)(aE:dp+1<=44)
  (hr:∀H' ev m,Fz H H'->a_ H' ev E m->ak (λ v st=>Runs g C kk H' ev (dp+1) v c (f st)) kv ss) (hk:kk+5<=k) (bO:7<=k):Runs g C k H ev dp v (1+ss.length*c) (aA f ss):=by
 intro H' s' B F M he HL hB aI
 subst he HL
 obtain⟨j,rfl⟩:=l_ bO
 refine Qg M (n:=j+6) (bK _) λ k' iI=>bD.up (Qe (kk:=j+5) (Cc:=989) (f:=986) (np.fz F) (by decide) rfl M hB (by exact aH aI (by simp +arith only)) (by assumption) (bK _) (eh 4 _) λ H₁ s₁ sf bN iM h1 h2 h3 HM Qq=>?_) iI
 intro Q X hq hX
 have Z:=F.trans bN
 refine μ.en (n:=j+4) (fT 52 rfl) rfl (bK _) λ cx o ek=>?_
 ktf_call"g"
 refine mm.ks (np.fz Z) λ kl eB=>?_
 ktf_call"g"
 have abZ:a_ H₁ s₁.env E n:=by exact h1▸(hE.fz Z)
 rw[<- kF,<- h3]at hq hX
 exact(abX (kk:=kk) (c:=c) (B:=B+1) (ν:=ν) (n:=n) (E:=E) iM abZ eB (λ v hv=>(sV v hv).fz Z) (λ aD ev m Z' ju=>by refine h2▸?_;exact hr _ _ _ (Z.trans Z') ju) HM (by exact aH aI (by simp +arith only)) (by exact aH (aT hk (aU ek.symm)) (by simp +arith only)) (by exact aH (aU ek.symm) (by simp +arith only)):bD _ _ _ _ _ _ _ _ _) _ _ hq hX
end
section
variable {k:Nat}
theorem bD.mono(h:bD g k f args H C s B res)(hb:B<=B'):bD g k f args H C s B' res:=
 λ Q X hq hX=>h Q X (λ _ _ _ _ A e r=>hq _ _ _ _ (A.mono hb) e r) λ _ _ _ _ A e r=>hX _ _ _ _ (A.mono hb) e r
theorem yA(h:dm ν E e σ=(.ok u,bz)):fJ ν E e σ f=f u bz:=by unfold fJ;exact h▸rfl
theorem yB(h:dm ν E e σ=(.error u,bz)):fJ ν E e σ f=(.aw u,bz):=by unfold fJ;exact h▸rfl
theorem ab0(np:NP (some ν) H v x kind a kv)(hr:(kind,Cc)∈lF)(hm:iD Cc 122=some f)(aE:dp<44)(jW:kk+2<=k)(hk:6<=k)(jN:1<=c)
  (hc:∀H' s' B sf,Fz H H'->MS H' C s'->s'.env=env->s'.dp=dp+1->Bd s' (B+1)->B+c<=19990->RI H' sf Cc->bD g kk (.ref f) [sf,.ref C.m,v] H' C s' (B+c) (F s'.sg)):Runs g C k H env dp v c F:=by
 intro H' s' B F M he HL hB aI
 subst he HL
 obtain⟨j,rfl⟩:=l_ hk
 refine Qg M (n:=j+5) (bK _) λ k' iI=>(Qe (kk:=kk) (np.fz F) hr hm M hB (by exact aH aI (by simp +arith only)) aE (by exact Px (by assumption)) (by exact eh _ _) λ H₁ s₁ sf bN iM h1 h2 h3 HM Qq=>?_).up iI
 refine h3▸?_
 exact hc H₁ s₁ B sf (F.trans bN) iM h1 h2 HM aI Qq
theorem ab1(np:NP (some ν) H v x kind a [w])(er:ER (some ν) H w e)(he:m7 e)(M:MS H C s)(hE:a_ H s.env E n)(hB:Bd s B)(aI:B+3<=20000)(aE:s.dp<44)(hk:18<=k):
  bD g k (.ref 967) [sf,.ref C.m,v] H C s (B+2) (fJ ν E e s.sg λ _ σ=>(.χ,σ)):=by
 intro Q X hq hX
 refine μ.en (fT 51 rfl) rfl hk λ c o _=>?_
 ktf_call"g"
 refine sU er he M hE hB aI aE (by ktf_call"k") (λ H' s' w u A e r=>?_) λ H' s' w u A e r=>hX _ _ _ u A (yB e) r
 ktf_call"g"
 exact hq _ _ _ .χ A (yA e) (.χ rfl)
theorem ab2(np:NP (some ν) H v x kind a [.none])(M:MS H C s)(hB:Bd s B)(hk:2<=k):bD g k (.ref 1080) [sf,.ref C.m,v] H C s B (.ret .u,s.sg):=by
 intro Q X hq hX
 refine μ.en (fT 60 rfl) rfl hk λ c o _=>?_
 ktf_call"g"
 refine Hv (by ktf_call"k") λ H' w E r=>?_
 ktf_call"g"
 ktf_call"T";intro ο b a9 hb;ktf_call"g"
 exact hq _ s _ (.ret .u) ⟨(a9.trans' E).fz,M.ext (a9.trans' E),rfl,rfl,hB⟩ rfl (.ret b w rfl hb (r.fz a9.fz))
theorem ER.ne(h:ER p H v e):(v==.none)=false:=by
 cases e with
 |dA _ _=>exact NP.ne h
 |str _=>exact Θ (h) λ _ h=>h.ne
 |num _=>exact Θ (h) λ _ h=>h.ne
 |cM=>exact Θ (h) λ _ h=>h.ne
theorem ab3(np:NP (some ν) H v x kind a [w])(er:ER (some ν) H w e)(he:m7 e)(M:MS H C s)(hE:a_ H s.env E n)(hB:Bd s B)(aI:B+3<=20000)(aE:s.dp<44)(hk:18<=k):
  bD g k (.ref 1080) [sf,.ref C.m,v] H C s (B+2) (fJ ν E e s.sg λ v σ=>(.ret v,σ)):=by
 intro Q X hq hX
 refine μ.en (fT 60 rfl) rfl hk λ c o _=>?_
 ktf_call"g"
 refine mm.b er.ne ?_
 ktf_call"g"
 refine sU er he M hE hB aI aE (by ktf_call"k") (λ H' s' w u A e r=>?_) λ H' s' w u A e r=>hX _ _ _ u A (yB e) r
 ktf_call"g"
 ktf_call"T";intro ο b a9 hb;ktf_call"g"
 exact hq _ s' _ (.ret u) ⟨A.fz.trans a9.fz,A.ms.ext a9,A.env,A.dp,A.bd⟩ (yA e) (.ret b w rfl hb (r.fz a9.fz))
theorem ab4(np:NP (some ν) H v x kind (.str l 0) [])(M:MS H C s)(hB:Bd s B)(hk:1<=k):bD g k (.ref 1099) [sf,.ref C.m,v] H C s B (.brk l,s.sg):=by
 intro Q X hq hX
 refine μ.en (fT 61 rfl) rfl hk λ c o _=>?_
 ktf_call"g"
 ktf_call"T";intro ο b a9 hb;ktf_call"g"
 exact hq _ s _ (.brk l) ⟨a9.fz,M.ext a9,rfl,rfl,hB⟩ rfl (.brk b rfl hb)
theorem ab5(np:NP (some ν) H v x kind (.str l 0) [])(M:MS H C s)(hB:Bd s B)(hk:1<=k):bD g k (.ref 1118) [sf,.ref C.m,v] H C s B (.cnt l,s.sg):=by
 intro Q X hq hX
 refine μ.en (fT 62 rfl) rfl hk λ c o _=>?_
 ktf_call"g"
 ktf_call"T";intro ο b a9 hb;ktf_call"g"
 exact hq _ s _ (.cnt l) ⟨a9.fz,M.ext a9,rfl,rfl,hB⟩ rfl (.cnt b rfl hb)
theorem ab6(np:NP (some ν) H v x kind a [w])(er:ER (some ν) H w e)(he:m7 e)(M:MS H C s)(hE:a_ H s.env E n)(hB:Bd s B)(aI:B+3<=20000)(aE:s.dp<44)(hk:18<=k):
  bD g k (.ref 1137) [sf,.ref C.m,v] H C s (B+2) (fJ ν E e s.sg λ v σ=>(.aw v,σ)):=by
 intro Q X hq hX
 refine μ.en (fT 63 rfl) rfl hk λ c o _=>?_
 ktf_call"g"
 refine sU er he M hE hB aI aE (by ktf_call"k") (λ H' s' w u A e r=>?_) λ H' s' w u A e r=>hX _ _ _ u A (yB e) r
 ktf_call"g"
 exact Hx (hX _ _ _ u A (yA e) r) (by ktf_call"k")
inductive HN(g:Gv)(C:MC)(kk:Nat)(H:AH)(env:Value)(dp:Int)(bv:Value)(c:Nat)(F:Sg->Ot×Sg):Prop
 |no (e:bv=.none) (h:∀σ,F σ=(.χ,σ)):HN g C kk H env dp bv c F
 |so (e:(bv==.none)=false) (h:Runs g C kk H env dp bv c F):HN g C kk H env dp bv c F
theorem ab7{sf v ev av bv a:Value}{x:Addr}{kind:Int}{e:Ex}{E:Ev}{n B ca cb kk:Nat}{Fa Fb:Sg->Ot×Sg}(np:NP (some ν) H v x kind a [ev,av,bv])(er:ER (some ν) H ev e)(he:m7 e)(M:MS H C s)(hE:a_ H s.env E n)(hB:Bd s B)(aE:s.dp<44)
  (ra:Runs g C kk H s.env s.dp av ca Fa) (rb:HN g C kk H s.env s.dp bv cb Fb) (aI:B+2+ca+cb+10<=19990) (hk:18<=k) (bO:kk+1<=k):
  bD g k (.ref 1005) [sf,.ref C.m,v] H C s (B+2+ca+cb) (fJ ν E e s.sg λ v σ=>if cM v=true then Fa σ else Fb σ):=by
 intro Q X hq hX
 have b1:B+2<=B+2+ca+cb:=by exact(by simp +arith only)
 have b2:B+2+ca<=B+2+ca+cb:=cK _ _
 have b3:B+2+cb<=B+2+ca+cb:=by exact(by simp +arith only)
 have b4:B+2+ca+cb<=19990:=Ψ (cK _ 10) aI
 refine μ.en (fT 53 rfl) rfl hk λ c o ek=>?_
 ktf_call"g"
 refine sU er he M hE hB (by exact aH aI (by simp +arith only)) aE (by ktf_call"k") (λ H' s' w u A e r=>?_) λ H' s' w u A e r=>hX _ _ _ u (A.mono b1) (yB e) r
 have M':=A.ms
 have yC:=np.fz A.fz
 have e:=yA (f:=λ v σ=>if cM v=true then Fa σ else Fb σ) e
 ktf_call"g"
 refine Qd r (by ktf_call"k") ?_
 ktf_call"g"
 cases ht:cM u with
 |true=>
  rw[if_pos ht]at e
  ktf_call"g"
  refine(ra H' s' (B+2) A.fz A.ms A.env A.dp A.bd (Ψ b2 b4)).up (by exact aH (aT bO (aU ek.symm)) (by simp +arith only)) _ _ (λ ο ae yD ot dS fK ig=>?_) λ ο ae yD By dS fK ig=>hX _ _ _ By ((A.trans dS).mono b2) (e.trans fK) ig
  ktf_call"g"
  exact hq _ _ _ ot ((A.trans dS).mono b2) (e.trans fK) ig
 |false=>
  rw[if_neg (by refine ht▸?_;exact lV)]at e
  ktf_call"g"
  cases rb with
  |no en hF=>
   refine en.symm▸?_
   ktf_call"g"
   exact hq _ _ _ .χ (A.mono b1) (e.trans (hF _)) (.χ rfl)
  |so en rb=>
   refine mm.b (w:=true) (by exact en▸rfl) ?_
   ktf_call"g"
   refine(rb H' s' (B+2) A.fz A.ms A.env A.dp A.bd (Ψ b3 b4)).up (by exact aH (aT bO (aU ek.symm)) (by simp +arith only)) _ _ (λ ο ae yD ot dS fK ig=>?_) λ ο ae yD By dS fK ig=>hX _ _ _ By ((A.trans dS).mono b3) (e.trans fK) ig
   ktf_call"g"
   exact hq _ _ _ ot ((A.trans dS).mono b3) (e.trans fK) ig
end
section
variable {k:Nat}
theorem VR.dat(h:VR H v w):cT v=true:=by cases h with|mk a e h=>exact e▸rfl
structure ab8(ο:AH)(C:MC)(s:bI)(y:Addr)(n B:Nat)(f:Ev->Sg->Ot×Sg)(res:Ot×Sg)(ar:AH)(bc:bI)(E':Ev)(B':Nat):Prop where
 z:Fz ο ar
 ms:MS ar C bc
 env:bc.env=.ref y
 dp:bc.dp=s.dp
 er:a_ ar (.ref y) E' (n+1)
 bd:Bd bc B'
 le:B'<=B
 ev:f E' bc.sg=res
theorem ab9{v w nv bv a:Value}{x:Addr}{kind:Int}{c:Option Addr×List St}(np:NP (some ν) H v x kind a [nv,bv])(hn:cQ (λ n y=>NP (some ν) H n y 8 (.str gf 0) []) nv c.1)(M:MS H C s)(hE:a_ H s.env E n)
  (hw:VR H w u) (hB:Bd s B) (aI:B+1+cb<=19990) (rb:∀H' ev m E',Fz H H'->a_ H' ev E' m->Runs g C kk H' ev s.dp bv cb (f E' c.2)) (hk:kk+1<=k) (bO:4<=k):
  bD g k (.ref 1453) [.ref C.m,v,w] H C s (B+1+cb) (vI ν f E c u s.sg):=by
 intro Q X hq hX
 refine μ.en (fT 87 rfl) rfl bO λ cx o ek=>?_
 have pA:=hE.dat
 ktf_call"gq"
 refine mm.scope M hE (by ktf_call"k") rfl λ ο y yd cd Z M2 x1 x2 x3 S=>?_
 have fL:=np.fz Z
 refine mm.aP o 2 rfl ?_
 refine mm.tf o ?_
 refine mm.aP o 1 rfl ?_
 refine mm.mW (st':=[]) (P:=λ m' ar=>sub [(94,.ref C.m),(14,v),(170,s.env)] m'/\∃bc E' B',ab8 ο C s y n (B+1) (λ E=>f E c.2) (vI ν f E c u s.sg) ar bc E' B') ?_ ?_
 ·intro R hR
  obtain⟨c1,cs⟩:=c
  cases c1 with
  |none=>
   have e:nv=.none:=hn
   subst e
   refine mm.gx (Gh.fs (z:=true) x3) ?_
   refine ag (M2.sd (o':=.sd true []) x3) λ M3 F3=>?_
   have ic:=fL.fz F3
   ktf_call"g"
   exact hR _ _ ⟨by exact⟨rfl,rfl,rfl,trivial⟩,_,E,B,F3,M3,rfl,rfl,S _ [] [] F3 ah trivial,hB.same rfl rfl rfl rfl,gK B,rfl⟩
  |some nx=>
   have Qr:NP (some ν) ο nv nx 8 (.str gf 0) []:=NP.fz Z hn
   ktf_call"g"
   refine mm.b (w:=true) (by exact Qr.ne▸rfl) ?_
   ktf_call"g"
   ktf_call"lt"
   ktf_call"T";intro ω la bx _ hO
   have ic:=fL.fz bx.fz
   have ab_:=Qr.fz bx.fz
   have M3:=M2.ext bx
   ktf_call"g"
   show Mine.M _ _ _ _ _ (Value.ref y::_) _ _
   have zz1:=bx _ _ x1
   have zz2:=bx _ _ x2
   ktf_call"g"
   have j3:=bx _ _ x3
   refine mm.si (dK.sd j3 (by decide) ?_)
   refine mm.aP o 0 rfl ?_
   refine mm.gh (Gh.fs (z:=true) ah) ?_
   rw[l7]
   refine ag (M3.sd (o':=.sd true [(gf,.ref la)]) j3) λ M4 F4=>?_
   have Bz:=bx.fz.trans F4
   have yE:=hw.fz (Z.trans Bz)
   have vL:=S _ [(gf,.ref la)] [(gf,u,true)] Bz ah ⟨⟨rfl,la,w,1,rfl,F4 _ _ hO rfl,yE,rfl⟩,trivial⟩
   show Mine.M _ _ _ _ _ _ _ (ξ ω cd (.sd true [(gf,.ref la)]))
   generalize ξ ω cd (.sd true [(gf,.ref la)])=ar at M4 F4 Bz yE vL⊢
   have sL:=ic.fz F4
   have agt:=ab_.fz F4
   ktf_call"g"
   refine PV M4 yE (by have:=hB.sn;show s.seen.length<_;exact aH (aT aI this) (by simp +arith)) (by ktf_call"k") λ aV dR M5=>?_
   ktf_call"g"
   exact hR _ _ ⟨by exact⟨rfl,rfl,rfl,trivial⟩,_,_,B+1,Bz.trans dR,M5,rfl,rfl,vL.fz dR,(hB.HI _).same rfl rfl rfl rfl,bK _,rfl⟩
 ·intro m' ar ab';obtain⟨s0,bc,E',B',I⟩:=ab'
  refine mm.fr s0 ?_
  have sL:=fL.fz I.z
  have M4:=I.ms
  have back:∀{H' s' aV},Af ar C bc (B'+cb) H' s'->Fz H' aV->MS aV C {s' with env:=s.env}->Af H C s (B+1+cb) aV {s' with env:=s.env}:=λ A F M=>⟨((Z.trans I.z).trans A.fz).trans F,M,rfl,A.dp.trans I.dp,(A.bd.mono (vM I.le cb)).same rfl rfl rfl rfl⟩
  ktf_call"g"
  refine(rb ar (.ref y) _ E' (Z.trans I.z) I.er ar bc B' Fz.refl M4 I.env I.dp I.bd (Ψ (vM I.le cb) aI)).up (by exact aH (aT hk (aU ek.symm)) (by simp +arith only)) _ _ (λ aV f_ HO ot A e r=>?_) λ aV f_ HO HP A e r=>?_
  ·ktf_call"g"
   refine mm.ms A.ms {f_ with env:=s.env} rfl rfl rfl rfl rfl λ cU bT eK=>?_
   ktf_call"g"
   exact hq _ _ _ ot (back A bT eK) (I.ev.symm.trans e) (r.fz bT)
  ·ktf_call"g"
   refine mm.ms A.ms {f_ with env:=s.env} rfl rfl rfl rfl rfl λ cU bT eK=>?_
   ktf_call"g"
   exact hX _ _ _ HP (back A bT eK) (I.ev.symm.trans e) (r.fz bT)
end
section
variable {st:List Value}
theorem aca:bw g->pj g 91 (.ref g.st):=λ h=>by
 refine uX (h.oj (i:=91) (v:=.ref 382) rfl) λ v' a b cc d=>?_
 have:v'=.ref 382:=b λ i t z=>by rw[z]at a;cases a
 exact h.st▸this▸(cc)
theorem mm.xv(h1:H x=some (.exc g.st d))(h2:H d=some (.ai z [(72,u)]))(h3:cT u=true)(h:M g c Q X D (u::st) m H):M g c Q X (.π 72::D) (.ref x::st) m H:=
 (c_.Yn h1 h2 (GC rfl) rfl h3 (λ h=>h.exc.2.1) (λ h=>h.exc.1) h:c_ g c (λ w=>lh w (N 72) true) (.ref x) m H (λ v m' H'=>M g c Q X D (v::st) m' H') X)
def XQ(nm:Nat)(Q:bJ->Lc->AH->Prop):bJ->Lc->AH->Prop:=λ f m H=>Q f (drop nm m) H
def EX(g:Gv)(c:Cx)(nm:Nat)(hs:List PS)(Q:bJ->Lc->AH->Prop):Value->Lc->AH->Prop:=λ v m H=>∀e H' ea d,Ext H H'->H' ea=some (.exc g.st d)->H' d=some (.ai true [(72,v)])->M g (c.mark (some e)) (XQ nm Q) NX [.ss hs] [] (put nm (.ref ea) m) H'
theorem EX.i(h:∀e H' ea d,Ext H H'->H' ea=some (.exc g.st d)->H' d=some (.ai true [(72,v)])->M g (c.mark (some e)) (XQ nm Q) NX [.ss hs] [] (put nm (.ref ea) m) H'):EX g c nm hs Q v m H:=h
theorem XQ.i(h:Q f (drop nm m) H):XQ nm Q f m H:=h
theorem mm.tx(o:Fc c n)(h:M g c (FK (M g c Q X D) st Q) (EX g c nm (h0::hs) (FK (M g c Q X D) st Q)) [.ss a] [] m H):M g c Q X (.s (.mG a (.ς 91) nm (h0::hs))::D) st m H:=by
 refine S1.mG o.own o.hd aca (λ h=>h.exc.2.2) ?_
 intro n e he
 refine W.mono (S.ma h n e he) (λ _ _ _ q=>q) λ v ρ H₁ q e ea d h1 h2 h3=>?_
 exact S.ma (q e _ ea d (λ y oy hy=>cu (cu hy h2) (kE h3 h1)) ah (by refine(Γ (cP h3))▸?_;exact ah))
end
section
variable {k:Nat}
structure GR(H:AH)(v:Value)(o:Ot)(t:Addr)(w th:Value):Prop where
 e:v=.ref t
 h:H t=some (.φ [w,th])
 k:(th=.none/\OR H w o)\/∃u,o=.aw u/\VR H th u
inductive HQ(ν:Addr->Int)(H:AH)(g:Gv)(C:MC)(kk:Nat)(dp:Int)(cb:Nat)(f:Ev->List St->Sg->Ot×Sg)(cv:Value)(c:Option Addr×List St):Prop
 |mk (x:Addr) (kind:Int) (a nv bv:Value) (h:NP (some ν) H cv x kind a [nv,bv]) (hn:cQ (λ n y=>NP (some ν) H n y 8 (.str gf 0) []) nv c.1) (r:∀H' ev m E',Fz H H'->a_ H' ev E' m->Runs g C kk H' ev dp bv cb (f E' c.2)):HQ ν H g C kk dp cb f cv c
theorem OR.not(h:OR H w (.aw u)):False:=nomatch h
theorem acb(np:NP (some ν) H v x kind a [bv,cv,fv])(M:MS H C s)(hE:a_ H s.env E n)(hB:Bd s B)(aI:B+cb+(1+cb)<=19990)
  (rb:Runs g C kk H s.env s.dp bv cb (f E b)) (rc:cQ (HQ ν H g C kk s.dp cb f) cv c) (hk:kk+2<=k) (bO:6<=k)
  (hq:∀H' s' w o t x y,Af H C s (B+cb+(1+cb)) H' s'->jX ν f E b c s.sg=(o,s'.sg)->GR H' w o t x y->Q w H'):μ g k (.ref 1460) [.ref C.m,v] H Q X:=by
 have b0:B+cb<=B+cb+(1+cb):=cK _ _
 have b1:B+cb<=19990:=Ψ b0 aI
 have e1:B+cb+1+cb=B+cb+(1+cb):=kF _ _ _
 refine μ.en (fT 88 rfl) rfl bO λ cx o ek=>?_
 have kc:kk<=cx.k:=by exact aH (aT hk (aU ek.symm)) (by simp +arith only)
 refine mm.aP o 1 rfl ?_
 refine mm.tx o ?_
 ktf_call"g"
 refine(rb H s B Fz.refl M rfl rfl hB b1).up kc _ _ (λ ο ae w ot A e r=>?_) λ ο ae w u A e r=>EX.i λ ex ω ea de E3 q1 q2=>?_
 ·ktf_call"g"
  ktf_call"T";intro ω q E3 hq3;ktf_call"g"
  have e':jX ν f E b c s.sg=(ot,ae.sg):=by
   unfold jX;rw[e]
   cases ot with
   |aw u=>exact r.not.elim
   |_=>rfl
  exact hq _ ae _ ot q _ _ ⟨A.fz.trans E3.fz,A.ms.ext E3,A.env,A.dp,A.bd.mono b0⟩ e' ⟨rfl,hq3,.inl ⟨rfl,r.fz E3.fz⟩⟩
 ·have M3:=A.ms.ext E3
  have FZ:=A.fz.trans E3.fz
  have hw:=r.fz E3.fz
  have BA:=r.dat
  have ic:=np.fz FZ
  clear r
  ktf_call"g"
  refine mm.xv q1 q2 BA ?_
  ktf_call"g"
  cases c with
  |none=>
   have e0:cv=.none:=rc
   refine e0.symm▸?_
   ktf_call"g"
   ktf_call"T";intro ar q E4 hq4;ktf_call"g"
   exact hq _ ae _ (.aw u) q _ _ ⟨FZ.trans E4.fz,M3.ext E4,A.env,A.dp,A.bd.mono b0⟩ (by unfold jX;rw[e]) ⟨rfl,hq4,.inr ⟨u,rfl,hw.fz E4.fz⟩⟩
  |some c=>
   obtain⟨cx',agu,ca,nv,BB,pJ,hn,rc⟩:=rc
   have eg:jX ν f E b (some c) s.sg=vI ν f E c u ae.sg:=by unfold jX;exact e▸rfl
   refine mm.b pJ.ne ?_
   refine mm.aP o 3 rfl ?_
   refine mm.tx o ?_
   ktf_call"g"
   refine ab9 (kk:=kk) (cb:=cb) (B:=B+cb) (c:=c) (f:=f) (E:=E) (n:=n) (u:=u) (pJ.fz FZ) (hn.map λ _ _ z=>z.fz FZ) M3 (by refine A.env▸?_;exact hE.fz FZ) hw A.bd (by rw[e1];exact aI) (λ H' ev m' E' Z ju=>by rw[A.dp];exact rc H' ev m' E' (FZ.trans Z) ju) (by exact aH (aT hk (aU ek.symm)) (by simp +arith only)) (by ktf_call"k") _ _ (λ ar bc sW acd cC gQ ij=>?_) λ ar bc sW oD cC gQ ij=>EX.i λ ex' aV ea' de' E5 q1' q2'=>?_
   ·rw[e1]at cC
    ktf_call"g"
    ktf_call"T";intro aV q E5 Hp;ktf_call"g"
    exact hq _ bc _ acd q _ _ ⟨(FZ.trans cC.fz).trans E5.fz,cC.ms.ext E5,cC.env.trans A.env,cC.dp.trans A.dp,cC.bd⟩ (eg.trans gQ) ⟨rfl,Hp,.inl ⟨rfl,ij.fz E5.fz⟩⟩
   ·rw[e1]at cC
    ktf_call"g"
    refine mm.xv q1' q2' (ij.dat) ?_
    ktf_call"g"
    ktf_call"T";intro cU q E6 hq6;ktf_call"g"
    refine XQ.i ?_
    ktf_call"g"
    exact hq _ bc _ (.aw oD) q _ _ ⟨((FZ.trans cC.fz).trans E5.fz).trans E6.fz,(cC.ms.ext E5).ext E6,cC.env.trans A.env,cC.dp.trans A.dp,cC.bd⟩ (eg.trans gQ) ⟨rfl,hq6,.inr ⟨oD,rfl,(ij.fz E5.fz).fz E6.fz⟩⟩
end
section
variable {k:Nat}
inductive Qs(g:Gv)(C:MC)(kk:Nat)(H:AH)(env:Value)(dp:Int)(cb:Nat)(f:List St->Sg->Ot×Sg)(fv:Value)(fb:List St):Prop
 |mk (e:(fv==.none)=false) (h:Runs g C kk H env dp fv cb (f fb)):Qs g C kk H env dp cb f fv fb
theorem Qt(np:NP (some ν) H v x kind a [bv,cv,fv])(M:MS H C s)(hE:a_ H s.env E n)(hB:Bd s B)(aI:B+cb+(1+cb)+cb<=19990)
  (rb:Runs g C kk H s.env s.dp bv cb (f E b)) (rc:cQ (HQ ν H g C kk s.dp cb f) cv c) (rf:cQ (Qs g C kk H s.env s.dp cb (f E)) fv fi) (hk:kk+3<=k) (bO:7<=k):
  bD g k (.ref 1467) [.ref C.m,v] H C s (B+cb+(1+cb)+cb) (mx (f E) (jX ν f E b c s.sg) fi):=by
 intro Q X hq hX
 have b1:B+cb+(1+cb)<=B+cb+(1+cb)+cb:=cK _ _
 refine μ.en (fT 89 rfl) rfl bO λ cx o ek=>?_
 ktf_call"g"
 refine acb (kk:=kk) np M hE hB (Ψ b1 aI) rb rc (by exact aH (aT hk (aU ek.symm)) (by simp +arith only)) (by ktf_call"k") λ H₁ s₁ agv ot t w th A e r=>?_
 obtain⟨rfl,ht,hc⟩:=r
 have eY:=np.fz A.fz
 refine mm.u2 (.inl ht) ?_
 refine mm.aP o 1 rfl ?_
 refine mm.mW (st':=[]) (P:=λ m' ο=>sub [(94,.ref C.m),(254,th),(133,w)] m'/\∃ae,Fz H₁ ο/\Af H C s (B+cb+(1+cb)+cb) ο ae/\mx (f E) (jX ν f E b c s.sg) fi=(ot,ae.sg)) ?_ ?_
 ·intro R hR
  ktf_call"g"
  cases fi with
  |none=>
   have e0:fv=.none:=rf
   refine e0.symm▸?_
   ktf_call"g"
   exact hR _ _ ⟨by exact⟨rfl,rfl,rfl,trivial⟩,s₁,Fz.refl,A.mono b1,e⟩
  |some fb=>
   obtain⟨bM,rf⟩:=rf
   have e3:mx (f E) (jX ν f E b c s.sg) (some fb)=match f E fb s₁.sg with| (.χ,σ)=>(ot,σ)|q=>q:=by rw[e];rfl
   have M1:=A.ms
   refine mm.b (w:=true) (by rw[bM];rfl) ?_
   ktf_call"g"
   refine(rf H₁ s₁ (B+cb+(1+cb)) A.fz A.ms A.env A.dp A.bd aI).up (by exact aH (aT hk (aU ek.symm)) (by simp +arith only)) _ _ (λ ο ae yD ace dS fK ig=>?_) λ ο ae yD By dS fK ig=>hX _ _ _ _ (A.trans dS) (by rw[e3,fK]) ig
   rw[fK]at e3
   ktf_call"g"
   cases ace with
   |χ=>
    ktf_call"g"
    exact hR _ _ ⟨by exact⟨rfl,rfl,rfl,trivial⟩,ae,dS.fz,A.trans dS,e3⟩
   |ret v=>ktf_call"g";exact hq _ _ _ _ (A.trans dS) e3 ig
   |brk v=>ktf_call"g";exact hq _ _ _ _ (A.trans dS) e3 ig
   |cnt v=>ktf_call"g";exact hq _ _ _ _ (A.trans dS) e3 ig
   |aw v=>exact ig.not.elim
 ·intro m' ο acf;obtain⟨s0,ae,F,dS,fK⟩:=acf
  refine mm.fr s0 ?_
  have M2:=dS.ms
  rcases hc with ⟨rfl,ho⟩|⟨u,rfl,hu⟩
  ·ktf_call"g"
   exact hq _ _ _ ot dS fK (ho.fz F)
  ·ktf_call"g"
   refine mm.b (w:=true) (by cases hu with|mk a e h=>refine e.symm▸?_;rfl) ?_
   ktf_call"g"
   exact Hx (hX _ _ _ u dS fK (hu.fz F)) (by ktf_call"k")
theorem acg(hk:n+1<=k)(h:∀kk,n<=kk->bD g kk (.ref 1467) [.ref C.m,v] H C s B res):bD g k (.ref 1481) [sf,.ref C.m,v] H C s B res:=by
 intro Q X hq hX
 refine μ.en (fT 90 rfl) rfl hk λ c o _=>?_
 ktf_call"g"
 exact h c.k o.le _ _ hq hX
end
section
variable {k:Nat}
theorem aC.fresh(x:aC g k hd A H s)(ke:∀b o,s.heap.get? b=some o->h'.get? b=some o)(na:s.heap.get? a=none)(la:g.cm.objs.size<=a)(r:gI g h' a ao)(tk:Nat):
  H a=none/\aC g k hd A (ξ H a ao) {s with heap:=h',toks:=tk}/\Go none H s.heap (ξ H a ao) h':=by
 have hH:H a=none:=by
  cases e:H a with
  |none=>rfl
  |some o=>obtain⟨ob,q⟩:=(x.sim a o e).get;rw[na]at q;cases q
 obtain⟨oa,hoa⟩:=r.get
 refine⟨hH,{x with old:=λ b o e=>ke b o (x.old b o e),sim:=λ b o e=>?_,low:=λ b o e=>?_,frames:=?_,size:=Ψ la (jo (dO hoa))},⟨λ b o _ e1 e2=>⟨?_,o.slots,ke b o e2⟩,λ b o e _=>cu e hH,λ b es e=>.inl (cu e hH),λ b e=>?_⟩⟩
 ·by_cases q:b=a
  ·subst q;rw[ah]at e;cases e;exact r
  ·rw[Γ q]at e
   have:=x.sim b o e
   obtain⟨ob,hb⟩:=this.get
   exact this.congr (by refine hb▸?_;exact ke b ob hb)
 ·by_cases q:b=a
  ·subst q;exact la
  ·rw[Γ q]at e;exact x.low b o e
 ·obtain⟨fs,h1,h2⟩:=x.frames
  refine⟨fs,h1,λ env he=>?_⟩
  obtain⟨k1,L,o',k2,k3,k4,k5,k6⟩:=h2 env he
  exact⟨k1,L,o',k2,ke _ _ k3,k4,by rw[Γ (λ z=>by subst z;rw[na]at k3;cases k3)];exact k5,k6⟩
 ·rw[Γ (λ z=>by subst z;rw[na]at e2;cases e2)];exact e1
 ·by_cases q:b=a
  ·subst q;refine ah▸?_;simp
  ·exact(Γ q)▸(e)
theorem ach{A:bS}{s:Shared}{R:Value->Shared->Prop}{X:Value->Shared->Prop}{vs:List Value}{ss:List Str}(hS:StrsAre vs ss)(Qu:vs.length<64){h0:Heap}(ke:∀b o,h0.get? b=some o->s.heap.get? b=some o)
  (h:∀(out:List Value) (iN:List Str) h',StrsAre out iN->iN.Perm ss->sortedS iN=true->(∀b o,h0.get? b=some o->h'.get? b=some o)->SeqAt "list" h' s.heap.objs.size out.toArray->R (.ref s.heap.objs.size) {s with heap:=h'}):
  wpAny (MM g) A (do let l <- newList vs;let _ <- rR [l] (call (.builtin "list.sort") [l]);pure (Fin.done (.ret l))) (λ fin s'=>match fin with| .done (.ret v)=>R v s' |_=>False) X s:=by
 have ib:vs.length<=sizeLine:=by exact mR▸(aH Qu (by simp +arith only))
 refine Δ (wpAny_newList ?_ ib)
 have hB:(s.heap.push (seqObj "list" vs.toArray 0)).get? s.heap.objs.size=some (seqObj "list" vs.toArray 0):=fZ _ rfl
 refine Δ (gY (xR slot_list_sort ⟨_,hB,rfl⟩ entry_list_sort (list_sort_treeK strKind_oneLt hB hS.keysOf (λ agw agx rest e=>keyKind_strs (by rw[<- e];exact hS)) Qu λ st' hp hs=>⟨_,rfl,aL ?_⟩) (args_list_sort _)))
 refine fh (sorted_out_str hS hp hs) λ iN h1 h2 h3=>?_
 refine Θ (sortedHeap_at (vs:=vs) (out:=(arrOf st').map (·.2)) hB) λ e he=>?_
 refine h _ iN _ h1 h2 h3 (λ b o hb=>?_) ⟨e,by refine Array.toArray_toList▸?_;exact he⟩
 have fq:=dO (ke b o hb)
 dsimp only
 rw[sortedHeap_old (gc fq) (by rw[size_push'];exact Nat.lt_succ_of_lt fq)]
 exact ez _ (ke b o hb)
theorem Qv:∀{vs:List Value}{ss:List Str},StrsAre vs ss->vs.map nv=ss.map sv
 |_,_,.nil=>rfl
 |_,_,.cons y t h=>by simp[Qv h]
theorem μ.Qw(hss:ss.length<64)
  (K:∀A s,aC g k none A H s->∃n P OK,KdlSrc PW g.w T r d n P OK/\OK s.heap/\n<=sizeLine/\∀acc,ItemsOf P acc n->StrsAre acc.toList ss)
  (q:∀a iN,H a=none->iN.Perm ss->sortedS iN=true->Q (.ref a) (ξ H a (.κ true (iN.map sv)))):μ g k (.builtin "sorted") [.ref r] H Q E:=by
 intro A s raw aO hA
 refine ψ (r8 aO) λ b aci hb=>?_;refine aci.symm▸?_
 obtain rfl:=a8 hb
 refine Ei (K A s hA) λ n P OK K lI hn EZ=>?_
 refine call_function_entry kind_sorted plain_sorted entry_sorted (args_sorted1 _) ?_
 refine Δ (m:=checkCount "sorted" 1 1 _) (aL ?_)
 refine Δ (kdu_collect (A:=A.in1) K hA.hand lI hn λ h' tk acc hk acj=>?_)
 have hS:=EZ _ acj
 have hlen:acc.toList.length<64:=by
  have:∀{vs:List Value}{ss:List Str},StrsAre vs ss->vs.length=ss.length:=λ h=>by induction h with|nil=>rfl |cons y t _ ih=>simp[ih]
  exact(this hS)▸(hss)
 have nB:s.heap.get? h'.objs.size=none:=by
  cases e:s.heap.get? h'.objs.size with
  |none=>rfl
  |some o=>exact absurd (dO (hk _ _ e)) (GW _)
 have lB:g.cm.objs.size<=h'.objs.size:=by
  refine c7 hA.ok.top λ t o e1 e2=>?_
  exact e2▸(dO (hk _ _ (hA.old _ _ e1)))
 refine cD (ach (g:=g) (s:={s with heap:=h',toks:=tk}) (R:=λ v s'=>xF g k A H s Q v s') hS hlen hk λ out iN h'' o1 o2 o3 o4 o5=>?_) (λ fin s' z=>?_) λ _ _ z=>z
 ·obtain⟨f1,f2,f3⟩:=hA.fresh (ao:=.κ true (iN.map sv)) o4 nB lB ⟨out.toArray,o5,by simpa using Qv o1⟩ tk
  exact⟨_,f2,f3,q _ iN f1 o2 o3⟩
 ·cases fin with
  |done f=>cases f with
   |ret v=>exact⟨v,rfl,z⟩
   |_=>exact z.elim
  |again c=>exact z.elim
end
section
variable {k:Nat}
inductive jY(H:AH)(v:Value)(L:List Str):Prop
 |l (a:Addr) (e:v=.ref a) (h:H a=some (.κ true (L.map sv))):jY H v L
 |t (a:Addr) (e:v=.ref a) (h:H a=some (.φ (L.map sv))):jY H v L
theorem jY.fz(F:Fz H H')(h:jY H v L):jY H' v L:=by
 cases h with
 |l a e h=>exact .l a e (F _ _ h rfl)
 |t a e h=>exact .t a e (F _ _ h rfl)
theorem vN(H:AH):∀L:List Str,jr H (L.map sv) (L.map .str)
 | []=>trivial
 |_::L=>⟨rfl,vN H L⟩
theorem vO:∀{L:List Str},(∀l∈L,bF l)->i4 (L.map .str)=true
 | [],_=>by simp[i4]
 |l::L,h=>by
  rw[u_]
  unfold i4
  rw[vO λ x hx=>h x (eA _ hx),BC]
  exact h l eU
theorem HR:((L.map PyData.str).any λ y=>eW y (.str l))=bB l L:=by
 rw[List.any_map]
 congr 1
theorem pK:(PyData.str l).depth<=30:=by
 have:(PyData.str l).depth=0\/(PyData.str l).depth=1:=by
  first |exact .inl rfl |exact .inr rfl | (simp[PyData.depth])
 rcases this with h |h <;> rw[h] <;> decide
theorem Qx{c:Cx}{m:Lc}{Q:Value->Lc->AH->Prop}{X:Value->Lc->AH->Prop}{lv:Value}(h:jY H lv L)(h1:bF l)(h2:∀x∈L,bF x)(q:Q (.bool (!bB l L)) m H):Ω g c (cJ .NotIn) (.str l 0) lv m H Q X:=by
 rw[<- HR]at q
 cases h with
 |l a e h=>exact e▸Ω.nil (xs:=L.map .str) (d:=.str l) ⟨a,true,_,rfl,h,vN H L⟩ rfl (vO h2) h1 pK q
 |t a e h=>exact e▸Ω.ahg (xs:=L.map .str) (d:=.str l) ⟨a,_,rfl,h,vN H L⟩ rfl (vO h2) h1 pK q
theorem ack{c:Cx}{m:Lc}{Q:Value->Lc->AH->Prop}{X:Value->Lc->AH->Prop}{lv:Value}(h:jY H lv L)(h1:bF l)(h2:∀x∈L,bF x)(q:Q (.bool (bB l L)) m H):Ω g c (cJ .In) (.str l 0) lv m H Q X:=by
 rw[<- HR]at q
 cases h with
 |l a e h=>exact e▸Ω.inl (xs:=L.map .str) (d:=.str l) ⟨a,true,_,rfl,h,vN H L⟩ rfl (vO h2) h1 pK q
 |t a e h=>exact e▸Ω.int (xs:=L.map .str) (d:=.str l) ⟨a,_,rfl,h,vN H L⟩ rfl (vO h2) h1 pK q
def gw:Ot->Prop
 | .brk l=>bF l
 | .cnt l=>bF l
 |_=>True
theorem Qy:(if(l.cps.toList != [])= true/\bB l L = false then 2 else j)= if(l.cps.toList != [])= true then(if(!bB l L)= true then 2 else j)else j:=by
 cases(l.cps.toList != []) <;> cases bB l L <;> rfl
theorem HS(r:OR H w o)(ho:gw o)(hl:jY H lv L)(hL:∀x∈L,bF x)(hk:1<=k)(hq:Q (.int (fH L o) 0) H):μ g k (.ref 1208) [w,lv] H Q X:=by
 refine μ.en (fT 68 rfl) rfl hk λ c ow _=>?_
 ktf_call"g"
 cases o with
 |χ=>ktf_call"g";exact hq
 |ret v=>ktf_call"g";exact hq
 |brk l=>
  have pl:=r.pl (.inl rfl)
  rw[show fH L (.brk l)=_ from Qy (l:=l) (L:=L) (j:=1)]at hq
  ktf_call"g"
  generalize (l.cps.toList != [])= b at hq⊢
  cases b with
  |false=>ktf_call"g";exact hq
  |true=>
   ktf_call"g"
   refine mm.oc (Qx hl ho hL ?_)
   ktf_call"g"
   generalize (!bB l L)=b at hq⊢
   cases b with
   |true=>ktf_call"g";exact hq
   |false=>ktf_call"g";exact hq
 |cnt l=>
  have pl:=r.pl (.inr rfl)
  rw[show fH L (.cnt l)=_ from Qy (l:=l) (L:=L) (j:=0)]at hq
  ktf_call"g"
  generalize (l.cps.toList != [])= b at hq⊢
  cases b with
  |false=>ktf_call"g";exact hq
  |true=>
   ktf_call"g"
   refine mm.oc (Qx hl ho hL ?_)
   ktf_call"g"
   generalize (!bB l L)=b at hq⊢
   cases b with
   |true=>ktf_call"g";exact hq
   |false=>ktf_call"g";exact hq
 |aw v=>exact r.not.elim
theorem acm(np:NP (some ν) H v x 8 a kv)(hk:1<=k)(hq:∀H' l,Ext H H'->H' l=some (.κ true [v])->Q (.ref l) H'):μ g k (.ref 77) [v] H Q X:=by
 refine μ.gh (μ.en (fT 5 rfl) rfl hk λ c o _=>?_)
 ktf_call"g"
 ktf_call"lf"
 ktf_call"T";intro H₁ ol aJ Hs sI;ktf_call"g"
 ktf_call"lf"
 ktf_call"T";intro ο st a9 sJ iY;ktf_call"g"
 have jt:ol≠st:=λ e=>by subst e;rw[sI]at sJ;exact nS sJ
 have acn:=aJ.none sJ
 have E:=a9.trans' aJ
 have sI:=a9 _ _ sI
 clear aJ a9 sJ
 refine mm.wl o (I:=λ j m' H'=>m'=[(12,.ref ol),(13,.ref st)]/\Ext H H'/\((j=1/\H' st=some (.κ false [v])/\H' ol=some (.κ false []))\/(j=0/\H' st=some (.κ false [])/\H' ol=some (.κ false [v])))) (n:=1) (by exact⟨rfl,rfl,trivial⟩) ⟨rfl,E,.inl ⟨rfl,iY,sI⟩⟩ ?_
 rintro j _ H₁ ⟨rfl,E,⟨rfl,h1,h2⟩|⟨rfl,h1,h2⟩⟩
 ·ktf_call"g"
  refine mm.tr (bH.κ h1 (hW rfl) ?_)
  ktf_call"g"
  refine mm.lp (vs:=[]) h1 (by decide) ?_
  have E2:Ext H (ξ H₁ st (.κ false [])):=Ext.own acn E
  have h3:ξ H₁ st (.κ false []) st=some (.κ false []):=ah
  have h4:ξ H₁ st (.κ false []) ol=some (.κ false []):=by rw[Γ jt];exact h2
  generalize ξ H₁ st (.κ false [])=ο at E2 h3 h4⊢
  ktf_call"g"
  refine mm.wl o (I:=λ j m' H'=>m'=[(12,.ref ol),(13,.ref st),(14,v)]/\H'=ο) (n:=0) (by exact⟨rfl,rfl,rfl,trivial⟩) ⟨rfl,rfl⟩ ?_
  intro j _ _ aco;obtain⟨rfl,rfl⟩:=aco
  ktf_call"g"
  exact⟨0,_,by decide,by exact⟨rfl,rfl,trivial⟩,rfl,Ext.own Hs E2,.inr ⟨rfl,by rw[Γ (cP jt)];exact h3,ah⟩⟩
 ·ktf_call"g"
  refine mm.tr (bH.κ h1 (hW rfl) ?_)
  ktf_call"g"
  exact⟨_,Gh.fl (z:=true) h2,hq _ ol (Ext.own Hs E) ah⟩
end
section
variable {H:AH}{k:Nat}
structure iO(H:AH)(s:bI)(y yd cd:Addr)(up:Value)(cells:List (Str×Value)):Prop where
 e:s.env=.ref y
 a1:H y=some (.ins 237 yd)
 a2:H yd=some (.ai true [(47,.ref cd),(46,up)])
 cd:H cd=some (.sd false cells)
theorem iO.mono{H':AH}{s':bI}{y yd cd:Addr}(h:iO H s y yd cd up cells)(F:Fz H H')(e:s'.env=s.env)(k:H' cd=H cd):iO H' s' y yd cd up cells:=
 ⟨e.trans h.e,F _ _ h.a1 rfl,F _ _ h.a2 rfl,k.trans h.cd⟩
theorem iO.ext{H':AH}{y yd cd:Addr}(h:iO H s y yd cd up cells)(E:Ext H H'):iO H' s y yd cd up cells:=h.mono E.fz rfl ((E _ _ h.cd).trans h.cd.symm)
theorem iO.fd{y yd cd:Addr}(h:iO H s y yd cd up cells)(M:MS H C s):Fd H (.ref C.m) 104 (.ref y):=h.e▸M.fd rfl rfl (by exact h.e▸rfl)
theorem iO.Qz{y yd cd:Addr}(h:iO H s y yd cd up cells):Fd H (.ref y) 47 (.ref cd):=⟨λ _ _ _ _ _ q=>c_.fl h.a1 h.a2 rfl rfl rfl q⟩
structure vP(C:MC)(a:Addr):Prop where
 h0:C.d≠a
 h1:C.sn≠a
 h2:C.tl≠a
 h3:C.th≠a
theorem MS.ol(M:MS H C s)(h:H a=some o)(hi:o.x_=false)(q:vP C a):MS (ξ H a o') C s/\Fz H (ξ H a o'):=
 ⟨M.of (Fz.set h hi) (Γ q.h0) (Γ q.h1) (Γ q.h2) (Γ q.h3),Fz.set h hi⟩
theorem BE(n:H a=none)(h:H b=some o):b≠a:=λ z=>by rw[<- z,h]at n;exact nS n
theorem MS.ln(M:MS H C s)(n:H a=none):vP C a:=by
 refine Θ M.seen.get λ _ b=>?_
 refine Θ M.aj.get λ _ c=>?_
 refine ψ M.jT λ _ d _=>?_
 exact⟨BE n M.dd,BE n b,BE n c,BE n d⟩
structure QA(bE:AH)(H:AH)(C:MC)(s:bI)(y yd cd:Addr)(up:Value)(nm:Str)(la:Addr)(w:Value):Prop where
 fz:Fz bE H
 ms:MS H C s
 op:iO H s y yd cd up [(nm,.ref la)]
 jM:vP C la
 la:H la=some (.κ false [w,.int 0 0])
 vr:VR H w .u
theorem acp(M:MS H C s)(O:iO H s y yd cd up [])(hk:2<=k)(hq:∀H' la w,QA H H' C s y yd cd up nm la w->Q .none H'):
  μ g k (.ref 1024) [.ref C.m,.str nm 0] H Q X:=by
 refine μ.en (fT 55 rfl) rfl hk λ c o _=>?_
 ktf_call"g"
 ktf_call"lf"
 refine Hv (by ktf_call"k") λ H₁ w aJ hw=>?_
 ktf_call"g"
 ktf_call"T";intro ο la a9 yF hO
 have E:=a9.trans' aJ
 have M2:=M.ext E
 have O2:=O.ext E
 have f1:=O2.fd M2
 have f2:=O2.Qz
 have oc:=O2.cd
 ktf_call"g"
 refine mm.si (dK.sd oc (by decide) ?_)
 ktf_call"g"
 refine ag (M2.sd (o':=.sd false (js nm (.ref la) [])) oc) λ M3 F3=>?_
 exact hq _ la w ⟨E.fz.trans F3,M3,⟨O.e,F3 _ _ O2.a1 rfl,F3 _ _ O2.a2 rfl,ah⟩,((M.ext aJ).ln yF),eX.h hO oc rfl,(hw.fz a9.fz).fz F3⟩
theorem QB{hv dv nv:Value}(eY:NP (some ν) H hv hx 41 (.str r_ 0) [dv])(fL:NP (some ν) H dv dx 42 (.str s_ 0) [nv,.none,.none])(ic:NP (some ν) H nv n 8 (.str bC 0) [])(M:MS H C s)(O:iO H s y yd cd up [])(hk:3<=k)
  (hq:∀H' la w,QA H H' C s y yd cd up bC la w->Q .none H'):μ g k (.ref 1066) [.ref C.m,hv] H Q X:=by
 refine μ.en (fT 59 rfl) rfl hk λ c o _=>?_
 ktf_call"g"
 refine mm.ks eY λ kl eB=>?_
 ktf_call"g"
 refine mm.f1 (Goes.list eB) eB ?_
 ktf_call"g"
 refine acm ic (by ktf_call"k") λ H₁ l aJ hl=>?_
 have agy:=ic.fz aJ.fz
 ktf_call"g"
 refine mm.f1 (Goes.list hl) hl ?_
 ktf_call"g"
 refine acp (M.ext aJ) (O.ext aJ) (by ktf_call"k") λ ο la w D=>?_
 ktf_call"g"
 refine⟨D.fz _ _ hl rfl,?_⟩
 ktf_call"g"
 refine⟨D.fz _ _ (aJ _ _ eB) rfl,?_⟩
 ktf_call"g"
 exact hq _ la w ⟨aJ.fz.trans D.fz,D.ms,D.op,D.jM,D.la,D.vr⟩
structure QC(bE:AH)(H:AH)(C:MC)(s:bI)(y yd cd:Addr)(up:Value)(la:Addr)(v:Value)(p:Int×SV):Prop where
 fz:Fz bE H
 ms:MS H C {s with seen:=s.seen++[p]}
 op:iO H s y yd cd up [(bC,.ref la)]
 la:H la=some (.κ false [v,.int 2 0])
theorem acq{nv v:Value}{n y yd cd la:Addr}(ic:NP (some ν) H nv n 8 (.str bC 0) [])(M:MS H C s)(O:iO H s y yd cd up [(bC,.ref la)])(hO:H la=some (.κ false [w0,.int 0 0]))(hd:vP C la)(hv:VR H v u)(ib:s.seen.length<2 ^ 18)(hk:3<=k)
  (hq:∀H',QC H H' C s y yd cd up la v (ν n,u)->Q .none H'):μ g k (.ref 1031) [.ref C.m,nv,v,.int 2 0] H Q X:=by
 refine μ.en (fT 56 rfl) rfl hk λ c o _=>?_
 have f1:=O.fd M
 have f2:=O.Qz
 have oc:=O.cd
 ktf_call"g"
 rw[show(atK bC [(bC,Value.ref la)]).getD .none=.ref la from rfl]
 ktf_call"g"
 refine mm.si (dK.κ hO (by decide) (by decide) (hW rfl) ?_)
 ktf_call"g"
 refine mm.si (dK.κ (l:=la) (vs:=[v,.int 0 0]) ah (by decide) (by decide) (hW rfl) ?_)
 rw[l7]
 refine ag (M.ol (o':=.κ false [v,.int 2 0]) hO rfl hd) λ M1 F1=>?_
 have O1:=O.mono (s':=s) F1 rfl (Γ (cG oc hO rfl))
 have sX:ξ H la (.κ false [v,.int 2 0]) la=some (.κ false [v,.int 2 0]):=ah
 show Mine.M _ _ _ _ _ _ _ (ξ H la (.κ false [v,.int 2 0]))
 generalize ξ H la (.κ false [v,.int 2 0])=H₁ at M1 F1 O1 sX⊢
 ktf_call"g"
 refine PU M1 (hv.fz F1) (Bt ib) (by ktf_call"k") λ ο dB QD oC=>?_
 ktf_call"g"
 refine Θ M1.seen.get λ ws w1=>?_
 exact hq _ ⟨F1.trans dB,oC,O1.mono dB rfl ((QD _ _ O1.cd (cG O1.cd w1 rfl)).trans O1.cd.symm),QD _ _ sX (cP hd.h1)⟩
theorem acr(hk:1<=k)(hq:Q (.int 2 0) H):μ g k (.ref 1059) [.str r_ 0] H Q X:=by
 refine μ.en (fT 58 rfl) rfl hk λ c o _=>?_
 ktf_call"g"
 exact hq
theorem acs{nv v:Value}{n y yd cd la:Addr}(ic:NP (some ν) H nv n 8 (.str bC 0) [])(M:MS H C s)(O:iO H s y yd cd up [(bC,.ref la)])(hO:H la=some (.κ false [w0,.int 0 0]))(hd:vP C la)(hv:VR H v u)(ib:s.seen.length<2 ^ 18)(hk:4<=k)
  (hq:∀H',QC H H' C s y yd cd up la v (ν n,u)->Q .none H'):μ g k (.ref 1052) [.ref C.m,.str r_ 0,nv,v] H Q X:=by
 refine μ.en (fT 57 rfl) rfl hk λ c o _=>?_
 ktf_call"g"
 refine acr (by ktf_call"k") ?_
 ktf_call"g"
 refine acq ic M O hO hd hv ib (by ktf_call"k") λ H' L=>?_
 ktf_call"g"
 exact hq _ L
theorem acu(eY:NP (some ν) H hv hx 41 (.str r_ 0) kv)(hk:1<=k)(hq:Q (.bool true) H):μ g k (.ref 1236) [hv] H Q X:=by
 refine μ.en (fT 70 rfl) rfl hk λ c o _=>?_
 refine mm.aP o 3 rfl ?_
 refine mm.a3 (λ Q X R hR=>?_) (λ Q X R hR=>?_) (v:=.bool true) (λ Q X R hR=>?_) ?_
 ·ktf_call"g"
  refine eY.ne▸?_
  exact hR
 ·ktf_call"g"
  exact hR
 ·ktf_call"g"
  exact hR
 ·ktf_call"g"
  exact hq
theorem MS.cls{y yd cd la:Addr}{up w:Value}{st:Int}(M:MS H C s)(O:iO H s y yd cd up [(bC,.ref la)])(hO:H la=some (.κ false [w,.int st 0]))(hd:vP C la)(hv:VR H w u)(hE:a_ H up E n):
  ∃H',Gh g H (ξ H cd (.sd true [(bC,.ref la)]))/\Gh g (ξ H cd (.sd true [(bC,.ref la)])) H'/\Fz H H'/\MS H' C s/\a_ H' (.ref y) ((bC,u,st != 0)::E) (n+1):=by
 refine ag (M.sd (o':=.sd true [(bC,.ref la)]) O.cd) λ M1 F1=>?_
 have l1:ξ H cd (.sd true [(bC,.ref la)]) la=some (.κ false [w,.int st 0]):=eX.h hO O.cd rfl
 refine ag (M1.ol (o':=.κ true [w,.int st 0]) l1 rfl hd) λ M2 F2=>?_
 have F:=F1.trans F2
 exact⟨_,Gh.fs (z:=true) O.cd,Gh.fl (z:=true) l1,F,M2,.sc (cs:=[(bC,u,st != 0)]) (cells:=[(bC,.ref la)]) (F _ _ O.a1 rfl) (F _ _ O.a2 rfl) (F2 _ _ ah rfl) ⟨⟨rfl,la,w,st,rfl,ah,hv.fz F,rfl⟩,trivial⟩ (hE.fz F)⟩
end
section
variable {k:Nat}
structure oE(ν:Addr->Int)(H:AH)(hv dv nv:Value)(hx dx n:Addr):Prop where
 a:NP (some ν) H hv hx 41 (.str r_ 0) [dv]
 b:NP (some ν) H dv dx 42 (.str s_ 0) [nv,.none,.none]
 c:NP (some ν) H nv n 8 (.str bC 0) []
theorem oE.fz{H':AH}{hv dv nv:Value}(h:oE ν H hv dv nv hx dx n)(F:Fz H H'):oE ν H' hv dv nv hx dx n:=⟨h.a.fz F,h.b.fz F,h.c.fz F⟩
theorem acv{v kv hv dv nv rv bv a it:Value}{x hx dx n:Addr}{kind:Int}(np:NP (some ν) H v x kind a [hv,rv,bv])(h3:oE ν H hv dv nv hx dx n)
  (M:MS H C s) (hE:a_ H s.env E nn) (sV:s.env=kv) (d8:VR H it u) (hB:Bd s B) (aI:B+1+cb<=19990) (rb:∀H' ev m,Fz H H'->a_ H' ev ((bC,u,true)::E) m->Runs g C kk H' ev s.dp bv cb F) (hk:kk+1<=k) (bO:6<=k)
  (hq:∀H' s' ev w o,Af H C {s with env:=ev} (B+1+cb) H' s'->F ⟨s.seen++[(ν n,u)],s.aj⟩=(o,s'.sg)->OR H' w o->Q w H')
  (hX:∀H' s' ev w y,Af H C {s with env:=ev} (B+1+cb) H' s'->F ⟨s.seen++[(ν n,u)],s.aj⟩=(.aw y,s'.sg)->VR H' w y->X w H'):μ g k (.ref 1264) [.ref C.m,v,kv,it] H Q X:=by
 subst sV
 refine μ.en (fT 72 rfl) rfl bO λ cx o ek=>?_
 have kc:kk<=cx.k:=by exact aH (aT hk (aU ek.symm)) (by simp +arith only)
 ktf_call"g"
 refine acu h3.a (by ktf_call"k") ?_
 ktf_call"gq"
 refine mm.scope M hE (by ktf_call"k") rfl λ H₁ y yd cd bN iM y1 y2 y3 Sc=>?_
 have pL:=h3.fz bN
 have eY:=np.fz bN
 have v1:=d8.fz bN
 have rb1:=λ H' ev m Z=>rb H' ev m (bN.trans Z)
 clear np h3 d8 rb
 ktf_call"g"
 refine QB pL.a pL.b pL.c iM ⟨rfl,y1,y2,y3⟩ (by ktf_call"k") λ ο la w0 D=>?_
 have HT:=pL.fz D.fz
 have n1:=HT.a
 have n2:=HT.b
 ktf_call"g"
 refine acs (HT.c) D.ms D.op D.la D.jM (v1.fz D.fz) (by show s.seen.length<_;exact hB.sl (n:=1+cb) (by exact aH aI (by simp +arith only))) (by ktf_call"k") λ ω L=>?_
 obtain⟨ar,G1,G2,cF,ie,vL⟩:=L.ms.cls (L.op.mono Fz.refl rfl rfl) L.la D.jM (v1.fz (D.fz.trans L.fz)) (hE.fz ((bN.trans D.fz).trans L.fz))
 refine mm.aP o 1 rfl ?_
 refine mm.gh (l:=[.ret (.au (.θ 94) 122 [.sub (.π (.θ 14) 3) (.int 2)])]) G1 (mm.gh G2 ?_)
 have Z:=(D.fz.trans L.fz).trans cF
 have sL:=eY.fz Z
 ktf_call"g"
 refine(rb1 ar _ _ Z vL _ _ (B+1) Fz.refl ie rfl rfl ((hB.HI _).same rfl rfl rfl rfl) aI).up kc _ _ (λ gM acw HU ot A e r=>?_) λ gM acw HU acx A e r=>?_
 ·ktf_call"g"
  exact hq _ _ (.ref y) HU ot ⟨(bN.trans Z).trans A.fz,A.ms,A.env,A.dp,A.bd⟩ e r
 ·exact hX _ _ (.ref y) HU acx ⟨(bN.trans Z).trans A.fz,A.ms,A.env,A.dp,A.bd⟩ e r
theorem HV(E:Ev):rd ((bC,SV.u,false)::E) bC=none:=by simp[rd,gN]
noncomputable def BF:Row->Ex
 | .txt t=>.str t
 | .bad y=>.dA bC y
theorem RR.fz(F:Fz H H')(rr:RR (some ν) H rv row):RR (some ν) H' rv row:=by
 cases row with
 |txt t=>obtain⟨z,h⟩:=rr;exact⟨z,h.fz F⟩
 |bad z=>exact NP.fz F rr
theorem acy(rr:RR (some ν) H rv row):ER (some ν) H rv (BF row)/\m7 (BF row):=by
 cases row with
 |txt t=>exact⟨rr,trivial⟩
 |bad z=>exact⟨rr,.inr (.inl rfl)⟩
inductive HW(row:Row)(s s':bI)(u:SV):Prop
 |t (t:Str) (e:row=.txt t) (e2:s'.sg=s.sg) (e3:u=.s t):HW row s s' u
inductive HX(ν:Addr->Int)(row:Row)(s s':bI)(u:SV):Prop
 |b (y:Addr) (e:row=.bad y) (e2:s'.sg=⟨s.seen,s.aj++[ν y]⟩) (e3:u=.o s.aj.length):HX ν row s s' u
theorem acz(e:dm ν ((bC,.u,false)::E) (BF row) s.sg=(.ok u,s'.sg)):HW row s s' u:=by
 cases row with
 |txt t=>exact .t t rfl (by injection e with h1 h2;exact h2.symm) (by injection e with h1 h2;injection h1 with h1;exact h1.symm)
 |bad z=>have e:=(yx (HV E)).symm.trans e;injection e with h1 h2;cases h1
theorem acA(e:dm ν ((bC,.u,false)::E) (BF row) s.sg=(.error u,s'.sg)):HX ν row s s' u:=by
 cases row with
 |txt t=>injection e with h1 h2;cases h1
 |bad z=>have e:=(yx (HV E)).symm.trans e;exact .b z rfl (by injection e with h1 h2;exact h2.symm) (by injection e with h1 h2;injection h1 with h1;exact h1.symm)
theorem QE{v a hv dv nv rv bv:Value}{x hx dx n:Addr}{kind:Int}(np:NP (some ν) H v x kind a [hv,rv,bv])(h3:oE ν H hv dv nv hx dx n)
  (rr:RR (some ν) H rv row) (M:MS H C s) (hE:a_ H s.env E nn) (hB:Bd s B) (aI:B+3<=19990) (aE:s.dp<44) (hk:19<=k)
  (hq:∀H' s' w u,HW row s s' u->Af H C s (B+2) H' s'->VR H' w u->Q w H')
  (hX:∀H' s' w u,HX ν row s s' u->Af H C s (B+2) H' s'->VR H' w u->X w H'):μ g k (.ref 1257) [.ref C.m,v] H Q X:=by
 have pA:=hE.dat
 refine μ.en (fT 71 rfl) rfl hk λ c o _=>?_
 ktf_call"gq"
 refine mm.scope M hE (by ktf_call"k") rfl λ H₁ y yd cd bN iM y1 y2 y3 Sc=>?_
 have eY:=np.fz bN
 have pL:=h3.fz bN
 clear h3 np
 ktf_call"g"
 refine QB pL.a pL.b pL.c iM ⟨rfl,y1,y2,y3⟩ (by ktf_call"k") λ ω la w0 D=>?_
 obtain⟨ar,G1,G2,cF,ie,vL⟩:=D.ms.cls D.op D.la D.jM D.vr (hE.fz (bN.trans D.fz))
 refine mm.aP o 1 rfl ?_
 refine mm.gh (l:=[.ret (.au (.θ 94) 72 [.sub (.π (.θ 14) 3) (.int 1)])]) G1 (mm.gh G2 ?_)
 have Z:=D.fz.trans cF
 have sL:=eY.fz Z
 have ZZ:=bN.trans Z
 obtain⟨er,ok⟩:=acy (RR.fz ZZ rr)
 ktf_call"g"
 refine sU er ok ie vL (hB.same rfl rfl rfl rfl) (by exact aZ (by assumption) (by decide)) aE (by ktf_call"k") (λ aV f_ w u A e r=>?_) λ aV f_ w u A e r=>?_
 ·ktf_call"g"
  refine mm.ms A.ms {f_ with env:=s.env} rfl rfl rfl rfl rfl λ cU bT eK=>?_
  ktf_call"g"
  exact hq _ {f_ with env:=s.env} w u (acz e) (A.back ZZ bT eK) (r.fz bT)
 ·ktf_call"g"
  refine mm.ms A.ms {f_ with env:=s.env} rfl rfl rfl rfl rfl λ cU bT eK=>?_
  ktf_call"g"
  exact hX _ {f_ with env:=s.env} w u (acA e) (A.back ZZ bT eK) (r.fz bT)
end
section
variable {k:Nat}
theorem acB{R:Nat->Value->Prop}{vs:List Value}(hl:vs.length=n)(h:∀i v,vs[i]?=some v->R i v)(q:R n w):∀i v,(vs++[w])[i]?=some v->R i v:=by
 intro i v hv
 by_cases hj:i<vs.length
 ·rw[Pt hj]at hv;exact h i v hv
 ·have hj:=Nat.le_of_not_lt hj
  rw[List.getElem?_append_right hj]at hv
  obtain⟨h1,h2⟩:=List.getElem?_eq_some_iff.mp hv
  have e:i=n:=by exact hl▸(x9 (acC (Nat.lt_one_iff.mp h1)) hj)
  rw[List.getElem_singleton]at h2
  exact e▸h2▸(q)
theorem acD(hl:vs.length=n):(vs++[w]).length=n+1:=by exact iK▸hl▸rfl
structure CE(H:AH)(R:Nat->Value->AH->Prop)(i:Nat)(vs:List Value)(H':AH):Prop where
 e:Ext H H'
 l:vs.length=i
 r:∀j w,vs[j]?=some w->R j w H'
theorem acE{xs:List Value}(h:xs[i]?=some x)(k:xs.length<=n):i<=n:=Ψ (jo (List.getElem?_eq_some_iff.mp h).1) k
theorem yG{el:PE}{t:Nat}{v:Value}{xs:List Value}{J:AH->Prop}{Fin:Value->AH->Prop}(R:Nat->Value->AH->Prop)(hG:Goes g c v xs J H)(hJ:∀H',Ext H H'->J H')(hlen:xs.length<=1000)
  (hel:∀i x H' aN cY,xs[i]?=some x->Ext H H'->V g ⟨c.k,none,aN,cY,c.fe⟩ el [(t,x)] H' (λ w lA aD=>lA=[(t,x)]/\Ext H' aD/\R i w aD) No) (hR:∀i w H₁ ο,Fz H₁ ο->R i w H₁->R i w ο)
  (fin:∀a H' vs,H a=none->Ext H H'->H' a=some (.κ false vs)->vs.length=xs.length->(∀i w,vs[i]?=some w->R i w H')->Fin (.ref a) H'):pn g c el t [] v H Fin:=by
 refine⟨xs,J,hG,λ a ha=>⟨CE H R,⟨Ext.new ha,rfl,λ j w h=>by simp at h⟩,⟨λ i x vs H' D h1 hx=>⟨hJ _ D.e,D.l▸acE hx hlen,λ aN cY hn=>⟨rfl,h1,?_⟩⟩,λ vs H' D=>hJ _ D.e⟩,λ vs H' D h1=>fin a H' vs ha D.e h1 D.l D.r⟩⟩
 intro n e he
 refine W.mono (hel i x H' aN cY hx D.e n e he) (λ w lA aD z=>?_) λ _ _ _ z=>z
 have e2:=z.2.1
 have Z:Fz aD (ξ aD a (.κ false (vs++[nv w]))):=Fz.set (e2 _ _ h1) rfl
 exact⟨z.1,e2 _ _ h1,Ext.own ha (D.e.trans e2),acD D.l,acB (R:=λ j w=>R j w _) D.l (λ j w q=>hR _ _ _ _ (e2.fz.trans Z) (D.r j w q)) (hR _ _ _ _ Z z.2.2)⟩
variable {st:List Value}
def KV(Q':Value->Lc->AH->Prop):List Value->Lc->AH->Prop:=λ st m H=>match st with| [v]=>Q' v m H |_=>False
theorem KV.i(h:Q' v m H):KV Q' [v] m H:=h
theorem V.ma(h:M g c (λ _ _ _=>True) X [.v e,.kk (KV Q')] [] m H):V g c e m H Q' X:=h
theorem mm.ca(hd:c.hd=none)(e:GT.lookup f=some u)(e':isCall u=true)(h:M g c Q X (.args as [] (.call u)::C) st m H):M g c Q X (.v (.call f as)::C) st m H:=V.ca hd e e' h
theorem mm.cp(o:Fc c n)(h:M g c (λ _ _ _=>True) X [.v src,.kk (KV λ v ρ H₁=>pn g c el t ifs v H₁ λ w H'=>M g c Q X C (w::st) ρ H')] [] m H):M g c Q X (.v (.comp el t src ifs)::C) st m H:=
 V.comp o.hd (V.ma h)
theorem mm.ac(o:Fc c n)(h:M g c (λ _ _ _=>True) X [.v src,.kk (KV λ v ρ H₁=>pn g c el t ifs v H₁ λ w H'=>M g c Q X C st (put i w ρ) H')] [] m H):M g c Q X (.s (.Φ i (.comp el t src ifs))::C) st m H:=
 S1.aar o.hd (V.ma h)
end
section
variable {k:Nat}{C:MC}
def asc(t:Str):Prop:=t.cps.all (·<128)=true/\t.cps.size<=3
inductive Ch(t:Str)(H:AH)(i:Nat)(w:Value):Prop
 |mk (ch:Nat) (e:t.cps.toList[i]?=some ch) (r:VR H w (.s ⟨#[ch]⟩)):Ch t H i w
theorem QF{t:Str}{i:Nat}(h:(pk t)[i]?=some x):∃ch,t.cps.toList[i]?=some ch/\x=.str ⟨#[ch]⟩ 0:=by
 unfold pk at h
 rw[iB]at h
 cases e:t.cps.toList[i]? with
 |none=>rw[e]at h;exact nN h
 |some ch=>rw[e]at h;exact⟨ch,rfl,(bY h).symm⟩
theorem vQ:(pk t).length=t.cps.size:=by simp[pk]
theorem acF(hv:VR H v (.s t))(ht:asc t)(hk:2<=k)
  (hq:∀H' l vs,Ext H H'->H' l=some (.κ false vs)->vs.length=t.cps.size->(∀(i:Nat) w,vs[i]?=some w->Ch t H' i w)->Q (.ref l) H'):μ g k (.ref 890) [.ref C.m,v,.int iH 0] H Q X:=by
 refine μ.en (fT 44 rfl) rfl hk λ c o _=>?_
 ktf_call"g"
 refine mm.cp o ?_
 ktf_call"g"
 refine KV.i (yG (λ i w H'=>Ch t H' i w) (Goes.str ht.1) (λ _ _=>trivial) (by refine vQ▸?_;exact Ψ ht.2 (by decide)) (λ i x H' aN cY hx E=>V.ma ?_) (λ i w H₁ ο F r=>by cases r with|mk ch e r=>exact⟨ch,e,r.fz F⟩) λ l H' vs hl E h1 h2 h3=>?_)
 ·obtain⟨ch,pM,rfl⟩:=QF hx
  refine mm.ca rfl rfl rfl ?_
  ktf_call"g"
  refine Hw (o.k rfl) λ aD w E' r=>?_
  ktf_call"g"
  exact KV.i ⟨rfl,E',ch,pM,r⟩
 ·ktf_call"g"
  exact hq H' l vs E h1 (h2.trans vQ) h3
theorem QG(hv:VR H v (.s t))(ht:asc t)(hk:3<=k)
  (hq:∀H' l vs,Ext H H'->H' l=some (.κ false vs)->vs.length=t.cps.size->(∀(i:Nat) w,vs[i]?=some w->Ch t H' i w)->Q (.ref l) H'):μ g k (.ref 1271) [.ref C.m,v,.int iH 0] H Q X:=by
 refine μ.en (fT 73 rfl) rfl hk λ c o _=>?_
 ktf_call"g"
 refine acF (C:=C) hv ht (by ktf_call"k") λ H' l vs E h1 h2 h3=>?_
 ktf_call"g"
 exact hq H' l vs E h1 h2 h3
noncomputable def dig(i:Nat):Str:=dy (toString (i:Int))
theorem HY(h:i<3):dig i=⟨⟨[48+i]⟩⟩:=by
 rcases i with _ |_ |_ |i <;> first |decide |exact absurd h (by simp)
theorem acG(h:i<3):(⟨⟨[48+i]⟩⟩:Str).cps.all (·<128)=true/\(!Txt.contains (⟨⟨[48,49,50,51,52,53,54,55,56,57]⟩⟩:Str) ⟨#[48+i]⟩)=false:=by
 rcases i with _ |_ |_ |i <;> first |exact⟨by decide +kernel,by decide +kernel⟩|exact absurd h (by simp)
theorem acH{i:Nat}(hi:i<3)(hk:1<=k)(hq:Q (.int i 0) H):μ g k (.ref 276) [.str (dig i) 0] H Q X:=by
 have e1:=HY hi
 refine ag (acG hi) λ c1 c2=>?_
 refine μ.en (fT 13 rfl) rfl hk λ c o _=>?_
 refine e1▸?_
 ktf_call"g"
 refine μ.len_str (hW rfl) ?_
 ktf_call"g"
 refine mm.f1 (Goes.str c1) (x:=.str ⟨#[48+i]⟩ 0) trivial ?_
 ktf_call"g"
 refine mm.oc (Ω.abv ?_)
 refine c2▸?_
 ktf_call"g"
 refine⟨trivial,?_⟩
 refine mm.aP o 1 rfl ?_
 refine mm.mW (st':=[]) (P:=λ m' H'=>m'=[(62,Value.str ⟨⟨[48+i]⟩⟩ 0),(63,Value.str ⟨#[48+i]⟩ 0)]/\H'=H) ?_ ?_
 ·intro R hR
  ktf_call"g"
  refine mm.sg (cq.str (i:=0) (ch:=48+i) (by decide) rfl ?_)
  ktf_call"g"
  cases h:(([48+i]:List Nat)==[48])with
  |false=>
   ktf_call"g"
   exact hR _ _ ⟨rfl,rfl⟩
  |true=>
   ktf_call"g"
   refine mm.i0 (by show(!([48+i]==[48]))=false;exact h▸rfl) ?_
   ktf_call"g"
   exact hR _ _ ⟨rfl,rfl⟩
 ·intro _ _ acI;obtain⟨rfl,rfl⟩:=acI
  ktf_call"g"
  refine e1▸?_
  refine μ.ints (aZ hi (by decide)) ?_
  ktf_call"g"
  refine mm.e1 (decide_eq_true (by omega)) ?_
  ktf_call"g"
  exact hq
end
section
variable {k:Nat}
theorem μ.acJ(hd:H d=some (.bu z []))(q:∀a,H a=none->Q (.ref a) (ξ H a (.fix {cls:=.type "dict_values",data:=.fields #[.ref d]}))):μ g k (.builtin "dict.values") [.ref d] H Q X:=by
 intro A s raw aO hA
 refine ψ (r8 aO) λ b acK hb=>?_;refine acK.symm▸?_
 obtain rfl:=a8 hb
 refine ψ (hA.sim _ _ hd) λ kvs k1 k2=>?_
 refine GK F.slot_dict_values k1.typeIs F.entry_dict_values (F.args_dict_values_1 _) (meets_dict_values (u4 PW g.w) d (vj hA hd)) ⟨⟨kvs,k1⟩,?_⟩
 have n:=hA.dI
 exact⟨_,hA.new (ao:=.fix {cls:=.type "dict_values",data:=.fields #[.ref d]}) (fZ _ rfl) s.toks,Go.new n,q _ n⟩
theorem μ.acL(hr:H r=some (.fix {cls:=.type "dict_values",data:=.fields #[.ref d]}))(hd:H d=some (.bu z []))(q:∀a,H a=none->Q (.ref a) (ξ H a (.κ true []))):μ g k (.builtin "sorted") [.ref r] H Q X:=by
 refine μ.Qw (d:=d) (T:="dict_values") (ss:=[]) (by decide) (λ A s hA=>?_) λ a iN ha hp _=>?_
 ·obtain⟨kvs,k1,k2⟩:=hA.sim _ _ hd
  obtain rfl:kvs=[]:=by simpa using k2
  obtain⟨ep,k3⟩:=k1.dictAt
  refine⟨0,_,_,kdl_values (knd:=u4 PW g.w) (kvs:=[]) (ep:=ep),⟨⟨_,hA.sim _ _ hr,rfl,rfl⟩,k3⟩,gj _,λ acc h=>?_⟩
  have:acc.toList=[]:=by
   have:=h.1;rw[<- aag]at this
   exact acM this
  exact this▸(.nil)
 ·obtain rfl:iN=[]:=by simpa using hp
  exact q a ha
end
section
variable {st:List Value}
def KL(R:Int->Lc->AH->Prop):List Value->Lc->AH->Prop:=λ st m H=>∃d,st=[.int d 0]/\R d m H
theorem KL.i(h:R d m H):KL R [.int d 0] m H:=⟨d,rfl,h⟩
theorem mm.c2{l r t:PE}{a b:Int}(h1:Va g c H m l (.int a 0))(h2:Va g c H m r (.int b 0))(dz:a<=b)(h:M g c (λ _ _ _=>True) X [.v t,.kk (KL λ d m' H'=>M g c Q X C (.bool (decide (b<d))::st) m' H')] [] m H):M g c Q X (.t (.nW l .LtE r .Lt t)::C) st m H:=
 mm.te (V.nW (Q:=λ _ _ _=>True) (h1.v (h2.v (Ω.N0 (bH.bool (by
  rw[if_pos (decide_eq_true dz)]
  intro n e he
  refine W.mono (h n e he) (λ v m' H' q=>?_) λ _ _ _ z=>z
  refine ψ q λ d e q=>?_
  injection e with e
  show Ω g c _ _ (nv v) _ _ _ _
  rw[e]
  exact Ω.NZ (bH.bool q)))))))
end
section
variable {k:Nat}
theorem vR:(below n).length=n:=by simp[below]
theorem HZ(h:(below n)[i]?=some x):i<n/\x=.int i 0:=by
 have hi:i<n:=by have:=(List.getElem?_eq_some_iff.mp h).1;rwa [vR]at this
 unfold below at h
 rw[iB,EB hi]at h
 exact⟨hi,(bY h).symm⟩
theorem acN{t:Str}{i:Nat}(ht:asc t)(hi:i<t.cps.size)(hk:2<=k)(hq:∀H' a w,Ext H H'->H' a=some (.φ [.int 1 0,w])->cT w=true->Q (.ref a) H'):μ g k (.ref 283) [.str t 0,.str (dig i) 0] H Q X:=by
 have H_:i<3:=jI hi ht.2
 have e1:=HY H_
 have hl:t.length=t.cps.size:=rfl
 refine μ.en (fT 14 rfl) rfl hk λ c o _=>?_
 refine e1▸?_
 ktf_call"g"
 refine mm.i0 (FG _) ?_
 refine e1▸?_
 ktf_call"g"
 refine acH H_ (by ktf_call"k") ?_
 ktf_call"g"
 refine mm.c2 (a:=0) (b:=i) (λ Q X R hR=>?_) (λ Q X R hR=>?_) (oF i) ?_
 ·ktf_call"g"
  exact hR
 ·ktf_call"g"
  exact hR
 ktf_call"g"
 refine μ.len_str (cI ht.2 (by decide)) ?_
 ktf_call"g"
 refine KL.i (mm.i1 (decide_eq_true (Int.ofNat_lt.mpr hi)) ?_)
 ktf_call"g"
 refine mm.sg (cq.str (i:=i) (ch:=t.cps[i]) (aZ H_ (by decide)) (adv hi) ?_)
 ktf_call"g"
 ktf_call"T";intro H₁ a aJ ha;ktf_call"g"
 ktf_call"T";intro ο b a9 hb;ktf_call"g"
 exact hq _ b (.ref a) (a9.trans' aJ) hb rfl
theorem acO(hv:VR H v (.s t))(ht:asc t)(hi:i<t.cps.size)(hk:3<=k)(hq:∀H' a w1 w2,Ext H H'->H' a=some (.φ [.int 1 0,w1,w2])->Q (.ref a) H'):μ g k (.ref 311) [hp,v,.str (dig i) 0] H Q X:=by
 refine μ.en (fT 16 rfl) rfl hk λ c o _=>?_
 ktf_call"g"
 refine acN ht hi (by ktf_call"k") λ H₁ a w aJ h1 hw=>?_
 refine mm.u2 (.inl h1) ?_
 ktf_call"g"
 ktf_call"T";intro ο b a9 hb;ktf_call"g"
 ktf_call"T";intro ω e bx he;ktf_call"g"
 exact hq _ e _ _ (bx.trans' (a9.trans' aJ)) he
theorem acP(M:MS H C s)(hv:VR H v (.s t))(ht:asc t)(hi:i<t.cps.size)(hk:4<=k)(hq:∀H',Ext H H'->Q (.bool true) H'):μ g k (.ref 1290) [.ref C.m,v,.str (dig i) 0] H Q X:=by
 refine μ.en (fT 76 rfl) rfl hk λ c o _=>?_
 ktf_call"g"
 refine acO hv ht hi (by ktf_call"k") λ H₁ a w1 w2 aJ h1=>?_
 ktf_call"g"
 exact hq _ aJ
theorem acQ(M:MS H C s)(hv:VR H v (.s t))(ht:asc t)(hk:2<=k)(hq:∀H' l vs,Ext H H'->H' l=some (.κ true vs)->vs.length=t.cps.size->(∀(i:Nat) w,vs[i]?=some w->w=.str (dig i) 0)->Q (.ref l) H'):
  μ g k (.ref 1283) [.ref C.m,v] H Q X:=by
 refine μ.en (fT 75 rfl) rfl hk λ c o _=>?_
 have hp:=M.pr
 ktf_call"g"
 ktf_call"lf"
 ktf_call"T";intro H₁ l0 aJ n0 vT
 have M1:=M.ext aJ
 ktf_call"g"
 refine mm.md (i:=226) PySem.F.slot_dict_values PySem.F.type_dict_values (aJ _ _ hp) rfl ?_
 ktf_call"g"
 refine μ.acJ (aJ _ _ hp) λ vw Ia=>?_
 ktf_call"g"
 refine μ.acL ah (cu (aJ _ _ hp) Ia) λ ls pN=>?_
 have E2:Ext H (ξ (ξ H₁ vw (.fix {cls:=.type "dict_values",data:=.fields #[.ref C.pr]})) ls (.κ true [])):=(aJ.trans (Ext.new Ia)).trans (Ext.new pN)
 generalize ξ (ξ H₁ vw (.fix {cls:=.type "dict_values",data:=.fields #[.ref C.pr]})) ls (.κ true [])=ο at E2⊢
 have M_:=hv.fz E2.fz
 clear hp Ia pN vT n0 aJ
 ktf_call"g"
 refine mm.wl o (I:=λ n m' H'=>m'=[(70,v),(21,.int (-1) 0)]/\H'=ο) (n:=0) (by exact⟨rfl,rfl,trivial⟩) ⟨rfl,rfl⟩ ?_
 intro _ _ _ QH;refine ag QH λ Fs Ft=>?_;clear QH;subst Fs;subst Ft
 ktf_call"g"
 refine mm.ac o ?_
 ktf_call"g"
 refine μ.len_str (cI ht.2 (by decide)) ?_
 ktf_call"g"
 refine μ.range (n:=t.cps.size) (cI ht.2 (by decide)) λ ra a1 a2 a3 m8=>?_
 ktf_call"g"
 refine KV.i (yG (λ i w _=>w=.str (dig i) 0) (Goes.range (cI ht.2 (by decide)) ah) (λ _ _=>trivial) (by refine vR▸?_;exact Ψ ht.2 (by decide)) (λ i x H' aN cY hx E=>V.ma ?_) (λ _ _ _ _ _ r=>r) λ l H' vs hl E h1 h2 h3=>?_)
 ·obtain⟨hi,rfl⟩:=HZ hx
  refine mm.ca rfl rfl rfl ?_
  ktf_call"g"
  refine μ.AV (oF i) (Int.ofNat_lt.mpr (aZ (jI hi ht.2) (by decide))) ?_
  ktf_call"g"
  exact KV.i ⟨rfl,Ext.refl,rfl⟩
 ·have h0:H l=none:=Ext.none (E2.trans (Ext.new m8)) hl
  refine mm.aP o 1 rfl ?_
  refine mm.gh (l:=[.ret (.θ 71)]) (Gh.fl (z:=true) h1) ?_
  ktf_call"g"
  exact hq _ l vs (Ext.own h0 ((E2.trans (Ext.new m8)).trans E)) ah (h2.trans vR) h3
end
section
variable {k:Nat}
theorem yH(e:c+1=k)(h:a+1<=k):a<=c:=QI (Ψ h (aU e.symm))
theorem Ib:fH L o=0\/fH L o=1\/fH L o=2:=by
 cases o with
 |χ=>exact .inl rfl
 |ret v=>exact .inr (.inr rfl)
 |aw v=>exact .inr (.inr rfl)
 |brk l=>show ite _ _ _=0\/ite _ _ _=1\/ite _ _ _=2;split;exact .inr (.inr rfl);exact .inr (.inl rfl)
 |cnt l=>show ite _ _ _=0\/ite _ _ _=1\/ite _ _ _=2;split;exact .inr (.inr rfl);exact .inl rfl
theorem Ic:lp L f (v::r) σ=match fH L (f v σ).1 with|0=>lp L f r (f v σ).2 |1=>(.χ,(f v σ).2)|_=>f v σ:=rfl
theorem Ie(e:f v σ=(o,bz)):lp L f (v::r) σ=match fH L o with|0=>lp L f r bz |1=>(.χ,bz)|_=>(o,bz):=by rw[Ic,e]
theorem QJ{f:Sg->Ot×Sg}(h:∀σ,gw (f σ).1)(e:f σ=(o,bz)):gw o:=by have:=h σ;rw[e]at this;exact this
theorem acR{v bv tv lv a:Value}{x t:Addr}{kind:Int}(np:NP (some ν) H v x kind a [bv,tv])(nt:NP (some ν) H tv t 5 (.str s_ 0) [])(M:MS H C s)(hB:Bd s B)(aI:B+cb+3<=19990)(aE:s.dp<44)
  (rb:Runs g C kk H s.env s.dp bv cb F) (hl:jY H lv L) (hL:∀x∈L,bF x) (hF:∀σ,gw (F σ).1) (hk:kk+1<=k) (bO:18<=k):bD g k (.ref 1222) [.ref C.m,v,lv] H C s (B+cb+2) (lp L (λ _=>F) [.u] s.sg):=by
 intro Q X hq hX
 have b1:B+cb<=B+cb+2:=cK _ _
 have b2:B+cb<=19990:=Ψ (cK _ 3) aI
 refine μ.en (fT 69 rfl) rfl bO λ cx o ek=>?_
 have kc:kk<=cx.k:=yH ek hk
 refine mm.aP o 1 rfl ?_
 refine mm.wl o (I:=λ n m' H'=>m'=[(94,.ref C.m),(14,v),(201,lv)]/\H'=H) (n:=0) (by exact⟨rfl,rfl,rfl,trivial⟩) ⟨rfl,rfl⟩ ?_
 intro _ _ _ QK;refine ag QK λ Fu Fv=>?_;clear QK;refine Fu.symm▸?_;refine Fv.symm▸?_
 ktf_call"g"
 refine(rb _ s B Fz.refl M rfl rfl hB b2).up kc _ _ (λ ο ae w ot A e r=>?_) λ ο ae w u A e r=>?_
 ·ktf_call"g"
  have e2:=Ie (L:=L) (f:=λ _=>F) (v:=.u) (r:=[]) e
  refine HS r (QJ hF e) (hl.fz A.fz) hL (by ktf_call"k") ?_
  have eY:=np.fz A.fz
  have M1:=A.ms
  rcases Ib (L:=L) (o:=ot)with h |h |h
  ·rw[h]at e2⊢
   ktf_call"g"
   refine abO (nt.fz A.fz) A.ms A.bd (Ψ aI (by decide)) (by rw[A.dp];exact aE) (by ktf_call"k") λ ω bZ lJ acS acT acU=>?_
   ktf_call"g"
   refine Qd acU (by ktf_call"k") ?_
   ktf_call"g"
   exact hq _ _ _ .χ (A.trans acS) (e2.trans (by show(Ot.χ,ae.sg)=_;rw[acT])) (.χ rfl)
  ·rw[h]at e2⊢
   ktf_call"g"
   exact hq _ _ _ .χ (A.mono b1) e2 (.χ rfl)
  ·rw[h]at e2⊢
   ktf_call"g"
   exact hq _ _ _ ot (A.mono b1) e2 r
 ·exact hX _ _ _ u (A.mono b1) (Ie (L:=L) (f:=λ _=>F) (v:=.u) (r:=[]) e) r
inductive Ig(g:Gv)(C:MC)(ν:Addr->Int)(H:AH)(kk:Nat)(E:Ev)(dp:Int)(v:Value)(n:Addr)(row:Row)(cb:Nat)(F:SV->Sg->Ot×Sg):Prop
 |mk (x:Addr) (kind:Int) (a hv rv bv:Value) (hx:Addr) (dv:Value) (dx:Addr) (nv:Value) (np:NP (some ν) H v x kind a [hv,rv,bv]) (h3:oE ν H hv dv nv hx dx n) (rr:RR (some ν) H rv row)
  (rb:∀H' ev m u,Fz H H'->a_ H' ev ((bC,u,true)::E) m->Runs g C kk H' ev dp bv cb (F u)):Ig g C ν H kk E dp v n row cb F
structure Ih(g:Gv)(C:MC)(ν:Addr->Int)(H:AH)(kk:Nat)(E:Ev)(dp:Int)(v:Value)(n:Addr)(row:Row)(cb:Nat)(F:SV->Sg->Ot×Sg):Prop where
 nd:Ig g C ν H kk E dp v n row cb F
 asc:∀t,row=.txt t->Mine.asc t
 ok:∀u σ,gw (F u σ).1
noncomputable def lK(ν:Addr->Int)(n:Addr)(F:SV->Sg->Ot×Sg)(v:SV)(σ:Sg):Ot×Sg:=F v {σ with seen:=σ.seen++[(ν n,v)]}
noncomputable def pO(ν:Addr->Int)(L:List Str)(n:Addr)(isOf:Bool)(row:Row)(F:SV->Sg->Ot×Sg)(σ:Sg):Ot×Sg:=match row with
 | .bad y=>(.aw (.o σ.aj.length),{σ with aj:=σ.aj++[ν y]})
 | .txt t=>lp L (lK ν n F) (items isOf t) σ
theorem vU:(items isOf t).length=t.cps.size:=by unfold items;split <;> simp
theorem QL(h:(items isOf t)[i]?=some u):(items isOf t).drop i=u::(items isOf t).drop (i+1):=by
 obtain⟨h1,h2⟩:=List.getElem?_eq_some_iff.mp h
 rw[QM h1,h2]
theorem acV{t:Str}{i ch:Nat}(h:t.cps.toList[i]?=some ch):(items true t)[i]?=some (.s ⟨#[ch]⟩):=by unfold items;rw[if_pos rfl,iB,h];rfl
theorem acW(h:i<t.cps.size):(items false t)[i]?=some (.s (dig i)):=by unfold items;rw[if_neg lV,iB,EB h];rfl
inductive jZ(C:MC)(H:AH)(s:bI)(H₁:AH)(L:List Str)(f:SV->Sg->Ot×Sg)(xs:List SV)(σ:Sg)(B cb i:Nat)(H':AH):Prop
 |mk (s':bI) (F:Fz H₁ H') (A:Af H C s (B+i*(1+cb)) H' s') (e:lp L f xs σ=lp L f (xs.drop i) s'.sg):jZ C H s H₁ L f xs σ B cb i H'
inductive Tn(C:MC)(H:AH)(s:bI)(H₁:AH)(L:List Str)(f:SV->Sg->Ot×Sg)(xs:List SV)(σ:Sg)(B cb i:Nat)(o:Ot)(H':AH):Prop
 |mk (s':bI) (F:Fz H₁ H') (A:Af H C s (B+(i+1)*(1+cb)) H' s') (e:lp L f xs σ=match fH L o with|0=>lp L f (xs.drop (i+1)) s'.sg |1=>(.χ,s'.sg)|_=>(o,s'.sg)) (ok:gw o):Tn C H s H₁ L f xs σ B cb i o H'
structure Ii(C:MC)(H:AH)(s:bI)(H₁:AH)(L:List Str)(f:SV->Sg->Ot×Sg)(xs:List SV)(σ:Sg)(B cb i:Nat)(o:Ot)(ω ar:AH)(bc:bI):Prop where
 f3:Fz ω ar
 ms:MS ar C bc
 fz:Fz H ar
 t:∀aV,Fz ar aV->MS aV C {bc with env:=s.env}->Tn C H s H₁ L f xs σ B cb i o aV
inductive En(C:MC)(H:AH)(s:bI)(B:Nat)(res:Ot×Sg)(o:Ot)(H':AH):Prop
 |mk (s':bI) (A:Af H C s B H' s') (e:res=(o,s'.sg)):En C H s B res o H'
variable {B cb i:Nat}
theorem b3(h:i<n)(h2:n<=3):B+(i+1)*(1+cb)<=B+3*(1+cb):=eP (m5 _ (Ψ h h2)) _
theorem b4(h:i<n)(h2:n<=3)(hB:B+3*(1+cb)<=19980):B+i*(1+cb)+1+cb<=19990:=by
 have:=b3 (B:=B) (cb:=cb) h h2
 rw[BG,pC]at this;exact aH (aT hB this) (by simp +arith only)
theorem b5(h:B+2+n<=19980):B+3<=19990:=aT (Ψ (Ψ (cK _ _) (cK _ _)) h) (by decide:3<=10)
theorem jZ.z(A:Af H C s B H₁ s₁):jZ C H s H₁ L f xs s₁.sg B cb 0 H₁:=⟨s₁,Fz.refl,A.mono (cK _ _),rfl⟩
theorem Tn.go(T:Tn C H s H₁ L f xs σ B cb i o H')(h:fH L o=0):jZ C H s H₁ L f xs σ B cb (i+1) H':=by
 cases T with|mk s' F A e ok=>rw[h]at e;exact⟨s',F,A,e⟩
theorem Tn.stop(T:Tn C H s H₁ L f xs σ B cb i o H')(h:fH L o=1)(hi:i<n)(h3:n<=3):En C H s (B+3*(1+cb)) (lp L f xs σ) .χ H':=by
 cases T with|mk s' F A e ok=>rw[h]at e;exact⟨s',A.mono (b3 hi h3),e⟩
theorem Tn.out(T:Tn C H s H₁ L f xs σ B cb i o H')(h:fH L o=2)(hi:i<n)(h3:n<=3):En C H s (B+3*(1+cb)) (lp L f xs σ) o H':=by
 cases T with|mk s' F A e ok=>rw[h]at e;exact⟨s',A.mono (b3 hi h3),e⟩
theorem jZ.all(I:jZ C H s H₁ L f xs σ B cb i H')(hx:xs.length=i)(h3:i<=3):En C H s (B+3*(1+cb)) (lp L f xs σ) .χ H':=by
 cases I with|mk s' F A e=>rw[<- hx,yz]at e;exact⟨s',A.mono (eP (m5 _ h3) _),e⟩
theorem En.ext(T:En C H s B res o H')(E:Ext H' aD):En C H s B res o aD:=by
 cases T with|mk s' A e=>exact⟨s',⟨A.fz.trans E.fz,A.ms.ext E,A.env,A.dp,A.bd⟩,e⟩
theorem jZ.ext(T:jZ C H s H₁ L f xs σ B cb i H')(E:Ext H' aD):jZ C H s H₁ L f xs σ B cb i aD:=by
 cases T with|mk s' F A e=>exact⟨s',F.trans E.fz,⟨A.fz.trans E.fz,A.ms.ext E,A.env,A.dp,A.bd⟩,e⟩
theorem QN{v it:Value}{n:Addr}{row:Row}{E:Ev}(P:Ig g C ν H kk E s.dp v n row cb F)(ok:∀u σ,gw (F u σ).1)(hE:a_ H s.env E nn)(F1:Fz H₁ ω)(A:Af H C s (B+i*(1+cb)) ω s')(e:lp L (lK ν n F) xs σ=lp L (lK ν n F) (xs.drop i) s'.sg)
  (hx:xs.drop i=u::xs.drop (i+1)) (hv:VR ω it u) (hB:B+i*(1+cb)+1+cb<=19990) (hk:kk+1<=k) (bO:6<=k)
  (hq:∀ar bc w o,Ii C H s H₁ L (lK ν n F) xs σ B cb i o ω ar bc->OR ar w o->Q w ar) (hX:∀ar bc w u,Ii C H s H₁ L (lK ν n F) xs σ B cb i (.aw u) ω ar bc->VR ar w u->X w ar):μ g k (.ref 1264) [.ref C.m,v,s.env,it] ω Q X:=by
 obtain⟨x,kind,a,d8,rv,bv,OB,dv,dx,nv,np,h3,rr,rb⟩:=P
 have key:∀{ar:AH}{bc:bI}{ev:Value}{o:Ot},Af ω C {s' with env:=ev} (B+i*(1+cb)+1+cb) ar bc->F u ⟨s'.seen++[(ν n,u)],s'.aj⟩=(o,bc.sg)->Ii C H s H₁ L (lK ν n F) xs σ B cb i o ω ar bc:=λ cC gQ=>
  ⟨cC.fz,cC.ms,A.fz.trans cC.fz,λ aV dR mw=>⟨_,(F1.trans cC.fz).trans dR,⟨(A.fz.trans cC.fz).trans dR,mw,rfl,cC.dp.trans A.dp,(cC.bd.mono (by rw[BG,pC,kF,kF];exact bK _)).same rfl rfl rfl rfl⟩,by rw[e,hx];exact Ie gQ,QJ (ok u) gQ⟩⟩
 exact acv (np.fz A.fz) (h3.fz A.fz) A.ms (by rw[A.env];exact hE.fz A.fz) A.env hv A.bd hB (λ aD ev lA Z ju=>by rw[A.dp];exact rb _ _ _ _ (A.fz.trans Z) ju) hk bO (λ ar bc ev sW ot cC gQ ij=>hq _ bc _ _ (key cC gQ) ij) λ ar bc ev sW oD cC gQ ij=>hX _ bc _ _ (key cC gQ) ij
theorem jn(h:j+i=n)(hi:i<n):j-1<j/\j-1+(i+1)=n:=by
 cases j with
 |zero=>exact absurd hi (by rw[<- h,lW];exact GW _)
 |succ j=>exact⟨lu _,by rw[<- h,FR];rfl⟩
theorem jz(h:j+i=n)(hi:¬i<n):n=i/\i<=n:=have q:i<=n:=h▸eh i j
 ⟨x9 (Nat.le_of_not_lt hi) q,q⟩
inductive QO(C:MC)(H:AH)(s:bI)(H₁:AH)(L:List Str)(f:SV->Sg->Ot×Sg)(xs:List SV)(σ:Sg)(B cb:Nat)(v lv w:Value)(j:Nat)(m':Lc)(H':AH):Prop
 |mk (i:Nat) (e:j+i=xs.length) (I:jZ C H s H₁ L f xs σ B cb i H') (em:m'=[(94,.ref C.m),(14,v),(201,lv),(70,w),(170,s.env),(64,.int i 0)]):QO C H s H₁ L f xs σ B cb v lv w j m' H'
theorem acX{v lv:Value}{n:Addr}{row:Row}{L:List Str}{E:Ev}(P:Ih g C ν H kk E s.dp v n row cb F)(M:MS H C s)(hE:a_ H s.env E nn)(hB:Bd s B)(aI:B+2+3*(1+cb)<=19980)(aE:s.dp<44)
  (hl:jY H lv L) (hL:∀x∈L,bF x) (hk:kk+2<=k) (bO:20<=k):bD g k (.ref 1278) [.ref C.m,v,lv] H C s (B+2+3*(1+cb)) (pO ν L n true row F s.sg):=by
 intro Q X hq hX
 have PN:=P.nd
 have Pa:=P.asc
 have Po:=P.ok
 clear P
 obtain⟨x,kind,a,hv,rv,bv,hx,dv,dx,nv,np,h3,rr,rb⟩:=id PN
 refine μ.en (fT 74 rfl) rfl bO λ cx o ek=>?_
 have kc:kk+1<=cx.k:=yH ek hk
 have pA:=hE.dat
 ktf_call"g"
 refine QE np h3 rr M hE hB (b5 aI) aE (by ktf_call"k") (λ H₁ s₁ w u T A r=>?_) λ H₁ s₁ w u T A r=>?_
 ·obtain⟨t,rfl,e2,rfl⟩:=T
  refine ag (Pa t rfl) λ yI hsz=>?_
  have Ij:cT s₁.env=true:=by rw[A.env];exact pA
  have M1:=A.ms
  rw[show pO ν L n true (.txt t) F s.sg=lp L (lK ν n F) (items true t) s₁.sg by rw[e2];rfl]at hq hX
  ktf_call"g"
  rw[A.env]
  have I0:=jZ.z (L:=L) (f:=lK ν n F) (xs:=items true t) (cb:=cb) A
  generalize s₁.sg=σ at I0 hq hX
  have hlen:=vU (isOf:=true) (t:=t)
  clear A M1 Ij e2 h3 rr rb
  have iG:∀{i:Nat},i<t.cps.size->B+2+i*(1+cb)+1+cb<=19990:=λ h=>b4 h hsz aI
  refine mm.wl o (I:=QO C H s H₁ L (lK ν n F) (items true t) σ (B+2) cb v lv w) (n:=t.cps.size) (by exact⟨rfl,rfl,rfl,rfl,rfl,rfl,trivial⟩) ⟨0,hlen.symm,I0,rfl⟩ ?_
  intro j m' H' acY;obtain⟨i,BH,⟨s',F1,A',e'⟩,rfl⟩:=acY
  have r1:=r.fz F1
  have M1:=A'.ms
  have eY:=np.fz A'.fz
  ktf_call"g"
  refine QG r1 ⟨yI,hsz⟩ (by ktf_call"k") λ ο l vs a9 cz vV kG=>?_
  ktf_call"g"
  refine μ.len_list cz (by rw[vV];exact cI hsz (by decide)) ?_
  rw[vV]
  ktf_call"g"
  by_cases hi:i<t.cps.size
  ·refine mm.w1 (decide_eq_true (Int.ofNat_lt.mpr hi)) ?_
   have r2:=r1.fz a9.fz
   ktf_call"g"
   refine QG r2 ⟨yI,hsz⟩ (by ktf_call"k") λ ω l' gp bx dW acZ ac0=>?_
   ktf_call"g"
   have m9:i<gp.length:=by rw[acZ];exact hi
   refine mm.sg (cq.list (i:=(i:Int)) dW (oF i) (Int.ofNat_lt.mpr (jI hi (Ψ hsz (by decide)))) (v:=gp[i]) (lr m9) ?_)
   obtain⟨ch,pM,yi⟩:=ac0 i gp[i] (lr m9)
   ktf_call"g"
   refine QN PN Po hE (F1.trans (a9.trans bx).fz) ⟨A'.fz.trans (a9.trans bx).fz,A'.ms.ext (a9.trans bx),A'.env,A'.dp,A'.bd⟩ e' (QL (acV pM)) yi (iG hi) (by ktf_call"k") (by ktf_call"k") (λ ar bc sW ot T ij=>?_) λ ar bc sW oD T ij=>?_
   ·ktf_call"g"
    refine mm.ms T.ms {bc with env:=s.env} rfl rfl rfl rfl rfl λ aV dR mw=>?_
    have T5:=T.t aV dR mw
    ktf_call"g"
    refine HS (ij.fz dR) (by cases T5;assumption) (hl.fz (T.fz.trans dR)) hL (by ktf_call"k") ?_
    rcases Ib (L:=L) (o:=ot)with h |h |h
    ·have I5:=T5.go h
     rw[h]
     ktf_call"g"
     exact⟨j-1,_,(jn (BH.trans hlen) hi).1,by exact⟨rfl,rfl,rfl,rfl,rfl,rfl,trivial⟩,i+1,(jn (BH.trans hlen) hi).2.trans hlen.symm,I5,rfl⟩
    ·obtain⟨gZ,gm,jw⟩:=T5.stop h hi hsz
     rw[h]
     ktf_call"g"
     refine mm.ms gm.ms {gZ with env:=s.env} rfl rfl rfl rfl rfl λ cU bT eK=>?_
     ktf_call"g"
     exact hq _ _ _ .χ (gm.back Fz.refl bT eK) jw (.χ rfl)
    ·obtain⟨gZ,gm,jw⟩:=T5.out h hi hsz
     rw[h]
     ktf_call"g"
     refine mm.ms gm.ms {gZ with env:=s.env} rfl rfl rfl rfl rfl λ cU bT eK=>?_
     ktf_call"g"
     exact hq _ _ _ ot (gm.back Fz.refl bT eK) jw ((ij.fz dR).fz bT)
   ·ktf_call"g"
    refine mm.ms T.ms {bc with env:=s.env} rfl rfl rfl rfl rfl λ aV dR mw=>?_
    obtain⟨gZ,gm,jw⟩:=(T.t aV dR mw).out rfl hi hsz
    ktf_call"g"
    exact hX _ _ _ oD gm jw (ij.fz dR)
  ·refine mm.w0 (decide_eq_false λ z=>hi (Int.ofNat_lt.mp z)) ?_
   obtain⟨gZ,gm,jw⟩:=((jZ.mk s' F1 A' e').all (hlen.trans (jz (BH.trans hlen) hi).1) (Ψ (jz (BH.trans hlen) hi).2 hsz)).ext a9
   ktf_call"g"
   refine mm.ms gm.ms {gZ with env:=s.env} rfl rfl rfl rfl rfl λ cU bT eK=>?_
   ktf_call"g"
   exact hq _ _ _ .χ (gm.back Fz.refl bT eK) jw (.χ rfl)
 ·obtain⟨y,rfl,e2,rfl⟩:=T
  exact hX _ _ _ _ (A.mono (cK _ _)) (by rw[e2];rfl) r
end
section
variable {k:Nat}
theorem ac1(P:Ih g C ν H kk E s.dp v n row cb F)(M:MS H C s)(hE:a_ H s.env E nn)(hB:Bd s B)(aI:B+2+3*(1+cb)<=19980)(aE:s.dp<44)
  (hl:jY H lv L) (hL:∀x∈L,bF x) (hk:kk+2<=k) (bO:20<=k):bD g k (.ref 1297) [.ref C.m,v,lv] H C s (B+2+3*(1+cb)) (pO ν L n false row F s.sg):=by
 intro Q X hq hX
 have PN:=P.nd
 have Pa:=P.asc
 have Po:=P.ok
 clear P
 obtain⟨x,kind,a,hv,rv,bv,hx,dv,dx,nv,np,h3,rr,rb⟩:=id PN
 refine μ.en (fT 77 rfl) rfl bO λ cx o ek=>?_
 have kc:kk+1<=cx.k:=yH ek hk
 ktf_call"g"
 refine QE np h3 rr M hE hB (b5 aI) aE (by ktf_call"k") (λ H₁ s₁ w u T A r=>?_) λ H₁ s₁ w u T A r=>?_
 ·obtain⟨t,rfl,e2,rfl⟩:=T
  obtain⟨yI,hsz⟩:=Pa t rfl
  have Ij:cT s₁.env=true:=by exact A.env▸((hE.dat))
  have M1:=A.ms
  rw[show pO ν L n false (.txt t) F s.sg=lp L (lK ν n F) (items false t) s₁.sg by exact e2▸rfl]at hq hX
  ktf_call"g"
  refine A.env▸?_
  have I0:=jZ.z (L:=L) (f:=lK ν n F) (xs:=items false t) (cb:=cb) A
  generalize s₁.sg=σ at I0 hq hX
  have iG:∀{i:Nat},i<t.cps.size->B+2+i*(1+cb)+1+cb<=19990:=λ h=>b4 h hsz aI
  clear A Ij e2 h3 rr rb
  refine acQ M1 r ⟨yI,hsz⟩ (by ktf_call"k") λ Hn l vs En vV vW kG=>?_
  have I1:=I0.ext En
  clear I0
  refine mm.aP o 1 rfl ?_
  refine mm.fo (Goes.list vV) (I:=λ i m' H'=>Fz Hn H'/\jZ C H s H₁ L (lK ν n F) (items false t) σ (B+2) cb i H'/\m'=[(94,.ref C.m),(14,v),(201,lv),(70,w),(170,s.env)]) (by exact⟨rfl,rfl,rfl,rfl,rfl,trivial⟩) ⟨Fz.refl,I1,rfl⟩ ?_ ?_
  ·intro i nm _ H' ac2 QP;obtain⟨Fn,⟨s',F1,A',e'⟩,rfl⟩:=ac2
   refine⟨Fn _ _ vV rfl,?_⟩
   have hi:i<t.cps.size:=vW▸(List.getElem?_eq_some_iff.mp QP).1
   obtain rfl:=kG i nm QP
   ktf_call"g"
   refine acP A'.ms (r.fz F1) ⟨yI,hsz⟩ hi (by ktf_call"k") λ ο a9=>?_
   ktf_call"g"
   refine Hw (by ktf_call"k") λ ω iw bx yi=>?_
   ktf_call"g"
   have BI:=a9.trans bx
   refine QN PN Po hE (F1.trans BI.fz) ⟨A'.fz.trans BI.fz,A'.ms.ext BI,A'.env,A'.dp,A'.bd⟩ e' (QL (acW hi)) yi (iG hi) (by ktf_call"k") (by ktf_call"k") (λ ar bc sW ot T ij=>?_) λ ar bc sW oD T ij=>?_
   ·ktf_call"g"
    refine mm.ms T.ms {bc with env:=s.env} rfl rfl rfl rfl rfl λ aV dR mw=>?_
    have T5:=T.t aV dR mw
    ktf_call"g"
    refine HS (ij.fz dR) (by cases T5;assumption) (hl.fz (T.fz.trans dR)) hL (by ktf_call"k") ?_
    rcases Ib (L:=L) (o:=ot)with h |h |h
    ·have I5:=T5.go h
     rw[h]
     ktf_call"g"
     exact⟨_,by exact⟨rfl,rfl,rfl,rfl,rfl,trivial⟩,(((Fn.trans BI.fz).trans T.f3).trans dR),I5,rfl⟩
    ·obtain⟨gZ,gm,jw⟩:=T5.stop h hi hsz
     rw[h]
     ktf_call"g"
     refine mm.ms gm.ms {gZ with env:=s.env} rfl rfl rfl rfl rfl λ cU bT eK=>?_
     ktf_call"g"
     exact hq _ _ _ .χ (gm.back Fz.refl bT eK) jw (.χ rfl)
    ·obtain⟨gZ,gm,jw⟩:=T5.out h hi hsz
     rw[h]
     ktf_call"g"
     refine mm.ms gm.ms {gZ with env:=s.env} rfl rfl rfl rfl rfl λ cU bT eK=>?_
     ktf_call"g"
     exact hq _ _ _ ot (gm.back Fz.refl bT eK) jw ((ij.fz dR).fz bT)
   ·ktf_call"g"
    refine mm.ms T.ms {bc with env:=s.env} rfl rfl rfl rfl rfl λ aV dR mw=>?_
    obtain⟨gZ,gm,jw⟩:=(T.t aV dR mw).out rfl hi hsz
    ktf_call"g"
    exact hX _ _ _ oD gm jw (ij.fz dR)
  ·intro _ H' ac3;obtain⟨Fn,I,rfl⟩:=ac3
   refine⟨Fn _ _ vV rfl,?_⟩
   obtain⟨gZ,gm,jw⟩:=I.all ((vU (isOf:=false) (t:=t)).trans vW.symm) (by refine vW▸?_;exact hsz)
   ktf_call"g"
   refine mm.ms gm.ms {gZ with env:=s.env} rfl rfl rfl rfl rfl λ cU bT eK=>?_
   ktf_call"g"
   exact hq _ _ _ .χ (gm.back Fz.refl bT eK) jw (.χ rfl)
 ·obtain⟨y,rfl,e2,rfl⟩:=T
  exact hX _ _ _ _ (A.mono (cK _ _)) (by exact e2▸rfl) r
theorem ac4(hk:n+1<=k)(h:∀kk,n<=kk->bD g kk (.ref 1222) [.ref C.m,v,lv] H C s B res):bD g k (.ref 1330) [sf,.ref C.m,v,lv] H C s B res:=by
 intro Q X hq hX
 refine μ.en (fT 78 rfl) rfl hk λ c o _=>?_
 ktf_call"g"
 exact h c.k o.le _ _ hq hX
theorem ac5(hk:n+1<=k)(h:∀kk,n<=kk->bD g kk (.ref 1278) [.ref C.m,v,lv] H C s B res):bD g k (.ref 1368) [sf,.ref C.m,v,lv] H C s B res:=by
 intro Q X hq hX
 refine μ.en (fT 79 rfl) rfl hk λ c o _=>?_
 ktf_call"g"
 exact h c.k o.le _ _ hq hX
theorem ac6(hk:n+1<=k)(h:∀kk,n<=kk->bD g kk (.ref 1297) [.ref C.m,v,lv] H C s B res):bD g k (.ref 1387) [sf,.ref C.m,v,lv] H C s B res:=by
 intro Q X hq hX
 refine μ.en (fT 80 rfl) rfl hk λ c o _=>?_
 ktf_call"g"
 exact h c.k o.le _ _ hq hX
theorem ac7(hsf:RI H sf Cc)(hc:iD Cc 199=some tf)(M:MS H C s)(hk:n+1<=k)(h:∀H' lv kk,n<=kk->Ext H H'->jY H' lv []->bD g kk (.ref tf) [sf,.ref C.m,v,lv] H' C s B res):bD g k (.ref 1156) [sf,.ref C.m,v] H C s B res:=by
 intro Q X hq hX
 refine μ.en (fT 64 rfl) rfl hk λ c o _=>?_
 ktf_call"g"
 ktf_call"T";intro H₁ a aJ ha
 ktf_call"g"
 exact h _ (.ref a) c.k o.le aJ (.t a rfl ha) _ _ (λ H' s' w o A e r=>hq _ _ _ o ⟨aJ.fz.trans A.fz,A.ms,A.env,A.dp,A.bd⟩ e r) λ H' s' w u A e r=>hX _ _ _ u ⟨aJ.fz.trans A.fz,A.ms,A.env,A.dp,A.bd⟩ e r
end
section
variable {k:Nat}
theorem ac8(P:aq):(isIn (HD.KK P) (.ref 1333) 1166&&isIn (HD.KK P) (.ref 1371) 1166&&isIn (HD.KK P) (.ref 1390) 1166)=true:=by kernel_rfl
theorem ac9(P:aq):(kin_not (HD.KK P) 989 1166&&plainGet (HD.KK P) 989 "__class__" && hasDictIn (HD.KK P) 989&&gL (dc (HD.KK P) (.ref 989) "__class__") (some (.builtin "object.__class__")) &&
 gL (specialIn (HD.KK P) (.builtin "object.__class__") "__get__") (some (.builtin "getset_descriptor.__get__"))&&(match takesIn (HD.KK P) (.builtin "object.__class__")with|some b=>b |none=>false)&&(match mroIn (HD.KK P) 989 (.type "object")with|some b=>b |none=>false))=true:=by kernel_rfl
theorem μ.isT(hx:RI H x Cc)(hc:Cc=1333\/Cc=1371\/Cc=1390)(q:Q (.bool true) H):μ g k (.builtin "isinstance") [x,.ref 1166] H Q X:=by
 intro A s raw aO hA
 obtain⟨xa,xd,e0,h1,h2⟩:=hx
 subst e0
 refine dG (AU aO) λ a b ac_ ha hb=>?_;subst ac_
 obtain rfl:=a8 ha
 obtain rfl:=a8 hb
 refine c7 (Au hA (⟨h1,true,h2⟩:Inst H xa Cc xd [])) λ od m2 I _=>?_
 have e:=ac8 g.w.params
 rw[<- hA.ok.kk,mJ,mJ]at e
 have e':isIn g.K (.ref Cc) 1166=true:=by
  rcases hc with rfl |rfl |rfl
  ·exact e.1.1
  ·exact e.1.2
  ·exact e.2
 exact isi_call (t:=.ref Cc) (C:=1166) hA.dZ (λ M=>I.type) e' (λ z=>by cases z) (lx hA _ q)
theorem μ.isF(hx:RI H x 989)(q:Q (.bool false) H):μ g k (.builtin "isinstance") [x,.ref 1166] H Q X:=by
 intro A s raw aO hA
 obtain⟨xa,xd,e0,h1,h2⟩:=hx
 subst e0
 refine dG (AU aO) λ a b ac' ha hb=>?_;subst ac'
 obtain rfl:=a8 ha
 obtain rfl:=a8 hb
 refine c7 (Au hA (⟨h1,true,h2⟩:Inst H xa 989 xd [])) λ od m2 I _=>?_
 have e:=ac9 g.w.params
 rw[<- hA.ok.kk]at e
 simp only[mJ]at e
 refine ag e λ ada e7=>?_;clear e;obtain⟨⟨⟨⟨⟨e1,e2⟩,e3⟩,e4⟩,e5⟩,e6⟩:=ada
 refine kin_callC hA.dZ I e1 e2 e3 (rW e4) (rW e5) ?_ ?_ (lx hA _ q)
 ·cases h:takesIn g.K (.builtin "object.__class__")with
  |none=>rw[h]at e6;exact nF e6
  |some b=>rw[h]at e6;exact(show b=true from e6)▸rfl
 ·cases h:mroIn g.K 989 (.type "object")with
  |none=>rw[h]at e7;exact nF e7
  |some b=>rw[h]at e7;exact(show b=true from e7)▸rfl
end
section
variable {k:Nat}
theorem adb(oc:Fc c n)(r:OR H w o)(ho:gw o)(hl:bF l)(h3:H la=some (.κ true [sv l]))(pN:l≠s_)
  (hq:∀w' o',fw l (o,σ)=(o',σ)->OR H w' o'->Q w' H):Mine.M g c (RK Q) (XK X) [.ss [.iff (.band (.υ (.sub (.θ 133) (.int 0)) .Eq (.ς 194)) (.υ (.sub (.θ 133) (.int 1)) .In (.θ 201))) [.ret (.ς 168)] [],.ret (.θ 133)]] [] [(133,w),(201,.ref la)] H:=by
 ktf_call"g"
 cases o with
 |χ=>ktf_call"g";exact hq _ .χ rfl r
 |ret v=>ktf_call"g";exact hq _ (.ret v) rfl r
 |cnt x=>ktf_call"g";exact hq _ (.cnt x) rfl r
 |aw v=>exact r.not.elim
 |brk x=>
  have pl:=r.pl (.inl rfl)
  ktf_call"g"
  have hlb:c8 l=[l]:=by unfold c8;exact(if_neg pN)▸rfl
  refine mm.oc (ack (L:=[l]) (.l la rfl h3) ho (λ y hy=>by refine(List.mem_singleton.mp hy)▸?_;exact hl) ?_)
  have e1:∀σ,fw l (.brk x,σ)=if bB x [l]=true then(.χ,σ)else(.brk x,σ):=λ σ=>by show(if bB x (c8 l)=true then _ else _)=_;exact hlb▸rfl
  cases iW:bB x [l]with
  |true=>
   ktf_call"g"
   exact hq _ .χ (by rw[e1,iW];rfl) (.χ rfl)
  |false=>
   ktf_call"g"
   exact hq _ (.brk x) (by rw[e1,iW];rfl) r
inductive Ik(g:Gv)(n:Nat)(H:AH)(C:MC)(s:bI)(B:Nat)(res:Ot×Sg)(l:Str)(w:Value)(kind:Int):Prop
 |r (Cc tf:Addr) (hr:(kind,Cc)∈lF) (hm:iD Cc 199=some tf) (hc:Cc=1333\/Cc=1371\/Cc=1390) (h:∀H' sf lv kk,n<=kk->Ext H H'->MS H' C s->RI H' sf Cc->jY H' lv [l]->bD g kk (.ref tf) [sf,.ref C.m,w,lv] H' C s B res):Ik g n H C s B res l w kind
 |b (e:kind=59) (h:∀H' kk,n<=kk->Ext H H'->MS H' C s->bD g kk (.ref 579) [.ref C.m,w] H' C s B res):Ik g n H C s B res l w kind
inductive Il(H:AH)(C:MC)(v w:Value)(la:Addr)(l:Str)(j:Nat)(m':Lc)(H':AH):Prop
 |a (e:j=1) (E:Ext H H') (em:m'=[(94,.ref C.m),(14,v),(201,.ref la)]) (h:H' la=some (.κ false [])):Il H C v w la l j m' H'
 |b (e:j=0) (E:Ext H H') (em:m'=[(94,.ref C.m),(14,w),(201,.ref la)]) (h:H' la=some (.κ false [sv l])):Il H C v w la l j m' H'
theorem QQ{v w a:Value}(np:NP (some ν) H v x 55 (.str l 0) [w])(nw:NP (some ν) H w wx kind wa wk)(sS:(kind==55)=false)(pN:l≠s_)(i7:bF l)(M:MS H C s)(BJ:gw res.1)
  (ade:Ik g n H C s B res l w kind) (hk:n+1<=k):bD g k (.ref 1175) [.ref C.m,v] H C s B (fw l res):=by
 intro Q X hq hX
 refine μ.en (fT 65 rfl) rfl hk λ cx o ek=>?_
 ktf_call"g"
 ktf_call"lf"
 ktf_call"T";intro bE la QR yF hO
 ktf_call"g"
 refine mm.wl o (I:=Il H C v w la l) (n:=1) (by exact⟨rfl,rfl,rfl,trivial⟩) (.a rfl QR rfl hO) ?_
 rintro j m' H₁ (⟨rfl,aJ,rfl,h1⟩|⟨rfl,aJ,rfl,h1⟩)
 ·have eY:=np.fz aJ.fz
  ktf_call"g"
  have E2:=Ext.own (o:=.κ false [sv l]) yF aJ
  have h2:ξ H₁ la (.κ false [sv l]) la=some (.κ false [sv l]):=ah
  show Mine.M _ _ _ _ _ _ _ (ξ H₁ la (.κ false [sv l]))
  generalize ξ H₁ la (.κ false [sv l])=ο at E2 h2⊢
  have fL:=np.fz E2.fz
  ktf_call"g"
  exact⟨0,_,QS,by exact⟨rfl,rfl,rfl,trivial⟩,.b rfl E2 rfl h2⟩
 ·have nw1:=nw.fz aJ.fz
  ktf_call"g"
  refine mm.w0 sS ?_
  refine mm.gh (Gh.fl (z:=true) h1) ?_
  have E2:=Ext.own (o:=.κ true [sv l]) yF aJ
  have h2:ξ H₁ la (.κ true [sv l]) la=some (.κ true [sv l]):=ah
  generalize ξ H₁ la (.κ true [sv l])=ο at E2 h2⊢
  have M2:=M.ext E2
  clear hO yF QR h1 nw1 aJ
  have fin:∀ω bZ lJ yJ,Af ο C s B ω bZ->res=(yJ,bZ.sg)->OR ω lJ yJ->Mine.M g cx (RK Q) (XK X) [.ss [.iff (.band (.υ (.sub (.θ 133) (.int 0)) .Eq (.ς 194)) (.υ (.sub (.θ 133) (.int 1)) .In (.θ 201))) [.ret (.ς 168)] [],.ret (.θ 133)]] [] [(133,lJ),(201,.ref la)] ω:=λ ω bZ lJ yJ A e r=>
   adb (σ:=bZ.sg) o r (by rw[e]at BJ;exact BJ) i7 (A.fz _ _ h2 rfl) pN λ w' o' e' r'=>hq _ bZ w' o' ⟨E2.fz.trans A.fz,A.ms,A.env,A.dp,A.bd⟩ (by refine e▸?_;exact e') r'
  have QT:∀ω bZ lJ vX,Af ο C s B ω bZ->res=(.aw vX,bZ.sg)->VR ω lJ vX->X lJ ω:=λ ω bZ lJ vX A e r=>hX _ bZ _ vX ⟨E2.fz.trans A.fz,A.ms,A.env,A.dp,A.bd⟩ (by rw[e];rfl) r
  obtain⟨es,t1,t2⟩:=M2.sm
  cases ade with
  |r Cc tf hr hm9 pP vY=>
   refine ψ (t2 _ hr) λ sf t3 t4=>?_
   ktf_call"g"
   refine t3▸Br▸?_
   ktf_call"g"
   refine μ.isT t4 pP ?_
   ktf_call"g"
   refine vY ο _ (.ref la) cx.k o.le E2 M2 t4 (.l la rfl h2) _ _ (λ ω bZ lJ yJ A e r=>?_) λ ω bZ lJ vX A e r=>QT _ _ _ _ A e r
   refine mm.aP o 2 rfl ?_
   exact mm.fr (by exact⟨rfl,rfl,trivial⟩) (fin _ _ _ _ A e r)
  |b e0 vY=>
   subst e0
   refine ψ (t2 (59,989) (by decide)) λ sf t3 t4=>?_
   ktf_call"g"
   refine t3▸Br▸?_
   ktf_call"g"
   refine μ.isF t4 ?_
   ktf_call"g"
   refine vY ο cx.k o.le E2 M2 _ _ (λ ω bZ lJ yJ A e r=>?_) λ ω bZ lJ vX A e r=>QT _ _ _ _ A e r
   refine mm.aP o 2 rfl ?_
   exact mm.fr (by exact⟨rfl,rfl,trivial⟩) (fin _ _ _ _ A e r)
theorem QU(hk:n+1<=k)(h:∀kk,n<=kk->bD g kk (.ref 1175) [.ref C.m,v] H C s B res):bD g k (.ref 1189) [sf,.ref C.m,v] H C s B res:=by
 intro Q X hq hX
 refine μ.en (fT 66 rfl) rfl hk λ c o _=>?_
 ktf_call"g"
 exact h c.k o.le _ _ hq hX
end
section
variable {k:Nat}
inductive my(ν:Addr->Int)(H:AH)(c:Value)(p:Option Ex)(v:Value):Prop
 |mk (x:Addr) (t:Value) (h:NP (some ν) H c x 51 (.str s_ 0) [t,v]) (r:cQ (ER (some ν) H) t p):my ν H c p v
theorem my.fz(F:Fz H H')(h:my ν H c p v):my ν H' c p v:=by
 cases h with|mk x t h r=>exact⟨x,t,h.fz F,r.map λ _ _ z=>z.fz F⟩
inductive Im(ν:Addr->Int)(H:AH)(c:Value)(p:Option Ex):Prop
 |mk (v:Value) (h:my ν H c p v) (w:eC p):Im ν H c p
theorem eC.ev(h:eC (some e)):dm ν E e σ=(.ok (eF e),σ):=by
 cases e with
 |dA n x=>exact h.elim
 |_=>rfl
theorem eC.QV(h:eC (some e))(k:dm ν E e σ=(r,bz)):r=.ok (eF e)/\bz=σ:=by
 rw[h.ev]at k;injection k with h1 h2;exact⟨h1.symm,h2.symm⟩
noncomputable def mz(u:SV):List (Option Ex)->Nat->Int->Int
 | [],_,d=>d
 |none::r,i,_=>mz u r (i+1) i
 |some e::r,i,d=>if same u (eF e)=true then i else mz u r (i+1) d
noncomputable def vZ(n:Nat):Int:=if n=2 then -1 else n
theorem adf{u:SV}{p1 p2:Option Ex}:mz u [p1,p2] 0 (-1)=vZ (eG u p1 p2):=by
 cases p1 with
 |none=>cases p2 with
  |none=>rfl
  |some e=>
   show(if same u (eF e)=true then(1:Int)else 0)=vZ (if hit u none=true then 0 else if same u (eF e)=true then 1 else if(some e).isNone=true then 1 else if(none:Option Ex).isNone=true then 0 else 2)
   cases same u (eF e) <;> rfl
 |some e=>cases p2 with
  |none=>
   show(if same u (eF e)=true then(0:Int)else 1)=vZ (if same u (eF e)=true then 0 else if hit u none=true then 1 else if(none:Option Ex).isNone=true then 1 else if(some e).isNone=true then 0 else 2)
   cases same u (eF e) <;> rfl
  |some e'=>
   show(if same u (eF e)=true then(0:Int)else if same u (eF e')=true then 1 else -1)=vZ (if same u (eF e)=true then 0 else if same u (eF e')=true then 1 else if(some e').isNone=true then 1 else if(some e).isNone=true then 0 else 2)
   cases same u (eF e) <;> cases same u (eF e') <;> rfl
inductive QW(C:MC)(H:AH)(s:bI)(B:Nat)(u:SV)(ps:List (Option Ex))(vv:Value)(fM:Addr)(j:Nat)(m':Lc)(H':AH):Prop
 |mk (d:Int) (s':bI) (A:Af H C s (B+2*j) H' s') (es:s'.sg=s.sg) (e:mz u ps 0 (-1)=mz u (ps.drop j) j d) (em:m'=[(94,.ref C.m),(70,vv),(243,.ref fM),(244,.int d 0)]):QW C H s B u ps vv fM j m' H'
theorem bj(h:j<n)(k:B+2*n+3<=20000):B+2*j+3<=20000:=Ψ (vM (eP (v7 2 (jo h)) B) 3) k
theorem bk(h:j<n):B+2*(j+1)<=B+2*n:=eP (v7 2 h) B
theorem adg(ly:H fM=some (.κ true cs))(hc:ak (Im ν H) cs ps)(hu:VR H vv u)(M:MS H C s)(hE:a_ H s.env E n)(hB:Bd s B)(aI:B+2*ps.length+3<=20000)(hn:cs.length<1000)(aE:s.dp<44)(hk:19<=k)
  (hq:∀H' s',Af H C s (B+2*ps.length) H' s'->s'.sg=s.sg->Q (.int (mz u ps 0 (-1)) 0) H'):μ g k (.ref 1406) [.ref C.m,vv,.ref fM] H Q X:=by
 refine μ.en (fT 82 rfl) rfl hk λ c o _=>?_
 ktf_call"g"
 refine μ.len_list ly (aZ hn (hW rfl)) ?_
 ktf_call"g"
 refine μ.range (n:=cs.length) (aZ hn (hW rfl)) λ ra a1 a2 a3 m8=>?_
 refine mm.fo (Goes.range (aZ hn (hW rfl)) ah) (I:=QW C H s B u ps vv fM) (by exact⟨rfl,rfl,rfl,rfl,trivial⟩) ⟨-1,s,⟨Fz.new m8 Fz.refl,M.new m8,rfl,rfl,hB⟩,rfl,rfl,rfl⟩ ?_ ?_
 ·intro j x _ H' adh hx;obtain⟨d,s',A,es,e,rfl⟩:=adh
  refine⟨trivial,?_⟩
  obtain⟨hj,rfl⟩:=HZ hx
  obtain⟨p,e1,e2,v,yK,hp⟩:=hc.at (lr hj)
  obtain⟨cx,t,np,rp⟩:=yK.fz A.fz
  have QX:=(List.getElem?_eq_some_iff.mp e1).1
  have M1:=A.ms
  rw[e2]at e
  ktf_call"g"
  refine mm.sg (cq.list (i:=(j:Int)) (A.fz _ _ ly rfl) (oF j) (Int.ofNat_lt.mpr (aZ (aZ hj hn) (hW rfl))) (v:=cs[j]) (lr hj) ?_)
  ktf_call"g"
  cases p with
  |none=>
   have e0:t=.none:=rp
   refine e0.symm▸?_
   ktf_call"g"
   exact⟨_,by exact⟨rfl,rfl,rfl,rfl,trivial⟩,j,s',A.mono (eP (v7 2 (gK j)) B),es,e,rfl⟩
  |some ee=>
   have er:ER (some ν) H' t ee:=rp
   refine mm.b er.ne ?_
   ktf_call"g"
   refine sU er hp.ok A.ms (by rw[A.env];exact hE.fz A.fz) A.bd (bj QX aI) (by rw[A.dp];exact aE) (by ktf_call"k") (λ ο ae w u' dS fK ig=>?_) λ ο ae w u' dS fK ig=>nomatch (hp.QV fK).1
   obtain⟨eu,eg⟩:=hp.QV fK
   injection eu with eu
   rw[eu]at ig
   ktf_call"g"
   refine abP ((hu.fz A.fz).fz dS.fz) ig (by ktf_call"k") ?_
   have A3:=A.trans dS
   have QY:=eg.trans es
   cases hs:same u (eF ee)with
   |true=>
    have e:mz u ps 0 (-1)=j:=e.trans (if_pos hs)
    ktf_call"g"
    rw[<- e]
    exact hq _ _ (A3.mono (bk QX)) QY
   |false=>
    have e:mz u ps 0 (-1)=mz u (ps.drop (j+1)) (j+1) d:=e.trans (by show(if same u (eF ee)=true then _ else _)=_;rw[hs];rfl)
    ktf_call"g"
    exact⟨_,by exact⟨rfl,rfl,rfl,rfl,trivial⟩,d,ae,A3,QY,e,rfl⟩
 ·intro _ H' adi;obtain⟨d,s',A,es,e,rfl⟩:=adi
  refine⟨trivial,?_⟩
  rw[vR,hc.len]at e A
  rw[yz]at e
  ktf_call"g"
  rw[show d=mz u ps 0 (-1)from e.symm]
  exact hq _ _ A es
end
section
variable {st:List Value}
theorem mm.tl{x:Addr}{z:Bool}{vs:List Value}{i:Nat}(h1:H x=some (.κ z vs))(h3:vs.length<=1000)(h:∀y H',H y=none->Ext H H'->H' y=some (.κ true (vs.drop i))->M g c Q X D (.ref y::st) m H'):M g c Q X (.oq true::D) (.none::.none::.int i 0::.ref x::st) m H:=
 mm.oq (some (i:Int)) none none h1 (by simp) (Ψ h3 (by decide)) λ y hy=>h y _ hy (Ext.new hy) (by rw[ah,ahA])
theorem ak.drop{α β:Type}{R:α->β->Prop}{l:List α}{m:List β}(n:Nat)(h:ak R l m):ak R (l.drop n) (m.drop n):=
 ak.ind (R:=R) (P:=λ l m=>∀n,ak R (l.drop n) (m.drop n)) (λ n=>by cases n <;> trivial) (λ _ _ _ _ h h' t n=>by
  cases n with
  |zero=>exact⟨h,h'⟩
  |succ n=>exact t n) h n
end
section
variable {k:Nat}
theorem QZ{f:St->Sg->Ot×Sg}{st:St}{r:List St}{σ bz:Sg}(e:f st σ=(.χ,bz)):aA f (st::r) σ=aA f r bz:=by
 show(match f st σ with| (.χ,bz)=>aA f r bz |p=>p)=_;exact e▸rfl
theorem yL{f:St->Sg->Ot×Sg}{st:St}{r:List St}{σ bz:Sg}{o:Ot}(e:f st σ=(o,bz))(h:o≠.χ):aA f (st::r) σ=(o,bz):=by
 show(match f st σ with| (.χ,bz)=>aA f r bz |p=>p)=_;rw[e];cases o <;> first |rfl |exact absurd rfl h
theorem Q0{f:St->Sg->Ot×Sg}{st:St}{σ:Sg}:aA f [st] σ=f st σ:=by
 cases e:f st σ with|mk o bz=>cases o with
  |χ=>exact QZ e
  |_=>exact yL e (by intro z;cases z)
inductive kM(ν:Addr->Int)(g:Gv)(C:MC)(kk:Nat)(H:AH)(E:Ev)(dp:Int)(cb:Nat)(f:St->Sg->Ot×Sg)(c:Value)(p:Option Ex×St):Prop
 |mk (v:Value) (h:my ν H c p.1 v) (w:eC p.1) (i:lH ν H v) (r:∀H' ev m,Fz H H'->a_ H' ev E m->Runs g C kk H' ev dp v cb (f p.2)):kM ν g C kk H E dp cb f c p
theorem kM.fz{kk cb:Nat}{E:Ev}{dp:Int}{f:St->Sg->Ot×Sg}{c:Value}{p:Option Ex×St}{H':AH}(h:kM ν g C kk H E dp cb f c p)(F:Fz H H'):kM ν g C kk H' E dp cb f c p:=by
 cases h with|mk v h w i r=>exact⟨v,h.fz F,w,i.fz F,λ aD ev m Z=>r aD ev m (F.trans Z)⟩
theorem kM.w{kk cb:Nat}{E:Ev}{dp:Int}{f:St->Sg->Ot×Sg}:∀{cs:List Value}{cl:List (Option Ex×St)},ak (kM ν g C kk H E dp cb f) cs cl->ak (Im ν H) cs (cl.map (·.1))
 | [],[],_=>trivial
 |_::_,_::_,h=>⟨let⟨v,a,b,_,_⟩:=h.1;⟨v,a,b⟩,kM.w h.2⟩
 | [],_::_,h=>h.elim
 |_::_,[],h=>h.elim
inductive Q1(C:MC)(H:AH)(s:bI)(H₁:AH)(B cb:Nat)(f:St->Sg->Ot×Sg)(cl:List (Option Ex×St))(σ:Sg)(j:Nat)(m':Lc)(H':AH):Prop
 |mk (s':bI) (F:Fz H₁ H') (A:Af H C s (B+j*cb) H' s') (e:aA f (cl.map (·.2)) σ=aA f ((cl.drop j).map (·.2)) s'.sg) (em:m'=[(94,.ref C.m)]):Q1 C H s H₁ B cb f cl σ j m' H'
theorem c2{B n:Nat}(h:B+7+n<=19980):B+2*2+3<=20000:=Ψ (cK _ n) (Ψ h (by decide))
theorem c3{B n m:Nat}(h:B+7+n<=19980)(k:m<=n):B+4+m<=19990:=Ψ (aT (eP (by decide:4<=7) B) k) (Ψ h (by decide))
theorem adj{cs:List Value}{vv:Value}{fM:Addr}{cl:List (Option Ex×St)}{ch:Nat}{f:St->Sg->Ot×Sg}{u:SV}{E:Ev}{n B cb kk:Nat}(ly:H fM=some (.κ true cs))(hc:ak (kM ν g C kk H E s.dp cb f) cs cl)(cz:cl.length=2)(pM:mz u (cl.map (·.1)) 0 (-1)=vZ ch)(Io:ch<=2)(hu:VR H vv u)(M:MS H C s)(hE:a_ H s.env E n)
  (hB:Bd s B) (aI:B+7+2*cb<=19980) (aE:s.dp<44) (hk:20<=k) (bO:kk+2<=k):
  bD g k (.ref 1413) [.ref C.m,vv,.ref fM] H C s (B+4+2*cb) (pH (aA f ((cl.drop ch).map (·.2)) s.sg)):=by
 intro Q X hq hX
 refine μ.en (fT 83 rfl) rfl hk λ cx o ek=>?_
 have kc:kk+1<=cx.k:=yH ek bO
 have Q2:cs.length=2:=hc.len.trans cz
 have b0:B+2*(cl.map (·.1)).length+3<=20000:=by rw[gJ,cz];exact c2 aI
 ktf_call"g"
 refine adg ly (kM.w hc) hu M hE hB b0 (by refine Q2▸?_;decide) aE (by ktf_call"k") λ H₁ s₁ A es=>?_
 rw[gJ,cz]at A
 refine pM▸?_
 rcases yM ch 2 with h2 |h2
 ·refine(show vZ ch=(ch:Int)from if_neg (gc h2))▸?_
  rw[<- es]at hq hX
  clear b0 es pM
  ktf_call"g"
  refine mm.kJ true ?_
  ktf_call"g"
  refine mm.tl (A.fz _ _ ly rfl) (by refine Q2▸?_;decide) λ y ο ny a9 hy=>?_
  have hd:=hc.drop ch
  have dW:(cl.drop ch).length<=2:=by exact x7▸cz▸(AS _ _)
  have A2:Af H C s (B+4) ο s₁:=⟨A.fz.trans a9.fz,A.ms.ext a9,A.env,A.dp,A.bd⟩
  clear A
  generalize cs.drop ch=ds,cl.drop ch=dl at *
  have iG:∀{j},j<dl.length->B+4+(j+1)*cb<=B+4+2*cb:=λ h=>Qn (jI h dW)
  ktf_call"g"
  refine mm.fo (Goes.list hy) (I:=Q1 C H s ο (B+4) cb f dl s₁.sg) (by exact⟨rfl,trivial⟩) ⟨s₁,Fz.refl,A2.mono (cK _ _),rfl,rfl⟩ ?_ ?_
  ·intro j x _ H' adk hx;obtain⟨s',F,A',e,rfl⟩:=adk
   refine⟨F _ _ hy rfl,?_⟩
   refine fh (hd.at hx) λ p hp hdr hxc=>?_
   have hj:=(List.getElem?_eq_some_iff.mp hp).1
   obtain⟨v,⟨xx,t,np,rp⟩,w,i,hr⟩:=hxc.fz A'.fz
   rw[hdr,u_]at e
   ktf_call"g"
   refine mm.kJ true ?_
   ktf_call"g"
   refine mm.ks np λ kl eB=>?_
   ktf_call"g"
   refine mm.tl (i:=1) eB (eV rfl) λ z ω nz bx hz=>?_
   ktf_call"g"
   refine Qo (kv:=[v]) (kk:=kk) (c:=cb) (B:=B+4+j*cb) (ss:=[p.2]) (f:=f) (A'.ms.ext bx) hz ⟨by refine A'.env▸A'.dp▸?_;exact hr _ _ _ bx.fz (hE.fz (A'.fz.trans bx.fz)),trivial⟩ A'.bd (by rw[show[p.2].length*cb=cb from pC cb,vJ];exact Ψ (iG hj) (c3 aI (bK _))) (by ktf_call"k") _ _ (λ ar bc w ot cC gQ r=>?_) λ ar bc w oD cC gQ r=>?_
   ·rw[Q0]at gQ
    rw[show[p.2].length*cb=cb from pC cb,vJ]at cC
    have A3:Af H C s (B+4+(j+1)*cb) ar bc:=⟨(A'.fz.trans bx.fz).trans cC.fz,cC.ms,cC.env.trans A'.env,cC.dp.trans A'.dp,cC.bd⟩
    have A5:=A3.mono (iG hj)
    ktf_call"g"
    cases ot with
    |χ=>
     ktf_call"g"
     exact⟨_,by exact⟨rfl,trivial⟩,bc,((F.trans bx.fz).trans cC.fz),A3,e.trans (QZ gQ),rfl⟩
    |ret v=>ktf_call"g";exact hq _ _ _ (.ret v) A5 (by rw[e,yL gQ (by intro z;cases z)];rfl) r
    |cnt v=>ktf_call"g";exact hq _ _ _ (.cnt v) A5 (by rw[e,yL gQ (by intro z;cases z)];rfl) r
    |aw v=>exact r.not.elim
    |brk l=>
     have pl:=r.pl (.inl rfl)
     have e4:pH (aA f (dl.map (·.2)) s₁.sg)=if(l.cps.toList==[])=true then(.χ,bc.sg)else(.brk l,bc.sg):=by rw[e,yL gQ (by intro z;cases z)];rfl
     ktf_call"g"
     cases hl:(l.cps.toList==[])with
     |true=>
      rw[hl]at e4
      ktf_call"g"
      exact hq _ _ _ .χ A5 e4 (.χ rfl)
     |false=>
      rw[hl]at e4
      ktf_call"g"
      exact hq _ _ _ (.brk l) A5 e4 r
   ·rw[Q0]at gQ
    rw[show[p.2].length*cb=cb from pC cb,vJ]at cC
    exact hX _ _ _ oD ⟨(A'.fz.trans bx.fz).trans cC.fz,cC.ms,cC.env.trans A'.env,cC.dp.trans A'.dp,cC.bd.mono (iG hj)⟩ (by rw[e,yL gQ (by intro z;cases z)];rfl) r
  ·intro _ H' adl;obtain⟨s',F,A',e,rfl⟩:=adl
   refine⟨F _ _ hy rfl,?_⟩
   rw[hd.len,yz]at e
   rw[hd.len]at A'
   ktf_call"g"
   exact hq _ _ _ .χ (A'.mono (eP (m5 cb dW) _)) (by exact e▸rfl) (.χ rfl)
 ·obtain rfl:ch=2:=x9 Io h2
  ktf_call"g"
  exact hq _ _ _ .χ (A.mono (cK _ _)) (by exact es▸cz▸yz▸rfl) (.χ rfl)
theorem c4(h:B+9+n<=19980):B+3<=20000:=Ψ (Ψ (eP (by decide:3<=9) B) (cK _ n)) (Ψ h (by decide))
theorem c5(h:B+9+n<=19980):B+2+7+n<=19980:=h
theorem c6:B+2<=B+2+4+n:=Ψ (cK _ 4) (cK _ n)
theorem adm{v ev c1 c2 a:Value}{x:Addr}{kind:Int}{e:Ex}{p1 p2:Option Ex}{s1 s2:St}(np:NP (some ν) H v x kind a [ev,c1,c2])(er:ER (some ν) H ev e)(he:m7 e)(hc:ak (kM ν g C kk H E s.dp cb f) [c1,c2] [(p1,s1),(p2,s2)])
  (M:MS H C s) (hE:a_ H s.env E n) (hB:Bd s B) (aI:B+9+2*cb<=19980) (aE:s.dp<44) (hk:22<=k) (bO:kk+3<=k):
  bD g k (.ref 1420) [.ref C.m,v] H C s (B+2+4+2*cb) (fJ ν E e s.sg λ u σ=>pH (aA f ([s1,s2].drop (eG u p1 p2)) σ)):=by
 intro Q X hq hX
 refine μ.en (fT 84 rfl) rfl hk λ cx o ek=>?_
 have kc:kk+2<=cx.k:=yH ek bO
 ktf_call"g"
 refine sU er he M hE hB (c4 aI) aE (by ktf_call"k") (λ H₁ s₁ w u A BK r=>?_) λ H₁ s₁ w u A BK r=>hX _ _ _ u (A.mono c6) (yB BK) r
 rw[yA BK]at hq hX
 have M1:=A.ms
 have Q3:a_ H₁ s₁.env E n:=by exact A.env▸(hE.fz A.fz)
 have pA:=Q3.dat
 have eY:=np.fz A.fz
 clear np er M hE BK
 ktf_call"gq"
 refine mm.Qp M1 Q3 (by ktf_call"k") rfl λ ο y Z M2 Q4=>?_
 have fL:=eY.fz Z
 have FZ:=A.fz.trans Z
 clear eY M1
 ktf_call"g"
 refine mm.kJ true ?_
 ktf_call"g"
 refine mm.ks fL λ kl eB=>?_
 ktf_call"g"
 refine mm.tl (i:=1) eB (eV rfl) λ z ω nz bx hz=>?_
 have BL:ak (kM ν g C kk ω E s.dp cb f) [c1,c2] [(p1,s1),(p2,s2)]:=hc.map λ _ _ q=>q.fz (FZ.trans bx.fz)
 have M3:=M2.ext bx
 have ic:=fL.fz bx.fz
 have r3:=(r.fz Z).fz bx.fz
 have HK:=Q4.fz bx.fz
 have FZ3:=FZ.trans bx.fz
 clear hc M2 fL r Q4 bx FZ Z nz eB
 ktf_call"g"
 refine mm.fo (Goes.list hz) (I:=λ j m' H'=>Ext ω H'/\m'=[(94,.ref C.m),(14,v),(70,w),(170,s₁.env)]) (by exact⟨rfl,rfl,rfl,rfl,trivial⟩) ⟨Ext.refl,rfl⟩ ?_ ?_
 ·intro j c _ H' adn hx;obtain⟨E',rfl⟩:=adn
  refine⟨E' _ _ hz,?_⟩
  refine fh (BL.at hx) λ p _ _ hcp=>?_
  obtain⟨vc,⟨xx,t,pJ,rp⟩,_,v8,_⟩:=hcp.fz E'.fz
  ktf_call"g"
  refine mm.kJ true ?_
  ktf_call"g"
  refine mm.ks pJ λ kl' Ip=>?_
  ktf_call"g"
  refine mm.tl (i:=1) Ip (eV rfl) λ z' ar nz' i_ Iq=>?_
  ktf_call"g"
  refine Ql (ν:=ν) ((M3.ext E').ext i_) Iq (λ q ft=>?_) (by ktf_call"k") ?_
  ·rw[List.mem_singleton.mp (show q∈[vc]from ft)]
   exact v8.fz i_.fz
  ktf_call"g"
  exact⟨_,by exact⟨rfl,rfl,rfl,rfl,trivial⟩,E'.trans i_,rfl⟩
 ·intro _ H' ado;obtain⟨E',rfl⟩:=ado
  refine⟨E' _ _ hz,?_⟩
  ktf_call"g"
  refine mm.kJ true ?_
  ktf_call"g"
  refine mm.ks (ic.fz E'.fz) λ kl' Ip=>?_
  ktf_call"g"
  refine mm.tl (i:=1) Ip (eV rfl) λ z' ar nz' i_ Iq=>?_
  have kN:=E'.trans i_
  have Q5:=FZ3.trans kN.fz
  ktf_call"g"
  have Io:eG u p1 p2<=2:=by unfold eG;split;decide;split;decide;split;decide;split <;> decide
  have key:=adj (cl:=[(p1,s1),(p2,s2)]) (k:=cx.k) (g:=g) (s:={s₁ with env:=.ref y}) (kk:=kk) (cb:=cb) (B:=B+2) (f:=f) Iq (BL.map λ _ _ q=>by rw[show({s₁ with env:=.ref y}:bI).dp=s.dp from A.dp];exact q.fz kN.fz) rfl adf Io (r3.fz kN.fz) (M3.ext kN) (HK.fz kN.fz) (A.bd.same rfl rfl rfl rfl) (c5 aI) (by show s₁.dp<44;rw[A.dp];exact aE) (by ktf_call"k") (by ktf_call"k")
  rw[OO]at key
  refine key _ _ (λ aV f_ HO ot oG Ir Iu=>?_) λ aV f_ HO HP oG Ir Iu=>?_
  ·ktf_call"g"
   refine mm.ms oG.ms {f_ with env:=s₁.env} rfl rfl rfl rfl rfl λ cU bT eK=>?_
   ktf_call"g"
   rw[A.env]at eK
   exact hq _ _ _ ot ⟨(Q5.trans oG.fz).trans bT,eK,rfl,oG.dp.trans A.dp,oG.bd.same rfl rfl rfl rfl⟩ Ir (Iu.fz bT)
  ·ktf_call"g"
   refine mm.ms oG.ms {f_ with env:=s₁.env} rfl rfl rfl rfl rfl λ cU bT eK=>?_
   ktf_call"g"
   rw[A.env]at eK
   exact hX _ _ _ HP ⟨(Q5.trans oG.fz).trans bT,eK,rfl,oG.dp.trans A.dp,oG.bd.same rfl rfl rfl rfl⟩ Ir (Iu.fz bT)
theorem adp(hk:n+1<=k)(h:∀kk,n<=kk->bD g kk (.ref 1420) [.ref C.m,v] H C s B res):bD g k (.ref 1434) [sf,.ref C.m,v] H C s B res:=by
 intro Q X hq hX
 refine μ.en (fT 85 rfl) rfl hk λ c o _=>?_
 ktf_call"g"
 exact h c.k o.le _ _ hq hX
end
inductive Lx where |b |n |k (c:Nat)|a (x y:Lx)|m (c:Nat)(x:Lx)
namespace Lx
noncomputable def ev(B N:Nat):Lx->Nat | .b=>B | .n=>N | .k c=>c | .a x y=>x.ev B N+y.ev B N | .m c x=>c*x.ev B N
noncomputable def cb:Lx->Nat | .b=>1 | .n=>0 | .k _=>0 | .a x y=>x.cb+y.cb | .m c x=>c*x.cb
noncomputable def cn:Lx->Nat | .b=>0 | .n=>1 | .k _=>0 | .a x y=>x.cn+y.cn | .m c x=>c*x.cn
noncomputable def ck:Lx->Nat | .b=>0 | .n=>0 | .k c=>c | .a x y=>x.ck+y.ck | .m c x=>c*x.ck
theorem Q6{B N:Nat}(x:Lx):x.ev B N=x.cb*B+x.cn*N+x.ck:=by
 induction x with
 |b=>show B=1*B+0*N+0;rw[pC,Bx];rfl
 |n=>show N=0*B+1*N+0;rw[pC,Bx,lW];rfl
 |k c=>show c=0*B+0*N+c;rw[Bx,Bx];exact(lW c).symm
 |a x y h k=>show x.ev B N+y.ev B N=(x.cb+y.cb)*B+(x.cn+y.cn)*N+(x.ck+y.ck);rw[h,k,BG,BG,Q7,Q7 (x.cb*B)]
 |m c x h=>show c*x.ev B N=c*x.cb*B+c*x.cn*N+c*x.ck;rw[h,Nat.mul_add,Nat.mul_add,Nat.mul_assoc,Nat.mul_assoc]
noncomputable def le(x y:Lx):Bool:=jK x.cb y.cb&&jK x.cn y.cn&&jK x.ck y.ck
theorem ok(B N:Nat)(x y:Lx)(h:le x y=true):x.ev B N<=y.ev B N:=by
 unfold le at h
 rw[mJ,mJ]at h
 rw[Q6,Q6]
 exact aT (aT (m5 _ (eV h.1.1)) (m5 _ (eV h.1.2))) (eV h.2)
end Lx
section
variable {g:Gv}{C:MC}{ν:Addr->Int}
theorem ak.adq{α β:Type}{R R':α->β->Prop}{l:List α}{m:List β}(h:ak R l m):(∀a b,b∈m->R a b->R' a b)->ak R' l m:=ak.ind (R:=R) (P:=λ l m=>(∀a b,b∈m->R a b->R' a b)->ak R' l m) (λ _=>trivial) (λ _ _ _ _ h _ t k=>⟨k _ _ eU h,t λ a b hb=>k a b (eA _ hb)⟩) h
def dq(L:List Str):Prop:=∀l∈L,bF l
theorem dq.ext(h:dq L)(k:bF l):dq (ext l L):=by
 intro x hx
 unfold Mine.ext at hx
 rcases List.mem_append.mp hx with h1 |h1
 ·exact h x h1
 ·split at h1
  ·rw[List.mem_singleton.mp h1];exact sx
  ·rcases List.mem_cons.mp h1 with rfl |h1
   ·exact sx
   ·rw[List.mem_singleton.mp h1];exact k
theorem dq.app{l:Str}{L:List Str}(h:dq L)(k:bF l):dq (L++[l]):=by
 intro x hx
 rcases List.mem_append.mp hx with h1 |h1
 ·exact h x h1
 ·rw[List.mem_singleton.mp h1];exact k
theorem BM{f:St->Sg->Ot×Sg}:∀{ss:List St},(∀s∈ss,∀σ,gw (f s σ).1)->∀σ,gw (aA f ss σ).1
 | [],_,_=>trivial
 |s::r,h,σ=>by
  have h1:=h s eU σ
  show gw (match f s σ with| (.χ,bz)=>aA f r bz |p=>p).1
  generalize f s σ=p at h1⊢
  obtain⟨o,τ⟩:=p
  cases o with
  |χ=>exact BM (λ x hx=>h x (eA _ hx)) _
  |_=>exact h1
theorem Iv(h:∀v σ,gw (f v σ).1):∀(xs:List SV) (σ:Sg),gw (lp L f xs σ).1
 | [],_=>trivial
 |v::r,σ=>by
  rw[Ic]
  cases fH L (f v σ).1 with
  |zero=>exact Iv h r _
  |succ n=>cases n with
   |zero=>trivial
   |succ n=>exact h v σ
theorem Iw:bB x (y::L)=(y==x||bB x L):=rfl
theorem s_eq:(s_==x)= !(x.cps.toList != []):=by
 by_cases h:x=s_
 ·subst h;rfl
 ·exact(Hj h)▸(beq_eq_false_iff_ne.mpr (cP h))▸rfl
theorem Iy:fH L (.brk x)=if bB x (s_::L)=true then 1 else 2:=by
 show(if(x.cps.toList != [])= true/\bB x L = false then 2 else 1)= _
 refine Iw▸s_eq▸?_
 cases(x.cps.toList != []) <;> cases bB x L <;> rfl
theorem Iz:fH L (.cnt x)=if bB x (s_::L)=true then 0 else 2:=by
 show(if(x.cps.toList != [])= true/\bB x L = false then 2 else 0)= _
 refine Iw▸s_eq▸?_
 cases(x.cps.toList != []) <;> cases bB x L <;> rfl
def dX(L M:List Str):Ot->Prop
 | .brk x=>x∈M
 | .cnt x=>x∈L
 |_=>True
theorem IA{L M:List Str}:∀{ss:List St},(∀s∈ss,∀σ,dX L M (f s σ).1)->∀σ,dX L M (aA f ss σ).1
 | [],_,_=>trivial
 |s::r,h,σ=>by
  have h1:=h s eU σ
  show dX L M (match f s σ with| (.χ,bz)=>aA f r bz |p=>p).1
  generalize f s σ=p at h1⊢
  obtain⟨o,τ⟩:=p
  cases o with
  |χ=>exact IA (λ x hx=>h x (eA _ hx)) _
  |_=>exact h1
theorem Q8(h:x∈L):bB x L=true:=List.any_eq_true.mpr ⟨x,h,beq_self_eq_true _⟩
theorem IB{l:Str}{L M:List Str}(h:dX L (M++c8 l) q.1):dX L M (fw l q).1:=by
 obtain⟨o,σ⟩:=q
 cases o with
 |brk x=>
  show dX L M (if bB x (c8 l)=true then((.χ,σ):Ot×Sg)else(.brk x,σ)).1
  split
  ·trivial
  ·rename_i hx
   rcases List.mem_append.mp h with z |z
   ·exact z
   ·exact absurd (Q8 z) hx
 |_=>exact h
theorem Q9:ext l L=L++s_::c8 l:=by
 delta ext c8
 split <;> rfl
theorem IC{l:Str}{L M:List Str}(h:∀v σ,dX (ext l L) (ext l M) (f v σ).1):∀(xs:List SV) (σ:Sg),dX L (M++c8 l) (lp (c8 l) f xs σ).1
 | [],_=>trivial
 |v::r,σ=>by
  have h1:=h v σ
  rw[Q9,Q9]at h1
  rw[Ic]
  cases hn:fH (c8 l) (f v σ).1 with
  |zero=>exact IC h r _
  |succ n=>cases n with
   |zero=>trivial
   |succ n=>
   show dX L (M++c8 l) (f v σ).1
   generalize (f v σ).1=o at h1 hn⊢
   have n0:fH (c8 l) o≠0:=λ z=>nomatch hn.symm.trans z
   have n1:fH (c8 l) o≠1:=λ z=>nomatch hn.symm.trans z
   have out:∀{x:Str}{K:List Str},bB x (s_::c8 l)≠true->x∈K++s_::c8 l->x∈K:=λ hx z=>(List.mem_append.mp z).elim id λ z=>absurd (Q8 z) hx
   cases o with
   |brk x=>
    rw[Iy]at n1
    exact aa_ _ (out (λ z=>n1 (if_pos z)) h1)
   |cnt x=>
    rw[Iz]at n0
    exact out (λ z=>n0 (if_pos z)) h1
   |_=>trivial
theorem yN{L M:List Str}{E:Ev}(h:∀v σ,dX L M (f v σ).1):dX L M (fJ ν E e σ f).1:=by
 show dX L M (match dm ν E e σ with| (.ok v,bz)=>f v bz | (.error u,bz)=>(.aw u,bz)).1
 generalize dm ν E e σ=p
 obtain⟨r,τ⟩:=p
 cases r with
 |ok v=>exact h _ _
 |error u=>trivial
theorem ads{L M:List Str}(h:dX L (M++[s_]) q.1):dX L M (pH q).1:=by
 obtain⟨o,σ⟩:=q
 cases o with
 |brk x=>
  show dX L M (if(x.cps.toList==[])=true then((.χ,σ):Ot×Sg)else(.brk x,σ)).1
  split
  ·trivial
  ·rename_i hx
   rcases List.mem_append.mp h with z |z
   ·exact z
   ·rw[List.mem_singleton.mp z]at hx;exact absurd rfl hx
 |_=>exact h
theorem adt{L M:List Str}(h:dX L M p.1):∀{o:Option (List St)},(∀b,o=some b->∀σ,dX L M (f b σ).1)->dX L M (mx f p o).1
 |none,_=>h
 |some b,k=>by
  have k:=k b rfl p.2
  show dX L M (match f b p.2 with| (.χ,σ)=>(p.1,σ)|q=>q).1
  generalize f b p.2=q at k⊢
  obtain⟨o,τ⟩:=q
  cases o with
  |χ=>exact h
  |_=>exact k
theorem adu{L M:List Str}{f:Ev->List St->Sg->Ot×Sg}{E:Ev}(h1:dX L M (f E b σ).1)(h2:∀cc,c=some cc->∀E σ,dX L M (f E cc.2 σ).1):dX L M (jX ν f E b c σ).1:=by
 show dX L M (match f E b σ,c with| (.aw u,bz),some c=>vI ν f E c u bz |p,_=>p).1
 generalize f E b σ=p at h1⊢
 obtain⟨o,τ⟩:=p
 cases c with
 |none=>cases o <;> exact h1
 |some cc=>
  cases o with
  |aw u=>
   obtain⟨x,l⟩:=cc
   cases x <;> exact h2 _ rfl _ _
  |_=>exact h1
theorem v_:∀{n:Nat}{L M:List Str}{E:Ev}{st:St}{σ:Sg},WF n L M st->dX L M (ev ν n E st σ).1
 |0,_,_,_,_,_,h=>h.elim
 |n+1,L,M,E,st,σ,h=>by
  have h:l9 (WF n) L M st:=h
  have bk:∀{L M:List Str}{E:Ev}{ss:List St}{σ:Sg},WB (WF n) L M ss->dX L M (aA (ev ν n E) ss σ).1:=fun{L M E ss σ} w=>IA (λ s hs σ=>v_ (w.2.2 s hs)) σ
  show dX L M (HJ ν (ev ν n) E st σ).1
  cases st with
  |ex e=>exact yN λ _ _=>trivial
  |dN=>trivial
  |ret e=>exact yN λ _ _=>trivial
  |aw e=>exact yN λ _ _=>trivial
  |brk l=>exact h
  |cnt l=>exact h
  |dQ b c f=>
   refine fg h λ w1 w2 w3=>?_;clear h
   exact adt (adu (f:=λ E=>aA (ev ν n E)) (bk w1) λ cc e E σ=>bk (w2 cc e)) λ b e σ=>bk (w3 b e)
  |hU l b=>exact IB (IC (λ _ _=>bk h.2) _ _)
  |gq l isOf x row b=>
   cases row with
   |bad y=>trivial
   |txt t=>exact IB (IC (λ _ _=>bk h.2.2) _ _)
  |kK l b=>exact IB (by rw[show c8 l=[l]from if_neg h.2.1];exact bk h.2.2)
  |sw e p1 s1 p2 s2=>
   obtain⟨w1,w2,w3,w4,w5,_⟩:=h
   refine yN λ v σ=>ads (IA (λ s hs σ=>?_) σ)
   rcases List.mem_cons.mp (Pz hs)with rfl |h
   ·exact v_ w3
   ·exact(List.mem_singleton.mp h)▸(v_ w5)
  |iff e a b=>
   refine fg h λ w1 w2 w3=>?_;clear h
   refine yN λ v σ=>?_
   split
   ·exact bk w2
   ·cases b with
    |none=>trivial
    |some s=>exact v_ (w3 s rfl)
theorem dX.ok{L M:List Str}{o:Ot}(h:dX L M o)(hL:dq L)(hM:dq M):gw o:=by
 cases o with
 |brk x=>exact hM x h
 |cnt x=>exact hL x h
 |_=>trivial
theorem ID{n:Nat}{L M:List Str}{E:Ev}{st:St}{σ:Sg}(h:WF n L M st)(hL:dq L)(hM:dq M):gw (ev ν n E st σ).1:=(v_ h).ok hL hM
noncomputable def nc:Nat->Nat
 |0=>0
 |n+1=>32+6*nc n
def yO(g:Gv)(C:MC)(ν:Addr->Int)(n:Nat):Prop:=∀{st:St}{v:Value}{L M:List Str}{H:AH}{E:Ev}{m:Nat}{env:Value}{dp:Int}{k:Nat},SR (some ν) H n v st->WF n L M st->dq L->dq M->a_ H env E m->dp+3*n<=43->14*n+25<=k->
 Runs g C k H env dp v (nc n) (ev ν n E st)
theorem wc{dp:Int}{n a:Nat}(h:dp+3*(n:Int)<=a):dp<=a:=ji (abL (Int.mul_nonneg (by decide) (oF n))) h
theorem kq{n a c k:Nat}(h:14*n+c<=k)(e:jK a c=true):14*n+a<=k:=Ψ (eP (eV e) _) h
theorem kr{n a c k:Nat}(h:14*n+c<=k)(e:jK a c=true):a<=k:=Ψ (Ψ (eV e) (eh _ _)) h
theorem m_{n:Nat}(ih:yO g C ν n){bv:Value}{ss:List St}{L M:List Str}{H:AH}{E:Ev}{m:Nat}{env:Value}{dp:Int}{k:Nat}(br:BR (some ν) H (SR (some ν) H n) bv ss)(wb:WB (WF n) L M ss)(hL:dq L)(hM:dq M)(hE:a_ H env E m)(aE:dp+1+3*n<=43)(hk:14*n+30<=k):
  Runs g C k H env dp bv (1+2*nc n) (aA (ev ν n E) ss):=by
 obtain⟨x,kv,np,ha⟩:=br
 refine fg wb λ w1 w2 w3=>?_;clear wb
 exact λ H' s' B Z M' e1 e2 hB aI=>(abY (g:=g) (C:=C) (dp:=dp) (kk:=14*n+25) (c:=nc n) (f:=ev ν n E) (ss:=ss) np (λ v hv=>by refine ψ (ha.mem v hv) λ b _ r=>?_;exact r.Bw) hE (ji (wc aE) (by decide)) (λ H' ev' m' Z ju=>ha.adq λ a b hb r=>ih (r.fz Z) (w3 b hb) hL hM ju aE (bK _)) (k:=k) hk (kr hk rfl)
  H' s' B Z M' e1 e2 hB (Ψ (eP (eP (m5 _ w2) 1) B) aI)).mono (eP (eP (m5 _ w2) 1) B)
theorem ou.asc(h:ou row)(t:Str)(e:row=.txt t):asc t:=by
 subst e
 rcases h with rfl |rfl |rfl <;> exact⟨by decide +kernel,by decide⟩
section
variable {n:Nat}{v a env:Value}{x f Cc:Addr}{kind dp:Int}{kv:List Value}{k m:Nat}{F:Sg->Ot×Sg}{H:AH}{E:Ev}
noncomputable def UB:Lx:=.a .b (.a (.k 32) (.m 6 .n))
theorem mo(B N:Nat)(x:Lx)(h:Lx.le x UB=true):x.ev B N<=B+(32+6*N):=Lx.ok B N x UB h
theorem ub{B N:Nat}(x:Lx)(k:B+(32+6*N)<=19990)(h:Lx.le x UB=true):x.ev B N<=19980+10:=Ψ (mo B N x h) k
theorem up{B N:Nat}(x:Lx)(k:B+(32+6*N)<=19990)(h:Lx.le x UB=true):x.ev B N<=20000:=Ψ (mo B N x h) (Ψ k (by decide))
structure Rl(g:Gv)(C:MC)(n:Nat)(H:AH)(E:Ev)(m:Nat)(H':AH)(s':bI)(B kk:Nat)(Cc:Addr)(sf:Value):Prop where
 fz:Fz H H'
 ms:MS H' C s'
 en:a_ H' s'.env E m
 dp:s'.dp+1+3*(n:Int)<=42
 bd:Bd s' (B+1)
 b2:B+(32+6*nc n)<=19990
 ri:RI H' sf Cc
 k:14*n+37<=kk
theorem rule(np:NP (some ν) H v x kind a kv)(hr:(kind,Cc)∈lF)(hm:iD Cc 122=some f)(hE:a_ H env E m)(aE:dp+3*((n+1:Nat):Int)<=43)(hk:14*(n+1)+25<=k)
  (hc:∀H' s' B sf kk,Rl g C n H E m H' s' B kk Cc sf->bD g kk (.ref f) [sf,.ref C.m,v] H' C s' (B+(32+6*nc n)) (F s'.sg)):Runs g C k H env dp v (nc (n+1)) F:=
 ab0 (kk:=14*n+37) np hr hm (IE (wc aE) (by decide)) hk (Ψ (eh 6 _) hk) (Ψ (by decide:1<=32) (cK 32 _)) λ H' s' B sf Z M' h1 h2 hB aI hI=>hc H' s' B sf _ ⟨Z,M',by rw[h1];exact hE.fz Z,by rw[h2];omega,hB,aI,hI,bK _⟩
theorem Rl.lM{H':AH}{s':bI}{B kk:Nat}{sf:Value}(h:Rl g C n H E m H' s' B kk Cc sf):s'.dp+1+3*(n:Int)<=43:=ji h.dp (by decide)
theorem Rl.d3{H':AH}{s':bI}{B kk:Nat}{sf:Value}(h:Rl g C n H E m H' s' B kk Cc sf):s'.dp+3*(n:Int)<=43:=by
 have:=h.dp;rw[Int.add_right_comm]at this;exact ji (Int.le_of_lt_add_one (IE (Int.le_of_lt (xe (IF (vu _)) this)) (by decide:(42:Int)<42+1))) (by decide)
theorem Rl.yP{H':AH}{s':bI}{B kk:Nat}{sf:Value}(h:Rl g C n H E m H' s' B kk Cc sf):s'.dp<44:=IE (wc h.d3) (by decide)
theorem Rl.b{H':AH}{s':bI}{B kk:Nat}{sf:Value}(h:Rl g C n H E m H' s' B kk Cc sf)(x:Lx)(e:Lx.le x UB=true):x.ev B (nc n)<=19990:=ub x h.b2 e
theorem Rl.IG(h:Rl g C n H E m H' s' B kk Cc sf)(x:Lx)(e:Lx.le x UB=true):x.ev B (nc n)<=20000:=up x h.b2 e
theorem Q_:fw s_ p=p:=by
 obtain⟨o,σ⟩:=p
 cases o <;> rfl
variable (ih:yO g C ν n){L M:List Str}(hL:dq L)(hM:dq M)(hE:a_ H env E m)(aE:dp+3*((n+1:Nat):Int)<=43)(hk:14*(n+1)+25<=k)
include hE aE hk
theorem adx(h:sq (some ν) H 43 v e)(hw:WE e):Runs g C k H env dp v (nc (n+1)) λ σ=>fJ ν E e σ λ _ σ=>(.χ,σ):=by
 obtain⟨x,w,np,er⟩:=h
 refine rule np (Cc:=970) (f:=967) (by decide) rfl hE aE hk λ H' s' B sf kk R=>?_
 exact(ab1 (np.fz R.fz) (er.fz R.fz) hw.ok R.ms R.en R.bd (R.IG (.a (.a .b (.k 1)) (.k 3)) rfl) R.yP (kr R.k rfl)).mono (mo B (nc n) (.a (.a .b (.k 1)) (.k 2)) rfl)
theorem ady(h:∃x,NP (some ν) H v x 52 (.str s_ 0) [.none]):Runs g C k H env dp v (nc (n+1)) λ σ=>(.ret .u,σ):=by
 refine Θ h λ x np=>?_;clear h
 refine rule np (Cc:=1083) (f:=1080) (by decide) rfl hE aE hk λ H' s' B sf kk R=>?_
 exact(ab2 (np.fz R.fz) R.ms R.bd (kr R.k rfl)).mono (mo B (nc n) (.a .b (.k 1)) rfl)
theorem adz(h:sq (some ν) H 52 v e)(hw:WE e):Runs g C k H env dp v (nc (n+1)) λ σ=>fJ ν E e σ λ v σ=>(.ret v,σ):=by
 obtain⟨x,w,np,er⟩:=h
 refine rule np (Cc:=1083) (f:=1080) (by decide) rfl hE aE hk λ H' s' B sf kk R=>?_
 exact(ab3 (np.fz R.fz) (er.fz R.fz) hw.ok R.ms R.en R.bd (R.IG (.a (.a .b (.k 1)) (.k 3)) rfl) R.yP (kr R.k rfl)).mono (mo B (nc n) (.a (.a .b (.k 1)) (.k 2)) rfl)
theorem adA(h:sq (some ν) H 56 v e)(hw:WE e):Runs g C k H env dp v (nc (n+1)) λ σ=>fJ ν E e σ λ v σ=>(.aw v,σ):=by
 obtain⟨x,w,np,er⟩:=h
 refine rule np (Cc:=1140) (f:=1137) (by decide) rfl hE aE hk λ H' s' B sf kk R=>?_
 exact(ab6 (np.fz R.fz) (er.fz R.fz) hw.ok R.ms R.en R.bd (R.IG (.a (.a .b (.k 1)) (.k 3)) rfl) R.yP (kr R.k rfl)).mono (mo B (nc n) (.a (.a .b (.k 1)) (.k 2)) rfl)
theorem adB(h:∃x,NP (some ν) H v x 53 (.str l 0) []):Runs g C k H env dp v (nc (n+1)) λ σ=>(.brk l,σ):=by
 refine Θ h λ x np=>?_;clear h
 refine rule np (Cc:=1102) (f:=1099) (by decide) rfl hE aE hk λ H' s' B sf kk R=>?_
 exact(ab4 (np.fz R.fz) R.ms R.bd (kr R.k rfl)).mono (mo B (nc n) (.a .b (.k 1)) rfl)
theorem adC(h:∃x,NP (some ν) H v x 54 (.str l 0) []):Runs g C k H env dp v (nc (n+1)) λ σ=>(.cnt l,σ):=by
 refine Θ h λ x np=>?_;clear h
 refine rule np (Cc:=1121) (f:=1118) (by decide) rfl hE aE hk λ H' s' B sf kk R=>?_
 exact(ab5 (np.fz R.fz) R.ms R.bd (kr R.k rfl)).mono (mo B (nc n) (.a .b (.k 1)) rfl)
noncomputable def cB:Lx:=.a (.k 1) (.m 2 .n)
noncomputable def elF(f:St->Sg->Ot×Sg)(b:Option St)(σ:Sg):Ot×Sg:=match b with|some s=>f s σ |none=>(.χ,σ)
include ih hL
theorem adD{e:Ex}{a:List St}{b:Option St}(h:Hd (some ν) H (SR (some ν) H n) v e a b)(w1:WE e)(w2:WB (WF n) L M a)(w3:∀y,b=some y->WF n L M y)(hM:dq M):Runs g C k H env dp v (nc (n+1)) λ σ=>fJ ν E e σ λ v σ=>if cM v=true then aA (Mine.ev ν n E) a σ else elF (Mine.ev ν n E) b σ:=by
 obtain⟨x,ev,av,bv,np,er,a1,b1⟩:=h
 refine rule np (Cc:=1008) (f:=1005) (by decide) rfl hE aE hk λ H' s' B sf kk R=>?_
 refine bD.mono (ab7 (kk:=14*n+30) (ca:=1+2*nc n) (cb:=nc n) (np.fz R.fz) (er.fz R.fz) w1.ok R.ms R.en R.bd R.yP (m_ ih (a1.fz R.fz) w2 hL hM R.en R.lM (bK _)) ?_
  (R.b (.a (.a (.a (.a (.a .b (.k 1)) (.k 2)) cB) .n) (.k 10)) rfl) (kr R.k rfl) (kq (a:=31) R.k rfl)) (mo B (nc n) (.a (.a (.a (.a .b (.k 1)) (.k 2)) cB) .n) rfl)
 cases b with
 |none=>exact .no b1 λ _=>rfl
 |some st=>
  have b1:SR (some ν) H n bv st:=b1
  exact .so (by obtain⟨y,_,_,_,_,np,_⟩:=b1.Bw;exact np.ne) (λ aD lq B'' Z yQ e1 e2=>(ih (b1.fz R.fz) (w3 st rfl) hL hM R.en R.d3 (kq (bK (14*n+30)) rfl)) aD lq B'' Z yQ e1 e2)
theorem adE{b:List St}{c:Option (Option Addr×List St)}{f:Option (List St)}(h:Ba (some ν) H (SR (some ν) H n) v b c f)(w1:WB (WF n) L M b)(w2:∀y,c=some y->WB (WF n) L M y.2)(w3:∀y,f=some y->WB (WF n) L M y)(hM:dq M):Runs g C k H env dp v (nc (n+1)) λ σ=>mx (aA (Mine.ev ν n E)) (jX ν (λ E=>aA (Mine.ev ν n E)) E b c σ) f:=by
 obtain⟨x,bv,cv,fv,np,b1,c1,f1⟩:=h
 refine rule np (Cc:=1484) (f:=1481) (by decide) rfl hE aE hk λ H' s' B sf kk R=>?_
 refine(acg (n:=14*n+36) R.k λ k2 bO=>Qt (kk:=14*n+30) (cb:=1+2*nc n) (f:=λ E=>aA (Mine.ev ν n E)) (np.fz R.fz) R.ms R.en R.bd (R.b (.a (.a (.a (.a .b (.k 1)) cB) (.a (.k 1) cB)) cB) rfl) (m_ ih (b1.fz R.fz) w1 hL hM R.en R.lM (bK _)) ?_ ?_ (kq (a:=33) bO rfl) (kr bO rfl)).mono (mo B (nc n) (.a (.a (.a (.a .b (.k 1)) cB) (.a (.k 1) cB)) cB) rfl)
 ·cases c with
  |none=>exact c1
  |some c=>
   obtain⟨cx,nv,BB,n1,n2,n3⟩:=c1
   exact⟨cx,_,_,nv,BB,n1.fz R.fz,n2.map λ _ _ z=>z.fz R.fz,λ aD ev m' E' Z' sY=>m_ ih ((n3.fz R.fz).fz Z') (w2 _ rfl) hL hM sY R.lM (bK _)⟩
 ·cases f with
  |none=>exact f1
  |some fb=>
   have f1:BR (some ν) H (SR (some ν) H n) fv fb:=f1
   exact⟨by obtain⟨y,kv,np,_⟩:=f1;exact np.ne,m_ ih (f1.fz R.fz) (w3 fb rfl) hL hM R.en R.lM (bK _)⟩
theorem adF{e:Ex}{p1 p2:Option Ex}(h:Hc (some ν) H (SR (some ν) H n) v e p1 s1 p2 s2)(w1:WE e)(w2:eC p1)(w3:WF n L (M++[s_]) s1)(w4:eC p2)(w5:WF n L (M++[s_]) s2)(hM:dq M):Runs g C k H env dp v (nc (n+1)) λ σ=>fJ ν E e σ λ v σ=>pH (aA (Mine.ev ν n E) ([s1,s2].drop (eG v p1 p2)) σ):=by
 obtain⟨x,ev,c1,c2,x1,t1,v1,x2,t2,v2,np,er,n1,r1,q1,n2,r2,q2⟩:=h
 refine rule np (Cc:=1437) (f:=1434) (by decide) rfl hE aE hk λ H' s' B sf kk R=>?_
 have ca:∀{c v1:Value}{x:Addr}{t:Value}{p:Option Ex}{st:St},NP (some ν) H c x 51 (.str s_ 0) [t,v1]->cQ (ER (some ν) H) t p->eC p->SR (some ν) H n v1 st->WF n L (M++[s_]) st->kM ν g C (14*n+25) H' E s'.dp (nc n) (Mine.ev ν n E) c (p,st):=λ n1 r1 w q1 w3=>
  kM.fz ⟨_,⟨_,_,n1,r1⟩,w,q1.Bw,λ aD ev m' Z' sY=>ih (q1.fz Z') w3 hL (hM.app sx) sY R.d3 (bK _)⟩ R.fz
 exact(adp (n:=14*n+36) R.k λ k2 bO=>adm (kk:=14*n+25) (cb:=nc n) (f:=Mine.ev ν n E) (np.fz R.fz) (er.fz R.fz) w1.ok ⟨ca n1 r1 w2 q1 w3,ca n2 r2 w4 q2 w5,trivial⟩ R.ms R.en R.bd (Eg (b:=10) (R.b (.a (.a (.a (.a .b (.k 1)) (.k 9)) (.m 2 .n)) (.k 10)) rfl)) R.yP (kr bO rfl) (kq (a:=28) bO rfl)).mono (mo B (nc n) (.a (.a (.a (.a .b (.k 1)) (.k 2)) (.k 4)) (.m 2 .n)) rfl)
theorem adG{l:Str}{b:List St}(h:Hb (some ν) H (SR (some ν) H n) v l b)(w0:bF l)(w1:l≠s_)(w2:WB (WF n) L (M++[l]) b)(hM:dq M):Runs g C k H env dp v (nc (n+1)) λ σ=>fw l (aA (Mine.ev ν n E) b σ):=by
 obtain⟨x,w,np,b1⟩:=h
 refine rule np (Cc:=1192) (f:=1189) (by decide) rfl hE aE hk λ H' s' B sf kk R=>?_
 have hb:=m_ ih (b1.fz R.fz) w2 hL (hM.app w0) R.en R.lM (bK (14*n+30))
 obtain⟨wx,wkv,nw,_⟩:=b1.fz R.fz
 exact(QU (n:=14*n+36) R.k λ k2 bO=>QQ (n:=14*n+35) (a:=.none) (B:=B+1+(1+2*nc n)) (np.fz R.fz) nw rfl w1 w0 R.ms (BM (λ s hs σ=>ID (w2.2.2 s hs) hL (hM.app w0)) _)
  (.b rfl λ aD k3 IH E2 M2=>(hb aD s' (B+1) E2.fz M2 rfl rfl R.bd (R.b (.a (.a .b (.k 1)) cB) rfl)).up (kq IH rfl)) bO).mono (mo B (nc n) (.a (.a .b (.k 1)) cB) rfl)
omit ih hL
theorem II{P:Value->Prop}{l:Str}{kind:Int}{Cc tf:Addr}{R:List Str->Sg->Ot×Sg}(h:LR (some ν) H l v P)(w0:bF l)(Ra:∀w,P w->∃x a kv,NP (some ν) H w x kind a kv)(hr:(kind,Cc)∈lF)(h9:iD Cc 199=some tf)(pP:Cc=1333\/Cc=1371\/Cc=1390)(adH:iD Cc 122=some 1156)(bM:(kind==55)=false)
  (hR:∀L σ,gw (R L σ).1) (core:∀{w H' s' B sf lv L' kk},P w->dq L'->Fz H H'->MS H' C s'->a_ H' s'.env E m->s'.dp+1+3*(n:Int)<=42->Bd s' (B+1)->B+(32+6*nc n)<=19990->jY H' lv L'->14*n+35<=kk->bD g kk (.ref tf) [sf,.ref C.m,w,lv] H' C s' (B+(32+6*nc n)) (R L' s'.sg)):
  Runs g C k H env dp v (nc (n+1)) λ σ=>fw l (R (c8 l) σ):=by
 unfold LR at h
 split at h
 ·rename_i hl
  refine hl.symm▸?_
  refine zX (Ra v h) λ x a kv np=>?_
  refine rule np hr adH hE aE hk λ H' s' B sf kk Rl=>?_
  rw[Q_,show c8 s_=[]from if_pos rfl]
  exact ac7 (n:=14*n+36) Rl.ri h9 Rl.ms Rl.k λ aD lv k2 bO E2 oH=>core h (λ _ h=>nomatch h) (Rl.fz.trans E2.fz) (Rl.ms.ext E2) (Rl.en.fz E2.fz) Rl.dp Rl.bd Rl.b2 oH (kq bO rfl)
 ·rename_i hl
  refine c7 h λ x w np hw=>?_;clear h
  refine zX (Ra w hw) λ wx wa wkv nw=>?_
  refine rule np (Cc:=1192) (f:=1189) (by decide) rfl hE aE hk λ H' s' B sf kk Rl=>?_
  rw[show c8 l=[l]from if_neg hl]
  exact QU (n:=14*n+36) Rl.k λ k2 bO=>QQ (n:=14*n+35) (a:=.none) (np.fz Rl.fz) (nw.fz Rl.fz) bM hl w0 Rl.ms (hR _ _)
   (.r Cc tf hr h9 pP λ aD sf lv k3 IH E2 M2 _ oH=>core hw (λ y hy=>by rw[List.mem_singleton.mp hy];exact w0) (Rl.fz.trans E2.fz) M2 (Rl.en.fz E2.fz) Rl.dp Rl.bd Rl.b2 oH IH) bO
include ih hL
theorem adI{l:Str}(h:LR (some ν) H l v (Bc (some ν) H (SR (some ν) H n) b))(w0:bF l)(w1:WB (WF n) (ext l L) (ext l M) b)(hM:dq M):Runs g C k H env dp v (nc (n+1)) λ σ=>fw l (lp (c8 l) (λ _=>aA (Mine.ev ν n E) b) [.u] σ):=by
 have lI:∀σ,gw (aA (Mine.ev ν n E) b σ).1:=λ σ=>BM (λ s hs σ=>ID (w1.2.2 s hs) (hL.ext w0) (hM.ext w0)) σ
 refine II hE aE hk (R:=λ L=>lp L (λ _=>aA (Mine.ev ν n E) b) [.u]) h w0 (λ w q=>by obtain⟨x,bv,tv,t,np,_⟩:=q;exact⟨x,_,_,np⟩) (Cc:=1333) (tf:=1330) (kind:=46) (by decide) rfl (.inl rfl) rfl rfl (λ _ _=>Iv (λ _=>lI) _ _) ?_
 intro w H' s' B sf lv L' kk q mr Z M' ju hd hB aI oH jW
 obtain⟨x,bv,tv,t,np,b1,nt⟩:=q
 have lM:s'.dp+1+3*(n:Int)<=43:=ji hd (by decide)
 exact(ac4 (n:=14*n+34) jW λ k2 bO=>acR (kk:=14*n+30) (cb:=1+2*nc n) (np.fz Z) (nt.fz Z) M' hB (ub (.a (.a (.a .b (.k 1)) cB) (.k 3)) aI rfl) (xe (IF (vu _)) (ji (wc hd) (by decide))) (m_ ih (b1.fz Z) w1 (hL.ext w0) (hM.ext w0) ju lM (bK _)) oH mr lI (kq (a:=31) bO rfl) (kr bO rfl)).mono (mo B (nc n) (.a (.a (.a .b (.k 1)) cB) (.k 2)) rfl)
theorem adJ{l:Str}{isOf:Bool}(h:LR (some ν) H l v (ye (some ν) H (SR (some ν) H n) isOf nx row b))(w0:bF l)(wr:ou row)(w1:WB (WF n) (ext l L) (ext l M) b)(hM:dq M):Runs g C k H env dp v (nc (n+1)) λ σ=>fw l (pO ν (c8 l) nx isOf row (λ u=>aA (Mine.ev ν n ((bC,u,true)::E)) b) σ):=by
 have lI:∀u σ,gw (aA (Mine.ev ν n ((bC,u,true)::E)) b σ).1:=λ u σ=>BM (λ s hs σ=>ID (w1.2.2 s hs) (hL.ext w0) (hM.ext w0)) σ
 have hR:∀L σ,gw (pO ν L nx isOf row (λ u=>aA (Mine.ev ν n ((bC,u,true)::E)) b) σ).1:=λ L σ=>by
  cases row with
  |bad y=>trivial
  |txt t=>exact Iv (λ v σ=>lI v _) _ _
 have core:∀{w:Value}{H':AH}{s':bI},ye (some ν) H (SR (some ν) H n) isOf nx row b w->Fz H H'->s'.dp+1+3*(n:Int)<=42->Ih g C ν H' (14*n+30) E s'.dp w nx row (1+2*nc n) (λ u=>aA (Mine.ev ν n ((bC,u,true)::E)) b):=λ q Z hd=>by
  obtain⟨x,hv,rv,bv,hx,dv,dx,nv,np,eY,fL,ic,rr,b1⟩:=q
  exact⟨⟨x,_,_,hv,rv,bv,hx,dv,dx,nv,np.fz Z,⟨eY.fz Z,fL.fz Z,ic.fz Z⟩,rr.fz Z,λ aD ev m' u Z' sY=>m_ ih ((b1.fz Z).fz Z') w1 (hL.ext w0) (hM.ext w0) sY (ji hd (by decide)) (bK _)⟩,wr.asc,lI⟩
 cases isOf with
 |true=>
  refine II hE aE hk (R:=λ L=>pO ν L nx true row _) h w0 (λ w q=>by obtain⟨x,hv,rv,bv,hx,dv,dx,nv,np,_⟩:=q;exact⟨x,_,_,np⟩) (Cc:=1371) (tf:=1368) (kind:=48) (by decide) rfl (.inr (.inl rfl)) rfl rfl hR ?_
  intro w H' s' B sf lv L' kk q mr Z M' ju hd hB aI oH jW
  exact(ac5 (n:=14*n+34) jW λ k2 bO=>acX (core q Z hd) M' ju hB (Eg (b:=10) (ub (.a (.a (.a (.a .b (.k 1)) (.k 2)) (.m 3 (.a (.k 1) cB))) (.k 10)) aI rfl)) (xe (IF (vu _)) (ji (wc hd) (by decide))) oH mr (kq (a:=32) bO rfl) (kr bO rfl)).mono (mo B (nc n) (.a (.a (.a .b (.k 1)) (.k 2)) (.m 3 (.a (.k 1) cB))) rfl)
 |false=>
  refine II hE aE hk (R:=λ L=>pO ν L nx false row _) h w0 (λ w q=>by obtain⟨x,hv,rv,bv,hx,dv,dx,nv,np,_⟩:=q;exact⟨x,_,_,np⟩) (Cc:=1390) (tf:=1387) (kind:=49) (by decide) rfl (.inr (.inr rfl)) rfl rfl hR ?_
  intro w H' s' B sf lv L' kk q mr Z M' ju hd hB aI oH jW
  exact(ac6 (n:=14*n+34) jW λ k2 bO=>ac1 (core q Z hd) M' ju hB (Eg (b:=10) (ub (.a (.a (.a (.a .b (.k 1)) (.k 2)) (.m 3 (.a (.k 1) cB))) (.k 10)) aI rfl)) (xe (IF (vu _)) (ji (wc hd) (by decide))) oH mr (kq (a:=32) bO rfl) (kr bO rfl)).mono (mo B (nc n) (.a (.a (.a .b (.k 1)) (.k 2)) (.m 3 (.a (.k 1) cB))) rfl)
end
theorem adK{n:Nat}(ih:yO g C ν n){st:St}{v:Value}{L M:List Str}{H:AH}(hs:mX (some ν) H (SR (some ν) H n) v st)(hw:l9 (WF n) L M st)(hL:dq L)(hM:dq M)(hE:a_ H env E m)(aE:dp+3*((n+1:Nat):Int)<=43)(hk:14*(n+1)+25<=k):
  Runs g C k H env dp v (nc (n+1)) (ev ν (n+1) E st):=by
 cases st with
 |ex e=>exact adx hE aE hk hs hw
 |dN=>exact ady hE aE hk hs
 |ret e=>exact adz hE aE hk hs hw
 |aw e=>exact adA hE aE hk hs hw
 |brk l=>exact adB hE aE hk hs
 |cnt l=>exact adC hE aE hk hs
 |dQ b c f=>exact adE ih hL hE aE hk hs hw.1 hw.2.1 hw.2.2 hM
 |iff e a b=>exact adD ih hL hE aE hk hs hw.1 hw.2.1 hw.2.2 hM
 |sw e p1 s1 p2 s2=>exact adF ih hL hE aE hk hs hw.1 hw.2.1 hw.2.2.1 hw.2.2.2.1 hw.2.2.2.2.1 hM
 |kK l b=>exact adG ih hL hE aE hk hs hw.1 hw.2.1 hw.2.2 hM
 |hU l b=>exact adI ih hL hE aE hk hs hw.1 hw.2 hM
 |gq l isOf nx row b=>
  have h:=adJ ih hL hE aE hk hs hw.1 hw.2.1 hw.2.2 hM
  cases row with
  |bad y=>exact h
  |txt t=>exact h
theorem Rb:∀n,yO g C ν n
 |0=>λ h=>h.elim
 |n+1=>λ hs hw hL hM hE aE hk=>adK (Rb n) hs hw hL hM hE aE hk
end
section
variable {st:List Value}
structure j5(bE:AH)(x C d:Addr)(es:Lc)(l:List (Addr×AO))(H:AH):Prop extends kL bE x C d es H where
 all:∀p∈l,H p.1=some p.2/\p.1≠d
theorem j5.ext(I:j5 bE x C d es l H)(E:Ext H H'):j5 bE x C d es l H':=⟨I.tokL.ext E,λ p hp=>⟨E _ _ (I.all p hp).1,(I.all p hp).2⟩⟩
theorem j5.add(I:j5 bE x C d es l H)(h:H a=some o)(k:AO.iZ o (.ai false es)=true):j5 bE x C d es ((a,o)::l) H:=⟨I.tokL,λ p hp=>by
 rcases List.mem_cons.mp hp with rfl |hp
 ·exact⟨h,cG h I.hd k⟩
 ·exact I.all p hp⟩
theorem j5.at(I:j5 bE x C d es l H)(i:Nat)(e:l[i]?=some (a,o)):H a=some o:=(I.all (a,o) (yl e)).1
theorem mm.ik(I:j5 bE x C d es l H)(ht:xZ es=true)(hc:g_ C i=true)(h:∀H',j5 bE x C d (put i v es) l H'->M g c Q X D st m H'):M g c Q X (.sa i::D) (.ref x::v::st) m H:=
 mm.in I.tokL ht hc λ H' F I'=>h H' ⟨I',λ p hp=>⟨F _ _ (I.all p hp).1 (I.all p hp).2,(I.all p hp).2⟩⟩
end
section
variable {k:Nat}
theorem μ.inst(e:mV Cc=some none)(hk:1<=k)(h:∀v H',Ext H H'->RI H' v Cc->Q v H'):μ g k (.ref Cc) [] H Q X:=by
 refine Θ (l_ hk) λ j Ga=>?_;subst Ga
 exact μ.agU (z:=true) e λ x d hx hd gd=>h _ _ (λ a o e=>cu (cu e hd) (kE gd hx)) ⟨x,d,rfl,ah,by rw[Γ (cP gd)];exact ah⟩
theorem μ.IJ(e:mV Cc=some (some fI))(hk:n+2<=k)(h:∀x d H₁ j,n+1<=j->Ext H H₁->H d=none->j5 H₁ x Cc d [] [] H₁->cy g j (.ref fI) (.ref x::args) H₁ (λ v H'=>v=.none/\Q (.ref x) H') X):μ g k (.ref Cc) args H Q X:=by
 refine Θ (l_ (Ψ (eh 1 _) hk)) λ j Gf=>?_;subst Gf
 exact μ.mk e λ y d' hy hd jV=>h y d' _ j (QI hk) (λ a o e=>cu (cu e hd) (kE jV hy)) hd ⟨⟨λ _ _ e _=>e,ah,cu ah (kE jV hy),jV⟩,λ _ h=>nomatch h⟩
inductive Rc(v:Value)(H₁:AH):Prop
 |mk (y jG th nt:Addr) (e:v=.ref y) (h1:H₁ y=some (.ins 216 jG)) (h2:H₁ jG=some (.ai true [(43,.ref th),(44,.ref nt)])) (h3:H₁ th=some (.κ false [])):Rc v H₁
theorem kL.done(I:kL H₁ x C d es H')(E:Ext bE H₁)(n:bE d=none):Ext bE H':=λ a o e=>I.old a o (E _ _ e) λ z=>by subst z;rw[n]at e;exact nN e
theorem Ext.Rd(E:Ext bE H')(n:bE d=Option.none):Ext bE (ξ H' d o):=λ a o e=>by rw[Γ λ z=>by subst z;rw[n]at e;cases e];exact E a o e
theorem adL(hk:2<=k)(hq:∀v H',Ext H H'->Rc v H'->Q v H'):μ g k (.ref 216) [] H Q X:=by
 refine μ.IJ (Cc:=216) (n:=0) rfl hk λ y d bE j hj E0 nd I=>?_
 refine Θ (l_ hj) λ j adM=>?_;subst adM
 refine cy.en (fT 7 rfl) rfl (gj _) λ c o _=>?_
 ktf_call"g"
 ktf_call"lf"
 ktf_call"T";intro H₁ th aJ wG BN;ktf_call"g"
 refine mm.ik ((I.ext aJ).add BN rfl) rfl rfl λ ο I=>?_
 ktf_call"g"
 refine mm.dn true λ ω nt bx _ Rf=>?_
 ktf_call"g"
 refine mm.ik (I.ext bx) rfl rfl λ ar I=>?_
 refine mm.gh (l:=[]) (Gh.ff (z:=true) I.hd) ?_
 ktf_call"g"
 exact⟨rfl,hq _ _ ((I.done E0 nd).Rd nd) ⟨y,d,th,nt,rfl,by rw[Γ I.ne];exact I.me,ah,by rw[Γ (I.all (th,_) eU).2];exact I.at 0 rfl⟩⟩
structure MB(H:AH)(C:MC)(ev:Value)(ex st:List (Int×Value)):Prop where
 m:H C.m=some (.ins 610 C.d)
 dd:H C.d=some (.ai false (gO C ⟨0,0,ev,[],[],0⟩))
 hp:H C.hp=some (.ins 216 C.jG)
 hd:H C.jG=some (.ai true [(43,.ref C.th),(44,.ref C.nt)])
 ex:H C.ex=some (.bu false ex)
 sm:H C.sm=some (.bu false st)
 pr:H C.pr=some (.bu true [])
 tl:H C.tl=some (.κ false [])
 th:H C.th=some (.κ false [])
 n1:C.tl≠C.th
 n2:C.ex≠C.sm
set_option maxHeartbeats 0 in
theorem adN(hk:6<=k)(hq:∀C H',Ext H H'->MB H' C .none [] []->Q (.ref C.m) H'):μ g k (.ref 610) [.int 20000 0] H Q X:=by
 refine μ.IJ (Cc:=610) (n:=4) rfl hk λ m d bE j hj E0 nd I=>?_
 refine Θ (l_ (Ψ (eh 1 _) hj)) λ j Gg=>?_;subst Gg
 refine cy.en (n:=4) (fT 25 rfl) rfl (QI hj) λ c o _=>?_
 ktf_call"g"
 refine adL (by ktf_call"k") λ v A1 E1 h=>?_
 obtain⟨hp,jG,th,nt,rfl,Rg,Rh,BN⟩:=h
 ktf_call"g"
 refine mm.ik ((((I.ext E1).add Rg rfl).add Rh rfl).add BN rfl) rfl rfl λ ο I=>?_
 ktf_call"g"
 refine mm.dj false λ ω ex bx _ hex=>?_
 ktf_call"g"
 refine mm.ik ((I.ext bx).add hex rfl) rfl rfl λ ar I=>?_
 ktf_call"g"
 refine mm.dj false λ aV sm iL Ri Rj=>?_
 have n2:ex≠sm:=λ z=>by have:=I.at 0 rfl;rw[z,Ri]at this;exact nN this
 ktf_call"g"
 refine mm.ik ((I.ext iL).add Rj rfl) rfl rfl λ cU I=>?_
 ktf_call"g"
 refine mm.ik I rfl rfl λ gM I=>?_
 ktf_call"g"
 refine mm.ik I rfl rfl λ h_ I=>?_
 ktf_call"g"
 refine mm.ik I rfl rfl λ mn I=>?_
 ktf_call"g"
 refine mm.ik I rfl rfl λ fG I=>?_
 replace I:j5 _ _ _ _ [(59,.ref hp),(97,.ref ex),(98,.ref sm),(99,.int 0 0),(100,.int 20000 0),(101,.int 0 0),(102,.int 44 0)] _ _:=I
 clear E1 bx iL Rg Rh BN hex Rj Ri
 ktf_call"g"
 ktf_call"lt"
 ktf_call"T";intro jP out jQ adO adP;ktf_call"g"
 refine mm.ik (I.ext jQ) rfl rfl λ HC I=>?_
 clear jQ adO adP
 ktf_call"g"
 refine mm.ik I rfl rfl λ sQ I=>?_
 ktf_call"g"
 refine mm.ik I rfl rfl λ yt I=>?_
 ktf_call"g"
 refine Hv (by ktf_call"k") λ yu yo j6 _=>?_
 ktf_call"g"
 refine mm.ik (I.ext j6) rfl rfl λ yv I=>?_
 clear j6
 ktf_call"g"
 refine mm.ik I rfl rfl λ Bn I=>?_
 ktf_call"g"
 ktf_call"lf"
 ktf_call"T";intro IK tl Rk Rm jx;ktf_call"g"
 have n1:tl≠th:=λ z=>by have:=I.at 2 rfl;rw[<- z,Rm]at this;exact nN this
 refine mm.ik ((I.ext Rk).add jx rfl) rfl rfl λ H19 I=>?_
 replace I:j5 _ _ _ _ [(59,.ref hp),(97,.ref ex),(98,.ref sm),(99,.int 0 0),(100,.int 20000 0),(101,.int 0 0),(102,.int 44 0),(12,.ref out),(104,.none),(105,.none),(106,yo),(41,.int (-1) 0),(107,.ref tl)] _ _:=I
 clear Rk Rm jx
 ktf_call"g"
 refine μ.inst rfl (by ktf_call"k") λ v H20 Ro r=>?_
 obtain⟨wt,_,rfl,_,_⟩:=r
 ktf_call"g"
 refine mm.ik (I.ext Ro) rfl rfl λ H21 I=>?_
 ktf_call"g"
 refine mm.dj true λ H22 pr Rq _ Rr=>?_
 ktf_call"g"
 refine mm.ik ((I.ext Rq).add Rr rfl) rfl rfl λ H23 I=>?_
 ktf_call"g"
 refine mm.dj true λ H24 cp Rt _ _=>?_
 ktf_call"g"
 refine mm.ik (I.ext Rt) rfl rfl λ H25 I=>?_
 clear Ro Rq Rr Rt
 ktf_call"g"
 refine μ.inst rfl (by ktf_call"k") λ bi H26 E26 _=>?_
 ktf_call"g"
 refine mm.ik (I.ext E26) rfl rfl λ H27 I=>?_
 replace I:j5 _ _ _ _ [(59,.ref hp),(97,.ref ex),(98,.ref sm),(99,.int 0 0),(100,.int 20000 0),(101,.int 0 0),(102,.int 44 0),(12,.ref out),(104,.none),(105,.none),(106,yo),(41,.int (-1) 0),(107,.ref tl),(108,.ref wt),(110,.ref pr),(111,.ref cp),(112,bi)] _ _:=I
 ktf_call"g"
 refine μ.inst rfl (by ktf_call"k") λ Hu H28 E28 _=>?_
 ktf_call"g"
 refine mm.ik (I.ext E28) rfl rfl λ H29 I=>?_
 ktf_call"g"
 refine μ.inst rfl (by ktf_call"k") λ ho H30 E30 _=>?_
 ktf_call"g"
 refine mm.ik (I.ext E30) rfl rfl λ H31 I=>?_
 ktf_call"g"
 refine mm.ik I rfl rfl λ H32 I=>?_
 ktf_call"g"
 exact⟨rfl,hq ⟨m,d,hp,jG,ex,sm,out,th,nt,0,tl,wt,0,pr,yo,.ref cp,bi,Hu,ho⟩ _ (I.done E0 nd) ⟨I.me,I.hd,I.at 6 rfl,I.at 5 rfl,I.at 3 rfl,I.at 2 rfl,I.at 0 rfl,I.at 1 rfl,I.at 4 rfl,n1,n2⟩⟩
end
section
variable {k:Nat}{ev:Value}{es st:List (Int×Value)}
theorem MB.ext(E:Ext H H')(M:MB H C ev es st):MB H' C ev es st:=⟨E _ _ M.m,E _ _ M.dd,E _ _ M.hp,E _ _ M.hd,E _ _ M.ex,E _ _ M.sm,E _ _ M.pr,E _ _ M.tl,E _ _ M.th,M.n1,M.n2⟩
theorem MB.pe(M:MB H C ev es st):MB (ξ H C.ex (.bu false es')) C ev es' st where
 m:=by exact(Γ (cG M.m M.ex rfl))▸(M.m)
 dd:=by exact(Γ (cG M.dd M.ex rfl))▸(M.dd)
 hp:=by exact(Γ (cG M.hp M.ex rfl))▸(M.hp)
 hd:=by exact(Γ (cG M.hd M.ex rfl))▸(M.hd)
 ex:=ah
 sm:=by exact(Γ (cP M.n2))▸(M.sm)
 pr:=by exact(Γ (cG M.pr M.ex rfl))▸(M.pr)
 tl:=by exact(Γ (cG M.tl M.ex rfl))▸(M.tl)
 th:=by exact(Γ (cG M.th M.ex rfl))▸(M.th)
 n1:=M.n1
 n2:=M.n2
theorem MB.ps(M:MB H C ev es st):MB (ξ H C.sm (.bu false st')) C ev es st' where
 m:=by exact(Γ (cG M.m M.sm rfl))▸(M.m)
 dd:=by exact(Γ (cG M.dd M.sm rfl))▸(M.dd)
 hp:=by exact(Γ (cG M.hp M.sm rfl))▸(M.hp)
 hd:=by exact(Γ (cG M.hd M.sm rfl))▸(M.hd)
 ex:=by exact(Γ M.n2)▸(M.ex)
 sm:=ah
 pr:=by exact(Γ (cG M.pr M.sm rfl))▸(M.pr)
 tl:=by exact(Γ (cG M.tl M.sm rfl))▸(M.tl)
 th:=by exact(Γ (cG M.th M.sm rfl))▸(M.th)
 n1:=M.n1
 n2:=M.n2
structure TI(H:AH)(es:List (Int×Value))(tab:List (Int×Addr))(n:Nat):Prop where
 l:es.length<=n
 r:∀p∈tab,∃v,atK p.1 es=some v/\RI H v p.2
theorem TI.fz(F:Fz H H')(h:TI H es tab n):TI H' es tab n:=⟨h.l,λ p hp=>ψ (h.r p hp) λ v c d=>⟨v,c,d.fz F⟩⟩
theorem TI.z:TI H [] [] 0:=⟨bK _,λ _ h=>nomatch h⟩
theorem Ru:atK j (js i v es)=if j=i then some v else atK j es:=by
 delta js atK
 split
 ·rename_i h
  refine List.find?_map▸?_
  have e:((λ p:Int×Value=>decide (p.1=j))∘λ p:Int×Value=>if p.1=i then(p.1,v)else p)=λ p=>decide (p.1=j):=by
   funext p
   by_cases hp:p.1=i <;> simp[hp]
  rw[e]
  cases hf:es.find? (λ p=>decide (p.1=j))with
  |none=>
   by_cases hj:j=i
   ·subst hj
    refine ψ (List.any_eq_true.mp h) λ p hp z=>?_
    rw[List.find?_eq_none]at hf
    exact absurd z (hf p hp)
   ·rw[if_neg hj];rfl
  |some p=>
   have hp:p.1=j:=by simpa using List.find?_some hf
   by_cases hj:j=i
   ·refine(if_pos hj)▸?_;simp[hp,hj]
   ·refine(if_neg hj)▸?_;simp[hp,hj]
 ·rename_i h
  refine List.find?_append▸?_
  by_cases hj:j=i
  ·subst hj
   refine(if_pos rfl)▸?_
   have:es.find? (λ p=>decide (p.1=j))=none:=by
    rw[List.find?_eq_none]
    intro p hp z
    exact h (List.any_eq_true.mpr ⟨p,hp,z⟩)
   refine this▸?_
   simp[vb]
  ·refine(if_neg hj)▸?_
   have hj':¬i=j:=λ z=>hj z.symm
   cases es.find? (λ p=>decide (p.1=j)) <;> simp[vb,hj']
theorem adQ:(js i v es).length<=es.length+1:=by
 delta js
 split <;> simp
theorem TI.put(h:TI H es tab n)(F:Fz H H')(r:RI H' v Cc)(hk:(tab.all λ p=>p.1 != i)= true):TI H' (js i v es) ((i,Cc)::tab) (n+1):=by
 refine⟨Ψ adQ (kC h.l),λ p hp=>?_⟩
 rcases List.mem_cons.mp hp with rfl |hp
 ·exact⟨v,by rw[Ru,if_pos rfl],r⟩
 ·obtain⟨w,a,b⟩:=h.r p hp
  refine⟨w,?_,b.fz F⟩
  have:=List.all_eq_true.mp hk p hp
  rw[Ru,if_neg (by simpa using this)];exact a
theorem TI.tb(h:TI H es tab n)(F:Fz H H')(ha:H' a=some (.bu true es))(hs:(t.all λ p=>tab.contains p)=true):oB H' a t:=
 ⟨es,ha,λ p hp=>ψ (h.2 p (by simpa using List.all_eq_true.mp hs p hp)) λ v c d=>⟨v,c,d.fz F⟩⟩
section
variable {nn:Nat}
theorem mm.ru{Cc:Addr}{i:Int}{cn:Nat}{ik:PE}(o:Fc c nn)(oI:jK 1 nn=true)(M:MB H C ev es st)(T:TI H st tab n)(e2:GT.lookup cn=some (.ref Cc))(e3:mV Cc=some none)(e4:isCall (.ref Cc)=true)
  (hi:∀{H₁:AH}{Q:Value->Lc->AH->Prop},Q (.int i 0) ((94,.ref C.m)::r) H₁->V g c ik ((94,.ref C.m)::r) H₁ Q Xf) (hn:n<1000) (hk:(tab.all λ p=>p.1 != i)= true)
  (h:∀H' st',Fz H H'->MB H' C ev es st'->TI H' st' ((i,Cc)::tab) (n+1)->Mine.M g c Qf Xf D sk ((94,.ref C.m)::r) H'):Mine.M g c Qf Xf (.s (.bR (.π (.θ 94) 98) ik (.call cn []))::D) sk ((94,.ref C.m)::r) H:=by
 refine mm.aP o 1 rfl ?_
 refine mm.ca o.hd e2 e4 ?_
 refine mm.aP o 1 rfl ?_
 refine mm.go (μ.inst e3 (o.k oI) λ v H₁ E q=>?_)
 have M1:=M.ext E
 have m1:=M1.m
 have m2:=M1.dd
 ktf_call"g"
 refine(hi ?_:V g c ik ((94,.ref C.m)::r) H₁ (λ v m' H'=>Mine.M g c Qf Xf (.si::D) (v::_) m' H') Xf)
 refine mm.si (dK.bu M1.sm (cI T.l hn) ?_)
 have F:Fz H₁ (ξ H₁ C.sm (.bu false (js i v st))):=Fz.set M1.sm rfl
 exact h _ _ (E.fz.trans F) M1.ps (T.put (E.fz.trans F) (q.fz F) hk)
theorem mm.rx{Cc:Addr}{i:Int}{cn:Nat}{ik:PE}(o:Fc c nn)(oI:jK 1 nn=true)(M:MB H C ev es st)(T:TI H es tab n)(e2:GT.lookup cn=some (.ref Cc))(e3:mV Cc=some none)(e4:isCall (.ref Cc)=true)
  (hi:∀{H₁:AH}{Q:Value->Lc->AH->Prop},Q (.int i 0) ((94,.ref C.m)::r) H₁->V g c ik ((94,.ref C.m)::r) H₁ Q Xf) (hn:n<1000) (hk:(tab.all λ p=>p.1 != i)= true)
  (h:∀H' es',Fz H H'->MB H' C ev es' st->TI H' es' ((i,Cc)::tab) (n+1)->Mine.M g c Qf Xf D sk ((94,.ref C.m)::r) H'):Mine.M g c Qf Xf (.s (.bR (.π (.θ 94) 97) ik (.call cn []))::D) sk ((94,.ref C.m)::r) H:=by
 refine mm.aP o 1 rfl ?_
 refine mm.ca o.hd e2 e4 ?_
 refine mm.aP o 1 rfl ?_
 refine mm.go (μ.inst e3 (o.k oI) λ v H₁ E q=>?_)
 have M1:=M.ext E
 have m1:=M1.m
 have m2:=M1.dd
 ktf_call"g"
 refine(hi ?_:V g c ik ((94,.ref C.m)::r) H₁ (λ v m' H'=>Mine.M g c Qf Xf (.si::D) (v::_) m' H') Xf)
 refine mm.si (dK.bu M1.ex (cI T.l hn) ?_)
 have F:Fz H₁ (ξ H₁ C.ex (.bu false (js i v es))):=Fz.set M1.ex rfl
 exact h _ _ (E.fz.trans F) M1.pe (T.put (E.fz.trans F) (q.fz F) hk)
noncomputable def yR(t:Nat):List (Nat×Nat×Int×Addr)->List PS
 | []=>[]
 |r::l=>.bR (.π (.θ 94) t) (.ς r.1) (.call r.2.1 [])::yR t l
noncomputable def yS:List (Int×Addr)->List (Nat×Nat×Int×Addr)->Prop
 |_,[]=>True
 |t,r::l=>(GT.lookup r.1 = some (.int r.2.2.1 0)/\GT.lookup r.2.1 = some (.ref r.2.2.2)/\mV r.2.2.2 = some none/\isCall (.ref r.2.2.2)= true/\(t.all λ p=>p.1 != r.2.2.1)= true)/\yS ((r.2.2.1,r.2.2.2)::t) l
noncomputable def kO:List (Int×Addr)->List (Nat×Nat×Int×Addr)->List (Int×Addr)
 |t,[]=>t
 |t,r::l=>kO ((r.2.2.1,r.2.2.2)::t) l
theorem mm.Rv:∀{l:List (Nat×Nat×Int×Addr)}{H:AH}{st:List (Int×Value)}{tab:List (Int×Addr)}{n:Nat} (_:Fc c nn) (_:jK 1 nn=true) (_:MB H C ev es st) (_:TI H st tab n) (_:yS tab l) (_:n+l.length<1000)
  (_:∀H' st',Fz H H'->MB H' C ev es st'->TI H' st' (kO tab l) (n+l.length)->Mine.M g c Qf Xf D sk ((94,.ref C.m)::r) H'),Mine.M g c Qf Xf (.ss (yR 98 l)::D) sk ((94,.ref C.m)::r) H
 | [],_,_,_,_,o,_,M,T,_,_,h=>mm.aP o 1 rfl (h _ _ Fz.refl M T)
 |_::l,_,_,_,n,o,oI,M,T,k,hn,h=>mm.aP o 1 rfl (mm.ru o oI M T k.1.2.1 k.1.2.2.1 k.1.2.2.2.1 (λ q=>V.gl k.1.1 q) (cI (cK _ _) hn) k.1.2.2.2.2 λ _ _ F M' T'=>mm.Rv (l:=l) o oI M' T' k.2 (by rw[kF,mu 1];exact hn) λ H' st' F' yQ yT=>h H' st' (F.trans F') yQ (by rw[kF,mu 1]at yT;exact yT))
theorem mm.Rw:∀{l:List (Nat×Nat×Int×Addr)}{H:AH}{es:List (Int×Value)}{tab:List (Int×Addr)}{n:Nat} (_:Fc c nn) (_:jK 1 nn=true) (_:MB H C ev es st) (_:TI H es tab n) (_:yS tab l) (_:n+l.length<1000)
  (_:∀H' es',Fz H H'->MB H' C ev es' st->TI H' es' (kO tab l) (n+l.length)->Mine.M g c Qf Xf D sk ((94,.ref C.m)::r) H'),Mine.M g c Qf Xf (.ss (yR 97 l)::D) sk ((94,.ref C.m)::r) H
 | [],_,_,_,_,o,_,M,T,_,_,h=>mm.aP o 1 rfl (h _ _ Fz.refl M T)
 |_::l,_,_,_,n,o,oI,M,T,k,hn,h=>mm.aP o 1 rfl (mm.rx o oI M T k.1.2.1 k.1.2.2.1 k.1.2.2.2.1 (λ q=>V.gl k.1.1 q) (cI (cK _ _) hn) k.1.2.2.2.2 λ _ _ F M' T'=>mm.Rw (l:=l) o oI M' T' k.2 (by rw[kF,mu 1];exact hn) λ H' st' F' yQ yT=>h H' st' (F.trans F') yQ (by rw[kF,mu 1]at yT;exact yT))
end
end
section
variable {k:Nat}{ev:Value}{es st:List (Int×Value)}
noncomputable abbrev pQ:=List (Nat×Nat×Int×Addr)
noncomputable def Rx:pQ:=[(175,172,43,970),(176,173,59,989),(177,164,60,930),(178,174,44,1008)]
noncomputable def Ry:pQ:=[(206,193,52,1083),(207,195,53,1102),(208,197,54,1121),(209,198,56,1140),(202,205,55,1192)]
noncomputable def Rz:pQ:=[(235,236,45,1314),(237,232,46,1333),(238,239,47,1352),(240,233,48,1371),(241,234,49,1390)]
noncomputable def RA:pQ:=[(251,250,50,1437)]
noncomputable def RB:pQ:=[(259,258,57,1484)]
noncomputable def adR:pQ:=[(156,138,1,739),(157,137,2,720)]
noncomputable def adS:pQ:=[(24,159,33,777)]
noncomputable def RC:pQ:=[(26,150,8,857),(161,162,9,883)]
noncomputable abbrev BO:=kO [] Rx
noncomputable abbrev BP:=kO BO Ry
noncomputable abbrev BQ:=kO BP Rz
noncomputable abbrev BS:=kO BQ RA
noncomputable abbrev tTr:=kO BS RB
noncomputable abbrev tLi:=kO [] adR
noncomputable def tL(j:Nat):List (Int×Addr):=([(7,758),(6,758),(5,758),(4,758)]:List (Int×Addr)).drop (4-j)++tLi
noncomputable abbrev BU:=kO (tL 4) adS
noncomputable abbrev tNa:=kO BU RC
theorem yU(F:bw g->Fn g f [94] body)(e:body=yR 98 l)(k1:yS tab l)(hn:n+l.length<1000)(M:MB H C ev es st)(T:TI H st tab n)(hk:2<=k)(hq:∀H' st',Fz H H'->MB H' C ev es st'->TI H' st' (kO tab l) (n+l.length)->Q .none H'):μ g k (.ref f) [.ref C.m] H Q X:=by
 subst e
 refine μ.en F rfl hk λ c o _=>mm.Rv o rfl M T k1 hn λ H' st' F' M' T'=>?_
 ktf_call"g"
 exact hq _ _ F' M' T'
theorem adT(F:bw g->Fn g f [94] body)(e:body=yR 97 l)(k1:yS tab l)(hn:n+l.length<1000)(M:MB H C ev es st)(T:TI H es tab n)(hk:2<=k)(hq:∀H' es',Fz H H'->MB H' C ev es' st->TI H' es' (kO tab l) (n+l.length)->Q .none H'):μ g k (.ref f) [.ref C.m] H Q X:=by
 subst e
 refine μ.en F rfl hk λ c o _=>mm.Rw o rfl M T k1 hn λ H' st' F' M' T'=>?_
 ktf_call"g"
 exact hq _ _ F' M' T'
theorem adU(M:MB H C ev es st)(T:TI H st [] 0)(hk:2<=k)(hq:∀H' st',Fz H H'->MB H' C ev es st'->TI H' st' BO 4->Q .none H'):μ g k (.ref 1017) [.ref C.m] H Q X:=
 yU (l:=Rx) (tab:=[]) (fT 54 rfl) rfl ⟨⟨rfl,rfl,rfl,rfl,rfl⟩,⟨rfl,rfl,rfl,rfl,rfl⟩,⟨rfl,rfl,rfl,rfl,rfl⟩,⟨rfl,rfl,rfl,rfl,rfl⟩,trivial⟩ (by decide) M T hk hq
theorem adV(M:MB H C ev es st)(T:TI H st BO 4)(hk:2<=k)(hq:∀H' st',Fz H H'->MB H' C ev es st'->TI H' st' BP 9->Q .none H'):μ g k (.ref 1201) [.ref C.m] H Q X:=
 yU (l:=Ry) (tab:=BO) (fT 67 rfl) rfl ⟨⟨rfl,rfl,rfl,rfl,rfl⟩,⟨rfl,rfl,rfl,rfl,rfl⟩,⟨rfl,rfl,rfl,rfl,rfl⟩,⟨rfl,rfl,rfl,rfl,rfl⟩,⟨rfl,rfl,rfl,rfl,rfl⟩,trivial⟩ (by decide) M T hk hq
theorem adW(M:MB H C ev es st)(T:TI H st BP 9)(hk:2<=k)(hq:∀H' st',Fz H H'->MB H' C ev es st'->TI H' st' BQ 14->Q .none H'):μ g k (.ref 1399) [.ref C.m] H Q X:=
 yU (l:=Rz) (tab:=BP) (fT 81 rfl) rfl ⟨⟨rfl,rfl,rfl,rfl,rfl⟩,⟨rfl,rfl,rfl,rfl,rfl⟩,⟨rfl,rfl,rfl,rfl,rfl⟩,⟨rfl,rfl,rfl,rfl,rfl⟩,⟨rfl,rfl,rfl,rfl,rfl⟩,trivial⟩ (by decide) M T hk hq
theorem adX(M:MB H C ev es st)(T:TI H st BQ 14)(hk:2<=k)(hq:∀H' st',Fz H H'->MB H' C ev es st'->TI H' st' BS 15->Q .none H'):μ g k (.ref 1446) [.ref C.m] H Q X:=
 yU (l:=RA) (tab:=BQ) (fT 86 rfl) rfl ⟨⟨rfl,rfl,rfl,rfl,rfl⟩,trivial⟩ (by decide) M T hk hq
theorem adY(M:MB H C ev es st)(T:TI H st BS 15)(hk:2<=k)(hq:∀H' st',Fz H H'->MB H' C ev es st'->TI H' st' tTr 16->Q .none H'):μ g k (.ref 1493) [.ref C.m] H Q X:=
 yU (l:=RB) (tab:=BS) (fT 91 rfl) rfl ⟨⟨rfl,rfl,rfl,rfl,rfl⟩,trivial⟩ (by decide) M T hk hq
theorem adZ(h:([.int 4 0,.int 5 0,.int 6 0,.int 7 0]:List Value)[j]? = some v):∃i:Int,v = .int i 0/\((tL j).all λ p=>p.1 != i)= true/\2+j<1000/\(i,758)::tL j = tL (j+1):=by
 rcases j with _ |_ |_ |_ |j
 ·exact⟨4,(bY h).symm,rfl,by decide,rfl⟩
 ·exact⟨5,(bY h).symm,rfl,by decide,rfl⟩
 ·exact⟨6,(bY h).symm,rfl,by decide,rfl⟩
 ·exact⟨7,(bY h).symm,rfl,by decide,rfl⟩
 ·exact nN h
theorem ad0(M:MB H C ev es st)(T:TI H es [] 0)(hk:2<=k)(hq:∀H' es',Fz H H'->MB H' C ev es' st->TI H' es' BU 7->Q .none H'):μ g k (.ref 897) [.ref C.m] H Q X:=by
 refine μ.en (fT 45 rfl) rfl hk λ c o _=>?_
 refine mm.aP o 1 rfl ?_
 refine mm.rx (r:=[]) (i:=1) (Cc:=739) o rfl M T rfl rfl rfl (λ q=>V.gl rfl q) (by decide) rfl λ H0 es0 F0 M0 T0=>?_
 refine mm.aP o 1 rfl ?_
 refine mm.rx (r:=[]) (i:=2) (Cc:=720) o rfl M0 T0 rfl rfl rfl (λ q=>V.gl rfl q) (by decide) rfl λ H1 es1 F1 M1 T1=>?_
 ktf_call"g"
 ktf_call"T";intro H2 a E2 ha
 refine mm.aP o 1 rfl ?_
 refine mm.fo (Goes.tuple ha) (I:=λ j m' H'=>m'=[(94,.ref C.m)]/\∃es',Fz H2 H'/\MB H' C ev es' st/\TI H' es' (tL j) (2+j)) (by exact⟨rfl,trivial⟩) ⟨rfl,es1,Fz.refl,M1.ext E2,T1.fz E2.fz⟩ ?_ ?_
 ·intro j v _ H' ad1 hx;obtain⟨rfl,es',F',M',T'⟩:=ad1
  refine⟨F' _ _ ha rfl,?_⟩
  refine uX (adZ hx) λ i Gi h1 h2 h3=>?_;refine Gi.symm▸?_
  refine mm.aP o 1 rfl ?_
  refine mm.rx (r:=[(1,.int i 0)]) (i:=i) (Cc:=758) o rfl M' T' rfl rfl rfl (λ q=>V.θ rfl q) h2 h1 λ H3 RE F3 M3 T3=>?_
  ktf_call"g"
  exact⟨_,by exact⟨rfl,trivial⟩,rfl,RE,F'.trans F3,M3,h3▸T3⟩
 ·intro _ H' ad2;obtain⟨rfl,es',F',M',T'⟩:=ad2
  refine⟨F' _ _ ha rfl,?_⟩
  refine mm.aP o 1 rfl ?_
  refine mm.rx (r:=[]) (i:=33) (Cc:=777) o rfl M' T' rfl rfl rfl (λ q=>V.gl rfl q) (by decide) rfl λ H3 RE F3 M3 T3=>?_
  ktf_call"g"
  exact hq _ _ (((F0.trans F1).trans E2.fz).trans (F'.trans F3)) M3 T3
theorem ad3(M:MB H C ev es st)(T:TI H es BU 7)(hk:2<=k)(hq:∀H' es',Fz H H'->MB H' C ev es' st->TI H' es' tNa 9->Q .none H'):μ g k (.ref 904) [.ref C.m] H Q X:=
 adT (l:=RC) (tab:=BU) (fT 46 rfl) rfl ⟨⟨rfl,rfl,rfl,rfl,rfl⟩,⟨rfl,rfl,rfl,rfl,rfl⟩,trivial⟩ (by decide) M T hk hq
theorem ad4(hk:2<=k)(hq:∀H' x d sn,Ext H H'->H' x=some (.ins 472 d)->H' d=some (.ai true [(92,.ref sn)])->H' sn=some (.κ false [])->H sn=none->Q (.ref x) H'):μ g k (.ref 472) [] H Q X:=by
 refine μ.IJ (Cc:=472) (n:=0) rfl hk λ y d bE j hj E0 nd I=>?_
 refine Θ (l_ hj) λ j Gj=>?_;refine Gj.symm▸?_
 refine cy.en (fT 23 rfl) rfl (gj _) λ c o _=>?_
 ktf_call"g"
 ktf_call"lf"
 ktf_call"T";intro H₁ sn aJ nsn v8;ktf_call"g"
 refine mm.ik ((I.ext aJ).add v8 rfl) rfl rfl λ ο I=>?_
 refine mm.gh (l:=[]) (Gh.ff (z:=true) I.hd) ?_
 ktf_call"g"
 exact⟨rfl,hq _ y d sn ((I.done E0 nd).Rd nd) (by rw[Γ I.ne];exact I.me) ah (by rw[Γ (I.all (sn,_) eU).2];exact I.at 0 rfl) (E0.none nsn)⟩
end
section
variable {g:Gv}{k:Nat}
theorem Ω.ad5(q:Q (.bool true) m H):Ω g c (cJ .Is) (.ref a) (.ref a) m H Q X:=by
 intro a' b' ha hb A s hA
 obtain rfl:=a8 ha
 obtain rfl:=a8 hb
 exact wpAny_is_ref_self ⟨m,H,hA,Go.refl,q⟩
theorem yV{α:Type}{l:List α}(h:l.length=2):∃x y,l=[x,y]:=by
 cases l with
 |nil=>cases h
 |cons x r=>cases r with
  |nil=>cases h
  |cons y r=>cases r with
   |nil=>exact⟨x,y,rfl⟩
   |cons z r=>exact absurd (yW (yW h)) (Nat.succ_ne_zero _)
theorem RF{x:Str}{v:Value}(h:(vk PW g.w).is x v=true):∃t,v=.str x t:=by
 cases v with
 |str y t=>simp[vk,OD]at h;exact⟨t,by exact h▸rfl⟩
 |_=>simp[vk,OD]at h
theorem μ.ad6{d:Addr}{z:Bool}{v w:Value}{Q E:Value->AH->Prop}(hd:H d=some (.sd z [(cf,v),(cE,w)]))(q:∀a,H a=none->Q (.ref a) (ξ H a (.κ true [sv cf,sv cE]))):μ g k (.builtin "sorted") [.ref d] H Q E:=by
 refine μ.Qw (d:=d) (T:="dict") (ss:=[cf,cE]) (by decide) (λ A s hA=>?_) λ a iN ha hp hs=>?_
 ·obtain⟨kvs,k1,k2⟩:=hA.sim _ _ hd
  obtain⟨ep,k3⟩:=k1.dictAt
  obtain⟨⟨a,v'⟩,⟨b,w'⟩,rfl⟩:=yV (l:=kvs) (by have:=congrArg jF k2;rwa [gJ]at this)
  injection k2 with k4 k5
  injection k5 with k5
  injection k4 with k4
  injection k5 with k5
  subst k4 k5
  refine⟨2,_,_,kdl_dict (knd:=vk PW g.w) (kvs:=[(cf,v'),(cE,w')]) (ep:=ep) (vj hA hd),k3,of_decide_eq_true (Eq.refl true),λ acc h=>?_⟩
  obtain⟨h1,h2⟩:=h
  obtain⟨acc⟩:=acc
  obtain⟨x,y,rfl⟩:=yV (l:=acc) h1
  obtain⟨k0,x0,e0,i0⟩:=h2 0 x rfl
  obtain⟨k1,x1,e1,i1⟩:=h2 1 y rfl
  cases e0
  cases e1
  obtain⟨t0,rfl⟩:∃t,x=.str cf t:=RF i0
  obtain⟨t1,rfl⟩:∃t,y=.str cE t:=RF i1
  exact .cons _ _ (.cons _ _ .nil)
 ·have:iN=[cf,cE]:=by
   have h2:iN.length=2:=hp.length_eq
   obtain⟨x,y,rfl⟩:=yV h2
   have hx:x=cf\/x=cE:=by simpa using hp.subset (eU)
   have hy:y=cf\/y=cE:=by simpa using hp.subset (eA _ eU)
   have nd:[x,y].Nodup:=hp.nodup_iff.mpr (by decide)
   rcases hx with rfl |rfl <;> rcases hy with rfl |rfl
   ·exact absurd nd (by decide)
   ·rfl
   ·exact absurd hs (by decide)
   ·exact absurd nd (by decide)
  subst this
  exact q a ha
end
noncomputable def BV:Str:=⟨⟨[114,101,116,117,114,110]⟩⟩
noncomputable def yX:Str:=⟨⟨[116,104,114,111,119]⟩⟩
inductive mA(H:AH)(v:Value):Ot->Prop
 |χ (a:Addr) (e:v=.ref a) (h:H a=some (.φ [])):mA H v .χ
 |ret {u:SV} (a:Addr) (w:Value) (e:v=.ref a) (h:H a=some (.φ [.str BV 0,w])) (r:VR H w u):mA H v (.ret u)
 |aw {u:SV} (a:Addr) (w:Value) (e:v=.ref a) (h:H a=some (.φ [.str yX 0,w])) (r:VR H w u):mA H v (.aw u)
theorem mA.fz{H H':AH}(F:Fz H H'){v:Value}{o:Ot}(h:mA H v o):mA H' v o:=by
 cases h with
 |χ a e h=>exact .χ a e (F _ _ h rfl)
 |ret a w e h r=>exact .ret a w e (F _ _ h rfl) (r.fz F)
 |aw a w e h r=>exact .aw a w e (F _ _ h rfl) (r.fz F)
inductive RG(H:AH)(v:Value)(p:Ot×Sg):Prop
 |mk (a sn tl:Addr) (en:Value) (vs ws:List Value) (e:v=.ref a) (h:H a=some (.φ [.ref sn,.ref tl,en,.bool true])) (h1:H sn=some (.κ false vs)) (r1:ak (gk H) vs p.2.seen) (h2:H tl=some (.κ false ws)) (r2:ak (gu H) ws p.2.aj) (oh:mA H en p.1):RG H v p
section
variable {es st:List (Int×Value)}
structure MZ(H:AH)(C:MC):Prop where
 m:H C.m=some (.ins 610 C.d)
 dd:H C.d=some (.ai false (gO C ⟨0,0,.none,[],[],0⟩))
 hp:H C.hp=some (.ins 216 C.jG)
 hd:H C.jG=some (.ai true [(43,.ref C.th),(44,.ref C.nt)])
 ex:oB H C.ex yq
 sm:oB H C.sm lF
 pr:H C.pr=some (.bu true [])
 tl:H C.tl=some (.κ false [])
 th:H C.th=some (.κ false [])
 n1:C.tl≠C.th
theorem MZ.ext(E:Ext H H')(M:MZ H C):MZ H' C:=⟨E _ _ M.m,E _ _ M.dd,E _ _ M.hp,E _ _ M.hd,M.ex.fz E.fz,M.sm.fz E.fz,E _ _ M.pr,E _ _ M.tl,E _ _ M.th,M.n1⟩
theorem MB.cW{t1 t2:List (Int×Addr)}{n1 n2:Nat}(M:MB H C .none es st)(T:TI H es t1 n1)(T':TI H st t2 n2)(h1:(yq.all λ p=>t1.contains p)=true)(h2:(lF.all λ p=>t2.contains p)=true):
  MZ (ξ (ξ H C.ex (.bu true es)) C.sm (.bu true st)) C/\Fz H (ξ (ξ H C.ex (.bu true es)) C.sm (.bu true st))/\(ξ H C.ex (.bu true es)) C.sm=some (.bu false st):=by
 have F1:Fz H (ξ H C.ex (.bu true es)):=Fz.set M.ex rfl
 have hs:(ξ H C.ex (.bu true es)) C.sm=some (.bu false st):=by rw[Γ (cP M.n2)];exact M.sm
 have F2:Fz (ξ H C.ex (.bu true es)) (ξ (ξ H C.ex (.bu true es)) C.sm (.bu true st)):=Fz.set hs rfl
 have F:=F1.trans F2
 have ne:∀{a:Addr}{o:AO},H a=some o->AO.iZ o (.bu false es)=true->AO.iZ o (.bu false st)=true->(ξ (ξ H C.ex (.bu true es)) C.sm (.bu true st)) a=some o:=λ h d1 d2=>by
  rw[Γ (cG h M.sm d2),Γ (cG h M.ex d1)];exact h
 exact⟨⟨ne M.m rfl rfl,ne M.dd rfl rfl,ne M.hp rfl rfl,ne M.hd rfl rfl,T.tb F (by rw[Γ M.n2];exact ah) h1,T'.tb F ah h2,F _ _ M.pr rfl,ne M.tl rfl rfl,ne M.th rfl rfl,M.n1⟩,F,hs⟩
theorem mm.wt{g:Gv}{c:Cx}{Q:bJ->Lc->AH->Prop}{X:Value->Lc->AH->Prop}{D:List It}{sk:List Value}{m:Lc}{kw d sn:Addr}(M:MZ H C)(h1:H kw=some (.ins 472 d))(h2:H d=some (.ai true [(92,.ref sn)]))(h3:H sn=some (.κ false []))(a1:sn≠C.tl)(a2:sn≠C.th)
  (h:∀H' C',Fz H H'->C'.m=C.m->MS H' C' ⟨0,0,.none,[],[],0⟩->Mine.M g c Q X D sk m H'):Mine.M g c Q X (.sa 108::D) (.ref C.m::.ref kw::sk) m H:=by
 refine mm.sf M.m M.dd rfl rfl ?_
 have F:Fz H (ξ H C.d (.ai false (gO {C with wt:=kw,wd:=d,sn:=sn} ⟨0,0,.none,[],[],0⟩))):=Fz.set M.dd rfl
 have ne:∀{a:Addr}{vs:List Value},H a=some (.κ false vs)->(ξ H C.d (.ai false (gO {C with wt:=kw,wd:=d,sn:=sn} ⟨0,0,.none,[],[],0⟩))) a=some (.κ false vs):=λ h=>by
  rw[Γ (cG h M.dd rfl)];exact h
 exact h _ {C with wt:=kw,wd:=d,sn:=sn} F rfl {m:=F _ _ M.m rfl,hp:=F _ _ M.hp rfl,hd:=F _ _ M.hd rfl,ex:=M.ex.fz F,sm:=M.sm.fz F,pr:=F _ _ M.pr rfl,wt:=F _ _ h1 rfl,wd:=F _ _ h2 rfl,dd:=ah,seen:=⟨[],ne h3,trivial⟩,aj:=⟨[],ne M.tl,trivial⟩,jT:=⟨[],ne M.th,rfl⟩,n1:=a1,n2:=a2,n3:=M.n1}
end
section
variable {k:Nat}
theorem mm.b3{g:Gv}{c:Cx}{Q:bJ->Lc->AH->Prop}{X:Value->Lc->AH->Prop}{D:List It}{sk:List Value}{m:Lc}{l r t:PE}(h1:Va g c H m l (.bool true))(h2:Va g c H m r (.bool true))(h:M g c Q X (.v t::D) sk m H):M g c Q X (.v (.fU l r t)::D) sk m H:=
 (V.fU (h1.v (bH.bool (bt rfl (h2.v (bH.bool (bt rfl h)))))):V g c (.fU l r t) m H (λ v m' H'=>M g c Q X D (v::sk) m' H') X)
inductive RH(D:MC)(x:Addr)(bE:AH)(res:Ot×Sg)(m':Lc)(ο:AH):Prop
 |mk (ae:bI) (en:Value) (l:sub [(94,.ref D.m),(309,.ref x),(310,en)] m') (d:cT en=true) (F:Fz bE ο) (M:MS ο D ae) (e1:ae.env=.ref x) (e2:ae.dp=0) (e3:res.2=ae.sg) (e4:mA ο en res.1):RH D x bE res m' ο
theorem d0{n:Nat}(h:n<=3):(0:Int)+1+3*(n:Int)<=43:=by omega
theorem rb3{N:Nat}(h:N<=1376):0+(1+2*N)+(1+(1+2*N))+(1+2*N)<=19990:=by omega
theorem nc3{n:Nat}(h:n<=3):nc n<=1376:=by
 rcases n with _ |_ |_ |_ |n <;> first |decide |exact absurd h (by simp)
theorem ad7{root:Value}{n:Nat}{b:List St}{c:Option (Option Addr×List St)}{fi:Option (List St)}{ca:Addr}{w0 w1:Value}{u0 u1:SV}(hr:SR (some ν) H (n+1) root (.dQ b c fi))(hw:WF (n+1) [] [] (.dQ b c fi))(hn:n<=3)
  (pR:H ca=some (.κ true [w0,w1])) (h0:VR H w0 u0) (h1:VR H w1 u1) (hj:∀l,(ev ν (n+1) [(cf,u0,true),(cE,u1,true)] (.dQ b c fi) ⟨[],[]⟩).1≠.brk l/\(ev ν (n+1) [(cf,u0,true),(cE,u1,true)] (.dQ b c fi) ⟨[],[]⟩).1≠.cnt l) (hk:80<=k)
  (hq:∀H' v,Fz H H'->RG H' v (ev ν (n+1) [(cf,u0,true),(cE,u1,true)] (.dQ b c fi) ⟨[],[]⟩)->Q v H'):μ g k (.ref 1625) [root,.ref ca] H Q X:=by
 refine μ.en (fT 110 rfl) rfl hk λ cx o _=>?_
 ktf_call"g"
 refine adN (by ktf_call"k") λ C H1 E1 M1=>?_
 ktf_call"g"
 refine ad0 M1 TI.z (by ktf_call"k") λ H2 e2 F2 M2 T2=>?_
 ktf_call"g"
 refine ad3 M2 T2 (by ktf_call"k") λ H3 e3 F3 M3 T3=>?_
 have G:=(E1.fz.trans F2).trans F3
 clear E1 M1 e2 F2 M2 T2 F3
 ktf_call"g"
 refine adU M3 TI.z (by ktf_call"k") λ H4 e4 F4 M4 T4=>?_
 ktf_call"g"
 refine adV M4 T4 (by ktf_call"k") λ H5 e5 F5 M5 T5=>?_
 ktf_call"g"
 refine adW M5 T5 (by ktf_call"k") λ H6 e6 F6 M6 T6=>?_
 ktf_call"g"
 refine adX M6 T6 (by ktf_call"k") λ H7 e7 F7 M7 T7=>?_
 ktf_call"g"
 refine adY M7 T7 (by ktf_call"k") λ H8 e8 F8 M8 T8=>?_
 have G':=(((F4.trans F5).trans F6).trans F7).trans F8
 have FA:=G.trans G'
 have RJ:=T3.fz G'
 clear M3 T3 M4 T4 M5 T5 M6 T6 M7 T7 F4 F5 F6 F7 F8 G G'
 refine fg (M8.cW RJ T8 rfl rfl) λ M9 F9 RL=>?_
 refine mm.aP o 1 rfl ?_
 refine mm.gh (Gh.fi (z:=true) M8.ex) ?_
 refine mm.gh (Gh.fi (z:=true) RL) ?_
 generalize ξ (ξ H8 C.ex (.bu true e3)) C.sm (.bu true e8)=H9 at M9 F9⊢
 have FB:=FA.trans F9
 clear M8 T8 RJ RL F9 FA
 ktf_call"g"
 refine ad4 (by ktf_call"k") λ fG kw kd sn iJ k1 k2 k3 k4=>?_
 ktf_call"gq"
 refine mm.wt (M9.ext iJ) k1 k2 k3 (λ z=>by rw[z,M9.tl]at k4;cases k4) (λ z=>by rw[z,M9.th]at k4;cases k4) λ jP D sO eD RM=>?_
 rw[<- eD]
 have FC:=(FB.trans iJ.fz).trans sO
 clear eD M9 iJ sO k1 k2 k3 k4 FB
 ktf_call"g"
 refine Qh (by ktf_call"k") λ HC x xd cd pE x1 x2 x3 x4=>?_
 have RN:=pE _ _ (FC _ _ pR rfl)
 ktf_call"g"
 ktf_call"lt"
 ktf_call"T";intro sQ a1 sZ _ oJ
 have RO:=sZ _ _ RN
 have ng:=sZ _ _ x1
 have nh:=sZ _ _ x2
 have td:=sZ _ _ x3
 have RP:=(RM.ext pE).ext sZ
 have RQ:=FC.trans (pE.trans sZ).fz
 clear RM pE x1 x2 x3 x4 RN sZ FC
 ktf_call"g"
 refine mm.si (dK.sd td (by decide) ?_)
 refine ag (RP.sd (o':=.sd false [(cf,.ref a1)]) td) λ IL gP=>?_
 have IM:ξ sQ cd (.sd false [(cf,.ref a1)]) cd=some (.sd false [(cf,.ref a1)]):=ah
 have IP:=gP _ _ oJ rfl
 show Mine.M _ _ _ _ _ _ _ (ξ sQ cd (.sd false [(cf,.ref a1)]))
 generalize ξ sQ cd (.sd false [(cf,.ref a1)])=yt at IL gP IM IP⊢
 have x1:=gP _ _ ng rfl
 have x2:=gP _ _ nh rfl
 have ad8:=gP _ _ RO rfl
 have RS:=RQ.trans gP
 clear RP RQ gP oJ ng nh td RO
 ktf_call"g"
 ktf_call"lt"
 ktf_call"T";intro yu a2 j6 _ BW
 have ng:=j6 _ _ x1
 have nh:=j6 _ _ x2
 have td:=j6 _ _ IM
 have oJ:=j6 _ _ IP
 ktf_call"g"
 refine mm.si (dK.sd td (hW rfl) ?_)
 refine ag ((IL.ext j6).sd (o':=.sd false [(cf,.ref a1),(cE,.ref a2)]) td) λ IQ pF=>?_
 have BX:ξ yu cd (.sd false [(cf,.ref a1),(cE,.ref a2)]) cd=some (.sd false [(cf,.ref a1),(cE,.ref a2)]):=ah
 have IS:=(RS.trans j6.fz).trans pF
 have x1:=pF _ _ ng rfl
 have x2:=pF _ _ nh rfl
 have b1:=pF _ _ oJ rfl
 have b2:=pF _ _ BW rfl
 show Mine.M _ _ _ _ _ _ _ (ξ yu cd (.sd false [(cf,.ref a1),(cE,.ref a2)]))
 generalize ξ yu cd (.sd false [(cf,.ref a1),(cE,.ref a2)])=yv at IQ BX IS x1 x2 b1 b2⊢
 clear ng nh td pF IL j6 oJ BW RS IM IP ad8
 refine mm.gh (Gh.fs (z:=true) BX) ?_
 refine ag (IQ.sd (o':=.sd true [(cf,.ref a1),(cE,.ref a2)]) BX) λ IT mv=>?_
 have yY:=IS.trans mv
 have x3:ξ yv cd (.sd true [(cf,.ref a1),(cE,.ref a2)]) cd=some (.sd true [(cf,.ref a1),(cE,.ref a2)]):=ah
 have ng:=mv _ _ x1 rfl
 have nh:=mv _ _ x2 rfl
 have hE:a_ (ξ yv cd (.sd true [(cf,.ref a1),(cE,.ref a2)])) (.ref x) ([(cf,u0,true),(cE,u1,true)]++[]) 1:=
  .sc ng nh x3 ⟨⟨rfl,a1,w0,1,rfl,mv _ _ b1 rfl,h0.fz yY,rfl⟩,⟨rfl,a2,w1,1,rfl,mv _ _ b2 rfl,h1.fz yY,rfl⟩,trivial⟩ .nil
 generalize ξ yv cd (.sd true [(cf,.ref a1),(cE,.ref a2)])=Bn at IT yY x3 ng nh hE⊢
 clear IQ BX IS x1 x2 b1 b2 mv
 ktf_call"g"
 refine mm.ms IT ⟨0,0,.ref x,[],[],0⟩ rfl rfl rfl rfl rfl λ IK wg RT=>?_
 have x1:=wg _ _ ng rfl
 have x2:=wg _ _ nh rfl
 have x3:=wg _ _ x3 rfl
 have FE:=yY.trans wg
 have hE:=hE.fz wg
 clear IT wg ng nh yY h0 h1 pR
 obtain⟨rx,bv,cv,fv,np,b1,c1,f1⟩:=(hr:Ba (some ν) H (SR (some ν) H n) root b c fi)
 refine fg ((hw:l9 (WF n) [] [] (.dQ b c fi))) λ mB lE yZ=>?_
 have ih:yO g D ν n:=Rb n
 have hL:dq []:=λ _ h=>nomatch h
 have lM:=d0 hn
 have vY:bD g cx.k (.ref 1467) [.ref D.m,root] IK D ⟨0,0,.ref x,[],[],0⟩ (0+(1+2*nc n)+(1+(1+2*nc n))+(1+2*nc n)) (ev ν (n+1) [(cf,u0,true),(cE,u1,true)] (.dQ b c fi) ⟨[],[]⟩):=by
  refine Qt (kk:=14*n+30) (cb:=1+2*nc n) (E:=[(cf,u0,true),(cE,u1,true)]) (f:=λ E=>aA (Mine.ev ν n E)) (np.fz FE) RT hE ⟨vu _,vu _,bK _,bK _,rfl⟩ (rb3 (nc3 hn)) (m_ ih (b1.fz FE) mB hL hL hE lM (bK _)) ?_ ?_ (Ψ (vM (v7 14 hn) 33) (o.k rfl)) (o.k rfl)
  ·cases c with
   |none=>exact c1
   |some c=>
    obtain⟨cx,nv,BB,n1,n2,n3⟩:=c1
    exact⟨cx,_,_,nv,BB,n1.fz FE,n2.map λ _ _ z=>z.fz FE,λ aD ev m' E' Z' sY=>m_ ih ((n3.fz FE).fz Z') (lE _ rfl) hL hL sY lM (bK _)⟩
  ·cases fi with
   |none=>exact f1
   |some fb=>
    have f1:BR (some ν) H (SR (some ν) H n) fv fb:=f1
    exact⟨by obtain⟨y,kv,np,_⟩:=f1;exact np.ne,m_ ih (f1.fz FE) (yZ fb rfl) hL hL hE lM (bK _)⟩
 generalize BJ:ev ν (n+1) [(cf,u0,true),(cE,u1,true)] (.dQ b c fi) ⟨[],[]⟩=res at vY hj hq
 clear BJ np b1 c1 f1 mB lE yZ ih hL lM hE RT hn
 refine mm.aP o 1 rfl ?_
 refine mm.mW (st':=[]) (P:=RH D x IK res) ?_ ?_
 ·intro R hR
  refine mm.tx o ?_
  ktf_call"g"
  refine vY _ _ (λ ο ae w ot A e r=>?_) λ ο ae w u A e r=>EX.i λ ex ω ea de E3 q1 q2=>?_
  ·have e1:res.1=ot:=by rw[e]
   have e2:res.2=ae.sg:=by rw[e]
   ktf_call"g"
   cases ot with
   |χ=>
    ktf_call"g"
    ktf_call"T";intro ω rt E3 ja;ktf_call"g"
    exact hR _ _ ⟨ae,.ref rt,by exact⟨rfl,rfl,rfl,trivial⟩,rfl,A.fz.trans E3.fz,A.ms.ext E3,A.env,A.dp,e2,by rw[e1];exact .χ rt rfl ja⟩
   |ret u=>
    cases r with|ret a y ew hy ry=>?_
    subst ew
    have jV:=ry.dat
    ktf_call"g"
    ktf_call"T";intro ω rt E3 ja;ktf_call"g"
    exact hR _ _ ⟨ae,.ref rt,by exact⟨rfl,rfl,rfl,trivial⟩,rfl,A.fz.trans E3.fz,A.ms.ext E3,A.env,A.dp,e2,by rw[e1];exact .ret rt y rfl ja (ry.fz E3.fz)⟩
   |brk l=>exact absurd e1 (hj l).1
   |cnt l=>exact absurd e1 (hj l).2
   |aw u=>exact r.not.elim
  ·have e1:res.1=.aw u:=by rw[e]
   have e2:res.2=ae.sg:=by rw[e]
   have BA:=r.dat
   ktf_call"g"
   refine mm.xv q1 q2 BA ?_
   ktf_call"g"
   ktf_call"T";intro ar rt E4 ja;ktf_call"g"
   have kN:=E3.trans E4
   exact hR _ _ ⟨ae,.ref rt,by exact⟨rfl,rfl,rfl,trivial⟩,rfl,A.fz.trans kN.fz,A.ms.ext kN,A.env,A.dp,e2,by rw[e1];exact .aw rt w rfl ja (r.fz kN.fz)⟩
 ·intro m' ο ad9;obtain⟨ae,en,l,oh,F,M,e1,e2,e3,e4⟩:=ad9
  refine mm.fr l ?_
  have hv:cT ae.env=true:=by rw[e1];rfl
  have y1:=F _ _ x1 rfl
  have y2:=F _ _ x2 rfl
  have y3:=F _ _ x3 rfl
  refine mm.aP o 2 rfl ?_
  refine mm.b3 (λ Q X R hR=>?_) (λ Q X R hR=>?_) ?_
  ·ktf_call"g"
   rw[e1]
   refine mm.oc (Ω.ad5 ?_)
   ktf_call"g"
   exact hR
  ·ktf_call"g"
   rw[e2]
   ktf_call"g"
   exact hR
  ktf_call"g"
  refine μ.ad6 y3 λ ls pN=>?_
  have E3:Ext ο (ξ ο ls (.κ true [sv cf,sv cE])):=Ext.new pN
  have j1:ξ ο ls (.κ true [sv cf,sv cE]) ls=some (.κ true [sv cf,sv cE]):=ah
  generalize ξ ο ls (.κ true [sv cf,sv cE])=ω at E3 j1⊢
  ktf_call"g"
  ktf_call"lt"
  ktf_call"T";intro ar lt E4 _ fq
  have j2:=E4 _ _ j1
  ktf_call"g"
  refine mm.oc (Ω.ahe (da:=.list [.str cf,.str cE]) (db:=.list [.str cf,.str cE]) (by exact⟨ls,_,_,rfl,j2,rfl,rfl,trivial⟩) (by exact⟨lt,_,_,rfl,fq,rfl,rfl,trivial⟩) (by decide +kernel) (by decide +kernel) (by decide +kernel) ?_)
  rw[show eW (.list [.str cf,.str cE]) (.list [.str cf,.str cE])=true by decide +kernel]
  have kN:=E3.trans E4
  have M3:=M.ext kN
  have q1:=M3.wt
  have q2:=M3.wd
  clear j1 j2 fq E3 E4
  ktf_call"g"
  ktf_call"T";intro aV rt E5 ja;ktf_call"g"
  have M5:=M3.ext E5
  obtain⟨vs,y1,y2⟩:=M5.seen
  obtain⟨ws,y3,y4⟩:=M5.aj
  exact hq _ _ (((FE.trans F).trans kN.fz).trans E5.fz) ⟨rt,D.sn,D.tl,en,vs,ws,rfl,ja,y1,by rw[e3];exact y2,y3,by rw[e3];exact y4,(e4.fz kN.fz).fz E5.fz⟩
end
inductive Wi where
 |st (s:St)|bl (b:List St)
set_option genCtorIdx true in
inductive Fm where
 |l (x:Str)|s (dJ:List Wi)|t (c:Option (Option Addr×List St)) (f:Option (List St)) (k:Nat) (sg:Ot)
 |d |f (n:Addr) (b:List St) (vs:List SV)|w |x (v:SV)|e (v:SV)
structure LS where
 fs:List Fm
 σ:Sg
noncomputable def BY:Fm->Option (Str×SV×Bool)
 | .x v=>some (bC,v,true)
 | .e v=>some (gf,v,true)
 |_=>none
noncomputable def aB(E0:Ev)(fs:List Fm):Ev:=fs.filterMap BY++E0
noncomputable def kP(r:Except SV SV×Sg)(fs:List Fm)(f:SV->List Fm×Ot):LS×Ot:=match r.1 with
 | .ok v=>(⟨(f v).1,r.2⟩,(f v).2)
 | .error u=>(⟨fs,r.2⟩,.aw u)
noncomputable def pS(ν:Addr->Int)(n:Addr)(b:List St)(fs:List Fm)(σ:Sg):List SV->LS×Ot
 | []=>(⟨fs,σ⟩,.χ)
 |v::r=>(⟨.s [.bl b]::.x v::.f n b r::fs,{σ with seen:=σ.seen++[(ν n,v)]}⟩,.χ)
noncomputable def eI(l:Str)(fs:List Fm):List Fm:=if l=s_ then fs else .l l::fs
noncomputable def BZ(ν:Addr->Int)(E0:Ev)(fs:List Fm)(σ:Sg):St->LS×Ot
 | .ex e=>kP (dm ν (aB E0 fs) e σ) fs λ _=>(fs,.χ)
 | .dN=>(⟨fs,σ⟩,.ret .u)
 | .ret e=>kP (dm ν (aB E0 fs) e σ) fs λ v=>(fs,.ret v)
 | .aw e=>kP (dm ν (aB E0 fs) e σ) fs λ v=>(fs,.aw v)
 | .brk l=>(⟨fs,σ⟩,.brk l)
 | .cnt l=>(⟨fs,σ⟩,.cnt l)
 | .dQ b c f=>(⟨.s [.bl b]::.t c f 0 .χ::fs,σ⟩,.χ)
 | .hU l b=>(⟨.s [.bl b]::.d::eI l fs,σ⟩,.χ)
 | .gq l isOf n row b=>match row with
  | .bad y=>(⟨eI l fs,{σ with aj:=σ.aj++[ν y]}⟩,.aw (.o σ.aj.length))
  | .txt t=>pS ν n b (eI l fs) σ (items isOf t)
 | .kK l b=>(⟨.s (b.map .st)::.l l::fs,σ⟩,.χ)
 | .sw e p1 s1 p2 s2=>kP (dm ν (aB E0 fs) e σ) fs λ v=>(.s (([s1,s2].drop (eG v p1 p2)).map .st)::.w::fs,.χ)
 | .iff e a b=>kP (dm ν (aB E0 fs) e σ) fs λ v=>(.s (if cM v=true then[.bl a]else b.toList.map .st)::fs,.χ)
noncomputable def pT(ν:Addr->Int)(E0:Ev)(fs:List Fm)(σ:Sg):Wi->LS×Ot
 | .st s=>BZ ν E0 fs σ s
 | .bl b=>(⟨.s (b.map .st)::fs,σ⟩,.χ)
noncomputable def lN(c:Option (Option Addr×List St))(f:Option (List St))(k:Nat)(fs:List Fm)(σ:Sg)(sg:Ot):LS×Ot:=match f with
 |none=>(⟨fs,σ⟩,sg)
 |some b=>if k=2 then(⟨fs,σ⟩,sg)else(⟨.s [.bl b]::.t c f 2 sg::fs,σ⟩,.χ)
noncomputable def lO(ν:Addr->Int)(fs:List Fm)(σ:Sg):Fm->LS×Ot
 | .t c f k sg=>lN c f k fs σ (if k=2 then sg else .χ)
 | .f n b vs=>pS ν n b fs σ vs
 |_=>(⟨fs,σ⟩,.χ)
noncomputable def RU(ν:Addr->Int)(c:Option Addr×List St)(f:Option (List St))(sg:Ot)(u:SV)(fs:List Fm)(σ:Sg):LS×Ot:=match c.1 with
 |some x=>(⟨.s [.bl c.2]::.e u::.t (some c) f 1 sg::fs,{σ with seen:=σ.seen++[(ν x,u)]}⟩,.χ)
 |none=>(⟨.s [.bl c.2]::.t (some c) f 1 sg::fs,σ⟩,.χ)
noncomputable def fy:List Fm->List Str
 | .l x::r=>x::fy r
 |_=>[]
noncomputable def Fm.lp:Fm->Bool
 | .d=>true | .f _ _ _=>true |_=>false
noncomputable def ip(fs:List Fm):Fm->List Str
 | .d=>s_::fy fs
 | .f _ _ _=>s_::fy fs
 | .w=>[s_]
 | .l x=>[x]
 |_=>[]
noncomputable def oK(ν:Addr->Int)(fs:List Fm)(σ:Sg)(top:Fm)(sg:Ot):LS×Ot:=match sg with
 | .cnt l=>if top.lp=true/\bB l (ip fs top)=true then lO ν fs σ top else(⟨fs,σ⟩,sg)
 | .brk l=>if bB l (ip fs top)=true then(⟨fs,σ⟩,.χ)else(⟨fs,σ⟩,sg)
 |_=>(⟨fs,σ⟩,sg)
noncomputable def ti(ν:Addr->Int)(fs:List Fm)(σ:Sg)(sg:Ot):Fm->LS×Ot
 | .t c f k RV=>match sg,k,c with
  | .aw u,0,some c=>RU ν c f RV u fs σ
  |_,_,_=>lN c f k fs σ sg
 |top=>oK ν fs σ top sg
noncomputable def IU(ν:Addr->Int)(E0:Ev)(fs:List Fm)(σ:Sg):Fm->LS×Ot
 | .s []=>(⟨fs,σ⟩,.χ)
 | .s (it::r)=>pT ν E0 (.s r::fs) σ it
 |top=>lO ν fs σ top
noncomputable def ni(ν:Addr->Int)(E0:Ev)(s:LS)(sg:Ot):LS×Ot:=match s.fs with
 | []=>(s,sg)
 |top::fs=>match sg with
  | .χ=>IU ν E0 fs s.σ top
  |_=>ti ν fs s.σ sg top
inductive Rn(ν:Addr->Int)(E0:Ev)(D:Nat):Nat->LS×Ot->LS×Ot->Prop
 |z (p:LS×Ot):Rn ν E0 D 0 p p
 |s {N:Nat}{p q:LS×Ot}:p.1.fs≠[]->p.1.fs.length<=D->Rn ν E0 D N (ni ν E0 p.1 p.2) q->Rn ν E0 D (N+1) p q
theorem Rn.trans{ν:Addr->Int}{E0:Ev}{D N M:Nat}(h:Rn ν E0 D N p q)(k:Rn ν E0 D M q r):Rn ν E0 D (N+M) p r:=by
 induction h with
 |z _=>rw[lW];exact k
 |s h1 h2 _ ih=>rw[FR];exact .s h1 h2 (ih k)
def gR:SV->Prop
 | .s x=>bF x/\x.cps.size<100
 |_=>True
structure VK(H:AH)(v:Value)(u:SV):Prop where
 r:VR H v u
 ok:gR u
theorem VK.fz{H H':AH}(F:Fz H H'){v:Value}{u:SV}(h:VK H v u):VK H' v u:=⟨h.r.fz F,h.ok⟩
theorem VK.dat(h:VK H v u):cT v=true:=h.r.dat
structure lP(n:Nat)(L M:List Str)(b:List St):Prop where
 l:dq L
 m:dq M
 w:WB (WF n) L M b
structure WSo(n:Nat)(L M:List Str)(s:St):Prop where
 l:dq L
 m:dq M
 w:WF n L M s
section
variable (ν:Addr->Int)(H:AH)
inductive fN(v:Value):Wi->Prop
 |st {s:St} (n:Nat) (L M:List Str) (h:SR (some ν) H n v s) (w:WSo n L M s):fN v (.st s)
 |bl {b:List St} (n:Nat) (L M:List Str) (h:BR (some ν) H (SR (some ν) H n) v b) (w:lP n L M b):fN v (.bl b)
inductive dY(v:Value):Ot->Prop
 |χ (a:Addr) (e:v=.ref a) (h:H a=some (.φ [])):dY v .χ
 |ret {u:SV} (a:Addr) (w:Value) (e:v=.ref a) (h:H a=some (.φ [.str BV 0,w])) (r:VK H w u):dY v (.ret u)
 |brk {l:Str} (a:Addr) (e:v=.ref a) (h:H a=some (.φ [.str ⟨⟨[98,114,101,97,107]⟩⟩ 0,.str l 0])) (r:bF l):dY v (.brk l)
 |cnt {l:Str} (a:Addr) (e:v=.ref a) (h:H a=some (.φ [.str ⟨⟨[99,111,110,116,105,110,117,101]⟩⟩ 0,.str l 0])) (r:bF l):dY v (.cnt l)
 |aw {u:SV} (a:Addr) (w:Value) (e:v=.ref a) (h:H a=some (.φ [.str yX 0,w])) (r:VK H w u):dY v (.aw u)
inductive gy(vs:List Value):Fm->Prop
 |l {x:Str} (e:vs=[.str ⟨⟨[108]⟩⟩ 0,.str x 0,.int 0 0,.none]) (ok:bF x):gy vs (.l x)
 |s {dJ:List Wi} (kl:Addr) (kv:List Value) (i:Nat) (e:vs=[.str ⟨⟨[115]⟩⟩ 0,.ref kl,.int i 0,.none]) (h:H kl=some (.κ true kv)) (r:ak (fN ν H) (kv.drop i) dJ) (h1:i<=kv.length) (h2:kv.length<=100):gy vs (.s dJ)
 |t {c:Option (Option Addr×List St)}{f:Option (List St)}{k:Nat}{sg:Ot} (x:Addr) (nv bv cv fv sv:Value) (n:Nat) (L M:List Str) (e:vs=[.str ⟨⟨[116]⟩⟩ 0,nv,.int k 0,sv]) (np:NP (some ν) H nv x 57 (.str s_ 0) [bv,cv,fv]) (sr:dY H sv sg)
   (rc:cQ (CR (some ν) H (SR (some ν) H n)) cv c) (rf:cQ (BR (some ν) H (SR (some ν) H n)) fv f) (w1:∀y,c=some y->lP n L M y.2) (w2:∀y,f=some y->lP n L M y) (k2:k<=2):gy vs (.t c f k sg)
 |d (x:Addr) (e:vs=[.str ⟨⟨[100]⟩⟩ 0,.ref x,.int 0 0,.none]):gy vs .d
 |f {nn:Addr}{b:List St}{us:List SV} (v:Value) (x:Addr) (kind:Int) (hv rv bv:Value) (hx:Addr) (dv:Value) (dx:Addr) (nv:Value) (il:Addr) (iv:List Value) (n:Nat) (L M:List Str) (i:Nat) (e:vs=[.str ⟨⟨[102]⟩⟩ 0,v,.int i 0,.ref il]) (np:NP (some ν) H v x kind (.str s_ 0) [hv,rv,bv]) (h3:oE ν H hv dv nv hx dx nn)
   (rb:BR (some ν) H (SR (some ν) H n) bv b) (w:lP n L M b) (h:H il=some (.κ true iv)) (r:ak (VK H) (iv.drop i) us) (h1:i<=iv.length) (h2:iv.length<=100):gy vs (.f nn b us)
 |w (e:vs=[.str ⟨⟨[119]⟩⟩ 0,.str s_ 0,.int 0 0,.none]):gy vs .w
 |x {u:SV} (w:Value) (e:vs=[.str bC 0,.str bC 0,.int 0 0,w]) (r:VK H w u):gy vs (.x u)
 |e {u:SV} (w:Value) (e:vs=[.str gf 0,.str gf 0,.int 0 0,w]) (r:VK H w u):gy vs (.e u)
inductive j7(a:Addr)(fr:Fm):Prop
 |mk (vs:List Value) (h:H a=some (.κ false vs)) (v:gy ν H vs fr):j7 a fr
end
section
theorem fN.fz(F:Fz H H'){v:Value}{it:Wi}(h:fN ν H v it):fN ν H' v it:=by
 cases h with
 |st n L M h w=>exact .st n L M (h.fz F) w
 |bl n L M h w=>exact .bl n L M (h.fz F) w
theorem dY.fz(F:Fz H H'){v:Value}{o:Ot}(h:dY H v o):dY H' v o:=by
 cases h with
 |χ a e h=>exact .χ a e (F _ _ h rfl)
 |ret a w e h r=>exact .ret a w e (F _ _ h rfl) (r.fz F)
 |brk a e h r=>exact .brk a e (F _ _ h rfl) r
 |cnt a e h r=>exact .cnt a e (F _ _ h rfl) r
 |aw a w e h r=>exact .aw a w e (F _ _ h rfl) (r.fz F)
theorem CR.RW(F:Fz H H')(h:CR (some ν) H (SR (some ν) H n) v c):CR (some ν) H' (SR (some ν) H' n) v c:=by
 cases h with|mk x n b h o r=>exact⟨x,n,b,h.fz F,o.map λ _ _ z=>z.fz F,r.fz F⟩
theorem gy.fz(F:Fz H H'){vs:List Value}{fr:Fm}(h:gy ν H vs fr):gy ν H' vs fr:=by
 cases h with
 |l e ok=>exact .l e ok
 |s kl kv i e h r h1 h2=>exact .s kl kv i e (F _ _ h rfl) (r.map λ _ _ z=>z.fz F) h1 h2
 |t x nv bv cv fv sv n L M e np sr rc rf w1 w2 k2=>exact .t x nv bv cv fv sv n L M e (np.fz F) (sr.fz F) (rc.map λ _ _ z=>z.RW F) (rf.map λ _ _ z=>z.fz F) w1 w2 k2
 |d x e=>exact .d x e
 |f v x kind hv rv bv hx dv dx nv il iv n L M i e np h3 rb w h r h1 h2=>exact .f v x kind hv rv bv hx dv dx nv il iv n L M i e (np.fz F) (h3.fz F) (rb.fz F) w (F _ _ h rfl) (r.map λ _ _ z=>z.fz F) h1 h2
 |w e=>exact .w e
 |x w e r=>exact .x w e (r.fz F)
 |e w e r=>exact .e w e (r.fz F)
theorem j7.fz(F:Fz H H'){a:Addr}{fr:Fm}(h:j7 ν H a fr)(e:H' a=H a):j7 ν H' a fr:=by
 cases h with|mk vs h v=>exact⟨vs,e.trans h,v.fz F⟩
theorem j7.get(h:j7 ν H a fr):∃vs,H a=some (.κ false vs):=by cases h with|mk vs h v=>exact⟨vs,h⟩
theorem ak.ad_{α β:Type}{R R':α->β->Prop}{l:List α}{m:List β}(h:ak R l m):(∀a b,a∈l->R a b->R' a b)->ak R' l m:=ak.ind (R:=R) (P:=λ l m=>(∀a b,a∈l->R a b->R' a b)->ak R' l m) (λ _=>trivial) (λ _ _ _ _ h _ t k=>⟨k _ _ eU h,t λ a b hb=>k a b (eA _ hb)⟩) h
theorem ak.aea{α β:Type}{R:α->β->Prop}{l:List α}{m:List β}(h:ak R l m)(a:α)(ha:a∈l):∃b,R a b:=ψ (h.mem a ha) λ b _ r=>⟨b,r⟩
structure WA where
 (w fa ca tr to:Addr)
inductive wi(H:AH)(ca:Addr)(E0:Ev):Prop
 |mk (w0 w1:Value) (u0 u1:SV) (h:H ca=some (.κ true [w0,w1])) (r0:VK H w0 u0) (r1:VK H w1 u1) (e:E0=[(cf,u0,true),(cE,u1,true)]):wi H ca E0
theorem wi.fz(F:Fz H H'){ca:Addr}{E0:Ev}(h:wi H ca E0):wi H' ca E0:=by
 cases h with|mk w0 w1 u0 u1 h r0 r1 e=>exact⟨w0,w1,u0,u1,F _ _ h rfl,r0.fz F,r1.fz F,e⟩
structure WR(ν:Addr->Int)(H:AH)(W:WA)(E0:Ev)(as:List Addr)(s:LS):Prop where
 w:H W.w=some (.φ [.ref W.fa,.ref W.ca,.ref W.tr,.ref W.to])
 fa:H W.fa=some (.κ false (as.reverse.map .ref))
 fr:ak (j7 ν H) as s.fs
 n1:W.fa≠W.tr
 n2:W.fa≠W.to
 n3:W.tr≠W.to
 nf:W.fa∉as
 nt:W.tr∉as
 no:W.to∉as
 nd:as.Nodup
 ca:wi H W.ca E0
 tr:Lq gk H W.tr s.σ.seen
 to:Lq gu H W.to s.σ.aj
 sk:∀p∈s.σ.seen,gR p.2
variable {W:WA}
theorem wj{fs:List Fm}{a:Addr}{o:AO}(h:ak (j7 ν H) as fs)(F:Fz H (ξ H a o))(n:a∉as):ak (j7 ν (ξ H a o)) as fs:=h.ad_ λ _ _ hb r=>r.fz F (Γ λ z=>n (z▸hb))
theorem Lq.y_(h:Lq gk H b l)(F:Fz H (ξ H a o))(n:b≠a):Lq gk (ξ H a o) b l:=Lq.fz (R:=gk) (λ F z=>z.fz F) F (Γ n) h
theorem Lq.za(h:Lq gu H b l)(F:Fz H (ξ H a o))(n:b≠a):Lq gu (ξ H a o) b l:=Lq.fz (R:=gu) (λ F z=>z.fz F) F (Γ n) h
theorem WR.ext(R:WR ν H W E0 as s)(E:Ext H H'):WR ν H' W E0 as s where
 w:=E _ _ R.w
 fa:=E _ _ R.fa
 fr:=R.fr.map λ _ _ r=>r.fz E.fz (Θ (r.get) λ _ h=>(E _ _ h).trans h.symm)
 n1:=R.n1
 n2:=R.n2
 n3:=R.n3
 nf:=R.nf
 nt:=R.nt
 no:=R.no
 nd:=R.nd
 ca:=R.ca.fz E.fz
 tr:=Lq.fz (R:=gk) (λ F z=>z.fz F) E.fz (Θ (R.tr.get) λ _ h=>(E _ _ h).trans h.symm) R.tr
 to:=Lq.fz (R:=gu) (λ F z=>z.fz F) E.fz (Θ (R.to.get) λ _ h=>(E _ _ h).trans h.symm) R.to
 sk:=R.sk
theorem WR.push{a:Addr}{vs:List Value}{fr:Fm}(R:WR ν H W E0 as s)(E:Ext H H')(hn:H a=none)(ha:H' a=some (.κ false vs))(hv:gy ν H' vs fr):
  WR ν (ξ H' W.fa (.κ false (as.reverse.map .ref++[.ref a]))) W E0 (a::as) ⟨fr::s.fs,s.σ⟩/\Fz H' (ξ H' W.fa (.κ false (as.reverse.map .ref++[.ref a]))):=by
 have R':=R.ext E
 have F:Fz H' (ξ H' W.fa (.κ false (as.reverse.map .ref++[.ref a]))):=Fz.set R'.fa rfl
 have ne:∀{b:Addr}{o:AO},H b=some o->b≠a:=λ h z=>by rw[z,hn]at h;exact nN h
 have n1:=ne R.fa
 have n2:=let⟨_,h⟩:=R.tr.get;ne h
 have n3:=let⟨_,h⟩:=R.to.get;ne h
 have nc:∀{b:Addr},b≠a->b∉as->b∉a::as:=λ h k z=>(List.mem_cons.mp z).elim h k
 exact⟨{w:=F _ _ R'.w rfl,fa:=by rw[ah,List.reverse_cons,rQ];rfl,fr:=⟨⟨vs,by rw[Γ (cP n1)];exact ha,hv.fz F⟩,wj R'.fr F R.nf⟩,n1:=R.n1,n2:=R.n2,n3:=R.n3,nf:=nc n1 R.nf,nt:=nc n2 R.nt,no:=nc n3 R.no,nd:=List.nodup_cons.mpr ⟨λ z=>let⟨_,r⟩:=R.fr.aea a z;let⟨_,h⟩:=r.get;ne h rfl,R.nd⟩,ca:=R'.ca.fz F,tr:=R'.tr.y_ F (cP R.n1),to:=R'.to.za F (cP R.n2),sk:=R.sk},F⟩
theorem WR.pop{a:Addr}{fr:Fm}(R:WR ν H W E0 (a::as) ⟨fr::fs,σ⟩):
  WR ν (ξ H W.fa (.κ false (as.reverse.map .ref))) W E0 as ⟨fs,σ⟩/\Fz H (ξ H W.fa (.κ false (as.reverse.map .ref))):=by
 have F:Fz H (ξ H W.fa (.κ false (as.reverse.map .ref))):=Fz.set R.fa rfl
 have nf:=λ z=>R.nf (eA a z)
 exact⟨{w:=F _ _ R.w rfl,fa:=ah,fr:=wj R.fr.2 F nf,n1:=R.n1,n2:=R.n2,n3:=R.n3,nf:=nf,nt:=λ z=>R.nt (eA a z),no:=λ z=>R.no (eA a z),nd:=(List.nodup_cons.mp R.nd).2,ca:=R.ca.fz F,tr:=R.tr.y_ F (cP R.n1),to:=R.to.za F (cP R.n2),sk:=R.sk},F⟩
theorem WR.top{a:Addr}{fr fr':Fm}(R:WR ν H W E0 (a::as) ⟨fr::fs,σ⟩)(hv:gy ν H vs fr'):
  WR ν (ξ H a (.κ false vs)) W E0 (a::as) ⟨fr'::fs,σ⟩/\Fz H (ξ H a (.κ false vs)):=by
 refine Θ R.fr.1.get λ vs0 h0=>?_
 have F:Fz H (ξ H a (.κ false vs)):=Fz.set h0 rfl
 have ne:∀{b:Addr},b∉a::as->b≠a:=λ h z=>h (z▸eU)
 exact⟨{w:=F _ _ R.w rfl,fa:=by refine(Γ (ne R.nf))▸?_;exact R.fa,fr:=⟨⟨vs,ah,hv.fz F⟩,wj R.fr.2 F (List.nodup_cons.mp R.nd).1⟩,n1:=R.n1,n2:=R.n2,n3:=R.n3,nf:=R.nf,nt:=R.nt,no:=R.no,nd:=R.nd,ca:=R.ca.fz F,tr:=R.tr.y_ F (ne R.nt),to:=R.to.za F (ne R.no),sk:=R.sk},F⟩
theorem WR.look(R:WR ν H W E0 as s)(ht:H W.tr=some (.κ false vs))(hr:ak (gk H) vs s.σ.seen)(hv:gk H v p)(lI:gR p.2):
  WR ν (ξ H W.tr (.κ false (vs++[v]))) W E0 as ⟨s.fs,{s.σ with seen:=s.σ.seen++[p]}⟩/\Fz H (ξ H W.tr (.κ false (vs++[v]))):=by
 have F:Fz H (ξ H W.tr (.κ false (vs++[v]))):=Fz.set ht rfl
 exact⟨{w:=F _ _ R.w rfl,fa:=by refine(Γ R.n1)▸?_;exact R.fa,fr:=wj R.fr F R.nt,n1:=R.n1,n2:=R.n2,n3:=R.n3,nf:=R.nf,nt:=R.nt,no:=R.no,nd:=R.nd,ca:=R.ca.fz F,tr:=⟨_,ah,(hr.map λ _ _ z=>z.fz F).app (hv.fz F)⟩,to:=R.to.za F (cP R.n3),sk:=λ q hq=>(List.mem_append.mp hq).elim (R.sk q) λ z=>by rw[List.mem_singleton.mp z];exact lI},F⟩
theorem WR.tell(R:WR ν H W E0 as s)(ht:H W.to=some (.κ false vs))(hr:ak (gu H) vs s.σ.aj)(hv:gu H v p):
  WR ν (ξ H W.to (.κ false (vs++[v]))) W E0 as ⟨s.fs,{s.σ with aj:=s.σ.aj++[p]}⟩/\Fz H (ξ H W.to (.κ false (vs++[v]))):=by
 have F:Fz H (ξ H W.to (.κ false (vs++[v]))):=Fz.set ht rfl
 exact⟨{w:=F _ _ R.w rfl,fa:=by refine(Γ R.n2)▸?_;exact R.fa,fr:=wj R.fr F R.no,n1:=R.n1,n2:=R.n2,n3:=R.n3,nf:=R.nf,nt:=R.nt,no:=R.no,nd:=R.nd,ca:=R.ca.fz F,tr:=R.tr.y_ F R.n3,to:=⟨_,ah,(hr.map λ _ _ z=>z.fz F).app (hv.fz F)⟩,sk:=R.sk},F⟩
end
section
variable {k:Nat}{W:WA}
theorem WR.last(R:WR ν H W E0 (a::as) s):H W.fa=some (.κ false (as.reverse.map .ref++[.ref a])):=by
 have:=R.fa
 rw[List.reverse_cons,rQ]at this
 exact this
theorem aeb{α:Type}{n:Nat}{l:List α}{x:α}(h:l.length=n):(((l++[x]).length:Nat):Int)-1=(n:Int):=by
 rw[iK,h];show((n+1:Nat):Int)-1=n;rw[RX];exact Mm _ _
theorem RY{v a:Value}{y:Addr}{kind:Int}{kv:List Value}(R:WR ν H W E0 as s)(np:NP (some ν) H v y kind a kv)(hl:s.σ.aj.length<2 ^ 18)(hk:1<=k)
  (hq:∀H' w,Fz H H'->WR ν H' W E0 as ⟨s.fs,{s.σ with aj:=s.σ.aj++[ν y]}⟩->dY H' w (.aw (.o s.σ.aj.length))->Q w H'):μ g k (.ref 1561) [.ref W.w,v] H Q X:=by
 refine μ.en (fT 100 rfl) rfl hk λ c o _=>?_
 have hw:=R.w
 obtain⟨vs,h3,h4⟩:=R.to
 have vW:=h4.len
 have sX:vs.length<2 ^ 20:=vW▸aZ hl (by decide)
 ktf_call"g"
 ktf_call"T";intro H₁ b aJ hb
 have pG:=aJ _ _ h3
 ktf_call"g"
 refine ag ((R.ext aJ).tell pG (h4.map λ _ _ z=>z.fz aJ.fz) (v:=.ref b) (p:=ν y) ⟨b,rfl,hb⟩) λ R' F=>?_
 have q3:ξ H₁ W.to (.κ false (vs++[.ref b])) W.to=some (.κ false (vs++[.ref b])):=ah
 have vA:=R'.w
 generalize ξ H₁ W.to (.κ false (vs++[.ref b]))=H2 at R' F vA q3⊢
 clear hw h3 pG hb R
 ktf_call"g"
 refine μ.len_list q3 (by refine iK▸?_;exact aZ (ko sX) (hW rfl)) ?_
 ktf_call"g"
 refine(aeb vW)▸?_
 ktf_call"T";intro ω c3 bx hc
 ktf_call"g"
 ktf_call"T";intro ar e i_ he
 ktf_call"g"
 exact hq _ _ ((aJ.fz.trans F).trans (bx.trans i_).fz) (R'.ext (bx.trans i_)) (.aw e (.ref c3) rfl he ⟨⟨c3,rfl,i_ _ _ hc⟩,trivial⟩)
end
section
variable {st:List Value}
def Ta(g:Gv)(c:Cx)(H:AH)(m:Lc)(e:PE)(b:Bool):Prop:=∀(Q:bJ->Lc->AH->Prop) (X:Value->Lc->AH->Prop) (R:List Value->Lc->AH->Prop),R [.bool b] m H->M g c Q X [.t e,.kk R] [] m H
theorem Ta.t(h:Ta g c H m e b)(q:Q' b m H):Te g c e m H Q' X:=h (λ _ _ _=>True) X (λ st m H=>match st with| [.bool b]=>Q' b m H |_=>False) q
theorem mm.bp(h2:Ta g c H m r b2)(h:M g c Q X C (.bool (b1||b2)::st) m H):M g c Q X (.bor r::C) (.bool b1::st) m H:=by
 cases b1 with
 |true=>exact mm.o1 rfl h
 |false=>exact mm.o0 rfl (mm.te (h2.t h))
theorem mm.bq(h2:Ta g c H m r b2)(h:M g c Q X C (.bool (b1&&b2)::st) m H):M g c Q X (.oo r::C) (.bool b1::st) m H:=by
 cases b1 with
 |true=>exact mm.a1 rfl (mm.te (h2.t h))
 |false=>exact mm.a0 rfl h
end
section
variable {k:Nat}{W:WA}
structure Gives(ν:Addr->Int)(W:WA)(E0:Ev)(H:AH)(p:LS×Ot)(w:Value)(H':AH):Prop where
 fz:Fz H H'
 sg:dY H' w p.2
 wr:∃as,WR ν H' W E0 as p.1
theorem Gives.pre(F:Fz bE H)(h:Gives ν W E0 H p w H'):Gives ν W E0 bE p w H':=⟨F.trans h.fz,h.sg,h.wr⟩
theorem dY.dat(h:dY H v o):cT v=true:=by
 cases h with
 |χ a e h=>exact e▸rfl
 |ret a w e h r=>exact e▸rfl
 |brk a e h r=>exact e▸rfl
 |cnt a e h r=>exact e▸rfl
 |aw a w e h r=>exact e▸rfl
theorem aec{c:Option (Option Addr×List St)}{f:Option (List St)}{k0:Nat}{fv:Value}(h:cQ R fv f)(hn:∀b,R fv b->(fv==.none)=false):
  ((((k0:Int)==2)||fv==.none)=true/\lN c f k0 fs σ sig=(⟨fs,σ⟩,sig))\/((((k0:Int)==2)||fv==.none)=false/\∃b,f=some b/\lN c f k0 fs σ sig=(⟨.s [.bl b]::.t c f 2 sig::fs,σ⟩,.χ)):=by
 cases f with
 |none=>have e:fv=.none:=h;refine e.symm▸?_;exact .inl ⟨Bool.or_true _,rfl⟩
 |some b=>
  rw[hn b h,RZ]
  by_cases h2:k0=2
  ·refine h2.symm▸?_;exact .inl ⟨rfl,rfl⟩
  ·exact .inr ⟨beq_eq_false_iff_ne.mpr λ z=>h2 (IV z),b,rfl,if_neg h2⟩
theorem cQ.dat(h:cQ R v o)(k:∀b,R v b->cT v=true):cT v=true:=by
 cases o with
 |none=>have e:v=.none:=h;refine e.symm▸?_;rfl
 |some b=>exact k b h
theorem BR.ne(h:BR (some ν) H (SR (some ν) H n) v b):(v==.none)=false/\cT v=true:=by
 obtain⟨y,kv,np,_⟩:=h;exact⟨np.ne,by rw[np.ref];rfl⟩
theorem IW(R:WR ν H W E0 (a::as) ⟨.t c f k0 zb::fs,σ⟩)(hs:dY H j8 sig)(hl:fs.length<1000)(hk:1<=k)
  (hq:∀H' w,Gives ν W E0 H (lN c f k0 fs σ sig) w H'->Q w H'):μ g k (.ref 1590) [.ref W.w,j8] H Q X:=by
 refine μ.en (fT 105 rfl) rfl hk λ cx o _=>?_
 have hw:=R.w
 have cH:=R.last
 have dC:as.length<1000:=R.fr.2.len▸hl
 refine ag R.fr λ aed hr=>?_;obtain⟨vs,ha,hv⟩:=aed
 cases hv with|t x nv bv cv fv sv n L M e np sr rc rf w1 w2 k2=>?_
 subst e
 ktf_call"g"
 refine mm.bp (λ Q X R hR=>?_) (b2:=fv==.none) ?_
 ·ktf_call"g";exact hR
 rcases aec (c:=c) (k0:=k0) (fs:=fs) (σ:=σ) (sig:=sig) rf (λ b h=>h.ne.1)with ⟨e1,e2⟩|⟨e1,b,rfl,e2⟩
 ·rw[e1]
  rw[e2]at hq
  refine ag R.pop λ Rp Fp=>?_
  have cz:(as.reverse.map Value.ref).length<2 ^ 20:=by rw[gJ,wm];exact aZ dC (by decide)
  ktf_call"g"
  exact hq _ _ ⟨Fp,hs.fz Fp,as,Rp⟩
 ·rw[e1]
  rw[e2]at hq
  ktf_call"g"
  refine mm.si (dK.κ ha (by decide) (by decide) (hW rfl) ?_)
  ktf_call"g"
  refine mm.si (dK.κ ah (by decide) (by decide) (hW rfl) ?_)
  rw[l7]
  refine ag (R.top (vs:=[.str ⟨⟨[116]⟩⟩ 0,nv,.int 2 0,j8]) (fr':=.t c (some b) 2 sig) (.t x nv bv cv fv j8 n L M rfl np hs rc rf w1 w2 (bK 2))) λ R1 F1=>?_
  have R0:=BR.fz F1 rf
  show Mine.M _ _ _ _ _ _ _ (ξ H a (.κ false [.str ⟨⟨[116]⟩⟩ 0,nv,.int 2 0,j8]))
  generalize ξ H a (.κ false [.str ⟨⟨[116]⟩⟩ 0,nv,.int 2 0,j8])=H1 at R1 F1 R0⊢
  clear ha R np sr rc rf hs hr hw cH
  have hw:=R1.w
  have cH:=R1.fa
  ktf_call"g"
  ktf_call"lf"
  ktf_call"lt"
  ktf_call"T";intro H2 b1 E2 _ cN
  ktf_call"g"
  ktf_call"T";intro H3 b2 E3 IX fp
  have E:=E2.trans E3
  have IY:=E _ _ cH
  have cz:((a::as).reverse.map Value.ref).length<2 ^ 20:=by rw[gJ,wm];exact aZ (ko dC) (by decide)
  ktf_call"g"
  refine ag (R1.push E (E2.none IX) fp (fr:=.s [.bl b]) (.s b1 [fv] 0 rfl (E3 _ _ cN) ⟨.bl n L M (R0.fz E.fz) (w2 b rfl),trivial⟩ (gj _) (eV rfl))) λ R2 F2=>?_
  generalize ξ H3 W.fa (.κ false ((a::as).reverse.map .ref++[.ref b2]))=H4 at R2 F2⊢
  ktf_call"g"
  ktf_call"T";intro H5 b3 E5 eL
  ktf_call"g"
  exact hq _ _ ⟨((F1.trans E.fz).trans F2).trans E5.fz,.χ b3 rfl eL,_,R2.ext E5⟩
end
section
variable {k:Nat}{W:WA}{as:List Addr}
theorem WR.aee{a b1 b2:Addr}{f1 f2 fr fr':Fm}(R:WR ν H W E0 (b2::b1::a::as) ⟨f2::f1::fr::fs,σ⟩)(hv:gy ν H vs fr'):
  WR ν (ξ H a (.κ false vs)) W E0 (b2::b1::a::as) ⟨f2::f1::fr'::fs,σ⟩/\Fz H (ξ H a (.κ false vs)):=by
 refine Θ R.fr.2.2.1.get λ vs0 h0=>?_
 have F:Fz H (ξ H a (.κ false vs)):=Fz.set h0 rfl
 have d2:=List.nodup_cons.mp R.nd
 have d1:=List.nodup_cons.mp d2.2
 have ne:∀{b:Addr}{l:List Addr},b∉l->a∈l->b≠a:=λ h m z=>h (z▸m)
 have m1:a∈a::as:=eU
 have m2:a∈b1::a::as:=eA _ m1
 have m3:a∈b2::b1::a::as:=eA _ m2
 exact⟨{w:=F _ _ R.w rfl,fa:=by refine(Γ (ne R.nf m3))▸?_;exact R.fa,fr:=⟨R.fr.1.fz F (Γ (ne d2.1 m2)),R.fr.2.1.fz F (Γ (ne d1.1 m1)),⟨vs,ah,hv.fz F⟩,wj R.fr.2.2.2 F (List.nodup_cons.mp d1.2).1⟩,n1:=R.n1,n2:=R.n2,n3:=R.n3,nf:=R.nf,nt:=R.nt,no:=R.no,nd:=R.nd,ca:=R.ca.fz F,tr:=R.tr.y_ F (ne R.nt m3),to:=R.to.za F (ne R.no m3),sk:=R.sk},F⟩
theorem R9{α β:Type}{S:α->β->Prop}{l:List α}(h:ak S (l.drop i) ([]:List β))(k:i<=l.length):i=l.length:=by
 have e:=h.len
 rw[x7]at e
 exact x9 k (acC e)
inductive R_{α β:Type}(S:α->β->Prop)(l:List α)(i:Nat)(b:β)(r:List β):Prop
 |mk (x:α) (hi:i<l.length) (e:l[i]?=some x) (hx:S x b) (hr:ak S (l.drop (i+1)) r):R_ S l i b r
theorem drop_cons{α β:Type}{S:α->β->Prop}{l:List α}{i:Nat}{b:β}{r:List β}(h:ak S (l.drop i) (b::r)):R_ S l i b r:=by
 have e:=h.len
 have hi:i<l.length:=by
  rcases yM i l.length with q |q
  ·exact q
  ·rw[List.drop_eq_nil_of_le q]at e;cases e
 rw[QM hi]at h
 exact⟨l[i],hi,lr hi,h.1,h.2⟩
theorem nj(h:as.length<1000):(as.reverse.map Value.ref).length<2 ^ 20:=by rw[gJ,wm];exact aZ h (by decide)
theorem Sa{l:List Value}(h:l.length<=100):l.length<2 ^ 60:=cI h (by decide)
theorem IZ{i n:Nat}(h:i<n)(k:n<=100):(i:Int)<2 ^ 63:=Int.ofNat_lt.mpr (jI h (Ψ k (by decide)))
theorem Sd{a:Addr}{nn:Addr}{b:List St}{us:List SV}{fs:List Fm}{σ:Sg}(R:WR ν H W E0 (a::as) ⟨.f nn b us::fs,σ⟩)(hl:fs.length<900)(cz:σ.seen.length<2 ^ 18)(hk:1<=k)
  (hq:∀H' w,Gives ν W E0 H (pS ν nn b fs σ us) w H'->Q w H'):μ g k (.ref 1583) [.ref W.w] H Q X:=by
 refine μ.en (fT 104 rfl) rfl hk λ c o _=>?_
 have hw:=R.w
 have cH:=R.last
 have dC:as.length<900:=R.fr.2.len▸hl
 have lp:=nj (as:=as) (aZ dC (by decide))
 refine ag R.fr λ aef hr=>?_;obtain⟨vs,ha,hv⟩:=aef
 cases hv with|f v x kind hv rv bv hx dv dx nv il iv n L M i e np h3 rb w h r h1 h2=>?_
 subst e
 ktf_call"g"
 refine μ.len_list h (Sa h2) ?_
 ktf_call"g"
 cases us with
 |nil=>
  refine mm.i1 (by refine(R9 r h1)▸?_;exact beq_self_eq_true _) ?_
  refine ag R.pop λ Rp Fp=>?_
  ktf_call"g"
  ktf_call"T";intro H1 b3 E1 eL
  ktf_call"g"
  exact hq _ _ ⟨Fp.trans E1.fz,.χ b3 rfl eL,_,Rp.ext E1⟩
 |cons u us=>
  obtain⟨uv,hi,oL,hu,tj⟩:=drop_cons r
  refine mm.i0 (beq_eq_false_iff_ne.mpr λ z=>gc hi (IV z)) ?_
  have zc:=IZ hi h2
  obtain⟨ts,gS,gz⟩:=R.tr
  have jx:ts.length<2 ^ 20:=gz.len▸aZ cz (by decide)
  have n1:=h3.a
  have n2:=h3.b
  have n3:=h3.c
  ktf_call"g"
  refine mm.sg (cq.list h (oF i) zc oL ?_)
  ktf_call"g"
  ktf_call"T";intro H1 b0 E1 pU
  have zd:=E1 _ _ gS
  ktf_call"g"
  refine ag ((R.ext E1).look zd (gz.map λ _ _ z=>z.fz E1.fz) (v:=.ref b0) (p:=(ν nn,u)) ⟨b0,uv,rfl,pU,hu.r.fz E1.fz⟩ hu.ok) λ R2 F2=>?_
  have fu:=E1.fz.trans F2
  replace R2:WR ν _ W E0 (a::as) ⟨.f nn b (u::us)::fs,⟨σ.seen++[(ν nn,u)],σ.aj⟩⟩:=R2
  generalize ξ H1 W.tr (.κ false (ts++[.ref b0]))=H2 at R2 F2 fu⊢
  clear gS zd gz pU E1 F2 np h3 n1 n2 n3 rb r h hu tj ha hr hw cH R
  have hw:=R2.w
  have cH:=R2.fa
  obtain⟨vs,ha,hv⟩:=R2.fr.1
  cases hv with|f v x kind hv rv bv hx dv dx nv il iv n L M i e np h3 rb w h r h1 h2=>?_
  subst e
  obtain⟨uv,hi,oL,hu,tj⟩:=drop_cons r
  have zc:=IZ hi h2
  have lp1:=nj (as:=a::as) (aZ (ko dC) (by decide))
  ktf_call"g"
  ktf_call"lf"
  refine mm.sg (cq.list h (oF i) zc oL ?_)
  have hud:=hu.dat
  ktf_call"g"
  ktf_call"T";intro H3 b1 E3 tm cN
  have IY:=E3 _ _ cH
  ktf_call"g"
  refine ag (R2.push E3 tm cN (fr:=.x u) (.x uv rfl (hu.fz E3.fz))) λ R4 F4=>?_
  have gP:=fu.trans (E3.fz.trans F4)
  generalize ξ H3 W.fa (.κ false ((a::as).reverse.map .ref++[.ref b1]))=H4 at R4 F4 gP⊢
  clear cN tm IY E3 F4 fu np h3 rb r h hu tj ha hw cH R2
  have hw:=R4.w
  have cH:=R4.fa
  obtain⟨vs,ha,hv⟩:=R4.fr.2.1
  cases hv with|f v x kind hv rv bv hx dv dx nv il iv n L M i e np h3 rb w h r h1 h2=>?_
  subst e
  have lp2:=nj (as:=b1::a::as) (aZ (ko (ko dC)) (by decide))
  ktf_call"g"
  ktf_call"lf"
  have wo:=rb.ne.2
  ktf_call"lt"
  ktf_call"T";intro H5 b2 E5 _ fp
  ktf_call"g"
  ktf_call"T";intro H6 b3 E6 Se eL
  have zg:=E5.trans E6
  have aeg:=zg _ _ cH
  ktf_call"g"
  refine ag (R4.push zg (E5.none Se) eL (fr:=.s [.bl b]) (.s b2 [bv] 0 rfl (E6 _ _ fp) ⟨.bl n L M (rb.fz zg.fz) w,trivial⟩ (gj _) (eV rfl))) λ R7 F7=>?_
  have mv:=gP.trans (zg.fz.trans F7)
  generalize ξ H6 W.fa (.κ false ((b1::a::as).reverse.map .ref++[.ref b3]))=H7 at R7 F7 mv⊢
  clear fp Se eL aeg E5 E6 zg F7 gP np h3 rb r h ha hw cH R4 wo
  obtain⟨vs,ha,hv⟩:=R7.fr.2.2.1
  cases hv with|f v x kind hv rv bv hx dv dx nv il iv n L M i e np h3 rb w h r h1 h2=>?_
  subst e
  obtain⟨uv,hi,oL,hu,tj⟩:=drop_cons r
  ktf_call"g"
  refine mm.O_ (cq.list (i:=2) ha (by decide) (by decide) rfl ?_)
  ktf_call"g"
  refine mm.sj (dK.κ (i:=2) ha (by decide) (by decide) (hW rfl) ?_)
  refine ag (R7.aee (vs:=[.str ⟨⟨[102]⟩⟩ 0,v,.int ((i+1:Nat):Int) 0,.ref il]) (fr':=.f nn b us) (.f v x kind hv rv bv hx dv dx nv il iv n L M (i+1) rfl np h3 rb w h tj hi h2)) λ R8 F8=>?_
  show Mine.M _ _ _ _ _ _ _ (ξ H7 a (.κ false [.str ⟨⟨[102]⟩⟩ 0,v,.int ((i+1:Nat):Int) 0,.ref il]))
  generalize ξ H7 a (.κ false [.str ⟨⟨[102]⟩⟩ 0,v,.int ((i+1:Nat):Int) 0,.ref il])=H8 at R8 F8⊢
  ktf_call"g"
  ktf_call"T";intro H9 b4 E9 oM
  ktf_call"g"
  exact hq _ _ ⟨(mv.trans F8).trans E9.fz,.χ b4 rfl oM,_,R8.ext E9⟩
end
section
variable {k:Nat}{W:WA}
noncomputable def Fm.tag:Fm->Str
 | .l _=>⟨⟨[108]⟩⟩| .s _=>⟨⟨[115]⟩⟩| .t _ _ _ _=>⟨⟨[116]⟩⟩| .d=>⟨⟨[100]⟩⟩| .f _ _ _=>⟨⟨[102]⟩⟩| .w=>⟨⟨[119]⟩⟩| .x _=>bC | .e _=>gf
theorem gy.tag(h:gy ν H vs fr):ix vs 0=some (.str fr.tag 0):=by
 cases h with
 |l e ok=>exact e▸rfl
 |s kl kv i e h r h1 h2=>exact e▸rfl
 |t x nv bv cv fv sv n L M e np sr rc rf w1 w2 k2=>exact e▸rfl
 |d x e=>exact e▸rfl
 |f v x kind hv rv bv hx dv dx nv il iv n L M i e np h3 rb w h r h1 h2=>exact e▸rfl
 |w e=>exact e▸rfl
 |x w e r=>exact e▸rfl
 |e w e r=>exact e▸rfl
inductive B1(ν:Addr->Int)(fs:List Fm)(σ:Sg):Fm->Prop
 |t (c:Option (Option Addr×List St)) (f:Option (List St)) (k:Nat) (sg:Ot):B1 ν fs σ (.t c f k sg)
 |f (nn:Addr) (b:List St) (us:List SV):B1 ν fs σ (.f nn b us)
 |o {fr:Fm} (h1:(fr.tag.cps.toList==[116])=false) (h2:(fr.tag.cps.toList==[102])=false) (h3:lO ν fs σ fr=(⟨fs,σ⟩,.χ)):B1 ν fs σ fr
theorem dnK(ν:Addr->Int)(fs:List Fm)(σ:Sg)(fr:Fm):B1 ν fs σ fr:=by
 cases fr with
 |t c f k sg=>exact .t c f k sg
 |f n b us=>exact .f n b us
 |l x=>exact .o rfl rfl rfl
 |s i=>exact .o rfl rfl rfl
 |d=>exact .o rfl rfl rfl
 |w=>exact .o rfl rfl rfl
 |x u=>exact .o rfl rfl rfl
 |e u=>exact .o rfl rfl rfl
theorem Sf(R:WR ν H W E0 (a::as) ⟨top::fs,σ⟩)(hl:fs.length<900)(cz:σ.seen.length<2 ^ 18)(hk:2<=k)
  (hq:∀H' w,Gives ν W E0 H (lO ν fs σ top) w H'->Q w H'):μ g k (.ref 1597) [.ref W.w] H Q X:=by
 refine μ.en (fT 106 rfl) rfl hk λ c o _=>?_
 have hw:=R.w
 have cH:=R.last
 have dC:as.length<900:=R.fr.2.len▸hl
 have dW:fs.length<1000:=aZ hl (by decide)
 obtain⟨vs,ha,hv⟩:=R.fr.1
 cases dnK ν fs σ top with
 |t cc f k0 sg=>
  cases hv with|t x nv bv cv fv sv n L M e np sr rc rf w1 w2 k2=>?_
  subst e
  have hsd:=sr.dat
  ktf_call"g"
  by_cases h2:k0=2
  ·subst h2
   ktf_call"g"
   refine IW R sr dW (by ktf_call"k") λ H' w G=>?_
   ktf_call"g"
   exact hq _ _ G
  ·refine mm.e0 (beq_eq_false_iff_ne.mpr λ z=>h2 (IV z)) ?_
   ktf_call"g"
   ktf_call"T";intro H1 b E1 hb;ktf_call"g"
   refine IW (R.ext E1) (sig:=.χ) (.χ b rfl hb) dW (by ktf_call"k") λ H' w G=>?_
   ktf_call"g"
   refine hq _ _ ?_
   show Gives ν W E0 H (lN cc f k0 fs σ (if k0=2 then sg else .χ)) w H'
   exact(if_neg h2)▸(G.pre E1.fz)
 |f nn b us=>
  cases hv with|f v x kind hv rv bv hx dv dx nv il iv n L M i e np h3 rb w h r h1 h2=>?_
  subst e
  ktf_call"g"
  refine Sd R hl cz (by ktf_call"k") λ H' w G=>?_
  ktf_call"g"
  exact hq _ _ G
 |o k1 k2 k3=>
  rw[k3]at hq
  have tg:=hv.tag
  have lp:=nj (as:=as) (aZ dC (by decide))
  refine ag R.pop λ Rp Fp=>?_
  ktf_call"g"
  refine mm.sl ha tg ?_
  ktf_call"g"
  refine mm.i0 k1 ?_
  ktf_call"g"
  refine mm.sl ha tg ?_
  ktf_call"g"
  refine mm.i0 k2 ?_
  ktf_call"g"
  ktf_call"T";intro H1 b E1 hb;ktf_call"g"
  exact hq _ _ ⟨Fp.trans E1.fz,.χ b rfl hb,_,Rp.ext E1⟩
end
section
variable {k:Nat}{W:WA}{s:LS}
theorem mm.ps{c:Cx}{e:PE}{m:Lc}{D:List It}{v:Value}{it:Wi}{n:Nat}{Q:bJ->Lc->AH->Prop}{X:Value->Lc->AH->Prop}(o:Fc c n)(R:WR ν H W E0 as s)(hl:as.length<1000)(he:Va g c H m e v)(hit:fN ν H v it)(hd:cT v=true)
  (h:∀H' b,Fz H H'->WR ν H' W E0 (b::as) ⟨.s [it]::s.fs,s.σ⟩->M g c Q X D [] m H'):
  M g c Q X (.v (.κ [.str ⟨⟨[115]⟩⟩,.κ [e],.int 0,.az])::.arg [] [.ref W.fa] (.call (.builtin "list.append"))::.pop::D) [] m H:=by
 have lp:=nj hl
 ktf_call"lf"
 refine mm.ls true ?_
 refine mm.aP o 1 rfl ?_
 refine(he.v ?_:V g c e m H (λ v m' H'=>M g c Q X _ (v::_) m' H') X)
 ktf_call"g"
 ktf_call"T";intro H1 b1 E1 _ cN
 ktf_call"g"
 ktf_call"T";intro H2 b2 E2 IX fp
 have E:=E1.trans E2
 have cH:=E _ _ R.fa
 ktf_call"g"
 refine ag (R.push E (E1.none IX) fp (fr:=.s [it]) (.s b1 [v] 0 rfl (E2 _ _ cN) ⟨hit.fz E.fz,trivial⟩ (gj _) (eV rfl))) λ R2 F2=>?_
 exact h _ _ (E.fz.trans F2) R2
theorem aeh{a:Addr}{c:Option Addr×List St}{f:Option (List St)}{k0:Nat}{zb:Ot}{u:SV}(R:WR ν H W E0 (a::as) ⟨.t (some c) f k0 zb::fs,σ⟩)(hs:dY H j8 (.aw u))(hl:fs.length<900)(cz:σ.seen.length<2 ^ 18)(hk:1<=k)
  (hq:∀H' w,Gives ν W E0 H (RU ν c f zb u fs σ) w H'->Q w H'):μ g k (.ref 1604) [.ref W.w,j8] H Q X:=by
 refine μ.en (fT 107 rfl) rfl hk λ cc o _=>?_
 have hw:=R.w
 have cH:=R.last
 have dC:as.length<900:=R.fr.2.len▸hl
 obtain⟨vs,ha,hv⟩:=R.fr.1
 cases hv with|t x nv bv cv fv sv n L M e np sr rc rf w1 w2 k2=>?_
 subst e
 obtain⟨cx,Si,cbv,pJ,hn,hb⟩:=id (rc:CR (some ν) H (SR (some ν) H n) cv c)
 have pI:cT cv=true:=by exact pJ.ref▸rfl
 ktf_call"g"
 refine mm.si (dK.κ ha (by decide) (by decide) (hW rfl) ?_)
 refine ag (R.top (vs:=[.str ⟨⟨[116]⟩⟩ 0,nv,.int 1 0,sv]) (fr':=.t (some c) f 1 zb) (.t x nv bv cv fv sv n L M rfl np sr rc rf w1 w2 (by decide))) λ R1 F1=>?_
 show Mine.M _ _ _ _ _ _ _ (ξ H a (.κ false [.str ⟨⟨[116]⟩⟩ 0,nv,.int 1 0,sv]))
 have I2:=pJ.fz F1
 have B2:=hn.map λ _ _ (z:NP (some ν) H _ _ 8 (.str gf 0) [])=>z.fz F1
 have cN:=BR.fz F1 hb
 have Sj:=hs.fz F1
 generalize ξ H a (.κ false [.str ⟨⟨[116]⟩⟩ 0,nv,.int 1 0,sv])=H1 at R1 F1 I2 B2 cN Sj⊢
 clear R hw cH ha np pJ hn hb hs sr rc rf w2
 have hw:=R1.w
 ktf_call"g"
 have wo:=cN.ne.2
 obtain⟨c1,c2⟩:=c
 cases c1 with
 |none=>
  have e0:Si=.none:=B2
  refine e0.symm▸?_
  have cH:=R1.fa
  ktf_call"g"
  refine mm.ps (e:=.sub (.π (.θ 304) 3) (.int 1)) (v:=cbv) (it:=.bl c2) o R1 (jI (ko dC) (by decide)) (λ Q X R hR=>?_) (.bl n L M cN (w1 _ rfl)) wo λ H2 b F2 R2=>?_
  ·ktf_call"g";exact hR
  ktf_call"g"
  ktf_call"T";intro H3 b4 E3 oM;ktf_call"g"
  exact hq _ _ ⟨(F1.trans F2).trans E3.fz,.χ b4 rfl oM,_,R2.ext E3⟩
 |some y=>
  have Sk:NP (some ν) H1 Si y 8 (.str gf 0) []:=B2
  refine mm.i1 (by exact Sk.ne▸rfl) ?_
  cases Sj with|aw sa uw es oN hu=>?_
  refine es.symm▸?_
  obtain⟨ts,gS,gz⟩:=R1.tr
  have jx:ts.length<2 ^ 20:=gz.len▸aZ cz (by decide)
  ktf_call"g"
  ktf_call"T";intro H2 b0 E2 pU
  have zd:=E2 _ _ gS
  ktf_call"g"
  refine ag ((R1.ext E2).look zd (gz.map λ _ _ z=>z.fz E2.fz) (v:=.ref b0) (p:=(ν y,u)) ⟨b0,uw,rfl,pU,hu.r.fz E2.fz⟩ hu.ok) λ R3 F3=>?_
  replace R3:WR ν _ W E0 (a::as) ⟨.t (some (some y,c2)) f 1 zb::fs,⟨σ.seen++[(ν y,u)],σ.aj⟩⟩:=R3
  have wq:=E2.fz.trans F3
  have I6:=I2.fz wq
  have fp:=BR.fz wq cN
  have I7:=hu.fz wq
  have I8:=wq _ _ oN rfl
  have FA:=F1.trans wq
  generalize ξ H2 W.tr (.κ false (ts++[.ref b0]))=H3 at R3 I6 fp I7 I8 FA⊢
  clear gS zd gz pU E2 F3 wq I2 B2 cN Sk oN hu hw R1 F1
  have hw:=R3.w
  have cH:=R3.fa
  have lp:=nj (as:=a::as) (jI (ko dC) (by decide))
  ktf_call"g"
  ktf_call"lf"
  ktf_call"T";intro H4 b1 E4 tm cN
  have I9:=E4 _ _ cH
  ktf_call"g"
  refine ag (R3.push E4 tm cN (fr:=.e u) (.e uw rfl (I7.fz E4.fz))) λ R5 F5=>?_
  have B3:=E4.fz.trans F5
  have aei:=I6.fz B3
  have B4:=BR.fz B3 fp
  have FB:=FA.trans B3
  generalize ξ H4 W.fa (.κ false ((a::as).reverse.map .ref++[.ref b1]))=H5 at R5 aei B4 FB⊢
  clear I9 cN tm E4 F5 B3 I6 fp I7 I8 FA hw cH R3
  have hw:=R5.w
  have cH:=R5.fa
  ktf_call"g"
  refine mm.ps (e:=.sub (.π (.θ 304) 3) (.int 1)) (v:=cbv) (it:=.bl c2) o R5 (jI (ko (ko dC)) (by decide)) (λ Q X R hR=>?_) (.bl n L M B4 (w1 _ rfl)) wo λ H6 b F6 R6=>?_
  ·ktf_call"g";exact hR
  ktf_call"g"
  ktf_call"T";intro H7 b4 E7 oM;ktf_call"g"
  exact hq _ _ ⟨(FB.trans F6).trans E7.fz,.χ b4 rfl oM,_,R6.ext E7⟩
end
section
variable {k:Nat}{W:WA}{as:List Addr}
noncomputable def Fm.ow:Fm->Bool
 | .d=>true | .f _ _ _=>true | .w=>true |_=>false
inductive Sl(vs:List Value)(fr:Fm):Prop
 |mk (x1 x2 x3:Value) (e:vs=[.str fr.tag 0,x1,x2,x3]) (d1:cT x1=true) (d2:cT x2=true) (d3:cT x3=true) (l:∀x,fr=.l x->x1=.str x 0/\bF x):Sl vs fr
theorem gy.kd(h:gy ν H vs fr):Sl vs fr:=by
 cases h with
 |l e ok=>exact⟨_,_,_,e,rfl,rfl,rfl,λ _ h=>by injection h with ze;subst ze;exact⟨rfl,ok⟩⟩
 |s kl kv i e h r h1 h2=>exact⟨_,_,_,e,rfl,rfl,rfl,λ _ h=>nomatch h⟩
 |t x nv bv cv fv sv n L M e np sr rc rf w1 w2 k2=>exact⟨_,_,_,e,by rw[np.ref];rfl,rfl,sr.dat,λ _ h=>nomatch h⟩
 |d x e=>exact⟨_,_,_,e,rfl,rfl,rfl,λ _ h=>nomatch h⟩
 |f v x kind hv rv bv hx dv dx nv il iv n L M i e np h3 rb w h r h1 h2=>exact⟨_,_,_,e,by rw[np.ref];rfl,rfl,rfl,λ _ h=>nomatch h⟩
 |w e=>exact⟨_,_,_,e,rfl,rfl,rfl,λ _ h=>nomatch h⟩
 |x w e r=>exact⟨_,_,_,e,rfl,rfl,r.dat,λ _ h=>nomatch h⟩
 |e w e r=>exact⟨_,_,_,e,rfl,rfl,r.dat,λ _ h=>nomatch h⟩
noncomputable def S3:List PyData:=[.str ⟨⟨[102]⟩⟩,.str ⟨⟨[100]⟩⟩,.str ⟨⟨[119]⟩⟩]
noncomputable def S2:List PyData:=[.str ⟨⟨[102]⟩⟩,.str ⟨⟨[100]⟩⟩]
theorem aej{fr:Fm}:(S3.any λ y=>eW y (.str fr.tag))=fr.ow:=by cases fr <;> kernel_rfl
theorem aek{fr:Fm}:(S2.any λ y=>eW y (.str fr.tag))=fr.lp:=by cases fr <;> kernel_rfl
theorem zh{fr:Fm}:(PyData.str fr.tag).canLay0=true:=by cases fr <;> kernel_rfl
theorem Sm{fr:Fm}:(fr.tag.cps.toList==[108])=true↔∃x,fr=.l x:=by
 cases fr <;> first |exact⟨λ _=>⟨_,rfl⟩,λ _=>rfl⟩|exact⟨λ h=>nF h,λ ael=>Θ ael λ _ h=>nomatch h⟩
theorem aem{fr:Fm}(h:∀c f k sg,fr≠.t c f k sg):(fr.tag.cps.toList==[116])=false:=by
 cases fr <;> first |rfl |exact absurd rfl (h _ _ _ _)
theorem aen{c:Cx}{m:Lc}{Q:Value->Lc->AH->Prop}{X:Value->Lc->AH->Prop}{fr:Fm}(ht:H t=some (.φ [.str ⟨⟨[102]⟩⟩ 0,.str ⟨⟨[100]⟩⟩ 0,.str ⟨⟨[119]⟩⟩ 0]))(q:Q (.bool fr.ow) m H):Ω g c (cJ .In) (.str fr.tag 0) (.ref t) m H Q X:=
 Ω.int (xs:=S3) (d:=.str fr.tag) (by exact⟨t,_,rfl,ht,rfl,rfl,rfl,trivial⟩) rfl (by decide +kernel) zh pK (by rw[aej];exact q)
theorem So{c:Cx}{m:Lc}{Q:Value->Lc->AH->Prop}{X:Value->Lc->AH->Prop}{fr:Fm}(ht:H t=some (.φ [.str ⟨⟨[102]⟩⟩ 0,.str ⟨⟨[100]⟩⟩ 0]))(q:Q (.bool fr.lp) m H):Ω g c (cJ .In) (.str fr.tag 0) (.ref t) m H Q X:=
 Ω.int (xs:=S2) (d:=.str fr.tag) (by exact⟨t,_,rfl,ht,rfl,rfl,trivial⟩) rfl (by decide +kernel) zh pK (by rw[aek];exact q)
theorem I_{c:Cx}{m:Lc}{Q:Value->Lc->AH->Prop}{X:Value->Lc->AH->Prop}(h:H a=some (.κ z (L.map sv)))(h1:bF l)(h2:∀x∈L,bF x)(q:Q (.bool (bB l L)) m H):Ω g c (cJ .In) (.str l 0) (.ref a) m H Q X:=
 Ω.inl (xs:=L.map .str) (d:=.str l) ⟨a,z,_,rfl,h,vN H L⟩ rfl (vO h2) h1 pK (by rw[HR];exact q)
theorem Sq:∀{i:Nat},i<(fy fs).length->∃x,fs[i]?=some (.l x)/\(fy fs)[i]?=some x:=by
 induction fs with
 |nil=>intro i h;cases h
 |cons fr r ih=>
  intro i h
  cases fr with
  |l x=>
   cases i with
   |zero=>exact⟨x,rfl,rfl⟩
   |succ i=>exact ih (aft h)
  |_=>cases h
theorem aeo:∀x,fs[(fy fs).length]?≠some (.l x):=by
 induction fs with
 |nil=>intro x h;cases h
 |cons fr r ih=>
  intro x
  cases fr with
  |l y=>exact ih x
  |_=>intro h;cases h
theorem Sr:(fy fs).length<=fs.length:=by
 induction fs with
 |nil=>exact bK _
 |cons fr r ih=>
  cases fr with
  |l y=>exact kC ih
  |_=>exact gj _
theorem ak.get{α β:Type}{R:α->β->Prop}{l:List α}{m:List β}{i:Nat}{b:β}(h:ak R l m):m[i]?=some b->∃a,l[i]?=some a/\R a b:=
 ak.ind (R:=R) (P:=λ l m=>∀i,m[i]?=some b->∃a,l[i]?=some a/\R a b) (λ _ e=>nN e) (λ a _ _ _ h _ t i=>by
  cases i with
  |zero=>exact λ e=>⟨a,rfl,bY e▸h⟩
  |succ i=>exact t i) h i
theorem Ja{n i:Nat}(h:i<n):(n:Int)-1-i=((n-1-i:Nat):Int):=by rw[GO,Nat.sub_sub];exact(Int.ofNat_sub (mu 1 i▸h)).symm
theorem cq.ip{c:Cx}{m:Lc}{Q:Value->Lc->AH->Prop}{X:Value->Lc->AH->Prop}{a b:Addr}(cH:H W.fa=some (.κ false (as.reverse.map Value.ref++[.ref a])))(hl:as.length<1000)(hg:(as.reverse.map Value.ref++[.ref a])[as.length-1-i]?=some (.ref b))(hi:i<as.length)(hp:p=(as.length:Int)-1-i)(q:Q (.ref b) m H):
  cq g c (.ref W.fa) (.int p 0) m H Q X:=by
 rw[hp,Ja hi]
 exact cq.list cH (oF _) (Int.ofNat_lt.mpr (cI (Ψ (AS _ _) (AS _ _)) (aZ hl (by decide)))) hg q
theorem Jb(h:as[i]?=some b):(as.reverse.map Value.ref++[.ref a])[as.length-1-i]?=some (.ref b):=by
 have hi:i<as.length:=by
  rcases yM i as.length with h1 |h1
  ·exact h1
  ·rw[aaU h1]at h;exact nN h
 have hl:as.length-1-i<as.length:=cI (AS _ _) (Nat.sub_lt (Nat.zero_lt_of_lt hi) QS)
 rw[Pt (by rw[gJ,wm];exact hl),iB,adw hl]
 have:as.length-1-(as.length-1-i)=i:=Nat.sub_sub_self (Nat.le_sub_one_of_lt hi)
 rw[this,h];rfl
end
section
variable {g:Gv}{H:AH}{k:Nat}{Q:Value->AH->Prop}{X:Value->AH->Prop}{ν:Addr->Int}{W:WA}{E0:Ev}{as:List Addr}{s:LS}
noncomputable def Ot.sk:Ot->Str
 | .ret _=>BV | .aw _=>yX | .brk _=>⟨⟨[98,114,101,97,107]⟩⟩| .cnt _=>⟨⟨[99,111,110,116,105,110,117,101]⟩⟩| .χ=>s_
inductive Ss(H:AH)(v:Value)(o:Ot):Prop
 |mk (a:Addr) (jS:Value) (e:v=.ref a) (h:H a=some (.φ [.str o.sk 0,jS])) (l:∀l,o=.brk l\/o=.cnt l->jS=.str l 0/\bF l):Ss H v o
theorem dY.kd(h:dY H v o)(hn:o≠.χ):Ss H v o:=by
 cases h with
 |χ a e h=>exact absurd rfl hn
 |ret a w e h r=>exact⟨a,w,e,h,λ _ z=>z.elim (λ z=>nomatch z) λ z=>nomatch z⟩
 |brk a e h r=>exact⟨a,_,e,h,λ _ z=>z.elim (λ z=>by cases z;exact⟨rfl,r⟩) λ z=>nomatch z⟩
 |cnt a e h r=>exact⟨a,_,e,h,λ _ z=>z.elim (λ z=>nomatch z) λ z=>by cases z;exact⟨rfl,r⟩⟩
 |aw a w e h r=>exact⟨a,w,e,h,λ _ z=>z.elim (λ z=>nomatch z) λ z=>nomatch z⟩
inductive Jc(ν:Addr->Int)(fs:List Fm)(σ:Sg)(sig:Ot)(c:Option (Option Addr×List St))(f:Option (List St))(k0:Nat)(sg:Ot)(b:Bool):Prop
 |c (u:SV) (c':Option Addr×List St) (e1:sig=.aw u) (e2:k0=0) (e3:c=some c') (hb:b=true):Jc ν fs σ sig c f k0 sg b
 |n (hb:b=false) (e:ti ν fs σ sig (.t c f k0 sg)=lN c f k0 fs σ sig):Jc ν fs σ sig c f k0 sg b
theorem aep{fs:List Fm}{σ:Sg}{sig:Ot}{c:Option (Option Addr×List St)}{f:Option (List St)}{k0:Nat}{sg:Ot}{b3:Bool}(hc:b3=c.isSome):Jc ν fs σ sig c f k0 sg (((sig.sk.cps.toList==yX.cps.toList)&&((k0:Int)==0))&&b3):=by
 subst hc
 cases sig with
 |aw u=>cases k0 with
  |zero=>cases c with
   |none=>exact .n rfl rfl
   |some c=>exact .c u c rfl rfl rfl rfl
  |succ j=>exact .n (by rw[show(((j+1:Nat):Int)==0)=false from rfl,FG,Bool.false_and]) rfl
 |χ=>exact .n rfl rfl
 |ret u=>exact .n rfl rfl
 |brk l=>exact .n rfl rfl
 |cnt l=>exact .n rfl rfl
theorem aeq{a:Addr}{c:Option (Option Addr×List St)}{f:Option (List St)}{k0:Nat}{sg sig:Ot}{fs:List Fm}{σ:Sg}{j8:Value}(R:WR ν H W E0 (a::as) ⟨.t c f k0 sg::fs,σ⟩)(hs:dY H j8 sig)(hn:sig≠.χ)(hl:fs.length<900)(cz:σ.seen.length<2 ^ 18)(hk:3<=k)
  (hq:∀H' w,Gives ν W E0 H (ti ν fs σ sig (.t c f k0 sg)) w H'->Q w H'):μ g k (.ref 1611) [.ref W.w,j8] H Q X:=by
 refine μ.en (fT 108 rfl) rfl hk λ cx o _=>?_
 have hw:=R.w
 have cH:=R.last
 obtain⟨vs,ha,hv⟩:=R.fr.1
 cases hv with|t x nv bv cv fv sv n L M e np sr rc rf w1 w2 k2=>?_
 subst e
 obtain⟨sa,jS,es,oN,_⟩:=hs.kd hn
 have hsd:=hs.dat
 subst es
 have pI:cT cv=true:=rc.dat λ b h=>by cases h with|mk x n b h o r=>exact h.ref▸rfl
 have BL:(!(cv==.none))=c.isSome:=by
  cases c with
  |none=>have e:cv=.none:=rc;subst e;rfl
  |some b=>cases(rc:CR (some ν) H (SR (some ν) H n) cv b)with|mk x n b h o r=>exact h.ne▸rfl
 ktf_call"g"
 refine mm.bq (λ Q X R hR=>?_) (b2:=((k0:Int)==0)) ?_
 ·ktf_call"g";exact hR
 refine mm.bq (λ Q X R hR=>?_) (b2:=!(cv==.none)) ?_
 ·ktf_call"g";exact hR
 cases aep (ν:=ν) (fs:=fs) (σ:=σ) (sig:=sig) (f:=f) (k0:=k0) (sg:=sg) BL with
 |c u c' e1 e2 e3 hb=>
  refine mm.i1 hb ?_
  subst e1 e2 e3
  ktf_call"g"
  refine aeh R hs hl cz (by ktf_call"k") λ H' w G=>?_
  ktf_call"g"
  exact hq _ _ G
 |n hb e=>
  refine mm.i0 hb ?_
  rw[e]at hq
  ktf_call"g"
  refine IW R hs (aZ hl (by decide)) (by ktf_call"k") λ H' w G=>?_
  ktf_call"g"
  exact hq _ _ G
end
section
variable {g:Gv}{H:AH}{k:Nat}{Q:Value->AH->Prop}{X:Value->AH->Prop}{ν:Addr->Int}{W:WA}{E0:Ev}{as:List Addr}{s:LS}{fs:List Fm}{σ:Sg}{top:Fm}
noncomputable def j9(top:Fm):List Str:=match top.ow with|true=>[s_]|false=>[]
noncomputable def gA(fs:List Fm)(top:Fm):List Str:=match top.lp with|true=>fy fs |false=>[]
noncomputable def jy(n:Nat)(top:Fm):Int:=match top.lp with|true=>n-1 |false=>-1
theorem Su(h:∀x,top≠.l x):j9 top++gA fs top=ip fs top:=by cases top <;> first |rfl |exact absurd rfl (h _)
theorem Sv(hr:ak (j7 ν H) as fs):∀y∈j9 top++gA fs top,bF y:=by
 have hb:∀y∈fy fs,bF y:=λ y hy=>by
  obtain⟨i,hi⟩:=List.mem_iff_getElem?.mp hy
  have h:=List.getElem?_eq_some_iff.mp hi
  refine ψ (Sq h.1) λ z z1 z2=>?_
  rw[hi]at z2;cases z2
  refine ψ (hr.get z1) λ b _ hb=>?_
  cases hb with|mk vs h v=>cases v with|l e ok=>exact ok
 intro y hy
 rcases List.mem_append.mp hy with h |h
 ·unfold j9 at h;split at h
  ·exact List.mem_singleton.mp h▸sx
  ·cases h
 ·unfold gA at h;split at h
  ·exact hb y h
  ·cases h
theorem aer:(gA fs top).length<=fs.length:=by
 unfold gA;split
 ·exact Sr
 ·exact gj _
theorem aes:(j9 top).length<=1:=by unfold j9;split <;> decide
inductive B5(H:AH)(as:List Addr)(fs:List Fm)(top:Fm)(i:Nat):Prop
 |z (h:decide (jy as.length top-i>=0)=false) (e:(gA fs top).length<=i):B5 H as fs top i
 |e (h:decide (jy as.length top-i>=0)=true) (e:(gA fs top).length<=i) (b:Addr) (t:Str) (vs:List Value) (hi:i<as.length) (hp:jy as.length top-i=as.length-1-i) (hb:as[i]?=some b) (hv:H b=some (.κ false vs)) (ht:ix vs 0=some (.str t 0)) (hn:(t.cps.toList==[108])=false):B5 H as fs top i
 |s (h:decide (jy as.length top-i>=0)=true) (b:Addr) (x:Str) (hi:i<as.length) (hp:jy as.length top-i=as.length-1-i) (hb:as[i]?=some b) (hv:H b=some (.κ false [.str ⟨⟨[108]⟩⟩ 0,.str x 0,.int 0 0,.none])) (hx:(gA fs top)[i]?=some x):B5 H as fs top i
theorem lbT(hr:ak (j7 ν H) as fs)(hi:i<=(gA fs top).length):B5 H as fs top i:=by
 cases hp:top.lp with
 |false=>
  have e1:jy as.length top=-1:=by unfold jy;exact hp▸rfl
  have e2:gA fs top=[]:=by unfold gA;exact hp▸rfl
  exact .z (decide_eq_false (e1▸Int.not_le.mpr (IE (Int.sub_le_self _ (iC i)) (by decide)))) (by refine e2▸?_;exact gj _)
 |true=>
  have e1:jy as.length top=as.length-1:=by unfold jy;exact hp▸rfl
  have e2:gA fs top=fy fs:=by unfold gA;exact hp▸rfl
  have hl:=hr.len
  rcases yM i (fy fs).length with h |h
  ·obtain⟨x,h1,h2⟩:=Sq h
   obtain⟨b,hb,hf⟩:=hr.get h1
   have m9:i<as.length:=hl▸jI h Sr
   cases hf with|mk vs hv v=>cases v with|l e ok=>exact .s (decide_eq_true (e1▸(Ja m9).symm▸iC _)) b x m9 (by exact e1▸rfl) hb (e▸hv) (e2▸h2)
  ·rcases yM i as.length with h' |h'
   ·have ei:i=(fy fs).length:=x9 (e2▸hi) h
    obtain⟨fr,dU⟩:∃fr,fs[i]?=some fr:=⟨fs[i]'(hl▸h'),lr _⟩
    obtain⟨b,hb,hf⟩:=hr.get dU
    have hn:(fr.tag.cps.toList==[108])=false:=Bool.eq_false_iff.mpr λ e=>by
     obtain⟨x,rfl⟩:=Sm.mp e
     exact absurd (ei▸dU) (aeo x)
    cases hf with|mk vs hv v=>exact .e (decide_eq_true (e1▸(Ja h').symm▸iC _)) (e2▸h) b fr.tag vs h' (by exact e1▸rfl) hb hv v.tag hn
   ·exact .z (decide_eq_false (e1▸Int.not_le.mpr (by rw[GO];exact Int.sub_neg_of_lt (Int.ofNat_lt.mpr (cI h' (by rw[mu];exact lu i)))))) (e2▸h)
inductive Sw(H:AH)(L:List Str)(v:Value)(H':AH):Prop
 |mk (mi:Addr) (e:v=.ref mi) (n:H mi=none) (E:Ext H H') (h:H' mi=some (.κ false (L.map sv))):Sw H L v H'
inductive Sx(H:AH)(m0:Lc)(p:Int)(mi:Addr)(L M:List Str)(n:Nat)(m':Lc)(H':AH):Prop
 |mk (i:Nat) (h:n+i=M.length) (e:m'=m0++[(64,.int (p-i) 0)]) (E:Ext H H') (hm:H' mi=some (.κ false ((L++M.take i).map sv))):Sx H m0 p mi L M n m' H'
inductive Jd(H:AH)(m0:Lc)(mi:Addr)(L:List Str)(P:Prop)(m':Lc)(H':AH):Prop
 |mk (e:sub m0 m') (E:Ext H H') (hm:H' mi=some (.κ false (L.map sv))) (p:P):Jd H m0 mi L P m' H'
inductive B6(ν:Addr->Int)(fs:List Fm)(σ:Sg)(top:Fm):Ot->Prop
 |o {sig:Ot} (h1:(sig.sk.cps.toList==[99,111,110,116,105,110,117,101])=false) (h2:(sig.sk.cps.toList==[98,114,101,97,107])=false) (e:oK ν fs σ top sig=(⟨fs,σ⟩,sig)):B6 ν fs σ top sig
 |b (l:Str):B6 ν fs σ top (.brk l)
 |c (l:Str):B6 ν fs σ top (.cnt l)
theorem Sy(hn:sig≠.χ):B6 ν fs σ top sig:=by
 cases sig with
 |χ=>exact absurd rfl hn
 |ret u=>exact .o rfl rfl rfl
 |aw u=>exact .o rfl rfl rfl
 |brk l=>exact .b l
 |cnt l=>exact .c l
theorem aet(R:WR ν H W E0 (a::as) ⟨top::fs,σ⟩)(hs:dY H j8 sig)(hn:sig≠.χ)(Rf:∀c f k sg,top≠.t c f k sg)(hl:fs.length<900)(cz:σ.seen.length<2 ^ 18)(hk:3<=k)
  (hq:∀H' w,Gives ν W E0 H (oK ν fs σ top sig) w H'->Q w H'):μ g k (.ref 1611) [.ref W.w,j8] H Q X:=by
 refine μ.en (fT 108 rfl) rfl hk λ cx o _=>?_
 have dC:as.length<900:=R.fr.2.len▸hl
 have tp:as.length<1000:=aZ dC (by decide)
 have lp:=nj tp
 obtain⟨vs,ha,hv⟩:=R.fr.1
 obtain⟨x1,x2,x3,e,d1,d2,d3,hlx⟩:=hv.kd
 subst e
 clear hv
 obtain⟨sa,jS,es,oN,Sz⟩:=hs.kd hn
 subst es
 have cH:=R.last
 have hw:=R.w
 ktf_call"g"
 refine mm.i0 (aem Rf) ?_
 refine mm.aP o 1 rfl ?_
 refine mm.yb (Sw H (j9 top)) rfl (λ R' hR=>?_) ?_
 ·ktf_call"g"
  ktf_call"T";intro H1 t1 E1 gS
  ktf_call"g"
  refine mm.oc (aen gS ?_)
  refine mm.aP o 1 rfl ?_
  cases how:top.ow with
  |true=>
   refine mm.e1 rfl ?_
   ktf_call"lf"
   ktf_call"T";intro H2 mi E2 tq wu
   ktf_call"g"
   exact hR _ _ ⟨mi,rfl,E1.none tq,E1.trans E2,by unfold j9;rw[how];exact wu⟩
  |false=>
   refine mm.e0 rfl ?_
   ktf_call"lf"
   ktf_call"T";intro H2 mi E2 tq wu
   ktf_call"g"
   exact hR _ _ ⟨mi,rfl,E1.none tq,E1.trans E2,by unfold j9;rw[how];exact wu⟩
 intro v1 H1 aeu;obtain⟨mi,e,tq,E1,wu⟩:=aeu
 subst e
 refine mm.yb (λ v H2=>v=.int (jy as.length top) 0/\Ext H1 H2) rfl (λ R' hR=>?_) ?_
 ·have mB:=E1 _ _ hw
  have zi:=E1 _ _ cH
  have oJ:=E1 _ _ ha
  ktf_call"g"
  ktf_call"T";intro H2 t1 E2 gS
  ktf_call"g"
  refine mm.oc (So gS ?_)
  refine mm.aP o 1 rfl ?_
  cases tu:top.lp with
  |true=>
   refine mm.e1 rfl ?_
   have lE:=E2 _ _ mB
   have B7:=E2 _ _ zi
   ktf_call"g"
   refine μ.len_list B7 (cI (aU iK) (aZ (Nat.add_lt_add_right lp 1) (by decide))) ?_
   ktf_call"g"
   refine hR _ _ ⟨?_,E2⟩
   unfold jy;rw[tu]
   refine congrArg (Value.int · 0) ?_
   simp only[iK,gJ,wm,PL,List.length_nil]
   omega
  |false=>
   refine mm.e0 rfl ?_
   ktf_call"g"
   exact hR _ _ ⟨by unfold jy;rw[tu],E2⟩
 intro v2 H2 aev;obtain⟨e,E2⟩:=aev
 subst e
 refine mm.aP o 1 rfl ?_
 refine mm.mW (st':=[]) (Jd H [(288,.ref W.w),(294,.ref sa),(301,.ref a),(306,.ref mi)] mi (j9 top++gA fs top) True) (λ R' hR=>?_) ?_
 ·refine mm.wl o (I:=Sx H [(288,.ref W.w),(294,.ref sa),(301,.ref a),(306,.ref mi)] (jy as.length top) mi (j9 top) (gA fs top)) (n:=(gA fs top).length) (m0:=[(288,.ref W.w),(294,.ref sa),(301,.ref a),(306,.ref mi),(64,.int (jy as.length top) 0)]) (by exact⟨rfl,rfl,rfl,rfl,rfl,trivial⟩) ⟨0,Nat.add_zero _,by rw[Int.natCast_zero,Int.sub_zero];rfl,E1.trans E2,by rw[List.take_zero,E_];exact E2 _ _ wu⟩ ?_
  intro n m' H' aew;obtain⟨i,hi,rfl,E,hm⟩:=aew
  have mB:=E _ _ hw
  have zi:=E _ _ cH
  ktf_call"g"
  cases lbT R.fr.2 (i:=i) (top:=top) (hi▸eh _ _)with
  |z h e=>
   refine mm.a0 h ?_
   ktf_call"g"
   exact hR _ _ ⟨⟨rfl,rfl,rfl,rfl,trivial⟩,E,by rw[GP e]at hm;exact hm,trivial⟩
  |e h e b t vs m9 hp hb hv ht hn=>
   refine mm.a1 h ?_
   have SA:=E _ _ hv
   ktf_call"g"
   refine mm.sg (cq.ip zi tp (Jb hb) m9 hp ?_)
   refine mm.aP o 1 rfl ?_
   refine mm.sl SA ht ?_
   ktf_call"g"
   refine mm.w0 hn ?_
   ktf_call"g"
   exact hR _ _ ⟨⟨rfl,rfl,rfl,rfl,trivial⟩,E,by rw[GP e]at hm;exact hm,trivial⟩
  |s h b x m9 hp hb hv hx=>
   refine mm.a1 h ?_
   have SA:=E _ _ hv
   have hll:((j9 top++(gA fs top).take i).map sv).length<2 ^ 20:=by
    rw[gJ,iK,OL]
    exact cI (aT aes (Ψ (Ou _ _) (Ψ aer (jo hl)))) (by decide)
   ktf_call"g"
   refine mm.sg (cq.ip zi tp (Jb hb) m9 hp ?_)
   ktf_call"g"
   refine mm.sg (cq.ip zi tp (Jb hb) m9 hp ?_)
   ktf_call"g"
   have SD:=(List.getElem?_eq_some_iff.mp hx).1
   refine⟨n-1,[(288,.ref W.w),(294,.ref sa),(301,.ref a),(306,.ref mi),(64,.int (jy as.length top-i-1) 0)],(GV hi SD).1,by exact⟨rfl,rfl,rfl,rfl,rfl,trivial⟩,i+1,(GV hi SD).2,by rw[RX,<- GO];rfl,Ext.own tq E,?_⟩
   rw[ah,SE,hx,<- List.append_assoc,rQ (l₂:=(some x).toList)]
   rfl
 intro m' H3 aex;obtain⟨m4,E3,wy,_⟩:=aex
 refine mm.fr m4 ?_
 refine mm.aP o 1 rfl ?_
 refine mm.mW (st':=[]) (Jd H [(288,.ref W.w),(294,.ref sa),(301,.ref a),(306,.ref mi)] mi (j9 top++gA fs top) (∀l,sig=.cnt l->oK ν fs σ top sig=(⟨fs,σ⟩,sig))) (λ R' hR=>?_) ?_
 ·have mB:=E3 _ _ hw
  have oJ:=E3 _ _ ha
  have aey:=E3 _ _ oN
  ktf_call"g"
  cases Sy (ν:=ν) (fs:=fs) (σ:=σ) (top:=top) hn with
  |o h1 h2 e=>
   refine mm.a0 h1 ?_
   ktf_call"g"
   exact hR _ _ ⟨⟨rfl,rfl,rfl,rfl,trivial⟩,E3,wy,λ _ _=>e⟩
  |b l=>
   ktf_call"g"
   exact hR _ _ ⟨⟨rfl,rfl,rfl,rfl,trivial⟩,E3,wy,λ _ e=>nomatch e⟩
  |c l=>
   obtain⟨e,i7⟩:=Sz l (.inr rfl)
   subst e
   ktf_call"g"
   ktf_call"T";intro H4 t1 E4 gS
   ktf_call"g"
   refine mm.oc (So gS ?_)
   refine mm.aP o 1 rfl ?_
   cases tu:top.lp with
   |false=>
    ktf_call"g"
    exact hR _ _ ⟨⟨rfl,rfl,rfl,rfl,trivial⟩,E3.trans E4,E4 _ _ wy,λ l e=>by cases e;exact if_neg λ z=>lV (tu.symm.trans z.1)⟩
   |true=>
    have SF:j9 top++gA fs top=ip fs top:=Su λ x z=>by rw[z]at tu;cases tu
    have I8:=E4 _ _ aey
    have lE:=E4 _ _ mB
    ktf_call"g"
    refine mm.oc (I_ (E4 _ _ wy) i7 (Sv R.fr.2) ?_)
    refine mm.aP o 1 rfl ?_
    rw[SF]
    cases iW:bB l (ip fs top)with
    |true=>
     ktf_call"g"
     refine Sf (R.ext (E3.trans E4)) hl cz (by ktf_call"k") λ H5 w G=>?_
     ktf_call"g"
     refine hq _ _ ?_
     rw[show oK ν fs σ top (.cnt l)=lO ν fs σ top from if_pos ⟨tu,iW⟩]
     exact G.pre (E3.trans E4).fz
    |false=>
     ktf_call"g"
     exact hR _ _ ⟨⟨rfl,rfl,rfl,rfl,trivial⟩,E3.trans E4,E4 _ _ (SF▸wy),λ l e=>by cases e;exact if_neg λ z=>lV (iW.symm.trans z.2)⟩
 intro m' H4 aez;obtain⟨m4,E4,SG,hc⟩:=aez
 refine mm.fr m4 ?_
 obtain⟨Rp,Fp⟩:=(R.ext E4).pop
 have yE:=E4 _ _ hw
 have I9:=E4 _ _ cH
 have Je:ξ H4 W.fa (.κ false (as.reverse.map .ref)) mi=some (.κ false ((j9 top++gA fs top).map sv)):=by rw[Γ λ z=>by rw[z,cH]at tq;cases tq];exact SG
 have ha5:ξ H4 W.fa (.κ false (as.reverse.map .ref)) a=some (.κ false [.str top.tag 0,x1,x2,x3]):=by rw[Γ λ z=>R.nf (by rw[<- z];exact eU)];exact E4 _ _ ha
 have aeA:=Fp _ _ (E4 _ _ oN) rfl
 have FB:=E4.fz.trans Fp
 ktf_call"g"
 generalize ξ H4 W.fa (.κ false (as.reverse.map .ref))=H5 at Rp Je ha5 aeA FB⊢
 clear Fp hw cH ha wu wy SG yE I9 oN
 have B8:∀H',Ext H5 H'->oK ν fs σ top sig=(⟨fs,σ⟩,sig)->Q (.ref sa) H':=λ H' E e=>hq _ _ (e▸⟨FB.trans E.fz,hs.fz (FB.trans E.fz),as,Rp.ext E⟩)
 have SH:∀H' b,Ext H5 H'->H' b=some (.φ [])->oK ν fs σ top sig=(⟨fs,σ⟩,.χ)->Q (.ref b) H':=λ H' b E hb e=>hq _ _ (e▸⟨FB.trans E.fz,.χ b rfl hb,as,Rp.ext E⟩)
 cases Sy (ν:=ν) (fs:=fs) (σ:=σ) (top:=top) hn with
 |o h1 h2 e=>
  refine mm.a0 h2 ?_
  ktf_call"g"
  exact B8 _ Ext.refl e
 |c l=>
  ktf_call"g"
  exact B8 _ Ext.refl (hc l rfl)
 |b l=>
  obtain⟨e,i7⟩:=Sz l (.inl rfl)
  subst e
  ktf_call"g"
  by_cases jx:∃x,top=.l x
  ·obtain⟨x,rfl⟩:=jx
   obtain⟨rfl,hxo⟩:=hlx x rfl
   ktf_call"g"
   ktf_call"lt"
   ktf_call"T";intro H6 b1 E6 _ cN
   ktf_call"g"
   refine mm.ob (Ω.AL (z2:=true) (E6 _ _ Je) cN (by exact(by decide:1<=1000)) λ b2 fp=>?_)
   have E7:=E6.trans (Ext.new fp (o:=.κ true ([]++[.str x 0])))
   ktf_call"g"
   refine mm.oc (I_ (L:=[x]) (z:=true) ah i7 (λ y hy=>by rw[List.mem_singleton.mp hy];exact hxo) ?_)
   refine mm.aP o 1 rfl ?_
   cases iW:bB l [x]with
   |true=>
    ktf_call"g"
    ktf_call"T";intro H8 b3 E8 eL
    ktf_call"g"
    exact SH _ _ (E7.trans E8) eL (if_pos iW)
   |false=>
    ktf_call"g"
    exact B8 _ E7 (if_neg λ z=>lV (iW.symm.trans z))
  ·refine mm.e0 (Bool.eq_false_iff.mpr λ e=>jx (Sm.mp e)) ?_
   ktf_call"g"
   refine mm.oc (I_ Je i7 (Sv R.fr.2) ?_)
   refine mm.aP o 1 rfl ?_
   rw[Su λ x z=>jx ⟨x,z⟩]
   cases iW:bB l (ip fs top)with
   |true=>
    ktf_call"g"
    ktf_call"T";intro H8 b3 E8 eL
    ktf_call"g"
    exact SH _ _ E8 eL (if_pos iW)
   |false=>
    ktf_call"g"
    exact B8 _ Ext.refl (if_neg λ z=>lV (iW.symm.trans z))
end
section
variable {g:Gv}{H:AH}{k:Nat}{Q:Value->AH->Prop}{X:Value->AH->Prop}{ν:Addr->Int}{W:WA}{E0:Ev}{as:List Addr}{s:LS}{fs:List Fm}{σ:Sg}{top:Fm}
theorem aeB(R:WR ν H W E0 (a::as) ⟨top::fs,σ⟩)(hs:dY H j8 sig)(hn:sig≠.χ)(hl:fs.length<900)(cz:σ.seen.length<2 ^ 18)(hk:3<=k)
  (hq:∀H' w,Gives ν W E0 H (ti ν fs σ sig top) w H'->Q w H'):μ g k (.ref 1611) [.ref W.w,j8] H Q X:=by
 cases top with
 |t c f k0 sg=>exact aeq R hs hn hl cz hk hq
 |_=>exact aet R hs hn (λ _ _ _ _ z=>nomatch z) hl cz hk hq
end
section
variable {k:Nat}
theorem mm.rv{c:Cx}{Q:bJ->Lc->AH->Prop}{X:Value->Lc->AH->Prop}{D:List It}{st:List Value}{m:Lc}(h1:H x=some (.κ z vs))(h2:vs.length<=1000)(h:∀H' y,Ext H H'->H y=none->H' y=some (.κ z2 vs.reverse)->M g c Q X D (.ref y::st) m H'):M g c Q X (.oq z2::D) (.int (-1) 0::.none::.none::.ref x::st) m H:=
 mm.oq none none (some (-1)) h1 (by simp) (Ψ h2 (by decide)) λ y hy=>h _ y (Ext.new hy) hy (by rw[ah,ahE])
noncomputable def zj(E0:Ev)(fs:List Fm):List (Option (Str×SV×Bool)):=fs.map BY++E0.map some
theorem aeC:aB E0 fs=(zj E0 fs).filterMap id:=by
 delta aB zj
 rw[List.filterMap_append,AP,AP]
 exact congrArg (_++·) List.filterMap_some.symm
noncomputable def Jf:List PyData:=[.str ⟨⟨[101]⟩⟩,.str ⟨⟨[120]⟩⟩,.str ⟨⟨[99]⟩⟩]
noncomputable def B9(ks:Str):Bool:=Jf.any λ y=>eW y (.str ks)
inductive Jg(ν:Addr->Int)(H:AH)(w t:Value):Except SV SV->Prop
 |ok {u:SV} (h:VK H w u) (s:dY H t .χ):Jg ν H w t (.ok u)
 |er {u:SV} (h:w=.none) (s:dY H t (.aw u)):Jg ν H w t (.error u)
theorem SI{c:Cx}{m:Lc}{Q:Value->Lc->AH->Prop}{X:Value->Lc->AH->Prop}{ks:Str}(hk:bF ks)(ht:H t=some (.φ [.str ⟨⟨[101]⟩⟩ 0,.str ⟨⟨[120]⟩⟩ 0,.str ⟨⟨[99]⟩⟩ 0]))(q:Q (.bool (B9 ks)) m H):Ω g c (cJ .In) (.str ks 0) (.ref t) m H Q X:=
 Ω.int (xs:=Jf) (d:=.str ks) (by simp only[Jf,RD,jr];exact⟨t,_,rfl,ht,rfl,rfl,rfl,trivial⟩) rfl (by decide +kernel) hk pK q
inductive tw(H:AH)(v:Value):Option (Str×SV×Bool)->Prop
 |n (b:Addr) (z:Bool) (ks:Str) (x1 x2 x3:Value) (e:v=.ref b) (h:H b=some (.κ z [.str ks 0,x1,x2,x3])) (o:bF ks) (i:B9 ks=false):tw H v none
 |s (b:Addr) (z:Bool) (ks nm:Str) (x2 x3:Value) (u:SV) (e:v=.ref b) (h:H b=some (.κ z [.str ks 0,.str nm 0,x2,x3])) (o:bF ks) (i:B9 ks=true) (hu:VK H x3 u):tw H v (some (nm,u,true))
theorem tw.ext(E:Ext H H')(h:tw H v p):tw H' v p:=by
 cases h with
 |n b z ks x1 x2 x3 e h o i=>exact .n b z ks x1 x2 x3 e (E _ _ h) o i
 |s b z ks nm x2 x3 u e h o i hu=>exact .s b z ks nm x2 x3 u e (E _ _ h) o i (hu.fz E.fz)
theorem j7.en(h:j7 ν H a fr):tw H (.ref a) (BY fr):=by
 cases h with|mk vs ha hv=>?_
 cases fr with
 |x u=>cases hv with|x w e r=>exact .s a false bC bC _ w u rfl (e▸ha) (zh (fr:=.x u)) (by decide +kernel) r
 |e u=>cases hv with|e w e r=>exact .s a false gf gf _ w u rfl (e▸ha) (zh (fr:=.e u)) (by decide +kernel) r
 |_=>obtain⟨x1,x2,x3,e,_⟩:=hv.kd;exact .n a false _ x1 x2 x3 rfl (e▸ha) zh (by simp only[Fm.tag];decide +kernel)
theorem aeD:gN nm (q::r)=if q.1=nm then some q.2 else gN nm r:=by
 delta gN
 rw[vb]
 by_cases h:q.1=nm
 ·rw[decide_eq_true h,if_pos h];rfl
 ·rw[decide_eq_false h,if_neg h]
theorem aeE{L:List (Option (Str×SV×Bool))}(h:L[i]?=some p):(L.drop i).filterMap id=p.toList++(L.drop (i+1)).filterMap id:=by
 obtain⟨hi,he⟩:=List.getElem?_eq_some_iff.mp h
 rw[QM hi,he]
 cases p <;> rfl
theorem ak.aeF{α β:Type}{R:α->β->Prop}{l:List α}{m:List β}{i:Nat}{a:α}(h:ak R l m)(e:l[i]?=some a):∃b,m[i]?=some b/\R a b:=fh (h.at e) λ b x _ y=>⟨b,x,y⟩
theorem ak.aeG(h:ak R l m)(k:ak R l' m'):ak R (l++l') (m++m'):=ak.ind (R:=R) (P:=λ l m=>ak R (l++l') (m++m')) k (λ _ _ _ _ h _ t=>And.intro h t) h
theorem ak.aeH(k:∀a b,R a b->R' (f a) (h b))(x:ak R l m):ak R' (l.map f) (m.map h):=ak.ind (R:=R) (P:=λ l m=>ak R' (l.map f) (m.map h)) trivial (λ _ _ _ _ x _ t=>And.intro (k _ _ x) t) x
theorem SJ{x y:Str}(h:x.cps.toList=y.cps.toList):x=y:=by
 obtain⟨⟨a⟩⟩:=x;obtain⟨⟨b⟩⟩:=y;exact congrArg (λ l=>(⟨⟨l⟩⟩:Str)) h
theorem SK(BA:cT wv=true)(er:ER (some ν) H v e)(hc:∀n x,e≠.dA n x)(hk:1<=k)
  (hq:∀H' a w t,Ext H H'->H' a=some (.φ [w,t])->VR H' w (eF e)->dY H' t .χ->Q (.ref a) H'):μ g k (.ref 1554) [wv,v] H Q X:=by
 refine μ.en (fT 99 rfl) rfl hk λ c o _=>?_
 have fin:∀{H1 H2 H3:AH}{b1 b2 b3:Addr},Ext H H1->H1 b1=some (.φ [.int (eF e).tag 0,(eF e).jS])->Ext H1 H2->H2 b2=some (.φ [])->Ext H2 H3->H3 b3=some (.φ [.ref b1,.ref b2])->Q (.ref b3) H3:=
  fun{_ _ _ b1 b2 b3} E1 h1 E2 h2 E3 h3=>hq _ b3 (.ref b1) (.ref b2) ((E1.trans E2).trans E3) h3 ⟨b1,rfl,E3 _ _ (E2 _ _ h1)⟩ (.χ b2 rfl (E3 _ _ h2))
 cases e with
 |dA n x=>exact absurd rfl (hc n x)
 |num i=>
  refine Θ er λ x np=>?_;clear er
  ktf_call"g"
  ktf_call"T";intro H1 b1 E1 h1;ktf_call"g"
  ktf_call"T";intro H2 b2 E2 h2;ktf_call"g"
  ktf_call"T";intro H3 b3 E3 h3;ktf_call"g"
  exact fin E1 h1 E2 h2 E3 h3
 |str t=>
  refine Θ er λ x np=>?_;clear er
  ktf_call"g"
  ktf_call"T";intro H1 b1 E1 h1;ktf_call"g"
  ktf_call"T";intro H2 b2 E2 h2;ktf_call"g"
  ktf_call"T";intro H3 b3 E3 h3;ktf_call"g"
  exact fin E1 h1 E2 h2 E3 h3
 |cM=>
  refine Θ er λ x np=>?_;clear er
  ktf_call"g"
  ktf_call"T";intro H1 b1 E1 h1;ktf_call"g"
  ktf_call"T";intro H2 b2 E2 h2;ktf_call"g"
  ktf_call"T";intro H3 b3 E3 h3;ktf_call"g"
  exact fin E1 h1 E2 h2 E3 h3
end
section
variable {k:Nat}{W:WA}
theorem aeI{ts:List Value}{l:List (Int×SV)}{b:Addr}{z:Bool}{ks:Str}(h:ak (gk H) ts l)(ht:H W.tr=some (.κ false ts))(hb:H b=some (.κ z (.str ks 0::r))):b≠W.tr:=λ e=>by
 rw[e,ht]at hb
 cases hb
 cases l with
 |nil=>exact h.elim
 |cons p q=>cases h.1 with|mk a w e h k=>cases e
inductive SM(H5:AH)(L:List (Option (Str×SV×Bool)))(E:Ev)(nm:Str)(m0:Lc)(i:Nat)(m:Lc)(H':AH):Prop
 |mk (e:m=m0) (E':Ext H5 H') (ef:gN nm E=gN nm ((L.drop i).filterMap id)):SM H5 L E nm m0 i m H'
theorem aeJ(R:WR ν H W E0 as s)(er:ER (some ν) H v e)(hek:∀t,e=.str t->gR (.s t))(hl:s.fs.length<900)(cz:s.σ.seen.length<2 ^ 18)(dW:s.σ.aj.length<2 ^ 18)(hk:2<=k)
  (hq:∀H' a w t,Fz H H'->H' a=some (.φ [w,t])->Jg ν H' w t (dm ν (aB E0 s.fs) e s.σ).1->WR ν H' W E0 as ⟨s.fs,(dm ν (aB E0 s.fs) e s.σ).2⟩->Q (.ref a) H'):μ g k (.ref 1554) [.ref W.w,v] H Q X:=by
 have const:(∀n x,e≠.dA n x)->dm ν (aB E0 s.fs) e s.σ=(.ok (eF e),s.σ)->gR (eF e)->μ g k (.ref 1554) [.ref W.w,v] H Q X:=λ hc ee ok=>
  SK rfl er hc (Nat.le_of_succ_le hk) λ H' a w t E ha hv hs=>hq H' a w t E.fz ha (by refine ee▸?_;exact .ok ⟨hv,ok⟩ hs) (by rw[ee];exact R.ext E)
 cases e with
 |num i=>exact const (λ _ _ z=>nomatch z) rfl trivial
 |str t=>exact const (λ _ _ z=>nomatch z) rfl (hek t rfl)
 |cM=>exact const (λ _ _ z=>nomatch z) rfl trivial
 |dA nm x=>
  clear const
  refine μ.en (fT 99 rfl) rfl hk λ c o _=>?_
  have hw:=R.w
  have np:NP (some ν) H v x 8 (.str nm 0) []:=er
  have dC:as.length<900:=R.fr.len▸hl
  obtain⟨w0,w1,u0,u1,pR,Jh,pV,SN⟩:=R.ca
  have d0:=Jh.dat
  have d1:=pV.dat
  ktf_call"g"
  refine mm.kJ true ?_
  ktf_call"g"
  refine mm.rv R.fa (by rw[gJ,wm];exact jo (aZ dC (by decide))) λ H1 y1 E1 _ q1=>?_
  rw[<- List.map_reverse,List.reverse_reverse]at q1
  have mB:=E1 _ _ hw
  have SO:=E1 _ _ pR
  ktf_call"lt"
  ktf_call"lt"
  ktf_call"T";intro H2 y2 E2 _ q2
  have lE:=E2 _ _ mB
  have aeK:=E2 _ _ SO
  ktf_call"g"
  ktf_call"lt"
  ktf_call"T";intro H3 y3 E3 _ q3
  ktf_call"g"
  ktf_call"T";intro H4 y4 E4 _ q4
  ktf_call"g"
  refine mm.ob (Ω.AL (z2:=true) (E4 _ _ (E3 _ _ (E2 _ _ q1))) q4 (by rw[gJ];exact kC (kC (Ψ (jo dC) (by decide)))) λ y5 SP=>?_)
  have B_:=E4.trans (Ext.new SP (o:=.κ true (as.map Value.ref++[.ref y2,.ref y3])))
  have q5:ξ H4 y5 (.κ true (as.map Value.ref++[.ref y2,.ref y3])) y5=some (.κ true (as.map Value.ref++[.ref y2,.ref y3])):=ah
  generalize ξ H4 y5 (.κ true (as.map Value.ref++[.ref y2,.ref y3]))=H5 at B_ q5⊢
  have Ji:=E3.trans B_
  have E5:=(E1.trans E2).trans Ji
  replace q2:=Ji _ _ q2
  replace q3:=B_ _ _ q3
  clear E1 E2 E3 E4 Ji B_ SP q1 q4 mB lE SO aeK
  have Jj:bF ⟨⟨[99]⟩⟩:=l8.mpr (by decide)
  have Jk:B9 ⟨⟨[99]⟩⟩=true:=by decide +kernel
  have Ca:ak (tw H5) (as.map Value.ref++[.ref y2,.ref y3]) (zj E0 s.fs):=by
   unfold zj
   refine SN▸?_
   exact ak.aeG (ak.aeH (f:=Value.ref) (h:=BY) (λ a fr h=>(j7.en h).ext E5) R.fr) ⟨.s y2 true _ _ _ _ _ rfl q2 Jj Jk (Jh.fz E5.fz),.s y3 true _ _ _ _ _ rfl q3 Jj Jk (pV.fz E5.fz),trivial⟩
  have hlen:=Ca.len
  have R5:=R.ext E5
  have zk:=np.fz E5.fz
  have F5:=E5.fz
  clear q2 q3 pR Jh pV d0 d1 hw Jj Jk SN np E5
  refine mm.fo (Goes.list q5) (m0:=[(288,.ref W.w),(14,v)]) (I:=SM H5 (zj E0 s.fs) (aB E0 s.fs) nm [(288,.ref W.w),(14,v)]) (by exact⟨rfl,rfl,trivial⟩) ⟨rfl,Ext.refl,by rw[aeC,OG]⟩ ?_ ?_
  ·intro i y m' H' aeL hx;obtain⟨rfl,E',ef⟩:=aeL
   refine⟨E' _ _ q5,?_⟩
   refine ψ (Ca.aeF hx) λ p hp oh=>?_
   rw[aeE hp]at ef
   have R':=R5.ext E'
   have vA:=R'.w
   have yC:=zk.fz E'.fz
   replace oh:=oh.ext E'
   clear Ca hlen hp hx q5 R5 zk R
   cases oh with
   |n b z ks x1 x2 x3 e hb ok i=>
    subst e
    ktf_call"g"
    ktf_call"T";intro H6 t1 E6 gS
    ktf_call"g"
    refine mm.oc (SI ok gS ?_)
    refine i▸?_
    ktf_call"g"
    exact⟨_,by exact⟨rfl,rfl,trivial⟩,rfl,E'.trans E6,ef⟩
   |s b z ks qn x2 x3 u e hb ok i hu=>
    subst e
    replace ef:gN nm (aB E0 s.fs)=if qn=nm then some (u,true)else _:=ef.trans aeD
    ktf_call"g"
    ktf_call"T";intro H6 t1 E6 gS
    ktf_call"g"
    refine mm.oc (SI ok gS ?_)
    refine i▸?_
    have iQ:=E6 _ _ hb
    have R6:=R'.ext E6
    have hw6:=R6.w
    have np6:=yC.fz E6.fz
    have Cb:=hu.fz E6.fz
    have F6:=F5.trans (E'.trans E6).fz
    ktf_call"g"
    by_cases hn:qn=nm
    ·subst hn
     refine mm.i1 (beq_self_eq_true _) ?_
     rw[if_pos rfl]at ef
     have ev:dm ν (aB E0 s.fs) (.dA qn x) s.σ=(.ok u,{s.σ with seen:=s.σ.seen++[(ν x,u)]}):=HG (by unfold rd;exact ef▸rfl)
     rw[ev]at hq
     obtain⟨ts,gS,gz⟩:=R6.tr
     have jx:ts.length<2 ^ 20:=gz.len▸aZ cz (by decide)
     clear ef ev hu yC vA R' hb E' E6
     ktf_call"g"
     ktf_call"T";intro H7 b0 E7 pU
     have zl:=E7 _ _ gS
     ktf_call"g"
     refine ag ((R6.ext E7).look zl (gz.map λ _ _ z=>z.fz E7.fz) (v:=.ref b0) (p:=(ν x,u)) ⟨b0,x3,rfl,pU,Cb.r.fz E7.fz⟩ Cb.ok) λ R8 F8=>?_
     have hb8:ξ H7 W.tr (.κ false (ts++[.ref b0])) b=some (.κ z [.str ks 0,.str qn 0,x2,x3]):=by exact(Γ (aeI gz gS iQ))▸(E7 _ _ iQ)
     have Jl:=E7.fz.trans F8
     have FA:=F6.trans Jl
     have SQ:=Cb.fz Jl
     generalize ξ H7 W.tr (.κ false (ts++[.ref b0]))=H8 at R8 hb8 FA SQ⊢
     clear F8 Jl R6 hw6 np6 Cb F6 iQ zl E7 pU gS gz
     ktf_call"g"
     ktf_call"T";intro H9 b2 E9 fp
     ktf_call"g"
     ktf_call"T";intro fG b3 iJ eL
     ktf_call"g"
     have jQ:=E9.trans iJ
     exact hq _ b3 x3 (.ref b2) (FA.trans jQ.fz) eL (.ok (SQ.fz jQ.fz) (.χ b2 rfl (iJ _ _ fp))) (R8.ext jQ)
    ·refine mm.i0 (beq_eq_false_iff_ne.mpr λ z=>hn (SJ z)) ?_
     rw[if_neg hn]at ef
     ktf_call"g"
     exact⟨_,by exact⟨rfl,rfl,trivial⟩,rfl,E'.trans E6,ef⟩
  ·intro m' H' aeM;obtain⟨rfl,E',ef⟩:=aeM
   refine⟨E' _ _ q5,?_⟩
   rw[hlen,yz]at ef
   have ev:dm ν (aB E0 s.fs) (.dA nm x) s.σ=(.error (.o s.σ.aj.length),{s.σ with aj:=s.σ.aj++[ν x]}):=yx (by unfold rd;exact ef▸rfl)
   rw[ev]at hq
   have R':=R5.ext E'
   have yC:=zk.fz E'.fz
   clear Ca hlen ef ev q5 R5 zk R
   ktf_call"g"
   refine RY R' yC dW (by ktf_call"k") λ H2 w F2 R2 sg=>?_
   ktf_call"g"
   ktf_call"T";intro H3 b3 E3 eL
   ktf_call"g"
   exact hq _ b3 .none w ((F5.trans E'.fz).trans (F2.trans E3.fz)) eL (.er rfl (sg.fz E3.fz)) (R2.ext E3)
end
section
variable {k:Nat}{W:WA}
theorem ak.of:∀{l:List α}{m:List β},l.length=m.length->(∀(i:Nat) (a:α),l[i]?=some a->∃b,m[i]?=some b/\R a b)->ak R l m
 | [],[],_,_=>trivial
 |a::l,b::m,h,k=>⟨by refine ψ (k 0 a rfl) λ b' e r=>?_;obtain rfl:=bY e;exact r,ak.of (yW h) λ i a h=>k (i+1) a h⟩
 | [],_::_,h,_=>nomatch h
 |_::_,[],h,_=>nomatch h
noncomputable def SS(ν:Addr->Int)(nn:Addr)(b:List St)(fs:List Fm)(σ:Sg)(isOf:Bool):Row->LS×Ot
 | .bad y=>(⟨fs,{σ with aj:=σ.aj++[ν y]}⟩,.aw (.o σ.aj.length))
 | .txt t=>pS ν nn b fs σ (items isOf t)
theorem aeN{t:Str}(ht:asc t){i ch:Nat}(h:t.cps.toList[i]?=some ch):(items true t)[i]?=some (.s ⟨#[ch]⟩)/\gR (.s ⟨#[ch]⟩):=by
 refine⟨by unfold items;exact(if_pos rfl)▸iB▸h▸rfl,l8.mpr λ c hc=>?_,by show 1<100;decide⟩
 refine(List.mem_singleton.mp hc)▸?_
 have:=of_decide_eq_true (Array.all_eq_true'.mp ht.1 ch (Array.mem_toList_iff.mp (yl h)))
 exact aZ (by assumption) (by decide)
theorem aeO(ht:asc t)(h:i<t.cps.size):(items false t)[i]?=some (.s (dig i))/\gR (.s (dig i)):=by
 refine⟨by unfold items;rw[if_neg (by decide),iB,EB h];rfl,?_⟩
 have h3:=jI h ht.2
 refine(HY h3)▸?_
 refine⟨l8.mpr λ c hc=>?_,by show 1<100;decide⟩
 refine(List.mem_singleton.mp hc)▸?_
 exact aH h3 (by simp +arith only)
inductive SU(H:AH)(m0:Lc)(us:List SV)(m':Lc)(H':AH):Prop
 |mk (l:Addr) (vs:List Value) (e:sub ((37,.ref l)::m0) m') (E:Ext H H') (n:H l=none) (h:H' l=some (.κ false vs)) (r:ak (VK H') vs us):SU H m0 us m' H'
theorem aeP{v hv rv bv dv nv:Value}{x hx dx nn:Addr}{isOf:Bool}{row:Row}{b:List St}{n:Nat}{L M:List Str}(R:WR ν H W E0 as s)(np:NP (some ν) H v x (if isOf=true then 48 else 49) (.str s_ 0) [hv,rv,bv])(h3:oE ν H hv dv nv hx dx nn)
  (rr:RR (some ν) H rv row) (wr:ou row) (hb:BR (some ν) H (SR (some ν) H n) bv b) (wb:lP n L M b) (hl:s.fs.length<850) (cz:s.σ.seen.length<2 ^ 18) (dW:s.σ.aj.length<2 ^ 18) (hk:3<=k)
  (hq:∀H' w,Gives ν W E0 H (SS ν nn b s.fs s.σ isOf row) w H'->Q w H'):μ g k (.ref 1576) [.ref W.w,v] H Q X:=by
 refine μ.en (fT 103 rfl) rfl hk λ c o _=>?_
 cases row with
 |bad y=>
  have nr:NP (some ν) H rv y 8 (.str bC 0) []:=rr
  have d1:cT rv=true:=by exact nr.ref▸rfl
  ktf_call"g"
  refine RY R nr dW (by ktf_call"k") λ H2 w F2 R2 sg=>?_
  ktf_call"g"
  exact hq _ _ ⟨F2,sg,_,R2⟩
 |txt t=>
  obtain⟨y,nr⟩:=(rr:∃y,NP (some ν) H rv y 2 (.str t 0) [])
  have ht:=wr.asc t rfl
  have gz:t.cps.size<=3:=ht.2
  have d1:cT rv=true:=by exact nr.ref▸rfl
  have dv':cT v=true:=by exact np.ref▸rfl
  ktf_call"g"
  refine mm.ac o ?_
  ktf_call"g"
  refine KV.i (yG (λ i w H'=>∃u,(items true t)[i]?=some u/\VK H' w u) (Goes.str ht.1) (λ _ _=>trivial) (by refine vQ▸?_;exact Ψ gz (by decide)) (λ i x H' aN cY hx E=>V.ma ?_) (λ i w H₁ ο F aeQ=>ψ aeQ λ u e r=>⟨u,e,r.fz F⟩) λ l H1 vs vT E h1 h2 pG=>?_)
  ·obtain⟨ch,pM,rfl⟩:=QF hx
   obtain⟨i1,i2⟩:=aeN ht pM
   ktf_call"g"
   ktf_call"T";intro H2 b1 E1 cN
   ktf_call"g"
   exact KV.i ⟨rfl,E1,_,i1,⟨b1,rfl,cN⟩,i2⟩
  refine mm.aP o 1 rfl ?_
  refine mm.mW (st':=[]) (SU H [(288,.ref W.w),(14,v)] (items isOf t)) (λ R' hR=>?_) ?_
  ·have eY:=np.fz E.fz
   cases isOf with
   |true=>
    ktf_call"g"
    exact hR _ _ ⟨l,vs,⟨rfl,rfl,rfl,trivial⟩,E,vT,h1,ak.of (by exact h2▸vQ▸vU▸rfl) pG⟩
   |false=>
    ktf_call"g"
    refine mm.ac o ?_
    ktf_call"g"
    refine μ.len_list h1 (by refine h2▸vQ▸?_;exact cI gz (by decide)) ?_
    refine h2▸vQ▸?_
    ktf_call"g"
    refine μ.range (n:=t.cps.size) (cI gz (by decide)) λ ra a1 a2 a3 m8=>?_
    ktf_call"g"
    refine KV.i (yG (λ i w H'=>∃u,(items false t)[i]?=some u/\VK H' w u) (Goes.range (cI gz (by decide)) ah) (λ _ _=>trivial) (by refine vR▸?_;exact Ψ gz (by decide)) (λ i x H' aN cY hx E=>V.ma ?_) (λ i w H₁ ο F aeR=>ψ aeR λ u e r=>⟨u,e,r.fz F⟩) λ l' H2 gp mY E' rX ph aeS=>?_)
    ·obtain⟨hi,rfl⟩:=HZ hx
     obtain⟨i1,i2⟩:=aeO ht hi
     ktf_call"g"
     refine mm.ca rfl rfl rfl ?_
     ktf_call"g"
     refine μ.AV (oF i) (Int.ofNat_lt.mpr (aZ (jI hi gz) (by decide))) ?_
     ktf_call"g"
     ktf_call"T";intro H2 b1 E1 cN
     ktf_call"g"
     exact KV.i ⟨rfl,E1,_,i1,⟨b1,rfl,cN⟩,i2⟩
    ·ktf_call"g"
     exact hR _ _ ⟨l',gp,⟨rfl,rfl,rfl,trivial⟩,E.trans ((Ext.new m8).trans E'),(E.trans (Ext.new m8)).none mY,rX,ak.of (by exact ph▸vR▸vU▸rfl) aeS⟩
  clear h1 h2 pG vT E
  intro m' H1 aeT;obtain⟨l,vs,hm,E,vT,h1,r⟩:=aeT
  refine mm.fr hm ?_
  refine mm.gh (Gh.fl (z:=true) h1) ?_
  have E1:Ext H (ξ H1 l (.κ true vs)):=Ext.own vT E
  have F1:Fz H1 (ξ H1 l (.κ true vs)):=Fz.set h1 rfl
  have sX:ξ H1 l (.κ true vs) l=some (.κ true vs):=ah
  have r1:=r.map λ _ _ z=>VK.fz F1 z
  generalize ξ H1 l (.κ true vs)=H2 at E1 sX r1⊢
  clear h1 r E F1
  have R1:=R.ext E1
  have dC:as.length<850:=R.fr.len▸hl
  have lp:=nj (as:=as) (aZ dC (by decide))
  have cH:=R1.fa
  have mB:=R1.w
  ktf_call"g"
  ktf_call"lf"
  ktf_call"T";intro H3 b1 E3 tm cN
  have IY:=E3 _ _ cH
  ktf_call"g"
  have FB:=(E1.trans E3).fz
  obtain⟨R2,F2⟩:=R1.push E3 tm cN (fr:=.f nn b (items isOf t)) (.f v x _ hv rv bv hx dv dx nv l vs n L M 0 rfl (np.fz FB) (h3.fz FB) (BR.fz FB hb) wb (E3 _ _ sX) (r1.map λ _ _ z=>z.fz E3.fz) (gj _) (by refine r1.len▸vU▸?_;exact Ψ gz (by decide)))
  have FC:=FB.trans F2
  generalize ξ H3 W.fa (.κ false (as.reverse.map .ref++[.ref b1]))=H4 at R2 FC⊢
  have lE:=R2.w
  ktf_call"g"
  refine Sd R2 (aZ hl (by decide)) cz (by ktf_call"k") λ H3 w G=>?_
  ktf_call"g"
  exact hq _ _ (G.pre FC)
end
section
variable {k:Nat}
theorem μ.index(hl:H l=some (.κ z vs))(rb:jr H vs xs)(ra:RD H v d)(hb:i4 xs=true)(ha:d.canLay0=true)(hu:d.depth<=30)(hz:xs.length<1000)
  (hj:j<xs.length) (hit:eW xs[j] d=true) (x8:∀m (hm:m<xs.length),m<j->eW xs[m] d=false) (q:Q (.int j 0) H):μ g k (.builtin "list.index") [.ref l,v] H Q E:=by
 intro A s raw aO hA
 refine dG (AU aO) λ a b Gl ea eb=>?_;refine Gl.symm▸?_
 obtain rfl:=a8 ea
 refine ψ (hA.sim _ _ hl) λ items SW k2=>?_;refine Θ SW λ n k1=>?_;clear SW
 refine Θ (jr.reads hA xs rb k2) λ as r1=>?_
 refine Θ (RD.reads hA d ra eb) λ bs r2=>?_
 have SX:=PySem.SeqAt.readsAll_map xs _ _ hb r1
 have hsz:items.size=xs.length:=by
  have:=congrArg jF SX
  simpa using this
 have oL:∀m (h1:m<items.size) (h2:m<xs.length),aeU s.heap items[m]=xs[m]:=by
  intro m h1 h2
  have:=congrArg (λ l=>l[m]?) SX
  simp only[iB]at this
  rw[lr h2,lr (by simpa using h1)]at this
  exact bY this
 refine call_meets F.slot_list_index ⟨_,k1,rfl⟩ F.entry_list_index (F.args_list_index_2 _ _) (PySem.SeqAt.list_indexAt l items n none #[] b (λ y=>eW (aeU s.heap y) d) j (by exact aH (aT hj (aU hsz.symm)) (by simp +arith only)) (zW (aZ hj hz) (by decide)) ?_ ?_) ⟨k1,?_,lx hA _ q⟩
 ·rw[oL j (by exact aH (aT hj (aU hsz.symm)) (by simp +arith only)) hj];exact hit
 ·intro m hm fq
  rw[oL m hm (by exact aZ (by assumption) (by assumption))];exact x8 m (by exact aZ (by assumption) (by assumption)) fq
 ·intro y hy
  exact(PySem.SeqAt.items_eqAt (A:=A) r1 r2 hb ha (x6 hA.units hu)) y hy
end
section
variable {k:Nat}
noncomputable def aeV:SV->PyData
 | .u=>.int 0 | .b z=>.int z | .n i=>.int i | .s x=>.str x | .o k=>.int k
noncomputable def nk(u:SV):PyData:=.tuple [.int u.tag,aeV u]
noncomputable def gB:Option Ex->PyData
 |none=>.none
 |some e=>nk (eF e)
theorem VR.rd(h:VR H v u):RD H v (nk u):=by
 obtain⟨a,rfl,h⟩:=h
 exact⟨a,_,rfl,h,rfl,by cases u <;> rfl,trivial⟩
theorem gR.lay(h:gR u):(nk u).canLay0=true:=by
 cases u with
 |s x=>have e:(PyData.str x).canLay0=true:=h.1;show(true&&((PyData.str x).canLay0&&true))=true;rw[e];rfl
 |_=>rfl
theorem Jm:(nk u).depth<=30:=by cases u <;> exact eV rfl
theorem aeW{α:Type}[BEq α][LawfulBEq α]{x y:α}:((x==y)&&true)=(y==x):=(BC _).trans BEq.comm
theorem aeX{x y:Str}:((x==y)&&true)=(y.cps.toList==x.cps.toList):=(BC _).trans (Bool.eq_iff_iff.mpr ⟨λ h=>beq_iff_eq.mpr (congrArg (·.cps.toList) (beq_iff_eq.mp h).symm),λ h=>beq_iff_eq.mpr (SJ (beq_iff_eq.mp h).symm)⟩)
theorem aeY{a b:SV}:eW (nk a) (nk b)=same b a:=by
 cases a <;> cases b <;> first |rfl |exact aeW (α:=Int)|exact aeX |exact agz
theorem zm:eW (gB p) (nk u)=hit u p:=by
 cases p with
 |none=>rfl
 |some e=>exact aeY
theorem oO:eW (gB p) .none=p.isNone:=by
 cases p with
 |none=>rfl
 |some e=>rfl
def nu(H:AH)(w:Value)(p:Option Ex):Prop:=cQ (λ w e=>VR H w (eF e)) w p
theorem nu.fz(F:Fz H H')(h:nu H w p):nu H' w p:=cQ.map (λ _ _ z=>z.fz F) h
theorem nu.rd(h:nu H w p):RD H w (gB p):=by
 cases p with
 |none=>exact(h:w=.none)
 |some e=>exact VR.rd h
theorem eC.lay(h:eC p):(gB p).canLay0=true:=by
 cases p with
 |none=>rfl
 |some e=>
  refine gR.lay (u:=eF e) ?_
  cases e with
  |str t=>have:t=⟨⟨[97]⟩⟩:=h;subst this;exact⟨l8.mpr (by decide),by decide⟩
  |num i=>trivial
  |cM=>trivial
  |dA n x=>exact h.elim
inductive wz(u:SV)(p1 p2:Option Ex):Prop
 |a (h1:hit u p1=true) (e:eG u p1 p2=0):wz u p1 p2
 |b (h1:hit u p1=false) (h2:hit u p2=true) (e:eG u p1 p2=1):wz u p1 p2
 |c (h1:hit u p1=false) (h2:hit u p2=false) (n1:p1.isNone=true) (e:eG u p1 p2=0):wz u p1 p2
 |d (h1:hit u p1=false) (h2:hit u p2=false) (n1:p1.isNone=false) (n2:p2.isNone=true) (e:eG u p1 p2=1):wz u p1 p2
 |z (h1:hit u p1=false) (h2:hit u p2=false) (n1:p1.isNone=false) (n2:p2.isNone=false) (e:eG u p1 p2=2):wz u p1 p2
theorem chK{u:SV}{p1 p2:Option Ex}(tA:p1=none->p2≠none):wz u p1 p2:=by
 cases h1:hit u p1 with
 |true=>exact .a h1 (if_pos h1)
 |false=>
  have e1:eG u p1 p2=_:=if_neg (Bool.eq_false_iff.mp h1)
  cases h2:hit u p2 with
  |true=>exact .b h1 h2 (e1.trans (if_pos h2))
  |false=>
   replace e1:=e1.trans (if_neg (Bool.eq_false_iff.mp h2))
   cases p2 with
   |none=>cases p1 with
    |none=>exact absurd rfl (tA rfl)
    |some e=>exact .d h1 h2 rfl rfl e1
   |some e'=>cases p1 with
    |none=>exact .c h1 h2 rfl e1
    |some e=>exact .z h1 h2 rfl rfl e1
theorem aeZ{E:Value->AH->Prop}{l:Addr}{z:Bool}{w1 w2 v:Value}{p1 p2:Option Ex}{j:Nat}(hl:H l=some (.κ z [w1,w2]))(r1:nu H w1 p1)(r2:nu H w2 p2)(fY:eC p1)(b_:eC p2)(hv:RD H v d)(hd:d.canLay0=true)(n_:d.depth<=30)
  (hj:(j=0/\eW (gB p1) d=true)\/(j=1/\eW (gB p1) d=false/\eW (gB p2) d=true)) (q:Q (.int j 0) H):μ g k (.builtin "list.index") [.ref l,v] H Q E:=by
 have lay:i4 [gB p1,gB p2]=true:=by simp only[i4,fY.lay,b_.lay,Bool.and_self]
 rcases hj with ⟨rfl,h⟩|⟨rfl,h,h'⟩
 ·exact μ.index (xs:=[gB p1,gB p2]) (j:=0) hl ⟨r1.rd,r2.rd,trivial⟩ hv lay hd n_ (by decide:2<1000) (by decide:0<2) h (λ m _ fq=>absurd fq (EM m)) q
 ·exact μ.index (xs:=[gB p1,gB p2]) (j:=1) hl ⟨r1.rd,r2.rd,trivial⟩ hv lay hd n_ (by decide:2<1000) (by decide:1<2) h' (λ m _ fq=>by cases Nat.lt_one_iff.mp fq;exact h) q
theorem Cd{c:Cx}{m:Lc}{Q:Value->Lc->AH->Prop}{X:Value->Lc->AH->Prop}{l:Addr}{z:Bool}{w1 w2 v:Value}{p1 p2:Option Ex}(hl:H l=some (.κ z [w1,w2]))(r1:nu H w1 p1)(r2:nu H w2 p2)(fY:eC p1)(b_:eC p2)(hv:RD H v d)(hd:d.canLay0=true)(n_:d.depth<=30)
  (e1:eW (gB p1) d=b1) (e2:eW (gB p2) d=b2) (q:Q (.bool (b1||b2)) m H):Ω g c (cJ .In) v (.ref l) m H Q X:=by
 refine Ω.inl (xs:=[gB p1,gB p2]) (d:=d) ⟨l,_,_,rfl,hl,r1.rd,r2.rd,trivial⟩ hv (by simp only[i4,fY.lay,b_.lay,Bool.and_self]) hd n_ ?_
 rw[List.any_cons,List.any_cons,List.any_nil,e1,e2,RZ]
 exact q
end
section
variable {k:Nat}
theorem at2{α:Type}{a b x:α}{i:Nat}(h:[a,b][i]?=some x):(i=0/\x=a)\/(i=1/\x=b):=by
 rcases i with _ |_ |i
 ·exact .inl ⟨rfl,(bY h).symm⟩
 ·exact .inr ⟨rfl,(bY h).symm⟩
 ·exact nN h
inductive Jn(H:AH)(m0:Lc)(n:Nat)(m':Lc)(H':AH):Prop
 |mk (l:Addr) (z:Bool) (ws:List Value) (e:sub ((284,.ref l)::m0) m') (E:Ext H H') (h:H' l=some (.κ z ws)) (hn:2=ws.length+n) (hc:n<2):Jn H m0 n m' H'
inductive SY(H:AH)(m0:Lc)(us:List Value)(i:Nat)(m':Lc)(H':AH):Prop
 |mk (l:Addr) (e:m'=m0++[(12,.ref l)]) (E:Ext H H') (h:H' l=some (.κ true (us.take i))):SY H m0 us i m' H'
theorem ae0{fM:Addr}{z:Bool}{c1 c2 v1 v2 vv:Value}{p1 p2:Option Ex}{u:SV}(ly:H fM=some (.κ z [c1,c2]))(jN:my ν H c1 p1 v1)(zo:my ν H c2 p2 v2)(fY:eC p1)(b_:eC p2)(tA:p1=none->p2≠none)(hu:VK H vv u)(hk:2<=k)
  (hq:∀H' l,Ext H H'->H' l=some (.κ true ([v1,v2].drop (eG u p1 p2)))->Q (.ref l) H'):μ g k (.ref 1571) [.ref fM,vv] H Q X:=by
 refine μ.en (fT 102 rfl) rfl hk λ c o _=>?_
 have r7:∀(i:Nat) x,[c1,c2][i]?=some x->∃p v,[p1,p2][i]?=some p/\[v1,v2][i]?=some v/\my ν H x p v/\eC p:=λ i x h=>by
  rcases at2 h with ⟨rfl,rfl⟩|⟨rfl,rfl⟩
  ·exact⟨p1,v1,rfl,rfl,jN,fY⟩
  ·exact⟨p2,v2,rfl,rfl,zo,b_⟩
 ktf_call"g"
 refine mm.ac o ?_
 ktf_call"g"
 refine KV.i (yG (λ i w H'=>∃p,[p1,p2][i]?=some p/\nu H' w p) (Goes.list ly) (λ _ E=>E _ _ ly) (by exact eV rfl) (λ i x H' aN cY hx E=>V.ma ?_) (λ i w H₁ ο F ae1=>ψ ae1 λ p e r=>⟨p,e,r.fz F⟩) λ l H1 vs hl E h1 h2 h3=>?_)
 ·obtain⟨p,v,hp,_,yK,hw⟩:=r7 i x hx
  cases yK.fz E.fz with|mk cx t np ht=>?_
  ktf_call"g"
  cases p with
  |none=>
   have:t=.none:=ht
   refine this.symm▸?_
   ktf_call"g"
   exact KV.i ⟨rfl,Ext.refl,none,hp,rfl⟩
  |some e=>
   have het:ER (some ν) H' t e:=ht
   ktf_call"g"
   refine mm.e0 (ER.ne het) ?_
   ktf_call"g"
   refine mm.ca rfl rfl rfl ?_
   ktf_call"g"
   ktf_call"lt"
   ktf_call"T";intro H1 b1 E1 _ _
   ktf_call"g"
   ktf_call"lt"
   ktf_call"T";intro H2 b2 E2 _ _
   ktf_call"g"
   ktf_call"lt"
   ktf_call"T";intro H3 b3 E3 _ _
   ktf_call"g"
   ktf_call"lt"
   ktf_call"T";intro H4 b4 E4 _ _
   ktf_call"g"
   ktf_call"T";intro H5 b5 E5 _
   have j6:=(E1.trans E2).trans ((E3.trans E4).trans E5)
   clear E1 E2 E3 E4 E5
   have zk:=np.fz j6.fz
   ktf_call"g"
   refine SK rfl (het.fz j6.fz) (λ n x z=>by subst z;exact hw.elim) (o.k rfl) λ H6 a w t6 E6 ha hvr _=>?_
   ktf_call"g"
   exact KV.i ⟨rfl,j6.trans E6,some e,hp,hvr⟩
 obtain⟨w1,w2,rfl⟩:=yV h2
 obtain⟨q1,e1,r1⟩:=h3 0 w1 rfl
 obtain⟨q2,e2,r2⟩:=h3 1 w2 rfl
 cases e1
 cases e2
 have ae2:=E _ _ ly
 have pV:=hu.r.fz E.fz
 have oQ:=gR.lay hu.ok
 clear h2 h3
 refine mm.aP o 1 rfl ?_
 refine mm.mW (st':=[]) (Jn H [(243,.ref fM)] (eG u p1 p2)) (λ R hR=>?_) ?_
 ·ktf_call"g"
  refine mm.oc (Cd h1 r1 r2 fY b_ pV.rd oQ Jm zm zm ?_)
  refine mm.aP o 1 rfl ?_
  have sl:∀{lo:PE}{v:Value}{d:PyData}{D:List It},(∀D' st,M g c (RK Q) (XK X) D' (v::st) [(243,.ref fM),(70,vv),(284,.ref l)] H1->M g c (RK Q) (XK X) (.v lo::D') st [(243,.ref fM),(70,vv),(284,.ref l)] H1)->RD H1 v d->d.canLay0=true->d.depth<=30->
    (eG u p1 p2=0/\eW (gB p1) d=true)\/(eG u p1 p2=1/\eW (gB p1) d=false/\eW (gB p2) d=true)->(∀m' H',Jn H [(243,.ref fM)] (eG u p1 p2) m' H'->M g c (RK Q) (XK X) D [] m' H')->
    M g c (RK Q) (XK X) (.ss [PS.Φ 284 ((PE.θ 284).dT (some ((PE.θ 284).au 298 [lo])) none none)]::D) [] [(243,.ref fM),(70,vv),(284,.ref l)] H1:=by
   intro lo v d D i7 hv hd n_ hj hD
   have hn:2=([w1,w2].drop (eG u p1 p2)).length+eG u p1 p2/\eG u p1 p2<2:=by rcases hj with ⟨e,_⟩|⟨e,_⟩ <;> (rw[e];exact⟨rfl,by decide⟩)
   ktf_call"g"
   refine mm.kJ true ?_
   ktf_call"g"
   refine mm.ml PySem.F.slot_list_index PySem.F.type_list_index h1 ?_
   refine mm.aP o 1 rfl ?_
   refine i7 _ _ ?_
   ktf_call"g"
   refine aeZ h1 r1 r2 fY b_ hv hd n_ hj ?_
   ktf_call"g"
   refine mm.tl h1 (by exact(by decide:2<=1000)) λ y H2 hy E2 cz=>?_
   refine mm.aP o 2 rfl ?_
   refine hD _ _ ?_
   exact⟨y,true,_,⟨rfl,rfl,trivial⟩,E.trans E2,cz,hn.1,hn.2⟩
  have lc:∀D' st,M g c (RK Q) (XK X) D' (vv::st) [(243,.ref fM),(70,vv),(284,.ref l)] H1->M g c (RK Q) (XK X) (.v (.θ 70)::D') st [(243,.ref fM),(70,vv),(284,.ref l)] H1:=λ _ _ h=>mm.aP o 1 rfl h
  have nc:∀D' st,M g c (RK Q) (XK X) D' (.none::st) [(243,.ref fM),(70,vv),(284,.ref l)] H1->M g c (RK Q) (XK X) (.v .az::D') st [(243,.ref fM),(70,vv),(284,.ref l)] H1:=λ _ _ h=>mm.aP o 1 rfl h
  cases chK (u:=u) (p1:=p1) (p2:=p2) tA with
  |a i1 e=>
   refine mm.i1 (by rw[i1];rfl) ?_
   exact sl lc pV.rd oQ Jm (.inl ⟨e,zm.trans i1⟩) λ m' H' h=>mm.k (hR _ _ h)
  |b i1 i2 e=>
   refine mm.i1 (by rw[i1,i2];rfl) ?_
   exact sl lc pV.rd oQ Jm (.inr ⟨e,zm.trans i1,zm.trans i2⟩) λ m' H' h=>mm.k (hR _ _ h)
  |c i1 i2 n1 e=>
   refine mm.i0 (by rw[i1,i2];rfl) ?_
   ktf_call"g"
   refine mm.oc (Cd h1 r1 r2 fY b_ (d:=.none) rfl rfl (by decide) oO oO ?_)
   refine mm.aP o 1 rfl ?_
   refine mm.i1 (by rw[n1];rfl) ?_
   exact sl (d:=.none) nc rfl rfl (by decide) (.inl ⟨e,oO.trans n1⟩) λ m' H' h=>mm.aP o 1 rfl (mm.k (hR _ _ h))
  |d i1 i2 n1 n2 e=>
   refine mm.i0 (by rw[i1,i2];rfl) ?_
   ktf_call"g"
   refine mm.oc (Cd h1 r1 r2 fY b_ (d:=.none) rfl rfl (by decide) oO oO ?_)
   refine mm.aP o 1 rfl ?_
   refine mm.i1 (by rw[n1,n2];rfl) ?_
   exact sl (d:=.none) nc rfl rfl (by decide) (.inr ⟨e,oO.trans n1,oO.trans n2⟩) λ m' H' h=>mm.aP o 1 rfl (mm.k (hR _ _ h))
  |z i1 i2 n1 n2 e=>
   refine mm.i0 (by rw[i1,i2];rfl) ?_
   ktf_call"g"
   refine mm.oc (Cd h1 r1 r2 fY b_ (d:=.none) rfl rfl (by decide) oO oO ?_)
   refine mm.aP o 1 rfl ?_
   refine mm.i0 (by rw[n1,n2];rfl) ?_
   ktf_call"g"
   ktf_call"lt"
   ktf_call"T";intro H2 y E2 _ hy
   ktf_call"g"
   exact hq _ y (E.trans E2) (by rw[e];exact hy)
 clear h1 ae2 pV oQ r1 r2 hu
 intro m' H2 ae3;obtain⟨l',z',ws,hm,E2,mY,hn,hc⟩:=ae3
 refine mm.fr hm ?_
 have S0:=E2 _ _ ly
 ktf_call"g"
 ktf_call"lt"
 ktf_call"T";intro H3 y E3 _ hy
 have dW:=E3 _ _ mY
 have Jo:=E3 _ _ S0
 have zp:=E2.trans E3
 clear E2 E3 mY S0
 ktf_call"g"
 refine mm.kJ true ?_
 ktf_call"g"
 refine μ.len_list Jo (hW rfl) ?_
 ktf_call"g"
 refine μ.len_list dW (cI (hn▸cK _ _:ws.length<=2) (by decide)) ?_
 ktf_call"g"
 generalize eG u p1 p2=n at hn hc hq
 have S4:(([c1,c2].length:Nat):Int)-(ws.length:Int)=(n:Int):=by show((2:Nat):Int)-_=_;omega
 rw[S4]
 refine mm.tl Jo (by exact(by decide:2<=1000)) λ y2 H4 _ E4 Jp=>?_
 have S5:=zp.trans E4
 replace hy:=E4 _ _ hy
 clear Jo dW hn S4 zp E4
 ktf_call"g"
 refine mm.fo (Goes.list Jp) (m0:=[(243,.ref fM),(284,.ref l'),(12,.ref y)]) (I:=SY H4 [(243,.ref fM),(284,.ref l')] ([v1,v2].drop n)) (by exact⟨rfl,rfl,rfl,trivial⟩) ⟨y,rfl,Ext.refl,hy⟩ ?_ ?_
 ·intro i x _ H' ae4 hx;obtain⟨lo,rfl,E5,i7⟩:=ae4
  refine⟨E5 _ _ Jp,?_⟩
  obtain⟨p,v,_,hv,yK,_⟩:=r7 (n+i) x (by rw[<- List.getElem?_drop];exact hx)
  cases yK.fz (S5.trans E5).fz with|mk cx t np ht=>?_
  ktf_call"g"
  refine mm.kJ true ?_
  ktf_call"g"
  refine mm.ks np λ kl eB=>?_
  ktf_call"g"
  refine mm.tl (i:=1) eB (by exact(by decide:2<=1000)) λ y3 H5 _ E6 Jq=>?_
  ktf_call"g"
  refine mm.ob (Ω.AL (z2:=true) (E6 _ _ i7) Jq ?_ λ y4 hy4=>?_)
  ·exact Ψ (vM ((Jr _ _).trans (S6 n [v1,v2])).length_le 1) (by decide:3<=1000)
  ktf_call"g"
  refine⟨_,by exact⟨rfl,rfl,rfl,trivial⟩,y4,rfl,E5.trans (E6.trans (Ext.new hy4)),?_⟩
  rw[ah,SE,List.getElem?_drop,hv]
  rfl
 ·intro _ H' ae5;obtain⟨lo,rfl,E5,i7⟩:=ae5
  refine⟨E5 _ _ Jp,?_⟩
  ktf_call"g"
  refine hq _ lo (S5.trans E5) ?_
  rw[GP (by rw[x7,x7];exact bK _)]at i7
  exact i7
end
section
variable {k:Nat}{W:WA}{s:LS}
theorem mm.gv{c:Cx}{Q:bJ->Lc->AH->Prop}{X:Value->Lc->AH->Prop}{D:List It}{e:PE}{st:List Value}(G:Gh g H H')(h:M g c Q X (.v e::D) st m H'):M g c Q X (.v e::D) st m H:=(V.pre G h:V g c e m H (λ v m' aD=>M g c Q X D (v::st) m' aD) X)
theorem mm.pf{c:Cx}{m:Lc}{D:List It}{vs:List Value}{fr:Fm}{Q:bJ->Lc->AH->Prop}{X:Value->Lc->AH->Prop}(R:WR ν H W E0 as s)(hl:as.length<1000)(hv:gy ν H vs fr)
  (h:∀H' b,Fz H H'->WR ν H' W E0 (b::as) ⟨fr::s.fs,s.σ⟩->M g c Q X D [] m H'):
  M g c Q X (.go (.κ false) vs::.arg [] [.ref W.fa] (.call (.builtin "list.append"))::.pop::D) [] m H:=by
 obtain⟨x1,x2,x3,e,_⟩:=hv.kd
 have hb:fE vs.length 1000=true:=by rw[e];rfl
 refine mm.ln hb λ H1 b E nb cN=>?_
 refine ag (R.push E nb cN (hv.fz E.fz)) λ R2 F2=>?_
 refine mm.af (?_:M _ _ _ _ _ _ _ _)
 refine mm.go (μ.append (E _ _ R.fa) (nj hl) ?_)
 exact h _ _ (E.fz.trans F2) R2
theorem ae6{c:Cx}{wa:Addr}{z:Bool}{xs:List Value}{Fin:Value->AH->Prop}(h:H wa=some (.κ z xs))(hlen:xs.length<=500)
  (fin:∀a,H a=none->Fin (.ref a) (ξ H a (.κ false (xs.filter λ x=>!(x==.none))))):pn g c (.θ 18) 18 [.υ (.θ 18) .IsNot .az] (.ref wa) H Fin:=by
 refine⟨xs,_,Goes.list h,λ a ha=>⟨λ i vs H'=>H'=ξ H a (.κ false vs)/\vs=(xs.take i).filter λ x=>!(x==.none),⟨rfl,rfl⟩,⟨?_,?_⟩,?_⟩⟩
 ·intro i x vs H' ae7 h1 hx;obtain⟨rfl,rfl⟩:=ae7
  refine⟨cu h ha,Ψ (ae8 _ _) (Ψ (Jr _ _).length_le (Ψ hlen (by decide))),λ aN cY hn=>?_⟩
  have et:xs.take (i+1)=xs.take i++[x]:=by rw[SE,hx];rfl
  have T:Ta g ⟨c.k,none,aN,cY,c.fe⟩ (ξ H a (.κ false ((xs.take i).filter λ x=>!(x==.none)))) [(18,x)] (.υ (.θ 18) .IsNot .az) (!(x==.none)):=λ Q X R hR=>by
   ktf_call"g"
   exact hR
  refine T.t ⟨rfl,h1,?_⟩
  rw[et,List.filter_append]
  cases hz:x==.none with
  |true=>
   rw[if_neg (by decide),List.filter_cons_of_neg (by rw[hz];decide)]
   exact⟨rfl,(E_ _).symm⟩
  |false=>
   rw[if_pos (by decide),S7 (by rw[hz];rfl)]
   exact V.θ rfl ⟨rfl,h1,l7,rfl⟩
 ·intro vs H' ae9;obtain⟨rfl,_⟩:=ae9
  exact cu h ha
 ·intro vs H' ae_ h1;obtain⟨rfl,rfl⟩:=ae_
  rw[List.take_length]
  exact fin a ha
end
section
variable {k:Nat}{W:WA}
theorem WE.gR{e:Ex}(h:WE e):∀t,e=.str t->gR (.s t):=by
 rintro t rfl
 have:t=⟨⟨[97]⟩⟩:=h
 refine this.symm▸?_
 exact⟨l8.mpr (by decide),by decide⟩
inductive tB(ν:Addr->Int)(H:AH)(v:Value):St->Prop
 |ex {e:Ex} (x:Addr) (ev:Value) (np:NP (some ν) H v x 43 (.str s_ 0) [ev]) (er:ER (some ν) H ev e) (we:WE e):tB ν H v (.ex e)
 |ret {e:Ex} (x:Addr) (ev:Value) (np:NP (some ν) H v x 52 (.str s_ 0) [ev]) (er:ER (some ν) H ev e) (we:WE e):tB ν H v (.ret e)
 |aw {e:Ex} (x:Addr) (ev:Value) (np:NP (some ν) H v x 56 (.str s_ 0) [ev]) (er:ER (some ν) H ev e) (we:WE e):tB ν H v (.aw e)
 |iff {e:Ex}{a:List St}{b:Option St} (x:Addr) (ev av bv:Value) (np:NP (some ν) H v x 44 (.str s_ 0) [ev,av,bv]) (er:ER (some ν) H ev e) (we:WE e) (n:Nat) (L M:List Str) (ha:BR (some ν) H (SR (some ν) H n) av a) (wa:lP n L M a) (hb:cQ (λ v s=>fN ν H v (.st s)) bv b):tB ν H v (.iff e a b)
 |sw {e:Ex}{p1 p2:Option Ex}{s1 s2:St} (x:Addr) (ev c1 c2 v1 v2:Value) (np:NP (some ν) H v x 50 (.str s_ 0) [ev,c1,c2]) (er:ER (some ν) H ev e) (we:WE e) (jN:my ν H c1 p1 v1) (zo:my ν H c2 p2 v2) (w1:eC p1) (w2:eC p2) (tA:p1=none->p2≠none) (i1:fN ν H v1 (.st s1)) (i2:fN ν H v2 (.st s2)):tB ν H v (.sw e p1 s1 p2 s2)
theorem ae'{r:Except SV SV×Sg}{fs:List Fm}{f:SV->List Fm×Ot}{u:SV}(h:r.1=.ok u):kP r fs f=(⟨(f u).1,r.2⟩,(f u).2):=by unfold kP;rw[h]
theorem afa{r:Except SV SV×Sg}{fs:List Fm}{f:SV->List Fm×Ot}{u:SV}(h:r.1=.error u):kP r fs f=(⟨fs,r.2⟩,.aw u):=by unfold kP;rw[h]
noncomputable def vK(k:Int):Bool:=k==43||k==44||k==50||k==52||k==56
theorem tC{k j:Int}(h:vK k=true)(hj:vK j=false):(k==j)=false:=Bool.eq_false_iff.mpr λ e=>by rw[eq_of_beq e,hj]at h;exact nF h
theorem zq{c:Cx}{v ev a:Value}{x:Addr}{kd:Int}{rest:List Value}{e:Ex}{f:SV->List Fm×Ot}{X:Value->AH->Prop}(o:Fc c 3)(R:WR ν H W E0 as s)(np:NP (some ν) H v x kd a (ev::rest))(er:ER (some ν) H ev e)(he:WE e)(hk:vK kd=true)
  (hl:s.fs.length<800) (cz:s.σ.seen.length<2 ^ 18) (dW:s.σ.aj.length<2 ^ 18) (hq:∀H' w,Gives ν W E0 H (kP (dm ν (aB E0 s.fs) e s.σ) s.fs f) w H'->Q w H')
  (h:∀H' w t u,Fz H H'->VK H' w u->WR ν H' W E0 as ⟨s.fs,(dm ν (aB E0 s.fs) e s.σ).2⟩->(∀aD w,Gives ν W E0 H' (⟨(f u).1,(dm ν (aB E0 s.fs) e s.σ).2⟩,(f u).2) w aD->Q w aD)->
   M g c (RK Q) (XK X) [.ss (xX.drop 11)] [] [(288,.ref W.w),(14,v),(292,.ref W.fa),(1,.int kd 0),(70,w),(294,t)] H'):
  M g c (RK Q) (XK X) [.ss (xX.drop 2)] [] [(288,.ref W.w),(14,v),(292,.ref W.fa)] H:=by
 ktf_call"g"
 refine mm.o0 (tC hk rfl) ?_
 ktf_call"g"
 refine mm.i0 (tC hk rfl) ?_
 ktf_call"g"
 refine mm.i0 (tC hk rfl) ?_
 ktf_call"g"
 refine mm.i0 (tC hk rfl) ?_
 ktf_call"g"
 refine mm.i0 (tC hk rfl) ?_
 ktf_call"g"
 refine mm.o0 (tC hk rfl) ?_
 ktf_call"g"
 refine mm.i0 (tC hk rfl) ?_
 ktf_call"g"
 refine mm.bq (b2:=ev==.none) (λ Q X R hR=>?_) ?_
 ·ktf_call"g";exact hR
 rw[er.ne,FG]
 ktf_call"g"
 refine aeJ R er he.gR (aZ hl (by decide)) cz dW (by ktf_call"k") λ H' b w t F hb hv R'=>?_
 have vy:TA H' b [w,t]:=.inl hb
 ktf_call"g"
 cases hr:(dm ν (aB E0 s.fs) e s.σ).1 with
 |error u=>
  rw[hr]at hv
  rw[afa hr]at hq
  cases hv with|er h1 hs=>?_
  cases id hs with|aw sa uw es oN hu=>?_
  subst es
  ktf_call"g"
  refine mm.tr (bH.φ oN (by exact(by decide:2<2 ^ 60)) ?_)
  ktf_call"g"
  exact hq _ _ ⟨F,hs,_,R'⟩
 |ok u=>
  rw[hr]at hv
  rw[ae' hr]at hq
  cases hv with|ok hvk hs=>?_
  cases hs with|χ ta et Ce=>?_
  refine et.symm▸?_
  ktf_call"g"
  refine mm.tr (bH.φ Ce (by decide) ?_)
  refine mm.aP o 2 rfl ?_
  exact h H' w (.ref ta) u F hvk R' λ aD w G=>hq _ _ (G.pre F)
noncomputable def pt:SV->Bool
 | .u=>false | .b z=>z != 0 | .n i=>i != 0 | .s x=>(x.length:Int) != 0 | .o k=>(k:Int) != 0
theorem afb:((u.tag==6)||pt u)=cM u:=by
 cases u with
 |s y=>
  obtain⟨⟨l⟩⟩:=y
  cases l with
  |nil=>rfl
  |cons a l=>exact bne_iff_ne.mpr (Int.natCast_ne_zero.mpr (Nat.succ_ne_zero l.length))
 |_=>rfl
inductive S8(ν:Addr->Int)(H:AH)(dJ:List Wi)(v:Value)(H':AH):Prop
 |mk (y:Addr) (xs:List Value) (e:v=.ref y) (E:Ext H H') (h:H' y=some (.κ true xs)) (hn:xs.length<=5) (r:ak (fN ν H') (xs.filter λ x=>!(x==.none)) dJ):S8 ν H dJ v H'
theorem fN.nn(h:fN ν H v it):(v==.none)=false:=by
 cases h with
 |bl n L M h w=>exact h.ne.1
 |st n L M h w=>obtain⟨x,kind,a,kv,Cc,np,_⟩:=h.Bw;exact np.ne
theorem afc{c:Cx}{X:Value->AH->Prop}{v:Value}{st:St}(o:Fc c 3)(R:WR ν H W E0 as s)(h:tB ν H v st)(hl:s.fs.length<800)(cz:s.σ.seen.length<2 ^ 18)(dW:s.σ.aj.length<2 ^ 18)
  (hq:∀H' w,Gives ν W E0 H (BZ ν E0 s.fs s.σ st) w H'->Q w H'):M g c (RK Q) (XK X) [.ss (xX.drop 2)] [] [(288,.ref W.w),(14,v),(292,.ref W.fa)] H:=by
 cases h with
 |ex x ev np er we=>
  refine zq (f:=λ _=>(s.fs,.χ)) o R np er we rfl hl cz dW hq λ H' w t u F hv R' ft=>?_
  ktf_call"g"
  ktf_call"T";intro H3 b3 E3 eL
  ktf_call"g"
  exact ft _ _ ⟨E3.fz,.χ b3 rfl eL,_,R'.ext E3⟩
 |ret x ev np er we=>
  refine zq (f:=λ v=>(s.fs,.ret v)) o R np er we rfl hl cz dW hq λ H' w t u F hv R' ft=>?_
  ktf_call"g"
  ktf_call"T";intro H3 b3 E3 eL
  ktf_call"g"
  exact ft _ _ ⟨E3.fz,.ret b3 w rfl eL (hv.fz E3.fz),_,R'.ext E3⟩
 |aw x ev np er we=>
  refine zq (f:=λ v=>(s.fs,.aw v)) o R np er we rfl hl cz dW hq λ H' w t u F hv R' ft=>?_
  ktf_call"g"
  ktf_call"T";intro H3 b3 E3 eL
  ktf_call"g"
  exact ft _ _ ⟨E3.fz,.aw b3 w rfl eL (hv.fz E3.fz),_,R'.ext E3⟩
 | @iff e a b x ev av bv np er we n L M ha wa hb=>
  refine zq (f:=λ v=>(.s (if cM v=true then[.bl a]else b.toList.map .st)::s.fs,.χ)) o R np er we rfl hl cz dW hq λ H' w t u F hv R' ft=>?_
  have eY:=np.fz F
  have oJ:=BR.fz F ha
  have cN:=hb.map λ _ _ z=>fN.fz F z
  have dC:as.length<800:=R.fr.len▸hl
  clear np ha hb R er
  obtain⟨wv,ew,hwa⟩:=hv.r
  refine ew.symm▸?_
  ktf_call"g"
  refine mm.bp (b2:=pt u) (λ Q X R hR=>?_) ?_
  ·cases u with
   |s y=>
    ktf_call"g"
    refine mm.tr (bH.str (Int.ofNat_lt.mpr (aZ hv.ok.2 (by decide))) ?_)
    ktf_call"g"
    exact hR
   |_=>ktf_call"g";exact hR
  rw[afb]
  refine mm.vt (st':=[]) (S8 ν H' (if cM u=true then[.bl a]else b.toList.map .st)) (λ R'' hR=>?_) ?_
  ·cases ht:cM u with
   |true=>
    refine mm.e1 rfl ?_
    refine mm.kJ true ?_
    ktf_call"g"
    refine mm.ks eY λ kl eB=>?_
    ktf_call"g"
    refine mm.oq (some 1) (some 2) none eB (by decide) (by exact(by decide:3<=100000)) λ y hy=>?_
    rw[show iE [ev,av,bv] (some 1) (some 2) none=[av]from ahC [ev,av,bv] 1 2 (by exact(by decide:2<=3)) (by decide)]
    ktf_call"g"
    refine hR _ _ ⟨y,[av],rfl,Ext.new hy,ah,(by decide:1<=5),?_⟩
    have i1:fN ν (ξ H' y (.κ true [av])) av (.bl a):=.bl n L M (BR.fz (Ext.new hy).fz oJ) wa
    rw[S7 (by rw[i1.nn];rfl),if_pos ht]
    exact⟨i1,trivial⟩
   |false=>
    refine mm.e0 rfl ?_
    refine mm.kJ true ?_
    ktf_call"g"
    refine mm.ks eY λ kl eB=>?_
    ktf_call"g"
    refine mm.tl (i:=2) eB (by exact(by decide:3<=1000)) λ y H1 _ E1 hy=>?_
    ktf_call"g"
    refine hR _ _ ⟨y,[bv],rfl,E1,hy,(by decide:1<=5),?_⟩
    rw[if_neg (by rw[ht];decide)]
    cases b with
    |none=>
     have:bv=.none:=cN
     refine this.symm▸?_
     exact trivial
    |some st=>
     have i1:fN ν H1 bv (.st st):=fN.fz E1.fz cN
     rw[S7 (by rw[i1.nn];rfl)]
     exact⟨i1,trivial⟩
  intro v1 H1 afd;obtain⟨y,xs,e,E1,hy,hn,r⟩:=afd
  refine e.symm▸?_
  have R1:=R'.ext E1
  have cH:=R1.fa
  ktf_call"g"
  ktf_call"lf"
  refine mm.cp o ?_
  ktf_call"g"
  refine KV.i (ae6 hy (Ψ hn (by decide)) λ a1 hna=>?_)
  refine mm.aP o 2 rfl ?_
  refine mm.gv (Gh.fl (z:=true) ah) ?_
  rw[l7]
  have E2:Ext H1 (ξ H1 a1 (.κ true (xs.filter λ x=>!(x==.none)))):=Ext.new hna
  ktf_call"g"
  refine mm.pf (R1.ext E2) (aZ dC (by decide)) (fr:=.s (if cM u=true then[.bl a]else b.toList.map .st)) (.s a1 _ 0 rfl ah (r.map λ _ _ z=>z.fz E2.fz) (gj _) (Ψ (ae8 _ _) (Ψ hn (by decide)))) λ H3 b3 F3 R3=>?_
  ktf_call"g"
  ktf_call"T";intro H4 b4 E4 oM
  ktf_call"g"
  exact ft _ _ ⟨((E1.trans E2).fz.trans F3).trans E4.fz,.χ b4 rfl oM,_,R3.ext E4⟩
 | @sw e p1 p2 s1 s2 x ev c1 c2 v1 v2 np er we jN zo w1 w2 tA i1 i2=>
  refine zq (f:=λ v=>(.s (([s1,s2].drop (eG v p1 p2)).map .st)::.w::s.fs,.χ)) o R np er we rfl hl cz dW hq λ H' w t u F hv R' ft=>?_
  have dC:as.length<800:=R.fr.len▸hl
  have cH:=R'.fa
  ktf_call"g"
  ktf_call"lf"
  refine mm.pf R' (aZ dC (by decide)) (.w rfl) λ H2 b2 F2 R2=>?_
  have fu:=F.trans F2
  have fL:=np.fz fu
  have B7:=R2.fa
  ktf_call"g"
  ktf_call"lf"
  refine mm.kJ true ?_
  ktf_call"g"
  refine mm.ks fL λ kl eB=>?_
  ktf_call"g"
  refine mm.tl (i:=1) eB (by exact(by decide:3<=1000)) λ y H3 _ E3 Jq=>?_
  have sR:=fu.trans E3.fz
  ktf_call"g"
  refine ae0 Jq (jN.fz sR) (zo.fz sR) w1 w2 tA (hv.fz (F2.trans E3.fz)) (by ktf_call"k") λ H4 l4 E4 hl4=>?_
  have FA:=sR.trans E4.fz
  ktf_call"g"
  refine mm.pf (R2.ext (E3.trans E4)) (aZ (ko dC) (by decide)) (fr:=.s (([s1,s2].drop (eG u p1 p2)).map .st)) (.s l4 _ 0 rfl hl4 ?_ (gj _) ?_) λ H5 b5 F5 R5=>?_
  ·rw[OG,OO]
   exact ak.drop (l:=[v1,v2]) (m:=[Wi.st s1,Wi.st s2]) _ ⟨i1.fz FA,i2.fz FA,trivial⟩
  ·exact Ψ (S6 _ _).length_le (by exact(by decide:2<=100))
  ktf_call"g"
  ktf_call"T";intro H6 b6 E6 iQ
  ktf_call"g"
  exact ft _ _ ⟨((F2.trans (E3.trans E4).fz).trans F5).trans E6.fz,.χ b6 rfl iQ,_,R5.ext E6⟩
end
section
variable {k:Nat}{W:WA}
inductive j_(ν:Addr->Int)(H:AH)(v:Value):Wi->Prop
 |bl {b:List St} (n:Nat) (L M:List Str) (x:Addr) (kv:List Value) (np:NP (some ν) H v x 59 (.str s_ 0) kv) (hb:ak (SR (some ν) H n) kv b) (w:lP n L M b):j_ ν H v (.bl b)
 |dQ {b:List St}{c:Option (Option Addr×List St)}{f:Option (List St)} (n:Nat) (L M:List Str) (x:Addr) (bv cv fv:Value) (np:NP (some ν) H v x 57 (.str s_ 0) [bv,cv,fv]) (hb:BR (some ν) H (SR (some ν) H n) bv b) (hc:cQ (CR (some ν) H (SR (some ν) H n)) cv c) (hf:cQ (BR (some ν) H (SR (some ν) H n)) fv f)
   (w1:lP n L M b) (w2:∀y,c=some y->lP n L M y.2) (w3:∀y,f=some y->lP n L M y):j_ ν H v (.st (.dQ b c f))
 |hU {b:List St} (n:Nat) (L M:List Str) (x:Addr) (bv tv:Value) (np:NP (some ν) H v x 46 (.str s_ 0) [bv,tv]) (hb:BR (some ν) H (SR (some ν) H n) bv b) (w:lP n L M b):j_ ν H v (.st (.hU s_ b))
 |gq {i:Bool}{nn:Addr}{row:Row}{b:List St} (n:Nat) (L M:List Str) (x:Addr) (hv rv bv:Value) (hx:Addr) (dv:Value) (dx:Addr) (nv:Value) (np:NP (some ν) H v x (if i=true then 48 else 49) (.str s_ 0) [hv,rv,bv]) (h3:oE ν H hv dv nv hx dx nn) (rr:RR (some ν) H rv row) (wr:ou row)
   (hb:BR (some ν) H (SR (some ν) H n) bv b) (w:lP n L M b):j_ ν H v (.st (.gq s_ i nn row b))
 |brk {l:Str} (x:Addr) (np:NP (some ν) H v x 53 (.str l 0) []) (ok:bF l):j_ ν H v (.st (.brk l))
 |cnt {l:Str} (x:Addr) (np:NP (some ν) H v x 54 (.str l 0) []) (ok:bF l):j_ ν H v (.st (.cnt l))
 |dN (x:Addr) (np:NP (some ν) H v x 52 (.str s_ 0) [.none]):j_ ν H v (.st .dN)
 |val {st:St} (h:tB ν H v st):j_ ν H v (.st st)
inductive Cf(ν:Addr->Int)(E0:Ev)(H:AH)(v:Value)(it:Wi):Prop
 |c (h:j_ ν H v it):Cf ν E0 H v it
 |l (l:Str) (x:Addr) (w:Value) (oR:Wi) (np:NP (some ν) H v x 55 (.str l 0) [w]) (ok:bF l) (h:∀H',Fz H H'->j_ ν H' w oR) (e:∀fs σ,pT ν E0 fs σ it=pT ν E0 (.l l::fs) σ oR):Cf ν E0 H v it
theorem LR.la(h:LR (some ν) H l v P)(ok:bF l)(k:∀H',Fz H H'->∀v,P v->j_ ν H' v oR)(e0:l=s_->it=oR)(e:l≠s_->∀fs σ,pT ν E0 fs σ it=pT ν E0 (.l l::fs) σ oR):Cf ν E0 H v it:=by
 unfold LR at h
 split at h
 ·exact .c (e0 (by assumption)▸k _ Fz.refl _ h)
 ·obtain⟨x,w,np,hw⟩:=h
  exact .l l x w oR np ok (λ _ F=>k _ F _ hw) (e (by assumption))
theorem Js(h:l≠s_):eI l fs=eI s_ (.l l::fs):=by unfold eI;exact(if_neg h)▸(if_pos rfl)▸rfl
theorem laR(h:fN ν H v it):Cf ν E0 H v it:=by
 cases h with
 | @bl b n L M h w=>
  obtain⟨x,kv,np,hb⟩:=h
  exact .c (.bl n L M x kv np hb w)
 | @st s n L M h w=>
  obtain⟨l,m,w⟩:=w
  cases n with
  |zero=>exact h.elim
  |succ n=>
   replace h:mX (some ν) H (SR (some ν) H n) v s:=h
   replace w:l9 (WF n) L M s:=w
   cases s with
   |ex e=>obtain⟨x,w',np,er⟩:=h;exact .c (.val (.ex x w' np er w))
   |dN=>refine Θ h λ x np=>?_;clear h;exact .c (.dN x np)
   |ret e=>obtain⟨x,w',np,er⟩:=h;exact .c (.val (.ret x w' np er w))
   |aw e=>obtain⟨x,w',np,er⟩:=h;exact .c (.val (.aw x w' np er w))
   |brk y=>refine Θ h λ x np=>?_;clear h;exact .c (.brk x np (m _ w))
   |cnt y=>refine Θ h λ x np=>?_;clear h;exact .c (.cnt x np (l _ w))
   |dQ b c f=>
    obtain⟨x,bv,cv,fv,np,hb,hc,hf⟩:=h
    exact .c (.dQ n L M x bv cv fv np hb hc hf ⟨l,m,w.1⟩ (λ y e=>⟨l,m,w.2.1 y e⟩) λ y e=>⟨l,m,w.2.2 y e⟩)
   |hU y b=>
    exact LR.la h w.1 (λ H' F v hd=>by obtain⟨x,bv,tv,t,np,hb,nt⟩:=hd;exact .hU n _ _ x bv tv (np.fz F) (BR.fz F hb) ⟨l.ext w.1,m.ext w.1,w.2⟩) (λ e=>by exact e▸rfl) λ hn fs σ=>by
     show((⟨.s [.bl b]::.d::eI y fs,σ⟩:LS),Ot.χ)=_;exact(Js hn)▸rfl
   |gq y i nn r b=>
    exact LR.la h w.1 (λ H' F v hd=>by obtain⟨x,hv,rv,bv,hx,dv,dx,nv,np,eY,fL,ic,rr,hb⟩:=hd;exact .gq n _ _ x hv rv bv hx dv dx nv (np.fz F) ⟨eY.fz F,fL.fz F,ic.fz F⟩ (rr.fz F) w.2.1 (BR.fz F hb) ⟨l.ext w.1,m.ext w.1,w.2.2⟩) (λ e=>by exact e▸rfl) λ hn fs σ=>by
     cases r with
     |txt t=>show pS ν nn b (eI y fs) σ (items i t)=_;exact(Js hn)▸rfl
     |bad z=>show((⟨eI y fs,_⟩:LS),Ot.aw _)=_;exact(Js hn)▸rfl
   |kK y b=>
    obtain⟨x,w',np,x2,kv,fL,hb⟩:=h
    exact .l y x w' (.bl b) np w.1 (λ H' F=>.bl n _ _ x2 kv (fL.fz F) (hb.map λ _ _ z=>z.fz F) ⟨l,m.app w.1,w.2.2⟩) λ _ _=>rfl
   |sw e p1 s1 p2 s2=>
    obtain⟨x,ev,c1,c2,x1,t1,v1,x2,t2,v2,np,er,eY,o1,r1,fL,o2,r2⟩:=h
    obtain⟨w1,w2,w3,w4,w5,w6⟩:=w
    exact .c (.val (.sw x ev c1 c2 v1 v2 np er w1 ⟨x1,t1,eY,o1⟩ ⟨x2,t2,fL,o2⟩ w2 w4 w6 (.st n _ _ r1 ⟨l,m.app sx,w3⟩) (.st n _ _ r2 ⟨l,m.app sx,w5⟩)))
   |iff e a b=>
    obtain⟨x,ev,av,bv,np,er,ha,hb⟩:=h
    refine fg w λ w1 w2 w3=>?_;clear w
    refine .c (.val (.iff x ev av bv np er w1 n L M ha ⟨l,m,w2⟩ ?_))
    cases b with
    |none=>exact hb
    |some z=>exact(.st n L M hb ⟨l,m,w3 z rfl⟩:fN ν H bv (.st z))
theorem S9{n:Nat}{L M:List Str}:∀{kv:List Value}{b:List St},dq L->dq M->ak (SR (some ν) H n) kv b->(∀s∈b,WF n L M s)->ak (fN ν H) kv (b.map .st)
 | [],[],_,_,_,_=>trivial
 |_::_,_::_,l,m,h,w=>⟨.st n L M h.1 ⟨l,m,w _ eU⟩,S9 l m h.2 λ s hs=>w s (eA _ hs)⟩
 | [],_::_,_,_,h,_=>h.elim
 |_::_,[],_,_,h,_=>h.elim
theorem S_(o:Fc c 3)(R:WR ν H W E0 as s)(h:j_ ν H v it)(hl:s.fs.length<800)(cz:s.σ.seen.length<2 ^ 18)(dW:s.σ.aj.length<2 ^ 18)
  (hq:∀H' w,Gives ν W E0 H (pT ν E0 s.fs s.σ it) w H'->Q w H'):M g c (RK Q) (XK X) [.ss (xX.drop 2)] [] [(288,.ref W.w),(14,v),(292,.ref W.fa)] H:=by
 have dC:as.length<800:=R.fr.len▸hl
 have Jt:as.length<1000:=aZ dC (by decide)
 have tp:as.length+1<1000:=aZ (ko dC) (by decide)
 have cH:=R.fa
 cases h with
 |val h=>exact afc o R h hl cz dW hq
 | @bl b n L M x kv np hb w=>
  ktf_call"g"
  ktf_call"lf"
  refine mm.ks np λ kl eB=>?_
  ktf_call"g"
  refine mm.pf R Jt (fr:=.s (b.map .st)) (.s kl kv 0 rfl eB (S9 w.l w.m hb w.w.2.2) (gj _) (Ψ (aU hb.len) (Ψ w.w.2.1 (by decide)))) λ H2 b2 F2 R2=>?_
  ktf_call"g"
  ktf_call"T";intro H6 b6 E6 iQ
  ktf_call"g"
  exact hq _ _ ⟨F2.trans E6.fz,.χ b6 rfl iQ,_,R2.ext E6⟩
 | @dQ b cc f n L M x bv cv fv np hb hc hf w1 w2 w3=>
  have wo:=hb.ne.2
  ktf_call"g"
  ktf_call"lf"
  ktf_call"T";intro H1 b1 E1 cN
  ktf_call"g"
  have F:=E1.fz
  have en:=np.ref
  subst en
  refine mm.pf (R.ext E1) Jt (fr:=.t cc f 0 .χ) (.t x (.ref x) bv cv fv (.ref b1) n L M rfl (np.fz F) (.χ b1 rfl cN) (hc.map λ _ _ z=>z.RW F) (hf.map λ _ _ z=>BR.fz F z) w2 w3 (gj _)) λ H2 b2 F2 R2=>?_
  have fu:=F.trans F2
  have fL:=np.fz fu
  have B7:=R2.fa
  ktf_call"g"
  refine mm.ps (e:=.sub (.π (.θ 14) 3) (.int 0)) (v:=bv) (it:=.bl b) o R2 tp (λ Q X R hR=>?_) (.bl n L M (BR.fz fu hb) w1) wo λ H3 b3 F3 R3=>?_
  ·ktf_call"g";exact hR
  ktf_call"g"
  ktf_call"T";intro H6 b6 E6 iQ
  ktf_call"g"
  exact hq _ _ ⟨(fu.trans F3).trans E6.fz,.χ b6 rfl iQ,_,R3.ext E6⟩
 | @hU b n L M x bv tv np hb w=>
  ktf_call"g"
  ktf_call"lf"
  have en:=np.ref
  subst en
  refine mm.pf R Jt (fr:=.d) (.d x rfl) λ H2 b2 F2 R2=>?_
  have fL:=np.fz F2
  have B7:=R2.fa
  ktf_call"g"
  refine mm.ps (e:=.sub (.π (.θ 14) 3) (.int 0)) (v:=bv) (it:=.bl b) o R2 tp (λ Q X R hR=>?_) (.bl n L M (BR.fz F2 hb) w) (hb.ne.2) λ H3 b3 F3 R3=>?_
  ·ktf_call"g";exact hR
  ktf_call"g"
  ktf_call"T";intro H6 b6 E6 iQ
  ktf_call"g"
  exact hq _ _ ⟨(F2.trans F3).trans E6.fz,.χ b6 rfl iQ,_,R3.ext E6⟩
 | @gq i nn row b n L M x hv rv bv hx dv dx nv np h3 rr wr hb w=>
  have eT:pT ν E0 s.fs s.σ (.st (.gq s_ i nn row b))=SS ν nn b s.fs s.σ i row:=by cases row <;> rfl
  rw[eT]at hq
  have key:μ g c.k (.ref 1576) [.ref W.w,v] H Q λ v H=>X v H:=aeP R np h3 rr wr hb w (aZ hl (by decide)) cz dW (by ktf_call"k") λ H' w G=>hq _ _ G
  cases i with
  |true=>ktf_call"g";exact key
  |false=>ktf_call"g";exact key
 | @brk l x np ok=>
  ktf_call"g"
  ktf_call"T";intro H6 b6 E6 iQ
  ktf_call"g"
  exact hq _ _ ⟨E6.fz,.brk b6 rfl iQ ok,_,R.ext E6⟩
 | @cnt l x np ok=>
  ktf_call"g"
  ktf_call"T";intro H6 b6 E6 iQ
  ktf_call"g"
  exact hq _ _ ⟨E6.fz,.cnt b6 rfl iQ ok,_,R.ext E6⟩
 |dN x np=>
  ktf_call"g"
  ktf_call"T";intro H5 b5 E5 B4
  ktf_call"g"
  ktf_call"T";intro H6 b6 E6 iQ
  ktf_call"g"
  exact hq _ _ ⟨(E5.trans E6).fz,.ret b6 (.ref b5) rfl iQ ⟨⟨b5,rfl,E6 _ _ B4⟩,trivial⟩,_,R.ext (E5.trans E6)⟩
end
section
variable {k:Nat}{W:WA}
inductive S'(ν:Addr->Int)(H:AH)(v:Value):Prop
 |mk (x:Addr) (kd:Int) (a:Value) (kv:List Value) (np:NP (some ν) H v x kd a kv) (h:(kd==55)=false):S' ν H v
theorem j_.kn(h:j_ ν H v it):S' ν H v:=by
 cases h with
 |bl n L M x kv np hb w=>exact⟨x,_,_,_,np,rfl⟩
 |dQ n L M x bv cv fv np hb hc hf w1 w2 w3=>exact⟨x,_,_,_,np,rfl⟩
 |hU n L M x bv tv np hb w=>exact⟨x,_,_,_,np,rfl⟩
 | @gq i nn row b n L M x hv rv bv hx dv dx nv np h3 rr wr hb w=>exact⟨x,_,_,_,np,by cases i <;> rfl⟩
 |brk x np ok=>exact⟨x,_,_,_,np,rfl⟩
 |cnt x np ok=>exact⟨x,_,_,_,np,rfl⟩
 |dN x np=>exact⟨x,_,_,_,np,rfl⟩
 |val h=>cases h with
  |ex x ev np er we=>exact⟨x,_,_,_,np,rfl⟩
  |ret x ev np er we=>exact⟨x,_,_,_,np,rfl⟩
  |aw x ev np er we=>exact⟨x,_,_,_,np,rfl⟩
  |iff x ev av bv np er we n L M ha wa hb=>exact⟨x,_,_,_,np,rfl⟩
  |sw x ev c1 c2 v1 v2 np er we jN zo w1 w2 tA i1 i2=>exact⟨x,_,_,_,np,rfl⟩
inductive Ju(ν:Addr->Int)(W:WA)(E0:Ev)(as:List Addr)(s:LS)(H:AH)(l:Str)(v w:Value)(n:Nat)(m':Lc)(H':AH):Prop
 |a (e:n=1) (em:m'=[(288,.ref W.w),(14,v),(292,.ref W.fa)]) (eH:H'=H):Ju ν W E0 as s H l v w n m' H'
 |b (em:m'=[(288,.ref W.w),(14,w),(292,.ref W.fa)]) (F:Fz H H') (b:Addr) (R:WR ν H' W E0 (b::as) ⟨.l l::s.fs,s.σ⟩):Ju ν W E0 as s H l v w n m' H'
theorem afe(R:WR ν H W E0 as s)(hit:fN ν H v it)(hl:s.fs.length<700)(cz:s.σ.seen.length<2 ^ 18)(dW:s.σ.aj.length<2 ^ 18)(hk:4<=k)
  (hq:∀H' w,Gives ν W E0 H (pT ν E0 s.fs s.σ it) w H'->Q w H'):μ g k (.ref 1566) [.ref W.w,v] H Q X:=by
 refine μ.en (fT 101 rfl) rfl hk λ c o _=>?_
 have hw:=R.w
 have dC:as.length<700:=R.fr.len▸hl
 ktf_call"g"
 cases laR (E0:=E0) hit with
 |c h=>
  refine mm.mW (st':=[]) (λ m' H'=>m'=[(288,.ref W.w),(14,v),(292,.ref W.fa)]/\H'=H) (λ R' hR=>?_) λ m' H' ⟨e1,e2⟩=>?_
  ·refine mm.wl o (I:=λ n m' H'=>m'=[(288,.ref W.w),(14,v),(292,.ref W.fa)]/\H'=H) (n:=0) (by exact⟨rfl,rfl,rfl,trivial⟩) ⟨rfl,rfl⟩ ?_
   intro n _ _ Tc;refine ag Tc λ Fw Fx=>?_;clear Tc;refine Fw.symm▸?_;refine Fx.symm▸?_
   obtain⟨x,kd,a,kv,np,sS⟩:=h.kn
   ktf_call"g"
   refine mm.w0 sS ?_
   ktf_call"g"
   exact hR _ _ ⟨rfl,rfl⟩
  ·rw[e1,e2]
   exact S_ o R h (aZ hl (by decide)) cz dW hq
 |l l x w oR np ok h e=>
  refine mm.mW (st':=[]) (λ m' H'=>m'=[(288,.ref W.w),(14,w),(292,.ref W.fa)]/\Fz H H'/\∃b,WR ν H' W E0 (b::as) ⟨.l l::s.fs,s.σ⟩) (λ R' hR=>?_) λ m' H' ⟨e1,F,b,R1⟩=>?_
  ·refine mm.wl o (I:=Ju ν W E0 as s H l v w) (n:=1) (m0:=[(288,.ref W.w),(14,v),(292,.ref W.fa)]) (by exact⟨rfl,rfl,rfl,trivial⟩) (.a rfl rfl rfl) ?_
   intro n m' H' I
   cases I with
   |a e em eH=>
    subst em eH
    have cH:=R.fa
    ktf_call"g"
    ktf_call"lf"
    refine mm.pf R (aZ dC (by decide)) (fr:=.l l) (.l rfl ok) λ H2 b2 F2 R2=>?_
    have fL:=np.fz F2
    ktf_call"g"
    exact⟨0,[(288,.ref W.w),(14,w),(292,.ref W.fa)],by refine e▸?_;exact QS,by exact⟨rfl,rfl,rfl,trivial⟩,.b rfl F2 b2 R2⟩
   |b em F b R1=>
    refine em.symm▸?_
    obtain⟨x,kd,a,kv,np,sS⟩:=(h _ F).kn
    ktf_call"g"
    refine mm.w0 sS ?_
    ktf_call"g"
    exact hR _ _ ⟨rfl,F,b,R1⟩
  ·rw[e1]
   rw[e]at hq
   exact S_ o R1 (h _ F) (aZ (ko hl) (by decide)) cz dW λ H' w G=>hq _ _ (G.pre F)
end
section
variable {k:Nat}
theorem wA{H:AH}{a b:Addr}{o:AO}(h:H a=some o)(n:H b=none):b≠a:=λ z=>by subst z;rw[h]at n;exact nS n
structure Gr(σ:Sg)(p:LS×Ot):Prop where
 a:p.1.σ.seen.length<=σ.seen.length+1
 b:p.1.σ.aj.length<=σ.aj.length+1
theorem Gr.id{o:Ot}:Gr σ (⟨fs,σ⟩,o):=⟨gK _,gK _⟩
theorem wB{α:Type}{l:List α}{x:α}:(l++[x]).length<=l.length+1:=aU iK
theorem Td{n:Addr}{b:List St}{vs:List SV}:Gr σ (pS ν n b fs σ vs):=by
 cases vs with
 |nil=>exact Gr.id
 |cons v r=>exact⟨wB,gK _⟩
theorem aff{E:Ev}{e:Ex}{f:SV->List Fm×Ot}:Gr σ (kP (dm ν E e σ) fs f):=by
 cases e with
 |dA n x=>
  cases h:rd E n with
  |some u=>rw[HG h];exact⟨wB,gK _⟩
  |none=>rw[yx h];exact⟨gK _,wB⟩
 |_=>exact Gr.id
theorem Cg{c:Option (Option Addr×List St)}{f:Option (List St)}{k0:Nat}{sg:Ot}:Gr σ (lN c f k0 fs σ sg):=by
 cases f with
 |none=>exact Gr.id
 |some b=>show Gr σ (if k0=2 then(⟨fs,σ⟩,sg)else(⟨.s [.bl b]::.t c (some b) 2 sg::fs,σ⟩,.χ));split <;> exact Gr.id
theorem Jv{top:Fm}:Gr σ (lO ν fs σ top):=by
 cases top <;> first |exact Cg |exact Td |exact Gr.id
theorem afg{st:St}:Gr σ (BZ ν E0 fs σ st):=by
 cases st with
 |gq l i n r b=>
  cases r with
  |txt t=>exact Td
  |bad y=>exact⟨gK _,wB⟩
 |_=>first |exact Gr.id |exact aff
theorem afh{top:Fm}{sg:Ot}:Gr σ (oK ν fs σ top sg):=by
 cases sg with
 |cnt l=>show Gr σ (if top.lp=true/\bB l (ip fs top)=true then lO ν fs σ top else(⟨fs,σ⟩,.cnt l));split;exact Jv;exact Gr.id
 |brk l=>show Gr σ (if bB l (ip fs top)=true then(⟨fs,σ⟩,.χ)else(⟨fs,σ⟩,.brk l));split <;> exact Gr.id
 |_=>exact Gr.id
theorem afi{top:Fm}{sg:Ot}:Gr σ (ti ν fs σ sg top):=by
 cases top with
 |t c f k RV=>
  cases sg with
  |aw u=>
   cases k with
   |zero=>
    cases c with
    |none=>exact Cg
    |some c=>
     obtain⟨x,l⟩:=c
     cases x with
     |none=>exact Gr.id
     |some x=>exact⟨wB,gK _⟩
   |succ k=>exact Cg
  |_=>exact Cg
 |_=>exact afh
inductive Jw(ν:Addr->Int)(W:WA)(E0:Ev)(D N:Nat)(H:AH)(m0:Lc)(σ:Sg)(ot:Ot)(n:Nat)(m':Lc)(H':AH):Prop
 |mk (as:List Addr) (s:LS) (sg:Ot) (sv:Value) (em:m'=m0++[(294,sv)]) (hr:Rn ν E0 D n (s,sg) (⟨[],σ⟩,ot)) (R:WR ν H' W E0 as s) (hs:dY H' sv sg) (F:Fz H H') (b1:s.σ.seen.length+n<=N) (b2:s.σ.aj.length+n<=N):Jw ν W E0 D N H m0 σ ot n m' H'
inductive Jx(ν:Addr->Int)(E0:Ev)(fs:List Fm)(σ:Sg):Fm->Prop
 |s (dJ:List Wi):Jx ν E0 fs σ (.s dJ)
 |o {top:Fm} (h:(top.tag.cps.toList != [115])= true) (e:IU ν E0 fs σ top = lO ν fs σ top):Jx ν E0 fs σ top
theorem Tf{top:Fm}:Jx ν E0 fs σ top:=by
 cases top with
 |s dJ=>exact .s dJ
 |_=>exact .o rfl rfl
theorem afj{top:Fm}:Gr σ (IU ν E0 fs σ top):=by
 cases Tf (ν:=ν) (E0:=E0) (fs:=fs) (σ:=σ) (top:=top)with
 |s dJ=>
  cases dJ with
  |nil=>exact Gr.id
  |cons it r=>cases it with
   |st s=>exact afg
   |bl b=>exact Gr.id
 |o h e=>rw[e];exact Jv
theorem afk{α:Type}{l:List α}{x:α}:(!(l++[x]).isEmpty)=true:=by cases l <;> rfl
theorem afl{sg:Ot}{top:Fm}(hn:sg≠.χ):ni ν E0 ⟨top::fs,σ⟩ sg=ti ν fs σ sg top:=by
 cases sg <;> first |rfl |exact absurd rfl hn
theorem afm{v:Value}{ca:Addr}{it:Wi}{D N:Nat}{ot:Ot}(hit:fN ν H v it)(hC:wi H ca E0)
  (hr:Rn ν E0 D N (⟨[.s [it]],⟨[],[]⟩⟩,.χ) (⟨[],σ⟩,ot)) (hD:D<=600) (hN:N<=2 ^ 17) (hk:5<=k)
  (hq:∀H' t tr to sv,Fz H H'->H' t=some (.φ [.ref tr,.ref to,sv])->Lq gk H' tr σ.seen->(∀p∈σ.seen,gR p.2)->Lq gu H' to σ.aj->dY H' sv ot->tr≠to->Q (.ref t) H'):μ g k (.ref 1618) [v,.ref ca] H Q X:=by
 refine μ.en (fT 109 rfl) rfl hk λ c o _=>?_
 ktf_call"g"
 ktf_call"lf"
 ktf_call"lf"
 ktf_call"lt"
 ktf_call"T";intro H1 kl E1 _ q1
 ktf_call"g"
 ktf_call"T";intro H2 a0 E2 _ q2
 ktf_call"g"
 ktf_call"T";intro H3 fa E3 n3 q3
 ktf_call"g"
 ktf_call"lf"
 ktf_call"T";intro H4 tr E4 n4 q4
 ktf_call"g"
 ktf_call"lf"
 ktf_call"T";intro H5 to E5 n5 q5
 ktf_call"g"
 ktf_call"T";intro H6 wd E6 q6
 ktf_call"g"
 ktf_call"T";intro H7 b0 E7 q7
 have d1:fa≠a0:=wA q2 n3
 have Jy:=E3 _ _ q2
 have d2:tr≠a0:=wA Jy n4
 have d3:tr≠fa:=wA q3 n4
 have Jz:=E4 _ _ Jy
 have JA:=E4 _ _ q3
 have d4:to≠a0:=wA Jz n5
 have d5:to≠fa:=wA JA n5
 have d6:to≠tr:=wA q4 n5
 have JB:=E6.trans E7
 have zr:=E5.trans JB
 have Tg:=(E3.trans E4).trans zr
 have JC:=E2.trans Tg
 have E:=E1.trans JC
 have no:∀{x:Addr},x≠a0->x∉[a0]:=λ h z=>h (List.mem_singleton.mp z)
 have R:WR ν H7 ⟨wd,fa,ca,tr,to⟩ E0 [a0] ⟨[.s [it]],⟨[],[]⟩⟩:={w:=E7 _ _ q6,fa:=zr _ _ JA,fr:=⟨⟨_,zr _ _ Jz,.s kl [v] 0 rfl (JC _ _ q1) ⟨hit.fz E.fz,trivial⟩ (gj _) (by exact(by decide:1<=100))⟩,trivial⟩,n1:=d3.symm,n2:=d5.symm,n3:=d6.symm,nf:=no d1,nt:=no d2,no:=no d4,nd:=List.nodup_cons.mpr ⟨vG,List.nodup_nil⟩,ca:=hC.fz E.fz,tr:=⟨[],zr _ _ q4,trivial⟩,to:=⟨[],JB _ _ q5,trivial⟩,sk:=λ _ h=>nomatch h}
 have Th:dY H7 (.ref b0) .χ:=.χ b0 rfl q7
 have F:=E.fz
 clear E1 E2 E3 E4 E5 E6 E7 JB zr Tg JC E q1 q2 q3 q4 q5 q6 q7 Jy Jz JA n3 n4 n5 d1 d2 d3 d4 d5 d6 no hC hit
 ktf_call"g"
 refine mm.wl o (m0:=[(11,v),(47,.ref ca),(288,.ref wd),(294,.ref b0)]) (I:=Jw ν ⟨wd,fa,ca,tr,to⟩ E0 D N H [(11,v),(47,.ref ca),(288,.ref wd)] σ ot) (n:=N) (by exact⟨rfl,rfl,rfl,rfl,trivial⟩) ⟨_,_,_,_,rfl,hr,R,Th,F,aU (lW _),aU (lW _)⟩ ?_
 clear R Th F hr
 intro n m' H' afn;obtain⟨as,s,sg,sv,rfl,hrn,R,hs,F,b1,b2⟩:=afn
 have hw:=R.w
 have cH:=R.fa
 have JD:=R.fr.len
 cases hrn with
 |z _=>
  have has:as=[]:=acM JD
  subst has
  ktf_call"g"
  refine mm.tr (bH.κ cH (by decide) ?_)
  ktf_call"g"
  ktf_call"T";intro H3 t E ht
  ktf_call"g"
  have R':=R.ext E
  exact hq _ t tr to sv (F.trans E.fz) ht R'.tr R.sk R'.to (hs.fz E.fz) R.n3
 | @s N' _ _ bM aE iY=>
  obtain⟨fs0,tD⟩:=s
  cases fs0 with
  |nil=>exact absurd rfl bM
  |cons top fs=>
  cases as with
  |nil=>cases JD
  |cons a as=>
  have hlen:fs.length<600:=jI (Nat.lt_of_succ_le aE) hD
  have dC:as.length<600:=yW JD▸hlen
  have lp:=nj (as:=as) (aZ dC (by decide))
  have Ti:=R.last
  replace b1:tD.seen.length+(N'+1)<=N:=b1
  replace b2:tD.aj.length+(N'+1)<=N:=b2
  have s2:tD.seen.length<2 ^ 18:=cI (Ψ (cK _ _) (Ψ b1 hN)) (by decide)
  have s3:tD.aj.length<2 ^ 18:=cI (Ψ (cK _ _) (Ψ b2 hN)) (by decide)
  have wC:∀{H3:AH}{w:Value}{p:LS×Ot},ni ν E0 ⟨top::fs,tD⟩ sg=p->Gr tD p->Gives ν ⟨wd,fa,ca,tr,to⟩ E0 H' p w H3->Jw ν ⟨wd,fa,ca,tr,to⟩ E0 D N H [(11,v),(47,.ref ca),(288,.ref wd)] σ ot N' [(11,v),(47,.ref ca),(288,.ref wd),(294,w)] H3:=by
   intro H3 w p e gr G
   refine Θ G.wr λ as3 R3=>?_
   exact⟨as3,p.1,p.2,w,rfl,e▸iY,R3,G.sg,F.trans G.fz,Ψ (vM gr.a _) (by rw[kF,mu 1];exact b1),Ψ (vM gr.b _) (by rw[kF,mu 1];exact b2)⟩
  clear iY aE bM b1 b2 F hq
  ktf_call"g"
  refine mm.tr (bH.κ Ti (cI wB (aZ (ko lp) (by decide))) ?_)
  refine mm.w1 afk ?_
  ktf_call"g"
  by_cases hn:sg=.χ
  ·subst hn
   cases id hs with|χ sk e JE=>?_
   subst e
   ktf_call"g"
   refine mm.tr (bH.φ JE (by decide) ?_)
   obtain⟨vs,ha,hv⟩:=R.fr.1
   cases Tf (ν:=ν) (E0:=E0) (fs:=fs) (σ:=tD) (top:=top)with
   |s dJ=>
    cases hv with|s kl kv i e h r h1 h2=>?_
    subst e
    ktf_call"g"
    refine μ.len_list h (Sa h2) ?_
    ktf_call"g"
    cases dJ with
    |nil=>
     refine mm.i1 (by rw[<- R9 r h1];exact beq_self_eq_true _) ?_
     refine ag R.pop λ Rp Fp=>?_
     ktf_call"g"
     exact⟨N',[(11,v),(47,.ref ca),(288,.ref wd),(294,.ref sk)],lu _,by exact⟨rfl,rfl,rfl,rfl,trivial⟩,wC rfl Gr.id ⟨Fp,hs.fz Fp,_,Rp⟩⟩
    |cons oR dJ=>
     obtain⟨kx,hi,oL,hx,hr⟩:=drop_cons r
     refine mm.i0 (beq_eq_false_iff_ne.mpr λ z=>gc hi (IV z)) ?_
     ktf_call"g"
     refine mm.O_ (cq.list (i:=2) ha (by decide) (by decide) rfl ?_)
     ktf_call"g"
     refine mm.sj (dK.κ (i:=2) ha (by decide) (by decide) (hW rfl) ?_)
     refine ag (R.top (vs:=[.str ⟨⟨[115]⟩⟩ 0,.ref kl,.int ((i+1:Nat):Int) 0,.none]) (fr':=.s dJ) (.s kl kv (i+1) rfl h hr hi h2)) λ R2 F2=>?_
     have BW:ξ H' a (.κ false [.str ⟨⟨[115]⟩⟩ 0,.ref kl,.int ((i+1:Nat):Int) 0,.none]) a=some (.κ false [.str ⟨⟨[115]⟩⟩ 0,.ref kl,.int ((i+1:Nat):Int) 0,.none]):=ah
     show Mine.M _ _ _ _ _ _ _ (ξ H' a (.κ false [.str ⟨⟨[115]⟩⟩ 0,.ref kl,.int ((i+1:Nat):Int) 0,.none]))
     generalize ξ H' a (.κ false [.str ⟨⟨[115]⟩⟩ 0,.ref kl,.int ((i+1:Nat):Int) 0,.none])=H3 at R2 F2 BW⊢
     have h3:=F2 _ _ h rfl
     have hx3:=hx.fz F2
     have zc:=IZ hi h2
     clear ha h r hr hx R Ti cH hw hs
     have e1:((i+1:Nat):Int)-1=(i:Int):=by rw[RX];exact Mm _ _
     ktf_call"g"
     rw[e1]
     refine mm.sg (cq.list h3 (oF i) zc oL ?_)
     ktf_call"g"
     refine afe R2 hx3 (cI hlen (by decide)) s2 s3 (by ktf_call"k") λ H4 w G=>?_
     ktf_call"g"
     exact⟨N',[(11,v),(47,.ref ca),(288,.ref wd),(294,w)],lu _,by exact⟨rfl,rfl,rfl,rfl,trivial⟩,wC rfl (afj (top:=.s (oR::dJ))) (G.pre F2)⟩
   |o ht e=>
    have tg:=hv.tag
    ktf_call"g"
    refine mm.sl ha tg ?_
    ktf_call"g"
    refine mm.i1 ht ?_
    ktf_call"g"
    refine Sf R (aZ hlen (by decide)) s2 (by ktf_call"k") λ H4 w G=>?_
    ktf_call"g"
    exact⟨N',[(11,v),(47,.ref ca),(288,.ref wd),(294,w)],lu _,by exact⟨rfl,rfl,rfl,rfl,trivial⟩,wC e Jv G⟩
  ·obtain⟨sk,jS,e,JE,_⟩:=hs.kd hn
   subst e
   ktf_call"g"
   refine mm.tr (bH.φ JE (by exact(by decide:2<2 ^ 60)) ?_)
   ktf_call"g"
   refine aeB R hs hn (aZ hlen (by decide)) s2 (by ktf_call"k") λ H4 w G=>?_
   ktf_call"g"
   exact⟨N',[(11,v),(47,.ref ca),(288,.ref wd),(294,w)],lu _,by exact⟨rfl,rfl,rfl,rfl,trivial⟩,wC (afl hn) afi G⟩
end
def Vr(g:Gv)(c:Cx)(e:Expr)(m:Lc)(H:AH)(Q:Value->Lc->AH->Prop)(X:Value->Lc->AH->Prop):Prop:=W g c (eval e c.env) m H (λ v m' H'=>Q (nv v) m' H') X
def gT(g:Gv)(c:Cx)(es:List Expr)(m:Lc)(H:AH)(Q:List Value->Lc->AH->Prop)(X:Value->Lc->AH->Prop):Prop:=
 ∀pos,(og pos (kB es c.env)).any (·.1)=false/\W g c (spliced (og pos (kB es c.env))) m H (λ vs m' H'=>Q (vs.map nv) m' H') X
theorem Sp.of(h1:aX sc p (dec e)=true)(h2:ins p (dec e)=e):Sp n sc e p:=⟨_,h1,h2⟩
theorem Vr.of(n:Nat)(h:Sp n c.sc e p)(k:V g c p m H Q X):Vr g c e m H Q X:=k n e h
theorem Vr.zt(k1:c.env.kindOf x=some .cell)(k2:c.env.cells.lookup x=some a)(hH:H a=some (.fix o))(ho:o.data=.cell (some w))(e:nv w=v)(hd:(x==("__debug__":Str))=false)(q:Q v m H):Vr g c (.Name x pos) m H Q X:=by
 subst e
 intro A s hA
 exact wpAny_Name (wpAny_loadName_cell (by rw[hA.aY.sc];exact hA.aY.kind) k1 k2 ⟨o,hA.sim a _ hH,ho⟩ ⟨m,H,hA,Go.refl,q⟩) hd
theorem gT.nil{Q:List Value->Lc->AH->Prop}(q:Q [] m H):gT g c [] m H Q X:=λ pos=>⟨rfl,λ A s hA=>args_nil ⟨m,H,hA,Go.refl,q⟩⟩
theorem gT.cons{e:Expr}{r:List Expr}{Q:List Value->Lc->AH->Prop}(hs:kB (e::r) c.env=(false,eval e c.env)::kB r c.env)(hp:∀pos,(og pos (kB r c.env)).any (·.1)=false)(h:Vr g c e m H (λ v ρ H₁=>gT g c r ρ H₁ (λ vs=>Q (v::vs)) X) X):gT g c (e::r) m H Q X:=by
 intro pos
 refine⟨by rw[hs];exact hp pos,λ A s hA=>?_⟩
 exact args_cons (step hA hA Go.refl h λ v s₁ ρ H₁ a1 a2 a3=>step hA a1 a2 (a3 pos).2 λ vs ae Ξ ο b1 b2 b3=>⟨Ξ,ο,b1,b2,b3⟩) hs
theorem Vr.call(hd:c.hd=none)(e:GT.lookup i=some f)(hk:isCall f=true)(hg:rG c.sc x=some i)(h:gT g c es m H (λ vs ρ H₁=>μ g c.k f vs H₁ (λ v H'=>Q v ρ H') (λ v H'=>X v ρ H')) X):
  Vr g c (.Call (.Name x q) es [] p) m H Q X:=by
 intro A s hA
 refine uX (hA.ok.oj e) λ v' h1 h2 h3 h4=>?_
 have:v'=f:=h2 λ i t z=>by
  subst z
  rw[GD e]at h1
  subst h1
  exact nF hk
 subst this
 refine ag (Nm hg) λ k1 k2=>?_
 refine Call_ ?_
 refine step hA hA Go.refl (Ff (Q:=λ v m' H'=>v=v'/\m'=m/\H'=H) k1 k2 (λ _=>h3) ⟨rfl,rfl,rfl⟩) λ v s₁ ρ H₁ a1 a2 Tj=>?_;refine fg Tj λ a3 a4 a5=>?_;clear Tj
 subst a3 a4 a5
 refine next hA a1 a2 (Q:=λ v m' H'=>Q (nv v) m' H') ?_
 intro A s hA
 refine callWith_of (P:=g.K.In) (by rw[(h p).1];rfl) (Nk (h4 hk)) (Nj (h p).1 ?_)
 refine step hA hA Go.refl (h p).2 λ vs s₁ ρ H₁ a1 a2 a3=>⟨a1.toaC.dZ,?_⟩
 have Fg:μ g c.k v (([]++vs).map nv) H₁ (λ v H'=>Q v ρ H') (λ v H'=>X v ρ H'):=by rw[List.nil_append];exact a3
 refine cD (EV hd Fg A s₁ a1) (λ v ae z=>?_) λ e ae z=>?_
 ·obtain⟨m',H',b1,b2,e,b3⟩:=z
  subst e
  exact⟨m',H',b1,a2.trans b2,b3⟩
 ·obtain⟨m',H',v,b1,b2,b3,e,b4⟩:=z
  subst e
  exact⟨m',H',v,b1,a2.trans b2,b3.weaken λ a o q=>a2.mI hA a1 q,b4⟩
section
variable {k:Nat}
noncomputable def eM(a b c:Nat):Pos:=⟨a,b,a,c⟩
noncomputable def eN:Scope:=HD.fS (HD.zzx.st 188)
noncomputable def nA:Scope:={kind:=.function,names:=[(dy ".0",.local),(N 270,.local),(N 269,.globalImplicit),(N 261,.free),(N 101,.free),(N 266,.free),(N 267,.free)],isGenerator:=false,isCoroutine:=false}
noncomputable def JF:Expr:=.Call (.Name (N 269) (eM 887 30 39)) [.Name (N 261) (eM 887 40 43),.Name (N 101) (eM 887 45 49),.Name (N 266) (eM 887 51 56),.Name (N 267) (eM 887 58 63)] [] (eM 887 30 64)
noncomputable def Tq:Expr:=.BinOp (.Constant (.int 1) 0 (eM 886 12 13)) .Add (.Call (.Name (N 262) (eM 886 16 25)) [.Name (N 261) (eM 886 26 29),.Constant (.int 2) 0 (eM 886 31 32)] [] (eM 886 16 33)) (eM 886 12 33)
noncomputable def Tr:Expr:=.Call (.Name (N 10) (eM 887 11 15)) [.Name (N 176) (eM 887 16 23),.Constant (.str s_) 0 (eM 887 25 27),
 .ListComp JF [⟨.Name (N 270) (eM 887 69 72),.Call (.Name (N 228) (eM 887 76 81)) [.Name (N 268) (eM 887 82 87)] [] (eM 887 76 88),[],0⟩] nA (eM 887 29 89),.Constant (.int 0) 0 (eM 887 91 92)] [] (eM 887 11 93)
noncomputable def JG:List Stmt:=[.Assign [.Name (N 268) (eM 886 4 9)] Tq (eM 886 4 33),.Return (some Tr) (eM 887 4 93)]
theorem afo:HD.fB (HD.zzx.st 188)=JG:=by kernel_rfl
noncomputable def JH:List (Str×nM):=[(N 261,.cell),(N 101,.cell),(N 266,.cell),(N 267,.cell),(N 268,.local),(N 262,.globalImplicit),(N 10,.globalImplicit),(N 176,.globalImplicit),(N 228,.globalImplicit)]
theorem JI:(eN.names,eN.kind,eN.isGenerator,eN.isCoroutine)=(JH,ScopeKind.function,false,false):=by kernel_rfl
theorem afp(P:aq):((HD.KK P).lookup 1512,codeIn (HD.KK P) (.ref 1511) jB)=(some ⟨.type "function",none,.func (fnOf jB jB (HD.fA (HD.zzx.st 188)) (HD.fB (HD.zzx.st 188)) eN .none .none .none (.str bQ 2366) none (.ref 1511) .none),⟨[]⟩⟩,true):=by kernel_rfl
theorem afq(a b c d:Value):bindArgs (fnOf jB jB (HD.fA (HD.zzx.st 188)) (HD.fB (HD.zzx.st 188)) eN .none .none .none (.str bQ 2366) none (.ref 1511) .none) ⟨[a,b,c,d],[]⟩=pure [(N 261,a),(N 101,b),(N 266,c),(N 267,d)]:=by kernel_rfl
theorem At.fix(x:At g c A m H s)(n:H a=none)(h:s.heap.get? a=some o)(hl:g.cm.objs.size<=a)(hf:∀vs,o.data≠.fields vs)(hL:c.env.locals≠a)(dU:∀fs,A.frames=some fs->∀env∈fs,env.frame≠some a):At g c A m (ξ H a (.fix o)) s:=
 {ok:=x.ok,old:=x.old
  sim:=λ b p e=>by
   by_cases q:b=a
   ·subst q;rw[ah]at e;obtain rfl:=bY e;exact h
   ·rw[Γ q]at e;exact x.sim b p e
  low:=λ b p e=>by
   by_cases q:b=a
   ·refine q.symm▸?_;exact hl
   ·rw[Γ q]at e;exact x.low b p e
  depth:=x.depth,units:=x.units,hand:=x.hand
  frames:=by
   obtain⟨fs,h1,h2⟩:=x.frames
   refine⟨fs,h1,λ env he=>?_⟩
   obtain⟨k1,L,o',k2,k3,k4,k5,k6⟩:=h2 env he
   exact⟨k1,L,o',k2,k3,k4,by rw[Γ (λ z=>dU fs h1 env he (by rw[k2,z]))];exact k5,k6⟩
  os:=x.os,gens:=x.gens,size:=x.size,aY:=x.aY,ns:=x.ns,off:=by rw[Γ hL];exact x.off,c9:=x.c9,head:=x.head}
inductive Cells(L:Addr)(H:AH)(o0 o1 o2 o3:Obj)(H':AH):Prop
 |mk (E:Ext H H') (c0:H' (L+1)=some (.fix o0)) (c1:H' (L+2)=some (.fix o1)) (c2:H' (L+3)=some (.fix o2)) (c3:H' (L+4)=some (.fix o3)) (cL:H' L=none) (hn:∀a,a<L->H a=none->H' a=none):Cells L H o0 o1 o2 o3 H'
theorem afr(x:At g c A m H s)(hL:c.env.locals=L)(h0:∀j,H (L+j)=none)(hl:g.cm.objs.size<=L)(g0:s.heap.get? (L+1)=some o0)(g1:s.heap.get? (L+2)=some o1)(g2:s.heap.get? (L+3)=some o2)(g3:s.heap.get? (L+4)=some o3)
  (n0:∀vs,o0.data≠.fields vs) (n1:∀vs,o1.data≠.fields vs) (n2:∀vs,o2.data≠.fields vs) (n3:∀vs,o3.data≠.fields vs) (dU:∀j,1<=j->∀lZ,A.frames=some lZ->∀e∈lZ,e.frame≠some (L+j)):∃H',At g c A m H' s/\Cells L H o0 o1 o2 o3 H':=by
 have dj:∀{i j:Nat},i≠j->L+i≠L+j:=λ q z=>q (Nat.add_left_cancel z)
 have lo:∀j,g.cm.objs.size<=L+j:=λ j=>Ψ hl (cK _ _)
 have lL:∀j,1<=j->c.env.locals≠L+j:=λ j hj=>hL▸gc (Ts hj)
 have lt:∀j,1<=j->L≠L+j:=λ j hj=>gc (Ts hj)
 have A0:=x.fix (h0 1) g0 (lo 1) n0 (lL 1 (by decide)) (dU 1 (by decide))
 have u1:ξ H (L+1) (.fix o0) (L+2)=none:=by rw[Γ (dj (by decide))];exact h0 2
 have A1:=A0.fix u1 g1 (lo 2) n1 (lL 2 (by decide)) (dU 2 (by decide))
 have u2:ξ (ξ H (L+1) (.fix o0)) (L+2) (.fix o1) (L+3)=none:=by rw[Γ (dj (by decide)),Γ (dj (by decide))];exact h0 3
 have A2:=A1.fix u2 g2 (lo 3) n2 (lL 3 (by decide)) (dU 3 (by decide))
 have u3:ξ (ξ (ξ H (L+1) (.fix o0)) (L+2) (.fix o1)) (L+3) (.fix o2) (L+4)=none:=by rw[Γ (dj (by decide)),Γ (dj (by decide)),Γ (dj (by decide))];exact h0 4
 exact⟨_,(A2.fix u3 g3 (lo 4) n3 (lL 4 (by decide)) (dU 4 (by decide))),λ a o e=>cu (cu (cu (cu e (h0 1)) u1) u2) u3,cu (cu (cu ah u1) u2) u3,cu (cu ah u2) u3,cu ah u3,ah,
  by rw[Γ (lt 4 (by decide)),Γ (lt 3 (by decide)),Γ (lt 2 (by decide)),Γ (lt 1 (by decide))];exact h0 0,
  λ a ha n=>by
   have la:∀j,a≠L+j:=λ j=>gc (jI ha (cK _ _))
   rw[Γ (la 4),Γ (la 3),Γ (la 2),Γ (la 1)];exact n⟩
theorem nnE(hi:i<318)(hj:j<318)(q:i≠j):(N i==N j)=false:=beq_eq_false_iff_ne.mpr λ z=>q (rL hi hj z)
theorem afs{α:Type}{l:List α}(h:l.length=4):∃a b c d,l=[a,b,c,d]:=by
 cases l with
 |nil=>cases h
 |cons a l=>cases l with
  |nil=>cases h
  |cons b l=>refine km (yV (yW (yW h))) λ c d Gm=>?_;refine Gm.symm▸?_;exact⟨a,b,c,d,rfl⟩
inductive Tt(L:Addr)(v0 v1 v2 v3:Value)(H:AH)(env:Env)(H':AH):Prop
 |mk (es:env.scope=eN) (ec:env.cells=[(N 267,L+4),(N 266,L+3),(N 101,L+2),(N 261,L+1)]) (o0 o1 o2 o3:Obj) (w0 w1 w2 w3:Value) (K:Cells L H o0 o1 o2 o3 H') (d0:o0.data=.cell (some w0)) (d1:o1.data=.cell (some w1)) (d2:o2.data=.cell (some w2)) (d3:o3.data=.cell (some w3))
   (e0:nv w0=v0) (e1:nv w1=v1) (e2:nv w2=v2) (e3:nv w3=v3):Tt L v0 v1 v2 v3 H env H'
noncomputable def Tu:FuncData:=fnOf jB jB (HD.fA (HD.zzx.st 188)) (HD.fB (HD.zzx.st 188)) eN .none .none .none (.str bQ 2366) none (.ref 1511) .none
noncomputable def iq(n:Nat):Env:=callEnvC Tu n 1512
noncomputable abbrev nD(a b c d:Value):List (Str×Value):=[(N 261,a),(N 101,b),(N 266,c),(N 267,d)]
theorem afu(n:Nat)(a b c d:Value):(bindC (iq n).kindOf (nD a b c d) (λ _=>none) (N 261),bindC (iq n).kindOf (nD a b c d) (λ _=>none) (N 101),bindC (iq n).kindOf (nD a b c d) (λ _=>none) (N 266),bindC (iq n).kindOf (nD a b c d) (λ _=>none) (N 267))=(some a,some b,some c,some d):=by kernel_rfl
theorem afv(n:Nat):((iq n).cells.lookup (N 261),(iq n).cells.lookup (N 101),(iq n).cells.lookup (N 266),(iq n).cells.lookup (N 267))=(some (n+1),some (n+2),some (n+3),some (n+4)):=by kernel_rfl
theorem afw(n:Nat)(a b c d:Value):bindL (iq n).kindOf (nD a b c d) (λ _=>none)=λ _=>none:=by kernel_rfl
theorem afx(n:Nat):(iq n).cells=[(N 267,n+4),(N 266,n+3),(N 101,n+2),(N 261,n+1)]:=by kernel_rfl
theorem afy(n:Nat)(a b c d:Value):∀x∈nD a b c d,eN.names.lookup x.1=some NameKind.local\/(eN.names.lookup x.1=some NameKind.cell/\((cellsFrom (n+1) eN.names []).lookup x.1).isSome=true):=
 List.forall_mem_cons.mpr ⟨.inr ⟨by kernel_rfl,by kernel_rfl⟩,List.forall_mem_cons.mpr ⟨.inr ⟨by kernel_rfl,by kernel_rfl⟩,List.forall_mem_cons.mpr ⟨.inr ⟨by kernel_rfl,by kernel_rfl⟩,List.forall_mem_cons.mpr ⟨.inr ⟨by kernel_rfl,by kernel_rfl⟩,λ _ h=>absurd h vG⟩⟩⟩⟩
theorem afz(e1:env.locals=s.heap.objs.size)(e2:env.frame=some s.heap.objs.size)(eo:MG (jH k eN env))(hA:aC g (k+1) none A H s)(xH:∀a o,s.heap.get? a=some o->h₁.get? a=some o)(kz:h₁.Ns env.locals λ _=>none)(h0:∀j,H (s.heap.objs.size+j)=none):
  At g (jH k eN env) (A.deeper env) [] H {s with heap:=h₁,toks:=tk}/\∀j,1<=j->∀lZ,(A.deeper env).frames=some lZ->∀e∈lZ,e.frame≠some (s.heap.objs.size+j):=by
 obtain⟨fs,g1',g2'⟩:=hA.frames
 have e3:(A.deeper env).frames=some (env::fs):=by show A.frames.map _=_;rw[g1'];rfl
 constructor
 ·have iW:aC g k none (A.deeper env) H {s with heap:=h₁,toks:=tk}:=by
   refine o8 kz λ o es ep z1 z2 _=>?_
   exact hA.inside e2 (by rw[eo.sc,eo.kind];decide) xH (e1▸z1) (λ vs z=>by rw[z2]at z;cases z) (h0 0) hA.size
  exact{iW with
    aY:=eo
    ns:=⟨_,kz,λ i _ _ e=>nomatch e⟩
    off:=(congrArg H e1).trans (h0 0)
    c9:=Ψ hA.size (aU e1.symm)
    head:=⟨fs,e3⟩}
 ·intro j hj lZ hf e he z
  rw[e3]at hf
  cases hf
  rcases List.mem_cons.mp he with rfl |he
  ·rw[e2]at z;exact absurd (bY z) (gc (Ts hj))
  ·obtain⟨k1,L',o,k2,k3,_⟩:=g2' e he
   rw[k2]at z
   have k6:=dO k3
   rw[bY z]at k6
   exact absurd k6 (Nat.not_lt.mpr (cK _ _))
theorem cy.afA{v0 v1 v2 v3:Value}
  (h:∀(env:Env) (L:Addr) (H':AH),Tt L v0 v1 v2 v3 H env H'->Own (jH k eN env)->W g (jH k eN env) (execs JG env) [] H' (λ f _ aD=>Q (pg (nf f)) aD) No):cy g (k+1) (.ref 1512) [v0,v1,v2,v3] H Q X:=by
 intro A s raw aO hA
 obtain⟨r0,r1,r2,r3,rfl⟩:=afs (l:=raw) (by have:=congrArg jF aO;rwa [gJ]at this)
 refine ag (rD aO) λ e0 hr=>ag (rD hr) λ e1 hr=>ag (rD hr) λ e2 hr=>?_
 have e3:nv r3=v3:=(rD hr).1
 have F:=eJ ((congrArg (λ K=>(K.lookup 1512,codeIn K (.ref 1511) jB)) hA.ok.kk).trans (afp g.w.params))
 have S1:=eJ JI
 have hK:g.K.In s.heap:=hA.ok.dZ.keeps hA.old
 refine codeAny_call_cells (a:=1512) (fd:=Tu) (body:=HD.fB (HD.zzx.st 188)) (binds:=nD r0 r1 r2 r3) (by exact aH hA.depth (by simp +arith only)) (hK _ _ F.1) rfl (hA.ok.Et.keeps hA.old) (codeRec_of hK F.2) rfl (afq _ _ _ _) rfl (afy _ _ _ _ _) (λ s₁ x=>?_) (eJ (eJ S1.2).2).2 (eJ (eJ S1.2).2).1 (eJ S1.2).1
 change InCallC s (iq s.heap.objs.size).locals (bindL (iq s.heap.objs.size).kindOf (nD r0 r1 r2 r3) λ _=>none) (iq s.heap.objs.size).cells (bindC (iq s.heap.objs.size).kindOf (nD r0 r1 r2 r3) λ _=>none) s₁ at x
 have B:=eJ (afu s.heap.objs.size r0 r1 r2 r3)
 have D:=eJ (afv s.heap.objs.size)
 have cellAt:∀{i c w},(iq s.heap.objs.size).cells.lookup (N i)=some c->bindC (iq s.heap.objs.size).kindOf (nD r0 r1 r2 r3) (λ _=>none) (N i)=some w->∃o,s₁.heap.get? c=some o/\o.data=.cell (some w):=λ h1 h2=>h2▸x.cell _ _ h1
 refine ψ (cellAt D.1 B.1) λ o0 g0 d0=>ψ (cellAt (eJ D.2).1 (eJ B.2).1) λ o1 g1 d1=>ψ (cellAt (eJ (eJ D.2).2).1 (eJ (eJ B.2).2).1) λ o2 g2 d2=>ψ (cellAt (eJ (eJ D.2).2).2 (eJ (eJ B.2).2).2) λ o3 g3 d3=>?_
 clear cellAt B D F aO
 refine km x.toInCall.same λ h₁ tk afB=>?_;subst afB
 have h0:∀j,H (s.heap.objs.size+j)=none:=λ j=>by
  cases e:H (s.heap.objs.size+j)with
  |none=>rfl
  |some ao=>
   refine Θ ((hA.sim _ ao e).get) λ o ho=>?_
   rw[mM (cK _ _)]at ho;cases ho
 refine ag (afz (env:=iq s.heap.objs.size) (tk:=tk) rfl rfl ⟨rfl,(eJ S1.2).1,rfl,rfl⟩ hA x.toInCall.keep (afw s.heap.objs.size r0 r1 r2 r3▸x.toInCall.ns) h0) λ Ar dU=>?_
 have nf:∀{o:Obj}{w:Option Value},o.data=.cell w->∀vs,o.data≠.fields vs:=λ d vs z=>by rw[d]at z;cases z
 refine ψ (afr Ar rfl h0 hA.size g0 g1 g2 g3 (nf d0) (nf d1) (nf d2) (nf d3) dU) λ H' EW K=>?_
 refine afo.symm▸cD (h (iq s.heap.objs.size) s.heap.objs.size H' ⟨rfl,afx _,o0,o1,o2,o3,r0,r1,r2,r3,K,d0,d1,d2,d3,e0,e1,e2,e3⟩ ⟨rfl,rfl⟩ _ _ EW) (λ f s' z=>fF.el z λ m' aD a1 a2 a3=>?_) λ e s' z=>AW z
 have kA:Go none H s.heap aD s'.heap:=a2.inside x.toInCall.keep (mM (bK _)) (by cases K;assumption) λ a o e n=>by cases K with|mk E c0 c1 c2 c3 cL hn=>exact hn a (dO e) n
 cases f <;> exact⟨aD,hA.back a1.toaC,kA,a3⟩
end
theorem Vr.pre(G:Gh g H H')(h:Vr g c e m H' Q X):Vr g c e m H Q X:=W.pre G h
theorem Vr.bin(h:Vr g c l m H (λ a ρ H₁=>Vr g c r ρ H₁ (λ b Ξ ο=>Ω g c (mK op) a b Ξ ο Q X) X) X):Vr g c (.BinOp l op r p) m H Q X:=by
 intro A s hA
 exact wpAny_BinOp (step hA hA Go.refl h λ a s₁ ρ H₁ a1 a2 a3=>step hA a1 a2 a3 λ b ae Ξ ο b1 b2 b3=>next hA b1 b2 (b3 a b rfl rfl))
theorem Wr.Φ(hl:fW c.sc x=some i)(hs:∀(t:Option Expr) (l:Nat) (env:Env),swapsWith e t l env=pure false)(h:Vr g c e m H (λ v ρ H₁=>W g c (execs r c.env) (put i v ρ) H₁ Q X) X):
  W g c (execs (.Assign [.Name x px] e p::r) c.env) m H Q X:=by
 intro A s hA
 refine ag (jE hl) λ k1 k2=>?_
 refine EJ ?_
 exact Na (step hA hA Go.refl h λ v s₁ ρ H₁ a1 a2 a3=>step hA a1 a2 (store (Q:=λ _ m' H'=>m'=put i (nv v) ρ/\H'=H₁) k1 k2 ⟨rfl,rfl⟩) λ _ ae Ξ ο b1 b2 afC=>ag afC λ b3 b4=>by
  subst b3 b4
  exact next hA b1 b2 a3) (hs _ _ _)
theorem Wr.ret{p:Pos}{e:Expr}{r:List Stmt}{Q:bJ->Lc->AH->Prop}(h:Vr g c e m H (λ v m' H'=>Q (.ret v) m' H') X):W g c (execs (.Return (some e) p::r) c.env) m H (λ f m' H'=>Q (nf f) m' H') X:=by
 intro A s hA
 refine EJ ?_
 exact wpAny_Return_some (step hA hA Go.refl h λ a s₁ ρ H₁ a1 a2 a3=>⟨ρ,H₁,a1,a2,a3⟩)
theorem Vr.comp(n:Nat)(hd:c.hd=none)(o1:aN.kind=.function)(o2:∀y∈aN.names,y.2≠.cell)(o4:∀y∈aN.names,y.2=.local->aN.names.lookup y.1=some .local)
  (G4:G5 aN c.env=pure cl) (s2:fW (iF aN c.env) x=some t) (hs:Sp n c.sc iter src) (h:V g c src m H (λ v ρ H₁=>G3 g c elt [] aN cl t v H₁ (λ v H'=>Q v ρ H')) X):
  Vr g c (.ListComp elt [⟨.Name x px,iter,[],0⟩] aN pos) m H Q X:=OX n hd o1 o2 o4 G4 s2 hs h
theorem afD{env:Env}{c0 c1 c2 c3:Addr}(h:env.cells=[(N 267,c3),(N 266,c2),(N 101,c1),(N 261,c0)]):G5 nA env=pure [(N 267,c3),(N 266,c2),(N 101,c1),(N 261,c0)]:=by
 have nn:∀{i j:Nat},i<318->j<318->i≠j->(N i==N j)=false:=λ hi hj q=>beq_eq_false_iff_ne.mpr λ z=>q (rL hi hj z)
 have k0:env.cells.lookup (N 261)=some c0:=by rw[h];simp[eS,nn]
 have k1:env.cells.lookup (N 101)=some c1:=by rw[h];simp[eS,nn]
 have k2:env.cells.lookup (N 266)=some c2:=by rw[h];simp[eS,nn]
 have k3:env.cells.lookup (N 267)=some c3:=by rw[h];simp[eS,nn]
 delta G5 nA cellOf
 simp[k0,k1,k2,k3]
theorem afE(h:env.scope=eN):iF nA env={kind:=.function,names:=[(dy ".0",.local),(N 270,.local),(N 269,.globalImplicit),(N 261,.cell),(N 101,.cell),(N 266,.cell),(N 267,.cell)],isGenerator:=false,isCoroutine:=false}:=by
 have S1:=JI
 simp only[Fj]at S1
 refine kY S1 λ sn sk _ _=>?_;clear S1
 have kd:∀i,JH.lookup (N i)=some .cell->env.kindOf (N i)=some .cell:=λ i hi=>by delta rK;rw[h,sn];exact hi
 delta iF nA
 simp[(kd 261 (by kernel_rfl)),(kd 101 (by kernel_rfl)),(kd 266 (by kernel_rfl)),(kd 267 (by kernel_rfl)),h,sk]
theorem JJ(hd9:d<=9)(St:sy g d):Bf g d:=by
 intro H k Q X b w m L M hb hw hm hL hM hk hq
 refine Θ (ks hk) λ j xO=>?_;subst xO
 refine(cy.afA λ env La H1 B own=>?_).call
 obtain⟨es,ec,o0,o1,o2,o3,w0,w1,w2,w3,K,d0,d1,d2,d3,e0,e1,e2,e3⟩:=B
 obtain⟨E,t0,t1,t2,t3,_,_⟩:=K
 have S1:=JI
 simp only[Fj]at S1
 refine kY S1 λ sn sk _ _=>?_;clear S1
 have kd:∀i,JH.lookup (N i)=some .cell->env.kindOf (N i)=some .cell:=λ i hi=>by delta rK;exact es▸sn▸(hi)
 delta JG Tq
 refine Wr.Φ (c:=jH j eN env) (i:=268) (show fW eN (N 268)=some 268 by kernel_rfl) (λ _ _ _=>rfl) ?_
 refine Vr.bin (Vr.of 60 (p:=.int 1) (Sp.of rfl rfl) (V.int ?_))
 refine Vr.call rfl (i:=262) (f:=.ref 1500) rfl rfl (show rG eN (N 262)=some 262 by kernel_rfl) ?_
 refine gT.cons rfl (λ _=>rfl) (Vr.zt (kd 261 (by kernel_rfl)) (a:=La+1) ((congrArg (eS _) ec).trans (by kernel_rfl)) t0 d0 e0 (by kernel_rfl) ?_)
 refine gT.cons rfl (λ _=>rfl) (Vr.of 60 (p:=.int 2) (Sp.of rfl rfl) (V.int (gT.nil ?_)))
 have cN:=hb.ext E
 refine mf (by decide) cN (by show _<=j;exact aH hk (by simp +arith only)) λ i H2 F fp h0 h1=>?_
 refine Ω.NY ?_
 have G:=F.fz cN
 have t0:=G _ _ t0 rfl
 have t1:=G _ _ t1 rfl
 have t2:=G _ _ t2 rfl
 have t3:=G _ _ t3 rfl
 have lE:=(hw.fz E.fz).fz G
 have Qm:=(hm.fz E.fz).fz G
 refine ψ (⟨i.toNat,by exact(Int.toNat_of_nonneg (by assumption)).symm,(Int.toNat_lt h0).mpr h1⟩:∃n:Nat,i=(n:Int)/\n<2) λ n xP Tv=>?_;subst xP
 have K2:Fb b H H2:=by ktf_call"b"
 clear G F E cN hb hw hm h0 h1
 delta Tr
 refine Wr.ret (c:=jH j eN env) (Q:=λ f _ aD=>Q (pg f) aD) (Vr.call rfl (i:=10) (f:=.ref 56) rfl rfl (show rG eN (N 10)=some 10 by kernel_rfl) ?_)
 refine gT.cons rfl (λ _=>rfl) (Vr.of 60 (p:=.ς 176) (Sp.of (show aX eN _ _=_ by kernel_rfl) rfl) (V.gl rfl ?_))
 refine gT.cons rfl (λ _=>rfl) (Vr.of 60 (p:=.str s_) (Sp.of rfl rfl) (V.str ?_))
 have eR:=afE es
 refine gT.cons rfl (λ _=>rfl) (Vr.comp 60 (cl:=[(N 267,(La+4)),(N 266,(La+3)),(N 101,(La+2)),(N 261,(La+1))]) (src:=.call 228 [.θ 268]) (t:=270) rfl rfl (by as_aux_lemma=>intro y hy;simp only[nA,Ap,vG,or_false]at hy;rcases hy with rfl |rfl |rfl |rfl |rfl |rfl |rfl <;> decide) ?_ (afD ec) ?_ (Sp.of (show aX eN _ _=_ by kernel_rfl) rfl) ?_)
 ·as_aux_lemma=>
  intro y hy hl
  simp only[nA,Ap,vG,or_false]at hy
  rcases hy with rfl |rfl |rfl |rfl |rfl |rfl |rfl
  ·kernel_rfl
  ·kernel_rfl
  all_goals cases hl
 ·show fW (iF nA env) _=_
  refine eR▸?_;kernel_rfl
 have o:Fc (jH j eN env) j:=⟨own,rfl,bK _⟩
 refine V.ma ?_
 ktf_call"g"
 refine(show(1+(n:Int))=((n+1:Nat):Int)from Int.add_comm 1 n)▸?_
 refine μ.range (n:=n+1) (by exact cI (by assumption) (by decide)) λ ra a1 a2 a3 m8=>?_
 have E3:Ext H2 (ξ H2 ra (.fix {cls:=.type "range",data:=.fields #[.int 0 a1,.int ((n+1:Nat):Int) a2,.int 1 a3]})):=Ext.new m8
 have hG:Goes g (jH j eN env) (.ref ra) (below (n+1)) (λ _=>True) (ξ H2 ra (.fix {cls:=.type "range",data:=.fields #[.int 0 a1,.int ((n+1:Nat):Int) a2,.int 1 a3]})):=Goes.range (by exact cI (by assumption) (by decide)) ah
 have K3:Fb b H (ξ H2 ra (.fix {cls:=.type "range",data:=.fields #[.int 0 a1,.int ((n+1:Nat):Int) a2,.int 1 a3]})):=by ktf_call"b"
 generalize ξ H2 ra (.fix {cls:=.type "range",data:=.fields #[.int 0 a1,.int ((n+1:Nat):Int) a2,.int 1 a3]})=H3 at E3 hG K3⊢
 have t0:=E3 _ _ t0
 have t1:=E3 _ _ t1
 have t2:=E3 _ _ t2
 have t3:=E3 _ _ t3
 have eL:=fp.ext E3
 ktf_call"g"
 refine KV.i ?_
 have sE:(below (n+1)).length=n+1:=by simp[below]
 refine⟨below (n+1),_,hG,λ a ha=>⟨λ i vs H'=>∃ss,ak (SR none H' (d+1)) vs ss/\vs.length=i/\i<=n+1/\(∀s∈ss,WF (d+1) L M s)/\Fb b H3 H'/\Bg H' b,⟨[],trivial,rfl,gj _,(λ _ h=>nomatch h),by ktf_call"b",eL.new ha⟩,λ cY pP r7=>⟨?_,?_,λ _ _ _=>trivial⟩,?_⟩⟩
 ·intro i x vs H' afF mQ hx;obtain⟨ss,h1,h2,ph,h3,K,vy⟩:=afF
  exact⟨trivial,by exact aH (aT (aT Tv (aU h2)) ph) (by simp +arith only)⟩
 ·intro i x vs H' afG mQ hx hn;obtain⟨ss,h1,h2,ph,h3,K,vy⟩:=afG
  refine⟨rfl,mQ,?_⟩
  refine(if_pos rfl)▸?_
  show Vr g ⟨j,none,iF nA env,cY,env⟩ JF [(270,x)] H' (λ w=>vm 270 x a vs λ aD=>∃ss,ak (SR none (ξ aD a (.κ false (vs++[w]))) (d+1)) (vs++[w]) ss/\(vs++[w]).length=i+1/\i+1<=n+1/\(∀s∈ss,WF (d+1) L M s)/\Fb b H3 (ξ aD a (.κ false (vs++[w])))/\Bg (ξ aD a (.κ false (vs++[w]))) b) No
  have dz:a≠b:=eL.ne ha
  have G:=K.fz eL
  have Ci:∀i,([(dy ".0",NameKind.local),(N 270,.local),(N 269,.globalImplicit),(N 261,.cell),(N 101,.cell),(N 266,.cell),(N 267,.cell)]:List (Str×nM)).lookup (N i)=some .cell->cY.kindOf (N i)=some .cell:=λ i hi=>by delta rK;exact r7▸eR▸(hi)
  have m6:i<n+1:=by have:=(List.getElem?_eq_some_iff.mp hx).1;exact aH (aT (aU sE) this) (by simp +arith only)
  delta JF
  refine Vr.call rfl (i:=269) (f:=.ref 1526) rfl rfl (by show rG (iF nA env) _=_;refine eR▸?_;kernel_rfl) ?_
  refine gT.cons rfl (λ _=>rfl) (Vr.zt (Ci 261 (by kernel_rfl)) (a:=La+1) ((congrArg (eS _) pP).trans (by kernel_rfl)) (G _ _ t0 rfl) d0 e0 (by kernel_rfl) ?_)
  refine gT.cons rfl (λ _=>rfl) (Vr.zt (Ci 101 (by kernel_rfl)) (a:=(La+2)) ((congrArg (eS _) pP).trans (by kernel_rfl)) (G _ _ t1 rfl) d1 e1 (by kernel_rfl) ?_)
  refine gT.cons rfl (λ _=>rfl) (Vr.zt (Ci 266 (by kernel_rfl)) (a:=(La+3)) ((congrArg (eS _) pP).trans (by kernel_rfl)) (G _ _ t2 rfl) d2 e2 (by kernel_rfl) ?_)
  refine gT.cons rfl (λ _=>rfl) (Vr.zt (Ci 267 (by kernel_rfl)) (a:=(La+4)) ((congrArg (eS _) pP).trans (by kernel_rfl)) (G _ _ t3 rfl) d3 e3 (by kernel_rfl) (gT.nil ?_))
  refine St vy ((lE.fz E3.fz).fz G) ((Qm.fz E3.fz).fz G) hL hM (by show 3*d+12<=j;exact Px (by assumption)) λ aD v s F afH hs hZ=>?_
  have Tw:aD a=some (.κ false vs):=F _ _ mQ dz
  have Z:Fz aD (ξ aD a (.κ false (vs++[v]))):=Fz.set Tw rfl
  refine⟨rfl,Tw,ss++[s],?_,by simp[h2],by assumption,?_,?_,?_⟩
  ·exact(h1.map λ _ _ z=>z.fz ((F.fz vy).trans Z)).app (hs.fz Z)
  ·intro s' JK
   rcases List.mem_append.mp JK with z |z
   ·exact h3 s' z
   ·exact(List.mem_singleton.mp z)▸(hZ)
  ·exact Fb.own ha (Fb.trans' F K)
  ·obtain⟨l,q1,q2⟩:=afH
   exact⟨l,by refine(Γ (cP dz))▸?_;exact q1,q2⟩
 ·intro vs H4 afI Tx;obtain⟨ss,h1,h2,ph,h3,K,oM⟩:=afI
  have dz:a≠b:=eL.ne ha
  refine gT.cons rfl (λ _=>rfl) (Vr.pre (Gh.fl (z:=true) Tx) (Vr.of 60 (p:=.int 0) (Sp.of rfl rfl) (V.int (gT.nil ?_))))
  have Z:Fz H4 (ξ H4 a (.κ true vs)):=Fz.set Tx rfl
  refine i6 (by show 3<=j;exact aH hk (by simp +arith only)) ah λ H5 v x E5 np=>?_
  have hl:=h1.len
  refine hq _ v ss (Fb.om E5 (Fb.trans' (Fb.own ha K) K3)) ?_ ⟨x,vs,np,h1.map λ _ _ z=>z.fz (Z.trans E5.fz)⟩ ⟨by exact aH (aT (aT (aU sE.symm) (aU h2.symm)) (aU hl)) (by simp +arith only),by exact aH (aT (aT (aT Tv (aU sE)) (aU h2)) (aU hl.symm)) (by simp +arith only),h3⟩
  obtain⟨l,q1,q2⟩:=oM
  exact Bg.ext E5 ⟨l,by rw[Γ (cP dz)];exact q1,q2⟩
section
variable {D:Nat}
theorem afJ:aB E0 (.s dJ::fs)=aB E0 fs:=rfl
theorem Rn.one{top:Fm}{fs:List Fm}{σ:Sg}{sg:Ot}{q:LS×Ot}{N:Nat}(hD:fs.length+1<=D)(e:ni ν E0 ⟨top::fs,σ⟩ sg=q)(h:Rn ν E0 D N q r):Rn ν E0 D (N+1) (⟨top::fs,σ⟩,sg) r:=
 .s (List.cons_ne_nil _ _) hD (by refine e▸?_;exact h)
inductive To(ν:Addr->Int)(E0:Ev)(D c a b:Nat)(p:LS×Ot)(fs:List Fm)(q:Ot×Sg):Prop
 |mk (N:Nat) (h:N<=a*c+b) (r:Rn ν E0 D N p (⟨fs,q.2⟩,q.1)):To ν E0 D c a b p fs q
variable {c a b a' b':Nat}
theorem To.z:To ν E0 D c a b (⟨fs,σ⟩,o) fs (o,σ):=⟨0,gj _,.z _⟩
theorem To.wD(h:To ν E0 D c a b p fs q)(l:a<=a')(l':b<=b'):To ν E0 D c a' b' p fs q:=let⟨N,x,y⟩:=h;⟨N,Ψ x (aT (m5 c l) l'),y⟩
theorem To.le(h:To ν E0 D c a b p fs q)(l:(jK a a'&&jK b b')=true):To ν E0 D c a' b' p fs q:=h.wD (eV (an l).1) (eV (an l).2)
structure Dp(D n:Nat)(fs:List Fm)(k:Nat):Prop where
 h:fs.length+(8*n+k)<=D
theorem Dp.cn(h:Dp D n fs (k+1)):Dp D n (x::fs) k:=⟨Ψ (aU (Nat.succ_add _ _)) h.h⟩
theorem Dp.le(h:Dp D n fs k)(l:jK j k=true):Dp D n fs j:=⟨Ψ (eP (eP (eV l) _) _) h.h⟩
theorem Dp.o(h:Dp D n fs (k+1)):fs.length+1<=D:=Ψ (eP (Ψ (eh 1 k) (eh _ _)) _) h.h
theorem Dp.s(h:Dp D (n+1) fs k):Dp D n fs (8+k):=⟨Ψ (aU (by rw[<- kF (8*n)];rfl)) h.h⟩
theorem To.one{top:Fm}{σ:Sg}{sg:Ot}{n k:Nat}(hD:Dp D n fs (k+1))(e:ni ν E0 ⟨top::fs,σ⟩ sg=p)(h:To ν E0 D c a b p gs q):To ν E0 D c a (b+1) (⟨top::fs,σ⟩,sg) gs q:=
 let⟨N,x,y⟩:=h;⟨N+1,kC x,y.one hD.o e⟩
theorem To.bind(h:To ν E0 D c a b p fs q)(k:To ν E0 D c a' b' (⟨fs,q.2⟩,q.1) gs r):To ν E0 D c (a+a') (b+b') p gs r:=
 let⟨N,x,y⟩:=h;let⟨M,x',y'⟩:=k;⟨N+M,Ψ (aT x x') (aU (by rw[BG];exact Q7 _ _ _ _)),y.trans y'⟩
theorem Cj(hm:ip fs top=[]):oK ν fs σ top sg=(⟨fs,σ⟩,sg):=by
 cases sg with
 |cnt l=>show(if top.lp=true/\bB l (ip fs top)=true then _ else _)=_;rw[hm];exact if_neg λ h=>nF h.2
 |brk l=>show(if bB l (ip fs top)=true then _ else _)=_;rw[hm];exact if_neg λ h=>nF h
 |_=>rfl
theorem pass(ht:∀c f k sg,top≠.t c f k sg)(hm:ip fs top=[])(hp:lO ν fs σ top=(⟨fs,σ⟩,.χ))(hs:∀dJ,top≠.s dJ):ni ν E0 ⟨top::fs,σ⟩ sg=(⟨fs,σ⟩,sg):=by
 cases sg with
 |χ=>cases top with
  |s dJ=>exact absurd rfl (hs dJ)
  |_=>exact hp
 |_=>cases top with
  |t c f k sg=>exact absurd rfl (ht c f k sg)
  |_=>first |exact Cj (ν:=ν) (σ:=σ) (sg:=.ret _) hm |exact Cj (ν:=ν) (σ:=σ) (sg:=.brk _) hm |exact Cj (ν:=ν) (σ:=σ) (sg:=.cnt _) hm |exact Cj (ν:=ν) (σ:=σ) (sg:=.aw _) hm
theorem Tz(h:sg=.χ->dJ=[]):ni ν E0 ⟨.s dJ::fs,σ⟩ sg=(⟨fs,σ⟩,sg):=by
 cases sg with
 |χ=>exact(h rfl)▸rfl
 |_=>rfl
def kQ(ν:Addr->Int)(E0:Ev)(D n c:Nat)(s:St):Prop:=∀r fs σ,Dp D n fs 0->To ν E0 D c 1 0 (BZ ν E0 (.s r::fs) σ s) (.s r::fs) (ev ν n (aB E0 fs) s σ)
theorem seq:∀{b:List St},(∀s∈b,kQ ν E0 D n c s)->∀{fs:List Fm}{σ:Sg},Dp D n fs 1->To ν E0 D c b.length (2*b.length+1) (⟨.s (b.map .st)::fs,σ⟩,.χ) fs (aA (ev ν n (aB E0 fs)) b σ)
 | [],_,fs,σ,hD=>To.one (b:=0) hD rfl .z
 |s::b,hs,fs,σ,hD=>by
  have e:aA (ev ν n (aB E0 fs)) (s::b) σ=match ev ν n (aB E0 fs) s σ with
   | (.χ,bz)=>aA (ev ν n (aB E0 fs)) b bz
   |p=>p:=rfl
  refine e▸?_
  have fin:To ν E0 D c b.length (2*b.length+1) (⟨.s (b.map .st)::fs,(ev ν n (aB E0 fs) s σ).2⟩,(ev ν n (aB E0 fs) s σ).1) fs (match ev ν n (aB E0 fs) s σ with
   | (.χ,bz)=>aA (ev ν n (aB E0 fs)) b bz
   |p=>p):=by
   obtain⟨o,bz⟩:=ev ν n (aB E0 fs) s σ
   cases o with
   |χ=>exact seq (λ s JK=>hs s (eA _ JK)) hD
   |_=>exact To.one hD (Tz (by intro z;cases z)) .z
  exact To.wD (To.one hD rfl ((hs s eU (b.map .st) fs σ (hD.le rfl)).bind fin)) (aU (mu _ _)) (by rw[lW];exact gK _)
theorem JL{n c:Nat}{b:List St}(hl:b.length<=2)(hs:∀s∈b,kQ ν E0 D n c s)(hD:Dp D n fs 1):To ν E0 D c 2 5 (⟨.s (b.map .st)::fs,σ⟩,.χ) fs (aA (ev ν n (aB E0 fs)) b σ):=
 (seq hs hD).wD hl (kC (v7 2 hl))
theorem tE{n c:Nat}{b:List St}(hl:b.length<=2)(hs:∀s∈b,kQ ν E0 D n c s)(hD:Dp D n fs 2):To ν E0 D c 2 7 (⟨.s [.bl b]::fs,σ⟩,.χ) fs (aA (ev ν n (aB E0 fs)) b σ):=by
 have h:=JL hl hs (fs:=.s []::fs) (σ:=σ) hD.cn
 rw[afJ]at h
 exact To.one hD rfl (h.bind (To.one (a:=0) (b:=0) hD (Tz λ _=>rfl) .z))
end
section
variable {D:Nat}
theorem afK:fw s_ q=q:=Q_
theorem TB(hl:l≠s_):ni ν E0 ⟨.l l::fs,q.2⟩ q.1=(⟨fs,(fw l q).2⟩,(fw l q).1):=by
 obtain⟨o,σ⟩:=q
 have e:c8 l=[l]:=if_neg hl
 cases o with
 |brk x=>
  show(if bB x [l]=true then((⟨fs,σ⟩:LS),Ot.χ)else(⟨fs,σ⟩,.brk x))=((⟨fs,(if bB x (c8 l)=true then((.χ,σ):Ot×Sg)else(.brk x,σ)).2⟩:LS),(if bB x (c8 l)=true then((.χ,σ):Ot×Sg)else(.brk x,σ)).1)
  rw[e]
  split <;> rfl
 |cnt x=>show(if Fm.lp (.l l)=true/\bB x (ip fs (.l l))=true then lO ν fs σ (.l l)else(⟨fs,σ⟩,.cnt x))=_;exact if_neg λ h=>nF h.1
 |_=>rfl
theorem To.fw(hD:Dp D n fs (k+1))(h:To ν E0 D c a b p (eI l fs) q):To ν E0 D c a (b+1) p fs (Mine.fw l q):=by
 by_cases hl:l=s_
 ·subst hl
  rw[afK]
  exact h.wD (bK _) (gK _)
 ·rw[show eI l fs=.l l::fs from if_neg hl]at h
  exact h.bind (To.one (a:=0) (b:=0) hD (TB hl) .z)
theorem TC:fy (eI l (.s r::fs))=c8 l:=by
 delta eI c8
 split <;> rfl
theorem TF:aB E0 (eI l fs)=aB E0 fs:=by
 delta eI
 split <;> rfl
theorem Dp.fw(h:Dp D n fs (k+1)):Dp D n (eI l fs) k:=by
 delta eI
 split
 ·exact⟨Ψ (eP (eP (gK k) _) _) h.h⟩
 ·exact h.cn
theorem TG(hl:b.length<=2)(hs:∀s∈b,kQ ν E0 D n c s)(hL:fy F0=L)(hD:Dp D n F0 4):∀{vs:List SV}{σ:Sg},
  To ν E0 D c (2*vs.length) (9*vs.length) (pS ν nn b F0 σ vs) F0 (lp L (λ v σ=>aA (ev ν n ((bC,v,true)::aB E0 F0)) b {σ with seen:=σ.seen++[(ν nn,v)]}) vs σ)
 | [],σ=>To.z
 |v::r,σ=>by
  have h:=tE hl hs (fs:=.x v::.f nn b r::F0) (σ:={σ with seen:=σ.seen++[(ν nn,v)]}) hD.cn.cn
  have ev1:aB E0 (.x v::.f nn b r::F0)=(bC,v,true)::aB E0 F0:=rfl
  rw[ev1]at h
  have ih:=λ σ=>TG hl hs hL hD (vs:=r) (σ:=σ) (nn:=nn)
  have e:lp L (λ v σ=>aA (ev ν n ((bC,v,true)::aB E0 F0)) b {σ with seen:=σ.seen++[(ν nn,v)]}) (v::r) σ =
   match fH L (aA (ev ν n ((bC,v,true)::aB E0 F0)) b {σ with seen:=σ.seen++[(ν nn,v)]}).1 with
   |0=>lp L (λ v σ=>aA (ev ν n ((bC,v,true)::aB E0 F0)) b {σ with seen:=σ.seen++[(ν nn,v)]}) r (aA (ev ν n ((bC,v,true)::aB E0 F0)) b {σ with seen:=σ.seen++[(ν nn,v)]}).2
   |1=>(.χ,(aA (ev ν n ((bC,v,true)::aB E0 F0)) b {σ with seen:=σ.seen++[(ν nn,v)]}).2)
   |_=>aA (ev ν n ((bC,v,true)::aB E0 F0)) b {σ with seen:=σ.seen++[(ν nn,v)]}:=rfl
  rw[e]
  generalize lp L (λ v σ=>aA (ev ν n ((bC,v,true)::aB E0 F0)) b {σ with seen:=σ.seen++[(ν nn,v)]}) r=wC at ih⊢
  generalize aA (ev ν n ((bC,v,true)::aB E0 F0)) b {σ with seen:=σ.seen++[(ν nn,v)]}=q at h⊢
  obtain⟨o,dD⟩:=q
  have fin:To ν E0 D c (2*r.length) (9*r.length+1) (⟨.f nn b r::F0,dD⟩,o) F0 (match fH L o with
   |0=>wC dD
   |1=>(.χ,dD)
   |_=>(o,dD)):=by
   cases o with
   |χ=>exact To.one hD rfl (ih dD)
   |brk x=>
    rw[Iy]
    by_cases hx:bB x (s_::L)=true
    ·rw[if_pos hx]
     exact To.one hD (by show(if bB x (s_::fy F0)=true then _ else _)=_;rw[hL,if_pos hx]) .z
    ·rw[if_neg hx]
     exact To.one hD (by show(if bB x (s_::fy F0)=true then _ else _)=_;rw[hL,if_neg hx]) .z
   |cnt x=>
    rw[Iz]
    by_cases hx:bB x (s_::L)=true
    ·rw[if_pos hx]
     exact To.one hD (by show(if true=true/\bB x (s_::fy F0)=true then pS ν nn b F0 dD r else _)=_;rw[hL,if_pos ⟨rfl,hx⟩]) (ih dD)
    ·rw[if_neg hx]
     exact To.one hD (by show(if true=true/\bB x (s_::fy F0)=true then _ else _)=_;rw[hL,if_neg λ z=>hx z.2]) .z
   |ret u=>exact To.one hD rfl .z
   |aw u=>exact To.one hD rfl .z
  exact To.wD (h.bind (To.one hD.cn (pass (by intro _ _ _ _ z;cases z) rfl rfl (by intro _ z;cases z)) fin)) (aU (mu _ _)) (aU (mu 7 _))
end
section
variable {D:Nat}
theorem JM(h:k≠0\/cc=none\/∀u,o≠.aw u)(hn:o=.χ->k=2->False):ni ν E0 ⟨.t cc f k sg::fs,σ⟩ o=lN cc f k fs σ o:=by
 cases o with
 |χ=>show lN cc f k fs σ (if k=2 then sg else .χ)=_;exact(if_neg λ z=>hn rfl z)▸rfl
 |aw u=>
  show ti ν fs σ (.aw u) (.t cc f k sg)=_
  cases k with
  |zero=>cases cc with
   |none=>rfl
   |some c=>exact h.elim (λ h=>absurd rfl h) λ h=>h.elim (λ h=>nS h) λ h=>absurd rfl (h u)
  |succ k=>rfl
 |_=>rfl
theorem TH(hk:k≠2)(hf:∀b,f=some b->b.length<=2/\∀s∈b,kQ ν E0 D n c s)(hD:Dp D n fs 3):
  To ν E0 D c 2 8 (lN cc f k fs σ o) fs (mx (aA (ev ν n (aB E0 fs))) (o,σ) f):=by
 cases f with
 |none=>exact .z
 |some b=>
  refine ag (hf b rfl) λ h1 h2=>?_
  have h:=tE h1 h2 (fs:=.t cc (some b) 2 o::fs) (σ:=σ) hD.cn
  rw[show aB E0 (.t cc (some b) 2 o::fs)=aB E0 fs from rfl]at h
  rw[show lN cc (some b) k fs σ o=(⟨.s [.bl b]::.t cc (some b) 2 o::fs,σ⟩,.χ)from if_neg hk]
  refine h.bind (a':=0) (b':=1) ?_
  show To ν E0 D c 0 1 _ fs (match aA (ev ν n (aB E0 fs)) b σ with
   | (.χ,σ)=>(o,σ)
   |q=>q)
  generalize aA (ev ν n (aB E0 fs)) b σ=q
  obtain⟨o3,σ3⟩:=q
  cases o3 with
  |χ=>exact To.one hD rfl .z
  |_=>exact To.one hD (JM (.inl (by decide)) (by intro z;cases z)) .z
theorem afL(hb:b.length<=2/\∀s∈b,kQ ν E0 D n c s)(hc:∀y,cc=some y->y.2.length<=2/\∀s∈y.2,kQ ν E0 D n c s)(hf:∀b,f=some b->b.length<=2/\∀s∈b,kQ ν E0 D n c s)
  (hD:Dp D n fs 5):To ν E0 D c 6 30 (⟨.s [.bl b]::.t cc f 0 .χ::fs,σ⟩,.χ) fs (mx (aA (ev ν n (aB E0 fs))) (jX ν (λ E=>aA (ev ν n E)) (aB E0 fs) b cc σ) f):=by
 have h:=tE hb.1 hb.2 (fs:=.t cc f 0 .χ::fs) (σ:=σ) (hD.cn.le rfl)
 rw[show aB E0 (.t cc f 0 .χ::fs)=aB E0 fs from rfl]at h
 delta jX
 dsimp only
 generalize aA (ev ν n (aB E0 fs)) b σ=q at h⊢
 obtain⟨o,dD⟩:=q
 have plain:(cc=none\/∀u,o≠.aw u)->To ν E0 D c 6 30 (⟨.s [.bl b]::.t cc f 0 .χ::fs,σ⟩,.χ) fs (mx (aA (ev ν n (aB E0 fs))) (o,dD) f):=λ hh=>
  (h.bind (To.one hD (JM (.inr hh) (by intro _ z;cases z)) (TH (by decide) hf (hD.le rfl)))).le rfl
 cases o with
 |aw u=>
  cases cc with
  |none=>exact plain (.inl rfl)
  |some y=>
   refine ag (hc y rfl) λ g1 g2=>?_
   have last:∀(q:Ot×Sg),To ν E0 D c 2 9 (⟨.t (some y) f 1 .χ::fs,q.2⟩,q.1) fs (mx (aA (ev ν n (aB E0 fs))) q f):=λ q=>
    To.one hD (JM (.inl (by decide)) (by intro _ z;cases z)) (TH (by decide) hf (hD.le rfl))
   show To ν E0 D c _ _ _ fs (mx (aA (ev ν n (aB E0 fs))) (vI ν (λ E=>aA (ev ν n E)) (aB E0 fs) y u dD) f)
   obtain⟨nm,cb⟩:=y
   cases nm with
   |none=>
    have hh:=tE g1 g2 (fs:=.t (some (none,cb)) f 1 .χ::fs) (σ:=dD) (hD.cn.le rfl)
    exact(h.bind (To.one hD rfl (hh.bind (last _)))).le rfl
   |some x=>
    exact(h.bind (To.one hD rfl ((tE g1 g2 (fs:=.e u::.t (some (some x,cb)) f 1 .χ::fs) (σ:={dD with seen:=dD.seen++[(ν x,u)]}) (hD.cn.cn.le rfl)).bind (To.one hD.cn (pass (by intro _ _ _ _ z;cases z) rfl rfl (by intro _ z;cases z)) (last _))))).le rfl
 |_=>exact plain (.inr λ _ z=>nomatch z)
theorem afM:ni ν E0 ⟨.w::fs,q.2⟩ q.1=(⟨fs,(pH q).2⟩,(pH q).1):=by
 obtain⟨o,σ⟩:=q
 cases o with
 |brk x=>
  show(if bB x [s_]=true then((⟨fs,σ⟩:LS),Ot.χ)else(⟨fs,σ⟩,.brk x))=_
  show _=((⟨fs,(if(x.cps.toList==[])=true then((.χ,σ):Ot×Sg)else(.brk x,σ)).2⟩:LS),(if(x.cps.toList==[])=true then((.χ,σ):Ot×Sg)else(.brk x,σ)).1)
  rw[Iw,s_eq,bne,Bool.not_not]
  cases(x.cps.toList==[]) <;> rfl
 |cnt x=>show(if Fm.lp .w=true/\bB x (ip fs .w)=true then lO ν fs σ .w else(⟨fs,σ⟩,.cnt x))=_;exact if_neg λ h=>nF h.1
 |_=>rfl
theorem zu(h:∀v dD,To ν E0 D c a b (⟨(f v).1,dD⟩,(f v).2) fs (g v dD)):To ν E0 D c a b (kP (dm ν E e σ) fs f) fs (fJ ν E e σ g):=by
 delta kP fJ
 obtain⟨r,dD⟩:=dm ν E e σ
 cases r with
 |ok v=>exact h v dD
 |error u=>exact .z
theorem To.up(h:To ν E0 D c a b p fs q):To ν E0 D (a*c+b) 1 0 p fs q:=let⟨N,x,y⟩:=h;⟨N,Ψ x (aU (pC _).symm),y⟩
theorem afN{n c:Nat}(ih:∀s L M,WF n L M s->kQ ν E0 D n c s){s:St}{L M:List Str}(hw:WF (n+1) L M s):kQ ν E0 D (n+1) (6*c+40) s:=by
 intro r fs σ hD
 replace hD:=hD.s
 refine To.up ?_
 have hw:l9 (WF n) L M s:=hw
 have bk:∀{L M b},WB (WF n) L M b->b.length<=2/\∀s∈b,kQ ν E0 D n c s:=λ w=>⟨w.2.1,λ s hs=>ih s _ _ (w.2.2 s hs)⟩
 show To ν E0 D c 6 40 _ _ (HJ ν (ev ν n) (aB E0 fs) s σ)
 cases s with
 |ex e=>exact zu λ v dD=>.z
 |dN=>exact .z
 |ret e=>exact zu λ v dD=>.z
 |aw e=>exact zu λ v dD=>.z
 |brk l=>exact .z
 |cnt l=>exact .z
 |dQ b cc f=>exact(afL (fs:=.s r::fs) (bk hw.1) (λ y e=>bk (hw.2.1 y e)) (λ y e=>bk (hw.2.2 y e)) (hD.cn.le rfl)).le rfl
 |hU l b=>
  refine ag (bk hw.2) λ h1 h2=>?_
  have e:fy (eI l (.s r::fs))=c8 l:=TC
  have hv:aB E0 (.d::eI l (.s r::fs))=aB E0 fs:=TF (fs:=.s r::fs)
  have tF:Dp D n (eI l (.s r::fs)) 6:=hD.cn.fw
  have h:=tE h1 h2 (fs:=.d::eI l (.s r::fs)) (σ:=σ) (tF.cn.le rfl)
  rw[hv]at h
  refine To.le (To.fw (l:=l) (a:=2) (b:=8) hD.cn ?_) rfl
  show To ν E0 D c _ _ (⟨.s [.bl b]::.d::eI l (.s r::fs),σ⟩,.χ) _ (match fH (c8 l) (aA (ev ν n (aB E0 fs)) b σ).1 with
   |0=>(.χ,(aA (ev ν n (aB E0 fs)) b σ).2)
   |1=>(.χ,(aA (ev ν n (aB E0 fs)) b σ).2)
   |_=>aA (ev ν n (aB E0 fs)) b σ)
  generalize aA (ev ν n (aB E0 fs)) b σ=q at h⊢
  obtain⟨o,dD⟩:=q
  refine h.bind (a':=0) (b':=1) ?_
  dsimp only
  generalize eI l (.s r::fs)=F0 at e tF⊢
  cases o with
  |brk x=>
   rw[Iy]
   by_cases hx:bB x (s_::c8 l)=true
   ·rw[if_pos hx]
    exact To.one tF (by show(if bB x (s_::fy F0)=true then _ else _)=_;rw[e,if_pos hx]) .z
   ·rw[if_neg hx]
    exact To.one tF (by show(if bB x (s_::fy F0)=true then _ else _)=_;rw[e,if_neg hx]) .z
  |cnt x=>
   rw[Iz]
   by_cases hx:bB x (s_::c8 l)=true
   ·rw[if_pos hx]
    exact To.one tF (by show(if true=true/\bB x (s_::fy F0)=true then lO ν F0 dD .d else _)=_;rw[e,if_pos ⟨rfl,hx⟩];rfl) .z
   ·rw[if_neg hx]
    exact To.one tF (by show(if true=true/\bB x (s_::fy F0)=true then _ else _)=_;rw[e,if_neg λ z=>hx z.2]) .z
  |_=>exact To.one tF rfl .z
 |gq l i nn row b=>
  cases row with
  |bad y=>
   show To ν E0 D c _ _ (⟨eI l (.s r::fs),{σ with aj:=σ.aj++[ν y]}⟩,.aw (.o σ.aj.length)) _ _
   exact(To.fw (ν:=ν) (E0:=E0) (D:=D) (l:=l) (a:=0) (b:=0) (fs:=.s r::fs) (q:=(.aw (.o σ.aj.length),{σ with aj:=σ.aj++[ν y]})) hD.cn .z).le rfl
  |txt t=>
   refine ag (bk hw.2.2) λ h1 h2=>?_
   have ht:=(ou.asc hw.2.1 t rfl).2
   have h:=TG (nn:=nn) (F0:=eI l (.s r::fs)) h1 h2 TC (hD.cn.fw.le rfl) (vs:=items i t) (σ:=σ)
   rw[show aB E0 (eI l (.s r::fs))=aB E0 fs from TF (fs:=.s r::fs),vU]at h
   exact(To.fw hD.cn (h.wD (v7 2 ht) (v7 9 ht))).le rfl
 |kK l b=>
  refine ag (bk hw.2.2) λ h1 h2=>?_
  have h:=JL h1 h2 (fs:=.l l::.s r::fs) (σ:=σ) (hD.cn.cn.le rfl)
  rw[show aB E0 (.l l::.s r::fs)=aB E0 fs from rfl]at h
  exact(h.bind (To.one (a:=0) (b:=0) hD.cn (TB hw.2.1) .z)).le rfl
 |sw e p1 s1 p2 s2=>
  obtain⟨w1,w2,w3,w4,w5,_⟩:=hw
  refine zu λ v dD=>?_
  have hs:∀s∈[s1,s2].drop (eG v p1 p2),kQ ν E0 D n c s:=λ s hs=>by
   rcases List.mem_cons.mp (Pz hs)with rfl |h
   ·exact ih _ _ _ w3
   ·rw[List.mem_singleton.mp h];exact ih _ _ _ w5
  have h:=JL ((S6 _ _).length_le:([s1,s2].drop (eG v p1 p2)).length<=2) hs (fs:=.w::.s r::fs) (σ:=dD) (hD.cn.cn.le rfl)
  rw[show aB E0 (.w::.s r::fs)=aB E0 fs from rfl]at h
  exact(h.bind (To.one (a:=0) (b:=0) hD.cn afM .z)).le rfl
 |iff e a b=>
  refine fg hw λ w1 w2 w3=>?_;clear hw
  refine zu λ v dD=>?_
  dsimp only
  cases cM v with
  |true=>
   refine ag (bk w2) λ h1 h2=>?_
   exact(tE h1 h2 (fs:=.s r::fs) (hD.cn.le rfl)).le rfl
  |false=>
   cases b with
   |none=>exact(seq (b:=[]) (c:=c) (n:=n) (λ _ h=>nomatch h) (fs:=.s r::fs) (hD.cn.le rfl)).le rfl
   |some s=>
    have h:=seq (b:=[s]) (n:=n) (c:=c) (λ x hx=>by rw[List.mem_singleton.mp hx];exact ih _ _ _ (w3 s rfl)) (fs:=.s r::fs) (σ:=dD) (hD.cn.le rfl)
    rw[show aB E0 (.s r::fs)=aB E0 fs from rfl]at h
    have e1:aA (ev ν n (aB E0 fs)) [s] dD=ev ν n (aB E0 fs) s dD:=by
     show(match ev ν n (aB E0 fs) s dD with| (.χ,bz)=>((.χ,bz):Ot×Sg)|p=>p)=_
     obtain⟨o,bz⟩:=ev ν n (aB E0 fs) s dD
     cases o <;> rfl
    rw[e1]at h
    exact h.le rfl
end
section
variable {D:Nat}
noncomputable def cS:Nat->Nat
 |0=>0
 |n+1=>6*cS n+40
theorem sim:∀{n:Nat} (s:St) (L M:List Str),WF n L M s->kQ ν E0 D n (cS n) s
 |0,_,_,_,h=>h.elim
 |n+1,_,_,_,h=>afN (λ s L M w=>sim s L M w) h
theorem afO(hw:WF 4 [] [] s):∃N,N<=2 ^ 17/\Rn ν E0 600 N (⟨[.s [.st s]],⟨[],[]⟩⟩,.χ) (⟨[],(ev ν 4 E0 s ⟨[],[]⟩).2⟩,(ev ν 4 E0 s ⟨[],[]⟩).1):=by
 obtain⟨N,h1,h2⟩:=seq (ν:=ν) (E0:=E0) (D:=600) (n:=4) (c:=cS 4) (b:=[s]) (λ x hx=>by refine(List.mem_singleton.mp hx)▸?_;exact sim s _ _ hw) (fs:=[]) (σ:=⟨[],[]⟩) ⟨by decide⟩
 refine⟨N,Ψ h1 (show 1*cS 4+3<=2 ^ 17 by decide),?_⟩
 have e1:aA (ev ν 4 (aB E0 [])) [s] ⟨[],[]⟩=ev ν 4 E0 s ⟨[],[]⟩:=by
  show(match ev ν 4 E0 s ⟨[],[]⟩with| (.χ,bz)=>((.χ,bz):Ot×Sg)|p=>p)=_
  generalize ev ν 4 E0 s ⟨[],[]⟩=q
  obtain⟨o,bz⟩:=q
  cases o <;> rfl
 rw[e1]at h2
 exact h2
theorem afP{n:Nat}{st:St}(h:WF n [] [] st):∀l,(ev ν n E st σ).1≠.brk l/\(ev ν n E st σ).1≠.cnt l:=λ l=>by
 have:=v_ (ν:=ν) (E:=E) (σ:=σ) h
 exact⟨λ z=>(by rw[z]at this;cases this),λ z=>(by rw[z]at this;cases this)⟩
end
theorem afQ(h:iX s.heap it "tuple_iterator" D)(q:Q () s):wpAny (MM g) A (FQ (.Tuple elts kk u) (.ref it) v) Q E s:=by
 refine fh h λ o h1 h2 h3=>?_;clear h
 unfold FQ
 cases v <;> first
  |exact aL q
  | (dsimp only;refine Δ (wpAny_load h1 ?_);refine h2▸h3▸?_;dsimp only;rw[if_neg (by simp)];exact aL q)
theorem S1.rF(o:Own c)(hd:c.hd=none)
  (h:V g c e m H (λ v ρ H₁=>∃l xs,v=.ref l/\H₁ l=some (.φ xs)/\∃I:Nat->Lc->AH->Prop,I 0 ρ H₁/\(∀k x m H,I k m H->xs[k]?=some x->H l=some (.φ xs)/\∃t u w,x=.ref t/\TA H t [u,w]/\S g c a (put j w (put i u m)) H (λ f Ξ ο=>match f with
   | .next | .cont=>I (k+1) Ξ ο
   | .brk=>Q .next Ξ ο
   | .ret v=>Q (.ret v) Ξ ο) X)/\∀m H,I xs.length m H->H l=some (.φ xs)/\Q .next m H) X):S1 g c (.rF i j e a) m H Q X:=by
 intro n st hs A s hA
 obtain⟨n',x,q,y,r,kk,u,e',a',p,rfl,h1,h2,h3,h4⟩:=Wt hs
 refine ag (jE h1) λ k1 k2=>?_
 refine ag (jE h2) λ k3 k4=>?_
 refine wpAny_For (step hA hA Go.refl (h n' e' h3) λ v s₁ ρ H₁ a1 a2 zz=>dG zz λ l xs ev hl zz=>fh zz λ I i0 i1 i2=>?_) (AD h3 _)
 obtain rfl:=a8 ev
 refine ψ (a1.sim _ _ hl) λ items g1 g2=>?_
 have bM:l≠s₁.heap.objs.size:=by refine Θ ((a1.sim _ _ hl).get) λ ob ho=>?_;exact gc (dO ho)
 refine wpAny_pyIter_tuple g1.Ae ?_
 refine NG o hd (g9.tuple bM) I (λ A s v i Q E h q=>afQ h q) (λ k x m H hI hx=>?_) (λ m H hI=>i2 m H hI) hA (a1.push _ s₁.toks) (a2.trans (Go.push _)) i0 ⟨_,fZ _ (by rfl),by rfl,by rfl⟩ a1.toaC.dI
  (Heap.o9 (λ o q=>a2.mI hA a1 q) (mM (bK s₁.heap.objs.size))) a1.size (λ _ _ m' H' x y z=>⟨m',H',x,y,z⟩) λ e s' x=>AA o hA x
 obtain⟨j1,t,u',w,rfl,ht,j2⟩:=i1 k x m H hI hx
 refine⟨j1,λ v hv=>?_⟩
 obtain rfl:=a8 hv
 refine GG (v':=.none) ht hd rfl rfl λ vs kG=>?_
 refine dG (List.map_eq_cons_iff.mp kG) λ x1 r1 z1 z2 z3=>?_;refine dG (List.map_eq_cons_iff.mp z3) λ x2 r2 z4 z5 z6=>?_;cases List.map_eq_nil_iff.mp z6;clear kG z3 z6;subst z1;subst z2;subst z4;subst z5
 refine rY k1 k2 (rY k3 k4 (W.pure ?_))
 exact(j2 n' a' h4).mono (λ f Ξ ο z=>by cases f <;> exact z) λ _ _ _ z=>z
section
variable {k:Nat}
end
section
variable {k:Nat}
theorem μ.afR(hl:rZ H l vs)(hf:vs.length<2 ^ 60)(q:Q (.int vs.length 0) H):μ g k (.builtin "len") [.ref l] H Q E:=by
 intro A s raw aO hA
 obtain⟨a,rfl,ha⟩:∃a,raw=[a]/\nv a=.ref l:=by
  cases raw with
  |nil=>exact nL aO
  |cons a r=>cases r with
   |nil=>exact⟨a,rfl,by simpa using aO⟩
   |cons=>simp at aO
 obtain rfl:=a8 ha
 refine ψ (hl.seq hA) λ items k1 afS=>?_;subst afS
 have hs:items.size<2 ^ 60:=by simpa using hf
 refine call_len_list k1.isList (by omega) (lx hA _ (by simpa using q))
end
theorem Ck:sy g 0:=λ hb hw hm hL hM hk hq=>Ho (d:=0) (by decide) (λ _ e=>nomatch e) (λ h=>absurd rfl h) hb hw hm hL hM hk hq
theorem sT:sy g 1:=λ hb hw hm hL hM hk hq=>Ho (d:=1) (by decide) (λ d' e=>(show d'=0 by exact Ml e.symm (by simp +arith only))▸⟨Ck,JJ (by decide) Ck⟩) (λ _=>Ck) hb hw hm hL hM hk hq
theorem st2:sy g 2:=λ hb hw hm hL hM hk hq=>Ho (d:=2) (by decide) (λ d' e=>(show d'=1 by exact Ml e.symm (by simp +arith only))▸⟨sT,JJ (by decide) sT⟩) (λ _=>Ck) hb hw hm hL hM hk hq
noncomputable def zv(p:Int×SV):PyData:=.tuple [.int p.1,nk p.2]
noncomputable def Cm(n:Int):PyData:=.tuple [.int 4,.int n]
noncomputable def zw:Ot->PyData
 | .ret u=>.tuple [.str BV,nk u]
 | .aw u=>.tuple [.str yX,nk u]
 |_=>.tuple []
noncomputable def zx(q:Ot×Sg):PyData:=.tuple [.list (q.2.seen.map zv),.list (q.2.aj.map Cm),zw q.1,.bool true]
theorem gk.rd(h:gk H v p):RD H v (zv p):=by
 cases h with|mk a w e h r=>exact⟨a,_,e,h,rfl,r.rd,trivial⟩
theorem gu.rd(h:gu H v n):RD H v (Cm n):=by
 cases h with|mk a e h=>exact⟨a,_,e,h,rfl,rfl,trivial⟩
theorem zy{β:Type}{R:Value->β->Prop}{f:β->PyData}(k:∀v b,R v b->RD H v (f b)):∀{vs:List Value}{ps:List β},ak R vs ps->jr H vs (ps.map f)
 | [],[],_=>trivial
 |_::_,_::_,h=>⟨k _ _ h.1,zy k h.2⟩
 | [],_::_,h=>h.elim
 |_::_,[],h=>h.elim
theorem mA.rd(h:mA H v o):RD H v (zw o):=by
 cases h with
 |χ a e h=>exact⟨a,_,e,h,trivial⟩
 |ret a w e h r=>exact⟨a,_,e,h,rfl,r.rd,trivial⟩
 |aw a w e h r=>exact⟨a,_,e,h,rfl,r.rd,trivial⟩
theorem dY.en(h:dY H v o)(n:∀l,o≠.brk l/\o≠.cnt l):mA H v o/\(zw o).canLay0=true:=by
 cases h with
 |χ a e h=>exact⟨.χ a e h,rfl⟩
 |ret a w e h r=>exact⟨.ret a w e h r.r,by exact(mJ _ _).mpr ⟨l8.mpr (by decide),(mJ _ _).mpr ⟨gR.lay r.ok,rfl⟩⟩⟩
 |aw a w e h r=>exact⟨.aw a w e h r.r,by exact(mJ _ _).mpr ⟨l8.mpr (by decide),(mJ _ _).mpr ⟨gR.lay r.ok,rfl⟩⟩⟩
 |brk a e h r=>exact absurd rfl (n _).1
 |cnt a e h r=>exact absurd rfl (n _).2
theorem JN:∀{l:List α},(∀x∈l,(f x).canLay0=true)->i4 (l.map f)=true
 | [],_=>rfl
 |x::l,h=>by
  show((f x).canLay0&&i4 (l.map f))=true
  rw[h x eU,JN λ y hy=>h y (eA _ hy)];rfl
theorem JO{α:Type}{f:α->PyData}(hf:∀x,(f x).depth<=d):∀{l:List α},TJ (l.map f)<=d
 | []=>gj _
 |x::l=>Nat.max_le.mpr ⟨hf x,JO hf⟩
section
variable {k:Nat}
theorem afT(h1:∀p∈q.2.seen,gR p.2)(h2:(zw q.1).canLay0=true):(zx q).canLay0=true:=by
 have e1:i4 (q.2.seen.map zv)=true:=JN λ p hp=>by simp only[zv,Be,i4,gR.lay (h1 p hp),BC]
 have e2:i4 (q.2.aj.map Cm)=true:=JN λ p hp=>rfl
 simp only[zx,Be,i4,e1,e2,h2,BC]
theorem afU:(zw o).depth<=10:=by
 cases o with
 |ret u=>cases u <;> exact eV rfl
 |aw u=>cases u <;> exact eV rfl
 |_=>exact eV rfl
theorem afV:(zx q).depth<=30:=by
 have e1:TJ (q.2.seen.map zv)<=10:=JO λ p=>by
  obtain⟨n,u⟩:=p
  cases u <;> exact eV rfl
 have e2:TJ (q.2.aj.map Cm)<=10:=JO λ p=>eV rfl
 have e3:=afU (o:=q.1)
 exact kC (Nat.max_le.mpr ⟨Ψ (kC e1) (by decide),Nat.max_le.mpr ⟨Ψ (kC e2) (by decide),Nat.max_le.mpr ⟨Ψ e3 (by decide),by decide⟩⟩⟩)
inductive oS(H:AH)(a:Addr)(vs:List Value):Prop
 |mk (items:Array Value) (n:Nat) (h:H a=some (.fix {cls:=.type "list",data:=.seq items n})) (e:items.toList.map nv=vs):oS H a vs
theorem oS.fz(h:oS H a vs)(F:Fz H H'):oS H' a vs:=by cases h with|mk i n h e=>exact⟨i,n,F _ _ h rfl,e⟩
theorem oS.ls(h:oS H a vs):rZ H a vs:=by cases h with|mk i n h e=>exact .inr ⟨i,n,h,e⟩
theorem mm.lQ{c:Cx}{Q:bJ->Lc->AH->Prop}{X:Value->Lc->AH->Prop}{C:List It}{st:List Value}{m:Lc}(hx:m.lookup 313=some (.ref x))(h1:oS H x vs)(h2:vs.length<=1000)(h:∀H' y,Ext H H'->H' y=some (.κ true (vs.take 36))->M g c Q X C (.ref y::st) m H'):
  M g c Q X (.v (.dT (.θ 313) none (some (.int 36)) none)::C) st m H:=by
 refine(V.OI (z2:=true) (V.θ hx ?_):V g c (.dT (.θ 313) none (some (.int 36)) none) m H (λ v m' H'=>M g c Q X C (v::st) m' H') X)
 simp only[Vo]
 exact V.int ⟨x,vs,none,some 36,none,rfl,h1.ls,rfl,rfl,rfl,by decide,Ψ h2 (by decide),λ y hy=>h _ y (Ext.new hy) (by rw[ah];exact congrArg (some∘AO.κ true) (ahB vs 36))⟩
inductive TK(H:AH)(v:Value)(H':AH):Prop
 |mk (rt:Addr) (rs:List Value) (e:v=.ref rt) (E:Ext H H') (h:H' rt=some (.φ rs)) (k:∀x∈rs,∃(t:Addr) (i j:Int),x=.ref t/\H' t=some (.φ [.int i 0,.int j 0])):TK H v H'
theorem afW{a:Addr}{xs:List Int}(h:oS H a (i5 xs))(hl:xs.length<=63)(hk:90<=k):μ g k (.ref 1632) [.ref a] H (λ v _=>v=.bool true) X:=by
 refine μ.en (fT 111 rfl) rfl hk λ c o _=>?_
 have m6:(i5 xs).length<=63:=Ψ (aU (gJ _)) hl
 ktf_call"g"
 refine mm.kJ false ?_
 refine mm.lQ rfl h (Ψ m6 (by decide)) λ H0 y E0 hy=>?_
 ktf_call"g"
 refine mm.rv hy (Ψ (Jr _ _).length_le (Ψ m6 (by decide))) λ H1 b E1 _ hb=>?_
 rw[show((i5 xs).take 36).reverse=i5 (xs.take 36).reverse by simp[i5,List.map_take]]at hb
 have hB:Bg H1 b:=⟨_,hb,cI (aU wm) (cI (Jr _ _).length_le (cI hl (by decide)))⟩
 ktf_call"g"
 ktf_call"T";intro H2 w E2 hw
 ktf_call"g"
 ktf_call"T";intro H3 mk E3 TM
 have zp:=((E0.trans E1).trans E2).trans E3
 have h3:=h.fz zp.fz
 have JP:=hB.ext (E2.trans E3)
 have yZ:=E3 _ _ hw
 clear h hy hb hB E0 E1 E2 E3 zp hw
 ktf_call"g"
 refine Pf (d:=2) (L:=[]) (M:=[]) (JJ (by decide) st2) JP ⟨yZ,by decide⟩ ⟨TM,by decide⟩ (by decide) (by decide) (by ktf_call"k") λ H4 root st F hB4 vD hZ TN=>?_;refine zX TN λ tb tc tf TO=>?_;clear TN
 have h4:=h3.fz (F.fz JP)
 clear JP hB4 h3 yZ TM F
 have jx:=vD.tl hZ
 obtain⟨x0,bv0,cv0,fv0,TP,_⟩:=(TO▸vD:SR none H4 4 root (.dQ tb tc tf))
 have er:=TP.ref
 subst er
 ktf_call"g"
 refine aba jx (λ z=>nomatch z) (by decide) (by ktf_call"k") λ H5 w3 F5=>?_
 refine mm.aP o 1 rfl ?_
 refine mm.eE λ ι=>?_
 have Cn:SR (some (yn ι H5)) (eE ι H5) 4 (.ref x0) st:=(vD.fz F5).map NP.eE
 have h5:oS (eE ι H5) a (i5 xs):=by
  cases h4.fz F5 with|mk i n h e=>exact⟨i,n,vF h (λ _ z=>nomatch z),e⟩
 generalize eE ι H5=H6 at Cn h5⊢
 generalize yn ι H5=ν at Cn
 clear h4 vD jx F5 TP
 ktf_call"g"
 refine μ.afR h5.ls (cI m6 (by decide)) ?_
 ktf_call"g"
 refine mm.vt (st':=[]) (TK H6) (λ R hR=>?_) ?_
 ·cases hx:decide (((i5 xs).length:Int)<20)with
  |true=>
   refine mm.e1 rfl ?_
   ktf_call"g"
   ktf_call"T";intro H7 p0 E7 xb
   ktf_call"g"
   ktf_call"T";intro H8 p1 E8 fY
   ktf_call"g"
   ktf_call"T";intro H9 p2 E9 b_
   ktf_call"g"
   ktf_call"T";intro fG p3 iJ hp3
   ktf_call"g"
   ktf_call"T";intro jP rt jQ ja
   ktf_call"g"
   have Ea:=iJ.trans jQ
   have Eb:=E9.trans Ea
   have Ec:=E8.trans Eb
   refine hR _ _ ⟨rt,_,rfl,E7.trans Ec,ja,λ x hx=>?_⟩
   simp only[Ap,vG,or_false]at hx
   rcases hx with rfl |rfl |rfl |rfl
   ·exact⟨_,_,_,rfl,Ec _ _ xb⟩
   ·exact⟨_,_,_,rfl,Eb _ _ fY⟩
   ·exact⟨_,_,_,rfl,Ea _ _ b_⟩
   ·exact⟨_,_,_,rfl,jQ _ _ hp3⟩
  |false=>
   refine mm.e0 rfl ?_
   ktf_call"g"
   ktf_call"T";intro H7 p0 E7 xb
   ktf_call"g"
   ktf_call"T";intro H8 p1 E8 fY
   ktf_call"g"
   ktf_call"T";intro jP rt jQ ja
   ktf_call"g"
   have Ea:=E8.trans jQ
   refine hR _ _ ⟨rt,_,rfl,E7.trans Ea,ja,λ x hx=>?_⟩
   simp only[Ap,vG,or_false]at hx
   rcases hx with rfl |rfl
   ·exact⟨_,_,_,rfl,Ea _ _ xb⟩
   ·exact⟨_,_,_,rfl,jQ _ _ fY⟩
 intro v H7 afX;obtain⟨rt,rs,e,E7,ja,TR⟩:=afX
 subst e
 have TS:=Cn.fz E7.fz
 clear Cn h5 E7
 ktf_call"g"
 refine mm.s (S1.rF o.own o.hd (V.θ rfl ⟨rt,rs,rfl,ja,λ _ lA H'=>sub [(11,.ref x0)] lA/\Fz H7 H',⟨⟨rfl,trivial⟩,Fz.refl⟩,λ i x lA H' ⟨hm,F⟩ hx=>?_,λ lA H' afY=>ag afY λ hm F=>⟨F _ _ ja rfl,?_⟩⟩))
 ·obtain⟨t,i0,j0,rfl,ht⟩:=TR x (yl hx)
  refine⟨F _ _ ja rfl,t,_,_,rfl,.inl (F _ _ ht rfl),S.sb ((hm.sb.put 190 _).put 315 _) λ n e he=>W.mono (S.ma (Q:=LK (λ Ξ ο=>sub [(11,.ref x0)] Ξ/\Fz H7 ο) (FK (Mine.M g c (RK λ v _=>v=.bool true) (XK X) [.ss [.ret (.kp true)]]) [] (RK λ v _=>v=.bool true))) ?_ n e he) (λ f Ξ ο q=>by cases f <;> exact q) λ _ _ _ x=>x⟩
  have hs:=TS.fz F
  clear TS hx TR ja ht
  ktf_call"g"
  ktf_call"lt"
  ktf_call"T";intro H8 b1 E8 cN
  ktf_call"g"
  ktf_call"T";intro H9 b2 E9 fp
  ktf_call"g"
  ktf_call"T";intro fG ca iJ _ pR
  have v0:VK fG (.ref b1) (.b i0):=⟨⟨b1,rfl,iJ _ _ (E9 _ _ cN)⟩,trivial⟩
  have v1:VK fG (.ref b2) (.b j0):=⟨⟨b2,rfl,iJ _ _ fp⟩,trivial⟩
  have E:=(E8.trans E9).trans iJ
  have TU:=hs.fz E.fz
  have sN:=F.trans E.fz
  clear hs F E E8 E9 iJ cN fp
  ktf_call"g"
  refine ψ (afO (ν:=ν) (E0:=[(cf,.b i0,true),(cE,.b j0,true)]) hZ) λ N hN TV=>?_
  have JQ:=afP (ν:=ν) (E:=[(cf,.b i0,true),(cE,.b j0,true)]) (σ:=⟨[],[]⟩) hZ
  refine afm (it:=.st st) (.st 4 [] [] TU ⟨(λ _ h=>nomatch h),(λ _ h=>nomatch h),hZ⟩) ⟨_,_,_,_,pR,v0,v1,rfl⟩ TV (by decide) hN (by ktf_call"k") λ jP t7 tr to sv sO zl zA lI Co JR bM=>?_
  obtain⟨vs,zA,v8⟩:=zA
  obtain⟨ws,Co,jx⟩:=Co
  have Ce:TA jP t7 [.ref tr,.ref to,sv]:=.inl zl
  refine mm.u3 Ce ?_
  subst TO
  have qu:=JQ
  generalize hq:ev ν 4 [(cf,.b i0,true),(cE,.b j0,true)] (.dQ tb tc tf) ⟨[],[]⟩=q at JQ v8 lI jx JR
  have JS:ξ jP tr (.κ true vs) to=some (.κ false ws):=by rw[Γ (cP bM)];exact Co
  refine mm.gh (Gh.fl (z:=true) zA) (mm.gh (Gh.fl (z:=true) JS) ?_)
  have fu:Fz jP (ξ (ξ jP tr (.κ true vs)) to (.κ true ws)):=(Fz.set zA rfl).trans (Fz.set JS rfl)
  have TY:ξ (ξ jP tr (.κ true vs)) to (.κ true ws) tr=some (.κ true vs):=by rw[Γ bM];exact ah
  have TZ:ξ (ξ jP tr (.κ true vs)) to (.κ true ws) to=some (.κ true ws):=ah
  generalize ξ (ξ jP tr (.κ true vs)) to (.κ true ws)=HC at fu TY TZ⊢
  have FA:=sO.trans fu
  refine ag ((JR.fz fu).en JQ) λ oh afZ=>?_
  have oQ:=afT lI afZ
  clear sO Ce zl zA Co JS bM TV hN JR
  ktf_call"g"
  refine ad7 (n:=3) (ν:=ν) (TU.fz FA) hZ (by decide) (FA _ _ pR rfl) (v0.r.fz FA) (v1.r.fz FA) qu (by ktf_call"k") λ sQ v9 sR hR=>?_
  rw[hq]at hR
  obtain⟨t9,sn,tl,en,vs9,ws9,e9,ht9,af0,af1,af2,af3,af4⟩:=hR
  subst e9
  ktf_call"g"
  ktf_call"T";intro yt T_ tG af5
  have gP:=sR.trans tG.fz
  have Ua:=fu.trans gP
  have d1:RD yt (.ref t9) (zx q):=⟨t9,_,rfl,tG _ _ ht9,⟨sn,_,_,rfl,tG _ _ af0,zy (λ _ _ z=>gk.rd z) (af1.map λ _ _ z=>z.fz tG.fz)⟩,⟨tl,_,_,rfl,tG _ _ af2,zy (λ _ _ z=>gu.rd z) (af3.map λ _ _ z=>z.fz tG.fz)⟩,(af4.fz tG.fz).rd,rfl,trivial⟩
  have d2:RD yt (.ref T_) (zx q):=⟨T_,_,rfl,af5,⟨tr,_,_,rfl,gP _ _ TY rfl,zy (λ _ _ z=>gk.rd z) (v8.map λ _ _ z=>z.fz Ua)⟩,⟨to,_,_,rfl,gP _ _ TZ rfl,zy (λ _ _ z=>gu.rd z) (jx.map λ _ _ z=>z.fz Ua)⟩,(oh.fz gP).rd,rfl,trivial⟩
  ktf_call"g"
  refine mm.oc (Ω.ahf d1 d2 oQ oQ afV ?_)
  rw[SeqAt.eqv_refl _ oQ]
  ktf_call"g"
  exact⟨⟨rfl,trivial⟩,(sN.trans FA).trans gP⟩
 ·show Mine.M _ _ _ _ _ _ _ _
  ktf_call"g"
  rfl
end
section
theorem af6{g:Gv}(ok:bw g){s₁:Shared}{l:Addr}{items:Array Value}(h1:∀b o,g.cm.get? b=some o->s₁.heap.get? b=some o)(h2:∀b o,s₁.heap.get? b=some o->b=l\/g.cm.get? b=some o)
  (h3:s₁.heap.get? l=some {cls:=.type "list",data:=.seq items n}) (h4:g.cm.objs.size<=l) (h5:items.toList.map nv=i5 xs) (h6:xs.length<=63) (h7:s₁.gens=#[]) (h8:s₁.os=g.os):
  wpAny (MM g) callerA (call (.ref 1632) [.ref l]) (λ v s'=>v=.bool true/\(∀b o,s₁.heap.get? b=some o->s'.heap.get? b=some o)/\s'.os=s₁.os/\s'.gens=#[]) (λ _ _=>False) s₁:=by
 let H:AH:=ξ (λ _=>none) l (.fix {cls:=.type "list",data:=.seq items n})
 have hH:H l=some (.fix {cls:=.type "list",data:=.seq items n}):=ah
 have hA:aC g 95 none callerA H s₁:={
  ok:=ok
  old:=h1
  sim:=λ a o e=>by
   by_cases q:a=l
   ·subst q;rw[hH]at e;cases e;exact h3
   ·rw[show H a=none from Γ q]at e;cases e
  low:=λ a o e=>by
   by_cases q:a=l
   ·refine q.symm▸?_;exact h4
   ·rw[show H a=none from Γ q]at e;cases e
  depth:=by decide
  units:=by decide
  hand:=rfl
  frames:=⟨[],rfl,λ _ h=>nomatch h⟩
  os:=h8
  gens:=h7
  size:=Ψ h4 (jo (dO h3))}
 have hc:μ g 95 (.ref 1632) [.ref l] H (λ v _=>v=.bool true) (λ _ _=>False):=afW (.mk items n hH h5) h6 (by decide)
 refine cD (hc callerA s₁ [.ref l] rfl hA) (λ v s' ⟨H',a,b,q⟩=>⟨Es q,λ x o e=>?_,a.os.trans h8.symm,a.gens⟩) λ e s' ⟨_,_,_,_,_,f⟩=>f
 rcases h2 x o e with rfl |e'
 ·rw[h3]at e
  cases e
  exact a.sim _ _ (b.cW _ _ hH rfl)
 ·exact a.old _ _ e'
end
section
theorem has_int(x:WData):JT [] x .int=true->∃i,x=.int i:=WData.casesOn (motive_1:=λ x=>JT [] x .int=true->∃i,x=.int i) x nF (λ _=>nF) (λ i _=>⟨i,rfl⟩) (λ _=>nF) (λ _=>nF) (λ _=>nF) (λ _=>nF) (λ _=>nF) (λ _=>nF) (λ _=>nF) (λ _=>nF) (λ _=>nF) (λ _ _=>nF)
theorem af7(x:WData):JT [] x (.list .int)=true->∃ys,x=.list ys/\Ub [] ys .int=true:=WData.casesOn (motive_1:=λ x=>JT [] x (.list .int)=true->∃ys,x=.list ys/\Ub [] ys .int=true) x nF (λ _=>nF) (λ _=>nF) (λ _=>nF) (λ ys h=>⟨ys,rfl,(RZ _).symm.trans h⟩) (λ _=>nF) (λ _=>nF) (λ _=>nF) (λ _=>nF) (λ _=>nF) (λ _=>nF) (λ _=>nF) (λ _ _=>nF)
theorem Uc:∀{xs:List WData},Ub [] xs .int=true->∃ns:List Int,xs=ns.map .int
 | [],_=>⟨[],rfl⟩
 |x::_,h=>Θ (Uc (an h).2) λ ns e=>Θ (has_int x (an h).1) λ i k=>⟨i::ns,k▸e▸rfl⟩
theorem af8:∀{args:List WData},WShape.hasAll [] args [.list .int]=true->∃ns:List Int,args=[.list (ns.map .int)]
 | [],h=>nF h
 | [x],h=>ψ (af7 x (an h).1) λ _ e k=>Θ (Uc k) λ ns q=>⟨ns,e▸q▸rfl⟩
 |_::_::_,h=>nF (an h).2
noncomputable def JU:List Int->Nat->List Value
 | [],_=>[]
 |i::r,t=>.int i t::JU r (t+1)
noncomputable def Ud:List Int->Nat->Nat
 | [],t=>t
 |_::r,t=>Ud r (t+1)
theorem lay_ints:∀(ns:List Int) (s:Shared),layAllW [] cl P ord (ns.map .int) s=some (JU ns s.toks,{s with toks:=Ud ns s.toks})
 | [],_=>rfl
 |i::ns,s=>congrArg (λ o:Option (List Value×Shared)=>match o with|some r=>some (Value.int i s.toks::r.1,r.2)|none=>none) (lay_ints (cl:=cl) (P:=P) (ord:=ord) ns {s with toks:=s.toks+1})
theorem Ue:∀(ns:List Int) (t:Nat),(JU ns t).map nv=i5 ns
 | [],_=>rfl
 |i::ns,t=>congrArg (Value.int i 0::·) (Ue ns (t+1))
theorem af9(h:layAllW [] cl P ord [.list (ns.map .int)] s=some (vs,s')):
  ∃(us:List Value) (tk:Nat),vs=[.ref s.heap.objs.size]/\us.map nv=i5 ns/\s'={s with heap:=s.heap.push {cls:=.type "list",data:=.seq us.toArray},toks:=tk}:=
 have e:=eJ (bY (h.symm.trans (congrArg (λ o:Option (List Value×Shared)=>match(match o with|some r=>some (Value.ref r.2.heap.objs.size,{r.2 with heap:=r.2.heap.push {cls:=.type "list",data:=.seq r.1.toArray}})|none=>none)with|some a=>some ([a.1],a.2)|none=>none) (lay_ints (cl:=cl) (P:=P) (ord:=ord) ns s))))
 ⟨_,_,e.1,Ue ns s.toks,e.2⟩
theorem af_{ns:List Int}(h:WTm.holds [] (OpenLaw.pre PySem.Challenge.rw_pc0115_01) {args:=[.list (ns.map .int)]}=true):ns.length<=63:=by
 have e:OpenLaw.pre PySem.Challenge.rw_pc0115_01=.and (.not (.lt (.lit (.int 63)) (.len (.arg 0)))) (.lit (.bool true)):=rfl
 rw[e]at h
 rcases yM 63 ns.length with hl |hl
 ·exfalso
  have h9:W.less? (.int 63) (.int (ns.length:Int))=some true:=by
   show some (decide ((63:Int)<(ns.length:Int)))=_
   rw[decide_eq_true (by exact Int.ofNat_lt.mpr (by assumption))]
  simp[WTm.holds,WTm.value,h9]at h
 ·exact hl
end
theorem Zqa{o:Obj}(h:(alive o).isSome=true):alive o=some o:=by
 obtain⟨c,d,t,l⟩:=o
 cases t <;> first |rfl|cases h
theorem Zqb(P:aq):((HD.KK P).map (·.1)).all (λ a=>fE a 1633&&((HD.zz0.nQ P).get a).any λ o=>(alive o).isSome)=true:=by kernel_rfl
theorem Zqc(P:aq):(HD.KK P).map (λ p=>(HD.zz0.nQ P).get p.1)=(HD.KK P).map λ p=>some p.2:=by kernel_rfl
theorem af'(P:aq):((HD.KK P).map (·.1)).map (HD.HF P).get?=(HD.KK P).map λ p=>some p.2:=
 List.map_map.trans (List.map_inj_left.mpr λ p h=>let f:=List.map_inj_left.mp (Zqc P) p h;let e:=an (List.all_eq_true.mp (Zqb P) p.1 (List.mem_map_of_mem h));(abs_get (Nat.blt_eq.mp e.1) f).trans (Zqa (o:=p.2) (by have:=e.2;rw[f]at this;exact this)))
theorem aga(P:aq):((HD.HF P).isNs cStatics,(HD.HF P).nsMap cStatics "sys.recursionlimit")=(true,none):=by kernel_rfl
theorem agb(P:aq):(((HD.HF P).get? 1632).isSome,(HD.HF P).objs.size)=(true,1633):=by kernel_rfl
theorem agc(P:aq):nsIn (HD.KK P) mainGlobals (dy "law")=some (some (.ref 1632)):=by kernel_rfl
theorem gok(w:eZ)(os:gE):bw ⟨w,HD.HF w.params,os,HD.KK w.params,382⟩ where
 dZ:=Frag.in_of rfl (af' w.params)
 Et:=by
  have h:=aga w.params
  exact⟨_,Heap.Ns.of_isNs (eJ h).1,(eJ h).2⟩
 kk:=rfl
 st:=rfl
 top:=by
  have h:=agb w.params
  exact Θ (Option.isSome_iff_exists.mp (eJ h).1) λ o ho=>⟨1632,o,ho,(eJ h).2⟩
theorem agd(as ds:List WData):HD.RR.toRowW.claim.post as (.bool true) ds=true:=by kernel_rfl
theorem age:WalkX HD.q HD.loose (λ _ _=>True) HD.Yf HD.Ya HD.RR.toRowW HD.dL [] λ f vs=>PySem.call f vs:=by
 intro w wF s₁ mg mb G Y a o pm cd doc dV kV h1 h2 h3 h4 h5 h6 args vals as L agf oQ HV agA has
 obtain⟨p1,p2⟩:=pre_splitW (r:=HD.RR.toRowW) agf
 obtain⟨ns,rfl⟩:=af8 p1
 have hlen:=af_ p2
 have hh:wF.heap=HD.HF w.params:=congrArg (λ x=>x.1) Y
 obtain⟨⟨ord,_,hl⟩,_,_,_,hk,hg,jt⟩:=L
 have ok:=gok w wF.os
 have ha:mg (dy "law")=some (.ref 1632):=mg_of (ok.dZ.keeps λ b o e=>hk b o (by rw[hh];exact e)) G.T.g (agc w.params)
 obtain rfl:a=1632:=by
  have h5:mg (dy "law")=some (.ref a):=h5
  rw[ha]at h5
  cases h5;rfl
 obtain⟨us,tk,rfl,tj,rfl⟩:=af9 hl
 have core:=af6 (g:=⟨w,HD.HF w.params,wF.os,HD.KK w.params,382⟩) ok (s₁:={wF with heap:=wF.heap.push {cls:=.type "list",data:=.seq us.toArray},toks:=tk}) (l:=wF.heap.objs.size) (items:=us.toArray) (n:=0) (xs:=ns)
  (λ b o e=>hk b o (by rw[hh];exact e)) (λ b o e=>?_) (fZ _ rfl) (by rw[hh];exact bK _) tj hlen hg rfl
 ·refine cD core (λ v s' ⟨q1,q2,q3,q4⟩=>?_) λ _ _ f=>f.elim
  subst q1
  exact⟨.inl ⟨.bool true,.bool true,[],rfl,λ _=>rfl,.bool true,agd _ _,λ _=>⟨List.nodup_nil,λ _ h=>nomatch h⟩⟩,.of_keep q2,q3,.of_eq q4⟩
 ·rcases Heap.get?_push_cases e with ⟨q,_⟩|q
  ·exact .inl q
  ·refine .inr ?_
   show(HD.HF w.params).get? b=some o
   rw[<- hh]
   exact q
end Mine
end
theorem PySem.Challenge.cw_pc0115_01_holds : PySem.Challenge.rw_pc0115_01.Holds :=
 HD.head Mine.age
