import PyProof.Rows.All
import Wide.All
import OpenK.AllK
import Wide.FinOn
import Lean
import PySem.Challenge.RW_nn0089_01
set_option linter.all false
set_option compiler.extract_closed false
set_option bootstrap.genMatcherCode false
set_option backward.match.sparseCases false
set_option tactic.hygienic false
set_option maxRecDepth 100000
set_option genSizeOf false
set_option genInjectivity false
set_option autoImplicit false
set_option Elab.async false
open PySem PySem.W PySem.Calls PyProof.Rows
open _root_.Option renaming some->W_,none->Xk,some->XZ,map_eq_some_iff->X6,isSome_iff_exists->Y3,map->Zk,bind_some->Zn
open _root_.Nat renaming le_trans->Xa,le_refl->Xh,le_of_ble_eq_true->Xi,add_le_add->Xm,le_add_right->Xp,add_le_add_right->Xw,lt_of_le_of_lt->Xz,le_succ_of_le->XE,add_le_add_left->XF,succ_le_succ->XH,beq->XI,eq_of_beq_eq_true->XJ,casesAuxOn->XN,ble->XU,ble_eq_true_of_le->X1,le_of_eq->X4,zero_add->X7,add_assoc->X_,zero_le->Ye,le_succ->Yl,le_of_lt->Yv,succ->YD,not_lt_zero->YE,ne_of_gt->YF,add_right_comm->YG,blt->YM,add_comm->YN,le_of_succ_le->YQ,lt_of_lt_of_le->YX,not_lt->Y4,succ_pos->Y',le_add_left->Zc,ne_of_lt->Zu,lt_succ_self->Zv,add_sub_cancel_left->ZP,le_of_lt_succ->ZZ
open _root_.Bool renaming false->Xb,true->Xg,false_ne_true->Xy,not_eq_true'->XR,and_eq_true->XS,true_and->ZD,or_eq_true->ZI,and_false->ZV,or_false->Z',and_true->Z_
open _root_.List renaming length_append->Xc,append_assoc->Xf,length_map->Xl,casesOn->Xn,length_cons->Xq,append_nil->Xr,mem_singleton->Xs,mem_cons->Xv,mem_append_right->Xx,size_toArray->XC,getElem?_eq_getElem->XD,getElem?_eq_some_iff->XK,all_eq_true->XM,map_append->XQ,not_mem_nil->XX,getElem?_map->X2,nodup_cons->X5,mem_append_left->X9,replicate->Yc,length_nil->Yh,mem_map->Yi,mem_append->Yk,map_map->Yn,lookup_cons->Yo,length_reverse->Yp,mem_of_getElem?->Yq,map_cons->Ys,getElem?_toArray->Yx,mem_nil_iff->YA,length_range->YB,all_append->YI,cons_append->YK,toArray->YL,getElem?_reverse->YY,perm_append_comm->Zf,length_replicate->Zg,length_filter_le->Zh,getD_eq_getElem?_getD->Zo,getElem_mem->Zt,mem_map_of_mem->Zx,take_length->Z3,perm_middle->Z4,length_take->Z5,isEmpty_map->Z6,cons->Z7
open _root_.PySem renaming Expr->Xd,wpAny_bind->Xe,Value->Xj,wpAny_pure->Xo,Shared->XB,wpAny->XT,wpAny_mono->XY,wpAny_holding->X8,wpAny_standAt->Yd,mainGlobals->Yj,Params->Ym,sysModules->Yu,Builtin->Yy,strKind->YC,starEach->YJ,behindInMarks->YO,NameKind->YR,wpAny_loadPart_at->YS,foldedSetIterable->YT,wpAny_Call_NameR->Y0,OsState->Y2,swapsWith->Y9,Around->Za,attributeBase->Zm,wpAny_truthy_bool->Zq,codeAny->Zr,wpAny_loadPart->Zy,subscripted->Zz,backTo->ZA,treeTable->ZE,World->ZJ,wpAny_isSubtype_exc->ZK,BoolOp->ZO,swappedStores->ZQ,ExceptHandler->ZS,codeAny_of_tree->ZT,wpAny_Constant_int->ZW,strKind_is->Z1,wpAny_assign_Name->Z8
open _root_.True renaming intro->Xu
open _root_.PySem.Heap renaming get?_push_of_some->XA,get?_push_size->X0,lt_size->Yb,get?_update_other->Yr,get?_update_self->YZ
open _root_.Option.some renaming inj->XG
open _root_.Int renaming natCast_nonneg->XO,ofNat_le->Yw,ofNat_lt->YW,fmod->Y5,le_trans->Y_,add_zero->Zw,add_assoc->ZH,not_lt->ZN
open _root_.PySem.W renaming look_both->X3,findIn->YU,specialIn->ZF,emptyDict->ZG,looks_findIn->Z9
open _root_.Nat.succ renaming inj->Yg
open _root_.PySem.Builtin.Str renaming occurrences->Yt,strSliceIndices->Y6
open _root_.PySem.Challenge renaming pw_nn0089_01->Yz
open _root_.PyProof.Rows renaming tail_any->YH,Subscript_->Zp,subscriptTail->ZR
open _root_.PySem.Value renaming ref->YV,builtin->Z2
open _root_.Array renaming getElem?_eq_getElem->Y1,getElem?_eq_some_iff->Zl
open _root_.PySem.Around renaming under_of_weight->Y7
open _root_.PySem.NameKind renaming free->Y8
open _root_.Ne renaming symm->Zb
open _root_.PySem.TablesWhole renaming holds->Zd,wSs->Zs,wModule->ZX
open _root_.PySem.Obj renaming mapFields->Ze
open _root_.PySem.W.Fast renaming te17119622794617984870->Zi,te10792542408131684335->Zj
open _root_.PySem.F renaming plainAttrs_list->ZC,slot_str_split->ZL,slot_list_getattribute->ZY
open _root_.PyProof renaming noPylong_small->ZM
open _root_.List.cons renaming inj->ZU
open _root_.PySem.Heap.DictOf renaming new->Z0
namespace Hd
noncomputable section
section
noncomputable def S(l:List Nat):Str:=⟨l.toArray⟩
def z1:Str:=S [47,99,108,97,105,109,47,99,117,116,46,112,121]
def z2:Str:=S [95,95,109,97,105,110,95,95]
def z4:Str:=S [111,99,116,101,116,109,105,110,116,46,98,97,115,105,99,115]
def z5:Str:=S [95,95,100,111,99,95,95]
def z13:Str:=S [95,119,97,108,108]
def Te:Str:=S [80,108,97,99,101]
def z16:Str:=S [95,95,109,111,100,117,108,101,95,95]
def z17:Str:=S [95,95,113,117,97,108,110,97,109,101,95,95]
def z18:Str:=S [95,95,102,105,114,115,116,108,105,110,101,110,111,95,95]
def dj:Str:=S [95,95,105,110,105,116,95,95]
def eZ:Str:=S [116,111,108,100]
def fy:Str:=S [95,95,115,116,97,116,105,99,95,97,116,116,114,105,98,117,116,101,115,95,95]
def cH:Str:=S [115,101,108,102]
def tE:Str:=S [108,105,110,101]
def z24:Str:=S [99,111,108,117,109,110]
def yE:Str:=S [95,95,100,105,99,116,95,95]
def tm:Str:=S [95,95,119,101,97,107,114,101,102,95,95]
def Jo:Str:=S [77,105,110,116,69,114,114,111,114]
def z32:Str:=S [119,104,97,116]
def hX:Str:=S [97,116]
def EE:Str:=S [82,101,97,100,69,114,114,111,114]
def fD:Str:=S [111,99,116,101,116,109,105,110,116,46,101,120,112,114,101,115,115,105,111,110,115]
def ED:Str:=S [83,121,109,98,111,108,69,114,114,111,114]
def yR:Str:=S [69,120,112,114]
def yQ:Str:=S [107,105,110,100]
def Td:Str:=S [78,117,109,98,101,114]
def oB:Str:=S [119,111,114,116,104]
def Tc:Str:=S [83,121,109,98,111,108]
def j5:Str:=S [110,97,109,101]
def Tb:Str:=S [72,101,114,101]
def Ta:Str:=S [85,110,97,114,121]
def mH:Str:=S [115,105,103,110]
def z57:Str:=S [98,111,100,121]
def S_:Str:=S [66,105,110,97,114,121]
def z61:Str:=S [108,101,102,116,95,115,112,105,110,101]
def JX:Str:=S [108,101,102,116]
def Un:Str:=S [114,105,103,104,116]
def Jn:Str:=S [105,110,110,101,114]
def JW:Str:=S [115,112,105,110,101]
def JV:Str:=S [112,97,114,116]
def Cy:Str:=S [110,111,100,101]
def z70:Str:=S [108,101,118,101,108,95,111,102]
def z71:Str:=S [98,105,110,97,114,121,95,108,101,118,101,108]
def z72:Str:=S [114,101,97,100,95,112,97,114,116]
def z73:Str:=S [114,101,97,100,95,108,101,118,101,108]
def z74:Str:=S [114,101,97,100,95,101,120,112,114]
def yP:Str:=S [116,111,107,101,110]
def rl:Str:=S [99,117,114,115,111,114]
def z77:Str:=S [100,101,112,116,104]
def S9:Str:=S [65,102,102,105,110,101]
def Um:Str:=S [105,115,95,110,117,109,98,101,114]
def Ul:Str:=S [105,115,95,115,121,109,98,111,108]
def Uk:Str:=S [110,101,103,97,116,101]
def Uj:Str:=S [97,100,100]
def Ui:Str:=S [112,108,97,99,101,115]
def Uh:Str:=S []
def z87:Str:=S [112,108,117,115]
def z88:Str:=S [109,105,110,117,115]
def JU:Str:=S [111,116,104,101,114]
def JT:Str:=S [97,102,102,105,110,101,95,111,102]
def S8:Str:=S [83,99,111,112,101]
def Fn:Str:=S [112,117,116]
def Fm:Str:=S [102,105,110,100]
def zb:Str:=S [115,101,116,116,108,101,100]
def za:Str:=S [101,113,117,97,116,101,115]
def Fl:Str:=S [97,102,102,105,110,101]
def jD:Str:=S [102,111,117,110,100]
def g8:Str:=S [111,99,116,101,116,109,105,110,116,46,116,111,107,101,110,115]
def KO:Str:=S [113,117,111,116,105,101,110,116]
def KN:Str:=S [115,104,105,102,116,101,100]
def KL:Str:=S [114,101,99,107,111,110,101,100]
def KJ:Str:=S [99,111,109,98,105,110,101,100]
def KI:Str:=S [116,117,114,110,101,100]
def rq:Str:=S [101,118,97,108,117,97,116,101]
def KH:Str:=S [110,97,109,101,115,95,105,110]
def KG:Str:=S [104,97,115,95,104,101,114,101]
def tH:Str:=S [111,110,101]
def mR:Str:=S [99,111,117,110,116]
def Fj:Str:=S [115,99,111,112,101]
def lD:Str:=S [104,101,114,101]
def KD:Str:=S [100,105,103,105,116,95,111,102]
def KC:Str:=S [105,115,95,108,101,116,116,101,114]
def KA:Str:=S [98,101,103,105,110,115,95,110,97,109,101]
def Kz:Str:=S [105,115,95,110,97,109,101,95,115,105,103,110]
def Ky:Str:=S [114,101,97,100,95,101,115,99,97,112,101]
def Kx:Str:=S [114,101,97,100,95,99,104,97,114]
def Kw:Str:=S [116,101,120,116,95,101,110,100]
def Kv:Str:=S [108,105,110,101,95,101,110,100]
def Ku:Str:=S [112,105,101,99,101,95,101,110,100]
def Ks:Str:=S [115,112,108,105,116,95,108,105,110,101,115]
def oD:Str:=S [99,111,100,101]
def fE:Str:=S [116,101,120,116]
def ka:Str:=S [110,117,109,98,101,114]
def rp:Str:=S [101,110,100]
def Fi:Str:=S [98,101,103,105,110]
def Kr:Str:=S [110,117,109,98,101,114,95,119,111,114,116,104]
def Kq:Str:=S [108,111,99,97,108,95,119,111,114,116,104]
def jc:Str:=S [119,111,114,100]
def y_:Str:=S [84,111,107,101,110]
def ro:Str:=S [105,115,95,115,105,103,110]
def Fh:Str:=S [105,115,95,98,97,99,107,119,97,114,100]
def y':Str:=S [76,105,110,101,82,101,97,100,101,114]
def j_:Str:=S [112,108,97,99,101]
def Fg:Str:=S [105,115,95,100,111,110,101]
def Ff:Str:=S [112,97,115,115,101,100]
def Fe:Str:=S [110,97,109,101,95,101,110,100]
def Fd:Str:=S [99,111,110,115,116,97,110,116]
def Fc:Str:=S [113,117,111,116,101]
def Fb:Str:=S [114,101,103,105,115,116,101,114]
def E_:Str:=S [109,97,114,107]
def Kp:Str:=S [108,105,110,101,95,116,111,107,101,110,115]
def yZ:Str:=S [67,117,114,115,111,114]
def E9:Str:=S [112,101,101,107]
def E8:Str:=S [97,104,101,97,100]
def E7:Str:=S [116,97,107,101]
def E6:Str:=S [105,115,95,101,110,100]
def E5:Str:=S [115,107,105,112]
def E4:Str:=S [115,107,105,112,95,110,97,109,101]
def E3:Str:=S [110,101,101,100]
def tG:Str:=S [110,101,101,100,95,101,110,100]
def E2:Str:=S [114,101,115,116,95,112,108,97,99,101]
def tF:Str:=S [116,111,107,101,110,115]
def cg:Str:=S [111,99,116,101,116,109,105,110,116,46,115,111,117,114,99,101]
def mQ:Str:=S [83,116,97,116,101,109,101,110,116]
def rn:Str:=S [119,97,121]
def yY:Str:=S [76,97,98,101,108]
def yX:Str:=S [67,111,100,101]
def Ko:Str:=S [105,110,115,116,114,117,99,116,105,111,110]
def yW:Str:=S [68,101,101,100]
def Kn:Str:=S [97,114,103,115]
def E1:Str:=S [68,101,101,100,46,116,111,108,100]
def yV:Str:=S [69,113,117,97,116,101]
def Km:Str:=S [116,111,108,100,95,97,114,103,117,109,101,110,116]
def Kl:Str:=S [112,105,110,110,101,100]
def Kk:Str:=S [108,111,99,97,108,95,110,97,109,101]
def Kj:Str:=S [112,111,105,110,116,95,110,97,109,101]
def tD:Str:=S [115,111,108,118,101,95,101,113,117,97,116,101,115]
def tC:Str:=S [116,101,120,116,95,111,99,116,101,116,115]
def yU:Str:=S [83,111,117,114,99,101,82,101,97,100,101,114]
def E0:Str:=S [114,101,97,100]
def tB:Str:=S [114,101,97,100,95,105,110,115,116,114,117,99,116,105,111,110,115]
def EZ:Str:=S [108,97,98,101,108,115]
def EY:Str:=S [108,97,98,101,108]
def EX:Str:=S [98,111,117,110,100]
def tw:Str:=S [112,105,110]
def EW:Str:=S [101,113,117,97,116,101]
def tv:Str:=S [100,101,101,100]
def EU:Str:=S [99,104,111,111,115,101]
def tu:Str:=S [108,105,115,116,101,100]
def ET:Str:=S [115,105,122,101,100]
def yT:Str:=S [110,97,109,101,115]
def ES:Str:=S [110,117,109,98,101,114,115]
def ER:Str:=S [116,101,120,116,115]
def tn:Str:=S [105,115,101,116]
def EP:Str:=S [114,101,97,100,101,114,115]
def yS:Str:=S [114,111,119]
def EO:Str:=S [83,111,117,114,99,101,82,101,97,100,101,114,46,114,101,97,100,95,105,110,115,116,114,117,99,116,105,111,110,115]
def EM:Str:=S [83,111,117,114,99,101,82,101,97,100,101,114,46,112,105,110]
def EK:Str:=S [83,111,117,114,99,101,82,101,97,100,101,114,46,100,101,101,100]
def EJ:Str:=S [83,111,117,114,99,101,82,101,97,100,101,114,46,108,105,115,116,101,100]
def Ki:Str:=S [109,111,115,116]
def EI:Str:=S [97,119,97,105,116,101,100]
def tj:Str:=S [99,111,117,110,116,115]
def Kh:Str:=S [115,121,110,116,97,120]
def Kg:Str:=S [119,97,105,116,105,110,103]
def j9:Str:=S [108,97,119,95,110,110,48,48,56,57,95,48,49]
def Kf:Str:=S [114,101,97,100,95,115,116,97,116,101,109,101,110,116,115]
def Ke:Str:=S [95,108,97,119,95,114,101,97,100,101,114]
def Kd:Str:=S [95,108,97,119,95,111,116,104,101,114]
def Kc:Str:=S [95,108,97,119,95,100,114,97,119]
def Kb:Str:=S [95,108,97,119,95,97,100,100]
def Ka:Str:=S [112]
def J_:Str:=S [113]
def J':Str:=S [117]
def J9:Str:=S [122]
def mP:Str:=S [112,101,110]
def rm:Str:=S [112,97,103,101]
def J8:Str:=S [95,108,97,119,95,108,111,99,97,108]
def J7:Str:=S [95,108,97,119,95,115,117,109]
def ti:Str:=S [95,108,97,119,95,112,105,110,110,101,100]
def tg:Str:=S [95,108,97,119,95,108,105,115,116,101,100]
def J6:Str:=S [95,108,97,119,95,115,105,122,101,100]
def J5:Str:=S [95,108,97,119,95,101,113,117,97,116,101]
def J4:Str:=S [95,108,97,119,95,112,108,97,105,110]
def J3:Str:=S [95,108,97,119,95,108,105,110,101]
def J2:Str:=S [95,108,97,119,95,97,102,102,105,110,101]
def mO:Str:=S [98,111,111,107]
def EH:Str:=S [116,114,111,117,98,108,101]
def EG:Str:=S [107,101,121]
def EF:Str:=S [116,117,114,110]
def J1:Str:=S [100,117,101]
def J0:Str:=S [116,97,98,108,101]
def tc:Str:=S [95,108,97,119,95,115,101,116,116,108,101,100]
def JZ:Str:=S [95,108,97,119,95,100,117,101]
def s_:Str:=S [95,108,97,119,95,104,101,97,114,100]
def JY:Str:=S [108,97,119]
noncomputable abbrev PG:Program:=Yz
noncomputable def pwb:List Stmt:=Yz.main.body
def gA(i:Nat):Stmt:=match pwb.drop i with|s::_=>s|[]=>.Pass ⟨0,0,0,0⟩
noncomputable def O8(s:Stmt)(j:Nat):Stmt:=match s with|.ClassDef _ _ _ b .. =>(match b.drop j with|s::_=>s|[]=>.Pass ⟨0,0,0,0⟩)|_=>s
noncomputable def nq(s:Stmt):Arguments:=match s with|.FunctionDef _ a .. =>a|_=>⟨[],[],Xk,[],[],Xk,[]⟩
noncomputable def RY(s:Stmt):List Stmt:=match s with|.FunctionDef _ _ b .. =>b|_=>[]
noncomputable def LC(s:Stmt):Scope:=match s with|.FunctionDef _ _ _ _ _ _ sc .. =>sc|_=>⟨.module,[],Xb,Xb,[]⟩
def JE (s:Stmt)(nm qn:Str)(gl:Addr)(df kd doc pm cd ct:Xj)(bl:Addr):FuncData:=⟨nm,qn,nq s,.stmts (RY s),LC s,gl,[],df,kd,doc,pm,Xk,cd,ct,bl⟩
noncomputable def gx(l:List Xj):Obj:=⟨.type "tuple",Xk,.seq ⟨l⟩ 0,⟨[]⟩⟩
def du:Obj:=gx []
noncomputable def CJ:Nat->List Str->List Xj|_,[]=>[]|t,s::l=>.str s t::CJ (t+1) l
def ig (t:Nat)(l:List Str):Obj:=gx (CJ t l)
noncomputable abbrev EL:=List (Str×Nat×Xj)
noncomputable def TP(P:Ym):EL->List DictEntry|[]=>[]|(s,t,v)::l=>⟨PyData.keyHash P s,.str s t,v⟩ ::TP P l
def gy(P:Ym)(c:Xj)(n:Nat)(l:EL):Obj:=⟨c,Xk,.dict ⟨TP P l⟩ n,⟨[]⟩⟩
noncomputable def up:EL->Nat->Xj->EL|[],_,_=>[]|(s,t,_)::l,0,v=>(s,t,v)::l|x::l,n+1,v=>x::up l n v
noncomputable def ins (T:BT):Nat->List Obj->BT|_,[]=>T|a,o::l=>ins (T.ins a o) (a+1) l
termination_by structural _ l=>l
noncomputable def mN:Env:={scope:=Yz.main.scope,locals:=mainNs,globals:=mainNs,cells:=[],code:=.ref 13,frame:=W_ 14}
noncomputable def vR:Life:=⟨[],[],[],0,[],[],Xb,⟨[]⟩,[],0,Xb,Xb,Xb,0,[2000,10,10],Xb,0,Xg,[],[],0,Xb⟩
noncomputable def xF:Drawn:=⟨0,0,0,0⟩
def bO(i n:Nat):List Stmt:=(pwb.drop i).take n
noncomputable def rG:Pos:=⟨0,0,0,0⟩
def thT (l:List Stmt)(b:List Stmt)(pos:Pos):Thread:={cur:=Sem.wrap doneF deadEnd id id (PySem.W.Fast.tw12563942051412417395 l mN),code:=.body b mN,pos:=pos,stack:=[topFrame rG]}
abbrev hN (T T':Ym->BT)(n n' t t':Nat)(q q':Pos)(i m st:Nat)(w:ZJ)(p:Program)(b:List Stmt)(os:Y2):Prop:=
 PySem.W.Fast.tw10110043849684766642 PySem.W.Fast.tw14364793385576792824 p w 11 (W_ (.ref 6)) 1 (st+1) ⟨T w.params,n,vR,⟨[]⟩,xF,t,os⟩ (thT (bO i m) b q)=
  W_ (.next,⟨T' w.params,n',vR,⟨[]⟩,xF,t',os⟩,.body b mN,q')
def q0 (a:Nat)(x0:Str)(x1:Nat)(x2:Int)(x3:Int):Obj:=⟨.type "code",Xk,.fields ⟨[.str x0 x1,.str x0 (x1+1),.str z1 (x1+2),.int x2 0,.int 0 0,.int 0 0,.int 0 0,.int 0 0,.ref (a-2),.bool Xb,.int 181 0,.ref (a-1),.none,.none,.none,.none,.int x3 0,.int x2 0,.str z1 (x1+4)]⟩,⟨[]⟩⟩
noncomputable def q1 (a:Nat)(x0:Nat)(x1:Str)(x2:Nat):Obj:=⟨.type "frame",Xk,.plain,⟨[W_ (.ref (a-1)),W_ (.ref 3),W_ (.ref x0),Xk,W_ (.str x1 x2),Xk,W_ (.ref 0)]⟩⟩
noncomputable def q2:Obj:=⟨.none,Xk,.fields ⟨[]⟩,⟨[]⟩⟩
def q3 (x0:Nat) (x1:Str):Obj:=⟨.none,Xk,.func (JE (gA x0) x1 x1 0 (.none) (.none) (.none) (.none) (.none) (.none) 0),⟨[]⟩⟩
def q4 (a:Nat)(x0:Str)(x1:Nat)(x2:Str)(x3:Int)(x4:Int)(x5:Int)(x6:Nat):Obj:=⟨.type "code",Xk,.fields ⟨[.str x0 x1,.str x2 (x1+1),.str z1 (x1+2),.int x3 0,.int x4 0,.int 0 0,.int 0 0,.int 3 0,.ref (a-5),.bool Xg,.int 181 0,.ref (a-4),.none,.ref (a-3),.ref (a-2),.ref (a-1),.int x5 0,.int x3 0,.str z1 x6]⟩,⟨[]⟩⟩
def q5 (a:Nat) (x0:Nat) (x1:Str) (x2:Str) (x3:Nat):Obj:=⟨.type "function",Xk,.func (JE (gA x0) x1 x1 3 (.none) (.none) (.none) (.str x2 x3) (.ref (a-1)) (.none) 0),⟨[]⟩⟩
noncomputable def q6:Obj:=⟨.type "builtin_function_or_method",Xk,.fields ⟨[.builtin "type.__prepare__",.type "type"]⟩,⟨[]⟩⟩
noncomputable def q7(x0:Int)(x1:Nat)(x2:Int)(x3:Nat):Obj:=⟨.none,Xk,.fields ⟨[.int x0 0,.int 4 0,.ref x1,.int x2 0,.int 4 0,.ref x3]⟩,⟨[]⟩⟩
def q8 (x0:Nat) (x1:Nat) (x2:Str) (x3:Str):Obj:=⟨.none,Xk,.func (JE (O8 (gA x0) x1) x2 x3 0 (.none) (.none) (.none) (.none) (.none) (.none) 0),⟨[]⟩⟩
def q9 (a:Nat) (x0:Nat) (x1:Nat) (x2:Str) (x3:Str) (x4:Str) (x5:Nat):Obj:=⟨.type "function",Xk,.func (JE (O8 (gA x0) x1) x2 x3 3 (.none) (.none) (.none) (.str x4 x5) (.ref (a-1)) (.none) 0),⟨[]⟩⟩
noncomputable def uv (a:Nat)(x0:Str)(x1:Nat):Obj:=⟨.type "type",Xk,.cls ⟨x0,[.type "object"],[.ref a,.type "object"],(a-1),x0,Xg,[],[],Xb,Xk,Xb⟩,⟨[Xk,Xk,W_ (.str x0 x1),W_ (.str x0 (x1+8)),W_ (.builtin "object.__new__"),W_ (.bool Xg)]⟩⟩
def uu (a:Nat)(x0:Nat):Obj:=⟨.type "getset_descriptor",Xk,.fields ⟨[.str yE x0,.ref (a-1),.builtin "function.__dict__",.builtin "function.__dict__#set"]⟩,⟨[]⟩⟩
def sV(x0:Nat)(x1:Nat):Obj:=⟨.type "getset_descriptor",Xk,.fields ⟨[.str tm x0,.ref x1,.builtin "ExceptionGroup.__weakref__",.none]⟩,⟨[]⟩⟩
noncomputable def ki(x0:Nat):Obj:=⟨.type "super",Xk,.fields ⟨[.ref x0,.ref x0,.ref x0]⟩,⟨[]⟩⟩
noncomputable def kh(x0:Nat):Obj:=⟨.type "builtin_function_or_method",Xk,.fields ⟨[.builtin "object.__init_subclass__",.ref x0]⟩,⟨[]⟩⟩
def q15 (a:Nat) (x0:Nat) (x1:Str) (x2:Str) (x3:Nat):Obj:=⟨.type "function",Xk,.func (JE (O8 (gA x0) 0) dj x1 3 (.ref (a-7)) (.none) (.none) (.str x2 x3) (.ref (a-1)) (.none) 0),⟨[]⟩⟩
noncomputable def zV (a:Nat)(x0:Str)(x1:Nat)(x2:Nat)(x3:Nat):Obj:=⟨.type "type",Xk,.cls ⟨x0,[.ref x1],[.ref a,.ref x1,.type "object"],(a-1),x0,Xg,[],[],Xb,Xk,Xb⟩,⟨[W_ (.ref x2),Xk,W_ (.str x0 x3),W_ (.str x0 (x3+8)),W_ (.builtin "object.__new__"),W_ (.bool Xg)]⟩⟩
def sU (a:Nat)(x0:Str)(x1:Nat)(x2:Str)(x3:Int)(x4:Int)(x5:Int):Obj:=⟨.type "code",Xk,.fields ⟨[.str x0 x1,.str x2 (x1+1),.str z1 (x1+2),.int x3 0,.int x4 0,.int 0 0,.int 0 0,.int 3 0,.ref (a-3),.bool Xg,.int 181 0,.ref (a-2),.none,.none,.none,.ref (a-1),.int x5 0,.int x3 0,.str z1 (x1+4)]⟩,⟨[]⟩⟩
def gF (a i:Nat) (z:Str) (t:Nat) (l n:Int) (m:Str) (k:Nat) (v:List Str):List Obj:=[du,q2,ig (t+3) v,du,q3 i z,q4 a z t z l n (t+3+v.length:Nat) (t+4+v.length),q5 (a+1) i z m k]
def gM (a i j:Nat) (y z:Str) (t:Nat) (l n:Int) (m:Str) (k:Nat) (v:List Str):List Obj:=[du,q2,ig (t+3) v,du,q8 i j y z,q4 a y t z l n (t+3+v.length:Nat) (t+4+v.length),q9 (a+1) i j y z m k]
def gI (a i:Nat) (z:Str) (t:Nat) (l n:Int) (m:Str) (k:Nat) (v:List Str):List Obj:=[du,q2,ig (t+3) v,du,q8 i 0 dj z,q4 a dj t z l n (t+3+v.length:Nat) (t+4+v.length),q15 (a+1) i z m k]
noncomputable def fS (m:Str) (k:Nat):Nat->Nat->Nat->List (Str×Int×Int×List Str)->List Obj|_,_,_,[]=>[]|a,i,t,(z,l,n,v)::r=>gF a i z t l n m k v++fS m k (a+7) (i+1) (t+6+v.length) r
noncomputable def mS (m:Str) (k i:Nat):Nat->Nat->Nat->List (Str×Str×Int×Int×List Str)->List Obj|_,_,_,[]=>[]|a,j,t,(y,z,l,n,v)::r=>gM a i j y z t l n m k v++mS m k i (a+7) (j+1) (t+6+v.length) r
noncomputable def rL (l:List (Str×Nat×Nat)):EL:=l.map λx=>(x.1,x.2.1,.ref x.2.2)
def dC (P:Ym)(n t:Nat)(m:Str)(k:Nat)(z:Str)(l:Int)(r:List (Str×Nat×Nat)):Obj:=gy P (.type "dict") n ((z16,t,.str m k)::(z17,t+2,.str z (t+1))::(z18,t+4,.int l (t+3))::rL r)
def dD (P:Ym)(n t:Nat)(m:Str)(k:Nat)(l:Int)(d:Nat)(r:List (Str×Nat×Nat)):Obj:=gy P (.type "dict") n ((z16,t,.str m k)::(z18,t+4,.int l (t+3))::(rL r++[(z5,d,.none)]))
noncomputable def pL (k:Int)(l:List (Int×Nat)):List Xj:=l.flatMap λx=>[.int x.1 0,.int k 0,.ref x.2]
def fL (l:List (Int×Nat)):Obj:=⟨.none,Xk,.fields ⟨pL 4 l⟩,⟨[]⟩⟩
noncomputable def cL (z:Str)(a:Nat)(b m s:List Xj)(o:Option Xj)(t:Nat)(n:String):Obj:=⟨.type "type",Xk,.cls ⟨z,b,.ref a::m,a-1,z,Xg,[],s,Xb,Xk,Xb⟩,⟨[o,Xk,W_ (.str z t),W_ (.str z (t+8)),W_ (.builtin n),W_ (.bool Xg)]⟩⟩
noncomputable def vD:Xj:=.type "dict"
noncomputable def vO:Xj:=.type "object"
noncomputable def vE:Xj:=.type "Exception"
noncomputable def vB:Xj:=.type "BaseException"
noncomputable def vF:Xj:=.type "function"
noncomputable def vL:Xj:=.builtin "__main__.__loader__#opaque"
noncomputable def nO:String:="object.__new__"
noncomputable def nE:String:="Exception.__new__"
section
local macro_rules | `($s:str) => do `([$((s.getString.toList.map λc => Lean.Syntax.mkNumLit (toString c.toNat)).toArray),*])
def D9:List Xj:=[]
def PM:EL:=[(S "__name__",165,.str z4 194),(z5,166,.none),(S "__package__",167,.none),(S "__loader__",168,vL),(S "__spec__",169,.none),(S "__annotations__",170,.ref 6),(S "__builtins__",171,.ref 4),(S "__file__",173,.str z1 172),(S "__cached__",174,.none),(z13,193,.ref 21),(Te,233,.ref 45)]
def D8:List Xj:=D9++pL 0 [(1,20),(5,27)]
def BF:EL:=[(S "type.__subclasses__.Exception.0",268,.int 74 0),(S "type.__subclasses__.Exception.n",269,.int 1 0)]
def PJ:EL:=PM++rL [(Jo,271,74)]
def D7:List Xj:=D8++pL 0 [(13,55)]
def PI:EL:=PJ++rL [(EE,287,87)]
def D6:List Xj:=D7++pL 0 [(24,83)]
def PH:EL:=up PI 0 (.str fD 304)++[(ED,303,.ref 99),(S "MOST_DEPTH",307,.int 10 306),(S "MOST_SHIFT",309,.int 63 308)]
def D5:List Xj:=D6++pL 0 [(26,95)]
def PF:EL:=PH++rL [(yR,345,125)]
def D4:List Xj:=D5++pL 0 [(31,107)]
def PE:EL:=PF++rL [(Td,378,153)]
def D3:List Xj:=D4++pL 0 [(38,135)]
def PD:EL:=PE++rL [(Tc,411,179)]
def D2:List Xj:=D3++pL 0 [(46,161)]
def D1:EL:=PD++rL [(Tb,435,198)]
def xD:List Xj:=D2++pL 0 [(54,187)]
def D0:EL:=D1++rL [(Ta,470,224)]
def xB:List Xj:=xD++pL 0 [(58,206)]
def DZ:EL:=D0++rL [(S_,511,250),(z61,520,259)]
def xA:List Xj:=xB++pL 0 [(67,232),(81,258)]
def DY:EL:=DZ++rL [(z70,527,266),(z71,534,273),(z72,544,280),(z73,556,287),(z74,563,294)]
def xy:List Xj:=xA++pL 0 [(89,265),(97,272),(101,279),(122,286),(130,293)]
def DX:EL:=DY++rL [(S9,644,354)]
def xx:List Xj:=xy++pL 0 [(132,300)]
def DV:EL:=DX++rL [(JT,650,363)]
def xw:List Xj:=xx++pL 0 [(164,362)]
def DU:EL:=DV++rL [(S8,706,402)]
def xu:List Xj:=xw++pL 0 [(175,369)]
def DT:EL:=up DU 0 (.str g8 784)++[(KO,714,.ref 413),(KN,723,.ref 420),(KL,732,.ref 427),(KJ,741,.ref 434),(KI,749,.ref 441),(rq,763,.ref 449),(KH,773,.ref 456),(KG,783,.ref 463),(S "SIGNS",787,.str (S "+-*/%&|^~!()[],:$=<>") 786),(S "ESCAPE_SIGNS",789,.str (S "btnfr\"'\\") 788),(S "ESCAPE_CODES",791,.str (S [8,9,10,12,13,34,39,92]) 790),(S "TOP",793,.int 18446744073709551615 792)]
def xt:List Xj:=xu++pL 0 [(198,412),(204,419),(210,426),(224,433),(232,440),(240,448),(255,455),(268,462)]
def DS:EL:=DT++rL [(KD,801,470),(KC,809,477),(KA,816,484),(Kz,824,491),(Ky,836,498),(Kx,846,505),(Kw,855,512),(Kv,864,519),(Ku,873,526),(Ks,885,533)]
def xr:List Xj:=xt++pL 0 [(281,469),(290,476),(293,483),(295,490),(298,497),(321,504),(333,511),(343,518),(348,525),(360,532)]
def DR:EL:=DS++rL [(Kr,897,540),(Kq,906,547)]
def xq:List Xj:=xr++pL 0 [(374,539),(395,546)]
def DQ:EL:=DR++rL [(y_,963,585)]
def xp:List Xj:=xq++pL 0 [(404,553)]
def DP:EL:=DQ++rL [(y',1090,676)]
def xo:List Xj:=xp++pL 0 [(420,595)]
def DO:EL:=DP++rL [(Kp,1100,687)]
def xn:List Xj:=xo++pL 0 [(516,686)]
def DN:EL:=DO++rL [(yZ,1214,781)]
def xm:List Xj:=xn++pL 0 [(523,693)]
def DM:EL:=up DN 0 (.str cg 1215)++[(S "SECTIONS",1218,.str (S ".text .data .bss") 1217),(S "LISTS",1220,.str (S ".byte .word .short .long .int .quad .uleb128 .sleb128") 1219),(S "TEXTS",1222,.str (S ".ascii .asciz .string") 1221),(S "ONE_NUMBER",1224,.str (S ".align .balign .p2align .org .zero") 1223),(S "TWO_NUMBERS",1226,.str (S ".skip .space") 1225),(S "EQUATES",1228,.str (S ".set .equ .equiv") 1227),(mQ,1259,.ref 802)]
def xk:List Xj:=xm++pL 0 [(581,791)]
def DK:EL:=DM++rL [(yY,1292,830)]
def xj:List Xj:=xk++pL 0 [(586,812)]
def DJ:EL:=DK++rL [(yX,1325,856)]
def xi:List Xj:=xj++pL 0 [(594,838)]
def DI:EL:=DJ++rL [(yW,1359,880)]
def xh:List Xj:=xi++pL 0 [(602,864)]
def DH:EL:=DI++rL [(yV,1394,906),(Km,1401,915)]
def xg:List Xj:=xh++pL 0 [(611,888),(620,914)]
def DG:EL:=DH++rL [(Kl,1413,922),(Kk,1421,929),(Kj,1428,936),(tD,1434,941),(tC,1440,946),(tG,1447,953)]
def xf:List Xj:=xg++pL 0 [(624,921),(634,928),(636,935),(638,940),(655,945),(662,952)]
def DE:EL:=DG++rL [(yU,1633,1074)]
def xe:List Xj:=xf++pL 0 [(665,959)]
def DD:EL:=up DE 0 (.str j9 1643)++[(Kf,1642,.ref 1085),(S "_law_lists",1653,.ref 1086),(S "_law_deeds",1670,.ref 1095),(S "_law_pool",1678,.ref 1096),(S "_law_quotes",1687,.ref 1101),(S "_law_words",1698,.ref 1112),(Ke,1708,.ref 1119),(Kd,1717,.ref 1126),(Kc,1727,.ref 1133),(Kb,1736,.ref 1140)]
def xd:List Xj:=xe++pL 0 [(850,1084),(858,1118),(862,1125),(864,1132),(876,1139)]
def DC:EL:=DD++rL [(J8,1752,1147),(J7,1764,1154),(ti,1770,1159),(tg,1776,1164),(J6,1791,1171),(J5,1803,1178),(J4,1820,1185),(J3,1839,1192),(J2,1850,1199)]
def xc:List Xj:=xd++pL 0 [(880,1146),(891,1153),(912,1158),(923,1163),(936,1170),(951,1177),(964,1184),(978,1191),(1019,1198)]
def DB:EL:=DC++rL [(tc,1856,1204),(JZ,1886,1211),(s_,1892,1216),(JY,1905,1223)]
def Ih:List Xj:=xc++pL 0 [(1034,1203),(1041,1210),(1066,1215),(1077,1222)]
def T0(P:Ym):BT:=ins .nil 0 [boot_o_0 P,boot_o_1 P,boot_o_2 P,boot_o_3 P,boot_o_4 P,boot_o_5 P,boot_o_6 P,boot_o_7 P,boot_o_8 P,boot_o_9 P,boot_o_10 P,du,⟨.none,Xk,.fields ⟨D9⟩,⟨[]⟩⟩,q0 13 (S "<module>") 182 1 185,q1 14 3 z2 164]
def T1 (P:Ym):BT:=ins (ins (ins (T0 P) 3 [gy P vD 11 PM]) 12 [⟨.none,Xk,.fields ⟨D8⟩,⟨[]⟩⟩]) 15 (gF 20 0 z13 187 1 1 z2 164 [S "k"]++[du,q6,dC P 6 203 z4 194 Te 5 [(dj,216,35),(eZ,223,42),(fy,226,43)],du,q7 7 34 11 41,q0 27 Te 198 5 201,q1 28 24 z4 194]++mS z4 194 2 34 0 208 [(dj,S "Place.__init__",7,3,[cH,tE,z24]),(eZ,S "Place.told",11,1,[cH])]++[ig 224 [z24,tE],dD P 4 203 z4 194 5 231 [(dj,216,35),(eZ,223,42),(fy,226,43),(yE,228,46),(tm,230,47)],uv 45 Te 196,uu 46 227,sV 229 45,ki 45,kh 45])
def T2 (P:Ym):BT:=ins (ins (ins (T1 P) 2 [gy P .none 2 BF,gy P vD 12 PJ]) 12 [⟨.none,Xk,.fields ⟨D7⟩,⟨[]⟩⟩]) 50 ([gx [vE],q6,dC P 6 241 z4 194 Jo 13 [(dj,254,64),(eZ,261,71),(fy,264,72)],du,q7 15 63 20 70,q0 55 Jo 236 13 239,q1 56 52 z4 194,gx [.none]]++gI 63 3 (S "MintError.__init__") 246 15 3 z4 194 [cH,z32,hX]++gM 70 3 1 eZ (S "MintError.told") 255 20 1 z4 194 [cH]++[ig 262 [hX,z32],dD P 3 241 z4 194 13 267 [(dj,254,64),(eZ,261,71),(fy,264,72),(tm,266,75)],cL Jo 74 [vE] [vE,vB,vO] [] (W_ (.ref 50)) 234 nE,sV 265 74,ki 74,kh 74])
def T3 (P:Ym):BT:=ins (ins (ins (ins (T2 P) 3 [gy P vD 13 PI]) 12 [⟨.none,Xk,.fields ⟨D6⟩,⟨[]⟩⟩]) 74 [cL Jo 74 [vE] [vE,vB,vO] [.ref 87] (W_ (.ref 50)) 234 nE]) 78 [gx [.ref 74],q6,dC P 4 279 z4 194 EE 24 [(fy,284,85)],du,q2,q0 83 EE 274 24 277,q1 84 80 z4 194,du,dD P 2 279 z4 194 24 285 [(fy,284,85)],cL EE 87 [.ref 74] [.ref 74,vE,vB,vO] [] (W_ (.ref 78)) 272 nE,ki 87,kh 87]
def T4 (P:Ym):BT:=ins (ins (ins (ins (T3 P) 3 [gy P vD 16 PH]) 12 [⟨.none,Xk,.fields ⟨D5⟩,⟨[]⟩⟩]) 74 [cL Jo 74 [vE] [vE,vB,vO] [.ref 87,.ref 99] (W_ (.ref 50)) 234 nE]) 90 [gx [.ref 74],q6,dC P 4 295 z4 194 ED 26 [(fy,300,97)],du,q2,q0 95 ED 290 26 293,q1 96 92 z4 194,du,dD P 2 295 z4 194 26 301 [(fy,300,97)],cL ED 99 [.ref 74] [.ref 74,vE,vB,vO] [] (W_ (.ref 90)) 288 nE,ki 99,kh 99]
def T5 (P:Ym):BT:=ins (ins (ins (T4 P) 3 [gy P vD 17 PF]) 12 [⟨.none,Xk,.fields ⟨D4⟩,⟨[]⟩⟩]) 102 ([du,q6,dC P 6 317 fD 304 yR 31 [(dj,329,115),(eZ,336,122),(fy,338,123)],du,q7 33 114 36 121,q0 107 yR 312 31 315,q1 108 104 fD 304]++mS fD 304 9 114 0 322 [(dj,S "Expr.__init__",33,2,[cH,yQ]),(eZ,S "Expr.told",36,1,[cH])]++[ig 337 [yQ],dD P 4 317 fD 304 31 343 [(dj,329,115),(eZ,336,122),(fy,338,123),(yE,340,126),(tm,342,127)],uv 125 yR 310,uu 126 339,sV 341 125,ki 125,kh 125])
def T6 (P:Ym):BT:=ins (ins (ins (ins (T5 P) 3 [gy P vD 18 PE]) 12 [⟨.none,Xk,.fields ⟨D3⟩,⟨[]⟩⟩]) 125 [cL yR 125 [vO] [vO] [.ref 153] (Xk) 310 nO]) 130 ([gx [.ref 125],q6,dC P 6 353 fD 304 Td 38 [(dj,365,143),(eZ,372,150),(fy,375,151)],du,q7 40 142 44 149,q0 135 Td 348 38 351,q1 136 132 fD 304]++mS fD 304 10 142 0 358 [(dj,S "Number.__init__",40,2,[cH,oB]),(eZ,S "Number.told",44,1,[cH])]++[ig 373 [yQ,oB],dD P 2 353 fD 304 38 376 [(dj,365,143),(eZ,372,150),(fy,375,151)],zV 153 Td 125 130 346,ki 153,kh 153])
def T7 (P:Ym):BT:=ins (ins (ins (ins (T6 P) 3 [gy P vD 19 PD]) 12 [⟨.none,Xk,.fields ⟨D2⟩,⟨[]⟩⟩]) 125 [cL yR 125 [vO] [vO] [.ref 153,.ref 179] (Xk) 310 nO]) 156 ([gx [.ref 125],q6,dC P 6 386 fD 304 Tc 46 [(dj,398,169),(eZ,405,176),(fy,408,177)],du,q7 48 168 52 175,q0 161 Tc 381 46 384,q1 162 158 fD 304]++mS fD 304 11 168 0 391 [(dj,S "Symbol.__init__",48,2,[cH,j5]),(eZ,S "Symbol.told",52,1,[cH])]++[ig 406 [yQ,j5],dD P 2 386 fD 304 46 409 [(dj,398,169),(eZ,405,176),(fy,408,177)],zV 179 Tc 125 156 379,ki 179,kh 179])
def T8 (P:Ym):BT:=ins (ins (ins (ins (T7 P) 3 [gy P vD 20 D1]) 12 [⟨.none,Xk,.fields ⟨xD⟩,⟨[]⟩⟩]) 125 [cL yR 125 [vO] [vO] [.ref 153,.ref 179,.ref 198] (Xk) 310 nO]) 182 ([gx [.ref 125],q6,dC P 5 419 fD 304 Tb 54 [(dj,430,195),(fy,432,196)],du,fL [(56,194)],q0 187 Tb 414 54 417,q1 188 184 fD 304]++gM 194 12 0 dj (S "Here.__init__") 424 56 1 fD 304 [cH]++[ig 431 [yQ],dD P 2 419 fD 304 54 433 [(dj,430,195),(fy,432,196)],zV 198 Tb 125 182 412,ki 198,kh 198])
def T9 (P:Ym):BT:=ins (ins (ins (ins (T8 P) 3 [gy P vD 21 D0]) 12 [⟨.none,Xk,.fields ⟨xB⟩,⟨[]⟩⟩]) 125 [cL yR 125 [vO] [vO] [.ref 153,.ref 179,.ref 198,.ref 224] (Xk) 310 nO]) 201 ([gx [.ref 125],q6,dC P 6 443 fD 304 Ta 58 [(dj,456,214),(eZ,463,221),(fy,467,222)],du,q7 60 213 65 220,q0 206 Ta 438 58 441,q1 207 203 fD 304]++mS fD 304 13 213 0 448 [(dj,S "Unary.__init__",60,3,[cH,mH,z57]),(eZ,S "Unary.told",65,1,[cH])]++[ig 464 [z57,yQ,mH],dD P 2 443 fD 304 58 468 [(dj,456,214),(eZ,463,221),(fy,467,222)],zV 224 Ta 125 201 436,ki 224,kh 224])
def T10 (P:Ym):BT:=ins (ins (ins (ins (T9 P) 3 [gy P vD 23 DZ]) 12 [⟨.none,Xk,.fields ⟨xA⟩,⟨[]⟩⟩]) 125 [cL yR 125 [vO] [vO] [.ref 153,.ref 179,.ref 198,.ref 224,.ref 250] (Xk) 310 nO]) 227 ([gx [.ref 125],q6,dC P 6 478 fD 304 S_ 67 [(dj,492,240),(eZ,503,247),(fy,508,248)],du,q7 69 239 75 246,q0 232 S_ 473 67 476,q1 233 229 fD 304]++mS fD 304 14 239 0 483 [(dj,S "Binary.__init__",69,4,[cH,mH,JX,Un]),(eZ,S "Binary.told",75,1,[cH,Jn,JW,oB,JV])]++[ig 504 [yQ,JX,Un,mH],dD P 2 478 fD 304 67 509 [(dj,492,240),(eZ,503,247),(fy,508,248)],zV 250 S_ 125 227 471,ki 250,kh 250]++gF 258 15 z61 512 81 1 fD 304 [Cy,JW,Jn])
def T11 (P:Ym):BT:=ins (ins (ins (T10 P) 3 [gy P vD 28 DY]) 12 [⟨.none,Xk,.fields ⟨xy⟩,⟨[]⟩⟩]) 260 (fS fD 304 265 16 521 [(z70,89,1,[mH]),(z71,97,1,[yP]),(z72,101,2,[rl,z77,yP,Jn]),(z73,122,3,[rl,S "least",z77,JX,S "level",mH]),(z74,130,1,[rl])])
def T12 (P:Ym):BT:=ins (ins (ins (T11 P) 3 [gy P vD 29 DX]) 12 [⟨.none,Xk,.fields ⟨xx⟩,⟨[]⟩⟩]) 295 ([du,q6,dC P 11 571 fD 304 S9 132 [(dj,587,309),(eZ,594,316),(Um,601,323),(Ul,608,330),(Uk,615,337),(Uj,623,344),(Ui,633,351),(fy,637,352)],du,fL [(134,308),(139,315),(142,322),(145,329),(148,336),(151,343),(154,350)],q0 300 S9 566 132 569,q1 301 297 fD 304,ig 576 [Uh,Uh]]++gI 308 21 (S "Affine.__init__") 578 134 4 fD 304 [cH,oB,z87,z88]++mS fD 304 21 315 1 588 [(eZ,S "Affine.told",139,1,[cH]),(Um,S "Affine.is_number",142,1,[cH]),(Ul,S "Affine.is_symbol",145,1,[cH]),(Uk,S "Affine.negate",148,1,[cH]),(Uj,S "Affine.add",151,2,[cH,JU]),(Ui,S "Affine.places",154,2,[cH,S "known",oB,j5])]++[ig 634 [z88,z87,oB],dD P 4 571 fD 304 132 642 [(dj,587,309),(eZ,594,316),(Um,601,323),(Ul,608,330),(Uk,615,337),(Uj,623,344),(Ui,633,351),(fy,637,352),(yE,639,355),(tm,641,356)],uv 354 S9 564,uu 355 638,sV 640 354,ki 354,kh 354])
def T13 (P:Ym):BT:=ins (ins (ins (T12 P) 3 [gy P vD 30 DV]) 12 [⟨.none,Xk,.fields ⟨xw⟩,⟨[]⟩⟩]) 359 [du,q2,q3 22 JT,sU 362 JT 645 JT 164 3 648,q5 363 22 JT fD 304]
def T14 (P:Ym):BT:=ins (ins (ins (T13 P) 3 [gy P vD 31 DU]) 12 [⟨.none,Xk,.fields ⟨xu⟩,⟨[]⟩⟩]) 364 ([du,q6,dC P 8 658 fD 304 S8 175 [(dj,670,378),(Fn,679,385),(Fm,687,392),(zb,697,399),(fy,699,400)],du,fL [(177,377),(180,384),(183,391),(186,398)],q0 369 S8 653 175 656,q1 370 366 fD 304,gx [.none]]++gI 377 23 (S "Scope.__init__") 663 177 2 fD 304 [cH,za]++mS fD 304 23 384 1 671 [(Fn,S "Scope.put",180,3,[cH,j5,Fl]),(Fm,S "Scope.find",183,2,[cH,j5]),(zb,S "Scope.settled",186,2,[cH,Fl,JX,jD])]++[ig 698 [za],dD P 4 658 fD 304 175 704 [(dj,670,378),(Fn,679,385),(Fm,687,392),(zb,697,399),(fy,699,400),(yE,701,403),(tm,703,404)],uv 402 S8 651,uu 403 700,sV 702 402,ki 402,kh 402])
def T15 (P:Ym):BT:=ins (ins (ins (T14 P) 3 [gy P vD 43 DT]) 12 [⟨.none,Xk,.fields ⟨xt⟩,⟨[]⟩⟩]) 407 (fS fD 304 412 24 707 [(KO,198,2,[tH,JU]),(KN,204,3,[mH,tH,mR]),(KL,210,3,[mH,tH,JU]),(KJ,224,3,[mH,JX,Un]),(KI,232,2,[mH,Fl])]++[ig 750 [Uh],du,q2,ig 754 [Cy,Fj,lD,Jn,JW,oB,JV],du,q3 29 rq,q4 448 rq 751 rq 240 3 761 762,⟨vF,Xk,.func (JE (gA 29) rq rq 3 (.ref 442) (.none) (.none) (.str fD 304) (.ref 448) (.none) 0),⟨[]⟩⟩]++fS fD 304 455 30 764 [(KH,255,1,[Cy,jD,S "todo",JV]),(KG,268,1,[Cy,Jn,JW,JV])])
def T16 (P:Ym):BT:=ins (ins (ins (T15 P) 3 [gy P vD 53 DS]) 12 [⟨.none,Xk,.fields ⟨xr⟩,⟨[]⟩⟩]) 464 (fS g8 784 469 37 794 [(KD,281,1,[mH,oD]),(KC,290,1,[mH,oD]),(KA,293,1,[mH]),(Kz,295,1,[mH,oD]),(Ky,298,2,[fE,hX,mH,oB,lD,ka]),(Kx,321,2,[fE,hX,oD,rp]),(Kw,333,2,[fE,hX,lD]),(Kv,343,2,[fE,hX,lD]),(Ku,348,2,[fE,hX,lD]),(Ks,360,1,[fE,jD,tE,Fi,lD,rp])])
def T17 (P:Ym):BT:=ins (ins (ins (T16 P) 3 [gy P vD 55 DR]) 12 [⟨.none,Xk,.fields ⟨xq⟩,⟨[]⟩⟩]) 534 (fS g8 784 539 47 886 [(Kr,374,1,[jc,S "base",Fi,oB,mH,S "figure"]),(Kq,395,1,[jc,oB,mH])])
def T18 (P:Ym):BT:=ins (ins (ins (T17 P) 3 [gy P vD 56 DQ]) 12 [⟨.none,Xk,.fields ⟨xp⟩,⟨[]⟩⟩]) 548 ([du,q6,dC P 8 914 g8 784 y_ 404 [(dj,929,561),(ro,937,568),(Fh,944,575),(eZ,951,582),(fy,956,583)],du,fL [(406,560),(412,567),(415,574),(418,581)],q0 553 y_ 909 404 912,q1 554 550 g8 784]++mS g8 784 49 560 0 919 [(dj,S "Token.__init__",406,5,[cH,yQ,fE,oB,hX]),(ro,S "Token.is_sign",412,2,[cH,fE]),(Fh,S "Token.is_backward",415,1,[cH]),(eZ,S "Token.told",418,1,[cH])]++[ig 952 [hX,yQ,fE,oB],dD P 4 914 g8 784 404 961 [(dj,929,561),(ro,937,568),(Fh,944,575),(eZ,951,582),(fy,956,583),(yE,958,586),(tm,960,587)],uv 585 y_ 907,uu 586 957,sV 959 585,ki 585,kh 585])
def T19 (P:Ym):BT:=ins (ins (ins (T18 P) 3 [gy P vD 57 DP]) 12 [⟨.none,Xk,.fields ⟨xo⟩,⟨[]⟩⟩]) 590 ([du,q6,dC P 15 971 g8 784 y' 420 [(dj,984,603),(j_,992,610),(Fg,999,617),(Ff,1008,624),(Fe,1017,631),(ka,1027,638),(Fd,1037,645),(Fc,1049,652),(Fb,1059,659),(E_,1069,666),(yP,1079,673),(fy,1083,674)],du,fL [(422,602),(427,609),(430,616),(435,623),(440,630),(446,637),(459,644),(466,651),(485,658),(493,665),(501,672)],q0 595 y' 966 420 969,q1 596 592 g8 784]++mS g8 784 50 602 0 976 [(dj,S "LineReader.__init__",422,3,[cH,fE,tE]),(j_,S "LineReader.place",427,2,[cH,hX]),(Fg,S "LineReader.is_done",430,1,[cH]),(Ff,S "LineReader.passed",435,2,[cH,rp,Fi]),(Fe,S "LineReader.name_end",440,2,[cH,hX,lD]),(ka,S "LineReader.number",446,1,[cH,hX,jc,oB]),(Fd,S "LineReader.constant",459,1,[cH,hX,oD,rp]),(Fc,S "LineReader.quote",466,1,[cH,hX,oB,lD,oD,rp]),(Fb,S "LineReader.register",485,1,[cH,hX,lD,jc]),(E_,S "LineReader.mark",493,1,[cH,hX,S "pair",jc]),(yP,S "LineReader.token",501,1,[cH,mH,hX,jc])]++[ig 1080 [hX,tE,fE],dD P 4 971 g8 784 420 1088 [(dj,984,603),(j_,992,610),(Fg,999,617),(Ff,1008,624),(Fe,1017,631),(ka,1027,638),(Fd,1037,645),(Fc,1049,652),(Fb,1059,659),(E_,1069,666),(yP,1079,673),(fy,1083,674),(yE,1085,677),(tm,1087,678)],uv 676 y' 964,uu 677 1084,sV 1086 676,ki 676,kh 676])
def T20 (P:Ym):BT:=ins (ins (ins (T19 P) 3 [gy P vD 58 DO]) 12 [⟨.none,Xk,.fields ⟨xn⟩,⟨[]⟩⟩]) 681 (gF 686 51 Kp 1091 516 2 g8 784 [fE,tE,S "reader",jD])
def T21 (P:Ym):BT:=ins (ins (ins (T20 P) 3 [gy P vD 59 DN]) 12 [⟨.none,Xk,.fields ⟨xm⟩,⟨[]⟩⟩]) 688 ([du,q6,dC P 16 1108 g8 784 yZ 523 [(dj,1120,701),(E9,1127,708),(E8,1135,715),(E7,1143,722),(ro,1151,729),(E6,1158,736),(E5,1166,743),(E4,1174,750),(E3,1182,757),(tG,1189,764),(j5,1197,771),(E2,1204,778),(fy,1207,779)],du,fL [(525,700),(529,707),(532,714),(537,721),(543,728),(546,735),(549,742),(555,749),(558,756),(562,763),(565,770),(572,777)],q0 693 yZ 1103 523 1106,q1 694 690 g8 784]++mS g8 784 52 700 0 1113 [(dj,S "Cursor.__init__",525,2,[cH,tF]),(E9,S "Cursor.peek",529,1,[cH]),(E8,S "Cursor.ahead",532,2,[cH,mR]),(E7,S "Cursor.take",537,1,[cH,yP]),(ro,S "Cursor.is_sign",543,2,[cH,fE]),(E6,S "Cursor.is_end",546,1,[cH]),(E5,S "Cursor.skip",549,2,[cH,fE]),(E4,S "Cursor.skip_name",555,2,[cH,fE]),(E3,S "Cursor.need",558,2,[cH,fE]),(tG,S "Cursor.need_end",562,1,[cH]),(j5,S "Cursor.name",565,1,[cH,yP]),(E2,S "Cursor.rest_place",572,1,[cH])]++[ig 1205 [hX,tF],dD P 4 1108 g8 784 523 1212 [(dj,1120,701),(E9,1127,708),(E8,1135,715),(E7,1143,722),(ro,1151,729),(E6,1158,736),(E5,1166,743),(E4,1174,750),(E3,1182,757),(tG,1189,764),(j5,1197,771),(E2,1204,778),(fy,1207,779),(yE,1209,782),(tm,1211,783)],uv 781 yZ 1101,uu 782 1208,sV 1210 781,ki 781,kh 781])
def T22 (P:Ym):BT:=ins (ins (ins (T21 P) 3 [gy P vD 66 DM]) 12 [⟨.none,Xk,.fields ⟨xk⟩,⟨[]⟩⟩]) 786 ([du,q6,dC P 5 1236 cg 1215 mQ 581 [(dj,1249,799),(fy,1252,800)],du,fL [(583,798)],q0 791 mQ 1231 581 1234,q1 792 788 cg 1215]++gM 798 60 0 dj (S "Statement.__init__") 1241 583 3 cg 1215 [cH,rn,hX]++[ig 1250 [hX,rn],dD P 4 1236 cg 1215 581 1257 [(dj,1249,799),(fy,1252,800),(yE,1254,803),(tm,1256,804)],uv 802 mQ 1229,uu 803 1253,sV 1255 802,ki 802,kh 802])
def T23 (P:Ym):BT:=ins (ins (ins (ins (T22 P) 3 [gy P vD 67 DK]) 12 [⟨.none,Xk,.fields ⟨xj⟩,⟨[]⟩⟩]) 802 [cL mQ 802 [vO] [vO] [.ref 830] (Xk) 1229 nO]) 807 ([gx [.ref 802],q6,dC P 6 1267 cg 1215 yY 586 [(dj,1280,820),(eZ,1287,827),(fy,1289,828)],du,q7 588 819 592 826,q0 812 yY 1262 586 1265,q1 813 809 cg 1215]++mS cg 1215 61 819 0 1272 [(dj,S "Label.__init__",588,3,[cH,j5,hX]),(eZ,S "Label.told",592,1,[cH])]++[ig 1288 [j5],dD P 2 1267 cg 1215 586 1290 [(dj,1280,820),(eZ,1287,827),(fy,1289,828)],zV 830 yY 802 807 1260,ki 830,kh 830])
def T24 (P:Ym):BT:=ins (ins (ins (ins (T23 P) 3 [gy P vD 68 DJ]) 12 [⟨.none,Xk,.fields ⟨xi⟩,⟨[]⟩⟩]) 802 [cL mQ 802 [vO] [vO] [.ref 830,.ref 856] (Xk) 1229 nO]) 833 ([gx [.ref 802],q6,dC P 6 1300 cg 1215 yX 594 [(dj,1313,846),(eZ,1320,853),(fy,1322,854)],du,q7 596 845 600 852,q0 838 yX 1295 594 1298,q1 839 835 cg 1215]++mS cg 1215 62 845 0 1305 [(dj,S "Code.__init__",596,3,[cH,Ko,hX]),(eZ,S "Code.told",600,1,[cH])]++[ig 1321 [Ko],dD P 2 1300 cg 1215 594 1323 [(dj,1313,846),(eZ,1320,853),(fy,1322,854)],zV 856 yX 802 833 1293,ki 856,kh 856])
def T25 (P:Ym):BT:=ins (ins (ins (ins (T24 P) 3 [gy P vD 69 DI]) 12 [⟨.none,Xk,.fields ⟨xh⟩,⟨[]⟩⟩]) 802 [cL mQ 802 [vO] [vO] [.ref 830,.ref 856,.ref 880] (Xk) 1229 nO]) 859 ([gx [.ref 802],q6,dC P 6 1333 cg 1215 yW 602 [(dj,1347,872),(eZ,1353,877),(fy,1356,878)],du,q7 604 871 609 876,q0 864 yW 1328 602 1331,q1 865 861 cg 1215]++gM 871 63 0 dj (S "Deed.__init__") 1338 604 4 cg 1215 [cH,jc,Kn,hX]++[du,q2,q8 63 1 eZ E1,sU 876 eZ 1348 E1 609 1 1351,q9 877 63 1 eZ E1 cg 1215,ig 1354 [Kn,jc],dD P 2 1333 cg 1215 602 1357 [(dj,1347,872),(eZ,1353,877),(fy,1356,878)],zV 880 yW 802 859 1326,ki 880,kh 880])
def T26 (P:Ym):BT:=ins (ins (ins (ins (T25 P) 3 [gy P vD 71 DH]) 12 [⟨.none,Xk,.fields ⟨xg⟩,⟨[]⟩⟩]) 802 [cL mQ 802 [vO] [vO] [.ref 830,.ref 856,.ref 880,.ref 906] (Xk) 1229 nO]) 883 ([gx [.ref 802],q6,dC P 6 1367 cg 1215 yV 611 [(dj,1381,896),(eZ,1388,903),(fy,1391,904)],du,q7 613 895 618 902,q0 888 yV 1362 611 1365,q1 889 885 cg 1215]++mS cg 1215 64 895 0 1372 [(dj,S "Equate.__init__",613,4,[cH,j5,Cy,hX]),(eZ,S "Equate.told",618,1,[cH])]++[ig 1389 [j5,Cy],dD P 2 1367 cg 1215 611 1392 [(dj,1381,896),(eZ,1388,903),(fy,1391,904)],zV 906 yV 802 883 1360,ki 906,kh 906]++gF 914 65 Km 1395 620 1 cg 1215 [S "argument"])
def T27 (P:Ym):BT:=ins (ins (ins (T26 P) 3 [gy P vD 77 DG]) 12 [⟨.none,Xk,.fields ⟨xf⟩,⟨[]⟩⟩]) 916 (fS cg 1215 921 66 1402 [(Kl,624,2,[Cy,j5,Jn,JW,jD,JV]),(Kk,634,2,[ka,mR]),(Kj,636,1,[mR])]++[du,q2,q3 69 tD,sU 940 tD 1429 tD 638 1 1432,q5 941 69 tD cg 1215,du,q2,q3 70 tC,sU 945 tC 1435 tC 655 1 1438,q5 946 70 tC cg 1215]++gF 952 71 tG 1441 662 1 cg 1215 [rl])
def T28 (P:Ym):BT:=ins (ins (ins (T27 P) 3 [gy P vD 78 DE]) 12 [⟨.none,Xk,.fields ⟨xe⟩,⟨[]⟩⟩]) 954 ([du,q6,dC P 21 1455 cg 1215 yU 665 [(dj,1468,967),(E0,1481,974),(tB,1487,979),(tE,1498,986),(EZ,1507,993),(EY,1516,1000),(EX,1528,1007),(tw,1534,1012),(EW,1545,1019),(tv,1551,1024),(EU,1561,1031),(tu,1567,1036),(ET,1579,1043),(j5,1589,1050),(yT,1598,1057),(ES,1607,1064),(ER,1616,1071),(fy,1626,1072)],du,fL [(667,966),(678,973),(687,978),(696,985),(715,992),(722,999),(732,1006),(748,1011),(756,1018),(766,1023),(790,1030),(800,1035),(808,1042),(822,1049),(829,1056),(835,1063),(843,1070)],q0 959 yU 1450 665 1453,q1 960 956 cg 1215]++mS cg 1215 72 966 0 1460 [(dj,S "SourceReader.__init__",667,3,[cH,tn,EP]),(E0,S "SourceReader.read",678,2,[cH,fE,tE,yS,ka,mR,hX])]++[du,q2,q8 72 2 tB EO,sU 978 tB 1482 EO 687 1 1485,q9 979 72 2 tB EO cg 1215]++mS cg 1215 72 985 3 1488 [(tE,S "SourceReader.line",696,2,[cH,tF,S "rest",rl,S "head"]),(EZ,S "SourceReader.labels",715,2,[cH,tF,hX]),(EY,S "SourceReader.label",722,2,[cH,yP,ka]),(EX,S "SourceReader.bound",732,2,[cH,tF,jD,yP,mR,j5])]++[du,q2,q8 72 7 tw EM,sU 1011 tw 1529 EM 748 3 1532,q9 1012 72 7 tw EM cg 1215]++gM 1018 72 8 EW (S "SourceReader.equate") 1535 756 4 cg 1215 [cH,j5,rl,hX,Cy]++[du,q2,q8 72 9 tv EK,sU 1023 tv 1546 EK 766 3 1549,q9 1024 72 9 tv EK cg 1215]++gM 1030 72 10 EU (S "SourceReader.choose") 1552 790 4 cg 1215 [cH,jc,rl,hX]++[du,q2,q8 72 11 tu EJ,sU 1035 tu 1562 EJ 800 4 1565,q9 1036 72 11 tu EJ cg 1215]++mS cg 1215 72 1042 12 1568 [(ET,S "SourceReader.sized",808,4,[cH,jc,S "nodes",hX,Ki,yS]),(j5,S "SourceReader.name",822,2,[cH,rl,hX,j5]),(yT,S "SourceReader.names",829,2,[cH,rl,jD]),(ES,S "SourceReader.numbers",835,2,[cH,rl,jD]),(ER,S "SourceReader.texts",843,2,[cH,rl,jD])]++[ig 1617 [EI,tj,za,tn,S "points",EP,S "statements",Kh,Kg],dD P 4 1455 cg 1215 665 1631 [(dj,1468,967),(E0,1481,974),(tB,1487,979),(tE,1498,986),(EZ,1507,993),(EY,1516,1000),(EX,1528,1007),(tw,1534,1012),(EW,1545,1019),(tv,1551,1024),(EU,1561,1031),(tu,1567,1036),(ET,1579,1043),(j5,1589,1050),(yT,1598,1057),(ES,1607,1064),(ER,1616,1071),(fy,1626,1072),(yE,1628,1075),(tm,1630,1076)],uv 1074 yU 1448,uu 1075 1627,sV 1629 1074,ki 1074,kh 1074])
def T29 (P:Ym):BT:=ins (ins (ins (T28 P) 3 [gy P vD 88 DD]) 12 [⟨.none,Xk,.fields ⟨xd⟩,⟨[]⟩⟩]) 1079 (gF 1084 73 Kf 1634 850 3 cg 1215 [tn,fE,EP]++[ig 1645 [S ".byte",S ".word",S ".short",S ".long",S ".int",S ".quad",S ".uleb128",S ".sleb128"],gx [.str (S ".align") 1654,.int 1 1655],gx [.str (S ".balign") 1656,.int 1 1657],gx [.str (S ".p2align") 1658,.int 1 1659],gx [.str (S ".org") 1660,.int 1 1661],gx [.str (S ".zero") 1662,.int 1 1663],gx [.str (S ".skip") 1664,.int 2 1665],gx [.str (S ".space") 1666,.int 2 1667],gx [.str (S ".fill") 1668,.int 3 1669],gx [.ref 1087,.ref 1088,.ref 1089,.ref 1090,.ref 1091,.ref 1092,.ref 1093,.ref 1094],ig 1671 [Ka,J_,S "r",J',S "v",S "w",J9],gx [.str (S "\"\"") 1679,.bytes ⟨[]⟩ 1680],gx [.str (S "\"a; p: #\"") 1681,.bytes ⟨"a; p: #"⟩ 1682],gx [.str (S "\"\\\"\\101\\n\"") 1683,.bytes ⟨"\"A\n"⟩ 1684],gx [.str (S "\"\\377\\0\"") 1685,.bytes ⟨[255,0]⟩ 1686],gx [.ref 1097,.ref 1098,.ref 1099,.ref 1100],du,gx [.str (S ".text") 1688,.ref 1102],du,gx [.str (S ".bss") 1689,.ref 1104],ig 1691 [S ".a$1"],gx [.str (S ".section .a$1") 1690,.ref 1106],ig 1693 [Ka],gx [.str (S ".globl p") 1692,.ref 1108],ig 1695 [J_,J9,J'],gx [.str (S ".globl q , z,u") 1694,.ref 1110],gx [.ref 1103,.ref 1105,.ref 1107,.ref 1109,.ref 1111]]++fS j9 1643 1118 80 1699 [(Ke,858,3,[tn,rl,Fj,jD]),(Kd,862,3,[tn,rl,Fj]),(Kc,864,2,[mP,S "many",S "cell",S "digit"]),(Kb,876,2,[rm,fE,j_])])
def T30 (P:Ym):BT:=ins (ins (ins (T29 P) 3 [gy P vD 97 DC]) 12 [⟨.none,Xk,.fields ⟨xc⟩,⟨[]⟩⟩]) 1141 (fS j9 1643 1146 84 1737 [(J8,880,3,[mP,mO,ka,rm,tj,EI,EH,EG,S "is_back",j_]),(J7,891,2,[mP,mO,rm,rn,j5,ka])]++[du,q2,q3 86 ti,sU 1158 ti 1765 ti 912 3 1768,q5 1159 86 ti j9 1643,du,q2,q3 87 tg,sU 1163 tg 1771 tg 923 2 1774,q5 1164 87 tg j9 1643]++fS j9 1643 1170 88 1777 [(J6,936,2,[mP,mO,jc,Ki,mR,j_,eZ,EF,yS]),(J5,951,2,[mP,mO,rn,j5,j_,yS]),(J4,964,2,[mP,mO,rn,ka,tE,yT,jc,tH,JU,S "tail",j_]),(J3,978,2,[mP,mO,rm,tj,J1,EH,EF,fE,j_,rn,S "refused",oD,rp]),(J2,1019,3,[eZ,J0,S "deep",tH,JU])])
def T31 (P:Ym):BT:=ins (ins (ins (T30 P) 3 [gy P vD 101 DB]) 12 [⟨.none,Xk,.fields ⟨Ih⟩,⟨[]⟩⟩]) 1200 ([du,q2,q3 93 tc,sU 1203 tc 1851 tc 1034 2 1854,q5 1204 93 tc j9 1643]++gF 1210 94 JZ 1857 1041 1 j9 1643 [mO,rm,tj,EI,za,J1,Kg,EH,S "tally",EG,mR,j_,J0,S "summed",j5,eZ,zb,S "spot",Kh,S "late",oB,S "added",S "taken",jD]++[du,q2,q3 95 s_,sU 1215 s_ 1887 s_ 1066 1 1890,q5 1216 95 s_ j9 1643]++gF 1222 96 JY 1893 1077 1 j9 1643 [S "script",mP,rm,tj,mO,EF,EG])
end
theorem pc0:∀w p b os,hN T0 T1 15 50 187 234 ⟨0,0,0,0⟩ ⟨5,0,12,39⟩ 0 3 293 w p b os:=by intro w p b os;kernel_rfl
theorem pc1:∀w p b os,hN T1 T2 50 78 234 272 ⟨5,0,12,39⟩ ⟨13,0,23,29⟩ 3 1 262 w p b os:=by intro w p b os;kernel_rfl
theorem pc2:∀w p b os,hN T2 T3 78 90 272 288 ⟨13,0,23,29⟩ ⟨24,0,25,8⟩ 4 1 213 w p b os:=by intro w p b os;kernel_rfl
theorem pc3:∀w p b os,hN T3 T4 90 102 288 310 ⟨24,0,25,8⟩ ⟨30,0,30,10⟩ 5 4 240 w p b os:=by intro w p b os;kernel_rfl
theorem pc4:∀w p b os,hN T4 T5 102 130 310 346 ⟨30,0,30,10⟩ ⟨31,0,37,27⟩ 9 1 253 w p b os:=by intro w p b os;kernel_rfl
theorem pc5:∀w p b os,hN T5 T6 130 156 346 379 ⟨31,0,37,27⟩ ⟨38,0,45,37⟩ 10 1 277 w p b os:=by intro w p b os;kernel_rfl
theorem pc6:∀w p b os,hN T6 T7 156 182 379 412 ⟨38,0,45,37⟩ ⟨46,0,53,36⟩ 11 1 277 w p b os:=by intro w p b os;kernel_rfl
theorem pc7:∀w p b os,hN T7 T8 182 201 412 436 ⟨46,0,53,36⟩ ⟨54,0,57,26⟩ 12 1 244 w p b os:=by intro w p b os;kernel_rfl
theorem pc8:∀w p b os,hN T8 T9 201 227 436 471 ⟨54,0,57,26⟩ ⟨58,0,66,53⟩ 13 1 279 w p b os:=by intro w p b os;kernel_rfl
theorem pc9:∀w p b os,hN T9 T10 227 260 471 521 ⟨58,0,66,53⟩ ⟨81,0,88,25⟩ 14 2 316 w p b os:=by intro w p b os;kernel_rfl
theorem VA:∀w p b os,hN T10 T11 260 295 521 564 ⟨81,0,88,25⟩ ⟨130,0,131,35⟩ 16 5 153 w p b os:=by intro w p b os;kernel_rfl
theorem Vz:∀w p b os,hN T11 T12 295 359 564 645 ⟨130,0,131,35⟩ ⟨132,0,163,20⟩ 21 1 419 w p b os:=by intro w p b os;kernel_rfl
theorem Vy:∀w p b os,hN T12 T13 359 364 645 651 ⟨132,0,163,20⟩ ⟨164,0,174,90⟩ 22 1 26 w p b os:=by intro w p b os;kernel_rfl
theorem Vx:∀w p b os,hN T13 T14 364 407 651 707 ⟨164,0,174,90⟩ ⟨175,0,197,20⟩ 23 1 322 w p b os:=by intro w p b os;kernel_rfl
theorem Vw:∀w p b os,hN T14 T15 407 464 707 794 ⟨175,0,197,20⟩ ⟨280,0,280,3⟩ 24 13 299 w p b os:=by intro w p b os;kernel_rfl
theorem Vv:∀w p b os,hN T15 T16 464 534 794 886 ⟨280,0,280,3⟩ ⟨360,0,373,24⟩ 37 10 312 w p b os:=by intro w p b os;kernel_rfl
theorem Vu:∀w p b os,hN T16 T17 534 548 886 907 ⟨360,0,373,24⟩ ⟨395,0,403,16⟩ 47 2 65 w p b os:=by intro w p b os;kernel_rfl
theorem Vt:∀w p b os,hN T17 T18 548 590 907 964 ⟨395,0,403,16⟩ ⟨404,0,419,38⟩ 49 1 322 w p b os:=by intro w p b os;kernel_rfl
theorem Vs:∀w p b os,hN T18 T19 590 681 964 1091 ⟨404,0,419,38⟩ ⟨420,0,515,26⟩ 50 1 560 w p b os:=by intro w p b os;kernel_rfl
theorem Vr:∀w p b os,hN T19 T20 681 688 1091 1101 ⟨420,0,515,26⟩ ⟨516,0,522,16⟩ 51 1 32 w p b os:=by intro w p b os;kernel_rfl
theorem Vq:∀w p b os,hN T20 T21 688 786 1101 1215 ⟨516,0,522,16⟩ ⟨523,0,573,38⟩ 52 1 571 w p b os:=by intro w p b os;kernel_rfl
theorem Vp:∀w p b os,hN T21 T22 786 807 1215 1260 ⟨523,0,573,38⟩ ⟨581,0,585,20⟩ 53 8 287 w p b os:=by intro w p b os;kernel_rfl
theorem Vo:∀w p b os,hN T22 T23 807 833 1260 1293 ⟨581,0,585,20⟩ ⟨586,0,593,35⟩ 61 1 277 w p b os:=by intro w p b os;kernel_rfl
theorem Vn:∀w p b os,hN T23 T24 833 859 1293 1326 ⟨586,0,593,35⟩ ⟨594,0,601,48⟩ 62 1 277 w p b os:=by intro w p b os;kernel_rfl
theorem Vm:∀w p b os,hN T24 T25 859 883 1326 1360 ⟨594,0,601,48⟩ ⟨602,0,610,94⟩ 63 1 276 w p b os:=by intro w p b os;kernel_rfl
theorem Vl:∀w p b os,hN T25 T26 883 916 1360 1402 ⟨602,0,610,94⟩ ⟨620,0,623,26⟩ 64 2 308 w p b os:=by intro w p b os;kernel_rfl
theorem Vk:∀w p b os,hN T26 T27 916 954 1402 1448 ⟨620,0,623,26⟩ ⟨662,0,664,68⟩ 66 6 174 w p b os:=by intro w p b os;kernel_rfl
theorem Vj:∀w p b os,hN T27 T28 954 1079 1448 1634 ⟨662,0,664,68⟩ ⟨665,0,849,20⟩ 72 1 755 w p b os:=by intro w p b os;kernel_rfl
theorem Vi:∀w p b os,hN T28 T29 1079 1141 1634 1737 ⟨665,0,849,20⟩ ⟨876,0,879,16⟩ 73 11 309 w p b os:=by intro w p b os;kernel_rfl
theorem Vh:∀w p b os,hN T29 T30 1141 1200 1737 1851 ⟨876,0,879,16⟩ ⟨1019,0,1033,68⟩ 84 9 308 w p b os:=by intro w p b os;kernel_rfl
theorem Vg:∀w p b os,hN T30 T31 1200 1224 1851 1906 ⟨1019,0,1033,68⟩ ⟨1077,0,1088,56⟩ 93 4 139 w p b os:=by intro w p b os;kernel_rfl
abbrev Cb:List Stmt:=behindTheImports PG
theorem bA{T T':Ym->BT}{n J t e:Nat}{q K:Pos}{i m st:Nat}{w:ZJ}{p:Program}{b rest:List Stmt}{os:Y2}{N:Nat}{r:XB}(h:hN T T' n J t e q K i m st w p b os)
  (k:topRun ZE p w 11 (W_ (.ref 6)) N ⟨absHeap (T' w.params) J vR,⟨[]⟩,xF,e,os⟩ (restOf rest mN (.body b mN) K [topFrame rG])=W_ r):
  topRun ZE p w 11 (W_ (.ref 6)) (st+1+N) ⟨absHeap (T w.params) n vR,⟨[]⟩,xF,t,os⟩ (restOf (bO i m++rest) mN (.body b mN) q [topFrame rG])=W_ r:=by
 refine piece_app (segRun_of (s:=⟨T w.params,n,vR,⟨[]⟩,xF,t,os⟩) (s':=⟨T' w.params,J,vR,⟨[]⟩,xF,e,os⟩) ?_) k;rw[PySem.W.Fast.te10110043849684766642,PySem.W.Fast.te14364793385576792824];unfold piecesOf;rw[PySem.W.Fast.te12563942051412417395];exact h
abbrev HF (P:Ym):Heap:=absHeap (T31 P) 1224 vR
abbrev SF(w:ZJ)(os:Y2):XB:=⟨HF w.params,⟨[]⟩,xF,1906,os⟩
theorem zP (w:ZJ) (os:Y2):topRun ZE PG w 11 (W_ (.ref 6)) 2 (SF w os) (restOf [] mN (.body Cb mN) ⟨1077,0,1088,56⟩ [topFrame rG])=W_ (SF w os):=by kernel_rfl
theorem I8:Cb=bO 0 3++(bO 3 1++(bO 4 1++(bO 5 4++(bO 9 1++(bO 10 1++(bO 11 1++(bO 12 1++(bO 13 1++(bO 14 2++(bO 16 5++(bO 21 1++(bO 22 1++(bO 23 1++(bO 24 13++(bO 37 10++(bO 47 2++(bO 49 1++(bO 50 1++(bO 51 1++(bO 52 1++(bO 53 8++(bO 61 1++(bO 62 1++(bO 63 1++(bO 64 2++(bO 66 6++(bO 72 1++(bO 73 11++(bO 84 9++(bO 93 4++([]))))))))))))))))))))))))))))))):=by kernel_rfl
theorem MD{N:Nat}{s:XB}{w:ZJ}{c:Code}{q:Pos}{l J:List Stmt}{r:XB}(e:l=J)(k:topRun ZE PG w 11 (W_ (.ref 6)) N s (restOf J mN c q [topFrame rG])=W_ r):topRun ZE PG w 11 (W_ (.ref 6)) N s (restOf l mN c q [topFrame rG])=W_ r:=by subst e;exact k
noncomputable abbrev MF:Nat:=293+1+(262+1+(213+1+(240+1+(253+1+(277+1+(277+1+(244+1+(279+1+(316+1+(153+1+(419+1+(26+1+(322+1+(299+1+(312+1+(65+1+(322+1+(560+1+(32+1+(571+1+(287+1+(277+1+(277+1+(276+1+(308+1+(174+1+(755+1+(309+1+(308+1+(139+1+(2)))))))))))))))))))))))))))))))
theorem zO (w:ZJ) (os:Y2):topRun ZE PG w 11 (W_ (.ref 6)) MF ⟨absHeap (T0 w.params) 15 vR,⟨[]⟩,xF,187,os⟩ (restOf Cb mN (.body Cb mN) rG [topFrame rG])=W_ (SF w os):=
 MD I8 (bA (pc0 w PG _ os) (bA (pc1 w PG _ os) (bA (pc2 w PG _ os) (bA (pc3 w PG _ os) (bA (pc4 w PG _ os) (bA (pc5 w PG _ os) (bA (pc6 w PG _ os) (bA (pc7 w PG _ os) (bA (pc8 w PG _ os) (bA (pc9 w PG _ os) (bA (VA w PG _ os) (bA (Vz w PG _ os) (bA (Vy w PG _ os) (bA (Vx w PG _ os) (bA (Vw w PG _ os) (bA (Vv w PG _ os) (bA (Vu w PG _ os) (bA (Vt w PG _ os) (bA (Vs w PG _ os) (bA (Vr w PG _ os) (bA (Vq w PG _ os) (bA (Vp w PG _ os) (bA (Vo w PG _ os) (bA (Vn w PG _ os) (bA (Vm w PG _ os) (bA (Vl w PG _ os) (bA (Vk w PG _ os) (bA (Vj w PG _ os) (bA (Vi w PG _ os) (bA (Vh w PG _ os) (bA (Vg w PG _ os) (zP w os))))))))))))))))))))))))))))))))
theorem rC (w:ZJ)(os:Y2):segRun ZE PG w 11 (W_ (.ref 6)) 1 1 ⟨absHeap (T0 w.params) 15 vR,⟨[]⟩,xF,187,os⟩ (blockOf Cb mN (.body Cb mN) rG [topFrame rG])=W_ (.next,⟨absHeap (T0 w.params) 15 vR,⟨[]⟩,xF,187,os⟩,.body Cb mN,rG):=by kernel_rfl
theorem zN (w:ZJ)(os:Y2):topGo ZE PG w 11 (W_ (.ref 6)) 12 ⟨boot_heap w.params,⟨[]⟩,boot_drawn,boot_toks,os⟩ (topStub PG)=W_ (⟨absHeap (T0 w.params) 15 vR,⟨[]⟩,xF,187,os⟩,⟨denote ZE (.body Cb mN),.body Cb mN,rG,[topFrame rG]⟩):=by kernel_rfl
theorem zQ (w:ZJ) (os:Y2):topRun ZE PG w 11 (W_ (.ref 6)) (12+(1+MF)) ⟨boot_heap w.params,⟨[]⟩,boot_drawn,boot_toks,os⟩ (topStub PG)=W_ (SF w os):=
 go_top (zN w os) (piece_block (rC w os) (zO w os))
theorem A6:∀w:ZJ,(fencedOpening ZE PG w 20000).map (λs=>(s.heap,s.gens,s.drawn,s.toks))=W_ (boot_heap w.params,Array.mk [],boot_drawn,boot_toks):=
 boot_open (by kernel_rfl) rfl (λs=>by kernel_rfl)
theorem A5 (w:ZJ):((boot_heap w.params).isNs Yj&&(Array.mk ([]:List GenState)).size==0,(boot_heap w.params).objs.size,(boot_heap w.params).nsMap Yj "__annotations__")=(Xg,11,W_ (.ref 6)):=by kernel_rfl
def qv:Program:={PG with main:={PG.main with body:=[gA 96]}}
def lz:List Str:=((DB.map (λW=>W.1)).drop 9).dropLast
theorem lk1 (w:ZJ) (os:Y2):(staticsOk (importedModules PG.main.body) (boot_heap w.params) (HF w.params)&&namesBound PG (HF w.params)&&gensDone (SF w os)&&laidKept (boot_heap w.params) (HF w.params))=Xg:=by kernel_rfl
theorem lk2 (w:ZJ) (os:Y2):PySem.W.Fast.tw4187177175401517315 qv lz (importedModules PG.main.body) (recOk []) Xg (SF w os)=openGood qv lz:=by kernel_rfl
theorem hd:LeftO PG qv lz (recOk []) XB.heap (λw=>HF w.params) 20000:=
 LeftO.of_pieces A6 A5 zQ rfl λw=>funext λos=>Prod.ext (lk1 w os) (Prod.ext (by rw[PySem.W.Fast.te4187177175401517315];exact lk2 w os) rfl)
noncomputable abbrev RW:OpenLaw:=PySem.Challenge.rw_nn0089_01
theorem a1:sreFenced PG.main=Xg:=by rw[Fast.te11788848310118352699];kernel_rfl
theorem a2:((moduleNames PG.main.body).isEmpty||lookedIntoSs (moduleNames PG.main.body) PG.main.body)=Xg:=by rw[Fast.te9807087744658564304];kernel_rfl
theorem a3:namesResolve PG=Xg:=by rw[Fast.te8377067652309620493];kernel_rfl
theorem a4:PG.boundNames.all (λn=>!worldNames.contains n)=Xg:=by rw[Fast.te18344453789297297638,Fast.te14412699480532031325];kernel_rfl
theorem a50:(importedModules PG.main.body).all cThrough.contains=Xg:=by rw[Fast.te5923862056798008813];kernel_rfl
theorem a51:readsOut PG PG.main.body "vars"=Xb:=by rw[Fast.te13343964577679436407];kernel_rfl
theorem a52:readsOut PG PG.main.body "dir"=Xb:=by rw[Fast.te13343964577679436407];kernel_rfl
theorem a53:readsOut PG PG.main.body "locals"=Xb:=by rw[Fast.te13343964577679436407];kernel_rfl
theorem a5:noRoadLSs {strict:=!(importedModules PG.main.body).all cThrough.contains,foot:=Xk,bare:=(["vars","dir","locals"]:List Str).filter (readsOut PG PG.main.body)} PG.main.body=Xg:=by rw[a50,List.filter_cons,a51,List.filter_cons,a52,List.filter_cons,a53,Fast.te8326940854005059898];kernel_rfl
theorem a6:namesMeet PG PG.main.body (λW n=>attrL n)=Xg:=by rw[Zi,Fast.te17868728402115742887];kernel_rfl
theorem a7:PG.boundNames.contains RW.name=Xg:=by rw[Fast.te18344453789297297638];kernel_rfl
theorem b2:RW.footing.all footLine=Xg:=by rw[Fast.te10501279942588096481];kernel_rfl
theorem b3:noClassBlock RW.prog RW.footing=Xg:=by rw[Fast.te8179353310426384613];kernel_rfl
theorem b4:noRoadLSs {strict:=Xg,foot:=W_ RW.bound',writes:=RW.writes,may:=RW.may} RW.footing=Xg:=by rw[Fast.te8326940854005059898,Fast.te797321630700447069];kernel_rfl
theorem b5:defStands RW.about RW.above=Xg:=by rw[Fast.te9558739934217749035];kernel_rfl
theorem b6:RW.namesIt=Xg:=by rw[Fast.te16286561074155671207];kernel_rfl
theorem b8:RW.bound'.all (λn=>!builtinNamed n||RW.about== [n] ||!RW.reads n)=Xg:=by rw[Fast.te797321630700447069,Fast.named_eq,Fast.te6984425678791042302];kernel_rfl
theorem b9:RW.prog.main.body.flatMap importedNames=[]:=by rw[Fast.te12879404354523853263];kernel_rfl
theorem c1:namesMeet RW.prog RW.footing (λsc n=>(!(["type","isinstance","issubclass","getattr","hasattr"]:List Str).contains n||sc.names.lookup n==W_ .globalImplicit)&&
  (RW.may !=W_ n||sc.kind== .module||sc.names.lookup n==W_ .globalImplicit))=Xg:=by rw[Zi];kernel_rfl
theorem c2:RW.own.contains RW.name=Xg:=by rw[Zj];kernel_rfl
theorem c3:(RW.own.eraseDups.length==RW.own.length)=Xg:=by rw[Zj];kernel_rfl
theorem c4:RW.own.all (λn=>!builtinNamed n)=Xg:=by rw[Zj,Fast.named_eq];kernel_rfl
theorem c5:namesMeet RW.prog RW.above (λW n=>!RW.own.contains n)=Xg:=by rw[Zi,Zj];kernel_rfl
theorem c6:namesMeet RW.prog RW.footing (λsc n=>sc.kind== .module||sc.names.lookup n !=W_ .globalExplicit)=Xg:=by rw[Zi];kernel_rfl
noncomputable abbrev Jy:Scope:=PG.main.scope
noncomputable abbrev wC(t:List Str):PySem.TablesWhole.Ctx:=⟨Jy,[],t,[],Xk⟩
theorem K_:Zs PySem.TablesWhole.gather Jy (wC []) Jy PG.main.body=[]:=by rw[Fast.te16421684217811934046];kernel_rfl
abbrev wB (l:List Stmt):=Zs Zd Jy (wC []) Jy l
theorem Fw{a b:List Stmt}(h:wB a=Xg)(e:wB b=Xg):wB (a++b)=Xg:=by induction a with|nil=>exact e|cons s a ih=>exact X3 (XS _ _▸h:_/\_).1 (ih (XS _ _▸h:_/\_).2)
theorem p1:wB (PG.main.body.take 60)=Xg:=by unfold wB;rw[Fast.te16421684217811934046];kernel_rfl
theorem p2:wB (PG.main.body.drop 60)=Xg:=by unfold wB;rw[Fast.te16421684217811934046];kernel_rfl
theorem nt0:PySem.TablesWhole.noTwice Jy=Xg:=by rw[Fast.te8331962902438777018];kernel_rfl
theorem KV{m:Module}(h0:Zs PySem.TablesWhole.gather m.scope ⟨m.scope,[],[],[],Xk⟩ m.scope m.body=[])(h1:PySem.TablesWhole.noTwice m.scope=Xg)(h2:Zs Zd m.scope ⟨m.scope,[],[],[],Xk⟩ m.scope m.body=Xg):ZX Zd m=Xg:=by unfold ZX;rw[h0];exact X3 (a:=Xg) rfl (X3 h1 (X3 h2 rfl))
theorem K9{p:Program}(h:ZX Zd p.main=Xg)(J:p.modules=[])(e2:p.parses=[])(e:p.harvested=[]):p.tablesWhole=Xg:=by unfold Program.tablesWhole PySem.TablesWhole.wProgram;rw[J,e2,e];exact X3 h rfl
theorem tws:PG.tablesWhole=Xg:=K9 (KV K_ nt0 (List.take_append_drop 60 PG.main.body▸Fw p1 p2)) rfl rfl rfl
theorem lo:looksOpen PG=Xg:=X3 (X3 (X3 (X3 (X3 a1 a2) a3) a4) a5) a6
theorem lo':looksOpen RW.row.prog=Xg:=lo
theorem a7':RW.row.prog.boundNames.contains RW.row.name=Xg:=a7
theorem rs:RW.row.wellSaid=Xg:=by unfold OpenRow.wellSaid OpenRow.partSaid;refine X3 (X3 (X3 (X3 (X3 (X3 (X3 (X3 (X3 (X3 (X3 (X3 (X3 (X3 (X3 (lo') ?_) ?_) ?_) ?_) ?_) ?_) ?_) ?_) ?_) ?_) ?_) ?_) ?_) a7') ?_;all_goals kernel_rfl
theorem F3:RW.wellSaid=Xg:=by unfold OpenLaw.wellSaid;rw[b9];refine X3 (X3 (X3 (X3 (X3 (X3 (X3 (X3 (X3 (X3 (X3 (X3 (X3 (X3 (X3 (X3 (X3 (X3 (rs) ?_) b2) b3) ?_) ?_) b4) b5) b6) ?_) b8) ?_) ?_) c1) c2) c3) c4) c5) c6;all_goals kernel_rfl
end
end
end Hd
namespace Internal
noncomputable section
abbrev ax:=List Nat
abbrev WX:=@congrArg
abbrev WY:=@beq_self_eq_true
abbrev WZ:=@if_neg
abbrev W0:=@if_pos
abbrev W2:=@decide_eq_false
abbrev W3:=@of_decide_eq_true
abbrev W4:=@decide_eq_true
abbrev W5:=@absurd
abbrev W6:=@eq_of_beq
abbrev W7:=@of_decide_eq_false
abbrev W8:=@beq_iff_eq
abbrev W9:=@beq_eq_false_iff_ne
section
theorem aH{a b:Bool}(h:(a&&b)):a/\b:=(XS ..).mp h
theorem ll{a b:Nat}(h:XU a b:=by rfl):a<=b:=Xi h
variable{n:Nat}
theorem Sf{i m:Nat}(h:i+(m+1)=n):i+1+m=n:=(YG i 1 m).trans h
theorem Uc{i m:Nat}(h:i+(m+1)=n):i<n:=h▸Nat.lt_add_of_pos_right (Y' m)
theorem up{a m:Nat}(h:a<=m)(e:XU m n):a<=n:=Xa h (Xi e)
theorem upl{a m:Nat}(h:a<=m)(e:XU (m+1) n):a<n:=Xz h (Xi e)
theorem yO{a:Nat}(h:a<=16777216):(a:Int)<2^63:=Int.lt_of_le_of_lt (Yw.mpr h) (by decide)
theorem VN{i:Int}(h:0<=i): -2^63<=i:=Y_ (by decide) h
theorem VC{i:Int}(h:i<4611686018427387904):i<2^63:=Int.lt_trans h (by decide)
theorem tn1:((-1:Int)+((n+1:Nat):Int)).toNat=n:=by rw[Int.natCast_succ,Int.add_comm,Int.add_neg_cancel_right];rfl
theorem tn2 (h:0<n):((-1:Int)+(n:Int)).toNat=n-1:=by cases n with|zero=>exact W5 h (Nat.lt_irrefl 0)|succ n=>exact tn1
theorem ng1 (h:0<n): -(n:Int)<= -1:=Int.neg_le_neg (Yw.mpr h)
variable{d:Nat}
theorem dpm{a j k:Nat}(e:j<=k):d+j+a<=d+(a+k):=by rw[X_,YN j a];exact XF (XF e a) d
theorem dp1 (h:d+3* (n+1)+3<1000):d+1+3*n+3<1000:=Xz (Xw (dpm (by decide:1<=3)) 3) h
theorem dp3{u:Nat}(h:u+20* (n+1)+20<9900):u+3+20*n+20<9900:=Xz (Xw (dpm (by decide:3<=20)) 20) h
theorem dp0{m k:Nat}(h:d+n+m<k):d<k:=Xz (Xa (Xp ..) (Xp ..)) h
theorem dp4{u:Nat}(h:u+20* (n+1)+20<9900):u+1+20*n+20<9900:=Xz (Xw (dpm (by decide:1<=20)) 20) h
theorem ND{n:Int}(h:n.natAbs<1000000000):n<2^62:=Int.lt_of_le_of_lt Int.le_natAbs (Int.lt_trans (YW.mpr h) (by decide))
theorem VU{n:Int}(h:n.natAbs<1000000000): -2^62<=n/\n<2^62:=⟨Int.neg_le_of_neg_le (Int.le_of_lt (ND (n:= -n) (by rw[Int.natAbs_neg];exact h))),ND h⟩
theorem FC{a b k:Nat}(h:a+b<=k)(e:XU (k+1) n):a<n:=upl (Xa (Xp ..) h) e
theorem zF{a b k:Nat}(h:a+(b+1)<=k):a+1+b<=k:=Xa (X4 (YG a 1 b)) h
theorem Js{a b k:Nat}(h:a+(b+1)<=k):a+b<=k:=YQ h
theorem eW{m a b:Nat}(e:XU a b):m+a<=m+b:=XF (Xi e) m
variable{c:Nat}
theorem qI{m a b:Nat}(e:XU (a+c) b):m+a+c<=m+b:=Xa (X4 (X_ ..)) (eW e)
theorem Dp{m a b:Nat}(e:XU (a+c+d) b):m+a+c+d<=m+b:=Xa (X4 (WX (λW=>W+d) (X_ ..))) (qI e)
theorem kI{x k a:Nat}(h:x<=k) (e:XU (k+a) n):x+a<=n:=Xa (Xw h a) (Xi e)
theorem pU{x k a:Nat}(h:x<=k)(e:XU (k+a+c) n):x+a+c<=n:=kI (Xw h a) e
theorem Us{x k a:Nat}(h:x+a<=k) (e:XU k n):x<=n:=Xa (Xp ..) (Xa h (Xi e))
theorem sbl{i:Nat}(h:i<n):n+1- (i+1)<n+1-i:=Nat.sub_lt_sub_left (Nat.lt_succ_of_lt h) (Zv i)
variable{P:Nat->Prop}
theorem iL{k w:Nat}(h:w<k+1)(a:P k)(b:w<k->P w):P w:=(Nat.lt_succ_iff_lt_or_eq.mp h).elim b λe=>e▸a
theorem Tt (h0:P 0)(h1:P 1)(w:Nat)(h:w<2):P w:=iL h h1 λh=>iL h h0 λh=>W5 h (YE _)
theorem nj3 (h0:P 0)(h1:P 1)(h2:P 2)(w:Nat)(h:w<3):P w:=iL h h2 λh=>iL h h1 λh=>iL h h0 λh=>W5 h (YE _)
theorem NB (h0:P 0)(h1:P 1)(h2:P 2)(h3:P 3)(w:Nat)(h:w<4):P w:=iL h h3 λh=>iL h h2 λh=>iL h h1 λh=>iL h h0 λh=>W5 h (YE _)
theorem nj7 (h0:P 0)(h1:P 1)(h2:P 2)(h3:P 3)(h4:P 4)(J:P 5)(e:P 6)(w:Nat)(h:w<7):P w:=iL h e λh=>iL h J λh=>iL h h4 λh=>iL h h3 λh=>iL h h2 λh=>iL h h1 λh=>iL h h0 λh=>W5 h (YE _)
theorem VL (h0:P 0)(h1:P 1)(h2:P 2)(h3:P 3)(h4:P 4)(V:P 5)(U:P 6)(O:P 7)(M:P 8)(K:P 9)(J:P 10)(e:P 11)(w:Nat)(h:w<12):P w:=iL h e λh=>iL h J λh=>iL h K λh=>iL h M λh=>iL h O λh=>iL h U λh=>iL h V λh=>iL h h4 λh=>iL h h3 λh=>iL h h2 λh=>iL h h1 λh=>iL h h0 λh=>W5 h (YE _)
variable{α:Type}{p:Prop}
theorem gG{x:α}(h:Xk=W_ x):p:=nomatch h
theorem ff(h:Xb):p:=Bool.noConfusion h
theorem ft(h:Xg=Xb):p:=Bool.noConfusion h
theorem Tr{x:α}(h:W_ x=Xk):p:=nomatch h
theorem jL{x:Nat}(h:x<c+1):x<=c:=ZZ h
theorem bB{e M N:Nat}(h:e<=M)(g:XU M N):e<=N:=Xa h (Xi g)
theorem rE{e M N:Nat}(h:e<=M)(g:XU (M+1) N):e<N:=Xz h (Xi g)
theorem c7{a b k:Nat}(h:a<=b):k*a<=k*b:=Nat.mul_le_mul_left k h
theorem kg{a b k:Nat}(h:a+(b+1)=k)(g:k<=c):a<=c-1:=Nat.le_sub_one_of_lt (YX (h▸Nat.lt_add_of_pos_right (Y' b)) g)
theorem Gf{a b k:Nat}(h:a+b<=k):a<=k:=Xa (Xp a b) h
theorem Ge{a b k:Nat}(h:a+b<=k):b<=k:=Xa (Zc b a) h
theorem M1{a:Nat}{k:Nat}(h:p/\a<=k):a<=k:=h.2
theorem U_{a:Nat}{k:Nat}(h:a<=k/\p):a<=k:=h.1
variable{r:Nat}
theorem Jw{k:Nat}(h:YM 0 k):r%k<=k-1:=Nat.le_sub_one_of_lt (Nat.mod_lt r (Xi h))
theorem UR{m b:Nat}(e:XU 1 b):m.succ<=m+b:=XF (Xi e) m
theorem UQ{m b:Nat}(e:XU 2 b):m.succ.succ<=m+b:=XF (Xi e) m
theorem rF{k m a b:Nat}(e:XU a b):k* (m+a)<=k* (m+b):=Nat.mul_le_mul_left k (XF (Xi e) m)
theorem U4 (h:r<c)(e:XU c n):((r:Nat):Int).natAbs<n:=YX h (Xi e)
theorem Gd (h:r<=c)(e:XU (c+1) n):((r:Nat):Int).natAbs<n:=Xz h (Xi e)
theorem MQ{a:Nat}(h:r<c) (e:XU (a+c) n):((a:Int)+(r:Int)).natAbs<n:=YX (Nat.add_lt_add_left h a) (Xi e)
theorem MM{a:Int}{m k N:Nat}(h0:0<=a)(h1:a<=(m:Int))(h:m<=k)(e:XU (k+1+c) N):(a+1+(c:Int)).natAbs<=N:=by obtain⟨j,rfl⟩:=Int.eq_ofNat_of_zero_le h0;exact bB (Xw (XH (Xa (Yw.mp h1) h)) c) e
theorem Gg{N:Int}(h:n<=c) (e:decide ((c:Int)<N)):(n:Int)<N:=Int.lt_of_le_of_lt (Yw.mpr h) (W3 e)
theorem MX{N:Int}(h:n<c) (e:decide ((c:Int)<=N)):(n:Int)<N:=Int.lt_of_lt_of_le (YW.mpr h) (W3 e)
theorem U9{N:Int}(h:n<=c) (e:decide ((c:Int)+1<N)):(n:Int)+1<N:=Int.lt_of_le_of_lt (Int.add_le_add_right (Yw.mpr h) 1) (W3 e)
theorem MW{N:Int}(h:n<=c) (e:decide ((c:Int)<=N)):(n:Int)<=N:=Y_ (Yw.mpr h) (W3 e)
theorem MV{N:Int}(h:n<c)(e:decide ((c:Int) -1<=N)):(n:Int)<=N:=by have:=W3 e;omega
theorem zT{a:Int}{m:Nat}(h:a<=(m:Int)):a+1<=((m+1:Nat):Int):=Int.add_le_add_right h 1
theorem U8{a:Int}{m:Nat}(h:a<=(m:Int)):a<=(m:Int)+1:=Y_ h (Int.le_add_one (Int.le_refl _))
theorem zS{a:Int}(h:0<=a):0<=a+1:=Int.le_add_one h
theorem U7{a:Int}(h:0<=a):0<=a+1-1:=by rw[Int.add_sub_cancel];exact h
theorem zU{m k N:Nat}(h:m+k* (n+1)<=N):m+k+k*n<=N:=by rw[X_,YN k];exact h
theorem MZ{m k N:Nat}(h:m+k* (n+1)<=N):m+k<=N:=Xa (Xp ..) (zU h)
theorem ur{m k:Nat}:m+k+k*n<=m+k* (n+1):=zU (Xh _)
theorem uq{m k:Nat}:m+k*n+k<=m+k* (n+1):=X4 (by rw[Nat.mul_succ,X_])
theorem M0{m:Nat}:m+1+1+2*n<=m+2* (n+1):=ur (k:=2)
theorem U2: ¬((n+1:Nat):Int)=0:=λh=>Nat.succ_ne_zero n (Int.ofNat.inj h)
theorem U1(h: ¬1000<n):n<=1000:=Y4.mp h
variable{l:Nat}
theorem Gi{h b:Int}{o N:Nat}(e:h=b+(o:Int))(K:0<=b)(J:0<=h/\h+(l:Int)<=(N:Int)):o+l<=N:=by omega
theorem M4{h b:Int}{o N:Nat}(e:h=b+(o:Int)) (K:0<=b) (J:0<=h/\h+(l:Int)<=(N:Int)):o<=N:=Xa (Xp _ _) (Gi e K J)
theorem UP{a:Nat}(h:a+(n+1)<c):a+1+n<c:=Xz (X4 (YG a 1 n)) h
theorem ML{a:Nat}(h:a+n<c):a<c:=Xz (Xp ..) h
theorem UZ{a b k:Nat}(h:n+a+(b+1)<=k):n+1+a+b<=k:=by rw[YG n,YG _ 1];exact h
theorem UY{a b k:Nat}(h:n+a+(b+1)<=k):n+(a+1)+b<=k:=by rw[<-X_,YG];exact h
theorem UX{a b k:Nat}(h:n+a+b<=k):n<=k:=Gf (Gf h)
theorem Va{N:Nat}:N<=2*N:=Nat.le_mul_of_pos_left N (by decide)
theorem UO{a k b N:Nat}(h:a+k<=N)(e:XU b k):a+b<=N:=Xa (XF (Xi e) a) h
theorem UN{a k b N:Nat}(h:a+k<=N)(e:XU (b+1) k):(a+b).succ<=N:=UO h e
variable{L:Nat}
theorem q_w{m k:Nat}(h:L=n+1):m+k*n+k<=m+k*L:=h▸uq
theorem UM{m k:Nat}(h:L=n+1) (e:XU 1 k):m+k*n+1<=m+k*L:=Xa (XF (Xi e) _) (q_w h)
theorem MS{i:Int}{a b:Nat}(e:XI (a+b) c):i+(a:Int)+(b:Int)=i+(c:Int):=by rw[<-XJ e,ZH];rfl
theorem U3{N:Int}(h:c<=d)(e:decide ((d:Int)<=N)): ¬N<(c:Int):=ZN.mpr (MW h e)
theorem MP{N:Int}(h:p/\c<=d)(e:decide ((d:Int)<=N)): ¬N<(c:Int):=U3 h.2 e
theorem MN{N:Int}(h:d<=c/\p) (e:decide (N<=(d:Int))): ¬(c:Int)<N:=ZN.mpr (Y_ (W3 e) (Yw.mpr h.1))
variable{y:Nat}
theorem UW{x k:Nat}(h:y<=k*n)(g:x<=k):x+y<=k* (n+1):=by rw[Nat.mul_succ,YN];exact Xm h g
theorem UU{x p k:Nat}(h:y<=k*n) (g:x<=p+2) (f:p<=10) (e:XU 12 k):x+y<=k* (n+1):=UW h (Xa g (Xa (Xw f 2) (Xi e)))
theorem UT{x p k:Nat}(h:x<=y+k*n)(g:y<=p+k):x<=p+k* (n+1):=Xa h (Xa (Xw g _) ur)
theorem q_y{a b N:Nat}(h:a+b+c<N):a+c<N:=Xz (Xw (Xp a b) c) h
theorem MK{T S N:Nat}(h:T+(l+1)<=N) (g:S<=T+1):S+l<=N:=Xa (Xw g l) (by rw[YG];exact h)
theorem UL{k m:Nat}(h:L<=k*m) (e:XU c (k*d)):L+c<=k* (m+d):=Xa (Xm h (Xi e)) (X4 (Nat.mul_add ..).symm)
theorem M3{m a b:Nat}(e:XU (a+b+c+d) n):m+a+b+c+d<=m+n:=by rw[X_ m a b];exact Dp e
theorem U6{v k N:Int}(h:v<=k)(e:decide (k<=N)): ¬N<v:=ZN.mpr (Y_ h (W3 e))
theorem MU{a b:Int}{o:Nat}(h:a=b+(o:Int)):a-b=(o:Int):=by rw[h,Int.add_comm,Int.add_sub_cancel]
theorem U0{k:Nat}(h:0<k): ¬(k:Int)=0:=λe=>YF h (Int.ofNat.inj e)
theorem U':((d+1:Nat):Int) -1=(d:Int):=Int.add_sub_cancel (d:Int) 1
theorem US{i:Nat}(h:i=l):l<=i:=X4 h.symm
theorem MY:0<=(n:Int):=XO n
theorem U5{a b N:Nat}(h:a+(b+l)<=N):(a:Int)+(b:Int)<=(N:Int):=Yw.mpr (Xa (XF (Xp b l) a) h)
set_option genCtorIdx false in
inductive V where|none|bool (b:Bool)|int (i:Int)|str (s:ax)|bytes (b:List UInt8)|cst (v:Xj)|ref (a:Addr)|sq (k:Bool)(l:List V)|obj (c:Nat)(fs:List (Nat×V))|cj (l:List (ax×V))
noncomputable def V.ctorIdx (x:V):Nat:=@V.casesOn (λW=>Nat) x 0 (λW=>1) (λW=>2) (λW=>3) (λW=>4) (λW=>5) (λW=>6) (λW W=>7) (λW W=>8) (λW=>9)
abbrev aP:=List V
abbrev bG:=Option V
noncomputable abbrev V.tup(l:aP):V:=.sq Xb l
noncomputable abbrev V.lst(l:aP):V:=.sq Xg l
abbrev Fs:=List (Nat×V)
set_option genCtorIdx false in
inductive MO where|list (l:aP)|bz (l:List (Int×V))|aU (l:List (ax×V))|inst (x:Nat)(c:Nat)(fs:Fs)|sY (c:Nat)|raw (o:Obj)|fc (o:Obj)|jU (L:Option Addr)(tb:Bool)(c:Nat)(fs:Fs)
noncomputable def MO.ctorIdx (x:MO):Nat:=@MO.casesOn (λW=>Nat) x (λW=>0) (λW=>1) (λW=>2) (λW W W=>3) (λW=>4) (λW=>5) (λW=>6) (λW W W W=>7)
abbrev Hp:=List (Addr×MO)
structure St where
 H:Hp
 r:List bG
abbrev di:=Nat×Fs
abbrev bQ:=Addr->Option Obj
def bQ.le(g g':bQ):Prop:=∀a o,g a=W_ o->g' a=W_ o
theorem bQ.le.refl{g:bQ}:g.le g:=λW W e=>e
theorem bQ.le.trans{a b c:bQ}(x:a.le b)(y:b.le c):a.le c:=λW W e=>y _ _ (x _ _ e)
noncomputable def bQ.put(g:bQ)(a:Addr)(o:Obj):bQ:=λx=>if x=a then W_ o else g x
noncomputable def O6:Xj->Bool|.ref _=>Xg|.type _=>Xg|_=>Xb
noncomputable def da:Fs->Nat->bG|[],_=>Xk|(k,v)::l,f=>match XI k f with|true=>W_ v|false=>da l f
noncomputable def ip:Fs->Nat->V->Fs|[],f,w=>[(f,w)]|(k,v)::l,f,w=>match XI k f with|true=>(k,w)::l|false=>(k,v)::ip l f w
noncomputable def fM(f:Nat):ax->Bool|[]=>Xb|a::l=>match XI a f with|true=>Xg|false=>fM f l
theorem ib{a b:Nat}(h:a≠b):XI a b=Xb:=by
 cases q:XI a b
 .rfl
 .exact W5 (XJ q) h
theorem iy{i f:Nat}{w:V}:∀fs:Fs,da (ip fs f w) i=if i=f then W_ w else da fs i:=by
 intro fs;induction fs with|nil=>
  show(match XI f i with|true=>W_ w|false=>Xk)=_;by_cases h:i=f
  .subst h;rw[Nat.beq_refl,W0 rfl]
  .rw[WZ h];have:XI f i=Xb:=ib (Zb h);rw[this];rfl|cons x0 l ih=>
  obtain⟨k,v⟩:=x0;have ih:=ih;show da (match XI k f with|true=>(k,w)::l|false=>(k,v)::ip l f w) i=_;cases q:XI k f
  .show(match XI k i with|true=>W_ v|false=>da (ip l f w) i)=if i=f then W_ w else (match XI k i with|true=>W_ v|false=>da l i);rw[ih];cases J:XI k i
   .rfl
   .have:=XJ J;subst this;have: ¬k=f:=λe=>by rw[e,Nat.beq_refl]at q;exact ft q
    exact(WZ this).symm
  .have:=XJ q;subst this;show(match XI k i with|true=>W_ w|false=>da l i)=if i=k then W_ w else (match XI k i with|true=>W_ v|false=>da l i);by_cases h:i=k
   .subst h;rw[Nat.beq_refl,W0 rfl]
   .have:XI k i=Xb:=ib (Zb h);rw[this,WZ h]
theorem nK{f:Nat}{w:V}:∀fs:Fs,(ip fs f w).length=if(da fs f).isSome then fs.length else fs.length+1:=by
 intro fs;induction fs with
 |nil=>
  exact rfl|cons x0 l ih=>
  obtain⟨k,v⟩:=x0;show List.length (match XI k f with|true=>(k,w)::l|false=>(k,v)::ip l f w)=if(match XI k f with|true=>W_ v|false=>da l f).isSome then _ else _;cases q:XI k f
  .show(ip l f w).length+1=if(da l f).isSome then l.length+1 else l.length+1+1;rw[ih];cases(da l f).isSome<;>rfl
  .rfl
inductive NsD(d:Data)(m:Str->Option Xj):Prop|mk(es ep)(e:d=.dict es ep)(k:StrKeys es)(h:∀name,nsFind es name=m name)
def jA(o:Obj)(m:Str->Option Xj):Prop:=NsD o.data m
theorem jA.at{o:Obj}{m}{h:Heap}{a:Addr}(x:jA o m)(e:h.get? a=W_ o):h.Ns a m:=by obtain⟨es,M,r,K,J⟩:=x;exact⟨o,es,M,e,r,K,J⟩
inductive ac5(h:Heap)(a:Addr)(m:Str->Option Xj):Prop|mk(o)(e:h.get? a=W_ o)(n:jA o m)
theorem qp{m}{h:Heap}{a:Addr}(x:h.Ns a m):ac5 h a m:=by obtain⟨o,es,J,e,r⟩:=x;exact⟨o,e,es,J,r.1,r.2.1,r.2.2⟩
noncomputable def t7(k:Bool):String:=if k then "list" else "tuple"
noncomputable def aF{α:Type}:List α->Nat->Option α|[],_=>Xk|x::_,0=>W_ x|_::l,n+1=>aF l n
noncomputable def cK{α:Type}:List α->Nat->List α|[],_=>[]|_::l,0=>l|x::l,n+1=>x::cK l n
noncomputable def setAt{α:Type}:List α->Nat->α->List α|[],_,_=>[]|_::l,0,y=>y::l|x::l,n+1,y=>x::setAt l n y
noncomputable def cX{α:Type}:List α->Nat->α->List α|l,0,y=>y::l|[],_+1,y=>[y]|x::l,n+1,y=>x::cX l n y
termination_by structural _ n=>n
noncomputable def setC.{v}{α:Type}{β:Sort v}:List α->Nat->α->(List α->β)->β|[],_,_,k=>k []|_::l,0,y,k=>k (y::l)|x::l,n+1,y,k=>setC l n y λl=>k (x::l)
noncomputable def iC.{v}{α:Type}{β:Sort v}:List α->Nat->(List α->β)->β|[],_,k=>k []|_::l,0,k=>k l|x::l,n+1,k=>iC l n λl=>k (x::l)
noncomputable def jW.{v}{α:Type}{β:Sort v}:List α->Nat->α->(List α->β)->β|l,0,y,k=>k (y::l)|[],_+1,y,k=>k [y]|x::l,n+1,y,k=>jW l n y λl=>k (x::l)
termination_by structural _ n=>n
theorem e_.{v}{α:Type}{β:Sort v}{y:α}:∀{l:List α}{n:Nat}{k:List α->β},setC l n y k=k (setAt l n y)|[],_,_=>rfl|_::_,0,_=>rfl|x::l,n+1,k=>e_ (l:=l)
theorem mj.{v}{α:Type}{β:Sort v}:∀{l:List α}{n:Nat}{k:List α->β},iC l n k=k (cK l n)|[],_,_=>rfl|_::_,0,_=>rfl|x::l,n+1,k=>mj (l:=l)
theorem iw.{v}{α:Type}{β:Sort v}{y:α}:∀{l:List α}{n:Nat}{k:List α->β},jW l n y k=k (cX l n y)|_,0,_=>rfl|[],_+1,_=>rfl|x::l,n+1,k=>iw (l:=l)
theorem cM{y:α}{l:List α}{k:List α->Prop}(h:setC l n y k):k (setAt l n y):=e_.mp h
theorem d_{l:List α}{k:List α->Prop}(h:iC l n k):k (cK l n):=mj.mp h
theorem f_{y:α}{l:List α}{k:List α->Prop}(h:jW l n y k):k (cX l n y):=iw.mp h
section
variable{α:Type}
theorem dG{x:α}:∀{l:List α}{p:Nat},aF l p=W_ x->l.Perm (x::cK l p):=by
 intro l;induction l with|nil=>exact λe=>nomatch e|cons y l ih=>intro p e;induction p using XN with|zero=>cases e;exact .refl _|succ n=>exact((ih e).cons y).trans (.swap ..)
theorem ni{x y:α}:∀{l:List α}{p:Nat},aF l p=W_ x->(setAt l p y).Perm (y::cK l p):=by
 intro l;induction l with|nil=>exact λe=>nomatch e|cons z l ih=>intro p e;induction p using XN with|zero=>exact .refl _|succ n=>exact((ih e).cons z).trans (.swap ..)
theorem dF{y:α}:∀{l:List α}{p:Nat},(cX l p y).Perm (y::l)|[],0=>.refl _|_::_,0=>.refl _|[],_+1=>.refl _|z::l,n+1=>((dF (l:=l)).cons z).trans (.swap ..)
theorem bf:∀(l:List α)(i:Nat),aF l i=l[i]?|[],_=>rfl|_::_,0=>rfl|_::l,n+1=>by rw[List.getElem?_cons_succ];exact bf l n
def fK (H:Hp)(p:Nat)(a:Addr)(k:MO->Prop):Prop:=match aF H p with|some (a',m)=>a'=a/\k m|none=>False
inductive MoP (H:Hp)(p:Nat)(a:Addr)(k:MO->Prop):Prop|mk (m)(e:aF H p=W_ (a,m))(h:k m)
variable{H:Hp}
theorem fK.to{p:Nat}{a:Addr}{k:MO->Prop}(h:fK H p a k):MoP H p a k:=by
 unfold fK at h;generalize e:aF H p=J;induction J with|none=>rw[e]at h;exact h.elim|some x=>obtain⟨K,m⟩:=x;rw[e]at h;obtain⟨rfl,h⟩:=h;exact⟨m,e,h⟩
theorem fK.of{p:Nat}{a:Addr}{m:MO}{k:MO->Prop}(e:aF H p=W_ (a,m))(h:k m):fK H p a k:=by unfold fK;rw[e];exact⟨rfl,h⟩
def Dj(k:aP->Prop)(m:MO):Prop:=match m with|.list l=>k l|_=>False
def Tp (k:List (ax×V)->Prop)(m:MO):Prop:=match m with|.aU l=>k l|_=>False
def TH (k:List (Int×V)->Prop)(m:MO):Prop:=match m with|.bz l=>k l|_=>False
def HA(k:Nat->Fs->Prop)(m:MO):Prop:=match m with|.inst _ c fs=>k c fs|_=>False
inductive AtM{α:Type}(f:α->MO)(H:Hp)(p:Nat)(a:Addr)(k:α->Prop):Prop|mk (l:_)(e:aF H p=W_ (a,f l))(h:k l)
inductive InA (H:Hp)(p:Nat)(a:Addr)(k:Nat->Fs->Prop):Prop|mk (b c fs:_)(e:aF H p=W_ (a,.inst b c fs))(h:k c fs)
theorem Dj.to{p:Nat}{a:Addr}{k:aP->Prop}(h:fK H p a (Dj k)):AtM .list H p a k:=by obtain⟨m,e,h⟩:=h.to;cases m<;>first|exact⟨_,e,h⟩|exact h.elim
theorem Tp.to{p:Nat}{a:Addr}{k:List (ax×V)->Prop}(h:fK H p a (Tp k)):AtM .aU H p a k:=by obtain⟨m,e,h⟩:=h.to;cases m<;>first|exact⟨_,e,h⟩|exact h.elim
theorem TH.to{p:Nat}{a:Addr}{k:List (Int×V)->Prop}(h:fK H p a (TH k)):AtM .bz H p a k:=by obtain⟨m,e,h⟩:=h.to;cases m<;>first|exact⟨_,e,h⟩|exact h.elim
theorem HA.to{p:Nat}{a:Addr}{k:Nat->Fs->Prop}(h:fK H p a (HA k)):InA H p a k:=by obtain⟨m,e,h⟩:=h.to;cases m<;>first|exact⟨_,_,_,e,h⟩|exact h.elim
def ck{α:Type}(o:Option α)(k:α->Prop):Prop:=match o with|some v=>k v|none=>False
inductive Sw{α:Type}(o:Option α)(k:α->Prop):Prop|mk(v)(e:o=W_ v)(h:k v)
theorem ck.to{o:Option α}{k:α->Prop}(h:ck o k):Sw o k:=by induction o with|none=>exact h.elim|some v=>exact⟨v,rfl,h⟩
def jf{α:Type}(k:α->Prop)(l:List α):Prop:=match l with|[v]=>k v|_=>False
inductive ac3{α:Type}(k:α->Prop)(l:List α):Prop|mk(v)(e:l=[v])(h:k v)
theorem jf.to{k:α->Prop}{l:List α}(h:jf k l):ac3 k l:=by induction l using Xn with|nil=>exact h.elim|cons v l=>induction l using Xn with|nil=>exact⟨v,rfl,h⟩|cons=>exact h.elim
def ow(b:Bool)(p:Prop):Prop:=match b with|true=>p|false=>False
theorem ow.of{b:Bool}(e:b)(h:p):ow b p:=e▸h
theorem ow.to{b:Bool}(h:ow b p):b/\p:=by induction b with|true=>exact⟨rfl,h⟩|false=>exact h.elim
theorem r3{y:α}:∀(l:List α)(i j:Nat),aF (setAt l i y) j=if i=j then(aF l i).map λW=>y else aF l j:=by
 intro l;induction l with|nil=>exact λi j=>(ite_self _).symm|cons x l ih=>
  intro i j;induction i using XN with
  |zero=>induction j using XN with|zero=>rfl|succ=>rfl
  |succ i=>induction j using XN with
   |zero=>rfl|succ j=>
  show aF (setAt l i y) j=_;rw[ih i j];by_cases h:i=j
  .rw[W0 h,W0 (WX (λW=>W+1) h)];rfl
  .rw[WZ h,WZ λq=>h (Yg q)];rfl
theorem oH{y z:α}{l:List α}{i j:Nat}(e:aF (setAt l i y) j=W_ z):(i=j/\z=y) \/ (i≠j/\aF l j=W_ z):=by
 rw[r3]at e;by_cases q:i=j
 .rw[W0 q]at e;obtain⟨_,_,e⟩:=X6.mp e;exact .inl ⟨q,e.symm⟩
 .rw[WZ q]at e;exact .inr ⟨q,e⟩
end
set_option genCtorIdx false in
inductive Role where|jZ|g|mo|pF(a:Addr)
noncomputable def Role.ctorIdx (x:Role):Nat:=@Role.casesOn (λW=>Nat) x 0 1 2 (λW=>3)
theorem qY{a b:Addr}(h:Role.pF a=.pF b):a=b:=by cases h;rfl
theorem mem_keys{T:Hp}{x:Addr×MO}{a:Addr}(h:x∈T)(e:x.1=a):a∈T.map (λW=>W.1):=e▸Zx h
structure cc where
 prog:Program
 w:ZJ
 K:Frag
 an:Nat->Str
 cA:Nat->Addr
 pq:Nat->ax
 mt:Nat->Nat->Option Nat
 fa:Nat->Addr
 os:Y2
noncomputable abbrev cc.M(G:cc):Model:=model G.prog G.w
section
variable (G:cc)
inductive VR (g:bQ):V->Xj->Prop|none:VR g .none .none|bool (b):VR g (.bool b) (.bool b)|int (i t):VR g (.int i) (.int i t)|str (s t) (hz:s.length<=16777216):VR g (.str s) (.str ⟨s.toArray⟩ t)|bytes (s t):VR g (.bytes s) (.bytes s.toArray t)|cst (v) (h:O6 v):VR g (.cst v) v|ref (a):VR g (.ref a) (.ref a)|sq (k l vs a n:_) (h:g a=W_ ⟨.type (t7 k),Xk,.seq (YL vs) n,#[]⟩) (hz:l.length<=16777216) (hl:l.length=vs.length) (r:∀(i:Nat) (x:V) (v:Xj),l[i]?=W_ x->vs[i]?=W_ v->VR g x v):VR g (.sq k l) (.ref a)|obj (c fs a dx sl od m:_) (vf:Nat->Xj) (h:g a=W_ ⟨.ref (G.cA c),W_ dx,.plain,sl⟩) (h':g dx=W_ od) (hm:jA od m) (h0:∀i,i<128->da fs i=Xk->m (G.an i)=Xk)
   (h1:∀i w,i<128->da fs i=W_ w->m (G.an i)=W_ (vf i)) (h2:∀i w,i<128->da fs i=W_ w->VR g w (vf i)):VR g (.obj c fs) (.ref a)|cj (l a o kvs:_) (h:g a=W_ o) (hd:o.IsDictOf (YC G.prog G.w) kvs) (ns:(a==Yu)=Xb) (hk:kvs.map (λW=>W.1)=l.map (λ(x:ax×V)=>(⟨x.1.toArray⟩:Str))) (hl:(l.map (λW=>W.2)).length=(kvs.map (λW=>W.2)).length) (r:∀(i:Nat) (x:V) (v:Xj),(l.map (λW=>W.2))[i]?=W_ x->(kvs.map (λW=>W.2))[i]?=W_ v->VR g x v):VR g (.cj l) (.ref a)
structure cF(g:bQ)(l:aP)(vs:List Xj):Prop where
 len:l.length=vs.length
 at_:∀(i:Nat)(x:V)(v:Xj),l[i]?=W_ x->vs[i]?=W_ v->VR G g x v
inductive JP(o:Obj)(k:Nat):Prop|mk(es ep)(e:o.data=.dict es ep)(h:es.size<=k)
inductive pM (g:bQ)(fs:Fs)(od:Obj):Prop|mk (m)(vf:Nat->Xj)(n:jA od m)(z:JP od fs.length)(h0:∀i,i<128->da fs i=Xk->m (G.an i)=Xk)(h1:∀i w,i<128->da fs i=W_ w->m (G.an i)=W_ (vf i)/\VR G g w (vf i))
structure KR (g:bQ){α β:Type}(φ:α->β) (l:List (α×V)) (kvs:List (β×Xj)):Prop where
 ke:kvs.map (λW=>W.1)=l.map (λ(x:α×V)=>φ x.1)
 va:cF G g (l.map (λW=>W.2)) (kvs.map (λW=>W.2))
noncomputable def dT(t:Addr):Data:=.fields #[.ref t,.none,.none,.none,.bool Xb,.none]
inductive j4 (g:bQ)(h:Heap)(role:Addr->Role)(a:Addr)(c:Nat)(fs:Fs)(D:Data->Prop):Prop|mk (dx sl od dt)(e:h.get? a=W_ ⟨.ref (G.cA c),W_ dx,dt,sl⟩)(d:D dt)(r:role dx=.pF a)(e':h.get? dx=W_ od)(f:pM G g fs od)
inductive Trc (h:Heap)(role:Addr->Role)(e:Addr)(L:Option Addr)(ws:Array Xj):Prop|mk (t:Addr)(oT:Obj)(ts:Array Xj)(w1:ws[1]?=W_ (.ref t))(w2:role t=.pF e)(w3:h.get? t=W_ oT)(w4:oT.data=.fields ts)(w5:ts[3]?=W_ .none\/ ∃l,L=W_ l/\ts[3]?=W_ (rawInt l))
inductive LsR (g:bQ)(h:Heap)(a:Addr)(l:aP):Prop|mk (vs n:_)(e:h.get? a=W_ ⟨.type "list",Xk,.seq (YL vs) n,#[]⟩)(z:l.length<=16777216)(r:cF G g l vs)
inductive IdR (g:bQ)(h:Heap)(a:Addr)(l:List (Int×V)):Prop|mk (kvs)(e:h.DictOf (intKind G.prog G.w) a kvs)(r:KR G g id l kvs)
inductive SdR (g:bQ)(h:Heap)(a:Addr)(l:List (ax×V)):Prop|mk (kvs)(e:h.DictOf (YC G.prog G.w) a kvs)(r:KR G g (λk=>(⟨k.toArray⟩:Str)) l kvs)
def MR (g:bQ)(h:Heap)(role:Addr->Role)(a:Addr):MO->Prop
 |.list l=>LsR G g h a l|.bz l=>IdR G g h a l|.aU l=>SdR G g h a l|.inst x c fs=>j4 G g h role a c fs λdt=>match x with|0=>dt=.plain|1=>∃t,dt=dT t|_=>∃ws,dt=.fields ws
 |.sY c=>∃t sl,h.get? a=W_ ⟨.ref (G.cA c),Xk,dT t,sl⟩|.raw o=>h.get? a=W_ o|.fc o=>∃sl,h.get? a=W_ {o with slots:=sl}|.jU L tb c fs=>j4 G g h role a c fs λdt=>∃ws:Array Xj,dt=.fields ws/\((tb=Xb/\ws[1]?=W_ .none) \/
   Trc h role a L ws)
structure RH (role:Addr->Role)(g:bQ)(T:Hp)(s:XB):Prop where
 gens:s.gens= #[]
 os:s.os=G.os
 kb:∀a o,G.K.lookup a=W_ o->g a=W_ o
 gk:∀a o,g a=W_ o->s.heap.get? a=W_ o/\role a=.g
 hk:∀x∈T,role x.1=.mo/\MR G g s.heap role x.1 x.2
 nd:(T.map (λW=>W.1)).Nodup
 sz:∀a,role a≠.jZ-> ∃o,s.heap.get? a=W_ o
end
section
variable{G:cc}{role role':Addr->Role}{g g':bQ}{T T':Hp}{s s':XB}{v:Xj}
theorem VR.mono (k:g.le g'){x:V}(r:VR G g x v):VR G g' x v:=by induction r with|none=>exact .none|bool b=>exact .bool b|int i t=>exact .int i t|str s t e=>exact .str s t e|bytes s t=>exact .bytes s t|cst v h=>exact .cst v h|ref a=>exact .ref a|sq M l vs a n h e J r ih=>exact .sq M l vs a n (k _ _ h) e J ih|obj c fs a dx K od m vf h h' O h0 h1 h2 ih=>exact .obj c fs a dx K od m vf (k _ _ h) (k _ _ h') O h0 h1 ih|cj l a o kvs h hd ns hk J r ih=>exact .cj l a o kvs (k _ _ h) hd ns hk J ih
theorem VR.int_inv{i:Int}{x:Xj}(h:VR G g (.int i) x):∃t,x=.int i t:=by cases h;exact⟨_,rfl⟩
inductive acY(l:ax)(x:Xj):Prop|mk(t)(h0:x=.str ⟨l.toArray⟩ t)(h1:l.length<=16777216)
theorem VR.str_inv{l:ax}{x:Xj}(h:VR G g (.str l) x):acY l x:=by cases h;exact⟨_,rfl,‹_›⟩
theorem VR.g7{l:List UInt8}{x:Xj}(h:VR G g (.bytes l) x):∃t,x=.bytes l.toArray t:=by cases h;exact⟨_,rfl⟩
theorem VR.dZ{a:Addr}{x:Xj}(h:VR G g (.ref a) x):x=.ref a:=by cases h;rfl
theorem VR.bool_inv{b:Bool}{x:Xj}(h:VR G g (.bool b) x):x=.bool b:=by cases h;rfl
theorem VR.none_inv{x:Xj}(h:VR G g .none x):x=.none:=by cases h;rfl
theorem VR.jz{x:Xj}(h:VR G g (.cst v) x):x=v:=by cases h;rfl
inductive Sr (G:cc)(g:bQ)(l:List (ax×V))(x:Xj):Prop|mk (a o kvs)(h0:x=.ref a)(h1:g a=W_ o)(h2:o.IsDictOf (YC G.prog G.w) kvs)(h3:(a==Yu)=Xb)(h4:KR G g (λk=>(⟨k.toArray⟩:Str)) l kvs)
theorem VR.m6{l:List (ax×V)}{x:Xj}(h:VR G g (.cj l) x):Sr G g l x:=by cases h with|cj _ a o kvs h hd ns hk e r=>exact⟨a,o,kvs,rfl,h,hd,ns,hk,e,r⟩
variable{vs:List Xj}
theorem cF.mono(k:g.le g'){l:aP}(r:cF G g l vs):cF G g' l vs:=⟨r.1,λi x v a b=>(r.2 i x v a b).mono k⟩
theorem KR.mono{β:Type}{φ:α->β}{l:List (α×V)}{kvs:List (β×Xj)}(k:g.le g')(r:KR G g φ l kvs):KR G g' φ l kvs:=⟨r.1,r.2.mono k⟩
theorem pM.mono{fs:Fs}{od:Obj}(k:g.le g')(r:pM G g fs od):pM G g' fs od:=by induction r with|mk m vf a z b c=>exact⟨m,vf,a,z,b,λi w h e=>⟨(c i w h e).1,(c i w h e).2.mono k⟩⟩
theorem cF.nil:cF G g [] []:=⟨rfl,λW W W e=>nomatch e⟩
theorem cF.cons{x:V}{l:aP}(h:VR G g x v) (r:cF G g l vs):cF G g (x::l) (v::vs):=
 ⟨WX (λW=>W+1) r.1,λi y w a b=>by induction i using XN with|zero=>cases a;cases b;exact h|succ i=>exact r.2 i y w a b⟩
inductive acz(G:cc)(g:bQ)(vs:List Xj)(i:Nat)(x:V):Prop|mk(v:_)(h0:vs[i]?=W_ v)(h1:VR G g x v)
theorem cF.get{l:aP}(r:cF G g l vs){i:Nat}{x:V}(e:l[i]?=W_ x):acz G g vs i x:=by have h:=(XK.mp e).1;rw[r.1]at h;exact⟨_,XD h,r.2 i x _ e (XD h)⟩
theorem DictOf.at{κ:Type}[DecidableEq κ] {knd:PySem.KeyKind G.prog G.w κ}{h h':Heap}{a:Addr}{kvs:List (κ×Xj)}(x:h.DictOf knd a kvs)(k:∀o,h.get? a=W_ o->h'.get? a=W_ o):h'.DictOf knd a kvs:=
 by obtain⟨o,es,e,h1,r⟩:=x;exact⟨o,es,e,k _ h1,r⟩
variable{mo:MO}
theorem MR.keep{h h':Heap}{a:Addr}(R:MR G g h role a mo)(M:g.le g')(J:∀o,h.get? a=W_ o->h'.get? a=W_ o)
  (O:∀dx o,role dx=.pF a->h.get? dx=W_ o->h'.get? dx=W_ o/\role' dx=.pF a):MR G g' h' role' a mo:=by
 have I:∀{c fs}{D D':Data->Prop},j4 G g h role a c fs D->(∀dt,D dt->D' dt)->j4 G g' h' role' a c fs D':=λz k=>by induction z with|mk dx K od dt e1 e2 e3 e4 e5=>exact⟨dx,K,od,dt,J _ e1,k _ e2,(O _ _ e3 e4).2,(O _ _ e3 e4).1,e5.mono M⟩
 induction mo with|list l=>obtain⟨vs,n,h1,V,h2⟩:=R;exact⟨vs,n,J _ h1,V,h2.mono M⟩|bz l=>obtain⟨kvs,h1,h2⟩:=R;exact⟨kvs,DictOf.at h1 J,h2.mono M⟩|aU l=>obtain⟨kvs,h1,h2⟩:=R;exact⟨kvs,DictOf.at h1 J,h2.mono M⟩|inst x c fs=>exact I R λW x=>x|sY c=>obtain⟨t,K,e⟩:=R;exact⟨t,K,J _ e⟩|raw o=>exact J _ R|fc o=>obtain⟨K,h1⟩:=R;exact⟨K,J _ h1⟩|jU L tb c fs=>
  exact I R λdt z=>by obtain⟨ws,a1,a3⟩:=z;refine⟨ws,a1,a3.imp id λz=>?_⟩;obtain⟨t,U,ts,b1,b2,b3,b4,b5⟩:=z;exact⟨t,U,ts,b1,(O _ _ b2 b3).2,(O _ _ b2 b3).1,b4,b5⟩
theorem RH.perm (R:RH G role g T s)(p:T.Perm T'):RH G role g T' s:=
 ⟨R.gens,R.os,R.kb,R.gk,λx m=>R.hk x (p.mem_iff.mpr m),(p.map _).nodup_iff.mp R.nd,R.sz⟩
theorem RH.drop{T₀:Hp}(R:RH G role g (T₀++T) s):RH G role g T s:=
 ⟨R.gens,R.os,R.kb,R.gk,λx m=>R.hk x (Xx _ m),by have:=R.nd;rw[XQ]at this;exact(List.nodup_append.mp this).2.1,R.sz⟩
theorem RH.keep (R:RH G role g T s)(K:s'.gens=s.gens)(J:s'.os=s.os)
  (k:∀b o,role b≠.jZ->s.heap.get? b=W_ o->s'.heap.get? b=W_ o):RH G role g T s' where
 gens:=K.trans R.gens
 os:=J.trans R.os
 kb:=R.kb
 gk a o e:=have⟨x,y⟩:=R.gk a o e;⟨k a o (by rw[y];exact Role.noConfusion) x,y⟩
 hk x m:=have⟨y,z⟩:=R.hk x m;⟨y,z.keep .refl (λo q=>k _ o (by rw[y];exact Role.noConfusion) q) λdx o q r=>⟨k dx o (by rw[q];exact Role.noConfusion) r,q⟩⟩
 nd:=R.nd
 sz a e:=have⟨o,z⟩:=R.sz a e;⟨o,k _ _ e z⟩
noncomputable def gu(role:Addr->Role)(a:Addr)(r:Role):Addr->Role:=λx=>if x=a then r else role x
theorem aZ{a x:Addr}{r:Role}(h:x≠a):gu role a r x=role x:=WZ h
theorem bS{a:Addr}{r:Role}:gu role a r a=r:=W0 rfl
theorem RH.fresh (R:RH G role g T s):role s.heap.objs.size=.jZ:=by
 generalize q:role s.heap.objs.size=e;induction e with|jZ=>rfl|_=>obtain⟨o,z⟩:=R.sz _ (by rw[q];exact Role.noConfusion);exact W5 (Yb z) (Nat.lt_irrefl _)
theorem RH.ne (R:RH G role g T s){a:Addr}{r:Role}(h:role a=r)(J:r≠.jZ):a≠s.heap.objs.size:=λe=>J (h.symm.trans (e▸R.fresh))
theorem RH.mod{a:Addr}{mo':MO}(R:RH G role g ((a,mo)::T) s) (O:s'.gens=s.gens) (M:s'.os=s.os)
  (k:∀b o,b≠a->role b≠.pF a->s.heap.get? b=W_ o->s'.heap.get? b=W_ o) (J:∀b,role b≠.jZ->role' b=role b) (K:∀b,role' b≠.jZ-> ∃o,s'.heap.get? b=W_ o) (m:MR G g s'.heap role' a mo'):RH G role' g ((a,mo')::T) s' where
 gens:=O.trans R.gens
 os:=M.trans R.os
 kb:=R.kb
 gk b o e:=have⟨x,y⟩:=R.gk b o e
  ⟨k b o (λe=>by rw[e,(R.hk _ (.head _)).1]at y;cases y) (by rw[y];exact Role.noConfusion) x,(J b (by rw[y];exact Role.noConfusion)).trans y⟩
 hk x h:=by
  rcases Xv.mp h with rfl|h
  .exact⟨(J _ (by rw[(R.hk _ (.head _)).1];exact Role.noConfusion)).trans (R.hk _ (.head _)).1,m⟩
  .have⟨y,z⟩:=R.hk x (.tail _ h);have ne:x.1≠a:=λe=>(X5.mp R.nd).1 (mem_keys h e);refine⟨(J _ (by rw[y];exact Role.noConfusion)).trans y,z.keep .refl (λo q=>k _ o ne (by rw[y];exact Role.noConfusion) q) λdx o q r=>⟨k dx o (λe=>?_) (by rw[q];exact λe=>ne (qY e)) r,(J _ (by rw[q];exact Role.noConfusion)).trans q⟩⟩;rw[e,(R.hk _ (.head _)).1]at q;cases q
 nd:=R.nd
 sz:=K
theorem RH.grow (R:RH G role g T s)(U:s'.gens=s.gens)(O:s'.os=s.os)
  (k:∀b o,s.heap.get? b=W_ o->s'.heap.get? b=W_ o)(J:∀b,role b≠.jZ->role' b=role b)(M:∀b,role' b≠.jZ-> ∃o,s'.heap.get? b=W_ o)(K:g.le g')
  (gk:∀b o,g' b=W_ o->g b=W_ o\/ (s'.heap.get? b=W_ o/\role' b=.g)):RH G role' g' T s' where
 gens:=U.trans R.gens
 os:=O.trans R.os
 kb a o e:=K _ _ (R.kb a o e)
 gk b o e:=(gk b o e).elim (λe=>have⟨x,y⟩:=R.gk b o e;⟨k _ _ x,(J b (by rw[y];exact Role.noConfusion)).trans y⟩) id
 hk x h:=have⟨y,z⟩:=R.hk x h
  ⟨(J _ (by rw[y];exact Role.noConfusion)).trans y,z.keep K (λo q=>k _ o q) λdx o q r=>⟨k _ _ r,(J _ (by rw[q];exact Role.noConfusion)).trans q⟩⟩
 nd:=R.nd
 sz:=M
theorem bQ.jQ{a:Addr}{o:Obj}(h:g a=Xk):g.le (g.put a o):=λb o' e=>by show(if _ then _ else _)=_;rw[WZ];exact e;rintro rfl;rw[h]at e;exact gG e
theorem RH.Nw (R:RH G role g T s){a:Addr}{r:Role}(h:role a=r)(J:r≠.g):g a=Xk:=by generalize q:g a=e;induction e with|none=>rfl|some mo=>exact W5 (h.symm.trans (R.gk a mo q).2) J
theorem fH{b:Addr}{a:Addr}{o o':Obj}(e:g.put a o b=W_ o'):g b=W_ o'\/ (b=a/\o=o'):=by
 by_cases q:b=a
 .exact .inr ⟨q,XG ((W0 q).symm.trans e)⟩
 .exact .inl ((WZ q).symm.trans e)
theorem RH.m_ (R:RH G role g T s){o:Obj}(K:o.isFreed=Xb):RH G (gu role s.heap.objs.size .g) (g.put s.heap.objs.size o) T {s with heap:=s.heap.push o} /\g.le (g.put s.heap.objs.size o)/\(g.put s.heap.objs.size o) s.heap.objs.size=W_ o:=by
 have J:=bQ.jQ (o:=o) (R.Nw R.fresh Role.noConfusion);refine⟨R.grow rfl rfl (λb o' e=>XA _ e) (λb h=>aZ (R.ne rfl h)) (λb h=>?_) J (λb o' e=>(fH e).imp id ?_),J,W0 rfl⟩
 .by_cases q:b=s.heap.objs.size
  .rw[q];exact⟨o,X0 _ K⟩
  .obtain⟨o',z⟩:=R.sz b λz=>h ((aZ q).trans z);exact⟨o',XA _ z⟩
 .rintro ⟨rfl,rfl⟩;exact⟨X0 _ K,bS⟩
theorem RH.own (R:RH G role g T s){a:Addr}(h:role a=.jZ) (J:∃o,s.heap.get? a=W_ o) (m:MR G g s.heap (gu role a .mo) a mo):RH G (gu role a .mo) g ((a,mo)::T) s:=by
 have ne:∀b,role b≠.jZ->b≠a:=λb q e=>q (e▸h);have R':=R.grow (s':=s) (role':=gu role a .mo) (g':=g) rfl rfl (λW W e=>e) (λb q=>aZ (ne b q)) (λb q=>?_) .refl λW W e=>.inl e
 .refine⟨R'.gens,R'.os,R'.kb,R'.gk,λx q=>?_,X5.mpr ⟨λq=>?_,R'.nd⟩,R'.sz⟩
  .rcases Xv.mp q with rfl|q
   .exact⟨bS,m⟩
   .exact R'.hk x q
  .obtain⟨x,q,e⟩:=Yi.mp q;have e:x.1=a:=e;rw[<-e,(R.hk x q).1]at h;cases h
 .by_cases z:b=a
  .rw[z];exact J
  .exact R.sz b λy=>q ((aZ z).trans y)
theorem RH.kM (R:RH G role g T s) {o:Obj}(K:o.isFreed=Xb)(J:∀role,MR G g (s.heap.push o) role s.heap.objs.size mo):
  RH G (gu role s.heap.objs.size .mo) g ((s.heap.objs.size,mo)::T) {s with heap:=s.heap.push o}:=
 (R.keep (s':={s with heap:=s.heap.push o}) rfl rfl λb o' W e=>XA _ e).own R.fresh ⟨o,X0 _ K⟩ (J _)
inductive adt(G:cc)(g:bQ)(T:Hp)(s:XB)(a:Addr)(o:Obj):Prop|mk(role':Addr->Role)(g':bQ)(h0:g.le g')(h1:RH G role' g' T s)(h2:g' a=W_ o)
theorem RH.mf{a:Addr}{o:Obj}(R:RH G role g ((a,mo)::T) s) (h1:s.heap.get? a=W_ o):adt G g T s a o:=by
 have J:=(R.hk _ (.head _)).1;have K:=bQ.jQ (o:=o) (R.Nw J Role.noConfusion);have Rd:=R.drop (T₀:=[_]);have nd:∀x∈T,x.1≠a:=λx m e=>(X5.mp R.nd).1 (mem_keys m e);refine⟨gu role a .g,_,K,⟨R.gens,R.os,λb o e=>K _ _ (R.kb b o e),λb o' e=>?_,λx m=>?_,Rd.nd,λb q=>?_⟩,W0 rfl⟩
 .rcases fH e with e|⟨rfl,rfl⟩
  .have⟨x,y⟩:=R.gk b o' e;exact⟨x,(aZ (λe=>by rw[e,J]at y;cases y)).trans y⟩
  .exact⟨h1,bS⟩
 .have⟨y,z⟩:=Rd.hk x m;exact⟨(aZ (nd x m)).trans y,z.keep K (λW e=>e) λdx o q e=>⟨e,(aZ (λe=>by rw[e,J]at q;cases q)).trans q⟩⟩
 .by_cases z:b=a
  .exact R.sz b (by rw[z,J];exact Role.noConfusion)
  .exact R.sz b λy=>q ((aZ z).trans y)
inductive yz (G:cc)(g:bQ)(T:Hp)(s:XB)(v:V)(a:Addr):Prop|mk (role':Addr->Role)(g':bQ)(k:g.le g')(R:RH G role' g' T s)(h:VR G g' v (.ref a))
theorem RH.mg{a:Addr}{l:aP}(R:RH G role g ((a,.list l)::T) s):yz G g T s (.lst l) a:=by obtain⟨vs,n,h1,J,h2⟩:=(R.hk _ (.head _)).2;obtain⟨role',g',k,R',e⟩:=R.mf h1;exact⟨role',g',k,R',.sq Xg _ _ _ _ e J h2.1 λi x v e K=>(h2.2 i x v e K).mono k⟩
theorem RH.Bc{a:Addr}{l:List (ax×V)}(R:RH G role g ((a,.aU l)::T) s)(ns:(a==Yu)=Xb):yz G g T s (.cj l) a:=by obtain⟨kvs,h1,h2⟩:=(R.hk _ (.head _)).2;obtain⟨o,h3,h4⟩:=Heap.dictOf_iff.mp h1;obtain⟨role',g',k,R',e⟩:=R.mf h3;exact⟨role',g',k,R',.cj _ _ _ kvs e h4 ns h2.1 h2.2.1 λi x v e J=>(h2.2.2 i x v e J).mono k⟩
theorem RH.qR{a:Addr}{fs:Fs}(R:RH G role g ((a,.inst 0 c fs)::T) s):yz G g T s (.obj c fs) a:=by
 obtain⟨K,dx,Y,od,dt,h1,rfl,J,h2,m,vf,h3,-,h4,Z⟩:=R.hk _ (.head _);have na:g a=Xk:=R.Nw K Role.noConfusion;have U:=bQ.jQ (o:=od) (R.Nw J Role.noConfusion);have ne:a≠dx:=by rintro rfl;rw[K]at J;cases J
 have O:=U.trans (bQ.jQ (a:=a) (o:=⟨.ref (G.cA c),W_ dx,.plain,Y⟩) (by unfold bQ.put;rw[WZ ne];exact na));have Rd:=R.drop (T₀:=[_]);have nd:∀x∈T,x.1≠a:=λx m e=>(X5.mp R.nd).1 (mem_keys m e);have M:∀b,b≠a->b≠dx->gu (gu role dx .g) a .g b=role b:=λb p q=>(aZ p).trans (aZ q);refine⟨gu (gu role dx .g) a .g,_,O,⟨R.gens,R.os,λb o e=>O _ _ (R.kb b o e),λb o e=>?_,λx m=>?_,Rd.nd,λb q=>?_⟩,
  .obj _ _ _ dx Y od m vf (W0 rfl) (by unfold bQ.put;rw[WZ ne.symm,W0 rfl]) h3 h4 (λi w h e=>(Z i w h e).1) λi w h e=>(Z i w h e).2.mono O⟩
 .rcases fH e with e|⟨rfl,rfl⟩
  .rcases fH e with e|⟨rfl,rfl⟩
   .have⟨x,y⟩:=R.gk b o e;exact⟨x,(M b (λe=>by rw[e,K]at y;cases y) (λe=>by rw[e,J]at y;cases y)).trans y⟩
   .exact⟨h2,(aZ ne.symm).trans bS⟩
  .exact⟨h1,bS⟩
 .have⟨y,z⟩:=Rd.hk x m;exact⟨(M _ (nd x m) (λe=>by rw[e,J]at y;cases y)).trans y,z.keep O (λW e=>e) λd o q e=>⟨e,(M d (λe=>by rw[e,K]at q;cases q) (λe=>by rw[e,J]at q;exact(nd x m) (qY q).symm)).trans q⟩⟩
 .by_cases z:b=a
  .exact R.sz b (by rw[z,K];exact Role.noConfusion)
  .by_cases V:b=dx
   .exact R.sz b (by rw[V,J];exact Role.noConfusion)
   .exact R.sz b λy=>q ((M b z V).trans y)
end
structure Cx where
 env:Env
 A:Za
 nm:List Str
 F:Hp
 n:Nat
 hd:Bool
 cs:List Str
 top:Bool
 jm:Hp
structure sL(A:Za)(hd:Bool)(n:Nat):Prop where
 d:A.depth+3*n+3<1000
 u:A.units+20*n+20<9900
 h:hd=Xg->A.handled=Xk
inductive lB(F:Hp)(L:Addr):Prop|mk(o)(h:(L,MO.fc o)∈F)(d:∀vs,o.data≠.fields vs)
theorem lB.imp{F F':Hp}{L:Addr}(h:∀x∈F,x∈F')(x:lB F L):lB F' L:=by obtain⟨o,p,q⟩:=x;exact⟨o,h _ p,q⟩
inductive Ue(F:Hp)(L0:Addr)(e:Env):Prop|mk(k:e.scope.kind≠.module)(L:_)(h:e.frame=W_ L)(d:L=L0\/lB F L)
theorem Ue.imp{F F':Hp}{L:Addr}{e:Env}(h:∀x∈F,x∈F')(x:Ue F L e):Ue F' L e:=by obtain⟨k,L,a,b⟩:=x;exact⟨k,L,a,b.imp id (lB.imp h)⟩
inductive FrI(c:Cx):Prop|mk(l:_)(e:c.A.frames=W_ l)(h:∀e∈l,Ue c.F c.env.locals e)(t:c.top=Xg->c.env.frame=W_ c.env.locals/\ ∃outer,l=c.env::outer)
structure bg (c:Cx):Prop where
 fr:FrI c
 room:sL c.A c.hd c.n
 jm:∀x∈c.jm,x∈c.F
 cells:c.cs≠[] ->(c.env.cells.map (λW=>W.2)).Nodup
 kind:c.env.scope.kind=.function
 glob:c.env.globals=Yj
 blt:c.env.builtins=builtinsNs
 nd:c.nm.Nodup
 Ec:∀x∈c.nm,(x==("__debug__":Str))=Xb/\(x==("__classdict__":Str))=Xb
section
variable (G:cc)
inductive Cw (env:Env)(T:Hp)(x:Str)(val:Xj):Prop|mk (ca:Addr)(o:Obj)(k:env.kindOf x=W_ .cell\/env.kindOf x=W_ .free)(l:env.cells.lookup x=W_ ca)(m:(ca,MO.raw o)∈T)(d:o.data=.cell (W_ val))
inductive acw(env:Env)(nm:List Str)(g:bQ)(m:Str->Option Xj)(T:Hp)(i:Nat)(v:V):Prop|mk(x val)(h1:nm[i]?=W_ x)(h2:VR G g v val)(h3:(env.kindOf x=W_ .local/\m x=W_ val) \/Cw env T x val)
inductive adC(env:Env)(cs:Hp)(x:Str):Prop|mk(ca o v)(h1:env.cells.lookup x=W_ ca)(h2:(ca,MO.raw o)∈cs)(h3:o.data=.cell v)
def yt (env:Env)(nm:List Str)(g:bQ)(m:Str->Option Xj)(T:Hp)(r:List bG):Prop:=∀(i:Nat)(v:V),aF r i=W_ (W_ v)->acw G env nm g m T i v
inductive pK (env:Env)(nm csn:List Str)(jm:Hp)(g:bQ)(Lc:Hp)(r:List bG):Prop|mk (o m cs)(e:Lc=(env.locals,.fc o)::cs)(n:jA o m)(hc:∀x∈csn,adC env cs x)(v:yt G env nm g m (cs++jm) r)
abbrev oa(c:Cx)(g:bQ)(Lc:Hp)(r:List bG):Prop:=pK G c.env c.nm c.cs c.jm g Lc r
inductive Rel (c:Cx)(g:bQ)(σ:St)(s:XB):Prop|mk (role Lc)(R:RH G role g (σ.H++(Lc++c.F)) s)(l:oa G c g Lc σ.r)
inductive QW(c:Cx)(g:bQ)(Q:V->St->Prop)(v:Xj)(s:XB):Prop|mk(g' mv σ)(k:g.le g')(h:VR G g' mv v)(R:Rel G c g' σ s)(q:Q mv σ)
inductive TW (c:Cx)(g:bQ)(Q:V->St->Prop)(b:Bool)(s:XB):Prop|mk (g' σ)(k:g.le g')(R:Rel G c g' σ s)(q:Q (.bool b) σ)
inductive SW (c:Cx)(g:bQ)(Q:V->St->Prop)(vs:List Xj)(s:XB):Prop|mk (g' l σ:_)(k:g.le g')(h:cF G g' l vs)(R:Rel G c g' σ s)(q:Q (.tup l) σ)
inductive XW (c:Cx)(g:bQ)(X:di->St->Prop)(v:Xj)(s:XB)(tb:Bool:=Xb):Prop|mk (g' e x σ)(ev:v=.ref e)(k:g.le g')(role Lc)(R:RH G role g' ((e,.jU c.env.frame tb x.1 x.2)::(σ.H++(Lc++c.F))) s)(l:oa G c g' Lc σ.r)(q:X x σ)
def Ev (c:Cx){α:Type}(W:bQ->(V->St->Prop)->α->XB->Prop) (t:Sem α) (σ:St) (Q:V->St->Prop) (X:di->St->Prop):Prop:=
 ∀g s,Rel G c g σ s->XT G.M c.A t (W g Q) (XW G c g X) s
abbrev bK (c:Cx) (e:Xd):=Ev G c (QW G c) (eval e c.env)
abbrev oA (c:Cx) (e:Xd):=Ev G c (TW G c) (isTrue e c.env (eval e c.env))
abbrev jC (c:Cx) (p:Pos) (xs:List Xd):=Ev G c (SW G c) (spliced (ZA p (YJ xs c.env)))
end
section
variable{G:cc}{c:Cx}{g g₀:bQ}{f:St}{s:XB}{X:di->St->Prop}{Q:V->St->Prop}
theorem yt.mono{env:Env}{nm:List Str}{g':bQ}{m:Str->Option Xj}{T:Hp}{r:List bG}(k:g.le g')(x:yt G env nm g m T r):yt G env nm g' m T r:=λi v e=>by obtain⟨y,val,a,b,d⟩:=x i v e;exact⟨y,val,a,b.mono k,d⟩
theorem pK.mono{env:Env}{nm J:List Str}{jm:Hp}{g':bQ}{Lc:Hp}{r:List bG}(k:g.le g')(x:pK G env nm J jm g Lc r):pK G env nm J jm g' Lc r:=by induction x with|mk o m cs a b d e=>exact⟨o,m,cs,a,b,d,e.mono k⟩
theorem Rel.keep(R:Rel G c g f s){s':XB}(J:s'.gens=s.gens)(e:s'.os=s.os)
  (k:∀b o,s.heap.get? b=W_ o->s'.heap.get? b=W_ o):Rel G c g f s':=
 by induction R with|mk role Lc R l=>exact⟨role,Lc,R.keep J e λb o W=>k b o,l⟩
theorem Rel.tok(R:Rel G c g f s){t:Nat}:Rel G c g f {s with toks:=t}:=R.keep rfl rfl λW W e=>e
theorem Rel.K (R:Rel G c g f s):G.K.In s.heap:=by induction R with|mk _ _ R l=>exact λa o e=>(R.gk _ _ (R.kb a o e)).1
theorem Rel.kb(R:Rel G c g f s):∀a o,G.K.lookup a=W_ o->g a=W_ o:=by induction R with|mk _ _ R l=>exact R.kb
theorem Rel.gk(R:Rel G c g f s){a:Addr}{o:Obj}(e:g a=W_ o):s.heap.get? a=W_ o:=by induction R with|mk _ _ R l=>exact(R.gk _ _ e).1
theorem Rel.ext(R:Rel G c g f s){h:Heap}{t:Nat}(k:∀b o,s.heap.get? b=W_ o->h.get? b=W_ o):Rel G c g f {s with heap:=h,toks:=t}:=R.keep rfl rfl k
theorem Rel.at{p:Nat}{a:Addr}{mo:MO}(R:Rel G c g f s)(e:aF f.H p=W_ (a,mo)):∃role,MR G g s.heap role a mo:=by obtain⟨role,Lc,R,_⟩:=R;rw[bf]at e;exact⟨role,(R.hk _ (X9 _ (Yq e))).2⟩
variable{v:Xj}
theorem qw{mv:V}(R:Rel G c g f s)(h:VR G g mv v)(q:Q mv f):QW G c g Q v s:=⟨g,mv,f,.refl,h,R,q⟩
theorem XW.mono{X':di->St->Prop}(k:g₀.le g)(x:XW G c g X v s)(J:∀v f,X v f->X' v f:=by exact λW W z=>z):XW G c g₀ X' v s:=
 by induction x with|mk g' e x f a b role Lc R l h=>exact⟨g',e,x,f,a,k.trans b,role,Lc,R,l,J _ _ h⟩
theorem QW.mono{Q':V->St->Prop}(k:g₀.le g)(x:QW G c g Q v s)(J:∀v f,Q v f->Q' v f:=by exact λW W z=>z):QW G c g₀ Q' v s:=
 by induction x with|mk g' e x a b d h=>exact⟨g',e,x,k.trans a,b,d,J _ _ h⟩
theorem Ev.go{t:Sem Xj}{P:Xj->XB->Prop}(k₀:g₀.le g) (R:Rel G c g f s) (h:Ev G c (QW G c) t f Q X)
  (hk:∀g' mv v σ' s',g₀.le g'->g.le g'->VR G g' mv v->Rel G c g' σ' s'->Q mv σ'->P v s'):XT G.M c.A t P (XW G c g₀ X) s:=
 XY (h g s R) (λv s' z=>by induction z with|mk g' mv σ' a b d e=>exact hk g' mv v σ' s' (k₀.trans a) a b d e) λW W x=>x.mono k₀
theorem Ev.HE{t:Sem Bool}{P:Bool->XB->Prop}(k₀:g₀.le g) (R:Rel G c g f s) (h:Ev G c (TW G c) t f Q X)
  (hk:∀g' b σ' s',g₀.le g'->g.le g'->Rel G c g' σ' s'->Q (.bool b) σ'->P b s'):XT G.M c.A t P (XW G c g₀ X) s:=
 XY (h g s R) (λv s' z=>by induction z with|mk g' σ' a d e=>exact hk g' v σ' s' (k₀.trans a) a d e) λW W x=>x.mono k₀
theorem Ev.Pf{t:Sem (List Xj)}{P:List Xj->XB->Prop}(k₀:g₀.le g) (R:Rel G c g f s) (h:Ev G c (SW G c) t f Q X)
  (hk:∀g' l vs σ' s',g₀.le g'->g.le g'->cF G g' l vs->Rel G c g' σ' s'->Q (.tup l) σ'->P vs s'):XT G.M c.A t P (XW G c g₀ X) s:=
 XY (h g s R) (λv s' z=>by induction z with|mk g' l σ' a b d e=>exact hk g' l v σ' s' (k₀.trans a) a b d e) λW W x=>x.mono k₀
noncomputable def Aq:V->Option Const|.none=>W_ .none|.bool b=>W_ (.bool b)|.int i=>W_ (.int i)|.str s=>if s.length<=16777216 then W_ (.str ⟨s.toArray⟩)else Xk|.bytes b=>W_ (.bytes b)|_=>Xk
theorem pA{v:V}{k:Const}{p:Pos}(e:Aq v=W_ k)(q:Q v f):bK G c (.Constant k n p) f Q X:=by
 intro g s R;cases v with|str s=>
  by_cases J:s.length<=16777216
  .obtain rfl:=XG ((W0 J).symm.trans e);exact wpAny_Constant_str (qw R.tok (.str _ _ J) q)
  .exact gG ((WZ J).symm.trans e)|none=>cases e;exact wpAny_Constant_none (qw R .none q)|bool b=>cases e;exact wpAny_Constant_bool (qw R (.bool _) q)|int i=>cases e;exact ZW (qw R.tok (.int _ _) q)|bytes b=>cases e;exact λW W W=>qw R.tok (.bytes _ _) q|_=>exact gG e
theorem H7{x:Str}{p:Pos}{i:Nat}{v:V}(O:bg c) (J:c.nm[i]?=W_ x) (Y:aF f.r i=W_ (W_ v)) (q:Q v f):bK G c (.Name x p) f Q X:=by
 intro g s R;have R0:=R;obtain⟨role,Lc,R1,o,m,cs,rfl,hn,-,hl⟩:=R0;obtain⟨y,val,h1,h2,h3⟩:=hl i v Y;obtain rfl:x=y:=XG (J.symm.trans h1);have K:=O.Ec x (Yq J);have Z:=qw (Q:=Q) R h2 q;refine wpAny_Name ?_ K.1;rcases h3 with⟨a,b⟩|⟨ca,U,k,l,e,hd⟩
 .obtain⟨M,e⟩:=(R1.hk (c.env.locals,.fc o) (Xx _ (.head _))).2;exact wpAny_loadName_local O.kind a (jA.at (o:={o with slots:=M}) hn e) b Z
 .have e:(ca,MO.raw U)∈cs++c.F:=(Yk.mp e).elim (X9 _) λz=>Xx _ (O.jm _ z);have e:=(R1.hk _ (Xx _ (.tail _ e))).2;rcases k with k|k
  .exact wpAny_loadName_cell O.kind k l ⟨_,e,hd⟩ Z
  .exact wpAny_loadName_free O.kind k l ⟨_,e,hd⟩ Z K.2
theorem gV{x:Str}{val:Xj}{P E:Xj->XB->Prop}(O:bg c)(K:G.K.In s.heap)(hk:c.env.kindOf x=W_ .globalImplicit)(hd:(x==("__debug__":Str))=Xb)(e:nsIn G.K Yj x=W_ (W_ val))(p:Pos)(q:P val s):
  XT G.M c.A (eval (.Name x p) c.env) P E s:=by
 refine Name_function_global O.kind hk ?_ hd;unfold loadGlobal;rw[O.glob];exact Xe ((looks_nsIn K e).here (Xo q))
theorem ju{x:Str}{val:Xj}{P E:Xj->XB->Prop}(O:bg c)(K:G.K.In s.heap)(hk:c.env.kindOf x=W_ .globalImplicit)(hd:(x==("__debug__":Str))=Xb)(e:nsIn G.K Yj x=W_ Xk)(J:nsIn G.K builtinsNs x=W_ (W_ val))(p:Pos)(q:P val s):
  XT G.M c.A (eval (.Name x p) c.env) P E s:=by
 refine Name_function_global O.kind hk ?_ hd;unfold loadGlobal;rw[O.glob,O.blt];exact Xe ((looks_nsIn K e).here (Xe ((looks_nsIn K J).here (Xo q))))
theorem pB{x:Str}{p:Pos}{v:V}{val:Xj}(O:bg c)(hk:c.env.kindOf x=W_ .globalImplicit)(hd:(x==("__debug__":Str))=Xb)(e:nsIn G.K Yj x=W_ (W_ val))
  (J:∀g:bQ,(∀a o,G.K.lookup a=W_ o->g a=W_ o)->VR G g v val)(q:Q v f):bK G c (.Name x p) f Q X:=by
 intro g s R;exact gV O R.K hk hd e p (qw R (J g R.kb) q)
end
variable{G:cc}{c:Cx}{g:bQ}{B:St}{s:XB}{X:di->St->Prop}{Q:V->St->Prop}{A:Za}{E P:Xj->XB->Prop}
def d6(v:V)(k:Int->Prop):Prop:=match v with|.int i=>k i|_=>False
def eE(v:V)(k:ax->Prop):Prop:=match v with|.str i=>k i|_=>False
def AR(v:V)(k:List UInt8->Prop):Prop:=match v with|.bytes i=>k i|_=>False
def iU(v:V)(k:Bool->Prop):Prop:=match v with|.bool i=>k i|_=>False
def isQ(b:Bool)(v:V)(k:aP->Prop):Prop:=match v with|.sq b' i=>(match b,b' with|true,Xg=>k i|false,Xb=>k i|_,_=>False)|_=>False
inductive Sl{α}(f:α->V)(v:V)(k:α->Prop):Prop|mk(i)(e:v=f i)(h:k i)
variable{v:V}
theorem d6.to{k:Int->Prop}(h:d6 v k):Sl .int v k:=by cases v<;>first|exact⟨_,rfl,h⟩|exact h.elim
theorem eE.to{k:ax->Prop}(h:eE v k):Sl .str v k:=by cases v<;>first|exact⟨_,rfl,h⟩|exact h.elim
theorem AR.to{k:List UInt8->Prop}(h:AR v k):Sl .bytes v k:=by cases v<;>first|exact⟨_,rfl,h⟩|exact h.elim
theorem iU.to{k:Bool->Prop}(h:iU v k):Sl .bool v k:=by cases v<;>first|exact⟨_,rfl,h⟩|exact h.elim
theorem isQ.to{b:Bool}{k:aP->Prop}(h:isQ b v k):Sl (.sq b) v k:=by
 cases v with
 |sq e i=>cases b<;>cases e<;>first|exact⟨_,rfl,h⟩|exact h.elim
 |_=>exact h.elim
inductive IsI(x:Xj)(k:Int->Prop):Prop|mk(i t)(h0:x=.int i t)(h1:k i)
theorem d6.run{x:Xj}{k:Int->Prop}(h:d6 v k)(e:VR G g v x):IsI x k:=by obtain⟨i,rfl,h⟩:=d6.to h;obtain⟨t,rfl⟩:=e.int_inv;exact⟨i,t,rfl,h⟩
inductive IsS(x:Xj)(k:ax->Prop):Prop|mk(i t)(h0:x=.str ⟨i.toArray⟩ t)(h1:k i)(h2:i.length<=16777216)
theorem eE.run{x:Xj}{k:ax->Prop}(h:eE v k)(J:VR G g v x):IsS x k:=by obtain⟨i,rfl,h⟩:=eE.to h;obtain⟨t,rfl,e⟩:=J.str_inv;exact⟨i,t,rfl,h,e⟩
inductive IsY(x:Xj)(k:List UInt8->Prop):Prop|mk(i t)(h0:x=.bytes i.toArray t)(h1:k i)
theorem AR.run{x:Xj}{k:List UInt8->Prop}(h:AR v k)(e:VR G g v x):IsY x k:=by obtain⟨i,rfl,h⟩:=AR.to h;obtain⟨t,rfl⟩:=e.g7;exact⟨i,t,rfl,h⟩
inductive IsB(x:Xj)(k:Bool->Prop):Prop|mk(i)(h0:x=.bool i)(h1:k i)
theorem iU.run{x:Xj}{k:Bool->Prop}(h:iU v k)(e:VR G g v x):IsB x k:=by obtain⟨i,rfl,h⟩:=iU.to h;exact⟨i,e.bool_inv,h⟩
def eX(a b:V)(k:Int->Int->Prop):Prop:=d6 a λa=>d6 b λb=>k a b
def jj(a b:V)(k:ax->ax->Prop):Prop:=eE a λa=>eE b λb=>k a b
inductive adg(x:Xj)(y:Xj)(k:Int->Int->Prop):Prop|mk(i j t u)(h0:x=.int i t)(h1:y=.int j u)(h2:k i j)
theorem eX.run{a b:V}{x y:Xj}{k:Int->Int->Prop}(h:eX a b k)(J:VR G g a x)(e:VR G g b y):adg x y k:=by obtain⟨i,t,rfl,h1⟩:=d6.run h J;obtain⟨j,u,rfl,h2⟩:=d6.run h1 e;exact⟨_,_,_,_,rfl,rfl,h2⟩
inductive adf(x:Xj)(y:Xj)(k:ax->ax->Prop):Prop|mk(i j t u)(h0:x=.str ⟨i.toArray⟩ t)(h1:y=.str ⟨j.toArray⟩ u)(h2:k i j)
theorem jj.run{a b:V}{x y:Xj}{k:ax->ax->Prop}(h:jj a b k)(J:VR G g a x)(e:VR G g b y):adf x y k:=by obtain⟨i,t,rfl,h1,-⟩:=eE.run h J;obtain⟨j,u,rfl,h2,-⟩:=eE.run h1 e;exact⟨_,_,_,_,rfl,rfl,h2⟩
inductive JR|add|sub|mul|div|mod|pow|cat|rep|B3
noncomputable def JR.op:JR->Operator|.add=>.Add|.sub=>.Sub|.mul=>.Mult|.div=>.FloorDiv|.mod=>.Mod|.pow=>.Pow|.cat=>.Add|.rep=>.Mult|.B3=>.Add
def R9 (op:JR)(a b:V)(k:V->Prop):Prop:=match op with|.add=>eX a b λa b=>k (.int (a+b))|.sub=>eX a b λa b=>k (.int (a-b))|.mul=>eX a b λa b=>IntMulOk a b/\k (.int (a*b))|.div=>eX a b λa b=>(b≠0/\Yy.divisionGoesByPylong a b=Xb)/\k (.int (Int.fdiv a b))|.mod=>eX a b λa b=>b≠0/\k (.int (Y5 a b))|.pow=>eX a b λa b=>(0<=b/\b<=1000000/\a.natAbs<2^64)/\k (.int (a^b.toNat))|.cat=>jj a b λa b=>a.length+b.length<=16777216/\k (.str (a++b))|.B3=>AR a λa=>AR b λb=>a.length+b.length<=16777216/\k (.bytes (a++b))|.rep=>eE a λa=>d6 b λn=>(MulOk ⟨a.toArray⟩ n/\(Txt.mul ⟨a.toArray⟩ n).length<=16777216)/\k (.str (Txt.mul ⟨a.toArray⟩ n).cps.toList)
theorem zw(a b:ax):(⟨a.toArray⟩:Str)++(⟨b.toArray⟩:Str)=⟨(a++b).toArray⟩:=by show Str.mk _=_;simp
theorem VR.FU{x:Str}{t:Tok}(h:x.length<=16777216):VR G g (.str x.cps.toList) (.str x t):=by obtain⟨⟨l⟩⟩:=x;exact .str _ _ h
theorem B_ {op:JR}{a b:V}{x y:Xj}{k:V->Prop}(J:VR G g a x) (e:VR G g b y) (h:R9 op a b k)
  (fin:∀v val t,VR G g v val->k v->P val {s with toks:=t}):XT G.M A (binaryOp op.op x y) P E s:=by
 cases op;case B3=>obtain⟨a,t,rfl,h1⟩:=AR.run h J;obtain⟨b,u,rfl,h2⟩:=AR.run h1 e;exact KBy.add_bytes (by rw[XC,XC];exact h2.1) λK n=>(List.append_toArray a b).symm▸fin _ _ n (.bytes _ _) h2.2
 case rep=>obtain⟨a,t,rfl,h1,-⟩:=eE.run h J;obtain⟨b,u,rfl,h2⟩:=d6.run h1 e;exact SB.mul h2.1.1 λK n=>fin _ _ n (VR.FU h2.1.2) h2.2
 case cat=>obtain⟨a,b,t,u,rfl,rfl,h⟩:=jj.run h J e;exact SBL.add (λK n W=>(zw a b).symm▸fin _ _ n (.str _ _ (by rw[Xc];exact h.1)) h.2) h.1
 all_goals obtain⟨a,b,t,u,rfl,rfl,h⟩:=eX.run h J e
 .exact add_int (fin _ _ _ (.int _ _) h)
 .exact sub_int (fin _ _ _ (.int _ _) h)
 .exact mul_int (fin _ _ _ (.int _ _) h.2) h.1
 .exact floordiv_int h.1.1 (fin _ _ _ (.int _ _) h.2) (.inl h.1.2)
 .exact mod_int h.1 (fin _ _ _ (.int _ _) h.2)
 .exact pow_int_small h.1.1 h.1.2.1 h.1.2.2 (fin _ _ _ (.int _ _) h.2)
theorem wW{x:Xd}{p:Pos}(h:bK G c x B (λa σ1=>d6 a λi=>Q (.int (-i)) σ1) X):bK G c (.UnaryOp .USub x p) B Q X:=λg s R=>
 wpAny_UnaryOp (Ev.go .refl R h λJ a x σ1 K k1 W e R1 h1=>by obtain⟨i,t,rfl,h⟩:=d6.run h1 e;exact neg_int ⟨J,_,σ1,k1,.int _ _,R1.tok,h⟩)
inductive S7|eqI|VQ|ltI|WA|gtI|geI|TN|Tv|TG|Al|j7|Ak
noncomputable def S7.op:S7->CmpOp|.eqI=>.Eq|.VQ=>.NotEq|.ltI=>.Lt|.WA=>.LtE|.gtI=>.Gt|.geI=>.GtE|.TN=>.Eq|.Tv=>.NotEq|.TG=>.In|.Al=>.NotIn|.j7=>.Is|.Ak=>.IsNot
noncomputable def V.isNone:V->Bool|.none=>Xg|_=>Xb
noncomputable def sEq:ax->ax->Bool|[],[]=>Xg|a::l,b::r=>XI a b&&sEq l r|_,_=>Xb
theorem bH:∀a b,sEq a b=(a==b)
 |[],[]=>rfl|[],_::_=>rfl|_::_,[]=>rfl|a::l,b::r=>by rw[List.cons_beq_cons,<-bH l r,show(a==b)=XI a b by rw[Bool.eq_iff_iff,W8,Nat.beq_eq]];rfl
def QB (op:S7)(a b:V)(k:Bool->Prop):Prop:=match op with|.eqI=>eX a b λa b=>k (decide (a=b))|.VQ=>eX a b λa b=>k (!decide (a=b))|.ltI=>eX a b λa b=>k (decide (a<b))|.WA=>eX a b λa b=>k (decide (a<=b))|.gtI=>eX a b λa b=>k (decide (b<a))|.geI=>eX a b λa b=>k (decide (b<=a))|.TN=>jj a b λa b=>k (sEq a b)|.Tv=>jj a b λa b=>k (!sEq a b)|.TG=>jj a b λy x=>k (!(Yt ⟨x.toArray⟩ ⟨y.toArray⟩ 0 x.length 1).isEmpty)|.Al=>jj a b λy x=>k (!(!(Yt ⟨x.toArray⟩ ⟨y.toArray⟩ 0 x.length 1).isEmpty))|.j7=>(b=.none/\ ∀v,a≠.cst v)/\k a.isNone|.Ak=>(b=.none/\ ∀v,a≠.cst v)/\k (!a.isNone)
theorem str_beq (a b:ax):((⟨a.toArray⟩:Str)==(⟨b.toArray⟩:Str))=sEq a b:=by
 rw[bH];by_cases h:a=b
 .subst h;rw[WY,WY]
 .rw[W9.mpr h,W9];exact λe=>h (WX Array.toList (WX Str.cps e))
theorem wh{a:V}{x:Xj}{B:Bool->XB->Prop}(J:VR G g a x)(e:∀v,a≠.cst v)(q:B a.isNone s):XT G.M A (isSame x .none) B E s:=by induction J with|cst _ h=>exact W5 rfl (e _)|_=>exact Xo q
theorem BP{op:S7}{a b:V}{x y:Xj}{k:Bool->Prop}(J:VR G g a x)(e:VR G g b y)(h:QB op a b k)
  (fin:∀v,k v->P (.bool v) s):XT G.M A (compareOp op.op x y) P E s:=by
 cases op;case j7=>obtain⟨⟨rfl,K⟩,h⟩:=h;obtain rfl:=e.none_inv;exact Xe (wh J K (Xo (fin _ h)))
 case Ak=>obtain⟨⟨rfl,K⟩,h⟩:=h;obtain rfl:=e.none_inv;exact Xe (wh J K (Xo (fin _ h)))
 case TN=>obtain⟨a,b,t,u,rfl,rfl,h⟩:=jj.run h J e;exact eq_str (str_beq a b▸fin _ h)
 case Tv=>obtain⟨a,b,t,u,rfl,rfl,h⟩:=jj.run h J e;exact PyProof.Rows.ne_str (by rw[bne,str_beq];exact fin _ h)
 case TG=>obtain⟨a,b,t,u,rfl,rfl,h⟩:=jj.run h J e;exact in_str (fin _ h)
 case Al=>obtain⟨a,b,t,u,rfl,rfl,h⟩:=jj.run h J e;exact notIn_str (fin _ h)
 all_goals obtain⟨a,b,t,u,rfl,rfl,h⟩:=eX.run h J e
 .exact eq_int (fin _ h)
 .exact ne_int (fin _ h)
 .exact lt_int (fin _ h)
 .exact le_int (fin _ h)
 .exact gt_int (fin _ h)
 .exact ge_int (fin _ h)
theorem FI{e:Xd}(J:isTrue e c.env (eval e c.env)=(do let v<-eval e c.env;standAt e.pos;holding [v] (truthy v)))(h:bK G c e B (λv σ'=>iU v λb=>Q (.bool b) σ') X):oA G c e B Q X:=λg s R=>
 wpAny_isTrue_value (Ev.go .refl R h λM a x σ1 O k1 W K R1 h1=>by obtain⟨b,rfl,h⟩:=iU.run h1 K;exact Zq ⟨M,σ1,k1,R1,h⟩) J
theorem FJ{e:Xd}{p:Pos}(h:oA G c e B (λv σ'=>iU v λb=>Q (.bool (!b)) σ') X):oA G c (.UnaryOp .Not e p) B Q X:=λg s R=>wpAny_isTrue_Not (Ev.HE .refl R h λJ b σ1 K k1 W R1 h1=>⟨J,σ1,k1,R1,h1⟩)
noncomputable def j2(op:ZO)(b:Bool):Bool:=match op with|.And=>b|.Or=>!b
abbrev JK (G:cc) (c:Cx) (op:ZO) (xs:List Xd):=Ev G c (TW G c) (allTrue op xs c.env)
abbrev Ug (G:cc) (c:Cx) (p:Pos) (op:ZO) (xs:List Xd):=Ev G c (QW G c) (boolOp p op (evalEach xs c.env))
theorem tR{op:ZO}{x:Xd}{xs:List Xd}(h:oA G c x B (λv σ'=>iU v λb=>match j2 op b with|true=>JK G c op xs σ' Q X|false=>Q (.bool b) σ') X):JK G c op (x::xs) B Q X:=λg s R=>by
 refine Xe (Ev.HE .refl R h λJ b σ1 M k1 W R1 h1=>?_);cases op<;>cases b
 .exact Xo ⟨J,σ1,k1,R1,h1⟩
 .exact Ev.HE k1 R1 h1 λe b σ2 K k2 W R2 h2=>⟨e,σ2,k2,R2,h2⟩
 .exact Ev.HE k1 R1 h1 λe b σ2 K k2 W R2 h2=>⟨e,σ2,k2,R2,h2⟩
 .exact Xo ⟨J,σ1,k1,R1,h1⟩
theorem zm{op:ZO}{x:Xd}(h:oA G c x B Q X):JK G c op [x] B Q X:=λg s R=>by refine Xe (Ev.HE .refl R h λe b σ1 J k1 W R1 h1=>?_);cases op<;>cases b<;>exact Xo ⟨e,σ1,k1,R1,h1⟩
theorem zq{op:ZO}{xs:List Xd}{p:Pos}(h:JK G c op xs B Q X):oA G c (.BoolOp op xs p) B Q X:=λg s R=>wpAny_isTrue_BoolOp (h g s R)
theorem wV{op:ZO}{x y:Xd}{xs:List Xd}{p:Pos}(h:bK G c x B (λv σ'=>iU v λb=>match j2 op b with|true=>Ug G c p op (y::xs) σ' Q X|false=>Q (.bool b) σ') X):Ug G c p op (x::y::xs) B Q X:=λg s R=>by
 refine Xe (Ev.go .refl R h λK a v σ1 O k1 W e R1 h1=>?_);obtain⟨b,rfl,h⟩:=iU.run h1 e;refine Xe (Yd (Xe (X8 (Zq ?_))));cases op<;>cases b
 .exact Xo ⟨K,_,σ1,k1,.bool _,R1,h⟩
 .exact Ev.go k1 R1 h λJ a x σ2 M k2 W e R2 h2=>⟨J,a,σ2,k2,e,R2,h2⟩
 .exact Ev.go k1 R1 h λJ a x σ2 M k2 W e R2 h2=>⟨J,a,σ2,k2,e,R2,h2⟩
 .exact Xo ⟨K,_,σ1,k1,.bool _,R1,h⟩
theorem H9{t a b:Xd}{p:Pos}(h:oA G c t B (λv σ'=>iU v λz=>match z with|true=>bK G c a σ' Q X|false=>bK G c b σ' Q X) X):bK G c (.IfExp t a b p) B Q X:=λg s R=>
 wpAny_IfExp (Ev.HE .refl R h λO z σ1 M k1 W R1 h1=>by cases z<;>exact Ev.go k1 R1 h1 λJ a x σ2 K k2 W e R2 h2=>⟨J,a,σ2,k2,e,R2,h2⟩)
theorem nZ{l a b:Xd}{p:Pos}{W:bQ->(V->St->Prop)->α->XB->Prop}{t1:Xj->Xj->Sem α}{t2:Xj->Sem α}
  (Z:∀{e g':bQ}{σ':St}{s':XB},e.le g'->Rel G c g' σ' s'->Q (.bool Xb) σ'->XT G.M c.A (t2 (.bool Xb)) (W e Q) (XW G c e X) s')
  (Y:∀{e g':bQ}{σ':St}{s':XB}{j t m u b},e.le g'->Rel G c g' σ' s'->decide (j<=m)=b->Q (.bool b) σ'->XT G.M c.A (t1 (.int j t) (.int m u)) (W e Q) (XW G c e X) s')
  (h:bK G c l B (λx σ1=>bK G c a σ1 (λy σ2=>eX x y λi j=>match decide (i<=j)with|true=>bK G c b σ2 (λz σ3=>d6 z λz=>Q (.bool (decide (j<=z))) σ3) X|false=>Q (.bool Xb) σ2) X) X):
  Ev G c W (do
   let x<-eval l c.env
   let y<-holding [x] (eval a c.env)
   standAt p
   let q<-holding [x,y] (compareOp .LtE x y)
   release [x,y] [q]
   if<-holding [q,y] (truthy q) then(do let z<-holding [y] (eval b c.env);t1 y z)else t2 q) B Q X:=λg s R=>by
 refine Xe (Ev.go .refl R h λg1 x vx σ1 s1 k1 C O R1 q1=>?_);refine Xe (X8 (Ev.go k1 R1 q1 λg2 y vy σ2 s2 k2 J K R2 q2=>?_));obtain⟨i,j,t,u,rfl,rfl,h⟩:=eX.run q2 (O.mono J) K;refine Xe (Yd (Xe (X8 (le_int (Xe (wpAny_release (Xe (X8 (Zq ?_)))))))));cases z:decide (i<=j)
 .rw[z]at h;exact Z k2 R2 h
 .rw[z]at h;refine Xe (X8 (Ev.go k2 R2 h λg3 w vw σ3 s3 k3 C U R3 q5=>?_));obtain⟨m,t,rfl,q6⟩:=d6.run q5 U;exact Y k3 R3 rfl q6
theorem Bz{l a b:Xd}{p:Pos}(h1:YO .LtE a=Xb) (h2:YO .LtE b=Xb)
  (h:bK G c l B (λx σ1=>bK G c a σ1 (λy σ2=>eX x y λi j=>match decide (i<=j)with|true=>bK G c b σ2 (λz σ3=>d6 z λz=>Q (.bool (decide (j<=z))) σ3) X|false=>Q (.bool Xb) σ2) X) X):
  bK G c (.Compare l [.LtE,.LtE] [a,b] p) B Q X:=λg s R=>by
 have:=nZ (W:=QW G c) (t1:=λy z=>do standAt p;operate [y,z] (compareOp .LtE y z)) (t2:=pure) (p:=p) (λk R q=>Xo ⟨_,_,_,k,.bool _,R,q⟩)
  (λk R e q=>Xe (Yd (wpAny_operateT (le_int (e▸⟨_,_,_,k,.bool _,R,e▸q⟩))))) h g s R
 show XT _ _ (do compareChain p (<-eval l c.env) [.LtE,.LtE] [eval a c.env,markedBehindIn .LtE b (eval b c.env)]) _ _ _;rw[markedBehindIn_of_false h2];exact this
theorem zp{l a b:Xd}{p:Pos}(h1:YO .LtE a=Xb) (h2:YO .LtE b=Xb)
  (h:bK G c l B (λx σ1=>bK G c a σ1 (λy σ2=>eX x y λi j=>match decide (i<=j)with|true=>bK G c b σ2 (λz σ3=>d6 z λz=>Q (.bool (decide (j<=z))) σ3) X|false=>Q (.bool Xb) σ2) X) X):
  oA G c (.Compare l [.LtE,.LtE] [a,b] p) B Q X:=λg s R=>by
 have:=nZ (W:=TW G c) (t1:=λy z=>do standAt p;let q<-operate [y,z] (compareOp .LtE y z);holding [q] (truthy q)) (t2:=λC=>pure Xb) (p:=p) (λk R q=>Xo ⟨_,_,k,R,q⟩)
  (λk R e q=>Xe (Yd (Xe (wpAny_operateT (le_int (X8 (Zq (e▸⟨_,_,k,R,e▸q⟩)))))))) h g s R
 show XT _ _ (do testChain p (<-eval l c.env) [.LtE,.LtE] [eval a c.env,markedBehindIn .LtE b (eval b c.env)]) _ _ _;rw[markedBehindIn_of_false h2];exact this
theorem Bs{p:Pos}(h:Q (.tup []) B):jC G c p [] B Q X:=λg s R=>Xo ⟨g,[],B,.refl,.nil,R,h⟩
def Ed (x l:V)(k:V->Prop):Prop:=match l with|.sq Xb l=>k (.tup (x::l))|_=>False
theorem wU{p:Pos}{x:Xd}{xs:List Xd}(K:YJ (x::xs) c.env=(Xb,eval x c.env)::YJ xs c.env)
  (h:bK G c x B (λv σ1=>jC G c p xs σ1 (λl σ2=>Ed v l λz=>Q z σ2) X) X):jC G c p (x::xs) B Q X:=λg s R=>by
 show XT _ _ (spliced (ZA p (YJ (x::xs) c.env))) _ _ _;rw[K];exact spliced_cons (Ev.go .refl R h λY v x σ1 V k1 W J R1 h1=>Ev.Pf k1 R1 h1 λO l vs σ2 U k2 e M R2 q=>⟨O,v::l,σ2,k2,.cons (J.mono e) M,R2,q⟩)
theorem Rel.m_ (R:Rel G c g B s){o:Obj}(J:o.isFreed=Xb):Rel G c (g.put s.heap.objs.size o) B {s with heap:=s.heap.push o} /\g.le (g.put s.heap.objs.size o)/\(g.put s.heap.objs.size o) s.heap.objs.size=W_ o:=by obtain⟨role,Lc,R,l⟩:=R;obtain⟨R',k,e⟩:=R.m_ (o:=o) J;exact⟨⟨_,_,R',l.mono k⟩,k,e⟩
variable{vs:List Xj}
theorem C4{b:Bool}{l:aP}(R:Rel G c g B s) (J:cF G g l vs) (K:l.length<=16777216) (h:∀g',g.le g'-> ∀s',Rel G c g' B s'-> ∀a,VR G g' (.sq b l) (.ref a)->P (.ref a) s'):
  XT G.M A (newObj (.type (t7 b)) (.seq vs.toArray)) P E s:=by
 obtain⟨R',k,e⟩:=R.m_ (o:={cls:=.type (t7 b),data:=.seq vs.toArray}) rfl;exact wpAny_newObj_type (h _ k _ R' _ (.sq b _ _ _ _ e K J.1 λi x v e O=>(J.2 i x v e O).mono k)) (by show vs.toArray.size<=sizeLine;rw[XC,<-J.1];exact K)
def Tj(l:V)(k:aP->Prop):Prop:=match l with|.sq Xb l=>l.length<=16777216/\k l|_=>False
theorem HW{xs:List Xd}{p:Pos}(h:jC G c p xs B (λl σ'=>Tj l λl=>Q (.tup l) σ') X):bK G c (.Tuple xs n p) B Q X:=λg s R=>PyProof.Rows.Tuple_ (Ev.Pf .refl R h λU l vs σ1 O k1 W J R1 q=>C4 (b:=Xb) R1 J q.1 λK k2 M R2 a e=>⟨K,_,σ1,k1.trans k2,e,R2,q.2⟩)
theorem H5{xs:List Xd}{p:Pos}(h:jC G c p xs B (λl σ'=>Tj l λl=>Q (.lst l) σ') X):bK G c (.List xs p) B Q X:=λg s R=>PyProof.Rows.List_ (Ev.Pf .refl R h λU l vs σ1 O k1 W J R1 q=>C4 (b:=Xg) R1 J q.1 λK k2 M R2 a e=>⟨K,_,σ1,k1.trans k2,e,R2,q.2⟩)
def gT (p:Nat)(mo:MO)(B:St)(Q:V->St->Prop):Prop:=∀a,jW B.H p (a,mo) λH=>Q (.ref a) ⟨H,B.r⟩
variable{mo:MO}
theorem Rel.kM{p:Nat}(R:Rel G c g B s){o:Obj}(J:o.isFreed=Xb)(e:∀role,MR G g (s.heap.push o) role s.heap.objs.size mo):
  Rel G c g ⟨cX B.H p (s.heap.objs.size,mo),B.r⟩ {s with heap:=s.heap.push o}:=by
 obtain⟨role,Lc,R,l⟩:=R;exact⟨_,Lc,(R.kM J e).perm (dF.symm.append_right _),l⟩
theorem GC{p:Nat}{l:aP}(R:Rel G c g B s) (J:cF G g l vs) (e:l.length<=16777216) (h:∀a s',Rel G c g ⟨cX B.H p (a,.list l),B.r⟩ s'->P (.ref a) s'):
  XT G.M A (newList vs) P E s:=
 wpAny_newObj_type (h _ _ (R.kM rfl λW=>⟨vs,_,X0 _ rfl,e,J⟩)) (by show vs.toArray.size<=sizeLine;rw[XC,<-J.1];exact e)
theorem H6{xs:List Xd}{p:Pos}{q:Nat}(h:jC G c p xs B (λl σ'=>Tj l λl=>gT q (.list l) σ' Q) X):bK G c (.List xs p) B Q X:=λg s R=>PyProof.Rows.List_ (Ev.Pf .refl R h λJ l vs σ1 M k1 W e R1 q=>GC R1 e q.1 λa K R2=>⟨J,_,_,k1,.ref _,R2,f_ (q.2 a)⟩)
theorem Ca:builtinKind "BaseException.__getattribute__"=W_ .slot:=by decide+kernel
theorem yj:splitId "BaseException.__getattribute__"=W_ ("BaseException","__getattribute__"):=by decide+kernel
variable{C:Addr}{ox:Obj}{od:Option Obj}{name:Str}{expr:Bool}
theorem wo {x:Addr}{v:Xj}{Q:Xj->XB->Prop}(X:G.K.In s.heap) (I:InstAt s.heap x ox C od) (J:YU G.K (.ref C) "__getattribute__"=W_ (W_ (.builtin "BaseException.__getattribute__")))
  (e:YU G.K (.ref C) "__getattr__"=W_ Xk) (U:mroIn G.K C (.type "BaseException")=W_ Xg) (O:findObj G.K C od name=W_ (.value v)) (hh:handedIn v) (h:Q v {s with toks:=s.toks+1}):XT G.M A (getAttr (.ref x) name expr) Q E s:=by
 obtain⟨h0,gs,d,t,os⟩:=s;have L0:=I.type (M:=G.M);unfold getAttr getAttrBy;refine Xe (wpAny_mkText (X8 (Xe (L0.at (Xe ((Z9 X J).at ?_))))));have V:(onTheHeap (YV C)&&Z2 "BaseException.__getattribute__" ==Z2 "object.__getattribute__")=Xb:=by rw[show(Z2 "BaseException.__getattribute__" ==Z2 "object.__getattribute__")=Xb by decide+kernel,ZV]
 dsimp only;rw[WZ (by rw[V];decide)];refine Xe (m:=hookBefore (.ref C)) ?_;refine (Z9 X e).at ?_;refine Xe (wpAny_attempt (X8 ?_));unfold callGetattribute;rw[WZ (by rw[show onTheHeap (Z2 "BaseException.__getattribute__")=Xb from rfl,ZV];decide)];unfold boundAndCalled;rw[PySem.F.excAttr_ValueError.ga.bind];refine Xe (Xo ?_);have sub:Looks G.M h0 (isInstance (.ref x) (.type "BaseException")) Xg:=L0.andThen (looks_mroIn X U);refine wpAny_call (codeAny_call_builtin PySem.F.excAttr_ValueError.ga.plain PySem.F.entry_bexc_ga (@check_slot G.M _ _ ⟨h0,gs,d,t+1,os⟩ "BaseException.__getattribute__" "BaseException" "__getattribute__" (.ref x) [.str name t] [] _ Ca yj sub (PySem.F.args_bexc_ga (.ref x) (.str name t)) ?_));refine Xe (Xo (Xe (Xo (Xe (L0.at (Xe ((looks_find X I O).at ?_)))))));refine Xo ?_;show XT _ _ (handedOut v) _ _ _;rw[handedOut_of hh];exact Xo h
noncomputable def Pq:List Xj:=[.type "Exception",.type "BaseException",.type "object"]
noncomputable def nz:List Xj->Bool|[]=>Xb|x::l=>(x::l)==Pq||(onTheHeap x&&nz l)
theorem ny{P:List Xj->Prop}(h0:P Pq)(h1:∀c l,P l->P (.ref c::l)):∀{l:List Xj},nz l->P l:=by
 intro l;induction l with|nil=>exact λh=>W5 h Xy|cons x l ih=>
  intro h;rcases (ZI ..).mp h with h|h
  .rw[W8.mp h];exact h0
  .obtain⟨h2,h3⟩:=aH h;cases x<;>first|exact h1 _ _ (ih h3)|exact W5 h2 Xy
theorem lO (e:Xj){l:List Xj}(h:nz l):refuseLoop e "__setattr__" l=pure ():=ny (P:=λl=>refuseLoop e "__setattr__" l=pure ()) (PySem.F.store_Exception.passes e) (λc l z=>(refuseLoop_ref ..).trans z) h
theorem rK{l:List Xj}(h:nz l):l.contains (.type "object"):=ny (P:=λl=>l.contains (.type "object")=Xg) (by decide+kernel) (λc l z=>by rw[List.contains_cons,z,Bool.or_true]) h
theorem ql{x:Addr}{O:ClassData}{tk:Tok}{v:Xj}{R:Result->XB->Prop}(X:G.K.In s.heap) (I:InstAt s.heap x ox C od) (V:clsIn G.K C=W_ O) (hp:∀J,refuseLoop J "__setattr__" O.mro=pure ()) (U:O.mro.contains (.type "object"))
  (ht:YU G.K (.ref C) name=W_ Xk)
  (h:∀b,XT G.M A.in1 (PySem.Builtin.ObjectAttr.storeInOwnDict (.ref x) (.ref C) (.str name tk) name v b) (λfin s'=>match fin with|.done f=>R (.ok f) s'|.again Y=>Y.quiet=Xg/\Zr G.M A Y R s') (λe s'=>R (.error e) s') s):
  Zr G.M A (.call (.builtin "object.__setattr__") ⟨[.ref x,.str name tk,v],[]⟩) R s:=by
 have SF:=PySem.F.store_object;have sub:Looks G.M s.heap (isInstance (.ref x) (.type "object")) Xg:=I.type.andThen (looks_mroIn X (by unfold mroIn;rw[V,Zn,WZ (by generalize q:O.mro=Z;induction Z using Xn with|nil=>rw[q]at U;exact ff U|cons _ _=>exact Xy),U]))
 have hm:Looks G.M s.heap (mroOf (.ref C)) O.mro:=(looks_clsIn X V).andThen .now;refine codeAny_call_builtin SF.slot.plain SF.entry (@check_slot G.M _ _ s "object.__setattr__" "object" "__setattr__" (.ref x) [.str name tk,v] [] _ SF.kind SF.split sub (SF.args (.ref x) (.str name tk) v) ?_);rw[osa_eq,refuse_eq];refine Xe (Xe (I.type.here (Xe (hm.here ?_))));rw[hp];exact Xo (Xe (I.type.here (Xe ((Z9 X ht).here (Xe (Xo (h _)))))))
def dK (K:Frag)(C:Addr):Bool:=(clsIn K C).any (λW=>W.hasDict)&&YU K (.ref C) "__setattr__" ==W_ (W_ (.builtin "object.__setattr__"))&&
 ((YU K (.ref C) "__getattribute__" ==W_ (W_ (.builtin "object.__getattribute__"))&&(clsIn K C).any (λcd=>onlyObject cd.mro)) ||
 (YU K (.ref C) "__getattribute__" ==W_ (W_ (.builtin "BaseException.__getattribute__"))&&YU K (.ref C) "__getattr__" ==W_ Xk&&mroIn K C (.type "BaseException")==W_ Xg&&(clsIn K C).any λcd=>nz cd.mro))
structure adA (K:Frag)(C:Addr)(cd:ClassData):Prop where
 c:clsIn K C=W_ cd
 d:cd.hasDict=Xg
 sa:YU K (.ref C) "__setattr__"=W_ (W_ (.builtin "object.__setattr__"))
 pass:∀self,refuseLoop self "__setattr__" cd.mro=pure ()
 ob:cd.mro.contains (.type "object")=Xg
 ga:∃ga,YU K (.ref C) "__getattribute__"=W_ (W_ (.builtin ga))/\(Manifest.canonical ga != "object.__getattribute__")=Xb
theorem dK.to{K:Frag}(h:dK K C):∃J,adA K C J:=by
 unfold dK at h;simp only[XS,ZI,W8]at h;obtain⟨⟨h1,h2⟩,h3⟩:=h;obtain⟨J,c1,c2⟩:=any_some h1;rcases h3 with⟨h4,e⟩|⟨⟨⟨h4,-⟩,-⟩,e⟩
 .rw[c1]at e;exact⟨J,c1,c2,h2,λW=>refuse_only _ e,only_has e,_,h4,by decide+kernel⟩
 .rw[c1]at e;exact⟨J,c1,c2,h2,λW=>lO _ e,rK e,_,h4,by decide+kernel⟩
theorem A_ {x:Addr}{v:Xj}{Q:Xj->XB->Prop}(X:G.K.In s.heap)(I:InstAt s.heap x ox C od)(e:dK G.K C)(J:findObj G.K C od name=W_ (.value v))(hh:handedIn v)(h:Q v {s with toks:=s.toks+1}):XT G.M A (getAttr (.ref x) name expr) Q E s:=by
 unfold dK at e;simp only[XS,ZI,W8]at e;rcases e.2 with⟨h4,-⟩|⟨⟨⟨h4,U⟩,O⟩,-⟩
 .exact get_value X I h4 J hh h
 .exact wo X I h4 U O J hh h
noncomputable def iP (K:Frag)(C:Addr)(x:Str):Bool:=YU K (.ref C) x==W_ Xk
structure SS (G:cc) (c f:Nat):Prop where
 lt:f<128
 cls:dK G.K (G.cA c)=Xg
 nam:iP G.K (G.cA c) (G.an f)=Xg
structure jb (G:cc):Prop where
 inj:∀i j,i<128->j<128->G.an i=G.an j->i=j
 fld:∀c f,fM f (G.pq c)=Xg->SS G c f
theorem rZ{x:V}{v:Xj}(h:VR G g x v):handedIn v:=by
 induction h with
 |cst v q=>cases v<;>first|rfl|exact ff q
 |_=>rfl
theorem rT{o:Obj}{m}{x:Str}{v:Xj}(n:jA o m)(e:m x=W_ v):lookIn x o=W_ (W_ v):=by obtain⟨es,K,hd,-,J⟩:=n;have:=(J x).trans e;unfold nsFind findBy at this;obtain⟨en,h1,h2⟩:=X6.mp this;unfold lookIn;rw[hd];dsimp only;rw[Array.find?_toList,h1];exact WX (λz=>W_ (W_ z)) h2
set_option backward.match.sparseCases true in
noncomputable def BH(dt:Data):Bool:=match dt with|.cls _=>Xb|_=>Xg
variable{dx:Addr}{f:Str}
theorem wq {x:Addr}{O od dt m}{v:Xj}(X:G.K.In s.heap) (U:dK G.K C) (hn:iP G.K C f) (Y:s.heap.get? x=W_ ⟨.ref C,W_ dx,dt,O⟩) (J:BH dt)
  (hd:s.heap.get? dx=W_ od) (n:jA od m) (e:m f=W_ v) (Z:handedIn v) (q:P v {s with toks:=s.toks+1}):XT G.M A (getAttr (.ref x) f expr) P E s:=by
 obtain⟨cd,V⟩:=dK.to U;have c1:=V.c;have c2:=V.d;refine A_ X (ox:=⟨.ref C,W_ dx,dt,O⟩) (od:=W_ od) ⟨Y,rfl,J,hd⟩ U ?_ Z q;unfold findObj;rw[c1,W8.mp hn,Zn,Zn,Zn,Zn];dsimp only;unfold W.ownOf;rw[c2,W0 rfl];dsimp only;rw[rT n e];rfl
def wG (G:cc) (cl:Nat) (fs:Fs) (f:Nat) (k:V->Prop):Prop:=ow (fM f (G.pq cl)) (ck (da fs f) k)
def aaL(G:cc)(f:Nat)(k:V->Prop)(cl:Nat)(fs:Fs):Prop:=wG G cl fs f k
def Jb (G:cc)(p f:Nat)(H:Hp)(v:V)(k:V->Prop):Prop:=match v with|.obj cl fs=>wG G cl fs f k|.ref a=>fK H p a (HA (aaL G f k))|_=>False
inductive SR (G:cc)(cl:Nat)(f:Nat)(fs:Fs)(k:V->Prop):Prop|mk (w)(h0:fM f (G.pq cl))(h1:da fs f=W_ w)(h2:k w)
variable{cl:Nat}{fs:Fs}
theorem wG.to{f:Nat}{k:V->Prop}(h:wG G cl fs f k):SR G cl f fs k:=by obtain⟨a,h⟩:=ow.to h;obtain⟨w,b,h⟩:=ck.to h;exact⟨w,a,b,h⟩
theorem qM{b:Nat}{dt:Data}(h:match b with|0=>dt=.plain|1=>∃t,dt=dT t|_=>∃ws,dt=.fields ws):BH dt=Xg:=by
 rcases b with _|_|b
 .rw[h];rfl
 .obtain⟨t,rfl⟩:=h;rfl
 .obtain⟨t,rfl⟩:=h;rfl
theorem k8 {x:Addr}{f:Nat}{k:V->Prop}{sl od dt expr}(GK:jb G) (R:Rel G c g B s) (h:wG G cl fs f k) (J:s.heap.get? x=W_ ⟨.ref (G.cA cl),W_ dx,dt,sl⟩) (e:BH dt)
  (hd:s.heap.get? dx=W_ od) (F:∃m,∃vf:Nat->Xj,jA od m/\ ∀i w,i<128->da fs i=W_ w->m (G.an i)=W_ (vf i)/\VR G g w (vf i)) (fin:∀w v,VR G g w v->k w->P v {s with toks:=s.toks+1}):
  XT G.M A (getAttr (.ref x) (G.an f) expr) P E s:=by
 obtain⟨w,h1,h2,h3⟩:=h.to;obtain⟨b1,b2,b3⟩:=GK.fld _ _ h1;obtain⟨m,vf,n,z⟩:=F;obtain⟨z1,z2⟩:=z f w b1 h2;exact wq R.K b2 b3 J e hd n z1 (rZ z2) (fin w _ z2 h3)
theorem A9 {p f:Nat}{x:Xj}{k:V->Prop}(GK:jb G)(R:Rel G c g B s)(O:VR G g v x)(h:Jb G p f B.H v k)(fin:∀w v,VR G g w v->k w->P v {s with toks:=s.toks+1}):
  XT G.M A (getAttr x (G.an f) expr) P E s:=by
 induction O with|obj cl fs a dx K od m vf J e2 U h0 h1 h2=>exact k8 GK R h (R.gk J) rfl (R.gk e2) ⟨m,vf,U,λi w hi e=>⟨h1 i w hi e,h2 i w hi e⟩⟩ fin|ref a=>obtain⟨b,cl,fs,Y,h⟩:=HA.to h;obtain⟨role,dx,K,od,dt,J,e2,-,Z,m,vf,n,-,-,z⟩:=R.at Y;exact k8 GK R h J (qM e2) Z ⟨m,vf,n,z⟩ fin|_=>exact h.elim
theorem Ib (GK:jb G){o:Xd}{p:Pos}{q f:Nat}(M:∀w,Zm o (G.an f) c.env w=w)
  (h:bK G c o B (λv σ'=>Jb G q f σ'.H v λw=>Q w σ') X):bK G c (.Attribute o (G.an f) p) B Q X:=λg s R=>by
 rw[arm_eval_Attribute,M];refine Xe (Ev.go .refl R h λg' mv v σ' s' K W J R' q=>Xe (Yd (Xe (X8 ?_))));exact A9 GK R' J q λw x e q=>Xe (wpAny_letTemporaryGo (Xo ⟨g',w,σ',K,e,R'.tok,q⟩))
inductive n_ (o:Obj)(m:Str->Option Xj)(f:Str)(v:Xj)(o':Obj):Prop|mk (n:jA o' λy=>if y=f then W_ v else m y)(fr:o'.isFreed=Xb)(z:∀k,JP o k->JP o' (if(m f).isSome then k else k+1))
theorem u_{o:Obj}{m}{h:Int}{t:Tok}{v:Xj}(n:jA o m):n_ o m name v (Obj.putName name h (.str name t) v o):=by
 obtain⟨es,U,hd,hk,J⟩:=n;obtain⟨c,d,dt,O⟩:=o;cases hd;rw[Obj.putName_eq,Obj.putNameByArray];generalize hi:es.findIdx? (λW=>W.key.isStr name)=M;induction M with
 |some i=>
  have e:(m name).isSome:=by rw[<-J,nsFind,findBy_of_findIdx?,hi];dsimp only;rw[Option.isSome_map,Y1 (Array.findIdx?_eq_some_iff_getElem.mp hi).1];rfl
  refine⟨⟨_,_,rfl,hk.modify _ _,λx=>?_⟩,Obj.isFreed_of_dict rfl,λk z=>?_⟩
  .show _=if x=name then W_ v else m x;rw[<-J];exact findBy_modify (λn v=>v.isStr n) Xj.isStr_inj es name x v i hi
  .obtain⟨_,_,K,e2⟩:=z;cases K;exact⟨_,_,rfl,by rw[Array.size_modify,e];exact e2⟩|none=>
  have e:m name=Xk:=by rw[<-J,nsFind,findBy_of_findIdx?,hi]
  refine⟨⟨_,_,rfl,hk.push _ _ _ _,λx=>?_⟩,Obj.isFreed_of_dict rfl,λk z=>?_⟩
  .show _=if x=name then W_ v else m x
   rw[<-J];refine findBy_push (λn v=>v.isStr n) es name x _ _ v (λy=>?_) hi;show(name==y)=decide (y=name);by_cases h:y=name
   .subst h;rw[WY,W4 rfl]
   .rw[W2 h,W9];exact Zb h
  .obtain⟨_,_,K,e2⟩:=z;cases K;exact⟨_,_,rfl,by rw[Array.size_push,e];exact XH e2⟩
variable{o':Obj}
theorem m9{o:Obj}{m f v k}(p:n_ o m f v o')(h:JP o k)(hk:k<=16777216):o'.data.pastItsLine=Xk:=by
 obtain⟨es,J,e,z⟩:=p.3 k h;rw[e];refine pastItsLine_dict (Xa z ?_);rw[sizeLine_eq];cases(m f).isSome
 .exact XH hk
 .exact XE hk
theorem u9{o:Obj}{m}{es ep}(n:jA o m)(hd:o.data=.dict es ep):es.any (λW=>W.refKey)=Xb:=by obtain⟨M,O,J,hk,-⟩:=n;rw[hd]at J;cases J;rw[Array.any_eq_false'];intro e K;obtain⟨n,t,h⟩:=hk e K;rw[DictEntry.refKey,h];exact Xy
theorem ui{x:Addr}{U od dt m}{v:Xj}{P:Unit->XB->Prop}(X:G.K.In s.heap) (hC:dK G.K C) (hn:iP G.K C f) (V:s.heap.get? x=W_ ⟨.ref C,W_ dx,dt,U⟩) (O:BH dt)
  (hd:s.heap.get? dx=W_ od) (n:jA od m) {k:Nat}(Z:JP od k) (hk:k<=16777216)
  (q:∀h tk o',(∀b,b≠dx->h.get? b=s.heap.get? b)->h.get? dx=W_ o'->n_ od m f v o'->P () {s with heap:=h,toks:=tk}):XT G.M A (setAttr (.ref x) f v) P E s:=by
 obtain⟨cd,J⟩:=dK.to hC;have c1:=J.c;have c2:=J.d;have I:InstAt s.heap x ⟨.ref C,W_ dx,dt,U⟩ C (W_ od):=⟨V,rfl,O,hd⟩;refine set_plain X I J.sa (ql (s:={s with toks:=s.toks+1}) X I c1 J.pass J.ob (W8.mp hn) λb=>?_);refine Xe (Xo (Xe (Xe (Zy V (Xe (looks_clsIn X c1 _ _ _ _ (λW W e=>e) ?_))))));rw[c2];refine Xo (a:=W_ dx) (Xe (Xo (Xe ?_)));unfold nsSet;refine Xe (Xe (wpAny_askSetting (Xo (Xe (wpAny_mkText (Xe (Zy hd ?_)))))));obtain⟨es,ep,Y,-⟩:=id n;rw[Y];dsimp only;rw[aRefKeyMayBeTheName_eq,aRefKeyMayBeTheNameByArray,u9 n Y,ZV];have p:=u_ (h:=PyData.keyHash G.w.params f) (t:=s.toks+1) (v:=v) n (name:=f);have D':=YZ (Obj.putName f (PyData.keyHash G.w.params f) (.str f (s.toks+1)) v) hd p.2;exact wpAny_updatePart hd (Xe (wpAny_lookBehind D' (m9 p Z hk) (Xo (q _ _ _ (λb hb=>Yr _ _ (Zb hb)) D' p))))
theorem iO:jA ZG λW=>Xk:=⟨#[],0,rfl,λW h=>by simp at h,λW=>rfl⟩
theorem rB{x t0:Addr}{U}{v:Xj}{P:Unit->XB->Prop}(X:G.K.In s.heap) (hC:dK G.K C) (Z:iP G.K C f) (V:s.heap.get? x=W_ ⟨.ref C,Xk,dT t0,U⟩)
  (q:∀h tk o',(∀b o,b≠x->s.heap.get? b=W_ o->h.get? b=W_ o)->h.get? x=W_ ⟨.ref C,W_ s.heap.objs.size,dT t0,U⟩ ->h.get? s.heap.objs.size=W_ o'->n_ ZG (λW=>Xk) f v o'->P () {s with heap:=h,toks:=tk}):XT G.M A (setAttr (.ref x) f v) P E s:=by
 obtain⟨cd,O⟩:=dK.to hC;have c1:=O.c;have c2:=O.d;have I:InstAt s.heap x ⟨.ref C,Xk,dT t0,U⟩ C Xk:=⟨V,rfl,rfl,Xu⟩;refine set_plain X I O.sa (ql (s:={s with toks:=s.toks+1}) X I c1 O.pass O.ob (W8.mp Z) λb=>?_);refine Xe (Xo (Xe (Xe (Zy V (Xe (looks_clsIn X c1 _ _ _ _ (λW W e=>e) ?_))))));rw[c2];show XT _ _ (alloc ZG>>=λd=>update x (λo=>{o with dict:=W_ d}) >>=λW=>dictMade (.ref C) x d) _ _ _;have J:(s.heap.push ZG).get? x=W_ ⟨.ref C,Xk,dT t0,U⟩:=XA _ V;have ne:s.heap.objs.size≠x:=YF (Yb V);have Y:=YZ (λo:Obj=>{o with dict:=W_ s.heap.objs.size}) J rfl;have hd:((s.heap.push ZG).update x λo=>{o with dict:=W_ s.heap.objs.size}).get? s.heap.objs.size=W_ ZG:=(Yr _ _ (Zb ne)).trans (X0 _ rfl);refine Xe (wpAny_alloc (Xe (wpAny_update J ?_)));refine Xo (a:=W_ s.heap.objs.size) (Xe (Xo (Xe ?_)));unfold nsSet;refine Xe (Xe (wpAny_askSetting (Xo (Xe (wpAny_mkText (Xe (Zy hd ?_)))))));dsimp only;rw[aRefKeyMayBeTheName_eq,aRefKeyMayBeTheNameByArray,u9 iO rfl,ZV];have p:=u_ (h:=PyData.keyHash G.w.params f) (t:=s.toks+1) (v:=v) iO (name:=f);have D':=YZ (Obj.putName f (PyData.keyHash G.w.params f) (.str f (s.toks+1)) v) hd p.2;refine wpAny_updatePart hd (Xe (wpAny_lookBehind D' (m9 p (k:=0) ⟨_,_,rfl,Xh _⟩ (Ye _)) (Xo (q _ _ _ (λb o hb e=>?_) ((Yr _ _ ne).trans Y) D' p))));exact(Yr _ _ (YF (Yb e))).trans ((Yr _ _ (Zb hb)).trans (XA _ e))
def UD (G:cc) (p f:Nat) (H:Hp) (a:Addr) (w:V) (k:Hp->Prop) (m:MO):Prop:=match m with|.inst b cl fs=>ow (fM f (G.pq cl)) (ow (YM fs.length 1000) (setC H p (a,.inst b cl (ip fs f w)) k))|.sY cl=>ow (fM f (G.pq cl)) (setC H p (a,.inst 1 cl [(f,w)]) k)|_=>False
def F2 (G:cc)(p f:Nat)(H:Hp)(v w:V)(k:Hp->Prop):Prop:=match v with|.ref a=>fK H p a (UD G p f H a w k)|_=>False
variable{mo':MO}
theorem Rel.mod{p:Nat}{a:Addr}{s':XB}(R:Rel G c g B s) (e:aF B.H p=W_ (a,mo)) (M:s'.gens=s.gens) (K:s'.os=s.os) (J:∀b o,s.heap.get? b=W_ o-> ∃o',s'.heap.get? b=W_ o')
  (m:∀role,role a=.mo->MR G g s.heap role a mo->(∀b o,b≠a->role b≠.pF a->s.heap.get? b=W_ o->s'.heap.get? b=W_ o)/\MR G g s'.heap role a mo'):Rel G c g ⟨setAt B.H p (a,mo'),B.r⟩ s':=by
 obtain⟨role,Lc,R,l⟩:=R;have R1:=R.perm ((dG e).append_right _);have⟨k,m⟩:=m role (R1.hk _ (.head _)).1 (R1.hk _ (.head _)).2;exact⟨role,Lc,(R1.mod M K k (λW W=>rfl) (λb q=>by obtain⟨o,z⟩:=R.sz b q;exact J b o z) m).perm ((ni e).symm.append_right _),l⟩
variable{role:Addr->Role}
theorem Be{T:Hp}(R:RH G role g T s){a:Addr}(J:s.heap.objs.size<=a):role a=.jZ:=by
 generalize q:role a=e;induction e with|jZ=>rfl|_=>obtain⟨o',z⟩:=R.sz a (by rw[q];exact Role.noConfusion);exact W5 (Yb z) (Y4.mpr J)
variable{h:Heap}{h':Heap}
theorem Hh(q2:∀b,b≠dx->h'.get? b=h.get? b)(q3:h'.get? dx=W_ o')(b:Addr)(o:Obj)(z:h.get? b=W_ o):∃o',h'.get? b=W_ o':=by
 by_cases e:b=dx
 .exact⟨o',e▸q3⟩
 .exact⟨o,(q2 b e).trans z⟩
variable{w:V}
theorem pM.set{od:Obj}{m}{vf:Nat->Xj}{f:Nat}{y:Xj}(z:JP od fs.length)(h0:∀i,i<128->da fs i=Xk->m (G.an i)=Xk)(h1:∀i w,i<128->da fs i=W_ w->m (G.an i)=W_ (vf i)/\VR G g w (vf i))
  (inj:∀i,i<128->G.an i=G.an f->i=f)(b1:f<128)(K:VR G g w y)(p:n_ od m (G.an f) y o'):pM G g (ip fs f w) o':=by
 refine⟨_,λi=>if i=f then y else vf i,p.1,?_,λi hi e=>?_,λi w' hi e=>?_⟩
 .obtain⟨es,M,t1,t2⟩:=p.3 _ z;refine⟨es,M,t1,?_⟩;rw[nK];generalize q:da fs f=J;induction J with|none=>rw[h0 f b1 q]at t2;exact t2|some w0=>rw[(h1 f w0 b1 q).1]at t2;exact t2
 .rw[iy]at e;by_cases q:i=f
  .rw[W0 q]at e;exact Tr e
  .rw[WZ q]at e;exact(WZ λt=>q (inj i hi t)).trans (h0 i hi e)
 .rw[iy]at e;by_cases q:i=f
  .rw[W0 q]at e;cases e;subst q;rw[W0 rfl,W0 rfl];exact⟨rfl,K⟩
  .rw[WZ q]at e;rw[WZ λt=>q (inj i hi t),WZ q];exact h1 i w' hi e
theorem j4.new{a:Addr}{J:Fs}{D:Data->Prop}{K dt}(I:j4 G g h role a cl fs D)(U:role a=.mo)(M:h.get? a=W_ ⟨.ref (G.cA cl),W_ dx,dt,K⟩)
  (q2:∀b,b≠dx->h'.get? b=h.get? b)(q3:h'.get? dx=W_ o')(F:pM G g J o'):(∀b o,b≠a->role b≠.pF a->h.get? b=W_ o->h'.get? b=W_ o)/\j4 G g h' role a cl J D:=by
 obtain⟨Y,O,V,Z,e,d,r,-,-⟩:=I;rw[M]at e;cases e;exact⟨λb o W h3 h4=>(q2 b (λe=>h3 (e▸r))).trans h4,dx,K,o',dt,(q2 _ (by rintro rfl;rw[U]at r;cases r)).trans M,d,r,q3,F⟩
theorem ym{p f b:Nat}{a:Addr}{y:Xj}{P:Unit->XB->Prop}(GK:jb G) (R:Rel G c g B s) (J:aF B.H p=W_ (a,.inst b cl fs)) (h1:fM f (G.pq cl)) (h2:fs.length<1000) (Y:VR G g w y)
  (fin:∀s',Rel G c g ⟨setAt B.H p (a,.inst b cl (ip fs f w)),B.r⟩ s'->P () s'):XT G.M A (setAttr (.ref a) (G.an f) y) P E s:=by
 obtain⟨b1,b2,b3⟩:=GK.fld _ _ h1;obtain⟨role,dx,Z,od,dt,O,e2,-,e4,m,vf,n,z,U,z4⟩:=R.at J;exact ui R.K b2 b3 O (qM e2) e4 n z (Xa (Yv h2) ll) λh' tk o' q2 q3 q4=>fin _ (R.mod (s':={s with heap:=h',toks:=tk}) J rfl rfl (Hh q2 q3) λrole' V e=>e.new V O q2 q3 (pM.set z U z4 (λi hi=>GK.inj _ _ hi b1) b1 Y q4))
theorem Bh{T:Hp}{f:Nat}{a t0:Addr}{J}{tk:Nat}(R:RH G role g ((a,.sY cl)::T) s) (q1:∀b o,b≠a->s.heap.get? b=W_ o->h'.get? b=W_ o)
  (q2:h'.get? a=W_ ⟨.ref (G.cA cl),W_ s.heap.objs.size,dT t0,J⟩) (q3:h'.get? s.heap.objs.size=W_ o') (F:pM G g [(f,w)] o'):RH G (gu role s.heap.objs.size (.pF a)) g ((a,.inst 1 cl [(f,w)])::T) {s with heap:=h',toks:=tk}:=by
 have fr:=Be R (Xh _);refine R.mod (s':={s with heap:=h',toks:=tk}) rfl rfl (λb o q W z=>q1 b o q z) (λb q=>aZ λe=>q (e▸fr)) (λb q=>?_) ⟨s.heap.objs.size,J,o',_,q2,⟨t0,rfl⟩,bS,q3,F⟩;by_cases z:b=s.heap.objs.size
 .exact⟨_,by rw[z];exact q3⟩
 .by_cases z2:b=a
  .exact⟨_,by rw[z2];exact q2⟩
  .obtain⟨o,y⟩:=R.sz b λy=>q ((aZ z).trans y);exact⟨o,q1 b o z2 y⟩
theorem Cg{p f:Nat}{a:Addr}{y:Xj}{P:Unit->XB->Prop}(GK:jb G) (R:Rel G c g B s) (J:aF B.H p=W_ (a,.sY cl)) (h1:fM f (G.pq cl)) (K:VR G g w y)
  (fin:∀s',Rel G c g ⟨setAt B.H p (a,.inst 1 cl [(f,w)]),B.r⟩ s'->P () s'):XT G.M A (setAttr (.ref a) (G.an f) y) P E s:=by
 obtain⟨b1,b2,b3⟩:=GK.fld _ _ h1;obtain⟨role,Lc,R,l⟩:=R;have R1:=R.perm ((dG J).append_right _);obtain⟨t0,U,O⟩:=(R1.hk _ (.head _)).2;exact rB (λa o e=>(R1.gk _ _ (R1.kb a o e)).1) b2 b3 O λh' tk o' q1 q2 q3 q4=>fin _ ⟨_,Lc,(Bh (tk:=tk) R1 q1 q2 q3
  (pM.set (fs:=[]) (vf:=λW=>y) ⟨#[],0,rfl,Xh _⟩ (λW W W=>rfl) (λW W W e=>nomatch e) (λi hi=>GK.inj _ _ hi b1) b1 K q4)).perm ((ni J).symm.append_right _),l⟩
theorem zI{p f:Nat}{x y:Xj}{k:Hp->Prop}{P:Unit->XB->Prop}(GK:jb G)(R:Rel G c g B s)(K:VR G g v x)(e:VR G g w y)(h:F2 G p f B.H v w k)
  (fin:∀H s',k H->Rel G c g ⟨H,B.r⟩ s'->P () s'):XT G.M A (setAttr x (G.an f) y) P E s:=by
 induction K with
 |ref a=>
  obtain⟨m,J,h⟩:=fK.to h;induction m with
  |inst b cl fs=>
   obtain⟨h1,h⟩:=ow.to h;obtain⟨h2,h⟩:=ow.to h;exact ym GK R J h1 (Xi h2) e λs'=>fin _ _ (cM h)|sY cl=>
   obtain⟨h1,h⟩:=ow.to h;exact Cg GK R J h1 e λs'=>fin _ _ (cM h)|_=>exact h.elim
 |_=>exact h.elim
def oK (p:Nat)(H:Hp)(v:V)(k:aP->Prop):Prop:=match v with|.sq _ l=>k l|.ref a=>fK H p a (Dj k)|_=>False
inductive Sq (G:cc)(g:bQ)(s:XB)(x:Xj)(k:aP->Prop):Prop|mk (b l vs a n:_)(h0:x=.ref a)(h1:s.heap.get? a=W_ ⟨.type (t7 b),Xk,.seq (YL vs) n,#[]⟩)(h2:cF G g l vs)(h3:k l)(h4:l.length<=16777216)
theorem oK.to{p:Nat}{x:Xj}{k:aP->Prop}(R:Rel G c g B s)(K:VR G g v x)(h:oK p B.H v k):Sq G g s x k:=by
 induction K with|sq b l vs a n e J M r=>exact⟨b,l,vs,a,n,rfl,R.gk e,⟨M,r⟩,h,J⟩|ref a=>obtain⟨l,O,h⟩:=Dj.to h;obtain⟨role,vs,n,U,J,e2⟩:=R.at O;exact⟨Xg,l,vs,_,n,rfl,U,e2,h,J⟩|_=>exact h.elim
theorem one_le(v:Nat): [v].length<=16777216:=by show 1<=_;decide
def C0(i:Int):Prop:=0<=i/\i<4611686018427387904
def nW (p:Nat)(H:Hp)(v:V)(k:List (ax×V)->Prop):Prop:=match v with|.cj l=>k l|.ref a=>fK H p a (Tp k)|_=>False
theorem qq (J:G.K.lookup Yu≠Xk)(R:Rel G c g B s){p:Nat}{a:Addr}(O:aF B.H p=W_ (a,mo)):(a==Yu)=Xb:=by
 rw[W9];rintro rfl;induction R with|mk role Lc R1 l=>
  generalize e:G.K.lookup Yu=M;induction M with|none=>exact J e|some o=>have:=(R1.gk _ _ (R1.kb _ _ e)).2;rw[(R1.hk _ (X9 _ (Yq ((bf _ _).symm.trans O)))).1]at this;cases this
variable{β:Type}
theorem KR.len{φ:α->β}{l:List (α×V)}{kvs:List (β×Xj)}(r:KR G g φ l kvs):kvs.length=l.length:=by have:=WX List.length r.1;rwa[Xl,Xl]at this
inductive S2 (G:cc)(g:bQ)(s:XB)(x:Xj)(k:List (ax×V)->Prop):Prop|mk (l kvs a:_)(h0:x=.ref a)(h1:s.heap.DictOf (YC G.prog G.w) a kvs)(h2:KR G g (λk=>(⟨k.toArray⟩:Str)) l kvs)(h3:(G.K.lookup Yu≠Xk->(a==Yu)=Xb))(h4:k l)
theorem nW.to{p:Nat}{x:Xj}{k:List (ax×V)->Prop}(R:Rel G c g B s)(J:VR G g v x)(h:nW p B.H v k):S2 G g s x k:=by
 cases v with|cj l=>
  obtain⟨a,o,kvs,rfl,e,hd,ns,M⟩:=J.m6;exact⟨l,kvs,a,rfl,Heap.dictOf_iff.mpr ⟨o,R.gk e,hd⟩,M,λW=>ns,h⟩|ref a=>
  obtain⟨l,K,h⟩:=Tp.to h;obtain rfl:=J.dZ;obtain⟨role,kvs,h0,r⟩:=R.at K;exact⟨l,kvs,_,rfl,h0,r,λhs=>qq hs R K,h⟩|_=>exact h.elim
inductive ky{α:Type}(l:List α)(i:Int)(k:α->Prop):Prop|mk(h:C0 i)(v:α)(e:aF l i.toNat=W_ v)(w:k v)
def aaB(b:V)(k:V->Prop)(m:MO):Prop:=match m with|.bz l=>d6 b λi=>∃v,l.lookup i=W_ v/\k v|.aU l=>eE b λi=>∃v,l.lookup i=W_ v/\k v|.list l=>d6 b λi=>ky l i k|_=>False
def A2 (p:Nat)(H:Hp)(a b:V)(k:V->Prop):Prop:=match a with|.str l=>d6 b λi=>ky l i λv=>k (.str [v])|.ref r=>fK H p r (aaB b k)|.sq _ l=>d6 b λi=>ky l i k|.cj l=>nW p H a λl=>eE b λi=>∃v,l.lookup i=W_ v/\k v|_=>False
def WD(k:V->Prop)(l:aP):Prop:= ∃v,l.getLast?=W_ v/\k v
def Ay (p:Nat)(H:Hp)(a:V)(k:V->Prop):Prop:=match a with|.str l=>∃v,l.getLast?=W_ v/\k (.str [v])|a=>oK p H a (WD k)
theorem oJ{i:Int}(h0:0<=i)(h:i.toNat<n):seqIndex? i n=W_ i.toNat:=by unfold seqIndex?;have h1: ¬i<0:=ZN.mpr h0;have h2:i<n:=(Int.toNat_lt h0).mp h;simp only[h1,h0,h2,if_false,and_self,decide_true,Bool.and_self,if_true]
theorem KR.get[BEq α][LawfulBEq α][DecidableEq β] {φ:α->β}(inj:∀a b,φ a=φ b->a=b){k:α}:∀{l:List (α×V)}{kvs:List (β×Xj)},KR G g φ l kvs->
  match l.lookup k with|some v=>∃x,valueAt kvs (φ k)=W_ x/\VR G g v x|none=>valueAt kvs (φ k)=Xk:=by
 intro l;induction l with
 |nil=>
  rintro(_|⟨y,kvs⟩) r
  .rfl
  .cases r.1|cons y l ih=>
  rintro(_|⟨z,kvs⟩) r
  .cases r.1
  .obtain⟨K,J⟩:=r;rw[Ys,Ys]at K;obtain⟨M,e2⟩:=ZU K;have hd:=J.2 0 y.2 z.2 rfl rfl;have tl:KR G g φ l kvs:=⟨e2,Yg J.1,λi x v a b=>J.2 (i+1) x v a b⟩;obtain⟨a,b⟩:=y;rw[Yo];unfold valueAt;rw[List.find?_cons];by_cases q:k=a
   .subst q;rw[WY];dsimp only;rw[W4 (by exact M)];exact⟨_,rfl,hd⟩
   .rw[W9.mpr q];dsimp only;rw[W2 (λe=>q (inj _ _ (M.symm.trans e).symm))];exact ih tl
theorem str_inj (a b:ax)(h:(⟨a.toArray⟩:Str)=⟨b.toArray⟩):a=b:=WX Array.toList (WX Str.cps h)
theorem zJ{b:Bool}{l:aP}{a:Addr}{i:Int}{t:Tok}(U:s.heap.get? a=W_ ⟨.type (t7 b),Xk,.seq (YL vs) n,#[]⟩) (r:cF G g l vs) (hi:C0 i) (e:aF l i.toNat=W_ v)
  {V e2:Xd}(hs:∀o i,Zz e2 Xb o i=operate [o,i] (getItem o i)) (fin:∀x,VR G g v x->P x s):XT G.M A (ZR V e2 (.ref a) (.int i t)) P E s:=by
 rw[bf]at e;obtain⟨x,J,O⟩:=r.get e;cases b
 .exact item_tupleT ⟨_,U,rfl,n,rfl⟩ (VN hi.1) (VC hi.2) (oJ hi.1 (XK.mp J).1) J (fin _ O) (hs _ _)
 .have K:s.heap.IsList a vs.toArray:=⟨_,U,rfl,n,rfl⟩;exact YH K.typeIs slot_list_getitem.lookup (wpAny_getItem_list K hi.1 (VC hi.2) (by rw[Yx];exact J) (fin _ O)) (hs _ _)
theorem p8{l:ax}{i:Int}{t u:Tok}{j v:Nat}(hi:i<4611686018427387904/\ -4611686018427387904<i) (J:seqIndex? i l.length=W_ j) (e:l[j]?=W_ v)
  {K e2:Xd}(hs:∀o i,Zz e2 Xb o i=operate [o,i] (getItem o i)) (fin:∀tk,P (.str ⟨[v].toArray⟩ tk) {s with toks:=s.toks+1}):XT G.M A (ZR K e2 (.str ⟨l.toArray⟩ t) (.int i u)) P E s:=by
 refine YH (T:="str") rfl slot_str_getitem.lookup (getItem_str (c:=v) ?_ ?_ (fin _)) (hs _ _)
 .rw[W2,W2] <;>first|rfl|lia
 .show(seqIndex? i l.toArray.size).bind (l.toArray[·]?)=W_ v;rw[XC,J];exact(Yx).trans e
theorem A1 {p:Nat}{a b:V}{x y:Xj}{k:V->Prop}{e1 e2:Xd}(hs:∀o i,Zz e2 Xb o i=operate [o,i] (getItem o i)) (R:Rel G c g B s) (K:VR G g a x) (J:VR G g b y) (h:A2 p B.H a b k)
  (fin:∀v val t,VR G g v val->k v->P val {s with toks:=t}):XT G.M A (ZR e1 e2 x y) P E s:=by
 have sq:∀{l:aP},(oK p B.H a λl'=>l'=l)->(d6 b λi=>ky l i k)->XT G.M A (ZR e1 e2 x y) P E s:=by intro l h0 h;obtain⟨_,_,vs,r,n,rfl,h1,h2,rfl,-⟩:=h0.to R K;obtain⟨i,t,rfl,hi,v,h3,q⟩:=d6.run h J;exact zJ h1 h2 hi h3 hs λz hz=>fin v z s.toks hz q
 have dc:(nW p B.H a λl=>eE b λi=>∃v,l.lookup i=W_ v/\k v)->XT G.M A (ZR e1 e2 x y) P E s:=λh=>by
  obtain⟨l,kvs,r,rfl,h0,kr,-,h⟩:=h.to R K;obtain⟨i,t,rfl,⟨v,U,q⟩,-⟩:=eE.run h J;have:=kr.get str_inj (k:=i);rw[U]at this;obtain⟨w,O,Y⟩:=this
  exact YH h0.mapOf.typeIs slot_dict_getitem.lookup (PySem.wpAny_getItem_of (Z1 _ _ _ _) h0.mapOf O (fin _ _ _ Y q)) (hs _ _)
 cases a with
 |cj l=>exact dc h|str l=>
  obtain⟨i,t,rfl,hi,v,e,q⟩:=d6.run (show d6 b _ from h) J;obtain⟨t',rfl,-⟩:=K.str_inv;rw[bf]at e;exact p8 ⟨hi.2,Int.lt_of_lt_of_le (by decide) hi.1⟩ (oJ hi.1 (XK.mp e).1) e hs λtk=>fin _ _ _ (.str [v] _ (one_le v)) q|sq b l=>exact sq rfl h|ref r=>
  obtain⟨m,Z,h⟩:=fK.to h;induction m with
  |bz l=>
   obtain⟨i,t,rfl,v,U,q⟩:=d6.run h J
   obtain rfl:=K.dZ
   obtain⟨role,kvs,h0,r⟩:=R.at Z
   have:=r.get (λW W e=>e) (k:=i);rw[U]at this;obtain⟨w,O,Y⟩:=this;exact YH h0.mapOf.typeIs slot_dict_getitem.lookup (PySem.wpAny_getItem_of (intKind_is _ _ i _) h0.mapOf O (fin _ _ _ Y q)) (hs _ _)
  |aU l=>exact dc (fK.of Z h)
  |list l=>exact sq (fK.of Z rfl) h
  |_=>exact h.elim
 |_=>exact h.elim
variable{pos:Pos}
theorem wX{p:Nat}{e i:Xd}(hs:∀o x,Zz i Xb o x=operate [o,x] (getItem o x))(h:bK G c e B (λa σ1=>bK G c i σ1 (λb σ2=>A2 p σ2.H a b λv=>Q v σ2) X) X):bK G c (.Subscript e i pos) B Q X:=λg s R=>
 Zp (Ev.go .refl R h λZ a x σ1 Y k1 W O R1 h1=>Ev.go k1 R1 h1 λU b y σ2 V k2 J M R2 h2=>A1 hs R2 (O.mono J) M h2 λv val t K q=>⟨U,v,σ2,k2,K,R2.tok,q⟩)
theorem Ax {p:Nat}{a:V}{x:Xj}{t:Tok}{k:V->Prop}{e1 e2:Xd}(hs:∀o i,Zz e2 Xb o i=operate [o,i] (getItem o i)) (R:Rel G c g B s) (Z:VR G g a x) (h:Ay p B.H a k)
  (fin:∀v val t,VR G g v val->k v->P val {s with toks:=t}):XT G.M A (ZR e1 e2 x (.int (-1) t)) P E s:=by
 have rW:∀n:Nat,0<n->seqIndex? (-1) n=W_ (n-1):=by intro n h;unfold seqIndex?;have h2:(0:Int)<= -1+n:=Int.add_le_add_left (Yw.mpr h) (-1);have h3:=tn2 h;have h4:(-1:Int)+n<n:=Int.lt_of_lt_of_le (Int.add_lt_add_right (by decide) n) (Int.le_of_eq (Int.zero_add _));simp only[show(-1:Int)<0 by decide,h2,h3,h4,if_true,and_self,decide_true,Bool.and_self]
 have sq:(oK p B.H a λl=>∃v,l.getLast?=W_ v/\k v)->XT G.M A (ZR e1 e2 x (.int (-1) t)) P E s:=by
  intro h0;obtain⟨b,l,vs,r,n,rfl,h1,h2,⟨v,h3,q⟩,-⟩:=h0.to R Z;rw[List.getLast?_eq_getElem?]at h3;obtain⟨w,K,Y⟩:=h2.get h3;have hl:=h2.1;have J:=(XK.mp K).1;rw[hl]at K J;have O:0<vs.length:=Xz (Ye _) J;cases b
  .exact item_tupleT ⟨_,h1,rfl,n,rfl⟩ (by decide) (by decide) (rW _ O) K (fin _ _ s.toks Y q) (hs _ _)
  .have U:s.heap.IsList r vs.toArray:=⟨_,h1,rfl,n,rfl⟩;have e:((-1:Int)+(vs.toArray.size:Int)).toNat=vs.length-1:=by rw[XC];exact tn2 O
   exact YH U.typeIs slot_list_getitem.lookup (wpAny_getItem_list_neg U (by decide) (by rw[XC];exact ng1 O) (by decide) (by rw[e,Yx];exact K) (fin _ _ s.toks Y q)) (hs _ _)
 cases a with|str l=>obtain⟨v,e,q⟩:=h;obtain⟨t',rfl,-⟩:=Z.str_inv;rw[List.getLast?_eq_getElem?]at e;exact p8 (by decide) (rW _ (Xz (Ye _) (XK.mp e).1)) e hs λtk=>fin _ _ _ (.str [v] _ (one_le v)) q|_=>exact sq h
theorem H8{p:Nat}{e i:Xd}(hs:∀o x,Zz i Xb o x=operate [o,x] (getItem o x))(hi:∀{B Q X},Q (.int (-1)) B->bK G c i B Q X)(h:bK G c e B (λa σ1=>Ay p σ1.H a λv=>Q v σ1) X):bK G c (.Subscript e i pos) B Q X:=λg s R=>
 Zp (Ev.go .refl R h λg1 a x σ1 Z k1 W O R1 h1=>Ev.go (Q:=λb σ2=>b=.int (-1)/\Ay p σ2.H a λv=>Q v σ2) k1 R1 (hi ⟨rfl,h1⟩) λU b y σ2 Y k2 J M R2 h2=>by obtain⟨rfl,h2⟩:=h2;obtain⟨V,rfl⟩:=M.int_inv;exact Ax hs R2 (O.mono J) h2 λv val t K q=>⟨U,v,σ2,k2,K,R2.tok,q⟩)
def eqG (a b:V):Option Bool:=match a with|.int i=>(match b with|.int j=>W_ (decide (i=j))|_=>Xk)|.str a=>(match b with|.str b=>W_ (sEq a b)|_=>Xk)|_=>Xk
noncomputable def Nl (a b:Option Bool):Option Bool:=match a with|some x=>(match b with|some y=>W_ (x||y)|none=>Xk)|none=>Xk
inductive OrO(a b:Option Bool)(z:Bool):Prop|mk(x y:_)(h1:a=W_ x)(h2:b=W_ y)(e:(x||y)=z)
theorem Nl.to{a b:Option Bool}{z:Bool}(h:Nl a b=W_ z):OrO a b z:=by induction a with|none=>exact gG h|some x=>induction b with|none=>exact gG h|some y=>exact⟨x,y,rfl,rfl,XG h⟩
noncomputable def dy (a:V):aP->Option Bool|[]=>W_ Xb|y::l=>Nl (eqG y a) (dy a l)
def aaE (a:V)(k:Bool->Prop)(m:MO):Prop:=match m with|.list l=>ck (dy a l) k|.aU l=>eE a λi=>k (l.lookup i).isSome|_=>False
def inP (p:Nat)(H:Hp)(a b:V)(k:Bool->Prop):Prop:=match b with|.sq _ l=>ck (dy a l) k|.ref r=>fK H p r (aaE a k)|.cj l=>nW p H b λl=>eE a λi=>k (l.lookup i).isSome|_=>False
noncomputable def kC(x y:Xj):Bool:=match y,x with|.int i _,.int j _=>i==j|.str i _,.str j _=>i==j|_,_=>Xb
theorem BD{a b:V}{x y:Xj}{z:Bool}(h:eqG a b=W_ z)(K:VR G g a x)(J:VR G g b y):MeetsSeq.EqGives x y (kC y x)/\kC y x=z:=by
 cases a with
 |int i=>cases b with|int j=>obtain rfl:=XG h;obtain⟨e,rfl⟩:=K.int_inv;obtain⟨e,rfl⟩:=J.int_inv;exact⟨MeetsSeq.EqGives.int _ _ _ _,by show(i==j)=_;rw[Bool.eq_iff_iff,W8,decide_eq_true_iff]⟩|_=>exact gG h
 |str i=>cases b with
  |str j=>obtain rfl:=XG h;obtain⟨e,rfl,-⟩:=K.str_inv;obtain⟨e,rfl,-⟩:=J.str_inv;exact⟨eqGives_str _ _ _ _,str_beq _ _⟩|_=>exact gG h
 |_=>exact gG h
theorem vt{a:V}{x:Xj}(e:VR G g a x):∀{l:aP}{vs:List Xj}{z:Bool},cF G g l vs->dy a l=W_ z->(∀y∈vs,MeetsSeq.EqGives y x (kC x y))/\vs.any (kC x)=z:=by
 intro l;induction l with
 |nil=>
  rintro(_|⟨y,vs⟩) z r h
  .cases h;exact⟨λW h=>(nomatch h),rfl⟩
  .cases r.1|cons v l ih=>
  rintro(_|⟨y,vs⟩) z r h
  .cases r.1
  .obtain⟨b,O,h1,h2,rfl⟩:=Nl.to h;obtain⟨M,e2⟩:=BD h1 (r.2 0 _ _ rfl rfl) e;obtain⟨K,J⟩:=ih ⟨Yg r.1,λi x v a b=>r.2 (i+1) x v a b⟩ h2;exact⟨λw hw=>by
    rcases Xv.mp hw with rfl|hw
    .exact M
    .exact K w hw,by rw[List.any_cons,e2,J]⟩
noncomputable def AW(n:Bool):CmpOp:=match n with|true=>.NotIn|false=>.In
noncomputable def neg?(n b:Bool):Bool:=match n with|true=>!b|false=>b
theorem Hy{p:Nat}{n:Bool}{a b:V}{x y:Xj}{k:Bool->Prop}(J:G.K.lookup Yu≠Xk) (R:Rel G c g B s) (Z:VR G g a x) (Y:VR G g b y) (h:inP p B.H a b k)
  (fin:∀z t,k z->P (.bool (neg? n z)) {s with toks:=t}):XT G.M A (compareOp (AW n) x y) P E s:=by
 have sq:∀{l:aP}{z:Bool},(oK p B.H b λl'=>l'=l)->dy a l=W_ z->k z->XT G.M A (compareOp (AW n) x y) P E s:=by
  intro l z h0 hm q;obtain⟨b,_,vs,r,m,rfl,h1,h2,rfl,-⟩:=h0.to R Y;obtain⟨h3,h4⟩:=vt Z h2 hm
  have h4:vs.toArray.any (kC x)=z:=by rw[List.any_toArray];exact h4
  have h3:∀y∈vs.toArray,MeetsSeq.EqGives y x (kC x y):=λy hy=>h3 y (List.mem_toArray.mp hy)
  have q:=fin z s.toks q;cases b<;>cases n
  .exact SeqRoads2.in_tuple _ h3 h1 (by rw[h4];exact q)
  .exact SeqRoads2.notIn_tuple _ h3 h1 (by rw[h4];exact q)
  .exact SeqRoads2.in_list _ h3 h1 (by rw[h4];exact q)
  .exact SeqRoads2.notIn_list _ h3 h1 (by rw[h4];exact q)
 have dc:(nW p B.H b λl=>eE a λi=>k (l.lookup i).isSome)->XT G.M A (compareOp (AW n) x y) P E s:=λh=>by
  obtain⟨l,kvs,r,rfl,h0,kr,ne,h⟩:=h.to R Y;obtain⟨i,t,rfl,q,-⟩:=eE.run h Z
  have z:(valueAt kvs ⟨i.toArray⟩).isSome=(l.lookup i).isSome:=by
   have:=kr.get str_inj (k:=i)
   generalize e:l.lookup i=zz;induction zz with
   |none=>rw[e]at this;rw[this];rfl
   |some v=>rw[e]at this;obtain⟨w,hw,-⟩:=this;rw[hw];rfl
  cases n
  .exact wpAny_in_of (Z1 _ _ _ _) (ne J) h0.mapOf (by rw[z];exact fin _ _ q)
  .exact wpAny_notIn_of (Z1 _ _ _ _) (ne J) h0.mapOf (by rw[z];exact fin _ _ q)
 cases b with
 |cj l=>exact dc h|sq b l=>
  obtain⟨z,O,h⟩:=ck.to h;exact sq rfl O h|ref r=>
  obtain⟨m,U,h⟩:=fK.to h
  induction m with
  |list l=>
   obtain⟨z,O,h⟩:=ck.to h
   exact sq (fK.of U rfl) O h
  |aU l=>exact dc (fK.of U h)
  |_=>exact h.elim
 |_=>exact h.elim
abbrev PK:=Hp->aP->(V->Hp->Prop)->Prop
def Prim (G:cc)(t:List Xj->Sem Xj)(K:PK):Prop:=
 ∀{c:Cx}{g:bQ}{B:St}{s:XB}{A:Za}{E P:Xj->XB->Prop}{l:aP}{vs:List Xj}{k:V->Hp->Prop},A.handled=Xk->Rel G c g B s->cF G g l vs->K B.H l k->
  (∀g' v x H' s',g.le g'->VR G g' v x->Rel G c g' ⟨H',B.r⟩ s'->k v H'->P x s')->XT G.M A (t vs) P E s
def b0(c:Cx)(xs:List Xd):Prop:=YJ xs c.env=xs.map λx=>(Xb,eval x c.env)
theorem plain_any{p:Pos}{xs:List Xd}(h:b0 c xs):(ZA p (YJ xs c.env)).any (λW=>W.1)=Xb:=by unfold ZA;rw[h,Yn,List.any_map,List.any_eq_false];intro x _;exact Xy
theorem dh{f:Xj}{p:Pos}{xs:List Xd}{P:Args->XB->Prop}(J:b0 c xs)(R:Rel G c g B s)(h:jC G c p xs B Q X)
  (hk:∀g' l vs σ' s',g.le g'->cF G g' l vs->Rel G c g' σ' s'->Q (.tup l) σ'->P ⟨vs,[]⟩ s'):XT G.M c.A (evalArgs f Xg (ZA p (YJ xs c.env)) []) P (XW G c g X) s:=by
 have z:=Ev.Pf (P:=λvs s'=>P ⟨vs,[]⟩ s') .refl R h λg' l vs σ' s' k W K R' q=>hk g' l vs σ' s' k K R' q;induction xs using Xn with|nil=>exact λΓ q hΓ=>PySem.evalArgs_none (z Γ q hΓ) Γ q hΓ|cons x xs=>
  have e:ZA p (YJ (x::xs) c.env)=(Xb,eval x c.env)::ZA p (xs.map λx=>(Xb,eval x c.env)):=by rw[J];rfl
  rw[e]at z⊢;exact evalArgs_plain z
noncomputable def fnAt (G:cc)(x:Str)(f:Xj):Bool:=nsIn G.K Yj x==W_ Xk&&nsIn G.K builtinsNs x==W_ (W_ f)
theorem callWith_type{T:String}{args:List (Bool×Sem Xj)}{M:Model}(e:args.any (λW=>W.1)=Xb)
  (h:XT M A (evalArgs (.type T) Xg args []) (λa s₁=>XT M A (call (.type T) a.pos a.kw) P E s₁) E s):XT M A (callWith pos (.type T) [] args []) P E s:=by
 unfold callWith;refine Xe (X8 (XY h (λa s₁ h₁=>Xe (Yd ?_)) λW W x=>x));rw[e];refine Xe (Xo ?_);exact Xe (XY h₁ (λr s₂ J=>Xe (X8 (wpAny_point (Xo J)))) λW W x=>x)
variable{px:Pos}
theorem Px{x:Str}{f:Xj}{args:List Xd}{p:Pos}{K:PK}(O:bg c) (hd:c.hd) (hf:(∃i,f=.builtin i) \/ ∃T,f=.type T) (Y:Prim G (λvs=>call f vs) K) (J:b0 c args) (hk:c.env.kindOf x=W_ .globalImplicit)
  (U:(x==("__debug__":Str))=Xb) (e:fnAt G x f) (h:jC G c p args B (λl σ'=>isQ Xb l λl=>K σ'.H l λv H'=>Q v ⟨H',σ'.r⟩) X):bK G c (.Call (.Name x px) args [] p) B Q X:=λg s R=>by
 unfold fnAt at e;rw[XS,W8,W8]at e;refine Y0 (ju O R.K hk U e.1 e.2 px ?_);have body:XT G.M c.A (evalArgs f Xg (ZA p (YJ args c.env)) []) (λa s₁=>XT G.M c.A (call f a.pos a.kw) (QW G c g Q) (XW G c g X) s₁) (XW G c g X) s:=
  dh J R h λg' l vs σ' s' k Z R' q=>Y (O.room.h hd) R' Z q λg2 v y H' s2 k2 V R2 q2=>⟨g2,v,_,k.trans k2,V,R2,q2⟩
 rcases hf with⟨i,rfl⟩|⟨T,rfl⟩
 .exact callWith_builtin (first:=[]) (plain_any J) body
 .exact callWith_type (plain_any J) body
theorem i'{o:Xd}{T id:String}{args:List Xd}{ap p:Pos}{K:PK}{ty:Hp->V->Prop}(O:bg c) (hd:c.hd) (hb:∀w,Zm o name c.env w=w) (J:args.length<20) (Z:b0 c args) (hl:(ap.endLine==p.line))
  (pa:PlainAttrs T) (e:Slot T name id) (Y:typeOf (.builtin id)=pure (.type "method_descriptor")) (hp:Prim G (λvs=>call (.builtin id) vs) K)
  (hT:∀{g B s v x},Rel G c g B s->VR G g v x->ty B.H v->s.TypeIs x T/\ ∀a,x=.ref a-> ∃ob,s.heap.get? a=W_ ob/\ob.dict=Xk)
  (h:bK G c o B (λv σ1=>ty σ1.H v/\jC G c p args σ1 (λl σ'=>isQ Xb l λl=>K σ'.H (v::l) λv H'=>Q v ⟨H',σ'.r⟩) X) X):bK G c (.Call (.Attribute o name ap) args [] p) B Q X:=λg s R=>by
 refine wpAny_Call_method (hb _) ?_ hl pa e Y (Ev.go .refl R h λg1 v x σ1 s1 k1 W U R1 q1=>?_)
 .have e1:(ZA p (YJ args c.env)).all (λx=>!x.1)=Xg:=by unfold ZA;rw[Z,Yn,List.all_map,XM];exact λW W=>rfl
  rw[e1];show decide (args.length+0+0<30);exact W4 (rE (Xm (Xm (jL J) (Xh 0)) (Xh 0)) (W3 (_root_.id (Eq.refl Xg))))
 .obtain⟨t1,t2⟩:=hT R1 U q1.1;refine⟨t1,t2,callWith_builtin (first:=[x]) (plain_any Z) ?_⟩;exact XY (dh (P:=λa s₁=>XT G.M c.A (call (.builtin id) ([x]++a.pos) a.kw) (QW G c g Q) (XW G c g X) s₁) Z R1 q1.2 λg' l vs σ' s' k hl R' q=>hp (O.room.h hd) R' (cF.cons (U.mono k) hl) q λg2 v y H' s2 k2 U R2 q2=>⟨g2,v,_,k1.trans (k.trans k2),U,R2,q2⟩) (λW W z=>z) λW W z=>z.mono k1
noncomputable def S(l:ax):Str:=⟨l.toArray⟩
noncomputable def dec (i:Int):ax:=(Str.ofString (toString i)).cps.toList
inductive acy(G:cc)(g:bQ)(x:V)(vs:List Xj):Prop|mk(v:_)(h0:vs=[v])(h1:VR G g x v)
theorem cF.one{x:V}(r:cF G g [x] vs):acy G g x vs:=by
 rcases vs with _|⟨v,_|⟨u,vs⟩⟩
 .cases r.1
 .exact⟨v,rfl,r.2 0 _ _ rfl rfl⟩
 .cases Yg r.1
inductive acx(G:cc)(g:bQ)(x:V)(y:V)(vs:List Xj):Prop|mk(u v:_)(h0:vs=[u,v])(h1:VR G g x u)(h2:VR G g y v)
theorem cF.two{x y:V}(r:cF G g [x,y] vs):acx G g x y vs:=by
 rcases vs with _|⟨u,_|⟨v,_|⟨z,vs⟩⟩⟩
 .cases r.1
 .cases Yg r.1
 .exact⟨u,v,rfl,r.2 0 _ _ rfl rfl,r.2 1 _ _ rfl rfl⟩
 .cases Yg (Yg r.1)
inductive Jh(G:cc)(g:bQ)(x:V)(y:V)(z:V)(vs:List Xj):Prop|mk(u v w:_)(h0:vs=[u,v,w])(h1:VR G g x u)(h2:VR G g y v)(h3:VR G g z w)
theorem cF.three{x y z:V}(r:cF G g [x,y,z] vs):Jh G g x y z vs:=by
 rcases vs with _|⟨u,_|⟨v,_|⟨w,_|⟨z,vs⟩⟩⟩⟩
 .cases r.1
 .cases Yg r.1
 .cases Yg (Yg r.1)
 .exact⟨u,v,w,rfl,r.2 0 _ _ rfl rfl,r.2 1 _ _ rfl rfl,r.2 2 _ _ rfl rfl⟩
 .cases Yg (Yg (Yg r.1))
def k1 (K:Hp->V->(V->Hp->Prop)->Prop):PK:=λH l k=>jf (λv=>K H v k) l
def k2(K:Hp->V->V->(V->Hp->Prop)->Prop):PK:=λH l k=>match l with|[v,w]=>K H v w k|_=>False
def bL (G:cc)(t:List Xj->Sem Xj)(K:Hp->V->(V->Hp->Prop)->Prop):Prop:=
 ∀{c:Cx}{g:bQ}{B:St}{s:XB}{A:Za}{E P:Xj->XB->Prop}{v:V}{x:Xj}{k:V->Hp->Prop},A.handled=Xk->Rel G c g B s->VR G g v x->K B.H v k->
  (∀g' v x H' s',g.le g'->VR G g' v x->Rel G c g' ⟨H',B.r⟩ s'->k v H'->P x s')->XT G.M A (t [x]) P E s
theorem bL.to{t:List Xj->Sem Xj}{K:Hp->V->(V->Hp->Prop)->Prop}(h:bL G t K):Prim G t (k1 K):=by intro c g B s A E P l vs k hh R J q fin;obtain⟨v,rfl,q⟩:=jf.to q;obtain⟨x,rfl,e⟩:=J.one;exact h hh R e q fin
def fg (G:cc)(t:List Xj->Sem Xj)(K:Hp->V->V->(V->Hp->Prop)->Prop):Prop:=
 ∀{c:Cx}{g:bQ}{B:St}{s:XB}{A:Za}{E P:Xj->XB->Prop}{v w:V}{x y:Xj}{k:V->Hp->Prop},A.handled=Xk->Rel G c g B s->VR G g v x->VR G g w y->K B.H v w k->
  (∀g' v x H' s',g.le g'->VR G g' v x->Rel G c g' ⟨H',B.r⟩ s'->k v H'->P x s')->XT G.M A (t [x,y]) P E s
theorem fg.to{t:List Xj->Sem Xj}{K:Hp->V->V->(V->Hp->Prop)->Prop}(h:fg G t K):Prim G t (k2 K):=by
 intro c g B s A E P l vs k hh R M q fin;induction l using Xn with
 |nil=>exact q.elim|cons v l=>induction l using Xn with
  |nil=>exact q.elim|cons w l=>induction l using Xn with
   |nil=>obtain⟨v,w,rfl,J,e⟩:=M.two;exact h hh R J e q fin|cons=>exact q.elim
theorem cF.list{b:Bool}{l:aP}{a:Addr}(h:s.heap.get? a=W_ ⟨.type (t7 b),Xk,.seq (YL vs) n,#[]⟩):(b->s.heap.IsList a vs.toArray)/\(b=Xb->IsTup s.heap a vs.toArray):=
 ⟨λe=>by subst e;exact⟨_,h,rfl,n,rfl⟩,λe=>by subst e;exact⟨_,h,rfl,n,rfl⟩⟩
def Of (H:Hp)(k:V->Hp->Prop)(m:MO):Prop:=match m with|.list l=>k (.int l.length) H|.aU l=>l.length<=16777216/\k (.int l.length) H|_=>False
def OL (p:Nat):Hp->V->(V->Hp->Prop)->Prop:=λH v k=>match v with|.str s=>k (.int s.length) H|.sq _ l=>k (.int l.length) H|.ref a=>fK H p a (Of H k)|.cj l=>nW p H v λl=>l.length<=16777216/\k (.int l.length) H|_=>False
theorem uI{p:Nat}(J:G.K.lookup Yu≠Xk):bL G (λvs=>call (.builtin "len") vs) (OL p):=by
 intro c g B s A E P v x k _ R U h fin;have sq:∀{l:aP},(oK p B.H v λZ=>Z=l)->k (.int l.length) B.H->XT G.M A (call (.builtin "len") [x]) P E s:=by
  intro l h0 q;obtain⟨b,_,vs,r,m,rfl,h1,h2,rfl,O⟩:=h0.to R U;have z:=cF.list (l:=[]) h1;rw[h2.1]at q O;cases b
  .exact PyProof.Rows.len_tuple (z.2 rfl) (by rw[XC];exact yO ‹_›) (by rw[XC];exact fin _ _ _ _ _ .refl (.int _ _) R.tok q)
  .exact call_len_list (z.1 rfl) (by rw[XC];exact yO ‹_›) (by rw[XC];exact fin _ _ _ _ _ .refl (.int _ _) R.tok q)
 have Y:(nW p B.H v λl=>l.length<=16777216/\k (.int l.length) B.H)->XT G.M A (call (.builtin "len") [x]) P E s:=λh=>by obtain⟨l,kvs,a,rfl,h0,r,ne,O,h⟩:=h.to R U;have e:=r.len;exact call_len_dict (ne J) h0 (yO (Xa (X4 ‹_›) ‹l.length<=16777216›)) (by rw[e];exact fin _ _ _ _ _ .refl (.int _ _) R.tok h)
 cases v with
 |cj l=>exact Y h|str l=>
  obtain⟨t,rfl,O⟩:=U.str_inv;exact PySem.P.len_str (by show ¬(l.toArray.size:Int) >=_;rw[XC];exact Int.not_le.mpr (yO ‹_›)) (by show P (.int (l.toArray.size:Nat) _) _;rw[XC];exact fin _ _ _ _ _ .refl (.int _ _) R.tok h)|sq b l=>exact sq rfl h|ref a=>
  obtain⟨m,V,h⟩:=fK.to h;induction m with
  |list l=>exact sq (fK.of V rfl) h
  |aU l=>exact Y (fK.of V h)
  |_=>exact h.elim
 |_=>exact h.elim
def OI:Hp->V->(V->Hp->Prop)->Prop:=λH v k=>eE v (jf λc=>k (.int c) H)
theorem uF:bL G (λvs=>call (.builtin "ord") vs) OI:=by intro c g B s A E P v x k _ R e h fin;obtain⟨l,t,rfl,h1,-⟩:=eE.run h e;obtain⟨c,rfl,h1⟩:=jf.to h1;exact PySem.P.ord_of_char (fin _ _ _ _ _ .refl (.int _ _) R.tok h1)
def OT:Hp->V->(V->Hp->Prop)->Prop:=λH v k=>d6 v λi=>(0<=i/\i<=1114111)/\k (.str [i.toNat]) H
theorem uR:bL G (λvs=>call (.builtin "chr") vs) OT:=by intro c g B s A E P v x k _ R e h fin;obtain⟨i,t,rfl,h1,h2⟩:=d6.run h e;exact PyProof.Rows.chr_of_range h1.1 h1.2 (fin _ _ _ _ _ .refl (.str _ _ (one_le _)) R.tok h2)
def OX:Hp->V->(V->Hp->Prop)->Prop:=λH v k=>d6 v λi=>k (.int (if i<0 then-i else i)) H
theorem uU:bL G (λvs=>call (.builtin "abs") vs) OX:=by intro c g B s A E P v x k _ R e h fin;obtain⟨i,t,rfl,h1⟩:=d6.run h e;exact call_abs_int λu tk=>fin _ _ _ _ _ .refl (.int _ _) R.tok h1
def OP:Hp->V->(V->Hp->Prop)->Prop:=λH v k=>eE v λs=>∃n,(PySem.intText? (S s)=W_ n/\s.length<=640)/\k (.int n) H
theorem uM:bL G (λvs=>call (.type "int") vs) OP:=by intro c g B s A E P v x k _ R e h fin;obtain⟨i,t,rfl,⟨n,h1,h2⟩,-⟩:=eE.run h e;exact PySem.W.KIN.call_text h1.1 h1.2 (fin _ _ _ _ _ .refl (.int _ _) R.tok h2)
def OC:Hp->V->(V->Hp->Prop)->Prop:=λH v k=>d6 v λi=>(i.natAbs.log2<1920/\(dec i).length<=16777216)/\k (.str (dec i)) H
theorem uz:bL G (λvs=>call (.type "str") vs) OC:=by intro c g B s A E P v x k _ R e h fin;obtain⟨i,t,rfl,h1,h2⟩:=d6.run h e;exact PySem.P.str_of_int h1.1 (fin _ _ _ _ _ .refl (VR.FU h1.2) R.tok h2)
def fk (p:Nat)(H:Hp)(v:V)(k:aP->Prop):Prop:=match v with|.sq Xg l=>k l|.ref a=>fK H p a (Dj k)|_=>False
inductive SG (G:cc)(g:bQ)(h:Heap)(k:aP->Prop):Xj->Prop|mk (l:aP)(vs:List Xj)(a:Addr)(n:Nat)(h1:IsL h a (YL vs) n)(h2:cF G g l vs)(q:k l)(hz:l.length<=16777216):SG G g h k (.ref a)
inductive SH (G:cc)(g:bQ)(h:Heap)(H:Hp)(p:Nat)(k:Addr->aP->Prop):Xj->Prop|mk (l:aP)(vs:List Xj)(a:Addr)(n:Nat)(hg:aF H p=W_ (a,.list l))(h1:IsL h a (YL vs) n)(h2:cF G g l vs)(q:k a l)(hz:l.length<=16777216):SH G g h H p k (.ref a)
theorem fk.to{p:Nat}{x:Xj}{k:aP->Prop}(R:Rel G c g B s)(K:VR G g v x)(h:fk p B.H v k):SG G g s.heap k x:=by
 induction K with|sq b l vs a n e J M r=>
  cases b
  .exact h.elim
  .exact⟨l,vs,a,n,R.gk e,⟨M,r⟩,h,J⟩|ref a=>
  obtain⟨l,O,h⟩:=Dj.to h;obtain⟨role,vs,n,U,J,e2⟩:=R.at O;exact⟨l,vs,_,n,U,e2,h,J⟩|_=>exact h.elim
def OA (p:Nat):Hp->V->(V->Hp->Prop)->Prop:=λH v k=>fk p H v λl=>k (.tup l) H
inductive Sy (G:cc) (c:Cx) (g:bQ) (B:St) (s:XB) (b:Bool) (l:aP) (vs:List Xj):Prop|mk (g') (h0:g.le g') (h1:Rel G c g' B {s with heap:=s.heap.push {cls:=.type (t7 b),data:=.seq vs.toArray}}) (h2:VR G g' (.sq b l) (.ref s.heap.objs.size))
theorem lV{b:Bool}{l:aP}(K:l.length<=16777216)(R:Rel G c g B s)(J:cF G g l vs):Sy G c g B s b l vs:=by obtain⟨R',k,e⟩:=R.m_ (o:={cls:=.type (t7 b),data:=.seq vs.toArray}) rfl;exact⟨_,k,R',.sq b _ _ _ _ e K J.1 λi x v e M=>(J.2 i x v e M).mono k⟩
theorem ux{p:Nat}:bL G (λvs=>call (.type "tuple") vs) (OA p):=by intro c g B s A E P v x k _ R M h fin;obtain⟨l,vs,r,m,h1,h2,q,J⟩:=fk.to R M h;refine call_tuple_list h1.isList (λh' kk=>?_) (by rw[XC,<-h2.1];exact J);obtain⟨g',K,R',e⟩:=lV (b:=Xb) (s:={s with heap:=h'}) J (R.ext (t:=s.toks) kk) h2;exact fin _ _ _ _ _ K e R' q
def OK (p:Nat):Hp->V->(V->Hp->Prop)->Prop:=λH v k=>fk p H v λl=>k (.lst l) H
inductive OfG (G:cc)(c:Cx)(g:bQ)(B:St)(s:XB)(a:Addr)(o:Obj)(h:Heap)(t:Nat):Prop|mk (h0:Rel G c (g.put a o) B {s with heap:=h,toks:=t})(h1:g.le (g.put a o))(h2:(g.put a o) a=W_ o)
theorem Rel.ofG (R:Rel G c g B s){a:Addr}{o:Obj}{t:Nat}(O:s.heap.objs.size<=a) (e:h.get? a=W_ o) (k:∀b o,s.heap.get? b=W_ o->h.get? b=W_ o):OfG G c g B s a o h t:=by
 induction R with|mk role Lc R l=>
  have fr:role a=.jZ:=by
   generalize q:role a=K;induction K with|jZ=>rfl|_=>obtain⟨o',z⟩:=R.sz a (by rw[q];exact Role.noConfusion);exact W5 (Yb z) (Y4.mpr O)
  have J:=bQ.jQ (o:=o) (R.Nw fr Role.noConfusion);have ne:∀b,role b≠.jZ->b≠a:=λb q e=>q (e▸fr);refine⟨⟨gu role a .g,Lc,R.grow (s':={s with heap:=h,toks:=t}) rfl rfl k (λb q=>aZ (ne b q)) (λb q=>?_) J (λb o' U=>(fH U).imp id ?_),l.mono J⟩,J,W0 rfl⟩
  .by_cases z:b=a
   .exact⟨o,z▸e⟩
   .obtain⟨o',M⟩:=R.sz b λy=>q ((aZ z).trans y);exact⟨o',k _ _ M⟩
  .rintro ⟨rfl,rfl⟩;exact⟨e,bS⟩
theorem uH{p:Nat}:bL G (λvs=>call (.type "list") vs) (OK p):=by intro c g B s A E P v x k _ R M h fin;obtain⟨l,vs,r,m,h1,h2,q,K⟩:=fk.to R M h;refine call_list_seq r (.inl rfl) h1 rfl rfl (λh' U kk e=>?_) (by rw[XC,<-h2.1];exact K);obtain⟨R',J,O⟩:=R.ofG (t:=s.toks) (Xh _) e kk;exact fin _ _ _ _ _ J (.sq Xg _ _ _ _ O K h2.1 λi x v a b=>(h2.2 i x v a b).mono J) R' q
def OR:Hp->V->(V->Hp->Prop)->Prop:=λH v k=>eE v λs=>k (.bool (Txt.isdigit (S s))) H
theorem uP:bL G (λvs=>call (.builtin "str.isdigit") vs) OR:=by intro c g B s A E P v x k _ R e h fin;obtain⟨l,t,rfl,h1,-⟩:=eE.run h e;exact SC.isdigit (fin _ _ _ _ _ .refl (.bool _) R.tok h1)
def eU (p:Nat)(H:Hp)(v:V)(k:Addr->aP->Prop):Prop:=match v with|.ref a=>fK H p a (Dj (k a))|_=>False
theorem eU.to{p:Nat}{x:Xj}{k:Addr->aP->Prop}(R:Rel G c g B s)(K:VR G g v x)(h:eU p B.H v k):SH G g s.heap B.H p k x:=by
 cases v with|ref a=>obtain⟨l,e,h⟩:=Dj.to h;obtain rfl:=K.dZ;obtain⟨role,vs,n,M,J,e2⟩:=R.at e;exact⟨l,vs,_,n,e,M,e2,h,J⟩|_=>exact h.elim
theorem Rel.uj{p:Nat}{a:Addr}{l K:aP}{J:List Xj}{M:Nat}{t:Nat}(R:Rel G c g B s)(V:aF B.H p=W_ (a,.list l))(k:∀b,b≠a->h.get? b=s.heap.get? b)(e:IsL h a J.toArray M)
  (U:cF G g K J)(O:K.length<=16777216):Rel G c g ⟨setAt B.H p (a,.list K),B.r⟩ {s with heap:=h,toks:=t}:=
 R.mod (s':={s with heap:=h,toks:=t}) V rfl rfl (λb o z=>by
  by_cases q:b=a
  .exact⟨_,q▸e⟩
  .exact⟨o,(k b q).trans z⟩) λrole Y m=>⟨λb o q W z=>(k b q).trans z,J,M,e,O,U⟩
theorem lG{a b:Addr}{f:Obj->Obj}(q:b≠a):(h.update a f).get? b=h.get? b:=Yr h f (Zb q)
theorem cF.append{l K:aP}{e:List Xj}(r:cF G g l vs) (J:cF G g K e):cF G g (l++K) (vs++e):=by
 refine⟨by rw[Xc,Xc,r.1,J.1],λi x v a b=>?_⟩;rw[List.getElem?_append]at a b;rw[r.1]at a;by_cases q:i<vs.length
 .rw[W0 q]at a b;exact r.2 i x v a b
 .rw[WZ q]at a b;exact J.2 _ x v a b
def acr (p:Nat) (H:Hp) (w:V) (k:V->Hp->Prop) (a:Addr) (l:aP):Prop:=l.length<16777216/\setC H p (a,.list (l++[w])) (k .none)
def OV (p:Nat):Hp->V->V->(V->Hp->Prop)->Prop:=λH v w k=>eU p H v (acr p H w k)
theorem uT{p:Nat}:fg G (λvs=>call (.builtin "list.append") vs) (OV p):=by intro c g B s A E P v w x y k _ R O M h fin;obtain⟨l,vs,a,n,U,h1,h2,⟨J,q⟩,-⟩:=eU.to R O h;refine wpAny_list_append_plain ⟨n,h1⟩ (λh' e K=>?_) (by rw[XC,<-h2.1];exact Yv J);obtain⟨V,e⟩:=e;rw[List.push_toArray]at e;exact fin _ _ _ _ _ .refl .none (R.uj (t:=s.toks) U K.2 e (h2.append (.cons M .nil)) (by rw[Xc];exact J)) (cM q)
def Vf (p:Nat) (H:Hp) (k:V->Hp->Prop) (a:Addr) (l:aP):Prop:= ∃i x,l=i++[x] /\setC H p (a,.list i) (k x)
def OH (p:Nat):Hp->V->(V->Hp->Prop)->Prop:=λH v k=>eU p H v (Vf p H k)
theorem uE{p:Nat}:bL G (λvs=>call (.builtin "list.pop") vs) (OH p):=by
 intro c g B s A E P v x k _ R U h fin;obtain⟨l,vs,a,n,V,h1,h2,⟨i,z,rfl,q⟩,K⟩:=eU.to R U h;have J:=h2.1;rw[Xc]at J K;have J:i.length+1=vs.length:=J;have M:vs.length-1=i.length:=by rw[<-J,Nat.add_sub_cancel]
 obtain⟨u,Z,e2⟩:=h2.get (i:=i.length) (x:=z) (by rw[List.getElem?_append_right (Xh _),Nat.sub_self];rfl);have ev:vs.eraseIdx i.length=vs.take i.length:=by rw[List.eraseIdx_eq_take_drop_succ,List.drop_of_length_le (X4 J.symm),Xr]
 refine call_meets PySem.F.slot_list_pop ⟨_,h1,rfl⟩ PySem.F.entry_list_pop (PySem.F.args_list_pop_1 _) (MeetsSeq.list_pop_last a vs.toArray n u (by rw[XC,Yx,M];exact Z) (by rw[XC,sizeLine_eq];exact J▸K)) ⟨h1,?_⟩;have e:=IsL.update h1 λxs=>xs.eraseIdxIfInBounds (vs.toArray.size-1);have Y:vs.toArray.eraseIdxIfInBounds (vs.toArray.size-1)=(vs.take i.length).toArray:=by rw[XC,List.eraseIdxIfInBounds_toArray,M,ev]
 rw[Y]at e;refine fin _ _ _ _ _ .refl e2 (R.uj (t:=s.toks) V (λb q=>lG q) e ⟨?_,λj x v p1 p2=>?_⟩ (YQ K)) (cM q)
 .rw[Z5];exact(Nat.min_eq_left (YQ (X4 J))).symm
 .have O:=(XK.mp p1).1;rw[List.getElem?_take_of_lt O]at p2;exact h2.2 j x v (by rw[List.getElem?_append_left O];exact p1) p2
def UI (p:Nat) (H:Hp) (k:V->Hp->Prop) (a:Addr) (l:aP):Prop:=setC H p (a,.list l.reverse) (k .none)
def OF (p:Nat):Hp->V->(V->Hp->Prop)->Prop:=λH v k=>eU p H v (UI p H k)
theorem uC{p:Nat}:bL G (λvs=>call (.builtin "list.reverse") vs) (OF p):=by intro c g B s A E P v x k _ R M h fin;obtain⟨l,vs,a,n,O,h1,h2,q,K⟩:=eU.to R M h;refine call_meets PySem.F.slot_list_reverse ⟨_,h1,rfl⟩ PySem.F.entry_list_reverse (PySem.F.args_list_reverse_1 _) (AutoSeq1.list_reverse_list_0 a vs.toArray n (by rw[XC,<-h2.1];exact K)) ⟨h1,?_⟩;have e:=IsL.update h1 λxs=>xs.reverse;rw[List.reverse_toArray]at e;refine fin _ _ _ _ _ .refl .none (R.uj (t:=s.toks) O (λb q=>lG q) e ⟨by rw[Yp,Yp];exact h2.1,λj x v p1 p2=>?_⟩ (by rw[Yp];exact K)) (cM q);have J:=(XK.mp p1).1;rw[Yp]at J;rw[YY J]at p1;rw[YY (h2.1▸J)]at p2;rw[<-h2.1]at p2;exact h2.2 _ x v p1 p2
def lC(G:cc)(g:bQ)(o:V):Flow->Prop|.next=>o=.none|.brk=>o=.bool Xg|.cont=>o=.bool Xb|.ret x=>∃v,o=.tup [v] /\VR G g v x
inductive FW(G:cc)(c:Cx)(g:bQ)(Q:V->St->Prop)(f:Flow)(s:XB):Prop|mk(g' o B:_)(k:g.le g')(h:lC G g' o f)(R:Rel G c g' B s)(q:Q o B)
abbrev oj (G:cc) (c:Cx) (ss:List Stmt):=Ev G c (FW G c) (execs ss c.env)
abbrev eY (G:cc) (c:Cx) (st:Stmt):=Ev G c (FW G c) (exec st c.env)
variable{g₀:bQ}
theorem FW.mono{f:Flow}(k:g₀.le g)(x:FW G c g Q f s):FW G c g₀ Q f s:=by induction x with|mk g' o B a b d h=>exact⟨g',o,B,k.trans a,b,d,h⟩
theorem Ev.goF{t:Sem Flow}(k₀:g₀.le g) (R:Rel G c g B s) (h:Ev G c (FW G c) t B Q X):XT G.M c.A t (FW G c g₀ Q) (XW G c g₀ X) s:=
 XY (h g s R) (λW W x=>x.mono k₀) λW W x=>x.mono k₀
def kS(o:V)(k k':Prop):Prop:=match o with|.none=>k|_=>k'
theorem HQ(h:Q .none B):oj G c [] B Q X:=λg s R=>wpAny_execs_nil ⟨g,.none,B,.refl,rfl,R,h⟩
theorem Bp{st:Stmt}{rest:List Stmt}(h:eY G c st B (λo σ'=>kS o (oj G c rest σ' Q X) (Q o σ')) X):oj G c (st::rest) B Q X:=λg s R=>
 wpAny_execs_cons (XY (h g s R) (λf s' z=>by
  induction z with|mk g' o σ' k J R' q=>induction f with|next=>cases J;exact Ev.goF k R' q|brk=>cases J;exact⟨g',_,σ',k,rfl,R',q⟩|cont=>cases J;exact⟨g',_,σ',k,rfl,R',q⟩|ret x=>obtain⟨v,rfl,K⟩:=J;exact⟨g',_,σ',k,⟨v,rfl,K⟩,R',q⟩) λW W e=>e)
theorem HP{e:Xd}{p:Pos}(h:bK G c e B (λv σ'=>Q (.tup [v]) σ') X):eY G c (.Return (W_ e) p) B Q X:=λg s R=>wpAny_Return_some (Ev.go .refl R h λg' mv v σ' s' k W J R' q=>⟨g',_,σ',k,⟨mv,rfl,J⟩,R',q⟩)
theorem Bk{p:Pos}(h:Q (.tup [.none]) B):eY G c (.Return Xk p) B Q X:=λg s R=>wpAny_Return_none ⟨g,_,B,.refl,⟨.none,rfl,.none⟩,R,h⟩
theorem Pr{t:Xd}{a b:List Stmt}{p:Pos}(h:oA G c t B (λv σ'=>iU v λz=>match z with|true=>oj G c a σ' Q X|false=>oj G c b σ' Q X) X):eY G c (.If t a b p) B Q X:=λg s R=>
 wpAny_If (Ev.HE .refl R h λJ z σ1 e k1 W R1 h1=>by cases z<;>exact Ev.goF k1 R1 h1)
theorem Bn{e:Xd}{p:Pos}(hi:interactive c.env=Xb)(hs:Y9 e Xk p.line c.env=pure Xb)(h:bK G c e B (λv σ'=>Q .none σ') X):eY G c (.Expr e p) B Q X:=λg s R=>wpAny_Expr_any (Ev.go .refl R h λg' mv v σ' s' k W J R' q=>⟨g',_,σ',k,rfl,R',q⟩) hi hs
theorem Bl{p:Pos}(h:Q .none B):eY G c (.Pass p) B Q X:=λg s R=>wpAny_Pass ⟨g,_,B,.refl,rfl,R,h⟩
theorem Bo{p:Pos}(h:Q (.bool Xb) B):eY G c (.Continue p) B Q X:=λg s R=>wpAny_Continue ⟨g,_,B,.refl,rfl,R,h⟩
theorem o9{a b:α}{z:β}:∀{l:List (α×β)},(l.map (λW=>W.2)).Nodup->(a,z)∈l->(b,z)∈l->a=b:=by
 intro l;induction l with|nil=>intro _ h;cases h|cons y l ih=>
  intro nd h1 h2;rw[Ys,X5]at nd;rcases Xv.mp h1 with e|h1<;>rcases Xv.mp h2 with e2|h2
  .exact WX Prod.fst (e.trans e2.symm)
  .exact W5 (Yi.mpr ⟨_,h2,by rw[<-e]⟩) nd.1
  .exact W5 (Yi.mpr ⟨_,h1,by rw[<-e2]⟩) nd.1
  .exact ih nd.2 h1 h2
def ownName(c:Cx)(x:Str):Prop:=c.env.kindOf x=W_ .local\/ (c.env.kindOf x=W_ .cell/\x∈c.cs)
theorem fX{x:Str}{i:Nat}{val:Xj}{P:Unit->XB->Prop}(O:bg c) (hx:c.nm[i]?=W_ x) (ho:ownName c x) (R:Rel G c g B s) (hv:VR G g v val) (h:∀s',Rel G c g ⟨B.H,setAt B.r i (W_ v)⟩ s'->P () s'):
  XT G.M c.A (storeName c.env x val) P E s:=by
 induction R with|mk role Lc R l=>
  obtain⟨o,m,cs,rfl,n,hc,hV⟩:=l;have hne:∀{j y},c.nm[j]?=W_ y->i≠j->x≠y:=λhj ij e=>by subst e;exact ij ((List.getElem?_inj (XK.mp hx).1 O.nd).mp (hx.trans hj.symm))
  have get:∀{j:Nat}{w:V},aF (setAt B.r i (W_ v)) j=W_ (W_ w)->(i=j/\w=v) \/ (i≠j/\aF B.r j=W_ (W_ w)):=λe=>(oH e).imp (λz=>⟨z.1,XG z.2⟩) id;have mL:=R.hk (c.env.locals,.fc o) (Xx _ (.head _));have pm:∀mo,(B.H++((c.env.locals,mo)::cs++c.F)).Perm ((c.env.locals,mo)::(B.H++(cs++c.F))):=λmo=>Z4;rcases ho with k|⟨k,hcs⟩
  .obtain⟨sl,ho⟩:=mL.2;refine wpAny_storeName_local k (jA.at (o:={o with slots:=sl}) n ho) (λh' hn' sb=>?_) (by rw[O.kind];rfl);obtain⟨o',e',n'⟩:=qp hn';have Y:∀b o₁,s.heap.get? b=W_ o₁-> ∃o₂,h'.get? b=W_ o₂:=λb o₁ z=>by
    by_cases q:b=c.env.locals
    .exact⟨o',q▸e'⟩
    .exact⟨o₁,(sb.2 b q).trans z⟩
   refine h _ ⟨role,(c.env.locals,.fc o')::cs,((R.perm (pm _)).mod (s':={s with heap:=h',toks:=s.toks+1}) rfl rfl (λb o₁ q W z=>(sb.2 b q).trans z) (λW W=>rfl) (λb q=>by obtain⟨o₁,z⟩:=R.sz b q;exact Y b o₁ z) (mo':=.fc o') ⟨o'.slots,e'⟩).perm (pm _).symm,o',_,cs,rfl,n',hc,λj w e=>?_⟩
   rcases get e with⟨rfl,rfl⟩|⟨ij,e⟩
   .exact⟨x,val,hx,hv,.inl ⟨k,W0 rfl⟩⟩
   .obtain⟨y,vl,h1,h2,h3⟩:=hV j w e;refine⟨y,vl,h1,h2,h3.imp (λz=>⟨z.1,?_⟩) id⟩;show(if _ then _ else _)=_;rw[WZ λq=>hne h1 ij q.symm];exact z.2
  .obtain⟨U,oc,v0,hl,hm,hd⟩:=hc x hcs;obtain⟨c1,c2,rfl⟩:=List.append_of_mem hm;have mC:=R.hk (U,.raw oc) (Xx _ (.tail _ (X9 _ hm)));refine wpAny_storeName_cell O.kind k hl ⟨oc,mC.2,hd⟩ λh' hc' sb=>?_;obtain⟨o',e',d'⟩:=hc';have pc:∀mo,(B.H++((c.env.locals,.fc o)::(c1++(U,mo)::c2)++c.F)).Perm ((U,mo)::(B.H++((c.env.locals,.fc o)::(c1++c2)++c.F))):=λmo=>by
    have:B.H++((c.env.locals,MO.fc o)::(c1++(U,mo)::c2)++c.F)=(B.H++(c.env.locals,.fc o)::c1)++(U,mo)::(c2++c.F):=by simp only[Xf,YK]
    rw[this];refine Z4.trans (.of_eq ?_);simp only[Xf,YK]
   have nd:=(R.perm (pc _)).nd;have Z:∀{J K},(J,MO.raw K)∈c1++(U,MO.raw oc)::c2->J≠U->(J,MO.raw K)∈c1++(U,MO.raw o')::c2:=λhm' ne=>by
    rcases Yk.mp hm' with z|z
    .exact X9 _ z
    .rcases Xv.mp z with z|z
     .cases z;exact W5 rfl ne
     .exact Xx _ (.tail _ z)
   have here:(U,MO.raw o')∈c1++(U,MO.raw o')::c2:=Xx _ (.head _);have Y:∀b o₁,s.heap.get? b=W_ o₁-> ∃o₂,h'.get? b=W_ o₂:=λb o₁ z=>by
    by_cases q:b=U
    .exact⟨o',q▸e'⟩
    .exact⟨o₁,(sb.2 b q).trans z⟩
   refine h _ ⟨role,(c.env.locals,.fc o)::(c1++(U,.raw o')::c2),((R.perm (pc _)).mod (s':={s with heap:=h'}) rfl rfl (λb o₁ q W z=>(sb.2 b q).trans z) (λW W=>rfl) (λb q=>by obtain⟨o₁,z⟩:=R.sz b q;exact Y b o₁ z) (mo':=.raw o') e').perm (pc _).symm,o,m,_,rfl,n,λy hy=>?_,λj w e=>?_⟩
   .obtain⟨J,K,v',q1,q2,q3⟩:=hc y hy;by_cases q:J=U
    .exact⟨J,o',_,q1,q▸here,d'⟩
    .exact⟨J,K,v',q1,Z q2 q,q3⟩
   .rcases get e with⟨rfl,rfl⟩|⟨ij,e⟩
    .exact⟨x,val,hx,hv,.inr ⟨U,o',.inl k,hl,X9 _ here,d'⟩⟩
    .obtain⟨y,vl,h1,h2,h3⟩:=hV j w e;refine⟨y,vl,h1,h2,h3.imp id λz=>?_⟩;obtain⟨J,K,q1,q2,q3,q4⟩:=z;have ne:J≠U:=by rintro rfl;have z1:=mem_of_lookup hl;have z2:=mem_of_lookup q2;have:=o9 (O.cells (List.ne_nil_of_mem hcs)) z1 z2;exact hne h1 ij this
     rcases Yk.mp q3 with z|z
     .exact⟨J,K,q1,q2,X9 _ (Z z ne),q4⟩
     .exact⟨J,K,q1,q2,Xx _ z,q4⟩
variable{role:Addr->Role}{T:Hp}
theorem RH.slots {S:List Addr}(R:RH G role g T s)(hs:Heap.SlotsOnly S s.heap h)(U:∀b∈S,∃o,(b,MO.fc o)∈T):RH G role g T {s with heap:=h}:=by
 have Z:∀b∈S,role b=.mo:=λb hb=>by obtain⟨o,m⟩:=U b hb;exact(R.hk _ m).1
 have out:∀{b r},role b=r->r≠.mo->b∉S:=λe ne m=>ne (e.symm.trans (Z _ m));refine⟨R.gens,R.os,R.kb,λa o e=>?_,λx m=>?_,R.nd,λa q=>?_⟩
 .obtain⟨x,y⟩:=R.gk a o e;exact⟨(hs.2.1 a (out y Role.noConfusion)).trans x,y⟩
 .obtain⟨y,z⟩:=R.hk x m;refine⟨y,?_⟩;by_cases q:x.1∈S
  .obtain⟨o,m'⟩:=U _ q;have:x=(x.1,MO.fc o):=by
    by_cases e:x=(x.1,MO.fc o)
    .exact e
    .obtain⟨i,hi,V⟩:=List.mem_iff_getElem.mp m;obtain⟨j,hj,e2⟩:=List.mem_iff_getElem.mp m';have J:i<(T.map (λW=>W.1)).length:=by rw[Xl];exact hi
     have O:j<(T.map (λW=>W.1)).length:=by rw[Xl];exact hj
     have:(T.map (λW=>W.1))[i]?=(T.map (λW=>W.1))[j]?:=by rw[XD J,XD O,List.getElem_map,List.getElem_map,V,e2]
     have:=(List.getElem?_inj J R.nd).mp this;subst this;exact V.symm.trans e2
   rw[this]at z⊢;obtain⟨Y,z⟩:=z;obtain⟨M,K⟩:=hs.2.2 _ _ z;exact⟨M,K⟩
  .exact z.keep .refl (λo e=>(hs.2.1 _ q).trans e) λdx o e r=>⟨(hs.2.1 _ (out e Role.noConfusion)).trans r,e⟩
 .obtain⟨o,z⟩:=R.sz a q;obtain⟨Y,K⟩:=hs.2.2 _ _ z;exact⟨_,K⟩
theorem md:∀{l:List Env},(∀e∈l,e.scope.kind≠.module/\ ∃L o,e.frame=W_ L/\h.get? L=W_ o/\ ∀vs,o.data≠.fields vs)->h.FunFrames {} l:=by
 intro l;induction l with
 |nil=>
  intro _;exact Xu|cons e l ih=>
  intro k;obtain⟨k1,L,o,k2,k3,J⟩:=k e (.head _);exact⟨k1,⟨L,o,k2,rfl,k3,J⟩,ih λK m=>k K (.tail _ m)⟩
inductive adp (G:cc)(g:bQ)(h:Heap)(role:Addr->Role)(e:Addr)(L:Option Addr)(tb:Bool)(cl:Nat)(fs:Fs):Prop|mk (dx:Addr)(sl:Array (Option Xj))(od:Obj)(ws:Array Xj)(e1:h.get? e=W_ ⟨.ref (G.cA cl),W_ dx,.fields ws,sl⟩)(e2:role dx=.pF e)(e3:h.get? dx=W_ od)(e4:pM G g fs od)(hw:(tb=Xb/\ws[1]?=W_ .none) \/Trc h role e L ws)
variable{tb:Bool}
theorem RH.hold{e:Addr}{L:Option Addr}(R:RH G role g ((e,.jU L tb cl fs)::T) s):adp G g s.heap role e L tb cl fs:=by obtain⟨dx,J,od,dt,O,⟨ws,rfl,e2⟩,M,e4,K⟩:=(R.hk _ (.head _)).2;exact⟨dx,J,od,ws,O,M,e4,K,e2⟩
inductive SD (G:cc)(role:Addr->Role)(g:bQ)(s:XB)(T:Hp)(e:Addr)(t:Addr)(dx:Addr)(v:Xj)(L':Option Addr)(tb':Bool)(cl:Nat)(fs:Fs):Prop|mk (h0:RH G role g ((e,.jU L' tb' cl fs)::T) {s with heap:=s.heap.update t (Ze (λW=>W.setIfInBounds 3 v))})(h1:(∀b,b≠t->(s.heap.update t (Ze (λW=>W.setIfInBounds 3 v))).get? b=s.heap.get? b))(h2:e≠t)(h3:dx≠t)
theorem RH.mark{e t:Addr}{v:Xj}{L L':Option Addr}{tb':Bool}{Y od:Obj}{ts ws:Array Xj}{V}(R:RH G role g ((e,.jU L tb cl fs)::T) s) (e1:s.heap.get? e=W_ ⟨.ref (G.cA cl),W_ dx,.fields ws,V⟩) (e2:role dx=.pF e)
  (J:s.heap.get? dx=W_ od) (e4:pM G g fs od) (w1:ws[1]?=W_ (.ref t)) (w2:role t=.pF e) (M:s.heap.get? t=W_ Y) (K:Y.data=.fields ts) (h3:3<ts.size) (hv:v=.none\/ ∃l,L'=W_ l/\v=rawInt l):SD G role g s T e t dx v L' tb' cl fs:=by
 have hd:=Obj.data_mapFields K (λW=>W.setIfInBounds 3 v);have Z:=YZ (Ze (λW=>W.setIfInBounds 3 v)) M (Obj.isFreed_of_fields hd);have ne:∀b,b≠t->(s.heap.update t (Ze (λW=>W.setIfInBounds 3 v))).get? b=s.heap.get? b:=λb q=>Yr _ _ (Zb q);have O:e≠t:=λq=>by have:=(R.hk _ (.head _)).1;rw[show e=t from q,w2]at this;cases this
 have U:dx≠t:=λq=>by rw[q,M]at J;cases J;induction e4 with|mk m vf n z h0 h1=>obtain⟨es,ep,z,-⟩:=z;rw[K]at z;cases z
 refine⟨R.mod rfl rfl (λb o W q z=>(ne b λr=>q (r▸w2)).trans z) (λW W=>rfl) (λb q=>?_) ⟨dx,V,od,_,(ne _ O).trans e1,⟨ws,rfl,.inr ⟨t,_,_,w1,w2,Z,hd,?_⟩⟩,e2,(ne _ U).trans J,e4⟩,ne,O,U⟩
 .by_cases z:b=t
  .exact⟨_,by rw[z];exact Z⟩
  .obtain⟨o,q⟩:=R.sz b q;exact⟨o,(ne b z).trans q⟩
 .have:(ts.setIfInBounds 3 v)[3]?=W_ v:=by simp [h3]
  rcases hv with rfl|⟨l,rfl,rfl⟩
  .exact .inl this
  .exact .inr ⟨l,rfl,this⟩
theorem gc{e:Addr}{v:Option Addr}{L L':Option Addr}{P:Unit->XB->Prop}(R:RH G role g ((e,.jU L Xg cl fs)::T) s)(Y:v=Xk\/v=L')
  (h:∀s',RH G role g ((e,.jU L' Xg cl fs)::T) s'->P () s'):XT G.M A (setFlight (.ref e) v) P E s:=by
 obtain⟨dx,sl,od,ws,V,e2,Z,e4,J⟩:=R.hold;rcases J with⟨J,-⟩|⟨t,oT,ts,U,w2,O,K,w5⟩
 .exact ft J
 have h3:3<ts.size:=by rcases w5 with z|⟨l,-,z⟩ <;>exact(Zl.mp z).1
 unfold setFlight;refine Xe (wpAny_field V rfl U ?_);rw[W0 (show(YV t !=Xj.none)=Xg from rfl)];refine wpAny_setField O K h3 (h _ (R.mark (L':=L') V e2 Z e4 U w2 O K h3 ?_).1);rcases Y with rfl|rfl
 .exact .inl rfl
 .induction v with|none=>exact .inl rfl|some l=>exact .inr ⟨l,rfl,rfl⟩
theorem RH.UJ{e t:Addr}{L:Option Addr}{ws:Array Xj}(R:RH G role g ((e,.jU L tb cl fs)::T) s) (q:∃dx J,s.heap.get? e=W_ ⟨.ref (G.cA cl),W_ dx,.fields ws,J⟩) (O:ws[1]?=W_ (.ref t)):
  RH G role g ((e,.jU L Xg cl fs)::T) s:=by
 obtain⟨dx,J,od,M,K,e2,Y,e4,V⟩:=R.hold;obtain⟨Z,U,q⟩:=q;rw[K]at q;cases q;refine R.mod rfl rfl (λW W W W z=>z) (λW W=>rfl) (λb q=>R.sz b q) ⟨dx,J,od,_,K,⟨ws,rfl,.inr ?_⟩,e2,Y,e4⟩;rcases V with⟨-,z⟩|z
 .rw[O]at z;cases z
 .exact z
theorem RH.Nv{e:Addr}{L:Option Addr}(R:RH G role g ((e,.jU L tb cl fs)::T) s):RH G role g ((e,.jU L Xb cl fs)::T) s:=by obtain⟨dx,J,od,ws,O,e2,M,e4,K⟩:=R.hold;exact R.mod rfl rfl (λW W W W z=>z) (λW W=>rfl) (λb q=>R.sz b q) ⟨dx,J,od,_,O,⟨ws,rfl,K.imp (λz=>⟨rfl,z.2⟩) id⟩,e2,M,e4⟩
theorem vd {e f:Addr}{ws J:Array Xj}{O}{tk:Nat}(R:RH G role g ((e,.jU (W_ f) tb cl fs)::T) s) (Y:s.heap.get? e=W_ ⟨.ref (G.cA cl),W_ dx,.fields ws,O⟩) (hz:1<ws.size) (p3:J[3]?=W_ (rawInt f)):
  RH G (gu role s.heap.objs.size (.pF e)) g ((e,.jU (W_ f) Xg cl fs)::T) {s with heap:=(s.heap.push {cls:=.type "traceback",dict:=Xk,data:=.fields J}).update e (Ze (·.setIfInBounds 1 (YV s.heap.objs.size))),toks:=tk}:=by
 obtain⟨dx',sl',od,Z,M,e2,e3,e4,-⟩:=R.hold;rw[Y]at M;cases M;have U:=(R.hk _ (.head _)).1;have he:=XA (h:=s.heap) {cls:=.type "traceback",dict:=Xk,data:=.fields J} Y;have hd:=Obj.data_mapFields (o:=⟨.ref (G.cA cl),W_ dx,.fields ws,O⟩) rfl (·.setIfInBounds 1 (YV s.heap.objs.size));have K:=YZ (Ze (·.setIfInBounds 1 (YV s.heap.objs.size))) he (Obj.isFreed_of_fields hd);have ne:∀{b o},b≠e->s.heap.get? b=W_ o->((s.heap.push {cls:=.type "traceback",dict:=Xk,data:=.fields J}).update e (Ze (·.setIfInBounds 1 (YV s.heap.objs.size)))).get? b=W_ o:=λq z=>(Yr _ _ (Zb q)).trans (XA _ z)
 have de:dx≠e:=λq=>Role.noConfusion (U.symm.trans (q▸e2));have V:=(Yr (s.heap.push {cls:=.type "traceback",dict:=Xk,data:=.fields J}) (Ze (·.setIfInBounds 1 (YV s.heap.objs.size))) (R.ne U Role.noConfusion)).trans (X0 s.heap rfl);refine R.mod rfl rfl (λb o q W z=>ne q z) (λb q=>aZ (R.ne rfl q)) (λb q=>?_)
  ⟨dx,O,od,_,K,⟨_,rfl,.inr ⟨s.heap.objs.size,_,J,by simp [hz],bS,V,rfl,.inr ⟨f,rfl,p3⟩⟩⟩,(aZ (R.ne e2 Role.noConfusion)).trans e2,ne de e3,e4⟩
 by_cases z:b=s.heap.objs.size
 .exact⟨_,by rw[z];exact V⟩
 .obtain⟨o,q⟩:=R.sz b λr=>q ((aZ z).trans r);by_cases y:b=e
  .exact⟨_,by rw[y];exact K⟩
  .exact⟨o,ne y q⟩
variable{env:Env}
theorem vc{e f:Addr}{J:List Env}{P:Unit->XB->Prop}(R:RH G role g ((e,.jU (W_ f) tb cl fs)::T) s) (hf:env.frame=W_ f) (hfr:A.frames=W_ (env::J))
  (hF:∀e∈env::J,e.scope.kind≠.module/\ ∃L o,e.frame=W_ L/\(L,MO.fc o)∈T/\ ∀vs,o.data≠.fields vs)
  (h:∀s' role',RH G role' g ((e,.jU (W_ f) Xg cl fs)::T) s'->P () s'):XT G.M A (noteFrame (.ref e) env) P E s:=by
 have step:∀{s:XB}{head:Xj}{hn:Bool}{ws:Array Xj}{dx:Addr}{Y:Array (Option Xj)},RH G role g ((e,.jU (W_ f) tb cl fs)::T) s->s.heap.get? e=W_ ⟨.ref (G.cA cl),W_ dx,.fields ws,Y⟩ ->1<ws.size->
   XT G.M A (do let a<-frameOf env;let pl<-entryPlaceOf f hn;let b<-EntryCells.newEntry head a .none (rawInt f) .none pl;setField (.ref e) 1 b) P E s:=by
  intro s head hn ws dx Y R K Z;refine Xe (wpAny_frameOf_fun (base:={}) hfr (md λe' m=>?_) hf λh₁ hs₁=>?_)
  .obtain⟨k1,L,o,k2,k3,k4⟩:=hF e' m;obtain⟨Y,z⟩:=(R.hk _ (.tail _ k3)).2;exact⟨k1,L,_,k2,z,k4⟩
  have R1:=R.slots hs₁ λb m=>by obtain⟨e',m',q⟩:=List.mem_filterMap.mp m;obtain⟨-,L,o,k2,k3,-⟩:=hF e' m';rw[k2]at q;cases q;exact⟨o,.tail _ k3⟩
  obtain⟨sl2,z⟩:=hs₁.2.2 _ _ K;refine Xe (wpAny_entryPlaceOf λpl hpl=>?_);unfold EntryCells.newEntry newFields;refine Xe (wpAny_newObj_type ?_ (hpl.sizeOk5 _ _ _ _ _));exact wpAny_setField (XA _ z) rfl Z (h _ _ (vd R1 z Z rfl))
 obtain⟨dx,Y,od,ws,K,e2,e3,e4,hw⟩:=R.hold;unfold noteFrame;rw[hf];dsimp only;rcases hw with⟨hw,O⟩|⟨t,oT,ts,O,w2,V,U,w5⟩
 .refine Xe (wpAny_field K rfl O ?_);rw[WZ (by decide)];exact step R K (Zl.mp O).1
 .have Z:=(Zl.mp O).1;refine Xe (wpAny_field K rfl O ?_);rw[W0 (show(YV t !=Xj.none)=Xg from rfl)];rcases w5 with w5|⟨l,hl,w5⟩
  .refine Xe (wpAny_field V U w5 ?_);rw[WZ (show ¬((Xj.none==rawInt f)=Xg)from Xy)];have h3:=(Zl.mp w5).1;refine Xe (wpAny_setField V U h3 ?_);obtain⟨R',ne,te,td⟩:=R.mark (v:=.none) (L':=W_ f) (tb':=tb) K e2 e3 e4 O w2 V U h3 (.inl rfl);exact step R' ((ne _ te).trans K) Z
  .cases hl;refine Xe (wpAny_field V U w5 ?_);rw[W0 (by rw[WY])];exact Xo (h _ _ (R.UJ ⟨_,_,K⟩ O))
variable{Lc:Hp}
theorem oE{r:List bG}{H:Hp}{x:Addr×MO}(O:bg c)(U:c.top)(l:oa G c g Lc r):∃J,c.A.frames=W_ (c.env::J)/\
  ∀e∈c.env::J,e.scope.kind≠.module/\ ∃L o,e.frame=W_ L/\(L,MO.fc o)∈H++(Lc++c.F)/\ ∀vs,o.data≠.fields vs:=by
 obtain⟨l',Y,V,K⟩:=O.fr;obtain⟨K,J,rfl⟩:=K U;refine⟨J,Y,λe m=>?_⟩;obtain⟨k,L,k1,k2⟩:=V e m;induction l with|mk o m' cs Z n hc hV=>
  subst Z;rcases k2 with rfl|⟨o',k3,M⟩
  .refine⟨k,_,o,k1,Xx _ (.head _),λvs q=>?_⟩;obtain⟨es,ep,z,-⟩:=n;rw[q]at z;cases z
  .exact⟨k,L,o',k1,Xx _ (Xx _ k3),M⟩
theorem ve{v:Xj}(O:bg c) (U:c.top) (x:XW G c g X v s tb):XT G.M c.A (noteFrame v c.env) (λW s'=>XW G c g X v s' Xg) E s:=by
 induction x with|mk g' e x B ev k role Lc R l q=>subst ev;obtain⟨J,h1,h2⟩:=oE (H:=B.H) (x:=(e,.raw default)) O U l;obtain⟨Y,f1,Z,V⟩:=O.fr;have K:=(V U).1;rw[K]at R;exact vc R K h1 h2 λs' role' R'=>⟨g',e,x,B,rfl,k,role',Lc,by rw[K];exact R',l,q⟩
theorem ya{v:Xj}{tb:Bool}(O:bg c)(x:XW G c g X v s Xg):cameBackBy G.M c.A c.env (λe s'=>XW G c g X e s') v s:=by
 induction x with|mk g' e x B ev k role Lc R l q=>
  subst ev;obtain⟨dx,Z,od,ws,U,e2,e3,e4,J⟩:=R.hold;rcases J with⟨J,-⟩|⟨t,oT,ts,K,w2,Y,V,w5⟩
  .exact ft J
  refine Xe (wpAny_field U rfl K ?_);rw[WZ (show ¬((YV t==Xj.none)=Xg)from Xy)];refine gc R (.inr rfl) λs' R'=>⟨g',e,x,B,rfl,k,role,Lc,R'.Nv,l,q⟩
theorem vH{v:Xj}(O:bg c) (J:c.top) (x:XW G c g X v s):notedBy G.M c.A c.env (λe s'=>cameBackBy G.M c.A c.env (λe s'=>XW G c g X e s') e s') v s:=
 XY (ve O J x) (λW W z=>ya (tb:=Xg) O z) λW W z=>z
inductive CX (G:cc)(F:Hp)(g:bQ)(X:di->Hp->Prop)(v:Xj)(s:XB):Prop|mk (g' e x H role:_)(ev:v=.ref e)(k:g.le g')(R:RH G role g' ((e,.jU Xk Xb x.1 x.2)::(H++F)) s)(q:X x H)
theorem leaveX{v:Xj}{X:di->Hp->Prop}(O:bg c) (J:c.top) (x:XW G c g (λx B=>X x B.H) v s):XT G.M c.A (leaving c.env v) (λW s'=>CX G c.F g X v s') E s:=by
 unfold leaving;refine Xe (XY (ve O J x) (λW s' z=>?_) λW W z=>z);induction z with|mk g' e y B ev k role Lc R l q=>
  subst ev;refine gc (L':=Xk) R (.inl rfl) λs' R'=>⟨g',e,y,B.H,role,rfl,k,?_,q⟩;have p:((e,MO.jU Xk Xg y.1 y.2)::(B.H++(Lc++c.F))).Perm (Lc++((e,MO.jU Xk Xg y.1 y.2)::(B.H++c.F))):=by refine .trans (.cons _ ?_) Z4.symm;rw[<-Xf,<-Xf];exact Zf.append_right _
  exact(R'.perm p).drop.Nv
variable{F H:Hp}
inductive FrK(F:Hp)(e:Env):Prop|mk(k:e.scope.kind≠.module)(L:_)(h:e.frame=W_ L)(d:lB F L)
def ly(A:Za)(F:Hp):Prop:= ∃l,A.frames=W_ l/\ ∀e∈l,FrK F e
inductive CQ (G:cc)(F:Hp)(g:bQ)(Q:V->Hp->Prop)(v:Xj)(s:XB):Prop|mk (g' mv H role:_)(k:g.le g')(h:VR G g' mv v)(R:RH G role g' (H++F) s)(q:Q mv H)
def CR (G:cc)(F:Hp)(g:bQ)(Q:V->Hp->Prop)(X:di->Hp->Prop)(r:Result)(s:XB):Prop:=match r with|.ok (.ret v)=>CQ G F g Q v s|.ok _=>False|.error e=>CX G F g X e s
def gr (G:cc) (hd:Bool) (n i:Nat) (vs:aP) (H:Hp) (Q:V->Hp->Prop) (X:di->Hp->Prop):Prop:=
 ∀A F g role s vals,sL A hd n->ly A F->cF G g vs vals->RH G role g (H++F) s->Zr G.M A (.call (.ref (G.fa i)) ⟨vals,[]⟩) (CR G F g Q X) s
inductive adu (G:cc)(i:Nat)(fd:FuncData):Prop|mk (oc od sl:_)(e:G.K.lookup (G.fa i)=W_ ⟨oc,od,.func fd,sl⟩)
structure yA(G:cc)(i:Nat)(fd:FuncData)(nm:List Str)(np:Nat)(cs:List Str):Prop where
 at_:adu G i fd
 code:codeIn G.K fd.code fd.qualname=Xg
 s8:fd.closure=[]
 glob:fd.globals=Yj
 blt:fd.builtins=builtinsNs
 co:fd.scope.isCoroutine=Xb
 gen:fd.scope.isGenerator=Xb
 kind:fd.scope.kind=.function
 nd:nm.Nodup
 Ec:∀x∈nm,(x==("__debug__":Str))=Xb/\(x==("__classdict__":Str))=Xb
 cnd:cs.Nodup
 par:∀x∈nm.take np,fd.scope.names.lookup x=W_ .local\/ (fd.scope.names.lookup x=W_ .cell/\x∈cs)
 cell:∀x∈cs,∀n,((cellsFrom n fd.scope.names []).lookup x).isSome=Xg
def yD (G:cc)(fd:FuncData)(nm:List Str)(np k:Nat)(dv:aP):Prop:=
 ∀(g:bQ)(s:XB)(vals:List Xj),(∀a o,G.K.lookup a=W_ o->g a=W_ o)->G.K.In s.heap->vals.length=k->
  ∃full,BindsTo s fd ⟨vals,[]⟩ ((nm.take np).zip full)/\ ∀vs,cF G g vs vals->cF G g (vs++dv) full
variable{kf:Str->Option YR}
theorem sD{x:Str}:∀{b:List (Str×Xj)}{m:Str->Option Xj},x∉b.map (λW=>W.1)->bindL kf b m x=m x:=by
 intro b;induction b with|nil=>intro m _;rfl|cons y b ih=>
  intro m h;rw[Ys,Xv,not_or]at h;show bindL kf b (if kf y.1=W_ .local then λz=>if z=y.1 then W_ y.2 else m z else m) x=_;rw[ih h.2];by_cases q:kf y.1=W_ .local
  .rw[W0 q];exact WZ h.1
  .rw[WZ q]
theorem sG{x:Str}:∀{b:List (Str×Xj)}{m:Str->Option Xj},x∉b.map (λW=>W.1)->bindC kf b m x=m x:=by
 intro b;induction b with|nil=>intro m _;rfl|cons y b ih=>
  intro m h;rw[Ys,Xv,not_or]at h;show bindC kf b (if kf y.1=W_ .local then m else λz=>if z=y.1 then W_ y.2 else m z) x=_;rw[ih h.2];by_cases q:kf y.1=W_ .local
  .rw[W0 q]
  .rw[WZ q];exact WZ h.1
theorem B'{x:Str}{v:Xj}:∀{b:List (Str×Xj)}{m m':Str->Option Xj},(b.map (λW=>W.1)).Nodup->(x,v)∈b->
  (kf x=W_ .local->bindL kf b m x=W_ v)/\(kf x≠W_ .local->bindC kf b m' x=W_ v):=by
 intro b;induction b with|nil=>intro m m' _ h;cases h|cons y b ih=>
  intro m m' nd h;rw[Ys,X5]at nd;rcases Xv.mp h with rfl|h
  .refine⟨λq=>?_,λq=>?_⟩
   .show bindL kf b (if kf x=W_ .local then λz=>if z=x then W_ v else m z else m) x=_;rw[W0 q,sD nd.1];exact W0 rfl
   .show bindC kf b (if kf x=W_ .local then m' else λz=>if z=x then W_ v else m' z) x=_;rw[WZ q,sG nd.1];exact W0 rfl
  .exact ih nd.2 h
theorem eG (R:RH G role g T s){a:Addr}(J:s.heap.objs.size<=a):role a=.jZ:=by
 generalize q:role a=e;induction e with|jZ=>rfl|_=>obtain⟨o',z⟩:=R.sz a (by rw[q];exact Role.noConfusion);exact W5 (Yb z) (Y4.mpr J)
noncomputable def xK(env:Env)(A:Za)(nm:List Str)(F:Hp)(n:Nat)(hd:Bool)(cs:List Str):Cx:=⟨env,A.deeper env,nm,F,n,hd,cs,Xg,[]⟩
inductive S5 (E:List (Str×Addr))(cm:Str->Option Xj)(cl:Hp)(y:Str):Prop|mk (ca o)(h1:E.lookup y=W_ ca)(h2:(ca,MO.raw o)∈cl)(h3:o.data=.cell (cm y))
inductive Cv (G:cc)(g:bQ)(T:Hp)(s:XB)(role:Addr->Role)(E:List (Str×Addr))(cm:Str->Option Xj)(cs:List Str):Prop|mk (role':Addr->Role)(cl:_)(R:RH G role' g (cl++T) s)(h:∀y∈cs,S5 E cm cl y)(k:∀b,(∀y∈cs,E.lookup y≠W_ b)->role' b=role b)
theorem x9{E:List (Str×Addr)}{cm:Str->Option Xj}(K:E.Pairwise λx y=>x.2≠y.2) (R:RH G role g T s) (O:∀y J,E.lookup y=W_ J->role J=.jZ/\s.heap.IsCell J (cm y)):
  ∀{cs:List Str},cs.Nodup->(∀y∈cs,∃J,E.lookup y=W_ J)->Cv G g T s role E cm cs:=by
 intro cs;induction cs with|nil=>exact λW W=>⟨role,[],R,λW h=>(nomatch h),λW W=>rfl⟩|cons y cs ih=>
  intro nd hs;obtain⟨role',cl,R',h,k⟩:=ih (X5.mp nd).2 λz m=>hs z (.tail _ m);obtain⟨J,e⟩:=hs y (.head _);obtain⟨r,o,M,e2⟩:=O y J e;have f:role' J=.jZ:=(k J λz m U=>(X5.mp nd).1 (name_of_addr K (mem_of_lookup e) (mem_of_lookup U)▸m)).trans r;refine⟨gu role' J .mo,(J,.raw o)::cl,R'.own (mo:=.raw o) f ⟨_,M⟩ M,λz m=>?_,λb q=>(aZ λ(z:b=J)=>q y (.head _) (z▸e)).trans (k b λz m=>q z (.tail _ m))⟩;rcases Xv.mp m with rfl|m
  .exact⟨J,o,e,.head _,e2⟩
  .obtain⟨c1,o1,h1,h2,h3⟩:=h z m;exact⟨c1,o1,h1,.tail _ h2,h3⟩
variable{np:Nat}{fd:FuncData}{nm:List Str}{cs:List Str}
theorem Fy{i:Nat}{as:aP}{J:List Xj}{cl:Hp}(D:yA G i fd nm np cs) (M:cF G g as J) (K:(nm.take np).length=J.length) (kf:∀y,env.kindOf y=fd.scope.names.lookup y)
  (Z:∀y∈cs,S5 env.cells (bindC env.kindOf ((nm.take np).zip J) λW=>Xk) cl y):yt G env nm g (bindL env.kindOf ((nm.take np).zip J) λW=>Xk) (cl++[]) (as.map W_):=λi v e=>by
 have U:(((nm.take np).zip J).map (λW=>W.1)).Nodup:=by rw[List.map_fst_zip (X4 K)];exact D.nd.sublist (List.take_sublist _ _)
 rw[bf,X2]at e;obtain⟨v',e1,e2⟩:=X6.mp e;obtain rfl:=XG e2;obtain⟨val,e2,e3⟩:=M.get e1;obtain⟨y,en⟩:∃y,(nm.take np)[i]?=W_ y:=⟨_,XD (K▸(XK.mp e2).1)⟩;have O:=B' (kf:=env.kindOf) (m:=λW=>Xk) (m':=λW=>Xk) U (Yq (List.getElem?_zip_eq_some.mpr ⟨en,e2⟩));refine⟨y,val,(List.getElem?_take_of_lt (YX (XK.mp en).1 (List.length_take_le ..))).symm.trans en,e3,?_⟩;rcases D.par _ (Yq en)with q|⟨q,Y⟩
 .exact .inl ⟨(kf _).trans q,O.1 ((kf _).trans q)⟩
 .obtain⟨ca,o,z1,z2,V⟩:=Z _ Y;exact .inr ⟨ca,o,.inl ((kf _).trans q),z1,X9 _ z2,by rw[V,O.2 (by rw[kf,q];exact λz=>(nomatch z))]⟩
theorem Hz{i:Nat}{hd:Bool}{as:aP}{J:List Xj}{s':XB}(D:yA G i fd nm np cs) (R:RH G role g (H++F) s) (K:cF G g as J) (M:(nm.take np).length=J.length) (kf:∀y,env.kindOf y=fd.scope.names.lookup y)
  (hs:∀y∈cs,∃O,env.cells.lookup y=W_ O) (x:InCallC s env.locals (bindL env.kindOf ((nm.take np).zip J) λW=>Xk) env.cells (bindC env.kindOf ((nm.take np).zip J) λW=>Xk) s'):Rel G (xK env A nm F n hd cs) g ⟨H,as.map W_⟩ s':=by
 obtain⟨h',tk,rfl⟩:=x.toInCall.same;obtain⟨U,Y,nL⟩:=qp x.toInCall.ns;have fL:=x.toInCall.fresh;obtain⟨role',cl,R2,V,k⟩:=x9 x.apart (R.keep (s':={s with heap:=h',toks:=tk}) rfl rfl λb o W e=>x.toInCall.keep b o e) (λy O e=>⟨eG R (Xa fL (Yv (x.above _ _ (mem_of_lookup e)))),x.cell y O e⟩) D.cnd hs;refine⟨_,(env.locals,.fc U)::cl,(R2.own (mo:=.fc U) ((k _ λy W e=>Nat.lt_irrefl _ (x.above _ _ (mem_of_lookup e))).trans (eG R fL)) ⟨_,Y⟩ ⟨U.slots,Y⟩).perm ?_,U,_,cl,rfl,nL,λy hy=>?_,Fy D K M kf V⟩
 .rw[<-YK,<-Xf,<-Xf];exact Zf.append_right _
 .obtain⟨O,o,z1,z2,Z⟩:=V y hy;exact⟨O,o,_,z1,z2,Z⟩
theorem Qx{i:Nat}{hd:Bool}{L a:Addr}(D:yA G i fd nm np cs)(K:ly A F)(J:sL A hd (n+1))(ap:(callEnvC fd L a).cells.Pairwise λx y=>x.2≠y.2):bg (xK (callEnvC fd L a) A nm F n hd cs):=by
 obtain⟨l,O,M⟩:=K;refine⟨⟨callEnvC fd L a::l,by show(A.frames).map _=_;rw[O];rfl,λe he=>?_,λW=>⟨rfl,l,rfl⟩⟩,⟨dp1 J.d,dp3 J.u,J.h⟩,λW z=>(nomatch z),λW=>List.pairwise_map.mpr ap,D.kind,D.glob,D.blt,D.nd,D.Ec⟩;rcases Xv.mp he with rfl|he
 .exact⟨λq=>by rw[show(callEnvC fd L a).scope.kind=_ from D.kind]at q;exact(nomatch q),_,rfl,.inl rfl⟩
 .obtain⟨a1,L,a2,a3⟩:=M e he;exact⟨a1,L,a2,.inr a3⟩
theorem call_in{i:Nat}{hd:Bool}{vs dv:aP}{body:List Stmt}{Q:V->Hp->Prop}{X:di->Hp->Prop}(hnl:∀h,G.K.In h->h.NoLimit) (D:yA G i fd nm np cs) (hB:yD G fd nm np vs.length dv) (hnp:vs.length+dv.length=np) (hnn:np<=nm.length)
  (hb:fd.body=.stmts body)
  (h:∀(L a:Addr) A F,bg (xK (callEnvC fd L a) A nm F n hd cs)->oj G (xK (callEnvC fd L a) A nm F n hd cs) body ⟨H,(vs++dv).map W_⟩
   (λo B=>match o with|.none=>Q .none B.H|.sq Xb [v]=>Q v B.H|_=>False) (λx B=>X x B.H)):gr G hd (n+1) i vs H Q X:=by
 intro A F g role s Y hr hf hv R;obtain⟨oc,od,sl,hat⟩:=D.at_;have hK:G.K.In s.heap:=λa o e=>(R.gk _ _ (R.kb a o e)).1;obtain⟨Z,hbi,hvr⟩:=hB g s Y R.kb hK hv.1.symm;have J:=hvr vs hv;have U:(nm.take np).length=Z.length:=by rw[Z5,<-J.1,Xc,hnp];exact Nat.min_eq_left hnn
 refine codeAny_call_function (show A.depth<1000 from dp0 hr.d) (hK _ _ hat) rfl D.co D.gen hb (codeRec_of hK D.code) (hbi _ _ _ _ ?_)
 rw[D.s8];refine wpAny_newFunctionEnv_cells D.kind (λx hx=>(D.par x.1 (by rw[<-List.map_fst_zip (X4 U)];exact Zx hx)).imp id λz=>⟨z.1,D.cell _ z.2 _⟩) λenv he s' x=>?_;subst he;refine⟨(hnl _ hK).keeps x.toInCall.keep,codeAny_func ?_⟩;have O:=Qx (L:=s.heap.objs.size) (a:=G.fa i) D hf hr x.apart;refine XY (h s.heap.objs.size (G.fa i) A F O g s' (Hz D R J U (λW=>rfl) (λy hy=>Y3.mp (D.cell y hy _)) x)) (λfl s' z=>?_) λe s' z=>XY (leaveX O rfl z) (λW W q=>q) λW W q=>q;obtain⟨g',o,B,k,M,R',q⟩:=z;obtain⟨role',Lc',R',l'⟩:=R';have R5:RH G role' g' (B.H++F) s':=(R'.perm (by rw[<-Xf];refine (Zf.append_right _).trans ?_;rw[Xf];exact .refl _)).drop
 induction fl with|next=>cases M;exact⟨g',.none,B.H,role',k,.none,R5,q⟩|brk=>cases M;exact q.elim|cont=>cases M;exact q.elim|ret v=>obtain⟨mv,rfl,hmv⟩:=M;exact⟨g',mv,B.H,role',k,hmv,R5,q⟩
noncomputable def pick:ax->Hp->Option Hp|[],H=>W_ H|p::ps,H=>(aF H p).bind λe=>(iC H p (pick ps)).map (Z7 e)
noncomputable def K7:ax->Hp->Option Hp|[],H=>W_ H|p::ps,e::H=>(K7 ps H).bind λr=>jW r p e W_|_::_,[]=>Xk
theorem rH:∀{ps:ax}{H H':Hp},pick ps H=W_ H'->H.Perm H':=by
 intro ps;induction ps with|nil=>intro H H' h;cases h;exact .refl _|cons p ps ih=>intro H H' h;have h:(aF H p).bind (λe=>(iC H p (pick ps)).map (Z7 e))=W_ H':=h;obtain⟨e,h1,h⟩:=Option.bind_eq_some_iff.mp h;rw[mj]at h;obtain⟨r,h2,rfl⟩:=X6.mp h;exact(dG h1).trans (.cons _ (ih h2))
theorem tN:∀{ps:ax}{H H':Hp},K7 ps H=W_ H'->H.Perm H':=by
 intro ps;induction ps with|nil=>intro H H' h;cases h;exact .refl _|cons p ps ih=>
  rintro(_|⟨e,H⟩) H' h
  .exact gG h
  .have h:(K7 ps H).bind (λr=>jW r p e W_)=W_ H':=h;obtain⟨r,h1,h⟩:=Option.bind_eq_some_iff.mp h;rw[iw]at h;obtain rfl:=XG h;exact(List.Perm.cons _ (ih h1)).trans dF.symm
def FD (ps:ax)(H:Hp)(k:Hp->Prop):Prop:=ck (K7 ps H) k
def rtQ(Q:V->St->Prop)(r:List bG)(v:V)(H:Hp):Prop:=Q v ⟨H,r⟩
def rtK (ps:ax)(Q:V->St->Prop)(r:List bG)(v:V)(H:Hp):Prop:=FD ps H (rtQ Q r v)
def exK(X:di->St->Prop)(r:List bG)(x:di)(H:Hp):Prop:=X x ⟨H,r⟩
def i_ (G:cc) (hd:Bool) (n i:Nat) (ps:ax) (vs:aP) (B:St) (Q:V->St->Prop) (X:di->St->Prop):Prop:=match B with|⟨H,r⟩=>ck (pick ps H) λH=>gr G hd n i vs H (rtK ps Q r) (exK X r)
variable{ps:ax}
theorem FD.to{k:Hp->Prop}(h:FD ps H k):Sw (K7 ps H) k:=ck.to h
theorem pk{r:List bG}(O:bg c)(l:oa G c g Lc r):ly c.A (Lc++c.F):=by
 obtain⟨J,U,M,-⟩:=O.fr;refine⟨J,U,λe m=>?_⟩;obtain⟨k,L,k1,k2⟩:=M e m;refine⟨k,L,k1,?_⟩;induction l with|mk o m' cs V n Y Z=>
  subst V;rcases k2 with rfl|⟨o',k3,K⟩
  .refine⟨o,.head _,λvs q=>?_⟩;obtain⟨es,ep,z,-⟩:=n;rw[q]at z;cases z
  .exact⟨o',Xx _ k3,K⟩
theorem RH.Hx{e:Addr}{L:Option Addr}(R:RH G role g ((e,.jU Xk tb cl fs)::T) s):RH G role g ((e,.jU L tb cl fs)::T) s:=by obtain⟨dx,O,od,ws,Z,e2,Y,e4,V⟩:=R.hold;refine R.mod rfl rfl (λW W W W z=>z) (λW W=>rfl) (λb q=>R.sz b q) ⟨dx,O,od,_,Z,⟨ws,rfl,V.imp id λz=>?_⟩,e2,Y,e4⟩;obtain⟨t,U,ts,M,w2,K,J,w5⟩:=z;refine⟨t,U,ts,M,w2,K,J,w5.imp id λz=>?_⟩;obtain⟨l,q,-⟩:=z;exact gG q
theorem su{i:Nat}{vs:aP}{J:List Xj}{R:Result->XB->Prop}(hA:sL A c.hd n)(U:A.frames=c.A.frames)(O:bg c)(k₀:g₀.le g)(V:Rel G c g B s)(hv:cF G g vs J)(h:i_ G c.hd n i ps vs B Q X)
  (fin:∀v s',QW G c g₀ Q v s'->R (.ok (.ret v)) s')(Y:∀v s',XW G c g₀ X v s'->R (.error v) s'):Zr G.M A (.call (.ref (G.fa i)) ⟨J,[]⟩) R s:=by
 obtain⟨H0,Z⟩:=B;obtain⟨H,hp,h⟩:=ck.to h;obtain⟨role,Lc,V,l⟩:=V;have fo:=pk O l;refine codeAny_mono (h A (Lc++c.F) g role s J hA (by unfold ly;rw[U];exact fo) hv (V.perm ((rH hp).append_right _))) λr s' z=>?_;rcases r with e|(v|_|_|_)
 .obtain⟨g',e,x,H',role',ev,k,R',q⟩:=z;exact Y _ _ ⟨g',e,x,⟨H',Z⟩,ev,k₀.trans k,role',Lc,R'.Hx,l.mono k,q⟩
 .exact z.elim
 .exact z.elim
 .exact z.elim
 .obtain⟨g',mv,H',role',k,K,R',q⟩:=z;obtain⟨H2,q1,q2⟩:=q.to;exact fin _ _ ⟨g',mv,⟨H2,Z⟩,k₀.trans k,K,⟨role',Lc,R'.perm ((tN q1).append_right _),l.mono k⟩,q2⟩
inductive FnAt (G:cc)(i:Nat):Prop|mk (oc od sl fd:_)(e:G.K.lookup (G.fa i)=W_ ⟨oc,od,.func fd,sl⟩)
theorem g0{p:Pos}{i:Nat}{first:List Xj}{fv:aP}{xs:List Xd}(O:bg c) (hF:FnAt G i) (V:b0 c xs) (k₀:g₀.le g) (R:Rel G c g B s) (Z:cF G g fv first)
  (h:jC G c p xs B (λl σ'=>isQ Xb l λvs=>i_ G c.hd c.n i ps (fv++vs) σ' Q X) X):XT G.M c.A (callWith p (.ref (G.fa i)) first (ZA p (YJ xs c.env)) []) (QW G c g₀ Q) (XW G c g₀ X) s:=by
 obtain⟨U,od,J,fd,e⟩:=hF;refine callWith_function (o:=⟨U,od,.func fd,J⟩) (fd:=fd) (XY (dh (P:=λa s'=>_) V R h λg' l vs σ' s' k Y R' q=>?_) (λW W z=>z) λW W z=>z.mono k₀);exact⟨⟨R'.K _ _ e,rfl⟩,wpAny_call (su O.room rfl O (k₀.trans k) R' ((Z.mono k).append Y) q (λv s' z=>z) λv s' z=>z)⟩
theorem BA{x:Str}{p:Pos}{i:Nat}{xs:List Xd}(O:bg c)(M:FnAt G i)(J:b0 c xs)(hk:c.env.kindOf x=W_ .globalImplicit)(hd:(x==("__debug__":Str))=Xb)
  (e:nsIn G.K Yj x=W_ (W_ (.ref (G.fa i))))(h:jC G c p xs B (λl σ'=>isQ Xb l λvs=>i_ G c.hd c.n i ps vs σ' Q X) X):bK G c (.Call (.Name x px) xs [] p) B Q X:=λg s R=>
 Y0 (gV O R.K hk hd e px (g0 (fv:=[]) O M J .refl R .nil h))
def JD (G:cc)(v:V)(k:Nat->Prop):Prop:=match v with|.cst (.ref a)=>∃i,a=G.fa i/\k i|_=>False
inductive FnV (G:cc)(v:V)(k:Nat->Prop):Prop|mk (i)(e:v=.cst (.ref (G.fa i)))(h:k i)
theorem JD.to{k:Nat->Prop}(h:JD G v k):FnV G v k:=by
 cases v with
 |cst y=>induction y with
  |ref a=>obtain⟨i,rfl,h⟩:=h;exact⟨i,rfl,h⟩|_=>exact h.elim
 |_=>exact h.elim
theorem wY{x:Str}{p:Pos}{xs:List Xd}(O:bg c)(K:∀i,i<256->FnAt G i)(J:b0 c xs)
  (h:bK G c (.Name x px) B (λv σ1=>JD G v λi=>i<256/\jC G c p xs σ1 (λl σ'=>isQ Xb l λvs=>i_ G c.hd c.n i ps vs σ' Q X) X) X):bK G c (.Call (.Name x px) xs [] p) B Q X:=λg s R=>
 Y0 (Ev.go .refl R h λg' mv v σ' s' k W e R' q=>by obtain⟨i,rfl,hi,q⟩:=JD.to q;obtain rfl:=e.jz;exact g0 (fv:=[]) O (K _ hi) J k R' .nil q)
def qy (G:cc)(m:Nat)(k:Nat->Prop)(cl:Nat)(fs:Fs):Prop:=match da fs m with|none=>ck (G.mt cl m) k|some _=>False
inductive MtP(G:cc)(m:Nat)(k:Nat->Prop)(cl:Nat)(fs:Fs):Prop|mk(i)(e:da fs m=Xk)(e':G.mt cl m=W_ i)(h:k i)
theorem qy.to{m:Nat}{k:Nat->Prop}(h:qy G m k cl fs):MtP G m k cl fs:=by
 unfold qy at h;generalize e:da fs m=J;induction J with
 |none=>rw[e]at h;obtain⟨i,K,h⟩:=ck.to h;exact⟨i,e,K,h⟩|some=>rw[e]at h;exact h.elim
theorem qy.of{m i:Nat}{k:Nat->Prop}(e:da fs m=Xk)(J:G.mt cl m=W_ i)(h:k i):qy G m k cl fs:=by unfold qy;rw[e,J];exact h
def rS (G:cc)(p m:Nat)(H:Hp)(v:V)(k:Nat->Prop):Prop:=match v with|.obj cl fs=>qy G m k cl fs|.ref a=>fK H p a (HA (qy G m k))|_=>False
structure yw (G:cc) (cl m i:Nat):Prop where
 lt:m<128
 cls:dK G.K (G.cA cl)=Xg
 ga:YU G.K (.ref (G.cA cl)) "__getattr__"=W_ Xk
 at_:YU G.K (.ref (G.cA cl)) (G.an m)=W_ (W_ (.ref (G.fa i)))
 ty:typeIn G.K (.ref (G.fa i))=W_ (.type "function")
 fn:FnAt G i
theorem kY{m i:Nat}{x:Addr}{U od dt J}{pl:Sem Bool}{P:Xj×List Xj->XB->Prop}(K:G.K.In s.heap) (M:yw G cl m i) (O:s.heap.get? x=W_ ⟨.ref (G.cA cl),W_ dx,dt,U⟩)
  (hd:s.heap.get? dx=W_ od) (n:jA od J) (e:J (G.an m)=Xk) (q:P (.ref (G.fa i),[.ref x]) s):XT G.M A (getMethod (.ref x) (G.an m) pl) P E s:=by
 obtain⟨cd,Z⟩:=dK.to M.cls;obtain⟨ga,Y,V⟩:=Z.ga;have T:Looks G.M s.heap (typeOf (.ref x)) (.ref (G.cA cl)):=(Looks.ld (part:=Xk) O).andThen .now;have L:∀{name r},YU G.K (.ref (G.cA cl)) name=W_ r->Looks G.M s.heap (specialOf (.ref x) name) r:=λe=>T.andThen (Z9 K e);unfold getMethod;refine Xe ((L Y).here ?_);show XT _ A (if(Manifest.canonical ga != "object.__getattribute__")=Xg then _ else _) P E s;rw[WZ (by rw[V];exact Xy)];refine Xe ((L M.ga).here ?_);rw[WZ (by decide)];refine Xe ((L M.at_).here ?_);refine Xe ((looks_typeIn K M.ty).here ?_);rw[WZ (by decide+kernel)];refine Xe (Zy O ?_);refine Xe (wpAny_nsGet (n.at hd) ?_);rw[e,WZ (by decide)];exact Xe (wpAny_rule (Xo q))
theorem A8{p m:Nat}{x:Xj}{k:Nat->Prop}{pl:Sem Bool}{P:Xj×List Xj->XB->Prop}(GM:∀cl m i,G.mt cl m=W_ i->yw G cl m i) (R:Rel G c g B s) (U:VR G g v x) (h:rS G p m B.H v k)
  (fin:∀i,FnAt G i->k i->P (.ref (G.fa i),[x]) s):XT G.M A (getMethod x (G.an m) pl) P E s:=by
 induction U with|obj cl fs a dx J od O vf e e2 V h0 h1 h2=>
  obtain⟨i,q1,q2,h⟩:=qy.to h;have M:=GM _ _ _ q2;exact kY R.K M (R.gk e) (R.gk e2) V (h0 m M.lt q1) (fin i M.fn h)|ref a=>
  obtain⟨b,cl,fs,Y,h⟩:=HA.to h;obtain⟨i,q1,q2,h⟩:=qy.to h;have M:=GM _ _ _ q2;obtain⟨role,dx,J,od,dt,e,e2,-,Z,O,vf,n,-,z,-⟩:=R.at Y;exact kY R.K M e Z n (z m M.lt q1) (fin i M.fn h)|_=>exact h.elim
theorem Bu{o:Xd}{m q:Nat}{ap p:Pos}{xs:List Xd}(O:bg c) (GM:∀cl m i,G.mt cl m=W_ i->yw G cl m i) (Y:∀w,Zm o (G.an m) c.env w=w) (U:b0 c xs) (K:xs.length<20) (V:(ap.endLine==p.line))
  (h:bK G c o B (λv σ1=>rS G q m σ1.H v λi=>jC G c p xs σ1 (λl σ'=>isQ Xb l λvs=>i_ G c.hd c.n i ps (v::vs) σ' Q X) X) X):bK G c (.Call (.Attribute o (G.an m) ap) xs [] p) B Q X:=λg s R=>by
 rw[arm_eval_Call,Y];refine Xe (Ev.go .refl R h λg1 v x σ1 s1 k1 W M R1 q1=>Xe (Yd ?_));have e1:(ZA p (YJ xs c.env)).all (λx=>!x.1):=by unfold ZA;rw[U,Yn,List.all_map,XM];exact λW W=>rfl
 have e:methodCallForm (xs.length+([]:List Keyword).length) (ZA p (YJ xs c.env)) (backToKw p (keywordEach [] c.env)):=by show((ZA p (YJ xs c.env)).all (λx=>!x.1)&&Xg&&decide (xs.length+0+0<30));rw[e1,ZD,ZD];exact W4 (rE (Xm (Xm (jL K) (Xh 0)) (Xh 0)) rfl)
 have J:methodCallPos Xg o c.env ap p=pure p:=by unfold methodCallPos;rw[V];rfl
 unfold methodCall;rw[e];refine Xe (X8 (A8 GM R1 M q1 λi Z q=>?_));exact Xe (wpAny_of_eq J (g0 (fv:=[v]) O Z U k1 R1 (.cons M .nil) q))
inductive adB (G:cc)(cl:Nat):Prop|mk (oc od cd sl:_)(e:G.K.lookup (G.cA cl)=W_ ⟨oc,od,.cls cd,sl⟩)
structure yC (G:cc)(cl fi:Nat):Prop where
 make:makesIn G.K (G.cA cl)=Xg
 init:YU G.K (.ref (G.cA cl)) "__init__"=W_ (W_ (.ref (G.fa fi)))
 ty:typeIn G.K (.ref (G.fa fi))=W_ (.type "function")
 call:ZF G.K (.ref (G.cA cl)) "__call__"=W_ (W_ (.builtin "type.__call__"))
 at_:adB G cl
def nmK(a:Addr)(cl x:Nat)(a':Addr)(m:MO)(H:Hp)(k:Fs->Hp->Prop):Prop:=match m with|.inst x' cl' fs=>(a'=a/\x'=x/\cl'=cl)/\k fs H|_=>False
def nhK(a:Addr)(cl x:Nat)(H:Hp)(k:Fs->Hp->Prop):Prop:=match H with|(a',m)::H=>nmK a cl x a' m H k|[]=>False
def rQ(a:Addr)(cl x:Nat)(v:V)(H:Hp)(k:Fs->Hp->Prop):Prop:=match v with|.none=>nhK a cl x H k|_=>False
def VO(a:Addr)(cl:Nat)(k:Fs->Hp->Prop)(v:V)(H:Hp):Prop:=rQ a cl 0 v H k
def tlX(X:di->Hp->Prop)(x:di)(H:Hp):Prop:=match H with|_::H=>X x H|[]=>False
def dk (G:cc) (hd:Bool) (n cl fi:Nat) (vs:aP) (H:Hp) (k:Addr->Fs->Hp->Prop) (X:di->Hp->Prop):Prop:=match n with|n'+1=>∀a,gr G hd n' fi (.ref a::vs) ((a,.inst 0 cl [])::H) (VO a cl (k a)) (tlX X)|0=>False
inductive ac8 (G:cc)(hd:Bool)(n cl fi:Nat)(vs:aP)(H:Hp)(k:Addr->Fs->Hp->Prop)(X:di->Hp->Prop):Prop|mk (m)(e:n=m+1)(h:dk G hd (m+1) cl fi vs H k X)
variable{fi:Nat}
theorem dk.to{hd:Bool}{vs:aP}{k:Addr->Fs->Hp->Prop}{X:di->Hp->Prop}(h:dk G hd n cl fi vs H k X):ac8 G hd n cl fi vs H k X:=by induction n using XN with|zero=>exact h.elim|succ m=>exact⟨m,rfl,h⟩
inductive Sx(a:Addr)(cl:Nat)(x:Nat)(v:V)(H:Hp)(k:Fs->Hp->Prop):Prop|mk(fs H':_)(h0:v=.none)(h1:H=(a,.inst x cl fs)::H')(h2:k fs H')
theorem rQ.to{a:Addr}{x:Nat}{k:Fs->Hp->Prop}(h:rQ a cl x v H k):Sx a cl x v H k:=by
 cases v with
 |none=>induction H using Xn with|nil=>exact h.elim|cons y H=>
   obtain⟨K,m⟩:=y;induction m with
   |inst J e fs=>obtain⟨⟨rfl,rfl,rfl⟩,h⟩:=h;exact⟨_,_,rfl,rfl,h⟩|_=>exact h.elim
 |_=>exact h.elim
theorem RH.M_ {dt:Data}{x:Nat}(R:RH G role g T s) (hf:∀c d,(⟨c,d,dt,#[]⟩:Obj).isFreed=Xb) (O:match x with|0=>dt=.plain|1=>∃t,dt=dT t|_=>∃ws,dt=.fields ws) {a:Addr}(M:s.heap.objs.size<=dx) (V:s.heap.objs.size<=a) (J:a≠dx)
  (U:h.get? dx=W_ ZG) (e2:h.get? a=W_ ⟨.ref (G.cA cl),W_ dx,dt,#[]⟩) (kk:∀b o,s.heap.get? b=W_ o->h.get? b=W_ o) {t:Nat}:
  ∃role',RH G role' g ((a,.inst x cl [])::T) {s with heap:=h,toks:=t}:=by
 have Z:=eG R M;have Y:=eG R V;have K:∀b,role b≠.jZ->b≠dx:=λb q e=>q (e▸Z);have R1:RH G (gu role dx (.pF a)) g T {s with heap:=h,toks:=t}:=R.grow rfl rfl kk (λb q=>aZ (K b q)) (λb q=>by
  by_cases z:b=dx
  .exact⟨_,by rw[z];exact U⟩
  .obtain⟨o,w⟩:=R.sz b λy=>q ((aZ z).trans y);exact⟨o,kk _ _ w⟩) .refl λW W e=>.inl e
 refine⟨_,R1.own ((aZ J).trans Y) ⟨_,e2⟩ ⟨dx,#[],ZG,dt,e2,O,(aZ (Zb J)).trans bS,U,⟨λW=>Xk,λW=>.none,iO,⟨#[],_,rfl,Xh _⟩,λW W W=>rfl,λW W W e=>(nomatch e)⟩⟩⟩
theorem jG{hd:Bool}{rest:List Xj}(h:sL A hd (n+1)):sL (A.under (.builtin "type.__call__" ⟨.ref C::rest,[]⟩)) hd n/\(A.under (.builtin "type.__call__" ⟨.ref C::rest,[]⟩)).frames=A.frames:=by
 have w:(Code.builtin "type.__call__" ⟨.ref C::rest,[]⟩).weight=1:=by with_unfolding_all rfl
 have u:(Code.builtin "type.__call__" ⟨.ref C::rest,[]⟩).cUnits=1:=by with_unfolding_all rfl
 have f:(Code.builtin "type.__call__" ⟨.ref C::rest,[]⟩).envs=[]:=by with_unfolding_all rfl
 refine⟨⟨?_,?_,h.h⟩,?_⟩
 .show A.depth+_+3*n+3<1000;rw[w];exact dp1 h.d
 .show A.units+_+20*n+20<9900;rw[u];exact dp4 h.u
 .have e:(A.under (.builtin "type.__call__" ⟨.ref C::rest,[]⟩)).frames=pushEnvs (Code.builtin "type.__call__" ⟨.ref C::rest,[]⟩).envs A.frames:=by with_unfolding_all rfl
  rw[e,f];rfl
theorem eK{args:List (Bool×Sem Xj)}{O:Xj}{od:Option Addr}{Z:ClassData}{J:Array (Option Xj)}(e:args.any (λW=>W.1)=Xb) (Y:G.K.lookup C=W_ ⟨O,od,.cls Z,J⟩) (V:ZF G.K (.ref C) "__call__"=W_ (W_ (.builtin "type.__call__")))
  (h:XT G.M A (evalArgs (.ref C) Xg args []) (λa s₁=>G.K.In s₁.heap/\XT G.M A (call (.ref C) a.pos a.kw) P E s₁) E s):XT G.M A (callWith pos (.ref C) [] args []) P E s:=by
 unfold callWith;refine Xe (X8 (XY h (λa s₁ h₁=>Xe (Yd ?_)) λW W x=>x));rw[e];refine Xe (m:=keeperOf (.ref C)) ?_;unfold keeperOf;refine Xe (wpAny_load (h₁.1 _ _ Y) ?_);refine Xe ((looks_specialIn h₁.1 V).here ?_);rw[W0 (WY _)];refine Xo ?_;exact Xe (XY h₁.2 (λr s₂ U=>Xe (X8 (wpAny_point (Xo U)))) λW W x=>x)
theorem qt{vs:aP}{J:List Xj}(en:c.n=n+1) (O:bg c) (C:yC G cl fi) (R:Rel G c g B s) (hv:cF G g vs J){kf:Addr->Fs->Hp->Prop}
  (h:∀a,gr G c.hd n fi (.ref a::vs) ((a,.inst 0 cl [])::B.H) (λv H'=>rQ a cl 0 v H' (kf a)) λx H'=>match H' with|_::H'=>X x ⟨H',B.r⟩|[]=>False)
  (fin:∀g' a fs H' s' role Lc,g.le g'->RH G role g' ((a,.inst 0 cl fs)::(H'++(Lc++c.F))) s'->oa G c g' Lc B.r->kf a fs H'->P (.ref a) s'):XT G.M c.A (call (.ref (G.cA cl)) J) P (XW G c g X) s:=by
 obtain⟨hh,gg,d,t,os⟩:=s;have K:=R.K;have Y:=O.room;rw[en]at Y;refine wpAny_call (make_core (makes_of K C.make) (Z9 K C.init) (λU=>bind_fn K U C.ty) (.inl rfl) ?_);induction R with|mk role Lc R l=>
  have hx:((hh.push ZG).push (instObj (G.cA cl) hh.objs.size)).get? (hh.objs.size+1)=W_ (instObj (G.cA cl) hh.objs.size):=by have:=X0 (hh.push ZG) (o:=instObj (G.cA cl) hh.objs.size) rfl;rwa [Heap.size_push]at this
  obtain⟨role',R'⟩:=R.M_ (x:=0) (cl:=cl) (dt:=.plain) (λW W=>rfl) rfl (h:=(hh.push ZG).push (instObj (G.cA cl) hh.objs.size)) (dx:=hh.objs.size) (a:=hh.objs.size+1) (t:=t) (Xh _) (Yl _) (Nat.succ_ne_self _)
   (XA _ (X0 _ rfl)) hx λb o e=>XA _ (XA _ e)
  obtain⟨r1,Z⟩:=jG (C:=G.cA cl) (rest:=J) Y;have fo:=pk O l;refine codeAny_mono (h (hh.objs.size+1) _ (Lc++c.F) g role' _ (.ref (hh.objs.size+1)::J) r1 (by unfold ly;rw[Z];exact fo) (.cons (.ref _) hv) R') λr s' z=>?_;rcases r with e|(v|_|_|_)
  .induction z with|mk g' e x H' role' ev k R' q=>induction H' using Xn with|nil=>exact q.elim|cons y H'=>exact⟨g',e,x,⟨H',B.r⟩,ev,k,role',Lc,((R'.perm (.swap ..)).drop (T₀:=[y])).Hx,l.mono k,q⟩
  .exact z.elim
  .exact z.elim
  .exact z.elim
  .induction z with|mk g' mv H' role' k V R' q=>obtain⟨fs,H2,rfl,rfl,q'⟩:=q.to;obtain rfl:=V.none_inv;exact⟨rfl,fin g' _ fs H2 s' role' Lc k R' (l.mono k) q'⟩
theorem HZ{x:Str}{p:Pos}{q:Nat}{xs:List Xd}(O:bg c) (C:yC G cl fi) (M:b0 c xs) (hk:c.env.kindOf x=W_ .globalImplicit) (hd:(x==("__debug__":Str))=Xb)
  (e:nsIn G.K Yj x=W_ (W_ (.ref (G.cA cl)))) (h:jC G c p xs B (λl σ'=>isQ Xb l λvs=>dk G c.hd c.n cl fi vs σ'.H (λa fs H'=>Q (.ref a) ⟨cX H' q (a,.inst 0 cl fs),σ'.r⟩) λx H'=>X x ⟨H',σ'.r⟩) X):bK G c (.Call (.Name x px) xs [] p) B Q X:=λg s R=>by
 obtain⟨oc,od,cd,Z,J⟩:=C.at_;refine Y0 (gV O R.K hk hd e px (eK (plain_any M) J C.call (dh M R h λg' l vs σ' s' k V R' z=>⟨R'.K,?_⟩)));obtain⟨n,en,z⟩:=dk.to z;exact XY (qt en O C R' V z λY a fs H' s2 role Lc k2 R2 U q2=>⟨Y,.ref a,⟨cX H' q (a,.inst 0 cl fs),σ'.r⟩,k.trans k2,.ref a,⟨role,Lc,R2.perm ((dF (p:=q)).symm.append_right _),U⟩,q2⟩) (λW W z=>z) λW W z=>z.mono k
theorem Bt{x:Str}{p:Pos}{xs:List Xd}(O:bg c) (C:yC G cl fi) (M:b0 c xs) (hk:c.env.kindOf x=W_ .globalImplicit) (hd:(x==("__debug__":Str))=Xb)
  (e:nsIn G.K Yj x=W_ (W_ (.ref (G.cA cl)))) (h:jC G c p xs B (λl σ'=>isQ Xb l λvs=>dk G c.hd c.n cl fi vs σ'.H (λW fs H'=>Q (.obj cl fs) ⟨H',σ'.r⟩) λx H'=>X x ⟨H',σ'.r⟩) X):bK G c (.Call (.Name x px) xs [] p) B Q X:=λg s R=>by
 obtain⟨oc,od,cd,sl,J⟩:=C.at_;refine Y0 (gV O R.K hk hd e px (eK (plain_any M) J C.call (dh M R h λg' l vs σ' s' k Y R' z=>⟨R'.K,?_⟩)));obtain⟨n,en,z⟩:=dk.to z;refine XY (qt en O C R' Y z λg2 a fs H' s2 role Lc k2 R2 U q2=>?_) (λW W z=>z) λW W z=>z.mono k;obtain⟨role',Z,k3,R3,V⟩:=R2.qR;exact⟨Z,_,⟨H',σ'.r⟩,(k.trans k2).trans k3,V,⟨role',Lc,R3,U.mono k3⟩,q2⟩
def pV(o:V)(again:Prop)(out:Prop)(ret:Prop):Prop:=match o with|.none=>again|.bool Xb=>again|.bool Xg=>out|_=>ret
theorem lC.ret{o:V}{x:Xj}{a b r:Prop}(h:lC G g o (.ret x))(q:pV o a b r):r:=by obtain⟨v,rfl,-⟩:=h;exact q
theorem wN{t:Xd}{body:List Stmt}{p:Pos}(O:bg c) (ht:c.top)
  (h:∀I:St->Prop,(∀B,oA G c t B (λv σ'=>iU v λz=>match z with|true=>oj G c body σ' (λo σ''=>pV o (I σ'') (Q .none σ'') (Q o σ'')) X|false=>Q .none σ') X->I B)->I B):eY G c (.While t body [] p) B Q X:=by
 refine λg s R=>wpAny_While (h (λB=>∀g₁ s,g.le g₁->Rel G c g₁ B s->Zr G.M c.A (.whileLoop t body [] c.env) (λr s'=>match r with|.ok f=>FW G c g Q f s'|.error e=>cameBackBy G.M c.A c.env (XW G c g X) e s') s) (λB step g₁ s k₁ R=>?_) g s .refl R);refine ZT ?_;rw[Y7 (by with_unfolding_all rfl)];show XT _ _ ((whileTurn t body [] c.env).onRaise (λx=>do noteFrame x c.env;theTreesLotGoes x)) _ _ s;have Y:∀{e s'}{g₂:bQ},g.le g₂->XW G c g₂ X e s'->notedBy G.M c.A c.env (λe s'=>cameBackBy G.M c.A c.env (XW G c g X) e s') e s':=λk z=>vH O ht (z.mono k);refine wpAny_noted ?_;refine Xe (XY (step g₁ s R) (λb Z z=>?_) λe s' z=>Y k₁ z);induction z with|mk V σ1 k R1 q=>
  induction b with|false=>
   refine Xe (wpAny_execs_nil (Xo ?_));exact⟨V,.none,σ1,k₁.trans k,rfl,R1,q⟩|true=>
   refine Xe (XY (q V Z R1) (λf U z=>?_) λe s' z=>Y (k₁.trans k) z);induction z with|mk K o σ2 k3 J R2 q=>induction f with|next=>cases J;exact Xo ⟨rfl,q K U ((k₁.trans k).trans k3) R2⟩|cont=>cases J;exact Xo ⟨rfl,q K U ((k₁.trans k).trans k3) R2⟩|brk=>cases J;exact Xo ⟨K,_,σ2,(k₁.trans k).trans k3,rfl,R2,q⟩|ret v=>exact Xo ⟨K,o,σ2,(k₁.trans k).trans k3,J,R2,lC.ret J q⟩
abbrev TF:=St->(V->St->Prop)->Prop
def Pm (k:V->St->Prop) (I:St->Prop) (o:V) (B:St):Prop:=pV o (I B) (k .none B) (k o B)
noncomputable def forL (asg:V->St->(St->Prop)->Prop)(W:TF):aP->St->(V->St->Prop)->Prop|[],B,k=>k .none B|v::l,B,k=>asg v B λσ'=>W σ' (Pm k λσ''=>forL asg W l σ'' k)
noncomputable def aV(c:Cx)(F:Hp):Cx:={c with F:=F}
theorem bg.aV (O:bg c)(h:∀x∈c.F,x∈F):bg (Internal.aV c F):=by obtain⟨l,M,K,J⟩:=O.fr;exact⟨⟨l,M,λe m=>(K e m).imp h,J⟩,O.room,λx z=>h _ (O.jm x z),O.cells,O.kind,O.glob,O.blt,O.nd,O.Ec⟩
theorem Rel.reF{F':Hp}(R:Rel G (Internal.aV c F) g B s)(h:∀role Lc,RH G role g (B.H++(Lc++F)) s-> ∃role,RH G role g (B.H++(Lc++F')) s):Rel G (Internal.aV c F') g B s:=by
 induction R with|mk role Lc R l=>obtain⟨role',R'⟩:=h role Lc R;exact⟨role',Lc,R',l⟩
theorem cV{x:Addr×MO}:(H++(Lc++x::F)).Perm (x::(H++(Lc++F))):=by rw[<-Xf,<-Xf];exact Z4
theorem Rel.gP{x:Addr×MO}(R:Rel G (aV c (x::F)) g B s):Rel G (aV c F) g B s:=
 R.reF λrole Lc R=>⟨role,(R.perm cV).drop (T₀:=[x])⟩
theorem XW.gP{x:Addr×MO}{v:Xj}(z:XW G (aV c (x::F)) g X v s):XW G (aV c F) g X v s:=by
 induction z with|mk g' e y B ev k role Lc R l q=>exact⟨g',e,y,B,ev,k,role,Lc,((R.perm ((List.Perm.cons _ cV).trans (.swap ..))).drop (T₀:=[x])),l,q⟩
theorem RH.free{a:Addr}(R:RH G role g ((a,mo)::T) s):RH G (gu role a .jZ) g T s:=by
 have J:=(R.hk _ (.head _)).1;have Rd:=R.drop (T₀:=[_]);have ne:∀{b r},role b=r->r≠.mo->b≠a:=λe q z=>q (e.symm.trans (z▸J));refine⟨R.gens,R.os,R.kb,λb o e=>?_,λx m=>?_,Rd.nd,λb q=>?_⟩
 .have⟨x,y⟩:=R.gk b o e;exact⟨x,(aZ (ne y Role.noConfusion)).trans y⟩
 .have⟨y,z⟩:=Rd.hk x m;exact⟨(aZ λe=>(X5.mp R.nd).1 (mem_keys m e)).trans y,z.keep .refl (λW e=>e) λdx o q e=>⟨e,(aZ (ne q Role.noConfusion)).trans q⟩⟩
 .by_cases z:b=a
  .exact W5 (by rw[z];exact bS) q
  .exact R.sz b λy=>q ((aZ z).trans y)
noncomputable def qi(T:String):Bool:=!(["enumerate","zip","dict_itemiterator","dict_reverseitemiterator","odict_iterator","itertools.zip_longest","itertools.pairwise"].contains T)
inductive sO(h:Heap)(it:Addr):Prop|mk(o T:_)(e:h.get? it=W_ o)(c:o.cls=.type T)(p:qi T)
def lu (G:cc)(A:Za)(F:Hp)(g:bQ)(x:Xj)(l:aP)(s:XB):Prop:=∀(P E:Xj->XB->Prop),
 (∀h I fp PP Stt,Walks G.prog G.w A I fp [I] l.length PP Stt->Stt 0 h->(∀b o,s.heap.get? b=W_ o->h.get? b=W_ o)->(∀i h,Stt i h->sO h I)->s.heap.objs.size<=I->
  (∀b∈fp,b=I\/ (∃o,g b=W_ o) \/ ∃o,(b,MO.raw o)∈F)->(∀i v,PP i v-> ∃y,l[i]?=W_ y/\VR G g y v)->P (.ref I) {s with heap:=h})->XT G.M A (pyIter x) P E s
def om (G:cc)(c:Cx)(tgt:Xd)(asg:V->St->(St->Prop)->Prop):Prop:=(∀{it:Addr}{v:Xj}{s:XB}{P:Unit->XB->Prop}{E:Xj->XB->Prop},sO s.heap it->P () s->XT G.M c.A (letOwnedTupleGo tgt (.ref it) v) P E s)/\ ∀F,(∀x∈c.F,x∈F)-> ∀{g:bQ}{B:St}{s:XB}{v:V}{x:Xj}{k:St->Prop}{P:Unit->XB->Prop}{E:Xj->XB->Prop},
 Rel G (aV c F) g B s->VR G g v x->asg v B k->(∀g' σ' s',g.le g'->Rel G (aV c F) g' σ' s'->k σ'->P () s')->XT G.M c.A (assign tgt c.env x) P E s
variable{it:Addr}
theorem gU{fp:List Addr}{PP:Nat->Xj->Prop}{Stt:Nat->Heap->Prop}(Wk:Walks G.prog G.w c.A it fp [it] n PP Stt)(J:∀b∈fp,b=it\/ (∃o,g₀ b=W_ o) \/ ∃o,(b,MO.raw o)∈c.F)
  {g g':bQ}{F:Hp}{B σ':St}{s s':XB}{i:Nat}(U:∀x∈c.F,x∈F)(hi:∃o,(it,MO.raw o)∈F)(k:g₀.le g)(M:g.le g')(R:Rel G (aV c F) g B s)(R':Rel G (aV c F) g' σ' s')(st:Stt i s.heap):Stt i s'.heap:=by
 induction R with|mk role Lc R l=>
  induction R' with|mk role' Lc' R' V=>
   have raw:∀{b o},(b,MO.raw o)∈F-> ∀o',s.heap.get? b=W_ o'->s'.heap.get? b=W_ o':=λm o' e=>by have K:=(R.hk _ (Xx _ (Xx _ m))).2;have e2:=(R'.hk _ (Xx _ (Xx _ m))).2;exact e2.trans (K.symm.trans e)
   refine Wk.frame i _ _ st λb O o e=>?_;rcases J b O with rfl|⟨o',q⟩|⟨o',q⟩
   .obtain⟨o',q⟩:=hi;exact raw q o e
   .have K:=(R.gk _ _ (k _ _ q)).1;have e2:=(R'.gk _ _ (M _ _ (k _ _ q))).1;exact e2.trans (K.symm.trans e)
   .exact raw (U _ q) o e
theorem Rel.GP {a:Addr}{t:Nat}{o:Obj}(R:Rel G (aV c ((a,mo)::F)) g B s) (k:∀b,b≠a-> ∀o,s.heap.get? b=W_ o->h.get? b=W_ o) (e:h.get? a=W_ o) (m:∀role,MR G g s.heap role a mo->MR G g h role a mo'):
  Rel G (aV c ((a,mo')::F)) g B {s with heap:=h,toks:=t}:=by
 induction R with|mk role Lc R l=>
  have R:=R.perm cV;refine⟨role,Lc,(R.mod (s':={s with heap:=h,toks:=t}) rfl rfl (λb o q W z=>k b q o z) (λW W=>rfl) (λb q=>?_) (m role (R.hk _ (.head _)).2)).perm cV.symm,l⟩;by_cases z:b=a
  .exact⟨o,by rw[z];exact e⟩
  .obtain⟨o₂,w⟩:=R.sz b q;exact⟨o₂,k b z _ w⟩
theorem Rel.mX{x y:Addr×MO}(R:Rel G (aV c (x::y::F)) g B s):Rel G (aV c (y::x::F)) g B s:=
 R.reF λrole Lc R=>⟨role,R.perm (.append_left _ (.append_left _ (.swap ..)))⟩
variable{tgt:Xd}{asg:V->St->(St->Prop)->Prop}{W:TF}
theorem wD {body:List Stmt}{fp:List Addr}{PP:Nat->Xj->Prop}{Stt:Nat->Heap->Prop}{l:aP}(O:bg c) (ht:c.top)
  (Wk:Walks G.prog G.w c.A it fp [it] n PP Stt) (hI:∀i h,Stt i h->sO h it) (Z:∀b∈fp,b=it\/ (∃o,g₀ b=W_ o) \/ ∃o,(b,MO.raw o)∈c.F) (hPP:∀i v,PP i v-> ∃y,l[i]?=W_ y/\VR G g₀ y v) (hn:n=l.length)
  (hA:om G c tgt asg) (hW:∀F,(∀x∈c.F,x∈F)-> ∀B k,W B k->oj G (aV c F) body B k X){R:Result->XB->Prop}{g₁:bQ}
  (hR:∀f s,FW G c g₁ Q f s->R (.ok f) s) (hE:∀e s,XW G c g₁ X e s->notedBy G.M c.A c.env (λe s'=>R (.error e) s') e s):
  ∀(m i:Nat) (B:St) (g:bQ) (s:XB) (o:Obj),i+m=n->g₁.le g->g₀.le g->Rel G (aV c ((it,.raw o)::c.F)) g B s->Stt i s.heap->forL asg W (l.drop i) B Q->Zr G.M c.A (.forLoop tgt (.ref it) body [] c.env) R s:=by
 intro m;induction m with|zero=>
  intro i B g s o hi k₁ k₀ R st h;have hi:i=n:= ‹i+0=n›;subst hi;have dl:l.drop i=[]:=List.drop_of_length_le (US hn);rw[dl]at h;refine ZT ?_;rw[Y7 (by with_unfolding_all rfl)];show XT _ _ ((forTurn tgt (.ref it) body [] c.env).onRaise (λx=>do noteFrame x c.env;theTreesLotGoes x)) _ _ s;refine wpAny_noted ?_;refine Xe (Yd (Xe (wpAny_onRaise (Wk.done s _ _ st λh' tk kk=>?_))));induction R with|mk role Lc R lc=>
   have R1:=(R.perm cV).free.keep (s':={s with heap:=h',toks:=tk}) rfl rfl λb o' q z=>kk b o' (λm=>q (by rw[Xs.mp m];exact bS)) z;exact Xo ⟨rfl,codeAny_block (wpAny_execs_nil (hR _ _ ⟨g,.none,B,k₁,rfl,⟨_,Lc,R1,lc⟩,h⟩))⟩|succ m ih=>
  intro i B g s o hi k₁ k₀ Rr st h;refine ZT ?_;rw[Y7 (by with_unfolding_all rfl)];show XT _ _ ((forTurn tgt (.ref it) body [] c.env).onRaise (λx=>do noteFrame x c.env;theTreesLotGoes x)) _ _ s;refine wpAny_noted ?_;refine Xe (Yd (Xe (wpAny_onRaise (Wk.item i s _ _ (Uc ‹i+(m+1)=n›) st λv h' tk hP K kk=>?_))));obtain⟨y,hy,hv⟩:=hPP i v hP;obtain⟨o',T',J,hT',hT2⟩:=hI _ _ K;have hF:∀x∈c.F,x∈(it,MO.raw o')::c.F:=λx m=>.tail _ m;have R':Rel G (aV c ((it,.raw o')::c.F)) g B {s with heap:=h',toks:=tk}:=Rr.GP (λb q o z=>kk b o (λm=>q (Xs.mp m)) z) J λC C=>J;have hd:l.drop i=y::l.drop (i+1):=by obtain⟨h1,h2⟩:=XK.mp hy;rw[List.drop_eq_getElem_cons h1,h2]
  rw[hd]at h;refine Xe (hA.1 (s:={s with heap:=h',toks:=tk}) ⟨o',T',J,hT',hT2⟩ (Xe (hA.2 _ hF R' (hv.mono k₀) h λg2 σ2 s2 k2 R2 q=>Xe (XY (hW _ hF σ2 _ q g2 s2 R2) (λf Y z=>?_) λe s' z=>hE e s' ((XW.gP z).mono (k₁.trans k2))))));induction z with|mk g3 ov σ3 k3 U R3 q=>have V:Stt (i+1) Y.heap:=gU Wk Z hF ⟨o',.head _⟩ k₀ (k2.trans k3) R' R3 K;have go:forL asg W (l.drop (i+1)) σ3 Q->Zr G.M c.A (.forLoop tgt (.ref it) body [] c.env) R Y:=λq=>ih (i+1) σ3 g3 Y o' (Sf ‹i+(m+1)=n›) ((k₁.trans k2).trans k3) ((k₀.trans k2).trans k3) R3 V q;induction f with|next=>cases U;exact Xo ⟨rfl,go q⟩|cont=>cases U;exact Xo ⟨rfl,go q⟩|brk=>cases U;exact Xo (hR _ _ ⟨g3,.none,σ3,(k₁.trans k2).trans k3,rfl,R3.gP,q⟩)|ret v=>exact Xo (hR _ _ ⟨g3,ov,σ3,(k₁.trans k2).trans k3,U,R3.gP,lC.ret U q⟩)
theorem yp{x:Str}{i:Nat}(O:bg c) (e:c.nm[i]?=W_ x) (K:ownName c x):om G c (.Name x px) λv B k=>k ⟨B.H,setAt B.r i (W_ v)⟩:=
 ⟨λW h=>Xo h,λF M{g B s v y k P E}R J q fin=>Z8 (fX (c:=aV c F) (O.aV M) e K R J λs' R'=>fin g _ s' .refl R' q)⟩
theorem wF{body:List Stmt}{x:Xj}{l:aP}(O:bg c) (V:c.top) (hA:om G c tgt asg) (hW:∀F,(∀x∈c.F,x∈F)-> ∀B k,W B k->oj G (aV c F) body B k X)
  (R:Rel G c g B s) (hi:lu G c.A c.F g x l s){g₁:bQ}(k₁:g₁.le g) (h:forL asg W l B Q):
  XT G.M c.A (pyIter x) (λit s'=>Zr G.M c.A (.forLoop tgt it body [] c.env) (λr s'=>match r with|.ok f=>FW G c g₁ Q f s'|.error e=>cameBackBy G.M c.A c.env (XW G c g₁ X) e s') s') (XW G c g₁ X) s:=by
 refine hi _ _ λhh I fp PP Stt Wk st kk Z J K U=>?_;obtain⟨o,T,Y,-⟩:=Z _ _ st;refine wD (W:=W) O V Wk Z K U rfl hA hW (g₁:=g₁) (λf s z=>z) (λe s z=>vH O V z) l.length 0 B g _ o (X7 _) k₁ .refl ?_ st h;induction R with|mk role Lc R lc=>have R1:=(R.keep (s':={s with heap:=hh}) rfl rfl λb o C z=>kk b o z).own (a:=I) (mo:=.raw o) (eG R J) ⟨_,Y⟩ Y;exact⟨_,Lc,R1.perm cV.symm,lc⟩
theorem jY(O:bg c)(hd:c.hd):c.A.handled=Xk:=O.room.h hd
theorem wb{b:Bool}{l:aP}{a:Addr}(hh:A.handled=Xk) (J:s.heap.get? a=W_ ⟨.type (t7 b),Xk,.seq (YL vs) n,#[]⟩) (O:cF G g l vs) (Y:(∃o,g a=W_ o) \/ ∃o,(a,MO.raw o)∈F):lu G A F g (.ref a) l s:=by
 intro P E h;have V:=Yb J;have K:∀b∈[s.heap.objs.size,a],b=s.heap.objs.size\/ (∃o,g b=W_ o) \/ ∃o,(b,MO.raw o)∈F:=λb m=>by
  rcases Xv.mp m with rfl|m
  .exact .inl rfl
  .rw[Xs.mp m];exact .inr Y
 have M:∀(i:Nat) v,vs.toArray[i]?=W_ v-> ∃y,l[i]?=W_ y/\VR G g y v:=λi v e=>by rw[Yx]at e;have hi:=(XK.mp e).1;rw[<-O.1]at hi;exact⟨_,XD hi,O.2 i _ v (XD hi) e⟩
 have up:∀o b o',s.heap.get? b=W_ o'->(s.heap.push o).get? b=W_ o':=λo b o' e=>XA _ e;have sz:vs.toArray.size=l.length:=by rw[XC,O.1]
 cases b
 .have W:=Walks.tuple (prog:=G.prog) (w:=G.w) (A:=A) hh s.heap.objs.size a (Zu V) vs.toArray;rw[sz]at W;exact wpAny_pyIter_tuple ⟨_,J,rfl,n,rfl⟩ (h _ _ _ _ _ W ⟨⟨_,X0 _ rfl,rfl,rfl⟩,⟨_,up _ _ _ J,rfl,n,rfl⟩⟩ (up _) (λi h' z=>by obtain⟨⟨o,e,U,-⟩,-⟩:=z;exact⟨o,_,e,U,by decide⟩) (Xh _) K M)
 .have W:=Walks.list (prog:=G.prog) (w:=G.w) (A:=A) hh s.heap.objs.size a (Zu V) vs.toArray;rw[sz]at W;exact wpAny_pyIter_list ⟨_,J,rfl,n,rfl⟩ (h _ _ _ _ _ W ⟨⟨_,X0 _ rfl,rfl,rfl⟩,⟨_,up _ _ _ J,rfl,n,rfl⟩⟩ (up _) (λi h' z=>by obtain⟨⟨o,e,U,-⟩,-⟩:=z;exact⟨o,_,e,U,by decide⟩) (Xh _) K M)
noncomputable def n0:ax->aP->List bG->Option (List bG)|[],[],r=>W_ r|i::is,v::vs,r=>setC r i (W_ v) (n0 is vs)|_,_,_=>Xk
noncomputable def b_(c:Cx):ax->List Str->Prop|[],[]=>True|i::is,x::xs=>(c.nm[i]?=W_ x/\ownName c x)/\b_ c is xs|_,_=>False
theorem p9{nf:α->Str}(O:bg c) (Y:∀x∈c.F,x∈F){E:Xj->XB->Prop}{P:Unit->XB->Prop}(t:α->Xj->Sem Unit) (V:∀{x v s}{P:Unit->XB->Prop},XT G.M c.A (storeName c.env (nf x) v) P E s->XT G.M c.A (t x v) P E s):
  ∀{is:ax}{xs:List α}{l:aP}{vs:List Xj}{U:List bG}{B:St}{s:XB},b_ c is (xs.map nf)->Rel G (aV c F) g B s->cF G g l vs->n0 is l B.r=W_ U->(∀s',Rel G (aV c F) g ⟨B.H,U⟩ s'->P () s')->
   XT G.M c.A (assignInOrder (xs.map t) vs) P E s:=by
 intro is;induction is with
 |nil=>
  intro xs l vs U B s e R J K fin;induction xs using Xn with
  |nil=>induction l using Xn with|nil=>cases K;exact Xo (fin s R)|cons=>exact gG K
  |cons=>exact e.elim
 |cons i is ih=>
  intro xs l vs U B s e R J K fin;induction xs using Xn with|nil=>exact e.elim|cons x xs=>
   induction l using Xn with|nil=>exact gG K|cons v l=>
    induction vs using Xn with|nil=>cases J.1|cons y vs=>show XT _ _ (do holding vs (t x y);assignInOrder (xs.map t) vs) _ _ _;refine Xe (X8 (V (fX (c:=aV c F) (O.aV Y) e.1.1 e.1.2 R (J.2 0 _ _ rfl rfl) λs' R'=>?_)));exact ih e.2 R' ⟨Yg J.1,λj x v a b=>J.2 (j+1) x v a b⟩ (e_.symm.trans K) fin
theorem pT {x:Xj}{P:List Xj->XB->Prop}(hh:A.handled=Xk)(R:Rel G c g B s)(O:VR G g v x){b:Bool}{l:aP}(e:v=.sq b l)(U:l.length=n)
  (fin:∀vs s',cF G g l vs->Rel G c g B s'->P vs s'):XT G.M A (unpackItems x n Xk) P E s:=by
 subst e;cases O with|sq _ _ vs a m e V J r=>
  have K:=R.gk e;have ext:∀h',Heap.ExtBut s.heap.objs.size s.heap h'->Rel G c g B {s with heap:=h'}:=λh' k=>R.ext (t:=s.toks) λb o z=>k b o (Zu (Yb z)) z;have e2:n=vs.toArray.size:=by rw[XC,<-J,U]
  rw[e2];cases b
  .exact wpAny_unpackItems_tuple hh ⟨_,K,rfl,m,rfl⟩ λh' k=>fin _ _ ⟨J,r⟩ (ext h' k)
  .exact PySem.W.kun_itemsOf hh ⟨_,K,rfl,m,rfl⟩ λh' k=>fin _ _ ⟨J,r⟩ (ext h' k)
def kc (v:V)(is:ax)(B:St)(k:St->Prop):Prop:=match v,B with|.sq _ l,⟨H,r⟩=>ck (n0 is l r) λr=>k ⟨H,r⟩|_,_=>False
theorem lr:∀{is:ax}{l:aP}{r e:List bG},n0 is l r=W_ e->l.length=is.length:=by
 intro is;induction is with
 |nil=>rintro(_|_) r e h<;>first|rfl|exact gG h
 |cons i is ih=>rintro(_|⟨v,l⟩) r e h<;>first|exact gG h|exact WX (λW=>W+1) (ih (e_.symm.trans h))
inductive Sj(B:St)(v:V)(is:ax)(k:St->Prop):Prop|mk(b l r:_)(h0:v=.sq b l)(h1:n0 is l B.r=W_ r)(h2:k ⟨B.H,r⟩)
theorem kc.to{is:ax}{k:St->Prop}(h:kc v is B k):Sj B v is k:=by
 cases v with|sq b l=>obtain⟨r,e,h⟩:=ck.to h;exact⟨b,l,r,rfl,e,h⟩|_=>exact h.elim
theorem lR:∀{is:ax}{xs:List Str},b_ c is xs->is.length=xs.length:=by
 intro is;induction is with
 |nil=>rintro(_|_) h<;>first|rfl|exact h.elim
 |cons i is ih=>rintro(_|⟨x,xs⟩) h<;>first|exact h.elim|exact WX (λW=>W+1) (ih h.2)
noncomputable def oX (l:List (Str×Pos)):List Xd:=l.map λx=>.Name x.1 x.2
theorem pC:∀l:List (Str×Pos),assignEach (oX l) c.env=l.map λx=>(Xb,assign (.Name x.1 x.2) c.env):=by
 intro l;induction l with
 |nil=>
  exact rfl|cons x l ih=>
  exact WX ((Xb,assign (.Name x.1 x.2) c.env)::·) (ih)
theorem mD{l:List (Str×Pos)}{is:ax}{k:Nat}{p:Pos}{x:Xj}{kk:St->Prop}{P:Unit->XB->Prop}(O:bg c) (hd:c.hd) (hF:∀x∈c.F,x∈F) (K:b_ c is (l.map (λW=>W.1))) (R:Rel G (aV c F) g B s) (Y:VR G g v x) (h:kc v is B kk)
  (fin:∀σ' s',Rel G (aV c F) g σ' s'->kk σ'->P () s'):XT G.M c.A (assign (.Tuple (oX l) k p) c.env x) P E s:=by
 obtain⟨b,vs,r,e,U,q⟩:=h.to;have J:l.length=is.length:=by have:=lR K;rw[Xl]at this;exact this.symm
 rw[arm_assign_Tuple];refine Xe (Yd ?_);rw[pC];unfold unpack;have e1:((l.map λx=>(Xb,assign (.Name x.1 x.2) c.env)).findIdx? (λW=>W.1))=Xk:=by rw[List.findIdx?_eq_none_iff];intro y V;obtain⟨z,-,rfl⟩:=Yi.mp V;rfl
 rw[e1,Xl,Yn];refine Xe (X8 (pT (jY O hd) R Y e (by rw[lr U,J]) λws s1 Z R1=>?_));have t1:(l.map ((λz:Bool× (Xj->Sem Unit)=>z.2) ∘λx=>(Xb,assign (.Name x.1 x.2) c.env)))=l.map λx=>assign (.Name x.1 x.2) c.env:=rfl;rw[t1];exact p9 (nf:=λz:Str×Pos=>z.1) O hF (λx=>assign (.Name x.1 x.2) c.env) (λh=>Z8 h) K R1 Z U λs' R'=>fin _ _ R' q
theorem G4{e:List Xd}{k:Nat}{p:Pos}{v:Xj}{P:Unit->XB->Prop}{E:Xj->XB->Prop}(h:sO s.heap it) (K:P () s):XT G.M A (letOwnedTupleGo (.Tuple e k p) (.ref it) v) P E s:=by
 obtain⟨o,T,U,V,J⟩:=h;unfold letOwnedTupleGo;dsimp only;induction v with
 |ref a=>
  refine Xe (wpAny_load U ?_);rw[V];generalize hd:o.data=O;induction O with
  |fields vs=>
   refine (wpAny_of_eq ?_ K)
   show(if _ then _ else _)=_;rw[WZ];intro q;rw[XS]at q;unfold qi at J;rw[q.1]at J;exact ff J
  |_=>exact Xo K
 |_=>exact Xo K
theorem Cm{l:List (Str×Pos)}{is:ax}{k:Nat}{p:Pos}(O:bg c)(hd:c.hd)(J:b_ c is (l.map (λW=>W.1))):om G c (.Tuple (oX l) k p) λv B k=>kc v is B k:=
 ⟨λh K=>G4 h K,λF M{g B s v x k P E}R e h fin=>mD O hd M J R e h λσ' s' R' q=>fin g σ' s' .refl R' q⟩
theorem HU{x:Str}{i:Nat}{e:Xd}{p:Pos}(O:bg c)(J:c.nm[i]?=W_ x)(M:ownName c x)(hs:Y9 e (W_ (.Name x px)) p.line c.env=pure Xb)(h:bK G c e B (λv σ'=>Q .none ⟨σ'.H,setAt σ'.r i (W_ v)⟩) X):eY G c (.Assign [.Name x px] e p) B Q X:=λg s R=>wpAny_Assign_Name (Ev.go .refl R h λU v y σ1 V k1 W K R1 q1=>fX O J M R1 K λs' R'=>⟨U,.none,_,k1,rfl,R',q1⟩) hs
theorem Bq{l:List (Str×Pos)}{is:ax}{e:Xd}{k:Nat}{p:Pos}(O:bg c)(hd:c.hd)(M:b_ c is (l.map (λW=>W.1)))(hs:swapsWithSole [.Tuple (oX l) k px] e p.line c.env=pure Xb)(J:ZQ [.Tuple (oX l) k px] e c.env=pure Xk)
  (h:bK G c e B (λv σ'=>kc v is σ' (Q .none)) X):eY G c (.Assign [.Tuple (oX l) k px] e p) B Q X:=λg s R=>
 Assign_Tuple (Ev.go .refl R h λU v y σ1 V k1 W K R1 q1=>mD (F:=c.F) O hd (λW m=>m) M R1 K q1 λσ' s' R' q=>⟨U,.none,_,k1,rfl,R',q⟩) hs J
def K6 (v:V)(is:ax)(B:St)(k:St->Prop):Prop:=match v with|.sq b l=>kc (.sq b l.reverse) is.reverse B k|_=>False
theorem Ac:∀{is:ax}{xs:List Str},is.length=xs.length->(∀(j i:Nat) x,is[j]?=W_ i->xs[j]?=W_ x->c.nm[i]?=W_ x/\ownName c x)->b_ c is xs:=by
 intro is;induction is with
 |nil=>rintro(_|⟨x,xs⟩) h _<;>first|trivial|cases h
 |cons i is ih=>rintro(_|⟨x,xs⟩) h k<;>first|cases h|exact⟨k 0 _ _ rfl rfl,ih (Yg h) λj a b p q=>k (j+1) a b p q⟩
theorem Ad:∀{is:ax}{xs:List Str},b_ c is xs-> ∀(j i:Nat) x,is[j]?=W_ i->xs[j]?=W_ x->c.nm[i]?=W_ x/\ownName c x:=by
 intro is;induction is with|nil=>intro xs _ j i x e;exact gG e|cons i is ih=>
  rintro(_|⟨y,xs⟩) h j k x e J
  .exact h.elim
  .induction j using XN with|zero=>cases e;cases J;exact h.1|succ j=>exact ih h.2 j k x e J
theorem b_.rev{is:ax}{xs:List Str}(h:b_ c is xs):b_ c is.reverse xs.reverse:=by have J:=lR h;refine Ac (by rw[Yp,Yp,J]) λj i x e K=>?_;have h1:=(XK.mp e).1;rw[Yp]at h1;rw[YY h1]at e;rw[YY (J▸h1),<-J]at K;exact Ad h _ _ _ e K
theorem cF.rev{l:aP}(h:cF G g l vs):cF G g l.reverse vs.reverse:=by have J:=h.1;refine⟨by rw[Yp,Yp,J],λj v x e K=>?_⟩;have h1:=(XK.mp e).1;rw[Yp]at h1;rw[YY h1]at e;rw[YY (J▸h1),<-J]at K;exact h.2 _ _ _ e K
theorem Br{l:List (Str×Pos)}{is:ax}{e:Xd}{k:Nat}{p:Pos}(O:bg c) (hd:c.hd) (M:b_ c is (l.map (λW=>W.1))) (hs:swapsWithSole [.Tuple (oX l) k px] e p.line c.env=pure Xb) (Z:ZQ [.Tuple (oX l) k px] e c.env=pure (W_ (l.map (λW=>W.1))))
  (h:bK G c e B (λv σ'=>K6 v is σ' (Q .none)) X):eY G c (.Assign [.Tuple (oX l) k px] e p) B Q X:=λg s R=>by
 refine Assign_Tuple_swapped (Ev.go .refl R h λg1 v y σ1 s1 k1 W hv R1 q1=>?_) hs Z;cases v with|sq b ws=>have q1:kc (.sq b ws.reverse) is.reverse σ1 (Q .none):=q1;obtain⟨b',Y,r,e1,V,q⟩:=q1.to;cases e1;have U:=lr V;rw[Yp,Yp]at U;rw[Xl];have J:=lR M;rw[Xl]at J;exact pT (jY O hd) R1 hv rfl (by rw[U,J]) λvs s2 K R2=>p9 (nf:=λz:Str=>z) (F:=c.F) O (λW m=>m) (λn=>bindName c.env n) (λh=>bindName_ h) (by rw[List.map_id'];exact M.rev) R2 K.rev V λs' R'=>⟨g1,.none,_,k1,rfl,R',q⟩|_=>exact q1.elim
variable{pp:Pos}
theorem HO{o e:Xd}{p f:Nat}(GK:jb G)(hs:Y9 e (W_ (.Attribute o (G.an f) px)) pp.line c.env=pure Xb)(h:bK G c e B (λw σ1=>bK G c o σ1 (λv σ2=>F2 G p f σ2.H v w λH=>Q .none ⟨H,σ2.r⟩) X) X):eY G c (.Assign [.Attribute o (G.an f) px] e pp) B Q X:=λg s R=>plainObj_wpAny_Assign_Attribute (Ev.go .refl R h λY w y σ1 V k1 W K R1 q1=>Ev.go k1 R1 q1 λO v x σ2 U k2 J M R2 q2=>zI GK R2 M (K.mono J) q2 λH s' q R'=>⟨O,.none,_,k2,rfl,R',q⟩) hs
inductive IW (G:cc)(c:Cx)(g:bQ)(Q:V->St->Prop)(x:Xj)(s:XB):Prop|mk (g' b l B:_)(k:g.le g')(R:Rel G c g' B s)(h:lu G c.A c.F g' x l s)(q:Q (.sq b l) B)
abbrev yx (G:cc) (c:Cx) (e:Xd):=Ev G c (IW G c) (eval e c.env)
theorem wQ{iter:Xd}{body:List Stmt}{p:Pos}(O:bg c) (e:c.top) (J:∀x,YT iter c.env x=pure x) (K:om G c tgt asg) (hW:∀F,(∀x∈c.F,x∈F)-> ∀B k,W B k->oj G (aV c F) body B k X)
  (h:yx G c iter B (λv σ'=>match v with|.sq _ l=>forL asg W l σ' Q|_=>False) X):eY G c (.For tgt iter body [] p) B Q X:=λg s R=>
 wpAny_For (XY (h g s R) (λx M z=>by induction z with|mk U b l σ1 k R1 hi q=>exact XY (wF O e K hW R1 hi k q) (λC C z=>z) λC C z=>z) λC C z=>z) J
noncomputable def O4 (v:V):Option aP:=match v with|.sq _ l=>W_ l|.str s=>W_ (s.map λc=>.str [c])|_=>Xk
def itV (v:V)(k:aP->Prop):Prop:=ck (O4 v) k
theorem Hs{l:aP}{x:Xj}(hh:A.handled=Xk) (R:Rel G c g B s) (Y:VR G g v x) (h:O4 v=W_ l):lu G A F g x l s:=by
 cases v with
 |sq b l'=>
  cases h;cases Y with|sq _ _ vs a m e hz hl r=>
  exact wb hh (R.gk e) ⟨hl,r⟩ (.inl ⟨_,e⟩)
 |str w=>
  cases h;obtain⟨t,rfl,hz⟩:=Y.str_inv;intro P E h
  have sz:(⟨w.toArray⟩:Str).cps.size=(w.map λc=>V.str [c]).length:=by rw[Xl];rfl
  have J:∀i K,SignAt ⟨w.toArray⟩ i K-> ∃y,(w.map λc=>V.str [c])[i]?=W_ y/\VR G g y K:=λi K hP=>by
   obtain⟨U,u,O,rfl⟩:=hP;have O:w[i]?=W_ U:=by rw[<-O];simp
   exact⟨.str [U],by rw[X2,O];rfl,.str [U] u (Xi rfl)⟩
  cases Z:(⟨w.toArray⟩:Str).cps.all (λd=>d<128)
  .have W:=Walks.strWide (prog:=G.prog) (w:=G.w) (A:=A) hh s.heap.objs.size ⟨w.toArray⟩ t
   rw[sz]at W;exact wpAny_pyIter_wide Z (h _ _ _ _ _ W ⟨_,X0 _ rfl,rfl,rfl⟩ (λb o' e=>XA _ e) (λi h' z=>by obtain⟨o,e,M,-⟩:=z;exact⟨o,_,e,M,by decide⟩) (Xh _) (λb m=>.inl (Xs.mp m)) J)
  .have W:=Walks.strAscii (prog:=G.prog) (w:=G.w) (A:=A) hh s.heap.objs.size ⟨w.toArray⟩ t;rw[sz]at W;exact wpAny_pyIter_ascii Z (h _ _ _ _ _ W ⟨_,X0 _ rfl,rfl,rfl⟩ (λb o' e=>XA _ e) (λi h' z=>by obtain⟨o,e,M,-⟩:=z;exact⟨o,_,e,M,by decide⟩) (Xh _) (λb m=>.inl (Xs.mp m)) J)|_=>exact gG h
theorem O5{e:Xd}(O:bg c)(hd:c.hd)(h:bK G c e B (λv σ'=>itV v λl=>Q (.sq Xg l) σ') X):yx G c e B Q X:=λg s R=>Ev.go .refl R h λK v x σ1 M k1 W J R1 q1=>by obtain⟨l,e,q1⟩:=ck.to q1;exact⟨K,Xg,_,σ1,k1,R1,Hs (jY O hd) R1 J e,q1⟩
noncomputable def eu (n:Nat):aP:=(List.range n).map λ(i:Nat)=>.int (i:Int)
theorem wc {x:Str}{e:Xd}{p:Pos}(O:bg c) (hd:c.hd) (J:b0 c [e]) (hk:c.env.kindOf x=W_ .globalImplicit)
  (V:(x==("__debug__":Str))=Xb) (M:fnAt G x (.type "range")) (h:jC G c p [e] B (λl σ'=>isQ Xb l (jf λv=>d6 v λn=>n.natAbs<1000000000/\Q (.sq Xg (eu n.toNat)) σ')) X):yx G c (.Call (.Name x px) [e] [] p) B Q X:=λg s R=>by
 unfold fnAt at M;rw[XS,W8,W8]at M;refine Y0 (ju O R.K hk V M.1 M.2 px ?_);refine callWith_type (plain_any J) (dh J R h λg' l vs σ' s' k Z R' q=>?_)
 .obtain⟨v,rfl,q⟩:=jf.to q;obtain⟨n,rfl,J,q⟩:=d6.to q;obtain⟨y,rfl,U⟩:=Z.one;obtain⟨t,rfl⟩:=U.int_inv;refine call_range_1 ?_;obtain⟨R2,k2,e2⟩:=R'.m_ (o:={cls:=.type "range",data:=.fields #[.int 0 s'.toks,.int n t,.int 1 (s'.toks+1)]}) rfl;have R3:=R2.tok (t:=s'.toks+1+1);refine⟨_,Xg,_,_,k.trans k2,R3,λP E h=>?_,q⟩;have Y:IsRange (s'.heap.push {cls:=.type "range",data:=.fields #[.int 0 s'.toks,.int n t,.int 1 (s'.toks+1)]}) s'.heap.objs.size 0 n 1 s'.toks t (s'.toks+1):=R3.gk e2;have W:=(Walks.range (prog:=G.prog) (w:=G.w) (A:=c.A) (jY O hd) (s'.heap.push {cls:=.type "range",data:=.fields #[.int 0 s'.toks,.int n t,.int 1 (s'.toks+1)]}).objs.size 0 1 n.toNat).bound;have el:n.toNat=(eu n.toNat).length:=by unfold eu;rw[Xl,YB]
  have es:Yy.Range.rangeSize 0 n 1=((n.toNat:Nat):Int):=by
   unfold Yy.Range.rangeSize;rw[W0 (by decide)];by_cases q:0<n
   .rw[W0 q,Int.ediv_one,Int.sub_zero,Int.sub_add_cancel];exact(Int.toNat_of_nonneg (Int.le_of_lt q)).symm
   .rw[WZ q];exact(WX _ (Int.toNat_of_nonpos (ZN.mp q))).symm
  refine wpAny_pyIter_range Y ?_ ?_
  .have:n.natAbs<1000000000:=J;exact small_one (by decide) (by decide) (VU this).1 (VU this).2
  .refine h _ _ _ _ _ (el▸W) ?_ (λb o' e=>XA _ e) (λi h' z=>⟨_,_,z,rfl,by decide⟩) (Xh _) (λb m=>.inl (Xs.mp m)) λi v' hP=>?_
   .show Heap.get? _ _=_;rw[X0 _ rfl,es];rw[show(0:Int)+((0:Nat):Int) *1=0 from rfl,<-el,show((n.toNat:Nat):Int) - ((0:Nat):Int)=(n.toNat:Nat)from Int.sub_zero _]
   .obtain⟨hi,tk,rfl⟩:=hP;have e:(eu n.toNat)[i]?=W_ (.int (0+(i:Int) *1)):=by unfold eu;rw[X2,List.getElem?_range (by rw[el];exact hi)];simp
    exact⟨_,e,.int _ _⟩
noncomputable def cf (n:Nat)(v:Option Int)(d:Nat):Nat:=match v with|none=>d|some i=>(max 0 (min (if i<0 then i+n else i) n)).toNat
def cut{α:Type}(lo hi:Option Int)(l:List α):List α:=(l.drop (cf l.length lo 0)).take (cf l.length hi l.length-cf l.length lo 0)
theorem ra{v:Option Int}(h:d<=n):cf n v d<=n:=by induction v with|none=>exact h|some i=>exact Int.toNat_le.mpr (Int.max_le.mpr ⟨XO _,Int.min_le_right ..⟩)
theorem rb{v:Option Int}:(match v with|none=>(d:Int)|some i=>max 0 (min (if i<0 then i+n else i) (n:Int)))=((cf n v d:Nat):Int):=by induction v with|none=>rfl|some i=>exact(Int.toNat_of_nonneg (Int.le_max_left ..)).symm
theorem lq(lo hi:Option Int)(n:Nat):sliceBounds lo hi Xk n=(((cf n lo 0:Nat):Int),((cf n hi n:Nat):Int),1):=by rw[<-rb,<-rb];cases lo<;>cases hi<;>rfl
theorem uX(e:Array Xj)(lo hi:Option Int):slicePick e lo hi Xk=(cut lo hi e.toList).toArray:=by unfold slicePick;rw[lq];dsimp only;rw[sliceRange_one,pick_run];unfold cut;rw[Array.length_toList]
theorem qN (lo hi:Option Int)(n:Nat):Y6 lo hi 1 n=(List.range (cf n hi n-cf n lo 0)).map (cf n lo 0+ ·):=by
 have e:Y6 lo hi 1 n=sliceRange (sliceBounds lo hi Xk n).1 (sliceBounds lo hi Xk n).2.1 1:=by cases lo<;>cases hi<;>rfl
 rw[e,lq];exact sliceRange_one _ _
theorem oQ (x:ax)(lo hi:Option Int):(Y6 lo hi 1 x.length).filterMap ((⟨x.toArray⟩:Str).cps[·]?)=cut lo hi x:=by rw[qN,pick_run];rfl
theorem mm{lo hi:Option Int}{l:List α}:(cut lo hi l).length<=l.length:=Xa (List.length_take_le' ..) (Xa (X4 List.length_drop) (Nat.sub_le ..))
theorem cF.cut{lo hi:Option Int}{l:aP}(h:cF G g l vs):cF G g (Internal.cut lo hi l) (Internal.cut lo hi vs):=by
 have e:=h.1;unfold Internal.cut;rw[<-e];refine⟨by rw[Z5,Z5,List.length_drop,List.length_drop,e],λi x v a b=>?_⟩;rw[List.getElem?_take]at a b;by_cases q:i<cf l.length hi l.length-cf l.length lo 0
 .rw[W0 q,List.getElem?_drop]at a b;exact h.2 _ x v a b
 .exact gG ((WZ q).symm.trans a)
abbrev Jj (G:cc) (c:Cx) (e:Option Xd):=Ev G c (QW G c) (evalPart e c.env)
theorem Ag (q:Q .none B):Jj G c Xk B Q X:=λg s R=>Xo (qw R .none q)
theorem Ae{e:Xd}(h:bK G c e B Q X):Jj G c (W_ e) B Q X:=h
noncomputable def nq:V->Option (Option Int)|.none=>W_ Xk|.int i=>W_ (W_ i)|_=>Xk
def rI (lo hi:V) (k:Option Int->Option Int->Prop):Prop:=ck (nq lo) λlo=>ck (nq hi) (k lo)
inductive Sv(lo:V)(hi:V)(k:Option Int->Option Int->Prop):Prop|mk(a b)(h0:nq lo=W_ a)(h1:nq hi=W_ b)(h2:k a b)
theorem rI.to{lo hi:V}{k:Option Int->Option Int->Prop}(h:rI lo hi k):Sv lo hi k:=by obtain⟨a,e,h⟩:=ck.to h;obtain⟨b,J,h⟩:=ck.to h;exact⟨a,b,e,J,h⟩
inductive Su (x:Xj)(o:Option Int):Prop|mk (l:Option (Int×Tok))(h0:x=partValue l)(h1:l.map (λW=>W.1)=o)(h2:IsPart x o)
theorem iu{x:Xj}{o:Option Int}(e:VR G g v x)(h:nq v=W_ o):Su x o:=by cases v with|none=>cases h;exact⟨Xk,e.none_inv,rfl,e.none_inv▸ .none⟩|int i=>cases h;obtain⟨t,rfl⟩:=e.int_inv;exact⟨W_ (i,t),rfl,rfl,.int i t⟩|_=>exact gG h
theorem vz {x:ax}{t:Tok}{l u:Option (Int×Tok)}{k:V->Prop}(e:x.length<=16777216) (R:Rel G c g B s) (q:k (.str (cut (l.map (λW=>W.1)) (u.map (λW=>W.1)) x))) (fin:∀v val t,VR G g v val->k v->P val {s with toks:=t}):
  (sliceMade ⟨x.toArray⟩ t l u Xk).post P s:=by
 have J:slicePicked ⟨x.toArray⟩ l u Xk=Y6 (l.map (λW=>W.1)) (u.map (λW=>W.1)) 1 x.length:=by unfold slicePicked;rfl
 have e2:=oQ x (l.map (λW=>W.1)) (u.map (λW=>W.1));rw[<-J]at e2;unfold sliceMade;rw[e2];split
 .rename_i h;rw[XS,J,qN,Xl,YB]at h;have h2:cf x.length (u.map (λW=>W.1)) x.length-cf x.length (l.map (λW=>W.1)) 0=x.length:=W8.mp h.2;have h3:cut (l.map (λW=>W.1)) (u.map (λW=>W.1)) x=x:=by
   have b1:=ra (n:=x.length) (v:=u.map (λW=>W.1)) (Xh _);have b2:=ra (n:=x.length) (v:=l.map (λW=>W.1)) (Ye _);have:cf x.length (l.map (λW=>W.1)) 0=0:=by lia
   unfold cut;rw[h2,this,List.drop_zero,Z3]
  rw[h3]at q;exact fin _ _ s.toks (.str _ _ e) q
 .exact⟨Xa mm e,fin _ _ _ (.str _ _ (Xa mm e)) q⟩
theorem HX {e:Xd}{lo hi:Option Xd}{Y:Pos}(h:bK G c e B (λa σ1=>Jj G c lo σ1 (λl σ2=>Jj G c hi σ2 (λu σ3=>eE a λx=>rI l u λl u=>Q (.str (cut l u x)) σ3) X) X) X):
  bK G c (.Subscript e (.Slice lo hi Xk Y) pos) B Q X:=λg s R=>
 Zp (Ev.go .refl R h λg1 a x σ1 s1 k1 W ha R1 h1=>wpAny_Slice (Ev.go k1 R1 h1 λg2 l y σ2 s2 k2 M hb R2 h2=>Ev.go k2 R2 h2 λV u z σ3 J k3 K hd R3 h3=>by obtain⟨w,t,rfl,h4,Z⟩:=h3.run (ha.mono (M.trans K));obtain⟨i,j,e1,e2,q⟩:=h4.to;obtain⟨U,rfl,rfl,-⟩:=iu hb e1;obtain⟨O,rfl,rfl,-⟩:=iu hd e2;have R4:Rel G c V σ3 {J with heap:=J.heap.push {cls:=.type "slice",data:=.fields #[partValue U,partValue O,.none]}}:=R3.ext (t:=J.toks) λb o e=>XA _ e;rw[evalPart_none];exact Xo (YH (typeIs_str _ _ t) PySem.F.slot_str_getitem.lookup (wpAny_getItem_str_slice (l:=U) (u:=O) (st:=Xk) ⟨_,X0 _ rfl,rfl,rfl⟩ rfl (vz (k:=λv=>Q v σ3) Z R4 q λv val t hv q=>⟨V,v,σ3,k3,hv,R4.tok,q⟩)) rfl)))
theorem HY {p:Nat}{e:Xd}{lo hi:Option Xd}{U:Pos}(h:bK G c e B (λa σ1=>Jj G c lo σ1 (λl σ2=>Jj G c hi σ2 (λu σ3=>fk p σ3.H a λx=>rI l u λl u=>Q (.lst (cut l u x)) σ3) X) X) X):
  bK G c (.Subscript e (.Slice lo hi Xk U) pos) B Q X:=λg s R=>
 Zp (Ev.go .refl R h λg1 a x σ1 s1 k1 W ha R1 h1=>wpAny_Slice (Ev.go k1 R1 h1 λg2 l y σ2 s2 k2 M hb R2 h2=>Ev.go k2 R2 h2 λg3 u z σ3 J k3 K hd R3 h3=>by obtain⟨w,vs,r,m,h1,h2,h4,O⟩:=fk.to R3 (ha.mono (M.trans K)) h3;obtain⟨i,j,e1,e2,q⟩:=h4.to;obtain⟨-,-,-,pl⟩:=iu hb e1;obtain⟨-,-,-,V⟩:=iu hd e2;have R4:Rel G c g3 σ3 {J with heap:=J.heap.push {cls:=.type "slice",data:=.fields #[y,z,.none]}}:=R3.ext (t:=J.toks) λb o e=>XA _ e;obtain⟨g4,Y,R5,Z⟩:=lV (b:=Xg) (Xa mm O) R4 (h2.cut (lo:=i) (hi:=j));rw[evalPart_none];refine Xo (YH (h1.isList.push _).typeIs slot_list_getitem.lookup (wpAny_getItem_list_slice (h1.isList.push _) (Heap.IsSliceOf.new ..) pl V .none (by simp) ?_ (by rw[XC,<-h2.1];exact O)) rfl);rw[uX];exact⟨g4,_,σ3,k3.trans Y,Z,R5,q⟩))
theorem i6{l:Addr}{e:Array Xj}{k:Int}{i:Nat}{t:Tok}{v:Xj}{P:Unit->XB->Prop}(O:IsL s.heap l e n)
  (V:Yy.List.listFitsIndex k) (hi:seqIndex? k e.size=W_ i) (Y:i<e.size) (U:0<=k->k.toNat=i) (hQ:P () {s with heap:=s.heap.update l (Obj.mapSeq (λW=>W.setIfInBounds i v))}):
  XT G.M A (setItem (.ref l) (.int k t) v) P E s:=by
 obtain⟨o,K,Z,ne,hd⟩:=O.isList
 unfold setItem
 try with_reducible refine X8 ?_
 first|refine Xe (Xo ?_)|skip
 refine Xe (wpAny_sequenceKey O.isList.typeIs (by decide) ?_)
 refine Xe (wpAny_callSpecial?_slot (name:=Str.ofString "__setitem__") O.isList.typeIs slot_list_setitem
  (wpAny_call_entry slot_list_setitem O.isList.typeIs entry_list_setitem ?_ (args_list_setitem _ _ _)))
 show XT _ _ (Yy.List.listSubscript? (.int k t) >>=_) _ _ s
 refine Xe (wpAny_listSubscript_int V ?_)
 clear V
 have J:e[i]?=W_ e[i]:=Y1 Y
 induction k with
 |ofNat j=>
  have U:j=i:=U (XO j);subst U;show XT _ _ ((seqItemAt l j>>=λr=>pure (r.map (j,·))) >>=_) _ _ s;refine Xe (Xe (wpAny_seqItemAt K hd (Xo ?_)));rw[J]
  show XT _ _ (setSeqItemAt l j v>>=_) _ _ s
  refine Xe (wpAny_setSeqItemAt K hd ?_)
  first
   |exact Xe (Xo (Xo ⟨.none,rfl,Xo hQ⟩))
   |exact Xo ⟨.none,rfl,Xo hQ⟩
 |negSucc j=>
  show XT _ _ ((Yy.List.listItems (.ref l) >>=λxs=>pure ((seqIndex? (Int.negSucc j) xs.size).bind λi=>xs[i]?.map (i,·))) >>=_) _ _ s
  refine Xe (Xe ?_)
  show XT _ _ (seqItems? (.ref l) >>=_) _ _ s;refine Xe (wpAny_seqItems K hd (Xo (Xo ?_)));rw[hi];simp only[Zn,J,Option.map_some];show XT _ _ (setSeqItemAt l i v>>=_) _ _ s;refine Xe (wpAny_setSeqItemAt K hd ?_);first|exact Xe (Xo (Xo ⟨.none,rfl,Xo hQ⟩))|exact Xo ⟨.none,rfl,Xo hQ⟩
noncomputable def fG{α:Type}[BEq α] (l:List (α×V))(k:α)(v:V):List (α×V):=if l.any (λx=>x.1==k) then l.map (λx=>if x.1==k then(x.1,v)else x)else l++[(k,v)]
def UA (p:Nat)(H:Hp)(r:Addr)(i w:V)(k:Hp->Prop)(m:MO):Prop:=match m with|.list l=>d6 i λi=>(C0 i/\i.toNat<l.length)/\setC H p (r,.list (setAt l i.toNat w)) k|.bz l=>d6 i λi=>l.length<16777216/\setC H p (r,.bz (fG l i w)) k|.aU l=>eE i λi=>l.length<16777216/\setC H p (r,.aU (fG l i w)) k|_=>False
def FV (p:Nat)(H:Hp)(a i w:V)(k:Hp->Prop):Prop:=match a with|.ref r=>fK H p r (UA p H r i w k)|_=>False
def WC (p:Nat)(H:Hp)(w:V)(k:Hp->Prop)(r:Addr)(l:aP):Prop:= ∃i x,l=i++[x] /\setC H p (r,.list (i++[w])) k
def zA (p:Nat)(H:Hp)(a w:V)(k:Hp->Prop):Prop:=eU p H a (WC p H w k)
theorem cR:∀(l:List α) (i:Nat) (x:α),setAt l i x=l.set i x|[],_,_=>by cases ‹Nat› <;>rfl|_::_,0,_=>rfl|y::l,i+1,x=>WX (y::·) (cR l i x)
theorem cF.set{l:aP}{y:Xj}{i:Nat}(h:cF G g l vs) (e:VR G g w y):cF G g (setAt l i w) (vs.set i y):=by
 rw[cR];refine⟨by rw[List.length_set,List.length_set,h.1],λj v x a b=>?_⟩;rw[List.getElem?_set]at a b;by_cases q:i=j
 .rw[W0 q]at a b;rw[<-h.1]at b;split at a
  .rename_i z;rw[W0 z]at b;cases a;cases b;exact e
  .exact gG a
 .rw[WZ q]at a b;exact h.2 j v x a b
theorem KR.any[BEq α][LawfulBEq α][DecidableEq β] {φ:α->β}(inj:∀a b,φ a=φ b->a=b){k:α}:∀{l:List (α×V)}{kvs:List (β×Xj)},KR G g φ l kvs->(kvs.any λJ=>J.1=φ k)=l.any λx=>x.1==k:=by
 intro l kvs r;have h:=r.1;have K:(kvs.any λJ=>J.1=φ k)=(kvs.map (λW=>W.1)).any λy=>decide (y=φ k):=by rw[List.any_map];rfl
 rw[K,h,List.any_map];congr 1;funext x;show decide (φ x.1=φ k)=(x.1==k);by_cases q:x.1=k
 .rw[q,WY];exact W4 rfl
 .rw[W9.mpr q];exact W2 λe=>q (inj _ _ e)
theorem KR.Ln[BEq α][LawfulBEq α][DecidableEq β] {φ:α->β}(inj:∀a b,φ a=φ b->a=b){k:α}{y:Xj}{l:List (α×V)}{kvs:List (β×Xj)}(r:KR G g φ l kvs) (Y:VR G g w y):KR G g φ (fG l k w) (stored kvs (φ k) y):=by
 unfold fG stored;rw[r.any inj];obtain⟨M,K,U⟩:=r;split
 .refine⟨?_,?_,λi v x a b=>?_⟩
  .rw[Yn,Yn];have:((λx:β×Xj=>x.1) ∘λO:β×Xj=>if O.1=φ k then(O.1,y)else O)=λx=>x.1:=by funext x;show(if _ then _ else _:β×Xj).1=_;split<;>rfl
   have e2:((λx:α×V=>φ x.1) ∘λx:α×V=>if(x.1==k)=Xg then(x.1,w)else x)=λx=>φ x.1:=by funext x;show φ (if _ then _ else _:α×V).1=_;split<;>rfl
   rw[this,e2];exact M
  .rw[Xl,Xl,Xl,Xl];rw[Xl,Xl]at K;exact K
  .rw[Yn,X2]at a b;obtain⟨p,hp,rfl⟩:=X6.mp a;obtain⟨q,Z,rfl⟩:=X6.mp b;have J:(kvs.map (λW=>W.1))[i]?=W_ q.1:=by rw[X2,Z];rfl
   rw[M,X2,hp]at J;have J:φ p.1=q.1:=XG J;have h:=U i p.2 q.2 (by rw[X2,hp];rfl) (by rw[X2,Z];rfl);show VR G g (if _ then _ else _:α×V).2 (if _ then _ else _:β×Xj).2;by_cases z:p.1=k
   .rw[W0 (by rw[z,WY]),W0 (by rw[<-J,z])];exact Y
   .rw[WZ (by rw[W9.mpr z];exact Xy),WZ (λe=>z (inj _ _ (J.trans e)))];exact h
 .refine⟨by rw[XQ,XQ,M];rfl,?_⟩;rw[XQ,XQ];exact cF.append ⟨K,U⟩ (.cons Y .nil)
theorem Rel.GQ{p:Nat}{a:Addr}{t:Nat}(R:Rel G c g B s)(J:aF B.H p=W_ (a,mo))(k:∀b,b≠a->h.get? b=s.heap.get? b){o:Obj}(e:h.get? a=W_ o)
  (m:∀role,MR G g s.heap role a mo->MR G g h role a mo'):Rel G c g ⟨setAt B.H p (a,mo'),B.r⟩ {s with heap:=h,toks:=t}:=
 R.mod (s':={s with heap:=h,toks:=t}) J rfl rfl (λb o z=>by
  by_cases q:b=a
  .exact⟨_,q▸e⟩
  .exact⟨o,(k b q).trans z⟩) λrole K z=>⟨λb o q W z=>(k b q).trans z,m role z⟩
theorem Rel.Lu{p:Nat}{a:Addr}{l:aP}{i:Nat}{y:Xj}(R:Rel G c g B s) (O:aF B.H p=W_ (a,.list l)) (e:IsL s.heap a vs.toArray n) (M:cF G g l vs) (K:VR G g w y) (J:l.length<=16777216):
  Rel G c g ⟨setAt B.H p (a,.list (setAt l i w)),B.r⟩ {s with heap:=s.heap.update a (Obj.mapSeq (λW=>W.setIfInBounds i y))}:=by
 have e:=IsL.update e λxs=>xs.setIfInBounds i y;rw[List.setIfInBounds_toArray]at e;exact R.uj (t:=s.toks) O (λb q=>lG q) e (M.set K) (by rw[cR,List.length_set];exact J)
theorem t5{p:Nat}{a i:V}{x y z:Xj}{k:Hp->Prop}{P:Unit->XB->Prop}(R:Rel G c g B s) (ha:VR G g a x) (hi:VR G g i y) (U:VR G g w z) (h:FV p B.H a i w k)
  (fin:∀H s',k H->Rel G c g ⟨H,B.r⟩ s'->P () s'):XT G.M A (setItem x y z) P E s:=by
 cases a with
 |ref r=>
  obtain rfl:=ha.dZ
  obtain⟨m,J,h⟩:=fK.to h
  induction m with
  |list l=>
   obtain⟨i,t,rfl,⟨h1,h2⟩,q⟩:=d6.run h hi;obtain⟨role,vs,n,Z,K,e2⟩:=R.at J;have Y:i.toNat<vs.toArray.size:=by rw[XC,<-e2.1];exact h2
   exact i6 Z (fitsIndex_of h1.1 (VC h1.2)) (oJ h1.1 Y) Y (λW=>rfl) (fin _ _ (cM q) (R.Lu J Z e2 U K))
  |bz l=>
   obtain⟨i,t,rfl,K,q⟩:=d6.run h hi;obtain⟨role,kvs,h0,r⟩:=R.at J;refine wpAny_setItem_pairs (intKind_is _ _ i _) h0 (λh' e O=>?_) (by rw[r.len];exact Yv K);exact fin _ _ (cM q) (R.GQ (t:=s.toks+1) J O.2 e.choose_spec.choose_spec.choose_spec.1 λrole W=>⟨_,e,r.Ln (λW W e=>e) U⟩)|aU l=>
   obtain⟨i,t,rfl,⟨K,q⟩,-⟩:=eE.run h hi;obtain⟨role,kvs,h0,r⟩:=R.at J;refine wpAny_setItem_pairs (Z1 _ _ _ _) h0 (λh' e O=>?_) (by rw[r.len];exact Yv K)
   exact fin _ _ (cM q) (R.GQ (t:=s.toks+1) J O.2 e.choose_spec.choose_spec.choose_spec.1 λrole W=>⟨_,e,r.Ln str_inj U⟩)
  |_=>exact h.elim
 |_=>exact h.elim
theorem tZ{p:Nat}{a:V}{x z:Xj}{t:Tok}{k:Hp->Prop}{P:Unit->XB->Prop}(R:Rel G c g B s) (U:VR G g a x) (K:VR G g w z) (h:zA p B.H a w k)
  (fin:∀H s',k H->Rel G c g ⟨H,B.r⟩ s'->P () s'):XT G.M A (setItem x (.int (-1) t) z) P E s:=by
 obtain⟨l,vs,r,n,O,h1,h2,⟨i,y,rfl,q⟩,J⟩:=eU.to R U h;have hs:vs.toArray.size=i.length+1:=by rw[XC,<-h2.1,Xc];rfl
 have e:setAt (i++[y]) i.length w=i++[w]:=by rw[cR,List.set_append_right _ _ (Xh _),Nat.sub_self];rfl
 exact i6 (i:=i.length) h1 (by decide) (by rw[seqIndex_neg (by decide) (by rw[hs];exact ng1 (Y' _)),hs];congr 1;exact tn1) (by rw[hs];exact Zv _) (λh=>W5 h (by decide)) (fin _ _ (cM q) (e▸R.Lu O h1 h2 K J))
theorem HN{p:Nat}{o i e:Xd}(hs:Y9 e (W_ (.Subscript o i px)) pp.line c.env=pure Xb)(h:bK G c e B (λw σ1=>bK G c o σ1 (λa σ2=>bK G c i σ2 (λi σ3=>FV p σ3.H a i w λH=>Q .none ⟨H,σ3.r⟩) X) X) X):
  eY G c (.Assign [.Subscript o i px] e pp) B Q X:=λg s R=>
 wpAny_Assign_Subscript (Ev.go .refl R h λg1 w z σ1 Z k1 W M R1 q1=>Ev.go k1 R1 q1 λg2 a x σ2 Y k2 K O R2 q2=>Ev.go k2 R2 q2 λU i y σ3 V k3 J hi R3 q3=>t5 R3 (O.mono J) hi (M.mono (K.trans J)) q3 λH s' q R'=>⟨U,.none,_,k3,rfl,R',q⟩) hs
theorem HM{p:Nat}{o i e:Xd}(hs:Y9 e (W_ (.Subscript o i px)) pp.line c.env=pure Xb) (hi:∀{B Q X},Q (.int (-1)) B->bK G c i B Q X) (h:bK G c e B (λw σ1=>bK G c o σ1 (λa σ2=>zA p σ2.H a w λH=>Q .none ⟨H,σ2.r⟩) X) X):
  eY G c (.Assign [.Subscript o i px] e pp) B Q X:=λg s R=>
 wpAny_Assign_Subscript (Ev.go .refl R h λg1 w z σ1 Z k1 W M R1 q1=>Ev.go k1 R1 q1 λg2 a x σ2 Y k2 K O R2 q2=>Ev.go (Q:=λb σ3=>b=.int (-1)/\zA p σ3.H a w λH=>Q .none ⟨H,σ3.r⟩) k2 R2 (hi ⟨rfl,q2⟩) λU i y σ3 V k3 J hi R3 q3=>by obtain⟨rfl,q3⟩:=q3;obtain⟨t,rfl⟩:=hi.int_inv;exact tZ R3 (O.mono J) (M.mono (K.trans J)) q3 λH s' q R'=>⟨U,.none,_,k3,rfl,R',q⟩) hs
theorem Bw{p:Pos}{q:Nat}(h:gT q (.bz []) B Q):bK G c (.Dict [] [] p) B Q X:=λg s R=>wpAny_Dict_empty ⟨g,_,_,.refl,.ref _,R.kM (mo:=.bz []) rfl λW=>⟨[],Z0 s.heap,rfl,rfl,λi x v e=>by exact gG e⟩,f_ (h _)⟩
theorem Bv{p:Pos}{q:Nat}(h:gT q (.aU []) B Q):bK G c (.Dict [] [] p) B Q X:=λg s R=>wpAny_Dict_empty ⟨g,_,_,.refl,.ref _,R.kM (mo:=.aU []) rfl λW=>⟨[],Z0 s.heap,rfl,rfl,λi x v e=>by exact gG e⟩,f_ (h _)⟩
theorem k9{y:α}:∀{l:List α}{q:Nat},q<=l.length->aF (cX l q y) q=W_ y|[],0,_=>rfl|_::_,0,_=>rfl|[],_+1,h=>W5 h (Nat.not_succ_le_zero _)|_::l,q+1,h=>k9 (l:=l) (Nat.le_of_succ_le_succ h)
theorem kL{y z:α}:∀{l:List α}{q:Nat},q<=l.length->setAt (cX l q y) q z=cX l q z|[],0,_=>rfl|_::_,0,_=>rfl|[],_+1,h=>W5 h (Nat.not_succ_le_zero _)|x::l,q+1,h=>WX (x::·) (kL (l:=l) (Nat.le_of_succ_le_succ h))
theorem Bx {p:Pos}{q:Nat}{a b x y:Int}{U O M K:Nat}{p1 p2 p3 p4:Pos}(J:a≠b) (h:q<=B.H.length/\gT q (.bz [(a,.int x),(b,.int y)]) B Q):
  bK G c (.Dict [W_ (.Constant (.int a) U p1),W_ (.Constant (.int b) O p2)] [.Constant (.int x) M p3,.Constant (.int y) K p4] p) B Q X:=λg s R=>by
 refine wpAny_Dict_pairs (knd:=intKind G.prog G.w) (pairs:=[(eval (.Constant (.int a) U p1) c.env,do let v<-eval (.Constant (.int x) M p3) c.env;standAt p;pure v),(eval (.Constant (.int b) O p2) c.env,do let v<-eval (.Constant (.int y) K p4) c.env;standAt p;pure v)]) rfl (by intro e;cases e) (Xi rfl) ?_;have D:∀{t},Heap.DictOf (intKind G.prog G.w) ({s with heap:=s.heap.push {cls:=.type "dict",data:=.dict #[]},toks:=t}:XB).heap s.heap.objs.size []:=Z0 s.heap;refine evalPairs_cons (ZW (Xe (ZW (Xe (Yd (Xo (evalPairs_cons (ZW (Xe (ZW (Xe (Yd (Xo (evalPairs_nil ?_))))))))))))));refine⟨[(a,.int x _),(b,.int y _)],⟨intKind_is _ _ _ _,rfl,intKind_is _ _ _ _,rfl,Xu⟩,D,λh' e V=>?_⟩;have R1:Rel G c g ⟨cX B.H q (s.heap.objs.size,.bz []),B.r⟩ {s with heap:=s.heap.push {cls:=.type "dict",data:=.dict #[]}}:=R.kM rfl λW=>⟨[],Z0 s.heap,rfl,rfl,λi x v e=>by exact gG e⟩;have Y:∀v w:Xj,merged ([]:List (Int×Xj)) [(a,v),(b,w)]=[(a,v),(b,w)]:=λv w=>by unfold merged stored;simp [J]
 rw[Y]at e;have R2:=R1.GQ (t:=s.toks+1+1+1+1+2) (k9 h.1) V.2 e.choose_spec.choose_spec.choose_spec.1 (mo':=.bz [(a,.int x),(b,.int y)]) λrole W=>⟨_,e,rfl,.cons (.int _ _) (.cons (.int _ _) .nil)⟩;rw[kL h.1]at R2;exact⟨g,_,_,.refl,.ref _,R2,f_ (h.2 _)⟩
end
section
open PySem.SeqAt
section
variable{G:cc}{c:Cx}{role:Addr->Role}{g:bQ}{d:St}{s:XB}{A:Za}{X:di->St->Prop}{Q:V->St->Prop}{E:Xj->XB->Prop}{P:Xj->XB->Prop}{T F H:Hp}
noncomputable def sX:Nat->V->Bool|0,_=>Xb|n+1,.sq _ l=>l.all (sX n)|_+1,.int _=>Xg|_+1,.str _=>Xg|_+1,.bytes _=>Xg|_,_=>Xb
theorem all_true{n:Nat}:(List.range n).all (λW=>Xg):=XM.mpr λW W=>rfl
variable{y:Xj}
theorem EqAt.of_rc{x:Xj}{b:Bool}(K:∀f t,x≠.float f t) (h:RcAt A s x y b) (hs:x=y->b):EqAt A s x y b:=λprog w E Q e=>by
 unfold eqBool;refine X8 ?_;refine wpAny_ite_split (λJ=>?_) (λW=>?_)
 .rw[hs (W6 J)]at e;exact Xe (wpAny_rule (Xo e))
 .induction x with|float f t=>exact W5 rfl (K _ _)|_=>exact Xe (h prog w E _ (Zq e))
theorem VR.nf{a:V}{x:Xj}(h:VR G g a x):∀f t,x≠.float f t:=by rintro f t rfl;cases h with|cst _ h=>exact ff h
inductive So (G:cc)(g:bQ)(k:Bool)(l:aP)(x:Xj):Prop|mk (a vs n)(h0:x=.ref a)(h1:g a=W_ ⟨.type (t7 k),Option.none,.seq (YL vs) n,#[]⟩)(h2:cF G g l vs)(h3:l.length<=16777216)
variable{l:aP}
theorem VR.fY{k:Bool}{x:Xj}(h:VR G g (.sq k l) x):So G g k l x:=by cases h with|sq _ _ vs a n e J K r=>exact⟨a,vs,n,rfl,e,⟨K,r⟩,J⟩
theorem Gv:∀(n:Nat){a:V}{x y:Xj}{A:Za}{s:XB},(∀a o,g a=W_ o->s.heap.get? a=W_ o)->A.units+n<cLine->sX n a->VR G g a x->VR G g a y->RcAt A s x y Xg:=by
 intro n;induction n with|zero=>intro a x y A s _ _ h;exact ff h|succ n ih=>
  intro a x y A s gk M h J e
  cases a with
  |int i=>
   obtain⟨t,rfl⟩:=J.int_inv;obtain⟨u,rfl⟩:=e.int_inv
   exact λprog w E Q h=>wpAny_eq_int (by rw[WY];exact h)
  |str i=>
   obtain⟨t,rfl,-⟩:=J.str_inv;obtain⟨u,rfl,-⟩:=e.str_inv;exact λprog w E Q h=>eq_str (by rw[WY];exact h)|bytes i=>
   obtain⟨t,rfl⟩:=J.g7;obtain⟨u,rfl⟩:=e.g7;exact λprog w E Q h=>PySem.W.eq_bytes (by rw[WY];exact h)|sq k l=>
   obtain⟨a,vs,n₁,rfl,e1,⟨Y,r1⟩,-⟩:=J.fY;obtain⟨b,ws,n₂,rfl,e2,⟨l2,r2⟩,-⟩:=e.fY;have g1:=gk _ _ e1;have g2:=gk _ _ e2;have Z:∀j (h1:j<vs.toArray.size) (h2:j<ws.toArray.size),EqAt A.in1 s vs.toArray[j] ws.toArray[j] Xg:=λj h1 h2=>by
    have a1:vs[j]?=W_ vs.toArray[j]:=by rw[<-Yx];exact Y1 h1
    have a2:ws[j]?=W_ ws.toArray[j]:=by rw[<-Yx];exact Y1 h2
    rw[XC,<-Y]at h1
    have p:=XD h1
    have O:=r1 j _ _ p a1
    exact EqAt.of_rc O.nf (ih gk (by show A.units+1+n<cLine;exact UP M) (XM.mp h _ (Zt h1)) O (r2 j _ _ p a2)) λC=>rfl
   have K:vs.toArray.size=l.length:=by rw[XC,Y]
   have U:ws.toArray.size=l.length:=by rw[XC,l2]
   cases k
   .have:=RcAt.tuples (A:=A) (s:=s) ⟨_,g1,rfl,n₁,rfl⟩ ⟨_,g2,rfl,n₂,rfl⟩ (ML M) Z
    rw[K,U,all_true,WY]at this;exact this
   .have:=RcAt.lists (A:=A) (s:=s) ⟨_,g1,rfl,n₁,rfl⟩ ⟨_,g2,rfl,n₂,rfl⟩ (by rw[K,U]) (ML M) Z;rw[K,all_true]at this;exact this|_=>exact ff h
theorem Ie{x y:ax}{u v:Xj}(gk:∀a o,g a=W_ o->s.heap.get? a=W_ o) (M:A.units<cLine) (U:VR G g (.sq Xb (.str x::l)) u) (O:VR G g (.sq Xb [.str y]) v):RcAt A s u v (sEq x y&&l.isEmpty):=by
 obtain⟨a,vs,n₁,rfl,V,⟨J,K⟩,-⟩:=U.fY;obtain⟨b,ws,n₂,rfl,e2,h2,-⟩:=O.fY;obtain⟨w,rfl,h3⟩:=h2.one;induction vs using Xn with|nil=>cases J|cons z vs=>
  obtain⟨t,rfl,-⟩:=(K 0 _ _ rfl rfl).str_inv;obtain⟨u,rfl,-⟩:=h3.str_inv;have:=RcAt.tuples (e:=λW=>sEq x y) (A:=A) (s:=s) ⟨_,gk _ _ V,rfl,n₁,rfl⟩ ⟨_,gk _ _ e2,rfl,n₂,rfl⟩ M (λj h1 h2=>by induction j using XN with|zero=>exact EqAt.of_rc (λW W e=>nomatch e) (λprog w E Q h=>eq_str (str_beq x y▸h)) λe=>by rw[str_inj _ _ (Xj.str.inj e).1,bH];exact WY _|succ j=>exact W5 (Nat.lt_of_succ_lt_succ h2) (YE _))
  have e:((List.range (min (Xj.str ⟨x.toArray⟩ t::vs).toArray.size [Xj.str ⟨y.toArray⟩ u].toArray.size)).all (λW=>sEq x y)&&(Xj.str ⟨x.toArray⟩ t::vs).toArray.size== [Xj.str ⟨y.toArray⟩ u].toArray.size)=(sEq x y&&l.isEmpty):=by have:vs.length=l.length:=(Yg J).symm;rw[XC,XC,Xq,this,show [Xj.str ⟨y.toArray⟩ u].length=1 from rfl,Nat.min_eq_right (Zc _ _)];cases l<;>cases sEq x y<;>rfl
  exact e▸this
inductive S4|TM|Py|TL|Tu
noncomputable def S4.op:S4->CmpOp|.TM=>.Eq|.Py=>.Eq|.TL=>.Eq|.Tu=>.NotEq
def JC(l:aP)(k:V->aP->Prop):Prop:=match l with|x::l=>k x l|[]=>False
theorem JC.to{k:V->aP->Prop}(h:JC l k):∃x m,l=x::m/\k x m:=by induction l using Xn with|nil=>exact h.elim|cons x m=>exact⟨x,m,rfl,h⟩
def Iz (op:S4)(p:Nat)(H:Hp)(a b:V)(k:Bool->Prop):Prop:=match op with|.TM=>(a=b/\sX 12 a=Xg)/\k Xg|.Py=>isQ Xb a λl=>JC l λx l=>eE x λx=>isQ Xb b λm=>JC m λy m=>eE y λy=>m=[] /\k (sEq x y&&l.isEmpty)|.TL=>fk p H a λl=>b=.lst [] /\k l.isEmpty|.Tu=>fk p H a λl=>b=.lst [] /\k (!l.isEmpty)
inductive SY (a b:V)(k:Bool->Prop):Prop|mk (z l w:_)(ea:a=.sq Xb (.str z::l))(eb:b=.sq Xb [.str w])(h:k (sEq z w&&l.isEmpty))
variable{p:Nat}
theorem Ic{a b:V}{k:Bool->Prop}(h:Iz .Py p H a b k):SY a b k:=by obtain⟨l,rfl,h1⟩:=isQ.to h;obtain⟨z,l,rfl,h2⟩:=JC.to h1;obtain⟨w,rfl,h3⟩:=eE.to h2;obtain⟨m,rfl,h4⟩:=isQ.to h3;obtain⟨z,m,rfl,J⟩:=JC.to h4;obtain⟨v,rfl,rfl,e⟩:=eE.to J;exact⟨w,l,v,rfl,rfl,e⟩
inductive ac7(s:XB)(x y:Xj)(k:aP->Prop):Prop|mk(l r r' n vs n':_)(ex:x=.ref r)(ey:y=.ref r')(h1:IsL s.heap r vs n)(hz:vs.size=l.length)(h2:IsL s.heap r' #[] n')(q:k l)
theorem C2{a b:V}{x:Xj}{k:aP->Prop}(R:Rel G c g d s)(U:VR G g a x)(O:VR G g b y)(h:fk p d.H a λl=>b=.lst [] /\k l):ac7 s x y k:=by
 obtain⟨l,vs,r,n,h1,h2,⟨rfl,q⟩,-⟩:=fk.to R U h;cases O with|sq _ _ ws J K e Z M Y=>obtain rfl:=List.eq_nil_of_length_eq_zero M.symm;exact⟨l,r,J,n,_,K,rfl,rfl,h1,by rw[XC,h2.1],R.gk e,q⟩
theorem BR{op:S4}{a b:V}{x:Xj}{k:Bool->Prop}(Y:A.units+20<cLine) (R:Rel G c g d s) (U:VR G g a x) (O:VR G g b y) (h:Iz op p d.H a b k)
  (fin:∀v,k v->P (.bool v) s):XT G.M A (compareOp op.op x y) P E s:=by
 have J:A.units<cLine:=Xz (Xp _ 20) Y;induction op with
 |TM=>
  obtain⟨⟨rfl,h1⟩,q⟩:=h;exact Gv 12 (λW W e=>R.gk e) (q_y Y) h1 U O _ _ _ _ (fin _ q)|Py=>
  obtain⟨z,l,w,rfl,rfl,h1⟩:=Ic h;exact Ie (λW W e=>R.gk e) J U O _ _ _ _ (fin _ h1)|TL=>
  obtain⟨l,r,Z,n,vs,n',rfl,rfl,h1,K,h2,q⟩:=C2 R U O h;induction l using Xn with|nil=>exact eq_listAt (e:=λW=>Xg) h1.isList h2.isList K J (λj h1 h2=>W5 h2 (YE _)) (by rw[K];exact fin _ q)|cons y l=>exact eq_list_lengthsAt h1.isList h2.isList (by rw[K];rfl) J (fin _ q)
 |Tu=>
  obtain⟨l,r,Z,n,vs,n',rfl,rfl,h1,K,h2,q⟩:=C2 R U O h
  induction l using Xn with|nil=>exact RcNeAt.lists (e:=λW=>Xg) h1.isList h2.isList K J (λj h1 h2=>W5 h2 (YE _)) _ _ _ _ (by rw[K];exact fin _ q)|cons y l=>exact RcNeAt.lists_lengths h1.isList h2.isList (by rw[K];rfl) J _ _ _ _ (fin _ q)
theorem CC(O:bg c):c.A.units+20<cLine:=by have:=O.room.u;unfold cLine;exact q_y this
end
end
section
variable{G:cc}{c:Cx}{role:Addr->Role}{g:bQ}{σ:St}{s:XB}{A:Za}{X:di->St->Prop}{Q:V->St->Prop}{E P:Xj->XB->Prop}{T F H:Hp}
def k3(K:Hp->V->V->V->(V->Hp->Prop)->Prop):PK:=λH l k=>match l with|[u,v,w]=>K H u v w k|_=>False
inductive ade(H:Hp)(K:Hp->V->V->V->(V->Hp->Prop)->Prop)(l:aP)(k:V->Hp->Prop):Prop|mk(u v w)(h0:l=[u,v,w])(h1:K H u v w k)
variable{l:aP}
theorem k3.to{K:Hp->V->V->V->(V->Hp->Prop)->Prop}{k:V->Hp->Prop}(h:k3 K H l k):ade H K l k:=by induction l using Xn with|nil=>exact h.elim|cons u l=>induction l using Xn with|nil=>exact h.elim|cons v l=>induction l using Xn with|nil=>exact h.elim|cons w l=>induction l using Xn with|nil=>exact⟨u,v,w,rfl,h⟩|cons=>exact h.elim
def nS (p:Nat)(H:Hp)(a:V)(k:Addr->List (Int×V)->Prop):Prop:=match a with|.ref r=>fK H p r (TH (k r))|_=>False
inductive SM (G:cc)(g:bQ)(σ:St)(s:XB)(p:Nat)(x:Xj)(k:Addr->List (Int×V)->Prop):Prop|mk (r l kvs:_)(h0:x=.ref r)(h1:aF σ.H p=W_ (r,.bz l))(h2:s.heap.DictOf (intKind G.prog G.w) r kvs)(h3:KR G g id l kvs)(h4:k r l)
variable{p:Nat}
theorem nS.to{a:V}{x:Xj}{k:Addr->List (Int×V)->Prop}(R:Rel G c g σ s)(J:VR G g a x)(h:nS p σ.H a k):SM G g σ s p x k:=by
 cases a with|ref r=>obtain⟨l,e,h⟩:=TH.to h;obtain rfl:=J.dZ;obtain⟨role,kvs,h0,r⟩:=R.at e;exact⟨_,l,kvs,rfl,e,h0,r,h⟩|_=>exact h.elim
def getL (H:Hp)(i d:V)(k:V->Hp->Prop)(_:Addr)(l:List (Int×V)):Prop:=d6 i λi=>∃w,(l.lookup i).getD d=w/\k w H
def OQ (p:Nat):Hp->V->V->V->(V->Hp->Prop)->Prop:=λH a i d k=>nS p H a (getL H i d k)
theorem uN (J:G.K.lookup Yu≠Xk):Prim G (λvs=>call (.builtin "dict.get") vs) (k3 (OQ p)):=by intro c g σ s A E P l vs k _ R hv h fin;obtain⟨u,v,w,rfl,h⟩:=h.to;obtain⟨x,y,z,rfl,hx,Z,Y⟩:=hv.three;obtain⟨r,l,kvs,rfl,hg,M,V,h⟩:=nS.to R hx h;obtain⟨i,t,rfl,_,rfl,q⟩:=d6.run h Z;refine call_meetsIn PySem.F.slot_dict_get M.mapOf.typeIs PySem.F.entry_dict_get (PySem.F.args_dict_get_3 _ _ _) (meets_dict_get_default _ r (intKind_is _ _ i t) (qq J R hg) z) ⟨_,M.mapOf,?_⟩;have:=V.get (λW W e=>e) (k:=i);generalize e:l.lookup i=O;induction O with|none=>rw[e]at this q;rw[show valueAt kvs i=Xk from this];exact fin _ _ _ _ _ .refl Y R.tok q|some v'=>rw[e]at this q;obtain⟨U,h1,h2⟩:=this;rw[show valueAt kvs i=W_ U from h1];exact fin _ _ _ _ _ .refl h2 R.tok q
theorem wi:∀{ns:List Int}{vs:List Xj},cF G g (ns.map .int) vs->IntsAre vs ns:=by
 intro ns;induction ns with
 |nil=>
  rintro(_|⟨v,vs⟩) h
  .exact .nil
  .cases h.1|cons n ns ih=>
  rintro(_|⟨v,vs⟩) h
  .cases h.1
  .obtain⟨t,rfl⟩:=(h.2 0 _ _ rfl rfl).int_inv;exact .cons n t (ih ⟨Yg h.1,λi x v a b=>h.2 (i+1) x v a b⟩)
theorem jI:∀{ns:List ax}{vs:List Xj},cF G g (ns.map .str) vs->StrsAre vs (ns.map S):=by
 intro ns;induction ns with
 |nil=>
  rintro(_|⟨v,vs⟩) h
  .exact .nil
  .cases h.1|cons n ns ih=>
  rintro(_|⟨v,vs⟩) h
  .cases h.1
  .obtain⟨t,rfl,-⟩:=(h.2 0 _ _ rfl rfl).str_inv;exact .cons (S n) t (ih ⟨Yg h.1,λi x v a b=>h.2 (i+1) x v a b⟩)
def OU (p:Nat):Hp->V->(V->Hp->Prop)->Prop:=λH v k=>fk p H v λl=>∃ns:List Int,(l=ns.map .int/\ ∀n∈ns,0<=n/\n<256)/\k (.bytes (ns.map λn=>n.toNat.toUInt8)) H
theorem uS:bL G (λvs=>call (.type "bytes") vs) (OU p):=by intro c g σ s A E P v x k hh R J h fin;obtain⟨l,vs,r,m,h1,h2,⟨ns,⟨rfl,K⟩,q⟩,e⟩:=fk.to R J h;exact call_bytes_ints h1.isList (wi h2) K (by rw[<-h2.1];exact e) hh λh' t k kk=>fin _ _ _ _ _ .refl (.bytes _ _) (R.ext kk) q
variable{vs:List Xj}
theorem pZ{ss:List Str}(h:StrsAre vs ss):(∀x∈ss,x.cps.toList.length<=16777216)->cF G g ((ss.map λx=>x.cps.toList).map .str) vs:=by induction h with|nil=>exact λW=>⟨rfl,λi x v e=>(nomatch e)⟩|cons y t _ ih=>exact λJ=>.cons (.str _ _ (J y (.head _))) (ih λx m=>J x (.tail _ m))
def OD (p:Nat):Hp->V->(V->Hp->Prop)->Prop:=λH v k=>fk p H v λl=>∃ns:List ax,(l=ns.map .str/\l.length<64)/\ ∀ms:List ax,ms.Perm ns->k (.lst (ms.map .str)) H
theorem uA:bL G (λvs=>call (.builtin "sorted") vs) (OD p):=by
 intro c g σ s A E P v x k hh R Z h fin;obtain⟨l,vs,r,m,h1,h2,⟨ns,⟨rfl,hr⟩,q⟩,O⟩:=fk.to R Z h;refine sorted_strs h1.isList (jI h2) (by rw[<-h2.1];exact hr) λout J ho hp W=>?_;obtain⟨V,e⟩:=sortedAll_at s.heap vs out;obtain⟨R',Y,e'⟩:=R.ofG (t:=s.toks) (Yl _) e λW W=>sortedAll_old;have hf:(J.map λx=>x.cps.toList).map S=J:=by rw[Yn];exact(List.map_congr_left λx W=>rfl).trans (List.map_id _)
 have K:(J.map λx=>x.cps.toList).Perm ns:=by have:=hp.map λx:Str=>x.cps.toList;rw[Yn,show((λx:Str=>x.cps.toList) ∘S)=id from rfl,List.map_id]at this;exact this
 have hb:∀n∈ns,n.length<=16777216:=λn m=>by
  obtain⟨i,hi,rfl⟩:=List.mem_iff_getElem.mp m;have U:i<vs.length:=by rw[<-h2.1,Xl];exact hi
  obtain⟨t,-,O⟩:=(h2.2 i _ _ (by rw[X2,XD hi];rfl) (XD U)).str_inv;exact O
 have M:cF G (g.put (s.heap.objs.size+1) (seqObj "list" out V)) ((J.map λx=>x.cps.toList).map .str) out.toList:=pZ ho λx m=>hb _ (K.mem_iff.mp (Zx m));refine fin _ _ _ _ _ Y (.sq Xg _ out.toList _ V e' ?_ M.1 M.2) R' (q _ K);have:=K.length_eq;rw[Xl]at this O;rw[Xl,Xl,this];exact O
theorem jw{ns:List Int}{i:Nat}{v:Xj}(h:∃y,(ns.map V.int)[i]?=W_ y/\VR G g y v):i<ns.length/\ ∃t,v=.int (ns.getD i 0) t:=by obtain⟨y,e,K⟩:=h;rw[X2]at e;obtain⟨n,J,rfl⟩:=X6.mp e;obtain⟨t,rfl⟩:=K.int_inv;have:=XK.mp J;exact⟨this.1,t,by rw[Zo,J];rfl⟩
theorem preSum_eq (ns:List Int):∀n,n<=ns.length->preSum (λi=>ns.getD i 0) n=(ns.take n).sum:=by
 intro n;induction n with|zero=>intro _;rfl|succ n ih=>intro h;show preSum _ n+_=_;rw[ih (YQ h),List.take_add_one,XD h,List.sum_append];show _+ns.getD n 0=_;rw[Zo,XD h];simp
def OB (p:Nat):Hp->V->(V->Hp->Prop)->Prop:=λH v k=>isQ Xg v λl=>∃ns:List Int,l=ns.map .int/\k (.int ns.sum) H
variable{I:Addr}{fp:List Addr}
theorem Di{h:Heap}(R:Rel G c g σ s)(kk:∀b o,s.heap.get? b=W_ o->h.get? b=W_ o)(K:sO h I)(J:∀b∈fp,b=I\/ (∃o,g b=W_ o) \/ ∃o,(b,MO.raw o)∈([]:Hp)):∀b∈fp,b<h.objs.size:=λb m=>by
 rcases J b m with rfl|⟨o,e⟩|⟨o,e⟩
 .obtain⟨o,T,e,-⟩:=K;exact Yb e
 .exact Yb (kk _ _ (R.gk e))
 .cases e
theorem Dw{x:Xj}{k:Bool}(hh:A.handled=Xk)(R:Rel G c g σ s)(J:VR G g (.sq k l) x):lu G A [] g x l s:=by cases J with|sq _ _ vs a m e M K r=>exact wb hh (R.gk e) ⟨K,r⟩ (.inl ⟨_,e⟩)
theorem uy:bL G (λvs=>call (.builtin "sum") vs) (OB p):=by intro c g σ s A E P v x k hh R U h fin;obtain⟨l,rfl,ns,rfl,q⟩:=isQ.to h;refine call_sum_walkG (Dw (A:=A.in1) hh R U _ _ λh I fp PP Stt W st kk Y J K M=>?_);rw[Xl]at W;refine⟨I,fp,[I],ns.length,PP,Stt,λi=>ns.getD i 0,rfl,W,st,Di R kk (Y _ _ st) K,λi v V=>(jw (M i v V)).2,λh' tk Z O=>?_⟩;have e:=preSum_eq ns _ (Xh _);rw[Z3]at e;rw[e];exact fin _ _ _ _ _ .refl (.int _ _) (R.ext λb o z=>O b o (λm=>W5 (Yb z) (by rw[Xs.mp m];exact Y4.mpr J)) (kk b o z)) q
def OJ (p:Nat):Hp->V->(V->Hp->Prop)->Prop:=λH v k=>isQ Xg v λl=>∃ns:List Int,(l=ns.map .int/\ns≠[])/\ ∀n∈ns,k (.int n) H
theorem uG:bL G (λvs=>call (.builtin "max") vs) (OJ p):=by
 intro c g σ s A E P v x k hh R U h fin;obtain⟨l,rfl,ns,⟨rfl,h0⟩,q⟩:=isQ.to h;refine call_max_walk (Dw (A:=A.in1) hh R U _ _ λh I fp PP Stt W st kk Z J K e=>?_);rw[Xl]at W;have h0:0<ns.length:=List.length_pos_iff.mpr h0;refine⟨I,fp,[I],ns.length,PP,Stt,λi j=>decide (ns.getD i 0>ns.getD j 0),rfl,W,st,Di R kk (Z _ _ st) K,h0,λi j vi vj s Q E hi Y hQ=>?_,λv h' tk V O=>?_⟩
 .obtain⟨-,t,rfl⟩:=jw (e i _ hi);obtain⟨-,u,rfl⟩:=jw (e j _ Y);exact gt_int hQ
 .obtain⟨M,t,rfl⟩:=jw (e _ _ V);refine fin _ _ _ _ _ .refl (.int _ _) (R.ext λb o z=>O b o (λm=>W5 (Yb z) (by rw[Xs.mp m];exact Y4.mpr J)) (kk b o z)) (q _ ?_);rw[Zo,XD M];exact Zt M
def Hm (p:Nat):Hp->V->V->(V->Hp->Prop)->Prop:=λH v w k=>eE v λx=>fk p H w λl=>∃ns:List ax,(l=ns.map .str/\JoinOk (S x) (ns.map S)=Xg/\(Txt.join (S x) (ns.map S)).length<=16777216)/\k (.str (Txt.join (S x) (ns.map S)).cps.toList) H
inductive Sn (vs:List Xj)(ss:List Str):Prop|mk (l:List (Str×Tok))(h0:vs=strValues l)(h1:l.map (λW=>W.1)=ss)
theorem ry{ss:List Str}(h:StrsAre vs ss):Sn vs ss:=by induction h with|nil=>exact⟨[],rfl,rfl⟩|cons y t _ ih=>obtain⟨l,rfl,rfl⟩:=ih;exact⟨(y,t)::l,rfl,rfl⟩
theorem uJ:fg G (λvs=>call (.builtin "str.join") vs) (Hm p):=by intro c g σ s A E P v w x y k hh R K J h fin;obtain⟨i,t,rfl,h1,-⟩:=eE.run h K;obtain⟨l,vs,r,m,h2,h3,⟨ns,⟨rfl,h4,M⟩,q⟩,U⟩:=fk.to R J h1;obtain⟨l,rfl,e⟩:=ry (jI h3);exact SC.join h2.isList e h4 λO k=>fin _ _ _ _ _ .refl (VR.FU M) R.tok q
def mY (x y:ax):List ax:=(Txt.split (S x) (S y)).map λz=>z.cps.toList
def OE:Hp->V->V->(V->Hp->Prop)->Prop:=λH v w k=>eE v λx=>eE w λy=>(y≠[] /\(mY x y).length<=16777216/\ ∀z∈mY x y,z.length<=16777216)/\k (.lst ((mY x y).map .str)) H
theorem lK {l:List (Str×Tok)}{x y:ax}{k:V->Hp->Prop}{t:Nat}(R:Rel G c g σ s) (e:l.map (λW=>W.1)=Txt.split (S x) (S y)) (h1:(mY x y).length<=16777216) (h2:∀z∈mY x y,z.length<=16777216) (q:k (.lst ((mY x y).map .str)) σ.H)
  (fin:∀g' v x H' s',g.le g'->VR G g' v x->Rel G c g' ⟨H',σ.r⟩ s'->k v H'->P x s'):P (.ref s.heap.objs.size) {s with heap:=s.heap.push {cls:=.type "list",data:=.seq (strValues l).toArray},toks:=t}:=by
 have M:StrsAre (strValues l) (Txt.split (S x) (S y)):=by rw[<-e];clear e;induction l with|nil=>exact .nil|cons z l ih=>exact .cons z.1 z.2 ih
 have e2:(mY x y).length=(strValues l).length:=by unfold mY strValues;rw[Xl,Xl,<-e,Xl]
 obtain⟨g',K,R',J⟩:=lV (b:=Xg) (l:=(mY x y).map .str) (vs:=strValues l) (by rw[Xl];exact h1) R (pZ M λz m=>h2 _ (Zx m));exact fin _ _ _ _ _ K J R'.tok q
theorem uB:fg G (λvs=>call (.builtin "str.split") vs) OE:=by
 intro c g σ s A E P v w x y k hh R Z Y h fin;obtain⟨i,t,rfl,h1,U⟩:=eE.run h Z;obtain⟨j,u,rfl,⟨⟨V,h2,h3⟩,q⟩,-⟩:=eE.run h1 Y;have K:((S j).length==0)=Xb:=by rw[W9];intro e;exact V (List.eq_nil_of_length_eq_zero (by exact e))
 cases J:(decide ((S i).length<(S j).length) ||decide (Yy.Str.strKind (S i)<Yy.Str.strKind (S j)))
 .cases M:(Yt (S i) (S j) 0 (S i).length ((S i).length+1)).isEmpty
  .have O:Txt.split (S i) (S j)=Yy.Str.partsBetween (S i) (Yt (S i) (S j) 0 (S i).length ((S i).length+1)) (S j).length:=(WZ (ne_true_of_eq_false J)).trans (WZ (ne_true_of_eq_false M));refine call_meets ZL (typeIs_str _ _ _) PySem.F.entry_str_split (PySem.F.args_str_split_2 _ _) (meets_str_split_sep _ _ t u J K M U (by have h4:=h2;unfold mY at h4;rw[Xl,O]at h4;exact h4)) ?_;have:=lK (l:=numbered s.toks (Txt.split (S i) (S j))) (t:=s.toks+(Txt.split (S i) (S j)).length) R (numbered_texts _ _) h2 h3 q fin;rw[<-strsFrom_eq,O]at this;exact this
  .exact call_meets ZL (typeIs_str _ _ _) PySem.F.entry_str_split (PySem.F.args_str_split_2 _ _) (meets_str_split_not_found _ _ t u J K M) (lK (l:=[(S i,t)]) R ((WZ (ne_true_of_eq_false J)).trans (W0 M)).symm h2 h3 q fin)
 .exact call_meets ZL (typeIs_str _ _ _) PySem.F.entry_str_split (PySem.F.args_str_split_2 _ _) (meets_str_split_cannot_occur _ _ t u J) (lK (l:=[(S i,t)]) R (W0 J).symm h2 h3 q fin)
def OW (p:Nat)(H:Hp)(a b:V)(k:V->Prop):Prop:=fk p H a λl=>isQ Xg b λm=>l.length+m.length<=16777216/\k (.lst (l++m))
theorem Cp{a b:V}{x y:Xj}{k:V->Prop}(R:Rel G c g σ s) (ha:VR G g a x) (Z:VR G g b y) (h:OW p σ.H a b k)
  (fin:∀g' v x s',g.le g'->VR G g' v x->Rel G c g' σ s'->k v->P x s'):XT G.M A (binaryOp .Add x y) P E s:=by
 obtain⟨l,vs,r,n,h1,h2,h3,-⟩:=fk.to R ha h;obtain⟨m,rfl,J,q⟩:=isQ.to h3;obtain⟨b,ws,U,rfl,e,K,-⟩:=Z.fY;have e2:=R.gk e;refine PySem.P.add_list (n:=n) (n2:=U) h1 e2 ?_ (by rw[XC,XC,<-h2.1,<-K.1];exact J);obtain⟨g',Y,R',O⟩:=lV (b:=Xg) (by rw[Xc];exact J) R (h2.append K);rw[List.append_toArray];exact fin _ _ _ _ Y O R' q
structure rk (G:cc) (ts:List Xj) (c:Nat):Prop where
 p1:plainGet G.K (G.cA c) "__class__"=Xg
 p2:hasDictIn G.K (G.cA c)=Xg
 p3:YU G.K (.ref (G.cA c)) "__class__"=W_ (W_ (.builtin "object.__class__"))
 p4:ZF G.K (.builtin "object.__class__") "__get__"=W_ (W_ (.builtin "getset_descriptor.__get__"))
 p5:takesIn G.K (.builtin "object.__class__")=W_ Xg
 p6:mroIn G.K (G.cA c) (.type "object")=W_ Xg
 e:kitAny G.K (.ref (G.cA c)) ts=W_ Xb
noncomputable def FF:aP->Option (List Xj)|[]=>W_ []|.cst v::l=>(FF l).map (Z7 v)|_=>Xk
def aay(ok:Nat->Bool)(v:V)(k:Bool->Prop):Prop:=match v with|.str _=>k Xg|.bytes _=>k Xg|.obj c _=>ok c=Xg/\k Xb|_=>False
def OO (ok:Nat->Bool):Hp->V->V->(V->Hp->Prop)->Prop:=λH v w k=>isQ Xb w λl=>FF l=W_ [.type "bytes",.type "str"] /\aay ok v λb=>k (.bool b) H
theorem zg:∀{l:aP}{vs:List Xj}{ts:List Xj},cF G g l vs->FF l=W_ ts->vs=ts:=by
 intro l;induction l with|nil=>intro vs ts h e;cases e;exact List.eq_nil_of_length_eq_zero h.1.symm|cons v l ih=>
  intro vs ts h e;induction vs using Xn with|nil=>cases h.1|cons x vs=>
   cases v with|cst y=>obtain⟨r,e2,rfl⟩:=X6.mp e;rw[(h.2 0 _ _ rfl rfl).jz,ih ⟨Yg h.1,λi x v a b=>h.2 (i+1) x v a b⟩ e2]|_=>exact gG e
theorem uL{ok:Nat->Bool}(O:∀c,ok c->rk G [.type "bytes",.type "str"] c):fg G (λvs=>call (.builtin "isinstance") vs) (OO ok):=by
 intro c g σ s A E P v w x y k hh R M V h fin;obtain⟨l,rfl,Y,h0⟩:=isQ.to h;clear h;obtain⟨a,vs,n,rfl,e,Z,-⟩:=V.fY;obtain rfl:=zg Z Y;have J:=R.gk e;cases v with
 |str i=>
  obtain⟨t,rfl,-⟩:=M.str_inv;exact kia_tup (b:=Xg) kitx_str R.K trivial J rfl (λe=>nomatch e) λtk=>fin _ _ _ _ _ .refl (.bool Xg) R.tok h0|bytes i=>
  obtain⟨t,rfl⟩:=M.g7;exact kia_tup (b:=Xg) kitx_bytes R.K trivial J rfl (λe=>nomatch e) λtk=>fin _ _ _ _ _ .refl (.bool Xg) R.tok h0|obj cl fs=>
  obtain⟨h0,h⟩:=h0;have K:=O _ h0;cases M with|obj _ _ b dx U od m vf h1 h2=>exact kia_tup (b:=Xb) (kitx_own (ox:=⟨.ref (G.cA cl),W_ dx,.plain,U⟩) (od:=od) K.p1 K.p2 K.p3 K.p4 K.p5 K.p6) R.K ⟨R.gk h1,rfl,rfl,R.gk h2⟩ J K.e (λe=>nomatch e) λtk=>fin _ _ _ _ _ .refl (.bool Xb) R.tok h
 |_=>exact h0.elim
variable{α:Type}{β:Type}
theorem vu{f:α->β}:∀(l:List α) (i:Nat),(l.eraseIdx i).map f=(l.map f).eraseIdx i|[],_=>rfl|_::_,0=>rfl|x::l,i+1=>WX (f x::·) (vu l i)
theorem cF.erase (h:cF G g l vs) (j:Nat):cF G g (l.eraseIdx j) (vs.eraseIdx j):=by
 refine⟨by rw[List.length_eraseIdx,List.length_eraseIdx,h.1],λi x v a b=>?_⟩;rw[List.getElem?_eraseIdx]at a b;by_cases q:i<j
 .rw[W0 q]at a b;exact h.2 i x v a b
 .rw[WZ q]at a b;exact h.2 _ x v a b
def UK (p:Nat) (H:Hp) (w:V) (k:V->Hp->Prop) (a:Addr) (l:aP):Prop:=eE w λx=>∃ns:List ax,(l=ns.map .str/\x∈ns)/\setC H p (a,.list ((ns.erase x).map .str)) (k .none)
def OG (p:Nat):Hp->V->V->(V->Hp->Prop)->Prop:=λH v w k=>eU p H v (UK p H w k)
noncomputable def Uz(x:ax):Xj->Bool|.str y _=>y.cps.toList==x|_=>Xb
theorem uD:fg G (λvs=>call (.builtin "list.remove") vs) (OG p):=by
 intro c g σ s A E P v w x y k _ R hv hw h fin;obtain⟨l,vs,a,n,hg,h1,h2,h3,V⟩:=eU.to R hv h;obtain⟨i,t,rfl,⟨ns,⟨rfl,hm⟩,q⟩,-⟩:=eE.run h3 hw;have U:ns.length=vs.length:=by have:=h2.1;rwa[Xl]at this
 have sx:=jI h2;have at_:∀j (J:j<vs.length),∃t,vs[j]=.str ⟨(ns[j]'(U▸J)).toArray⟩ t:=λj J=>by have Z:j<ns.length:=U▸J;obtain⟨t,e,-⟩:=(h2.2 j _ _ (by rw[X2,XD Z];rfl) (XD J)).str_inv;exact⟨t,e⟩
 have O:ns.idxOf i<ns.length:=List.idxOf_lt_length_of_mem hm;refine call_meets PySem.F.slot_list_remove ⟨_,h1,rfl⟩ PySem.F.entry_list_remove (PySem.F.args_list_remove_2 _ _) (MeetsSeq.list_remove a vs.toArray n _ (Uz i) (λy hy=>?_) (ns.idxOf i) (by rw[XC,<-U];exact O) ?_ (λm K M=>?_) (by rw[XC,<-U];rw[Xl]at V;exact V)) ⟨h1,?_⟩
 .obtain⟨j,J,rfl⟩:=List.mem_iff_getElem.mp (Array.mem_toList_iff.mpr hy);obtain⟨u,e⟩:=at_ j J;rw[e];exact SeqRoads2.EqGives.str _ _ _ _
 .rw[List.getElem_toArray];obtain⟨u,e⟩:=at_ _ (U▸O);rw[e];show(ns[ns.idxOf i] ==i);rw[List.getElem_idxOf,WY]
 .rw[List.getElem_toArray];rw[XC]at K;obtain⟨u,e⟩:=at_ m K;rw[e];show(ns[m] ==i)=Xb;exact List.not_of_lt_findIdx M
 .have e:=IsL.update h1 λxs=>xs.eraseIdxIfInBounds (ns.idxOf i);rw[List.eraseIdxIfInBounds_toArray]at e;have Y:cF G g ((ns.erase i).map .str) (vs.eraseIdx (ns.idxOf i)):=by rw[List.erase_eq_eraseIdx_of_idxOf rfl,vu];exact h2.erase _
  exact fin _ _ _ _ _ .refl .none (R.uj (t:=s.toks) hg (λb q=>lG q) e Y (by rw[Xl]at V⊢;exact Xa (List.length_erase_le ..) V)) (cM q)
theorem l0:typeLookup (.type "list") "keys"=pure Xk:=by rw[typeLookup_type,builtinLookup_eq_fast];kernel_rfl
theorem h_ {prog:Program}{w:ZJ}{E:Xj->XB->Prop}{s:XB}{a:Addr}{o:Obj}{xs:Array Xj}{k:Nat}{name:Str}{Q:Option Xj->XB->Prop}(Y:s.heap.get? a=W_ o) (Z:o.cls=.type "list") (J:o.data=.seq xs k) (hd:o.dict=Xk) (M:typeLookup (.type "list") name=pure Xk) (K:(["__module__","__name__","__qualname__","__doc__","__annotations__"]:List Str).contains name=Xb) (hA:A.handled=Xk)
  (h:∀h' tk,(∀b o,s.heap.get? b=W_ o->h'.get? b=W_ o)->Q Xk {s with heap:=h',toks:=tk}) (V:name.length+100<=sizeLine):
  XT (model prog w) A (getAttr? (.ref a) name) Q E s:=by
 obtain⟨hp,g,d,tk,os⟩:=s
 obtain⟨cls,dd,data,sl⟩:=o;simp only at Z J hd;subst Z J hd;have hT:∀O,(⟨hp,g,d,O,os⟩:XB).TypeIs (.ref a) "list" :=λW=>⟨_,Y,rfl⟩;have f1:=sub_AttributeError;have f3:=ZY.lookup;have f4:=ZY.bind (.ref a);have f5:=am_list_getattr_none;unfold getAttr? getAttrBy? getAttrBy
 repeat (any_goals (first|assumption|exact hT _|((with_reducible show XT _ _ (call (Z2 "list.__getattribute__") _ _) _ _ _);refine call_meets ZY (hT _) am_entry_list_getattribute (PySem.F.args_list_getattribute_2 _ _) (meets_getattribute_miss_list a xs k sl name _ M K V) ⟨Y,hA,λh' O e U=>?_⟩)|wp_step))
 obtain⟨t',u',he⟩:=U.there;show XT _ _ (getattributeRaised _ _ _ _ _ _ _) _ _ _;unfold getattributeRaised
 repeat (any_goals (first|assumption|wp_step))
 exact h _ _ U.keeps
theorem dA:plainId "dict.update.loop" :=by decide+kernel
theorem hO:entryFor table "dict.update.loop"=W_ Yy.«dict.update.loop»:=entryFor_of_fast (by kernel_rfl)
def pairAt(h:Heap)(x:Xj)(k:Str)(v:Xj):Prop:= ∃t n tk,x=.ref t/\h.get? t=W_ ⟨.type "tuple",Xk,.seq #[.str k tk,v] n,#[]⟩
theorem o7:∀(l acc:List (Str×Xj)),(merged acc l).length<=acc.length+l.length:=by
 intro l;induction l with
 |nil=>
  intro acc;exact Xh _|cons x l ih=>
  intro acc;have:=ih (stored acc x.1 x.2);have e:=stored_length_le acc x.1 x.2;show(merged (stored acc x.1 x.2) l).length<=_;exact Xa this (Xa (Xw e _) (X4 (YG _ 1 _)))
theorem sj{h₀:Heap}{g₀:Array GenState}{o₀:Y2}{d a:Addr}{J:Array Xj}{kvs:List (Str×Xj)}{R:Result->XB->Prop}(hh:A.handled=Xk) (hI:a≠I) (hd:d≠I) (hda:d≠a) (hd0:h₀.objs.size<=d) (Y:h₀.objs.size<=I)
  (W:Walks G.prog G.w A.in1 I [I,a] [I] J.size (λi v=>J[i]?=W_ v) (λi h=>h.IsListIter I a i/\h.IsList a J)) (hsz:J.size<=16777216) (hn:J.size=kvs.length) (hp:∀i (hi:i<J.size) k v,kvs[i]?=W_ (k,v)->pairAt h₀ J[i] k v)
  (hR:∀s:XB,(s.gens=g₀/\s.os=o₀)->(∀b o,h₀.get? b=W_ o->s.heap.get? b=W_ o)->s.heap.DictOf (YC G.prog G.w) d (merged [] kvs)->R (.ok (.ret .none)) s):
  ∀(m i:Nat) (s:XB),i+m=J.size->(s.gens=g₀/\s.os=o₀)->(∀b o,h₀.get? b=W_ o->s.heap.get? b=W_ o)->s.heap.DictOf (YC G.prog G.w) d (merged [] (kvs.take i))->(s.heap.IsListIter I a i/\s.heap.IsList a J)->
   Zr G.M A (.builtin "dict.update.loop" ⟨[.ref d,.ref I,rawInt i,.none],[]⟩) R s:=by
 intro m;induction m with|zero=>
  intro i s hi hg keep Z st;refine codeAny_builtin hO ?_;rw[Za.under_plainId dA _];have hi:i=J.size:=hi;subst hi;refine Xe (W.done _ _ _ st λh' tk kk=>?_);refine Xe (Xo (Xo ?_));rw[hn,Z3]at Z;exact hR _ hg (λb o z=>kk b o (λq=>W5 (Yb z) (by rw[Xs.mp q];exact Y4.mpr Y)) (keep b o z)) (DictOf.at Z λo e=>kk d o (λq=>hd (Xs.mp q)) e)|succ m ih=>
  intro i s hi hg keep Z st;refine codeAny_builtin hO ?_;rw[Za.under_plainId dA _];refine Xe (W.item i _ _ _ (Uc hi) st λv h' tk hv U kk=>?_);have O:i<J.size:=Uc hi;have hv':v=J[i]:=XG (hv.symm.trans (Y1 O));have hk:i<kvs.length:=hn▸O;obtain⟨t,n,tk',e,ht⟩:=hp i O kvs[i].1 kvs[i].2 (XD hk);rw[<-hv']at e;subst e;have K:∀b o,h₀.get? b=W_ o->h'.get? b=W_ o:=λb o z=>kk b o (λq=>W5 (Yb z) (by rw[Xs.mp q];exact Y4.mpr Y)) (keep b o z);have V:=K _ _ ht;have hD':h'.DictOf (YC G.prog G.w) d (merged [] (kvs.take i)):=DictOf.at Z λo e=>kk d o (λq=>hd (Xs.mp q)) e;dsimp only;refine Xe (X8 (Xe (wpAny_tryCatch ?_)));unfold Yy.Dict.pairItems;refine Xe (wpAny_typeOf (T:="tuple") ⟨_,V,rfl⟩ ?_);rw[W0 (by decide)];refine Xe (wpAny_seqItems V rfl (Xo ?_));refine X8 (wpAny_dictSet_pairs (Z1 _ _ _ _) hD' (λh2 hD2 sb=>?_) ?_)
  .have e1:merged [] (kvs.take (i+1))=stored (merged [] (kvs.take i)) kvs[i].1 kvs[i].2:=merged_take_succ [] kvs i _ (XD hk);refine Xo ⟨plainId_quiet dA _,?_⟩
   have hc:((i:Int)+1)=((i+1:Nat):Int):=by push_cast;rfl
   rw[hc]
   have k2:∀b o,b≠d->h'.get? b=W_ o->h2.get? b=W_ o:=λb o q z=>(sb.2 b q).trans z
   refine ih (i+1) _ (Sf hi) hg (λb o z=>k2 b o (λq=>W5 (Yb z) (by rw[q];exact Y4.mpr hd0)) (K b o z)) (e1▸hD2) ⟨U.1.at λo e=>k2 I o (Zb hd) e,U.2.at λo e=>k2 a o (Zb hda) e⟩
  .have:(merged [] (kvs.take i)).length<=i:=by
    have e2:=o7 (kvs.take i) []
    rw[Z5,Yh,X7]at e2;exact Xa e2 (Nat.min_le_left ..)
   rw[sizeLine_eq];exact Xa this (Xa (Yv O) hsz)
def prs (ps:List (ax×V)):aP:=ps.map λx=>.tup [.str x.1,x.2]
def OS (q:Nat):Hp->V->(V->Hp->Prop)->Prop:=λH v k=>isQ Xg v λl=>∃ps:List (ax×V),(l=prs ps/\(ps.map (λW=>W.1)).Nodup)/\ ∀d,jW H q (d,.aU ps) (k (.ref d))
theorem rO{f:α->β}(K:∀a b,f a=f b->a=b):∀{l:List α},l.Nodup->(l.map f).Nodup:=by
 intro l;induction l with|nil=>exact λW=>.nil|cons x l ih=>intro h;obtain⟨h1,h2⟩:=X5.mp h;refine X5.mpr ⟨λm=>?_,ih h2⟩;obtain⟨y,J,e⟩:=Yi.mp m;exact h1 (K _ _ e▸J)
theorem zY (gk:∀a o,g a=W_ o->s.heap.get? a=W_ o):∀{ps:List (ax×V)}{vs:List Xj},cF G g (prs ps) vs-> ∃kvs,kvs.length=vs.length/\KR G g (λk=>(⟨k.toArray⟩:Str)) ps kvs/\ ∀i (hi:i<vs.length) k v,kvs[i]?=W_ (k,v)->pairAt s.heap vs[i] k v:=by
 intro ps;induction ps with
 |nil=>
  intro vs h;induction vs using Xn with
  |nil=>exact⟨[],rfl,⟨rfl,rfl,λi x v e=>nomatch e⟩,λi hi=>W5 hi (YE _)⟩|cons=>cases h.1
 |cons p ps ih=>
  intro vs h;induction vs using Xn with|nil=>cases h.1|cons x vs=>
   obtain⟨kvs,e,J,K⟩:=ih (vs:=vs) ⟨Yg h.1,λi x v a b=>h.2 (i+1) x v a b⟩;obtain⟨a,ws,n,rfl,O,M,-⟩:=(h.2 0 _ _ rfl rfl).fY;obtain⟨u,v,rfl,h1,h2⟩:=M.two;obtain⟨t,rfl,-⟩:=h1.str_inv;refine⟨(⟨p.1.toArray⟩,v)::kvs,WX (λW=>W+1) e,⟨?_,.cons h2 J.2⟩,λi hi k v e=>?_⟩
   .show _::_=_::_;rw[J.1]
   .induction i using XN with|zero=>cases e;exact⟨a,n,t,rfl,gk _ _ O⟩|succ i=>exact K i (Nat.lt_of_succ_lt_succ hi) k v e
theorem uQ {q:Nat}:bL G (λvs=>call (.type "dict") vs) (OS q):=by
 intro c g σ s A E P v x k hh R hv h fin;obtain⟨l,rfl,ps,⟨rfl,V⟩,hq⟩:=isQ.to h;obtain⟨o,vs,n,rfl,hg,hl,hz⟩:=hv.fY;have U:=R.gk hg;obtain⟨kvs,M,Y,hp⟩:=zY (s:=s) (λC C e=>R.gk e) hl;have K:(s.heap.push {cls:=.type "dict",data:=.dict #[]}).get? o=W_ _:=XA _ U;refine callType_codes (Q₁:=λobj s₁=>obj=.ref s.heap.objs.size/\s₁= {s with heap:=s.heap.push {cls:=.type "dict",data:=.dict #[]}}) PySem.F.kt_called_dict (PySem.F.kt_typeCall_dict_1 _) PySem.F.entry_dict_init (kt_code_dict_new _ ⟨rfl,rfl⟩) ?_;rintro obj s₁ ⟨rfl,rfl⟩;have J:(s.heap.push {cls:=.type "dict",data:=.dict #[]}).DictOf (YC G.prog G.w) s.heap.objs.size []:=Z0 s.heap;refine⟨J.typeIs,PySem.F.args_dict_init_2 _ _,?_⟩;unfold Yy.«dict.__init__»;refine Xe ?_;unfold Yy.Dict.selfAndRest;refine Xe (wpAny_notOrdered_dict J.typeIs ?_);show XT _ _ (pure (s.heap.objs.size,[YV o])) _ _ _;refine Xo ?_;show XT _ _ (Yy.Dict.updateFrom "dict.__init__" s.heap.objs.size (.ref o) [] .none) _ _ _;unfold Yy.Dict.updateFrom;refine Xe (wpAny_typeOf (T:="list") ⟨_,K,rfl⟩ ?_);rw[W0 (by decide)];refine Xe (h_ K rfl rfl rfl l0 (by decide+kernel) hh (λh' tk keep=>?_) (by decide+kernel));have s1:(s.heap.push {cls:=.type "dict",data:=.dict #[]}).objs.size=s.heap.objs.size+1:=Heap.size_push ..;have O:h'.get? o=W_ _:=keep _ _ K;have Z:h'.DictOf (YC G.prog G.w) s.heap.objs.size []:=DictOf.at J λo e=>keep _ _ e;have sz:s.heap.objs.size+1<=h'.objs.size:=by obtain⟨ob,_,_,e,_⟩:=Z;exact Yb e
 have lt_o:=Yb U;have n1:=Zu (YX lt_o (YQ sz));have k0:∀b ob,s.heap.get? b=W_ ob->h'.get? b=W_ ob:=λb ob e=>keep b ob (XA _ e);have O:=k0 _ _ U;have hL:h'.IsList o vs.toArray:=⟨_,O,rfl,n,rfl⟩;refine Xe (wpAny_rule (Xe (wpAny_pyIter_list ⟨_,O,rfl,n,rfl⟩ (Xo ⟨plainId_quiet dA _,?_⟩))));have up:∀ob b o',h'.get? b=W_ o'->(h'.push ob).get? b=W_ o':=λob b o' e=>XA _ e;have W:=Walks.list (prog:=G.prog) (w:=G.w) (A:=A.in1.in1) hh h'.objs.size o n1 vs.toArray;refine sj (G:=G) (A:=A.in1) (kvs:=kvs) (h₀:=s.heap) (g₀:=s.gens) (o₀:=s.os) hh n1 (Zu sz) (YF lt_o) (Xh _) (YQ sz) W (by rw[XC,<-hl.1];exact hz) (by rw[XC,M]) (λi hi k v e=>?_) (λs' e' k' hD=>?_) vs.toArray.size 0 _ (X7 _) ?_ ?_ ?_ ?_
 .rw[List.getElem_toArray];exact hp i _ k v e
 .have nd:(kvs.map (λd=>d.1)).Nodup:=by
   rw[Y.1];have:(ps.map λx=>(⟨x.1.toArray⟩:Str))=(ps.map (λd=>d.1)).map S:=by rw[Yn];rfl
   rw[this];exact rO str_inj V
  rw[merged_nil_of_nodup _ nd]at hD;refine⟨rfl,fin g (.ref _) _ (cX σ.H q (s.heap.objs.size,.aU ps)) s' .refl (.ref _) ?_ (f_ (hq _))⟩;induction R with|mk role Lc R l=>obtain⟨ob,es,ep,e,e2⟩:=hD;have R':=(R.keep (s':=s') e'.1 e'.2 λb o C z=>k' b o z).own (a:=s.heap.objs.size) (mo:=.aU ps) (eG R (Xh _)) ⟨ob,e⟩ ⟨kvs,⟨ob,es,ep,e,e2⟩,Y⟩;exact⟨_,Lc,R'.perm (dF.symm.append_right _),l⟩
 .exact⟨rfl,rfl⟩
 .exact λb ob e=>up _ _ _ (k0 b ob e)
 .exact DictOf.at Z λo e=>up _ _ _ e
 .exact⟨⟨_,X0 _ rfl,rfl,rfl⟩,hL.push _⟩
noncomputable def s8 (env:Env):List (Str×YR)->List (Str×Addr)->List (Str×Addr)|[],acc=>acc|(n,k)::r,acc=>s8 env r (if k== .free then(n,(env.cells.lookup n).getD 0)::acc else acc)
variable{env:Env}{sc:Scope}
theorem ID (h:∀y∈sc.names,y.2=.free-> ∃J,env.cells.lookup y.1=W_ J):closureFor sc env=pure (s8 env sc.names []):=by
 have:∀(l:List (Str×YR)) (acc:List (Str×Addr)),(∀y∈l,y.2=.free-> ∃J,env.cells.lookup y.1=W_ J)->
   (forIn l acc λ(x:Str×YR) (r:List (Str×Addr))=>(if(x.2==Y8)=Xg then do let a<-cellOf env x.1;pure (ForInStep.yield ((x.1,a)::r))else pure (ForInStep.yield r):Sem (ForInStep (List (Str×Addr)))))=pure (s8 env l acc):=by
  intro l;induction l with|nil=>intro acc _;rfl|cons y l ih=>
   intro acc h;obtain⟨n,k⟩:=y;rw[List.forIn_cons];generalize hk:(k==Y8)=K;induction K with|false=>
    rw[WZ Xy,pure_bind];dsimp only;rw[ih acc λy m=>h y (.tail _ m)];show _=pure (s8 env l (if(k==Y8)=Xg then _ else acc));rw[hk,WZ Xy]|true=>
    obtain⟨J,e⟩:=h (n,k) (.head _) (W8.mp hk);have M:cellOf env n=pure J:=by unfold cellOf;rw[show env.cells.lookup n=W_ J from e]
    rw[W0 rfl]
    dsimp only at e⊢
    rw[M,pure_bind,pure_bind];dsimp only;rw[ih _ λy m=>h y (.tail _ m)];show _=pure (s8 env l (if(k==Y8)=Xg then _ else acc));rw[hk,W0 rfl,e];rfl
 have z:=this sc.names [] h;exact(WX (λt:Sem (List (Str×Addr))=>t>>=λr=>pure r) z).trans (pure_bind _ _)
variable{y:Str}
theorem xX{K:Addr}(e:env.cells.lookup y=W_ K):∀(l:List (Str×YR))(acc:List (Str×Addr)),(acc.lookup y=W_ K\/ (y,Y8)∈l)->(∀z,(acc.lookup y=W_ z->z=K))->(s8 env l acc).lookup y=W_ K:=by
 intro l;induction l with|nil=>intro acc h _;exact h.elim id λm=>(nomatch m)|cons x l ih=>
  intro acc h M;obtain⟨n,k⟩:=x;show(s8 env l (if(k==Y8)=Xg then _ else acc)).lookup y=_;split
  .rename_i hk;by_cases q:y=n
   .subst q;refine ih _ (.inl ?_) λz J=>?_
    .rw[Yo,WY,e];rfl
    .rw[Yo,WY,e]at J;exact(XG J).symm
   .have e2:∀b:Addr,((n,b)::acc).lookup y=acc.lookup y:=λb=>by rw[Yo,W9.mpr q]
    refine ih _ ?_ λz J=>M z (by rw[e2]at J;exact J);rw[e2];rcases h with h|h
    .exact .inl h
    .rcases Xv.mp h with h|h
     .exact W5 (WX Prod.fst h) q
     .exact .inr h
  .rename_i hk;refine ih _ ?_ M;rcases h with h|h
   .exact .inl h
   .rcases Xv.mp h with h|h
    .exact W5 (by cases h;rfl) hk
    .exact .inr h
def nY (c:Cx)(C:Addr)(sc:Scope)(nm:List Str)(Lc cp:Hp):Cx:={env:=compEnvC sc (s8 c.env sc.names []) C c.env,A:=c.A,nm:=nm,F:=Lc++c.F,n:=c.n,hd:=c.hd,cs:=[],top:=Xb,jm:=cp}
inductive adD(c:Cx)(sc:Scope)(i:Nat):Prop|mk(y:_)(h1:c.nm[i]?=W_ y)(h2:y∈c.cs)(h3:(y,Y8)∈sc.names)(h4:c.env.kindOf y=W_ .cell)(h5:(relabel sc c.env).names.lookup y=W_ .cell)
structure iI (c:Cx)(sc:Scope)(x:Str)(cz:ax):Prop where
 kind:sc.kind=.function
 cell:∀y∈sc.names,y.2≠.cell
 nam:∀y∈sc.names,y.2=.local->sc.names.lookup y.1=W_ .local
 free:∀y∈sc.names,y.2=.free->y.1∈c.cs
 vx:sc.names.lookup x=W_ .local
 jm:∀i∈cz,adD c sc i
 nd:(x::cz.filterMap (c.nm[·]?)).Nodup
 Ec:(x==("__debug__":Str))=Xb/\(x==("__classdict__":Str))=Xb
def mx(r:List bG)(cz:ax):List bG:=cz.map λi=>match aF r i with|some v=>v|none=>Xk
def lcE (acc:aP)(R:aP->St->Prop)(w:V)(σ:St):Prop:=acc.length<16777216/\R (acc++[w]) σ
def WB (B:TF)(acc:aP)(R:aP->St->Prop)(b:V)(σ:St):Prop:=iU b λz=>match z with|true=>B σ (lcE acc R)|false=>R acc σ
noncomputable def ou(T B:TF):aP->aP->St->(aP->Hp->Prop)->Prop|[],acc,⟨H,_⟩,k=>k acc H|v::l,acc,⟨H,r⟩,k=>setC r 0 (W_ v) λr=>T ⟨H,r⟩ (WB B acc λacc σ=>ou T B l acc σ k)
noncomputable abbrev AZ (c:Cx)(ifs:List Xd):Sem Bool:=forIn ifs Xg λe r=>if r=Xg then do let ok<-isTrue e c.env (eval e c.env);pure (ForInStep.yield ok)else pure (ForInStep.yield r)
abbrev iX:di->St->Prop:=λW W=>False
theorem AY (q:Q (.bool Xg) σ):Ev G c (TW G c) (AZ c []) σ Q X:=λg s R=>wpAny_tests_nil ⟨g,σ,.refl,R,q⟩
theorem AX{e:Xd}(h:oA G c e σ Q X):Ev G c (TW G c) (AZ c [e]) σ Q X:=λg s R=>wpAny_tests_one (h g s R)
variable{C:Addr}{cz:ax}
theorem bg.comp{x:Str}{o:Obj}{m:Str->Option Xj}{cs:Hp}(O:bg c) (D:iI c sc x cz) (n:jA o m):
  bg (nY c C sc (x::cz.filterMap (c.nm[·]?)) ((c.env.locals,.fc o)::cs) (cs++c.jm)):=by
 obtain⟨l,M,K,-⟩:=O.fr;refine⟨⟨l,M,λe J=>?_,λz=>(nomatch z)⟩,O.room,λy hy=>?_,λz=>W5 rfl z,D.kind,O.glob,O.blt,D.nd,λy hy=>?_⟩
 .obtain⟨a1,L,a2,a3⟩:=K e J;refine⟨a1,L,a2,.inr ?_⟩;rcases a3 with rfl|⟨o',m',d⟩
  .obtain⟨es,V,U,-⟩:=n;exact⟨o,.head _,λvs z=>by rw[U]at z;cases z⟩
  .exact⟨o',Xx _ m',d⟩
 .show y∈((c.env.locals,MO.fc o)::cs)++c.F;rcases Yk.mp hy with z|z
  .exact X9 _ (.tail _ z)
  .exact Xx _ (O.jm _ z)
 .rcases Xv.mp hy with rfl|hy
  .exact D.Ec
  .obtain⟨i,-,e⟩:=List.mem_filterMap.mp hy;exact O.Ec y (Yq e)
inductive SJ (G:cc)(c:Cx)(g:bQ)(σ:St)(s:XB)(it D:Addr)(o:Obj)(acc:aP)(w:V)(xv:Xj)(I:Heap->Prop):Prop|mk (vs:List Xj)(h1:s.heap.PlainList D (YL vs))(h2:vs.length<=16777216)(h3:∀h',h'.PlainList D ((YL vs).push xv)->Heap.SameBut D s.heap h'->Rel G (aV c ((D,.list (acc++[w]))::(it,.raw o)::c.F)) g σ {s with heap:=h'} /\I h')
variable{it:Addr}{D:Addr}{n:Nat}{g₀:bQ}{acc:aP}
theorem G8{i:Nat}{PP:Nat->Xj->Prop}{Stt:Nat->Heap->Prop}{o:Obj}{w:V}{K:Xj}(Wk:Walks G.prog G.w c.A it fp [it] n PP Stt)(J:∀b∈fp,b=it\/ (∃o,g₀ b=W_ o) \/ ∃o,(b,MO.raw o)∈c.F)
  (k0:g₀.le g)(R:Rel G (aV c ((D,.list acc)::(it,.raw o)::c.F)) g σ s)(st:Stt i s.heap)(Z:VR G g w K)(Y:acc.length<16777216):SJ G c g σ s it D o acc w K (Stt i):=by
 obtain⟨role,Lc,R1,lc⟩:=id R;have R2:=R1.perm cV;obtain⟨U,vs,m,e1,e2,O⟩:=R2.hk _ (.head _);have nd:=(X5.mp R2.nd).1;refine⟨vs,⟨m,e1⟩,O.1▸e2,λh' e M=>?_⟩;obtain⟨m',e⟩:=e;rw[List.push_toArray]at e;refine⟨R.GP (λb q o z=>(M.2 b q).trans z) e λW W=>⟨_,m',e,by rw[Xc];exact Y,O.append (.cons Z .nil)⟩,Wk.frame _ _ _ st λb hb ob e=>(M.2 b λz=>?_).trans e⟩;subst z;rcases J b hb with z|⟨o₁,z⟩|⟨o₁,z⟩
 .exact nd (mem_keys (Xx _ (Xx _ (.head _))) z.symm)
 .exact W5 ((R2.gk _ _ (k0 _ _ z)).2.symm.trans U) Role.noConfusion
 .exact nd (mem_keys (Xx _ (Xx _ (.tail _ z))) rfl)
inductive ILc (G:cc)(c:Cx)(T B:TF)(k:aP->Hp->Prop)(Stt:Nat->Heap->Prop)(it D:Addr)(l:aP)(g₀:bQ)(m:Nat)(s:XB):Prop|mk (i g σ acc o:_)(e:m=l.length+1-i)(hi:i<=l.length)(k0:g₀.le g)(R:Rel G (aV c ((D,.list acc)::(it,.raw o)::c.F)) g σ s)(st:Stt i s.heap)(h:ou T B (l.drop i) acc σ k)
variable{elt:Xd}{iter:Xd}{ifs:List Xd}{px:Pos}{pos:Pos}{B:TF}
theorem Ar{x:Str}{PP:Nat->Xj->Prop}{Stt:Nat->Heap->Prop}{T:TF}{k:aP->Hp->Prop}{R:Result->XB->Prop}(O:bg c) (hd:c.hd)
  (hx:c.nm[0]?=W_ x) (hk:c.env.kindOf x=W_ .local) (Wk:Walks G.prog G.w c.A it fp [it] n PP Stt) (hI:∀i h,Stt i h->sO h it) (K:∀b∈fp,b=it\/ (∃o,g₀ b=W_ o) \/ ∃o,(b,MO.raw o)∈c.F) (hPP:∀i v,PP i v-> ∃y,l[i]?=W_ y/\VR G g₀ y v) (hn:n=l.length)
  (hT:∀F,(∀x∈c.F,x∈F)-> ∀σ k,T σ k->Ev G (aV c F) (TW G (aV c F)) (AZ (aV c F) ifs) σ k iX) (hB:∀F,(∀x∈c.F,x∈F)-> ∀σ k,B σ k->bK G (aV c F) elt σ k iX)
  (hR:∀g acc H r s,g₀.le g->Rel G (aV c ((D,.list acc)::c.F)) g ⟨H,r⟩ s->k acc H->R (.ok .next) s){o:Obj}{σ:St}(R0:Rel G (aV c ((D,.list [])::(it,.raw o)::c.F)) g₀ σ s) (st:Stt 0 s.heap) (h:ou T B l [] σ k):
  Zr G.M c.A (.compLoop (.ListComp elt [⟨.Name x px,iter,ifs,0⟩] sc pos) 0 (.ref it) (.ref D) c.env) R s:=by
 subst hn;refine codeAny_compLoop_tests (ILc G c T B k Stt it D l g₀) ?_ (l.length+1) ⟨0,g₀,σ,[],o,rfl,Ye _,.refl,R0,st,h⟩;clear R0 st h;rintro m s ⟨i,g,σ,acc,o,rfl,hi,k0,R0,st,h⟩;by_cases J:i<l.length
 .refine Wk.item i s _ _ J st λv h' tk hP Y kk=>?_;obtain⟨y,hy,hv⟩:=hPP i v hP;obtain⟨o',T',Z,-⟩:=hI _ _ Y;obtain⟨h1,h2⟩:=XK.mp hy;rw[List.drop_eq_getElem_cons h1,h2]at h;have R1:=(R0.mX.GP (h:=h') (t:=tk) (mo':=.raw o') (λb q o z=>kk b o (λm=>q (Xs.mp m)) z) Z λW W=>Z).mX;have U:∀z∈c.F,z∈(D,MO.list acc)::(it,.raw o')::c.F:=λz m=>.tail _ (.tail _ m);have hi:∃o,(it,MO.raw o)∈(D,MO.list acc)::(it,.raw o')::c.F:=⟨o',.tail _ (.head _)⟩;refine Z8 (fX (c:=aV c ((D,.list acc)::(it,.raw o')::c.F)) (O.aV U) hx (.inl hk) R1 (hv.mono k0) λs2 R2=>?_);have st2:=gU Wk K U hi k0 .refl R1 R2 Y;refine XY (hT _ U _ _ (cM h) g s2 R2) (λb s3 z=>?_) λe s' z=>(by induction z with|mk _ _ _ _ _ _ _ _ _ _ q=>exact q.elim);obtain⟨g3,σ3,k3,R3,q⟩:=z;have V:=gU Wk K U hi k0 k3 R2 R3 st2;induction b with|false=>exact⟨_,sbl J,i+1,g3,σ3,acc,o',rfl,J,k0.trans k3,R3,V,q⟩|true=>refine XY (hB _ U _ _ q g3 s3 R3) (λxv s4 z=>?_) λe s' z=>(by induction z with|mk _ _ _ _ _ _ _ _ _ _ q=>exact q.elim);obtain⟨g4,w,σ4,k4,hw,R4,q⟩:=z;have k5:=(k0.trans k3).trans k4;obtain⟨vs,e1,e2,f⟩:=G8 Wk K k5 R4 (gU Wk K U hi (k0.trans k3) k4 R3 R4 V) hw q.1;exact wpAny_list_append_plain e1 (λh5 e sb=>⟨_,sbl J,i+1,g4,σ4,acc++[w],o',rfl,J,k5,(f h5 e sb).1,(f h5 e sb).2,q.2⟩) e2
 .obtain rfl:i=l.length:=Nat.le_antisymm hi (Y4.mp J);refine Wk.done s _ _ st λh' tk kk=>?_;rw[List.drop_length]at h;refine hR g acc σ.H σ.r _ k0 ?_ h;obtain⟨role,Lc,R,lc⟩:=R0.mX;exact⟨_,Lc,(R.perm cV).free.keep (s':={s with heap:=h',toks:=tk}) rfl rfl λb o' q z=>kk b o' (λm=>q (by rw[Xs.mp m];exact bS)) z,lc⟩
inductive adE (r:List bG)(cz:ax)(i:Nat)(v:V):Prop|mk (j k)(h0:i=j+1)(h1:cz[j]?=W_ k)(h2:aF r k=W_ (W_ v))
theorem x_{r:List bG}{i:Nat}{v:V}(h:aF (Xk::mx r cz) i=W_ (W_ v)):adE r cz i v:=by
 induction i using XN with|zero=>cases h|succ j=>have h:aF (mx r cz) j=W_ (W_ v):=h;rw[bf]at h;unfold mx at h;rw[X2]at h;obtain⟨k,K,e2⟩:=X6.mp h;refine⟨j,k,rfl,K,?_⟩;generalize e:aF r k=J;induction J with|none=>rw[e]at e2;exact gG e2|some w=>rw[e]at e2;exact WX W_ e2
theorem wJ{f:α->Option β}:∀{l:List α}{j:Nat}{a:α}{b:β},(∀x∈l,(f x).isSome)->l[j]?=W_ a->f a=W_ b->(l.filterMap f)[j]?=W_ b:=by
 intro l;induction l with|nil=>intro j a b _ e;exact gG e|cons x l ih=>intro j a b h e J;obtain⟨y,K⟩:=Y3.mp (h x (.head _));rw[List.filterMap_cons_some K];induction j using XN with|zero=>cases e;rw[K]at J;exact J|succ j=>exact ih (λz m=>h z (.tail _ m)) e J
abbrev SI (G:cc) (c:Cx) (sc:Scope) (x:Str) (cz:ax) (ifs:List Xd) (elt:Xd) (T B:TF):Prop:=
 ∀C o m cs,jA o m->let c':=nY c C sc (x::cz.filterMap (c.nm[·]?)) ((c.env.locals,.fc o)::cs) (cs++c.jm)
  (∀F,(∀x∈c'.F,x∈F)-> ∀σ k,T σ k->Ev G (aV c' F) (TW G (aV c' F)) (AZ (aV c' F) ifs) σ k iX)/\ ∀F,(∀x∈c'.F,x∈F)-> ∀σ k,B σ k->bK G (aV c' F) elt σ k iX
theorem Ni{a b d:Addr×MO}{R:Hp}:(a::b::d::(H++R)).Perm (H++([a]++(b::d::R))):=
 show([a,b,d]++(H++R)).Perm (H++([a,b,d]++R)) by rw[<-Xf,<-Xf];exact Zf.append_right _
theorem Nh{a b:Addr×MO}{e L:Hp}:(H++((a::e)++(b::(L++F)))).Perm (e++(H++(L++(b::a::F)))):=by
 classical
 rw[List.perm_iff_count];intro x;simp only[List.count_append,List.count_cons,YK];ac_rfl
theorem G6 {x:Str}{J O o:Obj}{m0:Str->Option Xj}{h3:Heap}{tk:Nat}{cs:Hp}(H:iI c sc x cz) (R:RH G role g (σ.H++((c.env.locals,.fc o)::cs++c.F)) s) (lc:oa G c g ((c.env.locals,.fc o)::cs) σ.r)
  (kk:∀b o,s.heap.get? b=W_ o->h3.get? b=W_ o) (U:s.heap.objs.size<=I) (ltI:I<D) (K:D<C) (Z:h3.get? I=W_ O) (eD:h3.get? D=W_ {cls:=.type "list",data:=.seq ([]:List Xj).toArray}) (eC:h3.get? C=W_ J) (nC:jA J m0):
  Rel G (aV (nY c C sc (x::cz.filterMap (c.nm[·]?)) ((c.env.locals,.fc o)::cs) (cs++c.jm)) ((D,.list [])::(I,.raw O)::(((c.env.locals,.fc o)::cs)++c.F))) g ⟨σ.H,Xk::mx σ.r cz⟩ {s with heap:=h3,toks:=tk}:=by
 have f:=λ{b}(l:I<=b)=>eG R (Xa U l);have Ra:=(R.keep (s':={s with heap:=h3,toks:=tk}) rfl rfl λb o W z=>kk b o z).own (mo:=.raw O) (f (Xh _)) ⟨_,Z⟩ Z;have Rb:=Ra.own (mo:=.list []) ((aZ (YF ltI)).trans (f (Yv ltI))) ⟨_,eD⟩ ⟨[],_,eD,Ye _,.nil⟩;have M:=Nat.lt_trans ltI K;refine⟨_,[(C,.fc J)],(Rb.own (mo:=.fc J) ((aZ (YF K)).trans ((aZ (YF M)).trans (f (Yv M)))) ⟨_,eC⟩ ⟨J.slots,eC⟩).perm Ni,J,m0,[],rfl,nC,λW z=>(nomatch z),λi v e=>?_⟩;obtain⟨o',m',V,e',-,-,hV⟩:=lc;obtain rfl:V=cs:=(ZU e').2.symm;obtain⟨j,k,rfl,e1,e2⟩:=x_ e;obtain⟨y,val,h1,h2,h3⟩:=hV k v e2;obtain⟨Y,h4,h5,h6,h7,h8⟩:=H.jm k (Yq e1);obtain rfl:Y=y:=XG (h4.symm.trans h1);refine⟨Y,val,wJ (λz m=>by obtain⟨w,e,-⟩:=H.jm z m;rw[e];rfl) e1 h4,h2,.inr ?_⟩;rcases h3 with⟨a,-⟩|⟨ca,ob,k,l,m,d⟩
 .rw[h7]at a;cases a
 .exact⟨ca,ob,.inl h8,xX l _ _ (.inr h6) λW e=>(nomatch e),m,d⟩
theorem l6 {x:Str}{pp:Pos}{T:TF}{K:aP->St->Prop}{use:Option (Xj->Sem Unit)}(O:bg c) (hd:c.hd) (D:iI c sc x cz) (hs:∀x,YT iter c.env x=pure x)
  (hW:SI G c sc x cz ifs elt T B)
  (h:yx G c iter σ (λv σ1=>match v with|.sq _ l=>ou T B l [] ⟨σ1.H,Xk::mx σ1.r cz⟩ (λacc H=>K acc ⟨H,σ1.r⟩)|_=>False) X) (R:Rel G c g σ s)
  (fin:∀g' acc σ' C D o m s',g.le g'->jA o m->Rel G (aV c ((D,.list acc)::(C,.fc o)::c.F)) g' σ' s'->K acc σ'->compPost G.M c.A (XW G c g X) use P (.ref D) C (.ok .next) s'):
  XT G.M c.A (comprehension (.ListComp elt [⟨.Name x px,iter,ifs,0⟩] sc pos) sc c.env pp (newList []) Xb (eval iter c.env) use) P (XW G c g X) s:=by
 have hcl:closureFor sc c.env=pure (s8 c.env sc.names []):=by
  induction R with
  |mk role Lc R l=>
   induction l with
   |mk o m cs e n hc v=>exact ID λy hy q=>by obtain⟨ca,o,v,e,-⟩:=hc _ (D.free y hy q);exact⟨ca,e⟩
 refine wpAny_comprehension_free (use:=use) rfl hs hcl D.kind D.nam (XY (h g s R) (λxv s1 z=>?_) λW W z=>z);induction z with|mk g1 b l σ1 k1 R1 hi q=>
  refine hi _ _ λhh I fp PP Stt Wk st kk hI hsz hfp hPP=>?_;refine wpAny_newObj_type (wpAny_newFunctionEnv D.cell (λW z=>nomatch z) (λh3 hn Z=>?_) D.kind) (Ye _);dsimp only at hn Z⊢;obtain⟨oC,hC,nC⟩:=qp hn;obtain⟨oI,T',Y,-⟩:=hI _ _ st;generalize V:hh.push {cls:=.type "list",data:=.seq ([]:List Xj).toArray} =H2 at hn Z hC;have ltI:=Yb Y
  have J:H2.objs.size=hh.objs.size+1:=by rw[<-V,Heap.size_push]
  have k2:∀b o,hh.get? b=W_ o->h3.get? b=W_ o:=λb o e=>by
   have lt:=Yb e
   exact(Z.2 b (by rw[J];exact Zu (Nat.lt_succ_of_lt lt))).trans (XA _ (V▸XA _ e))
  have kD:h3.get? hh.objs.size=W_ {cls:=.type "list",data:=.seq ([]:List Xj).toArray}:=
   (Z.2 _ (by rw[J];exact Zu (Zv _))).trans (XA _ (V▸X0 _ rfl))
  have szC:hh.objs.size<H2.objs.size:=J▸Zv _;obtain⟨role,Lc,R1,lc⟩:=R1;obtain⟨o,m,cs,rfl,n,hc,hV⟩:=lc;have hr:=G6 (x:=x) (m0:=λW=>Xk) (tk:=s1.toks+([]:List (Str×Xj)).length) D R1 ⟨o,m,cs,rfl,n,hc,hV⟩ (λb o z=>k2 b o (kk b o z)) hsz ltI szC (k2 _ _ Y) kD hC nC;have go:Zr G.M c.A (.compLoop (.ListComp elt [⟨.Name x px,iter,ifs,0⟩] sc pos) 0 (.ref I) (.ref hh.objs.size) (compEnvC sc (s8 c.env sc.names []) H2.objs.size c.env)) (compPost G.M c.A (XW G c g X) use P (.ref hh.objs.size) H2.objs.size) {s1 with heap:=h3,toks:=s1.toks+([]:List (Str×Xj)).length}:=by
   refine Ar (c:=nY c H2.objs.size sc (x::cz.filterMap (c.nm[·]?)) ((c.env.locals,.fc o)::cs) (cs++c.jm)) (g₀:=g1) (k:=λacc H=>K acc ⟨H,σ1.r⟩) (O.comp D n) hd rfl (lookup_relabel_local D.vx) Wk hI (λb hb=>(hfp b hb).imp id (Or.imp id λ⟨o,z⟩=>⟨o,Xx _ z⟩)) hPP rfl (hW H2.objs.size o m cs n).1 (hW H2.objs.size o m cs n).2
    (λg2 acc H r s2 k3 R2 q2=>?_) hr (Wk.frame _ _ _ st λb W o e=>k2 b o e) q
   obtain⟨U,Lc2,R2,lc2⟩:=R2;obtain⟨o2,m2,cs2,rfl,n2,-,-⟩:=lc2;exact fin g2 acc ⟨H,σ1.r⟩ _ _ o2 m2 s2 (k1.trans k3) n2 ⟨U,(c.env.locals,.fc o)::cs,(R2.perm Nh).drop,o,m,cs,rfl,n,hc,hV.mono k3⟩ q2
  exact codeAny_compStart_list go (Wk.self 0 _ _ _ (Wk.frame _ _ _ st λb W o e=>k2 b o e) go)
theorem pd {g':bQ}{o:Obj}{h':Heap}(R:Rel G (aV c ((D,.list acc)::(C,.fc o)::c.F)) g' σ s)(J:Heap.SameBut C s.heap h'):Rel G (aV c ((D,.list acc)::c.F)) g' σ {s with heap:=h'}:=by induction R.mX with|mk role Lc R l=>exact⟨_,Lc,(R.perm cV).free.keep (s':={s with heap:=h'}) rfl rfl λb o q z=>(J.2 b λe=>q (by rw[e];exact bS)).trans z,l⟩
theorem vU{o:Obj}{m:Str->Option Xj}(n:jA o m) (R:Rel G (aV c ((D,.list acc)::(C,.fc o)::c.F)) g σ s):s.heap.Ns C m:=by
 induction R with|mk role Lc R l=>obtain⟨J,e⟩:=(R.hk (C,.fc o) (Xx _ (Xx _ (.tail _ (.head _))))).2;exact jA.at (o:={o with slots:=J}) n e
theorem Pw{x:Str}{T:TF}(O:bg c) (hd:c.hd) (D:iI c sc x cz) (hs:∀x,YT iter c.env x=pure x)
  (hW:SI G c sc x cz ifs elt T B)
  (h:yx G c iter σ (λv σ1=>match v with|.sq _ l=>ou T B l [] ⟨σ1.H,Xk::mx σ1.r cz⟩ (λacc H=>Q (.lst acc) ⟨H,σ1.r⟩)|_=>False) X):
  bK G c (.ListComp elt [⟨.Name x px,iter,ifs,0⟩] sc pos) σ Q X:=λg s R=>by
 rw[eval_ListComp];refine l6 (use:=Xk) (K:=λacc σ=>Q (.lst acc) σ) O hd D hs hW h R λg' acc σ' C D o m s' k n R' q=>?_;refine⟨m,vU n R',λh' e=>?_⟩;cases pd R' e with|mk role Lc R l=>obtain⟨role',M,k2,R2,J⟩:=(R.perm cV).mg;exact⟨M,_,σ',k.trans k2,J,⟨role',Lc,R2,l.mono k2⟩,q⟩
theorem pK.reV{nm J:List Str}{jm:Hp}{Lc:Hp}{r:List bG}{i:Nat}{a:Addr}{v:V}(l:pK G env nm J jm g Lc r)(e:aF r i=W_ (W_ (.ref a)))(h:VR G g v (.ref a)):pK G env nm J jm g Lc (setAt r i (W_ v)):=by
 induction l with|mk o m cs U n O M=>
  refine⟨o,m,cs,U,n,O,λj w K=>?_⟩;rcases oH K with⟨rfl,q⟩|⟨-,K⟩
  .obtain⟨x,val,h1,h2,h3⟩:=M i _ e;obtain rfl:=h2.dZ;obtain rfl:=XG q;exact⟨x,_,h1,h,h3⟩
  .exact M j w K
theorem set_set{x y:α}:∀(l:List α) (i:Nat),setAt (setAt l i x) i y=setAt l i y|[],_=>rfl|_::_,0=>rfl|z::l,i+1=>WX (z::·) (set_set l i)
theorem get_set{x:α}:∀{l:List α}{i:Nat},i<l.length->aF (setAt l i x) i=W_ x|[],_,h=>W5 h (YE _)|_::_,0,_=>rfl|_::l,i+1,h=>get_set (l:=l) (Nat.lt_of_succ_lt_succ h)
theorem HS{i:Nat}{J e:Pos}{x:Str}{T:TF}(O:bg c) (hd:c.hd) (D:iI c sc x cz) (hs:∀x,YT iter c.env x=pure x)
  (Y:c.nm[i]?=W_ y) (ho:ownName c y) (M:Y9 (.ListComp elt [⟨.Name x px,iter,ifs,0⟩] sc pos) (W_ (.Name y J)) e.line c.env=pure Xg) (hW:SI G c sc x cz ifs elt T B)
  (h:yx G c iter σ (λv σ1=>match v with|.sq _ l=>ou T B l [] ⟨σ1.H,Xk::mx σ1.r cz⟩ (λacc H=>i<σ1.r.length/\Q .none ⟨H,setAt σ1.r i (W_ (.lst acc))⟩)|_=>False) X):
  eY G c (.Assign [.Name y J] (.ListComp elt [⟨.Name x px,iter,ifs,0⟩] sc pos) e) σ Q X:=λg s R=>by
 rw[exec_Assign_Name_used _ _ _ _ M];refine Xe (Yd (Xe ?_));show XT _ c.A (do let _<-comprehension (.ListComp elt [⟨.Name x px,iter,ifs,0⟩] sc pos) sc c.env _ (newList []) Xb (eval iter c.env) (W_ (assign (.Name y J) c.env))) _ _ s;refine Xe (XY (l6 (use:=W_ (assign (.Name y J) c.env)) (P:=λW s'=>FW G c g Q .next s') (K:=λacc σ=>i<σ.r.length/\Q .none ⟨σ.H,setAt σ.r i (W_ (.lst acc))⟩) O hd D hs hW h R λg' acc σ' C D o m s' k n R' q=>?_) (λW W z=>Xo (Xo z)) λW W z=>z);refine Z8 (fX (c:=aV c ((D,.list acc)::(C,.fc o)::c.F)) (O.aV λW z=>.tail _ (.tail _ z)) Y ho R' (.ref D) λs2 R2=>⟨m,vU n R2,λh' V=>?_⟩);cases pd R2 V with|mk role Lc R l=>obtain⟨role',g2,k2,R3,Z⟩:=(R.perm cV).mg;have U:=(l.mono k2).reV (v:=.lst acc) (get_set q.1) Z;rw[set_set]at U;exact⟨g2,.none,⟨σ'.H,setAt σ'.r i (W_ (.lst acc))⟩,k.trans k2,rfl,⟨role',Lc,R3,U⟩,q.2⟩
theorem HR{i:Nat}{J e:Pos}{x:Str}{T:TF}(O:bg c) (hd:c.hd) (D:iI c sc x cz) (hs:∀x,YT iter c.env x=pure x)
  (V:c.nm[i]?=W_ y) (Y:ownName c y) (M:Y9 (.ListComp elt [⟨.Name x px,iter,ifs,0⟩] sc pos) (W_ (.Name y J)) e.line c.env=pure Xg) (hW:SI G c sc x cz ifs elt T B)
  (h:yx G c iter σ (λv σ1=>match v with|.sq _ l=>ou T B l [] ⟨σ1.H,Xk::mx σ1.r cz⟩ (λacc H=>∀D,Q .none ⟨cX H p (D,.list acc),setAt σ1.r i (W_ (.ref D))⟩)|_=>False) X):
  eY G c (.Assign [.Name y J] (.ListComp elt [⟨.Name x px,iter,ifs,0⟩] sc pos) e) σ Q X:=λg s R=>by
 rw[exec_Assign_Name_used _ _ _ _ M];refine Xe (Yd (Xe ?_));show XT _ c.A (do let _<-comprehension (.ListComp elt [⟨.Name x px,iter,ifs,0⟩] sc pos) sc c.env _ (newList []) Xb (eval iter c.env) (W_ (assign (.Name y J) c.env))) _ _ s;refine Xe (XY (l6 (use:=W_ (assign (.Name y J) c.env)) (P:=λW s'=>FW G c g Q .next s') (K:=λacc σ=>∀D,Q .none ⟨cX σ.H p (D,.list acc),setAt σ.r i (W_ (.ref D))⟩) O hd D hs hW h R λg' acc σ' C D o m s' k n R' q=>?_) (λW W z=>Xo (Xo z)) λW W z=>z);refine Z8 (fX (c:=aV c ((D,.list acc)::(C,.fc o)::c.F)) (O.aV λW z=>.tail _ (.tail _ z)) V Y R' (.ref D) λZ R2=>⟨m,vU n R2,λh' U=>?_⟩);cases pd R2 U with|mk role Lc R l=>exact⟨g',.none,⟨cX σ'.H p (D,.list acc),setAt σ'.r i (W_ (.ref D))⟩,k,rfl,⟨role,Lc,(R.perm cV).perm (dF.symm.append_right _),l⟩,q D⟩
noncomputable def rN:Nat->aP->aP|_,[]=>[]|i,v::l=>.tup [.int i,v] ::rN (i+1) l
theorem CW{a b:Addr×MO}{L:Hp}:(a::b::(H++(L++F))).Perm (H++(L++(a::b::F))):=
 show([a,b]++(H++(L++F))).Perm (H++(L++([a,b]++F))) by rw[<-Xf H,<-Xf,<-Xf,<-Xf H,<-Xf (H++L)];refine List.Perm.append_right _ ?_;rw[Xf];exact Zf
inductive S1 (G:cc) (c:Cx) (g:bQ) (σ:St) (s:XB) (h2:Heap) (F':Hp) (i:Int) (w:V):Prop|mk (g2) (k:g.le g2) (R:Rel G (aV c F') g2 σ {s with heap:=h2,toks:=s.toks+1}) (v:VR G g2 (.tup [.int i,w]) (.ref s.heap.objs.size))
theorem xa{e:Addr}{oe oi M K:Obj}{h2:Heap}{i:Int}{w:V}{v:Xj}(O:e≠it) (R0:Rel G (aV c ((e,.raw oe)::(it,.raw oi)::c.F)) g σ s) (Z:e<s.heap.objs.size) (Y:it<s.heap.objs.size) (he2:h2.get? e=W_ M) (J:h2.get? it=W_ K)
  (U:h2.get? s.heap.objs.size=W_ ⟨.type (t7 Xb),Xk,.seq (YL [.int i s.toks,v]) n,#[]⟩) (k2:∀b o,b≠e->b≠it->s.heap.get? b=W_ o->h2.get? b=W_ o) (hr:VR G g w v):S1 G c g σ s h2 ((e,.raw M)::(it,.raw K)::c.F) i w:=by
 obtain⟨role,Lc,R,lc⟩:=R0;have Rb:=((R.perm cV).free.perm cV).free.keep (s':={s with heap:=h2,toks:=s.toks+1}) rfl rfl λb o q z=>k2 b o (λm=>q (by rw[m];exact(aZ O).trans bS)) (λm=>q (by rw[m];exact bS)) z;have Rc:=(Rb.own (a:=it) (mo:=.raw K) bS ⟨_,J⟩ J).own (a:=e) (mo:=.raw M) ((aZ O).trans ((aZ O).trans bS)) ⟨_,he2⟩ he2;have Rd:=Rc.own (a:=s.heap.objs.size) (mo:=.raw _) ((aZ (YF Z)).trans ((aZ (YF Y)).trans ((aZ (YF Y)).trans ((aZ (YF Z)).trans (eG R (Xh _)))))) ⟨_,U⟩ U;obtain⟨role',g2,k3,Re,eT⟩:=Rd.mf U;exact⟨g2,k3,⟨role',Lc,Re.perm CW,lc.mono k3⟩,.sq Xb _ [.int i s.toks,v] _ _ eT (Xi rfl) rfl (cF.cons (.int _ _) (.cons (hr.mono k3) .nil)).2⟩
theorem se {J:List Xd}{k:Nat}{tp:Pos}{body:List Stmt}{e a:Addr}{asg:V->St->(St->Prop)->Prop}{W:TF}(O:bg c) (ht:c.top) (hh:c.A.handled=Xk) (hne:e≠it)
  (ha:g₀ a=W_ ⟨.type "list",Xk,.seq vs.toArray n,#[]⟩) (hl:cF G g₀ l vs)
  (hA:∀F,(∀x∈c.F,x∈F)-> ∀{g:bQ}{σ:St}{s:XB}{v:V}{x:Xj}{k':St->Prop}{P:Unit->XB->Prop}{E:Xj->XB->Prop},
   Rel G (aV c F) g σ s->VR G g v x->asg v σ k'->(∀g' σ' s',g.le g'->Rel G (aV c F) g' σ' s'->k' σ'->P () s')->XT G.M c.A (assign (.Tuple J k tp) c.env x) P E s)
  (hW:∀F,(∀x∈c.F,x∈F)-> ∀σ k,W σ k->oj G (aV c F) body σ k X){R:Result->XB->Prop}{g₁:bQ}
  (hR:∀f s,FW G c g₁ Q f s->R (.ok f) s) (hE:∀e s,XW G c g₁ X e s->notedBy G.M c.A c.env (λe s'=>R (.error e) s') e s):
  ∀(m i:Nat) (σ:St) (g:bQ) (s:XB) (oe oi:Obj) (Y:Xj),i+m=l.length->g₁.le g->g₀.le g->Rel G (aV c ((e,.raw oe)::(it,.raw oi)::c.F)) g σ s->IsEnum s.heap e it ((i:Nat):Int) Y->s.heap.IsListIter it a i->forL asg W (rN i (l.drop i)) σ Q->
   Zr G.M c.A (.forLoop (.Tuple J k tp) (.ref e) body [] c.env) R s:=by
 intro m;induction m with|zero=>
  intro i σ g s oe oi Y hi k₁ k₀ R0 he U h;have hi:i=l.length:= ‹i+0=l.length›;subst hi;rw[List.drop_length]at h;refine ZT ?_;rw[Y7 (by with_unfolding_all rfl)];show XT _ _ ((forTurn (.Tuple J k tp) (.ref e) body [] c.env).onRaise (λx=>do noteFrame x c.env;theTreesLotGoes x)) _ _ s;refine wpAny_noted ?_;refine Xe (Yd (Xe (wpAny_onRaise (wpAny_pyNext_enum_end hh he U ⟨_,R0.gk (k₀ _ _ ha),rfl,n,rfl⟩ (by rw[Yx];exact List.getElem?_eq_none (by rw[hl.1];exact Xh _)) λh' kk=>?_))));have R1:Rel G (aV c ((e,.raw oe)::c.F)) g σ {s with heap:=h'}:=by induction R0.mX with|mk role Lc R lc=>exact⟨_,Lc,(R.perm cV).free.keep (s':={s with heap:=h'}) rfl rfl λb o' q z=>kk b o' (λm=>q (by rw[m];exact bS)) z,lc⟩
  exact Xo ⟨rfl,codeAny_block (wpAny_execs_nil (hR _ _ ⟨g,.none,σ,k₁,rfl,R1.gP,h⟩))⟩|succ m ih=>
  intro i σ g s oe oi Y hi k₁ k₀ R0 he U h;refine ZT ?_;rw[Y7 (by with_unfolding_all rfl)];show XT _ _ ((forTurn (.Tuple J k tp) (.ref e) body [] c.env).onRaise (λx=>do noteFrame x c.env;theTreesLotGoes x)) _ _ s;refine wpAny_noted ?_;have hlt:i<l.length:=Uc ‹i+(m+1)=l.length›;obtain⟨v,hv,hr⟩:=hl.get (XD hlt);refine Xe (Yd (Xe (wpAny_onRaise (wpAny_pyNext_enum_item he U ⟨_,R0.gk (k₀ _ _ ha),rfl,n,rfl⟩ (by rw[Yx];exact hv) hne λh' heo hit' hT hz kk=>?_))));refine Xe (wpAny_letOwnedTupleGo_enum heo λh2 he2 sb=>?_);replace sb:Heap.SameBut e h' h2:=sb;have hT2:=(sb.2 _ (YF (Yb he))).trans hT;obtain⟨K,hoi,hoc,hod⟩:=hit';have hoi2:h2.get? it=W_ K:=(sb.2 _ (Zb hne)).trans hoi;have k2:∀b o,b≠e->b≠it->s.heap.get? b=W_ o->h2.get? b=W_ o:=λb o q1 q2 z=>(sb.2 b q1).trans (kk b o q1 q2 z);obtain⟨oit,hoit,-⟩:=U;have lti:=Yb hoit;obtain⟨Z,hoe⟩:∃o,o=(⟨.type "enumerate",Xk,.fields #[.none,.bool Xb,.ref it,rawInt ((i:Int)+1),.none,v],#[]⟩:Obj):=⟨_,rfl⟩;replace he2:h2.get? e=W_ Z:=hoe▸he2;obtain⟨g2,k3,R2,hvT⟩:=xa (i:=i) hne R0 (Yb he) lti he2 hoi2 hT2 k2 (hr.mono k₀);rw[List.drop_eq_getElem_cons hlt]at h;have hF:∀x∈c.F,x∈(e,MO.raw Z)::(it,.raw K)::c.F:=λx m=>.tail _ (.tail _ m);refine Xe (hA _ hF R2 hvT h λg3 σ2 s2 k4 R3 q=>Xe (XY (hW _ hF σ2 _ q g3 s2 R3) (λf s3 z=>?_) λe' s' z=>hE e' s' ((XW.gP (XW.gP z)).mono ((k₁.trans k3).trans k4))));obtain⟨g4,ov,σ3,k5,hf,R4,q⟩:=z;have k6:=((k₁.trans k3).trans k4).trans k5;have go:forL asg W (rN (i+1) (l.drop (i+1))) σ3 Q->Zr G.M c.A (.forLoop (.Tuple J k tp) (.ref e) body [] c.env) R s3:=λq=>by
   have fe:∀{x o},(x,MO.raw o)∈(e,MO.raw Z)::(it,.raw K)::c.F->s3.heap.get? x=W_ o:=λm=>by obtain⟨role,Lc,R,lc⟩:=R4;exact(R.hk _ (Xx _ (Xx _ m))).2
   exact ih (i+1) σ3 g4 s3 _ _ v (Sf ‹i+(m+1)=l.length›) k6 (((k₀.trans k3).trans k4).trans k5) R4 (by rw[show((i+1:Nat):Int)=(i:Int)+1 by push_cast;rfl];exact(fe (.head _)).trans (WX W_ hoe)) ⟨K,fe (.tail _ (.head _)),hoc,hod⟩ q
  induction f with|next=>cases hf;exact Xo ⟨rfl,go q⟩|cont=>cases hf;exact Xo ⟨rfl,go q⟩|brk=>cases hf;exact Xo (hR _ _ ⟨g4,.none,σ3,k6,rfl,R4.gP.gP,q⟩)|ret v=>exact Xo (hR _ _ ⟨g4,ov,σ3,k6,hf,R4.gP.gP,lC.ret hf q⟩)
theorem Bm{l:List (Str×Pos)}{is:ax}{k:Nat}{tp:Pos}{en:Str}{e:Xd}{p pp:Pos}{body:List Stmt}{W:TF}(O:bg c) (hd:c.hd) (ht:c.top) (ho:b_ c is (l.map (λd=>d.1)))
  (hn:b0 c [e]) (hk:c.env.kindOf en=W_ .globalImplicit) (hx:(en==("__debug__":Str))=Xb) (U:fnAt G en (.type "enumerate")) (hW:∀F,(∀x∈c.F,x∈F)-> ∀σ k,W σ k->oj G (aV c F) body σ k X)
  (h:jC G c p [e] σ (λv σ'=>isQ Xb v (jf λv=>isQ Xg v λl=>forL (λv σ k=>kc v is σ k) W (rN 0 l) σ' Q)) X):
  eY G c (.For (.Tuple (oX l) k tp) (.Call (.Name en px) [e] [] p) body [] pp) σ Q X:=λg s R=>by
 unfold fnAt at U;rw[XS,W8,W8]at U;refine wpAny_For (Y0 (ju O R.K hk hx U.1 U.2 px ?_)) λC=>rfl;refine callWith_type (plain_any hn) (dh hn R h λg' l' vs σ' s' k' hl R' q=>?_)
 .obtain⟨v,rfl,q1⟩:=jf.to q;obtain⟨ls,rfl,q⟩:=isQ.to q1;obtain⟨y,rfl,hy⟩:=hl.one;obtain⟨a,ws,n,rfl,ha,Y,-⟩:=hy.fY;refine call_enumerate_1 (R'.gk ha) λh' M hit hz kk=>wpAny_pyIter_enum M ?_;obtain⟨V,J,hoc,Z⟩:=hit;refine se (g₁:=g) (W:=W) O ht (jY O hd) (YF (Zv _)) ha Y (λF hF{g σ s v x k' P E}R hv h fin=>mD O hd hF ho R hv h λσ' s' R' q=>fin g σ' s' .refl R' q) hW (λf s z=>z) (λe s z=>vH O ht z)
   ls.length 0 σ' g' _ ⟨.type "enumerate",Xk,.fields #[.none,.bool Xb,.ref s'.heap.objs.size,rawInt 0,.none,.none],#[]⟩ V .none (X7 _) k' .refl ?_ M ⟨V,J,hoc,Z⟩ q
  induction R' with|mk role Lc R lc=>have Ra:=((R.keep (s':={s' with heap:=h'}) rfl rfl λb o C z=>kk b o z).own (a:=s'.heap.objs.size) (mo:=.raw V) (eG R (Xh _)) ⟨_,J⟩ J).own (a:=s'.heap.objs.size+1) (mo:=.raw _) ((aZ (YF (Zv _))).trans (eG R (Yl _))) ⟨_,M⟩ M;exact⟨_,Lc,Ra.perm CW,lc⟩
section
variable{prog:Program}{w:ZJ}{A:Za}{R:Result->XB->Prop}{h:Heap}{g:Array GenState}{d:Drawn}{t:Nat}{os:Y2}{nm q:Str}{C N:Addr}{bs bm:List Xj}{hdct:Bool}{sn:List Str}{sub:List Xj}{ab:Bool}{col:Option Bool}{dd:Option Addr}{k0 k1 k2 k3 k5:Option Xj}{init:Xj}
abbrev gd(C t:Addr):Obj:={cls:=.ref C,data:=dT t}
structure iY (C:Addr)(bm:List Xj):Prop where
 e:(YV C::bm).contains (.type "Exception")=Xg
 a:(YV C::bm).contains (.type "AttributeError")=Xb
 n:(YV C::bm).contains (.type "NameError")=Xb
variable{rest:List Xj}
theorem r_{M:Model}{E:Xj->XB->Prop}(F:ExcBaseFacts "Exception" "Exception.__new__" "Exception.__init__" [.type "Exception",.type "BaseException",.type "object"])(T:iY C bm){Q:Unit->XB->Prop}(K:h.get? C=W_ (excClassObj nm q C N bs bm hdct sn sub ab col dd k0 k1 k2 k3 k5 "Exception.__new__"))
  (O:Q () ⟨h,g,d,t,os⟩):XT M A (checkBuiltinCall "Exception.__new__" ⟨.ref C::rest,[]⟩) Q E ⟨h,g,d,t,os⟩:=by
 have J:=T.e;unfold checkBuiltinCall;rw[F.newKind,F.newSplit];dsimp only;repeat (first|refine YS K ?_|(refine ZK K ?_;rw[J])|refine wpAny_staticBase_exc K ?_|refine wpAny_madeBy_exc K ?_|rw[bne_self_eq_false,WZ Xy]|wp_step)
 exact O
theorem Bj (F:ExcBaseFacts "Exception" "Exception.__new__" "Exception.__init__" [.type "Exception",.type "BaseException",.type "object"])(T:iY C bm)(V:h.get? C=W_ (excClassObj nm q C N bs bm hdct sn sub ab col dd k0 k1 k2 k3 k5 "Exception.__new__"))
  (Z:R (.ok (.ret (.ref (h.objs.size+1)))) ⟨(h.push {cls:=.type "tuple",data:=.seq rest.toArray}).push (gd C h.objs.size),g,d,t,os⟩)(J:rest.length<=sizeLine):
  Zr (model prog w) A (.builtin "Exception.__new__" ⟨.ref C::rest,[]⟩) R ⟨h,g,d,t,os⟩:=by
 have K:=F.ends;have O:=T.e;have U:=T.a;have M:=T.n;refine codeAny_builtinAt F.entry ?_;unfold Yy.«BaseException.__new__»;refine PySem.wpAt_bind ?_;show PySem.wpAt _ _ _ (stack>>=_) _ _ _;refine PySem.wpAt_bind (PySem.wpAt_stack λp Y=>PySem.wpAt_of_wpAny ?_);wp_walk;refine PySem.wpAt_of_wpAny ?_;rw[F.owner];repeat (first|with_reducible refine wpAny_madeHere_exc F.canon V ?_|with_reducible refine YS V ?_|(with_reducible refine ZK V ?_;first|rw[O]|rw[U]|rw[M])|wp_step)
 show R _ _;rw[Heap.size_push];exact Z
theorem wM (M:h.get? C=W_ (excClassObj nm q C N bs bm hdct sn sub ab col dd k0 k1 k2 k3 k5 "Exception.__new__")) (F:ExcBaseFacts "Exception" "Exception.__new__" "Exception.__init__" [.type "Exception",.type "BaseException",.type "object"]) (T:iY C bm)
  (hi:PySem.W.Looks (model prog w) h (typeLookup (.ref C) "__init__") (W_ init)) (Y:∀J,PySem.W.Looks (model prog w) h (bindSpecial init J) (init,[J])) (O:rest.length<=sizeLine)
  (V:Zr (model prog w) (A.under (.builtin "type.__call__" ⟨.ref C::rest,[]⟩)) (.call init ⟨.ref (h.objs.size+1)::rest,[]⟩) (PySem.W.InitBack (h.objs.size+1) R) ⟨(h.push {cls:=.type "tuple",data:=.seq rest.toArray}).push (gd C h.objs.size),g,d,t,os⟩):
  Zr (model prog w) A (.call (.ref C) ⟨rest,[]⟩) R ⟨h,g,d,t,os⟩:=by
 have f1:=tc_lookup
 have f2:=tc_bind (.ref C)
 have Z:(⟨h,g,d,t,os⟩:XB).TypeIs (.ref C) "type" :=⟨_,M,rfl⟩
 refine ZT ?_
 show XT _ _ (callAny (.ref C) _) _ _ _
 repeat (any_goals (first|assumption|with_reducible refine YS M ?_|wp_step))
 refine⟨rfl,?_⟩
 refine codeAny_call_builtin_at (Code.quiet_builtin _ (by decide+kernel)) entry_typeCall (wpAny_check_type_call_sub M ?_)
 repeat (first|with_reducible refine YS M ?_|with_reducible refine wpAny_madeBy_exc M ?_|wp_step)
 refine codeAny_call_builtin_code (Code.quiet_builtin _ F.quiet) (r_ F T M ?_)
 refine Bj F T M ?_ O;show XT _ _ _ _ _ _;have k:∀b o,h.get? b=W_ o->((h.push {cls:=.type "tuple",data:=.seq rest.toArray}).push (gd C h.objs.size)).get? b=W_ o:=λb o e=>XA _ (XA _ e);have hC₁:=k _ _ M;have K:((h.push {cls:=.type "tuple",data:=.seq rest.toArray}).push (gd C h.objs.size)).get? (h.objs.size+1)=W_ (gd C h.objs.size):=by heap_get
 have U:(YV C::bm).contains (.ref C):=by simp
 unfold isInstance
 repeat (first|with_reducible refine YS K ?_|(with_reducible refine ZK hC₁ ?_;rw[U])|wp_step)
 show XT _ _ (isSubtype (.ref C) (.ref C)) _ _ _;refine ZK hC₁ ?_;rw[U];have i1:=hi.keeps k;have b1:=(Y (.ref (h.objs.size+1))).keeps k
 repeat (first|with_reducible refine YS K ?_|wp_step)
 show XT _ _ (typeLookup (.ref C) _) _ _ _
 refine i1.here ?_
 dsimp only
 refine X8 (Xe (b1.here (Xe (wpAny_call ?_))))
 refine codeAny_mono V λr s' z=>?_
 rcases r with e|(v|_|_|_) <;>first|exact z|exact z.elim|skip
 obtain⟨rfl,z⟩:=z
 exact Xo (Xo z)
end
section
variable{prog:Program}{w:ZJ}{A:Za}{R:Result->XB->Prop}{h:Heap}{g:Array GenState}{d:Drawn}{t:Nat}{os:Y2}{E:Xj->XB->Prop}{nm q:Str}{C N:Addr}{bs bm:List Xj}{hdct:Bool}{sn:List Str}{sub:List Xj}{ab:Bool}{col:Option Bool}{dd:Option Addr}{k0 k1 k2 k3 k5:Option Xj}{init:Xj}
theorem wL (F:ExcBaseFacts "Exception" "Exception.__new__" "Exception.__init__" [.type "Exception",.type "BaseException",.type "object"])(T:iY C bm){e t0:Addr}{M:Array (Option Xj)}{x:Xj}{Q:Xj->XB->Prop}
  (U:h.get? C=W_ (excClassObj nm q C N bs bm hdct sn sub ab col dd k0 k1 k2 k3 k5 "Exception.__new__"))(O:h.get? e=W_ ⟨.ref C,Xk,dT t0,M⟩)
  (V:∀h',(∀b o,b≠e->h.get? b=W_ o->h'.get? b=W_ o)->h'.get? e=W_ ⟨.ref C,Xk,dT h.objs.size,M⟩ ->Q .none ⟨h',g,d,t,os⟩):
  XT (model prog w) A (call (.builtin "Exception.__init__") [.ref e,x]) Q E ⟨h,g,d,t,os⟩:=by
 refine wpAny_call (codeAny_call_builtin F.init.plain F.initEntry ?_);have K:=T.e;have J:=F.noStar;unfold checkBuiltinCall;rw[F.initKind,F.initSplit,F.initRow];repeat (first|(with_reducible refine YS O ?_;dsimp only)|with_reducible refine YS U ?_|(with_reducible refine ZK U ?_;rw[K])|wp_step)
 refine V _ (λb o Y z=>(Yr _ _ (Zb Y)).trans (XA _ z)) ?_;exact YZ _ (XA _ O) rfl
end
theorem set_same{x:α}:∀{l:List α}{p:Nat},aF l p=W_ x->setAt l p x=l:=by
 intro l;induction l with|nil=>exact λe=>nomatch e|cons y l ih=>intro p e;induction p using XN with|zero=>cases e;rfl|succ p=>exact WX (y::·) (ih e)
inductive SX (G:cc)(cl:Nat):Prop|mk (nm q N bs bm hdct sn sub ab col dd k0 k1 k2 k3 k5)(e:G.K.lookup (G.cA cl)=W_ (excClassObj nm q (G.cA cl) N bs bm hdct sn sub ab col dd k0 k1 k2 k3 k5 "Exception.__new__"))(m:iY (G.cA cl) bm)
structure oh (G:cc) (cl:Nat):Prop where
 obj:SX G cl
 base:mroIn G.K (G.cA cl) (.type "BaseException")=W_ Xg
 ty:typeIn G.K (.ref (G.cA cl))=W_ (.type "type")
def Hn(ok:Nat->Bool)(p:Nat):Hp->V->V->(V->Hp->Prop)->Prop:=λH v w k=>match v with
 |.ref a=>fK H p a λm=>match m with
  |.sY cl=>ok cl=Xg/\k .none H|_=>False
 |_=>False
theorem uO{ok:Nat->Bool}(e:∀cl,ok cl->oh G cl):fg G (λvs=>call (.builtin "Exception.__init__") vs) (Hn ok p):=by
 intro c g σ s A E P v w x y k _ R V hw h fin;cases v with
 |ref a=>
  obtain⟨m,J,h⟩:=fK.to h
  induction m with
  |sY cl=>
   obtain⟨h0,h⟩:=h
   obtain rfl:=V.dZ;obtain⟨role,t0,U,O⟩:=R.at J;obtain⟨⟨nm,q,N,bs,bm,hdct,sn,sub,ab,col,dd,k0,k1,k2,k3,k5,Y,T⟩,-,-⟩:=e _ h0;obtain⟨hp,M,d,t,os⟩:=s;refine wL PySem.F.excBase_Exception T (R.K _ _ Y) O λh' kk e2=>?_;have lt:=Yb O;have R2:Rel G c g ⟨setAt σ.H p (a,.sY cl),σ.r⟩ ⟨h',M,d,t,os⟩:=R.mod (s':=⟨h',M,d,t,os⟩) J rfl rfl (λb o z=>by
    by_cases q:b=a
    .exact⟨_,by rw[q];exact e2⟩
    .exact⟨o,kk b o q z⟩) λrole' Z W=>⟨λb o q W z=>kk b o q z,_,U,e2⟩
   rw[set_same J]at R2;exact fin g .none .none _ _ .refl .none R2 h
  |_=>exact h.elim
 |_=>exact h.elim
structure Cu (G:cc)(cl fi:Nat):Prop where
 ex:oh G cl
 init:YU G.K (.ref (G.cA cl)) "__init__"=W_ (W_ (.ref (G.fa fi)))
 fty:typeIn G.K (.ref (G.fa fi))=W_ (.type "function")
 call:ZF G.K (.ref (G.cA cl)) "__call__"=W_ (W_ (.builtin "type.__call__"))
def NC(a:Addr)(cl:Nat)(k:Fs->Hp->Prop)(v:V)(H:Hp):Prop:=rQ a cl 1 v H k
def o4 (G:cc) (hd:Bool) (n cl fi:Nat) (vs:aP) (H:Hp) (k:Fs->Hp->Prop) (X:di->Hp->Prop):Prop:=match n with|n'+1=>∀a,gr G hd n' fi (.ref a::vs) ((a,.sY cl)::H) (NC a cl k) (tlX X)|0=>False
inductive ac9 (G:cc)(hd:Bool)(n cl fi:Nat)(vs:aP)(H:Hp)(k:Fs->Hp->Prop)(X:di->Hp->Prop):Prop|mk (m)(e:n=m+1)(h:o4 G hd (m+1) cl fi vs H k X)
variable{cl:Nat}{fi:Nat}
theorem o4.to{hd:Bool}{vs:aP}{k:Fs->Hp->Prop}{X:di->Hp->Prop}(h:o4 G hd n cl fi vs H k X):ac9 G hd n cl fi vs H k X:=by induction n using XN with|zero=>exact h.elim|succ m=>exact⟨m,rfl,h⟩
theorem Bi {vs:aP}{J:List Xj}(en:c.n=n+1) (O:bg c) (C:Cu G cl fi) (R:Rel G c g σ s) (hv:cF G g vs J) (hz:vs.length<=16777216){kf:Fs->Hp->Prop}
  (h:∀a,gr G c.hd n fi (.ref a::vs) ((a,.sY cl)::σ.H) (λv H'=>rQ a cl 1 v H' kf) λx H'=>match H' with|_::H'=>X x ⟨H',σ.r⟩|[]=>False)
  (fin:∀g' a fs H' s' role Lc,g.le g'->RH G role g' ((a,.inst 1 cl fs)::(H'++(Lc++c.F))) s'->oa G c g' Lc σ.r->kf fs H'->P (.ref a) s'):XT G.M c.A (call (.ref (G.cA cl)) J) P (XW G c g X) s:=by
 obtain⟨hh,gg,d,t,os⟩:=s;have K:=R.K;have Y:=O.room;rw[en]at Y;obtain⟨⟨nm,q,N,bs,bm,hdct,sn,sub,ab,col,dd,k0,k1,k2,k3,k5,hC,T⟩,-,-⟩:=C.ex;refine wpAny_call (wM (K _ _ hC) PySem.F.excBase_Exception T (Z9 K C.init) (λU=>bind_fn K U C.fty) (by rw[<-hv.1];exact hz) ?_);induction R with|mk role Lc R l=>
  have Z:((hh.push {cls:=.type "tuple",data:=.seq J.toArray}).push (gd (G.cA cl) hh.objs.size)).get? (hh.objs.size+1)=W_ (gd (G.cA cl) hh.objs.size):=by have:=X0 (hh.push {cls:=.type "tuple",data:=.seq J.toArray}) (o:=gd (G.cA cl) hh.objs.size) rfl;rwa[Heap.size_push]at this
  have R':=(R.keep (s':=⟨(hh.push {cls:=.type "tuple",data:=.seq J.toArray}).push (gd (G.cA cl) hh.objs.size),gg,d,t,os⟩) rfl rfl λb o W e=>XA _ (XA _ e)).own (a:=hh.objs.size+1) (mo:=.sY cl) (eG R (Yl _)) ⟨_,Z⟩ ⟨_,_,Z⟩;obtain⟨r1,r2⟩:=jG (C:=G.cA cl) (rest:=J) Y;have fo:=pk O l;refine codeAny_mono (h (hh.objs.size+1) _ (Lc++c.F) g _ _ (.ref (hh.objs.size+1)::J) r1 (by unfold ly;rw[r2];exact fo) (.cons (.ref _) hv) R') λr s' z=>?_;rcases r with e|(v|_|_|_)
  .induction z with|mk g' e x H' role' ev k R' q=>induction H' using Xn with|nil=>exact q.elim|cons y H'=>exact⟨g',e,x,⟨H',σ.r⟩,ev,k,role',Lc,((R'.perm (.swap ..)).drop (T₀:=[y])).Hx,l.mono k,q⟩
  .exact z.elim
  .exact z.elim
  .exact z.elim
  .induction z with|mk g' mv H' role' k V R' q=>obtain⟨fs,H2,rfl,rfl,q'⟩:=q.to;obtain rfl:=V.none_inv;exact⟨rfl,fin g' _ fs H2 s' role' Lc k R' (l.mono k) q'⟩
inductive RsE (G:cc)(cl:Nat)(E:Xj->XB->Prop)(v:Xj)(s:XB):Prop|mk (e dx ws sl)(ev:v=.ref e)(K:G.K.In s.heap)(e1:s.heap.get? e=W_ ⟨.ref (G.cA cl),W_ dx,.fields ws,sl⟩)(e2:ws[1]?=W_ .none)(q:E (.ref e) s)
theorem oL{P:Flow->XB->Prop}{E:Xj->XB->Prop}{x:Sem Xj}(hh:A.handled=Xk) (C:oh G cl)
  (h:XT G.M A x (RsE G cl E) E s):XT G.M A (raiseStmt env (W_ x) Xk) P E s:=by
 unfold raiseStmt;dsimp only;refine Xe (XY h (λv s₁ h₁=>?_) λW W x=>x);obtain⟨e,dx,ws,U,rfl,K,J,e2,q⟩:=h₁;have nt:∀{Q':Bool->XB->Prop},Q' Xb s₁->XT G.M A (isType (.ref e)) Q' E s₁:=λO=>by unfold isType loadHead;exact Xe (Zy J (Xo O))
 have ty:Looks G.M s₁.heap (typeOf (.ref e)) (.ref (G.cA cl)):=(Looks.ld (part:=Xk) J).andThen .now;refine Xe (Xo (Xe (X8 ?_)));unfold excFromValue isExcClass;refine Xe (Xe (nt (Xo ?_)));rw[WZ Xy];unfold isInstance;refine Xe (Xe (ty.here ((looks_mroIn K C.base).here ?_)));rw[W0 rfl];refine Xo (Xe (nt ?_));rw[WZ Xy];unfold raisedInstance;refine Xe (Xe (ty.here (Xe ((looks_typeIn K C.ty).here ?_))));rw[W0 (WY _)];refine Xo (Xe ?_);unfold setFlight;refine Xe (wpAny_field J rfl e2 ?_);rw[WZ (by decide)];refine Xo ?_;unfold raiseNew;refine Xe (wpAny_handled ?_);rw[hh];first|exact wpAny_throw q|exact Xe (Xo (wpAny_throw q))
theorem wO{x:Str}{p pp:Pos}{xs:List Xd}(O:bg c) (h0:c.hd) (C:Cu G cl fi) (M:b0 c xs) (hk:c.env.kindOf x=W_ .globalImplicit) (hd:(x==("__debug__":Str))=Xb) (U:xs.length<20)
  (e:nsIn G.K Yj x=W_ (W_ (.ref (G.cA cl)))) (h:jC G c p xs σ (λl σ'=>isQ Xb l λvs=>vs.length<=20/\o4 G c.hd c.n cl fi vs σ'.H (λfs H'=>X (cl,fs) ⟨H',σ'.r⟩) λx H'=>X x ⟨H',σ'.r⟩) X):
  eY G c (.Raise (W_ (.Call (.Name x px) xs [] p)) Xk pp) σ Q X:=λg s R=>by
 rw[arm_exec_Raise];refine Xe (Yd ?_);obtain⟨nm,q,N,bs,bm,hdct,sn,sub,ab,col,dd,k0,k1,k2,k3,k5,hC,T⟩:=C.ex.obj;show XT _ _ (raiseStmt c.env (W_ (do let v<-eval (.Call (.Name x px) xs [] p) c.env;standAt pp;pure v)) Xk) _ _ _;refine oL (jY O h0) C.ex (Xe (XY (Y0 (gV O R.K hk hd e px (eK (plain_any M) hC C.call (dh M R h λg' l vs σ' s' k Z R' z=>⟨R'.K,?_⟩)))) (λv s1 z=>Xe (Yd (Xo z))) λW W z=>z));unfold isQ at z;dsimp only at z;obtain⟨z1,z⟩:=z
 .obtain⟨n,en,z⟩:=o4.to z;refine XY (Bi en O C R' Z (Xa z1 ll) z (P:=RsE G cl (XW G c g X)) λg2 a fs H' s2 role Lc k2 R2 Y q2=>?_) (λW W z=>z) λW W z=>z.mono k;obtain⟨dx,J,od,dt,V,⟨t,rfl⟩,e3,e4,e5⟩:=(R2.hk _ (.head _)).2;refine⟨a,dx,_,J,rfl,λb o z=>(R2.gk _ _ (R2.kb b o z)).1,V,rfl,g2,a,(cl,fs),⟨H',σ'.r⟩,rfl,k.trans k2,role,Lc,?_,Y,q2⟩;exact R2.mod rfl rfl (λW W W W z=>z) (λW W=>rfl) (λb q=>R2.sz b q) ⟨dx,J,od,_,V,⟨_,rfl,.inl ⟨rfl,rfl⟩⟩,e3,e4,e5⟩
def kA (G:cc)(cv f:Xj)(name:Str):Prop:=∀{A:Za}{s:XB}{pl:Sem Bool}{P:Xj×List Xj->XB->Prop}{E:Xj->XB->Prop},G.K.In s.heap->P (f,[]) {s with toks:=s.toks+1} ->XT G.M A (getMethod cv name pl) P E s
variable{name:Str}
theorem IB{f:Xj}(h1:ZF G.K (.ref C) "__getattribute__"=W_ (W_ (.builtin "type.__getattribute__"))) (h2:readsIn G.K C (.type "type")) (h3:findCls G.K (.ref C) (.type "type") name=W_ (.val f)) (h4:handedIn f):kA G (.ref C) f name:=
 λK q=>method_cls K h1 (cls_value K h2 h3 h4 q)
theorem BS{T:String}{f:Xj}(h0:Manifest.isStub T=Xb) (h1:YU G.K (.type "type") "__getattribute__"=W_ (W_ (.builtin "type.__getattribute__"))) (h2:subIn G.K (.type "type") (.type "type")=W_ Xg) (h3:findCls G.K (.type T) (.type "type") name=W_ (.val f)) (h4:handedIn f)
  (U:YU G.K (.type "type") "__getattr__"=W_ Xk) (O:onTheHeap (.type "type")=Xb) (e:typeOf (.type T)=pure (.type "type")):kA G (.type T) f name:=by
 intro A s pl P E K q;have ty:Looks G.M s.heap (typeOf (.type T)) (.type "type"):=Looks.of_pure e;unfold getMethod specialOf;refine Xe (Xe (ty.here ((Z9 K h1).here ?_)));dsimp only;rw[W0 canon_tga];have J:Looks G.M s.heap (opaqueClassAbove (.type T)) Xk:=by unfold opaqueClassAbove;dsimp only;rw[h0];exact Looks.of_pure rfl
 refine Xe (cls_open (hook:=Xk) K J ty h1 (looks_hook K (by rw[WZ (by rw[O];exact Xy)])) h2 h3 (Xo ?_));show XT _ _ (handedOut f) _ _ _;rw[handedOut_of h4];exact Xo (Xo q)
theorem vC{xs:List Xd}{p:Pos}(J:b0 c xs) (e:xs.length<20):methodCallForm (xs.length+([]:List Keyword).length) (ZA p (YJ xs c.env)) (backToKw p (keywordEach [] c.env)):=by
 have K:(ZA p (YJ xs c.env)).all (λx=>!x.1):=by unfold ZA;rw[J,Yn,List.all_map,XM];exact λW W=>rfl
 show((ZA p (YJ xs c.env)).all (λx=>!x.1)&&Xg&&decide (xs.length+0+0<30));rw[K,ZD,ZD];exact W4 (rE (Xm (Xm (jL e) (Xh 0)) (Xh 0)) rfl)
variable{ap:Pos}
theorem H_{o:Xd}{cv:Xj}{p:Pos}{i:Nat}{ps:ax}{xs:List Xd}(O:bg c)(M:kA G cv (.ref (G.fa i)) name)(hF:FnAt G i)(Z:∀w,Zm o name c.env w=w)(U:b0 c xs)(J:xs.length<20)(Y:(ap.endLine==p.line))
  (h:bK G c o σ (λv σ1=>v=.cst cv/\jC G c p xs σ1 (λl σ'=>isQ Xb l λvs=>i_ G c.hd c.n i ps vs σ' Q X) X) X):bK G c (.Call (.Attribute o name ap) xs [] p) σ Q X:=λg s R=>by
 rw[arm_eval_Call,Z];refine Xe (Ev.go .refl R h λg1 v x σ1 s1 k1 W V R1 q1=>Xe (Yd ?_));obtain⟨rfl,q1⟩:=q1;obtain rfl:=V.jz;have e:methodCallPos Xg o c.env ap p=pure p:=by unfold methodCallPos;rw[Y];rfl
 unfold methodCall;rw[vC U J];refine Xe (X8 (M R1.K ?_));exact Xe (wpAny_of_eq e (g0 (fv:=[]) O hF U k1 R1.tok .nil q1))
theorem Ia{o:Xd}{cv:Xj}{id:String}{p:Pos}{xs:List Xd}{K:PK}(O:bg c) (hd:c.hd) (M:kA G cv (.builtin id) name) (Z:Prim G (λvs=>call (.builtin id) vs) K) (hb:∀w,Zm o name c.env w=w) (V:b0 c xs) (J:xs.length<20) (Y:(ap.endLine==p.line))
  (h:bK G c o σ (λv σ1=>v=.cst cv/\jC G c p xs σ1 (λl σ'=>isQ Xb l λl=>K σ'.H l λv H'=>Q v ⟨H',σ'.r⟩) X) X):bK G c (.Call (.Attribute o name ap) xs [] p) σ Q X:=λg s R=>by
 rw[arm_eval_Call,hb];refine Xe (Ev.go .refl R h λg1 v x σ1 s1 k1 W U R1 q1=>Xe (Yd ?_));obtain⟨rfl,q1⟩:=q1;obtain rfl:=U.jz;have e:methodCallPos Xg o c.env ap p=pure p:=by unfold methodCallPos;rw[Y];rfl
 unfold methodCall;rw[vC V J];refine Xe (X8 (M R1.K ?_));refine Xe (wpAny_of_eq e (callWith_builtin (first:=[]) (plain_any V) ?_));exact XY (dh (P:=λa s₁=>XT G.M c.A (call (.builtin id) ([]++a.pos) a.kw) (QW G c g Q) (XW G c g X) s₁) V R1.tok q1 λg' l vs σ' s' k Y R' q=>Z (O.room.h hd) R' Y q λg2 v y H' s2 k2 U R2 q2=>⟨g2,v,_,k1.trans (k.trans k2),U,R2,q2⟩) (λW W z=>z) λW W z=>z.mono k1
noncomputable def kZ (c:Cx)(e:Addr):Cx:={c with A:=c.A.mark (W_ (.ref e)),hd:=Xb}
theorem bg.mark{e:Addr}(O:bg c):bg (kZ c e):=by obtain⟨l,M,K,J⟩:=O.fr;exact⟨⟨l,M,K,J⟩,⟨O.room.d,O.room.u,λz=>nomatch z⟩,O.jm,O.cells,O.kind,O.glob,O.blt,O.nd,O.Ec⟩
noncomputable def rx (ok:Nat->Bool):List (Nat×Nat×TF)->di->St->(V->St->Prop)->Prop|[],_,_,_=>False|h::hs,x,σ,Q=>ok x.1=Xg/\match XI x.1 h.1 with
  |true=>h.2.1<σ.r.length/\ ∀a,h.2.2 ⟨(a,.inst 2 x.1 x.2)::σ.H,setAt σ.r h.2.1 (W_ (.ref a))⟩ λo σ3=>match σ3.H with|_::H'=>Q o ⟨H',setAt σ3.r h.2.1 Xk⟩|[]=>False
  |false=>rx ok hs x σ Q
theorem nI{e dx:Addr}{ch:Nat}{dt:Data}{U:Array (Option Xj)}{P:Bool->XB->Prop}{E:Xj->XB->Prop}(K:G.K.In s.heap) (C:oh G ch) (hs:mroIn G.K (G.cA cl) (.ref (G.cA ch))=W_ (XI cl ch)) (Y:s.heap.get? e=W_ ⟨.ref (G.cA cl),W_ dx,dt,U⟩)
  (h:P (XI cl ch) s):XT G.M A (excMatches (.ref e) (.ref (G.cA ch))) P E s:=by
 obtain⟨nm,q,N,bs,bm,hdct,sn,sub,ab,col,dd,k0,k1,k2,k3,k5,V,T⟩:=C.obj;have ty:Looks G.M s.heap (typeOf (.ref e)) (.ref (G.cA cl)):=(Looks.ld (part:=Xk) Y).andThen .now;have J:=K _ _ V;unfold excMatches isInstance;refine Xe (Xe ((looks_typeIn K C.ty).here (wpAny_of_eq (show isSubtype (.type "type") (.type "tuple")=pure Xb by rw[isSubtype_type];kernel_rfl) ?_)));rw[WZ Xy];refine Xe (Xo ?_);simp only[List.forIn_cons,List.forIn_nil];unfold isExcClass isType loadHead;refine Xe (Xe (Xe (Xe (Xe (Zy J (Xo ?_))))));rw[W0 rfl];refine (looks_mroIn K C.base).here ?_;rw[WZ (by decide)];refine Xo (Xo (Xe (ty.here (Xe (Xe (Xe ((looks_mroIn K hs).here ?_)))))));generalize q:XI cl ch=O;induction O with|true=>exact Xo (Xo (Xo (q▸h)))|false=>exact Xo (Xo (Xo (q▸h)))
theorem name_goes{M:Model}{n:Str}{m:Str->Option Xj}{P:Unit->XB->Prop}(J:env.kindOf n=W_ .local) (K:s.heap.Ns env.locals m)
  (e:(env.scope.kind== .class||(env.scope.kind== .module&&env.locals !=env.globals))=Xb)
  (h:∀h' m',h'.Ns env.locals m'->(∀y,y≠n->m' y=m y)->Heap.SameBut env.locals s.heap h'->P () {s with heap:=h',toks:=s.toks+1}):
  XT M A (do bindName env n .none;unbindBehindTheSuite env n pos) P E s:=by
 refine Xe (wpAny_bindName (wpAny_storeName_local J K (λh₁ hn₁ hs₁=>?_) e));unfold unbindBehindTheSuite;refine wpAny_onRaise ?_;unfold unbindName;refine Xe (wpAny_point (Xe ?_));unfold deleteName;simp only[J,e];rw[WZ (by decide)];refine Xe (wpAny_nsDel_keeps hn₁ λh₂ v hn₂ hs₂=>?_);simp only[if_true,Option.isSome_some,Bool.not_true,Bool.false_eq_true,if_false];exact Xo (wpAny_point (h h₂ _ hn₂ (λy q=>by rw[WZ q,WZ q]) (hs₁.trans hs₂)))
theorem BK{n:Str}{i:Nat}{P:Unit->XB->Prop}(O:bg c) (Y:c.nm[i]?=W_ n) (hk:c.env.kindOf n=W_ .local) (R:Rel G c g σ s) (h:∀s',Rel G c g ⟨σ.H,setAt σ.r i Xk⟩ s'->P () s'):
  XT G.M A (do bindName c.env n .none;unbindBehindTheSuite c.env n pos) P E s:=by
 induction R with|mk role Lc R l=>
  obtain⟨o,m,cs,rfl,hn,hc,hV⟩:=l;have mL:=R.hk (c.env.locals,.fc o) (Xx _ (.head _));obtain⟨sl,ho⟩:=mL.2;have V:∀mo,(σ.H++((c.env.locals,mo)::cs++c.F)).Perm ((c.env.locals,mo)::(σ.H++(cs++c.F))):=λmo=>Z4;refine name_goes hk (jA.at (o:={o with slots:=sl}) hn ho) (by rw[O.kind];rfl) λh' m' J K U=>?_;obtain⟨o',Z,n'⟩:=qp J;refine h _ ⟨role,(c.env.locals,.fc o')::cs,((R.perm (V _)).mod (s':={s with heap:=h',toks:=s.toks+1}) rfl rfl (λb o₁ q W z=>(U.2 b q).trans z) (λW W=>rfl) (λb q=>by
   obtain⟨o₁,z⟩:=R.sz b q;by_cases q:b=c.env.locals
   .exact⟨o',q▸Z⟩
   .exact⟨o₁,(U.2 b q).trans z⟩) (mo':=.fc o') ⟨o'.slots,Z⟩).perm (V _).symm,o',_,cs,rfl,n',hc,λj w e=>?_⟩
  rcases oH e with⟨-,e⟩|⟨ij,e⟩
  .exact Tr e
  .obtain⟨y,vl,h1,h2,h3⟩:=hV j w e;refine⟨y,vl,h1,h2,h3.imp (λz=>⟨z.1,(K y λq=>?_).trans z.2⟩) id⟩;subst q;exact ij ((List.getElem?_inj (XK.mp Y).1 O.nd).mp (Y.trans h1.symm))
structure HD where
 x:Str
 px:Pos
 n:Str
 b:Stmt
 bs:List Stmt
 pos:Pos
 cl:Nat
 i:Nat
 W:TF
noncomputable def HD.mk' (d:HD):ZS:=.ExceptHandler (W_ (.Name d.x d.px)) (W_ d.n) (d.b::d.bs) d.pos
structure Jk (G:cc) (c:Cx) (ok:Nat->Bool) (d:HD):Prop where
 kx:c.env.kindOf d.x=W_ .globalImplicit
 dx:(d.x==("__debug__":Str))=Xb
 e:nsIn G.K Yj d.x=W_ (W_ (.ref (G.cA d.cl)))
 ex:oh G d.cl
 nx:c.nm[d.i]?=W_ d.n
 kn:c.env.kindOf d.n=W_ .local
 sub:∀a,ok a=Xg->mroIn G.K (G.cA a) (.ref (G.cA d.cl))=W_ (XI a d.cl)
 hW:∀e σ k,d.W σ k->oj G (kZ c e) (d.b::d.bs) σ k iX
theorem ph{ok:Nat->Bool}{e:Addr}{L:Option Addr}{x:di}(O:bg c):∀(hs:List HD){g:bQ}{σ:St}{s:XB}{role:Addr->Role}{Lc:Hp},(∀d∈hs,Jk G c ok d)->g₀.le g->RH G role g ((e,.jU L Xg x.1 x.2)::(σ.H++(Lc++c.F))) s->oa G c g Lc σ.r->
  rx ok (hs.map λd=>(d.cl,d.i,d.W)) x σ Q->XT G.M c.A (handleBy (.ref e) c.env (hs.map HD.mk')) (FW G c g₀ Q) (XW G c g₀ X) s:=by
 intro hs;induction hs with|nil=>intro g σ s role Lc _ _ _ _ h;exact h.elim|cons d hs ih=>
  intro g σ s role Lc hd k0 R l h;have D:=hd d (.head _);obtain⟨h0,h⟩:=h;have K:G.K.In s.heap:=λa o e=>(R.gk _ _ (R.kb a o e)).1;obtain⟨dx,sl,od,ws,e1,-⟩:=R.hold;refine wpAny_handleBy_cons (codeAny_handlers_test (gV (c:=kZ c e) (O.mark) K D.kx D.dx D.e d.px (nI K D.ex (D.sub _ h0) e1 ?_))) (by intro q;cases q);generalize hb:XI x.1 d.cl=zz;induction zz with
  |false=>
   rw[show XI x.1 ((λd:HD=>(d.cl,d.i,d.W)) d).1=Xb from hb]at h
   exact ih (λd m=>hd d (.tail _ m)) k0 R l h|true=>
   rw[show XI x.1 ((λd:HD=>(d.cl,d.i,d.W)) d).1=Xg from hb]at h;obtain⟨h1,h⟩:=h;refine codeAny_handlers_suite_as (gc (L':=Xk) R (.inl rfl) λZ R2=>?_);obtain⟨Y,U,V,J,f1,f2,f3,f4,-⟩:=R2.hold;have R3:RH G role g ((e,.inst 2 x.1 x.2)::(σ.H++(Lc++c.F))) Z:=R2.mod rfl rfl (λC C C C z=>z) (λC C=>rfl) (λb q=>R2.sz b q) ⟨Y,U,V,_,f1,⟨J,rfl⟩,f2,f3,f4⟩;have R4:Rel G (kZ c e) g ⟨(e,.inst 2 x.1 x.2)::σ.H,σ.r⟩ Z:=⟨role,Lc,R3,l⟩;refine fX (c:=kZ c e) O.mark D.nx (.inl D.kn) R4 (.ref e) λs3 R5=>?_;refine XY (D.hW e _ _ (h e) g s3 R5) (λf s4 z=>?_) λe' s' z=>(by induction z with|mk _ _ _ _ _ _ _ _ _ _ q=>exact q.elim);induction z with|mk g4 o σ4 k4 hf R6 q=>
    have R7:Rel G c g4 σ4 s4:=by induction R6 with|mk role Lc R l=>exact⟨role,Lc,R,l⟩
    refine BK O D.nx D.kn R7 λs5 R8=>?_
    obtain⟨H4,r4⟩:=σ4;induction H4 using Xn with|nil=>exact q.elim|cons y H4=>refine⟨g4,o,⟨H4,setAt r4 d.i Xk⟩,k0.trans k4,hf,?_,q⟩;induction R8 with|mk role Lc R l=>exact⟨role,Lc,R.drop (T₀:=[y]),l⟩
theorem HL{ok:Nat->Bool}{body:List Stmt}{d:HD}{hs:List HD}(O:bg c) (K:c.top) (hd:∀M∈d::hs,Jk G c ok M)
  (h:oj G c body σ Q (λx σ'=>rx ok ((d::hs).map λd=>(d.cl,d.i,d.W)) x σ' Q)):eY G c (.Try body ((d::hs).map HD.mk') [] [] pos) σ Q X:=λg s R=>by
 rw[arm_exec_Try];refine Xe (Yd (wpAny_tryStmt_except (h₀:=d.mk') (hs:=hs.map HD.mk') (XY (h g s R) (λf J z=>?_) λv J z=>?_)))
 .induction f with|next=>exact wpAny_execs_nil z|_=>exact z
 .refine XY (ve O K z) (λC V z=>?_) λC C z=>z;induction z with|mk g' e x σ' ev k role Lc R l q=>subst ev;exact gc (L':=Xk) R (.inl rfl) λU R'=>ph O (d::hs) hd k R' l q
theorem AP{l:List (ax×V)}{x:Xj}(hh:A.handled=Xk) (R:Rel G c g σ s) (hv:VR G g (.cj l) x) (hz:∀y∈l,y.1.length<=16777216):lu G A F g x (l.map λy=>.str y.1) s:=by
 obtain⟨d,o,kvs,rfl,U,⟨es,J,hD⟩,ns,K⟩:=hv.m6;have O:=R.gk U;have Y:s.heap.DictAt (YC G.prog G.w) d kvs J:=⟨o,es,O,hD⟩;intro P E h;have up:∀ob b o',s.heap.get? b=W_ o'->(s.heap.push ob).get? b=W_ o':=λob b o' e=>XA _ e;have W:=Walks.dictKeys (knd:=YC G.prog G.w) (A:=A) hh s.heap.objs.size d (Zu (Yb O)) kvs J;have el:kvs.length=(l.map λy=>V.str y.1).length:=by rw[Xl,K.len]
 have W':Walks G.prog G.w A s.heap.objs.size [s.heap.objs.size,d] [s.heap.objs.size] (l.map λy=>V.str y.1).length (λi v=>∃k x,kvs[i]?=W_ (k,x)/\(YC G.prog G.w).is k v=Xg) (λi h=>h.IsKeyIter s.heap.objs.size d i kvs.length J/\h.DictAt (YC G.prog G.w) d kvs J):=el▸W;refine wpAny_pyIter_dict ns Y (h _ _ _ _ _ W' ⟨⟨_,X0 _ rfl,rfl,rfl⟩,Y.at' λo e=>up _ _ _ e⟩ (up _) (λi h' z=>?_) (Xh _) (λb m=>?_) λi v hP=>?_)
 .obtain⟨⟨ob,e,ec,-⟩,-⟩:=z;exact⟨ob,_,e,ec,by decide⟩
 .rcases Xv.mp m with rfl|m
  .exact .inl rfl
  .rw[Xs.mp m];exact .inr (.inl ⟨o,U⟩)
 .obtain⟨k,w,e,hk⟩:=hP;obtain⟨t,rfl⟩:=Xj.isStrOf_shape hk;have Z:(kvs.map (λa=>a.1))[i]?=W_ k:=by rw[X2,e];rfl
  rw[K.1,X2]at Z;obtain⟨y,M,rfl⟩:=X6.mp Z;exact⟨.str y.1,by rw[X2,M];rfl,.str _ _ (hz y (Yq M))⟩
theorem Ht{e:Xd}(O:bg c)(hd:c.hd)(h:bK G c e σ (λv σ'=>match v with|.cj l=>(∀y∈l,y.1.length<=16777216)/\Q (.sq Xg (l.map λy=>.str y.1)) σ'|_=>False) X):yx G c e σ Q X:=λg s R=>Ev.go .refl R h λK v x σ1 M k1 W J R1 q1=>by cases v with|cj l=>exact⟨K,Xg,_,σ1,k1,R1,AP (jY O hd) R1 J q1.1,q1.2⟩|_=>exact q1.elim
theorem uh{y:α}{l:List α}{i:Nat}(h:l[i]?=W_ y):l.set i y=l:=by rw[<-cR];exact set_same (by rw[bf];exact h)
set_option genCtorIdx false in
inductive Gh|iz(i p:Nat)|drop(p:Nat)|Pk(p j q:Nat)|move(p q:Nat)|me(q f p:Nat)|Bb(p q:Nat)|JF
noncomputable def Gh.ctorIdx (x:Gh):Nat:=@Gh.casesOn (λW=>Nat) x (λW W=>0) (λW=>1) (λW W W=>2) (λW W=>3) (λW W W=>4) (λW W=>5) 6
def wA:MO->bG|.list l=>W_ (.lst l)|.aU l=>W_ (.cj l)|.inst 0 cl fs=>W_ (.obj cl fs)|_=>Xk
def mA (H:Hp)(p:Nat)(k:Addr->MO->Prop):Prop:=match aF H p with|some (a,mo)=>k a mo|none=>False
def vP(mo:MO)(k:V->Prop):Prop:=match wA mo with|some v=>k v|none=>False
def Jz(mo:MO)(k:aP->Prop):Prop:=match mo with|.list l=>k l|_=>False
def AV(mo:MO)(k:Nat->Nat->Fs->Prop):Prop:=match mo with|.inst x cl fs=>k x cl fs|_=>False
inductive AtP (H:Hp)(p:Nat)(k:Addr->MO->Prop):Prop|mk (a:Addr)(mo:MO)(e:aF H p=W_ (a,mo))(h:k a mo)
theorem mA.to{k:Addr->MO->Prop}(h:mA H p k):AtP H p k:=by unfold mA at h;generalize e:aF H p=J;induction J with|none=>rw[e]at h;exact h.elim|some x=>rw[e]at h;exact⟨x.1,x.2,e,h⟩
inductive VP(mo:MO)(k:V->Prop):Prop|mk(v:V)(e:wA mo=W_ v)(h:k v)
variable{mo:MO}
theorem vP.to{k:V->Prop}(h:vP mo k):VP mo k:=by unfold vP at h;generalize e:wA mo=J;induction J with|none=>rw[e]at h;exact h.elim|some v=>rw[e]at h;exact⟨v,e,h⟩
inductive LsP(mo:MO)(k:aP->Prop):Prop|mk(l:aP)(e:mo=.list l)(h:k l)
theorem Jz.to{k:aP->Prop}(h:Jz mo k):LsP mo k:=by induction mo with|list l=>exact⟨l,rfl,h⟩|_=>exact h.elim
inductive adi(mo:MO)(k:Nat->Nat->Fs->Prop):Prop|mk(x cl:Nat)(fs:Fs)(e:mo=.inst x cl fs)(h:k x cl fs)
theorem AV.to{k:Nat->Nat->Fs->Prop}(h:AV mo k):adi mo k:=by induction mo with|inst x cl fs=>exact⟨x,cl,fs,rfl,h⟩|_=>exact h.elim
def ghP (o:Gh)(σ:St)(k:St->Prop):Prop:=match o with|.iz i p=>mA σ.H p λa mo=>vP mo λv=>aF σ.r i=W_ (W_ (.ref a))/\iC σ.H p λH=>setC σ.r i (W_ v) λr=>k ⟨H,r⟩|.drop p=>(aF σ.H p).isSome=Xg/\iC σ.H p λH=>k ⟨H,σ.r⟩|.Pk p j q=>mA σ.H p λa m1=>Jz m1 λl=>mA (cK σ.H p) q λb mo=>vP mo λv=>aF l j=W_ (.ref b)/\setC l j v λl=>iC σ.H p λH=>iC H q λH=>k ⟨(a,.list l)::H,σ.r⟩|.move p q=>mA σ.H p λa mo=>iC σ.H p λH=>jW H q (a,mo) λH=>k ⟨H,σ.r⟩|.me q f p=>mA σ.H q λb m1=>AV m1 λx cl fs=>mA (cK σ.H q) p λa mo=>vP mo λv=>da fs f=W_ (.ref a)/\iC σ.H q λH=>iC H p λH=>k ⟨(b,.inst x cl (ip fs f v))::H,σ.r⟩|.JF=>∃D H',σ.H.Perm (D++H')/\k ⟨H',σ.r⟩|.Bb p q=>k σ\/mA σ.H p λa m1=>Jz m1 λl=>mA (cK σ.H p) q λb mo=>vP mo λv=>∃i,l=i++[.ref b] /\iC σ.H p λH=>iC H q λH=>jW H p (a,.list (i++[v])) λH=>k ⟨H,σ.r⟩
variable{v:V}
theorem RH.freeze{a:Addr}(J:G.K.lookup Yu≠Xk)(R:RH G role g ((a,mo)::T) s)(h:wA mo=W_ v):yz G g T s v a:=by
 induction mo with
 |list l=>cases h;exact R.mg|aU l=>
  cases h;refine R.Bc ?_;rw[W9];rintro rfl;generalize e:G.K.lookup Yu=M;induction M with|none=>exact J e|some o=>
   have:=(R.gk _ _ (R.kb _ _ e)).2;rw[(R.hk _ (.head _)).1]at this;cases this|inst x cl fs=>
  induction x using XN with
  |zero=>cases h;exact R.qR
  |succ=>exact gG h
 |_=>exact gG h
theorem pM.UB{fs:Fs}{od:Obj}{f:Nat}{a:Addr}(F:pM G g fs od)(e:da fs f=W_ (.ref a))(h:VR G g v (.ref a)):pM G g (ip fs f v) od:=by
 induction F with|mk m vf n z h0 h1=>
  obtain⟨es,J,z1,z2⟩:=z;refine⟨m,vf,n,⟨es,J,z1,by rw[nK,e];exact z2⟩,λi hi q=>h0 i hi ?_,λi w hi q=>?_⟩
  .rw[iy]at q;split at q
   .exact Tr q
   .exact q
  .rw[iy]at q;split at q
   .rename_i hif;cases q;subst hif;obtain⟨q1,q2⟩:=h1 i _ hi e;refine⟨q1,?_⟩;rw[q2.dZ];exact h
   .exact h1 i w hi q
inductive GhR(G:cc)(c:Cx)(g:bQ)(s:XB)(k:St->Prop):Prop|mk(g':bQ)(σ':St)(k1:g.le g')(R:Rel G c g' σ' s)(h:k σ')
theorem mW{q:Nat}{x y:Addr×MO}(J:aF H p=W_ x)(e:aF (cK H p) q=W_ y):(H++T).Perm (y::(x::cK (cK H p) q)++T):=((((dG J).trans ((dG e).cons _)).trans (.swap ..)).append_right _)
theorem qP{j q:Nat}{Lc:Hp}{r:List bG}{a b:Addr}{e:aP}{k:St->Prop}(M:G.K.lookup Yu≠Xk) (R:RH G role g (H++(Lc++F)) s) (hp:aF H p=W_ (a,.list e)) (Z:aF (cK H p) q=W_ (b,mo)) (V:wA mo=W_ v) (hj:e[j]?=W_ (.ref b)):
  yz G g (((a,.list (setAt e j v))::cK (cK H p) q)++(Lc++F)) s v b:=by
 obtain⟨role',g',k1,R',J⟩:=(R.perm (mW hp Z)).freeze M V;refine⟨role',g',k1,?_,J⟩;obtain⟨vs,n,e1,O,e2⟩:=(R'.hk (a,.list e) (.head _)).2;refine RH.mod (mo:=.list e) (mo':=.list (setAt e j v)) R' rfl rfl (λW W W W z=>z) (λW W=>rfl) (λb q=>R'.sz b q) ⟨vs,n,e1,by rw[cR,List.length_set];exact O,?_⟩;obtain⟨y,U,Y⟩:=e2.get hj;obtain rfl:=Y.dZ;have:=e2.set (i:=j) J;rwa[uh U]at this
theorem HG{o:Gh}{k:St->Prop}(J:G.K.lookup Yu≠Xk) (R:Rel G c g σ s) (h:ghP o σ k):GhR G c g s k:=by
 induction R with
 |mk role Lc R l=>
  induction o with
  |iz i p=>
   obtain⟨a,mo,M,h⟩:=mA.to h;obtain⟨v,U,hr,h⟩:=vP.to h;obtain⟨role',g',k1,R',O⟩:=(R.perm ((dG M).append_right _)).freeze J U;exact⟨g',⟨cK σ.H p,setAt σ.r i (W_ v)⟩,k1,⟨role',Lc,R',(l.mono k1).reV hr O⟩,cM (d_ h)⟩|drop p=>
   obtain⟨h1,h⟩:=h;obtain⟨x,M⟩:=Y3.mp h1;exact⟨g,⟨cK σ.H p,σ.r⟩,.refl,⟨role,Lc,(R.perm ((dG M).append_right _)).drop (T₀:=[x]),l⟩,d_ h⟩|Pk p j q=>
   obtain⟨a,Z,M,h⟩:=mA.to h;obtain⟨ls,rfl,h⟩:=Jz.to h;obtain⟨b,mo,V,h⟩:=mA.to h;obtain⟨v,U,Y,h⟩:=vP.to h;obtain⟨role',g',k1,R',-⟩:=qP (k:=k) (r:=σ.r) J R M V U ((bf _ _).symm.trans Y);exact⟨g',⟨(a,.list (setAt ls j v))::cK (cK σ.H p) q,σ.r⟩,k1,⟨role',Lc,R',l.mono k1⟩,d_ (d_ (cM h))⟩|move p q=>
   obtain⟨a,mo,M,h⟩:=mA.to h;exact⟨g,⟨cX (cK σ.H p) q (a,mo),σ.r⟩,.refl,⟨role,Lc,R.perm (((dG M).trans dF.symm).append_right _),l⟩,f_ (d_ h)⟩|me p f q=>
   obtain⟨a,Z,M,h⟩:=mA.to h;obtain⟨x,cl,fs,rfl,h⟩:=AV.to h;obtain⟨b,mo,V,h⟩:=mA.to h;obtain⟨v,U,Y,h⟩:=vP.to h;obtain⟨role',g',k1,R',O⟩:=(R.perm (mW M V)).freeze J U;refine⟨g',⟨(a,.inst x cl (ip fs f v))::cK (cK σ.H p) q,σ.r⟩,k1,⟨role',Lc,?_,l.mono k1⟩,d_ (d_ h)⟩;refine RH.mod (mo:=.inst x cl fs) (mo':=.inst x cl (ip fs f v)) R' rfl rfl (λW W W W z=>z) (λW W=>rfl) (λb q=>R'.sz b q) ?_;have m:MR G g' s.heap role' a (.inst x cl fs):=(R'.hk (a,.inst x cl fs) (.head _)).2;induction m with
   |mk dx sl od dt e d r e' F=>exact⟨dx,sl,od,dt,e,d,r,e',F.UB Y O⟩
  |JF=>
   obtain⟨D,H',M,h⟩:=h
   refine⟨g,⟨H',σ.r⟩,.refl,⟨role,Lc,?_,l⟩,h⟩;have R':=R.perm (M.append_right (Lc++c.F));rw[Xf]at R';exact R'.drop|Bb p q=>
   rcases h with h|h
   .exact⟨g,σ,.refl,⟨role,Lc,R,l⟩,h⟩
   obtain⟨a,Z,M,h⟩:=mA.to h;obtain⟨ls,rfl,h⟩:=Jz.to h;obtain⟨b,mo,V,h⟩:=mA.to h;obtain⟨v,U,is,rfl,z⟩:=vP.to h;obtain⟨role',g',k1,R',-⟩:=qP (k:=k) (r:=σ.r) (j:=is.length) J R M V U List.getElem?_concat_length;rw[cR,List.set_append_right _ _ (Xh _),Nat.sub_self]at R';exact⟨g',⟨cX (cK (cK σ.H p) q) p (a,.list (is++[v])),σ.r⟩,k1,⟨role',Lc,R'.perm (dF.symm.append_right _),l.mono k1⟩,f_ (d_ (d_ z))⟩
def cC(a b:Str):Bool:=sEq a.cps.toList b.cps.toList
theorem cU{a b:Str}(h:cC a b):a=b:=by unfold cC at h;rw[bH,W8]at h;obtain⟨⟨a⟩⟩:=a;obtain⟨⟨b⟩⟩:=b;have h:a=b:=h;rw[h]
inductive Ty|i|s|y|q|o
noncomputable def Jp:V->Ty|.int _=>.i|.str _=>.s|.bytes _=>.y|.sq _ _=>.q|_=>.o
noncomputable def B7:Operator->Ty->Option JR|.Add,.i=>W_ .add|.Add,.s=>W_ .cat|.Add,.y=>W_ .B3|.Sub,.i=>W_ .sub|.Mult,.i=>W_ .mul|.Mult,.s=>W_ .rep|.FloorDiv,.i=>W_ .div|.Mod,.i=>W_ .mod|.Pow,.i=>W_ .pow|_,_=>Xk
def I7 (op:Operator)(p:Nat)(H:Hp)(a b:V)(k:V->Prop):Prop:=match B7 op (Jp a)with|some o=>R9 o a b k|none=>match op with|.Add=>OW p H a b k|_=>False
theorem yf (op:Operator)(t:Ty):(B7 op t).all (λo=>decide (o.op=op)):=by cases op<;>cases t<;>rfl
theorem all_some{x:Option α}{p:α->Bool}{o:α}(h:x.all p)(e:x=W_ o):p o:=by rw[e]at h;exact h
theorem B6{op:Operator}{t:Ty}{o:JR}(h:B7 op t=W_ o):o.op=op:=W3 (all_some (p:=λo=>decide (o.op=op)) (yf op t) h)
variable{r:Xd}{ps:Pos}
theorem BB{op:Operator}{l:Xd}(h:bK G c l σ (λa σ1=>bK G c r σ1 (λb σ2=>I7 op p σ2.H a b λv=>Q v σ2) X) X):bK G c (.BinOp l op r ps) σ Q X:=λg s R=>
 wpAny_BinOp (Ev.go .refl R h λg1 a x σ1 s1 k1 W O R1 h1=>Ev.go k1 R1 h1 λY b y σ2 s2 k2 J M R2 h2=>by
  unfold I7 at h2;generalize e:B7 op (Jp a)=U;induction U with|some o=>
   rw[e]at h2;obtain rfl:=B6 e;exact B_ (O.mono J) M h2 λv val t K q=>⟨Y,v,σ2,k2,K,R2.tok,q⟩|none=>
   rw[e]at h2;induction op with|Add=>exact Cp R2 (O.mono J) M h2 λV v z Z k3 K R3 q=>⟨V,v,σ2,k2.trans k3,K,R3,q⟩|_=>exact h2.elim)
set_option genCtorIdx false in
inductive CK|c(o:S7)|d(o:S4)|m(n:Bool)
noncomputable def CK.ctorIdx (x:CK):Nat:=@CK.casesOn (λW=>Nat) x (λW=>0) (λW=>1) (λW=>2)
def CK.op:CK->CmpOp|.c o=>o.op|.d o=>o.op|.m n=>AW n
noncomputable def eqT (t:Ty)(q:Nat):Option CK:=match q with
 |0=>match t with|.i=>W_ (.c .eqI)|.s=>W_ (.c .TN)|_=>Xk
 |1=>W_ (.d .TM)|2=>W_ (.d .Py)|_=>W_ (.d .TL)
noncomputable def neT (t:Ty)(q:Nat):Option CK:=match q with
 |0=>match t with|.i=>W_ (.c .VQ)|.s=>W_ (.c .Tv)|_=>Xk
 |_=>W_ (.d .Tu)
noncomputable def O8:Ty->CK|.s=>.c .TG|_=>.m Xb
noncomputable def VM:Ty->CK|.s=>.c .Al|_=>.m Xg
def BN (op:CmpOp)(t u:Ty)(q:Nat):Option CK:=match op with|.Eq=>eqT t q|.NotEq=>neT t q|.Lt=>W_ (.c .ltI)|.LtE=>W_ (.c .WA)|.Gt=>W_ (.c .gtI)|.GtE=>W_ (.c .geI)|.Is=>W_ (.c .j7)|.IsNot=>W_ (.c .Ak)|.In=>W_ (O8 u)|.NotIn=>W_ (VM u)
def xU (op:CmpOp) (p q:Nat) (H:Hp) (a b:V) (k:Bool->Prop):Prop:=match BN op (Jp a) (Jp b) q with|some (.c o)=>QB o a b k|some (.d o)=>Iz o p H a b k|some (.m n)=>inP p H a b λz=>k (neg? n z)|none=>False
theorem BC (t:Ty)(q:Nat):(eqT t q).all (λo=>decide (o.op=.Eq)):=by rcases q with _|_|_|q<;>first|rfl|(cases t<;>rfl)
theorem Am (t:Ty)(q:Nat):(neT t q).all (λo=>decide (o.op=.NotEq)):=by rcases q with _|q<;>first|rfl|(cases t<;>rfl)
theorem xO (op:CmpOp)(t u:Ty)(q:Nat):(BN op t u q).all (λo=>decide (o.op=op)):=by induction op with|Eq=>exact BC t q|NotEq=>exact Am t q|In=>cases u<;>rfl|NotIn=>cases u<;>rfl|_=>first|rfl|(cases t<;>rfl)
theorem BM{op:CmpOp}{t u:Ty}{q:Nat}{o:CK}(h:BN op t u q=W_ o):o.op=op:=W3 (all_some (p:=λo=>decide (o.op=op)) (xO op t u q) h)
theorem q_{op:CmpOp}{q:Nat}{a b:V}{x y:Xj}{k:Bool->Prop}(J:G.K.lookup Yu≠Xk) (Z:A.units+20<cLine) (R:Rel G c g σ s) (U:VR G g a x) (O:VR G g b y) (h:xU op p q σ.H a b k)
  (fin:∀z t,k z->P (.bool z) {s with toks:=t}):XT G.M A (compareOp op x y) P E s:=by
 unfold xU at h;generalize e:BN op (Jp a) (Jp b) q=Y;induction Y with|none=>rw[e]at h;exact h.elim|some o=>rw[e]at h;obtain rfl:=BM e;induction o with|c o=>exact BP U O h λv q=>fin v s.toks q|d o=>exact BR Z R U O h λv q=>fin v s.toks q|m n=>exact Hy J R U O h λz t q=>fin _ t q
theorem By{op:CmpOp}{q:Nat}{l:Xd}(O:bg c)(e:G.K.lookup Yu≠Xk)(M:YO op r=Xb)(h:bK G c l σ (λa σ1=>bK G c r σ1 (λb σ2=>xU op p q σ2.H a b λv=>Q (.bool v) σ2) X) X):bK G c (.Compare l [op] [r] ps) σ Q X:=λg s R=>
 wpAny_Compare1 (Ev.go .refl R h λg1 a x σ1 s1 k1 W V R1 h1=>Ev.go k1 R1 h1 λY b y σ2 Z k2 J U R2 h2=>q_ e (CC O) R2 (V.mono J) U h2 λv t q=>⟨Y,_,σ2,k2,.bool _,R2.tok,q⟩) M
theorem zo{op:CmpOp}{q:Nat}{l:Xd}(O:bg c)(e:G.K.lookup Yu≠Xk)(M:YO op r=Xb)(h:bK G c l σ (λa σ1=>bK G c r σ1 (λb σ2=>xU op p q σ2.H a b λv=>Q (.bool v) σ2) X) X):oA G c (.Compare l [op] [r] ps) σ Q X:=λg s R=>
 wpAny_isTrue_Compare1 (Ev.go .refl R h λg1 a x σ1 s1 k1 W V R1 h1=>Ev.go k1 R1 h1 λY b y σ2 Z k2 J U R2 h2=>q_ e (CC O) R2 (V.mono J) U h2 λv t q=>Zq ⟨Y,σ2,k2,R2.tok,q⟩) M
set_option genCtorIdx false in
inductive GV where|con(v:V)|fn(i:Nat)|cl(c:Nat)|ty(s:String)
noncomputable def GV.ctorIdx (x:GV):Nat:=@GV.casesOn (λW=>Nat) x (λW=>0) (λW=>1) (λW=>2) (λW=>3)
noncomputable def tyE:GV:=.ty "Exception"
noncomputable def tyB:GV:=.ty "bytes"
noncomputable def tyS:GV:=.ty "str"
section
local macro_rules | `($s:str) => do `([$((s.getString.toList.map λc => Lean.Syntax.mkNumLit (toString c.toNat)).toArray),*])
def ATL:List Str:=[S "line",S "column",S "what",S "at",S "kind",S "worth",S "name",S "sign",S "body",S "left",S "right",S "plus",S "minus",S "equates",S "text",S "tokens",S "way",S "instruction",S "word",S "args",S "node",S "iset",S "readers",S "syntax",S "statements",S "waiting",S "counts",S "awaited",S "points",S "told",S "is_number",S "is_symbol",S "negate",S "add",S "places",S "put",S "find",S "settled",S "is_sign",S "is_backward",S "place",S "is_done",S "passed",S "name_end",S "number",S "constant",S "quote",S "register",S "mark",S "token",S "peek",S "ahead",S "take",S "is_end",S "skip",S "skip_name",S "need",S "need_end",S "rest_place",S "read",S "read_instructions",S "labels",S "label",S "bound",S "pin",S "equate",S "deed",S "choose",S "listed",S "sized",S "names",S "numbers",S "texts"]
def JN:List Str:=[S "_wall",S [],S [],S [],S [],S [],S [],S [],S [],S [],S [],S [],S [],S [],S [],S [],S "left_spine",S "level_of",S "binary_level",S "read_part",S "read_level",S "read_expr",S [],S [],S [],S [],S [],S [],S [],S "affine_of",S [],S [],S [],S [],S "quotient",S "shifted",S "reckoned",S "combined",S "turned",S "evaluate",S "names_in",S "has_here",S "digit_of",S "is_letter",S "begins_name",S "is_name_sign",S "read_escape",S "read_char",S "text_end",S "line_end",S "piece_end",S "split_lines",S "number_worth",S "local_worth",S [],S [],S [],S [],S [],S [],S [],S [],S [],S [],S [],S [],S [],S [],S [],S "line_tokens",S [],S [],S [],S [],S [],S [],S [],S [],S [],S [],S [],S [],S [],S [],S [],S [],S [],S [],S [],S [],S [],S "told_argument",S "pinned",S "local_name",S "point_name",S "solve_equates",S "text_octets",S "need_end",S [],S [],S [],S [],S [],S [],S [],S [],S [],S [],S [],S [],S [],S [],S [],S [],S [],S "read_statements",S "_law_reader",S "_law_other",S "_law_draw",S "_law_add",S "_law_local",S "_law_sum",S "_law_pinned",S "_law_listed",S "_law_sized",S "_law_equate",S "_law_plain",S "_law_line",S "_law_affine",S "_law_settled",S "_law_due",S "_law_heard",S "law"]
def CNL:List Str:=[S "Place",S "MintError",S "ReadError",S "SymbolError",S "Expr",S "Number",S "Symbol",S "Here",S "Unary",S "Binary",S "Affine",S "Scope",S "Token",S "LineReader",S "Cursor",S "Statement",S "Label",S "Code",S "Deed",S "Equate",S "SourceReader"]
def PRL:List Str:=[S "len",S "ord",S "chr",S "abs",S "int",S "str",S "tuple",S "list",S "sorted",S "sum",S "max",S "bytes",S "dict",S "isinstance"]
def SQ:List (Str×GV):=[(S "MOST_DEPTH",.con (.int 10)),
 (S "MOST_SHIFT",.con (.int 63)),
 (S "SIGNS",.con (.str "+-*/%&|^~!()[],:$=<>")),
 (S "ESCAPE_SIGNS",.con (.str "btnfr\"'\\")),
 (S "ESCAPE_CODES",.con (.str [8,9,10,12,13,34,39,92])),
 (S "TOP",.con (.int 18446744073709551615)),
 (S "SECTIONS",.con (.str ".text .data .bss")),
 (S "LISTS",.con (.str ".byte .word .short .long .int .quad .uleb128 .sleb128")),
 (S "TEXTS",.con (.str ".ascii .asciz .string")),
 (S "ONE_NUMBER",.con (.str ".align .balign .p2align .org .zero")),
 (S "TWO_NUMBERS",.con (.str ".skip .space")),
 (S "EQUATES",.con (.str ".set .equ .equiv")),
 (S "_law_lists",.con (.tup [.str ".byte",.str ".word",.str ".short",.str ".long",.str ".int",.str ".quad",.str ".uleb128",.str ".sleb128"])),
 (S "_law_deeds",.con (.tup [.tup [.str ".align",.int 1],.tup [.str ".balign",.int 1],.tup [.str ".p2align",.int 1],.tup [.str ".org",.int 1],.tup [.str ".zero",.int 1],.tup [.str ".skip",.int 2],.tup [.str ".space",.int 2],.tup [.str ".fill",.int 3]])),
 (S "_law_pool",.con (.tup [.str "p",.str "q",.str "r",.str "u",.str "v",.str "w",.str "z"])),
 (S "_law_quotes",.con (.tup [.tup [.str "\"\"",.bytes []],.tup [.str "\"a; p: #\"",.bytes "a; p: #"],.tup [.str "\"\\\"\\101\\n\"",.bytes "\"A\n"],.tup [.str "\"\\377\\0\"",.bytes [255,0]]])),
 (S "_law_words",.con (.tup [.tup [.str ".text",.tup []],.tup [.str ".bss",.tup []],.tup [.str ".section .a$1",.tup [.str ".a$1"]],.tup [.str ".globl p",.tup [.str "p"]],.tup [.str ".globl q , z,u",.tup [.str "q",.str "z",.str "u"]]])),
 (S "_law_reader",.fn 116),
 (S "_law_other",.fn 117),
 (S "Statement",.cl 15),
 (S "Exception",tyE),
 (S "bytes",tyB),
 (S "str",tyS)]
end
noncomputable def FLT:List ax:=[[0,1],[2,3],[2,3],[2,3],[4],[4,5],[4,6],[4],[4,7,8],[4,7,9,10],[5,11,12],[13],[4,14,5,3],[14,0,3],[15,3],[16,3],[16,3,6],[16,3,17],[16,3,18,19],[16,3,6,20],[21,22,23,24,25,13,26,27,28]]
noncomputable def MTT:List (List (Nat×Nat)):=[[(29,2)],[(29,4)],[(29,4)],[(29,4)],[(29,6)],[(29,8)],[(29,10)],[(29,6)],[(29,13)],[(29,15)],[(29,23),(30,24),(31,25),(32,26),(33,27),(34,28)],[(35,31),(36,32),(37,33)],[(38,55),(39,56),(29,57)],[(40,59),(41,60),(42,61),(43,62),(44,63),(45,64),(46,65),(47,66),(48,67),(49,68)],[(50,71),(51,72),(52,73),(38,74),(53,75),(54,76),(55,77),(56,78),(57,79),(6,80),(58,81)],[],[(29,84)],[(29,86)],[(29,88)],[(29,90)],[(59,99),(60,100),(0,101),(61,102),(62,103),(63,104),(64,105),(65,106),(66,107),(67,108),(68,109),(69,110),(6,111),(70,112),(71,113),(72,114)]]
noncomputable def INL:ax:=[1,3,3,3,5,7,9,11,12,14,22,30,54,58,70,82,83,85,87,89,98]
def Nr(l:List Str)(i:Nat):Str:=match aF l i with|some s=>s|none=>S [1000+i]
def AN(i:Nat):Str:=Nr ATL i
def FL(c:Nat):ax:=match aF FLT c with|some l=>l|none=>[]
noncomputable def qs{α:Type}:List (Nat×α)->Nat->Option α|[],_=>Xk|y::l,k=>match XI y.1 k with|true=>W_ y.2|false=>qs l k
def MT(c m:Nat):Option Nat:=match aF MTT c with|some l=>qs l m|none=>Xk
def yy(c:Nat):Nat:=match aF INL c with|some i=>i|none=>0
def N8(c:Nat):Bool:=fM c [0,5,6,7,8,9,10,11,12,13,14,16,17,18,19,20]
def mM(c:Nat):Bool:=fM c [2,3]
def i9(c:Nat):Bool:=fM c [5,6,7,8,9]
structure U where
 w:ZJ
 K:Frag
 os:Y2
 cA:Nat->Addr
 fa:Nat->Addr
abbrev GX(u:U):cc:=⟨Yz,u.w,u.K,AN,u.cA,FL,MT,u.fa,u.os⟩
noncomputable def A7 (u:U):GV->V|.con v=>v|.fn i=>.cst (.ref (u.fa i))|.cl c=>.cst (.ref (u.cA c))|.ty s=>.cst (.type s)
noncomputable def uw:Nat->Xj|0=>.builtin "len"|1=>.builtin "ord"|2=>.builtin "chr"|3=>.builtin "abs"|4=>.type "int"|5=>.type "str"|6=>.type "tuple"|7=>.type "list"|8=>.builtin "sorted"|9=>.builtin "sum"|10=>.builtin "max"|11=>.type "bytes"|12=>.type "dict"|13=>.builtin "isinstance"|_=>.builtin "len"
def Na (p:Nat):Nat->PK|0=>k1 (OL p)|1=>k1 OI|2=>k1 OT|3=>k1 OX|4=>k1 OP|5=>k1 OC|6=>k1 (OA p)|7=>k1 (OK p)|8=>k1 (OD p)|9=>k1 (OB p)|10=>k1 (OJ p)|11=>k1 (OU p)|12=>k1 (OS p)|13=>k2 (OO i9)|_=>λW W W=>False
theorem Gl (e:G.K.lookup Yu≠Xk) (hi:∀c,i9 c->rk G [.type "bytes",.type "str"] c) (b:Nat):Prim G (λvs=>call (uw b) vs) (Na p b):=by
 rcases b with _|_|_|_|_|_|_|_|_|_|_|_|_|_|b
 .exact@bL.to G _ _ (@uI G p e)
 .exact@bL.to G _ _ (@uF G)
 .exact@bL.to G _ _ (@uR G)
 .exact@bL.to G _ _ (@uU G)
 .exact@bL.to G _ _ (@uM G)
 .exact@bL.to G _ _ (@uz G)
 .exact@bL.to G _ _ (@ux G p)
 .exact@bL.to G _ _ (@uH G p)
 .exact@bL.to G _ _ (@uA G p)
 .exact@bL.to G _ _ (@uy G p)
 .exact@bL.to G _ _ (@uG G p)
 .exact@bL.to G _ _ (@uS G p)
 .exact@bL.to G _ _ (@uQ G p)
 .exact@fg.to G _ _ (@uL G i9 hi)
 .intro c g σ s A E P l vs k _ _ _ h;exact h.elim
theorem oN(b:Nat):(∃i,uw b=.builtin i) \/ ∃T,uw b=.type T:=by rcases b with _|_|_|_|_|_|_|_|_|_|_|_|_|_|b<;>first|exact .inl ⟨_,rfl⟩|exact .inr ⟨_,rfl⟩
def NZ(p m:Nat)(H:Hp)(v:V):Prop:=match m with|0=>eU p H v λW W=>True|1=>eU p H v λW W=>True|2=>eU p H v λW W=>True|3=>eU p H v λW W=>True|4=>nS p H v λW W=>True|_=>eE v λW=>True
def N0 (p:Nat):Nat->PK|0=>k2 (OV p)|1=>k1 (OH p)|2=>k1 (OF p)|3=>k2 (OG p)|4=>k3 (OQ p)|5=>k2 OE|6=>k2 (Hm p)|7=>k1 OR|_=>λW W W=>False
noncomputable def GL:List (Str×Nat):=[("append",0),("pop",1),("reverse",2),("remove",3),("get",4),("split",5),("join",6),("isdigit",7)]
theorem pY{x:Xj}(R:Rel G c g σ s)(J:VR G g v x)(h:eU p σ.H v λW W=>True):s.TypeIs x "list" /\ ∀a,x=.ref a-> ∃ob,s.heap.get? a=W_ ob/\ob.dict=Xk:=by obtain⟨l,vs,a,n,-,h1,-⟩:=eU.to R J h;exact⟨⟨_,h1,rfl⟩,λb e=>by cases e;exact⟨_,h1,rfl⟩⟩
theorem La{x:Xj}(R:Rel G c g σ s)(K:VR G g v x)(h:nS p σ.H v λW W=>True):s.TypeIs x "dict" /\ ∀a,x=.ref a-> ∃ob,s.heap.get? a=W_ ob/\ob.dict=Xk:=by obtain⟨r,l,kvs,rfl,-,J,-⟩:=nS.to R K h;exact⟨J.mapOf.typeIs,λb e=>by cases e;obtain⟨o,es,M,h1,h2,-⟩:=J;exact⟨o,h1,h2.2.1⟩⟩
theorem tS{x:Xj}(J:VR G g v x)(h:eE v λW=>True):s.TypeIs x "str" /\ ∀a,x=.ref a-> ∃ob,s.heap.get? a=W_ ob/\ob.dict=Xk:=by obtain⟨i,t,rfl,-⟩:=eE.run h J;exact⟨typeIs_str _ _ _,λa e=>nomatch e⟩
theorem H3{o:Xd}{m:Nat}{args:List Xd}{pp:Pos}(O:bg c) (hd:c.hd) (Y:G.K.lookup Yu≠Xk) (V:∀w,Zm o name c.env w=w) (e:args.length<20) (M:b0 c args) (U:(ap.endLine==pp.line)) (Z:(name,m)∈GL)
  (h:bK G c o σ (λv σ1=>NZ p m σ1.H v/\jC G c pp args σ1 (λl σ'=>isQ Xb l λl=>N0 p m σ'.H (v::l) λv H'=>Q v ⟨H',σ'.r⟩) X) X):bK G c (.Call (.Attribute o name ap) args [] pp) σ Q X:=by
 unfold GL at Z;simp only[Xv,Prod.mk.injEq,YA,or_false]at Z;rcases Z with⟨rfl,rfl⟩|⟨rfl,rfl⟩|⟨rfl,rfl⟩|⟨rfl,rfl⟩|⟨rfl,rfl⟩|⟨rfl,rfl⟩|⟨rfl,rfl⟩|⟨rfl,rfl⟩
 .exact i' (T:="list") (ty:=λH v=>eU p H v λW W=>True) O hd V e M U ZC PySem.F.slot_list_append PySem.F.type_list_append (@fg.to G _ _ (@uT G p)) (λR J h=>pY R J h) h
 .exact i' (T:="list") (ty:=λH v=>eU p H v λW W=>True) O hd V e M U ZC PySem.F.slot_list_pop PySem.F.type_list_pop (@bL.to G _ _ (@uE G p)) (λR J h=>pY R J h) h
 .exact i' (T:="list") (ty:=λH v=>eU p H v λW W=>True) O hd V e M U ZC PySem.F.slot_list_reverse PySem.F.type_list_reverse (@bL.to G _ _ (@uC G p)) (λR J h=>pY R J h) h
 .exact i' (T:="list") (ty:=λH v=>eU p H v λW W=>True) O hd V e M U ZC PySem.F.slot_list_remove PySem.F.type_list_remove (@fg.to G _ _ (@uD G p)) (λR J h=>pY R J h) h
 .exact i' (T:="dict") (ty:=λH v=>nS p H v λW W=>True) O hd V e M U PySem.F.plainAttrs_dict PySem.F.slot_dict_get PySem.F.type_dict_get (@uN G p Y) (λR J h=>La R J h) h
 .exact i' (T:="str") (ty:=λH v=>eE v λW=>True) O hd V e M U PySem.F.plainAttrs_str ZL PySem.F.type_str_split (@fg.to G _ _ (@uB G)) (λW J h=>tS J h) h
 .exact i' (T:="str") (ty:=λH v=>eE v λW=>True) O hd V e M U PySem.F.plainAttrs_str PySem.F.slot_str_join PySem.F.type_str_join (@fg.to G _ _ (@uJ G p)) (λW J h=>tS J h) h
 .exact i' (T:="str") (ty:=λH v=>eE v λW=>True) O hd V e M U PySem.F.plainAttrs_str PySem.F.slot_str_isdigit PySem.F.type_str_isdigit (@bL.to G _ _ (@uP G)) (λW J h=>tS J h) h
structure EV where
 tag:Nat
 c:Const
 k:Nat
 p:Pos
 nm:Str
 a:Xd
 b:Xd
 d:Xd
 l:List Xd
 op:Operator
 bo:ZO
 ops:List CmpOp
 ks:List (Option Xd)
 o1:Option Xd
 o2:Option Xd
 kw:List Keyword
 gs:List Comprehension
 sc:Scope
noncomputable abbrev dP:Pos:=⟨0,0,0,0⟩
abbrev dE:Xd:=.Constant .none 0 dP
abbrev dV:EV:=⟨99,.none,0,dP,S [],dE,dE,dE,[],.Add,.And,[],[],Xk,Xk,[],[],⟨.module,[],Xb,Xb,[]⟩⟩
noncomputable def CE(t:Nat)(v:EV):Xd:=match t with|0=>.Constant v.c v.k v.p|1=>.Name v.nm v.p|2=>.Attribute v.a v.nm v.p|3=>.BinOp v.a v.op v.b v.p|4=>.UnaryOp .USub v.a v.p|5=>.UnaryOp .Not v.a v.p|6=>.IfExp v.a v.b v.d v.p|7=>.BoolOp v.bo v.l v.p|8=>.Compare v.a v.ops v.l v.p|9=>.Tuple v.l v.k v.p|10=>.List v.l v.p|11=>.Dict v.ks v.l v.p|12=>.Subscript v.a v.b v.p|13=>.Slice v.o1 v.o2 Xk v.p|14=>.Call v.a v.l v.kw v.p|15=>.ListComp v.a v.gs v.sc v.p|_=>v.a
def vw (x:Xd):EV:=Xd.casesOn (motive_1:=λW=>EV) x (λbo l p=>{dV with tag:=7,bo:=bo,l:=l,p:=p}) (λW W W=>{dV with a:=x}) (λa op b p=>{dV with tag:=3,a:=a,op:=op,b:=b,p:=p}) (λop a p=>match op with|.USub=>{dV with tag:=4,a:=a,p:=p} |.Not=>{dV with tag:=5,a:=a,p:=p} |_=>{dV with a:=x}) (λW W W W=>{dV with a:=x}) (λa b d p=>{dV with tag:=6,a:=a,b:=b,d:=d,p:=p}) (λks l p=>{dV with tag:=11,ks:=ks,l:=l,p:=p}) (λW W W=>{dV with a:=x}) (λa gs sc p=>{dV with tag:=15,a:=a,gs:=gs,sc:=sc,p:=p}) (λW W W W=>{dV with a:=x}) (λW W W W W=>{dV with a:=x}) (λW W W W=>{dV with a:=x}) (λW W=>{dV with a:=x}) (λW W=>{dV with a:=x}) (λW W=>{dV with a:=x}) (λa ops l p=>{dV with tag:=8,a:=a,ops:=ops,l:=l,p:=p}) (λa l kw p=>{dV with tag:=14,a:=a,l:=l,kw:=kw,p:=p}) (λW W W W=>{dV with a:=x}) (λW W=>{dV with a:=x}) (λc k p=>{dV with tag:=0,c:=c,k:=k,p:=p}) (λa nm p=>{dV with tag:=2,a:=a,nm:=nm,p:=p}) (λa b p=>{dV with tag:=12,a:=a,b:=b,p:=p}) (λW W=>{dV with a:=x}) (λnm p=>{dV with tag:=1,nm:=nm,p:=p}) (λl p=>{dV with tag:=10,l:=l,p:=p}) (λl k p=>{dV with tag:=9,l:=l,k:=k,p:=p}) (λo1 o2 o p=>match o with|none=>{dV with tag:=13,o1:=o1,o2:=o2,p:=p} |_=>{dV with a:=x})
theorem pQ (x:Xd):CE (vw x).tag (vw x)=x:=by cases x with|UnaryOp op a p=>cases op<;>rfl|Slice a b c p=>cases c<;>rfl|_=>rfl
def VI (x:Xd):Bool:=YM (vw x).tag 16
theorem Gy{t:Nat}{v:EV}{xs:List Xd}(h:YM t 16):YJ (CE t v::xs) env=(Xb,eval (CE t v) env)::YJ xs env:=by
 revert h;iterate 16 (obtain _|t:=t;exact λW=>rfl)
 exact λh=>ff h
theorem jM{e:Xd}{xs:List Xd}(h:VI e):YJ (e::xs) c.env=(Xb,eval e c.env)::YJ xs c.env:=by have:=Gy (v:=vw e) (xs:=xs) (env:=c.env) h;rwa[pQ]at this
structure SV where
 tag:Nat
 o1:Option Xd
 o2:Option Xd
 l:List Xd
 a:Xd
 b:Xd
 bs:List Stmt
 cs:List Stmt
 ds:List Stmt
 hs:List ZS
 s:Stmt
 p:Pos
 sc:Scope
abbrev dS:Stmt:=.Pass dP
abbrev dW:SV:=⟨99,Xk,Xk,[],dE,dE,[],[],[],[],dS,dP,⟨.module,[],Xb,Xb,[]⟩⟩
noncomputable def toS(t:Nat)(v:SV):Stmt:=match t with|0=>.Return v.o1 v.p|1=>.Assign v.l v.a v.p|2=>.For v.a v.b v.bs v.cs v.p|3=>.While v.a v.bs v.cs v.p|4=>.If v.a v.bs v.cs v.p|5=>.Raise v.o1 v.o2 v.p|6=>.Try v.bs v.hs v.cs v.ds v.p|7=>.Expr v.a v.p|8=>.Pass v.p|9=>.Continue v.p|_=>v.s
def sw (x:PySem.Stmt):SV:=PySem.Stmt.casesOn (motive_2:=λW=>SV) x (λW W b W W W s W W W=>{dW with bs:=b,sc:=s,s:=x}) (λW W W W W W W W W W=>{dW with s:=x}) (λW W W b W W W W W W W=>{dW with bs:=b,s:=x}) (λo1 p=>{dW with tag:=0,o1:=o1,p:=p}) (λW W=>{dW with s:=x}) (λl a p=>{dW with tag:=1,l:=l,a:=a,p:=p}) (λW W W W W W W=>{dW with s:=x}) (λW W W W=>{dW with s:=x}) (λW W W W W=>{dW with s:=x}) (λa b bs cs p=>{dW with tag:=2,a:=a,b:=b,bs:=bs,cs:=cs,p:=p}) (λW W W W W=>{dW with s:=x}) (λa bs cs p=>{dW with tag:=3,a:=a,bs:=bs,cs:=cs,p:=p}) (λa bs cs p=>{dW with tag:=4,a:=a,bs:=bs,cs:=cs,p:=p}) (λW W W=>{dW with s:=x}) (λW W W=>{dW with s:=x}) (λW W W=>{dW with s:=x}) (λo1 o2 p=>{dW with tag:=5,o1:=o1,o2:=o2,p:=p}) (λbs hs cs ds p=>{dW with tag:=6,bs:=bs,hs:=hs,cs:=cs,ds:=ds,p:=p}) (λW W W W W=>{dW with s:=x}) (λW W W=>{dW with s:=x}) (λW W=>{dW with s:=x}) (λW W W W=>{dW with s:=x}) (λW W=>{dW with s:=x}) (λW W=>{dW with s:=x}) (λa p=>{dW with tag:=7,a:=a,p:=p}) (λp=>{dW with tag:=8,p:=p}) (λW=>{dW with s:=x}) (λp=>{dW with tag:=9,p:=p})
theorem sw_eq (x:Stmt):toS (sw x).tag (sw x)=x:=by cases x<;>rfl
inductive Im{α β:Type}(f:α->β)(k:α->Bool)(y:β):Prop|mk(x:α)(e:y=f x)(h:k x)
@[irreducible] noncomputable def bP (t:Nat)(x:Xd)(k:EV->Bool):Bool:=XI (vw x).tag t&&k (vw x)
theorem bP.inv{t:Nat}{x:Xd}{k:EV->Bool}(h:bP t x k):Im (CE t) k x:=by unfold bP at h;exact⟨vw x,((pQ x).symm.trans (WX (λt=>CE t (vw x)) (XJ (aH h).1))),(aH h).2⟩
@[irreducible] noncomputable def jv (t:Nat)(x:Stmt)(k:SV->Bool):Bool:=XI (sw x).tag t&&k (sw x)
theorem jv.inv{t:Nat}{x:Stmt}{k:SV->Bool}(h:jv t x k):Im (toS t) k x:=by unfold jv at h;exact⟨sw x,((sw_eq x).symm.trans (WX (λt=>toS t (sw x)) (XJ (aH h).1))),(aH h).2⟩
noncomputable def one?{α:Type}(l:List α)(k:α->Bool):Bool:=match l with|[x]=>k x|_=>Xb
theorem one?.inv{l:List α}{k:α->Bool}(h:one? l k):Im (λx=>[x]) k l:=by induction l using Xn with|nil=>exact ff h|cons x l=>induction l using Xn with|nil=>exact⟨x,rfl,h⟩|cons=>exact ff h
noncomputable def two?{α:Type}(l:List α)(k:α->α->Bool):Bool:=match l with|[x,y]=>k x y|_=>Xb
inductive acA(α:Type)(l:List α)(k:α->α->Bool):Prop|mk(x y:_)(h0:l=[x,y])(h1:k x y)
theorem two?.inv{l:List α}{k:α->α->Bool}(h:two? l k):acA α l k:=by induction l using Xn with|nil=>exact ff h|cons x l=>induction l using Xn with|nil=>exact ff h|cons y l=>induction l using Xn with|nil=>exact⟨x,y,rfl,h⟩|cons=>exact ff h
noncomputable def non?{α:Type}(l:List α):Bool:=match l with|[]=>Xg|_=>Xb
theorem non?.inv{l:List α}(h:non? l):l=[]:=by induction l using Xn with|nil=>rfl|cons=>exact ff h
noncomputable def som?{α:Type}(l:Option α)(k:α->Bool):Bool:=match l with|some x=>k x|none=>Xb
theorem som?.inv{l:Option α}{k:α->Bool}(h:som? l k):Im W_ k l:=by induction l with|none=>exact ff h|some x=>exact⟨x,rfl,h⟩
noncomputable def nil?{α:Type}(l:Option α):Bool:=match l with|none=>Xg|_=>Xb
theorem nil?.inv{l:Option α}(h:nil? l):l=Xk:=by induction l with|none=>rfl|some=>exact ff h
noncomputable def con?{α:Type}(l:List α)(k:α->List α->Bool):Bool:=match l with|x::r=>k x r|[]=>Xb
inductive ady(α:Type)(l:List α)(k:α->List α->Bool):Prop|mk(x r:_)(h0:l=x::r)(h1:k x r)
theorem con?.inv{l:List α}{k:α->List α->Bool}(h:con? l k):ady α l k:=by induction l using Xn with|nil=>exact ff h|cons x r=>exact⟨x,r,rfl,h⟩
noncomputable def fC{α:Type}[DecidableEq α] (a b:α):Bool:=decide (a=b)
theorem fC.inv[DecidableEq α] {a b:α}(h:fC a b):a=b:=W3 h
noncomputable def Oi {α:Type}(t:Sem α):Option {x:α//t=pure x}:=Sem.casesOn (motive:=λt=>Option {x:α//t=pure x}) t (λx=>W_ ⟨x,rfl⟩) (λW=>Xk) (λW=>Xk) (λW=>Xk) (λW W=>Xk) (λW W=>Xk) (λW W W=>Xk) (λW W W W=>Xk) (λW W=>Xk) (λW W=>Xk) (λW W=>Xk) (λW W=>Xk) (λW=>Xk) (λW=>Xk) (λW W W=>Xk) (λW W W=>Xk) (λW W W W W=>Xk) (λW W=>Xk) (λW W=>Xk) (λW W=>Xk) (λW W W W=>Xk) (λW W W W=>Xk) (λW=>Xk) (λW W=>Xk) (λW=>Xk) (λW W W W W=>Xk)
def G5{α:Type}(t:Sem α)(k:α->Bool):Bool:=match Oi t with|some x=>k x.1|none=>Xb
theorem G5.inv{t:Sem α}{k:α->Bool}(h:G5 t k):∃x,t=pure x/\k x:=by unfold G5 at h;revert h;cases Oi t with|none=>exact λh=>ff h|some x=>exact λh=>⟨x.1,x.2,h⟩
set_option genCtorIdx false in
inductive N where|lit(v:V)|loc(i:Nat)|h9(j:Nat)|Ub(p f:Nat)(o:N)|bin(op:Operator)(p:Nat)(l r:N)|neg(o:N)|vg(o:N)|fU(o:N)|jk(t a b:N)|RX(op:ZO)(a r:N)|cmp(op:CmpOp)(p q:Nat)(l r:N)|xV(l a b:N)|tup(a:N)|fB(a:N)|lst(q:Nat)(a:N)|TO(q:Nat)|Iv(q:Nat)|TS(q:Nat)(a b x y:Int)|idx(p:Nat)(e i:N)|ix(p k:Nat)(e:N)|rW(p:Nat)(e:N)|CN(e lo hi:N)|CO(p:Nat)(e lo hi:N)|yH|bU(b p:Nat)(a:N)|a_(j:Nat)(ps:ax)(a:N)|QD(ps:ax)(x a:N)|bI(q m:Nat)(ps:ax)(o a:N)|bT(p m:Nat)(o a:N)|new(c q:Nat)(a:N)|ez(c:Nat)(a:N)|IC(c j:Nat)(ps:ax)(a:N)|TV(p:Nat)(a:N)|lc(cz:ax)(it t b:N)|bJ|oz(x r:N)|fb(e:N)|yK(a:N)|TC(e:N)|ret(e:N)|yF|ite(t a b:N)|exp(e:N)|VB|cnt|asg(i:Nat)(e:N)|ast(is:ax)(sw:Bool)(e:N)|sat(p f:Nat)(e o:N)|il(p:Nat)(e o i:N)|Ti(p:Nat)(e o:N)|eH(i:Nat)(it b:N)|iA(is:ax)(it b:N)|Bf(is:ax)(a b:N)|jE(t b:N)|gD(c:Nat)(a:N)|try (b:N)(c1 i1:Nat)(h1:N)(c2 i2:Nat)(h2:N)|JB(i:Nat)(cz:ax)(it t b:N)|TA(p i:Nat)(cz:ax)(it t b:N)|B9|yN(s r:N)|dY(g:Gh)(r:N)
noncomputable def Ig(op:ZO):Bool:=match op with|.And=>Xb|.Or=>Xg
theorem qT{op:ZO}{z:Bool}(h:j2 op z=Xb):z=Ig op:=by cases op<;>cases z<;>first|rfl|exact ft h
def cQ(b:Bool)(p q:Prop):Prop:=match b with|true=>p|false=>q
def Oa (i:Nat)(σ:St)(Q:V->St->Prop):Prop:=ck (aF σ.r i) λo=>ck o λv=>Q v σ
def zC(v:V)(k:aP->Prop):Prop:=match v with|.sq _ l=>k l|_=>False
def CM (v:V) (k:aP->Prop):Prop:=match v with|.sq Xb l=>cQ (XU l.length 16777216) (k l) False|_=>False
def ixP (p k:Nat)(H:Hp)(a:V)(f:V->Prop):Prop:=match a with
 |.sq _ l=>ck (aF l k) f|.str l=>ck (aF l k) λc=>f (.str [c])|.ref r=>fK H p r λm=>match m with
  |.list l=>ck (aF l k) f|.bz l=>ck (l.lookup (k:Int)) f|_=>False
 |_=>False
structure Em where
 h:Bool
 n:Nat
 X:di->St->Prop
section
variable (u:U)(E:Em)(W W':TF)(Q:V->St->Prop)(d:St)
def kQ(v:V):Prop:=Q v d
def kB (b:Bool):Prop:=Q (.bool b) d
def kH:St->Hp->Prop|⟨_,r⟩,H=>Q .none ⟨H,r⟩
def kR:St->V->Hp->Prop|⟨_,r⟩,v,H=>Q v ⟨H,r⟩
def WH:St->di->Hp->Prop|⟨_,r⟩,x,H=>E.X x ⟨H,r⟩
def kNw:St->Nat->Nat->Addr->Fs->Hp->Prop|⟨_,r⟩,q,c,a,fs,H=>jW H q (a,.inst 0 c fs) λH=>Q (.ref a) ⟨H,r⟩
def kNz:St->Nat->Addr->Fs->Hp->Prop|⟨_,r⟩,c,_,fs,H=>Q (.obj c fs) ⟨H,r⟩
def kE:St->Nat->Fs->Hp->Prop|⟨_,r⟩,c,fs,H=>E.X (c,fs) ⟨H,r⟩
def Dv (J:V->V->St->Prop)(a:V)(d:St):Prop:=W d (J a)
def WI (J:V->V->V->St->Prop)(a:V)(d:St):Prop:=W d (Dv W' (J a))
def aau (p f:Nat)(v:V)(d:St):Prop:=Jb (GX u) p f d.H v (kQ Q d)
def aat (op:Operator)(p:Nat)(a b:V)(d:St):Prop:=I7 op p d.H a b (kQ Q d)
def AM (op:CmpOp)(p q:Nat)(a b:V)(d:St):Prop:=xU op p q d.H a b (kB Q d)
def aal (p:Nat)(a b:V)(d:St):Prop:=A2 p d.H a b (kQ Q d)
def aaw (v l:V)(d:St):Prop:=Ed v l (kQ Q d)
def WQ (p f:Nat)(w v:V):St->Prop|⟨H,r⟩=>F2 (GX u) p f H v w (kH Q ⟨H,r⟩)
def WL (p:Nat)(w a:V):St->Prop|⟨H,r⟩=>zA p H a w (kH Q ⟨H,r⟩)
def WM (p:Nat)(w a i:V):St->Prop|⟨H,r⟩=>FV p H a i w (kH Q ⟨H,r⟩)
def WN (a l r:V)(d:St):Prop:=eE a λx=>rI l r λl r=>Q (.str (cut l r x)) d
def WO (p:Nat)(a l r:V)(d:St):Prop:=fk p d.H a λx=>rI l r λl r=>Q (.lst (cut l r x)) d
def WW (a:V)(d:St):Prop:=d6 a λi=>Q (.int (-i)) d
def WV (a:V)(d:St):Prop:=iU a λb=>Q (.bool (!b)) d
def WK (a:V)(d:St):Prop:=iU a (kB Q d)
def O1 (v:V) (d:St):Prop:=iU v λz=>cQ z (W d Q) (W' d Q)
def aas (op:ZO) (v:V) (d:St):Prop:=iU v λz=>cQ (j2 op z) (W d Q) (Q (.bool (Ig op)) d)
def aap (j:Int)(z:V)(d:St):Prop:=d6 z λz=>Q (.bool (decide (j<=z))) d
def aaq (x y:V) (d:St):Prop:=eX x y λi j=>cQ (decide (i<=j)) (W d (aap Q j)) (Q (.bool Xb) d)
def WJ (l:V)(d:St):Prop:=CM l λl=>Q (.tup l) d
def aaf (l:V)(d:St):Prop:=CM l λl=>Q (.lst l) d
def aag (q:Nat)(l:V)(d:St):Prop:=CM l λl=>gT q (.list l) d Q
def jIx (p k:Nat)(a:V)(d:St):Prop:=ixP p k d.H a (kQ Q d)
def aah (p:Nat)(a:V)(d:St):Prop:=Ay p d.H a (kQ Q d)
def WT (b p:Nat)(l:V):St->Prop|⟨H,r⟩=>isQ Xb l λl=>Na p b H l (kR Q ⟨H,r⟩)
def Hr (j:Nat)(ps:ax)(l:V)(d:St):Prop:=isQ Xb l λvs=>i_ (GX u) E.h E.n j ps vs d Q E.X
def aar (ps:ax) (v:V) (d:St):Prop:=JD (GX u) v λi=>cQ (YM i 256) (W d (Hr u E Q i ps)) False
def aab (i:Nat)(ps:ax)(v l:V)(d:St):Prop:=isQ Xb l λvs=>i_ (GX u) E.h E.n i ps (v::vs) d Q E.X
def aaa (ps:ax)(v:V)(d:St)(i:Nat):Prop:=W d (aab u E Q i ps v)
def aac (q m:Nat)(ps:ax)(v:V)(d:St):Prop:=rS (GX u) q m d.H v (aaa u E W Q ps v d)
def aad (p m:Nat) (v l:V):St->Prop|⟨H,r⟩=>isQ Xb l λl=>N0 p m H (v::l) (kR Q ⟨H,r⟩)
def aae (p m:Nat)(v:V)(d:St):Prop:=NZ p m d.H v/\W d (aad Q p m v)
def OZ (c q:Nat) (l:V):St->Prop|⟨H,r⟩=>isQ Xb l λvs=>dk (GX u) E.h E.n c (yy c) vs H (kNw Q ⟨H,r⟩ q c) (WH E ⟨H,r⟩)
def WU (c:Nat) (l:V):St->Prop|⟨H,r⟩=>isQ Xb l λvs=>dk (GX u) E.h E.n c (yy c) vs H (kNz Q ⟨H,r⟩ c) (WH E ⟨H,r⟩)
def aao (p:Nat)(l:V):St->Prop|⟨H,r⟩=>isQ Xb l λl=>k2 (Hn mM p) H l (kR Q ⟨H,r⟩)
def kLc:St->aP->Hp->Prop|⟨_,r⟩,acc,H=>Q (.lst acc) ⟨H,r⟩
def ON (i:Nat):St->aP->Hp->Prop|⟨_,r⟩,acc,H=>i<r.length/\setC r i (W_ (.lst acc)) λr=>Q .none ⟨H,r⟩
def OM (p i:Nat):St->aP->Hp->Prop|⟨_,r⟩,acc,H=>∀D,jW H p (D,.list acc) λH=>setC r i (W_ (.ref D)) λr=>Q .none ⟨H,r⟩
def O0(cz:ax)(K:St->aP->Hp->Prop)(v:V):St->Prop|⟨H,r⟩=>zC v λl=>ou W W' l [] ⟨H,Xk::mx r cz⟩ (K ⟨H,r⟩)
def aai (v:V)(d:St):Prop:=itV v λl=>Q (.sq Xg l) d
def aaj (l:V)(d:St):Prop:=isQ Xb l (jf λv=>d6 v λm=>m.natAbs<1000000000/\Q (.sq Xg (eu m.toNat)) d)
def aak (v:V)(d:St):Prop:=match v with|.cj l=>(∀y∈l,y.1.length<=16777216)/\Q (.sq Xg (l.map λy=>.str y.1)) d|_=>False
def WS (v:V)(d:St):Prop:=Q (.tup [v]) d
def aan(_:V)(d:St):Prop:=Q .none d
def O2 (i:Nat)(v:V):St->Prop|⟨H,r⟩=>setC r i (W_ v) λr=>Q .none ⟨H,r⟩
def aav (is:ax)(s:Bool)(v:V)(d:St):Prop:=match s with|true=>K6 v is d (Q .none)|false=>kc v is d (Q .none)
def n6 (i:Nat)(v:V):St->(St->Prop)->Prop|⟨H,r⟩,k=>setC r i (W_ v) λr=>k ⟨H,r⟩
def hH(is:ax)(v:V)(d:St)(k:St->Prop):Prop:=kc v is d k
def Hq(asg:V->St->(St->Prop)->Prop)(v:V)(d:St):Prop:=zC v λl=>forL asg W l d Q
def aam (is:ax)(v:V)(d:St):Prop:=isQ Xb v (jf λv=>isQ Xg v λl=>forL (hH is) W (rN 0 l) d Q)
def wB (I:St->Prop) (o:V) (d:St):Prop:=pV o (I d) (Q .none d) (Q o d)
def wT (I:St->Prop) (v:V) (d:St):Prop:=iU v λz=>cQ z (W d (wB Q I)) (Q .none d)
def Uo:Prop:=∀I:St->Prop,(∀d,W d (wT W' Q I)->I d)->I d
def WR (c:Nat) (l:V):St->Prop|⟨H,r⟩=>isQ Xb l λvs=>cQ (XU vs.length 20) (o4 (GX u) E.h E.n c (yy c) vs H (kE E ⟨H,r⟩ c) (WH E ⟨H,r⟩)) False
def rX (o:V) (d:St):Prop:=kS o (W d Q) (Q o d)
variable{u E W W' Q d}
theorem Hl{q c:Nat}:kNw Q d q c=λa fs H=>Q (.ref a) ⟨cX H q (a,.inst 0 c fs),d.r⟩:=by funext a fs H;exact iw
theorem AO{i:Nat}:O2 Q i v d=Q .none ⟨d.H,setAt d.r i (W_ v)⟩:=e_
theorem Cs{i:Nat}:n6 i=λv d k=>k ⟨d.H,setAt d.r i (W_ v)⟩:=by funext v d k;exact e_
theorem AJ{i:Nat}:ON Q i d=λacc H=>i<d.r.length/\Q .none ⟨H,setAt d.r i (W_ (.lst acc))⟩:=by funext a H;exact WX (i<d.r.length/\ ·) e_
theorem AI{i:Nat}:OM Q p i d=λacc H=>∀D,Q .none ⟨cX H p (D,.list acc),setAt d.r i (W_ (.ref D))⟩:=by funext a H;exact forall_congr λD=>iw.trans e_
end
noncomputable def wp (u:U):Em->N->St->(V->St->Prop)->Prop|_,.lit v,σ,Q=>Q v σ|_,.loc i,σ,Q=>Oa i σ Q|_,.h9 j,σ,Q=>ck (aF SQ j) λx=>Q (A7 u x.2) σ|E,.Ub p f o,σ,Q=>wp u E o σ (aau u Q p f)|E,.bin op p l r,σ,Q=>wp u E l σ (Dv (wp u E r) (aat Q op p))|E,.neg o,σ,Q=>wp u E o σ (WW Q)|E,.vg o,σ,Q=>wp u E o σ (WV Q)|E,.fU o,σ,Q=>wp u E o σ (WK Q)|E,.jk t a b,σ,Q=>wp u E t σ (O1 (wp u E a) (wp u E b) Q)|E,.RX op a r,σ,Q=>wp u E a σ (aas (wp u E r) Q op)|E,.cmp op p q l r,σ,Q=>wp u E l σ (Dv (wp u E r) (AM Q op p q))|E,.xV l a b,σ,Q=>wp u E l σ (Dv (wp u E a) (aaq (wp u E b) Q))|E,.tup a,σ,Q=>wp u E a σ (WJ Q)|E,.fB a,σ,Q=>wp u E a σ (aaf Q)|E,.lst q a,σ,Q=>wp u E a σ (aag Q q)|_,.TO q,σ,Q=>gT q (.bz []) σ Q|_,.Iv q,σ,Q=>gT q (.aU []) σ Q|_,.TS q a b x y,σ,Q=>cQ (XU q σ.H.length) (gT q (.bz [(a,.int x),(b,.int y)]) σ Q) False|E,.idx p e i,σ,Q=>wp u E e σ (Dv (wp u E i) (aal Q p))|E,.ix p k e,σ,Q=>wp u E e σ (jIx Q p k)|E,.rW p e,σ,Q=>wp u E e σ (aah Q p)|E,.CN e lo hi,σ,Q=>wp u E e σ (WI (wp u E lo) (wp u E hi) (WN Q))|E,.CO p e lo hi,σ,Q=>wp u E e σ (WI (wp u E lo) (wp u E hi) (WO Q p))|_,.yH,σ,Q=>Q .none σ|E,.bU b p a,σ,Q=>wp u E a σ (WT Q b p)|E,.a_ j ps a,σ,Q=>wp u E a σ (Hr u E Q j ps)|E,.QD ps x a,σ,Q=>wp u E x σ (aar u E (wp u E a) Q ps)|E,.bI q m ps o a,σ,Q=>wp u E o σ (aac u E (wp u E a) Q q m ps)|E,.bT p m o a,σ,Q=>wp u E o σ (aae (wp u E a) Q p m)|E,.new c q a,σ,Q=>wp u E a σ (OZ u E Q c q)|E,.ez c a,σ,Q=>wp u E a σ (WU u E Q c)|E,.IC _ j ps a,σ,Q=>wp u E a σ (Hr u E Q j ps)|E,.TV p a,σ,Q=>wp u E a σ (aao Q p)|E,.lc cz it t b,σ,Q=>wp u E it σ (O0 (wp u ⟨E.h,E.n,iX⟩ t) (wp u ⟨E.h,E.n,iX⟩ b) cz (kLc Q))|_,.bJ,σ,Q=>Q (.tup []) σ|E,.oz x r,σ,Q=>wp u E x σ (Dv (wp u E r) (aaw Q))|E,.fb e,σ,Q=>wp u E e σ (aai Q)|E,.yK a,σ,Q=>wp u E a σ (aaj Q)|E,.TC e,σ,Q=>wp u E e σ (aak Q)|E,.ret e,σ,Q=>wp u E e σ (WS Q)|_,.yF,σ,Q=>Q (.tup [.none]) σ|E,.ite t a b,σ,Q=>wp u E t σ (O1 (wp u E a) (wp u E b) Q)|E,.exp e,σ,Q=>wp u E e σ (aan Q)|_,.VB,σ,Q=>Q .none σ|_,.cnt,σ,Q=>Q (.bool Xb) σ|E,.asg i e,σ,Q=>wp u E e σ (O2 Q i)|E,.ast is s e,σ,Q=>wp u E e σ (aav Q is s)|E,.sat p f e o,σ,Q=>wp u E e σ (Dv (wp u E o) (WQ u Q p f))|E,.il p e o i,σ,Q=>wp u E e σ (WI (wp u E o) (wp u E i) (WM Q p))|E,.Ti p e o,σ,Q=>wp u E e σ (Dv (wp u E o) (WL Q p))|E,.eH i it b,σ,Q=>wp u E it σ (Hq (wp u E b) Q (n6 i))|E,.iA is it b,σ,Q=>wp u E it σ (Hq (wp u E b) Q (hH is))|E,.Bf is a b,σ,Q=>wp u E a σ (aam (wp u E b) Q is)|E,.jE t b,σ,Q=>Uo (wp u E t) (wp u E b) Q σ|E,.gD c a,σ,_=>wp u E a σ (WR u E c)|E,.try b c1 i1 h1 c2 i2 h2,σ,Q=>wp u ⟨E.h,E.n,λx σ'=>rx mM [(c1,i1,wp u ⟨Xb,E.n,iX⟩ h1),(c2,i2,wp u ⟨Xb,E.n,iX⟩ h2)] x σ' Q⟩ b σ Q|E,.JB i cz it t b,σ,Q=>wp u E it σ (O0 (wp u ⟨E.h,E.n,iX⟩ t) (wp u ⟨E.h,E.n,iX⟩ b) cz (ON Q i))|E,.TA p i cz it t b,σ,Q=>wp u E it σ (O0 (wp u ⟨E.h,E.n,iX⟩ t) (wp u ⟨E.h,E.n,iX⟩ b) cz (OM Q p i))|_,.B9,σ,Q=>Q .none σ|E,.yN s r,σ,Q=>wp u E s σ (rX (wp u E r) Q)|E,.dY g r,σ,Q=>ghP g σ λσ1=>wp u E r σ1 Q
structure Si where
 sc:Scope
 nm:List Str
 cs:List Str
 top:Bool
 hd:Bool
noncomputable def Si.of(c:Cx):Si:=⟨c.env.scope,c.nm,c.cs,c.top,c.hd⟩
def w_(S:Si):Env:={scope:=S.sc,locals:=0,globals:=0,cells:=[],qual:=Internal.S [],func:=Xk,code:=.none,frame:=Xk,builtins:=0}
set_option genCtorIdx false in
inductive gj where|E(x:Xd)|T(x:Xd)|A(l:List Xd)|I(x:Xd)|S(s:Stmt)|B(b:List Stmt)|L(o:ZO)(l:List Xd)|M(o:ZO)(l:List Xd)|O|Y
noncomputable def aE(a:gj)(k:Xd->Bool):Bool:=match a with|.E x=>k x|_=>Xb
noncomputable def aT(a:gj)(k:Xd->Bool):Bool:=match a with|.T x=>k x|_=>Xb
noncomputable def aI(a:gj)(k:Xd->Bool):Bool:=match a with|.I x=>k x|_=>Xb
noncomputable def aA(a:gj)(k:List Xd->Bool):Bool:=match a with|.A x=>k x|_=>Xb
noncomputable def aS(a:gj)(k:Stmt->Bool):Bool:=match a with|.S x=>k x|_=>Xb
noncomputable def aB(a:gj)(k:List Stmt->Bool):Bool:=match a with|.B x=>k x|_=>Xb
noncomputable def aO(a:gj):Bool:=match a with|.O=>Xg|_=>Xb
noncomputable def aY(a:gj):Bool:=match a with|.Y=>Xg|_=>Xb
noncomputable def aX(a:gj)(k:(Xd->gj)->Xd->Bool):Bool:=match a with|.E x=>k .E x|.T x=>k .T x|_=>Xb
def aR (a:gj)(k:(Xd->gj)->(List Xd->gj)->ZO->List Xd->Bool):Bool:=match a with|.E x=>bP 7 x λv=>k .E (.L v.bo) v.bo v.l|.T x=>bP 7 x λv=>k .T (.M v.bo) v.bo v.l|.L o l=>k .E (.L o) o l|.M o l=>k .T (.M o) o l|_=>Xb
noncomputable def GY{α:Type}:List (Str×α)->Str->Option α|[],_=>Xk|(y,k)::l,x=>match cC x y with|true=>W_ k|false=>GY l x
def rU (v:V) (c:Const):Bool:=fC (Aq v) (W_ c)
def iT (S:Si)(x:Str)(k:YR):Bool:=som? (GY S.sc.names x) λj=>fC j k
def ma (S:Si)(y x:Str):Bool:=cC x y&&(iT S x .globalImplicit&&!cC x ("__debug__":Str))
def oV{α:Type}(l:List α)(i:Nat)(k:α->Bool):Bool:=som? (aF l i) k
def aaG(S:Si)(j:Nat)(x:Str):Bool:=oV SQ j λy=>ma S y.1 x
def aaK(S:Si)(j:Nat)(x:Str):Bool:=oV JN j λy=>!non? y.cps.toList&&ma S y x
def sk(S:Si)(j:Nat)(x:Str):Bool:=oV CNL j λy=>ma S y x
def Vc(S:Si)(j:Nat)(x:Str):Bool:=oV PRL j λy=>ma S y x
def rR(S:Si)(i:Nat)(x:Str):Bool:=oV S.nm i λy=>cC x y
noncomputable def jh(x:Str):List Str->Bool|[]=>Xb|y::l=>cC x y||jh x l
def rJ(S:Si)(i:Nat)(x:Str):Bool:=rR S i x&&(iT S x .local||(iT S x .cell&&jh x S.cs))
noncomputable def nv (S:Si)(is:ax)(l:List Xd):Bool:=match is,l with|[],[]=>Xg|i::is,x::l=>bP 1 x (λv=>rJ S i v.nm)&&nv S is l|_,_=>Xb
def Cj(f:Nat)(x:Str):Bool:=oV ATL f λy=>cC x y
def g9 (l:ax)(x:Xd):Bool:=fM (vw x).tag l
noncomputable def t6:List Xd->Bool|[]=>Xg|x::l=>VI x&&t6 l
def Jd(l:List Xd)(kw:List Keyword):Bool:=non? kw&&(t6 l&&YM l.length 20)
def Ww (x:Xd):Bool:=bP 4 x λv=>bP 0 v.a λw=>rU (.int 1) w.c
def tX (S:Si)(l:List Xd)(e:Xd)(sw:Bool):Bool:=G5 (ZQ l e (w_ S)) λo=>match sw,o with|false,Xk=>Xg|true,W_ ns=>one? l λe=>bP 9 e λv=>nmsB v.l ns|_,_=>Xb
where nmsB:List Xd->List Str->Bool|[],[]=>Xg|x::l,y::r=>bP 1 x (λv=>cC v.nm y)&&nmsB l r|_,_=>Xb
noncomputable def pH(nm:List Str)(cz:ax):List Str:=match cz with|[]=>[]|i::r=>match aF nm i with|some y=>y::pH nm r|none=>pH nm r
def UH (S:Si)(sc:Scope):List (Str×YR):=sc.names.map λy=>match fC y.2 .free&&iT S y.1 .cell with|true=>(y.1,.cell)|false=>y
def Jr (S:Si)(sc:Scope)(x:Str)(cz:ax):Si:=⟨relabel sc (w_ S),x::pH S.nm cz,[],Xb,S.hd⟩
noncomputable def VT:List Str->Bool|[]=>Xg|x::l=>!jh x l&&VT l
def Ws (x:Str)(k:YR)(l:List (Str×YR)):Bool:=l.any λy=>cC x y.1&&fC y.2 k
def Iy (S:Si) (sc:Scope) (x:Str) (cz:ax):Bool:=fC S.sc.kind .function&&(fC sc.kind .function&&((sc.names.all λy=>!fC y.2 .cell&&((!fC y.2 .local||fC (GY sc.names y.1) (W_ .local))&&(!fC y.2 .free||jh y.1 S.cs)))&&
 (fC (GY sc.names x) (W_ .local)&&((cz.all λi=>oV S.nm i λy=>jh y S.cs&&(Ws y .free sc.names&&(iT S y .cell&&fC (GY (UH S sc) y) (W_ .cell))))&&
 (VT (x::pH S.nm cz)&&(!cC x ("__debug__":Str)&&!cC x ("__classdict__":Str)))))))
noncomputable def Ph(g:Comprehension)(k:Str->Xd->List Xd->Bool):Bool:=match g with|⟨.Name x _,it,ifs,0⟩=>k x it ifs|_=>Xb
noncomputable def A4 (h:ZS) (k:Str->Str->List Stmt->Bool):Bool:=match h with|.ExceptHandler (W_ (.Name x _)) (W_ n) b _=>k x n b|_=>Xb
noncomputable def u7(o:Option Xd):gj:=match o with|none=>.O|some x=>.E x
noncomputable def A0 (l:List Xd)(k:gj->Bool):Bool:=match l with|[]=>k .Y|[x]=>k (.T x)|_=>Xb
noncomputable def rD (E:Xd->gj)(L:List Xd->gj)(y:Xd)(l:List Xd):gj:=match l with|[]=>E y|_=>L (y::l)
def iF(x:Xd)(k:Str->List Xd->Bool):Bool:=bP 14 x λv=>Jd v.l v.kw&&bP 1 v.a λw=>k w.nm v.l
def Cr (x:Xd):Bool:=YM (vw x).tag 14||bP 14 x λv=>bP 2 v.a (λW=>Xg) ||(bP 1 v.a (λW=>Xg)&&con? v.l λW W=>Xg)
def nH(x:Xd)(k:Xd->Str->List Xd->Bool):Bool:=bP 14 x λv=>Jd v.l v.kw&&bP 2 v.a λw=>Cr w.a&&(XI w.p.endLine v.p.line&&k w.a w.nm v.l)
def rY (i:Int)(x:Xd):Bool:=bP 0 x λv=>rU (.int i) v.c
noncomputable def u5 (m:Nat)(x:Str)(l:List (Str×Nat)):Bool:=match l with|[]=>Xb|y::l=>(cC x y.1&&XI m y.2) ||u5 m x l
def Oj (S:Si)(v:EV)(cz:ax)(k:Xd->Si->List Xd->Bool):Bool:=S.hd&&one? v.gs λg=>Ph g λx it ifs=>Iy S v.sc x cz&&(g9 [0,1,2,3,9,12,14] it&&k it (Jr S v.sc x cz) ifs)
def jd (S:Si)(e:Xd)(t:Xd)(ln:Nat)(z:Bool):Bool:=G5 (Y9 e (W_ t) ln (w_ S)) λb=>fC b z
def fq (n:N):Si->gj->Bool:=N.rec (motive:=λW=>Si->gj->Bool)
 (λv W a=>aE a (λx=>bP 0 x λw=>rU v w.c) ||(aY a&&rU v (.bool Xg)))
 (λi S a=>aE a λx=>bP 1 x λv=>rR S i v.nm)
 (λj S a=>aE a λx=>bP 1 x λv=>aaG S j v.nm)
 (λW f W o S a=>aE a λx=>bP 2 x λv=>Cj f v.nm&&(Cr v.a&&o S (.E v.a)))
 (λop W W W l r S a=>aE a λx=>bP 3 x λv=>fC v.op op&&(l S (.E v.a)&&r S (.E v.b)))
 (λW o S a=>aE a λx=>bP 4 x λv=>o S (.E v.a))
 (λW o S a=>aT a λx=>bP 5 x λv=>o S (.T v.a))
 (λW o S a=>aT a λx=>g9 [0,1,2,12,14] x&&o S (.E x))
 (λW W W t b d S a=>aE a λx=>bP 6 x λv=>t S (.T v.a)&&(b S (.E v.b)&&d S (.E v.d)))
 (λop W W b r S a=>aR a λE L bo l=>fC bo op&&con? l λx l=>b S (E x)&&con? l λy l=>r S (rD E L y l))
 (λop W W W W l r S a=>aX a λW x=>bP 8 x λv=>one? v.ops λo=>one? v.l λy=>fC o op&&(g9 [0,1,2,3,4,9,10,12,14] y&&(l S (.E v.a)&&r S (.E y))))
 (λW W W l b d S a=>aX a λW x=>bP 8 x λv=>two? v.ops λo o'=>two? v.l λy z=>(fC o .LtE&&fC o' .LtE)&&((g9 [0,1,2,3,4,12,14] y&&g9 [0,1,2,3,4,12,14] z)&&(l S (.E v.a)&&(b S (.E y)&&d S (.E z)))))
 (λW l S a=>aE a λx=>bP 9 x λv=>l S (.A v.l))
 (λW l S a=>aE a λx=>bP 10 x λv=>l S (.A v.l))
 (λW W l S a=>aE a λx=>bP 10 x λv=>l S (.A v.l))
 (λW W a=>aE a λx=>bP 11 x λv=>non? v.ks&&non? v.l)
 (λW W a=>aE a λx=>bP 11 x λv=>non? v.ks&&non? v.l)
 (λW k m y z W a=>aE a λx=>bP 11 x λv=>!fC k m&&(two? v.ks (λo o'=>som? o (rY k)&&som? o' (rY m))&&two? v.l λo o'=>rY y o&&rY z o'))
 (λW W W e i S a=>aE a λx=>bP 12 x λv=>g9 [0,1,2,3,4,6,12,14] v.b&&(e S (.E v.a)&&i S (.E v.b)))
 (λW k W e S a=>aE a λx=>bP 12 x λv=>YM k 1000&&(rY k v.b&&e S (.E v.a)))
 (λW W e S a=>aE a λx=>bP 12 x λv=>Ww v.b&&e S (.E v.a))
 (λW W W e lo hi S a=>aE a λx=>bP 12 x λv=>bP 13 v.b λw=>e S (.E v.a)&&(lo S (u7 w.o1)&&hi S (u7 w.o2)))
 (λW W W W e lo hi S a=>aE a λx=>bP 12 x λv=>bP 13 v.b λw=>e S (.E v.a)&&(lo S (u7 w.o1)&&hi S (u7 w.o2)))
 (λW a=>aO a)
 (λb W W r S a=>aE a λx=>iF x λnm l=>S.hd&&(Vc S b nm&&r S (.A l)))
 (λj W W r S a=>aE a λx=>iF x λnm l=>aaK S j nm&&r S (.A l))
 (λW W W o r S a=>aE a λx=>iF x λW l=>bP 14 x λv=>o S (.E v.a)&&r S (.A l))
 (λW m W W W o r S a=>aE a λx=>nH x λy nm l=>Cj m nm&&(o S (.E y)&&r S (.A l)))
 (λW m W W o r S a=>aE a λx=>nH x λy nm l=>(S.hd&&u5 m nm GL)&&(o S (.E y)&&r S (.A l)))
 (λc W W r S a=>aE a λx=>iF x λnm l=>(N8 c&&sk S c nm)&&r S (.A l))
 (λc W r S a=>aE a λx=>iF x λnm l=>(N8 c&&sk S c nm)&&r S (.A l))
 (λc j W W r S a=>aE a λx=>nH x λy nm l=>(XI c 15&&XI j 82)&&(cC nm ("__init__":Str)&&(bP 1 y (λv=>ma S ("Statement":Str) v.nm)&&r S (.A l))))
 (λW W r S a=>aE a λx=>nH x λy nm l=>S.hd&&(cC nm ("__init__":Str)&&(bP 1 y (λv=>ma S ("Exception":Str) v.nm)&&r S (.A l))))
 (λcz W W W it t b S a=>aE a λx=>bP 15 x λv=>Oj S v cz λi S' ifs=>it S (.I i)&&(A0 ifs (t S')&&b S' (.E v.a)))
 (λW a=>aA a λl=>non? l)
 (λW W y r S a=>aA a λl=>con? l λx l=>VI x&&(y S (.E x)&&r S (.A l)))
 (λW e S a=>aI a λx=>S.hd&&e S (.E x))
 (λW r S a=>aI a λx=>iF x λnm l=>one? l λW=>S.hd&&(ma S ("range":Str) nm&&r S (.A l)))
 (λW e S a=>aI a λx=>S.hd&&e S (.E x))
 (λW e S a=>aS a λs=>jv 0 s λv=>som? v.o1 λx=>e S (.E x))
 (λW a=>aS a λs=>jv 0 s λv=>nil? v.o1)
 (λW W W t b d S a=>aS a λs=>jv 4 s λv=>t S (.T v.a)&&(b S (.B v.bs)&&d S (.B v.cs)))
 (λW e S a=>aS a λs=>jv 7 s λv=>g9 [14] v.a&&e S (.E v.a))
 (λW a=>aS a λs=>jv 8 s λW=>Xg)
 (λW a=>aS a λs=>jv 9 s λW=>Xg)
 (λi W e S a=>aS a λs=>jv 1 s λv=>one? v.l λt=>jd S v.a t v.p.line Xb&&(bP 1 t (λw=>rJ S i w.nm)&&e S (.E v.a)))
 (λis z W e S a=>aS a λs=>jv 1 s λv=>one? v.l λt=>S.hd&&(jd S v.a t v.p.line Xb&&(bP 9 t (λw=>nv S is w.l)&&(tX S v.l v.a z&&e S (.E v.a)))))
 (λW f W W e o S a=>aS a λs=>jv 1 s λv=>one? v.l λt=>jd S v.a t v.p.line Xb&&bP 2 t λw=>Cj f w.nm&&(e S (.E v.a)&&o S (.E w.a)))
 (λW W W W e o i S a=>aS a λs=>jv 1 s λv=>one? v.l λt=>jd S v.a t v.p.line Xb&&bP 12 t λw=>e S (.E v.a)&&(o S (.E w.a)&&i S (.E w.b)))
 (λW W W e o S a=>aS a λs=>jv 1 s λv=>one? v.l λt=>jd S v.a t v.p.line Xb&&bP 12 t λw=>Ww w.b&&(e S (.E v.a)&&o S (.E w.a)))
 (λi W W it b S a=>aS a λs=>jv 2 s λv=>(S.top&&non? v.cs)&&(bP 1 v.a (λw=>rJ S i w.nm)&&(g9 [0,1,2,3,9,12,14] v.b&&(it S (.I v.b)&&b S (.B v.bs)))))
 (λis W W it b S a=>aS a λs=>jv 2 s λv=>((S.hd&&S.top)&&non? v.cs)&&(bP 9 v.a (λw=>nv S is w.l)&&(g9 [0,1,2,3,9,12,14] v.b&&(it S (.I v.b)&&b S (.B v.bs)))))
 (λis W W r b S a=>aS a λs=>jv 2 s λv=>((S.hd&&S.top)&&non? v.cs)&&(bP 9 v.a (λw=>nv S is w.l)&&(iF v.b (λnm l=>one? l λW=>ma S ("enumerate":Str) nm&&r S (.A l))&&b S (.B v.bs))))
 (λW W t b S a=>aS a λs=>jv 3 s λv=>(S.top&&non? v.cs)&&(t S (.T v.a)&&b S (.B v.bs)))
 (λc W r S a=>aS a λs=>jv 5 s λv=>(S.hd&&nil? v.o2)&&som? v.o1 λx=>iF x λnm l=>(mM c&&sk S c nm)&&r S (.A l))
 (λW c1 i1 W c2 i2 W b h1 h2 S a=>aS a λs=>jv 6 s λv=>(S.top&&(non? v.cs&&non? v.ds))&&(b S (.B v.bs)&&two? v.hs λx y=>
   A4 x (λx n l=>(mM c1&&sk S c1 x)&&((rR S i1 n&&iT S n .local)&&(!non? l&&h1 {S with hd:=Xb} (.B l))))&&
   A4 y (λx n l=>(mM c2&&sk S c2 x)&&((rR S i2 n&&iT S n .local)&&(!non? l&&h2 {S with hd:=Xb} (.B l))))))
 (λi cz W W W it t b S a=>aS a λs=>jv 1 s λv=>one? v.l λy=>jd S v.a y v.p.line Xg&&(bP 1 y (λw=>rJ S i w.nm)&&bP 15 v.a λw=>Oj S w cz λz S' ifs=>it S (.I z)&&(A0 ifs (t S')&&b S' (.E w.a))))
 (λW i cz W W W it t b S a=>aS a λs=>jv 1 s λv=>one? v.l λy=>jd S v.a y v.p.line Xg&&(bP 1 y (λw=>rJ S i w.nm)&&bP 15 v.a λw=>Oj S w cz λz S' ifs=>it S (.I z)&&(A0 ifs (t S')&&b S' (.E w.a))))
 (λW a=>aB a λl=>non? l)
 (λW W s r S a=>aB a λl=>con? l λx l=>s S (.S x)&&r S (.B l))
 (λW W r S a=>aB a λl=>r S (.B l))
 n
structure Top (u:U):Prop where
 nl:∀h,(GX u).K.In h->h.NoLimit
 sys:(GX u).K.lookup Yu≠Xk
 gk:jb (GX u)
 mt:∀cl m i,MT cl m=W_ i->yw (GX u) cl m i
 isi:∀c,i9 c=Xg->rk (GX u) [.type "bytes",.type "str"] c
 h9:∀j y,aF SQ j=W_ y-> ∀(c:Cx) (σ:St) (Q:V->St->Prop) (X:di->St->Prop) (p:Pos),bg c->c.env.kindOf y.1=W_ .globalImplicit->(y.1==("__debug__":Str))=Xb->Q (A7 u y.2) σ->bK (GX u) c (.Name y.1 p) σ Q X
 bU:∀b x,aF PRL b=W_ x->fnAt (GX u) x (uw b)=Xg
 rng:fnAt (GX u) ("range":Str) (.type "range")=Xg
 enu:fnAt (GX u) ("enumerate":Str) (.type "enumerate")=Xg
 fn:∀j x,aF JN j=W_ x->x.cps.toList≠[] ->nsIn u.K Yj x=W_ (W_ (.ref (u.fa j)))
 TJ:∀i,i<256->FnAt (GX u) i
 cl:∀j x,aF CNL j=W_ x->nsIn u.K Yj x=W_ (W_ (.ref (u.cA j)))
 Wr:∀c,N8 c=Xg->yC (GX u) c (yy c)
 en:∀c,mM c=Xg->Cu (GX u) c (yy c)
 hs:∀a b,mM a=Xg->mM b=Xg->mroIn u.K (u.cA a) (.ref (u.cA b))=W_ (XI a b)
 st:∀(c:Cx) (σ:St) (Q:V->St->Prop) (X:di->St->Prop) (p:Pos),bg c->c.env.kindOf ("Statement":Str)=W_ .globalImplicit->Q (.cst (.ref (u.cA 15))) σ->bK (GX u) c (.Name ("Statement":Str) p) σ Q X
 cm:kA (GX u) (.ref (u.cA 15)) (.ref (u.fa 82)) ("__init__":Str)
 ex:∀(c:Cx) (σ:St) (Q:V->St->Prop) (X:di->St->Prop) (p:Pos),bg c->c.env.kindOf ("Exception":Str)=W_ .globalImplicit->Q (.cst (.type "Exception")) σ->bK (GX u) c (.Name ("Exception":Str) p) σ Q X
 cb:kA (GX u) (.type "Exception") (.builtin "Exception.__init__") ("__init__":Str)
variable{u:U}
theorem aE.inv{a:gj}{k:Xd->Bool}(h:aE a k):Im gj.E k a:=by induction a with|E x=>exact⟨x,rfl,h⟩|_=>exact W5 h Xy
theorem aT.inv{a:gj}{k:Xd->Bool}(h:aT a k):Im gj.T k a:=by induction a with|T x=>exact⟨x,rfl,h⟩|_=>exact W5 h Xy
theorem aI.inv{a:gj}{k:Xd->Bool}(h:aI a k):Im gj.I k a:=by induction a with|I x=>exact⟨x,rfl,h⟩|_=>exact W5 h Xy
theorem aA.inv{a:gj}{k:List Xd->Bool}(h:aA a k):Im gj.A k a:=by induction a with|A x=>exact⟨x,rfl,h⟩|_=>exact W5 h Xy
theorem aS.inv{a:gj}{k:Stmt->Bool}(h:aS a k):Im gj.S k a:=by induction a with|S x=>exact⟨x,rfl,h⟩|_=>exact W5 h Xy
theorem aB.inv{a:gj}{k:List Stmt->Bool}(h:aB a k):Im gj.B k a:=by induction a with|B x=>exact⟨x,rfl,h⟩|_=>exact W5 h Xy
theorem aO.inv{a:gj}(h:aO a):a=.O:=by induction a with|O=>rfl|_=>exact W5 h Xy
theorem aY.inv{a:gj}(h:aY a):a=.Y:=by induction a with|Y=>rfl|_=>exact W5 h Xy
theorem aX.inv{a:gj}{k:(Xd->gj)->Xd->Bool}(h:aX a k):∃x,(a=.E x/\k .E x=Xg) \/ (a=.T x/\k .T x=Xg):=by induction a with|E x=>exact⟨x,.inl ⟨rfl,h⟩⟩|T x=>exact⟨x,.inr ⟨rfl,h⟩⟩|_=>exact W5 h Xy
theorem u6{a b:Bool}(h:(a||b)):a=Xg\/b:=by rwa[ZI]at h
theorem nb{a:Bool}(h:(!a)):a=Xb:=by rwa[XR]at h
theorem ee(a b:Str):(a==b)=cC a b:=by
 generalize h:cC a b=J;induction J with|true=>rw[cU h];exact WY b|false=>refine W9.mpr λe=>?_;subst e;unfold cC at h;rw[bH,WY]at h;exact ft h
theorem jN (x:Str):∀l:List (Str×α),GY l x=l.lookup x:=by
 intro l;induction l with
 |nil=>
  exact rfl|cons x0 l ih=>
  obtain⟨y,k⟩:=x0;show(match cC x y with|true=>W_ k|false=>GY l x)=(match x==y with|true=>W_ k|false=>l.lookup x);rw[ee,ih]
theorem l4{k:Const}(h:rU v k):Aq v=W_ k:=fC.inv h
theorem nP{x:Str}{k:YR}(h:iT (Si.of c) x k):c.env.kindOf x=W_ k:=by replace h:=som?.inv h;obtain⟨j,h1,h2⟩:=h;obtain rfl:=fC.inv h2;rw[jN]at h1;exact h1
inductive adq(c:Cx)(x:Str)(y:Str):Prop|mk(h0:x=y)(h1:c.env.kindOf y=W_ .globalImplicit)(h2:(y==("__debug__":Str))=Xb)
theorem gN{x:Str}(h:ma (Si.of c) y x):adq c x y:=by replace h:=aH h;obtain⟨h1,h2⟩:=h;replace h2:=aH h2;obtain⟨h2,h3⟩:=h2;obtain rfl:=cU h1;exact⟨rfl,nP h2,(ee _ _).trans (nb h3)⟩
theorem vn{i:Nat}{x:Str}(h:rR (Si.of c) i x):c.nm[i]?=W_ x:=by replace h:=som?.inv h;obtain⟨y,h1,h2⟩:=h;obtain rfl:=cU h2;exact(bf _ _).symm.trans h1
theorem qz{x:Str}:∀{l:List Str},jh x l->x∈l:=by
 intro l;induction l with
 |nil=>
  intro h;exact W5 h Xy|cons y l ih=>
  intro h;rcases u6 h with h|h
  .rw[cU h];exact .head _
  .exact .tail _ (ih h)
theorem iv{i:Nat}{x:Str}(h:rJ (Si.of c) i x):c.nm[i]?=W_ x/\ownName c x:=by
 replace h:=aH h;obtain⟨h1,h2⟩:=h;refine⟨vn h1,?_⟩;rcases u6 h2 with h|h
 .exact .inl (nP h)
 .exact .inr ⟨nP (aH h).1,qz (aH h).2⟩
theorem oU:∀{is:ax}{l:List Xd},nv (Si.of c) is l-> ∃e,l=oX e/\b_ c is (e.map (λW=>W.1)):=by
 intro is;induction is with
 |nil=>intro l h;induction l using Xn with|nil=>exact⟨[],rfl,Xu⟩|cons=>exact ff h
 |cons i is ih=>
  intro l h;induction l using Xn with|nil=>exact ff h|cons x l=>
  replace h:=aH h;obtain⟨h1,h2⟩:=h;replace h1:=bP.inv h1;obtain⟨v,rfl,h1⟩:=h1;obtain⟨e,rfl,h3⟩:=ih h2;exact⟨(v.nm,v.p)::e,rfl,iv h1,h3⟩
theorem yn{f:Nat}{x:Str}(h:Cj f x):x=AN f:=by replace h:=som?.inv h;obtain⟨y,h1,h2⟩:=h;unfold AN Nr;rw[h1];exact cU h2
theorem Nu:∀{l:List Xd},t6 l->b0 c l:=by
 intro l;induction l with|nil=>exact λW=>rfl|cons x l ih=>intro h;replace h:=aH h;unfold b0;rw[jM h.1,Ys,ih h.2]
theorem n5{o:Xd}{a:Str}{w:Sem Xj}(h:Cr o):Zm o a env w=w:=by
 rcases u6 h with h|h
 .rw[<-pQ o];revert h;generalize vw o=v;generalize v.tag=t;iterate 14 (obtain _|t:=t;exact λW=>rfl)
  exact λh=>ff h
 .obtain⟨v,e,h⟩:=bP.inv h;rw[e];show Zm (.Call v.a v.l v.kw v.p) a env w=w;rcases u6 h with h|h
  .obtain⟨z,e,-⟩:=bP.inv h;rw[e];rfl
  .obtain⟨z,e,-⟩:=bP.inv (aH h).1;obtain⟨y,r,e2,-⟩:=con?.inv (aH h).2;rw[e,e2];rfl
theorem EA{l:List Xd}{kw:List Keyword}(h:Jd l kw):kw=[] /\b0 c l/\l.length<20:=by replace h:=aH h;obtain⟨h1,h2⟩:=h;replace h2:=aH h2;obtain⟨h2,h3⟩:=h2;exact⟨non?.inv h1,Nu h2,Nat.lt_of_succ_le (Xi h3)⟩
inductive S6 (c:Cx)(x:Xd)(k:Str->List Xd->Bool):Prop|mk (nm px l p:_)(h0:x=.Call (.Name nm px) l [] p)(h1:(b0 c l/\l.length<20))(h2:k nm l)
theorem gS{x:Xd}{k:Str->List Xd->Bool}(h:iF x k):S6 c x k:=by replace h:=bP.inv h;obtain⟨v,rfl,h⟩:=h;replace h:=aH h;obtain⟨h1,h⟩:=h;replace h:=bP.inv h;obtain⟨w,e,h⟩:=h;obtain⟨J,h2⟩:=EA (c:=c) h1;exact⟨w.nm,w.p,v.l,v.p,by show Xd.Call v.a v.l v.kw v.p=_;rw[e,J];rfl,h2,h⟩
inductive SA (c:Cx)(x:Xd)(k:Xd->Str->List Xd->Bool):Prop|mk (o nm px l p:_)(h0:x=.Call (.Attribute o nm px) l [] p)(h1:(b0 c l/\l.length<20))(h2:(Cr o=Xg/\(px.endLine==p.line)=Xg))(h3:k o nm l)
theorem lX{x:Xd}{k:Xd->Str->List Xd->Bool}(h:nH x k):SA c x k:=by replace h:=bP.inv h;obtain⟨v,rfl,h⟩:=h;replace h:=aH h;obtain⟨h1,h⟩:=h;replace h:=bP.inv h;obtain⟨w,e,h⟩:=h;replace h:=aH h;obtain⟨h3,h⟩:=h;replace h:=aH h;obtain⟨h4,h⟩:=h;obtain⟨J,h2⟩:=EA (c:=c) h1;exact⟨w.a,w.nm,w.p,v.l,v.p,by show Xd.Call v.a v.l v.kw v.p=_;rw[e,J];rfl,h2,⟨h3,W8.mpr (XJ h4)⟩,h⟩
inductive adh (i:Int)(x:Xd):Prop|mk (n p:_)(h0:x=.Constant (.int i) n p)
theorem nQ{i:Int}{x:Xd}(h:rY i x):adh i x:=by replace h:=bP.inv h;obtain⟨v,rfl,h⟩:=h;have h:=l4 h;exact⟨v.k,v.p,by show Xd.Constant v.c v.k v.p=_;rw[<-XG h]⟩
theorem N'{x:Xd}(h:Ww x) (q:Q (.int (-1)) σ):bK (GX u) c x σ Q X:=by replace h:=bP.inv h;obtain⟨v,rfl,h⟩:=h;replace h:=bP.inv h;obtain⟨w,e,h⟩:=h;show bK (GX u) c (.UnaryOp .USub v.a v.p) σ Q X;rw[e];exact wW (pA (v:=.int 1) (l4 h) q)
theorem FQ{e t:Xd}{J:Nat}:Y9 e (W_ t) J (w_ (Si.of c))=Y9 e (W_ t) J c.env:=by unfold Y9 Env.blockKind Env.kindOf;rfl
theorem i0{e t:Xd}{J:Nat}{z:Bool}(h:jd (Si.of c) e t J z):Y9 e (W_ t) J c.env=pure z:=by obtain⟨x,h1,h2⟩:=G5.inv h;obtain rfl:=fC.inv h2;exact FQ.symm.trans h1
theorem FP{l:List Xd}{e:Xd}:ZQ l e (w_ (Si.of c))=ZQ l e c.env:=by unfold ZQ Env.blockKind Env.kindOf;rfl
theorem Nx:∀{l:List (Str×Pos)}{ns:List Str},tX.nmsB (oX l) ns->ns=l.map (λW=>W.1):=by
 intro l;induction l with
 |nil=>
  intro ns h;induction ns using Xn with
  |nil=>rfl|cons=>exact ff h
 |cons x l ih=>
  intro ns h;induction ns using Xn with|nil=>exact ff h|cons y r=>replace h:=aH h;obtain⟨v,e,h1⟩:=bP.inv h.1;rw[<-cU h1,ih h.2,<- (Xd.Name.inj e).1];rfl
theorem CH{l:List (Str×Pos)}{k:Nat}{p:Pos}{e:Xd}{z:Bool}(h:tX (Si.of c) [.Tuple (oX l) k p] e z):ZQ [.Tuple (oX l) k p] e c.env=pure (match z with|true=>W_ (l.map (λW=>W.1))|false=>Xk):=by
 obtain⟨x,h1,h2⟩:=G5.inv h;refine (FP.symm.trans h1).trans ?_;clear h1;induction z with
 |false=>induction x with|none=>rfl|some=>exact ff h2
 |true=>induction x with
  |none=>exact ff h2|some ns=>obtain⟨v,e,h⟩:=bP.inv (show bP 9 (.Tuple (oX l) k p) (λv=>tX.nmsB v.l ns)=Xg from h2);rw[<- (Xd.Tuple.inj e).1]at h;exact WX (λz=>pure (W_ z)) (Nx h)
theorem lY{t:Nat}:∀{l:ax},fM t l->t∈l:=by
 intro l;induction l with
 |nil=>
  intro h;exact W5 h Xy|cons a l ih=>
  intro h;have h:(match XI a t with|true=>Xg|false=>fM t l)=Xg:=h;generalize e:XI a t=J;induction J with|true=>rw[XJ e];exact .head _|false=>rw[e]at h;exact .tail _ (ih h)
theorem jH{P:Xd->Prop}{l:ax}{x:Xd}(h:g9 l x) (e:∀t∈l,∀v,P (CE t v)):P x:=by have:=e _ (lY h) (vw x);rwa[pQ]at this
end
section
def EvA (u:U)(c:Cx)(a:gj)(σ:St)(Q:V->St->Prop)(X:di->St->Prop):Prop:=match a with|.E x=>bK (GX u) c x σ Q X|.T x=>oA (GX u) c x σ Q X|.A l=>∀p,jC (GX u) c p l σ Q X|.I x=>yx (GX u) c x σ Q X|.S s=>eY (GX u) c s σ Q X|.B b=>oj (GX u) c b σ Q X|.L o l=>∀p,Ug (GX u) c p o l σ Q X|.M o l=>JK (GX u) c o l σ Q X|.O=>Q .none σ|.Y=>Q (.bool Xg) σ
def SN(u:U)(n:N):Prop:=∀S a,fq n S a=Xg-> ∀c,Si.of c=S->bg c-> ∀X σ Q,wp u ⟨c.hd,c.n,X⟩ n σ Q->EvA u c a σ Q X
theorem gL{a b:Bool}(h:(a&&b)):a:=(aH h).1
theorem gR{a b:Bool}(h:(a&&b)):b:=(aH h).2
section
variable{u:U}{n:N}
theorem s0 (h:∀c a X σ Q,fq n (Si.of c) a->bg c->wp u ⟨c.hd,c.n,X⟩ n σ Q->EvA u c a σ Q X):SN u n:=λS a z c e O X σ Q w=>h c a X σ Q (e▸z) O w
theorem sE{k:Si->Xd->Bool}(e:∀S a,fq n S a=aE a (k S))(h:∀c x X σ Q,k (Si.of c) x->bg c->wp u ⟨c.hd,c.n,X⟩ n σ Q->bK (GX u) c x σ Q X):SN u n:=s0 λc a X σ Q z O w=>by obtain⟨x,rfl,y⟩:=aE.inv ((e _ _).symm.trans z);exact h c x X σ Q y O w
theorem snT{k:Si->Xd->Bool}(e:∀S a,fq n S a=aT a (k S))(h:∀c x X σ Q,k (Si.of c) x->bg c->wp u ⟨c.hd,c.n,X⟩ n σ Q->oA (GX u) c x σ Q X):SN u n:=s0 λc a X σ Q z O w=>by obtain⟨x,rfl,y⟩:=aT.inv ((e _ _).symm.trans z);exact h c x X σ Q y O w
theorem sI{k:Si->Xd->Bool}(e:∀S a,fq n S a=aI a (k S))(h:∀c x X σ Q,k (Si.of c) x->bg c->wp u ⟨c.hd,c.n,X⟩ n σ Q->yx (GX u) c x σ Q X):SN u n:=s0 λc a X σ Q z O w=>by obtain⟨x,rfl,y⟩:=aI.inv ((e _ _).symm.trans z);exact h c x X σ Q y O w
theorem sA{k:Si->List Xd->Bool}(e:∀S a,fq n S a=aA a (k S))(h:∀c x X σ Q,k (Si.of c) x->bg c->wp u ⟨c.hd,c.n,X⟩ n σ Q-> ∀p,jC (GX u) c p x σ Q X):SN u n:=s0 λc a X σ Q z O w=>by obtain⟨x,rfl,y⟩:=aA.inv ((e _ _).symm.trans z);exact h c x X σ Q y O w
theorem sS{k:Si->Stmt->Bool}(e:∀S a,fq n S a=aS a (k S))(h:∀c x X σ Q,k (Si.of c) x->bg c->wp u ⟨c.hd,c.n,X⟩ n σ Q->eY (GX u) c x σ Q X):SN u n:=s0 λc a X σ Q z O w=>by obtain⟨x,rfl,y⟩:=aS.inv ((e _ _).symm.trans z);exact h c x X σ Q y O w
theorem sB{k:Si->List Stmt->Bool}(e:∀S a,fq n S a=aB a (k S))(h:∀c x X σ Q,k (Si.of c) x->bg c->wp u ⟨c.hd,c.n,X⟩ n σ Q->oj (GX u) c x σ Q X):SN u n:=s0 λc a X σ Q z O w=>by obtain⟨x,rfl,y⟩:=aB.inv ((e _ _).symm.trans z);exact h c x X σ Q y O w
theorem vE{t:Nat}{k:Si->EV->Bool}(e:∀S a,fq n S a=aE a λx=>bP t x (k S))(h:∀c v X σ Q,k (Si.of c) v->bg c->wp u ⟨c.hd,c.n,X⟩ n σ Q->bK (GX u) c (CE t v) σ Q X):SN u n:=sE e λc x X σ Q z O w=>by obtain⟨v,rfl,y⟩:=bP.inv z;exact h c v X σ Q y O w
theorem vT{t:Nat}{k:Si->EV->Bool}(e:∀S a,fq n S a=aT a λx=>bP t x (k S))(h:∀c v X σ Q,k (Si.of c) v->bg c->wp u ⟨c.hd,c.n,X⟩ n σ Q->oA (GX u) c (CE t v) σ Q X):SN u n:=snT e λc x X σ Q z O w=>by obtain⟨v,rfl,y⟩:=bP.inv z;exact h c v X σ Q y O w
theorem vS{t:Nat}{k:Si->SV->Bool}(e:∀S a,fq n S a=aS a λx=>jv t x (k S))(h:∀c v X σ Q,k (Si.of c) v->bg c->wp u ⟨c.hd,c.n,X⟩ n σ Q->eY (GX u) c (toS t v) σ Q X):SN u n:=sS e λc x X σ Q z O w=>by obtain⟨v,rfl,y⟩:=jv.inv z;exact h c v X σ Q y O w
end
section
variable{u:U}{c:Cx}{f:St}{Q Q':V->St->Prop}{X:di->St->Prop}{n:N}{x:Xd}
theorem Ev.q{t:Sem Xj}(h:Ev (GX u) c (QW (GX u) c) t f Q X) (k:∀v f,Q v f->Q' v f):Ev (GX u) c (QW (GX u) c) t f Q' X:=λg s R=>XY (h g s R) (λW W z=>z.mono .refl k) λW W z=>z
theorem Ev.t{t:Sem Bool}(h:Ev (GX u) c (TW (GX u) c) t f Q X) (k:∀v f,Q v f->Q' v f):Ev (GX u) c (TW (GX u) c) t f Q' X:=λg s R=>XY (h g s R) (λW W z=>by induction z with|mk g' σ' a b q=>exact⟨g',σ',a,b,k _ _ q⟩) λW W z=>z
theorem Ev.a{t:Sem (List Xj)}(h:Ev (GX u) c (SW (GX u) c) t f Q X) (k:∀v f,Q v f->Q' v f):Ev (GX u) c (SW (GX u) c) t f Q' X:=λg s R=>XY (h g s R) (λW W z=>by induction z with|mk g' l σ' a b d q=>exact⟨g',l,σ',a,b,d,k _ _ q⟩) λW W z=>z
theorem Ev.s{t:Sem Flow}(h:Ev (GX u) c (FW (GX u) c) t f Q X) (k:∀v f,Q v f->Q' v f):Ev (GX u) c (FW (GX u) c) t f Q' X:=λg s R=>XY (h g s R) (λW W z=>by induction z with|mk g' o σ' a b d q=>exact⟨g',o,σ',a,b,d,k _ _ q⟩) λW W z=>z
theorem Ev.i{t:Sem Xj}(h:Ev (GX u) c (IW (GX u) c) t f Q X) (k:∀v f,Q v f->Q' v f):Ev (GX u) c (IW (GX u) c) t f Q' X:=λg s R=>XY (h g s R) (λW W z=>by induction z with|mk g' b l σ' a d e q=>exact⟨g',b,l,σ',a,d,e,k _ _ q⟩) λW W z=>z
theorem SN.e (ih:SN u n) (h:fq n (Si.of c) (.E x)) (O:bg c) (w:wp u ⟨c.hd,c.n,X⟩ n f Q) (k:∀v f,Q v f->Q' v f):bK (GX u) c x f Q' X:=Ev.q (ih _ _ h c rfl O X f Q w) k
theorem SN.t (ih:SN u n) (h:fq n (Si.of c) (.T x)) (O:bg c) (w:wp u ⟨c.hd,c.n,X⟩ n f Q) (k:∀v f,Q v f->Q' v f):oA (GX u) c x f Q' X:=Ev.t (ih _ _ h c rfl O X f Q w) k
theorem SN.i (ih:SN u n) (h:fq n (Si.of c) (.I x)) (O:bg c) (w:wp u ⟨c.hd,c.n,X⟩ n f Q) (k:∀v f,Q v f->Q' v f):yx (GX u) c x f Q' X:=Ev.i (ih _ _ h c rfl O X f Q w) k
theorem SN.a{l:List Xd}{p:Pos}(ih:SN u n) (h:fq n (Si.of c) (.A l)) (O:bg c) (w:wp u ⟨c.hd,c.n,X⟩ n f Q) (k:∀v f,Q v f->Q' v f):jC (GX u) c p l f Q' X:=Ev.a (ih _ _ h c rfl O X f Q w p) k
theorem SN.s{s:Stmt}(ih:SN u n) (h:fq n (Si.of c) (.S s)) (O:bg c) (w:wp u ⟨c.hd,c.n,X⟩ n f Q) (k:∀v f,Q v f->Q' v f):eY (GX u) c s f Q' X:=Ev.s (ih _ _ h c rfl O X f Q w) k
theorem SN.b{b:List Stmt}(ih:SN u n) (h:fq n (Si.of c) (.B b)) (O:bg c) (w:wp u ⟨c.hd,c.n,X⟩ n f Q) (k:∀v f,Q v f->Q' v f):oj (GX u) c b f Q' X:=Ev.s (ih _ _ h c rfl O X f Q w) k
theorem SN.o{o:Option Xd}(ih:SN u n) (h:fq n (Si.of c) (u7 o)) (O:bg c) (w:wp u ⟨c.hd,c.n,X⟩ n f Q) (k:∀v f,Q v f->Q' v f):Jj (GX u) c o f Q' X:=by induction o with|none=>exact Ag (k _ _ (ih _ _ h c rfl O X f Q w))|some x=>exact Ae (ih.e h O w k)
end
variable{u:U}{T:Top u}{v:V}
theorem d6.k{k e:Int->Prop}(h:d6 v k)(f:∀z,k z->e z):d6 v e:=by cases v with|int i=>exact f i h|_=>exact h
theorem iU.k{k e:Bool->Prop}(h:iU v k)(f:∀z,k z->e z):iU v e:=by cases v with|bool i=>exact f i h|_=>exact h
theorem isQ.k{b:Bool}{k e:aP->Prop}(h:isQ b v k)(f:∀z,k z->e z):isQ b v e:=by cases v with|sq J i=>(cases b<;>cases J<;>first|exact f i h|exact h)|_=>exact h
theorem cQ.t{a:Bool}{p:Prop}(h:cQ a p False):a/\p:=by induction a with|true=>exact⟨rfl,h⟩|false=>exact h.elim
theorem CM.to{k:aP->Prop}(h:CM v k):Tj v k:=by
 cases v with
 |sq b l=>induction b with
  |false=>exact⟨Xi (cQ.t h).1,(cQ.t h).2⟩|true=>exact h.elim
 |_=>exact h.elim
theorem Wz (h:rU v (.bool Xg)):v=.bool Xg:=by
 have:=l4 h;cases v with
 |bool b=>induction b with|true=>rfl|false=>cases this
 |str s=>unfold Aq at this;dsimp only at this;split at this<;>cases this|_=>cases this
theorem L8 (v:V):SN u (.lit v):=by
 refine s0 λc a X σ Q h O w=>?_;replace h:=u6 h;rcases h with h|h
 .
  replace h:=aE.inv h;obtain⟨x,rfl,h⟩:=h;replace h:=bP.inv h;obtain⟨z,rfl,h⟩:=h;exact pA (l4 h) w
 .obtain rfl:=aY.inv (gL h);obtain rfl:=Wz (gR h);exact w
theorem L7 (i:Nat):SN u (.loc i):=by refine vE (λW W=>rfl) λc v X σ Q h O w=>?_;obtain⟨o,e,w⟩:=ck.to (show Oa i σ Q from w);obtain⟨z,rfl,w⟩:=ck.to w;exact H7 O (vn h) e w
include T in
theorem Mh (j:Nat):SN u (.h9 j):=by refine vE (λW W=>rfl) λc v X σ Q h O w=>?_;replace h:=som?.inv h;obtain⟨y,e,h⟩:=h;obtain⟨h1,h2,h3⟩:=gN h;have w:ck (aF SQ j) λx=>Q (A7 u x.2) σ:=w;rw[e]at w;have:=T.h9 j y e c σ Q X v.p O h2 h3 w;rw[<-h1]at this;exact this
include T in
theorem My (p f:Nat) (o:N) (ih:SN u o):SN u (.Ub p f o):=by refine vE (λW W=>rfl) λc v X σ Q h O w=>?_;show bK (GX u) c (.Attribute v.a v.nm v.p) σ Q X;rw[yn (gL h)];exact Ib T.gk (λW=>n5 (gL (gR h))) (ih.e (gR (gR h)) O w λW W w=>w)
theorem Mw (op:Operator)(p:Nat)(l r:N)(K:SN u l)(J:SN u r):SN u (.bin op p l r):=by refine vE (λW W=>rfl) λc v X σ Q h O w=>?_;obtain rfl:=fC.inv (gL h);exact BB (K.e (gL (gR h)) O w λW W w=>J.e (gR (gR h)) O w λW W w=>w)
theorem LZ (o:N)(ih:SN u o):SN u (.neg o):=by refine vE (λW W=>rfl) λc v X σ Q h O w=>?_;exact wW (ih.e h O w λW W w=>w)
theorem LX (o:N)(ih:SN u o):SN u (.vg o):=by refine vT (λW W=>rfl) λc v X σ Q h O w=>?_;exact FJ (ih.t h O w λW W w=>w)
theorem LG (o:N) (ih:SN u o):SN u (.fU o):=by refine snT (λW W=>rfl) λc x X σ Q h O w=>?_;refine FI (jH (P:=λx=>isTrue x c.env (eval x c.env)=(do let v<-eval x c.env;standAt x.pos;holding [v] (truthy v))) (gL h) ?_) (ih.e (gR h) O w λW W w=>w);intro t J v;simp only[Xv,YA,or_false]at J;rcases J with rfl|rfl|rfl|rfl|rfl<;>rfl
theorem Mf (t b d:N)(J:SN u t)(M:SN u b)(K:SN u d):SN u (.jk t b d):=by
 refine vE (λW W=>rfl) λc v X σ Q h O w=>?_;exact H9 (J.t (gL h) O w λW W w=>w.k λz w=>by induction z with|true=>exact M.e (gL (gR h)) O w λW W w=>w|false=>exact K.e (gR (gR h)) O w λW W w=>w)
theorem ri{b r:N}{S:Si}{op:ZO}{E:Xd->gj}{L:List Xd->gj}{bo:ZO}{l:List Xd}(h:(fC bo op&&con? l λx l=>fq b S (E x)&&con? l λy l=>fq r S (rD E L y l))=Xg):bo=op/\ ∃x y J,l=x::y::J/\fq b S (E x)/\fq r S (rD E L y J):=by have h1:=gL h;replace h:=con?.inv (gR h);obtain⟨x,O,e,h⟩:=h;have h2:=gL h;replace h:=con?.inv (gR h);obtain⟨y,K,M,h⟩:=h;exact⟨fC.inv h1,x,y,K,by rw[e,M],h2,h⟩
theorem Mu (op:ZO) (b r:N) (V:SN u b) (K:SN u r):SN u (.RX op b r):=by
 refine s0 λc a X σ Q h O w=>?_;have key:∀l,(∃x y J,l=x::y::J/\fq b (Si.of c) (.E x)/\fq r (Si.of c) (rD .E (.L op) y J)=Xg)-> ∀p,Ug (GX u) c p op l σ Q X:=by
  rintro l ⟨x,y,J,rfl,h1,h2⟩ p;refine wV (V.e h1 O w λW σ1 w=>iU.k w λz w=>?_);generalize e:j2 op z=Y at w⊢;induction Y with
  |true=>
   induction J using Xn with
   |nil=>exact K.e h2 O w λW W w=>w
   |cons Z J=>exact K _ _ h2 c rfl O X σ1 Q w p
  |false=>exact qT e▸w
 have U:∀l,(∃x y J,l=x::y::J/\fq b (Si.of c) (.T x)/\fq r (Si.of c) (rD .T (.M op) y J)=Xg)->JK (GX u) c op l σ Q X:=by
  rintro l ⟨x,y,J,rfl,h1,h2⟩
  refine tR (V.t h1 O w λW σ1 w=>iU.k w λz w=>?_);generalize e:j2 op z=Y at w⊢;induction Y with
  |true=>
   induction J using Xn with
   |nil=>exact zm (K.t h2 O w λW W w=>w)
   |cons Z J=>exact K _ _ h2 c rfl O X σ1 Q w
  |false=>exact qT e▸w
 replace h:aR a (λE L bo l=>fC bo op&&con? l λx l=>fq b (Si.of c) (E x)&&con? l λy l=>fq r (Si.of c) (rD E L y l)):=h
 unfold aR at h
 induction a with
 |E x=>
  replace h:=bP.inv h
  obtain⟨v,rfl,h⟩:=h;replace h:=ri (E:=.E) (L:=.L v.bo) h;obtain⟨h1,h2⟩:=h;rw[h1]at h2;have:=key _ h2 v.p;rw[<-h1]at this;exact this|T x=>
  replace h:=bP.inv h;obtain⟨v,rfl,h⟩:=h;replace h:=ri (E:=.T) (L:=.M v.bo) h;obtain⟨h1,h2⟩:=h;rw[h1]at h2;have:=U _ h2;rw[<-h1]at this;exact zq this|L o l=>
  obtain⟨rfl,h2⟩:=ri (E:=.E) (L:=.L o) h;exact key _ h2|M o l=>
  obtain⟨rfl,h2⟩:=ri (E:=.T) (L:=.M o) h;exact U _ h2|_=>exact W5 h Xy
theorem bIn{l:ax}{y:Xd}(h:g9 l y)(J:l=[0,1,2,3,4,9,10,12,14] \/l=[0,1,2,3,4,12,14])(op:CmpOp):YO op y=Xb:=by
 refine jH (P:=λy=>YO op y=Xb) h λt e v=>?_;rcases J with rfl|rfl<;>simp only[Xv,YA,or_false]at e
 .rcases e with rfl|rfl|rfl|rfl|rfl|rfl|rfl|rfl|rfl<;>rfl
 .rcases e with rfl|rfl|rfl|rfl|rfl|rfl|rfl<;>rfl
inductive adz (S:Si)(op:CmpOp)(l:N)(r:N)(x:Xd):Prop|mk (a y pp)(h0:x=.Compare a [op] [y] pp)(h1:YO op y=Xb)(h2:fq l S (.E a))(h3:fq r S (.E y))
theorem QA{S:Si}{op:CmpOp}{l r:N}{x:Xd}(h:(bP 8 x λv=>one? v.ops λo=>one? v.l λy=>fC o op&&(g9 [0,1,2,3,4,9,10,12,14] y&&(fq l S (.E v.a)&&fq r S (.E y))))=Xg):adz S op l r x:=by replace h:=bP.inv h;obtain⟨v,e,h⟩:=h;replace h:=one?.inv h;obtain⟨o,J,h⟩:=h;replace h:=one?.inv h;obtain⟨y,e2,h⟩:=h;replace h:=aH h;obtain⟨h1,h⟩:=h;replace h:=aH h;obtain⟨h2,h⟩:=h;replace h:=aH h;obtain⟨h3,h⟩:=h;refine⟨v.a,y,v.p,?_,bIn h2 (.inl rfl) _,h3,h⟩;rw[e];show Xd.Compare v.a v.ops v.l v.p=_;rw[J,e2,fC.inv h1]
include T in
theorem Mo (op:CmpOp)(p q:Nat)(l r:N)(K:SN u l)(J:SN u r):SN u (.cmp op p q l r):=by
 refine s0 λc a X σ Q h O w=>?_;unfold fq at h;replace h:=aX.inv h;rcases h with⟨x,⟨rfl,h⟩|⟨rfl,h⟩⟩ <;>obtain⟨a,y,pp,rfl,h1,h2,h3⟩:=QA h
 .exact By O T.sys h1 (K.e h2 O w λW W w=>J.e h3 O w λW W w=>w)
 .exact zo O T.sys h1 (K.e h2 O w λW W w=>J.e h3 O w λW W w=>w)
theorem Mr (l b d:N) (J:SN u l) (M:SN u b) (K:SN u d):SN u (.xV l b d):=by
 refine s0 λc a X σ Q h O w=>?_;have key:∀{x},(bP 8 x λv=>two? v.ops λo o'=>two? v.l λy z=>(fC o .LtE&&fC o' .LtE)&&((g9 [0,1,2,3,4,12,14] y&&g9 [0,1,2,3,4,12,14] z)&&(fq l (Si.of c) (.E v.a)&&(fq b (Si.of c) (.E y)&&fq d (Si.of c) (.E z)))))->
   ∃a y z pp,x=.Compare a [.LtE,.LtE] [y,z] pp/\YO .LtE y=Xb/\YO .LtE z=Xb/\bK (GX u) c a σ (λx σ1=>bK (GX u) c y σ1 (λy σ2=>eX x y λi j=>match decide (i<=j)with|true=>bK (GX u) c z σ2 (λz σ3=>d6 z λz=>Q (.bool (decide (j<=z))) σ3) X|false=>Q (.bool Xb) σ2) X) X:=by
  clear h;intro x h;replace h:=bP.inv h;obtain⟨v,e,h⟩:=h;replace h:=two?.inv h;obtain⟨o,o',U,h⟩:=h;replace h:=two?.inv h;obtain⟨y,z,e2,h⟩:=h;refine⟨v.a,y,z,v.p,?_,bIn (gL (gL (gR h))) (.inr rfl) _,bIn (gR (gL (gR h))) (.inr rfl) _,J.e (gL (gR (gR h))) O w λW W w=>M.e (gL (gR (gR (gR h)))) O w λW W w=>d6.k w λi w=>d6.k w λj w=>?_⟩
  .rw[e];show Xd.Compare v.a v.ops v.l v.p=_;rw[U,e2,fC.inv (gR (gL h)),fC.inv (gL (gL h))]
  .dsimp only at w⊢;generalize decide (i<=j)=q at w⊢;induction q with|true=>exact K.e (gR (gR (gR (gR h)))) O w λW W w=>w|false=>exact w
 unfold fq at h;replace h:=aX.inv h;rcases h with⟨x,⟨rfl,h⟩|⟨rfl,h⟩⟩ <;>obtain⟨a,y,z,pp,rfl,h1,h2,h3⟩:=key h
 .exact Bz h1 h2 h3
 .exact zp h1 h2 h3
theorem LF (l:N)(ih:SN u l):SN u (.tup l):=by refine vE (λW W=>rfl) λc v X σ Q h O w=>?_;exact HW (ih.a h O w λW W w=>CM.to w)
theorem L5 (l:N)(ih:SN u l):SN u (.fB l):=by refine vE (λW W=>rfl) λc v X σ Q h O w=>?_;exact H5 (ih.a h O w λW W w=>CM.to w)
theorem L6 (q:Nat)(l:N)(ih:SN u l):SN u (.lst q l):=by refine vE (λW W=>rfl) λc v X σ Q h O w=>?_;exact H6 (ih.a h O w λW W w=>CM.to w)
theorem Ml (q:Nat):SN u (.TO q):=by refine vE (λW W=>rfl) λc v X σ Q h O w=>?_;show bK (GX u) c (.Dict v.ks v.l v.p) σ Q X;rw[non?.inv (gL h),non?.inv (gR h)];exact Bw w
theorem Mk (q:Nat):SN u (.Iv q):=by refine vE (λW W=>rfl) λc v X σ Q h O w=>?_;show bK (GX u) c (.Dict v.ks v.l v.p) σ Q X;rw[non?.inv (gL h),non?.inv (gR h)];exact Bv w
theorem Mm (q:Nat)(k m y z:Int):SN u (.TS q k m y z):=by refine vE (λW W=>rfl) λc v X σ Q h O w=>?_;replace h2:=two?.inv (gL (gR h));obtain⟨o,o',e,h2⟩:=h2;have h1:=gL h;replace h:=two?.inv (gR (gR h));obtain⟨t,M,K,h⟩:=h;replace h3:=som?.inv (gL h2);obtain⟨o1,J,h3⟩:=h3;replace h2:=som?.inv (gR h2);obtain⟨o2,e2,h2⟩:=h2;show bK (GX u) c (.Dict v.ks v.l v.p) σ Q X;rw[e,K,J,e2];obtain⟨n1,p1,rfl⟩:=nQ h3;obtain⟨n2,p2,rfl⟩:=nQ h2;obtain⟨n3,p3,rfl⟩:=nQ (gL h);obtain⟨n4,p4,rfl⟩:=nQ (gR h);exact Bx (W7 (nb h1)) ⟨Xi (cQ.t w).1,(cQ.t w).2⟩
theorem Lj{i:Xd}(h:g9 [0,1,2,3,4,6,12,14] i):∀o x,Zz i Xb o x=operate [o,x] (getItem o x):=by refine jH (P:=λi=>∀o x,Zz i Xb o x=operate [o,x] (getItem o x)) h λt e v=>?_;simp only[Xv,YA,or_false]at e;rcases e with rfl|rfl|rfl|rfl|rfl|rfl|rfl|rfl<;>exact λW W=>rfl
theorem Mg (p:Nat) (e i:N) (K:SN u e) (J:SN u i):SN u (.idx p e i):=by refine vE (λW W=>rfl) λc v X σ Q h O w=>?_;exact wX (Lj (gL h)) (K.e (gL (gR h)) O w λW W w=>J.e (gR (gR h)) O w λW W w=>w)
variable{H:Hp}
theorem O3{p k:Nat}{a:V}{f:V->Prop}(hk:k<1000)(h:ixP p k H a f):A2 p H a (.int (k:Int)) f:=by
 have ok:C0 (k:Int):=⟨XO _,MX hk rfl⟩;have J:∀{α:Type}{l:List α}{f:α->Prop},ck (aF l k) f->ky l (k:Int) f:=by intro α l f h;obtain⟨v,e,h⟩:=ck.to h;exact⟨ok,v,e,h⟩
 cases a with
 |sq b l=>exact J h|str l=>exact J h|ref r=>
  obtain⟨m,e,h⟩:=fK.to h;induction m with
  |list l=>exact fK.of e (J h)
  |bz l=>obtain⟨v,K,h⟩:=ck.to h;exact fK.of e ⟨v,K,h⟩
  |_=>exact h.elim
 |_=>exact h.elim
theorem UG (p k:Nat) (e:N) (ih:SN u e):SN u (.ix p k e):=by refine vE (λW W=>rfl) λc v X σ Q h O w=>?_;obtain⟨n1,p1,J⟩:=nQ (gL (gR h));show bK (GX u) c (.Subscript v.a v.b v.p) σ Q X;rw[J];refine wX (λW W=>rfl) (ih.e (gR (gR h)) O w λW W w=>pA (v:=.int k) rfl (O3 ?_ w));exact Nat.lt_of_succ_le (Xi (gL h))
theorem Ma (p:Nat) (e:N) (ih:SN u e):SN u (.rW p e):=by
 refine vE (λW W=>rfl) λc v X σ Q h O w=>?_;have hs:∀o x,Zz v.b Xb o x=operate [o,x] (getItem o x):=by have h1:=(gL h);replace h1:=bP.inv h1;obtain⟨v,e,h1⟩:=h1;rw[e];exact λW W=>rfl
 exact H8 hs (λq=>N' (gL h) q) (ih.e (gR h) O w λW W w=>w)
theorem LK (e lo hi:N)(M:SN u e)(J:SN u lo)(K:SN u hi):SN u (.CN e lo hi):=by refine vE (λW W=>rfl) λc v X σ Q h O w=>?_;replace h:=bP.inv h;obtain⟨z,U,h⟩:=h;show bK (GX u) c (.Subscript v.a v.b v.p) σ Q X;rw[U];exact HX (M.e (gL h) O w λW W w=>J.o (gL (gR h)) O w λW W w=>K.o (gR (gR h)) O w λW W w=>w)
theorem LL (p:Nat)(e lo hi:N)(M:SN u e)(J:SN u lo)(K:SN u hi):SN u (.CO p e lo hi):=by refine vE (λW W=>rfl) λc v X σ Q h O w=>?_;replace h:=bP.inv h;obtain⟨z,U,h⟩:=h;show bK (GX u) c (.Subscript v.a v.b v.p) σ Q X;rw[U];exact HY (M.e (gL h) O w λW W w=>J.o (gL (gR h)) O w λW W w=>K.o (gR (gR h)) O w λW W w=>w)
theorem LV:SN u .yH:=by refine s0 λc a X σ Q h O w=>?_;obtain rfl:=aO.inv h;exact w
theorem N_{j:Nat}{y:Str}(h:aF JN j=W_ y):j<256:=by rw[bf]at h;exact YX (XK.mp h).1 (show JN.length<=256 from ll)
include T in
theorem LQ (b p:Nat) (r:N) (ih:SN u r):SN u (.bU b p r):=by refine sE (λW W=>rfl) λc x X σ Q h O w=>?_;replace h:=gS (c:=c) h;obtain⟨nm,px,l,p,rfl,⟨K,e⟩,h⟩:=h;replace h2:=som?.inv (gL (gR h));obtain⟨y,J,h2⟩:=h2;obtain⟨h3,h4,M⟩:=gN h2;subst h3;exact Px O (gL h) (oN b) (Gl T.sys T.isi b) K h4 M (T.bU b _ J) (ih.a (gR (gR h)) O w λW W w=>w)
include T in
theorem Mt (j:Nat) (ps:ax) (r:N) (ih:SN u r):SN u (.a_ j ps r):=by refine sE (λW W=>rfl) λc x X σ Q h O w=>?_;replace h:=gS (c:=c) h;obtain⟨nm,px,l,p,rfl,⟨M,K⟩,h⟩:=h;replace h1:=som?.inv (gL h);obtain⟨y,J,h1⟩:=h1;obtain⟨h3,h4,U⟩:=gN (gR h1);subst h3;refine BA (G:=GX u) O (T.TJ j (N_ J)) M h4 U (T.fn j _ J ?_) (ih.a (gR h) O w λW W w=>w);intro e;have h2:=gL h1;rw[e]at h2;exact ff h2
include T in
theorem Ms (ps:ax)(o r:N)(J:SN u o)(ih:SN u r):SN u (.QD ps o r):=by refine sE (λW W=>rfl) λc x X σ Q h O w=>?_;replace h:=gS (c:=c) h;obtain⟨nm,px,l,p,rfl,⟨U,M⟩,h⟩:=h;replace h:=bP.inv h;obtain⟨v,e,h⟩:=h;have e2:Xd.Name nm px=v.a:=WX (λe=>(vw e).a) e;have h1:=gL h;rw[<-e2]at h1;refine wY (ps:=ps) O T.TJ U (J.e h1 O w λv σ1 w=>?_);obtain⟨i,rfl,K⟩:=JD.to w;exact⟨i,rfl,Nat.lt_of_succ_le (Xi (cQ.t K).1),ih.a (gR h) O (cQ.t K).2 λW W w=>w⟩
theorem rS.k{G:cc}{q m:Nat}{k K:Nat->Prop}(h:rS G q m H v k)(f:∀z,k z->K z):rS G q m H v K:=by
 cases v with|obj cl fs=>
  obtain⟨i,e,J,h⟩:=qy.to h;exact qy.of e J (f _ h)|ref a=>
  obtain⟨b,cl,fs,M,h⟩:=HA.to h;obtain⟨i,e,J,h⟩:=qy.to h;exact fK.of M (qy.of (G:=G) e J (f _ h))|_=>exact h.elim
include T in
theorem L3 (q m:Nat)(ps:ax)(o r:N)(K:SN u o)(ih:SN u r):SN u (.bI q m ps o r):=by refine sE (λW W=>rfl) λc x X σ Q h O w=>?_;replace h:=lX (c:=c) h;obtain⟨y,nm,px,l,p,rfl,⟨U,J⟩,⟨M,V⟩,h⟩:=h;rw[yn (gL h)];exact Bu (G:=GX u) O T.mt (λW=>n5 M) U J V (K.e (gL (gR h)) O w λW W w=>w.k λi w=>ih.a (gR (gR h)) O w λW W w=>w)
theorem Gu{m:Nat}{x:Str}:∀{l:List (Str×Nat)},u5 m x l->(x,m)∈l:=by
 intro l;induction l with
 |nil=>
  intro h;exact W5 h Xy|cons y l ih=>
  intro h;replace h:=u6 h;rcases h with h|h
  .
   replace h:=aH h;obtain⟨h1,h⟩:=h;rw[cU h1,XJ h];exact .head _
  .exact .tail _ (ih h)
include T in
theorem L4 (p m:Nat) (o r:N) (K:SN u o) (ih:SN u r):SN u (.bT p m o r):=by refine sE (λW W=>rfl) λc x X σ Q h O w=>?_;replace h:=lX (c:=c) h;obtain⟨y,nm,px,l,p,rfl,⟨U,J⟩,⟨M,V⟩,h⟩:=h;exact H3 (G:=GX u) O (gL (gL h)) T.sys (λW=>n5 M) J U V (Gu (gR (gL h))) (K.e (gL (gR h)) O w λW W w=>⟨w.1,ih.a (gR (gR h)) O w.2 λW W w=>w⟩)
include T in
theorem LY (cl q:Nat) (r:N) (ih:SN u r):SN u (.new cl q r):=by refine sE (λW W=>rfl) λc x X σ Q h O w=>?_;replace h:=gS (c:=c) h;obtain⟨nm,px,l,p,rfl,⟨K,e⟩,h⟩:=h;replace h1:=som?.inv (gR (gL h));obtain⟨y,J,h1⟩:=h1;obtain⟨h3,h4,M⟩:=gN h1;subst h3;exact HZ (G:=GX u) O (T.Wr cl (gL (gL h))) K h4 M (T.cl cl _ J) (ih.a (gR h) O w λW W w=>by rw[OZ,Hl]at w;exact w)
include T in
theorem LW (cl:Nat) (r:N) (ih:SN u r):SN u (.ez cl r):=by refine sE (λW W=>rfl) λc x X σ Q h O w=>?_;replace h:=gS (c:=c) h;obtain⟨nm,px,l,p,rfl,⟨K,e⟩,h⟩:=h;replace h1:=som?.inv (gR (gL h));obtain⟨y,J,h1⟩:=h1;obtain⟨h3,h4,M⟩:=gN h1;subst h3;exact Bt (G:=GX u) O (T.Wr cl (gL (gL h))) K h4 M (T.cl cl _ J) (ih.a (gR h) O w λW W w=>w)
include T in
theorem Mp (cl j:Nat) (ps:ax) (r:N) (ih:SN u r):SN u (.IC cl j ps r):=by refine sE (λW W=>rfl) λc x X σ Q h O w=>?_;replace h:=lX (c:=c) h;obtain⟨y,nm,px,l,p,rfl,⟨K,e⟩,⟨J,M⟩,h⟩:=h;obtain rfl:=XJ (gL (gL h));obtain rfl:=XJ (gR (gL h));obtain rfl:=cU (gL (gR h));replace h3:=bP.inv (gL (gR (gR h)));obtain⟨v,rfl,h3⟩:=h3;obtain⟨V,U,Y⟩:=gN h3;refine H_ (G:=GX u) (i:=82) (ps:=ps) O T.cm (T.TJ 82 ll) (λW=>n5 J) K e M ?_;show bK (GX u) c (.Name v.nm v.p) _ _ _;rw[V];exact T.st c σ _ X v.p O U ⟨rfl,ih.a (gR (gR (gR h))) O w λW W w=>w⟩
include T in
theorem Mq (q0:Nat) (r:N) (ih:SN u r):SN u (.TV q0 r):=by refine sE (λW W=>rfl) λc x X σ Q h O w=>?_;replace h:=lX (c:=c) h;obtain⟨y,nm,px,l,p,rfl,⟨M,e⟩,⟨J,U⟩,h⟩:=h;obtain rfl:=cU (gL (gR h));replace h3:=bP.inv (gL (gR (gR h)));obtain⟨v,rfl,h3⟩:=h3;obtain⟨Y,V,Z⟩:=gN h3;refine Ia (G:=GX u) (K:=k2 (Hn mM q0)) O (gL h) T.cb (@fg.to (GX u) _ _ (uO λcl z=>(T.en cl z).ex)) (λW=>n5 J) M e U ?_;show bK (GX u) c (.Name v.nm v.p) _ _ _;rw[Y];exact T.ex c σ _ X v.p O V ⟨rfl,ih.a (gR (gR (gR h))) O w λW W w=>w⟩
theorem MB:SN u .bJ:=by refine sA (λW W=>rfl) λc x X σ Q h O w=>?_;rw[non?.inv h];exact λp=>Bs w
theorem MC (y r:N) (J:SN u y) (ih:SN u r):SN u (.oz y r):=by refine sA (λW W=>rfl) λc x X σ Q h O w=>?_;replace h:=con?.inv h;obtain⟨z,l,e,h⟩:=h;subst e;exact λp=>wU (jM (gL h)) (J.e (gL (gR h)) O w λW W w=>ih.a (gR (gR h)) O w λW W w=>w)
theorem Mb (e:N) (ih:SN u e):SN u (.fb e):=by refine sI (λW W=>rfl) λc x X σ Q h O w=>?_;exact O5 O (gL h) (ih.e (gR h) O w λW W w=>w)
theorem Me (e:N) (ih:SN u e):SN u (.TC e):=by refine sI (λW W=>rfl) λc x X σ Q h O w=>?_;exact Ht O (gL h) (ih.e (gR h) O w λW W w=>w)
include T in
theorem Mc (r:N)(ih:SN u r):SN u (.yK r):=by refine sI (λW W=>rfl) λc x X σ Q h O w=>?_;replace h:=gS (c:=c) h;obtain⟨nm,px,l,p,rfl,⟨K,J⟩,h⟩:=h;replace h:=one?.inv h;obtain⟨y,e,h⟩:=h;subst e;obtain⟨V,U,M⟩:=gN (gL (gR h));subst V;exact wc O (gL h) K U M T.rng (ih.a (gR (gR h)) O w λW W w=>w)
theorem LP (e:N)(ih:SN u e):SN u (.ret e):=by refine vS (λW W=>rfl) λc v X σ Q h O w=>?_;replace h:=som?.inv h;obtain⟨x,J,h⟩:=h;show eY (GX u) c (.Return v.o1 v.p) σ Q X;rw[J];exact HP (ih.e h O w λW W w=>w)
theorem LN:SN u .yF:=by refine vS (λW W=>rfl) λc v X σ Q h O w=>?_;show eY (GX u) c (.Return v.o1 v.p) σ Q X;rw[nil?.inv h];exact Bk w
theorem Md (t b d:N)(e:SN u t)(K:SN u b)(J:SN u d):SN u (.ite t b d):=by
 refine vS (λW W=>rfl) λc v X σ Q h O w=>?_;exact Pr (e.t (gL h) O w λW W w=>iU.k w λz w=>by induction z with|true=>exact K.b (gL (gR h)) O w λW W w=>w|false=>exact J.b (gR (gR h)) O w λW W w=>w)
theorem Mj (e:N) (ih:SN u e):SN u (.exp e):=by
 refine vS (λW W=>rfl) λc v X σ Q h O w=>?_;refine Bn ?_ ?_ (ih.e (gR h) O w λW W w=>w)
 .unfold interactive;rw[O.kind];rfl
 .refine jH (P:=λe=>Y9 e Xk v.p.line c.env=pure Xb) (gL h) λt J v=>?_;simp only[Xv,YA,or_false]at J;subst J;rfl
theorem LU:SN u .VB:=by refine vS (λW W=>rfl) λc v X σ Q h O w=>?_;exact Bl w
theorem Mn:SN u .cnt:=by refine vS (λW W=>rfl) λc v X σ Q h O w=>?_;exact Bo w
theorem MA (i:Nat) (e:N) (ih:SN u e):SN u (.asg i e):=by refine vS (λW W=>rfl) λc v X σ Q h O w=>?_;replace h:=one?.inv h;obtain⟨y,J,h⟩:=h;show eY (GX u) c (.Assign v.l v.a v.p) σ Q X;rw[J];replace h2:=bP.inv (gL (gR h));obtain⟨z,rfl,h2⟩:=h2;exact HU O (iv h2).1 (iv h2).2 (i0 (gL h)) (ih.e (gR (gR h)) O w λW W w=>AO.mp w)
theorem Mz (is:ax) (z:Bool) (e:N) (ih:SN u e):SN u (.ast is z e):=by refine vS (λW W=>rfl) λc v X σ Q h O w=>?_;replace h:=one?.inv h;obtain⟨y,K,h⟩:=h;show eY (GX u) c (.Assign v.l v.a v.p) σ Q X;rw[K];replace h2:=bP.inv (gL (gR (gR h)));obtain⟨t,rfl,h2⟩:=h2;obtain⟨M,e2,h4⟩:=oU h2;have h3:=gL (gR (gR (gR h)));rw[K]at h3;change tX (Si.of c) [.Tuple t.l t.k t.p] v.a z=Xg at h3;have J:jd (Si.of c) v.a (.Tuple t.l t.k t.p) v.p.line Xb:=gL (gR h);show eY (GX u) c (.Assign [.Tuple t.l t.k t.p] v.a v.p) σ Q X;rw[e2]at h3 J⊢;induction z with|true=>exact Br O (gL h) h4 (i0 J) (CH h3) (ih.e (gR (gR (gR (gR h)))) O w λW W w=>w)|false=>exact Bq O (gL h) h4 (i0 J) (CH h3) (ih.e (gR (gR (gR (gR h)))) O w λW W w=>w)
include T in
theorem LM (p f:Nat) (e o:N) (K:SN u e) (J:SN u o):SN u (.sat p f e o):=by refine vS (λW W=>rfl) λc v X σ Q h O w=>?_;replace h:=one?.inv h;obtain⟨y,M,h⟩:=h;have h1:=gL h;replace h:=bP.inv (gR h);obtain⟨t,rfl,h⟩:=h;show eY (GX u) c (.Assign v.l v.a v.p) σ Q X;rw[M];change jd (Si.of c) v.a (.Attribute t.a t.nm t.p) v.p.line Xb=Xg at h1;show eY (GX u) c (.Assign [.Attribute t.a t.nm t.p] v.a v.p) σ Q X;rw[yn (gL h)]at h1⊢;exact HO T.gk (i0 h1) (K.e (gL (gR h)) O w λW W w=>J.e (gR (gR h)) O w λW W w=>w)
theorem LJ (p:Nat) (e o i:N) (M:SN u e) (J:SN u o) (K:SN u i):SN u (.il p e o i):=by refine vS (λW W=>rfl) λc v X σ Q h O w=>?_;replace h:=one?.inv h;obtain⟨y,U,h⟩:=h;have h1:=gL h;replace h:=bP.inv (gR h);obtain⟨t,rfl,h⟩:=h;show eY (GX u) c (.Assign v.l v.a v.p) σ Q X;rw[U];exact HN (i0 h1) (M.e (gL h) O w λW W w=>J.e (gL (gR h)) O w λW W w=>K.e (gR (gR h)) O w λW W w=>w)
theorem LI (p:Nat) (e o:N) (K:SN u e) (J:SN u o):SN u (.Ti p e o):=by refine vS (λW W=>rfl) λc v X σ Q h O w=>?_;replace h:=one?.inv h;obtain⟨y,M,h⟩:=h;have h1:=gL h;replace h:=bP.inv (gR h);obtain⟨t,rfl,h⟩:=h;show eY (GX u) c (.Assign v.l v.a v.p) σ Q X;rw[M];exact HM (i0 h1) (λq=>N' (gL h) q) (K.e (gL (gR h)) O w λW W w=>J.e (gR (gR h)) O w λW W w=>w)
theorem Mv:SN u .B9:=by refine sB (λW W=>rfl) λc x X σ Q h O w=>?_;rw[non?.inv h];exact HQ w
theorem kS.m{o:V}{a e b:Prop}(h:kS o a b)(f:a->e):kS o e b:=by cases o<;>first|exact f h|exact h
theorem Mx (s r:N)(J:SN u s)(ih:SN u r):SN u (.yN s r):=by refine sB (λW W=>rfl) λc x X σ Q h O w=>?_;replace h:=con?.inv h;obtain⟨z,l,e,h⟩:=h;subst e;refine Bp (J.s (gL h) O w λo σ1 w=>?_);exact kS.m w λw=>ih.b (gR h) O w λW W w=>w
include T in
theorem Mi (g:Gh) (r:N) (ih:SN u r):SN u (.dY g r):=by refine sB (λW W=>rfl) λc x X σ Q h O w=>?_;intro e s R;obtain⟨g',σ',k,R',q⟩:=HG T.sys R w;exact XY (ih _ _ h c rfl O X σ' Q q g' s R') (λW W z=>z.mono k) λW W z=>z.mono k
theorem HH{i:Xd}(h:g9 [0,1,2,3,9,12,14] i){env:Env}:∀x,YT i env x=pure x:=by refine jH (P:=λi=>∀x,YT i env x=pure x) h λt e v=>?_;simp only[Xv,YA,or_false]at e;rcases e with rfl|rfl|rfl|rfl|rfl|rfl|rfl<;>exact λW=>rfl
theorem zC.to{k:aP->Prop}:zC v k->match v with|.sq _ l=>k l|_=>False:=by intro h;cases v<;>exact h
theorem F6 (i:Nat) (it b:N) (J:SN u it) (K:SN u b):SN u (.eH i it b):=by refine vS (λW W=>rfl) λc v X σ Q h O w=>?_;show eY (GX u) c (.For v.a v.b v.bs v.cs v.p) σ Q X;rw[non?.inv (gR (gL h))];replace h1:=bP.inv (gL (gR h));obtain⟨z,e,h1⟩:=h1;rw[e];exact wQ O (gL (gL h)) (HH (gL (gR (gR h)))) (yp O (iv h1).1 (iv h1).2) (λF M σ k w=>K.b (gR (gR (gR (gR h)))) (O.aV M) w λW W w=>w) (J.i (gL (gR (gR (gR h)))) O w λW W w=>zC.to (by rw[Hq,Cs]at w;exact w))
theorem F4 (is:ax) (it b:N) (J:SN u it) (K:SN u b):SN u (.iA is it b):=by refine vS (λW W=>rfl) λc v X σ Q h O w=>?_;show eY (GX u) c (.For v.a v.b v.bs v.cs v.p) σ Q X;rw[non?.inv (gR (gL h))];replace h1:=bP.inv (gL (gR h));obtain⟨z,e,h1⟩:=h1;rw[e];obtain⟨U,e2,h4⟩:=oU h1;show eY (GX u) c (.For (.Tuple z.l z.k z.p) v.b v.bs [] v.p) σ Q X;rw[e2];exact wQ O (gR (gL (gL h))) (HH (gL (gR (gR h)))) (Cm O (gL (gL (gL h))) h4) (λF M σ k w=>K.b (gR (gR (gR (gR h)))) (O.aV M) w λW W w=>w) (J.i (gL (gR (gR (gR h)))) O w λW W w=>zC.to w)
include T in
theorem F5 (is:ax) (r b:N) (J:SN u r) (K:SN u b):SN u (.Bf is r b):=by refine vS (λC C=>rfl) λc v X σ Q h O w=>?_;show eY (GX u) c (.For v.a v.b v.bs v.cs v.p) σ Q X;rw[non?.inv (gR (gL h))];replace h1:=bP.inv (gL (gR h));obtain⟨z,e,h1⟩:=h1;rw[e];obtain⟨l',e2,h4⟩:=oU h1;show eY (GX u) c (.For (.Tuple z.l z.k z.p) v.b v.bs [] v.p) σ Q X;rw[e2];replace h2:=gS (c:=c) (gL (gR (gR h)));obtain⟨nm,px,l,p,e3,⟨U,M⟩,h2⟩:=h2;rw[e3];replace h2:=one?.inv h2;obtain⟨y,e4,h2⟩:=h2;subst e4;obtain⟨h6,Z,Y⟩:=gN (gL h2);subst h6;refine Bm (W:=wp u ⟨c.hd,c.n,X⟩ b) O (gL (gL (gL h))) (gR (gL (gL h))) h4 U Z Y T.enu (λF V σ k w=>K.b (gR (gR (gR h))) (O.aV V) w λC C w=>w) (J.a (gR h2) O w λC C w=>w)
theorem LD (t b:N)(e:SN u t)(J:SN u b):SN u (.jE t b):=by
 refine vS (λW W=>rfl) λc v X σ Q h O w=>?_;show eY (GX u) c (.While v.a v.bs v.cs v.p) σ Q X;rw[non?.inv (gR (gL h))];exact wN O (gL (gL h)) λI K=>w I λσ w=>K σ (e.t (gL (gR h)) O w λW W w=>iU.k w λz w=>by induction z with|true=>exact J.b (gR (gR h)) O w λW W w=>w|false=>exact w)
include T in
theorem LO (cl:Nat) (r:N) (ih:SN u r):SN u (.gD cl r):=by refine vS (λW W=>rfl) λc v X σ Q h O w=>?_;have hd:=gL (gL h);have h0:=gR (gL h);replace h:=som?.inv (gR h);obtain⟨x,U,h⟩:=h;show eY (GX u) c (.Raise v.o1 v.o2 v.p) σ Q X;rw[nil?.inv h0,U];replace h:=gS (c:=c) h;obtain⟨nm,px,l,p,rfl,⟨K,e⟩,h⟩:=h;replace h1:=som?.inv (gR (gL h));obtain⟨y,J,h1⟩:=h1;obtain⟨h3,h4,M⟩:=gN h1;subst h3;exact wO (G:=GX u) O hd (T.en cl (gL (gL h))) K h4 M e (T.cl cl _ J) (ih.a (gR h) O w λW W w=>w.k λvs w=>⟨Xi (cQ.t w).1,(cQ.t w).2⟩)
inductive ado (x:ZS) (k:Str->Str->List Stmt->Bool):Prop|mk (nm px n l p) (h0:x=.ExceptHandler (W_ (.Name nm px)) (W_ n) l p) (h1:k nm n l)
theorem O9{x:ZS}{k:Str->Str->List Stmt->Bool}(h:A4 x k):ado x k:=by
 cases x with|ExceptHandler t n b p=>induction t with|none=>exact ff h|some t=>cases t with
   |Name x px=>induction n with
    |none=>exact ff h|some n=>exact⟨_,_,_,_,_,rfl,h⟩
   |_=>exact ff h
variable{c:Cx}
include T in
theorem Pb {x:ZS}{cl i:Nat}{J:N} (ih:SN u J)(O:bg c)(h:A4 x (λx n l=>(mM cl&&sk (Si.of c) cl x)&&((rR (Si.of c) i n&&iT (Si.of c) n .local)&&(!non? l&&fq J {Si.of c with hd:=Xb} (.B l))))=Xg):
  ∃d:HD,x=d.mk'/\Jk (GX u) c mM d/\(d.cl,d.i,d.W)=(cl,i,wp u ⟨Xb,c.n,iX⟩ J):=by
 replace h:=O9 h;obtain⟨nm,px,n,l,p,rfl,h⟩:=h;replace h:=aH h;obtain⟨h0,h⟩:=h;replace h:=aH h;obtain⟨h1,h⟩:=h;replace h0:=aH h0;obtain⟨h2,h0⟩:=h0;replace h1:=aH h1;obtain⟨h3,h1⟩:=h1;replace h:=aH h;obtain⟨h4,h⟩:=h;replace h0:=som?.inv h0;obtain⟨y,K,h0⟩:=h0;obtain⟨Y,V,U⟩:=gN h0;subst Y;induction l using Xn with|nil=>exact W5 h4 Xy|cons b bs=>refine⟨⟨nm,px,n,b,bs,p,cl,i,wp u ⟨Xb,c.n,iX⟩ J⟩,rfl,⟨V,U,T.cl cl _ K,(T.en cl h2).ex,vn h3,nP h1,λa M=>T.hs a cl M h2,λe σ k w=>?_⟩,rfl⟩;exact ih.b (c:=kZ c e) h O.mark w λC C w=>w
include T in
theorem LH (b:N) (c1 i1:Nat) (h1:N) (c2 i2:Nat) (h2:N) (J:SN u b) (M:SN u h1) (K:SN u h2):SN u (.try b c1 i1 h1 c2 i2 h2):=by
 refine vS (λC C=>rfl) λc v X σ Q h O w=>?_;have h3:=gL (gR h);have U:=gL (gL h);have h4:=gL (gR (gL h));have h0:=gR (gR (gL h));replace h:=two?.inv (gR (gR h));obtain⟨x,y,e,h⟩:=h;show eY (GX u) c (.Try v.bs v.hs v.cs v.ds v.p) σ Q X;rw[non?.inv h0,non?.inv h4,e];obtain⟨d1,rfl,k1,V⟩:=Pb (T:=T) M O (gL h);obtain⟨d2,rfl,k2,e2⟩:=Pb (T:=T) K O (gR h);refine HL (G:=GX u) (ok:=mM) (d:=d1) (hs:=[d2]) O U (λd hd=>?_) (J.b h3 O ?_ λC C w=>w)
 .rcases Xv.mp hd with rfl|hd
  .exact k1
  .rcases Xv.mp hd with rfl|hd
   .exact k2
   .cases hd
 .show wp u ⟨c.hd,c.n,λx σ'=>rx mM [(d1.cl,d1.i,d1.W),(d2.cl,d2.i,d2.W)] x σ' Q⟩ b σ Q;rw[V,e2];exact w
theorem rh (nm:List Str):∀cz:ax,pH nm cz=cz.filterMap (nm[·]?):=by
 intro cz;induction cz with
 |nil=>
  exact rfl|cons i r ih=>
  show(match aF nm i with|some y=>y::pH nm r|none=>pH nm r)=_;rw[List.filterMap_cons,bf,ih];cases nm[i]?<;>rfl
theorem vb{x:Str}:∀{l:List Str},jh x l=Xb->x∉l:=by
 intro l;induction l with|nil=>
  intro _ h;exact nomatch h|cons y l ih=>
  intro h m;have h:_/\_:=Bool.or_eq_false_iff.mp (show(cC x y||jh x l)=Xb from h);rcases Xv.mp m with rfl|m
  .have:=h.1;rw[<-ee,WY]at this;exact ft this
  .exact ih h.2 m
theorem VS:∀{l:List Str},VT l->l.Nodup:=by
 intro l;induction l with
 |nil=>
  intro _;exact .nil|cons x l ih=>
  intro h;exact X5.mpr ⟨vb (nb (aH h).1),ih (aH h).2⟩
theorem w8{α:Type}[DecidableEq α] {a b:α}(h:(!fC a b)):a≠b:=W7 (nb h)
variable{sc:Scope}
theorem Ga (hk:c.env.scope.kind=.function):UH (Si.of c) sc=(relabel sc c.env).names:=by
 unfold UH relabel;refine List.map_congr_left λy W=>?_;obtain⟨n,k⟩:=y;have e:(c.env.scope.kind==ScopeKind.function):=by rw[hk];rfl
 have e2:iT (Si.of c) n .cell=(c.env.kindOf n==W_ .cell):=by unfold iT;rw[jN];show som? (c.env.kindOf n) _=_;cases c.env.kindOf n with|none=>rfl|some j=>cases j<;>rfl
 show(match fC k .free&&iT (Si.of c) n .cell with|true=>(n,YR.cell)|false=>(n,k))=if(k==Y8&&(c.env.scope.kind==ScopeKind.function)&&(c.env.kindOf n==W_ .cell))=Xg then(n,.cell)else (n,k);rw[e,<-e2];generalize iT (Si.of c) n .cell=z;cases k<;>cases z<;>rfl
variable{cz:ax}
theorem BQ{x:Str}(h:Iy (Si.of c) sc x cz):iI c sc x cz:=by
 unfold Iy at h;have a:=λy (J:y∈sc.names)=>XM.mp (gL (gR (gR h))) y J;refine⟨fC.inv (gL (gR h)),λy J=>w8 (aH (a y J)).1,λy J e=>?_,λy J e=>?_,?_,λi hi=>?_,?_,(ee _ _).trans (nb (gL (gR (gR (gR (gR (gR (gR h)))))))),(ee _ _).trans (nb (gR (gR (gR (gR (gR (gR (gR h))))))))⟩
 .have:=(aH (aH (a y J)).2).1;rcases u6 this with q|q
  .exact W5 e (w8 q)
  .have:=fC.inv q;rwa[jN]at this
 all_goals skip
 .have:=(aH (aH (a y J)).2).2;rcases u6 this with q|q
  .exact W5 e (w8 q)
  .exact qz q
 .have:=fC.inv (gL (gR (gR (gR h))));rwa[jN]at this
 .have:=XM.mp (gL (gR (gR (gR (gR h))))) i hi;replace this:=som?.inv this;obtain⟨y,e,this⟩:=this;have q4:=fC.inv (gR (gR (gR this)));rw[jN,Ga (fC.inv (gL h))]at q4;refine⟨y,(bf _ _).symm.trans e,qz (gL this),?_,nP (gL (gR (gR this))),q4⟩;obtain⟨z,m,q2⟩:=List.any_eq_true.mp (gL (gR this));obtain⟨K,M⟩:=z;obtain rfl:=cU (gL q2);obtain rfl:=fC.inv (gR q2);exact m
 .have:=VS (gL (gR (gR (gR (gR (gR h))))));rw[rh]at this;exact this
inductive ads(g:Comprehension)(k:Str->Xd->List Xd->Bool):Prop|mk(x px it ifs)(h0:g=⟨.Name x px,it,ifs,0⟩)(h1:k x it ifs)
theorem Pg{g:Comprehension}{k:Str->Xd->List Xd->Bool}(h:Ph g k):ads g k:=by
 cases g with|mk t it ifs a=>cases t with
  |Name x px=>induction a with
   |ofNat a=>induction a using XN with|zero=>exact⟨_,_,_,_,rfl,h⟩|succ=>exact ff h
   |negSucc=>exact ff h
  |_=>exact ff h
inductive LcC (c:Cx)(v:EV)(cz:ax)(k:Xd->Si->List Xd->Bool):Prop|mk (x px it ifs)(h0:v.gs=[⟨.Name x px,it,ifs,0⟩])(h1:c.hd)(h2:iI c v.sc x cz)(h3:(∀y,YT it c.env y=pure y))(h4:k it (Jr (Si.of c) v.sc x cz) ifs)
theorem G7{v:EV}{k:Xd->Si->List Xd->Bool}(h:Oj (Si.of c) v cz k):LcC c v cz k:=by unfold Oj at h;have h0:=gL h;replace h:=one?.inv (gR h);obtain⟨g,e,h⟩:=h;replace h:=Pg h;obtain⟨x,px,it,ifs,rfl,h⟩:=h;exact⟨x,px,it,ifs,e,h0,BQ (gL h),HH (gL (gR h)),(gR (gR h))⟩
theorem ue{x:Str}{C:Addr}{Lc cp F:Hp}:Si.of (aV (nY c C sc (x::cz.filterMap (c.nm[·]?)) Lc cp) F)=Jr (Si.of c) sc x cz:=by unfold Jr;rw[rh];rfl
theorem vV{x:Str}{ifs:List Xd}{elt:Xd}{t b:N}(O:bg c) (D:iI c sc x cz) (J:SN u t) (M:SN u b) (h1:A0 ifs (fq t (Jr (Si.of c) sc x cz))) (h2:fq b (Jr (Si.of c) sc x cz) (.E elt)):
  SI (GX u) c sc x cz ifs elt (wp u ⟨c.hd,c.n,iX⟩ t) (wp u ⟨c.hd,c.n,iX⟩ b):=by
 intro C o m cs n;have O':=O.comp (C:=C) (cs:=cs) D n;refine⟨λF K σ k w=>?_,λF K σ k w=>?_⟩
 .rw[<-ue (C:=C) (Lc:=(c.env.locals,.fc o)::cs) (cp:=cs++c.jm) (F:=F)]at h1;induction ifs using Xn with|nil=>exact AY (J _ _ h1 _ rfl (O'.aV K) iX σ k w)|cons y l=>induction l using Xn with|nil=>exact AX (J.t h1 (O'.aV K) w λW W w=>w)|cons=>exact ff h1
 .rw[<-ue (C:=C) (Lc:=(c.env.locals,.fc o)::cs) (cp:=cs++c.jm) (F:=F)]at h2;exact M.e h2 (O'.aV K) w λW W w=>w
theorem UE (cz:ax) (it t b:N) (K:SN u it) (J:SN u t) (M:SN u b):SN u (.lc cz it t b):=by refine vE (λW W=>rfl) λc v X σ Q h O w=>?_;obtain⟨x,px,U,ifs,e,hd,D,hs,h1⟩:=G7 h;show bK (GX u) c (.ListComp v.a v.gs v.sc v.p) σ Q X;rw[e];exact Pw O hd D hs (vV O D J M (gL (gR h1)) (gR (gR h1))) (K.i (gL h1) O w λW W w=>zC.to w)
theorem L_ (i:Nat) (cz:ax) (it t b:N) (M:SN u it) (K:SN u t) (U:SN u b):SN u (.JB i cz it t b):=by refine vS (λW W=>rfl) λc v X σ Q h O w=>?_;replace h:=one?.inv h;obtain⟨y,Z,h⟩:=h;have h1:=gL h;have h2:=gL (gR h);replace h:=bP.inv (gR (gR h));obtain⟨z,e2,h⟩:=h;obtain⟨x,px,Y,ifs,e,hd,D,hs,h4⟩:=G7 h;show eY (GX u) c (.Assign v.l v.a v.p) σ Q X;replace h2:=bP.inv h2;obtain⟨J,V,h2⟩:=h2;rw[e2,V]at h1;rw[Z,e2,V];change jd (Si.of c) (.ListComp z.a z.gs z.sc z.p) (.Name J.nm J.p) v.p.line Xg=Xg at h1;show eY (GX u) c (.Assign [.Name J.nm J.p] (.ListComp z.a z.gs z.sc z.p) v.p) σ Q X;rw[e]at h1⊢;exact HS O hd D hs (iv h2).1 (iv h2).2 (i0 h1) (vV O D K U (gL (gR h4)) (gR (gR h4))) (M.i (gL h4) O w λW W w=>zC.to (by rw[O0,AJ]at w;exact w))
theorem L9 (q i:Nat) (cz:ax) (it t b:N) (M:SN u it) (K:SN u t) (U:SN u b):SN u (.TA q i cz it t b):=by refine vS (λW W=>rfl) λc v X σ Q h O w=>?_;replace h:=one?.inv h;obtain⟨y,Z,h⟩:=h;have h1:=gL h;have h2:=gL (gR h);replace h:=bP.inv (gR (gR h));obtain⟨z,e2,h⟩:=h;obtain⟨x,px,Y,ifs,e,hd,D,hs,h4⟩:=G7 h;show eY (GX u) c (.Assign v.l v.a v.p) σ Q X;replace h2:=bP.inv h2;obtain⟨J,V,h2⟩:=h2;rw[e2,V]at h1;rw[Z,e2,V];change jd (Si.of c) (.ListComp z.a z.gs z.sc z.p) (.Name J.nm J.p) v.p.line Xg=Xg at h1;show eY (GX u) c (.Assign [.Name J.nm J.p] (.ListComp z.a z.gs z.sc z.p) v.p) σ Q X;rw[e]at h1⊢;exact HR (p:=q) O hd D hs (iv h2).1 (iv h2).2 (i0 h1) (vV O D K U (gL (gR h4)) (gR (gR h4))) (M.i (gL h4) O w λW W w=>zC.to (by rw[O0,AI]at w;exact w))
theorem snd (T:Top u)(n:N):SN u n:=by induction n with|lit v=>exact L8 v|loc i=>exact L7 i|h9 j=>exact Mh (T:=T) j|Ub p f o ih_o=>exact My (T:=T) p f o ih_o|bin op p l r ih_l ih_r=>exact Mw op p l r ih_l ih_r|neg o ih_o=>exact LZ o ih_o|vg o ih_o=>exact LX o ih_o|fU o ih_o=>exact LG o ih_o|jk t a b ih_t ih_a ih_b=>exact Mf t a b ih_t ih_a ih_b|RX op a r ih_a ih_r=>exact Mu op a r ih_a ih_r|cmp op p q l r ih_l ih_r=>exact Mo (T:=T) op p q l r ih_l ih_r|xV l a b ih_l ih_a ih_b=>exact Mr l a b ih_l ih_a ih_b|tup a ih_a=>exact LF a ih_a|fB a ih_a=>exact L5 a ih_a|lst q a ih_a=>exact L6 q a ih_a|TO q=>exact Ml q|Iv q=>exact Mk q|TS q a b x y=>exact Mm q a b x y|idx p e i ih_e ih_i=>exact Mg p e i ih_e ih_i|ix p k e ih_e=>exact UG p k e ih_e|rW p e ih_e=>exact Ma p e ih_e|CN e lo hi ih_e ih_lo ih_hi=>exact LK e lo hi ih_e ih_lo ih_hi|CO p e lo hi ih_e ih_lo ih_hi=>exact LL p e lo hi ih_e ih_lo ih_hi|yH=>exact LV|bU b p a ih_a=>exact LQ (T:=T) b p a ih_a|a_ j ps a ih_a=>exact Mt (T:=T) j ps a ih_a|QD ps x a ih_x ih_a=>exact Ms (T:=T) ps x a ih_x ih_a|bI q m ps o a ih_o ih_a=>exact L3 (T:=T) q m ps o a ih_o ih_a|bT p m o a ih_o ih_a=>exact L4 (T:=T) p m o a ih_o ih_a|new c q a ih_a=>exact LY (T:=T) c q a ih_a|ez c a ih_a=>exact LW (T:=T) c a ih_a|IC c j ps a ih_a=>exact Mp (T:=T) c j ps a ih_a|TV p a ih_a=>exact Mq (T:=T) p a ih_a|lc cz it t b ih_it ih_t ih_b=>exact UE cz it t b ih_it ih_t ih_b|bJ=>exact MB|oz x r ih_x ih_r=>exact MC x r ih_x ih_r|fb e ih_e=>exact Mb e ih_e|yK a ih_a=>exact Mc (T:=T) a ih_a|TC e ih_e=>exact Me e ih_e|ret e ih_e=>exact LP e ih_e|yF=>exact LN|ite t a b ih_t ih_a ih_b=>exact Md t a b ih_t ih_a ih_b|exp e ih_e=>exact Mj e ih_e|VB=>exact LU|cnt=>exact Mn|asg i e ih_e=>exact MA i e ih_e|ast is sw e ih_e=>exact Mz is sw e ih_e|sat p f e o ih_e ih_o=>exact LM (T:=T) p f e o ih_e ih_o|il p e o i ih_e ih_o ih_i=>exact LJ p e o i ih_e ih_o ih_i|Ti p e o ih_e ih_o=>exact LI p e o ih_e ih_o|eH i it b ih_it ih_b=>exact F6 i it b ih_it ih_b|iA is it b ih_it ih_b=>exact F4 is it b ih_it ih_b|Bf is a b ih_a ih_b=>exact F5 (T:=T) is a b ih_a ih_b|jE t b ih_t ih_b=>exact LD t b ih_t ih_b|gD c a ih_a=>exact LO (T:=T) c a ih_a|«try» b c1 i1 h1 c2 i2 h2 ih_b ih_h1 ih_h2=>exact LH (T:=T) b c1 i1 h1 c2 i2 h2 ih_b ih_h1 ih_h2|JB i cz it t b ih_it ih_t ih_b=>exact L_ i cz it t b ih_it ih_t ih_b|TA p i cz it t b ih_it ih_t ih_b=>exact L9 p i cz it t b ih_it ih_t ih_b|B9=>exact Mv|yN s r ih_s ih_r=>exact Mx s r ih_s ih_r|dY g r ih_r=>exact Mi (T:=T) g r ih_r
structure DF where
 i:Nat
 j:Option Nat
 nm:List Str
 np:Nat
 cs:List Str
 df:aP
def FX(l:List Stmt)(i:Nat):Stmt:=match aF l i with|some s=>s|none=>dS
def aaA (s:Stmt)(j:Nat):Stmt:=FX (sw s).bs j
def DF.st (d:DF):Stmt:=match d.j with|none=>FX Yz.main.body d.i|some j=>aaA (FX Yz.main.body d.i) j
def yg(s:Stmt):List Stmt:=(sw s).bs
def F1(s:Stmt):Scope:=(sw s).sc
def DF.si(d:DF)(hd:Bool):Si:=⟨F1 d.st,d.nm,d.cs,Xg,hd⟩
noncomputable def DF.dv (d:DF)(k:Nat):aP:=d.df.drop (d.df.length- (d.np-k))
noncomputable def qr:List Str->List bG|[]=>[]|_::l=>Xk::qr l
def DF.pad (d:DF):List bG:=qr (d.nm.drop d.np)
noncomputable def p_:aP->List bG|[]=>[]|v::l=>W_ v::p_ l
structure yB (u:U)(i:Nat)(d:DF):Prop where
 ex:∃fd,yA (GX u) i fd d.nm d.np d.cs/\fd.scope=F1 d.st/\fd.body=.stmts (yg d.st)/\ ∀k,d.np<=k+d.df.length->k<=d.np->yD (GX u) fd d.nm d.np k (d.dv k)
 le:d.np<=d.nm.length
def PA(o:V)(Q:V->Hp->Prop)(H:Hp):Prop:=match o with|.none=>Q .none H|.sq Xb [v]=>Q v H|_=>False
noncomputable def eM(hd:Bool)(n:Nat)(X:di->Hp->Prop):Em:=⟨hd,n,λx σ=>X x σ.H⟩
def eQ(Q:V->Hp->Prop)(o:V)(σ:St):Prop:=PA o Q σ.H
variable{G:cc}{c:Cx}{g:bQ}{a:St}{s:XB}
theorem r6{l:List bG}:∀{i:Nat}{v:V}{ns:List Str},aF (l++qr ns) i=W_ (W_ v)->aF l i=W_ (W_ v):=by
 induction l with|nil=>
  intro i v ns;induction ns generalizing i with|nil=>intro h;exact gG h|cons x ns ih=>
   intro h;induction i using XN with|zero=>cases h|succ i=>
    have:=ih (i:=i) h;exact gG this|cons x l ih=>
  intro i v ns h;induction i using XN with|zero=>exact h|succ i=>exact ih h
theorem Rel.pad{r:List bG}{ns:List Str}(R:Rel G c g ⟨H,r⟩ s):Rel G c g ⟨H,r++qr ns⟩ s:=by
 induction R with|mk role Lc R l=>refine⟨role,Lc,R,?_⟩;induction l with|mk o m cs e n J v=>exact⟨o,m,cs,e,n,J,λi w h=>v i w (r6 h)⟩
theorem t8:∀l:aP,l.map W_=p_ l:=by
 intro l;induction l with
 |nil=>
  exact rfl|cons v l ih=>
  exact WX (W_ v::·) (ih)
theorem enter (T:Top u){i:Nat}{d:DF}(D:yB u i d){hd:Bool}{n:Nat}{vs:aP}{Q:V->Hp->Prop}{X:di->Hp->Prop}{N:N}(K:fq N (d.si hd) (.B (yg d.st)))
  (h1:d.np<=vs.length+d.df.length) (h2:vs.length<=d.np)
  (w:wp u (eM hd n X) N ⟨H,p_ (vs++d.dv vs.length)++d.pad⟩ (eQ Q)):gr (GX u) hd (n+1) i vs H Q X:=by
 obtain⟨⟨fd,F,es,J,B⟩,le⟩:=D;refine call_in T.nl F (B _ h1 h2) ?_ le J λL a A F O g s R=>?_
 .unfold DF.dv;rw[List.length_drop,Nat.sub_sub_self (Nat.sub_le_iff_le_add'.mpr h1)];exact Nat.add_sub_cancel' h2
 .rw[t8]at R;have e:Si.of (xK (callEnvC fd L a) A d.nm F n hd d.cs)=d.si hd:=by unfold DF.si;rw[<-es];rfl
  have:=snd T N _ _ K _ e O _ _ _ w g s (Rel.pad R);exact XY this (λW W z=>by
   induction z with|mk g' o σ' k h R' q=>exact⟨g',o,σ',k,h,R',q⟩) λW W z=>z
end
local macro_rules | `($a^$b) => if a.raw.isOfKind `num || a.raw.isOfKind `Lean.Parser.Term.typeAscription then Lean.Macro.throwUnsupported else `(N.yN $a $b) | `(#[]) => `(N.bJ) | `(#[$x]) => `(N.oz $x .bJ) | `(#[$x,$y,*]) => `(N.oz $x #[$y,*])
noncomputable abbrev ak(i:Nat)(e:N):N:=.asg i e
noncomputable abbrev ai(p f:Nat)(o:N):N:=.Ub p f o
noncomputable abbrev ah(a b:N):N:=.bin .Add 0 a b
noncomputable abbrev cy(a b:N):N:=.bin .FloorDiv 0 a b
noncomputable abbrev bu(a b:N):N:=.bin .Mod 0 a b
noncomputable abbrev c_(a b:N):N:=.bin .Mult 0 a b
noncomputable abbrev cx(a b:N):N:=.bin .Sub 0 a b
noncomputable abbrev aQ(a b:N):N:=.RX .And a b
noncomputable abbrev bw(a b:N):N:=.RX .Or a b
noncomputable abbrev av(a b:N):N:=.cmp .Eq 0 0 a b
noncomputable abbrev cw(a b:N):N:=.cmp .Gt 0 0 a b
noncomputable abbrev dB(a b:N):N:=.cmp .GtE 0 0 a b
noncomputable abbrev bR(a b:N):N:=.cmp .In 0 0 a b
noncomputable abbrev f9(a b:N):N:=.cmp .Is 0 0 a b
noncomputable abbrev ei(a b:N):N:=.cmp .IsNot 0 0 a b
noncomputable abbrev bx(a b:N):N:=.cmp .Lt 0 0 a b
noncomputable abbrev bc(a b:N):N:=.cmp .NotEq 0 0 a b
noncomputable abbrev cW(a b:N):N:=.cmp .NotIn 0 0 a b
noncomputable abbrev aa:N:=.B9
noncomputable abbrev aC(e:N):N:=.exp e
noncomputable abbrev aJ(p:Nat)(e i:N):N:=.idx p e i
noncomputable abbrev aj (i:Int):N:=.lit (.int i)
noncomputable abbrev ao(t a b:N):N:=.ite t a b
noncomputable abbrev aG(p k:Nat)(e:N):N:=.ix p k e
noncomputable abbrev ae:N:=.loc 0
noncomputable abbrev aq:N:=.loc 1
noncomputable abbrev i8:N:=.loc 10
noncomputable abbrev gn:N:=.loc 11
noncomputable abbrev gm:N:=.loc 12
noncomputable abbrev kX:N:=.loc 14
noncomputable abbrev i7:N:=.loc 15
noncomputable abbrev kW:N:=.loc 17
noncomputable abbrev ay:N:=.loc 2
noncomputable abbrev kV:N:=.loc 20
noncomputable abbrev kU:N:=.loc 21
noncomputable abbrev kT:N:=.loc 22
noncomputable abbrev aD:N:=.loc 3
noncomputable abbrev aK:N:=.loc 4
noncomputable abbrev bh:N:=.loc 5
noncomputable abbrev b7:N:=.loc 6
noncomputable abbrev bY:N:=.loc 7
noncomputable abbrev cP:N:=.loc 8
noncomputable abbrev fJ:N:=.loc 9
noncomputable abbrev cq:N:=.lit .none
noncomputable abbrev az(e:N):N:=.ret e
noncomputable abbrev ag (w:List Nat):N:=.lit (.str w)
noncomputable abbrev au(a:N):N:=.tup a
local macro_rules | `($s:str) => do `([$((s.getString.toList.map λc => Lean.Syntax.mkNumLit (toString c.toNat)).toArray),*])
section
def d1:DF:=⟨2,W_ 0,[S "self",S "line",S "column"],3,[],[]⟩
def d2:DF:=⟨2,W_ 1,[S "self"],1,[],[]⟩
def d3:DF:=⟨3,W_ 0,[S "self",S "what",S "at"],3,[],[.none]⟩
def d4:DF:=⟨3,W_ 1,[S "self"],1,[],[]⟩
def d7:DF:=⟨10,W_ 0,[S "self",S "worth"],2,[],[]⟩
def d8:DF:=⟨10,W_ 1,[S "self"],1,[],[]⟩
def d9:DF:=⟨11,W_ 0,[S "self",S "name"],2,[],[]⟩
def d10:DF:=⟨11,W_ 1,[S "self"],1,[],[]⟩
def d11:DF:=⟨12,W_ 0,[S "self"],1,[],[]⟩
def d14:DF:=⟨14,W_ 0,[S "self",S "sign",S "left",S "right"],4,[],[]⟩
def d15:DF:=⟨14,W_ 1,[S "self",S "inner",S "spine",S "worth",S "part"],1,[],[]⟩
def d16:DF:=⟨15,Xk,[S "node",S "spine",S "inner"],1,[],[]⟩
def d17:DF:=⟨16,Xk,[S "sign"],1,[],[]⟩
def d18:DF:=⟨17,Xk,[S "token"],1,[],[]⟩
def d19:DF:=⟨18,Xk,[S "cursor",S "depth",S "token",S "inner"],2,[],[]⟩
def d20:DF:=⟨19,Xk,[S "cursor",S "least",S "depth",S "left",S "level",S "sign"],3,[],[]⟩
def d21:DF:=⟨20,Xk,[S "cursor"],1,[],[]⟩
def d22:DF:=⟨21,W_ 0,[S "self",S "worth",S "plus",S "minus"],4,[],[.str [],.str []]⟩
def d23:DF:=⟨21,W_ 1,[S "self"],1,[],[]⟩
def d24:DF:=⟨21,W_ 2,[S "self"],1,[],[]⟩
def d26:DF:=⟨21,W_ 4,[S "self"],1,[],[]⟩
def d27:DF:=⟨21,W_ 5,[S "self",S "other"],2,[],[]⟩
def d29:DF:=⟨22,Xk,[S "worth",S "pluses",S "minuses",S "added",S "taken",S "name"],3,[],[]⟩
def d30:DF:=⟨23,W_ 0,[S "self",S "equates"],2,[],[.none]⟩
def d32:DF:=⟨23,W_ 2,[S "self",S "name"],2,[],[]⟩
def d33:DF:=⟨23,W_ 3,[S "self",S "affine",S "left",S "found"],2,[],[]⟩
def d37:DF:=⟨27,Xk,[S "sign",S "left",S "right"],3,[],[]⟩
def d39:DF:=⟨29,Xk,[S "node",S "scope",S "here",S "inner",S "spine",S "worth",S "part"],3,[],[.str []]⟩
def d40:DF:=⟨30,Xk,[S "node",S "found",S "todo",S "part"],1,[],[]⟩
def d41:DF:=⟨31,Xk,[S "node",S "inner",S "spine",S "part"],1,[],[]⟩
def d42:DF:=⟨37,Xk,[S "sign",S "code"],1,[],[]⟩
def d43:DF:=⟨38,Xk,[S "sign",S "code"],1,[],[]⟩
def d44:DF:=⟨39,Xk,[S "sign"],1,[],[]⟩
def d45:DF:=⟨40,Xk,[S "sign",S "code"],1,[],[]⟩
def d46:DF:=⟨41,Xk,[S "text",S "at",S "sign",S "worth",S "here",S "number"],2,[],[]⟩
def d47:DF:=⟨42,Xk,[S "text",S "at",S "code",S "end"],2,[],[]⟩
def d48:DF:=⟨43,Xk,[S "text",S "at",S "here"],2,[],[]⟩
def d49:DF:=⟨44,Xk,[S "text",S "at",S "here"],2,[],[]⟩
def d50:DF:=⟨45,Xk,[S "text",S "at",S "here"],2,[],[]⟩
def d51:DF:=⟨46,Xk,[S "text",S "found",S "line",S "begin",S "here",S "end"],1,[],[]⟩
def d52:DF:=⟨47,Xk,[S "word",S "base",S "begin",S "worth",S "sign",S "figure"],1,[],[]⟩
def d53:DF:=⟨48,Xk,[S "word",S "worth",S "sign"],1,[],[]⟩
def d54:DF:=⟨49,W_ 0,[S "self",S "kind",S "text",S "worth",S "at"],5,[],[]⟩
def d55:DF:=⟨49,W_ 1,[S "self",S "text"],2,[],[]⟩
def d58:DF:=⟨50,W_ 0,[S "self",S "text",S "line"],3,[],[]⟩
def d59:DF:=⟨50,W_ 1,[S "self",S "at"],2,[],[]⟩
def d60:DF:=⟨50,W_ 2,[S "self"],1,[],[]⟩
def d61:DF:=⟨50,W_ 3,[S "self",S "end",S "begin"],2,[],[]⟩
def d62:DF:=⟨50,W_ 4,[S "self",S "at",S "here"],2,[],[]⟩
def d63:DF:=⟨50,W_ 5,[S "self",S "at",S "word",S "worth"],1,[],[]⟩
def d64:DF:=⟨50,W_ 6,[S "self",S "at",S "code",S "end"],1,[],[]⟩
def d65:DF:=⟨50,W_ 7,[S "self",S "at",S "worth",S "here",S "code",S "end"],1,[],[]⟩
def d67:DF:=⟨50,W_ 9,[S "self",S "at",S "pair",S "word"],1,[],[]⟩
def d68:DF:=⟨50,W_ 10,[S "self",S "sign",S "at",S "word"],1,[],[]⟩
def d69:DF:=⟨51,Xk,[S "text",S "line",S "reader",S "found"],2,[],[]⟩
def d70:DF:=⟨52,W_ 0,[S "self",S "tokens"],2,[],[]⟩
def d71:DF:=⟨52,W_ 1,[S "self"],1,[],[]⟩
def d73:DF:=⟨52,W_ 3,[S "self",S "token"],1,[],[]⟩
def d74:DF:=⟨52,W_ 4,[S "self",S "text"],2,[],[]⟩
def d75:DF:=⟨52,W_ 5,[S "self"],1,[],[]⟩
def d76:DF:=⟨52,W_ 6,[S "self",S "text"],2,[],[]⟩
def d78:DF:=⟨52,W_ 8,[S "self",S "text"],2,[],[]⟩
def d80:DF:=⟨52,W_ 10,[S "self",S "token"],1,[],[]⟩
def d81:DF:=⟨52,W_ 11,[S "self"],1,[],[]⟩
def d82:DF:=⟨60,W_ 0,[S "self",S "way",S "at"],3,[],[]⟩
def d83:DF:=⟨61,W_ 0,[S "self",S "name",S "at"],3,[],[]⟩
def d84:DF:=⟨61,W_ 1,[S "self"],1,[],[]⟩
def d85:DF:=⟨62,W_ 0,[S "self",S "instruction",S "at"],3,[],[]⟩
def d86:DF:=⟨62,W_ 1,[S "self"],1,[],[]⟩
def d87:DF:=⟨63,W_ 0,[S "self",S "word",S "args",S "at"],4,[],[]⟩
def d88:DF:=⟨63,W_ 1,[S "self"],1,[],[]⟩
def d89:DF:=⟨64,W_ 0,[S "self",S "name",S "node",S "at"],4,[],[]⟩
def d90:DF:=⟨64,W_ 1,[S "self"],1,[],[]⟩
def d91:DF:=⟨65,Xk,[S "argument"],1,[],[]⟩
def d92:DF:=⟨66,Xk,[S "node",S "name",S "inner",S "spine",S "found",S "part"],2,[],[]⟩
def d93:DF:=⟨67,Xk,[S "number",S "count"],2,[],[]⟩
def d94:DF:=⟨68,Xk,[S "count"],1,[],[]⟩
def d95:DF:=⟨69,Xk,[S "rows",S "found",S "waiting",S "names",S "spot",S "row",S "later",S "name",S "node",S "at"],1,[S "found",S "names"],[]⟩
def d96:DF:=⟨70,Xk,[S "token",S "codes"],1,[],[]⟩
def d97:DF:=⟨71,Xk,[S "cursor"],1,[],[]⟩
def d98:DF:=⟨72,W_ 0,[S "self",S "iset",S "readers"],3,[],[]⟩
def d99:DF:=⟨72,W_ 1,[S "self",S "text",S "line",S "row",S "number",S "count",S "at"],2,[],[]⟩
def Qt:DF:=⟨72,W_ 2,[S "self",S "equates",S "scope",S "spot",S "cursor",S "syntax",S "at",S "reader",S "instruction"],1,[S "equates"],[]⟩
def Qs:DF:=⟨72,W_ 3,[S "self",S "tokens",S "rest",S "cursor",S "head"],2,[],[]⟩
def Qr:DF:=⟨72,W_ 4,[S "self",S "tokens",S "at"],2,[],[]⟩
def Qq:DF:=⟨72,W_ 5,[S "self",S "token",S "number"],2,[],[]⟩
def Qp:DF:=⟨72,W_ 6,[S "self",S "tokens",S "found",S "token",S "count",S "name"],2,[],[]⟩
def Qo:DF:=⟨72,W_ 7,[S "self",S "nodes",S "at",S "name"],3,[S "name"],[]⟩
def Qn:DF:=⟨72,W_ 8,[S "self",S "name",S "cursor",S "at",S "node"],4,[],[]⟩
def Qm:DF:=⟨72,W_ 9,[S "self",S "head",S "cursor",S "word",S "at",S "name",S "tail"],3,[S "tail"],[]⟩
def Ql:DF:=⟨72,W_ 10,[S "self",S "word",S "cursor",S "at"],4,[],[]⟩
def Qk:DF:=⟨72,W_ 11,[S "self",S "word",S "nodes",S "at",S "node",S "row"],4,[],[]⟩
def Qj:DF:=⟨72,W_ 12,[S "self",S "word",S "nodes",S "at",S "most",S "row"],4,[],[]⟩
def Qi:DF:=⟨72,W_ 13,[S "self",S "cursor",S "at",S "name"],2,[],[]⟩
def Qh:DF:=⟨72,W_ 14,[S "self",S "cursor",S "found"],2,[],[]⟩
def Qg:DF:=⟨72,W_ 15,[S "self",S "cursor",S "found"],2,[],[]⟩
def Qf:DF:=⟨72,W_ 16,[S "self",S "cursor",S "found"],2,[],[]⟩
def Qe:DF:=⟨73,Xk,[S "iset",S "text",S "readers"],3,[],[]⟩
def Qd:DF:=⟨80,Xk,[S "iset",S "cursor",S "scope",S "found"],3,[],[]⟩
def Qc:DF:=⟨81,Xk,[S "iset",S "cursor",S "scope"],3,[],[]⟩
def Qb:DF:=⟨82,Xk,[S "pen",S "many",S "cell",S "digit"],2,[],[]⟩
def Qa:DF:=⟨83,Xk,[S "page",S "text",S "place"],2,[],[]⟩
def P_:DF:=⟨84,Xk,[S "pen",S "book",S "number",S "page",S "counts",S "awaited",S "trouble",S "key",S "is_back",S "place"],3,[],[]⟩
def P':DF:=⟨85,Xk,[S "pen",S "book",S "page",S "way",S "name",S "number"],2,[],[]⟩
def P9:DF:=⟨86,Xk,[S "book",S "told",S "place",S "name",S "found",S "row",S "is_point"],3,[],[]⟩
def P8:DF:=⟨87,Xk,[S "pen",S "book",S "page",S "due",S "word",S "place",S "told",S "turn",S "row",S "pinned_row"],2,[],[]⟩
def P7:DF:=⟨88,Xk,[S "pen",S "book",S "word",S "most",S "count",S "place",S "told",S "turn",S "row"],2,[],[]⟩
def P6:DF:=⟨89,Xk,[S "pen",S "book",S "way",S "name",S "place",S "row"],2,[],[]⟩
def P5:DF:=⟨90,Xk,[S "pen",S "book",S "way",S "number",S "line",S "names",S "word",S "one",S "other",S "tail",S "place"],2,[],[]⟩
def P4:DF:=⟨91,Xk,[S "pen",S "book",S "page",S "counts",S "due",S "trouble",S "turn",S "text",S "place",S "way",S "refused",S "code",S "end"],2,[],[]⟩
def P2:DF:=⟨92,Xk,[S "told",S "table",S "deep",S "one",S "other"],3,[],[]⟩
def P1:DF:=⟨93,Xk,[S "told",S "table",S "found",S "added",S "taken"],2,[S "found"],[]⟩
def P0:DF:=⟨94,Xk,[S "book",S "page",S "counts",S "awaited",S "equates",S "due",S "waiting",S "trouble",S "tally",S "key",S "count",S "place",S "table",S "summed",S "name",S "told",S "settled",S "spot",S "syntax",S "late",S "worth",S "added",S "taken",S "found"],1,[],[]⟩
def PZ:DF:=⟨95,Xk,[S "text",S "caught",S "rows",S "error"],1,[],[]⟩
def PY:DF:=⟨96,Xk,[S "script",S "pen",S "page",S "counts",S "book",S "turn",S "key"],1,[],[]⟩
def n1:N:=.sat 0 0 aq ae^.sat 0 1 ay ae^aa
def n2:N:=az (au #[ai 0 0 ae,ai 0 1 ae])^aa
def n3:N:=aC (.TV 0 #[ae,aq])^.sat 0 2 aq ae^.sat 0 3 ay ae^aa
def n4:N:=ao (f9 (ai 0 3 ae) cq) (az (au #[aj 0,aj 0])^aa) aa^az (.bI 0 29 [] (ai 0 3 ae) .bJ)^aa
def n7:N:=.sat 0 4 (ag "number") ae^.sat 0 5 aq ae^aa
def n8:N:=az (au #[ag "number",ai 0 5 ae])^aa
def n9:N:=.sat 0 4 (ag "symbol") ae^.sat 0 6 aq ae^aa
def n10:N:=az (au #[ag "symbol",ai 0 6 ae])^aa
def n11:N:=.sat 0 4 (ag "here") ae^aa
def n14:N:=.sat 0 4 (ag "binary") ae^.sat 0 7 aq ae^.sat 0 9 ay ae^.sat 0 10 aD ae^aa
def n15:N:=.ast [1,2] Xb (.a_ 16 [] #[ae])^ak 3 (.bI 0 29 [] aq .bJ)^.eH 4 (.fb ay) (ak 3 (au #[ag "binary",ai 0 7 aK,aD,.bI 0 29 [] (ai 0 10 aK) .bJ])^aa)^az aD^aa
def n16:N:=ak 1 (.lst 0 .bJ)^ak 2 ae^.jE (av (ai 0 4 ay) (ag "binary")) (aC (.bT 0 0 aq #[ay])^ak 2 (ai 0 9 ay)^aa)^aC (.bT 0 2 aq .bJ)^.dY (.iz 1 0) (az (au #[ay,aq])^aa)
def n17:N:=ao (bw (av ae (ag "+")) (av ae (ag "-"))) (az (aj 1)^aa) aa^ao (bw (av ae (ag "|")) (bw (av ae (ag "&")) (av ae (ag "^")))) (az (aj 2)^aa) aa^ao (bw (av ae (ag "*")) (bw (av ae (ag "/")) (bw (av ae (ag "%")) (bw (av ae (ag "<<")) (av ae (ag ">>")))))) (az (aj 3)^aa) aa^az (aj 0)^aa
def n18:N:=ao (bc (ai 0 4 ae) (ag "sign")) (az (aj 0)^aa) aa^az (.a_ 17 [] #[ai 0 14 ae])^aa
def n19:N:=ak 2 (.bI 0 50 [0] ae .bJ)^ao (cw aq (.h9 0)) (.gD 2 #[ag "expression nested too deep",ai 0 3 ay]^aa) aa^ao (av (ai 0 4 ay) (ag "number")) (aC (.bI 0 52 [0] ae .bJ)^az (.ez 5 #[ai 0 5 ay])^aa) aa^ao (av (ai 0 4 ay) (ag "name")) (aC (.bI 0 52 [0] ae .bJ)^ao (av (ai 0 14 ay) (ag ".")) (az (.ez 7 .bJ)^aa) aa^az (.ez 6 #[ai 0 14 ay])^aa) aa^ao (bw (.fU (.bI 0 38 [] ay #[ag "-"])) (bw (.fU (.bI 0 38 [] ay #[ag "~"])) (.fU (.bI 0 38 [] ay #[ag "!"])))) (aC (.bI 0 52 [0] ae .bJ)^az (.ez 8 #[ai 0 14 ay,.a_ 19 [0] #[ae,ah aq (aj 1)]])^aa) aa^ao (.fU (.bI 0 38 [] ay #[ag "("])) (aC (.bI 0 52 [0] ae .bJ)^ak 3 (.a_ 20 [0] #[ae,aj 1,ah aq (aj 1)])^aC (.bI 0 56 [0] ae #[ag ")"])^az aD^aa) aa^.gD 2 #[ag "expected an expression",ai 0 3 ay]^aa
def n20:N:=ak 3 (.a_ 19 [0] #[ae,ay])^ak 4 (.a_ 18 [] #[.bI 0 50 [0] ae .bJ])^.jE (dB aK aq) (ak 5 (ai 0 14 (.bI 0 52 [0] ae .bJ))^ak 3 (.ez 9 #[bh,aD,.a_ 20 [0] #[ae,ah aK (aj 1),ay]])^ak 4 (.a_ 18 [] #[.bI 0 50 [0] ae .bJ])^aa)^az aD^aa
def n21:N:=az (.a_ 20 [0] #[ae,aj 1,aj 0])^aa
def n22:N:=.sat 0 5 aq ae^.sat 0 11 (.jk (bc ay aD) ay (ag [])) ae^.sat 0 12 (.jk (bc ay aD) aD (ag [])) ae^aa
def n23:N:=az (au #[ai 0 5 ae,ai 0 11 ae,ai 0 12 ae])^aa
def n26:N:=az (.ez 10 #[.neg (ai 0 5 ae),ai 0 12 ae,ai 0 11 ae])^aa
def n27:N:=az (.a_ 29 [] #[ah (ai 0 5 ae) (ai 0 5 aq),.fB #[ai 0 11 ae,ai 0 11 aq],.fB #[ai 0 12 ae,ai 0 12 aq]])^aa
def n29:N:=.TA 0 3 [] (.fb aq) (bc ae (ag [])) ae^ak 4 (.lst 1 .bJ)^.eH 5 (.fb ay) (ao (aQ (bc bh (ag [])) (bR bh aD)) (aC (.bT 0 3 aD #[bh])^aa) (ao (bc bh (ag [])) (aC (.bT 1 0 aK #[bh])^aa) aa^aa)^aa)^.dY (.iz 3 0) (.dY (.iz 4 0) (ao (bw (cw (.bU 0 0 #[aD]) (aj 1)) (cw (.bU 0 0 #[aK]) (aj 1))) (.gD 3 #[ag "not a number plus one symbol less another"]^aa) aa^az (.ez 10 #[ae,.jk (.cmp .NotEq 0 1 aD (.fB .bJ)) (aG 0 0 aD) (ag []),.jk (.cmp .NotEq 0 1 aK (.fB .bJ)) (aG 0 0 aK) (ag [])])^aa))
def n30:N:=.sat 0 13 (.jk (f9 aq cq) (.Iv 0) aq) ae^aa
def n32:N:=az (.bI 0 37 [0] ae #[.ez 10 #[aj 0,aq]])^aa
def n33:N:=ak 2 (c_ (.bU 0 0 #[ai 0 13 ae]) (ah (.bU 0 0 #[ai 0 13 ae]) (aj 2)))^ak 3 aq^.jE (bw (bR (ai 0 11 aD) (ai 0 13 ae)) (bR (ai 0 12 aD) (ai 0 13 ae))) (ao (av ay (aj 0)) (.gD 3 #[ag "symbols that stand for themselves"]^aa) aa^ak 2 (cx ay (aj 1))^ao (bR (ai 0 11 aD) (ai 0 13 ae)) (ak 3 (.bI 0 33 [] (.ez 10 #[ai 0 5 aD,ag [],ai 0 12 aD]) #[aJ 0 (ai 0 13 ae) (ai 0 11 aD)])^aa) (ak 3 (.bI 0 33 [] (.ez 10 #[ai 0 5 aD,ai 0 11 aD]) #[.bI 0 32 [] (aJ 0 (ai 0 13 ae) (ai 0 12 aD)) .bJ])^aa)^aa)^az aD^aa
def n37:N:=ao (av ae (ag "+")) (az (.bI 0 33 [] aq #[ay])^aa) aa^ao (av ae (ag "-")) (az (.bI 0 33 [] aq #[.bI 0 32 [] ay .bJ])^aa) aa^ao (bw (.vg (.fU (.bI 0 30 [] aq .bJ))) (.vg (.fU (.bI 0 30 [] ay .bJ)))) (.gD 3 #[ah (ag "no number beside ") ae]^aa) aa^az (.ez 10 #[.a_ 36 [] #[ae,ai 0 5 aq,ai 0 5 ay]])^aa
def n39:N:=.ast [3,4] Xb (.a_ 16 [] #[ae])^ao (av (ai 0 4 aD) (ag "number")) (ak 5 (.ez 10 #[ai 0 5 aD])^aa) (ao (av (ai 0 4 aD) (ag "symbol")) (ak 5 (.bI 0 36 [0] aq #[ai 0 6 aD])^aa) (ao (av (ai 0 4 aD) (ag "unary")) (ak 5 (.a_ 38 [] #[ai 0 7 aD,.a_ 39 [0] #[ai 0 8 aD,aq,ay]])^aa) (ao (av ay (ag [])) (.gD 3 #[ag "no point here"]^aa) (ak 5 (.ez 10 #[aj 0,ay])^aa)^aa)^aa)^aa)^.eH 6 (.fb aK) (ak 5 (.a_ 37 [] #[ai 0 7 b7,bh,.a_ 39 [0] #[ai 0 10 b7,aq,ay]])^aa)^az bh^aa
def n40:N:=ak 1 (.lst 0 .bJ)^ak 2 (.lst 1 #[ae])^.jE (.cmp .NotEq 1 1 ay (.fB .bJ)) (ak 3 (.bT 1 1 ay .bJ)^ao (aQ (av (ai 0 4 aD) (ag "symbol")) (cW (ai 0 6 aD) aq)) (aC (.bT 0 0 aq #[ai 0 6 aD])^aa) aa^ao (av (ai 0 4 aD) (ag "unary")) (aC (.bT 1 0 ay #[ai 0 8 aD])^aa) aa^ao (av (ai 0 4 aD) (ag "binary")) (aC (.bT 1 0 ay #[ai 0 9 aD])^aC (.bT 1 0 ay #[ai 0 10 aD])^aa) aa^aa)^.dY (.drop 1) (.dY (.iz 1 0) (az (.bU 8 0 #[aq])^aa))
def n41:N:=.ast [1,2] Xb (.a_ 16 [] #[ae])^ao (bw (av (ai 0 4 aq) (ag "here")) (aQ (av (ai 0 4 aq) (ag "unary")) (.fU (.a_ 41 [] #[ai 0 8 aq])))) (az (.lit (.bool Xg))^aa) aa^.eH 3 (.fb ay) (ao (.fU (.a_ 41 [] #[ai 0 10 aD])) (az (.lit (.bool Xg))^aa) aa^aa)^az (.lit (.bool Xb))^aa
def n42:N:=ak 1 (.bU 1 0 #[ae])^ao (.xV (aj 48) aq (aj 57)) (az (cx aq (aj 48))^aa) aa^ao (.xV (aj 97) aq (aj 102)) (az (cx aq (aj 87))^aa) aa^ao (.xV (aj 65) aq (aj 70)) (az (cx aq (aj 55))^aa) aa^az (aj 16)^aa
def n43:N:=ak 1 (.bU 1 0 #[ae])^az (bw (.xV (aj 97) aq (aj 122)) (.xV (aj 65) aq (aj 90)))^aa
def n44:N:=az (bw (.a_ 43 [] #[ae]) (bw (av ae (ag "_")) (av ae (ag "."))))^aa
def n45:N:=ak 1 (.bU 1 0 #[ae])^az (bw (.xV (aj 48) aq (aj 57)) (bw (.xV (aj 97) aq (aj 122)) (bw (.xV (aj 65) aq (aj 90)) (bw (av ae (ag "_")) (bw (av ae (ag ".")) (av ae (ag "$")))))))^aa
def n46:N:=ao (dB (ah aq (aj 1)) (.bU 0 0 #[ae])) (az (au #[.neg (aj 1),ah aq (aj 1)])^aa) aa^ak 2 (aJ 0 ae (ah aq (aj 1)))^ak 3 (aj 0)^ak 4 (ah aq (aj 1))^ao (bx (.a_ 42 [] #[ay]) (aj 8)) (.jE (aQ (bx aK (.bU 0 0 #[ae])) (aQ (bx aK (ah aq (aj 4))) (bx (.a_ 42 [] #[aJ 0 ae aK]) (aj 8)))) (ak 3 (ah (c_ aD (aj 8)) (.a_ 42 [] #[aJ 0 ae aK]))^ak 4 (ah aK (aj 1))^aa)^az (au #[bu aD (aj 256),aK])^aa) aa^ao (av ay (ag "x")) (ak 4 (ah aK (aj 1))^.jE (aQ (bx aK (.bU 0 0 #[ae])) (bx (.a_ 42 [] #[aJ 0 ae aK]) (aj 16))) (ak 3 (bu (ah (c_ aD (aj 16)) (.a_ 42 [] #[aJ 0 ae aK])) (aj 256))^ak 4 (ah aK (aj 1))^aa)^ao (av aK (ah aq (aj 2))) (az (au #[.neg (aj 1),ah aq (aj 1)])^aa) aa^az (au #[aD,aK])^aa) aa^.eH 5 (.yK #[.bU 0 0 #[.h9 3]]) (ao (av (aJ 0 (.h9 3) bh) ay) (az (au #[.bU 1 0 #[aJ 0 (.h9 4) bh],ah aq (aj 2)])^aa) aa^aa)^az (au #[.neg (aj 1),ah aq (aj 1)])^aa
def n47:N:=ao (bw (dB (ah aq (aj 1)) (.bU 0 0 #[ae])) (av (aJ 0 ae (ah aq (aj 1))) (ag [10]))) (az (au #[.neg (aj 1),ah aq (aj 1)])^aa) aa^ak 2 (.bU 1 0 #[aJ 0 ae (ah aq (aj 1))])^ak 3 (ah aq (aj 2))^ao (av (aJ 0 ae (ah aq (aj 1))) (ag [92])) (.ast [2,3] Xb (.a_ 46 [] #[ae,ah aq (aj 1)])^aa) (ao (bw (bx ay (aj 32)) (cw ay (aj 126))) (ak 2 (.neg (aj 1))^aa) aa^aa)^ao (aQ (dB ay (aj 0)) (aQ (bx aD (.bU 0 0 #[ae])) (av (aJ 0 ae aD) (ag "'")))) (ak 3 (ah aD (aj 1))^aa) aa^az (au #[ay,aD])^aa
def n48:N:=ak 2 (ah aq (aj 1))^.jE (aQ (bx ay (.bU 0 0 #[ae])) (bc (aJ 0 ae ay) (ag [10]))) (ao (av (aJ 0 ae ay) (ag [34])) (az (ah ay (aj 1))^aa) aa^ao (av (aJ 0 ae ay) (ag [92])) (ak 2 (aG 0 1 (.a_ 46 [] #[ae,ay]))^aa) (ak 2 (ah ay (aj 1))^aa)^aa)^az ay^aa
def n49:N:=ak 2 aq^.jE (aQ (bx ay (.bU 0 0 #[ae])) (bc (aJ 0 ae ay) (ag [10]))) (ak 2 (ah ay (aj 1))^aa)^az ay^aa
def n50:N:=ak 2 aq^.jE (aQ (bx ay (.bU 0 0 #[ae])) (aQ (bc (aJ 0 ae ay) (ag [10])) (bc (aJ 0 ae ay) (ag ";")))) (ao (av (aJ 0 ae ay) (ag "#")) (ak 2 (.a_ 49 [] #[ae,ay])^aa) (ao (av (aJ 0 ae ay) (ag [34])) (ak 2 (.a_ 48 [] #[ae,ay])^aa) (ao (av (aJ 0 ae ay) (ag "'")) (ak 2 (aG 0 1 (.a_ 47 [] #[ae,ay]))^aa) (ak 2 (ah ay (aj 1))^aa)^aa)^aa)^aa)^az ay^aa
def n51:N:=ak 1 (.lst 0 .bJ)^ak 2 (aj 1)^ak 3 (aj 0)^ak 4 (aj 0)^.jE (.fU (.lit (.bool Xg))) (ak 5 (.a_ 50 [] #[ae,aK])^aC (.bT 0 0 aq #[au #[ay,ah (c_ (ag " ") (cx aK aD)) (.CN ae aK bh)]])^ao (dB bh (.bU 0 0 #[ae])) (.dY (.iz 1 0) (az aq^aa)) aa^ak 4 (ah bh (aj 1))^ao (av (aJ 0 ae bh) (ag [10])) (ak 2 (ah ay (aj 1))^ak 3 aK^aa) aa^aa)^aa
def n52:N:=ak 1 (aj 10)^ak 2 (aj 0)^ao (aQ (cw (.bU 0 0 #[ae]) (aj 1)) (av (aG 0 0 ae) (ag "0"))) (ak 1 (aj 8)^ak 2 (aj 1)^ao (bw (av (aG 0 1 ae) (ag "x")) (av (aG 0 1 ae) (ag "X"))) (ak 1 (aj 16)^ak 2 (aj 2)^aa) (ao (bw (av (aG 0 1 ae) (ag "b")) (av (aG 0 1 ae) (ag "B"))) (ak 1 (aj 2)^ak 2 (aj 2)^aa) aa^aa)^aa) aa^ao (av ay (.bU 0 0 #[ae])) (az (.neg (aj 1))^aa) aa^ak 3 (aj 0)^.eH 4 (.fb (.CN ae ay .yH)) (ak 5 (.a_ 42 [] #[aK])^ao (dB bh aq) (az (.neg (aj 1))^aa) aa^ak 3 (ah (c_ aD aq) bh)^aa)^az aD^aa
def n53:N:=ao (bw (bx (.bU 0 0 #[ae]) (aj 2)) (aQ (bc (.rW 0 ae) (ag "b")) (bc (.rW 0 ae) (ag "f")))) (az (.neg (aj 1))^aa) aa^ak 1 (aj 0)^.eH 2 (.fb (.CN ae .yH (.neg (aj 1)))) (ao (cw (.a_ 42 [] #[ay]) (aj 9)) (az (.neg (aj 1))^aa) aa^ak 1 (ah (c_ aq (aj 10)) (.a_ 42 [] #[ay]))^aa)^az aq^aa
def n54:N:=.sat 0 4 aq ae^.sat 0 14 ay ae^.sat 0 5 aD ae^.sat 0 3 aK ae^aa
def n55:N:=az (aQ (av (ai 0 4 ae) (ag "sign")) (av (ai 0 14 ae) aq))^aa
def n58:N:=.sat 0 14 aq ae^.sat 0 0 ay ae^.sat 0 3 (aj 0) ae^aa
def n59:N:=az (.ez 0 #[ai 0 0 ae,ah aq (aj 1)])^aa
def n60:N:=.jE (aQ (bx (ai 0 3 ae) (.bU 0 0 #[ai 0 14 ae])) (bR (aJ 0 (ai 0 14 ae) (ai 0 3 ae)) (au #[ag " ",ag [9],ag [13]]))) (.sat 0 3 (ah (ai 0 3 ae) (aj 1)) ae^aa)^az (bw (dB (ai 0 3 ae) (.bU 0 0 #[ai 0 14 ae])) (av (aJ 0 (ai 0 14 ae) (ai 0 3 ae)) (ag "#")))^aa
def n61:N:=ak 2 (ai 0 3 ae)^.sat 0 3 aq ae^az (.CN (ai 0 14 ae) ay aq)^aa
def n62:N:=ak 2 aq^.jE (aQ (bx ay (.bU 0 0 #[ai 0 14 ae])) (.fU (.a_ 45 [] #[aJ 0 (ai 0 14 ae) ay]))) (ak 2 (ah ay (aj 1))^aa)^az ay^aa
def n63:N:=ak 1 (.bI 0 40 [0] ae #[ai 0 3 ae])^ak 2 (.bI 0 42 [0] ae #[.bI 0 43 [0] ae #[ai 0 3 ae]])^ak 3 (.a_ 52 [] #[ay])^ao (cw aD (.h9 5)) (.gD 2 #[ag "number too large",aq]^aa) aa^ao (dB aD (aj 0)) (az (.ez 12 #[ag "number",ay,aD,aq])^aa) aa^ak 3 (.a_ 53 [] #[ay])^ao (dB aD (aj 0)) (az (.ez 12 #[ag "local",ay,aD,aq])^aa) aa^.gD 2 #[ah (ag "bad number ") ay,aq]^aa
def n64:N:=ak 1 (.bI 0 40 [0] ae #[ai 0 3 ae])^.ast [2,3] Xb (.a_ 47 [] #[ai 0 14 ae,ai 0 3 ae])^ao (bx ay (aj 0)) (.gD 2 #[ag "bad character constant",aq]^aa) aa^az (.ez 12 #[ag "number",.bI 0 42 [0] ae #[aD],ay,aq])^aa
def n65:N:=ak 1 (.bI 0 40 [0] ae #[ai 0 3 ae])^ak 2 (ag [])^ak 3 (ah (ai 0 3 ae) (aj 1))^.jE (aQ (bx aD (.bU 0 0 #[ai 0 14 ae])) (bc (aJ 0 (ai 0 14 ae) aD) (ag [34]))) (ak 4 (.bU 1 0 #[aJ 0 (ai 0 14 ae) aD])^ak 5 (ah aD (aj 1))^ao (av (aJ 0 (ai 0 14 ae) aD) (ag [92])) (.ast [4,5] Xb (.a_ 46 [] #[ai 0 14 ae,aD])^ao (bx aK (aj 0)) (.gD 2 #[ag "bad escape",.bI 0 40 [0] ae #[aD]]^aa) aa^aa) (ao (aQ (bc aK (aj 9)) (bw (bx aK (aj 32)) (cw aK (aj 126)))) (.gD 2 #[ag "bad sign in a text",.bI 0 40 [0] ae #[aD]]^aa) aa^aa)^ak 2 (ah ay (.bU 2 0 #[aK]))^ak 3 bh^aa)^ao (dB aD (.bU 0 0 #[ai 0 14 ae])) (.gD 2 #[ag "text without an end",aq]^aa) aa^az (.ez 12 #[ag "text",.bI 0 42 [0] ae #[ah aD (aj 1)],ay,aq])^aa
def n67:N:=ak 1 (.bI 0 40 [0] ae #[ai 0 3 ae])^ao (cW (aJ 0 (ai 0 14 ae) (ai 0 3 ae)) (.h9 2)) (.gD 2 #[ag "bad sign",aq]^aa) aa^ak 2 (.CN (ai 0 14 ae) (ai 0 3 ae) (ah (ai 0 3 ae) (aj 2)))^ak 3 (.bI 0 42 [0] ae #[.jk (bw (av ay (ag "<<")) (av ay (ag ">>"))) (ah (ai 0 3 ae) (aj 2)) (ah (ai 0 3 ae) (aj 1))])^az (.ez 12 #[ag "sign",aD,aD,aq])^aa
def n68:N:=ak 1 (aJ 0 (ai 0 14 ae) (ai 0 3 ae))^ao (.fU (.a_ 44 [] #[aq])) (ak 2 (.bI 0 40 [0] ae #[ai 0 3 ae])^ak 3 (.bI 0 42 [0] ae #[.bI 0 43 [0] ae #[ai 0 3 ae]])^az (.ez 12 #[ag "name",aD,aD,ay])^aa) aa^ao (bx (.a_ 42 [] #[aq]) (aj 10)) (az (.bI 0 44 [0] ae .bJ)^aa) aa^ao (av aq (ag "'")) (az (.bI 0 45 [0] ae .bJ)^aa) aa^ao (av aq (ag [34])) (az (.bI 0 46 [0] ae .bJ)^aa) aa^ao (aQ (av aq (ag "%")) (aQ (bx (ah (ai 0 3 ae) (aj 1)) (.bU 0 0 #[ai 0 14 ae])) (.fU (.a_ 43 [] #[aJ 0 (ai 0 14 ae) (ah (ai 0 3 ae) (aj 1))])))) (az (.bI 0 47 [0] ae .bJ)^aa) aa^az (.bI 0 48 [0] ae .bJ)^aa
def n69:N:=ak 2 (.new 13 0 #[ae,aq])^ak 3 (.lst 1 .bJ)^.jE (.vg (.fU (.bI 0 41 [0] ay .bJ))) (aC (.bT 1 0 aD #[.bI 0 49 [0] ay .bJ])^aa)^aC (.bT 1 0 aD #[.ez 12 #[ag "end",ag [],ag [],.bI 0 40 [0] ay #[ai 0 3 ay]]])^.dY (.iz 3 1) (.dY (.drop 0) (az aD^aa))
def n70:N:=.sat 0 15 aq ae^.sat 0 3 (aj 0) ae^aa
def n71:N:=az (aJ 0 (ai 0 15 ae) (ai 0 3 ae))^aa
def n73:N:=ak 1 (aJ 0 (ai 0 15 ae) (ai 0 3 ae))^ao (bc (ai 0 4 aq) (ag "end")) (.sat 0 3 (ah (ai 0 3 ae) (aj 1)) ae^aa) aa^az aq^aa
def n74:N:=az (.bI 0 38 [] (aJ 0 (ai 0 15 ae) (ai 0 3 ae)) #[aq])^aa
def n75:N:=az (av (ai 0 4 (aJ 0 (ai 0 15 ae) (ai 0 3 ae))) (ag "end"))^aa
def n76:N:=ao (.fU (.bI 0 38 [0] ae #[aq])) (.sat 0 3 (ah (ai 0 3 ae) (aj 1)) ae^az (.lit (.bool Xg))^aa) aa^az (.lit (.bool Xb))^aa
def n78:N:=ao (.vg (.fU (.bI 0 54 [0] ae #[aq]))) (.gD 2 #[ah (ag "expected ") aq,.bI 0 58 [0] ae .bJ]^aa) aa^aa
def n80:N:=ak 1 (aJ 0 (ai 0 15 ae) (ai 0 3 ae))^ao (bc (ai 0 4 aq) (ag "name")) (.gD 2 #[ag "expected a name",ai 0 3 aq]^aa) aa^.sat 0 3 (ah (ai 0 3 ae) (aj 1)) ae^az (ai 0 14 aq)^aa
def n81:N:=az (ai 0 3 (aJ 0 (ai 0 15 ae) (ai 0 3 ae)))^aa
def n82:N:=.sat 0 16 aq ae^.sat 0 3 ay ae^aa
def n83:N:=aC (.IC 15 82 [0] #[ae,ag "label",ay])^.sat 0 6 aq ae^aa
def n84:N:=az (au #[ag "label",ai 0 6 ae])^aa
def n85:N:=aC (.IC 15 82 [0] #[ae,ag "code",ay])^.sat 0 17 aq ae^aa
def n86:N:=az (au #[ag "code",.bI 0 29 [] (ai 0 17 ae) .bJ])^aa
def n87:N:=aC (.IC 15 82 [0] #[ae,ag "deed",aD])^.sat 0 18 aq ae^.sat 0 19 ay ae^aa
def n88:N:=az (au #[ag "deed",ai 0 18 ae,.bU 6 0 #[.lc [] (.fb (ai 0 19 ae)) (.lit (.bool Xg)) (.a_ 91 [] #[ae])]])^aa
def n89:N:=aC (.IC 15 82 [0] #[ae,ag "equate",aD])^.sat 0 6 aq ae^.sat 0 20 ay ae^aa
def n90:N:=az (au #[ag "equate",ai 0 6 ae,.bI 0 29 [] (ai 0 20 ae) .bJ])^aa
def n91:N:=ao (.fU (.bU 13 0 #[ae,au #[.h9 21,.h9 22]])) (az ae^aa) aa^az (.bI 0 29 [] ae .bJ)^aa
def n92:N:=.ast [2,3] Xb (.a_ 16 [] #[ae])^ak 4 ay^ao (av (ai 0 4 ay) (ag "here")) (ak 4 (.ez 6 #[aq])^aa) (ao (av (ai 0 4 ay) (ag "unary")) (ak 4 (.ez 8 #[ai 0 7 ay,.a_ 92 [] #[ai 0 8 ay,aq]])^aa) aa^aa)^.eH 5 (.fb aD) (ak 4 (.ez 9 #[ai 0 7 bh,aK,.a_ 92 [] #[ai 0 10 bh,aq]])^aa)^az aK^aa
def n93:N:=az (ah (ah (.bU 5 0 #[ae]) (ag "$")) (.bU 5 0 #[aq]))^aa
def n94:N:=az (ah (ah (ag "0.") (.bU 5 0 #[ae])) (ag "$"))^aa
def n95:N:=.ast [1,2] Xb (au #[.Iv 0,.bU 7 0 #[ae]])^ak 3 (.lc [] (.fb ae) (.lit (.bool Xg)) (aG 0 0 ae))^.Bf [4,5] #[ae] (ao (bR (aG 0 0 bh) (.CO 0 aD .yH aK)) (.gD 3 #[ah (ag "told twice: ") (aG 0 0 bh),aG 0 2 bh]^aa) aa^aa)^.jE (.cmp .NotEq 0 1 ay (.fB .bJ)) (ak 6 (.lst 1 .bJ)^.iA [7,8,9] (.fb ay) (ao (.cmp .Eq 0 3 (.lc [1,3] (.fb (.a_ 40 [] #[cP])) (aQ (bR ae ay) (cW ae aq)) ae) (.fB .bJ)) (.il 0 (.a_ 39 [0] #[cP,.ez 11 #[aq]]) aq bY^aa) (aC (.bT 1 0 b7 #[au #[bY,cP,fJ]])^aa)^aa)^ao (av (.bU 0 1 #[b7]) (.bU 0 0 #[ay])) (.dY (.iz 6 1) (.gD 3 #[ag "equates that lean on each other in a ring",aG 0 2 (aG 0 0 b7)]^aa)) aa^.dY (.iz 6 1) (ak 2 b7^aa))^.dY (.iz 1 0) (az aq^aa)
def n96:N:=ao (bc (ai 0 4 ae) (ag "text")) (.gD 2 #[ag "a text is missing",ai 0 3 ae]^aa) aa^.JB 1 [] (.fb (ai 0 5 ae)) (.lit (.bool Xg)) (.bU 1 0 #[ae])^ao (aQ (.cmp .NotEq 0 1 aq (.fB .bJ)) (cw (.bU 10 0 #[aq]) (aj 255))) (.gD 2 #[ag "a sign beyond one octet",ai 0 3 ae]^aa) aa^az (.bU 11 0 #[aq])^aa
def n97:N:=ao (.vg (.fU (.bI 0 53 [0] ae .bJ))) (.gD 2 #[ag "end of line expected",.bI 0 58 [0] ae .bJ]^aa) aa^aa
def n98:N:=.sat 0 21 aq ae^.sat 0 22 ay ae^.sat 0 23 (aj 0) ae^.sat 0 24 (.lst 1 .bJ) ae^.sat 0 25 (.lst 2 .bJ) ae^.sat 0 13 (.lst 3 .bJ) ae^.sat 0 26 (.TO 4) ae^.sat 0 27 (.lst 5 .bJ) ae^.sat 0 28 (aj 0) ae^aa
def n99:N:=.iA [2,3] (.fb (.a_ 51 [] #[aq])) (aC (.bI 0 0 [0,0,0,0,0,0] ae #[.a_ 69 [] #[aD,ay]])^aa)^.dY (.me 0 27 4) (.iA [4,5,6] (.fb (ai 0 27 ae)) (ao (bx (.bT 4 4 (ai 0 26 ae) #[aK,aj 0]) bh) (.gD 3 #[ag "no such local label ahead",b7]^aa) aa^aa)^aC (.bI 0 60 [0,0,0,0,0] ae .bJ)^.dY (.me 0 24 0) (az (ai 0 24 ae)^aa))
def Wq:N:=.dY (.me 0 13 2) (ak 1 (.a_ 95 [] #[ai 0 13 ae])^ak 2 (.ez 11 #[.bU 12 4 #[.lc [1] (.TC aq) (av (ai 0 12 (aJ 0 aq ae)) (ag [])) (au #[ae,aJ 0 aq ae])]])^.dY (.me 0 25 1) (.dY .JF (.iA [3,4,5,6] (.fb (ai 0 25 ae)) (ak 7 (aJ 0 (ai 0 22 ae) bh)^ak 8 (.QD [4,3] bY #[ai 0 21 ae,aK,ay])^aC (.a_ 97 [4] #[aK])^.il 1 (.ez 17 #[cP,b7]) (ai 0 24 ae) aD^.dY (.drop 4) aa)^aa)))
def GH:N:=ak 2 (.bI 0 63 [0,0,0,0,0,0] ae #[.bI 0 61 [0,0,0,0,0,0] ae #[aq]])^ak 3 (.new 14 6 #[ay])^ak 4 (.bI 6 50 [6] aD .bJ)^ao (av (ai 0 4 aK) (ag "end")) (.dY (.drop 6) (.yF^aa)) aa^ao (bc (ai 0 4 aK) (ag "name")) (.gD 2 #[ag "no statement begins so",ai 0 3 aK]^aa) aa^ao (aQ (av (ai 0 4 (aG 0 1 ay)) (ag "sign")) (av (ai 0 14 (aG 0 1 ay)) (ag "="))) (aC (.bI 6 52 [6] aD .bJ)^aC (.bI 6 52 [6] aD .bJ)^aC (.bI 0 65 [0,0,0,0,0,0,0] ae #[ai 0 14 aK,aD,ai 0 3 aK])^.dY (.drop 6) aa) (ao (av (aG 0 0 (ai 0 14 aK)) (ag ".")) (aC (.bI 6 52 [6] aD .bJ)^aC (.bI 0 66 [0,0,0,0,0,0,0] ae #[aK,aD])^.dY (.drop 6) aa) (aC (.bT 2 0 (ai 0 25 ae) #[au #[.bU 0 1 #[ai 0 24 ae],aD,ai 0 23 ae,ai 0 3 aK]])^aC (.bT 1 0 (ai 0 24 ae) #[cq])^aa)^aa)^aa
def Wo:N:=ak 2 (aj 0)^.jE (aQ (bc (ai 0 4 (aJ 0 aq ay)) (ag "end")) (aQ (av (ai 0 4 (aJ 0 aq (ah ay (aj 1)))) (ag "sign")) (av (ai 0 14 (aJ 0 aq (ah ay (aj 1)))) (ag ":")))) (aC (.bI 0 62 [0,0,0,0,0,0] ae #[aJ 0 aq ay])^ak 2 (ah ay (aj 2))^aa)^az (.CO 0 aq ay .yH)^aa
def Wn:N:=ao (aQ (av (ai 0 4 aq) (ag "name")) (bc (ai 0 14 aq) (ag "."))) (aC (.bT 1 0 (ai 0 24 ae) #[.ez 16 #[ai 0 14 aq,ai 0 3 aq]])^aa) (ao (aQ (av (ai 0 4 aq) (ag "number")) (aQ (.fU (.bT 0 7 (ai 0 14 aq) .bJ)) (bx (.bU 0 0 #[ai 0 14 aq]) (aj 10)))) (ak 2 (.bU 4 0 #[ai 0 14 aq])^.il 4 (ah (.bT 4 4 (ai 0 26 ae) #[ay,aj 0]) (aj 1)) (ai 0 26 ae) ay^aC (.bT 1 0 (ai 0 24 ae) #[.ez 16 #[.a_ 93 [] #[ay,aJ 4 (ai 0 26 ae) ay],ai 0 3 aq]])^aa) (.gD 2 #[ag "no label",ai 0 3 aq]^aa)^aa)^aa
def Wm:N:=ak 2 (.lst 6 .bJ)^.eH 3 (.fb aq) (ao (bc (ai 0 4 aD) (ag "local")) (aC (.bT 6 0 ay #[aD])^.cnt^aa) aa^ak 4 (.bT 4 4 (ai 0 26 ae) #[ai 0 5 aD,aj 0])^ao (av (.rW 0 (ai 0 14 aD)) (ag "f")) (ak 4 (ah aK (aj 1))^aC (.bT 5 0 (ai 0 27 ae) #[au #[ai 0 5 aD,aK,ai 0 3 aD]])^aa) (ao (av aK (aj 0)) (.gD 3 #[ag "no such local label behind",ai 0 3 aD]^aa) aa^aa)^ak 5 (.a_ 93 [] #[ai 0 5 aD,aK])^aC (.bT 6 0 ay #[.ez 12 #[ag "name",bh,bh,ai 0 3 aD]])^aa)^.dY (.iz 2 6) (az ay^aa)
def Wl:N:=ao (.cmp .Eq 0 3 (.lc [] (.fb aq) (.fU (.a_ 41 [] #[ae])) ae) (.fB .bJ)) (az aq^aa) aa^.sat 0 28 (ah (ai 0 28 ae) (aj 1)) ae^ak 3 (.a_ 94 [] #[ai 0 28 ae])^aC (.bT 1 0 (ai 0 24 ae) #[.ez 16 #[aD,ay]])^az (.lc [3] (.fb aq) (.lit (.bool Xg)) (.a_ 92 [] #[ae,aq]))^aa
def Wj:N:=ak 4 (.a_ 21 [6] #[ay])^aC (.a_ 97 [6] #[ay])^ak 4 (aG 0 0 (.bI 0 64 [0,0,0,0,0,0] ae #[.fB #[aK],aD]))^ao (av aq (ag ".")) (aC (.bT 1 0 (ai 0 24 ae) #[.ez 18 #[ag ".org",.fB #[aK],aD]])^aa) (aC (.bT 3 0 (ai 0 13 ae) #[au #[aq,aK,aD]])^aC (.bT 1 0 (ai 0 24 ae) #[.ez 19 #[aq,aK,aD]])^aa)^aa
def jg:N:=.ast [3,4] Xg (au #[ai 0 14 aq,ai 0 3 aq])^ao (bR aD (.bT 0 5 (.h9 11) #[ag " "])) (ak 5 (.bI 0 6 [6] ae #[ay])^aC (.bI 6 56 [6] ay #[ag ","])^aC (.bI 0 65 [0,0,0,0,0,0,0] ae #[bh,ay,aK])^.yF^aa) aa^ao (bR aD (au #[ag ".intel_syntax",ag ".att_syntax"])) (aC (.bI 0 67 [0,0,0,0,0,0,0] ae #[aD,ay,aK])^aa) (ao (bR aD (.bT 0 5 (.h9 7) #[ag " "])) (aC (.bI 0 68 [0,0,0,0,0,0] ae #[aD,.bI 0 71 [6] ae #[ay],aK])^aa) (ao (bR aD (.bT 0 5 (.h9 8) #[ag " "])) (ak 6 (.jk (av aD (ag ".ascii")) (.lit (.bytes [])) (.lit (.bytes [0])))^aC (.bT 1 0 (ai 0 24 ae) #[.ez 18 #[aD,.lc [6] (.fb (.bI 0 72 [6] ae #[ay])) (.lit (.bool Xg)) (ah ae aq),aK]])^aa) (ao (bR aD (.bT 0 5 (.h9 6) #[ag " "])) (aC (.bT 1 0 (ai 0 24 ae) #[.ez 18 #[aD,.fB .bJ,aK]])^aa) (ao (av aD (ag ".section")) (aC (.bT 1 0 (ai 0 24 ae) #[.ez 18 #[aD,.fB #[.bI 0 6 [6] ae #[ay]],aK]])^aa) (ao (bR aD (au #[ag ".globl",ag ".global"])) (aC (.bT 1 0 (ai 0 24 ae) #[.ez 18 #[ag ".globl",.bI 0 70 [0,5] ae #[ay],aK]])^aa) (aC (.bI 0 69 [0,0,0,0,0,0] ae #[aD,.bI 0 71 [6] ae #[ay],aK])^aa)^aa)^aa)^aa)^aa)^aa)^aC (.a_ 97 [6] #[ay])^aa
def Wi:N:=ao (av aq (ag ".att_syntax")) (ao (aQ (.vg (.fU (.bI 6 53 [6] ay .bJ))) (bc (.bI 0 6 [6] ae #[ay]) (ag "prefix"))) (.gD 2 #[ag "only prefix is read here",aD]^aa) aa^.sat 0 23 (aj 0) ae^.yF^aa) aa^ao (bw (bc (.bI 0 6 [6] ae #[ay]) (ag "noprefix")) (bx (.bU 0 0 #[ai 0 22 ae]) (aj 2))) (.gD 2 #[ag "only noprefix is read here",aD]^aa) aa^.sat 0 23 (aj 1) ae^aa
def Wh:N:=ao (.cmp .Eq 0 3 (.lc [] (.fb ay) (.fU (.a_ 41 [] #[ae])) ae) (.fB .bJ)) (aC (.bT 1 0 (ai 0 24 ae) #[.ez 18 #[aq,ay,aD]])^.yF^aa) aa^.eH 4 (.fb ay) (ak 5 (.bI 0 64 [0,0,0,0,0,0] ae #[.fB #[aK],aD])^aC (.bT 1 0 (ai 0 24 ae) #[.ez 18 #[aq,bh,aD]])^aa)^aa
def GG:N:=ao (bR aq (.bT 0 5 (.h9 9) #[ag " "])) (ak 4 (aj 1)^aa) (ao (bR aq (.bT 0 5 (.h9 10) #[ag " "])) (ak 4 (aj 2)^aa) (ao (av aq (ag ".fill")) (ak 4 (aj 3)^aa) (.gD 2 #[ah (ag "unknown deed ") aq,aD]^aa)^aa)^aa)^ao (bw (.cmp .Eq 0 3 ay (.fB .bJ)) (cw (.bU 0 0 #[ay]) aK)) (.gD 2 #[ag "a wrong number of numbers",aD]^aa) aa^ak 5 (.bI 0 64 [0,0,0,0,0,0] ae #[ay,aD])^aC (.bT 1 0 (ai 0 24 ae) #[.ez 18 #[aq,bh,aD]])^aa
def Wg:N:=ak 2 (ai 0 3 (.bI 0 50 [0] aq .bJ))^ak 3 (.bI 0 6 [0] aq .bJ)^ao (bw (av aD (ag ".")) (bR (aG 0 0 aD) (ag "0123456789"))) (.gD 2 #[ag "no name",ay]^aa) aa^az aD^aa
def Wf:N:=ak 2 (.lst 2 #[.bI 0 6 [1] ae #[aq]])^.jE (.fU (.bI 1 54 [1] aq #[ag ","])) (aC (.bT 2 0 ay #[.bI 0 6 [1] ae #[aq]])^aa)^.dY (.iz 2 2) (az ay^aa)
def We:N:=ao (.fU (.bI 0 53 [0] aq .bJ)) (az (.fB .bJ)^aa) aa^ak 2 (.lst 1 #[.a_ 21 [0] #[aq]])^.jE (.fU (.bI 0 54 [0] aq #[ag ","])) (aC (.bT 1 0 ay #[.a_ 21 [0] #[aq]])^aa)^.dY (.iz 2 1) (az ay^aa)
def Wd:N:=ao (.fU (.bI 0 53 [0] aq .bJ)) (az (.fB .bJ)^aa) aa^ak 2 (.lst 1 #[.a_ 96 [] #[.bI 0 52 [0] aq .bJ]])^.jE (.fU (.bI 0 54 [0] aq #[ag ","])) (aC (.bT 1 0 ay #[.a_ 96 [] #[.bI 0 52 [0] aq .bJ]])^aa)^.dY (.iz 2 1) (az ay^aa)
def Wc:N:=az (.bI 0 59 [0,0,0,0,0,0] (.new 20 0 #[ae,ay]) #[aq])^aa
def Wb:N:=aC (.bI 0 52 [0] aq .bJ)^ak 3 (.a_ 39 [1] #[.a_ 21 [0] #[aq],ay,ag "."])^az (.ez 10 #[ah (ai 0 5 aD) ae,ai 0 11 aD,ai 0 12 aD])^aa
def Wa:N:=az (.bI 0 32 [] (.a_ 116 [0,0] #[ae,aq,ay]) .bJ)^aa
def V_:N:=ao (av (aG 0 2 ae) (aj 0)) (.il 0 (ah (aG 0 1 ae) (aj 1)) ae (aj 1)^ao (cw (aG 0 1 ae) (.bU 0 0 #[aG 0 0 ae])) (az (bu (cy (c_ (c_ (ah (aG 0 3 ae) (aj 3)) (ah (aG 0 1 ae) (aj 2))) (ah (aG 0 1 ae) (aj 9))) (aj 5)) aq)^aa) aa^ak 2 (aJ 0 (aG 0 0 ae) (cx (aG 0 1 ae) (aj 1)))^ao (bx (.bU 3 0 #[ay]) (.bin .Pow 0 (aj 10) (aj 18))) (az (bu ay aq)^aa) aa^.il 0 (ah (c_ (aj 2) (cx (.bU 3 0 #[ay]) (.bin .Pow 0 (aj 10) (aj 18)))) (.jk (bx ay (aj 0)) (aj 1) (aj 0))) ae (aj 2)^aa) aa^ak 3 (bu (aG 0 2 ae) aq)^.il 0 (cy (aG 0 2 ae) aq) ae (aj 2)^az aD^aa
def V':N:=ak 2 (au #[.bU 0 0 #[ae],ah (.bU 0 0 #[.rW 0 ae]) (aj 1)])^.Ti 0 (ah (.rW 0 ae) aq) ae^az ay^aa
def V9:N:=.ast [3,4,5,6] Xb (au #[aG 0 0 aq,aG 0 1 aq,aG 0 2 aq,aG 0 6 aq])^.ast [7,8] Xg (au #[aJ 0 (au #[aj 1,aj 22]) (bu ay (aj 2)),av (.a_ 118 [0] #[ae,aj 2]) (aj 0)])^ao (aQ (.fU cP) (av (aJ 2 aK bY) (aj 0))) (ak 8 (av (.a_ 118 [0] #[ae,aj 6]) (aj 5))^aa) aa^ak 9 (.a_ 119 [1] #[aD,ah (.bU 5 0 #[bY]) (.jk (.fU cP) (ag "b") (ag "f"))])^ao (aQ (.fU cP) (av (aJ 2 aK bY) (aj 0))) (aC (.bT 7 0 b7 #[au #[ag "symbol",fJ]])^aa) aa^ao (.vg (.fU cP)) (aC (.bT 3 0 bh #[au #[bY,ah (aJ 2 aK bY) (aj 1),fJ]])^aa) aa^az (au #[ag "symbol",ah (ah (.bU 5 0 #[bY]) (ag "$")) (.bU 5 0 #[ah (aJ 2 aK bY) (.jk (.fU cP) (aj 0) (aj 1))])])^aa
def V8:N:=.ast [2,3,4,5] Xb (au #[aG 0 0 aq,.a_ 118 [0] #[ae,aj 9],aJ 0 (.h9 14) (.a_ 118 [0] #[ae,aj 7]),.a_ 118 [0] #[ae,aj 300]])^ao (av aD (aj 0)) (aC (.a_ 119 [1] #[ay,.bU 5 0 #[bh]])^az (au #[ag "number",bh])^aa) aa^ao (av aD (aj 1)) (aC (.a_ 119 [1] #[ay,ag "'A'"])^az (au #[ag "number",aj 65])^aa) aa^ao (bx aD (aj 4)) (aC (.a_ 119 [1] #[ay,ah (ah aK (.jk (av aD (aj 2)) (ag "+") (ag " - "))) (.bU 5 0 #[bh])])^az (au #[ag "binary",.jk (av aD (aj 2)) (ag "+") (ag "-"),au #[ag "symbol",aK],au #[ag "number",bh]])^aa) aa^ao (av aD (aj 4)) (aC (.a_ 119 [1] #[ay,ah (ag ".-") (aJ 0 (ag "pqr") (bu bh (aj 3)))])^az (au #[ag "binary",ag "-",au #[ag "here"],au #[ag "symbol",aJ 0 (ag "pqr") (bu bh (aj 3))]])^aa) aa^ao (av aD (aj 5)) (aC (.a_ 119 [1] #[ay,ah (ag ". + ") (.bU 5 0 #[bh])])^az (au #[ag "binary",ag "+",au #[ag "here"],au #[ag "number",bh]])^aa) aa^ao (bx aD (aj 8)) (az (.a_ 120 [0,0,0,0,0,0,0,0,0] #[ae,aq,bh])^aa) aa^aC (.a_ 119 [1] #[ay,ah (ah (aJ 0 (ag "pqr") (bu bh (aj 3))) (ag "-")) (aJ 0 (ag "pqr") (bu (cy bh (aj 3)) (aj 3)))])^az (au #[ag "binary",ag "-",au #[ag "symbol",aJ 0 (ag "pqr") (bu bh (aj 3))],au #[ag "symbol",aJ 0 (ag "pqr") (bu (cy bh (aj 3)) (aj 3))]])^aa
def V7:N:=ao (.cmp .Eq 0 3 (.lc [] (.fb aq) (aQ (av (aG 0 0 ae) (ag "binary")) (.cmp .Eq 0 2 (aG 0 2 ae) (au #[ag "here"]))) ae) (.fB .bJ)) (az (.bU 6 0 #[aq])^aa) aa^.il 1 (ah (aG 1 0 (aG 0 7 ae)) (aj 1)) (aG 0 7 ae) (aj 0)^ak 3 (ah (ah (ag "0.") (.bU 5 0 #[aG 1 0 (aG 0 7 ae)])) (ag "$"))^aC (.bT 0 0 (aG 0 4 ae) #[au #[au #[ag "label",aD],ay]])^ak 4 (.lst 2 .bJ)^.eH 5 (.fb aq) (ak 6 (aQ (av (aG 0 0 bh) (ag "binary")) (.cmp .Eq 0 2 (aG 0 2 bh) (au #[ag "here"])))^aC (.bT 2 0 aK #[.jk (.fU b7) (au #[aG 0 0 bh,aG 0 1 bh,au #[ag "symbol",aD],aG 0 3 bh]) bh])^aa)^.dY (.iz 4 2) (az (.bU 6 0 #[aK])^aa)
def V6:N:=.ast [2,3,4] Xg (au #[aG 0 0 aq,aG 0 4 aq,aJ 0 (.h9 12) (.a_ 118 [0] #[ae,aj 8])])^.ast [5,6] Xg (au #[.a_ 119 [1] #[ay,ah aK (ag " ")],.lst 9 .bJ])^.eH 7 (.yK #[ah (aj 1) (.a_ 118 [0] #[ae,aj 3])]) (ao (cw bY (aj 0)) (aC (.a_ 119 [1] #[ay,ag " ,"])^aa) aa^aC (.bT 9 0 b7 #[.a_ 121 [0,0,0,0,0,0,0,0,0] #[ae,aq]])^aa)^.dY (.iz 6 9) (ao (.cmp .Eq 0 3 (.lc [] (.fb b7) (aQ (av (aG 0 0 ae) (ag "binary")) (.cmp .Eq 0 2 (aG 0 2 ae) (au #[ag "here"]))) ae) (.fB .bJ)) (aC (.bT 5 0 aD #[au #[au #[ag "deed",aK,.bU 6 0 #[b7]],bh]])^.yF^aa) aa^.eH 8 (.fb b7) (ak 9 (.a_ 122 [5,7] #[aq,.fB #[cP],bh])^aC (.bT 5 0 aD #[au #[au #[ag "deed",aK,fJ],bh]])^aa)^aa)
def V5:N:=.ast [2,3] Xb (aJ 0 (.h9 13) (.a_ 118 [0] #[ae,aj 8]))^ak 4 (ah (aj 1) (.a_ 118 [0] #[ae,aD]))^ao (av (.a_ 118 [0] #[ae,aj 12]) (aj 11)) (ak 4 (aJ 0 (au #[aj 0,ah aD (aj 1)]) (bu aK (aj 2)))^aa) aa^.ast [5,6] Xg (au #[.a_ 119 [1] #[aG 0 0 aq,ah ay (ag " ")],.lst 9 .bJ])^.eH 7 (.yK #[aK]) (ao (cw bY (aj 0)) (aC (.a_ 119 [1] #[aG 0 0 aq,ag ", "])^aa) aa^aC (.bT 9 0 b7 #[.a_ 121 [0,0,0,0,0,0,0,0,0] #[ae,aq]])^aa)^.dY (.iz 6 9) (ao (bw (av aK (aj 0)) (cw aK aD)) (az bh^aa) aa^ak 8 (.a_ 122 [5,7] #[aq,b7,bh])^aC (.bT 5 0 (aG 0 4 aq) #[au #[au #[ag "deed",ay,cP],bh]])^az cq^aa)
def V4:N:=.ast [2,3] Xg (au #[.a_ 118 [0] #[ae,aj 5],aJ 0 (ag "uvw") (.a_ 118 [0] #[ae,aj 3])])^ao (cw ay (aj 2)) (ak 4 (.a_ 119 [1] #[aG 0 0 aq,.jk (av ay (aj 3)) aD (ag ".")])^aC (.a_ 119 [1] #[aG 0 0 aq,ag " = "])^aa) (ak 4 (.a_ 119 [1] #[aG 0 0 aq,ah (ah (aJ 0 (au #[ag ".set ",ag ".equ ",ag ".equiv "]) ay) aD) (ag ",")])^aa)^ak 5 (.a_ 122 [5,7] #[aq,.fB #[.a_ 121 [0,0,0,0,0,0,0,0,0] #[ae,aq]],aK])^ao (av ay (aj 4)) (aC (.bT 5 0 (aG 0 4 aq) #[au #[au #[ag "deed",ag ".org",bh],aK]])^.yF^aa) aa^aC (.bT 4 0 (aG 0 3 aq) #[au #[aD,aG 0 0 bh,aK]])^aC (.bT 5 0 (aG 0 4 aq) #[au #[au #[ag "equate",aD,aG 0 0 bh],aK]])^aa
def V3:N:=.ast [2,3] Xg (au #[.a_ 118 [0] #[ae,aj 4],.a_ 118 [0] #[ae,aj 20]])^ao (av ay (aj 0)) (.il 8 (bu aD (aj 2)) (aG 0 7 aq) (aj 1)^aC (.a_ 119 [1] #[aG 0 0 aq,aJ 0 (au #[ag ".att_syntax",ag ".intel_syntax noprefix",ag ".att_syntax prefix",ag ".intel_syntax noprefix"]) (bu aD (aj 4))])^aa) (ao (av ay (aj 1)) (.ast [4,5] Xb (aJ 0 (.h9 16) (bu aD (aj 5)))^aC (.bT 5 0 (aG 0 4 aq) #[au #[au #[ag "deed",aG 0 0 (.bT 0 5 aK #[ag " "]),bh],.a_ 119 [1] #[aG 0 0 aq,aK]]])^aa) (ak 6 (aJ 0 (au #[ag ".ascii",ag ".asciz",ag ".string"]) (bu aD (aj 3)))^.ast [7,8] Xg (au #[aJ 0 (.h9 15) (bu aD (aj 4)),aJ 0 (.h9 15) (bu (cy aD (aj 4)) (aj 4))])^ak 9 (.jk (av (bu aD (aj 3)) (aj 0)) (.lit (.bytes [])) (.lit (.bytes [0])))^ak 10 (.a_ 119 [1] #[aG 0 0 aq,ah (ah (ah (ah b7 (ag " ")) (aG 0 0 bY)) (ag ", ")) (aG 0 0 cP)])^aC (.bT 5 0 (aG 0 4 aq) #[au #[au #[ag "deed",b7,au #[ah (aG 0 1 bY) fJ,ah (aG 0 1 cP) fJ]],i8]])^aa)^aa)^aa
def V2:N:=.ast [2,3,4,5] Xb (au #[aG 0 0 aq,aG 0 1 aq,aG 0 4 aq,aG 0 6 aq])^.eH 6 (.yK #[.a_ 118 [0] #[ae,aj 3]]) (ak 7 (aJ 0 (au #[ag "p",ag "q",ag "r",ag "1",ag "22"]) (.a_ 118 [0] #[ae,aj 5]))^ak 8 (.a_ 119 [1] #[ay,bY])^aC (.a_ 119 [1] #[ay,aJ 0 (au #[ag ":",ag ": ",ag " : "]) b7])^ao (bR bY (au #[ag "1",ag "22"])) (.il 2 (ah (aJ 2 aD (.bU 4 0 #[bY])) (aj 1)) aD (.bU 4 0 #[bY])^ak 7 (ah (ah bY (ag "$")) (.bU 5 0 #[aJ 2 aD (.bU 4 0 #[bY])]))^aa) aa^aC (.bT 5 0 aK #[au #[au #[ag "label",bY],cP]])^aa)^.ast [9,10,11] Xg (au #[.a_ 118 [0] #[ae,aj 12],cq,cq])^ao (aQ (av fJ (aj 11)) (av (.a_ 118 [0] #[ae,aj 5]) (aj 4))) (ak 10 (.a_ 119 [1] #[ay,ag ".longs "])^aC (.a_ 121 [0,0,0,0,0,0,0,0,0] #[ae,aq])^aa) (ao (bR fJ (au #[aj 4,aj 5])) (aC (.a_ 123 [0,0,0,0,0,0,0,0,0] #[ae,aq])^aa) (ao (av fJ (aj 6)) (ak 10 (.a_ 124 [0,0,0,0,0,0,0,0,0] #[ae,aq])^aa) (ao (bR fJ (au #[aj 7,aj 8])) (aC (.a_ 125 [0,0,0,0,0,0,0,0,0] #[ae,aq])^aa) (ao (bR fJ (au #[aj 9,aj 10])) (aC (.a_ 126 [0,0,0,0,0,0,0,0,0] #[ae,aq])^aa) (ao (cw fJ (aj 0)) (ak 11 (au #[.bU 0 5 #[aK],.a_ 119 [1] #[ay,ag "go "]])^aC (.bT 5 0 aK #[au #[au #[ag "code"],aG 0 1 gn]])^aC (.bT 6 0 (aG 0 5 aq) #[.lst 9 #[aG 0 0 gn,.a_ 121 [0,0,0,0,0,0,0,0,0] #[ae,aq],aG 8 1 (aG 0 7 aq),cq]])^aa) aa^aa)^aa)^aa)^aa)^aa)^ao (ei i8 cq) (aC (.bT 7 0 bh #[au #[ag "read",i8]])^aa) (ao (av (.a_ 118 [0] #[ae,aj 14]) (aj 13)) (aC (.a_ 119 [1] #[ay,ag " "])^ak 8 (.a_ 119 [1] #[ay,ag "7"])^ao (f9 gn cq) (aC (.bT 7 0 bh #[au #[ag "read",cP]])^aa) (.il 9 cP (.rW 6 (aG 0 5 aq)) (aj 3)^aa)^aa) aa^aa)^.dY (.Bb 6 8) (ak 12 (.a_ 118 [0] #[ae,aj 4])^aC (.a_ 119 [1] #[ay,aJ 0 (au #[ag [],ag " ; ",ag " # ; p: 1b",ag [9]]) gm])^ao (bc gm (aj 1)) (aC (.bT 1 0 ay #[ag []])^aa) aa^ao (av gm (aj 3)) (aC (.bT 1 0 ay #[ag []])^aa) aa^aa)
def V1:N:=ao (av (aG 0 0 ae) (ag "number")) (az (au #[aG 0 1 ae,.fB .bJ,.fB .bJ])^aa) aa^ao (av (aG 0 0 ae) (ag "here")) (az (au #[aj 0,.fB #[ag "."],.fB .bJ])^aa) aa^ao (aQ (av (aG 0 0 ae) (ag "symbol")) (cW (aG 0 1 ae) aq)) (az (au #[aj 0,.fB #[aG 0 1 ae],.fB .bJ])^aa) aa^ao (av (aG 0 0 ae) (ag "symbol")) (az (.jk (av ay (aj 0)) cq (.a_ 128 [] #[aJ 0 aq (aG 0 1 ae),aq,cx ay (aj 1)]))^aa) aa^.ast [3,4] Xg (au #[.a_ 128 [] #[aG 0 2 ae,aq,ay],.a_ 128 [] #[aG 0 3 ae,aq,ay]])^ao (bw (f9 aD cq) (f9 aK cq)) (az cq^aa) aa^ao (av (aG 0 1 ae) (ag "+")) (az (au #[ah (aG 0 0 aD) (aG 0 0 aK),ah (aG 0 1 aD) (aG 0 1 aK),ah (aG 0 2 aD) (aG 0 2 aK)])^aa) aa^az (au #[cx (aG 0 0 aD) (aG 0 0 aK),ah (aG 0 1 aD) (aG 0 2 aK),ah (aG 0 2 aD) (aG 0 1 aK)])^aa
def V0:N:=ak 2 (.a_ 128 [] #[ae,aq,aj 4])^ao (f9 ay cq) (az cq^aa) aa^.JB 3 [2] (.fb (aG 0 1 ay)) (cW ae (aG 0 2 aq)) ae^.JB 4 [2] (.fb (aG 0 2 ay)) (cW ae (aG 0 1 aq)) ae^az (au #[aG 0 0 ay,aG 0 0 (ah aD (.fB #[ag []])),aG 0 0 (ah aK (.fB #[ag []]))])^aa
def VZ:N:=.ast [1,2,3,4,5,6,7,8] Xb ae^ao (.cmp .NotEq 7 1 bY (.fB .bJ)) (az (aG 7 0 bY)^aa) aa^.dY (.iz 3 3) (.dY (.iz 4 3) (.dY (.iz 6 4) (.iA [9,10,11] (.fb aD) (ao (bx (aJ 2 ay fJ) i8) (az (au #[ag "symbol",gn])^aa) aa^aa)^.ast [12,13] Xg (au #[.Iv 6,.Iv 7])^.iA [14,15,11] (.fb aK) (ao (.cmp .In 6 0 kX gm) (az (au #[ag "symbol",gn])^aa) aa^.il 6 i7 gm kX^aa)^.dY (.iz 12 6) (.iA [14,15,11] (.fb aK) (ak 16 (.a_ 129 [] #[i7,gm])^ao (f9 (.loc 16) cq) (az (au #[ag "symbol",gn])^aa) aa^ao (av (aG 0 2 (.loc 16)) (ag [])) (.il 6 i7 (.loc 13) kX^aa) aa^aa)^.dY (.iz 13 6) (.iA [17,15,18,19] (.fb b7) (ao (ei (.loc 19) cq) (az (au #[ag "read",.loc 19])^aa) aa^.ast [20,21,22] Xb (.a_ 129 [] #[i7,.loc 13])^ak 23 (.jk (av (.loc 18) (aj 0)) (au #[ah kV (aj 5000),kU,kT]) (au #[cx (cx (aj 0) kV) (aj 5000),kT,kU]))^.il 3 (au #[au #[ag "code",.loc 23],aG 0 1 (aJ 3 bh kW)]) bh kW^aa)^.dY (.iz 5 3) (az bh^aa))))))
def VY:N:=.ast [1,2] Xg (au #[cq,.fB .bJ])^.try (ak 2 (.a_ 115 [] #[aj 5000,ae,.fB #[.h9 17,.h9 18]])^aa) 2 3 (ak 1 (au #[ag "read",.bI 0 29 [0] aD .bJ])^aa) 3 3 (ak 1 (au #[ag "symbol",.bI 0 29 [0] aD .bJ])^aa)^.dY .JF (ao (ei aq cq) (az aq^aa) aa^az (.lc [] (.fb ay) (.lit (.bool Xg)) (au #[.bI 0 29 [] ae .bJ,.bI 0 29 [] (ai 0 3 ae) .bJ]))^aa)
def VX:N:=ak 1 (.lst 0 #[.bU 7 0 #[.CO 0 ae .yH (aj 63)],aj 0,aj 0,bu (.bU 3 0 #[.bU 9 0 #[.CO 0 ae .yH (aj 63)]]) (aj 1009)])^.ast [2,3] Xg (au #[.lst 1 #[ag []],.TS 2 1 22 0 0])^ak 4 (.fB #[ay,aD,.lst 3 .bJ,.lst 4 .bJ,.lst 5 .bJ,.lst 6 .bJ,.lst 7 .bJ,.lst 8 #[aj 0,aj 0]])^.eH 5 (.yK #[ah (aj 3) (.a_ 118 [0] #[aq,aj 4])]) (aC (.a_ 127 [0,0,0,0,0,0,0,0,0] #[aq,aK])^aa)^ao (bx (.a_ 118 [0] #[aq,aj 4]) (aj 3)) (.eH 6 (.fb (au #[aj 1,aj 22])) (.il 2 (ah (aJ 2 aD b7) (aj 1)) aD b7^aC (.bT 5 0 (aG 0 4 aK) #[au #[au #[ag "label",ah (ah (.bU 5 0 #[b7]) (ag "$")) (.bU 5 0 #[aJ 2 aD b7])],.a_ 119 [1] #[ay,.bU 5 0 #[b7]]]])^aC (.a_ 119 [1] #[ay,ag ":"])^aa)^aa) aa^az (.cmp .Eq 0 1 (.a_ 131 [] #[.bT 1 6 (ag [10]) #[ay]]) (.a_ 130 [] #[aK]))^aa
def DL:List (Option DF):=[.none,W_ d1,W_ d2,W_ d3,W_ d4,.none,.none,W_ d7,W_ d8,W_ d9,W_ d10,W_ d11,.none,.none,W_ d14,W_ d15,W_ d16,W_ d17,W_ d18,W_ d19,W_ d20,W_ d21,W_ d22,W_ d23,W_ d24,.none,W_ d26,W_ d27,.none,W_ d29,W_ d30,.none,W_ d32,W_ d33,.none,.none,.none,W_ d37,.none,W_ d39,W_ d40,W_ d41,W_ d42,W_ d43,W_ d44,W_ d45,W_ d46,W_ d47,W_ d48,W_ d49,W_ d50,W_ d51,W_ d52,W_ d53,W_ d54,W_ d55,.none,.none,W_ d58,W_ d59,W_ d60,W_ d61,W_ d62,W_ d63,W_ d64,W_ d65,.none,W_ d67,W_ d68,W_ d69,W_ d70,W_ d71,.none,W_ d73,W_ d74,W_ d75,W_ d76,.none,W_ d78,.none,W_ d80,W_ d81,W_ d82,W_ d83,W_ d84,W_ d85,W_ d86,W_ d87,W_ d88,W_ d89,W_ d90,W_ d91,W_ d92,W_ d93,W_ d94,W_ d95,W_ d96,W_ d97,W_ d98,W_ d99,W_ Qt,W_ Qs,W_ Qr,W_ Qq,W_ Qp,W_ Qo,W_ Qn,W_ Qm,W_ Ql,W_ Qk,W_ Qj,W_ Qi,W_ Qh,W_ Qg,W_ Qf,W_ Qe,W_ Qd,W_ Qc,W_ Qb,W_ Qa,W_ P_,W_ P',W_ P9,W_ P8,W_ P7,W_ P6,W_ P5,W_ P4,W_ P2,W_ P1,W_ P0,W_ PZ,W_ PY]
def Ck (hd:Bool) (i:Nat) (d:DF) (N:N):Prop:=aF DL i=W_ (W_ d)/\fq N (d.si hd) (.B (yg d.st))=Xg
theorem mc{hd:Bool}{i:Nat}{d:DF}{N:N}(h:aF DL i=W_ (W_ d):=by rfl) (c:fq N (d.si hd) (.B (yg d.st)):=by decide+kernel):Ck hd i d N:=⟨h,c⟩
theorem ck1:Ck Xg 1 d1 n1:=mc
theorem ck2:Ck Xg 2 d2 n2:=mc
theorem ck3:Ck Xg 3 d3 n3:=mc
theorem ck7:Ck Xg 7 d7 n7:=mc
theorem ck8:Ck Xg 8 d8 n8:=mc
theorem ck9:Ck Xg 9 d9 n9:=mc
theorem abM:Ck Xg 10 d10 n10:=mc
theorem abL:Ck Xg 11 d11 n11:=mc
theorem abK:Ck Xg 14 d14 n14:=mc
theorem B2:Ck Xg 15 d15 n15:=mc
theorem QO:Ck Xg 16 d16 n16:=mc
theorem IK:Ck Xg 17 d17 n17:=mc
theorem IJ:Ck Xg 18 d18 n18:=mc
theorem II:Ck Xg 19 d19 n19:=mc
theorem QN:Ck Xg 20 d20 n20:=mc
theorem QM:Ck Xg 21 d21 n21:=mc
theorem B1:Ck Xg 22 d22 n22:=mc
theorem abJ:Ck Xg 23 d23 n23:=mc
theorem B0:Ck Xg 26 d26 n26:=mc
theorem BZ:Ck Xg 27 d27 n27:=mc
theorem ku:Ck Xg 29 d29 n29:=mc
theorem abH:Ck Xg 30 d30 n30:=mc
theorem abG:Ck Xg 32 d32 n32:=mc
theorem abF:Ck Xg 33 d33 n33:=mc
theorem IH:Ck Xg 37 d37 n37:=mc
theorem IF:Ck Xg 39 d39 n39:=mc
theorem BY:Ck Xg 40 d40 n40:=mc
theorem BX:Ck Xg 41 d41 n41:=mc
theorem abE:Ck Xg 42 d42 n42:=mc
theorem abD:Ck Xg 43 d43 n43:=mc
theorem abC:Ck Xg 44 d44 n44:=mc
theorem abB:Ck Xg 45 d45 n45:=mc
theorem BW:Ck Xg 46 d46 n46:=mc
theorem abA:Ck Xg 47 d47 n47:=mc
theorem abz:Ck Xg 48 d48 n48:=mc
theorem aby:Ck Xg 49 d49 n49:=mc
theorem abx:Ck Xg 50 d50 n50:=mc
theorem abw:Ck Xg 51 d51 n51:=mc
theorem x7:Ck Xg 52 d52 n52:=mc
theorem BV:Ck Xg 53 d53 n53:=mc
theorem abv:Ck Xg 54 d54 n54:=mc
theorem abu:Ck Xg 55 d55 n55:=mc
theorem abt:Ck Xg 58 d58 n58:=mc
theorem abr:Ck Xg 59 d59 n59:=mc
theorem abq:Ck Xg 60 d60 n60:=mc
theorem abp:Ck Xg 61 d61 n61:=mc
theorem abo:Ck Xg 62 d62 n62:=mc
theorem QK:Ck Xg 63 d63 n63:=mc
theorem abn:Ck Xg 64 d64 n64:=mc
theorem abm:Ck Xg 65 d65 n65:=mc
theorem abl:Ck Xg 67 d67 n67:=mc
theorem xZ:Ck Xg 68 d68 n68:=mc
theorem abk:Ck Xg 69 d69 n69:=mc
theorem abj:Ck Xg 70 d70 n70:=mc
theorem abi:Ck Xg 71 d71 n71:=mc
theorem abh:Ck Xg 73 d73 n73:=mc
theorem abg:Ck Xg 74 d74 n74:=mc
theorem abf:Ck Xg 75 d75 n75:=mc
theorem QJ:Ck Xg 76 d76 n76:=mc
theorem abe:Ck Xg 78 d78 n78:=mc
theorem QH:Ck Xg 80 d80 n80:=mc
theorem abd:Ck Xg 81 d81 n81:=mc
theorem abc:Ck Xg 82 d82 n82:=mc
theorem abb:Ck Xg 83 d83 n83:=mc
theorem aba:Ck Xg 84 d84 n84:=mc
theorem aa9:Ck Xg 85 d85 n85:=mc
theorem aa8:Ck Xg 86 d86 n86:=mc
theorem aa7:Ck Xg 87 d87 n87:=mc
theorem aa6:Ck Xg 88 d88 n88:=mc
theorem aa5:Ck Xg 89 d89 n89:=mc
theorem IE:Ck Xg 90 d90 n90:=mc
theorem xY:Ck Xg 91 d91 n91:=mc
theorem BU:Ck Xg 92 d92 n92:=mc
theorem aa4:Ck Xg 93 d93 n93:=mc
theorem aa3:Ck Xg 94 d94 n94:=mc
theorem aa2:Ck Xg 95 d95 n95:=mc
theorem aa1:Ck Xg 96 d96 n96:=mc
theorem QG:Ck Xg 97 d97 n97:=mc
theorem aa0:Ck Xg 98 d98 n98:=mc
theorem aaZ:Ck Xg 99 d99 n99:=mc
theorem Rk:Ck Xg 100 Qt Wq:=mc
theorem Rj:Ck Xg 101 Qs GH:=mc
theorem Ri:Ck Xg 102 Qr Wo:=mc
theorem x8:Ck Xg 103 Qq Wn:=mc
theorem Rh:Ck Xg 104 Qp Wm:=mc
theorem Rg:Ck Xg 105 Qo Wl:=mc
theorem Rf:Ck Xg 106 Qn Wj:=mc
theorem Q_:Ck Xg 107 Qm jg:=mc
theorem rg:Ck Xg 108 Ql Wi:=mc
theorem Q9:Ck Xg 109 Qk Wh:=mc
theorem Eg:Ck Xg 110 Qj GG:=mc
theorem Ef:Ck Xg 111 Qi Wg:=mc
theorem Q8:Ck Xg 112 Qh Wf:=mc
theorem Ee:Ck Xg 113 Qg We:=mc
theorem Q7:Ck Xg 114 Qf Wd:=mc
theorem Q6:Ck Xg 115 Qe Wc:=mc
theorem Q5:Ck Xg 116 Qd Wb:=mc
theorem Q4:Ck Xg 117 Qc Wa:=mc
theorem Q3:Ck Xg 118 Qb V_:=mc
theorem Q2:Ck Xg 119 Qa V':=mc
theorem Q1:Ck Xg 120 P_ V9:=mc
theorem Q0:Ck Xg 121 P' V8:=mc
theorem QZ:Ck Xg 122 P9 V7:=mc
theorem QY:Ck Xg 123 P8 V6:=mc
theorem QX:Ck Xg 124 P7 V5:=mc
theorem QV:Ck Xg 125 P6 V4:=mc
theorem QU:Ck Xg 126 P5 V3:=mc
theorem QT:Ck Xg 127 P4 V2:=mc
theorem rf:Ck Xg 128 P2 V1:=mc
theorem QS:Ck Xg 129 P1 V0:=mc
theorem QR:Ck Xg 130 P0 VZ:=mc
theorem QQ:Ck Xg 131 PZ VY:=mc
theorem QP:Ck Xg 132 PY VX:=mc
theorem abI:Ck Xb 2 d2 n2:=mc
theorem QL:Ck Xb 4 d4 n4:=mc
structure aL (u:U):Prop where
 T:Top u
 D:∀i d,aF DL i=W_ (W_ d)->yB u i d
variable{u:U}{hd:Bool}{n:Nat}{vs:aP}{H:Hp}{Q:V->Hp->Prop}{X:di->Hp->Prop}
def DF.fc (d:DF)(vs:aP):List bG:=p_ (vs++d.dv vs.length)++d.pad
noncomputable def DF.ar (d:DF)(vs:aP):Bool:=XU d.np (vs.length+d.df.length)&&XU vs.length d.np
abbrev CL (u:U):Nat->Nat->aP->Hp->(V->Hp->Prop)->(di->Hp->Prop)->Prop:=gr (GX u) Xg
theorem ent (K:aL u){i:Nat}{d:DF}{N:N}(e:Ck hd i d N)
  (h:d.ar vs)
  (w:wp u (eM hd n X) N ⟨H,d.fc vs⟩ (eQ Q)):gr (GX u) hd (n+1) i vs H Q X:=by
 obtain⟨h1,h2⟩:=aH h;exact enter K.T (K.D i d e.1) e.2 (Xi h1) (Xi h2) w
variable{p:Prop}
theorem aW{b:Bool}{q:Prop}(h:b)(w:p):cQ b p q:=by subst h;exact w
theorem bp{b:Bool}{q:Prop}(h:b=Xb)(w:q):cQ b p q:=by subst h;exact w
theorem fO{b:Bool}{q:Prop}(h:b->p)(w:b=Xb->q):cQ b p q:=by cases b;exact w rfl;exact h rfl
inductive Tl{α:Type}(T:List α)(i:Int)(r:List α):Prop|mk(A)(e:T=A++r)(n:i=(A.length:Int))(z:T.length<=16777216)
theorem dz{k d:Nat}(h:k<=n):cf n (W_ (k:Int)) d=k:=by show(max 0 (min (if(k:Int)<0 then(k:Int)+n else k) n)).toNat=k;rw[WZ (ZN.mpr (XO k)),Int.min_eq_left (Yw.mpr h),Int.max_eq_right (XO k)];exact Int.toNat_natCast k
theorem fN{α:Type}{w:List α}{c:α}{i:Int}:i+1+(w.length:Int)=i+((c::w).length:Int):=by rw[Xq,Int.natCast_add,ZH,Int.add_comm 1];rfl
theorem mz{k:Nat}(h:n<=16777216)(hk:k<=n):(k:Int)<4611686018427387904:=YW.mpr (Xz (Xa hk h) ll)
section
variable{α:Type}{T r w:List α}{c:α}{i:Int}
theorem Tl.zero(h:T.length<=16777216):Tl T 0 T:=⟨[],rfl,rfl,h⟩
theorem l5{A:List α}:A.length<(A++c::r).length:=by rw[Xc];exact Nat.lt_add_of_pos_right (Y' _)
theorem Tl.lt (h:Tl T i (c::r)):decide (i<(T.length:Int)):=by obtain⟨A,rfl,rfl,h⟩:=h;exact W4 (YW.mpr l5)
theorem Tl.ge (h:Tl T i []):decide (i<(T.length:Int))=Xb:=by obtain⟨A,rfl,rfl,h⟩:=h;rw[Xr];exact W2 (Int.lt_irrefl _)
theorem r7:∀{A:List α},aF (A++c::r) A.length=W_ c:=by
 intro A;induction A with
 |nil=>
  exact rfl|cons _x A ih=>
  exact ih
theorem Tl.ok (h:Tl T i (c::r)):C0 i:=by obtain⟨A,rfl,rfl,h⟩:=h;exact⟨XO _,mz h (Yv l5)⟩
theorem Tl.idx{k:α->Prop}(h:Tl T i (c::r))(w:k c):ky T i k:=by refine⟨h.ok,c,?_,w⟩;obtain⟨A,rfl,rfl,h⟩:=h;exact r7
theorem Tl.app (h:Tl T i (w++r)):Tl T (i+(w.length:Int)) r:=by obtain⟨A,rfl,rfl,h⟩:=h;exact⟨A++w,(Xf ..).symm,by rw[Xc];rfl,h⟩
theorem Tl.next (h:Tl T i (c::r)):Tl T (i+1) r:=Tl.app (w:=[c]) h
theorem Tl.cut (h:Tl T i (w++r)):cut (W_ i) (W_ (i+(w.length:Int))) T=w:=by
 obtain⟨A,rfl,rfl,h⟩:=h;have e:A.length+w.length<=(A++(w++r)).length:=by rw[Xc,Xc,<-X_];exact Xp ..
 unfold Internal.cut;rw[dz (Xa (Xp ..) e),<-Int.natCast_add,dz e,List.drop_left,ZP,List.take_left]
end
theorem jK(c d:Nat):sEq [c] [d]=XI c d:=Z_ _
noncomputable def cm(a c b:Int):Bool:=match decide (a<=c)with|true=>decide (c<=b)|false=>Xb
variable{r:Bool}{G:Prop}
theorem TU{k:Bool->Prop}{a c b:Int}(h:k (cm a c b||r)) (f:k r->G):cQ (decide (a<=c)) (cQ (j2 .Or (decide (c<=b))) G (k Xg)) (cQ (j2 .Or Xb) G (k Xg)):=by
 unfold cm at h;cases e:decide (a<=c) <;>rw[e]at h
 .exact f h
 .show cQ (!decide (c<=b)) _ _;cases e2:decide (c<=b) <;>rw[e2]at h
  .exact f h
  .exact h
theorem cmZ{k:Bool->Prop}{a c b:Int}(h:k (cm a c b)):cQ (decide (a<=c)) (k (decide (c<=b))) (k Xb):=by unfold cm at h;cases e:decide (a<=c) <;>rw[e]at h<;>exact h
theorem Tq{k:Bool->Prop}{x:Bool}(h:k (x||r))(f:k r->G):cQ (j2 .Or x) G (k Xg):=by
 cases x
 .exact f h
 .exact h
theorem anK{k:Bool->Prop}{x:Bool}(h:k (x&&r))(f:k r->G):cQ (j2 .And x) G (k Xb):=by
 cases x
 .exact h
 .exact f h
def kP(c:Nat):Bool:=cm 48 c 57||(cm 97 c 122||(cm 65 c 90||(sEq [c] "_" ||(sEq [c] "." ||sEq [c] "$"))))
variable{c:Nat}
theorem c45 (K:aL u){b:Bool}(e:kP c=b)(q:Q (.bool b) H):CL u (n+1) 45 [.str [c]] H Q X:=by subst e;refine ent K abB rfl (TU (k:=λb=>Q (.bool b) H) q λq=>TU (k:=λb=>Q (.bool b) H) q λq=>TU (k:=λb=>Q (.bool b) H) q λq=>Tq (k:=λb=>Q (.bool b) H) q λq=>Tq (k:=λb=>Q (.bool b) H) q λq=>q)
variable{l:V}
theorem c62 (K:aL u){a:Addr}{T w r:ax}{i:Int}{at_:V}(t:Tl T i (w++r)) (e:∀c∈w,kP c) (M:∀c∈r.head?,kP c=Xb)
  (q:Q (.int (i+(w.length:Int))) ((a,.inst 0 13 [(14,.str T),(0,l),(3,at_)])::H)):CL u (n+2) 62 [.ref a,.int i] ((a,.inst 0 13 [(14,.str T),(0,l),(3,at_)])::H) Q X:=by
 refine ent K abo rfl λI J=>?_;suffices hs:∀j,Tl T j (w++r)->Q (.int (j+(w.length:Int))) ((a,.inst 0 13 [(14,.str T),(0,l),(3,at_)])::H)->I ⟨((a,.inst 0 13 [(14,.str T),(0,l),(3,at_)])::H),[W_ (.ref a),W_ (.int i),W_ (.int j)]⟩from hs i t q;clear t q;induction w with
 |nil=>
  intro j t q
  rw[Yh,Int.natCast_zero,Zw]at q;refine J _ ⟨rfl,?_⟩
  induction r using Xn with
  |nil=>exact bp t.ge q|cons c r=>exact aW t.lt ⟨rfl,t.idx (c45 K (M _ rfl) q)⟩
 |cons c w ih=>
  intro j t q
  exact J _ ⟨rfl,aW t.lt ⟨rfl,t.idx (c45 K (e _ (.head _)) (ih (λc m=>e c (.tail _ m)) _ t.next (fN.symm▸q)))⟩⟩
variable{k:Addr->Fs->Hp->Prop}
theorem w0 (K:aL u){c:V}(q:∀a,k a [(0,l),(1,c)] H):dk (GX u) Xg (n+2) 0 1 [l,c] H k X:=λa=>ent K ck1 rfl ⟨rfl,rfl,⟨rfl,rfl,rfl⟩,q a⟩
theorem w5 (K:aL u){x:V}(q:∀a,k a [(4,.str "number"),(5,x)] H):dk (GX u) Xg (n+2) 5 7 [x] H k X:=λa=>ent K ck7 rfl ⟨rfl,rfl,⟨rfl,rfl,rfl⟩,q a⟩
theorem w6 (K:aL u){x:V}(q:∀a,k a [(4,.str "symbol"),(6,x)] H):dk (GX u) Xg (n+2) 6 9 [x] H k X:=λa=>ent K ck9 rfl ⟨rfl,rfl,⟨rfl,rfl,rfl⟩,q a⟩
theorem w7 (K:aL u)(q:∀a,k a [(4,.str "here")] H):dk (GX u) Xg (n+2) 7 11 [] H k X:=λa=>ent K abL rfl ⟨rfl,⟨rfl,rfl,rfl⟩,q a⟩
theorem w9 (K:aL u){s r:V}(q:∀a,k a [(4,.str "binary"),(7,s),(9,l),(10,r)] H):dk (GX u) Xg (n+2) 9 14 [s,l,r] H k X:=λa=>ent K abK rfl ⟨rfl,rfl,rfl,rfl,⟨rfl,rfl,rfl⟩,q a⟩
theorem ze (K:aL u){s r t:V}(q:∀a,k a [(4,s),(14,l),(5,r),(3,t)] H):dk (GX u) Xg (n+2) 12 54 [s,l,r,t] H k X:=λa=>ent K abv rfl ⟨rfl,rfl,rfl,rfl,⟨rfl,rfl,rfl⟩,q a⟩
theorem w13 (K:aL u){t:V}(q:∀a,k a [(14,t),(0,l),(3,.int 0)] H):dk (GX u) Xg (n+2) 13 58 [t,l] H k X:=λa=>ent K abt rfl ⟨rfl,rfl,rfl,⟨rfl,rfl,rfl⟩,q a⟩
theorem Th (K:aL u){t:V}(q:∀a,k a [(15,t),(3,.int 0)] H):dk (GX u) Xg (n+2) 14 70 [t] H k X:=λa=>ent K abj rfl ⟨rfl,rfl,⟨rfl,rfl,rfl⟩,q a⟩
theorem TY (K:aL u){a:Addr}{w t:V}(e:fM 16 (FL c))(h2:fM 3 (FL c))(q:Q .none ((a,.inst 0 c [(16,w),(3,t)])::H)):CL u (n+1) 82 [.ref a,w,t] ((a,.inst 0 c [])::H) Q X:=by refine ent K abc rfl ⟨rfl,?_⟩;refine ow.of e ⟨rfl,ow.of h2 q⟩
theorem Tg (K:aL u){x t:V}(q:∀a,k a [(16,.str "label"),(3,t),(6,x)] H):dk (GX u) Xg (n+3) 16 83 [x,t] H k X:=λa=>ent K abb rfl (TY K rfl rfl ⟨rfl,⟨rfl,rfl,rfl⟩,q a⟩)
theorem w17 (K:aL u){x t:V}(q:∀a,k a [(16,.str "code"),(3,t),(17,x)] H):dk (GX u) Xg (n+3) 17 85 [x,t] H k X:=λa=>ent K aa9 rfl (TY K rfl rfl ⟨rfl,⟨rfl,rfl,rfl⟩,q a⟩)
variable{y:V}
theorem zd (K:aL u){x t:V}(q:∀a,k a [(16,.str "deed"),(3,t),(18,x),(19,y)] H):dk (GX u) Xg (n+3) 18 87 [x,y,t] H k X:=λa=>ent K aa7 rfl (TY K rfl rfl ⟨rfl,rfl,⟨rfl,rfl,rfl⟩,q a⟩)
theorem w19 (K:aL u){x t:V}(q:∀a,k a [(16,.str "equate"),(3,t),(6,x),(20,y)] H):dk (GX u) Xg (n+3) 19 89 [x,y,t] H k X:=λa=>ent K aa5 rfl (TY K rfl rfl ⟨rfl,rfl,⟨rfl,rfl,rfl⟩,q a⟩)
theorem x3 (K:aL u){w t:V}{k:Fs->Hp->Prop}(e:mM c)(h2:fM 2 (FL c))(h3:fM 3 (FL c))(q:k [(2,w),(3,t)] H):o4 (GX u) Xg (n+2) c 3 [w,t] H k X:=λa=>by exact ent K ck3 rfl ⟨rfl,e,rfl,ow.of h2 ⟨rfl,ow.of h3 ⟨⟨rfl,rfl,rfl⟩,q⟩⟩⟩
variable{b z:Bool}{c:Nat}
noncomputable def LR(a:Addr)(T:ax)(l i:Int):Addr×MO:=(a,.inst 0 13 [(14,.str T),(0,.int l),(3,.int i)])
noncomputable def PL(l c:Int):V:=.obj 0 [(0,.int l),(1,.int c)]
noncomputable def TK(k w:ax)(v p:V):V:=.obj 12 [(4,.str k),(14,.str w),(5,v),(3,p)]
theorem cmI{a c b:Int}{A B:Prop}(h:cm a c b->A) (f:cm a c b=Xb->B):cQ (decide (a<=c)) (cQ (decide (c<=b)) A B) (cQ Xb A B):=by
 unfold cm at h f;cases e:decide (a<=c) <;>rw[e]at h f
 .exact f rfl
 .exact fO (b:=decide (c<=b)) (λq=>h q) λq=>f q
def lh(c:Nat):Int:=match cm 48 c 57 with|true=>(c:Int) -48|false=>match cm 97 c 102 with|true=>(c:Int) -87|false=>match cm 65 c 70 with|true=>(c:Int) -55|false=>16
theorem fW (K:aL u){d:Int}(e:lh c=d)(q:Q (.int d) H):CL u (n+1) 42 [.str [c]] H Q X:=by
 subst e;unfold lh at q;refine ent K abE rfl (cmI (λh=>?_) λh=>cmI (λh'=>?_) λh'=>cmI (λJ=>?_) λJ=>?_)
 .rw[h]at q;exact q
 .rw[h,h']at q;exact q
 .rw[h,h',J]at q;exact q
 .rw[h,h',J]at q;exact q
def leS(c:Nat):Bool:=cm 97 c 122||cm 65 c 90
theorem c43 (K:aL u)(e:leS c=b)(q:Q (.bool b) H):CL u (n+1) 43 [.str [c]] H Q X:=by subst e;refine ent K abD rfl (TU (k:=λb=>Q (.bool b) H) q λq=>cmZ (k:=λb=>Q (.bool b) H) q)
def Ep(c:Nat):Bool:=leS c||(sEq [c] "_" ||sEq [c] ".")
theorem Rq (K:aL u)(e:Ep c=b)(q:Q (.bool b) H):CL u (n+2) 44 [.str [c]] H Q X:=by subst e;exact ent K abC rfl (c43 K rfl (Tq (k:=λb=>Q (.bool b) H) q λq=>Tq (k:=λb=>Q (.bool b) H) q λq=>q))
variable{a:Addr}{T w r:ax}{l i j:Int}
theorem IQ (K:aL u) (q:Q (PL l (i+1)) (LR a T l j::H)):CL u (n+3) 59 [.ref a,.int i] (LR a T l j::H) Q X:=
 ent K abr rfl ⟨rfl,w0 K λW=>q⟩
theorem JG (K:aL u) (t:Tl T i (w++r)) (q:Q (.str w) (LR a T l (i+w.length)::H)):CL u (n+1) 61 [.ref a,.int (i+w.length)] (LR a T l i::H) Q X:=by refine ent K abp rfl ⟨rfl,rfl,rfl,?_⟩;show PA (.tup [.str (cut (W_ i) (W_ (i+(w.length:Int))) T)]) Q _;rw[t.cut];exact q
def j8(c:Nat):Bool:=sEq " " [c] ||(sEq [9] [c] ||(sEq [13] [c] ||false))
def dnS:ax->Bool|[]=>Xg|c::_=>sEq [c] "#"
theorem c60 (K:aL u) (t:Tl T i (w++r)) (J:∀c∈w,j8 c) (O:∀c∈r.head?,j8 c=Xb) (e:dnS r=b) (q:Q (.bool b) (LR a T l (i+w.length)::H)):CL u (n+1) 60 [.ref a] (LR a T l i::H) Q X:=by
 subst e;refine ent K abq rfl λI M=>?_;suffices hs:∀j,Tl T j (w++r)->Q (.bool (dnS r)) (LR a T l (j+w.length)::H)->I ⟨LR a T l j::H,[W_ (.ref a)]⟩from hs i t q;clear t q;induction w with
 |nil=>
  intro j t q
  rw[Yh,Int.natCast_zero,Zw]at q;refine M _ ⟨rfl,rfl,?_⟩
  induction r using Xn with
  |nil=>exact bp t.ge ⟨rfl,rfl,bp (b:=!decide ((T.length:Int)<=j)) (by rw[W4 (ZN.mp (W7 t.ge))];rfl) q⟩|cons c r=>exact aW t.lt ⟨rfl,rfl,t.idx (bp (O _ rfl) ⟨rfl,rfl,aW (b:=!decide ((T.length:Int)<=j)) (by rw[W2 (Int.not_le.mpr (W3 t.lt))];rfl) ⟨rfl,rfl,t.idx q⟩⟩)⟩
 |cons c w ih=>
  intro j t q
  exact M _ ⟨rfl,rfl,aW t.lt ⟨rfl,rfl,t.idx (aW (J _ (.head _)) ⟨rfl,rfl,ih (λc m=>J c (.tail _ m)) _ t.next (fN.symm▸q)⟩)⟩⟩
variable{α:Type}{W:TF}
theorem forM{f:α->V}{asg:V->St->(St->Prop)->Prop}{k:V->St->Prop}(P:List α->St->Prop)(h0:∀σ,P [] σ->k .none σ)
  (h1:∀a l (F:St->Prop),(∀σ,P l σ->F σ)-> ∀σ,P (a::l) σ->asg (f a) σ λσ'=>W σ' (Pm k F)):∀{l:List α}{σ:St},P l σ->forL asg W (l.map f) σ k:=by
 intro l;induction l with
 |nil=>
  intro σ h;exact h0 σ h|cons a l ih=>
  intro σ h;exact h1 a l _ (λC h=>ih h) σ h
theorem dr{a b:Int}(J:a.natAbs<=1000000) (e:b.natAbs<=1000000):IntMulOk a b:=
 IntMulOk.of_le (m:=101) (n:=101) (intBits_le_iff.mpr (Xz J ll)) (intBits_le_iff.mpr (Xz e ll)) ll
noncomputable def Fz:Int->ax->Int|x,[]=>x|x,c::w=>Fz (x*10+lh c) w
noncomputable def rM:Int->ax->Bool|_,[]=>Xg|x,c::w=>cm 48 c 57&&decide (x.natAbs<=1000)&&rM (x*10+lh c) w
theorem C1{x:Int}(h:rM x (c::w)):(cm 48 c 57/\decide (x.natAbs<=1000)=Xg)/\rM (x*10+lh c) w:=aH h|>.imp_left aH
def hdD:ax->Bool|[]=>Xb|[_]=>Xg|c::_::_=>!sEq [c] "0"
def DW(w:ax)(v:Int):Bool:=rM 0 w&&decide (Fz 0 w=v)&&hdD w&&decide (0<=v)&&XU w.length 100
theorem Ik:∀n:Fin 300,DW (dec (n.val:Int)) n.val:=by decide+kernel
theorem aaU (w:List α):cut (W_ 0) Xk w=w:=by have e:cf w.length (W_ ((0:Nat):Int)) 0=0:=dz (Ye _);show(w.drop (cf w.length (W_ ((0:Nat):Int)) 0)).take (w.length-cf w.length (W_ ((0:Nat):Int)) 0)=w;rw[e,List.drop_zero,Nat.sub_zero,Z3]
theorem PX (h:cm 48 c 57):decide (10<=lh c)=Xb:=by
 unfold lh;rw[h];unfold cm at h;split at h
 .have:=W3 h;exact W2 (by show ¬10<=(c:Int) -48;lia)
 .exact ff h
variable{P:V->St->Prop}{C:St}
theorem Sh{x:Bool}(R:P (.bool Xb) C) (h:x->P (.bool Xb) C->W C P):cQ (j2 .And x) (W C P) (P (.bool (Ig .And)) C):=by
 cases x
 .exact R
 .exact h rfl R
theorem AK{b:Bool}(h:b=z)(R:P (.bool z) C):P (.bool b) C:=h▸R
variable{v:Int}
theorem c52 (K:aL u) (h:DW w v) (q:Q (.int v) H):CL u (n+2) 52 [.str w] H Q X:=by
 unfold DW at h;simp only[XS]at h;obtain⟨⟨⟨⟨h1,h2⟩,h3⟩,-⟩,h4⟩:=h;obtain rfl:=W3 h2;refine ent K x7 rfl (Sh (bp (b:=decide ((0:Int)=(w.length:Int))) ?_ ?_) λJ R=>?_)
 .induction w using Xn with|nil=>exact ff h3|cons c w=>exact W2 (by rw[Xq];exact λe=>by lia)
 .show forL (n6 4) _ (List.map (λc=>V.str [c]) (cut (W_ 0) Xk w)) _ _;rw[aaU];refine forM (λw' C=>∃x y z,C=⟨H,[W_ (.str w),W_ (.int 10),W_ (.int 0),W_ (.int x),y,z]⟩ /\rM x w'=Xg/\Q (.int (Fz x w')) H) ?_ ?_ ⟨0,Xk,Xk,rfl,h1,q⟩
  .rintro _ ⟨x,y,z,rfl,-,q⟩;exact q
  .rintro c w' F M _ ⟨x,y,z,rfl,h,q⟩;obtain⟨⟨a1,a2⟩,a3⟩:=C1 h;exact fW K rfl (bp (PX a1) ⟨dr (Xa (W3 a2) ll) ll,M _ ⟨_,_,_,rfl,a3,q⟩⟩)
 .induction w using Xn with|nil=>exact ff h3|cons c w=>refine AK ?_ R;induction w using Xn with|nil=>exact Bool.noConfusion (show Xb=Xg from J)|cons=>exact(XR _).mp h3
theorem abT (K:aL u)(h:w= "1b" \/w= "1f" \/w= "22b" \/w= "22f")(q:Q (.int (-1)) H):CL u (n+2) 52 [.str w] H Q X:=by
 rcases h with rfl|rfl|rfl|rfl
 .exact ent K x7 rfl (fW K rfl ⟨dr ll ll,fW K rfl q⟩)
 .exact ent K x7 rfl (fW K rfl ⟨dr ll ll,fW K rfl q⟩)
 .exact ent K x7 rfl (fW K rfl ⟨dr ll ll,fW K rfl ⟨dr ll ll,fW K rfl q⟩⟩)
 .exact ent K x7 rfl (fW K rfl ⟨dr ll ll,fW K rfl ⟨dr ll ll,fW K rfl q⟩⟩)
noncomputable def lZ(k:Bool)(f:Bool):ax:=(match k with|false=>"1"|true=>"22")++[match f with|false=>98|true=>102]
noncomputable def fV(k:Bool):Int:=match k with|false=>1|true=>22
variable{f:Bool}
theorem c53 (K:aL u){k:Bool}(q:Q (.int (fV k)) H):CL u (n+2) 53 [.str (lZ k f)] H Q X:=by
 cases k<;>cases f
 .exact ent K BV rfl ⟨98,rfl,fW K rfl ⟨dr ll ll,fW K rfl q⟩⟩
 .exact ent K BV rfl ⟨102,rfl,⟨102,rfl,fW K rfl ⟨dr ll ll,fW K rfl q⟩⟩⟩
 .exact ent K BV rfl ⟨98,rfl,fW K rfl ⟨dr ll ll,fW K rfl (fW K rfl ⟨dr ll ll,fW K rfl q⟩)⟩⟩
 .exact ent K BV rfl ⟨102,rfl,⟨102,rfl,fW K rfl ⟨dr ll ll,fW K rfl (fW K rfl ⟨dr ll ll,fW K rfl q⟩)⟩⟩⟩
inductive adw(w:ax)(v:Int):Prop|mk(h0:∀c∈w,kP c)(h1:0<=v)(c:Nat)(w':ax)(e:w=c::w')(h:cm 48 c 57)
theorem qU (h:DW w v):adw w v:=by
 unfold DW at h;simp only[XS]at h;obtain⟨⟨⟨⟨h1,h2⟩,h3⟩,h4⟩,-⟩:=h;have key:∀{w:ax}{x:Int},rM x w-> ∀c∈w,cm 48 c 57:=by
  intro w;induction w with|nil=>exact λW W m=>nomatch m|cons d w ih=>
   intro x h c m;have h:=C1 h;rcases Xv.mp m with rfl|m
   .exact h.1.1
   .exact ih h.2 c m
 induction w using Xn with|nil=>exact ff h3|cons c w=>exact⟨λc m=>by unfold kP;rw[key h1 c m];rfl,W3 h4,c,w,rfl,key h1 c (.head _)⟩
theorem c63 (K:aL u) (t:Tl T i (w++r)) (h:DW w v) (e:v<=1000000) (J:∀c∈r.head?,kP c=Xb)
  (q:Q (TK "number" w (.int v) (PL l (i+1))) (LR a T l (i+w.length)::H)):CL u (n+4) 63 [.ref a] (LR a T l i::H) Q X:=by
 obtain⟨h1,h2,-⟩:=qU h;exact ent K QK rfl ⟨rfl,rfl,IQ K ⟨rfl,rfl,rfl,c62 K t h1 J (JG K t (c52 K h (bp (W2 (U6 e rfl)) (aW (W4 h2) (ze K λW=>q)))))⟩⟩
theorem abQ (K:aL u){k:Bool}(t:Tl T i (lZ k f++r)) (e:∀c∈r.head?,kP c=Xb)
  (q:Q (TK "local" (lZ k f) (.int (fV k)) (PL l (i+1))) (LR a T l (i+(lZ k f).length)::H)):CL u (n+4) 63 [.ref a] (LR a T l i::H) Q X:=by
 have h1:∀c∈lZ k f,kP c:=by cases k<;>cases f<;>decide
 refine ent K QK rfl ⟨rfl,rfl,IQ K ⟨rfl,rfl,rfl,c62 K t h1 e (JG K t (abT K ?_ (c53 K (aW ?_ (ze K λW=>q)))))⟩⟩
 .cases k<;>cases f
  .exact .inl rfl
  .exact .inr (.inl rfl)
  .exact .inr (.inr (.inl rfl))
  .exact .inr (.inr (.inr rfl))
 .cases k<;>rfl
theorem Tl.le{T r:List α}{c:α}{i:Int}(h:Tl T i (c::r)):decide ((T.length:Int)<=i)=Xb:=W2 (Int.not_le.mpr (W3 h.lt))
theorem Tl.le0{T:List α}{i:Int}(h:Tl T i []):decide ((T.length:Int)<=i):=W4 (ZN.mp (W7 h.ge))
theorem dI{l:List α}{k:Nat}{v:α}{P:α->Prop}(h:XU k 1000) (e:aF l k=W_ v) (w:P v):ky l (k:Int) P:=⟨⟨XO _,mz (Xa (Xi h) ll) (Xh _)⟩,v,e,w⟩
set_option genCtorIdx false in
inductive QI|p(c:Nat)|a|m|z|q|n
noncomputable def QI.ctorIdx (x:QI):Nat:=@QI.casesOn (λW=>Nat) x (λW=>0) 1 2 3 4 5
noncomputable def QI.tx:QI->ax|.p c=>[c]|.a=>"\\101"|.m=>"\\377"|.z=>"\\0"|.q=>"\\\""|.n=>"\\n"
noncomputable def QI.vl:QI->Nat|.p c=>c|.a=>65|.m=>255|.z=>0|.q=>34|.n=>10
theorem i1:i+1<i+4:=by lia
theorem i2:i+1+1<i+4:=by lia
theorem i3:i+1+1+1<i+4:=by lia
theorem i4: ¬i+1+1+1+1<i+4:=by lia
theorem e2:i+1+1=i+2:=MS rfl
theorem e4:i+1+1+1+1=i+4:=by lia
theorem Nq (K:aL u){c1 c2 c3:Nat}(t:Tl T i (92::c1::c2::c3::r)) (h1:decide (lh c1<8)) (h2:decide (lh c2<8)) (h3:decide (lh c3<8))
  (U:(0*8+lh c1).natAbs<=1000000) (O:((0*8+lh c1) *8+lh c2).natAbs<=1000000) (e:Y5 (((0*8+lh c1) *8+lh c2) *8+lh c3) 256=v)
  (q:Q (.tup [.int v,.int (i+4)]) H):CL u (n+2) 46 [.str T,.int i] H Q X:=by
 have t1:=t.next;have t2:=t1.next;have J:=t2.next;have V:=J.next;subst e;refine ent K BW rfl (bp t1.le (t1.idx (fW K rfl (aW h1 λI M=>M _ (aW t1.lt (aW (W4 i1) (t1.idx (fW K rfl (aW h1 ⟨dr ll ll,t1.idx (fW K rfl (M _ ?_))⟩)))))))));refine aW t2.lt (aW (W4 i2) (t2.idx (fW K rfl (aW h2 ⟨dr U ll,t2.idx (fW K rfl (M _ ?_))⟩))));refine aW J.lt (aW (W4 i3) (J.idx (fW K rfl (aW h3 ⟨dr O ll,J.idx (fW K rfl (M _ ?_))⟩))));refine Sh (W:=wp u _ _) ⟨by decide,?_⟩ λC R=>bp (W2 i4) R;rw[e4];exact q
theorem VH (K:aL u) (t:Tl T i (92::48::34::r)) (q:Q (.tup [.int 0,.int (i+2)]) H):CL u (n+2) 46 [.str T,.int i] H Q X:=by have t1:=t.next;have t2:=t1.next;refine ent K BW rfl (bp t1.le (t1.idx (fW K rfl λI e=>e _ (aW t1.lt (aW (W4 i1) (t1.idx (fW K rfl ⟨dr ll ll,t1.idx (fW K rfl (e _ ?_))⟩)))))));refine aW t2.lt (aW (W4 i2) (t2.idx (fW K rfl ⟨by decide,?_⟩)));rw[e2];exact q
theorem aaM (K:aL u)(t:Tl T i (92::34::r))(q:Q (.tup [.int 34,.int (i+2)]) H):CL u (n+2) 46 [.str T,.int i] H Q X:=by have t1:=t.next;refine ent K BW rfl (bp t1.le (t1.idx (fW K rfl ?_)));refine⟨ll,dI rfl rfl (dI rfl rfl (dI rfl rfl (dI rfl rfl (dI rfl rfl (dI rfl rfl (dI rfl rfl ?_))))))⟩;exact q
theorem aaN (K:aL u)(t:Tl T i (92::110::r))(q:Q (.tup [.int 10,.int (i+2)]) H):CL u (n+2) 46 [.str T,.int i] H Q X:=by have t1:=t.next;refine ent K BW rfl (bp t1.le (t1.idx (fW K rfl ?_)));refine⟨ll,dI rfl rfl (dI rfl rfl (dI rfl rfl (dI rfl rfl ?_)))⟩;exact q
theorem c46 (K:aL u){x:QI}(M:∀c,x≠.p c)(t:Tl T i (x.tx++r))(J:x=.z-> ∃e,r=34::e)(q:Q (.tup [.int x.vl,.int (i+x.tx.length)]) H):CL u (n+2) 46 [.str T,.int i] H Q X:=by
 induction x with|p c=>exact W5 rfl (M c)|a=>exact Nq K t rfl rfl rfl ll ll rfl q|m=>exact Nq K t rfl rfl rfl ll ll rfl q|z=>obtain⟨e,rfl⟩:=J rfl;exact VH K t q|q=>exact aaM K t q|n=>exact aaN K t q
theorem i5:i+2+1=i+3:=MS rfl
theorem c47 (K:aL u) (t:Tl T i (39::65::39::r)) (q:Q (.tup [.int 65,.int (i+3)]) H):CL u (n+2) 47 [.str T,.int i] H Q X:=by have t1:=t.next;have t2:Tl T (i+2) (39::r):=e2▸t1.next;rw[<-i5]at q;exact ent K abA rfl (aW (b:=!decide ((T.length:Int)<=i+1)) (by rw[t1.le];rfl) (t1.idx (t1.idx (t1.idx (aW t2.lt (t2.idx q))))))
theorem Oh{i:Int}:i+1+(w.length:Int)=i+((c::w).length:Int):=fN
def d5(l:List QI):ax:=match l with|[]=>[]|x::l=>x.tx++d5 l
noncomputable def js(l:List QI):ax:=match l with|[]=>[]|x::l=>x.vl::js l
def VE(c:Nat):Bool:=XU 32 c&&XU c 126&&!sEq [c] [34]&&!sEq [c] [92]&&!sEq [c] [10]
noncomputable def sW(l:List QI):Bool:=match l with|[]=>Xg|.p c::l=>VE c&&sW l|.z::l=>(match l with|[]=>Xg|_=>Xb)|_::l=>sW l
theorem qf{x:QI}{l:List QI}:d5 (x::l)++34::r=x.tx++(d5 l++34::r):=Xf ..
theorem CY{x:QI}{l:List QI}(h:sW (x::l))(e:x=.z):∃J,d5 l++34::r=34::J:=by subst e;induction l using Xn with|nil=>exact⟨r,rfl⟩|cons=>exact ff h
theorem qm{x:QI}{l:List QI}(h:sW (x::l)):sW l:=by
 induction x with
 |p c=>exact(aH h).2|z=>induction l using Xn with|nil=>rfl|cons=>exact ff h
 |_=>exact h
theorem wZ{x:QI}(h:∀c,x≠.p c):∃w,x.tx=92::w:=by cases x<;>first|exact W5 rfl (h _)|exact⟨_,rfl⟩
inductive ac4(c:Nat):Prop|mk(h0:(sEq [c] [34]=Xb/\sEq [c] [92]=Xb/\sEq [c] [10]=Xb))(h1:(32<=c/\c<=126))
theorem CZ(h:VE c):ac4 c:=by unfold VE at h;simp only[XS,XR]at h;exact⟨⟨h.1.1.2,h.1.2,h.2⟩,Xi h.1.1.1.1,Xi h.1.1.1.2⟩
theorem len_app{i:Int}{a b:ax}:i+(a.length:Int)+(b.length:Int)=i+((a++b).length:Int):=by rw[Xc,Int.natCast_add,ZH]
theorem c48 (K:aL u){s:List QI}(t:Tl T i (34::(d5 s++34::r))) (h:sW s) (q:Q (.int (i+1+((d5 s).length:Int)+1)) H):CL u (n+3) 48 [.str T,.int i] H Q X:=by
 refine ent K abz rfl λI O=>?_;suffices hs:∀j,Tl T j (d5 s++34::r)->Q (.int (j+((d5 s).length:Int)+1)) H->I ⟨H,[W_ (.str T),W_ (.int i),W_ (.int j)]⟩from hs _ t.next q;clear t q;induction s with
 |nil=>
  intro j t q;rw[show((d5 []).length:Int)=0 from rfl,Zw]at q;exact O _ (aW (Tl.lt t) (Tl.idx t (Tl.idx t q)))|cons x s ih=>
  intro j t q;by_cases U:∃c,x=.p c
  .obtain⟨c,rfl⟩:=U;have t:Tl T j (c::(d5 s++34::r)):=t;obtain⟨⟨Y,e2,V⟩,-⟩:=CZ (aH h).1;exact O _ (aW t.lt (t.idx (aW (b:=!sEq [c] [10]) (by rw[V];rfl) (t.idx (bp Y (t.idx (bp e2 (ih (qm h) _ t.next (Oh (c:=c).symm▸q)))))))))
  .have J:∀c,x≠.p c:=λc e=>U ⟨c,e⟩;obtain⟨w,e⟩:=wZ J;have M:Tl T j (92::(w++(d5 s++34::r))):=by rw[qf,e]at t;exact t
   rw[qf]at t;refine O _ (aW M.lt (M.idx (M.idx (M.idx (c46 K J t (CY h) (ih (qm h) _ t.app ?_))))));rw[len_app];exact q
theorem c64 (K:aL u) (t:Tl T i (39::65::39::r)) (q:Q (TK "number" "'A'" (.int 65) (PL l (i+1))) (LR a T l (i+3)::H)):CL u (n+4) 64 [.ref a] (LR a T l i::H) Q X:=
 ent K abn rfl ⟨rfl,rfl,IQ K ⟨rfl,rfl,c47 K t ⟨rfl,JG K (w:="'A'") t (ze K λW=>q)⟩⟩⟩
theorem abS (K:aL u) (t:Tl T i (w++r)) (e:i+(w.length:Int)=j) (q:Q (.str w) (LR a T l j::H)):CL u (n+1) 61 [.ref a,.int j] (LR a T l i::H) Q X:=by subst e;exact JG K t q
theorem K4{x:QI}(h:∀c,x≠.p c):x.vl<=255:=by cases x<;>first|exact W5 rfl (h _)|decide
theorem c9 (h:32<=c/\c<=126):(decide ((c:Int)=9)=Xb/\decide ((c:Int)<32)=Xb)/\decide (126<(c:Int))=Xb:=⟨⟨W2 (by lia),W2 (MN h rfl)⟩,W2 (MP h rfl)⟩
theorem Eh(h:c<=255):0<=(c:Int)/\(c:Int)<=1114111:=⟨XO c,MW h rfl⟩
theorem c65 (K:aL u){s:List QI}(t:Tl T i (34::(d5 s++34::r))) (h:sW s) (hz:(js s).length<=100)
  (q:Q (TK "text" (34::(d5 s++[34])) (.str (js s)) (PL l (i+1))) (LR a T l (i+((34::(d5 s++[34])).length:Int))::H)):CL u (n+4) 65 [.ref a] (LR a T l i::H) Q X:=by
 refine ent K abm rfl ⟨rfl,rfl,IQ K ⟨rfl,λI Z=>?_⟩⟩;have fin:Tl T (i+1+((d5 s).length:Int)) (34::r):=(t.next).app
 have M:i+1+((d5 s).length:Int)+1=i+((34::(d5 s++[34])).length:Int):=by rw[fN (c:=34),ZH,Xq,Xq,Xc];rfl
 have tq:Tl T i ((34::(d5 s++[34]))++r):=by rw[YK,Xf];exact t
 suffices hs:∀(s':List QI) (acc:ax) (j:Int) (x y:bG),Tl T j (d5 s'++34::r)->sW s'->acc++js s'=js s->j+((d5 s').length:Int)=i+1+((d5 s).length:Int)->I ⟨LR a T l i::H,[W_ (.ref a),W_ (PL l (i+1)),W_ (.str acc),W_ (.int j),x,y]⟩from hs s [] _ _ _ t.next h rfl rfl
 intro s'
 induction s' with
 |nil=>
  intro acc j x y t _ U e2;rw[show((d5 []).length:Int)=0 from rfl,Zw]at e2;obtain rfl:=e2;rw[show js []=[]from rfl,Xr]at U;subst U;have t:Tl T _ (34::r):=t;refine Z _ ⟨rfl,aW t.lt ⟨rfl,t.idx ⟨rfl,bp t.le ?_⟩⟩⟩;rw[<-M]at q;exact⟨rfl,abS K tq M.symm (ze K λW=>q)⟩|cons x s' ih=>
  intro acc j x1 y1 t Y U e2;have hl:acc.length+1<=100:=by
   have:=WX List.length U
   rw[Xc,show(js (x::s')).length=(js s').length+1 from rfl]at this
   exact bB (Xm (kg this hz) (Xh 1)) rfl
  have O:acc++[x.vl]++js s'=js s:=by rw[Xf];exact U
  by_cases hx:∃c,x=.p c
  .obtain⟨c,rfl⟩:=hx
   have t:Tl T j (c::(d5 s'++34::r)):=t;obtain⟨⟨f1,f2,f3⟩,f4⟩:=CZ (aH Y).1;obtain⟨⟨g1,g2⟩,g3⟩:=c9 f4;refine Z _ ⟨rfl,aW t.lt ⟨rfl,t.idx (aW (b:=!sEq [c] [34]) (by rw[f1];rfl) ⟨rfl,t.idx ⟨rfl,t.idx (bp f2 ?_)⟩⟩)⟩⟩;refine aW (b:=!decide ((c:Int)=9)) (by rw[g1];rfl) (aW (b:=!decide ((c:Int)<32)) (by rw[g2];rfl) (bp g3 ⟨Eh (Xa f4.2 ll),?_,?_⟩))
   .exact Xa hl ll
   .exact ih _ _ _ _ t.next (qm Y) O ((Oh (c:=c)).trans e2)
  .have J:∀c,x≠.p c:=λc e=>hx ⟨c,e⟩
   obtain⟨w,e⟩:=wZ J
   have V:Tl T j (92::(w++(d5 s'++34::r))):=by rw[qf,e]at t;exact t
   rw[qf]at t
   refine Z _ ⟨rfl,aW V.lt ⟨rfl,V.idx ⟨rfl,V.idx ⟨rfl,V.idx ⟨rfl,c46 K J t (CY Y) ⟨Eh (K4 J),?_,?_⟩⟩⟩⟩⟩⟩
   .exact Xa hl ll
   .exact ih _ _ _ _ t.app (qm Y) O (len_app.trans e2)
def To(c:Nat):Bool:=!(Yt ⟨"+-*/%&|^~!()[],:$=<>".toArray⟩ ⟨[c].toArray⟩ 0 20 1).isEmpty&&!XI c 60&&!XI c 62&&!Ep c&&!sEq [c] "'"&&!sEq [c] [34]&&!sEq [c] "%"&&!decide (lh c<10)&&!j8 c&&!sEq [c] "#"
theorem ug(h:To c):((!(Yt ⟨"+-*/%&|^~!()[],:$=<>".toArray⟩ ⟨[c].toArray⟩ 0 20 1).isEmpty)/\XI c 60=Xb/\XI c 62=Xb)/\(Ep c=Xb/\sEq [c] "'"=Xb/\sEq [c] [34]=Xb/\sEq [c] "%"=Xb/\decide (lh c<10)=Xb)/\j8 c=Xb/\sEq [c] "#"=Xb:=by unfold To at h;simp only[XS,XR]at h;obtain⟨⟨⟨⟨⟨⟨⟨⟨⟨h1,h2⟩,h3⟩,h4⟩,U⟩,O⟩,M⟩,K⟩,J⟩,e⟩:=h;exact⟨⟨by rw[h1];rfl,h2,h3⟩,⟨h4,U,O,M,K⟩,J,e⟩
theorem sr{k d:Nat}(h:n<=k):cf n (W_ (k:Int)) d=n:=by have e:cf n (W_ (k:Int)) d=(max 0 (min (k:Int) n)).toNat:=rfl;rw[e,Int.min_eq_right (Yw.mpr h)];exact Int.toNat_natCast n
theorem Tl.aaT (t:Tl T i (c::r)):∃x,Internal.cut (W_ i) (W_ (i+2)) T=c::x:=by obtain⟨A,rfl,rfl,h⟩:=t;unfold Internal.cut;rw[dz (Yv l5),List.drop_left];have e:(A++c::r).length=A.length+(r.length+1):=Xc;induction r using Xn with|nil=>rw[show cf (A++[c]).length (W_ ((A.length:Int)+2)) _=(A++[c]).length from sr (k:=A.length+2) (by rw[e];exact Yl _),e,ZP];exact⟨_,rfl⟩|cons d r=>rw[show cf (A++c::d::r).length (W_ ((A.length:Int)+2)) _=A.length+2 from dz (k:=A.length+2) (by rw[e];exact XF (Zc ..) _),ZP];exact⟨_,rfl⟩
theorem c67 (K:aL u) (t:Tl T i (c::r)) (h:To c) (q:Q (TK "sign" [c] (.str [c]) (PL l (i+1))) (LR a T l (i+1)::H)):CL u (n+4) 67 [.ref a] (LR a T l i::H) Q X:=by obtain⟨⟨h1,h2,h3⟩,-⟩:=ug h;obtain⟨x,e⟩:=t.aaT;refine ent K abl rfl ⟨rfl,rfl,IQ K ⟨rfl,rfl,t.idx (bp (b:=!(!(Yt ⟨"+-*/%&|^~!()[],:$=<>".toArray⟩ ⟨[c].toArray⟩ 0 20 1).isEmpty)) (by rw[h1];rfl) ⟨rfl,rfl,rfl,rfl,?_⟩)⟩⟩;refine aW (b:=!sEq (cut (W_ i) (W_ (i+2)) T) "<<") (by rw[e];show(!(XI c 60&&_))=Xg;rw[h2];rfl) (bp (b:=sEq (cut (W_ i) (W_ (i+2)) T) ">>") (by rw[e];show(XI c 62&&_)=Xb;rw[h3];rfl) ⟨rfl,JG K (w:=[c]) t (ze K λW=>q)⟩)
set_option genCtorIdx false in
inductive Lx|nm(w:ax)|nu(w:ax)(v:Int)|lo(k f:Bool)|ch|qu(s:List QI)|sg(c:Nat)
noncomputable def Lx.ctorIdx (x:Lx):Nat:=@Lx.casesOn (λW=>Nat) x (λW=>0) (λW W=>1) (λW W=>2) 3 (λW=>4) (λW=>5)
def Lx.tx:Lx->ax|.nm w=>w|.nu w _=>w|.lo k f=>lZ k f|.ch=>"'A'"|.qu s=>34::(d5 s++[34])|.sg c=>[c]
def Lx.tk (p:V):Lx->V|.nm w=>TK "name" w (.str w) p|.nu w v=>TK "number" w (.int v) p|.lo k f=>TK "local" (lZ k f) (.int (fV k)) p|.ch=>TK "number" "'A'" (.int 65) p|.qu s=>TK "text" (34::(d5 s++[34])) (.str (js s)) p|.sg c=>TK "sign" [c] (.str [c]) p
def Lx.ok:Lx->Bool|.nm w=>(match w with|[]=>Xb|c::_=>Ep c)&&w.all kP|.nu w v=>DW w v&&decide (v<=1000000)|.lo _ _=>Xg|.ch=>Xg|.qu s=>sW s&&XU (js s).length 100|.sg c=>To c
def Lx.stop(r:ax):Lx->Bool|.nm _=>r.head?.all λc=>!kP c|.nu _ _=>r.head?.all λc=>!kP c|.lo _ _=>r.head?.all λc=>!kP c|_=>Xg
theorem tY(h:(r.head?.all λc=>!kP c)=Xg):∀c∈r.head?,kP c=Xb:=by intro c m;induction r using Xn with|nil=>exact gG m|cons d r=>cases m;exact(XR _).mp h
theorem aaR:∀k,k<10->Ep (48+k)=Xb/\decide (lh (48+k)<10)/\j8 (48+k)=Xb/\sEq [48+k] "#"=Xb:=by decide
theorem It (h:cm 48 c 57):Ep c=Xb/\decide (lh c<10)/\j8 c=Xb/\sEq [c] "#"=Xb:=by
 unfold cm at h;generalize q:decide ((48:Int)<=c)=e;induction e with|false=>rw[q]at h;exact ff h|true=>rw[q]at h;obtain⟨k,rfl⟩:=Nat.exists_eq_add_of_le (Yw.mp (W3 q));exact aaR k (Nat.lt_of_add_lt_add_left (Nat.lt_succ_of_le (Yw.mp (W3 h))))
theorem Dk(k f:Bool):∃c w',lZ k f=c::w'/\cm 48 c 57:=by cases k<;>cases f<;>exact⟨_,_,rfl,by decide⟩
theorem c68 (K:aL u){x:Lx}(t:Tl T i (x.tx++r)) (h:x.ok) (hs:x.stop r) (q:Q (x.tk (PL l (i+1))) (LR a T l (i+(x.tx.length:Int))::H)):CL u (n+5) 68 [.ref a] (LR a T l i::H) Q X:=by
 have num:∀{c:Nat}{w':ax}{v:V}{H2:Hp},Tl T i (c::w')->cm 48 c 57->(∀{Q':V->Hp->Prop}{X':di->Hp->Prop},Q' v (H2++H)->CL u (n+4) 63 [.ref a] (LR a T l i::H) Q' X')->(∃e,H2=[e] /\Q v (e::H))->CL u (n+5) 68 [.ref a] (LR a T l i::H) Q X:=λt M w ⟨e,h2,q⟩=>by subst h2;obtain⟨h1,h2,-⟩:=It M;exact ent K xZ rfl ⟨rfl,rfl,t.idx (Rq K h1 (fW K rfl (aW h2 ⟨rfl,w q⟩)))⟩
 induction x with
 |nm w=>
  induction w using Xn with|nil=>exact ff h|cons c w=>obtain⟨h1,h2⟩:=aH h;have J:Tl T i (c::(w++r)):=t;exact ent K xZ rfl ⟨rfl,rfl,J.idx (Rq K h1 ⟨rfl,rfl,IQ K ⟨rfl,rfl,rfl,c62 K t (XM.mp h2) (tY hs) (JG K t (ze K λW=>q))⟩⟩)⟩
 |nu w v=>
  obtain⟨h1,h2⟩:=aH h;obtain⟨-,-,c,w',e,M⟩:=qU h1;exact num (c:=c) (w':=w'++r) (by have t:=t;rw[show Lx.tx (.nu w v)=w from rfl,e]at t;exact t) M (λq=>c63 K t h1 (W3 h2) (tY hs) q) ⟨_,rfl,q⟩|lo k f=>
  obtain⟨c,w',e,M⟩:=Dk k f;exact num (c:=c) (w':=w'++r) (by have t:=t;rw[show Lx.tx (.lo k f)=lZ k f from rfl,e]at t;exact t) M (λq=>abQ K t (tY hs) q) ⟨_,rfl,q⟩|ch=>exact ent K xZ rfl ⟨rfl,rfl,Tl.idx t (Rq K rfl (fW K rfl ⟨rfl,c64 K t q⟩))⟩|qu s=>
  obtain⟨h1,h2⟩:=aH h;have J:Tl T i (34::(d5 s++34::r)):=by have t:=t;rw[show Lx.tx (.qu s)=34::(d5 s++[34])from rfl,YK,Xf]at t;exact t
  exact ent K xZ rfl ⟨rfl,rfl,J.idx (Rq K rfl (fW K rfl ⟨rfl,c65 K J h1 (Xi h2) q⟩))⟩|sg c=>
  obtain⟨-,⟨h4,Z,Y,U,O⟩,-⟩:=ug h;have J:Tl T i (c::r):=t;exact ent K xZ rfl ⟨rfl,rfl,J.idx (Rq K h4 (fW K rfl (bp O (bp Z (bp Y (bp U ⟨rfl,c67 K J h q⟩))))))⟩
noncomputable def yJ:List (ax×Lx)->ax->ax|[],s=>s|x::m,s=>x.1++(x.2.tx++yJ m s)
noncomputable def Dl (l:Int):Int->List (ax×Lx)->aP|_,[]=>[]|j,x::m=>x.2.tk (PL l (j+(x.1.length:Int)+1))::Dl l (j+(x.1.length:Int)+(x.2.tx.length:Int)) m
noncomputable def vM:List (ax×Lx)->ax->Bool|[],_=>Xg|x::m,s=>x.1.all j8&&x.2.ok&&x.2.stop (yJ m s)&&vM m s
def EN (l e:Int):V:=TK "end" [] (.str []) (PL l (e+1))
theorem Ny (h:Ep c):j8 c=Xb/\sEq [c] "#"=Xb:=by
 have key:∀d∈ " \t\r#",Ep d=Xb:=by decide
 have ne:∀d∈ " \t\r#",¬c=d:=λd m e=>by rw[e,key d m]at h;exact ff h
 refine⟨?_,by rw[jK];exact ib (ne 35 (by decide))⟩;unfold j8;rw[jK,jK,jK,ib (Zb (ne 32 (by decide))),ib (Zb (ne 9 (by decide))),ib (Zb (ne 13 (by decide)))];rfl
theorem Pa{x:Lx}(h:x.ok):∃c w,x.tx=c::w/\j8 c=Xb/\sEq [c] "#"=Xb:=by
 induction x with
 |nm w=>
  induction w using Xn with
  |nil=>exact ff h|cons c w=>exact⟨c,w,rfl,Ny (aH h).1⟩
 |nu w v=>
  obtain⟨-,-,c,w',e,J⟩:=qU (aH h).1;exact⟨c,w',e,(It J).2.2⟩|lo k f=>
  obtain⟨c,w',e,J⟩:=Dk k f;exact⟨c,w',e,(It J).2.2⟩|ch=>exact⟨_,_,rfl,rfl,rfl⟩|qu s=>exact⟨_,_,rfl,rfl,rfl⟩|sg c=>exact⟨c,[],rfl,(ug h).2.2⟩
theorem c69 (K:aL u){m:List (ax×Lx)}{s:ax}(e:T=yJ m (w++s)) (hT:T.length<=16777216) (h:vM m (w++s)) (Z:∀c∈w,j8 c) (hs:s=[] \/ ∃s',s=35::s') (hm:m.length<=1000)
  (q:∀e,Q (.lst (Dl l 0 m++[EN l e])) H):CL u (n+6) 69 [.str T,.int l] H Q X:=by
 have O:(∀c∈s.head?,j8 c=Xb)/\dnS s:=by
  rcases hs with rfl|⟨s',rfl⟩
  .exact⟨λc m=>(nomatch m),rfl⟩
  .exact⟨λc m=>by cases m;rfl,rfl⟩
 refine ent K abk rfl (w13 K λa A I U=>?_);suffices hs:∀(m':List (ax×Lx)) (acc:aP) (j:Int),Tl T j (yJ m' (w++s))->vM m' (w++s)->acc++Dl l j m'=Dl l 0 m->acc.length+m'.length<=1000->I ⟨LR a T l j::(A,.list acc)::H,[W_ (.str T),W_ (.int l),W_ (.ref a),W_ (.ref A)]⟩from hs m [] 0 (by subst e;exact Tl.zero hT) h rfl (by rw[Yh,X7];exact hm);intro m';induction m' with
 |nil=>
  intro acc j t _ M J;rw[show Dl l j []=[]from rfl,Xr]at M;subst M;refine U _ ⟨rfl,c60 K (w:=w) t Z O.1 O.2 ⟨⟨rfl,Xu⟩,rfl,rfl,IQ K (ze K λW=>⟨rfl,?_,⟨rfl,⟨rfl,q _⟩⟩⟩)⟩⟩;exact Xz J ll|cons x m' ih=>
  intro acc j t ho M J;have b3:_/\_:=aH ho;have b2:_/\_:=aH b3.1;have b1:_/\_:=aH b2.1;have o1:=b1.1;have o2:=b1.2;have Y:=b2.2;have V:=b3.2;have t:Tl T j (x.1++(x.2.tx++yJ m' (w++s))):=t;obtain⟨c,v,e,f1,f2⟩:=Pa o2;refine U _ ⟨rfl,c60 K (b:=Xb) t (XM.mp o1) (λd m=>by rw[e]at m;cases m;exact f1) (by rw[e];exact f2) ⟨⟨rfl,Xu⟩,rfl,c68 K t.app o2 Y ⟨rfl,?_,?_⟩⟩⟩
  .exact Xz (Xa (Xp ..) J) ll
  .exact ih _ _ t.app.app V (by rw[Xf];exact M) (by rw[Xc];rw[Xq]at J;show acc.length+1+m'.length<=1000;exact zF J)
theorem nt{b:Bool}(h:b=Xb):(!b):=by rw[h];rfl
theorem nf{b:Bool}(h:b):(!b)=Xb:=by rw[h];rfl
theorem c49 (K:aL u) (t:Tl T i (w++r)) (J:∀c∈w,sEq [c] [10]=Xb) (M:r=[] \/ ∃s,r=10::s) (q:Q (.int (i+(w.length:Int))) H):CL u (n+1) 49 [.str T,.int i] H Q X:=by
 refine ent K aby rfl λI e=>?_;suffices hs:∀j,Tl T j (w++r)->Q (.int (j+(w.length:Int))) H->I ⟨H,[W_ (.str T),W_ (.int i),W_ (.int j)]⟩from hs i t q;clear t q;induction w with
 |nil=>
  intro j t q;rw[Yh,Int.natCast_zero,Zw]at q;rcases M with rfl|⟨s,rfl⟩
  .exact e _ (bp t.ge q)
  .exact e _ (aW t.lt (Tl.idx t q))|cons c w ih=>
  intro j t q;exact e _ (aW t.lt (t.idx (aW (nt (J _ (.head _))) (ih (λc m=>J c (.tail _ m)) _ t.next (fN.symm▸q)))))
set_option genCtorIdx false in
inductive Sg|pl(c:Nat)|ch|qu(s:List QI)
noncomputable def Sg.ctorIdx (x:Sg):Nat:=@Sg.casesOn (λW=>Nat) x (λW=>0) 1 (λW=>2)
def Sg.tx:Sg->ax|.pl c=>[c]|.ch=>"'A'"|.qu s=>34::(d5 s++[34])
def Gs(c:Nat):Bool:=!sEq [c] [10]&&!sEq [c] ";"&&!sEq [c] "#"&&!sEq [c] [34]&&!sEq [c] "'"
def Sg.ok:Sg->Bool|.pl c=>Gs c|.ch=>Xg|.qu s=>sW s
noncomputable def fz:List Sg->ax|[]=>[]|x::s=>x.tx++fz s
inductive ac1(c:Nat):Prop|mk(h0:sEq [c] [10]=Xb)(h1:sEq [c] ";"=Xb)(h2:sEq [c] "#"=Xb)(h3:sEq [c] [34]=Xb)(h4:sEq [c] "'"=Xb)
theorem Nk(h:Gs c):ac1 c:=by unfold Gs at h;simp only[XS,XR]at h;exact⟨h.1.1.1.1,h.1.1.1.2,h.1.1.2,h.1.2,h.2⟩
def Ju:ax->Bool|[]=>Xg|c::w=>sEq [c] "#"&&w.all λc=>!sEq [c] [10]
def enP(cm r:ax):Prop:=r=[] \/ (∃s,r=10::s) \/ (cm=[] /\ ∃s,r=59::s)
theorem c50 (K:aL u){s:List Sg}{cm:ax}(t:Tl T i (fz s++(cm++r))) (hs:s.all Sg.ok) (U:Ju cm) (M:enP cm r) (q:Q (.int (i+(((fz s++cm).length:Nat):Int))) H):CL u (n+4) 50 [.str T,.int i] H Q X:=by
 refine ent K abx rfl λI J=>?_;suffices hs:∀j,Tl T j (fz s++(cm++r))->Q (.int (j+(((fz s++cm).length:Nat):Int))) H->I ⟨H,[W_ (.str T),W_ (.int i),W_ (.int j)]⟩from hs i t q;clear t q;have fin:∀j,Tl T j r->Q (.int j) H->I ⟨H,[W_ (.str T),W_ (.int i),W_ (.int j)]⟩:=by
  intro j t q;rcases M with rfl|⟨s,rfl⟩|⟨-,s,rfl⟩
  .exact J _ (bp t.ge q)
  .exact J _ (aW t.lt (t.idx q))
  .exact J _ (aW t.lt (t.idx (t.idx q)))
 induction s with
 |nil=>
  intro j t q
  induction cm using Xn with|nil=>
   rw[show(((fz []++[]:ax).length:Nat):Int)=0 from rfl,Zw]at q;exact fin j t q|cons d cm=>
   have t:Tl T j (d::(cm++r)):=t;obtain⟨h1,h2⟩:=aH U;have e:d=35:=XJ (by rw[<-jK];exact h1);subst e;have O:∀c∈35::cm,sEq [c] [10]=Xb:=λc m=>by
    rcases Xv.mp m with rfl|m
    .rfl
    .exact(XR _).mp (XM.mp h2 c m)
   refine J _ (aW t.lt (t.idx (t.idx (t.idx (c49 K (w:=35::cm) t O ?_ (fin _ (Tl.app (w:=35::cm) t) q))))));rcases M with h|h|⟨h,-⟩
   .exact .inl h
   .exact .inr h
   .cases h|cons x s ih=>
  intro j t q;obtain⟨h1,h2⟩:=aH hs;have t:Tl T j (x.tx++(fz s++(cm++r))):=by have t:=t;rw[show fz (x::s)=x.tx++fz s from rfl,Xf]at t;exact t
  have q:Q (.int (j+(x.tx.length:Int)+(((fz s++cm).length:Nat):Int))) H:=by rw[len_app,<-Xf];exact q
  have nx:=ih h2 _ t.app q;induction x with|pl c=>
   obtain⟨Z,e2,Y,e4,V⟩:=Nk h1;have t:Tl T j (c::(fz s++(cm++r))):=t;exact J _ (aW t.lt (t.idx (aW (nt Z) (t.idx (aW (nt e2) (t.idx (bp Y (t.idx (bp e4 (t.idx (bp V nx)))))))))))|ch=>
   have t:Tl T j (39::65::39::(fz s++(cm++r))):=t;exact J _ (aW t.lt (t.idx (t.idx (t.idx (t.idx (t.idx (c47 K t nx)))))))|qu y=>
   have t:Tl T j (34::(d5 y++34::(fz s++(cm++r)))):=by have t:=t;rw[show Sg.tx (.qu y)=34::(d5 y++[34])from rfl,YK,Xf]at t;exact t
   refine J _ (aW t.lt (t.idx (t.idx (t.idx (t.idx (c48 K t h1 ?_))))));have e:j+1+((d5 y).length:Int)+1=j+((Sg.tx (.qu y)).length:Int):=by show _=j+((34::(d5 y++[34])).length:Int);rw[fN (c:=34),ZH,Xq,Xq,Xc];rfl
   rw[e];exact nx
structure Pc where
 s:List Sg
 cm:ax
def Pc.tx(p:Pc):ax:=fz p.s++p.cm
def Pc.ok(p:Pc)(nl:Bool):Bool:=p.s.all Sg.ok&&Ju p.cm&&(nl||p.cm.isEmpty)
noncomputable def zL(b:Bool):Nat:=match b with|true=>10|false=>59
noncomputable def j0:List (Pc×Bool)->Pc->ax|[],z=>z.tx|x::d,z=>x.1.tx++zL x.2::j0 d z
def xI (l:Int)(o:Nat)(p:Pc):V:=.tup [.int l,.str (Yc o 32++p.tx)]
noncomputable def kq:Int->Nat->List (Pc×Bool)->Pc->aP|l,o,[],z=>[xI l o z]|l,o,x::d,z=>xI l o x.1::(match x.2 with|true=>kq (l+1) 0 d z|false=>kq l (o+x.1.tx.length+1) d z)
theorem CV{n:Int}{m:Nat}(e:n=(m:Int)) (h:m<=16777216):(MulOk ⟨" ".toArray⟩ n/\(Txt.mul ⟨" ".toArray⟩ n).length<=16777216)/\(Txt.mul ⟨" ".toArray⟩ n).cps.toList=Yc m 32:=by subst e;exact⟨⟨mulOk_of 1 m (Xh _) (Int.le_refl _) (by have:=XO m;lia) h (by rw[Nat.one_mul];exact h),len_mul_one (c:=32) rfl (Yw.mpr h)⟩,(mul_one_list 32 _).trans (by rw[Int.toNat_natCast])⟩
theorem Tl.bd (t:Tl T i (w++r)):0<=i/\i+(w.length:Int)<=16777216:=by obtain⟨A,rfl,rfl,h⟩:=t;rw[Xc,Xc]at h;exact⟨MY,U5 h⟩
theorem c51 (K:aL u){d:List (Pc×Bool)}{z:Pc}(hT:T.length<=16777216) (e:T=j0 d z) (hd:d.all (λx=>x.1.ok x.2)=Xg) (hz:z.ok Xg) (Y:d.length<=1000)
  (q:Q (.lst (kq 1 0 d z)) H):CL u (n+5) 51 [.str T] H Q X:=by
 refine ent K abw rfl λA I hI=>?_;suffices hs:∀(d:List (Pc×Bool)) (acc:aP) (line U J:Int) (M:Nat) (x:bG),Tl T J (j0 d z)->J=U+M->0<=U->d.all (λx=>x.1.ok x.2)->acc.length+d.length<=1000->Q (.lst (acc++kq line M d z)) H->I ⟨(A,.list acc)::H,[W_ (.str T),W_ (.ref A),W_ (.int line),W_ (.int U),W_ (.int J),x]⟩from hs d [] 1 0 0 0 Xk (by subst e;exact Tl.zero hT) rfl (Int.le_refl _) hd (by rw[Yh,X7];exact Y) q;clear q e hd Y
 intro d
 induction d with
 |nil=>
  intro acc line U J M x t Z e2 _ Y q
  have t:Tl T J (z.tx++[]):=by rw[Xr];exact t
  have hz':=hz
  unfold Pc.ok at hz'
  obtain⟨⟨z1,z2⟩,-⟩:(z.s.all Sg.ok=Xg/\Ju z.cm=Xg)/\_=Xg:=by simpa only[XS] using hz'
  have tb:=t.bd
  obtain⟨m1,m2⟩:=CV (n:=J-U) (m:=M) (MU Z) (M4 Z e2 tb)
  have t2:Tl T J (fz z.s++(z.cm++[])):=by rw[<-Xf];exact t
  have lb:M+z.tx.length<=16777216:=Gi Z e2 tb
  refine hI _ (c50 K t2 z1 z2 (.inl rfl) ⟨⟨rfl,Xu⟩,m1,?_,rfl,?_,aW (Tl.le0 (t.app)) ?_⟩)
  .show _+(cut (W_ J) (W_ (J+(z.tx.length:Int))) T).length<=16777216
   rw[m2,t.cut,Zg]
   exact lb
  .exact Xz (Xa (Xp ..) Y) ll
  .show ghP _ ⟨(A,.list (acc++[.tup [.int line,.str ((Txt.mul ⟨" ".toArray⟩ (J-U)).cps.toList++cut (W_ J) (W_ (J+(z.tx.length:Int))) T)]]))::H,_⟩ _
   rw[m2,t.cut];exact⟨rfl,q⟩|cons y d ih=>
  intro acc line U J M x t Z e2 hd Y q;obtain⟨p,nl⟩:=y;have O:=hd;rw[List.all_cons,XS]at O;obtain⟨hp,O⟩:=O
  unfold Pc.ok at hp
  obtain⟨⟨z1,z2⟩,z3⟩:(p.s.all Sg.ok=Xg/\Ju p.cm=Xg)/\(nl||p.cm.isEmpty)=Xg:=by simpa only[XS] using hp
  have t:Tl T J (p.tx++zL nl::j0 d z):=t
  have tb:=t.bd
  have t2:Tl T J (fz p.s++(p.cm++zL nl::j0 d z)):=by rw[<-Xf];exact t
  obtain⟨m1,m2⟩:=CV (n:=J-U) (m:=M) (MU Z) (M4 Z e2 tb)
  have lb:M+p.tx.length<=16777216:=Gi Z e2 tb
  have en:enP p.cm (zL nl::j0 d z):=by
   induction nl with
   |true=>exact .inr (.inl ⟨_,rfl⟩)
   |false=>exact .inr (.inr ⟨List.isEmpty_iff.mp z3,_,rfl⟩)
  have hl':acc.length+1+d.length<=1000:=by rw[Xq]at Y;exact zF Y
  have rw1:V.tup [.int line,.str ((Txt.mul ⟨" ".toArray⟩ (J-U)).cps.toList++cut (W_ J) (W_ (J+(p.tx.length:Int))) T)]=xI line M p:=by rw[m2,t.cut];rfl
  refine hI _ (c50 K t2 z1 z2 en ⟨⟨rfl,Xu⟩,m1,?_,rfl,?_,bp (t.app).le ?_⟩)
  .show _+(cut (W_ J) (W_ (J+(p.tx.length:Int))) T).length<=16777216;rw[m2,t.cut,Zg];exact lb
  .exact Xz (Xa (Xp ..) Y) ll
  .induction nl with|true=>
    refine Tl.idx t.app ?_;show I ⟨(A,.list (acc++[.tup [.int line,.str ((Txt.mul ⟨" ".toArray⟩ (J-U)).cps.toList++cut (W_ J) (W_ (J+(p.tx.length:Int))) T)]]))::H,_⟩;rw[rw1];refine ih _ _ _ _ 0 _ t.app.next (by rw[Int.natCast_zero,Zw]) ?_ O (by rw[Xc];exact hl') (by rw[Xf];exact q);exact Y_ tb.1 (Y_ (Int.le_add_of_nonneg_right (XO p.tx.length)) (Int.le_add_of_nonneg_right (by decide)))|false=>
    refine Tl.idx t.app ?_;show I ⟨(A,.list (acc++[.tup [.int line,.str ((Txt.mul ⟨" ".toArray⟩ (J-U)).cps.toList++cut (W_ J) (W_ (J+(p.tx.length:Int))) T)]]))::H,_⟩;rw[rw1];exact ih _ _ _ _ (M+p.tx.length+1) _ t.app.next (by subst Z;rw[Int.natCast_add,Int.natCast_add,<-ZH,<-ZH];rfl) e2 O (by rw[Xc];exact hl') (by rw[Xf];exact q)
variable{T r:aP}{k s:ax}{v p t:V}
def CU(a:Addr)(T:aP)(j:Int):Addr×MO:=(a,.inst 0 14 [(15,.lst T),(3,.int j)])
theorem s9 (K:aL u)(h:Tl T j (t::r))(q:Q t (CU a T j::H)):CL u (n+1) 71 [.ref a] (CU a T j::H) Q X:=
 ent K abi rfl ⟨rfl,rfl,h.idx q⟩
theorem yb (K:aL u) (h:Tl T j (TK k w v p::r)) (e:sEq k "end"=Xb) (q:Q (TK k w v p) (CU a T (j+1)::H)):CL u (n+1) 73 [.ref a] (CU a T j::H) Q X:=
 ent K abh rfl ⟨rfl,rfl,h.idx (aW (nt e) ⟨rfl,rfl,q⟩)⟩
theorem c55 (K:aL u)(e:(sEq k "sign"&&sEq w s)=b)(q:Q (.bool b) H):CL u (n+1) 55 [TK k w v p,.str s] H Q X:=by subst e;exact ent K abu rfl (anK (k:=λb=>Q (.bool b) H) q λq=>q)
theorem c74 (K:aL u) (h:Tl T j (TK k w v p::r)) (e:(sEq k "sign"&&sEq w s)=b) (q:Q (.bool b) (CU a T j::H)):CL u (n+2) 74 [.ref a,.str s] (CU a T j::H) Q X:=
 ent K abg rfl ⟨rfl,rfl,h.idx (c55 K e q)⟩
theorem Ei (K:aL u) (h:Tl T j (TK k w v p::r)) (e:sEq k "end"=b) (q:Q (.bool b) (CU a T j::H)):CL u (n+1) 75 [.ref a] (CU a T j::H) Q X:=by subst e;exact ent K abf rfl ⟨rfl,rfl,h.idx q⟩
theorem Ro (K:aL u) (h:Tl T j (TK k w v p::r)) (e:(sEq k "sign"&&sEq w s)) (q:Q (.bool Xg) (CU a T (j+1)::H)):CL u (n+3) 76 [.ref a,.str s] (CU a T j::H) Q X:=
 ent K QJ rfl ⟨rfl,c74 K h e ⟨rfl,rfl,q⟩⟩
theorem abP (K:aL u) (h:Tl T j (TK k w v p::r)) (e:(sEq k "sign"&&sEq w s)=Xb) (q:Q (.bool Xb) (CU a T j::H)):CL u (n+3) 76 [.ref a,.str s] (CU a T j::H) Q X:=
 ent K QJ rfl ⟨rfl,c74 K h e q⟩
theorem c78 (K:aL u)(h:Tl T j (TK k w v p::r))(e:(sEq k "sign"&&sEq w s))(q:Q .none (CU a T (j+1)::H)):CL u (n+4) 78 [.ref a,.str s] (CU a T j::H) Q X:=
 ent K abe rfl ⟨rfl,Ro K h e q⟩
theorem c80 (K:aL u) (h:Tl T j (TK k w v p::r)) (e:sEq k "name") (q:Q (.str w) (CU a T (j+1)::H)):CL u (n+1) 80 [.ref a] (CU a T j::H) Q X:=
 ent K QH rfl ⟨rfl,rfl,h.idx (bp (nf e) ⟨rfl,rfl,q⟩)⟩
theorem abO (K:aL u) (h:Tl T j (TK k w v p::r)) (e:sEq k "name"=Xb) (q:∀m,X (2,[(2,m),(3,p)]) (CU a T j::H)):CL u (n+3) 80 [.ref a] (CU a T j::H) Q X:=
 ent K QH rfl ⟨rfl,rfl,h.idx (aW (nt e) (x3 K rfl rfl rfl (q _)))⟩
theorem c81 (K:aL u)(h:Tl T j (TK k w v p::r))(q:Q p (CU a T j::H)):CL u (n+1) 81 [.ref a] (CU a T j::H) Q X:=
 ent K abd rfl ⟨rfl,rfl,h.idx q⟩
theorem c97 (K:aL u)(h:Tl T j (TK k w v p::r))(e:sEq k "end")(q:Q .none (CU a T j::H)):CL u (n+2) 97 [.ref a] (CU a T j::H) Q X:=
 ent K QG rfl ⟨rfl,Ei K h e q⟩
theorem Rn (K:aL u) (h:Tl T j (TK k w v p::r)) (e:sEq k "end"=Xb) (q:∀m,X (2,[(2,m),(3,p)]) (CU a T j::H)):CL u (n+3) 97 [.ref a] (CU a T j::H) Q X:=
 ent K QG rfl ⟨rfl,Ei K h e ⟨rfl,c81 K h (x3 K rfl rfl rfl (q _))⟩⟩
set_option genCtorIdx false in
inductive At|num(v:Int)|dot|sym(w:ax)
noncomputable def At.ctorIdx (x:At):Nat:=@At.casesOn (λW=>Nat) x (λW=>0) 1 (λW=>2)
noncomputable def At.obj:At->V|.num v=>.obj 5 [(4,.str "number"),(5,.int v)]|.dot=>.obj 7 [(4,.str "here")]|.sym w=>.obj 6 [(4,.str "symbol"),(6,.str w)]
def JS (t:V):At->Prop|.num v=>∃w p,t=TK "number" w (.int v) p|.dot=>∃p,t=TK "name" "." (.str ".") p|.sym w=>sEq w "."=Xb/\ ∃p,t=TK "name" w (.str w) p
set_option genCtorIdx false in
inductive Ex|at (x:At)|bin(m:Bool)(x y:At)
noncomputable def Ex.ctorIdx (x:Ex):Nat:=@Ex.casesOn (λW=>Nat) x (λW=>0) (λW W W=>1)
noncomputable def sgn(m:Bool):Nat:=match m with|false=>43|true=>45
def Ex.obj:Ex->V|.at x=>x.obj|.bin m x y=>.obj 9 [(4,.str "binary"),(7,.str [sgn m]),(9,x.obj),(10,y.obj)]
def j3(c:Nat)(t:V):Prop:= ∃p,t=TK "sign" [c] (.str [c]) p
inductive Ex1(l:aP)(x:At):Prop|mk(t:V)(e:l=[t])(h:JS t x)
inductive Ex3 (l:aP)(m:Bool)(x y:At):Prop|mk (t s t':V)(e:l=[t,s,t'])(h1:JS t x)(h2:j3 (sgn m) s)(h3:JS t' y)
def jB(l:aP):Ex->Prop|.at x=>Ex1 l x|.bin m x y=>Ex3 l m x y
inductive sM(t:V)(n:ax):Prop|mk(k w:ax)(v p:V)(e:t=TK k w v p)(h:sEq k n=Xb)
def EB(t:V):Prop:=sM t "sign" \/j3 44 t
theorem c17 (K:aL u){m:Bool}(q:Q (.int 1) H):CL u (n+1) 17 [.str [sgn m]] H Q X:=by
 cases m
 .exact ent K IK rfl q
 .exact ent K IK rfl q
theorem ab3 (K:aL u){m:Bool}(h:j3 (sgn m) t)(q:Q (.int 1) H):CL u (n+2) 18 [t] H Q X:=by obtain⟨p,rfl⟩:=h;exact ent K IJ rfl (c17 K q)
theorem c18 (K:aL u)(h:EB t)(q:Q (.int 0) H):CL u (n+2) 18 [t] H Q X:=by
 rcases h with⟨k,w,v,p,rfl,e⟩|⟨p,rfl⟩
 .exact ent K IJ rfl (aW (nt e) q)
 .exact ent K IJ rfl (ent K IK rfl q)
theorem c19 (K:aL u){x:At}(h:Tl T j (t::r))(J:JS t x)(q:Q x.obj (CU a T (j+1)::H)):CL u (n+4) 19 [.ref a,.int 0] (CU a T j::H) Q X:=by
 induction x with|num v=>
  obtain⟨w,p,rfl⟩:=J;exact ent K II rfl ⟨rfl,s9 K h ⟨rfl,yb K h rfl (w5 K λW=>q)⟩⟩|dot=>
  obtain⟨p,rfl⟩:=J;exact ent K II rfl ⟨rfl,s9 K h ⟨rfl,yb K h rfl (w7 K λW=>q)⟩⟩|sym w=>
  obtain⟨e,p,rfl⟩:=J;exact ent K II rfl ⟨rfl,s9 K h ⟨rfl,yb K h rfl (bp e (w6 K λW=>q))⟩⟩
theorem Rt (K:aL u){s:V}{x:At}(J:decide (l<=0)=Xb)(h:Tl T j (t::s::r))(e:JS t x)(hs:EB s)(q:Q x.obj (CU a T (j+1)::H)):CL u (n+5) 20 [.ref a,.int l,.int 0] (CU a T j::H) Q X:=
 ent K QN rfl (c19 K h e ⟨rfl,s9 K h.next (c18 K hs λI M=>M _ (bp J q))⟩)
theorem TZ (K:aL u){x:Ex}{l:aP}(h:Tl T j (l++t::r))(J:jB l x)(M:EB t)(q:Q x.obj (CU a T (j+(l.length:Int))::H)):CL u (n+7) 21 [.ref a] (CU a T j::H) Q X:=by
 induction x with|«at» x=>
  obtain⟨s,rfl,J⟩:=J;exact ent K QM rfl (Rt K rfl h J M q)|bin m x y=>
  obtain⟨t1,s,t2,rfl,J,hs,U⟩:=J;have h:Tl T j (t1::s::t2::t::r):=h;have e:j+1+1+1=j+(([t1,s,t2]:aP).length:Int):=by show _=j+3;lia
  rw[<-e]at q;refine ent K QM rfl (ent K QN rfl (c19 K h J ⟨rfl,s9 K h.next (ab3 K hs λI O=>O _ ?_)⟩));obtain⟨p,rfl⟩:=hs;exact⟨rfl,yb K h.next rfl (Rt K rfl h.next.next U M (w9 K λW=>⟨rfl,s9 K h.next.next.next (c18 K M (O _ q))⟩))⟩
theorem sC (K:aL u){x:At}(q:Q (.tup [x.obj,.lst []]) H):CL u (n+1) 16 [x.obj] H Q X:=by cases x<;>exact ent K QO rfl λA I e=>e _ ⟨⟨rfl,Xu⟩,rfl,rfl,q⟩
theorem iV (K:aL u){m:Bool}{x y:At}(q:Q (.tup [x.obj,.lst [Ex.obj (.bin m x y)]]) H):CL u (n+1) 16 [Ex.obj (.bin m x y)] H Q X:=by cases x<;>exact ent K QO rfl λA I e=>e _ ⟨⟨rfl,Xu⟩,rfl,ll,e _ ⟨⟨rfl,Xu⟩,rfl,rfl,q⟩⟩
noncomputable def At.hh:At->Bool|.dot=>Xg|_=>Xb
def Ex.hh:Ex->Bool|.at x=>x.hh|.bin _ x y=>x.hh||y.hh
theorem IS (K:aL u){x:At}(q:Q (.bool x.hh) H):CL u (n+2) 41 [x.obj] H Q X:=by cases x<;>exact ent K BX rfl (sC K q)
theorem c41 (K:aL u){x:Ex}(q:Q (.bool x.hh) H):CL u (n+3) 41 [x.obj] H Q X:=by
 induction x with|«at» x=>exact IS K q|bin m x y=>induction x with|dot=>exact ent K BX rfl (iV K q)|num v=>exact ent K BX rfl (iV K (IS K (fO (λh=>by rw[show Ex.hh (.bin m (.num v) y)=y.hh from rfl,h]at q;exact q) λh=>by rw[show Ex.hh (.bin m (.num v) y)=y.hh from rfl,h]at q;exact q)))|sym v=>exact ent K BX rfl (iV K (IS K (fO (λh=>by rw[show Ex.hh (.bin m (.sym v) y)=y.hh from rfl,h]at q;exact q) λh=>by rw[show Ex.hh (.bin m (.sym v) y)=y.hh from rfl,h]at q;exact q)))
noncomputable def At.pin(w:ax):At->At|.dot=>.sym w|x=>x
def Ex.pin (w:ax):Ex->Ex|.at x=>.at (x.pin w)|.bin m x y=>.bin m (x.pin w) (y.pin w)
theorem IP (K:aL u){x:At}(q:Q (x.pin w).obj H):CL u (n+3) 92 [x.obj,.str w] H Q X:=by induction x with|dot=>exact ent K BU rfl (sC K (w6 K λW=>q))|_=>exact ent K BU rfl (sC K q)
theorem c92 (K:aL u){x:Ex}(q:Q (x.pin w).obj H):CL u (n+4) 92 [x.obj,.str w] H Q X:=by
 induction x with|«at» x=>exact IP K q|bin m x y=>induction x with|dot=>exact ent K BU rfl (iV K (w6 K λW=>IP K (w9 K λW=>q)))|_=>exact ent K BU rfl (iV K (IP K (w9 K λW=>q)))
def At.told:At->V|.num v=>.tup [.str "number",.int v]|.dot=>.tup [.str "here"]|.sym w=>.tup [.str "symbol",.str w]
def Ex.told:Ex->V|.at x=>x.told|.bin m x y=>.tup [.str "binary",.str [sgn m],x.told,y.told]
theorem c8 (K:aL u){x:Int}(q:Q (At.num x).told H):CL u (n+1) 8 [(At.num x).obj] H Q X:=ent K ck8 rfl q
theorem JH (K:aL u)(q:Q (At.sym w).told H):CL u (n+1) 10 [(At.sym w).obj] H Q X:=ent K abM rfl q
theorem T_ (K:aL u){m:Bool}{x y:At}(J:x.hh=Xb)(e:y.hh=Xb)(q:Q (Ex.told (.bin m x y)) H):CL u (n+2) 15 [Ex.obj (.bin m x y)] H Q X:=by
 induction x with
 |dot=>exact ft J|num v=>induction y with
  |dot=>exact ft e|num=>exact ent K B2 rfl (iV K (c8 K (c8 K q)))|sym=>exact ent K B2 rfl (iV K (c8 K (JH K q)))
 |sym w=>induction y with|dot=>exact ft e|num=>exact ent K B2 rfl (iV K (JH K (c8 K q)))|sym=>exact ent K B2 rfl (iV K (JH K (JH K q)))
variable{p m:ax}{w x:Int}{kk:Addr->Fs->Hp->Prop}
noncomputable def AF(w:Int)(p m:ax):V:=.obj 10 [(5,.int w),(11,.str p),(12,.str m)]
theorem rv (K:aL u)(e:sEq p m=Xb)(q:∀a,kk a [(5,.int w),(11,.str p),(12,.str m)] H):dk (GX u) Xg (n+2) 10 22 [.int w,.str p,.str m] H kk X:=
 λa=>ent K B1 rfl ⟨rfl,aW (nt e) ⟨rfl,aW (nt e) ⟨rfl,⟨rfl,rfl,rfl⟩,q a⟩⟩⟩
theorem ru (K:aL u)(q:∀a,kk a [(5,.int w),(11,.str []),(12,.str [])] H):dk (GX u) Xg (n+2) 10 22 [.int w,.str [],.str []] H kk X:=
 λa=>ent K B1 rfl ⟨rfl,⟨rfl,⟨rfl,⟨rfl,rfl,rfl⟩,q a⟩⟩⟩
theorem Uq (K:aL u)(q:∀a,kk a [(5,.int w),(11,.str []),(12,.str [])] H):dk (GX u) Xg (n+2) 10 22 [.int w] H kk X:=
 λa=>ent K B1 rfl ⟨rfl,⟨rfl,⟨rfl,⟨rfl,rfl,rfl⟩,q a⟩⟩⟩
theorem zf (K:aL u)(e:sEq p []=Xb)(q:∀a,kk a [(5,.int w),(11,.str p),(12,.str [])] H):dk (GX u) Xg (n+2) 10 22 [.int w,.str p] H kk X:=
 λa=>ent K B1 rfl ⟨rfl,aW (nt e) ⟨rfl,aW (nt e) ⟨rfl,⟨rfl,rfl,rfl⟩,q a⟩⟩⟩
def kl(p m:ax):Bool:=match p,m with|[],[]=>Xg|_,_=>!sEq p m
theorem m8:∀a b:ax,sEq a b=sEq b a
 |[],[]=>rfl|[],_::_=>rfl|_::_,[]=>rfl|a::l,b::r=>by show(XI a b&&sEq l r)=(XI b a&&sEq r l);rw[m8 l r,show XI a b=XI b a from by rw[Bool.eq_iff_iff,Nat.beq_eq,Nat.beq_eq];exact eq_comm]
theorem kO{d:Nat}{m:ax}(h:kl (c::p) (d::m)):sEq (c::p) (d::m)=Xb:=(XR _).mp h
theorem c26 (K:aL u)(h:kl p m)(q:Q (AF (-w) m p) H):CL u (n+3) 26 [AF w p m] H Q X:=by
 induction p using Xn with
 |nil=>induction m using Xn with|nil=>exact ent K B0 rfl (ru K λW=>q)|cons d m=>exact ent K B0 rfl (rv K rfl λW=>q)
 |cons c p=>induction m using Xn with|nil=>exact ent K B0 rfl (rv K rfl λW=>q)|cons d m=>exact ent K B0 rfl (rv K ((m8 _ _).trans (kO h)) λW=>q)
theorem ab0 (K:aL u) (h:kl p m) (q:Q (AF w p m) H):CL u (n+3) 29 [.int w,.lst [.str p,.str []],.lst [.str m,.str []]] H Q X:=by
 induction p using Xn with
 |nil=>induction m using Xn with|nil=>exact ent K ku rfl λA B=>⟨rfl,rfl,rfl,rfl,ru K λW=>q⟩|cons d m=>exact ent K ku rfl λA B=>⟨rfl,⟨rfl,Xu⟩,rfl,ll,rfl,rfl,rfl,rfl,rv K rfl λW=>q⟩
 |cons c p=>induction m using Xn with|nil=>exact ent K ku rfl ⟨ll,λA B=>⟨rfl,rfl,rfl,rfl,rv K rfl λW=>q⟩⟩|cons d m=>exact ent K ku rfl ⟨ll,λA B=>⟨rfl,bp (b:=sEq (c::p) (d::m) ||false) (by rw[kO h];rfl) ⟨⟨rfl,Xu⟩,rfl,ll,rfl,rfl,rfl,rfl,rv K (kO h) λW=>q⟩⟩⟩
theorem abY (K:aL u) (h:kl p m) (q:Q (AF w p m) H):CL u (n+3) 29 [.int w,.lst [.str [],.str p],.lst [.str [],.str m]] H Q X:=by
 induction p using Xn with
 |nil=>induction m using Xn with|nil=>exact ent K ku rfl λA B=>⟨rfl,rfl,rfl,rfl,ru K λW=>q⟩|cons d m=>exact ent K ku rfl λA B=>⟨rfl,⟨rfl,Xu⟩,rfl,ll,rfl,rfl,rfl,rfl,rv K rfl λW=>q⟩
 |cons c p=>induction m using Xn with|nil=>exact ent K ku rfl ⟨ll,λA B=>⟨rfl,rfl,rfl,rfl,rv K rfl λW=>q⟩⟩|cons d m=>exact ent K ku rfl ⟨ll,λA B=>⟨rfl,bp (b:=sEq (c::p) (d::m) ||false) (by rw[kO h];rfl) ⟨⟨rfl,Xu⟩,rfl,ll,rfl,rfl,rfl,rfl,rv K (kO h) λW=>q⟩⟩⟩
variable{d:Addr}
theorem m7(a:ax):sEq a a:=by rw[bH];exact WY a
theorem er1{x:ax}:([x].erase x).map V.str=[]:=by rw[List.erase_cons_head];rfl
theorem ab1 (K:aL u) (q:Q (AF w [] []) H):CL u (n+3) 29 [.int w,.lst [.str (c::p),.str []],.lst [.str [],.str (c::p)]] H Q X:=by refine ent K ku rfl ⟨ll,λA B=>⟨rfl,aW (b:=sEq (c::p) (c::p) ||false) (by rw[m7];rfl) ⟨⟨rfl,Xu⟩,rfl,[c::p],⟨rfl,.head _⟩,?_⟩⟩⟩;rw[er1];exact⟨rfl,rfl,rfl,rfl,ru K λW=>q⟩
theorem abZ (K:aL u){d:Nat}{m:ax}(h:sEq (c::p) (d::m)=Xb) (q:Q (AF w (c::p) (d::m)) H):CL u (n+3) 29 [.int w,.lst [.str (c::p),.str []],.lst [.str [],.str (d::m)]] H Q X:=by exact ent K ku rfl ⟨ll,λA B=>⟨rfl,bp (b:=sEq (c::p) (d::m) ||false) (by rw[h];rfl) ⟨⟨rfl,Xu⟩,rfl,ll,rfl,rfl,rfl,rfl,rv K h λW=>q⟩⟩⟩
theorem ad0 (K:aL u)(h:kl p m)(q:Q (AF (w+x) p m) H):CL u (n+4) 27 [AF w p m,AF x [] []] H Q X:=ent K BZ rfl (ab0 K h q)
theorem ad1 (K:aL u)(h:kl p m)(q:Q (AF (w+x) p m) H):CL u (n+4) 27 [AF w [] [],AF x p m] H Q X:=ent K BZ rfl (abY K h q)
def jP(p m:ax):V:=match sEq p m with|true=>AF 0 [] []|false=>AF 0 p m
theorem adN (K:aL u) (M:sEq p []=Xb) (O:sEq m []=Xb) (q:Q (jP p m) H):CL u (n+4) 27 [AF 0 p [],AF 0 [] m] H Q X:=by
 induction p using Xn with
 |nil=>exact ft M|cons c p=>induction m using Xn with
  |nil=>exact ft O|cons e m=>
   generalize h:sEq (c::p) (e::m)=J;induction J with
   |true=>
    unfold jP at q
    rw[h]at q;have h':c::p=e::m:=by rw[bH]at h;exact W6 h
    rw[<-h']
    exact ent K BZ rfl (ab1 K q)|false=>
    unfold jP at q;rw[h]at q;exact ent K BZ rfl (abZ K h q)
inductive TabAt (T:List (ax×V))(v:V):Prop|mk (w:Int)(p m:ax)(e:v=AF w p m)(h:kl p m)(h1:T.lookup p=Xk)(h2:T.lookup m=Xk)
structure ja (T:List (ax×V)):Prop where
 nil:T.lookup []=Xk
 at_:∀x v,T.lookup x=W_ v->TabAt T v
 len:T.length<=1000
def mh (T:List (ax×V))(x:ax):V:=match T.lookup x with|some v=>v|none=>AF 0 x []
theorem c33 (K:aL u){T:List (ax×V)}{x:ax}(ok:ja T) (Z:sEq x []=Xb) (q:Q (mh T x) ((d,.aU T)::H)):CL u (n+5) 33 [.obj 11 [(13,.ref d)],AF 0 x []] ((d,.aU T)::H) Q X:=by
 have M:T.length<=16777216:=Xa ok.len ll;have J:((T.length:Int)).natAbs<=1000000/\((T.length:Int)+2).natAbs<=1000000:=⟨bB ok.len rfl,bB (Xw ok.len 2) rfl⟩;refine ent K abF rfl ⟨rfl,M,rfl,M,dr J.1 J.2,λI O=>?_⟩;have fin:∀(w:Int) (p m:ax) (j:Int),T.lookup p=Xk->T.lookup m=Xk->Q (AF w p m) ((d,.aU T)::H)->I ⟨(d,.aU T)::H,[W_ (.obj 11 [(13,.ref d)]),W_ (AF 0 x []),W_ (.int j),W_ (AF w p m)]⟩:=λw p m j Y e2 q=>O _ ⟨rfl,aW (b:=!(T.lookup p).isSome) (by rw[Y];rfl) ⟨rfl,bp (b:=(T.lookup m).isSome) (by rw[e2];rfl) q⟩⟩
 unfold mh at q;generalize e:T.lookup x=U;induction U with
 |none=>
  rw[e]at q;exact fin 0 x [] _ e ok.nil q|some v=>
  rw[e]at q;obtain⟨w,p,m,rfl,h1,h2,h3⟩:=ok.at_ x v e;have ne:decide ((T.length:Int) * ((T.length:Int)+2)=0)=Xb:=by
   induction T using Xn with|nil=>exact gG e|cons y T=>exact W2 (λh=>by rw[Xq]at h;rcases Int.mul_eq_zero.mp h with h|h<;>exact Nat.succ_ne_zero _ (Int.ofNat.inj h))
  refine O _ ⟨rfl,bp (b:=!(T.lookup x).isSome) (by rw[e];rfl) (bp ne ⟨rfl,aW (b:=(T.lookup x).isSome) (by rw[e];rfl) (ru K λW=>⟨rfl,_,e,ad1 K h1 ?_⟩)⟩)⟩;exact fin _ p m _ h2 h3 (by rw[Int.zero_add];exact q)
theorem c32 (K:aL u){T:List (ax×V)}{x:ax}(ok:ja T) (e:sEq x []=Xb) (q:Q (mh T x) ((d,.aU T)::H)):CL u (n+6) 32 [.obj 11 [(13,.ref d)],.str x] ((d,.aU T)::H) Q X:=
 ent K abG rfl (zf K e λW=>c33 K ok e q)
variable{h:ax}{E:List (ax×V)}
noncomputable def Nf(m:Bool)(a b:Int):Int:=match m with|false=>a+b|true=>a+ -b
theorem abW (K:aL u){g:Bool}(ok:kl p m)(q:Q (AF (Nf g w x) p m) H):CL u (n+5) 37 [.str [sgn g],AF w p m,AF x [] []] H Q X:=by
 cases g
 .exact ent K IH rfl (ad0 K ok q)
 .exact ent K IH rfl (c26 K rfl (ad0 K ok q))
theorem abV (K:aL u)(J:sEq p []=Xb)(e:sEq m []=Xb)(q:Q (jP p m) H):CL u (n+5) 37 [.str "-",AF 0 p [],AF 0 m []] H Q X:=by refine ent K IH rfl (c26 K ?_ (adN K J e q));induction m using Xn with|nil=>exact ft e|cons=>rfl
def At.val (E:List (ax×V))(h:ax):At->V|.num v=>AF v [] []|.dot=>AF 0 h []|.sym x=>mh E x
def Ex.ev (E:List (ax×V))(h:ax):Ex->V->Prop|.at x,v=>(match x with|.num _=>True|.dot=>sEq h []=Xb|.sym s=>sEq s []=Xb)/\v=x.val E h|.bin g x (.num y),v=>(match x with|.num _=>False|.dot=>sEq h []=Xb|.sym s=>sEq s []=Xb)/\ ∃w p m,x.val E h=AF w p m/\kl p m=Xg/\v=AF (Nf g w y) p m|.bin g x (.sym y),v=>g=Xg/\(match x with|.num _=>False|.dot=>sEq h []=Xb|.sym s=>sEq s []=Xb)/\sEq y []=Xb/\E.lookup y=Xk/\ ∃p,x.val E h=AF 0 p [] /\sEq p []=Xb/\v=jP p y|_,_=>False
abbrev W39 (u:U)(n:Nat)(Q:V->Hp->Prop)(X:di->Hp->Prop)(x:V)(d:Addr)(h:ax)(H:Hp):Prop:=wp u (eM Xg n X) n39 ⟨H,[W_ x,W_ (.obj 11 [(13,.ref d)]),W_ (.str h),Xk,Xk,Xk,Xk]⟩ (eQ Q)
theorem KX (K:aL u){x:At}(ok:ja E) (e:match x with|.num _=>True|.dot=>sEq h []=Xb|.sym s=>sEq s []=Xb) (q:Q (x.val E h) ((d,.aU E)::H)):W39 u (n+6) Q X x.obj d h ((d,.aU E)::H):=by induction x with|num v=>exact sC K (Uq K λW=>q)|dot=>exact sC K (bp e (zf K e λW=>q))|sym s=>exact sC K (c32 K ok e q)
theorem B4 (K:aL u){x:At}(ok:ja E) (e:match x with|.num _=>True|.dot=>sEq h []=Xb|.sym s=>sEq s []=Xb) (q:Q (x.val E h) ((d,.aU E)::H)):CL u (n+7) 39 [x.obj,.obj 11 [(13,.ref d)],.str h] ((d,.aU E)::H) Q X:=
 ent K IF rfl (KX K ok e q)
theorem w39 (K:aL u){x:Ex}(ok:ja E) (e:x.ev E h v) (q:Q v ((d,.aU E)::H)):W39 u (n+7) Q X x.obj d h ((d,.aU E)::H):=by
 induction x with
 |«at» x=>
  obtain⟨h1,rfl⟩:=e
  exact KX K ok h1 q
 |bin g x y=>
  induction y with
  |dot=>exact e.elim|num y=>
   obtain⟨h1,w,p,m,h2,h3,rfl⟩:=e;have fin:∀{Q':V->Hp->Prop}{X':di->Hp->Prop},Q' (AF (Nf g w y) p m) ((d,.aU E)::H)->CL u (n+7) 37 [.str [sgn g],x.val E h,AF y [] []] ((d,.aU E)::H) Q' X':=λq=>by rw[h2];exact abW K h3 q
   induction x with
   |num=>exact h1.elim|dot=>exact(iV K (bp h1 (zf K h1 λW=>B4 K (x:=.num y) ok trivial (fin q))))|sym s=>exact(iV K (c32 K ok h1 (B4 K (x:=.num y) ok trivial (fin q))))
  |sym y=>
   obtain⟨rfl,h1,h2,h3,p,h4,J,rfl⟩:=e
   have fin:∀{Q':V->Hp->Prop}{X':di->Hp->Prop},Q' (jP p y) ((d,.aU E)::H)->CL u (n+7) 37 [.str "-",x.val E h,At.val E h (.sym y)] ((d,.aU E)::H) Q' X':=λq=>by rw[h4,show At.val E h (.sym y)=AF 0 y []from by show mh E y=_;unfold mh;rw[h3]];exact abV K J h2 q
   induction x with|num=>exact h1.elim|dot=>exact(iV K (bp h1 (zf K h1 λW=>B4 K (x:=.sym y) ok h2 (fin q))))|sym s=>exact(iV K (c32 K ok h1 (B4 K (x:=.sym y) ok h2 (fin q))))
theorem c39 (K:aL u){x:Ex}(ok:ja E)(e:x.ev E h v)(q:Q v ((d,.aU E)::H)):CL u (n+8) 39 [x.obj,.obj 11 [(13,.ref d)],.str h] ((d,.aU E)::H) Q X:=
 ent K IF rfl (w39 K ok e q)
theorem abU (K:aL u){x:Ex}(ok:ja E)(e:x.ev E [] v)(q:Q v ((d,.aU E)::H)):CL u (n+8) 39 [x.obj,.obj 11 [(13,.ref d)]] ((d,.aU E)::H) Q X:=
 ent K IF rfl (w39 K ok e q)
theorem w11 (K:aL u){k:Addr->Fs->Hp->Prop}(q:∀a,k a [(13,.ref d)] H):dk (GX u) Xg (n+2) 11 30 [.ref d] H k X:=λa=>ent K abH rfl ⟨⟨rfl,λW e=>nomatch e⟩,rfl,⟨rfl,rfl,rfl⟩,q a⟩
theorem hZ{k:Nat}(h:XU k 1000):k<16777216:=Xz (Xi h) ll
noncomputable def At.lU:At->List ax|.sym w=>[w]|_=>[]
def Ex.lU:Ex->List ax|.at x=>x.lU|.bin _ x y=>x.lU++y.lU
theorem c40 (K:aL u){x:Ex}(U:match x with|.at .dot=>False|.bin _ (.sym _) (.num _)=>True|.bin _ (.sym _) (.sym _)=>True|.at _=>True|_=>False)
  (q:∀M:List ax,(∀w,w∈M↔w∈x.lU)->M.length<=4->Q (.lst (M.map .str)) H):CL u (n+1) 40 [x.obj] H Q X:=by
 have fin:∀ns:List ax,(∀w,w∈ns↔w∈x.lU)->ns.length<=4-> ∃O:List ax,(ns.map V.str=O.map .str/\(ns.map V.str).length<64)/\ ∀M:List ax,M.Perm O->Q (.lst (M.map .str)) H:=λns h1 h2=>⟨ns,⟨rfl,by rw[Xl];exact upl h2 rfl⟩,λM Y=>q M (λw=>Y.mem_iff.trans (h1 w)) (by rw[Y.length_eq];exact h2)⟩
 induction x with
 |«at» x=>induction x with
  |dot=>exact U.elim
  |num v=>exact ent K BY rfl λA B I J=>J _ ⟨rfl,rfl,⟨rfl,Xu⟩,rfl,[],_,rfl,J _ ⟨rfl,rfl,rfl,⟨rfl,fin [] (λW=>Iff.rfl) ll⟩⟩⟩
  |sym w=>exact ent K BY rfl λA B I J=>J _ ⟨rfl,rfl,⟨rfl,Xu⟩,rfl,[],_,rfl,⟨rfl,⟨rfl,Xu⟩,rfl,hZ rfl,J _ ⟨rfl,rfl,rfl,⟨rfl,fin [w] (λW=>Iff.rfl) (XH (Ye _))⟩⟩⟩⟩
 |bin g x y=>induction x with|dot=>exact U.elim|num=>exact U.elim|sym w=>induction y with
   |dot=>exact U.elim
   |num v=>
    refine ent K BY rfl λA B I J=>J _ ⟨rfl,rfl,⟨rfl,Xu⟩,rfl,[],_,rfl,⟨rfl,Xu⟩,rfl,hZ rfl,⟨rfl,Xu⟩,rfl,hZ rfl,J _ ⟨rfl,rfl,⟨rfl,Xu⟩,rfl,[At.obj (.sym w)],_,rfl,J _ ?_⟩⟩
    exact⟨rfl,rfl,⟨rfl,Xu⟩,rfl,[],_,rfl,⟨rfl,⟨rfl,Xu⟩,rfl,hZ rfl,J _ ⟨rfl,rfl,rfl,⟨rfl,fin [w] (λW=>Iff.rfl) (XH (Ye _))⟩⟩⟩⟩|sym w'=>
    refine ent K BY rfl λA B I J=>J _ ⟨rfl,rfl,⟨rfl,Xu⟩,rfl,[],_,rfl,⟨rfl,Xu⟩,rfl,hZ rfl,⟨rfl,Xu⟩,rfl,hZ rfl,J _ ⟨rfl,rfl,⟨rfl,Xu⟩,rfl,[At.obj (.sym w)],_,rfl,⟨rfl,⟨rfl,Xu⟩,rfl,hZ rfl,J _ ⟨rfl,rfl,⟨rfl,Xu⟩,rfl,[],_,rfl,⟨rfl,?_⟩⟩⟩⟩⟩;generalize e:(sEq w' w||false)=Z;induction Z with
    |true=>
     refine bp (b:=!(sEq w' w||false)) (by rw[e];rfl) (J _ ⟨rfl,rfl,rfl,⟨rfl,fin [w'] (λx=>?_) (XH (Ye _))⟩⟩)
     have e:w'=w:=by rw[Z',bH]at e;exact W6 e
     subst e;show x∈[w'] ↔x∈[w']++[w'];simp|false=>
     refine aW (b:=!(sEq w' w||false)) (by rw[e];rfl) ⟨⟨rfl,Xu⟩,rfl,hZ rfl,J _ ⟨rfl,rfl,rfl,⟨rfl,fin [w',w] (λx=>?_) (XH (XH (Ye _)))⟩⟩⟩;show x∈[w',w] ↔x∈[w]++[w'];rw[Yk,Xv,Xs,Xs];exact Or.comm
structure Pt where
 l:Int
 c:Int
def Pt.obj(p:Pt):V:=PL p.l p.c
set_option genCtorIdx false in
inductive Arg|e(x:Ex)|y(b:List UInt8)|s(w:ax)
noncomputable def Arg.ctorIdx (x:Arg):Nat:=@Arg.casesOn (λW=>Nat) x (λW=>0) (λW=>1) (λW=>2)
def Arg.obj:Arg->V|.e x=>x.obj|.y b=>.bytes b|.s w=>.str w
set_option genCtorIdx false in
inductive SE|dm(w:ax)(p:Pt)|code(p:Pt)|bF(w:ax)(l:List Arg)(p:Pt)|gZ(w:ax)(x:Ex)(p:Pt)
noncomputable def SE.ctorIdx (x:SE):Nat:=@SE.casesOn (λW=>Nat) x (λW W=>0) (λW=>1) (λW W W=>2) (λW W W=>3)
def SE.obj:SE->V|.dm w p=>.obj 16 [(16,.str "label"),(3,p.obj),(6,.str w)]|.code _=>.none|.bF w l p=>.obj 18 [(16,.str "deed"),(3,p.obj),(18,.str w),(19,.lst (l.map Arg.obj))]|.gZ w x p=>.obj 19 [(16,.str "equate"),(3,p.obj),(6,.str w),(20,x.obj)]
structure AE where
 k:Bool
 n:Nat
 p:Pt
structure QE where
 w:ax
 x:Ex
 p:Pt
structure WE where
 i:Nat
 x:Ex
 s:Nat
 p:Pt
 eV:Option Pt
structure GS where
 c1:Nat
 c2:Nat
 aw:List AE
 eq:List QE
 st:List SE
 wt:List WE
 dw:Nat
 eO:Nat
noncomputable def GS.cn(g:GS)(k:Bool):Nat:=match k with|false=>g.c1|true=>g.c2
def AE.row (a:AE):V:=.tup [.int (fV a.k),.int a.n,a.p.obj]
def QE.row(a:QE):V:=.tup [.str a.w,a.x.obj,a.p.obj]
structure RA where
 s:Addr
 st:Addr
 wt:Addr
 eq:Addr
 ct:Addr
 aw:Addr
 rd:V
structure cE (D:List (Int×V))(c1 c2:Nat):Prop where
 h1:(D.lookup 1).getD (.int 0)=.int c1
 h2:(D.lookup 22).getD (.int 0)=.int c2
 len:D.length<=c1+c2
noncomputable def rA(A:RA)(g:GS):Addr×MO:=(A.s,.inst 0 20 [(21,.int 5000),(22,A.rd),(23,.int g.eO),(24,.ref A.st),(25,.ref A.wt),(13,.ref A.eq),(26,.ref A.ct),(27,.ref A.aw),(28,.int g.dw)])
def bD (A:RA)(g:GS)(rows:aP)(D:List (Int×V))(H:Hp):Hp:=
 rA A g::(A.st,.list (g.st.map SE.obj))::(A.wt,.list rows)::(A.eq,.list (g.eq.map QE.row))::(A.ct,.bz D)::(A.aw,.list (g.aw.map AE.row))::H
def dR (k:Bool)(n:Nat):ax:=dec (fV k)++"$"++dec (n:Int)
noncomputable def GS.put(g:GS)(x:SE):GS:={g with st:=g.st++[x]}
noncomputable def GS.inc(g:GS)(k:Bool):GS:=match k with|false=>{g with c1:=g.c1+1} |true=>{g with c2:=g.c2+1}
variable{A:RA}{g:GS}{rows:aP}{D:List (Int×V)}{p:Pt}{s:SE}
theorem eo:bD A (g.put s) rows D H=rA A g::(A.st,.list (g.st.map SE.obj++[s.obj]))::(A.wt,.list rows)::(A.eq,.list (g.eq.map QE.row))::(A.ct,.bz D)::(A.aw,.list (g.aw.map AE.row))::H:=by unfold bD GS.put rA;rw[XQ];rfl
inductive S3(i:Int):Prop|mk(h0:(i.natAbs.log2<1920/\(dec i).length<=16777216))(h1:(dec i).length<=10)
theorem eJ{i:Int}(h0:0<=i)(h:i<10^10):S3 i:=by
 have e:(dec i).length<=10:=toString_length_le h0 ll h;refine⟨⟨?_,Xa e ll⟩,e⟩;by_cases z:i.natAbs=0
 .rw[z];decide
 .exact(Nat.log2_lt z).mpr (Nat.lt_trans (show i.natAbs<10^10 by lia) ll)
theorem bZ{a b:ax}{m:Nat}(J:a.length<=m)(e:b.length<=n):(a++b).length<=m+n:=by rw[Xc];exact Xm J e
theorem TX (K:aL u){i:Int}(h0:0<=i)(h:i<10^10)(e:0<=j)(g:j<10^10)(q:Q (.str (dec i++"$"++dec j)) H):CL u (n+1) 93 [.int i,.int j] H Q X:=by obtain⟨a1,a2⟩:=eJ h0 h;obtain⟨b1,b2⟩:=eJ e g;exact ent K aa4 rfl ⟨a1,Xa (Xm a2 (Xh 1)) ll,b1,Xa (Xm (bZ a2 (Xh 1)) b2) ll,q⟩
theorem c94 (K:aL u) (e:0<=j) (g:j<10^10) (q:Q (.str ("0."++dec j++"$")) H):CL u (n+1) 94 [.int j] H Q X:=by obtain⟨b1,b2⟩:=eJ e g;exact ent K aa3 rfl ⟨b1,Xa (Xm (Xh 2) b2) ll,Xa (Xm (bZ (a:="0.") (Xh 2) b2) (Xh 1)) ll,q⟩
theorem GZ[BEq α][LawfulBEq α] {l:List (α×V)}{k:α}:∀i,(l.map λx=>if x.1==k then(x.1,v)else x).lookup i=if i==k then(if l.any (λx=>x.1==k) then W_ v else Xk)else l.lookup i:=by
 induction l with|nil=>intro i;show Xk=_;split<;>rfl|cons y l ih=>
  obtain⟨a,w⟩:=y;intro i;rw[Ys,List.any_cons];by_cases h:(a==k)=Xg
  .have e:a=k:=W6 h;subst e;rw[W0 h,Yo,Yo,ih];cases q:(i==a) <;>simp [q,h]
  .have h':(a==k)=Xb:=by simpa using h
   rw[WZ h,Yo,Yo,ih,h',Bool.false_or];cases q:(i==a)
   .rfl
   .have:i=a:=W6 q;subst this;rw[h'];rfl
theorem G1[BEq α][LawfulBEq α] {l:List (α×V)}{k:α}:∀i,l.any (λx=>x.1==k)=Xb->(l++[(k,v)]).lookup i=if i==k then W_ v else l.lookup i:=by
 induction l with|nil=>intro i _;show(match i==k with|true=>W_ v|false=>Xk)=_;cases(i==k) <;>rfl|cons y l ih=>
  intro i h;rw[List.any_cons,Bool.or_eq_false_iff]at h;rw[YK,Yo,Yo,ih i h.2];cases q:(i==y.1)
  .rfl
  .have:i=y.1:=W6 q;subst this;rw[h.1];rfl
theorem rz[BEq α][LawfulBEq α] {l:List (α×V)}{k:α}:(∀i,(fG l k v).lookup i=if i==k then W_ v else l.lookup i)/\(fG l k v).length<=l.length+1:=by
 unfold fG;generalize h:(l.any λx=>x.1==k)=e;induction e with|true=>
  rw [W0 rfl];exact⟨λi=>by rw [GZ,h];rfl,by rw [Xl];exact Yl _⟩|false=>
  rw [WZ Xy];exact⟨λi=>G1 i h,by rw [Xc];exact Xh _⟩
theorem cE.Vb{c1 c2:Nat}(h:cE D c1 c2):cE (fG D 1 (.int ((c1:Int)+1))) (c1+1) c2:=
 ⟨by rw[rz.1];rfl,by rw[rz.1];exact h.h2,by have:=h.len;have:=(rz (l:=D) (k:=1) (v:=.int ((c1:Int)+1))).2;lia⟩
theorem cE.put2{c1 c2:Nat}(h:cE D c1 c2):cE (fG D 22 (.int ((c2:Int)+1))) c1 (c2+1):=
 ⟨by rw[rz.1];exact h.h1,by rw[rz.1];rfl,by have:=h.len;have:=(rz (l:=D) (k:=22) (v:=.int ((c2:Int)+1))).2;lia⟩
theorem RS (K:aL u){w:ax}(e:sEq w "."=Xb)(J:g.st.length<=1000)(q:Q .none (bD A (g.put (.dm w p)) rows D H)):CL u (n+4) 103 [.ref A.s,(Lx.nm w).tk p.obj] (bD A g rows D H) Q X:=by rw[eo]at q;exact ent K x8 rfl (aW (nt e) ⟨rfl,⟨rfl,Xu⟩,Tg K λW=>⟨rfl,by rw[Xl];exact Xz J ll,q⟩⟩)
def GS.iS (g:GS)(k:Bool)(p:Pt):GS:=(g.inc k).put (.dm (dR k ((g.inc k).cn k)) p)
noncomputable def Tx(k:Bool):ax:=match k with|false=>"1"|true=>"22"
theorem hU(h:n<=1000):((n:Int)+1)<10^10:=U9 h rfl
theorem RU (K:aL u){k:Bool}(ct:cE D g.c1 g.c2) (e:g.st.length<=1000) (h1:g.c1<=1000) (h2:g.c2<=1000) (q:∀D',cE D' (g.inc k).c1 (g.inc k).c2->Q .none (bD A (g.iS k p) rows D' H)):
  CL u (n+4) 103 [.ref A.s,(Lx.nu (Tx k) (fV k)).tk p.obj] (bD A g rows D H) Q X:=by
 have lz:(g.st.map SE.obj).length<16777216:=by rw[Xl];exact Xz e (by decide)
 have dl:D.length<16777216:=Xz (Xa ct.len (Xm h1 h2)) (by decide);unfold GS.iS at q;induction k with|false=>
  have q:=q _ ct.Vb;rw[eo]at q;exact ent K x8 rfl ⟨Xu,aW (b:=Txt.isdigit (S "1")) (by decide+kernel) ⟨1,⟨by decide+kernel,by decide⟩,rfl,⟨rfl,Xu⟩,rfl,_,ct.h1,rfl,rfl,dl,rfl,⟨rfl,Xu⟩,rfl,rfl,_,(rz.1 1).trans rfl,TX K (by decide) (by decide) (XO (g.c1+1)) (hU h1) (Tg K λW=>⟨rfl,lz,q⟩)⟩⟩|true=>
  have q:=q _ ct.put2;rw[eo]at q;exact ent K x8 rfl ⟨Xu,aW (b:=Txt.isdigit (S "22")) (by decide+kernel) ⟨22,⟨by decide+kernel,by decide⟩,rfl,⟨rfl,Xu⟩,rfl,_,ct.h2,rfl,rfl,dl,rfl,⟨rfl,Xu⟩,rfl,rfl,_,(rz.1 22).trans rfl,TX K (by decide) (by decide) (XO (g.c2+1)) (hU h2) (Tg K λW=>⟨rfl,lz,q⟩)⟩⟩
structure GB(g:GS)(m:Nat):Prop where
 st:g.st.length<=m
 c1:g.c1<=m
 c2:g.c2<=m
 aw:g.aw.length<=m
 eq:g.eq.length<=m
 wt:g.wt.length<=m
 dw:g.dw<=m
 eO:g.eO<=1
set_option genCtorIdx false in
inductive Lb|nm(w:ax)|lo(k:Bool)
noncomputable def Lb.ctorIdx (x:Lb):Nat:=@Lb.casesOn (λW=>Nat) x (λW=>0) (λW=>1)
def Lb.lx:Lb->Lx|.nm w=>.nm w|.lo k=>.nu (Tx k) (fV k)
def Lb.ok:Lb->Bool|.nm w=>!sEq w "."|_=>Xg
def ji (g:GS)(l:Lb×Pt):GS:=match l.1 with|.nm w=>g.put (.dm w l.2)|.lo k=>g.iS k l.2
theorem GB.dm{m:Nat}(h:GB g m) (l:Lb×Pt):GB (ji g l) (m+1):=by
 obtain⟨h1,h2,h3,h4,U,O,M,K⟩:=h;have e:∀{a:Nat},a<=m->a<=m+1:=λh=>XE h;have J:∀s,(g.st++[s]).length<=m+1:=λs=>by rw[Xc];exact XH h1
 obtain⟨l,p⟩:=l;induction l with|nm w=>exact⟨J _,e h2,e h3,e h4,e U,e O,e M,K⟩|lo k=>
  cases k
  .exact⟨J _,XH h2,e h3,e h4,e U,e O,e M,K⟩
  .exact⟨J _,e h2,XH h3,e h4,e U,e O,e M,K⟩
noncomputable def l9:List (Lb×Pt×V)->aP->aP|[],r=>r|l::m,r=>l.1.lx.tk l.2.1.obj::(Lx.sg 58).tk l.2.2::l9 m r
noncomputable def aM (g:GS):List (Lb×Pt×V)->GS|[]=>g|l::m=>aM (ji g (l.1,l.2.1)) m
def vh(r:aP):Prop:=(∃w v p r',r=TK "end" w v p::r') \/ ∃k w v p k2 w2 v2 p2 r',r=TK k w v p::TK k2 w2 v2 p2::r'/\(sEq k2 "sign"&&sEq w2 ":")=Xb
theorem Tl.aaS{T r:List α}{i:Int}(h:Tl T i r):Internal.cut (W_ i) Xk T=r:=by obtain⟨B,rfl,rfl,h⟩:=h;have e:cf (B++r).length (W_ (B.length:Int)) 0=B.length:=dz (by rw[Xc];exact Xp ..);show((B++r).drop (cf (B++r).length (W_ (B.length:Int)) 0)).take ((B++r).length-cf (B++r).length (W_ (B.length:Int)) 0)=r;rw[e,List.drop_left,Xc,ZP,Z3]
theorem acm (K:aL u){l:List (Lb×Pt×V)}{m:Nat}(e:T=l9 l r) (hT:T.length<=16777216) (ct:cE D g.c1 g.c2) (M:GB g m) (O:m+l.length<=1000) (Z:∀x∈l,x.1.ok) (hr:vh r)
  (q:∀D',cE D' (aM g l).c1 (aM g l).c2->Q (.lst r) (bD A (aM g l) rows D' H)):CL u (n+6) 102 [.ref A.s,.lst T] (bD A g rows D H) Q X:=by
 refine ent K Ri rfl λI hI=>?_;suffices hs:∀(l:List (Lb×Pt×V)) (g:GS) (D:List (Int×V)) (m:Nat) (j:Int),Tl T j (l9 l r)->cE D g.c1 g.c2->GB g m->m+l.length<=1000->(∀x∈l,x.1.ok=Xg)->(∀D',cE D' (aM g l).c1 (aM g l).c2->Q (.lst r) (bD A (aM g l) rows D' H))->I ⟨bD A g rows D H,[W_ (.ref A.s),W_ (.lst T),W_ (.int j)]⟩from hs l g D m 0 (by subst e;exact Tl.zero hT) ct M O Z q;clear e q ct M O Z;intro l
 induction l with
 |nil=>
  intro g D m j t ct _ _ _ q
  have fin:Q (.lst (cut (W_ j) Xk T)) (bD A g rows D H):=by rw[Tl.aaS t];exact q D ct
  have t:Tl T j r:=t;rcases hr with⟨w,v,p,r',rfl⟩|⟨k,w,v,p,k2,w2,v2,p2,r',rfl,h⟩
  .exact hI _ (t.idx fin)
  .generalize e1:sEq k "end"=zz;induction zz with|true=>exact hI _ (t.idx (bp (nf e1) fin))|false=>
    refine hI _ (t.idx (aW (nt e1) (t.next.idx ?_)));generalize e2:sEq k2 "sign"=zz;induction zz with|false=>exact bp e2 fin|true=>rw[e2,ZD]at h;exact aW e2 (t.next.idx (bp h fin))
 |cons x l ih=>
  intro g D m j t ct M O Z q
  obtain⟨x,p,pv⟩:=x
  have U:m+1+l.length<=1000:=by rw[Xq]at O;exact zF O
  have hx:=Z _ (.head _)
  have J:m<=1000:=Xa (Xp ..) O
  have Y:∀y∈l,y.1.ok:=λy m=>Z y (.tail _ m)
  have gb':=M.dm (x,p);induction x with|nm w=>
   have t:Tl T j ((Lx.nm w).tk p.obj::(Lx.sg 58).tk pv::l9 l r):=t;refine hI _ (t.idx (t.next.idx (t.next.idx ⟨rfl,t.idx (RS K ((XR _).mp hx) (Xa M.st J) ?_)⟩)));exact ih _ D (m+1) (j+2) (e2▸t.next.next) ct gb' U Y q|lo k=>
   have t:Tl T j ((Lx.nu (Tx k) (fV k)).tk p.obj::(Lx.sg 58).tk pv::l9 l r):=t;refine hI _ (t.idx (t.next.idx (t.next.idx ⟨rfl,t.idx (RU K ct (Xa M.st J) (Xa M.c1 J) (Xa M.c2 J) λD' ct'=>?_)⟩)));exact ih _ D' (m+1) (j+2) (e2▸t.next.next) ct' gb' U Y q
theorem Pl{f:α->V}{asg:V->St->(St->Prop)->Prop}{k:V->St->Prop}{tl:aP}(P:List α->St->Prop)(h0:∀C,P [] C->forL asg W tl C k)
  (h1:∀a l (F:St->Prop),(∀C,P l C->F C)-> ∀C,P (a::l) C->asg (f a) C λσ'=>W σ' (Pm k F)):∀{l:List α}{C:St},P l C->forL asg W (l.map f++tl) C k:=by
 intro l;induction l with
 |nil=>
  intro C h;exact h0 C h|cons a l ih=>
  intro C h;exact h1 a l _ (λA h=>ih h) C h
def pJ (g:GS) (x:Lx×Pt):V:=match x.1 with|.lo k f=>TK "name" (dR k (match f with|false=>g.cn k|true=>g.cn k+1)) (.str (dR k (match f with|false=>g.cn k|true=>g.cn k+1))) x.2.obj|y=>y.tk x.2.obj
noncomputable def iH (g:GS):List (Lx×Pt)->List AE|[]=>[]|x::l=>match x.1 with|.lo k Xg=>⟨k,g.cn k+1,x.2⟩ ::iH g l|_=>iH g l
noncomputable def gO (g:GS):List (Lx×Pt)->Option Pt|[]=>Xk|x::l=>match x.1 with|.lo k Xb=>(match g.cn k with|0=>W_ x.2|_+1=>gO g l)|_=>gO g l
noncomputable def GS.ie(g:GS)(l:List AE):GS:={g with aw:=l}
def kJ(x:Lx×Pt):V:=x.1.tk x.2.obj
theorem cE.get (h:cE D g.c1 g.c2)(k:Bool):(D.lookup (fV k)).getD (.int 0)=.int (g.cn k):=by cases k;exact h.h1;exact h.h2
theorem MI{l:List AE}{a:AE}:bD A (g.ie (l++[a])) rows D H=rA A g::(A.st,.list (g.st.map SE.obj))::(A.wt,.list rows)::(A.eq,.list (g.eq.map QE.row))::(A.ct,.bz D)::(A.aw,.list (l.map AE.row++[a.row]))::H:=by unfold bD GS.ie rA;rw[XQ];rfl
theorem stE{h h':Hp}{r:List bG}(e:h'=h):(⟨h,r⟩:St)=⟨h',r⟩:=e▸rfl
inductive Nl1(x:Lx)(p:V):Prop|mk(k w:ax)(v:V)(h0:x.tk p=TK k w v p)(h1:sEq k "local"=Xb)
theorem nl1{x:Lx}{p:V}(h:∀k f,x≠.lo k f):Nl1 x p:=by cases x<;>first|exact W5 rfl (h _ _)|exact⟨_,_,_,rfl,rfl⟩
theorem acp{x:Lx}(h:∀k f,x≠.lo k f):pJ g (x,p)=x.tk p.obj:=by cases x<;>first|exact W5 rfl (h _ _)|rfl
theorem Se{x:Lx}{l:List (Lx×Pt)}(h:∀k f,x≠.lo k f):iH g ((x,p)::l)=iH g l/\gO g ((x,p)::l)=gO g l:=by cases x<;>first|exact W5 rfl (h _ _)|exact⟨rfl,rfl⟩
theorem Ve:decide (((n+1:Nat):Int)=0)=Xb:=W2 U2
theorem vJ(k:Bool):0<=fV k/\fV k<10^10:=by cases k<;>decide
inductive adn (A:RA)(g:GS)(rows:aP)(D:List (Int×V))(H:Hp)(l:List (Lx×Pt))(en:V)(F:Addr)(l':List (Lx×Pt))(C:St):Prop|mk (acc ts x y z:_)(e:C=⟨bD A (g.ie acc) rows D ((F,.list ts)::H),[W_ (.ref A.s),W_ (.lst (l.map kJ++[en])),W_ (.ref F),x,y,z]⟩)(e1:acc++iH g l'=g.aw++iH g l)(e2:ts++l'.map (pJ g)=l.map (pJ g))(e3:gO g l'=gO g l)(e4:acc.length+l'.length<=2000)(e5:ts.length+l'.length<=1000)
theorem ack (K:aL u){l:List (Lx×Pt)}{en:V}(he:∃w v p,en=TK "end" w v p) (ct:cE D g.c1 g.c2) (h1:g.c1<=1000) (h2:g.c2<=1000) (hl:l.length<=1000) (ha:g.aw.length<=1000)
  (q:match gO g l with|none=>Q (.lst (l.map (pJ g)++[en])) (bD A (g.ie (g.aw++iH g l)) rows D H)|some p=>∀m E,X (3,[(2,m),(3,p.obj)]) (E++H)):
  CL u (n+6) 104 [.ref A.s,.lst (l.map kJ++[en])] (bD A g rows D H) Q X:=by
 have cnb:∀k,g.cn k<=1000:=λk=>by cases k;exact h1;exact h2
 refine ent K Rh rfl λF=>Pl (adn A g rows D H l en F) ?_ ?_ ⟨g.aw,[],Xk,Xk,Xk,rfl,rfl,rfl,rfl,bB (Xm ha hl) rfl,by rw[Yh];exact bB (Xm (Xh 0) hl) rfl⟩
 .rintro _ ⟨acc,ts,x,y,z,rfl,Y,e2,U,e4,Z⟩
  rw[show iH g []=[]from rfl,Xr]at Y
  rw[List.map_nil,Xr]at e2;subst Y e2;rw[<-U]at q;obtain⟨w,v,p,rfl⟩:=he;have q:Q (.lst (l.map (pJ g)++[TK "end" w v p])) (bD A (g.ie (g.aw++iH g l)) rows D H):=q;exact⟨⟨rfl,Xu⟩,rfl,Xz (Xa (Xp ..) Z) ll,rfl,q⟩
 .rintro ⟨x,p⟩ O G hG _ ⟨acc,ts,x1,y1,z1,rfl,Y,e2,U,e4,Z⟩
  rw[Xq]at e4 Z
  have t1:ts.length<16777216:=FC Z rfl
  have t2:(ts++[pJ g (x,p)]).length+O.length<=1000:=by rw[Xc];show ts.length+1+O.length<=1000;exact zF Z
  have J:ts++[pJ g (x,p)]++O.map (pJ g)=l.map (pJ g):=by rw[Xf];exact e2
  by_cases hx:∃k f,x=.lo k f
  .obtain⟨k,f,rfl⟩:=hx
   have hc:=cnb k
   obtain⟨v1,v2⟩:=vJ k
   induction f with
   |true=>
    have a1:(acc.map AE.row).length<16777216:=by rw[Xl];exact FC e4 rfl
    have la:(lZ k Xg).getLast?=W_ 102:=by cases k<;>rfl
    refine⟨rfl,⟨rfl,Xu⟩,rfl,_,ct.get k,102,la,⟨rfl,⟨rfl,Xu⟩,rfl,a1,TX K v1 v2 (XO (g.cn k+1)) (hU hc) ⟨⟨rfl,Xu⟩,ze K λW=>⟨rfl,t1,hG _ ⟨acc++[⟨k,g.cn k+1,p⟩],ts++[pJ g (.lo k Xg,p)],_,_,_,stE MI,?_,J,U,?_,t2⟩⟩⟩⟩⟩
    .rw[Xf];exact Y
    .rw[Xc];show acc.length+1+O.length<=2000;exact zF e4
   |false=>
    have la:(lZ k Xb).getLast?=W_ 98:=by cases k<;>rfl
    generalize hk:g.cn k=zz;induction zz using XN with
    |zero=>
     have e:gO g l=W_ p:=by rw[<-U];show(match g.cn k with|0=>W_ p|_+1=>_)=_;rw[hk]
     rw[e]at q
     refine⟨rfl,⟨rfl,Xu⟩,rfl,_,ct.get k,98,la,?_⟩
     rw[hk]
     exact x3 K rfl rfl rfl (q _ [_,_,_,_,_,_,_])
    |succ m=>
     have e:gO g ((Lx.lo k Xb,p)::O)=gO g O:=by show(match g.cn k with|0=>W_ p|_+1=>gO g O)=_;rw[hk]
     have e0:decide (((g.cn k:Nat):Int)=0)=Xb:=by rw[hk];exact Ve
     refine⟨rfl,⟨rfl,Xu⟩,rfl,_,ct.get k,98,la,bp e0 (TX K v1 v2 (XO (g.cn k)) (Int.lt_trans (Int.lt_add_of_pos_right _ (by decide)) (hU hc)) ⟨⟨rfl,Xu⟩,ze K λW=>⟨rfl,t1,hG _ ⟨acc,ts++[pJ g (.lo k Xb,p)],_,_,_,rfl,Y,J,e.symm.trans U,?_,t2⟩⟩⟩)⟩
     exact Js e4
  .have M:∀k f,x≠.lo k f:=λk f e=>hx ⟨k,f,e⟩
   obtain⟨kd,w,v,f1,f2⟩:=nl1 (p:=p.obj) M
   rw[acp M]at J t2
   rw[(Se M).1]at Y
   rw[(Se M).2]at U
   show n6 3 (x.tk p.obj) _ _
   rw[f1]at J t2⊢
   exact aW (nt f2) ⟨⟨rfl,Xu⟩,rfl,t1,hG _ ⟨acc,ts++[TK kd w v p.obj],_,_,_,rfl,Y,J,U,Js e4,t2⟩⟩
variable{B:TF}
theorem JA{f:α->V}{T:TF}{k:aP->Hp->Prop}{r:List bG}(p:α->Bool) (t:α->V){P:α->Prop}
  (h1:∀a,P a-> ∀(acc:aP) (F:aP->St->Prop),acc.length<16777216->(p a->F (acc++[t a]) ⟨H,W_ (f a)::r⟩)->(p a=Xb->F acc ⟨H,W_ (f a)::r⟩)->T ⟨H,W_ (f a)::r⟩ (WB B acc F)):
  ∀{l:List α}{y:bG}{acc:aP},acc.length+l.length<=1000->(∀a∈l,P a)->k (acc++(l.filter p).map t) H->ou T B (l.map f) acc ⟨H,y::r⟩ k:=by
 intro l;induction l with|nil=>
  intro y acc _ _ q;have q:k (acc++[]) H:=q;rw[Xr]at q;exact q|cons a l ih=>
  intro y acc J K q;have J:acc.length+(l.length+1)<=1000:=J;refine h1 a (K a (.head _)) acc _ (Xz (Xa (Xp ..) J) ll) (λe=>ih ?_ (λa m=>K a (.tail _ m)) ?_) (λe=>ih ?_ (λa m=>K a (.tail _ m)) ?_)
  .rw[Xc,X_,YN [_].length];exact J
  .rw[List.filter_cons_of_pos e]at q;rw[Xf];exact q
  .exact Xa (XF (Yl _) _) J
  .rw[List.filter_cons_of_neg (by rw[e];exact Xy)]at q;exact q
theorem Tz{f:α->V}{T:TF}{k:aP->Hp->Prop}{r:List bG}(t:α->V){P:α->Prop}
  (h1:∀a,P a-> ∀(acc:aP) (F:aP->St->Prop),acc.length<16777216->F (acc++[t a]) ⟨H,W_ (f a)::r⟩ ->T ⟨H,W_ (f a)::r⟩ (WB B acc F)){l:List α}{y:bG}(e:l.length<=1000) (K:∀a∈l,P a) (q:k (l.map t) H):ou T B (l.map f) [] ⟨H,y::r⟩ k:=
 JA (λW=>Xg) t (λa J acc F M h W=>h1 a J acc F M (h rfl)) (by rw[Yh,X7];exact e) K (by rw[List.filter_eq_self.mpr λW W=>rfl];exact q)
theorem lcH{T:TF}{l acc:aP}{k:aP->Hp->Prop}{h h':Hp}{r:List bG}(e:h'=h)(w:ou T B l acc ⟨h',r⟩ k):ou T B l acc ⟨h,r⟩ k:=e▸w
theorem ba{l:List α}{f:α->V}(h:l.length<=1000):(l.map f).length<16777216:=by rw[Xl];exact Xz h ll
def mK (n:Nat):ax:="0."++dec (n:Int)++"$"
noncomputable def GS.pt(g:GS):GS:={g with dw:=g.dw+1}
def GS.pn (g:GS)(l:List Ex)(p:Pt):GS:=match l.any Ex.hh with|true=>g.pt.put (.dm (mK (g.dw+1)) p)|false=>g
def ik (g:GS)(l:List Ex):List Ex:=match l.any Ex.hh with|true=>l.map (Ex.pin (mK (g.dw+1)))|false=>l
theorem Dy (K:aL u){l:List Ex}{r:List bG}{k:aP->Hp->Prop}(M:l.length<=1000) (q:k ((l.filter Ex.hh).map Ex.obj) H):
  ou (wp u ⟨Xg,n+3,iX⟩ (.fU (.a_ 41 [] (.oz (.loc 0) .bJ)))) (wp u ⟨Xg,n+3,iX⟩ (.loc 0)) (l.map Ex.obj) [] ⟨H,Xk::r⟩ k:=by
 refine JA Ex.hh Ex.obj (P:=λW=>True) (λx W acc F O h1 h2=>c41 K ?_) ((X7 _).symm▸M) (λW W=>trivial) q;generalize e:x.hh=J;induction J with|true=>exact⟨O,h1 e⟩|false=>exact h2 e
theorem yr{l:List Ex}:(l.filter Ex.hh).isEmpty=!l.any Ex.hh:=by induction l with|nil=>rfl|cons x l ih=>cases h:x.hh<;>simp [h,ih]
theorem yq{l:List Ex}:((l.filter Ex.hh).map Ex.obj).isEmpty=!l.any Ex.hh:=by rw[Z6,yr]
theorem I0 (K:aL u){l:List Ex}(e:l.length<=1000) (hs:g.st.length<=1000) (M:g.dw<=1000) (q:Q (.lst ((ik g l).map Ex.obj)) (bD A (g.pn l p) rows D H)):
  CL u (n+6) 105 [.ref A.s,.lst (l.map Ex.obj),p.obj] (bD A g rows D H) Q X:=by
 refine ent K Rg rfl (Dy K e ⟨rfl,?_⟩);show cQ ((l.filter Ex.hh).map Ex.obj).isEmpty _ _;unfold ik GS.pn at q;generalize h:l.any Ex.hh=J;induction J with
 |false=>
  rw[h]at q;exact aW (yq.trans (by rw[h];rfl)) q|true=>
  rw[h]at q;refine bp (yq.trans (by rw[h];rfl)) ⟨rfl,rfl,rfl,c94 K (XO (g.dw+1)) (hU M) ⟨rfl,⟨rfl,Xu⟩,Tg K λW=>⟨rfl,ba hs,?_⟩⟩⟩;exact lcH eo (Tz (λx=>(x.pin (mK (g.dw+1))).obj) (P:=λW=>True) (λx W acc F O h=>c92 K ⟨O,h⟩) e (λW W=>trivial) (by rw[Yn]at q;exact q))
def Jm(t:V):Prop:=sM t "sign"
theorem Jm.st(h:Jm t):EB t:=.inl h
theorem ud (K:aL u){s:ax}(h:Tl T j (t::r)) (J:Jm t) (q:Q (.bool Xb) (CU a T j::H)):CL u (n+3) 76 [.ref a,.str s] (CU a T j::H) Q X:=by obtain⟨k,w,v,p,rfl,e⟩:=J;exact abP K h (by rw[e];rfl) q
theorem uc (K:aL u) (h:Tl T j (t::r)) (e:j3 44 t) (q:Q (.bool Xg) (CU a T (j+1)::H)):CL u (n+3) 76 [.ref a,.str ","] (CU a T j::H) Q X:=by obtain⟨p,rfl⟩:=e;exact Ro K h rfl q
noncomputable def km{α:Type}:List (V×α×aP)->aP->aP|[],r=>r|x::l,r=>x.1::(x.2.2++km l r)
inductive Sz (t:V)(r:aP)(α:Type)(l:List (V×α×aP)):Prop|mk (t' r')(h0:km l (t::r)=t'::r')(h1:EB t')
theorem N5{l:List (V×α×aP)}(J:∀x∈l,j3 44 x.1)(e:Jm t):Sz t r α l:=by induction l using Xn with|nil=>exact⟨t,r,rfl,e.st⟩|cons x l=>exact⟨_,_,rfl,.inr (J x (.head _))⟩
theorem IV (K:aL u){x:Ex}{ts:aP}{l:List (V×Ex×aP)}(h:Tl T j (ts++km l (t::r))) (e:jB ts x) (J:∀y∈l,j3 44 y.1/\jB y.2.2 y.2.1) (ht:Jm t) (O:l.length<=900)
  (q:∀M,Tl T M (t::r)->Q (.lst ((x::l.map (λW=>W.2.1)).map Ex.obj)) (CU a T M::H)):CL u (n+8) 113 [v,.ref a] (CU a T j::H) Q X:=by
 have hd:∀{l:List (V×Ex×aP)},(∀y∈l,j3 44 y.1/\jB y.2.2 y.2.1)->Sz t r Ex l:=λJ=>N5 (λy m=>(J y m).1) ht
 have Y:∃k w v p Z,ts++km l (t::r)=TK k w v p::Z/\sEq k "end"=Xb:=by
  induction x with
  |«at» x=>
   obtain⟨t,rfl,e⟩:=e
   induction x with
   |num=>obtain⟨w,p,rfl⟩:=e;exact⟨_,_,_,_,_,rfl,rfl⟩|dot=>obtain⟨p,rfl⟩:=e;exact⟨_,_,_,_,_,rfl,rfl⟩|sym=>obtain⟨-,p,rfl⟩:=e;exact⟨_,_,_,_,_,rfl,rfl⟩
  |bin m x y=>
   obtain⟨t,_,_,rfl,e,-,-⟩:=e
   induction x with
   |num=>obtain⟨w,p,rfl⟩:=e;exact⟨_,_,_,_,_,rfl,rfl⟩|dot=>obtain⟨p,rfl⟩:=e;exact⟨_,_,_,_,_,rfl,rfl⟩|sym=>obtain⟨-,p,rfl⟩:=e;exact⟨_,_,_,_,_,rfl,rfl⟩
 obtain⟨k,w,v',p,Z,Y,e1⟩:=Y;have h0:=h;rw[Y]at h0;obtain⟨t1,r1,e2,s1⟩:=hd J;have h1:=h;rw[e2]at h1;refine ent K Ee rfl ⟨rfl,Ei K h0 e1 (TZ K h1 e s1 λF I hI=>?_)⟩;have h2:=h1.app;rw[<-e2]at h2;suffices hs:∀(l:List (V×Ex×aP)) (acc:aP) (j:Int),Tl T j (km l (t::r))->(∀y∈l,j3 44 y.1/\jB y.2.2 y.2.1)->acc.length+l.length<=1000->(∀M,Tl T M (t::r)->Q (.lst (acc++(l.map (λW=>W.2.1)).map Ex.obj)) (CU a T M::H))->I ⟨CU a T j::(F,.list acc)::H,[W_ v,W_ (.ref a),W_ (.ref F)]⟩from hs l [x.obj] _ h2 J (by show 1+l.length<=1000;exact bB (Xm (Xh 1) O) rfl) q;clear h h0 h1 h2 J O q Y e2;intro l;induction l with
 |nil=>
  intro acc j h _ _ q
  have q:=q j h
  rw[List.map_nil,List.map_nil,Xr]at q
  exact hI _ ⟨rfl,ud K h ht ⟨rfl,q⟩⟩
 |cons y l ih=>
  intro acc j h J O q;rw[Xq]at O;obtain⟨y1,y2⟩:=J y (.head _);have U:∀y∈l,j3 44 y.1/\jB y.2.2 y.2.1:=λy m=>J y (.tail _ m);obtain⟨t2,r2,e3,s2⟩:=hd U;have h:Tl T j (y.1::(y.2.2++km l (t::r))):=h;have h3:=h.next;rw[e3]at h3;have h4:=h3.app;rw[<-e3]at h4;refine hI _ ⟨rfl,uc K h y1 ⟨⟨rfl,Xu⟩,TZ K h3 y2 s2 ⟨rfl,FC O rfl,ih _ _ h4 U ?_ λM hj=>?_⟩⟩⟩
  .rw[Xc];show acc.length+1+l.length<=1000;exact zF O
  .rw[Xf];exact q M hj
theorem RB (K:aL u){w:ax}{e p:V}(h:Tl T j (TK "end" w e p::r)) (q:Q (.lst []) (CU a T j::H)):CL u (n+8) 113 [v,.ref a] (CU a T j::H) Q X:=
 ent K Ee rfl ⟨rfl,Ei K h rfl q⟩
def oY(w:ax):Bool:=match w with|[]=>Xb|c::_=>!sEq w "."&&(Yt ⟨"0123456789".toArray⟩ ⟨[c].toArray⟩ 0 10 1).isEmpty
theorem aci (K:aL u){w:ax}{p:V}(h:Tl T j (TK "name" w (.str w) p::r)) (e:oY w) (q:Q (.str w) (CU a T (j+1)::H)):CL u (n+2) 111 [v,.ref a] (CU a T j::H) Q X:=by
 induction w using Xn with|nil=>exact ff e|cons c w=>unfold oY at e;rw[XS,XR]at e;exact ent K Ef rfl ⟨rfl,s9 K h ⟨rfl,c80 K h rfl (aW (nt e.1) (bp (b:=!(Yt ⟨"0123456789".toArray⟩ ⟨[c].toArray⟩ 0 10 1).isEmpty) (by rw[e.2];rfl) q))⟩⟩
theorem RC (K:aL u){k w:ax}{J p:V}(h:Tl T j (TK k w J p::r)) (e:sEq k "name"=Xb) (q:∀m,X (2,[(2,m),(3,p)]) (CU a T j::H)):CL u (n+4) 111 [v,.ref a] (CU a T j::H) Q X:=
 ent K Ef rfl ⟨rfl,s9 K h ⟨rfl,abO K h e q⟩⟩
def sN (w:ax)(t:V):Prop:= ∃p,t=TK "name" w (.str w) p
theorem lp (K:aL u){w:ax}(h:Tl T j (t::r)) (J:sN w t) (e:oY w) (q:Q (.str w) (CU a T (j+1)::H)):CL u (n+2) 111 [v,.ref a] (CU a T j::H) Q X:=by obtain⟨p,rfl⟩:=J;exact aci K h e q
theorem ach (K:aL u){x:ax}{x1:V}{l:List (V×ax×aP)}(h:Tl T j (x1::km l (t::r))) (U:sN x x1/\oY x) (M:∀y∈l,j3 44 y.1/\oY y.2.1/\ ∃s,y.2.2=[s] /\sN y.2.1 s) (Z:Jm t) (J:l.length<=900)
  (q:∀e,Tl T e (t::r)->Q (.lst ((x::l.map (λW=>W.2.1)).map .str)) (rA A g::CU a T e::H)):CL u (n+5) 112 [.ref A.s,.ref a] (rA A g::CU a T j::H) Q X:=by
 refine ent K Q8 rfl ⟨rfl,lp K h U.1 U.2 λF I Y=>?_⟩;have h2:=h.next;suffices hs:∀(l:List (V×ax×aP)) (acc:aP) (j:Int),Tl T j (km l (t::r))->(∀y∈l,j3 44 y.1/\oY y.2.1/\ ∃s,y.2.2=[s] /\sN y.2.1 s)->acc.length+l.length<=1000->(∀e,Tl T e (t::r)->Q (.lst (acc++(l.map (λW=>W.2.1)).map .str)) (rA A g::CU a T e::H))->I ⟨rA A g::CU a T j::(F,.list acc)::H,[W_ (.ref A.s),W_ (.ref a),W_ (.ref F)]⟩from hs l [.str x] _ h2 M (by show 1+l.length<=1000;exact bB (Xm (Xh 1) J) rfl) q;clear h h2 M J q;intro l;induction l with
 |nil=>
  intro acc j h _ _ q;have q:=q j h;rw[List.map_nil,List.map_nil,Xr]at q;exact Y _ ⟨rfl,ud K h Z ⟨rfl,q⟩⟩|cons y l ih=>
  intro acc j h M J q;rw[Xq]at J;obtain⟨y,w,ws⟩:=y;obtain⟨y1,y2,s,y3,y4⟩:=M _ (.head _);have y3:ws=[s]:=y3;subst y3;have O:∀y∈l,j3 44 y.1/\oY y.2.1/\ ∃s,y.2.2=[s] /\sN y.2.1 s:=λy m=>M y (.tail _ m);have h:Tl T j (y::s::km l (t::r)):=h;refine Y _ ⟨rfl,uc K h y1 ⟨⟨rfl,Xu⟩,rfl,lp K h.next y4 y2 ⟨rfl,FC J rfl,ih _ _ h.next.next O ?_ λe hj=>?_⟩⟩⟩
  .rw[Xc];show acc.length+1+l.length<=1000;exact zF J
  .rw[Xf];exact q e hj
noncomputable def ye(s:ax):List UInt8:=s.map Nat.toUInt8
def Sk (s:ax)(t:V):Prop:= ∃w p,t=TK "text" w (.str s) p
theorem c96 (K:aL u){s:ax}(O:Sk s t) (hs:∀c∈s,c<=255) (U:s.length<=100) (q:Q (.bytes (ye s)) H):CL u (n+1) 96 [t] H Q X:=by
 obtain⟨w,p,rfl⟩:=O;refine ent K aa1 rfl (Tz (f:=λc=>V.str [c]) (λc=>.int (c:Int)) (P:=λW=>True) (λc W acc G Z h=>⟨Z,h⟩) (Xa U ll) (λW W=>trivial) ⟨Xh 2,?_⟩);have fin:Q (.bytes ((s.map λc:Nat=>(c:Int)).map λn=>n.toNat.toUInt8)) H:=by rw[Yn];exact q
 have J:(s.map λc:Nat=>V.int (c:Int))=(s.map λc:Nat=>(c:Int)).map .int:=by rw[Yn];rfl
 have M:∀n∈s.map λc:Nat=>(c:Int),0<=n/\n<256:=λn m=>by obtain⟨c,Y,rfl⟩:=Yi.mp m;have:=hs c Y;exact⟨MY,Gg this rfl⟩
 induction s using Xn with|nil=>exact⟨rfl,[],⟨rfl,λW m=>nomatch m⟩,fin⟩|cons c s=>refine⟨rfl,_,⟨J,λe=>nomatch e⟩,λn m=>bp (W2 ?_) ⟨_,⟨J,M⟩,fin⟩⟩;have:=(M n m).2;lia
theorem Rz (K:aL u){s s':ax}{t1 k t2:V}(h:Tl T j (t1::k::t2::t::r)) (h1:Sk s t1) (hk:j3 44 k) (h2:Sk s' t2) (O:Jm t) (b1:(∀c∈s,c<=255)/\s.length<=100) (b2:(∀c∈s',c<=255)/\s'.length<=100)
  (q:Q (.lst [.bytes (ye s),.bytes (ye s')]) (CU a T (j+3)::H)):CL u (n+5) 114 [v,.ref a] (CU a T j::H) Q X:=by
 have J:=h1;have e:=h2;obtain⟨Y,p1,rfl⟩:=h1;obtain⟨w2,p2,rfl⟩:=h2;have U:j+3=j+1+1+1:=by lia
 rw[U]at q;exact ent K Q7 rfl ⟨rfl,Ei K h rfl ⟨rfl,yb K h rfl (c96 K J b1.1 b1.2 λF I M=>M _ ⟨rfl,uc K h.next hk ⟨⟨rfl,Xu⟩,rfl,yb K h.next.next rfl (c96 K e b2.1 b2.2 ⟨rfl,hZ rfl,M _ ⟨rfl,ud K h.next.next.next O ⟨rfl,q⟩⟩⟩)⟩⟩)⟩⟩
variable{w:ax}
noncomputable def pO:List ax:=[".align",".balign",".p2align",".org",".zero"]
noncomputable def pN:List ax:=[".skip",".space"]
noncomputable def rr:List ax:=[".byte",".word",".short",".long",".int",".quad",".uleb128",".sleb128"]
noncomputable def mU:List ax:=[".ascii",".asciz",".string"]
noncomputable def Fq:List ax:=[".text",".data",".bss"]
noncomputable def tJ:List ax:=[".set",".equ",".equiv"]
noncomputable def OY(l:List ax):ax:=match l with|[]=>[]|[w]=>w|w::l=>w++32::OY l
theorem spS{ws:List ax}(m:ws∈[pO,pN,rr,mU,Fq,tJ]):mY (OY ws) " "=ws:=by revert ws;decide+kernel
theorem mZ{ws:List ax}(m:ws∈[pO,pN,rr,mU,Fq,tJ]):(" ":ax)≠[] /\(mY (OY ws) " ").length<=16777216/\ ∀z∈mY (OY ws) " ",z.length<=16777216:=by rw[spS m];revert ws;decide
theorem Dx{ws:List ax}(m:ws∈[pO,pN,rr,mU,Fq,tJ]) (h:dy (.str w) (ws.map .str)=W_ z) (q:P (.bool z) C):kR (AM P .In 0 0 (.str w)) C (.lst ((mY (OY ws) " ").map .str)) C.H:=by rw[spS m];show ck (dy (.str w) (ws.map .str)) λz=>P (.bool z) C;rw[h];exact q
noncomputable def N.tl:N->N|.yN _ r=>r|x=>x
noncomputable def N.h1:N->N|.yN s _=>s|x=>x
noncomputable def N.th:N->N|.ite _ a _=>a|x=>x
noncomputable def N.el:N->N|.ite _ _ a=>a|x=>x
noncomputable def FN(b1 b2 b3:Bool):Nat:=match b1,b2,b3 with|true,_,_=>1|_,Xg,_=>2|_,_,Xg=>3|_,_,_=>0
theorem yh{a b:Nat}(h:XU a b=Xb):decide ((b:Int)<(a:Int)):=W4 (YW.mpr (Nat.not_le.mp λq=>by rw[X1 q]at h;exact ft h))
theorem yi{a b:Nat}(h:XU a b):decide ((b:Int)<(a:Int))=Xb:=W2 (ZN.mpr (Yw.mpr (Xi h)))
theorem xb{l:List α}{f:α->V}{b:Bool}(h:l.isEmpty=b):(l.map f).isEmpty=b:=Z6.trans h
theorem Og{l:List α}{f:α->V}{k:Int}{b:Bool}(h:decide (k<(l.length:Int))=b):decide (k<((l.map f).length:Int))=b:=by rw[Xl];exact h
theorem Wv{l:List Ex}:(l.map Arg.e).map Arg.obj=l.map Ex.obj:=by rw[Yn];rfl
theorem jr{l:List Ex}:bD A (g.put (.bF w (l.map .e) p)) rows D H=rA A g::(A.st,.list (g.st.map SE.obj++[.obj 18 [(16,.str "deed"),(3,p.obj),(18,.str w),(19,.lst (l.map Ex.obj))]]))::(A.wt,.list rows)::(A.eq,.list (g.eq.map QE.row))::(A.ct,.bz D)::(A.aw,.list (g.aw.map AE.row))::H:=by have e:SE.obj (.bF w (l.map .e) p)=.obj 18 [(16,.str "deed"),(3,p.obj),(18,.str w),(19,.lst (l.map Ex.obj))]:=WX (λx=>V.obj 18 [(16,.str "deed"),(3,p.obj),(18,.str w),(19,.lst x)]) Wv;rw[eo,e]
theorem qh{l:List Ex}(h:g.st.length<=1000):((g.pn l p).st.map SE.obj).length<16777216:=by
 rw[Xl];unfold GS.pn;cases l.any Ex.hh
 .exact Xz h ll
 .exact Xz (show(g.st++[_]).length<=1001 by rw[Xc];exact XH h) ll
theorem yd (K:aL u){l:List Ex}{k:Nat}{x:bG}(V:l.length<=1000) (hs:g.st.length<=1000) (U:g.dw<=1000)
  (q:match !l.isEmpty&&XU l.length k with|true=>Q .none (bD A ((g.pn l p).put (.bF w ((ik g l).map .e) p)) rows D H)|false=>∀m E,X (2,[(2,m),(3,p.obj)]) (E++H)):wp u (eM Xg (n+7) X) GG.tl ⟨bD A g rows D H,[W_ (.ref A.s),W_ (.str w),W_ (.lst (l.map Ex.obj)),W_ p.obj,W_ (.int k),x]⟩ (eQ Q):=by
 have bad:(!l.isEmpty&&XU l.length k)=Xb->wp u (eM Xg (n+7) X) GG.tl.h1.th ⟨bD A g rows D H,[W_ (.ref A.s),W_ (.str w),W_ (.lst (l.map Ex.obj)),W_ p.obj,W_ (.int k),x]⟩ λW W=>True:=λe=>by rw[e]at q;exact x3 K rfl rfl rfl (q _ [_,_,_,_,_,_])
 generalize J:l.isEmpty=O;induction O with|true=>
  refine⟨rfl,bp (b:=!(l.map Ex.obj).isEmpty) (nf (xb J)) ?_⟩;exact bad (by rw[J];rfl)|false=>
  refine⟨rfl,aW (b:=!(l.map Ex.obj).isEmpty) (nt (xb J)) ?_⟩;generalize M:XU l.length k=O;induction O with|false=>exact aW (b:=decide ((k:Int)<((l.map Ex.obj).length:Int))) (Og (yh M)) (bad (by rw[M,ZV]))|true=>rw[J,M]at q;have q:Q .none (bD A ((g.pn l p).put (.bF w ((ik g l).map .e) p)) rows D H):=q;rw[jr]at q;exact bp (b:=decide ((k:Int)<((l.map Ex.obj).length:Int))) (Og (yi M)) ⟨rfl,I0 K V hs U ⟨rfl,⟨rfl,Xu⟩,zd K λW=>⟨rfl,qh hs,q⟩⟩⟩
variable{b1:Bool}
theorem RE (K:aL u){l:List Ex}{b2 b3:Bool}(h1:dy (.str w) (pO.map .str)=W_ b1) (h2:dy (.str w) (pN.map .str)=W_ b2) (h3:sEq w ".fill"=b3) (hk:(b1||(b2||b3))) (M:l.length<=1000) (hs:g.st.length<=1000) (J:g.dw<=1000)
  (q:match !l.isEmpty&&XU l.length (FN b1 b2 b3)with|true=>Q .none (bD A ((g.pn l p).put (.bF w ((ik g l).map .e) p)) rows D H)|false=>∀m E,X (2,[(2,m),(3,p.obj)]) (E++H)):CL u (n+8) 110 [.ref A.s,.str w,.lst (l.map Ex.obj),p.obj] (bD A g rows D H) Q X:=by
 refine ent K Eg rfl ⟨Xu,mZ (ws:=pO) (by decide),Dx (by decide) h1 ?_⟩;induction b1 with|true=>exact yd K M hs J q|false=>
  refine⟨Xu,mZ (ws:=pN) (by decide),Dx (by decide) h2 ?_⟩;induction b2 with|true=>exact yd K M hs J q|false=>induction b3 with|true=>exact aW h3 (yd K M hs J q)|false=>exact ff hk
theorem RD (K:aL u){l:List Ex}(h1:dy (.str w) (pO.map .str)=W_ Xb) (h2:dy (.str w) (pN.map .str)=W_ Xb) (h3:sEq w ".fill"=Xb) (e:w.length<=1000)
  (q:∀m E,X (2,[(2,m),(3,p.obj)]) (E++H)):CL u (n+8) 110 [.ref A.s,.str w,.lst (l.map Ex.obj),p.obj] (bD A g rows D H) Q X:=by
 refine ent K Eg rfl ⟨Xu,mZ (ws:=pO) (by decide),Dx (by decide) h1 ⟨Xu,mZ (ws:=pN) (by decide),Dx (by decide) h2 (bp h3 ⟨?_,x3 K rfl rfl rfl (q _ [_,_,_,_,_,_])⟩)⟩⟩;exact Xa (XF e 13) ll
variable{m:Nat}
theorem GB.mono{m':Nat}(h:GB g m)(e:m<=m'):GB g m':=⟨Xa h.st e,Xa h.c1 e,Xa h.c2 e,Xa h.aw e,Xa h.eq e,Xa h.wt e,Xa h.dw e,h.eO⟩
theorem mE{l:List α}{x:α}{m:Nat}(h:l.length<=m):(l++[x]).length<=m+1:=by rw[Xc];exact XH h
theorem GB.put{s:SE}(h:GB g m):GB (g.put s) (m+1):=⟨mE h.st,XE h.c1,XE h.c2,XE h.aw,XE h.eq,XE h.wt,XE h.dw,h.eO⟩
theorem GB.pn{l:List Ex}(h:GB g m):GB (g.pn l p) (m+1):=by
 unfold GS.pn;cases l.any Ex.hh
 .exact h.mono (Yl _)
 .exact⟨mE h.st,XE h.c1,XE h.c2,XE h.aw,XE h.eq,XE h.wt,XH h.dw,h.eO⟩
noncomputable def ot (w:ax)(p:Pt)(g:GS)(l:List Ex):GS:=match l with|[]=>g|x::l=>ot w p ((g.pn [x] p).put (.bF w ((ik g [x]).map .e) p)) l
def ko (w:ax)(p:Pt)(g:GS)(l:List Ex):GS:=match l.any Ex.hh with|true=>ot w p g l|false=>g.put (.bF w (l.map .e) p)
theorem bd2{m k:Nat}(h:m+2* (k+1)<=1000):m+1+1+2*k<=1000/\m<=1000/\m<=998:=⟨Xa M0 h,Gf h,Nat.le_of_add_le_add_right (MZ h:m+2<=998+2)⟩
theorem lt1000{l:List α}(h:l.length<=1000):l.length<16777216:=Xz h ll
theorem qA{l:List Ex}{b:Bool}(h:l.any Ex.hh=b):((l.filter Ex.hh).map Ex.obj).isEmpty=!b:=yq.trans (WX Bool.not h)
inductive adm (A:RA)(rows:aP)(D:List (Int×V))(H:Hp)(g:GS)(w:ax)(l:List Ex)(p:Pt)(l':List Ex)(C:St):Prop|mk (g' m' x y:_)(h0:C=⟨bD A g' rows D H,[W_ (.ref A.s),W_ (.str w),W_ (.lst (l.map Ex.obj)),W_ p.obj,x,y]⟩)(h1:GB g' m')(h2:m'+2*l'.length<=1000)(h3:ot w p g' l'=ot w p g l)
theorem acj (K:aL u){l:List Ex}(U:GB g m) (O:m+2*l.length<=1000) (q:Q .none (bD A (ko w p g l) rows D H)):CL u (n+8) 109 [.ref A.s,.str w,.lst (l.map Ex.obj),p.obj] (bD A g rows D H) Q X:=by
 have Y:m<=1000:=Xa (Xp ..) O;have Z:l.length<=1000:=Xa (Nat.le_mul_of_pos_left _ ll) (Xa (Zc ..) O);refine ent K Q9 rfl (Dy K Z ⟨rfl,?_⟩);unfold ko at q;generalize h:l.any Ex.hh=V;induction V with|false=>
  rw [h] at q;have q:Q .none (bD A (g.put (.bF w (l.map .e) p)) rows D H):=q;rw [jr] at q;exact aW (b:= ((l.filter Ex.hh).map Ex.obj).isEmpty) (qA h) ⟨rfl,⟨rfl,Xu⟩,zd K λW=> ⟨rfl,ba (Xa U.st Y),q⟩⟩|true=>
  rw [h] at q;have q:Q .none (bD A (ot w p g l) rows D H):=q;refine bp (b:= ((l.filter Ex.hh).map Ex.obj).isEmpty) (qA h) ?_;refine forM (adm A rows D H g w l p) ?_ ?_ ⟨g,m,Xk,Xk,rfl,U,O,rfl⟩
  .rintro _ ⟨g',m',x,y,rfl,-,-,e⟩;rw [<-e] at q;exact q
  .rintro x l' F hF _ ⟨g',m',x1,y1,rfl,J,M,e⟩;obtain⟨e1,e2,e3⟩:=bd2 M;have q1:=hF ⟨bD A ((g'.pn [x] p).put (.bF w ((ik g' [x]).map .e) p)) rows D H,_⟩ ⟨_,m'+1+1,W_ x.obj,W_ (.lst ((ik g' [x]).map Ex.obj)),rfl,J.pn.put,e1,e⟩;rw [jr] at q1;exact⟨rfl,I0 K (l:=[x]) (Xi rfl) (Xa J.st e2) (Xa J.dw e2) ⟨rfl,⟨rfl,Xu⟩,zd K λW=> ⟨rfl,qh (Xa J.st e2),q1⟩⟩⟩
noncomputable def GS.sy(g:GS)(k:Nat):GS:={g with eO:=k}
noncomputable def uV:ax:="prefix"
noncomputable def nB:ax:="noprefix"
theorem RI (K:aL u)(h:Tl T j (t::r))(J:sN uV t)(q:Q .none (bD A (g.sy 0) rows D (CU a T (j+1)::H))):CL u (n+4) 108 [.ref A.s,.str ".att_syntax",.ref a,p.obj] (bD A g rows D (CU a T j::H)) Q X:=by have e:=J;obtain⟨p',rfl⟩:=e;exact ent K rg rfl ⟨rfl,Ei K h rfl ⟨rfl,lp K h J (by decide+kernel) ⟨rfl,q⟩⟩⟩
theorem RG (K:aL u){k:ax}{p':V}(h:Tl T j (TK k w v p'::r))(e:sEq k "end")(q:Q .none (bD A (g.sy 0) rows D (CU a T j::H))):CL u (n+4) 108 [.ref A.s,.str ".att_syntax",.ref a,p.obj] (bD A g rows D (CU a T j::H)) Q X:=
 ent K rg rfl ⟨rfl,Ei K h e ⟨rfl,q⟩⟩
theorem RJ (K:aL u){k:ax}{p':V}(h:Tl T j (TK k w v p'::r)) (e:sEq k "end"=Xb) (e2:sEq k "name"=Xb) (q:∀m E,X (2,[(2,m),(3,p')]) (E++H)):CL u (n+5) 108 [.ref A.s,.str ".att_syntax",.ref a,p.obj] (bD A g rows D (CU a T j::H)) Q X:=
 ent K rg rfl ⟨rfl,Ei K h e ⟨rfl,RC K h e2 λm=>q m [_,_,_,_,_,_,_]⟩⟩
theorem RF (K:aL u){z:V}(J:A.rd=.lst [y,z])(h:Tl T j (t::r))(e:sN nB t)(q:Q .none (bD A (g.sy 1) rows D (CU a T (j+1)::H))):CL u (n+4) 108 [.ref A.s,.str ".intel_syntax",.ref a,p.obj] (bD A g rows D (CU a T j::H)) Q X:=by have q:Q .none ((A.s,.inst 0 20 [(21,.int 5000),(22,A.rd),(23,.int ((1:Nat):Int)),(24,.ref A.st),(25,.ref A.wt),(13,.ref A.eq),(26,.ref A.ct),(27,.ref A.aw),(28,.int g.dw)])::(A.st,.list (g.st.map SE.obj))::(A.wt,.list rows)::(A.eq,.list (g.eq.map QE.row))::(A.ct,.bz D)::(A.aw,.list (g.aw.map AE.row))::CU a T (j+1)::H):=q;unfold bD rA;rw[J]at q⊢;exact ent K rg rfl ⟨rfl,lp K h e (by decide+kernel) ⟨rfl,rfl,q⟩⟩
variable{p':V}{l:aP}{kw:ax}{x:Ex}
def eI (k:ax) (p':V) (G:Prop) (X:di->Hp->Prop) (H:Hp):Prop:=match sEq k "end" with|true=>G|false=>∀m E,X (2,[(2,m),(3,p')]) (E++H)
theorem eI.mono{G':Prop}(h:eI k p' G X H)(f:G->G'):eI k p' G' X H:=by
 unfold eI at h⊢;revert h;cases sEq k "end"
 .exact id
 .exact f
theorem e97 (K:aL u){E:Hp}(h:Tl T j (TK k kw v p'::r))(q:eI k p' (Q .none (CU a T j::E++H)) X H):CL u (n+3) 97 [.ref a] (CU a T j::E++H) Q X:=by
 unfold eI at q;generalize e:sEq k "end"=J;induction J with
 |true=>
  rw[e]at q;exact c97 K h e q|false=>
  rw[e]at q;exact Rn K h e λm=>q m (CU a T j::E)
def gE (g:GS)(x:Ex):Ex:=match x.hh with|true=>x.pin (mK (g.dw+1))|false=>x
theorem Nd:ik g [x]=[gE g x]:=by unfold ik gE;rw[show([x]:List Ex).any Ex.hh=x.hh from Z' _];cases x.hh<;>rfl
noncomputable def GS.qe(g:GS)(e:QE):GS:={g with eq:=g.eq++[e]}
def fP (w:ax)(x:Ex)(p:Pt)(g:GS):GS:=match sEq w "." with|true=>(g.pn [x] p).put (.bF ".org" [.e (gE g x)] p)|false=>((g.pn [x] p).qe ⟨w,gE g x,p⟩).put (.gZ w (gE g x) p)
theorem MH{e:QE}{s:SE}:bD A ((g.qe e).put s) rows D H=rA A g::(A.st,.list (g.st.map SE.obj++[s.obj]))::(A.wt,.list rows)::(A.eq,.list (g.eq.map QE.row++[e.row]))::(A.ct,.bz D)::(A.aw,.list (g.aw.map AE.row))::H:=by rw[eo];unfold GS.qe rA;rw[XQ];rfl
theorem Nc{l:List Ex}(h:g.eq.length<=1000):((g.pn l p).eq.map QE.row).length<16777216:=by rw[Xl];unfold GS.pn;cases l.any Ex.hh<;>exact Xz h ll
theorem RQ (K:aL u) (h:Tl T j (l++TK k kw v p'::r)) (O:jB l x) (Y:sEq k "sign"=Xb) (hs:g.st.length<=1000) (V:g.dw<=1000) (U:g.eq.length<=1000)
  (q:eI k p' (∀M,Q .none (bD A (fP w x p g) rows D (CU a T M::H))) X H):CL u (n+9) 106 [.ref A.s,.str w,.ref a,p.obj] (bD A g rows D (CU a T j::H)) Q X:=by
 refine ent K Rf rfl (TZ K h O (.inl ⟨_,_,_,_,rfl,Y⟩) (e97 K (E:=[_,_,_,_,_,_]) h.app (q.mono λq=>⟨rfl,I0 K (l:=[x]) (Xi rfl) hs V ?_⟩)));rw[Nd];have q:=q (j+(l.length:Int));unfold fP at q;generalize e:sEq w "."=J;induction J with
 |true=>
  rw[e]at q;have q:Q .none (bD A ((g.pn [x] p).put (.bF ".org" ([gE g x].map .e) p)) rows D (CU a T (j+(l.length:Int))::H)):=q;rw[jr]at q;exact aW e ⟨rfl,⟨rfl,Xu⟩,zd K λW=>⟨rfl,qh hs,q⟩⟩|false=>
  rw[e]at q;have q:Q .none (bD A (((g.pn [x] p).qe ⟨w,gE g x,p⟩).put (.gZ w (gE g x) p)) rows D (CU a T (j+(l.length:Int))::H)):=q;rw[MH]at q;exact bp e ⟨rfl,⟨rfl,Xu⟩,rfl,Nc U,rfl,⟨rfl,Xu⟩,w19 K λW=>⟨rfl,qh hs,q⟩⟩
noncomputable def Tf:List ax:=[".intel_syntax",".att_syntax"]
noncomputable def KW:List ax:=[".globl",".global"]
def qV (w:ax):List (Option Bool):=[dy (.str w) (tJ.map .str),dy (.str w) (Tf.map .str),dy (.str w) (rr.map .str),dy (.str w) (mU.map .str),dy (.str w) (Fq.map .str),W_ (sEq w ".section"),dy (.str w) (KW.map .str)]
noncomputable def qW (i:Nat):List (Option Bool):=[W_ (XI 0 i),W_ (XI 1 i),W_ (XI 2 i),W_ (XI 3 i),W_ (XI 4 i),W_ (XI 5 i),W_ (XI 6 i)]
theorem gQ:(∀w∈tJ,qV w=qW 0)/\(∀w∈Tf,qV w=qW 1)/\(∀w∈rr,qV w=qW 2)/\(∀w∈mU,qV w=qW 3)/\(∀w∈Fq,qV w=qW 4)/\(∀w∈KW,qV w=qW 6):=by decide+kernel
theorem lI (K:aL u){x1 x2 x3 x4 x5:bG}(h:Tl T j (TK k kw v p'::r))(q:eI k p' (Q .none (bD A g rows D (CU a T j::H))) X H):
  wp u (eM Xg (n+3) X) jg.tl.tl.tl ⟨bD A g rows D (CU a T j::H),[W_ (.ref A.s),x1,W_ (.ref a),x2,x3,x4,x5]⟩ (eQ Q):=
 e97 K (E:=[_,_,_,_,_,_]) h (q.mono λq=>q)
def HT (w:ax)(p:Pt):V:=TK "name" w (.str w) p.obj
noncomputable def aN(w:ax):List ax->Bool|[]=>Xb|y::l=>sEq y w||aN w l
theorem yM{i:Nat}{x:Option Bool}(J:qV w=qW i)(k:Nat)(e:aF (qV w) k=W_ x)(f:aF (qW i) k=W_ (W_ (XI k i))):x=W_ (XI k i):=by rw[J,f]at e;exact(XG e).symm
noncomputable def M' (u:U) (n:Nat) (Q:V->Hp->Prop) (X:di->Hp->Prop) (d:Nat):V->St->Prop:=match d with|0=>rX (wp u (eM Xg n X) jg.tl.tl.tl) (eQ Q)|d+1=>rX (wp u (eM Xg n X) .B9) (M' u n Q X d)
theorem jl (K:aL u){i:Nat}(e:qV w=qW i)
  (q:match i with
   |0=>wp u (eM Xg n X) jg.tl.h1.th ⟨bD A g rows D H,[W_ (.ref A.s),W_ (HT w p),W_ (.ref a),W_ (.str w),W_ p.obj,Xk,Xk]⟩ (rX (wp u (eM Xg n X) jg.tl.tl) (eQ Q))|k+1=>wp u (eM Xg n X) (match k with
    |0=>jg.tl.tl.h1.th|1=>jg.tl.tl.h1.el.h1.th|2=>jg.tl.tl.h1.el.h1.el.h1.th|3=>jg.tl.tl.h1.el.h1.el.h1.el.h1.th|4=>jg.tl.tl.h1.el.h1.el.h1.el.h1.el.h1.th|5=>jg.tl.tl.h1.el.h1.el.h1.el.h1.el.h1.el.h1.th|_=>jg.tl.tl.h1.el.h1.el.h1.el.h1.el.h1.el.h1.el)
    ⟨bD A g rows D H,[W_ (.ref A.s),W_ (HT w p),W_ (.ref a),W_ (.str w),W_ p.obj,Xk,Xk]⟩ (M' u n Q X (match XU k 5 with|true=>k|false=>5))):CL u (n+1) 107 [.ref A.s,HT w p,.ref a] (bD A g rows D H) Q X:=by
 refine ent K Q_ rfl ⟨Xu,mZ (ws:=tJ) (by decide),Dx (by decide) (yM e 0 rfl rfl) ?_⟩;induction i using XN with|zero=>exact AK (z:=Xg) rfl q|succ i=>
 refine AK (z:=Xb) rfl ?_;induction i using XN with|zero=>exact aW (b:=aN w Tf) (XG (yM e 1 rfl rfl)) q|succ i=>
 refine bp (b:=aN w Tf) (XG (yM e 1 rfl rfl)) ?_;refine⟨Xu,mZ (ws:=rr) (by decide),Dx (by decide) (yM e 2 rfl rfl) ?_⟩;induction i using XN with|zero=>exact AK (z:=Xg) rfl q|succ i=>
 refine AK (z:=Xb) rfl ?_;refine⟨Xu,mZ (ws:=mU) (by decide),Dx (by decide) (yM e 3 rfl rfl) ?_⟩;induction i using XN with|zero=>exact AK (z:=Xg) rfl q|succ i=>
 refine AK (z:=Xb) rfl ?_;refine⟨Xu,mZ (ws:=Fq) (by decide),Dx (by decide) (yM e 4 rfl rfl) ?_⟩;induction i using XN with|zero=>exact AK (z:=Xg) rfl q|succ i=>
 refine AK (z:=Xb) rfl ?_;induction i using XN with|zero=>exact aW (b:=sEq w ".section") (XG (yM e 5 rfl rfl)) q|succ i=>
 refine bp (b:=sEq w ".section") (XG (yM e 5 rfl rfl)) ?_;induction i using XN with|zero=>exact aW (b:=aN w KW) (XG (yM e 6 rfl rfl)) q|succ i=>exact bp (b:=aN w KW) (XG (yM e 6 rfl rfl)) q
variable{ts:aP}
def dQ (k:ax)(p':V)(A:RA)(g:GS)(rows:aP)(D:List (Int×V))(a:Addr)(T:aP)(Q:V->Hp->Prop)(X:di->Hp->Prop)(H:Hp):Prop:=eI k p' (∀j',Q .none (bD A g rows D (CU a T j'::H))) X H
theorem dQ.at (j:Int)(h:dQ k p' A g rows D a T Q X H):eI k p' (Q .none (bD A g rows D (CU a T j::H))) X H:=eI.mono h λq=>q j
variable{x2:V}{w':ax}
theorem RO (K:aL u){x1:V}(M:qV w=qW 0)(h:Tl T j (x1::x2::(l++TK k kw v p'::r)))(h1:sN w' x1)(O:oY w')(h2:j3 44 x2)(J:jB l x)(U:sEq k "sign"=Xb)(e:GB g 1000)
  (q:dQ k p' A (fP w' x p g) rows D a T Q X H):CL u (n+10) 107 [.ref A.s,HT w p,.ref a] (bD A g rows D (CU a T j::H)) Q X:=by
 obtain⟨p2,rfl⟩:=h2;exact jl K M ⟨rfl,lp K h h1 O ⟨rfl,c78 K h.next rfl ⟨rfl,RQ K h.next.next J U e.st e.dw e.eq q⟩⟩⟩
theorem IZ (K:aL u)(h:Tl T j (TK k kw v p'::r))(en:sEq k "name"=Xb)(q:dQ k p' A (g.sy 0) rows D a T Q X H):CL u (n+10) 107 [.ref A.s,HT ".att_syntax" p,.ref a] (bD A g rows D (CU a T j::H)) Q X:=by
 refine jl K (gQ.2.1 _ (by decide)) ⟨rfl,?_⟩;generalize e:sEq k "end"=J;induction J with|true=>exact RG K h e (lI K h (q.at j))|false=>unfold dQ eI at q;rw[e]at q;exact RJ K h e en q
theorem IY (K:aL u)(h:Tl T j (t::TK k kw v p'::r))(e:sN uV t)(q:dQ k p' A (g.sy 0) rows D a T Q X H):CL u (n+10) 107 [.ref A.s,HT ".att_syntax" p,.ref a] (bD A g rows D (CU a T j::H)) Q X:=
 jl K (gQ.2.1 _ (by decide)) ⟨rfl,RI K h e (lI K h.next (q.at _))⟩
theorem RN (K:aL u){z:V}(J:A.rd=.lst [y,z])(h:Tl T j (t::TK k kw v p'::r))(e:sN nB t)(q:dQ k p' A (g.sy 1) rows D a T Q X H):CL u (n+10) 107 [.ref A.s,HT ".intel_syntax" p,.ref a] (bD A g rows D (CU a T j::H)) Q X:=
 jl K (gQ.2.1 _ (by decide)) ⟨rfl,RF K J h e (lI K h.next (q.at _))⟩
theorem RM (K:aL u){l:List (V×Ex×aP)}(J:w∈rr)(h:Tl T j (ts++km l (TK k kw v p'::r)))(e:jB ts x)(O:∀y∈l,j3 44 y.1/\jB y.2.2 y.2.1)(Y:sEq k "sign"=Xb)(U:GB g m)(M:m+2* (l.length+1)<=900)
  (q:dQ k p' A (ko w p g (x::l.map (λW=>W.2.1))) rows D a T Q X H):CL u (n+10) 107 [.ref A.s,HT w p,.ref a] (bD A g rows D (CU a T j::H)) Q X:=by
 refine jl K (gQ.2.2.1 _ J) ⟨rfl,⟨rfl,IV K h e O ⟨_,_,_,_,rfl,Y⟩ (by lia) λZ h'=>acj K U ?_ (lI K h' (q.at _))⟩⟩;rw[Xq,Xl];exact Xa M ll
theorem El (K:aL u) (e:w∈Fq) (h:Tl T j (TK k kw v p'::r)) (J:GB g 1000) (q:dQ k p' A (g.put (.bF w [] p)) rows D a T Q X H):CL u (n+10) 107 [.ref A.s,HT w p,.ref a] (bD A g rows D (CU a T j::H)) Q X:=by have q:=lI (n:=n+6) K (x1:=W_ (HT w p)) (x2:=W_ (.str w)) (x3:=W_ p.obj) (x4:=Xk) (x5:=Xk) h (q.at _);rw[eo]at q;exact jl K (gQ.2.2.2.2.1 _ e) ⟨rfl,⟨rfl,Xu⟩,zd K λW=>⟨rfl,ba J.st,q⟩⟩
theorem RP (K:aL u) (h:Tl T j (t::TK k kw v p'::r)) (e:sN w' t) (J:oY w') (M:GB g 1000) (q:dQ k p' A (g.put (.bF ".section" [.s w'] p)) rows D a T Q X H):CL u (n+10) 107 [.ref A.s,HT ".section" p,.ref a] (bD A g rows D (CU a T j::H)) Q X:=by have q:=lI (n:=n+6) K (x1:=W_ (HT ".section" p)) (x2:=W_ (.str ".section")) (x3:=W_ p.obj) (x4:=Xk) (x5:=Xk) h.next (q.at _);rw[eo]at q;exact jl K (i:=5) (by decide+kernel) ⟨rfl,⟨rfl,Xu⟩,rfl,lp K h e J (zd K λW=>⟨rfl,ba M.st,q⟩)⟩
theorem Wt{l:List ax}:(l.map Arg.s).map Arg.obj=l.map .str:=by rw[Yn];rfl
theorem En (K:aL u){l:List (V×ax×aP)}(e:w∈KW) (h:Tl T j (t::km l (TK k kw v p'::r))) (J:sN w' t/\oY w') (O:∀y∈l,j3 44 y.1/\oY y.2.1/\ ∃s,y.2.2=[s] /\sN y.2.1 s) (Y:sEq k "sign"=Xb) (M:l.length<=900) (U:GB g 1000)
  (q:dQ k p' A (g.put (.bF ".globl" ((w'::l.map (λW=>W.2.1)).map .s) p)) rows D a T Q X H):CL u (n+10) 107 [.ref A.s,HT w p,.ref a] (bD A g rows D (CU a T j::H)) Q X:=by
 refine jl K (gQ.2.2.2.2.2 _ e) ⟨rfl,⟨rfl,Xu⟩,rfl,ach K h J O ⟨_,_,_,_,rfl,Y⟩ M λZ h'=>zd K λW=>⟨rfl,ba U.st,?_⟩⟩;have q:=lI (n:=n+6) K (x1:=W_ (HT w p)) (x2:=W_ (.str w)) (x3:=W_ p.obj) (x4:=Xk) (x5:=Xk) h' (q.at _);rw[eo,show SE.obj (.bF ".globl" ((w'::l.map (λW=>W.2.1)).map .s) p)=.obj 18 [(16,.str "deed"),(3,p.obj),(18,.str ".globl"),(19,.lst ((w'::l.map (λW=>W.2.1)).map .str))]from WX (λx=>V.obj 18 [(16,.str "deed"),(3,p.obj),(18,.str ".globl"),(19,.lst x)]) Wt]at q;exact q
theorem xC{e:di}(q:∀m E,X (e.1,(2,m)::e.2) (E++H)):∀m E,X (e.1,(2,m)::e.2) (E++(CU a T j::H)):=λm E=>by rw[List.append_cons];exact q m _
theorem Ek (K:aL u){l:List (V×Ex×aP)}{b2 b3:Bool}(Y:qV w=qW 7) (h1:dy (.str w) (pO.map .str)=W_ b1) (h2:dy (.str w) (pN.map .str)=W_ b2) (h3:sEq w ".fill"=b3) (hk:(b1||(b2||b3))) (h:Tl T j (ts++km l (TK k kw v p'::r))) (U:jB ts x) (Z:∀y∈l,j3 44 y.1/\jB y.2.2 y.2.1) (ek:sEq k "sign"=Xb) (M:GB g 1000) (J:l.length<=900)
  (q:match XU (l.length+1) (FN b1 b2 b3)with|true=>dQ k p' A ((g.pn (x::l.map (λW=>W.2.1)) p).put (.bF w ((ik g (x::l.map (λW=>W.2.1))).map .e) p)) rows D a T Q X H|false=>∀m E,X (2,[(2,m),(3,p.obj)]) (E++H)):CL u (n+10) 107 [.ref A.s,HT w p,.ref a] (bD A g rows D (CU a T j::H)) Q X:=by
 refine jl K (i:=7) Y ⟨rfl,⟨rfl,IV K h U Z ⟨_,_,_,_,rfl,ek⟩ J λO h'=>RE K h1 h2 h3 hk ?_ M.st M.dw ?_⟩⟩
 .rw[Xq,Xl];exact Xa (XH J) ll
 .rw[Xq,Xl];show match XU (l.length+1) (FN b1 b2 b3)with|true=>_|false=>_;revert q;cases XU (l.length+1) (FN b1 b2 b3)with|true=>exact λq=>lI K h' (dQ.at O q)|false=>exact λq=>xC (e:=(2,[(3,p.obj)])) q
theorem IX (K:aL u){b2 b3:Bool}(M:qV w=qW 7) (h1:dy (.str w) (pO.map .str)=W_ b1) (h2:dy (.str w) (pN.map .str)=W_ b2) (h3:sEq w ".fill"=b3) (hk:(b1||(b2||b3))) (h:Tl T j (TK "end" kw v p'::r)) (J:GB g 1000)
  (q:∀m E,X (2,[(2,m),(3,p.obj)]) (E++H)):CL u (n+10) 107 [.ref A.s,HT w p,.ref a] (bD A g rows D (CU a T j::H)) Q X:=
 jl K (i:=7) M ⟨rfl,⟨rfl,RB K h (RE K (l:=[]) h1 h2 h3 hk (Ye _) J.st J.dw (xC (e:=(2,[(3,p.obj)])) q))⟩⟩
theorem RK (K:aL u){l:List (V×Ex×aP)}(O:qV w=qW 7) (h1:dy (.str w) (pO.map .str)=W_ Xb) (h2:dy (.str w) (pN.map .str)=W_ Xb) (h3:sEq w ".fill"=Xb) (J:w.length<=1000) (h:Tl T j (ts++km l (TK k kw v p'::r))) (M:jB ts x) (Y:∀y∈l,j3 44 y.1/\jB y.2.2 y.2.1) (Z:sEq k "sign"=Xb) (U:l.length<=900)
  (q:∀m E,X (2,[(2,m),(3,p.obj)]) (E++H)):CL u (n+10) 107 [.ref A.s,HT w p,.ref a] (bD A g rows D (CU a T j::H)) Q X:=
 jl K (i:=7) O ⟨rfl,⟨rfl,IV K h M Y ⟨_,_,_,_,rfl,Z⟩ U λj' h'=>RD K h1 h2 h3 J (xC (e:=(2,[(3,p.obj)])) q)⟩⟩
theorem Ua{s:ax}{t:List UInt8}(h:s.length<=100)(e:t.length<=1:=by decide):(ye s).length+t.length<=16777216:=by unfold ye;rw[Xl];exact bB (Xm h e) rfl
def CD (w s:ax):Arg:=.y (ye s++match sEq w ".ascii" with|true=>[]|false=>[0])
theorem RL (K:aL u){s s':ax}{t1 k1 t2:V}(U:w∈mU) (h:Tl T j (t1::k1::t2::TK k kw v p'::r)) (h1:Sk s t1) (hk:j3 44 k1) (h2:Sk s' t2) (M:sEq k "sign"=Xb) (b1:(∀c∈s,c<=255)/\s.length<=100) (b2:(∀c∈s',c<=255)/\s'.length<=100) (J:GB g 1000)
  (q:dQ k p' A (g.put (.bF w [CD w s,CD w s'] p)) rows D a T Q X H):CL u (n+10) 107 [.ref A.s,HT w p,.ref a] (bD A g rows D (CU a T j::H)) Q X:=by
 have h3:Tl T (j+3) (TK k kw v p'::r):=by have:=h.next.next.next;rwa [show j+1+1+1=j+3 by lia]at this
 have q:=λx5=>lI (n:=n+6) K (x1:=W_ (HT w p)) (x2:=W_ (.str w)) (x3:=W_ p.obj) (x4:=Xk) (x5:=x5) h3 (q.at _);rw[eo]at q;unfold CD at q;refine jl K (gQ.2.2.2.1 _ U) ?_;generalize e:sEq w ".ascii"=O;induction O with
 |true=>
  rw[e]at q;refine aW e ⟨rfl,⟨rfl,Xu⟩,rfl,Rz K h h1 hk h2 ⟨_,_,_,_,rfl,M⟩ b1 b2 ?_⟩;exact⟨Ua b1.2,Y' _,Ua b2.2,hZ rfl,zd K λW=>⟨rfl,ba J.st,q _⟩⟩|false=>
  rw[e]at q;refine bp e ⟨rfl,⟨rfl,Xu⟩,rfl,Rz K h h1 hk h2 ⟨_,_,_,_,rfl,M⟩ b1 b2 ?_⟩;exact⟨Ua b1.2,Y' _,Ua b2.2,hZ rfl,zd K λW=>⟨rfl,ba J.st,q _⟩⟩
variable{en tk:V}{g':GS}
abbrev eh (u:U)(n:Nat)(Q:V->Hp->Prop)(X:di->Hp->Prop)(A:RA)(tk:V)(T:aP)(H:Hp):Prop:=wp u (eM Xg n X) GH.tl ⟨H,[W_ (.ref A.s),W_ tk,W_ (.lst T),Xk,Xk]⟩ (eQ Q)
theorem I1 (K:aL u){l:List (Lb×Pt×V)}{ws:List (Lx×Pt)}(e:T=l9 l (ws.map kJ++[en])) (hT:T.length<=16777216) (ct:cE D g.c1 g.c2) (gb:GB g m) (Y:m+l.length<=1000) (Z:∀x∈l,x.1.ok) (U:vh (ws.map kJ++[en])) (he:∃w v p,en=TK "end" w v p) (O:ws.length<=1000) (J:GB (aM g l) 1000)
  (q:match gO (aM g l) ws with|none=>∀D',cE D' (aM g l).c1 (aM g l).c2->eh u (n+7) Q X A (.lst T) (ws.map (pJ (aM g l))++[en]) (bD A ((aM g l).ie ((aM g l).aw++iH (aM g l) ws)) rows D' H)|some p=>∀m E,X (3,[(2,m),(3,p.obj)]) (E++H)):CL u (n+8) 101 [.ref A.s,.lst T] (bD A g rows D H) Q X:=by
 refine ent K Rj rfl ⟨rfl,rfl,acm K e hT ct gb Y Z U λD' M=>ack K he M J.c1 J.c2 O J.aw ?_⟩;revert q;cases gO (aM g l) ws with|none=>exact λq=>q D' M|some p=>exact λq=>q
theorem K0 (K:aL u)(q:Q .none (bD A g rows D H)):eh u (n+7) Q X A tk [TK "end" kw v p'] (bD A g rows D H):=
 Th K λa=>⟨rfl,s9 K (Tl.zero (Xi rfl)) ⟨rfl,q⟩⟩
theorem KY (K:aL u) (e:(TK k kw v p'::r).length<=16777216) (J:sEq k "end"=Xb) (e2:sEq k "name"=Xb) (q:∀m E,X (2,[(2,m),(3,p')]) (E++H)):eh u (n+7) Q X A tk (TK k kw v p'::r) (bD A g rows D H):=
 Th K λa=>⟨rfl,s9 K (Tl.zero e) (bp J (aW (nt e2) (x3 K rfl rfl rfl (q _ [_,_,_,_,_,_,_]))))⟩
theorem KZ (K:aL u) (M:(HT w p::x2::(ts++TK k kw v p'::r)).length<=16777216) (h2:j3 61 x2) (J:jB ts x) (O:sEq k "sign"=Xb) (e:GB g 1000)
  (q:eI k p' (Q .none (bD A (fP w x p g) rows D H)) X H):eh u (n+12) Q X A tk (HT w p::x2::(ts++TK k kw v p'::r)) (bD A g rows D H):=by
 obtain⟨p2,rfl⟩:=h2;have h:=λa:Addr=>Tl.zero M;exact Th K λa=>⟨rfl,s9 K (h a) ⟨rfl,yb K (h a) rfl ⟨rfl,yb K (h a).next rfl ⟨rfl,RQ K (h a).next.next J O e.st e.dw e.eq (q.mono λq W=>⟨rfl,q⟩)⟩⟩⟩⟩
variable{w2:ax}{v2:V}
theorem tL (K:aL u){k2:ax}{p2:V}(M:(HT w p::TK k2 w2 v2 p2::r).length<=16777216) (h2:(sEq k2 "sign"&&sEq w2 "=")=Xb)
  (q:∀a,wp u (eM Xg (n+7) X) GH.tl.tl.tl.tl.tl.h1.el ⟨bD A g rows D (CU a (HT w p::TK k2 w2 v2 p2::r) 0::H),[W_ (.ref A.s),W_ tk,W_ (.lst (HT w p::TK k2 w2 v2 p2::r)),W_ (.ref a),W_ (HT w p)]⟩ (rX (wp u (eM Xg (n+7) X) .B9) (eQ Q))):eh u (n+7) Q X A tk (HT w p::TK k2 w2 v2 p2::r) (bD A g rows D H):=by
 refine Th K λa=>⟨rfl,s9 K (Tl.zero M) ?_⟩;generalize e:sEq k2 "sign"=J;induction J with|false=>exact bp e (q a)|true=>rw[e,ZD]at h2;exact aW e (bp h2 (q a))
theorem K1 (K:aL u){k2:ax}{p2:V}(e:(HT (46::w') p::TK k2 w2 v2 p2::r).length<=16777216) (h2:(sEq k2 "sign"&&sEq w2 "=")=Xb)
  (dd:∀{a Q' X'},dQ k p' A g' rows D a (HT (46::w') p::TK k2 w2 v2 p2::r) Q' X' H->CL u (n+10) 107 [.ref A.s,HT (46::w') p,.ref a] (bD A g rows D (CU a (HT (46::w') p::TK k2 w2 v2 p2::r) 1::H)) Q' X')
  (q:eI k p' (Q .none (bD A g' rows D H)) X H):eh u (n+10) Q X A tk (HT (46::w') p::TK k2 w2 v2 p2::r) (bD A g rows D H):=
 tL (n:=n+3) K e h2 λa=>⟨rfl,yb K (Tl.zero e) rfl ⟨rfl,dd (q.mono λq W=>⟨rfl,q⟩)⟩⟩
theorem Fx (K:aL u){k2:ax}{p2:V}(J:(HT (46::w') p::TK k2 w2 v2 p2::r).length<=16777216) (h2:(sEq k2 "sign"&&sEq w2 "=")=Xb)
  {e:V}(dd:∀{a Q' X'},(∀m E,X' (2,[(2,m),(3,e)]) (E++H))->CL u (n+10) 107 [.ref A.s,HT (46::w') p,.ref a] (bD A g rows D (CU a (HT (46::w') p::TK k2 w2 v2 p2::r) 1::H)) Q' X') (q:∀m E,X (2,[(2,m),(3,e)]) (E++H)):eh u (n+10) Q X A tk (HT (46::w') p::TK k2 w2 v2 p2::r) (bD A g rows D H):=
 tL (n:=n+3) K J h2 λa=>⟨rfl,yb K (Tl.zero J) rfl ⟨rfl,dd q⟩⟩
theorem K2 (K:aL u){k2:ax}{p2:V}(J:XI c 46=Xb) (M:(HT (c::w') p::TK k2 w2 v2 p2::r).length<=16777216) (h2:(sEq k2 "sign"&&sEq w2 "=")=Xb) (O:GB g 1000) (e:rows.length<=1000)
  (q:∀a,Q .none (bD A (g.put (.code p)) (rows++[.tup [.int g.st.length,.ref a,.int g.eO,p.obj]]) D (CU a (HT (c::w') p::TK k2 w2 v2 p2::r) 0::H))):eh u (n+10) Q X A tk (HT (c::w') p::TK k2 w2 v2 p2::r) (bD A g rows D H):=by
 refine tL (n:=n+3) K M h2 λa=>?_;have q:=q a;rw[eo,show g.st.length=(g.st.map SE.obj).length from (Xl ..).symm]at q;exact bp (b:=sEq [c] ".") ((jK c 46).trans J) ⟨rfl,⟨rfl,Xu⟩,rfl,rfl,rfl,rfl,lt1000 e,rfl,⟨rfl,Xu⟩,rfl,ba O.st,q⟩
variable{vv:V}{T:List (ax×V)}{lU:List ax}
structure Af where
 w:Int
 p:ax
 m:ax
def Af.vl(a:Af):V:=AF a.w a.p a.m
abbrev FT:=ax->Option Af
noncomputable def FT.at(F:FT)(s:ax):Af:=match F s with|some a=>a|none=>⟨0,s,[]⟩
def At.af(F:FT)(h:ax):At->Af|.num v=>⟨v,[],[]⟩|.dot=>⟨0,h,[]⟩|.sym s=>F.at s
def eB(p m:ax):Af:=match sEq p m with|true=>⟨0,[],[]⟩|false=>⟨0,p,m⟩
def Ex.af (F:FT)(h:ax):Ex->Af|.at x=>x.af F h|.bin g x (.num y)=>⟨Nf g (x.af F h).w y,(x.af F h).p,(x.af F h).m⟩|.bin _ x (.sym y)=>eB (x.af F h).p y|_=>⟨0,[],[]⟩
def At.sh(h:ax):At->Bool|.num _=>Xg|.dot=>!sEq h []|.sym s=>!sEq s []
def At.Jt(h:ax):At->Bool|.num _=>Xb|x=>x.sh h
def At.out(ns:List ax):At->Bool|.sym s=>!aN s ns|_=>Xg
def Ex.sh (ns:List ax)(h:ax):Ex->Bool|.at x=>x.sh h|.bin _ x (.num _)=>x.Jt h|.bin g x (.sym y)=>g&&(x.Jt h&&(x.out ns&&(!sEq y []&&!aN y ns)))|_=>Xb
structure FOf(ns:List ax)(s:ax)(a:Af):Prop where
 h1:aN s ns=Xg
 h2:kl a.p a.m=Xg
 h3:aN a.p ns=Xb
 h4:aN a.m ns=Xb
structure ic(ns:List ax)(F:FT):Prop where
 e:aN [] ns=Xb
 f:∀s a,F s=W_ a->FOf ns s a
structure TR (T:List (ax×V))(F:FT):Prop where
 lk:∀s,T.lookup s=(F s).map Af.vl
 nd:(T.map (λW=>W.1)).Nodup
variable{ns:List ax}{F:FT}
theorem ic.out(f:ic ns F){s:ax}(h:aN s ns=Xb):F s=Xk:=by
 generalize e:F s=J;induction J with|none=>rfl|some a=>rw[(f.f s a e).1]at h;exact ft h
theorem CF(f:ic ns F)(r:TR T F)(J:T.length<=1000):ja T:=by refine⟨by rw[r.lk,f.out f.e];rfl,λs v e=>?_,J⟩;rw[r.lk]at e;obtain⟨a,e2,rfl⟩:=X6.mp e;obtain⟨-,h1,h2,h3⟩:=f.f s a e2;exact⟨a.w,a.p,a.m,rfl,h1,by rw[r.lk,f.out h2];rfl,by rw[r.lk,f.out h3];rfl⟩
theorem TR.fnd(r:TR T F){s:ax}:mh T s=(F.at s).vl:=by unfold mh FT.at;rw[r.lk];cases F s<;>rfl
theorem TR.val(r:TR T F){x:At}:x.val T h=(x.af F h).vl:=by induction x with|sym s=>exact r.fnd|_=>rfl
theorem qo{s:ax}(h:sEq s []=Xb):kl s []:=by induction s using Xn with|nil=>exact ft h|cons=>rfl
theorem ic.at (f:ic ns F){x:At}(J:x.sh h):kl (x.af F h).p (x.af F h).m:=by
 induction x with|num=>rfl|dot=>exact qo ((XR _).mp J)|sym s=>show kl (F.at s).p (F.at s).m;unfold FT.at;generalize e:F s=K;induction K with|none=>exact qo ((XR _).mp J)|some a=>exact(f.f s a e).2
theorem oF{x:At}(e:x.Jt h):x.sh h:=by induction x with|num=>exact ff e|_=>exact e
theorem cS:∀{l:List ax},dy (.str w) (l.map .str)=W_ (aN w l):=by
 intro l;induction l with
 |nil=>
  exact rfl|cons y l ih=>
  show Nl (W_ (sEq y w)) (dy (.str w) (l.map .str))=_;rw[ih];rfl
theorem CP (f:ic ns F) (r:TR T F) (J:x.sh ns h):x.ev T h (x.af F h).vl:=by
 have zF:∀{y:At},y.sh h=Xg->match y with|.num _=>True|.dot=>sEq h []=Xb|.sym s=>sEq s []=Xb:=λ{y}e=>by induction y with|num=>trivial|_=>exact(XR _).mp e
 have Js:∀{y:At},y.Jt h=Xg->match y with|.num _=>False|.dot=>sEq h []=Xb|.sym s=>sEq s []=Xb:=λ{y}e=>by induction y with|num=>exact ff e|_=>exact(XR _).mp e
 induction x with|«at» x=>exact⟨zF J,r.val.symm⟩|bin g x y=>induction y with|dot=>exact ff J|num y=>exact⟨Js J,_,_,_,r.val,f.at (oF J),rfl⟩|sym y=>
   obtain⟨rfl,J⟩:=aH J;obtain⟨h1,J⟩:=aH J;obtain⟨h2,J⟩:=aH J;obtain⟨h3,h4⟩:=aH J;have fin:∀p,x.val T h=AF 0 p [] ->sEq p []=Xb->(x.af F h).p=p->Ex.ev T h (.bin Xg x (.sym y)) (Ex.af F h (.bin Xg x (.sym y))).vl:=λp M e2 K=>
    ⟨rfl,Js h1,(XR _).mp h3,by rw[r.lk,f.out ((XR _).mp h4)];rfl,p,M,e2,by show(eB (x.af F h).p y).vl=_;rw[K];unfold eB jP;cases sEq p y<;>rfl⟩
   induction x with
   |num=>exact ff h1|dot=>exact fin h rfl ((XR _).mp h1) rfl
   |sym s=>
    have e:F.at s=⟨0,s,[]⟩:=by unfold FT.at;rw[f.out ((XR _).mp h2)]
    refine fin s ?_ ((XR _).mp h1) (WX Af.p e);show mh T s=_;rw[r.fnd,e];rfl
variable{ns:List ax}{F:FT}
def mJ(ns:List ax)(F:FT)(x:Ex):Bool:=x.lU.all λo=>!aN o ns||(F o).isSome
def FT.put(F:FT)(w:ax)(a:Af):FT:=λs=>match sEq s w with|true=>W_ a|false=>F s
noncomputable def pass (ns:List ax):FT->List QE->List QE->FT×List QE|F,lat,[]=>(F,lat)|F,lat,r::l=>match mJ ns F r.x with|true=>pass ns (F.put r.w (r.x.af F [])) lat l|false=>pass ns F (lat++[r]) l
noncomputable def solve (ns:List ax):Nat->FT->List QE->Pt⊕FT|_,F,[]=>.inr F|0,_,r::_=>.inl r.p|k+1,F,r::l=>match XI (pass ns F [] (r::l)).2.length (l.length+1),(pass ns F [] (r::l)).2 with|true,y::_=>.inl y.p|_,lat=>solve ns k (pass ns F [] (r::l)).1 lat
theorem Cn{l:List (ax×V)}(h:w∈l.map (λW=>W.1)):l.any (λx=>x.1==w):=by obtain⟨y,m,rfl⟩:=Yi.mp h;exact List.any_eq_true.mpr ⟨y,m,WY _⟩
theorem Lp{l:List (ax×V)}(h:(l.map (λW=>W.1)).Nodup):((fG l w y).map (λW=>W.1)).Nodup:=by
 unfold fG;generalize e:(l.any λx=>x.1==w)=J;induction J with|true=>
  rw[W0 rfl,Yn,show((λx:ax×V=>x.1) ∘λx=>if(x.1==w)=Xg then(x.1,y)else x)=(λW=>W.1)from funext λx=>by show(if(x.1==w)=Xg then(x.1,y)else x).1=x.1;split<;>rfl];exact h|false=>
  rw[WZ Xy,XQ];refine List.nodup_append.mpr ⟨h,X5.mpr ⟨(nomatch ·),.nil⟩,λa M b K q=>?_⟩;rw[Xs.mp K]at q;subst q;rw[Cn M]at e;exact ft e
theorem TR.put{A:Af}(e:TR T F):TR (fG T w A.vl) (F.put w A):=by
 refine⟨λs=>?_,Lp e.nd⟩;rw[rz.1];unfold FT.put;rw[bH];cases s==w
 .exact e.lk s
 .rfl
theorem allM{l:List α}{f:α->Bool}(h:l.all f){y:α}(m:y∈l):f y:=XM.mp h y m
theorem ic.at' (f:ic ns F){y:At}(M:aN h ns=Xb)(J:y.lU.all (λo=>!aN o ns||(F o).isSome)=Xg):aN (y.af F h).p ns=Xb/\aN (y.af F h).m ns=Xb:=by
 induction y with|num=>exact⟨f.e,f.e⟩|dot=>exact⟨M,f.e⟩|sym s=>
  show aN (F.at s).p ns=Xb/\aN (F.at s).m ns=Xb;have J:(!aN s ns||(F s).isSome):=allM J (.head _);unfold FT.at;generalize e:F s=K;induction K with
  |none=>rw[e]at J;exact⟨(XR _).mp ((Z' _).symm.trans J),f.e⟩|some A=>exact⟨(f.f s A e).3,(f.f s A e).4⟩
theorem ic.af (f:ic ns F)(U:aN h ns=Xb)(J:x.sh ns h)(M:mJ ns F x):kl (x.af F h).p (x.af F h).m/\aN (x.af F h).p ns=Xb/\aN (x.af F h).m ns=Xb:=by
 induction x with|«at» x=>exact⟨f.at J,f.at' U M⟩|bin g x y=>
  have K:x.lU.all (λo=>!aN o ns||(F o).isSome):=by have M:(x.lU++y.lU).all _:=M;rw[YI,XS]at M;exact M.1
  induction y with|dot=>exact ff J|num y=>exact⟨f.at (oF J),f.at' U K⟩|sym y=>
   obtain⟨-,J⟩:=aH J;obtain⟨h1,J⟩:=aH J;obtain⟨h2,J⟩:=aH J;obtain⟨h3,h4⟩:=aH J;show kl (eB (x.af F h).p y).p (eB (x.af F h).p y).m=Xg/\aN (eB (x.af F h).p y).p ns=Xb/\aN (eB (x.af F h).p y).m ns=Xb;unfold eB;generalize e:sEq (x.af F h).p y=O;induction O with|true=>exact⟨rfl,f.e,f.e⟩|false=>
    refine⟨?_,(f.at' U K).1,(XR _).mp h4⟩;show kl (x.af F h).p y;generalize q:(x.af F h).p=O;induction O using Xn with
    |nil=>induction y using Xn with|nil=>rfl|cons=>rfl
    |cons c s=>
     rw[q]at e
     exact nt e
theorem ic.put (f:ic ns F){A:Af}(M:aN w ns)(J:kl A.p A.m/\aN A.p ns=Xb/\aN A.m ns=Xb):ic ns (F.put w A):=by
 refine⟨f.e,λs B e=>?_⟩;unfold FT.put at e;generalize q:sEq s w=K;induction K with
 |true=>
  rw[q]at e;have:s=w:=by rw[bH]at q;exact W6 q
  cases e;rw[this];exact⟨M,J.1,J.2.1,J.2.2⟩|false=>
  rw[q]at e;exact f.f s B e
theorem oR{r:QE}{l lat:List QE}(e:mJ ns F r.x):pass ns F lat (r::l)=pass ns (F.put r.w (r.x.af F [])) lat l:=by show(match mJ ns F r.x with|true=>_|false=>_)=_;rw[e]
theorem oS{r:QE}{l lat:List QE}(e:mJ ns F r.x=Xb):pass ns F lat (r::l)=pass ns F (lat++[r]) l:=by show(match mJ ns F r.x with|true=>_|false=>_)=_;rw[e]
theorem u4:∀{l:List QE}{F:FT}{lat:List QE},(pass ns F lat l).2.length<=lat.length+l.length:=by
 intro l;induction l with
 |nil=>
  intro _ _;exact Xh _|cons r l ih=>
  intro F lat;generalize e:mJ ns F r.x=J;induction J with|true=>rw[oR e];exact XE ih|false=>rw[oS e];refine Xa (ih) ?_;rw[Xc,X_];exact X4 (WX (lat.length+ ·) (YN 1 _))
theorem u3:∀{l:List QE}{F:FT}{lat:List QE}{y:QE},y∈(pass ns F lat l).2->y∈lat\/y∈l:=by
 intro l;induction l with|nil=>
  intro _ _ _ m;exact .inl m|cons r l ih=>
  intro F lat y m;generalize e:mJ ns F r.x=J;induction J with|true=>exact(ih (oR e▸m)).imp_right (.tail _)|false=>
   rw[oS e]at m;rcases ih m with m|m
   .rcases Yk.mp m with m|m
    .exact .inl m
    .rw[Xs.mp m];exact .inr (.head _)
   .exact .inr (.tail _ m)
theorem Lr:x.sh ns []=Xg->(match x with|.at .dot=>False|.bin _ (.sym _) (.num _)=>True|.bin _ (.sym _) (.sym _)=>True|.at _=>True|_=>False):=by
 intro e
 induction x with
 |«at» x=>induction x with|dot=>exact ff e|_=>trivial
 |bin g x y=>induction x with
  |num=>induction y with
   |num=>exact ff e
   |dot=>exact ff e
   |sym=>cases g<;>exact ff e
  |dot=>induction y with
   |num=>exact ff e
   |dot=>exact ff e
   |sym=>cases g<;>exact ff e
  |sym=>induction y with
   |dot=>exact ff e
   |_=>trivial
def NH:N:=ao (.cmp .Eq 0 3 (.lc [1,3] (.fb (.a_ 40 [] #[cP])) (aQ (bR ae ay) (cW ae aq)) ae) (.fB .bJ)) (.il 0 (.a_ 39 [0] #[cP,.ez 11 #[aq]]) aq bY^aa) (aC (.bT 1 0 b7 #[au #[bY,cP,fJ]])^aa)^aa
def NG:N:=ak 6 (.lst 1 .bJ)^.iA [7,8,9] (.fb ay) (ao (.cmp .Eq 0 3 (.lc [1,3] (.fb (.a_ 40 [] #[cP])) (aQ (bR ae ay) (cW ae aq)) ae) (.fB .bJ)) (.il 0 (.a_ 39 [0] #[cP,.ez 11 #[aq]]) aq bY^aa) (aC (.bT 1 0 b7 #[au #[bY,cP,fJ]])^aa)^aa)^ao (av (.bU 0 1 #[b7]) (.bU 0 0 #[ay])) (.dY (.iz 6 1) (.gD 3 #[ag "equates that lean on each other in a ring",aG 0 2 (aG 0 0 b7)]^aa)) aa^.dY (.iz 6 1) (ak 2 b7^aa)
theorem inW (q:P (.bool (aN w ns)) C):AM P .In 0 0 (.str w) (.lst (ns.map .str)) C:=by show ck (dy (.str w) (ns.map .str)) λz=>P (.bool z) C;rw[cS];exact q
theorem TR.is(tr:TR T F){s:ax}:(T.lookup s).isSome=(F s).isSome:=by rw[tr.lk,Option.isSome_map]
theorem MG{J:List ax}(K:∀w,w∈J↔w∈x.lU):(J.filter λo=>aN o ns&&!(F o).isSome).isEmpty=mJ ns F x:=by
 have e:∀o,(aN o ns&&!(F o).isSome)=!(!aN o ns||(F o).isSome):=λo=>by cases aN o ns<;>cases(F o).isSome<;>rfl
 rw[Bool.eq_iff_iff,List.isEmpty_iff,List.filter_eq_nil_iff];unfold mJ;rw[XM];refine⟨λh w m=>?_,λh w m=>?_⟩
 .have:=h w ((K w).mpr m);rw[e,Bool.not_eq_true,Bool.not_eq_false']at this;exact this
 .rw[e,h w ((K w).mp m)];exact Xy
inductive SO (H:Hp)(fA lA:Addr)(y0 y2 y4 y5:bG)(ns:List ax)(F:FT)(wait:List QE)(m:Nat)(l:List QE)(C:St):Prop|mk (T' F' lat y7 y8 y9)(h0:C=⟨(fA,.aU T')::(lA,.list (lat.map QE.row))::H,[y0,W_ (.ref fA),y2,W_ (.lst (ns.map .str)),y4,y5,W_ (.ref lA),y7,y8,y9]⟩)(h1:TR T' F')(h2:ic ns F')(h3:pass ns F' lat l=pass ns F [] wait)(h4:T'.length+(lat.length+l.length)<=m)(h5:∀r∈l,r.x.sh ns []=Xg/\aN r.w ns)
theorem u2 (K:aL u){fA Y:Addr}{y0 y2 y4 y5:bG}{J:List QE}{Q':V->St->Prop}{y7 y8 y9:bG}(tr:TR T F) (f:ic ns F) (hT:T.length+J.length<=1000) (hw:∀r∈J,r.x.sh ns [] /\aN r.w ns)
  (q:∀T' y7 y8 y9,TR T' (pass ns F [] J).1->ic ns (pass ns F [] J).1->T'.length+(pass ns F [] J).2.length<=T.length+J.length->Q' .none ⟨(fA,.aU T')::(Y,.list ((pass ns F [] J).2.map QE.row))::H,[y0,W_ (.ref fA),y2,W_ (.lst (ns.map .str)),y4,y5,W_ (.ref Y),y7,y8,y9]⟩):
  forL (hH [7,8,9]) (wp u (eM Xg (n+10) X) NH) (J.map QE.row) ⟨(fA,.aU T)::(Y,.list [])::H,[y0,W_ (.ref fA),y2,W_ (.lst (ns.map .str)),y4,y5,W_ (.ref Y),y7,y8,y9]⟩ Q':=by
 refine forM (f:=QE.row) (SO H fA Y y0 y2 y4 y5 ns F J (T.length+J.length)) ?_ ?_ ⟨T,F,[],_,_,_,rfl,tr,f,rfl,by rw[Yh,X7];exact Xh _,hw⟩
 .rintro _ ⟨T',F',lat,z7,z8,z9,rfl,M,f',e,O,-⟩;have U:(pass ns F [] J).1=F':=WX (λW=>W.1) e.symm;have e2:(pass ns F [] J).2=lat:=WX (λW=>W.2) e.symm;have q:=q T' z7 z8 z9;rw[U,e2]at q;exact q M f' O
 .rintro r l G hG _ ⟨T',F',lat,z7,z8,z9,rfl,M,f',e,O,hw'⟩;obtain⟨sh,hn⟩:=hw' r (.head _);have Z:∀r∈l,r.x.sh ns [] /\aN r.w ns:=λr m=>hw' r (.tail _ m);rw[Xq]at O;have big:T'.length<=1000:=Xa (Xp ..) (Xa O hT);have fin:wp u (eM Xg (n+10) X) NH ⟨(fA,.aU T')::(Y,.list (lat.map QE.row))::H,[y0,W_ (.ref fA),y2,W_ (.lst (ns.map .str)),y4,y5,W_ (.ref Y),W_ (.str r.w),W_ r.x.obj,W_ r.p.obj]⟩ (Pm Q' G):=by
   refine c40 K (Lr sh) λms hm hl=>JA (f:=V.str) (λo=>aN o ns&&!(F' o).isSome) V.str (P:=λW=>True) (λx W acc G al h1 h2=>inW ?_) (by rw[Yh,X7];exact Xa hl ll) (λW W=>trivial) ⟨rfl,?_⟩
   .generalize U:aN x ns=zz;induction zz with|false=>exact h2 (by rw[U];rfl)|true=>have e5:(!(List.lookup x T').isSome)=!(F' x).isSome:=WX Bool.not M.is;generalize e2:(F' x).isSome=zz;induction zz with|true=>exact⟨rfl,bp (b:=!(List.lookup x T').isSome) (e5.trans (nf e2)) (h2 (by rw[U,e2];rfl))⟩|false=>exact⟨rfl,aW (b:=!(List.lookup x T').isSome) (e5.trans (nt e2)) ⟨al,h1 (by rw[U,e2];rfl)⟩⟩
   .have e4:((ms.filter λo=>aN o ns&&!(F' o).isSome).map V.str).isEmpty=mJ ns F' r.x:=by rw[Z6,MG hm]
    generalize U:mJ ns F' r.x=zz;induction zz with
    |true=>
     rw[oR U]at e
     refine aW (e4.trans U) (w11 K λW=>abU K (CF f' M big) (CP f' M sh) ⟨rfl,Xz big ll,hG _ ⟨_,_,_,_,_,_,rfl,M.put,f'.put hn (f'.af f'.e sh U),e,?_,Z⟩⟩);exact Xa (Xw rz.2 _) (by rw[X_,YN 1,X_];exact O)|false=>
     rw[oS U]at e;have e2:pass ns F' (lat++[r]) l=pass ns F [] J:=e;have lb:lat.length<=1000:=Xa (Xp ..) (Xa (Zc ..) (Xa O hT));have h':=hG ⟨(fA,.aU T')::(Y,.list ((lat++[r]).map QE.row))::H,_⟩ ⟨_,_,lat++[r],W_ (.str r.w),W_ r.x.obj,W_ r.p.obj,rfl,M,f',e2,by rw[Xc,X_,YN [_].length];exact O,Z⟩;rw[XQ]at h';exact bp (e4.trans U) ⟨⟨rfl,Xu⟩,rfl,ba lb,h'⟩
  exact fin
noncomputable def ia:List ax->List QE->Option Pt|_,[]=>Xk|seen,r::l=>match aN r.w seen with|true=>W_ r.p|false=>ia (seen++[r.w]) l
def xP (X:di->Hp->Prop) (H:Hp) (c:Nat) (p:Pt):Prop:=∀m E,X (c,[(2,m),(3,p.obj)]) (E++H)
def xS{α:Type}(X:di->Hp->Prop)(H:Hp)(k:α->Prop):Pt⊕α->Prop|.inl p=>xP X H 3 p|.inr F=>k F
theorem PR{s:List ax}{r:QE}{l:List QE}(e:aN r.w s):ia s (r::l)=W_ r.p:=by show(match aN r.w s with|true=>_|false=>_)=_;rw[e]
theorem PT{s:List ax}{r:QE}{l:List QE}(e:aN r.w s=Xb):ia s (r::l)=ia (s++[r.w]) l:=by show(match aN r.w s with|true=>_|false=>_)=_;rw[e]
theorem xM{l J:List α}:cut Xk (W_ (l.length:Int)) (l++J)=l:=by have e:cf (l++J).length (W_ (l.length:Int)) (l++J).length=l.length:=dz (by rw[Xc];exact Xp ..);show(((l++J).drop 0).take (cf (l++J).length (W_ (l.length:Int)) (l++J).length-0))=l;rw[e,List.drop_zero,Nat.sub_zero,List.take_left]
theorem rt (K:aL u){O:Addr}{y0:bG}{I:St->Prop}
  (hI:∀C,wp u (eM Xg (n+10) X) (.cmp .NotEq 0 1 (.loc 2) (.fB .bJ)) C (wT (wp u (eM Xg (n+10) X) NG) (rX (wp u (eM Xg (n+10) X) (.dY (.iz 1 0) (.yN (.ret (.loc 1)) .B9))) (eQ Q)) I)->I C):
  ∀(k:Nat) (T:List (ax×V)) (F:FT) (J:List QE) (y4 y5 y6 y7 y8 y9:bG),TR T F->ic ns F->T.length+J.length<=1000->J.length<=k->(∀r∈J,r.x.sh ns []=Xg/\aN r.w ns=Xg)->xS X H (λF'=>∀T',TR T' F'->ic ns F'->T'.length<=1000->Q (.cj T') H) (solve ns k F J)->I ⟨(O,.aU T)::H,[y0,W_ (.ref O),W_ (.lst (J.map QE.row)),W_ (.lst (ns.map .str)),y4,y5,y6,y7,y8,y9]⟩:=by
 intro k
 induction k with
 |zero=>intro T F J y4 y5 y6 y7 y8 y9 tr f M hk Z q;induction J using Xn with|nil=>exact hI _ ⟨rfl,⟨rfl,q T tr f M⟩⟩|cons=>exact W5 hk (Nat.not_succ_le_zero _)
 |succ k ih=>
  intro T F J y4 y5 y6 y7 y8 y9 tr f M hk Z q
  induction J using Xn with
  |nil=>exact hI _ ⟨rfl,⟨rfl,q T tr f M⟩⟩|cons r l=>
   refine hI _ ⟨rfl,λlA=>u2 K tr f M Z λT' y7 y8 y9 U f' hT'=>?_⟩;have e2:((pass ns F [] (r::l)).2.map QE.row).length=(pass ns F [] (r::l)).2.length:=Xl ..;have e3:((r::l).map QE.row).length=l.length+1:=Xl ..;have lt:(pass ns F [] (r::l)).2.length<=0+(l.length+1):=u4;have Y:∀y∈(pass ns F [] (r::l)).2,y.x.sh ns []=Xg/\aN y.w ns=Xg:=λy m=>(u3 m).elim (λm=>nomatch m) (Z y);rw[X7]at lt
   have fin:XI (pass ns F [] (r::l)).2.length (l.length+1)=Xb->xS X H (λF'=>∀T',TR T' F'->ic ns F'->T'.length<=1000->Q (.cj T') H) (solve ns k (pass ns F [] (r::l)).1 (pass ns F [] (r::l)).2)->I ⟨(O,.aU T')::H,[y0,W_ (.ref O),W_ (.lst ((pass ns F [] (r::l)).2.map QE.row)),W_ (.lst (ns.map .str)),y4,y5,W_ (.lst ((pass ns F [] (r::l)).2.map QE.row)),y7,y8,y9]⟩:=λe q=>ih _ _ _ _ _ _ _ _ _ U f' (Xa hT' M) (ZZ (YX (Nat.lt_of_le_of_ne lt λh=>by rw[h,Nat.beq_refl]at e;exact ft e) hk)) Y q
   have q:xS X H _ (match XI (pass ns F [] (r::l)).2.length (l.length+1),(pass ns F [] (r::l)).2 with|true,y::_=>.inl y.p|_,lat=>solve ns k (pass ns F [] (r::l)).1 lat):=q
   generalize e:XI (pass ns F [] (r::l)).2.length (l.length+1)=zz;induction zz with
   |false=>
    rw[e]at q;exact⟨rfl,bp (b:=decide ((((pass ns F [] (r::l)).2.map QE.row).length:Int)=(((r::l).map QE.row).length:Int))) (by rw[e2,e3];exact W2 λh=>by rw[Int.ofNat_inj.mp h,Nat.beq_refl]at e;exact ft e) ⟨rfl,fin e q⟩⟩|true=>
    rw[e]at q;refine⟨rfl,aW (b:=decide ((((pass ns F [] (r::l)).2.map QE.row).length:Int)=(((r::l).map QE.row).length:Int))) (by rw[e2,e3];exact W4 (WX _ (XJ e))) ⟨rfl,?_⟩⟩;revert e q;cases(pass ns F [] (r::l)).2 with|nil=>exact λW e=>nomatch e|cons y l'=>exact λq W=>x3 K rfl rfl rfl (q _ [_])
def VW:N:=ao (bR (aG 0 0 bh) (.CO 0 aD .yH aK)) (.gD 3 #[ah (ag "told twice: ") (aG 0 0 bh),aG 0 2 bh]^aa) aa^aa
theorem c95 (K:aL u){rows:List QE}(U:rows.length<=900) (he:aN [] (rows.map (λW=>W.w))=Xb) (hs:∀r∈rows,r.x.sh (rows.map (λW=>W.w)) [] /\r.w.length<=1000)
  (q:match ia [] rows with|some p=>xP X H 3 p|none=>xS X H (λF=>∀T,TR T F->ic (rows.map (λW=>W.w)) F->T.length<=1000->Q (.cj T) H) (solve (rows.map (λW=>W.w)) rows.length (λW=>Xk) rows)):CL u (n+11) 95 [.lst (rows.map QE.row)] H Q X:=by
 have hm:∀{l:List QE}(r:QE),r∈l->aN r.w (l.map (λW=>W.w)):=λ{l}r m=>by
  induction l with|nil=>cases m|cons y l ih=>
   show(sEq y.w r.w||aN r.w (l.map (λW=>W.w)));rcases Xv.mp m with rfl|m
   .rw[m7];rfl
   .rw[ih m,Bool.or_true]
 have nT:∀y4 y5,xS X H (λF=>∀T,TR T F->ic (rows.map (λW=>W.w)) F->T.length<=1000->Q (.cj T) H) (solve (rows.map (λW=>W.w)) rows.length (λW=>Xk) rows)-> ∀M,wp u (eM Xg (n+10) X) (.yN (.jE (.cmp .NotEq 0 1 (.loc 2) (.fB .bJ)) NG) (.dY (.iz 1 0) (.yN (.ret (.loc 1)) .B9))) ⟨(M,.aU [])::H,[W_ (.lst (rows.map QE.row)),W_ (.ref M),W_ (.lst (rows.map QE.row)),W_ (.lst ((rows.map (λW=>W.w)).map .str)),y4,y5,Xk,Xk,Xk,Xk]⟩ (eQ Q):=λy4 y5 q M I hI=>rt K hI _ _ _ _ _ _ _ _ _ _ ⟨λW=>rfl,.nil⟩ ⟨he,λW W (e:(Xk:Option Af)=W_ _)=>nomatch e⟩ (by rw[Yh,X7];exact Xa U ll) (Xh _) (λr m=>⟨(hs r m).1,hm r m⟩) q
 refine ent K aa2 rfl λM=>Tz (f:=QE.row) (λr=>.str r.w) (P:=λW=>True) (λr W acc G al h=>⟨al,h⟩) (Xa U ll) (λW W=>trivial) ?_
 .rw[show rows.map (λr:QE=>V.str r.w)=(rows.map (λW=>W.w)).map .str from Yn.symm];have O:∀(l J:List QE) (y4 y5:bG){Q':V->St->Prop},J++l=rows->(match ia (J.map (λW=>W.w)) l with|some p=>xP X H 3 p|none=>∀y4 y5,Q' .none ⟨(M,.aU [])::H,[W_ (.lst (rows.map QE.row)),W_ (.ref M),W_ (.lst (rows.map QE.row)),W_ (.lst ((rows.map (λW=>W.w)).map .str)),y4,y5,Xk,Xk,Xk,Xk]⟩)->forL (hH [4,5]) (wp u (eM Xg (n+10) X) VW) (rN J.length (l.map QE.row)) ⟨(M,.aU [])::H,[W_ (.lst (rows.map QE.row)),W_ (.ref M),W_ (.lst (rows.map QE.row)),W_ (.lst ((rows.map (λW=>W.w)).map .str)),y4,y5,Xk,Xk,Xk,Xk]⟩ Q':=by
   intro l;induction l with|nil=>exact λW y4 y5 W W q=>q y4 y5|cons r l ih=>
    intro J y4 y5 Q' e q;have hc:cut Xk (W_ (J.length:Int)) ((rows.map (λW=>W.w)).map V.str)=(J.map (λW=>W.w)).map .str:=by
     have e1:((J.map (λW=>W.w)).map V.str).length=J.length:=by rw[Xl,Xl]
     rw[<-e,XQ,XQ,<-e1,xM]
    have key:∀{P:V->St->Prop}{C:St},P (.bool (aN r.w (J.map (λW=>W.w)))) C->AM P .In 0 0 (.str r.w) (.lst (cut Xk (W_ (J.length:Int)) ((rows.map (λW=>W.w)).map V.str))) C:=λq=>by rw[hc];exact inW q
    have nx:=ih (J++[r]) (W_ (.int J.length)) (W_ r.row) (Q':=Q') (by rw[Xf];exact e);rw[Xc,XQ]at nx;refine key ?_
    generalize Y:aN r.w (J.map (λW=>W.w))=Z;induction Z with
    |false=>
     rw[PT Y]at q;exact nx q|true=>
     rw[PR Y]at q;refine⟨?_,x3 K rfl rfl rfl (q _ [_])⟩;exact Xa (XF (hs r (e▸Xx _ (.head _))).2 12) ll
  refine O rows [] _ _ rfl ?_;revert q;show(match ia [] rows with|some p=>_|none=>_)->(match ia [] rows with|some p=>_|none=>_);cases ia [] rows with|some p=>exact id|none=>exact λq y4 y5=>nT y4 y5 q M
variable{t0:V}{w:Int}{T:aP}{p m:ax}
theorem Up (K:aL u)(e:kl p m)(q:∀a,kk a [(5,.int w),(11,.str p),(12,.str m)] H):dk (GX u) Xg (n+2) 10 22 [.int w,.str p,.str m] H kk X:=by
 induction p using Xn with
 |nil=>induction m using Xn with|nil=>exact ru K q|cons=>exact rv K rfl q
 |cons=>induction m using Xn with|nil=>exact rv K rfl q|cons=>exact rv K (kO e) q
theorem ys (f:ic ns F)(K:x.sh ns h):kl (x.af F h).p (x.af F h).m:=by
 induction x with|«at» x=>exact f.at K|bin g x y=>induction y with|dot=>exact ff K|num y=>exact f.at (oF K)|sym y=>
   show kl (eB (x.af F h).p y).p (eB (x.af F h).p y).m;unfold eB;generalize e:sEq (x.af F h).p y=J;induction J with|true=>rfl|false=>
    show kl (x.af F h).p y;generalize q:(x.af F h).p=J;induction J using Xn with|nil=>cases y<;>rfl|cons c s=>rw[q]at e;exact nt e
noncomputable def Jv(s:Nat)(a:Af):Af:=match s with|0=>⟨a.w+5000,a.p,a.m⟩|_+1=>⟨-(a.w+5000),a.m,a.p⟩
theorem Ry (K:aL u) (h0:Tl T j (t0::(l++t::r))) (e:sM t0 "end") (M:jB l x) (O:EB t) (f:ic ns F) (tr:TR E F) (U:E.length<=1000) (sh:x.sh ns ".")
  (q:∀J,Tl T J (t::r)->Q (Jv 0 (x.af F ".")).vl (CU a T J::(d,.aU E)::H)):CL u (n+9) 116 [.int 5000,.ref a,.obj 11 [(13,.ref d)]] (CU a T j::(d,.aU E)::H) Q X:=by
 obtain⟨k,w,v,p,rfl,e⟩:=e;exact ent K Q5 rfl ⟨rfl,yb K h0 e (TZ K h0.next M O (c39 K (CF f tr U) (CP f tr sh) (Up K (ys f sh) λW=>q _ h0.next.app)))⟩
theorem acf (K:aL u) (h0:Tl T j (t0::(l++t::r))) (V:sM t0 "end") (J:jB l x) (M:EB t) (f:ic ns F) (tr:TR E F) (U:E.length<=1000) (sh:x.sh ns ".")
  (q:∀e,Tl T e (t::r)->Q (Jv 1 (x.af F ".")).vl (CU a T e::(d,.aU E)::H)):CL u (n+10) 117 [.int 5000,.ref a,.obj 11 [(13,.ref d)]] (CU a T j::(d,.aU E)::H) Q X:=
 ent K Q4 rfl (Ry K h0 V J M f tr U sh λe O=>c26 K (ys f sh) (q e O))
variable{T:List (ax×V)}
def dM(F:FT):FT:=λs=>match F s with|some a=>(match sEq a.m []with|true=>W_ a|false=>Xk)|none=>Xk
def N7(v:V):Bool:=match v with|.obj _ [_,_,(_,.str m)]=>sEq m []|_=>Xb
theorem Ap{s:ax}:∀{T:List (ax×V)},s∉T.map (λW=>W.1)->T.lookup s=Xk:=by
 intro T;induction T with
 |nil=>
  intro _;exact rfl|cons y T ih=>
  intro h;rw[Ys,Xv,not_or]at h;rw[Yo,W9.mpr h.1];exact ih h.2
theorem vN:∀{T:List (ax×V)},(T.map (λW=>W.1)).Nodup-> ∀{y:ax×V},y∈T->T.lookup y.1=W_ y.2:=by
 intro T;induction T with|nil=>exact λW W m=>nomatch m|cons z T ih=>
  intro nd y m;obtain⟨h1,h2⟩:=X5.mp nd;rw[Yo];rcases Xv.mp m with rfl|m
  .rw[WY]
  .rw[W9.mpr λe=>h1 (Yi.mpr ⟨y,m,e⟩)];exact ih h2 m
theorem G0{f:V->Bool}:∀{T:List (ax×V)},(T.map (λW=>W.1)).Nodup-> ∀s,(T.filter λy=>f y.2).lookup s=match T.lookup s with|some v=>(match f v with|true=>W_ v|false=>Xk)|none=>Xk:=by
 intro T;induction T with
 |nil=>
  intro _ _;exact rfl|cons z T ih=>
  intro nd s;obtain⟨h1,h2⟩:=X5.mp nd;have ih:=ih h2 s
  rw[Yo]
  generalize e:f z.2=J;induction J with
  |true=>
   rw[List.filter_cons_of_pos (p:=λy:ax×V=>f y.2) e,Yo]
   generalize q:(s==z.1)=J;induction J with
   |true=>show W_ z.2=match f z.2 with|true=>W_ z.2|false=>Xk;rw[e]
   |false=>exact ih
  |false=>
   rw[List.filter_cons_of_neg (p:=λy:ax×V=>f y.2) (by rw[e];exact Xy),ih]
   generalize q:(s==z.1)=J;induction J with|true=>obtain rfl:s=z.1:=W6 q;rw[Ap h1];show Xk=match f z.2 with|true=>W_ z.2|false=>Xk;rw[e]|false=>rfl
theorem TR.dM (tr:TR T F):TR (T.filter λy=>N7 y.2) (dM F):=by
 refine⟨λs=>?_,tr.nd.sublist (List.filter_sublist.map _)⟩;rw[G0 tr.nd,tr.lk];unfold Internal.dM;cases F s with|none=>rfl|some a=>show(match N7 a.vl with|true=>W_ a.vl|false=>Xk)=Zk Af.vl (match sEq a.m []with|true=>W_ a|false=>Xk);rw[show N7 a.vl=sEq a.m []from rfl];cases sEq a.m [] <;>rfl
theorem ic.dM (f:ic ns F):ic ns (dM F):=by
 refine⟨f.e,λs a e=>f.f s a ?_⟩;unfold Internal.dM at e;generalize q:F s=J;induction J with|none=>rw[q]at e;exact gG e|some b=>rw[q]at e;have e:(match sEq b.m []with|true=>W_ b|false=>Xk)=W_ a:=e;generalize q2:sEq b.m []=J;induction J with|false=>rw[q2]at e;exact gG e|true=>rw[q2]at e;exact e
structure gi where
 e:WE
 a:Addr
 T:aP
def gi.row(w:gi):V:=.tup [.int w.e.i,.ref w.a,.int w.e.s,w.e.p.obj]
def xN(l:List gi):Hp:=l.map λw=>CU w.a w.T 0
inductive Jg(ns:List ax)(w:gi):Prop|mk(s:w.e.x.sh ns "."=Xg/\w.e.s<=1)(t0:V)(l:aP)(k kw:ax)(v p:V)(r:aP)(e:w.T=t0::(l++TK k kw v p::r)/\w.T.length<=16777216)(n:sM t0 "end")(x:jB l w.e.x)(h:sEq k "sign"=Xb)(m:match w.e.eV with|none=>sEq k "end"=Xg|some q=>sEq k "end"=Xb/\p=q.obj)
def lj (F:FT)(e:WE):V:=.obj 17 [(16,.str "code"),(3,e.p.obj),(17,(Jv e.s (e.x.af F ".")).vl)]
noncomputable def dg (F:FT):List WE->aP->Pt⊕aP|[],L=>.inr L|e::l,L=>match e.eV with|some p=>.inl p|none=>dg F l (setAt L e.i (lj F e))
variable{sc:Addr}
def NX:N:=aC (.a_ 97 [4] #[aK])^.il 1 (.ez 17 #[cP,b7]) (ai 0 24 ae) aD^.dY (.drop 4) aa
def Dg:N:=ak 7 (aJ 0 (ai 0 22 ae) bh)^ak 8 (.QD [4,3] bY #[ai 0 21 ae,aK,ay])^NX
def yG (u:U):V:=.lst [.cst (.ref (u.fa 116)),.cst (.ref (u.fa 117))]
def CS (u:U)(A:RA)(g:GS)(eqs rows:V):Addr×MO:=(A.s,.inst 0 20 [(21,.int 5000),(22,yG u),(23,.int g.eO),(24,.ref A.st),(25,rows),(13,eqs),(26,.ref A.ct),(27,.lst (g.aw.map AE.row)),(28,.int g.dw)])
def xR{α:Type}(X:di->Hp->Prop)(H:Hp)(k:α->Prop):Pt⊕α->Prop|.inl p=>xP X H 2 p|.inr F=>k F
theorem ej{l:List α}{i:Nat}{y:α}:(setAt l i y).length=l.length:=by rw[cR,List.length_set]
theorem ace (K:aL u){s:Nat}{E':aP}(hs:s<=1) (h0:Tl E' j (t0::(l++t::r))) (U:sM t0 "end") (J:jB l x) (M:EB t) (f:ic ns F) (tr:TR T F) (O:T.length<=1000) (sh:x.sh ns ".")
  (q:∀e,Tl E' e (t::r)->Q (Jv s (x.af F ".")).vl (CU a E' e::(d,.aU T)::H)):CL u (n+10) (116+s) [.int 5000,.ref a,.obj 11 [(13,.ref d)]] (CU a E' j::(d,.aU T)::H) Q X:=by
 replace hs:s<2:=Nat.lt_succ_of_le hs;revert q;revert s;exact@Tt _ (λq=>Ry K h0 U J M f tr O sh q) (λq=>acf K h0 U J M f tr O sh q)
abbrev M6:=Hp->bG->bG->bG->bG->bG->bG->St
inductive IFS (M:aP->M6) (H:Hp) (X:di->Hp->Prop) (Q':V->St->Prop) (ns:List ax) (F:FT) (l:List gi) (C:St):Prop|mk (L:aP) (a b c d e f:bG) (eq:C=M L (xN l++H) a b c d e f) (hw:∀w∈l,Jg ns w/\w.e.i<L.length) (hL:L.length<=1000) (q:xR X H (λL=>∀a b c d e f,Q' .none (M L H a b c d e f)) (dg F (l.map (λW=>W.e)) L))
theorem wK (K:aL u){J rows y1:V}{Q':V->St->Prop}(f:ic ns F) (tr:TR T F) (hT:T.length<=1000){l:List gi}{L:aP}{y3 y4 y5 y6 y7 y8:bG}(O:∀w∈l,Jg ns w/\w.e.i<L.length) (U:L.length<=1000)
  (q:xR X H (λL'=>∀y3 y4 y5 y6 y7 y8,Q' .none ⟨CS u A g J rows::(A.st,.list L')::(A.ct,.bz D)::(sc,.aU T)::H,[W_ (.ref A.s),W_ y1,W_ (.obj 11 [(13,.ref sc)]),y3,y4,y5,y6,y7,y8]⟩) (dg F (l.map (λW=>W.e)) L)):
  forL (hH [3,4,5,6]) (wp u (eM Xg (n+12) X) Dg) (l.map gi.row) ⟨CS u A g J rows::(A.st,.list L)::(A.ct,.bz D)::(sc,.aU T)::(xN l++H),[W_ (.ref A.s),W_ y1,W_ (.obj 11 [(13,.ref sc)]),y3,y4,y5,y6,y7,y8]⟩ Q':=by
 refine forM (IFS (λL H y3 y4 y5 y6 y7 y8=>⟨CS u A g J rows::(A.st,.list L)::(A.ct,.bz D)::(sc,.aU T)::H,[W_ (.ref A.s),W_ y1,W_ (.obj 11 [(13,.ref sc)]),y3,y4,y5,y6,y7,y8]⟩) H X Q' ns F) ?_ ?_ ⟨L,y3,y4,y5,y6,y7,y8,rfl,O,U,q⟩
 .rintro _ ⟨L,y3,y4,y5,y6,y7,y8,rfl,-,-,q⟩;exact q _ _ _ _ _ _
 .rintro w l G hG _ ⟨L,y3,y4,y5,y6,y7,y8,rfl,O,U,q⟩;obtain⟨⟨⟨sh,hs⟩,t0,ts,k,kw,v,p,r,⟨eT,Y⟩,e0,Z,ek,M⟩,hi⟩:=O w (.head _);refine⟨rfl,dI (k:=w.e.s) (v:=V.cst (.ref (u.fa (116+w.e.s)))) (X1 (Xa hs ll)) ?_ ⟨116+w.e.s,rfl,aW (b:=YM (116+w.e.s) 256) ?_ ⟨rfl,ace K hs ⟨[],eT,rfl,Y⟩ e0 Z (.inl ⟨_,_,_,_,rfl,ek⟩) f tr hT sh λj' h=>?_⟩⟩⟩
  .match w.e.s,hs with|0,_=>rfl|1,_=>rfl
  .match w.e.s,hs with|0,_=>rfl|1,_=>rfl
  .have q:xR X H _ (match w.e.eV with|some p=>.inl p|none=>dg F (l.map (λW=>W.e)) (setAt L w.e.i (lj F w.e))):=q;revert M q;induction w.e.eV with|none=>exact λM q=>c97 K h M (w17 K λW=>⟨rfl,rfl,⟨⟨XO _,mz (Xa U ll) (Yv hi)⟩,hi⟩,rfl,hG _ ⟨_,_,_,_,_,_,_,rfl,λw m=>⟨(O w (.tail _ m)).1,Nat.lt_of_lt_of_eq (O w (.tail _ m)).2 ej.symm⟩,Xa (X4 ej) U,q⟩⟩)|some pt=>exact λM q=>Rn K h M.1 (M.2▸λm=>q m (_::_::_::_::_::xN l))
def NW:N:=.dY (.me 0 25 1) (.dY .JF (.iA [3,4,5,6] (.fb (ai 0 25 ae)) Dg^aa))
theorem xP.ext{E:Hp}{p:Pt}(q:xP X H c p):xP X (E++H) c p:=λm E'=>by rw[<-Xf];exact q m _
theorem xS.ext{E:Hp}{k e:α->Prop}{v:Pt⊕α}(f:∀y,k y->e y)(q:xS X H k v):xS X (E++H) e v:=by induction v with|inl p=>exact xP.ext q|inr y=>exact f y q
theorem AD{rows:List QE}(tr:TR T F)(f:ic (rows.map (λW=>W.w)) F)(M:∀r∈rows,r.w.length<=1000):∀y∈T,y.1.length<=16777216:=by
 intro y m;have e:=vN tr.nd m;rw[tr.lk]at e;obtain⟨b,e,-⟩:=X6.mp e;have key:∀{l:List QE},aN y.1 (l.map (λW=>W.w))-> ∃r∈l,r.w=y.1:=λ{l}h=>by
  induction l with|nil=>exact ff h|cons r l ih=>
   have h:(sEq r.w y.1||aN y.1 (l.map (λW=>W.w))):=h;generalize q:sEq r.w y.1=J;induction J with|true=>exact⟨r,.head _,by rw[bH]at q;exact W6 q⟩|false=>rw[q,Bool.false_or]at h;obtain⟨K,m,e⟩:=ih h;exact⟨K,.tail _ m,e⟩
 obtain⟨r,m,e⟩:=key (f.f _ _ e).1;rw[<-e];exact Xa (M r m) ll
theorem pb{l:List α}{f:α->Bool}(h:l.length<=1000):(l.filter f).length<=1000:=Xa (Zh ..) h
def iB (l:List QE):Pt⊕FT:=match ia [] l with|some p=>.inl p|none=>solve (l.map (λW=>W.w)) l.length (λW=>Xk) l
structure Jl (l:List QE):Prop where
 len:l.length<=900
 e:aN [] (l.map (λW=>W.w))=Xb
 sh:∀r∈l,r.x.sh (l.map (λW=>W.w)) []=Xg/\r.w.length<=1000
theorem abN (K:aL u){l:List QE}(h:Jl l) (q:xS X H (λF=>∀T,TR T F->ic (l.map (λW=>W.w)) F->T.length<=1000->Q (.cj T) H) (iB l)):CL u (n+11) 95 [.lst (l.map QE.row)] H Q X:=by refine c95 K h.len h.e h.sh ?_;revert q;unfold iB;cases ia [] l<;>exact id
theorem aco (K:aL u){M J:List gi}(hA:A.rd=yG u) (hp:J.Perm M) (he:Jl g.eq) (hw:∀w∈M,Jg (g.eq.map (λW=>W.w)) w/\w.e.i<g.st.length) (Y:g.st.length<=1000)
  (q:xS X H (λF=>xR X H (λL'=>∀sc T eqs rows,Q .none (CS u A g eqs rows::(A.st,.list L')::(A.ct,.bz D)::(sc,.aU T)::H)) (dg (dM F) (M.map (λW=>W.e)) (g.st.map SE.obj))) (iB g.eq)):
  CL u (n+13) 100 [.ref A.s] (CS u A g (.ref A.eq) (.ref A.wt)::(A.st,.list (g.st.map SE.obj))::(A.wt,.list (M.map gi.row))::(A.eq,.list (g.eq.map QE.row))::(A.ct,.bz D)::(xN J++H)) Q X:=by
 refine ent K Rk rfl ⟨rfl,rfl,abN K he (xS.ext (E:=_::_::_::_::xN J) (λF q T tr f hT=>?_) q)⟩;refine⟨AD tr f λr m=>(he.sh r m).2,?_⟩;have U:∀w∈M,Jg (g.eq.map (λW=>W.w)) w/\w.e.i<(g.st.map SE.obj).length:=λw m=>⟨(hw w m).1,by rw[Xl];exact(hw w m).2⟩;have fin:∀sc,wp u (eM Xg (n+12) X) NW ⟨CS u A g (.lst (g.eq.map QE.row)) (.ref A.wt)::(A.st,.list (g.st.map SE.obj))::(A.wt,.list (M.map gi.row))::(A.ct,.bz D)::(sc,.aU (T.filter λy=>N7 y.2))::(xN J++H),[W_ (.ref A.s),W_ (.cj T),W_ (.obj 11 [(13,.ref sc)]),Xk,Xk,Xk,Xk,Xk,Xk]⟩ (eQ Q):=λsc=>
  ⟨rfl,[],_::_::_::_::(xN M++H),((((((hp.map _).append_right H).cons _).cons _).cons _).cons _),⟨rfl,wK K f.dM tr.dM (pb hT) U (by rw[Xl];exact Y) (by revert q;cases dg (dM F) (M.map (λW=>W.e)) (g.st.map SE.obj)with|inl p=>exact id|inr L'=>exact λq W W W W W W=>q _ _ _ _)⟩⟩
 refine JA (f:=λy:ax×V=>V.str y.1) (λy=>N7 y.2) (λy=>.tup [.str y.1,y.2]) (P:=(λW=>W∈T)) (λy m acc G al h1 h2=>?_) (by rw[Yh,X7];exact hT) (λW m=>m) ⟨_,⟨rfl,tr.dM.nd⟩,λsc=>w11 K λW=>fin sc⟩;have lk:=vN tr.nd m;have O:=lk;rw[tr.lk]at O;obtain⟨b,-,Z⟩:=X6.mp O;obtain⟨yk,yv⟩:=y;have Z:b.vl=yv:=Z;subst Z;refine⟨_,lk,?_⟩;generalize e2:sEq b.m []=zz;induction zz with|true=>exact aW e2 ⟨_,lk,al,h1 e2⟩|false=>exact bp e2 (h2 e2)
structure LA where
 dX:Addr
 cu:Addr
 ct:Addr
 aw:Addr
 eq:Addr
 hu:Addr
 wt:Addr
 tr:Addr
 ta:Addr
structure PN where
 cs:List Int
 a:Int
 b:Int
 c:Int
structure a8(p:PN)(m:Nat):Prop where
 cs:p.cs.length<=1000
 a0:0<=p.a
 a1:p.a<=m
 c0:0<=p.c
 c1:p.c<=1008
def cO (B:LA)(p:PN):Addr×MO:=(B.dX,.list [.lst (p.cs.map .int),.int p.a,.int p.b,.int p.c])
theorem NY{a b:Int}(h:b.natAbs<=1000000):IntMulOk a b:=have a:=VU (Xz h (by decide));IntMulOk.of_right (intBits_le_64 (Int.lt_of_lt_of_le (by decide) a.1) (Int.lt_trans a.2 (by decide)))
inductive FmI(a:Int)(m:Nat):Prop|mk(r:Nat)(h0:r<m)(h1:Y5 a m=(r:Int))
theorem fm{a:Int}{m:Nat}(h:0<m):FmI a m:=by have h1:=Int.fmod_nonneg_of_pos a (YW.mpr h);have h2:=Int.fmod_lt_of_pos a (YW.mpr h);exact⟨(Y5 a m).toNat,(Int.toNat_lt h1).mpr h2,(Int.toNat_of_nonneg h1).symm⟩
def NV:N:=ak 3 (bu (aG 0 2 ae) aq)^.il 0 (cy (aG 0 2 ae) aq) ae (aj 2)^az aD^aa
variable{B:LA}{p:PN}{m k:Nat}
theorem ok1:C0 1:=⟨by decide,by decide⟩
theorem VG:C0 2:=⟨by decide,by decide⟩
theorem i24{a b c d:V}:(2:Int).toNat< [a,b,c,d].length:=Xi rfl
theorem i14{a b c d:V}:(1:Int).toNat< [a,b,c,d].length:=Xi rfl
theorem aaI{l:List Int}{i:Int}{P:V->Prop}(h0:0<=i)(h1:i<l.length)(e:l.length<=1000)(q:∀v,P (.int v)):ky (l.map .int) i P:=by have h2:i.toNat<l.length:=(Int.toNat_lt h0).mpr h1;refine⟨⟨h0,Int.lt_trans h1 (Gg e rfl)⟩,.int l[i.toNat],?_,q _⟩;rw[bf,X2,XD h2];rfl
theorem eN (K:aL u) (hp:a8 p m) (hm:m<=900000) (h0:0<k) (h1:k<=1000) (q:∀r p',r<k->a8 p' (m+1)->Q (.int (r:Nat)) (cO B p'::H)):CL u (n+1) 118 [.ref B.dX,.int k] (cO B p::H) Q X:=by
 obtain⟨U,J,M,g4,g5⟩:=hp;have O: ¬((k:Nat):Int)=0:=U0 h0;have Y:∀(i:Int) p',a8 p' (m+1)->Q (.int (Y5 i k)) (cO B p'::H):=λi p' Z=>by obtain⟨r,hr,e⟩:=fm (a:=i) h0;rw[e];exact q r p' hr Z
 have tail:∀a b:Int,0<=a->a<=m+1->wp u (eM Xg n X) NV ⟨cO B ⟨p.cs,a,b,p.c⟩ ::H,[W_ (.ref B.dX),W_ (.int k),Xk,Xk]⟩ (eQ Q):=λa b ha hb=>⟨rfl,O,rfl,⟨O,ZM (Gd h1 rfl)⟩,rfl,⟨VG,i24⟩,Y b ⟨p.cs,a,Int.fdiv b k,p.c⟩ ⟨U,ha,hb,g4,g5⟩⟩
 refine ent K Q3 rfl ⟨rfl,fO (b:=decide (p.b=0)) (λhb=>?_) λW=>tail p.a p.b J (U8 M)⟩;refine⟨rfl,rfl,⟨ok1,i14⟩,rfl,rfl,fO (b:=decide (((p.cs.map V.int).length:Int)<p.a+1)) (λW=>?_) λhl=>?_⟩
 .exact⟨rfl,rfl,NY (MM (c:=2) J M hm rfl),rfl,NY (MM (c:=9) J M hm rfl),⟨by decide,ZM (by decide)⟩,O,Y _ ⟨p.cs,p.a+1,p.b,p.c⟩ ⟨U,by show 0<=p.a+1;exact zS J,by show p.a+1<=((m+1:Nat):Int);exact zT M,g4,g5⟩⟩
 .have hl:=W7 hl;rw[Xl]at hl;refine⟨rfl,rfl,aaI (U7 J) (by lia) U λcell=>⟨⟨by decide,by decide,ll⟩,fO (b:=decide ((if cell<0 then-cell else cell)<(10:Int) ^ (18:Int).toNat)) (λW=>?_) λW=>?_⟩⟩
  .exact⟨O,Y _ ⟨p.cs,p.a+1,p.b,p.c⟩ ⟨U,by show 0<=p.a+1;exact zS J,by show p.a+1<=((m+1:Nat):Int);exact zT M,g4,g5⟩⟩
  .exact⟨⟨by decide,by decide,ll⟩,IntMulOk.of_left ll,fO (b:=decide (cell<0)) (λW=>⟨rfl,⟨VG,i24⟩,tail (p.a+1) _ (zS J) (zT M)⟩) λW=>⟨rfl,⟨VG,i24⟩,tail (p.a+1) _ (zS J) (zT M)⟩⟩
variable{rows:List ax}{cur txt:ax}{l:Int}{o:Nat}
def Pt.tup(p:Pt):V:=.tup [.int p.l,.int p.c]
noncomputable def bW (B:LA)(rows:List ax)(cur:ax):Addr×MO:=(B.cu,.list (rows.map .str++[.str cur]))
theorem cD (K:aL u) (M:cur.length+txt.length<=16777216) (q:Q (Pt.tup ⟨(rows.length+1:Nat),(cur.length:Int)+1⟩) (bW B rows (cur++txt)::H)):CL u (n+1) 119 [.ref B.cu,.str txt] (bW B rows cur::H) Q X:=by
 have e:(rows.map V.str++[V.str cur]).length=rows.length+1:=by rw[Xc,Xl];rfl
 have J:(rows.map V.str++[V.str cur]).getLast?=W_ (.str cur):=List.getLast?_concat;rw[<-e]at q;exact ent K Q2 rfl ⟨rfl,⟨rfl,_,J,⟨rfl,_,J,M,rfl,_,_,rfl,q⟩⟩⟩
abbrev bV:=List (Option Lx)
noncomputable def bC:bV->ax|[]=>[]|none::s=>32::bC s|some x::s=>x.tx++bC s
noncomputable def gK (l:Int):Nat->bV->List (Lx×Pt)|_,[]=>[]|o,Xk::s=>gK l (o+1) s|o,W_ x::s=>(x,⟨l,(o:Int)+1⟩)::gK l (o+x.tx.length) s
noncomputable def fF (g:GS):List (Lx×Pt)->List Pt|[]=>[]|x::l=>match x.1 with|.lo k Xb=>(match g.cn k with|0=>x.2::fF g l|_+1=>fF g l)|_=>fF g l
theorem K':∀{ws:List (Lx×Pt)},gO g ws=(fF g ws).head?:=by
 intro ws;induction ws with
 |nil=>exact rfl
 |cons x0 ws ih=>
  obtain⟨x,p⟩:=x0;have ih:gO g ws=(fF g ws).head?:=ih
  induction x with
  |lo k f=>
   induction f with|true=>exact ih|false=>
    show(match g.cn k with|0=>W_ p|_+1=>gO g ws)=(match g.cn k with|0=>p::fF g ws|_+1=>fF g ws).head?;cases g.cn k with
    |zero=>rfl
    |succ=>exact ih
  |_=>exact ih
theorem cB{a b:bV}:bC (a++b)=bC a++bC b:=by
 induction a with|nil=>rfl|cons x a ih=>induction x with|none=>exact WX (32::·) ih|some x=>show x.tx++bC (a++b)=x.tx++bC a++bC b;rw[ih,Xf]
theorem gY{a b:bV}:∀{o:Nat},gK l o (a++b)=gK l o a++gK l (o+(bC a).length) b:=by
 induction a with|nil=>exact rfl|cons x a ih=>intro o;induction x with|none=>show gK l (o+1) (a++b)=gK l (o+1) a++gK l (o+((bC a).length+1)) b;rw[ih,X_,YN 1]|some x=>show _::gK l (o+x.tx.length) (a++b)=_::(gK l (o+x.tx.length) a++gK l (o+(x.tx++bC a).length) b);rw[ih,Xc,X_]
theorem rj{a b:List (Lx×Pt)}:iH g (a++b)=iH g a++iH g b:=by
 induction a with|nil=>rfl|cons x a ih=>
  obtain⟨x,p⟩:=x;induction x with
  |lo k f=>induction f with
   |true=>exact WX (_::·) ih|false=>exact ih
  |_=>exact ih
theorem pW{a b:List (Lx×Pt)}:fF g (a++b)=fF g a++fF g b:=by
 induction a with|nil=>rfl|cons x a ih=>
  obtain⟨x,p⟩:=x;induction x with
  |lo k f=>induction f with|true=>exact ih|false=>show(match g.cn k with|0=>p::fF g (a++b)|_+1=>fF g (a++b))=(match g.cn k with|0=>p::fF g a|_+1=>fF g a)++fF g b;rw[ih];cases g.cn k<;>rfl
  |_=>exact ih
structure LS where
 rows:List ax
 cur:ax
 g:GS
 tr:List (Bool×Pt)
def LS.ws (L:LS)(s:bV):List (Lx×Pt):=gK (L.rows.length+1:Nat) L.cur.length s
def LS.add (L:LS)(s:bV):LS:=⟨L.rows,L.cur++bC s,L.g.ie (L.g.aw++iH L.g (L.ws s)),L.tr++(fF L.g (L.ws s)).map (Xg,·)⟩
theorem pG{l:List AE}{k:Bool}:(g.ie l).cn k=g.cn k:=by cases k<;>rfl
theorem Cd{l:List AE}{ws:List (Lx×Pt)}:iH (g.ie l) ws=iH g ws:=by
 induction ws with|nil=>rfl|cons x a ih=>
  obtain⟨x,p⟩:=x;induction x with
  |lo k f=>induction f with
   |true=>show(⟨k,(g.ie l).cn k+1,p⟩:AE)::_=⟨k,g.cn k+1,p⟩ ::_;rw[pG,ih]|false=>exact ih
  |_=>exact ih
theorem zh{l:List AE}{ws:List (Lx×Pt)}:fF (g.ie l) ws=fF g ws:=by
 induction ws with|nil=>rfl|cons x a ih=>
  obtain⟨x,p⟩:=x;induction x with
  |lo k f=>induction f with|true=>exact ih|false=>show(match(g.ie l).cn k with|0=>p::fF (g.ie l) a|_+1=>fF (g.ie l) a)=(match g.cn k with|0=>p::fF g a|_+1=>fF g a);rw[ih,pG]
  |_=>exact ih
theorem ef{L:LS}{a b:bV}:L.add (a++b)=(L.add a).add b:=by
 have e:L.ws (a++b)=L.ws a++(L.add a).ws b:=by unfold LS.ws LS.add;rw[gY,Xc]
 unfold LS.add;rw[e];show LS.mk _ _ _ _=LS.mk _ _ _ _;rw[cB,rj,pW,XQ,Cd,zh];unfold GS.ie;simp only[Xf];rfl
variable{L:LS}
def Arg.told:Arg->V|.e x=>x.told|.y b=>.bytes b|.s w=>.str w
def SE.told:SE->V|.dm w _=>.tup [.str "label",.str w]|.code _=>.tup [.str "code"]|.bF w l _=>.tup [.str "deed",.str w,.tup (l.map Arg.told)]|.gZ w x _=>.tup [.str "equate",.str w,x.told]
noncomputable def SE.pt:SE->Pt|.dm _ p=>p|.code p=>p|.bF _ _ p=>p|.gZ _ _ p=>p
def SE.bj(s:SE):V:=.tup [s.told,s.pt.tup]
def AE.bj (a:AE):V:=.tup [.int (fV a.k),.int a.n,a.p.tup]
def QE.bj(a:QE):V:=.tup [.str a.w,a.x.told,a.p.tup]
def ptO(p:Option Pt):V:=match p with|none=>.none|some p=>p.tup
def WE.bj(w:WE):V:=.lst [.int w.i,w.x.told,.int w.s,ptO w.eV]
def mI (x:Bool×Pt):V:=.tup [.str (match x.1 with|true=>"symbol"|false=>"read"),x.2.tup]
def cY (B:LA)(g:GS)(tr:List (Bool×Pt))(H:Hp):Hp:=(B.ct,.bz [(1,.int g.c1),(22,.int g.c2)])::(B.aw,.list (g.aw.map AE.bj))::(B.eq,.list (g.eq.map QE.bj))::(B.hu,.list (g.st.map SE.bj))::(B.wt,.list (g.wt.map WE.bj))::(B.tr,.list (tr.map mI))::(B.ta,.list [.int g.dw,.int g.eO])::H
def bq(B:LA)(p:PN)(L:LS)(H:Hp):Hp:=cO B p::bW B L.rows L.cur::cY B L.g L.tr H
def dN(B:LA):V:=.lst [.ref B.cu,.ref B.ct,.ref B.aw,.ref B.eq,.ref B.hu,.ref B.wt,.ref B.tr,.ref B.ta]
structure LB(L:LS)(m:Nat):Prop where
 g:GB L.g m
 tr:L.tr.length<=m
 cur:L.cur.length<=1000*m
 rows:L.rows.length<=m
def Ob (g:GS)(k f:Bool):ax:=dR k (match f with|false=>g.cn k|true=>g.cn k+1)
theorem Cz{k:Bool}:L.ws [W_ (.lo k f)]=[(.lo k f,⟨(L.rows.length+1:Nat),(L.cur.length:Int)+1⟩)]:=rfl
theorem acu{k:Bool}:L.add [W_ (.lo k Xg)]=⟨L.rows,L.cur++lZ k Xg,L.g.ie (L.g.aw++[⟨k,L.g.cn k+1,⟨(L.rows.length+1:Nat),(L.cur.length:Int)+1⟩⟩]),L.tr⟩:=by unfold LS.add;rw[Cz];show LS.mk _ (L.cur++(lZ k Xg++[])) _ (L.tr++[])=_;rw[Xr,Xr];rfl
theorem acv{k:Bool}:L.add [W_ (.lo k Xb)]=⟨L.rows,L.cur++lZ k Xb,L.g,L.tr++(match L.g.cn k with|0=>[(Xg,⟨(L.rows.length+1:Nat),(L.cur.length:Int)+1⟩)]|_+1=>[])⟩:=by unfold LS.add;rw[Cz];show LS.mk _ (L.cur++(lZ k Xb++[])) (L.g.ie (L.g.aw++[])) (L.tr++List.map _ (match L.g.cn k with|0=>[_]|_+1=>[]))=_;rw[Xr,Xr];cases L.g.cn k<;>rfl
theorem low{k:Bool}:lZ k f=dec (fV k)++[match f with|true=>102|false=>98]:=by cases k<;>cases f<;>rfl
theorem k7{k:Bool}:List.lookup (fV k) [(1,V.int g.c1),(22,V.int g.c2)]=W_ (.int (g.cn k)):=by cases k<;>rfl
def De:N:=ao (.vg (.fU cP)) (aC (.bT 3 0 bh #[au #[bY,ah (aJ 2 aK bY) (aj 1),fJ]])^aa) aa^az (au #[ag "symbol",ah (ah (.bU 5 0 #[bY]) (ag "$")) (.bU 5 0 #[ah (aJ 2 aK bY) (.jk (.fU cP) (aj 0) (aj 1))])])^aa
def Df:N:=ak 9 (.a_ 119 [1] #[aD,ah (.bU 5 0 #[bY]) (.jk (.fU cP) (ag "b") (ag "f"))])^ao (aQ (.fU cP) (av (aJ 2 aK bY) (aj 0))) (aC (.bT 7 0 b7 #[au #[ag "symbol",fJ]])^aa) aa^De
theorem jX{l:List α}{i:Int}{r:Nat}{v:α}{P:α->Prop}(e:i=(r:Int))(h:XU r 1000)(g:aF l r=W_ v)(w:P v):ky l i P:=by subst e;exact dI h g w
theorem xT(h:GB g m)(k:Bool):g.cn k<=m:=by cases k;exact h.c1;exact h.c2
theorem TB{a b:ax}(h:a.length<=10)(e:b.length<=1):a.length+b.length<=16777216:=bB (Xm h e) rfl
theorem R_(h:n<=1000):((n:Nat):Int)<10^10:=Gg h rfl
theorem bE{t:ax}{M:Nat}(h:LB L M)(J:M<=1000)(e:t.length<=1000):L.cur.length+t.length<=16777216:=by have:=h.cur;exact bB (Xm (Xa this (c7 J)) e) rfl
theorem lo_le{k:Bool}:(lZ k f).length<=1000:=by cases k<;>cases f<;>decide
theorem Ux (K:aL u){k b:Bool}(e:LB L m) (M:m<=1000) (q:Q (At.sym (Ob L.g k (!b))).told (bq B p (L.add [W_ (.lo k (!b))]) H)):
  wp u (eM Xg (n+1) X) Df ⟨bq B p L H,[W_ (.ref B.dX),W_ (dN B),W_ x2,W_ (.ref B.cu),W_ (.ref B.ct),W_ (.ref B.aw),W_ (.ref B.tr),W_ (.int (fV k)),W_ (.bool b),Xk]⟩ (eQ Q):=by
 obtain⟨V,v2⟩:=vJ k;obtain⟨d1,d2⟩:=eJ V v2;have cb:L.g.cn k<=1000:=Xa (xT e.g k) M;have ds:∀{j:Int},0<=j->j<10^10->(dec (fV k)++"$").length+(dec j).length<=16777216:=λh1 h2=>Xa (Xm (bZ d2 (Xh 1)) (eJ h1 h2).2) ll;have le:∀f,L.cur.length+(dec (fV k)++[match f with|true=>102|false=>98]).length<=16777216:=λf=>by have:=bE (t:=lZ k f) e M lo_le;rw[low]at this;exact this
 have Z:(L.g.aw.map AE.bj).length<16777216:=ba (Xa e.g.aw M)
 have tl:(L.tr.map mI).length<16777216:=ba (Xa e.tr M);induction b with|false=>
  have q:Q (At.sym (dR k (L.g.cn k+1))).told (bq B p (L.add [W_ (.lo k Xg)]) H):=q;rw[acu,low]at q;unfold bq cY GS.ie at q;rw[XQ]at q;obtain⟨O,e2⟩:=eJ (XO (L.g.cn k+1)) (hU cb);refine⟨d1,TB d2 (Xh 1),cD K (le Xg) ⟨⟨rfl,Xu⟩,⟨rfl,_,k7,rfl,Z,⟨d1,TB d2 (Xh 1),rfl,_,k7,?_⟩⟩⟩⟩;exact⟨O,ds (XO (L.g.cn k+1)) (hU cb),q⟩|true=>
  have q:Q (At.sym (dR k (L.g.cn k))).told (bq B p (L.add [W_ (.lo k Xb)]) H):=q;rw[acv,low]at q;obtain⟨O,e2⟩:=eJ (XO (L.g.cn k)) (R_ cb);have z:((L.g.cn k:Nat):Int)+0=(L.g.cn k:Int):=Zw _;refine⟨d1,TB d2 (Xh 1),cD K (le Xb) ⟨rfl,_,k7,?_⟩⟩;have fin:∀{t:List (Bool×Pt)},Q (At.sym (dR k (L.g.cn k))).told (bq B p ⟨L.rows,L.cur++(dec (fV k)++"b"),L.g,t⟩ H)->wp u (eM Xg (n+1) X) De ⟨bq B p ⟨L.rows,L.cur++(dec (fV k)++"b"),L.g,t⟩ H,[W_ (.ref B.dX),W_ (dN B),W_ x2,W_ (.ref B.cu),W_ (.ref B.ct),W_ (.ref B.aw),W_ (.ref B.tr),W_ (.int (fV k)),W_ (.bool Xg),W_ (Pt.tup ⟨(L.rows.length+1:Nat),(L.cur.length:Int)+1⟩)]⟩ (eQ Q):=λ{t}q=>by
   have Y:Q (At.sym (dec (fV k)++"$"++dec (((L.g.cn k:Nat):Int)+0))).told (bq B p ⟨L.rows,L.cur++(dec (fV k)++"b"),L.g,t⟩ H):=by rw[z];exact q
   rw[<-z]at O
   exact⟨d1,TB d2 (Xh 1),⟨rfl,_,k7,⟨O,by rw[z];exact ds (XO _) (R_ cb),Y⟩⟩⟩
  generalize J:L.g.cn k=U;induction U using XN with
  |zero=>
   rw[J]at q
   refine⟨⟨rfl,Xu⟩,rfl,tl,?_⟩;have q2:=fin (t:=L.tr++[(Xg,⟨(L.rows.length+1:Nat),(L.cur.length:Int)+1⟩)]) (by rw[J];exact q);unfold bq cY at q2;rw[XQ]at q2;exact q2|succ i=>
   rw[J]at q;have q:Q (At.sym (dR k (i+1))).told (bq B p ⟨L.rows,L.cur++(dec (fV k)++"b"),L.g,L.tr++[]⟩ H):=q;rw[Xr]at q;exact fin (by rw[J];exact q)
theorem acd (K:aL u){k:Bool}{i:Int}(hi:Y5 i 2=((match k with|false=>0|true=>1:Nat):Int)) (hp:a8 p m) (M:LB L m) (J:m<=900)
  (q:∀f p',a8 p' (m+2)->Q (At.sym (Ob L.g k f)).told (bq B p' (L.add [W_ (.lo k f)]) H)):CL u (n+2) 120 [.ref B.dX,dN B,.int i] (bq B p L H) Q X:=by
 have O:LB L 1000:=⟨M.g.mono (Xa J ll),Xa M.tr (Xa J ll),Xa M.cur (Nat.mul_le_mul_left _ (Xa J ll)),Xa M.rows (Xa J ll)⟩;have fin:∀b p',a8 p' (m+2)->wp u (eM Xg (n+1) X) Df ⟨bq B p' L H,[W_ (.ref B.dX),W_ (dN B),W_ (.int i),W_ (.ref B.cu),W_ (.ref B.ct),W_ (.ref B.aw),W_ (.ref B.tr),W_ (.int (fV k)),W_ (.bool b),Xk]⟩ (eQ Q):=λb p' U=>Ux K O (Xh _) (q _ p' U);have up:∀{p' j},a8 p' (m+j)->j<=2->a8 p' (m+2):=λh e=>⟨h.cs,h.a0,Y_ h.a1 (Yw.mpr (XF e _)),h.c0,h.c1⟩;refine ent K Q1 rfl ⟨by decide,jX hi (by cases k<;>rfl) (v:=.int (fV k)) (by cases k<;>rfl) (eN K hp (Xa J ll) ll ll λr p1 hr h1=>?_)⟩;generalize V:decide ((r:Int)=0)=Y;induction Y with|false=>exact bp (b:=decide ((r:Int)=0)) V (fin _ p1 (up h1 ll))|true=>refine aW (b:=decide ((r:Int)=0)) V ⟨rfl,_,k7,fO (b:=decide (((L.g.cn k:Nat):Int)=0)) (λW=>?_) λW=>fin _ p1 (up h1 ll)⟩;exact eN K h1 (Xa (XH J) ll) ll ll λr' p2 Z h2=>fin _ p2 (up h2 (Xh 2))
end
section
variable{u:U}{n:Nat}{H:Hp}{Q:V->Hp->Prop}{X:di->Hp->Prop}{B:LA}{p:PN}{m:Nat}{g:GS}{L:LS}
set_option genCtorIdx false in
inductive Sm|num(n:Nat)|chr|sn(m:Bool)(a n:Nat)|dn(c:Nat)|dp(n:Nat)|lo(k f:Bool)|df(a b:Nat)
noncomputable def Sm.ctorIdx (x:Sm):Nat:=@Sm.casesOn (λW=>Nat) x (λW=>0) 1 (λW W W=>2) (λW=>3) (λW=>4) (λW W=>5) (λW W=>6)
def nu (n:Nat):Option Lx:=W_ (.nu (dec n) n)
noncomputable def Gz (c:Nat):Option Lx:=W_ (.nm [c])
def Sm.bb:Sm->bV|.num n=>[nu n]|.chr=>[W_ .ch]|.sn Xb a n=>[Gz a,W_ (.sg 43),nu n]|.sn Xg a n=>[Gz a,Xk,W_ (.sg 45),Xk,nu n]|.dn c=>[Gz 46,W_ (.sg 45),Gz c]|.dp n=>[Gz 46,Xk,W_ (.sg 43),Xk,nu n]|.lo k f=>[W_ (.lo k f)]|.df a b=>[Gz a,W_ (.sg 45),Gz b]
def Sm.x (g:GS):Sm->Ex|.num n=>.at (.num n)|.chr=>.at (.num 65)|.sn m a n=>.bin m (.sym [a]) (.num n)|.dn c=>.bin Xg .dot (.sym [c])|.dp n=>.bin Xb .dot (.num n)|.lo k f=>.at (.sym (Ob g k f))|.df a b=>.bin Xg (.sym [a]) (.sym [b])
noncomputable def kN:ax:="pqruvwz"
noncomputable def kj:ax:="pqr"
def Sm.ok:Sm->Prop|.num n=>n<300|.chr=>True|.sn _ a n=>a∈kN/\n<300|.dn c=>c∈kj|.dp n=>n<300|.lo _ _=>True|.df a b=>a∈kj/\b∈kj
theorem gh{s:bV}{t:ax}(e:bC s=t) (J:iH L.g (L.ws s)=[]) (e2:fF L.g (L.ws s)=[]):L.add s=⟨L.rows,L.cur++t,L.g,L.tr⟩:=by unfold LS.add;rw[e,J,e2];show LS.mk _ _ (L.g.ie (L.g.aw++[])) (L.tr++[])=_;rw[Xr,Xr];rfl
inductive EC (r:Nat):Prop|mk (c)(h0:c∈kN)(h1:aF [V.str "p",.str "q",.str "r",.str "u",.str "v",.str "w",.str "z"] r=W_ (.str [c]))
variable{r:Nat}
theorem zZ (h:r<7):EC r:=by exact nj7 (P:=EC) ⟨112,by decide,rfl⟩ ⟨113,by decide,rfl⟩ ⟨114,by decide,rfl⟩ ⟨117,by decide,rfl⟩ ⟨118,by decide,rfl⟩ ⟨119,by decide,rfl⟩ ⟨122,by decide,rfl⟩ _ h
theorem oO (i:Int):∃c∈kj,∀P:Nat->Prop,P c->ky "pqr" (Y5 i 3) P:=by
 obtain⟨r,J,e⟩:=fm (a:=i) (m:=3) ll;have e:Y5 i 3=(r:Int):=e;revert r;refine nj3 ?_ ?_ ?_
 .exact λW e=>⟨112,by decide,λP w=>jX e rfl rfl w⟩
 .exact λW e=>⟨113,by decide,λP w=>jX e rfl rfl w⟩
 .exact λW e=>⟨114,by decide,λP w=>jX e rfl rfl w⟩
theorem itN:bC [nu n]=dec n:=Xr _
theorem LB.up{m':Nat}(h:LB L m)(e:m<=m'):LB L m':=⟨h.g.mono e,Xa h.tr e,Xa h.cur (Nat.mul_le_mul_left _ e),Xa h.rows e⟩
theorem a8.up{m':Nat}(h:a8 p m)(e:m<=m'):a8 p m':=⟨h.cs,h.a0,Y_ h.a1 (Yw.mpr e),h.c0,h.c1⟩
theorem vm (h:n<300):S3 (n:Int):=eJ (XO n) (MX h rfl)
theorem pI (K:aL u) (hp:a8 p m) (lb:LB L m) (U:m<=800) (q:∀s p',Sm.ok s->a8 p' (m+5)->Q (s.x L.g).told (bq B p' (L.add s.bb) H)):CL u (n+3) 121 [.ref B.dX,dN B] (bq B p L H) Q X:=by
 have J:LB L 1000:=lb.up (Xa U ll);refine ent K Q0 rfl (eN K (k:=9) hp (up U rfl) ll ll λw p1 W h1=>eN K (k:=7) h1 (kI U rfl) ll ll λr p2 Z h2=>?_);obtain⟨a,ha,ea⟩:=zZ Z;refine dI (X1 (Xa (Yv Z) ll)) ea (eN K (k:=300) h2 (pU U rfl) ll ll λn p3 O h3=>?_);have M:a8 p3 (m+5):=h3.up (Dp rfl);obtain⟨o1,o2⟩:=vm O;have V:∀{t:ax},t.length<=10->(t++dec (n:Int)).length<=1000:=λh=>Xa (bZ h o2) ll;refine fO (b:=decide ((w:Int)=0)) (λW=>?_) λW=>?_
 .have q:=q (.num n) p3 O M;rw[gh (s:=Sm.bb (.num n)) itN rfl rfl]at q;exact⟨o1,cD K (bE J (Xh _) (V (t:=[]) ll)) q⟩
 refine fO (b:=decide ((w:Int)=1)) (λW=>?_) λW=>?_
 .have q:=q .chr p3 trivial M;rw[gh (s:=Sm.bb .chr) (t:="'A'") rfl rfl rfl]at q;exact cD K (bE J (Xh _) ll) q
 refine fO (b:=decide ((w:Int)<4)) (λW=>?_) λW=>?_
 .generalize Y:decide ((w:Int)=2)=zz;induction zz with|true=>
   have q:=q (.sn Xb a n) p3 ⟨ha,O⟩ M;rw[gh (s:=Sm.bb (.sn Xb a n)) (t:=[a,43]++dec (n:Int)) (WX ([a,43]++ ·) (Xr _)) rfl rfl]at q;exact aW (b:=decide ((w:Int)=2)) Y ⟨ll,o1,Xa (XF o2 2) ll,cD K (bE J (Xh _) (V (t:=[a,43]) ll)) (aW (b:=decide ((w:Int)=2)) Y q)⟩|false=>
   have q:=q (.sn Xg a n) p3 ⟨ha,O⟩ M;rw[gh (s:=Sm.bb (.sn Xg a n)) (t:=[a,32,45,32]++dec (n:Int)) (WX ([a,32,45,32]++ ·) (Xr _)) rfl rfl]at q;exact bp (b:=decide ((w:Int)=2)) Y ⟨ll,o1,Xa (XF o2 4) ll,cD K (bE J (Xh _) (V (t:=[a,32,45,32]) ll)) (bp (b:=decide ((w:Int)=2)) Y q)⟩
 refine fO (b:=decide ((w:Int)=4)) (λW=>?_) λW=>?_
 .obtain⟨c,hc,e⟩:=oO (n:Int);have q:=q (.dn c) p3 hc M;rw[gh (s:=Sm.bb (.dn c)) (t:=[46,45,c]) rfl rfl rfl]at q;exact⟨by decide,e _ ⟨ll,cD K (bE J (Xh _) ll) ⟨by decide,e _ q⟩⟩⟩
 refine fO (b:=decide ((w:Int)=5)) (λW=>?_) λW=>?_
 .have q:=q (.dp n) p3 O M;rw[gh (s:=Sm.bb (.dp n)) (t:=". + "++dec (n:Int)) (WX (". + "++ ·) (Xr _)) rfl rfl]at q;exact⟨o1,Xa (XF o2 4) ll,cD K (bE J (Xh _) (V (t:=". + ") ll)) q⟩
 refine fO (b:=decide ((w:Int)<8)) (λW=>?_) λW=>?_
 .obtain⟨k,hk⟩:∃k:Bool,Y5 (n:Int) 2=((match k with|false=>0|true=>1:Nat):Int):=by
   obtain⟨r,Z,e⟩:=fm (a:=(n:Int)) (m:=2) ll;revert r;refine Tt ?_ ?_
   .exact λe=>⟨Xb,e⟩
   .exact λe=>⟨Xg,e⟩
  exact acd K hk h3 (lb.up (Xp m 3)) (Xa (Xw U 3) ll) λf p' hp'=>q (.lo k f) p' trivial hp'
 .obtain⟨c,hc,e⟩:=oO (n:Int);obtain⟨c',hc',e'⟩:=oO (Int.fdiv (n:Int) 3);have q:=q (.df c c') p3 ⟨hc,hc'⟩ M;rw[gh (s:=Sm.bb (.df c c')) (t:=[c,45,c']) rfl rfl rfl]at q;have dv:(3:Int)≠0/\Yy.divisionGoesByPylong (n:Int) 3=Xb:=⟨by decide,ZM ll⟩;exact⟨by decide,e _ ⟨ll,dv,⟨by decide,e' _ ⟨ll,cD K (bE J (Xh _) ll) ⟨by decide,e _ ⟨dv,⟨by decide,e' _ q⟩⟩⟩⟩⟩⟩⟩
variable{p:Pt}
noncomputable def Ex.wf:Ex->Bool|.at .dot=>Xb|.bin _ _ .dot=>Xb|_=>Xg
def Dd:N:=aQ (av (aG 0 0 ae) (ag "binary")) (.cmp .Eq 0 2 (aG 0 2 ae) (au #[ag "here"]))
variable{P:V->St->Prop}
theorem cnd{x:Ex}{r:List bG}{E:Em}(e:x.wf)(q:P (.bool x.hh) ⟨H,W_ x.told::r⟩):wp u E Dd ⟨H,W_ x.told::r⟩ P:=by
 induction x with
 |«at» x=>induction x with
  |dot=>exact ff e
  |num=>exact q
  |sym=>exact q
 |bin g x y=>induction y with
  |dot=>exact ff e
  |num=>induction x with|dot=>exact⟨rfl,q⟩|num=>exact⟨rfl,q⟩|sym=>exact⟨rfl,q⟩
  |sym=>induction x with
   |dot=>exact⟨rfl,q⟩|num=>exact⟨rfl,q⟩|sym=>exact⟨rfl,q⟩
variable{l:List Ex}
theorem O_ (K:aL u){r:List bG}{k:aP->Hp->Prop}(U:l.length<=1000) (O:∀x∈l,x.wf) (q:k ((l.filter Ex.hh).map Ex.told) H):
  ou (wp u ⟨Xg,n,iX⟩ Dd) (wp u ⟨Xg,n,iX⟩ (.loc 0)) (l.map Ex.told) [] ⟨H,Xk::r⟩ k:=by
 refine JA Ex.hh Ex.told (λx M acc F V h1 h2=>cnd M ?_) ((X7 _).symm▸U) O q;generalize e:x.hh=J;induction J with|true=>exact⟨V,h1 e⟩|false=>exact h2 e
def PU (B:LA)(g:GS):Addr×MO:=(B.hu,.list (g.st.map SE.bj))
noncomputable def Jq(B:LA)(g:GS):Addr×MO:=(B.ta,.list [.int g.dw,.int g.eO])
inductive ac0(x:Ex)(w:ax):Prop|mk(g:Bool)(y:At)(h0:x=.bin g .dot y)(h1:(x.pin w).told=.tup [.str "binary",.str [sgn g],(At.sym w).told,y.told])
variable{w:ax}
theorem z'{x:Ex}(e:x.wf)(h:x.hh):ac0 x w:=by
 induction x with
 |«at» x=>induction x with
  |dot=>exact ff e
  |num=>exact ff h
  |sym=>exact ff h
 |bin g x y=>induction y with
  |dot=>exact ff e
  |num=>induction x with|dot=>exact⟨g,_,rfl,rfl⟩|num=>exact ff h|sym=>exact ff h
  |sym=>induction x with
   |dot=>exact⟨g,_,rfl,rfl⟩|num=>exact ff h|sym=>exact ff h
theorem Gr{x:Ex}(h:x.hh=Xb):x.pin w=x:=by
 induction x with
 |«at» x=>induction x with
  |dot=>exact ft h|_=>rfl
 |bin g x y=>induction x with|dot=>exact ft h|_=>induction y with|dot=>exact ft h|_=>rfl
def NU:N:=aQ (av (aG 0 0 bh) (ag "binary")) (.cmp .Eq 0 2 (aG 0 2 bh) (au #[ag "here"]))
theorem aaV{x:Ex}{a0 a1 a2 a3 a4 a6:bG}{E:Em}(e:x.wf)(q:P (.bool x.hh) ⟨H,[a0,a1,a2,a3,a4,W_ x.told,a6]⟩):wp u E NU ⟨H,[a0,a1,a2,a3,a4,W_ x.told,a6]⟩ P:=by
 induction x with
 |«at» x=>induction x with|dot=>exact ff e|num=>exact q|sym=>exact q
 |bin g x y=>induction y with|dot=>exact ff e|num=>cases x<;>exact⟨rfl,q⟩|sym=>cases x<;>exact⟨rfl,q⟩
inductive adl (B:LA)(H:Hp)(g:GS)(p:Pt)(F:Addr)(l:List Ex)(l':List Ex)(σ:St):Prop|mk (acc y5 y6)(h0:σ=⟨(B.hu,.list (g.st.map SE.bj++[.tup [.tup [.str "label",.str (mK (g.dw+1))],p.tup]]))::(B.ta,.list [.int (g.dw+1:Nat),.int g.eO])::(F,.list acc)::H,[W_ (dN B),W_ (.lst (l.map Ex.told)),W_ p.tup,W_ (.str (mK (g.dw+1))),W_ (.ref F),y5,y6]⟩)(h1:acc++(l'.map (Ex.pin (mK (g.dw+1)))).map Ex.told=(l.map (Ex.pin (mK (g.dw+1)))).map Ex.told)(h2:acc.length+l'.length<=900)(h3:∀x∈l',x.wf)
theorem IU (K:aL u) (U:l.length<=900) (J:∀x∈l,x.wf) (V:GB g 1000) (q:Q (.tup ((ik g l).map Ex.told)) (PU B (g.pn l p)::Jq B (g.pn l p)::H)):CL u (n+1) 122 [dN B,.lst (l.map Ex.told),p.tup] (PU B g::Jq B g::H) Q X:=by
 refine ent K QZ rfl (O_ K (Xa U ll) J ⟨rfl,?_⟩);have Y:∀{b},l.any Ex.hh=b->((l.filter Ex.hh).map Ex.told).isEmpty=!b:=λh=>by rw[Z6,yr,h]
 unfold ik GS.pn at q;generalize h:l.any Ex.hh=M;induction M with|false=>
  rw[h]at q;exact aW (b:=((l.filter Ex.hh).map Ex.told).isEmpty) (Y h) q|true=>
  rw[h]at q;obtain⟨e1,e2⟩:=eJ (XO (g.dw+1)) (hU V.dw);have q:Q (.tup ((l.map (Ex.pin (mK (g.dw+1)))).map Ex.told)) ((B.hu,.list ((g.st++[SE.dm (mK (g.dw+1)) p]).map SE.bj))::(B.ta,.list [.int (g.dw+1:Nat),.int g.eO])::H):=q;rw[XQ]at q;refine bp (b:=((l.filter Ex.hh).map Ex.told).isEmpty) (Y h) ⟨rfl,rfl,⟨⟨by decide,by decide⟩,Nat.zero_lt_succ _⟩,rfl,e1,Xa (XF e2 2) ll,Xa (Xm (bZ (a:="0.") (Xh 2) e2) (Xh 1)) ll,⟨rfl,Xu⟩,rfl,ba V.st,λF=>?_⟩;refine forM (f:=Ex.told) (adl B H g p F l) ?_ ?_ ⟨[],Xk,Xk,rfl,rfl,by rw[Yh,X7];exact U,J⟩
  .rintro _ ⟨acc,y5,y6,rfl,e,-,-⟩;have e:acc=_:=(Xr acc).symm.trans e;rw[e];exact⟨rfl,q⟩
  .rintro x l' G hG _ ⟨acc,y5,y6,rfl,e,hk,J⟩;rw[Xq]at hk;have O:=J x (.head _);have Z:acc.length<16777216:=FC hk rfl;refine aaV O ?_;have nx:∀y5 y6,G ⟨(B.hu,.list (g.st.map SE.bj++[.tup [.tup [.str "label",.str (mK (g.dw+1))],p.tup]]))::(B.ta,.list [.int (g.dw+1:Nat),.int g.eO])::(F,.list (acc++[(x.pin (mK (g.dw+1))).told]))::H,[W_ (dN B),W_ (.lst (l.map Ex.told)),W_ p.tup,W_ (.str (mK (g.dw+1))),W_ (.ref F),y5,y6]⟩:=λy5 y6=>hG _ ⟨_,y5,y6,rfl,(Xf ..).trans e,by rw[Xc,X_,YN [_].length];exact hk,λx m=>J x (.tail _ m)⟩
   generalize hh:x.hh=M;induction M with|true=>
    obtain⟨g',y,rfl,e3⟩:=z' (w:=mK (g.dw+1)) O hh;rw[e3]at nx;exact⟨⟨rfl,Xu⟩,rfl,Z,nx _ _⟩|false=>
    rw[Gr hh]at nx;exact⟨⟨rfl,Xu⟩,rfl,Z,nx _ _⟩
variable{p:PN}{pt:Pt}{tr:List (Bool×Pt)}
theorem gX{l:Int}:∀{s:bV}{o:Nat},(gK l o s).length<=s.length|[],_=>Xh _|none::s,_=>XE (gX (s:=s))|some _::s,_=>XH (gX (s:=s))
theorem Cf:∀{ws:List (Lx×Pt)},(iH g ws).length<=ws.length:=by
 intro ws;induction ws with
 |nil=>
  exact Xh _|cons x0 ws ih=>
  obtain⟨x,p⟩:=x0;have ih:(iH g ws).length<=ws.length:=ih;induction x with
  |lo k f=>induction f with
   |true=>exact XH ih|false=>exact XE ih
  |_=>exact XE ih
theorem zj:∀{ws:List (Lx×Pt)},(fF g ws).length<=ws.length:=by
 intro ws;induction ws with
 |nil=>exact Xh _
 |cons x0 ws ih=>
  obtain⟨x,p⟩:=x0;have ih:(fF g ws).length<=ws.length:=ih
  induction x with
  |lo k f=>induction f with|true=>exact XE ih|false=>
    show(match g.cn k with|0=>p::fF g ws|_+1=>fF g ws).length<=_;cases g.cn k with
    |zero=>exact XH ih
    |succ=>exact XE ih
  |_=>exact XE ih
theorem LB.add{s:bV}{k:Nat}(h:LB L m) (h1:s.length<=k) (h2:(bC s).length<=1000*k):LB (L.add s) (m+k):=by
 have a1:(iH L.g (L.ws s)).length<=k:=Xa Cf (Xa gX h1);have a2:(fF L.g (L.ws s)).length<=k:=Xa zj (Xa gX h1);have up:=h.g.mono (Xp m k);refine⟨⟨up.st,up.c1,up.c2,?_,up.eq,up.wt,up.dw,up.eO⟩,?_,?_,Xa h.rows (Xp ..)⟩
 .show(L.g.aw++iH L.g (L.ws s)).length<=_;rw[Xc];exact Xm h.g.aw a1
 .show(L.tr++(fF L.g (L.ws s)).map (Xg,·)).length<=_;rw[Xc,Xl];exact Xm h.tr a2
 .show(L.cur++bC s).length<=_;rw[Xc,Nat.mul_add];exact Xm h.cur h2
theorem fj{s:Sm}:s.bb.length<=5:=by induction s with|sn g a n=>cases g<;>exact ll|_=>exact ll
theorem hM{s:Sm}(h:s.ok):(bC s.bb).length<=1000*5:=by have key:∀{a:ax}{n:Nat},n<300->a.length<=10->(a++(dec (n:Int)++[])).length<=1000*5:=λe J=>Xa (bZ J (bZ (vm e).2 (Xh 0))) ll;induction s with|num n=>exact key (a:=[]) h ll|chr=>exact ll|sn g a n=>cases g;exact key (a:=[a,43]) h.2 ll;exact key (a:=[a,32,45,32]) h.2 ll|dn c=>exact ll|dp n=>exact key (a:=". + ") h ll|lo k f=>cases k<;>cases f<;>decide|df a b=>exact ll
theorem KQ{l:List AE}{s:Sm}:s.x (g.ie l)=s.x g:=by cases s<;>first|rfl|(rename_i k f;show Ex.at (.sym (dR k _))=Ex.at (.sym (dR k _));cases k<;>cases f<;>rfl)
theorem ub{s:Sm}:(s.x g).wf:=by cases s<;>rfl
noncomputable def jt(sep:bV):List Sm->bV|[]=>[]|s::l=>sep++(s.bb++jt sep l)
def cG(sep:bV):List Sm->bV|[]=>[]|s::l=>s.bb++jt sep l
variable{sep:bV}
theorem An{s:Sm}:∀{l:List Sm},jt sep (l++[s])=jt sep l++(sep++s.bb):=by
 intro l;induction l with|nil=>
  exact WX (sep++ ·) (Xr _)|cons y l ih=>
  show sep++(y.bb++jt sep (l++[s]))=sep++(y.bb++jt sep l)++_;rw[ih,Xf,Xf]
theorem qd{s y:Sm}{l:List Sm}:cG sep (y::l++[s])=cG sep (y::l)++(sep++s.bb):=by show y.bb++jt sep (l++[s])=y.bb++jt sep l++_;rw[An,Xf]
theorem cJ{s:SE}:cY B (g.put s) tr H=(B.ct,.bz [(1,.int g.c1),(22,.int g.c2)])::(B.aw,.list (g.aw.map AE.bj))::(B.eq,.list (g.eq.map QE.bj))::(B.hu,.list (g.st.map SE.bj++[s.bj]))::(B.wt,.list (g.wt.map WE.bj))::(B.tr,.list (tr.map mI))::(B.ta,.list [.int g.dw,.int g.eO])::H:=by unfold cY GS.put;rw[XQ];rfl
theorem gz{t:bV}{s:Sm}:s.x (L.add t).g=s.x L.g:=KQ
theorem add_nil:L.add []=L:=by unfold LS.add;show LS.mk L.rows (L.cur++[]) (L.g.ie (L.g.aw++[])) (L.tr++[])=L;rw[Xr,Xr,Xr];rfl
def told(g:GS)(l:List Sm):aP:=l.map λs=>(s.x g).told
def NT:N:=ao (cw bY (aj 0)) (aC (.a_ 119 [1] #[ay,ag " ,"])^aa) aa^aC (.bT 9 0 b7 #[.a_ 121 [0,0,0,0,0,0,0,0,0] #[ae,aq]])^aa
noncomputable def bk:bV:=[Xk,W_ (.sg 44)]
inductive I8a (B:LA) (L:LS) (H:Hp) (F:Addr) (m k:Nat) (y3 y4 y5 y8 y9:bG) (l':ax) (σ:St):Prop|mk (ss p' y7) (h0:σ=⟨bq B p' (L.add (cG bk ss)) ((F,.list (told L.g ss))::H),[W_ (.ref B.dX),W_ (dN B),W_ (.ref B.cu),y3,y4,y5,W_ (.ref F),y7,y8,y9]⟩) (h1:l'=List.range' ss.length l'.length) (h2:(∀s∈ss,Sm.ok s)) (h3:a8 p' (m+7*ss.length)) (h4:LB (L.add (cG bk ss)) (m+7*ss.length)) (h5:ss.length+l'.length=k)
variable{y3:bG}{y4:bG}{y5:bG}{y8:bG}{y9:bG}{y7:bG}{Q':V->St->Prop}
theorem zt (K:aL u){F:Addr}{k:Nat}(hk:k<=10) (hp:a8 p m) (Z:LB L m) (hm:m<=700)
  (q:∀ss p' y7,ss.length=k->(∀s∈ss,Sm.ok s)->a8 p' (m+7*k)->LB (L.add (cG bk ss)) (m+7*k)->Q' .none ⟨bq B p' (L.add (cG bk ss)) ((F,.list (told L.g ss))::H),[W_ (.ref B.dX),W_ (dN B),W_ (.ref B.cu),y3,y4,y5,W_ (.ref F),y7,y8,y9]⟩):
  forL (n6 7) (wp u (eM Xg (n+3) X) NT) (eu k) ⟨bq B p L ((F,.list [])::H),[W_ (.ref B.dX),W_ (dN B),W_ (.ref B.cu),y3,y4,y5,W_ (.ref F),y7,y8,y9]⟩ Q':=by
 refine forM (f:=λi:Nat=>V.int (i:Int)) (I8a B L H F m k y3 y4 y5 y8 y9) ?_ ?_ ⟨[],p,_,by rw[show cG bk []=[]from rfl,add_nil];rfl,by rw[YB];exact List.range_eq_range',λW h=>W5 h XX,hp,by rw[show cG bk []=[]from rfl,add_nil];exact Z,by rw[YB];exact X7 _⟩
 .rintro _ ⟨ss,p',y7,rfl,-,ok,M,J,e⟩
  have e:ss.length=k:=e
  rw[e]at M J;exact q ss p' y7 e ok M J
 .rintro a l' G hG _ ⟨ss,p',y7,rfl,Y,ok,M,J,e⟩;rw[Xq]at Y e;obtain⟨rfl,O⟩:=ZU Y;have b1:m+7*ss.length<=790:=bB (Xm hm (c7 (kg e hk))) rfl
  have tl:(told L.g ss).length<16777216:=by unfold told;rw[Xl];exact rE (kg e hk) rfl
  have nx:∀s p2,Sm.ok s->a8 p2 (m+7*ss.length+7)->LB (L.add (cG bk (ss++[s]))) (m+7*ss.length+7)->G ⟨bq B p2 (L.add (cG bk (ss++[s]))) ((F,.list (told L.g ss++[(s.x L.g).told]))::H),[W_ (.ref B.dX),W_ (dN B),W_ (.ref B.cu),y3,y4,y5,W_ (.ref F),W_ (.int (ss.length:Int)),y8,y9]⟩:=λs p2 hs h2 hl=>by
   have e1:told L.g ss++[(s.x L.g).told]=told L.g (ss++[s]):=by unfold told;rw[XQ];rfl
   have e2:(ss++[s]).length=ss.length+1:=by rw[Xc];rfl
   rw[e1]
   refine hG _ ⟨ss++[s],p2,_,rfl,by rw[e2];exact O,λy m=>(Yk.mp m).elim (ok y) λm=>by rw[Xs.mp m];exact hs,?_,?_,by rw[e2];exact Sf e⟩
   .rw[e2];exact h2.up uq
   .rw[e2];exact hl.up uq
  induction ss using Xn with
  |nil=>
   have J:=J
   rw[show cG bk []=[]from rfl,add_nil]at J⊢;refine⟨⟨rfl,Xu⟩,pI K M J (Xa b1 ll) λs p2 hs h2=>⟨rfl,tl,?_⟩⟩;have q1:=nx s p2 hs (h2.up (XF ll _));rw[show cG bk ([]++[s])=s.bb from Xr _]at q1;exact q1 ((J.add fj (hM hs)).up (XF ll _))|cons y l=>
   have U:LB ((L.add (cG bk (y::l))).add bk) (m+7* (y::l).length+2):=J.add ll ll;have ea:(L.add (cG bk (y::l))).add bk=⟨(L.add (cG bk (y::l))).rows,(L.add (cG bk (y::l))).cur++" ,",(L.add (cG bk (y::l))).g,(L.add (cG bk (y::l))).tr⟩:=gh rfl rfl rfl;refine aW (b:=decide ((0:Int)<((y::l).length:Int))) (W4 (YW.mpr (Y' _))) (cD K (bE (J.up (Xa b1 ll)) (Xh 1000) (t:=" ,") ll) ?_);show wp u _ _ ⟨bq B p' ⟨(L.add (cG bk (y::l))).rows,(L.add (cG bk (y::l))).cur++" ,",(L.add (cG bk (y::l))).g,(L.add (cG bk (y::l))).tr⟩ _,_⟩ _;rw[<-ea];refine⟨⟨rfl,Xu⟩,pI K (M.up (Xp _ 2)) U (kI b1 rfl) λs p2 hs h2=>⟨rfl,tl,?_⟩⟩;have ex:(s.x ((L.add (cG bk (y::l))).add bk).g).told=(s.x L.g).told:=by rw[gz,gz]
   rw[ex]
   have q1:=nx s p2 hs h2
   rw[qd,ef,ef]at q1
   exact q1 (U.add fj (hM hs))
def Dc:N:=ao (cw bY (aj 0)) (aC (.a_ 119 [1] #[aG 0 0 aq,ag ", "])^aa) aa^aC (.bT 9 0 b7 #[.a_ 121 [0,0,0,0,0,0,0,0,0] #[ae,aq]])^aa
noncomputable def br:bV:=[W_ (.sg 44),Xk]
inductive I8b (B:LA) (L:LS) (H:Hp) (F:Addr) (m k:Nat) (y2 y3 y4 y5 y8:bG) (l':ax) (σ:St):Prop|mk (ss p' y7:_) (h0:σ=⟨bq B p' (L.add (cG br ss)) ((F,.list (told L.g ss))::H),[W_ (.ref B.dX),W_ (dN B),y2,y3,y4,y5,W_ (.ref F),y7,y8]⟩) (h1:l'=List.range' ss.length l'.length) (h2:(∀s∈ss,Sm.ok s)) (h3:a8 p' (m+7*ss.length)) (h4:LB (L.add (cG br ss)) (m+7*ss.length)) (h5:ss.length+l'.length=k)
variable{y2:bG}
theorem zr (K:aL u){F:Addr}{k:Nat}(hk:k<=10) (hp:a8 p m) (Z:LB L m) (hm:m<=700)
  (q:∀ss p' y7,ss.length=k->(∀s∈ss,Sm.ok s)->a8 p' (m+7*k)->LB (L.add (cG br ss)) (m+7*k)->Q' .none ⟨bq B p' (L.add (cG br ss)) ((F,.list (told L.g ss))::H),[W_ (.ref B.dX),W_ (dN B),y2,y3,y4,y5,W_ (.ref F),y7,y8]⟩):
  forL (n6 7) (wp u (eM Xg (n+3) X) Dc) (eu k) ⟨bq B p L ((F,.list [])::H),[W_ (.ref B.dX),W_ (dN B),y2,y3,y4,y5,W_ (.ref F),y7,y8]⟩ Q':=by
 refine forM (f:=λi:Nat=>V.int (i:Int)) (I8b B L H F m k y2 y3 y4 y5 y8) ?_ ?_ ⟨[],p,_,by rw[show cG br []=[]from rfl,add_nil];rfl,by rw[YB];exact List.range_eq_range',λW h=>W5 h XX,hp,by rw[show cG br []=[]from rfl,add_nil];exact Z,by rw[YB];exact X7 _⟩
 .rintro _ ⟨ss,p',y7,rfl,-,ok,M,J,e⟩
  have e:ss.length=k:=e
  rw[e]at M J;exact q ss p' y7 e ok M J
 .rintro a l' G hG _ ⟨ss,p',y7,rfl,Y,ok,M,J,e⟩;rw[Xq]at Y e;obtain⟨rfl,O⟩:=ZU Y;have b1:m+7*ss.length<=790:=bB (Xm hm (c7 (kg e hk))) rfl
  have tl:(told L.g ss).length<16777216:=by unfold told;rw[Xl];exact rE (kg e hk) rfl
  have nx:∀s p2,Sm.ok s->a8 p2 (m+7*ss.length+7)->LB (L.add (cG br (ss++[s]))) (m+7*ss.length+7)->G ⟨bq B p2 (L.add (cG br (ss++[s]))) ((F,.list (told L.g ss++[(s.x L.g).told]))::H),[W_ (.ref B.dX),W_ (dN B),y2,y3,y4,y5,W_ (.ref F),W_ (.int (ss.length:Int)),y8]⟩:=λs p2 hs h2 hl=>by
   have e1:told L.g ss++[(s.x L.g).told]=told L.g (ss++[s]):=by unfold told;rw[XQ];rfl
   have e2:(ss++[s]).length=ss.length+1:=by rw[Xc];rfl
   rw[e1]
   refine hG _ ⟨ss++[s],p2,_,rfl,by rw[e2];exact O,λy m=>(Yk.mp m).elim (ok y) λm=>by rw[Xs.mp m];exact hs,?_,?_,by rw[e2];exact Sf e⟩
   .rw[e2];exact h2.up uq
   .rw[e2];exact hl.up uq
  induction ss using Xn with
  |nil=>
   have J:=J
   rw[show cG br []=[]from rfl,add_nil]at J⊢;refine⟨⟨rfl,Xu⟩,pI K M J (Xa b1 ll) λs p2 hs h2=>⟨rfl,tl,?_⟩⟩;have q1:=nx s p2 hs (h2.up (XF ll _));rw[show cG br ([]++[s])=s.bb from Xr _]at q1;exact q1 ((J.add fj (hM hs)).up (XF ll _))|cons y l=>
   have U:LB ((L.add (cG br (y::l))).add br) (m+7* (y::l).length+2):=J.add ll ll;have ea:(L.add (cG br (y::l))).add br=⟨(L.add (cG br (y::l))).rows,(L.add (cG br (y::l))).cur++", ",(L.add (cG br (y::l))).g,(L.add (cG br (y::l))).tr⟩:=gh rfl rfl rfl;refine aW (b:=decide ((0:Int)<((y::l).length:Int))) (W4 (YW.mpr (Y' _))) (cD K (bE (J.up (Xa b1 ll)) (Xh 1000) (t:=", ") ll) ?_);show wp u _ _ ⟨bq B p' ⟨(L.add (cG br (y::l))).rows,(L.add (cG br (y::l))).cur++", ",(L.add (cG br (y::l))).g,(L.add (cG br (y::l))).tr⟩ _,_⟩ _;rw[<-ea];refine⟨⟨rfl,Xu⟩,pI K (M.up (Xp _ 2)) U (kI b1 rfl) λs p2 hs h2=>⟨rfl,tl,?_⟩⟩;have ex:(s.x ((L.add (cG br (y::l))).add br).g).told=(s.x L.g).told:=by rw[gz,gz]
   rw[ex]
   have q1:=nx s p2 hs h2
   rw[qd,ef,ef]at q1
   exact q1 (U.add fj (hM hs))
inductive AtS (α:Type)(f:α->V)(l:List α)(r:Nat):Prop|mk (w:_)(h0:w∈l)(h1:aF (l.map f) r=W_ (f w))
variable{α:Type}
theorem atS{f:α->V}{l:List α}(h:r<l.length):AtS α f l r:=⟨l[r],Zt h,by rw[bf,X2,XD h];rfl⟩
theorem l8{s:SE}:cY B ((g.pn l pt).put s) tr H=(B.ct,.bz [(1,.int g.c1),(22,.int g.c2)])::(B.aw,.list (g.aw.map AE.bj))::(B.eq,.list (g.eq.map QE.bj))::(B.hu,.list ((g.pn l pt).st.map SE.bj++[s.bj]))::(B.wt,.list (g.wt.map WE.bj))::(B.tr,.list (tr.map mI))::Jq B (g.pn l pt)::H:=by rw[cJ];unfold GS.pn Jq;cases l.any Ex.hh<;>rfl
theorem iD:(SE.bF w (l.map .e) pt).bj=.tup [.tup [.str "deed",.str w,.tup (l.map Ex.told)],pt.tup]:=by
 have e:(l.map Arg.e).map Arg.told=l.map Ex.told:=by rw[Yn];rfl
 show V.tup [.tup [.str "deed",.str w,.tup ((l.map Arg.e).map Arg.told)],pt.tup]=_;rw[e]
theorem lQ (h:g.st.length<=1000):((g.pn l pt).st.map SE.bj).length<16777216:=by
 rw[Xl];unfold GS.pn;cases l.any Ex.hh
 .exact Xz h ll
 .exact Xz (show(g.st++[_]).length<=1001 by rw[Xc];exact XH h) ll
noncomputable def LS.pl(L:LS):Pt:=⟨(L.rows.length+1:Nat),(L.cur.length:Int)+1⟩
noncomputable def LS.wg(L:LS)(g:GS):LS:=⟨L.rows,L.cur,g,L.tr⟩
noncomputable def cZ (w:ax):bV:=[W_ (.nm w),Xk]
def xs (g:GS)(ss:List Sm):List Ex:=ss.map (Sm.x g)
variable{ss:List Sm}
theorem pX:told g ss=(xs g ss).map Ex.told:=by unfold told xs;rw[Yn];rfl
theorem mT:∀x∈xs g ss,x.wf:=λx m=>by obtain⟨s,-,rfl⟩:=Yi.mp m;exact ub
theorem GB.ot:∀{l:List Ex}{g:GS}{m:Nat},GB g m->GB (Internal.ot w pt g l) (m+2*l.length):=by
 intro l;induction l with
 |nil=>
  intro _ _ h;exact h|cons x l ih=>
  intro g m h;have:=ih ((h.pn (l:=[x]) (p:=pt)).put (s:=.bF w ((ik g [x]).map .e) pt));exact this.mono (by rw[Xq];exact M0)
theorem GB.ko (h:GB g m):GB (Internal.ko w pt g l) (m+2*l.length+1):=by
 unfold Internal.ko;cases l.any Ex.hh
 .exact h.put.mono (by lia)
 .exact(GB.ot h).mono (Yl _)
inductive adk (B:LA)(L L2:LS)(H:Hp)(p3:PN)(w:ax)(ss:List Sm)(y7:bG)(l':List Ex)(σ:St):Prop|mk (g' m' y8 y9:_)(h0:σ=⟨cO B p3::bW B L2.rows L2.cur::cY B g' L2.tr H,[W_ (.ref B.dX),W_ (dN B),W_ (.ref B.cu),W_ (.ref B.hu),W_ (.str w),W_ L.pl.tup,W_ (.lst ((xs L.g ss).map Ex.told)),y7,y8,y9]⟩)(h1:GB g' m')(h2:m'+2*l'.length<=1000)(h3:ot w L.pl g' l'=ot w L.pl L2.g (xs L.g ss))(h4:∀x∈l',x.wf)
theorem acb (K:aL u) (hp:a8 p m) (lb:LB L m) (O:m<=600) (q:∀w ss p',w∈rr->(∀s∈ss,Sm.ok s)->((∃s l,ss=s::l)/\ss.length<=3)->a8 p' (m+40)->LB (((L.add (cZ w)).add (cG bk ss)).wg (ko w L.pl ((L.add (cZ w)).add (cG bk ss)).g (xs L.g ss))) (m+40)->Q .none (bq B p' (((L.add (cZ w)).add (cG bk ss)).wg (ko w L.pl ((L.add (cZ w)).add (cG bk ss)).g (xs L.g ss))) H)):
  CL u (n+4) 123 [.ref B.dX,dN B] (bq B p L H) Q X:=by
 refine ent K QY rfl (eN K (k:=8) hp (up O rfl) ll ll λr p1 hr h1=>?_);obtain⟨w,hw,ew⟩:=atS (f:=V.str) (l:=rr) hr;have wl:w.length<=20:=(by decide:∀w∈rr,w.length<=20) w hw;have e1:L.add (cZ w)=⟨L.rows,L.cur++(w++" "),L.g,L.tr⟩:=gh rfl rfl rfl;have lw:(w++" ").length<=1000*1:=Xa (bZ wl (Xh 1)) ll;have U:LB (L.add (cZ w)) (m+2):=lb.add (Xh 2) (Xa lw ll);refine dI (X1 (Xa (Yv hr) ll)) ew ⟨Xa (Xw wl 1) ll,cD K (bE (lb.up (Xa O ll)) (Xh 1000) lw) ?_⟩;have q:=λss p'=>q w ss p' hw;rw[e1]at q U;refine λF=>eN K (k:=3) h1 (kI O rfl) ll ll λr2 p2 M h2=>⟨MQ M rfl,zt K (L:=⟨L.rows,L.cur++(w++" "),L.g,L.tr⟩) (k:=1+r2) (bB (Xm (Xh 1) (jL M)) rfl) h2 U (pU O rfl) λss p3 y7 hs ok h3 J=>⟨rfl,?_⟩⟩;have es:told L.g ss=(xs L.g ss).map Ex.told:=pX;have xl:(xs L.g ss).length=ss.length:=Xl ..;have s3:ss.length<=3:=bB (Xa (X4 hs) (Xm (Xh 1) (jL M))) rfl;have ne:∃s l,ss=s::l:=by induction ss using Xn with|nil=>rw[Yh]at hs;lia|cons s l=>exact⟨s,l,rfl⟩
 have h3:a8 p3 (m+40):=h3.up (by lia);have J:LB ((⟨L.rows,L.cur++(w++" "),L.g,L.tr⟩:LS).add (cG bk ss)) (m+23):=J.up (by lia);have q:=q ss p3 ok ⟨ne,s3⟩ h3;revert q J;generalize (⟨L.rows,L.cur++(w++" "),L.g,L.tr⟩:LS).add (cG bk ss)=L2;intro J q;rw[es];have q:=q ⟨(GB.ko J.g).mono (by lia),Xa J.tr (eW rfl),Xa J.cur (rF rfl),Xa J.rows (eW rfl)⟩;have st2:L2.g.st.length<=1000:=Xa J.g.st (kI O rfl);have em:∀{b},(xs L.g ss).any Ex.hh=b->(((xs L.g ss).filter Ex.hh).map Ex.told).isEmpty=!b:=λh=>by rw[Z6,yr,h]
 refine O_ K (bB (Xa (X4 xl) s3) rfl) mT ⟨rfl,?_⟩;unfold ko at q;generalize h:(xs L.g ss).any Ex.hh=zz;induction zz with|false=>
  rw[h]at q;have q:Q .none (cO B p3::bW B L2.rows L2.cur::cY B (L2.g.put (.bF w ((xs L.g ss).map .e) L.pl)) L2.tr H):=q;rw[cJ,iD]at q;exact aW (b:=(((xs L.g ss).filter Ex.hh).map Ex.told).isEmpty) (em h) ⟨⟨rfl,Xu⟩,rfl,ba st2,q⟩|true=>
  rw[h]at q;have q:Q .none (bq B p3 (L2.wg (ot w L.pl L2.g (xs L.g ss))) H):=q;refine bp (b:=(((xs L.g ss).filter Ex.hh).map Ex.told).isEmpty) (em h) ?_;refine forM (f:=Ex.told) (adk B L L2 H p3 w ss y7) ?_ ?_ ⟨L2.g,m+23,Xk,Xk,rfl,J.g,bB (Xm (Xm O (Xh 23)) (c7 (Xa (X4 xl) s3))) rfl,rfl,mT⟩
  .rintro _ ⟨g',m',y8,y9,rfl,-,-,e,-⟩;have e:g'=ot w L.pl L2.g (xs L.g ss):=e;rw[e];exact q
  .rintro x l' G hG _ ⟨g',m',y8,y9,rfl,Z,hm',e,Y⟩;obtain⟨e1,e2,e3⟩:=bd2 hm';have gs:GB g' 1000:=Z.mono e2;have q1:=hG ⟨cO B p3::bW B L2.rows L2.cur::cY B ((g'.pn [x] L.pl).put (.bF w ((ik g' [x]).map .e) L.pl)) L2.tr H,_⟩ ⟨_,m'+1+1,W_ x.told,W_ (.tup ((ik g' [x]).map Ex.told)),rfl,Z.pn.put,e1,e,λx m=>Y x (.tail _ m)⟩;rw[l8,iD]at q1;exact IU K (l:=[x]) ll (λy m=>by rw[Xs.mp m];exact Y x (.head _)) gs ⟨⟨rfl,Xu⟩,rfl,lQ gs.st,q1⟩
def NS:N:=.ast [5,6] Xg (au #[.a_ 119 [1] #[aG 0 0 aq,ah ay (ag " ")],.lst 9 .bJ])^.eH 7 (.yK #[aK]) Dc^.dY (.iz 6 9) (ao (bw (av aK (aj 0)) (cw aK aD)) (az bh^aa) aa^ak 8 (.a_ 122 [5,7] #[aq,b7,bh])^aC (.bT 5 0 (aG 0 4 aq) #[au #[au #[ag "deed",ay,cP],bh]])^az cq^aa)
noncomputable def xE:List (ax×Nat):=[(".align",1),(".balign",1),(".p2align",1),(".org",1),(".zero",1),(".skip",2),(".space",2),(".fill",3)]
noncomputable def gB(k:Nat)(ss:List Sm):Bool:=!ss.isEmpty&&XU ss.length k
def s7 (w:ax)(L:LS)(ss:List Sm):LS:=(L.add (cZ w)).add (cG br ss)
def PQ (w:ax)(L:LS)(ss:List Sm):GS:=((s7 w L ss).g.pn (xs L.g ss) L.pl).put (.bF w ((ik (s7 w L ss).g (xs L.g ss)).map .e) L.pl)
def M9 (B:LA) (Q:V->Hp->Prop) (H:Hp) (L:LS) (m:Nat):Prop:=∀w k ss p',(w,k)∈xE->(∀s∈ss,Sm.ok s)->ss.length<=4->a8 p' (m+40)->LB (s7 w L ss) (m+36)->match gB k ss with|true=>Q .none (bq B p' ((s7 w L ss).wg (PQ w L ss)) H)|false=>Q L.pl.tup (bq B p' (s7 w L ss) H)
variable{c:Nat}
theorem FK (K:aL u){k:Nat}(hw:(w,k)∈xE) (O:c<=4) (hp:a8 p (m+3)) (lb:LB L m) (V:m<=600) (q:M9 B Q H L m):wp u (eM Xg (n+3) X) NS ⟨bq B p L H,[W_ (.ref B.dX),W_ (dN B),W_ (.str w),W_ (.int k),W_ (.int c),Xk,Xk,Xk,Xk]⟩ (eQ Q):=by
 have Y:w.length<=20:=(by decide:∀y∈xE,y.1.length<=20) _ hw;have e1:L.add (cZ w)=⟨L.rows,L.cur++(w++" "),L.g,L.tr⟩:=gh rfl rfl rfl;have Z:(w++" ").length<=1000*1:=Xa (bZ Y (Xh 1)) ll;have M:LB (L.add (cZ w)) (m+2):=lb.add (Xh 2) (Xa Z ll);refine⟨Xa (Xw Y 1) ll,cD K (bE (lb.up (Xa V ll)) (Xh 1000) Z) ?_⟩;have q:=λss p'=>q w k ss p' hw;unfold PQ s7 at q;rw[e1]at q M;refine λF=>⟨Gd O rfl,zr K (L:=⟨L.rows,L.cur++(w++" "),L.g,L.tr⟩) (k:=c) (up O rfl) hp (M.up (Yl _)) (kI V rfl) λss p3 y7 hs ok h3 J=>⟨rfl,?_⟩⟩;have es:told L.g ss=(xs L.g ss).map Ex.told:=pX;have xl:(xs L.g ss).length=ss.length:=Xl ..;have q:=q ss p3 ok (bB (Xa (X4 hs) O) rfl) (h3.up (by lia)) (J.up (by lia));revert q J;generalize (⟨L.rows,L.cur++(w++" "),L.g,L.tr⟩:LS).add (cG br ss)=L2;intro J q;rw[es];have gs:GB L2.g 1000:=J.g.mono (bB (Xm (Xm V (Xh 3)) (c7 O)) rfl);subst hs;induction ss using Xn with|nil=>exact q|cons s l=>
  have q:match XU (s::l).length k with|true=>Q .none (bq B p3 (L2.wg ((L2.g.pn (xs L.g (s::l)) L.pl).put (.bF w ((ik L2.g (xs L.g (s::l))).map .e) L.pl))) H)|false=>Q L.pl.tup (bq B p3 L2 H):=q;generalize U:XU (s::l).length k=zz;induction zz with
  |false=>
   rw[U]at q;exact aW (b:=decide ((k:Int)<((s::l).length:Int))) (yh U) q|true=>
   rw[U]at q;have q:Q .none (cO B p3::bW B L2.rows L2.cur::cY B ((L2.g.pn (xs L.g (s::l)) L.pl).put (.bF w ((ik L2.g (xs L.g (s::l))).map .e) L.pl)) L2.tr H):=q;rw[l8,iD]at q;exact bp (b:=decide ((k:Int)<((s::l).length:Int))) (yi U) (IU K (bB (Xa (X4 xl) O) rfl) mT gs ⟨⟨rfl,Xu⟩,rfl,lQ gs.st,q⟩)
theorem aca (K:aL u) (hp:a8 p m) (M:LB L m) (e:m<=600) (q:M9 B Q H L m):CL u (n+4) 124 [.ref B.dX,dN B] (bq B p L H) Q X:=by
 refine ent K QX rfl (eN K (k:=8) hp (up e rfl) ll ll λr p1 U h1=>?_);obtain⟨⟨w,k⟩,J,ew⟩:=atS (f:=λy:ax×Nat=>V.tup [.str y.1,.int y.2]) (l:=xE) U;have kk:1<=k/\k<=3:=(by decide:∀y∈xE,1<=y.2/\y.2<=3) _ J;refine dI (X1 (Xa (Yv U) ll)) ew (eN K (k:=k) h1 (kI e rfl) kk.1 (bB (M1 kk) rfl) λO p2 hr2 h2=>eN K (k:=12) h2 (pU e rfl) ll ll λZ p3 hr3 h3=>fO (b:=decide ((Z:Int)=11)) (λW=>?_) λW=>?_)
 .refine⟨by decide,?_⟩;obtain⟨Y,hr4,e4⟩:=fm (a:=(1:Int)+O) (m:=2) ll;revert Y;refine Tt ?_ ?_
  .intro e4;refine jX e4 rfl (v:=.int ((0:Nat):Int)) rfl ?_;exact FK K J ll h3 M e q
  .intro e4;refine jX e4 rfl (v:=.int ((k+1:Nat):Int)) rfl ?_;exact FK K J (by lia) h3 M e q
 .exact FK K (c:=1+O) J (by lia) h3 M e q
def vp:N:=ak 5 (.a_ 122 [5,7] #[aq,.fB #[.a_ 121 [0,0,0,0,0,0,0,0,0] #[ae,aq]],aK])^ao (av ay (aj 4)) (aC (.bT 5 0 (aG 0 4 aq) #[au #[au #[ag "deed",ag ".org",bh],aK]])^.yF^aa) aa^aC (.bT 4 0 (aG 0 3 aq) #[au #[aD,aG 0 0 bh,aK]])^aC (.bT 5 0 (aG 0 4 aq) #[au #[au #[ag "equate",aD,aG 0 0 bh],aK]])^aa
theorem Av{e:QE}{s:SE}:cY B (((g.pn l pt).qe e).put s) tr H=(B.ct,.bz [(1,.int g.c1),(22,.int g.c2)])::(B.aw,.list (g.aw.map AE.bj))::(B.eq,.list (g.eq.map QE.bj++[e.bj]))::(B.hu,.list ((g.pn l pt).st.map SE.bj++[s.bj]))::(B.wt,.list (g.wt.map WE.bj))::(B.tr,.list (tr.map mI))::Jq B (g.pn l pt)::H:=by rw[cJ,show((g.pn l pt).qe e).eq.map QE.bj=(g.pn l pt).eq.map QE.bj++[e.bj]from XQ];unfold GS.pn GS.qe Jq;cases l.any Ex.hh<;>rfl
noncomputable def jF:ax:="uvw"
def S0 (h:bV)(nm:ax):Prop:=(∃w∈tJ,∃a∈jF,h=[W_ (.nm w),Xk,W_ (.nm [a]),W_ (.sg 44)] /\nm=[a]) \/ (∃a,(a∈jF\/a=46)/\h=[W_ (.nm [a]),Xk,W_ (.sg 61),Xk] /\nm=[a])
def M7 (B:LA) (Q:V->Hp->Prop) (H:Hp) (L:LS) (m:Nat):Prop:=∀h nm s p',S0 h nm->Sm.ok s->a8 p' (m+40)->LB (((L.add h).add s.bb).wg (fP nm (s.x L.g) L.pl ((L.add h).add s.bb).g)) (m+40)->Q .none (bq B p' (((L.add h).add s.bb).wg (fP nm (s.x L.g) L.pl ((L.add h).add s.bb).g)) H)
theorem GB.fP{x:Ex}(h:GB g m):GB (Internal.fP w x pt g) (m+2):=by
 unfold Internal.fP;cases sEq w "." with|true=>exact h.pn.put|false=>have h1:=h.pn (l:=[x]) (p:=pt);have h2:=h1.put (s:=.gZ w (gE g x) pt);exact⟨h2.st,h2.c1,h2.c2,h2.aw,mE h1.eq,h2.wt,h2.dw,h2.eO⟩
variable{h:bV}{nm:ax}
theorem Uw (K:aL u){w:Nat}{O:ax}(hh:S0 h nm) (M:decide ((w:Int)=4)=sEq nm ".") (Z:decide ((w:Int)=4)=Xb->O=nm) (hp:a8 p (m+2)) (U:LB (L.add h) (m+4)) (V:m<=600) (q:M7 B Q H L m):
  wp u (eM Xg (n+3) X) vp ⟨bq B p (L.add h) H,[W_ (.ref B.dX),W_ (dN B),W_ (.int w),W_ (.str O),W_ L.pl.tup,Xk]⟩ (eQ Q):=by
 refine pI K (hp.up (eW rfl:m+2<=m+4)) U (kI V rfl) λs p2 hs h2=>?_;have J:LB ((L.add h).add s.bb) (m+9):=U.add fj (hM hs);have q:=q h nm s p2 hh hs (h2.up (qI rfl)) ⟨(GB.fP J.g).mono (qI rfl),Xa J.tr (eW rfl),Xa J.cur (rF rfl),Xa J.rows (eW rfl)⟩;rw[gz];revert q J;generalize (L.add h).add s.bb=L2;intro J q;have gs:GB L2.g 1000:=J.g.mono (kI V rfl);refine IU K (l:=[s.x L.g]) ll (λy m=>by rw[Xs.mp m];exact ub) gs ?_;rw[Nd];unfold fP at q;generalize e:sEq nm "."=Y;induction Y with
 |true=>
  rw[e]at q M;have q:Q .none (cO B p2::bW B L2.rows L2.cur::cY B ((L2.g.pn [s.x L.g] L.pl).put (.bF ".org" ([gE L2.g (s.x L.g)].map .e) L.pl)) L2.tr H):=q;rw[l8,iD]at q;exact aW (b:=decide ((w:Int)=4)) M ⟨⟨rfl,Xu⟩,rfl,lQ gs.st,q⟩|false=>
  rw[e]at q M;rw[Z M];have q:Q .none (cO B p2::bW B L2.rows L2.cur::cY B (((L2.g.pn [s.x L.g] L.pl).qe ⟨nm,gE L2.g (s.x L.g),L.pl⟩).put (.gZ nm (gE L2.g (s.x L.g)) L.pl)) L2.tr H):=q;rw[Av]at q;exact bp (b:=decide ((w:Int)=4)) M ⟨⟨rfl,Xu⟩,rfl,ba gs.eq,⟨rfl,Xu⟩,rfl,lQ gs.st,q⟩
theorem atL{l:List α}(h:r<l.length):∃w∈l,aF l r=W_ w:=⟨l[r],Zt h,by rw[bf,XD h]⟩
theorem ab9 (K:aL u) (hp:a8 p m) (lb:LB L m) (Z:m<=600) (q:M7 B Q H L m):CL u (n+4) 125 [.ref B.dX,dN B] (bq B p L H) Q X:=by
 refine ent K QV rfl (eN K (k:=5) hp (up Z rfl) ll ll λw p1 hw h1=>eN K (k:=3) h1 (kI Z rfl) ll ll λr p2 hr h2=>?_);obtain⟨a,ha,ea⟩:=atL (l:=jF) hr;have J:LB L 1000:=lb.up (up Z rfl);have go:∀{h:bV}{nm:ax},S0 h nm->decide ((w:Int)=4)=sEq nm "." ->(decide ((w:Int)=4)=Xb-> [a]=nm)->h.length<=4->(bC h).length<=1000*4->wp u (eM Xg (n+3) X) vp ⟨bq B p2 (L.add h) H,[W_ (.ref B.dX),W_ (dN B),W_ (.int w),W_ (.str [a]),W_ L.pl.tup,Xk]⟩ (eQ Q):=λhh U O l1 l2=>Uw K hh U O h2 (lb.add l1 l2) Z q;have na:sEq [a] "."=Xb:=(by decide:∀c∈jF,sEq [c] "."=Xb) a ha;refine dI (X1 (Xa (Yv hr) ll)) ea (fO (b:=decide ((2:Int)<w)) (λM=>?_) λM=>?_)
 .have M:=W3 M;have two:∀(c:Nat),(c∈jF\/c=46)->decide ((w:Int)=4)=sEq [c] "." ->(decide ((w:Int)=4)=Xb->a=c)->wp u (eM Xg (n+3) X) vp ⟨cO B p2::bW B L.rows (L.cur++[c]++" = ")::cY B L.g L.tr H,[W_ (.ref B.dX),W_ (dN B),W_ (.int w),W_ (.str [a]),W_ L.pl.tup,Xk]⟩ (eQ Q):=λc hc U O=>by have Y:=go (h:=[W_ (.nm [c]),Xk,W_ (.sg 61),Xk]) (.inr ⟨c,hc,rfl,rfl⟩) U (λe=>WX (λx=>[x]) (O e)) ll ll;rw[gh (t:=[c]++" = ") rfl rfl rfl,<-Xf]at Y;exact Y
  generalize h3:decide ((w:Int)=3)=zz;induction zz with|true=>
   have e3:=W3 h3;have z:decide ((w:Int)=4)=Xb:=W2 (by lia);exact aW h3 (cD K (bE J (Xh _) ll) (cD K (by rw[Xc];have:=J.cur;show L.cur.length+1+3<=_;exact pU this rfl) (two a (.inl ha) (z.trans na.symm) λW=>rfl)))|false=>
   have e3:=W7 h3;have z:decide ((w:Int)=4):=W4 (by lia);exact bp h3 (cD K (bE J (Xh _) ll) (cD K (by rw[Xc];have:=J.cur;show L.cur.length+1+3<=_;exact pU this rfl) (two 46 (.inr rfl) z λe=>by rw[z]at e;exact ft e)))
 .have M:=W7 M;obtain⟨s,hs,es⟩:=atS (f:=λw:ax=>V.str (w++" ")) (l:=tJ) (r:=w) (by show w<3;lia);have z:decide ((w:Int)=4)=Xb:=W2 (by lia);have sl:s.length<=6:=(by decide:∀w∈tJ,w.length<=6) s hs;have Y:=go (h:=[W_ (.nm s),Xk,W_ (.nm [a]),W_ (.sg 44)]) (.inl ⟨s,hs,a,ha,rfl,rfl⟩) (z.trans na.symm) (λW=>rfl) ll (Xa (bZ sl (show([32,a,44]:ax).length<=3 from Xh 3)) ll);have tx:bC [W_ (.nm s),Xk,W_ (.nm [a]),W_ (.sg 44)]=s++" "++[a]++"," :=by rw[Xf,Xf];rfl
  rw[gh tx rfl rfl]at Y;have t1:(s++" ").length<=6+1:=bZ sl (Xh 1);have t2:(s++" "++[a]).length<=6+1+1:=bZ t1 (Xh 1);exact dI (X1 (bB (jL hw) rfl)) es ⟨Xa (Xw t1 1) ll,Xa (Xw t2 1) ll,cD K (bE J (Xh _) (Xa (bZ t2 (Xh 1)) ll)) Y⟩
noncomputable def Ci:ax:=".att_syntax"
noncomputable def wj:ax:=".intel_syntax"
def oq:List (bV×Nat):=[([W_ (.nm Ci)],0),([W_ (.nm wj),Xk,W_ (.nm nB)],1),([W_ (.nm Ci),Xk,W_ (.nm uV)],0),([W_ (.nm wj),Xk,W_ (.nm nB)],1)]
noncomputable def FZ:ax:=".section"
noncomputable def r0:ax:=".globl"
def CB:List (bV×ax×List ax):=[([W_ (.nm ".text")],".text",[]),([W_ (.nm ".bss")],".bss",[]),([W_ (.nm FZ),Xk,W_ (.nm ".a$1")],FZ,[".a$1"]),
 ([W_ (.nm r0),Xk,W_ (.nm "p")],r0,["p"]),([W_ (.nm r0),Xk,W_ (.nm "q"),Xk,W_ (.sg 44),Xk,W_ (.nm "z"),W_ (.sg 44),W_ (.nm "u")],r0,["q","z","u"])]
noncomputable def sR:List (List QI):=[[],[.p 97,.p 59,.p 32,.p 112,.p 58,.p 32,.p 35],[.q,.a,.n],[.m,.z]]
noncomputable def K8 (w:ax)(s1 s2:List QI):bV:=[W_ (.nm w),Xk,W_ (.qu s1),W_ (.sg 44),Xk,W_ (.qu s2)]
inductive yu:bV->(Pt->GS->GS)->Prop|sy (y)(h:y∈oq):yu y.1 λW g=>g.sy y.2|wd (y)(h:y∈CB):yu y.1 λp g=>g.put (.bF y.2.1 (y.2.2.map .s) p)|tx (w s1 s2:_)(h:w∈mU)(h1:s1∈sR)(h2:s2∈sR):yu (K8 w s1 s2) λp g=>g.put (.bF w [CD w (js s1),CD w (js s2)] p)
theorem HJ (a m:Nat):Y5 (a:Int) m=((a%m:Nat):Int):=(Int.fmod_eq_emod_of_nonneg _ (XO m)).trans (Int.natCast_emod ..).symm
theorem awN{s:bV}(h:s.all (λx=>match x with|some (.lo _ _)=>Xb|_=>Xg)=Xg):∀{l:Int}{o:Nat},iH g (gK l o s)=[] /\fF g (gK l o s)=[]:=by
 induction s with|nil=>exact⟨rfl,rfl⟩|cons x s ih=>rw[List.all_cons,XS]at h;intro l o;induction x with|none=>exact ih h.2|some x=>induction x with|lo=>cases h.1|_=>exact ih h.2
def zX (B:LA) (Q:V->Hp->Prop) (H:Hp) (L:LS) (m:Nat):Prop:=∀s f p',yu s f->a8 p' (m+40)->LB ((L.add s).wg (f L.pl L.g)) (m+40)->Q .none (bq B p' ((L.add s).wg (f L.pl L.g)) H)
noncomputable def Ah (s:bV):Bool:=s.all (λx=>match x with|some (.lo _ _)=>Xb|_=>Xg)
theorem Cq{s:bV}(h:Ah s):L.add s=⟨L.rows,L.cur++bC s,L.g,L.tr⟩:=gh rfl (awN h).1 (awN h).2
theorem CG:oq.all (λy=>Ah y.1&&XU y.1.length 10&&XU (bC y.1).length 100):=by decide+kernel
def wd1 (y:bV×ax×List ax):Bool:=match mY (bC y.1) " " with|z::l=>sEq z y.2.1&&((z::l).all (λz=>XU z.length 100)&&XU (z::l).length 100)|[]=>Xb
theorem CA:CB.all (λy=>(Ah y.1&&XU y.1.length 10&&XU (bC y.1).length 100)&&wd1 y):=by decide+kernel
theorem N9{l:List ax}:(l.map Arg.s).map Arg.told=l.map .str:=by rw[Yn];rfl
def NR:N:=.il 8 (bu aD (aj 2)) (aG 0 7 aq) (aj 1)^aC (.a_ 119 [1] #[aG 0 0 aq,aJ 0 (au #[ag ".att_syntax",ag ".intel_syntax noprefix",ag ".att_syntax prefix",ag ".intel_syntax noprefix"]) (bu aD (aj 4))])^aa
variable{x2:bG}
theorem Rx (K:aL u) (Y:a8 p (m+2)) (M:LB L m) (Z:m<=600) (hQ:∀H r,Q .none H->Q' .none ⟨H,r⟩) (q:zX B Q H L m):wp u (eM Xg (n+3) X) NR ⟨bq B p L H,[W_ (.ref B.dX),W_ (dN B),x2,W_ (.int r),Xk,Xk,Xk,Xk,Xk,Xk,Xk]⟩ Q':=by
 have h4:r%4<oq.length:=Nat.mod_lt _ ll;have J:=Zt h4;have O:aF (oq.map λy=>V.str (bC y.1)) (r%4)=W_ (.str (bC oq[r%4].1)):=by rw[bf,X2,XD h4];rfl
 have e2:∀j (h:j<oq.length),(oq[j]'h).2=j%2:=λj h=>NB (P:=λj=>∀h:j<oq.length,(oq[j]'h).2=j%2) (λW=>rfl) (λW=>rfl) (λW=>rfl) (λW=>rfl) j h h;have e2:=e2 _ h4;rw[Nat.mod_mod_of_dvd _ (by decide)]at e2;revert J O e2;generalize oq[r%4]=y;intro J O e2;obtain⟨o1,U⟩:=aH (allM CG J);obtain⟨o1,o2⟩:=aH o1;have t1:(bC y.1).length<=100:=Xi U;have e:=M.add (k:=10) (Xi o2) (Xa t1 ll);have q:=q _ _ p (yu.sy y J) (Y.up (eW rfl)) ⟨have h:=M.g.mono (show m<=m+40 from Xp m 40);⟨h.st,h.c1,h.c2,h.aw,h.eq,h.wt,h.dw,by show y.2<=1;rw[e2];exact bB (Jw rfl) rfl⟩,Xa e.tr (eW rfl),Xa e.cur (rF rfl),Xa e.rows (eW rfl)⟩;rw[Cq o1,e2]at q;refine⟨by decide,rfl,⟨ok1,Xi rfl⟩,⟨by decide,jX (HJ r 4) (X1 (bB (Jw rfl) rfl)) O (cD K (bE (M.up (Xa Z ll)) (Xh 1000) (Xa t1 ll)) ?_)⟩⟩;rw[show Y5 (r:Int) 2=((r%2:Nat):Int)from HJ r 2];exact hQ _ _ q
def NQ:N:=.ast [4,5] Xb (aJ 0 (.h9 16) (bu aD (aj 5)))^aC (.bT 5 0 (aG 0 4 aq) #[au #[au #[ag "deed",aG 0 0 (.bT 0 5 aK #[ag " "]),bh],.a_ 119 [1] #[aG 0 0 aq,aK]]])^aa
def NP:N:=ak 6 (aJ 0 (au #[ag ".ascii",ag ".asciz",ag ".string"]) (bu aD (aj 3)))^.ast [7,8] Xg (au #[aJ 0 (.h9 15) (bu aD (aj 4)),aJ 0 (.h9 15) (bu (cy aD (aj 4)) (aj 4))])^ak 9 (.jk (av (bu aD (aj 3)) (aj 0)) (.lit (.bytes [])) (.lit (.bytes [0])))^ak 10 (.a_ 119 [1] #[aG 0 0 aq,ah (ah (ah (ah b7 (ag " ")) (aG 0 0 bY)) (ag ", ")) (aG 0 0 cP)])^aC (.bT 5 0 (aG 0 4 aq) #[au #[au #[ag "deed",b7,au #[ah (aG 0 1 bY) fJ,ah (aG 0 1 cP) fJ]],i8]])^aa
theorem Rw (K:aL u) (hp:a8 p (m+2)) (M:LB L m) (hm:m<=600) (hQ:∀H r,Q .none H->Q' .none ⟨H,r⟩) (q:zX B Q H L m):wp u (eM Xg (n+3) X) NQ ⟨bq B p L H,[W_ (.ref B.dX),W_ (dN B),x2,W_ (.int r),Xk,Xk,Xk,Xk,Xk,Xk,Xk]⟩ Q':=by
 obtain⟨y,Z,ey⟩:=atS (f:=λy:bV×ax×List ax=>V.tup [.str (bC y.1),.tup (y.2.2.map .str)]) (l:=CB) (r:=r%5) (Nat.mod_lt _ ll);obtain⟨o1,Y⟩:=aH (allM CA Z);obtain⟨o1,o3⟩:=aH o1;obtain⟨o1,o2⟩:=aH o1;have t1:(bC y.1).length<=100:=Xi o3;have J:=M.add (k:=10) (Xi o2) (Xa t1 ll);have q:=q _ _ p (yu.wd y Z) (hp.up (eW rfl)) ⟨(M.g.put).mono (show m+1<=m+40 from eW rfl),Xa J.tr (eW rfl),Xa J.cur (rF rfl),Xa J.rows (eW rfl)⟩;rw[Cq o1]at q;have q:Q .none (cO B p::bW B L.rows (L.cur++bC y.1)::cY B (L.g.put (.bF y.2.1 (y.2.2.map .s) L.pl)) L.tr H):=q;rw[cJ,show SE.bj (.bF y.2.1 (y.2.2.map .s) L.pl)=.tup [.tup [.str "deed",.str y.2.1,.tup (y.2.2.map .str)],L.pl.tup]from WX (λl=>V.tup [.tup [.str "deed",.str y.2.1,.tup l],L.pl.tup]) N9]at q;obtain⟨z,l,O,zy,U⟩:∃z l,mY (bC y.1) " "=z::l/\z=y.2.1/\((∀x∈z::l,x.length<=100)/\(z::l).length<=100):=by
  unfold wd1 at Y;revert Y;cases mY (bC y.1) " " with|nil=>exact λh=>nomatch h|cons z l=>intro h;obtain⟨h1,h2⟩:=aH h;obtain⟨h2,h3⟩:=aH h2;exact⟨z,l,rfl,by rw[bH]at h1;exact W6 h1,λx m=>Xi (allM h2 m),Xi h3⟩
 refine⟨by decide,jX (HJ r 5) (X1 (bB (Jw rfl) rfl)) ey ⟨⟨rfl,Xu⟩,Xu,⟨λe=>(nomatch e),?_,?_⟩,?_⟩⟩
 .rw[O];exact Xa U.2 ll
 .rw[O];exact λx m=>Xa (U.1 x m) ll
 .rw[O,zy];exact cD K (bE (M.up (Xa hm ll)) (Xh 1000) (Xa t1 ll)) ⟨rfl,ba (Xa M.g.st (Xa hm ll)),hQ _ _ q⟩
theorem MJ:sR.all (λs=>(sW s&&XU (js s).length 50&&XU (d5 s).length 50)):=by decide+kernel
theorem byS{s:ax}(h:s.length<=50):(ye s).length<=50:=by unfold ye;rw[Xl];exact h
theorem Rv (K:aL u) (hr:r<20) (hp:a8 p (m+2)) (U:LB L m) (hm:m<=600) (hQ:∀H r,Q .none H->Q' .none ⟨H,r⟩) (q:zX B Q H L m):wp u (eM Xg (n+3) X) NP ⟨bq B p L H,[W_ (.ref B.dX),W_ (dN B),x2,W_ (.int r),Xk,Xk,Xk,Xk,Xk,Xk,Xk]⟩ Q':=by
 have h3:r%3<mU.length:=Nat.mod_lt _ ll;have mw:=Zt h3;have ew:aF (mU.map V.str) (r%3)=W_ (.str mU[r%3]):=by rw[bf,X2,XD h3];rfl
 have O:=nj3 (P:=λj=>∀h:j<mU.length,sEq (mU[j]'h) ".ascii"=decide ((j:Int)=0)) (λW=>rfl) (λW=>rfl) (λW=>rfl) _ h3 h3
 revert mw ew O;generalize mU[r%3]=w;intro mw ew O;obtain⟨e,m1,es1⟩:=atS (f:=λs:List QI=>V.tup [.str (34::(d5 s++[34])),.bytes (ye (js s))]) (l:=sR) (r:=r%4) (Nat.mod_lt _ ll);obtain⟨J,m2,es2⟩:=atS (f:=λs:List QI=>V.tup [.str (34::(d5 s++[34])),.bytes (ye (js s))]) (l:=sR) (r:=r/4%4) (Nat.mod_lt _ ll);have Y:w.length<=10:=(by decide:∀w∈mU,w.length<=10) w mw;have qb:∀{s},s∈sR->(34::(d5 s++[34])).length<=52/\(ye (js s)).length<=50:=λms=>by obtain⟨a,b⟩:=aH (allM MJ ms);obtain⟨a,c⟩:=aH a;refine⟨?_,byS (Xi c)⟩;rw[Xq,Xc];exact XH (XH (Xi b))
 obtain⟨l1,b1⟩:=qb m1;obtain⟨l2,b2⟩:=qb m2;have t1:(w++" ").length<=10+1:=bZ Y (Xh 1);have t2:(w++" "++(34::(d5 e++[34]))).length<=10+1+52:=bZ t1 l1;have Z:(w++" "++(34::(d5 e++[34]))++", ").length<=10+1+52+2:=bZ t2 (Xh 2);have t4:(w++" "++(34::(d5 e++[34]))++", "++(34::(d5 J++[34]))).length<=10+1+52+2+52:=bZ Z l2;have tx:bC (K8 w e J)=w++" "++(34::(d5 e++[34]))++", "++(34::(d5 J++[34])):=by show w++(32::((34::(d5 e++[34]))++(44::32::((34::(d5 J++[34]))++[]))))=_;rw[Xr,Xf,Xf,Xf];rfl
 have M:=U.add (s:=K8 w e J) (k:=10) ll (by rw[tx];exact Xa t4 ll);have q:=q _ _ p (yu.tx w e J mw m1 m2) (hp.up (eW rfl)) ⟨(U.g.put).mono (show m+1<=m+40 from eW rfl),Xa M.tr (eW rfl),Xa M.cur (rF rfl),Xa M.rows (eW rfl)⟩;rw[Cq (s:=K8 w e J) rfl,tx]at q;have q:Q .none (cO B p::bW B L.rows (L.cur++(w++" "++(34::(d5 e++[34]))++", "++(34::(d5 J++[34]))))::cY B (L.g.put (.bF w [CD w (js e),CD w (js J)] L.pl)) L.tr H):=q;rw[cJ]at q;unfold CD at q;refine⟨by decide,jX (HJ r 3) (X1 (bB (Jw rfl) rfl)) ew ⟨by decide,jX (HJ r 4) (X1 (bB (Jw rfl) rfl)) es1 ⟨⟨by decide,ZM ll⟩,⟨by decide,?_⟩⟩⟩⟩;have ed:Y5 (Int.fdiv (r:Int) 4) 4=((r/4%4:Nat):Int):=by rw[show Int.fdiv (r:Int) 4=((r/4:Nat):Int)from (Int.fdiv_eq_ediv_of_nonneg _ (by decide)).trans (Int.natCast_ediv ..).symm];exact HJ (r/4) 4
 refine jX ed (X1 (bB (Jw rfl) rfl)) es2 ⟨by decide,?_⟩;have er:Y5 (r:Int) 3=((r%3:Nat):Int):=HJ r 3;have sl:(L.g.st.map SE.bj).length<16777216:=ba (Xa U.g.st (Xa hm ll));have cl:=bE (U.up (Xa hm ll)) (Xh 1000) (Xa t4 ll)
 generalize hz:sEq w ".ascii"=zz;induction zz with
 |true=>
  rw[hz]at O q
  exact aW (b:=decide (Y5 (r:Int) 3=0)) (by rw[er];exact O.symm) ⟨Xa (Xw Y 1) ll,Xa (Xm t1 l1) ll,Xa (Xw t2 2) ll,Xa (Xm Z l2) ll,cD K cl ⟨⟨rfl,Xu⟩,Xa (Xw b1 0) ll,Xa (Xw b2 0) ll,rfl,sl,hQ _ _ q⟩⟩
 |false=>
  rw[hz]at O q
  exact bp (b:=decide (Y5 (r:Int) 3=0)) (by rw[er];exact O.symm) ⟨Xa (Xw Y 1) ll,Xa (Xm t1 l1) ll,Xa (Xw t2 2) ll,Xa (Xm Z l2) ll,cD K cl ⟨⟨rfl,Xu⟩,Xa (Xw b1 1) ll,Xa (Xw b2 1) ll,rfl,sl,hQ _ _ q⟩⟩
theorem ab8 (K:aL u)(V:a8 p m)(J:LB L m)(e:m<=600)(q:zX B Q H L m):CL u (n+4) 126 [.ref B.dX,dN B] (bq B p L H) Q X:=by
 have O:LB L 1000:=J.up (up e rfl);refine ent K QU rfl (eN K (k:=4) V (up e rfl) ll ll λw p1 Y h1=>eN K (k:=20) h1 (kI e rfl) ll ll λr p2 U h2=>?_);generalize h0:decide ((w:Int)=0)=M;induction M with|true=>exact aW (b:=decide ((w:Int)=0)) h0 (Rx K h2 J e (λW W q=>q) q)|false=>refine bp (b:=decide ((w:Int)=0)) h0 ?_;generalize h1:decide ((w:Int)=1)=M;induction M with|true=>exact aW (b:=decide ((w:Int)=1)) h1 (Rw K h2 J e (λW W q=>q) q)|false=>exact bp (b:=decide ((w:Int)=1)) h1 (Rv K U h2 J e (λW W q=>q) q)
def qx:N:=ak 12 (.a_ 118 [0] #[ae,aj 4])^aC (.a_ 119 [1] #[ay,aJ 0 (au #[ag [],ag " ; ",ag " # ; p: 1b",ag [9]]) gm])^ao (bc gm (aj 1)) (aC (.bT 1 0 ay #[ag []])^aa) aa^ao (av gm (aj 3)) (aC (.bT 1 0 ay #[ag []])^aa) aa^aa
set_option genCtorIdx false in
inductive Bd|no|lst(w:ax)(ss:List Sm)|iJ(w:ax)(k:Nat)(ss:List Sm)|gZ(h:bV)(nm:ax)(s:Sm)|pl(s:bV)(f:Pt->GS->GS)|code(s:Sm)|bad(s:Sm)
noncomputable def Bd.ctorIdx (x:Bd):Nat:=@Bd.casesOn (λW=>Nat) x 0 (λW W=>1) (λW W W=>2) (λW W W=>3) (λW W=>4) (λW=>5) (λW=>6)
noncomputable def nT:ax:="go"
noncomputable def nJ:ax:=".longs"
def Bd.bb:Bd->bV|.no=>[]|.lst w ss=>cZ w++cG bk ss|.iJ w _ ss=>cZ w++cG br ss|.gZ h _ s=>h++s.bb|.pl s _=>s|.code s=>cZ nT++s.bb|.bad s=>cZ nJ++s.bb
def Bd.ok:Bd->Prop|.no=>True|.lst w ss=>w∈rr/\(∀s∈ss,Sm.ok s)/\(∃s l,ss=s::l)/\ss.length<=3|.iJ w k ss=>(w,k)∈xE/\(∀s∈ss,Sm.ok s)/\ss.length<=4|.gZ h nm s=>S0 h nm/\Sm.ok s|.pl s f=>yu s f|.code s=>Sm.ok s|.bad s=>Sm.ok s
noncomputable def GS.oo(g:GS)(e:WE):GS:={g with wt:=g.wt++[e]}
def Bd.step (pt:Pt)(g:GS):Bd->GS|.no=>g|.lst w ss=>ko w pt g (xs g ss)|.iJ w k ss=>(match gB k ss with|true=>(g.pn (xs g ss) pt).put (.bF w ((ik g (xs g ss)).map .e) pt)|false=>g)|.gZ _ nm s=>fP nm (s.x g) pt g|.pl _ f=>f pt g|.code s=>(g.put (.code pt)).oo ⟨g.st.length,s.x g,g.eO,pt,Xk⟩|.bad _=>g
def Bd.ref:Bd->Bool|.iJ _ k ss=>!gB k ss|.bad _=>Xg|_=>Xb
noncomputable def Bd.i9:Bd->Bool|.code _=>Xg|_=>Xb
noncomputable def LS.FH(L:LS)(x:Bool×Pt):LS:={L with tr:=L.tr++[x]}
noncomputable def gJ:List WE->Pt->List WE|[],_=>[]|[e],p=>[{e with eV:=W_ p}]|e::l,p=>e::gJ l p
noncomputable def iN:bV:=[Xk,W_ (.nu "7" 7)]
noncomputable def LS.p7(L:LS):Pt:=⟨(L.rows.length+1:Nat),(L.cur.length:Int)+1+1⟩
def LS.sP (L:LS)(c:Bool):LS:=match c with|true=>(L.add iN).wg {L.g with wt:=gJ L.g.wt L.p7}|false=>(L.add iN).FH (Xb,L.p7)
def iQ (j:Nat)(x:Lb):bV:=match j with|0=>[W_ x.lx,W_ (.sg 58)]|_=>[W_ x.lx,W_ (.sg 58),Xk]
def LS.dm (L:LS)(j:Nat)(x:Lb):LS:=(L.add (iQ j x)).wg (ji L.g (x,L.pl))
noncomputable def LS.aM (L:LS):Nat->List Lb->LS|_,[]=>L|j,x::l=>LS.aM (L.dm j x) (j+1) l
noncomputable def pf:List Lb:=[.nm "p",.nm "q",.nm "r",.lo Xb,.lo Xg]
noncomputable def s6(e:Nat):ax:=match e with|0=>[]|1=>" ; "|2=>" # ; p: 1b"|_=>[9]
noncomputable def LS.nl(L:LS):LS:=⟨L.rows++[L.cur],[],L.g,L.tr⟩
noncomputable def LS.tx(L:LS)(t:ax):LS:=⟨L.rows,L.cur++t,L.g,L.tr⟩
def LS.fin (L:LS)(e:Nat):LS:=match e with|0=>(L.tx (s6 0)).nl|1=>L.tx (s6 1)|2=>(L.tx (s6 2)).nl|_=>(L.tx (s6 3)).nl.nl
def LS.body (L:LS)(b:Bd):LS:=(L.add b.bb).wg (b.step L.pl (L.add b.bb).g)
def LS.tail (L:LS)(b:Bd)(pt:Pt)(sv:Bool):LS:=match b.ref with|true=>L.FH (Xb,pt)|false=>match sv with|true=>L.sP b.i9|false=>L
structure gq where
 bM:List Lb
 bd:Bd
 sv:Bool
 en:Nat
def gq.ok(x:gq):Prop:=x.bM.length<=2/\(∀l∈x.bM,l∈pf)/\x.bd.ok/\x.en<4
def LS.mid (L:LS)(x:gq):LS:=((L.aM 0 x.bM).body x.bd).tail x.bd (L.aM 0 x.bM).pl x.sv
def LS.line(L:LS)(x:gq):LS:=(L.mid x).fin x.en
theorem VK:bq B p L.nl H=cO B p::(B.cu,.list (L.rows.map .str++[.str L.cur]++[.str []]))::cY B L.g L.tr H:=by
 have e:bW B (L.rows++[L.cur]) []=(B.cu,.list (L.rows.map .str++[.str L.cur]++[.str []])):=by unfold bW;rw[XQ];rfl
 show cO B p::bW B (L.rows++[L.cur]) [] ::_=_;rw[e];rfl
theorem VJ:bq B p L.nl.nl H=cO B p::(B.cu,.list (L.rows.map .str++[.str L.cur]++[.str []]++[.str []]))::cY B L.g L.tr H:=by rw[VK];show cO B p::(B.cu,.list ((L.rows++[L.cur]).map .str++[.str []]++[.str []]))::_=_;rw[XQ];rfl
theorem Gp (h:L.rows.length<=1000){t:ax}:(L.rows.map V.str++[V.str t]).length<16777216:=by rw[Xc,Xl];exact Xz (XH h) ll
theorem Ng (h:L.rows.length<=1000){t e:ax}:(L.rows.map V.str++[V.str t]++[V.str e]).length<16777216:=by rw[Xc,Xc,Xl];exact Xz (XH (XH h)) ll
variable{y1:bG}{y6:bG}{y10:bG}{y11:bG}
theorem tT (K:aL u) (Y:a8 p m) (U:LB L m) (O:m<=900) (q:∀e p',e<4->a8 p' (m+1)->Q .none (bq B p' (L.fin e) H)):
  wp u (eM Xg (n+1) X) qx ⟨bq B p L H,[W_ (.ref B.dX),y1,W_ (.ref B.cu),y3,y4,y5,y6,y7,y8,y9,y10,y11,Xk]⟩ (eQ Q):=by
 have J:LB L 1000:=U.up (Xa O ll);have V:L.rows.length<=900:=Xa U.rows O;have M:L.rows.length<=1000:=Xa V ll;refine eN K (k:=4) Y (up O rfl) ll ll λe p1 Z h1=>?_;revert e;refine NB ?_ ?_ ?_ ?_
 .have q:Q .none (bq B p1 (L.tx (s6 0)).nl H):=q 0 p1 ll h1;rw[VK]at q;exact dI rfl rfl (cD K (bE J (Xh _) ll) ⟨⟨rfl,Xu⟩,rfl,Gp M,q⟩)
 .exact dI rfl rfl (cD K (bE J (Xh _) ll) (q 1 p1 ll h1))
 .have q:Q .none (bq B p1 (L.tx (s6 2)).nl H):=q 2 p1 ll h1;rw[VK]at q;exact dI rfl rfl (cD K (bE J (Xh _) ll) ⟨⟨rfl,Xu⟩,rfl,Gp M,q⟩)
 .have q:Q .none (bq B p1 (L.tx (s6 3)).nl.nl H):=q 3 p1 ll h1;rw[VJ]at q;exact dI rfl rfl (cD K (bE J (Xh _) ll) ⟨⟨rfl,Xu⟩,rfl,Gp M,⟨rfl,Xu⟩,rfl,Ng M,q⟩)
def nG:N:=ao (ei i8 cq) (aC (.bT 7 0 bh #[au #[ag "read",i8]])^aa) (ao (av (.a_ 118 [0] #[ae,aj 14]) (aj 13)) (aC (.a_ 119 [1] #[ay,ag " "])^ak 8 (.a_ 119 [1] #[ay,ag "7"])^ao (f9 gn cq) (aC (.bT 7 0 bh #[au #[ag "read",cP]])^aa) (.il 9 cP (.rW 6 (aG 0 5 aq)) (aj 3)^aa)^aa) aa^aa)^.dY (.Bb 6 8) qx
theorem zG:L.add iN=⟨L.rows,L.cur++" "++"7",L.g,L.tr⟩:=by rw[Xf];exact gh rfl rfl rfl
theorem p7E:(⟨(L.rows.length+1:Nat),((L.cur++" ").length:Int)+1⟩:Pt)=L.p7:=by unfold LS.p7;rw[Xc];rfl
theorem qF{x:Bool×Pt}:cY B g (tr++[x]) H=(B.ct,.bz [(1,.int g.c1),(22,.int g.c2)])::(B.aw,.list (g.aw.map AE.bj))::(B.eq,.list (g.eq.map QE.bj))::(B.hu,.list (g.st.map SE.bj))::(B.wt,.list (g.wt.map WE.bj))::(B.tr,.list (tr.map mI++[mI x]))::(B.ta,.list [.int g.dw,.int g.eO])::H:=by unfold cY;rw[XQ];rfl
def qE (B:LA)(Q:V->Hp->Prop)(H:Hp)(L:LS)(m:Nat):Prop:=∀e p',e<4->a8 p' m->Q .none (bq B p' (L.fin e) H)
theorem Ld (K:aL u) (U:a8 p m) (J:LB L m) (O:m<=800) (q:qE B Q H (L.FH (Xb,pt)) (m+2)):
  wp u (eM Xg (n+1) X) nG ⟨bq B p L H,[W_ (.ref B.dX),W_ (dN B),W_ (.ref B.cu),W_ (.ref B.ct),W_ (.ref B.hu),W_ (.ref B.tr),y6,y7,y8,y9,W_ pt.tup,y11,Xk]⟩ (eQ Q):=by
 have tl:(L.tr.map mI).length<16777216:=ba (Xa J.tr (Xa O ll));have M:LB (L.FH (Xb,pt)) (m+1):=⟨J.g.mono (Yl _),mE J.tr,(J.up (Yl _)).cur,(J.up (Yl _)).rows⟩;have fin:=tT (n:=n) (X:=X) (y1:=W_ (dN B)) (y3:=W_ (.ref B.ct)) (y4:=W_ (.ref B.hu)) (y5:=W_ (.ref B.tr)) (y6:=y6) (y7:=y7) (y8:=y8) (y9:=y9) (y10:=W_ pt.tup) (y11:=y11) K (U.up (Yl _)) M (Gd O rfl) q;have fin:wp u (eM Xg (n+1) X) qx ⟨cO B p::bW B L.rows L.cur::cY B L.g (L.tr++[(Xb,pt)]) H,[W_ (.ref B.dX),W_ (dN B),W_ (.ref B.cu),W_ (.ref B.ct),W_ (.ref B.hu),W_ (.ref B.tr),y6,y7,y8,y9,W_ pt.tup,y11,Xk]⟩ (eQ Q):=fin;rw[qF]at fin;exact⟨⟨rfl,λW e=>nomatch e⟩,⟨⟨rfl,Xu⟩,rfl,tl,.inl fin⟩⟩
theorem Le (K:aL u) (Y:a8 p m) (U:LB L m) (V:m<=800) (q:∀sv,qE B Q H (match sv with|true=>L.sP Xb|false=>L) (m+4)):
  wp u (eM Xg (n+1) X) nG ⟨bq B p L H,[W_ (.ref B.dX),W_ (dN B),W_ (.ref B.cu),W_ (.ref B.ct),W_ (.ref B.hu),W_ (.ref B.tr),y6,y7,y8,y9,W_ .none,W_ .none,Xk]⟩ (eQ Q):=by
 have M:LB L 1000:=U.up (up V rfl);have fin:=λy8 (L':LS) (p':PN) (h1:a8 p' (m+3)) (h2:LB L' (m+3)) q=>tT (n:=n) (X:=X) (H:=H) (Q:=Q) (B:=B) (p:=p') (L:=L') (y1:=W_ (dN B)) (y3:=W_ (.ref B.ct)) (y4:=W_ (.ref B.hu)) (y5:=W_ (.ref B.tr)) (y6:=y6) (y7:=y7) (y8:=y8) (y9:=y9) (y10:=W_ .none) (y11:=W_ .none) K h1 h2 (kI V rfl) q;refine⟨⟨rfl,λW e=>nomatch e⟩,eN K (k:=14) Y (up V rfl) ll ll λr p1 Z h1=>fO (b:=decide ((r:Int)=13)) (λW=>?_) λW=>.inl (fin _ L p1 (h1.up (eW rfl)) (U.up (Xp m 3)) (q Xb))⟩;have tl:(L.tr.map mI).length<16777216:=ba M.tr;have J:LB (L.add iN) (m+2):=U.add ll ll;have O:LB ((L.add iN).FH (Xb,L.p7)) (m+3):=⟨J.g.mono (Yl _),mE J.tr,(J.up (Yl _)).cur,(J.up (Yl _)).rows⟩;have f:=λy8=>fin y8 ((L.add iN).FH (Xb,L.p7)) p1 (h1.up (eW rfl)) O (q Xg);rw[zG]at f;have f:∀y8,wp u (eM Xg (n+1) X) qx ⟨cO B p1::bW B L.rows (L.cur++" "++"7")::cY B L.g (L.tr++[(Xb,L.p7)]) H,[W_ (.ref B.dX),W_ (dN B),W_ (.ref B.cu),W_ (.ref B.ct),W_ (.ref B.hu),W_ (.ref B.tr),y6,y7,y8,y9,W_ .none,W_ .none,Xk]⟩ (eQ Q):=f;rw[qF]at f;refine cD K (bE M (Xh _) ll) (cD K (by rw[Xc];have:=M.cur;show L.cur.length+1+1<=_;exact pU this rfl) ?_);rw[p7E];exact⟨⟨rfl,λW e=>nomatch e⟩,⟨⟨rfl,Xu⟩,rfl,tl,.inl (f _)⟩⟩
theorem iR{e:WE}{p:Pt}:∀{l:List WE},gJ (l++[e]) p=l++[{e with eV:=W_ p}]
 |[]=>rfl|[a]=>rfl|a::b::l=>by show a::gJ (b::l++[e]) p=_;rw[iR];rfl
def Om (B:LA)(p:PN)(L:LS)(R:Addr)(e:WE)(c:V)(H:Hp):Hp:=cO B p::bW B L.rows L.cur::(B.ct,.bz [(1,.int L.g.c1),(22,.int L.g.c2)])::(B.aw,.list (L.g.aw.map AE.bj))::(B.eq,.list (L.g.eq.map QE.bj))::(B.hu,.list (L.g.st.map SE.bj))::(B.wt,.list (L.g.wt.map WE.bj++[.ref R]))::(B.tr,.list (L.tr.map mI))::(B.ta,.list [.int L.g.dw,.int L.g.eO])::(R,.list [.int e.i,e.x.told,.int e.s,c])::H
theorem wtE{e:WE}:bq B p (L.wg (L.g.oo e)) H=cO B p::bW B L.rows L.cur::(B.ct,.bz [(1,.int L.g.c1),(22,.int L.g.c2)])::(B.aw,.list (L.g.aw.map AE.bj))::(B.eq,.list (L.g.eq.map QE.bj))::(B.hu,.list (L.g.st.map SE.bj))::(B.wt,.list (L.g.wt.map WE.bj++[e.bj]))::(B.tr,.list (L.tr.map mI))::(B.ta,.list [.int L.g.dw,.int L.g.eO])::H:=by have:(L.g.oo e).wt.map WE.bj=L.g.wt.map WE.bj++[e.bj]:=XQ;show cO B p::bW B L.rows L.cur::(_,_)::(_,_)::(_,_)::(_,_)::(B.wt,.list ((L.g.oo e).wt.map WE.bj))::_=_;rw[this];rfl
theorem Lf (K:aL u){R:Addr}{e:WE}{a b:bG}{y11:aP}(Z:e.eV=Xk) (Y:a8 p m) (U:LB L m) (V:m<=800) (q:∀sv,qE B Q H (match sv with|true=>(L.wg (L.g.oo e)).sP Xg|false=>L.wg (L.g.oo e)) (m+4)):
  wp u (eM Xg (n+1) X) nG ⟨Om B p L R e .none H,[W_ (.ref B.dX),W_ (dN B),W_ (.ref B.cu),W_ (.ref B.ct),W_ (.ref B.hu),W_ (.ref B.tr),y6,y7,y8,y9,W_ .none,W_ (.tup y11),Xk]⟩ (eQ Q):=by
 have O:LB L 1000:=U.up (up V rfl);have J:∀{L:LS}{e m},LB L m->LB (L.wg (L.g.oo e)) (m+1):=λ{L e m}h=>⟨⟨XE h.g.st,XE h.g.c1,XE h.g.c2,XE h.g.aw,XE h.g.eq,mE h.g.wt,XE h.g.dw,h.g.eO⟩,XE h.tr,(h.up (Yl _)).cur,(h.up (Yl _)).rows⟩;have fin:=λy8 (L':LS) (p':PN) (h1:a8 p' (m+3)) (h2:LB L' (m+3)) q=>tT (n:=n) (X:=X) (H:=H) (Q:=Q) (B:=B) (p:=p') (L:=L') (y1:=W_ (dN B)) (y3:=W_ (.ref B.ct)) (y4:=W_ (.ref B.hu)) (y5:=W_ (.ref B.tr)) (y6:=y6) (y7:=y7) (y8:=y8) (y9:=y9) (y10:=W_ .none) (y11:=W_ (.tup y11)) K h1 h2 (kI V rfl) q;have el:e.bj=.lst [.int e.i,e.x.told,.int e.s,.none]:=by unfold WE.bj;rw[Z];rfl
 refine⟨⟨rfl,λW e=>nomatch e⟩,eN K (k:=14) Y (up V rfl) ll ll λr p1 hr h1=>fO (b:=decide ((r:Int)=13)) (λW=>?_) λW=>.inr ⟨_,rfl,?_⟩⟩
 .have M:LB ((L.add iN).wg ((L.add iN).g.oo {e with eV:=W_ L.p7})) (m+3):=J (U.add (k:=2) ll ll);have q:qE B Q H ((L.add iN).wg {L.g.oo e with wt:=gJ (L.g.wt++[e]) L.p7}) (m+4):=q Xg;rw[iR]at q;rw[zG]at q M;have f:=λy8=>fin y8 _ p1 (h1.up (eW rfl)) M q;rw[wtE]at f;refine cD K (bE O (Xh _) ll) (cD K (by rw[Xc];have:=O.cur;show L.cur.length+1+1<=_;exact pU this rfl) ?_);rw[p7E];exact⟨⟨rfl,λW e=>nomatch e⟩,⟨rfl,_,List.getLast?_concat,⟨rfl,⟨⟨by decide,by decide⟩,Xi rfl⟩,.inr ⟨_,rfl,f _⟩⟩⟩⟩
 .have f:=fin y8 _ p1 (h1.up (eW rfl)) ((J (e:=e) U).up (eW rfl)) (q Xb);rw[wtE,el]at f;exact f
def C':N:=ao (bR bY (au #[ag "1",ag "22"])) (.il 2 (ah (aJ 2 aD (.bU 4 0 #[bY])) (aj 1)) aD (.bU 4 0 #[bY])^ak 7 (ah (ah bY (ag "$")) (.bU 5 0 #[aJ 2 aD (.bU 4 0 #[bY])]))^aa) aa^aC (.bT 5 0 aK #[au #[au #[ag "label",bY],cP]])^aa
def NO:N:=ak 7 (aJ 0 (au #[ag "p",ag "q",ag "r",ag "1",ag "22"]) (.a_ 118 [0] #[ae,aj 5]))^ak 8 (.a_ 119 [1] #[ay,bY])^aC (.a_ 119 [1] #[ay,aJ 0 (au #[ag ":",ag ": ",ag " : "]) b7])^C'
theorem v8{x:Lb}:∀{xs:List Lb}{L:LS}{j:Nat},L.aM j (xs++[x])=(L.aM j xs).dm (j+xs.length) x:=by
 intro xs;induction xs with
 |nil=>
  intro _ _;exact rfl|cons y xs ih=>
  intro L j;show(L.dm j y).aM (j+1) (xs++[x])=_;rw[ih,Xq,X_,YN 1];rfl
noncomputable def lM(j:Nat):ax:=match j with|0=>":"|_=>": "
variable{j:Nat}
theorem Ol{x:Lb}:L.add (iQ j x)=⟨L.rows,L.cur++x.lx.tx++lM j,L.g,L.tr⟩:=by rw[Xf];cases x<;>cases j<;>exact gh rfl rfl rfl
theorem gW{k:Bool}:Tx k=dec (fV k):=by cases k<;>decide+kernel
theorem LB.dm{x:Lb}(h:LB L m) (e:x.lx.tx.length<=10):LB (L.dm j x) (m+4):=by
 have h2:LB (L.add (iQ j x)) (m+3):=by
  refine h.add ?_ ?_
  .cases j<;>exact ll
  .induction j using XN with|zero=>exact Xa (bZ e (Xh 1)) ll|succ=>exact Xa (bZ e (Xh 2)) ll
 exact⟨(h.g.dm (x,L.pl)).mono (eW rfl),Xa h2.tr (eW rfl),Xa h2.cur (rF rfl),Xa h2.rows (eW rfl)⟩
def lbP:Lb->Bool|.nm w=>!aN w ["1","22"]&&XU w.length 10|_=>Xg
theorem vY:pf.all lbP:=by decide
theorem AA (K:aL u){x:Lb}{e:bG}(V:x∈pf) (M:LB L m) (O:m<=900)
  (q:∀y7,Q' .none ⟨bq B p (L.dm j x) H,[W_ (.ref B.dX),W_ (dN B),W_ (.ref B.cu),W_ (.ref B.ct),W_ (.ref B.hu),W_ (.ref B.tr),W_ (.int j),y7,W_ L.pl.tup,y9,y10,y11,e]⟩):
  wp u (eM Xg (n+1) X) C' ⟨cO B p::bW B L.rows (L.cur++x.lx.tx++lM j)::cY B L.g L.tr H,[W_ (.ref B.dX),W_ (dN B),W_ (.ref B.cu),W_ (.ref B.ct),W_ (.ref B.hu),W_ (.ref B.tr),W_ (.int j),W_ (.str x.lx.tx),W_ L.pl.tup,y9,y10,y11,e]⟩ Q':=by
 have J:(L.g.st.map SE.bj).length<16777216:=ba (Xa M.g.st (up O rfl));unfold LS.dm at q;rw[Ol]at q;induction x with|nm w=>
  have Y:aN w ["1","22"]=Xb:=(XR _).mp (aH (allM vY V)).1;have q:=q (W_ (.str w));have q:Q' .none ⟨cO B p::bW B L.rows (L.cur++w++lM j)::cY B (L.g.put (.dm w L.pl)) L.tr H,_⟩:=q;rw[cJ]at q;exact bp (b:=aN w ["1","22"]) Y ⟨⟨rfl,Xu⟩,rfl,J,q⟩|lo k=>
  obtain⟨U,e2⟩:=eJ (XO (L.g.cn k+1)) (hU (Xa (xT M.g k) (up O rfl)));have q:=q (W_ (.str (dR k (L.g.cn k+1))));induction k with|false=>
   have q:Q' .none ⟨cO B p::bW B L.rows (L.cur++"1"++lM j)::cY B ((L.g.inc Xb).put (.dm (dR Xb (L.g.c1+1)) L.pl)) L.tr H,_⟩:=q;rw[cJ,show dR Xb (L.g.c1+1)= "1"++"$"++dec ((L.g.c1+1:Nat):Int)from by unfold dR;rw[<-gW];rfl]at q;exact⟨1,⟨by decide+kernel,ll⟩,⟨rfl,_,rfl,1,⟨by decide+kernel,ll⟩,rfl,hZ rfl,⟨ll,1,⟨by decide+kernel,ll⟩,rfl,_,rfl,U,Xa (XF e2 2) ll,⟨rfl,Xu⟩,rfl,J,q⟩⟩⟩|true=>
   have q:Q' .none ⟨cO B p::bW B L.rows (L.cur++"22"++lM j)::cY B ((L.g.inc Xg).put (.dm (dR Xg (L.g.c2+1)) L.pl)) L.tr H,_⟩:=q;rw[cJ,show dR Xg (L.g.c2+1)= "22"++"$"++dec ((L.g.c2+1:Nat):Int)from by unfold dR;rw[<-gW];rfl]at q;exact⟨22,⟨by decide+kernel,ll⟩,⟨rfl,_,rfl,22,⟨by decide+kernel,ll⟩,rfl,hZ rfl,⟨ll,22,⟨by decide+kernel,ll⟩,rfl,_,rfl,U,Xa (XF e2 3) ll,⟨rfl,Xu⟩,rfl,J,q⟩⟩⟩
theorem pe{x:Lb}(h:x∈pf):x.lx.tx.length<=10:=by have:=allM vY h;induction x with|nm w=>exact Xi (aH this).2|lo k=>cases k<;>exact ll
inductive IG (B:LA) (L:LS) (H:Hp) (m k:Nat) (y9 y10 y11 y12:bG) (l':ax) (σ:St):Prop|mk (xs p' y6 y7 y8:_) (h0:σ=⟨bq B p' (L.aM 0 xs) H,[W_ (.ref B.dX),W_ (dN B),W_ (.ref B.cu),W_ (.ref B.ct),W_ (.ref B.hu),W_ (.ref B.tr),y6,y7,y8,y9,y10,y11,y12]⟩) (h1:l'=List.range' xs.length l'.length) (h2:(∀x∈xs,x∈pf)) (h3:a8 p' (m+4*xs.length)) (h4:LB (L.aM 0 xs) (m+4*xs.length)) (h5:xs.length+l'.length=k)
theorem v7 (K:aL u){k:Nat}{M:bG}(hk:k<=2) (hp:a8 p m) (lb:LB L m) (hm:m<=600)
  (q:∀xs p' y6 y7 y8,xs.length<=2->(∀x∈xs,x∈pf)->a8 p' (m+10)->LB (L.aM 0 xs) (m+10)->Q' .none ⟨bq B p' (L.aM 0 xs) H,[W_ (.ref B.dX),W_ (dN B),W_ (.ref B.cu),W_ (.ref B.ct),W_ (.ref B.hu),W_ (.ref B.tr),y6,y7,y8,y9,y10,y11,M]⟩):
  forL (n6 6) (wp u (eM Xg (n+1) X) NO) (eu k) ⟨bq B p L H,[W_ (.ref B.dX),W_ (dN B),W_ (.ref B.cu),W_ (.ref B.ct),W_ (.ref B.hu),W_ (.ref B.tr),y6,y7,y8,y9,y10,y11,M]⟩ Q':=by
 refine forM (f:=λi:Nat=>V.int (i:Int)) (IG B L H m k y9 y10 y11 M) ?_ ?_ ⟨[],p,_,_,_,rfl,by rw[YB];exact List.range_eq_range',λW h=>W5 h XX,hp,lb,by rw[YB];exact X7 _⟩
 .rintro _ ⟨xs,p',y6,y7,y8,rfl,-,ok,O,J,e⟩
  have e:xs.length=k:=e;exact q xs p' y6 y7 y8 (bB (Xa (X4 e) hk) rfl) ok (O.up (by lia)) (J.up (by lia))
 .rintro a l' G hG _ ⟨xs,p',y6,y7,y8,rfl,er,ok,O,J,e⟩;rw[Xq]at er e;obtain⟨rfl,er2⟩:=ZU er;refine eN K (k:=5) O (bB (Xm hm (c7 (kg e hk))) rfl) ll ll λr p2 hr h2=>?_;obtain⟨x,Z,ex⟩:=atS (f:=λx:Lb=>V.str x.lx.tx) (l:=pf) hr;have Y:=pe Z;have U:LB (L.aM 0 xs) 1000:=J.up (bB (Xm hm (c7 (kg e hk))) rfl);have es:=Tt (P:=λj=>aF [V.str ":",.str ": ",.str " : "] j=W_ (.str (lM j))) rfl rfl xs.length (rE (kg e hk) rfl);have nx:∀y7,G ⟨bq B p2 ((L.aM 0 xs).dm xs.length x) H,[W_ (.ref B.dX),W_ (dN B),W_ (.ref B.cu),W_ (.ref B.ct),W_ (.ref B.hu),W_ (.ref B.tr),W_ (.int xs.length),y7,W_ (L.aM 0 xs).pl.tup,y9,y10,y11,M]⟩:=λy7=>by
   have e2:(L.aM 0 xs).dm xs.length x=L.aM 0 (xs++[x]):=by rw[v8,X7]
   have e3:(xs++[x]).length=xs.length+1:=by rw[Xc];rfl
   have l3:=J.dm (j:=xs.length) (x:=x) Y
   rw[e2]at l3⊢;exact hG _ ⟨xs++[x],p2,_,y7,_,rfl,by rw[e3];exact er2,λy m=>(Yk.mp m).elim (ok y) λm=>by rw[Xs.mp m];exact Z,h2.up (UM e3 rfl),l3.up (q_w e3),by lia⟩
  refine dI (X1 (bB (jL hr) rfl)) ex (cD K (bE U (Xh _) (Xa Y ll)) (dI (X1 (bB (kg e hk) rfl)) es (cD K ?_ (AA K Z (J.up (bB (Xm hm (c7 (kg e hk))) rfl:m+4*xs.length<=900)) (Xh _) nx))));have s2:(lM xs.length).length<=2:=by unfold lM;split<;>decide
  have:=U.cur
  rw[Xc]
  exact bB (Xm (Xm (Xa this (c7 (Xh 1000))) Y) s2) rfl
theorem tI{t:bV}:xs (L.add t).g ss=xs L.g ss:=List.map_congr_left λs W=>gz
theorem I':L.body .no=L:=by show(L.add []).wg (L.add []).g=L;rw[add_nil];rfl
theorem Es:L.body (.lst w ss)=((L.add (cZ w)).add (cG bk ss)).wg (ko w L.pl ((L.add (cZ w)).add (cG bk ss)).g (xs L.g ss)):=by show(L.add (cZ w++cG bk ss)).wg (ko w L.pl (L.add (cZ w++cG bk ss)).g (xs (L.add (cZ w++cG bk ss)).g ss))=_;rw[tI,ef]
theorem Er{k:Nat}:L.body (.iJ w k ss)=match gB k ss with|true=>(s7 w L ss).wg (PQ w L ss)|false=>s7 w L ss:=by show(L.add (cZ w++cG br ss)).wg (match gB k ss with|true=>((L.add (cZ w++cG br ss)).g.pn (xs (L.add (cZ w++cG br ss)).g ss) L.pl).put (.bF w ((ik (L.add (cZ w++cG br ss)).g (xs (L.add (cZ w++cG br ss)).g ss)).map .e) L.pl)|false=>(L.add (cZ w++cG br ss)).g)=_;rw[tI,ef];cases gB k ss<;>rfl
theorem Et{s:Sm}:L.body (.gZ h nm s)=((L.add h).add s.bb).wg (fP nm (s.x L.g) L.pl ((L.add h).add s.bb).g):=by show(L.add (h++s.bb)).wg (fP nm (s.x (L.add (h++s.bb)).g) L.pl (L.add (h++s.bb)).g)=_;rw[gz,ef]
variable{f:Pt->GS->GS}
theorem z6{s:bV}(h:yu s f):Ah s:=by induction h with|sy y h=>exact(aH (aH (allM CG h)).1).1|wd y h=>exact(aH (aH (aH (allM CA h)).1).1).1|tx w J e=>rfl
theorem Sd{s:bV}(h:yu s f):L.body (.pl s f)=(L.add s).wg (f L.pl L.g):=by show(L.add s).wg (f L.pl (L.add s).g)=_;rw[Cq (z6 h)]
theorem Ce{s:SE}{ws:List (Lx×Pt)}:iH (g.put s) ws=iH g ws:=by
 induction ws with|nil=>rfl|cons x a ih=>
  obtain⟨x,p⟩:=x;induction x with
  |lo k f=>induction f with
   |true=>show(⟨k,(g.put s).cn k+1,p⟩:AE)::_=⟨k,g.cn k+1,p⟩ ::_;rw[ih];cases k<;>rfl|false=>exact ih
  |_=>exact ih
theorem zi{s:SE}{ws:List (Lx×Pt)}:fF (g.put s) ws=fF g ws:=by
 induction ws with|nil=>rfl|cons x a ih=>
  obtain⟨x,p⟩:=x;induction x with
  |lo k f=>induction f with|true=>exact ih|false=>show(match(g.put s).cn k with|0=>p::fF (g.put s) a|_+1=>fF (g.put s) a)=(match g.cn k with|0=>p::fF g a|_+1=>fF g a);rw[ih];cases k<;>rfl
  |_=>exact ih
theorem KS{c:SE}{s:Sm}:s.x (g.put c)=s.x g:=by cases s<;>first|rfl|(rename_i k f;cases k<;>cases f<;>rfl)
def LS.go (L:LS):LS:=⟨L.rows,L.cur++"go ",L.g.put (.code L.pl),L.tr⟩
def nX(L:LS)(s:Sm):WE:=⟨L.g.st.length,s.x L.g,L.g.eO,L.pl,Xk⟩
theorem I_{s:Sm}:L.body (.code s)=(L.go.add s.bb).wg ((L.go.add s.bb).g.oo (nX L s)):=by
 have e:L.add (cZ nT)=⟨L.rows,L.cur++"go ",L.g,L.tr⟩:=gh rfl rfl rfl;have e2:s.x ((L.add (cZ nT)).add s.bb).g=s.x L.g:=by rw[gz,gz]
 show(L.add (cZ nT++s.bb)).wg (((L.add (cZ nT++s.bb)).g.put (.code L.pl)).oo ⟨(L.add (cZ nT++s.bb)).g.st.length,s.x (L.add (cZ nT++s.bb)).g,(L.add (cZ nT++s.bb)).g.eO,L.pl,Xk⟩)=_;rw[ef,e2,e];unfold LS.go LS.add LS.wg nX;show LS.mk _ _ _ (L.tr++List.map _ (fF L.g _))=LS.mk _ _ _ (L.tr++List.map _ (fF (L.g.put (.code L.pl)) _));rw[zi];show LS.mk _ _ (((L.g.ie (L.g.aw++iH L.g _)).put _).oo _) _=LS.mk _ _ (((L.g.put _).ie (L.g.aw++iH (L.g.put _) _)).oo _) _;rw[Ce];rfl
variable{w:Nat}{y6 y7 y8:bG}{Q':V->St->Prop}
def NN:N:=ak 10 (.a_ 119 [1] #[ay,ag ".longs "])^aC (.a_ 121 [0,0,0,0,0,0,0,0,0] #[ae,aq])^aa
def C_:N:=ak 11 (au #[.bU 0 5 #[aK],.a_ 119 [1] #[ay,ag "go "]])^aC (.bT 5 0 aK #[au #[au #[ag "code"],aG 0 1 gn]])^aC (.bT 6 0 (aG 0 5 aq) #[.lst 9 #[aG 0 0 gn,.a_ 121 [0,0,0,0,0,0,0,0,0] #[ae,aq],aG 8 1 (aG 0 7 aq),cq]])^aa
def kz (B:LA)(y6 y7 y8:bG)(w:Nat)(y10 y11:V):List bG:=[W_ (.ref B.dX),W_ (dN B),W_ (.ref B.cu),W_ (.ref B.ct),W_ (.ref B.hu),W_ (.ref B.tr),y6,y7,y8,W_ (.int w),W_ y10,W_ y11,Xk]
structure AB (B:LA) (H:Hp) (L:LS) (m:Nat) (y6 y7 y8:bG) (w:Nat) (Q':V->St->Prop):Prop where
 N:∀b p',b.ok->b.i9=Xb->b.ref=Xb->a8 p' (m+50)->LB (L.body b) (m+50)->Q' .none ⟨bq B p' (L.body b) H,kz B y6 y7 y8 w .none .none⟩
 R:∀b p',b.ok->b.i9=Xb->b.ref=Xg->a8 p' (m+50)->LB (L.body b) (m+50)->Q' .none ⟨bq B p' (L.body b) H,kz B y6 y7 y8 w L.pl.tup .none⟩
 C:∀s p' R y11,Sm.ok s->a8 p' (m+50)->LB (L.go.add s.bb) (m+50)->Q' .none ⟨Om B p' (L.go.add s.bb) R (nX L s) .none H,kz B y6 y7 y8 w .none (.tup y11)⟩
theorem LB.wgd{w:ax}(h:LB (s7 w L ss) (m+36)):LB ((s7 w L ss).wg (PQ w L ss)) (m+50):=⟨h.g.pn.put.mono (Dp rfl),Xa h.tr (eW rfl),(h.up (eW rfl:m+36<=m+50)).cur,Xa h.rows (eW rfl)⟩
theorem Dt (K:aL u) (U:a8 p m) (M:LB L m) (V:m<=600) (q:AB B H L m y6 y7 y8 w Q'):wp u (eM Xg (n+4) X) (.exp (.a_ 123 [0,0,0,0,0,0,0,0,0] (.oz (.loc 0) (.oz (.loc 1) .bJ)))) ⟨bq B p L H,kz B y6 y7 y8 w .none .none⟩ Q':=
 acb K U M V λw ss p' O ok ne J e=>by have:=q.N (.lst w ss) p' ⟨O,ok,ne⟩ rfl rfl (J.up (eW rfl)) (Es▸e.up (eW rfl));rw[Es]at this;exact this
theorem Ou (K:aL u) (Z:a8 p m) (Y:LB L m) (hm:m<=600) (q:AB B H L m y6 y7 y8 w Q'):wp u (eM Xg (n+4) X) (.asg 10 (.a_ 124 [0,0,0,0,0,0,0,0,0] (.oz (.loc 0) (.oz (.loc 1) .bJ)))) ⟨bq B p L H,kz B y6 y7 y8 w .none .none⟩ Q':=
 aca K Z Y hm λw k ss p' U ok O M J=>by
  generalize e:gB k ss=V;induction V with|true=>
   have e2:L.body (.iJ w k ss)=(s7 w L ss).wg (PQ w L ss):=Er.trans (by rw[e]);have:=q.N (.iJ w k ss) p' ⟨U,ok,O⟩ rfl (nf e) (M.up (eW rfl)) (e2▸J.wgd);rw[e2]at this;exact this|false=>
   have e2:L.body (.iJ w k ss)=s7 w L ss:=Er.trans (by rw[e]);have:=q.R (.iJ w k ss) p' ⟨U,ok,O⟩ rfl (nt e) (M.up (eW rfl)) (e2▸J.up (eW rfl));rw[e2]at this;exact this
theorem Du (K:aL u) (O:a8 p m) (M:LB L m) (U:m<=600) (q:AB B H L m y6 y7 y8 w Q'):wp u (eM Xg (n+4) X) (.exp (.a_ 125 [0,0,0,0,0,0,0,0,0] (.oz (.loc 0) (.oz (.loc 1) .bJ)))) ⟨bq B p L H,kz B y6 y7 y8 w .none .none⟩ Q':=
 ab9 K O M U λh nm s p' hh ok J e=>by have:=q.N (.gZ h nm s) p' ⟨hh,ok⟩ rfl rfl (J.up (eW rfl)) (Et▸e.up (eW rfl));rw[Et]at this;exact this
theorem Ow (K:aL u) (O:a8 p m) (M:LB L m) (U:m<=600) (q:AB B H L m y6 y7 y8 w Q'):wp u (eM Xg (n+4) X) (.exp (.a_ 126 [0,0,0,0,0,0,0,0,0] (.oz (.loc 0) (.oz (.loc 1) .bJ)))) ⟨bq B p L H,kz B y6 y7 y8 w .none .none⟩ Q':=
 ab8 K O M U λs f p' hs J e=>by have:=q.N (.pl s f) p' hs rfl rfl (J.up (eW rfl)) (Sd hs▸e.up (eW rfl));rw[Sd hs]at this;exact this
theorem Oz (K:aL u) (V:a8 p m) (M:LB L m) (O:m<=600) (q:AB B H L m y6 y7 y8 w Q'):wp u (eM Xg (n+4) X) NN ⟨bq B p L H,kz B y6 y7 y8 w .none .none⟩ Q':=by
 have U:L.add (cZ nJ)=⟨L.rows,L.cur++".longs ",L.g,L.tr⟩:=gh rfl rfl rfl;have e:LB (L.add (cZ nJ)) (m+2):=M.add ll ll;rw[U]at e;refine cD K (bE (M.up (Xa O ll)) (Xh 1000) ll) ?_;refine pI K (L:=⟨L.rows,L.cur++".longs ",L.g,L.tr⟩) (V.up (Xp m 2:m<=m+2)) e (kI O rfl) λs p' hs J=>?_;have e2:L.body (.bad s)=(⟨L.rows,L.cur++".longs ",L.g,L.tr⟩:LS).add s.bb:=by show(L.add (cZ nJ++s.bb)).wg (L.add (cZ nJ++s.bb)).g=_;rw[ef,U];rfl
 have:=q.R (.bad s) p' hs rfl rfl (J.up (qI rfl)) (e2▸(e.add fj (hM hs)).up (qI rfl));rw[e2]at this;exact this
theorem Hk (K:aL u) (hp:a8 p m) (U:LB L m) (V:m<=600) (q:AB B H L m y6 y7 y8 w Q'):wp u (eM Xg (n+4) X) C_ ⟨bq B p L H,kz B y6 y7 y8 w .none .none⟩ Q':=by
 have Z:(L.g.st.map SE.bj).length<16777216:=ba (Xa U.g.st (up V rfl));have J:LB (L.add (cZ nT)) (m+2):=U.add ll ll;rw[show L.add (cZ nT)=⟨L.rows,L.cur++"go ",L.g,L.tr⟩from gh rfl rfl rfl]at J;have O:LB L.go (m+3):=⟨J.g.put,XE J.tr,(J.up (Yl _)).cur,XE J.rows⟩;have c:=λs p' (hs:Sm.ok s) M R=>q.C s p' R [.int L.g.st.length,L.pl.tup] hs M ((O.add fj (hM hs)).up (qI rfl));refine⟨rfl,cD K (bE (U.up (Xa V ll)) (Xh 1000) ll) ⟨⟨rfl,Xu⟩,rfl,Z,?_⟩⟩;rw[Xl];refine⟨⟨rfl,Xu⟩,?_⟩;have ex:∀s:Sm,(s.x L.go.g).told=(s.x L.g).told:=λs=>WX Ex.told KS;have e:bq B p L.go H=cO B p::bW B L.rows (L.cur++"go ")::(B.ct,.bz [(1,.int L.g.c1),(22,.int L.g.c2)])::(B.aw,.list (L.g.aw.map AE.bj))::(B.eq,.list (L.g.eq.map QE.bj))::(B.hu,.list (L.g.st.map SE.bj++[.tup [.tup [.str "code"],L.pl.tup]]))::(B.wt,.list (L.g.wt.map WE.bj))::(B.tr,.list (L.tr.map mI))::(B.ta,.list [.int L.g.dw,.int L.g.eO])::H:=by show cO B p::bW B L.rows (L.cur++"go ")::cY B (L.g.put (.code L.pl)) L.tr H=_;rw[cJ];rfl
 show CL u (n+4) 121 _ _ _ _;refine e▸pI K (hp.up (Xp m 3:m<=m+3)) O (kI V rfl) λs p' hs M=>?_;rw[ex];have Y:((L.go.add s.bb).g.wt.map WE.bj).length<16777216:=ba (Xa U.g.wt (up V rfl));exact⟨rfl,λR=>⟨rfl,Y,c s p' hs (M.up (qI rfl)) R⟩⟩
def M5 (B:LA)(Q:V->Hp->Prop)(H:Hp)(L:LS)(m:Nat):Prop:=∀x p',gq.ok x->a8 p' (m+90)->Q .none (bq B p' (L.line x) H)
theorem fR (K:aL u){xs:List Lb}(V:xs.length<=2) (Z:∀l∈xs,l∈pf) (Y:m<=500) (q:M5 B Q H L m) (hQ:∀H r,wp u (eM Xg (n+4) X) nG ⟨H,r⟩ (eQ Q)->Q' .none ⟨H,r⟩):AB B H (L.aM 0 xs) (m+20) y6 y7 y8 w Q':=by
 refine⟨λb p' hb h1 h2 O M=>hQ _ _ (Le K O M (pU Y rfl) λsv e p2 U J=>?_),λb p' hb h1 h2 O M=>hQ _ _ (Ld K O M (pU Y rfl) λe p2 U J=>?_),λs p' R y11 hs O M=>hQ _ _ (Lf (a:=Xk) (b:=Xk) K rfl O M (pU Y rfl) λsv e p2 U J=>?_)⟩
 .have e2:L.mid ⟨xs,b,sv,e⟩ =(match sv with|true=>((L.aM 0 xs).body b).sP Xb|false=>(L.aM 0 xs).body b):=by show(match b.ref with|true=>_|false=>match sv with|true=>((L.aM 0 xs).body b).sP b.i9|false=>_)=_;rw[h2,h1]
  have q:Q .none (bq B p2 ((L.mid ⟨xs,b,sv,e⟩).fin e) H):=q ⟨xs,b,sv,e⟩ p2 ⟨V,Z,hb,U⟩ (J.up (Dp rfl));rw[e2]at q;exact q
 .have e2:L.mid ⟨xs,b,Xb,e⟩ =((L.aM 0 xs).body b).FH (Xb,(L.aM 0 xs).pl):=by show(match b.ref with|true=>_|false=>_)=_;rw[h2]
  have q:Q .none (bq B p2 ((L.mid ⟨xs,b,Xb,e⟩).fin e) H):=q ⟨xs,b,Xb,e⟩ p2 ⟨V,Z,hb,U⟩ (J.up (Dp rfl));rw[e2]at q;exact q
 .have e2:L.mid ⟨xs,.code s,sv,e⟩ =(match sv with|true=>(((L.aM 0 xs).go.add s.bb).wg (((L.aM 0 xs).go.add s.bb).g.oo (nX (L.aM 0 xs) s))).sP Xg|false=>((L.aM 0 xs).go.add s.bb).wg (((L.aM 0 xs).go.add s.bb).g.oo (nX (L.aM 0 xs) s))):=by show(match sv with|true=>((L.aM 0 xs).body (.code s)).sP Xg|false=>(L.aM 0 xs).body (.code s))=_;rw[I_]
  have q:Q .none (bq B p2 ((L.mid ⟨xs,.code s,sv,e⟩).fin e) H):=q ⟨xs,.code s,sv,e⟩ p2 ⟨V,Z,hs,U⟩ (J.up (Dp rfl));rw[e2]at q;exact q
theorem ab7 (K:aL u) (hp:a8 p m) (lb:LB L m) (M:m<=500) (q:M5 B Q H L m):CL u (n+5) 127 [.ref B.dX,dN B] (bq B p L H) Q X:=by
 refine ent K QT rfl (eN K (k:=3) hp (up M rfl) ll ll λr p1 hr h1=>⟨U4 hr rfl,v7 K (k:=r) (bB (jL hr) rfl) h1 (lb.up (Yl _)) (kI M rfl) λxs p2 y6 y7 y8 O U h2 Y=>?_⟩);refine eN K (k:=12) h2 (pU M rfl) ll ll λw p3 hw h3=>?_;have J:LB (L.aM 0 xs) (m+20):=Y.up (qI rfl);have Z:=h3;have h3:a8 p3 (m+20):=h3.up (Dp rfl);have e:m+20<=600:=kI M rfl;have V:∀{Q'}{w:Nat}{p4},a8 p4 (m+20)->AB B H (L.aM 0 xs) (m+20) y6 y7 y8 w Q'->wp u (eM Xg (n+4) X) C_ ⟨bq B p4 (L.aM 0 xs) H,kz B y6 y7 y8 w .none .none⟩ Q':=λh4 a=>Hk K h4 J e a;revert w;refine VL ?_ ?_ ?_ ?_ ?_ ?_ ?_ ?_ ?_ ?_ ?_ ?_
 .have:=(fR (y6:=y6) (y7:=y7) (y8:=y8) (w:=0) (n:=n) (X:=X) (Q':=λW σ=>wp u (eM Xg (n+4) X) nG σ (eQ Q)) K O U M q λW W q=>q).N .no p3 trivial rfl rfl (h3.up (Xp (m+20) 50)) (by rw[I'];exact J.up (Xp (m+20) 50));rw[I']at this;exact this
 .exact V h3 (fR K O U M q λW W q=>q)
 .exact V h3 (fR K O U M q λW W q=>q)
 .exact V h3 (fR K O U M q λW W q=>q)
 .exact Dt K h3 J e (fR K O U M q λW W q=>q)
 .exact Dt K h3 J e (fR K O U M q λW W q=>q)
 .exact Ou K h3 J e (fR K O U M q λW W q=>q)
 .exact Du K h3 J e (fR K O U M q λW W q=>q)
 .exact Du K h3 J e (fR K O U M q λW W q=>q)
 .exact Ow K h3 J e (fR K O U M q λW W q=>q)
 .exact Ow K h3 J e (fR K O U M q λW W q=>q)
 .refine eN K (k:=5) Z (bB (Xm (Xm (Xm M (Ge e)) (Ge e)) (Ge e)) rfl) ll ll λr4 p4 hr4 h4=>fO (b:=decide ((r4:Int)=4)) (λW=>?_) λW=>?_
  .exact Oz K (h4.up (M3 rfl)) J e (fR K O U M q λW W q=>q)
  .exact V (h4.up (M3 rfl)) (fR K O U M q λW W q=>q)
variable{T:List (ax×V)}{d:Nat}{x:Ex}{a:At}
structure A3 where
 w:Int
 p:List ax
 m:List ax
def A3.vl:Option A3->V|none=>.none|some a=>.tup [.int a.w,.lst (a.p.map .str),.lst (a.m.map .str)]
abbrev FE:=ax->Option Ex
noncomputable def jn(k:ax->Option A3):At->Option A3|.num v=>W_ ⟨v,[],[]⟩|.dot=>W_ ⟨0,["."],[]⟩|.sym s=>k s
noncomputable def sm(g:Bool)(a b:A3):A3:=match g with|false=>⟨a.w+b.w,a.p++b.p,a.m++b.m⟩|true=>⟨a.w-b.w,a.p++b.m,a.m++b.p⟩
def mn (g:Bool):Option A3->Option A3->Option A3|some a,W_ b=>W_ (sm g a b)|_,_=>Xk
def HV (k:ax->Option A3):Ex->Option A3|.at a=>jn k a|.bin g a b=>mn g (jn k a) (jn k b)
noncomputable def fu (F:FE):Nat->Ex->Option A3|0,x=>HV (λs=>match F s with|none=>W_ ⟨0,[s],[]⟩|some _=>Xk) x|d+1,x=>HV (λs=>match F s with|none=>W_ ⟨0,[s],[]⟩|some y=>fu F d y) x
def iM(F:FE)(d:Nat):ax->Option A3:=match d with
 |0=>λs=>match F s with|none=>W_ ⟨0,[s],[]⟩|some _=>Xk
 |d+1=>λs=>match F s with|none=>W_ ⟨0,[s],[]⟩|some y=>fu F d y
variable{F:FE}
theorem gf:fu F d x=HV (iM F d) x:=by cases d<;>rfl
structure TE (T:List (ax×V))(F:FE):Prop where
 lk:∀s,T.lookup s=(F s).map Ex.told
noncomputable def lJ(a:A3):Nat:=a.p.length+a.m.length
theorem IA{g:Bool}{a b:A3}:lJ (sm g a b)=lJ a+lJ b:=by
 cases g
 .show(a.p++b.p).length+(a.m++b.m).length=_;unfold lJ;rw[Xc,Xc];lia
 .show(a.p++b.m).length+(a.m++b.p).length=_;unfold lJ;rw[Xc,Xc];lia
theorem j1{k:ax->Option A3}{N:Nat}(h:∀s a,k s=W_ a->lJ a<=N)(h1:1<=N){y:At}{a:A3}(e:jn k y=W_ a):lJ a<=N:=by induction y with|num v=>cases e;exact Ye _|dot=>cases e;exact h1|sym s=>exact h s a e
theorem wR{k:ax->Option A3}{N:Nat}(h:∀s a,k s=W_ a->lJ a<=N) (h1:1<=N){a:A3}(e:HV k x=W_ a):lJ a<=2*N:=by
 induction x with|«at» y=>exact Xa (j1 h h1 e) Va|bin g y z=>
  have e:mn g (jn k y) (jn k z)=W_ a:=e;revert e;generalize K:jn k y=J;induction J with|none=>exact λe=>nomatch e|some b=>generalize e2:jn k z=J;induction J with|none=>exact λe=>nomatch e|some c=>intro e;cases e;have:=j1 h h1 K;have:=j1 h h1 e2;rw[IA];lia
theorem mB:∀{d:Nat}{s:ax}{a:A3},iM F d s=W_ a->lJ a<=2^d
 |0,s,a,e=>by have e:(match F s with|none=>W_ (⟨0,[s],[]⟩:A3)|some _=>Xk)=W_ a:=e;revert e;cases F s with|none=>intro e;cases e;exact Xh 1|some=>exact λe=>nomatch e
 |d+1,s,a,e=>by
  have e:(match F s with|none=>W_ (⟨0,[s],[]⟩:A3)|some y=>fu F d y)=W_ a:=e;revert e;cases F s with|none=>intro e;cases e;exact Nat.one_le_two_pow|some y=>intro e;have e:fu F d y=W_ a:=e;rw[gf]at e;rw[Nat.pow_succ,Nat.mul_comm];exact wR (λs a=>mB) Nat.one_le_two_pow e
theorem Ov{a b:A3}{N:Nat}(h1:lJ a<=N)(h2:lJ b<=N)(h:N<=1000){f g:A3->List ax}(J:(f a).length<=lJ a)(e:(g b).length<=lJ b):((f a).map V.str).length+((g b).map V.str).length<=16777216:=by rw[Xl,Xl];lia
theorem tU{a:A3}:a.p.length<=lJ a:=Xp ..
theorem tW{a:A3}:a.m.length<=lJ a:=Zc ..
theorem yc (K:aL u) (O:TE T F) (ih:∀{y:Ex}{J:Nat}{Q:V->Hp->Prop}{X:di->Hp->Prop},d=J+1->Q (A3.vl (fu F J y)) H->CL u n 128 [y.told,.cj T,.int J] H Q X) (q:Q (A3.vl (jn (iM F d) a)) H):CL u (n+1) 128 [a.told,.cj T,.int d] H Q X:=by
 induction a with|num v=>exact ent K rf rfl q|dot=>exact ent K rf rfl q|sym s=>
  have lk:=O.lk s;refine ent K rf rfl ?_;generalize e:F s=M;induction M with|none=>
   rw[e]at lk;have q:Q (A3.vl (iM F d s)) H:=q;rw[show iM F d s=W_ ⟨0,[s],[]⟩from by cases d<;> (show(match F s with|none=>_|some _=>_)=_;rw[e])]at q;exact aW (b:=!(T.lookup s).isSome) (by rw[lk];rfl) q|some y=>
   rw[e]at lk;refine bp (b:=!(T.lookup s).isSome) (by rw[lk];rfl) ?_;induction d using XN with
   |zero=>
    have q:Q (A3.vl (match F s with|none=>W_ ⟨0,[s],[]⟩|some _=>Xk)) H:=q;rw[e]at q;exact q|succ d=>
    have q:Q (A3.vl (match F s with|none=>W_ ⟨0,[s],[]⟩|some y=>fu F d y)) H:=q;rw[e]at q;refine⟨_,lk,?_⟩;show CL u n 128 [y.told,.cj T,.int (((d+1:Nat):Int) -1)] _ _ _;rw[show((d+1:Nat):Int) -1=(d:Int)from U'];exact ih rfl q
theorem j7{v:V}(h:∀x,v≠.cst x):V.none=V.none/\ ∀x,v≠V.cst x:=⟨rfl,h⟩
theorem lF{a:Option A3}:∀x,A3.vl a≠V.cst x:=by cases a<;>exact λW e=>nomatch e
theorem Ej (K:aL u) (O:TE T F) (hd:d<=4) (ih:∀{y:Ex}{e:Nat}{Q:V->Hp->Prop}{X:di->Hp->Prop},d=e+1->Q (A3.vl (fu F e y)) H->CL u n 128 [y.told,.cj T,.int e] H Q X)
  (U:∀{y:Ex}{e:Nat}{Q:V->Hp->Prop}{X:di->Hp->Prop},d=e+1->Q (A3.vl (fu F e y)) H->CL u (n+1) 128 [y.told,.cj T,.int e] H Q X) (q:Q (A3.vl (fu F d x)) H):CL u (n+2) 128 [x.told,.cj T,.int d] H Q X:=by
 rw[gf]at q;induction x with|«at» a=>exact yc K O U q|bin g a b=>
  have q:Q (A3.vl (mn g (jn (iM F d) a) (jn (iM F d) b))) H:=q;have N1:1<=2^d:=Nat.one_le_two_pow;have N2:2^d<=2^4:=Nat.pow_le_pow_right ll hd;have M:=λy=>j1 (k:=iM F d) (y:=a) (a:=y) (λs a=>mB (F:=F) (d:=d)) N1;have J:=λy=>j1 (k:=iM F d) (y:=b) (a:=y) (λs a=>mB (F:=F) (d:=d)) N1;refine ent K rf rfl (yc K O ih (yc K O ih ?_));revert M J q;cases jn (iM F d) a with|none=>exact λq W W=>⟨j7 lF,q⟩|some y=>
   cases jn (iM F d) b with|none=>exact λq W W=>⟨j7 lF,j7 lF,q⟩|some z=>
    intro q M J;have M:=Xa (M y rfl) N2;have J:=Xa (J z rfl) N2;have L:∀{f g:A3->List ax},(f y).length<=lJ y->(g z).length<=lJ z->((f y).map V.str).length+((g z).map V.str).length<=16777216:=λZ Y=>Ov M J ll Z Y;have q:Q (.tup [.int (sm g y z).w,.lst ((sm g y z).p.map .str),.lst ((sm g y z).m.map .str)]) H:=q;induction g with
    |false=>
     have q:Q (.tup [.int (y.w+z.w),.lst ((y.p++z.p).map .str),.lst ((y.m++z.m).map .str)]) H:=q;rw[XQ,XQ]at q;exact⟨j7 lF,j7 lF,L tU tU,L tW tW,q⟩|true=>
     have q:Q (.tup [.int (y.w-z.w),.lst ((y.p++z.m).map .str),.lst ((y.m++z.p).map .str)]) H:=q;rw[XQ,XQ]at q;exact⟨j7 lF,j7 lF,L tU tW,L tW tU,q⟩
theorem IT (K:aL u) (J:TE T F):∀{d:Nat}{x:Ex}{n:Nat}{Q:V->Hp->Prop}{X:di->Hp->Prop},d<=4->Q (A3.vl (fu F d x)) H->CL u (n+2*d+2) 128 [x.told,.cj T,.int d] H Q X|0,x,n,Q,X,hd,q=>Ej K J hd (λe=>nomatch e) (λe=>nomatch e) q|d+1,x,n,Q,X,hd,q=>Ej K J hd (λe q=>by cases e;exact IT K J (YQ hd) q) (λ{y M Q X}e q=>by cases e;rw[show n+2* (d+1)+1=(n+1)+2*d+2 by lia];exact IT K J (YQ hd) q) q
noncomputable def Pd(l:List ax):ax:=match l with|[]=>[]|s::_=>s
def dq (a:A3):Af:=⟨a.w,Pd (a.p.filter λs=>!aN s a.m),Pd (a.m.filter λs=>!aN s a.p)⟩
def afV:Option Af->V|none=>.none|some a=>.tup [.int a.w,.str a.p,.str a.m]
def dO(F:FE)(x:Ex):Option Af:=(fu F 4 x).map dq
theorem qk{vf:V}{l m:List ax}{E:Em}{k:aP->Hp->Prop}{i:Nat}(K:l.length<=1000) (e:∀P:V->Prop,P (.lst (m.map .str))->ixP 0 i H vf P) (q:k ((l.filter λs=>!aN s m).map .str) H):
  ou (wp u E (.cmp .NotIn 0 0 (.loc 0) (.ix 0 i (.loc 1)))) (wp u E (.loc 0)) (l.map .str) [] ⟨H,[Xk,W_ vf]⟩ k:=by
 refine JA (λs=>!aN s m) V.str (P:=λW=>True) (λs W acc G M h1 h2=>e _ ?_) ((X7 _).symm▸K) (λW W=>trivial) q;show ck (dy (.str s) (m.map .str)) _;rw[cS];generalize e2:aN s m=J;induction J with|true=>exact h2 (by rw[e2];rfl)|false=>exact⟨M,h1 (by rw[e2];rfl)⟩
theorem Dz{l:List ax}:aF (l.map V.str++[V.str []]) 0=W_ (.str (Pd l)):=by cases l<;>rfl
theorem Jf{a:A3}(h:fu F 4 x=W_ a):lJ a<=32:=by rw[gf]at h;exact wR (λs a=>mB) ll h
theorem Ru (K:aL u) (U:TE T F) (q:Q (afV (dO F x)) H):CL u (n+11) 129 [x.told,.cj T] H Q X:=by
 refine ent K QS rfl (IT K (d:=4) (n:=n) U (Xh 4) ?_);unfold dO at q;revert q;generalize e:fu F 4 x=O;induction O with|none=>exact λq=>⟨j7 lF,q⟩|some a=>
  intro q;have sz:=Jf e;have M:a.p.length<=32:=Xa tU sz;have J:a.m.length<=32:=Xa tW sz;have Z:=Xa (Zh (λs=>!aN s a.m) a.p) M;have Y:=Xa (Zh (λs=>!aN s a.p) a.m) J;have b1:((a.p.filter λs=>!aN s a.m).map V.str).length+ [V.str []].length<=16777216:=by rw[Xl];exact Xa (Xw Z 1) ll
  have b2:((a.m.filter λs=>!aN s a.p).map V.str).length+ [V.str []].length<=16777216:=by rw[Xl];exact Xa (Xw Y 1) ll
  refine⟨j7 lF,qk (m:=a.m) (l:=a.p) (Xa M ll) (λP w=>w) ⟨Xi rfl,qk (m:=a.p) (l:=a.m) (Xa J ll) (λP w=>w) ⟨Xi rfl,b1,?_⟩⟩⟩;show ck (aF (_++[V.str []]) 0) _;rw[Dz];refine⟨b2,?_⟩;show ck (aF (_++[V.str []]) 0) _;rw[Dz];exact q
variable{rows:List ax}{cur:ax}{D:aP}
def NM:N:=ao (bx (aJ 2 ay fJ) i8) (az (au #[ag "symbol",gn])^aa) aa^aa
def NL:N:=ao (.cmp .In 6 0 kX gm) (az (au #[ag "symbol",gn])^aa) aa^.il 6 i7 gm kX^aa
def NK:N:=ak 16 (.a_ 129 [] #[i7,gm])^ao (f9 (.loc 16) cq) (az (au #[ag "symbol",gn])^aa) aa^ao (av (aG 0 2 (.loc 16)) (ag [])) (.il 6 i7 (.loc 13) kX^aa) aa^aa
def NJ:N:=ao (ei (.loc 19) cq) (az (au #[ag "read",.loc 19])^aa) aa^.ast [20,21,22] Xb (.a_ 129 [] #[i7,.loc 13])^ak 23 (.jk (av (.loc 18) (aj 0)) (au #[ah kV (aj 5000),kU,kT]) (au #[cx (cx (aj 0) kV) (aj 5000),kT,kU]))^.il 3 (au #[au #[ag "code",.loc 23],aG 0 1 (aJ 3 bh kW)]) bh kW^aa
def FE.put(F:FE)(w:ax)(x:Ex):FE:=λs=>match sEq s w with|true=>W_ x|false=>F s
noncomputable def gw:FE->List QE->Pt⊕FE|F,[]=>.inr F|F,r::l=>match(F r.w).isSome with|true=>.inl r.p|false=>gw (F.put r.w r.x) l
noncomputable def eP (F:FE):FE->List QE->Pt⊕FE|S,[]=>.inr S|S,r::l=>match dO F r.x with|none=>.inl r.p|some a=>eP F (match sEq a.m []with|true=>S.put r.w r.x|false=>S) l
def rdT (s:Nat)(a:Af):V:=match s with|0=>.tup [.int (a.w+5000),.str a.p,.str a.m]|_+1=>.tup [.int (0-a.w-5000),.str a.m,.str a.p]
def iE(S:FE)(e:WE):V:=.tup [.tup [.str "code",match dO S e.x with|some a=>rdT e.s a|none=>.none],e.p.tup]
noncomputable def dJ (S:FE):List WE->aP->Pt⊕aP|[],D=>.inr D|e::l,D=>match e.eV with|some p=>.inl p|none=>dJ S l (setAt D e.i (iE S e))
noncomputable def oy (g:GS):List AE->Option Pt|[]=>Xk|a::l=>match YM (g.cn a.k) a.n with|true=>W_ a.p|false=>oy g l
theorem TE.put{w:ax}(h:TE T F):TE (fG T w x.told) (F.put w x):=by
 refine⟨λs=>?_⟩;rw[rz.1];unfold FE.put;rw[bH];cases s==w
 .exact h.lk s
 .rfl
theorem TE.is{w:ax}(h:TE T F):(T.lookup w).isSome=(F w).isSome:=by rw[h.lk,Option.isSome_map]
def mi(B:LA)(p:PN)(rows:List ax)(cur:ax)(g:GS)(D:aP)(H:Hp):Hp:=cO B p::bW B rows cur::(B.ct,.bz [(1,.int g.c1),(22,.int g.c2)])::(B.hu,.list D)::(B.tr,.list [])::(B.ta,.list [.int g.dw,.int g.eO])::H
def mG (B:LA)(g:GS)(a9 a10 a11 a12 a13 a14 a15 a16 a17 a18 a19 a20 a21 a22 a23:bG):List bG:=[W_ (dN B),W_ (.ref B.cu),W_ (.ref B.ct),W_ (.lst (g.aw.map AE.bj)),W_ (.lst (g.eq.map QE.bj)),W_ (.ref B.hu),W_ (.lst (g.wt.map WE.bj)),W_ (.ref B.tr),W_ (.ref B.ta),a9,a10,a11,a12,a13,a14,a15,a16,a17,a18,a19,a20,a21,a22,a23]
def qX (Q:V->Hp->Prop)(b:Bool)(p:Pt):Prop:=∀E,Q (mI (b,p)) E
def PC{α:Type}(f:Pt->Prop)(k:α->Prop):Pt⊕α->Prop|.inl p=>f p|.inr y=>k y
def jR (Q:V->Hp->Prop)(v:V)(Q':V->St->Prop):Prop:=∀H r,Q v H->Q' (.tup [v]) ⟨H,r⟩
theorem Ey{a:AE}{l:List AE}(e:YM (g.cn a.k) a.n):oy g (a::l)=W_ a.p:=by show(match YM (g.cn a.k) a.n with|true=>_|false=>_)=_;rw[e]
theorem Ez{a:AE}{l:List AE}(e:YM (g.cn a.k) a.n=Xb):oy g (a::l)=oy g l:=by show(match YM (g.cn a.k) a.n with|true=>_|false=>_)=_;rw[e]
theorem Eu{a:AE}(e:YM (g.cn a.k) a.n):decide (((g.cn a.k:Nat):Int)<((a.n:Nat):Int)):=W4 (YW.mpr (Xi e))
theorem Ew{a:AE}(e:YM (g.cn a.k) a.n=Xb):decide (((g.cn a.k:Nat):Int)<((a.n:Nat):Int))=Xb:=W2 λh=>by rw[show YM (g.cn a.k) a.n=Xg from X1 (YW.mp h)]at e;exact ft e
theorem PV{r:QE}{l:List QE}(e:(F r.w).isSome):gw F (r::l)=.inl r.p:=by show(match(F r.w).isSome with|true=>_|false=>_)=_;rw[e]
theorem PW{r:QE}{l:List QE}(e:(F r.w).isSome=Xb):gw F (r::l)=gw (F.put r.w r.x) l:=by show(match(F r.w).isSome with|true=>_|false=>_)=_;rw[e]
theorem Ll{S:FE}{r:QE}{l:List QE}(e:dO F r.x=Xk):eP F S (r::l)=.inl r.p:=by show(match dO F r.x with|none=>_|some a=>_)=_;rw[e]
theorem Lk{S:FE}{r:QE}{l:List QE}{a:Af}(e:dO F r.x=W_ a):eP F S (r::l)=eP F (match sEq a.m []with|true=>S.put r.w r.x|false=>S) l:=by show(match dO F r.x with|none=>_|some a=>_)=_;rw[e]
variable{a16:bG}{a17:bG}{a18:bG}{a19:bG}{a20:bG}{a21:bG}{a22:bG}{a23:bG}
theorem Ja (K:aL u){V U O M:bG}(hQ:∀v,jR Q v Q'):∀{l:List AE}{a9 a10 J:bG},(match oy g l with|some p=>qX Q Xg p|none=>∀a9 a10 J,Q' .none ⟨mi B p rows cur g D H,mG B g a9 a10 J V U O M a16 a17 a18 a19 a20 a21 a22 a23⟩)->
  forL (hH [9,10,11]) (wp u (eM Xg n X) NM) (l.map AE.bj) ⟨mi B p rows cur g D H,mG B g a9 a10 J V U O M a16 a17 a18 a19 a20 a21 a22 a23⟩ Q':=by
 intro l;induction l with|nil=>exact λq=>q _ _ _|cons a l ih=>
  intro a9 a10 J q;refine⟨rfl,_,k7,?_⟩;generalize e:YM (g.cn a.k) a.n=Y;induction Y with
  |true=>
   rw[Ey e]at q;exact aW (Eu e) (hQ _ _ _ (q _))|false=>
   rw[Ez e]at q;exact bp (Ew e) (ih q)
variable{a9:bG}{a10:bG}
theorem BG (K:aL u){Z sA:Addr}(hQ:∀v,jR Q v Q'):∀{l:List QE}{F:FE}{T:List (ax×V)}{O M J:bG},TE T F->T.length+l.length<=1000->(PC (qX Q Xg) (λF'=>∀T' O M J,TE T' F'->T'.length<=1000->Q' .none ⟨mi B p rows cur g D ((Z,.aU T')::(sA,.aU [])::H),mG B g a9 a10 O (W_ (.ref Z)) (W_ (.ref sA)) M J a16 a17 a18 a19 a20 a21 a22 a23⟩) (gw F l))->
  forL (hH [14,15,11]) (wp u (eM Xg n X) NL) (l.map QE.bj) ⟨mi B p rows cur g D ((Z,.aU T)::(sA,.aU [])::H),mG B g a9 a10 O (W_ (.ref Z)) (W_ (.ref sA)) M J a16 a17 a18 a19 a20 a21 a22 a23⟩ Q':=by
 intro l;induction l with|nil=>exact λU Y q=>q _ _ _ _ U Y|cons r l ih=>
  intro F T O M J U Y q;rw[Xq]at Y;generalize e:(F r.w).isSome=zz;induction zz with|true=>
   rw[PV e]at q;exact⟨rfl,aW (b:=(T.lookup r.w).isSome) (U.is.trans e) (hQ _ _ _ (q _))⟩|false=>
   rw[PW e]at q;exact⟨rfl,bp (b:=(T.lookup r.w).isSome) (U.is.trans e) ⟨rfl,FC Y rfl,ih U.put (by have:=(rz (l:=T) (k:=r.w) (v:=r.x.told)).2;exact MK Y this) q⟩⟩
theorem zu (K:aL u){tV:List (ax×V)}{sA:Addr}(hQ:∀v,jR Q v Q') (tf:TE tV F):∀{l:List QE}{S:FE}{T:List (ax×V)}{O M J a16:bG},TE T S->T.length+l.length<=1000->(PC (qX Q Xg) (λS'=>∀T' O M J a16,TE T' S'->Q' .none ⟨mi B p rows cur g D ((sA,.aU T')::H),mG B g a9 a10 O (W_ (.cj tV)) (W_ (.ref sA)) M J a16 a17 a18 a19 a20 a21 a22 a23⟩) (eP F S l))->
  forL (hH [14,15,11]) (wp u (eM Xg (n+11) X) NK) (l.map QE.bj) ⟨mi B p rows cur g D ((sA,.aU T)::H),mG B g a9 a10 O (W_ (.cj tV)) (W_ (.ref sA)) M J a16 a17 a18 a19 a20 a21 a22 a23⟩ Q':=by
 intro l;induction l with|nil=>exact λY U q=>q _ _ _ _ _ Y|cons r l ih=>
  intro S T O M J a16 Y U q;rw[Xq]at U;refine Ru K tf ?_;generalize e:dO F r.x=Z;induction Z with|none=>rw[Ll e]at q;exact⟨j7 (λW e=>nomatch e),hQ _ _ _ (q _)⟩|some a=>
   rw[Lk e]at q;refine⟨j7 (λW e=>nomatch e),?_⟩;clear e;revert q;generalize e:sEq a.m []=Z;induction Z with|true=>
    intro q;exact aW (b:=sEq a.m []) e ⟨rfl,FC U rfl,ih Y.put (by have:=(rz (l:=T) (k:=r.w) (v:=r.x.told)).2;exact MK U this) q⟩|false=>
    intro q;exact bp (b:=sEq a.m []) e (ih Y (Js U) q)
def aeq:N:=ak 23 (.jk (av (.loc 18) (aj 0)) (au #[ah kV (aj 5000),kU,kT]) (au #[cx (cx (aj 0) kV) (aj 5000),kT,kU]))^.il 3 (au #[au #[ag "code",.loc 23],aG 0 1 (aJ 3 bh kW)]) bh kW^aa
theorem eF:∀{l:List α}{i:Nat}{y:α},aF l i=W_ y->i<l.length|_::_,0,_,_=>Y' _|_::l,i+1,_,e=>Nat.succ_lt_succ (eF (l:=l) e)
theorem r5{y:α}:∀{l:List α}{i j:Nat}{z:α},aF l j=W_ z->aF (setAt l i y) j=W_ (if i=j then y else z):=by
 intro l;induction l with|nil=>exact λe=>nomatch e|cons x l ih=>
  intro i j z e;induction i using XN with
  |zero=>induction j using XN with|zero=>cases e;rfl|succ j=>exact e
  |succ i=>induction j using XN with
   |zero=>exact e|succ j=>
  have:=ih (i:=i) (j:=j) e;show aF (setAt l i y) j=_;rw[this];by_cases h:i=j
  .rw[W0 h,W0 (WX (λW=>W+1) h)]
  .rw[WZ h,WZ λe=>h (Yg e)]
def JQ (D:aP)(l:List WE):Prop:=∀e∈l,∃y,aF D e.i=W_ (.tup [y,e.p.tup])
variable{z:V}
theorem BI{e:WE}{l:List WE}(ok:JQ D (e::l))(co:∀a∈e::l,∀b∈e::l,a.i=b.i->a.p=b.p):JQ (setAt D e.i (.tup [z,e.p.tup])) l:=λJ m=>by
 obtain⟨y,K⟩:=ok J (.tail _ m);rw[r5 K];by_cases h:e.i=J.i
 .rw[W0 h,co e (.head _) J (.tail _ m) h];exact⟨_,rfl⟩
 .rw[WZ h];exact⟨y,rfl⟩
abbrev M8:=aP->bG->bG->bG->bG->bG->bG->bG->bG->St
inductive IFl (M:M8) (Q:V->Hp->Prop) (Q':V->St->Prop) (S:FE) (l:List WE) (σ:St):Prop|mk (D:aP) (a b c d e f g h:bG) (eq:σ=M D a b c d e f g h) (ok:JQ D l) (co:∀e∈l,∀e'∈l,e.i=e'.i->e.p=e'.p) (hS:∀e∈l,∃a,dO S e.x=W_ a) (hD:D.length<=1000) (q:PC (qX Q Xb:_) (λD=>∀a b c d e f g h,Q' .none (M D a b c d e f g h)) (dJ S l D))
theorem r9 (K:aL u){Z:List (ax×V)}{S:FE}{U O M:bG}(hQ:∀v,jR Q v Q') (ts:TE Z S){l:List WE}{J:bG}(ok:JQ D l) (co:∀e∈l,∀e'∈l,e.i=e'.i->e.p=e'.p) (hS:∀e∈l,∃a,dO S e.x=W_ a) (Y:D.length<=1000)
  (q:PC (qX Q Xb) (λD'=>∀J a17 a18 a19 a20 a21 a22 a23,Q' .none ⟨mi B p rows cur g D' H,mG B g a9 a10 U O (W_ (.cj Z)) M J a16 a17 a18 a19 a20 a21 a22 a23⟩) (dJ S l D)):
  forL (hH [17,15,18,19]) (wp u (eM Xg (n+11) X) NJ) (l.map WE.bj) ⟨mi B p rows cur g D H,mG B g a9 a10 U O (W_ (.cj Z)) M J a16 a17 a18 a19 a20 a21 a22 a23⟩ Q':=by
 refine forM (IFl (λD J a17 a18 a19 a20 a21 a22 a23=>⟨mi B p rows cur g D H,mG B g a9 a10 U O (W_ (.cj Z)) M J a16 a17 a18 a19 a20 a21 a22 a23⟩) Q Q' S) ?_ ?_ ⟨D,J,a17,a18,a19,a20,a21,a22,a23,rfl,ok,co,hS,Y,q⟩
 .rintro _ ⟨D,J,a17,a18,a19,a20,a21,a22,a23,rfl,-,-,-,-,q⟩;exact q _ _ _ _ _ _ _ _
 .rintro ⟨i,x,s,pt,eV⟩ l F hF _ ⟨D,J,a17,a18,a19,a20,a21,a22,a23,rfl,ok,co,hS,Y,q⟩;obtain⟨y,ey⟩:=ok _ (.head _);obtain⟨a,ea⟩:=hS _ (.head _);have ct:iE S ⟨i,x,s,pt,eV⟩ =.tup [.tup [.str "code",rdT s a],pt.tup]:=by unfold iE;rw[ea]
  have q:PC (qX Q Xb) _ (match eV with|some p=>.inl p|none=>dJ S l (setAt D i (iE S ⟨i,x,s,pt,eV⟩))):=q;rw[ct]at q;induction eV with|some p'=>exact⟨j7 (λW e=>nomatch e),hQ _ _ _ (q _)⟩|none=>have lt:=eF ey;have oi:C0 (i:Int):=⟨XO _,mz (Xa Y ll) (Yv lt)⟩;have nx:=λ{J a17 a18 a19 a20 a21 a22 a23} =>hF _ ⟨_,J,a17,a18,a19,a20,a21,a22,a23,rfl,BI ok co,λa m b m'=>co a (.tail _ m) b (.tail _ m'),λe m=>hS e (.tail _ m),by rw[ej];exact Y,q⟩;refine⟨j7 (λW e=>nomatch e),Ru K ts ?_⟩;have ea:dO S x=W_ a:=ea;rw[ea];induction s using XN with|zero=>exact⟨rfl,dI (X1 (Xa (Yv lt) Y)) ey ⟨rfl,⟨oi,lt⟩,nx⟩⟩|succ s=>exact⟨rfl,dI (X1 (Xa (Yv lt) Y)) ey ⟨rfl,⟨oi,lt⟩,nx⟩⟩
def sf (g:GS)(tr:List (Bool×Pt)):(Bool×Pt) ⊕aP:=match tr with|x::_=>.inl x|[]=>match oy g g.aw with|some p=>.inl (Xg,p)|none=>match gw (λW=>Xk) g.eq with|.inl p=>.inl (Xg,p)|.inr F=>match eP F (λW=>Xk) g.eq with|.inl p=>.inl (Xg,p)|.inr S=>match dJ S g.wt (g.st.map SE.bj)with|.inl p=>.inl (Xb,p)|.inr D=>.inr D
def zW (Q:V->Hp->Prop):(Bool×Pt) ⊕aP->Prop|.inl x=>qX Q x.1 x.2|.inr D=>∀E,Q (.lst D) E
theorem ab6 (K:aL u) (hs:g.st.length<=1000) (V:g.eq.length<=1000) (h1:JQ (g.st.map SE.bj) g.wt) (h2:∀e∈g.wt,∀Y∈g.wt,e.i=Y.i->e.p=Y.p)
  (h3:∀F S,gw (λW=>Xk) g.eq=.inr F->eP F (λW=>Xk) g.eq=.inr S-> ∀e∈g.wt,∃a,dO S e.x=W_ a) (q:zW Q (sf g tr)):CL u (n+12) 130 [dN B] (cO B p::bW B rows cur::cY B g tr H) Q X:=by
 refine ent K QR rfl ?_;induction tr using Xn with|cons x tr=>exact⟨rfl,rfl,⟨rfl,q _⟩⟩|nil=>
  refine⟨rfl,rfl,⟨rfl,rfl,rfl,Ja K (D:=g.st.map SE.bj) (λv H r q=>q) ?_⟩⟩;unfold sf at q;revert q;cases oy g g.aw with|some p=>exact id|none=>
   intro q a9 a10 J;refine λtA sA=>BG K (T:=[]) (F:=λW=>Xk) (λv H r q=>q) ⟨λW=>rfl⟩ (by rw[Yh,X7];exact V) ?_;have q:zW Q (match gw (λW=>Xk) g.eq with|.inl p=>.inl (Xg,p)|.inr F=>match eP F (λW=>Xk) g.eq with|.inl p=>.inl (Xg,p)|.inr S=>match dJ S g.wt (g.st.map SE.bj)with|.inl p=>.inl (Xb,p)|.inr D=>.inr D):=q;revert q;generalize e1:gw (λW=>Xk) g.eq=M;induction M with|inl p=>exact id|inr F=>
    intro q T' J U O Z _;refine⟨rfl,zu K (T:=[]) (S:=λW=>Xk) (λv H r q=>q) Z ⟨λW=>rfl⟩ (by rw[Yh,X7];exact V) ?_⟩;have q:zW Q (match eP F (λW=>Xk) g.eq with|.inl p=>.inl (Xg,p)|.inr S=>match dJ S g.wt (g.st.map SE.bj)with|.inl p=>.inl (Xb,p)|.inr D=>.inr D):=q;revert q;generalize e2:eP F (λW=>Xk) g.eq=M;induction M with|inl p=>exact id|inr S=>intro q T'' J U O a16 ts;refine⟨rfl,r9 K (D:=g.st.map SE.bj) (λv H r q=>q) ts h1 h2 (h3 F S e1 e2) (by rw[Xl];exact hs) ?_⟩;have q:zW Q (match dJ S g.wt (g.st.map SE.bj)with|.inl p=>.inl (Xb,p)|.inr D=>.inr D):=q;revert q;cases dJ S g.wt (g.st.map SE.bj)with|inl p=>exact id|inr D=>exact λq W W W W W W W W=>⟨rfl,q _⟩
variable{hd:Bool}{p:Pt}
theorem c2 (K:aL u)(q:Q p.tup H):CL u (n+1) 2 [p.obj] H Q X:=ent K ck2 rfl q
theorem c2f (K:aL u)(q:Q p.tup H):gr (GX u) Xb (n+1) 2 [p.obj] H Q X:=ent K abI rfl q
def Af.told(a:Af):V:=.tup [.int a.w,.str a.p,.str a.m]
theorem c23 (K:aL u){a:Af}(q:Q a.told H):CL u (n+1) 23 [a.vl] H Q X:=ent K abJ rfl q
def Arg.ok:Arg->Bool|.e x=>!x.hh&&x.wf|_=>Xg
theorem tuL{a b:Bool}(h:(a||b)=Xb):a=Xb/\b=Xb:=(Bool.or_eq_false_iff).mp h
theorem c91 (K:aL u){a:Arg}(M:a.ok)(q:Q a.told H):CL u (n+3) 91 [a.obj] H Q X:=by
 induction a with
 |y b=>exact ent K xY rfl ⟨rfl,q⟩|s w=>exact ent K xY rfl ⟨rfl,q⟩|e x=>
  have J:x.hh=Xb:=(XR _).mp (aH M).1
  induction x with
  |«at» x=>induction x with
   |dot=>exact ft J|num v=>exact ent K xY rfl ⟨rfl,rfl,c8 K q⟩|sym w=>exact ent K xY rfl ⟨rfl,rfl,JH K q⟩
  |bin g x y=>
   obtain⟨h1,h2⟩:=tuL J
   exact ent K xY rfl ⟨rfl,rfl,T_ K h1 h2 q⟩
def vo:N:=au #[.bI 0 29 [] ae .bJ,.bI 0 29 [] (ai 0 3 ae) .bJ]
theorem c88 (K:aL u){w:ax}{l:List Arg}(e:l.length<=1000)(ok:∀a∈l,a.ok)(q:Q (SE.bF w l p).told H):CL u (n+4) 88 [(SE.bF w l p).obj] H Q X:=
 ent K aa6 rfl (Tz (f:=Arg.obj) Arg.told (λa ok acc G J h=>c91 K ok ⟨J,h⟩) e ok q)
theorem c90 (K:aL u){w:ax}{x:Ex}(e:x.hh=Xb)(q:Q (SE.gZ w x p).told H):CL u (n+3) 90 [(SE.gZ w x p).obj] H Q X:=by
 induction x with
 |«at» x=>induction x with
  |dot=>exact ft e|num v=>exact ent K IE rfl (c8 K q)|sym w=>exact ent K IE rfl (JH K q)
 |bin g x y=>obtain⟨h1,h2⟩:=tuL e;exact ent K IE rfl (T_ K h1 h2 q)
theorem c84 (K:aL u){w:ax}(q:Q (SE.dm w p).told H):CL u (n+1) 84 [(SE.dm w p).obj] H Q X:=ent K aba rfl q
def SE.Nn:SE->Prop|.dm _ _=>True|.code _=>False|.bF _ l _=>l.length<=1000/\ ∀a∈l,a.ok=Xg|.gZ _ x _=>x.hh=Xb
def xQ (F:FT)(e:WE):V:=.tup [.tup [.str "code",(Jv e.s (e.x.af F ".")).told],e.p.tup]
theorem c86 (K:aL u){F:FT}{e:WE}(q:Q (.tup [.str "code",(Jv e.s (e.x.af F ".")).told]) H):CL u (n+2) 86 [lj F e] H Q X:=ent K aa8 rfl (c23 K q)
def RT(F:FT)(v t:V):Prop:=(∃s,v=SE.obj s/\t=s.bj/\s.Nn) \/ ∃e,v=lj F e/\t=xQ F e
theorem F9 (K:aL u){F:FT}{v t:V}(h:RT F v t)(q:P t ⟨H,[W_ v]⟩):wp u ⟨Xg,n+4,iX⟩ vo ⟨H,[W_ v]⟩ P:=by
 rcases h with⟨s,rfl,rfl,ok⟩|⟨e,rfl,rfl⟩
 .induction s with|dm w p=>exact c84 K (c2 K q)|code p=>exact ok.elim|bF w l p=>exact c88 K ok.1 ok.2 (c2 K q)|gZ w x p=>exact c90 K ok (c2 K q)
 .exact c86 K (c2 K q)
noncomputable def jx:ax->bV->List (ax×Lx) ×ax|b,[]=>([],b)|b,Xk::s=>jx (b++" ") s|b,W_ x::s=>((b,x)::(jx [] s).1,(jx [] s).2)
theorem wm{r:ax}:∀{s:bV}{b:ax},yJ (jx b s).1 ((jx b s).2++r)=b++(bC s++r):=by
 intro s;induction s with|nil=>exact rfl|cons z s ih=>
  intro b;induction z with|none=>
   show yJ (jx (b++" ") s).1 ((jx (b++" ") s).2++r)=_;rw[ih,Xf];rfl|some x=>
   show b++(x.tx++yJ (jx [] s).1 ((jx [] s).2++r))=b++(x.tx++bC s++r);rw[ih,Xf];rfl
theorem HB{l:Int}:∀{s:bV}{b:ax}{o:Nat},Dl l (o:Int) (jx b s).1=(gK l (o+b.length) s).map kJ:=by
 intro s;induction s with|nil=>exact rfl|cons z s ih=>
  intro b o;induction z with|none=>show Dl l (o:Int) (jx (b++" ") s).1=(gK l (o+b.length+1) s).map kJ;rw[ih,Xc];rfl|some x=>
  have:=ih (b:=[]) (o:=o+b.length+x.tx.length);show _::Dl l ((o:Int)+(b.length:Int)+(x.tx.length:Int)) (jx [] s).1=_::(gK l (o+b.length+x.tx.length) s).map kJ;rw[show(o:Int)+(b.length:Int)+(x.tx.length:Int)=((o+b.length+x.tx.length:Nat):Int)from rfl,this];rfl
noncomputable def wy:Option Lx->Bool|some (.nm _)=>Xg|some (.nu _ _)=>Xg|some (.lo _ _)=>Xg|_=>Xb
noncomputable def fw:Bool->bV->Bool|_,[]=>Xg|f,x::s=>!(f&&wy x)&&fw (wy x) s
noncomputable def v9:Bool->bV->Bool|f,[]=>f|_,x::s=>v9 (wy x) s
theorem mF{t:bV}:∀{s:bV}{f:Bool},fw f (s++t)=(fw f s&&fw (v9 f s) t):=by
 intro s;induction s with
 |nil=>
  intro _;exact rfl|cons x s ih=>
  intro f;show(!(f&&wy x)&&fw (wy x) (s++t))=(!(f&&wy x)&&fw (wy x) s&&fw (v9 (wy x) s) t);rw[ih,Bool.and_assoc]
def Lx.j6(x:Lx):Bool:=x.ok&&match x with|.sg c=>!kP c|_=>Xg
def g_(s:bV):Bool:=s.all λx=>match x with|some x=>x.j6|none=>Xg
def Nt(r:ax):Bool:=r.head?.all λc=>!kP c
theorem Ao{x:Lx}(h:x.j6)(e:wy (W_ x)=Xb){r:ax}:Nt (x.tx++r):=by induction x with|nm=>exact ft e|nu=>exact ft e|lo=>exact ft e|ch=>rfl|qu=>rfl|sg c=>exact(aH h).2
theorem HC{r:ax}(K:Nt r):∀{s:bV}{b:ax},g_ s->fw Xb s->b.all j8->vM (jx b s).1 ((jx b s).2++r):=by
 intro s;induction s with|nil=>exact λW W W=>rfl|cons z s ih=>
  intro b h1 h2 h3;induction z with|none=>exact ih (b:=b++" ") h1 h2 (by rw[YI,h3];rfl)|some x=>
  obtain⟨o1,o2⟩:=aH (show(x.j6&&g_ s)=Xg from h1);have o1:=(aH o1).1;have h2:fw (wy (W_ x)) s:=h2;have a2:fw Xb s:=by induction s using Xn with|nil=>rfl|cons y s=>exact(aH h2).2
  show(b.all j8&&x.ok&&x.stop (yJ (jx [] s).1 ((jx [] s).2++r))&&vM (jx [] s).1 ((jx [] s).2++r));rw[wm,h3,o1,ih o2 a2 rfl,Z_];show x.stop (bC s++r);have key:wy (W_ x)->Nt (bC s++r):=λe=>by
   induction s using Xn with|nil=>exact K|cons y s=>induction y with|none=>rfl|some y=>have h2:(!(wy (W_ x)&&wy (W_ y))&&fw (wy (W_ y)) s):=h2;rw[e,ZD]at h2;have J:=(XR _).mp (aH h2).1;show Nt (y.tx++bC s++r);rw[Xf];exact Ao (aH (show(y.j6&&g_ s)=Xg from o2)).1 J
  induction x with|nm w=>exact key rfl|nu w v=>exact key rfl|lo k f=>exact key rfl|_=>rfl
theorem l_:∀{s:bV}{b:ax},(jx b s).1.length<=s.length|[],_=>Xh _|none::s,b=>XE (l_ (s:=s))|some _::s,_=>XH (l_ (s:=s))
theorem pj:∀{s:bV}{b:ax},b.all j8->(jx b s).2.all j8=Xg|[],_,h=>h|none::s,b,h=>pj (s:=s) (by rw[YI,h];rfl)|some _::s,_,_=>pj (s:=s) rfl
theorem RZ(h:j8 c):(!kP c):=by
 unfold j8 at h;rw[jK,jK,jK,Z']at h;generalize J:XI 32 c=e;induction e with|true=>rw[<-XJ J];rfl|false=>generalize e2:XI 9 c=e;induction e with|true=>rw[<-XJ e2];rfl|false=>rw[J,e2]at h;have h:XI 13 c:=h;rw[<-XJ h];rfl
theorem Rp (K:aL u){s:bV}{o:Nat}{w c:ax}{l:Int}(Z:(Yc o 32++(bC s++(w++c))).length<=16777216) (h1:g_ s) (h2:fw Xb s) (J:w.all j8) (M:c=[] \/ ∃U,c=35::U) (hs:s.length<=1000)
  (q:∀e,Q (.lst ((gK l o s).map kJ++[EN l e])) H):CL u (n+6) 69 [.str (Yc o 32++(bC s++(w++c))),.int l] H Q X:=by
 have O:(Yc o 32).all j8:=by rw[XM];intro x m;rw[(List.mem_replicate.mp m).2];rfl
 have Y:Nt (w++c):=by
  induction w using Xn with|nil=>
   rcases M with rfl|⟨U,rfl⟩ <;>rfl|cons x w=>
   have V:j8 x:=(aH J).1;exact RZ V
 have e:=HB (l:=l) (s:=s) (b:=Yc o 32) (o:=0);rw[Zg,X7]at e;have et:Yc o 32++(bC s++(w++c))=yJ (jx (Yc o 32) s).1 ((jx (Yc o 32) s).2++w++c):=by rw[Xf,wm]
 refine c69 K (m:=(jx (Yc o 32) s).1) (w:=(jx (Yc o 32) s).2++w) (s:=c) et Z ?_ (XM.mp (by rw[YI,pj O,J];rfl)) M (Xa l_ hs) λe'=>?_
 .rw[Xf];exact HC Y h1 h2 O
 .have q:=q e';rw[<-e]at q;exact q
variable{l:Int}{o:Nat}
def bt (g:GS)(l:Int)(o:Nat)(s:bV):aP:=(gK l o s).map (pJ g)
theorem dU{a b:bV}:bt g l o (a++b)=bt g l o a++bt g l (o+(bC a).length) b:=by unfold bt;rw[gY,XQ]
theorem Wx{k:Bool}{m:Nat}:sEq (dR k m) "."=Xb:=by unfold dR;rw[<-gW];cases k<;>rfl
theorem Gm{a:Nat}(h:a∈kN):sEq [a] "."=Xb:=(by decide:∀c∈kN,sEq [c] "."=Xb) a h
theorem uW{a:Nat}(h:a∈kj):sEq [a] "."=Xb:=(by decide:∀c∈kj,sEq [c] "."=Xb) a h
theorem fZ{s:Sm}(h:s.ok):jB (bt g l o s.bb) (s.x g):=by induction s with|num n=>exact⟨_,rfl,_,_,rfl⟩|chr=>exact⟨_,rfl,_,_,rfl⟩|sn m a n=>cases m<;>exact⟨_,_,_,rfl,⟨Gm h.1,_,rfl⟩,⟨_,rfl⟩,⟨_,_,rfl⟩⟩|dn c=>exact⟨_,_,_,rfl,⟨_,rfl⟩,⟨_,rfl⟩,⟨uW h,_,rfl⟩⟩|dp n=>exact⟨_,_,_,rfl,⟨_,rfl⟩,⟨_,rfl⟩,⟨_,_,rfl⟩⟩|lo k f=>exact⟨_,rfl,Wx,_,by cases f<;>rfl⟩|df a b=>exact⟨_,_,_,rfl,⟨uW h.1,_,rfl⟩,⟨_,rfl⟩,⟨uW h.2,_,rfl⟩⟩
inductive acZ(g:GS)(l:Int)(o:Nat)(sep:bV):Prop|mk(t)(e:bt g l o sep=[t])(h:j3 44 t)
def qL(sep:bV):Prop:=∀(g:GS)(l:Int)(o:Nat),acZ g l o sep
theorem UC:qL bk:=λW W W=>⟨_,rfl,_,rfl⟩
theorem Lz:qL br:=λW W W=>⟨_,rfl,_,rfl⟩
theorem GN (hs:qL sep):∀{ss:List Sm}{o:Nat},(∀s∈ss,Sm.ok s)-> ∃L:List (V×Ex×aP),(∀r,bt g l o (jt sep ss)++r=km L r)/\(∀y∈L,j3 44 y.1/\jB y.2.2 y.2.1)/\L.map (λW=>W.2.1)=xs g ss/\L.length=ss.length:=by
 intro ss;induction ss with|nil=>
  intro _ _;exact⟨[],λW=>rfl,λW m=>W5 m XX,rfl,rfl⟩|cons s ss ih=>
  intro o h;obtain⟨t,e,e2⟩:=hs g l o;obtain⟨L,h1,h2,h3,h4⟩:=ih (o:=o+(bC sep).length+(bC s.bb).length) λs m=>h s (.tail _ m);refine⟨(t,s.x g,bt g l (o+(bC sep).length) s.bb)::L,λr=>?_,λy m=>?_,WX (s.x g::·) h3,WX (λW=>W+1) h4⟩
  .show bt g l o (sep++(s.bb++jt sep ss))++r=t::(bt g l (o+(bC sep).length) s.bb++km L r);rw[dU,dU,e,<-h1,Xf,Xf];rfl
  .rcases Xv.mp m with rfl|m
   .exact⟨e2,fZ (h s (.head _))⟩
   .exact h2 y m
inductive Sp (g:GS)(l:Int)(o:Nat)(sep:bV)(s:Sm)(ss:List Sm):Prop|mk (L:List (V×Ex×aP))(h0:(∀r,bt g l o (cG sep (s::ss))++r=bt g l o s.bb++km L r))(h1:(∀y∈L,j3 44 y.1/\jB y.2.2 y.2.1))(h2:s.x g::L.map (λW=>W.2.1)=xs g (s::ss))(h3:L.length=ss.length)
theorem lL (hs:qL sep){s:Sm}(h:∀y∈s::ss,Sm.ok y):Sp g l o sep s ss:=by obtain⟨L,h1,h2,h3,h4⟩:=GN (g:=g) (l:=l) hs (ss:=ss) (o:=o+(bC s.bb).length) λs m=>h s (.tail _ m);refine⟨L,λr=>?_,h2,WX (s.x g::·) h3,h4⟩;show bt g l o (s.bb++jt sep ss)++r=_;rw[dU,Xf,h1]
variable{g':GS}{A:RA}{rows:aP}{D:List (Int×V)}{tk v p':V}{k kw:ax}{r R:aP}{w:ax}{a:Addr}
inductive SU(ts:aP):Prop|mk(k2 w2 v2 p2 ts')(h0:ts=TK k2 w2 v2 p2::ts')(h1:sEq k2 "sign"=Xb)
theorem HK{ts:aP}{x:Ex}(h:jB ts x):SU ts:=by
 have key:∀{t:V}{y:At},JS t y-> ∃k2 w2 v2 p2,t=TK k2 w2 v2 p2/\sEq k2 "sign"=Xb:=λ{t y}h=>by induction y with|num v=>obtain⟨w,p,rfl⟩:=h;exact⟨_,_,_,_,rfl,rfl⟩|dot=>obtain⟨p,rfl⟩:=h;exact⟨_,_,_,_,rfl,rfl⟩|sym w=>obtain⟨-,p,rfl⟩:=h;exact⟨_,_,_,_,rfl,rfl⟩
 induction x with|«at» y=>
  obtain⟨t,rfl,h⟩:=h;obtain⟨_,_,_,_,rfl,e⟩:=key h;exact⟨_,_,_,_,_,rfl,e⟩|bin m y z=>
  obtain⟨t,s,J,rfl,h,-,-⟩:=h;obtain⟨_,_,_,_,rfl,e⟩:=key h;exact⟨_,_,_,_,_,rfl,e⟩
def Ud(R:aP):Prop:= ∃k2 w2 v2 p2 R',R=TK k2 w2 v2 p2::R'/\(sEq k2 "sign"&&sEq w2 "=")=Xb
theorem nD{ts:aP}{x:Ex}(h:jB ts x):Ud (ts++R):=by obtain⟨_,_,_,_,_,rfl,e⟩:=HK h;exact⟨_,_,_,_,_,rfl,by rw[e];rfl⟩
theorem gH (e:sEq k "sign"=Xb):Ud (TK k kw v p'::r):=⟨_,_,_,_,_,rfl,by rw[e];rfl⟩
theorem gp (K:aL u){w':ax}(M:w=46::w') (h2:Ud R) (J:(HT w p::R).length<=16777216)
  (dd:∀{a Q' X'},Tl (HT w p::R) 1 R->dQ k p' A g' rows D a (HT w p::R) Q' X' H->CL u (n+11) 107 [.ref A.s,HT w p,.ref a] (bD A g rows D (CU a (HT w p::R) 1::H)) Q' X')
  (q:eI k p' (Q .none (bD A g' rows D H)) X H):eh u (n+11) Q X A tk (HT w p::R) (bD A g rows D H):=by
 obtain⟨_,_,_,_,_,rfl,e⟩:=h2;subst M;exact K1 (n:=n+1) K J e (λq=>dd (Tl.zero J).next q) q
theorem pE (K:aL u){w':ax}{e:V}(M:w=46::w') (h2:Ud R) (J:(HT w p::R).length<=16777216)
  (dd:∀{a Q' X'},Tl (HT w p::R) 1 R->(∀m E,X' (2,[(2,m),(3,e)]) (E++H))->CL u (n+11) 107 [.ref A.s,HT w p,.ref a] (bD A g rows D (CU a (HT w p::R) 1::H)) Q' X')
  (q:∀m E,X (2,[(2,m),(3,e)]) (E++H)):eh u (n+11) Q X A tk (HT w p::R) (bD A g rows D H):=by
 obtain⟨_,_,_,_,_,rfl,e⟩:=h2;subst M;exact Fx (n:=n+1) K J e (λq=>dd (Tl.zero J).next q) q
structure JJ(k:ax):Prop where
 s:sEq k "sign"=Xb
 n:sEq k "name"=Xb
noncomputable def cI(l:Int)(o:Nat):Pt:=⟨l,(o:Int)+1⟩
theorem pD{ws:List ax}(h:ws.all (λw=>match w with|c::_=>XI c 46|[]=>Xb)=Xg)(m:w∈ws):∃w',w=46::w':=by have:=allM h m;induction w using Xn with|nil=>exact ff this|cons c w=>exact⟨w,by rw[XJ this]⟩
theorem Dr (K:aL u) (Y:(Bd.lst w ss).ok) (ke:JJ k) (Z:GB g 700) (V:(bt g l o (Bd.lst w ss).bb++TK k kw v p'::r).length<=16777216)
  (q:eI k p' (Q .none (bD A ((Bd.lst w ss).step (cI l o) g) rows D H)) X H):eh u (n+11) Q X A tk (bt g l o (Bd.lst w ss).bb++TK k kw v p'::r) (bD A g rows D H):=by
 obtain⟨O,ok,⟨s,J,rfl⟩,U⟩:=Y;obtain⟨w',ew⟩:=pD (by decide) O;obtain⟨L,h1,h2,h3,h4⟩:=lL (g:=g) (l:=l) (o:=o+(bC (cZ w)).length) UC ok;have e:bt g l o (Bd.lst w (s::J)).bb++TK k kw v p'::r=HT w (cI l o)::(bt g l (o+(bC (cZ w)).length) s.bb++km L (TK k kw v p'::r)):=by show bt g l o (cZ w++cG bk (s::J))++_=_;rw[dU,Xf,h1];rfl
 have M:=fZ (g:=g) (l:=l) (o:=o+(bC (cZ w)).length) (ok s (.head _));rw[e]at V⊢;have q:eI k p' (Q .none (bD A (ko w (cI l o) g (xs g (s::J))) rows D H)) X H:=q;rw[<-h3]at q;refine gp K ew (nD M) V (λt q=>RM K O t M h2 ke.s Z ?_ q) q;rw[h4];rw[Xq]at U;exact bB (Xm (Xh 700) (c7 U)) rfl
theorem D_:∀y∈xE,(qV y.1=qW 7/\FN (aN y.1 pO) (aN y.1 pN) (sEq y.1 ".fill")=y.2)/\(aN y.1 pO||(aN y.1 pN||sEq y.1 ".fill")):=by decide+kernel
theorem Ii:xE.all (λy=>match y.1 with|c::_=>XI c 46|[]=>Xb)=Xg:=by decide
theorem PO{y:ax×Nat}(m:y∈xE):∃w',y.1=46::w':=by have h:=allM Ii m;obtain⟨w,k⟩:=y;induction w using Xn with|nil=>exact ff h|cons c w=>exact⟨w,by rw[XJ h]⟩
theorem Dq (K:aL u) (Z:(Bd.iJ w c ss).ok) (M:gB c ss) (ke:JJ k) (gb:GB g 700) (Y:(bt g l o (Bd.iJ w c ss).bb++TK k kw v p'::r).length<=16777216)
  (q:eI k p' (Q .none (bD A ((Bd.iJ w c ss).step (cI l o) g) rows D H)) X H):eh u (n+11) Q X A tk (bt g l o (Bd.iJ w c ss).bb++TK k kw v p'::r) (bD A g rows D H):=by
 obtain⟨U,ok,V⟩:=Z;obtain⟨w',ew⟩:=PO U;obtain⟨⟨d1,d2⟩,d3⟩:=D_ _ U;induction ss using Xn with|nil=>exact ff M|cons s J=>
  obtain⟨L,h1,h2,h3,h4⟩:=lL (g:=g) (l:=l) (o:=o+(bC (cZ w)).length) Lz ok;have e:bt g l o (Bd.iJ w c (s::J)).bb++TK k kw v p'::r=HT w (cI l o)::(bt g l (o+(bC (cZ w)).length) s.bb++km L (TK k kw v p'::r)):=by show bt g l o (cZ w++cG br (s::J))++_=_;rw[dU,Xf,h1];rfl
  have O:=fZ (g:=g) (l:=l) (o:=o+(bC (cZ w)).length) (ok s (.head _));rw[e]at Y⊢;have q:eI k p' (Q .none (bD A (match gB c (s::J)with|true=>(g.pn (xs g (s::J)) (cI l o)).put (.bF w ((ik g (xs g (s::J))).map .e) (cI l o))|false=>g) rows D H)) X H:=q;rw[M,<-h3]at q;have hk:XU (L.length+1) (FN (aN w pO) (aN w pN) (sEq w ".fill")):=by rw[d2,h4];exact M
  refine gp K (g':=(g.pn (s.x g::L.map (λW=>W.2.1)) (cI l o)).put (.bF w ((ik g (s.x g::L.map (λW=>W.2.1))).map .e) (cI l o))) ew (nD O) Y (λt q=>Ek K d1 cS cS rfl d3 t O h2 ke.s (gb.mono ll) (by rw[h4];rw[Xq]at V;exact Us V rfl) ?_) q;rw[hk];exact q
theorem Oo (K:aL u) (hb:(Bd.iJ w c ss).ok) (hz:gB c ss=Xb) (Y:GB g 700) (M:(bt g l o (Bd.iJ w c ss).bb++TK "end" kw v p'::r).length<=16777216)
  (q:xP X H 2 (cI l o)):eh u (n+11) Q X A tk (bt g l o (Bd.iJ w c ss).bb++TK "end" kw v p'::r) (bD A g rows D H):=by
 obtain⟨U,ok,V⟩:=hb;obtain⟨w',Z⟩:=PO U;obtain⟨⟨d1,d2⟩,d3⟩:=D_ _ U;induction ss using Xn with|nil=>exact pE K (R:=TK "end" kw v p'::r) (p:=cI l o) Z (gH rfl) M (λt q=>IX K d1 cS cS rfl d3 t (Y.mono ll) q) q|cons s J=>
  obtain⟨L,h1,h2,h3,h4⟩:=lL (g:=g) (l:=l) (o:=o+(bC (cZ w)).length) Lz ok;have e:bt g l o (Bd.iJ w c (s::J)).bb++TK "end" kw v p'::r=HT w (cI l o)::(bt g l (o+(bC (cZ w)).length) s.bb++km L (TK "end" kw v p'::r)):=by show bt g l o (cZ w++cG br (s::J))++_=_;rw[dU,Xf,h1];rfl
  have O:=fZ (g:=g) (l:=l) (o:=o+(bC (cZ w)).length) (ok s (.head _));rw[e]at M⊢;have hk:XU (L.length+1) (FN (aN w pO) (aN w pN) (sEq w ".fill"))=Xb:=by rw[d2,h4];exact hz
  refine pE K Z (nD O) M (λt q=>Ek K d1 cS cS rfl d3 t O h2 rfl (Y.mono ll) (by rw[h4];rw[Xq]at V;exact Us V rfl) ?_) q;rw[hk];exact q
theorem Ot (K:aL u){s:Sm}(hs:s.ok) (O:GB g 700) (M:(bt g l o (Bd.bad s).bb++TK "end" kw v p'::r).length<=16777216)
  (q:xP X H 2 (cI l o)):eh u (n+11) Q X A tk (bt g l o (Bd.bad s).bb++TK "end" kw v p'::r) (bD A g rows D H):=by
 have e:bt g l o (Bd.bad s).bb++TK "end" kw v p'::r=HT nJ (cI l o)::(bt g l (o+7) s.bb++km (α:=Ex) [] (TK "end" kw v p'::r)):=by show bt g l o (cZ nJ++s.bb)++_=_;rw[dU,Xf];rfl
 have J:=fZ (g:=g) (l:=l) (o:=o+7) hs;rw[e]at M⊢;exact pE K (w':="longs") rfl (nD J) M (λt q=>RK K (l:=[]) (by decide+kernel) (by rw[cS];decide) (by rw[cS];decide) (by decide) ll t J (λW m=>W5 m XX) rfl ll q) q
theorem FA{a:Nat}(h:a∈jF):oY [a]:=(by decide+kernel:∀c∈jF,oY [c]=Xg) a h
theorem Ds (K:aL u){s:Sm}(Y:(Bd.gZ h nm s).ok) (ke:JJ k) (V:GB g 700) (J:(bt g l o (Bd.gZ h nm s).bb++TK k kw v p'::r).length<=16777216)
  (q:eI k p' (Q .none (bD A ((Bd.gZ h nm s).step (cI l o) g) rows D H)) X H):eh u (n+12) Q X A tk (bt g l o (Bd.gZ h nm s).bb++TK k kw v p'::r) (bD A g rows D H):=by
 obtain⟨hh,hs⟩:=Y;have q:eI k p' (Q .none (bD A (fP nm (s.x g) (cI l o) g) rows D H)) X H:=q;rcases hh with⟨w,O,a,U,rfl,rfl⟩|⟨a,U,rfl,rfl⟩
 .obtain⟨w',Z⟩:=pD (by decide) O;have e:bt g l o (Bd.gZ [W_ (.nm w),Xk,W_ (.nm [a]),W_ (.sg 44)] [a] s).bb++TK k kw v p'::r=HT w (cI l o)::(bt g l o [W_ (.nm w),Xk,W_ (.nm [a]),W_ (.sg 44)]).tail++(bt g l (o+(bC [W_ (.nm w),Xk,W_ (.nm [a]),W_ (.sg 44)]).length) s.bb++TK k kw v p'::r):=by show bt g l o ([W_ (.nm w),Xk,W_ (.nm [a]),W_ (.sg 44)]++s.bb)++_=_;rw[dU,Xf];rfl
  have M:=fZ (g:=g) (l:=l) (o:=o+(bC [W_ (.nm w),Xk,W_ (.nm [a]),W_ (.sg 44)]).length) hs;rw[e]at J⊢;exact gp (n:=n+1) K Z (gH rfl) J (λt q=>RO K (gQ.1 _ O) t ⟨_,rfl⟩ (FA U) ⟨_,rfl⟩ M ke.s (V.mono ll) q) q
 .have e:bt g l o (Bd.gZ [W_ (.nm [a]),Xk,W_ (.sg 61),Xk] [a] s).bb++TK k kw v p'::r=HT [a] (cI l o)::(bt g l o [W_ (.nm [a]),Xk,W_ (.sg 61),Xk]).tail++(bt g l (o+4) s.bb++TK k kw v p'::r):=by show bt g l o ([W_ (.nm [a]),Xk,W_ (.sg 61),Xk]++s.bb)++_=_;rw[dU,Xf];rfl
  have M:=fZ (g:=g) (l:=l) (o:=o+4) hs;rw[e]at J⊢;exact KZ (n:=n) K J ⟨_,rfl⟩ M ke.s (V.mono ll) q
theorem v_ (K:aL u){s:Sm}(hs:s.ok) (O:GB g 700) (M:rows.length<=1000) (J:(bt g l o (Bd.code s).bb++TK k kw v p'::r).length<=16777216)
  (q:∀a,Q .none (bD A (g.put (.code (cI l o))) (rows++[.tup [.int g.st.length,.ref a,.int g.eO,(cI l o).obj]]) D (CU a (bt g l o (Bd.code s).bb++TK k kw v p'::r) 0::H))):eh u (n+11) Q X A tk (bt g l o (Bd.code s).bb++TK k kw v p'::r) (bD A g rows D H):=by
 have e:bt g l o (Bd.code s).bb++TK k kw v p'::r=HT nT (cI l o)::(bt g l (o+3) s.bb++TK k kw v p'::r):=by show bt g l o (cZ nT++s.bb)++_=_;rw[dU,Xf];rfl
 obtain⟨k2,w2,v2,p2,R,e2,U⟩:=nD (R:=TK k kw v p'::r) (fZ (g:=g) (l:=l) (o:=o+3) hs);rw[e,e2]at J q⊢;exact K2 (n:=n+1) (c:=103) K rfl J U (O.mono ll) M q
def Uy(l:Int) (o:Nat) (e:Int):aP:=[TK "number" "7" (.int 7) (Pt.obj ⟨l,(o:Int)+1+1⟩),EN l e]
theorem Hg (K:aL u){e:Int}(q:Q .none (bD A g rows D H)):eh u (n+11) Q X A tk [EN l e] (bD A g rows D H):=K0 (n:=n+4) K q
theorem Hf (K:aL u){e:Int}(q:xP X H 2 ⟨l,(o:Int)+1+1⟩):eh u (n+11) Q X A tk (Uy l o e) (bD A g rows D H):=KY (n:=n+4) K ll rfl rfl q
variable{y:V}
theorem Oq (K:aL u){s:bV}(V:A.rd=.lst [y,z]) (U:yu s f) (ke:JJ k) (Y:GB g 700) (e:(bt g l o s++TK k kw v p'::r).length<=16777216)
  (q:eI k p' (Q .none (bD A (f (cI l o) g) rows D H)) X H):eh u (n+11) Q X A tk (bt g l o s++TK k kw v p'::r) (bD A g rows D H):=by
 have gs:GB g 1000:=Y.mono ll;induction U with
 |sy y h=>
  have i1:(bt g l o [W_ (.nm wj),Xk,W_ (.nm nB)]++TK k kw v p'::r).length<=16777216->eI k p' (Q .none (bD A (g.sy 1) rows D H)) X H->eh u (n+11) Q X A tk (bt g l o [W_ (.nm wj),Xk,W_ (.nm nB)]++TK k kw v p'::r) (bD A g rows D H):=λe q=>gp K (R:=TK "name" nB (.str nB) (Pt.obj ⟨l,((o+13+1:Nat):Int)+1⟩)::TK k kw v p'::r) (p:=cI l o) (w:=wj) rfl (gH rfl) e (λt q=>RN K V t ⟨_,rfl⟩ q) q
  simp only[oq,Xv,YA,or_false]at h;rcases h with rfl|rfl|rfl|rfl
  .exact gp K (R:=TK k kw v p'::r) (p:=cI l o) (w:=Ci) rfl (gH ke.s) e (λt q=>IZ K t ke.n q) q
  .exact i1 e q
  .exact gp K (R:=TK "name" uV (.str uV) (Pt.obj ⟨l,((o+11+1:Nat):Int)+1⟩)::TK k kw v p'::r) (p:=cI l o) (w:=Ci) rfl (gH rfl) e (λt q=>IY K t ⟨_,rfl⟩ q) q
  .exact i1 e q|wd y h=>
  simp only[CB,Xv,YA,or_false]at h;rcases h with rfl|rfl|rfl|rfl|rfl
  .exact gp K (R:=TK k kw v p'::r) (p:=cI l o) rfl (gH ke.s) e (λt q=>El K (by decide) t gs q) q
  .exact gp K (R:=TK k kw v p'::r) (p:=cI l o) rfl (gH ke.s) e (λt q=>El K (by decide) t gs q) q
  .exact gp K (R:=TK "name" ".a$1" (.str ".a$1") (Pt.obj ⟨l,((o+9:Nat):Int)+1⟩)::TK k kw v p'::r) (p:=cI l o) (w:=FZ) rfl (gH rfl) e (λt q=>RP K t ⟨_,rfl⟩ (by decide+kernel) gs q) q
  .exact gp K (R:=TK "name" "p" (.str "p") (Pt.obj ⟨l,((o+7:Nat):Int)+1⟩)::TK k kw v p'::r) (p:=cI l o) (w:=r0) rfl (gH rfl) e (λt q=>En K (l:=[]) (by decide) t ⟨⟨_,rfl⟩,by decide+kernel⟩ (λW m=>W5 m XX) ke.s ll gs q) q
  .let sg:=λi:Nat=>TK "sign" "," (.str ",") (Pt.obj ⟨l,((o+i:Nat):Int)+1⟩);let nm:=λ(c i:Nat)=>TK "name" [c] (.str [c]) (Pt.obj ⟨l,((o+i:Nat):Int)+1⟩);refine gp K (R:=nm 113 7::km [(sg 9,"z",[nm 122 11]),(sg 12,"u",[nm 117 13])] (TK k kw v p'::r)) (p:=cI l o) (w:=r0) rfl (gH rfl) e (λt q=>En K (by decide) t ⟨⟨_,rfl⟩,by decide+kernel⟩ (λy m=>?_) ke.s ll gs q) q;simp only[Xv,YA,or_false]at m;rcases m with rfl|rfl
   .exact⟨⟨_,rfl⟩,(by decide+kernel:oY "z"=Xg),_,rfl,_,rfl⟩
   .exact⟨⟨_,rfl⟩,(by decide+kernel:oY "u"=Xg),_,rfl,_,rfl⟩|tx w O M h h1 h2=>
  obtain⟨w',Z⟩:=pD (by decide) h;have J:∀{s},s∈sR->(∀c∈js s,c<=255)/\(js s).length<=100:=λm=>by have:=allM (show sR.all (λs=>(js s).all (λc=>XU c 255)&&XU (js s).length 100)=Xg from by decide) m;obtain⟨a,b⟩:=aH this;exact⟨λc m=>Xi (allM a m),Xi b⟩
  exact gp K (R:=(bt g l o (K8 w O M)).tail++TK k kw v p'::r) (p:=cI l o) Z (gH rfl) e (λt q=>RL K h t ⟨_,_,rfl⟩ ⟨_,rfl⟩ ⟨_,_,rfl⟩ ke.s (J h1) (J h2) gs q) q
noncomputable def cT:Nat->List Lb->bV|_,[]=>[]|j,x::s=>iQ j x++cT (j+1) s
noncomputable def nM (l:Int):Nat->Nat->List Lb->List (Lb×Pt×V)|_,_,[]=>[]|o,j,x::s=>(x,⟨l,(o:Int)+1⟩,Pt.obj ⟨l,((o+x.lx.tx.length:Nat):Int)+1⟩)::nM l (o+(bC (iQ j x)).length) (j+1) s
theorem Ha{s:bV}{en:aP}:∀{xs:List Lb}{j o:Nat},(gK l o (cT j xs++s)).map kJ++en=l9 (nM l o j xs) ((gK l (o+(bC (cT j xs)).length) s).map kJ++en):=by
 intro xs;induction xs with
 |nil=>
  intro _ _;exact rfl|cons x xs ih=>
  intro j o;show(gK l o (iQ j x++cT (j+1) xs++s)).map kJ++en=x.lx.tk _::(Lx.sg 58).tk _::l9 (nM l (o+(bC (iQ j x)).length) (j+1) xs) ((gK l (o+(bC (iQ j x++cT (j+1) xs)).length) s).map kJ++en);rw[Xf,gY,XQ,Xf,ih,cB,Xc,X_];cases j<;>rfl
theorem jT:∀{xs:List Lb}{j:Nat}{L:LS},L.aM j xs=⟨L.rows,L.cur++bC (cT j xs),Internal.aM L.g (nM (L.rows.length+1:Nat) L.cur.length j xs),L.tr⟩:=by
 intro xs;induction xs with|nil=>
  intro j L;show L=⟨L.rows,L.cur++[],L.g,L.tr⟩;rw[Xr]|cons x xs ih=>
  intro j L;have e:L.dm j x=⟨L.rows,L.cur++bC (iQ j x),ji L.g (x,L.pl),L.tr⟩:=by unfold LS.dm;rw[Ol,Xf,show bC (iQ j x)=x.lx.tx++lM j from by cases j<;>rfl];rfl
  show(L.dm j x).aM (j+1) xs=_;rw[ih,e];show LS.mk L.rows (L.cur++bC (iQ j x)++bC (cT (j+1) xs)) (Internal.aM (ji L.g (x,L.pl)) (nM _ (L.cur++bC (iQ j x)).length (j+1) xs)) L.tr=LS.mk L.rows (L.cur++bC (iQ j x++cT (j+1) xs)) (Internal.aM (ji L.g (x,L.pl)) (nM _ (L.cur.length+(bC (iQ j x)).length) (j+1) xs)) L.tr;rw[Xf,<-cB,Xc]
theorem vX:∀{xs:List Lb}{o j:Nat},(nM l o j xs).length=xs.length:=by
 intro xs;induction xs with
 |nil=>
  intro _ _;exact rfl|cons _x xs ih=>
  intro _ _;exact WX (λW=>W+1) ih
theorem Au:∀{xs:List Lb}{o j:Nat},(∀x∈xs,x∈pf)-> ∀y∈nM l o j xs,y.1.ok:=by
 intro xs;induction xs with|nil=>exact λW W m=>W5 m XX|cons x xs ih=>
  intro o j h y m;rcases Xv.mp m with rfl|m
  .exact(show ∀x∈pf,x.ok=Xg from XM.mp (by decide)) x (h x (.head _))
  .exact ih (λx m=>h x (.tail _ m)) y m
def iK(b:Bd)(sv:Bool):bV:=match b.ref,sv with|false,Xg=>iN|_,_=>[]
def kp(x:gq):bV:=cT 0 x.bM++(x.bd.bb++iK x.bd x.sv)
noncomputable def fh(s:bV):List Lx:=s.filterMap id
noncomputable def oZ:List Lx->Bool|_:: .sg c::_=>!XI c 58|_=>Xg
noncomputable def Qz:Lx->Bool|.sg c=>XI c 58|_=>Xb
inductive acB(p:V)(x:Lx):Prop|mk(k w v:_)(h0:x.tk p=TK k w v p)(h1:(sEq k "sign"&&sEq w ":")=Qz x)
theorem tP(p:V)(x:Lx):acB p x:=by induction x with|sg c=>exact⟨_,_,_,rfl,jK c 58⟩|_=>exact⟨_,_,_,rfl,rfl⟩
theorem Aj{x y:Lx}{l:List Lx}(h:oZ (x::y::l)):Qz y=Xb:=by induction y with|sg c=>exact(XR _).mp h|_=>rfl
theorem Ai{e:Int}:∀{ws:List (Lx×Pt)},oZ (ws.map (λW=>W.1))->vh (ws.map kJ++[EN l e])
 |[],_=>.inl ⟨_,_,_,_,rfl⟩|[x],_=>by
  obtain⟨k,w,v,e,-⟩:=tP x.2.obj x.1;exact .inr ⟨k,w,v,_,_,_,_,_,[],WX (λW=>W::_) e,rfl⟩|x::y::ws,h=>by
  obtain⟨k,w,v,J,-⟩:=tP x.2.obj x.1;obtain⟨k2,w2,v2,e2,h2⟩:=tP y.2.obj y.1;exact .inr ⟨k,w,v,_,k2,w2,v2,_,_,(WX (λW=>W::kJ y::_) J).trans (WX (_::· ::_) e2),h2.trans (Aj h)⟩
theorem we:∀{s:bV}{o:Nat},(gK l o s).map (λW=>W.1)=fh s|[],_=>rfl|none::s,o=>we (s:=s)|some x::s,o=>WX (x::·) we
theorem lE{a b:bV}:fh (a++b)=fh a++fh b:=List.filterMap_append
inductive SmW(s:Sm):Prop|mk(x r:_)(h0:fh s.bb=x::r)(h1:∀c,x≠.sg c)
theorem Lq{s:Sm}:SmW s:=by induction s with|sn m a n=>cases m<;>exact⟨_,_,rfl,λc e=>nomatch e⟩|_=>exact⟨_,_,rfl,λc e=>nomatch e⟩
theorem Ts{x y:Lx}{r:List Lx}(h:∀c,y≠.sg c):oZ (x::y::r):=by induction y with|sg c=>exact W5 rfl (h c)|_=>rfl
theorem C3{t:bV}(h:fh t=[] \/ ∃y,(∀c,y≠.sg c)/\fh t=[y]):oZ (fh (cZ w++cG sep ss++t)):=by
 rw[lE,lE];induction ss using Xn with
 |nil=>
  rcases h with h|⟨y,J,h⟩
  .rw[h];rfl
  .rw[h];exact Ts J|cons s ss=>
  obtain⟨x,r,e,K⟩:=Lq (s:=s);show oZ ([Lx.nm w]++fh (s.bb++jt sep ss)++fh t);rw[lE,e];exact Ts K
def Uv(t:bV):Prop:=fh t=[] \/ ∃y,(∀c,y≠.sg c)/\fh t=[y]
variable{sv:Bool}
theorem Lg{b:Bd}:Uv (iK b sv):=by unfold iK;induction b.ref with|true=>exact .inl rfl|false=>induction sv with|true=>exact .inr ⟨.nu "7" 7,(λc e=>nomatch e),rfl⟩|false=>exact .inl rfl
theorem GA{x:Lx}{t:bV}(h:Uv t):oZ (x::fh t):=by
 rcases h with h|⟨y,e,h⟩
 .rw[h];rfl
 .rw[h];exact Ts e
theorem Nz{s:Sm}{w:Lx}{t:bV}:oZ (w::fh (s.bb++t)):=by obtain⟨x,r,e,J⟩:=Lq (s:=s);rw[lE,e];exact Ts J
theorem NA{b:Bd}{t:bV}(J:b.ok)(h:Uv t):oZ (fh (b.bb++t)):=by
 induction b with
 |no=>
  rcases h with h|⟨y,e,h⟩
  .show oZ (fh t)=Xg;rw[h];rfl
  .show oZ (fh t)=Xg;rw[h];rfl|lst w ss=>exact C3 h|iJ w k ss=>exact C3 h|code s=>
  show oZ (fh (cZ nT++s.bb++t));rw[Xf];exact Nz|bad s=>
  show oZ (fh (cZ nJ++s.bb++t));rw[Xf];exact Nz|gZ hh nm s=>
  show oZ (fh (hh++s.bb++t));rcases J.1 with⟨w,-,a,-,rfl,-⟩|⟨a,-,rfl,-⟩ <;>rfl|pl s f=>
  show oZ (fh (s++t));induction J with
  |sy y e=>
   simp only[oq,Xv,YA,or_false]at e
   rcases e with rfl|rfl|rfl|rfl
   .exact GA h
   .rfl
   .rfl
   .rfl|wd y e=>
   simp only[CB,Xv,YA,or_false]at e;rcases e with rfl|rfl|rfl|rfl|rfl
   .exact GA h
   .exact GA h
   .rfl
   .rfl
   .rfl|tx w M K=>rfl
noncomputable def bN(b:Bool):Nat:=match b with|true=>3|false=>2
def sH (g:GS)(l:Int)(o:Nat)(b:Bd)(sv:Bool)(e:Int):aP:=bt g l o (b.bb++iK b sv)++[EN l e]
theorem yl{b:Bd}{e:Int}:sH g l o b sv e=bt g l o b.bb++(match b.ref,sv with|false,Xg=>Uy l (o+(bC b.bb).length) e|_,_=>[EN l e]):=by unfold sH iK;rw[dU,Xf];cases b.ref<;>cases sv<;>rfl
def jO(r c s:Bool)(a b d e:Prop):Prop:=match r,c,s with|true,_,_=>a|false,Xb,Xg=>b|false,Xb,Xb=>d|false,Xg,_=>e
theorem I9 (K:aL u){b:Bd}{e:Int}{tk:V}(Y:A.rd=.lst [y,z]) (M:b.ok) (hC:b.i9=Xb) (O:GB g 700) (J:(sH g l o b sv e).length<=16777216)
  (q:jO b.ref Xb sv (xP X H 2 (cI l o)) (xP X H 2 ⟨l,((o+(bC b.bb).length:Nat):Int)+1+1⟩) (Q .none (bD A (b.step (cI l o) g) rows D H)) True):eh u (n+12) Q X A tk (sH g l o b sv e) (bD A g rows D H):=by
 rw[yl]at J⊢;have t1:JJ "end" :=⟨rfl,rfl⟩;have t2:JJ "number" :=⟨rfl,rfl⟩;induction b with
 |code=>exact ft hC
 |no=>induction sv with
  |true=>exact Hf (n:=n+1) K q
  |false=>exact Hg (n:=n+1) K q
 |lst w ss=>induction sv with
  |true=>exact Dr (n:=n+1) K M t2 O J q
  |false=>exact Dr (n:=n+1) K M t1 O J q
 |gZ h nm s=>induction sv with
  |true=>exact Ds K M t2 O J q
  |false=>exact Ds K M t1 O J q
 |pl s f=>induction sv with
  |true=>exact Oq (n:=n+1) K Y M t2 O J q
  |false=>exact Oq (n:=n+1) K Y M t1 O J q
 |bad s=>exact Ot (n:=n+1) K M O J q
 |iJ w k ss=>
  revert q J;generalize U:gB k ss=Z;induction Z with|false=>
   rw[show(Bd.iJ w k ss).ref=Xg from nt U];exact λJ q=>Oo (n:=n+1) K M U O J q|true=>
   rw[show(Bd.iJ w k ss).ref=Xb from nf U];induction sv with|true=>exact λJ q=>Dq (n:=n+1) K M U t2 O J q|false=>exact λJ q=>Dq (n:=n+1) K M U t1 O J q
def LS.t0 (L:LS)(x:gq):List Pt:=fF (L.aM 0 x.bM).g ((L.aM 0 x.bM).ws x.bd.bb)
def LS.mV (L:LS) (x:gq) (e:Int) (a:Addr):gi:=⟨⟨(L.aM 0 x.bM).g.st.length,(match x.bd with|.code s=>s.x (L.aM 0 x.bM).g|_=>.at .dot),(L.aM 0 x.bM).g.eO,(L.aM 0 x.bM).pl,match x.sv with|true=>W_ ((L.aM 0 x.bM).body x.bd).p7|false=>Xk⟩,a,sH ((L.aM 0 x.bM).add x.bd.bb).g (L.rows.length+1:Nat) (L.aM 0 x.bM).cur.length x.bd x.sv e⟩
def Dm (A:RA) (Q:V->Hp->Prop) (X:di->Hp->Prop) (H:Hp) (rows:aP) (L:LS) (x:gq) (e:Int):Prop:=match L.t0 x with
 |p::_=>xP X H 3 p|[]=>jO x.bd.ref x.bd.i9 x.sv (xP X H 2 (L.aM 0 x.bM).pl) (xP X H 2 ((L.aM 0 x.bM).body x.bd).p7)
  (∀D',cE D' (L.aM 0 x.bM).g.c1 (L.aM 0 x.bM).g.c2->Q .none (bD A ((L.aM 0 x.bM).body x.bd).g rows D' H))
  (∀D' a,cE D' (L.aM 0 x.bM).g.c1 (L.aM 0 x.bM).g.c2->Q .none (bD A ((L.aM 0 x.bM).body x.bd).g (rows++[(L.mV x e a).row]) D' (CU a (L.mV x e a).T 0::H)))
theorem CI{b:Bd}{o:Nat}:iH g (gK l o (iK b sv))=[] /\fF g (gK l o (iK b sv))=[]:=by unfold iK;cases b.ref<;>cases sv<;>exact⟨rfl,rfl⟩
theorem iG{b:Bd}:(L.body b).cur.length=L.cur.length+(bC b.bb).length/\(L.body b).rows=L.rows:=⟨Xc,rfl⟩
theorem I2{a:List AE}{s:bV}:bt (g.ie a) l o s=bt g l o s:=by unfold bt;refine List.map_congr_left λx W=>?_;obtain⟨x,p⟩:=x;induction x with|lo k f=>unfold pJ;dsimp only;rw[pG]|_=>rfl
theorem G2 (K:aL u){L1:LS}{b:Bd}{e:Int}{tk:V}(hA:A.rd=.lst [y,z]) (O:b.ok) (Z:rows.length<=1000) (Y:GB (L1.add b.bb).g 700) (ct:cE D L1.g.c1 L1.g.c2) (J:(sH (L1.add b.bb).g l L1.cur.length b sv e).length<=16777216) (M:L1.pl=cI l L1.cur.length)
  (q:jO b.ref b.i9 sv (xP X H 2 L1.pl) (xP X H 2 (L1.body b).p7) (∀D',cE D' L1.g.c1 L1.g.c2->Q .none (bD A (L1.body b).g rows D' H))
   (∀D' a,cE D' L1.g.c1 L1.g.c2->Q .none (bD A (L1.body b).g (rows++[.tup [.int (L1.add b.bb).g.st.length,.ref a,.int (L1.add b.bb).g.eO,L1.pl.obj]]) D' (CU a (sH (L1.add b.bb).g l L1.cur.length b sv e) 0::H)))):
  eh u (n+12) Q X A tk (sH (L1.add b.bb).g l L1.cur.length b sv e) (bD A (L1.add b.bb).g rows D H):=by
 have p7:(L1.body b).p7=⟨l,((L1.cur.length+(bC b.bb).length:Nat):Int)+1+1⟩:=by have h:=WX Pt.l M;unfold LS.p7;rw[iG.1,iG.2];exact WX (λk=>(⟨k,_⟩:Pt)) h
 generalize U:b.i9=zz;induction zz with
 |false=>
  refine I9 K hA O U Y J ?_
  rw[U,p7,M]at q;revert q;induction b.ref with|true=>exact λq=>q|false=>
   induction sv with|true=>exact λq=>q|false=>
    intro q;have q:Q .none (bD A (b.step L1.pl (L1.add b.bb).g) rows D H):=q D ct;rw[M]at q
    exact q
 |true=>
  induction b with
  |code s=>
   have q:∀a,Q .none (bD A ((L1.add (Bd.code s).bb).g.put (.code L1.pl)) (rows++[.tup [.int (L1.add (Bd.code s).bb).g.st.length,.ref a,.int (L1.add (Bd.code s).bb).g.eO,L1.pl.obj]]) D (CU a (sH (L1.add (Bd.code s).bb).g l L1.cur.length (.code s) sv e) 0::H)):=λa=>q D a ct;rw[M]at q;rw[yl]at J q⊢;induction sv with
   |true=>exact v_ (n:=n+1) K O Y Z J q
   |false=>exact v_ (n:=n+1) K O Y Z J q
  |_=>exact ff U
theorem G3 (K:aL u){T:aP}{e:Int}{pl:List (Lb×Pt×V)}{ws:List (Lx×Pt)}{L1:LS}{b:Bd}{p0:List Pt}(hA:A.rd=.lst [y,z]) (hb:b.ok) (hr:rows.length<=1000) (et:T=l9 pl (ws.map kJ++[EN l e])) (hT:T.length<=1000) (ct:cE D g.c1 g.c2) (U:GB g m) (hm:m+pl.length<=1000)
  (hl:∀x∈pl,x.1.ok) (hn:oZ (ws.map (λW=>W.1))) (Z:ws.length<=1000) (eg:L1.g=Internal.aM g pl) (ht:gO L1.g ws=p0.head?) (M:L1.g.ie (L1.g.aw++iH L1.g ws)=(L1.add b.bb).g) (J:ws.map (pJ L1.g)++[EN l e]=sH (L1.add b.bb).g l L1.cur.length b sv e) (ep:L1.pl=cI l L1.cur.length) (gb:GB (L1.add b.bb).g 700)
  (q:match(generalizing:=false) p0 with
   |p::_=>xP X H 3 p|[]=>jO b.ref b.i9 sv (xP X H 2 L1.pl) (xP X H 2 (L1.body b).p7) (∀D',cE D' L1.g.c1 L1.g.c2->Q .none (bD A (L1.body b).g rows D' H))
    (∀D' a,cE D' L1.g.c1 L1.g.c2->Q .none (bD A (L1.body b).g (rows++[.tup [.int (L1.add b.bb).g.st.length,.ref a,.int (L1.add b.bb).g.eO,L1.pl.obj]]) D' (CU a (sH (L1.add b.bb).g l L1.cur.length b sv e) 0::H)))):
  CL u (n+13) 101 [.ref A.s,.lst T] (bD A g rows D H) Q X:=by
 have O:GB L1.g 1000:=by have h:=gb.mono (show 700<=1000 from ll);refine⟨h.st,h.c1,h.c2,Xa ?_ h.aw,h.eq,h.wt,h.dw,h.eO⟩;show _<=(L1.g.aw++_).length;rw[Xc];exact Xp ..
 refine I1 (n:=n+5) K et (Xa hT ll) ct U hm hl (Ai hn) ⟨_,_,_,rfl⟩ Z (eg▸O) ?_;rw[<-eg,ht];revert q;induction p0 using Xn with|cons p t=>exact λq=>q|nil=>intro q D' Y;rw[M,J];refine G2 K hA hb hr gb Y ?_ ep q;rw[<-J,Xc,Xl];exact Xa (Xw Z 1) ll
theorem vQ (K:aL u){x:gq}{e:Int}(hA:A.rd=.lst [y,z]) (ok:x.ok) (U:GB L.g m) (Z:m<=600) (ct:cE D L.g.c1 L.g.c2) (Y:rows.length<=1000)
  (M:((gK (L.rows.length+1:Nat) L.cur.length (kp x)).map kJ++[EN (L.rows.length+1:Nat) e]).length<=1000) (gb:GB ((L.aM 0 x.bM).add x.bd.bb).g 700)
  (q:Dm A Q X H rows L x e):CL u (n+13) 101 [.ref A.s,.lst ((gK (L.rows.length+1:Nat) L.cur.length (kp x)).map kJ++[EN (L.rows.length+1:Nat) e])] (bD A L.g rows D H) Q X:=by
 obtain⟨V,hc,O,-⟩:=ok;have J:=jT (L:=L) (xs:=x.bM) (j:=0);refine G3 (n:=n) (sv:=x.sv) K (ws:=gK (L.rows.length+1:Nat) (L.cur.length+(bC (cT 0 x.bM)).length) (x.bd.bb++iK x.bd x.sv)) hA O Y Ha M ct U (by rw[vX];exact bB (Xm Z V) rfl) (Au hc) (by rw[we];exact NA O Lg) ?_ (WX LS.g J) (p0:=L.t0 x) ?_ ?_ ?_ ?_ gb q
 .have M:((gK (L.rows.length+1:Nat) L.cur.length (cT 0 x.bM++(x.bd.bb++iK x.bd x.sv))).map kJ++[EN (L.rows.length+1:Nat) e]).length<=1000:=M;rw[gY,Xc,Xl,Xc]at M;lia
 .unfold LS.t0 LS.ws;rw[K',gY,pW,CI.2,Xr,J];show _=(fF _ (gK _ (L.cur++bC (cT 0 x.bM)).length _)).head?;rw[Xc]
 .rw[gY,rj,CI.1,Xr];unfold LS.add LS.ws;rw[J];show _=(Internal.aM L.g _).ie (_++iH _ (gK _ (L.cur++bC (cT 0 x.bM)).length _));rw[Xc]
 .unfold sH;rw[show(L.aM 0 x.bM).cur.length=L.cur.length+(bC (cT 0 x.bM)).length by rw[J];exact Xc];show _=bt ((L.aM 0 x.bM).g.ie _) _ _ _++_;rw[I2];rfl
 .rw[J];rfl
theorem lS{a b:bV}:g_ (a++b)=(g_ a&&g_ b):=YI
structure GI(s:bV):Prop where
 ok:g_ s=Xg
 Co:fw Xb s=Xg
theorem GI.app{a b:bV}(h:GI a)(h':g_ b)(h2:fw (v9 Xb a) b):GI (a++b):=⟨by rw[lS,h.ok,h'];rfl,by rw[mF,h.Co,h2];rfl⟩
theorem lT (h:n<300):(Lx.nu (dec n) n).j6:=by have:=Ik ⟨n,h⟩;show((DW (dec n) n&&decide ((n:Int)<=1000000))&&Xg);rw[this,W4 (MV h rfl:(n:Int)<=1000000)];rfl
theorem vk{a:Nat}(h:a∈kN):(Lx.nm [a]).j6:=(by decide+kernel:∀c∈kN,(Lx.nm [c]).j6=Xg) a h
theorem lP{a:Nat}(h:a∈kj):(Lx.nm [a]).j6:=(by decide+kernel:∀c∈kj,(Lx.nm [c]).j6=Xg) a h
theorem gC:∀c∈ "+-,:=",(Lx.sg c).j6:=by decide+kernel
theorem dH{x:Lx}{s:bV}(h:x.j6)(h':g_ s):g_ (W_ x::s):=by show(x.j6&&g_ s)=Xg;rw[h,h'];rfl
theorem m4{s:Sm}(h:s.ok):GI s.bb:=by
 induction s with|num n=>exact⟨dH (lT h) rfl,rfl⟩|chr=>exact⟨rfl,rfl⟩|sn m a n=>
  cases m
  .exact⟨dH (vk h.1) (dH (gC 43 (by decide)) (dH (lT h.2) rfl)),rfl⟩
  .exact⟨dH (vk h.1) (show g_ (W_ (.sg 45)::Xk:: [nu n])=Xg from dH (gC 45 (by decide)) (show g_ [nu n]=Xg from dH (lT h.2) rfl)),rfl⟩|dn c=>exact⟨dH (by decide+kernel) (dH (gC 45 (by decide)) (dH (lP h) rfl)),rfl⟩|dp n=>exact⟨dH (by decide+kernel) (show g_ (W_ (.sg 43)::Xk:: [nu n])=Xg from dH (gC 43 (by decide)) (show g_ [nu n]=Xg from dH (lT h) rfl)),rfl⟩|lo k f=>exact⟨rfl,rfl⟩|df a b=>exact⟨dH (lP h.1) (dH (gC 45 (by decide)) (dH (lP h.2) rfl)),rfl⟩
def Ct(sep:bV):Prop:=g_ sep=Xg/\ ∀f,fw f sep=Xg/\v9 f sep=Xb
theorem Ly:Ct bk:=⟨by decide+kernel,λf=>by cases f<;>exact⟨rfl,rfl⟩⟩
theorem Lw:Ct br:=⟨by decide+kernel,λf=>by cases f<;>exact⟨rfl,rfl⟩⟩
theorem N6 (hs:Ct sep):∀{ss:List Sm},(∀s∈ss,Sm.ok s)->g_ (jt sep ss)/\ ∀f,fw f (jt sep ss):=by
 intro ss;induction ss with|nil=>
  intro _;exact⟨rfl,λW=>rfl⟩|cons s ss ih=>
  intro h;obtain⟨h1,h2⟩:=ih λs m=>h s (.tail _ m);have g:=m4 (h s (.head _));refine⟨?_,λf=>?_⟩
  .show g_ (sep++(s.bb++jt sep ss));rw[lS,lS,hs.1,g.ok,h1];rfl
  .show fw f (sep++(s.bb++jt sep ss));rw[mF,mF,(hs.2 f).1,(hs.2 f).2,g.Co,h2];rfl
theorem ua (hs:Ct sep)(h:∀s∈ss,Sm.ok s):GI (cG sep ss):=by
 induction ss using Xn with|nil=>exact⟨rfl,rfl⟩|cons s ss=>obtain⟨h1,h2⟩:=N6 hs (ss:=ss) λs m=>h s (.tail _ m);exact(m4 (h s (.head _))).app h1 (h2 _)
theorem qO{s:bV}(e:(Lx.nm w).j6)(h:GI s):GI (cZ w++s):=GI.app (a:=cZ w) ⟨dH e rfl,rfl⟩ h.ok h.Co
theorem Ft:∀w∈rr,(Lx.nm w).j6:=by decide+kernel
theorem Ij:∀y∈xE,(Lx.nm y.1).j6:=by decide+kernel
theorem Fu:∀w∈tJ,(Lx.nm w).j6:=by decide+kernel
theorem Fp:∀w∈mU,(Lx.nm w).j6:=by decide+kernel
theorem pS:∀a,(a∈jF\/a=46)->(Lx.nm [a]).j6:=λa h=>(by decide+kernel:∀c∈ "uvw.",(Lx.nm [c]).j6=Xg) a (by
 rcases h with h|rfl
 .exact X9 "." h
 .decide)
theorem FO:oq.all (λy=>g_ y.1&&fw Xb y.1):=by decide+kernel
theorem Fv:CB.all (λy=>g_ y.1&&fw Xb y.1):=by decide+kernel
theorem uo{s:List QI}(m:s∈sR):(Lx.qu s).j6:=allM (show sR.all (λs=>(Lx.qu s).j6)=Xg from by decide+kernel) m
theorem Sb{b:Bd}(h:b.ok):GI b.bb:=by
 induction b with|no=>exact⟨rfl,rfl⟩|lst w ss=>exact qO (Ft w h.1) (ua Ly h.2.1)|iJ w k ss=>exact qO (Ij (w,k) h.1) (ua Lw h.2.1)|code s=>exact qO (by decide+kernel) (m4 h)|bad s=>exact qO (by decide+kernel) (m4 h)|gZ hh nm s=>
  have g:=m4 h.2;rcases h.1 with⟨w,J,a,K,rfl,-⟩|⟨a,K,rfl,-⟩
  .exact GI.app (a:=[W_ (.nm w),Xk,W_ (.nm [a]),W_ (.sg 44)]) ⟨dH (Fu w J) (show g_ (W_ (.nm [a]):: [W_ (.sg 44)])=Xg from dH (pS a (.inl K)) (dH (gC 44 (by decide)) rfl)),rfl⟩ g.ok g.Co
  .exact GI.app (a:=[W_ (.nm [a]),Xk,W_ (.sg 61),Xk]) ⟨dH (pS a K) (show g_ (W_ (.sg 61):: [Xk])=Xg from dH (gC 61 (by decide)) rfl),rfl⟩ g.ok g.Co|pl s f=>
  induction h with|sy y e=>obtain⟨a,b⟩:=aH (allM FO e);exact⟨a,b⟩|wd y e=>obtain⟨a,b⟩:=aH (allM Fv e);exact⟨a,b⟩|tx w O M J h1 h2=>exact⟨dH (Fp w J) (show g_ (W_ (.qu O)::W_ (.sg 44)::Xk:: [W_ (.qu M)])=Xg from dH (uo h1) (dH (gC 44 (by decide)) (show g_ [W_ (.qu M)]=Xg from dH (uo h2) rfl))),rfl⟩
theorem Lh{b:Bd}:g_ (iK b sv)/\ ∀f,fw f (iK b sv):=by unfold iK;cases b.ref<;>cases sv<;>first|exact⟨rfl,λW=>rfl⟩|exact⟨by decide+kernel,λf=>by cases f<;>rfl⟩
theorem G_:∀{xs:List Lb}{j:Nat},(∀x∈xs,x∈pf)->GI (cT j xs)/\v9 Xb (cT j xs)=Xb:=by
 intro xs;induction xs with|nil=>
  intro _ _;exact⟨⟨rfl,rfl⟩,rfl⟩|cons x xs ih=>
  intro j h;obtain⟨h1,h2⟩:=ih (j:=j+1) λx m=>h x (.tail _ m);have k1:∀x∈pf,g_ (iQ 0 x)/\g_ (iQ 1 x):=λx m=>by have:=allM (show pf.all (λx=>g_ (iQ 0 x)&&g_ (iQ 1 x))=Xg from by decide+kernel) m;exact aH this
  have e:v9 Xb (iQ j x)=Xb/\fw Xb (iQ j x)/\g_ (iQ j x):=by induction j using XN with|zero=>cases x<;>exact⟨rfl,rfl,(k1 _ (h _ (.head _))).1⟩|succ j=>cases x<;>exact⟨rfl,rfl,(k1 _ (h _ (.head _))).2⟩
  have J:∀{a b:bV}{f:Bool},v9 f (a++b)=v9 (v9 f a) b:=λ{a} =>by induction a with|nil=>exact rfl|cons y a ih=>exact ih
  exact⟨GI.app ⟨e.2.2,e.2.1⟩ h1.ok (by rw[e.1];exact h1.Co),by show v9 Xb (iQ j x++cT (j+1) xs)=Xb;rw[J,e.1,h2]⟩
theorem vK{x:gq}(h:x.ok):GI (kp x):=by obtain⟨-,J,K,-⟩:=h;obtain⟨h1,h2⟩:=G_ (j:=0) J;have g:=Sb K;have s:=Lh (b:=x.bd) (sv:=x.sv);have e:GI (x.bd.bb++iK x.bd x.sv):=g.app s.1 (s.2 _);exact h1.app e.ok (by rw[h2];exact e.Co)
def Lx.Tn:Lx->List Sg|.nm w=>w.map .pl|.nu w _=>w.map .pl|.lo k f=>(lZ k f).map .pl|.ch=>[.ch]|.qu s=>[.qu s]|.sg c=>[.pl c]
noncomputable def jJ:bV->List Sg|[]=>[]|none::s=>.pl 32::jJ s|some x::s=>x.Tn++jJ s
theorem oG:∀{w:ax},fz (w.map .pl)=w:=by
 intro w;induction w with
 |nil=>
  exact rfl|cons c w ih=>
  exact WX (c::·) ih
theorem f6{a b:List Sg}:fz (a++b)=fz a++fz b:=by induction a with|nil=>rfl|cons x a ih=>show x.tx++fz (a++b)=x.tx++fz a++fz b;rw[ih,Xf]
theorem Ls{x:Lx}:fz x.Tn=x.tx:=by induction x with|nm w=>exact oG|nu w v=>exact oG|lo k f=>exact oG|ch=>rfl|qu s=>exact Xr _|sg c=>rfl
theorem m5:∀{s:bV},fz (jJ s)=bC s|[]=>rfl|none::s=>WX (32::·) m5|some x::s=>by show fz (x.Tn++jJ s)=x.tx++bC s;rw[f6,Ls,m5]
theorem Nj(h:kP c):Gs c:=by
 have key:∀d,kP d=Xb->sEq [c] [d]=Xb:=λd e=>by rw[jK];exact ib λq=>by rw[q,e]at h;exact ff h
 unfold Gs;rw[key 10 rfl,key 59 rfl,key 35 rfl,key 34 rfl,key 39 rfl];rfl
theorem uf (h:∀c∈w,kP c):(w.map Sg.pl).all Sg.ok:=by rw[List.all_map,XM];exact λc m=>Nj (h c m)
def kK (s:bV):Bool:=s.all λx=>match x with|some (.sg c)=>Gs c|_=>Xg
theorem FY:∀{s:bV},g_ s->kK s->(jJ s).all Sg.ok:=by
 intro s;induction s with|nil=>exact λW W=>rfl|cons z s ih=>
  intro h h2;induction z with|none=>exact ih h h2|some x=>
  obtain⟨a,b⟩:=aH (show(x.j6&&g_ s)=Xg from h);obtain⟨c,d⟩:=aH (show((match W_ x with|some (.sg c)=>Gs c|_=>Xg)&&kK s)=Xg from h2);have a:=(aH a).1;show(x.Tn++jJ s).all Sg.ok;rw[YI,ih b d,Z_];induction x with|nm w=>exact uf (XM.mp (aH a).2)|nu w v=>exact uf (qU (aH a).1).1|lo k f=>cases k<;>cases f<;>decide|ch=>rfl|qu s=>show(sW s&&Xg)=Xg;rw[Z_];exact(aH a).1|sg e=>exact(Z_ _).trans c
theorem f7{a b:bV}:kK (a++b)=(kK a&&kK b):=YI
theorem m3{s:Sm}:kK s.bb:=by induction s with|sn m a n=>cases m<;>rfl|_=>rfl
theorem N4 (hs:kK sep):∀{ss:List Sm},kK (jt sep ss):=by
 intro ss;induction ss with
 |nil=>
  exact rfl|cons s ss ih=>
  show kK (sep++(s.bb++jt sep ss))=Xg;rw[f7,f7,hs,m3,ih];rfl
theorem t_ (hs:kK sep):kK (cG sep ss):=by induction ss using Xn with|nil=>rfl|cons s ss=>show kK (s.bb++jt sep ss)=Xg;rw[f7,m3,N4 hs];rfl
theorem Sa{b:Bd}(h:b.ok):kK b.bb:=by
 induction b with|no=>rfl|lst w ss=>exact t_ (sep:=bk) rfl|iJ w k ss=>exact t_ (sep:=br) rfl|code s=>exact m3|bad s=>exact m3|gZ hh nm s=>
  show kK (hh++s.bb);rw[f7,m3];rcases h.1 with⟨w,-,a,-,rfl,-⟩|⟨a,-,rfl,-⟩ <;>rfl|pl s f=>
  induction h with|sy y e=>exact allM (show oq.all (λy=>kK y.1)=Xg from by decide) e|wd y e=>exact allM (show CB.all (λy=>kK y.1)=Xg from by decide) e|tx w K J=>rfl
theorem G9:∀{xs:List Lb}{j:Nat},kK (cT j xs):=by
 intro xs;induction xs with
 |nil=>
  intro _;exact rfl|cons x xs ih=>
  intro j;show kK (iQ j x++cT (j+1) xs);rw[f7,ih];cases j<;>cases x<;>rfl
theorem Oc{x:gq}(h:x.ok):kK (kp x):=by show kK (cT 0 x.bM++(x.bd.bb++iK x.bd x.sv));rw[f7,f7,G9,Sa h.2.2.1];unfold iK;cases x.bd.ref<;>cases x.sv<;>rfl
theorem Od{x:gq}(h:x.ok):(jJ (kp x)).all Sg.ok:=FY (vK h).ok (Oc h)
variable{k:Nat}
structure fT(g g':GS):Prop where
 c1:g'.c1=g.c1
 c2:g'.c2=g.c2
 aw:g'.aw=g.aw
 wt:g'.wt=g.wt
theorem fT.refl:fT g g:=⟨rfl,rfl,rfl,rfl⟩
theorem fT.trans{g''}(h:fT g g')(h':fT g' g''):fT g g'':=⟨h'.c1.trans h.c1,h'.c2.trans h.c2,h'.aw.trans h.aw,h'.wt.trans h.wt⟩
theorem qK{s:SE}:fT g (g.put s):=⟨rfl,rfl,rfl,rfl⟩
theorem AH{l:List Ex}:fT g (g.pn l pt):=by unfold GS.pn;cases l.any Ex.hh<;>exact⟨rfl,rfl,rfl,rfl⟩
theorem Oy:∀{l:List Ex}{g:GS},fT g (ot w pt g l):=by
 intro l;induction l with
 |nil=>
  intro _;exact .refl|cons x l ih=>
  intro g;exact(AH.trans qK).trans (ih)
theorem Ox{l:List Ex}:fT g (ko w pt g l):=by
 unfold ko;cases l.any Ex.hh
 .exact qK
 .exact Oy
theorem Hj{x:Ex}:fT g (fP w x pt g):=by unfold fP;cases sEq w "." with|true=>exact AH.trans qK|false=>exact(AH (l:=[x]) (pt:=pt)).trans ⟨rfl,rfl,rfl,rfl⟩
theorem Hi{b:Bd}(h:b.ok)(e:b.i9=Xb):fT g (b.step pt g):=by
 induction b with|no=>exact .refl|lst w ss=>exact Ox|iJ w k ss=>
  show fT g (match gB k ss with|true=>_|false=>_);cases gB k ss
  .exact .refl
  .exact AH.trans qK|gZ h nm s=>exact Hj|pl s f=>cases h<;>exact⟨rfl,rfl,rfl,rfl⟩|code s=>exact ft e|bad s=>exact .refl
theorem GO (hs:sep.length<=2/\(bC sep).length<=2):∀{ss:List Sm},(∀s∈ss,Sm.ok s)->(jt sep ss).length<=7*ss.length/\(bC (jt sep ss)).length<=5002*ss.length:=by
 intro ss;induction ss with|nil=>
  intro _;exact ⟨Xh _,Xh _⟩|cons s ss ih=>
  intro h;obtain⟨a,b⟩:=ih λs m=>h s (.tail _ m);have c:=fj (s:=s);have d:=hM (h s (.head _));have e:jt sep (s::ss)=sep++(s.bb++jt sep ss):=rfl;rw[e,cB,cB];simp only[Xc,Xq];lia
theorem qa (hs:sep.length<=2/\(bC sep).length<=2)(h:∀s∈ss,Sm.ok s)(J:ss.length<=4):(cG sep ss).length<=26/\(bC (cG sep ss)).length<=20006:=by
 induction ss using Xn with|nil=>exact⟨Ye _,Ye _⟩|cons s ss=>obtain⟨a,b⟩:=GO hs (ss:=ss) λs m=>h s (.tail _ m);have c:=fj (s:=s);have d:=hM (h s (.head _));have e:cG sep (s::ss)=s.bb++jt sep ss:=rfl;rw[e,cB];simp only[Xc,Xq]at J⊢;lia
theorem iW{b:Bd}(h:b.ok):b.bb.length<=30/\(bC b.bb).length<=30000:=by
 have hd:∀{w:ax}{s:bV},w.length<=20->s.length<=26/\(bC s).length<=20006->(cZ w++s).length<=30/\(bC (cZ w++s)).length<=30000:=λ{w s}K h=>by rw[cB,Xc,Xc];have e:(bC (cZ w)).length=w.length+1:=Xc;rw[e];exact⟨by show 2+_<=30;exact bB (Xm (Xh 2) (U_ h)) rfl,bB (Xm (Xm K (Xh 1)) (M1 h)) rfl⟩
 have J:∀{s:Sm},s.ok->s.bb.length<=26/\(bC s.bb).length<=20006:=λh=>⟨Xa fj ll,Xa (hM h) ll⟩;induction b with
 |no=>exact⟨Ye _,Ye _⟩|lst w ss=>exact hd ((by decide:∀w∈rr,w.length<=20) w h.1) (qa (sep:=bk) ⟨ll,ll⟩ h.2.1 (Xa h.2.2.2 ll))|iJ w k ss=>exact hd ((by decide:∀y∈xE,y.1.length<=20) (w,k) h.1) (qa (sep:=br) ⟨ll,ll⟩ h.2.1 h.2.2)|code s=>exact hd ll (J h)|bad s=>exact hd ll (J h)|gZ hh nm s=>
  obtain⟨a,b⟩:=J h.2;show(hh++s.bb).length<=30/\(bC (hh++s.bb)).length<=30000;rw[cB,Xc,Xc];rcases h.1 with⟨w,K,c,-,rfl,-⟩|⟨c,-,rfl,-⟩
  .have:w.length<=20:=(by decide:∀w∈tJ,w.length<=20) w K;show 4+_<=30/\(w++_).length+_<=30000;rw[Xc];refine⟨bB (Xm (Xh 4) a) rfl,?_⟩;show _+3+_<=30000;exact bB (Xm (Xm this (Xh 3)) b) rfl
  .refine⟨by show 4+_<=30;exact bB (Xm (Xh 4) a) rfl,by show 4+_<=30000;exact bB (Xm (Xh 4) b) rfl⟩|pl s f=>
  induction h with|sy y M=>obtain⟨a,b⟩:=aH (allM (show oq.all (λy=>XU y.1.length 30&&XU (bC y.1).length 30000)=Xg from by decide) M);exact⟨Xi a,Xi b⟩|wd y M=>obtain⟨a,b⟩:=aH (allM (show CB.all (λy=>XU y.1.length 30&&XU (bC y.1).length 30000)=Xg from by decide) M);exact⟨Xi a,Xi b⟩|tx w J O K h1 h2=>refine⟨by show 6<=30;decide,?_⟩;have a:w.length<=20:=(by decide:∀w∈mU,w.length<=20) w K;have q:∀s∈sR,(34::(d5 s++[34])).length<=60:=λs m=>Xi (allM (show sR.all (λs=>XU (34::(d5 s++[34])).length 60)=Xg from by decide) m);have b:=q J h1;have c:=q O h2;exact Xa (bZ a (XH (bZ b (XH (XH (bZ c (Xh 0))))))) (by decide:20+(60+(60+0+1+1)+1)<=30000)
variable{x:gq}
theorem LB.aM:∀{xs:List Lb}{j:Nat}{L:LS}{m:Nat},LB L m->(∀x∈xs,x∈pf)->LB (L.aM j xs) (m+4*xs.length):=by
 intro xs;induction xs with
 |nil=>
  intro _ _ _ h _;exact h|cons x xs ih=>
  intro j L m h e;have:=ih (j:=j+1) (h.dm (j:=j) (pe (e x (.head _)))) λy m=>e y (.tail _ m);exact this.up (by rw[Xq];exact ur)
theorem zB{b:Bd}(h:b.ok) (e:GB g m):GB (b.step pt g) (m+10):=by
 induction b with
 |no=>exact e.mono (Xp m 10)
 |lst w ss=>
  have:=GB.ko (w:=w) (pt:=pt) (l:=xs g ss) e;rw[show(xs g ss).length=ss.length from Xl ..]at this;exact this.mono (by have:=h.2.2.2;exact Xa (Xm (Xm (Xh m) (c7 this)) (Xh 1)) (qI rfl))|iJ w k ss=>
  show GB (match gB k ss with|true=>_|false=>_) (m+10);cases gB k ss
  .exact e.mono (Xp m 10)
  .exact e.pn.put.mono (qI rfl)|gZ hh nm s=>exact(GB.fP e).mono (eW rfl)|pl s f=>
  have J:∀{a},a<=m->a<=m+10:=λh=>Xa h (Xp m 10)
  induction h with
  |sy y K=>refine⟨J e.st,J e.c1,J e.c2,J e.aw,J e.eq,J e.wt,J e.dw,?_⟩;exact Xi (allM (show oq.all (λy=>XU y.2 1)=Xg from by decide) K)|wd y K=>exact e.put.mono (eW rfl)
  |tx w J M=>exact e.put.mono (eW rfl)
 |code s=>have h2:=e.put (s:=.code pt);have J:∀{a},a<=m+1->a<=m+10:=λh=>Xa h (eW rfl);exact⟨J h2.st,J h2.c1,J h2.c2,J h2.aw,J h2.eq,J (mE e.wt),J h2.dw,e.eO⟩|bad s=>exact e.mono (Xp m 10)
theorem LB.body{b:Bd}(h:b.ok) (J:LB L m):LB (L.body b) (m+40):=by obtain⟨a,c⟩:=iW h;have e:=J.add (k:=30) a (Xa c ll);exact⟨zB h e.g,Xa e.tr (eW rfl),(e.up (eW rfl:m+30<=m+40)).cur,Xa e.rows (eW rfl)⟩
theorem nN:∀{l:List WE},(gJ l p).length=l.length|[]=>rfl|[_]=>rfl|_::b::l=>WX (λW=>W+1) (nN (l:=b::l))
theorem LB.sP{c:Bool}(e:LB L m):LB (L.sP c) (m+3):=by have K:LB (L.add iN) (m+2):=e.add ll ll;have J:∀{a},a<=m->a<=m+3:=λh=>Xa h (Xp m 3);induction c with|true=>exact⟨⟨J e.g.st,J e.g.c1,J e.g.c2,J e.g.aw,J e.g.eq,by show(gJ L.g.wt L.p7).length<=_;rw[nN];exact J e.g.wt,J e.g.dw,e.g.eO⟩,XE K.tr,(K.up (Yl _)).cur,XE K.rows⟩|false=>exact⟨K.g.mono (Yl _),mE K.tr,(K.up (Yl _)).cur,XE K.rows⟩
theorem LB.tail{b:Bd}(e:LB L m):LB (L.tail b pt sv) (m+3):=by unfold LS.tail;induction b.ref with|true=>exact⟨e.g.mono (Xp m 3),Xa (mE e.tr) (eW rfl),(e.up (Xp m 3:m<=m+3)).cur,Xa e.rows (Xp m 3)⟩|false=>induction sv with|true=>exact e.sP|false=>exact e.up (Xp m 3)
theorem LB.mid (h:x.ok) (e:LB L m):LB (L.mid x) (m+60):=by have h1:x.bM.length<=2:=h.1;exact(((LB.aM (j:=0) e h.2.1).body h.2.2.1).tail).up (Xa (Xm (Xm (Xm (Xh m) (c7 h1)) (Xh 40)) (Xh 3)) (Dp rfl))
theorem LB.fin{e:Nat}(J:LB L m):LB (L.fin e) (m+10):=by
 have K:=J.g.mono (Xp m 10);have tr:=Xa J.tr (Xp m 10);have V:=Xa J.rows (Xp m 10);have O:∀{t},(L.rows++[t]).length<=m+10:=λ{t} =>by rw[Xc];exact Xa (XH J.rows) (UR rfl)
 have U:∀{t M},(L.rows++[t]++[M]).length<=m+10:=λ{t M} =>by rw[Xc,Xc];exact Xa (XH (XH J.rows)) (UQ rfl)
 have c0:=J.cur;match e with|0=>exact⟨K,tr,Ye _,O⟩|1=>exact⟨K,tr,by show(L.cur++" ; ").length<=_;rw[Xc];show _+3<=_;exact UL c0 rfl,V⟩|2=>exact⟨K,tr,Ye _,O⟩|_+3=>exact⟨K,tr,Ye _,U⟩
theorem LB.line (h:x.ok) (e:LB L m):LB (L.line x) (m+100):=((e.mid h).fin).up (qI rfl)
noncomputable def Pu (r c s:Bool)(p q:Pt):List (Bool×Pt):=match r,c,s with|true,_,_=>[(Xb,p)]|false,Xb,Xg=>[(Xb,q)]|_,_,_=>[]
theorem vr:(L.mid x).tr=L.tr++((L.t0 x).map (Xg,·)++Pu x.bd.ref x.bd.i9 x.sv (L.aM 0 x.bM).pl ((L.aM 0 x.bM).body x.bd).p7):=by
 have e:(L.aM 0 x.bM).tr=L.tr:=by rw[jT]
 have e2:((L.aM 0 x.bM).body x.bd).tr=L.tr++(L.t0 x).map (Xg,·):=by show(L.aM 0 x.bM).tr++_=_;rw[e];rfl
 rw[<-Xf,<-e2];show(((L.aM 0 x.bM).body x.bd).tail x.bd _ x.sv).tr=_;unfold LS.tail;induction x.bd.ref with|true=>rfl|false=>induction x.sv with|false=>cases x.bd.i9<;>exact(Xr _).symm|true=>induction x.bd.i9 with|true=>show(((L.aM 0 x.bM).body x.bd).add iN).tr=_++[];rw[zG,Xr]|false=>show(((L.aM 0 x.bM).body x.bd).add iN).tr++_=_;rw[zG];rfl
theorem wI{e:Nat}:(L.fin e).g=L.g/\(L.fin e).tr=L.tr:=by match e with|0=>exact⟨rfl,rfl⟩|1=>exact⟨rfl,rfl⟩|2=>exact⟨rfl,rfl⟩|_+3=>exact⟨rfl,rfl⟩
variable{ns:List ax}
def kv(ns:List ax):Prop:=∀s,aN s ns=Xg-> ∃a∈jF,s=[a]
theorem oW (h:kv ns)(K:c∈kj):aN [c] ns=Xb:=by
 generalize e:aN [c] ns=J;induction J with|false=>rfl|true=>obtain⟨a,M,e2⟩:=h _ e;cases e2;exact W5 M ((by decide:∀c∈kj,c∉jF) c K)
theorem GW{k:Bool}{m:Nat}:sEq (dR k m) []=Xb:=by unfold dR;rw[<-gW];cases k<;>rfl
theorem qc{s:Sm}(h:s.ok)(e:kv ns){hh:ax}(h0:sEq hh []=Xb):(s.x g).sh ns hh:=by
 induction s with|num n=>rfl|chr=>rfl|sn m a n=>rfl|dn c=>
  show(Xg&&(!sEq hh []&&(Xg&&(Xg&&!aN [c] ns))));rw[h0,oW e h];rfl|dp n=>show(!sEq hh [])=Xg;rw[h0];rfl|lo k f=>show(!sEq (Ob g k f) [])=Xg;unfold Ob;rw[GW];rfl|df a b=>
  show(Xg&&(Xg&&(!aN [a] ns&&(Xg&&!aN [b] ns))));rw[oW e h.1,oW e h.2];rfl
def sJ (g:GS)(wrs:List gi):Prop:=wrs.map (λW=>W.e)=g.wt/\ ∀w∈wrs,∀ns,kv ns->Jg ns w
def sQ (A:RA)(L:LS)(wrs:List gi)(D:List (Int×V))(H:Hp):Hp:=bD A L.g (wrs.map gi.row) D (xN wrs.reverse++H)
variable{wrs:List gi}
theorem Iw{w:gi}:xN (wrs++[w]).reverse++H=CU w.a w.T 0::(xN wrs.reverse++H):=by rw[List.reverse_append];rfl
theorem zc{e:Int}{a:Addr}{s:Sm}(K:x.bd=.code s) (hs:s.ok) (J:(L.aM 0 x.bM).g.eO<=1) (O:(L.mV x e a).T.length<=16777216) (M:kv ns):Jg ns (L.mV x e a):=by
 obtain⟨xs,b,sv,en⟩:=x;have K:b=.code s:=K;subst K;have V:(L.aM 0 xs).rows=L.rows:=by rw[jT]
 have U:(L.mV ⟨xs,.code s,sv,en⟩ e a).T=HT nT (cI (L.rows.length+1:Nat) (L.aM 0 xs).cur.length)::(bt ((L.aM 0 xs).add (Bd.code s).bb).g (L.rows.length+1:Nat) ((L.aM 0 xs).cur.length+3) s.bb++(match sv with|true=>Uy (L.rows.length+1:Nat) ((L.aM 0 xs).cur.length+(bC (Bd.code s).bb).length) e|false=>[EN (L.rows.length+1:Nat) e])):=by show sH _ _ _ _ _ _=_;rw[yl];show bt _ _ _ (cZ nT++s.bb)++_=_;rw[dU,Xf];cases sv<;>rfl
 have ex:s.x (L.aM 0 xs).g=s.x ((L.aM 0 xs).add (Bd.code s).bb).g:=gz.symm;have tk:=fZ (g:=((L.aM 0 xs).add (Bd.code s).bb).g) (l:=(L.rows.length+1:Nat)) (o:=(L.aM 0 xs).cur.length+3) hs;rw[<-ex]at tk;induction sv with|false=>exact⟨⟨qc hs M rfl,J⟩,_,_,_,_,_,_,[],⟨U,O⟩,⟨_,_,_,_,rfl,rfl⟩,tk,rfl,rfl⟩|true=>refine⟨⟨qc hs M rfl,J⟩,_,_,_,_,_,_,[EN (L.rows.length+1:Nat) e],⟨U,O⟩,⟨_,_,_,_,rfl,rfl⟩,tk,rfl,rfl,?_⟩;show _=Pt.obj ((L.aM 0 xs).body (.code s)).p7;unfold LS.p7;rw[iG.1,iG.2,V]
theorem Az:∀{l:List (Lb×Pt×V)}{g:GS},(Internal.aM g l).wt=g.wt/\(Internal.aM g l).eO=g.eO:=by
 intro l;induction l with|nil=>
  intro _;exact ⟨rfl,rfl⟩|cons x l ih=>
  intro g;obtain⟨h1,h2⟩:=ih (g:=ji g (x.1,x.2.1));have e:(ji g (x.1,x.2.1)).wt=g.wt/\(ji g (x.1,x.2.1)).eO=g.eO:=by unfold ji;cases x.1 with|nm w=>exact ⟨rfl,rfl⟩|lo k=>cases k<;>exact ⟨rfl,rfl⟩
  exact ⟨h1.trans e.1,h2.trans e.2⟩
theorem Lwt{xs:List Lb}:(L.aM j xs).g.wt=L.g.wt/\(L.aM j xs).g.eO=L.g.eO:=by rw[jT];exact Az
theorem B8{b:Bd}(h:b.ok) (e:b.i9=Xb):(L.body b).g.wt=L.g.wt/\(L.body b).g.c1=L.g.c1/\(L.body b).g.c2=L.g.c2:=by have:=Hi (g:=(L.add b.bb).g) (pt:=L.pl) h e;exact⟨this.wt,this.c1,this.c2⟩
theorem As:∀{xs:List Lb}{j:Nat},(cT j xs).length<=3*xs.length:=by
 intro xs;induction xs with
 |nil=>
  intro _;exact Xh _|cons x xs ih=>
  intro j;have:=ih (j:=j+1);have e:(iQ j x).length<=3:=by cases j<;>exact ll
  show(iQ j x++cT (j+1) xs).length<=_;rw[Xc,Xq];exact UW this e
theorem o_ (h:x.ok):(kp x).length<=60:=by
 have a:=As (xs:=x.bM) (j:=0);have b:=(iW h.2.2.1).1;have c:(iK x.bd x.sv).length<=2:=by unfold iK;cases x.bd.ref<;>cases x.sv<;>exact ll
 have d:=h.1;show(cT 0 x.bM++(x.bd.bb++iK x.bd x.sv)).length<=60;rw[Xc,Xc];exact bB (Xm (Xa a (c7 d)) (Xm b c)) rfl
theorem jO.of{r c s:Bool}{p1 p2:Pt}{E:Hp}{P d e:Prop}(q:match Pu r c s p1 p2 with|t::_=>xP X H (bN t.1) t.2|[]=>P) (hd:r=Xb->c=Xb->s=Xb->P->d) (J:r=Xb->c=Xg->P->e):jO r c s (xP X (E++H) 2 p1) (xP X (E++H) 2 p2) d e:=by induction r with|true=>exact xP.ext q|false=>induction c with|true=>exact J rfl rfl (by cases s<;>exact q)|false=>induction s with|true=>exact xP.ext q|false=>exact hd rfl rfl rfl q
theorem Hw{b:Bd}(h:b.i9):∃s,b=.code s:=by cases b<;>first|exact⟨_,rfl⟩|exact ff h
theorem tK{e:Int}{a:Addr}{s:Sm}(ok:x.ok) (J:x.bd=.code s):(L.mV x e a).T.length<=16777216:=by obtain⟨xs,b,sv,en⟩:=x;obtain rfl:b=.code s:=J;show(bt _ _ _ _++[_]).length<=_;unfold bt;rw[Xc,Xl];refine Xa (Xw (Xa gX ?_) 1) (by decide:60+1<=16777216);refine Xa ?_ (o_ ok);show _<=(cT 0 xs++(Bd.bb (.code s)++iK (.code s) sv)).length;rw[Xc (as:=cT 0 xs)];exact Zc ..
theorem qJ{xs:List Lb}{s:Sm}{en:_}{e:Int}{a:Addr}(ok:(⟨xs,.code s,sv,en⟩:gq).ok) (sy:L.g.eO<=1) (J:sJ L.g wrs):sJ (L.mid ⟨xs,.code s,sv,en⟩).g (wrs++[L.mV ⟨xs,.code s,sv,en⟩ e a]):=by
 refine⟨?_,λw mw=>(Yk.mp mw).elim (J.2 w) λmw=>Xs.mp mw▸λns K=>zc rfl ok.2.2.1 (Xa (X4 Lwt.2) sy) (tK ok rfl) K⟩;have ex:s.x ((L.aM 0 xs).add (Bd.code s).bb).g=s.x (L.aM 0 xs).g:=gz;rw[XQ,J.1.trans (Lwt (j:=0) (xs:=xs)).1.symm];induction sv with
 |false=>
  show _=_++[(⟨_,s.x ((L.aM 0 xs).add (Bd.code s).bb).g,_,_,_⟩:WE)];rw[ex];rfl|true=>
  show _=gJ (_++[(⟨_,s.x ((L.aM 0 xs).add (Bd.code s).bb).g,_,_,_⟩:WE)]) _;rw[iR,ex];rfl
theorem Oe (K:aL u){e:Int}(hA:A.rd=.lst [y,z]) (ok:x.ok) (U:LB L m) (V:m<=600) (ct:cE D L.g.c1 L.g.c2) (O:sJ L.g wrs) (h0:L.tr=[])
  (q:match(L.mid x).tr with|t::_=>xP X H (bN t.1) t.2|[]=>∀D' M,cE D' (L.mid x).g.c1 (L.mid x).g.c2->sJ (L.mid x).g M->Q .none (sQ A (L.mid x) M D' H)):
  CL u (n+13) 101 [.ref A.s,.lst ((gK (L.rows.length+1:Nat) L.cur.length (kp x)).map kJ++[EN (L.rows.length+1:Nat) e])] (sQ A L wrs D H) Q X:=by
 have wl:wrs.length<=600:=by have:=WX List.length O.1;rw[Xl]at this;rw[this];exact Xa U.g.wt V
 have hT:((gK (L.rows.length+1:Nat) L.cur.length (kp x)).map kJ++[EN (L.rows.length+1:Nat) e]).length<=1000:=by rw[Xc,Xl];exact Xa (Xw (Xa gX (o_ ok)) 1) ll
 have h2:x.bM.length<=2:=ok.1;have Z:=LB.aM (j:=0) U ok.2.1;have Y:LB ((L.aM 0 x.bM).add x.bd.bb) 700:=(Z.add (iW ok.2.2.1).1 (Xa (iW ok.2.2.1).2 ll)).up (bB (Xm (Xm V (c7 h2)) (Xh 30)) rfl);refine vQ K hA ok U.g V ct (by rw[Xl];exact up wl rfl) hT Y.g ?_;rw[vr,h0,List.nil_append]at q;unfold Dm;obtain⟨xs,b,sv,en⟩:=x;revert q;cases L.t0 ⟨xs,b,sv,en⟩ with|cons p t=>exact λq=>xP.ext q|nil=>
  refine λq=>jO.of q (λ(hr:b.ref=Xb) (hc:b.i9=Xb) (hs:sv=Xb) q D' J=>?_) (λW (hc:b.i9) q D' a J=>?_)
  .have V:L.mid ⟨xs,b,sv,en⟩ =(L.aM 0 xs).body b:=by show LS.tail _ b _ sv=_;unfold LS.tail;rw[hr,hs]
   obtain⟨w1,w2,w3⟩:=B8 (L:=L.aM 0 xs) ok.2.2.1 hc;have q:=q D' wrs;rw[V]at q;exact q (by rw[w2,w3];exact J) ⟨by rw[w1,Lwt.1];exact O.1,O.2⟩
  .obtain⟨s,rfl⟩:=Hw hc;have q:=q D' (wrs++[L.mV ⟨xs,.code s,sv,en⟩ e a]);unfold sQ at q;rw[XQ,Iw]at q;induction sv with|false=>exact q J (qJ ok U.g.eO O)|true=>exact q J (qJ ok U.g.eO O)
variable{wrs:List gi}
def o6:N:=aC (.bI 0 0 [0,0,0,0,0,0] ae #[.a_ 69 [] #[aD,ay]])^aa
noncomputable def trS(e:Nat):List Sg:=match e with|0=>[]|1=>[.pl 32]|2=>[.pl 32]|_=>[.pl 9]
noncomputable def cmT(e:Nat):ax:=match e with|2=>"# ; p: 1b"|_=>[]
noncomputable def eR(b:Bool):List Sg:=match b with|true=>[.pl 32]|false=>[]
noncomputable def nc(b:Bool):Nat:=match b with|true=>1|false=>0
def je (b:Bool)(x:gq):Pc:=⟨eR b++(jJ (kp x)++trS x.en),cmT x.en⟩
noncomputable def emP:Pc:=⟨[],[]⟩
def Jx (b:Bool)(x:gq):List (Pc×Bool):=match x.en with|0=>[(je b x,Xg)]|1=>[(je b x,Xb)]|2=>[(je b x,Xg)]|_=>[(je b x,Xg),(emP,Xg)]
noncomputable def docOf:Bool->List gq->bV->List (Pc×Bool) ×Pc|b,[],s=>([],⟨eR b++(jJ s++[]),[]⟩)|b,x::xs,s=>(Jx b x++(docOf (XI x.en 1) xs s).1,(docOf (XI x.en 1) xs s).2)
noncomputable def He:Bool->List gq->Bool|b,[]=>b|_,x::xs=>He (XI x.en 1) xs
noncomputable def bX:LS->List gq->LS|L,[]=>L|L,x::xs=>bX (L.line x) xs
theorem tO{b:Bool}{o:Nat}{s:bV}{t:List Sg}{c:ax}:Yc o 32++Pc.tx ⟨eR b++(jJ s++t),c⟩ =Yc (o+nc b) 32++(bC s++(fz t++c)):=by show Yc o 32++(fz (eR b++(jJ s++t))++c)=_;rw[f6,f6,m5,<-List.replicate_append_replicate,Xf,Xf,Xf];cases b<;>rfl
theorem Dn:∀{xs:List Lb}{j:Nat},(∀x∈xs,x∈pf)->(bC (cT j xs)).length<=12*xs.length:=by
 intro xs;induction xs with
 |nil=>
  intro _ _;exact Xh _|cons x xs ih=>
  intro j h;have a:=ih (j:=j+1) λy m=>h y (.tail _ m);have b:=pe (h x (.head _));have e:(bC (iQ j x)).length<=x.lx.tx.length+2:=by cases j<;> (show(x.lx.tx++_).length<=_;rw[Xc];exact XF ll _)
  show(bC (iQ j x++cT (j+1) xs)).length<=_;rw[cB,Xc,Xq];exact UU a e b rfl
theorem ir (K:aL u){o:Nat}{b:Bool}{t:List Sg}{c:ax}(hA:A.rd=.lst [y,z]) (ok:x.ok) (M:LB L m) (U:m<=600) (ct:cE D L.g.c1 L.g.c2) (V:sJ L.g wrs) (h0:L.tr=[]) (O:o+nc b=L.cur.length) (Y:(fz t).all j8) (hc:c=[] \/ ∃c',c=35::c') (Z:(fz t++c).length<=100)
  (q:match(L.mid x).tr with|t::_=>xP X H (bN t.1) t.2|[]=>∀D' J,cE D' (L.mid x).g.c1 (L.mid x).g.c2->sJ (L.mid x).g J->P .none ⟨sQ A (L.mid x) J D' H,[W_ (.ref A.s),y1,W_ (.int (L.rows.length+1:Nat)),W_ (.str (Yc o 32++Pc.tx ⟨eR b++(jJ (kp x)++t),c⟩)),y4,y5,y6]⟩):
  wp u (eM Xg (n+13) X) o6 ⟨sQ A L wrs D H,[W_ (.ref A.s),y1,W_ (.int (L.rows.length+1:Nat)),W_ (.str (Yc o 32++Pc.tx ⟨eR b++(jJ (kp x)++t),c⟩)),y4,y5,y6]⟩ P:=by
 have tl:(bC (kp x)).length<=40000:=by
  have a:=Dn (xs:=x.bM) (j:=0) ok.2.1;have d:=(iW ok.2.2.1).2;have e:(bC (iK x.bd x.sv)).length<=2:=by unfold iK;cases x.bd.ref<;>cases x.sv<;>exact ll
  have f:=ok.1;show(bC (cT 0 x.bM++(x.bd.bb++iK x.bd x.sv))).length<=40000;rw[cB,cB,Xc,Xc];exact bB (Xm (Xa a (c7 f)) (Xm d e)) rfl
 have cl:=M.cur;refine⟨rfl,?_⟩;show CL u (n+13) 69 [.str _,.int _] _ _ _;rw[tO,O];refine Rp (n:=n+7) K ?_ (vK ok).ok (vK ok).Co Y hc (Xa (o_ ok) ll) λe=>Oe K hA ok M U ct V h0 ?_
 .rw[Xc,Zg,Xc];exact bB (Xm (Xa cl (c7 U)) (Xm tl Z)) rfl
 .revert q;cases(L.mid x).tr with|cons t r=>exact id|nil=>intro q D' J h1 h2;have:=q D' J h1 h2;rw[tO,O]at this;exact this
theorem lW:(L.mid x).cur=L.cur++bC (kp x)/\(L.mid x).rows=L.rows:=by
 have e:(L.aM 0 x.bM).cur=L.cur++bC (cT 0 x.bM)/\(L.aM 0 x.bM).rows=L.rows:=by rw[jT];exact⟨rfl,rfl⟩
 have e2:((L.aM 0 x.bM).body x.bd).cur=L.cur++bC (cT 0 x.bM)++bC x.bd.bb:=by show(L.aM 0 x.bM).cur++_=_;rw[e.1]
 have J:bC (kp x)=bC (cT 0 x.bM)++(bC x.bd.bb++bC (iK x.bd x.sv)):=by unfold kp;rw[cB,cB]
 rw[J,<-Xf,<-Xf,<-e2,<-e.2];show(((L.aM 0 x.bM).body x.bd).tail x.bd _ x.sv).cur=_/\(((L.aM 0 x.bM).body x.bd).tail x.bd _ x.sv).rows=_;unfold LS.tail iK;induction x.bd.ref with|true=>exact⟨(Xr _).symm,rfl⟩|false=>induction x.sv with|false=>exact⟨(Xr _).symm,rfl⟩|true=>cases x.bd.i9<;>exact⟨rfl,rfl⟩
theorem qB:∃t,(L.line x).tr=L.tr++t/\(L.line x).tr=(L.mid x).tr:=⟨_,(wI.2.trans vr),wI.2⟩
theorem F7:∀{xs:List gq}{L:LS},∃t,(bX L xs).tr=L.tr++t:=by
 intro xs;induction xs with|nil=>
  intro L;exact⟨[],(Xr _).symm⟩|cons x xs ih=>
  intro L;obtain⟨t,e,-⟩:=qB (L:=L) (x:=x);obtain⟨J,K⟩:=ih (L:=L.line x);exact⟨t++J,by show(bX (L.line x) xs).tr=_;rw[K,e,Xf]⟩
def hY (X:di->Hp->Prop)(H:Hp)(k:LS->Prop)(L:LS):Prop:=match L.tr with|t::_=>xP X H (bN t.1) t.2|[]=>k L
theorem uk{k:LS->Prop}{xs:List gq}(h0:L.tr=[]) (q:hY X H k (bX (L.line x) xs)):match(L.mid x).tr with|t::_=>xP X H (bN t.1) t.2|[]=>(L.line x).tr=[] /\hY X H k (bX (L.line x) xs):=by obtain⟨t1,M,e2⟩:=qB (L:=L) (x:=x);obtain⟨t2,K⟩:=F7 (xs:=xs) (L:=L.line x);have q0:=q;unfold hY at q;rw[K,e2]at q;revert q;generalize e:(L.mid x).tr=J;induction J using Xn with|cons t r=>exact λq=>q|nil=>exact λW=>⟨e2.trans e,q0⟩
noncomputable def x0:gq:=⟨[],.no,Xb,0⟩
theorem KU:x0.ok:=⟨Ye _,λW h=>W5 h XX,Xu,ll⟩
theorem Fo:L.mid x0=L:=by show(L.body .no).tail .no L.pl Xb=L;rw[I'];rfl
theorem lt4:∀n:Nat,n<4->n=0\/n=1\/n=2\/n=3:=by decide
theorem xH (K:aL u) (hA:A.rd=.lst [y,z]){o:Nat}{b:Bool}{F:List (Pc×Bool)}{Z:Pc}{W:Prop}(lb:LB L m) (hm:m+100<=600) (ct:cE D L.g.c1 L.g.c2) (wr:sJ L.g wrs) (h0:L.tr=[]) (ho:o+nc b=L.cur.length) (ok:x.ok)
  (q:match(L.mid x).tr with|t::_=>xP X H (bN t.1) t.2|[]=>W)
  (next:∀(o':Nat) (e:List gi) (D':List (Int×V)) (y2 y3:bG),W->cE D' (L.line x).g.c1 (L.line x).g.c2->sJ (L.line x).g e->o'+nc (XI x.en 1)=(L.line x).cur.length->forL (hH [2,3]) (wp u (eM Xg (n+13) X) o6) (kq ((L.line x).rows.length+1:Nat) o' F Z) ⟨sQ A (L.line x) e D' H,[W_ (.ref A.s),y1,y2,y3,y4,y5,y6]⟩ Q'):
  forL (hH [2,3]) (wp u (eM Xg (n+13) X) o6) (kq (L.rows.length+1:Nat) o (Jx b x++F) Z) ⟨sQ A L wrs D H,[W_ (.ref A.s),y1,y2,y3,y4,y5,y6]⟩ Q':=by
 have M:m<=600:=Xa (Xp ..) hm;have he:x.en<4:=ok.2.2.2;obtain⟨mc,mr⟩:=lW (L:=L) (x:=x);have Y:=lb.mid ok;obtain⟨bM,bd,sv,en⟩:=x;have hE:en<4:=he;have mr0:((L.mid ⟨bM,bd,sv,0⟩).rows.length+1:Nat)=L.rows.length+1:=WX (λa=>a.length+1) mr;have J:∀t,((L.mid ⟨bM,bd,sv,0⟩).rows++[t]).length=L.rows.length+1:=λt=>Xc.trans (WX (λa=>a.length+1) mr);have U:LB (L.mid ⟨bM,bd,sv,0⟩) (m+60):=Y;have mcL:(L.mid ⟨bM,bd,sv,0⟩).cur=L.cur++bC (kp ⟨bM,bd,sv,0⟩):=mc;clear mc mr Y he;revert ok q next;rcases lt4 _ hE with rfl|rfl|rfl|rfl
 .intro ok q next;refine ir K (t:=[]) (c:=[]) hA ok lb M ct wr h0 ho rfl (.inl rfl) ll ?_;revert q;cases(L.mid ⟨bM,bd,sv,0⟩).tr with|cons t r=>exact id|nil=>exact λq D' e c w=>(WX (λk=>kq (k:Nat) 0 F Z) (WX (λa=>a+1) (J _)))▸next 0 e D' _ _ q c w rfl
 .intro ok q next;refine ir K (t:=[.pl 32]) (c:=[]) hA ok lb M ct wr h0 ho rfl (.inl rfl) ll ?_;revert q;cases(L.mid ⟨bM,bd,sv,1⟩).tr with|cons t r=>exact id|nil=>
   intro q D' e c w;have pl:(je b ⟨bM,bd,sv,1⟩).tx.length=nc b+((bC (kp ⟨bM,bd,sv,0⟩)).length+1):=by show(fz (eR b++(jJ (kp ⟨bM,bd,sv,1⟩)++[Sg.pl 32]))++[]).length=_;rw[Xr,f6,f6,m5,Xc,Xc];cases b<;>rfl
   have nx:=next (o+(je b ⟨bM,bd,sv,1⟩).tx.length+1) e D' (W_ (.int (L.rows.length+1:Nat))) (W_ (.str (Yc o 32++(je b ⟨bM,bd,sv,1⟩).tx))) q c w (by show _+1=((L.mid ⟨bM,bd,sv,0⟩).cur++" ; ").length;rw[Xc,mcL,Xc,pl,<-ho];exact WX (λa=>a+2) (X_ ..).symm)
   rw[show((L.line ⟨bM,bd,sv,1⟩).rows.length+1:Nat)=L.rows.length+1 from mr0]at nx;exact nx
 .intro ok q next;refine ir K (t:=[.pl 32]) (c:="# ; p: 1b") hA ok lb M ct wr h0 ho rfl (.inr ⟨_,rfl⟩) ll ?_;revert q;cases(L.mid ⟨bM,bd,sv,2⟩).tr with|cons t r=>exact id|nil=>exact λq D' e c w=>(WX (λk=>kq (k:Nat) 0 F Z) (WX (λa=>a+1) (J _)))▸next 0 e D' _ _ q c w rfl
 .intro ok q next;refine ir K (t:=[.pl 9]) (c:=[]) hA ok lb M ct wr h0 ho rfl (.inl rfl) ll ?_;revert q;generalize em:(L.mid ⟨bM,bd,sv,3⟩).tr=zz;induction zz using Xn with|cons t r=>exact id|nil=>
   intro q D' e c w;have lb2:LB (((L.mid ⟨bM,bd,sv,0⟩).tx (s6 3)).nl) 600:=⟨(U.up (UO hm rfl)).g,(U.up (UO hm rfl)).tr,Ye _,by show((L.mid ⟨bM,bd,sv,0⟩).rows++[_]).length<=600;rw[Xc];exact Xa (XH U.rows) (UN hm rfl)⟩
   have g2:=ir (n:=n) (H:=H) (X:=X) (x:=x0) (L:=((L.mid ⟨bM,bd,sv,0⟩).tx (s6 3)).nl) (b:=Xb) (o:=0) (y1:=y1) (y4:=y4) (y5:=y5) (y6:=y6) (P:=Pm Q' λσ=>forL (hH [2,3]) (wp u (eM Xg (n+13) X) o6) (kq ((L.rows.length+1:Nat)+1+1) 0 F Z) σ Q') K (t:=[]) (c:=[]) hA KU lb2 (Xh _) c w em rfl rfl (.inl rfl) ll (by rw[Fo,show(((L.mid ⟨bM,bd,sv,0⟩).tx (s6 3)).nl).tr=[]from em];intro D'' O c' w';have nx:=next 0 O D'' (W_ (.int ((((L.mid ⟨bM,bd,sv,0⟩).tx (s6 3)).nl).rows.length+1:Nat))) (W_ (.str (Yc 0 32++Pc.tx ⟨eR Xb++(jJ (kp x0)++[]),[]⟩))) q c' w' rfl;rw[show((L.line ⟨bM,bd,sv,3⟩).rows.length+1:Nat)=L.rows.length+1+1+1 from (WX (λa=>a+1) Xc).trans (WX (λa=>a+2) (J _))]at nx;exact nx)
   rw[show((((L.mid ⟨bM,bd,sv,0⟩).tx (s6 3)).nl).rows.length+1:Nat)=L.rows.length+1+1 from WX (λa=>a+1) (J _)]at g2;exact g2
theorem xG (K:aL u){fin:bV}(hA:A.rd=.lst [y,z]):
  ∀(xs:List gq) (L:LS) (b:Bool) (o:Nat) (wrs:List gi) (D:List (Int×V)) (m:Nat) (y2 y3:bG),(∀x∈xs,x.ok)->o+nc b=L.cur.length->LB L m->m+100*xs.length<=600->cE D L.g.c1 L.g.c2->sJ L.g wrs->L.tr=[] ->
  hY X H (λL'=>∀D' e o' y2 y3,cE D' L'.g.c1 L'.g.c2->sJ L'.g e->o'+nc (He b xs)=L'.cur.length->forL (hH [2,3]) (wp u (eM Xg (n+13) X) o6) [xI (L'.rows.length+1:Nat) o' ⟨eR (He b xs)++(jJ fin++[]),[]⟩] ⟨sQ A L' e D' H,[W_ (.ref A.s),y1,y2,y3,y4,y5,y6]⟩ Q') (bX L xs)->
  forL (hH [2,3]) (wp u (eM Xg (n+13) X) o6) (kq (L.rows.length+1:Nat) o (docOf b xs fin).1 (docOf b xs fin).2) ⟨sQ A L wrs D H,[W_ (.ref A.s),y1,y2,y3,y4,y5,y6]⟩ Q':=by
 intro xs;induction xs with|nil=>
  intro L b o wrs D m y2 y3 _ ho U J ct O h0 q;have q:hY X H _ L:=q;unfold hY at q;rw[h0]at q;exact q D wrs o y2 y3 ct O ho|cons x xs ih=>
  exact λL b o wrs D m y2 y3 Y ho U J ct O h0 q=>xH K hA U (by rw[Xq]at J;exact MZ J) ct O h0 ho (Y x (.head _)) (uk h0 q) λo' e D' y2 y3 hq ct' M Z=>ih (L.line x) _ o' e D' (m+100) y2 y3 (λy m=>Y y (.tail _ m)) Z (U.line (Y x (.head _))) (by rw[Xq]at J;exact zU J) ct' M hq.1 hq.2
noncomputable def gv (f:Bool):bV:=match f with|true=>[W_ (.nu "1" 1),W_ (.sg 58),W_ (.nu "22" 22),W_ (.sg 58)]|false=>[]
def LS.fl(L:LS)(f:Bool):LS:=match f with|true=>(L.dm 0 (.lo Xb)).dm 0 (.lo Xg)|false=>L
theorem wH:(L.dm 0 (.lo Xb)).dm 0 (.lo Xg)=⟨L.rows,L.cur++bC (gv Xg),(L.g.iS Xb ⟨(L.rows.length+1:Nat),(L.cur.length:Int)+1⟩).iS Xg ⟨(L.rows.length+1:Nat),((L.cur.length+2:Nat):Int)+1⟩,L.tr⟩:=by
 have e:L.cur++"1"++":"++"22"++":"=L.cur++bC (gv Xg):=by rw[Xf,Xf,Xf];rfl
 have e2:(L.cur++"1"++":").length=L.cur.length+2:=by rw[Xf,Xc];rfl
 unfold LS.dm;rw[Ol,Ol];show LS.mk L.rows (L.cur++"1"++":"++"22"++":") ((L.g.iS Xb ⟨(L.rows.length+1:Nat),(L.cur.length:Int)+1⟩).iS Xg ⟨(L.rows.length+1:Nat),((L.cur++"1"++":").length:Int)+1⟩) L.tr=_;rw[e,e2]
theorem pP:g.ie (g.aw++[])=g:=by rw[Xr];rfl
theorem qH{k:Bool}:(g.iS k p).wt=g.wt/\(g.iS k p).eO=g.eO/\(g.iS k p).aw=g.aw:=by cases k<;>exact⟨rfl,rfl,rfl⟩
theorem Bg (K:aL u){f:Bool}{o:Nat}{b:Bool}(hA:A.rd=.lst [y,z]) (M:LB L m) (O:m<=600) (ct:cE D L.g.c1 L.g.c2) (U:sJ L.g wrs) (h0:L.tr=[]) (ho:o+nc b=L.cur.length)
  (q:∀D' y2 y3,cE D' (L.fl f).g.c1 (L.fl f).g.c2->sJ (L.fl f).g wrs->Q' .none ⟨sQ A (L.fl f) wrs D' H,[W_ (.ref A.s),y1,y2,y3,y4,y5,y6]⟩):
  forL (hH [2,3]) (wp u (eM Xg (n+13) X) o6) [xI (L.rows.length+1:Nat) o ⟨eR b++(jJ (gv f)++[]),[]⟩] ⟨sQ A L wrs D H,[W_ (.ref A.s),y1,y2,y3,y4,y5,y6]⟩ Q':=by
 have cl:=M.cur;have wl:wrs.length<=600:=by have:=WX List.length U.1;rw[Xl]at this;rw[this];exact Xa M.g.wt O
 refine⟨rfl,?_⟩;show CL u (n+13) 69 [.str _,.int _] _ _ _;rw[tO,ho];have V:GI (gv f)/\(gv f).length<=4/\(bC (gv f)).length<=5:=by cases f<;>exact⟨⟨by decide+kernel,rfl⟩,ll,ll⟩
 refine Rp (n:=n+7) K ?_ V.1.ok V.1.Co rfl (.inl rfl) (Xa V.2.1 ll) λe=>?_
 .rw[Xc,Zg,Xc];show _+(_+0)<=_;lia
 induction f with|false=>
  refine I1 (n:=n+5) K (l:=[]) (ws:=[]) (T:=[EN _ e]) rfl ll ct M.g (by show m+0<=1000;exact kI O rfl) (λW h=>W5 h XX) (.inl ⟨_,_,_,_,rfl⟩) ⟨_,_,_,rfl⟩ (Ye _) (M.g.mono (Xa O ll)) λD' J=>?_;show eh u (n+12) _ _ A _ [EN _ e] (bD A (L.g.ie (L.g.aw++[])) _ D' _);rw[pP];have q:=q D' (W_ (.int (L.rows.length+1:Nat))) (W_ (.str (Yc L.cur.length 32++(bC (gv Xb)++(fz []++[]))))) J U;exact Hg (n:=n+1) K q|true=>
  have e3:((L.cur.length+1+1:Nat):Int)=((L.cur.length+2:Nat):Int):=rfl;unfold LS.fl at q;rw[wH]at q;have Z:=(qH (g:=L.g.iS Xb ⟨(L.rows.length+1:Nat),(L.cur.length:Int)+1⟩) (k:=Xg) (p:=⟨(L.rows.length+1:Nat),((L.cur.length+2:Nat):Int)+1⟩)).1.trans qH.1;have Y:GB ((L.g.iS Xb ⟨(L.rows.length+1:Nat),(L.cur.length:Int)+1⟩).iS Xg ⟨(L.rows.length+1:Nat),((L.cur.length+2:Nat):Int)+1⟩) 1000:=((M.g.dm (.lo Xb,⟨(L.rows.length+1:Nat),(L.cur.length:Int)+1⟩)).dm (.lo Xg,⟨(L.rows.length+1:Nat),((L.cur.length+2:Nat):Int)+1⟩)).mono (pU O rfl);refine I1 (n:=n+5) K (l:=[(.lo Xb,⟨(L.rows.length+1:Nat),(L.cur.length:Int)+1⟩,Pt.obj ⟨(L.rows.length+1:Nat),((L.cur.length+1:Nat):Int)+1⟩),(.lo Xg,⟨(L.rows.length+1:Nat),((L.cur.length+2:Nat):Int)+1⟩,Pt.obj ⟨(L.rows.length+1:Nat),((L.cur.length+4:Nat):Int)+1⟩)]) (ws:=[]) rfl ll ct M.g (by show m+2<=1000;exact kI O rfl) (λy h=>by
   rcases Xv.mp h with rfl|h
   .rfl
   .rw[Xs.mp h];rfl) (.inl ⟨_,_,_,_,rfl⟩) ⟨_,_,_,rfl⟩ (Ye _) Y λD' J=>?_
  show eh u (n+12) _ _ A _ [EN _ e] (bD A (GS.ie _ (_++[])) _ D' _);rw[pP];have q:=q D' (W_ (.int (L.rows.length+1:Nat))) (W_ (.str (Yc L.cur.length 32++(bC (gv Xg)++(fz []++[]))))) J ⟨U.1.trans Z.symm,U.2⟩;exact Hg (n:=n+1) K q
def NF:N:=ao (bx (.bT 4 4 (ai 0 26 ae) #[aK,aj 0]) bh) (.gD 3 #[ag "no such local label ahead",b7]^aa) aa^aa
def VV:N:=.dY (.me 0 27 4) (.iA [4,5,6] (.fb (ai 0 27 ae)) NF^aC (.bI 0 60 [0,0,0,0,0] ae .bJ)^.dY (.me 0 24 0) (az (ai 0 24 ae)^aa))
noncomputable def g00:GS:=⟨0,0,[],[],[],[],0,0⟩
def fx:LS:=⟨[],[],g00,[]⟩
def JO(e:QE):Prop:=(∃a∈jF,e.w=[a])/\ ∀ns,kv ns->e.x.sh ns []=Xg
structure SP (g:GS):Prop where
 eq:∀e∈g.eq,JO e
 wt:∀e∈g.wt,aF g.st e.i=W_ (.code e.p)
 st:∀s∈g.st,(∃p,s=.code p) \/s.Nn
theorem nA{l:List QE}(h:∀e∈l,JO e):kv (l.map (λW=>W.w)):=by
 intro s hs;induction l with|nil=>exact ff hs|cons e l ih=>
  have hs:(sEq e.w s||aN s (l.map (λW=>W.w))):=hs;generalize q:sEq e.w s=J;induction J with
  |true=>
   obtain⟨⟨a,K,e2⟩,-⟩:=h e (.head _);rw[bH]at q;exact⟨a,K,(W6 q).symm.trans e2⟩|false=>
   rw[q,Bool.false_or]at hs;exact ih (λe m=>h e (.tail _ m)) hs
theorem Pz{l:List QE}(h:∀e∈l,JO e)(M:l.length<=900):Jl l:=by
 have J:=nA h;refine⟨M,?_,λr m=>⟨(h r m).2 _ J,?_⟩⟩
 .generalize e:aN [] (l.map (λW=>W.w))=K;induction K with|false=>rfl|true=>obtain⟨a,-,e2⟩:=J _ e;cases e2
 .obtain⟨⟨a,-,e2⟩,-⟩:=h r m;rw[e2];exact ll
variable{h2:Addr×MO}
theorem Cc (K:aL u){h1 h3:Addr×MO}(ct:cE D g.c1 g.c2):∀{l:List AE}{y4 y5 y6:bG},(match oy g l with|some p=>xP X H 3 p|none=>∀y4 y5 y6,Q' .none ⟨CS u A g (.ref A.eq) (.ref A.wt)::h1::h2::h3::(A.ct,.bz D)::H,[W_ (.ref A.s),y1,y2,y3,y4,y5,y6]⟩)->
  forL (hH [4,5,6]) (wp u (eM Xg (n+2) X) NF) (l.map AE.row) ⟨CS u A g (.ref A.eq) (.ref A.wt)::h1::h2::h3::(A.ct,.bz D)::H,[W_ (.ref A.s),y1,y2,y3,y4,y5,y6]⟩ Q':=by
 intro l;induction l with|nil=>exact λq=>q _ _ _|cons a l ih=>
  intro y4 y5 y6 q;refine⟨rfl,⟨rfl,Xu⟩,rfl,_,ct.get a.k,?_⟩;generalize e:YM (g.cn a.k) a.n=J;induction J with
  |true=>
   rw[Ey e]at q;exact aW (Eu e) (x3 K rfl rfl rfl (q _ [_,_,_,_,_]))|false=>
   rw[Ez e]at q;exact bp (Ew e) (ih q)
def um (Q:V->Hp->Prop) (X:di->Hp->Prop) (H:Hp) (L:LS):Prop:=match oy L.g L.g.aw with|some p=>xP X H 3 p|none=>xS X H (λF=>xR X H (λL'=>∀e1 e2 e3,Q (.lst L') (e1::e2::e3::H)) (dg (dM F) L.g.wt (L.g.st.map SE.obj))) (iB L.g.eq)
variable{h0:Addr×MO}
theorem Gb (K:aL u) (Y:A.rd=yG u) (inv:SP L.g) (Z:LB L m) (hm:m<=800) (ct:cE D L.g.c1 L.g.c2) (V:sJ L.g wrs) (q:um Q X (h0::H) L):
  wp u (eM Xg (n+13) X) VV ⟨sQ A L wrs D (h0::H),[W_ (.ref A.s),y1,y2,y3,Xk,Xk,Xk]⟩ (eQ Q):=by
 obtain⟨as,ast,J,M,O,U,rd⟩:=A;have Y:rd=yG u:=Y;subst Y;refine⟨rfl,rfl,Cc (A:=⟨as,ast,J,M,O,U,yG u⟩) (g:=L.g) (H:=xN wrs.reverse++h0::H) (n:=n+11) K ct ?_⟩;unfold um at q;revert q;cases oy L.g L.g.aw with|some p=>exact λq=>xP.ext q|none=>
  intro q y4 y5 y6;have hw:∀w∈wrs,Jg (L.g.eq.map (λW=>W.w)) w/\w.e.i<L.g.st.length:=λw mw=>⟨V.2 w mw _ (nA inv.eq),eF (inv.wt w.e (by rw[<-V.1];exact Yi.mpr ⟨w,mw,rfl⟩))⟩;refine⟨rfl,aco (A:=⟨as,ast,J,M,O,U,yG u⟩) (n:=n) K rfl (List.reverse_perm wrs) (Pz inv.eq (Xa Z.g.eq (up hm rfl))) hw (Xa Z.g.st (up hm rfl)) ?_⟩;rw[show wrs.map (λW=>W.e)=L.g.wt from V.1];revert q;cases iB L.g.eq with|inl p=>exact id|inr F=>show xR _ _ _ _->xR _ _ _ _;cases dg (dM F) L.g.wt (L.g.st.map SE.obj)with|inl p=>exact id|inr L'=>exact λq sc T eqs rows=>⟨rfl,⟨rfl,q _ _ _⟩⟩
noncomputable def fI (L:LS):ax:=L.rows.flatMap (λW=>W++[10])++L.cur
theorem nh:fI L.nl=fI L++[10]:=by show(L.rows++[L.cur]).flatMap (λW=>W++[10])++[]=L.rows.flatMap (λW=>W++[10])++L.cur++[10];rw[Xr,List.flatMap_append,Xf];show _++(L.cur++[10]++[])=_;rw[Xr]
theorem ng{t:ax}:fI (L.tx t)=fI L++t:=(Xf ..).symm
theorem uZ:fI (L.mid x)=fI L++bC (kp x):=by unfold fI;rw[lW.1,lW.2,Xf]
theorem u1{f:Bool}:fI (L.fl f)=fI L++bC (gv f):=by
 induction f with|false=>exact(Xr _).symm|true=>show fI ((L.dm 0 (.lo Xb)).dm 0 (.lo Xg))=_;rw[wH];exact(Xf ..).symm
theorem nj{b:Bool}{s:bV}{t:List Sg}{c:ax}:Pc.tx ⟨eR b++(jJ s++t),c⟩ =fz (eR b)++(bC s++(fz t++c)):=by show fz (eR b++(jJ s++t))++c=_;rw[f6,f6,m5,Xf,Xf]
theorem Ip{f:Bool}:∀{xs:List gq}{L:LS}{b:Bool}{R:ax},(∀x∈xs,x.en<4)->fI L=R++fz (eR b)->fI ((bX L xs).fl f)=R++j0 (docOf b xs (gv f)).1 (docOf b xs (gv f)).2:=by
 intro xs;induction xs with|nil=>
  intro L b R _ h;show fI (L.fl f)=R++Pc.tx ⟨eR b++(jJ (gv f)++[]),[]⟩;rw[u1,h,nj];show _=R++(fz (eR b)++(bC (gv f)++[]));rw[Xr,Xf]|cons x0 xs ih=>
  obtain⟨bM,bd,sv,en⟩:=x0;intro L b R J h;have ih:=λK R'=>ih (L:=L.line ⟨bM,bd,sv,en⟩) (b:=K) (R:=R') λx m=>J x (.tail _ m);have h4:en<4:=J _ (.head _);have e:=uZ (L:=L) (x:=⟨bM,bd,sv,en⟩);rw[h]at e;clear h J;revert ih e;revert en;refine NB ?_ ?_ ?_ ?_
  .intro ih e;have:=ih Xb (R++((je b ⟨bM,bd,sv,0⟩).tx++[10])) (by show fI ((L.mid ⟨bM,bd,sv,0⟩).tx []).nl=_++[];rw[nh,ng,e,je,nj];show _=R++(fz (eR b)++(bC _++[])++[10])++[];simp only[Xr,Xf])
   refine this.trans ?_;show _=R++((je b ⟨bM,bd,sv,0⟩).tx++10::j0 _ _);simp only[Xf];rfl
  .intro ih e;have:=ih Xg (R++((je b ⟨bM,bd,sv,1⟩).tx++";")) (by show fI ((L.mid ⟨bM,bd,sv,1⟩).tx " ; ")=_++" ";rw[ng,e,je,nj];show _=R++(fz (eR b)++(bC _++" ")++";")++" ";simp only[Xf];rfl)
   refine this.trans ?_;show _=R++((je b ⟨bM,bd,sv,1⟩).tx++59::j0 _ _);simp only[Xf];rfl
  .intro ih e;have:=ih Xb (R++((je b ⟨bM,bd,sv,2⟩).tx++[10])) (by show fI ((L.mid ⟨bM,bd,sv,2⟩).tx " # ; p: 1b").nl=_++[];rw[nh,ng,e,je,nj];show _=R++(fz (eR b)++(bC _++" # ; p: 1b")++[10])++[];simp only[Xr,Xf])
   refine this.trans ?_;show _=R++((je b ⟨bM,bd,sv,2⟩).tx++10::j0 _ _);simp only[Xf];rfl
  .intro ih e;have:=ih Xb (R++((je b ⟨bM,bd,sv,3⟩).tx++"\n\n")) (by show fI ((L.mid ⟨bM,bd,sv,3⟩).tx [9]).nl.nl=_++[];rw[nh,nh,ng,e,je,nj];show _=R++(fz (eR b)++(bC _++[9])++"\n\n")++[];simp only[Xr,Xf];rfl)
   refine this.trans ?_;show _=R++((je b ⟨bM,bd,sv,3⟩).tx++10::([]++10::j0 _ _));simp only[Xf];rfl
theorem nk{b:Bool}{s:bV}{t:List Sg}{c:ax}{nl:Bool}(h:(jJ s).all Sg.ok)(h2:t.all Sg.ok)(h3:Ju c)(h4:(nl||c.isEmpty)):Pc.ok ⟨eR b++(jJ s++t),c⟩ nl:=by show((eR b++(jJ s++t)).all Sg.ok&&Ju c&&(nl||c.isEmpty));rw[YI,YI,h,h2,h3,h4];cases b<;>rfl
theorem Iq{f:Bool}:∀{xs:List gq}{b:Bool},(∀x∈xs,x.ok)->(docOf b xs (gv f)).1.all (λx=>x.1.ok x.2)/\(docOf b xs (gv f)).2.ok Xg/\(docOf b xs (gv f)).1.length<=2*xs.length:=by
 intro xs;induction xs with|nil=>
  intro b _;exact⟨rfl,nk (by cases f<;>decide) rfl rfl rfl,Xh _⟩|cons x xs ih=>
  intro b h;obtain⟨h1,h2,h3⟩:=ih (b:=XI x.en 1) λy m=>h y (.tail _ m);have ok:=Od (h x (.head _));have e:x.en<4:=(h x (.head _)).2.2.2;have key:(Jx b x).all (λx=>x.1.ok x.2)/\(Jx b x).length<=2:=by
   obtain⟨bM,bd,sv,en⟩:=x;replace e:en<4:=e;clear h h1 h2 h3;revert ok;revert en;refine NB ?_ ?_ ?_ ?_
   .exact λok=>⟨by show((je b _).ok Xg&&Xg)=Xg;rw[je,nk ok rfl rfl rfl];rfl,ll⟩
   .exact λok=>⟨by show((je b _).ok Xb&&Xg)=Xg;rw[je,nk ok rfl rfl rfl];rfl,ll⟩
   .exact λok=>⟨(WX (λW=>W&&Xg) (nk (c:="# ; p: 1b") (nl:=Xg) ok (t:=[.pl 32]) rfl rfl rfl)).trans rfl,ll⟩
   .exact λok=>⟨by show((je b _).ok Xg&&(emP.ok Xg&&Xg))=Xg;rw[je,nk ok rfl rfl rfl];rfl,ll⟩
  refine⟨by show(Jx b x++_).all _=Xg;rw[YI,key.1,h1];rfl,h2,?_⟩;show(Jx b x++_).length<=_;rw[Xc,Xq];have:=key.2;exact UW h3 this
theorem Hu (ok:x.ok):(bC (kp x)).length<=40000:=by
 have a:=Dn (xs:=x.bM) (j:=0) ok.2.1;have d:=(iW ok.2.2.1).2;have e:(bC (iK x.bd x.sv)).length<=2:=by unfold iK;cases x.bd.ref<;>cases x.sv<;>exact ll
 have f:=ok.1;show(bC (cT 0 x.bM++(x.bd.bb++iK x.bd x.sv))).length<=40000;rw[cB,cB,Xc,Xc];exact bB (Xm (Xa a (c7 f)) (Xm d e)) rfl
theorem Aa (ok:x.ok):(fI (L.line x)).length<=(fI L).length+50000:=by
 have t:=Hu ok;have e:=WX List.length (uZ (L:=L) (x:=x));rw[Xc]at e;have nl:∀{L:LS},(fI L.nl).length=(fI L).length+1:=by intro L;rw[nh,Xc];rfl
 have tx:∀{L:LS}{t:ax},(fI (L.tx t)).length=(fI L).length+t.length:=by intro L t;rw[ng,Xc]
 obtain⟨bM,bd,sv,en⟩:=x;have K:en<4:=ok.2.2.2;have J:(fI (L.line ⟨bM,bd,sv,en⟩)).length<=(fI (L.mid ⟨bM,bd,sv,en⟩)).length+12:=by
  clear ok t e;revert en;refine NB ?_ ?_ ?_ ?_
  .exact Xa (X4 (nl.trans (WX (λW=>W+1) tx))) (XF (ll:1<=12) _)
  .exact Xa (X4 tx) (XF (ll:3<=12) _)
  .exact Xa (X4 (nl.trans (WX (λW=>W+1) tx))) (XF (ll:11<=12) _)
  .exact Xa (X4 (nl.trans (WX (λW=>W+1) (nl.trans (WX (λW=>W+1) tx))))) (XF (ll:3<=12) _)
 exact Xa (Xa J (Xm (Xa (X4 e) (Xm (Xh (fI L).length) t)) (Xh 12))) (qI rfl)
theorem uY:∀{xs:List gq}{L:LS},(∀x∈xs,x.ok)->(fI (bX L xs)).length<=(fI L).length+50000*xs.length:=by
 intro xs;induction xs with
 |nil=>
  intro _ _;exact Xh _|cons x xs ih=>
  intro L h;have a:=ih (L:=L.line x) λy m=>h y (.tail _ m);have b:=Aa (L:=L) (h x (.head _));show(fI (bX (L.line x) xs)).length<=_;rw[Xq];exact UT a b
theorem l7:∀{xs:List gq}{L:LS}{m:Nat},LB L m->(∀x∈xs,x.ok)->LB (bX L xs) (m+100*xs.length):=by
 intro xs;induction xs with
 |nil=>
  intro _ _ h _;exact h|cons x xs ih=>
  intro L m h e;exact(ih (h.line (e x (.head _))) λy m=>e y (.tail _ m)).up (by rw[Xq];exact ur)
theorem vW{f:Bool}(h:LB L m):LB (L.fl f) (m+10):=by induction f with|false=>exact h.up (Xp _ _)|true=>exact(h.dm (x:=.lo Xb) (j:=0) ll).dm (x:=.lo Xg) (j:=0) ll|>.up (qI rfl)
theorem rV:LB fx 0:=⟨⟨ll,ll,ll,ll,ll,ll,ll,ll⟩,ll,ll,ll⟩
theorem c99 (K:aL u){xs:List gq}{f:Bool}(U:A.rd=yG u) (J:∀x∈xs,x.ok) (M:xs.length<=6) (inv:SP ((bX fx xs).fl f).g)
  (q:hY X (h0::H) (λL=>um Q X (h0::H) (L.fl f)) (bX fx xs)):
  CL u (n+14) 99 [.ref A.s,.str (fI ((bX fx xs).fl f))] (bD A g00 [] [] (h0::H)) Q X:=by
 have Y:=l7 rV J;have tx:=Ip (f:=f) (xs:=xs) (L:=fx) (b:=Xb) (R:=[]) (λx m=>(J x m).2.2.2) rfl;obtain⟨o1,o2,o3⟩:=Iq (f:=f) (xs:=xs) (b:=Xb) J;have hT:(fI ((bX fx xs).fl f)).length<=16777216:=by
  have a:=uY (L:=fx) J;have b:(bC (gv f)).length<=5:=by cases f<;>exact ll
  rw[u1,Xc];have c:(fI fx).length=0:=rfl;exact bB (Xm (Xa a (Xm (Xa (X4 c) (Xh 0)) (c7 M))) b) rfl
 refine ent K aaZ rfl (c51 (n:=n+8) K hT tx o1 o2 (bB (Xa o3 (c7 M)) rfl) ?_);obtain⟨y,z,e2⟩:∃y z,yG u=.lst [y,z]:=⟨_,_,rfl⟩;refine xG (n:=n) K (U.trans e2) xs fx Xb 0 [] [] 0 Xk Xk J rfl rV (bB (Xm (Xh 0) (c7 M)) rfl) ⟨rfl,rfl,ll⟩ ⟨rfl,λW h=>W5 h XX⟩ rfl ?_;revert q;unfold hY;generalize e:(bX fx xs).tr=Z;induction Z using Xn with|cons t r=>exact id|nil=>intro q D wrs o y2 y3 ct wr ho;exact Bg (n:=n) K (U.trans e2) Y (bB (Xm (Xh 0) (c7 M)) rfl) ct wr e ho λD' y2 y3 V O=>Gb (n:=n) K U inv (vW Y) (bB (Xm (Xm (Xh 0) (c7 M)) (Xh 10)) rfl) V O q
variable{Q':V->Hp->Prop}
theorem w20 (K:aL u){r:V}{k:Addr->Fs->Hp->Prop}(q:∀s st wt eq ct aw,k s [(21,.int 5000),(22,r),(23,.int 0),(24,.ref st),(25,.ref wt),(13,.ref eq),(26,.ref ct),(27,.ref aw),(28,.int 0)] ((st,.list [])::(wt,.list [])::(eq,.list [])::(ct,.bz [])::(aw,.list [])::H)):dk (GX u) Xg (n+2) 20 98 [.int 5000,r] H k X:=λs=>ent K aa0 rfl ⟨rfl,rfl,rfl,λst=>⟨rfl,λwt=>⟨rfl,λeq=>⟨rfl,λct=>⟨rfl,λaw=>⟨rfl,rfl,⟨rfl,rfl,rfl⟩,q s st wt eq ct aw⟩⟩⟩⟩⟩⟩
theorem um.imp (f:∀L' J e2 e,Q (.lst L') (J::e2::e::H)->Q' (.lst L') (J::e2::e::H)) (q:um Q X H L):um Q' X H L:=by
 unfold um at q⊢;revert q;cases oy L.g L.g.aw with|some p=>exact id|none=>
  show xS _ _ _ _->xS _ _ _ _;cases iB L.g.eq with|inl p=>exact id|inr F=>show xR _ _ _ _->xR _ _ _ _;cases dg (dM F) L.g.wt (L.g.st.map SE.obj)with|inl p=>exact id|inr L'=>exact λq J e2 e=>f _ _ _ _ (q J e2 e)
theorem hY.imp{k e:LS->Prop}(f:∀L,k L->e L)(q:hY X H k L):hY X H e L:=by unfold hY at q⊢;revert q;induction L.tr using Xn with|cons t r=>exact id|nil=>exact f L
theorem acg (K:aL u){xs:List gq}{f:Bool}{h1:Addr×MO}(e:∀x∈xs,x.ok) (J:xs.length<=6) (inv:SP ((bX fx xs).fl f).g)
  (q:hY X (h0::h1::h2::H) (λL=>um Q X (h0::h1::h2::H) (L.fl f)) (bX fx xs)):
  CL u (n+16) 115 [.int 5000,.str (fI ((bX fx xs).fl f)),yG u] (h0::h1::h2::H) Q X:=
 ent K Q6 rfl (w20 (n:=n+13) K λs st wt eq ct aw=>⟨rfl,c99 (n:=n+1) (A:=⟨s,st,wt,eq,ct,aw,yG u⟩) K rfl e J inv (hY.imp (λW=>um.imp λW W W W q=>q) q)⟩)
variable{E:Hp}{c:Nat}{mv:V}
theorem c4f (K:aL u){b:Bool}(q:Q p.tup ((a,.inst 2 (bN b) [(2,mv),(3,p.obj)])::H)):gr (GX u) Xb (n+2) 4 [.ref a] ((a,.inst 2 (bN b) [(2,mv),(3,p.obj)])::H) Q X:=by induction b with|false=>exact ent K QL rfl ⟨rfl,j7 (λW e=>nomatch e),rfl,c2f K q⟩|true=>exact ent K QL rfl ⟨rfl,j7 (λW e=>nomatch e),rfl,c2f K q⟩
noncomputable def JL(F:FT):aP->aP->Prop|[],[]=>True|v::l,t::T=>RT F v t/\JL F l T|_,_=>False
def pg (L:LS):(Bool×Pt) ⊕ (FT×aP):=match oy L.g L.g.aw with|some p=>.inl (Xg,p)|none=>match iB L.g.eq with|.inl p=>.inl (Xg,p)|.inr F=>match dg (dM F) L.g.wt (L.g.st.map SE.obj)with|.inl p=>.inl (Xb,p)|.inr L'=>.inr (dM F,L')
def hQ (Q:V->Hp->Prop)(H:Hp):(Bool×Pt) ⊕ (FT×aP)->Prop|.inl x=>Q (mI x) H|.inr y=>∃T,JL y.1 y.2 T/\T.length<=1000/\Q (.lst T) H
def C9:N:=.dY .JF (ao (ei aq cq) (az aq^aa) aa^az (.lc [] (.fb ay) (.lit (.bool Xg)) vo)^aa)
theorem tQ (K:aL u){F:FT}{k:aP->Hp->Prop}:∀{l T:aP}{acc:aP}{y:bG},JL F l T->acc.length+T.length<=1000->k (acc++T) H->ou (wp u ⟨Xg,n+4,iX⟩ (.lit (.bool Xg))) (wp u ⟨Xg,n+4,iX⟩ vo) l acc ⟨H,[y]⟩ k:=by
 intro l;induction l with
 |nil=>intro T _ _ h _ q;induction T using Xn with|nil=>rw[Xr]at q;exact q|cons=>exact h.elim
 |cons v l ih=>
  intro T acc _ h e q;induction T using Xn with|nil=>exact h.elim|cons t T=>
  rw[Xq]at e;refine F9 K h.1 ⟨Xz (Xa (Xp ..) e) ll,ih h.2 ?_ ?_⟩
  .rw[Xc,X_,YN [t].length];exact e
  .rw[Xf];exact q
theorem jy (K:aL u){M J:bG}{x:Bool×Pt}(q:Q (mI x) H):wp u (eM Xg (n+16) X) C9 ⟨E++H,[W_ y,W_ (mI x),M,J]⟩ (eQ Q):=
 ⟨E,H,.refl _,j7 (λW e=>nomatch e),q⟩
theorem BE (K:aL u){l T:aP}{F:FT}{J:bG}(h:JL F l T)(M:T.length<=1000)(q:Q (.lst T) H):wp u (eM Xg (n+16) X) C9 ⟨E++H,[W_ y,W_ .none,W_ (.lst l),J]⟩ (eQ Q):=
 ⟨E,H,.refl _,j7 (λW e=>nomatch e),tQ (n:=n+12) K h (by rw[Yh,X7];exact M) q⟩
def v5 (f:Bool)(L:LS):(Bool×Pt) ⊕ (FT×aP):=match L.tr with|t::_=>.inl t|[]=>pg (L.fl f)
def C8 (w:ax):N:=(.yN (.asg 1 (.tup (.oz (.lit (.str w)) (.oz (.bI 0 29 [0] (.loc 3) .bJ) .bJ)))) .B9)
theorem mu (K:aL u){b:Bool}{e:V}(q:∀E,P .none ⟨E++H,[W_ y,W_ (mI (b,p)),W_ e,Xk]⟩):
  rx mM [(2,3,wp u ⟨Xb,n+4,iX⟩ (C8 "read")),(3,3,wp u ⟨Xb,n+4,iX⟩ (C8 "symbol"))] (bN b,[(2,mv),(3,p.obj)]) ⟨E++H,[W_ y,W_ .none,W_ e,Xk]⟩ P:=by
 induction b with|false=>exact⟨rfl,ll,λa=>⟨rfl,c4f (b:=Xb) (n:=n+2) K (q _)⟩⟩|true=>exact⟨rfl,rfl,ll,λa=>⟨rfl,c4f (b:=Xg) (n:=n+2) K (q _)⟩⟩
theorem ab5 (K:aL u){xs:List gq}{f:Bool}{h1:Addr×MO}(J:∀x∈xs,x.ok) (e:xs.length<=6) (inv:SP ((bX fx xs).fl f).g) (q:hQ Q (h0::h1::h2::H) (v5 f (bX fx xs))):
  CL u (n+18) 131 [.str (fI ((bX fx xs).fl f))] (h0::h1::h2::H) Q X:=by
 refine ent K QQ rfl (acg (n:=n+1) K J e inv ?_);unfold v5 at q;unfold hY;revert q;cases(bX fx xs).tr with|cons t r=>exact λq m E=>mu (n:=n+13) K λE=>jy (n:=n+1) K q|nil=>
  show hQ _ _ (pg _)->um _ _ _ _;unfold pg um;cases oy ((bX fx xs).fl f).g ((bX fx xs).fl f).g.aw with|some p=>exact λq m E=>mu (b:=Xg) (n:=n+13) K λE=>jy (n:=n+1) K q|none=>
   cases iB ((bX fx xs).fl f).g.eq with|inl p=>exact λq m E=>mu (b:=Xg) (n:=n+13) K λE=>jy (n:=n+1) K q|inr F=>show hQ _ _ (match dg _ _ _ with|.inl p=>.inl (Xb,p)|.inr L'=>.inr (dM F,L'))->xR _ _ _ (dg _ _ _);cases dg (dM F) ((bX fx xs).fl f).g.wt (((bX fx xs).fl f).g.st.map SE.obj)with|inl p=>exact λq m E=>mu (b:=Xb) (n:=n+13) K λE=>jy (n:=n+1) K q|inr L'=>exact λ⟨T,r,e,q⟩ O e2 M=>BE (E:=[O,e2,M]) (n:=n+1) K r e q
variable{c:ax}
def yI:Str:=S [10]
theorem Ho:∀{l:List ax}{c:ax},(Str.join yI ((l++[c]).map S)).cps.toList=l.flatMap (λW=>W++[10])++c:=by
 intro l;induction l with
 |nil=>
  intro c;exact rfl|cons x l ih=>
  intro c;have ih:=ih (c:=c)
  have e:(S x++yI).cps.toList=x++[10]:=Array.toList_append;induction l using Xn with|nil=>
   show((S x++yI).cps++(S c).cps).toList=x++[10]++[]++c;rw[Array.toList_append,e,Xr];rfl|cons y l=>
   show((S x++yI).cps++(Str.join yI ((y::l++[c]).map S)).cps).toList=x++[10]++(y::l).flatMap (λW=>W++[10])++c;rw[Array.toList_append,ih,e,Xf (x++[10])]
theorem Li:∀{l:List ax}{c:ax},(((l++[c]).map S).map (λW=>W.length)).sum+((l++[c]).map S).length*yI.length=(l.flatMap (λW=>W++[10])++c).length+1:=by
 intro l;induction l with
 |nil=>
  intro c;rfl|cons x l ih=>
  intro c;have ih:=ih (c:=c);have e:yI.length=1:=rfl;have e2:(S x).length=x.length:=rfl;rw[e]at ih⊢;simp only[YK,Ys,List.sum_cons,Xq,List.flatMap_cons,Xc,Yh]at ih⊢;rw[e2];lia
theorem AL{p:Nat}{a:Addr}{kk:V->Hp->Prop}(J:(fI L).length<=16777215) (M:aF H p=W_ (a,.list (L.rows.map .str++[.str L.cur]))) (q:kk (.str (fI L)) H):Hm p H (.str [10]) (.ref a) kk:=by
 have e:(Txt.join yI ((L.rows++[L.cur]).map S)).cps.toList=fI L:=by show(Yy.Str.glued yI _).cps.toList=_;rw[StrLaws.glued_eq_join];exact Ho
 have K:JoinOk yI ((L.rows++[L.cur]).map S):=by unfold JoinOk;rw[StrLaws.joinTotal,Li];have J:(fI L).length+1<=16777216:=XH J;exact WX (!·) (W2 (Y4.mpr J))
 refine fK.of M (show ∃ns:List ax,_ from ⟨L.rows++[L.cur],⟨by rw[XQ];rfl,K,joinOk_length K⟩,?_⟩);rw[show(Txt.join (S [10]) ((L.rows++[L.cur]).map S)).cps.toList=fI L from e];exact q
variable{p:PN}
def Agree:(Bool×Pt) ⊕ (FT×aP)->(Bool×Pt) ⊕aP->Prop|.inl x,.inl y=>x=y|.inr y,.inr D=>JL y.1 y.2 D/\D.length<=1000/\sX 12 (.lst D)=Xg|_,_=>False
structure og (f:Bool) (L:LS):Prop where
 inv:SP (L.fl f).g
 d:JQ ((L.fl f).g.st.map SE.bj) (L.fl f).g.wt
 e:∀e∈(L.fl f).g.wt,∀e'∈(L.fl f).g.wt,e.i=e'.i->e.p=e'.p
 s:∀F S,gw (λW=>Xk) (L.fl f).g.eq=.inr F->eP F (λW=>Xk) (L.fl f).g.eq=.inr S-> ∀e∈(L.fl f).g.wt,∃a,dO S e.x=W_ a
 a:Agree (v5 f L) (sf (L.fl f).g (L.fl f).tr)
def C7:N:=aC (.a_ 127 [0,0,0,0,0,0,0,0,0] #[aq,aK])^aa
variable{y0:bG}
theorem turns (K:aL u){Q':V->St->Prop}:∀{l:aP}{L:LS}{p:PN}{m:Nat}{y5:bG},a8 p m->LB L m->m+90*l.length<=590->
  (∀xs p' y5,xs.length=l.length->(∀x∈xs,gq.ok x)->a8 p' (m+90*l.length)->Q' .none ⟨bq B p' (bX L xs) H,[y0,W_ (.ref B.dX),y2,y3,W_ (dN B),y5,y6]⟩)->
  forL (n6 5) (wp u (eM Xg (n+5) X) C7) l ⟨bq B p L H,[y0,W_ (.ref B.dX),y2,y3,W_ (dN B),y5,y6]⟩ Q':=by
 intro l;induction l with|nil=>
  intro L p m y5 O J U q;exact q [] p y5 rfl (λW h=>W5 h XX) O|cons v l ih=>
  intro L p m y5 O J U q;rw[Xq]at U;refine ab7 K O J (by lia) λx p' Y M=>ih M (((J.mid Y).fin).up (qI rfl)) (zU U) λxs p2 y5 e h h2=>q (x::xs) p2 y5 (WX (λW=>W+1) e) (λy my=>?_) (h2.up (by rw[Xq];exact ur));rcases Xv.mp my with rfl|my
  .exact Y
  .exact h y my
theorem VD{x:Bool×Pt}:sX 12 (mI x):=by obtain⟨b,p⟩:=x;cases b<;>rfl
def C5:N:=az (.cmp .Eq 0 1 (.a_ 131 [] #[.bT 1 6 (ag [10]) #[ay]]) (.a_ 130 [] #[aK]))^aa
theorem qD (K:aL u){xs:List gq}{f:Bool}(O:∀x∈xs,x.ok) (M:xs.length<=6) (ok:og f (bX fx xs)) (q:∀H,Q (.bool Xg) H):
  wp u (eM Xg (n+18) X) C5 ⟨bq B p ((bX fx xs).fl f) H,[y0,W_ (.ref B.dX),W_ (.ref B.cu),y3,W_ (dN B),y5,y6]⟩ (eQ Q):=by
 have U:=vW (f:=f) (l7 rV O);have V:(fI ((bX fx xs).fl f)).length<=16777215:=by
  have a:=uY (L:=fx) O;have b:(bC (gv f)).length<=5:=by cases f<;>exact ll
  rw[u1,Xc]
  have c:(fI fx).length=0:=rfl;exact bB (Xm (Xa a (Xm (Xa (X4 c) (Xh 0)) (c7 M))) b) rfl
 refine⟨Xu,AL (p:=1) (H:=bq B p ((bX fx xs).fl f) H) (a:=B.cu) (L:=(bX fx xs).fl f) V rfl ?_⟩;refine ab5 (n:=n) K O M ok.inv ?_;have J:=ok.a;have c:=λQ q=>ab6 (Q:=Q) (X:=X) (B:=B) (p:=p) (H:=H) (rows:=((bX fx xs).fl f).rows) (cur:=((bX fx xs).fl f).cur) (tr:=((bX fx xs).fl f).tr) (n:=n+6) K (Xa U.g.st (bB (Xm (Xm (Xh 0) (c7 M)) (Xh 10)) rfl)) (Xa U.g.eq (bB (Xm (Xm (Xh 0) (c7 M)) (Xh 10)) rfl)) ok.d ok.e ok.s q;revert J c
 cases v5 f (bX fx xs)with
 |inl x=>
  cases sf ((bX fx xs).fl f).g ((bX fx xs).fl f).tr with
  |inl y=>
   intro J c
   cases J;exact c _ λE=>⟨⟨rfl,VD⟩,q _⟩|inr D=>exact λh=>h.elim
 |inr x=>
  cases sf ((bX fx xs).fl f).g ((bX fx xs).fl f).tr with
  |inl y=>exact λh=>h.elim
  |inr D=>exact λJ c=>⟨D,J.1,J.2.1,c _ λE=>⟨⟨rfl,J.2.2⟩,q _⟩⟩
variable{β:Type}
theorem qZ{f:α->β}{a b:Option Int}{l:List α}:cut a b (l.map f)=(cut a b l).map f:=by unfold cut;rw[Xl,<-List.map_drop,<-List.map_take]
theorem Qy{l:List α}:(cut Xk (W_ 63) l).length<=63:=
 Xa (List.length_take_le ..) (Xa (Nat.sub_le ..) (Int.toNat_le.mpr (Int.max_le.mpr ⟨by decide,Int.min_le_left ..⟩)))
def C6:N:=.il 2 (ah (aJ 2 aD b7) (aj 1)) aD b7^aC (.bT 5 0 (aG 0 4 aK) #[au #[au #[ag "label",ah (ah (.bU 5 0 #[b7]) (ag "$")) (.bU 5 0 #[aJ 2 aD b7])],.a_ 119 [1] #[ay,.bU 5 0 #[b7]]]])^aC (.a_ 119 [1] #[ay,ag ":"])^aa
theorem qG (K:aL u){k:Bool}{Q':V->St->Prop}(O:LB L m) (U:m<=900)
  (q:Q' .none ⟨bq B p (L.dm 0 (.lo k)) H,[y0,W_ (.ref B.dX),W_ (.ref B.cu),W_ (.ref B.ct),W_ (dN B),y5,W_ (.int (fV k))]⟩):
  wp u (eM Xg (n+1) X) C6 ⟨bq B p L H,[y0,W_ (.ref B.dX),W_ (.ref B.cu),W_ (.ref B.ct),W_ (dN B),y5,W_ (.int (fV k))]⟩ Q':=by
 have Z:(L.g.st.map SE.bj).length<16777216:=ba (Xa O.g.st (up U rfl))
 have e:LB L 1000:=O.up (up U rfl)
 obtain⟨e1,e2⟩:=eJ (XO (L.g.cn k+1)) (hU (Xa (xT O.g k) (up U rfl)));unfold LS.dm at q;rw[Ol]at q;induction k with|false=>
  have q:Q' .none ⟨cO B p::bW B L.rows (L.cur++"1"++":")::cY B ((L.g.inc Xb).put (.dm (dR Xb (L.g.c1+1)) L.pl)) L.tr H,_⟩:=q;have M: "1"=dec (fV Xb):=gW (k:=Xb);have J:(dec (fV Xb)).length<=2:=by rw[<-M];exact ll
  have e4:(fV Xb).natAbs.log2<1920/\(dec (fV Xb)).length<=16777216:=⟨by decide+kernel,Xa J ll⟩
  have Y:(L.cur++dec (fV Xb)).length+(":":ax).length<=16777216:=by
   have:=e.cur
   rw[Xc];show _+_+1<=_;exact pU this rfl
  rw[cJ,M,show dR Xb (L.g.c1+1)=dec (fV Xb)++"$"++dec ((L.g.c1+1:Nat):Int)from rfl]at q;exact⟨rfl,_,rfl,rfl,hZ rfl,⟨⟨rfl,Xu⟩,e4,Xa (Xw J 1) ll,rfl,_,rfl,e1,Xa (Xm (Xw J 1) e2) ll,e4,cD (n:=n) K (bE e (Xh _) (Xa J ll)) ⟨rfl,Z,cD (n:=n) K Y q⟩⟩⟩|true=>
  have q:Q' .none ⟨cO B p::bW B L.rows (L.cur++"22"++":")::cY B ((L.g.inc Xg).put (.dm (dR Xg (L.g.c2+1)) L.pl)) L.tr H,_⟩:=q;have M: "22"=dec (fV Xg):=gW (k:=Xg);have J:(dec (fV Xg)).length<=2:=by rw[<-M];exact ll
  have e4:(fV Xg).natAbs.log2<1920/\(dec (fV Xg)).length<=16777216:=⟨by decide+kernel,Xa J ll⟩
  have Y:(L.cur++dec (fV Xg)).length+(":":ax).length<=16777216:=by
   have:=e.cur
   rw[Xc];show _+_+1<=_;exact pU this rfl
  rw[cJ,M,show dR Xg (L.g.c2+1)=dec (fV Xg)++"$"++dec ((L.g.c2+1:Nat):Int)from rfl]at q;exact⟨rfl,_,rfl,rfl,hZ rfl,⟨⟨rfl,Xu⟩,e4,Xa (Xw J 1) ll,rfl,_,rfl,e1,Xa (Xm (Xw J 1) e2) ll,e4,cD (n:=n) K (bE e (Xh _) (Xa J ll)) ⟨rfl,Z,cD (n:=n) K Y q⟩⟩⟩
def NI:N:=.eH 5 (.yK #[ah (aj 3) (.a_ 118 [0] #[aq,aj 4])]) C7^ao (bx (.a_ 118 [0] #[aq,aj 4]) (aj 3)) (.eH 6 (.fb (au #[aj 1,aj 22])) C6^aa) aa^C5
theorem Hc (K:aL u) (Y:a8 p 1) (JM:∀xs f,(∀x∈xs,gq.ok x)->xs.length<=6->og f (bX fx xs)) (q:∀H,Q (.bool Xg) H):
  wp u (eM Xg (n+18) X) NI ⟨bq B p fx H,[y0,W_ (.ref B.dX),W_ (.ref B.cu),W_ (.ref B.ct),W_ (dN B),Xk,Xk]⟩ (eQ Q):=by
 have M:∀{r:Nat},(eu (3+(r:Int)).toNat).length=3+r:=by intro r;unfold eu;rw[Xl,YB];exact rfl
 refine eN (n:=n+17) K (k:=4) (m:=1) Y ll ll ll λr p1 J h1=>⟨MQ J rfl,turns (n:=n+13) (L:=fx) (m:=10) K (h1.up ll) (rV.up ll) ?_ λxs p2 y5 e ok h2=>?_⟩
 .rw[M];exact bB (Xm (Xh 10) (c7 (Xm (Xh 3) (jL J)))) rfl
 have e:xs.length<=6:=by rw[e,M];exact bB (Xm (Xh 3) (jL J)) rfl
 refine eN (n:=n+17) K (k:=4) h2 (by rw[M];exact bB (Xm (Xh 10) (c7 (Xm (Xh 3) (jL J)))) rfl) ll ll λU p3 V h3=>fO (b:=decide ((U:Int)<3)) (λW=>?_) λW=>?_
 .have O:=l7 rV ok;refine qG (k:=Xb) (n:=n+17) K O (bB (Xm (Xh 0) (c7 e)) rfl) (qG (k:=Xg) (n:=n+17) K ((O.dm (x:=.lo Xb) (j:=0) ll)) (bB (Xm (Xm (Xh 0) (c7 e)) (Xh 4)) rfl) ?_);exact qD (f:=Xg) (n:=n) K ok e (JM xs Xg ok e) q
 .exact qD (f:=Xb) (n:=n) K ok e (JM xs Xb ok e) q
theorem ab4 (K:aL u){ns:List Int}(JM:∀xs f,(∀x∈xs,gq.ok x)->xs.length<=6->og f (bX fx xs)) (q:∀H,Q (.bool Xg) H):CL u (n+19) 132 [.lst (ns.map .int)] H Q X:=by refine ent K QP rfl ?_;refine⟨cut Xk (W_ 63) ns,qZ,(by decide: ¬(1009:Int)=0),λdX cu ct aw eq hu wt tr ta=>?_⟩;obtain⟨r,J,e⟩:=fm (a:=if(cut Xk (W_ 63) ns).sum<0 then-(cut Xk (W_ 63) ns).sum else (cut Xk (W_ 63) ns).sum) (m:=1009) ll;have:=Hc (n:=n) (H:=H) (Q:=Q) (X:=X) (B:=⟨dX,cu,ct,aw,eq,hu,wt,tr,ta⟩) (p:=⟨cut Xk (W_ 63) ns,0,0,(r:Int)⟩) (y0:=W_ (.lst (ns.map .int))) K ⟨Xa Qy ll,Int.le_refl _,(by decide:(0:Int)<=(1:Nat)),XO _,by show(r:Int)<=1008;exact MV J rfl⟩ JM q;rw[<-e]at this;rw[qZ];exact this
variable{T:FE}{F:FT}{x:Ex}{s h:ax}{g:Bool}{n:Int}
theorem mw:∀{l:List ax},aN s l=Xg↔s∈l:=by
 intro l;induction l with|nil=>
  exact⟨(nomatch ·),(nomatch ·)⟩|cons y l ih=>
  show(sEq y s||aN s l)=Xg↔_;rw[ZI,ih,Xv,bH];exact or_congr ⟨λe=>(W6 e).symm,λe=>by rw[e];exact WY _⟩ Iff.rfl
theorem GJ{l:List ax}:aN s l=Xb↔s∉l:=by rw[<-mw];cases aN s l<;>decide
def vA(T:FE)(d:Nat)(x:Ex):Option Af:=(fu T d x).map dq
def sF(T:FE)(d:Nat)(s:ax):Option Af:=(iM T d s).map dq
def shf(g:Bool)(n:Int)(a:Af):Af:=⟨Nf g a.w n,a.p,a.m⟩
theorem zH{a:A3}:dq (sm g a ⟨n,[],[]⟩)=shf g n (dq a):=by cases g<;> (show dq ⟨_,a.p++[],a.m++[]⟩ =_;rw[Xr,Xr];rfl)
theorem jq (e:T s=Xk):sF T d s=W_ ⟨0,s,[]⟩:=by cases d<;> (show Zk dq (match T s with|none=>_|some _=>_)=_;rw[e];rfl)
theorem jo{y:Ex}(e:T s=W_ y):sF T (d+1) s=vA T d y:=by show Zk dq (match T s with|none=>_|some y=>fu T d y)=_;rw[e];rfl
theorem zM{y:Ex}(e:T s=W_ y):sF T 0 s=Xk:=by show Zk dq (match T s with|none=>_|some _=>Xk)=_;rw[e];rfl
theorem Jc{b:Af}(e:sF T d s=W_ b):∃a,iM T d s=W_ a/\dq a=b:=by revert e;show Zk dq (iM T d s)=W_ b->_;cases iM T d s with|none=>exact λe=>nomatch e|some a=>exact λe=>⟨a,rfl,XG e⟩
theorem qC{p m:ax}:dq ⟨0,[p],[m]⟩ =eB p m:=by
 unfold dq eB;have e:aN p [m]=sEq m p:=Z' _;have e2:aN m [p]=sEq p m:=Z' _;have J:sEq m p=sEq p m:=by rw[bH,bH];exact BEq.comm
 show(⟨0,Pd (match !aN p [m]with|true=>[p]|false=>[]),Pd (match !aN m [p]with|true=>[m]|false=>[])⟩:Af)=_;rw[e,e2,J];cases sEq p m<;>rfl
theorem key (h0:h=[] \/h= ".") (sh:x.sh ns h) (U:∀s,aN s ns=Xb->T s=Xk) (hF:∀s,aN s ns=Xb->F s=Xk) (hs:∀s∈x.lU,sF T d s=W_ (F.at s)):vA T d x=W_ (x.af F h):=by
 have hd:(At.dot).sh h->h= "." :=λe=>h0.elim (λe2=>by subst e2;exact ff e) id
 unfold vA
 rw[gf]
 induction x with
 |«at» a=>induction a with
  |num v=>rfl
  |dot=>rw[hd sh];rfl
  |sym s=>exact hs s (.head _)
 |bin g a b=>induction b with
  |dot=>exact W5 sh (by cases a<;>exact λe=>nomatch e)
  |num n=>
   induction a with
   |num=>exact ff sh
   |dot=>rw[hd sh];cases g<;>rfl
   |sym s=>
    obtain⟨a,K,e2⟩:=Jc (hs s (.head _))
    show Zk dq (mn g (iM T d s) _)=W_ (shf g n (F.at s))
    rw[K,<-e2]
    exact WX W_ zH
  |sym y=>
   have sh:(g&&(a.Jt h&&(a.out ns&&(!sEq y []&&!aN y ns)))):=sh;rw[XS,XS,XS,XS]at sh;obtain⟨rfl,O,M,s3,Y⟩:=sh;have Z:T y=Xk:=U y ((XR _).mp Y);have V:iM T d y=W_ ⟨0,[y],[]⟩:=by cases d<;> (show(match T y with|none=>_|some _=>_)=_;rw[Z])
   induction a with
   |num=>exact ff O
   |dot=>
    have e:h= "." :=hd O
    subst e;show Zk dq (mn Xg (W_ ⟨0,["."],[]⟩) (iM T d y))=W_ (eB "." y);rw[V];exact WX W_ qC|sym s=>
    have es:=hF s ((XR _).mp M)
    have J:=U s ((XR _).mp M)
    have K:iM T d s=W_ ⟨0,[s],[]⟩:=by cases d<;> (show(match T s with|none=>_|some _=>_)=_;rw[J])
    show Zk dq (mn Xg (iM T d s) (iM T d y))=W_ (eB (F.at s).p y)
    rw[K,V,show F.at s=⟨0,s,[]⟩from by unfold FT.at;rw[es]]
    exact WX W_ qC
theorem Wu{f:α->β}{o:Option α}(e:o.map f=Xk):o=Xk:=by induction o with|none=>rfl|some=>exact Tr e
theorem pR (hs:s∈x.lU) (e:sF T d s=Xk):vA T d x=Xk:=by
 have e:=Wu e;unfold vA;rw[gf];have J:∀{a:At},s∈a.lU->jn (iM T d) a=Xk:=λ{a}m=>by induction a with|sym z=>rw[Xs.mp m]at e;exact e|num=>cases m|dot=>cases m
 induction x with|«at» a=>exact WX (Zk dq) (J hs)|bin g a b=>
  show Zk dq (mn g (jn (iM T d) a) (jn (iM T d) b))=Xk;rcases Yk.mp hs with m|m
  .rw[J m];rfl
  .rw[J m];cases jn (iM T d) a<;>rfl
theorem nV{k K:ax->Option A3}(h:∀s a,k s=W_ a->K s=W_ a){a:A3}(e:HV k x=W_ a):HV K x=W_ a:=by
 have J:∀{y:At}{a:A3},jn k y=W_ a->jn K y=W_ a:=λ{y a}e=>by induction y with|sym z=>exact h z a e|num=>exact e|dot=>exact e
 induction x with|«at» y=>exact J e|bin g y z=>have e:mn g (jn k y) (jn k z)=W_ a:=e;show mn g (jn K y) (jn K z)=W_ a;revert e;generalize O:jn k y=M;induction M with|none=>exact λe=>nomatch e|some b=>generalize e2:jn k z=M;induction M with|none=>exact λe=>nomatch e|some c=>rw[J O,J e2];exact id
theorem yo:∀{d:Nat}{s:ax}{a:A3},iM T d s=W_ a->iM T (d+1) s=W_ a
 |0,s,a,e=>by
  revert e;show(match T s with|none=>W_ ⟨0,[s],[]⟩|some _=>Xk)=W_ a->(match T s with|none=>W_ ⟨0,[s],[]⟩|some y=>fu T 0 y)=W_ a;cases T s with
  |none=>exact id|some y=>exact λe=>nomatch e
 |d+1,s,a,e=>by
  revert e;show(match T s with|none=>W_ ⟨0,[s],[]⟩|some y=>fu T d y)=W_ a->(match T s with|none=>W_ ⟨0,[s],[]⟩|some y=>fu T (d+1) y)=W_ a;cases T s with|none=>exact id|some y=>show fu T d y=W_ a->fu T (d+1) y=W_ a;rw[gf,gf];exact nV λs a=>yo
theorem kF{b:Af}(e:vA T d x=W_ b):vA T (d+1) x=W_ b:=by revert e;unfold vA;rw[gf,gf];generalize e:HV (iM T d) x=J;induction J with|none=>exact λe=>nomatch e|some a=>rw[nV (λs a=>yo) e];exact id
theorem kG{b:Af}(e:vA T d x=W_ b):∀{d':Nat},d<=d'->vA T d' x=W_ b
 |0,h=>by rw[Nat.le_zero.mp h]at e;exact e|d'+1,h=>by
  rcases Nat.lt_or_eq_of_le h with h|h
  .exact kF (kG e (ZZ h))
  .rw[<-h];exact e
variable{n:Nat}{es:List QE}
def sT(T:FE):FE:=λs=>match T s with|none=>Xk|some y=>match vA T 3 y with|some a=>(match sEq a.m []with|true=>W_ y|false=>Xk)|none=>Xk
theorem iq(e:T s=Xk):sT T s=Xk:=by unfold sT;rw[e]
theorem lN{y:Ex}{a:Af}(e:T s=W_ y)(v:vA T 3 y=W_ a):sT T s=match sEq a.m []with|true=>W_ y|false=>Xk:=by unfold sT;rw[e];show(match vA T 3 y with|some a=>(match sEq a.m []with|true=>W_ y|false=>Xk)|none=>Xk)=_;rw[v]
structure TQ (T:FE)(es:List QE):Prop where
 t:∀r∈es,T r.w=W_ r.x
 o:∀s,aN s (es.map (λW=>W.w))=Xb->T s=Xk
 sh:∀r∈es,r.x.sh (es.map (λW=>W.w)) []=Xg
structure PS (T:FE)(es:List QE)(F:FT)(n:Nat):Prop where
 o:∀s,aN s (es.map (λW=>W.w))=Xb->F s=Xk
 v:∀r∈es,∀a,F r.w=W_ a->vA T n r.x=W_ a
 z:∀r∈es,∀a,F r.w=W_ a->sEq a.m []=Xg->vA (sT T) n r.x=W_ a
inductive ac6(s:ax)(es:List QE):Prop|mk(r:_)(h0:r∈es)(h1:r.w=s)
theorem nF (h:aN s (es.map (λW=>W.w))):ac6 s es:=let ⟨r,a,b⟩:=Yi.mp (mw.mp h);⟨r,a,b⟩
theorem acs (sh:x.sh ns h)(O:∀s,aN s ns=Xb->F s=Xk)(m:s∈x.lU)(i:aN s ns):(x.af F h).m=(F.at s).m:=by
 induction x with
 |«at» a=>induction a with
  |sym z=>rw[Xs.mp m];rfl|num=>cases m
  |dot=>cases m
 |bin g a b=>induction b with
  |dot=>exact W5 sh (by cases a<;>exact(nomatch ·))
  |num n=>induction a with
   |sym z=>rw[show s=z from Xs.mp m];rfl
   |num=>cases m
   |dot=>cases m
  |sym y=>
   have sh:(g&&(a.Jt h&&(a.out ns&&(!sEq y []&&!aN y ns)))):=sh;rw[XS,XS,XS,XS]at sh;obtain⟨rfl,M,e,K,J⟩:=sh;rcases Yk.mp m with m|m
   .induction a with|sym z=>rw[Xs.mp m]at i;have e:(!aN z ns):=e;rw[i]at e;exact ff e|num=>cases m|dot=>cases m
   .rw[Xs.mp m]at i;rw[i]at J;exact ff J
theorem PS.put (U:TQ T es) (p:PS T es F n) (hn:n<=3){r:QE}(Z:r∈es) (e:F r.w=Xk) (rd:mJ (es.map (λW=>W.w)) F r.x) (nd:∀q∈es,q.w=r.w->q=r):PS T es (F.put r.w (r.x.af F [])) (n+1):=by
 have Y:∀s∈r.x.lU,aN s (es.map (λW=>W.w))-> ∃b,F s=W_ b:=λs m i=>by have:=XM.mp rd s m;rw[i]at this;exact Y3.mp this
 have sh:=U.sh r Z
 have v1:vA T (n+1) r.x=W_ (r.x.af F []):=key (.inl rfl) sh U.o p.o λs m=>by
  generalize i:aN s (es.map (λW=>W.w))=M;induction M with
  |false=>rw[jq (U.o s i)];unfold FT.at;rw[p.o s i]|true=>
   obtain⟨b,V⟩:=Y s m i;obtain⟨q,K,rfl⟩:=nF i
   rw[jo (U.t q K),p.v q K b V];unfold FT.at;rw[V]
 have v2:sEq (r.x.af F []).m [] ->vA (sT T) (n+1) r.x=W_ (r.x.af F []):=λO=>key (.inl rfl) sh (λs i=>iq (U.o s i)) p.o λs m=>by
  generalize i:aN s (es.map (λW=>W.w))=M;induction M with
  |false=>rw[jq (iq (U.o s i))];unfold FT.at;rw[p.o s i]|true=>
   obtain⟨b,V⟩:=Y s m i;rw[acs sh p.o m i]at O
   have J:F.at s=b:=by unfold FT.at;rw[V]
   rw[J]at O⊢
   obtain⟨q,K,rfl⟩:=nF i
   have e3:sT T q.w=W_ q.x:=by rw[lN (U.t q K) (kG (p.v q K b V) hn),O]
   rw[jo e3,p.z q K b V O]
 refine⟨λs i=>?_,λq K a J=>?_,λq K a J O=>?_⟩
 .show(match sEq s r.w with|true=>_|false=>_)=_
  generalize i2:sEq s r.w=M;induction M with|false=>exact p.o s i|true=>rw[bH]at i2;rw[W6 i2,GJ]at i;exact W5 (Yi.mpr ⟨r,Z,rfl⟩) i
 .have J:(match sEq q.w r.w with|true=>W_ (r.x.af F [])|false=>F q.w)=W_ a:=J;generalize i2:sEq q.w r.w=M;induction M with|false=>rw[i2]at J;exact kF (p.v q K a J)|true=>rw[i2]at J;rw[bH]at i2;rw[nd q K (W6 i2),<-XG J];exact v1
 .have J:(match sEq q.w r.w with|true=>W_ (r.x.af F [])|false=>F q.w)=W_ a:=J;generalize i2:sEq q.w r.w=M;induction M with|false=>rw[i2]at J;exact kF (p.z q K a J O)|true=>rw[i2]at J;rw[bH]at i2;rw[<-XG J]at O⊢;rw[nd q K (W6 i2)];exact v2 O
noncomputable def hJ(F:FT)(r:QE):Bool:=(F r.w).isNone
theorem oM{a:Af}(h:s≠w):F.put w a s=F s:=by show(match sEq s w with|true=>_|false=>_)=_;rw[bH,W9.mpr h]
theorem Gj{a:Af}:F.put w a w=W_ a:=by show(match sEq w w with|true=>_|false=>_)=_;rw[bH,WY]
inductive Ss (T:FE)(es:List QE)(l lat:List QE)(F:FT):Prop|mk (F' n')(e:pass (es.map (λW=>W.w)) F lat l=(F',lat++l.filter (hJ F')))(p:PS T es F' n')(h1:n'+(lat++l.filter (hJ F')).length<=3)(h2:∀s,s∉l.map (λW=>W.w)->F' s=F s)(h3:∀s b,F s=W_ b->F' s=W_ b)(h4:(l.filter (hJ F')).length=l.length->F'=F/\ ∀r∈l,mJ (es.map (λW=>W.w)) F r.x=Xb)
theorem Ab (tq:TQ T es) (nd:∀q∈es,∀r∈es,q.w=r.w->q=r):∀{l lat:List QE}{F:FT}{n:Nat},PS T es F n->(∀r∈l,r∈es)->n+lat.length+l.length<=3->(l.map (λW=>W.w)).Nodup->(∀r∈l,F r.w=Xk)->
  Ss T es l lat F:=by
 intro l;induction l with|nil=>
  intro lat F n p _ M _ _;exact⟨F,n,by rw[show([]:List QE).filter (hJ F)=[]from rfl,Xr];rfl,p,by rw[List.filter_nil,Xr];exact M,λW W=>rfl,λW W e=>e,λW=>⟨rfl,λW m=>W5 m XX⟩⟩|cons r l ih=>
  intro lat F n p Z M hd Y;rw[Xq]at M;rw[Ys,X5]at hd;have hr:=Z r (.head _);have U:=Y r (.head _);generalize e:mJ (es.map (λW=>W.w)) F r.x=zz;induction zz with
  |true=>
   obtain⟨F',V,O,p',h1,h2,h3,h4⟩:=ih (lat:=lat) (p.put tq (UX M) hr U e λq hq=>nd q hq r hr) (λq m=>Z q (.tail _ m)) (UZ M) hd.2 λq m=>by rw[oM λe=>hd.1 (by rw[<-e];exact Yi.mpr ⟨q,m,rfl⟩)];exact Y q (.tail _ m)
   have er:F' r.w=W_ (r.x.af F []):=(h2 r.w hd.1).trans Gj;have K:(r::l).filter (hJ F')=l.filter (hJ F'):=List.filter_cons_of_neg (by unfold hJ;rw[er];exact λh=>nomatch h);refine⟨F',V,?_,p',by rw[K];exact h1,λs m=>?_,λs b J=>?_,λel=>?_⟩
   .show(match mJ (es.map (λW=>W.w)) F r.x with|true=>_|false=>_)=_;rw[e,K];exact O
   .rw[Ys,Xv,not_or]at m;exact(h2 s m.2).trans (oM m.1)
   .refine h3 s b ?_;rw[oM λe=>by rw[e,U]at J;exact gG J];exact J
   .have:=Zh (hJ F') l;rw[K,Xq]at el;exact W5 (el▸this) (Nat.not_succ_le_self _)|false=>
   obtain⟨F',V,O,p',h1,h2,h3,h4⟩:=ih (lat:=lat++[r]) p (λq m=>Z q (.tail _ m)) (by rw[Xc];show n+(lat.length+1)+_<=3;exact UY M) hd.2 λq m=>Y q (.tail _ m);have er:F' r.w=Xk:=(h2 r.w hd.1).trans U;have K:(r::l).filter (hJ F')=r::l.filter (hJ F'):=List.filter_cons_of_pos (by unfold hJ;rw[er];rfl);rw[Xf]at O h1;refine⟨F',V,?_,p',by rw[K];exact h1,λs m=>?_,h3,λel=>?_⟩
   .show(match mJ (es.map (λW=>W.w)) F r.x with|true=>_|false=>_)=_;rw[e,K];exact O
   .rw[Ys,Xv,not_or]at m;exact h2 s m.2
   .rw[K,Xq,Xq]at el;obtain⟨g1,g2⟩:=h4 (Yg el);refine⟨g1,λq m=>?_⟩;rcases Xv.mp m with rfl|m
    .exact e
    .exact g2 q m
theorem stuck (U:TQ T es)(p:PS T es F n)(h:∀r∈es.filter (hJ F),mJ (es.map (λW=>W.w)) F r.x=Xb):∀{d:Nat}{r:QE},r∈es.filter (hJ F)->vA T d r.x=Xk:=by
 intro d;have st:∀{r:QE},r∈es.filter (hJ F)-> ∃s∈r.x.lU,∃q∈es.filter (hJ F),q.w=s/\T s=W_ q.x:=λ{r}m=>by obtain⟨s,J,e⟩:=List.all_eq_false.mp (h r m);rw[ZI,not_or,XR,Bool.not_eq_false]at e;obtain⟨q,M,rfl⟩:=nF e.1;refine⟨q.w,J,q,List.mem_filter.mpr ⟨M,?_⟩,rfl,U.t q M⟩;unfold hJ;generalize e2:F q.w=O;induction O with|none=>rfl|some=>exact W5 (by rw[e2];rfl) e.2
 induction d with|zero=>
  intro r m;obtain⟨s,J,q,K,-,e⟩:=st m;exact pR J (zM e)|succ d ih=>
  intro r m;obtain⟨s,J,q,K,-,e⟩:=st m;exact pR J ((jo e).trans (ih K))
theorem zD{k:Nat}{F':FT}{r y:QE}{l t:List QE}(e:pass ns F [] (r::l)=(F',y::t))(J:XI (y::t).length (l.length+1)):solve ns (k+1) F (r::l)=.inl y.p:=by show(match XI (pass ns F [] (r::l)).2.length (l.length+1),(pass ns F [] (r::l)).2 with|true,y::_=>Sum.inl y.p|_,lat=>solve ns k (pass ns F [] (r::l)).1 lat)=_;rw[e];show(match XI (y::t).length (l.length+1),y::t with|true,y::_=>Sum.inl y.p|_,lat=>solve ns k F' lat)=_;rw[J]
theorem zE{k:Nat}{F':FT}{r:QE}{l t:List QE}(e:pass ns F [] (r::l)=(F',t))(J:XI t.length (l.length+1)=Xb):solve ns (k+1) F (r::l)=solve ns k F' t:=by show(match XI (pass ns F [] (r::l)).2.length (l.length+1),(pass ns F [] (r::l)).2 with|true,y::_=>Sum.inl y.p|_,lat=>solve ns k (pass ns F [] (r::l)).1 lat)=_;rw[e];show(match XI t.length (l.length+1),t with|true,y::_=>Sum.inl y.p|_,lat=>solve ns k F' lat)=_;rw[J]
inductive Ji(T:FE)(es:List QE)(R:Pt⊕FT):Prop|ok(F' n')(e:R=.inr F')(p:PS T es F' n')(h:n'<=3)(a:∀r∈es,∃a,F' r.w=W_ a)|bad(es1 y es2:_)(e:es=es1++y::es2)(e1:R=.inl y.p)(h1:∀r∈es1,∃a,vA T 3 r.x=W_ a)(h2:∀d,vA T d y.x=Xk)
theorem wa (e:es.filter (hJ F)=[])(r:QE)(m:r∈es):∃a,F r.w=W_ a:=by have:=List.filter_eq_nil_iff.mp e r m;unfold hJ at this;generalize e2:F r.w=J;induction J with|some a=>exact⟨a,rfl⟩|none=>rw[e2]at this;exact W5 rfl this
theorem t9 (tq:TQ T es) (nd:∀q∈es,∀r∈es,q.w=r.w->q=r) (V:(es.map (λW=>W.w)).Nodup):∀{k:Nat}{F:FT}{n:Nat},(es.filter (hJ F)).length<=k->PS T es F n->n+(es.filter (hJ F)).length<=3->
  Ji T es (solve (es.map (λW=>W.w)) k F (es.filter (hJ F))):=by
 intro k
 induction k with
 |zero=>
  intro F n hk p M
  have e:es.filter (hJ F)=[]:=List.length_eq_zero_iff.mp (Nat.le_zero.mp hk)
  exact .ok F n (by rw[e];rfl) p (Xa (Xp ..) M) (wa e)
 |succ k ih=>
  intro F n hk p M
  generalize e:es.filter (hJ F)=K;induction K using Xn with
  |nil=>exact .ok F n rfl p (Xa (Xp ..) M) (wa e)
  |cons r l=>
   have sub:∀q∈r::l,q∈es/\F q.w=Xk:=λq m=>by
    rw[<-e,List.mem_filter]at m
    exact⟨m.1,Option.isNone_iff_eq_none.mp m.2⟩
   have U:((r::l).map (λW=>W.w)).Nodup:=by rw[<-e];exact V.sublist ((List.filter_sublist ..).map _)
   obtain⟨F',n',O,p',h1,h2,h3,h4⟩:=Ab tq nd (l:=r::l) (lat:=[]) p (λq m=>(sub q m).1) (by rw[<-e];exact M) U λq m=>(sub q m).2
   rw[List.nil_append]at O h1
   have ff:(r::l).filter (hJ F')=es.filter (hJ F'):=by
    rw[<-e,List.filter_filter]
    refine List.filter_congr λq mq=>?_
    unfold hJ
    generalize e2:F q.w=K;induction K with
    |none=>exact Z_ _
    |some b=>rw[h3 q.w b e2];rfl
   generalize J:XI ((r::l).filter (hJ F')).length (l.length+1)=K;induction K with
   |true=>obtain⟨rfl,nr⟩:=h4 (XJ J);rw[ff,e]at O J;rw[zD O J];obtain⟨Z,Y,e5,e6,e7,e8⟩:=List.filter_eq_cons_iff.mp e;refine .bad Z r Y e5 rfl (λq m=>?_) λd=>stuck tq p (λq m=>nr q (by rw[<-e];exact m)) (by rw[e];exact .head _);have:=e6 q m;unfold hJ at this;generalize e2:F' q.w=K;induction K with|some a=>exact⟨a,kG (p.v q (by rw[e5];exact X9 _ m) a e2) (Us M rfl)⟩|none=>rw[e2]at this;exact W5 rfl this
   |false=>
    have lt:(es.filter (hJ F')).length<=k:=by
     have a:=Zh (hJ F') (r::l)
     rw[ff]at a
     have J:=J
     rw[ff]at J
     have b:(es.filter (hJ F')).length≠l.length+1:=λe9=>by rw[e9,Nat.beq_refl]at J;exact ft J
     rw[Xq]at a
     rw[e,Xq]at hk
     lia
    rw[zE O J]
    rw[ff]at h1⊢
    exact ih lt p' h1
inductive adx (F:FE)(seen:List ax)(l:List QE):Prop|bad (p:_)(a:ia seen l=W_ p)(b:gw F l=.inl p)|ok (a:ia seen l=Xk)(F')(b:gw F l=.inr F')(c1:∀r∈l,F' r.w=W_ r.x)(c2:∀s,s∉l.map (λW=>W.w)->F' s=F s)(c3:(l.map (λW=>W.w)).Nodup)(c4:∀r∈l,r.w∉seen)
theorem Io:∀{l:List QE}{F:FE}{seen:List ax},(∀s,(F s).isSome=aN s seen)->adx F seen l:=by
 intro l;induction l with|nil=>
  intro F seen _;exact .ok rfl F rfl (λW m=>W5 m XX) (λW W=>rfl) List.nodup_nil λW m=>W5 m XX|cons r l ih=>
  intro F seen K;generalize e:aN r.w seen=J;induction J with|true=>
   refine .bad r.p ?_ ?_
   .show(match aN r.w seen with|true=>_|false=>_)=_;rw[e]
   .show(match(F r.w).isSome with|true=>_|false=>_)=_;rw[K,e]|false=>
   have U:ia seen (r::l)=ia (seen++[r.w]) l:=by show(match aN r.w seen with|true=>_|false=>_)=_;rw[e]
   have e2:gw F (r::l)=gw (F.put r.w r.x) l:=by show(match(F r.w).isSome with|true=>_|false=>_)=_;rw[K,e]
   rcases ih (F:=F.put r.w r.x) (seen:=seen++[r.w]) (λs=>by
    have hs:=K s;show(match sEq s r.w with|true=>W_ r.x|false=>F s).isSome=_;rw[bH];generalize O:(s==r.w)=J;induction J with|true=>exact(mw.mpr (by rw[W6 O];exact Xx _ (.head _))).symm|false=>show(F s).isSome=_;rw[hs];have ne:=W9.mp O;generalize e4:aN s seen=J;induction J with|true=>exact(mw.mpr (X9 _ (mw.mp e4))).symm|false=>exact(GJ.mpr λm=>(Yk.mp m).elim (GJ.mp e4) λm=>ne (Xs.mp m)).symm)with⟨p,a,b⟩|⟨a,F',b,c1,c2,c3,c4⟩
   .exact .bad p (U.trans a) (e2.trans b)
   .have M:r.w∉l.map (λW=>W.w):=λm=>by obtain⟨q,V,eq⟩:=Yi.mp m;exact c4 q V (by rw[eq];exact Xx _ (.head _))
    refine .ok (U.trans a) F' (e2.trans b) (λq m=>?_) (λs m=>?_) (X5.mpr ⟨M,c3⟩) λq m=>?_
    .rcases Xv.mp m with rfl|m
     .rw[c2 _ M];show(match sEq q.w q.w with|true=>W_ q.x|false=>F q.w)=_;rw[bH,WY]
     .exact c1 q m
    .rw[Ys,Xv,not_or]at m;rw[c2 s m.2];show(match sEq s r.w with|true=>W_ r.x|false=>F s)=_;rw[bH,W9.mpr m.1]
    .rcases Xv.mp m with rfl|m
     .exact GJ.mp e
     .exact λi=>c4 q m (X9 _ i)
theorem zv{y:QE}{K:List QE}(M:dO T y.x=Xk):∀{J:List QE}{S:FE},(∀r∈J,∃a,dO T r.x=W_ a)->eP T S (J++y::K)=.inl y.p:=by
 intro J;induction J with|nil=>
  intro S _;show(match dO T y.x with|none=>_|some a=>_)=_;rw[M]|cons r l ih=>
  intro S h;obtain⟨a,e⟩:=h r (.head _);show(match dO T r.x with|none=>Sum.inl r.p|some a=>eP T (match sEq a.m []with|true=>S.put r.w r.x|false=>S) (l++y::K))=_;rw[e];exact ih λq m=>h q (.tail _ m)
theorem FR:∀{l:List QE}{S:FE},(∀r∈l,∃a,dO T r.x=W_ a)->(l.map (λW=>W.w)).Nodup->(∀r∈l,S r.w=Xk)-> ∃S',eP T S l=.inr S'/\(∀s,s∉l.map (λW=>W.w)->S' s=S s)/\ ∀r∈l,∀a,dO T r.x=W_ a->S' r.w=match sEq a.m []with|true=>W_ r.x|false=>Xk:=by
 intro l;induction l with|nil=>
  intro S _ _ _;exact⟨S,rfl,λW W=>rfl,λW m=>W5 m XX⟩|cons r l ih=>
  intro S h nd K;obtain⟨a,e⟩:=h r (.head _);rw[Ys,X5]at nd;have M:=K r (.head _);have O:eP T S (r::l)=eP T (match sEq a.m []with|true=>S.put r.w r.x|false=>S) l:=by show(match dO T r.x with|none=>Sum.inl r.p|some a=>eP T (match sEq a.m []with|true=>S.put r.w r.x|false=>S) l)=_;rw[e]
  have pn:∀s,s≠r.w->(match sEq a.m []with|true=>S.put r.w r.x|false=>S) s=S s:=λs ne=>by
   cases sEq a.m []with|false=>rfl|true=>show(match sEq s r.w with|true=>W_ r.x|false=>S s)=_;rw[bH,W9.mpr ne]
  obtain⟨S',b1,b2,b3⟩:=ih (S:=match sEq a.m []with|true=>S.put r.w r.x|false=>S) (λq m=>h q (.tail _ m)) nd.2 λq m=>by rw[pn q.w λe=>nd.1 (by rw[<-e];exact Yi.mpr ⟨q,m,rfl⟩)];exact K q (.tail _ m)
  rw[O];refine⟨S',b1,λs m=>?_,λq m U J=>?_⟩
  .rw[Ys,Xv,not_or]at m;exact(b2 s m.2).trans (pn s m.1)
  .rcases Xv.mp m with rfl|m
   .rw[e]at J;rw[<-XG J,b2 _ nd.1];cases sEq a.m []with|false=>exact M|true=>show(match sEq q.w q.w with|true=>W_ q.x|false=>S q.w)=_;rw[bH,WY]
   .exact b3 q m U J
theorem GF:∀{l:List QE},(l.map (λW=>W.w)).Nodup-> ∀q∈l,∀r∈l,q.w=r.w->q=r:=by
 intro l;induction l with|nil=>
  intro _ _ m _ _ _;exact W5 m XX|cons y l ih=>
  intro nd q mq r mr e;rw[Ys,X5]at nd;have K:∀z∈l,z.w≠y.w:=λz m e=>nd.1 (Yi.mpr ⟨z,m,e⟩);rcases Xv.mp mq with eq|mq
  .rcases Xv.mp mr with J|mr
   .exact eq.trans J.symm
   .exact W5 (e.symm.trans (WX QE.w eq)) (K r mr)
  .rcases Xv.mp mr with J|mr
   .exact W5 (e.trans (WX QE.w J)) (K q mq)
   .exact ih nd.2 q mq r mr e
theorem GD[BEq α][LawfulBEq α]:∀{l k:List α},l.Nodup->(∀y∈l,y∈k)->l.length<=k.length:=by
 intro l;induction l with
 |nil=>
  intro _ _ _;exact Ye _|cons y l ih=>
  intro k nd h;rw[X5]at nd;have J:=h y (.head _);have:=ih (k:=k.erase y) nd.2 λz m=>(List.mem_erase_of_ne λe=>nd.1 (by rw[<-e];exact m)).mpr (h z (.tail _ m));rw[List.length_erase_of_mem J]at this;have:=List.length_pos_of_mem J;rw[Xq];lia
theorem Gk (O:TQ T es) (p:PS T es F n) (Z:n<=3) (Y:∀r∈es,∃a,F r.w=W_ a) (sh:x.sh (es.map (λW=>W.w)) "."):dO (sT T) x=W_ (x.af (dM F) "."):=by
 refine key (T:=sT T) (F:=dM F) (d:=4) (.inr rfl) sh (λs i=>iq (O.o s i)) (λs i=>by unfold dM;rw[p.o s i]) λs m=>?_;generalize i:aN s (es.map (λW=>W.w))=M;induction M with
 |false=>
  rw[jq (iq (O.o s i))];unfold FT.at dM;rw[p.o s i]|true=>
  obtain⟨q,e,rfl⟩:=nF i;obtain⟨b,V⟩:=Y q e;have K:=lN (O.t q e) (kG (p.v q e b V) Z);have J:dM F q.w=match sEq b.m []with|true=>W_ b|false=>Xk:=by unfold dM;rw[V] <;>rfl
  generalize U:sEq b.m []=M;induction M with
  |true=>
   rw[U]at K J;rw[jo (d:=3) K,kG (p.z q e b V U) Z];unfold FT.at;rw[J]|false=>
   rw[U]at K J;rw[jq K];unfold FT.at;rw[J]
inductive adv (es:List QE):Prop|bad (p:_)(e:iB es=.inl p)(h:gw (λW=>Xk) es=.inl p\/ ∃F,gw (λW=>Xk) es=.inr F/\eP F (λW=>Xk) es=.inl p)|ok (Fr F S:_)(e1:iB es=.inr Fr)(e2:gw (λW=>Xk) es=.inr F)(e3:eP F (λW=>Xk) es=.inr S)(h:∀x:Ex,x.sh (es.map (λW=>W.w)) "."=Xg->dO S x=W_ (x.af (dM Fr) "."))
theorem lg (U:∀e∈es,JO e):adv es:=by
 rcases Io (l:=es) (F:=λW=>Xk) (seen:=[]) (λW=>rfl)with⟨p,a,b⟩|⟨a,T,b,c1,c2,c3,-⟩
 .exact .bad p (by unfold iB;rw[a]) (.inl b)
 have O:TQ T es:=⟨c1,λs i=>c2 s (GJ.mp i),λr m=>(U r m).2 _ (nA U)⟩;have p0:PS T es (λW=>Xk) 0:=⟨λW W=>rfl,(λW W W e=>nomatch e),(λW W W e=>nomatch e)⟩;have ff:es.filter (hJ λW=>Xk)=es:=List.filter_eq_self.mpr λW W=>rfl;have l3:es.length<=3:=by
  have:=GD (l:=es.map (λW=>W.w)) (k:=["u","v","w"]) c3 λy m=>by obtain⟨r,K,rfl⟩:=Yi.mp m;obtain⟨a,ha,e⟩:=(U r K).1;rw[e];exact Zx (f:=λa:Nat=>[a]) ha
  rw[Xl]at this;exact this
 have Y:=t9 O (GF c3) c3 (k:=es.length) (F:=λW=>Xk) (n:=0) (by rw[ff];exact Xh _) p0 (by rw[ff,X7];exact l3);rw[ff]at Y;rcases Y with⟨F',n',V,p',Z,M⟩|⟨es1,y,es2,e0,V,h1,h2⟩
 .have st:∀r∈es,∃a,vA T 3 r.x=W_ a:=λr m=>by obtain⟨a,J⟩:=M r m;exact⟨a,kG (p'.v r m a J) Z⟩
  obtain⟨S,s1,s2,s3⟩:=FR (T:=T) (l:=es) (S:=λW=>Xk) (λr m=>by obtain⟨a,J⟩:=st r m;exact⟨a,kF (d:=3) J⟩) c3 λW W=>rfl
  have eS:S=sT T:=funext λs=>by
   generalize i:aN s (es.map (λW=>W.w))=zz;induction zz with|false=>rw[iq (O.o s i)];exact s2 s (GJ.mp i)|true=>obtain⟨r,K,rfl⟩:=nF i;obtain⟨a,J⟩:=st r K;rw[s3 r K a (kF (d:=3) J),lN (O.t r K) J] <;>rfl
  refine .ok F' T S (by unfold iB;rw[a];exact V) b s1 λx sh=>?_;rw[eS];exact Gk O p' Z M sh
 .refine .bad y.p (by unfold iB;rw[a];exact V) (.inr ⟨T,b,?_⟩);rw[e0];exact zv (h2 4) λr m=>by obtain⟨a,J⟩:=h1 r m;exact⟨a,kF (d:=3) J⟩
variable{S:FE}{g:GS}
theorem BO{e:WE}(h:dO S e.x=W_ (e.x.af F ".")):iE S e=xQ F e:=by
 unfold iE xQ;rw[h];obtain⟨i,x,s,p,eV⟩:=e;induction s using XN with|zero=>rfl|succ s=>show V.tup [.tup [.str "code",.tup [.int (0- (x.af F ".").w-5000),_,_]],_]=V.tup [.tup [.str "code",.tup [.int (-((x.af F ".").w+5000)),_,_]],_];rw[show 0- (x.af F ".").w-5000= -((x.af F ".").w+5000) by lia];rfl
theorem wu{l:aP}{i:Nat}(h:aF (setAt l i y) j=W_ v):(i=j/\v=y) \/ (i≠j/\aF l j=W_ v):=by
 rw[bf,cR,List.getElem?_set]at h;by_cases e:i=j
 .rw[W0 e]at h;by_cases e2:i<l.length
  .rw[W0 e2]at h;exact .inl ⟨e,(XG h).symm⟩
  .rw[WZ e2]at h;exact gG h
 .rw[WZ e,<-bf]at h;exact .inr ⟨e,h⟩
theorem pz:∀{l:List WE}{Lo D:aP},(∀e∈l,dO S e.x=W_ (e.x.af F "."))->Lo.length=D.length->(∀i v t,aF Lo i=W_ v->aF D i=W_ t->RT F v t\/ ∃e∈l,e.i=i)->(∀t∈D,sX 11 t=Xg)->
  (∃p,dg F l Lo=.inl p/\dJ S l D=.inl p) \/ ∃L' D',dg F l Lo=.inr L'/\dJ S l D=.inr D'/\L'.length=D'.length/\D'.length=D.length/\(∀i v t,aF L' i=W_ v->aF D' i=W_ t->RT F v t)/\ ∀t∈D',sX 11 t:=by
 intro l;induction l with|nil=>
  intro Lo D _ O K M;exact .inr ⟨Lo,D,rfl,rfl,O,rfl,λi v t e f=>(K i v t e f).elim id λ⟨_,m,_⟩=>W5 m XX,M⟩|cons e l ih=>
  intro Lo D hs O K M;have U:=hs e (.head _);have V:=BO U;have ih:=ih (Lo:=setAt Lo e.i (lj F e)) (D:=setAt D e.i (iE S e)) (λq m=>hs q (.tail _ m)) (by rw[ej,ej];exact O) (λi v t a b=>by
   rcases wu a with⟨J,rfl⟩|⟨J,a⟩
   .rcases wu b with⟨-,rfl⟩|⟨e2,-⟩
    .rw[V];exact .inl (.inr ⟨e,rfl,rfl⟩)
    .exact W5 J e2
   .rcases wu b with⟨e2,-⟩|⟨-,b⟩
    .exact W5 e2 J
    .refine (K i v t a b).imp id λ⟨q,m,eq⟩=>?_;rcases Xv.mp m with rfl|m
     .exact W5 eq J
     .exact⟨q,m,eq⟩) (λt m=>by
   rw[cR]at m;rcases List.mem_or_eq_of_mem_set m with m|rfl
   .exact M t m
   .unfold iE;rw[U];obtain⟨i,x,s,p,eV⟩:=e;cases s<;>rfl)
  have J:dg F (e::l) Lo=match e.eV with|some p=>.inl p|none=>dg F l (setAt Lo e.i (lj F e)):=rfl;have e2:dJ S (e::l) D=match e.eV with|some p=>.inl p|none=>dJ S l (setAt D e.i (iE S e)):=rfl;rw[J,e2];induction e.eV with|some p=>exact .inl ⟨p,rfl,rfl⟩|none=>rw[ej]at ih;exact ih
theorem F8:∀{l T:aP},l.length=T.length->(∀i v t,aF l i=W_ v->aF T i=W_ t->RT F v t)->JL F l T:=by
 intro l;induction l with
 |nil=>
  intro T h r;induction T using Xn with
  |nil=>exact Xu|cons=>exact nomatch h
 |cons v l ih=>intro T h r;induction T using Xn with|nil=>exact nomatch h|cons t T=>exact⟨r 0 v t rfl rfl,ih (Yg h) λi v t a b=>r (i+1) v t a b⟩
theorem Np:sX (n+3) x.told:=by induction x with|«at» a=>cases a<;>rfl|bin g a b=>cases a<;>cases b<;>rfl
theorem VF{s:SE}:sX 11 s.bj:=by
 induction s with|dm=>rfl|code=>rfl|bF w l p=>
  have h:(l.map Arg.told).all (sX 8):=XM.mpr λy m=>by obtain⟨a,-,rfl⟩:=Yi.mp m;induction a with|e x=>exact Np|y=>rfl|s=>rfl
  show((Xg&&(Xg&&((l.map Arg.told).all (sX 8)&&Xg)))&&_);rw[h];rfl|gZ w x p=>
  show((Xg&&(Xg&&(sX 9 x.told&&Xg)))&&_);rw[Np];rfl
variable{f:Bool}
structure I3 (g:GS):Prop where
 eq:∀e∈g.eq,JO e
 wt:∀e∈g.wt,aF g.st e.i=W_ (.code e.p)/\ ∀ns,kv ns->e.x.sh ns "."=Xg
 st:∀s∈g.st,(∃p,s=.code p) \/s.Nn
 cv:∀i p,aF g.st i=W_ (.code p)-> ∃e∈g.wt,e.i=i
theorem wx{f:α->β}{l:List α}{i:Nat}{v:β}(h:aF (l.map f) i=W_ v):∃y,aF l i=W_ y/\v=f y:=by rw[bf,X2]at h;obtain⟨y,e,e2⟩:=X6.mp h;exact⟨y,by rw[bf];exact e,e2.symm⟩
theorem Pj{f:α->β}{l:List α}{i:Nat}{y:α}(h:aF l i=W_ y):aF (l.map f) i=W_ (f y):=by rw[bf]at h;rw[bf,X2,h];rfl
theorem Pp:(L.fl f).tr=L.tr:=by induction f with|false=>rfl|true=>unfold LS.fl;rw[wH]
theorem agree (h:I3 g):Agree (match oy g g.aw with|some p=>.inl (Xg,p)|none=>match iB g.eq with|.inl p=>.inl (Xg,p)|.inr F=>match dg (dM F) g.wt (g.st.map SE.obj)with|.inl p=>.inl (Xb,p)|.inr L'=>.inr (dM F,L')) (sf g []) \/1000<g.st.length:=by
 by_cases K:1000<g.st.length
 .exact .inr K
 refine .inl ?_;show Agree _ (match oy g g.aw with|some p=>.inl (Xg,p)|none=>match gw (λW=>Xk) g.eq with|.inl p=>.inl (Xg,p)|.inr F=>match eP F (λW=>Xk) g.eq with|.inl p=>.inl (Xg,p)|.inr S=>match dJ S g.wt (g.st.map SE.bj)with|.inl p=>.inl (Xb,p)|.inr D=>.inr D);cases oy g g.aw with|some p=>exact rfl|none=>
  rcases lg h.eq with⟨p,M,e2|⟨F,e2,O⟩⟩|⟨Fr,F,S,M,e2,O,e4⟩
  .rw[M,e2];exact rfl
  .rw[M,e2];show Agree _ (match eP F (λW=>Xk) g.eq with|.inl p=>.inl (Xg,p)|.inr S=>match dJ S g.wt (g.st.map SE.bj)with|.inl p=>.inl (Xb,p)|.inr D=>.inr D);rw[O];exact rfl
  .rw[M,e2];show Agree (match dg (dM Fr) g.wt (g.st.map SE.obj)with|.inl p=>.inl (Xb,p)|.inr L'=>.inr (dM Fr,L')) (match eP F (λW=>Xk) g.eq with|.inl p=>.inl (Xg,p)|.inr S=>match dJ S g.wt (g.st.map SE.bj)with|.inl p=>.inl (Xb,p)|.inr D=>.inr D);rw[O];show Agree _ (match dJ S g.wt (g.st.map SE.bj)with|.inl p=>.inl (Xb,p)|.inr D=>.inr D);rcases pz (F:=dM Fr) (S:=S) (l:=g.wt) (Lo:=g.st.map SE.obj) (D:=g.st.map SE.bj) (λe m=>e4 e.x ((h.wt e m).2 _ (nA h.eq))) (by rw[Xl,Xl]) (λi v t a b=>by
    obtain⟨s,es,rfl⟩:=wx a;obtain⟨s',J,rfl⟩:=wx b;rw[es]at J;cases J;rcases h.st s (Yq (by rw[<-bf];exact es))with⟨p,rfl⟩|ok
    .exact .inr (h.cv i p es)
    .exact .inl (.inl ⟨s,rfl,rfl,ok⟩)) (λt m=>by
    obtain⟨s,-,rfl⟩:=Yi.mp m;exact VF)with⟨p,g1,g2⟩|⟨L',D',g1,g2,g3,g4,g5,g6⟩
   .rw[g1,g2];exact rfl
   .rw[g1,g2];refine⟨F8 g3 g5,?_,XM.mpr g6⟩;rw[g4,Xl];exact U1 K
theorem Hb (h:I3 (L.fl f).g)(M:(L.fl f).g.st.length<=1000):og f L:=by
 refine⟨⟨h.eq,λe m=>(h.wt e m).1,h.st⟩,λe m=>⟨_,Pj (h.wt e m).1⟩,λe m U m' i=>?_,λF S e2 K e m=>?_,?_⟩
 .have a:=(h.wt e m).1;rw[i,(h.wt U m').1]at a;exact(WX SE.pt (XG a)).symm
 .rcases lg h.eq with⟨p,-,e4|⟨F',e4,J⟩⟩|⟨Fr,F',S',-,e4,J,O⟩
  .rw[e2]at e4;cases e4
  .rw[e2]at e4;cases e4;rw[K]at J;cases J
  .rw[e2]at e4;cases e4;rw[K]at J;cases J;exact⟨_,O e.x ((h.wt e m).2 _ (nA h.eq))⟩
 .rw[Pp];unfold v5;induction L.tr using Xn with|cons t r=>exact rfl|nil=>exact(agree h).elim id λb=>W5 M (Nat.not_le.mpr b)
variable{p:Pt}{s:SE}
theorem oP (J:x.wf):(Arg.e (x.pin w)).ok/\(x.pin w).hh=Xb:=by
 induction x with
 |«at» a=>induction a with|dot=>exact ff J|num=>exact⟨rfl,rfl⟩|sym=>exact⟨rfl,rfl⟩
 |bin g a b=>induction b with|dot=>cases a<;>exact ff J|num=>cases a<;>exact⟨rfl,rfl⟩|sym=>cases a<;>exact⟨rfl,rfl⟩
theorem Gn{l:List Ex}(M:∀x∈l,x.wf):∀a∈(ik g l).map Arg.e,a.ok:=λa m=>by
 obtain⟨y,J,rfl⟩:=Yi.mp m;unfold ik at J;revert J;generalize e:l.any Ex.hh=K;induction K with
 |true=>
  intro J;obtain⟨z,O,rfl⟩:=Yi.mp J;exact(oP (M z O)).1|false=>
  intro J;have h1:y.hh=Xb:=by generalize e2:y.hh=K;induction K with|false=>rfl|true=>rw[List.any_eq_true.mpr ⟨y,J,e2⟩]at e;exact ft e
  show(!y.hh&&y.wf);rw[h1,M y J];rfl
theorem z0{l:List Ex}:(ik g l).length=l.length:=by unfold ik;cases l.any Ex.hh with|true=>exact Xl _|false=>rfl
theorem I3.of(h:I3 g)(J:g'.eq=g.eq)(e2:g'.wt=g.wt)(e:g'.st=g.st):I3 g':=
 ⟨by rw[J];exact h.eq,by rw[e2,e];exact h.wt,by rw[e];exact h.st,by rw[e2,e];exact h.cv⟩
theorem wz{l:List α}{i:Nat}{y z:α}(h:aF l i=W_ y):aF (l++[z]) i=W_ y:=by rw[bf]at h⊢;rw[List.getElem?_append_left (XK.mp h).1];exact h
theorem qQ{l:List α}{i:Nat}{y z:α}(h:aF (l++[z]) i=W_ y):aF l i=W_ y\/ (i=l.length/\y=z):=by
 rw[bf]at h;by_cases c:i<l.length
 .rw[List.getElem?_append_left c,<-bf]at h;exact .inl h
 .have lt:=(XK.mp h).1;rw[Xc]at lt;have e:i=l.length:=Nat.le_antisymm (ZZ lt) (Y4.mp c);rw[e,List.getElem?_concat_length]at h;exact .inr ⟨e,(XG h).symm⟩
theorem I3.put (h:I3 g)(ok:s.Nn):I3 (g.put s):=
 ⟨h.eq,λe m=>⟨wz (h.wt e m).1,(h.wt e m).2⟩,λy m=>(Yk.mp m).elim (h.st y) λm=>by rw[Xs.mp m];exact .inr ok,
  λi p e=>(qQ e).elim (h.cv i p) λe=>by rw[<-e.2]at ok;exact ok.elim⟩
theorem I3.qe{e:QE}(h:I3 g)(J:JO e):I3 (g.qe e):=
 ⟨λq m=>(Yk.mp m).elim (h.eq q) λm=>by rw[Xs.mp m];exact J,h.wt,h.st,h.cv⟩
theorem Ba{l:List α}{z:α}:aF (l++[z]) l.length=W_ z:=by rw[bf,List.getElem?_concat_length]
theorem I3.code{k:Nat}(h:I3 g)(K:∀ns,kv ns->x.sh ns "."):I3 ((g.put (.code pt)).oo ⟨g.st.length,x,k,pt,Xk⟩):=
 ⟨h.eq,λe m=>(Yk.mp m).elim (λm=>⟨wz (h.wt e m).1,(h.wt e m).2⟩) λm=>by rw[Xs.mp m];exact⟨Ba,K⟩,
  λy m=>(Yk.mp m).elim (h.st y) λm=>by rw[Xs.mp m];exact .inl ⟨_,rfl⟩,
  λi p e=>(qQ e).elim (λe=>(h.cv i p e).elim λq J=>⟨q,X9 _ J.1,J.2⟩) λe=>⟨_,Xx _ (.head _),e.1.symm⟩⟩
theorem jS:∀{l:List WE},(∀e∈gJ l p,∃q∈l,q.i=e.i/\q.p=e.p/\q.x=e.x)/\ ∀q∈l,∃e∈gJ l p,e.i=q.i
 |[]=>⟨λW m=>W5 m XX,λW m=>W5 m XX⟩|[q]=>⟨λe m=>by rw[Xs.mp m];exact⟨q,.head _,rfl,rfl,rfl⟩,λr m=>by rw[Xs.mp m];exact⟨_,.head _,rfl⟩⟩|q::r::l=>by
  obtain⟨h1,h2⟩:=jS (l:=r::l);refine⟨λe m=>?_,λz m=>?_⟩
  .rcases Xv.mp m with rfl|m
   .exact⟨_,.head _,rfl,rfl,rfl⟩
   .obtain⟨z,J,a⟩:=h1 e m;exact⟨z,.tail _ J,a⟩
  .rcases Xv.mp m with rfl|m
   .exact⟨_,.head _,rfl⟩
   .obtain⟨e,K,a⟩:=h2 z m;exact⟨e,.tail _ K,a⟩
theorem I3.eV(h:I3 g):I3 {g with wt:=gJ g.wt p}:=
 ⟨h.eq,λe m=>by
  obtain⟨q,J,a,b,c⟩:=jS.1 e m;rw[<-a,<-b,<-c];exact h.wt q J,h.st,λi p' e=>by
  obtain⟨q,J,a⟩:=h.cv i p' e;obtain⟨z,K,b⟩:=jS.2 q J;exact⟨z,K,b.trans a⟩⟩
theorem I3.pn{l:List Ex}(h:I3 g):I3 (g.pn l p):=by unfold GS.pn;cases l.any Ex.hh with|true=>exact I3.put (g:=g.pt) (h.of rfl rfl rfl) trivial|false=>exact h
theorem Gq (h:x.sh ns ".")(J:sEq w []=Xb)(K:aN w ns=Xb):(x.pin w).sh ns []:=by
 have kw:(!sEq w []):=by rw[J];rfl
 have e:(!aN w ns):=by rw[K];rfl
 induction x with
 |«at» a=>induction a with
  |num=>rfl
  |dot=>exact kw
  |sym s=>exact h
 |bin g a b=>induction b with
  |dot=>exact W5 h (by cases a<;>exact(nomatch ·))
  |num=>induction a with
   |num=>exact ff h|dot=>exact kw|sym=>exact h
  |sym y=>induction a with
   |num=>
    have h:(g&&(Xb&&_)):=h
    rw[Bool.false_and,ZV]at h;exact ff h|sym=>exact h|dot=>
    have h:(g&&(Xg&&(Xg&&(!sEq y []&&!aN y ns)))):=h;show(g&&(!sEq w []&&(!aN w ns&&(!sEq y []&&!aN y ns))));rw[kw,e];exact h
theorem Gw (h:x.sh ns ".")(hh:x.hh=Xb):x.sh ns []:=by
 induction x with
 |«at» a=>induction a with
  |num=>rfl
  |dot=>exact ft hh
  |sym s=>exact h
 |bin g a b=>induction b with
  |dot=>exact W5 h (by cases a<;>exact(nomatch ·))
  |num=>induction a with|num=>exact ff h|dot=>exact ft hh|sym=>exact h
  |sym y=>induction a with
   |num=>exact h|sym=>exact h|dot=>exact ft hh
theorem qg (J:kv ns):sEq (mK n) []=Xb/\aN (mK n) ns=Xb:=by
 refine⟨rfl,GJ.mpr λm=>?_⟩;obtain⟨a,-,e⟩:=J _ (mw.mpr m);have:(mK n).length=1:=by rw[e];rfl
 unfold mK at this;rw[Xc,Xc]at this;have h2:("0.":ax).length=2:=rfl;lia
theorem z_ (h:x.sh ns ".")(J:kv ns):(gE g x).sh ns []:=by unfold gE;generalize e:x.hh=K;induction K with|true=>exact Gq h (qg J).1 (qg J).2|false=>exact Gw h e
theorem qj (J:x.wf):(gE g x).hh=Xb/\(Arg.e (gE g x)).ok:=by unfold gE;generalize e:x.hh=K;induction K with|true=>exact⟨(oP J).2,(oP J).1⟩|false=>exact⟨e,by show(!x.hh&&x.wf)=Xg;rw[e,J];rfl⟩
theorem I3.dm{l:Lb×Pt}(h:I3 g):I3 (ji g l):=by unfold ji;cases l.1 with|nm w=>exact h.put trivial|lo k=>cases k<;>exact I3.put (h.of rfl rfl rfl) trivial
theorem ml{l:List Ex}(K:l.length<=1000)(J:∀x∈l,x.wf):(SE.bF w ((ik g l).map .e) p).Nn:=⟨by rw[Xl,z0];exact K,Gn J⟩
theorem I3.ot:∀{l:List Ex}{g:GS},I3 g->(∀x∈l,x.wf=Xg)->I3 (Internal.ot w p g l):=by
 intro l;induction l with
 |nil=>
  intro _ h _;exact h|cons x l ih=>
  intro g h e;exact ih ((h.pn (l:=[x])).put (ml (l:=[x]) ll λy m=>by rw[Xs.mp m];exact e x (.head _))) λy m=>e y (.tail _ m)
theorem I3.ko{l:List Ex}(h:I3 g) (M:l.length<=1000) (J:∀x∈l,x.wf):I3 (Internal.ko w p g l):=by
 unfold Internal.ko;generalize e:l.any Ex.hh=K;induction K with|true=>exact I3.ot h J|false=>have:=ml (g:=g) (w:=w) (p:=p) M J;unfold ik at this;rw[e]at this;exact h.put this
theorem I3.gZ{n:ax}{K:Sm}{hd:bV}{U:GS}(h:I3 g)(hs:K.ok)(J:S0 hd n):I3 (fP n (K.x U) p g):=by
 have O:(K.x U).wf:=ub;unfold fP;generalize e:sEq n "."=V;induction V with|true=>exact h.pn.put ⟨ll,λa m=>by rw[Xs.mp m];exact(qj O).2⟩|false=>
  refine (h.pn.qe ⟨?_,λns J=>z_ (qc hs J rfl) J⟩).put (qj O).1;rcases J with⟨w,-,a,M,-,rfl⟩|⟨a,M|rfl,-,rfl⟩
  .exact⟨a,M,rfl⟩
  .exact⟨a,M,rfl⟩
  .exact ft e
theorem I3.step{b:Bd}(J:b.ok)(h:I3 g):I3 (b.step pt g):=by
 induction b with
 |no=>exact h|lst w ss=>exact h.ko (by unfold xs;rw[Xl];exact Xa J.2.2.2 ll) mT|iJ w k ss=>show I3 (match gB k ss with|true=>(g.pn (xs g ss) pt).put (.bF w ((ik g (xs g ss)).map .e) pt)|false=>g);cases gB k ss with|true=>exact h.pn.put (ml (by unfold xs;rw[Xl];exact Xa J.2.2 ll) mT)|false=>exact h
 |gZ hd nm s=>exact h.gZ J.2 J.1|pl s f=>
  induction J with
  |sy y K=>exact h.of rfl rfl rfl|wd y K=>exact h.put ⟨by rw[Xl];exact Xi (allM (f:=λy:bV×ax×List ax=>XU y.2.2.length 1000) rfl K),λa m=>by obtain⟨z,-,rfl⟩:=Yi.mp m;rfl⟩|tx w U O h0 h1 h2=>exact h.put ⟨ll,λa m=>by rcases Xv.mp m with rfl|m;rfl;rw[Xs.mp m];rfl⟩
 |code s=>exact h.code λns M=>qc J M rfl
 |bad s=>exact h
theorem I3.add{t:bV}(h:I3 L.g):I3 (L.add t).g:=h.of rfl rfl rfl
theorem I3.aM:∀{xs:List Lb}{j:Nat}{L:LS},I3 L.g->I3 (L.aM j xs).g:=by
 intro xs;induction xs with
 |nil=>
  intro _ _ h;exact h|cons x xs ih=>
  intro j L h;exact ih (j:=j+1) (L:=L.dm j x) (I3.dm h)
theorem I3.line{x:gq}(e:x.ok)(h:I3 L.g):I3 (L.line x).g:=by
 rw[show(L.line x).g=(L.mid x).g from wI.1];have h1:I3 ((L.aM 0 x.bM).body x.bd).g:=I3.step e.2.2.1 (I3.add (I3.aM h));unfold LS.mid LS.tail;induction x.bd.ref with|true=>exact h1|false=>induction x.sv with|false=>exact h1|true=>show I3 (LS.sP _ _).g;unfold LS.sP;induction x.bd.i9 with|true=>exact h1.eV|false=>exact I3.add h1
theorem I3.run:∀{xs:List gq}{L:LS},(∀x∈xs,x.ok)->I3 L.g->I3 (bX L xs).g:=by
 intro xs;induction xs with
 |nil=>
  intro _ _ h;exact h|cons x xs ih=>
  intro L e h;exact ih (λy m=>e y (.tail _ m)) (h.line (e x (.head _)))
theorem I3.fl (h:I3 L.g):I3 (L.fl f).g:=by induction f with|false=>exact h|true=>exact I3.dm (g:=(L.dm 0 (.lo Xb)).g) (l:=(.lo Xg,(L.dm 0 (.lo Xb)).pl)) (I3.dm (g:=L.g) (l:=(.lo Xb,L.pl)) h)
theorem aaC:I3 fx.g:=⟨λW m=>W5 m XX,λW m=>W5 m XX,λW m=>W5 m XX,(λW W e=>nomatch e)⟩
theorem JM:∀xs f,(∀x∈xs,gq.ok x)->xs.length<=6->og f (bX fx xs):=λxs f e J=>Hb (aaC.run e).fl (Xa (vW (f:=f) (l7 rV e)).g.st (by lia))
theorem v3 (K:aL u){ns:List Int}(q:∀H,Q (.bool Xg) H):CL u (n+19) 132 [.lst (ns.map .int)] H Q X:=ab4 K JM q
end
end
end Internal
namespace Internal
noncomputable section
set_option tactic.hygienic true
section
noncomputable def asK:List Addr:=(List.range 1224).filter (Nat.testBit 218404578605930779289781683556779878525948661119530622803968238670312277522857763882525637764540405838379963542687736355850875062931041723007895726301065630408055145965589564408176398756241007288969756796957189915066531255603380717176069533919871396743147063156039640845248016818053477544299237132729013253254881524162420879000985734665513338423407480170838584605016159)
noncomputable def vq(T:BT):List Addr->Frag|[]=>[]|a::l=>match T.get a with|some o=>(match alive o with|some o=>(a,o)::vq T l|none=>vq T l)|none=>vq T l
theorem GR{T:BT}{n:Nat}{K:Life}{a:Addr}{o:Obj}:∀{l:List Addr},l.all (λa=>YM a n)->(vq T l).lookup a=W_ o->(absHeap T n K).get? a=W_ o:=by
 intro l;induction l with|nil=>exact λW e=>nomatch e|cons b l J=>
  intro h e;rw[List.all_cons,XS]at h;have ih:=J h.2;revert e;show(match T.get b with|some o=>(match alive o with|some o=>(b,o)::vq T l|none=>vq T l)|none=>vq T l).lookup a=W_ o->_;cases g:T.get b with|none=>exact ih|some x=>
   show(match alive x with|some o=>(b,o)::vq T l|none=>vq T l).lookup a=W_ o->_;cases z:alive x with|none=>exact ih|some y=>show((b,y)::vq T l).lookup a=W_ o->_;rw[Yo];cases q:a==b with|true=>intro e;obtain rfl:=XG e;rw[W8.mp q];exact(abs_get (Xi h.1) g).trans z|false=>exact ih
noncomputable def faL:ax:=[21,35,42,64,71,115,122,143,150,169,176,195,214,221,240,247,259,266,273,280,287,294,309,316,323,330,337,344,351,363,378,385,392,399,413,420,427,434,441,449,456,463,470,477,484,491,498,505,512,519,526,533,540,547,561,568,575,582,603,610,617,624,631,638,645,652,659,666,673,687,701,708,715,722,729,736,743,750,757,764,771,778,799,820,827,846,853,872,877,896,903,915,922,929,936,941,946,953,967,974,979,986,993,1000,1007,1012,1019,1024,1031,1036,1043,1050,1057,1064,1071,1085,1119,1126,1133,1140,1147,1154,1159,1164,1171,1178,1185,1192,1199,1204,1211,1216,1223]
noncomputable def caL:ax:=[45,74,87,99,125,153,179,198,224,250,354,402,585,676,781,802,830,856,880,906,1074]
def eL(c:Nat):Addr:=(aF caL c).getD 45
def k_(i:Nat):Addr:=(aF faL i).getD 21
def KP (P:Ym):Frag:=vq (Hd.T31 P) asK
abbrev u0(w:ZJ)(os:Y2):U:=⟨w,KP w.params,os,eL,k_⟩
variable{P:Ym}
theorem SK:∀a o,(KP P).lookup a=W_ o->(Hd.HF P).get? a=W_ o:=λW W e=>GR (by kernel_rfl) e
noncomputable def fQ(p:Nat->Bool):Nat->Bool|0=>Xg|n+1=>p n&&fQ p n
theorem cN{p:Nat->Bool}{i:Nat}:∀{n:Nat},fQ p n->i<n->p i:=by
 intro n;induction n with|zero=>exact λW h=>W5 h (YE _)|succ n ih=>
  intro h hi;obtain⟨h1,h2⟩:=aH h;by_cases e:i=n
  .rw[e];exact h1
  .exact ih h2 (Nat.lt_of_le_of_ne (ZZ hi) e)
variable{α:Type}
theorem nU:∀{l:List α}{i:Nat},l.length<=i->aF l i=Xk|[],_,_=>rfl|_::_,0,h=>W5 h (Nat.not_succ_le_zero _)|_::l,i+1,h=>nU (l:=l) (Nat.le_of_succ_le_succ h)
theorem r8:∀{l:List α}{i:Nat}{x:α},aF l i=W_ x->x∈l:=by
 intro l;induction l with|nil=>exact λe=>nomatch e|cons y l ih=>intro i x e;induction i using XN with|zero=>cases e;exact .head _|succ i=>exact .tail _ (ih e)
noncomputable def sZ (a:Option (Option Xj))(b:Xj):Bool:=a==W_ (W_ b)
noncomputable def eqN (a:Option (Option Xj)):Bool:=a==W_ Xk
def Pn (K:Frag)(i:Nat):Bool:=fnIn K (k_ i)
def mtB (K:Frag) (c m i:Nat):Bool:=YM m 128&&dK K (eL c)&&eqN (YU K (.ref (eL c)) "__getattr__")&&sZ (YU K (.ref (eL c)) (AN m)) (.ref (k_ i))&&typeIn K (.ref (k_ i))==W_ (.type "function")&&Pn K i
def clB (K:Frag) (c:Nat):Bool:=makesIn K (eL c)&&sZ (YU K (.ref (eL c)) "__init__") (.ref (k_ (yy c)))&&typeIn K (.ref (k_ (yy c)))==W_ (.type "function")&&sZ (ZF K (.ref (eL c)) "__call__") (.builtin "type.__call__")&&(clsIn K (eL c)).isSome
def aaz (K:Frag) (c:Nat):Bool:=plainGet K (eL c) "__class__"&&hasDictIn K (eL c)&&sZ (YU K (.ref (eL c)) "__class__") (.builtin "object.__class__")&&mroIn K (eL c) (.type "object")==W_ Xg&&kitAny K (.ref (eL c)) [.type "bytes",.type "str"] ==W_ Xb
def enB (K:Frag) (c:Nat):Bool:=mroIn K (eL c) (.type "BaseException")==W_ Xg&&typeIn K (.ref (eL c))==W_ (.type "type")&&sZ (YU K (.ref (eL c)) "__init__") (.ref (k_ (yy c)))&&typeIn K (.ref (k_ (yy c)))==W_ (.type "function")&&sZ (ZF K (.ref (eL c)) "__call__") (.builtin "type.__call__")
noncomputable def O7:Xj->Option Int|.int i _=>W_ i|_=>Xk
noncomputable def Lm:Xj->Option ax|.str s _=>W_ s.cps.toList|_=>Xk
noncomputable def RV:Xj->Option (List UInt8)|.bytes b _=>W_ b.toList|_=>Xk
noncomputable def ME:Xj->Option Addr|.ref a=>W_ a|_=>Xk
noncomputable def Lv:Data->Option (List Xj)|.seq vs _=>W_ vs.toList|_=>Xk
theorem eA{i:α}{p:Prop}(h:Xk=W_ i):p:=nomatch h
theorem AU{x:Xj}{i:Int}:O7 x=W_ i-> ∃t,x=.int i t:=by cases x with|int j t=>exact λh=>⟨t,by rw[XG h]⟩|_=>exact λh=>eA h
theorem zx{x:Xj}{i:ax}:Lm x=W_ i-> ∃t,x=.str ⟨i.toArray⟩ t:=by cases x with|str s t=>exact λh=>⟨t,by rw[<-XG h]⟩|_=>exact λh=>eA h
theorem B5{x:Xj}{i:List UInt8}:RV x=W_ i-> ∃t,x=.bytes i.toArray t:=by cases x with|bytes s t=>exact λh=>⟨t,by rw[<-XG h]⟩|_=>exact λh=>eA h
theorem zR{x:Xj}{i:Addr}:ME x=W_ i->x=.ref i:=by cases x with|ref a=>exact λh=>by rw[XG h]|_=>exact λh=>eA h
theorem zK{x:Data}{i:List Xj}:Lv x=W_ i-> ∃n,x=.seq i.toArray n:=by cases x with|seq s n=>exact λh=>⟨n,by rw[<-XG h]⟩|_=>exact λh=>eA h
noncomputable def K3(K:Frag):Nat->V->Xj->Bool|0,_,_=>Xb|n+1,v,x=>match v with|.none=>x== .none|.int i=>O7 x==W_ i|.str l=>Lm x==W_ l&&XU l.length 16777216|.bytes l=>RV x==W_ l|.sq b l=>!b&&(ME x).any λa=>(K.lookup a).any λo=>((o.cls== .type "tuple"&&o.dict==Xk)&&(o.slots.size==0&&XU l.length 16777216))&&(Lv o.data).any λvs=>XI l.length vs.length&&(l.zip vs).all λy=>K3 K n y.1 y.2|_=>Xb
theorem FG{o:Obj}{vs:List Xj}{n:Nat}(h1:o.cls=.type "tuple")(h2:o.dict=Xk)(h3:o.slots.size=0)(h4:o.data=.seq vs.toArray n):o=⟨.type "tuple",Xk,.seq vs.toArray n,#[]⟩:=by
 cases o with|mk a b c d=>have h3:d= #[]:=Array.eq_empty_of_size_eq_zero h3;have h1:a=_:=h1;have h2:b=_:=h2;have h4:c=_:=h4;rw[h1,h2,h3,h4]
theorem tM{G:cc}{g:bQ}(kb:∀a o,G.K.lookup a=W_ o->g a=W_ o):∀{n:Nat}{v:V}{x:Xj},K3 G.K n v x->VR G g v x:=by
 intro n;induction n with|zero=>exact λh=>W5 h Xy|succ n ih=>
  intro v x h;cases v with
  |none=>rw[W8.mp h];exact .none
  |int i=>obtain⟨t,rfl⟩:=AU (W8.mp h);exact .int _ _|str l=>
   obtain⟨h1,h2⟩:=aH h;obtain⟨t,rfl⟩:=zx (W8.mp h1);exact .str _ _ (Xi h2)|bytes l=>obtain⟨t,rfl⟩:=B5 (W8.mp h);exact .bytes _ _|sq b l=>
   obtain⟨O,h⟩:=aH h;cases b with|true=>exact W5 O Xy|false=>
    obtain⟨a,U,h⟩:=any_some h;obtain rfl:=zR U;obtain⟨o,J,h⟩:=any_some h;obtain⟨h1,h⟩:=aH h;obtain⟨h1,h2⟩:=aH h1;obtain⟨h1,h3⟩:=aH h1;obtain⟨h2,h4⟩:=aH h2;obtain⟨vs,e,h⟩:=any_some h;obtain⟨Z,Y⟩:=aH h;obtain⟨m,em⟩:=zK e
    rw[FG (W8.mp h1) (W8.mp h3) (W8.mp h2) em]at J
    refine .sq Xb l vs a m (kb _ _ J) (Xi h4) (XJ Z) λi x v M e=>ih ?_
    exact XM.mp Y (x,v) (Yq (i:=i) (List.getElem?_zip_eq_some.mpr ⟨M,e⟩))
  |_=>exact W5 h Xy
theorem Ut{f:α->Bool}{o:Option (Option α)}(h:(o.any λo=>o.any f)=Xg):∃x,o=W_ (W_ x)/\f x:=by obtain⟨y,e,h⟩:=any_some h;obtain⟨x,z,h⟩:=any_some h;exact⟨x,e.trans (WX W_ z),h⟩
def Pe (K:Frag) (y:Str×GV):Bool:=match y.2 with|.con v=>(nsIn K Yj y.1).any λo=>o.any (K3 K 4 v)|.fn i=>sZ (nsIn K Yj y.1) (.ref (k_ i))|.cl c=>sZ (nsIn K Yj y.1) (.ref (eL c))|.ty s=>eqN (nsIn K Yj y.1)&&sZ (nsIn K builtinsNs y.1) (.type s)
theorem wk{u:U}{y:Str×GV}(J:u.fa=k_) (M:u.cA=eL) (h:Pe u.K y) (c:Cx) (σ:St) (Q:V->St->Prop) (X:di->St->Prop) (p:Pos) (O:bg c) (hk:c.env.kindOf y.1=W_ .globalImplicit) (hd:(y.1==("__debug__":Str))=Xb) (q:Q (A7 u y.2) σ):bK (GX u) c (.Name y.1 p) σ Q X:=by
 obtain⟨x,y⟩:=y;unfold Pe at h;cases y with|con v=>
  obtain⟨val,e,h⟩:=Ut (f:=K3 u.K 4 v) h;exact pB (G:=GX u) O hk hd e (λg kb=>tM kb h) q|fn i=>exact pB (G:=GX u) O hk hd (W8.mp h) (λg kb=>by show VR _ _ (.cst (.ref (u.fa i))) _;rw[J];exact .cst _ rfl) q|cl c=>exact pB (G:=GX u) O hk hd (W8.mp h) (λg kb=>by show VR _ _ (.cst (.ref (u.cA c))) _;rw[M];exact .cst _ rfl) q|ty s=>
  obtain⟨h1,h2⟩:=aH h;intro g s' R;exact ju O R.K hk hd (W8.mp h1) (W8.mp h2) p (qw R (.cst _ rfl) q)
def lkF (K:Frag) (c:Nat):Bool:=(FL c).all λf=>YM f 128&&dK K (eL c)&&iP K (eL c) (AN f)
def Wy (K:Frag)(c:Nat):Bool:=match aF MTT c with|some l=>l.all (λy=>mtB K c y.1 y.2)|none=>Xg
def lkI(K:Frag)(c:Nat):Bool:=!i9 c||aaz K c
def lkP (K:Frag)(b:Nat):Bool:=match aF PRL b with|some x=>nsIn K Yj x==W_ Xk&&nsIn K builtinsNs x==W_ (W_ (uw b))|none=>Xg
def lkN (K:Frag) (j:Nat):Bool:=match aF JN j with|some x=>x.cps.toList.isEmpty||sZ (nsIn K Yj x) (.ref (k_ j))|none=>Xg
def lkC (K:Frag) (j:Nat):Bool:=match aF CNL j with|some x=>sZ (nsIn K Yj x) (.ref (eL j))|none=>Xg
def lkK(K:Frag)(c:Nat):Bool:=!N8 c||clB K c
def lkE (K:Frag) (c:Nat):Bool:=!mM c||(enB K c&&fQ (λb=>!mM b||mroIn K (eL c) (.ref (eL b))==W_ (XI c b)) 21)
def lkB (K:Frag)(x:Str)(f:Xj):Bool:=nsIn K Yj x==W_ Xk&&sZ (nsIn K builtinsNs x) f
structure Look (K:Frag):Prop where
 f:fQ (lkF K) 21=Xg
 m:fQ (Wy K) 21=Xg
 i:fQ (lkI K) 21=Xg
 g:ZF K (.builtin "object.__class__") "__get__"=W_ (W_ (.builtin "getset_descriptor.__get__"))
 t:takesIn K (.builtin "object.__class__")=W_ Xg
 v:SQ.all (Pe K)=Xg
 p:fQ (lkP K) 14=Xg
 n:fQ (lkN K) 133=Xg
 a:fQ (Pn K) 256=Xg
 c:fQ (lkC K) 21=Xg
 k:fQ (lkK K) 21=Xg
 e:fQ (lkE K) 21=Xg
 s:Pe K (("Statement":Str),.cl 15)=Xg
 x:Pe K (("Exception":Str),.ty "Exception")=Xg
 r:lkB K "range" (.type "range")=Xg
 u:lkB K "enumerate" (.type "enumerate")=Xg
theorem vI (P:Ym):Look (KP P):=⟨by kernel_rfl,by kernel_rfl,by kernel_rfl,by kernel_rfl,by kernel_rfl,by kernel_rfl,by kernel_rfl,by kernel_rfl,by kernel_rfl,by kernel_rfl,by kernel_rfl,by kernel_rfl,by kernel_rfl,by kernel_rfl,by kernel_rfl,by kernel_rfl⟩
theorem anB:fQ (λi=>fQ (λj=>XI i j||!cC (AN i) (AN j)) 128) 128:=by kernel_rfl
theorem qS{K:Frag}{f:Addr}:fnIn K f-> ∃J od fd e,K.lookup f=W_ ⟨J,od,.func fd,e⟩:=by
 unfold fnIn;cases K.lookup f with|none=>exact λh=>ff h|some o=>induction o with|mk J od d e=>cases d with|func fd=>exact λW=>⟨J,od,fd,e,rfl⟩|_=>exact λh=>ff h
theorem xW{K:Frag}{f:Addr}{e:ClassData}:clsIn K f=W_ e-> ∃M od e J,K.lookup f=W_ ⟨M,od,.cls e,J⟩:=by
 unfold clsIn;cases K.lookup f with|none=>exact λh=>eA h|some o=>induction o with|mk M od d J=>cases d with|cls e=>exact λW=>⟨M,od,e,J,rfl⟩|_=>exact λh=>eA h
theorem DA{u:U}{i:Nat}(O:u.fa=k_)(h:Pn u.K i):FnAt (GX u) i:=by obtain⟨M,od,fd,J,e⟩:=qS h;exact⟨M,od,J,fd,by show u.K.lookup (u.fa i)=_;rw[O];exact e⟩
theorem rP:∀{l:List (Nat×α)}{k:Nat}{x:α},qs l k=W_ x->(k,x)∈l:=by
 intro l;induction l with|nil=>exact λe=>nomatch e|cons y l ih=>intro k x e;revert e;show(match XI y.1 k with|true=>W_ y.2|false=>qs l k)=_->_;cases h:XI y.1 k with|true=>intro e;rw[<-XJ h,<-XG e];exact .head _|false=>exact λe=>.tail _ (ih e)
theorem AG{e:DictEntry}:∀{l:List (Str×Nat×Xj)},e∈Hd.TP P l-> ∃n t,e.key=.str n t:=by
 intro l;induction l with|nil=>exact λh=>W5 h XX|cons x l ih=>
  intro h;rcases Xv.mp h with h|h
  .exact⟨_,_,WX DictEntry.key h⟩
  .exact ih h
theorem kS2 (P:Ym):(KP P).lookup cStatics=W_ (Hd.gy P .none 2 Hd.BF):=by kernel_rfl
theorem Gx(P:Ym):nsFind ⟨Hd.TP P Hd.BF⟩ "sys.recursionlimit"=Xk:=by kernel_rfl
theorem kS1 (P:Ym):(KP P).lookup Yu=W_ (boot_o_1 P):=by kernel_rfl
noncomputable abbrev sd (nm:Str) (C N B t:Nat):Obj:=excClassObj nm nm C N [.ref 74] [.ref 74,.type "Exception",.type "BaseException",.type "object"] Xg [] [] Xb Xk Xk (W_ (.ref B)) Xk (W_ (.str nm t)) (W_ (.str nm (t+8))) (W_ (.bool Xg)) "Exception.__new__"
theorem ex2 (P:Ym):(KP P).lookup (eL 2)=W_ (sd Hd.EE (eL 2) 86 78 272):=by kernel_rfl
theorem ex3 (P:Ym):(KP P).lookup (eL 3)=W_ (sd Hd.ED (eL 3) 98 90 288):=by kernel_rfl
theorem Dh(C:Addr)(h:XI 74 C=Xb):iY C [.ref 74,.type "Exception",.type "BaseException",.type "object"]:=by refine⟨?_,?_,?_⟩ <;> (simp only[List.contains_cons];rfl)
theorem aaY (P:Ym):ZF (KP P) (.ref (eL 15)) "__getattribute__"=W_ (W_ (.builtin "type.__getattribute__"))/\readsIn (KP P) (eL 15) (.type "type")/\findCls (KP P) (.ref (eL 15)) (.type "type") "__init__"=W_ (.val (.ref (k_ 82))):=⟨by kernel_rfl,by kernel_rfl,by kernel_rfl⟩
theorem cbT (P:Ym):YU (KP P) (.type "type") "__getattribute__"=W_ (W_ (.builtin "type.__getattribute__"))/\subIn (KP P) (.type "type") (.type "type")=W_ Xg/\findCls (KP P) (.type "Exception") (.type "type") "__init__"=W_ (.val (.builtin "Exception.__init__"))/\YU (KP P) (.type "type") "__getattr__"=W_ Xk:=⟨by kernel_rfl,by kernel_rfl,by kernel_rfl,by kernel_rfl⟩
theorem Nm{a b:Bool}(h:(!a||b))(e:a):b:=by subst e;exact h
variable{c:Nat}
theorem vG{l:ax}(h:fM c l)(e:l.all (λx=>YM x 21)=Xg):c<21:=Xi (XM.mp e c (lY h))
abbrev uK(w:ZJ)(K:Frag)(os:Y2):U:=⟨w,K,os,eL,k_⟩
theorem dbS:((("Statement":Str)==("__debug__":Str))=Xb):=by decide+kernel
theorem dbE:((("Exception":Str)==("__debug__":Str))=Xb):=by decide+kernel
theorem Je{i j:Nat}(hi:i<128) (J:j<128) (e:AN i=AN j):i=j:=by have h:=cN (cN (p:=λi=>fQ (λj=>XI i j||!cC (AN i) (AN j)) 128) anB hi) J;refine (u6 h).elim XJ λh=>?_;rw[e,<-ee,WY]at h;exact nomatch h
theorem pw{K:Frag}(J:fQ (lkF K) 21){f:Nat}(h:fM f (FL c)):f<128/\dK K (eL c)/\iP K (eL c) (AN f):=by
 by_cases e:c<21
 .have h:=aH (XM.mp (cN J e) f (lY h));exact⟨Xi (aH h.1).1,(aH h.1).2,h.2⟩
 .unfold FL at h;rw[nU (Nat.le_of_not_lt e)]at h;exact nomatch h
variable{w:ZJ}{os:Y2}
theorem N3{K:Frag}(J:fQ (Wy K) 21){cl m i:Nat}(e:MT cl m=W_ i):yw (GX (uK w K os)) cl m i:=by
 unfold MT at e;cases q:aF MTT cl with|none=>rw[q]at e;exact nomatch e|some l=>rw[q]at e;have h:=cN J (i:=cl) (eF q);unfold Wy at h;rw[q]at h;have h:=aH (XM.mp h _ (rP e));have M:=h.2;have h:=aH h.1;have O:=h.2;have h:=aH h.1;have h4:=h.2;have h:=aH h.1;exact⟨Xi (aH h.1).1,(aH h.1).2,W8.mp h.2,W8.mp h4,W8.mp O,DA rfl M⟩
theorem Hv{K:Frag}(hi:fQ (lkI K) 21)(g:ZF K (.builtin "object.__class__") "__get__"=W_ (W_ (.builtin "getset_descriptor.__get__")))(t:takesIn K (.builtin "object.__class__")=W_ Xg)(h:i9 c):rk (GX (uK w K os)) [.type "bytes",.type "str"] c:=by have h:=aH (Nm (cN hi (vG h rfl)) h);have e:=h.2;have h:=aH h.1;have h4:=h.2;have h:=aH h.1;exact⟨(aH h.1).1,(aH h.1).2,W8.mp h.2,g,t,W8.mp h4,W8.mp e⟩
theorem QF{K:Frag}(hk:fQ (lkK K) 21)(h:N8 c):yC (GX (uK w K os)) c (yy c):=by have h:=aH (Nm (cN hk (vG h rfl)) h);have U:=h.2;have h:=aH h.1;have h4:=h.2;have h:=aH h.1;refine⟨(aH h.1).1,W8.mp (aH h.1).2,W8.mp h.2,W8.mp h4,?_⟩;obtain⟨J,e⟩:=Y3.mp U;obtain⟨O,od,J,M,q⟩:=xW e;exact⟨O,od,J,M,q⟩
theorem PB{K:Frag}(e:fQ (lkE K) 21)(x2:K.lookup (eL 2)=W_ (sd Hd.EE (eL 2) 86 78 272))(x3:K.lookup (eL 3)=W_ (sd Hd.ED (eL 3) 98 90 288))(h:mM c):Cu (GX (uK w K os)) c (yy c):=by
 have hc:=lY h;have h:=aH (aH (Nm (cN e (vG h rfl)) h)).1;have J:=h.2;have h:=aH h.1;have h4:=h.2;have h:=aH h.1;have h3:=h.2;have h:=aH h.1;refine⟨⟨?_,W8.mp h.1,W8.mp h.2⟩,W8.mp h3,W8.mp h4,W8.mp J⟩;rcases Xv.mp hc with rfl|hc
 .exact⟨_,_,_,_,_,_,_,_,_,_,_,_,_,_,_,_,x2,Dh _ rfl⟩
 .obtain rfl:=Xs.mp hc;exact⟨_,_,_,_,_,_,_,_,_,_,_,_,_,_,_,_,x3,Dh _ rfl⟩
theorem zk{K:Frag}(L:Look K) (J:K.lookup cStatics=W_ (Hd.gy w.params .none 2 Hd.BF)) (M:K.lookup Yu=W_ (boot_o_1 w.params))
  (x2:K.lookup (eL 2)=W_ (sd Hd.EE (eL 2) 86 78 272)) (x3:K.lookup (eL 3)=W_ (sd Hd.ED (eL 3) 98 90 288)) (T_:kA (GX (uK w K os)) (.ref (eL 15)) (.ref (k_ 82)) "__init__") (cb:kA (GX (uK w K os)) (.type "Exception") (.builtin "Exception.__init__") "__init__"):Top (uK w K os) where
 nl h X:=⟨_,⟨_,_,_,X _ _ J,rfl,λe U=>AG (Array.mem_toList_iff.mpr U),λW=>rfl⟩,Gx _⟩
 sys:=λe=>nomatch M.symm.trans e
 gk:=⟨λi j=>Je,λc f h=>⟨(pw L.f h).1,(pw L.f h).2.1,(pw L.f h).2.2⟩⟩
 mt _ _ _:=N3 L.m
 isi _:=Hv L.i L.g L.t
 h9 j y e:=wk rfl rfl (XM.mp L.v y (r8 e))
 bU b x e:=by have h:=cN L.p (i:=b) (eF e);unfold lkP at h;rw[e]at h;exact h
 rng:=L.r
 enu:=L.u
 fn j x e z:=by
  have h:=cN L.n (i:=j) (eF e)
  unfold lkN at h;rw[e]at h;exact(u6 h).elim (λh=>W5 (List.isEmpty_iff.mp h) z) λh=>W8.mp h
 TJ i h:=DA rfl (cN L.a h)
 cl j x e:=by have h:=cN L.c (i:=j) (eF e);unfold lkC at h;rw[e]at h;exact W8.mp h
 Wr _:=QF L.k
 en _:=PB L.e x2 x3
 hs a b ha hb:=W8.mp (Nm (cN (aH (Nm (cN L.e (vG ha rfl)) ha)).2 (vG hb rfl)) hb)
 st c σ Q X p O hk q:=wk (u:=uK w K os) (y:=(("Statement":Str),.cl 15)) rfl rfl L.s c σ Q X p O hk dbS q
 cm:=T_
 ex c σ Q X p O hk q:=wk (u:=uK w K os) (y:=(("Exception":Str),.ty "Exception")) rfl rfl L.x c σ Q X p O hk dbE q
 cb:=cb
theorem QC{K:Frag}(h:ZF K (.ref (eL 15)) "__getattribute__"=W_ (W_ (.builtin "type.__getattribute__"))/\readsIn K (eL 15) (.type "type")/\findCls K (.ref (eL 15)) (.type "type") "__init__"=W_ (.val (.ref (k_ 82)))):kA (GX (uK w K os)) (.ref (eL 15)) (.ref (k_ 82)) "__init__" :=IB (G:=GX (uK w K os)) h.1 h.2.1 h.2.2 rfl
theorem cb0:Manifest.isStub "Exception"=Xb:=by decide+kernel
theorem cb1:onTheHeap (.type "type")=Xb:=by decide+kernel
theorem cb2:typeOf (.type "Exception")=pure (.type "type"):=by kernel_rfl
theorem Rl{K:Frag}(h:YU K (.type "type") "__getattribute__"=W_ (W_ (.builtin "type.__getattribute__"))/\subIn K (.type "type") (.type "type")=W_ Xg/\findCls K (.type "Exception") (.type "type") "__init__"=W_ (.val (.builtin "Exception.__init__"))/\YU K (.type "type") "__getattr__"=W_ Xk):kA (GX (uK w K os)) (.type "Exception") (.builtin "Exception.__init__") "__init__" :=
 BS (G:=GX (uK w K os)) cb0 h.1 h.2.1 h.2.2.1 (by decide+kernel) h.2.2.2 cb1 cb2
theorem Uu (w:ZJ) (os:Y2):Top (u0 w os):=zk (K:=KP w.params) (vI w.params) (kS2 w.params) (kS1 w.params) (ex2 w.params) (ex3 w.params) (QC (aaY w.params)) (Rl (cbT w.params))
noncomputable def BJ:Nat->List (Option DF)->List (Nat×DF)|_,[]=>[]|i,Xk::l=>BJ (i+1) l|i,W_ d::l=>(i,d)::BJ (i+1) l
def Ir:List (Nat×DF):=BJ 0 DL
theorem xJ{d:DF}:∀{l:List (Option DF)}{i j:Nat},aF l i=W_ (W_ d)->(j+i,d)∈BJ j l:=by
 intro l;induction l with|nil=>exact λe=>nomatch e|cons x l ih=>
  intro i j e;induction i using XN with|zero=>cases e;exact .head _|succ i=>
  have h:=ih (i:=i) (j:=j+1) e;rw[show j+(i+1)=j+1+i from (X_ j 1 i▸YN 1 i▸rfl)];cases x with|none=>exact h|some y=>exact .tail _ h
def yL (K:Frag)(i:Nat):FuncData:=match K.lookup (k_ i)with|some ⟨_,_,.func fd,_⟩=>fd|_=>default
noncomputable def Tw:List Str->Bool|[]=>Xg|x::l=>!jh x l&&Tw l
theorem GU{x:Str}:∀{l:List Str},x∈l->jh x l:=by
 intro l;induction l with|nil=>exact λh=>nomatch h|cons y l ih=>intro h;show(cC x y||jh x l);cases h with|head=>rw[<-ee,WY];rfl|tail _ h=>rw[ih h,Bool.or_true]
theorem o5:∀{l:List Str},Tw l->l.Nodup
 |[],_=>.nil|x::l,h=>by obtain⟨h1,h2⟩:=aH h;refine X5.mpr ⟨λm=>?_,o5 h2⟩;rw[GU m]at h1;cases h1
def dfB (K:Frag)(n:Nat)(d:DF)(fd:FuncData):Bool:=
 (((codeIn K fd.code fd.qualname&&fd.closure.isEmpty)&&(XI fd.globals Yj&&XI fd.builtins builtinsNs))&&((!fd.scope.isCoroutine&&!fd.scope.isGenerator)&&(fd.scope.kind== .function&&Tw d.nm)))&&
 (((d.nm.all (λx=>!cC x "__debug__"&&!cC x "__classdict__"))&&Tw d.cs)&&(((d.nm.take d.np).all λx=>fd.scope.names.lookup x==W_ .local||(fd.scope.names.lookup x==W_ .cell&&jh x d.cs))&&(d.cs.all (λx=>((cellsFrom n fd.scope.names []).lookup x).isSome)&&XU d.np d.nm.length)))
noncomputable def JI (d:DF):ax:=(List.range (d.df.length+1)).map λj=>d.np-j
noncomputable def vl(v:Nat->Xj)(k:Nat):List Xj:=(List.range k).map v
noncomputable def dflt (K:Frag)(fd:FuncData)(m:Nat):List Xj:=match fd.defaults with
 |.ref a=>match K.lookup a with|some ⟨_,_,.seq vs _,_⟩=>vs.toList.drop (vs.toList.length-m)|_=>[]
 |_=>[]
def Ur(K:Frag)(l:aP)(vs:List Xj):Bool:=XI l.length vs.length&&(l.zip vs).all λy=>K3 K 4 y.1 y.2
theorem K5 (e:List Xj):vl (λi=>e.getD i .none) e.length=e:=by unfold vl;refine List.ext_getElem (by rw[Xl,YB]) λi h1 h2=>?_;rw[List.getElem_map,List.getElem_range,Zo,XD h2,Option.getD_some]
abbrev Eb(K:Frag)(n:Nat):Prop:=(Ir.all λy=>Pn K y.1&&dfB K n y.2 (yL K y.1))=Xg
abbrev CT (K:Frag):Prop:=(Ir.map λy=>((yL K y.1).scope,(yL K y.1).body))=Ir.map λy=>(F1 y.2.st,.stmts (yg y.2.st))
def I6 (K:Frag)(S:Setting)(v:Nat->Xj)(y:Nat×DF)(k:Nat):Option (List (Str×Xj)):=peek K S (bindArgs (yL K y.1) ⟨vl v k,[]⟩)
def I5 (K:Frag) (v:Nat->Xj) (y:Nat×DF) (k:Nat):Option (List (Str×Xj)):=W_ ((y.2.nm.take y.2.np).zip (vl v k++dflt K (yL K y.1) (y.2.np-k)))
abbrev Eo (K:Frag)(S:Setting)(v:Nat->Xj):Prop:=(Ir.map λy=>(JI y.2).map (I6 K S v y))=Ir.map λy=>(JI y.2).map (I5 K v y)
abbrev Ea (K:Frag):Prop:=(Ir.all λy=>(JI y.2).all λk=>Ur K (y.2.dv k) (dflt K (yL K y.1) (y.2.np-k)))=Xg
theorem Iu (P:Ym)(n:Nat):Eb (KP P) n:=by kernel_rfl
theorem F0 (P:Ym):CT (KP P):=by kernel_rfl
theorem I4 (P:Ym)(S:Setting)(v:Nat->Xj):Eo (KP P) S v:=by kernel_rfl
theorem Il (P:Ym):Ea (KP P):=by kernel_rfl
theorem o8{β:Type}{f g:α->β}:∀{l:List α}{x:α},l.map f=l.map g->x∈l->f x=g x:=by
 intro l;induction l with|nil=>exact λW h=>nomatch h|cons y l ih=>intro x e h;obtain⟨J,e2⟩:=ZU e;cases h with|head=>exact J|tail _ h=>exact ih e2 h
theorem BL{K:Frag}(h1:∀n,Eb K n) (h2:CT K) (h3:∀S v,Eo K S v) (h4:Ea K){i:Nat}{d:DF}(e:aF DL i=W_ (W_ d)):yB (uK w K os) i d:=by
 have m:(i,d)∈Ir:=by have:=xJ (j:=0) e;rwa[X7]at this
 have U:∀n,Pn K i/\dfB K n d (yL K i):=λn=>aH (XM.mp (h1 n) _ m);obtain⟨a,b⟩:=U 0;obtain⟨b1,b2⟩:=aH b;obtain⟨b1,b3⟩:=aH b1;obtain⟨b1,b4⟩:=aH b1;obtain⟨q1,q2⟩:=aH b1;obtain⟨q3,q4⟩:=aH b4;obtain⟨b3,b5⟩:=aH b3;obtain⟨q5,q6⟩:=aH b3;obtain⟨q7,q8⟩:=aH b5;obtain⟨b2,b6⟩:=aH b2;obtain⟨q9,uv⟩:=aH b2;obtain⟨uu,b6⟩:=aH b6;obtain⟨-,sV⟩:=aH b6;have sc:=o8 h2 m;refine⟨⟨yL K i,⟨?_,q1,List.isEmpty_iff.mp q2,XJ q3,XJ q4,nb q5,nb q6,W8.mp q7,o5 q8,λx O=>?_,o5 uv,λx O=>?_,λx O n=>?_⟩,WX Prod.fst sc,WX Prod.snd sc,λk k1 k2 g s J kb X hl=>?_⟩,Xi sV⟩
 .obtain⟨Y,od,fd,V,q⟩:=qS a;exact⟨Y,od,V,by unfold yL;rw[q]⟩
 .obtain⟨z1,z2⟩:=aH (XM.mp q9 x O);exact⟨(ee _ _).trans (nb z1),(ee _ _).trans (nb z2)⟩
 .rcases u6 (XM.mp uu x O)with h|h
  .exact .inl (W8.mp h)
  .obtain⟨z1,z2⟩:=aH h;exact .inr ⟨W8.mp z1,qz z2⟩
 .obtain⟨-,b⟩:=U n;obtain⟨-,b⟩:=aH b;obtain⟨-,b⟩:=aH b;obtain⟨-,b⟩:=aH b;obtain⟨b,-⟩:=aH b;exact XM.mp b x O
 .have mk:k∈JI d:=Yi.mpr ⟨d.np-k,List.mem_range.mpr (Nat.lt_succ_of_le (Nat.sub_le_iff_le_add'.mpr k1)),Nat.sub_sub_self k2⟩;subst hl;refine⟨J++dflt K (yL K i) (d.np-J.length),λM A E Q q=>?_,λvs r=>r.append ?_⟩
  .have z:=o8 (o8 (f:=λy=>(JI y.2).map (I6 K ⟨M.prog,M.w.params⟩ (λi=>J.getD i .none) y)) (g:=λy=>(JI y.2).map (I5 K (λi=>J.getD i .none) y)) (h3 _ _) m) mk;unfold I6 I5 at z;rw[K5]at z;exact(Looks.of_peek X z).here q
  .obtain⟨z1,z2⟩:=aH (XM.mp (XM.mp h4 _ m) _ mk);refine⟨XJ z1,λj x v O Z=>tM kb (XM.mp z2 (x,v) (Yq (i:=j) ?_))⟩;rw[List.getElem?_zip_eq_some];exact⟨O,Z⟩
theorem WG (w:ZJ) (os:Y2):aL (u0 w os):=⟨Uu w os,λW W e=>BL (K:=KP w.params) (Iu w.params) (F0 w.params) (I4 w.params) (Il w.params) e⟩
theorem AS:∀{l:List WData},WShape.hasItems [] l .int-> ∃ns:List Int,l=ns.map WData.int:=by
 intro l;induction l with|nil=>exact λW=>⟨[],rfl⟩|cons x l ih=>intro h;simp only[WShape.hasItems,XS]at h;obtain⟨i,rfl⟩:=hasW_int h.1;obtain⟨ns,rfl⟩:=ih h.2;exact⟨i::ns,rfl⟩
noncomputable def jV:List Int->Nat->List Xj|[],_=>[]|i::l,t=>.int i t::jV l (t+1)
theorem lay_ints{R:WRecords}{cl:Str->Option Addr}{e:List DictEntry->List DictEntry}:∀(ns:List Int)(s:XB),layAllW R cl P e (ns.map WData.int) s=W_ (jV ns s.toks,{s with toks:=s.toks+ns.length}):=by
 intro ns;induction ns with|nil=>exact λW=>rfl|cons i ns ih=>intro s;show(match layAllW R cl P e (ns.map WData.int) {s with toks:=s.toks+1} with|some r=>W_ (Xj.int i s.toks::r.1,r.2)|none=>Xk)=_;rw[ih];show W_ _=W_ _;rw[Xq,YG,X_];rfl
theorem nR{G:cc}{g:bQ}:∀{ns:List Int}{t:Nat},cF G g (ns.map .int) (jV ns t)|[],_=>.nil|i::ns,t=>.cons (.int i t) nR
abbrev RR:RowW:=Hd.RW.row.toRowW
def YP0(w:ZJ)(h:Heap):Prop:=∀b o,(Hd.HF w.params).get? b=W_ o->h.get? b=W_ o
theorem Aw:S [108,97,119]=RR.name:=by kernel_rfl
theorem Po:aF JN 132=W_ (S [108,97,119]):=rfl
theorem HI:(S [108,97,119]).cps.toList≠[]:=λe=>nomatch e
variable{ns:List Int}
theorem Nb (h:RR.pre.holds RR.records {args:=[.list (ns.map WData.int)]}):ns.length<=63:=by have h1:=(holds_andW h).1;have h1:(WTm.not (.lt (.lit (.int 63)) (.len (.arg 0)))).holds [] {args:=[.list (ns.map WData.int)]}:=h1;w_cond h1;rename_i q;rw[Xl]at q;omega
noncomputable def lH (s:XB)(ns:List Int):XB:={s with heap:=s.heap.push {cls:=.type "list",data:=.seq (jV ns s.toks).toArray},toks:=s.toks+ns.length}
theorem vZ {R:WRecords}{cl:Str->Option Addr}{e:List DictEntry->List DictEntry}{s:XB}:layAllW R cl P e [.list (ns.map WData.int)] s=W_ ([.ref s.heap.objs.size],lH s ns):=by
 show(match(match layAllW R cl P e (ns.map WData.int) s with|some r=>W_ (YV r.2.heap.objs.size,{r.2 with heap:=r.2.heap.push {cls:=.type "list",data:=.seq r.1.toArray}})|none=>Xk)with|some a=>(match layAllW R cl P e [] a.2 with|some r=>W_ (a.1::r.1,r.2)|none=>Xk)|none=>Xk)=_
 rw[lay_ints];rfl
noncomputable def F_(o:Option Obj):Role:=match o with|some _=>.g|none=>.jZ
theorem Rm{K:Frag}(Kt:aL (uK w K os)){t:Nat}{a:Addr}{s:XB}(q:s.heap.get? a=W_ ⟨.type "list",Xk,.seq (jV ns t).toArray 0,#[]⟩) (M:ns.length<=63) (V:K.In s.heap) (Y:s.gens= #[]) (e2:s.os=os){P E:Xj->XB->Prop}
  (U:∀s',(∀b o,s.heap.get? b=W_ o->s'.heap.get? b=W_ o)->s'.os=os->s'.gens= #[] ->P (.bool Xg) s'):XT (model RR.prog w) callerA (PySem.call (.ref (k_ 132)) [.ref a]) P E s:=by
 have C:gr (GX (uK w K os)) Xg 19 132 [.lst (ns.map .int)] [] (λv W=>v=.bool Xg) (λW W=>False):=v3 (n:=0) Kt λW=>rfl;have J:cF (GX (uK w K os)) s.heap.get? (ns.map .int) (jV ns t):=nR;refine wpAny_call (codeAny_mono (C callerA [] s.heap.get? (λa=>F_ (s.heap.get? a)) _ _ ⟨by decide+kernel,by decide+kernel,λW=>rfl⟩ ⟨[],rfl,λW m=>W5 m XX⟩ (.cons (.sq Xg _ (jV ns t) _ 0 q (by rw[Xl];exact Xa M ll) J.1 J.2) .nil)
  ⟨Y,e2,V,λa o q=>⟨q,WX F_ q⟩,λW m=>W5 m XX,.nil,λa q=>?_⟩) λr s' z=>?_)
 .cases e:s.heap.get? a with|none=>exact W5 (WX F_ e) q|some o=>exact⟨o,rfl⟩
 .rcases r with e|(v|_|_|_)
  .cases z with|mk g' e x H' role' ev k R' q=>exact q.elim
  .exact z.elim
  .exact z.elim
  .exact z.elim
  .cases z with|mk g' mv H' role' k O R' q=>subst q;obtain rfl:=O.bool_inv;exact U s' (λb o q=>(R'.gk b o (k b o q)).1) R'.os R'.gens
theorem IM{s₀ s₁:XB}{U:Str->Option Xj}{K:Frag}(Kt:aL (uK w K s₀.os)) (O:∀a o,K.lookup a=W_ o->(Hd.HF w.params).get? a=W_ o) (hg:s₁.heap.Ns Yj U) (Y:YP0 w s₁.heap){args:List WData}{vs:List Xj}{as:List Addr}(M:RR.claim.pre args) (L:Laid RR.records w s₀ s₁ args vs as):
  ∃f,U RR.name=W_ f/\XT (model RR.prog w) callerA (PySem.call f vs) (λv s'=>GoodWG RR.claim (classAt s₀.heap) (ExcName.means s₀.heap) args s₁ (.ok (.ret v)) s') (λe s'=>GoodWG RR.claim (classAt s₀.heap) (ExcName.means s₀.heap) args s₁ (.error e) s') s₁:=by
 obtain⟨h1,h2⟩:=pre_splitW M;obtain⟨d,r,rfl,h3,h4⟩:=hasAllW_cons h1;obtain rfl:=hasAllW_nil h4;obtain⟨xs,rfl,h5⟩:=hasW_list h3;obtain⟨ns,rfl⟩:=AS h5;obtain⟨⟨Z,-,e⟩,-,-,-,-,J,-⟩:=L;have e:=vZ.symm.trans e;cases e;have V:K.In (lH s₀ ns).heap:=λa o q=>Y a o (O a o q);refine⟨.ref (k_ 132),?_,Rm Kt (X0 _ rfl) (Nb h2) V J rfl λs' k o g=>GoodW.toG ⟨.inl ⟨_,.bool Xg,[],rfl,λW=>rfl,.bool Xg,by wrow_post,λW=>⟨.nil,λW m=>W5 m XX⟩⟩,k,o,g⟩⟩;refine mg_of V hg ?_;rw[<-Aw];exact Kt.T.fn 132 _ Po HI
theorem iZ:RR.promised:=⟨[.list [.int 3,.int 1]],by decide+kernel,by decide+kernel⟩
noncomputable def Vd(s:Stmt):Pos:=match s with|.FunctionDef _ _ _ _ _ _ _ _ _ p=>p|_=>⟨0,0,0,0⟩
def d0:DefRec:=⟨RR.name,Hd.nq (Hd.gA 96),Hd.RY (Hd.gA 96),Hd.LC (Hd.gA 96),Vd (Hd.gA 96)⟩
theorem Qu:defOf Hd.qv RR.name=W_ (d0,[]):=by kernel_rfl
theorem Qw:RR.prog.theDef RR.name=W_ (d0.params,d0.body,d0.scope):=by kernel_rfl
theorem Qv:kwWritten? d0.params.kwonlyargs d0.params.kw_defaults=W_ []:=by kernel_rfl
theorem IL:(chainsOk Hd.qv&&opensWell RR.prog&&(frees RR&&RR.within.isEmpty)):=by kernel_rfl
theorem AQ:RR.prog.bare:=⟨rfl,rfl,rfl,rfl,rfl,Hd.tws⟩
theorem zl:Hd.RW.row.Holds:=⟨Hd.rs,iZ,open_anyG (r:=RR) (run:=λf vs=>PySem.call f vs) (tree:=λvs=>(callStub RR.name vs).cur) (q:=Hd.qv) (loose:=Hd.lz) (defs:=[RR.name]) (kps:=Hd.RW.row.keeps) (writes:=Xb) (Xt:=recOk []) (XP:=λW W=>True) (Yf:=XB.heap) (Ya:=λw=>Hd.HF w.params) (YP:=YP0) (N:=20000) Hd.hd
  (λw s e b o q=>(WX (λh=>Heap.get? h b) e).trans q) (λw h h' y k b o q=>k _ _ (y _ _ q)) (λW W=>trivial) (λW W W W W=>trivial) (λs e=>recFacts_of e) rfl IL AQ iZ
  (λvs w s U f Q E M Z h=>Xe (wpAny_nsGet M (by rw[Z];exact Xe (XY h (λW W x=>Xo x) λW W x=>x))))
  (λw s M G n V=>by rw[Xs.mp V];exact pinned_of_view M G Qu Qw Qv)
  λw s₀ s₁ U mb G Y args vs as J O L low=>IM (K:=KP w.params) (WG w s₀.os) SK G.T.g Y J L⟩
end
end
end Internal
theorem PySem.Challenge.cw_nn0089_01_holds : PySem.Challenge.rw_nn0089_01.Holds :=
 PySem.W.holds_law Hd.F3 λC=>Internal.zl
