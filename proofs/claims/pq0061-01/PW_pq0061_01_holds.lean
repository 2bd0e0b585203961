import PyProof.Rows.All
import Wide.All
import OpenK.AllK
import Wide.FinOn
import PySem.Challenge.RW_pq0061_01
set_option Elab.async false
set_option linter.unusedVariables false
set_option maxRecDepth 100000
set_option compiler.extract_closed false
set_option maxHeartbeats 8000000
open PySem PySem.W PyProof.Rows
namespace ja
noncomputable def q5:Program:={PySem.Challenge.pw_pq0061_01 with main:={PySem.Challenge.pw_pq0061_01.main with body:=PySem.Challenge.pw_pq0061_01.main.body.filter λs=>s.ctorIdx !=5}}
noncomputable def sB(st:SharedT->Thread->Option (SharedT×Thread))(ok:Thread->Bool):Nat->SharedT->Thread->Option SharedT
 |0,_,_=>none
 |n+1,s,t=>match through t with
  |true=>some s
  |false=>match ok t with
   |false=>none
   |true=>match st s t with
    |some (bT,d1)=>sB st ok n bT d1
    |none=>none
theorem Lo{p:Program}{w:World}{DE:Nat}{ann:Option Value}:∀{n:Nat} {s bT:SharedT} {t:Thread},sB (stepT (denote treeTable) p w) (stepOk DE ann) n s t=some bT->topRun treeTable p w DE ann n s.abs t=some bT.abs
 |0,_,_,_,h=>by cases h
 |n+1,s,bT,t,h=>by
  unfold sB at h
  unfold topRun
  cases a0:through t with
  |true=>rw[a0]at h;cases h;rfl
  |false=>
   rw[a0]at h
   cases aq:stepOk DE ann t with
   |false=>rw[aq]at h;cases h
   |true=>
    rw[aq]at h
    cases aZ:stepT (denote treeTable) p w s t with
    |none=>rw[aZ]at h;cases h
    |some r=>obtain ⟨hS,cN⟩:=r;rw[aZ]at h;rw[stepT_spec aZ];exact Lo h
noncomputable def EO(xs:List Obj):Nat->Nat->Nat->BT
 |0,_,_=>.nil
 |n+1,a,b=>match xs[b]? with
  |some o=>.node o (EO xs n (2*a) (a+b)) (EO xs n (2*a) (2*a+b))
  |none=>.nil
noncomputable def AZ(P:Params):BT:=EO (boot_heap P).objs.toList 6 1 0
noncomputable def u1(w:World)(os:OsState):SharedT:=⟨AZ w.params,11,(boot_heap w.params).life,#[],boot_drawn,boot_toks,os⟩
theorem boot_abs(P:Params):absHeap (AZ P) 11 (boot_heap P).life=boot_heap P:=by kernel_rfl
theorem NZ(w:World):((boot_heap w.params).isNs mainGlobals&&(#[]:Array GenState).size==0,(boot_heap w.params).objs.size)=(true,11):=by kernel_rfl
theorem T2{p q:Program}{loose:List Str}{Xt:Shared->Bool}{be:Type}{Yf:Shared->be}{Ya:World->be}{N:Nat}{st:World->SharedT->Thread->Option (SharedT×Thread)}{ok:World->Thread->Bool}{sn}
  (a0:opening p=plainProg p.main.scope.names) (dn:Nat.ble 600 N=true) (hf:∀s,fenceModules? p s=some s)
  (oH:∀w,stepT (denote treeTable) p w=st w) (eE:∀w:World,stepOk 11 ((boot_heap w.params).nsMap mainGlobals "__annotations__")=ok w) (Sc:@openSeen q loose (importedModules p.main.body) Xt true=sn)
  (h:∀w:World,(λos=>(sB (st w) (ok w) N (u1 w os) (topStub p)).map λs=>
    ((staticsOk (importedModules p.main.body) (boot_heap w.params) s.abs.heap&&namesBound p s.abs.heap&&gensDone s.abs&&laidKept (boot_heap w.params) s.abs.heap),sn s.abs))=λ_=>some (true,openGood q loose))
  (af:∀w:World,(λos=>(sB (st w) (ok w) N (u1 w os) (topStub p)).map λs=>Yf s.abs)=λ_=>some (Ya w)):LeftO p q loose Xt Yf Ya N:=λw=>by
 obtain ⟨⟨am,Qh,d,k,os⟩,e,bO⟩:=Option.map_eq_some_iff.mp (boot_open a0 dn hf w)
 obtain ⟨rfl,rfl,rfl,rfl⟩:am=boot_heap w.params/\Qh=#[]/\d=boot_drawn/\k=boot_toks:=by simpa using bO
 obtain ⟨qe,Ao⟩:_/\_:=by simpa only[Prod.mk.injEq] using NZ w
 obtain ⟨dD,r,aw⟩:=Option.map_eq_some_iff.mp (congrFun (h w) os)
 have fL:Yf dD.abs=Ya w:=by
  have:=congrFun (af w) os
  simp only[r,Option.map_some]at this
  exact Option.some.inj this
 subst Sc
 rw[←oH w,←eE w]at r
 obtain ⟨gt,ge⟩:_/\_:=by simpa only[Prod.mk.injEq] using aw
 have eG:=Lo r
 have ab:(u1 w os).abs=⟨boot_heap w.params,#[],boot_drawn,boot_toks,os⟩:=by
  show(⟨absHeap (AZ w.params) 11 (boot_heap w.params).life,_,_,_,_⟩:Shared)=_
  rw[boot_abs]
  rfl
 rw[ab]at eG
 have t:topFrom treeTable p w N ⟨boot_heap w.params,#[],boot_drawn,boot_toks,os⟩=some dD.abs:=by
  unfold topFrom
  dsimp only
  rw[qe,Ao,eG]
  show(match staticsOk (importedModules p.main.body) (boot_heap w.params) dD.abs.heap&&namesBound p dD.abs.heap&&gensDone dD.abs&&laidKept (boot_heap w.params) dD.abs.heap with|true=>_|false=>_)=_
  rw[gt]
 unfold openEnds
 rw[e]
 show(topFrom treeTable p w N _).map _=_
 rw[t]
 exact congrArg some (Prod.ext ge fL)
noncomputable abbrev oQ:Program:=PySem.Challenge.pw_pq0061_01
noncomputable def EB(w:World):SharedT->Thread->Option (SharedT×Thread):=PySem.W.Fast.tw10156331382660048174 (PySem.W.Fast.tw11892475500146522536 PySem.W.Fast.tw14364793385576792824) oQ w
noncomputable def DI(w:World):Thread->Bool:=PySem.W.Fast.tw6613529449190102663 11 ((boot_heap w.params).nsMap mainGlobals "__annotations__")
noncomputable def FB(s:Shared):Bool:=xlAt q5 [] s&&recOk (RowW.records (OpenRow.toRowW (OpenLaw.row PySem.Challenge.rw_pq0061_01))) s
theorem Xd(w:World):(λos=>(sB (EB w) (DI w) 6272 (u1 w os) (topStub oQ)).map λs=>
  ((staticsOk (importedModules oQ.main.body) (boot_heap w.params) s.abs.heap&&namesBound oQ s.abs.heap&&gensDone s.abs&&laidKept (boot_heap w.params) s.abs.heap),PySem.W.Fast.tw4187177175401517315 q5 [] (importedModules oQ.main.body) FB true s.abs))=λ_=>some (true,openGood q5 []):=by kernel_rfl
theorem J6:PySem.Challenge.rw_pq0061_01.wellSaid=true:=by kernel_rfl
theorem ol(h:(OpenLaw.row PySem.Challenge.rw_pq0061_01).Holds):PySem.Challenge.rw_pq0061_01.Holds:=holds_law J6 λ_=>h
theorem Vp(H:Hook)(af:∀w:World,(λos=>(sB (EB w) (DI w) 6272 (u1 w os) (topStub oQ)).map λs=>H.obs s.abs)=λ_=>some (H.val w)){d:DefRec}{Db:List (Str×Expr)}
  (Q1:defOf q5 (OpenLaw.row PySem.Challenge.rw_pq0061_01).name=some (d,Db)) (aF:(OpenLaw.row PySem.Challenge.rw_pq0061_01).prog.theDef (OpenLaw.row PySem.Challenge.rw_pq0061_01).name=some (d.params,d.body,d.scope)) (aq:kwWritten? d.params.kwonlyargs d.params.kw_defaults=some Db)
  (hw:(OpenLaw.row PySem.Challenge.rw_pq0061_01).toRowW.promised)
  (ax:WalkO q5 [] (XL q5 []) H.says (OpenLaw.row PySem.Challenge.rw_pq0061_01).toRowW d Db λf vs=>PySem.call f vs):(OpenLaw.row PySem.Challenge.rw_pq0061_01).Holds:=
 holds_open (q:=q5) (loose:=[]) (Xt:=FB) (XP:=XL q5 []) (Yf:=H.obs) (Ya:=H.val) (YP:=H.says) (N:=6272)
  (T2 (p:=oQ) (st:=EB) (ok:=DI) (by kernel_rfl) (by rfl) (λs=>by kernel_rfl) (λw=>by rw[PySem.W.Fast.te10156331382660048174,PySem.W.Fast.te11892475500146522536,PySem.W.Fast.te14364793385576792824];rfl) (λw=>by rw[PySem.W.Fast.te6613529449190102663];rfl) (by rw[PySem.W.Fast.te4187177175401517315]) Xd af)
  H.of H.keeps (λs e=>xl_of s (Bool.and_eq_true_iff.mp e).1) XL.keeps Q1 aF aq (λs e=>recFacts_of (Bool.and_eq_true_iff.mp e).2) (by rfl) (row_said J6) (by decide+kernel) ⟨rfl,rfl,rfl,rfl,rfl,by decide+kernel⟩ hw ax
end ja
local macro_rules | `(tactic| o_law) => `(tactic| refine ja.ol ?_)
local macro_rules | `(tactic| o_head $H:term) => `(tactic| refine ja.Vp $H (λ _ => by kernel_rfl) rfl rfl rfl ?hw ?_)
open_top hd for PySem.Challenge.rw_pq0061_01
namespace ja
theorem aO:type_of%@Nat.le_trans:=@Nat.le_trans
theorem aI:type_of%@wpAny_bind:=@wpAny_bind
theorem bj:type_of%@wpAny_pure:=@wpAny_pure
theorem bR.{cT,i3}:type_of%@List.length_map.{cT,i3}:=@List.length_map.{cT,i3}
theorem bD:type_of%@Nat.le_refl:=@Nat.le_refl
theorem b5.{cT,i3}:type_of%@List.mem_map.{cT,i3}:=@List.mem_map.{cT,i3}
theorem cK.{cT}:type_of%@List.mem_singleton.{cT}:=@List.mem_singleton.{cT}
theorem e4.{cT}:type_of%@List.getElem?_eq_some_iff.{cT}:=@List.getElem?_eq_some_iff.{cT}
theorem cB:type_of%@Nat.le_of_eq:=@Nat.le_of_eq
theorem dE:type_of%@Nat.lt_of_lt_of_le:=@Nat.lt_of_lt_of_le
theorem bb.{u,v}:type_of%@congrArg.{u,v}:=@congrArg.{u,v}
theorem a3.{u}:type_of%@if_pos.{u}:=@if_pos.{u}
theorem bq.{u}:type_of%@if_neg.{u}:=@if_neg.{u}
theorem dO.{u}:type_of%@List.length_append.{u}:=@List.length_append.{u}
theorem eN.{cT}:type_of%@List.mem_of_getElem?.{cT}:=@List.mem_of_getElem?.{cT}
theorem dS.{cT}:type_of%@List.mem_cons.{cT}:=@List.mem_cons.{cT}
theorem er.{cT}:type_of%@List.mem_append.{cT}:=@List.mem_append.{cT}
theorem fW:type_of%@List.length_range:=@List.length_range
theorem mv.{u}:type_of%@List.length_set.{u}:=@List.length_set.{u}
theorem iJ.{u}:type_of%@List.mem_append_right.{u}:=@List.mem_append_right.{u}
theorem i6.{u}:type_of%@List.mem_append_left.{u}:=@List.mem_append_left.{u}
theorem f7.{cT}:type_of%@List.not_mem_nil.{cT}:=@List.not_mem_nil.{cT}
theorem rj:type_of%@Nat.not_lt_of_le:=@Nat.not_lt_of_le
theorem es:type_of%@Nat.zero_le:=@Nat.zero_le
theorem hD:type_of%@Nat.le_add_right:=@Nat.le_add_right
theorem oX:type_of%@Nat.le_add_left:=@Nat.le_add_left
theorem ji:type_of%@Nat.lt_irrefl:=@Nat.lt_irrefl
theorem fi:type_of%@Nat.succ_le_succ:=@Nat.succ_le_succ
theorem ob:type_of%@Nat.add_le_add:=@Nat.add_le_add
theorem gH:type_of%@Nat.add_le_add_left:=@Nat.add_le_add_left
theorem nb:type_of%@Nat.add_le_add_right:=@Nat.add_le_add_right
theorem ft:type_of%@List.mem_range:=@List.mem_range
theorem dT:type_of%@decide_eq_true:=@decide_eq_true
theorem fu:type_of%@decide_eq_false:=@decide_eq_false
theorem hU:type_of%@of_decide_eq_true:=@of_decide_eq_true
theorem k0.{cT}:type_of%@List.getElem?_set_ne.{cT}:=@List.getElem?_set_ne.{cT}
theorem oc:type_of%@Nat.lt_succ_self:=@Nat.lt_succ_self
theorem k1:type_of%@Nat.le_succ:=@Nat.le_succ
theorem gy:type_of%@Nat.ne_of_lt:=@Nat.ne_of_lt
theorem e6:type_of%@Nat.lt_of_le_of_lt:=@Nat.lt_of_le_of_lt
theorem rk.{cT,i3}:type_of%@Option.bind_some.{cT,i3}:=@Option.bind_some.{cT,i3}
theorem nc.{cT}:type_of%@List.mem_cons_self.{cT}:=@List.mem_cons_self.{cT}
theorem kC.{cT}:type_of%@List.getD_eq_getElem?_getD.{cT}:=@List.getD_eq_getElem?_getD.{cT}
theorem gI:type_of%@Nat.le_of_lt:=@Nat.le_of_lt
theorem k2:type_of%@Nat.lt_trans:=@Nat.lt_trans
theorem L1:type_of%@Nat.lt_succ_of_le:=@Nat.lt_succ_of_le
theorem nd:type_of%@Nat.le_of_lt_succ:=@Nat.le_of_lt_succ
theorem uz:type_of%@Nat.lt_of_le_of_ne:=@Nat.lt_of_le_of_ne
theorem qf:type_of%@Nat.le_of_add_right_le:=@Nat.le_of_add_right_le
theorem lM.{cT}:type_of%@List.getElem?_eq_none.{cT}:=@List.getElem?_eq_none.{cT}
theorem od.{cT}:type_of%@List.nodup_append.{cT}:=@List.nodup_append.{cT}
theorem fv.{cT,i3}:type_of%@List.map_append.{cT,i3}:=@List.map_append.{cT,i3}
theorem fj.{cT,i3,LA}:type_of%@List.map_map.{cT,i3,LA}:=@List.map_map.{cT,i3,LA}
theorem kH.{cT}:type_of%@List.nodup_cons.{cT}:=@List.nodup_cons.{cT}
theorem fO:type_of%@Heap.get?_push_of_some:=@Heap.get?_push_of_some
theorem gz.{cT}:type_of%@List.getElem?_eq_getElem.{cT}:=@List.getElem?_eq_getElem.{cT}
theorem ha:type_of%@Bool.and_eq_true_iff:=@Bool.and_eq_true_iff
theorem gA:type_of%@Heap.get?_push_size:=@Heap.get?_push_size
theorem fX.{u}:type_of%@List.length_cons.{u}:=@List.length_cons.{u}
theorem e7:type_of%@Heap.lt_size:=@Heap.lt_size
theorem hb.{u}:type_of%@List.size_toArray.{u}:=@List.size_toArray.{u}
theorem iK.{cT}:type_of%@Array.length_toList.{cT}:=@Array.length_toList.{cT}
theorem gm.{u,v}:type_of%@List.map_cons.{u,v}:=@List.map_cons.{u,v}
theorem hV:type_of%@Bool.false_eq_true:=@Bool.false_eq_true
theorem gV.{u,cT}:type_of%@List.lookup_cons.{u,cT}:=@List.lookup_cons.{u,cT}
theorem iL:type_of%@decide_eq_true_eq:=@decide_eq_true_eq
theorem iM.{cT,i3}:type_of%@List.getElem?_map.{cT,i3}:=@List.getElem?_map.{cT,i3}
theorem jK:type_of%@Heap.SameBut.update:=@Heap.SameBut.update
theorem i7:type_of%@Nat.le_of_succ_le:=@Nat.le_of_succ_le
theorem kD.{u}:type_of%@Array.getElem?_toList.{u}:=@Array.getElem?_toList.{u}
theorem lK:type_of%@PySem.F.type_list_append:=@PySem.F.type_list_append
theorem lL:type_of%@PySem.F.slot_list_append:=@PySem.F.slot_list_append
theorem mw.{cT}:type_of%@List.getElem?_append_left.{cT}:=@List.getElem?_append_left.{cT}
theorem kE.{cT,i3}:type_of%@List.map_congr_left.{cT,i3}:=@List.map_congr_left.{cT,i3}
theorem jj.{cT}:type_of%@List.mem_filter.{cT}:=@List.mem_filter.{cT}
theorem k3:type_of%@Bool.false_ne_true:=@Bool.false_ne_true
theorem kF.{cT}:type_of%@List.all_eq_true.{cT}:=@List.all_eq_true.{cT}
theorem lN:type_of%@Nat.add_right_comm:=@Nat.add_right_comm
theorem kG:type_of%@Nat.not_lt_zero:=@Nat.not_lt_zero
theorem nf.{cT}:type_of%@List.mem_cons_of_mem.{cT}:=@List.mem_cons_of_mem.{cT}
theorem ix:type_of%@PySem.F.plainAttrs_list:=@PySem.F.plainAttrs_list
theorem gJ:type_of%@wpAny_holding:=@wpAny_holding
theorem hW:type_of%@wpAny_mono:=@wpAny_mono
end ja
theorem ja.ag{p:Prop}(h:p:=by decide):p:=h
set_option bootstrap.genMatcherCode false
set_option genSizeOfSpec false
namespace ja
theorem bU{ch aT:Prop}{G:Prop}(h:ch/\aT)(f:ch->aT->G):G:=by
 rcases h with⟨bV,ai⟩
 exact f bV ai
theorem fV{ch aT bx:Prop}{G:Prop}(h:ch/\aT/\bx)(f:ch->aT->bx->G):G:=by
 rcases h with⟨bV,ai,ak⟩
 exact f bV ai ak
theorem qc{ch aT bx cx:Prop}{G:Prop}(h:ch/\aT/\bx/\cx)(f:ch->aT->bx->cx->G):G:=by
 rcases h with⟨bV,ai,ak,aV⟩
 exact f bV ai ak aV
theorem Zh{ch aT bx cx dm:Prop}{G:Prop}(h:ch/\aT/\bx/\cx/\dm)(f:ch->aT->bx->cx->dm->G):G:=by
 rcases h with⟨bV,ai,ak,aV,bL⟩
 exact f bV ai ak aV bL
theorem E1{ch aT bx cx dm hQ lH:Prop}{G:Prop}(h:ch/\aT/\bx/\cx/\dm/\hQ/\lH)(f:ch->aT->bx->cx->dm->hQ->lH->G):G:=by
 rcases h with⟨bV,ai,ak,aV,bL,dx,cC⟩
 exact f bV ai ak aV bL dx cC
theorem a6{dF:Sort _}{ch:dF->Prop}{G:Prop}(h:∃aP,ch aP)(f:∀aP,ch aP->G):G:=by
 rcases h with⟨aP,bV⟩
 exact f _ bV
theorem aG{dF:Sort _}{ch aT:dF->Prop}{G:Prop}(h:∃aP,ch aP/\aT aP)(f:∀aP,ch aP->aT aP->G):G:=by
 rcases h with⟨aP,bV,ai⟩
 exact f _ bV ai
theorem eB{dF:Sort _}{ch aT bx:dF->Prop}{G:Prop}(h:∃aP,ch aP/\aT aP/\bx aP)(f:∀aP,ch aP->aT aP->bx aP->G):G:=by
 rcases h with⟨aP,bV,ai,ak⟩
 exact f _ bV ai ak
theorem iv{dF:Sort _}{ch aT bx cx:dF->Prop}{G:Prop}(h:∃aP,ch aP/\aT aP/\bx aP/\cx aP)(f:∀aP,ch aP->aT aP->bx aP->cx aP->G):G:=by
 rcases h with⟨aP,bV,ai,ak,aV⟩
 exact f _ bV ai ak aV
theorem LO{dF:Sort _}{ch aT bx cx dm:dF->Prop}{G:Prop}(h:∃aP,ch aP/\aT aP/\bx aP/\cx aP/\dm aP)(f:∀aP,ch aP->aT aP->bx aP->cx aP->dm aP->G):G:=by
 rcases h with⟨aP,bV,ai,ak,aV,bL⟩
 exact f _ bV ai ak aV bL
theorem Zi{dF:Sort _}{ch aT bx cx dm hQ:dF->Prop}{G:Prop}(h:∃aP,ch aP/\aT aP/\bx aP/\cx aP/\dm aP/\hQ aP)(f:∀aP,ch aP->aT aP->bx aP->cx aP->dm aP->hQ aP->G):G:=by
 rcases h with⟨aP,bV,ai,ak,aV,bL,dx⟩
 exact f _ bV ai ak aV bL dx
theorem iH{dF:Sort _}{eH:Sort _}{ch:dF->eH->Prop}{G:Prop}(h:∃aP aX,ch aP aX)(f:∀aP aX,ch aP aX->G):G:=by
 rcases h with⟨aP,aX,bV⟩
 exact f _ _ bV
theorem dv{dF:Sort _}{eH:Sort _}{ch aT:dF->eH->Prop}{G:Prop}(h:∃aP aX,ch aP aX/\aT aP aX)(f:∀aP aX,ch aP aX->aT aP aX->G):G:=by
 rcases h with⟨aP,aX,bV,ai⟩
 exact f _ _ bV ai
theorem b2{dF:Sort _}{eH:Sort _}{ch aT bx:dF->eH->Prop}{G:Prop}(h:∃aP aX,ch aP aX/\aT aP aX/\bx aP aX)(f:∀aP aX,ch aP aX->aT aP aX->bx aP aX->G):G:=by
 rcases h with⟨aP,aX,bV,ai,ak⟩
 exact f _ _ bV ai ak
theorem fh{dF:Sort _}{eH:Sort _}{ch aT bx cx:dF->eH->Prop}{G:Prop}(h:∃aP aX,ch aP aX/\aT aP aX/\bx aP aX/\cx aP aX)(f:∀aP aX,ch aP aX->aT aP aX->bx aP aX->cx aP aX->G):G:=by
 rcases h with⟨aP,aX,bV,ai,ak,aV⟩
 exact f _ _ bV ai ak aV
theorem jh{dF:Sort _}{eH:Sort _}{ch aT bx cx dm:dF->eH->Prop}{G:Prop}(h:∃aP aX,ch aP aX/\aT aP aX/\bx aP aX/\cx aP aX/\dm aP aX)(f:∀aP aX,ch aP aX->aT aP aX->bx aP aX->cx aP aX->dm aP aX->G):G:=by
 rcases h with⟨aP,aX,bV,ai,ak,aV,bL⟩
 exact f _ _ bV ai ak aV bL
theorem xm{dF:Sort _}{eH:Sort _}{ch aT bx cx dm hQ:dF->eH->Prop}{G:Prop}(h:∃aP aX,ch aP aX/\aT aP aX/\bx aP aX/\cx aP aX/\dm aP aX/\hQ aP aX)(f:∀aP aX,ch aP aX->aT aP aX->bx aP aX->cx aP aX->dm aP aX->hQ aP aX->G):G:=by
 rcases h with⟨aP,aX,bV,ai,ak,aV,bL,dx⟩
 exact f _ _ bV ai ak aV bL dx
theorem sF{dF:Sort _}{eH:Sort _}{gn:Sort _}{ch:dF->eH->gn->Prop}{G:Prop}(h:∃aP aX bg,ch aP aX bg)(f:∀aP aX bg,ch aP aX bg->G):G:=by
 rcases h with⟨aP,aX,bg,bV⟩
 exact f _ _ _ bV
theorem iw{dF:Sort _}{eH:Sort _}{gn:Sort _}{ch aT:dF->eH->gn->Prop}{G:Prop}(h:∃aP aX bg,ch aP aX bg/\aT aP aX bg)(f:∀aP aX bg,ch aP aX bg->aT aP aX bg->G):G:=by
 rcases h with⟨aP,aX,bg,bV,ai⟩
 exact f _ _ _ bV ai
theorem d4{dF:Sort _}{eH:Sort _}{gn:Sort _}{ch aT bx:dF->eH->gn->Prop}{G:Prop}(h:∃aP aX bg,ch aP aX bg/\aT aP aX bg/\bx aP aX bg)(f:∀aP aX bg,ch aP aX bg->aT aP aX bg->bx aP aX bg->G):G:=by
 rcases h with⟨aP,aX,bg,bV,ai,ak⟩
 exact f _ _ _ bV ai ak
theorem lI{dF:Sort _}{eH:Sort _}{gn:Sort _}{ch aT bx cx:dF->eH->gn->Prop}{G:Prop}(h:∃aP aX bg,ch aP aX bg/\aT aP aX bg/\bx aP aX bg/\cx aP aX bg)(f:∀aP aX bg,ch aP aX bg->aT aP aX bg->bx aP aX bg->cx aP aX bg->G):G:=by
 rcases h with⟨aP,aX,bg,bV,ai,ak,aV⟩
 exact f _ _ _ bV ai ak aV
theorem hs{dF:Sort _}{eH:Sort _}{gn:Sort _}{ch aT bx cx dm:dF->eH->gn->Prop}{G:Prop}(h:∃aP aX bg,ch aP aX bg/\aT aP aX bg/\bx aP aX bg/\cx aP aX bg/\dm aP aX bg)(f:∀aP aX bg,ch aP aX bg->aT aP aX bg->bx aP aX bg->cx aP aX bg->dm aP aX bg->G):G:=by
 rcases h with⟨aP,aX,bg,bV,ai,ak,aV,bL⟩
 exact f _ _ _ bV ai ak aV bL
theorem sG{dF:Sort _}{eH:Sort _}{gn:Sort _}{ch aT bx cx dm hQ:dF->eH->gn->Prop}{G:Prop}(h:∃aP aX bg,ch aP aX bg/\aT aP aX bg/\bx aP aX bg/\cx aP aX bg/\dm aP aX bg/\hQ aP aX bg)(f:∀aP aX bg,ch aP aX bg->aT aP aX bg->bx aP aX bg->cx aP aX bg->dm aP aX bg->hQ aP aX bg->G):G:=by
 rcases h with⟨aP,aX,bg,bV,ai,ak,aV,bL,dx⟩
 exact f _ _ _ bV ai ak aV bL dx
theorem rh{dF:Sort _}{eH:Sort _}{gn:Sort _}{jk:Sort _}{ch aT:dF->eH->gn->jk->Prop}{G:Prop}(h:∃aP aX bg bQ,ch aP aX bg bQ/\aT aP aX bg bQ)(f:∀aP aX bg bQ,ch aP aX bg bQ->aT aP aX bg bQ->G):G:=by
 rcases h with⟨aP,aX,bg,bQ,bV,ai⟩
 exact f _ _ _ _ bV ai
theorem Zj{dF:Sort _}{eH:Sort _}{gn:Sort _}{jk:Sort _}{ch aT bx:dF->eH->gn->jk->Prop}{G:Prop}(h:∃aP aX bg bQ,ch aP aX bg bQ/\aT aP aX bg bQ/\bx aP aX bg bQ)(f:∀aP aX bg bQ,ch aP aX bg bQ->aT aP aX bg bQ->bx aP aX bg bQ->G):G:=by
 rcases h with⟨aP,aX,bg,bQ,bV,ai,ak⟩
 exact f _ _ _ _ bV ai ak
theorem LP{dF:Sort _}{eH:Sort _}{gn:Sort _}{jk:Sort _}{ch aT bx cx:dF->eH->gn->jk->Prop}{G:Prop}(h:∃aP aX bg bQ,ch aP aX bg bQ/\aT aP aX bg bQ/\bx aP aX bg bQ/\cx aP aX bg bQ)(f:∀aP aX bg bQ,ch aP aX bg bQ->aT aP aX bg bQ->bx aP aX bg bQ->cx aP aX bg bQ->G):G:=by
 rcases h with⟨aP,aX,bg,bQ,bV,ai,ak,aV⟩
 exact f _ _ _ _ bV ai ak aV
theorem xn{dF:Sort _}{eH:Sort _}{gn:Sort _}{jk:Sort _}{ch aT bx cx dm:dF->eH->gn->jk->Prop}{G:Prop}(h:∃aP aX bg bQ,ch aP aX bg bQ/\aT aP aX bg bQ/\bx aP aX bg bQ/\cx aP aX bg bQ/\dm aP aX bg bQ)(f:∀aP aX bg bQ,ch aP aX bg bQ->aT aP aX bg bQ->bx aP aX bg bQ->cx aP aX bg bQ->dm aP aX bg bQ->G):G:=by
 rcases h with⟨aP,aX,bg,bQ,bV,ai,ak,aV,bL⟩
 exact f _ _ _ _ bV ai ak aV bL
theorem LQ{dF:Sort _}{eH:Sort _}{gn:Sort _}{jk:Sort _}{oe:Sort _}{ch aT:dF->eH->gn->jk->oe->Prop}{G:Prop}(h:∃aP aX bg bQ cm,ch aP aX bg bQ cm/\aT aP aX bg bQ cm)(f:∀aP aX bg bQ cm,ch aP aX bg bQ cm->aT aP aX bg bQ cm->G):G:=by
 rcases h with⟨aP,aX,bg,bQ,cm,bV,ai⟩
 exact f _ _ _ _ _ bV ai
theorem qd{dF:Sort _}{eH:Sort _}{gn:Sort _}{jk:Sort _}{oe:Sort _}{ch aT bx:dF->eH->gn->jk->oe->Prop}{G:Prop}(h:∃aP aX bg bQ cm,ch aP aX bg bQ cm/\aT aP aX bg bQ cm/\bx aP aX bg bQ cm)(f:∀aP aX bg bQ cm,ch aP aX bg bQ cm->aT aP aX bg bQ cm->bx aP aX bg bQ cm->G):G:=by
 rcases h with⟨aP,aX,bg,bQ,cm,bV,ai,ak⟩
 exact f _ _ _ _ _ bV ai ak
theorem LR{dF:Sort _}{eH:Sort _}{gn:Sort _}{jk:Sort _}{oe:Sort _}{ch aT bx cx:dF->eH->gn->jk->oe->Prop}{G:Prop}(h:∃aP aX bg bQ cm,ch aP aX bg bQ cm/\aT aP aX bg bQ cm/\bx aP aX bg bQ cm/\cx aP aX bg bQ cm)(f:∀aP aX bg bQ cm,ch aP aX bg bQ cm->aT aP aX bg bQ cm->bx aP aX bg bQ cm->cx aP aX bg bQ cm->G):G:=by
 rcases h with⟨aP,aX,bg,bQ,cm,bV,ai,ak,aV⟩
 exact f _ _ _ _ _ bV ai ak aV
theorem sH{dF:Sort _}{eH:Sort _}{gn:Sort _}{jk:Sort _}{oe:Sort _}{ch aT bx cx dm:dF->eH->gn->jk->oe->Prop}{G:Prop}(h:∃aP aX bg bQ cm,ch aP aX bg bQ cm/\aT aP aX bg bQ cm/\bx aP aX bg bQ cm/\cx aP aX bg bQ cm/\dm aP aX bg bQ cm)(f:∀aP aX bg bQ cm,ch aP aX bg bQ cm->aT aP aX bg bQ cm->bx aP aX bg bQ cm->cx aP aX bg bQ cm->dm aP aX bg bQ cm->G):G:=by
 rcases h with⟨aP,aX,bg,bQ,cm,bV,ai,ak,aV,bL⟩
 exact f _ _ _ _ _ bV ai ak aV bL
theorem Zk{dF:Sort _}{eH:Sort _}{gn:Sort _}{jk:Sort _}{oe:Sort _}{ch aT bx cx dm hQ:dF->eH->gn->jk->oe->Prop}{G:Prop}(h:∃aP aX bg bQ cm,ch aP aX bg bQ cm/\aT aP aX bg bQ cm/\bx aP aX bg bQ cm/\cx aP aX bg bQ cm/\dm aP aX bg bQ cm/\hQ aP aX bg bQ cm)(f:∀aP aX bg bQ cm,ch aP aX bg bQ cm->aT aP aX bg bQ cm->bx aP aX bg bQ cm->cx aP aX bg bQ cm->dm aP aX bg bQ cm->hQ aP aX bg bQ cm->G):G:=by
 rcases h with⟨aP,aX,bg,bQ,cm,bV,ai,ak,aV,bL,dx⟩
 exact f _ _ _ _ _ bV ai ak aV bL dx
theorem LS{dF:Sort _}{eH:Sort _}{gn:Sort _}{jk:Sort _}{oe:Sort _}{ch aT bx cx dm hQ lH:dF->eH->gn->jk->oe->Prop}{G:Prop}(h:∃aP aX bg bQ cm,ch aP aX bg bQ cm/\aT aP aX bg bQ cm/\bx aP aX bg bQ cm/\cx aP aX bg bQ cm/\dm aP aX bg bQ cm/\hQ aP aX bg bQ cm/\lH aP aX bg bQ cm)(f:∀aP aX bg bQ cm,ch aP aX bg bQ cm->aT aP aX bg bQ cm->bx aP aX bg bQ cm->cx aP aX bg bQ cm->dm aP aX bg bQ cm->hQ aP aX bg bQ cm->lH aP aX bg bQ cm->G):G:=by
 rcases h with⟨aP,aX,bg,bQ,cm,bV,ai,ak,aV,bL,dx,cC⟩
 exact f _ _ _ _ _ bV ai ak aV bL dx cC
theorem E6{dF:Type _}{eH:Type _}{ch aT:dF×eH->Prop}{G:Prop}(h:∃x,ch x/\aT x)(f:∀aP aX,ch (aP,aX)->aT (aP,aX)->G):G:=by
 rcases h with⟨⟨aP,aX⟩,bV,ai⟩
 exact f _ _ bV ai
theorem c0{be:Type _}{a b:be}{G:Prop}(h:some a=some b)(f:a=b->G):G:=f (Option.some.inj h)
theorem ds{be dh:Type _}{a c:be}{b d:dh}{G:Prop}(h:some (a,b)=some (c,d))(f:a=c->b=d->G):G:=by cases h;exact f rfl rfl
theorem z1{be dh jl:Type _}{a c:be}{b d:dh}{x y:jl}{G:Prop}(h:some (a,b,x)=some (c,d,y))(f:a=c->b=d->x=y->G):G:=by cases h;exact f rfl rfl rfl
theorem hM{G:Prop}(h:false=true):G:=Bool.noConfusion h
theorem bi{be:Type _}{x:be}{G:Prop}(h:none=some x):G:=Option.noConfusion rfl (heq_of_eq h)
theorem ka{be:Type _}{P:be->Prop}:∀x∈([]:List be),P x:=λ_ h=>absurd h f7
theorem cI{be dh:Type _}{o:Option be}{f:be->Option dh}{r:dh}{G:Prop}(h:o.bind f=some r)(k:∀a,o=some a->f a=some r->G):G:=by
 cases o with
 |none=>cases h
 |some a=>exact k a rfl h
theorem dw{be dh jl:Type _}{o:Option (be×jl)}{f:be×jl->Option dh}{r:dh}{G:Prop}(h:o.bind f=some r)(k:∀a b,o=some (a,b)->f (a,b)=some r->G):G:=cI h λa=>k a.1 a.2
theorem AX{be dh jl xr:Type _}{o:Option (be×jl×xr)}{f:be×jl×xr->Option dh}{r:dh}{G:Prop}(h:o.bind f=some r)(k:∀a b c,o=some (a,b,c)->f (a,b,c)=some r->G):G:=cI h λa=>k a.1 a.2.1 a.2.2
theorem fC{be dh:Type _}{o:Option be}{f:be->dh}{r:dh}{G:Prop}(h:o.map f=some r)(k:∀a,o=some a->f a=r->G):G:=by
 cases o with
 |none=>cases h
 |some a=>exact k a rfl (Option.some.inj h)
theorem lG{be dh jl:Type _}{o:Option (be×jl)}{f:be×jl->dh}{r:dh}{G:Prop}(h:o.map f=some r)(k:∀a b,o=some (a,b)->f (a,b)=r->G):G:=fC h λa=>k a.1 a.2
theorem Uu{be dh jl xr:Type _}{o:Option (be×jl×xr)}{f:be×jl×xr->dh}{r:dh}{G:Prop}(h:o.map f=some r)(k:∀a b c,o=some (a,b,c)->f (a,b,c)=r->G):G:=fC h λa=>k a.1 a.2.1 a.2.2
theorem dB{c:Prop}[Decidable c]{be:Type _}{o:Option be}{x:be}{G:Prop}(h:(if c then o else none)=some x)(k:c->o=some x->G):G:=by
 by_cases ax:c
 ·exact k ax (by rw[a3 ax]at h;exact h)
 ·rw[bq ax]at h;cases h
theorem oJ{c:Prop}[Decidable c]{be:Sort _}{a b x:be}{G:Prop}(h:(if c then a else b)=x)(t:c->a=x->G)(f:¬c->b=x->G):G:=by
 by_cases ax:c
 ·exact t ax (by rw[a3 ax]at h;exact h)
 ·exact f ax (by rw[bq ax]at h;exact h)
@[elab_as_elim] theorem q9 {be:Sort _} {a b:be} {M:be->Prop} (h:a=b) (m:M b):M a:=h▸m
end ja
local macro_rules
 | `(tactic| rw [$e:term]) => `(tactic| ((first | refine ja.q9 $e ?_ | refine ja.q9 (propext $e) ?_ | rewrite [$e:term]); try with_reducible rfl))
 | `(tactic| rw [← $e:term]) => `(tactic| ((first | refine ja.q9 (Eq.symm $e) ?_ | rewrite [← $e:term]); try with_reducible rfl))
 | `(tactic| rw [$e:term, $rs,*]) => `(tactic| ((first | refine ja.q9 $e ?_ | refine ja.q9 (propext $e) ?_ | rewrite [$e:term]); rw [$rs,*]))
 | `(tactic| rw [← $e:term, $rs,*]) => `(tactic| ((first | refine ja.q9 (Eq.symm $e) ?_ | rewrite [← $e:term]); rw [$rs,*]))
noncomputable section
namespace ja
section
open PySem PySem.W PyProof.Rows
inductive D where
 |none|bool (b:Bool)|int (i:Int)|str (s:Str)|tup (xs:List D)|obj (l:Nat)|adr (a:Nat)
 deriving Inhabited
theorem Yb{a b:Str}(h:a.cps.toList=b.cps.toList):a=b:=by
 cases a;cases b;exact bb Str.mk (Array.toList_inj.mp h)
mutual
noncomputable def code:D->List Int
 |.none=>[0]
 |.bool b=>[1,cond b 1 0]
 |.int i=>[2,i]
 |.str s=>3::(s.cps.toList.map Int.ofNat++[-1])
 |.tup xs=>4::codes xs
 |.obj l=>[5,Int.ofNat l]
 |.adr l=>[6,Int.ofNat l]
noncomputable def codes:List D->List Int
 |[]=>[-1]
 |x::xs=>code x++codes xs
end
noncomputable def Part(l m:List Int):Prop:=∃p a b u v,l=p++a::u/\m=p++b::v/\a≠b
theorem zo(p:List Int){a b:Int}(h:a≠b)(u v:List Int):p++a::u<p++b::v↔a<b:=by
 induction p with
 |nil=>exact List.cons_lt_cons_iff.trans ⟨λq=>q.elim id λq=>absurd q.1 h,.inl⟩
 |cons x p aE=>exact List.cons_lt_cons_iff.trans ⟨λq=>q.elim (λq=>absurd q (Int.lt_irrefl x)) λq=>aE.mp q.2,λq=>.inr ⟨rfl,aE.mpr q⟩⟩
theorem Part.head{a b:Int}(h:a≠b){u v:List Int}:Part (a::u) (b::v):=⟨[],a,b,u,v,rfl,rfl,h⟩
theorem Part.cons(x:Int){l m:List Int}(h:Part l m):Part (x::l) (x::m):=qd h λp a b u v e bO n=>⟨x::p,a,b,u,v,bb _ e,bb _ bO,n⟩
theorem Part.pre(p:List Int){l m:List Int}(h:Part l m):Part (p++l) (p++m):=by
 induction p with
 |nil=>exact h
 |cons x p aE=>exact aE.cons x
theorem Part.app{l m:List Int}(h:Part l m)(s t:List Int):Part (l++s) (m++t)/\(l++s<m++t↔l<m):=by
 refine qd h λp a b u v e bO n=>?_
 rw[e,bO,List.append_assoc,List.append_assoc]
 exact⟨⟨p,a,b,u++s,v++t,rfl,rfl,n⟩,(zo p n _ _).trans (zo p n _ _).symm⟩
theorem Part.Aa{l m:List Int}(h:Part l m):l<m\/m<l:=by
 refine qd h λp a b u v e bO n=>?_
 rw[e,bO,zo p n,zo p n.symm]
 exact Int.lt_or_gt_of_ne n
theorem wQ(y:Nat):(-1:Int)<Int.ofNat y:=Int.lt_of_lt_of_le ag (Int.natCast_nonneg y)
theorem J3{l m:List Nat}:(l≠m->Part (l.map Int.ofNat++[-1]) (m.map Int.ofNat++[-1]))/\(l.map Int.ofNat++[-1]<m.map Int.ofNat++[-1]↔l<m):=by
 induction l generalizing m with
 |nil=>
  cases m with
  |nil=>exact⟨λh=>absurd rfl h,⟨λh=>absurd h (List.lt_irrefl _),λh=>absurd h (List.lt_irrefl _)⟩⟩
  |cons y m=>exact⟨λ_=>.head (Int.ne_of_lt (wQ y)),⟨λ_=>List.nil_lt_cons _ _,λ_=>List.cons_lt_cons_iff.mpr (.inl (wQ y))⟩⟩
 |cons x l aE=>
  cases m with
  |nil=>exact⟨λ_=>.head (Int.ne_of_gt (wQ x)),⟨λh=>(List.cons_lt_cons_iff.mp h).elim (λq=>absurd q (Int.not_lt.mpr (Int.le_of_lt (wQ x)))) (λq=>absurd q.1 (Int.ne_of_gt (wQ x))),λh=>absurd h (List.not_lt_nil _)⟩⟩
  |cons y m=>
   refine⟨λh=>?_,?_⟩
   ·by_cases e:x=y
    ·exact e▸((aE (m:=m)).1 λq=>h (e▸q▸rfl)).cons _
    ·exact .head λq=>e (Int.ofNat.inj q)
   ·refine List.cons_lt_cons_iff.trans (Iff.trans ?_ List.cons_lt_cons_iff.symm)
    exact⟨λq=>q.imp Int.ofNat_lt.mp λq=>⟨Int.ofNat.inj q.1,aE.2.mp q.2⟩,λq=>q.imp Int.ofNat_lt.mpr λq=>⟨bb _ q.1,aE.2.mpr q.2⟩⟩
theorem xP(x:D):∃a r,code x=a::r/\(-1:Int)<a:=by
 cases x<;>exact⟨_,_,rfl,by decide⟩
theorem Of{xs bB:List D}(H:∀x∈xs,∀y,x≠y->Part (code x) (code y))(h:xs≠bB):Part (codes xs) (codes bB):=by
 induction xs generalizing bB with
 |nil=>
  cases bB with
  |nil=>exact absurd rfl h
  |cons y bB=>exact dv (xP y) λa r e q=>by rw[codes,codes,e];exact .head (Int.ne_of_lt q)
 |cons x xs aE=>
  cases bB with
  |nil=>exact dv (xP x) λa r e q=>by rw[codes,codes,e];exact .head (Int.ne_of_gt q)
  |cons y bB=>
   by_cases e:x=y
   ·exact e▸(aE (λx ar=>H x (.tail _ ar)) λq=>h (e▸q▸rfl)).pre _
   ·exact((H x (.head _) y e).app _ _).1
theorem Bd(x:D):∀y,x≠y->Part (code x) (code y):=by
 refine@D.rec (λx=>∀y,x≠y->Part (code x) (code y)) (λxs=>∀x∈xs,∀y,x≠y->Part (code x) (code y)) ?_ ?_ ?_ ?_ ?_ ?_ ?_ ka (λx xs ai ak y bc=>(dS.mp bc).elim (λe=>e▸ai) (ak y)) x
 ·intro y h;cases y<;>first|exact absurd rfl h|exact .head ag
 ·intro b y h
  cases y with
  |bool c=>cases b<;>cases c<;>first|exact absurd rfl h|exact(Part.head ag).cons 1
  |_=>exact .head ag
 ·intro i y h
  cases y with
  |int j=>exact(Part.head λe=>h (bb _ e)).cons 2
  |_=>exact .head ag
 ·intro s y h
  cases y with
  |str t=>exact(J3.1 λe=>h (bb _ (Yb e))).cons 3
  |_=>exact .head ag
 ·intro xs aE y h
  cases y with
  |tup bB=>exact(Of aE λe=>h (bb _ e)).cons 4
  |_=>exact .head ag
 ·intro i y h
  cases y with
  |obj j=>exact(Part.head λe=>h (bb _ (Int.ofNat.inj e))).cons 5
  |_=>exact .head ag
 ·intro i y h
  cases y with
  |adr j=>exact(Part.head λe=>h (bb _ (Int.ofNat.inj e))).cons 6
  |_=>exact .head ag
theorem code_inj{a b:D}(h:code a=code b):a=b:=Classical.byContradiction λe=>(Bd a b e).Aa.elim (λq=>List.lt_irrefl _ (h▸q)) λq=>List.lt_irrefl _ (h▸q)
noncomputable instance:DecidableEq D:=λa b=>decidable_of_iff (code a=code b) ⟨code_inj,bb code⟩
noncomputable abbrev a1:=List Addr
mutual
noncomputable def Rep(h:Heap)(I:a1):D->Value->Prop
 |.none,v=>v=.none
 |.bool b,v=>v=.bool b
 |.int i,v=>∃t,v=.int i t
 |.str s,v=>∃t,v=.str s t
 |.tup xs,v=>∃a vs n,v=.ref a/\h.get? a=some (seqObj "tuple" vs.toArray n)/\bt h I xs vs
 |.obj l,v=>∃a,I[l]?=some a/\v=.ref a
 |.adr a,v=>v=.ref a
noncomputable def bt(h:Heap)(I:a1):List D->List Value->Prop
 |[],vs=>vs=[]
 |x::xs,vs=>∃v r,vs=v::r/\Rep h I x v/\bt h I xs r
end
inductive bG where
 |list (xs:List D)
 |ee (aN:List (Str×D))
 |gR (aN:List (Int×D))
 |du (aN:List (List D×D))
 |inst (bI:Addr) (l:Nat)
 |ns (bM:List (Str×D))
 deriving Inhabited
noncomputable abbrev aa:=List bG
structure Ext(bad:Addr->Prop)(I:a1)(h:Heap)(a4:a1)(af:Heap):Prop where
 pre:∃new,a4=I++new
 fresh:∀a∈a4,a∈I\/h.get? a=none
 kept:∀b o,h.get? b=some o->¬bad b->af.get? b=some o
 alive:∀b o,h.get? b=some o->∃d8,af.get? b=some d8
structure e8(bad:Addr->Prop)(I:a1)(h:Heap)(a4:a1)(af:Heap):Prop where
 pre:∃new,a4=I++new
 fresh:∀a∈a4,a∈I\/h.get? a=none
 kept:∀b o,h.get? b=some o->¬bad b->af.get? b=some o
theorem Ext.to3{bad:Addr->Prop}{I a4:a1}{h af:Heap}(x:Ext bad I h a4 af):e8 bad I h a4 af:=⟨x.pre,x.fresh,x.kept⟩
theorem e8.back{bad:Addr->Prop}{I a4:a1}{h af:Heap}(x:e8 bad I h a4 af){b:Addr}{o:Obj}(e:h.get? b=some o)(ab:b∈a4):b∈I:=by
 rcases x.fresh b ab with ai|ai
 ·exact ai
 ·rw[e]at ai;exact bi ai.symm
theorem Ext.refl{bad:Addr->Prop}{I:a1}{h:Heap}:Ext bad I h I h:=⟨⟨[],by simp⟩,λ_ aC=>.inl aC,λ_ _ e _=>e,λ_ o e=>⟨o,e⟩⟩
theorem Ext.trans{bad ph:Addr->Prop}{I a4 kI:a1}{h af dV:Heap}(x:Ext bad I h a4 af)(y:Ext ph a4 af kI dV)(ab:∀b o,h.get? b=some o->ph b->bad b):Ext bad I h kI dV:=by
 refine⟨?_,λa aC=>?_,λb o e aH=>y.kept b o (x.kept b o e aH) λq=>aH (ab b o e q),λb o e=>?_⟩
 ·refine a6 x.pre λh0 a2=>?_;subst a2
  refine a6 y.pre λiY a9=>?_;subst a9
  exact⟨h0++iY,by simp⟩
 ·rcases y.fresh a aC with ai|ai
  ·exact x.fresh a ai
  ·cases q:h.get? a with
   |none=>exact .inr rfl
   |some o=>
    refine a6 (x.alive a o q) λd8 en=>?_
    rw[en]at ai;exact bi ai.symm
 ·refine a6 (x.alive b o e) λd8 en=>?_
  exact y.alive b d8 en
noncomputable abbrev fk(I:a1)(h:Heap)(a4:a1)(af:Heap):Prop:=Ext (· ∈I) I h a4 af
theorem Ext.back{bad:Addr->Prop}{I a4:a1}{h af:Heap}(x:Ext bad I h a4 af){b:Addr}{o:Obj}(e:h.get? b=some o)(ab:b∈a4):b∈I:=by
 rcases x.fresh b ab with ai|ai
 ·exact ai
 ·rw[e]at ai;exact bi ai.symm
theorem Ext.dc{I a4 kI:a1}{h af dV:Heap}(x:fk I h a4 af)(y:fk a4 af kI dV):fk I h kI dV:=x.trans y λ_ _ e ab=>x.back e ab
theorem Ext.weaken{P Q:Addr->Prop}{I a4:a1}{h af:Heap}(x:Ext P I h a4 af)(B3:∀a,P a->Q a):Ext Q I h a4 af:=
 ⟨x.pre,x.fresh,λb o e aL=>x.kept b o e λaF=>aL (B3 b aF),x.alive⟩
noncomputable def Clear(bad:Addr->Prop)(I:a1)(h:Heap):Prop:=∀a,bad a->∀xs n,h.get? a≠some (seqObj "tuple" xs n)
theorem Rep.He{bad:Addr->Prop}{I a4:a1}{h af:Heap}(ax:Clear bad I h)(x:e8 bad I h a4 af):
  (∀(d:D) (v:Value),Rep h I d v->Rep af a4 d v)/\(∀(J:List D) (vs:List Value),bt h I J vs->bt af a4 J vs):=by
 have H:∀d:D,∀v:Value,Rep h I d v->Rep af a4 d v:=λd=>by
  refine D.rec (motive_1:=λd=>∀v:Value,Rep h I d v->Rep af a4 d v) (motive_2:=λJ=>∀vs:List Value,bt h I J vs->bt af a4 J vs) (λ_ r=>r) (λ_ _ r=>r) (λ_ _ r=>r) (λ_ _ r=>r) (λxs aE v r=>?_) (λl v r=>?_) (λ_ _ r=>r) (λ_ r=>r) (λd J fS fK vs r=>?_) d
  ·exact d4 r λa vs n aU av au=>⟨a,vs,n,aU,x.kept _ _ av λaC=>ax a aC _ _ av,aE _ au⟩
  ·exact aG r λa aC aU=>x.pre.elim λnew e=>⟨a,(bb (·[l]?) e).trans ((mw (e4.mp aC).1).trans aC),aU⟩
  ·exact b2 r λv r aU hd au=>⟨v,r,aU,fS v hd,fK r au⟩
 exact⟨H,λJ=>List.rec (λ_ r=>r) (λd J aE vs r=>b2 r λv r aU hd au=>⟨v,r,aU,H d v hd,aE r au⟩) J⟩
theorem Rep.ext3{bad:Addr->Prop}{I a4:a1}{h af:Heap}(ax:Clear bad I h)(x:e8 bad I h a4 af)(d:D)(v:Value)(r:Rep h I d v):Rep af a4 d v:=(Rep.He ax x).1 d v r
theorem bt.ext3{bad:Addr->Prop}{I a4:a1}{h af:Heap}(ax:Clear bad I h)(x:e8 bad I h a4 af)(J:List D)(vs:List Value)(r:bt h I J vs):bt af a4 J vs:=(Rep.He ax x).2 J vs r
theorem Rep.ext{bad:Addr->Prop}{I a4:a1}{h af:Heap}(ax:Clear bad I h)(x:Ext bad I h a4 af)(d:D)(v:Value)(r:Rep h I d v):Rep af a4 d v:=Rep.ext3 ax x.to3 d v r
theorem bt.ext{bad:Addr->Prop}{I a4:a1}{h af:Heap}(ax:Clear bad I h)(x:Ext bad I h a4 af)(d:List D)(v:List Value)(r:bt h I d v):bt af a4 d v:=bt.ext3 ax x.to3 d v r
theorem bt.length{h:Heap}{I:a1}{J:List D}{vs:List Value}(q:bt h I J vs):vs.length=J.length:=by
 induction J generalizing vs with
 |nil=>exact bb List.length (show vs=[]from q)
 |cons _ _ aE=>exact b2 q λv r aU _ au=>(bb List.length aU).trans (bb (· +1) (aE au))
theorem bt.get{h:Heap}{I:a1}{J:List D}{vs:List Value}{i:Nat}{d:D}(q:bt h I J vs)(e:J[i]?=some d):∃v,vs[i]?=some v/\Rep h I d v:=by
 induction J generalizing vs i with
 |nil=>exact bi e
 |cons x J aE=>
  refine b2 q λv r aU hd au=>?_
  rw[aU]
  cases i with
  |zero=>exact⟨v,rfl,Option.some.inj e▸hd⟩
  |succ i=>exact aE (i:=i) au e
theorem bt.append{h:Heap}{I:a1}{J al:List D}{vs us:List Value}(r:bt h I J vs)(q:bt h I al us):bt h I (J++al) (vs++us):=by
 induction J generalizing vs with
 |nil=>rw[show vs=[]from r];exact q
 |cons x J aE=>exact b2 r λv r aU hd au=>⟨v,r++us,bb (· ++us) aU,hd,aE au⟩
theorem bt.one{h:Heap}{I:a1}{d:D}{v:Value}(x:Rep h I d v):bt h I [d] [v]:=⟨v,[],rfl,x,rfl⟩
theorem bt.set{h:Heap}{I:a1}{J:List D}{vs:List Value}{i:Nat}{d:D}{v:Value}(r:bt h I J vs)(q:Rep h I d v):bt h I (J.set i d) (vs.set i v):=by
 induction J generalizing vs i with
 |nil=>rw[show vs=[]from r];exact rfl
 |cons x J aE=>
  refine b2 r λu r aU hd au=>?_
  rw[aU]
  cases i with
  |zero=>exact⟨v,r,rfl,q,au⟩
  |succ i=>exact⟨u,r.set i v,rfl,hd,aE au⟩
theorem bt.cut{h:Heap}{I:a1}{J:List D}{vs:List Value}(i:Nat)(r:bt h I J vs):bt h I (J.drop i) (vs.drop i)/\bt h I (J.take i) (vs.take i):=by
 induction J generalizing vs i with
 |nil=>rw[show vs=[]from r,List.drop_nil,List.take_nil,List.drop_nil,List.take_nil];exact⟨rfl,rfl⟩
 |cons x J aE=>
  cases i with
  |zero=>exact⟨r,rfl⟩
  |succ i=>
   refine b2 r λu r aU hd au=>?_
   rw[aU]
   exact⟨(aE i au).1,u,r.take i,rfl,hd,(aE i au).2⟩
theorem bt.drop{h:Heap}{I:a1}{J:List D}{vs:List Value}(i:Nat)(r:bt h I J vs):bt h I (J.drop i) (vs.drop i):=(r.cut i).1
theorem bt.take{h:Heap}{I:a1}{J:List D}{vs:List Value}(i:Nat)(r:bt h I J vs):bt h I (J.take i) (vs.take i):=(r.cut i).2
noncomputable def h9(h:Heap)(I:a1):List (Str×D)->List DictEntry->Prop
 |[],al=>al=[]
 |(x,d)::bM,al=>∃e r,al=e::r/\(∃t,e.key=.str x t)/\Rep h I d e.val/\h9 h I bM r
noncomputable def ej{K:Type}(h:Heap)(I:a1):List (K×D)->List (K×Value)->Prop
 |[],al=>al=[]
 |(x,d)::bM,al=>∃v r,al=(x,v)::r/\Rep h I d v/\ej h I bM r
noncomputable def e9{K:Type}(h:Heap)(I:a1):List (K×D)->List (K×Addr×Value)->Prop
 |[],al=>al=[]
 |(x,d)::bM,al=>∃a v r,al=(x,a,v)::r/\Rep h I d v/\e9 h I bM r
theorem h9.ext3{bad:Addr->Prop}{I a4:a1}{h af:Heap}(ax:Clear bad I h)(x:e8 bad I h a4 af){bM:List (Str×D)}{al:List DictEntry}(q:h9 h I bM al):h9 af a4 bM al:=by
 induction bM generalizing al with
 |nil=>exact q
 |cons _ _ aE=>exact fh q λe r a0 aq aU au=>⟨e,r,a0,aq,Rep.ext3 ax x _ _ aU,aE au⟩
theorem ej.ext3{K:Type}{bad:Addr->Prop}{I a4:a1}{h af:Heap}(ax:Clear bad I h)(x:e8 bad I h a4 af){bM:List (K×D)}{al:List (K×Value)}(q:ej h I bM al):ej af a4 bM al:=by
 induction bM generalizing al with
 |nil=>exact q
 |cons _ _ aE=>exact b2 q λv r a0 aU au=>⟨v,r,a0,Rep.ext3 ax x _ _ aU,aE au⟩
theorem e9.ext3{K:Type}{bad:Addr->Prop}{I a4:a1}{h af:Heap}(ax:Clear bad I h)(x:e8 bad I h a4 af){bM:List (K×D)}{al:List (K×Addr×Value)}(q:e9 h I bM al):e9 af a4 bM al:=by
 induction bM generalizing al with
 |nil=>exact q
 |cons _ _ aE=>exact d4 q λa v r a0 aU au=>⟨a,v,r,a0,Rep.ext3 ax x _ _ aU,aE au⟩
theorem h9.ext{bad:Addr->Prop}{I a4:a1}{h af:Heap}(ax:Clear bad I h)(x:Ext bad I h a4 af){bM:List (Str×D)}{al:List DictEntry}(r:h9 h I bM al):h9 af a4 bM al:=r.ext3 ax x.to3
theorem ej.ext{K:Type}{bad:Addr->Prop}{I a4:a1}{h af:Heap}(ax:Clear bad I h)(x:Ext bad I h a4 af){bM:List (K×D)}{al:List (K×Value)}(r:ej h I bM al):ej af a4 bM al:=r.ext3 ax x.to3
theorem e9.ext{K:Type}{bad:Addr->Prop}{I a4:a1}{h af:Heap}(ax:Clear bad I h)(x:Ext bad I h a4 af){bM:List (K×D)}{al:List (K×Addr×Value)}(r:e9 h I bM al):e9 af a4 bM al:=r.ext3 ax x.to3
mutual
noncomputable def D.depth:D->Nat
 |.tup xs=>D.ew xs+1
 |_=>0
noncomputable def D.ew:List D->Nat
 |[]=>0
 |x::xs=>max (D.depth x) (D.ew xs)
end
mutual
noncomputable def D.cO:D->Bool
 |.none=>true
 |.int _=>true
 |.str s=>PyData.strOk s
 |.tup xs=>D.da xs
 |_=>false
noncomputable def D.da:List D->Bool
 |[]=>true
 |x::xs=>D.cO x&&D.da xs
end
mutual
noncomputable def dz(w:World):D->Int
 |.none=>reduceHash 0xFCA86420
 |.int i=>hashInt i
 |.str s=>hashStr w s
 |.tup xs=>reduceHash (Builtin.Tuple.tupleHashOf (oA w xs))
 |_=>0
noncomputable def oA(w:World):List D->List Int
 |[]=>[]
 |x::xs=>dz w x::oA w xs
end
mutual
noncomputable def vc:D->Nat
 |.tup xs=>tf xs+1
 |_=>1
noncomputable def tf:List D->Nat
 |[]=>0
 |x::xs=>vc x+tf xs
end
theorem D.ne{d e:D}(h:Nat.beq d.ctorIdx e.ctorIdx=false):¬d=e:=λq=>Nat.ne_of_beq_eq_false h (bb D.ctorIdx q)
theorem sd{i}:(D.int i).cO=true:=rfl
theorem se{s}:(D.str s).cO=PyData.strOk s:=rfl
theorem sf{xs}:(D.tup xs).cO=D.da xs:=rfl
theorem lB:D.da []=true:=rfl
theorem lA{x xs}:D.da (x::xs)=(x.cO&&D.da xs):=rfl
theorem rI{i}:(D.int i).depth=0:=rfl
theorem rJ{s}:(D.str s).depth=0:=rfl
theorem rK{xs}:(D.tup xs).depth=D.ew xs+1:=rfl
theorem qw:D.ew []=0:=rfl
theorem qv{x xs}:D.ew (x::xs)=max x.depth (D.ew xs):=rfl
theorem QI(w:World)(a b:List D):oA w (a++b)=oA w a++oA w b:=by
 induction a with
 |nil=>rfl
 |cons x a aE=>exact bb (dz w x:: ·) aE
theorem OF(a b:List D):tf (a++b)=tf a+tf b:=by
 induction a with
 |nil=>exact(Nat.zero_add _).symm
 |cons x a aE=>exact(bb (vc x+ ·) aE).trans (Nat.add_assoc ..).symm
theorem q0{x:D}{xs:List D}(h:x∈xs):x.depth<=D.ew xs:=by
 induction h with
 |head=>exact Nat.le_max_left _ _
 |tail _ _ aE=>exact aO aE (Nat.le_max_right _ _)
theorem oL{x:D}{xs:List D}(h:D.da (x::xs)=true):x.cO=true/\D.da xs=true:=ha.mp h
theorem nS{x:D}{xs:List D}(h:x∈xs)(aq:D.da xs=true):x.cO=true:=by
 induction h with
 |head=>exact(oL aq).1
 |tail _ _ aE=>exact aE (oL aq).2
theorem D.wD{P:D->Prop}{d:D}(h:d.cO=true)(n:P .none)(i:∀i,P (.int i))(s:∀s,PyData.strOk s=true->P (.str s))(t:∀xs,D.da xs=true->P (.tup xs)):P d:=by
 cases d with
 |none=>exact n
 |int x=>exact i x
 |str x=>exact s x h
 |tup x=>exact t x h
 |_=>exact hM h
theorem D.kind{P:D->Prop}(n:P .none)(i:∀i,P (.int i))(s:∀s,PyData.strOk s=true->P (.str s))(t:∀xs,D.da xs=true->(∀x∈xs,P x)->P (.tup xs)):∀d:D,d.cO=true->P d:=by
 refine@D.rec (λd=>d.cO=true->P d) (λJ=>D.da J=true->∀x∈J,P x) (λ_=>n) nofun (λx _=>i x) s (λxs aE h=>t xs h (aE h)) nofun nofun (λ_=>ka) (λx xs ai ak h y bc=>?_)
 rcases dS.mp bc with rfl|bc
 ·exact ai (oL h).1
 ·exact ak (oL h).2 y bc
noncomputable def oO:Value->Option D
 |.none=>some .none
 |.int i _=>some (.int i)
 |.str s _=>some (.str s)
 |_=>none
theorem KM{h:Heap}{e:D}{v:Value}(aq:e.cO=true)(r:Rep h [] e v):oO v=some e\/∃xs a,e=.tup xs/\v=.ref a:=by
 refine D.wD (P:=λe=>Rep h [] e v->oO v=some e\/∃xs a,e=.tup xs/\v=.ref a) aq (λr=>.inl (bb oO r)) (λi r=>r.elim λ_ q=>.inl (bb oO q)) (λs _ r=>r.elim λ_ q=>.inl (bb oO q)) (λxs _ r=>?_) r
 exact d4 r λa vs n aU _ _=>.inr ⟨xs,a,rfl,aU⟩
theorem Df{h:Heap}{d e:D}{v:Value}(hd:oO v=some d)(aq:e.cO=true)(r:Rep h [] e v):d=e:=by
 rcases KM aq r with q|⟨_,a,_,aU⟩
 ·exact Option.some.inj (hd.symm.trans q)
 ·cases (bb oO aU).symm.trans hd
theorem bt.SP{h:Heap}{J:List D}(H:∀d∈J,∀e v,e.cO=true->Rep h [] d v->Rep h [] e v->d=e){al:List D}{vs:List Value}(aq:D.da al=true)(r:bt h [] J vs)(q:bt h [] al vs):J=al:=by
 induction J generalizing al vs with
 |nil=>
  cases al with
  |nil=>rfl
  |cons e al=>exact b2 q λv eG aU _ _=>absurd ((show vs=[]from r).symm.trans aU).symm (List.cons_ne_nil _ _)
 |cons d J aE=>
  refine b2 r λv r aU hd au=>?_
  cases al with
  |nil=>exact absurd ((show vs=[]from q).symm.trans aU).symm (List.cons_ne_nil _ _)
  |cons e al=>
   refine b2 q λi5 eG j3 cW dA=>?_
   have aS:=List.cons.inj (aU.symm.trans j3)
   rw[H d nc e v (oL aq).1 hd (aS.1▸cW),aE (λd hd=>H d (nf _ hd)) (oL aq).2 au (aS.2▸dA)]
theorem Rep.inj{h:Heap}(d e:D)(v:Value)(hd:d.cO=true)(a0:e.cO=true)(r:Rep h [] d v)(q:Rep h [] e v):d=e:=by
 refine D.kind (P:=λd=>∀e v,e.cO=true->Rep h [] d v->Rep h [] e v->d=e) (λe v a0 r q=>Df (bb oO r) a0 q) (λi e v a0 r q=>r.elim λ_ r=>Df (bb oO r) a0 q) (λi _ e v a0 r q=>r.elim λ_ r=>Df (bb oO r) a0 q) (λxs _ aE e v a0 r q=>?_) d hd e v a0 r q
 refine d4 r λa vs n aU av au=>?_
 subst aU
 rcases KM a0 q with eL|⟨bB,b,rfl,ab⟩
 ·exact bi eL
 ·refine d4 q λhG na sl cJ g4 dA=>?_
  cases cJ
  have aS:vs.toArray=na.toArray:=by injection Option.some.inj (av.symm.trans g4)with _ _ aV _;injection aV
  rw[←List.toArray_inj aS]at dA
  exact bb D.tup (bt.SP aE a0 au dA)
section
variable{prog:Program}{w:World}
theorem ul{s:Shared}{a:Addr}{vs:List Value}{n:Nat}(av:s.heap.get? a=some (seqObj "tuple" vs.toArray n)):s.TypeIs (.ref a) "tuple":=⟨_,av,rfl⟩
noncomputable def Ax(prog:Program)(w:World)(d:D):Prop:=∀(v:Value) (A:Around) (E:Value->Shared->Prop) (s:Shared) (Q:Int->Shared->Prop),A.units+d.depth<cLine->Rep s.heap [] d v->
  Q (dz w d) {s with toks:=s.toks+vc d}->wpAny (model prog w) A (pyHash v) Q E s
theorem QJ{xs:List D}(aE:∀x∈xs,Ax prog w x):Ax prog w (.tup xs):=by
 intro v A E s Q cJ r h
 refine d4 r λa vs n aU av au=>?_
 subst aU
 have d3:s.TypeIs (.ref a) "tuple":=ul av
 have wn:A.units+(D.ew xs+1)<cLine:=cJ
 have CJ:A.units<cLine:=e6 (hD ..) wn
 unfold pyHash pyHashByItsType
 refine aI (wpAny_cRoomFor_or (.inr CJ) (aI (wpAny_specialOf d3 F.slot_tuple_hash.lookup ?_)))
 show wpAny _ _ (if(some (Value.builtin "tuple.__hash__")==some Value.none)=true then _ else _) Q E s
 rw[bq (by rw[beq_builtin_none];exact k3)]
 refine aI (wpAny_specialOf d3 F.slot_tuple_hash.lookup ?_)
 show wpAny _ _ (callSpecialIfBoundUnlessNone? (.ref a) "__hash__" _>>=_) Q E s
 refine aI (wpAny_callSpecialIfBoundUnlessNone?_slot d3 F.slot_tuple_hash (wpAny_call_entry F.slot_tuple_hash d3 F.entry_tuple_hash ?_ (F.args_tuple_hash_1 _)))
 show wpAny _ _ (Builtin.Tuple.tupleItemsOf (.ref a)>>=_) _ _ s
 refine aI (wpAny_tupleItemsOf av rfl (aI ?_))
 rw[←Array.forIn_toList]
 refine wpAny_forIn_list _
  (λcX (b:Array Int) bT=>∃done left,xs=done++left/\bt s.heap [] left cX/\b.toList=oA w done/\bT={s with toks:=s.toks+tf done})
  _ ?_ ?_ _ _ ⟨[],xs,rfl,au,rfl,rfl⟩
 ·intro x cX b bT hi
  refine fh hi λdone left mS aw ab aZ=>?_
  subst aZ
  cases left with
  |nil=>cases (show x::cX=[]from aw)
  |cons y left=>
   refine b2 aw λi5 eG j3 cW dA=>?_
   cases j3
   have gQ:y∈xs:=mS▸iJ _ nc
   refine aI (aE y gQ x A.in1 _ _ _ (e6 (aO (cB (lN A.units 1 _)) (gH (fi (q0 gQ)) A.units)) wn) cW (bj ?_))
   exact⟨done++[y],left,by rw[mS,List.append_assoc];rfl,dA,by rw[QI,←ab];exact Array.toList_push,by rw[OF,←Nat.add_assoc];rfl⟩
 ·intro b bT hi
  refine fh hi λdone left mS aw ab aZ=>?_
  subst aZ
  cases left with
  |cons y left=>exact b2 aw λ_ _ h _ _=>absurd h.symm (List.cons_ne_nil _ _)
  |nil=>
   rw[List.append_nil]at mS
   subst mS
   show wpAny _ _ (retInt (Builtin.Tuple.tupleHashOf b.toList)) _ _ _
   rw[ab]
   refine wpAny_ret_mkInt ?_
   show wpAny _ _ (if(decide (-(2:Int)^63<=Builtin.Tuple.tupleHashOf (oA w xs))&&decide (Builtin.Tuple.tupleHashOf (oA w xs)<2^63))=true then _ else _) Q E _
   replace h:Q (ite _ _ _) _:=h
   by_cases au:(decide (-(2:Int)^63<=Builtin.Tuple.tupleHashOf (oA w xs))&&decide (Builtin.Tuple.tupleHashOf (oA w xs)<2^63))=true
   ·rw[a3 au]at h⊢
    exact bj h
   ·rw[bq au]at h⊢
    exact aI (wpAny_rule (bj h))
theorem HT(k:Nat)(d:D)(v:Value){A:Around}{E:Value->Shared->Prop}{s:Shared}{Q:Int->Shared->Prop}(hd:d.depth<=k)(aq:d.cO=true)(cJ:A.units+k<cLine)(r:Rep s.heap [] d v)
  (h:Q (dz w d) {s with toks:=s.toks+vc d}):wpAny (model prog w) A (pyHash v) Q E s:=by
 refine D.kind (P:=Ax prog w) ?_ ?_ ?_ (λ_ _=>QJ) d aq v A E s Q (e6 (gH hd _) cJ) r h
 ·intro v A E s Q cJ aU h
  rw[show v=.none from aU]
  exact pyHash_slot (T:="NoneType") rfl PySem.F.slot_NoneType_hash PySem.F.entry_NoneType_hash (PySem.F.args_NoneType_hash_1 _) (beq_builtin_none _) (.inr cJ) (aI (bj (aI (wpAny_mkInt (bj ⟨_,_,rfl,h⟩)))))
 ·intro i v A E s Q cJ aU h
  exact aU.elim λt aU=>aU▸wpAny_pyHash_int h
 ·intro i _ v A E s Q cJ aU h
  exact aU.elim λt aU=>aU▸wpAny_pyHash_str h
end
mutual
noncomputable def D.toPy:D->PyData
 |.none=>.none
 |.bool b=>.bool b
 |.int i=>.int i
 |.str s=>.str s
 |.tup xs=>.tuple (D.jF xs)
 |.obj _=>.none
 |.adr _=>.none
noncomputable def D.jF:List D->List PyData
 |[]=>[]
 |x::xs=>D.toPy x::D.jF xs
end
theorem oP(d:D)(h:d.cO=true):d.cO=true:=h
theorem zI(d:List D)(h:D.da d=true):D.da d=true:=h
theorem Ll:∀d:D,d.cO=true->d.toPy.canLay0=true/\d.toPy.depth=d.depth:=by
 refine D.kind ⟨rfl,rfl⟩ (λ_=>⟨rfl,rfl⟩) (λ_ h=>⟨h,rfl⟩) (λxs aq aE=>?_)
 suffices q:PyData.canLayAll0 (D.jF xs)=true/\PyData.depthAll (D.jF xs)=D.ew xs from⟨q.1,bb (· +1) q.2⟩
 clear aq
 induction xs with
 |nil=>exact⟨rfl,rfl⟩
 |cons x xs ak=>
  have q:=ak λx ar=>aE x (nf _ ar)
  have a2:=aE x nc
  exact⟨ha.mpr ⟨a2.1,q.1⟩,(bb (max · _) a2.2).trans (bb (max _) q.2)⟩
theorem u2(d:D)(h:d.cO=true):d.toPy.canLay0=true:=(Ll d h).1
theorem Bm(d:D)(h:d.cO=true):d.toPy.depth=d.depth:=(Ll d h).2
theorem Ga(J:List D)(h:D.da J=true):PyData.canLayAll0 (D.jF J)=true:=u2 (.tup J) h
theorem Ou(J:List D)(h:D.da J=true):PyData.depthAll (D.jF J)=D.ew J:=Nat.succ.inj (Bm (.tup J) h)
theorem KG{h:Heap}{I:a1}{J:List D}{vs:List Value}(H:∀d∈J,∀v,Rep h I d v->∃as,Reads h v d.toPy as)(r:bt h I J vs):∃as,ReadsAll h vs (D.jF J) as:=by
 induction J generalizing vs with
 |nil=>rw[show vs=[]from r];exact⟨_,.nil⟩
 |cons d J aE=>
  refine b2 r λv r aU hd au=>?_
  rw[aU]
  exact(H d nc v hd).elim λas dR=>(aE (λd hd=>H d (nf _ hd)) au).elim λbs ep=>⟨_,.cons dR ep⟩
theorem w6{h:Heap}{I:a1}(d:D)(v:Value)(aq:d.cO=true)(r:Rep h I d v):∃as,Reads h v d.toPy as:=by
 refine D.kind (P:=λd=>∀v,Rep h I d v->∃as,Reads h v d.toPy as) (λv r=>?_) (λi v r=>r.elim λt r=>?_) (λi _ v r=>r.elim λt r=>?_) (λxs _ aE v r=>d4 r λa vs n aU av au=>(KG aE au).elim λas dR=>?_) d aq v r
 ·rw[show v=.none from r];exact⟨_,.none⟩
 ·rw[r];exact⟨_,.int i t⟩
 ·rw[r];exact⟨_,.str i t⟩
 ·rw[aU];exact⟨_,.tuple av rfl rfl dR⟩
theorem Wy{h:Heap}{I:a1}(J:List D)(vs:List Value)(aq:D.da J=true)(r:bt h I J vs):∃as,ReadsAll h vs (D.jF J) as:=KG (λd hd v r=>w6 d v (nS hd aq) r) r
theorem mF{p q:Prop}[Decidable p][Decidable q](h:p↔q):decide p=decide q:=decide_eq_decide.mpr h
theorem hZ{p:Prop}[Decidable p](h:¬p):false=decide p:=(fu h).symm
theorem G7{J al:List D}(H:∀d∈J,∀e,e.cO=true->PyData.eqv d.toPy e.toPy=decide (d=e))(aq:D.da al=true):PyData.eqvAll (D.jF J) (D.jF al)=decide (J=al):=by
 induction J generalizing al with
 |nil=>
  cases al with
  |nil=>exact(dT rfl).symm
  |cons e al=>exact hZ (List.cons_ne_nil _ _).symm
 |cons d J aE=>
  cases al with
  |nil=>exact hZ (List.cons_ne_nil _ _)
  |cons e al=>
   refine(?_:(PyData.eqv d.toPy e.toPy&&PyData.eqvAll (D.jF J) (D.jF al))=_)
   rw[H d nc e (oL aq).1,aE (λd hd=>H d (nf _ hd)) (oL aq).2,←Bool.decide_and]
   exact mF ⟨λh=>h.1▸h.2▸rfl,List.cons.inj⟩
theorem BA(d e:D)(hd:d.cO=true)(a0:e.cO=true):PyData.eqv d.toPy e.toPy=decide (d=e):=by
 refine D.kind (P:=λd=>∀e,e.cO=true->PyData.eqv d.toPy e.toPy=decide (d=e)) (λe a0=>?_) (λi e a0=>?_) (λi _ e a0=>?_) (λxs ar aE e a0=>?_) d hd e a0
 ·exact D.wD (P:=λe=>PyData.eqv .none e.toPy=decide (D.none=e)) a0 (dT rfl).symm (λ_=>hZ (D.ne rfl)) (λ_ _=>hZ (D.ne rfl)) (λ_ _=>hZ (D.ne rfl))
 ·exact D.wD (P:=λe=>PyData.eqv (.int i) e.toPy=decide (D.int i=e)) a0 (hZ (D.ne rfl)) (λ_=>mF ⟨bb D.int,D.int.inj⟩) (λ_ _=>hZ (D.ne rfl)) (λ_ _=>hZ (D.ne rfl))
 ·exact D.wD (P:=λe=>PyData.eqv (.str i) e.toPy=decide (D.str i=e)) a0 (hZ (D.ne rfl)) (λ_=>hZ (D.ne rfl)) (λ_ _=>mF ⟨bb D.str,D.str.inj⟩) (λ_ _=>hZ (D.ne rfl))
 ·exact D.wD (P:=λe=>PyData.eqv (.tuple (D.jF xs)) e.toPy=decide (D.tup xs=e)) a0 (hZ (D.ne rfl)) (λ_=>hZ (D.ne rfl)) (λ_ _=>hZ (D.ne rfl)) (λbB bc=>(G7 aE bc).trans (mF ⟨bb D.tup,D.tup.inj⟩))
theorem OX(J al:List D)(hd:D.da J=true)(a0:D.da al=true):PyData.eqvAll (D.jF J) (D.jF al)=decide (J=al):=G7 (λd h e a0=>BA d e (nS h hd) a0) a0
theorem vh{A:Around}{s:Shared}{I a4:a1}{d e:D}{v u:Value}(hd:d.cO=true)(a0:e.cO=true)(cJ:A.units+d.depth<cLine)(x:Rep s.heap I d v)(y:Rep s.heap a4 e u):
  SeqAt.EqAt A s v u (decide (d=e)):=by
 refine a6 (w6 d v (oP d hd) x) λas dR=>?_
 refine a6 (w6 e u (oP e a0) y) λbs ep=>?_
 rw[←BA d e hd a0]
 refine SeqAt.eqAt_reads _ _ A s v u as bs dR ep (u2 _ (oP d hd)) (u2 _ (oP e a0)) ?_
 rw[Bm d (oP d hd)]
 have:=Nat.min_le_left d.depth e.toPy.depth
 lia
noncomputable def AB(M:Model)(d:D):Prop:=∀(k:Nat) (v:Value) (A:Around) (E:Value->Shared->Prop) (s:Shared) (Q:Bool->Shared->Prop),d.depth<=k->Rep s.heap [] d v->Q true s->wpAny M A (eqIsQuiet k v) Q E s
theorem Wm{M:Model}{xs:List D}(aE:∀x∈xs,AB M x):AB M (.tup xs):=by
 intro k v A E s Q hd r h
 cases k with
 |zero=>cases hd
 |succ k=>
  refine d4 r λa vs n aU av au=>?_
  subst aU
  have d3:s.TypeIs (.ref a) "tuple":=ul av
  unfold eqIsQuiet
  refine aI (wpAny_specialOf d3 F.slot_tuple_eq.lookup ?_)
  show wpAny _ _ (isInstance (.ref a) (.type "tuple")>>=_) _ _ s
  refine aI (wpAny_isInstance d3 isSubtype_tuple_tuple ?_)
  refine aI (wpAny_seqItems av rfl (aI ?_))
  show wpAny _ _ (forIn vs.toArray _ _) _ _ s
  rw[←Array.forIn_toList]
  refine wpAny_forIn_list _ (λcX r bT=>r.1=none/\bT=s/\∃left,bt s.heap [] left cX/\∀y∈left,y∈xs) _ ?_ ?_ _ _ ⟨rfl,rfl,xs,au,λ_ bc=>bc⟩
  ·intro v cX r bT hi
   refine fV hi λ_ aZ hi=>aG hi λleft aw lz=>?_
   subst aZ
   cases left with
   |nil=>cases (show v::cX=[]from aw)
   |cons y left=>
    refine b2 aw λi5 eG j3 cW dA=>?_
    cases j3
    have aR:=lz y nc
    exact aI (aE y aR k v _ _ _ _ (aO (q0 aR) (Nat.le_of_succ_le_succ hd)) cW (bj ⟨rfl,rfl,left,dA,λz hz=>lz z (nf _ hz)⟩))
  ·intro p bT hi
   refine fV hi λma aZ _=>?_
   subst aZ
   obtain ⟨ir,nW⟩:=p
   exact(show ir=none from ma)▸bj h
theorem Ec{M:Model}(k:Nat)(d:D)(v:Value){A:Around}{E:Value->Shared->Prop}{s:Shared}{Q:Bool->Shared->Prop}(hd:d.depth<=k)(aq:d.cO=true)(r:Rep s.heap [] d v)(h:Q true s):wpAny M A (eqIsQuiet k v) Q E s:=by
 refine D.kind (P:=AB M) (λk v A E s Q _ aU h=>?_) (λi k v A E s Q _ aU h=>aU.elim λt aU=>?_) (λi _ k v A E s Q _ aU h=>aU.elim λt aU=>?_) (λ_ _=>Wm) d aq k v A E s Q hd r h
 ·rw[show v=.none from aU,eqIsQuiet_byValue _ rfl];exact bj h
 ·rw[aU,eqIsQuiet_byValue _ rfl];exact bj h
 ·rw[aU,eqIsQuiet_byValue _ rfl];exact bj h
noncomputable def xy(h:Heap)(ks:List D)(a:Addr):Prop:=(D.tup ks).depth<=8/\D.da ks=true/\Rep h [] (.tup ks) (.ref a)
theorem WD{h af:Heap}{d:Addr}{o:Obj}{al ce}(aD:h.get? d=some o)(hd:o.data=.dict al ce)(aZ:Heap.SameBut d h af)(x:D)(v:Value)(_:x.cO=true)(r:Rep h [] x v):Rep af [] x v:=
 Rep.ext3 (bad:=(· =d)) (λa aC xs n av=>by subst aC;rw[aD]at av;refine c0 av λa9=>?_;clear av;subst a9;cases hd) ⟨⟨[],rfl⟩,λ_ h=>absurd h f7,λb o e ab=>(aZ.2 b ab).trans e⟩ x v r
def bm(prog:Program)(w:World):HeapKind prog w (List D) where
 is:=xy
 hash:=λks=>dz w (.tup ks)
 draws:=λks=>vc (.tup ks)
 room:=λA=>A.units+8<cLine
 inj:=λar bc=>by
  exact D.tup.inj (Rep.inj (.tup _) (.tup _) _ ar.2.1 bc.2.1 ar.2.2 bc.2.2)
 keeps:=λx aD hd aZ=>⟨x.1,x.2.1,WD aD hd aZ _ _ x.2.1 x.2.2⟩
 pyHash:=λcJ aq h=>HT 8 _ _ aq.1 aq.2.1 cJ aq.2.2 h
 eqBool:=λ{A E s x y a b Q} cJ ar bc h=>by
  have e:=vh (A:=A) (s:=s) (d:=.tup x) (e:=.tup y) ar.2.1 bc.2.1 (by have ai:=ar.1;have ak:A.units+8<cLine:=cJ;lia) ar.2.2 bc.2.2
  refine e _ _ _ _ ?_
  simpa using h
 quiet:=λaq h=>Ec 8 _ _ aq.1 aq.2.1 aq.2.2 h
section
mutual
theorem zR{bad:Addr->Prop}{I a4:a1}{h af:Heap}(aq:∀b o,h.get? b=some o->¬bad b->af.get? b=some o)(ax:∀a,bad a->∀xs n,h.get? a≠some (seqObj "tuple" xs n)):
  ∀(d:D) (v:Value),d.cO=true->Rep h I d v->Rep af a4 d v
 |.none,_,_,r=>r
 |.int _,_,_,r=>r
 |.str _,_,_,r=>r
 |.tup xs,_,hd,⟨a,vs,n,aU,av,au⟩=>⟨a,vs,n,aU,aq _ _ av (λaC=>ax a aC _ _ av),KP aq ax xs vs hd au⟩
 |.bool _,_,h,_=>by exact hM h
 |.obj _,_,h,_=>by exact hM h
 |.adr _,_,h,_=>by exact hM h
theorem KP{bad:Addr->Prop}{I a4:a1}{h af:Heap}(aq:∀b o,h.get? b=some o->¬bad b->af.get? b=some o)(ax:∀a,bad a->∀xs n,h.get? a≠some (seqObj "tuple" xs n)):
  ∀(J:List D) (vs:List Value),D.da J=true->bt h I J vs->bt af a4 J vs
 |[],_,_,r=>r
 |d::J,_,hd,⟨v,r,aU,ar,au⟩=>by
  simp only[lB,lA,Bool.and_eq_true]at hd
  exact⟨v,r,aU,zR aq ax d v hd.1 ar,KP aq ax J r hd.2 au⟩
end
theorem w8{I a4:a1}{h:Heap}{d:D}{v:Value}(hd:d.cO=true)(r:Rep h I d v):Rep h a4 d v:=
 zR (bad:=λ_=>False) (λ_ _ e _=>e) (λ_ ab=>ab.elim) d v hd r
section
variable(prog:Program)(w:World)(am:Heap)
noncomputable def ki(h:Heap)(I:a1)(a:Addr):bG->Prop
 |.list xs=>∃vs n,h.get? a=some (seqObj "list" vs.toArray n)/\bt h I xs vs
 |.ee aN=>∃al,h.DictOf (strKind prog w) a al/\ej h I aN al
 |.gR aN=>∃al,h.DictOf (intKind prog w) a al/\ej h I aN al
 |.du aN=>∃al,h.DictOfH (bm prog w) a al/\e9 h I aN al
 |.inst bI l=>∃d,I[l]?=some d/\h.get? a=some (instObj bI d)
 |.ns bM=>∃al n,h.get? a=some (dictOf al n)/\h9 h I bM al
structure St(I:a1)(C:aa)(h:Heap):Prop where
 keep:∀b o,am.get? b=some o->h.get? b=some o
 len:I.length=C.length
 nodup:I.Nodup
 three:∃o,am.get? 3=some o
 out:∀a∈I,am.get? a=none/\3<a
 objs:∀(l:Nat) (a:Addr) (po:bG),I[l]?=some a->C[l]?=some po->ki prog w h I a po
end
section
variable{prog:Program}{w:World}{am:Heap}
theorem ki.there{h:Heap}{I:a1}{a:Addr}{po:bG}(x:ki prog w h I a po):∃o,h.get? a=some o/\(∀v,o.data≠.cell v)/\(∀xs n,o≠seqObj "tuple" xs n):=by
 cases po with
 |list xs=>refine dv x λvs n av _=>?_;clear x;exact⟨_,av,(λv e=>nomatch e),λxs n e=>by simp at e⟩
 |ee aN=>refine aG x λal a2 _=>?_;clear x;refine lI a2 λo fm ce aD _ hd _=>?_;clear a2;exact⟨o,aD,(λv e=>by rw[hd]at e;cases e),λxs n e=>by rw[e]at hd;cases hd⟩
 |gR aN=>refine aG x λal a9 _=>?_;clear x;refine lI a9 λo fm ce aD _ hd _=>?_;clear a9;exact⟨o,aD,(λv e=>by rw[hd]at e;cases e),λxs n e=>by rw[e]at hd;cases hd⟩
 |du aN=>refine aG x λal bC _=>?_;clear x;refine lI bC λo fm ce aD _ hd _=>?_;clear bC;exact⟨o,aD,(λv e=>by rw[hd]at e;cases e),λxs n e=>by rw[e]at hd;cases hd⟩
 |inst bI l=>refine aG x λd _ av=>?_;clear x;exact⟨_,av,(λv e=>nomatch e),λxs n e=>by simp at e⟩
 |ns bM=>refine dv x λal n av _=>?_;clear x;exact⟨_,av,(λv e=>nomatch e),λxs n e=>by simp at e⟩
theorem St.there{I:a1}{C:aa}{h:Heap}(S:St prog w am I C h){a:Addr}(aC:a∈I):∃o,h.get? a=some o/\(∀v,o.data≠.cell v)/\(∀xs n,o≠seqObj "tuple" xs n):=by
 refine a6 (List.mem_iff_getElem.mp aC) λl bY=>?_;refine a6 bY λaw a0=>?_;clear bY
 have iT:l<C.length:=by rw[←S.len];exact aw
 exact(S.objs l a C[l] (by rw[gz aw,a0]) (gz iT)).there
theorem St.clear{I:a1}{C:aa}{h:Heap}(S:St prog w am I C h):Clear (· ∈I) I h:=λa aC=>by
 refine eB (S.there aC) λo aD _ bK=>?_
 exactλxs n e=>by rw[aD]at e;refine c0 e λcA=>?_;clear e;subst cA;exact bK xs n rfl
theorem St.pq{I:a1}{C:aa}{h:Heap}(S:St prog w am I C h){a:Addr}(aC:a∈I):Clear (· =a) I h:=λb ab=>by subst ab;exact S.clear b aC
theorem Clear.none{I:a1}{h:Heap}:Clear (λ_=>False) I h:=λ_ ab=>ab.elim
theorem St.cell_out{I:a1}{C:aa}{h:Heap}(S:St prog w am I C h){c:Addr}{v:Option Value}(ax:h.IsCell c v):c∉I:=λaC=>by
 refine eB (S.there aC) λo aD aH _=>?_
 refine aG ax λd8 en hd=>?_;clear ax
 rw[aD]at en;refine c0 en λd0=>?_;clear en;subst d0;exact aH v hd
theorem sL{K:Type}[DecidableEq K]{knd:PySem.KeyKind prog w K}{h af:Heap}{a:Addr}{al:List (K×Value)}(x:h.DictOf knd a al)(k:∀o,h.get? a=some o->af.get? a=some o):af.DictOf knd a al:=by
 refine iw x λo fm ce aD r=>?_;clear x
 exact⟨o,fm,ce,k _ aD,r⟩
theorem ki.ext3{bad:Addr->Prop}{I a4:a1}{h af:Heap}{a:Addr}{po:bG}(x:ki prog w h I a po)(ax:Clear bad I h)(e:e8 bad I h a4 af)(ab:¬bad a):ki prog w af a4 a po:=by
 have pre:∀(l:Nat) (d:Addr),I[l]?=some d->a4[l]?=some d:=λl d aw=>by
  refine a6 e.pre λnew b3=>?_;subst b3
  rw[mw (e4.mp aw).1];exact aw
 cases po with
 |list xs=>refine dv x λvs n av au=>?_;clear x;exact⟨vs,n,e.kept _ _ av ab,bt.ext3 ax e _ _ au⟩
 |ee aN=>refine aG x λal hd au=>?_;clear x;exact⟨al,sL hd (λo aD=>e.kept _ _ aD ab),au.ext3 ax e⟩
 |gR aN=>refine aG x λal hd au=>?_;clear x;exact⟨al,sL hd (λo aD=>e.kept _ _ aD ab),au.ext3 ax e⟩
 |du aN=>
  refine aG x λal cj au=>?_;clear x;refine sG cj λo fm ce aD ai ak aV bL dx=>?_;clear cj
  refine⟨al,⟨o,fm,ce,e.kept _ _ aD ab,ai,ak,aV,λy bc=>?_,dx⟩,au.ext3 ax e⟩
  have q:=bL y bc
  exact⟨q.1,q.2.1,zR e.kept ax (.tup y.1) _ q.2.1 q.2.2⟩
 |inst bI l=>refine aG x λd hd av=>?_;clear x;exact⟨d,pre l d hd,e.kept _ _ av ab⟩
 |ns bM=>refine dv x λal n av au=>?_;clear x;exact⟨al,n,e.kept _ _ av ab,au.ext3 ax e⟩
theorem ki.ext{bad:Addr->Prop}{I a4:a1}{h af:Heap}{a:Addr}{po:bG}(x:ki prog w h I a po)(ax:Clear bad I h)(e:Ext bad I h a4 af)(ab:¬bad a):ki prog w af a4 a po:=x.ext3 ax e.to3 ab
theorem St.mut{I:a1}{C:aa}{h af:Heap}{l:Nat}{a:Addr}{po:bG}(S:St prog w am I C h)(aw:I[l]?=some a)(e:Ext (· =a) I h I af)(aD:ki prog w af I a po):St prog w am I (C.set l po) af:=by
 have aC:a∈I:=eN aw
 have cz:l<I.length:=(e4.mp aw).1
 refine⟨λb o ab=>e.kept b o (S.keep b o ab) (λq=>?_),by rw[mv];exact S.len,S.nodup,S.three,S.out,λfT hG wY ai ak=>?_⟩
 ·subst q;rw[(S.out b aC).1]at ab;exact bi ab
 ·by_cases Cw:l=fT
  ·subst Cw
   rw[aw]at ai;refine c0 ai λfg=>?_;clear ai;subst fg
   rw[List.getElem?_set_self (by rw[←S.len];exact cz)]at ak
   refine c0 ak λi0=>?_;clear ak;subst i0;exact aD
  ·rw[k0 Cw]at ak
   refine(S.objs fT hG wY ai ak).ext (S.pq aC) e (λq=>Cw ?_)
   subst q
   exact(List.getElem?_inj cz S.nodup).mp (aw.trans ai.symm)
theorem St.same{I:a1}{C:aa}{h af:Heap}(S:St prog w am I C h)(e:Ext (λ_=>False) I h I af):St prog w am I C af:=
 ⟨λb o ab=>e.kept b o (S.keep b o ab) id,S.len,S.nodup,S.three,S.out,λl a po ai ak=>(S.objs l a po ai ak).ext .none e id⟩
theorem St.alloc{I:a1}{C:aa}{h af:Heap}{a:Addr}{po:bG}(S:St prog w am I C h)(hz:h.objs.size<=a)(e:Ext (λ_=>False) I h (I++[a]) af)(aD:ki prog w af (I++[a]) a po):St prog w am (I++[a]) (C++[po]) af:=by
 have hf:h.get? a=none:=by
  cases q:h.get? a with
  |none=>rfl
  |some o=>exact absurd (e7 q) (Nat.not_lt.mpr hz)
 have aH:a∉I:=λaC=>by
  refine aG (S.there aC) λo aD _=>?_
  rw[aD]at hf;exact bi hf.symm
 refine⟨λb o ab=>e.kept b o (S.keep b o ab) id,by simp[S.len],?_,S.three,λb ab=>?_,λl b wY ai ak=>?_⟩
 ·rw[od]
  exact⟨S.nodup,by simp,λx ar y bc jc=>aH (by simp at bc;rw[←bc,←jc];exact ar)⟩
 ·rcases er.mp ab with ab|ab
  ·exact S.out b ab
  ·simp at ab;subst ab
   refine⟨?_,?_⟩
   ·cases q:am.get? b with
    |none=>rfl
    |some o=>rw[S.keep b o q]at hf;exact bi hf.symm
   ·refine a6 S.three λo aD=>?_
    exact dE (e7 (S.keep _ _ aD)) hz
 ·rcases Nat.lt_or_ge l I.length with aw|aw
  ·rw[mw aw]at ai
   rw[mw (by rw[←S.len];exact aw)]at ak
   exact(S.objs l b wY ai ak).ext .none e id
  ·rw[List.getElem?_append_right aw]at ai
   rw[List.getElem?_append_right (by rw[←S.len];exact aw),←S.len]at ak
   have hz:l-I.length=0:=by
    have:=(e4.mp ai).1
    simp at this;lia
   rw[hz]at ai ak
   simp at ai ak
   subst ai ak;exact aD
end
theorem Ext.push{bad:Addr->Prop}{I:a1}{h:Heap}(o:Obj):Ext bad I h I (h.push o):=
 ⟨⟨[],by simp⟩,λ_ aC=>.inl aC,λ_ _ e _=>fO _ e,λ_ o e=>⟨o,fO _ e⟩⟩
theorem i2(h:Heap):h.get? h.objs.size=none:=by
 cases q:h.get? h.objs.size with
 |none=>rfl
 |some o=>exact absurd (e7 q) (ji _)
theorem rT(h:Heap){a:Addr}(aC:h.objs.size<=a):h.get? a=none:=by
 cases q:h.get? a with
 |none=>rfl
 |some o=>exact absurd (e7 q) (Nat.not_lt.mpr aC)
theorem Ext.sv{bad:Addr->Prop}{I:a1}{h:Heap}(o:Obj):Ext bad I h (I++[h.objs.size]) (h.push o):=
 ⟨⟨_,rfl⟩,λa aC=>by
  rcases er.mp aC with aC|aC
  ·exact .inl aC
  ·simp at aC;subst aC;exact .inr (i2 h),λ_ _ e _=>fO _ e,λ_ o e=>⟨o,fO _ e⟩⟩
theorem Ext.mj{bad:Addr->Prop}{I:a1}{h af:Heap}(k:∀b o,h.get? b=some o->af.get? b=some o):Ext bad I h I af:=
 ⟨⟨[],by simp⟩,λ_ aC=>.inl aC,λb o e _=>k b o e,λb o e=>⟨o,k b o e⟩⟩
theorem Ext.ml{I:a1}{h af:Heap}{a:Addr}{d8:Obj}(s:Heap.SameBut a h af)(e:af.get? a=some d8):Ext (· =a) I h I af:=
 ⟨⟨[],by simp⟩,λ_ aC=>.inl aC,λb o q ab=>(s.2 b ab).trans q,λb o q=>by
  by_cases ab:b=a
  ·subst ab;exact⟨d8,e⟩
  ·exact⟨o,(s.2 b ab).trans q⟩⟩
theorem Ext.grow{bad:Addr->Prop}{I:a1}{h af:Heap}{a:Addr}(k:∀b o,h.get? b=some o->af.get? b=some o)(hf:h.get? a=none):Ext bad I h (I++[a]) af:=
 ⟨⟨_,rfl⟩,λb ab=>by
  rcases er.mp ab with ab|ab
  ·exact .inl ab
  ·simp at ab;subst ab;exact .inr hf,λb o e _=>k b o e,λb o e=>⟨o,k b o e⟩⟩
end
noncomputable abbrev aK:=List (Option D)
noncomputable abbrev aY(be:Type):=aK->aa->Option be
noncomputable abbrev a7(d:D):aY (D×aa):=λ_ C=>some (d,C)
noncomputable def jo(h:Heap)(I:a1):Option D->Option Value->Prop
 |none,v=>v=none
 |some d,v=>∃u,v=some u/\Rep h I d u
noncomputable def aK.at(m:aK)(i:Nat):Option D:=m.getD i none
structure de(am:Heap)(aA:Scope)(ae:Env)(m:aK)(I:a1)(h:Heap):Prop where
 scope:ae.scope=aA
 kind:aA.kind=.function
 glob:ae.globals=mainGlobals
 blt:ae.builtins=builtinsNs
 nodup:(aA.names.map (·.1)).Nodup
 len:m.length=aA.names.length
 tO:ae.locals∉I
 tZ:am.get? ae.locals=none
 so:∀x c,ae.cells.lookup x=some c->am.get? c=none/\∃v,h.IsCell c v
 loc:∃fU,h.Ns ae.locals fU/\∀(i:Nat) (x:Str),aA.names[i]?=some (x,.local)->jo h I (m.at i) (fU x)
 cell:∀(i:Nat) (x:Str) (k:NameKind),aA.names[i]?=some (x,k)->k=.cell\/k=.free->∃c v,ae.cells.lookup x=some c/\h.IsCell c v/\jo h I (m.at i) v
 apart:∀(i j:Nat) (x y:Str) (k bZ:NameKind) (c:Addr),aA.names[i]?=some (x,k)->aA.names[j]?=some (y,bZ)->k=.cell\/k=.free->bZ=.cell\/bZ=.free->ae.cells.lookup x=some c->ae.cells.lookup y=some c->i=j
theorem lookup_at:∀{l:List (Str×NameKind)} {i:Nat} {x:Str} {k:NameKind},(l.map (·.1)).Nodup->l[i]?=some (x,k)->l.lookup x=some k
 |(y,q)::r,0,x,k,_,e=>by
  rw[List.getElem?_cons_zero]at e;refine ds e λbC bY=>?_;clear e;subst bC;subst bY
  simp
 |(y,q)::r,i+1,x,k,aH,e=>by
  rw[List.getElem?_cons_succ]at e
  rw[gm,kH]at aH
  have e1:(x==y)=false:=by
   rw[beq_eq_false_iff_ne]
   rintro rfl
   exact aH.1 (b5.mpr ⟨_,eN e,rfl⟩)
  rw[gV,e1]
  exact lookup_at aH.2 e
theorem de.kindOf{am:Heap}{aA:Scope}{ae:Env}{m:aK}{I:a1}{h:Heap}(F:de am aA ae m I h){i:Nat}{x:Str}{k:NameKind}(e:aA.names[i]?=some (x,k)):ae.kindOf x=some k:=by
 unfold Env.kindOf;rw[F.scope];exact lookup_at F.nodup e
theorem jo.ext3{bad:Addr->Prop}{I a4:a1}{h af:Heap}(ax:Clear bad I h)(x:e8 bad I h a4 af):∀{d:Option D} {v:Option Value},jo h I d v->jo af a4 d v
 |none,_,r=>r
 |some d,_,⟨u,e,r⟩=>⟨u,e,Rep.ext3 ax x d u r⟩
theorem jo.ext{bad:Addr->Prop}{I a4:a1}{h af:Heap}(ax:Clear bad I h)(x:Ext bad I h a4 af){d:Option D}{v:Option Value}(r:jo h I d v):jo af a4 d v:=r.ext3 ax x.to3
theorem de.ext3{am:Heap}{aA:Scope}{ae:Env}{m:aK}{bad:Addr->Prop}{I a4:a1}{h af:Heap}(F:de am aA ae m I h)(ax:Clear bad I h)(e:e8 bad I h a4 af)(dQ:¬bad ae.locals)
  (jZ:∀c v,h.IsCell c v->¬bad c):de am aA ae m a4 af:=by
 refine⟨F.scope,F.kind,F.glob,F.blt,F.nodup,F.len,λaR=>?_,F.tZ,λx c ax=>?_,?_,λi x k a0 aq=>?_,F.apart⟩
 ·refine aG F.loc λfU a2 _=>?_;refine iw a2 λo al ce aD _=>?_;clear a2
  exact F.tO (e.back aD aR)
 ·refine bU (F.so x c ax) λai a9=>?_;refine a6 a9 λv ak=>?_;clear a9
  refine aG (id ak) λo aD hd=>?_
  exact⟨ai,v,o,e.kept _ _ aD (jZ c v ak),hd⟩
 ·refine aG F.loc λfU aH aU=>?_
  exact⟨fU,aH.at' (λo aD=>e.kept _ _ aD dQ),λi x a0=>(aU i x a0).ext3 ax e⟩
 ·refine b2 (F.cell i x k a0 aq) λc v ai ak aV=>?_
  refine⟨c,v,ai,?_,aV.ext3 ax e⟩
  refine aG (id ak) λo aD hd=>?_
  exact⟨o,e.kept _ _ aD (jZ c v ak),hd⟩
theorem de.ext{am:Heap}{aA:Scope}{ae:Env}{m:aK}{bad:Addr->Prop}{I a4:a1}{h af:Heap}(F:de am aA ae m I h)(ax:Clear bad I h)(e:Ext bad I h a4 af)(dQ:¬bad ae.locals)
  (jZ:∀c v,h.IsCell c v->¬bad c):de am aA ae m a4 af:=F.ext3 ax e.to3 dQ jZ
section
variable{prog:Program}{w:World}{am:Heap}
theorem de.cM{aA:Scope}{ae:Env}{m:aK}{I a4:a1}{h af:Heap}{C:aa}(F:de am aA ae m I h)(S:St prog w am I C h)(e:fk I h a4 af):de am aA ae m a4 af:=
 F.ext S.clear e F.tO λc v ax=>S.cell_out ax
theorem Rep.cM{I a4:a1}{h af:Heap}{C:aa}{d:D}{v:Value}(r:Rep h I d v)(S:St prog w am I C h)(e:fk I h a4 af):Rep af a4 d v:=Rep.ext S.clear e d v r
theorem bt.cM{I a4:a1}{h af:Heap}{C:aa}{d:List D}{v:List Value}(r:bt h I d v)(S:St prog w am I C h)(e:fk I h a4 af):bt af a4 d v:=bt.ext S.clear e d v r
end
noncomputable def fa(n:Nat)(A:Around):Prop:=A.handled=none/\A.depth+n<recursionLimit/\A.units+4*n+100<cLine
theorem fa.le{n k:Nat}{A:Around}(h:fa n A)(aq:k<=n):fa k A:=⟨h.1,by haveI:=h.2.1;lia,by haveI:=h.2.2;lia⟩
theorem fa.in1{n:Nat}{A:Around}(h:fa (n+1) A):fa n A.in1:=⟨h.1,by haveI:=h.2.1;refine(?_:A.depth+n<recursionLimit);lia,by haveI:=h.2.2;refine(?_:A.units+1+4*n+100<cLine);lia⟩
theorem fa.units{n:Nat}{A:Around}(h:fa n A):A.units+100<cLine:=by haveI:=h.2.2;lia
theorem fa.aav{n:Nat}{A:Around}(h:fa n A):A.units<cLine:=by haveI:=h.2.2;lia
theorem fa.depth{n:Nat}{A:Around}(h:fa n A):A.depth<recursionLimit:=by haveI:=h.2.1;lia
section
variable(prog:Program)(w:World)(am:Heap)
noncomputable abbrev on(I:a1)(s:Shared)(d:D)(ao:aa)(Q:Value->Shared->Prop):Prop:=
 ∀a4 v af bm ct,St prog w am a4 ao af->fk I s.heap a4 af->Rep af a4 d v->Q v {s with heap:=af,toks:=bm,drawn:=ct}
noncomputable def cL(n:Nat)(aA:Scope)(e:Expr)(f:aY (D×aa)):Prop:=
 ∀m C d ao,f m C=some (d,ao)->∀(A:Around) (ae:Env) (I:a1) (s:Shared) (Q:Value->Shared->Prop) (E:Value->Shared->Prop),fa n A->de am aA ae m I s.heap->St prog w am I C s.heap->
  on prog w am I s d ao Q->wpAny (model prog w) A (eval e ae) Q E s
noncomputable def jN(n:Nat)(aA:Scope)(e:Expr)(f:aY (Bool×aa)):Prop:=
 ∀m C b ao,f m C=some (b,ao)->∀(A:Around) (ae:Env) (I:a1) (s:Shared) (Q:Bool->Shared->Prop) (E:Value->Shared->Prop),fa n A->de am aA ae m I s.heap->St prog w am I C s.heap->
  (∀a4 af bm ct,St prog w am a4 ao af->fk I s.heap a4 af->Q b {s with heap:=af,toks:=bm,drawn:=ct})->wpAny (model prog w) A (isTrue e ae (eval e ae)) Q E s
structure k4(n:Nat)(aA:Scope)(al:List Expr)(f:aY (List D×aa)):Prop where
 len:∀m C J ao,f m C=some (J,ao)->J.length=al.length
 run:∀m C J ao,f m C=some (J,ao)->∀(A:Around) (ae:Env) (pos:Pos) (I:a1) (s:Shared) (Q:List Value->Shared->Prop) (E:Value->Shared->Prop),fa n A->de am aA ae m I s.heap->St prog w am I C s.heap->
  (∀a4 vs af bm ct,St prog w am a4 ao af->fk I s.heap a4 af->bt af a4 J vs->Q vs {s with heap:=af,toks:=bm,drawn:=ct})->
  wpAny (model prog w) A (spliced (backTo pos (starEach al ae))) Q E s
noncomputable def Zt(n:Nat)(t:List Value->Sem Value)(g:List D->aa->Option (D×aa)):Prop:=
 ∀J C d ao,g J C=some (d,ao)->∀(A:Around) (I:a1) (s:Shared) (vs:List Value) (Q:Value->Shared->Prop) (E:Value->Shared->Prop),fa n A->St prog w am I C s.heap->bt s.heap I J vs->
  on prog w am I s d ao Q->wpAny (model prog w) A (t vs) Q E s
end
section
variable{prog:Program}{w:World}{am:Heap}{n:Nat}{aA:Scope}
theorem cL.mono{e:Expr}{f:aY (D×aa)}{k:Nat}(h:cL prog w am k aA e f)(aq:k<=n):cL prog w am n aA e f:=
 λm C d ao hf A ae I s Q E a5 F S P=>h m C d ao hf A ae I s Q E (a5.le aq) F S P
theorem cu{i:Int}{k pos}:cL prog w am n aA (.Constant (.int i) k pos) (a7 (.int i)):=by
 intro m C d ao hf A ae I s Q E a5 F S P
 refine ds hf λcj cA=>?_;clear hf;subst cj;subst cA
 exact wpAny_Constant_int (P I _ s.heap _ _ S .refl ⟨_,rfl⟩)
theorem fz{x:Str}{k pos}:cL prog w am n aA (.Constant (.str x) k pos) (a7 (.str x)):=by
 intro m C d ao hf A ae I s Q E a5 F S P
 refine ds hf λdb d0=>?_;clear hf;subst db;subst d0
 exact PySem.Calls.Constant_str (P I _ s.heap _ _ S .refl ⟨_,rfl⟩)
theorem pu{b:Bool}{k pos}:cL prog w am n aA (.Constant (.bool b) k pos) (a7 (.bool b)):=by
 intro m C d ao hf A ae I s Q E a5 F S P
 refine ds hf λff fg=>?_;clear hf;subst ff;subst fg
 exact bj (P I _ s.heap _ _ S .refl rfl)
theorem Bk{k pos}:cL prog w am n aA (.Constant .none k pos) (a7 .none):=by
 intro m C d ao hf A ae I s Q E a5 F S P
 refine ds hf λg6 i0=>?_;clear hf;subst g6;subst i0
 exact bj (P I _ s.heap _ _ S .refl rfl)
def aj(i:Nat)(m:aK)(C:aa):Option (D×aa):=(m.at i).map (·,C)
theorem aQ(i:Nat){x:Str}{pos}(hi:aA.names[i]?=some (x,.local):=by rfl)(hd:(x==("__debug__":Str))=false:=by rfl):cL prog w am n aA (.Name x pos) (aj i):=by
 intro m C d ao hf A ae I s Q E a5 F S P
 unfold aj at hf
 cases aR:m.at i with
 |none=>rw[aR]at hf;exact bi hf
 |some jS=>
  rw[aR]at hf;refine ds hf λhR i1=>?_;clear hf;subst hR;subst i1
  refine aG F.loc λfU aH aU=>?_
  haveI q:=aU i x hi
  rw[aR]at q
  refine aG q λu cJ au=>?_;clear q
  exact wpAny_Name (wpAny_loadName_local (by rw[F.scope];exact F.kind) (F.kindOf hi) aH cJ (P I u s.heap s.toks _ S .refl au)) hd
theorem ci(i:Nat){x:Str}{pos}(hi:aA.names[i]?=some (x,.cell):=by rfl)(hd:(x==("__debug__":Str))=false:=by rfl):cL prog w am n aA (.Name x pos) (aj i):=by
 intro m C d ao hf A ae I s Q E a5 F S P
 unfold aj at hf
 cases aR:m.at i with
 |none=>rw[aR]at hf;exact bi hf
 |some jS=>
  rw[aR]at hf;refine ds hf λkW q4=>?_;clear hf;subst kW;subst q4
  refine b2 (F.cell i x _ hi (.inl rfl)) λc v ai ak q=>?_
  rw[aR]at q
  refine aG q λu cJ au=>?_;clear q
  subst cJ
  exact wpAny_Name (wpAny_loadName_cell (by rw[F.scope];exact F.kind) (F.kindOf hi) ai ak (P I u s.heap s.toks _ S .refl au)) hd
theorem ZF(i:Nat){x:Str}{pos}(hi:aA.names[i]?=some (x,.free))(hd:(x==("__debug__":Str))=false) (cW:(x==("__classdict__":Str))=false):cL prog w am n aA (.Name x pos) (aj i):=by
 intro m C d ao hf A ae I s Q E a5 F S P
 unfold aj at hf
 cases aR:m.at i with
 |none=>rw[aR]at hf;exact bi hf
 |some jS=>
  rw[aR]at hf;refine ds hf λm4 sw=>?_;clear hf;subst m4;subst sw
  refine b2 (F.cell i x _ hi (.inr rfl)) λc v ai ak q=>?_
  rw[aR]at q
  refine aG q λu cJ au=>?_;clear q
  subst cJ
  exact wpAny_Name (wpAny_loadName_free (by rw[F.scope];exact F.kind) (F.kindOf hi) ai ak (P I u s.heap s.toks _ S .refl au) cW) hd
noncomputable def aJ(_:aK)(C:aa):Option (List D×aa):=some ([],C)
theorem ba:k4 prog w am n aA [] aJ:=by
 refine⟨λm C J ao hf=>by refine ds hf λmn t7=>?_;clear hf;subst mn;subst t7;rfl,λm C d ao hf A ae pos I s Q E a5 F S P=>?_⟩
 refine ds hf λzM t8=>?_;clear hf;subst zM;subst t8
 exact PySem.Calls.spliced_nil (P I [] s.heap s.toks _ S .refl rfl)
noncomputable def ay(f:aY (D×aa))(g:aY (List D×aa))(m:aK)(C:aa):Option (List D×aa):=
 (f m C).bind λx=>(g m x.2).map λy=>(x.1::y.1,y.2)
theorem aW{e:Expr}{al:List Expr}{f g}(ai:cL prog w am n aA e f)(ak:k4 prog w am n aA al g)(aZ:∀ae,starEach (e::al) ae=(false,eval e ae)::starEach al ae:=by exactλ_=>rfl):
  k4 prog w am n aA (e::al) (ay f g):=by
 refine⟨λm C J ao hf=>?_,λm C J ao hf A ae pos I s Q E a5 F S P=>?_⟩
 ·unfold ay at hf
  refine dw hf ?_;clear hf;intro d aB hd hf
  refine lG hf ?_;clear hf;intro hL a8 gP hf
  cases hf
  rw[fX,fX,ak.len _ _ _ _ gP]
 unfold ay at hf
 refine dw hf ?_;clear hf;intro d aB hd hf
 refine lG hf ?_;clear hf;intro hL a8 gP hf
 cases hf
 rw[aZ]
 show wpAny _ _ (spliced ((false,eval e ae)::backTo pos (starEach al ae))) Q E s
 refine PySem.Calls.spliced_cons (ai m C d aB hd A ae I s _ E a5 F S λbJ v bN b4 cy bE bu cs=>?_)
 refine ak.run m aB hL a8 gP A ae pos bJ _ _ E a5 (F.cM S bu) bE λcG vs cE cN cU cb b0 dp=>?_
 exact P cG (v::vs) cE cN cU cb (bu.dc b0) ⟨v,vs,rfl,cs.cM bE b0,dp⟩
end
noncomputable abbrev lim:Nat:=100000
theorem ij{n:Nat}(h:n<=lim):n<=sizeLine:=aO h ag
theorem bt.J5{h:Heap}{I:a1}:∀{J:List D},bt h I J []->J=[]
 |[],_=>rfl
 |_::_,r=>by refine dv r λ_ _ e _=>?_;clear r;cases e
section
variable{prog:Program}{w:World}{am:Heap}{n:Nat}{aA:Scope}
noncomputable def dd(f:aY (List D×aa))(m:aK)(C:aa):Option (D×aa):=(f m C).map λx=>(.tup x.1,x.2)
noncomputable def fM(f:aY (List D×aa))(m:aK)(C:aa):Option (D×aa):=(f m C).map λx=>(.obj x.2.length,x.2++[.list x.1])
theorem wZ{I:a1}{C:aa}{s:Shared}{J:List D}{vs:List Value}{Q:Value->Shared->Prop}(S:St prog w am I C s.heap)(r:bt s.heap I J vs)(P:on prog w am I s (.tup J) C Q):
  Q (.ref s.heap.objs.size) {s with heap:=s.heap.push {cls:=.type "tuple",data:=.seq vs.toArray}}:=
 P I _ _ s.toks _ (S.same (Ext.push _)) (Ext.push _) ⟨_,vs,0,rfl,gA _ rfl,r.cM S (Ext.push _)⟩
theorem DT{I:a1}{C:aa}{s:Shared}{J:List D}{vs:List Value}{Q:Value->Shared->Prop}(S:St prog w am I C s.heap)(r:bt s.heap I J vs)(P:on prog w am I s (.obj C.length) (C++[.list J]) Q):
  Q (.ref s.heap.objs.size) {s with heap:=s.heap.push {cls:=.type "list",data:=.seq vs.toArray}}:=by
 refine P (I++[s.heap.objs.size]) _ _ s.toks _ (S.alloc (bD _) (Ext.sv _) ⟨vs,0,gA _ rfl,?_⟩) (Ext.sv _) ⟨s.heap.objs.size,?_,rfl⟩
 ·exact r.cM S (Ext.sv _)
 ·rw[←S.len];simp
theorem eb{al:List Expr}{k pos f}(h:k4 prog w am n aA al f)(aw:al.length<=lim:=by decide):cL prog w am n aA (.Tuple al k pos) (dd f):=by
 intro m C d ao hf A ae I s Q E a5 F S P
 refine lG hf ?_;clear hf;intro J aB hd hf
 cases hf
 refine PyProof.Rows.Tuple_ (h.run m C J aB hd A ae pos I s _ E a5 F S λbJ vs bN b4 cy bE bu cs=>?_)
 refine wpAny_newTuple ?_ (by rw[cs.length,h.len _ _ _ _ hd];exact ij aw)
 exact wZ (s:={s with heap:=bN,toks:=b4,drawn:=cy}) bE cs λcG v cE cN cU cb b0 dp=>P cG v cE cN cU cb (bu.dc b0) dp
theorem LM{M:Model}{A:Around}{E:Value->Shared->Prop}{s:Shared}{items:List Value}{Q:Value->Shared->Prop}(h:Q (.ref s.heap.objs.size) {s with heap:=s.heap.push {cls:=.type "list",data:=.seq items.toArray}})
  (fp:items.length<=sizeLine):wpAny M A (newList items) Q E s:=wpAny_newObj_type h (by refine(?_:items.toArray.size<=sizeLine);rw[hb];exact fp)
theorem gZ{al:List Expr}{pos f}(h:k4 prog w am n aA al f)(aw:al.length<=lim:=by decide):cL prog w am n aA (.List al pos) (fM f):=by
 intro m C d ao hf A ae I s Q E a5 F S P
 refine lG hf ?_;clear hf;intro J aB hd hf
 cases hf
 refine PyProof.Rows.List_ (h.run m C J aB hd A ae pos I s _ E a5 F S λbJ vs bN b4 cy bE bu cs=>?_)
 refine LM ?_ (by rw[cs.length,h.len _ _ _ _ hd];exact ij aw)
 exact DT (s:={s with heap:=bN,toks:=b4,drawn:=cy}) bE cs λcG v cE cN cU cb b0 dp=>P cG v cE cN cU cb (bu.dc b0) dp
noncomputable def gu(C:aa)(l:Nat):Option (List D):=match C[l]? with
 |some (.list xs)=>some xs
 |_=>none
theorem ik{I:a1}{C:aa}{h:Heap}{l:Nat}{xs:List D}{v:Value}(S:St prog w am I C h)(e:gu C l=some xs)(r:Rep h I (.obj l) v):
  ∃a vs k,v=.ref a/\I[l]?=some a/\a∈I/\h.get? a=some (seqObj "list" vs.toArray k)/\bt h I xs vs:=by
 refine aG r λa aC aU=>?_;clear r
 unfold gu at e
 split at e
 ·rename_i bB bc
  refine c0 e λa9=>?_;clear e;subst a9
  refine dv (S.objs l a _ aC bc) λvs k av au=>?_
  exact⟨a,vs,k,aU,aC,eN aC,av,au⟩
 ·exact bi e
noncomputable def objOf:D->Option Nat
 |.obj l=>some l
 |_=>none
noncomputable def intOf:D->Option Int
 |.int l=>some l
 |_=>none
noncomputable def n3:D->Option (List D)
 |.tup l=>some l
 |_=>none
theorem m1{a:D}{l:Nat}(h:objOf a=some l):a=.obj l:=by cases a<;>first|exact bi h|(cases h;rfl)
theorem nN{a:D}{l:Int}(h:intOf a=some l):a=.int l:=by cases a<;>first|exact bi h|(cases h;rfl)
theorem sC{a:D}{l:List D}(h:n3 a=some l):a=.tup l:=by cases a<;>first|exact bi h|(cases h;rfl)
noncomputable def strOf:D->Option Str
 |.str l=>some l
 |_=>none
theorem z5{a:D}{l:Str}(h:strOf a=some l):a=.str l:=by cases a<;>first|exact bi h|(cases h;rfl)
def MY(a b:D)(C:aa):Option (D×aa):=match a with
 |.int i=>(intOf b).map λj=>(.int (i+j),C)
 |.tup xs=>(n3 b).bind λbB=>if xs.length+bB.length<=lim then some (.tup (xs++bB),C)else none
 |.str x=>(strOf b).bind λy=>if x.length+y.length<=lim then some (.str (x++y),C)else none
 |.obj l=>(objOf b).bind λk=>(gu C l).bind λxs=>(gu C k).bind λbB=>if xs.length+bB.length<=lim then some (.obj C.length,C++[.list (xs++bB)])else none
 |_=>none
def wx(f:Int->Int->Option Int)(a b:D)(C:aa):Option (D×aa):=(intOf a).bind λi=>(intOf b).bind λj=>(f i j).map λk=>(.int k,C)
def pj(op:Operator)(a b:D)(C:aa):Option (D×aa):=match op with
 |.Add=>MY a b C
 |.Sub=>wx (λi j=>some (i-j)) a b C
 |.Mult=>wx (λi j=>if Builtin.Int.intBits i<=64 then some (i*j)else none) a b C
 |.Mod=>wx (λi j=>if j≠0 then some (i.fmod j)else none) a b C
 |_=>none
theorem CV{f:Int->Int->Option Int}{a b d:D}{C ao:aa}(ab:wx f a b C=some (d,ao)){s:Shared}{I:a1}{u v:Value}{Q:Value->Shared->Prop}{G:Prop}(S:St prog w am I C s.heap)
  (dR:Rep s.heap I a u) (ep:Rep s.heap I b v) (P:on prog w am I s d ao Q) (k:∀i j x t d1,u=.int i t->v=.int j d1->f i j=some x->(∀y bm,Q (.int x y) {s with toks:=bm})->G):G:=by
 refine cI ab λi hi ab=>cI ab λj bn ab=>fC ab λx ar e=>?_
 obtain rfl:=nN hi
 obtain rfl:=nN bn
 cases e
 refine a6 dR λt e=>?_;clear dR
 refine a6 ep λd1 bO=>?_;clear ep
 exact k i j x t d1 e bO ar λy bm=>P I _ s.heap bm _ S .refl ⟨_,rfl⟩
theorem Yt{xs bB:List D}{C:aa}{A:Around}{I:a1}{s:Shared}{u v:Value}{Q E:Value->Shared->Prop}(aw:xs.length+bB.length<=lim)(S:St prog w am I C s.heap)
  (dR:Rep s.heap I (.tup xs) u) (ep:Rep s.heap I (.tup bB) v) (P:on prog w am I s (.tup (xs++bB)) C Q):wpAny (model prog w) A (binaryOp .Add u v) Q E s:=by
 refine d4 dR λpa vs k aS av au=>?_;clear dR
 refine d4 ep λmB na bZ bf g4 dA=>?_;clear ep
 subst aS
 subst bf
 by_cases ai:vs.toArray.isEmpty=true
 ·haveI aU:vs=[]:=by simpa using ai
  haveI ar:xs=[]:=by rw[aU]at au;exact au.J5
  exact concat_meets ⟨_,av,rfl⟩ ⟨_,g4,rfl⟩ noFill_tuple_add seq_tuple_add F.slot_tuple_add F.entry_tuple_add (F.args_tuple_add_2 _ _) (tuple_addW0 pa mB vs.toArray na.toArray k bZ none none #[] #[] ai) ⟨av,g4,P I _ s.heap s.toks _ S .refl (by rw[ar];exact⟨_,_,_,rfl,g4,dA⟩)⟩
 ·by_cases ak:na.toArray.isEmpty=true
  ·haveI aU:na=[]:=by simpa using ak
   haveI ar:bB=[]:=by rw[aU]at dA;exact dA.J5
   exact concat_meets ⟨_,av,rfl⟩ ⟨_,g4,rfl⟩ noFill_tuple_add seq_tuple_add F.slot_tuple_add F.entry_tuple_add (F.args_tuple_add_2 _ _) (tuple_addW1 pa mB vs.toArray na.toArray k bZ none none #[] #[] ai ak) ⟨av,g4,P I _ s.heap s.toks _ S .refl (by rw[ar,List.append_nil];exact⟨_,_,_,rfl,av,au⟩)⟩
  ·refine PySem.P.add_tuple (items:=vs.toArray) (items2:=na.toArray) av g4 ai ak ?_ (by rw[hb,hb,au.length,dA.length];exact ij aw)
   rw[List.append_toArray]
   exact wZ S (au.append dA) P
theorem NQ{op:Operator}{a b d:D}{C ao:aa}(ab:pj op a b C=some (d,ao)){A:Around}{I:a1}{s:Shared}{u v:Value}{Q E:Value->Shared->Prop}(a5:fa n A)(S:St prog w am I C s.heap)
  (dR:Rep s.heap I a u) (ep:Rep s.heap I b v) (P:on prog w am I s d ao Q):wpAny (model prog w) A (binaryOp op u v) Q E s:=by
 cases op with
 |Add=>
  cases a with
  |int i=>
   refine fC (o:=intOf b) ab λj bn e=>?_
   obtain rfl:=nN bn
   cases e
   refine a6 dR λt e=>?_;clear dR;refine a6 ep λd1 bO=>?_;clear ep;subst e;subst bO
   exact wpAny_add_int (P I _ s.heap _ _ S .refl ⟨_,rfl⟩)
  |tup xs=>
   refine cI (o:=n3 b) ab λbB bn ab=>dB ab λaw e=>?_
   obtain rfl:=sC bn
   refine ds e λb3 cj=>?_;clear e;subst b3;subst cj
   exact Yt aw S dR ep P
  |str x=>
   refine cI (o:=strOf b) ab λy bn ab=>dB ab λaw e=>?_
   obtain rfl:=z5 bn
   refine ds e λcQ db=>?_;clear e;subst cQ;subst db
   refine a6 dR λt e=>?_;clear dR;refine a6 ep λd1 bO=>?_;clear ep;subst e;subst bO
   exact PyProof.Rows.add_str (λd1 bm=>P I _ s.heap bm _ S .refl ⟨_,rfl⟩) (ij aw)
  |obj l=>
   refine cI (o:=objOf b) ab λy bn ab=>cI ab λxs ar ab=>cI ab λbB bc ab=>dB ab λaw e=>?_
   obtain rfl:=m1 bn
   refine ds e λeF ff=>?_;clear e;subst eF;subst ff
   refine hs (ik S ar dR) λpa vs k aS _ _ av au=>?_
   refine hs (ik S bc ep) λmB na bZ bf _ _ g4 dA=>?_
   subst aS
   subst bf
   refine PySem.P.add_list (items:=vs.toArray) (items2:=na.toArray) av g4 ?_ (by rw[hb,hb,au.length,dA.length];exact ij aw)
   rw[List.append_toArray]
   exact DT S (au.append dA) P
  |_=>exact bi ab
 |Sub=>exact CV ab S dR ep P λi j x t d1 e bO ar q=>by subst e;subst bO;refine c0 ar λfq=>?_;clear ar;subst fq;exact sub_int' (q _ _)
 |Mult=>exact CV ab S dR ep P λi j x t d1 e bO ar q=>dB ar λaw ar=>by subst e;subst bO;refine c0 ar λhq=>?_;clear ar;subst hq;exact PyProof.Rows.mul_int (q _ _) (.of_left aw)
 |Mod=>exact CV ab S dR ep P λi j x t d1 e bO ar q=>dB ar λaw ar=>by subst e;subst bO;refine c0 ar λje=>?_;clear ar;subst je;exact mod_int' aw (q _ _)
 |_=>exact bi ab
def et(op:Operator)(f g:aY (D×aa))(m:aK)(C:aa):Option (D×aa):=
 (f m C).bind λx=>(g m x.2).bind λy=>pj op x.1 y.1 y.2
theorem fb{l r:Expr}{op pos f g}(ai:cL prog w am n aA l f)(ak:cL prog w am n aA r g):cL prog w am n aA (.BinOp l op r pos) (et op f g):=by
 intro m C d ao hf A ae I s Q E a5 F S P
 refine dw hf ?_;clear hf;intro a aB aC hf
 refine dw hf ?_;clear hf;intro b a8 ab hf
 refine wpAny_BinOp (ai m C a aB aC A ae I s _ E a5 F S λbJ u c6 b4 cy bE bu cs=>?_)
 refine ak m aB b a8 ab A ae bJ _ _ E a5 (F.cM S bu) bE λcG v dH cN cU cb b0 dp=>?_
 exact NQ hf a5 cb (cs.cM bE b0) dp λjL v eT jG jI eR fJ mr=>P jL v eT jG jI eR ((bu.dc b0).dc fJ) mr
noncomputable def zy(f:aY (D×aa))(m:aK)(C:aa):Option (D×aa):=(f m C).bind λx=>match x.1 with
 |.int i=>some (.int (-i),x.2)
 |_=>none
theorem GA{x:Expr}{pos f}(h:cL prog w am n aA x f):cL prog w am n aA (.UnaryOp .USub x pos) (zy f):=by
 intro m C d ao hf A ae I s Q E a5 F S P
 refine dw hf ?_;clear hf;intro a aB aC hf
 split at hf
 ·rename_i i hi
  refine ds hf λm3 m4=>?_;clear hf;subst m3;subst m4
  haveI dW:a=.int i:=hi
  subst dW
  refine UnaryOp_ (h m C _ aB aC A ae I s _ E a5 F S λbJ u c6 b4 cy bE bu cs=>?_)
  refine a6 cs λt a2=>?_;clear cs;subst a2
  exact PyProof.Rows.neg_int (P bJ _ c6 _ _ bE bu ⟨_,rfl⟩)
 ·exact bi hf
end
noncomputable def ra(C:aa)(l:Nat):Option (List (Str×D)):=match C[l]? with
 |some (.ee xs)=>some xs
 |_=>none
noncomputable def tJ(C:aa)(l:Nat):Option (List (Int×D)):=match C[l]? with
 |some (.gR xs)=>some xs
 |_=>none
noncomputable def n2(C:aa)(l:Nat):Option (List (List D×D)):=match C[l]? with
 |some (.du xs)=>some xs
 |_=>none
noncomputable def dM{K:Type}[DecidableEq K](aN:List (K×D))(k:K):Option D:=(aN.find? λp=>decide (p.1=k)).map (·.2)
theorem ej.get{K:Type}[DecidableEq K]{h:Heap}{I:a1}:∀{aN:List (K×D)} {al:List (K×Value)} (k:K),ej h I aN al->jo h I (dM aN k) (valueAt al k)
 |[],al,k,r=>by rw[show al=[]from r];exact rfl
 |(x,d)::bM,al,k,⟨v,r,a0,aU,au⟩=>by
  subst a0
  unfold dM valueAt
  by_cases aq:x=k
  ·simp only[List.find?_cons,aq,decide_true,Option.map_some];exact⟨v,rfl,aU⟩
  ·simp only[List.find?_cons,aq,decide_false];exact au.get k
theorem e9.get{K:Type}[DecidableEq K]{h:Heap}{I:a1}:∀{aN:List (K×D)} {al:List (K×Addr×Value)} (k:K),e9 h I aN al->jo h I (dM aN k) ((atKey al k).map (·.2))
 |[],al,k,r=>by rw[show al=[]from r];exact rfl
 |(x,d)::bM,al,k,⟨a,v,r,a0,aU,au⟩=>by
  subst a0
  unfold dM atKey
  by_cases aq:x=k
  ·simp only[List.find?_cons,aq,decide_true,Option.map_some];exact⟨v,rfl,aU⟩
  ·simp only[List.find?_cons,aq,decide_false];exact au.get k
theorem ej.length{K:Type}{h:Heap}{I:a1}:∀{aN:List (K×D)} {al:List (K×Value)},ej h I aN al->al.length=aN.length
 |[],al,r=>by rw[show al=[]from r];rfl
 |(x,d)::bM,al,⟨v,r,a0,aU,au⟩=>by subst a0;rw[fX,fX,au.length]
theorem e9.length{K:Type}{h:Heap}{I:a1}:∀{aN:List (K×D)} {al:List (K×Addr×Value)},e9 h I aN al->al.length=aN.length
 |[],al,r=>by rw[show al=[]from r];rfl
 |(x,d)::bM,al,⟨a,v,r,a0,aU,au⟩=>by subst a0;rw[fX,fX,au.length]
theorem jo.isSome{h:Heap}{I:a1}:∀{d:Option D} {v:Option Value},jo h I d v->v.isSome=d.isSome
 |none,_,r=>by rw[show _=none from r];rfl
 |some d,_,⟨u,e,_⟩=>by rw[e];rfl
section
variable{prog:Program}{w:World}{am:Heap}{n:Nat}{aA:Scope}
theorem KY{I:a1}{C:aa}{h:Heap}{l:Nat}{xs:List (Str×D)}{v:Value}(S:St prog w am I C h)(e:ra C l=some xs)(r:Rep h I (.obj l) v):
  ∃a al,v=.ref a/\I[l]?=some a/\a∈I/\h.DictOf (strKind prog w) a al/\ej h I xs al:=by
 refine aG r λa aC aU=>?_;clear r
 unfold ra at e
 split at e
 ·rename_i bB bc
  refine c0 e λcj=>?_;clear e;subst cj
  refine aG (S.objs l a _ aC bc) λal ai ak=>?_
  exact⟨a,al,aU,aC,eN aC,ai,ak⟩
 ·exact bi e
theorem SF{I:a1}{C:aa}{h:Heap}{l:Nat}{xs:List (Int×D)}{v:Value}(S:St prog w am I C h)(e:tJ C l=some xs)(r:Rep h I (.obj l) v):
  ∃a al,v=.ref a/\I[l]?=some a/\a∈I/\h.DictOf (intKind prog w) a al/\ej h I xs al:=by
 refine aG r λa aC aU=>?_;clear r
 unfold tJ at e
 split at e
 ·rename_i bB bc
  refine c0 e λdb=>?_;clear e;subst db
  refine aG (S.objs l a _ aC bc) λal ai ak=>?_
  exact⟨a,al,aU,aC,eN aC,ai,ak⟩
 ·exact bi e
theorem EL{I:a1}{C:aa}{h:Heap}{l:Nat}{xs:List (List D×D)}{v:Value}(S:St prog w am I C h)(e:n2 C l=some xs)(r:Rep h I (.obj l) v):
  ∃a al,v=.ref a/\I[l]?=some a/\a∈I/\h.DictOfH (bm prog w) a al/\e9 h I xs al:=by
 refine aG r λa aC aU=>?_;clear r
 unfold n2 at e
 split at e
 ·rename_i bB bc
  refine c0 e λff=>?_;clear e;subst ff
  refine aG (S.objs l a _ aC bc) λal ai ak=>?_
  exact⟨a,al,aU,aC,eN aC,ai,ak⟩
 ·exact bi e
theorem St.t2{I:a1}{C:aa}{h:Heap}(S:St prog w am I C h){a:Addr}(aC:a∈I):(a==sysModules)=false:=by
 rw[beq_eq_false_iff_ne]
 rintro rfl
 have ai:3<sysModules:=(S.out _ aC).2
 exact absurd ai ag
def keyOk(ks:List D):Bool:=decide ((D.tup ks).depth<=8)&&D.da ks
theorem tK{h:Heap}{I:a1}{ks:List D}{v:Value}(aq:keyOk ks=true)(r:Rep h I (.tup ks) v):∃a,v=.ref a/\xy h ks a:=by
 simp only[keyOk,Bool.and_eq_true,iL]at aq
 refine d4 (id r) λa vs n aU av au=>?_
 subst aU
 exact⟨a,rfl,aq.1,aq.2,w8 aq.2 r⟩
def zg(a b:D):Bool:=a.cO&&b.cO&&decide (a.depth<=20)
def qY(xs bB:List D):Bool:=D.da xs&&D.da bB&&decide (D.ew xs<=20)
def ti(a b:D)(C:aa):Option Bool:=
 if zg a b=true then some (decide (a=b))else(objOf a).bind λi=>(objOf b).bind λj=>(gu C i).bind λxs=>(gu C j).bind λbB=>if qY xs bB=true then some (decide (xs=bB))else none
def intD(f:Int->Int->Bool)(a b:D):Option Bool:=(intOf a).bind λi=>(intOf b).map (f i)
def wu(a b:D)(C:aa):Option Bool:=(n3 a).bind λks=>(objOf b).bind λl=>(gu C l).bind λxs=>if qY xs ks=true then some (xs.any λx=>decide (x=.tup ks))else none
def SL(x:Str)(C:aa):D->Option Bool
 |.obj l=>(ra C l).map λaN=>(dM aN x).isSome
 |.str y=>some (Txt.contains y x)
 |_=>none
def y6(a b:D)(C:aa):Option Bool:=(n3 a).bind λks=>(objOf b).bind λl=>(n2 C l).bind λaN=>if keyOk ks=true then some (dM aN ks).isSome else none
def inD(a b:D)(C:aa):Option Bool:=match a with
 |.str x=>SL x C b
 |_=>(y6 a b C).or (wu a b C)
def he(op:CmpOp)(a b:D)(C:aa):Option Bool:=match op with
 |.Is=>if b=.none then some (decide (a=.none))else none
 |.IsNot=>if b=.none then some (!decide (a=.none))else none
 |.Lt=>intD (λa b=>decide (a<b)) a b
 |.LtE=>intD (λa b=>decide (a<=b)) a b
 |.Gt=>intD (λa b=>decide (b<a)) a b
 |.GtE=>intD (λa b=>decide (b<=a)) a b
 |.Eq=>ti a b C
 |.NotEq=>(ti a b C).map (!·)
 |.In=>inD a b C
 |.NotIn=>(wu a b C).map (!·)
theorem KL{h:Heap}{I:a1}{d:D}{v:Value}(r:Rep h I d v):(v==.none)=decide (d=.none):=by
 cases d with
 |none=>rw[show v=.none from r];exact(dT rfl).symm
 |bool b=>rw[show v=.bool b from r];exact hZ nofun
 |int i=>exact r.elim λt r=>r▸hZ nofun
 |str s=>exact r.elim λt r=>r▸hZ nofun
 |tup xs=>exact d4 r λa vs n r _ _=>r▸hZ nofun
 |obj l=>exact aG r λa _ r=>r▸hZ nofun
 |adr a=>rw[show v=.ref a from r];exact hZ nofun
theorem KH{h:Heap}{I:a1}{a:Addr}{vs:List Value}{k:Nat}{xs:List D}(av:h.get? a=some (seqObj "list" vs.toArray k)) (au:bt h I xs vs) (aq:D.da xs=true):∃as,Reads h (.ref a) (.list (D.jF xs)) as:=by
 refine a6 (Wy xs vs (zI xs aq) au) λas dR=>?_
 exact⟨_,.list av rfl rfl (by simpa using dR)⟩
theorem FI{h:Heap}{I:a1}(e:Value->Bool)(p:D->Bool):∀{xs:List D} {vs:List Value},bt h I xs vs->(∀x v,x∈xs->Rep h I x v->e v=p x)->vs.any e=xs.any p
 |[],vs,r,_=>by rw[show vs=[]from r];rfl
 |x::xs,vs,⟨v,r,aU,ar,au⟩,H=>by
  subst aU
  rw[List.any_cons,List.any_cons,H x v nc ar,FI e p au λy u bc=>H y u (nf _ bc)]
def En(h:Heap)(I:a1)(v:Value):D:=open Classical in if e:∃d:D,d.cO=true/\Rep h I d v then e.choose else .none
theorem KF{h:Heap}{I:a1}{d:D}{v:Value}(hd:d.cO=true)(r:Rep h I d v):En h I v=d:=by
 have e:∃d:D,d.cO=true/\Rep h I d v:=⟨d,hd,r⟩
 unfold En
 rw[dif_pos e]
 exact Rep.inj _ _ v e.choose_spec.1 hd (w8 e.choose_spec.1 e.choose_spec.2) (w8 hd r)
theorem aap{a:D}{l:Nat}(h:objOf a=some l){G:Prop}(k:a=.obj l->G):G:=k (m1 h)
theorem y8{f:Int->Int->Bool}{a b:D}{r:Bool}{h:Heap}{I:a1}{u v:Value}{G:Prop}(ab:intD f a b=some r)(dR:Rep h I a u)(ep:Rep h I b v)(k:∀i j t d1,u=.int i t->v=.int j d1->f i j=r->G):G:=by
 refine cI ab λi hi ab=>fC ab λj bn au=>?_
 obtain rfl:=nN hi
 obtain rfl:=nN bn
 refine a6 dR λt e=>?_;clear dR
 refine a6 ep λd1 bO=>?_;clear ep
 exact k i j t d1 e bO au
theorem G5{a b:D}{r:Bool}{C:aa}{h:Heap}{I:a1}{u v:Value}{G:Prop}(ab:ti a b C=some r)(S:St prog w am I C h)(dR:Rep h I a u)(ep:Rep h I b v)
  (k:∀x y as bs,Reads h u x as->Reads h v y bs->x.canLay0=true->y.canLay0=true->x.depth<=21->PyData.eqv x y=r->G):G:=by
 unfold ti at ab
 by_cases ax:zg a b=true
 ·rw[a3 ax]at ab
  simp only[zg,Bool.and_eq_true,iL]at ax
  refine a6 (w6 _ u (oP _ ax.1.1) dR) λas q=>?_
  refine a6 (w6 _ v (oP _ ax.1.2) ep) λbs eL=>?_
  refine k _ _ as bs q eL (u2 _ (oP _ ax.1.1)) (u2 _ (oP _ ax.1.2)) ?_ ((BA _ _ ax.1.1 ax.1.2).trans (Option.some.inj ab))
  rw[Bm _ (oP _ ax.1.1)]
  lia
 ·rw[bq ax]at ab
  clear ax
  refine cI ab λi hi ab=>cI ab λj bn ab=>cI ab λxs ar ab=>cI ab λbB bc ab=>dB ab λax a0=>?_
  clear ab
  simp only[qY,Bool.and_eq_true,iL]at ax
  obtain rfl:=m1 hi
  obtain rfl:=m1 bn
  refine hs (ik S ar dR) λpa vs e5 aS _ _ av au=>?_
  refine hs (ik S bc ep) λmB na jA bf _ _ g4 dA=>?_
  refine a6 (KH av au ax.1.1) λas q=>?_
  refine a6 (KH g4 dA ax.1.2) λbs eL=>?_
  refine k (.list (D.jF xs)) (.list (D.jF bB)) as bs (aS▸q) (bf▸eL) (Ga _ (zI xs ax.1.1)) (Ga _ (zI bB ax.1.2)) ?_ ?_
  ·rw[PyData.depth,Ou xs (zI xs ax.1.1)]
   lia
  ·rw[PyData.eqv,OX xs bB ax.1.1 ax.1.2]
   exact Option.some.inj a0
theorem IH{a b:D}{r:Bool}{C:aa}{s:Shared}{A:Around}{I:a1}{u v:Value}{G:Prop}(ab:wu a b C=some r)(a5:fa n A)(S:St prog w am I C s.heap)(dR:Rep s.heap I a u)(ep:Rep s.heap I b v)
  (k:∀l e items,v=.ref l->s.heap.IsList l items->(∀y,y∈items->SeqAt.EqAt A.in1 s y u (e y))->items.any e=r->G):G:=by
 refine cI ab λks aq ab=>cI ab λl aw ab=>cI ab λxs ar ab=>dB ab λax a0=>?_
 clear ab
 obtain rfl:=sC aq
 obtain rfl:=m1 aw
 simp only[qY,Bool.and_eq_true,iL]at ax
 refine hs (ik S ar ep) λmB vs fe e _ aR av au=>?_
 refine k mB (λy=>decide (En s.heap I y=D.tup ks)) vs.toArray e ⟨_,av,rfl,_,rfl⟩ (λy bc=>?_) ?_
 ·refine a6 (List.mem_iff_getElem.mp (List.mem_toArray.mp bc)) λi a2=>?_;refine a6 a2 λhi Rk=>?_;clear a2
  have dW:i<xs.length:=au.length▸hi
  refine aG (au.get (gz dW)) λlJ CM ky=>?_
  rw[gz hi,Rk]at CM;refine c0 CM λg6=>?_;clear CM;subst g6
  have ar:(xs[i]).cO=true:=nS (List.getElem_mem dW) ax.1.1
  rw[KF ar ky]
  refine vh ar ax.1.2 ?_ ky dR
  have:=aO (q0 (List.getElem_mem dW)) ax.2
  have:=a5.units
  show A.units+1+_<_
  lia
 ·rw[List.any_toArray,FI _ (λx=>decide (x=D.tup ks)) au λx u ar hr=>by rw[KF (nS ar ax.1.1) hr]]
  exact Option.some.inj a0
theorem SM{a b:D}{r:Bool}{C:aa}(ab:(y6 a b C).or (wu a b C)=some r){A:Around}{I:a1}{s:Shared}{u v:Value}{Q E:Value->Shared->Prop}(a5:fa n A)(S:St prog w am I C s.heap)
  (dR:Rep s.heap I a u) (ep:Rep s.heap I b v) (P:∀bm,Q (.bool r) {s with toks:=bm}):wpAny (model prog w) A (compareOp .In u v) Q E s:=by
 rcases Option.or_eq_some_iff.mp ab with ab|⟨_,ab⟩
 ·refine cI ab λks aq ab=>cI ab λl aw ab=>cI ab λaN ar ab=>dB ab λeE a0=>?_
  clear ab
  obtain rfl:=sC aq
  obtain rfl:=m1 aw
  refine aG (tK eE dR) λpa aS nQ=>?_
  refine jh (EL S ar ep) λmB al bf _ aR hd aF=>?_
  subst aS
  subst bf
  have:=a5.units
  refine wpAny_in_heap (knd:=bm prog w) (show A.units+1+8<cLine by lia) nQ (S.t2 aR) hd ?_
  rw[←Option.isSome_map (f:=(·.2)),(aF.get ks).isSome,Option.some.inj a0]
  exact P _
 ·exact IH ab a5 S dR ep λl e items ev aw a0 h=>by subst ev;exact SeqAt.in_listAt e aw a0 (h▸P _)
theorem xO{op:CmpOp}{a b:D}{r:Bool}{C:aa}(ab:he op a b C=some r){A:Around}{I:a1}{s:Shared}{u v:Value}{Q E:Value->Shared->Prop}(a5:fa n A)(S:St prog w am I C s.heap)
  (dR:Rep s.heap I a u) (ep:Rep s.heap I b v) (P:∀bm,Q (.bool r) {s with toks:=bm}):wpAny (model prog w) A (compareOp op u v) Q E s:=by
 have mA:Q (.bool r) s:=P s.toks
 have cJ:=a5.units
 cases op with
 |Is=>
  refine dB ab λh e=>?_
  subst h
  rw[show v=.none from ep]
  refine PyProof.Rows.is_none_gen ?_
  rw[KL dR,Option.some.inj e]
  exact mA
 |IsNot=>
  refine dB ab λh e=>?_
  subst h
  rw[show v=.none from ep]
  refine PyProof.Rows.isnot_none_gen ?_
  rw[KL dR,Option.some.inj e]
  exact mA
 |Lt=>exact y8 ab dR ep λi j t d1 e bO x=>by subst e;subst bO;subst x;exact PyProof.Rows.lt_int mA
 |LtE=>exact y8 ab dR ep λi j t d1 e bO x=>by subst e;subst bO;subst x;exact PyProof.Rows.le_int mA
 |Gt=>exact y8 ab dR ep λi j t d1 e bO x=>by subst e;subst bO;subst x;exact PyProof.Rows.gt_int mA
 |GtE=>exact y8 ab dR ep λi j t d1 e bO x=>by subst e;subst bO;subst x;exact PyProof.Rows.ge_int mA
 |Eq=>exact G5 ab S dR ep λx y as bs q eL c ez hd e=>SeqAt.compareEq_reads q eL c ez (by lia) (e▸mA)
 |NotEq=>
  exact fC ab λz hz dq=>G5 hz S dR ep λx y as bs q eL c ez hd e=>SeqAt.compareNe_reads q eL c ez (by lia) (by rw[e,dq];exact mA)
 |In=>
  cases a with
  |str x=>
   cases b with
   |obj l=>
    refine fC (o:=ra C l) ab λaN aq ab=>?_
    refine a6 dR λt a9=>?_;clear dR;subst a9
    refine jh (KY S aq ep) λmB al bC _ aR hd aF=>?_;subst bC
    refine wpAny_in_of (knd:=PySem.strKind prog w) (k:=x) (by simp[PySem.strKind,Value.isStrOf]) (S.t2 aR) hd.mapOf ?_
    rw[(aF.get _).isSome,ab]
    exact P _
   |str y=>
    refine c0 ab λhR=>?_;clear ab;subst hR
    refine a6 dR λt bY=>?_;clear dR;subst bY;refine a6 ep λd1 b3=>?_;clear ep;subst b3
    exact PySem.P.in_str mA
   |_=>exact bi ab
  |_=>first|cases ab|exact SM (a:=D.tup _) ab a5 S dR ep P
 |NotIn=>exact fC ab λz hz dq=>IH hz a5 S dR ep λl e items ev aw a0 h=>by subst ev;exact SeqAt.notIn_listAt e aw a0 (by rw[h,dq];exact mA)
end
section
variable{prog:Program}{w:World}{am:Heap}{n:Nat}{aA:Scope}
def cP(op:CmpOp)(f g:aY (D×aa))(m:aK)(C:aa):Option (Bool×aa):=
 (f m C).bind λx=>(g m x.2).bind λy=>(he op x.1 y.1 y.2).map (·,y.2)
noncomputable def s6(f:aY (Bool×aa))(m:aK)(C:aa):Option (D×aa):=(f m C).map λx=>(.bool x.1,x.2)
theorem eZ{l r:Expr}{op pos f g}(ai:cL prog w am n aA l f)(ak:cL prog w am n aA r g)(aR:behindInMarks op r=false):jN prog w am n aA (.Compare l [op] [r] pos) (cP op f g):=by
 intro m C d ao hf A ae I s Q E a5 F S P
 refine dw hf ?_;clear hf;intro a aB aC hf
 refine dw hf ?_;clear hf;intro b a8 ab hf
 refine fC hf ?_;clear hf;intro c ax hf
 cases hf
 refine wpAny_isTrue_Compare1 (ai m C a aB aC A ae I s _ E a5 F S λbJ u c6 b4 cy bE bu cs=>?_) aR
 refine ak m aB b a8 ab A ae bJ _ _ E a5 (F.cM S bu) bE λcG v dH cN cU cb b0 dp=>?_
 exact xO ax a5 cb (cs.cM bE b0) dp λbm=>wpAny_truthy_bool (P cG dH bm _ cb (bu.dc b0))
theorem xY{l r:Expr}{op pos f g}(ai:cL prog w am n aA l f)(ak:cL prog w am n aA r g)(aR:behindInMarks op r=false):cL prog w am n aA (.Compare l [op] [r] pos) (s6 (cP op f g)):=by
 intro m C d ao hf A ae I s Q E a5 F S P
 refine lG hf ?_;clear hf;intro ez cg vY hd
 cases hd
 replace hf:=vY
 refine dw hf ?_;clear hf;intro a aB aC hf
 refine dw hf ?_;clear hf;intro b a8 ab hf
 refine fC hf ?_;clear hf;intro c ax hf
 cases hf
 refine wpAny_Compare1 (ai m C a aB aC A ae I s _ E a5 F S λbJ u c6 b4 cy bE bu cs=>?_) aR
 refine ak m aB b a8 ab A ae bJ _ _ E a5 (F.cM S bu) bE λcG v dH cN cU cb b0 dp=>?_
 exact xO ax a5 cb (cs.cM bE b0) dp λbm=>P cG _ dH bm _ cb (bu.dc b0) rfl
noncomputable def qa(f:aY (D×aa))(m:aK)(C:aa):Option (Bool×aa):=(f m C).bind λx=>match x.1 with
 |.bool b=>some (b,x.2)
 |_=>none
theorem xX{e:Expr}{f}(h:cL prog w am n aA e f)(a0:∀ae whole,isTrue e ae whole=(do let v←whole;standAt e.pos;holding [v] (truthy v))):jN prog w am n aA e (qa f):=by
 intro m C d ao hf A ae I s Q E a5 F S P
 refine dw hf ?_;clear hf;intro a aB aC hf
 split at hf
 ·rename_i b ab
  cases (hf)
  have hO:a=.bool d:=ab
  subst hO
  refine isTrue_plain (h m C _ _ aC A ae I s _ E a5 F S λbJ u c6 b4 cy bE bu cs=>?_) (a0 _ _)
  rw[show u=.bool d from cs]
  exact wpAny_truthy_bool (P bJ c6 b4 cy bE bu)
 ·exact bi hf
noncomputable def p0(f:aY (Bool×aa))(m:aK)(C:aa):Option (Bool×aa):=(f m C).map λx=>(!x.1,x.2)
theorem Bj{x:Expr}{pos f}(h:jN prog w am n aA x f):jN prog w am n aA (.UnaryOp .Not x pos) (p0 f):=by
 intro m C d ao hf A ae I s Q E a5 F S P
 refine lG hf ?_;clear hf;intro a aB aC hf
 cases hf
 exact isTrue_not (h m C a aB aC A ae I s _ E a5 F S P)
noncomputable def rv(f g:aY (Bool×aa))(m:aK)(C:aa):Option (Bool×aa):=(f m C).bind λx=>if x.1=true then g m x.2 else some (false,x.2)
noncomputable def jC(f g:aY (Bool×aa))(m:aK)(C:aa):Option (Bool×aa):=(f m C).bind λx=>if x.1=true then some (true,x.2)else g m x.2
noncomputable def ef(_:aK)(C:aa):Option (Bool×aa):=some (true,C)
noncomputable def qA(_:aK)(C:aa):Option (Bool×aa):=some (false,C)
theorem Gu{pos}:jN prog w am n aA (.BoolOp .And [] pos) ef:=by
 intro m C d ao hf A ae I s Q E a5 F S P
 refine ds hf λa2 bC=>?_;clear hf;subst a2;subst bC
 exact isTrue_and_nil (P I s.heap s.toks _ S .refl)
theorem xW{pos}:jN prog w am n aA (.BoolOp .Or [] pos) qA:=by
 intro m C d ao hf A ae I s Q E a5 F S P
 refine ds hf λb3 cj=>?_;clear hf;subst b3;subst cj
 exact isTrue_or_nil (P I s.heap s.toks _ S .refl)
theorem u6{x:Expr}{xs pos f g}(h:jN prog w am n aA x f)(af:jN prog w am n aA (.BoolOp .And xs pos) g):jN prog w am n aA (.BoolOp .And (x::xs) pos) (rv f g):=by
 intro m C d ao hf A ae I s Q E a5 F S P
 refine dw hf ?_;clear hf;intro a aB aC hf
 refine isTrue_and (h m C a aB aC A ae I s _ E a5 F S λbJ c6 b4 cy bE bu=>?_)
 cases a with
 |true=>exact af m aB d ao hf A ae bJ _ _ E a5 (F.cM S bu) bE λcG dH cN cU cb b0=>P cG dH cN cU cb (bu.dc b0)
 |false=>refine ds hf λcQ db=>?_;clear hf;subst cQ;subst db;exact P bJ c6 b4 cy bE bu
theorem qu{x:Expr}{xs pos f g}(h:jN prog w am n aA x f)(af:jN prog w am n aA (.BoolOp .Or xs pos) g):jN prog w am n aA (.BoolOp .Or (x::xs) pos) (jC f g):=by
 intro m C d ao hf A ae I s Q E a5 F S P
 refine dw hf ?_;clear hf;intro a aB aC hf
 refine isTrue_or (h m C a aB aC A ae I s _ E a5 F S λbJ c6 b4 cy bE bu=>?_)
 cases a with
 |false=>exact af m aB d ao hf A ae bJ _ _ E a5 (F.cM S bu) bE λcG dH cN cU cb b0=>P cG dH cN cU cb (bu.dc b0)
 |true=>refine ds hf λeF ff=>?_;clear hf;subst eF;subst ff;exact P bJ c6 b4 cy bE bu
noncomputable def xG(f g:aY (D×aa))(m:aK)(C:aa):Option (D×aa):=(f m C).bind λx=>match x.1 with
 |.bool true=>g m x.2
 |.bool false=>some (.bool false,x.2)
 |_=>none
theorem Gw{x y:Expr}{pos f g}(h:cL prog w am n aA x f)(af:cL prog w am n aA y g):cL prog w am n aA (.BoolOp .And [x,y] pos) (xG f g):=by
 intro m C d ao hf A ae I s Q E a5 F S P
 refine dw hf ?_;clear hf;intro a aB aC hf
 refine BoolOp_and (h m C a aB aC A ae I s _ E a5 F S λbJ u c6 b4 cy bE bu cs=>?_)
 split at hf
 ·rename_i ab
  have hO:a=.bool true:=ab
  subst hO
  rw[show u=.bool true from cs]
  exact wpAny_truthy_bool (BoolOp_one (af m aB d ao hf A ae bJ _ _ E a5 (F.cM S bu) bE λcG v dH cN cU cb b0 dp=>P cG v dH cN cU cb (bu.dc b0) dp))
 ·rename_i ab
  have hO:a=.bool false:=ab
  subst hO
  refine ds hf λfq g6=>?_;clear hf;subst fq;subst g6
  rw[show u=.bool false from cs]
  exact wpAny_truthy_bool (P bJ _ c6 b4 cy bE bu rfl)
 ·exact bi hf
noncomputable def j5(c:aY (Bool×aa))(f g:aY (D×aa))(m:aK)(C:aa):Option (D×aa):=(c m C).bind λx=>if x.1=true then f m x.2 else g m x.2
theorem td{t b o:Expr}{pos c f g}(h:jN prog w am n aA t c)(ai:cL prog w am n aA b f)(ak:cL prog w am n aA o g):cL prog w am n aA (.IfExp t b o pos) (j5 c f g):=by
 intro m C d ao hf A ae I s Q E a5 F S P
 refine dw hf ?_;clear hf;intro a aB aC hf
 refine IfExp_ (h m C a aB aC A ae I s _ E a5 F S λbJ c6 b4 cy bE bu=>?_)
 cases a with
 |true=>exact ai m aB d ao hf A ae bJ _ _ E a5 (F.cM S bu) bE λcG v dH cN cU cb b0 dp=>P cG v dH cN cU cb (bu.dc b0) dp
 |false=>exact ak m aB d ao hf A ae bJ _ _ E a5 (F.cM S bu) bE λcG v dH cN cU cb b0 dp=>P cG v dH cN cU cb (bu.dc b0) dp
def A8(iZ ip:CmpOp)(f g k:aY (D×aa))(m:aK)(C:aa):Option (Bool×aa):=
 (f m C).bind λx=>(g m x.2).bind λy=>(he iZ x.1 y.1 y.2).bind λc=>if c=true then(k m y.2).bind λz=>(he ip y.1 z.1 z.2).map (·,z.2)else some (false,y.2)
theorem Oq{a b c:Expr}{iZ ip pos f g k}(ai:cL prog w am n aA a f)(ak:cL prog w am n aA b g)(aV:cL prog w am n aA c k)(aR:lastMarks [iZ,ip] [b,c]=false):
  jN prog w am n aA (.Compare a [iZ,ip] [b,c] pos) (A8 iZ ip f g k):=by
 intro m C d ao hf A ae I s Q E a5 F S P
 refine dw hf ?_;clear hf;intro x aB aC hf
 refine dw hf ?_;clear hf;intro y a8 ab hf
 refine cI hf ?_;clear hf;intro q aL hf
 refine isTrue_chain (ai m C x aB aC A ae I s _ E a5 F S λbJ u c6 b4 cy bE bu cs=>?_) aR
 refine test_link (ak m aB y a8 ab A ae bJ _ _ E a5 (F.cM S bu) bE λcG v dH cN cU cb b0 dp=>?_)
 refine xO aL a5 cb (cs.cM bE b0) dp λbm=>wpAny_truthy_bool ?_
 cases q with
 |false=>
  refine ds hf λhq hR=>?_;clear hf;subst hq;subst hR
  exact P cG dH bm cU cb (bu.dc b0)
 |true=>
  simp only[if_true]at hf⊢
  refine dw hf ?_;clear hf;intro z cg hz hf
  refine fC hf ?_;clear hf;intro a9 RZ hf
  cases hf
  refine test_last (aV m a8 z _ hz A ae cG {s with heap:=dH,toks:=bm,drawn:=_} _ E a5 ((F.cM S bu).cM bE b0) cb λjL i5 tL jG jI eR fJ mr=>?_)
  exact xO RZ a5 eR (dp.cM cb fJ) mr λgG=>wpAny_truthy_bool (P jL tL gG _ eR ((bu.dc b0).dc fJ))
end
end
section
open PySem PySem.W PyProof.Rows PySem.Calls Builtin Builtin.ObjectAttr
noncomputable def attrOk(K:Frag)(bI:Addr)(name:Str):Bool:=plainGet K bI name&&hasDictIn K bI&&(match findIn K (.ref bI) name with|some attr=>noGet K attr|none=>false)
noncomputable def setOk(K:Frag)(bI:Addr)(name:Str):Bool:=findIn K (.ref bI) "__setattr__"==some (some (.builtin "object.__setattr__"))&&plainOver K bI&&takerIn K bI name==some none&&hasDictIn K bI
noncomputable def hA(K:Frag)(bI:Addr)(name:Str)(f:Addr):Bool:=plainGet K bI name&&findIn K (.ref bI) name==some (some (.ref f))&&isFn K (.ref f)
section
variable{prog:Program}{w:World}{am:Heap}{n:Nat}{aA:Scope}{K:Frag}
theorem CT{h:Heap}{x bI iB:Addr}{al:List DictEntry}{k:Nat}(ar:h.get? x=some (instObj bI iB))(hd:h.get? iB=some (dictOf al k)):W.InstAt h x (instObj bI iB) bI (some (dictOf al k)):=
 ⟨ar,rfl,rfl,hd⟩
theorem Ku(name:Str)(y0:Int)(key v:Value):∀al:List DictEntry,(putL name y0 key v al).length<=al.length+1
 |[]=>by simp[putL]
 |e::r=>by
  have:=Ku name y0 key v r
  unfold putL;split<;>simp only[fX]<;>lia
theorem Xp{A:Around}{E:Value->Shared->Prop}{s:Shared}{x bI iB:Addr}{al:List DictEntry}{k:Nat}{name:Str}{v:Value}{Q:Unit->Shared->Prop}(X:K.In s.heap)(ar:s.heap.get? x=some (instObj bI iB))
  (hd:s.heap.get? iB=some (dictOf al k)) (eE:setOk K bI name=true) (aw:(getL name al).isSome=true) (hz:al.length<=900)
  (h:Q () {s with heap:=s.heap.update iB (Obj.putName name (PyData.keyHash w.params name) (.str name (s.toks+1)) v),toks:=s.toks+1+1}):wpAny (model prog w) A (setAttr (.ref x) name v) Q E s:=by
 simp only[setOk,Bool.and_eq_true,beq_iff_eq]at eE
 refine bU eE λbC bL=>?_;clear eE;refine bU bC λbY aV=>?_;clear bC;refine bU bY λai ak=>?_;clear bY
 have aM:=CT ar hd
 refine set_plain X aM ai (osa_open (s:={s with toks:=s.toks+1}) X aM ak aV λb=>?_)
 refine aG (any_some bL) λcd ax cW=>?_
 refine aI (bj (aI (aI (wpAny_loadPart ar (aI ((looks_clsIn X ax).at ?_))))))
 rw[cW]
 refine bj (a:=some iB) (aI (bj (aI ?_)))
 unfold nsSet
 refine aI (aI (wpAny_askSetting (bj (aI (wpAny_mkText (aI (wpAny_loadPart hd ?_)))))))
 have c:(!(al.toArray).any (·.key.isStr name)&&(al.toArray).any (·.refKey))=false:=by
  rw[List.any_toArray,List.any_toArray]
  unfold getL at aw
  split at aw
  ·rename_i eS a0
   rw[List.any_eq_true.mpr ⟨eS,List.mem_of_find?_eq_some a0,List.find?_some a0⟩];rfl
  ·split at aw
   ·exact hM aw
   ·rename_i z;rw[Bool.not_eq_true]at z;rw[z,Bool.and_false]
 dsimp only
 rw[aRefKeyMayBeTheName_at,c]
 refine wpAny_updatePart hd ?_
 have hf:(Obj.putName name (PyData.keyHash w.params name) (.str name (s.toks+1)) v (dictOf al k)).isFreed=false:=by rw[putName_dict];rfl
 have mL:=Heap.get?_update_self (h:=s.heap) (Obj.putName name (PyData.keyHash w.params name) (.str name (s.toks+1)) v) hd hf
 have cZ:=Ku name (PyData.keyHash w.params name) (.str name (s.toks+1)) v al
 refine aI (wpAny_lookBehind mL (by rw[putName_dict];exact pastItsLine_dict (by rw[hb,sizeLine_eq];lia)) ?_)
 exact bj h
theorem h9.getL{h:Heap}{I:a1}{name:Str}:∀{bM:List (Str×D)} {al:List DictEntry},h9 h I bM al->∃o,PySem.W.getL name al=some o/\jo h I (bM.lookup name) o/\al.any (·.refKey)=false
 |[],al,r=>by rw[show al=[]from r];exact⟨none,rfl,rfl,rfl⟩
 |(x,d)::bM,al,⟨e,r,a0,⟨t,aq⟩,aU,au⟩=>by
  subst a0
  refine eB (h9.getL (name:=name) au) λo ai ak aV=>?_
  have R5:e.refKey=false:=by simp[DictEntry.refKey,aq]
  have B8:(e::r).any (·.refKey)=false:=by rw[List.any_cons,R5,aV];rfl
  unfold PySem.W.getL
  by_cases ar:x=name
  ·subst ar
   have:e.key.isStr x=true:=by rw[aq];simp[Value.isStr]
   refine⟨some e.val,by simp only[List.find?_cons,this],?_,B8⟩
   rw[gV,beq_self_eq_true]
   exact⟨_,rfl,aU⟩
  ·have ab:e.key.isStr name=false:=by rw[aq];simp[Value.isStr,ar]
   have hO:(name==x)=false:=by rw[beq_eq_false_iff_ne];exactλq=>ar q.symm
   refine⟨o,?_,by rw[gV,hO];exact ak,B8⟩
   unfold PySem.W.getL at ai
   simp only[List.find?_cons,ab,B8,hV,if_false]
   rw[aV]at ai
   simpa using ai
noncomputable def w0(bM:List (Str×D))(name:Str)(d:D):List (Str×D):=match bM with
 |[]=>[(name,d)]
 |(x,e)::r=>if x=name then(x,d)::r else(x,e)::w0 r name d
theorem h9.put{h:Heap}{I:a1}{name:Str}{d:D}{v:Value}{y0:Int}{t:Tok}(b7:Rep h I d v):∀{bM:List (Str×D)} {al:List DictEntry},h9 h I bM al->h9 h I (w0 bM name d) (putL name y0 (.str name t) v al)
 |[],al,r=>by rw[show al=[]from r];exact⟨_,[],rfl,⟨t,rfl⟩,b7,rfl⟩
 |(x,e)::bM,al,⟨eS,r,a0,⟨d1,aq⟩,aU,au⟩=>by
  subst a0
  unfold w0 putL
  by_cases ar:x=name
  ·subst ar
   have:eS.key.isStr x=true:=by rw[aq];simp[Value.isStr]
   rw[a3 rfl,this,a3 rfl]
   exact⟨_,r,rfl,⟨d1,aq⟩,b7,au⟩
  ·have ab:eS.key.isStr name=false:=by rw[aq];simp[Value.isStr,ar]
   rw[bq ar,ab]
   exact⟨eS,_,rfl,⟨d1,aq⟩,aU,h9.put b7 au⟩
theorem h9.length{h:Heap}{I:a1}:∀{bM:List (Str×D)} {al:List DictEntry},h9 h I bM al->al.length=bM.length
 |[],al,r=>by rw[show al=[]from r];rfl
 |(x,d)::bM,al,⟨v,r,a0,_,aU,au⟩=>by subst a0;rw[fX,fX,au.length]
noncomputable def SR(p:bG):Option (Addr×Nat):=match p with
 |.inst bI l=>some (bI,l)
 |_=>none
noncomputable def Vi(p:bG):Option (List (Str×D)):=match p with
 |.ns bM=>some bM
 |_=>none
def hy(C:aa)(bI:Addr)(l:Nat):Option (Nat×List (Str×D)):=(C[l]?).bind λp=>(SR p).bind λq=>if q.1=bI then(C[q.2]?).bind λr=>(Vi r).map λbM=>(q.2,bM)else none
theorem CU{I:a1}{C:aa}{h:Heap}{bI:Addr}{l fT:Nat}{bM:List (Str×D)}{v:Value}(S:St prog w am I C h)(e:hy C bI l=some (fT,bM))(r:Rep h I (.obj l) v):
  ∃a iB al k,v=.ref a/\I[fT]?=some iB/\h.get? a=some (instObj bI iB)/\h.get? iB=some (dictOf al k)/\h9 h I bM al:=by
 refine aG r λa aC aU=>?_;clear r
 refine cI e λp aw e=>cI e λq aL e=>dB e λjZ e=>cI e λn iT e=>fC e λvt aH e=>?_
 cases p with
 |inst Zs wI=>
  cases n with
  |ns ZI=>
   cases aL
   cases aH
   cases e
   refine aG (S.objs l a _ aC aw) λiB vX av=>dv (S.objs _ iB _ vX iT) λal k ai ak=>?_
   exact⟨a,iB,al,k,aU,vX,jZ▸av,ai,ak⟩
  |_=>exact bi aH
 |_=>exact bi aL
theorem WC{h:Heap}{I:a1}{d:D}{v:Value}(r:Rep h I d v):handedIn v=true:=by
 cases d with
 |none=>rw[show v=.none from r];rfl
 |bool b=>rw[show v=.bool b from r];rfl
 |int i=>refine a6 r λt b3=>?_;clear r;subst b3;rfl
 |str s=>refine a6 r λt cj=>?_;clear r;subst cj;rfl
 |tup xs=>refine iw r λa vs n cA _=>?_;clear r;subst cA;rfl
 |obj l=>refine aG r λa _ cQ=>?_;clear r;subst cQ;rfl
 |adr a=>rw[show v=.ref a from r];rfl
def HB(bI:Addr)(name:Str)(d:D)(C:aa):Option D:=match d with
 |.obj l=>(hy C bI l).bind λp=>p.2.lookup name
 |_=>none
theorem P4{bI:Addr}{name:Str}{d e:D}{C:aa}(av:HB bI name d C=some e){A:Around}{I:a1}{s:Shared}{v:Value}{b:Bool}{Q E:Value->Shared->Prop}(X:K.In am)(eE:attrOk K bI name=true)
  (S:St prog w am I C s.heap) (r:Rep s.heap I d v) (P:∀u bm,Rep s.heap I e u->Q u {s with toks:=bm}):wpAny (model prog w) A (getAttr v name b) Q E s:=by
 cases d with
 |obj l=>
  refine dw av ?_;clear av;intro fT bM hi aw
  refine xn (CU S hi r) λa iB al k db ai ak aV bL=>?_;subst db
  refine eB (bL.getL (name:=name)) λo a2 a9 _=>?_
  rw[show bM.lookup name=some e from aw]at a9
  refine aG a9 λu d0 cR=>?_;clear a9;subst d0
  simp only[attrOk,Bool.and_eq_true]at eE
  refine bU eE λeF sr=>?_;clear eE;refine bU eF λiZ ip=>?_;clear eF
  split at sr
  ·rename_i attr QK
   exact get_value (X.keeps S.keep) (CT ak aV) (plainGet_of iZ).1 (findObj_own ip QK sr a2) (WC cR) (P u _ cR)
  ·exact hM sr
 |_=>exact bi av
def cn(bI:Addr)(name:Str)(f:aY (D×aa))(m:aK)(C:aa):Option (D×aa):=(f m C).bind λx=>(HB bI name x.1 x.2).map (·,x.2)
theorem dZ(bI:Addr){o:Expr}{name:Str}{pos f}(X:K.In am)(eE:attrOk K bI name=true)(h:cL prog w am n aA o f)
  (a0:∀ae,eval (.Attribute o name pos) ae=(do
    let v←eval o ae
    standAt pos.atName
    let r←holding [v] (getAttr v name true)
    letTemporaryGo o v r
    pure r)):cL prog w am n aA (.Attribute o name pos) (cn bI name f):=by
 intro m C d ao hf A ae I s Q E a5 F S P
 refine dw hf ?_;clear hf;intro a aB aC hf
 refine fC hf ?_;clear hf;intro e r0 hf
 cases hf
 refine Attribute_any_ (h m C a _ aC A ae I s _ E a5 F S λbJ u c6 b4 cy bE bu cs=>?_) (a0 ae)
 exact P4 r0 X eE bE cs λv bm b7=>P bJ v c6 bm _ bE bu b7
def Ev(bI:Addr)(name:Str)(d e:D)(C:aa):Option aa:=match d with
 |.obj l=>(hy C bI l).bind λp=>if p.2.length<=900 then some (C.set p.1 (.ns (w0 p.2 name e)))else none
 |_=>none
theorem Xf{bI:Addr}{name:Str}{d e:D}{C ao:aa}(av:Ev bI name d e C=some ao){A:Around}{I:a1}{s:Shared}{v u:Value}{E:Value->Shared->Prop}{Q:Unit->Shared->Prop}(X:K.In am)(eE:setOk K bI name=true)
  (S:St prog w am I C s.heap) (r:Rep s.heap I d v) (cR:Rep s.heap I e u) (P:∀af bm ct,St prog w am I ao af->fk I s.heap I af->Q () {s with heap:=af,toks:=bm,drawn:=ct}):wpAny (model prog w) A (setAttr v name u) Q E s:=by
 cases d with
 |obj l=>
  refine dw av ?_;clear av;intro fT bM hi aw
  refine dB aw ?_;clear aw;intro hz aw
  refine c0 aw λfg=>?_;clear aw;subst fg
  refine xn (CU S hi r) λa iB al k ff ai ak aV bL=>?_;subst ff
  refine eB (bL.getL (name:=name)) λo a2 a9 _=>?_
  have gQ:iB∈I:=eN ai
  refine Xp (X.keeps S.keep) ak aV eE (by rw[a2];rfl) (by rw[bL.length];exact hz) ?_
  have hf:(Obj.putName name (PyData.keyHash w.params name) (.str name (s.toks+1)) u (dictOf al k)).isFreed=false:=by rw[putName_dict];rfl
  have mL:=Heap.get?_update_self (h:=s.heap) (Obj.putName name (PyData.keyHash w.params name) (.str name (s.toks+1)) u) aV hf
  have ex:Ext (· =iB) I s.heap I (s.heap.update iB (Obj.putName name (PyData.keyHash w.params name) (.str name (s.toks+1)) u)):=Ext.ml (jK ..) mL
  rw[putName_dict]at mL
  refine P _ _ _ (S.mut ai ex ⟨_,_,mL,?_⟩) (ex.weaken λb ab=>by subst ab;exact gQ)
  exact((bL.put cR).ext (S.pq gQ) ex)
 |_=>exact bi av
end
end
section
open PySem PySem.W PyProof.Rows PySem.Calls
section
variable{prog:Program}{w:World}{am:Heap}{n:Nat}{aA:Scope}{K:Frag}
noncomputable def wH(xs:List D)(k:Int):Option D:=if 0<=k then(if k<2^62 then xs[k.toNat]? else none)else(if-(xs.length:Int)<=k/\-(2^62)<=k then xs[(k+xs.length).toNat]? else none)
def zJ(i:D)(p:bG):Option D:=match p with
 |.list xs=>(intOf i).bind (wH xs)
 |.gR aN=>(intOf i).bind (dM aN)
 |.ee aN=>(strOf i).bind (dM aN)
 |.du aN=>(n3 i).bind λks=>if keyOk ks=true then dM aN ks else none
 |_=>none
def iW(o i:D)(C:aa):Option D:=match o with
 |.tup xs=>(intOf i).bind λk=>if 0<=k/\k<2^62 then xs[k.toNat]? else none
 |.obj l=>(C[l]?).bind (zJ i)
 |.str x=>(intOf i).bind λk=>if 0<=k/\k<2^62 then(x.cps[k.toNat]?).map λc=>.str ⟨#[c]⟩else none
 |_=>none
theorem K1{k:Int}{n:Nat}(bV:0<=k)(h:k.toNat<n):seqIndex? k n=some k.toNat:=by
 unfold seqIndex?
 have ai:¬k<0:=by lia
 simp only[ai,if_false]
 rw[a3 (by simp only[Bool.and_eq_true,iL];lia)]
theorem SZ{o i e:D}{C:aa}(av:iW o i C=some e){value slice:Expr}{A:Around}{I:a1}{s:Shared}{u v:Value}{Q E:Value->Shared->Prop}(a5:fa n A)(S:St prog w am I C s.heap)(r:Rep s.heap I o u)(eG:Rep s.heap I i v)
  (aZ:∀u v,subscripted slice false u v=operate [u,v] (getItem u v)) (P:∀x bm,Rep s.heap I e x->Q x {s with toks:=bm}):wpAny (model prog w) A (subscriptTail value slice u v) Q E s:=by
 have cJ:=a5.units
 cases o with
 |tup xs=>
  refine cI (o:=intOf i) av λk hi aL=>dB aL λaq aL=>?_
  obtain rfl:=nN hi
  refine a6 eG λt e=>?_;clear eG
  refine d4 r λa vs c bO df au=>?_;clear r
  refine aG (au.get aL) λx ar hr=>?_
  subst e
  subst bO
  have cz:=(e4.mp ar).1
  exact tail_any ⟨_,df,rfl⟩ slot_tuple_getitem.lookup (PySem.P.getItem_tuple (items:=vs.toArray) (n:=c) df (by lia) (by lia) (K1 aq.1 (hb▸cz)) (List.getElem?_toArray.trans ar) (P x s.toks hr)) (aZ _ _)
 |obj l=>
  refine aG r λa gd e=>?_;clear r
  subst e
  refine cI av λp aF aL=>?_
  have iu:=S.objs l a p gd aF
  cases p with
  |list xs=>
   refine cI (o:=intOf i) aL λk hi au=>?_
   obtain rfl:=nN hi
   refine a6 eG λt e=>?_;clear eG
   subst e
   refine dv iu λvs c df aU=>?_;clear iu
   have dQ:s.heap.IsList a vs.toArray:=⟨_,df,rfl,_,rfl⟩
   refine oJ au (λaq au=>dB au λeQ au=>?_) λaq au=>dB au λeQ au=>?_
   ·refine aG (aU.get au) λx ar hr=>?_
    exact tail_any dQ.typeIs slot_list_getitem.lookup (wpAny_getItem_list dQ aq (by lia) (List.getElem?_toArray.trans ar) (P x s.toks hr)) (aZ _ _)
   ·refine aG (aU.get au) λx ar hr=>?_
    exact tail_any dQ.typeIs slot_list_getitem.lookup (wpAny_getItem_list_neg dQ (by lia) (by rw[hb,aU.length];exact eQ.1) (by lia) (by rw[hb,aU.length];exact List.getElem?_toArray.trans ar) (P x s.toks hr)) (aZ _ _)
  |gR aN=>
   refine cI (o:=intOf i) aL λk hi au=>?_
   obtain rfl:=nN hi
   refine a6 eG λt e=>?_;clear eG
   subst e
   refine aG iu λal hd aF=>?_;clear iu
   have q:=aF.get k
   rw[au]at q
   refine aG q λx ar hr=>?_;clear q
   exact tail_any hd.typeIs slot_dict_getitem.lookup (wpAny_getItem_of (knd:=intKind prog w) (k:=k) (by simp[intKind,Value.isInt]) hd.mapOf ar (P x _ hr)) (aZ _ _)
  |ee aN=>
   refine cI (o:=strOf i) aL λx hi au=>?_
   obtain rfl:=z5 hi
   refine a6 eG λt e=>?_;clear eG
   subst e
   refine aG iu λal hd aF=>?_;clear iu
   have q:=aF.get x
   rw[au]at q
   refine aG q λy bc ky=>?_;clear q
   exact tail_any hd.typeIs slot_dict_getitem.lookup (wpAny_getItem_of (knd:=PySem.strKind prog w) (k:=x) (by simp[PySem.strKind,Value.isStrOf]) hd.mapOf bc (P y _ ky)) (aZ _ _)
  |du aN=>
   refine cI (o:=n3 i) aL λks hi au=>dB au λeE au=>?_
   obtain rfl:=sC hi
   refine aG (tK eE eG) λpa e nQ=>?_
   subst e
   refine aG iu λal hd aF=>?_;clear iu
   have q:=aF.get ks
   rw[au]at q
   refine aG q λy bc ky=>?_;clear q
   refine fC bc λp d7 e=>?_
   subst e
   refine d4 (id hd) λgh _ _ hv qJ _=>?_
   exact tail_any ⟨gh,hv,qJ.1⟩ slot_dict_getitem.lookup (wpAny_getItem_heap (knd:=bm prog w) (show A.units+1+8<cLine by lia) nQ hd d7 (P _ _ ky)) (aZ _ _)
  |_=>exact bi aL
 |str x=>
  refine cI (o:=intOf i) av λk hi aL=>dB aL λaq aL=>fC aL λc ax e=>?_
  obtain rfl:=nN hi
  refine a6 r λt e=>?_;clear r
  refine a6 eG λd1 bO=>?_;clear eG
  subst e
  subst bO
  subst e
  have cz:=(Array.getElem?_eq_some_iff.mp ax).1
  exact tail_any (typeIs_str s x t) slot_str_getitem.lookup (PyProof.Rows.getItem_str (c:=c) (by rw[fu (by lia),fu (by lia)];rfl) (by rw[show seqIndex? k x.length=some k.toNat from K1 aq.1 cz];exact ax) (P _ _ ⟨_,rfl⟩)) (aZ _ _)
 |_=>exact bi av
def bX(f g:aY (D×aa))(m:aK)(C:aa):Option (D×aa):=(f m C).bind λx=>(g m x.2).bind λy=>(iW x.1 y.1 y.2).map (·,y.2)
theorem cV{o i:Expr}{pos f g}(ai:cL prog w am n aA o f)(ak:cL prog w am n aA i g)(aZ:∀u v,subscripted i false u v=operate [u,v] (getItem u v)):cL prog w am n aA (.Subscript o i pos) (bX f g):=by
 intro m C d ao hf A ae I s Q E a5 F S P
 refine dw hf ?_;clear hf;intro a aB aC hf
 refine dw hf ?_;clear hf;intro b a8 ab hf
 refine fC hf ?_;clear hf;intro c ax hf
 cases hf
 refine Subscript_ (ai m C a aB aC A ae I s _ E a5 F S λbJ u c6 b4 cy bE bu cs=>?_)
 refine ak m aB b _ ab A ae bJ _ _ E a5 (F.cM S bu) bE λcG v dH cN cU cb b0 dp=>?_
 exact SZ ax a5 cb (cs.cM bE b0) dp aZ λx bm hr=>P cG x dH bm _ cb (bu.dc b0) hr
noncomputable def putK{K:Type}[DecidableEq K](aN:List (K×D))(k:K)(d:D):List (K×D):=if(aN.any λp=>decide (p.1=k))=true then aN.map (λp=>if p.1=k then(p.1,d)else p)else aN++[(k,d)]
def Kl(i e:D)(p:bG):Option bG:=match p with
 |.list xs=>(intOf i).bind λk=>if 0<=k/\k<xs.length/\k<2^62 then some (.list (xs.set k.toNat e))else none
 |.gR aN=>(intOf i).bind λk=>if aN.length<=lim then some (.gR (putK aN k e))else none
 |.ee aN=>(strOf i).bind λk=>if aN.length<=lim then some (.ee (putK aN k e))else none
 |.du aN=>(n3 i).bind λks=>if keyOk ks=true/\aN.length<=lim then some (.du (putK aN ks e))else none
 |_=>none
def n0(o i e:D)(C:aa):Option aa:=(objOf o).bind λl=>(C[l]?).bind λp=>(Kl i e p).map (C.set l)
end
theorem ej.append{K:Type}{h:Heap}{I:a1}{k:K}{d:D}{v:Value}(b7:Rep h I d v):∀{aN:List (K×D)} {al:List (K×Value)},ej h I aN al->ej h I (aN++[(k,d)]) (al++[(k,v)])
 |[],al,r=>by rw[show al=[]from r];exact⟨v,[],rfl,b7,rfl⟩
 |(x,e)::bM,al,⟨u,r,a0,aU,au⟩=>by subst a0;exact⟨u,_,rfl,aU,ej.append b7 au⟩
theorem e9.append{K:Type}{h:Heap}{I:a1}{k:K}{a:Addr}{d:D}{v:Value}(b7:Rep h I d v):∀{aN:List (K×D)} {al:List (K×Addr×Value)},e9 h I aN al->e9 h I (aN++[(k,d)]) (al++[(k,a,v)])
 |[],al,r=>by rw[show al=[]from r];exact⟨a,v,[],rfl,b7,rfl⟩
 |(x,e)::bM,al,⟨b,u,r,a0,aU,au⟩=>by subst a0;exact⟨b,u,_,rfl,aU,e9.append b7 au⟩
theorem ej.map{K:Type}[DecidableEq K]{h:Heap}{I:a1}{k:K}{d:D}{v:Value}(b7:Rep h I d v):∀{aN:List (K×D)} {al:List (K×Value)},ej h I aN al->
  ej h I (aN.map λp=>if p.1=k then(p.1,d)else p) (al.map λC9=>if C9.1=k then(C9.1,v)else C9)
 |[],al,r=>by rw[show al=[]from r];exact rfl
 |(x,e)::bM,al,⟨u,r,a0,aU,au⟩=>by
  subst a0
  by_cases ar:x=k
  ·simp only[gm,ar,if_true];exact⟨v,_,rfl,b7,ej.map b7 au⟩
  ·simp only[gm,ar,if_false];exact⟨u,_,rfl,aU,ej.map b7 au⟩
theorem e9.map{K:Type}[DecidableEq K]{h:Heap}{I:a1}{k:K}{d:D}{v:Value}(b7:Rep h I d v):∀{aN:List (K×D)} {al:List (K×Addr×Value)},e9 h I aN al->
  e9 h I (aN.map λp=>if p.1=k then(p.1,d)else p) (al.map (putAt k v))
 |[],al,r=>by rw[show al=[]from r];exact rfl
 |(x,e)::bM,al,⟨b,u,r,a0,aU,au⟩=>by
  subst a0
  by_cases ar:x=k
  ·simp only[gm,ar,if_true,putAt];exact⟨b,v,_,rfl,b7,e9.map b7 au⟩
  ·simp only[gm,ar,if_false,putAt];exact⟨b,u,_,rfl,aU,e9.map b7 au⟩
theorem ej.any{K:Type}[DecidableEq K]{h:Heap}{I:a1}(k:K):∀{aN:List (K×D)} {al:List (K×Value)},ej h I aN al->(al.any λp=>decide (p.1=k))=(aN.any λp=>decide (p.1=k))
 |[],al,r=>by rw[show al=[]from r];rfl
 |(x,e)::bM,al,⟨u,r,a0,aU,au⟩=>by subst a0;rw[List.any_cons,List.any_cons,ej.any k au]
theorem e9.any{K:Type}[DecidableEq K]{h:Heap}{I:a1}(k:K):∀{aN:List (K×D)} {al:List (K×Addr×Value)},e9 h I aN al->(al.any λp=>decide (p.1=k))=(aN.any λp=>decide (p.1=k))
 |[],al,r=>by rw[show al=[]from r];rfl
 |(x,e)::bM,al,⟨b,u,r,a0,aU,au⟩=>by subst a0;rw[List.any_cons,List.any_cons,e9.any k au]
theorem ej.put{K:Type}[DecidableEq K]{h:Heap}{I:a1}{k:K}{d:D}{v:Value}{aN:List (K×D)}{al:List (K×Value)}(r:ej h I aN al)(b7:Rep h I d v):ej h I (putK aN k d) (stored al k v):=by
 unfold putK stored
 rw[←r.any k]
 split
 ·exact r.map b7
 ·exact r.append b7
theorem FP{K:Type}[DecidableEq K](k:K):∀al:List (K×Addr×Value),(atKey al k).isSome=al.any λp=>decide (p.1=k)
 |[]=>rfl
 |x::r=>by
  have aE:=FP k r
  unfold atKey at aE⊢
  by_cases ar:x.1=k
  ·simp[ar]
  ·simp only[List.find?_cons,ar,decide_false,List.any_cons,Bool.false_or];exact aE
theorem e9.put{K:Type}[DecidableEq K]{h:Heap}{I:a1}{k:K}{a:Addr}{d:D}{v:Value}{aN:List (K×D)}{al:List (K×Addr×Value)}(r:e9 h I aN al)(b7:Rep h I d v):e9 h I (putK aN k d) (storedH al k a v):=by
 unfold putK storedH
 rw[FP,r.any k]
 split
 ·exact r.map b7
 ·exact r.append b7
section
variable{prog:Program}{w:World}{am:Heap}{n:Nat}{aA:Scope}{K:Frag}
theorem zw{I:a1}{C:aa}{h af:Heap}{l:Nat}{a:Addr}{xs:List D}{vs:List Value}{k:Nat}(S:St prog w am I C h)(aw:I[l]?=some a)(aZ:Heap.SameBut a h af)(av:af.get? a=some (seqObj "list" vs.toArray k)) (r:bt h I xs vs):
  St prog w am I (C.set l (.list xs)) af/\fk I h I af:=by
 have aR:=eN aw
 have ex:Ext (· =a) I h I af:=Ext.ml aZ av
 exact⟨S.mut aw ex ⟨vs,k,av,bt.ext (S.pq aR) ex _ _ r⟩,ex.weaken λb ab=>by subst ab;exact aR⟩
theorem uo{h:Heap}{a:Addr}{vs:List Value}{k:Nat}(f:Array Value->Array Value)(us:List Value)(av:h.get? a=some (seqObj "list" vs.toArray k)) (hf:f vs.toArray=us.toArray):∃bZ,(h.update a (Obj.mapSeq f)).get? a=some (seqObj "list" us.toArray bZ):=by
 refine⟨if(f vs.toArray).size==vs.toArray.size then k else k+1,?_⟩
 have:=Heap.get?_update_self (h:=h) (Obj.mapSeq f) av rfl
 rw[this]
 show some (seqObj "list" (f vs.toArray) _)=_
 rw[hf]
theorem GC{h:Heap}{K:Type}[DecidableEq K]{knd:PySem.KeyKind prog w K}{a:Addr}{al:List (K×Value)}(hd:h.DictOf knd a al):∃o,h.get? a=some o:=by
 refine iw (id hd) λgh _ _ hv _=>?_
 exact⟨_,hv⟩
theorem Xh{o i e:D}{C ao:aa}(av:n0 o i e C=some ao){A:Around}{I:a1}{s:Shared}{u v x:Value}{E:Value->Shared->Prop}{Q:Unit->Shared->Prop}(a5:fa n A)(S:St prog w am I C s.heap)(r:Rep s.heap I o u)(eG:Rep s.heap I i v)
  (hr:Rep s.heap I e x) (P:∀af bm ct,St prog w am I ao af->fk I s.heap I af->Q () {s with heap:=af,toks:=bm,drawn:=ct}):wpAny (model prog w) A (setItem u v x) Q E s:=by
 have cJ:=a5.units
 refine cI av λl aw av=>cI av λp aF av=>fC av λgi d7 dq=>?_
 obtain rfl:=m1 aw
 refine aG r λa gd aS=>?_;clear r
 subst dq
 subst aS
 have iu:=S.objs l a p gd aF
 have aR:=eN gd
 have fin:∀af,Heap.SameBut a s.heap af->(∃o,af.get? a=some o)->(∀ex:Ext (· =a) I s.heap I af,St prog w am I (C.set l gi) af)->∀bm ct,Q () {s with heap:=af,toks:=bm,drawn:=ct}:=λaf aZ ⟨gh,hv⟩ k bm ct=>
  have ex:Ext (· =a) I s.heap I af:=Ext.ml aZ hv
  P af bm ct (k ex) (ex.weaken λb ab=>by subst ab;exact aR)
 clear P
 cases p with
 |list xs=>
  refine cI (o:=intOf i) d7 λk hi au=>dB au λaq au=>?_
  obtain rfl:=nN hi
  refine c0 au λa2=>?_;clear au;subst a2
  refine a6 eG λt e=>?_;clear eG
  subst e
  refine dv iu λvs c df aU=>?_;clear iu
  refine ki_setAt (items:=vs.toArray) (n:=c) df aq.1 (by lia) (by rw[hb,aU.length];exact aq.2.1) ?_
  refine a6 (uo (λxs=>xs.setIfInBounds k.toNat x) (vs.set k.toNat x) df (List.setIfInBounds_toArray ..)) λbZ dt=>?_
  exact fin _ (jK ..) ⟨_,dt⟩ (λex=>S.mut gd ex ⟨_,bZ,dt,bt.ext (S.pq aR) ex _ _ (aU.set hr)⟩) _ _
 |gR aN=>
  refine cI (o:=intOf i) d7 λk hi au=>dB au λaq au=>?_
  obtain rfl:=nN hi
  refine c0 au λbY=>?_;clear au;subst bY
  refine a6 eG λt e=>?_;clear eG
  subst e
  refine aG iu λal hd aF=>?_;clear iu
  exact wpAny_setItem_pairs (knd:=intKind prog w) (k:=k) (by simp[intKind,Value.isInt]) hd (λaf cW aZ=>fin af aZ (GC cW) (λex=>S.mut gd ex ⟨_,cW,(aF.put hr).ext (S.pq aR) ex⟩) _ _) (by rw[aF.length];exact ij aq)
 |ee aN=>
  refine cI (o:=strOf i) d7 λk hi au=>dB au λaq au=>?_
  obtain rfl:=z5 hi
  refine c0 au λcA=>?_;clear au;subst cA
  refine a6 eG λt e=>?_;clear eG
  subst e
  refine aG iu λal hd aF=>?_;clear iu
  exact wpAny_setItem_pairs (knd:=PySem.strKind prog w) (k:=k) (by simp[PySem.strKind,Value.isStrOf]) hd (λaf cW aZ=>fin af aZ (GC cW) (λex=>S.mut gd ex ⟨_,cW,(aF.put hr).ext (S.pq aR) ex⟩) _ _) (by rw[aF.length];exact ij aq)
 |du aN=>
  refine cI (o:=n3 i) d7 λks hi au=>dB au λaq au=>?_
  obtain rfl:=sC hi
  refine c0 au λd0=>?_;clear au;subst d0
  refine aG (tK aq.1 eG) λpa e nQ=>?_
  subst e
  refine aG iu λal hd aF=>?_;clear iu
  refine wpAny_setItem_heap (knd:=bm prog w) (show A.units+1+8<cLine by lia) nQ hd (λaf cW aZ=>?_) (by rw[aF.length];exact ij aq.2)
  refine iw (id cW) λgh _ _ hv _=>?_
  exact fin af aZ ⟨_,hv⟩ (λex=>S.mut gd ex ⟨_,cW,(aF.put hr).ext (S.pq aR) ex⟩) _ _
 |_=>exact bi d7
theorem M1(b n:Nat):Builtin.Slice.sliceAdjust none (some (b:Int)) 1 (n:Int)=(0,((min b n:Nat):Int)):=by
 unfold Builtin.Slice.sliceAdjust
 have ai:¬((1:Int)<0):=by lia
 have ak:¬((b:Int)<0):=by lia
 simp only[ai,ak,if_false]
 congr 1
 lia
theorem VJ(b:Nat):Builtin.Slice.slicePlaces 0 (b:Int) 1=b:=by
 unfold Builtin.Slice.slicePlaces
 have ai:(1:Int)>0:=by lia
 simp only[ai,if_true,Int.ediv_one]
 split<;>lia
theorem Xy{A:Around}{E:Value->Shared->Prop}{s:Shared}{uf:Addr}{b n:Nat}{u:Tok}{Q:Int×Int×Nat->Shared->Prop}(aZ:s.heap.IsSliceOf uf .none (.int b u) .none)(h:Q (0,1,min b n) s):
  wpAny (model prog w) A (Builtin.Slice.sliceApplied (.ref uf) (pure (n:Int))) Q E s:=by
 refine eB (id aZ) λos wg ie gP=>?_
 unfold Builtin.Slice.sliceApplied Builtin.Slice.sliceFields
 refine aI (aI (wpAny_field wg gP (x:=.none) rfl (aI (wpAny_field wg gP (x:=.int b u) rfl (aI (wpAny_field wg gP (x:=.none) rfl (bj ?_)))))))
 refine aI (slicePart_none ?_)
 show wpAny _ _ (if((1:Int)==0)=true then _ else _) _ _ s
 rw[bq ag]
 refine aI (slicePart_none (aI (slicePart_int (aI (bj ?_)))))
 show wpAny _ _ (match Builtin.Slice.sliceAdjust none (some (b:Int)) 1 (n:Int)with|(lo,hi)=>pure (lo,(1:Int),Builtin.Slice.slicePlaces lo hi 1)) _ _ s
 rw[M1 b n]
 show wpAny _ _ (pure ((0:Int),(1:Int),Builtin.Slice.slicePlaces 0 ((min b n:Nat):Int) 1)) _ _ s
 rw[VJ]
 exact bj h
theorem VG(xs:Array Value)(b:Nat):((List.range b).filterMap λ(k:Nat)=>xs[((0:Int)+(k:Int)*1).toNat]?).toArray=(xs.toList.take b).toArray:=by
 have e:(λ(k:Nat)=>xs[((0:Int)+(k:Int)*1).toNat]?)=λk=>xs[k]?:=by
  funext k
  have:((0:Int)+(k:Int)*1).toNat=k:=by lia
  rw[this]
 rw[e]
 have:=pick_run xs 0 b
 rw[List.filterMap_map]at this
 have bf:((λx=>xs[x]?)∘λx=>0+x)=λk=>xs[k]?:=by funext k;simp
 rw[bf]at this
 rw[this,List.drop_zero]
theorem P7{A:Around}{E:Value->Shared->Prop}{s:Shared}{t uf:Addr}{items:Array Value}{b:Nat}{u:Tok}{Q:Value->Shared->Prop}(bK:IsTup s.heap t items)(aZ:s.heap.IsSliceOf uf .none (.int b u) .none)
  (bV:items.size<=b->Q (.ref t) s) (ai:b<items.size->Q (.ref s.heap.objs.size) {s with heap:=s.heap.push {cls:=.type "tuple",data:=.seq (items.toList.take b).toArray}})
  (fp:items.size<=sizeLine):wpAny (model prog w) A (getItem (.ref t) (.ref uf)) Q E s:=by
 have wm:sizeOk (.seq (items.toList.take (min b items.size)).toArray):=by
  refine(?_:(items.toList.take (min b items.size)).toArray.size<=sizeLine)
  rw[hb,List.length_take,iK]
  lia
 refine eB (id aZ) λos wg ie gP=>?_
 have QD:s.TypeIs (.ref uf) "slice":=⟨os,wg,ie⟩
 unfold getItem
 try with_reducible refine gJ ?_
 first|refine aI (bj ?_)|skip
 refine aI (wpAny_sequenceKey bK.typeIs ag ?_)
 refine aI (wpAny_callSpecial?_slot (name:=Str.ofString "__getitem__") bK.typeIs slot_tuple_getitem
  (wpAny_call_entry slot_tuple_getitem bK.typeIs entry_tuple_getitem ?_ (args_tuple_getitem _ _)))
 show wpAny _ _ (Builtin.Tuple.tupleItemsOf (.ref t)>>=_) _ _ s
 refine aI (tupleItemsOf_ bK ?_)
 refine aI (wpAny_typeOf QD ?_)
 rw[a3 ag]
 refine aI (Xy aZ ?_)
 show wpAny _ _ (if((0:Int)==0&&(1:Int)==1&&(min b items.size)==items.size)=true then _ else _) _ _ s
 by_cases ab:items.size<=b
 ·rw[a3 (by simp;lia)]
  unfold Builtin.Tuple.tupleIsExact
  refine aI (aI (wpAny_typeOf bK.typeIs (bj ?_)))
  rw[a3 ag]
  exact aI (wpAny_rule (bj ⟨_,rfl,bj (bV ab)⟩))
 ·rw[bq (by simp;lia),VG]
  have e:min b items.size=b:=by lia
  rw[e]at wm⊢
  have h:=ai (by lia)
  first
   |exact aI (m:=Builtin.Tuple.tupleExact _) (wpAny_newObj_type (bj ⟨_,rfl,bj h⟩) wm)
   |exact aI (m:=Builtin.Tuple.tupleExact _) (wpAny_newObj_type (aI (bj (bj ⟨_,rfl,bj h⟩))) wm)
   |exact aI (aI (m:=Builtin.Tuple.tupleExact _) (wpAny_newObj_type (bj (bj ⟨_,rfl,bj h⟩)) wm))
   |exact aI (aI (m:=Builtin.Tuple.tupleExact _) (wpAny_newObj_type (bj ⟨_,rfl,bj h⟩) wm))
end
end
section
open PySem PySem.W PyProof.Rows PySem.Calls Builtin Builtin.Str
theorem KO{h:Heap}{I:a1}:∀{ns:List Int} {vs:List Value},IntsAre vs ns->bt h I (ns.map .int) vs
 |[],_,r=>by cases r;exact rfl
 |_::_,_,r=>by cases r with|cons n t eG=>exact⟨_,_,rfl,⟨t,rfl⟩,KO eG⟩
noncomputable def uh(x:Str)(b:Int):Str:=
 if((strSliceIndices none (some b) 1 x.length).length==x.length)=true then x else⟨((strSliceIndices none (some b) 1 x.length).filterMap (x.cps[·]?)).toArray⟩
section
variable{prog:Program}{w:World}{am:Heap}{n:Nat}{aA:Scope}{K:Frag}
noncomputable def qC(d k:D):Option D:=match d,k with
 |.tup xs,.int k=>if 1<=k/\k<=xs.length/\xs.length<=lim then some (.tup (xs.drop k.toNat))else none
 |_,_=>none
theorem PX{d k e:D}(h:qC d k=some e):∃(xs:List D) (j:Nat),d=.tup xs/\k=.int j/\1<=j/\j<=xs.length/\xs.length<=lim/\e=.tup (xs.drop j):=by
 cases d with
 |tup xs=>cases k with
  |int k=>
   refine dB h λaq h=>c0 h λd0=>?_
   subst d0
   exact⟨_,_,rfl,by rw[Int.toNat_of_nonneg (by lia)],by lia,by lia,aq.2.2,rfl⟩
  |_=>exact bi h
 |_=>exact bi h
def iR(f g:aY (D×aa))(m:aK)(C:aa):Option (D×aa):=(f m C).bind λx=>(g m x.2).bind λy=>(qC x.1 y.1).map (·,y.2)
theorem nB{o i:Expr}{p pos f g}(ai:cL prog w am n aA o f)(ak:cL prog w am n aA i g):cL prog w am n aA (.Subscript o (.Slice (some i) none none p) pos) (iR f g):=by
 intro m C d ao hf A ae I s Q E a5 F S P
 refine dw hf ?_;clear hf;intro a aB aC hf
 refine dw hf ?_;clear hf;intro b a8 ab hf
 refine fC hf ?_;clear hf;intro c ax hf
 cases hf
 refine Subscript_ (ai m C a aB aC A ae I s _ E a5 F S λbJ u c6 b4 cy bE bu cs=>?_)
 refine wpAny_Slice ?_
 rw[evalPart_some,evalPart_none]
 refine ak m aB b _ ab A ae bJ _ _ E a5 (F.cM S bu) bE λcG v dH cN cU cb b0 dp=>bj (bj ?_)
 have nZ:=cs.cM bE b0
 refine xm (PX ax) λxs j a2 a9 ai ak aV bC=>?_;subst a2;subst a9;subst bC
 refine a6 dp λt bY=>?_;clear dp;subst bY
 refine d4 nZ λq vs c b3 av au=>?_;clear nZ;subst b3
 have g4:(dH.push {cls:=.type "slice",data:=.fields #[.int (j:Int) t,.none,.none]}).get? q=some (seqObj "tuple" vs.toArray c):=fO _ av
 have cZ:=au.length
 refine tail_any (s:={s with heap:=_,toks:=cN,drawn:=cU}) ⟨_,g4,rfl⟩ slot_tuple_getitem.lookup (getItem_tuple_from (s:={s with heap:=dH.push {cls:=.type "slice",data:=.fields #[.int (j:Int) t,.none,.none]},toks:=cN,drawn:=cU}) (items:=vs.toArray) (a:=j) (u:=t) ⟨_,g4,rfl,_,rfl⟩ (Heap.IsSliceOf.new ..) (by lia)
  (by rw[hb,cZ];lia) ?_ (by rw[hb,cZ];exact ij aV)) (ops:=[_,_]) rfl
 have eR:=cb.same (Ext.push {cls:=.type "slice",data:=.fields #[.int (j:Int) t,.none,.none]})
 have dA:bt (dH.push {cls:=.type "slice",data:=.fields #[.int (j:Int) t,.none,.none]}) cG (xs.drop j) (vs.drop j):=(au.cM cb (Ext.push _)).drop j
 exact wZ (s:={s with heap:=dH.push {cls:=.type "slice",data:=.fields #[.int (j:Int) t,.none,.none]},toks:=cN,drawn:=cU}) eR dA (λjL v eT jG jI eR fJ mr=>P jL v eT jG jI eR (((bu.dc b0).dc (Ext.push _)).dc fJ) mr)
def uq(d k:D)(C:aa):Option (D×aa):=match d,k with
 |.tup xs,.int k=>if 0<=k/\xs.length<=lim then some (.tup (xs.take k.toNat),C)else none
 |.str x,.int k=>if(uh x k).length<=lim then some (.str (uh x k),C)else none
 |_,_=>none
theorem YS{d k e:D}{C ao:aa}(h:uq d k C=some (e,ao)):(∃(xs:List D) (j:Nat),d=.tup xs/\k=.int j/\xs.length<=lim/\e=.tup (xs.take j)/\ao=C)\/
  (∃(x:Str) (bZ:Int),d=.str x/\k=.int bZ/\(uh x bZ).length<=lim/\e=.str (uh x bZ)/\ao=C):=by
 cases d with
 |tup xs=>cases k with
  |int k=>exact dB h λaq h=>ds h λfg fq=>.inl ⟨_,_,rfl,by rw[Int.toNat_of_nonneg aq.1],aq.2,fg.symm,fq.symm⟩
  |_=>exact bi h
 |str x=>cases k with
  |int k=>exact dB h λaq h=>ds h λfg fq=>.inr ⟨_,_,rfl,rfl,aq,fg.symm,fq.symm⟩
  |_=>exact bi h
 |_=>exact bi h
def p9(f g:aY (D×aa))(m:aK)(C:aa):Option (D×aa):=(f m C).bind λx=>(g m x.2).bind λy=>uq x.1 y.1 y.2
theorem x0{o i:Expr}{p pos f g}(ai:cL prog w am n aA o f)(ak:cL prog w am n aA i g):cL prog w am n aA (.Subscript o (.Slice none (some i) none p) pos) (p9 f g):=by
 intro m C d ao hf A ae I s Q E a5 F S P
 refine dw hf ?_;clear hf;intro a aB aC hf
 refine dw hf ?_;clear hf;intro b a8 ab hf
 refine Subscript_ (ai m C a aB aC A ae I s _ E a5 F S λbJ u c6 b4 cy bE bu cs=>?_)
 refine wpAny_Slice ?_
 rw[evalPart_some,evalPart_none]
 refine bj (ak m aB b _ ab A ae bJ _ _ E a5 (F.cM S bu) bE λcG v dH cN cU cb b0 dp=>bj ?_)
 have nZ:=cs.cM bE b0
 dsimp only at hf
 rcases YS hf with⟨xs,j,rfl,rfl,ak,rfl,rfl⟩|⟨x,k,rfl,rfl,aq,rfl,rfl⟩
 ·refine a6 dp λt cj=>?_;clear dp;subst cj
  refine d4 nZ λq vs c cA av au=>?_;clear nZ;subst cA
  have g4:(dH.push {cls:=.type "slice",data:=.fields #[.none,.int (j:Int) t,.none]}).get? q=some (seqObj "tuple" vs.toArray c):=fO _ av
  have cZ:=au.length
  have eR:=cb.same (Ext.push {cls:=.type "slice",data:=.fields #[.none,.int (j:Int) t,.none]})
  have dA:bt (dH.push {cls:=.type "slice",data:=.fields #[.none,.int (j:Int) t,.none]}) cG xs vs:=au.cM cb (Ext.push _)
  refine tail_any (s:={s with heap:=_,toks:=cN,drawn:=cU}) ⟨_,g4,rfl⟩ slot_tuple_getitem.lookup (P7 (s:={s with heap:=dH.push {cls:=.type "slice",data:=.fields #[.none,.int (j:Int) t,.none]},toks:=cN,drawn:=cU}) (items:=vs.toArray) (b:=j) (u:=t) ⟨_,g4,rfl,_,rfl⟩ (Heap.IsSliceOf.new ..)
   (λhle=>?_) (λcz=>?_) (by rw[hb,cZ];exact ij ak)) (ops:=[_,_]) rfl
  ·rw[hb,cZ]at hle
   refine P cG _ _ cN cU eR ((bu.dc b0).dc (Ext.push _)) ?_
   rw[List.take_of_length_le hle]
   exact⟨q,vs,c,rfl,g4,dA⟩
  ·exact wZ (s:={s with heap:=dH.push {cls:=.type "slice",data:=.fields #[.none,.int (j:Int) t,.none]},toks:=cN,drawn:=cU}) eR (dA.take j) (λjL v eT jG jI eR fJ mr=>P jL v eT jG jI eR (((bu.dc b0).dc (Ext.push _)).dc fJ) mr)
 ·refine a6 dp λt cQ=>?_;clear dp;subst cQ
  refine a6 nZ λd1 db=>?_;clear nZ;subst db
  have eR:=cb.same (Ext.push {cls:=.type "slice",data:=.fields #[.none,.int k t,.none]})
  refine tail_any (s:={s with heap:=_,toks:=cN,drawn:=cU}) (typeIs_str _ _ _) PySem.F.slot_str_getitem.lookup (wpAny_getItem_str_slice (s:={s with heap:=dH.push {cls:=.type "slice",data:=.fields #[.none,.int k t,.none]},toks:=cN,drawn:=cU}) (l:=none) (u:=some (k,t)) (st:=none) (Heap.IsSliceOf.new ..) rfl ?_) (ops:=[_,_]) rfl
  unfold sliceMade slicePicked
  simp only[Option.map_none,Option.map_some,Option.getD_none,beq_self_eq_true,Bool.true_and]
  unfold uh at P aq
  split
  ·rename_i ax
   rw[a3 ax]at P
   exact P cG _ _ cN cU eR ((bu.dc b0).dc (Ext.push _)) ⟨_,rfl⟩
  ·rename_i ax
   rw[bq ax]at P aq
   exact⟨ij aq,P cG _ _ _ _ eR ((bu.dc b0).dc (Ext.push _)) ⟨_,rfl⟩⟩
end
end
section
open PySem PySem.W PyProof.Rows PySem.Calls
inductive ca where
 |next
 |ret (d:D)
noncomputable def Aw(h:Heap)(I:a1):ca->Flow->Prop
 |.next,q=>q=.next
 |.ret d,q=>∃v,q=.ret v/\Rep h I d v
noncomputable def ca.val:ca->D
 |.next=>.none
 |.ret d=>d
noncomputable abbrev cc:aY (ca×aK×aa):=λm C=>some (.next,m,C)
noncomputable abbrev fo(e:aY (D×aa)):aY (ca×aK×aa):=λm C=>(e m C).map λx=>(.next,m,x.2)
noncomputable abbrev d9(e:aY (D×aa)):aY (ca×aK×aa):=λm C=>(e m C).map λx=>(.ret x.1,m,x.2)
noncomputable def Own(ae:Env)(b:Addr):Prop:=b=ae.locals\/∃x,ae.cells.lookup x=some b
noncomputable abbrev hE(ae:Env)(I:a1)(h:Heap)(a4:a1)(af:Heap):Prop:=Ext (λb=>b∈I\/Own ae b) I h a4 af
section
variable(prog:Program)(w:World)(am:Heap)
noncomputable abbrev Ft(aA:Scope)(ae:Env)(I:a1)(s:Shared)(c3:ca)(bh:aK)(ao:aa)(Q:Flow->Shared->Prop):Prop:=
 ∀a4 q af bm ct,St prog w am a4 ao af->hE ae I s.heap a4 af->de am aA ae bh a4 af->Aw af a4 c3 q->Q q {s with heap:=af,toks:=bm,drawn:=ct}
noncomputable def oY(n:Nat)(aA:Scope)(b:List Stmt)(f:aY (ca×aK×aa)):Prop:=
 ∀m C c3 bh ao,f m C=some (c3,bh,ao)->∀(A:Around) (ae:Env) (I:a1) (s:Shared) (Q:Flow->Shared->Prop) (E:Value->Shared->Prop),fa n A->de am aA ae m I s.heap->St prog w am I C s.heap->
  Ft prog w am aA ae I s c3 bh ao Q->wpAny (model prog w) A (execs b ae) Q E s
noncomputable def lQ(n:Nat)(aA:Scope)(b:Stmt)(f:aY (ca×aK×aa)):Prop:=
 ∀m C c3 bh ao,f m C=some (c3,bh,ao)->∀(A:Around) (ae:Env) (I:a1) (s:Shared) (Q:Flow->Shared->Prop) (E:Value->Shared->Prop),fa n A->de am aA ae m I s.heap->St prog w am I C s.heap->
  Ft prog w am aA ae I s c3 bh ao Q->wpAny (model prog w) A (exec b ae) Q E s
noncomputable def dU(n:Nat)(jY:Value)(g:List D->aa->Option (D×aa)):Prop:=
 ∀J C d ao,g J C=some (d,ao)->∀(A:Around) (I:a1) (s:Shared) (vs:List Value) (R:Result->Shared->Prop),fa n A->St prog w am I C s.heap->bt s.heap I J vs->
  (∀a4 v af bm ct,St prog w am a4 ao af->fk I s.heap a4 af->Rep af a4 d v->R (.ok (.ret v)) {s with heap:=af,toks:=bm,drawn:=ct})->codeAny (model prog w) A (.call jY ⟨vs,[]⟩) R s
end
noncomputable def mh(cw:List (Option Nat))(J:List D):aK:=cw.map λo=>o.bind λi=>J[i]?
theorem F4(nO:Str->Option NameKind)(x:Str):∀(binds:List (Str×Value)) (m:Str->Option Value),(binds.map (·.1)).Nodup->
  bindL nO binds m x=if nO x=some .local then((binds.lookup x).or (m x))else m x
 |[],m,_=>by simp[bindL]
 |(y,v)::r,m,aH=>by
  rw[gm,kH]at aH
  unfold bindL
  rw[F4 nO x r _ aH.2]
  by_cases jc:x=y
  ·subst jc
   have aw:r.lookup x=none:=by
    rw[List.lookup_eq_none_iff]
    intro p aF
    have:p.1≠x:=λe=>aH.1 (b5.mpr ⟨p,aF,e⟩)
    simpa using λe=>this e.symm
   by_cases aq:nO x=some .local
   ·simp[aq,aw,gV]
   ·simp[aq]
  ·have ab:(x==y)=false:=by simpa using jc
   by_cases aq:nO x=some .local
   ·simp only[aq,if_true,gV,ab]
    split<;>simp[jc]
   ·simp only[aq,if_false]
    split<;>simp[jc]
theorem F3(nO:Str->Option NameKind)(x:Str):∀(binds:List (Str×Value)) (m:Str->Option Value),(binds.map (·.1)).Nodup->
  bindC nO binds m x=if nO x=some .local then m x else((binds.lookup x).or (m x))
 |[],m,_=>by simp[bindC]
 |(y,v)::r,m,aH=>by
  rw[gm,kH]at aH
  unfold bindC
  rw[F3 nO x r _ aH.2]
  by_cases jc:x=y
  ·subst jc
   have aw:r.lookup x=none:=by
    rw[List.lookup_eq_none_iff]
    intro p aF
    have:p.1≠x:=λe=>aH.1 (b5.mpr ⟨p,aF,e⟩)
    simpa using λe=>this e.symm
   by_cases aq:nO x=some .local
   ·simp[aq]
   ·simp[aq,aw,gV]
  ·have ab:(x==y)=false:=by simpa using jc
   by_cases aq:nO x=some .local
   ·simp only[aq,if_true]
    split<;>simp[jc]
   ·simp only[aq,if_false,gV,ab]
    split<;>simp[jc]
theorem u4:∀(names:List (Str×NameKind)) (n:Nat) (bz:List (Str×Addr)) (x:Str),(bz.lookup x).isSome=true\/(x,NameKind.cell)∈names->((cellsFrom n names bz).lookup x).isSome=true
 |[],n,bz,x,h=>by
  rcases h with h|h
  ·exact h
  ·cases h
 |(y,k)::r,n,bz,x,h=>by
  unfold cellsFrom
  split
  ·refine u4 r _ _ x ?_
   rcases h with h|h
   ·left;rw[gV];split
    ·rfl
    ·exact h
   ·rcases dS.mp h with e|h
    ·cases e;left;simp
    ·exact .inr h
  ·rename_i aq
   refine u4 r _ _ x ?_
   rcases h with h|h
   ·exact .inl h
   ·rcases dS.mp h with e|h
    ·cases e;simp at aq
    ·exact .inr h
theorem L0:∀(c7:List Str) (vs:List Value) (x:Str),vs.length=c7.length->(c7.zip vs).lookup x=(c7.idxOf? x).bind λi=>vs[i]?
 |[],vs,x,h=>by simp
 |p::c7,[],x,h=>by simp at h
 |p::c7,v::vs,x,h=>by
  rw[List.zip_cons_cons,gV,List.idxOf?_cons]
  by_cases ar:x=p
  ·subst ar;simp
  ·have ai:(x==p)=false:=by simpa using ar
   have ak:(p==x)=false:=by simpa using λe=>ar e.symm
   rw[ai,ak,L0 c7 vs x (by simpa using h)]
   cases c7.idxOf? x<;>simp
section
variable{prog:Program}{w:World}{am:Heap}{n:Nat}{aA:Scope}{K:Frag}
theorem WF{h:Heap}{I:a1}{J:List D}{vs:List Value}(r:bt h I J vs):∀i:Option Nat,jo h I (i.bind λi=>J[i]?) (i.bind λi=>vs[i]?)
 |none=>rfl
 |some i=>by
  refine(?_:jo h I J[i]? vs[i]?)
  cases hd:J[i]? with
  |none=>
   have:vs[i]?=none:=by rw[List.getElem?_eq_none_iff]at hd⊢;rw[r.length];exact hd
   exact this
  |some d=>refine aG (r.get hd) λv aU au=>?_;exact⟨v,aU,au⟩
theorem PU{jV:Addr}{zG:Value}{gh:Option Addr}{DJ:Array (Option Value)}{name qual:Str}{params:Arguments}{body:List Stmt}{scope:Scope}{nA nP doc pm mD ov:Value}{an:Option Addr}{f:aY (ca×aK×aa)}{g:List D->aa->Option (D×aa)}
  (X:K.In am) (oD:am.NoLimit) (cw:List (Option Nat)) (k:Nat)
  (aq:K.lookup jV=some ⟨zG,gh,.func (fnOf name qual params body scope nA nP doc pm an mD ov),DJ⟩) (qJ:codeIn K mD qual=true)
  (ab:∀vs:List Value,vs.length=k->bindArgs (fnOf name qual params body scope nA nP doc pm an mD ov) ⟨vs,[]⟩=pure ((params.args.map (·.arg)).zip vs))
  (yJ:scope.names.map (λp=>(params.args.map (·.arg)).idxOf? p.1)=cw) (nJ:(params.args.map (·.arg)).length=k) (CE:(params.args.map (·.arg)).Nodup) (mQ:(scope.names.map (·.1)).Nodup)
  (Cs:∀x∈params.args.map (·.arg),scope.names.lookup x=some .local\/scope.names.lookup x=some .cell) (Cj:∀p∈scope.names,p.2≠.free)
  (Ce:scope.isCoroutine=false) (Cm:scope.isGenerator=false) (tB:scope.kind=.function)
  (Cb:oY prog w am n scope body f)
  (av:∀J C d ao,g J C=some (d,ao)->J.length=k/\∃c3 bh,f (mh cw J) C=some (c3,bh,ao)/\c3.val=d):dU prog w am (n+1) (.ref jV) g:=by
 intro J C d ao pJ A I s vs R a5 S r P
 refine bU (av J C d ao pJ) λcZ a2=>?_;refine dv a2 λc3 bh hf ty=>?_;clear a2
 have y3:vs.length=k:=by rw[r.length,cZ]
 have aD:=S.keep _ _ (X _ _ aq)
 have qT:vs.length=(params.args.map (·.arg)).length:=by rw[y3,nJ]
 have IF:(((params.args.map (·.arg)).zip vs).map (·.1))=params.args.map (·.arg):=by
  rw[List.map_fst_zip];lia
 have gQ:∀x∈(params.args.map (·.arg)).zip vs,x.1∈params.args.map (·.arg):=λx ar=>by rw[←IF];exact List.mem_map_of_mem ar
 have UE:∀{x:Str} {q:NameKind},scope.names.lookup x=some q->(x,q)∈scope.names:=λh=>mem_of_lookup h
 refine codeAny_call_cells (fd:=fnOf name qual params body scope nA nP doc pm an mD ov) (body:=body) a5.depth aD rfl (oD.keeps S.keep) (codeRec_of (X.keeps S.keep) qJ) rfl (ab vs y3) rfl (λx ar=>?_) (λdD aM=>?_) Ce Cm tB
 ·rcases Cs x.1 (gQ x ar)with h|h
  ·exact .inl h
  ·exact .inr ⟨h,u4 _ _ _ _ (.inr (UE h))⟩
 ·refine dv aM.done λbN bm a9 Rq=>?_;subst a9
  have bu:∀bad,Ext bad I s.heap I bN:=λbad=>Ext.mj Rq
  have bE:St prog w am I C bN:=S.same (bu _)
  have cs:=r.cM S (bu _)
  have HW:(((params.args.map (·.arg)).zip vs).map (·.1)).Nodup:=by rw[IF];exact CE
  have dQ:s.heap.get? s.heap.objs.size=none:=i2 _
  have kg:de am scope (callEnvC (fnOf name qual params body scope nA nP doc pm an mD ov) s.heap.objs.size jV) (mh cw J) I bN:=by
   have iS:∀(i:Nat) (x:Str) (q:NameKind),scope.names[i]?=some (x,q)->jo bN I ((mh cw J).at i) (((params.args.map (·.arg)).zip vs).lookup x):=λi x q hi=>by
    rw[L0 _ _ _ qT]
    have:(mh cw J).at i=((params.args.map (·.arg)).idxOf? x).bind λi=>J[i]?:=by
     unfold aK.at mh
     rw[←yJ,kC,iM,iM,hi]
     rfl
    rw[this]
    exact WF cs _
   refine⟨rfl,tB,rfl,rfl,mQ,by simp[mh,←yJ],λaR=>?_,?_,λx c ax=>?_,⟨_,aM.toInCall.ns,λi x hi=>?_⟩,λi x q hi aL=>?_,λi j x y q eL c hi bn aL It ai ak=>?_⟩
   ·refine aG (S.there aR) λo en _=>?_
    rw[show(callEnvC (fnOf name qual params body scope nA nP doc pm an mD ov) s.heap.objs.size jV).locals=s.heap.objs.size from rfl,dQ]at en
    exact bi en
   ·cases q:am.get? s.heap.objs.size with
    |none=>exact q
    |some o=>rw[S.keep _ _ q]at dQ;exact bi dQ.symm
   ·refine⟨?_,_,aM.cell x c ax⟩
    cases q:am.get? c with
    |none=>rfl
    |some o=>exact absurd (e7 (S.keep _ _ q)) (Nat.not_lt.mpr (gI (aM.above x c (mem_of_lookup ax))))
   ·rw[F4 _ _ _ _ HW]
    have yM:(callEnvC (fnOf name qual params body scope nA nP doc pm an mD ov) s.heap.objs.size jV).kindOf x=some .local:=lookup_at mQ hi
    rw[a3 yM]
    have:=iS i x _ hi
    simpa using this
   ·have It:q=.cell:=by
     rcases aL with h|h
     ·exact h
     ·exact absurd h (Cj _ (eN hi))
    subst It
    refine a6 (Option.isSome_iff_exists.mp (u4 scope.names (s.heap.objs.size+1) [] x (.inr (eN hi)))) λc ax=>?_
    refine⟨c,_,ax,aM.cell x c ax,?_⟩
    rw[F3 _ _ _ _ HW]
    have yM:(callEnvC (fnOf name qual params body scope nA nP doc pm an mD ov) s.heap.objs.size jV).kindOf x=some .cell:=lookup_at mQ hi
    rw[bq (by rw[yM];decide)]
    have:=iS i x _ hi
    simpa using this
   ·have:x=y:=name_of_addr aM.apart (mem_of_lookup ai) (mem_of_lookup ak)
    subst this
    have aX:(scope.names.map (·.1))[i]?=some x:=by rw[iM,hi];rfl
    have bg:(scope.names.map (·.1))[j]?=some x:=by rw[iM,bn];rfl
    exact(List.getElem?_inj (e4.mp aX).1 mQ).mp (aX.trans bg.symm)
  refine Cb (mh cw J) C c3 bh ao hf _ _ I _ _ _ ⟨a5.1,by have:=a5.2.1;show A.depth+1+n<_;lia,by have:=a5.2.2;show A.units+3+4*n+100<_;lia⟩ kg bE λcG q cE cN cU cb b0 hc jf=>?_
  have fJ:fk I s.heap cG cE:=(bu (· ∈I)).trans b0 λb o ab vS=>by
   rcases vS with h|h|⟨x,h⟩
   ·exact h
   ·rw[show b=s.heap.objs.size from h,dQ]at ab;exact bi ab
   ·have:=aM.above x b (mem_of_lookup h)
    have cz:=e7 ab
    exact absurd cz (Nat.not_lt.mpr (gI this))
  cases c3 with
  |next=>rw[show q=.next from jf];exact P cG _ cE cN cU cb fJ (by rw[←ty];rfl)
  |ret jS=>refine aG jf λv bC b7=>?_;clear jf;subst bC;exact P cG v cE cN cU cb fJ (by rw[←ty];exact b7)
end
section
variable{prog:Program}{w:World}{am:Heap}{n:Nat}{aA:Scope}{K:Frag}
theorem dU.mono{k:Nat}{jY:Value}{g:List D->aa->Option (D×aa)}(h:dU prog w am k jY g)(aq:k<=n):dU prog w am n jY g:=
 λJ C d ao av A I s vs R a5 S r P=>h J C d ao av A I s vs R (a5.le aq) S r P
theorem F9{al:List Expr}{f:aY (List D×aa)}{g:List D->aa->Option (D×aa)}{jY:Value}{pre:List D}{m:aK}{az:aa}(hl:k4 prog w am n aA al f)(r1:dU prog w am n jY g)(X:K.In am)(aq:keepIn K jY=true)
  (aZ:∀ae:Env,match al with|[]=>True|e::r=>starEach (e::r) ae=(false,eval e ae)::starEach r ae/\∀pos,(backTo pos (starEach r ae)).any (·.1)=false)
  {d:D} {ao:aa} (hf:((f m az).bind λx=>g (pre++x.1) x.2)=some (d,ao)) {A:Around} {ae:Env} {I:a1} {s:Shared} {pos:Pos} {us:List Value} {Q E:Value->Shared->Prop} (a5:fa n A) (F:de am aA ae m I s.heap) (S:St prog w am I az s.heap)
  (zU:bt s.heap I pre us) (P:on prog w am I s d ao Q):wpAny (model prog w) A (callWith pos jY us (backTo pos (starEach al ae)) []) Q E s:=by
 refine dw hf ?_;clear hf;intro J aB gP hf
 have body:∀(dD:Shared) (vs:List Value) (bJ:a1),St prog w am bJ aB dD.heap->fk I s.heap bJ dD.heap->bt dD.heap bJ J vs->(∃af bm ct,dD={s with heap:=af,toks:=bm,drawn:=ct})->wpAny (model prog w) A (call jY (us++vs)) Q E dD:=by
  intro dD vs bJ bE bu cs b3;refine sF b3 λaf bm ct cj=>?_;clear b3;subst cj
  refine wpAny_call (r1 (pre++J) aB d ao hf A bJ _ _ _ a5 bE ((zU.cM S bu).append cs) λcG v cE cN cU cb b0 dp=>?_)
  exact P cG v cE cN cU cb (bu.dc b0) dp
 cases al with
 |nil=>
  refine callWith_K0 (X.keeps S.keep) aq ?_
  have hd:=hl.len _ _ _ _ gP
  have wc:J=[]:=by cases J with|nil=>rfl|cons=>simp at hd
  subst wc
  have key:=hl.run m az [] aB gP A ae pos I s (λvs bT=>wpAny (model prog w) A (call jY (us++[])) Q E bT) E a5 F S λbJ vs bN b4 cy bE bu cs=>body _ [] bJ bE bu rfl ⟨_,_,_,rfl⟩
  exactλqg p pP=>(key qg p pP:wpAny (model prog w) A (call jY (us++[])) Q E s) qg p pP
 |cons e r=>
  refine bU (aZ ae) λai ak=>?_
  refine callWith_K X aq (hl.run m az J aB gP A ae pos I s _ E a5 F S λbJ vs bN b4 cy bE bu cs=>⟨X.keeps bE.keep,body _ vs bJ bE bu cs ⟨_,_,_,rfl⟩⟩) ai (ak pos)
noncomputable def Ay(am:Heap)(x:Str)(v:Value):Prop:=∃kt,am.Ns mainGlobals kt/\kt x=some v
noncomputable def no(am:Heap)(x:Str)(v:Value):Prop:=∃kt pZ,am.Ns mainGlobals kt/\kt x=none/\am.Ns builtinsNs pZ/\pZ x=some v
theorem Qg{x:Str}{v:Value}{A:Around}{ae:Env}{m:aK}{I:a1}{C:aa}{s:Shared}{pos:Pos}{Q E:Value->Shared->Prop}(av:Ay am x v)(F:de am aA ae m I s.heap)(S:St prog w am I C s.heap)(ar:aA.names.lookup x=some .globalImplicit)
  (hd:(x==("__debug__":Str))=false) (h:Q v s):wpAny (model prog w) A (eval (.Name x pos) ae) Q E s:=by
 refine aG av λkt aH aU=>?_;clear av
 exact Name_function_global (by rw[F.scope];exact F.kind) (by unfold Env.kindOf;rw[F.scope];exact ar) (loadGlobal_global (by rw[F.glob];exact aH.keeps S.keep) aU h) hd
theorem pk{x:Str}{v:Value}{A:Around}{ae:Env}{m:aK}{I:a1}{C:aa}{s:Shared}{pos:Pos}{Q E:Value->Shared->Prop}(av:no am x v)(F:de am aA ae m I s.heap)(S:St prog w am I C s.heap)(ar:aA.names.lookup x=some .globalImplicit)
  (hd:(x==("__debug__":Str))=false) (h:Q v s):wpAny (model prog w) A (eval (.Name x pos) ae) Q E s:=by
 refine fh av λkt pZ aH aR ab aU=>?_;clear av
 exact Name_function_global (by rw[F.scope];exact F.kind) (by unfold Env.kindOf;rw[F.scope];exact ar) (loadGlobal_builtin (by rw[F.glob];exact aH.keeps S.keep) aR (by rw[F.blt];exact ab.keeps S.keep) aU h) hd
noncomputable def bW(f:aY (List D×aa))(g:List D->aa->Option (D×aa))(m:aK)(C:aa):Option (D×aa):=(f m C).bind λx=>g x.1 x.2
theorem gD{x:Str}{jY:Value}{al:List Expr}{p pos:Pos}{f g}{k:Nat}(X:K.In am)(oC:Ay am x jY)(aq:keepIn K jY=true)(ar:aA.names.lookup x=some .globalImplicit)(hd:(x==("__debug__":Str))=false)
  (r1:dU prog w am k jY g) (ly:k<=n) (hl:k4 prog w am n aA al f)
  (aZ:∀ae:Env,match al with|[]=>True|e::r=>starEach (e::r) ae=(false,eval e ae)::starEach r ae/\∀pos,(backTo pos (starEach r ae)).any (·.1)=false:=by exactλ_=>⟨rfl,λ_=>rfl⟩):
  cL prog w am n aA (.Call (.Name x p) al [] pos) (bW f g):=by
 intro m C d ao hf A ae I s Q E a5 F S P
 refine wpAny_Call_Name_kw (Qg oC F S ar hd ?_)
 exact F9 (pre:=[]) hl (r1.mono ly) X aq aZ hf a5 F S rfl P
def dy(bI:Addr)(name:Str)(o:aY (D×aa))(f:aY (List D×aa))(g:List D->aa->Option (D×aa))(m:aK)(C:aa):Option (D×aa):=
 (o m C).bind λx=>match x.1 with
  |.obj l=>(hy x.2 bI l).bind λp=>if(p.2.lookup name).isNone=true then(f m x.2).bind λy=>g (.obj l::y.1) y.2 else none
  |_=>none
theorem fy(bI:Addr){o:Expr}{name:Str}{jV:Addr}{al:List Expr}{apos pos:Pos}{jt f g}{k:Nat}(pl:Env->Sem Bool)(X:K.In am)(aR:hA K bI name jV=true)(aq:keepIn K (.ref jV)=true)
  (r1:dU prog w am k (.ref jV) g) (ly:k<=n) (aD:cL prog w am n aA o jt) (hl:k4 prog w am n aA al f)
  (aZ:∀ae:Env,match al with|[]=>True|e::r=>starEach (e::r) ae=(false,eval e ae)::starEach r ae/\∀pos,(backTo pos (starEach r ae)).any (·.1)=false)
  (a0:∀ae,eval (.Call (.Attribute o name apos) al [] pos) ae=(do
   let kv←eval o ae
   standAt apos.atName
   let(f,first)←holding [kv] (getMethod kv name (pl ae))
   callWith pos f first (backTo pos (starEach al ae)) [])):
  cL prog w am n aA (.Call (.Attribute o name apos) al [] pos) (dy bI name jt f g):=by
 intro m C d ao hf A ae I s Q E a5 F S P
 refine dw hf ?_;clear hf;intro a aB aC hf
 refine MethodCall_ (pl:=pl ae) (aD m C a aB aC A ae I s _ E a5 F S λbJ u c6 b4 cy bE bu cs=>?_) (a0 ae)
 cases a with
 |obj l=>
  refine dw hf ?_;clear hf;intro fT bM hi hf
  refine dB hf ?_;clear hf;intro oG hf
  refine xn (CU bE hi cs) λq iB fm c bC ai ak aV bL=>?_;subst bC
  refine eB (bL.getL (name:=name)) λd8 a2 a9 _=>?_
  have CC:bM.lookup name=none:=by simpa using oG
  rw[CC]at a9
  have q3:d8=none:=a9
  subst q3
  simp only[hA,Bool.and_eq_true,beq_iff_eq]at aR
  refine bU aR λbY sr=>?_;clear aR;refine bU bY λiZ ip=>?_;clear bY
  refine method_fn (X.keeps bE.keep) (CT ak aV) (plainGet_of iZ).1 (plainGet_of iZ).2 ip (beq_iff_eq.mp sr) (by show(lookIn name (dictOf fm c)).map _=_;rw[lookIn_dict,a2];rfl) ?_
  refine F9 (pre:=[.obj l]) (s:={s with heap:=c6,toks:=b4,drawn:=cy}) hl (r1.mono ly) X aq aZ hf a5 (F.cM S bu) bE (bt.one cs) λcG v cE cN cU cb b0 dp=>P cG v cE cN cU cb (bu.dc b0) dp
 |_=>exact bi hf
noncomputable def tR(bI:Addr)(g:List D->aa->Option (D×aa))(J:List D)(C:aa):Option (D×aa):=
 (g (.obj (C.length+1)::J) (C++[.ns []]++[.inst bI C.length])).bind λr=>if r.1=.none then some (.obj (C.length+1),r.2)else none
theorem yf{bI dk:Addr}{k:Nat}{g}(X:K.In am)(aR:makesIn K bI=true)(hi:findIn K (.ref bI) "__init__"=some (some (.ref dk))) (hf:typeIn K (.ref dk)=some (.type "function")) (r1:dU prog w am k (.ref dk) g):
  dU prog w am (k+4) (.ref bI) (tR bI g):=by
 intro J C d ao av A I s vs R a5 S r P
 refine dw av ?_;clear av;intro e aB Rc r2
 refine dB r2 ?_;clear r2;intro CC r2
 refine ds r2 λcA cQ=>?_;clear r2;subst cA;subst cQ
 have AE:=X.keeps S.keep
 obtain ⟨h,gO,eu,t,os⟩:=s
 refine make_core (init:=.ref dk) (makes_of AE aR) (looks_findIn AE hi) (λself=>bind_fn AE self hf) (.inl rfl) ?_
 have aS:Ext (λ_=>False) I h (I++[h.objs.size]) (h.push emptyDict):=Ext.sv _
 have MF:St prog w am (I++[h.objs.size]) (C++[.ns []]) (h.push emptyDict):=S.alloc (bD _) aS ⟨[],0,gA _ rfl,rfl⟩
 have fp:(h.push emptyDict).objs.size=h.objs.size+1:=Heap.size_push ..
 have bf:Ext (λ_=>False) (I++[h.objs.size]) (h.push emptyDict) (I++[h.objs.size]++[h.objs.size+1]) ((h.push emptyDict).push (instObj bI h.objs.size)):=by rw[←fp];exact Ext.sv _
 have Fx:St prog w am (I++[h.objs.size]++[h.objs.size+1]) (C++[.ns []]++[.inst bI C.length]) ((h.push emptyDict).push (instObj bI h.objs.size)):=by
  refine MF.alloc (by rw[fp];exact bD _) bf ⟨h.objs.size,?_,?_⟩
  ·rw[←S.len,List.append_assoc,List.getElem?_append_right (bD _),Nat.sub_self];rfl
  ·rw[←fp];exact gA _ rfl
 have GI:fk I h (I++[h.objs.size]++[h.objs.size+1]) ((h.push emptyDict).push (instObj bI h.objs.size)):=(aS.weaken (λ_ ab=>ab.elim)).trans (bf.weaken (Q:=(· ∈I)) (λ_ ab=>ab.elim)) λ_ _ _ ab=>ab
 have KS:Rep ((h.push emptyDict).push (instObj bI h.objs.size)) (I++[h.objs.size]++[h.objs.size+1]) (.obj (C.length+1)) (.ref (h.objs.size+1)):=by
  refine⟨_,?_,rfl⟩
  rw[←S.len,List.getElem?_append_right (by simp)]
  simp
 have jg:bt ((h.push emptyDict).push (instObj bI h.objs.size)) (I++[h.objs.size]++[h.objs.size+1]) (.obj (C.length+1)::J) (.ref (h.objs.size+1)::vs):=⟨_,_,rfl,KS,r.cM S GI⟩
 refine r1 _ _ e _ Rc _ _ _ _ _ ?_ Fx jg λcG v cE cN cU cb b0 dp=>?_
 ·refine fV a5 λaX bg bQ=>?_;clear a5
  refine⟨aX,?_,?_⟩
  ·have hw:Code.weight (.builtin "type.__call__" ⟨.ref bI::vs,[]⟩)<=1:=cB (by with_unfolding_all rfl)
   show A.depth+Code.weight _+k<_
   lia
  ·have hw:Code.cUnits (.builtin "type.__call__" ⟨.ref bI::vs,[]⟩)<=3:=by
    refine aO (cB (show _=1 by with_unfolding_all rfl)) ag
   show A.units+Code.cUnits _+4*k+100<_
   lia
 ·have RM:e=.none:=CC
  subst RM
  refine⟨dp,P cG _ cE cN cU cb (GI.dc b0) (KS.cM Fx b0)⟩
end
section
variable{prog:Program}{w:World}{am:Heap}{n:Nat}{aA:Scope}{K:Frag}
theorem St.wU{bad:Addr->Prop}{I:a1}{C:aa}{h af:Heap}(S:St prog w am I C h)(e:e8 bad I h I af)(ax:Clear bad I h)(au:∀a∈I,¬bad a)(ab:∀b,bad b->am.get? b=none):St prog w am I C af:=
 ⟨λb o rZ=>e.kept b o (S.keep b o rZ) (λq=>by rw[ab b q]at rZ;exact bi rZ),S.len,S.nodup,S.three,S.out,λl a po ai ak=>(S.objs l a po ai ak).ext3 ax e (au a (eN ai))⟩
theorem St.other{bad:Addr->Prop}{I:a1}{C:aa}{h af:Heap}(S:St prog w am I C h)(e:Ext bad I h I af)(ax:Clear bad I h)(au:∀a∈I,¬bad a)(ab:∀b,bad b->am.get? b=none):St prog w am I C af:=
 ⟨λb o rZ=>e.kept b o (S.keep b o rZ) (λq=>by rw[ab b q]at rZ;exact bi rZ),S.len,S.nodup,S.three,S.out,λl a po ai ak=>(S.objs l a po ai ak).ext ax e (au a (eN ai))⟩
theorem ps{I:a1}{h:Heap}{L:Addr}{fU:Str->Option Value}(aH:h.Ns L fU):Clear (· =L) I h:=λa aC=>by
 subst aC
 refine d4 aH λo al ce aD hd _=>?_;clear aH
 exactλxs n e=>by rw[aD]at e;refine c0 e λb3=>?_;clear e;subst b3;cases hd
theorem xN{I:a1}{h:Heap}{c:Addr}{v:Option Value}(aH:h.IsCell c v):Clear (· =c) I h:=λa aC=>by
 subst aC
 refine aG aH λo aD hd=>?_;clear aH
 exactλxs n e=>by rw[aD]at e;refine c0 e λcQ=>?_;clear e;subst cQ;cases hd
theorem aK.rx{m:aK}{i:Nat}{d:Option D}(hi:i<m.length)(j:Nat):aK.at (m.set i d) j=if j=i then d else m.at j:=by
 unfold aK.at
 rw[kC,kC]
 by_cases h:j=i
 ·subst h;rw[a3 rfl,List.getElem?_set_self hi];rfl
 ·rw[bq h,k0 (Ne.symm h)]
theorem Dy{aA:Scope}{i j:Nat}{x y:Str}{k bZ:NameKind}(aH:(aA.names.map (·.1)).Nodup)(hi:aA.names[i]?=some (x,k))(bn:aA.names[j]?=some (y,bZ))(h:x=y):i=j:=by
 subst h
 have aX:(aA.names.map (·.1))[i]?=some x:=by rw[iM,hi];rfl
 have bg:(aA.names.map (·.1))[j]?=some x:=by rw[iM,bn];rfl
 exact(List.getElem?_inj (e4.mp aX).1 aH).mp (aX.trans bg.symm)
noncomputable def jq(ae:Env)(x:Str)(k:NameKind)(b:Addr):Prop:=if k=.local then b=ae.locals else ae.cells.lookup x=some b
theorem sA{i:Nat}{x:Str}{k:NameKind}{d:D}(hi:aA.names[i]?=some (x,k))(aq:k=.local\/k=.cell){A:Around}{ae:Env}{m:aK}{I:a1}{C:aa}{s:Shared}{v:Value}{Q:Unit->Shared->Prop}{E:Value->Shared->Prop}(F:de am aA ae m I s.heap)(S:St prog w am I C s.heap)
  (r:Rep s.heap I d v) (P:∀af bm ct,St prog w am I C af->Ext (jq ae x k) I s.heap I af->de am aA ae (m.set i (some d)) I af->Q () {s with heap:=af,toks:=bm,drawn:=ct}):
  wpAny (model prog w) A (storeName ae x v) Q E s:=by
 have nF:i<m.length:=by rw[F.len];exact(e4.mp hi).1
 rcases aq with rfl|rfl
 ·refine aG F.loc λfU aH aU=>?_
  refine wpAny_storeName_local (F.kindOf hi) aH (λaf ey aZ=>?_) (by rw[F.scope,F.kind];rfl)
  refine iw (id ey) λaaj _ _ wf _=>?_
  have e:Ext (· =ae.locals) I s.heap I af:=Ext.ml aZ wf
  have fR:=ps (I:=I) aH
  have dP:=S.other e fR (λa aC q=>F.tO (q▸aC)) λb q=>q▸F.tZ
  refine P af _ _ dP (e.weaken λb ab=>by unfold jq;rw[a3 rfl];exact ab) ⟨F.scope,F.kind,F.glob,F.blt,F.nodup,by rw[mv];exact F.len,F.tO,F.tZ,λy c ax=>?_,⟨_,ey,λj y bn=>?_⟩,λj y q bn aL=>?_,F.apart⟩
  ·refine bU (F.so y c ax) λa2 bC=>?_;refine a6 bC λu a9=>?_;clear bC
   have vT:c≠ae.locals:=by
    rintro rfl
    refine aG a9 λiZ l8 pF=>?_;clear a9
    refine d4 aH λip al ce l9 hd2 _=>?_;clear aH
    rw[l8]at l9;refine c0 l9 λeF=>?_;clear l9;subst eF;rw[pF]at hd2;cases hd2
   exact⟨a2,u,a9.sameBut aZ vT⟩
  ·rw[aK.rx nF]
   by_cases nG:j=i
   ·subst nG
    rw[hi]at bn;cases bn
    rw[a3 rfl,a3 rfl]
    exact⟨v,rfl,Rep.ext fR e d v r⟩
   ·rw[bq nG,bq (λq=>nG (Dy F.nodup bn hi q))]
    exact(aU j y bn).ext fR e
  ·refine b2 (F.cell j y q bn aL) λc u ai ak aV=>?_
   have vT:c≠ae.locals:=by
    rintro rfl
    refine aG ak λiZ l8 pF=>?_;clear ak
    refine d4 aH λip al ce l9 hd2 _=>?_;clear aH
    rw[l8]at l9;refine c0 l9 λfq=>?_;clear l9;subst fq;rw[pF]at hd2;cases hd2
   refine⟨c,u,ai,ak.sameBut aZ vT,?_⟩
   have nG:j≠i:=by
    rintro rfl
    rw[hi]at bn;refine ds bn λhq hR=>?_;clear bn;subst hq;subst hR
    rcases aL with h|h<;>cases h
   rw[aK.rx nF,bq nG]
   exact aV.ext fR e
 ·refine b2 (F.cell i x _ hi (.inl rfl)) λc u ai ak aV=>?_
  refine wpAny_storeName_cell (by rw[F.scope];exact F.kind) (F.kindOf hi) ai ak λaf hP aZ=>?_
  refine aG (id hP) λzG RO _=>?_
  have e:Ext (· =c) I s.heap I af:=Ext.ml aZ RO
  have fR:=xN (I:=I) ak
  have dP:=S.other e fR (λa aC q=>S.cell_out ak (q▸aC)) λb q=>q▸(F.so _ _ ai).1
  have vT:ae.locals≠c:=by
   refine aG F.loc λfU aH _=>?_
   rintro rfl
   refine aG ak λiZ l8 pF=>?_;clear ak
   refine d4 aH λip al ce l9 hd2 _=>?_;clear aH
   rw[l8]at l9;refine c0 l9 λje=>?_;clear l9;subst je;rw[pF]at hd2;cases hd2
  refine P af s.toks _ dP (e.weaken λb ab=>by subst ab;unfold jq;rw[bq ag];exact ai) ⟨F.scope,F.kind,F.glob,F.blt,F.nodup,by rw[mv];exact F.len,F.tO,F.tZ,λy Go QX=>?_,?_,λj y q bn aL=>?_,F.apart⟩
  ·refine bU (F.so y Go QX) λa2 bY=>?_;refine a6 bY λYU a9=>?_;clear bY
   by_cases aV:Go=c
   ·subst aV;exact⟨a2,_,hP⟩
   ·exact⟨a2,YU,a9.sameBut aZ aV⟩
  ·refine aG F.loc λfU aH aU=>?_
   refine⟨fU,aH.sameBut aZ vT,λj y bn=>?_⟩
   have nG:j≠i:=by
    rintro rfl
    rw[hi]at bn;cases bn
   rw[aK.rx nF,bq nG]
   exact(aU j y bn).ext fR e
  ·by_cases nG:j=i
   ·subst nG
    rw[hi]at bn;refine ds bn λm3 m4=>?_;clear bn;subst m3;subst m4
    refine⟨c,some v,ai,hP,?_⟩
    rw[aK.rx nF,a3 rfl]
    exact⟨v,rfl,Rep.ext fR e d v r⟩
   ·refine b2 (F.cell j y q bn aL) λc₂ YT g1 g2 g3=>?_
    have e1:c₂≠c:=by
     rintro rfl
     exact nG (F.apart j i y x _ _ c₂ bn hi aL (.inl rfl) g1 ai)
    refine⟨c₂,YT,g1,g2.sameBut aZ e1,?_⟩
    rw[aK.rx nF,bq nG]
    exact g3.ext fR e
theorem jq.own{ae:Env}{x:Str}{k:NameKind}{b:Addr}(h:jq ae x k b):Own ae b:=by
 unfold jq at h
 split at h
 ·exact .inl h
 ·exact .inr ⟨x,h⟩
theorem hE.of0{ae:Env}{I a4:a1}{h af:Heap}(e:fk I h a4 af):hE ae I h a4 af:=e.weaken λ_ ab=>.inl ab
theorem hE.trans{ae:Env}{I a4 kI:a1}{h af dV:Heap}(x:hE ae I h a4 af)(y:hE ae a4 af kI dV):hE ae I h kI dV:=
 Ext.trans x y λb o e ab=>ab.elim (λq=>.inl (x.back e q)) .inr
noncomputable def sK(prog:Program)(w:World)(am:Heap)(n:Nat)(aA:Scope)(t:Expr)(f:D->aY (aK×aa)):Prop:=
 ∀d m C bh ao,f d m C=some (bh,ao)->∀(A:Around) (ae:Env) (I:a1) (s:Shared) (v:Value) (Q:Unit->Shared->Prop) (E:Value->Shared->Prop),fa n A->de am aA ae m I s.heap->St prog w am I C s.heap->Rep s.heap I d v->
  (∀a4 af bm ct,St prog w am a4 ao af->hE ae I s.heap a4 af->de am aA ae bh a4 af->Q () {s with heap:=af,toks:=bm,drawn:=ct})->wpAny (model prog w) A (assign t ae v) Q E s
noncomputable def b9(i:Nat)(d:D)(m:aK)(C:aa):Option (aK×aa):=some (m.set i (some d),C)
theorem gb(i:Nat){x:Str}{pos:Pos}{k:NameKind}(hi:aA.names[i]?=some (x,k))(aq:k=.local\/k=.cell):sK prog w am n aA (.Name x pos) (b9 i):=by
 intro d m C bh ao hf A ae I s v Q E a5 F S r P
 refine ds hf λoR mn=>?_;clear hf;subst oR;subst mn
 exact wpAny_assign_Name (sA hi aq F S r λaf bm ct dP e fP=>P I af bm ct dP (e.weaken λb ab=>.inr ab.own) fP)
def kz(bI:Addr)(name:Str)(o:aY (D×aa))(d:D)(m:aK)(C:aa):Option (aK×aa):=(o m C).bind λx=>(Ev bI name x.1 d x.2).map (m,·)
theorem kN(bI:Addr){o:Expr}{name:Str}{pos:Pos}{jt}(X:K.In am)(eE:setOk K bI name=true)(aD:cL prog w am n aA o jt):sK prog w am n aA (.Attribute o name pos) (kz bI name jt):=by
 intro d m C bh ao hf A ae I s v Q E a5 F S r P
 refine dw hf ?_;clear hf;intro a aB aC hf
 refine fC hf ?_;clear hf;intro a8 aZ hf
 cases hf
 rw[arm_assign_Attribute]
 refine aI (gJ (aD m C a aB aC A ae I s _ E a5 F S λbJ u c6 b4 cy bE bu cs=>?_))
 refine aI (wpAny_standAt (aI (gJ (Xf aZ X eE bE cs (r.cM S bu) λaf bm ct dP bO=>wpAny_release' ?_))))
 exact P bJ af bm ct dP (.of0 (bu.dc bO)) ((F.cM S bu).cM bE bO)
def m7(o i:aY (D×aa))(d:D)(m:aK)(C:aa):Option (aK×aa):=(o m C).bind λx=>(i m x.2).bind λy=>(n0 x.1 y.1 d y.2).map (m,·)
theorem rF{o i:Expr}{pos:Pos}{jt vp}(aD:cL prog w am n aA o jt)(hi:cL prog w am n aA i vp):sK prog w am n aA (.Subscript o i pos) (m7 jt vp):=by
 intro d m C bh ao hf A ae I s v Q E a5 F S r P
 refine dw hf ?_;clear hf;intro a aB aC hf
 refine dw hf ?_;clear hf;intro b a8 ab hf
 refine fC hf ?_;clear hf;intro cg aZ hf
 cases hf
 rw[arm_assign_Subscript]
 refine aI (gJ (aD m C a aB aC A ae I s _ E a5 F S λbJ u c6 b4 cy bE bu cs=>?_))
 refine aI (gJ (hi m aB b a8 ab A ae bJ _ _ E a5 (F.cM S bu) bE λcG YZ dH cN cU cb b0 dp=>?_))
 refine aI (wpAny_standAt (aI (gJ (Xh aZ a5 cb (cs.cM bE b0) dp (r.cM S (bu.dc b0)) λaf bm ct dP bO=>wpAny_release' ?_))))
 exact P cG af bm ct dP (.of0 ((bu.dc b0).dc bO)) ((F.cM S (bu.dc b0)).cM cb bO)
end
section
variable{prog:Program}{w:World}{am:Heap}{n:Nat}{aA:Scope}{K:Frag}
theorem GG{A:Around}{E:Value->Shared->Prop}{it t:Addr}{items:Array Value}(e1:t≠it):∀(n i:Nat) (s:Shared) (Q:List Value->Shared->Prop),s.heap.IsListIter it t i->s.heap.IsList t items->i+n<=items.size->
  (∀af,af.IsListIter it t (i+n)->Heap.SameBut it s.heap af->Q ((items.toList.drop i).take n) {s with heap:=af})->wpAny (model prog w) A (draw (.ref it) n) Q E s
 |0,i,s,Q,eA,_,_,gc=>by
  show wpAny _ _ (pure []) Q E s
  exact bj (by simpa using gc s.heap eA (Heap.SameBut.refl ..))
 |n+1,i,s,Q,eA,bK,hle,gc=>by
  have cz:i<items.size:=by lia
  have ar:items[i]?=some items[i]:=Array.getElem?_eq_getElem cz
  unfold draw
  refine aI (wpAny_pyNext_list_item eA bK ar λbN Co qV=>?_)
  dsimp only
  refine aI (gJ (GG e1 n (i+1) _ _ Co (bK.extBut qV.extBut e1) (by lia) λcE Rj nK=>bj ?_))
  have e:items[i]::(items.toList.drop (i+1)).take n=(items.toList.drop i).take (n+1):=by
   rw[List.drop_eq_getElem_cons (i:=i) (l:=items.toList) (by simpa using cz),List.take_succ_cons];simp
  rw[e]
  exact gc cE (by rw[show i+(n+1)=i+1+n by lia];exact Rj) (qV.trans nK)
theorem YO{A:Around}{E:Value->Shared->Prop}{s:Shared}{t:Addr}{items:Array Value}{Q:List Value->Shared->Prop}(cH:A.handled=none)(bK:s.heap.IsList t items)
  (gc:∀af,Heap.ExtBut s.heap.objs.size s.heap af->Q items.toList {s with heap:=af}):wpAny (model prog w) A (unpackItems (.ref t) items.size none) Q E s:=by
 have cz:t≠s.heap.objs.size:=by refine aG bK λo aD _=>?_;clear bK;exact gy (e7 aD)
 unfold unpackItems
 refine aI ?_
 unfold notIterableAtAll
 refine aI (wpAny_specialOf bK.typeIs slot_list_iter.lookup ?_)
 refine bj ?_
 simp only[hV,if_false]
 refine aI (gJ (wpAny_pyIter_list bK ?_))
 refine aI (gJ (GG cz items.size 0 _ _ ⟨_,gA _ rfl,rfl,rfl⟩ (bK.push _) (by lia) λbN Co qV=>?_))
 have pD:List.take items.size (List.drop 0 items.toList)=items.toList:=by
  rw[List.drop_zero];exact List.take_of_length_le (by simp)
 rw[pD]
 rw[bq (by simp)]
 have Sk:bN.IsList t items:=(bK.push _).extBut qV.extBut cz
 refine aI (gJ (wpAny_pyNext_list_end cH Co Sk (by simp) λcE Q8=>?_))
 simp only[Option.isSome_none,hV,if_false]
 exact bj (gc cE λb o ab e=>Q8 b o ab (qV.extBut b o ab (fO _ e)))
def itemsOf(d:D)(C:aa):Option (List D):=match d with
 |.tup xs=>some xs
 |.obj l=>gu C l
 |_=>none
theorem tj{bad:Addr->Prop}{I:a1}{h af:Heap}(a0:Heap.ExtBut h.objs.size h af):Ext bad I h I af:=
 Ext.mj λb o e=>a0 b o (gy (e7 e)) e
theorem ER{d:D}{J:List D}{C:aa}(hd:itemsOf d C=some J){A:Around}{I:a1}{s:Shared}{v:Value}{Q:List Value->Shared->Prop}{E:Value->Shared->Prop}(a5:fa n A)(S:St prog w am I C s.heap)(r:Rep s.heap I d v)
  (P:∀vs af,St prog w am I C af->fk I s.heap I af->bt af I J vs->Q vs {s with heap:=af}):wpAny (model prog w) A (unpackItems v J.length none) Q E s:=by
 cases d with
 |tup xs=>
  cases (hd)
  obtain (⟨a,vs,k,rfl,av,au⟩):=r
  have aw:J.length=vs.toArray.size:=by simp[au.length]
  rw[aw]
  refine wpAny_unpackItems_tuple a5.1 ⟨_,av,rfl,_,rfl⟩ λaf a0=>?_
  exact P _ af (S.same (tj a0)) (tj a0) (by simpa using au.cM S (tj a0))
 |obj l=>
  refine hs (ik S hd r) λa vs k a2 _ _ av au=>?_;subst a2
  have aw:J.length=vs.toArray.size:=by simp[au.length]
  rw[aw]
  refine YO a5.1 ⟨_,av,rfl,_,rfl⟩ λaf a0=>?_
  exact P _ af (S.same (tj a0)) (tj a0) (by simpa using au.cM S (tj a0))
 |_=>exact bi hd
inductive o0(aA:Scope):List Expr->List Nat->List Str->Prop
 |nil:o0 aA [] [] []
 |cons {x:Str} {pos:Pos} {k:NameKind} {i:Nat} {e3 is xs}:aA.names[i]?=some (x,k)->k=.local\/k=.cell->o0 aA e3 is xs->o0 aA (.Name x pos::e3) (i::is) (x::xs)
noncomputable def rb:List Nat->List D->aK->aK
 |i::is,d::J,m=>rb is J (m.set i (some d))
 |_,_,m=>m
theorem o0.each{e3:List Expr}{is:List Nat}{xs:List Str}(h:o0 aA e3 is xs)(ae:Env):assignEach e3 ae=e3.map λt=>(false,assign t ae):=by
 induction h with
 |nil=>rfl
 |cons _ _ _ aE=>rw[gm,←aE];rfl
theorem o0.len{e3:List Expr}{is:List Nat}{xs:List Str}(h:o0 aA e3 is xs):is.length=e3.length/\xs.length=e3.length:=by
 induction h with
 |nil=>exact⟨rfl,rfl⟩
 |cons _ _ _ aE=>simp[aE]
theorem Ni{A:Around}{E:Value->Shared->Prop}{e3:List Expr}{is:List Nat}{xs:List Str}(h:o0 aA e3 is xs):∀{ae:Env} {m:aK} {J:List D} {I:a1} {C:aa} {s:Shared} {vs:List Value} {Q:Unit->Shared->Prop},de am aA ae m I s.heap->St prog w am I C s.heap->bt s.heap I J vs->
  (∀af bm ct,St prog w am I C af->hE ae I s.heap I af->de am aA ae (rb is J m) I af->Q () {s with heap:=af,toks:=bm,drawn:=ct})->J.length=is.length->wpAny (model prog w) A (assignInOrder (e3.map λt=>assign t ae) vs) Q E s:=by
 induction h with
 |nil=>
  intro ae m J I C s vs Q F S r P aw
  cases J with
  |nil=>rw[show vs=[]from r];exact bj (P s.heap s.toks _ S .refl F)
  |cons _ _=>cases aw
 |@cons x pos k i e3 is xs hi aq _ aE=>
  intro ae m J I C s vs Q F S r P aw
  cases J with
  |nil=>cases aw
  |cons d J=>
   refine b2 r λv cX a9 ub jg=>?_;clear r;subst a9
   show wpAny _ _ (do holding cX (assign (.Name x pos) ae v);assignInOrder (e3.map λt=>assign t ae) cX) Q E s
   refine aI (gJ (wpAny_assign_Name (sA hi aq F S ub λaf bm ct dP e fP=>?_)))
   have bO:hE ae I s.heap I af:=e.weaken λb ab=>.inr ab.own
   have Eu:bt af I J cX:=by
    refine bt.ext (λa aC=>?_) e J cX jg
    rcases aq with rfl|rfl
    ·unfold jq at aC;rw[a3 rfl]at aC
     refine aG F.loc λfU aH _=>?_
     exact ps (I:=I) aH a aC
    ·unfold jq at aC;rw[bq ag]at aC
     refine b2 (F.cell i x _ hi (.inl rfl)) λc u ai ak _=>?_
     rw[aC]at ai;refine c0 ai λb3=>?_;clear ai;subst b3
     exact xN (I:=I) ak a rfl
   exact aE fP dP Eu (λdV gG E0 rt l0 nh=>P dV gG E0 rt (bO.trans l0) nh) (by simpa using aw)
def gv(is:List Nat)(d:D)(m:aK)(C:aa):Option (aK×aa):=(itemsOf d C).bind λJ=>if J.length=is.length then some (rb is J m,C)else none
theorem mG{e3:List Expr}{is:List Nat}{xs:List Str}{k:Nat}{pos:Pos}(h:o0 aA e3 is xs):sK prog w am n aA (.Tuple e3 k pos) (gv is):=by
 intro d m C bh ao hf A ae I s v Q E a5 F S r P
 refine cI hf ?_;clear hf;intro J hd hf
 refine dB hf ?_;clear hf;intro aw hf
 refine ds hf λcQ db=>?_;clear hf;subst cQ;subst db
 rw[arm_assign_Tuple]
 refine aI (wpAny_standAt ?_)
 unfold unpack
 rw[h.each]
 have ai:(e3.map λt=>(false,assign t ae)).length=J.length:=by rw[bR,aw,h.len.1]
 have ak:(e3.map λt=>(false,assign t ae)).findIdx? (·.1)=none:=by rw[List.findIdx?_eq_none_iff];intro x ar;refine aG (b5.mp ar) λt _ bC=>?_;subst bC;rfl
 rw[ai,ak]
 refine aI (gJ (ER hd a5 S r λvs af dP e eG=>?_))
 rw[fj]
 refine Ni h (F.cM S e) dP eG (λdV bm ct rt l0 nh=>P I dV bm ct rt ((hE.of0 e).trans l0) nh) aw
noncomputable def cS(f:aY (D×aa))(a:D->aY (aK×aa))(m:aK)(C:aa):Option (ca×aK×aa):=(f m C).bind λx=>(a x.1 m x.2).map λy=>(.next,y.1,y.2)
theorem dK{t value:Expr}{pos:Pos}{f a}(aU:cL prog w am n aA value f)(bK:sK prog w am n aA t a)
  (a0:∀ae:Env,ae.scope=aA->exec (.Assign [t] value pos) ae=(do standAt pos;let v←eval value ae;assign t ae v;pure .next)):lQ prog w am n aA (.Assign [t] value pos) (cS f a):=by
 intro m C c3 bh ao hf A ae I s Q E a5 F S P
 refine dw hf ?_;clear hf;intro d aB hd hf
 refine lG hf ?_;clear hf;intro im a8 aC hf
 cases hf
 rw[a0 ae F.scope]
 refine aI (wpAny_standAt (aI (aU m C d aB hd A ae I s _ E a5 F S λbJ v bN b4 cy bE bu cs=>?_)))
 refine aI (bK d m aB _ _ aC A ae bJ _ v _ E a5 (F.cM S bu) bE cs λcG cE cN cU cb b0 hc=>bj ?_)
 exact P cG .next cE cN cU cb ((hE.of0 bu).trans b0) hc rfl
theorem gX{e:Expr}{pos:Pos}{f}(h:cL prog w am n aA e f)(a0:∀ae:Env,ae.scope=aA->exec (.Expr e pos) ae=(do standAt pos;let v←eval e ae;dropValue e pos v)):
  lQ prog w am n aA (.Expr e pos) (fo f):=by
 intro m C c3 bh ao hf A ae I s Q E a5 F S P
 refine lG hf ?_;clear hf;intro d aB hd hf
 cases hf
 rw[a0 ae F.scope]
 refine aI (wpAny_standAt (aI (h m C d _ hd A ae I s _ E a5 F S λbJ v bN b4 cy bE bu cs=>wpAny_dropValue ?_)))
 exact P bJ .next bN b4 cy bE (.of0 bu) (F.cM S bu) rfl
theorem eO{e:Expr}{pos:Pos}{f}(h:cL prog w am n aA e f):lQ prog w am n aA (.Return (some e) pos) (d9 f):=by
 intro m C c3 bh ao hf A ae I s Q E a5 F S P
 refine lG hf ?_;clear hf;intro d aB hd hf
 cases hf
 exact wpAny_Return_some (h m C d _ hd A ae I s _ E a5 F S λbJ v bN b4 cy bE bu cs=>P bJ _ bN b4 cy bE (.of0 bu) (F.cM S bu) ⟨v,rfl,cs⟩)
theorem ZD{pos:Pos}:lQ prog w am n aA (.Return none pos) (λm C=>some (.ret .none,m,C)):=by
 intro m C c3 bh ao hf A ae I s Q E a5 F S P
 refine z1 hf λeF ff fg=>?_;clear hf;subst eF;subst ff;subst fg
 exact wpAny_Return_none (P I _ s.heap s.toks _ S .refl F ⟨_,rfl,rfl⟩)
noncomputable def bl(f g:aY (ca×aK×aa))(m:aK)(C:aa):Option (ca×aK×aa):=(f m C).bind λx=>match x.1 with
 |.next=>g x.2.1 x.2.2
 |.ret d=>some (.ret d,x.2.1,x.2.2)
theorem cr:oY prog w am n aA [] cc:=by
 intro m C c3 bh ao hf A ae I s Q E a5 F S P
 refine z1 hf λfq g6 i0=>?_;clear hf;subst fq;subst g6;subst i0
 exact wpAny_execs_nil (P I .next s.heap s.toks _ S .refl F rfl)
theorem bA{st:Stmt}{b:List Stmt}{f g}(ai:lQ prog w am n aA st f)(ak:oY prog w am n aA b g):oY prog w am n aA (st::b) (bl f g):=by
 intro m C c3 bh ao hf A ae I s Q E a5 F S P
 refine AX hf ?_;clear hf;intro Hj fN aB h hf
 refine wpAny_execs_cons (ai m C Hj fN aB h A ae I s _ E a5 F S λbJ q bN b4 cy bE bu kg jf=>?_)
 cases Hj with
 |next=>
  rw[show q=.next from jf]
  exact ak fN aB c3 bh ao hf A ae bJ _ _ E a5 kg bE λcG q cE cN cU cb b0 hc jf=>P cG q cE cN cU cb (bu.trans b0) hc jf
 |ret d=>
  refine z1 hf λhq hR i1=>?_;clear hf;subst hq;subst hR;subst i1
  refine aG jf λv bY b7=>?_;clear jf;subst bY
  exact P bJ (.ret v) bN b4 cy bE bu kg ⟨v,rfl,b7⟩
noncomputable def f6(c:aY (Bool×aa))(f g:aY (ca×aK×aa))(m:aK)(C:aa):Option (ca×aK×aa):=(c m C).bind λx=>if x.1=true then f m x.2 else g m x.2
theorem iA{t:Expr}{b o:List Stmt}{pos:Pos}{c f g}(h:jN prog w am n aA t c)(ai:oY prog w am n aA b f)(ak:oY prog w am n aA o g):lQ prog w am n aA (.If t b o pos) (f6 c f g):=by
 intro m C c3 bh ao hf A ae I s Q E a5 F S P
 refine dw hf ?_;clear hf;intro a aB aC hf
 refine wpAny_If (h m C a aB aC A ae I s _ E a5 F S λbJ c6 b4 cy bE bu=>?_)
 cases a with
 |true=>exact ai m aB c3 bh ao hf A ae bJ _ _ E a5 (F.cM S bu) bE λcG q dH cN cU cb b0 hc jf=>P cG q dH cN cU cb ((hE.of0 bu).trans b0) hc jf
 |false=>exact ak m aB c3 bh ao hf A ae bJ _ _ E a5 (F.cM S bu) bE λcG q dH cN cU cb b0 hc jf=>P cG q dH cN cU cb ((hE.of0 bu).trans b0) hc jf
end
noncomputable def rM(xs:List D):List D:=xs.zipIdx.map λp=>.tup [.int p.2,p.1]
inductive ei where
 |list (aM a:Addr) (l:Nat)
 |tup (aM t:Addr) (vs:List Value) (c:Nat)
 |q7 (aM:Addr)
 |enum (e aM a:Addr) (l:Nat)
 |str (aM:Addr) (x:Str)
noncomputable def ei.root:ei->Addr
 |.list aM _ _=>aM
 |.tup aM _ _ _=>aM
 |.q7 aM=>aM
 |.enum e _ _ _=>e
 |.str aM _=>aM
noncomputable def ei.own:ei->List Addr
 |.list aM _ _=>[aM]
 |.tup aM _ _ _=>[aM]
 |.q7 aM=>[aM]
 |.enum e aM _ _=>[e,aM]
 |.str aM _=>[aM]
noncomputable def kh(k:ei)(src:Option (Nat×List D))(J:List D)(i:Nat)(I:a1)(h:Heap):Prop:=match k with
 |.list aM a l=>src=some (l,J)/\I[l]?=some a/\h.IsListIter aM a i
 |.tup aM t vs c=>src=none/\h.IsTupleIter aM t i/\h.get? t=some (seqObj "tuple" vs.toArray c)/\bt h I J vs
 |.q7 aM=>src=none/\∃(x:Int) (left:Nat),IsRangeIter h aM x left 1/\J.drop i=(List.range left).map λ(j:Nat)=>D.int (x+(j:Int))
 |.enum e aM a l=>∃xs old,src=some (l,xs)/\J=rM xs/\I[l]?=some a/\IsEnum h e aM i old/\h.IsListIter aM a i/\e≠aM
 |.str aM x=>src=none/\(∃t,h.IsStrIter aM "str_ascii_iterator" x t i)/\J=x.cps.toList.map λc=>D.str ⟨#[c]⟩
noncomputable def Guard(src:Option (Nat×List D))(C:aa):Prop:=∀l xs,src=some (l,xs)->gu C l=some xs
noncomputable def isTup(t:Expr):Bool:=Nat.beq t.ctorIdx 25
noncomputable def isName(t:Expr):Bool:=Nat.beq t.ctorIdx 23
noncomputable def ei.fits(k:ei)(t:Expr):Prop:=(isTup t=true\/isName t=true)/\match k with
 |.enum .. =>isTup t=true
 |_=>True
theorem IN{t:Expr}(h:isTup t=true):∃a b c,t=.Tuple a b c:=by cases t<;>first|exact⟨_,_,_,rfl⟩|exact hM h
theorem SW{t:Expr}(h:isName t=true):∃a b,t=.Name a b:=by cases t<;>first|exact⟨_,_,rfl⟩|exact hM h
theorem T4{M:Model}{A:Around}{E:Value->Shared->Prop}{s:Shared}{t:Expr}{aM:Addr}{o:Obj}{c:String}{vs:Array Value}{v:Value}{Q:Unit->Shared->Prop}(hf:isTup t=true\/isName t=true)(aD:s.heap.get? aM=some o)(ax:o.cls=.type c)(hd:o.data=.fields vs)
  (aH:(["enumerate","zip","dict_itemiterator","dict_reverseitemiterator","odict_iterator","itertools.zip_longest","itertools.pairwise"]:List String).contains c=false) (h:Q () s):wpAny M A (letOwnedTupleGo t (.ref aM) v) Q E s:=by
 rcases hf with hf|hf
 ·refine sF (IN hf) λa b p e=>?_
  subst e
  cases v with
  |ref T=>
   refine aI (wpAny_load aD ?_)
   rw[ax,hd]
   show wpAny _ A (if(List.contains _ c&&_)=true then _ else _) Q E s
   rw[bq (by rw[aH];exact k3)]
   exact bj h
  |_=>exact bj h
 ·exact iH (SW hf) λa p e=>e▸bj h
section
variable{prog:Program}{w:World}{am:Heap}{n:Nat}{aA:Scope}{K:Frag}
theorem C0{k:ei}{src:Option (Nat×List D)}{J:List D}{i:Nat}{I a4:a1}{h af:Heap}{bad:Addr->Prop}(x:kh k src J i I h)(e:Ext bad I h a4 af)(ax:Clear bad I h)(aD:∀a∈k.own,¬bad a):kh k src J i a4 af:=by
 have pre:∀(l:Nat) (d:Addr),I[l]?=some d->a4[l]?=some d:=λl d aw=>by
  refine a6 e.pre λnew cj=>?_;subst cj
  rw[mw (e4.mp aw).1];exact aw
 cases k with
 |list aM a l=>
  refine bU x λai cA=>?_;clear x;refine bU cA λak cQ=>?_;clear cA;refine aG cQ λo aV bL=>?_;clear cQ
  exact⟨ai,pre _ _ ak,o,e.kept _ _ aV (aD aM (by simp[ei.own])),bL⟩
 |tup aM t vs c=>
  refine qc x λai db aV bL=>?_;clear x;refine aG db λo ak tp=>?_;clear db
  exact⟨ai,⟨o,e.kept _ _ ak (aD aM (by simp[ei.own])),tp⟩,e.kept _ _ aV (λab=>ax t ab _ _ aV),bt.ext ax e _ _ bL⟩
 |q7 aM=>
  refine bU x λai d0=>?_;clear x;refine dv d0 λy left ak aV=>?_;clear d0
  exact⟨ai,y,left,e.kept _ _ ak (aD aM (by simp[ei.own])),aV⟩
 |enum eS aM a l=>
  refine xm x λxs old ai ak aV bL eF cC=>?_;clear x;refine aG eF λo dx Qn=>?_;clear eF
  exact⟨xs,old,ai,ak,pre _ _ aV,e.kept _ _ bL (aD eS (by simp[ei.own])),⟨o,e.kept _ _ dx (aD aM (by simp[ei.own])),Qn⟩,cC⟩
 |str aM y=>
  refine fV x λai ff bL=>?_;clear x;refine dv ff λt o ak aV=>?_;clear ff
  exact⟨ai,⟨t,o,e.kept _ _ ak (aD aM (by simp[ei.own])),aV⟩,bL⟩
structure h8(am:Heap)(k:ei)(I:a1)(h:Heap):Prop where
 out:∀a∈k.own,a∉I/\am.get? a=none
 fields:∀a∈k.own,∃o vs,h.get? a=some o/\o.data=.fields vs
theorem h8.clear{k:ei}{I:a1}{h:Heap}(x:h8 am k I h):Clear (· ∈k.own) I h:=λa aC=>by
 refine dv (x.fields a aC) λo vs aD hd=>?_
 exactλxs n e=>by rw[aD]at e;refine c0 e λfg=>?_;clear e;subst fg;cases hd
theorem xK{P:Addr->Prop}{x y:Addr}(ar:P x)(bc:P y):∀b∈[x,y],P b:=λb ab=>(dS.mp ab).elim (λe=>e▸ar) λab=>cK.mp ab▸bc
theorem fieldsOf{h:Heap}{aM:Addr}{c:String}{vs:Array Value}(x:∃o,h.get? aM=some o/\o.cls=.type c/\o.data=.fields vs):∃o vs,h.get? aM=some o/\o.cls=.type c/\o.data=.fields vs:=x.imp λ_ q=>⟨vs,q⟩
theorem zd{k:ei}{src:Option (Nat×List D)}{J:List D}{i:Nat}{d:D}{I:a1}{C:aa}{A:Around}{s:Shared}{t:Expr}{Q:Value->Shared->Prop}{uC:Value->Shared->Prop}{aM:Addr}(aq:k.own=[aM])(ap:h8 am k I s.heap)(S:St prog w am I C s.heap)(j0:k.fits t)
  (P:∀v af bm ct,St prog w am I C af->Ext (· ∈k.own) I s.heap I af->Rep af I d v->kh k src J (i+1) I af->h8 am k I af->Q v {s with heap:=af,toks:=bm,drawn:=ct})
  {c:String} (aH:(["enumerate","zip","dict_itemiterator","dict_reverseitemiterator","odict_iterator","itertools.zip_longest","itertools.pairwise"]:List String).contains c=false) {af:Heap} {bm:Nat} {v:Value} (aZ:Heap.SameBut aM s.heap af)
  (aD:∃o vs,af.get? aM=some o/\o.cls=.type c/\o.data=.fields vs) (b7:Ext (· ∈k.own) I s.heap I af->Rep af I d v) (hi:Ext (· ∈k.own) I s.heap I af->kh k src J (i+1) I af):wpAny (model prog w) A (letOwnedTupleGo t (.ref aM) v) (λ_ hS=>Q v hS) uC {s with heap:=af,toks:=bm}:=by
 refine b2 aD λo vs aD ax hd=>?_
 have bO:Ext (· ∈k.own) I s.heap I af:=(Ext.ml (I:=I) aZ aD).weaken λb ab=>by rw[aq,ab];exact .head _
 refine T4 (s:={s with heap:=af,toks:=bm}) j0.1 aD ax hd aH ?_
 refine P v af bm s.drawn (S.other bO ap.clear (λb ab q=>(ap.out b q).1 ab) λb q=>(ap.out b q).2) bO (b7 bO) (hi bO) ⟨ap.out,λb ab=>?_⟩
 rw[aq]at ab
 exact⟨o,vs,cK.mp ab▸aD,hd⟩
theorem src_list{src:Option (Nat×List D)}{C:aa}{I:a1}{s:Shared}{l:Nat}{a:Addr}{xs:List D}(S:St prog w am I C s.heap)(av:Guard src C)(ai:src=some (l,xs))(ak:I[l]?=some a):∃vs c,s.heap.get? a=some (seqObj "list" vs.toArray c)/\bt s.heap I xs vs:=by
 refine hs (ik S (av l xs ai) ⟨a,ak,rfl⟩) λhG vs c aU gd _ df au=>?_
 cases aU
 exact⟨vs,c,df,au⟩
theorem IT{k:ei}{src:Option (Nat×List D)}{J:List D}{i:Nat}{d:D}{I:a1}{C:aa}{A:Around}{s:Shared}{t:Expr}{Q:Value->Shared->Prop}{E uC:Value->Shared->Prop}(x:kh k src J i I s.heap)(ap:h8 am k I s.heap)(hd:J[i]?=some d)(av:Guard src C)(S:St prog w am I C s.heap)(j0:k.fits t)
  (P:∀v af bm ct,St prog w am I C af->Ext (· ∈k.own) I s.heap I af->Rep af I d v->kh k src J (i+1) I af->h8 am k I af->Q v {s with heap:=af,toks:=bm,drawn:=ct}):
  wpAny (model prog w) A (pyNext (.ref k.root)) (λr dD=>match r with|none=>False|some v=>wpAny (model prog w) A (letOwnedTupleGo t (.ref k.root) v) (λ_ hS=>Q v hS) uC dD) E s:=by
 have fR:=ap.clear
 cases k with
 |list aM a l=>
  refine fV x λai ak aV=>dv (src_list S av ai ak) λvs c df au=>aG (au.get hd) λv aU b7=>?_
  refine wpAny_pyNext_list_item aV (items:=vs.toArray) ⟨_,df,rfl,_,rfl⟩ (List.getElem?_toArray.trans aU) λaf dW aZ=>?_
  exact zd rfl ap S j0 P (c:="list_iterator") ag aZ (fieldsOf dW) (λbO=>Rep.ext fR bO _ _ b7) λ_=>⟨ai,ak,dW⟩
 |tup aM d1 vs c=>
  refine qc x λai ak aV bL=>aG (bL.get hd) λv aU b7=>?_
  refine wpAny_pyNext_tuple_item ak (items:=vs.toArray) ⟨_,aV,rfl,_,rfl⟩ (List.getElem?_toArray.trans aU) λaf dW aZ=>?_
  exact zd rfl ap S j0 P (c:="tuple_iterator") ag aZ (fieldsOf dW) (λbO=>Rep.ext fR bO _ _ b7) λbO=>⟨ai,dW,bO.kept _ _ aV (λab=>fR d1 ab _ _ aV),bt.ext fR bO _ _ bL⟩
 |q7 aM=>
  refine bU x λai x=>dv x λy left ak aV=>?_
  have cz:i<J.length:=(e4.mp hd).1
  have Cg:J[i]=d:=Option.some.inj ((gz cz).symm.trans hd)
  rw[List.drop_eq_getElem_cons cz,Cg]at aV
  cases left with
  |zero=>cases aV
  |succ left=>
   rw[List.range_succ_eq_map,gm,fj]at aV
   have aS:=(List.cons.inj aV).1
   refine wpAny_pyNext_range_item ak (Int.natCast_pos.mpr (Nat.succ_pos left)) λaf dW aZ=>?_
   refine zd rfl ap S j0 P (c:="range_iterator") ag aZ ⟨_,_,dW,rfl,rfl⟩ (λ_=>aS▸⟨_,by rw[show y+((0:Nat):Int)=y from Int.add_zero y]⟩) λ_=>⟨ai,y+1,left,?_,(List.cons.inj aV).2.trans (kE λj _=>?_)⟩
   ·rw[show((left+1:Nat):Int)-1=(left:Int)from Int.add_sub_cancel (left:Int) 1]at dW;exact dW
   ·exact bb D.int ((bb (y+ ·) (Int.add_comm (j:Int) 1)).trans (Int.add_assoc y 1 j).symm)
 |enum eS aM a l=>
  refine xm x λxs old ai ak aV bL dx cC=>dv (src_list S av ai aV) λvs c df au=>?_
  rw[ak]at hd
  unfold rM at hd
  rw[iM,List.getElem?_zipIdx]at hd
  refine fC hd λq aL hd=>fC aL λy ar e=>aG (au.get ar) λv aU b7=>?_
  subst e
  have cW:d=.tup [.int i,y]:=hd.symm.trans (bb (λk:Nat=>D.tup [.int k,y]) (Nat.zero_add i))
  refine wpAny_pyNext_enum_item bL dx (items:=vs.toArray) ⟨_,df,rfl,_,rfl⟩ (List.getElem?_toArray.trans aU) cC λaf a2 a9 bC bY b3=>sF (IN j0.2) λelts kf pos OZ=>?_
  subst OZ
  refine wpAny_letOwnedTupleGo_enum (s:={s with heap:=af,toks:=s.toks+1}) a2 λdV ir nW=>?_
  refine b2 (fieldsOf a9) λDG aaw yS _ Cf=>?_
  have ed:dV.get? aM=some DG:=(nW.2 aM (Ne.symm cC)).trans yS
  have h0:∀{b},b∉[eS,aM]->b≠eS/\b≠aM:=λaH=>⟨λq=>aH (q▸.head _),λq=>aH (q▸.tail _ (.head _))⟩
  have bO:Ext (· ∈[eS,aM]) I s.heap I dV:=by
   refine⟨⟨[],(List.append_nil _).symm⟩,λ_ aC=>.inl aC,λb o ab aH=>(nW.2 b (h0 aH).1).trans (b3 b o (h0 aH).1 (h0 aH).2 ab),λb o ab=>?_⟩
   by_cases aH:b∈[eS,aM]
   ·exact(dS.mp aH).elim (λe=>e▸⟨_,ir⟩) λaH=>cK.mp aH▸⟨_,ed⟩
   ·exact⟨o,(nW.2 b (h0 aH).1).trans (b3 b o (h0 aH).1 (h0 aH).2 ab)⟩
  have pG:eS≠s.heap.objs.size:=gy (e7 bL)
  refine P _ dV _ _ (S.other bO fR (λb ab q=>(ap.out b q).1 ab) λb q=>(ap.out b q).2) bO (cW▸⟨_,[.int (i:Int) s.toks,v],0,rfl,(nW.2 _ (Ne.symm pG)).trans bC,_,_,rfl,⟨_,rfl⟩,_,_,rfl,Rep.ext fR bO _ _ b7,rfl⟩) ⟨xs,v,ai,ak,aV,ir,⟨DG,ed,?_⟩,cC⟩ ⟨ap.out,xK ⟨_,_,ir,rfl⟩ ⟨_,_,ed,Cf⟩⟩
  refine aG a9 λip l9 kc=>?_;clear a9
  cases yS.symm.trans l9
  exact kc
 |str aM y=>
  refine fV x λai ak aV=>a6 ak λt0 ak=>?_
  rw[aV,iM]at hd
  refine fC hd λc ax e=>?_
  subst e
  refine wpAny_pyNext_ascii_item ak (c:=c) (kD.symm.trans ax) λaf dW aZ=>?_
  exact zd rfl ap S j0 P (c:="str_ascii_iterator") ag aZ (fieldsOf dW) (λ_=>⟨_,rfl⟩) λ_=>⟨ai,⟨t0,dW⟩,aV⟩
theorem IS{k:ei}{src:Option (Nat×List D)}{J:List D}{i:Nat}{I:a1}{C:aa}{A:Around}{s:Shared}{Q:Option Value->Shared->Prop}{E:Value->Shared->Prop}(cH:A.handled=none)(x:kh k src J i I s.heap)(ap:h8 am k I s.heap)(hi:J.length<=i)(av:Guard src C)(S:St prog w am I C s.heap)
  (P:∀af bm ct,St prog w am I C af->e8 (· ∈k.own) I s.heap I af->Q none {s with heap:=af,toks:=bm,drawn:=ct}):wpAny (model prog w) A (pyNext (.ref k.root)) Q E s:=by
 have fR:=ap.clear
 have cY:∀af,(∀b o,b∉k.own->s.heap.get? b=some o->af.get? b=some o)->Q none {s with heap:=af}:=λaf a0=>by
  have e:e8 (· ∈k.own) I s.heap I af:=⟨⟨[],(List.append_nil _).symm⟩,λ_ aC=>.inl aC,λb o ab aH=>a0 b o aH ab⟩
  exact P af s.toks _ (S.wU e fR (λb ab q=>(ap.out b q).1 ab) λb q=>(ap.out b q).2) e
 clear P fR
 cases k with
 |list aM a l=>
  exact fV x λai ak aV=>dv (src_list S av ai ak) λvs c df au=>wpAny_pyNext_list_end cH aV (items:=vs.toArray) ⟨_,df,rfl,_,rfl⟩ (List.getElem?_toArray.trans (lM (au.length▸hi))) λaf a0=>cY af λb o aH=>a0 b o λq=>aH (q▸.head _)
 |tup aM d1 vs c=>
  exact qc x λai ak aV bL=>wpAny_pyNext_tuple_end cH ak (items:=vs.toArray) ⟨_,aV,rfl,_,rfl⟩ (List.getElem?_toArray.trans (lM (bL.length▸hi))) λaf a0=>cY af λb o aH=>a0 b o λq=>aH (q▸.head _)
 |q7 aM=>
  refine bU x λai x=>dv x λy left ak aV=>?_
  rw[List.drop_of_length_le hi]at aV
  cases left with
  |zero=>exact wpAny_pyNext_range_end cH ak (Int.le_refl 0) λaf a0=>cY af λb o aH=>a0 b o λq=>aH (q▸.head _)
  |succ l=>rw[List.range_succ_eq_map]at aV;cases aV
 |enum eS aM a l=>
  refine xm x λxs old ai ak aV bL dx cC=>dv (src_list S av ai aV) λvs c df au=>?_
  have dW:xs.length<=i:=by rw[ak,rM,bR,List.length_zipIdx]at hi;exact hi
  exact wpAny_pyNext_enum_end cH bL dx (items:=vs.toArray) ⟨_,df,rfl,_,rfl⟩ (List.getElem?_toArray.trans (lM (au.length▸dW))) λaf a0=>cY af λb o aH=>a0 b o λq=>aH (q▸.tail _ (.head _))
 |str aM y=>
  refine fV x λai ak aV=>a6 ak λt0 ak=>?_
  rw[aV,bR]at hi
  exact wpAny_pyNext_ascii_end cH ak (kD.symm.trans (lM hi)) λaf a0=>cY af λb o aH=>a0 b o λq=>aH (q▸.head _)
end
theorem PV{prog:Program}{w:World}{A:Around}{s:Shared}{R:Result->Shared->Prop}{c2:Expr}{it:Value}{body orelse:List Stmt}{ae:Env}(aM:Nat->Shared->Prop)
  (turn:∀n s,aM n s->wpAny (model prog w) A (pyNext it) (λr dD=>match r with
   |none=>wpAny (model prog w) A (execs orelse ae) (λf oU=>R (.ok f) oU) (notedBy (model prog w) A ae λe bT=>R (.error e) bT) dD
   |some v=>wpAny (model prog w) A (letOwnedTupleGo c2 it v) (λ_ hS=>wpAny (model prog w) A (assign c2 ae v) (λ_ hS=>wpAny (model prog w) A (execs body ae) (λf oU=>match f with
     |.next|.cont=>∃m,m<n/\aM m oU
     |.brk=>R (.ok .next) oU
     |.ret v=>R (.ok (.ret v)) oU) (notedBy (model prog w) A ae λe bT=>R (.error e) bT) hS) (notedBy (model prog w) A ae λe bT=>R (.error e) bT) hS) (notedBy (model prog w) A ae λe bT=>R (.error e) bT) dD) (notedBy (model prog w) A ae λe bT=>R (.error e) bT) s)
  (n:Nat) (h:aM n s):codeAny (model prog w) A (.forLoop c2 it body orelse ae) R s:=by
 refine codeAny_loop' rfl aM (λn s ed=>?_) n h
 show wpAny _ _ ((forTurn c2 it body orelse ae).onRaise (λx=>do noteFrame x ae;theTreesLotGoes x)) _ _ s
 refine wpAny_noted ?_
 simp only[forTurn]
 refine aI (wpAny_standAt (aI (wpAny_onRaise (hW (turn n s ed) (λr dD bN=>?_) λ_ _ af=>wpAny_standAt af))))
 cases r with
 |none=>exact bj (.inr ⟨rfl,codeAny_block bN⟩)
 |some v=>
  refine aI (hW bN (λ_ hS cE=>?_) λ_ _ af=>af)
  refine aI (hW cE (λ_ hS cE=>aI (hW cE (λf oU eT=>?_) λ_ _ af=>af)) λ_ _ af=>af)
  cases f with
  |next=>exact bj (.inl ⟨rfl,eT⟩)
  |cont=>exact bj (.inl ⟨rfl,eT⟩)
  |brk=>exact bj eT
  |ret v=>exact bj eT
noncomputable def ei.CW:ei->Bool
 |.enum .. =>true
 |_=>false
theorem ei.fits_of{k:ei}{t:Expr}{b:Bool}(aq:k.CW=b)(bK:isTup t=true\/(isName t=true/\b=false)):k.fits t:=by
 rcases bK with h|⟨h,af⟩
 ·exact⟨.inl h,by cases k<;>first|trivial|exact h⟩
 ·refine⟨.inr h,?_⟩
  subst af
  cases k<;>first|trivial|cases aq
def jw(src:Option (Nat×List D))(C:aa):Bool:=match src with
 |none=>true
 |some (l,xs)=>decide (gu C l=some xs)
theorem yv{src:Option (Nat×List D)}{C:aa}(h:jw src C=true):Guard src C:=by
 intro l xs e
 subst e
 exact hU h
section
variable(prog:Program)(w:World)(am:Heap)
noncomputable def k5(n:Nat)(aA:Scope)(e:Expr)(b:Bool)(f:aY ((List D×Option (Nat×List D))×aa)):Prop:=
 ∀m C J src ao,f m C=some ((J,src),ao)->∀(A:Around) (ae:Env) (I:a1) (s:Shared) (Q:Value->Shared->Prop) (E:Value->Shared->Prop),fa n A->de am aA ae m I s.heap->St prog w am I C s.heap->
  (∀a4 k af bm ct,St prog w am a4 ao af->fk I s.heap a4 af->kh k src J 0 a4 af->h8 am k a4 af->(∀a∈k.own,s.heap.get? a=none)->k.CW=b->Q (.ref k.root) {s with heap:=af,toks:=bm,drawn:=ct})->
  wpAny (model prog w) A (eval e ae) (λx dD=>wpAny (model prog w) A (pyIter x) Q E dD) E s
end
section
variable{prog:Program}{w:World}{am:Heap}{n:Nat}{aA:Scope}{K:Frag}
theorem rO{I a4:a1}{h af:Heap}{bad:Addr->Prop}(e:Ext bad I h a4 af){a:Addr}(aC:af.get? a=none):h.get? a=none:=by
 cases q:h.get? a with
 |none=>rfl
 |some o=>refine a6 (e.alive a o q) λd8 en=>?_;rw[en]at aC;exact bi aC.symm
theorem St.lW{I:a1}{C:aa}{h:Heap}(S:St prog w am I C h){a:Addr}(aC:h.get? a=none):a∉I/\am.get? a=none:=by
 refine⟨λaR=>?_,?_⟩
 ·refine aG (S.there aR) λo aD _=>?_;rw[aD]at aC;exact bi aC.symm
 ·cases q:am.get? a with
  |none=>rfl
  |some o=>rw[S.keep a o q]at aC;exact bi aC.symm
def c9(f:aY (D×aa))(m:aK)(C:aa):Option ((List D×Option (Nat×List D))×aa):=(f m C).bind λx=>match x.1 with
 |.tup xs=>some ((xs,none),x.2)
 |.obj l=>(gu x.2 l).map λxs=>((xs,some (l,xs)),x.2)
 |.str y=>if y.cps.all (· <128)=true then some ((y.cps.toList.map λc=>D.str ⟨#[c]⟩,none),x.2)else none
 |_=>none
theorem gC{e:Expr}{f}(h:cL prog w am n aA e f):k5 prog w am n aA e false (c9 f):=by
 intro m C J src ao hf A ae I s Q E a5 F S P
 refine dw hf ?_;clear hf;intro d aB hd hf
 refine h m C d aB hd A ae I s _ E a5 F S λbJ v bN b4 cy bE bu cs=>?_
 have hz:=i2 bN
 split at hf
 ·rename_i xs ar
  have hx:d=.tup xs:=ar
  subst hx
  cases hf
  refine d4 cs λa vs c a2 av au=>?_;clear cs;subst a2
  refine wpAny_pyIter_tuple (s:={s with heap:=bN,toks:=b4,drawn:=cy}) (items:=vs.toArray) ⟨_,av,rfl,_,rfl⟩ ?_
  have ex:∀bad,Ext bad bJ bN bJ (bN.push {cls:=.type "tuple_iterator",data:=.fields #[.ref a,.int 0 0]}):=λ_=>Ext.push _
  refine P bJ (.tup bN.objs.size a vs c) _ b4 cy (bE.same (ex _)) (bu.dc (ex _)) ⟨rfl,⟨_,gA _ rfl,rfl,rfl⟩,fO _ av,au.cM bE (ex _)⟩ ⟨λb ab=>?_,λb ab=>?_⟩ (λb ab=>?_) rfl
  ·simp only[ei.own,cK]at ab;subst ab;exact bE.lW hz
  ·simp only[ei.own,cK]at ab;subst ab;exact⟨_,_,gA _ rfl,rfl⟩
  ·simp only[ei.own,cK]at ab;subst ab;exact rO bu hz
 ·rename_i l ar
  have hx:d=.obj l:=ar
  subst hx
  refine fC hf ?_;clear hf;intro xs aw hf
  cases hf
  refine hs (ik bE aw cs) λa vs c a9 gd aR av au=>?_;subst a9
  refine wpAny_pyIter_list (s:={s with heap:=bN,toks:=b4,drawn:=cy}) (items:=vs.toArray) ⟨_,av,rfl,_,rfl⟩ ?_
  have ex:∀bad,Ext bad bJ bN bJ (bN.push {cls:=.type "list_iterator",data:=.fields #[.ref a,.int 0 0]}):=λ_=>Ext.push _
  refine P bJ (.list bN.objs.size a l) _ b4 cy (bE.same (ex _)) (bu.dc (ex _)) ⟨rfl,gd,⟨_,gA _ rfl,rfl,rfl⟩⟩ ⟨λb ab=>?_,λb ab=>?_⟩ (λb ab=>?_) rfl
  ·simp only[ei.own,cK]at ab;subst ab;exact bE.lW hz
  ·simp only[ei.own,cK]at ab;subst ab;exact⟨_,_,gA _ rfl,rfl⟩
  ·simp only[ei.own,cK]at ab;subst ab;exact rO bu hz
 ·rename_i y ar
  have hx:d=.str y:=ar
  subst hx
  refine dB hf ?_;clear hf;intro QH hf
  cases hf
  refine a6 cs λt bC=>?_;clear cs;subst bC
  refine wpAny_pyIter_ascii (s:={s with heap:=bN,toks:=b4,drawn:=cy}) QH ?_
  have ex:∀bad,Ext bad bJ bN bJ (bN.push {cls:=.type "str_ascii_iterator",data:=.fields #[.str y t,.int 0 0]}):=λ_=>Ext.push _
  refine P bJ (.str bN.objs.size y) _ b4 cy (bE.same (ex _)) (bu.dc (ex _)) ⟨rfl,⟨t,_,gA _ rfl,rfl,rfl⟩,rfl⟩ ⟨λb ab=>?_,λb ab=>?_⟩ (λb ab=>?_) rfl
  ·simp only[ei.own,cK]at ab;subst ab;exact bE.lW hz
  ·simp only[ei.own,cK]at ab;subst ab;exact⟨_,_,gA _ rfl,rfl⟩
  ·simp only[ei.own,cK]at ab;subst ab;exact rO bu hz
 ·exact bi hf
noncomputable def m6(a b:Int):List D:=(List.range (b-a).toNat).map λ(j:Nat)=>D.int (a+(j:Int))
theorem IU{I bJ:a1}{ao:aa}{h bN:Heap}{r:Addr}{a b:Int}{t u v:Tok}{A:Around}{s:Shared}{b4:Nat}{Q:Value->Shared->Prop}{E:Value->Shared->Prop}(aC:-(2^62)<=a)(rY:a<2^62)(ab:-(2^62)<=b)(hO:b<2^62)(au:IsRange bN r a b 1 t u v)
  (bE:St prog w am bJ ao bN) (bu:fk I h bJ bN)
  (P:∀a4 k af bm ct,St prog w am a4 ao af->fk I h a4 af->kh k none (m6 a b) 0 a4 af->h8 am k a4 af->(∀a∈k.own,h.get? a=none)->k.CW=false->Q (.ref k.root) {s with heap:=af,toks:=bm,drawn:=ct}):
  wpAny (model prog w) A (pyIter (.ref r)) Q E {s with heap:=bN,toks:=b4,drawn:=cy}:=by
 have hz:=i2 bN
 refine wpAny_pyIter_range (s:={s with heap:=bN,toks:=b4,drawn:=cy}) au (small_one aC rY ab hO) ?_
 have ex:∀bad,Ext bad bJ bN bJ (bN.push {cls:=.type "range_iterator",data:=.fields #[rawInt a,rawInt (Builtin.Range.rangeSize a b 1),rawInt 1]}):=λ_=>Ext.push _
 refine P bJ (.q7 bN.objs.size) _ b4 cy (bE.same (ex _)) (bu.dc (ex _)) ⟨rfl,a,(b-a).toNat,?_,by rw[List.drop_zero];rfl⟩ ⟨λb ab=>?_,λb ab=>?_⟩ (λb ab=>?_) rfl
 ·have:Builtin.Range.rangeSize a b 1=(((b-a).toNat:Nat):Int):=by rw[rangeSize_one];split<;>lia
  rw[this]
  exact gA _ rfl
 ·simp only[ei.own,cK]at ab;subst ab;exact bE.lW hz
 ·simp only[ei.own,cK]at ab;subst ab;exact⟨_,_,gA _ rfl,rfl⟩
 ·simp only[ei.own,cK]at ab;subst ab;exact rO bu hz
def zO(xs:List D)(C:aa):Option ((List D×Option (Nat×List D))×aa):=match xs with
 |[.int b]=>if-(2^62)<=b/\b<2^62 then some ((m6 0 b,none),C)else none
 |[.int a,.int b]=>if-(2^62)<=a/\a<2^62/\-(2^62)<=b/\b<2^62 then some ((m6 a b,none),C)else none
 |_=>none
def kx(f:aY (List D×aa))(m:aK)(C:aa):Option ((List D×Option (Nat×List D))×aa):=(f m C).bind λx=>zO x.1 x.2
theorem Ws{xs:List D}{C:aa}{r}(h:zO xs C=some r):(∃b,xs=[.int b])\/∃a b,xs=[.int a,.int b]:=by
 cases xs with
 |nil=>exact bi h
 |cons x q=>cases x with
  |int a=>cases q with
   |nil=>exact .inl ⟨a,rfl⟩
   |cons y q=>cases y with
    |int b=>cases q with
     |nil=>exact .inr ⟨a,b,rfl⟩
     |cons z q=>exact bi h
    |_=>exact bi h
  |_=>exact bi h
theorem rG{e:Expr}{al:List Expr}{p pos:Pos}{f}(ab:no am "range" (.type "range")) (ar:aA.names.lookup ("range":Str)=some .globalImplicit) (hl:k4 prog w am n aA (e::al) f)
  (aZ:∀ae,starEach (e::al) ae=(false,eval e ae)::starEach al ae/\∀pos,(backTo pos (starEach al ae)).any (·.1)=false:=by exactλ_=>⟨rfl,λ_=>rfl⟩):
  k5 prog w am n aA (.Call (.Name "range" p) (e::al) [] pos) false (kx f):=by
 intro m C J src ao hf A ae I s Q E a5 F S P
 refine dw hf ?_;clear hf;intro xs aB hd hf
 refine wpAny_Call_Name_kw (pk ab F S ar ag ?_)
 refine PyProof.Rows.callWith_type1 (hl.run m C xs aB hd A ae pos I s _ E a5 F S λbJ vs bN b4 cy bE bu cs=>?_) (aZ ae).1 ((aZ ae).2 pos)
 rcases Ws hf with q|q
 ·refine a6 q λb hx=>?_;subst hx
  refine dB hf ?_;clear hf;intro ab hf
  cases hf
  refine b2 cs λv cX bY b3 au=>?_;clear cs;subst bY;refine a6 b3 λt cj=>?_;clear b3;subst cj
  rw[show cX=[]from au]
  refine call_range_1 (s:={s with heap:=bN,toks:=b4,drawn:=cy}) ?_
  have ex:∀bad,Ext bad bJ bN bJ (bN.push {cls:=.type "range",data:=.fields #[.int 0 b4,.int b t,.int 1 (b4+1)]}):=λ_=>Ext.push _
  exact IU (s:=s) ag ag ab.1 ab.2 (IsRange.new ..) (bE.same (ex _)) (bu.dc (ex _)) P
 ·refine iH q λa b hx=>?_;subst hx
  refine dB hf ?_;clear hf;intro ab hf
  cases hf
  refine a6 cs λv cA=>?_;clear cs;refine a6 cA λcX cQ=>?_;clear cA;refine bU cQ λdb d0=>?_;clear cQ;subst db;refine bU d0 λeF fg=>?_;clear d0;refine a6 eF λt ff=>?_;clear eF;subst ff;refine b2 fg λi5 Eo fq g6 au=>?_;clear fg;subst fq;refine a6 g6 λd1 i0=>?_;clear g6;subst i0
  rw[show Eo=[]from au]
  refine call_range_2 (s:={s with heap:=bN,toks:=b4,drawn:=cy}) ?_
  have ex:∀bad,Ext bad bJ bN bJ (bN.push {cls:=.type "range",data:=.fields #[.int a t,.int b d1,.int 1 b4]}):=λ_=>Ext.push _
  exact IU (s:=s) ab.1 ab.2.1 ab.2.2.1 ab.2.2.2 (IsRange.new ..) (bE.same (ex _)) (bu.dc (ex _)) P
end
noncomputable def ju(src:Option (Nat×List D))(a:D->aY (aK×aa))(b:aY (ca×aK×aa)):List D->aY (ca×aK×aa)
 |[],m,C=>if jw src C=true then some (.next,m,C)else none
 |d::J,m,C=>if jw src C=true then(a d m C).bind λx=>(b x.1 x.2).bind λy=>match y.1 with
  |.next=>ju src a b J y.2.1 y.2.2
  |.ret e=>some (.ret e,y.2.1,y.2.2)
  else none
def jX(f:aY ((List D×Option (Nat×List D))×aa))(a:D->aY (aK×aa))(b:aY (ca×aK×aa))(m:aK)(C:aa):Option (ca×aK×aa):=
 (f m C).bind λx=>ju x.1.2 a b x.1.1 m x.2
section
variable{prog:Program}{w:World}{am:Heap}{n:Nat}{aA:Scope}{K:Frag}
theorem de.DM{ae:Env}{m:aK}{I:a1}{h:Heap}(F:de am aA ae m I h){a:Addr}(aC:Own ae a):(∃o,h.get? a=some o)/\Clear (· =a) I h/\am.get? a=none:=by
 rcases aC with rfl|⟨x,ar⟩
 ·refine aG F.loc λfU aH _=>?_
  refine iw (id aH) λo al ce aD _=>?_
  exact⟨⟨o,aD⟩,ps aH,F.tZ⟩
 ·refine bU (F.so x a ar) λai bC=>?_;refine a6 bC λv ak=>?_;clear bC
  refine aG (id ak) λo aD _=>?_
  exact⟨⟨o,aD⟩,xN ak,ai⟩
theorem Ba{P Q:Addr->Prop}{I:a1}{h:Heap}(x:Clear P I h)(y:∀a,Q a->Clear (· =a) I h):Clear (λb=>P b\/Q b) I h:=λa aC=>by
 rcases aC with ai|ai
 ·exact x a ai
 ·exact y a ai a rfl
theorem de.Ge{ae:Env}{m:aK}{I:a1}{C:aa}{h:Heap}(F:de am aA ae m I h)(S:St prog w am I C h):Clear (λb=>b∈I\/Own ae b) I h:=
 Ba S.clear λa aC=>(F.DM aC).2.1
theorem h8.keep{k:ei}{I a4:a1}{h af:Heap}{bad:Addr->Prop}(x:h8 am k I h)(e:Ext bad I h a4 af)(aD:∀a∈k.own,¬bad a):h8 am k a4 af:=
 ⟨λa aC=>⟨λaR=>by
  refine dv (x.fields a aC) λo vs ai _=>?_
  exact(x.out a aC).1 (e.back ai aR),(x.out a aC).2⟩,λa aC=>by
  refine dv (x.fields a aC) λo vs ai ak=>?_
  exact⟨o,vs,e.kept _ _ ai (aD a aC),ak⟩⟩
theorem de.iter{ae:Env}{m:aK}{k:ei}{I:a1}{h af:Heap}(F:de am aA ae m I h)(ap:h8 am k I h)(e:Ext (· ∈k.own) I h I af):de am aA ae m I af:=
 F.ext ap.clear e (λab=>by
  refine dv (ap.fields _ ab) λo vs ai ak=>?_
  refine aG F.loc λfU bY _=>?_;refine d4 bY λd8 al ce en cW _=>?_;clear bY
  rw[ai]at en;refine c0 en λcQ=>?_;clear en;subst cQ;rw[ak]at cW;cases cW) λc v ⟨d8,en,cW⟩ ab=>by
  refine dv (ap.fields _ ab) λo vs ai ak=>?_
  rw[ai]at en;refine c0 en λeF=>?_;clear en;subst eF;rw[ak]at cW;cases cW
theorem de.IR{ae:Env}{m:aK}{k:ei}{I:a1}{h af:Heap}(F:de am aA ae m I h)(ap:h8 am k I h)(e:e8 (· ∈k.own) I h I af):de am aA ae m I af:=
 F.ext3 ap.clear e (λab=>by
  refine dv (ap.fields _ ab) λo vs ai ak=>?_
  refine aG F.loc λfU b3 _=>?_;refine d4 b3 λd8 al ce en cW _=>?_;clear b3
  rw[ai]at en;refine c0 en λfq=>?_;clear en;subst fq;rw[ak]at cW;cases cW) λc v ⟨d8,en,cW⟩ ab=>by
  refine dv (ap.fields _ ab) λo vs ai ak=>?_
  rw[ai]at en;refine c0 en λhq=>?_;clear en;subst hq;rw[ak]at cW;cases cW
theorem Ext.DK{bad ph:Addr->Prop}{I a4 kI:a1}{h af dV:Heap}(x:Ext bad I h a4 af)(y:e8 ph a4 af kI dV)(ab:∀b o,h.get? b=some o->ph b->False):Ext bad I h kI dV:=by
 refine⟨?_,λa aC=>?_,λb o e aH=>y.kept b o (x.kept b o e aH) λq=>ab b o e q,λb o e=>?_⟩
 ·refine a6 x.pre λh0 cj=>?_;subst cj
  refine a6 y.pre λiY cA=>?_;subst cA
  exact⟨h0++iY,by simp⟩
 ·rcases y.fresh a aC with ai|ai
  ·exact x.fresh a ai
  ·cases q:h.get? a with
   |none=>exact .inr rfl
   |some o=>
    refine a6 (x.alive a o q) λd8 en=>?_
    rw[en]at ai;exact bi ai.symm
 ·refine a6 (x.alive b o e) λd8 en=>?_
  exact⟨d8,y.kept b d8 en λq=>ab b o e q⟩
theorem wr{k:ei}{src:Option (Nat×List D)}{J:List D}{i:Nat}{I a4:a1}{h af:Heap}{bad:Addr->Prop}(x:kh k src J i I h/\h8 am k I h)(e:Ext bad I h a4 af)(ax:Clear bad I h)(aD:∀a∈k.own,¬bad a):kh k src J i a4 af/\h8 am k a4 af:=
 ⟨C0 x.1 e ax aD,x.2.keep e aD⟩
theorem ye{h:Heap}{I:a1}{a b:ca}{q:Flow}(e:a=b)(r:Aw h I a q):Aw h I b q:=e▸r
inductive xx(prog:Program)(w:World)(am:Heap)(aA:Scope)(ae:Env)(a:D->aY (aK×aa))(b:aY (ca×aK×aa))(k:ei)(src:Option (Nat×List D))(J:List D)(e:ca×aK×aa)(I:a1)(s:Shared):Nat->Shared->Prop
 |mk (a4:a1) (fN:aK) (a8:aa) (i:Nat) (af:Heap) (bm:Nat) (ct) (S:St prog w am a4 a8 af) (E:hE ae I s.heap a4 af) (F:de am aA ae fN a4 af) (it:kh k src J i a4 af/\h8 am k a4 af)
  (av:ju src a b (J.drop i) fN a8=some e) (hi:i<=J.length):xx prog w am aA ae a b k src J e I s (J.length+1-i) {s with heap:=af,toks:=bm,drawn:=ct}
theorem ow{t it:Expr}{body:List Stmt}{pos:Pos}{f a b}{eS:Bool}(hi:k5 prog w am n aA it eS f)(aC:sK prog w am n aA t a)(ab:oY prog w am n aA body b)
  (bK:isTup t=true\/(isName t=true/\eS=false)) (aZ:∀(ae:Env) (x:Value),foldedSetIterable it ae x=pure x):lQ prog w am n aA (.For t it body [] pos) (jX f a b):=by
 intro m C c3 bh ao hf A ae I s Q E a5 F S P
 refine cI hf λx hd hf=>?_
 obtain ⟨⟨J,src⟩,aB⟩:=x
 refine wpAny_For (hi m C J src aB hd A ae I s _ E a5 F S λbJ k bN b4 cy bE bu it₁ o9 qD aq=>?_) (aZ ae)
 haveI j0:=ei.fits_of aq bK
 haveI DL:∀b o,s.heap.get? b=some o->b∈k.own->False:=λb o ab aq=>by rw[qD b aq]at ab;exact bi ab
 haveI apart:∀{cG cE},h8 am k cG cE->∀b,b∈k.own->¬(b∈cG\/Own ae b):=λap b ab aL=>aL.elim (ap.out b ab).1 λaL=>(F.DM aL).1.elim λo aD=>DL b o aD ab
 refine PV (xx prog w am aA ae a b k src J (c3,bh,ao) I s) (λc bT ed=>?_) (J.length+1) (xx.mk bJ m aB 0 bN b4 cy bE (.of0 bu) (F.cM S bu) ⟨it₁,o9⟩ hf (es _))
 clear hf hd hi S F bE bu it₁ o9 qD
 cases ed with
 |mk a4 fN a8 i af bm ct dP bO fP iV av nF=>
 by_cases cz:i<J.length
 ·rw[List.drop_eq_getElem_cons cz]at av
  refine dB av λpJ av=>dw av λim cg a2 av=>cI av λy a9 av=>?_
  refine hW (IT (uC:=notedBy (model prog w) A ae λe bT=>cameBackBy (model prog w) A ae E e bT) (s:={s with heap:=af,toks:=bm,drawn:=ct}) iV.1 iV.2 (gz cz) (yv pJ) dP j0 (Q:=?Q) λv cE cN cU cb b0 dp it₂ qn=>?main) (λr dD au=>?sec) λ_ _ h=>h
  case sec=>
   cases r with
   |none=>exact au.elim
   |some v=>exact au
  case main=>
   haveI hc:de am aA ae fN a4 cE:=fP.iter iV.2 b0
   refine aC _ fN a8 im cg a2 A ae a4 {s with heap:=cE,toks:=cN,drawn:=cU} v _ _ a5 hc cb dp λjL eT jG jI eR fJ nk=>?_
   haveI qX:=wr ⟨it₂,qn⟩ fJ (hc.Ge cb) (apart qn)
   obtain ⟨rQ,sk,eh⟩:=y
   refine ab im cg rQ sk eh a9 A ae jL {s with heap:=eT,toks:=jG,drawn:=jI} _ _ a5 nk eR λmx q jz n4 n9 lb jU kJ jf=>?_
   haveI x5:hE ae I s.heap mx jz:=(hE.trans (bO.DK b0.to3 DL) fJ).trans jU
   cases rQ with
   |next=>
    rw[show q=.next from jf]
    exact⟨J.length+1-(i+1),Nat.sub_lt_sub_left (Nat.lt_succ_of_lt cz) (oc i),xx.mk mx sk eh (i+1) jz n4 n9 lb x5 kJ (wr qX jU (nk.Ge eR) (apart qX.2)) av cz⟩
   |ret d=>
    haveI kP:=Option.some.inj av
    refine aG jf λu aL cR=>?_
    rw[aL]
    exact P mx (.ret u) jz n4 n9 ((bb (λu=>u.2.2) kP:eh=ao)▸lb) x5 ((bb (λu=>u.2.1) kP:sk=bh)▸kJ) (ye (bb Prod.fst kP:ca.ret d=c3) ⟨u,rfl,cR⟩)
 ·haveI v6:=Nat.le_of_not_lt cz
  rw[List.drop_of_length_le v6]at av
  refine dB av λpJ av=>?_
  haveI kP:=Option.some.inj av
  refine hW (IS (s:={s with heap:=af,toks:=bm,drawn:=ct}) a5.1 iV.1 iV.2 v6 (yv pJ) dP (Q:=λr dD=>r=none/\wpAny (model prog w) A (execs [] ae) _ _ dD) λcE cN cU cb b0=>⟨rfl,?_⟩) (λr dD au=>au.1▸au.2) λ_ _ h=>h
  exact wpAny_execs_nil (P a4 .next cE cN cU ((bb (λu=>u.2.2) kP:a8=ao)▸cb) (bO.DK b0 DL) ((bb (λu=>u.2.1) kP:fN=bh)▸fP.IR iV.2 b0) (ye (bb Prod.fst kP:ca.next=c3) rfl))
end
noncomputable def n8(c:aY (Bool×aa))(b:aY (ca×aK×aa)):Nat->aY (ca×aK×aa)
 |0,_,_=>none
 |k+1,m,C=>(c m C).bind λx=>if x.1=true then(b m x.2).bind λy=>match y.1 with
   |.next=>n8 c b k y.2.1 y.2.2
   |.ret d=>some (.ret d,y.2.1,y.2.2)
  else some (.next,m,x.2)
theorem EZ{c:aY (Bool×aa)}{b:aY (ca×aK×aa)}:∀(k j:Nat) (m:aK) (C:aa) r,k<=j->n8 c b k m C=some r->n8 c b j m C=some r
 |0,_,_,_,_,_,h=>by exact bi h
 |k+1,0,_,_,_,bn,_=>by lia
 |k+1,j+1,m,C,r,bn,h=>by
  unfold n8 at h⊢
  refine cI h ?_;clear h;intro x ar h
  rw[ar]
  rw[rk]
  refine oJ h ?_ ?_<;>clear h<;>intro _ h
  ·rename_i bK
   rw[a3 bK]
   refine cI h ?_;clear h;intro y bc h
   rw[bc,rk]
   split at h
   ·rename_i aH
    exact EZ k j _ _ _ (by lia) h
   ·exact h
  ·rename_i bK
   rw[bq bK];exact h
def kd(c:aY (Bool×aa))(b:aY (ca×aK×aa))(m:aK)(C:aa):Option (ca×aK×aa):=
 open Classical in if h:∃k r,n8 c b k m C=some r then some h.choose_spec.choose else none
theorem xj{c:aY (Bool×aa)}{b:aY (ca×aK×aa)}{m:aK}{C:aa}{r}:kd c b m C=some r↔∃k,n8 c b k m C=some r:=by
 constructor
 ·intro h
  unfold kd at h
  split at h
  ·rename_i ar
   refine c0 h λbC=>?_;clear h;subst bC
   exact⟨_,ar.choose_spec.choose_spec⟩
  ·exact bi h
 ·intro a2;refine a6 a2 λk h=>?_;clear a2
  have ar:∃k r,n8 c b k m C=some r:=⟨k,r,h⟩
  unfold kd
  rw[dif_pos ar]
  have ak:=ar.choose_spec.choose_spec
  have aV:=EZ _ (max k ar.choose) _ _ _ (Nat.le_max_right _ _) ak
  have bL:=EZ _ (max k ar.choose) _ _ _ (Nat.le_max_left _ _) h
  rw[bL]at aV
  exact aV.symm
theorem xi{c:aY (Bool×aa)}{b:aY (ca×aK×aa)}{m:aK}{C ao:aa}(h:c m C=some (false,ao)):kd c b m C=some (.next,m,ao):=
 xj.mpr ⟨1,by unfold n8;rw[h];rfl⟩
theorem xk{c:aY (Bool×aa)}{b:aY (ca×aK×aa)}{m bh:aK}{C ao h7:aa}{r}(h:c m C=some (true,ao))(af:b m ao=some (.next,bh,h7))(au:kd c b bh h7=some r):kd c b m C=some r:=by
 refine a6 (xj.mp au) λk aq=>?_
 exact xj.mpr ⟨k+1,by unfold n8;rw[h,rk,a3 rfl,af,rk];exact aq⟩
theorem aaz{c:aY (Bool×aa)}{b:aY (ca×aK×aa)}{m bh:aK}{C ao h7:aa}{d}(h:c m C=some (true,ao))(af:b m ao=some (.ret d,bh,h7)):kd c b m C=some (.ret d,bh,h7):=
 xj.mpr ⟨1,by unfold n8;rw[h,rk,a3 rfl,af,rk]⟩
section
variable{prog:Program}{w:World}{am:Heap}{n:Nat}{aA:Scope}{K:Frag}
inductive xB(prog:Program)(w:World)(am:Heap)(aA:Scope)(ae:Env)(c:aY (Bool×aa))(b:aY (ca×aK×aa))(e:ca×aK×aa)(I:a1)(s:Shared):Nat->Shared->Prop
 |mk (ez:Nat) (a4:a1) (fN:aK) (a8:aa) (af:Heap) (bm:Nat) (ct) (S:St prog w am a4 a8 af) (E:hE ae I s.heap a4 af) (F:de am aA ae fN a4 af) (hw:n8 c b ez fN a8=some e):xB prog w am aA ae c b e I s ez {s with heap:=af,toks:=bm,drawn:=ct}
theorem u5{t:Expr}{body:List Stmt}{pos:Pos}{c b}(bK:jN prog w am n aA t c)(ab:oY prog w am n aA body b):lQ prog w am n aA (.While t body [] pos) (kd c b):=by
 intro m C c3 bh ao hf A ae I s Q E a5 F S P
 refine(xj.mp hf).elim λk aq=>?_
 rw[exec_While]
 refine aI (wpAny_standAt (wpAny_runOwn (codeAny_whileLoop (xB prog w am aA ae c b (c3,bh,ao) I s) (λez bT ed=>?_) k (xB.mk k I m C s.heap s.toks s.drawn S .refl F aq))))
 clear hf aq S F
 cases ed with
 |mk a4 fN a8 af bm ct dP bO fP hw=>
 cases ez with
 |zero=>exact bi hw
 |succ ez=>
  refine dw (o:=c fN a8) hw λx cg ar hw=>?_
  refine bK fN a8 x cg ar A ae a4 {s with heap:=af,toks:=bm,drawn:=ct} _ _ a5 fP dP λbJ bN b4 cy bE bu=>?_
  have kg:=fP.cM dP bu
  have Ar:hE ae I s.heap bJ bN:=bO.trans (.of0 bu)
  cases x with
  |true=>
   refine AX (o:=b fN cg) hw λrQ sk eh a9 hw=>?_
   refine ab fN cg rQ sk eh a9 A ae bJ {s with heap:=bN,toks:=b4,drawn:=cy} _ _ a5 kg bE λcG q cE cN cU cb b0 hc jf=>?_
   cases rQ with
   |next=>
    rw[show q=.next from jf]
    exact⟨ez,oc _,xB.mk ez cG sk eh cE cN cU cb (Ar.trans b0) hc hw⟩
   |ret d=>
    have kP:=Option.some.inj hw
    refine aG jf λu aL cR=>?_
    rw[aL]
    exact P cG (.ret u) cE cN cU ((bb (λu=>u.2.2) kP:eh=ao)▸cb) (Ar.trans b0) ((bb (λu=>u.2.1) kP:sk=bh)▸hc) (ye (bb Prod.fst kP:ca.ret d=c3) ⟨u,rfl,cR⟩)
  |false=>
   have kP:=Option.some.inj hw
   exact wpAny_execs_nil (P bJ .next bN b4 cy ((bb (λu=>u.2.2) kP:cg=ao)▸bE) Ar ((bb (λu=>u.2.1) kP:fN=bh)▸kg) (ye (bb Prod.fst kP:ca.next=c3) rfl))
end
noncomputable def fA(scope aA:Scope):Scope:=
 {scope with names:=scope.names.map λ(n,k)=>if(k==.free&&aA.kind==.function&&aA.names.lookup n==some .cell)then(n,.cell)else(n,k)}
theorem Wz{scope:Scope}{ae:Env}{aA:Scope}(h:ae.scope=aA):relabel scope ae=fA scope aA:=by subst h;rfl
noncomputable def jr(ae:Env):List (Str×NameKind)->List (Str×Addr)->List (Str×Addr)
 |[],bz=>bz
 |(n,k)::r,bz=>if(k==.free)=true then jr ae r ((n,(ae.cells.lookup n).getD 0)::bz)else jr ae r bz
theorem Bb(ae:Env)(f:Str×NameKind->List (Str×Addr)->Sem (ForInStep (List (Str×Addr))))
  (hf:∀name kind bk,f (name,kind) bk=if(kind==.free)=true then(do let c←cellOf ae name;pure (.yield ((name,c)::bk)))else pure (.yield bk)):
  ∀(names:List (Str×NameKind)) (bz:List (Str×Addr)),(∀p∈names,p.2=.free->(ae.cells.lookup p.1).isSome=true)->forIn names bz f=pure (jr ae names bz)
 |[],bz,_=>by rw[List.forIn_nil];rfl
 |(n,k)::r,bz,h=>by
  rw[List.forIn_cons,hf]
  unfold jr
  haveI au:∀p∈r,p.2=.free->(ae.cells.lookup p.1).isSome=true:=λp aF=>h p (nf _ aF)
  by_cases aq:(k==NameKind.free)=true
  ·rw[a3 aq,a3 aq]
   refine a6 (Option.isSome_iff_exists.mp (h (n,k) nc (by simpa using aq))) λc ax=>?_
   haveI e:cellOf ae n=pure c:=by unfold cellOf;rw[show ae.cells.lookup n=some c from ax]
   rw[e,pure_bind,pure_bind]
   rw[show ae.cells.lookup n=some c from ax,Option.getD_some]
   exact Bb ae f hf r _ au
  ·rw[bq aq,bq aq,pure_bind]
   exact Bb ae f hf r _ au
theorem Oa{scope:Scope}{ae:Env}(h:∀p∈scope.names,p.2=.free->(ae.cells.lookup p.1).isSome=true):closureFor scope ae=pure (jr ae scope.names []):=by
 simp only[closureFor]
 rw[Bb ae _ (λname kind bk=>?_) scope.names [] h]at⊢
 ·rfl
 ·rfl
theorem xM(ae:Env)(x:Str):∀(names:List (Str×NameKind)) (bz:List (Str×Addr)),(jr ae names bz).lookup x=if(x,NameKind.free)∈names then some ((ae.cells.lookup x).getD 0)else bz.lookup x
 |[],bz=>by simp[jr]
 |(n,k)::r,bz=>by
  unfold jr
  by_cases aq:(k==NameKind.free)=true
  ·rw[a3 aq,xM ae x r]
   haveI dt:k=.free:=by simpa using aq
   subst dt
   by_cases ar:x=n
   ·subst ar
    simp
   ·haveI ab:(x==n)=false:=by simpa using ar
    rw[gV,ab]
    simp[ar]
  ·rw[bq aq,xM ae x r]
   haveI dt:k≠.free:=by simpa using aq
   haveI:((x,NameKind.free)∈(n,k)::r)↔(x,NameKind.free)∈r:=by
    rw[dS]
    constructor
    ·rintro (e|e)
     ·cases e;exact absurd rfl dt
     ·exact e
    ·exact .inr
   simp only[this]
theorem A6:∀(names:List (Str×NameKind)) (n:Nat) (bz:List (Str×Addr)) (x:Str),(x,NameKind.cell)∉names->(cellsFrom n names bz).lookup x=bz.lookup x
 |[],_,_,_,_=>rfl
 |(y,k)::r,n,bz,x,h=>by
  unfold cellsFrom
  have au:(x,NameKind.cell)∉r:=λq=>h (nf _ q)
  split
  ·rename_i aq
   rw[A6 r _ _ x au]
   have dt:k=.cell:=by simpa using aq
   subst dt
   have ab:(x==y)=false:=by
    rw[beq_eq_false_iff_ne];rintro rfl;exact h nc
   rw[gV,ab]
  ·exact A6 r _ _ x au
theorem A4:∀(names:List (Str×NameKind)) (h:Heap) (bz:List (Str×Addr)) (x:Str) (c:Addr),(cellsFrom h.objs.size names bz).lookup x=some c->
  (bz.lookup x=some c)\/(h.objs.size<=c/\(x,NameKind.cell)∈names/\(pushCells h names).IsCell c none)
 |[],_,_,_,_,e=>.inl e
 |(y,k)::r,h,bz,x,c,e=>by
  unfold cellsFrom at e
  unfold pushCells
  split at e
  ·rename_i aq
   rw[a3 aq]
   haveI dt:k=.cell:=by simpa using aq
   subst dt
   haveI aZ:(h.push {cls:=.type "cell",data:=.cell none}).objs.size=h.objs.size+1:=Heap.size_push ..
   rw[←aZ]at e
   rcases A4 r _ _ x c e with q|⟨a2,a9,bC⟩
   ·rw[gV]at q
    cases ab:x==y with
    |true=>
     rw[ab]at q;refine c0 q λff=>?_;clear q;subst ff
     haveI jc:x=y:=by simpa using ab
     subst jc
     exact .inr ⟨bD _,nc,⟨_,pushCells_keeps _ _ _ _ (gA _ rfl),rfl⟩⟩
    |false=>rw[ab]at q;exact .inl q
   ·rw[aZ]at a2
    exact .inr ⟨by lia,nf _ a9,bC⟩
  ·rename_i aq
   rw[bq aq]
   rcases A4 r h bz x c e with q|⟨a2,a9,bC⟩
   ·exact .inl q
   ·exact .inr ⟨a2,nf _ a9,bC⟩
theorem A5:∀(names:List (Str×NameKind)) (n lo:Nat) (bz:List (Str×Addr)),(∀x c,bz.lookup x=some c->c<n)->(∀x y c,bz.lookup x=some c->bz.lookup y=some c->lo<=c->x=y)->
  ∀x y c,(cellsFrom n names bz).lookup x=some c->(cellsFrom n names bz).lookup y=some c->lo<=c->x=y
 |[],_,_,_,_,h=>h
 |(z,k)::r,n,lo,bz,ab,h=>by
  unfold cellsFrom
  split
  ·refine A5 r (n+1) lo _ (λx c e=>?_) (λx y c aS bf aw=>?_)
   ·rw[gV]at e
    split at e
    ·refine c0 e λg6=>?_;clear e;subst g6;exact oc _
    ·exact Nat.lt_succ_of_lt (ab x c e)
   ·rw[gV]at aS bf
    cases ai:x==z with
    |true=>
     rw[ai]at aS;refine c0 aS λhR=>?_;clear aS;subst hR
     cases ak:y==z with
     |true=>rw[show x=z by simpa using ai,show y=z by simpa using ak]
     |false=>rw[ak]at bf;exact absurd (ab y _ bf) (ji _)
    |false=>
     rw[ai]at aS
     cases ak:y==z with
     |true=>rw[ak]at bf;refine c0 bf λkW=>?_;clear bf;subst kW;exact absurd (ab x _ aS) (ji _)
     |false=>rw[ak]at bf;exact h x y c aS bf aw
  ·exact A5 r n lo bz ab h
noncomputable def Be(scope aA:Scope):List (Option Nat):=scope.names.map λp=>if(p.2==.free)=true then(aA.names.map (·.1)).idxOf? p.1 else none
def kL(cw:List (Option Nat))(m:aK):aK:=cw.map λo=>o.bind λi=>m.at i
noncomputable def kb(scope:Scope):List Str:=(scope.names.filter λp=>p.2==.cell).map (·.1)
noncomputable def sR(xs:List Str)(ae:Env)(b:Addr):Prop:=b=ae.locals\/∃x∈xs,ae.cells.lookup x=some b
structure lO(scope aA:Scope)(cw:List (Option Nat)):Prop where
 kind:scope.kind=.function
 nodup:(scope.names.map (·.1)).Nodup
 free:∀p∈scope.names,p.2=.free->aA.names.lookup p.1=some .cell
 cw:Be scope aA=cw
section
variable{prog:Program}{w:World}{am:Heap}{n:Nat}{aA scope:Scope}{cw:List (Option Nat)}
theorem Jm:∀{l:List (Str×NameKind)} {x:Str} {k:NameKind},l.lookup x=some k->∃i,(l.map (·.1)).idxOf? x=some i/\l[i]?=some (x,k)
 |(y,q)::r,x,k,h=>by
  rw[gV]at h
  cases ab:x==y with
  |true=>
   rw[ab]at h;refine c0 h λm4=>?_;clear h;subst m4
   haveI:x=y:=by simpa using ab
   subst this
   exact⟨0,by simp[List.idxOf?_cons],rfl⟩
  |false=>
   rw[ab]at h
   refine aG (Jm h) λi ai ak=>?_
   haveI hO:(y==x)=false:=by rw[beq_eq_false_iff_ne];rintro rfl;simp at ab
   exact⟨i+1,by rw[gm,List.idxOf?_cons,hO,ai];rfl,by rw[List.getElem?_cons_succ];exact ak⟩
theorem lO.cellAt(bI:lO scope aA cw){ae:Env}{m:aK}{I:a1}{h:Heap}(F:de am aA ae m I h){x:Str}(ar:(x,NameKind.free)∈scope.names):
  ∃j c v,(aA.names.map (·.1)).idxOf? x=some j/\aA.names[j]?=some (x,.cell)/\ae.cells.lookup x=some c/\h.IsCell c v/\jo h I (m.at j) v:=by
 refine aG (Jm (bI.free _ ar rfl)) λj ai ak=>?_
 refine b2 (F.cell j x _ ak (.inl rfl)) λc v a2 a9 bC=>?_
 exact⟨j,c,v,ai,ak,a2,a9,bC⟩
theorem lO.closure(bI:lO scope aA cw){ae:Env}{m:aK}{I:a1}{h:Heap}(F:de am aA ae m I h):closureFor scope ae=pure (jr ae scope.names []):=
 Oa λp aF aq=>by
  haveI d7:(p.1,NameKind.free)∈scope.names:=by rw[←aq];exact aF
  refine lI (bI.cellAt F d7) λj c v _ _ ai _=>?_
  rw[ai];rfl
def compEnv(scope aA:Scope)(cells:List (Str×Addr))(bI:Addr)(ae:Env):Env:=
 {scope:=fA scope aA,locals:=bI,globals:=ae.globals,cells:=cells,qual:=ae.qual,func:=none,code:=ae.code,frame:=ae.frame,builtins:=ae.builtins}
theorem zQ{i:Nat}{x:Str}{k:NameKind}(h:(fA scope aA).names[i]?=some (x,k)):∃lC,scope.names[i]?=some (x,lC)/\
  (k=if(lC==.free&&aA.kind==.function&&aA.names.lookup x==some .cell)=true then .cell else lC):=by
 simp only[fA,iM]at h
 refine lG h ?_;clear h;intro y lC ai ak
 dsimp only at ak
 refine oJ ak ?_ ?_<;>clear ak<;>intro _ ak
 ·rename_i ax
  cases ak
  exact⟨lC,ai,by rw[a3 ax]⟩
 ·rename_i ax
  cases ak
  exact⟨k,ai,by rw[bq ax]⟩
theorem F6(bI:lO scope aA cw){m:aK}{i:Nat}{x:Str}{lC:NameKind}(h:scope.names[i]?=some (x,lC)):(kL cw m).at i=if(lC==.free)=true then((aA.names.map (·.1)).idxOf? x).bind (λi=>m.at i)else none:=by
 unfold aK.at kL
 rw[kC,iM,←bI.cw,Be,iM,h]
 simp only[Option.map_some,Option.getD_some]
 split
 ·rfl
 ·rfl
theorem Oi(bI:lO scope aA cw){ae:Env}{m:aK}{I:a1}{C:aa}{h:Heap}(F:de am aA ae m I h)(S:St prog w am I C h){qt:Obj}(QQ:qt={cls:=.type "dict",data:=.dict #[]}):
  de am (fA scope aA) (compEnv scope aA (cellsFrom (h.objs.size+1) scope.names (jr ae scope.names [])) h.objs.size ae) (kL cw m) I (pushCells (h.push qt) scope.names)/\
  (∀b o,h.get? b=some o->(pushCells (h.push qt) scope.names).get? b=some o)/\
  (∀b,sR (kb scope) (compEnv scope aA (cellsFrom (h.objs.size+1) scope.names (jr ae scope.names [])) h.objs.size ae) b->h.objs.size<=b):=by
 have aZ:(h.push qt).objs.size=h.objs.size+1:=Heap.size_push ..
 have keep:∀b o,h.get? b=some o->(pushCells (h.push qt) scope.names).get? b=some o:=λb o e=>pushCells_keeps _ _ b o (fO _ e)
 have ex:∀bad,Ext bad I h I (pushCells (h.push qt) scope.names):=λbad=>Ext.mj keep
 have base:∀b,h.objs.size<=b->am.get? b=none:=λb ab=>(S.lW (rT h ab)).2
 have A9:∀x c,(jr ae scope.names []).lookup x=some c->(x,NameKind.free)∈scope.names/\ae.cells.lookup x=some c/\c<h.objs.size:=λx c e=>by
  rw[xM]at e
  refine dB e ?_;clear e;intro ar e
  refine hs (bI.cellAt F ar) λj ez v _ _ ai cj _=>?_;refine aG cj λo ak _=>?_;clear cj
  rw[ai]at e;refine c0 e λmn=>?_;clear e;subst mn
  exact⟨ar,ai,e7 ak⟩
 have u3:∀x c,(cellsFrom (h.objs.size+1) scope.names (jr ae scope.names [])).lookup x=some c->((x,NameKind.free)∈scope.names/\ae.cells.lookup x=some c/\c<h.objs.size)\/
   (h.objs.size+1<=c/\(x,NameKind.cell)∈scope.names/\(pushCells (h.push qt) scope.names).IsCell c none):=λx c e=>by
  rw[←aZ]at e
  rcases A4 _ _ _ x c e with q|q
  ·exact .inl (A9 x c q)
  ·rw[aZ]at q;exact .inr q
 have AN:∀{x:Str} {k bZ:NameKind},(x,k)∈scope.names->(x,bZ)∈scope.names->k=bZ:=λ{x k bZ} ai ak=>by
  refine a6 (List.mem_iff_getElem.mp ai) λi cA=>?_;refine a6 cA λhi ic=>?_;clear cA
  refine a6 (List.mem_iff_getElem.mp ak) λj cQ=>?_;refine a6 cQ λbn mH=>?_;clear cQ
  have aS:scope.names[i]?=some (x,k):=by rw[gz hi,ic]
  have bf:scope.names[j]?=some (x,bZ):=by rw[gz bn,mH]
  have:=Dy bI.nodup aS bf rfl
  subst this
  rw[aS]at bf;cases bf;rfl
 refine⟨⟨rfl,bI.kind,F.glob,F.blt,?_,?_,?_,base _ (bD _),λx c ax=>?_,⟨λ_=>none,?_,λi x hi=>?_⟩,λi x k hi aq=>?_,λi j x y k bZ c hi bn aq dt aS bf=>?_⟩,keep,?_⟩
 ·have:(fA scope aA).names.map (·.1)=scope.names.map (·.1):=by
   simp only[fA,fj]
   refine kE λp _=>?_
   simp only[Function.comp]
   split<;>rfl
  rw[this];exact bI.nodup
 ·refine(?_:(kL cw m).length=(fA scope aA).names.length)
  simp[kL,fA,←bI.cw,Be]
 ·intro aR
  refine aG (S.there aR) λo aD _=>?_
  rw[show(compEnv scope aA _ h.objs.size ae).locals=h.objs.size from rfl,i2]at aD;exact bi aD
 ·rcases u3 x c ax with⟨_,ai,ak⟩|⟨ai,_,ak⟩
  ·refine bU (F.so x c ai) λa2 db=>?_;refine dv db λv o a9 bC=>?_;clear db
   exact⟨a2,v,o,keep _ _ a9,bC⟩
  ·exact⟨base _ (by lia),_,ak⟩
 ·subst QQ
  exact(Heap.Ns.new h (.type "dict")).keeps (pushCells_keeps _ _)
 ·refine aG (zQ hi) λlC ai ak=>?_
  rw[F6 bI ai]
  split at ak
  ·cases ak
  ·subst ak
   exact rfl
 ·refine aG (zQ hi) λlC ai ak=>?_
  rw[F6 bI ai]
  have aR:(x,lC)∈scope.names:=eN ai
  by_cases hf:lC=.free
  ·subst hf
   refine hs (bI.cellAt F aR) λj c v a2 a9 bC bY b3=>?_
   refine⟨c,v,?_,?_,?_⟩
   ·refine(?_:(cellsFrom (h.objs.size+1) scope.names (jr ae scope.names [])).lookup x=some c)
    rw[A6 _ _ _ _ (λf5=>by cases AN aR f5),xM,a3 aR,bC];rfl
   ·refine aG bY λo aD hd=>?_;clear bY
    exact⟨o,keep _ _ aD,hd⟩
   ·rw[a3 (by rfl),a2]
    exact b3.ext .none (ex _)
  ·have Rr:lC=.cell:=by
    have:(lC==NameKind.free)=false:=by simpa using hf
    rw[this]at ak
    simp at ak
    subst ak
    rcases aq with e|e
    ·exact e
    ·exact absurd e hf
   subst Rr
   refine a6 (Option.isSome_iff_exists.mp (u4 scope.names (h.objs.size+1) (jr ae scope.names []) x (.inr aR))) λc ax=>?_
   refine⟨c,none,ax,?_,?_⟩
   ·rcases u3 x c ax with⟨q,_⟩|⟨_,_,q⟩
    ·cases AN aR q
    ·exact q
   ·exact rfl
 ·have x3:(cellsFrom (h.objs.size+1) scope.names (jr ae scope.names [])).lookup x=some c:=aS
  have GP:(cellsFrom (h.objs.size+1) scope.names (jr ae scope.names [])).lookup y=some c:=bf
  refine aG (zQ hi) λc6 dW _=>?_
  refine aG (zQ bn) λdH pK _=>?_
  suffices x=y from Dy bI.nodup dW pK this
  rcases u3 x c x3 with⟨aX,bg,bQ⟩|⟨aX,bg,bQ⟩<;>rcases u3 y c GP with⟨kk,kl,pb⟩|⟨kk,kl,pb⟩
  ·refine hs (bI.cellAt F aX) λS9 c₁ _ _ a9 bC _ _=>?_
   refine hs (bI.cellAt F kk) λTa c₂ _ _ bx cx _ _=>?_
   have:=F.apart S9 Ta x y _ _ c a9 bx (.inl rfl) (.inl rfl) bg kl
   subst this
   rw[a9]at bx;cases bx;rfl
  ·exact absurd (dE bQ (i7 kk)) (ji _)
  ·exact absurd (dE pb (i7 aX)) (ji _)
  ·refine A5 scope.names (h.objs.size+1) (h.objs.size+1) _ (λx c e=>?_) (λx y c e _ aw=>?_) x y c x3 GP aX
   ·exact Nat.lt_succ_of_lt (A9 x c e).2.2
   ·exact absurd (dE (A9 x c e).2.2 (i7 aw)) (ji _)
 ·intro b ab
  rcases ab with rfl|⟨x,ar,ax⟩
  ·exact bD _
  ·have aR:(x,NameKind.cell)∈scope.names:=by
    simp only[kb,b5,jj]at ar
    refine E6 ar λy k d0 eF=>?_;clear ar;refine bU d0 λai ak=>?_;clear d0;subst eF
    have:k=.cell:=by simpa using ak
    subst this;exact ai
   rcases u3 x b ax with⟨q,_⟩|⟨q,_⟩
   ·cases AN aR q
   ·exact i7 q
end
section
variable{M:Model}{A:Around}{E:Value->Shared->Prop}{s:Shared}
theorem Y9{scope:Scope}{cl:List (Str×Addr)}{ae:Env}{Q:Env->Shared->Prop}
  (gc:Q {scope,locals:=s.heap.objs.size,globals:=ae.globals,cells:=cellsFrom (s.heap.objs.size+1) scope.names cl,qual:=ae.qual,func:=none,code:=ae.code,frame:=ae.frame,builtins:=ae.builtins}
   {s with heap:=pushCells (s.heap.push {cls:=.type "dict",data:=.dict #[]}) scope.names}):
  wpAny M A (newFunctionEnv scope ae.globals cl [] ae.qual none .none (some ae)) Q E s:=by
 simp only[newFunctionEnv,Option.isSome_some,if_true]
 refine aI (wpAny_alloc ?_)
 refine aI (wpAny_layCells _ (λname kind cells=>by cases yK:kind==NameKind.cell<;>simp) _ _ _ _ ?_)
 rw[show({s with heap:=s.heap.push {cls:=.type "dict",data:=.dict #[]}}:Shared).heap.objs.size=s.heap.objs.size+1 from Heap.size_push ..]
 rw[List.forIn_nil]
 exact aI (bj (bj gc))
end
structure AccAt(am:Heap)(ad:Addr)(bz:List D)(I:a1)(h:Heap):Prop where
 out:ad∉I
 new:am.get? ad=none
 three:3<ad
 holds:∃vs k,h.get? ad=some (seqObj "list" vs.toArray k)/\bt h I bz vs
theorem AccAt.qW{am:Heap}{ad:Addr}{bz:List D}{I:a1}{h:Heap}(x:AccAt am ad bz I h):(∀m,¬h.Ns ad m)/\(∀v,¬h.IsCell ad v)/\Clear (· =ad) I h:=by
 refine dv x.holds λvs k av _=>?_
 refine⟨λm ⟨o,al,ce,aD,hd,_⟩=>?_,λv ⟨o,aD,hd⟩=>?_,λa aC xs n e=>?_⟩
 ·rw[av]at aD;refine c0 aD λbY=>?_;clear aD;subst bY;cases hd
 ·rw[av]at aD;refine c0 aD λcA=>?_;clear aD;subst cA;cases hd
 ·subst aC;rw[av]at e;simp at e
noncomputable abbrev uA(xs:List Str)(ae:Env)(I:a1)(b:Addr):Prop:=b∈I\/sR xs ae b
noncomputable abbrev rm(xs:List Str)(ae:Env)(ad:Addr)(I:a1)(b:Addr):Prop:=b∈I\/sR xs ae b\/b=ad
section
variable(prog:Program)(w:World)(am:Heap)
noncomputable def lR(n:Nat)(aA:Scope)(xs:List Str)(t:Expr)(f:D->aY (aK×aa)):Prop:=
 ∀d m C bh ao,f d m C=some (bh,ao)->∀(A:Around) (ae:Env) (I:a1) (s:Shared) (v:Value) (Q:Unit->Shared->Prop) (E:Value->Shared->Prop),fa n A->de am aA ae m I s.heap->St prog w am I C s.heap->Rep s.heap I d v->
  (∀a4 af bm ct,St prog w am a4 ao af->Ext (uA xs ae I) I s.heap a4 af->de am aA ae bh a4 af->Q () {s with heap:=af,toks:=bm,drawn:=ct})->wpAny (model prog w) A (assign t ae v) Q E s
noncomputable def lP(n:Nat)(aA:Scope)(ifs:List Expr)(c:aY (Bool×aa)):Prop:=
 ∀m C b ao,c m C=some (b,ao)->∀(A:Around) (ae:Env) (I:a1) (s:Shared) (Q:Bool->Shared->Prop) (E:Value->Shared->Prop),fa n A->de am aA ae m I s.heap->St prog w am I C s.heap->
  (∀a4 af bm ct,St prog w am a4 ao af->fk I s.heap a4 af->Q b {s with heap:=af,toks:=bm,drawn:=ct})->
  wpAny (model prog w) A (forIn ifs true λc r=>if r=true then do let ok←isTrue c ae (eval c ae);pure (ForInStep.yield ok)else pure (ForInStep.yield r)) Q E s
noncomputable def ro(n:Nat)(aA:Scope)(xs:List Str)(body:Value->Env->Sem Unit)(f:aY (List D×aK×aa)):Prop:=
 ∀m C bB bh ao,f m C=some (bB,bh,ao)->∀(A:Around) (ae:Env) (I:a1) (s:Shared) (ad:Addr) (bz:List D) (Q:Unit->Shared->Prop) (E:Value->Shared->Prop),fa n A->de am aA ae m I s.heap->St prog w am I C s.heap->
  AccAt am ad bz I s.heap->bz.length+bB.length<=lim->
  (∀a4 af bm ct,St prog w am a4 ao af->Ext (rm xs ae ad I) I s.heap a4 af->de am aA ae bh a4 af->AccAt am ad (bz++bB) a4 af->Q () {s with heap:=af,toks:=bm,drawn:=ct})->wpAny (model prog w) A (body (.ref ad) ae) Q E s
end
section
variable{prog:Program}{w:World}{am:Heap}{n:Nat}{aA:Scope}{K:Frag}
theorem ia:lP prog w am n aA [] ef:=by
 intro m C b ao hf A ae I s Q E a5 F S P
 refine ds hf λd0 eF=>?_;clear hf;subst d0;subst eF
 exact wpAny_tests_nil (P I s.heap s.toks _ S .refl)
theorem tc{t:Expr}{c}(h:jN prog w am n aA t c):lP prog w am n aA [t] c:=by
 intro m C b ao hf A ae I s Q E a5 F S P
 exact wpAny_tests_one (h m C b ao hf A ae I s Q E a5 F S P)
theorem jq.Kb{xs:List Str}{ae:Env}{x:Str}{k:NameKind}{b:Addr}(h:jq ae x k b)(ar:k≠.local->x∈xs):sR xs ae b:=by
 unfold jq at h
 split at h
 ·exact .inl h
 ·rename_i aq;exact .inr ⟨x,ar aq,h⟩
theorem hg(i:Nat){xs:List Str}{x:Str}{pos:Pos}{k:NameKind}(hi:aA.names[i]?=some (x,k))(aq:k=.local\/k=.cell)(ar:k≠.local->x∈xs):lR prog w am n aA xs (.Name x pos) (b9 i):=by
 intro d m C bh ao hf A ae I s v Q E a5 F S r P
 refine ds hf λfg fq=>?_;clear hf;subst fg;subst fq
 exact wpAny_assign_Name (sA hi aq F S r λaf bm ct dP e fP=>P I af bm ct dP (e.weaken λb ab=>.inr (ab.Kb ar)) fP)
inductive o1(aA:Scope)(xs:List Str):List Expr->List Nat->Prop
 |nil:o1 aA xs [] []
 |cons {x:Str} {pos:Pos} {k:NameKind} {i:Nat} {e3 is}:aA.names[i]?=some (x,k)->k=.local\/k=.cell->(k≠.local->x∈xs)->o1 aA xs e3 is->o1 aA xs (.Name x pos::e3) (i::is)
theorem o1.each{xs:List Str}{e3:List Expr}{is:List Nat}(h:o1 aA xs e3 is)(ae:Env):assignEach e3 ae=e3.map λt=>(false,assign t ae):=by
 induction h with
 |nil=>rfl
 |cons _ _ _ _ aE=>rw[gm,←aE];rfl
theorem o1.len{xs:List Str}{e3:List Expr}{is:List Nat}(h:o1 aA xs e3 is):is.length=e3.length:=by
 induction h with
 |nil=>rfl
 |cons _ _ _ _ aE=>simp[aE]
theorem jq.clear{i:Nat}{x:Str}{k:NameKind}{ae:Env}{m:aK}{I:a1}{h:Heap}(hi:aA.names[i]?=some (x,k))(aq:k=.local\/k=.cell)(F:de am aA ae m I h):Clear (jq ae x k) I h:=by
 intro a aC
 rcases aq with rfl|rfl
 ·unfold jq at aC;rw[a3 rfl]at aC
  refine aG F.loc λfU aH _=>?_
  exact ps (I:=I) aH a aC
 ·unfold jq at aC;rw[bq ag]at aC
  refine b2 (F.cell i x _ hi (.inl rfl)) λc u ai ak _=>?_
  rw[aC]at ai;refine c0 ai λi0=>?_;clear ai;subst i0
  exact xN (I:=I) ak a rfl
theorem Nj{A:Around}{E:Value->Shared->Prop}{xs:List Str}{e3:List Expr}{is:List Nat}(h:o1 aA xs e3 is):∀{ae:Env} {m:aK} {J:List D} {I:a1} {C:aa} {s:Shared} {vs:List Value} {Q:Unit->Shared->Prop},de am aA ae m I s.heap->St prog w am I C s.heap->bt s.heap I J vs->
  (∀af bm ct,St prog w am I C af->Ext (uA xs ae I) I s.heap I af->de am aA ae (rb is J m) I af->Q () {s with heap:=af,toks:=bm,drawn:=ct})->J.length=is.length->wpAny (model prog w) A (assignInOrder (e3.map λt=>assign t ae) vs) Q E s:=by
 induction h with
 |nil=>
  intro ae m J I C s vs Q F S r P aw
  cases J with
  |nil=>rw[show vs=[]from r];exact bj (P s.heap s.toks _ S .refl F)
  |cons _ _=>cases aw
 |@cons x pos k i e3 is hi aq ar _ aE=>
  intro ae m J I C s vs Q F S r P aw
  cases J with
  |nil=>cases aw
  |cons d J=>
   refine b2 r λv cX a2 ub jg=>?_;clear r;subst a2
   show wpAny _ _ (do holding cX (assign (.Name x pos) ae v);assignInOrder (e3.map λt=>assign t ae) cX) Q E s
   refine aI (gJ (wpAny_assign_Name (sA hi aq F S ub λaf bm ct dP e fP=>?_)))
   have bO:Ext (uA xs ae I) I s.heap I af:=e.weaken λb ab=>.inr (ab.Kb ar)
   have Eu:bt af I J cX:=bt.ext (jq.clear hi aq F) e J cX jg
   exact aE fP dP Eu (λdV gG E0 rt l0 nh=>P dV gG E0 rt (bO.trans l0 λ_ _ _ ab=>ab) nh) (by simpa using aw)
theorem Gv{xs:List Str}{e3:List Expr}{is:List Nat}{k:Nat}{pos:Pos}(h:o1 aA xs e3 is):lR prog w am n aA xs (.Tuple e3 k pos) (gv is):=by
 intro d m C bh ao hf A ae I s v Q E a5 F S r P
 refine cI hf ?_;clear hf;intro J hd hf
 refine dB hf ?_;clear hf;intro aw hf
 refine ds hf λi1 je=>?_;clear hf;subst i1;subst je
 rw[arm_assign_Tuple]
 refine aI (wpAny_standAt ?_)
 unfold unpack
 rw[h.each]
 have ai:(e3.map λt=>(false,assign t ae)).length=J.length:=by rw[bR,aw,h.len]
 have ak:(e3.map λt=>(false,assign t ae)).findIdx? (·.1)=none:=by rw[List.findIdx?_eq_none_iff];intro x ar;refine aG (b5.mp ar) λt _ a9=>?_;subst a9;rfl
 rw[ai,ak]
 refine aI (gJ (ER hd a5 S r λvs af dP e eG=>?_))
 rw[fj]
 refine Nj h (F.cM S e) dP eG (λdV bm ct rt l0 nh=>P I dV bm ct rt ((e.weaken λ_ ab=>.inl ab).trans l0 λ_ _ _ ab=>ab) nh) aw
theorem de.wV{xs:List Str}{ae:Env}{m:aK}{I:a1}{h:Heap}(F:de am aA ae m I h){a:Addr}(aC:sR xs ae a):(∃o,h.get? a=some o)/\Clear (· =a) I h/\am.get? a=none:=
 F.DM (aC.elim .inl λ⟨x,_,ar⟩=>.inr ⟨x,ar⟩)
theorem AccAt.frame{ad:Addr}{bz:List D}{xs:List Str}{ae:Env}{m:aK}{I a4:a1}{C:aa}{h af:Heap}(x:AccAt am ad bz I h)(F:de am aA ae m I h)(S:St prog w am I C h)(e:Ext (uA xs ae I) I h a4 af):AccAt am ad bz a4 af:=by
 refine dv x.holds λvs k av au=>?_
 have RK:¬uA xs ae I ad:=λab=>by
  rcases ab with ab|ab
  ·exact x.out ab
  ·rcases ab with rfl|⟨y,_,bc⟩
   ·refine aG F.loc λfU aH _=>?_
    exact x.qW.1 fU aH
   ·refine bU (F.so y ad bc) λ_ bC=>?_;refine a6 bC λv aU=>?_;clear bC
    exact x.qW.2.1 v aU
 exact⟨λaR=>x.out (e.back av aR),x.new,x.three,vs,k,e.kept _ _ av RK,bt.ext (Ba S.clear λa aC=>(F.wV aC).2.1) e _ _ au⟩
theorem Jk{A:Around}{E:Value->Shared->Prop}{s:Shared}{l:Addr}{vs:List Value}{k:Nat}{x:Value}{Q:Value->Shared->Prop}(aD:s.heap.get? l=some (seqObj "list" vs.toArray k))
  (gc:Q .none {s with heap:=s.heap.update l (Obj.mapSeq (·.push x))}) (fp:vs.length<=sizeLine):wpAny (model prog w) A (call (.builtin "list.append") [.ref l,x]) Q E s:=by
 refine wpAny_call_entry slot_list_append ⟨_,aD,rfl⟩ entry_list_append ?_ (args_list_append _ _)
 show wpAny _ _ (updateSeq l (·.push x)>>=λ_=>ret .none) _ _ s
 exact aI (wpAny_updateSeq aD rfl (bj ⟨.none,rfl,gc⟩) (by rw[hb];exact fp) (by rw[Array.size_push,hb];lia))
theorem AccAt.push{ad:Addr}{bz:List D}{d:D}{v:Value}{I:a1}{C:aa}{s:Shared}(x:AccAt am ad bz I s.heap)(r:Rep s.heap I d v)(S:St prog w am I C s.heap):
  (∀{A:Around} {E:Value->Shared->Prop} {Q:Value->Shared->Prop},bz.length+1<=lim->Q .none {s with heap:=s.heap.update ad (Obj.mapSeq (·.push v))}->wpAny (model prog w) A (call (.builtin "list.append") [.ref ad,v]) Q E s)/\
  Ext (· =ad) I s.heap I (s.heap.update ad (Obj.mapSeq (·.push v)))/\AccAt am ad (bz++[d]) I (s.heap.update ad (Obj.mapSeq (·.push v))):=by
 refine dv x.holds λvs k av au=>?_
 refine a6 (uo (λxs=>xs.push v) (vs++[v]) av (by simp)) λbZ dt=>?_
 have e:Ext (· =ad) I s.heap I (s.heap.update ad (Obj.mapSeq (·.push v))):=Ext.ml (jK ..) dt
 refine⟨λ{A E Q} aw gc=>Jk av gc (by rw[au.length];exact ij (by lia)),e,x.out,x.new,x.three,_,bZ,dt,bt.ext x.qW.2.2 e _ _ (au.append (bt.one r))⟩
noncomputable def dL(e:aY (D×aa))(m:aK)(C:aa):Option (List D×aK×aa):=(e m C).map λy=>([y.1],m,y.2)
theorem xU{xs:List Str}{c8:Expr}{e}(h:cL prog w am n aA c8 e):ro prog w am n aA xs (λbz ae=>do let _←call (.builtin "list.append") [bz,←eval c8 ae]) (dL e):=by
 intro m C bB bh ao hf A ae I s ad bz Q E a5 F S x aw P
 refine lG hf ?_;clear hf;intro d aB hd hf
 cases hf
 refine aI (h m C d _ hd A ae I s _ E a5 F S λbJ v bN b4 cy bE bu cs=>?_)
 have kg:=F.cM S bu
 have oW:AccAt am ad bz bJ bN:=x.frame (xs:=xs) F S (bu.weaken λ_ ab=>.inl ab)
 refine dv oW.holds λvs k av au=>?_
 refine aI ?_
 have xp:=AccAt.push (s:={s with heap:=bN,toks:=b4,drawn:=cy}) oW cs bE
 refine xp.1 (by simp at aw;exact aw) (bj ?_)
 refine P bJ _ b4 cy (bE.other xp.2.1 oW.qW.2.2 (λa aC q=>oW.out (q▸aC)) (λb q=>q▸oW.new)) ((bu.weaken λ_ ab=>.inl ab).trans xp.2.1 λ_ _ _ ab=>.inr (.inr ab)) ?_ xp.2.2
 exact kg.ext oW.qW.2.2 xp.2.1 (λq=>by
  refine aG kg.loc λfU aH _=>?_
  exact oW.qW.1 fU (q▸aH)) λc v ax q=>oW.qW.2.1 v (q▸ax)
end
noncomputable abbrev p8(iter c2:Expr)(ifs:List Expr)(body:Value->Env->Sem Unit)(e:Expr)(d:Nat)(it bz:Value)(ae:Env):Sem PySem.Fin:=do
 standAt iter.pos
 match←pyNext it with
 |none=>pure (.done .next)
 |some v=>
  letOwnedTupleGo c2 it v
  assign c2 ae v
  let mut ok:=true
  for c in ifs do
   if ok then ok←isTrue c ae (eval c ae)
  if ok then
   body bz ae
  again (.compLoop e d it bz ae)
noncomputable def lY(src:Option (Nat×List D))(a:D->aY (aK×aa))(c:aY (Bool×aa))(b:aY (List D×aK×aa)):List D->aY (List D×aK×aa)
 |[],m,C=>if jw src C=true then some ([],m,C)else none
 |d::J,m,C=>if jw src C=true then(a d m C).bind λx=>(c x.1 x.2).bind λt=>if t.1=true then(b x.1 t.2).bind λy=>(lY src a c b J y.2.1 y.2.2).map λz=>(y.1++z.1,z.2)
   else lY src a c b J x.1 t.2
  else none
section
variable{prog:Program}{w:World}{am:Heap}{n:Nat}{aA:Scope}{K:Frag}
theorem Og{c8 c2 iter:Expr}{gens:List Comprehension}{ifs:List Expr}{scope:Scope}{pos:Pos}{d:Nat}{it bz:Value}{ae:Env}{A:Around}{R:Result->Shared->Prop}{s:Shared}{body:Value->Env->Sem Unit}
  (heq:compTurn (.ListComp c8 gens scope pos) d it bz ae=p8 iter c2 ifs body (.ListComp c8 gens scope pos) d it bz ae) (aM:Nat->Shared->Prop)
  (turn:∀n s,aM n s->wpAny (model prog w) A (pyNext it) (λr dD=>match r with
   |none=>R (.ok .next) dD
   |some v=>wpAny (model prog w) A (letOwnedTupleGo c2 it v) (λ_ hS=>wpAny (model prog w) A (assign c2 ae v) (λ_ hS=>
     wpAny (model prog w) A (forIn ifs true λc r=>if r=true then do let ok←isTrue c ae (eval c ae);pure (ForInStep.yield ok)else pure (ForInStep.yield r)) (λok oU=>
      if ok=true then wpAny (model prog w) A (body bz ae) (λ_ Yh=>∃m,m<n/\aM m Yh) (notedBy (model prog w) A ae λe bT=>R (.error e) bT) oU
      else∃m,m<n/\aM m oU) (notedBy (model prog w) A ae λe bT=>R (.error e) bT) hS) (notedBy (model prog w) A ae λe bT=>R (.error e) bT) hS) (notedBy (model prog w) A ae λe bT=>R (.error e) bT) dD) (notedBy (model prog w) A ae λe bT=>R (.error e) bT) s)
  (n:Nat) (h:aM n s):
  codeAny (model prog w) A (.compLoop (.ListComp c8 gens scope pos) d it bz ae) R s:=by
 refine codeAny_loop rfl aM (λn s ed=>?_) n h
 show wpAny _ A ((compTurn (.ListComp c8 gens scope pos) d it bz ae).onRaise (λx=>do noteFrame x ae;theTreesLotGoes x)) _ _ s
 refine wpAny_noted ?_
 rw[heq]
 refine aI (wpAny_standAt (aI (hW (turn n s ed) (λr dD bN=>?_) λ_ _ af=>af)))
 cases r with
 |none=>exact bj bN
 |some v=>
  refine aI (hW bN (λ_ hS cE=>?_) λ_ _ af=>af)
  refine aI (hW cE (λ_ hS cE=>aI (hW cE (λok oU eT=>?_) λ_ _ af=>af)) λ_ _ af=>af)
  cases ok with
  |false=>exact bj ⟨rfl,eT⟩
  |true=>exact aI (hW eT (λx aar jz=>bj ⟨rfl,jz⟩) λ_ _ af=>af)
theorem S1{k:ei}{src:Option (Nat×List D)}{J:List D}{i:Nat}{I:a1}{A:Around}{s:Shared}{Q E:Value->Shared->Prop}(x:kh k src J i I s.heap)(h:Q (.ref k.root) s):wpAny (model prog w) A (pyIter (.ref k.root)) Q E s:=by
 cases k with
 |list aM a l=>exact wpAny_pyIter_listiter x.2.2 h
 |tup aM t vs c=>exact wpAny_pyIter_tupleiter x.2.1 h
 |q7 aM=>refine bU x λ_ b3=>?_;clear x;refine dv b3 λy left ak _=>?_;clear b3;exact wpAny_pyIter_rangeiter ak h
 |enum eS aM a l=>refine jh x λxs old _ _ _ bL _=>?_;clear x;exact wpAny_pyIter_enum bL h
 |str aM y=>refine fV x λ_ cj _=>?_;clear x;refine a6 cj λt ak=>?_;clear cj;exact wpAny_pyIter_striter_ascii ak h
theorem Oh{c8 c2 iter:Expr}{gens:List Comprehension}{ifs:List Expr}{scope:Scope}{pos:Pos}{d:Nat}{it bz:Value}{ae:Env}{A:Around}{R:Result->Shared->Prop}{s:Shared}
  (av:gens[d]?=some ⟨c2,iter,ifs,0⟩)
  (bV:codeAny (model prog w) A (.compLoop (.ListComp c8 gens scope pos) d it bz ae) R s)
  (h:wpAny (model prog w) A (pyIter it) (λiV bT=>codeAny (model prog w) A (.compLoop (.ListComp c8 gens scope pos) d iV bz ae) R bT)
   (notedBy (model prog w) A ae λx bT=>R (.error x) bT) s):
  codeAny (model prog w) A (.compStart (.ListComp c8 gens scope pos) d it bz ae) R s:=by
 refine codeAny_of_tree ?_
 show wpAny _ _ ((compStart (.ListComp c8 gens scope pos) d it bz ae).onRaise (λx=>do noteFrame x ae;standAt theWindowsPlace)) _ _ s
 refine wpAny_notedAt ?_
 unfold compStart
 have aS:(clausesOf (.ListComp c8 gens scope pos))[d]?=some ⟨c2,iter,ifs,0⟩:=av
 rw[aS]
 show wpAny _ _ (ask>>=_) _ _ s
 refine aI (wpAny_askSetting (wpAny_ite ?_))
 split
 ·first
   |exact aI (bj (bj (And.intro rfl bV)))
   |exact bj (And.intro rfl bV)
 ·first
   |exact aI (wpAny_rule (aI (wpAny_standAt (aI (hW h (λiV bT af=>bj (And.intro rfl af)) λ_ _ x=>x)))))
   |(refine aI (wpAny_rule ?_);show wpAny _ _ (standAt iter.pos>>=_) _ _ s;exact aI (wpAny_standAt (aI (hW h (λiV bT af=>bj (And.intro rfl af)) λ_ _ x=>x))))
noncomputable abbrev rn(xs:List Str)(ae:Env)(ad:Addr)(k:ei)(I:a1)(b:Addr):Prop:=rm xs ae ad I b\/b∈k.own
theorem AccAt.iter{k:ei}{ad:Addr}{bz:List D}{I:a1}{h af:Heap}(ac:AccAt am ad bz I h)(cl:Clear (· ∈k.own) I h)(e:e8 (· ∈k.own) I h I af)(aH:ad∉k.own):AccAt am ad bz I af:=
 dv ac.holds λvs fe av au=>⟨ac.out,ac.new,ac.three,vs,fe,e.kept _ _ av aH,bt.ext3 cl e _ _ au⟩
inductive CompI(prog:Program)(w:World)(am:Heap)(aA:Scope)(ae:Env)(a:D->aY (aK×aa))(c:aY (Bool×aa))(b:aY (List D×aK×aa))(k:ei)(ad:Addr)(xs:List Str)(src:Option (Nat×List D))(J all:List D)(e:aK×aa)(I:a1)(s:Shared):Nat->Shared->Prop
 |mk (a4:a1) (fN:aK) (a8:aa) (i:Nat) (bz bB:List D) (af:Heap) (bm:Nat) (ct) (S:St prog w am a4 a8 af) (E:Ext (rn xs ae ad k I) I s.heap a4 af) (F:de am aA ae fN a4 af) (it:kh k src J i a4 af/\h8 am k a4 af) (ac:AccAt am ad bz a4 af)
  (av:lY src a c b (J.drop i) fN a8=some (bB,e)) (bc:bz++bB=all) (hi:i<=J.length):CompI prog w am aA ae a c b k ad xs src J all e I s (J.length+1-i) {s with heap:=af,toks:=bm,drawn:=ct}
theorem Gk{c8 c2 iter:Expr}{gens:List Comprehension}{ifs:List Expr}{scope:Scope}{pos:Pos}{d:Nat}{ae:Env}{A:Around}{R:Result->Shared->Prop}{s:Shared}{body:Value->Env->Sem Unit}{k:ei}{ad:Addr}{xs:List Str}{a c b}
  (heq:∀it bz ae,compTurn (.ListComp c8 gens scope pos) d it bz ae=p8 iter c2 ifs body (.ListComp c8 gens scope pos) d it bz ae)
  (av:gens[d]?=some ⟨c2,iter,ifs,0⟩)
  (aC:lR prog w am n aA xs c2 a) (ax:lP prog w am n aA ifs c) (ab:ro prog w am n aA xs body b) (j0:k.fits c2)
  {src:Option (Nat×List D)} {J bz bB:List D} {m bh:aK} {C ao:aa} {I:a1} (hf:lY src a c b J m C=some (bB,bh,ao))
  (a5:fa n A) (F:de am aA ae m I s.heap) (S:St prog w am I C s.heap) (it:kh k src J 0 I s.heap) (ap:h8 am k I s.heap) (yU:∀b∈k.own,¬rm xs ae ad I b) (ac:AccAt am ad bz I s.heap) (aw:bz.length+bB.length<=lim)
  (P:∀a4 af bm ct,St prog w am a4 ao af->e8 (rn xs ae ad k I) I s.heap a4 af->de am aA ae bh a4 af->AccAt am ad (bz++bB) a4 af->R (.ok .next) {s with heap:=af,toks:=bm,drawn:=ct}):
  codeAny (model prog w) A (.compStart (.ListComp c8 gens scope pos) d (.ref k.root) (.ref ad) ae) R s:=by
 have aH:ad∉k.own:=λab=>yU ad ab (.inr (.inr rfl))
 have Ka:∀{cG:a1} {cE:Heap},h8 am k cG cE->∀b∈k.own,¬rm xs ae ad cG b:=λqn b ab aL=>aL.elim (qn.out b ab).1 λaL=>yU b ab (.inr aL)
 have loop:codeAny (model prog w) A (.compLoop (.ListComp c8 gens scope pos) d (.ref k.root) (.ref ad) ae) R s:=by
  refine Og (heq _ _ _) (CompI prog w am aA ae a c b k ad xs src J (bz++bB) (bh,ao) I s) (λez bT ed=>?_) (J.length+1) (CompI.mk I m C 0 bz bB s.heap s.toks s.drawn S .refl F ⟨it,ap⟩ ac hf rfl (es _))
  clear hf F S it ap ac
  cases ed with
  |mk a4 fN a8 i lg oa af bm ct dP bO fP iV AI kR mb nF=>
  by_cases cz:i<J.length
  ·have dec:J.length+1-(i+1)<J.length+1-i:=Nat.sub_lt_sub_left (Nat.lt_succ_of_lt cz) (oc i)
   rw[List.drop_eq_getElem_cons cz]at kR
   refine dB kR λpJ kR=>dw kR λim cg a2 kR=>dw kR λt eh a9 kR=>?_
   refine hW (IT (uC:=notedBy (model prog w) A ae λe bT=>R (.error e) bT) (s:={s with heap:=af,toks:=bm,drawn:=ct}) iV.1 iV.2 (gz cz) (yv pJ) dP j0 (Q:=?Q) λv cE cN cU cb b0 dp it₂ qn=>?main) (λr dD au=>?sec) λ_ _ h=>h
   case sec=>
    cases r with
    |none=>exact au.elim
    |some v=>exact au
   case main=>
    have hc:de am aA ae fN a4 cE:=fP.iter iV.2 b0
    refine aC _ fN a8 im cg a2 A ae a4 {s with heap:=cE,toks:=cN,drawn:=cU} v _ _ a5 hc cb dp λjL eT jG jI eR fJ nk=>?_
    have As:Ext (rn xs ae ad k I) I s.heap jL eT:=(bO.trans b0 λb o ab=>.inr).trans fJ λb o ab q=>q.elim (λq=>.inl (.inl (bO.back ab q))) λq=>.inl (.inr (.inl q))
    have qX:=wr ⟨it₂,qn⟩ fJ (Ba cb.clear λa aC=>(hc.wV aC).2.1) λb ab aL=>Ka qn b ab (aL.elim .inl λz=>.inr (.inl z))
    have xE:=(AI.iter iV.2.clear b0.to3 aH).frame hc cb fJ
    refine ax im cg t eh a9 A ae jL {s with heap:=eT,toks:=jG,drawn:=jI} _ _ a5 nk eR λmx jz n4 n9 lb jU=>?_
    have kJ:=nk.cM eR jU
    have C1:=wr qX jU eR.clear λb ab=>(qX.2.out b ab).1
    have uS:AccAt am ad lg mx jz:=xE.frame (xs:=xs) nk eR (jU.weaken λ_=>.inl)
    have At:Ext (rn xs ae ad k I) I s.heap mx jz:=As.trans jU λb o ab vS=>.inl (.inl (As.back ab vS))
    clear bO b0 fJ jU fP hc nk dP cb eR iV it₂ qn qX AI xE As a2 a9 dp
    cases t with
    |true=>
     refine dw (o:=b im eh) kR λLW qe bC kR=>fC kR λz bY e=>?_
     have aS:=bb Prod.fst e
     refine ab im eh LW qe.1 qe.2 bC A ae mx {s with heap:=jz,toks:=n4,drawn:=n9} ad lg _ _ a5 kJ lb uS ?_ λZr CR YK Zg MH x9 Mx MW=>?_
     ·refine aO (gH (aO (hD _ z.1.length) (cB (dO.symm.trans (bb List.length aS)))) _) (aO (cB ?_) aw)
      rw[←dO,mb,dO]
     ·have S2:=wr C1 x9 (λb ab=>ab.elim (lb.clear b) λab=>ab.elim (λab=>(kJ.wV ab).2.1 b rfl) (uS.qW.2.2 b)) (Ka C1.2)
      exact⟨J.length+1-(i+1),dec,CompI.mk Zr qe.1 qe.2 (i+1) (lg++LW) z.1 CR YK Zg MH (At.trans x9 λb o ab vS=>vS.elim (λq=>.inl (.inl (At.back ab q))) λq=>.inl (.inr q)) Mx S2 MW (bY.trans (bb (λu=>some (z.1,u)) (bb Prod.snd e))) ((List.append_assoc ..).trans ((bb (lg++ ·) aS).trans mb)) cz⟩
    |false=>exact⟨J.length+1-(i+1),dec,CompI.mk mx im eh (i+1) lg oa jz n4 n9 lb At kJ C1 uS kR mb cz⟩
  ·have v6:=Nat.le_of_not_lt cz
   rw[List.drop_of_length_le v6]at kR
   refine dB kR λpJ kR=>?_
   have aS:=Option.some.inj kR
   have em:fN=bh:=bb (λu=>u.2.1) aS
   have al:a8=ao:=bb (λu=>u.2.2) aS
   have bc:lg=bz++bB:=(List.append_nil _).symm.trans ((bb (lg++ ·) (bb Prod.fst aS)).trans mb)
   refine hW (IS (s:={s with heap:=af,toks:=bm,drawn:=ct}) a5.1 iV.1 iV.2 v6 (yv pJ) dP (Q:=λr dD=>r=none/\R (.ok .next) dD) λcE cN cU cb b0=>⟨rfl,?_⟩) (λr dD au=>au.1▸au.2) λ_ _ h=>h
   exact P a4 cE cN cU (al▸cb) ⟨bO.pre,bO.fresh,λb o ab aH=>b0.kept b o (bO.kept b o ab aH) λq=>aH (.inr q)⟩ (em▸fP.IR iV.2 b0) (bc▸AI.iter iV.2.clear b0 aH)
 exact Oh av loop (S1 it loop)
end
section
mutual
theorem Rep.grow{I:a1}{h:Heap}(new:a1):∀(d:D) (v:Value),Rep h I d v->Rep h (I++new) d v
 |.none,_,r=>r
 |.bool _,_,r=>r
 |.int _,_,r=>r
 |.str _,_,r=>r
 |.tup xs,v,⟨a,vs,n,aU,av,au⟩=>⟨a,vs,n,aU,av,bt.grow new xs vs au⟩
 |.obj l,v,⟨a,aC,aU⟩=>⟨a,by rw[mw (e4.mp aC).1];exact aC,aU⟩
 |.adr _,_,r=>r
theorem bt.grow{I:a1}{h:Heap}(new:a1):∀(J:List D) (vs:List Value),bt h I J vs->bt h (I++new) J vs
 |[],_,r=>r
 |d::J,_,⟨v,r,aU,hd,au⟩=>⟨v,r,aU,Rep.grow new d v hd,bt.grow new J r au⟩
end
theorem h9.grow{I:a1}{h:Heap}(new:a1):∀{bM:List (Str×D)} {al:List DictEntry},h9 h I bM al->h9 h (I++new) bM al
 |[],_,r=>r
 |(_,_)::_,_,⟨e,r,a0,aq,aU,au⟩=>⟨e,r,a0,aq,Rep.grow new _ _ aU,h9.grow new au⟩
theorem ej.grow{K:Type}{I:a1}{h:Heap}(new:a1):∀{bM:List (K×D)} {al:List (K×Value)},ej h I bM al->ej h (I++new) bM al
 |[],_,r=>r
 |(_,_)::_,_,⟨v,r,a0,aU,au⟩=>⟨v,r,a0,Rep.grow new _ _ aU,ej.grow new au⟩
theorem e9.grow{K:Type}{I:a1}{h:Heap}(new:a1):∀{bM:List (K×D)} {al:List (K×Addr×Value)},e9 h I bM al->e9 h (I++new) bM al
 |[],_,r=>r
 |(_,_)::_,_,⟨a,v,r,a0,aU,au⟩=>⟨a,v,r,a0,Rep.grow new _ _ aU,e9.grow new au⟩
section
variable{prog:Program}{w:World}{am:Heap}{n:Nat}{aA scope:Scope}{K:Frag}{cw:List (Option Nat)}
theorem ki.grow{I:a1}{h:Heap}{a:Addr}{po:bG}(new:a1)(x:ki prog w h I a po):ki prog w h (I++new) a po:=by
 cases po with
 |list xs=>refine dv x λvs n av au=>?_;clear x;exact⟨vs,n,av,bt.grow new _ _ au⟩
 |ee aN=>refine aG x λal hd au=>?_;clear x;exact⟨al,hd,au.grow new⟩
 |gR aN=>refine aG x λal hd au=>?_;clear x;exact⟨al,hd,au.grow new⟩
 |du aN=>refine aG x λal hd au=>?_;clear x;exact⟨al,hd,au.grow new⟩
 |inst bI l=>refine aG x λd hd av=>?_;clear x;exact⟨d,by rw[mw (e4.mp hd).1];exact hd,av⟩
 |ns bM=>refine dv x λal n av au=>?_;clear x;exact⟨al,n,av,au.grow new⟩
theorem Ext.x6{ph:Addr->Prop}{I a4 kI:a1}{C:aa}{h af dV:Heap}(x:fk I h a4 af)(y:e8 ph a4 af kI dV)(S:St prog w am kI C dV)(ab:∀b o,h.get? b=some o->ph b->b∈I):fk I h kI dV:=by
 have pre:∃new,kI=I++new:=by
  refine a6 x.pre λh0 ai=>?_
  refine a6 y.pre λiY ak=>?_
  exact⟨h0++iY,by rw[ak,ai,List.append_assoc]⟩
 refine⟨pre,λa aC=>?_,λb o e aH=>y.kept b o (x.kept b o e aH) λq=>aH (ab b o e q),λb o e=>?_⟩
 ·rcases y.fresh a aC with ai|ai
  ·exact x.fresh a ai
  ·cases q:h.get? a with
   |none=>exact .inr rfl
   |some o=>
    refine a6 (x.alive a o q) λd8 en=>?_
    rw[en]at ai;exact bi ai.symm
 ·refine a6 (x.alive b o e) λd8 en=>?_
  by_cases q:ph b
  ·refine a6 pre λnew a2=>?_;clear pre;subst a2
   refine aG (S.there (i6 _ (ab b o e q))) λDF CD _=>?_
   exact⟨DF,CD⟩
  ·exact⟨d8,y.kept b d8 en q⟩
theorem St.adopt{I:a1}{C:aa}{h:Heap}{a:Addr}{po:bG}(S:St prog w am I C h)(aH:a∉I)(bV:am.get? a=none)(aV:3<a)(aD:ki prog w h I a po):St prog w am (I++[a]) (C++[po]) h:=by
 refine⟨S.keep,by simp[S.len],?_,S.three,λb ab=>?_,λl b wY ai ak=>?_⟩
 ·rw[od]
  exact⟨S.nodup,by simp,λx ar y bc jc=>aH (by simp at bc;rw[←bc,←jc];exact ar)⟩
 ·rcases er.mp ab with ab|ab
  ·exact S.out b ab
  ·simp at ab;subst ab;exact⟨bV,aV⟩
 ·rcases Nat.lt_or_ge l I.length with aw|aw
  ·rw[mw aw]at ai
   rw[mw (by rw[←S.len];exact aw)]at ak
   exact(S.objs l b wY ai ak).grow [a]
  ·rw[List.getElem?_append_right aw]at ai
   rw[List.getElem?_append_right (by rw[←S.len];exact aw),←S.len]at ak
   haveI hz:l-I.length=0:=by
    haveI:=(e4.mp ai).1
    simp at this;lia
   rw[hz]at ai ak
   simp at ai ak
   subst ai ak;exact aD.grow _
theorem Ext.adopt{bad:Addr->Prop}{I a4:a1}{h af:Heap}{a:Addr}(x:Ext bad I h a4 af)(aC:h.get? a=none):Ext bad I h (a4++[a]) af:=by
 refine a6 x.pre λnew aH=>?_
 refine⟨⟨new++[a],by rw[aH,List.append_assoc]⟩,λb ab=>?_,x.kept,x.alive⟩
 rcases er.mp ab with ab|ab
 ·exact x.fresh b ab
 ·simp at ab;subst ab;exact .inr aC
def tb(dk:aY ((List D×Option (Nat×List D))×aa))(cw:List (Option Nat))(a:D->aY (aK×aa))(c:aY (Bool×aa))(b:aY (List D×aK×aa))(m:aK)(C:aa):Option (List D×aa):=
 (dk m C).bind λx=>(lY x.1.2 a c b x.1.1 (kL cw m) x.2).bind λy=>if y.1.length<=lim then some (y.1,y.2.2)else none
def ea(dk:aY ((List D×Option (Nat×List D))×aa))(cw:List (Option Nat))(a:D->aY (aK×aa))(c:aY (Bool×aa))(b:aY (List D×aK×aa))(m:aK)(C:aa):Option (D×aa):=
 (tb dk cw a c b m C).map λy=>(.obj y.2.length,y.2++[.list y.1])
theorem Gj{c8 c2 iter:Expr}{cX:List Comprehension}{ifs:List Expr}{pos:Pos}{body:Value->Env->Sem Unit}{eS:Bool}{dk a c b}(bI:lO scope aA cw)
  (hi:k5 prog w am n aA iter eS dk)
  (heq:∀it bz ae,compTurn (.ListComp c8 (⟨c2,iter,ifs,0⟩::cX) scope pos) 0 it bz ae=p8 iter c2 ifs body (.ListComp c8 (⟨c2,iter,ifs,0⟩::cX) scope pos) 0 it bz ae)
  (aC:lR prog w am n (fA scope aA) (kb scope) c2 a) (ax:lP prog w am n (fA scope aA) ifs c) (ab:ro prog w am n (fA scope aA) (kb scope) body b)
  (bK:isTup c2=true\/(isName c2=true/\eS=false)) (aZ:∀(ae:Env) (x:Value),foldedSetIterable iter ae x=pure x)
  {m:aK} {C ao:aa} {bB:List D} (hf:tb dk cw a c b m C=some (bB,ao)) {A:Around} {ae:Env} {I:a1} {s:Shared} {use:Option (Value->Sem Unit)} {Q E:Value->Shared->Prop} (a5:fa n A) (F:de am aA ae m I s.heap) (S:St prog w am I C s.heap)
  (P:∀a4 af bm ct ad bI fU,St prog w am a4 ao af->fk I s.heap a4 af->AccAt am ad bB a4 af->s.heap.get? ad=none->s.heap.get? bI=none->af.Ns bI fU->bI∉a4->am.get? bI=none->bI≠ad->
   compPost (model prog w) A E use Q (.ref ad) bI (.ok .next) {s with heap:=af,toks:=bm,drawn:=ct}):
  wpAny (model prog w) A (comprehension (.ListComp c8 (⟨c2,iter,ifs,0⟩::cX) scope pos) scope ae (firstIterPos (⟨c2,iter,ifs,0⟩::cX) pos) (newList []) false (eval iter ae) use) Q E s:=by
 refine E6 (Option.bind_eq_some_iff.mp hf) λa9 aB hd hf=>?_;obtain ⟨J,src⟩:=a9
 refine AX hf ?_;clear hf;intro oa bh a8 vV hf
 split at (hf)
 case isFalse=>exact bi hf
 rename_i cZ
 simp only[Option.some.injEq,Prod.mk.injEq]at hf
 refine bU hf λbC bY=>?_;clear hf;subst bC;subst bY
 haveI RJ:∀x∈scope.names,x.2=.local->scope.names.lookup x.1=some .local:=λx ar aw=>by
  refine a6 (List.mem_iff_getElem.mp ar) λi b3=>?_;refine a6 b3 λhi ic=>?_;clear b3
  haveI aS:scope.names[i]?=some (x.1,.local):=by rw[gz hi,ic,←aw]
  exact lookup_at bI.nodup aS
 refine wpAny_comprehension_free rfl (aZ ae) (bI.closure F) bI.kind RJ ?_
 refine hi m C J src aB hd A ae I s _ E a5 F S λbJ k bN b4 cy bE bu it₁ o9 qD aq=>?_
 haveI kg:=F.cM S bu
 refine LM ?_ (es _)
 haveI yZ:(bN.push {cls:=.type "list",data:=.seq (([]:List Value).toArray)}).objs.size=bN.objs.size+1:=Heap.size_push ..
 haveI vf:∀bad,Ext bad bJ bN bJ (bN.push {cls:=.type "list",data:=.seq (([]:List Value).toArray)}):=λ_=>Ext.push _
 haveI cb:St prog w am bJ aB (bN.push {cls:=.type "list",data:=.seq (([]:List Value).toArray)}):=bE.same (vf _)
 haveI hc:=kg.cM bE (vf _)
 haveI xD:AccAt am bN.objs.size [] bJ (bN.push {cls:=.type "list",data:=.seq (([]:List Value).toArray)}):=by
  refine⟨(bE.lW (i2 _)).1,(bE.lW (i2 _)).2,?_,[],0,gA _ rfl,rfl⟩
  refine a6 bE.three λo aD=>?_
  exact e7 (bE.keep _ _ aD)
 refine Y9 ?_
 haveI N5:∀cl L,({({scope:=scope,locals:=L,globals:=ae.globals,cells:=cl,qual:=ae.qual,func:=none,code:=ae.code,frame:=ae.frame,builtins:=ae.builtins}:Env)with scope:=relabel scope ae}:Env)=compEnv scope aA cl L ae:=λcl L=>by
  rw[Wz F.scope];rfl
 rw[N5]
 dsimp only
 generalize ZL:bN.push {cls:=.type "list",data:=.seq (([]:List Value).toArray)}=H at*
 refine fV (Oi bI hc cb (qt:={cls:=.type "dict",data:=.dict #[]}) rfl) λnk IY Kc=>?_
 haveI fJ:∀bad,Ext bad bJ H bJ (pushCells (H.push {cls:=.type "dict",data:=.dict #[]}) scope.names):=λ_=>Ext.mj IY
 haveI eR:=cb.same (fJ _)
 haveI O7:fk I s.heap bJ (pushCells (H.push {cls:=.type "dict",data:=.dict #[]}) scope.names):=(bu.dc (vf _)).dc (fJ _)
 haveI hle:s.heap.objs.size<=bN.objs.size\/True:=.inr trivial
 haveI yg:∀b,bN.objs.size<=b->s.heap.get? b=none:=λb ab=>rO bu (rT bN ab)
 haveI MX:bN.objs.size≠H.objs.size:=by rw[yZ];exact gy (oc _)
 haveI Vu:∀b∈k.own,b<bN.objs.size:=λb ab=>by
  refine dv (o9.fields b ab) λo vs aD _=>?_
  exact e7 aD
 haveI nothing:∀{A7:Env},(∀b,sR (kb scope) A7 b->H.objs.size<=b)->∀b∈k.own,¬rm (kb scope) A7 bN.objs.size bJ b:=λ{A7} aD b ab aL=>by
  haveI cz:=Vu b ab
  rcases aL with aL|aL|aL
  ·exact(o9.out b ab).1 aL
  ·haveI:=aD b aL
   rw[yZ]at this
   exact absurd (dE cz (i7 this)) (ji _)
  ·subst aL;exact ji _ cz
 haveI qX:kh k src J 0 bJ (pushCells (H.push {cls:=.type "dict",data:=.dict #[]}) scope.names):=C0 (C0 it₁ (vf (λ_=>False)) .none (λ_ _ q=>q)) (fJ (λ_=>False)) .none (λ_ _ q=>q)
 haveI Na:h8 am k bJ (pushCells (H.push {cls:=.type "dict",data:=.dict #[]}) scope.names):=(o9.keep (vf (λ_=>False)) (λ_ _ q=>q)).keep (fJ (λ_=>False)) (λ_ _ q=>q)
 haveI xE:AccAt am bN.objs.size [] bJ (pushCells (H.push {cls:=.type "dict",data:=.dict #[]}) scope.names):=by
  refine dv xD.holds λvs fe av au=>?_
  exact⟨xD.out,xD.new,xD.three,vs,fe,IY _ _ av,au.cM cb (fJ _)⟩
 refine Gk (gens:=⟨c2,iter,ifs,0⟩::cX) (d:=0) (s:={s with heap:=pushCells (H.push {cls:=.type "dict",data:=.dict #[]}) scope.names,toks:=b4,drawn:=cy}) heq rfl aC ax ab (ei.fits_of aq bK) vV a5 nk eR qX Na (nothing Kc) xE (by simpa using cZ) λmx jz n4 n9 lb jU kJ uS=>?_
 haveI ND:∀b o,s.heap.get? b=some o->rn (kb scope) (compEnv scope aA (cellsFrom (H.objs.size+1) scope.names (jr ae scope.names [])) H.objs.size ae) bN.objs.size k bJ b->b∈I:=λb o ab aL=>by
  rcases aL with(aL|aL|aL)|aL
  ·exact bu.back ab aL
  ·haveI:=Kc b aL
   rw[yg b (aO (by rw[yZ];exact k1 _) this)]at ab;exact bi ab
  ·subst aL
   rw[yg _ (bD _)]at ab;exact bi ab
  ·rw[qD b aL]at ab;exact bi ab
 haveI x9:=Ext.x6 O7 jU lb ND
 refine aG kJ.loc λfU kp _=>?_
 exact P mx jz n4 n9 bN.objs.size H.objs.size fU lb x9 (by simpa using uS) (yg _ (bD _)) (yg _ (by rw[yZ];exact k1 _)) kp kJ.tO kJ.tZ (Ne.symm MX)
theorem Oj{I a4:a1}{ao:aa}{h af dV:Heap}{bI:Addr}{fU:Str->Option Value}(S:St prog w am a4 ao af)(e:fk I h a4 af)(jZ:h.get? bI=none)(kp:af.Ns bI fU)(aH:bI∉a4)(bV:am.get? bI=none)(aZ:Heap.SameBut bI af dV):
  St prog w am a4 ao dV/\fk I h a4 dV/\e8 (· =bI) a4 af a4 dV:=by
 haveI cY:e8 (· =bI) a4 af a4 dV:=⟨⟨[],by simp⟩,λ_ aC=>.inl aC,λb o q ab=>(aZ.2 b ab).trans q⟩
 haveI dP:=S.wU cY (ps (I:=a4) kp) (λa aC q=>aH (q▸aC)) λb q=>q▸bV
 exact⟨dP,Ext.x6 e cY dP (λb o ab q=>by rw[q,jZ]at ab;exact bi ab),cY⟩
theorem Gx{c8 c2 iter:Expr}{cX:List Comprehension}{ifs:List Expr}{pos:Pos}{body:Value->Env->Sem Unit}{eS:Bool}{dk a c b}(bI:lO scope aA cw)
  (hi:k5 prog w am n aA iter eS dk)
  (heq:∀it bz ae,compTurn (.ListComp c8 (⟨c2,iter,ifs,0⟩::cX) scope pos) 0 it bz ae=p8 iter c2 ifs body (.ListComp c8 (⟨c2,iter,ifs,0⟩::cX) scope pos) 0 it bz ae)
  (aC:lR prog w am n (fA scope aA) (kb scope) c2 a) (ax:lP prog w am n (fA scope aA) ifs c) (ab:ro prog w am n (fA scope aA) (kb scope) body b)
  (bK:isTup c2=true\/(isName c2=true/\eS=false)) (aZ:∀(ae:Env) (x:Value),foldedSetIterable iter ae x=pure x):cL prog w am n aA (.ListComp c8 (⟨c2,iter,ifs,0⟩::cX) scope pos) (ea dk cw a c b):=by
 intro m C d ao hf A ae I s Q E a5 F S P
 refine lG hf ?_;clear hf;intro bB a8 vY a0
 cases a0
 rw[eval_ListComp]
 refine Gj bI hi heq aC ax ab bK aZ vY a5 F S λa4 af bm ct ad uB fU dP bO ac B6 jZ kp aH bV e1=>?_
 refine⟨fU,kp,λdV Ix=>?_⟩
 refine fV (Oj dP bO jZ kp aH bV Ix) λcb b0 cY=>?_
 refine dv ac.holds λvs fe av au=>?_
 haveI g4:dV.get? ad=some (seqObj "list" vs.toArray fe):=(Ix.2 ad (Ne.symm e1)).trans av
 haveI dA:bt dV a4 bB vs:=bt.ext3 (ps (I:=a4) kp) cY _ _ au
 refine P (a4++[ad]) (.ref ad) dV bm ct (cb.adopt ac.out ac.new ac.three ⟨vs,fe,g4,dA⟩) (b0.adopt B6) ⟨ad,?_,rfl⟩
 dsimp only
 rw[←dP.len];simp
theorem Gr{c8 c2 iter:Expr}{cX:List Comprehension}{ifs:List Expr}{pos rc py:Pos}{y:Str}{body:Value->Env->Sem Unit}{eS:Bool}{dk a c b}(j:Nat)(bI:lO scope aA cw)
  (bn:aA.names[j]?=some (y,.local)) (hi:k5 prog w am n aA iter eS dk)
  (heq:∀it bz ae,compTurn (.ListComp c8 (⟨c2,iter,ifs,0⟩::cX) scope pos) 0 it bz ae=p8 iter c2 ifs body (.ListComp c8 (⟨c2,iter,ifs,0⟩::cX) scope pos) 0 it bz ae)
  (aC:lR prog w am n (fA scope aA) (kb scope) c2 a) (ax:lP prog w am n (fA scope aA) ifs c) (ab:ro prog w am n (fA scope aA) (kb scope) body b)
  (bK:isTup c2=true\/(isName c2=true/\eS=false)) (aZ:∀(ae:Env) (x:Value),foldedSetIterable iter ae x=pure x)
  (wj:∀ae:Env,ae.scope=aA->swapsWith (.ListComp c8 (⟨c2,iter,ifs,0⟩::cX) scope pos) (some (.Name y py)) rc.line ae=pure true):
  lQ prog w am n aA (.Assign [.Name y py] (.ListComp c8 (⟨c2,iter,ifs,0⟩::cX) scope pos) rc) (cS (ea dk cw a c b) (b9 j)):=by
 intro m C c3 bh ao hf A ae I s Q E a5 F S P
 refine dw hf ?_;clear hf;intro d aB hd hf
 refine z1 hf λcA cQ db=>?_;clear hf;subst cA;subst cQ;subst db
 refine lG hd ?_;clear hd;intro bB a8 vY a0
 cases a0
 rw[exec_Assign_Name_used _ _ _ _ (wj ae F.scope)]
 refine aI (wpAny_standAt (aI ?_))
 show wpAny _ A (do let _←comprehension (.ListComp c8 (⟨c2,iter,ifs,0⟩::cX) scope pos) scope ae _ (newList []) false (eval iter ae) (some (assign (.Name y py) ae))) _ _ s
 refine aI (hW (Gj (use:=some (assign (.Name y py) ae)) (Q:=λ_ bT=>Q .next bT) (E:=E) bI hi heq aC ax ab bK aZ vY a5 F S λa4 af bm ct ad uB fU dP bO ac B6 jZ kp aH bV e1=>?_) (λ_ bT aL=>bj (bj aL)) λ_ _ e=>e)
 show wpAny _ A (assign (.Name y py) ae (.ref ad)) _ _ _
 refine dv ac.holds λvs fe av au=>?_
 have bE:St prog w am (a4++[ad]) (a8++[.list bB]) af:=dP.adopt ac.out ac.new ac.three ⟨vs,fe,av,au⟩
 have bu:fk I s.heap (a4++[ad]) af:=bO.adopt B6
 have kg:=F.cM S bu
 have cs:Rep af (a4++[ad]) (.obj a8.length) (.ref ad):=⟨ad,by rw[←dP.len];simp,rfl⟩
 refine wpAny_assign_Name (sA (s:={s with heap:=af,toks:=bm,drawn:=ct}) bn (.inl rfl) kg bE cs λcE cN cU cb b0 hc=>?_)
 have HK:uB≠ae.locals:=by
  rintro rfl
  refine aG F.loc λaaf cj _=>?_;refine iw cj λo _ _ aD _=>?_;clear cj
  rw[jZ]at aD;exact bi aD
 have Qr:uB∉a4++[ad]:=λaR=>by
  rcases er.mp aR with aR|aR
  ·exact aH aR
  ·simp at aR;exact e1 aR
 have wd:cE.Ns uB fU:=by
  refine iw kp λo al ce aD r=>?_;clear kp
  refine⟨o,al,ce,b0.kept _ _ aD λab=>?_,r⟩
  unfold jq at ab
  rw[a3 rfl]at ab
  exact HK ab
 refine⟨fU,wd,λeT Sh=>?_⟩
 have cY:e8 (· =uB) (a4++[ad]) cE (a4++[ad]) eT:=⟨⟨[],by simp⟩,λ_ aC=>.inl aC,λb o q ab=>(Sh.2 b ab).trans q⟩
 have eR:=cb.wU cY (ps (I:=a4++[ad]) wd) (λa aC q=>Qr (q▸aC)) λb q=>q▸bV
 have x5:hE ae I s.heap (a4++[ad]) cE:=(hE.of0 bu).trans (b0.weaken λb ab=>.inr ab.own)
 refine P (a4++[ad]) .next eT cN cU eR (x5.DK cY λb o ab q=>by rw[q,jZ]at ab;exact bi ab) (hc.ext3 (ps (I:=a4++[ad]) wd) cY (λq=>HK q.symm) λc v ⟨o,aD,hd⟩ q=>?_) rfl
 refine d4 wd λd8 _ _ en cW _=>?_;clear wd
 rw[q]at aD
 rw[aD]at en;refine c0 en λd0=>?_;clear en;subst d0;rw[hd]at cW;cases cW
end
end
section
variable{prog:Program}{w:World}{am:Heap}{n:Nat}{aA scope:Scope}{K:Frag}{cw:List (Option Nat)}
noncomputable abbrev AY(c8 c2 iter:Expr)(ifs:List Expr)(gens:List Comprehension)(scope:Scope)(pos:Pos)(bz:Value)(ae:Env):Sem Unit:=do
 let x←eval iter ae
 standAt iter.pos
 let x←foldedSetIterable iter ae x
 let _←runOwn (.compStart (.ListComp c8 gens scope pos) 1 (←holding [x] (pyIter x)) bz ae) ae
def rL(dk:aY ((List D×Option (Nat×List D))×aa))(a:D->aY (aK×aa))(c:aY (Bool×aa))(b:aY (List D×aK×aa))(m:aK)(C:aa):Option (List D×aK×aa):=
 (dk m C).bind λx=>lY x.1.2 a c b x.1.1 m x.2
theorem Gq{c8 c2 iter:Expr}{g:Comprehension}{ifs:List Expr}{pos:Pos}{body:Value->Env->Sem Unit}{eS:Bool}{xs:List Str}{dk a c b}
  (hi:k5 prog w am n aA iter eS dk)
  (heq:∀it bz ae,compTurn (.ListComp c8 [g,⟨c2,iter,ifs,0⟩] scope pos) 1 it bz ae=p8 iter c2 ifs body (.ListComp c8 [g,⟨c2,iter,ifs,0⟩] scope pos) 1 it bz ae)
  (aC:lR prog w am n aA xs c2 a) (ax:lP prog w am n aA ifs c) (ab:ro prog w am n aA xs body b)
  (bK:isTup c2=true\/(isName c2=true/\eS=false)) (aZ:∀(ae:Env) (x:Value),foldedSetIterable iter ae x=pure x):
  ro prog w am n aA xs (AY c8 c2 iter ifs [g,⟨c2,iter,ifs,0⟩] scope pos) (rL dk a c b):=by
 intro m C bB bh ao hf A ae I s ad bz Q E a5 F S x aw P
 refine E6 (Option.bind_eq_some_iff.mp hf) λa2 aB hd hf=>?_;obtain ⟨J,src⟩:=a2
 refine aI (hW (hi m C J src aB hd A ae I s (λit hS=>codeAny (model prog w) (A.mark none) (.compStart (.ListComp c8 [g,⟨c2,iter,ifs,0⟩] scope pos) 1 it (.ref ad) ae) (λr bT=>match r with|.ok f=>Q () bT|.error e=>cameBackBy (model prog w) A ae E e bT) hS) E a5 F S λbJ k bN b4 cy bE bu it₁ o9 qD aq=>?main) (λv dD bN=>?sec) λ_ _ h=>h)
 case sec=>
  refine aI (wpAny_standAt (aI (wpAny_of_eq (aZ ae v) (aI (gJ (hW bN (λit hS cE=>?_) λ_ _ h=>h))))))
  exact aI (hW (wpAny_runOwn (Q:=λ_ bT=>Q () bT) cE) (λ_ _ q=>bj q) λ_ _ h=>h)
 case main=>
  have kg:=F.cM S bu
  have oW:AccAt am ad bz bJ bN:=x.frame (xs:=xs) F S (bu.weaken λ_ ab=>.inl ab)
  have yU:∀b∈k.own,¬rm xs ae ad bJ b:=λb ab aL=>by
   rcases aL with aL|aL|aL
   ·exact(o9.out b ab).1 aL
   ·refine a6 ((F.wV aL).1) λo aD=>?_
    rw[qD b ab]at aD;exact bi aD
   ·refine dv x.holds λvs fe av _=>?_
    rw[←aL,qD b ab]at av;exact bi av
  refine Gk (gens:=[g,⟨c2,iter,ifs,0⟩]) (d:=1) (s:={s with heap:=bN,toks:=b4,drawn:=cy}) heq rfl aC ax ab (ei.fits_of aq bK) hf a5 kg bE it₁ o9 yU oW aw λmx jz n4 n9 lb jU kJ LV=>?_
  have pre:∃new,mx=I++new:=by
   refine a6 bu.pre λh0 ai=>?_
   refine a6 jU.pre λiY ak=>?_
   exact⟨h0++iY,by rw[ak,ai,List.append_assoc]⟩
  have bad:∀b o,s.heap.get? b=some o->rn xs ae ad k bJ b->rm xs ae ad I b:=λb o ab aL=>by
   rcases aL with(aL|aL)|aL
   ·exact .inl (bu.back ab aL)
   ·exact .inr aL
   ·rw[qD b aL]at ab;exact bi ab
  refine P mx jz n4 n9 lb ⟨pre,λa aC=>?_,λb o e aH=>jU.kept b o (bu.kept b o e λq=>aH (.inl q)) λq=>aH (bad b o e q),λb o e=>?_⟩ kJ LV
  ·rcases jU.fresh a aC with ai|ai
   ·exact bu.fresh a ai
   ·cases q:s.heap.get? a with
    |none=>exact .inr rfl
    |some o=>
     refine a6 (bu.alive a o q) λd8 en=>?_
     rw[en]at ai;exact bi ai.symm
  ·refine a6 (bu.alive b o e) λd8 en=>?_
   by_cases q:rn xs ae ad k bJ b
   ·rcases bad b o e q with aL|aL|aL
    ·refine a6 pre λnew a9=>?_;clear pre;subst a9
     refine aG (lb.there (i6 _ aL)) λDF CD _=>?_
     exact⟨DF,CD⟩
    ·exact(kJ.wV aL).1
    ·refine dv LV.holds λvs fe av _=>?_
     exact⟨_,aL▸av⟩
   ·exact⟨d8,jU.kept b d8 en q⟩
theorem ib{c8 c2 iter:Expr}{ifs:List Expr}{pos:Pos}{eS:Bool}{dk a c e}(bI:lO scope aA cw)(hi:k5 prog w am n aA iter eS dk)
  (aC:lR prog w am n (fA scope aA) (kb scope) c2 a) (ax:lP prog w am n (fA scope aA) ifs c) (a0:cL prog w am n (fA scope aA) c8 e)
  (bK:isTup c2=true\/(isName c2=true/\eS=false)) (aZ:∀(ae:Env) (x:Value),foldedSetIterable iter ae x=pure x):
  cL prog w am n aA (.ListComp c8 [⟨c2,iter,ifs,0⟩] scope pos) (ea dk cw a c (dL e)):=
 Gx bI hi (λit bz ae=>by rfl) aC ax (xU a0) bK aZ
theorem xV{c8 c2 iter:Expr}{ifs:List Expr}{pos rc py:Pos}{y:Str}{eS:Bool}{dk a c e}(j:Nat)(bI:lO scope aA cw)
  (bn:aA.names[j]?=some (y,.local)) (hi:k5 prog w am n aA iter eS dk)
  (aC:lR prog w am n (fA scope aA) (kb scope) c2 a) (ax:lP prog w am n (fA scope aA) ifs c) (a0:cL prog w am n (fA scope aA) c8 e)
  (bK:isTup c2=true\/(isName c2=true/\eS=false)) (aZ:∀(ae:Env) (x:Value),foldedSetIterable iter ae x=pure x)
  (wj:∀ae:Env,ae.scope=aA->swapsWith (.ListComp c8 [⟨c2,iter,ifs,0⟩] scope pos) (some (.Name y py)) rc.line ae=pure true):
  lQ prog w am n aA (.Assign [.Name y py] (.ListComp c8 [⟨c2,iter,ifs,0⟩] scope pos) rc) (cS (ea dk cw a c (dL e)) (b9 j)):=
 Gr j bI bn hi (λit bz ae=>by rfl) aC ax (xU a0) bK aZ wj
theorem Lr(c8 t1 fS dj fK:Expr)(f1 f2:List Expr)(scope:Scope)(pos:Pos)(it bz:Value)(ae:Env):compTurn (.ListComp c8 [⟨t1,fS,f1,0⟩,⟨dj,fK,f2,0⟩] scope pos) 0 it bz ae=
  p8 fS t1 f1 (AY c8 dj fK f2 [⟨t1,fS,f1,0⟩,⟨dj,fK,f2,0⟩] scope pos) (.ListComp c8 [⟨t1,fS,f1,0⟩,⟨dj,fK,f2,0⟩] scope pos) 0 it bz ae:=by
 have e:compTurn (.ListComp c8 [⟨t1,fS,f1,0⟩,⟨dj,fK,f2,0⟩] scope pos) 0 it bz ae=(do
  standAt fS.pos
  match←pyNext it with
  |none=>pure (.done .next)
  |some v=>
   letOwnedTupleGo t1 it v
   assign t1 ae v
   let mut ok:=true
   for c in f1 do
    if ok then ok←isTrue c ae (eval c ae)
   if ok then do
    let x←eval fK ae
    standAt fK.pos
    let x←foldedSetIterable fK ae x
    let _←runOwn (.compStart (.ListComp c8 [⟨t1,fS,f1,0⟩,⟨dj,fK,f2,0⟩] scope pos) 1 (←holding [x] (pyIter x)) bz ae) ae
    again (.compLoop (.ListComp c8 [⟨t1,fS,f1,0⟩,⟨dj,fK,f2,0⟩] scope pos) 0 it bz ae)
   else again (.compLoop (.ListComp c8 [⟨t1,fS,f1,0⟩,⟨dj,fK,f2,0⟩] scope pos) 0 it bz ae)):=by rfl
 rw[e]
 unfold p8 AY
 simp only[bind_assoc,pure_bind]<;>rfl
theorem Ls(c8 t1 fS dj fK:Expr)(f1 f2:List Expr)(scope:Scope)(pos:Pos)(it bz:Value)(ae:Env):compTurn (.ListComp c8 [⟨t1,fS,f1,0⟩,⟨dj,fK,f2,0⟩] scope pos) 1 it bz ae=
  p8 fK dj f2 (λbz ae=>do let _←call (.builtin "list.append") [bz,←eval c8 ae]) (.ListComp c8 [⟨t1,fS,f1,0⟩,⟨dj,fK,f2,0⟩] scope pos) 1 it bz ae:=by rfl
theorem ZE{c8 t1 fS dj fK:Expr}{f1 f2:List Expr}{pos:Pos}{eS vg:Bool}{dk a c vn hG ez e}(bI:lO scope aA cw)(hi:k5 prog w am n aA fS eS dk)
  (aC:lR prog w am n (fA scope aA) (kb scope) t1 a) (ax:lP prog w am n (fA scope aA) f1 c)
  (dW:k5 prog w am n (fA scope aA) fK vg vn) (rY:lR prog w am n (fA scope aA) (kb scope) dj hG) (hP:lP prog w am n (fA scope aA) f2 ez)
  (a0:cL prog w am n (fA scope aA) c8 e)
  (bK:isTup t1=true\/(isName t1=true/\eS=false)) (CI:isTup dj=true\/(isName dj=true/\vg=false)) (aZ:∀(ae:Env) (x:Value),foldedSetIterable fS ae x=pure x) (pO:∀(ae:Env) (x:Value),foldedSetIterable fK ae x=pure x):
  cL prog w am n aA (.ListComp c8 [⟨t1,fS,f1,0⟩,⟨dj,fK,f2,0⟩] scope pos) (ea dk cw a c (rL vn hG ez (dL e))):=
 Gx bI hi (λit bz ae=>Lr ..) aC ax (Gq (g:=⟨t1,fS,f1,0⟩) dW (λit bz ae=>Ls ..) rY hP (xU a0) CI pO) bK aZ
theorem Oo{c8 t1 fS dj fK:Expr}{f1 f2:List Expr}{pos rc py:Pos}{y:Str}{eS vg:Bool}{dk a c vn hG ez e}(j:Nat)(bI:lO scope aA cw)(bn:aA.names[j]?=some (y,.local))(hi:k5 prog w am n aA fS eS dk)
  (aC:lR prog w am n (fA scope aA) (kb scope) t1 a) (ax:lP prog w am n (fA scope aA) f1 c)
  (dW:k5 prog w am n (fA scope aA) fK vg vn) (rY:lR prog w am n (fA scope aA) (kb scope) dj hG) (hP:lP prog w am n (fA scope aA) f2 ez)
  (a0:cL prog w am n (fA scope aA) c8 e)
  (bK:isTup t1=true\/(isName t1=true/\eS=false)) (CI:isTup dj=true\/(isName dj=true/\vg=false)) (aZ:∀(ae:Env) (x:Value),foldedSetIterable fS ae x=pure x) (pO:∀(ae:Env) (x:Value),foldedSetIterable fK ae x=pure x)
  (wj:∀ae:Env,ae.scope=aA->swapsWith (.ListComp c8 [⟨t1,fS,f1,0⟩,⟨dj,fK,f2,0⟩] scope pos) (some (.Name y py)) rc.line ae=pure true):
  lQ prog w am n aA (.Assign [.Name y py] (.ListComp c8 [⟨t1,fS,f1,0⟩,⟨dj,fK,f2,0⟩] scope pos) rc) (cS (ea dk cw a c (rL vn hG ez (dL e))) (b9 j)):=
 Gr j bI bn hi (λit bz ae=>Lr ..) aC ax (Gq (g:=⟨t1,fS,f1,0⟩) dW (λit bz ae=>Ls ..) rY hP (xU a0) CI pO) bK aZ wj
end
section
variable(prog:Program)(w:World)(am:Heap)
noncomputable def i8(n:Nat)(bv:Value)(g:List D->aa->Option (D×aa)):Prop:=
 ∀J C d ao,g J C=some (d,ao)->∀(A:Around) (I:a1) (s:Shared) (vs:List Value) (Q E:Value->Shared->Prop),fa n A->St prog w am I C s.heap->bt s.heap I J vs->
  on prog w am I s d ao Q->wpAny (model prog w) A (call bv vs) Q E s
end
noncomputable abbrev Plain(al:List Expr):Prop:=∀ae:Env,match al with|[]=>True|e::r=>starEach (e::r) ae=(false,eval e ae)::starEach r ae/\∀pos,(backTo pos (starEach r ae)).any (·.1)=false
section
variable{prog:Program}{w:World}{am:Heap}{n:Nat}{aA:Scope}{K:Frag}
theorem F8{A:Around}{E:Value->Shared->Prop}{s:Shared}{ae:Env}{pos:Pos}{id:String}{first:List Value}{al:List Expr}{Q:Value->Shared->Prop}(aZ:Plain al){f:aY (List D×aa)}(hl:k4 prog w am n aA al f)
  {m:aK} {C aB:aa} {J:List D} (hf:f m C=some (J,aB)) {I:a1} (a5:fa n A) (F:de am aA ae m I s.heap) (S:St prog w am I C s.heap)
  (P:∀a4 vs af bm ct,St prog w am a4 aB af->fk I s.heap a4 af->bt af a4 J vs->wpAny (model prog w) A (call (.builtin id) (first++vs)) Q E {s with heap:=af,toks:=bm,drawn:=ct}):
  wpAny (model prog w) A (callWith pos (.builtin id) first (backTo pos (starEach al ae)) []) Q E s:=by
 cases al with
 |nil=>
  have hd:=hl.len _ _ _ _ hf
  have wc:J=[]:=by cases J with|nil=>rfl|cons=>simp at hd
  subst wc
  refine Calls.callWith_builtin rfl (evalArgs_nil3 ?_)
  have key:=hl.run m C [] aB hf A ae pos I s (λvs bT=>wpAny (model prog w) A (call (.builtin id) (first++[])) Q E bT) E a5 F S λbJ vs bN b4 cy bE bu cs=>by
   have aU:vs=[]:=cs
   subst aU
   exact P bJ [] bN b4 cy bE bu cs
  exactλqg p pP=>(key qg p pP:wpAny (model prog w) A (call (.builtin id) (first++[])) Q E s) qg p pP
 |cons e r=>
  refine bU (aZ ae) λai ak=>?_
  have key:=hl.run m C J aB hf A ae pos I s _ E a5 F S P
  rw[ai]at key⊢
  exact Calls.callWith_builtin (by refine(?_:(false||(backTo pos (starEach r ae)).any (·.1))=false);rw[ak pos];rfl) (Calls.evalArgs_plain key)
theorem N2{A:Around}{E:Value->Shared->Prop}{s:Shared}{ae:Env}{pos:Pos}{T:String}{al:List Expr}{Q:Value->Shared->Prop}(aZ:Plain al){f:aY (List D×aa)}(hl:k4 prog w am n aA al f)
  {m:aK} {C aB:aa} {J:List D} (hf:f m C=some (J,aB)) {I:a1} (a5:fa n A) (F:de am aA ae m I s.heap) (S:St prog w am I C s.heap)
  (P:∀a4 vs af bm ct,St prog w am a4 aB af->fk I s.heap a4 af->bt af a4 J vs->wpAny (model prog w) A (call (.type T) vs) Q E {s with heap:=af,toks:=bm,drawn:=ct}):
  wpAny (model prog w) A (callWith pos (.type T) [] (backTo pos (starEach al ae)) []) Q E s:=by
 cases al with
 |nil=>
  have hd:=hl.len _ _ _ _ hf
  have wc:J=[]:=by cases J with|nil=>rfl|cons=>simp at hd
  subst wc
  refine PyProof.Rows.callWith_type0 ?_
  have key:=hl.run m C [] aB hf A ae pos I s (λvs bT=>wpAny (model prog w) A (call (.type T) []) Q E bT) E a5 F S λbJ vs bN b4 cy bE bu cs=>by
   have aU:vs=[]:=cs
   subst aU
   exact P bJ [] bN b4 cy bE bu cs
  exactλqg p pP=>(key qg p pP:wpAny (model prog w) A (call (.type T) []) Q E s) qg p pP
 |cons e r=>
  refine bU (aZ ae) λai ak=>?_
  exact PyProof.Rows.callWith_type1 (hl.run m C J aB hf A ae pos I s _ E a5 F S P) ai (ak pos)
theorem fZ{x:Str}{id:String}{al:List Expr}{p pos:Pos}{f g}{k:Nat}(ab:no am x (.builtin id))(ar:aA.names.lookup x=some .globalImplicit)(hd:(x==("__debug__":Str))=false)
  (d2:i8 prog w am k (.builtin id) g) (ly:k<=n) (hl:k4 prog w am n aA al f) (aZ:Plain al:=by exactλ_=>⟨rfl,λ_=>rfl⟩):cL prog w am n aA (.Call (.Name x p) al [] pos) (bW f g):=by
 intro m C d ao hf A ae I s Q E a5 F S P
 refine dw hf ?_;clear hf;intro J aB gP hf
 refine wpAny_Call_Name_kw (pk ab F S ar hd ?_)
 refine F8 (first:=[]) aZ hl gP a5 F S λbJ vs bN b4 cy bE bu cs=>?_
 exact d2 J aB d ao hf A bJ _ vs Q E (a5.le ly) bE cs λcG v cE cN cU cb b0 dp=>P cG v cE cN cU cb (bu.dc b0) dp
theorem lZ{x:Str}{T:String}{al:List Expr}{p pos:Pos}{f g}{k:Nat}(ab:no am x (.type T))(ar:aA.names.lookup x=some .globalImplicit)(hd:(x==("__debug__":Str))=false)
  (d2:i8 prog w am k (.type T) g) (ly:k<=n) (hl:k4 prog w am n aA al f) (aZ:Plain al:=by exactλ_=>⟨rfl,λ_=>rfl⟩):cL prog w am n aA (.Call (.Name x p) al [] pos) (bW f g):=by
 intro m C d ao hf A ae I s Q E a5 F S P
 refine dw hf ?_;clear hf;intro J aB gP hf
 refine wpAny_Call_Name_kw (pk ab F S ar hd ?_)
 refine N2 aZ hl gP a5 F S λbJ vs bN b4 cy bE bu cs=>?_
 exact d2 J aB d ao hf A bJ _ vs Q E (a5.le ly) bE cs λcG v cE cN cU cb b0 dp=>P cG v cE cN cU cb (bu.dc b0) dp
noncomputable def Km(p:bG):Option String:=match p with
 |.list _=>some "list"
 |.ee _=>some "dict"
 |.gR _=>some "dict"
 |.du _=>some "dict"
 |_=>none
def um(d:D)(C:aa):Option String:=match d with
 |.str _=>some "str"
 |.obj l=>(C[l]?).bind Km
 |_=>none
theorem YJ{d:D}{C:aa}{T:String}(h:um d C=some T){I:a1}{s:Shared}{u:Value}(S:St prog w am I C s.heap)(r:Rep s.heap I d u):s.TypeIs u T/\∀a,u=.ref a->∃o,s.heap.get? a=some o/\o.dict=none:=by
 cases d with
 |str x=>exact a6 r λt e=>by subst e;refine c0 h λt7=>?_;clear h;subst t7;exact⟨typeIs_str _ _ _,λa e=>nomatch e⟩
 |obj l=>
  refine cI h λp aF h=>aG r λa aC e=>?_
  subst e
  have iu:=S.objs l a p aC aF
  clear S r aC aF
  cases p with
  |list xs=>refine c0 h λt8=>?_;clear h;subst t8;exact dv iu λvs k av _=>⟨⟨_,av,rfl⟩,λb e=>by cases e;exact⟨_,av,rfl⟩⟩
  |ee xs=>refine c0 h λDY=>?_;clear h;subst DY;exact aG iu λal hd _=>⟨hd.typeIs,hd.mapOf.noDict⟩
  |gR xs=>refine c0 h λDZ=>?_;clear h;subst DZ;exact aG iu λal hd _=>⟨hd.typeIs,hd.mapOf.noDict⟩
  |du xs=>
   refine c0 h λD0=>?_;clear h;subst D0
   refine aG iu λal hd _=>⟨?_,PyProof.Rows.dictOfH_noDict hd⟩
   refine d4 (id hd) λgh _ _ hv qJ _=>?_
   exact⟨gh,hv,qJ.1⟩
  |_=>exact bi h
 |_=>exact bi h
def eV(T:String)(jt:aY (D×aa))(f:aY (List D×aa))(g:List D->aa->Option (D×aa))(m:aK)(C:aa):Option (D×aa):=
 (jt m C).bind λx=>if um x.1 x.2=some T then(f m x.2).bind λy=>g (x.1::y.1) y.2 else none
theorem gY(T:String){o:Expr}{name:Str}{id:String}{apos pos:Pos}{al:List Expr}{jt f g}{k:Nat}(pl:Env->Sem Bool)(slot:Slot T name id)(Sj:typeOf (.builtin id)=pure (.type "method_descriptor")) (Vw:PlainAttrs T)
  (d2:i8 prog w am k (.builtin id) g) (ly:k<=n) (aD:cL prog w am n aA o jt) (hl:k4 prog w am n aA al f) (aZ:Plain al)
  (a0:∀ae,eval (.Call (.Attribute o name apos) al [] pos) ae=(do
   let kv←eval o ae
   standAt apos.atName
   let(f,first)←holding [kv] (getMethod kv name (pl ae))
   callWith pos f first (backTo pos (starEach al ae)) [])):
  cL prog w am n aA (.Call (.Attribute o name apos) al [] pos) (eV T jt f g):=by
 intro m C d ao hf A ae I s Q E a5 F S P
 refine dw hf ?_;clear hf;intro a aB aC hf
 refine dB hf ?_;clear hf;intro d3 hf
 refine dw hf ?_;clear hf;intro J a8 gP hf
 refine PyProof.Rows.MethodCall_ (pl:=pl ae) (aD m C a aB aC A ae I s _ E a5 F S λbJ u c6 b4 cy bE bu cs=>?_) (a0 ae)
 refine bU (YJ (s:={s with heap:=c6,toks:=b4,drawn:=cy}) d3 bE cs) λai ak=>?_
 refine getMethod_builtin ai Vw slot Sj ak ?_
 refine F8 (first:=[u]) (s:={s with heap:=c6,toks:=b4,drawn:=cy}) aZ hl gP a5 (F.cM S bu) bE λcG vs cE cN cU cb b0 dp=>?_
 exact d2 (a::J) a8 d ao hf A cG _ (u::vs) Q E (a5.le ly) cb ⟨u,vs,rfl,cs.cM bE b0,dp⟩ λjL v eT jG jI eR fJ mr=>P jL v eT jG jI eR ((bu.dc b0).dc fJ) mr
noncomputable def one(J:List D):Option D:=match J with
 |[d]=>some d
 |_=>none
noncomputable def Bp(J:List D):Option (D×D):=match J with
 |[d,e]=>some (d,e)
 |_=>none
theorem aam{J:List D}{d:D}(h:one J=some d):J=[d]:=by
 cases J with
 |nil=>exact bi h
 |cons x J=>
  cases J with
  |nil=>refine c0 h λD1=>?_;clear h;subst D1;rfl
  |cons y J=>exact bi h
theorem GH{J:List D}{d e:D}(h:Bp J=some (d,e)):J=[d,e]:=by
 cases J with
 |nil=>exact bi h
 |cons x J=>
  cases J with
  |nil=>exact bi h
  |cons y J=>
   cases J with
   |nil=>refine ds h λD2 V3=>?_;clear h;subst D2;subst V3;rfl
   |cons z J=>exact bi h
theorem bt.Nk{h:Heap}{I:a1}{d:D}{vs:List Value}(r:bt h I [d] vs):∃v,vs=[v]/\Rep h I d v:=b2 r λv r e b7 aH=>⟨v,e.trans (bb (v:: ·) (show r=[]from aH)),b7⟩
theorem bt.at2{h:Heap}{I:a1}{d e:D}{vs:List Value}(r:bt h I [d,e] vs):∃u v,vs=[u,v]/\Rep h I d u/\Rep h I e v:=b2 r λu r q cR au=>aG (bt.Nk au) λv e b7=>⟨u,v,q.trans (bb (u:: ·) e),cR,b7⟩
def bAppend(J:List D)(C:aa):Option (D×aa):=(Bp J).bind λp=>(objOf p.1).bind λl=>(gu C l).bind λxs=>if xs.length+1<=lim then some (.none,C.set l (.list (xs++[p.2])))else none
theorem lj:i8 prog w am n (.builtin "list.append") bAppend:=by
 intro J C d ao av A I s vs Q E a5 S r P
 refine dw av λo e hd av=>cI av λl aD av=>cI av λxs ar av=>dB av λaw aL=>?_
 obtain rfl:=GH hd
 obtain rfl:=m1 aD
 refine ds aL λD3 D4=>?_;clear aL;subst D3;subst D4
 refine b2 r.at2 λu v ev cR b7=>?_
 subst ev
 refine hs (ik S ar cR) λa vs k bC gd aR df au=>?_;subst bC
 refine Jk df ?_ (by rw[au.length];exact ij (i7 aw))
 refine a6 (uo (λxs=>xs.push v) (vs++[v]) df (List.push_toArray ..)) λbZ dt=>?_
 have q:=zw S gd (jK ..) dt (au.append (bt.one b7))
 exact P I _ _ s.toks _ q.1 q.2 rfl
def pe(J:List D)(C:aa):Option (D×aa):=(Bp J).bind λp=>(objOf p.1).bind λl=>(objOf p.2).bind λk=>(gu C l).bind λxs=>(gu C k).bind λbB=>if xs.length+bB.length<=lim then some (.none,C.set l (.list (xs++bB)))else none
theorem u0:i8 prog w am n (.builtin "list.extend") pe:=by
 intro J C d ao av A I s vs Q E a5 S r P
 refine dw av λo e hd av=>cI av λl aD av=>cI av λk aq av=>cI av λxs ar av=>cI av λbB bc av=>dB av λaw aL=>?_
 obtain rfl:=GH hd
 obtain rfl:=m1 aD
 obtain rfl:=m1 aq
 refine ds aL λD5 D6=>?_;clear aL;subst D5;subst D6
 refine b2 r.at2 λu v ev cR b7=>?_
 subst ev
 refine hs (ik S ar cR) λa vs k bY gd aR df au=>?_;subst bY
 refine hs (ik S bc b7) λb us jA b3 Ry Cx yF r7=>?_;subst b3
 have fp:vs.toArray.size+us.toArray.size<=sizeLine:=by rw[hb,hb,au.length,r7.length];exact ij aw
 refine call_meets PySem.F.slot_list_extend ⟨_,df,rfl⟩ PySem.F.entry_list_extend (PySem.F.args_list_extend_2 _ _) (PySem.AutoSeq1.list_extend_list_list_0 a vs.toArray k b us.toArray jA (extend_door fp) (aO (hD _ _) fp) (Nat.le_succ_of_le fp)) ⟨df,yF,?_⟩
 refine a6 (uo (λxs=>xs++us.toArray) (vs++us) df (List.append_toArray ..)) λbZ dt=>?_
 have q:=zw S gd (jK ..) dt (au.append r7)
 exact P I _ _ s.toks _ q.1 q.2 rfl
theorem G8(p q:List Value)(y:Value):((p++y::q).toArray).eraseIdxIfInBounds p.length=(p++q).toArray:=kl_erase p q y
theorem bt.split{h:Heap}{I:a1}{J al:List D}{vs:List Value}(r:bt h I (J++al) vs):∃us ws,vs=us++ws/\bt h I J us/\bt h I al ws:=by
 induction J generalizing vs with
 |nil=>exact⟨[],vs,rfl,rfl,r⟩
 |cons d J aE=>exact b2 r λv r aU hd au=>b2 (aE au) λus ws ai ak aV=>⟨v::us,ws,aU.trans (bb (v:: ·) ai),⟨v,us,rfl,hd,ak⟩,aV⟩
def pf(J:List D)(C:aa):Option (D×aa):=match J with
 |[.obj l]=>(gu C l).bind λxs=>xs.getLast?.bind λd=>if xs.length<=lim then some (d,C.set l (.list xs.dropLast))else none
 |[.obj l,.int 0]=>(gu C l).bind λxs=>match xs with
  |d::r=>if r.length+1<=lim then some (d,C.set l (.list r))else none
  |[]=>none
 |_=>none
theorem Nu{J:List D}{C:aa}{r:D×aa}{P:List D->Prop}(h:pf J C=some r)(j6:∀l,P [.obj l])(e5:∀l,P [.obj l,.int 0]):P J:=by
 cases J with
 |nil=>exact bi h
 |cons a J=>
 cases a with
 |obj l=>
  cases J with
  |nil=>exact j6 l
  |cons b J=>
  cases b with
  |int k=>
   cases k with
   |ofNat k=>
    cases k with
    |zero=>
     cases J with
     |nil=>exact e5 l
     |cons c J=>exact bi h
    |succ k=>cases J<;>exact bi h
   |negSucc k=>cases J<;>exact bi h
  |_=>cases J<;>exact bi h
 |_=>first|exact bi h|(cases J<;>first|exact bi h|(rename_i x y;cases x<;>first|exact bi h|(rename_i z;cases z<;>first|exact bi h|(rename_i z;cases z<;>cases y<;>exact bi h))))
theorem AW:i8 prog w am n (.builtin "list.pop") pf:=by
 intro J C d ao av A I s vs Q E a5 S r P
 refine Nu (P:=λx=>x=J->_) av (λl dq=>?_) (λl dq=>?_) rfl
 ·subst dq
  refine cI av ?_;clear av;intro xs ar av
  refine cI av ?_;clear av;intro y bc av
  refine dB av ?_;clear av;intro aw av
  cases (av)
  obtain (⟨u,_,rfl,cR,aH⟩):=r
  have ey:_=[]:=aH
  subst ey
  obtain (⟨a,vs,k,rfl,gd,aR,df,au⟩):=ik S ar cR
  have mS:xs=xs.dropLast++[d]:=by
   rw[List.getLast?_eq_some_iff]at bc
   refine a6 bc λbB cj=>?_;clear bc;subst cj
   rw[List.dropLast_concat]
  rw[mS]at au
  refine a6 au.split λus cA=>?_;refine a6 cA λws cQ=>?_;clear cA;refine bU cQ λdb d0=>?_;clear cQ;subst db;refine bU d0 λai eF=>?_;clear d0;refine b2 eF λv eG aU b7 aH=>?_;clear eF
  have ey:eG=[]:=aH
  subst ey
  subst aU
  have cZ:us.length=xs.dropLast.length:=ai.length
  have hz:(us++[v]).toArray.size<=sizeLine:=by
   have aL:=bb List.length mS
   rw[dO,List.length_singleton]at aL
   rw[hb,dO,List.length_singleton,cZ];exact ij (by lia)
  refine call_meets PySem.F.slot_list_pop ⟨_,df,rfl⟩ PySem.F.entry_list_pop (PySem.F.args_list_pop_1 _) (PySem.MeetsSeq.list_pop_last a (us++[v]).toArray k v (by simp) hz) ⟨df,?_⟩
  have e:(us++[v]).toArray.size-1=us.length:=by simp
  rw[e]
  refine a6 (uo (λxs=>xs.eraseIdxIfInBounds us.length) us df (by have:=G8 us [] v;rw[List.append_nil]at this;exact this)) λbZ dt=>?_
  refine bU (zw S gd (jK ..) dt ai) λa2 a9=>?_
  exact P I _ _ s.toks _ a2 a9 (b7.cM S a9)
 ·subst dq
  refine cI av ?_;clear av;intro xs ar av
  cases xs with
  |nil=>exact bi av
  |cons y cX=>
   refine dB av ?_;clear av;intro aw av
   refine ds av λD7 D8=>?_;clear av;subst D7;subst D8
   refine a6 r λu ff=>?_;clear r;refine a6 ff λ_ fg=>?_;clear ff;refine bU fg λfq g6=>?_;clear fg;subst fq;refine bU g6 λcR i0=>?_;clear g6;refine b2 i0 λi _ hq hR aH=>?_;clear i0;subst hq;refine a6 hR λt i1=>?_;clear hR;subst i1
   have ey:_=[]:=aH
   subst ey
   refine a6 (ik S ar cR) λa je=>?_;refine a6 je λvs kW=>?_;clear je;refine a6 kW λk q4=>?_;clear kW;refine bU q4 λm3 m4=>?_;clear q4;subst m3;refine bU m4 λgd sw=>?_;clear m4;refine bU sw λaR oR=>?_;clear sw;refine bU oR λdf mn=>?_;clear oR;refine b2 mn λv us aU b7 au=>?_;clear mn
   subst aU
   have hz:(v::us).toArray.size<=sizeLine:=by simp[au.length];exact ij aw
   refine call_meets PySem.F.slot_list_pop ⟨_,df,rfl⟩ PySem.F.entry_list_pop (PySem.F.args_list_pop_2 _ _) (PySem.MeetsSeq.list_pop_at a (v::us).toArray k 0 t 0 v ag (by unfold seqIndex?;simp) (by simp) hz) ⟨df,?_⟩
   refine a6 (uo (λxs=>xs.eraseIdxIfInBounds 0) us df (G8 [] us v)) λbZ dt=>?_
   refine bU (zw S gd (jK ..) dt au) λa2 a9=>?_
   exact P I _ _ s.toks _ a2 a9 (b7.cM S a9)
end
theorem ej.without{K:Type}[DecidableEq K]{h:Heap}{I:a1}(k:K){aN:List (K×D)}{al:List (K×Value)}(r:ej h I aN al):ej h I (aN.filter λp=>decide (p.1≠k)) (PySem.without al k):=by
 induction aN generalizing al with
 |nil=>rw[show al=[]from r];exact rfl
 |cons p bM aE=>
  refine b2 r λu r a0 aU au=>?_
  subst a0
  unfold PySem.without
  rw[List.filter_cons,List.filter_cons]
  by_cases ar:p.1=k
  ·rw[fu (not_not_intro ar)];exact aE au
  ·rw[dT ar];exact⟨u,_,rfl,aU,aE au⟩
section
variable{prog:Program}{w:World}{K:Type}[DecidableEq K]{knd:HeapKind prog w K}{A:Around}{E:Value->Shared->Prop}{s:Shared}{d a:Addr}{k:K}{xs:List (K×Addr×Value)}
theorem Qc{Q:Value->Shared->Prop}(cJ:knd.room A.in1)(f3:knd.is s.heap k a)(hd:(d==sysModules)=false)(aR:s.heap.DictOfH knd d xs)
  (h:Q (((atKey xs k).map (·.2)).getD .none) {s with toks:=s.toks+knd.draws k}):wpAny (model prog w) A (call (.builtin "dict.get") [.ref d,.ref a]) Q E s:=by
 refine wpAny_call_entry PySem.F.slot_dict_get aR.typeIs PySem.F.entry_dict_get ?_ (PySem.F.args_dict_get_2 _ _)
 show wpAny _ _ (dictGet d (.ref a)>>=_) _ _ s
 refine aI (wpAny_dictGet_heap cJ f3 aR ?_)
 cases hf:(atKey xs k).map (·.2)with
 |some v=>
  rw[hf]at h
  exact bj ⟨v,rfl,h⟩
 |none=>
  rw[hf]at h
  show wpAny _ _ (Builtin.Dict.missed d (.ref a)>>=_) _ _ _
  exact aI (wpAny_missed_other hd (bj ⟨.none,rfl,h⟩))
theorem Ow{v:Value}{Q:Value->Shared->Prop}(cJ:knd.room A)(f3:knd.is s.heap k a)(aR:s.heap.DictOfH knd d xs)
  (ai:∀p,atKey xs k=some p->Q p.2 {s with toks:=s.toks+knd.draws k})
  (ak:atKey xs k=none->∀af,af.DictOfH knd d (storedH xs k a v)->Heap.SameBut d s.heap af->Q v {s with heap:=af,toks:=s.toks+knd.draws k})
  (fp:xs.length<=sizeLine):wpAny (model prog w) A (dictSetDefault d (.ref a) v) Q E s:=by
 refine sG aR λo al ce aD ax hd a0 Ic aH=>?_;clear aR
 unfold dictSetDefault
 try with_reducible refine gJ ?_
 refine aI (knd.pyHash cJ f3 ?_)
 refine aI (wpAny_dictFind_heap (s:={s with toks:=s.toks+knd.draws k}) cJ f3 aD hd a0 Ic aH ?_ ?_)
 ·intro oG
  have RN:k∉xs.map (·.1):=not_mem_keys_of_get oG
  have dq:=atKey_none_of_get oG
  refine aI (wpAny_rule (aI (wpAny_updateDictKeys (hz:=by have e:=size_of_entries a0;lia) (s:={s with toks:=s.toks+knd.draws k}) aD hd (bj (ak dq _ ⟨_,_,ce+1,Heap.get?_update_self _ aD (Obj.isFreed_of_dict (Obj.data_mapDictKeys hd _)),
   ax.mapDictKeys _,Obj.data_mapDictKeys hd _,?_,?_,?_⟩ (jK ..))))))
  ·rw[storedH_new dq]
   simp[a0,entryOfKey]
  ·rw[storedH_new dq]
   intro x ar
   rcases er.mp ar with ar|ar
   ·exact knd.keeps (Ic x ar) aD hd (jK ..)
   ·simp only[cK]at ar
    subst ar
    exact knd.keeps f3 aD hd (jK ..)
  ·rw[storedH_new dq]
   rw[fv,od]
   refine⟨aH,by simp,?_⟩
   intro x ar y bc
   simp only[gm,List.map_nil,cK]at bc
   subst bc
   exactλe=>RN (e▸ar)
 ·intro j p bn
  refine aI (wpAny_dictEntries (s:={s with toks:=s.toks+knd.draws k}) aD hd ?_)
  rw[entry_at a0 j,bn]
  exact aI (wpAny_rule (bj (ai p (atKey_of_get aH bn))))
theorem Xv{v:Value}{Q:Value->Shared->Prop}(cJ:knd.room A.in1)(f3:knd.is s.heap k a)(hd:(d==sysModules)=false)(aR:s.heap.DictOfH knd d xs)
  (ai:∀p,atKey xs k=some p->Q p.2 {s with toks:=s.toks+knd.draws k})
  (ak:atKey xs k=none->∀af,af.DictOfH knd d (storedH xs k a v)->Heap.SameBut d s.heap af->Q v {s with heap:=af,toks:=s.toks+knd.draws k})
  (fp:xs.length<=sizeLine):wpAny (model prog w) A (call (.builtin "dict.setdefault") [.ref d,.ref a,v]) Q E s:=by
 refine wpAny_call_entry PySem.F.slot_dict_setdefault aR.typeIs PySem.F.entry_dict_setdefault ?_ (PySem.F.args_dict_setdefault_3 _ _ _)
 unfold Builtin.«dict.setdefault»
 refine aI ?_
 unfold Builtin.Dict.keyAndDefault
 refine aI (wpAny_notOrdered_dict aR.typeIs ?_)
 show wpAny _ _ (pure (d,Value.ref a,some v)) _ _ s
 refine bj ?_
 show wpAny _ _ (if(d==sysModules)=true then _ else(dictSetDefault d (.ref a) v>>=_)) _ _ s
 rw[bq (by rw[hd];exact k3)]
 exact aI (Ow cJ f3 aR (λp aF=>bj ⟨p.2,rfl,ai p aF⟩) (λaH af f5 pO=>bj ⟨v,rfl,ak aH af f5 pO⟩) fp)
end
section
variable{prog:Program}{w:World}{am:Heap}{n:Nat}{aA:Scope}{K:Frag}
def rB(J:List D)(C:aa):Option (D×aa):=match J with
 |[.obj l,.tup ks]=>(n2 C l).bind λaN=>if keyOk ks=true then some ((dM aN ks).getD .none,C)else none
 |[.obj l,.str x,d]=>(ra C l).map λaN=>((dM aN x).getD d,C)
 |_=>none
theorem Nn{J:List D}{C:aa}{r:D×aa}{P:List D->Prop}(h:rB J C=some r)(e5:∀l ks,P [.obj l,.tup ks])(jA:∀l x d,P [.obj l,.str x,d]):P J:=by
 cases J with
 |nil=>exact bi h
 |cons a J=>
 cases a with
 |obj l=>
  cases J with
  |nil=>exact bi h
  |cons b J=>
  cases b with
  |tup ks=>
   cases J with
   |nil=>exact e5 l ks
   |cons c J=>exact bi h
  |str x=>
   cases J with
   |nil=>exact bi h
   |cons c J=>
    cases J with
    |nil=>exact jA l x c
    |cons e J=>exact bi h
  |_=>cases J<;>exact bi h
 |_=>exact bi h
theorem J8{h:Heap}{I:a1}{o:Option D}{v:Option Value}{d:D}{u:Value}(r:jo h I o v)(cR:Rep h I d u):Rep h I (o.getD d) (v.getD u):=by
 cases o with
 |none=>rw[show v=none from r];exact cR
 |some e=>refine aG r λx a2 hr=>?_;clear r;subst a2;exact hr
theorem F1:i8 prog w am n (.builtin "dict.get") rB:=by
 intro J C d ao av A I s vs Q E a5 S r P
 have cJ:=a5.units
 refine Nn (P:=λx=>x=J->_) av (λl ks e=>?_) (λl x e dq=>?_) rfl
 ·subst e
  refine cI (o:=n2 C l) av λaN aq av=>dB av λeE aL=>?_
  refine ds aL λcQ db=>?_;clear aL;subst cQ;subst db
  refine b2 r.at2 λu v e cR b7=>?_
  subst e
  refine aG (tK eE b7) λpa a9 nQ=>?_;subst a9
  refine jh (EL S aq cR) λa al bC _ aR hd aF=>?_;subst bC
  refine Qc (knd:=bm prog w) (show A.units+1+8<cLine by lia) nQ (S.t2 aR) hd ?_
  exact P I _ s.heap _ _ S .refl (J8 (aF.get ks) rfl)
 ·subst dq
  refine fC (o:=ra C l) av λaN aq aL=>?_
  cases aL
  refine b2 r λu _ aS cR r=>b2 r.at2 λv y bf b7 ky=>a6 b7 λt cY=>?_
  subst aS
  subst bf
  subst cY
  refine jh (KY S aq cR) λa al bY _ aR hd aF=>?_;subst bY
  exact call_meetsIn PySem.F.slot_dict_get hd.typeIs PySem.F.entry_dict_get (PySem.F.args_dict_get_3 _ _ _) (meets_dict_get_default (PySem.strKind prog w) (k:=x) a (by simp[PySem.strKind,Value.isStrOf]) (S.t2 aR) y) ⟨_,hd.mapOf,P I _ s.heap _ _ S .refl (J8 (aF.get x) ky)⟩
def pg(J:List D)(C:aa):Option (D×aa):=match J with
 |[.obj l,.tup ks,d]=>(n2 C l).bind λaN=>if keyOk ks=true/\aN.length<=lim then(match dM aN ks with
  |some v=>some (v,C)
  |none=>some (d,C.set l (.du (putK aN ks d))))else none
 |_=>none
theorem Nv{J:List D}{C:aa}{r:D×aa}{P:List D->Prop}(h:pg J C=some r)(k:∀l ks d,P [.obj l,.tup ks,d]):P J:=by
 cases J with
 |nil=>exact bi h
 |cons a J=>
 cases a with
 |obj l=>
  cases J with
  |nil=>exact bi h
  |cons b J=>
  cases b with
  |tup ks=>
   cases J with
   |nil=>exact bi h
   |cons c J=>
    cases J with
    |nil=>exact k l ks c
    |cons e J=>exact bi h
  |_=>cases J<;>exact bi h
 |_=>exact bi h
theorem NN:i8 prog w am n (.builtin "dict.setdefault") pg:=by
 intro J C d ao av A I s vs Q E a5 S r P
 have cJ:=a5.units
 ·refine Nv (P:=λx=>x=J->_) av (λl ks e dq=>?_) rfl
  subst dq
  refine cI (o:=n2 C l) av λaN aq av=>dB av λeE av=>?_
  refine b2 r λu _ aS cR r=>b2 r.at2 λv y bf b7 ky=>?_
  subst aS
  subst bf
  refine aG (tK eE.1 b7) λpa b3 nQ=>?_;subst b3
  refine jh (EL S aq cR) λa al cj gd aR hd aF=>?_;subst cj
  have q:=aF.get ks
  refine Xv (knd:=bm prog w) (show A.units+1+8<cLine by lia) nQ (S.t2 aR) hd (λp nJ=>?_) (λoG af cW aZ=>?_) (by rw[aF.length];exact ij eE.2)
  ·rw[nJ]at q
   cases v7:dM aN ks with
   |none=>rw[v7]at q;exact bi q.symm
   |some z=>
    rw[v7]at q av
    refine ds av λeF ff=>?_;clear av;subst eF;subst ff
    refine aG q λx ar hr=>?_;clear q
    refine c0 ar λfq=>?_;clear ar;subst fq
    exact P I _ s.heap _ _ S .refl hr
  ·rw[oG]at q
   cases v7:dM aN ks with
   |some z=>rw[v7]at q;refine aG q λx ar hr=>?_;clear q;exact bi ar
   |none=>
    rw[v7]at av
    refine ds av λhq hR=>?_;clear av;subst hq;subst hR
    refine iw (id cW) λgh _ _ hv _=>?_
    have ex:Ext (· =a) I s.heap I af:=Ext.ml aZ hv
    have dq:fk I s.heap I af:=ex.weaken λb ab=>by subst ab;exact aR
    exact P I _ af _ _ (S.mut gd ex ⟨_,cW,(aF.put ky).ext (S.pq aR) ex⟩) dq (ky.cM S dq)
def rA(J:List D)(C:aa):Option (D×aa):=match J with
 |[.obj l,.int k]=>(tJ C l).bind λaN=>if aN.length<=lim then(dM aN k).map λv=>(v,C.set l (.gR (aN.filter λp=>decide (p.1≠k))))else none
 |_=>none
theorem Nm{J:List D}{C:aa}{r:D×aa}{P:List D->Prop}(h:rA J C=some r)(e5:∀l k,P [.obj l,.int k]):P J:=by
 cases J with
 |nil=>exact bi h
 |cons a J=>
 cases a with
 |obj l=>
  cases J with
  |nil=>exact bi h
  |cons b J=>
  cases b with
  |int k=>
   cases J with
   |nil=>exact e5 l k
   |cons c J=>exact bi h
  |_=>exact bi h
 |_=>exact bi h
theorem NJ:i8 prog w am n (.builtin "dict.pop") rA:=by
 intro J C d ao av A I s vs Q E a5 S r P
 ·refine Nm (P:=λx=>x=J->_) av (λl k dq=>?_) rfl
  subst dq
  refine cI (o:=tJ C l) av λaN aq av=>dB av λaw av=>fC av λz hz aL=>?_
  cases aL
  refine b2 r.at2 λu v aS cR b7=>a6 b7 λt bf=>?_
  subst aS
  subst bf
  refine jh (SF S aq cR) λa al cA gd aR hd aF=>?_;subst cA
  have q:=aF.get k
  rw[hz]at q
  refine aG q λx ar hr=>?_;clear q
  refine call_meetsIn PySem.F.slot_dict_pop hd.typeIs PySem.F.entry_dict_pop (PySem.F.args_dict_pop_2 _ _) (meets_dict_pop_there (intKind prog w) (k:=k) a (by simp[intKind,Value.isInt]) [] (.inl rfl) rfl) ⟨al,x,hd,by rw[aF.length];exact ij aw,ar,λaf cW aZ=>?_⟩
  refine iw (id cW) λgh _ _ hv _=>?_
  have ex:Ext (· =a) I s.heap I af:=Ext.ml aZ hv
  have dq:fk I s.heap I af:=ex.weaken λb ab=>by subst ab;exact aR
  exact P I _ af _ _ (S.mut gd ex ⟨_,cW,(aF.without k).ext (S.pq aR) ex⟩) dq (hr.cM S dq)
noncomputable def th(po:bG)(_:aK)(C:aa):Option (D×aa):=some (.obj C.length,C++[po])
theorem u7(po:bG)(RT:po=.ee []\/po=.gR []\/po=.du []){pos:Pos}:cL prog w am n aA (.Dict [] [] pos) (th po):=by
 intro m C d ao hf A ae I s Q E a5 F S P
 refine ds hf λje kW=>?_;clear hf;subst je;subst kW
 refine wpAny_Dict_empty ?_
 refine P (I++[s.heap.objs.size]) _ _ s.toks _ (S.alloc (bD _) (Ext.sv _) ?_) (Ext.sv _) ⟨s.heap.objs.size,by rw[←S.len];simp,rfl⟩
 rcases RT with rfl|rfl|rfl
 ·exact⟨[],Heap.DictOf.new s.heap,rfl⟩
 ·exact⟨[],Heap.DictOf.new s.heap,rfl⟩
 ·exact⟨[],Heap.DictOfH.new s.heap,rfl⟩
noncomputable def u9(e5 jA:Str)(f g:aY (D×aa))(m:aK)(C:aa):Option (D×aa):=
 (f m C).bind λx=>(g m x.2).bind λy=>some (.obj y.2.length,y.2++[.ee (putK (putK [] e5 x.1) jA y.1)])
theorem x1{nr:Type}[DecidableEq nr]{knd:PySem.KeyKind prog w nr}{h:Heap}{d:Addr}{al:List (nr×Value)}(x:h.DictOf knd d al):(∃o,h.get? d=some o)/\∀I,Clear (· =d) I h:=by
 refine lI x λo _ _ aD _ hd _=>?_;clear x
 exact⟨⟨o,aD⟩,λI a aC xs n e=>by subst aC;rw[aD]at e;refine c0 e λm3=>?_;clear e;subst m3;cases hd⟩
theorem Gy{kf uv:Str}{e5 jA:Nat}{aT bx pos:Pos}{v1 v2:Expr}{f g}(ai:cL prog w am n aA v1 f)(ak:cL prog w am n aA v2 g):
  cL prog w am n aA (.Dict [some (.Constant (.str kf) e5 aT),some (.Constant (.str uv) jA bx)] [v1,v2] pos) (u9 kf uv f g):=by
 intro m C d ao hf A ae I s Q E a5 F S P
 refine dw hf ?_;clear hf;intro a aB aC hf
 refine dw hf ?_;clear hf;intro b a8 ab hf
 refine ds hf λoR mn=>?_;clear hf;subst oR;subst mn
 refine wpAny_Dict_walk (knd:=PySem.strKind prog w) rfl rfl (by simp) (by simp) ?_
 have px:∀bad,Ext bad I s.heap I (s.heap.push {cls:=.type "dict",data:=.dict #[]}):=λ_=>Ext.push _
 have ru:=S.same (px _)
 have Fo:=F.cM S (px _)
 have E8:(s.heap.push {cls:=.type "dict",data:=.dict #[]}).DictOf (PySem.strKind prog w) s.heap.objs.size []:=Heap.DictOf.new s.heap
 have mi:=S.lW (i2 s.heap)
 refine pairTrees_cons_walk (PySem.Calls.Constant_str ?_)
 refine ai m C a aB aC A ae I {s with heap:=s.heap.push {cls:=.type "dict",data:=.dict #[]},toks:=s.toks+1} _ E a5 Fo ru λbJ u c6 b4 cy bE bu cs=>?_
 refine pairTrees_cons_walk (PySem.Calls.Constant_str ?_)
 refine ak m aB b a8 ab A ae bJ {s with heap:=c6,toks:=b4+1,drawn:=cy} _ E a5 (Fo.cM ru bu) bE λcG v dH cN cU cb b0 dp=>?_
 refine pairTrees_nil_walk ?_
 have JN:s.heap.objs.size∉bJ:=λaR=>by
  refine a6 ((x1 E8).1) λo aD=>?_
  exact mi.1 (bu.back aD aR)
 have E9:c6.DictOf (PySem.strKind prog w) s.heap.objs.size []:=sL E8 λo aD=>bu.kept _ _ aD mi.1
 have Fa:dH.DictOf (PySem.strKind prog w) s.heap.objs.size []:=sL E9 λo aD=>b0.kept _ _ aD JN
 have JO:s.heap.objs.size∉cG:=λaR=>by
  refine a6 ((x1 E9).1) λo aD=>?_
  exact JN (b0.back aD aR)
 refine⟨[(kf,u),(uv,v)],⟨by simp[PySem.strKind,Value.isStrOf],rfl,by simp[PySem.strKind,Value.isStrOf],rfl,trivial⟩,Fa,λaf cW aZ=>?_⟩
 refine a6 ((x1 cW).1) λd8 en=>?_
 have ex:Ext (· =s.heap.objs.size) cG dH cG af:=Ext.ml aZ en
 have cl:Clear (· =s.heap.objs.size) cG dH:=(x1 Fa).2 _
 have eR:St prog w am cG a8 af:=cb.other ex cl (λa aC q=>JO (q▸aC)) λb q=>q▸mi.2
 have nZ:Rep af cG a u:=Rep.ext cl ex _ _ (cs.cM bE b0)
 have WX:Rep af cG b v:=Rep.ext cl ex _ _ dp
 have aV:3<s.heap.objs.size:=by refine a6 S.three λo aD=>?_;exact e7 (S.keep _ _ aD)
 have OR:fk I s.heap cG dH:=((px _).dc bu).dc b0
 have OS:fk I s.heap cG af:=OR.trans ex λb o ab q=>by subst q;rw[i2]at ab;exact bi ab
 refine P (cG++[s.heap.objs.size]) _ af _ _ (eR.adopt JO mi.2 aV ⟨_,cW,?_⟩) (OS.adopt (i2 _)) ⟨s.heap.objs.size,?_,rfl⟩
 ·show ej af cG _ (stored (stored [] kf u) uv v)
  have mm:ej af cG ([]:List (Str×D)) ([]:List (Str×Value)):=rfl
  exact(mm.put nZ).put WX
 ·dsimp only
  rw[←cb.len];simp
end
noncomputable def intsOf:List D->Option (List Int)
 |[]=>some []
 |.int i::r=>(intsOf r).map (i:: ·)
 |_=>none
theorem za:∀{J:List D} {ns:List Int},intsOf J=some ns->J=ns.map .int
 |[],ns,h=>by refine c0 h λD2=>?_;clear h;subst D2;rfl
 |.int i::r,ns,h=>by
  refine aG (Option.map_eq_some_iff.mp (show(intsOf r).map (i:: ·)=some ns from h)) λms aR a2=>?_;subst a2
  rw[za aR];rfl
 |.none::_,_,h=>by exact bi h
 |.bool _::_,_,h=>by exact bi h
 |.str _::_,_,h=>by exact bi h
 |.tup _::_,_,h=>by exact bi h
 |.obj _::_,_,h=>by exact bi h
 |.adr _::_,_,h=>by exact bi h
theorem SS:∀ns:List Int,intsOf (ns.map .int)=some ns
 |[]=>rfl
 |i::r=>by show(intsOf (r.map .int)).map (i:: ·)=_;rw[SS r];rfl
theorem ints_rep{h:Heap}{I:a1}:∀{ns:List Int} {vs:List Value},bt h I (ns.map .int) vs->IntsAre vs ns
 |[],vs,r=>by rw[show vs=[]from r];exact .nil
 |i::r,_,⟨v,us,aU,⟨t,bK⟩,au⟩=>by subst aU bK;exact .cons i t (ints_rep au)
noncomputable def tU(ns:List Int):Int:=ns.getD (argBest (λi j=>decide (ns.getD i 0>ns.getD j 0)) (ns.length-1)) 0
section
variable{prog:Program}{w:World}{am:Heap}{n:Nat}{aA:Scope}{K:Frag}
def ek(J:List D)(C:aa):Option (D×aa):=match J with
 |[.obj l]=>(gu C l).bind λxs=>if xs.length<=lim then some (.int xs.length,C)else none
 |[.tup xs]=>if xs.length<=lim then some (.int xs.length,C)else none
 |_=>none
theorem Jj{n:Nat}(h:n<=lim):(n:Int)<2^63:=by
 have:lim=100000:=rfl
 lia
theorem Np{J:List D}{C:aa}{r:D×aa}{P:List D->Prop}(h:ek J C=some r)(j6:∀l,P [.obj l])(e5:∀xs,P [.tup xs]):P J:=by
 cases J with
 |nil=>exact bi h
 |cons c J=>
 cases c with
 |obj l=>
  cases J with
  |nil=>exact j6 l
  |cons c J=>exact bi h
 |tup xs=>
  cases J with
  |nil=>exact e5 xs
  |cons c J=>exact bi h
 |_=>first|exact bi h|(cases J<;>first|exact bi h|(rename_i x y;cases x<;>first|exact bi h|(cases y<;>exact bi h)))
theorem hH:i8 prog w am n (.builtin "len") ek:=by
 intro J C d ao av A I s vs Q E a5 S r P
 refine Np (P:=λx=>x=J->_) av (λl dq=>?_) (λxs dq=>?_) rfl
 ·subst dq
  refine cI av ?_;clear av;intro xs ar av
  refine dB av ?_;clear av;intro aw av
  refine ds av λD3 D4=>?_;clear av;subst D3;subst D4
  refine b2 r λu _ a9 cR aH=>?_;clear r;subst a9
  have ey:_=[]:=aH
  subst ey
  refine hs (ik S ar cR) λa vs k bC _ _ df au=>?_;subst bC
  have e:vs.toArray.size=xs.length:=by simp[au.length]
  refine call_len_list ⟨_,df,rfl,_,rfl⟩ (by rw[e];exact Jj aw) ?_
  rw[e]
  exact P I _ s.heap _ _ S .refl ⟨_,rfl⟩
 ·subst dq
  refine dB av ?_;clear av;intro aw av
  refine ds av λD5 D6=>?_;clear av;subst D5;subst D6
  refine b2 r λu _ bY b3 aH=>?_;clear r;subst bY;refine d4 b3 λa vs k cj df au=>?_;clear b3;subst cj
  have ey:_=[]:=aH
  subst ey
  have e:vs.toArray.size=xs.length:=by simp[au.length]
  refine PyProof.Rows.len_tuple (items:=vs.toArray) ⟨_,df,rfl,_,rfl⟩ (by rw[e];exact Jj aw) ?_
  rw[e]
  exact P I _ s.heap _ _ S .refl ⟨_,rfl⟩
def jR(J:List D)(C:aa):Option (D×aa):=match J with
 |[.obj l]=>(gu C l).bind λxs=>if xs.length<=lim then some (.tup xs,C)else none
 |[.tup xs]=>some (.tup xs,C)
 |_=>none
theorem Nz{J:List D}{C:aa}{r:D×aa}{P:List D->Prop}(h:jR J C=some r)(j6:∀l,P [.obj l])(e5:∀xs,P [.tup xs]):P J:=by
 cases J with
 |nil=>exact bi h
 |cons c J=>
 cases c with
 |obj l=>
  cases J with
  |nil=>exact j6 l
  |cons c J=>exact bi h
 |tup xs=>
  cases J with
  |nil=>exact e5 xs
  |cons c J=>exact bi h
 |_=>first|exact bi h|(cases J<;>first|exact bi h|(rename_i x y;cases x<;>first|exact bi h|(cases y<;>exact bi h)))
theorem pi:i8 prog w am n (.type "tuple") jR:=by
 intro J C d ao av A I s vs Q E a5 S r P
 refine Nz (P:=λx=>x=J->_) av (λl dq=>?_) (λxs dq=>?_) rfl
 ·subst dq
  refine cI av ?_;clear av;intro xs ar av
  refine dB av ?_;clear av;intro aw av
  refine ds av λD7 D8=>?_;clear av;subst D7;subst D8
  refine b2 r λu _ cA cR aH=>?_;clear r;subst cA
  have ey:_=[]:=aH
  subst ey
  refine hs (ik S ar cR) λa vs k cQ _ _ df au=>?_;subst cQ
  refine call_tuple_list (items:=vs.toArray) ⟨_,df,rfl,_,rfl⟩ (λaf aq=>?_) (by rw[hb,au.length];exact ij aw)
  have aS:∀bad,Ext bad I s.heap I af:=λ_=>Ext.mj aq
  exact wZ (s:={s with heap:=af}) (S.same (aS _)) (au.cM S (aS _)) λcG v cE cN cU cb b0 dp=>P cG v cE cN cU cb ((aS _).dc b0) dp
 ·subst dq
  refine ds av λV4 V5=>?_;clear av;subst V4;subst V5
  refine b2 r λu _ db d0 aH=>?_;clear r;subst db;refine d4 d0 λa vs k eF df au=>?_;clear d0;subst eF
  have ey:_=[]:=aH
  subst ey
  exact call_tuple_same (items:=vs.toArray) ⟨_,df,rfl,_,rfl⟩ (P I _ s.heap s.toks _ S .refl ⟨a,vs,k,rfl,df,au⟩)
def uY(J:List D)(C:aa):Option (D×aa):=match J with
 |[.obj l]=>(gu C l).bind λxs=>(intsOf xs).map λns=>(.int ns.sum,C)
 |_=>none
theorem Ny{J:List D}{C:aa}{r:D×aa}{P:List D->Prop}(h:uY J C=some r)(j6:∀l,P [.obj l]):P J:=by
 cases J with
 |nil=>exact bi h
 |cons c J=>
 cases c with
 |obj l=>
  cases J with
  |nil=>exact j6 l
  |cons c J=>exact bi h
 |_=>first|exact bi h|(cases J<;>first|exact bi h|(rename_i x y;cases x<;>first|exact bi h|(cases y<;>exact bi h)))
theorem NP:i8 prog w am n (.builtin "sum") uY:=by
 intro J C d ao av A I s vs Q E a5 S r P
 refine Ny (P:=λx=>x=J->_) av (λl dq=>?_) rfl
 ·subst dq
  refine cI av ?_;clear av;intro xs ar av
  refine fC av ?_;clear av;intro ns kp av
  cases av
  refine b2 r λu _ ff cR aH=>?_;clear r;subst ff
  have ey:_=[]:=aH
  subst ey
  refine hs (ik S ar cR) λa vs k fg _ _ df au=>?_;subst fg
  rw[za kp]at au
  have hi:=ints_rep au
  refine a6 hi.allInts.items λbB mb=>?_
  refine sum_intListG (xs:=bB) a5.1 ⟨_,df,rfl,_,by rw[mb]⟩ λaf bm d1 aq=>?_
  have aS:∀bad,Ext bad I s.heap I af:=λ_=>Ext.mj aq
  have e:preSum (numAt bB) bB.size=ns.sum:=by
   have ai:=nums_intItems bB
   have ak:(intItems bB).toList=vs:=by rw[←mb]
   rw[ak,hi.numsOf]at ai
   rw[preSum_eq,List.take_of_length_le (by simp),ai]
  rw[e]
  exact P I _ af bm _ (S.same (aS _)) (aS _) ⟨_,rfl⟩
def qo(J:List D)(C:aa):Option (D×aa):=match J with
 |[.obj l]=>(gu C l).bind λxs=>(intsOf xs).bind λns=>if ns≠[]then some (.int (tU ns),C)else none
 |[.int a,.int b]=>some (.int (if b>a then b else a),C)
 |_=>none
theorem Nr{J:List D}{C:aa}{r:D×aa}{P:List D->Prop}(h:qo J C=some r)(j6:∀l,P [.obj l])(e5:∀a b,P [.int a,.int b]):P J:=by
 cases J with
 |nil=>exact bi h
 |cons c J=>
 cases c with
 |obj l=>
  cases J with
  |nil=>exact j6 l
  |cons c J=>exact bi h
 |int a=>
  cases J with
  |nil=>exact bi h
  |cons c J=>
  cases c with
  |int b=>
   cases J with
   |nil=>exact e5 a b
   |cons c J=>exact bi h
  |_=>first|exact bi h|(cases J<;>first|exact bi h|(rename_i x y;cases x<;>first|exact bi h|(cases y<;>exact bi h)))
 |_=>first|exact bi h|(cases J<;>first|exact bi h|(rename_i x y;cases x<;>first|exact bi h|(cases y<;>exact bi h)))
theorem F2:i8 prog w am n (.builtin "max") qo:=by
 intro J C d ao av A I s vs Q E a5 S r P
 refine Nr (P:=λx=>x=J->_) av (λl dq=>?_) (λa b dq=>?_) rfl
 ·subst dq
  refine cI av ?_;clear av;intro xs ar av
  refine cI av ?_;clear av;intro ns kp av
  refine dB av ?_;clear av;intro e1 av
  refine ds av λV6 V7=>?_;clear av;subst V6;subst V7
  refine b2 r λu _ fq cR aH=>?_;clear r;subst fq
  have ey:_=[]:=aH
  subst ey
  refine hs (ik S ar cR) λa vs k g6 _ _ df au=>?_;subst g6
  rw[za kp]at au
  have hi:=ints_rep au
  refine a6 hi.allInts.items λbB mb=>?_
  have fp:bB.size=ns.length:=by
   have:=bb Array.size mb
   simp[intItems]at this
   rw[←this,hi.length]
  have iS:∀i,numAt bB i=ns.getD i 0:=λi=>by
   have ai:=nums_intItems bB
   have ak:(intItems bB).toList=vs:=by rw[←mb]
   rw[ak,hi.numsOf]at ai
   unfold numAt
   rw[ai,kC,iM,kD]
  have CF:0<bB.size:=by rw[fp];exact List.length_pos_iff.mpr e1
  refine max_intList (xs:=bB) a5.1 ⟨_,df,rfl,_,by rw[mb]⟩ CF λv af bm aU aq=>?_
  have aS:∀bad,Ext bad I s.heap I af:=λ_=>Ext.mj aq
  refine a6 (intItems_at aU) λt i0=>?_;subst i0
  have e:numAt bB (argBest (λi j=>decide (numAt bB i>numAt bB j)) (bB.size-1))=tU ns:=by
   unfold tU
   have:numAt bB=λi=>ns.getD i 0:=funext iS
   rw[this,fp]
  rw[e]
  exact P I _ af bm _ (S.same (aS _)) (aS _) ⟨_,rfl⟩
 ·subst dq
  refine ds av λV8 V9=>?_;clear av;subst V8;subst V9
  refine a6 r λu hq=>?_;clear r;refine a6 hq λ_ hR=>?_;clear hq;refine bU hR λi1 je=>?_;clear hR;subst i1;refine bU je λkW m3=>?_;clear je;refine a6 kW λt q4=>?_;clear kW;subst q4;refine b2 m3 λv _ m4 sw aH=>?_;clear m3;subst m4;refine a6 sw λd1 oR=>?_;clear sw;subst oR
  have ey:_=[]:=aH
  subst ey
  refine max_two_ints a5.1 λaf bm aq=>?_
  have aS:∀bad,Ext bad I s.heap I af:=λ_=>Ext.mj aq
  refine P I _ af bm _ (S.same (aS _)) (aS _) ?_
  split<;>exact⟨_,rfl⟩
noncomputable def uX(J:List D)(C:aa):Option (D×aa):=match J with
 |[.int a,.int b]=>some (.int (if b<a then b else a),C)
 |_=>none
theorem Nt{J:List D}{C:aa}{r:D×aa}{P:List D->Prop}(h:uX J C=some r)(j6:∀a b,P [.int a,.int b]):P J:=by
 cases J with
 |nil=>exact bi h
 |cons c J=>
 cases c with
 |int a=>
  cases J with
  |nil=>exact bi h
  |cons c J=>
  cases c with
  |int b=>
   cases J with
   |nil=>exact j6 a b
   |cons c J=>exact bi h
  |_=>first|exact bi h|(cases J<;>first|exact bi h|(rename_i x y;cases x<;>first|exact bi h|(cases y<;>exact bi h)))
 |_=>first|exact bi h|(cases J<;>first|exact bi h|(rename_i x y;cases x<;>first|exact bi h|(cases y<;>exact bi h)))
theorem NM:i8 prog w am n (.builtin "min") uX:=by
 intro J C d ao av A I s vs Q E a5 S r P
 refine Nt (P:=λx=>x=J->_) av (λa b dq=>?_) rfl
 ·subst dq
  refine ds av λWa Wb=>?_;clear av;subst Wa;subst Wb
  refine a6 r λu mn=>?_;clear r;refine a6 mn λ_ t7=>?_;clear mn;refine bU t7 λDW zM=>?_;clear t7;subst DW;refine bU zM λt8 Kx=>?_;clear zM;refine a6 t8 λt DX=>?_;clear t8;subst DX;refine b2 Kx λv _ DY Ky aH=>?_;clear Kx;subst DY;refine a6 Ky λd1 VY=>?_;clear Ky;subst VY
  have ey:_=[]:=aH
  subst ey
  refine min_two_ints a5.1 λaf bm aq=>?_
  have aS:∀bad,Ext bad I s.heap I af:=λ_=>Ext.mj aq
  refine P I _ af bm _ (S.same (aS _)) (aS _) ?_
  split<;>exact⟨_,rfl⟩
noncomputable def xI(J:List D)(C:aa):Option (D×aa):=match J with
 |[.int a]=>if a.natAbs.log2<1920 then some (.str (Str.ofString (toString a)),C)else none
 |_=>none
theorem Nx{J:List D}{C:aa}{r:D×aa}{P:List D->Prop}(h:xI J C=some r)(j6:∀a,P [.int a]):P J:=by
 cases J with
 |nil=>exact bi h
 |cons c J=>
 cases c with
 |int a=>
  cases J with
  |nil=>exact j6 a
  |cons c J=>exact bi h
 |_=>first|exact bi h|(cases J<;>first|exact bi h|(rename_i x y;cases x<;>first|exact bi h|(cases y<;>exact bi h)))
theorem NO:i8 prog w am n (.type "str") xI:=by
 intro J C d ao av A I s vs Q E a5 S r P
 refine Nx (P:=λx=>x=J->_) av (λa dq=>?_) rfl
 ·subst dq
  refine dB av ?_;clear av;intro aC av
  refine ds av λWc Wd=>?_;clear av;subst Wc;subst Wd
  refine b2 r λu _ DZ Kz aH=>?_;clear r;subst DZ;refine a6 Kz λt VZ=>?_;clear Kz;subst VZ
  have ey:_=[]:=aH
  subst ey
  exact PySem.P.str_of_int aC (P I _ s.heap _ _ S .refl ⟨_,rfl⟩)
noncomputable def AV(J:List D)(C:aa):Option (D×aa):=match J with
 |[.str x]=>some (.bool (Txt.isspace x),C)
 |_=>none
theorem No{J:List D}{C:aa}{r:D×aa}{P:List D->Prop}(h:AV J C=some r)(j6:∀x,P [.str x]):P J:=by
 cases J with
 |nil=>exact bi h
 |cons c J=>
 cases c with
 |str x=>
  cases J with
  |nil=>exact j6 x
  |cons c J=>exact bi h
 |_=>first|exact bi h|(cases J<;>first|exact bi h|(rename_i x y;cases x<;>first|exact bi h|(cases y<;>exact bi h)))
theorem NK:i8 prog w am n (.builtin "str.isspace") AV:=by
 intro J C d ao av A I s vs Q E a5 S r P
 refine No (P:=λx=>x=J->_) av (λx dq=>?_) rfl
 ·subst dq
  refine ds av λWe Wf=>?_;clear av;subst We;subst Wf
  refine b2 r λu _ D0 KA aH=>?_;clear r;subst D0;refine a6 KA λt V0=>?_;clear KA;subst V0
  have ey:_=[]:=aH
  subst ey
  exact PySem.SC.isspace (P I _ s.heap _ _ S .refl rfl)
def uW(J:List D)(C:aa):Option (D×aa):=match J with
 |[.obj l]=>(gu C l).bind λxs=>if xs.length<=lim then some (.obj C.length,C++[.list xs])else none
 |_=>none
theorem Nq{J:List D}{C:aa}{r:D×aa}{P:List D->Prop}(h:uW J C=some r)(j6:∀l,P [.obj l]):P J:=by
 cases J with
 |nil=>exact bi h
 |cons c J=>
 cases c with
 |obj l=>
  cases J with
  |nil=>exact j6 l
  |cons c J=>exact bi h
 |_=>first|exact bi h|(cases J<;>first|exact bi h|(rename_i x y;cases x<;>first|exact bi h|(cases y<;>exact bi h)))
theorem NL:i8 prog w am n (.type "list") uW:=by
 intro J C d ao av A I s vs Q E a5 S r P
 refine Nq (P:=λx=>x=J->_) av (λl dq=>?_) rfl
 ·subst dq
  refine cI av ?_;clear av;intro xs ar av
  refine dB av ?_;clear av;intro aw av
  refine ds av λWg Wh=>?_;clear av;subst Wg;subst Wh
  refine b2 r λu _ D1 cR aH=>?_;clear r;subst D1
  have ey:_=[]:=aH
  subst ey
  refine hs (ik S ar cR) λa vs k V1 _ _ df au=>?_;subst V1
  refine call_list_seq a (.inl rfl) df rfl rfl (λaf ez aq g4=>?_) (by rw[hb,au.length];exact ij aw)
  have aS:Ext (λ_=>False) I s.heap (I++[s.heap.objs.size]) af:=Ext.grow aq (i2 _)
  exact P (I++[s.heap.objs.size]) _ af s.toks _ (S.alloc (bD _) aS ⟨vs,ez,g4,bt.ext .none aS _ _ au⟩) (aS.weaken λ_ ab=>ab.elim) ⟨s.heap.objs.size,by rw[←S.len];simp,rfl⟩
def si(f:aY (D×aa))(m:aK)(C:aa):Option (D×aa):=(f m C).bind λx=>match x.1 with
 |.int b=>if 0<=b/\b<=lim then some (.obj x.2.length,x.2++[.list (m6 0 b)])else none
 |_=>none
theorem KR{h:Heap}{I:a1}:∀(vs:List Value) (a:Int),(∀(j:Nat) (v:Value),vs[j]?=some v->∃t,v=Value.int (a+(j:Int)) t)->bt h I ((List.range vs.length).map λ(j:Nat)=>D.int (a+(j:Int))) vs
 |[],a,_=>rfl
 |v::r,a,H=>by
  rw[fX,List.range_succ_eq_map,gm,fj]
  refine a6 (H 0 v rfl) λt bK=>?_
  refine⟨v,r,rfl,⟨t,by rw[bK]⟩,?_⟩
  have:=KR (h:=h) (I:=I) r (a+1) λj u bn=>by
   refine a6 (H (j+1) u bn) λt bK=>?_
   exact⟨t,by rw[bK];congr 1;lia⟩
  have e:(λ(j:Nat)=>D.int (a+1+(j:Int)))=((λ(j:Nat)=>D.int (a+(j:Int)))∘Nat.succ):=by
   funext j
   refine(?_:D.int (a+1+(j:Int))=D.int (a+((j+1:Nat):Int)))
   congr 1;lia
  rw[←e];exact this
theorem Gz{e:Expr}{p gi pos pos':Pos}{f}(ab:no am "range" (.type "range")) (aw:no am "list" (.type "list")) (ar:aA.names.lookup ("range":Str)=some .globalImplicit) (bc:aA.names.lookup ("list":Str)=some .globalImplicit) (a0:cL prog w am n aA e f)
  (aZ:∀ae,starEach [e] ae=(false,eval e ae)::starEach [] ae):cL prog w am n aA (.Call (.Name "list" gi) [.Call (.Name "range" p) [e] [] pos] [] pos') (si f):=by
 intro m C d ao hf A ae I s Q E a5 F S P
 refine dw hf ?_;clear hf;intro a aB aC hf
 split at hf
 ·rename_i b hO
  have QM:a=.int b:=hO
  subst QM
  refine dB hf ?_;clear hf;intro ZO hf
  refine ds hf λWi Wj=>?_;clear hf;subst Wi;subst Wj
  refine wpAny_Call_Name_kw (pk aw F S bc ag ?_)
  refine PyProof.Rows.callWith_type1 (PySem.Calls.spliced_cons ?_) rfl rfl
  refine wpAny_Call_Name_kw (pk ab F S ar ag ?_)
  refine PyProof.Rows.callWith_type1 ?_ (aZ ae) rfl
  rw[aZ ae]
  refine PySem.Calls.spliced_cons ?_
  refine a0 m C _ aB aC A ae I s _ E a5 F S λbJ u c6 b4 cy bE bu cs=>?_
  refine a6 cs λt V2=>?_;clear cs;subst V2
  refine PySem.Calls.spliced_nil ?_
  refine call_range_1 (s:={s with heap:=c6,toks:=b4,drawn:=cy}) ?_
  refine PySem.Calls.spliced_nil ?_
  have ex:∀bad,Ext bad bJ c6 bJ (c6.push {cls:=.type "range",data:=.fields #[.int 0 b4,.int b t,.int 1 (b4+1)]}):=λ_=>Ext.push _
  have cb:=bE.same (ex _)
  have oD:(lim:Int)=100000:=rfl
  have fp:Builtin.Range.rangeSize 0 b 1=((b.toNat:Nat):Int):=by rw[rangeSize_one];split<;>lia
  refine call_list_range (s:={s with heap:=c6.push {cls:=.type "range",data:=.fields #[.int 0 b4,.int b t,.int 1 (b4+1)]},toks:=b4+1+1,drawn:=cy}) a5.1 (IsRange.new ..) (small_one ag ag (by lia) (by lia)) fp (by lia) λaf bm lg ez aq av HR=>?_
  obtain ⟨vs⟩:=lg
  have y3:vs.length=b.toNat:=by have:=HR.1;simpa using this
  have au:bt af bJ (m6 0 b) vs:=by
   have:=KR (h:=af) (I:=bJ) vs 0 λj v bn=>by
    refine a6 (HR.2 j v (by simpa using bn)) λt bK=>?_
    exact⟨t,by rw[bK];congr 1;lia⟩
   unfold m6
   rw[Int.sub_zero,←y3];exact this
  have bf:Ext (λ_=>False) bJ (c6.push {cls:=.type "range",data:=.fields #[.int 0 b4,.int b t,.int 1 (b4+1)]}) (bJ++[(c6.push {cls:=.type "range",data:=.fields #[.int 0 b4,.int b t,.int 1 (b4+1)]}).objs.size]) af:=Ext.grow aq (i2 _)
  exact P (bJ++[(c6.push {cls:=.type "range",data:=.fields #[.int 0 b4,.int b t,.int 1 (b4+1)]}).objs.size]) _ af bm _ (cb.alloc (bD _) bf ⟨vs,ez,av,bt.grow _ _ _ au⟩) ((bu.dc (ex _)).dc (bf.weaken λ_ ab=>ab.elim)) ⟨_,by rw[←cb.len];simp,rfl⟩
 ·exact bi hf
end
section
variable{prog:Program}{w:World}{am:Heap}{n:Nat}{aA:Scope}{K:Frag}
def rN(f:aY (D×aa))(m:aK)(C:aa):Option ((List D×Option (Nat×List D))×aa):=(f m C).bind λx=>(objOf x.1).bind λl=>(gu x.2 l).map λxs=>((rM xs,some (l,xs)),x.2)
theorem Gp{e:Expr}{p pos:Pos}{f}(ab:no am "enumerate" (.type "enumerate")) (ar:aA.names.lookup ("enumerate":Str)=some .globalImplicit) (a0:cL prog w am n aA e f)
  (aZ:∀ae,starEach [e] ae=(false,eval e ae)::starEach [] ae):k5 prog w am n aA (.Call (.Name "enumerate" p) [e] [] pos) true (rN f):=by
 intro m C J src ao hf A ae I s Q E a5 F S P
 refine dw hf ?_;clear hf;intro d aB hd hf
 ·refine cI hf λl aw hf=>fC hf λxs hx hf=>?_
  obtain rfl:=m1 aw
  cases hf
  refine wpAny_Call_Name_kw (pk ab F S ar ag ?_)
  refine PyProof.Rows.callWith_type1 ?_ (aZ ae) rfl
  rw[aZ ae]
  refine PySem.Calls.spliced_cons ?_
  refine a0 m C _ aB hd A ae I s _ E a5 F S λbJ u c6 b4 cy bE bu cs=>?_
  refine PySem.Calls.spliced_nil ?_
  refine hs (ik bE hx cs) λa vs k cA gd aR df au=>?_;subst cA
  refine call_enumerate_1 (s:={s with heap:=c6,toks:=b4,drawn:=cy}) (items:=vs.toArray) df λaf vL ed fp aq=>?_
  refine wpAny_pyIter_enum vL ?_
  have ex:∀bad,Ext bad bJ c6 bJ af:=λ_=>Ext.mj aq
  have qe:=i2 c6
  have Ao:c6.get? (c6.objs.size+1)=none:=rT c6 (k1 _)
  refine eB (id ed) λDG yS Cc Cf=>?_
  exact P bJ (.enum (c6.objs.size+1) c6.objs.size a l) af b4 cy (bE.same (ex _)) (bu.dc (ex _)) ⟨xs,.none,rfl,rfl,gd,vL,ed,Nat.succ_ne_self _⟩ ⟨xK (bE.lW Ao) (bE.lW qe),xK ⟨_,_,vL,rfl⟩ ⟨_,_,yS,Cf⟩⟩ (xK (rO bu Ao) (rO bu qe)) rfl
end
section
variable{prog:Program}{w:World}{A:Around}{E:Value->Shared->Prop}{s:Shared}
theorem P2{a:Addr}{xs:Array Value}{k:Nat}{Q:Option Value->Shared->Prop}(ar:s.heap.get? a=some (seqObj "list" xs k)) (tr:A.handled=none)
  (h:∀af bm,(∀b o,s.heap.get? b=some o->af.get? b=some o)->Q none {s with heap:=af,toks:=bm}):wpAny (model prog w) A (getAttr? (.ref a) "keys") Q E s:=by
 obtain ⟨aF,g,d,bm,os⟩:=s
 have Cy:typeLookup (.type "list") "keys"=pure none:=by rw[typeLookup_type,builtinLookup_eq_fast];kernel_rfl
 have d3:∀gG,(⟨aF,g,d,gG,os⟩:Shared).TypeIs (.ref a) "list":=λ_=>⟨_,ar,rfl⟩
 have f1:=sub_AttributeError
 have vm:=PySem.F.slot_list_getattribute.lookup
 have f4:=PySem.F.slot_list_getattribute.bind (.ref a)
 have Pa:=am_list_getattr_none
 unfold getAttr? getAttrBy? getAttrBy
 repeat (any_goals (first|assumption|exact d3 _|((with_reducible show wpAny _ _ (call (Value.builtin "list.__getattribute__") _ _) _ _ _);refine call_meets PySem.F.slot_list_getattribute (d3 _) am_entry_list_getattribute (PySem.F.args_list_getattribute_2 _ _) (meets_getattribute_miss_list a xs k _ "keys" _ Cy (by decide+kernel)) ⟨ar,tr,λaf gG e hx=>?_⟩)|wp_step))
 refine iH hx.there λd1 Lx a0=>?_
 show wpAny _ _ (getattributeRaised _ _ _ _ _ _ _) _ _ _
 unfold getattributeRaised
 repeat (any_goals (first|assumption|wp_step))
 exact h _ _ hx.of.keeps
theorem P3{a:Addr}{xs:Array Value}{k:Nat}{Q:Option Value->Shared->Prop}(ar:s.heap.get? a=some (seqObj "tuple" xs k)) (tr:A.handled=none)
  (h:∀af bm,(∀b o,s.heap.get? b=some o->af.get? b=some o)->Q none {s with heap:=af,toks:=bm}):wpAny (model prog w) A (getAttr? (.ref a) "keys") Q E s:=by
 obtain ⟨aF,g,d,bm,os⟩:=s
 have Cy:typeLookup (.type "tuple") "keys"=pure none:=by rw[typeLookup_type,builtinLookup_eq_fast];kernel_rfl
 have d3:∀gG,(⟨aF,g,d,gG,os⟩:Shared).TypeIs (.ref a) "tuple":=λ_=>⟨_,ar,rfl⟩
 have f1:=sub_AttributeError
 have vm:=PySem.F.slot_tuple_getattribute.lookup
 have f4:=PySem.F.slot_tuple_getattribute.bind (.ref a)
 have Pa:=am_tuple_getattr_none
 unfold getAttr? getAttrBy? getAttrBy
 repeat (any_goals (first|assumption|exact d3 _|((with_reducible show wpAny _ _ (call (Value.builtin "tuple.__getattribute__") _ _) _ _ _);refine call_meets PySem.F.slot_tuple_getattribute (d3 _) am_entry_tuple_getattribute (PySem.F.args_tuple_getattribute_2 _ _) (meets_getattribute_miss_tuple a xs k _ "keys" _ Cy (by decide+kernel)) ⟨ar,tr,λaf gG e hx=>?_⟩)|wp_step))
 refine iH hx.there λd1 Lx a0=>?_
 show wpAny _ _ (getattributeRaised _ _ _ _ _ _ _) _ _ _
 unfold getattributeRaised
 repeat (any_goals (first|assumption|wp_step))
 exact h _ _ hx.of.keeps
theorem G1:entryFor table "dict.update.loop"=some Builtin.«dict.update.loop»:=entryFor_of_tree (by kernel_rfl)
theorem Kk:plainId "dict.update.loop"=true:=by decide+kernel
theorem Vx{t:Addr}{vs:List Value}{k:Nat}{Q:List Value->Shared->Prop}(av:s.heap.get? t=some (seqObj "tuple" vs.toArray k)) (h:Q vs s):wpAny (model prog w) A (Builtin.Dict.pairItems (.ref t)) Q E s:=by
 unfold Builtin.Dict.pairItems
 refine aI (wpAny_typeOf (T:="tuple") ⟨_,av,rfl⟩ ?_)
 rw[a3 ag]
 refine aI (wpAny_seqItems av rfl (bj ?_))
 exact h
end
theorem Around.in1_units{A:Around}:A.in1.units=A.units+1:=rfl
section
variable{prog:Program}{w:World}{am:Heap}{n:Nat}{aA:Scope}{K:Frag}
noncomputable def two(l:List D):Option (D×D):=match l with
 |[a,b]=>some (a,b)
 |_=>none
theorem YI{l:List D}{a b:D}(h:two l=some (a,b)):l=[a,b]:=by
 cases l with
 |nil=>exact bi h
 |cons x l=>
  cases l with
  |nil=>exact bi h
  |cons y l=>
   cases l with
   |nil=>refine ds h λcQ db=>?_;clear h;subst cQ;subst db;rfl
   |cons z l=>exact bi h
def I0(d:D):Option (List D):=(n3 d).bind λks=>if keyOk ks=true then some ks else none
noncomputable def Vy{gp:Type}(f:D->Option gp)(d:D):Option (gp×D):=(n3 d).bind λl=>(two l).bind λp=>(f p.1).map λx=>(x,p.2)
noncomputable def wW{gp:Type}(f:D->Option gp):List D->Option (List (gp×D))
 |[]=>some []
 |d::r=>(Vy f d).bind λp=>(wW f r).map (p:: ·)
def DQ:List D->Option (List (List D×D)):=wW I0
def DP:List D->Option (List (Str×D)):=wW strOf
noncomputable def iq{K:Type}[DecidableEq K](bz c7:List (K×D)):List (K×D):=c7.foldl (λbz p=>putK bz p.1 p.2) bz
theorem VW{K:Type}[DecidableEq K](aN:List (K×D))(k:K)(d:D):(putK aN k d).length<=aN.length+1:=by
 unfold putK;split
 ·simp
 ·simp
noncomputable abbrev Aq(eu aM:Addr)(b:Addr):Prop:=b=eu\/b=aM
theorem Q7{vs us:List Value}{v:Value}{i:Nat}(h:vs.drop i=v::us):vs.toArray[i]?=some v/\vs.drop (i+1)=us:=by
 have cz:i<vs.length:=Nat.lt_of_not_le λq=>by rw[List.drop_of_length_le q]at h;cases h
 rw[List.drop_eq_getElem_cons cz]at h
 exact⟨List.getElem?_toArray.trans ((gz cz).trans (bb some (List.cons.inj h).1)),(List.cons.inj h).2⟩
theorem O4{P Q:Addr->Prop}{I:a1}{h af:Heap}(e:e8 P I h I af)(B3:∀a,P a->Q a):e8 Q I h I af:=⟨e.pre,e.fresh,λb o ab aH=>e.kept b o ab λq=>aH (B3 b q)⟩
structure Upd(prog:Program)(w:World)(am:Heap)(A:Around)(I:a1)(aM a eu:Addr)(vs:List Value)(o:Obj){gp:Type}[DecidableEq gp](f:D->Option gp)(ng:Heap->List (gp×D)->Prop)(nq:Heap->Nat->Prop):Prop where
 mM:aM≠eu
 vW:eu≠a
 vM:aM≠a
 mL:eu∉I
 ed:aM∉I
 vK:am.get? eu=none
 ts:am.get? aM=none
 ou:∀h aN,ng h aN->Clear (· =eu) I h
 pn:∀h i,nq h i->Clear (· =aM) I h
 keep:∀h af aN,Clear (· =aM) I h->e8 (· =aM) I h I af->ng h aN->ng af aN
 X2:∀h af i,Heap.SameBut eu h af->nq h i->nq af i
 next:∀(s:Shared) i x Q E,nq s.heap i->s.heap.get? a=some o->vs.toArray[i]?=some x->(∀af,nq af (i+1)->Heap.SameBut aM s.heap af->Q (some x) {s with heap:=af})->wpAny (model prog w) A.in1 (pyNext (.ref aM)) Q E s
 last:∀(s:Shared) i Q E,nq s.heap i->s.heap.get? a=some o->vs.toArray[i]?=none->(∀af,Heap.ExtBut aM s.heap af->Q none {s with heap:=af})->wpAny (model prog w) A.in1 (pyNext (.ref aM)) Q E s
 set:∀(s:Shared) aN d x v u Ah Q E,f d=some x->ng s.heap aN->Rep s.heap I d u->Rep s.heap I v Ah->aN.length<=lim->(∀af bm,ng af (putK aN x v)->Heap.SameBut eu s.heap af->(∃o,af.get? eu=some o)->Q () {s with heap:=af,toks:=bm})->wpAny (model prog w) A.in1 (dictSet eu u Ah) Q E s
theorem LD{A:Around}{R:Result->Shared->Prop}{I:a1}{C:aa}{aM a eu:Addr}{vs:List Value}{bp:Obj}{gp:Type}[DecidableEq gp]{f:D->Option gp}{ng:Heap->List (gp×D)->Prop}{nq:Heap->Nat->Prop}(jQ:Upd prog w am A I aM a eu vs bp f ng nq)
  (J:List D) (cX:List (gp×D)) (i:Nat) (s:Shared) (aN:List (gp×D)) (aF:wW f J=some cX) (S:St prog w am I C s.heap) (eA:nq s.heap i) (dQ:s.heap.get? a=some bp) (au:bt s.heap I J (vs.drop i)) (hd:ng s.heap aN) (aw:aN.length+cX.length<=lim)
  (a5:∀af gG,St prog w am I C af->e8 (Aq eu aM) I s.heap I af->ng af (iq aN cX)->R (.ok (.ret .none)) {s with heap:=af,toks:=gG}):
   codeAny (model prog w) A (.builtin "dict.update.loop" ⟨[.ref eu,.ref aM,rawInt i,.none],[]⟩) R s:=by
 induction J generalizing cX i s aN with
 |nil=>
  refine c0 aF λeF=>?_;clear aF;subst eF
  refine codeAny_builtin G1 ?_
  rw[Around.under_plainId Kk]
  unfold Builtin.«dict.update.loop»
  refine aI (jQ.last s i _ _ eA dQ (List.getElem?_toArray.trans (lM (List.drop_eq_nil_iff.mp au))) λaf a0=>aI (bj (bj ?_)))
  have aS:e8 (· =aM) I s.heap I af:=⟨⟨[],(List.append_nil _).symm⟩,λ_ aC=>.inl aC,λb o ab aH=>a0 b o aH ab⟩
  have cl:=jQ.pn _ _ eA
  exact a5 af s.toks (S.wU aS cl (λb ab q=>jQ.ed (q▸ab)) λb q=>q▸jQ.ts) (O4 aS λ_=>.inr) (jQ.keep _ _ _ cl aS hd)
 |cons d J aE=>
  refine cI aF λp nJ aF=>fC aF λEo d7 e=>?_
  subst e
  refine cI nJ λl qN nJ=>dw nJ λOx v qO nJ=>fC nJ λx ar e=>?_
  subst e
  obtain rfl:=sC qN
  obtain rfl:=YI qO
  refine b2 au λu us Sm cR dA=>d4 cR λt ws c e Ia rw=>b2 rw λkB aaA aS WT rw=>b2 rw λkc Za bf WU aH=>?_
  subst e
  subst aS
  subst bf
  obtain rfl:Za=[]:=aH
  have IC:=Q7 Sm
  refine codeAny_builtin G1 ?_
  rw[Around.under_plainId Kk]
  unfold Builtin.«dict.update.loop»
  refine aI (jQ.next s i _ _ _ eA dQ IC.1 λbN Rl qV=>?_)
  have pn:=jQ.pn _ _ eA
  have kf:e8 (· =aM) I s.heap I bN:=⟨⟨[],(List.append_nil _).symm⟩,λ_ aC=>.inl aC,λb o ab aH=>(qV.2 b aH).trans ab⟩
  have bE:=S.wU kf pn (λb ab q=>jQ.ed (q▸ab)) λb q=>q▸jQ.ts
  refine aI (gJ (aI (wpAny_tryCatch (Vx (s:={s with heap:=bN}) (kf.kept _ _ Ia λq=>pn t q _ _ Ia) (gJ ?_)))))
  have H4:=jQ.keep _ _ _ pn kf hd
  refine jQ.set {s with heap:=bN} aN Ox x v kB kc _ _ ar H4 (Rep.ext3 pn kf _ _ WT) (Rep.ext3 pn kf _ _ WU) (aO (hD ..) aw) λcE bm nE nK aD=>?_
  have ou:=jQ.ou _ _ H4
  have bf:Ext (· =eu) I bN I cE:=aD.elim λo aD=>Ext.ml nK aD
  have cb:=bE.other bf ou (λb ab q=>jQ.mL (q▸ab)) λb q=>q▸jQ.vK
  refine bj ⟨Code.quiet_builtin _ (by decide+kernel),?_⟩
  rw[show rawInt ((i:Int)+1)=rawInt ((i+1:Nat):Int)from rfl]
  refine aE Eo (i+1) {s with heap:=cE,toks:=bm} (putK aN x v) d7 cb (jQ.X2 _ _ _ nK Rl) ((nK.2 a (Ne.symm jQ.vW)).trans ((qV.2 a (Ne.symm jQ.vM)).trans dQ)) ?_ nE ?_ λaf gG dP bO cW=>?_
  ·rw[IC.2]
   exact bt.ext ou bf _ _ (bt.ext3 pn kf _ _ dA)
  ·exact aO (nb (VW aN x v) _) (aO (cB (lN _ 1 _)) aw)
  ·exact a5 af gG dP ⟨bO.pre,λb ab=>.inl ab,λb o ab aH=>bO.kept b o (bf.kept b o (kf.kept b o ab λq=>aH (.inr q)) λq=>aH (.inl q)) aH⟩ cW
theorem YR{A:Around}{R:Result->Shared->Prop}{I:a1}{C:aa}{aM a eu:Addr}{vs:List Value}{k:Nat}(cH:A.handled=none)(cJ:A.units+12<cLine)(mM:aM≠eu)(vW:eu≠a)(vM:aM≠a)(mL:eu∉I)(ed:aM∉I)(vK:am.get? eu=none)(ts:am.get? aM=none):
  ∀(cX:List (List D×D)) (J:List D) (i:Nat) (s:Shared) (al:List (List D×Addr×Value)) (aN:List (List D×D)),DQ J=some cX->St prog w am I C s.heap->s.heap.IsListIter aM a i->s.heap.get? a=some (seqObj "list" vs.toArray k)->
   bt s.heap I J (vs.drop i)->s.heap.DictOfH (bm prog w) eu al->e9 s.heap I aN al->aN.length+cX.length<=lim->
   (∀af gG fm,St prog w am I C af->e8 (Aq eu aM) I s.heap I af->af.DictOfH (bm prog w) eu fm->e9 af I (iq aN cX) fm->R (.ok (.ret .none)) {s with heap:=af,toks:=gG})->
   codeAny (model prog w) A (.builtin "dict.update.loop" ⟨[.ref eu,.ref aM,rawInt i,.none],[]⟩) R s:=by
 intro cX J i s al aN aF S eA dQ au hd tD aw a5
 have BE:∀h i,h.IsListIter aM a i->Clear (· =aM) I h:=λh i q b ab xs m e=>by
  refine eB q λo aD _ ig=>?_;clear q
  rw[ab,aD]at e
  refine c0 e λfq=>?_;clear e;subst fq
  cases ig
 refine LD (ng:=λh aN=>∃al,h.DictOfH (bm prog w) eu al/\e9 h I aN al) (nq:=λh i=>h.IsListIter aM a i) (bp:=seqObj "list" vs.toArray k) (vs:=vs) (f:=I0) ⟨mM,vW,vM,mL,ed,vK,ts,?_,BE,?_,?_,?_,?_,?_⟩ J cX i s aN aF S eA dQ au ⟨al,hd,tD⟩ aw λaf gG dP bO q=>aG q λfm ai ak=>a5 af gG fm dP bO ai ak
 ·intro h aN q b ab xs m e
  refine aG q λal hd _=>?_
  refine lI (id hd) λo _ _ aD _ ig _=>?_
  rw[ab,aD]at e
  refine c0 e λhq=>?_;clear e;subst hq
  cases ig
 ·intro h af aN cl e q
  refine aG q λal hd aF=>⟨al,?_,aF.ext3 cl e⟩
  refine sG (id hd) λo BC ce a2 a9 bC bY b3 cj=>?_
  exact⟨o,BC,ce,e.kept _ _ a2 (Ne.symm mM),a9,bC,bY,λy bc=>⟨(b3 y bc).1,(b3 y bc).2.1,zR e.kept cl (.tup y.1) _ (b3 y bc).2.1 (b3 y bc).2.2⟩,cj⟩
 ·exactλh af i aZ q=>q.extBut aZ.extBut mM
 ·exactλs i x Q E eA dQ ar h=>wpAny_pyNext_list_item eA (items:=vs.toArray) ⟨_,dQ,rfl,_,rfl⟩ ar h
 ·exactλs i Q E eA dQ ar h=>wpAny_pyNext_list_end cH eA (items:=vs.toArray) ⟨_,dQ,rfl,_,rfl⟩ ar h
 ·intro s aN d x v u Ah Q E ar q cR b7 aw h
  refine aG q λal hd aF=>cI ar λks bK ar=>dB ar λeE e=>?_
  obtain rfl:=sC bK
  refine c0 e λje=>?_;clear e;subst je
  refine aG (tK eE cR) λZ5 e nQ=>?_
  subst e
  refine wpAny_dictSet_heap (knd:=bm prog w) (e6 (gH (by decide:1+8<=12) A.units) cJ) nQ hd (λcE nE nK=>?_) (by rw[aF.length];exact ij aw)
  refine iw (id nE) λgh _ _ hv _=>?_
  have bf:Ext (· =eu) I s.heap I cE:=Ext.ml nK hv
  have ou:Clear (· =eu) I s.heap:=λb ab xs m e=>by
   refine lI (id hd) λo _ _ aD _ ig _=>?_
   rw[ab,aD]at e
   refine c0 e λm3=>?_;clear e;subst m3
   cases ig
  exact h cE _ ⟨_,nE,e9.put (aF.ext ou bf) (Rep.ext ou bf _ _ b7)⟩ nK ⟨_,hv⟩
theorem YQ{A:Around}{R:Result->Shared->Prop}{I:a1}{C:aa}{aM a eu:Addr}{vs:List Value}{k:Nat}(cH:A.handled=none)(cJ:A.units+12<cLine)(mM:aM≠eu)(vW:eu≠a)(vM:aM≠a)(mL:eu∉I)(ed:aM∉I)(vK:am.get? eu=none)(ts:am.get? aM=none):
  ∀(cX:List (Str×D)) (J:List D) (i:Nat) (s:Shared) (al:List (Str×Value)) (aN:List (Str×D)),DP J=some cX->St prog w am I C s.heap->s.heap.IsTupleIter aM a i->s.heap.get? a=some (seqObj "tuple" vs.toArray k)->
   bt s.heap I J (vs.drop i)->s.heap.DictOf (PySem.strKind prog w) eu al->ej s.heap I aN al->aN.length+cX.length<=lim->
   (∀af gG fm,St prog w am I C af->e8 (Aq eu aM) I s.heap I af->af.DictOf (PySem.strKind prog w) eu fm->ej af I (iq aN cX) fm->R (.ok (.ret .none)) {s with heap:=af,toks:=gG})->
   codeAny (model prog w) A (.builtin "dict.update.loop" ⟨[.ref eu,.ref aM,rawInt i,.none],[]⟩) R s:=by
 intro cX J i s al aN aF S eA dQ au hd tD aw a5
 have BE:∀h i,h.IsTupleIter aM a i->Clear (· =aM) I h:=λh i q b ab xs m e=>by
  refine eB q λo aD _ ig=>?_;clear q
  rw[ab,aD]at e
  refine c0 e λoR=>?_;clear e;subst oR
  cases ig
 refine LD (ng:=λh aN=>∃al,h.DictOf (PySem.strKind prog w) eu al/\ej h I aN al) (nq:=λh i=>h.IsTupleIter aM a i) (bp:=seqObj "tuple" vs.toArray k) (vs:=vs) (f:=strOf) ⟨mM,vW,vM,mL,ed,vK,ts,?_,BE,?_,?_,?_,?_,?_⟩ J cX i s aN aF S eA dQ au ⟨al,hd,tD⟩ aw λaf gG dP bO q=>aG q λfm ai ak=>a5 af gG fm dP bO ai ak
 ·intro h aN q b ab xs m e
  refine aG q λal hd _=>?_
  refine lI (id hd) λo _ _ aD _ ig _=>?_
  rw[ab,aD]at e
  refine c0 e λDW=>?_;clear e;subst DW
  cases ig
 ·exactλh af aN cl e q=>aG q λal hd aF=>⟨al,sL hd λo aD=>e.kept _ _ aD (Ne.symm mM),aF.ext3 cl e⟩
 ·exactλh af i aZ q=>q.extBut aZ.extBut mM
 ·exactλs i x Q E eA dQ ar h=>wpAny_pyNext_tuple_item eA (items:=vs.toArray) ⟨_,dQ,rfl,_,rfl⟩ ar h
 ·exactλs i Q E eA dQ ar h=>wpAny_pyNext_tuple_end cH eA (items:=vs.toArray) ⟨_,dQ,rfl,_,rfl⟩ ar h
 ·intro s aN d x v u Ah Q E ar q cR b7 aw h
  refine aG q λal hd aF=>?_
  obtain rfl:=z5 ar
  refine cR.elim λaas e=>?_
  subst e
  refine wpAny_dictSet_pairs (knd:=PySem.strKind prog w) (k:=x) (by simp[PySem.strKind,Value.isStrOf]) hd (λcE nE nK=>?_) (by rw[aF.length];exact ij aw)
  refine iw (id nE) λgh _ _ hv _=>?_
  have bf:Ext (· =eu) I s.heap I cE:=Ext.ml nK hv
  have ou:Clear (· =eu) I s.heap:=λb ab xs m e=>by
   refine lI (id hd) λo _ _ aD _ ig _=>?_
   rw[ab,aD]at e
   refine c0 e λDX=>?_;clear e;subst DX
   cases ig
  exact h cE _ ⟨_,nE,ej.put (aF.ext ou bf) (Rep.ext ou bf _ _ b7)⟩ nK ⟨_,hv⟩
end
section
variable{prog:Program}{w:World}{am:Heap}{n:Nat}{aA:Scope}{K:Frag}
def s5(J:List D)(C:aa):Option (D×aa):=match J with
 |[.obj l]=>(gu C l).bind λxs=>(DQ xs).bind λc7=>if c7.length<=lim then some (.obj C.length,C++[.du (iq [] c7)])else none
 |[.tup xs]=>(DP xs).bind λc7=>if c7.length<=lim then some (.obj C.length,C++[.ee (iq [] c7)])else none
 |_=>none
theorem Nl{J:List D}{C:aa}{r}(h:s5 J C=some r):(∃l,J=[.obj l])\/∃xs,J=[.tup xs]:=by
 cases J with
 |nil=>exact bi h
 |cons x q=>cases x with
  |obj l=>cases q with
   |nil=>exact .inl ⟨l,rfl⟩
   |cons y q=>exact bi h
  |tup xs=>cases q with
   |nil=>exact .inr ⟨xs,rfl⟩
   |cons y q=>exact bi h
  |_=>exact bi h
theorem F0:i8 prog w am n (.type "dict") s5:=by
 intro J C d ao av A I s vs Q E a5 S r P
 have cJ:=a5.units
 have aV:3<s.heap.objs.size:=by refine a6 S.three λo aD=>?_;exact e7 (S.keep _ _ aD)
 have mi:=S.lW (i2 s.heap)
 have px:∀bad,Ext bad I s.heap I (s.heap.push {cls:=.type "dict",data:=.dict #[]}):=λ_=>Ext.push _
 have ru:=S.same (px _)
 rcases Nl av with q|q
 ·refine a6 q λl q=>?_;subst q
  refine cI av ?_;clear av;intro xs ar av
  refine cI av ?_;clear av;intro c7 qT av
  split at (av)
  case isFalse=>exact bi av
  rename_i aw
  refine ds av λhR i1=>?_;clear av;subst hR;subst i1
  refine b2 r λu _ cA cR aH=>?_;clear r;subst cA
  have ey:_=[]:=aH
  subst ey
  refine hs (ik S ar cR) λa vs k cQ gd aR df au=>?_;subst cQ
  refine callType_codes (Q₁:=λobj dD=>obj=.ref s.heap.objs.size/\dD={s with heap:=s.heap.push {cls:=.type "dict",data:=.dict #[]}}) PySem.F.kt_called_dict (PySem.F.kt_typeCall_dict_1 _) PySem.F.entry_dict_init (kt_code_dict_new _ ⟨rfl,rfl⟩) ?_
  intro obj dD ff;refine bU ff λfg fq=>?_;clear ff;subst fg;subst fq
  have nI:(s.heap.push {cls:=.type "dict",data:=.dict #[]}).DictOfH (bm prog w) s.heap.objs.size []:=Heap.DictOfH.new s.heap
  refine⟨nI.typeIs,PySem.F.args_dict_init_2 _ _,?_⟩
  unfold Builtin.«dict.__init__»
  refine aI ?_
  unfold Builtin.Dict.selfAndRest
  refine aI (wpAny_notOrdered_dict nI.typeIs ?_)
  show wpAny _ _ (pure (s.heap.objs.size,[Value.ref a])) _ _ _
  refine bj ?_
  show wpAny _ _ (Builtin.Dict.updateFrom "dict.__init__" s.heap.objs.size (.ref a) [] .none) _ _ _
  unfold Builtin.Dict.updateFrom
  have pI:(s.heap.push {cls:=.type "dict",data:=.dict #[]}).get? a=some (seqObj "list" vs.toArray k):=fO _ df
  refine aI (wpAny_typeOf (T:="list") ⟨_,pI,rfl⟩ ?_)
  rw[a3 ag]
  refine aI (P2 (s:={s with heap:=s.heap.push {cls:=.type "dict",data:=.dict #[]}}) pI a5.1 λbN b4 ko=>?_)
  have bu:∀bad,Ext bad I (s.heap.push {cls:=.type "dict",data:=.dict #[]}) I bN:=λ_=>Ext.mj ko
  have bE:=ru.same (bu _)
  refine aI (wpAny_rule (aI ?_))
  refine wpAny_pyIter_list (s:={s with heap:=bN,toks:=b4}) (items:=vs.toArray) ⟨_,ko _ _ pI,rfl,_,rfl⟩ ?_
  have b0:∀bad,Ext bad I bN I (bN.push {cls:=.type "list_iterator",data:=.fields #[.ref a,.int 0 0]}):=λ_=>Ext.push _
  have cb:=bE.same (b0 _)
  have mM:bN.objs.size≠s.heap.objs.size:=λq=>by
   refine iw (id nI) λo _ _ aD _=>?_
   exact ji _ (q▸e7 (ko _ _ aD))
  have cz:a<s.heap.objs.size:=e7 df
  have hle:s.heap.objs.size<=bN.objs.size:=by
   refine iw (id nI) λo _ _ aD _=>?_
   exact gI (e7 (ko _ _ aD))
  have wO:=bE.lW (i2 bN)
  have gS:∀b o,(s.heap.push {cls:=.type "dict",data:=.dict #[]}).get? b=some o->(bN.push {cls:=.type "list_iterator",data:=.fields #[.ref a,.int 0 0]}).get? b=some o:=λb o ab=>fO _ (ko b o ab)
  have nE:(bN.push {cls:=.type "list_iterator",data:=.fields #[.ref a,.int 0 0]}).DictOfH (bm prog w) s.heap.objs.size []:=by
   refine sG (id nI) λo BC ce a2 a9 bC bY b3 cj=>?_
   exact⟨o,BC,ce,gS _ _ a2,a9,bC,bY,(λy bc=>by cases bc),cj⟩
  refine bj ⟨Code.quiet_builtin _ (by decide+kernel),?_⟩
  refine YR (am:=am) (I:=I) (A:=A.in1) (C:=C) (a:=a) (vs:=vs) (k:=k) a5.1 (show A.units+1+12<cLine by lia) mM (Nat.ne_of_gt cz) (Nat.ne_of_gt (dE cz hle)) mi.1 wO.1 mi.2 wO.2 c7 xs 0 {s with heap:=bN.push {cls:=.type "list_iterator",data:=.fields #[.ref a,.int 0 0]},toks:=b4} [] [] qT cb
   ⟨_,gA _ rfl,rfl,rfl⟩ (gS _ _ pI) (by rw[List.drop_zero];exact((au.cM S (px _)).cM ru (bu _)).cM bE (b0 _)) nE rfl (by simpa using aw) λaf gG fm dP bO cW d7=>?_
  refine⟨rfl,?_⟩
  have Bx:fk I s.heap I af:=Ext.x6 (((px _).dc (bu _)).dc (b0 _)) bO dP λb o ab q=>by
   rcases q with rfl|rfl
   ·rw[i2]at ab;exact bi ab
   ·rw[rT s.heap hle]at ab;exact bi ab
  exact P (I++[s.heap.objs.size]) _ af gG _ (dP.adopt mi.1 mi.2 aV ⟨fm,cW,d7⟩) (Bx.adopt (i2 _)) ⟨s.heap.objs.size,by rw[←S.len];simp,rfl⟩
 ·refine a6 q λxs q=>?_;subst q
  refine cI av ?_;clear av;intro c7 qT av
  split at (av)
  case isFalse=>exact bi av
  rename_i aw
  refine ds av λkW q4=>?_;clear av;subst kW;subst q4
  refine b2 r λu _ db d0 aH=>?_;clear r;subst db;refine d4 d0 λa vs k eF df au=>?_;clear d0;subst eF
  have ey:_=[]:=aH
  subst ey
  refine callType_codes (Q₁:=λobj dD=>obj=.ref s.heap.objs.size/\dD={s with heap:=s.heap.push {cls:=.type "dict",data:=.dict #[]}}) PySem.F.kt_called_dict (PySem.F.kt_typeCall_dict_1 _) PySem.F.entry_dict_init (kt_code_dict_new _ ⟨rfl,rfl⟩) ?_
  intro obj dD g6;refine bU g6 λi0 hq=>?_;clear g6;subst i0;subst hq
  have nI:(s.heap.push {cls:=.type "dict",data:=.dict #[]}).DictOf (PySem.strKind prog w) s.heap.objs.size []:=Heap.DictOf.new s.heap
  refine⟨nI.typeIs,PySem.F.args_dict_init_2 _ _,?_⟩
  unfold Builtin.«dict.__init__»
  refine aI ?_
  unfold Builtin.Dict.selfAndRest
  refine aI (wpAny_notOrdered_dict nI.typeIs ?_)
  show wpAny _ _ (pure (s.heap.objs.size,[Value.ref a])) _ _ _
  refine bj ?_
  show wpAny _ _ (Builtin.Dict.updateFrom "dict.__init__" s.heap.objs.size (.ref a) [] .none) _ _ _
  unfold Builtin.Dict.updateFrom
  have pI:(s.heap.push {cls:=.type "dict",data:=.dict #[]}).get? a=some (seqObj "tuple" vs.toArray k):=fO _ df
  refine aI (wpAny_typeOf (T:="tuple") ⟨_,pI,rfl⟩ ?_)
  rw[a3 ag]
  refine aI (P3 (s:={s with heap:=s.heap.push {cls:=.type "dict",data:=.dict #[]}}) pI a5.1 λbN b4 ko=>?_)
  have bu:∀bad,Ext bad I (s.heap.push {cls:=.type "dict",data:=.dict #[]}) I bN:=λ_=>Ext.mj ko
  have bE:=ru.same (bu _)
  refine aI (wpAny_rule (aI ?_))
  refine wpAny_pyIter_tuple (s:={s with heap:=bN,toks:=b4}) (items:=vs.toArray) ⟨_,ko _ _ pI,rfl,_,rfl⟩ ?_
  have b0:∀bad,Ext bad I bN I (bN.push {cls:=.type "tuple_iterator",data:=.fields #[.ref a,.int 0 0]}):=λ_=>Ext.push _
  have cb:=bE.same (b0 _)
  have mM:bN.objs.size≠s.heap.objs.size:=λq=>by
   refine iw (id nI) λo _ _ aD _=>?_
   exact ji _ (q▸e7 (ko _ _ aD))
  have cz:a<s.heap.objs.size:=e7 df
  have hle:s.heap.objs.size<=bN.objs.size:=by
   refine iw (id nI) λo _ _ aD _=>?_
   exact gI (e7 (ko _ _ aD))
  have wO:=bE.lW (i2 bN)
  have gS:∀b o,(s.heap.push {cls:=.type "dict",data:=.dict #[]}).get? b=some o->(bN.push {cls:=.type "tuple_iterator",data:=.fields #[.ref a,.int 0 0]}).get? b=some o:=λb o ab=>fO _ (ko b o ab)
  have nE:(bN.push {cls:=.type "tuple_iterator",data:=.fields #[.ref a,.int 0 0]}).DictOf (PySem.strKind prog w) s.heap.objs.size []:=sL nI λo aD=>gS _ _ aD
  refine bj ⟨Code.quiet_builtin _ (by decide+kernel),?_⟩
  refine YQ (am:=am) (I:=I) (A:=A.in1) (C:=C) (a:=a) (vs:=vs) (k:=k) a5.1 (show A.units+1+12<cLine by lia) mM (Nat.ne_of_gt cz) (Nat.ne_of_gt (dE cz hle)) mi.1 wO.1 mi.2 wO.2 c7 xs 0 {s with heap:=bN.push {cls:=.type "tuple_iterator",data:=.fields #[.ref a,.int 0 0]},toks:=b4} [] [] qT cb
   ⟨_,gA _ rfl,rfl,rfl⟩ (gS _ _ pI) (by rw[List.drop_zero];exact((au.cM S (px _)).cM ru (bu _)).cM bE (b0 _)) nE rfl (by simpa using aw) λaf gG fm dP bO cW d7=>?_
  refine⟨rfl,?_⟩
  have Bx:fk I s.heap I af:=Ext.x6 (((px _).dc (bu _)).dc (b0 _)) bO dP λb o ab q=>by
   rcases q with rfl|rfl
   ·rw[i2]at ab;exact bi ab
   ·rw[rT s.heap hle]at ab;exact bi ab
  exact P (I++[s.heap.objs.size]) _ af gG _ (dP.adopt mi.1 mi.2 aV ⟨fm,cW,d7⟩) (Bx.adopt (i2 _)) ⟨s.heap.objs.size,by rw[←S.len];simp,rfl⟩
end
section
variable{n:Nat}{lt:Nat->Nat->Bool}
structure mz(n:Nat)(lt:Nat->Nat->Bool):Prop where
 Zy:∀i j,i<n->j<n->lt i j=true->lt j i=false
 Aa:∀i j,i<n->j<n->i≠j->lt i j=true\/lt j i=true
 uk:∀i j k,i<n->j<n->k<n->lt i j=true->lt j k=true->lt i k=true
structure hY(n:Nat)(p:Array Nat):Prop where
 size:p.size=n
 perm:p.toList.Perm (List.range n)
noncomputable def at'(p:Array Nat)(i:Nat):Nat:=p.getD i 0
theorem at_of{p q:Array Nat}{i j:Nat}(h:p[i]?=q[j]?):at' p i=at' q j:=by
 unfold at';rw[Array.getD_eq_getD_getElem?,Array.getD_eq_getD_getElem?,h]
theorem AO{p:Array Nat}{i:Nat}(h:i<p.size):at' p i=p.toList[i]'(iK▸h):=(dif_pos h).trans rfl
theorem hY.low{p:Array Nat}(P:hY n p){i:Nat}(hi:i<n):at' p i<n:=by
 rw[AO (P.size▸hi)]
 exact ft.mp ((P.perm.mem_iff).mp (List.getElem_mem _))
theorem hY.all{p:Array Nat}(P:hY n p)(bV:0<n)(i:Nat):at' p i<n:=by
 by_cases hi:i<n
 ·exact P.low hi
 ·exact(show at' p i=0 from dif_neg (P.size▸hi))▸bV
theorem hY.ne{p:Array Nat}(P:hY n p){i j:Nat}(hi:i<n)(bn:j<n)(e0:i≠j):at' p i≠at' p j:=by
 rw[AO (P.size▸hi),AO (P.size▸bn)]
 exactλe=>e0 ((List.getElem_inj (P.perm.nodup_iff.mpr List.nodup_range)).mp e)
theorem hY.of{p q:Array Nat}(P:hY n p)(h:q.Perm p):hY n q:=
 ⟨h.size_eq.trans P.size,(Array.perm_iff_toList_perm.mp h).trans P.perm⟩
noncomputable def qm(lt:Nat->Nat->Bool)(p:Array Nat)(k:Nat):Prop:=∀i j,i<j->j<k->lt (at' p i) (at' p j)=true
noncomputable def Fn(lt:Nat->Nat->Bool)(p:Array Nat)(k:Nat):Prop:=∀i j,i<j->j<k->lt (at' p j) (at' p i)=true
noncomputable def mE(n:Nat)(lt:Nat->Nat->Bool)(i j:Nat)(bI:Bool->Shared->Prop)(s:Shared):Prop:=i<n/\j<n/\bI (lt i j) s
theorem mz.yes(L:mz n lt){p:Array Nat}(P:hY n p){i j:Nat}(hi:i<n)(bn:j<n)(e0:i≠j)(h:¬lt (at' p i) (at' p j)=true):lt (at' p j) (at' p i)=true:=(L.Aa _ _ (P.low hi) (P.low bn) (P.ne hi bn e0)).elim (λq=>absurd q h) id
noncomputable def lU(lt:Nat->Nat->Bool)(p:Array Nat)(i j:Nat):Prop:=lt (at' p i) (at' p j)=true
theorem mz.rel(L:mz n lt){p:Array Nat}(P:hY n p)(bV:0<n)(i j k:Nat)(h:lU lt p i j)(g:lU lt p j k):lU lt p i k:=L.uk _ _ _ (P.all bV i) (P.all bV j) (P.all bV k) h g
theorem KI{R:Nat->Nat->Prop}(uk:∀i j k,R i j->R j k->R i k){a:Nat}(ai:1<=a)(h:∀i j,i<j->j<a->R i j)(c:R (a-1) a)(i j:Nat)(e0:i<j)(bn:j<a+1):R i j:=by
 rcases Nat.lt_or_eq_of_le (nd bn)with q|q
 ·exact h i j e0 q
 ·subst q
  rcases Nat.lt_or_eq_of_le (Nat.le_sub_one_of_lt e0)with r|r
  ·exact uk _ _ _ (h i (j-1) r (Nat.sub_lt ai Nat.one_pos)) c
  ·exact r▸c
theorem AM(L:mz n lt){p:Array Nat}(P:hY n p){i j:Nat}(hi:i<n)(bn:j<n)(e0:i≠j){be:Type}{G:be->Shared->Prop}{s:Shared}{x y:KasT be}(ar:lU lt p i j->x.kasWp (mE n lt) G s)(bc:lU lt p j i->y.kasWp (mE n lt) G s):
  mE n lt (at' p i) (at' p j) (λc s=>(if c=true then x else y).kasWp (mE n lt) G s) s:=by
 refine⟨P.low hi,P.low bn,?_⟩
 refine(?_:KasT.kasWp (mE n lt) (if lt (at' p i) (at' p j)=true then x else y) G s)
 by_cases ax:lt (at' p i) (at' p j)=true
 ·rw[a3 ax];exact ar ax
 ·rw[bq ax];exact bc (L.yes P hi bn e0 ax)
theorem Do{a f n:Nat}(h:a+(f+1)<=n):a<n:=dE (Nat.lt_add_of_pos_right (Nat.succ_pos f)) h
theorem rS(a f:Nat):a+1+f=a+(f+1):=lN a 1 f
theorem FO(L:mz n lt){p:Array Nat}(P:hY n p){G:Nat->Shared->Prop}{s:Shared}(f a:Nat)(ai:1<=a)(ak:a+f<=n)(aZ:qm lt p a)(h:∀m,a<=m->m<=a+f->qm lt p m->(m<a+f->lt (at' p m) (at' p (m-1))=true)->G m s):(kas_asc p f a).kasWp (mE n lt) G s:=by
 induction f generalizing a with
 |zero=>exact h a (bD _) (bD _) aZ λh=>absurd h (ji _)
 |succ f aE=>
  have aC:=Do ak
  refine AM L P aC (e6 (Nat.sub_le ..) aC) (Nat.ne_of_gt (Nat.sub_lt ai Nat.one_pos)) (λax=>h a (bD _) (hD ..) aZ λ_=>ax) λax=>?_
  exact aE (a+1) (oX 1 a) (aO (cB (rS a f)) ak) (KI (L.rel P (Nat.zero_lt_of_lt aC)) ai aZ ax) λm j2 iU l7 yP=>h m (i7 j2) (aO iU (cB (rS a f))) l7 λq=>yP (Nat.lt_of_lt_of_eq q (rS a f).symm)
theorem Ov(L:mz n lt){p:Array Nat}(P:hY n p){G:Array Nat×Nat×Nat->Shared->Prop}{s:Shared}(f a:Nat)(ai:1<=a)(ak:a+f<=n)(aZ:Fn lt p a)(h:∀m,a<=m->m<=a+f->Fn lt p m->G (p,m,0) s):(kas_desc f p a 0).kasWp (mE n lt) G s:=by
 induction f generalizing a with
 |zero=>exact h a (bD _) (bD _) aZ
 |succ f aE=>
  have aC:=Do ak
  have ab:a-1<n:=e6 (Nat.sub_le ..) aC
  have ne:=Nat.ne_of_gt (Nat.sub_lt ai Nat.one_pos)
  refine AM L P aC ab ne (λax=>?_) λax=>?_
  ·rw[bq (ji 0)]
   exact aE (a+1) (oX 1 a) (aO (cB (rS a f)) ak) (KI (R:=λi j=>lU lt p j i) (λi j k x y=>L.rel P (Nat.zero_lt_of_lt aC) k j i y x) ai aZ ax) λm j2 iU l7=>h m (i7 j2) (aO iU (cB (rS a f))) l7
  ·refine⟨P.low ab,P.low aC,?_⟩
   show KasT.kasWp _ (if lt (at' p (a-1)) (at' p a)=true then _ else _) G s
   rw[a3 (show lt (at' p (a-1)) (at' p a)=true from ax)]
   exact h a (bD _) (hD ..) aZ
theorem FQ{p:Array Nat}{m:Nat}(aR:m<=p.size){k:Nat}(h:k<m):at' (kas_rev p 0 m) k=at' p (m-1-k):=by
 have e:=getElem?_mirror_all (xs:=p) (i:=0) aR k
 rw[a3 ⟨es _,h⟩,Nat.zero_add]at e
 exact at_of e
theorem UK{m i j:Nat}(e0:i<j)(bn:j<m):m-1-j<m-1-i:=Nat.sub_lt_sub_left (dE e0 (Nat.le_sub_one_of_lt bn)) e0
theorem Ol(L:mz n lt){p:Array Nat}(P:hY n p)(ak:2<=n){G:Nat×Array Nat->Shared->Prop}{s:Shared}(h:∀m q,hY n q->1<=m->m<=n->qm lt q m->G (m,q) s):(kas_count n p).kasWp (mE n lt) G s:=by
 have ai:1<=n:=i7 ak
 unfold kas_count
 rw[KasT.kasWp_bind]
 refine FO L P (n-1) 1 (bD _) (cB (Nat.add_sub_cancel' ai)) (λi j e0 bn=>absurd (dE e0 (nd bn)) (kG _)) λm j2 iU l7 yP=>?_
 rw[Nat.add_sub_cancel' ai]at iU yP
 by_cases aS:(m==n)=true
 ·rw[a3 aS]
  exact h m p P j2 iU l7
 ·have cz:m<n:=uz iU λq=>aS (beq_iff_eq.mpr q)
  rw[bq aS]
  by_cases bf:m>1
  ·rw[a3 bf]
   have Il:m-1<m:=Nat.sub_lt j2 Nat.one_pos
   refine⟨P.low ai,P.low (k2 Il cz),?_⟩
   show KasT.kasWp _ (if lt (at' p 0) (at' p (m-1))=true then _ else _) G s
   rw[a3 (l7 0 (m-1) (Nat.sub_pos_of_lt bf) Il)]
   exact h m p P j2 iU l7
  ·rw[bq bf]
   obtain rfl:m=1:=Nat.le_antisymm (Nat.not_lt.mp bf) j2
   have bL:=yP cz
   unfold kas_descPart
   rw[KasT.kasWp_bind]
   have e:1+1+(n-(1+1))=n:=Nat.add_sub_cancel' ak
   refine Ov L P (n-(1+1)) (1+1) ag (cB e) (λi j e0 bn=>?_) λm j2 iU l7=>?_
   ·obtain rfl:j=1:=Nat.le_antisymm (nd bn) (Nat.zero_lt_of_lt e0)
    obtain rfl:i=0:=Nat.lt_one_iff.mp e0
    exact bL
   ·show KasT.kasWp _ (if(0:Nat)>0 then _ else kas_tail3 m n p) G s
    rw[bq (ji 0)]
    unfold kas_tail3
    rw[KasT.kasWp_bind]
    rw[e]at iU
    have Fu:hY n (kas_rev p 0 m):=P.of (mirror_perm _ _ _ _)
    have qQ:m<=p.size:=P.size.symm▸iU
    refine FO L Fu (n-m) m (i7 j2) (cB (Nat.add_sub_cancel' iU)) (λi j e0 bn=>?_) λbh aX bg bQ _=>h bh _ Fu (aO (i7 j2) aX) (aO bg (cB (Nat.add_sub_cancel' iU))) bQ
    rw[FQ qQ (k2 e0 bn),FQ qQ bn]
    exact l7 _ _ (UK e0 bn) (e6 (Nat.sub_le ..) (Nat.sub_lt (Nat.zero_lt_of_lt bn) Nat.one_pos))
theorem UI{l r:Nat}(h:l<r):l<=(l+r)/2/\(l+r)/2<r:=
 ⟨(Nat.le_div_iff_mul_le Nat.two_pos).mpr (Nat.mul_two l▸gH (gI h) l),Nat.div_lt_of_lt_mul (Nat.two_mul r▸Nat.add_lt_add_right h r)⟩
noncomputable def MG(lt:Nat->Nat->Bool)(p:Array Nat)(k l:Nat):Prop:=l<=k/\(∀i,i<l->lU lt p i k)/\∀i,l<=i->i<k->lU lt p k i
theorem VI(L:mz n lt){p:Array Nat}(P:hY n p){k:Nat}(aq:k<n)(aZ:qm lt p k){G:Nat->Shared->Prop}{s:Shared}(h:∀l,MG lt p k l->G l s)(f l r:Nat)(au:r<=k)(hf:r<=l+f)(Ik:l<=r)(ai:∀i,i<l->lU lt p i k)(ak:∀i,r<=i->i<k->lU lt p k i):
  (kas_place p k f l r).kasWp (mE n lt) G s:=by
 have uk:=L.rel P (Nat.zero_lt_of_lt aq)
 induction f generalizing l r with
 |zero=>
  obtain rfl:=Nat.le_antisymm Ik hf
  exact h l ⟨au,ai,ak⟩
 |succ f aE=>
  show KasT.kasWp _ (if l>=r then _ else _) G s
  by_cases aL:l>=r
  ·rw[a3 aL]
   obtain rfl:=Nat.le_antisymm Ik aL
   exact h l ⟨au,ai,ak⟩
  ·rw[bq aL]
   have aR:=UI (Nat.not_le.mp aL)
   have oF:=dE aR.2 au
   refine AM L P aq (k2 oF aq) (Nat.ne_of_gt oF) (λax=>?_) λax=>?_
   ·refine aE l _ (gI oF) (nd (dE aR.2 hf)) aR.1 ai λi hi Rh=>?_
    rcases Nat.lt_or_eq_of_le hi with q|q
    ·exact uk _ _ _ ax (aZ _ _ q Rh)
    ·exact q▸ax
   ·refine aE _ r au (aO hf (aO (nb aR.1 (f+1)) (cB (rS _ f).symm))) aR.2 (λi hi=>?_) ak
    rcases Nat.lt_or_eq_of_le (nd hi)with q|q
    ·exact uk _ _ _ (aZ _ _ q oF) ax
    ·exact q▸ax
noncomputable def rf(k l x:Nat):Nat:=if x=l then k else if l<x/\x<=k then x-1 else x
theorem Aj{k l i:Nat}(h:i<l):rf k l i=i:=(bq (gy h)).trans (bq λq=>Nat.lt_asymm h q.1)
theorem LK{k l i:Nat}(h:l<i)(hi:i<=k):rf k l i=i-1:=(bq (Nat.ne_of_gt h)).trans (a3 ⟨h,hi⟩)
theorem Y4{R:Nat->Nat->Prop}{k l:Nat}(aw:l<=k)(ai:∀i,i<l->R i k)(ak:∀i,l<=i->i<k->R k i)(aZ:∀i j,i<j->j<k->R i j){i j:Nat}(e0:i<j)(bn:j<k+1):R (rf k l i) (rf k l j):=by
 have bn:=nd bn
 have pre:∀{x},l<x->l<=x-1/\x-1<x:=λh=>⟨Nat.le_sub_one_of_lt h,Nat.sub_lt (Nat.zero_lt_of_lt h) Nat.one_pos⟩
 rcases Nat.lt_trichotomy j l with q|q|q
 ·rw[Aj q,Aj (k2 e0 q)]
  exact aZ i j e0 (dE q aw)
 ·rw[show rf k l j=k from a3 q,Aj (q▸e0)]
  exact ai i (q▸e0)
 ·rw[LK q bn]
  have Cp:=dE (pre q).2 bn
  rcases Nat.lt_trichotomy i l with r|r|r
  ·rw[Aj r]
   exact aZ _ _ (dE r (pre q).1) Cp
  ·rw[show rf k l i=k from a3 r]
   exact ak _ (pre q).1 Cp
  ·rw[LK r (aO (gI e0) bn)]
   exact aZ _ _ (dE (pre r).2 (Nat.le_sub_one_of_lt e0)) Cp
theorem NS(L:mz n lt){G:Array Nat->Shared->Prop}{s:Shared}(h:∀q,hY n q->qm lt q n->G q s)(f:Nat)(p:Array Nat)(k:Nat)(P:hY n p)(aq:k+f=n)(aZ:qm lt p k):(kas_bin f p k).kasWp (mE n lt) G s:=by
 induction f generalizing p k with
 |zero=>exact h p P (aq▸aZ)
 |succ f aE=>
  show KasT.kasWp _ ((kas_place p k k 0 k).bind λl=>kas_bin f (bubble p k (k-l)) (k+1)) G s
  rw[KasT.kasWp_bind]
  have ly:k<n:=Do (cB aq)
  refine VI L P ly aZ (λl q=>?_) k 0 k (bD _) (cB (Nat.zero_add k).symm) (es _) (λi hi=>absurd hi (kG _)) λi a b=>absurd b (Nat.not_lt.mpr a)
  refine aE _ (k+1) (P.of (bubble_perm _ _ _)) ((rS k f).trans aq) λi j e0 bn=>?_
  have iS:∀x,at' (bubble p k (k-l)) x=at' p (rf k l x):=λx=>at_of (by
   have e:=getElem?_bubble (xs:=p) (src:=k) (P.size.symm▸ly) (k-l) (Nat.sub_le ..) x
   rw[Nat.sub_sub_self q.1]at e
   refine e.trans ?_
   unfold rf
   by_cases a:x=l
   ·rw[a3 a,a3 a]
   ·rw[bq a,bq a]
    by_cases b:l<x/\x<=k
    ·rw[a3 b,a3 b]
    ·rw[bq b,bq b])
  rw[iS i,iS j]
  exact Y4 (R:=lU lt p) q.1 q.2.1 q.2.2 aZ e0 bn
theorem XT(L:mz n lt)(ak:2<=n){G:Array Nat->Shared->Prop}{s:Shared}(h:∀q,hY n q->qm lt q n->G q s):(kas_sort n).kasWp (mE n lt) G s:=by
 unfold kas_sort
 rw[KasT.kasWp_bind]
 have mA:hY n (List.toArray (List.range n)):=⟨by simp,by simp⟩
 refine Ol L mA ak λm q Q j2 iU aZ=>?_
 show KasT.kasWp _ (if m<n then kas_bin (n-max m 1) q (max m 1)else .ret q) G s
 rw[Nat.max_eq_left j2]
 by_cases aR:m<n
 ·rw[a3 aR]
  exact NS L h (n-m) q m Q (Nat.add_sub_cancel' iU) aZ
 ·rw[bq aR]
  obtain rfl:=Nat.le_antisymm iU (Nat.not_lt.mp aR)
  exact h q Q aZ
theorem Tb{be:Type}{aM:Shared->Prop}{cmp:Nat->Nat->(Bool->Shared->Prop)->Shared->Prop}(ax:∀i j bI s,i<n->j<n->aM s->(∀bT,aM bT->bI (lt i j) bT)->cmp i j bI s)
  (t:KasT be) (P:be->Prop) (Q:be->Shared->Prop) (s:Shared) (ed:aM s) (h:∀bT,t.kasWp (mE n lt) (λa _=>P a) bT) (aL:∀a bT,aM bT->P a->Q a bT):t.kasWp cmp Q s:=by
 induction t generalizing s with
 |ret a=>exact aL a s ed (h s)
 |ask i j k aE=>exact ax i j _ s (h s).1 (h s).2.1 ed λbT Qs=>aE (lt i j) bT Qs λWY=>(h WY).2.2
end
section
def g5(a b:D):Bool:=decide (code a<code b)
def oM(a b:List D):Bool:=decide (codes a<codes b)
theorem xQ(x:Int)(l m:List Int):x::l<x::m↔l<m:=List.cons_lt_cons_iff.trans ⟨λq=>q.elim (λq=>absurd q (Int.lt_irrefl x)) And.right,λq=>.inr ⟨rfl,q⟩⟩
theorem Jq(a b:D)(h:g5 a b=true):g5 b a=false:=fu (List.not_lt.mpr (List.le_of_lt (hU h)))
theorem Dl(a b:D)(h:a≠b):g5 a b=true\/g5 b a=true:=(Bd a b h).Aa.imp dT dT
theorem Js(a b c:D)(h:g5 a b=true)(g:g5 b c=true):g5 a c=true:=dT (List.lt_trans (hU h) (hU g))
theorem Ul(a:D):g5 a a=false:=fu (List.lt_irrefl _)
theorem Vq(x y:Int):[x]<[y]↔x<y:=List.cons_lt_cons_iff.trans ⟨λq=>q.elim id λq=>absurd q.2 (List.lt_irrefl _),.inl⟩
theorem zn(a b:Int):g5 (.int a) (.int b)=decide (a<b):=mF ((xQ 2 _ _).trans (Vq a b))
theorem Jr(a b:Str):g5 (.str a) (.str b)=decide (a.cps.toList<b.cps.toList):=mF ((xQ 3 _ _).trans J3.2)
theorem Dm(a b:List D):g5 (.tup a) (.tup b)=oM a b:=mF (xQ 4 _ _)
theorem Jv:oM [] []=false:=fu (List.lt_irrefl _)
theorem Ju(y:D)(bB:List D):oM [] (y::bB)=true:=dv (xP y) λa r e q=>dT (by rw[codes,codes,e];exact List.cons_lt_cons_iff.mpr (.inl q))
theorem Jt(y:D)(bB:List D):oM (y::bB) []=false:=dv (xP y) λa r e q=>fu (by rw[codes,codes,e];exactλh=>(List.cons_lt_cons_iff.mp h).elim (λh=>Int.lt_irrefl _ (Int.lt_trans h q)) λh=>Int.ne_of_gt q h.1)
theorem Dn(x y:D)(xs bB:List D):oM (x::xs) (y::bB)=if x=y then oM xs bB else g5 x y:=by
 by_cases e:x=y
 ·subst e
  rw[a3 rfl]
  refine mF ?_
  rw[codes,codes]
  generalize code x=p
  induction p with
  |nil=>exact Iff.rfl
  |cons a p aE=>exact(xQ a _ _).trans aE
 ·rw[bq e]
  exact mF ((Bd x y e).app _ _).2
noncomputable def ins(x:D):List D->List D
 |[]=>[x]
 |y::r=>if g5 x y then x::y::r else y::ins x r
noncomputable def dN:List D->List D
 |[]=>[]
 |x::r=>ins x (dN r)
noncomputable def mf(a b:D):Prop:=g5 b a=false
theorem II(x:D)(l:List D):(ins x l).Perm (x::l):=by
 induction l with
 |nil=>exact .refl _
 |cons y r aE=>
  by_cases h:g5 x y=true
  ·exact(show ins x (y::r)=_ from a3 h)▸.refl _
  ·exact(show ins x (y::r)=_ from bq h)▸(aE.cons y).trans (.swap x y r)
theorem oI(l:List D):(dN l).Perm l:=by
 induction l with
 |nil=>exact .refl _
 |cons x r aE=>exact(II x _).trans (aE.cons x)
theorem T1{a b c:D}(h:mf a b)(g:mf b c):mf a c:=Bool.eq_false_iff.mpr λe=>by
 by_cases aS:a=b
 ·exact k3 (g.symm.trans (aS▸e))
 ·rcases Dl a b aS with ai|ai
  ·exact k3 (g.symm.trans (Js _ _ _ e ai))
  ·exact k3 (h.symm.trans ai)
theorem aac(a:D):mf a a:=Ul a
theorem T0{a b:D}(h:mf a b)(g:mf b a):a=b:=Classical.byContradiction λe=>(Dl a b e).elim (λq=>k3 (g.symm.trans q)) λq=>k3 (h.symm.trans q)
theorem De{a b:D}(h:g5 a b=true):mf a b:=Jq _ _ h
theorem SQ(x:D)(l:List D)(h:l.Pairwise mf):(ins x l).Pairwise mf:=by
 induction l with
 |nil=>exact List.pairwise_singleton ..
 |cons y r aE=>
  have q:=List.pairwise_cons.mp h
  by_cases ar:g5 x y=true
  ·rw[show ins x (y::r)=_ from a3 ar]
   exact List.pairwise_cons.mpr ⟨λz hz=>(dS.mp hz).elim (λe=>e▸De ar) λhz=>T1 (De ar) (q.1 z hz),h⟩
  ·rw[show ins x (y::r)=_ from bq ar]
   exact List.pairwise_cons.mpr ⟨λz hz=>(dS.mp ((II x r).mem_iff.mp hz)).elim (λe=>e▸Bool.eq_false_iff.mpr ar) (q.1 z),aE q.2⟩
theorem zb(l:List D):(dN l).Pairwise mf:=by
 induction l with
 |nil=>exact .nil
 |cons x r aE=>exact SQ x _ aE
theorem wy{l r:List D}(aF:r.Perm l)(aZ:r.Pairwise mf):r=dN l:=
 List.Perm.eq_of_pairwise (λ_ _ _ _=>T0) aZ (zb l) (aF.trans (oI l).symm)
noncomputable def j4:D->Bool
 |.str _=>true|_=>false
noncomputable def mc:D->Bool
 |.int _=>true|_=>false
theorem CY{d:D}(h:j4 d=true):∃x,d=.str x:=by cases d<;>first|exact⟨_,rfl⟩|exact hM h
theorem CX{d:D}(h:mc d=true):∃x,d=.int x:=by cases d<;>first|exact⟨_,rfl⟩|exact hM h
mutual
noncomputable def ll(d e:D):Bool:=match d with
 |.int _=>mc e
 |.str _=>j4 e
 |.tup a=>match e with
  |.tup b=>kM a b
  |_=>false
 |_=>false
noncomputable def kM(a b:List D):Bool:=match a with
 |[]=>true
 |x::a=>match b with
  |[]=>true
  |y::b=>x.cO&&y.cO&&(if x=y then kM a b else ll x y)
end
theorem ZC(b:List D):kM [] b=true:=rfl
theorem ZB(x:D)(a:List D):kM (x::a) []=true:=rfl
section
variable{prog:Program}{w:World}
theorem Gf{d e:D}(h:ll d e=true){G:Prop}(hi:∀a b,d=.int a->e=.int b->G)(aZ:∀a b,d=.str a->e=.str b->G)(bK:∀a b,d=.tup a->e=.tup b->kM a b=true->G):G:=by
 cases d with
 |int a=>exact(CX h).elim λb q=>hi a b rfl q
 |str a=>exact(CY h).elim λb q=>aZ a b rfl q
 |tup a=>
  cases e with
  |tup b=>exact bK a b rfl rfl h
  |_=>exact hM h
 |_=>exact hM h
inductive Fq(a b:List D)(n:Bool)(s:Shared)(I:a1)(k:Nat):List (Value×Value)->Shared->Prop
 |mk (ke lJ:List D) (ri oa:List Value) (ar:bt s.heap I ke ri) (bc:bt s.heap I lJ oa) (hd:D.ew ke<=k) (ax:kM ke lJ=true) (aw:oM ke lJ=oM a b) (aH:decide (ri.length<oa.length)=n):Fq a b n s I k (List.zip ri oa) s
noncomputable def uN(prog:Program)(w:World)(k:Nat)(d e:D):Prop:=∀(A:Around) (E:Value->Shared->Prop) (s:Shared) (I:a1) (u v:Value) (Q:Value->Shared->Prop),d.depth<=k->ll d e=true->A.units+k<cLine->Rep s.heap I d u->Rep s.heap I e v->Q (.bool (g5 d e)) s->
  wpAny (model prog w) A (richCompare .Lt u v) Q E s
theorem Gh{x y:D}{a b:List D}(h:kM (x::a) (y::b)=true):x.cO=true/\y.cO=true/\(if x=y then kM a b else ll x y)=true:=bU (ha.mp h) λh q=>bU (ha.mp h) λai ak=>⟨ai,ak,q⟩
theorem Jw{k:Nat}{d e:D}(H:∀a b,d=.tup a->e=.tup b->uN prog w k d e):uN prog w k d e:=by
 intro A E s I u v Q hd ax cJ cR b7 h
 refine Gf ax (λa b aS bf=>?_) (λa b aS bf=>?_) (λa b aS bf _=>H a b aS bf A E s I u v Q hd ax cJ cR b7 h)
 ·subst aS
  subst bf
  exact cR.elim λt cR=>b7.elim λd1 b7=>cR▸b7▸wpAny_lt_int (zn a b▸h)
 ·subst aS
  subst bf
  exact cR.elim λt cR=>b7.elim λd1 b7=>cR▸b7▸lt_str (Jr a b▸h)
theorem Uo{k:Nat}(aE:∀d e,uN prog w k d e)(a b:List D):uN prog w (k+1) (.tup a) (.tup b):=by
 intro A E s I u v Q hd ax cJ cR b7 h
 refine d4 cR λp xs n aF df tE=>d4 b7 λq bB m aL yF r7=>?_
 subst aF
 subst aL
 rw[Dm]at h
 have CJ:A.units<cLine:=e6 (hD ..) cJ
 have d3:s.TypeIs (.ref p) "tuple":=ul df
 have HQ:s.TypeIs (.ref q) "tuple":=ul yF
 refine wpAny_richCompare_same_room (op:=.Lt) d3 HQ F.slot_tuple_lt (wpAny_call_entry F.slot_tuple_lt d3 F.entry_tuple_lt ?_ (F.args_tuple_lt_2 _ _)) CJ
 show wpAny _ _ (isInstance (.ref q) (.type "tuple")>>=_) _ _ s
 refine aI (wpAny_isInstance HQ isSubtype_tuple_tuple ?_)
 refine aI (wpAny_tupleItemsOf df rfl (aI (wpAny_tupleItemsOf yF rfl (aI ?_))))
 refine wpAny_forIn_list _ (λcX r bT=>r.1=none/\Fq a b (decide (xs.length<bB.length)) s I k cX bT) _ ?_ ?_ _ _ ⟨rfl,a,b,xs,bB,tE,r7,Nat.le_of_succ_le_succ hd,ax,rfl,rfl⟩
 ·intro z cX r bT hi
  obtain ⟨u,v⟩:=z
  generalize hz:(u,v)::cX=Zq at hi
  cases hi.2 with
  |mk ke lJ ri oa ar bc Ch kQ cz aH=>
  cases ke with
  |nil=>rw[show ri=[]from ar]at hz;cases hz
  |cons x ke=>
   cases lJ with
   |nil=>rw[show oa=[]from bc,List.zip_nil_right]at hz;cases hz
   |cons y lJ=>
    refine b2 ar λLx Zn aS ai Sr=>b2 bc λi5 Zo bf ak Sw=>?_
    subst aS
    subst bf
    cases hz
    have aq:=Gh kQ
    rw[Dn]at cz
    have vX:x.depth<=k:=aO (Nat.le_max_left _ _) Ch
    have wn:A.in1.units+k<cLine:=e6 (cB (lN _ 1 k)) cJ
    refine aI (vh (A:=A.in1) aq.1 aq.2.1 (e6 (gH vX _) wn) ai ak prog w _ _ ?_)
    by_cases e:x=y
    ·rw[a3 e]at cz aq
     rw[dT e]
     exact bj ⟨rfl,ke,lJ,Zn,Zo,Sr,Sw,aO (Nat.le_max_right _ _) Ch,aq.2.2,cz,(mF ⟨Nat.succ_lt_succ,Nat.lt_of_succ_lt_succ⟩).trans aH⟩
    ·rw[bq e]at cz aq
     rw[fu e]
     exact aI (wpAny_rule (aI (aE x y A.in1 _ _ I u v _ vX aq.2.2 wn ai ak (aI (bj (bj (bj ⟨_,rfl,nofun,cz▸h⟩)))))))
 ·intro r bT hi
  obtain ⟨ir,nW⟩:=r
  have au:=hi.1
  generalize hz:([]:List (Value×Value))=Zq at hi
  cases hi.2 with
  |mk ke lJ ri oa ar bc Ch kQ cz aH=>
  obtain rfl:ir=none:=au
  refine bj ⟨_,rfl,nofun,?_⟩
  have e:oM a b=decide (xs.toArray.size<bB.toArray.size):=by
   rw[←cz,hb,hb,←aH]
   cases ke with
   |nil=>
    rw[show ri=[]from ar]
    cases lJ with
    |nil=>rw[show oa=[]from bc];exact Jv
    |cons y lJ=>exact b2 bc λv r e _ _=>e▸(Ju y lJ).trans (dT (Nat.succ_pos _)).symm
   |cons x ke=>
    cases lJ with
    |nil=>rw[show oa=[]from bc];exact(Jt x ke).trans (hZ (kG _))
    |cons y lJ=>exact b2 ar λu r aS _ _=>b2 bc λv eG bf _ _=>by rw[aS,bf]at hz;cases hz
  exact(e▸h:Q (.bool (decide (xs.toArray.size<bB.toArray.size))) s)
theorem Un(k:Nat):∀d e:D,uN prog w k d e:=by
 induction k with
 |zero=>exactλd e=>Jw λa b aS _ A E s I u v Q hd=>absurd (aS▸hd:(D.tup a).depth<=0) (Nat.not_succ_le_zero _)
 |succ k aE=>exactλd e=>Jw λa b aS bf=>aS▸bf▸Uo aE a b
theorem Um(k:Nat)(d e:D){A:Around}{E:Value->Shared->Prop}{s:Shared}{I:a1}{u v:Value}{Q:Value->Shared->Prop}(hd:d.depth<=k)(ax:ll d e=true)(cJ:A.units+k<cLine)(cR:Rep s.heap I d u)(b7:Rep s.heap I e v)(h:Q (.bool (g5 d e)) s):
  wpAny (model prog w) A (richCompare .Lt u v) Q E s:=Un k d e A E s I u v Q hd ax cJ cR b7 h
end
end
noncomputable def headD:D->D
 |.tup (x::_)=>x
 |_=>.none
def gw(J:List D):Bool:=decide (J.length<64)&&((intsOf J).isSome||(decide J.Nodup&&D.da J&&decide (D.ew J<=8)&&J.all (λx=>J.all (ll x))&&
 (J.all j4||J.all (λx=>mc (headD x))||J.all (λx=>j4 (headD x)))))
theorem getD_list{be:Type}{l:List be}{i:Nat}(h:i<l.length)(d:be):l.getD i d=l[i]:=(kC ..).trans ((bb (Option.getD · d) (gz h)).trans rfl)
theorem bt.yu{h:Heap}{I:a1}{J:List D}{vs:List Value}(r:bt h I J vs){i:Nat}(hi:i<J.length):Rep h I (J.getD i .none) (vs.getD i .none):=
 aG (r.get (gz hi)) λv aU b7=>by
  rw[getD_list hi,kC,aU]
  exact b7
theorem bt.map{h:Heap}{I:a1}{J:List D}{vs:List Value}(r:bt h I J vs)(is:List Nat)(hi:∀i∈is,i<J.length):bt h I (is.map λi=>J.getD i .none) (is.map λi=>vs.getD i .none):=by
 induction is with
 |nil=>exact rfl
 |cons i is aE=>exact⟨_,_,rfl,r.yu (hi i (.head _)),aE λj bn=>hi j (.tail _ bn)⟩
theorem Uv{be:Type}(d:be)(l:List be):(List.range l.length).map (λi=>l.getD i d)=l:=
 List.ext_getElem (by rw[bR,fW]) λi ai ak=>by rw[List.getElem_map,List.getElem_range,getD_list ak]
section
variable{prog:Program}{w:World}
theorem Ji{A:Around}{s:Shared}{I:a1}{p q:D}{u v:Value}{Q:Bool->Shared->Prop}(ax:ll p q=true)(aF:mc p=true\/j4 p=true)(cR:Rep s.heap I p u)(b7:Rep s.heap I q v)(h:Q (g5 p q) s):wpAny (model prog w) A (oneLt' true u v) Q (λ_ _=>False) s:=by
 refine Gf ax (λa b aS bf=>?_) (λa b aS bf=>?_) (λa b aS bf _=>?_)
 ·subst aS
  subst bf
  exact cR.elim λt cR=>b7.elim λd1 b7=>cR▸b7▸oneLt_int (zn a b▸h)
 ·subst aS
  subst bf
  exact cR.elim λt cR=>b7.elim λd1 b7=>cR▸b7▸oneLt_str (Jr a b▸h)
 ·subst aS
  exact aF.elim hM hM
theorem T5{A:Around}{s:Shared}{I:a1}{b fin:Bool}{k:Nat}(cJ:A.units+k<cLine){Q:Bool->Shared->Prop}(x y:List D)(us vs:List Value)(i:Nat)(hr:bt s.heap I x us)(ky:bt s.heap I y vs)(hd:D.ew x<=k)(ax:kM x y=true)
  (ab:i=0->b=true->∀p ke,x=p::ke->(mc p=true\/j4 p=true)) (hf:fin=decide (us.length<vs.length)) (h:Q (oM x y) s):KatLex prog w A b fin Q (us.zip vs) i s:=by
 induction x generalizing y us vs i with
 |nil=>
  rw[show us=[]from hr]at hf⊢
  rw[List.zip_nil_left]
  refine kat_nil ?_
  cases y with
  |nil=>rw[show vs=[]from ky]at hf;exact(hf.trans (hZ (ji _)).symm).trans Jv.symm▸h
  |cons q y=>exact b2 ky λv r e _ _=>by rw[e]at hf;exact(hf.trans (dT (Nat.succ_pos _))).trans (Ju q y).symm▸h
 |cons p x aE=>
  cases y with
  |nil=>
   rw[show vs=[]from ky]at hf⊢
   rw[List.zip_nil_right]
   exact kat_nil ((hf.trans (hZ (kG _)).symm).trans (Jt p x).symm▸h)
  |cons q y=>
   refine b2 hr λu Ag aS cR WV=>b2 ky λv na bf b7 WW=>?_
   subst aS
   subst bf
   have aq:=Gh ax
   rw[Dn]at h
   rw[List.zip_cons_cons]
   refine kat_cons (vh aq.1 aq.2.1 (e6 (gH (aO (Nat.le_max_left _ _) hd) _) cJ) cR b7 prog w _ _ ?_)
   by_cases e:p=q
   ·rw[a3 e]at aq h
    rw[dT e]
    exact kat_yes (aE y Ag na (i+1) WV WW (aO (Nat.le_max_right _ _) hd) aq.2.2 nofun (hf.trans (mF ⟨Nat.lt_of_succ_lt_succ,Nat.succ_lt_succ⟩)) h)
   ·rw[bq e]at aq h
    rw[fu e]
    refine kat_no ?_
    by_cases yA:(b&&i==0)=true
    ·rw[yA]
     have q:=ha.mp yA
     exact Ji aq.2.2 (ab (eq_of_beq q.2) q.1 p x rfl) cR b7 h
    ·rw[Bool.eq_false_iff.mpr yA]
     exact kat_one _ _ (Um k p q (aO (Nat.le_max_left _ _) hd) aq.2.2 cJ cR b7 h)
theorem Yv{h:Heap}{I:a1}{J:List D}{vs:List Value}(r:bt h I J vs)(ar:∀x∈J,∃y r,x=.tup (y::r)):∃bM,KatTups h vs bM/\bt h I (J.map headD) bM/\bM.length=J.length:=by
 induction J generalizing vs with
 |nil=>exact⟨[],by rw[show vs=[]from r];exact KatTups.nil,rfl,rfl⟩
 |cons x J aE=>
  refine b2 r λv r e b7 au=>iH (ar x (.head _)) λy bB bO=>eB (aE au λz hz=>ar z (.tail _ hz)) λbM ai ak aV=>?_
  subst e
  subst bO
  refine d4 b7 λa us n e av aL=>b2 aL λu Ag bO cR _=>?_
  subst e
  subst bO
  exact⟨u::bM,KatTups.cons av rfl rfl rfl ai,⟨u,bM,rfl,cR,ak⟩,bb (· +1) aV⟩
theorem Ci{d:D}(h:mc (headD d)=true\/j4 (headD d)=true):∃y r,d=.tup (y::r):=by
 cases d with
 |tup xs=>
  cases xs with
  |nil=>exact h.elim hM hM
  |cons y r=>exact⟨y,r,rfl⟩
 |_=>exact h.elim hM hM
theorem Yd{h:Heap}{I:a1}{J:List D}{vs:List Value}(r:bt h I J vs)(ar:∀x∈J,j4 x=true):∃ss,StrsAre vs ss:=by
 induction J generalizing vs with
 |nil=>exact⟨[],by rw[show vs=[]from r];exact .nil⟩
 |cons x J aE=>
  refine b2 r λv r e b7 au=>(CY (ar x (.head _))).elim λa aC=>(aE au λz hz=>ar z (.tail _ hz)).elim λss aZ=>?_
  subst aC
  exact b7.elim λt bK=>⟨a::ss,by rw[e,bK];exact .cons a t aZ⟩
noncomputable def uH(J:List D):Prop:=(∀x∈J,mc (headD x)=true)\/∀x∈J,j4 (headD x)=true
noncomputable def Az(J:List D)(gp:SortKind):Prop:=(gp=oneType'/\∀x∈J,j4 x=true)\/∃b,gp=tuples' b/\uH J
theorem uH.at{J:List D}(h:uH J){x:D}(ar:x∈J):mc (headD x)=true\/j4 (headD x)=true:=h.imp (· x ar) (· x ar)
theorem Nh{A:Around}{s:Shared}{I:a1}{J:List D}{vs:List Value}{gp:SortKind}(cJ:A.units+8<cLine)(r:bt s.heap I J vs)(hd:D.ew J<=8)(ax:∀x∈J,∀y∈J,ll x y=true)
  (tH:Az J gp) {i j:Nat} (hi:i<J.length) (bn:j<J.length) {bI:Bool->Shared->Prop}
  (h:bI (g5 (J.getD i .none) (J.getD j .none)) s):kas_ask prog w A gp vs i j bI s:=by
 have cR:=r.yu hi
 have b7:=r.yu bn
 have mg:J.getD i .none∈J:=getD_list hi D.none▸List.getElem_mem hi
 have qZ:J.getD j .none∈J:=getD_list bn D.none▸List.getElem_mem bn
 unfold kas_ask
 have kQ:=ax _ mg _ qZ
 rcases tH with e|cH
 ·obtain rfl:=e.1
  rw[keyLt'_oneType]
  exact Ji kQ (.inr (e.2 _ mg)) cR b7 h
 ·refine aG cH λb e Rg=>?_
  subst e
  clear cH
  have cH:=Rg
  have iQ:=aO (q0 mg) hd
  have aF:=cH.at mg
  revert cR b7 h kQ iQ aF
  refine iH (Ci (cH.at mg)) λp x ar=>iH (Ci (cH.at qZ)) λq y bc=>?_
  rw[ar,bc]
  intro h cR b7 kQ iQ aF
  refine d4 cR λa us n e df tE=>d4 b7 λhG Ag sl bO Rd R2=>?_
  rw[e,bO]
  exact kat_lt df rfl Rd rfl (T5 (k:=8) cJ (p::x) (q::y) us Ag 0 tE R2 (i7 iQ) kQ (λ_ _ gi ke e=>by cases e;exact aF) rfl (Dm _ _▸h))
theorem P5{J:List D}(aH:J.Nodup){i j:Nat}(hi:i<J.length)(bn:j<J.length)(h:i≠j):J.getD i .none≠J.getD j .none:=by
 rw[getD_list hi,getD_list bn]
 exactλe=>h ((List.getElem_inj aH).mp e)
theorem FH{xs:Array Nat}{i:Nat}(hi:i<xs.size)(j:Nat):xs.getD i j=xs.toList[i]'(iK▸hi):=(dif_pos hi).trans rfl
noncomputable def sJ(J:List D)(p:Array Nat):Prop:=hY J.length p/\qm (λi j=>g5 (J.getD i .none) (J.getD j .none)) p J.length
theorem sJ.sorted{J:List D}{p:Array Nat}(h:sJ J p):(∀i∈p.toList,i<J.length)/\dN J=p.toList.map λi=>J.getD i .none:=by
 refine⟨λi hi=>ft.mp ((h.1.perm.mem_iff).mp hi),(wy ?_ ?_).symm⟩
 ·have:=h.1.perm.map (λi=>J.getD i .none)
  rw[Uv]at this
  exact this
 ·rw[List.pairwise_map,List.pairwise_iff_getElem]
  intro i j hi bn e0
  have pK:j<p.size:=iK▸bn
  have:=h.2 i j e0 (h.1.size▸pK)
  unfold at' at this
  rw[FH (k2 e0 pK),FH pK]at this
  exact De this
theorem XR{A:Around}{E:Value->Shared->Prop}{s:Shared}{vs:List Value}{J:List D}{I:a1}(au:bt s.heap I J vs)(cJ:A.units+8<cLine)(rX:J.length<64)(ak:2<=J.length)(mQ:J.Nodup)(jy:D.ew J<=8)(ax:∀x∈J,∀y∈J,ll x y=true)
  {gp:SortKind} (tH:Az J gp):wpAny (model prog w) A ((sortRuns').run (SortSt.mk' gp (vs.toArray.zip vs.toArray) #[] 7 none)) (λr bT=>bT=s/\failedOf r.2=none/\∃p,sJ J p/\arrOf r.2=p.map (kas_item (vs.toArray.zip vs.toArray))) E s:=by
 have cZ:=au.length
 have L:mz J.length (λi j=>g5 (J.getD i .none) (J.getD j .none)):=
  ⟨λi j _ _ q=>Jq _ _ q,λi j hi bn e0=>Dl _ _ (P5 mQ hi bn e0),λi j k _ _ _ q eL=>Js _ _ _ q eL⟩
 have fin:(kas_sort vs.length).kasWp (kas_ask prog w A gp vs) (λp bT=>bT=s/\sJ J p) s:=by
  rw[cZ]
  refine Tb (n:=J.length) (lt:=λi j=>g5 (J.getD i .none) (J.getD j .none)) (aM:=λbT=>bT=s)
   (λi j bI bT hi bn ed jZ=>?_) _ (sJ J) _ _ rfl (λbT=>XT L ak λq a b=>⟨a,b⟩) (λp bT ed aF=>⟨ed,aF⟩)
  subst ed
  exact Nh cJ au jy ax tH hi bn (jZ _ rfl)
 refine kat_run (ks:=vs) (vs:=vs) (Q:=λst bT=>bT=s/\failedOf st=none/\∃p,sJ J p/\arrOf st=p.map (kas_item (vs.toArray.zip vs.toArray))) rfl (cZ▸ak) (cZ▸rX) (λp EA bT kk kl pb s0=>⟨s0.1,pb,p,s0.2,kl⟩) fin
theorem XS{A:Around}{E:Value->Shared->Prop}{s:Shared}{vs:List Value}{J:List D}{I:a1}(au:bt s.heap I J vs)(ak:2<=J.length)(aq:(∀x∈J,j4 x=true)\/uH J):wpAny (model prog w) A (keyKind' vs.toArray) (λgp bT=>bT=s/\Az J gp) E s:=by
 have cZ:=au.length
 rcases aq with q|q
 ·refine(Yd au q).elim λss aZ=>?_
  cases vs with
  |nil=>rw[←cZ]at ak;exact absurd ak (Nat.not_succ_le_zero 1)
  |cons aax vs=>
   cases vs with
   |nil=>rw[←cZ]at ak;exact absurd ak (Nat.not_succ_le_self 1)
   |cons YZ cX=>
    rw[keyKind_strs aZ]
    exact bj ⟨rfl,.inl ⟨rfl,q⟩⟩
 ·refine eB (Yv au λx ar=>Ci (q.at ar)) λbM g1 g2 g3=>?_
  have types:∀T:String,(∀x∈J,∀v:Value,Rep s.heap I (headD x) v->typeOf v=pure (.type T))->∀v∈bM,Looks (model prog w) s.heap (typeOf v) (.type T):=by
   intro T d3 v aU
   refine a6 (List.mem_iff_getElem.mp aU) λi a2=>?_;refine a6 a2 λhi e=>?_;clear a2
   have b7:=g2.yu (i:=i) (by rw[bR,←g3];exact hi)
   rw[getD_list hi,e,getD_list (by rw[bR,←g3];exact hi),List.getElem_map]at b7
   exact Looks.of_pure (d3 _ (List.getElem_mem _) _ b7)
  rcases id q with eL|eL
  ·exact kat_kind g1 (by rw[g3];exact dE Nat.two_pos ak) (types "int" λx ar v b7=>(CX (eL x ar)).elim λi e=>(e▸b7:Rep s.heap I (.int i) v).elim λt e=>e▸rfl) ag ⟨rfl,.inr ⟨_,rfl,q⟩⟩
  ·exact kat_kind g1 (by rw[g3];exact dE Nat.two_pos ak) (types "str" λx ar v b7=>(CY (eL x ar)).elim λi e=>(e▸b7:Rep s.heap I (.str i) v).elim λt e=>e▸rfl) ag ⟨rfl,.inr ⟨_,rfl,q⟩⟩
theorem SU{h:Heap}{I:a1}{ns wT:List Int}{out:List Value}(aX:IntsAre out wT)(bg:wT.Perm ns)(bQ:wT.Pairwise (· <= ·)):bt h I (dN (ns.map .int)) out:=by
 have e:dN (ns.map .int)=wT.map .int:=by
  refine(wy (bg.map _) (List.pairwise_map.mpr (bQ.imp λ{x y} jc=>?_))).symm
  exact(zn y x).trans (fu (Int.not_lt.mpr jc))
 rw[e]
 clear e bg bQ
 induction aX with
 |nil=>exact rfl
 |cons m t _ aE=>exact⟨_,_,rfl,⟨t,rfl⟩,aE⟩
theorem Uj{A:Around}{E:Value->Shared->Prop}{s:Shared}{a:Addr}{vs:List Value}{J:List D}{n:Nat}{I:a1}{P:PySem.Fin->Shared->Prop}(aD:s.heap.get? a=some (seqObj "list" vs.toArray n)) (r:bt s.heap I J vs) (ok:gw J=true) (cJ:A.units+8<cLine)
  (h:∀out:List Value,bt (sortedHeap s.heap a vs out.toArray) I (dN J) out->P (.done (.ret .none)) {s with heap:=sortedHeap s.heap a vs out.toArray}):wpAny (model prog w) A (Builtin.«list.sort» ⟨[.ref a],[]⟩) P E s:=by
 unfold gw at ok
 simp only[Bool.and_eq_true,iL,Bool.or_eq_true]at ok
 obtain (⟨rX,ok⟩):=ok
 have cZ:=r.length
 have aC:a<s.heap.objs.size:=e7 aD
 have fR:Clear (· =a) I s.heap:=λb ab xs m e=>by
  obtain rfl:=ab
  rw[aD]at e
  simp[seqObj]at e
 have Iv:∀(out:Array Value) (al:List D) (us:List Value),bt s.heap I al us->bt (sortedHeap s.heap a vs out) I al us:=λout al us q=>
  bt.ext3 fR ⟨⟨[],(List.append_nil _).symm⟩,λ_ ab=>.inl ab,λb o e ab=>(sortedHeap_old ab (e7 e)).trans e⟩ al us q
 rcases ok with hints|⟨⟨⟨⟨mQ,f3⟩,jy⟩,oB⟩,tB⟩
 ·refine a6 (Option.isSome_iff_exists.mp hints) λns kp=>?_
  have e:=za kp
  subst e
  refine list_sort_tree aD (ints_rep r) (by lia) λout wT aX bg bQ=>?_
  exact(h out.toList (SU aX bg bQ):P _ {s with heap:=sortedHeap s.heap a vs out})
 ·have ax:∀x∈J,∀y∈J,ll x y=true:=λx ar y bc=>kF.mp (kF.mp oB x ar) y bc
  have aq:(∀x∈J,j4 x=true)\/uH J:=tB.elim (λq=>q.imp kF.mp λq=>.inl (kF.mp q)) λq=>.inr (.inr (kF.mp q))
  rw[list_sort_plain]
  refine aI (listItems_at aD rfl ?_)
  refine aI (listUpdate_at aD rfl ?_)
  obtain ⟨aS,l8⟩:∃aS,(s.heap.update a (Obj.mapSeq λ_=>#[])).get? a=some (seqObj "list" #[] aS):=⟨_,get?_update_seq aD (λ_=>#[])⟩
  refine aI (seqEpoch_at l8 rfl ?_)
  refine aI (wpAny_newTuple ?_)
  refine aI (wpAny_newList ?_)
  refine gJ ?_
  generalize r4:((s.heap.update a (Obj.mapSeq λ_=>#[])).push (seqObj "tuple" vs.toArray 0)).push (seqObj "list" #[] 0)=cC
  have yR:cC.get? a=some (seqObj "list" #[] aS):=by
   rw[←r4,Heap.get?_push_ne _ _ _ (by rw[size_push',Heap.size_update];exact gy (Nat.lt_succ_of_lt aC)),Heap.get?_push_ne _ _ _ (by rw[Heap.size_update];exact gy aC)]
   exact l8
  have ma:bt cC I J vs:=bt.ext3 (bad:=(· =a)) fR ⟨⟨[],(List.append_nil _).symm⟩,λ_ ab=>.inl ab,λb o e ab=>by
   rw[←r4]
   exact fO _ (fO _ (by rw[Heap.get?_update_ne _ _ _ _ ab];exact e))⟩ J vs r
  have G0:∀out:List Value,bt s.heap I (dN J) out->P (.done (.ret .none)) {s with heap:=cC.update a (Obj.mapSeq λ_=>out.toArray)}:=λout q=>by
   rw[←r4]
   exact h out (Iv _ _ _ q)
  clear h Iv r4 l8 aC fR
  show wpAny (model prog w) A _ P E {s with heap:=cC}
  dsimp only
  by_cases ak:vs.toArray.size<2
  ·rw[a3 ak,a3 ak]
   refine aI (bj ?_)
   rw[StateT.run_pure]
   refine aI (bj ?_)
   dsimp only
   refine aI (seqEpoch_at yR rfl ?_)
   refine aI (listUpdate_at yR rfl ?_ (hsz2:=by rw[Array.size_map];show(pairsOf vs).size<=_;rw[pairsOf_size,sizeLine_eq];lia))
   simp only[bne_self_eq_false,hV,if_false]
   refine bj ?_
   have e:(arrOf (SortSt.mk' general' (vs.toArray.zip vs.toArray) #[] 7 none)).map (·.2)=vs.toArray:=by
    show(vs.toArray.zip vs.toArray).map (·.2)=_
    apply Array.toList_inj.mp;simp[List.map_snd_zip]
   have bf:dN J=J:=by
    cases J with
    |nil=>rfl
    |cons x J=>
     cases J with
     |nil=>rfl
     |cons y J=>rw[hb,cZ]at ak;exact absurd ak (Nat.not_lt.mpr (oX 2 _))
   rw[e]
   exact G0 vs (by rw[bf];exact r)
  ·rw[bq ak,bq ak]
   have tp:2<=J.length:=by rw[hb,cZ]at ak;exact Nat.not_lt.mp ak
   refine aI (hW (XS (s:={s with heap:=cC}) ma tp aq) (λgp bT tH=>?_) λ_ _ x=>x)
   obtain rfl:=tH.1
   refine aI (hW (XR (s:={s with heap:=cC}) ma cJ rX tp mQ jy ax tH.2) (λr bT q=>?_) λ_ _ x=>x)
   refine fV q λe hf q=>aG q λp aF B9=>?_
   subst e
   obtain ⟨⟨⟩,EA⟩:=r
   dsimp only at hf B9⊢
   refine aI (seqEpoch_at yR rfl ?_)
   have vk:((arrOf EA).map (·.2)).size=J.length:=by rw[Array.size_map,B9,Array.size_map,aF.1.size]
   refine aI (listUpdate_at yR rfl ?_ (hsz2:=by rw[vk,sizeLine_eq];lia))
   rw[hf]
   simp only[bne_self_eq_false,hV,if_false]
   refine bj ?_
   have OW:(arrOf EA).map (·.2)=(p.toList.map λi=>vs.getD i .none).toArray:=kat_snds (ks:=vs) rfl B9
   rw[OW]
   exact G0 _ (by rw[aF.sorted.2];exact bt.map (by assumption) _ aF.sorted.1)
theorem A2{A:Around}{E:Value->Shared->Prop}{s:Shared}{v:Value}{Q:Value->Shared->Prop}(cJ:A.units+20<cLine)
  (ax:wpAny (model prog w) A.in1 (collect v) (λus bT=>∃J I,bt bT.heap I J us/\gw J=true/\∀(dV:Heap) out c,(∀b o,bT.heap.get? b=some o->dV.get? b=some o)->dV.get? bT.heap.objs.size=some (seqObj "list" out c)->bt dV I (dN J) out.toList->Q (.ref bT.heap.objs.size) {bT with heap:=dV}) E s):
  wpAny (model prog w) A (call (.builtin "sorted") [v]) Q E s:=by
 refine Calls.call_function_entry kind_sorted plain_sorted entry_sorted (args_sorted1 _) ?_
 unfold Builtin.«sorted»
 refine aI (m:=checkCount "sorted" 1 1 _) (bj ?_)
 refine aI (hW ax ?_ λ_ _ x=>x)
 intro us bT a9;refine b2 a9 λJ I r ok h=>?_;clear a9
 have rX:us.length<64:=by
  rw[r.length]
  unfold gw at ok
  simp only[Bool.and_eq_true,iL]at ok
  exact ok.1
 refine aI (wpAny_newList ?_ (by rw[sizeLine_eq];lia))
 have wf:(bT.heap.push (seqObj "list" us.toArray 0)).get? bT.heap.objs.size=some (seqObj "list" us.toArray 0):=gA _ rfl
 have Ih:∀b o,bT.heap.get? b=some o->(bT.heap.push (seqObj "list" us.toArray 0)).get? b=some o:=λb o e=>fO _ e
 have eG:bt (bT.heap.push (seqObj "list" us.toArray 0)) I J us:=bt.ext3 (bad:=λ_=>False) (λ_ q=>q.elim) ⟨⟨[],by simp⟩,λ_ ab=>.inl ab,λb o e _=>Ih b o e⟩ J us r
 refine aI (gJ (wpAny_call_entry slot_list_sort ⟨_,wf,rfl⟩ entry_list_sort (Uj wf eG ok (by refine(?_:A.units+1+1+8<cLine);lia) λout WH=>⟨_,rfl,?_⟩) (args_list_sort _)))
 refine a6 (sortedHeap_at (vs:=us) (out:=out.toArray) wf) λe a0=>?_
 refine bj ⟨_,rfl,h _ out.toArray e (λb o q=>?_) a0 (by simpa using WH)⟩
 rw[sortedHeap_old (gy (e7 q)) (by rw[size_push'];exact Nat.lt_succ_of_lt (e7 q))]
 exact Ih b o q
end
end
section
open PySem PySem.W PyProof.Rows PySem.Calls PyProof.V PySem.Spec
structure xC(prog:Program)(w:World)(S it:Addr)(I:a1)(lf:List D->Heap->Prop):Prop where
 ne:S≠it
 keep:∀J h af,lf J h->(∃bz c,h.get? S=some (seqObj "list" bz c))->(∀b o,b≠S->h.get? b=some o->af.get? b=some o)->lf J af
 q2:∀J h,lf J h->∀xs n,h.get? it≠some (seqObj "tuple" xs n)
 step:∀(d:D) (J:List D) (A:Around) (E:Value->Shared->Prop) (s:Shared) (Q:Option Value->Shared->Prop),A.handled=none->lf (d::J) s.heap->S<s.heap.objs.size->
  (∀v af bm,lf J af->Rep af I d v->(∀b o,b≠it->s.heap.get? b=some o->af.get? b=some o)->Q (some v) {s with heap:=af,toks:=bm})->wpAny (model prog w) A (pyNext (.ref it)) Q E s
 done:∀(A:Around) (E:Value->Shared->Prop) (s:Shared) (Q:Option Value->Shared->Prop),A.handled=none->lf [] s.heap->
  (∀af bm,(∀b o,b≠it->s.heap.get? b=some o->af.get? b=some o)->Q none {s with heap:=af,toks:=bm})->wpAny (model prog w) A (pyNext (.ref it)) Q E s
section
variable{prog:Program}{w:World}
theorem LL{S it:Addr}{I:a1}{lf:List D->Heap->Prop}(W:xC prog w S it I lf){A:Around}(cH:A.handled=none){R:Result->Shared->Prop}{res:Value}{BW:Array GenState}:
  ∀(J ah:List D) (bz:Array Value) (c:Nat) (s:Shared),lf J s.heap->s.heap.get? S=some (seqObj "list" bz c)->bt s.heap I ah bz.toList->ah.length+J.length<=lim->
   (∀af bm lg ez,(∀b o,b≠S->b≠it->s.heap.get? b=some o->af.get? b=some o)->af.get? S=some (seqObj "list" lg ez)->bt af I (ah++J) lg.toList->R (.ok (.ret res)) {s with heap:=af,toks:=bm})->
   codeAny (model prog w) A (.builtin "list.extend.loop" ⟨[.ref S,.ref it,res],[]⟩) R s
 |[],ah,bz,c,s,hw,fQ,au,aw,h=>by
  refine codeAny_builtin PySem.F.entry_extend_loop ?_
  rw[Around.under_plainId PySem.F.plain_extend_loop _]
  show wpAny _ A.in1 (pyNext (.ref it)>>=_) _ _ s
  refine aI (W.done A.in1 _ s _ cH hw λaf bm aq=>?_)
  refine bj (h af bm bz c (λb o _ ab e=>aq b o ab e) (aq S _ W.ne fQ) ?_)
  rw[List.append_nil]
  exact bt.ext3 (bad:=(· =it)) (λb ab xs n e=>by subst ab;exact W.q2 _ _ hw _ _ e) ⟨⟨[],by simp⟩,λ_ ab=>.inl ab,λb o e ab=>aq b o ab e⟩ ah _ au
 |d::J,ah,bz,c,s,hw,fQ,au,aw,h=>by
  refine codeAny_builtin PySem.F.entry_extend_loop ?_
  rw[Around.under_plainId PySem.F.plain_extend_loop _]
  show wpAny _ A.in1 (pyNext (.ref it)>>=_) _ _ s
  refine aI (W.step d J A.in1 _ s _ cH hw (e7 fQ) λv af bm So b7 aq=>?_)
  have kn:=aq S _ W.ne fQ
  have fp:bz.size=ah.length:=by rw[←iK];exact au.length
  have iT:ah.length+(J.length+1)<=100000:=aw
  have dA:bt af I ah bz.toList:=bt.ext3 (bad:=(· =it)) (λb ab xs n e=>by subst ab;exact W.q2 _ _ hw _ _ e) ⟨⟨[],by simp⟩,λ_ ab=>.inl ab,λb o e ab=>aq b o ab e⟩ ah _ au
  have up:∀b o,b≠S->af.get? b=some o->(af.update S (Obj.mapSeq (·.push v))).get? b=some o:=λb o ab e=>(Heap.get?_update_other _ _ (Ne.symm ab)).trans e
  have ax:Clear (· =S) I af:=λb ab xs n e=>by subst ab;rw[kn]at e;simp[seqObj]at e
  have ex:e8 (· =S) I af I (af.update S (Obj.mapSeq (·.push v))):=⟨⟨[],by simp⟩,λ_ ab=>.inl ab,λb o e ab=>up b o ab e⟩
  show wpAny _ A.in1 (updateSeq S (·.push v)>>=_) _ _ _
  refine aI ?_
  refine wpAny_updateSeq kn rfl (bj ⟨plainId_quiet PySem.F.plain_extend_loop _,LL W cH (BW:=BW) J (ah++[d]) (bz.push v) _ _ (W.keep _ _ _ So ⟨_,_,kn⟩ up) (Heap.get?_update_self _ kn rfl) ?_ (by rw[dO,List.length_singleton,Nat.add_assoc,Nat.add_comm 1];exact aw) λdV gG lg ez Rm Qz Iu=>?_⟩)
   (by rw[fp,sizeLine_eq];lia) (by refine(?_:(bz.push v).size<=sizeLine+1);rw[Array.size_push,fp,sizeLine_eq];lia)
  ·rw[Array.toList_push]
   exact(bt.ext3 ax ex _ _ dA).append (bt.one (Rep.ext3 ax ex _ _ b7))
  ·refine h dV gG lg ez (λb o ab hO e=>Rm b o ab hO (up b o ab (aq b o hO e))) Qz ?_
   rw[List.append_assoc]at Iu
   exact Iu
structure Src(prog:Program)(w:World)(T:String)(r:Addr)(I:a1)(J:List D)(nv:Heap->Prop):Prop where
 type:∀h,nv h->∃o,h.get? r=some o/\o.cls=.type T
 keep:∀h af:Heap,nv h->(∀b o,h.get? b=some o->af.get? b=some o)->nv af
 notList:(Value.type T==Value.type "list")=false
 notTuple:(Value.type T==Value.type "tuple")=false
 hint:∀(A:Around) (E:Value->Shared->Prop) (s:Shared) (Q:Bool->Shared->Prop),nv s.heap->Q false s->wpAny (model prog w) A (Builtin.List.listLengthHint (.ref r)) Q E s
 iter:∀(A:Around) (E:Value->Shared->Prop) (s:Shared) (S c:Nat) (Q:Value->Shared->Prop),A.handled=none->nv s.heap->s.heap.get? S=some (seqObj "list" #[] c)->
  (∀it al lf af bm ct,xC prog w S it I lf->al.Perm J->lf al af->(∀b o,s.heap.get? b=some o->af.get? b=some o)->s.heap.objs.size<=it->Q (.ref it) {s with heap:=af,toks:=bm,drawn:=ct})->wpAny (model prog w) A (pyIter (.ref r)) Q E s
theorem XX{T:String}{r:Addr}{I:a1}{J:List D}{nv:Heap->Prop}(X:Src prog w T r I J nv){A:Around}{E:Value->Shared->Prop}{s:Shared}{Q:List Value->Shared->Prop}(cH:A.handled=none)(eE:nv s.heap)(aH:J.length<=lim)
  (h:∀af bm ct al us,(∀b o,s.heap.get? b=some o->af.get? b=some o)->s.heap.objs.size<=af.objs.size->al.Perm J->bt af I al us->Q us {s with heap:=af,toks:=bm,drawn:=ct}):wpAny (model prog w) A (collect (.ref r)) Q E s:=by
 unfold collect
 refine aI (wpAny_runValue (codeAny_builtin entry_proto_collect' ?_))
 rw[Around.under_plainId PySem.F.plain_proto_collect _]
 show wpAny _ A.in1 (newList []>>=λl=>again (.builtin "list.__iadd__" ⟨[l,.ref r],[]⟩)) _ _ s
 refine aI (wpAny_newObj_type ?_)
 refine bj ⟨plainId_quiet PySem.F.plain_list_iadd _,codeAny_builtin entry_list_iadd' ?_⟩
 rw[Around.under_plainId PySem.F.plain_list_iadd _]
 refine aG (X.type _ eE) λor Iq yB=>?_
 have jb:r<s.heap.objs.size:=e7 Iq
 have vO:(s.heap.push {cls:=.type "list",data:=.seq ([]:List Value).toArray}).get? s.heap.objs.size=some (seqObj "list" #[] 0):=gA _ rfl
 have ko:∀b o,s.heap.get? b=some o->(s.heap.push {cls:=.type "list",data:=.seq ([]:List Value).toArray}).get? b=some o:=λb o e=>fO _ e
 show wpAny _ A.in1 (Builtin.List.listExtendWith (.ref s.heap.objs.size) (.ref r) (.ref s.heap.objs.size)) _ _ _
 unfold Builtin.List.listExtendWith
 refine aI (wpAny_typeOf (T:=T) ⟨or,ko _ _ Iq,yB⟩ ?_)
 have ai:Builtin.List.listSameRef (.ref s.heap.objs.size) (.ref r)=false:=by simp[Builtin.List.listSameRef,Nat.ne_of_gt jb]
 simp only[ai,X.notList,X.notTuple,Bool.or_false,hV,if_false]
 refine aI (X.iter A.in1 _ {s with heap:=s.heap.push {cls:=.type "list",data:=.seq ([]:List Value).toArray}} s.heap.objs.size 0 _ cH (X.keep _ _ eE ko) vO λit al lf cE Yp Ak W aF hw Cu eA=>?_)
 have yI:s.heap.objs.size<=it:=aO (by rw[size_push'];lia) eA
 have tt:=Cu _ _ vO
 refine aI (gJ (X.hint _ _ _ _ (X.keep _ _ (X.keep _ _ eE ko) Cu) ?_))
 have key:∀(eT:Heap) (c:Nat),lf al eT->eT.get? s.heap.objs.size=some (seqObj "list" #[] c)->(∀b o,b≠s.heap.objs.size->cE.get? b=some o->eT.get? b=some o)->
   codeAny (model prog w) A (.builtin "list.extend.loop" ⟨[.ref s.heap.objs.size,.ref it,.ref s.heap.objs.size],[]⟩)
    (λq bT=>∃af bm bz ez,q=.ok (.ret (.ref s.heap.objs.size))/\bT={s with heap:=af,toks:=bm,drawn:=Ak}/\(∀b o,s.heap.get? b=some o->af.get? b=some o)/\af.get? s.heap.objs.size=some (seqObj "list" bz ez)/\bt af I al bz.toList)
    {s with heap:=eT,toks:=Yp,drawn:=Ak}:=λeT c Sq tu Cv=>by
  refine LL W cH (BW:=s.gens) al [] #[] c _ Sq tu rfl (by rw[aF.length_eq];simpa using aH) λaf bm bz ez aq kn au=>?_
  refine⟨af,bm,bz,ez,rfl,rfl,λb o e=>?_,kn,au⟩
  have ab:=e7 e
  exact aq b o (gy ab) (gy (dE ab yI)) (Cv b o (gy ab) (Cu b o (ko b o e)))
 refine wpAny_ite_split (λ_=>?_) (λ_=>?_)
 ·refine aI (wpAny_rule ?_)
  refine aI ?_
  show wpAny _ _ (updateSeq s.heap.objs.size (·.push .none)>>=λ_=>updateSeq s.heap.objs.size (·.pop)) _ _ _
  refine aI (wpAny_updateSeq tt rfl ?_)
  have tu:=Heap.get?_update_self (Obj.mapSeq (·.push Value.none)) tt rfl
  refine wpAny_updateSeq (hz:=by seq_fits) tu rfl ?_
  have QB:=Heap.get?_update_self (Obj.mapSeq (·.pop)) tu rfl
  have up:∀b o,b≠s.heap.objs.size->cE.get? b=some o->((cE.update s.heap.objs.size (Obj.mapSeq (·.push Value.none))).update s.heap.objs.size (Obj.mapSeq (·.pop))).get? b=some o:=λb o ab e=>
   (Heap.get?_update_other _ _ (Ne.symm ab)).trans ((Heap.get?_update_other _ _ (Ne.symm ab)).trans e)
  refine bj ⟨plainId_quiet PySem.F.plain_extend_loop _,codeAny_mono (key _ _ (W.keep _ _ _ hw ⟨_,_,tt⟩ up) QB up) λq hS y=>?_⟩
  refine xn y λaf bm bz ez a2 a9 aq kn au=>?_;clear y;subst a2;subst a9
  show wpAny _ A (load s.heap.objs.size>>=_) _ _ _
  refine aI (wpAny_load kn ?_)
  exact bj (h af bm Ak al bz.toList aq (gI (e7 kn)) aF au)
 ·refine bj ⟨plainId_quiet PySem.F.plain_extend_loop _,codeAny_mono (key _ _ hw tt λ_ _ _ e=>e) λq hS y=>?_⟩
  refine xn y λaf bm bz ez bC bY aq kn au=>?_;clear y;subst bC;subst bY
  show wpAny _ A (load s.heap.objs.size>>=_) _ _ _
  refine aI (wpAny_load kn ?_)
  exact bj (h af bm Ak al bz.toList aq (gI (e7 kn)) aF au)
end
section
variable{prog:Program}{w:World}{A:Around}{E:Value->Shared->Prop}{s:Shared}
theorem Ww{d:Addr}{gh:Obj}{al:Array DictEntry}{ce:Nat}{Q:Value->Shared->Prop}(hd:(d==sysModules)=false)(aD:s.heap.get? d=some gh)(ax:gh.cls=.type "dict") (tw:gh.data=.dict al ce)
  (gc:Q (.ref s.heap.objs.size) {s with heap:=s.heap.push {cls:=.type "dict_keyiterator",data:=.fields #[.ref d,.int 0 0,.int al.size 0,.int ce 0]}}):
  wpAny (model prog w) A (pyIter (.ref d)) Q E s:=by
 have d3:s.TypeIs (.ref d) "dict":=⟨_,aD,ax⟩
 refine wpAny_pyIter_slot d3 PySem.F.slot_dict_iter (wpAny_call_entry PySem.F.slot_dict_iter d3 PySem.F.entry_dict_iter ?_ (PySem.F.args_dict_iter_1 _))
 unfold Builtin.«dict.__iter__»
 refine aI ?_
 unfold Builtin.Dict.dictSlotNone
 refine aI (wpAny_notOrdered_dict d3 ?_)
 show wpAny _ _ (pure (Value.ref d)) _ _ s
 refine bj ?_
 show wpAny _ _ (Builtin.Dict.showsAll d>>=_) _ _ s
 unfold Builtin.Dict.showsAll
 rw[bq (by rw[hd];exact k3)]
 refine aI (bj ?_)
 refine aI (wpAny_dictEntries aD tw ?_)
 refine aI (wpAny_dictEpoch aD tw ?_)
 refine aI (wpAny_newObj_type (bj ⟨_,rfl,"dict_keyiterator",_,⟨_,gA _ rfl,rfl⟩,PySem.F.slot_dict_keyiterator_next.lookup,?_⟩))
 simpa [rawInt] using gc
theorem Wv{it d:Addr}{gh:Obj}{al:Array DictEntry}{i ce:Nat}{e:DictEntry}{Q:Option Value->Shared->Prop}(eA:s.heap.IsKeyIter it d i al.size ce)
  (hv:s.heap.get? d=some gh) (ig:gh.data=.dict al ce) (ar:al[i]?=some e)
  (gc:∀af,af.IsKeyIter it d (i+1) al.size ce->Heap.SameBut it s.heap af->Q (some e.key) {s with heap:=af}):
  wpAny (model prog w) A (pyNext (.ref it)) Q E s:=by
 refine eB (id eA) λo aD ax hd=>?_
 unfold pyNext
 refine aI (wpAny_attempt (wpAny_callSpecial?_slot (name:=Str.ofString "__next__") eA.typeIs PySem.F.slot_dict_keyiterator_next
  (wpAny_call_entry PySem.F.slot_dict_keyiterator_next eA.typeIs PySem.F.entry_dict_keyiterator_next ?_ (PySem.F.args_dict_keyiterator_next_1 _))))
 refine aI (bj ?_)
 refine aI ?_
 refine aI ?_
 first|refine aI (wpAny_typeNameOfWhole_keyiter eA.typeIs (bj ?_))|refine aI (wpAny_typeNameOf_keyiter eA.typeIs (bj ?_))
 refine aI (wpAny_fieldsOf aD hd ?_)
 show wpAny _ _ (if(Value.ref d==Value.none)=true then _ else _) _ _ s
 rw[bq (show¬((Value.ref d==Value.none)=true)from k3)]
 refine aI (bj ?_)
 refine aI (wpAny_dictEntries hv ig ?_)
 rw[bq (by simp)]
 refine aI (bj ?_)
 refine aI (wpAny_dictEpoch hv ig ?_)
 rw[bq (by simp)]
 refine bj ?_
 dsimp only
 rw[bq (show¬((i:Int)<0)from Int.not_lt.mpr (Int.natCast_nonneg i)),Int.toNat_natCast,ar]
 refine aI ?_
 first|refine aI (wpAny_typeNameOfWhole_keyiter eA.typeIs (bj ?_))|refine aI (wpAny_typeNameOf_keyiter eA.typeIs (bj ?_))
 refine aI (wpAny_isOneOf_keyiter eA.typeIs ?_)
 show wpAny _ _ (setField (.ref it) 1 (rawInt ((i:Int)+1))>>=_) _ _ s
 refine aI (wpAny_setField aD hd (by simp) ?_)
 have yI:(s.heap.update it (Obj.mapFields (·.setIfInBounds 1 (rawInt ((i:Int)+1))))).IsKeyIter it d (i+1) al.size ce:=
  ⟨_,Heap.get?_update_self _ aD (Obj.isFreed_of_fields (Obj.data_mapFields hd _)),(Obj.cls_mapFields ..).trans ax,by rw[Obj.data_mapFields hd];simp[rawInt]⟩
 refine aI (gJ ?_)
 refine aI (wpAny_isOneOf_keyiter (s:={s with heap:=s.heap.update it (Obj.mapFields (·.setIfInBounds 1 (rawInt ((i:Int)+1))))}) yI.typeIs ?_)
 show wpAny _ _ (pure e.key) _ _ _
 exact bj (bj ⟨_,rfl,bj (gc _ yI (jK ..))⟩)
theorem z4{Q:PySem.Fin->Shared->Prop}(cH:A.handled=none)(vL:∀af v,(∀b o,s.heap.get? b=some o->af.get? b=some o)->({s with heap:=af}:Shared).TypeIs v "StopIteration"->E v {s with heap:=af}):
  wpAny (model prog w) A (do let e←newExc (Value.type "StopIteration") [];raiseNew e) Q E s:=by
 refine aI ?_
 simp only[newExc,newTuple]
 refine aI (wpAny_newObj_type ?_ (by size_fits))
 refine aI (m:=firstArgMember _ _) (wpAny_of_eq (a:=Value.none) (by first|rfl|(simp only[firstArgMember];rfl)) ?_)
 refine wpAny_newObj_type ?_ (by size_fits)
 refine aI (wpAny_handled ?_)
 rw[cH]
 refine aI (bj (wpAny_throw ?_))
 exact vL _ _ (λb o h=>fO _ (fO _ h)) ⟨_,gA _ rfl,rfl⟩
theorem Wu{it d:Addr}{gh:Obj}{al:Array DictEntry}{i ce:Nat}{Q:Option Value->Shared->Prop}(cH:A.handled=none)(eA:s.heap.IsKeyIter it d i al.size ce)
  (hv:s.heap.get? d=some gh) (ig:gh.data=.dict al ce) (ar:al[i]?=none)
  (gc:∀af,Heap.ExtBut it s.heap af->Q none {s with heap:=af}):wpAny (model prog w) A (pyNext (.ref it)) Q E s:=by
 refine eB (id eA) λo aD ax hd=>?_
 unfold pyNext
 refine aI (wpAny_attempt (wpAny_callSpecial?_slot (name:=Str.ofString "__next__") eA.typeIs PySem.F.slot_dict_keyiterator_next
  (wpAny_call_entry PySem.F.slot_dict_keyiterator_next eA.typeIs PySem.F.entry_dict_keyiterator_next ?_ (PySem.F.args_dict_keyiterator_next_1 _))))
 refine aI (bj ?_)
 refine aI ?_
 refine aI ?_
 first|refine aI (wpAny_typeNameOfWhole_keyiter eA.typeIs (bj ?_))|refine aI (wpAny_typeNameOf_keyiter eA.typeIs (bj ?_))
 refine aI (wpAny_fieldsOf aD hd ?_)
 show wpAny _ _ (if(Value.ref d==Value.none)=true then _ else _) _ _ s
 rw[bq (show¬((Value.ref d==Value.none)=true)from k3)]
 refine aI (bj ?_)
 refine aI (wpAny_dictEntries hv ig ?_)
 rw[bq (by simp)]
 refine aI (bj ?_)
 refine aI (wpAny_dictEpoch hv ig ?_)
 rw[bq (by simp)]
 refine bj ?_
 dsimp only
 rw[bq (show¬((i:Int)<0)from Int.not_lt.mpr (Int.natCast_nonneg i)),Int.toNat_natCast,ar]
 refine aI ?_
 first|refine aI (wpAny_typeNameOfWhole_keyiter eA.typeIs (bj ?_))|refine aI (wpAny_typeNameOf_keyiter eA.typeIs (bj ?_))
 show wpAny _ _ (setField (.ref it) 0 .none>>=_) _ _ s
 refine aI (wpAny_setField aD hd (by simp) ?_)
 show wpAny _ _ (newExc (.type "StopIteration") []>>=_) _ _ _
 exact z4 cH λaf v a0 aU=>aI (wpAny_isInstance (T:="StopIteration") (b:=true) aU isSubtype_stop (bj (gc af (λb o ab h=>a0 b o ((jK ..).extBut b o ab h)))))
end
theorem Th{h:Heap}{prog:Program}{w:World}{aN:List (List D×D)}{xs:List (List D×Addr×Value)}{I:a1}(r:e9 h I aN xs)(aq:∀x∈xs,xy h x.1 x.2.1):bt h [] (aN.map λp=>.tup p.1) (xs.map λx=>.ref x.2.1):=by
 induction aN generalizing xs with
 |nil=>rw[show xs=[]from r];exact rfl
 |cons p aN aE=>exact d4 r λa v r e b7 au=>by subst e;exact⟨_,_,rfl,(aq _ (.head _)).2.2,aE au λx ar=>aq x (.tail _ ar)⟩
theorem Te{h:Heap}{aN:List (List D×D)}{xs:List (List D×Addr×Value)}{I:a1}(r:e9 h I aN xs)(aq:∀x∈xs,xy h x.1 x.2.1):D.da (aN.map λp=>.tup p.1)=true:=by
 induction aN generalizing xs with
 |nil=>rfl
 |cons p aN aE=>exact d4 r λa v r e b7 au=>by subst e;exact ha.mpr ⟨(aq _ (.head _)).2.1,aE au λx ar=>aq x (.tail _ ar)⟩
section
variable{prog:Program}{w:World}{am:Heap}{n:Nat}{aA:Scope}{K:Frag}
noncomputable def Fz(S it d:Addr)(gh:Obj)(al:Array DictEntry)(ce:Nat)(J:List D)(h:Heap):Prop:=
 ∃i,h.IsKeyIter it d i al.size ce/\h.get? d=some gh/\bt h [] J ((al.toList.drop i).map (·.key))/\D.da J=true
theorem KJ{I:a1}{h:Heap}{d:D}{v:Value}(hd:d.cO=true)(r:Rep h [] d v):Rep h I d v:=w8 (I:=[]) hd r
theorem Y6{S it d:Addr}{gh:Obj}{al:Array DictEntry}{ce:Nat}(e1:S≠it)(B5:S≠d)(Cg:d≠it)(ig:gh.data=.dict al ce)(I:a1):xC prog w S it I (Fz S it d gh al ce) where
 ne:=e1
 keep:=λJ h af hw aL aq=>iv hw λi ai ak aV bL=>iH aL λbz c fQ=>⟨i,ai.imp λo q=>⟨aq it o (Ne.symm e1) q.1,q.2⟩,aq d gh (Ne.symm B5) ak,
  bt.ext3 (bad:=(· =S)) (λb ab xs n e=>by subst ab;rw[fQ]at e;simp[seqObj]at e) ⟨⟨[],rfl⟩,λ_ ab=>.inl ab,λb o e ab=>aq b o ab e⟩ _ _ aV,bL⟩
 q2:=λJ h hw xs n e=>aG hw λi ai _=>aG ai λo aD hd=>by rw[aD]at e;refine c0 e λeF=>?_;clear e;subst eF;simp at hd
 step:=λx J A E s Q cH hw fQ gc=>by
  refine iv hw λi ai ak aV bL=>b2 aV λv r aU b7 au=>?_
  have hi:i<al.toList.length:=Nat.lt_of_not_le λh=>by rw[List.drop_eq_nil_of_le h]at aU;cases aU
  rw[List.drop_eq_getElem_cons hi,gm]at aU
  have aU:=List.cons.inj aU
  rw[←aU.1]at b7
  rw[←aU.2]at au
  have bL:=oL bL
  refine Wv ai ak ig (e:=al.toList[i]) (kD.symm.trans (gz hi)) λaf Qi aZ=>?_
  have ax:Clear (· =it) [] s.heap:=λb ab xs n e=>aG ai λo aD hd=>by rw[ab,aD]at e;refine c0 e λfq=>?_;clear e;subst fq;simp at hd
  have ex:e8 (· =it) [] s.heap [] af:=⟨⟨[],rfl⟩,λ_ ab=>.inl ab,λb o e ab=>aZ.extBut b o ab e⟩
  exact gc _ af s.toks ⟨i+1,Qi,aZ.extBut d gh Cg ak,bt.ext3 ax ex _ _ au,bL.2⟩ (KJ bL.1 (Rep.ext3 ax ex _ _ b7)) λb o ab e=>aZ.extBut b o ab e
 done:=λA E s Q cH hw gc=>iv hw λi ai ak aV bL=>
  Wu cH ai ak ig (kD.symm.trans (lM (List.drop_eq_nil_iff.mp (List.map_eq_nil_iff.mp aV)))) λaf a0=>gc af s.toks λb o ab e=>a0 b o ab e
theorem XY{d:Addr}{aN:List (List D×D)}{I:a1}(aV:3<d):Src prog w "dict" d I (aN.map λp=>.tup p.1) (λh=>ki prog w h I d (.du aN)) where
 type:=λh q=>aG q λxs q _=>d4 q λo al ce aD ax _=>⟨o,aD,ax.1⟩
 keep:=λh af x aq=>x.ext3 (bad:=λ_=>False) (λ_ q=>q.elim) ⟨⟨[],by simp⟩,λ_ ab=>.inl ab,λb o e _=>aq b o e⟩ id
 notList:=by decide
 notTuple:=by decide
 hint:=λA E s Q q aL=>aG q λxs q _=>d4 q λo al ce aD ax _=>kdl_hint_dict ⟨o,aD,ax.1⟩ aL
 iter:=λA E s S c Q cH q fQ gc=>by
  refine aG q λxs q aF=>sG q λo al ce aD ax tw H7 aq _=>?_
  have hd:(d==sysModules)=false:=by
   have:d≠sysModules:=λe=>by subst e;exact absurd aV ag
   simpa using this
  refine Ww hd aD ax.1 tw ?_
  have B5:S≠d:=λe=>by subst e;rw[fQ]at aD;refine c0 aD λhq=>?_;clear aD;subst hq;simp at tw
  have cz:=e7 aD
  refine gc _ (aN.map λp=>.tup p.1) (Fz S s.heap.objs.size d o al ce) _ s.toks s.drawn (Y6 (gy (e7 fQ)) B5 (gy cz) tw I) (.refl _) ?_ (λb o e=>fO _ e) (bD _)
  have au:=Th (prog:=prog) (w:=w) aF aq
  refine⟨0,⟨_,gA _ rfl,rfl,rfl⟩,fO _ aD,?_,?_⟩
  ·rw[List.drop_zero,H7,fj]
   exact bt.ext3 (bad:=λ_=>False) (λ_ q=>q.elim) ⟨⟨[],by simp⟩,λ_ ab=>.inl ab,λb o e _=>fO _ e⟩ _ _ au
  ·exact Te aF aq
noncomputable def XQ(p:bG):Option (List D):=match p with
 |.list xs=>some xs
 |.du aN=>some (aN.map λp=>.tup p.1)
 |_=>none
def Lb(l:Nat)(C:aa):Option (D×aa):=(C[l]?).bind λp=>(XQ p).bind λxs=>if gw xs then some (.obj C.length,C++[.list (dN xs)])else none
def ny(J:List D)(C:aa):Option (D×aa):=match J with
 |[.obj l]=>Lb l C
 |_=>none
theorem Nw{J:List D}{C:aa}{r:D×aa}(h:ny J C=some r):∃l,J=[.obj l]/\Lb l C=some r:=by
 cases J with
 |nil=>exact bi h
 |cons x q=>
  cases q with
  |cons y q=>cases x<;>exact bi h
  |nil=>cases x with
   |obj l=>exact⟨l,rfl,h⟩
   |_=>exact bi h
theorem Ew{xs:List D}(h:gw xs=true):xs.length<64:=hU (ha.mp h).1
theorem I2{l:List D}(h:∀x∈l,x.cO=true):D.da l=true:=by
 induction l with
 |nil=>rfl
 |cons x l aE=>exact ha.mpr ⟨h x (.head _),aE λx ar=>h x (.tail _ ar)⟩
theorem GB{l:List D}{k:Nat}(h:∀x∈l,x.depth<=k):D.ew l<=k:=by
 induction l with
 |nil=>exact es _
 |cons x l aE=>exact Nat.max_le.mpr ⟨h x (.head _),aE λx ar=>h x (.tail _ ar)⟩
theorem ints_of{l:List D}:(intsOf l).isSome=true↔∀x∈l,mc x=true:=by
 induction l with
 |nil=>exact⟨λ_=>ka,λ_=>rfl⟩
 |cons x l aE=>
  constructor
  ·intro h y bc
   cases x with
   |int i=>
    have af:(intsOf l).isSome=true:=Option.isSome_map.symm.trans (h:((intsOf l).map (i:: ·)).isSome=true)
    exact(dS.mp bc).elim (λe=>e▸rfl) (aE.mp af y)
   |_=>exact hM h
  ·intro h
   refine a6 (CX (h x (.head _))) λi b3=>?_;subst b3
   have af:=aE.mpr λy bc=>h y (.tail _ bc)
   exact(Option.isSome_map:((intsOf l).map (i:: ·)).isSome=_).trans af
theorem xF{xs bB:List D}(p:bB.Perm xs){f:D->Bool}(h:xs.all f=true):bB.all f=true:=kF.mpr λx ar=>kF.mp h x (p.mem_iff.mp ar)
theorem La{xs bB:List D}(p:bB.Perm xs)(h:gw xs=true):gw bB=true:=by
 have h:=ha.mp h
 refine ha.mpr ⟨p.length_eq▸h.1,?_⟩
 refine Bool.or_eq_true_iff.mpr ((Bool.or_eq_true_iff.mp h.2).imp (λq=>ints_of.mpr λx ar=>ints_of.mp q x (p.mem_iff.mp ar)) λq=>?_)
 have a2:=ha.mp q
 have a9:=ha.mp a2.1
 have bC:=ha.mp a9.1
 have bY:=ha.mp bC.1
 exact ha.mpr ⟨ha.mpr ⟨ha.mpr ⟨ha.mpr ⟨dT (p.nodup_iff.mpr (hU bY.1)),I2 λx ar=>nS (p.mem_iff.mp ar) bY.2⟩,
  dT (GB λx ar=>aO (q0 (p.mem_iff.mp ar)) (hU bC.2))⟩,kF.mpr λx ar=>xF p (kF.mp a9.2 x (p.mem_iff.mp ar))⟩,
  Bool.or_eq_true_iff.mpr ((Bool.or_eq_true_iff.mp a2.2).imp (λr=>Bool.or_eq_true_iff.mpr ((Bool.or_eq_true_iff.mp r).imp (xF p) (xF p))) (xF p))⟩
theorem CZ{xs bB:List D}(p:bB.Perm xs):dN bB=dN xs:=wy ((oI bB).trans p) (zb bB)
theorem Ld{A:Around}{E:Value->Shared->Prop}{s:Shared}{T:String}{a:Addr}{I:a1}{C:aa}{xs:List D}{nv:Heap->Prop}{Q:Value->Shared->Prop}(a5:fa n A)(S:St prog w am I C s.heap)(X:Src prog w T a I xs nv)(eE:nv s.heap)(ok:gw xs=true)
  (P:on prog w am I s (.obj C.length) (C++[.list (dN xs)]) Q):wpAny (model prog w) A (call (.builtin "sorted") [.ref a]) Q E s:=by
 refine A2 (by have:=a5.units;lia) (XX X a5.1 eE (by have:=Ew ok;unfold lim;lia) λaf bm ct al us aq fp aF au=>?_)
 refine⟨al,I,au,La aF ok,λdV out c eQ av hn=>?_⟩
 have aS:Ext (λ_=>False) I s.heap (I++[af.objs.size]) dV:=Ext.grow (λb o e=>eQ b o (aq b o e)) (by
  cases e:s.heap.get? af.objs.size with
  |none=>rfl
  |some o=>exact absurd (e7 (aq _ _ e)) (ji _))
 rw[CZ aF]at hn
 exact P (I++[af.objs.size]) _ dV bm ct (S.alloc fp aS ⟨out.toList,c,by simpa using av,bt.grow _ _ _ hn⟩) (aS.weaken λ_ ab=>ab.elim) ⟨af.objs.size,by rw[←S.len];simp,rfl⟩
theorem xJ:i8 prog w am n (.builtin "sorted") ny:=by
 intro J C d ao av A I s vs Q E a5 S r P
 refine aG (Nw av) λl a2 av=>?_;subst a2
 refine cI av λp ar av=>cI av λxs aZ av=>?_
 refine oJ av ?_ ?_<;>clear av<;>intro ok av
 ·refine ds av λje kW=>?_;clear av;subst je;subst kW
  refine b2 r λu _ cj cR aH=>?_;clear r;subst cj
  have ey:_=[]:=aH
  subst ey
  cases p with
  |list bB=>
   have e:bB=xs:=Option.some.inj aZ
   subst e
   refine hs (ik S (by delta gu;rw[ar]) cR) λa vs k cA _ _ df au=>?_;subst cA
   refine A2 (by have:=a5.units;lia) (collect_list (vs:=vs) ⟨_,df,rfl,_,rfl⟩ ?_ (by rw[au.length,sizeLine_eq];have:=Ew ok;lia))
   have mN:∀b o,s.heap.get? b=some o->((s.heap.push (seqObj "list" #[] 0)).update s.heap.objs.size (Obj.mapSeq (· ++vs.toArray))).get? b=some o:=λb o e=>by
    rw[Heap.get?_update_ne _ _ _ _ (gy (e7 e))]
    exact fO _ e
   have hz:((s.heap.push (seqObj "list" #[] 0)).update s.heap.objs.size (Obj.mapSeq (· ++vs.toArray))).objs.size=s.heap.objs.size+1:=by rw[Heap.size_update,size_push']
   refine⟨bB,I,bt.ext3 (bad:=λ_=>False) (λ_ q=>q.elim) ⟨⟨[],by simp⟩,λ_ ab=>.inl ab,λb o e _=>mN b o e⟩ _ _ au,ok,λdV out c eQ av hn=>?_⟩
   rw[hz]at av⊢
   have aS:Ext (λ_=>False) I s.heap (I++[s.heap.objs.size+1]) dV:=Ext.grow (λb o e=>eQ b o (mN b o e)) (rT _ (k1 _))
   exact P (I++[s.heap.objs.size+1]) _ dV s.toks s.drawn (S.alloc (k1 _) aS ⟨out.toList,c,by simpa using av,bt.grow _ _ _ hn⟩) (aS.weaken λ_ ab=>ab.elim) ⟨s.heap.objs.size+1,by rw[←S.len];simp,rfl⟩
  |du aN=>
   have e:=Option.some.inj aZ
   subst e
   refine aG cR λa aC d0=>?_;subst d0
   exact Ld a5 S (XY (S.out a (eN aC)).2) (S.objs l a _ aC ar) ok P
  |_=>exact bi aZ
 ·exact bi av
end
theorem KQ{h:Heap}{I:a1}:∀{J:List D} {vs:List Value},J.length=vs.length->(∀(j:Nat) d v,J[j]?=some d->vs[j]?=some v->Rep h I d v)->bt h I J vs
 |[],[],_,_=>rfl
 |[],_::_,h,_=>by simp at h
 |_::_,[],h,_=>by simp at h
 |d::J,v::vs,h,H=>⟨v,vs,rfl,H 0 d v rfl rfl,KQ (by simpa using h) λj jS i5 ai ak=>H (j+1) jS i5 (by simpa using ai) (by simpa using ak)⟩
theorem ej.P6{K:Type}{h:Heap}{I:a1}{aN:List (K×D)}:∀{al:List (K×Value)} {j:Nat} {k:K} {v:Value},ej h I aN al->al[j]?=some (k,v)->∃d,aN[j]?=some (k,d)/\Rep h I d v:=by
 induction aN with
 |nil=>intro al j k v r e;rw[show al=[]from r]at e;exact bi e
 |cons p aN aE=>
  intro al j k v r e
  refine b2 r λu r q ub au=>?_
  subst q
  cases j with
  |zero=>exact ds e λa2 a9=>⟨p.2,bb (λk=>some (k,p.2)) a2,a9▸ub⟩
  |succ j=>exact aE au e
theorem ej.len{K:Type}{h:Heap}{I:a1}:∀{aN:List (K×D)} {al:List (K×Value)},ej h I aN al->al.length=aN.length
 |[],al,r=>by rw[show al=[]from r];rfl
 |(x,d)::aN,_,⟨u,r,rfl,ub,au⟩=>by simp[au.len]
section
variable{prog:Program}{w:World}{am:Heap}{n:Nat}{aA:Scope}{K:Frag}
noncomputable def oT(aN:List (Str×D)):List D:=aN.map λp=>.tup [.str p.1,p.2]
noncomputable def Xb(p:bG):Option (List (Str×D)):=match p with
 |.ee aN=>some aN
 |_=>none
def z2(jt:aY (D×aa))(m:aK)(C:aa):Option (D×aa):=(jt m C).bind λx=>(objOf x.1).bind λl=>(x.2[l]?).bind λp=>(Xb p).bind λaN=>if gw (oT aN)then some (.obj x.2.length,x.2++[.list (dN (oT aN))])else none
theorem Os{o:Expr}{p apos wL pos:Pos}{jt}(pl:Env->Sem Bool)(ab:no am "sorted" (.builtin "sorted")) (ar:aA.names.lookup ("sorted":Str)=some .globalImplicit) (aD:cL prog w am n aA o jt)
  (a0:∀ae,eval (.Call (.Attribute o "items" apos) [] [] wL) ae=(do
   let kv←eval o ae
   standAt apos.atName
   let(f,first)←holding [kv] (getMethod kv "items" (pl ae))
   callWith wL f first (backTo wL (starEach [] ae)) []))
  (aZ:Plain [.Call (.Attribute o "items" apos) [] [] wL]):cL prog w am n aA (.Call (.Name "sorted" p) [.Call (.Attribute o "items" apos) [] [] wL] [] pos) (z2 jt):=by
 intro m C d ao hf A ae I s Q E a5 F S P
 refine dw hf ?_;clear hf;intro a aB aC hf
 refine cI hf ?_;clear hf;intro l aw hf
 refine cI hf ?_;clear hf;intro p aq hf
 refine cI hf ?_;clear hf;intro aN tF hf
 have iT:=m1 aw
 subst iT
 have pO:p=.ee aN:=by
  cases p with
  |ee k=>exact bb _ (Option.some.inj tF)
  |_=>exact bi tF
 subst pO
 refine dB hf ?_;clear hf;intro ok hf
 refine ds hf λb3 cj=>?_;clear hf;subst b3;subst cj
 refine wpAny_Call_Name_kw (pk ab F S ar ag ?_)
 refine bU (aZ ae) λai ak=>?_
 rw[ai]
 refine Calls.callWith_builtin (by refine(?_:(false||(backTo pos (starEach [] ae)).any (·.1))=false);rw[ak pos];rfl) (Calls.evalArgs_plain ?_)
 refine PySem.Calls.spliced_cons ?_
 refine PyProof.Rows.MethodCall_ (pl:=pl ae) (aD m C _ aB aC A ae I s _ E a5 F S λbJ u c6 b4 cy bE bu cs=>?_) (a0 ae)
 refine aG cs λb hO bC=>?_;clear cs;subst bC
 have QN:=eN hO
 refine aG (bE.objs l b _ hO aq) λal hd tD=>?_
 refine a6 hd.dictAt λce iS=>?_
 have d3:Shared.TypeIs {s with heap:=c6,toks:=b4,drawn:=cy} (.ref b) "dict":=hd.typeIs
 refine getMethod_builtin (s:={s with heap:=c6,toks:=b4,drawn:=cy}) d3 PySem.F.plainAttrs_dict PySem.F.slot_dict_items PySem.F.type_dict_items (λa e=>by cases e;refine d4 hd λo fm ZG aD ax _=>?_;clear hd;exact⟨o,aD,ax.2.1⟩) ?_
 refine callWith_method0 ?_
 refine call_meetsIn (s:={s with heap:=c6,toks:=b4,drawn:=cy}) PySem.F.slot_dict_items d3 PySem.F.entry_dict_items (PySem.F.args_dict_items_1 _) (meets_dict_items (PySem.strKind prog w) b (bE.t2 QN)) ⟨⟨al,hd⟩,?_⟩
 refine PySem.Calls.spliced_nil ?_
 have cZ:=tD.len
 have rX:=Ew ok
 unfold oT at rX
 rw[bR]at rX
 refine A2 (by have:=a5.units;lia) ?_
 refine kdx_collect (s:={s with heap:=c6.push {cls:=.type "dict_items",data:=.fields #[.ref b]},toks:=b4,drawn:=cy}) a5.1 (d:=b) ⟨_,gA _ rfl,rfl,rfl⟩ (iS.push _) (by rw[sizeLine_eq];lia) λaf bm as mN B7 pB=>?_
 have eQ:∀q o,c6.get? q=some o->af.get? q=some o:=λq o e=>mN q o (fO _ e)
 have RU:ej af bJ aN al:=tD.ext3 (bad:=λ_=>False) (λ_ q=>q.elim) ⟨⟨[],by simp⟩,λ_ ab=>.inl ab,λb o e _=>eQ b o e⟩
 refine⟨oT aN,bJ,KQ (by unfold oT;rw[bR,bR,B7,cZ]) λj x v ar aU=>?_,ok,λdV out c Cq av hn=>?_⟩
 ·rw[iM]at aU
  refine fC aU ?_;clear aU;intro q aL CN;subst CN
  refine d4 (pB.pairs j q aL) λkey k y bc f3 Re=>?_
  refine aG (RU.P6 bc) λOK Q4 Wx=>?_
  have ex:x=.tup [.str k,OK]:=by
   unfold oT at ar
   rw[iM,Q4]at ar
   simpa using ar.symm
  subst ex
  refine a6 (Value.isStrOf_shape f3) λt bY=>?_;subst bY
  exact⟨q,[.str k t,y],0,rfl,Re,_,_,rfl,⟨t,rfl⟩,_,_,rfl,Wx,rfl⟩
 ·have fp:c6.objs.size<=af.objs.size:=by
   exact gI (e7 (mN c6.objs.size _ (gA _ rfl)))
  have bf:Ext (λ_=>False) bJ c6 (bJ++[af.objs.size]) dV:=Ext.grow (λq o e=>Cq q o (eQ q o e)) (rT _ fp)
  exact P (bJ++[af.objs.size]) _ dV bm cy (bE.alloc fp bf ⟨out.toList,c,by simpa using av,bt.grow _ _ _ hn⟩) (bu.dc (bf.weaken λ_ ab=>ab.elim)) ⟨af.objs.size,by rw[←bE.len];simp,rfl⟩
end
noncomputable abbrev jP(xs:Array Nat):Prop:=xs.toList.Pairwise (· < ·)
theorem getD_at{xs:Array Nat}{i:Nat}(hi:i<xs.size)(j:Nat):xs.getD i j=xs.toList[i]'(iK▸hi):=(dif_pos hi).trans rfl
theorem jP.lt{xs:Array Nat}(h:jP xs){i j:Nat}(e0:i<j)(bn:j<xs.size):xs.getD i 0<xs.getD j 0:=by
 rw[getD_at (k2 e0 bn),getD_at bn]
 exact(List.pairwise_iff_getElem.mp h) i j _ _ e0
theorem jP.le{xs:Array Nat}(h:jP xs){i j:Nat}(e0:i<=j)(bn:j<xs.size):xs.getD i 0<=xs.getD j 0:=by
 rcases Nat.lt_or_eq_of_le e0 with q|q
 ·exact gI (h.lt q bn)
 ·exact q▸bD _
theorem mid{lo hi:Nat}(h:lo<hi):lo<=(lo+hi)/2/\(lo+hi)/2<hi:=
 ⟨(Nat.le_div_iff_mul_le Nat.two_pos).mpr (Nat.mul_two lo▸gH (gI h) lo),Nat.div_lt_of_lt_mul (Nat.two_mul hi▸Nat.add_lt_add_right h hi)⟩
noncomputable def Cut(xs:Array Nat)(j p:Nat):Prop:=p<=xs.size/\(∀i,i<p->xs.getD i 0<j)/\(∀i,p<=i->i<xs.size->j<=xs.getD i 0)
theorem NG{xs:Array Nat}(h:jP xs)(j f lo hi:Nat)(ai:hi<=xs.size)(ak:lo<=hi)(aV:hi<=lo+f)(bL:∀i,i<lo->xs.getD i 0<j)(dx:∀i,hi<=i->i<xs.size->j<=xs.getD i 0):Cut xs j (SetTable.below.go xs j f lo hi):=by
 induction f generalizing lo hi with
 |zero=>
  obtain rfl:=Nat.le_antisymm ak aV
  exact⟨ai,bL,dx⟩
 |succ f aE=>
  by_cases cz:lo<hi
  ·have aR:=mid cz
   have aZ:=dE aR.2 ai
   have e:SetTable.below.go xs j (f+1) lo hi=if xs.getD ((lo+hi)/2) j<j then SetTable.below.go xs j f ((lo+hi)/2+1) hi else SetTable.below.go xs j f lo ((lo+hi)/2):=a3 cz
   rw[e,getD_at aZ j,←getD_at aZ 0]
   by_cases ax:xs.getD ((lo+hi)/2) 0<j
   ·rw[a3 ax]
    exact aE _ hi ai aR.2 (aO aV (aO (nb aR.1 (f+1)) (cB (lN _ f 1)))) (λi q=>e6 (h.le (nd q) aZ) ax) dx
   ·rw[bq ax]
    exact aE lo _ (gI aZ) aR.1 (nd (dE aR.2 aV)) bL λi q Wl=>aO (Nat.not_lt.mp ax) (h.le q Wl)
  ·have e:SetTable.below.go xs j (f+1) lo hi=lo:=bq cz
   obtain rfl:=Nat.le_antisymm ak (Nat.not_lt.mp cz)
   rw[e]
   exact⟨ai,bL,dx⟩
theorem uZ{xs:Array Nat}(h:jP xs)(j:Nat):Cut xs j (SetTable.below xs j):=
 NG h j _ 0 _ (bD _) (es _) (cB (Nat.zero_add _).symm) (λi hi=>absurd hi (kG _)) (λi ai ak=>absurd ak (Nat.not_lt.mpr ai))
theorem Cut.uniq{xs:Array Nat}{j p q:Nat}(h:Cut xs j p)(aL:q<=xs.size)(ai:∀i,i+1=q->xs.getD i 0<j)(ak:q<xs.size->j<=xs.getD q 0):p=q:=by
 rcases Nat.lt_trichotomy p q with r|r|r
 ·exfalso
  cases q with
  |zero=>exact kG _ r
  |succ q=>exact Nat.not_lt.mpr (h.2.2 q (nd r) aL) (ai q rfl)
 ·exact r
 ·exact absurd (h.2.1 q r) (Nat.not_lt.mpr (ak (dE r h.1)))
theorem below_at{xs:Array Nat}(h:jP xs){i:Nat}(hi:i<xs.size):SetTable.below xs (xs.getD i 0)=i:=
 (uZ h _).uniq (gI hi) (λk e=>h.lt (e▸oc k) hi) λ_=>bD _
theorem NH{xs:Array Nat}(h:jP xs){i:Nat}(hi:i<xs.size):SetTable.below xs (xs.getD i 0+1)=i+1:=
 (uZ h _).uniq hi (λk e=>Nat.succ.inj e▸oc _) λq=>h.lt (oc i) q
theorem NI{xs:Array Nat}(h:jP xs):SetTable.below xs 0=0:=(uZ h 0).uniq (es _) (λ_=>nofun) λ_=>es _
structure fG(t:SetTable):Prop where
 tg:t.dummies=#[]
 rise:jP t.place
theorem HS(j:Nat):SetTable.has #[] j=false:=rfl
theorem fG.slot{t:SetTable}(T:fG t)(j:Nat):t.slot j=if t.place[SetTable.below t.place j]?==some j then .live (SetTable.below t.place j)else .empty:=by
 unfold SetTable.slot
 rw[T.tg,HS]
 rfl
theorem fG.empty{t:SetTable}(T:fG t){j:Nat}(h:j∉t.place.toList):t.slot j=.empty:=by
 rw[T.slot,bq]
 intro e
 have bO:=eq_of_beq e
 exact h (by rw[←kD]at bO;exact eN bO)
theorem fG.live{t:SetTable}(T:fG t){i:Nat}(hi:i<t.place.size):t.slot (t.place.getD i 0)=.live i:=by
 rw[T.slot,below_at T.rise hi]
 exact a3 (beq_iff_eq.mpr ((Array.getElem?_eq_getElem hi).trans (bb some (getD_at hi 0).symm)))
theorem fG.of_empty{t:SetTable}(T:fG t){j:Nat}(h:t.slot j=.empty):j∉t.place.toList:=by
 intro aR
 refine a6 (List.mem_iff_getElem.mp aR) λi a2=>?_;refine a6 a2 λhi e=>?_;clear a2
 have dW:i<t.place.size:=iK▸hi
 rw[←e,←getD_at dW 0,T.live dW]at h
 cases h
theorem y7{be:Type}(xs:Array be)(p:Nat)(x:be):(SetTable.insertAt xs p x).toList=xs.toList.take p++x::xs.toList.drop p:=by
 unfold SetTable.insertAt
 simp[List.take_of_length_le]
theorem VX{xs:Array Nat}(h:jP xs){j:Nat}(bn:j∉xs.toList):jP (SetTable.insertAt xs (SetTable.below xs j) j):=by
 have B:=uZ h j
 have lo:∀a∈xs.toList.take (SetTable.below xs j),a<j:=λa aC=>by
  refine a6 (List.mem_iff_getElem.mp aC) λi a9=>?_;refine a6 a9 λhi e=>?_;clear a9
  have dW:i<SetTable.below xs j:=dE hi (List.length_take_le ..)
  have:=B.2.1 i dW
  rw[getD_at (dE dW B.1)]at this
  rw[←e,List.getElem_take]
  exact this
 have hi:∀a∈xs.toList.drop (SetTable.below xs j),j<a:=λa aC=>by
  refine uz ?_ λe=>bn (e▸List.mem_of_mem_drop aC)
  refine a6 (List.mem_iff_getElem.mp aC) λi bC=>?_;refine a6 bC λhi e=>?_;clear bC
  have dW:SetTable.below xs j+i<xs.size:=by rw[List.length_drop,iK]at hi;exact Nat.add_lt_of_lt_sub' hi
  have:=B.2.2 _ (hD _ i) dW
  rw[getD_at dW]at this
  rw[←e,List.getElem_drop]
  exact this
 unfold jP
 rw[y7,List.pairwise_append]
 refine⟨h.sublist (List.take_sublist _ _),List.pairwise_cons.mpr ⟨hi,h.sublist (List.drop_sublist _ _)⟩,λa aC b ab=>?_⟩
 rcases dS.mp ab with rfl|ab
 ·exact lo a aC
 ·exact k2 (lo a aC) (hi b ab)
theorem fG.put{t:SetTable}(T:fG t){j:Nat}(h:t.slot j=.empty):fG (t.put j).1:=by
 unfold SetTable.put
 refine⟨?_,VX T.rise (T.of_empty h)⟩
 show(if SetTable.has t.dummies j=true then _ else t.dummies)=#[]
 rw[T.tg,HS];rfl
theorem fG.standIn(t:SetTable)(n:Nat):fG (t.standIn n):=⟨rfl,by
 refine(?_:jP (Array.range n))
 unfold jP
 rw[Array.toList_range]
 exact List.pairwise_lt_range⟩
theorem fG.orStandIn{t:SetTable}(T:fG t)(n:Nat):fG (t.orStandIn n):=by
 unfold SetTable.orStandIn
 split
 ·exact T
 ·exact fG.standIn _ _
theorem VP{t:SetTable}(T:fG t){hashAt:Nat->Int}{h:Int}(f:Nat)(p:SetTable.Probe){j:Nat}{d:Option Nat}(aF:p.dummy=none)(e:SetTable.probe.go t hashAt h f p=some (.empty j d)):t.slot j=.empty/\d=none:=by
 induction f generalizing p with
 |zero=>exact bi e
 |succ f aE=>
  unfold SetTable.probe.go at e
  have QF:(t.advance p).dummy=p.dummy:=by unfold SetTable.advance;split<;>rfl
  cases aZ:t.slot p.j with
  |empty=>
   rw[aZ]at e
   cases e
   exact⟨aZ,aF⟩
  |dummy=>
   rw[T.slot]at aZ
   exact oJ aZ (λ_=>nofun) λ_=>nofun
  |live i=>
   rw[aZ]at e
   exact oJ e (λ_=>nofun) λ_ e=>aE _ (QF.trans aF) e
theorem TZ{t:SetTable}(T:fG t)(al:Array (Int×Value))(h:Int)(x:Value):fG (layNew t al h x).2.1:=by
 unfold layNew
 cases hf:t.freeSlot h with
 |none=>exact fG.standIn _ _
 |some p=>
  obtain ⟨slot,aay⟩:=p
  unfold SetTable.freeSlot SetTable.probe at hf
  split at hf
  ·rename_i j d aF
   simp only[Option.some.injEq,Prod.mk.injEq]at hf
   refine bU (VP T _ _ (by rfl) aF) λai ak=>?_
   subst ak
   refine bU hf λbY b3=>?_;clear hf;subst bY;subst b3
   exact(T.put ai).orStandIn _
  ·exact bi hf
theorem TY(t:SetTable)(al:Array (Int×Value))(h:Int)(x:Value):(layNew t al h x).2.1.led=t.led:=by
 unfold layNew
 split
 ·show((t.put _).1.orStandIn _).led=_
  have:∀(q:SetTable) (n:Nat),(q.orStandIn n).led=q.led:=λq n=>by
   unfold SetTable.orStandIn;split<;>rfl
  rw[this];rfl
 ·rfl
theorem PN{dh:Type}(f:Nat->Option dh)(l:List Nat):(l.filterMap λj=>(f j).map (j,·)).map (·.1)=l.filter λj=>(f j).isSome:=by
 induction l with
 |nil=>rfl
 |cons j l aE=>
  rw[List.filterMap_cons,List.filter_cons]
  cases f j with
  |none=>exact aE
  |some b=>exact bb (j:: ·) aE
theorem WA{t d1:SetTable}{aZ:Array Int}{wanted:Nat}{o:Array Nat}(h:t.relaid aZ wanted=some (d1,o)):fG d1/\d1.led=t.led:=by
 unfold SetTable.relaid SetTable.laid at h
 refine cI h ?_;clear h;intro owner _ h
 refine ds h λcj cA=>?_;clear h;subst cj;subst cA
 refine⟨⟨rfl,?_⟩,rfl⟩
 show jP (List.toArray _)
 unfold jP
 rw[PN]
 exact List.pairwise_lt_range.sublist List.filter_sublist
theorem WB{t:SetTable}{al:Array (Int×Value)}{wanted:Nat}:fG (relayAll t al wanted).2.1/\(relayAll t al wanted).2.1.led=t.led:=by
 unfold relayAll
 split
 ·rename_i d1 order h
  dsimp only
  split
  ·exact WA h
  ·exact⟨fG.standIn _ _,rfl⟩
 ·exact⟨fG.standIn _ _,rfl⟩
noncomputable def pr(b:Nat):Nat->Nat×Nat
 |0=>(b%8,b)
 |k+1=>(((pr b k).1*5+1+(pr b k).2/32)%8,(pr b k).2/32)
def jD(b k:Nat):SetTable.Probe:={j:=(pr b k).1,more:=0,i:=(pr b k).1,perturb:=(pr b k).2,dummy:=none}
theorem VM(b k:Nat):(pr b k).1<8:=by
 cases k with
 |zero=>exact Nat.mod_lt _ ag
 |succ k=>exact Nat.mod_lt _ ag
theorem VO{t:SetTable}(aR:t.mask=7)(h:Int):t.probeStart h=jD (SetTable.bits h) 0:=by
 unfold SetTable.probeStart jD pr SetTable.runEnd
 rw[aR]
 have:¬(SetTable.bits h%(7+1)+9<=7):=by lia
 simp only[this,if_false,Nat.sub_self]
theorem Kq{t:SetTable}(aR:t.mask=7)(b k:Nat):t.advance (jD b k)=jD b (k+1):=by
 unfold SetTable.advance jD
 simp only[ji,gt_iff_lt,if_false,SetTable.leap,SetTable.runEnd,aR]
 have:¬(((pr b k).1*5+1+(pr b k).2/32)%(7+1)+9<=7):=by lia
 simp only[this,if_false,Nat.sub_self]
 rfl
theorem VN(b k:Nat):(pr b k).2=b/32^k:=by
 induction k with
 |zero=>exact(Nat.div_one b).symm
 |succ k aE=>exact(bb (· /32) aE).trans (Nat.div_div_eq_div_mul ..)
noncomputable def z3:Nat->Nat->Nat
 |i,0=>i
 |i,k+1=>(z3 i k*5+1)%8
theorem VL{b:Nat}(ab:b<2^64)(k:Nat):(pr b (13+k)).1=z3 (pr b 13).1 k:=by
 induction k with
 |zero=>rfl
 |succ k aE=>
  have e:(pr b (13+k)).2=0:=by
   rw[VN,Nat.pow_add]
   exact Nat.div_eq_of_lt (dE ab (aO (by decide:2^64<=32^13*1) (Nat.mul_le_mul_left _ (Nat.one_le_pow _ _ ag))))
  refine(?_:((pr b (13+k)).1*5+1+(pr b (13+k)).2/32)%8=(z3 (pr b 13).1 k*5+1)%8)
  rw[e,aE]
theorem X1:∀i<8,∀j<8,∃k<8,z3 i k=j:=by decide
theorem VK{b:Nat}(ab:b<2^64){j:Nat}(bn:j<8):∃k,k<21/\(pr b k).1=j:=
 (X1 _ (VM b 13) j bn).elim λk q=>⟨13+k,Nat.add_lt_add_left q.1 13,(VL ab k).trans q.2⟩
theorem NT(h:Int):SetTable.bits h<2^64:=(Int.toNat_lt (Int.emod_nonneg h ag)).mpr (Int.emod_lt_of_pos h ag)
theorem PS{b:Nat}(ab:b<2^64){P:Array Nat}(B2:P.size<8):∃K,K<21/\(pr b K).1∉P.toList/\∀k,k<K->(pr b k).1∈P.toList:=by
 have H:∃j,j<8/\j∉P.toList:=Classical.byContradiction λaH=>by
  have:=(List.nodup_range (n:=8)).length_le_of_subset λj bn=>Classical.byContradiction λq=>aH ⟨j,ft.mp bn,q⟩
  rw[fW,iK]at this
  exact Nat.not_lt.mpr this B2
 refine H.elim λj q=>(VK ab q.1).elim λk r=>?_
 have dec:∀K,(pr b K).1∉P.toList->∃k,k<=K/\(pr b k).1∉P.toList/\∀bZ,bZ<k->(pr b bZ).1∈P.toList:=by
  intro K
  induction K using Nat.strongRecOn with
  |ind K aE=>
   intro q
   by_cases ar:∃k,k<K/\(pr b k).1∉P.toList
   ·exact ar.elim λk h=>(aE k h.1 h.2).elim λbZ g=>⟨bZ,aO g.1 (gI h.1),g.2⟩
   ·exact⟨K,bD _,q,λbZ af=>Classical.byContradiction λeL=>ar ⟨bZ,af,eL⟩⟩
 exact(dec k (r.2.symm▸q.2)).elim λK g=>⟨K,e6 g.1 r.1,g.2⟩
noncomputable def fw(w:World)(h:Heap):List D->List (Int×Value)->Prop
 |[],al=>al=[]
 |d::J,al=>∃v r,al=(dz w d,v)::r/\Rep h [] d v/\fw w h J r
noncomputable def xu(w:World)(h:Heap)(d:D)(e:Int×Value):Prop:=e.1=dz w d/\Rep h [] d e.2
theorem fw.cons{w:World}{h:Heap}{J:List D}{e:Int×Value}{al:List (Int×Value)}(q:fw w h J (e::al)):∃d hL,J=d::hL/\xu w h d e/\fw w h hL al:=by
 cases J with
 |nil=>cases (show _::_=[]from q)
 |cons d J=>exact b2 q λv r a0 au bO=>by cases a0;exact⟨d,J,rfl,⟨rfl,au⟩,bO⟩
theorem fw.mk{w:World}{h:Heap}{d:D}{J:List D}{e:Int×Value}{al:List (Int×Value)}(q:xu w h d e)(r:fw w h J al):fw w h (d::J) (e::al):=⟨e.2,al,bb (λx=>(x,e.2)::al) q.1,q.2,r⟩
theorem fw.perm{w:World}{h:Heap}{al fm:List (Int×Value)}(p:al.Perm fm){J:List D}(e:fw w h J al):∃hL,hL.Perm J/\fw w h hL fm:=by
 induction p generalizing J with
 |nil=>exact⟨J,.refl _,e⟩
 |cons x p aE=>exact b2 e.cons λd r a0 hd bO=>a0▸aG (aE bO) λhL aF l0=>⟨d::hL,aF.cons d,.mk hd l0⟩
 |swap x y l=>exact b2 e.cons λd r a0 hd bO=>a0▸b2 bO.cons λjS eG r0 cW l0=>r0▸⟨jS::d::eG,.swap _ _ _,.mk cW (.mk hd l0)⟩
 |trans _ _ pS pT=>exact aG (pS e) λ_ ai bO=>aG (pT bO) λOH ak l0=>⟨OH,ak.trans ai,l0⟩
theorem fw.append{w:World}{h:Heap}{d:D}{v:Value}(r:Rep h [] d v){J:List D}{al:List (Int×Value)}(q:fw w h J al):fw w h (J++[d]) (al++[(dz w d,v)]):=by
 induction J generalizing al with
 |nil=>rw[show al=[]from q];exact⟨v,[],rfl,r,rfl⟩
 |cons x J aE=>exact b2 q λu q a0 au e=>⟨u,_,bb (· ++_) a0,au,aE e⟩
theorem fw.mem{w:World}{h:Heap}{J:List D}{al:List (Int×Value)}(q:fw w h J al):∀e∈al,∃d∈J,xu w h d e:=by
 induction al generalizing J with
 |nil=>exact ka
 |cons x al aE=>
  refine b2 q.cons λd r a0 hd bO=>?_
  subst a0
  intro e a0
  rcases dS.mp a0 with rfl|a0
  ·exact⟨d,.head _,hd⟩
  ·exact(aE bO e a0).imp λ_ h=>⟨.tail _ h.1,h.2⟩
theorem fw.UA{w:World}{h:Heap}{J:List D}{al:List (Int×Value)}(q:fw w h J al):∀d∈J,∃e∈al,xu w h d e:=by
 induction J generalizing al with
 |nil=>exact ka
 |cons d J aE=>
  refine b2 q λv r a0 au bO=>?_
  subst a0
  intro x ar
  rcases dS.mp ar with rfl|ar
  ·exact⟨_,.head _,rfl,au⟩
  ·exact(aE bO x ar).imp λ_ h=>⟨.tail _ h.1,h.2⟩
theorem fw.len{w:World}{h:Heap}{J:List D}{al:List (Int×Value)}(q:fw w h J al):al.length=J.length:=by
 induction J generalizing al with
 |nil=>exact bb List.length (show al=[]from q)
 |cons d J aE=>exact b2 q λv r a0 au bO=>(bb List.length a0).trans (bb (· +1) (aE bO))
theorem fw.ext3{w:World}{bad:Addr->Prop}{I a4:a1}{h af:Heap}(ax:Clear bad [] h)(x:e8 bad [] h [] af){J:List D}{al:List (Int×Value)}(q:fw w h J al):fw w af J al:=by
 induction J generalizing al with
 |nil=>exact q
 |cons d J aE=>exact b2 q λv r a0 au bO=>⟨v,r,a0,Rep.ext3 ax x d v au,aE bO⟩
theorem fw.WE{w:World}{h:Heap}{J:List D}{al:List (Int×Value)}(q:fw w h J al):bt h [] J (al.map (·.2)):=by
 induction J generalizing al with
 |nil=>rw[show al=[]from q];exact rfl
 |cons d J aE=>exact b2 q λv r a0 au bO=>⟨v,_,bb (List.map (·.2)) a0,au,aE bO⟩
noncomputable abbrev hB(al:Array (Int×Value))(ce:Nat)(t:SetTable):Obj:={cls:=.type "set",dict:=none,data:=.set al ce t}
noncomputable def sT(w:World)(led:Bool)(h:Heap)(a:Addr)(J:List D):Prop:=
 ∃al ce t,h.get? a=some (hB al ce t)/\fw w h J al.toList/\t.fits al.size=true/\fG t/\t.led=led
theorem Kw(al:Array (Int×Value))(ce:Nat)(t:SetTable)(fm:Array (Int×Value))(d1:SetTable):Obj.putSet fm d1 (hB al ce t)=hB fm (ce+1) d1:=putSet_of fm d1 rfl
theorem BU{h:Heap}{a:Addr}{al:Array (Int×Value)}{ce:Nat}{t:SetTable}(aD:h.get? a=some (hB al ce t))(fm:Array (Int×Value))(d1:SetTable):(h.update a (Obj.putSet fm d1)).get? a=some (hB fm (ce+1) d1):=by
 have:=Heap.get?_update_self (Obj.putSet fm d1) aD (by rw[Kw];rfl)
 rw[Kw]at this;exact this
section
variable{prog:Program}{w:World}
structure sS{K:Type}[DecidableEq K](knd:PySem.KeyKind prog w K)(toD:K->D):Prop where
 hash:∀k,dz w (toD k)=knd.hash k
 is:∀(h:Heap) k v,Rep h [] (toD k) v↔knd.is k v=true
 zV:∀k v,knd.is k v=true->v.scannable=true
theorem W8:sS (prog:=prog) (w:=w) (PySem.intKind prog w) .int where
 hash _:=rfl
 is h k v:=⟨λ⟨t,e⟩=>by subst e;exact intKind_is _ _ _ _,λe=>Value.isInt_shape e⟩
 zV k v e:=by refine a6 (Value.isInt_shape e) λt a2=>?_;subst a2;rfl
theorem W9:sS (prog:=prog) (w:=w) (PySem.strKind prog w) .str where
 hash _:=rfl
 is h k v:=⟨λ⟨t,e⟩=>by subst e;exact strKind_is _ _ _ _,λe=>Value.isStrOf_shape e⟩
 zV k v e:=by refine a6 (Value.isStrOf_shape e) λt a9=>?_;subst a9;rfl
theorem G3{K:Type}[DecidableEq K]{knd:PySem.KeyKind prog w K}{toD:K->D}(X:sS knd toD){h af:Heap}{ks:List K}{al:List (Int×Value)}(q:fw w h (ks.map toD) al):fw w af (ks.map toD) al:=by
 induction ks generalizing al with
 |nil=>exact q
 |cons k ks aE=>exact b2 q λv r a0 au bO=>⟨v,r,a0,(X.is af k v).mpr ((X.is h k v).mp au),aE bO⟩
theorem VE{be dh:Type}{f:be->dh}{l:List be}{m:List dh}(p:m.Perm (l.map f)):∃fT:List be,m=fT.map f/\fT.Perm l:=by
 generalize aL:l.map f=q at p
 induction p generalizing l with
 |nil=>exact⟨l,aL.symm,.refl _⟩
 |cons x p aE=>exact(List.map_eq_cons_iff.mp aL).elim λa q=>q.elim λfT q=>aG (aE q.2.2) λwG e aF=>⟨a::wG,by rw[gm,q.2.1,←e],q.1▸aF.cons a⟩
 |swap x y r=>exact(List.map_eq_cons_iff.mp aL).elim λa q=>q.elim λfT q=>(List.map_eq_cons_iff.mp q.2.2).elim λb eL=>eL.elim λwG eL=>⟨b::a::wG,by rw[gm,gm,q.2.1,eL.2.1,eL.2.2],q.1▸eL.1▸.swap _ _ _⟩
 |trans _ _ pS pT=>exact aG (pT aL) λfT e aF=>aG (pS e.symm) λwG bO d7=>⟨wG,bO,d7.trans aF⟩
noncomputable def Fy(w:World)(led:Bool){K:Type}(toD:K->D)(s:Shared)(a:Addr)(fe:List K)(bT:Shared):Prop:=∃(af:Heap) (dG:List K),Heap.SameBut a s.heap af/\sT w led af a (dG.map toD)/\dG.Perm fe/\bT={s with heap:=af}
theorem Hz{prog:Program}{w:World}{A:Around}{E:Value->Shared->Prop}{b:Bool}{dD:Shared}{Fv:Unit->Shared->Prop}(aL:Fv () dD):wpAny (model prog w) A (match b with|true=>rule "set.scan.the-table-gave-way"|false=>pure ()) Fv E dD:=by
 cases b with
 |true=>exact wpAny_rule aL
 |false=>exact bj aL
theorem F5{K:Type}[DecidableEq K]{knd:PySem.KeyKind prog w K}{toD:K->D}(X:sS knd toD){h af:Heap}{fe:List K}{al fm:List (Int×Value)}(q:fw w h (fe.map toD) al)(p:fm.Perm al):∃dG:List K,fw w af (dG.map toD) fm/\dG.Perm fe:=
 aG (fw.perm p.symm q) λhL aF bO=>aG (VE aF) λdG e aq=>⟨dG,G3 X (e▸bO),aq⟩
theorem W7{K:Type}[DecidableEq K]{knd:PySem.KeyKind prog w K}{toD:K->D}(X:sS knd toD){led:Bool}{A:Around}{E:Value->Shared->Prop}{s:Shared}{a:Addr}{ks:List K}{k:K}{x:Value}{Q:Bool->Shared->Prop}
  (f3:knd.is k x=true) (fQ:sT w led s.heap a (ks.map toD)) (ZX:ks.length+1<scanBound)
  (h:∀af (dG:List K) b,Heap.SameBut a s.heap af->sT w led af a (dG.map toD)->dG.Perm (if k∈ks then ks else ks++[k])->Q b {s with heap:=af}):wpAny (model prog w) A (setAddHashed a x (knd.hash k)) Q E s:=by
 refine hs fQ λal ce t aD tx hf T nH=>?_;clear fQ
 have Iz:=X.zV k x f3
 have cZ:al.size=ks.length:=by have:=tx.len;simpa using this
 have ab:al.size<scanBound:=by lia
 have HU:al.size+1<scanBound:=by lia
 have yC:ElemsOf knd al.toList:=λe a0=>by
  refine eB (tx.mem e a0) λd hd ai ak=>?_
  refine aG (b5.mp hd) λbZ _ bC=>?_;subst bC
  have:=(X.is _ _ _).mp ak
  exact⟨⟨bZ,this,by rw[ai,X.hash]⟩,X.zV bZ _ this⟩
 unfold setAddHashed setAddHashedIn
 refine gJ (aI (wpAny_setState_of aD rfl hf ?_))
 dsimp only
 rw[byScan_of Iz ab yC]
 simp only[↓reduceIte]
 unfold setAddByScan
 refine aI ?_
 refine aI (wpAny_rule ?_)
 refine aI (wpAny_setScan_of f3 aD rfl hf yC ?_)
 cases au:List.findIdx? (λe=>knd.is k e.2) al.toList with
 |some j=>
  dsimp only
  refine aG (List.findIdx?_eq_some_iff_getElem.mp au) λbn RS _=>?_
  have aq:k∈ks:=by
   refine eB (tx.mem _ (List.getElem_mem bn)) λd hd ai ak=>?_
   refine aG (b5.mp hd) λbZ dt bY=>?_;subst bY
   have:=knd.inj _ k bZ RS ((X.is _ _ _).mp ak)
   rw[this];exact dt
  refine bj (bj ?_)
  have e:s={s with heap:=s.heap}:=by cases s;rfl
  rw[e]
  exact h s.heap ks false (Heap.SameBut.refl a s.heap) ⟨al,ce,t,aD,tx,hf,T,nH⟩ (by rw[a3 aq])
 |none=>
  dsimp only
  have aq:k∉ks:=λaq=>by
   refine eB (tx.UA (toD k) (b5.mpr ⟨k,aq,rfl⟩)) λe a0 ai ak=>?_
   have:=List.findIdx?_eq_none_iff.mp au e a0
   rw[(X.is _ _ _).mp ak]at this
   cases this
  have qR:=layNew_perm t al (knd.hash k) x
  have v3:=layNew_fits t al (knd.hash k) x
  have tG:=TZ T al (knd.hash k) x
  have wa:=TY t al (knd.hash k) x
  generalize dQ:layNew t al (knd.hash k) x=L at qR v3 tG wa⊢
  obtain ⟨hj,t1,Y3,ZJ⟩:=L
  dsimp only at qR v3 tG wa⊢
  rw[Array.toList_push]at qR
  have Z0:hj.size=al.size+1:=by rw[←iK,qR.length_eq,dO,iK];rfl
  have HV:hj.size<scanBound:=by lia
  refine aI (Hz ?_)
  have H6:fw w s.heap ((ks++[k]).map toD) (al.toList++[(knd.hash k,x)]):=by
   rw[fv,List.map_singleton,←X.hash]
   exact tx.append ((X.is _ _ _).mpr f3)
  have fin:∀(dj:SetTable),dj.fits hj.size=true->fG dj->dj.led=led->wpAny (model prog w) A (do
    storeSet a hj dj
    if(!Y3&&dj.tooFull)=true then do
      (match(relayAll dj hj (SetTable.grown hj.size)).2.2 with|true=>rule "set.scan.the-table-gave-way"|false=>pure ())
      storeSet a (relayAll dj hj (SetTable.grown hj.size)).1 (relayAll dj hj (SetTable.grown hj.size)).2.1
      pure (some true)
     else pure (some true)) (λr bT=>r=some true/\Fy w led toD s a (ks++[k]) bT) E s:=λdj yE MI qO=>by
   refine aI (wpAny_storeSet_of aD rfl ?_ (fits_of_scanBound HV))
   have l8:=BU aD hj dj
   have Iy:=jK s.heap a (Obj.putSet hj dj)
   split
   ·have aF:=relayAll_perm dj hj (SetTable.grown hj.size)
    have v5:=relayAll_fits dj hj (SetTable.grown hj.size)
    have y2:=WB (t:=dj) (al:=hj) (wanted:=SetTable.grown hj.size)
    generalize ZM:relayAll dj hj (SetTable.grown hj.size)=lU at aF v5 y2⊢
    obtain ⟨vj,t3,ZK⟩:=lU
    dsimp only at aF v5 y2⊢
    have fp:vj.size=hj.size:=by rw[←iK,aF.length_eq,iK]
    have Ca:vj.size<scanBound:=by rw[fp];exact HV
    refine aI (Hz ?_)
    refine aI (wpAny_storeSet_of l8 rfl ?_ (fits_of_scanBound Ca))
    refine aG (F5 (af:=(s.heap.update a (Obj.putSet hj dj)).update a (Obj.putSet vj t3)) X H6 (aF.trans qR)) λdG bO iD=>?_
    exact bj ⟨rfl,_,dG,Iy.trans (jK _ a _),⟨vj,_,t3,BU l8 vj t3,bO,v5,y2.1,y2.2.trans qO⟩,iD,rfl⟩
   ·refine aG (F5 (af:=s.heap.update a (Obj.putSet hj dj)) X H6 qR) λdG bO iD=>?_
    exact bj ⟨rfl,_,dG,Iy,⟨hj,_,dj,l8,bO,yE,MI,qO⟩,iD,rfl⟩
  have done:∀(r:Option Bool) (bT:Shared),(r=some true/\Fy w led toD s a (ks++[k]) bT)->wpAny (model prog w) A (match r with|some added=>pure added|none=>setAddHashedIn a x (knd.hash k) 99999) Q E bT:=by
   intro r bT b3;refine bU b3 λcj cA=>?_;clear b3;subst cj;refine fh cA λaf dG ai ak aV cQ=>?_;clear cA;subst cQ
   exact bj (h af dG true ai ak (by rw[bq aq];exact aV))
  split
  ·refine aI ?_
   rw[hashByValue_scannable 8 Iz]
   refine bj ?_
   refine hW (fin _ ?_ ?_ ?_) (λr bT q=>done r bT q) λ_ _ e=>e
   ·split
    ·exact v3
    ·exact SetTable.fits_plain_off v3
   ·split
    ·exact tG
    ·exact⟨tG.tg,tG.rise⟩
   ·split
    ·exact wa.trans nH
    ·exact wa.trans nH
  ·refine aI (bj ?_)
   simp only[↓reduceIte]
   exact hW (fin _ v3 tG (wa.trans nH)) (λr bT q=>done r bT q) λ_ _ e=>e
end
theorem QP{prog:Program}{w:World}(k:Nat):∀(d:D) (v:Value) {A:Around} {E:Value->Shared->Prop} {s:Shared} {Q:Bool->Shared->Prop},d.cO=true->Rep s.heap [] d v->(∀b,Q b s)->wpAny (model prog w) A (hashByValue k v) Q E s:=by
 induction k with
 |zero=>
  intro d v A E s Q f3 aU h
  cases d with
  |none=>rw[show v=.none from aU];exact bj (h _)
  |int i=>exact a6 aU λt aU=>by subst aU;exact bj (h _)
  |str x=>exact a6 aU λt aU=>by subst aU;exact bj (h _)
  |tup xs=>exact d4 aU λa vs n aU av au=>by subst aU;exact bj (h _)
  |_=>exact hM f3
 |succ k aE=>
  intro d v A E s Q f3 aU h
  cases d with
  |none=>rw[show v=.none from aU];exact bj (h _)
  |int i=>exact a6 aU λt aU=>by subst aU;exact bj (h _)
  |str x=>exact a6 aU λt aU=>by subst aU;exact bj (h _)
  |tup xs=>
   refine d4 aU λa vs n aU av au=>?_
   subst aU
   have d3:s.TypeIs (.ref a) "tuple":=ul av
   have Cr:D.da xs=true:=f3
   unfold hashByValue
   refine aI (wpAny_specialOf d3 F.slot_tuple_hash.lookup ?_)
   show wpAny _ _ (seqItems? (.ref a)>>=_) _ _ s
   refine aI (wpAny_seqItems av rfl ?_)
   refine aI ?_
   show wpAny _ _ (forIn vs.toArray _ _) _ _ s
   rw[←Array.forIn_toList]
   refine wpAny_forIn_list _ (λcX r bT=>r.1=none/\bT=s/\∃left,bt s.heap [] left cX/\∀y∈left,y∈xs) _ ?_ ?_ _ _ ⟨rfl,rfl,xs,by simpa using au,λ_ bc=>bc⟩
   ·intro v cX r bT a2;refine bU a2 λau a9=>?_;clear a2;refine bU a9 λbC bY=>?_;clear a9;subst bC;refine aG bY λleft aw lz=>?_;clear bY
    cases left with
    |nil=>cases (show v::cX=[]from aw)
    |cons y left=>
     refine b2 aw λi5 eG j3 cW dA=>?_;clear aw
     cases j3
     have gQ:y∈xs:=lz y nc
     refine aI (aE y v (nS gQ Cr) cW λb=>?_)
     cases b with
     |true=>
      simp only[Bool.not_true,hV,if_false]
      exact bj ⟨rfl,rfl,left,dA,λz hz=>lz z (nf _ hz)⟩
     |false=>
      simp only[Bool.not_false,if_true]
      exact bj (bj (h _))
   ·intro b3 bT cj;obtain ⟨ir,nW⟩:=b3;refine fV cj λma cA _=>?_;clear cj;subst cA
    have dA:ir=none:=ma
    subst dA
    exact bj (h _)
  |_=>exact hM f3
theorem J4{prog:Program}{w:World}(k:Nat):∀(d:D) (v:Value) {A:Around} {E:Value->Shared->Prop} {s:Shared} {Q:Bool->Shared->Prop},d.depth<=k->d.cO=true->Rep s.heap [] d v->Q false s->wpAny (model prog w) A (ofAClassStatement k v) Q E s:=by
 induction k with
 |zero=>
  intro d v A E s Q jy f3 aU h
  cases d with
  |none=>rw[show v=.none from aU];exact bj h
  |int i=>exact a6 aU λt aU=>by subst aU;exact bj h
  |str x=>exact a6 aU λt aU=>by subst aU;exact bj h
  |tup xs=>exact absurd jy (Nat.not_succ_le_zero _)
  |_=>exact hM f3
 |succ k aE=>
  intro d v A E s Q jy f3 aU h
  cases d with
  |none=>rw[show v=.none from aU];exact bj h
  |int i=>exact a6 aU λt aU=>by subst aU;exact bj h
  |str x=>exact a6 aU λt aU=>by subst aU;exact bj h
  |tup xs=>
   refine d4 aU λa vs n aU av au=>?_
   subst aU
   have d3:s.TypeIs (.ref a) "tuple":=ul av
   have Q2:D.ew xs<=k:=Nat.le_of_succ_le_succ jy
   have Cr:D.da xs=true:=f3
   unfold ofAClassStatement
   refine aI (wpAny_typeOf d3 ?_)
   dsimp only
   rw[a3 ag]
   refine aI (bj ?_)
   simp only[Bool.not_true,hV,if_false]
   refine aI (wpAny_seqItems av rfl ?_)
   refine aI ?_
   show wpAny _ _ (forIn vs.toArray _ _) _ _ s
   rw[←Array.forIn_toList]
   refine wpAny_forIn_list _ (λcX r bT=>r.1=none/\bT=s/\∃left,bt s.heap [] left cX/\∀y∈left,y∈xs) _ ?_ ?_ _ _ ⟨rfl,rfl,xs,by simpa using au,λ_ bc=>bc⟩
   ·intro v cX r bT cQ;refine bU cQ λau db=>?_;clear cQ;refine bU db λd0 eF=>?_;clear db;subst d0;refine aG eF λleft aw lz=>?_;clear eF
    cases left with
    |nil=>cases (show v::cX=[]from aw)
    |cons y left=>
     refine b2 aw λi5 eG j3 cW dA=>?_;clear aw
     cases j3
     have gQ:y∈xs:=lz y nc
     refine aI (aE y v (aO (q0 gQ) Q2) (nS gQ Cr) cW ?_)
     simp only[hV,if_false]
     exact bj ⟨rfl,rfl,left,dA,λz hz=>lz z (nf _ hz)⟩
   ·intro ff bT fg;obtain ⟨ir,nW⟩:=ff;refine fV fg λma fq _=>?_;clear fg;subst fq
    have dA:ir=none:=ma
    subst dA
    exact bj h
  |_=>exact hM f3
theorem SY{M:Model}{A:Around}{be:Type}{c:Prop}[Decidable c]{a b:Sem be}{Q:be->Shared->Prop}{E:Value->Shared->Prop}{s:Shared}(ai:wpAny M A a Q E s)(ak:wpAny M A b Q E s):wpAny M A (if c then a else b) Q E s:=by
 by_cases h:c
 ·rw[a3 h];exact ai
 ·rw[bq h];exact ak
theorem Xa{prog:Program}{w:World}{A:Around}{E:Value->Shared->Prop}{s:Shared}{Q:Bool->Shared->Prop}{d:D}{x:Value}{bB:List Value}(hd:d.depth<=8)(aq:d.cO=true)(au:Rep s.heap [] d x)
  (mb:∀y∈bB,∃e:D,e.depth<=8/\e.cO=true/\Rep s.heap [] e y) (h:Q false s):wpAny (model prog w) A (searchCouldBeSeen x bB) Q E s:=by
 unfold searchCouldBeSeen
 refine aI ?_
 refine wpAny_forIn_list _ (λcX r bT=>r.1=none/\bT=s/\∀y∈cX,y∈bB) _ ?_ ?_ _ _ ⟨rfl,rfl,λ_ bc=>bc⟩
 ·intro y cX r bT g6;refine fV g6 λma i0 lz=>?_;clear g6;subst i0
  refine eB (mb y (lz y (.head _))) λe ai ak aV=>?_
  refine SY (bj ⟨rfl,rfl,λz hz=>lz z (.tail _ hz)⟩) (aI (Ec 8 d _ hd aq au ?_))
  simp only[Bool.not_true,hV,if_false]
  refine aI (Ec 8 e _ ai ak aV ?_)
  simp only[Bool.not_true,hV,if_false]
  refine aI (J4 8 d _ hd aq au ?_)
  simp only[hV,if_false]
  refine aI (J4 8 e _ ai ak aV ?_)
  simp only[hV,if_false]
  exact bj ⟨rfl,rfl,λz hz=>lz z (.tail _ hz)⟩
 ·intro hq bT hR;obtain ⟨ir,nW⟩:=hq;refine fV hR λma i1 _=>?_;clear hR;subst i1
  have dA:ir=none:=ma
  subst dA
  exact bj h
theorem UF{t:SetTable}{j:Nat}(h:j∈t.place.toList):∃i,i<t.place.size/\t.place.getD i 0=j:=
 (List.mem_iff_getElem.mp h).elim λi q=>q.elim λhi e=>⟨i,iK▸hi,(getD_at (iK▸hi) 0).trans e⟩
theorem VH{t:SetTable}{i:Nat}(hi:i<t.place.size):t.place.getD i 0∈t.place.toList:=by
 rw[getD_at hi];exact List.getElem_mem _
noncomputable def Meets(t:SetTable)(hashAt:Nat->Int)(h:Int)(b K f k bZ:Nat):Prop:=k<=bZ/\bZ<=K/\(∀j i,k<=j->j<bZ->i<t.place.size->t.place.getD i 0=(pr b j).1->hashAt i≠h)/\
   ((bZ=K/\SetTable.probe.go t hashAt h f (jD b k)=some (.empty (pr b K).1 none))\/
    (bZ<K/\∃i,i<t.place.size/\t.place.getD i 0=(pr b bZ).1/\hashAt i=h/\SetTable.probe.go t hashAt h f (jD b k)=some (.candidate (pr b bZ).1 i (jD b (bZ+1)))))
theorem fG.inj{t:SetTable}(T:fG t){i pQ:Nat}(hi:i<t.place.size)(dW:pQ<t.place.size)(e:t.place.getD i 0=t.place.getD pQ 0):i=pQ:=(below_at T.rise hi).symm.trans ((bb _ e).trans (below_at T.rise dW))
theorem VQ{t:SetTable}(T:fG t)(aR:t.mask=7){hashAt:Nat->Int}{h:Int}{b K:Nat}(l3:(pr b K).1∉t.place.toList)(cz:∀k,k<K->(pr b k).1∈t.place.toList)(f k:Nat)(aq:k<=K)(hf:K<k+f):
  ∃bZ,Meets t hashAt h b K f k bZ:=by
 induction f generalizing k with
 |zero=>exact absurd hf (Nat.not_lt.mpr aq)
 |succ f aE=>
  have J1:∀j i,k<=j->j<k->i<t.place.size->t.place.getD i 0=(pr b j).1->hashAt i≠h:=λj i ai ak=>absurd ak (Nat.not_lt.mpr ai)
  by_cases e:k=K
  ·refine⟨k,bD _,aq,J1,.inl ⟨e,?_⟩⟩
   have al:t.slot (jD b k).j=.empty:=T.empty (e▸l3)
   unfold SetTable.probe.go
   rw[al,←e]
   rfl
  ·have mO:=uz aq e
   refine aG (UF (cz k mO)) λi hi aF=>?_
   have aZ:t.slot (jD b k).j=.live i:=(bb t.slot aF.symm).trans (T.live hi)
   by_cases cH:hashAt i=h
   ·refine⟨k,bD _,aq,J1,.inr ⟨mO,i,hi,aF,cH,?_⟩⟩
    unfold SetTable.probe.go
    rw[aZ]
    refine(a3 (beq_iff_eq.mpr cH)).trans ?_
    rw[Kq aR]
    rfl
   ·refine(aE (k+1) mO (Nat.lt_of_lt_of_eq hf (lN k 1 f).symm)).elim λbZ q=>⟨bZ,i7 q.1,q.2.1,λj pQ g1 g2 g3 yh=>?_,?_⟩
    ·rcases Nat.lt_or_eq_of_le g1 with r|r
     ·exact q.2.2.1 j pQ r g2 g3 yh
     ·exact(T.inj g3 hi (yh.trans ((bb (λj=>(pr b j).1) r.symm).trans aF.symm)))▸cH
    ·have al:SetTable.probe.go t hashAt h (f+1) (jD b k)=SetTable.probe.go t hashAt h f (jD b (k+1)):=by
      rw[SetTable.probe.go.eq_def]
      dsimp only
      rw[aZ]
      refine(bq (λe=>cH (beq_iff_eq.mp e))).trans ?_
      rw[Kq aR]
     rw[al]
     exact q.2.2.2
noncomputable def lv(al:Array (Int×Value))(i:Nat):Int:=(al[i]?.map (·.1)).getD 0
structure TupAt(w:World)(led:Bool)(h:Heap)(J:List D)(al:Array (Int×Value))(t:SetTable):Prop where
 ents:fw w h J al.toList
 tok:fG t
 mask:t.mask=7
 size:t.place.size=al.size
 led:t.led=led
 path:∀i,i<al.size->∃k,(pr (SetTable.bits (lv al i)) k).1=t.place.getD i 0/\∀bZ,bZ<k->(pr (SetTable.bits (lv al i)) bZ).1∈t.place.toList
theorem fw.at{w:World}{h:Heap}{J:List D}{al:List (Int×Value)}(q:fw w h J al){i:Nat}(hi:i<al.length):∃d,J[i]?=some d/\al[i].1=dz w d/\Rep h [] d al[i].2:=by
 induction J generalizing al i with
 |nil=>exact absurd (Nat.lt_of_lt_of_eq hi (bb List.length (show al=[]from q))) (kG i)
 |cons d J aE=>
  refine b2 q λv r a0 au eL=>?_
  subst a0
  cases i with
  |zero=>exact⟨d,rfl,rfl,au⟩
  |succ i=>exact aE eL (i:=i) (Nat.lt_of_succ_lt_succ hi)
theorem Qq{al:Array (Int×Value)}{i:Nat}(hi:i<al.toList.length):lv al i=al.toList[i].1:=by
 unfold lv
 rw[←kD,gz hi]
 rfl
theorem TupAt.hash{w:World}{led:Bool}{h:Heap}{J:List D}{al:Array (Int×Value)}{t:SetTable}(X:TupAt w led h J al t){i:Nat}{d:D}(hi:i<al.size)(hd:J[i]?=some d):lv al i=dz w d:=
 eB (X.ents.at (iK.symm▸hi)) λjS a2 a9 _=>(Qq (iK.symm▸hi)).trans (a9.trans (bb _ (Option.some.inj (a2.symm.trans hd))))
theorem TupAt.fits{w:World}{led:Bool}{h:Heap}{J:List D}{al:Array (Int×Value)}{t:SetTable}(X:TupAt w led h J al t)(hf:al.size<=5):t.fits al.size=true:=by
 unfold SetTable.fits SetTable.fill
 rw[X.size,X.tok.tg,X.mask]
 simp;lia
section
variable{prog:Program}{w:World}
theorem Xc{led:Bool}{A:Around}{E:Value->Shared->Prop}{s:Shared}{a:Addr}{J:List D}{al:Array (Int×Value)}{ce:Nat}{t:SetTable}{d:D}{x:Value}{R:SetFound->Shared->Prop}{K:Nat}
  (cJ:A.units+8<cLine) (X:TupAt w led s.heap J al t) (aD:s.heap.get? a=some (hB al ce t)) (hf:al.size<=5) (hd:d.depth<=8) (aq:d.cO=true) (au:Rep s.heap [] d x) (ar:∃xs,d=.tup xs) (gP:∀e∈J,e.depth<=8/\e.cO=true/\∃xs,e=.tup xs)
  (l3:(pr (SetTable.bits (dz w d)) K).1∉t.place.toList) (cz:∀k,k<K->(pr (SetTable.bits (dz w d)) k).1∈t.place.toList) (B1:K<21) (ai:d∈J->R (.there none) s) (f k:Nat) (EC:Option SetTable.Probe) (mO:k<=K) (H8:K<k+f) (oH:EC.getD (t.probeStart (dz w d))=jD (SetTable.bits (dz w d)) k)
  (ak:(∀j i,k<=j->j<K->i<al.size->t.place.getD i 0=(pr (SetTable.bits (dz w d)) j).1->J[i]?≠some d)->R (.free (pr (SetTable.bits (dz w d)) K).1 false) s):
   wpAny (model prog w) A (setSearchFrom a x (dz w d) true f EC) R E s:=by
 have j0:=X.fits hf
 have y1:t.sameMemory t.moves t.mask=some true:=by unfold SetTable.sameMemory;rw[a3 (beq_self_eq_true _)]
 have Rf:t.gaveWay=false:=by unfold SetTable.gaveWay;rw[X.mask];rfl
 induction f generalizing k EC with
 |zero=>exact absurd H8 (Nat.not_lt.mpr mO)
 |succ f aE=>
  show wpAny (model prog w) A (setState a>>=_) R E s
  refine aI (wpAny_setState_of aD rfl j0 ?_)
  dsimp only
  rw[Rf,oH]
  simp only[hV,if_false]
  refine iv (VQ X.tok X.mask (hashAt:=lv al) (h:=dz w d) l3 cz (10*SetTable.turns t.mask) k mO (dE B1 (aO (by rw[X.mask];decide) (oX ..)))) λbZ g1 g2 g3 yh=>?_
  have ox:∀j i,k<=j->j<bZ->i<al.size->t.place.getD i 0=(pr (SetTable.bits (dz w d)) j).1->J[i]?≠some d:=λj i aX bg bQ cm gB=>g3 j i aX bg (X.size.symm▸bQ) cm (X.hash bQ gB)
  rcases yh with q|q
  ·have bO:t.probe (lv al) (dz w d) (jD (SetTable.bits (dz w d)) k)=some (.empty (pr (SetTable.bits (dz w d)) K).1 none):=q.2
   refine q9 (show(t.probe (λi=>(al[i]?.map (·.1)).getD 0) (dz w d) (jD (SetTable.bits (dz w d)) k))=_ from bO) ?_
   exact bj (ak (q.1▸ox))
  ·refine bU q λdt q=>iv q λi hi aF cH e=>?_
   have bO:t.probe (lv al) (dz w d) (jD (SetTable.bits (dz w d)) k)=some (.candidate (pr (SetTable.bits (dz w d)) bZ).1 i (jD (SetTable.bits (dz w d)) (bZ+1))):=e
   refine q9 (show(t.probe (λi=>(al[i]?.map (·.1)).getD 0) (dz w d) (jD (SetTable.bits (dz w d)) k))=_ from bO) ?_
   dsimp only
   have dW:i<al.size:=X.size▸hi
   have nF:i<al.toList.length:=iK.symm▸dW
   refine eB (X.ents.at nF) λjS a2 a9 bC=>fV (gP jS (eN a2)) λpF hd2 QY=>?_
   have H5:al[i]?=some (al.toList[i].1,al.toList[i].2):=kD.symm.trans (gz nF)
   refine' (λ(tail:wpAny (model prog w) A _ R E s)=>?g) ?t
   case g=>
    by_cases aw:t.led=true
    ·rw[aw]
     exact tail
    ·rw[Bool.eq_false_iff.mpr aw]
     refine aI (Xa hd aq au (λy bc=>?_) ?_)
     ·refine(b5.mp bc).elim λe a0=>?_
      have r0:e∈al.toList:=Array.mem_toList_iff.mpr (Array.mem_filter.mp (Array.mem_toList_iff.mp a0.1)).1
      exact(X.ents.mem e r0).elim λBg p=>⟨Bg,(gP Bg p.1).1,(gP Bg p.1).2.1,a0.2▸p.2.2⟩
     ·exact tail
   case t=>
    rw[H5]
    dsimp only
    refine aI (gJ (vh hd2 aq (e6 (gH pF _) cJ) bC au prog w _ _ (aI (wpAny_setState_of aD rfl j0 ?_))))
    dsimp only
    by_cases a0:jS=d
    ·rw[dT a0]
     exact bj (ai (a0▸eN a2))
    ·rw[fu a0]
     simp only[Bool.and_false,hV,if_false]
     rw[y1]
     dsimp only
     have CH:t.slot (pr (SetTable.bits (dz w d)) bZ).1=.live i:=(bb t.slot aF.symm).trans (X.tok.live hi)
     simp only[if_true,CH,H5]
     refine QY.elim λri mS=>?_
     rw[mS]at bC
     refine a6 bC λZA bC=>dv bC λus n bc _=>?_
     rw[bc]
     refine aI (wpAny_isSame_ref_self (aI (bj ?_)))
     simp only[if_true]
     refine aE (bZ+1) _ dt (dE H8 (aO (nb g1 (f+1)) (cB (lN bZ f 1)))) rfl λoG=>ak λj pQ S3 S4 C2 C3 C4=>?_
     rcases Nat.lt_trichotomy j bZ with bn|bn|bn
     ·exact ox j pQ S3 bn C2 C3 C4
     ·have:pQ=i:=X.tok.inj (X.size.symm▸C2) hi (C3.trans ((bb (λj=>(pr (SetTable.bits (dz w d)) j).1) bn).trans aF.symm))
      exact a0 (Option.some.inj (a2.symm.trans (this▸C4)))
     ·exact oG j pQ bn S4 C2 C3 C4
end
theorem IJ{be:Type}(xs:Array be)(p:Nat)(x:be)(aF:p<=xs.size)(i:Nat):(SetTable.insertAt xs p x)[i]?=if i<p then xs[i]? else if i=p then some x else xs[i-1]?:=by
 rw[←kD,y7]
 have aw:(xs.toList.take p).length=p:=by simp;lia
 by_cases ai:i<p
 ·rw[a3 ai,mw (by rw[aw];exact ai),List.getElem?_take,a3 ai,kD]
 ·rw[bq ai,List.getElem?_append_right (by rw[aw];lia),aw]
  by_cases ak:i=p
  ·rw[a3 ak,ak,Nat.sub_self];rfl
  ·rw[bq ak]
   obtain ⟨k,aq⟩:∃k,i-p=k+1:=⟨i-p-1,by lia⟩
   rw[aq,List.getElem?_cons_succ,List.getElem?_drop,kD]
   congr 1;lia
theorem IK{be:Type}(xs:Array be)(p:Nat)(x:be):(SetTable.insertAt xs p x).size=xs.size+1:=by
 rw[←iK,y7]
 simp;lia
theorem UC{be:Type}(xs:Array be)(p:Nat)(x y:be):y∈(SetTable.insertAt xs p x).toList↔y=x\/y∈xs.toList:=by
 rw[y7]
 have:y∈xs.toList↔y∈xs.toList.take p\/y∈xs.toList.drop p:=by
  conv=>lhs;rw[←List.take_append_drop p xs.toList]
  exact er
 rw[er,dS,this]
 constructor
 ·rintro (h|h|h)
  ·exact .inr (.inl h)
  ·exact .inl h
  ·exact .inr (.inr h)
 ·rintro (h|h|h)
  ·exact .inr (.inl h)
  ·exact .inl h
  ·exact .inr (.inr h)
section
variable{prog:Program}{w:World}
noncomputable def AC(w:World)(led:Bool)(h:Heap)(a:Addr)(J:List D):Prop:=∃al ce t,h.get? a=some (hB al ce t)/\TupAt w led h J al t
theorem Yu{led:Bool}{A:Around}{E:Value->Shared->Prop}{s:Shared}{a:Addr}{J:List D}{d:D}{x:Value}{Q:Bool->Shared->Prop}
  (cJ:A.units+8<cLine) (S:AC w led s.heap a J) (hd:d.depth<=8) (aq:d.cO=true) (au:Rep s.heap [] d x) (ar:∃xs,d=.tup xs) (gP:∀e∈J,e.depth<=8/\e.cO=true/\∃xs,e=.tup xs)
  (bL:(if d∈J then J else J++[d]).length<=4) (h:∀af hL b,Heap.SameBut a s.heap af->AC w led af a hL->hL.Perm (if d∈J then J else J++[d])->Q b {s with heap:=af}):wpAny (model prog w) A (setAddHashed a x (dz w d)) Q E s:=by
 refine iw S λal ce t aD X=>?_;clear S
 have cZ:al.size=J.length:=by have:=X.ents.len;simpa using this
 have H7:al.size<=4:=by
  split at bL
  ·lia
  ·simp at bL;lia
 have j0:=X.fits (by lia:al.size<=5)
 have Sb:s={s with heap:=s.heap}:=by cases s;rfl
 unfold setAddHashed setAddHashedIn
 refine gJ (aI (wpAny_setState_of aD rfl j0 ?_))
 dsimp only
 have QO:byScan x al=false:=by
  refine a6 ar λxs bY=>?_;clear ar;subst bY
  refine iw au λZz us n b3 _=>?_;clear au;subst b3
  rfl
 rw[QO]
 simp only[hV,if_false]
 refine eB (PS (NT (dz w d)) (P:=t.place) (by rw[X.size];lia)) λK B1 l3 cz=>?_
 unfold setSearch
 refine aI (Xc cJ X aD (by lia) hd aq au ar gP l3 cz B1 (λaR=>?_) 100000 0 none (es _) (by lia) (by rw[Option.getD_none,VO X.mask]) λoG=>?_)
 ·dsimp only
  refine bj ?_
  rw[Sb]
  exact h s.heap J false (Heap.SameBut.refl a s.heap) ⟨al,ce,t,aD,X⟩ (by rw[a3 aR])
 ·have CB:d∉J:=λaR=>by
   refine a6 (List.mem_iff_getElem?.mp aR) λi hi=>?_
   have nF:i<J.length:=(e4.mp hi).1
   have v8:i<al.size:=by lia
   refine aG (X.path i v8) λk mN eQ=>?_
   refine eB (X.ents.at (i:=i) (by simpa using v8)) λjS a2 a9 bC=>?_
   rw[hi]at a2;refine c0 a2 λcj=>?_;clear a2;subst cj
   have cH:lv al i=dz w d:=by
    unfold lv
    rw[←kD,gz (by simpa using v8)]
    exact a9
   rw[cH]at mN eQ
   have gQ:(pr (SetTable.bits (dz w d)) k).1∈t.place.toList:=by rw[mN];exact VH (by rw[X.size];exact v8)
   have mO:k<K:=by
    rcases Nat.lt_trichotomy k K with q|q|q
    ·exact q
    ·subst q;exact absurd gQ l3
    ·exact absurd (eQ K q) l3
   exact oG k i (es _) mO v8 mN.symm hi
  dsimp only
  refine aI (wpAny_setState_of aD rfl j0 ?_)
  dsimp only
  rw[bq CB]at bL h
  have CH:t.slot (pr (SetTable.bits (dz w d)) K).1=.empty:=X.tok.empty l3
  have uO:=X.tok.put CH
  have yV:(t.put (pr (SetTable.bits (dz w d)) K).1).2<=al.size:=by rw[←X.size];exact(uZ X.tok.rise _).1
  have pM:(t.put (pr (SetTable.bits (dz w d)) K).1).1.place=SetTable.insertAt t.place (t.put (pr (SetTable.bits (dz w d)) K).1).2 (pr (SetTable.bits (dz w d)) K).1:=rfl
  have l4:=uO.tg
  have oF:(t.put (pr (SetTable.bits (dz w d)) K).1).1.mask=7:=X.mask
  have v9:(t.put (pr (SetTable.bits (dz w d)) K).1).1.led=led:=X.led
  generalize t.put (pr (SetTable.bits (dz w d)) K).1=pt at uO yV pM l4 oF v9⊢
  obtain ⟨t1,p⟩:=pt
  dsimp only at uO yV pM l4 oF v9⊢
  have key:∀dj:SetTable,dj.place=t1.place->dj.dummies=t1.dummies->dj.mask=7->dj.led=led->wpAny (model prog w) A (do
    storeSet a (SetTable.insertAt al p (dz w d,x)) dj
    if !false&&dj.tooFull then setRelay a (SetTable.grown (al.size+1))
    return true) Q E s:=λdj aS bf cY hh=>by
   have fp:(SetTable.insertAt al p (dz w d,x)).size=al.size+1:=IK _ _ _
   refine aI (wpAny_storeSet_of aD rfl ?_ (by rw[fp,sizeLine_eq];lia))
   have yW:dj.place.size=al.size+1:=by rw[aS,pM,IK,X.size]
   have Rb:dj.fill=al.size+1:=by unfold SetTable.fill;rw[yW,bf,l4];rfl
   have ty:dj.tooFull=false:=by
    unfold SetTable.tooFull
    rw[Rb,cY]
    have:J.length+1<=4:=by simpa using bL
    simp;lia
   rw[ty]
   simp only[Bool.not_false,Bool.and_false,hV,if_false]
   refine aI (bj ?_)
   have qU:=jK s.heap a (Obj.putSet (SetTable.insertAt al p (dz w d,x)) dj)
   have en:=BU aD (SetTable.insertAt al p (dz w d,x)) dj
   have qR:(SetTable.insertAt al p (dz w d,x)).toList.Perm (al.toList++[(dz w d,x)]):=by
    have:=SetTable.insertAt_perm al p (dz w d,x)
    rwa [Array.toList_push]at this
   refine aG (fw.perm qR.symm (X.ents.append au)) λhL d7 bO=>?_
   have ax:Clear (· =a) [] s.heap:=λb ab xs n e=>by subst ab;rw[aD]at e;simp[seqObj,hB]at e
   have ex:e8 (· =a) [] s.heap [] (s.heap.update a (Obj.putSet (SetTable.insertAt al p (dz w d,x)) dj)):=⟨⟨[],by simp⟩,λ_ ab=>.inl ab,λb o e ab=>qU.extBut b o ab e⟩
   refine bj (h _ hL true qU ⟨_,_,dj,en,bO.ext3 (I:=[]) (a4:=[]) ax ex,⟨by rw[bf];exact uO.tg,by rw[aS];exact uO.rise⟩,cY,by rw[yW,fp],hh,λi hi=>?_⟩ d7)
   rw[fp]at hi
   have iS:lv (SetTable.insertAt al p (dz w d,x)) i=if i<p then lv al i else if i=p then dz w d else lv al (i-1):=by
    unfold lv
    rw[IJ _ _ _ yV]
    split
    ·rfl
    ·split<;>rfl
   have wh:dj.place.getD i 0=if i<p then t.place.getD i 0 else if i=p then(pr (SetTable.bits (dz w d)) K).1 else t.place.getD (i-1) 0:=by
    rw[aS,pM,Array.getD_eq_getD_getElem?,IJ _ _ _ (by rw[X.size];exact yV)]
    split
    ·rw[Array.getD_eq_getD_getElem?]
    ·split
     ·rfl
     ·rw[Array.getD_eq_getD_getElem?]
   have gQ:∀j,j∈t.place.toList->j∈dj.place.toList:=λj bn=>by
    rw[aS,pM,UC];exact .inr bn
   rw[iS,wh]
   by_cases a2:i<p
   ·rw[a3 a2,a3 a2]
    refine aG (X.path i (by lia)) λk e5 jA=>?_
    exact⟨k,e5,λbZ dt=>gQ _ (jA bZ dt)⟩
   ·rw[bq a2,bq a2]
    by_cases a9:i=p
    ·rw[a3 a9,a3 a9]
     exact⟨K,rfl,λbZ dt=>gQ _ (cz bZ dt)⟩
    ·rw[bq a9,bq a9]
     refine aG (X.path (i-1) (by lia)) λk e5 jA=>?_
     exact⟨k,e5,λbZ dt=>gQ _ (jA bZ dt)⟩
  split
  ·refine aI (QP 8 d x aq au λb=>?_)
   cases b with
   |true=>exact key _ rfl rfl oF v9
   |false=>exact key _ rfl rfl oF v9
  ·refine aI (bj ?_)
   exact key _ rfl rfl oF v9
end
noncomputable def gL(J:List D)(d:D):List D:=if d∈J then J else J++[d]
def d6(J:List D):List D:=J.foldl gL []
theorem FD(J:List D)(d:D):J.length<=(gL J d).length:=by
 unfold gL;split
 ·exact bD _
 ·simp
theorem Hm:∀(al J:List D),J.length<=(al.foldl gL J).length
 |[],_=>bD _
 |e::al,J=>aO (FD J e) (Hm al _)
theorem MZ{J hL:List D}(p:hL.Perm J)(d:D):(gL hL d).Perm (gL J d):=by
 unfold gL
 by_cases h:d∈J
 ·rw[a3 h,a3 (p.mem_iff.mpr h)];exact p
 ·rw[bq h,bq (λq=>h (p.mem_iff.mp q))];exact p.append_right _
theorem UB{J:List D}{d e:D}:e∈gL J d↔e∈J\/e=d:=by
 unfold gL
 split
 ·rename_i h;constructor
  ·exact .inl
  ·rintro (q|rfl)
   ·exact q
   ·exact h
 ·simp
theorem Dv:∀(al J:List D) (x:D),x∈al.foldl gL J↔x∈J\/x∈al
 |[],J,x=>by simp
 |e::al,J,x=>by
  rw[List.foldl_cons,Dv al,UB,dS,or_assoc]
theorem kU{J:List D}{x:D}:x∈d6 J↔x∈J:=by unfold d6;rw[Dv];simp
theorem JY:∀(al J:List D),J.Nodup->(al.foldl gL J).Nodup
 |[],J,h=>h
 |e::al,J,h=>by
  refine JY al _ ?_
  unfold gL
  split
  ·exact h
  ·rename_i aH
   exact od.mpr ⟨h,by simp,λa aC b ab=>by simp at ab;subst ab;exactλq=>aH (q▸aC)⟩
theorem wS(J:List D):(d6 J).Nodup:=JY J [] .nil
noncomputable def hI(w:World):Bool:=w.params.followText "set-order"
structure xt(prog:Program)(w:World)(o2:D->Prop)(B:Nat)(la:Heap->Addr->List D->Prop):Prop where
 fresh:∀(h:Heap) (a:Addr),h.get? a=some (hB #[] 0 (.fresh 0 0 (!hI w)))->la h a []
 keep:∀(h af:Heap) (a aM:Addr) (J:List D),la h a J->aM≠a->(∀xs n,h.get? aM≠some (seqObj "tuple" xs n))->(∀b o,b≠aM->h.get? b=some o->af.get? b=some o)->la af a J
 q2:∀(h:Heap) (a:Addr) (J:List D),la h a J->∀xs n,h.get? a≠some (seqObj "tuple" xs n)
 small:∀d,o2 d->d.depth<=8/\d.cO=true
 add:∀(A:Around) (E:Value->Shared->Prop) (s:Shared) (a:Addr) (J:List D) (d:D) (x:Value) (Q:Bool->Shared->Prop),A.units+8<cLine->la s.heap a J->o2 d->(∀e∈J,o2 e)->Rep s.heap [] d x->(gL J d).length<=B->
  (∀af hL b,Heap.SameBut a s.heap af->la af a hL->hL.Perm (gL J d)->Q b {s with heap:=af})->wpAny (model prog w) A (setAddHashed a x (dz w d)) Q E s
section
variable{prog:Program}{w:World}
theorem Lm(led:Bool):fG (.fresh 0 0 led):=⟨rfl,.nil⟩
theorem FG{K:Type}[DecidableEq K]{knd:PySem.KeyKind prog w K}{toD:K->D}(X:sS knd toD)(aq:∀k,(toD k).depth<=8)(inj:∀k bZ,toD k=toD bZ->k=bZ):
  xt prog w (λd=>d.cO=true/\∃k,d=toD k) 4000 (λh a J=>∃ks:List K,J=ks.map toD/\sT w (!hI w) h a J) where
 fresh h a aD:=⟨[],rfl,#[],0,_,aD,rfl,rfl,Lm _,rfl⟩
 keep:=λh af a aM J ⟨ks,e,al,ce,t,aD,a0,r⟩ ed _ aq=>by subst e;exact⟨ks,rfl,al,ce,t,aq a _ (Ne.symm ed) aD,G3 X a0,r⟩
 q2:=λh a J ⟨ks,e,al,ce,t,aD,_⟩ xs n q=>by rw[aD]at q;simp[hB,seqObj]at q
 small:=λd ⟨ai,k,e⟩=>⟨by subst e;exact aq k,ai⟩
 add:=λA E s a J d x Q cJ ⟨ks,e,S⟩ ⟨_,k,kO⟩ _ au d2 h=>by
  subst e;subst kO
  have gQ:toD k∈ks.map toD↔k∈ks:=⟨λq=>by refine aG (b5.mp q) λbZ ai ak=>?_;rw[←inj _ _ ak];exact ai,λq=>b5.mpr ⟨k,q,rfl⟩⟩
  have cZ:=FD (ks.map toD) (toD k)
  rw[X.hash]
  refine W7 X ((X.is _ _ _).mp au) S (by rw[bR]at cZ;unfold scanBound;lia) λaf dG b qU dP aF=>h af _ b qU ⟨dG,rfl,dP⟩ ?_
  unfold gL
  by_cases q:k∈ks
  ·rw[a3 q]at aF
   rw[a3 (gQ.mpr q)]
   exact aF.map _
  ·rw[bq q]at aF
   rw[bq (λeL=>q (gQ.mp eL))]
   have:=aF.map toD
   rwa [fv]at this
theorem M0:xt prog w (λd=>d.depth<=8/\d.cO=true/\∃xs,d=.tup xs) 4 (λh a J=>AC w (!hI w) h a J) where
 fresh h a aD:=⟨#[],0,_,aD,rfl,Lm _,rfl,rfl,rfl,λi hi=>absurd hi (kG _)⟩
 keep:=λh af a aM J ⟨al,ce,t,aD,X⟩ ed aH aq=>⟨al,ce,t,aq a _ (Ne.symm ed) aD,
  ⟨X.ents.ext3 (I:=[]) (a4:=[]) (bad:=(· =aM)) (λb ab xs n e=>by subst ab;exact aH _ _ e) ⟨⟨[],by simp⟩,λ_ ab=>.inl ab,λb o e ab=>aq b o ab e⟩,X.tok,X.mask,X.size,X.led,X.path⟩⟩
 q2:=λh a J ⟨al,ce,t,aD,_⟩ xs n q=>by rw[aD]at q;simp[hB,seqObj]at q
 small:=λd ⟨ai,ak,_⟩=>⟨ai,ak⟩
 add:=λA E s a J d x Q cJ S ⟨ai,ak,aV⟩ gP au d2 h=>Yu cJ S ai ak au aV gP d2 h
theorem Yn{J:List D}{i:Nat}{d:D}(h:J[i]?=some d):(J.take (i+1)).foldl gL []=gL ((J.take i).foldl gL []) d:=by
 have hi:=(e4.mp h).1
 have e:=(e4.mp h).2
 rw[List.take_succ_eq_append_getElem hi,List.foldl_append,e];rfl
theorem Xm{o2:D->Prop}{B:Nat}{la:Heap->Addr->List D->Prop}(X:xt prog w o2 B la){A:Around}{R:Result->Shared->Prop}{aM S l:Addr}{items:Array Value}(cH:A.handled=none)(cJ:A.units+12<cLine)(vN:aM≠S)(yN:l≠S)
  (e1:l≠aM) {J:List D} (eE:∀d∈J,o2 d) (d2:(d6 J).length<=B) (cZ:items.size=J.length):
  ∀(k i:Nat) (s:Shared) (cur:List D),items.size-i=k->i<=items.size->(s.heap.IsListIter aM l i/\s.heap.IsList l items)->la s.heap S cur->cur.Perm ((J.take i).foldl gL [])->bt s.heap [] J items.toList->
   (∀af bm xR,(∀b o,b≠S->b≠aM->s.heap.get? b=some o->af.get? b=some o)->la af S xR->xR.Perm (d6 J)->R (.ok (.ret .none)) {s with heap:=af,toks:=bm})->
   codeAny (model prog w) A (.builtin "set.update.loop" ⟨[.ref S,.ref aM],[]⟩) R s:=by
 have W:=(Walks.list (prog:=prog) (w:=w) (A:=A.in1) cH aM l e1 items)
 have DD:∀(h:Heap) (i:Nat),h.IsListIter aM l i->∀xs n,h.get? aM≠some (seqObj "tuple" xs n):=λh i ⟨o,aD,ax,_⟩ xs n e=>by rw[aD]at e;refine c0 e λdb=>?_;clear e;subst db;simp at ax
 intro k
 induction k with
 |zero=>
  intro i s cur aq hi oH fQ aF au a5
  have qM:i=items.size:=by lia
  subst qM
  refine codeAny_builtin F.entry_set_update_loop ?_
  rw[Around.under_plainId F.plain_set_update_loop _]
  show wpAny _ A.in1 (pyNext (.ref aM)>>=_) _ _ s
  refine aI (W.done s _ _ oH λaf bm dt=>?_)
  show wpAny _ A.in1 (ret Value.none) _ _ _
  have eQ:∀b o,b≠aM->s.heap.get? b=some o->af.get? b=some o:=λb o ab e=>dt b o (by simpa using ab) e
  refine bj (a5 af bm cur (λb o _ ab e=>eQ b o ab e) (X.keep _ _ _ _ _ fQ vN (DD _ _ oH.1) eQ) ?_)
  rw[cZ,List.take_length]at aF
  exact aF
 |succ k aE=>
  intro i s cur aq hi oH fQ aF au a5
  have cz:i<items.size:=by lia
  refine codeAny_builtin F.entry_set_update_loop ?_
  rw[Around.under_plainId F.plain_set_update_loop _]
  show wpAny _ A.in1 (pyNext (.ref aM)>>=_) _ _ s
  refine aI (W.item i s _ _ cz oH λv bN aat B2 Se aR=>?_)
  have tA:i<J.length:=by lia
  refine aG (au.get (gz tA)) λi5 j3 b7=>?_
  have Sn:i5=v:=by
   rw[kD]at j3
   exact Option.some.inj (j3.symm.trans B2)
  subst Sn
  have eQ:∀b o,b≠aM->s.heap.get? b=some o->bN.get? b=some o:=λb o ab e=>aR b o (by simpa using ab) e
  have Cc:Clear (· =aM) [] s.heap:=λb ab xs n e=>by subst ab;exact DD _ _ oH.1 _ _ e
  have Hd:e8 (· =aM) [] s.heap [] bN:=⟨⟨[],by simp⟩,λ_ ab=>.inl ab,λb o e ab=>eQ b o ab e⟩
  have vO:=X.keep _ _ _ _ _ fQ vN (DD _ _ oH.1) eQ
  have R9:=bt.ext3 Cc Hd _ _ au
  have KX:=Rep.ext3 Cc Hd _ _ b7
  have H2:=eE _ (List.getElem_mem tA)
  refine bU (X.small _ H2) λig Q3=>?_
  have Ir:(gL cur J[i]).Perm ((J.take (i+1)).foldl gL []):=by
   rw[Yn (gz tA)]
   exact MZ aF _
  show wpAny _ A.in1 (holding [i5] (setAdd S i5)>>=_) _ _ _
  refine aI (gJ ?_)
  unfold setAdd
  refine gJ ?_
  refine aI (HT 8 _ _ ig Q3 (by refine(?_:A.units+1+8<cLine);lia) KX ?_)
  refine X.add A.in1 _ _ S cur _ i5 _ (by refine(?_:A.units+1+8<cLine);lia) vO H2 (λe a0=>?_) KX ?_ λcE xR b qU tt RX=>?_
  ·have ai:e∈(J.take i).foldl gL []:=aF.mem_iff.mp a0
   rw[Dv]at ai
   rcases ai with ai|ai
   ·simp at ai
   ·exact eE e (List.mem_of_mem_take ai)
  ·rw[Ir.length_eq]
   refine aO ?_ d2
   have:d6 J=(J.drop (i+1)).foldl gL ((J.take (i+1)).foldl gL []):=by
    unfold d6;rw[←List.foldl_append,List.take_append_drop]
   rw[this]
   exact Hm _ _
  ·have QR:Clear (· =S) [] bN:=λb ab xs n e=>by subst ab;exact X.q2 _ _ _ vO _ _ e
   have fo:e8 (· =S) [] bN [] cE:=⟨⟨[],by simp⟩,λ_ ab=>.inl ab,λb o e ab=>qU.extBut b o ab e⟩
   refine bj ⟨plainId_quiet F.plain_set_update_loop _,aE (i+1) _ xR (by lia) (by lia) (W.frame _ _ _ Se λb ab o e=>qU.extBut b o ?_ e) tt (RX.trans Ir) (bt.ext3 QR fo _ _ R9) λeT Yq Om Cv tu RY=>?_⟩
   ·simp only[dS,f7,or_false]at ab
    rcases ab with rfl|rfl
    ·exact vN
    ·exact yN
   ·exact a5 eT Yq Om (λb o ab hO e=>Cv b o ab hO (qU.extBut b o ab (eQ b o hO e))) tu RY
theorem Oe(a:Value){A:Around}{E:Value->Shared->Prop}{s:Shared}{Q₁:Value->Shared->Prop}
  (h:Q₁ (.ref s.heap.objs.size) {s with heap:=s.heap.push (hB #[] 0 (.fresh 0 0 (!hI w)))}):
  codeAny (model prog w) A (.call (.builtin "set.__new__") ⟨[.type "set",a],[]⟩) (wants Q₁ E) s:=by
 refine codeAny_of_tree ?_
 show wpAny _ A.in1 (do checkBuiltinCall "set.__new__" ⟨[.type "set",a],[]⟩;again (.builtin "set.__new__" ⟨[.type "set",a],[]⟩)) _ _ s
 refine aI (wpAny_of_eq (F.newCall_set_1 a) (bj ⟨plainId_quiet F.plain_set_new _,codeAny_builtin F.entry_set_new ?_⟩))
 rw[Around.under_plainId F.plain_set_new _]
 unfold Builtin.«set.__new__»Builtin.Frozenset.newClass
 have lz:=sub_set_self
 obtain ⟨aF,g,d,bm,os⟩:=s
 dsimp only
 wp_walk
 refine wpAny_askSetting (bj ?_)
 dsimp only
 simp only[newObj]
 refine aI (wpAny_alloc (bj ?_))
 exact bj h
set_option maxHeartbeats 3200000 in
theorem A1{o2:D->Prop}{B:Nat}{la:Heap->Addr->List D->Prop}(X:xt prog w o2 B la){A:Around}{E:Value->Shared->Prop}{s:Shared}{l:Addr}{items:Array Value}{J:List D}{Q:Value->Shared->Prop}
  (cH:A.handled=none) (cJ:A.units+20<cLine) (aw:s.heap.IsList l items) (au:bt s.heap [] J items.toList) (eE:∀d∈J,o2 d) (d2:(d6 J).length<=B)
  (h:∀(af:Heap) (bm:Nat) (cur:List D),la af s.heap.objs.size cur->cur.Perm (d6 J)->(∀b o,s.heap.get? b=some o->af.get? b=some o)->Q (.ref s.heap.objs.size) {s with heap:=af,toks:=bm}):
  wpAny (model prog w) A (call (.type "set") [.ref l]) Q E s:=by
 refine iH F.called_set.mro λc aau ZW=>?_
 have ZV:=F.called_set.made
 have lz:=F.called_set.sub
 refine wpAny_call (codeAny_of_tree ?_)
 show wpAny _ _ (callAny (.type "set") _) _ _ _
 refine bj ⟨Code.quiet_builtin _ (by decide+kernel),codeAny_builtin F.entry_type_call ?_⟩
 rw[Around.under_plain (weight_type_call_type "set" [.ref l] []) rfl]
 have ai:=F.called_set.notType
 have ak:=F.called_set.canCreate
 have ZP:=F.typeCall_set_1 (.ref l)
 repeat (any_goals (first|assumption|wp_step))
 refine codeAny_mono (Oe (.ref l) (E:=E) (Q₁:=λobj dD=>obj=.ref s.heap.objs.size/\dD={s with heap:=s.heap.push (hB #[] 0 (.fresh 0 0 (!hI w)))}) ⟨rfl,rfl⟩) λr dD yX=>?_
 cases r with
 |error e=>exact yX
 |ok c3=>
  cases c3 with
  |ret obj=>
   refine bU yX λa2 a9=>?_;clear yX;subst a2;subst a9
   have fQ:(s.heap.push (hB #[] 0 (.fresh 0 0 (!hI w)))).get? s.heap.objs.size=some (hB #[] 0 (.fresh 0 0 (!hI w))):=gA _ rfl
   have d3:Shared.TypeIs {s with heap:=s.heap.push (hB #[] 0 (.fresh 0 0 (!hI w)))} (.ref s.heap.objs.size) "set":=⟨_,fQ,rfl⟩
   have ZS:=F.called_set.init.lookup
   have yA:=F.called_set.init.bind (.ref s.heap.objs.size)
   repeat (any_goals (first|assumption|wp_step))
   refine codeAny_mono (codeAny_call_builtin (R:=wants (λr hS=>r=.none/\∃af bm cur,hS={s with heap:=af,toks:=bm}/\la af s.heap.objs.size cur/\cur.Perm (d6 J)/\
     (∀b o,s.heap.get? b=some o->af.get? b=some o)) E) F.called_set.init.plain F.entry_set_init (check_set_init_1 d3 ?_)) λdp hS yY=>?_
   ·refine a6 aw λol bC=>?_;clear aw;refine bU bC λyT bY=>?_;clear bC;refine bU bY λfR b3=>?_;clear bY;refine a6 b3 λnl HZ=>?_;clear b3
    obtain ⟨aak,Vo,aal,Vt⟩:=ol
    simp only at fR HZ
    subst fR;subst HZ
    have RQ:(s.heap.push (hB #[] 0 (.fresh 0 0 (!hI w)))).get? l=some {cls:=.type "list",dict:=Vo,data:=.seq items nl,slots:=Vt}:=fO _ yT
    have ZZ:=F.sub_list_set
    have ZY:=F.sub_list_frozenset
    have e1:(Value.type "list"==Value.type "dict")=false:=by decide
    have qN:(s.heap.push (hB #[] 0 (.fresh 0 0 (!hI w)))).IsList l items:=⟨_,RQ,rfl,nl,rfl⟩
    unfold Builtin.«set.__init__»noKeywords Builtin.Frozenset.updateFrom
    generalize Qy:pyIter=Zv
    wp_walk
    subst Qy
    refine wpAny_pyIter_list qN ?_
    refine aI (wpAny_runValue ?_)
    have yN:l<s.heap.objs.size:=e7 yT
    have RL:l≠(s.heap.push (hB #[] 0 (.fresh 0 0 (!hI w)))).objs.size:=by
     rw[Heap.size_push];exact gy (Nat.lt_succ_of_lt yN)
    have vN:(s.heap.push (hB #[] 0 (.fresh 0 0 (!hI w)))).objs.size≠s.heap.objs.size:=by
     rw[Heap.size_push];exact Nat.ne_of_gt (oc _)
    refine Xm (A:=A.in1.in1) X cH (by refine(?_:A.units+1+1+12<cLine);lia) vN (gy yN) RL eE d2 (by have:=au.length;simpa using this) (items.size-0) 0 _ [] (by lia) (es _)
     ?Sf ?Q9 (.refl _)
     ?R0 λaf bm cur aq kn aF=>?_
    case Sf=>exact⟨⟨_,gA _ rfl,rfl,rfl⟩,(qN.push _)⟩
    case Q9=>exact X.fresh _ _ (fO _ fQ)
    case R0=>exact bt.ext3 (bad:=λ_=>False) (λ_ q=>q.elim) ⟨⟨[],by simp⟩,λ_ ab=>.inl ab,λb o e _=>fO _ (fO _ e)⟩ _ _ au
    refine bj ?_
    show wpAny _ _ (ret Value.none) _ _ _
    refine bj ⟨rfl,af,bm,cur,rfl,kn,aF,λb o e=>?_⟩
    have ab:=e7 e
    have HU:b≠s.heap.objs.size:=gy ab
    have Ca:b≠(s.heap.push (hB #[] 0 (.fresh 0 0 (!hI w)))).objs.size:=by
     rw[Heap.size_push];exact gy (Nat.lt_succ_of_lt ab)
    exact aq b o HU Ca (fO _ (fO _ e))
   ·cases dp with
    |error e=>exact yY
    |ok rQ=>
     cases rQ with
     |ret r=>
      refine bU yY λcj cA=>?_;clear yY;subst cj;refine lI cA λaf bm cur cQ kn aF dt=>?_;clear cA;subst cQ
      repeat (any_goals (first|assumption|wp_step))
      exact h _ _ _ kn aF dt
     |_=>exact yY.elim
  |_=>exact yX.elim
end
theorem OV:entryFor table "set.__iter__"=some Builtin.«frozenset.__iter__»:=
 entryFor_alias (id':="frozenset.__iter__") (by kernel_rfl) rfl (by decide+kernel) (by kernel_rfl)
theorem ug:Slot "set_iterator" "__next__" "set_iterator.__next__":=
 .of (owner:="set_iterator") (n:="__next__") (by rw[typeLookup_type,builtinLookup_eq_fast];kernel_rfl) (by decide+kernel) (by decide+kernel) (by decide+kernel)
  (by first|exact .inl (by decide+kernel)|exact .inr (by decide+kernel)) (by rw[isSubtype_type];kernel_rfl)
theorem G2:entryFor table "set_iterator.__next__"=some Builtin.«set_iterator.__next__»:=entryFor_of_tree (by kernel_rfl)
theorem Vv:Manifest.owners.lookup (String.ofList ['r','o','t','a','r','e','t','i','_','t','e','s'].reverse)=some Manifest.sig_set_iterator:=by kernel_rfl
theorem FN(a:Value):argsOk "set_iterator.__next__" ⟨[a],[]⟩:=by
 unfold argsOk;rw[signature?_of (id:="set_iterator.__next__") (n:=['_','_','t','x','e','n','_','_']) (o:=['r','o','t','a','r','e','t','i','_','t','e','s']) (by kernel_rfl) Vv];kernel_rfl
theorem BB{be:Type}:∀{l:List be} {i:Nat} (h:i<l.length),(l[i]::l.eraseIdx i).Perm l
 |x::r,0,h=>.refl _
 |x::r,i+1,h=>by
  have hi:i<r.length:=by simpa using h
  exact(List.Perm.swap x (r[i]'hi) _).trans ((BB hi).cons x)
theorem Ki{be:Type}(next:Nat->Nat):∀(f k:Nat) (left:List be) (out:Array be),left.length<=f->(pickOrder.go next f k left out).toList.Perm (out.toList++left)
 |0,k,left,out,h=>by
  have:left=[]:=List.length_eq_zero_iff.mp (by lia)
  subst this
  rw[List.append_nil];exact .refl _
 |f+1,k,left,out,h=>by
  cases left with
  |nil=>rw[List.append_nil];exact .refl _
  |cons y r=>
   have cz:next k%(y::r).length<(y::r).length:=Nat.mod_lt _ (by simp)
   have g:pickOrder.go next (f+1) k (y::r) out=match(y::r)[next k%(y::r).length]? with|some x=>pickOrder.go next f (k+1) ((y::r).eraseIdx (next k%(y::r).length)) (out.push x)|none=>out:=rfl
   rw[g,gz cz]
   refine(Ki next f (k+1) _ _ (by rw[List.length_eraseIdx_of_lt cz];simp at h⊢;lia)).trans ?_
   rw[Array.toList_push,List.append_assoc]
   exact(BB cz).append_left _
theorem VF{be:Type}(next:Nat->Nat)(xs:Array be):(pickOrder next xs).toList.Perm xs.toList:=by
 have:=Ki next xs.size 0 xs.toList #[] (by simp)
 rw[List.nil_append]at this
 exact this
section
variable{prog:Program}{w:World}{A:Around}{E:Value->Shared->Prop}{s:Shared}
theorem Y8{src:Source}{n:Nat}{Q:Nat->Shared->Prop}(aH:n≠0)(h:∀i nC,i<n->Q i {s with drawn:=nC}):wpAny (model prog w) A (choose src n) Q E s:=by
 intro qg p pP
 unfold choose
 show Sem.wp _ _ (.choose src n .pure) _ _ _ _
 rw[Sem.wp_choose]
 exact⟨aH,h _ _ (Nat.mod_lt _ (Nat.pos_of_ne_zero aH))⟩
theorem GF{be:Type}:∀(n:Nat) (xs:List be) {s:Shared} {Q:List be->Shared->Prop},xs.length=n->(∀out nC,out.Perm xs->Q out {s with drawn:=nC})->wpAny (model prog w) A (drawOrder n xs) Q E s
 |0,xs,s,Q,aw,h=>by
  have:xs=[]:=List.length_eq_zero_iff.mp aw
  subst this
  exact bj (h [] s.drawn (.refl _))
 |n+1,[],s,Q,aw,h=>by simp at aw
 |n+1,y::r,s,Q,aw,h=>by
  refine aI (Y8 (by simp) λi nC hi=>?_)
  rw[gz hi]
  dsimp only
  refine aI (GF n _ (by rw[List.length_eraseIdx_of_lt hi];simp at aw⊢;lia) λout OE aF=>?_)
  exact bj (h _ OE ((aF.cons _).trans (BB hi)))
noncomputable abbrev xA(h:Heap)(it:Addr)(first:Value)(i:Nat)(a:Addr)(n ce:Nat):Prop:=
 h.get? it=some {cls:=.type "set_iterator",dict:=none,data:=.fields #[first,.int i 0,.ref a,.int n 0,.int ce 0],slots:=#[]}
theorem zX{Q:Bool->Shared->Prop}(h:Q (hI w) s):wpAny (model prog w) A setsByText Q E s:=by
 unfold setsByText
 exact aI (wpAny_askSetting (bj h))
theorem K4{a slot i ce:Nat}{al:Array (Int×Value)}{t:SetTable}{Q:Option (Value×Nat)->Shared->Prop}(aD:s.heap.get? a=some (hB al ce t))(hf:t.fits al.size=true)(ab:hI w=true)
  (h:Q (((pickOrder (w.params.setOrder a ce) al)[i]?).map λe=>(e.2,slot)) s):wpAny (model prog w) A (setNext a slot i ce) Q E s:=by
 unfold setNext
 refine aI (wpAny_setState_of aD rfl hf ?_)
 dsimp only
 refine aI (zX ?_)
 rw[ab]
 simp only[if_true,bne_self_eq_false,hV,if_false]
 refine aI ?_
 unfold setWalk
 refine aI (wpAny_setState_of aD rfl hf ?_)
 dsimp only
 refine aI (zX ?_)
 rw[ab]
 simp only[if_true]
 refine aI (wpAny_askSetting (bj (bj ?_)))
 exact h
theorem K3{a slot i ce:Nat}{al:Array (Int×Value)}{t:SetTable}{Q:Option (Value×Nat)->Shared->Prop}(aD:s.heap.get? a=some (hB al ce t))(hf:t.fits al.size=true)(ab:hI w=false)(T:fG t)(nH:t.led=true)(aF:t.plain=true\/al.size<=1)
  (aZ:SetTable.below t.place slot=i) (h:Q ((al[i]?).map λe=>(e.2,t.place.getD i 0+1)) s):wpAny (model prog w) A (setNext a slot i ce) Q E s:=by
 have fp:t.place.size=al.size:=by
  unfold SetTable.fits at hf
  simp only[Bool.and_eq_true,beq_iff_eq]at hf
  exact hf.1
 unfold setNext
 refine aI (wpAny_setState_of aD rfl hf ?_)
 dsimp only
 refine aI (zX ?_)
 rw[ab]
 simp only[hV,if_false]
 rw[bq (by
  rcases aF with q|q
  ·refine(?_:¬((!t.plain&&decide (al.size>1))=true))
   rw[q];simp
  ·refine(?_:¬((!t.plain&&decide (al.size>1))=true))
   have:decide (al.size>1)=false:=by simp;lia
   rw[this];simp)]
 refine aI ?_
 show wpAny _ _ (if(!t.led&&!al.isEmpty)=true then _ else _) _ _ _
 rw[nH]
 simp only[Bool.not_true,Bool.false_and,hV,if_false]
 refine bj ?_
 rw[aZ]
 cases a0:al[i]? with
 |none=>
  rw[a0]at h
  exact bj h
 |some e=>
  have hi:i<t.place.size:=by
   rw[fp]
   rcases Nat.lt_or_ge i al.size with q|q
   ·exact q
   ·rw[Array.getElem?_eq_none q]at a0;exact bi a0
  have pM:t.place[i]?=some (t.place.getD i 0):=by simp[Array.getD,hi]
  rw[pM]
  rw[a0]at h
  exact bj h
end
noncomputable def sQ(w:World)(a:Addr)(al:Array (Int×Value))(ce:Nat)(t:SetTable)(ol:List (Int×Value))(i:Nat)(first:Value)(h:Heap):Prop:=
 (∃slot:Nat,first=.int slot 0/\hI w=true/\ol=(pickOrder (w.params.setOrder a ce) al).toList)\/
 (∃slot:Nat,first=.int slot 0/\hI w=false/\(t.plain=true\/al.size<=1)/\SetTable.below t.place slot=i/\ol=al.toList)\/
 (∃(qE:Addr) (ord:List Nat),first=.ref qE/\h.get? qE=some (seqObj "tuple" ((ord.map λ(j:Nat)=>rawInt j).toArray) 0)/\(∀j∈ord,j<al.size)/\ol=ord.map λj=>al.getD j (0,.none))
noncomputable def FA(w:World)(it a:Addr)(al:Array (Int×Value))(ce:Nat)(t:SetTable)(ol:List (Int×Value))(J:List D)(h:Heap):Prop:=
 ∃i first,xA h it first i a al.size ce/\h.get? a=some (hB al ce t)/\sQ w a al ce t ol i first h/\bt h [] J ((ol.drop i).map (·.2))/\D.da J=true
section
variable{prog:Program}{w:World}
theorem sQ.keep{a:Addr}{al:Array (Int×Value)}{ce:Nat}{t:SetTable}{ol:List (Int×Value)}{i:Nat}{first:Value}{h af:Heap}(m:sQ w a al ce t ol i first h){b:Addr}(ab:∀xs n,h.get? b≠some (seqObj "tuple" xs n)) (aq:∀c o,c≠b->h.get? c=some o->af.get? c=some o):sQ w a al ce t ol i first af:=by
 rcases m with m|m|⟨qE,ord,ai,ak,aV,bL⟩
 ·exact .inl m
 ·exact .inr (.inl m)
 ·exact .inr (.inr ⟨qE,ord,ai,aq _ _ (λe=>by subst e;exact ab _ _ ak) ak,aV,bL⟩)
theorem Y7{S it a:Addr}{al:Array (Int×Value)}{ce:Nat}{t:SetTable}{ol:List (Int×Value)}{I:a1}(e1:S≠it)(B4:S≠a)(QG:a≠it)(hf:t.fits al.size=true)(T:fG t)(nH:t.led=!hI w)(yT:ol.length=al.size):xC prog w S it I (FA w it a al ce t ol) where
 ne:=e1
 keep:=λJ h af hw aL aq=>by
  refine jh hw λi first ai ak aV bL dx=>iH aL λbz c fQ=>?_
  have we:∀xs n,h.get? S≠some (seqObj "tuple" xs n):=λxs n e=>by rw[fQ]at e;simp[seqObj]at e
  exact⟨i,first,aq it _ (Ne.symm e1) ai,aq a _ (Ne.symm B4) ak,aV.keep we aq,bt.ext3 (bad:=(· =S)) (λb ab xs n e=>by subst ab;exact we _ _ e) ⟨⟨[],rfl⟩,λ_ ab=>.inl ab,λb o e ab=>aq b o ab e⟩ _ _ bL,dx⟩
 q2:=λJ h hw xs n e=>dv hw λi first ai _=>by unfold xA at ai;rw[ai]at e;simp[seqObj]at e
 step:=λx J A E s Q cH hw fQ gc=>by
  refine jh hw λi first ai ak aV bL dx=>?_
  clear hw
  have we:∀xs n,s.heap.get? it≠some (seqObj "tuple" xs n):=λxs n e=>by unfold xA at ai;rw[ai]at e;simp[seqObj]at e
  refine b2 bL λv r aU b7 au=>?_
  have hi:i<ol.length:=Nat.lt_of_not_le λh=>by rw[List.drop_eq_nil_of_le h]at aU;cases aU
  rw[List.drop_eq_getElem_cons hi,gm]at aU
  obtain rfl:=(List.cons.inj aU).1
  obtain rfl:=(List.cons.inj aU).2
  have dx:=oL dx
  clear bL aU
  have d3:s.TypeIs (.ref it) "set_iterator":=⟨_,ai,rfl⟩
  have fin:∀(af:Heap) (jW:Value),xA af it jW (i+1) a al.size ce->Heap.SameBut it s.heap af->sQ w a al ce t ol (i+1) jW s.heap->Q (some ol[i].2) {s with heap:=af}:=λaf jW g1 g2 g3=>by
   have aq:∀b o,b≠it->s.heap.get? b=some o->af.get? b=some o:=λb o ab e=>g2.extBut b o ab e
   have ax:Clear (· =it) [] s.heap:=λb ab xs n e=>by subst ab;exact we _ _ e
   have ex:e8 (· =it) [] s.heap [] af:=⟨⟨[],rfl⟩,λ_ ab=>.inl ab,λb o e ab=>aq b o ab e⟩
   exact gc _ af s.toks ⟨i+1,jW,g1,aq a _ QG ak,g3.keep we aq,bt.ext3 ax ex _ _ au,dx.2⟩ (KJ dx.1 (Rep.ext3 ax ex _ _ b7)) aq
  unfold pyNext
  refine aI (wpAny_attempt (wpAny_callSpecial?_slot (name:=Str.ofString "__next__") d3 ug
   (wpAny_call_entry ug d3 G2 ?_ (FN _))))
  unfold Builtin.«set_iterator.__next__»
  refine aI (bj ?_)
  refine aI (wpAny_fieldsOf ai rfl ?_)
  dsimp only
  refine aI (wpAny_setEntries_of ak rfl hf ?_)
  rw[bq (by simp)]
  rcases aV with m|m|m
  ·refine eB m λslot dq ab aD=>?_
   subst dq
   dsimp only
   refine aI (K4 ak hf ab ?_)
   have e:(pickOrder (w.params.setOrder a ce) al)[i]?=some ol[i]:=by rw[←kD,←aD];exact gz hi
   simp only[Int.toNat_natCast]
   rw[e]
   dsimp only[Option.map_some]
   refine aI (wpAny_setField_rec ai (by simp) λbN g1 s1=>?_)
   refine aI (wpAny_setField_rec (s:={s with heap:=bN}) g1 (by simp) λcE g2 s2=>?_)
   refine bj ⟨_,rfl,bj (fin cE (.int slot 0) ?_ (s1.trans s2) (.inl ⟨slot,rfl,ab,aD⟩))⟩
   exact g2
  ·refine LO m λslot dq ab aF aZ aD=>?_
   subst dq
   dsimp only
   refine aI (K3 (i:=i) ak hf ab T (by rw[nH,ab];rfl) aF (by simpa using aZ) ?_)
   have e:al[i]?=some ol[i]:=by
    have:al.toList[i]?=ol[i]?:=by rw[aD]
    rw[←kD,this];exact gz hi
   rw[e]
   dsimp only[Option.map_some]
   refine aI (wpAny_setField_rec ai (by simp) λbN g1 s1=>?_)
   refine aI (wpAny_setField_rec (s:={s with heap:=bN}) g1 (by simp) λcE g2 s2=>?_)
   have yW:i<t.place.size:=by
    unfold SetTable.fits at hf
    simp only[Bool.and_eq_true,beq_iff_eq]at hf
    rw[hf.1,←yT];exact hi
   refine bj ⟨_,rfl,bj (fin cE (.int ((t.place.getD i 0+1:Nat):Int) 0) ?_ (s1.trans s2) (.inr (.inl ⟨_,rfl,ab,aF,NH T.rise yW,aD⟩)))⟩
   exact g2
  ·refine fh m λqE ord dq tz cz aD=>?_
   subst dq
   dsimp only
   have yH:i<ord.length:=by rw[aD]at hi;simpa using hi
   refine aI (wpAny_seqItems tz rfl ?_)
   have e:((ord.map λ(j:Nat)=>rawInt j).toArray)[((i:Int)).toNat]?=some (rawInt ord[i]):=by
    simp[yH]
   dsimp only
   rw[e]
   dsimp only[rawInt]
   have RP:ord[i]<al.size:=cz _ (List.getElem_mem yH)
   have Q6:al[ord[i]]?=some ol[i]:=by
    have:ol[i]=al.getD ord[i] (0,.none):=by simp[aD]
    rw[this]
    simp[Array.getD,RP]
   refine aI ?_
   unfold setNextDrawn
   refine aI (wpAny_setState_of ak rfl hf ?_)
   simp only[Int.toNat_natCast,bne_self_eq_false,hV,if_false]
   rw[Q6]
   dsimp only
   refine bj ?_
   refine aI (wpAny_setField_rec ai (by simp) λbN g1 s1=>?_)
   refine bj ⟨_,rfl,bj (fin bN (.ref qE) ?_ s1 (.inr (.inr ⟨qE,ord,rfl,tz,cz,aD⟩)))⟩
   exact g1
 done:=λA E s Q cH hw gc=>by
  refine jh hw λi first ai ak aV bL dx=>?_
  clear hw
  have hi:ol.length<=i:=List.drop_eq_nil_iff.mp (List.map_eq_nil_iff.mp bL)
  have d3:s.TypeIs (.ref it) "set_iterator":=⟨_,ai,rfl⟩
  unfold pyNext
  refine aI (wpAny_attempt (wpAny_callSpecial?_slot (name:=Str.ofString "__next__") d3 ug
   (wpAny_call_entry ug d3 G2 ?_ (FN _))))
  unfold Builtin.«set_iterator.__next__»
  refine aI (bj ?_)
  refine aI (wpAny_fieldsOf ai rfl ?_)
  dsimp only
  refine aI (wpAny_setEntries_of ak rfl hf ?_)
  rw[bq (by simp)]
  rcases aV with m|m|m
  ·refine eB m λslot dq ab aD=>?_
   subst dq
   dsimp only
   refine aI (K4 ak hf ab ?_)
   have e:(pickOrder (w.params.setOrder a ce) al)[i]?=none:=by rw[←kD,←aD];exact lM hi
   simp only[Int.toNat_natCast]
   rw[e]
   dsimp only[Option.map_none]
   refine aI (wpAny_setField ai rfl (by simp) ?_)
   show wpAny _ _ (newExc (.type "StopIteration") []>>=_) _ _ _
   refine z4 cH λaf v a0 aU=>aI (wpAny_isInstance (T:="StopIteration") (b:=true) aU isSubtype_stop ?_)
   exact bj (gc af s.toks (λb o ab h=>a0 b o ((jK ..).extBut b o ab h)))
  ·refine LO m λslot dq ab aF aZ aD=>?_
   subst dq
   dsimp only
   refine aI (K3 (i:=i) ak hf ab T (by rw[nH,ab];rfl) aF (by simpa using aZ) ?_)
   have e:al[i]?=none:=Array.getElem?_eq_none (by lia)
   rw[e]
   dsimp only[Option.map_none]
   refine aI (wpAny_setField ai rfl (by simp) ?_)
   show wpAny _ _ (newExc (.type "StopIteration") []>>=_) _ _ _
   refine z4 cH λaf v a0 aU=>aI (wpAny_isInstance (T:="StopIteration") (b:=true) aU isSubtype_stop ?_)
   exact bj (gc af s.toks (λb o ab h=>a0 b o ((jK ..).extBut b o ab h)))
  ·refine fh m λqE ord dq tz cz aD=>?_
   subst dq
   dsimp only
   refine aI (wpAny_seqItems tz rfl ?_)
   have yH:ord.length<=i:=by rw[aD]at hi;simpa using hi
   have e:((ord.map λ(j:Nat)=>rawInt j).toArray)[((i:Int)).toNat]?=none:=by simp[yH]
   dsimp only
   rw[e]
   dsimp only
   refine aI (wpAny_setField_rec ai (by simp) λbN g1 s1=>?_)
   refine aI (wpAny_setField (s:={s with heap:=bN}) g1 rfl (by simp) ?_)
   show wpAny _ _ (newExc (.type "StopIteration") []>>=_) _ _ _
   refine z4 cH λaf v a0 aU=>aI (wpAny_isInstance (T:="StopIteration") (b:=true) aU isSubtype_stop ?_)
   exact bj (gc af s.toks (λb o ab h=>a0 b o ((s1.trans (jK ..)).extBut b o ab h)))
end
section
variable{prog:Program}{w:World}{am:Heap}{n:Nat}{aA:Scope}{K:Frag}
theorem Ri{A:Around}{E:Value->Shared->Prop}{s:Shared}{r:Addr}{Q:Bool->Shared->Prop}(d3:s.TypeIs (.ref r) "set") (h:Q false s):wpAny (model prog w) A (Builtin.List.listLengthHint (.ref r)) Q E s:=by
 unfold Builtin.List.listLengthHint
 refine aI (wpAny_specialOf d3 PySem.F.slot_set_len.lookup ?_)
 generalize tA:("set.__len__":String)=SE
 wp_delta
 rw[show splitId SE=some ("set","__len__")from by subst tA;decide+kernel]
 subst tA
 refine aI (wpAny_isInstance (T:="set") (b:=true) d3 (by rw[isSubtype_type];kernel_rfl) ?_)
 refine wpAny_ite_split (λvP=>absurd vP ag) (λ_=>?_)
 refine wpAny_ite_split (λ_=>?_) (λvP=>absurd (by decide+kernel) vP)
 refine aI (wpAny_typeOf d3 ?_)
 exact bj h
theorem Tf{xs bB:List D}(p:bB.Perm xs)(h:D.da xs=true):D.da bB=true:=by
 have aq:∀l:List D,D.da l=true↔∀x∈l,x.cO=true:=λl=>by
  induction l with
  |nil=>simp[lB,lA]
  |cons x l aE=>simp[lB,lA,aE]
 exact(aq bB).mpr λx ar=>(aq xs).mp h x (p.mem_iff.mp ar)
theorem XZ{a:Addr}{cur:List D}{I:a1}:Src prog w "set" a I cur (λh=>sT w (!hI w) h a cur/\D.da cur=true/\cur.length<=4000) where
 type:=λh q=>bU q λq _=>iw q λal ce t aD _=>⟨_,aD,rfl⟩
 keep:=λh af q aq=>bU q λq dt=>d4 q λal ce t aD a0 r=>⟨⟨al,ce,t,aq _ _ aD,a0.ext3 (I:=[]) (a4:=[]) (bad:=λ_=>False) (λ_ q=>q.elim) ⟨⟨[],by simp⟩,λ_ ab=>.inl ab,λb o e _=>aq b o e⟩,r⟩,dt⟩
 notList:=by decide
 notTuple:=by decide
 hint:=λA E s Q q aL=>bU q λq _=>iw q λal ce t aD _=>Ri ⟨_,aD,rfl⟩ aL
 iter:=λA E s S c Q cH q fQ gc=>by
  refine fV q λq f3 y1=>hs q λal ce t aD a0 hf T nH=>?_
  have d3:s.TypeIs (.ref a) "set":=⟨_,aD,rfl⟩
  have B4:S≠a:=λe=>by subst e;rw[fQ]at aD;simp[seqObj,hB]at aD
  have QA:=e7 fQ
  have B7:=e7 aD
  have fin:∀(af:Heap) (nC:Drawn) (first:Value) (ol:List (Int×Value)),(∀b o,s.heap.get? b=some o->af.get? b=some o)->s.heap.objs.size<=af.objs.size->sQ w a al ce t ol 0 first af->ol.Perm al.toList->
    Q (.ref af.objs.size) {s with heap:=af.push {cls:=.type "set_iterator",dict:=none,data:=.fields #[first,.int 0 0,.ref a,.int al.size 0,.int ce 0],slots:=#[]},drawn:=nC}:=λaf nC first ol aq hz aR aF=>by
   refine aG (fw.perm aF.symm a0) λhL d7 r0=>?_
   have eQ:∀b o,s.heap.get? b=some o->(af.push {cls:=.type "set_iterator",dict:=none,data:=.fields #[first,.int 0 0,.ref a,.int al.size 0,.int ce 0],slots:=#[]}).get? b=some o:=λb o e=>fO _ (aq b o e)
   refine gc af.objs.size hL (FA w af.objs.size a al ce t ol) _ s.toks nC (Y7 (gy (dE QA hz)) B4 (gy (dE B7 hz)) hf T nH (by rw[aF.length_eq];simp)) d7 ?_ eQ hz
   refine⟨0,first,gA _ rfl,eQ _ _ aD,aR.keep (b:=af.objs.size) (λxs n e=>absurd (e7 e) (ji _)) (λc o _ e=>fO _ e),?_,Tf d7 f3⟩
   rw[List.drop_zero]
   exact bt.ext3 (bad:=λ_=>False) (λ_ q=>q.elim) ⟨⟨[],by simp⟩,λ_ ab=>.inl ab,λb o e _=>eQ b o e⟩ _ _ r0.WE
  refine wpAny_pyIter_slot d3 PySem.F.slot_set_iter (wpAny_call_entry PySem.F.slot_set_iter d3 OV ?_ (PySem.F.args_set_iter_1 _))
  unfold Builtin.«frozenset.__iter__»Builtin.Frozenset.slot0 slotArgs
  simp only[List.isEmpty_nil,Bool.not_true,hV,↓reduceIte,bind_assoc,List.length_nil,bne_self_eq_false]
  unfold Builtin.Frozenset.addrOf Builtin.Frozenset.sizeOf
  refine aI (bj ?_)
  try dsimp only
  refine aI (bj ?_)
  refine aI (aI (wpAny_setEntries_of aD rfl hf (bj ?_)))
  unfold setDrawn
  refine aI (aI (wpAny_setState_of aD rfl hf ?_))
  dsimp only
  refine aI (zX (bj ?_))
  show wpAny _ _ (if(!hI w&&(!t.plain&&decide (al.size>1)))=true then _ else _) _ _ s
  by_cases hd:(!hI w&&(!t.plain&&decide (al.size>1)))=true
  ·rw[a3 hd]
   refine aI (GF al.size _ (by simp) λout nC aF=>?_)
   refine aI (wpAny_newTuple ?_ (by
    rw[bR,aF.length_eq,fW]
    have:=a0.len
    rw[iK]at this
    rw[this,sizeLine_eq];lia))
   have tz:(s.heap.push (seqObj "tuple" ((out.map λ(j:Nat)=>rawInt j).toArray) 0)).get? s.heap.objs.size=some (seqObj "tuple" ((out.map λ(j:Nat)=>rawInt j).toArray) 0):=gA _ rfl
   refine aI (wpAny_setEpoch_of (s:={s with heap:=s.heap.push (seqObj "tuple" ((out.map λ(j:Nat)=>rawInt j).toArray) 0),drawn:=nC}) (fO _ aD) rfl hf ?_)
   refine aI (wpAny_newObj_type (bj ⟨_,rfl,"set_iterator",_,⟨_,gA _ rfl,rfl⟩,ug.lookup,?_⟩))
   have:=fin (s.heap.push (seqObj "tuple" ((out.map λ(j:Nat)=>rawInt j).toArray) 0)) nC (.ref s.heap.objs.size) (out.map λj=>al.getD j (0,.none)) (λb o e=>fO _ e) (by rw[size_push'];lia)
    (.inr (.inr ⟨_,out,rfl,tz,λj bn=>ft.mp (aF.mem_iff.mp bn),rfl⟩)) (by
     have ai:=aF.map (λj=>al.getD j (0,.none))
     have ak:(List.range al.size).map (λj=>al.getD j (0,.none))=al.toList:=by
      apply List.ext_getElem
      ·simp
      ·intro i ai ak
       have:i<al.size:=by simpa using ak
       simp[Array.getD,this]
     rwa [ak]at ai)
   simpa [rawInt] using this
  ·rw[bq hd]
   refine aI (bj ?_)
   refine aI (wpAny_setEpoch_of aD rfl hf ?_)
   refine aI (wpAny_newObj_type (bj ⟨_,rfl,"set_iterator",_,⟨_,gA _ rfl,rfl⟩,ug.lookup,?_⟩))
   have:Q (.ref s.heap.objs.size) {s with heap:=s.heap.push {cls:=.type "set_iterator",dict:=none,data:=.fields #[.int (0:Nat) 0,.int 0 0,.ref a,.int al.size 0,.int ce 0],slots:=#[]},drawn:=s.drawn}:=by
    cases ab:hI w with
    |true=>exact fin s.heap s.drawn (.int (0:Nat) 0) _ (λb o e=>e) (bD _) (.inl ⟨0,rfl,ab,rfl⟩) (VF _ _)
    |false=>
     refine fin s.heap s.drawn (.int (0:Nat) 0) _ (λb o e=>e) (bD _) (.inr (.inl ⟨0,rfl,ab,?_,NI T.rise,rfl⟩)) (.refl _)
     rw[ab]at hd
     cases pM:t.plain with
     |true=>exact .inl rfl
     |false=>
      rw[pM]at hd
      right
      simpa using hd
   simpa [rawInt] using this
noncomputable def IM:D->Bool
 |.tup _=>true|_=>false
def lX(xs:List D):Bool:=D.da xs&&decide (D.ew xs<=8)&&((xs.all mc&&decide ((d6 xs).length<=4000))||(xs.all j4&&decide ((d6 xs).length<=4000))||(xs.all IM&&decide ((d6 xs).length<=4)))
def n1(f:aY (D×aa))(m:aK)(C:aa):Option (D×aa):=(f m C).bind λx=>match x.1 with
 |.obj l=>(gu x.2 l).bind λxs=>if(lX xs&&gw (d6 xs))=true then some (.obj x.2.length,x.2++[.list (dN (d6 xs))])else none
 |_=>none
theorem KN{h:Heap}{I:a1}:∀{J:List D} {vs:List Value},D.da J=true->bt h I J vs->bt h [] J vs
 |[],_,_,r=>r
 |d::J,_,aq,⟨v,r,aU,hd,au⟩=>by
  simp only[lB,lA,Bool.and_eq_true]at aq
  exact⟨v,r,aU,w8 aq.1 hd,KN aq.2 au⟩
theorem Xo{A:Around}{E:Value->Shared->Prop}{s:Shared}{l:Addr}{vs:List Value}{k:Nat}{xs:List D}{I:a1}{Q:Value->Shared->Prop}(cH:A.handled=none)(cJ:A.units+20<cLine)(av:s.heap.get? l=some (seqObj "list" vs.toArray k)) (au:bt s.heap I xs vs) (ok:lX xs=true)
  (h:∀(af:Heap) (bm:Nat) (cur:List D),sT w (!hI w) af s.heap.objs.size cur->cur.Perm (d6 xs)->D.da cur=true->cur.length<=4000->(∀b o,s.heap.get? b=some o->af.get? b=some o)->Q (.ref s.heap.objs.size) {s with heap:=af,toks:=bm}):
  wpAny (model prog w) A (call (.type "set") [.ref l]) Q E s:=by
 unfold lX at ok
 simp only[Bool.and_eq_true,Bool.or_eq_true,iL]at ok
 obtain (⟨⟨aq,hd⟩,ok⟩):=ok
 have dA:bt s.heap [] xs vs.toArray.toList:=by simpa using KN aq au
 have aw:s.heap.IsList l vs.toArray:=⟨_,av,rfl,_,rfl⟩
 have yK:∀cur:List D,cur.Perm (d6 xs)->D.da cur=true:=λcur aF=>by
  have fe:∀l:List D,D.da l=true↔∀x∈l,x.cO=true:=λl=>by
   induction l with
   |nil=>simp[lB,lA]
   |cons x l aE=>simp[lB,lA,aE]
  exact(fe cur).mpr λx ar=>(fe xs).mp aq x (kU.mp (aF.mem_iff.mp ar))
 rcases ok with(⟨q,d2⟩|⟨q,d2⟩)|⟨q,d2⟩
 ·refine A1 (FG W8 (λk=>es _) (λk bZ e=>by cases e;rfl)) cH cJ aw dA (λd l4=>⟨nS l4 aq,?_⟩) d2 λaf bm cur ⟨ks,e,S⟩ aF dt=>h af bm cur S aF (yK cur aF) (by rw[aF.length_eq];exact d2) dt
  have:=kF.mp q d l4
  cases d<;>first|exact⟨_,rfl⟩|simp[mc]at this
 ·refine A1 (FG W9 (λk=>es _) (λk bZ e=>by cases e;rfl)) cH cJ aw dA (λd l4=>⟨nS l4 aq,?_⟩) d2 λaf bm cur ⟨ks,e,S⟩ aF dt=>h af bm cur S aF (yK cur aF) (by rw[aF.length_eq];exact d2) dt
  have:=kF.mp q d l4
  cases d<;>first|exact⟨_,rfl⟩|simp[j4]at this
 ·refine A1 M0 cH cJ aw dA (λd l4=>⟨aO (q0 l4) hd,nS l4 aq,?_⟩) d2 λaf bm cur S aF dt=>h af bm cur ?_ aF (yK cur aF) (by rw[aF.length_eq];lia) dt
  ·have:=kF.mp q d l4
   cases d<;>first|exact⟨_,rfl⟩|simp[IM]at this
  ·refine iw S λal ce t aD X=>?_;clear S
   refine⟨al,ce,t,aD,X.ents,X.fits ?_,X.tok,X.led⟩
   have:=X.ents.len
   rw[iK]at this
   rw[this,aF.length_eq];lia
theorem xZ{e:Expr}{p gi pos pos':Pos}{f}(ab:no am "sorted" (.builtin "sorted")) (ar:aA.names.lookup ("sorted":Str)=some .globalImplicit) (hO:no am "set" (.type "set")) (hx:aA.names.lookup ("set":Str)=some .globalImplicit) (a0:cL prog w am n aA e f)
  (aZ:∀ae,starEach [e] ae=(false,eval e ae)::starEach [] ae) (pO:Plain [.Call (.Name "set" gi) [e] [] pos']):cL prog w am n aA (.Call (.Name "sorted" p) [.Call (.Name "set" gi) [e] [] pos'] [] pos) (n1 f):=by
 intro m C d ao hf A ae I s Q E a5 F S P
 refine dw hf ?_;clear hf;intro a aB aC hf
 split at hf
 ·rename_i l aw
  have iT:a=.obj l:=aw
  subst iT
  refine cI hf ?_;clear hf;intro xs mS hf
  refine dB hf ?_;clear hf;intro ok hf
  simp only[Bool.and_eq_true]at ok
  refine ds hf λa9 bC=>?_;clear hf;subst a9;subst bC
  refine wpAny_Call_Name_kw (pk ab F S ar ag ?_)
  refine bU (pO ae) λai ak=>?_
  rw[ai]
  refine Calls.callWith_builtin (by refine(?_:(false||(backTo pos (starEach [] ae)).any (·.1))=false);rw[ak pos];rfl) (Calls.evalArgs_plain ?_)
  refine PySem.Calls.spliced_cons ?_
  refine wpAny_Call_Name_kw (pk hO F S hx ag ?_)
  refine PyProof.Rows.callWith_type1 ?_ (aZ ae) rfl
  rw[aZ ae]
  refine PySem.Calls.spliced_cons ?_
  refine a0 m C _ aB aC A ae I s _ E a5 F S λbJ u c6 b4 cy bE bu cs=>?_
  refine PySem.Calls.spliced_nil ?_
  refine hs (ik bE mS cs) λb vs k a2 _ _ df au=>?_;subst a2
  refine Xo (s:={s with heap:=c6,toks:=b4,drawn:=cy}) a5.1 (by have:=a5.units;lia) df au ok.1 λaf bm cur dP aF f3 cZ aq=>?_
  refine PySem.Calls.spliced_nil ?_
  have bf:∀bad,Ext bad bJ c6 bJ af:=λ_=>Ext.mj aq
  have cb:=bE.same (bf _)
  refine Ld (s:={s with heap:=af,toks:=bm,drawn:=cy}) a5 cb XZ ⟨dP,f3,cZ⟩ (La aF ok.2) λjL v eT jG jI eR fJ mr=>?_
  rw[CZ aF]at eR
  exact P jL v eT jG jI eR ((bu.dc (bf _)).dc fJ) mr
 ·exact bi hf
end
end
section
open PySem PySem.W PyProof.Rows PySem.Calls Builtin Builtin.Str
section
variable{prog:Program}{w:World}{am:Heap}{n:Nat}{aA:Scope}{K:Frag}
noncomputable def EU(a:Addr)(ns:List Int)(j:Nat)(f:aY (D×aa))(m:aK)(C:aa):Option (D×aa):=(f m C).bind λx=>match x.1 with
 |.adr b=>if b=a then some (.obj x.2.length,x.2++[.list ((ns.take j).map .int)])else none
 |_=>none
theorem Ot{a:Addr}{vs:List Value}{ns:List Int}{o:Expr}{j:Nat}{p pos IL f}(dQ:am.IsList a vs.toArray)(ed:IntsAre vs ns)(vJ:ns.length<=63)(ai:cL prog w am n aA o f)
  (ak:cL prog w am n aA IL (a7 (.int (j:Int)))):cL prog w am n aA (.Subscript o (.Slice none (some IL) none p) pos) (EU a ns j f):=by
 intro m C d ao hf A ae I s Q E a5 F S P
 refine dw hf ?_;clear hf;intro b aB aC av
 split at av
 ·rename_i c ax
  have hP:b=.adr c:=ax
  subst hP
  refine dB av ?_;clear av;intro QS av
  subst QS
  refine ds av λa9 bC=>?_;clear av;subst a9;subst bC
  refine Subscript_ (ai m C _ aB aC A ae I s _ E a5 F S λbJ u c6 b4 cy bE bu cs=>?_)
  refine wpAny_Slice ?_
  rw[evalPart_some,evalPart_none]
  refine bj (ak m aB _ _ rfl A ae bJ _ _ E a5 (F.cM S bu) bE λcG v dH cN cU cb b0 dp=>bj ?_)
  refine a6 dp λt a2=>?_;clear dp;subst a2
  have nZ:u=.ref c:=cs
  subst nZ
  have Qu:dH.IsList c vs.toArray:=dQ.at λo e=>cb.keep _ _ e
  have HM:=Qu.push {cls:=.type "slice",data:=.fields #[.none,.int (j:Int) t,.none]}
  have cZ:=ed.length
  have eR:=cb.same (Ext.push {cls:=.type "slice",data:=.fields #[.none,.int (j:Int) t,.none]})
  refine tail_any (s:={s with heap:=dH.push {cls:=.type "slice",data:=.fields #[.none,.int (j:Int) t,.none]},toks:=cN,drawn:=cU}) (Heap.IsList.typeIs HM) slot_list_getitem.lookup (wpAny_getItem_list_slice (s:={s with heap:=dH.push {cls:=.type "slice",data:=.fields #[.none,.int (j:Int) t,.none]},toks:=cN,drawn:=cU}) (lo:=none) (hi:=some (j:Int)) (st:=none) HM (Heap.IsSliceOf.new ..) .none (.int _ _) .none (by simp) ?_ (by rw[hb,cZ,sizeLine_eq];lia)) (ops:=[_,_]) rfl
  rw[slicePick_upto']
  have au:bt (dH.push {cls:=.type "slice",data:=.fields #[.none,.int (j:Int) t,.none]}) cG ((ns.take j).map .int) (vs.take j):=KO (ed.take j)
  exact DT (s:={s with heap:=dH.push {cls:=.type "slice",data:=.fields #[.none,.int (j:Int) t,.none]},toks:=cN,drawn:=cU}) eR au (λjL v eT jG jI eR fJ mr=>P jL v eT jG jI eR (((bu.dc b0).dc (Ext.push _)).dc fJ) mr)
 ·exact bi av
end
end
section
open PySem PySem.W PyProof.Rows PySem.Calls
def eP(k:Nat)(cw:List (Option Nat))(f:aY (ca×aK×aa))(J:List D)(C:aa):Option (D×aa):=
 if J.length=k then(f (mh cw J) C).map λx=>(x.1.val,x.2.2)else none
structure eD(am:Heap)(K:Frag)(sO sI:List (Str×Value)):Prop where
 X:K.In am
 lim:am.NoLimit
 gl:∀x v,sO.lookup x=some v->Ay am x v
 c5:∀x v,sI.lookup x=some v->no am x v
section
variable{prog:Program}{w:World}{am:Heap}{n:Nat}{aA:Scope}{K:Frag}
theorem fc{sO sI}{jV:Addr}{zG:Value}{gh:Option Addr}{DJ:Array (Option Value)}{name qual:Str}{params:Arguments}{body:List Stmt}{scope:Scope}{nA nP doc pm mD ov:Value}{an:Option Addr}{f:aY (ca×aK×aa)}
  (G:eD am K sO sI) (cw:List (Option Nat)) (k:Nat)
  (aq:K.lookup jV=some ⟨zG,gh,.func (fnOf name qual params body scope nA nP doc pm an mD ov),DJ⟩) (qJ:codeIn K mD qual=true)
  (ab:∀vs:List Value,vs.length=k->bindArgs (fnOf name qual params body scope nA nP doc pm an mD ov) ⟨vs,[]⟩=pure ((params.args.map (·.arg)).zip vs))
  (yJ:scope.names.map (λp=>(params.args.map (·.arg)).idxOf? p.1)=cw) (nJ:(params.args.map (·.arg)).length=k) (CE:(params.args.map (·.arg)).Nodup) (mQ:(scope.names.map (·.1)).Nodup)
  (Cs:∀x∈params.args.map (·.arg),scope.names.lookup x=some .local\/scope.names.lookup x=some .cell) (Cj:∀p∈scope.names,p.2≠.free)
  (Ce:scope.isCoroutine=false) (Cm:scope.isGenerator=false) (tB:scope.kind=.function)
  (Cb:oY prog w am n scope body f):dU prog w am (n+1) (.ref jV) (eP k cw f):=
 PU G.X G.lim cw k aq qJ ab yJ nJ CE mQ Cs Cj Ce Cm tB Cb λJ C d ao av=>by
  unfold eP at av
  refine dB av ?_;clear av;intro aw av
  refine Uu av ?_;clear av;intro c3 bh aB hf av
  cases av
  exact⟨aw,c3,bh,hf,rfl⟩
theorem FZ{o:Expr}{name:Str}{ae:Env}{m:Sem Value}(h:(o.ctorIdx==16)=false):attributeBase o name ae m=m:=by
 cases o<;>first|rfl|exact Bool.noConfusion h
theorem v0{be:Type}{P:List be->Prop}(k:P [])(vs:List be)(h:vs.length=0):P vs:=(List.length_eq_zero_iff.mp h).symm▸k
theorem Ai{be:Type}{n:Nat}{P:List be->Prop}(k:∀a vs,vs.length=n->P (a::vs))(vs:List be)(h:vs.length=n+1):P vs:=by
 cases vs with
 |nil=>exact Nat.noConfusion h
 |cons a vs=>exact k a vs (Nat.succ.inj h)
theorem v1{be:Type}{P:List be->Prop}(k:∀a,P [a]):∀vs,vs.length=1->P vs:=Ai λa=>v0 (k a)
theorem v2{be:Type}{P:List be->Prop}(k:∀a b,P [a,b]):∀vs,vs.length=2->P vs:=Ai λa=>v1 (k a)
theorem YH{be:Type}{vs:List be}(h:vs.length=2):∃a b,vs=[a,b]:=v2 (P:=λvs=>∃a b,vs=[a,b]) (λa b=>⟨a,b,rfl⟩) vs h
theorem n6{be:Type}{P:List be->Prop}(k:∀a b c,P [a,b,c]):∀vs,vs.length=3->P vs:=Ai λa=>v2 (k a)
theorem v4{be:Type}{P:List be->Prop}(k:∀a b c d,P [a,b,c,d]):∀vs,vs.length=4->P vs:=Ai λa=>n6 (k a)
theorem dY{o:Expr}{name:Str}{pos:Pos}(h:(o.ctorIdx==16)=false)(ae:Env):eval (.Attribute o name pos) ae=(do
    let v←eval o ae
    standAt pos.atName
    let r←holding [v] (getAttr v name true)
    letTemporaryGo o v r
    pure r):=by
 have e:eval (.Attribute o name pos) ae=(do
    let v←attributeBase o name ae (eval o ae)
    standAt pos.atName
    let r←holding [v] (getAttr v name true)
    letTemporaryGo o v r
    pure r):=rfl
 rw[e,FZ h]
theorem JA{o:Expr}{name:Str}{apos pos:Pos}{args:List Expr}(h:∀name ae m,attributeBase o name ae m=m)(aw:(apos.endLine==pos.line)=true)(hf:∀ae,methodCallForm args.length (backTo pos (starEach args ae)) []=true)(ae:Env):eval (.Call (.Attribute o name apos) args [] pos) ae=(do
   let kv←eval o ae
   standAt apos.atName
   let(f,first)←holding [kv] (getMethod kv name (do return (←importBound o ae).getD true))
   callWith pos f first (backTo pos (starEach args ae)) []):=by
 have e:eval (.Call (.Attribute o name apos) args [] pos) ae=(do
   let kv←attributeBase o name ae (eval o ae)
   standAt apos.atName
   methodCall o name apos pos ae kv args.length (backTo pos (starEach args ae)) []):=rfl
 rw[e,h]
 have CF:methodCallPos true o ae apos pos=pure pos:=by unfold methodCallPos;simp[aw]
 unfold methodCall calleeOf
 rw[hf ae,CF]
 simp only[if_true,pure_bind]
theorem di{o:Expr}{name:Str}{apos pos:Pos}{args:List Expr}(h:(o.ctorIdx==16)=false)(aw:(apos.endLine==pos.line)=true)(hf:∀ae,methodCallForm args.length (backTo pos (starEach args ae)) []=true:=by exactλ_=>rfl)(ae:Env):eval (.Call (.Attribute o name apos) args [] pos) ae=(do
   let kv←eval o ae
   standAt apos.atName
   let(f,first)←holding [kv] (getMethod kv name (do return (←importBound o ae).getD true))
   callWith pos f first (backTo pos (starEach args ae)) []):=JA (λ_ _ _=>FZ h) aw hf ae
theorem g0{e:Expr}{pos:Pos}(aq:aA.kind=.function)(aZ:∀ae,swapsWith e none pos.line ae=pure false:=by exactλ_=>rfl)(ae:Env)(h:ae.scope=aA):exec (.Expr e pos) ae=(do standAt pos;let v←eval e ae;dropValue e pos v):=
 exec_Expr ae e pos (by unfold interactive;rw[h,aq];rfl) (aZ ae)
theorem dJ{t value:Expr}{pos:Pos}(ae:Env)(ai:swapsWith value (some t) pos.line ae=pure false)(ak:swappedStores [t] value ae=pure none)(aV:(assignEach [t] ae).map (·.2)=[assign t ae]):
  exec (.Assign [t] value pos) ae=(do standAt pos;let v←eval value ae;assign t ae v;pure .next):=by
 rw[exec_Assign_arm]
 rw[show swapsWithSole [t] value pos.line ae=pure false from ai,ak,aV]
 simp only[pure_bind,hV,if_false]
 rfl
theorem Gs{b:Stmt}:lQ prog w am n aA b (λ_ _=>none):=λ_ _ _ _ _ h=>bi h
theorem vr{jY:Value}:dU prog w am n jY (λ_ _=>none):=λ_ _ _ _ h=>bi h
end
section
variable{prog:Program}{w:World}{am:Heap}{n:Nat}{aA:Scope}{K:Frag}
theorem Op{x y:Str}{DU py EN:Pos}{k i j:Nat}{value:Expr}{pos:Pos}{f}(aU:cL prog w am n aA value f)(hi:aA.names[i]?=some (x,.local))(bn:aA.names[j]?=some (y,.local))(e0:i≠j)
  (ai:∀ae:Env,ae.scope=aA->swapsWithSole [.Tuple [.Name x DU,.Name y py] k EN] value pos.line ae=pure false)
  (ak:∀ae:Env,ae.scope=aA->swappedStores [.Tuple [.Name x DU,.Name y py] k EN] value ae=pure (some [x,y])):
  lQ prog w am n aA (.Assign [.Tuple [.Name x DU,.Name y py] k EN] value pos) (cS f (gv [i,j])):=by
 intro m C c3 bh ao hf A ae I s Q E a5 F S P
 refine dw hf ?_;clear hf;intro d aB hd hf
 refine lG hf ?_;clear hf;intro im a8 aC hf
 cases hf
 refine cI aC ?_;clear aC;intro J gP aC
 refine dB aC ?_;clear aC;intro aw aC
 refine ds aC λcA cQ=>?_;clear aC;subst cA;subst cQ
 refine iH (YH aw) λiQ nz db=>?_;clear aw;subst db
 rw[exec_Assign_arm,ai ae F.scope,ak ae F.scope]
 simp only[pure_bind,hV,if_false]
 refine aI (wpAny_standAt (aI (aU m C d aB hd A ae I s _ E a5 F S λbJ v bN b4 cy bE bu cs=>?_)))
 show wpAny _ A (do rule "assign.swapped-stores";let items←unpackItems v 2 none;assignInOrder (([x,y]:List Str).reverse.map λn=>bindName ae n) items.reverse;pure Flow.next) Q E _
 refine aI (wpAny_rule (aI (ER (s:={s with heap:=bN,toks:=b4,drawn:=cy}) gP a5 bE cs λvs cE cb b0 dp=>?_)))
 refine a6 dp λv1 a2=>?_;clear dp;refine a6 a2 λ_ a9=>?_;clear a2;refine bU a9 λbC bY=>?_;clear a9;subst bC;refine bU bY λWQ b3=>?_;clear bY;refine b2 b3 λv2 _ cj WS aH=>?_;clear b3;subst cj
 have ey:_=[]:=aH
 subst ey
 refine aI ?_
 show wpAny _ A (do holding [v1] (bindName ae y v2);holding [] (bindName ae x v1);pure ()) _ E _
 have hc:=(F.cM S bu).cM bE b0
 refine aI (gJ (wpAny_bindName (sA (s:={s with heap:=cE,toks:=b4,drawn:=cy}) bn (.inl rfl) hc cb WS λeT jG jI eR fJ nk=>?_)))
 have O8:hE ae bJ cE bJ eT:=fJ.weaken λb ab=>.inr ab.own
 have WR:Rep eT bJ iQ v1:=by
  refine Rep.ext (λa aC=>?_) fJ iQ v1 WQ
  unfold jq at aC;rw[a3 rfl]at aC
  refine aG hc.loc λfU aH _=>?_
  exact ps (I:=bJ) aH a aC
 refine aI (gJ (wpAny_bindName (sA (s:={s with heap:=eT,toks:=jG,drawn:=jI}) hi (.inl rfl) nk eR WR λjz n4 n9 lb jU kJ=>?_)))
 refine bj (bj ?_)
 have O9:hE ae bJ eT bJ jz:=jU.weaken λb ab=>.inr ab.own
 refine P bJ .next jz n4 n9 lb (((hE.of0 (bu.dc b0)).trans O8).trans O9) ?_ rfl
 refine(?_:de am aA ae ((m.set i (some iQ)).set j (some nz)) bJ jz)
 rw[List.set_comm _ _ e0]
 exact kJ
theorem HF{l:List (Str×Value)}{x:Str}{v:Value}:l.lookup x=some v->(x,v)∈l:=by
 induction l with
 |nil=>intro h;exact bi h
 |cons p l aE=>
  intro h
  rw[gV]at h
  cases ab:x==p.1 with
  |true=>
   rw[ab]at h;refine c0 h λd0=>?_;clear h;subst d0
   have:x=p.1:=by simpa using ab
   subst this;exact .head _
  |false=>rw[ab]at h;exact .tail _ (aE h)
theorem Qf{sO sI:List (Str×Value)}{p:Program}{loose:List Str}{Du:ExcName->Option Value}{kt pZ:Str->Option Value}(X:K.In am)(T:Top p loose Du kt pZ am)
  (ai:∀q∈sO,nsIn K mainGlobals q.1=some (some q.2)) (ak:∀q∈sI,nsIn K mainGlobals q.1=some none/\bootBuiltins q.1=some q.2/\q.1≠"__name__"):eD am K sO sI:=
 ⟨X,T.nolimit,λx v h=>⟨kt,T.g,mg_of X T.g (ai _ (HF h))⟩,λx v h=>let q:=ak _ (HF h);⟨kt,pZ,T.g,mg_none_of X T.g q.1,T.b,(T.builtins x q.2.2).trans q.2.1⟩⟩
end
end
section
open PySem PySem.W
structure bF where
 op:Str
 kids:List Nat
 deriving DecidableEq
inductive gq(U:List bF)(told:List (Nat×Nat)):Nat->Nat->Prop
 |told {a b:Nat}:(a,b)∈told->gq U told a b
 |refl (a:Nat):gq U told a a
 |symm {a b:Nat}:gq U told a b->gq U told b a
 |trans {a b c:Nat}:gq U told a b->gq U told b c->gq U told a c
 |rE {a b:Nat} {x y:bF}:U[a]?=some x->U[b]?=some y->x.op=y.op->x.kids.length=y.kids.length->(∀(i k l:Nat),x.kids[i]?=some k->y.kids[i]?=some l->gq U told k l)->gq U told a b
structure np(U:List bF)(told:List (Nat×Nat))(f:Nat->Nat):Prop where
 le:∀i,f i<=i
 mem:∀i,gq U told i (f i)
 iff:∀i j,i<U.length->j<U.length->gq U told i j->f i=f j
theorem gq.mono{U:List bF}{told iF:List (Nat×Nat)}(h:∀p∈told,p∈iF){a b:Nat}(c:gq U told a b):gq U iF a b:=by
 induction c with
 |told aR=>exact .told (h _ aR)
 |refl a=>exact .refl a
 |symm _ aE=>exact .symm aE
 |trans _ _ pS pT=>exact .trans pS pT
 |rE ai ak aV bL _ aE=>exact .rE ai ak aV bL aE
theorem np.uniq{U:List bF}{told:List (Nat×Nat)}{f g:Nat->Nat}(F:np U told f)(G:np U told g){i:Nat}(hi:i<U.length):f i=g i:=by
 haveI ai:f i<=g i:=by
  haveI:f i=f (g i):=F.iff i (g i) hi (e6 (G.le i) hi) (G.mem i)
  rw[this];exact F.le _
 haveI ak:g i<=f i:=by
  haveI:g i=g (f i):=G.iff i (f i) hi (e6 (F.le i) hi) (F.mem i)
  rw[this];exact G.le _
 lia
theorem np.Gc{U:List bF}{told:List (Nat×Nat)}{f:Nat->Nat}(F:np U told f){i j:Nat}(h:f i=f j):gq U told i j:=(F.mem i).trans (h▸(F.mem j).symm)
theorem Gd{U:List bF}{told:List (Nat×Nat)}{f:Nat->Nat}(bK:∀p∈told,f p.1=f p.2)
  (ax:∀a b x y,U[a]?=some x->U[b]?=some y->x.op=y.op->x.kids.map f=y.kids.map f->f a=f b) {a b:Nat} (c:gq U told a b):f a=f b:=by
 induction c with
 |told aR=>exact bK _ aR
 |refl a=>rfl
 |symm _ aE=>exact aE.symm
 |trans _ _ pS pT=>exact pS.trans pT
 |rE ai ak aV bL _ aE=>
  refine ax _ _ _ _ ai ak aV ?_
  apply List.ext_getElem
  ·simp[bL]
  ·intro i a2 a9
   simp only[bR]at a2 a9
   simp only[List.getElem_map]
   exact aE i _ _ (gz a2) (gz a9)
noncomputable def iX{be:Type}[DecidableEq be]:List (be×be)->be->be
 |[],x=>x
 |(a,b)::l,x=>if iX l x=iX l b then iX l a else iX l x
theorem JC{be:Type}[DecidableEq be]:∀{l:List (be×be)} {a b:be},(a,b)∈l->iX l a=iX l b
 |(c,d)::l,a,b,h=>by
  rcases dS.mp h with e|h
  ·cases e
   simp only[iX]
   split<;>simp
  ·simp only[iX,JC h]
theorem JB{be:Type}[DecidableEq be](xs:List be)(aH:xs.Nodup):∀(l:List (be×be)),∃bB:List be,bB.Nodup/\(∀y∈bB,∃x∈xs,iX l x=y)/\xs.length<=bB.length+l.length
 |[]=>⟨xs,aH,λy bc=>⟨y,bc,rfl⟩,by simp⟩
 |(a,b)::l=>by
  refine eB (JB xs aH l) λbB ai ak aV=>?_
  refine⟨bB.filter (λy=>decide (y≠iX l b)),ai.filter _,λy bc=>?_,?_⟩
  ·refine bU (jj.mp bc) λSx wo=>?_
   refine aG (ak y Sx) λx ar bC=>?_;subst bC
   refine⟨x,ar,?_⟩
   simp only[iX]
   rw[bq (by simpa using wo)]
  ·haveI:bB.length<=(bB.filter (λy=>decide (y≠iX l b))).length+1:=by
    clear ak aV
    induction bB with
    |nil=>simp
    |cons y bB aE=>
     rw[kH]at ai
     rw[List.filter_cons]
     by_cases bc:y=iX l b
     ·haveI pD:bB.filter (λy=>decide (y≠iX l b))=bB:=by
       rw[List.filter_eq_self]
       intro z hz
       simp only[ne_eq,decide_not,Bool.not_eq_eq_eq_not,Bool.not_true,decide_eq_false_iff_not]
       rintro rfl
       exact ai.1 (bc▸hz)
      rw[bq (by simp[bc]),pD]
      simp
     ·rw[a3 (by simp[bc])]
      haveI:=aE ai.2
      simp only[fX]
      lia
   simp only[fX]
   lia
theorem PM{be:Type}[DecidableEq be]{l:List (be×be)}{xs:List be}(aH:xs.Nodup)(h:∀x∈xs,∀y∈xs,iX l x=iX l y):xs.length<=l.length+1:=by
 refine eB (JB xs aH l) λbB ai ak aV=>?_
 haveI:bB.length<=1:=by
  match bB,ai,ak with
  |[],_,_=>simp
  |[_],_,_=>simp
  |y::z::r,ai,ak=>
   refine aG (ak y (.head _)) λx ar bY=>?_;subst bY
   refine aG (ak z (.tail _ (.head _))) λke hx b3=>?_;subst b3
   rw[kH]at ai
   exact absurd (h x ar ke hx) λe=>ai.1 (by rw[e];exact .head _)
 lia
noncomputable def canon(f:Nat->Nat)(x:bF):bF:=⟨x.op,x.kids.map f⟩
theorem PW{U:List bF}{told:List (Nat×Nat)}{f:Nat->Nat}(F:np U told f)(bK:∀p∈told,p.1<U.length/\p.2<U.length)(aq:∀x∈U,∀k∈x.kids,k<U.length)
  {c:Nat} {xs:List bF} (aH:xs.Nodup) (h:∀x∈xs,∃i y,U[i]?=some y/\f i=c/\canon f y=x):xs.length<=told.length+1:=by
 let g:Nat->bF:=λi=>match U[i]? with|some y=>canon f y|none=>⟨Str.empty,[i]⟩
 haveI aw:∀a b,gq U told a b->iX (told.map λp=>(g p.1,g p.2)) (g a)=iX (told.map λp=>(g p.1,g p.2)) (g b):=by
  intro a b c
  induction c with
  |told aR=>exact JC (b5.mpr ⟨_,aR,rfl⟩)
  |refl a=>rfl
  |symm _ aE=>exact aE.symm
  |trans _ _ pS pT=>exact pS.trans pT
  |@rE a b x y ai ak aV bL vV aE=>
   haveI e:canon f x=canon f y:=by
    unfold canon
    rw[aV]
    congr 1
    apply List.ext_getElem
    ·simp[bL]
    ·intro i a2 a9
     simp only[bR]at a2 a9
     simp only[List.getElem_map]
     exact F.iff _ _ (aq x (eN ai) _ (List.getElem_mem _)) (aq y (eN ak) _ (List.getElem_mem _)) (vV i _ _ (gz a2) (gz a9))
   show iX _ (g a)=iX _ (g b)
   haveI ga:g a=canon f x:=by show(match U[a]? with|some y=>_|none=>_)=_;rw[ai]
   haveI BO:g b=canon f y:=by show(match U[b]? with|some y=>_|none=>_)=_;rw[ak]
   rw[ga,BO,e]
 haveI:=PM (l:=told.map λp=>(g p.1,g p.2)) aH λx ar y bc=>by
  refine b2 (h x ar) λi u ai ak cj=>?_;subst cj
  refine b2 (h y bc) λj v a2 a9 cA=>?_;subst cA
  haveI ga:g i=canon f u:=by show(match U[i]? with|some y=>_|none=>_)=_;rw[ai]
  haveI BO:g j=canon f v:=by show(match U[j]? with|some y=>_|none=>_)=_;rw[a2]
  rw[←ga,←BO]
  exact aw i j (F.Gc (ak.trans a9.symm))
 simpa using this
inductive br where
 |var (x:Str)
 |op (o:Str) (ks:List br)
 deriving Inhabited
mutual
noncomputable def ev(cf:Str->List Nat->Option Nat)(s:Str->Nat):br->Option Nat
 |.var x=>some (s x)
 |.op o ks=>(jT cf s ks).bind (cf o)
noncomputable def jT(cf:Str->List Nat->Option Nat)(s:Str->Nat):List br->Option (List Nat)
 |[]=>some []
 |k::ks=>(ev cf s k).bind λc=>(jT cf s ks).map (c:: ·)
end
mutual
noncomputable def br.size:br->Nat
 |.var _=>1
 |.op _ ks=>1+br.m8 ks
noncomputable def br.m8:List br->Nat
 |[]=>0
 |k::ks=>k.size+br.m8 ks
end
mutual
noncomputable def br.vars:br->List Str
 |.var x=>[x]
 |.op _ ks=>br.kA ks
noncomputable def br.kA:List br->List Str
 |[]=>[]
 |k::ks=>k.vars++br.kA ks
end
theorem x8{cf:Str->List Nat->Option Nat}{s:Str->Nat}{ks:List br}{bk:List Nat}:jT cf s ks=some bk↔ks.length=bk.length/\∀(i:Nat) k,ks[i]?=some k->ev cf s k=some (bk.getD i 0):=by
 induction ks generalizing bk with
 |nil=>exact⟨λh=>Option.some.inj h▸⟨rfl,λ_ _=>nofun⟩,λh=>bb some (List.length_eq_zero_iff.mp h.1.symm).symm⟩
 |cons k ks aE=>
  constructor
  ·refineλh=>cI (o:=ev cf s k) h λc ax h=>fC h λGn ie e=>?_
   subst e
   refine⟨bb (· +1) (aE.mp ie).1,λi bZ aq=>?_⟩
   cases i with
   |zero=>exact Option.some.inj aq▸ax
   |succ i=>exact(aE.mp ie).2 i bZ aq
  ·intro h
   cases bk with
   |nil=>exact nomatch h.1
   |cons c bk=>
    show(ev cf s k).bind _=_
    rw[h.2 0 k rfl]
    exact(bb (Option.map (c:: ·)) (aE.mpr ⟨Nat.succ.inj h.1,λi bZ aq=>h.2 (i+1) bZ aq⟩))
inductive Row where
 |bind (pl:Nat) (o:Str) (many first:Nat)
 |same (a b:Nat)
 |yield (c7:List (Str×Nat))
noncomputable abbrev Key:=Nat×List (Str×Nat)
noncomputable def keyOf(c7:List (Str×Nat))(bo:List Nat):Key:=(bo.getD 0 0,c7.map λp=>(p.1,bo.getD p.2 0))
noncomputable def outs(ho:Nat->List bF):List Row->List Nat->List Key
 |[],_=>[]
 |.yield c7::_,bo=>[keyOf c7 bo]
 |.same a b::r,bo=>if bo.getD a 0=bo.getD b 0 then outs ho r bo else []
 |.bind pl o many first::r,bo=>((ho (bo.getD pl 0)).filter λx=>decide (x.op=o/\x.kids.length=many)).flatMap λx=>outs ho r (bo.take first++x.kids)
variable(eW:List (Str×Nat)->List (Str×Nat))
noncomputable def gen:Nat->List (Str×Nat)->List (Nat×br)->Nat->List Row
 |_,places,[],_=>[.yield (eW places)]
 |0,_,_::_,_=>[]
 |n+1,places,(pl,.var x)::W,first=>match places.lookup x with
  |none=>gen n (places++[(x,pl)]) W first
  |some q=>.same pl q::gen n places W first
 |n+1,places,(pl,.op o ks)::W,first=>.bind pl o ks.length first::gen n places (W++ks.zipIdx.map λp=>(first+p.2,p.1)) (first+ks.length)
noncomputable def fin:Nat->List (Str×Nat)->List (Nat×br)->Nat->List (Str×Nat)
 |_,places,[],_=>places
 |0,places,_::_,_=>places
 |n+1,places,(pl,.var x)::W,first=>match places.lookup x with
  |none=>fin n (places++[(x,pl)]) W first
  |some q=>fin n places W first
 |n+1,places,(pl,.op o ks)::W,first=>fin n places (W++ks.zipIdx.map λp=>(first+p.2,p.1)) (first+ks.length)
def eM(W:List (Nat×br)):Nat:=(W.map λp=>p.2.size).sum
theorem Xx(ks:List br):br.m8 ks=(ks.map br.size).sum:=by
 induction ks with
 |nil=>rfl
 |cons k ks aE=>exact(bb (k.size+ ·) aE).trans List.sum_cons.symm
theorem Ze(first:Nat)(ks:List br):eM (ks.zipIdx.map λp=>(first+p.2,p.1))=br.m8 ks:=by
 unfold eM
 rw[Xx,fj]
 have:((λp:Nat×br=>p.2.size)∘λp:br×Nat=>(first+p.2,p.1))=br.size∘Prod.fst:=rfl
 rw[this,←fj,List.zipIdx_map_fst]
theorem Zb(W Z:List (Nat×br)):eM (W++Z)=eM W+eM Z:=(bb List.sum fv).trans List.sum_append
theorem Dh{x y:Str}{v:Nat}{l:List (Str×Nat)}:((y,v)::l).lookup x=if x=y then some v else l.lookup x:=by
 rw[gV]
 by_cases e:x=y
 ·rw[a3 e,beq_iff_eq.mpr e]
 ·rw[bq e,beq_eq_false_iff_ne.mpr e]
theorem lookup_mem{x:Str}{q:Nat}{l:List (Str×Nat)}(h:l.lookup x=some q):(x,q)∈l:=by
 induction l with
 |nil=>exact bi h
 |cons p l aE=>
  rw[Dh]at h
  exact oJ h (λe h=>by rw[e,←Option.some.inj h];exact .head _) λ_ h=>.tail _ (aE h)
theorem mem_lookup{x:Str}{q:Nat}{l:List (Str×Nat)}(aH:(l.map (·.1)).Nodup)(h:(x,q)∈l):l.lookup x=some q:=by
 induction l with
 |nil=>exact absurd h f7
 |cons p l aE=>
  have ey:=kH.mp aH
  rw[Dh]
  rcases dS.mp h with e|h
  ·exact e▸a3 rfl
  ·rw[bq λe=>ey.1 (b5.mpr ⟨_,h,e⟩)]
   exact aE ey.2 h
theorem Uf{x:Str}{l:List (Str×Nat)}(h:l.lookup x=none):x∉l.map (·.1):=by
 induction l with
 |nil=>exact f7
 |cons p l aE=>
  rw[Dh]at h
  exact oJ h (λ_=>nofun) λe h aR=>(dS.mp aR).elim e (aE h)
noncomputable def oh(cf:Str->List Nat->Option Nat)(bo:List Nat)(places:List (Str×Nat))(W:List (Nat×br))(s:Str->Nat):Prop:=(∀p∈places,s p.1=bo.getD p.2 0)/\∀p∈W,ev cf s p.2=some (bo.getD p.1 0)
theorem uT{cf:Str->List Nat->Option Nat}{bo:List Nat}{places:List (Str×Nat)}{W:List (Nat×br)}{pl:Nat}{t:br}{s:Str->Nat}:oh cf bo places ((pl,t)::W) s↔oh cf bo places W s/\ev cf s t=some (bo.getD pl 0):=
 ⟨λh=>⟨⟨h.1,λp aF=>h.2 p (.tail _ aF)⟩,h.2 _ (.head _)⟩,λh=>⟨h.1.1,λp aF=>(dS.mp aF).elim (λe=>e▸h.2) (h.1.2 p)⟩⟩
theorem M3{cf:Str->List Nat->Option Nat}{bo:List Nat}{places:List (Str×Nat)}{W:List (Nat×br)}{pl:Nat}{x:Str}{s:Str->Nat}:oh cf bo (places++[(x,pl)]) W s↔oh cf bo places ((pl,.var x)::W) s:=
 Iff.trans ⟨λh=>⟨⟨λp aF=>h.1 p (i6 _ aF),h.2⟩,bb some (h.1 (x,pl) (iJ _ (.head _)))⟩,
  λh=>⟨λp aF=>(er.mp aF).elim (h.1.1 p) λe=>cK.mp e▸Option.some.inj h.2,h.1.2⟩⟩ uT.symm
theorem vH{bo kids:List Nat}{i:Nat}(h:i<bo.length):(bo++kids).getD i 0=bo.getD i 0:=by
 rw[kC,kC,mw h]
theorem HC{bo kids:List Nat}(i:Nat):(bo++kids).getD (bo.length+i) 0=kids.getD i 0:=by
 rw[kC,kC,List.getElem?_append_right (hD ..),Nat.add_sub_cancel_left]
theorem M2{cf:Str->List Nat->Option Nat}{bo kids:List Nat}{places:List (Str×Nat)}{W:List (Nat×br)}{ks:List br}{s:Str->Nat}(aV:∀p∈W,p.1<bo.length)(bL:∀p∈places,p.2<bo.length)(aw:ks.length=kids.length):
  oh cf (bo++kids) places (W++ks.zipIdx.map λp=>(bo.length+p.2,p.1)) s↔oh cf bo places W s/\jT cf s ks=some kids:=by
 refine⟨λh=>⟨⟨λp aF=>(h.1 p aF).trans (vH (bL p aF)),λp aF=>(h.2 p (i6 _ aF)).trans (bb some (vH (aV p aF)))⟩,x8.mpr ⟨aw,λi k aq=>?_⟩⟩,
  λh=>⟨λp aF=>(h.1.1 p aF).trans (vH (bL p aF)).symm,λp aF=>?_⟩⟩
 ·exact(h.2 (bo.length+i,k) (iJ _ (b5.mpr ⟨(k,i),List.mem_zipIdx_iff_getElem?.mpr aq,rfl⟩))).trans (bb some (HC i))
 ·rcases er.mp aF with aF|aF
  ·exact(h.1.2 p aF).trans (bb some (vH (aV p aF)).symm)
  ·refine(b5.mp aF).elim λq aL=>?_
   rw[←aL.2]
   exact((x8.mp h.2).2 q.2 q.1 (List.mem_zipIdx_iff_getElem?.mp aL.1)).trans (bb some (HC q.2).symm)
theorem Hi{eW:List (Str×Nat)->List (Str×Nat)}(aF:∀l x,x∈eW l↔x∈l){places:List (Str×Nat)}{bo:List Nat}{s:Str->Nat}(aZ:∀p∈places,s p.1=bo.getD p.2 0):keyOf (eW places) bo=(bo.getD 0 0,(eW places).map λp=>(p.1,s p.1)):=
 bb (Prod.mk _) (kE λp d7=>bb (Prod.mk _) (aZ p ((aF _ _).mp d7)).symm)
theorem br.pos(t:br):0<t.size:=by
 cases t with
 |var x=>exact Nat.one_pos
 |op o ks=>exact dE Nat.one_pos (hD ..)
theorem PZ{eW:List (Str×Nat)->List (Str×Nat)}{cf:Str->List Nat->Option Nat}{ho:Nat->List bF}(aF:∀l x,x∈eW l↔x∈l){key:Key}{places:List (Str×Nat)}{bo:List Nat}(cC:(places.map (·.1)).Nodup):
  (key∈outs ho [.yield (eW places)] bo↔∃s:Str->Nat,oh cf bo places [] s/\key=(bo.getD 0 0,(eW places).map λp=>(p.1,s p.1))):=by
 refine cK.trans ⟨λh=>?_,λh=>h.elim λs h=>h.2.trans (Hi aF h.1.1).symm⟩
 have aZ:∀p∈places,(λx=>(places.lookup x).elim 0 λq=>bo.getD q 0) p.1=bo.getD p.2 0:=λp d7=>by
  show(places.lookup p.1).elim 0 _=_
  rw[mem_lookup cC d7]
  rfl
 exact⟨λx=>(places.lookup x).elim 0 λq=>bo.getD q 0,⟨aZ,ka⟩,h.trans (Hi (s:=λx=>(places.lookup x).elim 0 λq=>bo.getD q 0) aF aZ)⟩
theorem uu(p:Nat×br)(W:List (Nat×br)):eM (p::W)=p.2.size+eM W:=(bb List.sum gm).trans List.sum_cons
theorem Zd(first:Nat)(W:List (Nat×br))(ks:List br):eM (W++ks.zipIdx.map λp=>(first+p.2,p.1))=eM W+br.m8 ks:=(Zb W _).trans (bb (eM W+ ·) (Ze first ks))
theorem xl(first pl:Nat)(o:Str)(W:List (Nat×br))(ks:List br):eM ((pl,.op o ks)::W)=eM (W++ks.zipIdx.map λp=>(first+p.2,p.1))+1:=by
 rw[Zd,uu]
 refine(?_:1+br.m8 ks+eM W=eM W+br.m8 ks+1)
 rw[Nat.add_comm (eM W+br.m8 ks) 1,Nat.add_comm (eM W),←Nat.add_assoc]
theorem qb(pl:Nat)(x:Str)(W:List (Nat×br)):eM ((pl,.var x)::W)=eM W+1:=(uu _ W).trans (Nat.add_comm 1 _)
section
variable{n pl first:Nat}{places:List (Str×Nat)}{x:Str}{W:List (Nat×br)}{q:Nat}
theorem yr:gen eW n places [] first=[.yield (eW places)]:=by cases n<;>rfl
theorem vq:fin n places [] first=places:=by cases n<;>rfl
theorem yt(ar:places.lookup x=none):gen eW (n+1) places ((pl,.var x)::W) first=gen eW n (places++[(x,pl)]) W first:=by show(match places.lookup x with|none=>_|some q=>_)=_;rw[ar]
theorem yd(ar:places.lookup x=none):fin (n+1) places ((pl,.var x)::W) first=fin n (places++[(x,pl)]) W first:=by show(match places.lookup x with|none=>_|some q=>_)=_;rw[ar]
theorem ys(ar:places.lookup x=some q):gen eW (n+1) places ((pl,.var x)::W) first=.same pl q::gen eW n places W first:=by show(match places.lookup x with|none=>_|some q=>_)=_;rw[ar]
theorem yc(ar:places.lookup x=some q):fin (n+1) places ((pl,.var x)::W) first=fin n places W first:=by show(match places.lookup x with|none=>_|some q=>_)=_;rw[ar]
theorem JZ(cC:(places.map (·.1)).Nodup)(ar:places.lookup x=none):((places++[(x,pl)]).map (·.1)).Nodup:=by
 rw[fv,od]
 exact⟨cC,List.pairwise_singleton ..,λa aC b ab e=>Uf ar (by rw[e,cK.mp ab]at aC;exact aC)⟩
theorem zt{P:Nat×br->Prop}{ks:List br}(jx:∀q∈W,P q)(aq:∀i k,ks[i]?=some k->P (first+i,k)):∀q∈W++ks.zipIdx.map (λp=>(first+p.2,p.1)),P q:=λq aL=>
 (er.mp aL).elim (jx q) λh=>aG (b5.mp h) λp aF e=>e▸aq p.2 p.1 (List.mem_zipIdx_iff_getElem?.mp aF)
end
theorem ut{P:Nat->List (Str×Nat)->List (Nat×br)->Nat->Prop}(bV:∀n places first,P n places [] first)
  (aU:∀n places pl x W first,places.lookup x=none->P n (places++[(x,pl)]) W first->P (n+1) places ((pl,.var x)::W) first)
  (aZ:∀n places pl x W first q,places.lookup x=some q->P n places W first->P (n+1) places ((pl,.var x)::W) first)
  (aD:∀n places pl o ks W first,P n places (W++ks.zipIdx.map λp=>(first+p.2,p.1)) (first+ks.length)->P (n+1) places ((pl,.op o ks)::W) first)
  (n:Nat) (places:List (Str×Nat)) (W:List (Nat×br)) (first:Nat) (h:eM W<=n):P n places W first:=by
 induction n generalizing places W first with
 |zero=>
  cases W with
  |nil=>exact bV _ _ _
  |cons p W=>exact absurd h (Nat.not_le_of_lt (dE p.2.pos (uu p W▸hD ..)))
 |succ n aE=>
  cases W with
  |nil=>exact bV _ _ _
  |cons p W=>
   obtain ⟨pl,t⟩:=p
   cases t with
   |var x=>
    have hw:eM W<=n:=Nat.le_of_succ_le_succ (aO (cB (qb pl x W).symm) h)
    cases ar:places.lookup x with
    |none=>exact aU n places pl x W first ar (aE _ _ _ hw)
    |some q=>exact aZ n places pl x W first q ar (aE _ _ _ hw)
   |op o ks=>exact aD n places pl o ks W first (aE _ _ _ (Nat.le_of_succ_le_succ (aO (cB (xl first pl o W ks).symm) h)))
theorem P1{eW}{cf:Str->List Nat->Option Nat}{ho:Nat->List bF}(aH:∀c x,x∈ho c↔cf x.op x.kids=some c)(aF:∀l x,x∈eW l↔x∈l)(key:Key)
  (n:Nat) (places:List (Str×Nat)) (W:List (Nat×br)) (first:Nat) (ai:eM W<=n):∀bo:List Nat,bo.length=first->(∀p∈W,p.1<first)->(∀p∈places,p.2<first)->0<first->(places.map (·.1)).Nodup->
   (key∈outs ho (gen eW n places W first) bo↔∃s:Str->Nat,oh cf bo places W s/\key=(bo.getD 0 0,(eW (fin n places W first)).map λp=>(p.1,s p.1))):=by
 refine ut (P:=λn places W first=>∀bo:List Nat,bo.length=first->(∀p∈W,p.1<first)->(∀p∈places,p.2<first)->0<first->(places.map (·.1)).Nodup->
   (key∈outs ho (gen eW n places W first) bo↔∃s:Str->Nat,oh cf bo places W s/\key=(bo.getD 0 0,(eW (fin n places W first)).map λp=>(p.1,s p.1)))) (λn places first bo ak aV bL dx cC=>?_) (λn places pl x W first ar aE bo ak aV bL dx cC=>?_) (λn places pl x W first q ar aE bo ak aV bL dx cC=>?_) (λn places pl o ks W first aE bo ak aV bL dx cC=>?_) n places W first ai
 ·rw[yr,vq];exact PZ aF cC
 ·rw[yt eW ar,yd ar]
  exact(aE bo ak (λp aF=>aV p (.tail _ aF)) (λp d7=>(er.mp d7).elim (bL p) λh=>cK.mp h▸aV _ (.head _)) dx (JZ cC ar)).trans (exists_congr λs=>and_congr_left' M3)
 ·rw[ys eW ar,yc ar]
  refine(?_:key∈(if bo.getD pl 0=bo.getD q 0 then outs ho (gen eW n places W first) bo else [])↔_)
  have aL:=lookup_mem ar
  by_cases a0:bo.getD pl 0=bo.getD q 0
  ·rw[a3 a0]
   refine(aE bo ak (λp aF=>aV p (.tail _ aF)) bL dx cC).trans (exists_congr λs=>and_congr_left' (Iff.trans ?_ uT.symm))
   exact⟨λh=>⟨h,bb some ((h.1 _ aL).trans a0.symm)⟩,And.left⟩
  ·rw[bq a0]
   exact⟨λh=>absurd h f7,λh=>h.elim λs h=>absurd ((Option.some.inj (uT.mp h.1).2).symm.trans (h.1.1 _ aL)) a0⟩
 ·have jx:∀p∈W,p.1<first:=λp aF=>aV p (.tail _ aF)
  subst ak
  have step:∀kids:List Nat,kids.length=ks.length->(key∈outs ho (gen eW n places (W++ks.zipIdx.map λp=>(bo.length+p.2,p.1)) (bo.length+ks.length)) (bo.take bo.length++kids)↔
     ∃s,(oh cf bo places W s/\jT cf s ks=some kids)/\key=(bo.getD 0 0,(eW (fin n places (W++ks.zipIdx.map λp=>(bo.length+p.2,p.1)) (bo.length+ks.length))).map λp=>(p.1,s p.1))):=λkids aq=>by
   rw[List.take_length]
   refine(aE (bo++kids) (by rw[dO,aq]) (zt (λp h=>Nat.lt_add_right _ (jx p h)) λi k h=>Nat.add_lt_add_left (e4.mp h).1 _) (λp d7=>Nat.lt_add_right _ (bL p d7)) (Nat.lt_add_right _ dx) cC).trans (exists_congr λs=>?_)
   rw[vH dx,M2 jx bL aq.symm]
  refine List.mem_flatMap.trans ⟨λh=>h.elim λx h=>?_,λh=>h.elim λs h=>?_⟩
  ·have ar:=jj.mp h.1
   have aD:=hU ar.2
   exact((step x.kids aD.2).mp h.2).elim λs q=>⟨s,uT.mpr ⟨q.1.1,(bb (Option.bind · (cf o)) q.1.2).trans (aD.1▸(aH _ _).mp ar.1)⟩,q.2⟩
  ·have aC:=uT.mp h.1
   refine cI (o:=jT cf s ks) aC.2 λbk ie wl=>⟨⟨o,bk⟩,jj.mpr ⟨(aH _ ⟨o,bk⟩).mpr wl,dT ⟨rfl,(x8.mp ie).1.symm⟩⟩,(step bk (x8.mp ie).1.symm).mpr ⟨s,⟨aC.1,ie⟩,h.2⟩⟩
def oV(W:List (Nat×br)):List Str:=W.flatMap λp=>p.2.vars
theorem LG(ks:List br):br.kA ks=ks.flatMap br.vars:=by
 induction ks with
 |nil=>rfl
 |cons k ks aE=>exact bb (k.vars++ ·) aE
theorem Zf(first:Nat)(ks:List br):oV (ks.zipIdx.map λp=>(first+p.2,p.1))=br.kA ks:=by
 unfold oV
 rw[LG,List.flatMap_map]
 haveI:(λa:br×Nat=>(first+a.2,a.1).2.vars)=λa:br×Nat=>br.vars (Prod.fst a):=rfl
 rw[this,←List.flatMap_map (f:=Prod.fst) (g:=br.vars),List.zipIdx_map_fst]
theorem yb(n:Nat)(places:List (Str×Nat))(W:List (Nat×br))(first:Nat)(h:eM W<=n):(places.map (·.1)).Nodup->((fin n places W first).map (·.1)).Nodup/\∀x,x∈(fin n places W first).map (·.1)↔x∈places.map (·.1)\/x∈oV W:=by
 refine ut (P:=λn places W first=>(places.map (·.1)).Nodup->((fin n places W first).map (·.1)).Nodup/\∀x,x∈(fin n places W first).map (·.1)↔x∈places.map (·.1)\/x∈oV W)
  (λn places first ak=>?_) (λn places pl x W first ar aE ak=>?_) (λn places pl x W first q ar aE ak=>?_) (λn places pl o ks W first aE ak=>?_) n places W first h
 ·rw[vq];exact⟨ak,λx=>(or_iff_left f7).symm⟩
 ·rw[yd ar]
  refine bU (aE (JZ ak ar)) λa2 a9=>⟨a2,λy=>(a9 y).trans ?_⟩
  rw[fv,er,or_assoc]
  exact or_congr_right (er (s:=[x])).symm
 ·rw[yc ar]
  exact bU (aE ak) λa2 a9=>⟨a2,λy=>(a9 y).trans ⟨λh=>h.imp id (iJ [x]),λh=>h.elim .inl λh=>(er.mp h).elim (λe=>.inl (cK.mp e▸b5.mpr ⟨_,lookup_mem ar,rfl⟩)) .inr⟩⟩
 ·refine bU (aE ak) λa2 a9=>⟨a2,λy=>(a9 y).trans (or_congr_right ?_)⟩
  rw[show oV (W++ks.zipIdx.map λp=>(first+p.2,p.1))=oV W++br.kA ks from List.flatMap_append.trans (bb (oV W++ ·) (Zf first ks)),er,or_comm]
  exact er.symm
mutual
theorem G9{cf:Str->List Nat->Option Nat}{s bT:Str->Nat}:∀(t:br),(∀x∈t.vars,s x=bT x)->ev cf s t=ev cf bT t
 |.var x,h=>by simp only[ev];rw[h x (by simp[br.vars])]
 |.op o ks,h=>by simp only[ev];rw[Hb ks λx ar=>h x (by simpa [br.vars] using ar)]
theorem Hb{cf:Str->List Nat->Option Nat}{s bT:Str->Nat}:∀(ks:List br),(∀x∈br.kA ks,s x=bT x)->jT cf s ks=jT cf bT ks
 |[],_=>rfl
 |k::ks,h=>by
  simp only[jT]
  rw[G9 k λx ar=>h x (by simp[br.kA,ar]),Hb ks λx ar=>h x (by simp[br.kA,ar])]
end
mutual
theorem Ha{cf:Str->List Nat->Option Nat}{s:Str->Nat}{cl:Nat->Prop}(bK:∀o bk c,cf o bk=some c->cl c/\∀k∈bk,cl k):∀(t:br) (c:Nat),ev cf s t=some c->cl c->∀x∈t.vars,cl (s x)
 |.var x,c,h,ax,y,bc=>by
  simp only[ev,Option.some.injEq]at h
  simp only[br.vars,cK]at bc
  subst bc;rw[h];exact ax
 |.op o ks,c,h,ax,y,bc=>by
  simp only[ev]at h
  refine cI h ?_;clear h;intro bk ie wl
  exact Hc bK ks bk ie (bK _ _ _ wl).2 y (by simpa [br.vars] using bc)
theorem Hc{cf:Str->List Nat->Option Nat}{s:Str->Nat}{cl:Nat->Prop}(bK:∀o bk c,cf o bk=some c->cl c/\∀k∈bk,cl k):∀(ks:List br) (bk:List Nat),jT cf s ks=some bk->(∀k∈bk,cl k)->∀x∈br.kA ks,cl (s x)
 |[],bk,h,ax,y,bc=>by simp[br.kA]at bc
 |k::ks,bk,h,ax,y,bc=>by
  simp only[jT]at h
  refine cI h ?_;clear h;intro c ai h
  refine fC h ?_;clear h;intro Gn ak CN;subst CN
  simp only[br.kA,er]at bc
  rcases bc with bc|bc
  ·exact Ha bK k c ai (ax c (.head _)) y bc
  ·exact Hc bK ks Gn ak (λq aL=>ax q (.tail _ aL)) y bc
end
theorem O0{cf:Str->List Nat->Option Nat}{s:Str->Nat}{cl:Nat->Prop}(bK:∀o bk c,cf o bk=some c->cl c/\∀k∈bk,cl k)(t:br)(c:Nat)(h:ev cf s t=some c)(aZ:∀x∈t.vars,cl (s x)):cl c:=by
 cases t with
 |var x=>simp only[ev,Option.some.injEq]at h;rw[←h];exact aZ x (by simp[br.vars])
 |op o ks=>
  simp only[ev]at h
  refine cI h ?_;clear h;intro bk ie wl
  exact(bK _ _ _ wl).1
noncomputable def rowsOf(bk:List Nat):List Str->List (List (Str×Nat))->List (List (Str×Nat))
 |[],rows=>rows
 |x::xs,rows=>rowsOf bk xs (rows.flatMap λrow=>bk.map λc=>row++[(x,c)])
theorem zs{bk:List Nat}:∀(xs:List Str) (rows:List (List (Str×Nat))) (r:List (Str×Nat)),r∈rowsOf bk xs rows↔∃p5∈rows,∃vs:List Nat,vs.length=xs.length/\(∀v∈vs,v∈bk)/\r=p5++xs.zip vs
 |[],rows,r=>by
  simp only[rowsOf]
  constructor
  ·intro h;exact⟨r,h,[],rfl,by simp,by simp⟩
  ·intro bY;refine a6 bY λp5 b3=>?_;clear bY;refine bU b3 λh cj=>?_;clear b3;refine eB cj λvs ai _ cA=>?_;clear cj;subst cA;simpa using h
 |x::xs,rows,r=>by
  simp only[rowsOf]
  rw[zs xs]
  constructor
  ·intro cQ;refine a6 cQ λcs db=>?_;clear cQ;refine bU db λh d0=>?_;clear db;refine eB d0 λvs ai ak eF=>?_;clear d0;subst eF
   refine aG (List.mem_flatMap.mp h) λp5 bV h=>?_
   refine aG (b5.mp h) λc ax bC=>?_;subst bC
   exact⟨p5,bV,c::vs,by simp[ai],λv aU=>(dS.mp aU).elim (λe=>e▸ax) (ak v),by simp⟩
  ·intro ff;refine a6 ff λp5 fg=>?_;clear ff;refine bU fg λbV fq=>?_;clear fg;refine eB fq λvs ai ak g6=>?_;clear fq;subst g6
   cases vs with
   |nil=>simp at ai
   |cons c vs=>
    exact⟨p5++[(x,c)],List.mem_flatMap.mpr ⟨p5,bV,b5.mpr ⟨c,ak c (.head _),rfl⟩⟩,vs,by simpa using ai,λv aU=>ak v (.tail _ aU),by simp⟩
noncomputable def asg(row:List (Str×Nat))(x:Str):Nat:=(row.lookup x).getD 0
theorem zip_map_self{dh:Type}(f:Str->dh):∀xs:List Str,xs.zip (xs.map f)=xs.map λx=>(x,f x)
 |[]=>rfl
 |x::xs=>by simp[zip_map_self f xs]
theorem Ng{f:Str->Nat}{xs:List Str}{x:Str}(ar:x∈xs):asg (xs.map λx=>(x,f x)) x=f x:=by
 unfold asg
 induction xs with
 |nil=>cases ar
 |cons y xs aE=>
  rw[gm,gV]
  cases ab:x==y with
  |true=>rw[show x=y by simpa using ab];rfl
  |false=>
   haveI e1:x≠y:=by simpa using ab
   exact aE ((dS.mp ar).resolve_left e1)
theorem LY:∀(xs:List Str) (vs:List Nat),xs.Nodup->vs.length=xs.length->xs.zip vs=xs.map λx=>(x,asg (xs.zip vs) x)
 |[],vs,_,_=>by simp
 |x::xs,[],_,h=>by simp at h
 |x::xs,v::vs,aH,h=>by
  rw[kH]at aH
  haveI e:asg ((x::xs).zip (v::vs)) x=v:=by simp[asg]
  rw[gm,e]
  simp only[List.zip_cons_cons]
  congr 1
  refine(LY xs vs aH.2 (by simpa using h)).trans (kE λy bc=>?_)
  haveI e1:y≠x:=λq=>aH.1 (q▸bc)
  congr 1
  unfold asg
  rw[gV,show(y==x)=false by simpa using e1]
theorem Uw{eW:List (Str×Nat)->List (Str×Nat)}{cf:Str->List Nat->Option Nat}{ho:Nat->List bF}{cls:List Nat}{t:br}{n:Nat}(aH:∀c x,x∈ho c↔cf x.op x.kids=some c)(aF:∀l x,x∈eW l↔x∈l)
  (bK:∀o bk c,cf o bk=some c->c∈cls/\∀k∈bk,k∈cls) (aZ:t.size<=n) (mQ:((eW (fin n [] [(0,t)] 1)).map (·.1)).Nodup) (key:Key):
  (∃c∈cls,key∈outs ho (gen eW n [] [(0,t)] 1) [c])↔∃row∈rowsOf cls ((eW (fin n [] [(0,t)] 1)).map (·.1)) [[]],ev cf (asg row) t=some key.1/\key.2=row:=by
 have hw:eM [(0,t)]<=n:=aZ
 have aU:∀x,x∈(eW (fin n [] [(0,t)] 1)).map (·.1)↔x∈t.vars:=λx=>by
  have:=(yb n [] [(0,t)] 1 hw List.nodup_nil).2 x
  rw[show oV [(0,t)]=t.vars by simp[oV]]at this
  rw[←(show x∈(fin n [] [(0,t)] 1).map (·.1)↔x∈t.vars from by rw[this];simp)]
  simp only[b5,aF]
 have aD:=λc=>P1 (eW:=eW) aH aF key n [] [(0,t)] 1 hw [c] rfl (λp aF=>cK.mp aF▸Nat.one_pos) ka Nat.one_pos List.nodup_nil
 constructor
 ·intro cj;refine aG cj λc ax h=>?_;clear cj
  refine aG ((aD c).mp h) λs ak a2=>?_;subst a2
  have a0:ev cf s t=some c:=ak.2 _ (.head _)
  have qM:=Ha (cl:=(· ∈cls)) bK t c a0 ax
  refine⟨((eW (fin n [] [(0,t)] 1)).map (·.1)).map λx=>(x,s x),?_,?_,by rw[fj];rfl⟩
  ·rw[zs]
   refine⟨[],.head _,((eW (fin n [] [(0,t)] 1)).map (·.1)).map s,by simp,λv j3=>?_,by rw[zip_map_self];rfl⟩
   refine aG (b5.mp j3) λx ar a9=>?_;subst a9
   exact qM x ((aU x).mp ar)
  ·show ev cf _ t=some c
   rw[←a0]
   exact G9 t λx ar=>Ng ((aU x).mpr ar)
 ·intro cA;refine eB cA λrow mR a0 aq=>?_;clear cA
  refine a6 ((zs _ _ _).mp mR) λp5 bC=>?_;refine bU bC λbV bY=>?_;clear bC;refine eB bY λvs ai ak b3=>?_;clear bY;subst b3
  rw[cK.mp bV,List.nil_append]at aq a0 mR
  have hz:=LY _ vs mQ ai
  have pD:∀x∈t.vars,asg (((eW (fin n [] [(0,t)] 1)).map (·.1)).zip vs) x∈cls:=λx ar=>by
   have hx:=(aU x).mpr ar
   have:(x,asg (((eW (fin n [] [(0,t)] 1)).map (·.1)).zip vs) x)∈((eW (fin n [] [(0,t)] 1)).map (·.1)).zip vs:=by
    rw[hz]
    refine b5.mpr ⟨x,hx,?_⟩
    rw[←hz]
   exact ak _ (List.of_mem_zip this).2
  have ax:=O0 (cl:=(· ∈cls)) bK t key.1 a0 pD
  refine⟨key.1,ax,(aD key.1).mpr ⟨asg (((eW (fin n [] [(0,t)] 1)).map (·.1)).zip vs),⟨ka,λp d7=>?_⟩,?_⟩⟩
  ·rw[cK.mp d7];exact a0
  ·refine Prod.ext rfl ?_
   rw[aq]
   conv=>lhs;rw[hz]
   rw[fj];rfl
noncomputable def p3(p:List Nat):Nat->Nat->Nat
 |0,n=>n
 |k+1,n=>if p.getD n n=n then n else p3 p k (p.getD n n)
def root(p:List Nat)(n:Nat):Nat:=p3 p n n
noncomputable def Down(p:List Nat):Prop:=∀i,p.getD i i<=i
theorem KT{p:List Nat}(hd:Down p):∀(k j n:Nat),n<=k->n<=j->p3 p k n=p3 p j n
 |0,0,n,_,_=>rfl
 |0,j+1,n,h,_=>by
  haveI:n=0:=by lia
  subst this
  haveI:=hd 0
  simp only[p3]
  rw[a3 (by lia)]
 |k+1,0,n,_,h=>by
  haveI:n=0:=by lia
  subst this
  haveI:=hd 0
  simp only[p3]
  rw[a3 (by lia)]
 |k+1,j+1,n,ai,ak=>by
  simp only[p3]
  split
  ·rfl
  ·haveI:=hd n
   exact KT hd k j _ (by lia) (by lia)
theorem p4{p:List Nat}(hd:Down p)(n:Nat):root p n=if p.getD n n=n then n else root p (p.getD n n):=by
 haveI:=hd n
 by_cases h:p.getD n n=n
 ·rw[a3 h]
  unfold root
  cases n with
  |zero=>rfl
  |succ n=>simp only[p3];rw[a3 h]
 ·rw[bq h]
  unfold root
  cases n with
  |zero=>lia
  |succ n=>
   simp only[p3]
   rw[bq h]
   exact KT hd _ _ _ (by lia) (bD _)
theorem Ep{p:List Nat}(hd:Down p){P:Nat->Prop}(ai:∀n,p.getD n n=n->P n)(ak:∀n,p.getD n n<n->P (p.getD n n)->P n):∀n,P n:=by
 intro n
 induction n using Nat.strongRecOn with
 |ind n aE=>
  by_cases h:p.getD n n=n
  ·exact ai n h
  ·haveI:=hd n
   exact ak n (by lia) (aE _ (by lia))
theorem nX{p:List Nat}(hd:Down p):∀n,root p n<=n:=by
 refine Ep hd (λn h=>?_) λn h aE=>?_
 ·rw[p4 hd,a3 h];exact bD _
 ·rw[p4 hd,bq (by lia)];lia
theorem nY{p:List Nat}(hd:Down p):∀n,p.getD (root p n) (root p n)=root p n:=by
 refine Ep hd (λn h=>?_) λn h aE=>?_
 ·rw[p4 hd,a3 h];exact h
 ·rw[p4 hd,bq (by lia)];exact aE
theorem w9{p:List Nat}(hd:Down p){n:Nat}(h:p.getD n n=n):root p n=n:=by rw[p4 hd,a3 h]
theorem qH{p:List Nat}{g k:Nat}(av:g<p.length)(i:Nat):(p.set g k).getD i i=if i=g then k else p.getD i i:=by
 simp only[kC,List.getElem?_set]
 by_cases h:g=i
 ·subst h;simp[av]
 ·rw[bq h,bq (Ne.symm h)]
theorem GD{p:List Nat}(hd:Down p){g k:Nat}(av:g<p.length)(aq:k<=g):Down (p.set g k):=λi=>by
 rw[qH av]
 split
 ·lia
 ·exact hd i
theorem KU{p:List Nat}(hd:Down p){g k:Nat}(av:g<p.length)(aq:k<g)(r3:p.getD g g=g)(tC:p.getD k k=k):∀n,root (p.set g k) n=if root p n=g then k else root p n:=by
 haveI cW:=GD hd av (gI aq)
 refine Ep hd (λn h=>?_) λn h aE=>?_
 ·rw[w9 hd h]
  by_cases e:n=g
  ·subst e
   rw[a3 rfl,p4 cW,qH av,a3 rfl,bq (by lia)]
   exact w9 cW (by rw[qH av,bq (by lia)];exact tC)
  ·rw[bq e]
   exact w9 cW (by rw[qH av,bq e];exact h)
 ·haveI e:n≠g:=λq=>by subst q;lia
  haveI au:root p n=root p (p.getD n n):=by rw[p4 hd,bq (by lia)]
  rw[au,p4 cW,qH av,bq e,bq (by lia)]
  exact aE
structure cv where
 p:List Nat
 dg:Nat->List Nat
 known:List (bF×Nat)
 c4:Nat->List Nat
 wait:List Nat
def cv.join(h:cv)(a b:Nat):cv:=
 let dR:=root h.p a;let ep:=root h.p b
 if dR=ep then h else
  let k:=min dR ep;let g:=max dR ep
  {p:=h.p.set g k,dg:=λc=>if c=k then h.dg k++h.dg g else h.dg c,known:=h.known,c4:=λc=>if c=k then h.c4 k++h.c4 g else h.c4 c,wait:=h.wait++h.c4 g}
def cv.look(U:List bF)(h:cv)(n:Nat):cv:=
 let key:=canon (root h.p) (U.getD n ⟨Str.empty,[]⟩)
 match h.known.lookup key with
 |none=>{h with known:=h.known++[(key,n)]}
 |some m=>h.join m n
structure Inv(U:List bF)(told done:List (Nat×Nat))(h:cv):Prop where
 len:h.p.length=U.length
 down:Down h.p
 mV:∀x∈U,∀k∈x.kids,k<U.length
 sound:∀i,gq U told i (root h.p i)
 dg:∀r,r<U.length->h.p.getD r r=r->(h.dg r).Nodup/\∀i,i∈h.dg r↔i<U.length/\root h.p i=r
 iG:∀i x k,U[i]?=some x->k∈x.kids->i∈h.c4 (root h.p k)
 o7:∀c i,i∈h.c4 c->i<U.length
 pW:∀key m,(key,m)∈h.known->m<U.length/\∃x,U[m]?=some x/\key.op=x.op/\key.kids.length=x.kids.length/\∀(i k l:Nat),key.kids[i]?=some k->x.kids[i]?=some l->gq U told k l
 sE:∀i∈h.wait,i<U.length
 look:∀i x,U[i]?=some x->i∈h.wait\/∃m,h.known.lookup (canon (root h.p) x)=some m/\root h.p m=root h.p i
 told:∀q∈done,root h.p q.1=root h.p q.2
theorem Inv.join{U:List bF}{told done:List (Nat×Nat)}{h:cv}(aM:Inv U told done h){a b:Nat}(aC:a<U.length)(ab:b<U.length)(ax:gq U told a b):Inv U told ((a,b)::done) (h.join a b):=by
 unfold cv.join
 dsimp only
 by_cases e:root h.p a=root h.p b
 ·rw[a3 e]
  refine⟨aM.len,aM.down,aM.mV,aM.sound,aM.dg,aM.iG,aM.o7,aM.pW,aM.sE,aM.look,λq aL=>?_⟩
  rcases dS.mp aL with rfl|aL
  ·exact e
  ·exact aM.told q aL
 ·rw[bq e]
  have gd:=nX aM.down a
  have Ry:=nX aM.down b
  have tE:=nY aM.down a
  have r7:=nY aM.down b
  have yB:gq U told (root h.p a) (root h.p b):=((aM.sound a).symm.trans ax).trans (aM.sound b)
  obtain ⟨k,g,aq,av,lx,oC,r3,tC,vV,QT⟩:∃k g,min (root h.p a) (root h.p b)=k/\max (root h.p a) (root h.p b)=g/\k<g/\g<h.p.length/\h.p.getD g g=g/\h.p.getD k k=k/\gq U told g k/\
    ((root h.p a=k/\root h.p b=g)\/(root h.p a=g/\root h.p b=k)):=by
   rw[aM.len]
   rcases Nat.lt_or_gt_of_ne e with q|q
   ·exact⟨root h.p a,root h.p b,by lia,by lia,q,by lia,r7,tE,yB.symm,.inl ⟨rfl,rfl⟩⟩
   ·exact⟨root h.p b,root h.p a,by lia,by lia,q,by lia,tE,r7,yB,.inr ⟨rfl,rfl⟩⟩
  rw[aq,av]
  have pN:=KU aM.down oC lx r3 tC
  have Io:∀i j,root h.p i=root h.p j->root (h.p.set g k) i=root (h.p.set g k) j:=λi j q=>by rw[pN,pN,q]
  constructor
  ·simp[aM.len]
  ·exact GD aM.down oC (gI lx)
  ·exact aM.mV
  ·intro i
   rw[pN]
   split
   ·rename_i q;exact((aM.sound i).trans (q▸.refl _)).trans vV
   ·exact aM.sound i
  ·intro r au wi
   rw[qH oC]at wi
   have R4:r≠g:=λq=>by subst q;rw[a3 rfl]at wi;lia
   rw[bq R4]at wi
   dsimp only
   by_cases q:r=k
   ·subst q
    rw[a3 rfl]
    refine bU (aM.dg r au wi) λaX bg=>?_
    refine bU (aM.dg g (by rw[←aM.len];exact oC) r3) λkk kl=>?_
    refine⟨od.mpr ⟨aX,kk,λx ar y bc jc=>?_⟩,λi=>?_⟩
    ·subst jc
     have:=((bg x).mp ar).2
     have:=((kl x).mp bc).2
     lia
    ·rw[er,bg,kl,pN]
     constructor
     ·rintro (⟨ai,ak⟩|⟨ai,ak⟩)
      ·exact⟨ai,by rw[bq (by lia)];exact ak⟩
      ·exact⟨ai,by rw[a3 ak]⟩
     ·intro bC;refine bU bC λai ak=>?_;clear bC
      refine oJ ak ?_ ?_<;>clear ak<;>intro _ ak
      ·rename_i eL;exact .inr ⟨ai,eL⟩
      ·exact .inl ⟨ai,ak⟩
   ·rw[bq q]
    refine bU (aM.dg r au wi) λaX bg=>?_
    refine⟨aX,λi=>?_⟩
    rw[bg,pN]
    constructor
    ·intro bY;refine bU bY λai ak=>?_;clear bY;exact⟨ai,by rw[bq (by lia)];exact ak⟩
    ·intro b3;refine bU b3 λai ak=>?_;clear b3
     refine⟨ai,?_⟩
     refine oJ ak ?_ ?_<;>clear ak<;>intro _ ak
     ·lia
     ·exact ak
  ·intro i x l ar aw
   have:=aM.iG i x l ar aw
   rw[pN]
   dsimp only
   split
   ·rename_i q
    rw[a3 rfl,er]
    exact .inr (q▸this)
   ·rename_i q
    split
    ·rename_i eL
     rw[er]
     exact .inl (eL▸this)
    ·exact this
  ·intro c i hi
   dsimp only at hi
   split at hi
   ·rcases er.mp hi with q|q
    ·exact aM.o7 _ _ q
    ·exact aM.o7 _ _ q
   ·exact aM.o7 _ _ hi
  ·exact aM.pW
  ·intro i hi
   rcases er.mp hi with q|q
   ·exact aM.sE i q
   ·exact aM.o7 _ _ q
  ·intro i x ar
   by_cases cJ:∃l∈x.kids,root h.p l=g
   ·refine aG cJ λl aw q=>?_;clear cJ
    exact .inl (iJ _ (q▸aM.iG i x l ar aw))
   ·have vU:canon (root (h.p.set g k)) x=canon (root h.p) x:=by
     unfold canon
     congr 1
     refine kE λl aw=>?_
     rw[pN,bq λq=>cJ ⟨l,aw,q⟩]
    rcases aM.look i x ar with q|⟨m,a2,a9⟩
    ·exact .inl (i6 _ q)
    ·exact .inr ⟨m,by rw[vU];exact a2,Io _ _ a9⟩
  ·intro q aL
   rcases dS.mp aL with rfl|aL
   ·rw[pN,pN]
    rcases QT with⟨ai,ak⟩|⟨ai,ak⟩
    ·rw[ai,ak,a3 rfl,bq (by lia)]
    ·rw[ai,ak,a3 rfl,bq (by lia)]
   ·exact Io _ _ (aM.told q aL)
theorem Inv.W5{U:List bF}{told done:List (Nat×Nat)}{h:cv}{W:List Nat}(aM:Inv U told done h)(ai:∀i∈W,i<U.length)(ak:∀i x,U[i]?=some x->i∈h.wait->i∈W\/∃m,h.known.lookup (canon (root h.p) x)=some m/\root h.p m=root h.p i):
  Inv U told done {h with wait:=W}:=
 ⟨aM.len,aM.down,aM.mV,aM.sound,aM.dg,aM.iG,aM.o7,aM.pW,ai,λi x ar=>(aM.look i x ar).elim (λq=>ak i x ar q) .inr,aM.told⟩
theorem zj{key:bF}{m:Nat}:∀{l:List (bF×Nat)},l.lookup key=some m->(key,m)∈l
 |(y,v)::l,h=>by
  rw[gV]at h
  cases ab:key==y with
  |true=>rw[ab]at h;refine c0 h λbY=>?_;clear h;subst bY;rw[show key=y by simpa using ab];exact .head _
  |false=>rw[ab]at h;exact .tail _ (zj h)
theorem Ue{key:bF}{m:Nat}{l r:List (bF×Nat)}(h:l.lookup key=some m):(l++r).lookup key=some m:=by
 induction l with
 |nil=>cases h
 |cons p l aE=>
  rw[List.cons_append,gV]
  rw[gV]at h
  split at h<;>simp_all
theorem lookup_append_none{key:bF}{m:Nat}{l:List (bF×Nat)}(h:l.lookup key=none):(l++[(key,m)]).lookup key=some m:=by
 induction l with
 |nil=>simp
 |cons p l aE=>
  rw[List.cons_append,gV]
  rw[gV]at h
  split at h<;>simp_all
theorem cv.C5(h:cv)(W:List Nat)(a b:Nat):({h with wait:=W}:cv).join a b={h.join a b with wait:=if root h.p a=root h.p b then W else W++h.c4 (max (root h.p a) (root h.p b))}:=by
 unfold cv.join
 dsimp only
 split<;>simp_all
theorem cv.ze(h:cv)(a b:Nat):(h.join a b).known=h.known:=by
 unfold cv.join;dsimp only;split<;>rfl
theorem Inv.Ub{U:List bF}{told done:List (Nat×Nat)}{h:cv}{W:List Nat}{n:Nat}{x:bF}(aM:Inv U told done {h with wait:=W++[n]})(ar:U[n]?=some x):∃hK,(∀q∈done,q∈hK)/\Inv U told hK (({h with wait:=W}:cv).look U n):=by
 have aH:n<U.length:=(e4.mp ar).1
 have y4:U.getD n ⟨Str.empty,[]⟩=x:=by simp[List.getD,ar]
 unfold cv.look
 dsimp only
 rw[y4]
 cases aw:h.known.lookup (canon (root h.p) x)with
 |none=>
  dsimp only
  refine⟨done,λq aL=>aL,?_⟩
  refine⟨aM.len,aM.down,aM.mV,aM.sound,aM.dg,aM.iG,aM.o7,λkey m aR=>?_,λi hi=>aM.sE i (i6 _ hi),λi y bc=>?_,aM.told⟩
  ·rcases er.mp aR with q|q
   ·exact aM.pW key m q
   ·cases cK.mp q
    refine⟨aH,x,ar,rfl,by simp[canon],λi k l aq iT=>?_⟩
    simp only[canon,iM,iT,Option.map_some,Option.some.injEq]at aq
    rw[←aq]
    exact(aM.sound l).symm
  ·rcases aM.look i y bc with q|⟨m,a2,a9⟩
   ·rcases er.mp q with q|q
    ·exact .inl q
    ·cases cK.mp q
     rw[ar]at bc;refine c0 bc λcA=>?_;clear bc;subst cA
     exact .inr ⟨n,lookup_append_none aw,rfl⟩
   ·exact .inr ⟨m,Ue a2,a9⟩
 |some m=>
  dsimp only
  refine bU (aM.pW _ m (zj aw)) λaR bC=>?_;refine iv bC λy bc ai ak aV=>?_;clear bC
  have ax:gq U told m n:=by
   refine .rE bc ar (ai.symm.trans rfl) (by rw[←ak];simp[canon]) λi k l aq iT=>?_
   have f3:(canon (root h.p) x).kids[i]?=some (root h.p l):=by simp[canon,iT]
   exact((aV i _ k f3 aq).symm).trans (aM.sound l).symm
  have my:=aM.join aR aH ax
  refine⟨(m,n)::done,λq aL=>.tail _ aL,?_⟩
  rw[cv.C5]at my⊢
  refine my.W5 (W:=if root h.p m=root h.p n then W else W++h.c4 (max (root h.p m) (root h.p n))) (λi hi=>my.sE i ?_) λi z hz hi=>?_
  ·dsimp only
   split
   ·rename_i q;rw[a3 q]at hi;exact i6 _ hi
   ·rename_i q;rw[bq q]at hi
    rcases er.mp hi with eL|eL
    ·exact i6 _ (i6 _ eL)
    ·exact iJ _ eL
  ·dsimp only at hi⊢
   by_cases e:root h.p m=root h.p n
   ·rw[a3 e]at hi⊢
    rcases er.mp hi with q|q
    ·exact .inl q
    ·cases cK.mp q
     rw[ar]at hz;refine c0 hz λd0=>?_;clear hz;subst d0
     refine .inr ⟨m,?_,?_⟩
     ·rw[cv.ze]
      have aF:(h.join m n).p=h.p:=by unfold cv.join;dsimp only;rw[a3 e]
      rw[aF];exact aw
     ·have aF:(h.join m n).p=h.p:=by unfold cv.join;dsimp only;rw[a3 e]
      rw[aF];exact e
   ·rw[bq e]at hi⊢
    rcases er.mp hi with q|q
    ·rcases er.mp q with q|q
     ·exact .inl (i6 _ q)
     ·cases cK.mp q
      rw[ar]at hz;refine c0 hz λfg=>?_;clear hz;subst fg
      have aF:(h.join m n).p=h.p.set (max (root h.p m) (root h.p n)) (min (root h.p m) (root h.p n)):=by unfold cv.join;dsimp only;rw[bq e]
      have cZ:h.p.length=U.length:=aM.len
      have Rz:=nX aM.down m
      have j1:=nX aM.down n
      have av:max (root h.p m) (root h.p n)<h.p.length:=by rw[cZ];have:root h.p m<=m:=Rz;have:root h.p n<=n:=j1;lia
      have R7:=KU (p:=h.p) aM.down av (k:=min (root h.p m) (root h.p n)) (by lia) (by
       rcases Nat.le_total (root h.p m) (root h.p n)with q|q
       ·rw[Nat.max_eq_right q];exact nY aM.down n
       ·rw[Nat.max_eq_left q];exact nY aM.down m) (by
       rcases Nat.le_total (root h.p m) (root h.p n)with q|q
       ·rw[Nat.min_eq_left q];exact nY aM.down m
       ·rw[Nat.min_eq_right q];exact nY aM.down n)
      by_cases cJ:∃l∈x.kids,root h.p l=max (root h.p m) (root h.p n)
      ·refine aG cJ λl iT q=>?_;clear cJ
       exact .inl (iJ _ (q▸aM.iG n x l ar iT))
      ·refine .inr ⟨m,?_,my.told (m,n) (.head _)⟩
       rw[cv.ze,aF]
       have:canon (root (h.p.set (max (root h.p m) (root h.p n)) (min (root h.p m) (root h.p n)))) x=canon (root h.p) x:=by
        unfold canon
        congr 1
        refine kE λl iT=>?_
        rw[R7,bq λq=>cJ ⟨l,iT,q⟩]
       rw[this];exact aw
    ·exact .inl (iJ _ q)
noncomputable def jd(p:List Nat):Nat:=((List.range p.length).filter λi=>decide (p.getD i i=i)).length
theorem PP{l:List Nat}{g:Nat}(aH:l.Nodup)(av:g∈l):(l.filter λi=>decide (i≠g)).length+1=l.length:=by
 induction l with
 |nil=>cases av
 |cons x l aE=>
  rw[kH]at aH
  rw[List.filter_cons]
  by_cases e:x=g
  ·haveI pD:l.filter (λi=>decide (i≠g))=l:=by
    rw[List.filter_eq_self]
    intro y bc
    haveI:y≠g:=λq=>aH.1 (e▸q▸bc)
    simpa using this
   rw[bq (by simp[e]),pD]
   rfl
  ·rw[a3 (by simp[e])]
   haveI:=aE aH.2 ((dS.mp av).resolve_left (Ne.symm e))
   simp only[fX]
   lia
theorem J2{p:List Nat}{g k:Nat}(av:g<p.length)(aq:k<g)(r3:p.getD g g=g):jd (p.set g k)+1=jd p:=by
 unfold jd
 rw[mv]
 have e:(List.range p.length).filter (λi=>decide ((p.set g k).getD i i=i))=((List.range p.length).filter λi=>decide (p.getD i i=i)).filter λi=>decide (i≠g):=by
  rw[List.filter_filter]
  refine List.filter_congr λi hi=>?_
  rw[qH av]
  by_cases q:i=g
  ·subst q
   rw[a3 rfl]
   have:¬k=i:=by lia
   simp[this]
  ·rw[bq q];simp[q]
 rw[e]
 exact PP (List.nodup_range.filter _) (jj.mpr ⟨ft.mpr av,by simpa using r3⟩)
structure qh(b N:Nat)(h:cv):Prop where
 c4:∀c,(h.c4 c).length*2^jd h.p<=b*2^N
 len:h.p.length=N
def ku(B:Nat)(h:cv):Nat:=jd h.p*(B+1)+h.wait.length
theorem qh.small{b N:Nat}{h:cv}(X:qh b N h)(c:Nat):(h.c4 c).length<=b*2^N:=aO (Nat.le_mul_of_pos_right _ (Nat.two_pow_pos _)) (X.c4 c)
theorem IV{U:List bF}{told done:List (Nat×Nat)}{h:cv}(aM:Inv U told done h){b:Nat}(X:qh b U.length h){x y:Nat}(ar:x<U.length)(bc:y<U.length):
  qh b U.length (h.join x y)/\ku (b*2^U.length) (h.join x y)<=ku (b*2^U.length) h/\(h.join x y).wait.length<=h.wait.length+b*2^U.length:=by
 unfold cv.join
 dsimp only
 by_cases e:root h.p x=root h.p y
 ·rw[a3 e];exact⟨X,bD _,hD _ _⟩
 ·rw[bq e]
  haveI ZT:=nX aM.down x
  haveI ZU:=nX aM.down y
  haveI oC:max (root h.p x) (root h.p y)<h.p.length:=by rw[aM.len];lia
  haveI r3:h.p.getD (max (root h.p x) (root h.p y)) (max (root h.p x) (root h.p y))=max (root h.p x) (root h.p y):=by
   rcases Nat.le_total (root h.p x) (root h.p y)with q|q
   ·rw[Nat.max_eq_right q];exact nY aM.down y
   ·rw[Nat.max_eq_left q];exact nY aM.down x
  haveI au:=J2 oC (k:=min (root h.p x) (root h.p y)) (by lia) r3
  haveI aZ:=X.small (max (root h.p x) (root h.p y))
  refine⟨⟨λc=>?_,by simp[X.len]⟩,?_,?_⟩
  ·dsimp only
   haveI aF:2^jd h.p=2^jd (h.p.set (max (root h.p x) (root h.p y)) (min (root h.p x) (root h.p y)))*2:=by rw[←au,Nat.pow_succ]
   haveI key:∀c,(h.c4 c).length*(2^jd (h.p.set (max (root h.p x) (root h.p y)) (min (root h.p x) (root h.p y)))*2)<=b*2^U.length:=λc=>aF▸X.c4 c
   split
   ·rw[dO,Nat.add_mul]
    haveI ai:=key (min (root h.p x) (root h.p y))
    haveI ak:=key (max (root h.p x) (root h.p y))
    rw[←Nat.mul_assoc]at ai ak
    lia
   ·haveI ai:=key c
    rw[←Nat.mul_assoc]at ai
    lia
  ·unfold ku
   dsimp only
   rw[dO,←au,Nat.add_mul]
   lia
  ·dsimp only
   rw[dO]
   lia
theorem Uc{U:List bF}{told done:List (Nat×Nat)}{h:cv}{W:List Nat}{n:Nat}(aM:Inv U told done {h with wait:=W++[n]}){b:Nat}(X:qh b U.length h)(aH:n<U.length):
  qh b U.length (({h with wait:=W}:cv).look U n)/\ku (b*2^U.length) (({h with wait:=W}:cv).look U n)<ku (b*2^U.length) {h with wait:=W++[n]}:=by
 haveI kj:qh b U.length ({h with wait:=W}:cv):=⟨X.c4,X.len⟩
 haveI cz:ku (b*2^U.length) ({h with wait:=W}:cv)<ku (b*2^U.length) {h with wait:=W++[n]}:=by
  unfold ku;simp
 unfold cv.look
 dsimp only
 split
 ·exact⟨⟨X.c4,X.len⟩,cz⟩
 ·rename_i m aw
  refine bU (aM.pW _ m (zj aw)) λaR _=>?_
  haveI MB:Inv U told done {h with wait:=W++[n]}:=aM
  refine fV (IV MB (b:=b) ⟨X.c4,X.len⟩ aR aH) λa2 a9 _=>?_
  rw[cv.C5]at a2 a9
  haveI e:=cv.C5 h W m n
  rw[e]
  refine⟨⟨a2.c4,a2.len⟩,?_⟩
  haveI:ku (b*2^U.length) {h.join m n with wait:=if root h.p m=root h.p n then W else W++h.c4 (max (root h.p m) (root h.p n))}<ku (b*2^U.length) {h.join m n with wait:=if root h.p m=root h.p n then W++[n]else W++[n]++h.c4 (max (root h.p m) (root h.p n))}:=by
   unfold ku
   dsimp only
   split<;>simp<;>lia
  exact dE this a9
theorem Inv.mono{U:List bF}{told iF done:List (Nat×Nat)}{h:cv}(aM:Inv U told done h)(bK:∀p∈told,p∈iF):Inv U iF done h:=
 ⟨aM.len,aM.down,aM.mV,λi=>(aM.sound i).mono bK,aM.dg,aM.iG,aM.o7,λkey m aR=>let⟨ai,x,ak,aV,bL,dx⟩:=aM.pW key m aR;⟨ai,x,ak,aV,bL,λi k l aq aw=>(dx i k l aq aw).mono bK⟩,aM.sE,aM.look,aM.told⟩
theorem Inv.SV{U:List bF}{told done:List (Nat×Nat)}{h:cv}(aM:Inv U told done h)(hw:h.wait=[])(hd:∀q∈told,q∈done):np U told (root h.p) where
 le:=nX aM.down
 mem:=aM.sound
 iff:=λi j _ _ c=>by
  refine Gd (f:=root h.p) (λq aL=>aM.told q (hd q aL)) (λa b x y aC ab aD aq=>?_) c
  have vU:canon (root h.p) x=canon (root h.p) y:=by unfold canon;rw[aD,aq]
  rcases aM.look a x aC with q|⟨m,a2,a9⟩
  ·rw[hw]at q;cases q
  ·rcases aM.look b y ab with q|⟨bh,DV,q3⟩
   ·rw[hw]at q;cases q
   ·rw[vU,DV]at a2
    refine c0 a2 λbC=>?_;clear a2;subst bC
    rw[←a9,←q3]
noncomputable def fY(U:List bF):cv:=
 {p:=List.range U.length,dg:=λi=>[i],known:=U.zipIdx,c4:=λc=>(List.range U.length).filter λi=>decide (∃x,U[i]?=some x/\c∈x.kids),wait:=[]}
theorem range_getD(N i:Nat):(List.range N).getD i i=i:=by
 simp only[kC]
 by_cases h:i<N
 ·rw[List.getElem?_range h];rfl
 ·rw[lM (by simpa using h)];rfl
theorem El(N:Nat):Down (List.range N):=λi=>by rw[range_getD];exact bD _
theorem w5(N i:Nat):root (List.range N) i=i:=w9 (El N) (range_getD N i)
theorem canon_id(N:Nat)(x:bF):canon (root (List.range N)) x=x:=by
 unfold canon
 haveI:(root (List.range N))=id:=funext λi=>w5 N i
 rw[this,List.map_id]
theorem LX{x:bF}:∀{l:List bF} {k i:Nat},l.Nodup->l[i]?=some x->(l.zipIdx k).lookup x=some (k+i)
 |y::l,k,i,aH,h=>by
  rw[kH]at aH
  rw[List.zipIdx_cons,gV]
  cases i with
  |zero=>
   simp only[List.getElem?_cons_zero,Option.some.injEq]at h
   subst h;simp
  |succ i=>
   simp only[List.getElem?_cons_succ]at h
   have e1:x≠y:=λe=>aH.1 (e▸eN h)
   rw[show(x==y)=false by simpa using e1]
   have:=LX (k:=k+1) aH.2 h
   simp only
   rw[this];congr 1;lia
theorem NF{U:List bF}(aH:U.Nodup)(aq:∀x∈U,∀k∈x.kids,k<U.length):Inv U [] [] (fY U) where
 len:=by simp[fY]
 down:=El _
 mV:=aq
 sound i:=by refine(?_:gq U [] i (root (List.range U.length) i));rw[w5];exact .refl i
 dg r au _:=⟨by simp[fY],λi=>by
  refine(?_:i∈[r]↔i<U.length/\root (List.range U.length) i=r)
  rw[w5,cK]
  constructor
  ·rintro rfl;exact⟨au,rfl⟩
  ·exactλq=>q.2⟩
 iG i x k ar dt:=by
  show i∈(List.range U.length).filter _
  rw[jj]
  refine⟨ft.mpr (e4.mp ar).1,?_⟩
  simp only[iL]
  exact⟨x,ar,by rw[show(fY U).p=List.range U.length from rfl,w5];exact dt⟩
 o7 c i hi:=ft.mp (jj.mp hi).1
 pW key m aR:=by
  haveI f5:(key,m)∈U.zipIdx:=aR
  rw[List.mem_zipIdx_iff_getElem?]at f5
  refine⟨(e4.mp f5).1,key,f5,rfl,rfl,λi k l ai ak=>?_⟩
  rw[ai]at ak;refine c0 ak λcj=>?_;clear ak;subst cj;exact .refl _
 sE i hi:=by cases hi
 look i x ar:=.inr ⟨i,by
  refine(?_:U.zipIdx.lookup (canon (root (List.range U.length)) x)=some i)
  rw[canon_id,LX aH ar,Nat.zero_add],rfl⟩
 told q aL:=by cases aL
noncomputable def g8(st:List Nat×Bool)(q:Nat×Nat):List Nat×Bool:=
 let lo:=min (st.1.getD q.1 0) (st.1.getD q.2 0);let hi:=max (st.1.getD q.1 0) (st.1.getD q.2 0)
 if lo≠hi then(st.1.map λc=>if c=hi then lo else c,true)else st
structure qi(U:List bF)(told:List (Nat×Nat))(f:List Nat):Prop where
 len:f.length=U.length
 le:∀i,f.getD i 0<=i
 sound:∀i,i<U.length->gq U told i (f.getD i 0)
theorem HD{f:List Nat}{g:Nat->Nat}{i:Nat}(hi:i<f.length):(f.map g).getD i 0=g (f.getD i 0):=by
 simp[List.getD,hi]
theorem Yg{f:List Nat}{lo hi:Nat}(h:lo<hi)(aR:hi∈f):(f.map λc=>if c=hi then lo else c).sum<f.sum:=by
 haveI le:∀l:List Nat,(l.map λc=>if c=hi then lo else c).sum<=l.sum:=λl=>by
  induction l with
  |nil=>simp
  |cons x l aE=>
   simp only[gm,List.sum_cons]
   split<;>lia
 induction f with
 |nil=>cases aR
 |cons x l aE=>
  simp only[gm,List.sum_cons]
  haveI:=le l
  by_cases e:x=hi
  ·rw[a3 e];lia
  ·rw[bq e]
   haveI:=aE ((dS.mp aR).resolve_left (Ne.symm e))
   lia
theorem X7{U:List bF}{told:List (Nat×Nat)}{f:List Nat}(aM:qi U told f){b:Bool}{q:Nat×Nat}(ai:q.1<U.length)(ak:q.2<U.length)(ax:gq U told q.1 q.2):
  qi U told (g8 (f,b) q).1/\((g8 (f,b) q=(f,b)/\f.getD q.1 0=f.getD q.2 0)\/((g8 (f,b) q).2=true/\(g8 (f,b) q).1.sum<f.sum)):=by
 unfold g8
 dsimp only
 by_cases e:f.getD q.1 0=f.getD q.2 0
 ·rw[bq (by rw[e];simp)]
  exact⟨aM,.inl ⟨rfl,e⟩⟩
 ·rw[a3 (by lia)]
  haveI qP:min (f.getD q.1 0) (f.getD q.2 0)<max (f.getD q.1 0) (f.getD q.2 0):=by lia
  haveI gQ:max (f.getD q.1 0) (f.getD q.2 0)∈f:=by
   haveI m:∀i,i<U.length->f.getD i 0∈f:=λi hi=>by
    haveI dW:i<f.length:=by rw[aM.len];exact hi
    haveI:f.getD i 0=f[i]:=by simp[List.getD,dW]
    rw[this];exact List.getElem_mem dW
   rcases Nat.le_total (f.getD q.1 0) (f.getD q.2 0)with w|w
   ·rw[Nat.max_eq_right w];exact m _ ak
   ·rw[Nat.max_eq_left w];exact m _ ai
  haveI QV:gq U told (max (f.getD q.1 0) (f.getD q.2 0)) (min (f.getD q.1 0) (f.getD q.2 0)):=by
   haveI c:=((aM.sound q.1 ai).symm.trans ax).trans (aM.sound q.2 ak)
   rcases Nat.le_total (f.getD q.1 0) (f.getD q.2 0)with w|w
   ·rw[Nat.max_eq_right w,Nat.min_eq_left w];exact c.symm
   ·rw[Nat.max_eq_left w,Nat.min_eq_right w];exact c
  refine⟨⟨by simp[aM.len],λi=>?_,λi hi=>?_⟩,.inr ⟨rfl,Yg qP gQ⟩⟩
  ·by_cases hi:i<f.length
   ·rw[HD hi]
    haveI:=aM.le i
    split<;>lia
   ·simp[List.getD,lM (Nat.le_of_not_lt hi)]
  ·rw[HD (by rw[aM.len];exact hi)]
   split
   ·rename_i w;exact(w▸aM.sound i hi).trans QV
   ·exact aM.sound i hi
theorem ED{U:List bF}{told:List (Nat×Nat)}:∀(L:List (Nat×Nat)) (f:List Nat) (b:Bool),qi U told f->(∀q∈L,q.1<U.length/\q.2<U.length/\gq U told q.1 q.2)->
  qi U told (L.foldl g8 (f,b)).1/\((L.foldl g8 (f,b)=(f,b)/\∀q∈L,f.getD q.1 0=f.getD q.2 0)\/((L.foldl g8 (f,b)).2=true/\(L.foldl g8 (f,b)).1.sum<f.sum))
 |[],f,b,aM,_=>⟨aM,.inl ⟨rfl,λ_ h=>by cases h⟩⟩
 |q::L,f,b,aM,dQ=>by
  refine fV (dQ q (.head _)) λai ak aV=>?_
  refine bU (X7 aM (b:=b) ai ak aV) λmy bn=>?_
  rw[List.foldl_cons]
  rcases bn with⟨e,a0⟩|⟨aS,bf⟩
  ·rw[e]
   refine bU (ED L f b aM λq aL=>dQ q (.tail _ aL)) λK aq=>?_
   refine⟨K,aq.imp (λw=>⟨w.1,λeL aL=>?_⟩) id⟩
   rcases dS.mp aL with rfl|aL
   ·exact a0
   ·exact w.2 eL aL
  ·haveI al:g8 (f,b) q=((g8 (f,b) q).1,true):=Prod.ext rfl aS
   rw[al]
   refine bU (ED L (g8 (f,b) q).1 true my λq aL=>dQ q (.tail _ aL)) λK aq=>?_
   refine⟨K,.inr ?_⟩
   rcases aq with⟨kB,_⟩|⟨kB,kc⟩
   ·rw[kB];exact⟨rfl,bf⟩
   ·exact⟨kB,k2 kc bf⟩
noncomputable def lF(U:List bF)(f:List Nat)(a b:Nat):Bool:=match U[a]?,U[b]? with
 |some x,some y=>decide (x.op=y.op)&&decide (x.kids.length=y.kids.length)&&decide (x.kids.map (λk=>f.getD k 0)=y.kids.map λk=>f.getD k 0)
 |_,_=>false
def m2(U:List bF)(f:List Nat):List (Nat×Nat):=(List.range U.length).flatMap λb=>((List.range b).filter λa=>lF U f a b).map λa=>(a,b)
theorem VU{U:List bF}{told:List (Nat×Nat)}{f:List Nat}(aM:qi U told f)(aq:∀x∈U,∀k∈x.kids,k<U.length):∀q∈m2 U f,q.1<U.length/\q.2<U.length/\gq U told q.1 q.2:=by
 intro q aL
 refine aG (List.mem_flatMap.mp aL) λb ab aL=>?_
 refine aG (b5.mp aL) λa aC a2=>?_;subst a2
 refine bU (jj.mp aC) λQE tv=>?_
 rw[ft]at ab QE
 refine⟨by show a<_;lia,ab,?_⟩
 unfold lF at tv
 split at tv
 ·rename_i x y ar bc
  simp only[Bool.and_eq_true,iL]at tv
  refine bU tv λa9 aV=>?_;clear tv;refine bU a9 λai ak=>?_;clear a9
  refine .rE ar bc ai ak λi k l hi aw=>?_
  haveI e:f.getD k 0=f.getD l 0:=by
   haveI:=bb (λz:List Nat=>z[i]?) aV
   simpa [hi,aw] using this
  exact(aM.sound k (aq x (eN ar) k (eN hi))).trans (e▸(aM.sound l (aq y (eN bc) l (eN aw))).symm)
 ·cases tv
theorem N8{U:List bF}{told:List (Nat×Nat)}{f:List Nat}(aM:qi U told f)(bK:∀q∈told,q.1<U.length/\q.2<U.length)(aq:∀x∈U,∀k∈x.kids,k<U.length)(h:∀q∈told++m2 U f,f.getD q.1 0=f.getD q.2 0):np U told λi=>if i<U.length then f.getD i 0 else i where
 le i:=by
  split
  ·exact aM.le i
  ·exact bD _
 mem i:=by
  split
  ·rename_i hi;exact aM.sound i hi
  ·exact .refl i
 iff i j hi bn c:=by
  refine Gd (f:=λi=>if i<U.length then f.getD i 0 else i) (λq aL=>?_) (λa b x y ar bc aD l6=>?_) c
  ·rw[a3 (bK q aL).1,a3 (bK q aL).2]
   exact h q (i6 _ aL)
  ·have aC:=(e4.mp ar).1
   have ab:=(e4.mp bc).1
   rw[a3 aC,a3 ab]
   have e:∀z∈U,z.kids.map (λi=>if i<U.length then f.getD i 0 else i)=z.kids.map λk=>f.getD k 0:=λz hz=>kE λk dt=>by rw[a3 (aq z hz k dt)]
   rw[e x (eN ar),e y (eN bc)]at l6
   have aw:x.kids.length=y.kids.length:=by simpa using bb List.length l6
   have mem:∀a b x y,a<b->b<U.length->U[a]?=some x->U[b]?=some y->x.op=y.op->x.kids.length=y.kids.length->x.kids.map (λk=>f.getD k 0)=y.kids.map (λk=>f.getD k 0)->f.getD a 0=f.getD b 0:=λa b x y vP ab ar bc ai ak aV=>by
    refine h (a,b) (iJ _ (List.mem_flatMap.mpr ⟨b,ft.mpr ab,b5.mpr ⟨a,jj.mpr ⟨ft.mpr vP,?_⟩,rfl⟩⟩))
    unfold lF
    rw[ar,bc]
    simp only[ai,ak,aV,decide_true,Bool.and_self]
   rcases Nat.lt_trichotomy a b with w|w|w
   ·exact mem a b x y w ab ar bc aD aw l6
   ·rw[w]
   ·exact(mem b a y x w aC bc ar aD.symm aw.symm l6.symm).symm
end
section
open PySem PySem.W PyProof.Rows PySem.Calls
noncomputable section
noncomputable abbrev bS(w:World):Frag:=hd.heap_1 w.params
noncomputable def eJ:List (Str×Value):=[("_wall",.ref 21),("is_op",.ref 67),("is_variable",.ref 74),("parts",.ref 79),("program",.ref 190),("_law_next",.ref 440),("_law_pattern",.ref 447),("_law_closed",.ref 452),("_law_class",.ref 457),("_law_names",.ref 464),("_law_due",.ref 469),("_law_turned",.ref 474),("law",.ref 479),("HeapError",.ref 47),("TermFault",.ref 60),("Bank",.ref 181),("Machine",.ref 217),("Unions",.ref 299),("Heap",.ref 429)]
noncomputable def eI:List (Str×Value):=[("len",.builtin "len"),("sorted",.builtin "sorted"),("sum",.builtin "sum"),("max",.builtin "max"),("min",.builtin "min"),("tuple",.type "tuple"),("set",.type "set"),("list",.type "list"),("dict",.type "dict"),("str",.type "str"),("range",.type "range"),("enumerate",.type "enumerate")]
variable{prog:Program}{w:World}{am:Heap}
theorem Xz(w:World):setOk (bS w) 181 "depths"=true:=by rfl
theorem XC(w:World):setOk (bS w) 181 "weights"=true:=by rfl
theorem XB(w:World):setOk (bS w) 181 "numbers"=true:=by rfl
theorem XA(w:World):setOk (bS w) 181 "nodes"=true:=by rfl
theorem TH(w:World):keepIn (bS w) (.ref 67)=true:=by rfl
theorem sW(w:World):attrOk (bS w) 181 "nodes"=true:=by rfl
theorem FJ(w:World):attrOk (bS w) 181 "depths"=true:=by rfl
theorem FK(w:World):attrOk (bS w) 181 "weights"=true:=by rfl
theorem AJ(w:World):attrOk (bS w) 181 "numbers"=true:=by rfl
theorem UN(w:World):hA (bS w) 181 "require" 112=true:=by rfl
theorem Tj(w:World):keepIn (bS w) (.ref 112)=true:=by rfl
theorem XG(w:World):setOk (bS w) 299 "merged"=true:=by rfl
theorem XF(w:World):setOk (bS w) 299 "lots"=true:=by rfl
theorem XE(w:World):setOk (bS w) 299 "above"=true:=by rfl
theorem o8(w:World):attrOk (bS w) 299 "above"=true:=by rfl
theorem uU(w:World):attrOk (bS w) 299 "lots"=true:=by rfl
theorem M6(w:World):attrOk (bS w) 299 "merged"=true:=by rfl
theorem zv(w:World):hA (bS w) 299 "find" 256=true:=by rfl
theorem zi(w:World):keepIn (bS w) (.ref 256)=true:=by rfl
theorem XO(w:World):setOk (bS w) 429 "waiting"=true:=by rfl
theorem XH(w:World):setOk (bS w) 429 "above"=true:=by rfl
theorem XM(w:World):setOk (bS w) 429 "known"=true:=by rfl
theorem XK(w:World):setOk (bS w) 429 "forest"=true:=by rfl
theorem XJ(w:World):setOk (bS w) 429 "edges"=true:=by rfl
theorem XN(w:World):setOk (bS w) 429 "unions"=true:=by rfl
theorem Tx(w:World):keepIn (bS w) (.ref 299)=true:=by rfl
theorem XI(w:World):setOk (bS w) 429 "bank"=true:=by rfl
theorem Tn(w:World):keepIn (bS w) (.ref 181)=true:=by rfl
theorem sY(w:World):attrOk (bS w) 429 "unions"=true:=by rfl
theorem AK(w:World):attrOk (bS w) 429 "bank"=true:=by rfl
theorem UM(w:World):hA (bS w) 181 "op" 138=true:=by rfl
theorem Tk(w:World):keepIn (bS w) (.ref 138)=true:=by rfl
theorem UL(w:World):hA (bS w) 181 "kids" 145=true:=by rfl
theorem Tl(w:World):keepIn (bS w) (.ref 145)=true:=by rfl
theorem wK(w:World):hA (bS w) 429 "find" 353=true:=by rfl
theorem wE(w:World):keepIn (bS w) (.ref 353)=true:=by rfl
theorem sX(w:World):attrOk (bS w) 429 "above"=true:=by rfl
theorem AL(w:World):attrOk (bS w) 429 "waiting"=true:=by rfl
theorem M7(w:World):attrOk (bS w) 429 "forest"=true:=by rfl
theorem FM(w:World):attrOk (bS w) 429 "edges"=true:=by rfl
theorem UU(w:World):hA (bS w) 299 "merge" 263=true:=by rfl
theorem Tu(w:World):keepIn (bS w) (.ref 263)=true:=by rfl
theorem JE(w:World):hA (bS w) 429 "join" 374=true:=by rfl
theorem I9(w:World):keepIn (bS w) (.ref 374)=true:=by rfl
theorem M8(w:World):attrOk (bS w) 429 "known"=true:=by rfl
theorem JG(w:World):hA (bS w) 429 "node" 329=true:=by rfl
theorem I5(w:World):keepIn (bS w) (.ref 329)=true:=by rfl
theorem JF(w:World):hA (bS w) 429 "look_at" 346=true:=by rfl
theorem I8(w:World):keepIn (bS w) (.ref 346)=true:=by rfl
theorem US(w:World):hA (bS w) 299 "make" 242=true:=by rfl
theorem Ts(w:World):keepIn (bS w) (.ref 242)=true:=by rfl
theorem UV(w:World):hA (bS w) 299 "size" 249=true:=by rfl
theorem Tt(w:World):keepIn (bS w) (.ref 249)=true:=by rfl
theorem UO(w:World):hA (bS w) 181 "take" 105=true:=by rfl
theorem Ti(w:World):keepIn (bS w) (.ref 105)=true:=by rfl
theorem JH(w:World):hA (bS w) 429 "put" 339=true:=by rfl
theorem I7(w:World):keepIn (bS w) (.ref 339)=true:=by rfl
theorem JD(w:World):hA (bS w) 429 "add" 334=true:=by rfl
theorem I6(w:World):keepIn (bS w) (.ref 334)=true:=by rfl
theorem UR(w:World):hA (bS w) 299 "classes" 275=true:=by rfl
theorem Tw(w:World):keepIn (bS w) (.ref 275)=true:=by rfl
theorem UT(w:World):hA (bS w) 299 "members" 270=true:=by rfl
theorem Tv(w:World):keepIn (bS w) (.ref 270)=true:=by rfl
theorem UX(w:World):hA (bS w) 429 "members" 402=true:=by rfl
theorem TB(w:World):keepIn (bS w) (.ref 402)=true:=by rfl
theorem TI(w:World):keepIn (bS w) (.ref 74)=true:=by rfl
theorem XD(w:World):setOk (bS w) 217 "heap"=true:=by rfl
theorem FL(w:World):attrOk (bS w) 217 "heap"=true:=by rfl
theorem UZ(w:World):hA (bS w) 429 "nodes_of" 407=true:=by rfl
theorem TC(w:World):keepIn (bS w) (.ref 407)=true:=by rfl
theorem UQ(w:World):hA (bS w) 217 "steps" 209=true:=by rfl
theorem Tp(w:World):keepIn (bS w) (.ref 209)=true:=by rfl
theorem UW(w:World):hA (bS w) 429 "classes" 395=true:=by rfl
theorem TA(w:World):keepIn (bS w) (.ref 395)=true:=by rfl
theorem nR(w:World):keepIn (bS w) (.ref 440)=true:=by rfl
theorem C7(w:World):keepIn (bS w) (.ref 447)=true:=by rfl
theorem Jb(w:World):keepIn (bS w) (.ref 457)=true:=by rfl
theorem Jc(w:World):keepIn (bS w) (.ref 464)=true:=by rfl
theorem Jd(w:World):keepIn (bS w) (.ref 474)=true:=by rfl
def EH:aY (Bool×aa):=(jC (qa (eV "str" (aj 1) aJ AV)) (jC (cP .In (aj 1) (a7 (.str "()[]{},:"))) qA))
def GV:aY (D×aa):=(aj 1)
def PI:aY (ca×aK×aa):=(bl (d9 (xG (s6 (cP .NotEq (aj 0) (a7 (.str "")))) (s6 (cP .Eq (ea (c9 (aj 0)) [none,none] (b9 1) (EH) (dL (GV))) (fM aJ))))) cc)
def vD:List D->aa->Option (D×aa):=eP 1 [some 0] PI
theorem Mt(G:eD am (bS w) eJ eI):dU prog w am 1 (.ref 67) vD:=
 fc (n:=0) G [some 0] 1 (by rfl) (by rfl) (v1 λ_=>rfl) (by rfl) (by rfl) ag ag ag ag rfl rfl rfl (bA (eO (Gw (xY (aQ 0) fz rfl) (xY (ib ⟨rfl,by decide,by decide,rfl⟩ (gC (aQ 0)) (hg 1 rfl (.inl rfl) (λh=>absurd rfl h)) (tc (qu (xX (gY "str" _ PySem.F.slot_str_isspace PySem.F.type_str_isspace PySem.F.plainAttrs_str NK (bD _) (aQ 1) ba (λ_=>trivial) (di rfl rfl)) (λ_ _=>rfl)) (qu (eZ (aQ 1) fz rfl) xW))) (aQ 1) (.inr ⟨rfl,rfl⟩) (λ_ _=>rfl)) (by refine gZ ?_ ?_;exact ba;exact ag) rfl))) cr)
def PJ:aY (ca×aK×aa):=(bl (d9 (xG (s6 (cP .Eq (bW (ay (aj 0) aJ) ek) (a7 (.int 1)))) (s6 (cP .Eq (p9 (bX (aj 0) (a7 (.int 0))) (a7 (.int 1))) (a7 (.str "?")))))) cc)
def vE:List D->aa->Option (D×aa):=eP 1 [some 0,none] PJ
theorem Mu(G:eD am (bS w) eJ eI):dU prog w am 1 (.ref 74) vE:=
 fc (n:=0) G [some 0,none] 1 (by rfl) (by rfl) (v1 λ_=>rfl) (by rfl) (by rfl) ag ag ag ag rfl rfl rfl (bA (eO (Gw (xY (fZ (G.c5 _ _ rfl) rfl rfl hH (bD _) (aW (aQ 0) ba)) cu rfl) (xY (x0 (cV (aQ 0) cu (λ_ _=>rfl)) cu) fz rfl))) cr)
def Pb:aY (ca×aK×aa):=(bl (cS (fM aJ) (kz 181 "nodes" (aj 0))) (bl (cS (th (.du [])) (kz 181 "numbers" (aj 0))) (bl (cS (fM aJ) (kz 181 "weights" (aj 0))) (bl (cS (fM aJ) (kz 181 "depths" (aj 0))) cc))))
def Hr:List D->aa->Option (D×aa):=eP 1 [some 0] Pb
theorem L5(G:eD am (bS w) eJ eI):dU prog w am 1 (.ref 93) Hr:=
 fc (n:=0) G [some 0] 1 (by rfl) (by rfl) (v1 λ_=>rfl) (by rfl) (by rfl) ag ag ag ag rfl rfl rfl (by refine bA ?_ ?_;exact(by refine dK ?_ ?_ ?_;exact(by refine gZ ?_ ?_;exact ba;exact ag);exact(kN 181 G.X (XA w) (aQ 0));exact(λae h=>dJ ae rfl rfl rfl));exact(by refine bA ?_ ?_;exact(by refine dK ?_ ?_ ?_;exact(u7 (.du []) (.inr (.inr rfl)));exact(kN 181 G.X (XB w) (aQ 0));exact(λae h=>dJ ae rfl rfl rfl));exact(by refine bA ?_ ?_;exact(by refine dK ?_ ?_ ?_;exact(by refine gZ ?_ ?_;exact ba;exact ag);exact(kN 181 G.X (XC w) (aQ 0));exact(λae h=>dJ ae rfl rfl rfl));exact(by refine bA ?_ ?_;exact(by refine dK ?_ ?_ ?_;exact(by refine gZ ?_ ?_;exact ba;exact ag);exact(kN 181 G.X (Xz w) (aQ 0));exact(λae h=>dJ ae rfl rfl rfl));exact cr))))
def Hq:List D->aa->Option (D×aa):=tR 181 Hr
theorem L4(G:eD am (bS w) eJ eI):dU prog w am 5 (.ref 181) Hq:=yf G.X (by rfl) (by rfl) (by rfl) (L5 G)
def Pe:aY (ca×aK×aa):=(bl (f6 (jC (p0 (qa (bW (ay (aj 1) aJ) vD))) (jC (cP .Eq (bX (aj 1) (a7 (.int 0))) (a7 (.str "?"))) qA)) (bl (λ_ _=>none) cc) cc) cc)
def BK:List D->aa->Option (D×aa):=eP 2 [some 0,some 1,none,none] Pe
theorem L8(G:eD am (bS w) eJ eI):dU prog w am 2 (.ref 112) BK:=
 fc (n:=1) G [some 0,some 1,none,none] 2 (by rfl) (by rfl) (v2 λ_ _=>rfl) (by rfl) (by rfl) ag ag ag ag rfl rfl rfl (bA (iA (qu (Bj (xX (gD G.X (G.gl _ _ rfl) (TH w) rfl rfl (Mt G) (by lia) (aW (aQ 1) ba)) (λ_ _=>rfl))) (qu (eZ (cV (aQ 1) cu (λ_ _=>rfl)) fz rfl) xW)) (bA Gs cr) cr) cr)
def GJ:aY (D×aa):=(bX (cn 181 "depths" (aj 2)) (aj 1))
def GQ:aY (D×aa):=(bX (cn 181 "weights" (aj 2)) (aj 1))
def xH:aY (ca×aK×aa):=(bl (f6 (p0 (A8 .LtE .Lt (a7 (.int 0)) (aj 4) (bW (ay (cn 181 "nodes" (aj 0)) aJ) ek))) (bl (λ_ _=>none) cc) cc) cc)
def Pf:aY (ca×aK×aa):=(bl (cS (et .Add (dd (ay (aj 1) aJ)) (bW (ay (aj 2) aJ) jR)) (b9 3)) (bl (f6 (cP .In (aj 3) (cn 181 "numbers" (aj 0))) (bl (d9 (bX (cn 181 "numbers" (aj 0)) (aj 3))) cc) cc) (bl (fo (dy 181 "require" (aj 0) (ay (aj 1) aJ) BK)) (bl (jX (c9 (iR (aj 3) (a7 (.int 1)))) (b9 4) (xH)) (bl (cS (bW (ay (cn 181 "nodes" (aj 0)) aJ) ek) (m7 (cn 181 "numbers" (aj 0)) (aj 3))) (bl (fo (eV "list" (cn 181 "nodes" (aj 0)) (ay (aj 3) aJ) bAppend)) (bl (fo (eV "list" (cn 181 "weights" (aj 0)) (ay (et .Add (a7 (.int 1)) (bW (ay (ea (c9 (iR (aj 3) (a7 (.int 1)))) [none,none,some 0] (b9 1) ef (dL (GQ))) aJ) uY)) aJ) bAppend)) (bl (fo (eV "list" (cn 181 "depths" (aj 0)) (ay (et .Add (a7 (.int 1)) (bW (ay (et .Add (ea (c9 (iR (aj 3) (a7 (.int 1)))) [none,none,some 0] (b9 1) ef (dL (GJ))) (fM (ay (a7 (.int 0)) aJ))) aJ) qo)) aJ) bAppend)) (bl (d9 (et .Sub (bW (ay (cn 181 "nodes" (aj 0)) aJ) ek) (a7 (.int 1)))) cc)))))))))
def yi:List D->aa->Option (D×aa):=eP 3 [some 0,some 1,some 2,none,none,none,none,none,none,none] Pf
theorem L9(G:eD am (bS w) eJ eI):dU prog w am 3 (.ref 105) yi:=
 fc (n:=2) G [some 0,some 1,some 2,none,none,none,none,none,none,none] 3 (by rfl) (by rfl) (n6 λ_ _ _=>rfl) (by rfl) (by rfl) ag ag ag ag rfl rfl rfl (bA (dK (fb (eb (aW (aQ 1) ba) ag) (lZ (G.c5 _ _ rfl) rfl rfl pi (bD _) (aW (aQ 2) ba))) (gb 3 rfl (.inl rfl)) (λae h=>dJ ae rfl rfl rfl)) (bA (iA (eZ (aQ 3) (dZ 181 G.X (AJ w) (ci 0) (dY rfl)) rfl) (bA (eO (cV (dZ 181 G.X (AJ w) (ci 0) (dY rfl)) (aQ 3) (λ_ _=>rfl))) cr) cr) (bA (gX (fy 181 _ G.X (UN w) (Tj w) (L8 G) (by lia) (ci 0) (aW (aQ 1) ba) (λ_=>⟨rfl,λ_=>rfl⟩) (di rfl rfl)) (g0 rfl)) (bA (ow (gC (nB (aQ 3) cu)) (gb 4 rfl (.inl rfl)) (by refine bA ?_ ?_;exact(by refine iA ?_ ?_ ?_;exact(by refine Bj ?_;exact(by refine Oq ?_ ?_ ?_ ?_;exact cu;exact(aQ 4);exact(fZ (G.c5 _ _ rfl) rfl rfl hH (bD _) (aW (dZ 181 G.X (sW w) (ci 0) (dY rfl)) ba));exact rfl));exact(bA Gs cr);exact cr);exact cr) (.inr ⟨rfl,rfl⟩) (λ_ _=>rfl)) (bA (dK (fZ (G.c5 _ _ rfl) rfl rfl hH (bD _) (aW (dZ 181 G.X (sW w) (ci 0) (dY rfl)) ba)) (rF (dZ 181 G.X (AJ w) (ci 0) (dY rfl)) (aQ 3)) (λae h=>dJ ae rfl rfl rfl)) (bA (gX (gY "list" _ lL lK ix lj (bD _) (dZ 181 G.X (sW w) (ci 0) (dY rfl)) (aW (aQ 3) ba) (λ_=>⟨rfl,λ_=>rfl⟩) (di rfl rfl)) (g0 rfl)) (bA (gX (gY "list" _ lL lK ix lj (bD _) (dZ 181 G.X (FK w) (ci 0) (dY rfl)) (by refine aW ?_ ?_ ?_;exact(by refine fb ?_ ?_;exact cu;exact(fZ (G.c5 _ _ rfl) rfl rfl NP (bD _) (aW (ib ⟨rfl,by decide,by decide,rfl⟩ (gC (nB (aQ 3) cu)) (hg 1 rfl (.inl rfl) (λh=>absurd rfl h)) ia (cV (dZ 181 G.X (FK w) (ci 2) (dY rfl)) (aQ 1) (λ_ _=>rfl)) (.inr ⟨rfl,rfl⟩) (λ_ _=>rfl)) ba)));exact ba;exact(λ_=>rfl)) (by exactλ_=>⟨rfl,λ_=>rfl⟩) (di rfl rfl)) (g0 rfl)) (bA (gX (gY "list" _ lL lK ix lj (bD _) (dZ 181 G.X (FJ w) (ci 0) (dY rfl)) (by refine aW ?_ ?_ ?_;exact(by refine fb ?_ ?_;exact cu;exact(fZ (G.c5 _ _ rfl) rfl rfl F2 (bD _) (aW (fb (ib ⟨rfl,by decide,by decide,rfl⟩ (gC (nB (aQ 3) cu)) (hg 1 rfl (.inl rfl) (λh=>absurd rfl h)) ia (cV (dZ 181 G.X (FJ w) (ci 2) (dY rfl)) (aQ 1) (λ_ _=>rfl)) (.inr ⟨rfl,rfl⟩) (λ_ _=>rfl)) (by refine gZ ?_ ?_;exact(by refine aW ?_ ?_ ?_;exact cu;exact ba;exact(λ_=>rfl));exact ag)) ba)));exact ba;exact(λ_=>rfl)) (by exactλ_=>⟨rfl,λ_=>rfl⟩) (di rfl rfl)) (g0 rfl)) (bA (eO (fb (fZ (G.c5 _ _ rfl) rfl rfl hH (bD _) (aW (dZ 181 G.X (sW w) (ci 0) (dY rfl)) ba)) cu)) cr)))))))))
def Pd:aY (ca×aK×aa):=(bl (d9 (bX (bX (cn 181 "nodes" (aj 0)) (aj 1)) (a7 (.int 0)))) cc)
def BJ:List D->aa->Option (D×aa):=eP 2 [some 0,some 1] Pd
theorem L7(G:eD am (bS w) eJ eI):dU prog w am 1 (.ref 138) BJ:=
 fc (n:=0) G [some 0,some 1] 2 (by rfl) (by rfl) (v2 λ_ _=>rfl) (by rfl) (by rfl) ag ag ag ag rfl rfl rfl (bA (eO (cV (cV (dZ 181 G.X (sW w) (aQ 0) (dY rfl)) (aQ 1) (λ_ _=>rfl)) cu (λ_ _=>rfl))) cr)
def Pc:aY (ca×aK×aa):=(bl (d9 (iR (bX (cn 181 "nodes" (aj 0)) (aj 1)) (a7 (.int 1)))) cc)
def BI:List D->aa->Option (D×aa):=eP 2 [some 0,some 1] Pc
theorem L6(G:eD am (bS w) eJ eI):dU prog w am 1 (.ref 145) BI:=
 fc (n:=0) G [some 0,some 1] 2 (by rfl) (by rfl) (v2 λ_ _=>rfl) (by rfl) (by rfl) ag ag ag ag rfl rfl rfl (bA (eO (nB (cV (dZ 181 G.X (sW w) (aQ 0) (dY rfl)) (aQ 1) (λ_ _=>rfl)) cu)) cr)
def Pv:aY (ca×aK×aa):=(bl (cS (fM aJ) (kz 299 "above" (aj 0))) (bl (cS (fM aJ) (kz 299 "lots" (aj 0))) (bl (cS (fM aJ) (kz 299 "merged" (aj 0))) cc)))
def Hu:List D->aa->Option (D×aa):=eP 1 [some 0] Pv
theorem Ml(G:eD am (bS w) eJ eI):dU prog w am 1 (.ref 235) Hu:=
 fc (n:=0) G [some 0] 1 (by rfl) (by rfl) (v1 λ_=>rfl) (by rfl) (by rfl) ag ag ag ag rfl rfl rfl (by refine bA ?_ ?_;exact(by refine dK ?_ ?_ ?_;exact(by refine gZ ?_ ?_;exact ba;exact ag);exact(kN 299 G.X (XE w) (aQ 0));exact(λae h=>dJ ae rfl rfl rfl));exact(by refine bA ?_ ?_;exact(by refine dK ?_ ?_ ?_;exact(by refine gZ ?_ ?_;exact ba;exact ag);exact(kN 299 G.X (XF w) (aQ 0));exact(λae h=>dJ ae rfl rfl rfl));exact(by refine bA ?_ ?_;exact(by refine dK ?_ ?_ ?_;exact(by refine gZ ?_ ?_;exact ba;exact ag);exact(kN 299 G.X (XG w) (aQ 0));exact(λae h=>dJ ae rfl rfl rfl));exact cr)))
def Ht:List D->aa->Option (D×aa):=tR 299 Hu
theorem Mk(G:eD am (bS w) eJ eI):dU prog w am 5 (.ref 299) Ht:=yf G.X (by rfl) (by rfl) (by rfl) (Ml G)
def Py:aY (ca×aK×aa):=(bl (fo (eV "list" (cn 299 "above" (aj 0)) (ay (bW (ay (cn 299 "above" (aj 0)) aJ) ek) aJ) bAppend)) (bl (fo (eV "list" (cn 299 "lots" (aj 0)) (ay (fM (ay (bW (ay (cn 299 "lots" (aj 0)) aJ) ek) aJ)) aJ) bAppend)) (bl (d9 (et .Sub (bW (ay (cn 299 "above" (aj 0)) aJ) ek) (a7 (.int 1)))) cc)))
def yn:List D->aa->Option (D×aa):=eP 1 [some 0,none] Py
theorem Mn(G:eD am (bS w) eJ eI):dU prog w am 1 (.ref 242) yn:=
 fc (n:=0) G [some 0,none] 1 (by rfl) (by rfl) (v1 λ_=>rfl) (by rfl) (by rfl) ag ag ag ag rfl rfl rfl (bA (gX (gY "list" _ lL lK ix lj (bD _) (dZ 299 G.X (o8 w) (aQ 0) (dY rfl)) (aW (fZ (G.c5 _ _ rfl) rfl rfl hH (bD _) (aW (dZ 299 G.X (o8 w) (aQ 0) (dY rfl)) ba)) ba) (λ_=>⟨rfl,λ_=>rfl⟩) (di rfl rfl)) (g0 rfl)) (bA (gX (gY "list" _ lL lK ix lj (bD _) (dZ 299 G.X (uU w) (aQ 0) (dY rfl)) (aW (gZ (aW (fZ (G.c5 _ _ rfl) rfl rfl hH (bD _) (aW (dZ 299 G.X (uU w) (aQ 0) (dY rfl)) ba)) ba) ag) ba) (λ_=>⟨rfl,λ_=>rfl⟩) (di rfl rfl)) (g0 rfl)) (bA (eO (fb (fZ (G.c5 _ _ rfl) rfl rfl hH (bD _) (aW (dZ 299 G.X (o8 w) (aQ 0) (dY rfl)) ba)) cu)) cr)))
def PB:aY (ca×aK×aa):=(bl (d9 (bW (ay (cn 299 "above" (aj 0)) aJ) ek)) cc)
def yp:List D->aa->Option (D×aa):=eP 1 [some 0,none] PB
theorem Mq(G:eD am (bS w) eJ eI):dU prog w am 1 (.ref 249) yp:=
 fc (n:=0) G [some 0,none] 1 (by rfl) (by rfl) (v1 λ_=>rfl) (by rfl) (by rfl) ag ag ag ag rfl rfl rfl (bA (eO (fZ (G.c5 _ _ rfl) rfl rfl hH (bD _) (aW (dZ 299 G.X (o8 w) (aQ 0) (dY rfl)) ba))) cr)
def Lg:aY (Bool×aa):=(cP .NotEq (bX (cn 299 "above" (aj 0)) (aj 1)) (aj 1))
def FW:aY (ca×aK×aa):=(bl (cS (bX (cn 299 "above" (aj 0)) (aj 1)) (b9 1)) cc)
def Px:aY (ca×aK×aa):=(bl (kd (Lg) (FW)) (bl (d9 (aj 1)) cc))
def pA:List D->aa->Option (D×aa):=eP 2 [some 0,some 1] Px
theorem xw(G:eD am (bS w) eJ eI):dU prog w am 1 (.ref 256) pA:=
 fc (n:=0) G [some 0,some 1] 2 (by rfl) (by rfl) (v2 λ_ _=>rfl) (by rfl) (by rfl) ag ag ag ag rfl rfl rfl (bA (u5 (eZ (cV (dZ 299 G.X (o8 w) (aQ 0) (dY rfl)) (aQ 1) (λ_ _=>rfl)) (aQ 1) rfl) (bA (dK (cV (dZ 299 G.X (o8 w) (aQ 0) (dY rfl)) (aQ 1) (λ_ _=>rfl)) (gb 1 rfl (.inl rfl)) (λae h=>dJ ae rfl rfl rfl)) cr)) (bA (eO (aQ 1)) cr))
def PA:aY (ca×aK×aa):=(bl (cS (bW (ay (fM (ay (dy 299 "find" (aj 0) (ay (aj 1) aJ) pA) (ay (dy 299 "find" (aj 0) (ay (aj 2) aJ) pA) aJ))) aJ) ny) (gv [3,4])) (bl (f6 (cP .Eq (aj 3) (aj 4)) (bl (d9 (a7 .none)) cc) cc) (bl (cS (aj 3) (m7 (cn 299 "above" (aj 0)) (aj 4))) (bl (fo (eV "list" (bX (cn 299 "lots" (aj 0)) (aj 3)) (ay (bX (cn 299 "lots" (aj 0)) (aj 4)) aJ) pe)) (bl (fo (eV "list" (cn 299 "merged" (aj 0)) (ay (dd (ay (aj 3) (ay (aj 4) aJ))) aJ) bAppend)) (bl (d9 (dd (ay (aj 3) (ay (aj 4) aJ)))) cc))))))
def yo:List D->aa->Option (D×aa):=eP 3 [some 0,some 1,some 2,none,none,none] PA
theorem Mp(G:eD am (bS w) eJ eI):dU prog w am 2 (.ref 263) yo:=
 fc (n:=1) G [some 0,some 1,some 2,none,none,none] 3 (by rfl) (by rfl) (n6 λ_ _ _=>rfl) (by rfl) (by rfl) ag ag ag ag rfl rfl rfl (bA (dK (fZ (G.c5 _ _ rfl) rfl rfl xJ (bD _) (aW (gZ (aW (fy 299 _ G.X (zv w) (zi w) (xw G) (by lia) (aQ 0) (aW (aQ 1) ba) (λ_=>⟨rfl,λ_=>rfl⟩) (di rfl rfl)) (aW (fy 299 _ G.X (zv w) (zi w) (xw G) (by lia) (aQ 0) (aW (aQ 2) ba) (λ_=>⟨rfl,λ_=>rfl⟩) (di rfl rfl)) ba)) ag) ba)) (mG (.cons rfl (.inl rfl) (.cons rfl (.inl rfl) .nil))) (λae h=>dJ ae rfl rfl rfl)) (bA (iA (eZ (aQ 3) (aQ 4) rfl) (by refine bA ?_ ?_;exact(by refine eO ?_;exact Bk);exact cr) cr) (bA (dK (aQ 3) (rF (dZ 299 G.X (o8 w) (aQ 0) (dY rfl)) (aQ 4)) (λae h=>dJ ae rfl rfl rfl)) (bA (gX (gY "list" _ PySem.F.slot_list_extend PySem.F.type_list_extend ix u0 (bD _) (cV (dZ 299 G.X (uU w) (aQ 0) (dY rfl)) (aQ 3) (λ_ _=>rfl)) (aW (cV (dZ 299 G.X (uU w) (aQ 0) (dY rfl)) (aQ 4) (λ_ _=>rfl)) ba) (λ_=>⟨rfl,λ_=>rfl⟩) (di rfl rfl)) (g0 rfl)) (bA (gX (gY "list" _ lL lK ix lj (bD _) (dZ 299 G.X (M6 w) (aQ 0) (dY rfl)) (aW (eb (aW (aQ 3) (aW (aQ 4) ba)) ag) ba) (λ_=>⟨rfl,λ_=>rfl⟩) (di rfl rfl)) (g0 rfl)) (bA (eO (eb (aW (aQ 3) (aW (aQ 4) ba)) ag)) cr))))))
def Pz:aY (ca×aK×aa):=(bl (d9 (bW (ay (bX (cn 299 "lots" (aj 0)) (dy 299 "find" (aj 0) (ay (aj 1) aJ) pA)) aJ) ny)) cc)
def Hw:List D->aa->Option (D×aa):=eP 2 [some 0,some 1,none] Pz
theorem Mo(G:eD am (bS w) eJ eI):dU prog w am 2 (.ref 270) Hw:=
 fc (n:=1) G [some 0,some 1,none] 2 (by rfl) (by rfl) (v2 λ_ _=>rfl) (by rfl) (by rfl) ag ag ag ag rfl rfl rfl (bA (eO (fZ (G.c5 _ _ rfl) rfl rfl xJ (bD _) (aW (cV (dZ 299 G.X (uU w) (aQ 0) (dY rfl)) (fy 299 _ G.X (zv w) (zi w) (xw G) (by lia) (aQ 0) (aW (aQ 1) ba) (λ_=>⟨rfl,λ_=>rfl⟩) (di rfl rfl)) (λ_ _=>rfl)) ba))) cr)
def Lf:aY (Bool×aa):=(cP .Eq (bX (cn 299 "above" (aj 2)) (aj 1)) (aj 1))
def GR:aY (D×aa):=(aj 1)
def Pw:aY (ca×aK×aa):=(bl (d9 (ea (kx (ay (bW (ay (cn 299 "above" (aj 0)) aJ) ek) aJ)) [none,none,some 0] (b9 1) (Lf) (dL (GR)))) cc)
def Hv:List D->aa->Option (D×aa):=eP 1 [some 0,none,none] Pw
theorem Mm(G:eD am (bS w) eJ eI):dU prog w am 1 (.ref 275) Hv:=
 fc (n:=0) G [some 0,none,none] 1 (by rfl) (by rfl) (v1 λ_=>rfl) (by rfl) (by rfl) ag ag ag ag rfl rfl rfl (bA (eO (ib ⟨rfl,by decide,by decide,rfl⟩ (rG (G.c5 _ _ rfl) rfl (aW (fZ (G.c5 _ _ rfl) rfl rfl hH (bD _) (aW (dZ 299 G.X (o8 w) (ci 0) (dY rfl)) ba)) ba)) (hg 1 rfl (.inl rfl) (λh=>absurd rfl h)) (tc (eZ (cV (dZ 299 G.X (o8 w) (ci 2) (dY rfl)) (aQ 1) (λ_ _=>rfl)) (aQ 1) rfl)) (aQ 1) (.inr ⟨rfl,rfl⟩) (λ_ _=>rfl))) cr)
def Pg:aY (ca×aK×aa):=(bl (cS (bW aJ Hq) (kz 429 "bank" (aj 0))) (bl (cS (bW aJ Ht) (kz 429 "unions" (aj 0))) (bl (cS (fM aJ) (kz 429 "edges" (aj 0))) (bl (cS (fM aJ) (kz 429 "forest" (aj 0))) (bl (cS (th (.du [])) (kz 429 "known" (aj 0))) (bl (cS (th (.gR [])) (kz 429 "above" (aj 0))) (bl (cS (fM aJ) (kz 429 "waiting" (aj 0))) cc)))))))
def Hs:List D->aa->Option (D×aa):=eP 1 [some 0,none,none] Pg
theorem Mb(G:eD am (bS w) eJ eI):dU prog w am 6 (.ref 317) Hs:=
 fc (n:=5) G [some 0,none,none] 1 (by rfl) (by rfl) (v1 λ_=>rfl) (by rfl) (by rfl) ag ag ag ag rfl rfl rfl (bA (dK (gD G.X (G.gl _ _ rfl) (Tn w) rfl rfl (L4 G) (by lia) ba (λ_=>trivial)) (kN 429 G.X (XI w) (aQ 0)) (λae h=>dJ ae rfl rfl rfl)) (bA (dK (gD G.X (G.gl _ _ rfl) (Tx w) rfl rfl (Mk G) (by lia) ba (λ_=>trivial)) (kN 429 G.X (XN w) (aQ 0)) (λae h=>dJ ae rfl rfl rfl)) (by refine bA ?_ ?_;exact(by refine dK ?_ ?_ ?_;exact(by refine gZ ?_ ?_;exact ba;exact ag);exact(kN 429 G.X (XJ w) (aQ 0));exact(λae h=>dJ ae rfl rfl rfl));exact(by refine bA ?_ ?_;exact(by refine dK ?_ ?_ ?_;exact(by refine gZ ?_ ?_;exact ba;exact ag);exact(kN 429 G.X (XK w) (aQ 0));exact(λae h=>dJ ae rfl rfl rfl));exact(by refine bA ?_ ?_;exact(by refine dK ?_ ?_ ?_;exact(u7 (.du []) (.inr (.inr rfl)));exact(kN 429 G.X (XM w) (aQ 0));exact(λae h=>dJ ae rfl rfl rfl));exact(by refine bA ?_ ?_;exact(by refine dK ?_ ?_ ?_;exact(u7 (.gR []) (.inr (.inl rfl)));exact(kN 429 G.X (XH w) (aQ 0));exact(λae h=>dJ ae rfl rfl rfl));exact(by refine bA ?_ ?_;exact(by refine dK ?_ ?_ ?_;exact(by refine gZ ?_ ?_;exact ba;exact ag);exact(kN 429 G.X (XO w) (aQ 0));exact(λae h=>dJ ae rfl rfl rfl));exact cr)))))))
def BL:List D->aa->Option (D×aa):=tR 429 Hs
theorem Ma(G:eD am (bS w) eJ eI):dU prog w am 10 (.ref 429) BL:=yf G.X (by rfl) (by rfl) (by rfl) (Mb G)
def Pk:aY (ca×aK×aa):=(bl (d9 (dy 299 "find" (cn 429 "unions" (aj 0)) (ay (aj 1) aJ) pA)) cc)
def qF:List D->aa->Option (D×aa):=eP 2 [some 0,some 1] Pk
theorem uE(G:eD am (bS w) eJ eI):dU prog w am 2 (.ref 353) qF:=
 fc (n:=1) G [some 0,some 1] 2 (by rfl) (by rfl) (v2 λ_ _=>rfl) (by rfl) (by rfl) ag ag ag ag rfl rfl rfl (bA (eO (fy 299 _ G.X (zv w) (zi w) (xw G) (by lia) (dZ 429 G.X (sY w) (aQ 0) (dY rfl)) (aW (aQ 1) ba) (λ_=>⟨rfl,λ_=>rfl⟩) (di rfl rfl))) cr)
def OL:aY (D×aa):=(dy 429 "find" (aj 2) (ay (aj 1) aJ) qF)
def Pp:aY (ca×aK×aa):=(bl (d9 (et .Add (dd (ay (dy 181 "op" (cn 429 "bank" (aj 0)) (ay (aj 1) aJ) BJ) aJ)) (bW (ay (ea (c9 (dy 181 "kids" (cn 429 "bank" (aj 0)) (ay (aj 1) aJ) BI)) [none,none,some 0] (b9 1) ef (dL (OL))) aJ) jR))) cc)
def vw:List D->aa->Option (D×aa):=eP 2 [some 0,some 1,none] Pp
theorem Fg(G:eD am (bS w) eJ eI):dU prog w am 3 (.ref 329) vw:=
 fc (n:=2) G [some 0,some 1,none] 2 (by rfl) (by rfl) (v2 λ_ _=>rfl) (by rfl) (by rfl) ag ag ag ag rfl rfl rfl (bA (eO (fb (eb (aW (fy 181 _ G.X (UM w) (Tk w) (L7 G) (by lia) (dZ 429 G.X (AK w) (ci 0) (dY rfl)) (aW (aQ 1) ba) (λ_=>⟨rfl,λ_=>rfl⟩) (di rfl rfl)) ba) ag) (lZ (G.c5 _ _ rfl) rfl rfl pi (bD _) (aW (ib ⟨rfl,by decide,by decide,rfl⟩ (gC (fy 181 _ G.X (UL w) (Tl w) (L6 G) (by lia) (dZ 429 G.X (AK w) (ci 0) (dY rfl)) (aW (aQ 1) ba) (λ_=>⟨rfl,λ_=>rfl⟩) (di rfl rfl))) (hg 1 rfl (.inl rfl) (λh=>absurd rfl h)) ia (fy 429 _ G.X (wK w) (wE w) (uE G) (by lia) (ci 2) (aW (aQ 1) ba) (λ_=>⟨rfl,λ_=>rfl⟩) (di rfl rfl)) (.inr ⟨rfl,rfl⟩) (λ_ _=>rfl)) ba)))) cr)
def Pl:aY (ca×aK×aa):=(bl (fo (eV "list" (cn 429 "edges" (aj 0)) (ay (dd (ay (aj 1) (ay (aj 2) (ay (aj 3) aJ)))) aJ) bAppend)) (bl (cS (dy 299 "merge" (cn 429 "unions" (aj 0)) (ay (aj 1) (ay (aj 2) aJ)) yo) (b9 4)) (bl (f6 (cP .Is (aj 4) (a7 .none)) (bl (d9 (a7 (.bool false))) cc) cc) (bl (cS (aj 4) (gv [5,6])) (bl (fo (eV "list" (cn 429 "forest" (aj 0)) (ay (et .Sub (bW (ay (cn 429 "edges" (aj 0)) aJ) ek) (a7 (.int 1))) aJ) bAppend)) (bl (fo (eV "list" (cn 429 "waiting" (aj 0)) (ay (bX (cn 429 "above" (aj 0)) (aj 6)) aJ) pe)) (bl (cS (et .Add (bX (cn 429 "above" (aj 0)) (aj 5)) (eV "dict" (cn 429 "above" (aj 0)) (ay (aj 6) aJ) rA)) (m7 (cn 429 "above" (aj 0)) (aj 5))) (bl (d9 (a7 (.bool true))) cc))))))))
def tm:List D->aa->Option (D×aa):=eP 4 [some 0,some 1,some 2,some 3,none,none,none,none] Pl
theorem Fe(G:eD am (bS w) eJ eI):dU prog w am 3 (.ref 374) tm:=
 fc (n:=2) G [some 0,some 1,some 2,some 3,none,none,none,none] 4 (by rfl) (by rfl) (v4 λ_ _ _ _=>rfl) (by rfl) (by rfl) ag ag ag ag rfl rfl rfl (bA (gX (gY "list" _ lL lK ix lj (bD _) (dZ 429 G.X (FM w) (aQ 0) (dY rfl)) (aW (eb (aW (aQ 1) (aW (aQ 2) (aW (aQ 3) ba))) ag) ba) (λ_=>⟨rfl,λ_=>rfl⟩) (di rfl rfl)) (g0 rfl)) (bA (dK (fy 299 _ G.X (UU w) (Tu w) (Mp G) (by lia) (dZ 429 G.X (sY w) (aQ 0) (dY rfl)) (aW (aQ 1) (aW (aQ 2) ba)) (λ_=>⟨rfl,λ_=>rfl⟩) (di rfl rfl)) (gb 4 rfl (.inl rfl)) (λae h=>dJ ae rfl rfl rfl)) (bA (iA (eZ (aQ 4) Bk rfl) (by refine bA ?_ ?_;exact(by refine eO ?_;exact pu);exact cr) cr) (bA (dK (aQ 4) (mG (.cons rfl (.inl rfl) (.cons rfl (.inl rfl) .nil))) (λae h=>dJ ae rfl rfl rfl)) (bA (gX (gY "list" _ lL lK ix lj (bD _) (dZ 429 G.X (M7 w) (aQ 0) (dY rfl)) (aW (fb (fZ (G.c5 _ _ rfl) rfl rfl hH (bD _) (aW (dZ 429 G.X (FM w) (aQ 0) (dY rfl)) ba)) cu) ba) (λ_=>⟨rfl,λ_=>rfl⟩) (di rfl rfl)) (g0 rfl)) (bA (gX (gY "list" _ PySem.F.slot_list_extend PySem.F.type_list_extend ix u0 (bD _) (dZ 429 G.X (AL w) (aQ 0) (dY rfl)) (aW (cV (dZ 429 G.X (sX w) (aQ 0) (dY rfl)) (aQ 6) (λ_ _=>rfl)) ba) (λ_=>⟨rfl,λ_=>rfl⟩) (di rfl rfl)) (g0 rfl)) (bA (dK (fb (cV (dZ 429 G.X (sX w) (aQ 0) (dY rfl)) (aQ 5) (λ_ _=>rfl)) (gY "dict" _ PySem.F.slot_dict_pop PySem.F.type_dict_pop PySem.F.plainAttrs_dict NJ (bD _) (dZ 429 G.X (sX w) (aQ 0) (dY rfl)) (aW (aQ 6) ba) (λ_=>⟨rfl,λ_=>rfl⟩) (di rfl rfl))) (rF (dZ 429 G.X (sX w) (aQ 0) (dY rfl)) (aQ 5)) (λae h=>dJ ae rfl rfl rfl)) (by refine bA ?_ ?_;exact(by refine eO ?_;exact pu);exact cr))))))))
def Pm:aY (ca×aK×aa):=(bl (cS (eV "dict" (cn 429 "known" (aj 0)) (ay (dy 429 "node" (aj 0) (ay (aj 1) aJ) vw) (ay (aj 1) aJ)) pg) (b9 2)) (bl (f6 (cP .NotEq (dy 429 "find" (aj 0) (ay (aj 2) aJ) qF) (dy 429 "find" (aj 0) (ay (aj 1) aJ) qF)) (bl (fo (dy 429 "join" (aj 0) (ay (aj 2) (ay (aj 1) (ay (dd (ay (a7 (.str "like")) aJ)) aJ))) tm)) cc) cc) cc))
def yj:List D->aa->Option (D×aa):=eP 2 [some 0,some 1,none] Pm
theorem Ff(G:eD am (bS w) eJ eI):dU prog w am 4 (.ref 346) yj:=
 fc (n:=3) G [some 0,some 1,none] 2 (by rfl) (by rfl) (v2 λ_ _=>rfl) (by rfl) (by rfl) ag ag ag ag rfl rfl rfl (bA (dK (gY "dict" _ PySem.F.slot_dict_setdefault PySem.F.type_dict_setdefault PySem.F.plainAttrs_dict NN (bD _) (dZ 429 G.X (M8 w) (aQ 0) (dY rfl)) (aW (fy 429 _ G.X (JG w) (I5 w) (Fg G) (by lia) (aQ 0) (aW (aQ 1) ba) (λ_=>⟨rfl,λ_=>rfl⟩) (di rfl rfl)) (aW (aQ 1) ba)) (λ_=>⟨rfl,λ_=>rfl⟩) (di rfl rfl)) (gb 2 rfl (.inl rfl)) (λae h=>dJ ae rfl rfl rfl)) (bA (iA (eZ (fy 429 _ G.X (wK w) (wE w) (uE G) (by lia) (aQ 0) (aW (aQ 2) ba) (λ_=>⟨rfl,λ_=>rfl⟩) (di rfl rfl)) (fy 429 _ G.X (wK w) (wE w) (uE G) (by lia) (aQ 0) (aW (aQ 1) ba) (λ_=>⟨rfl,λ_=>rfl⟩) (di rfl rfl)) rfl) (bA (gX (fy 429 _ G.X (JE w) (I9 w) (Fe G) (by lia) (aQ 0) (aW (aQ 2) (aW (aQ 1) (by refine aW ?_ ?_ ?_;exact(by refine eb ?_ ?_;exact(by refine aW ?_ ?_ ?_;exact fz;exact ba;exact(λ_=>rfl));exact ag);exact ba;exact(λ_=>rfl)))) (λ_=>⟨rfl,λ_=>rfl⟩) (di rfl rfl)) (g0 rfl)) cr) cr) cr))
def GK:aY (D×aa):=(dy 429 "find" (aj 2) (ay (aj 1) aJ) qF)
def FU:aY (ca×aK×aa):=(bl (fo (eV "list" (bX (cn 429 "above" (aj 0)) (aj 4)) (ay (aj 3) aJ) bAppend)) cc)
def Ph:aY (ca×aK×aa):=(bl (cS (dy 181 "take" (cn 429 "bank" (aj 0)) (ay (aj 1) (ay (aj 2) aJ)) yi) (b9 3)) (bl (f6 (cP .Lt (aj 3) (dy 299 "size" (cn 429 "unions" (aj 0)) aJ yp)) (bl (d9 (aj 3)) cc) cc) (bl (fo (dy 299 "make" (cn 429 "unions" (aj 0)) aJ yn)) (bl (cS (fM aJ) (m7 (cn 429 "above" (aj 0)) (aj 3))) (bl (jX (c9 (n1 (ea (c9 (aj 2)) [none,none,some 0] (b9 1) ef (dL (GK))))) (b9 4) (FU)) (bl (fo (dy 429 "look_at" (aj 0) (ay (aj 3) aJ) yj)) (bl (d9 (aj 3)) cc)))))))
def vu:List D->aa->Option (D×aa):=eP 3 [some 0,some 1,some 2,none,none,none,none] Ph
theorem Fd(G:eD am (bS w) eJ eI):dU prog w am 5 (.ref 334) vu:=
 fc (n:=4) G [some 0,some 1,some 2,none,none,none,none] 3 (by rfl) (by rfl) (n6 λ_ _ _=>rfl) (by rfl) (by rfl) ag ag ag ag rfl rfl rfl (bA (dK (fy 181 _ G.X (UO w) (Ti w) (L9 G) (by lia) (dZ 429 G.X (AK w) (ci 0) (dY rfl)) (aW (aQ 1) (aW (aQ 2) ba)) (λ_=>⟨rfl,λ_=>rfl⟩) (di rfl rfl)) (gb 3 rfl (.inl rfl)) (λae h=>dJ ae rfl rfl rfl)) (bA (iA (eZ (aQ 3) (fy 299 _ G.X (UV w) (Tt w) (Mq G) (by lia) (dZ 429 G.X (sY w) (ci 0) (dY rfl)) ba (λ_=>trivial) (di rfl rfl)) rfl) (bA (eO (aQ 3)) cr) cr) (bA (gX (fy 299 _ G.X (US w) (Ts w) (Mn G) (by lia) (dZ 429 G.X (sY w) (ci 0) (dY rfl)) ba (λ_=>trivial) (di rfl rfl)) (g0 rfl)) (by refine bA ?_ ?_;exact(by refine dK ?_ ?_ ?_;exact(by refine gZ ?_ ?_;exact ba;exact ag);exact(rF (dZ 429 G.X (sX w) (ci 0) (dY rfl)) (aQ 3));exact(λae h=>dJ ae rfl rfl rfl));exact(bA (ow (gC (xZ (G.c5 _ _ rfl) rfl (G.c5 _ _ rfl) rfl (ib ⟨rfl,by decide,by decide,rfl⟩ (gC (aQ 2)) (hg 1 rfl (.inl rfl) (λh=>absurd rfl h)) ia (fy 429 _ G.X (wK w) (wE w) (uE G) (by lia) (ci 2) (aW (aQ 1) ba) (λ_=>⟨rfl,λ_=>rfl⟩) (di rfl rfl)) (.inr ⟨rfl,rfl⟩) (λ_ _=>rfl)) (λ_=>rfl) (λ_=>⟨rfl,λ_=>rfl⟩))) (gb 4 rfl (.inl rfl)) (bA (gX (gY "list" _ lL lK ix lj (bD _) (cV (dZ 429 G.X (sX w) (ci 0) (dY rfl)) (aQ 4) (λ_ _=>rfl)) (aW (aQ 3) ba) (λ_=>⟨rfl,λ_=>rfl⟩) (di rfl rfl)) (g0 rfl)) cr) (.inr ⟨rfl,rfl⟩) (λ_ _=>rfl)) (bA (gX (fy 429 _ G.X (JF w) (I8 w) (Ff G) (by lia) (ci 0) (aW (aQ 3) ba) (λ_=>⟨rfl,λ_=>rfl⟩) (di rfl rfl)) (g0 rfl)) (bA (eO (aQ 3)) cr)))))))
def OM(r:List D->aa->Option (D×aa)):aY (D×aa):=(dy 429 "put" (aj 2) (ay (aj 1) aJ) r)
def Pr(r:List D->aa->Option (D×aa)):aY (ca×aK×aa):=(bl (d9 (dy 429 "add" (aj 0) (ay (bX (aj 1) (a7 (.int 0))) (ay (bW (ay (ea (c9 (iR (aj 1) (a7 (.int 1)))) [none,none,some 0] (b9 1) ef (dL (OM r))) aJ) jR) aJ)) vu)) cc)
noncomputable def ym:Nat->List D->aa->Option (D×aa)
 |0,_,_=>none
 |k+1,J,C=>eP 2 [some 0,some 1,none] (Pr (ym k)) J C
theorem Fh(G:eD am (bS w) eJ eI):∀k,dU prog w am (5+k) (.ref 339) (ym k)
 |0=>vr
 |k+1=>by
  have aE:=Fh G k
  exact fc (n:=5+k) G [some 0,some 1,none] 2 (by rfl) (by rfl) (v2 λ_ _=>rfl) (by rfl) (by rfl) ag ag ag ag rfl rfl rfl (bA (eO (fy 429 _ G.X (JD w) (I6 w) (Fd G) (by lia) (ci 0) (aW (cV (aQ 1) cu (λ_ _=>rfl)) (aW (lZ (G.c5 _ _ rfl) rfl rfl pi (bD _) (aW (ib ⟨rfl,by decide,by decide,rfl⟩ (gC (nB (aQ 1) cu)) (hg 1 rfl (.inl rfl) (λh=>absurd rfl h)) ia (fy 429 _ G.X (JH w) (I7 w) aE (bD _) (ci 2) (aW (aQ 1) ba) (λ_=>⟨rfl,λ_=>rfl⟩) (di rfl rfl)) (.inr ⟨rfl,rfl⟩) (λ_ _=>rfl)) ba)) ba)) (λ_=>⟨rfl,λ_=>rfl⟩) (di rfl rfl))) cr)
def Po:aY (ca×aK×aa):=(bl (d9 (dy 429 "join" (aj 0) (ay (aj 1) (ay (aj 2) (ay (aj 3) aJ))) tm)) cc)
def BM:List D->aa->Option (D×aa):=eP 4 [some 0,some 1,some 2,some 3] Po
theorem Me(G:eD am (bS w) eJ eI):dU prog w am 4 (.ref 367) BM:=
 fc (n:=3) G [some 0,some 1,some 2,some 3] 4 (by rfl) (by rfl) (v4 λ_ _ _ _=>rfl) (by rfl) (by rfl) ag ag ag ag rfl rfl rfl (bA (eO (fy 429 _ G.X (JE w) (I9 w) (Fe G) (by lia) (aQ 0) (aW (aQ 1) (aW (aQ 2) (aW (aQ 3) ba))) (λ_=>⟨rfl,λ_=>rfl⟩) (di rfl rfl))) cr)
def EF:aY (Bool×aa):=(cP .Gt (bW (ay (cn 429 "waiting" (aj 0)) aJ) ek) (a7 (.int 0)))
def FV:aY (ca×aK×aa):=(bl (fo (dy 429 "look_at" (aj 0) (ay (eV "list" (cn 429 "waiting" (aj 0)) aJ pf) aJ) yj)) cc)
def Ps:aY (ca×aK×aa):=(bl (kd (EF) (FV)) cc)
def tn:List D->aa->Option (D×aa):=eP 1 [some 0,none] Ps
theorem Fi(G:eD am (bS w) eJ eI):dU prog w am 5 (.ref 381) tn:=
 fc (n:=4) G [some 0,none] 1 (by rfl) (by rfl) (v1 λ_=>rfl) (by rfl) (by rfl) ag ag ag ag rfl rfl rfl (bA (u5 (eZ (fZ (G.c5 _ _ rfl) rfl rfl hH (bD _) (aW (dZ 429 G.X (AL w) (aQ 0) (dY rfl)) ba)) cu rfl) (bA (gX (fy 429 _ G.X (JF w) (I8 w) (Ff G) (by lia) (aQ 0) (aW (gY "list" _ PySem.F.slot_list_pop PySem.F.type_list_pop ix AW (bD _) (dZ 429 G.X (AL w) (aQ 0) (dY rfl)) ba (λ_=>trivial) (di rfl rfl)) ba) (λ_=>⟨rfl,λ_=>rfl⟩) (di rfl rfl)) (g0 rfl)) cr)) cr)
def Pj:aY (ca×aK×aa):=(bl (d9 (dy 299 "classes" (cn 429 "unions" (aj 0)) aJ Hv)) cc)
def vv:List D->aa->Option (D×aa):=eP 1 [some 0] Pj
theorem Mc(G:eD am (bS w) eJ eI):dU prog w am 2 (.ref 395) vv:=
 fc (n:=1) G [some 0] 1 (by rfl) (by rfl) (v1 λ_=>rfl) (by rfl) (by rfl) ag ag ag ag rfl rfl rfl (bA (eO (fy 299 _ G.X (UR w) (Tw w) (Mm G) (by lia) (dZ 429 G.X (sY w) (aQ 0) (dY rfl)) ba (λ_=>trivial) (di rfl rfl))) cr)
def Pn:aY (ca×aK×aa):=(bl (d9 (dy 299 "members" (cn 429 "unions" (aj 0)) (ay (aj 1) aJ) Hw)) cc)
def yk:List D->aa->Option (D×aa):=eP 2 [some 0,some 1] Pn
theorem Md(G:eD am (bS w) eJ eI):dU prog w am 3 (.ref 402) yk:=
 fc (n:=2) G [some 0,some 1] 2 (by rfl) (by rfl) (v2 λ_ _=>rfl) (by rfl) (by rfl) ag ag ag ag rfl rfl rfl (bA (eO (fy 299 _ G.X (UT w) (Tv w) (Mo G) (by lia) (dZ 429 G.X (sY w) (aQ 0) (dY rfl)) (aW (aQ 1) ba) (λ_=>⟨rfl,λ_=>rfl⟩) (di rfl rfl))) cr)
def GL:aY (D×aa):=(dy 429 "node" (aj 2) (ay (aj 1) aJ) vw)
def Pq:aY (ca×aK×aa):=(bl (d9 (n1 (ea (c9 (dy 429 "members" (aj 0) (ay (aj 1) aJ) yk)) [none,none,some 0] (b9 1) ef (dL (GL))))) cc)
def yl:List D->aa->Option (D×aa):=eP 2 [some 0,some 1,none,none] Pq
theorem Mf(G:eD am (bS w) eJ eI):dU prog w am 4 (.ref 407) yl:=
 fc (n:=3) G [some 0,some 1,none,none] 2 (by rfl) (by rfl) (v2 λ_ _=>rfl) (by rfl) (by rfl) ag ag ag ag rfl rfl rfl (bA (eO (xZ (G.c5 _ _ rfl) rfl (G.c5 _ _ rfl) rfl (ib ⟨rfl,by decide,by decide,rfl⟩ (gC (fy 429 _ G.X (UX w) (TB w) (Md G) (by lia) (ci 0) (aW (aQ 1) ba) (λ_=>⟨rfl,λ_=>rfl⟩) (di rfl rfl))) (hg 1 rfl (.inl rfl) (λh=>absurd rfl h)) ia (fy 429 _ G.X (JG w) (I5 w) (Fg G) (by lia) (ci 2) (aW (aQ 1) ba) (λ_=>⟨rfl,λ_=>rfl⟩) (di rfl rfl)) (.inr ⟨rfl,rfl⟩) (λ_ _=>rfl)) (λ_=>rfl) (λ_=>⟨rfl,λ_=>rfl⟩))) cr)
def uj:aY (Bool×aa):=(cP .NotEq (aj 3) (fM aJ))
def GW:aY (D×aa):=(dd (ay (et .Add (aj 2) (aj 1)) (ay (bX (aj 3) (et .Add (aj 1) (a7 (.int 1)))) aJ)))
def ry:aY (ca×aK×aa):=(bl (cS (eV "list" (aj 3) (ay (a7 (.int 0)) aJ) pf) (gv [5,6])) (bl (f6 (p0 (qa (bW (ay (aj 6) aJ) vE))) (bl (cS (et .Sub (bW (ay (aj 6) aJ) ek) (a7 (.int 1))) (b9 7)) (bl (fo (eV "list" (aj 1) (ay (dd (ay (a7 (.str "bind")) (ay (aj 5) (ay (bX (aj 6) (a7 (.int 0))) (ay (aj 7) (ay (aj 4) aJ)))))) aJ) bAppend)) (bl (fo (eV "list" (aj 3) (ay (ea (kx (ay (aj 7) aJ)) [none,none,some 4,some 6] (b9 1) ef (dL (GW))) aJ) pe)) (bl (cS (et .Add (aj 4) (aj 7)) (b9 4)) cc)))) (bl (f6 (cP .In (bX (aj 6) (a7 (.int 0))) (aj 2)) (bl (fo (eV "list" (aj 1) (ay (dd (ay (a7 (.str "same")) (ay (aj 5) (ay (bX (aj 2) (bX (aj 6) (a7 (.int 0)))) aJ)))) aJ) bAppend)) cc) (bl (cS (aj 5) (m7 (aj 2) (bX (aj 6) (a7 (.int 0))))) cc)) cc)) cc))
def PL:aY (ca×aK×aa):=(bl (cS (dd (ay (fM aJ) (ay (th (.ee [])) (ay (fM (ay (dd (ay (a7 (.int 0)) (ay (aj 0) aJ))) aJ)) (ay (a7 (.int 1)) aJ))))) (gv [1,2,3,4])) (bl (kd (uj) (ry)) (bl (d9 (et .Add (bW (ay (aj 1) aJ) jR) (dd (ay (dd (ay (a7 (.str "yield")) (ay (bW (ay (z2 (aj 2)) aJ) jR) aJ))) aJ)))) cc)))
def vG:List D->aa->Option (D×aa):=eP 1 [some 0,none,none,none,none,none,none,none,none,none,none,none,none] PL
theorem Mw(G:eD am (bS w) eJ eI):dU prog w am 2 (.ref 190) vG:=
 fc (n:=1) G [some 0,none,none,none,none,none,none,none,none,none,none,none,none] 1 (by rfl) (by rfl) (v1 λ_=>rfl) (by rfl) (by rfl) ag ag ag ag rfl rfl rfl (by refine bA ?_ ?_;exact(by refine dK ?_ ?_ ?_;exact(by refine eb ?_ ?_;exact(by refine aW ?_ ?_ ?_;exact(by refine gZ ?_ ?_;exact ba;exact ag);exact(by refine aW ?_ ?_ ?_;exact(u7 (.ee []) (.inl rfl));exact(by refine aW ?_ ?_ ?_;exact(by refine gZ ?_ ?_;exact(by refine aW ?_ ?_ ?_;exact(by refine eb ?_ ?_;exact(by refine aW ?_ ?_ ?_;exact cu;exact(aW (aQ 0) ba);exact(λ_=>rfl));exact ag);exact ba;exact(λ_=>rfl));exact ag);exact(by refine aW ?_ ?_ ?_;exact cu;exact ba;exact(λ_=>rfl));exact(λ_=>rfl));exact(λ_=>rfl));exact(λ_=>rfl));exact ag);exact(mG (.cons rfl (.inl rfl) (.cons rfl (.inl rfl) (.cons rfl (.inl rfl) (.cons rfl (.inr rfl) .nil)))));exact(λae h=>dJ ae rfl (by cases ae;subst h;rfl) rfl));exact(bA (u5 (eZ (aQ 3) (by refine gZ ?_ ?_;exact ba;exact ag) rfl) (bA (dK (gY "list" _ PySem.F.slot_list_pop PySem.F.type_list_pop ix AW (bD _) (aQ 3) (by refine aW ?_ ?_ ?_;exact cu;exact ba;exact(λ_=>rfl)) (by exactλ_=>⟨rfl,λ_=>rfl⟩) (di rfl rfl)) (mG (.cons rfl (.inl rfl) (.cons rfl (.inr rfl) .nil))) (λae h=>dJ ae rfl rfl rfl)) (bA (iA (Bj (xX (gD G.X (G.gl _ _ rfl) (TI w) rfl rfl (Mu G) (by lia) (aW (ci 6) ba)) (λ_ _=>rfl))) (bA (dK (fb (fZ (G.c5 _ _ rfl) rfl rfl hH (bD _) (aW (ci 6) ba)) cu) (gb 7 rfl (.inl rfl)) (λae h=>dJ ae rfl rfl rfl)) (bA (gX (gY "list" _ lL lK ix lj (bD _) (aQ 1) (by refine aW ?_ ?_ ?_;exact(by refine eb ?_ ?_;exact(by refine aW ?_ ?_ ?_;exact fz;exact(aW (aQ 5) (aW (cV (ci 6) cu (λ_ _=>rfl)) (aW (aQ 7) (aW (ci 4) ba))));exact(λ_=>rfl));exact ag);exact ba;exact(λ_=>rfl)) (by exactλ_=>⟨rfl,λ_=>rfl⟩) (di rfl rfl)) (g0 rfl)) (bA (gX (gY "list" _ PySem.F.slot_list_extend PySem.F.type_list_extend ix u0 (bD _) (aQ 3) (aW (ib ⟨rfl,by decide,by decide,rfl⟩ (rG (G.c5 _ _ rfl) rfl (aW (aQ 7) ba)) (hg 1 rfl (.inl rfl) (λh=>absurd rfl h)) ia (eb (aW (fb (ci 2) (aQ 1)) (aW (cV (ci 3) (fb (aQ 1) cu) (λ_ _=>rfl)) ba)) ag) (.inr ⟨rfl,rfl⟩) (λ_ _=>rfl)) ba) (λ_=>⟨rfl,λ_=>rfl⟩) (di rfl rfl)) (g0 rfl)) (bA (dK (fb (ci 4) (aQ 7)) (gb 4 rfl (.inr rfl)) (λae h=>dJ ae rfl rfl rfl)) cr)))) (bA (iA (eZ (cV (ci 6) cu (λ_ _=>rfl)) (aQ 2) rfl) (bA (gX (gY "list" _ lL lK ix lj (bD _) (aQ 1) (by refine aW ?_ ?_ ?_;exact(by refine eb ?_ ?_;exact(by refine aW ?_ ?_ ?_;exact fz;exact(aW (aQ 5) (aW (cV (aQ 2) (cV (ci 6) cu (λ_ _=>rfl)) (λ_ _=>rfl)) ba));exact(λ_=>rfl));exact ag);exact ba;exact(λ_=>rfl)) (by exactλ_=>⟨rfl,λ_=>rfl⟩) (di rfl rfl)) (g0 rfl)) cr) (bA (dK (aQ 5) (rF (aQ 2) (cV (ci 6) cu (λ_ _=>rfl))) (λae h=>dJ ae rfl rfl rfl)) cr)) cr)) cr))) (bA (eO (fb (lZ (G.c5 _ _ rfl) rfl rfl pi (bD _) (aW (aQ 1) ba)) (by refine eb ?_ ?_;exact(by refine aW ?_ ?_ ?_;exact(by refine eb ?_ ?_;exact(by refine aW ?_ ?_ ?_;exact fz;exact(aW (lZ (G.c5 _ _ rfl) rfl rfl pi (bD _) (aW (Os _ (G.c5 _ _ rfl) rfl (aQ 2) (di rfl rfl) (λ_=>⟨rfl,λ_=>rfl⟩)) ba)) ba);exact(λ_=>rfl));exact ag);exact ba;exact(λ_=>rfl));exact ag))) cr)))
def Hf:aY (ca×aK×aa):=(bl (cS (aj 1) (kz 217 "heap" (aj 0))) cc)
def BN:List D->aa->Option (D×aa):=eP 2 [some 0,some 1] Hf
theorem Mh(G:eD am (bS w) eJ eI):dU prog w am 1 (.ref 204) BN:=
 fc (n:=0) G [some 0,some 1] 2 (by rfl) (by rfl) (v2 λ_ _=>rfl) (by rfl) (by rfl) ag ag ag ag rfl rfl rfl (bA (dK (aQ 1) (kN 217 G.X (XD w) (aQ 0)) (λae h=>dJ ae rfl rfl rfl)) cr)
def to:List D->aa->Option (D×aa):=tR 217 BN
theorem Mg(G:eD am (bS w) eJ eI):dU prog w am 5 (.ref 217) to:=yf G.X (by rfl) (by rfl) (by rfl) (Mh G)
def GM:aY (D×aa):=(et .Add (p9 (aj 3) (aj 2)) (iR (aj 1) (a7 (.int 1))))
def Li:aY (Bool×aa):=(rv (cP .Eq (bX (aj 1) (a7 (.int 0))) (aj 4)) (rv (cP .Eq (bW (ay (aj 1) aJ) ek) (et .Add (aj 3) (a7 (.int 1)))) ef))
def GX:aY (D×aa):=(aj 1)
def Pu:aY (ca×aK×aa):=(bl (f6 (cP .Eq (bX (aj 1) (a7 (.int 0))) (a7 (.str "same"))) (bl (d9 (j5 (cP .Eq (bX (aj 2) (bX (aj 1) (a7 (.int 1)))) (bX (aj 2) (bX (aj 1) (a7 (.int 2))))) (fM (ay (aj 2) aJ)) (fM aJ))) cc) cc) (bl (cS (aj 1) (gv [3,4,5,6,7])) (bl (cS (ea (c9 (dy 429 "nodes_of" (cn 217 "heap" (aj 0)) (ay (bX (aj 2) (aj 4)) aJ) yl)) [none,none,none,some 6,some 5] (b9 1) (Li) (dL (GX))) (b9 8)) (bl (d9 (ea (c9 (aj 8)) [none,none,some 7,some 2] (b9 1) ef (dL (GM)))) cc))))
def vy:List D->aa->Option (D×aa):=eP 3 [some 0,some 1,some 2,none,none,none,none,none,none] Pu
theorem Mj(G:eD am (bS w) eJ eI):dU prog w am 5 (.ref 209) vy:=
 fc (n:=4) G [some 0,some 1,some 2,none,none,none,none,none,none] 3 (by rfl) (by rfl) (n6 λ_ _ _=>rfl) (by rfl) (by rfl) ag ag ag ag rfl rfl rfl (bA (iA (eZ (cV (aQ 1) cu (λ_ _=>rfl)) fz rfl) (bA (eO (td (eZ (cV (ci 2) (cV (aQ 1) cu (λ_ _=>rfl)) (λ_ _=>rfl)) (cV (ci 2) (cV (aQ 1) cu (λ_ _=>rfl)) (λ_ _=>rfl)) rfl) (gZ (aW (ci 2) ba) ag) (by refine gZ ?_ ?_;exact ba;exact ag))) cr) cr) (bA (dK (aQ 1) (mG (.cons rfl (.inl rfl) (.cons rfl (.inl rfl) (.cons rfl (.inr rfl) (.cons rfl (.inr rfl) (.cons rfl (.inr rfl) .nil)))))) (λae h=>dJ ae rfl rfl rfl)) (bA (xV 8 ⟨rfl,by decide,by decide,rfl⟩ rfl (gC (fy 429 _ G.X (UZ w) (TC w) (Mf G) (by lia) (dZ 217 G.X (FL w) (aQ 0) (dY rfl)) (aW (cV (ci 2) (aQ 4) (λ_ _=>rfl)) ba) (λ_=>⟨rfl,λ_=>rfl⟩) (di rfl rfl))) (hg 1 rfl (.inl rfl) (λh=>absurd rfl h)) (tc (u6 (eZ (cV (aQ 1) cu (λ_ _=>rfl)) (ci 4) rfl) (u6 (eZ (fZ (G.c5 _ _ rfl) rfl rfl hH (bD _) (aW (aQ 1) ba)) (fb (ci 3) cu) rfl) Gu))) (aQ 1) (.inr ⟨rfl,rfl⟩) (λ_ _=>rfl) (λae h=>by first|rfl|(cases ae;subst h;rfl))) (bA (eO (ib ⟨rfl,by decide,by decide,rfl⟩ (gC (aQ 8)) (hg 1 rfl (.inl rfl) (λh=>absurd rfl h)) ia (fb (x0 (ci 3) (ci 2)) (nB (aQ 1) cu)) (.inr ⟨rfl,rfl⟩) (λ_ _=>rfl))) cr))))
def xc:aY (Bool×aa):=(cP .NotEq (aj 3) (fM aJ))
def Bq:aY (D×aa):=(dd (ay (aj 1) (ay (bX (aj 3) (aj 2)) aJ)))
def Br:aY (D×aa):=(dd (ay (et .Add (aj 2) (a7 (.int 1))) (ay (aj 1) aJ)))
def s4:aY (ca×aK×aa):=(bl (cS (eV "list" (aj 3) aJ pf) (gv [4,5])) (bl (f6 (cP .Eq (bX (bX (aj 1) (aj 4)) (a7 (.int 0))) (a7 (.str "yield"))) (bl (cS (a7 (.bool true)) (m7 (aj 2) (dd (ay (bX (aj 5) (a7 (.int 0))) (ay (bW (ay (ea (c9 (bX (bX (aj 1) (aj 4)) (a7 (.int 1)))) [none,none,none,some 5] (gv [1,2]) ef (dL (Bq))) aJ) jR) aJ))))) cc) (bl (fo (eV "list" (aj 3) (ay (ea (c9 (dy 217 "steps" (aj 0) (ay (bX (aj 1) (aj 4)) (ay (aj 5) aJ)) vy)) [none,none,some 4] (b9 1) ef (dL (Br))) aJ) pe)) cc)) cc))
def Bu:aY (D×aa):=(dd (ay (a7 (.int 0)) (ay (dd (ay (aj 1) aJ)) aJ)))
def Pt:aY (ca×aK×aa):=(bl (cS (th (.du [])) (b9 2)) (bl (cS (ea (c9 (dy 429 "classes" (cn 217 "heap" (aj 0)) aJ vv)) [none,none] (b9 1) ef (dL (Bu))) (b9 3)) (bl (kd (xc) (s4)) (bl (d9 (bW (ay (aj 2) aJ) ny)) cc))))
def vx:List D->aa->Option (D×aa):=eP 2 [some 0,some 1,none,none,none,none,none,none] Pt
theorem Mi(G:eD am (bS w) eJ eI):dU prog w am 6 (.ref 214) vx:=
 fc (n:=5) G [some 0,some 1,none,none,none,none,none,none] 2 (by rfl) (by rfl) (v2 λ_ _=>rfl) (by rfl) (by rfl) ag ag ag ag rfl rfl rfl (by refine bA ?_ ?_;exact(by refine dK ?_ ?_ ?_;exact(u7 (.du []) (.inr (.inr rfl)));exact(gb 2 rfl (.inl rfl));exact(λae h=>dJ ae rfl rfl rfl));exact(bA (xV 3 ⟨rfl,by decide,by decide,rfl⟩ rfl (gC (fy 429 _ G.X (UW w) (TA w) (Mc G) (by lia) (dZ 217 G.X (FL w) (aQ 0) (dY rfl)) ba (λ_=>trivial) (di rfl rfl))) (hg 1 rfl (.inl rfl) (λh=>absurd rfl h)) ia (by refine eb ?_ ?_;exact(by refine aW ?_ ?_ ?_;exact cu;exact(aW (eb (aW (aQ 1) ba) ag) ba);exact(λ_=>rfl));exact ag) (.inr ⟨rfl,rfl⟩) (λ_ _=>rfl) (λae h=>by first|rfl|(cases ae;subst h;rfl))) (bA (u5 (eZ (aQ 3) (by refine gZ ?_ ?_;exact ba;exact ag) rfl) (bA (dK (gY "list" _ PySem.F.slot_list_pop PySem.F.type_list_pop ix AW (bD _) (aQ 3) ba (λ_=>trivial) (di rfl rfl)) (mG (.cons rfl (.inr rfl) (.cons rfl (.inr rfl) .nil))) (λae h=>dJ ae rfl rfl rfl)) (bA (iA (eZ (cV (cV (aQ 1) (ci 4) (λ_ _=>rfl)) cu (λ_ _=>rfl)) fz rfl) (by refine bA ?_ ?_;exact(by refine dK ?_ ?_ ?_;exact pu;exact(rF (aQ 2) (eb (aW (cV (ci 5) cu (λ_ _=>rfl)) (aW (lZ (G.c5 _ _ rfl) rfl rfl pi (bD _) (aW (ib ⟨rfl,by decide,by decide,rfl⟩ (gC (cV (cV (aQ 1) (ci 4) (λ_ _=>rfl)) cu (λ_ _=>rfl))) (Gv (.cons rfl (.inl rfl) (λh=>absurd rfl h) (.cons rfl (.inl rfl) (λh=>absurd rfl h) .nil))) ia (eb (aW (aQ 1) (aW (cV (ci 3) (aQ 2) (λ_ _=>rfl)) ba)) ag) (.inl rfl) (λ_ _=>rfl)) ba)) ba)) ag));exact(λae h=>dJ ae rfl rfl rfl));exact cr) (bA (gX (gY "list" _ PySem.F.slot_list_extend PySem.F.type_list_extend ix u0 (bD _) (aQ 3) (aW (ib ⟨rfl,by decide,by decide,rfl⟩ (gC (fy 217 _ G.X (UQ w) (Tp w) (Mj G) (by lia) (aQ 0) (aW (cV (aQ 1) (ci 4) (λ_ _=>rfl)) (aW (ci 5) ba)) (λ_=>⟨rfl,λ_=>rfl⟩) (di rfl rfl))) (hg 1 rfl (.inl rfl) (λh=>absurd rfl h)) ia (eb (aW (fb (ci 2) cu) (aW (aQ 1) ba)) ag) (.inr ⟨rfl,rfl⟩) (λ_ _=>rfl)) ba) (λ_=>⟨rfl,λ_=>rfl⟩) (di rfl rfl)) (g0 rfl)) cr)) cr))) (bA (eO (fZ (G.c5 _ _ rfl) rfl rfl xJ (bD _) (aW (aQ 2) ba))) cr))))
def Hg:aY (ca×aK×aa):=(bl (cS (bX (aj 0) (a7 (.str "spot"))) (b9 2)) (bl (cS (et .Add (aj 2) (a7 (.int 1))) (m7 (aj 0) (a7 (.str "spot")))) (bl (f6 (cP .Lt (aj 2) (bW (ay (bX (aj 0) (a7 (.str "cells"))) aJ) ek)) (bl (d9 (et .Mod (bX (bX (aj 0) (a7 (.str "cells"))) (aj 2)) (aj 1))) cc) cc) (bl (d9 (et .Mod (et .Mod (et .Add (et .Add (et .Add (et .Mult (et .Mult (a7 (.int 7)) (aj 2)) (aj 2)) (et .Mult (a7 (.int 2)) (aj 2))) (a7 (.int 3))) (et .Mult (a7 (.int 9)) (bW (ay (bX (aj 0) (a7 (.str "cells"))) aJ) ek))) (a7 (.int 113))) (aj 1))) cc))))
def hu:List D->aa->Option (D×aa):=eP 2 [some 0,some 1,none,none] Hg
theorem ni(G:eD am (bS w) eJ eI):dU prog w am 1 (.ref 440) hu:=
 fc (n:=0) G [some 0,some 1,none,none] 2 (by rfl) (by rfl) (v2 λ_ _=>rfl) (by rfl) (by rfl) ag ag ag ag rfl rfl rfl (bA (dK (cV (aQ 0) fz (λ_ _=>rfl)) (gb 2 rfl (.inl rfl)) (λae h=>dJ ae rfl rfl rfl)) (bA (dK (fb (aQ 2) cu) (rF (aQ 0) fz) (λae h=>dJ ae rfl rfl rfl)) (bA (iA (eZ (aQ 2) (fZ (G.c5 _ _ rfl) rfl rfl hH (bD _) (aW (cV (aQ 0) fz (λ_ _=>rfl)) ba)) rfl) (bA (eO (fb (cV (cV (aQ 0) fz (λ_ _=>rfl)) (aQ 2) (λ_ _=>rfl)) (aQ 1))) cr) cr) (by refine bA ?_ ?_;exact(by refine eO ?_;exact(by refine fb ?_ ?_;exact(by refine fb ?_ ?_;exact(by refine fb ?_ ?_;exact(by refine fb ?_ ?_;exact(by refine fb ?_ ?_;exact(by refine fb ?_ ?_;exact(by refine fb ?_ ?_;exact cu;exact(aQ 2));exact(aQ 2));exact(by refine fb ?_ ?_;exact cu;exact(aQ 2)));exact cu);exact(by refine fb ?_ ?_;exact cu;exact(fZ (G.c5 _ _ rfl) rfl rfl hH (bD _) (aW (cV (aQ 0) fz (λ_ _=>rfl)) ba))));exact cu);exact(aQ 1)));exact cr))))
def PG(r:List D->aa->Option (D×aa)):aY (ca×aK×aa):=(bl (cS (bW (ay (aj 0) (ay (j5 (cP .Gt (aj 1) (a7 (.int 0))) (a7 (.int 7)) (a7 (.int 4))) aJ)) hu) (b9 2)) (bl (f6 (cP .Lt (aj 2) (a7 (.int 3))) (bl (d9 (bX (dd (ay (dd (ay (a7 (.str "?x")) aJ)) (ay (dd (ay (a7 (.str "?y")) aJ)) (ay (dd (ay (a7 (.str "?x")) aJ)) aJ)))) (aj 2))) cc) cc) (bl (f6 (cP .Eq (aj 2) (a7 (.int 3))) (bl (d9 (dd (ay (bX (dd (ay (a7 (.str "a")) (ay (a7 (.str "b")) (ay (a7 (.str "c")) aJ)))) (bW (ay (aj 0) (ay (a7 (.int 3)) aJ)) hu)) aJ))) cc) cc) (bl (cS (bW (ay (aj 0) (ay (et .Sub (aj 1) (a7 (.int 1))) aJ)) r) (b9 3)) (bl (f6 (cP .Eq (aj 2) (a7 (.int 4))) (bl (d9 (dd (ay (a7 (.str "f")) (ay (aj 3) aJ)))) cc) cc) (bl (cS (bW (ay (aj 0) (ay (et .Sub (aj 1) (a7 (.int 1))) aJ)) r) (b9 4)) (bl (d9 (dd (ay (j5 (jC (cP .Eq (aj 2) (a7 (.int 5))) (jC (cP .Gt (bW (ay (aj 0) (ay (a7 (.int 3)) aJ)) hu) (a7 (.int 0))) qA)) (a7 (.str "g")) (a7 (.str "f"))) (ay (aj 3) (ay (aj 4) aJ))))) cc)))))))
noncomputable def qG:Nat->List D->aa->Option (D×aa)
 |0,_,_=>none
 |k+1,J,C=>eP 2 [some 0,some 1,none,none,none,none,none] (PG (qG k)) J C
theorem Fl(G:eD am (bS w) eJ eI):∀k,dU prog w am (1+k) (.ref 447) (qG k)
 |0=>vr
 |k+1=>by
  have aE:=Fl G k
  exact fc (n:=1+k) G [some 0,some 1,none,none,none,none,none] 2 (by rfl) (by rfl) (v2 λ_ _=>rfl) (by rfl) (by rfl) ag ag ag ag rfl rfl rfl (bA (dK (gD G.X (G.gl _ _ rfl) (nR w) rfl rfl (ni G) (by lia) (aW (aQ 0) (aW (td (eZ (aQ 1) cu rfl) cu cu) ba))) (gb 2 rfl (.inl rfl)) (λae h=>dJ ae rfl rfl rfl)) (bA (iA (eZ (aQ 2) cu rfl) (by refine bA ?_ ?_;exact(by refine eO ?_;exact(by refine cV ?_ ?_ ?_;exact(by refine eb ?_ ?_;exact(by refine aW ?_ ?_ ?_;exact(by refine eb ?_ ?_;exact(by refine aW ?_ ?_ ?_;exact fz;exact ba;exact(λ_=>rfl));exact ag);exact(by refine aW ?_ ?_ ?_;exact(by refine eb ?_ ?_;exact(by refine aW ?_ ?_ ?_;exact fz;exact ba;exact(λ_=>rfl));exact ag);exact(by refine aW ?_ ?_ ?_;exact(by refine eb ?_ ?_;exact(by refine aW ?_ ?_ ?_;exact fz;exact ba;exact(λ_=>rfl));exact ag);exact ba;exact(λ_=>rfl));exact(λ_=>rfl));exact(λ_=>rfl));exact ag);exact(aQ 2);exact(λ_ _=>rfl)));exact cr) cr) (bA (iA (eZ (aQ 2) cu rfl) (by refine bA ?_ ?_;exact(by refine eO ?_;exact(by refine eb ?_ ?_;exact(by refine aW ?_ ?_ ?_;exact(by refine cV ?_ ?_ ?_;exact(by refine eb ?_ ?_;exact(by refine aW ?_ ?_ ?_;exact fz;exact(by refine aW ?_ ?_ ?_;exact fz;exact(by refine aW ?_ ?_ ?_;exact fz;exact ba;exact(λ_=>rfl));exact(λ_=>rfl));exact(λ_=>rfl));exact ag);exact(gD G.X (G.gl _ _ rfl) (nR w) rfl rfl (ni G) (by lia) (aW (aQ 0) (by refine aW ?_ ?_ ?_;exact cu;exact ba;exact(λ_=>rfl))));exact(λ_ _=>rfl));exact ba;exact(λ_=>rfl));exact ag));exact cr) cr) (bA (dK (gD G.X (G.gl _ _ rfl) (C7 w) rfl rfl aE (bD _) (aW (aQ 0) (aW (fb (aQ 1) cu) ba))) (gb 3 rfl (.inl rfl)) (λae h=>dJ ae rfl rfl rfl)) (bA (iA (eZ (aQ 2) cu rfl) (by refine bA ?_ ?_;exact(by refine eO ?_;exact(by refine eb ?_ ?_;exact(by refine aW ?_ ?_ ?_;exact fz;exact(aW (aQ 3) ba);exact(λ_=>rfl));exact ag));exact cr) cr) (bA (dK (gD G.X (G.gl _ _ rfl) (C7 w) rfl rfl aE (bD _) (aW (aQ 0) (aW (fb (aQ 1) cu) ba))) (gb 4 rfl (.inl rfl)) (λae h=>dJ ae rfl rfl rfl)) (bA (eO (eb (aW (td (qu (eZ (aQ 2) cu rfl) (qu (eZ (gD G.X (G.gl _ _ rfl) (nR w) rfl rfl (ni G) (by lia) (aW (aQ 0) (by refine aW ?_ ?_ ?_;exact cu;exact ba;exact(λ_=>rfl)))) cu rfl) xW)) fz fz) (aW (aQ 3) (aW (aQ 4) ba))) ag)) cr)))))))
def EG:aY (Bool×aa):=(qa (aj 3))
def GS:aY (D×aa):=(j5 (cP .Eq (aj 1) (aj 2)) (aj 3) (aj 1))
def AQ:aY (ca×aK×aa):=(bl (cS (dd (ay (bW (ay (bX (aj 2) (aj 7)) (ay (bX (aj 2) (aj 5)) aJ)) uX) (ay (bW (ay (bX (aj 2) (aj 7)) (ay (bX (aj 2) (aj 5)) aJ)) qo) aJ))) (gv [8,9])) (bl (f6 (cP .NotEq (aj 8) (aj 9)) (bl (cS (dd (ay (ea (c9 (aj 2)) [none,none,some 9,some 8] (b9 1) ef (dL (GS))) (ay (a7 (.bool true)) aJ))) (gv [2,3])) cc) cc) cc))
def Yj:aY (Bool×aa):=(cP .NotEq (bX (aj 3) (bX (bX (aj 5) (aj 2)) (aj 1))) (bX (aj 3) (bX (aj 4) (aj 1))))
def OO:aY (D×aa):=(aj 1)
def z6:aY (Bool×aa):=(rv (cP .Eq (bX (bX (aj 7) (aj 1)) (a7 (.int 0))) (bX (aj 6) (a7 (.int 0)))) (rv (cP .Eq (bW (ay (bX (aj 7) (aj 1)) aJ) ek) (bW (ay (aj 6) aJ) ek)) (rv (cP .Eq (ea (kx (ay (a7 (.int 1)) (ay (bW (ay (aj 6) aJ) ek) aJ))) [none,none,some 1,some 5,some 6,some 7] (b9 1) (Yj) (dL (OO))) (fM aJ)) ef)))
def Bv:aY (D×aa):=(dd (ay (aj 1) (ay (aj 4) aJ)))
def FX:aY (ca×aK×aa):=(bl (fo (eV "list" (aj 4) (ay (ea (kx (ay (aj 5) aJ)) [none,none,none,none,some 5,some 2,some 6,some 0] (b9 1) (z6) (dL (Bv))) aJ) pe)) cc)
def AU:aY (ca×aK×aa):=(bl (cS (a7 (.bool false)) (b9 3)) (bl (cS (bW (ay (aj 1) aJ) uW) (b9 4)) (bl (jX (rN (aj 0)) (gv [5,6]) (FX)) (bl (jX (c9 (aj 4)) (gv [7,5]) (AQ)) cc))))
def PD:aY (ca×aK×aa):=(bl (cS (dd (ay (si (bW (ay (aj 0) aJ) ek)) (ay (a7 (.bool true)) aJ))) (gv [2,3])) (bl (kd (EG) (AU)) (bl (d9 (aj 2)) cc)))
def yq:List D->aa->Option (D×aa):=eP 2 [some 0,some 1,none,none,none,none,none,none,none,none,none,none,none,none,none,none] PD
theorem Mr(G:eD am (bS w) eJ eI):dU prog w am 1 (.ref 452) yq:=
 fc (n:=0) G [some 0,some 1,none,none,none,none,none,none,none,none,none,none,none,none,none,none] 2 (by rfl) (by rfl) (v2 λ_ _=>rfl) (by rfl) (by rfl) ag ag ag ag rfl rfl rfl (bA (dK (eb (aW (Gz (G.c5 _ _ rfl) (G.c5 _ _ rfl) rfl rfl (fZ (G.c5 _ _ rfl) rfl rfl hH (bD _) (aW (ci 0) ba)) (λ_=>rfl)) (by refine aW ?_ ?_ ?_;exact pu;exact ba;exact(λ_=>rfl))) ag) (mG (.cons rfl (.inr rfl) (.cons rfl (.inl rfl) .nil))) (λae h=>dJ ae rfl (by cases ae;subst h;rfl) rfl)) (bA (u5 (xX (aQ 3) (λ_ _=>rfl)) (by refine bA ?_ ?_;exact(by refine dK ?_ ?_ ?_;exact pu;exact(gb 3 rfl (.inl rfl));exact(λae h=>dJ ae rfl rfl rfl));exact(bA (dK (lZ (G.c5 _ _ rfl) rfl rfl NL (bD _) (aW (aQ 1) ba)) (gb 4 rfl (.inl rfl)) (λae h=>dJ ae rfl rfl rfl)) (bA (ow (Gp (G.c5 _ _ rfl) rfl (ci 0) (λ_=>rfl)) (mG (.cons rfl (.inr rfl) (.cons rfl (.inr rfl) .nil))) (bA (gX (gY "list" _ PySem.F.slot_list_extend PySem.F.type_list_extend ix u0 (bD _) (aQ 4) (aW (ib ⟨rfl,by decide,by decide,rfl⟩ (rG (G.c5 _ _ rfl) rfl (aW (ci 5) ba)) (hg 1 rfl (.inr rfl) (λ_=>by decide)) (tc (u6 (eZ (cV (cV (ci 7) (ci 1) (λ_ _=>rfl)) cu (λ_ _=>rfl)) (cV (ci 6) cu (λ_ _=>rfl)) rfl) (u6 (eZ (fZ (G.c5 _ _ rfl) rfl rfl hH (bD _) (aW (cV (ci 7) (ci 1) (λ_ _=>rfl)) ba)) (fZ (G.c5 _ _ rfl) rfl rfl hH (bD _) (aW (ci 6) ba)) rfl) (u6 (eZ (ib ⟨rfl,by decide,by decide,rfl⟩ (rG (G.c5 _ _ rfl) rfl (by refine aW ?_ ?_ ?_;exact cu;exact(aW (fZ (G.c5 _ _ rfl) rfl rfl hH (bD _) (aW (ci 6) ba)) ba);exact(λ_=>rfl))) (hg 1 rfl (.inl rfl) (λh=>absurd rfl h)) (tc (eZ (cV (ci 3) (cV (cV (ci 5) (ci 2) (λ_ _=>rfl)) (aQ 1) (λ_ _=>rfl)) (λ_ _=>rfl)) (cV (ci 3) (cV (ci 4) (aQ 1) (λ_ _=>rfl)) (λ_ _=>rfl)) rfl)) (aQ 1) (.inr ⟨rfl,rfl⟩) (λ_ _=>rfl)) (by refine gZ ?_ ?_;exact ba;exact ag) rfl) Gu)))) (eb (aW (ci 1) (aW (ci 4) ba)) ag) (.inr ⟨rfl,rfl⟩) (λ_ _=>rfl)) ba) (λ_=>⟨rfl,λ_=>rfl⟩) (di rfl rfl)) (g0 rfl)) cr) (.inl rfl) (λ_ _=>rfl)) (bA (ow (gC (aQ 4)) (mG (.cons rfl (.inl rfl) (.cons rfl (.inr rfl) .nil))) (bA (dK (eb (aW (fZ (G.c5 _ _ rfl) rfl rfl NM (bD _) (aW (cV (ci 2) (aQ 7) (λ_ _=>rfl)) (aW (cV (ci 2) (ci 5) (λ_ _=>rfl)) ba))) (aW (fZ (G.c5 _ _ rfl) rfl rfl F2 (bD _) (aW (cV (ci 2) (aQ 7) (λ_ _=>rfl)) (aW (cV (ci 2) (ci 5) (λ_ _=>rfl)) ba))) ba)) ag) (mG (.cons rfl (.inr rfl) (.cons rfl (.inr rfl) .nil))) (λae h=>dJ ae rfl (by cases ae;subst h;rfl) rfl)) (bA (iA (eZ (ci 8) (ci 9) rfl) (bA (dK (eb (aW (ib ⟨rfl,by decide,by decide,rfl⟩ (gC (ci 2)) (hg 1 rfl (.inl rfl) (λh=>absurd rfl h)) ia (td (eZ (aQ 1) (ci 2) rfl) (ci 3) (aQ 1)) (.inr ⟨rfl,rfl⟩) (λ_ _=>rfl)) (by refine aW ?_ ?_ ?_;exact pu;exact ba;exact(λ_=>rfl))) ag) (mG (.cons rfl (.inr rfl) (.cons rfl (.inl rfl) .nil))) (λae h=>dJ ae rfl (by cases ae;subst h;rfl) rfl)) cr) cr) cr)) (.inl rfl) (λ_ _=>rfl)) cr))))) (bA (eO (ci 2)) cr)))
def GN(r:List D->aa->Option (D×aa)):aY (D×aa):=(bW (ay (aj 1) (ay (aj 4) (ay (aj 3) aJ))) r)
def PC(r:List D->aa->Option (D×aa)):aY (ca×aK×aa):=(bl (f6 (cP .Eq (p9 (bX (aj 0) (a7 (.int 0))) (a7 (.int 1))) (a7 (.str "?"))) (bl (d9 (bX (aj 1) (bX (aj 0) (a7 (.int 0))))) cc) cc) (bl (d9 (eV "dict" (aj 2) (ay (et .Add (dd (ay (bX (aj 0) (a7 (.int 0))) aJ)) (bW (ay (ea (c9 (iR (aj 0) (a7 (.int 1)))) [none,none,none,some 2,some 1] (b9 1) ef (dL (GN r))) aJ) jR)) aJ) rB)) cc))
noncomputable def vz:Nat->List D->aa->Option (D×aa)
 |0,_,_=>none
 |k+1,J,C=>eP 3 [some 0,some 1,some 2,none] (PC (vz k)) J C
theorem Fj(G:eD am (bS w) eJ eI):∀k,dU prog w am (0+k) (.ref 457) (vz k)
 |0=>vr
 |k+1=>by
  have aE:=Fj G k
  exact fc (n:=0+k) G [some 0,some 1,some 2,none] 3 (by rfl) (by rfl) (n6 λ_ _ _=>rfl) (by rfl) (by rfl) ag ag ag ag rfl rfl rfl (bA (iA (eZ (x0 (cV (aQ 0) cu (λ_ _=>rfl)) cu) fz rfl) (bA (eO (cV (ci 1) (cV (aQ 0) cu (λ_ _=>rfl)) (λ_ _=>rfl))) cr) cr) (bA (eO (gY "dict" _ PySem.F.slot_dict_get PySem.F.type_dict_get PySem.F.plainAttrs_dict F1 (bD _) (ci 2) (aW (fb (eb (aW (cV (aQ 0) cu (λ_ _=>rfl)) ba) ag) (lZ (G.c5 _ _ rfl) rfl rfl pi (bD _) (aW (ib ⟨rfl,by decide,by decide,rfl⟩ (gC (nB (aQ 0) cu)) (hg 1 rfl (.inl rfl) (λh=>absurd rfl h)) ia (gD G.X (G.gl _ _ rfl) (Jb w) rfl rfl aE (bD _) (aW (aQ 1) (aW (ci 4) (aW (ci 3) ba)))) (.inr ⟨rfl,rfl⟩) (λ_ _=>rfl)) ba))) ba) (λ_=>⟨rfl,λ_=>rfl⟩) (di rfl rfl))) cr))
def FS(r:List D->aa->Option (D×aa)):aY (ca×aK×aa):=(bl (cS (et .Add (aj 1) (bW (ay (aj 2) aJ) r)) (b9 1)) cc)
def PF(r:List D->aa->Option (D×aa)):aY (ca×aK×aa):=(bl (cS (j5 (cP .Eq (p9 (bX (aj 0) (a7 (.int 0))) (a7 (.int 1))) (a7 (.str "?"))) (fM (ay (bX (aj 0) (a7 (.int 0))) aJ)) (fM aJ)) (b9 1)) (bl (jX (c9 (iR (aj 0) (a7 (.int 1)))) (b9 2) (FS r)) (bl (d9 (n1 (aj 1))) cc)))
noncomputable def vB:Nat->List D->aa->Option (D×aa)
 |0,_,_=>none
 |k+1,J,C=>eP 1 [some 0,none,none,none,none,none] (PF (vB k)) J C
theorem Fk(G:eD am (bS w) eJ eI):∀k,dU prog w am (0+k) (.ref 464) (vB k)
 |0=>vr
 |k+1=>by
  have aE:=Fk G k
  exact fc (n:=0+k) G [some 0,none,none,none,none,none] 1 (by rfl) (by rfl) (v1 λ_=>rfl) (by rfl) (by rfl) ag ag ag ag rfl rfl rfl (bA (dK (td (eZ (x0 (cV (aQ 0) cu (λ_ _=>rfl)) cu) fz rfl) (gZ (aW (cV (aQ 0) cu (λ_ _=>rfl)) ba) ag) (by refine gZ ?_ ?_;exact ba;exact ag)) (gb 1 rfl (.inl rfl)) (λae h=>dJ ae rfl rfl rfl)) (bA (ow (gC (nB (aQ 0) cu)) (gb 2 rfl (.inl rfl)) (bA (dK (fb (aQ 1) (gD G.X (G.gl _ _ rfl) (Jc w) rfl rfl aE (bD _) (aW (aQ 2) ba))) (gb 1 rfl (.inl rfl)) (λae h=>dJ ae rfl rfl rfl)) cr) (.inr ⟨rfl,rfl⟩) (λ_ _=>rfl)) (bA (eO (xZ (G.c5 _ _ rfl) rfl (G.c5 _ _ rfl) rfl (aQ 1) (λ_=>rfl) (λ_=>⟨rfl,λ_=>rfl⟩))) cr)))
def Lh:aY (Bool×aa):=(cP .IsNot (bX (aj 1) (a7 (.int 0))) (a7 .none))
def GU:aY (D×aa):=(aj 1)
def Bs:aY (D×aa):=(dd (ay (bW (ay (aj 5) (ay (bW (ay (aj 1) aJ) s5) (ay (aj 4) aJ))) (vz 4)) (ay (aj 1) aJ)))
def vd:aY (D×aa):=(et .Add (aj 1) (dd (ay (dd (ay (aj 6) (ay (aj 2) aJ))) aJ)))
def AS:aY (ca×aK×aa):=(bl (cS (ea (c9 (aj 4)) [none,none,none,none,none,some 2,some 5] (b9 1) ef (rL (c9 (n1 (aj 5))) (b9 2) ef (dL (vd)))) (b9 4)) cc)
def OP:aY (D×aa):=(bX (aj 2) (aj 1))
def ve:aY (D×aa):=(dd (ay (et .Add (dd (ay (bX (aj 2) (a7 (.int 0))) aJ)) (bW (ay (ea (c9 (iR (aj 2) (a7 (.int 1)))) [none,none,some 4] (b9 1) ef (dL (OP))) aJ) jR)) (ay (bX (aj 4) (aj 1)) aJ)))
def PE:aY (ca×aK×aa):=(bl (cS (bW (ay (ea (rN (aj 1)) [none,none,none,none,some 2] (gv [1,2]) ef (dL (ve))) aJ) s5) (b9 3)) (bl (cS (fM (ay (dd aJ) aJ)) (b9 4)) (bl (jX (c9 (bW (ay (aj 0) aJ) (vB 4))) (b9 5) (AS)) (bl (cS (ea (c9 (aj 4)) [none,none,none,none,some 3,some 0] (b9 1) ef (dL (Bs))) (b9 6)) (bl (d9 (bW (ay (ea (c9 (aj 6)) [none,none] (b9 1) (Lh) (dL (GU))) aJ) ny)) cc)))))
def vA:List D->aa->Option (D×aa):=eP 3 [some 0,some 1,some 2,none,none,none,none,none,none,none,none] PE
theorem Ms(G:eD am (bS w) eJ eI):dU prog w am 5 (.ref 469) vA:=
 fc (n:=4) G [some 0,some 1,some 2,none,none,none,none,none,none,none,none] 3 (by rfl) (by rfl) (n6 λ_ _ _=>rfl) (by rfl) (by rfl) ag ag ag ag rfl rfl rfl (bA (dK (lZ (G.c5 _ _ rfl) rfl rfl F0 (bD _) (aW (ib ⟨rfl,by decide,by decide,rfl⟩ (Gp (G.c5 _ _ rfl) rfl (aQ 1) (λ_=>rfl)) (Gv (.cons rfl (.inl rfl) (λh=>absurd rfl h) (.cons rfl (.inl rfl) (λh=>absurd rfl h) .nil))) ia (eb (aW (fb (eb (aW (cV (aQ 2) cu (λ_ _=>rfl)) ba) ag) (lZ (G.c5 _ _ rfl) rfl rfl pi (bD _) (aW (ib ⟨rfl,by decide,by decide,rfl⟩ (gC (nB (aQ 2) cu)) (hg 1 rfl (.inl rfl) (λh=>absurd rfl h)) ia (cV (ci 2) (aQ 1) (λ_ _=>rfl)) (.inr ⟨rfl,rfl⟩) (λ_ _=>rfl)) ba))) (aW (cV (ci 4) (aQ 1) (λ_ _=>rfl)) ba)) ag) (.inl rfl) (λ_ _=>rfl)) ba)) (gb 3 rfl (.inr rfl)) (λae h=>dJ ae rfl rfl rfl)) (by refine bA ?_ ?_;exact(by refine dK ?_ ?_ ?_;exact(by refine gZ ?_ ?_;exact(by refine aW ?_ ?_ ?_;exact(by refine eb ?_ ?_;exact ba;exact ag);exact ba;exact(λ_=>rfl));exact ag);exact(gb 4 rfl (.inl rfl));exact(λae h=>dJ ae rfl rfl rfl));exact(bA (ow (gC (gD G.X (G.gl _ _ rfl) (Jc w) rfl rfl (Fk G 4) (by lia) (aW (ci 0) ba))) (gb 5 rfl (.inr rfl)) (bA (Oo 4 ⟨rfl,by decide,by decide,rfl⟩ rfl (gC (aQ 4)) (hg 1 rfl (.inl rfl) (λh=>absurd rfl h)) ia (gC (xZ (G.c5 _ _ rfl) rfl (G.c5 _ _ rfl) rfl (ci 5) (λ_=>rfl) (λ_=>⟨rfl,λ_=>rfl⟩))) (hg 2 rfl (.inl rfl) (λh=>absurd rfl h)) ia (fb (aQ 1) (eb (aW (eb (aW (ci 6) (aW (aQ 2) ba)) ag) ba) ag)) (.inr ⟨rfl,rfl⟩) (.inr ⟨rfl,rfl⟩) (λ_ _=>rfl) (λ_ _=>rfl) (λae h=>by first|rfl|(cases ae;subst h;rfl))) cr) (.inr ⟨rfl,rfl⟩) (λ_ _=>rfl)) (bA (xV 6 ⟨rfl,by decide,by decide,rfl⟩ rfl (gC (aQ 4)) (hg 1 rfl (.inl rfl) (λh=>absurd rfl h)) ia (eb (aW (gD G.X (G.gl _ _ rfl) (Jb w) rfl rfl (Fj G 4) (by lia) (aW (ci 5) (aW (lZ (G.c5 _ _ rfl) rfl rfl F0 (bD _) (aW (aQ 1) ba)) (aW (ci 4) ba)))) (aW (aQ 1) ba)) ag) (.inr ⟨rfl,rfl⟩) (λ_ _=>rfl) (λae h=>by first|rfl|(cases ae;subst h;rfl))) (bA (eO (fZ (G.c5 _ _ rfl) rfl rfl xJ (bD _) (aW (ib ⟨rfl,by decide,by decide,rfl⟩ (gC (aQ 6)) (hg 1 rfl (.inl rfl) (λh=>absurd rfl h)) (tc (eZ (cV (aQ 1) cu (λ_ _=>rfl)) Bk rfl)) (aQ 1) (.inr ⟨rfl,rfl⟩) (λ_ _=>rfl)) ba))) cr)))))
def GO(r:List D->aa->Option (D×aa)):aY (D×aa):=(bW (ay (aj 1) aJ) r)
def PH(r:List D->aa->Option (D×aa)):aY (ca×aK×aa):=(bl (cS (eV "dict" (u9 "?x" "?y" (a7 (.str "?y")) (a7 (.str "?x"))) (ay (bX (aj 0) (a7 (.int 0))) (ay (bX (aj 0) (a7 (.int 0))) aJ)) rB) (b9 1)) (bl (d9 (et .Add (dd (ay (aj 1) aJ)) (bW (ay (ea (c9 (iR (aj 0) (a7 (.int 1)))) [none,none,none] (b9 1) ef (dL (GO r))) aJ) jR))) cc))
noncomputable def vC:Nat->List D->aa->Option (D×aa)
 |0,_,_=>none
 |k+1,J,C=>eP 1 [some 0,none,none] (PH (vC k)) J C
theorem Fm(G:eD am (bS w) eJ eI):∀k,dU prog w am (0+k) (.ref 474) (vC k)
 |0=>vr
 |k+1=>by
  have aE:=Fm G k
  exact fc (n:=0+k) G [some 0,none,none] 1 (by rfl) (by rfl) (v1 λ_=>rfl) (by rfl) (by rfl) ag ag ag ag rfl rfl rfl (by refine bA ?_ ?_;exact(by refine dK ?_ ?_ ?_;exact(gY "dict" _ PySem.F.slot_dict_get PySem.F.type_dict_get PySem.F.plainAttrs_dict F1 (bD _) (by refine Gy ?_ ?_;exact fz;exact fz) (aW (cV (aQ 0) cu (λ_ _=>rfl)) (aW (cV (aQ 0) cu (λ_ _=>rfl)) ba)) (λ_=>⟨rfl,λ_=>rfl⟩) (di rfl rfl));exact(gb 1 rfl (.inl rfl));exact(λae h=>dJ ae rfl rfl rfl));exact(bA (eO (fb (eb (aW (aQ 1) ba) ag) (lZ (G.c5 _ _ rfl) rfl rfl pi (bD _) (aW (ib ⟨rfl,by decide,by decide,rfl⟩ (gC (nB (aQ 0) cu)) (hg 1 rfl (.inl rfl) (λh=>absurd rfl h)) ia (gD G.X (G.gl _ _ rfl) (Jd w) rfl rfl aE (bD _) (aW (aQ 1) ba)) (.inr ⟨rfl,rfl⟩) (λ_ _=>rfl)) ba)))) cr))
end
noncomputable section
variable{prog:Program}{w:World}{am:Heap}
theorem Tr(w:World):keepIn (bS w) (.ref 217)=true:=by rfl
theorem To(w:World):keepIn (bS w) (.ref 190)=true:=by rfl
theorem UP(w:World):hA (bS w) 217 "run" 214=true:=by rfl
theorem Tq(w:World):keepIn (bS w) (.ref 214)=true:=by rfl
theorem TG(w:World):keepIn (bS w) (.ref 469)=true:=by rfl
theorem TF(w:World):keepIn (bS w) (.ref 452)=true:=by rfl
theorem JI(w:World):hA (bS w) 429 "settle" 381=true:=by rfl
theorem Ja(w:World):keepIn (bS w) (.ref 381)=true:=by rfl
theorem UY(w:World):hA (bS w) 429 "merge" 367=true:=by rfl
theorem Tz(w:World):keepIn (bS w) (.ref 367)=true:=by rfl
theorem TD(w:World):keepIn (bS w) (.ref 429)=true:=by rfl
def FT(c1:Addr)(ns:List Int):aY (ca×aK×aa):=(bl (f6 (cP .NotEq (dy 217 "run" (bW (ay (aj 2) aJ) to) (ay (bW (ay (aj 13) aJ) vG) aJ) vx) (bW (ay (aj 13) (ay (aj 4) (ay (aj 11) aJ))) vA)) (bl (d9 (a7 (.bool false))) cc) cc) cc)
def AP(c1:Addr)(ns:List Int):aY (ca×aK×aa):=(bl (cS (bW (ay (aj 1) (ay (a7 (.int 2)) aJ)) (qG 3)) (b9 12)) (bl (jX (c9 (dd (ay (aj 12) (ay (bW (ay (aj 12) aJ) (vC 4)) aJ)))) (b9 13) (FT c1 ns)) cc))
def Bt(c1:Addr)(ns:List Int):aY (D×aa):=(dy 429 "find" (aj 2) (ay (aj 1) aJ) qF)
def AR(c1:Addr)(ns:List Int):aY (ca×aK×aa):=(bl (fo (eV "list" (aj 5) (ay (dd (ay (bW (ay (aj 1) (ay (bW (ay (aj 4) aJ) ek) aJ)) hu) (ay (bW (ay (aj 1) (ay (bW (ay (aj 4) aJ) ek) aJ)) hu) aJ))) aJ) bAppend)) (bl (fo (dy 429 "merge" (aj 2) (ay (bX (bX (aj 5) (zy (a7 (.int 1)))) (a7 (.int 0))) (ay (bX (bX (aj 5) (zy (a7 (.int 1)))) (a7 (.int 1))) (ay (dd (ay (a7 (.str "told")) (ay (et .Add (a7 (.str "m")) (bW (ay (aj 7) aJ) xI)) aJ))) aJ))) BM)) (bl (f6 (cP .Eq (bW (ay (aj 1) (ay (a7 (.int 2)) aJ)) hu) (a7 (.int 0))) (bl (fo (dy 429 "settle" (aj 2) aJ tn)) cc) cc) cc)))
def AT(c1:Addr)(ns:List Int):aY (ca×aK×aa):=(bl (cS (dd (ay (bW (ay (aj 1) (ay (bW (ay (aj 4) aJ) ek) aJ)) hu) (ay (bW (ay (aj 1) (ay (bW (ay (aj 4) aJ) ek) aJ)) hu) aJ))) (gv [8,9])) (bl (cS (j5 (cP .Eq (bW (ay (aj 1) (ay (a7 (.int 2)) aJ)) hu) (a7 (.int 0))) (dd (ay (a7 (.str "f")) (ay (aj 8) aJ))) (dd (ay (a7 (.str "g")) (ay (aj 8) (ay (aj 9) aJ))))) (b9 10)) (bl (f6 (cP .NotIn (aj 10) (aj 4)) (bl (fo (eV "list" (aj 4) (ay (aj 10) aJ) bAppend)) (bl (fo (eV "list" (aj 6) (ay (dy 429 "add" (aj 2) (ay (bX (aj 10) (a7 (.int 0))) (ay (iR (aj 10) (a7 (.int 1))) aJ)) vu) aJ) bAppend)) cc)) cc) cc)))
def GY(c1:Addr)(ns:List Int):aY (D×aa):=(dy 429 "put" (aj 2) (ay (aj 1) aJ) (ym 1))
def Bw(c1:Addr)(ns:List Int):aY (D×aa):=(et .Mod (aj 1) (a7 (.int 5040)))
def PK(c1:Addr)(ns:List Int):aY (ca×aK×aa):=(bl (cS (u9 "cells" "spot" (ea (c9 (EU c1 ns 60 (aj 0))) [none,none] (b9 1) ef (dL (Bw c1 ns))) (a7 (.int 0))) (b9 1)) (bl (cS (dd (ay (bW aJ BL) (ay (fM (ay (dd (ay (a7 (.str "a")) aJ)) (ay (dd (ay (a7 (.str "b")) aJ)) aJ))) (ay (fM (ay (dd (ay (a7 (.str "a")) aJ)) (ay (dd (ay (a7 (.str "b")) aJ)) aJ))) (ay (fM aJ) aJ))))) (gv [2,3,4,5])) (bl (cS (ea (c9 (aj 3)) [none,none,some 2] (b9 1) ef (dL (GY c1 ns))) (b9 6)) (bl (jX (kx (ay (et .Add (a7 (.int 1)) (bW (ay (aj 1) (ay (a7 (.int 4)) aJ)) hu)) aJ)) (b9 7) (AT c1 ns)) (bl (jX (kx (ay (bW (ay (aj 1) (ay (a7 (.int 4)) aJ)) hu) aJ)) (b9 7) (AR c1 ns)) (bl (fo (dy 429 "settle" (aj 2) aJ tn)) (bl (cS (bW (ay (aj 4) (ay (aj 5) aJ)) yq) (b9 11)) (bl (f6 (jC (cP .NotEq (aj 6) (si (bW (ay (aj 4) aJ) ek))) (jC (cP .NotEq (ea (c9 (aj 6)) [none,none,some 2] (b9 1) ef (dL (Bt c1 ns))) (aj 11)) qA)) (bl (d9 (a7 (.bool false))) cc) cc) (bl (jX (kx (ay (a7 (.int 2)) aJ)) (b9 7) (AP c1 ns)) (bl (d9 (a7 (.bool true))) cc))))))))))
def Hx(c1:Addr)(ns:List Int):List D->aa->Option (D×aa):=eP 1 [some 0,none,none,none,none,none,none,none,none,none,none,none,none,none,none,none,none,none,none,none,none,none,none,none,none,none] (PK c1 ns)
theorem Mv(G:eD am (bS w) eJ eI){c1:Addr}{vs:List Value}{ns:List Int}(dQ:am.IsList c1 vs.toArray)(ed:IntsAre vs ns)(vJ:ns.length<=63):dU prog w am 11 (.ref 479) (Hx c1 ns):=
 fc (n:=10) G [some 0,none,none,none,none,none,none,none,none,none,none,none,none,none,none,none,none,none,none,none,none,none,none,none,none,none] 1 (by rfl) (by rfl) (v1 λ_=>rfl) (by rfl) (by rfl) ag ag ag ag rfl rfl rfl (by refine bA ?_ ?_;exact(by refine dK ?_ ?_ ?_;exact(by refine Gy ?_ ?_;exact(ib ⟨rfl,by decide,by decide,rfl⟩ (gC (Ot (j:=60) dQ ed vJ (aQ 0) cu)) (hg 1 rfl (.inl rfl) (λh=>absurd rfl h)) ia (fb (aQ 1) cu) (.inr ⟨rfl,rfl⟩) (λ_ _=>rfl));exact cu);exact(gb 1 rfl (.inl rfl));exact(λae h=>dJ ae rfl rfl rfl));exact(bA (dK (eb (aW (gD G.X (G.gl _ _ rfl) (TD w) rfl rfl (Ma G) (by lia) ba (λ_=>trivial)) (by refine aW ?_ ?_ ?_;exact(by refine gZ ?_ ?_;exact(by refine aW ?_ ?_ ?_;exact(by refine eb ?_ ?_;exact(by refine aW ?_ ?_ ?_;exact fz;exact ba;exact(λ_=>rfl));exact ag);exact(by refine aW ?_ ?_ ?_;exact(by refine eb ?_ ?_;exact(by refine aW ?_ ?_ ?_;exact fz;exact ba;exact(λ_=>rfl));exact ag);exact ba;exact(λ_=>rfl));exact(λ_=>rfl));exact ag);exact(by refine aW ?_ ?_ ?_;exact(by refine gZ ?_ ?_;exact(by refine aW ?_ ?_ ?_;exact(by refine eb ?_ ?_;exact(by refine aW ?_ ?_ ?_;exact fz;exact ba;exact(λ_=>rfl));exact ag);exact(by refine aW ?_ ?_ ?_;exact(by refine eb ?_ ?_;exact(by refine aW ?_ ?_ ?_;exact fz;exact ba;exact(λ_=>rfl));exact ag);exact ba;exact(λ_=>rfl));exact(λ_=>rfl));exact ag);exact(by refine aW ?_ ?_ ?_;exact(by refine gZ ?_ ?_;exact ba;exact ag);exact ba;exact(λ_=>rfl));exact(λ_=>rfl));exact(λ_=>rfl))) ag) (mG (.cons rfl (.inr rfl) (.cons rfl (.inl rfl) (.cons rfl (.inl rfl) (.cons rfl (.inl rfl) .nil))))) (λae h=>dJ ae rfl (by cases ae;subst h;rfl) rfl)) (bA (xV 6 ⟨rfl,by decide,by decide,rfl⟩ rfl (gC (aQ 3)) (hg 1 rfl (.inl rfl) (λh=>absurd rfl h)) ia (fy 429 _ G.X (JH w) (I7 w) (Fh G 1) (by lia) (ci 2) (aW (aQ 1) ba) (λ_=>⟨rfl,λ_=>rfl⟩) (di rfl rfl)) (.inr ⟨rfl,rfl⟩) (λ_ _=>rfl) (λae h=>by first|rfl|(cases ae;subst h;rfl))) (bA (ow (rG (G.c5 _ _ rfl) rfl (by refine aW ?_ ?_ ?_;exact(by refine fb ?_ ?_;exact cu;exact(gD G.X (G.gl _ _ rfl) (nR w) rfl rfl (ni G) (by lia) (aW (aQ 1) (by refine aW ?_ ?_ ?_;exact cu;exact ba;exact(λ_=>rfl)))));exact ba;exact(λ_=>rfl))) (gb 7 rfl (.inl rfl)) (bA (Op (eb (aW (gD G.X (G.gl _ _ rfl) (nR w) rfl rfl (ni G) (by lia) (aW (aQ 1) (aW (fZ (G.c5 _ _ rfl) rfl rfl hH (bD _) (aW (aQ 4) ba)) ba))) (aW (gD G.X (G.gl _ _ rfl) (nR w) rfl rfl (ni G) (by lia) (aW (aQ 1) (aW (fZ (G.c5 _ _ rfl) rfl rfl hH (bD _) (aW (aQ 4) ba)) ba))) ba)) ag) rfl rfl ag (λae h=>by cases ae;subst h;rfl) (λae h=>by cases ae;subst h;rfl)) (bA (dK (td (eZ (gD G.X (G.gl _ _ rfl) (nR w) rfl rfl (ni G) (by lia) (aW (aQ 1) (by refine aW ?_ ?_ ?_;exact cu;exact ba;exact(λ_=>rfl)))) cu rfl) (by refine eb ?_ ?_;exact(by refine aW ?_ ?_ ?_;exact fz;exact(aW (aQ 8) ba);exact(λ_=>rfl));exact ag) (by refine eb ?_ ?_;exact(by refine aW ?_ ?_ ?_;exact fz;exact(aW (aQ 8) (aW (aQ 9) ba));exact(λ_=>rfl));exact ag)) (gb 10 rfl (.inl rfl)) (λae h=>dJ ae rfl rfl rfl)) (bA (iA (eZ (aQ 10) (aQ 4) rfl) (bA (gX (gY "list" _ lL lK ix lj (bD _) (aQ 4) (aW (aQ 10) ba) (λ_=>⟨rfl,λ_=>rfl⟩) (di rfl rfl)) (g0 rfl)) (bA (gX (gY "list" _ lL lK ix lj (bD _) (aQ 6) (aW (fy 429 _ G.X (JD w) (I6 w) (Fd G) (by lia) (ci 2) (aW (cV (aQ 10) cu (λ_ _=>rfl)) (aW (nB (aQ 10) cu) ba)) (λ_=>⟨rfl,λ_=>rfl⟩) (di rfl rfl)) ba) (λ_=>⟨rfl,λ_=>rfl⟩) (di rfl rfl)) (g0 rfl)) cr)) cr) cr))) (.inr ⟨rfl,rfl⟩) (λ_ _=>rfl)) (bA (ow (rG (G.c5 _ _ rfl) rfl (aW (gD G.X (G.gl _ _ rfl) (nR w) rfl rfl (ni G) (by lia) (aW (aQ 1) (by refine aW ?_ ?_ ?_;exact cu;exact ba;exact(λ_=>rfl)))) ba)) (gb 7 rfl (.inl rfl)) (bA (gX (gY "list" _ lL lK ix lj (bD _) (aQ 5) (aW (eb (aW (gD G.X (G.gl _ _ rfl) (nR w) rfl rfl (ni G) (by lia) (aW (aQ 1) (aW (fZ (G.c5 _ _ rfl) rfl rfl hH (bD _) (aW (aQ 4) ba)) ba))) (aW (gD G.X (G.gl _ _ rfl) (nR w) rfl rfl (ni G) (by lia) (aW (aQ 1) (aW (fZ (G.c5 _ _ rfl) rfl rfl hH (bD _) (aW (aQ 4) ba)) ba))) ba)) ag) ba) (λ_=>⟨rfl,λ_=>rfl⟩) (di rfl rfl)) (g0 rfl)) (bA (gX (fy 429 _ G.X (UY w) (Tz w) (Me G) (by lia) (ci 2) (aW (cV (cV (aQ 5) (by refine GA ?_;exact cu) (λ_ _=>rfl)) cu (λ_ _=>rfl)) (aW (cV (cV (aQ 5) (by refine GA ?_;exact cu) (λ_ _=>rfl)) cu (λ_ _=>rfl)) (by refine aW ?_ ?_ ?_;exact(by refine eb ?_ ?_;exact(by refine aW ?_ ?_ ?_;exact fz;exact(by refine aW ?_ ?_ ?_;exact(by refine fb ?_ ?_;exact fz;exact(lZ (G.c5 _ _ rfl) rfl rfl NO (bD _) (aW (aQ 7) ba)));exact ba;exact(λ_=>rfl));exact(λ_=>rfl));exact ag);exact ba;exact(λ_=>rfl)))) (λ_=>⟨rfl,λ_=>rfl⟩) (di rfl rfl)) (g0 rfl)) (bA (iA (eZ (gD G.X (G.gl _ _ rfl) (nR w) rfl rfl (ni G) (by lia) (aW (aQ 1) (by refine aW ?_ ?_ ?_;exact cu;exact ba;exact(λ_=>rfl)))) cu rfl) (bA (gX (fy 429 _ G.X (JI w) (Ja w) (Fi G) (by lia) (ci 2) ba (λ_=>trivial) (di rfl rfl)) (g0 rfl)) cr) cr) cr))) (.inr ⟨rfl,rfl⟩) (λ_ _=>rfl)) (bA (gX (fy 429 _ G.X (JI w) (Ja w) (Fi G) (by lia) (ci 2) ba (λ_=>trivial) (di rfl rfl)) (g0 rfl)) (bA (dK (gD G.X (G.gl _ _ rfl) (TF w) rfl rfl (Mr G) (by lia) (aW (aQ 4) (aW (aQ 5) ba))) (gb 11 rfl (.inl rfl)) (λae h=>dJ ae rfl rfl rfl)) (bA (iA (qu (eZ (aQ 6) (Gz (G.c5 _ _ rfl) (G.c5 _ _ rfl) rfl rfl (fZ (G.c5 _ _ rfl) rfl rfl hH (bD _) (aW (aQ 4) ba)) (λ_=>rfl)) rfl) (qu (eZ (ib ⟨rfl,by decide,by decide,rfl⟩ (gC (aQ 6)) (hg 1 rfl (.inl rfl) (λh=>absurd rfl h)) ia (fy 429 _ G.X (wK w) (wE w) (uE G) (by lia) (ci 2) (aW (aQ 1) ba) (λ_=>⟨rfl,λ_=>rfl⟩) (di rfl rfl)) (.inr ⟨rfl,rfl⟩) (λ_ _=>rfl)) (aQ 11) rfl) xW)) (by refine bA ?_ ?_;exact(by refine eO ?_;exact pu);exact cr) cr) (bA (ow (rG (G.c5 _ _ rfl) rfl (by refine aW ?_ ?_ ?_;exact cu;exact ba;exact(λ_=>rfl))) (gb 7 rfl (.inl rfl)) (bA (dK (gD G.X (G.gl _ _ rfl) (C7 w) rfl rfl (Fl G 3) (by lia) (aW (aQ 1) (by refine aW ?_ ?_ ?_;exact cu;exact ba;exact(λ_=>rfl)))) (gb 12 rfl (.inl rfl)) (λae h=>dJ ae rfl rfl rfl)) (bA (ow (gC (eb (aW (aQ 12) (aW (gD G.X (G.gl _ _ rfl) (Jd w) rfl rfl (Fm G 4) (by lia) (aW (aQ 12) ba)) ba)) ag)) (gb 13 rfl (.inl rfl)) (bA (iA (eZ (fy 217 _ G.X (UP w) (Tq w) (Mi G) (by lia) (gD G.X (G.gl _ _ rfl) (Tr w) rfl rfl (Mg G) (by lia) (aW (ci 2) ba)) (aW (gD G.X (G.gl _ _ rfl) (To w) rfl rfl (Mw G) (by lia) (aW (aQ 13) ba)) ba) (λ_=>⟨rfl,λ_=>rfl⟩) (JA (λ_ _ _=>rfl) rfl (λ_=>rfl))) (gD G.X (G.gl _ _ rfl) (TG w) rfl rfl (Ms G) (by lia) (aW (aQ 13) (aW (aQ 4) (aW (aQ 11) ba)))) rfl) (by refine bA ?_ ?_;exact(by refine eO ?_;exact pu);exact cr) cr) cr) (.inr ⟨rfl,rfl⟩) (λ_ _=>rfl)) cr)) (.inr ⟨rfl,rfl⟩) (λ_ _=>rfl)) (by refine bA ?_ ?_;exact(by refine eO ?_;exact pu);exact cr))))))))))
end
end
section
open PySem PySem.W
theorem bp{be dh:Type _}{o:Option be}{f:be->Option dh}{a:be}{r:Option dh}(h:o=some a)(k:f a=r):o.bind f=r:=(bb (Option.bind · f) h).trans k
theorem ck{be dh:Type _}{o:Option be}{f:be->dh}{a:be}(h:o=some a):o.map f=some (f a):=bb (Option.map f) h
theorem rU{be:Type}{p:List be}{n:Nat}{d:be}(aH:n<p.length):p[n]?=some (p.getD n d):=by
 rw[kC,gz aH];rfl
theorem sj{be dh:Type}{f:be->dh}{p:List be}{n:Nat}{d:be}(aH:n<p.length):(p.map f)[n]?=some (f (p.getD n d)):=iM.trans (ck (rU aH))
theorem tT{be dh:Type}{f:be->dh}{p:List be}{n:Nat}{x:be}(h:p[n]?=some x):(p.map f)[n]?=some (f x):=iM.trans (ck h)
@[elab_as_elim] theorem Dk {P:Nat->Prop} {v:Nat} (h:v<3) (a:P 0) (b:P 1) (c:P 2):P v:=by
 cases v with
 |zero=>exact a
 |succ v=>
  cases v with
  |zero=>exact b
  |succ v=>
   cases v with
   |zero=>exact c
   |succ v=>exact absurd h (rj (oX 3 v))
theorem dC{n:Nat}(h:n<=10000):n<=lim:=aO h ag
theorem wt{n:Nat}(h:n<=lim):-(2^62)<=(n:Int)/\(n:Int)<2^62:=by unfold lim at h;exact⟨by lia,by lia⟩
section
variable{C aB:aa}{l k:Nat}{xs bB:List D}{d:D}{m:aK}{e:aY (D×aa)}
theorem gs(h:e m C=some (d,aB)):ay e aJ m C=some ([d],aB):=bp h rfl
theorem il(h:C[l]?=some (.list xs)):gu C l=some xs:=by delta gu;rw[h]
theorem KZ{aN}(h:C[l]?=some (.ee aN)):ra C l=some aN:=by delta ra;rw[h]
theorem z8{aN}(h:C[l]?=some (.du aN)):n2 C l=some aN:=by delta n2;rw[h]
theorem SG{aN}(h:C[l]?=some (.gR aN)):tJ C l=some aN:=by delta tJ;rw[h]
theorem sh(h:C[l]?=some (.list xs))(aw:xs.length<=lim):ek [.obj l] C=some (.int xs.length,C):=bp (il h) (a3 aw)
theorem T3(aw:xs.length<=lim):ek [.tup xs] C=some (.int xs.length,C):=a3 aw
theorem Ab(h:C[l]?=some (.list xs))(aw:xs.length<=lim):jR [.obj l] C=some (.tup xs,C):=bp (il h) (a3 aw)
theorem T9(h:C[l]?=some (.list xs))(aw:xs.length<=lim):uW [.obj l] C=some (.obj C.length,C++[.list xs]):=bp (il h) (a3 aw)
theorem Lc(h:C[l]?=some (.list xs))(aZ:gw xs=true):ny [.obj l] C=some (.obj C.length,C++[.list (dN xs)]):=bp h (bp rfl (a3 aZ))
theorem XW{aN}(h:C[l]?=some (.du aN))(aZ:gw (aN.map λp=>.tup p.1)=true):ny [.obj l] C=some (.obj C.length,C++[.list (dN (aN.map λp=>.tup p.1))]):=bp h (bp rfl (a3 aZ))
theorem Ey(h:e m C=some (.obj l,aB))(q:aB[l]?=some (.list xs))(aZ:lX xs=true/\gw (d6 xs)=true):n1 e m C=some (.obj aB.length,aB++[.list (dN (d6 xs))]):=bp h (bp (il q) (a3 (by rw[aZ.1,aZ.2];rfl)))
theorem X0{aN}(h:e m C=some (.obj l,aB))(q:aB[l]?=some (.ee aN))(aZ:gw (oT aN)=true):z2 e m C=some (.obj aB.length,aB++[.list (dN (oT aN))]):=bp h (bp rfl (bp q (bp rfl (a3 aZ))))
theorem Ko(h:C[l]?=some (.list (xs++[d])))(aw:(xs++[d]).length<=lim):pf [.obj l] C=some (d,C.set l (.list xs)):=bp (il h) (bp (List.getLast?_concat) ((a3 aw).trans (by rw[List.dropLast_concat])))
theorem Kn(h:C[l]?=some (.list (d::xs)))(aw:xs.length+1<=lim):pf [.obj l,.int 0] C=some (d,C.set l (.list xs)):=bp (il h) (a3 aw)
theorem lh(h:C[l]?=some (.list xs))(aw:xs.length+1<=lim):bAppend [.obj l,d] C=some (.none,C.set l (.list (xs++[d]))):=bp rfl (bp rfl (bp (il h) (a3 aw)))
theorem vl(h:C[l]?=some (.list xs))(af:C[k]?=some (.list bB))(aw:xs.length+bB.length<=lim):pe [.obj l,.obj k] C=some (.none,C.set l (.list (xs++bB))):=bp rfl (bp rfl (bp rfl (bp (il h) (bp (il af) (a3 aw)))))
theorem xe{p:bG}{t:String}(h:C[l]?=some p)(aF:Km p=some t):um (.obj l) C=some t:=bp h aF
theorem IQ{p:bG}{i v:D}(h:C[l]?=some p)(aF:zJ i p=some v):iW (.obj l) i C=some v:=bp h aF
theorem ue{p gi:bG}{i v:D}(h:C[l]?=some p)(aF:Kl i v p=some gi):n0 (.obj l) i v C=some (C.set l gi):=bp rfl (bp h (ck aF))
theorem Ye{ns}(h:C[l]?=some (.list xs))(aH:intsOf xs=some ns):uY [.obj l] C=some (.int ns.sum,C):=bp (il h) (ck aH)
theorem Uy{ns}(h:C[l]?=some (.list xs))(aH:intsOf xs=some ns)(bV:ns≠[]):qo [.obj l] C=some (.int (tU ns),C):=bp (il h) (bp aH (a3 bV))
theorem OD{aN i v}(h:C[l]?=some (.gR aN))(aw:aN.length<=lim)(av:dM aN i=some v):rA [.obj l,.int i] C=some (v,C.set l (.gR (aN.filter λp=>decide (p.1≠i)))):=bp (SG h) ((a3 aw).trans (ck av))
theorem Qe{aN ks}(h:C[l]?=some (.du aN))(aq:keyOk ks=true):rB [.obj l,.tup ks] C=some ((dM aN ks).getD .none,C):=bp (z8 h) (a3 aq)
theorem Qd{aN x}(h:C[l]?=some (.ee aN)):rB [.obj l,.str x,d] C=some ((dM aN x).getD d,C):=ck (KZ h)
theorem Xs{aN ks}(h:C[l]?=some (.du aN))(aq:keyOk ks=true)(aw:aN.length<=lim)(av:dM aN ks=none):pg [.obj l,.tup ks,d] C=some (d,C.set l (.du (putK aN ks d))):=bp (z8 h) ((a3 ⟨aq,aw⟩).trans (by rw[av]))
theorem Xu{aN ks v}(h:C[l]?=some (.du aN))(aq:keyOk ks=true)(aw:aN.length<=lim)(av:dM aN ks=some v):pg [.obj l,.tup ks,d] C=some (v,C):=bp (z8 h) ((a3 ⟨aq,aw⟩).trans (by rw[av]))
theorem add_l(h:C[l]?=some (.list xs))(af:C[k]?=some (.list bB))(aw:xs.length+bB.length<=lim):pj .Add (.obj l) (.obj k) C=some (.obj C.length,C++[.list (xs++bB)]):=bp (il h) (bp (il af) (a3 aw))
theorem SN{aN x}(h:C[l]?=some (.ee aN)):he .In (.str x) (.obj l) C=some (dM aN x).isSome:=ck (KZ h)
theorem wv{bI fT bM}(h:C[l]?=some (.inst bI fT))(af:C[fT]?=some (.ns bM)):hy C bI l=some (fT,bM):=bp h (bp rfl ((a3 rfl).trans (bp af rfl)))
theorem uV{bI x fT bM}(h:e m C=some (.obj l,aB))(hi:hy aB bI l=some (fT,bM))(ar:bM.lookup x=some d):cn bI x e m C=some (d,aB):=bp h (ck (bp hi ar))
theorem Xr{bI x fT bM}{v:D}(hi:hy C bI l=some (fT,bM))(aw:bM.length<=900):Ev bI x (.obj l) v C=some (C.set fT (.ns (w0 bM x v))):=bp hi (a3 aw)
theorem tX{bI x fT bM g a8}{f:aY (List D×aa)}(h:e m C=some (.obj l,aB))(hi:hy aB bI l=some (fT,bM))(ar:(bM.lookup x).isNone=true)(hf:f m aB=some (xs,a8)):dy bI x e f g m C=g (.obj l::xs) a8:=bp h (bp hi ((a3 ar).trans (bp hf rfl)))
theorem wz(h:e m C=some (.obj l,aB))(q:aB[l]?=some (.list xs)):c9 e m C=some ((xs,some (l,xs)),aB):=bp h (ck (il q))
theorem K7{is:List Nat}(h:xs.length=is.length):gv is (.tup xs) m C=some (rb is xs m,C):=bp rfl (a3 h)
theorem K6{is:List Nat}(q:C[l]?=some (.list xs))(h:xs.length=is.length):gv is (.obj l) m C=some (rb is xs m,C):=bp (il q) (a3 h)
end
section
variable{m bh:aK}{C aB a8 cg:aa}{e f g k:aY (D×aa)}{bM:aY (List D×aa)}{gO:List D->aa->Option (D×aa)}{fe gW qq:aY (ca×aK×aa)}{c ez:aY (Bool×aa)}{a d v z:D}{J xs:List D}{b:Bool}{l:Nat}
theorem gT{o d8:bG}(h:C[l]?=some o):(C.set l d8)[l]?=some d8:=List.getElem?_set_self (e4.mp h).1
theorem jE{k:Nat}{o d8:bG}(h:C[k]?=some o)(aw:l≠k):(C.set l d8)[k]?=some o:=(k0 aw).trans h
theorem h5(h:C[l]?=some (.list xs)):um (.obj l) C=some "list":=bp h rfl
theorem gU{T:String}{r}(ai:e m C=some (a,aB))(bK:um a aB=some T)(ak:bM m aB=some (J,a8))(aV:gO (a::J) a8=r):eV T e bM gO m C=r:=bp ai ((a3 bK).trans (bp ak aV))
theorem cp(ai:e m C=some (a,aB)):ay e aJ m C=some ([a],aB):=bp ai rfl
theorem eg{t:D->aY (aK×aa)}{r}(h:e m C=some (d,aB))(bK:t d m aB=some (bh,a8))(aq:fe bh a8=r):bl (cS e t) fe m C=r:=bp (bp h (ck bK)) aq
theorem g9{r}(h:e m C=some (d,aB))(aq:fe m aB=r):bl (fo e) fe m C=r:=bp (ck h) aq
theorem ux{r}(h:c m C=some (true,aB))(ab:gW m aB=some (.next,bh,a8))(aq:fe bh a8=r):bl (f6 c gW qq) fe m C=r:=bp (bp h ab) aq
theorem h6{r}(h:c m C=some (false,aB))(ab:qq m aB=some (.next,bh,a8))(aq:fe bh a8=r):bl (f6 c gW qq) fe m C=r:=bp (bp h ab) aq
theorem hC(h:bM m C=some (J,aB)):dd bM m C=some (.tup J,aB):=ck h
theorem eC(ai:e m C=some (d,aB))(ak:bM m aB=some (J,a8)):ay e bM m C=some (d::J,a8):=bp ai (ck ak)
theorem hT{op:Operator}(ai:f m C=some (a,aB))(ak:g m aB=some (d,a8))(aV:pj op a d a8=some (v,cg)):et op f g m C=some (v,cg):=bp ai (bp ak aV)
theorem x_call(h:bM m C=some (J,aB))(ak:gO J aB=some (d,a8)):bW bM gO m C=some (d,a8):=bp h ak
theorem iI(h:e m C=some (d,aB)):bl (d9 e) fe m C=some (.ret d,m,aB):=bp (ck h) rfl
theorem jJ{r}(h:gW m C=some (.next,bh,aB))(aq:fe bh aB=r):bl gW fe m C=r:=bp h aq
theorem fF{op:CmpOp}(ai:f m C=some (a,aB))(ak:g m aB=some (d,a8))(aV:he op a d a8=some b):cP op f g m C=some (b,a8):=bp ai (bp ak (ck aV))
theorem kZ(ai:f m C=some (a,aB))(ak:g m aB=some (d,a8))(aV:iW a d a8=some v):bX f g m C=some (v,a8):=bp ai (bp ak (ck aV))
theorem uw(h:c m C=some (true,aB))(ab:gW m aB=some (.ret d,bh,a8)):bl (f6 c gW qq) fe m C=some (.ret d,bh,a8):=bp (bp h ab) rfl
theorem Am(h:c m C=some (true,aB))(ai:f m aB=some (d,a8)):j5 c f g m C=some (d,a8):=bp h ai
theorem E5(h:c m C=some (false,aB))(ai:g m aB=some (d,a8)):j5 c f g m C=some (d,a8):=bp h ai
theorem LU(h:c m C=some (true,aB)):jC c ez m C=some (true,aB):=bp h rfl
theorem xo(h:c m C=some (false,aB))(af:ez m aB=some (b,a8)):jC c ez m C=some (b,a8):=bp h af
theorem Zl{iZ ip:CmpOp}(ai:f m C=some (a,aB))(ak:g m aB=some (d,a8))(aV:he iZ a d a8=some true)(bL:k m a8=some (z,cg))(dx:he ip d z cg=some b):A8 iZ ip f g k m C=some (b,cg):=bp ai (bp ak (bp aV (bp bL (ck dx))))
theorem Zm(h:c m C=some (b,aB)):p0 c m C=some (!b,aB):=ck h
theorem E4(ai:f m C=some (a,aB))(ak:g m aB=some (d,a8))(aV:qC a d=some v):iR f g m C=some (v,a8):=bp ai (bp ak (ck aV))
theorem E3{as:D->aY (aK×aa)}{r}(h:f m C=some (.tup xs,aB))(ab:ju none as gW xs m aB=r):jX (c9 f) as gW m C=r:=bp (bp h rfl) ab
theorem E2{as:D->aY (aK×aa)}{r}(h:f m C=some (.obj l,aB))(aw:aB[l]?=some (.list xs))(ab:ju (some (l,xs)) as gW xs m aB=r):jX (c9 f) as gW m C=r:=bp (wz h aw) ab
theorem zZ(ai:e m C=some (a,aB))(ak:f m aB=some (d,a8))(aV:n0 a d v a8=some cg):m7 e f v m C=some (m,cg):=bp ai (bp ak (ck aV))
theorem Al{vp:aY ((List D×Option (Nat×List D))×aa)}{as:D->aY (aK×aa)}{src}{r}(h:vp m C=some ((xs,src),aB))(ab:ju src as gW xs m aB=r):jX vp as gW m C=r:=bp h ab
theorem Yo{aN ks}(h:C[l]?=some (.du aN))(aq:keyOk ks=true)(aw:aN.length<=lim):n0 (.obj l) (.tup ks) d C=some (C.set l (.du (putK aN ks d))):=ue h (a3 ⟨aq,aw⟩)
theorem SH{aN i}(h:C[l]?=some (.gR aN))(aw:aN.length<=lim):n0 (.obj l) (.int i) d C=some (C.set l (.gR (putK aN i d))):=ue h (a3 aw)
theorem K0{aN:List (Str×D)}{x:Str}(h:C[l]?=some (.ee aN))(aw:aN.length<=lim):n0 (.obj l) (.str x) d C=some (C.set l (.ee (putK aN x d))):=ue h (a3 aw)
theorem fI{bI:Addr}{x:Str}{fT:Nat}{F:List (Str×D)}(hi:hy aB bI l=some (fT,F))(h:F.lookup x=some d)(hf:f m C=some (.obj l,aB)):cn bI x f m C=some (d,aB):=uV hf hi h
theorem qB{src:Option (Nat×List D)}{as:D->aY (aK×aa)}(av:jw src C=true):ju src as gW [] m C=some (.next,m,C):=a3 av
theorem mI{src:Option (Nat×List D)}{as:D->aY (aK×aa)}{im:aK}{r}(av:jw src C=true)(aC:as d m C=some (bh,aB))(ab:gW bh aB=some (.next,im,a8))(au:ju src as gW J im a8=r):ju src as gW (d::J) m C=r:=(a3 av).trans (bp aC (bp ab au))
theorem ZH{src:Option (Nat×List D)}{as:D->aY (aK×aa)}{im:aK}{e:D}(av:jw src C=true)(aC:as d m C=some (bh,aB))(ab:gW bh aB=some (.ret e,im,a8)):ju src as gW (d::J) m C=some (.ret e,im,a8):=(a3 av).trans (bp aC (bp ab rfl))
end
noncomputable def pH:List (Str×D):=[("bank",.obj 6),("unions",.obj 12),("edges",.obj 16),("forest",.obj 17),("known",.obj 18),("above",.obj 19),("waiting",.obj 20)]
def rD:List (Str×D):=[("nodes",.obj 7),("numbers",.obj 8),("weights",.obj 9),("depths",.obj 10)]
noncomputable def un:List (Str×D):=[("above",.obj 13),("lots",.obj 14),("merged",.obj 15)]
structure Lay(C:aa):Prop where
 aV:C[3]?=some (.ns pH)
 bL:C[4]?=some (.inst 429 3)
 dx:C[5]?=some (.ns rD)
 cC:C[6]?=some (.inst 181 5)
 l1:C[11]?=some (.ns un)
 rV:C[12]?=some (.inst 299 11)
theorem ih{C:aa}(L:Lay C):hy C 429 4=some (3,pH):=wv L.bL L.aV
theorem pR{C:aa}(L:Lay C):hy C 181 6=some (5,rD):=wv L.cC L.dx
theorem mT{C:aa}(L:Lay C):hy C 299 12=some (11,un):=wv L.rV L.l1
theorem Zx{C:aa}(L:Lay C){x:Str}{d:D}(h:pH.lookup x=some d){f:aY (D×aa)}{m:aK}{az:aa}(hf:f m az=some (.obj 4,C)):cn 429 x f m az=some (d,C):=uV hf (ih L) h
theorem Zw{C:aa}(L:Lay C){x:Str}{d:D}(h:rD.lookup x=some d){f:aY (D×aa)}{m:aK}{az:aa}(hf:f m az=some (.obj 6,C)):cn 181 x f m az=some (d,C):=uV hf (pR L) h
theorem MT{C:aa}(L:Lay C){x:Str}{d:D}(h:un.lookup x=some d){f:aY (D×aa)}{m:aK}{az:aa}(hf:f m az=some (.obj 12,C)):cn 299 x f m az=some (d,C):=uV hf (mT L) h
theorem kr{C aB:aa}(L:Lay C){x:Str}(h:(pH.lookup x).isNone=true){o f g}{m:aK}{az:aa}{J:List D}(aD:o m az=some (.obj 4,C))(hf:f m C=some (J,aB)):dy 429 x o f g m az=g (.obj 4::J) aB:=tX aD (ih L) h hf
theorem Jy{C aB:aa}(L:Lay C){x:Str}(h:(rD.lookup x).isNone=true){o f g}{m:aK}{az:aa}{J:List D}(aD:o m az=some (.obj 6,C))(hf:f m C=some (J,aB)):dy 181 x o f g m az=g (.obj 6::J) aB:=tX aD (pR L) h hf
theorem zq{C aB:aa}(L:Lay C){x:Str}(h:(un.lookup x).isNone=true){o f g}{m:aK}{az:aa}{J:List D}(aD:o m az=some (.obj 12,C))(hf:f m C=some (J,aB)):dy 299 x o f g m az=g (.obj 12::J) aB:=tX aD (mT L) h hf
theorem gN{k:Nat}{cw:List (Option Nat)}{f:aY (ca×aK×aa)}{J:List D}{C ao:aa}{c3:ca}{m:aK}(h:J.length=k)(hf:f (mh cw J) C=some (c3,m,ao)):eP k cw f J C=some (c3.val,ao):=by
 exact(a3 h).trans (ck hf)
noncomputable def ah(n:Nat):D:=.int (n:Int)
theorem Uk{k:Nat}{xs:List D}{d:D}(ak:(k:Int)<2^62)(ar:xs[k]?=some d):wH xs (k:Int)=some d:=by
 unfold wH
 rw[a3 (Int.natCast_nonneg k),a3 ak]
 exact ar
theorem item_list{C:aa}{l:Nat}{xs:List D}(j:Int)(aw:C[l]?=some (.list xs)):iW (.obj l) (.int j) C=wH xs j:=bb (Option.bind · (zJ (.int j))) aw
theorem zW{C:aa}{l:Nat}{aN:List (Str×D)}{x:Str}{d:D}(h:C[l]?=some (.ee aN))(ar:dM aN x=some d):iW (.obj l) (.str x) C=some d:=(bb (Option.bind · (zJ (.str x))) h).trans ar
theorem li{C:aa}{l k:Nat}{xs:List D}{d:D}(aw:C[l]?=some (.list xs))(aq:k<2^62)(ar:xs[k]?=some d):iW (.obj l) (.int (k:Int)) C=some d:=(item_list _ aw).trans (Uk (by lia) ar)
theorem Bn(a b:Nat):decide (ah a=ah b)=decide (a=b):=mF ⟨λe=>Int.ofNat.inj (D.int.inj e),λe=>by rw[e]⟩
theorem Bz{a b:D}(aC:a.cO=true)(ab:b.cO=true)(hd:a.depth<=20)(C:aa):ti a b C=some (decide (a=b)):=a3 (by unfold zg;rw[aC,ab,dT hd];rfl)
theorem x7{C:aa}{i j:Nat}{xs bB:List D}(hi:C[i]?=some (.list xs))(bn:C[j]?=some (.list bB))(aq:D.da xs=true)(dt:D.da bB=true)(hd:D.ew xs<=20):ti (.obj i) (.obj j) C=some (decide (xs=bB)):=by
 refine(bq (hM (G:=False))).trans ?_
 show(gu C i).bind (λxs=>(gu C j).bind λbB=>if qY xs bB=true then some (decide (xs=bB))else none)=_
 rw[il hi,il bn]
 exact a3 (by unfold qY;rw[aq,dt,dT hd];rfl)
theorem Vc{a b:D}(aC:a.cO=true)(ab:b.cO=true)(hd:a.depth<=20)(C:aa):he .NotEq a b C=some (!decide (a=b)):=bb (Option.map (!·)) (Bz aC ab hd C)
theorem SO{C:aa}{l:Nat}{aN:List (List D×D)}{ks:List D}{b:Bool}(aw:C[l]?=some (.du aN))(aq:keyOk ks=true)(ab:(dM aN ks).isSome=b):he .In (.tup ks) (.obj l) C=some b:=by
 have e:n2 C l=some aN:=z8 aw
 have q:y6 (.tup ks) (.obj l) C=some b:=by
  show(n2 C l).bind (λaN=>if keyOk ks=true then some (dM aN ks).isSome else none)=_
  rw[e]
  exact(a3 aq).trans (bb some ab)
 show(y6 (.tup ks) (.obj l) C).or (wu (.tup ks) (.obj l) C)=_
 rw[q]
 rfl
theorem Vh{C:aa}{l:Nat}{xs:List D}{ks:List D}(aw:C[l]?=some (.list xs))(ai:D.da xs=true)(ak:D.da ks=true)(aV:D.ew xs<=20):he .NotIn (.tup ks) (.obj l) C=some (!xs.any λx=>decide (x=.tup ks)):=by
 show((gu C l).bind λxs=>if qY xs ks=true then some (xs.any λx=>decide (x=.tup ks))else none).map (!·)=_
 rw[il aw]
 exact bb (Option.map (!·)) (a3 (by unfold qY;rw[ai,ak,dT aV];rfl))
theorem tY(a b:Nat)(C:aa):he .NotEq (ah a) (ah b) C=some (!decide (a=b)):=(bb (Option.map (!·)) (Bz (a:=ah a) (b:=ah b) rfl rfl (es _) C)).trans (bb (λb=>some (!b)) (Bn a b))
section
variable{C:aa}(L:Lay C){p:List Nat}(l2:C[13]?=some (.list (p.map ah)))(hd:Down p)(aZ:p.length<=100)
include L l2 hd aZ
theorem PR:∀(n:Nat),n<p.length->pA [.obj 12,ah n] C=some (ah (root p n),C):=by
 haveI iS:∀n,n<p.length->bX (cn 299 "above" (aj 0)) (aj 1) [some (.obj 12),some (ah n)] C=some (ah (p.getD n n),C):=λn aH=>
  bp (MT L (d:=.obj 13) ag rfl) (bp rfl (ck (li l2 (dE aH (aO aZ ag)) (sj aH))))
 have loop:∀n,n<p.length->kd Lg FW [some (.obj 12),some (ah n)] C=some (.next,[some (.obj 12),some (ah (root p n))],C):=λn=>by
  induction n using Nat.strongRecOn with
  |ind n aE=>
  intro aH
  rw[p4 hd]
  by_cases e:p.getD n n=n
  ·rw[a3 e]
   exact xi (bp (iS n aH) (bp rfl (ck ((tY _ _ _).trans (bb (λb=>some (!b)) (dT e))))))
  ·rw[bq e]
   have hle:=uz (hd n) e
   exact xk (bp (iS n aH) (bp rfl (ck ((tY _ _ _).trans (bb (λb=>some (!b)) (fu e)))))) (bp (bp (iS n aH) rfl) rfl) (aE _ hle (k2 hle aH))
 exactλn aH=>gN (c3:=.ret (ah (root p n))) (m:=[some (.obj 12),some (ah (root p n))]) rfl (bp (loop n aH) rfl)
end
noncomputable def Pre(C ao:aa):Prop:=∀(l:Nat) (o:bG),C[l]?=some o->ao[l]?=some o
theorem Pre.refl{C:aa}:Pre C C:=λ_ _ h=>h
theorem Pre.trans{C ao h7:aa}(h:Pre C ao)(af:Pre ao h7):Pre C h7:=λl o q=>af l o (h l o q)
theorem Pre.app{C:aa}(r:aa):Pre C (C++r):=λl o h=>by rw[mw (e4.mp h).1];exact h
theorem Pre.set{az C:aa}(h:Pre az C){l:Nat}(aw:az.length<=l)(o:bG):Pre az (C.set l o):=λk p q=>by
 haveI:=(e4.mp q).1
 rw[k0 (by lia)];exact h k p q
theorem Pre.len{C ao:aa}(h:Pre C ao):C.length<=ao.length:=by
 cases e:C.length with
 |zero=>exact es _
 |succ n=>
  haveI:=h n _ (gz (by lia))
  haveI:=(e4.mp this).1
  lia
theorem fx{C:aa}(o:bG):(C++[o])[C.length]?=some o:=by simp
noncomputable def Run{be:Type}(az:aa)(f:aa->Option (be×aa))(a:be):Prop:=∀C,Pre az C->∃ao,f C=some (a,ao)/\Pre C ao
noncomputable def d5(az:aa)(f:aa->Option (D×aa))(xs:List D):Prop:=∀C,Pre az C->∃l ao,f C=some (.obj l,ao)/\Pre C ao/\ao[l]?=some (.list xs)/\C.length<=l
noncomputable def ql(az:aa)(f:aa->Option (ca×aK×aa))(d:D):Prop:=∀C,Pre az C->∃bh ao,f C=some (.ret d,bh,ao)/\Pre C ao
noncomputable def oo(az:aa)(f:aa->Option (ca×aK×aa))(xs:List D):Prop:=∀C,Pre az C->∃l bh ao,f C=some (.ret (.obj l),bh,ao)/\Pre C ao/\ao[l]?=some (.list xs)/\C.length<=l
theorem Run.pre{be:Type}{az aB:aa}{f:aa->Option (be×aa)}{a:be}(h:Run az f a)(p:Pre az aB):Run aB f a:=λC q=>h C (p.trans q)
theorem d5.pre{az aB:aa}{f:aa->Option (D×aa)}{a:List D}(h:d5 az f a)(p:Pre az aB):d5 aB f a:=λC q=>h C (p.trans q)
theorem Run.keep{be:Type}{az:aa}{f:aa->Option (be×aa)}{a:be}(h:∀C,Pre az C->f C=some (a,C)):Run az f a:=λC q=>⟨C,h C q,.refl⟩
section
variable{az:aa}{m bh:aK}{e f g:aY (D×aa)}{bM:aY (List D×aa)}{k gW qq:aY (ca×aK×aa)}{c ez:aY (Bool×aa)}{a d v:D}{J xs:List D}{b FR:Bool}
theorem bP{i:Nat}(h:m.at i=some d):Run az (aj i m) d:=λC _=>⟨C,ck h,.refl⟩
theorem p2{be dh:Type}{F:aa->Option (be×aa)}{k:be×aa->Option (dh×aa)}{a:be}{v:dh}(ai:Run az F a)(ak:Run az (λC=>k (a,C)) v):Run az (λC=>(F C).bind k) v:=λC p=>
 aG (ai C p) λ_ aS aT=>aG (ak _ (p.trans aT)) λ_ bf bx=>⟨_,bp aS bf,aT.trans bx⟩
theorem Eg{be dh:Type}{F:aa->Option (be×aa)}{k:be×aa->dh×aa}{a:be}{v:dh}(ai:Run az F a)(ak:∀C,k (a,C)=(v,C)):Run az (λC=>(F C).map k) v:=λC p=>
 aG (ai C p) λ_ aS aT=>⟨_,(ck aS).trans (bb some (ak _)),aT⟩
theorem Ed{be dh jl:Type}{F:aa->Option (be×aa)}{G:aa->Option (dh×aa)}{k:be->dh->aa->Option (jl×aa)}{a:be}{b:dh}{v:jl}(ai:Run az F a)(ak:Run az G b)(aV:∀C,Pre az C->k a b C=some (v,C)):Run az (λC=>(F C).bind λx=>(G x.2).bind λy=>k x.1 y.1 y.2) v:=λC p=>
 aG (ai C p) λ_ aS aT=>aG (ak _ (p.trans aT)) λ_ bf bx=>⟨_,bp aS (bp bf (aV _ ((p.trans aT).trans bx))),aT.trans bx⟩
theorem Ee{be dh jl:Type}{F:aa->Option (be×aa)}{G:aa->Option (dh×aa)}{k:be->dh->aa->Option jl}{a:be}{b:dh}{v:jl}(ai:Run az F a)(ak:Run az G b)(aV:∀C,Pre az C->k a b C=some v):Run az (λC=>(F C).bind λx=>(G x.2).bind λy=>(k x.1 y.1 y.2).map (·,y.2)) v:=Ed (k:=λa b C=>(k a b C).map (·,C)) ai ak λC p=>ck (aV C p)
theorem Ef{be:Type}{F:aa->Option (be×aa)}{k:be×aa->Option (D×aa)}{a:be}(ai:Run az F a)(ak:d5 az (λC=>k (a,C)) xs):d5 az (λC=>(F C).bind k) xs:=λC p=>
 aG (ai C p) λ_ aS aT=>fh (ak _ (p.trans aT)) λ_ _ bf bx q aw=>⟨_,_,bp aS bf,aT.trans bx,q,aO aT.len aw⟩
theorem Z9{dh:Type}{F:aa->Option (D×aa)}{k:D×aa->Option (dh×aa)}{v:dh}(ai:d5 az F xs)(ak:∀l C,C[l]?=some (.list xs)->k (.obj l,C)=some (v,C)):Run az (λC=>(F C).bind k) v:=λC p=>
 fh (ai C p) λ_ _ aS aT q _=>⟨_,bp aS (ak _ _ q),aT⟩
theorem aaa{F:aa->Option (D×aa)}{k:D×aa->Option (D×aa)}{bB:List D}(ai:d5 az F xs)(ak:∀l C,C[l]?=some (.list xs)->k (.obj l,C)=some (.obj C.length,C++[.list bB])):d5 az (λC=>(F C).bind k) bB:=λC p=>
 fh (ai C p) λ_ _ aS aT q _=>⟨_,_,bp aS (ak _ _ q),aT.trans (.app _),fx _,aT.len⟩
theorem dI:Run az (λC=>some (d,C)) d:=λC _=>⟨C,rfl,.refl⟩
theorem sy:Run az (aJ m) []:=λC _=>⟨C,rfl,.refl⟩
theorem mq(ai:Run az (e m) d)(ak:Run az (bM m) J):Run az (ay e bM m) (d::J):=λC p=>
 aG (ai C p) λ_ aS aT=>aG (ak _ (p.trans aT)) λ_ bf bx=>⟨_,bp aS (ck bf),aT.trans bx⟩
theorem fs(ai:Run az (e m) d):Run az (ay e aJ m) [d]:=mq ai sy
theorem m5(h:Run az (bM m) J):Run az (dd bM m) (.tup J):=Eg h λ_=>rfl
theorem sg(h:Run az (bM m) J):d5 az (fM bM m) J:=λC p=>
 aG (h C p) λ_ aS aT=>⟨_,_,ck aS,aT.trans (.app _),fx _,aT.len⟩
theorem e2(ai:Run az (f m) a)(ak:Run az (g m) d)(aV:∀C,Pre az C->iW a d C=some v):Run az (bX f g m) v:=Ee ai ak aV
theorem oS{op:Operator}(ai:Run az (f m) a)(ak:Run az (g m) d)(aV:∀C,Pre az C->pj op a d C=some (v,C)):Run az (et op f g m) v:=Ed ai ak aV
theorem h3{op:CmpOp}(ai:Run az (f m) a)(ak:Run az (g m) d)(aV:∀C,Pre az C->he op a d C=some b):Run az (cP op f g m) b:=Ee ai ak aV
theorem ua(ai:Run az (f m) a)(ak:Run az (g m) d)(aV:qC a d=some v):Run az (iR f g m) v:=Ee (k:=λa d _=>qC a d) ai ak λ_ _=>aV
theorem sz(ai:Run az (f m) a)(ak:Run az (g m) d)(aV:∀C,uq a d C=some (v,C)):Run az (p9 f g m) v:=Ed ai ak λC _=>aV C
theorem w2{gO:List D->aa->Option (D×aa)}(h:Run az (bM m) J)(ak:Run az (gO J) v):Run az (bW bM gO m) v:=p2 h ak
theorem aab{gO:List D->aa->Option (D×aa)}(h:Run az (bM m) J)(ak:d5 az (gO J) xs):d5 az (bW bM gO m) xs:=Ef h ak
theorem w4(h:d5 az (e m) xs)(aw:xs.length<=lim):Run az (bW (ay e aJ) jR m) (.tup xs):=λC p=>
 fh (h C p) λ_ _ aS aT q _=>⟨_,bp (gs aS) (Ab q aw),aT⟩
theorem Jf(h:d5 az (e m) xs)(aZ:gw xs=true):d5 az (bW (ay e aJ) ny m) (dN xs):=λC p=>
 fh (h C p) λ_ _ aS aT q _=>⟨_,_,bp (gs aS) (Lc q aZ),aT.trans (.app _),fx _,aT.len⟩
theorem Jg(h:d5 az (e m) xs)(aZ:lX xs=true/\gw (d6 xs)=true):d5 az (n1 e m) (dN (d6 xs)):=λC p=>
 fh (h C p) λ_ _ aS aT q _=>⟨_,_,Ey aS q aZ,aT.trans (.app _),fx _,aT.len⟩
theorem Ei(h:Run az (c m) b):Run az (p0 c m) (!b):=Eg h λ_=>rfl
theorem Ej(h:Run az (e m) (.bool b)):Run az (qa e m) b:=p2 h (.keep λ_ _=>rfl)
theorem t9(h:Run az (c m) b):Run az (s6 c m) (.bool b):=Eg h λ_=>rfl
theorem w1(ai:Run az (c m) b)(ak:b=true->Run az (ez m) FR):Run az (rv c ez m) (b&&FR):=by
 cases b with
 |false=>exact p2 ai (.keep λ_ _=>rfl)
 |true=>exact p2 ai (ak rfl)
theorem w3:Run az (ef m) true:=λC _=>⟨C,rfl,.refl⟩
theorem Wq(h:Run az (c m) b)(ai:b=true->Run az (f m) d)(ak:b=false->Run az (g m) d):Run az (j5 c f g m) d:=by
 cases b with
 |true=>exact p2 h (ai rfl)
 |false=>exact p2 h (ak rfl)
theorem Dc(h:Run az (c m) b)(ai:b=true->d5 az (f m) xs)(ak:b=false->d5 az (g m) xs):d5 az (j5 c f g m) xs:=by
 cases b with
 |true=>exact Ef h (ai rfl)
 |false=>exact Ef h (ak rfl)
theorem ot(h:Run az (e m) d):ql az (bl (d9 e) k m) d:=λC p=>
 aG (h C p) λ_ aS aT=>⟨m,_,bp (ck aS) rfl,aT⟩
theorem rC(h:d5 az (e m) xs):oo az (bl (d9 e) k m) xs:=λC p=>
 b2 (h C p) λ_ _ aS aT q=>⟨_,m,_,bp (ck aS) rfl,aT,q⟩
theorem NA{i:Nat}(h:Run az (e m) v)(aq:ql az (k (m.set i (some v))) d):ql az (bl (cS e (b9 i)) k m) d:=λC p=>
 aG (h C p) λ_ aS aT=>dv (aq _ (p.trans aT)) λ_ _ bf bx=>⟨_,_,bp (bp aS rfl) bf,aT.trans bx⟩
theorem NC(h:Run az (c m) true)(ab:ql az (gW m) d):ql az (bl (f6 c gW qq) k m) d:=λC p=>
 aG (h C p) λ_ aS aT=>dv (ab _ (p.trans aT)) λ_ _ bf bx=>⟨_,_,bp (bp aS bf) rfl,aT.trans bx⟩
theorem NB(h:Run az (c m) false)(aq:ql az (k m) d):ql az (bl (f6 c gW cc) k m) d:=λC p=>
 aG (h C p) λ_ aS aT=>dv (aq _ (p.trans aT)) λ_ _ bf bx=>⟨_,_,bp (bp aS rfl) bf,aT.trans bx⟩
theorem oz{n:Nat}{cw:List (Option Nat)}{f:aY (ca×aK×aa)}(h:J.length=n)(hf:ql az (f (mh cw J)) d):Run az (eP n cw f J) d:=λC p=>
 dv (hf C p) λ_ _ aS aT=>⟨_,(a3 h).trans (ck aS),aT⟩
theorem rR{n:Nat}{cw:List (Option Nat)}{f:aY (ca×aK×aa)}(h:J.length=n)(hf:oo az (f (mh cw J)) xs):d5 az (eP n cw f J) xs:=λC p=>
 d4 (hf C p) λ_ _ _ aS aT q=>⟨_,_,(a3 h).trans (ck aS),aT,q⟩
noncomputable abbrev o6:=Option (Nat×List D)
noncomputable def o5(az:aa)(f:aa->Option ((List D×o6)×aa))(J:List D):Prop:=∀C,Pre az C->∃src ao,f C=some ((J,src),ao)/\Pre C ao/\∀h7,Pre ao h7->jw src h7=true
theorem mK{l:Nat}{C:aa}(q:C[l]?=some (.list xs)):jw (some (l,xs)) C=true:=dT (il q)
theorem sa(h:Run az (e m) (.tup xs)):o5 az (c9 e m) xs:=λC p=>
 aG (h C p) λ_ aS aT=>⟨none,_,bp aS rfl,aT,λ_ _=>rfl⟩
theorem wq(h:d5 az (e m) xs):o5 az (c9 e m) xs:=λC p=>
 fh (h C p) λl _ aS aT q _=>⟨some (l,xs),_,wz aS q,aT,λ_ gi=>mK (gi _ _ q)⟩
theorem tI{l:Nat}(h:Run az (e m) (.obj l))(q:az[l]?=some (.list xs)):o5 az (c9 e m) xs:=λC p=>
 aG (h C p) λ_ aS aT=>⟨some (l,xs),_,wz aS (aT _ _ (p _ _ q)),aT,λ_ gi=>mK (gi _ _ (aT _ _ (p _ _ q)))⟩
theorem SA{l:Nat}(h:Run az (e m) (.obj l))(q:az[l]?=some (.list xs)):o5 az (rN e m) (rM xs):=λC p=>
 aG (h C p) λ_ aS aT=>⟨some (l,xs),_,bp aS (bp rfl (ck (il (aT _ _ (p _ _ q))))),aT,λ_ gi=>mK (gi _ _ (aT _ _ (p _ _ q)))⟩
theorem zP(n:Nat):m6 0 (n:Int)=(List.range n).map ah:=by
 unfold m6
 simp only[Int.sub_zero,Int.toNat_natCast,Int.zero_add]
 rfl
theorem KE{b:Int}{C:aa}(h:-(2^62)<=b/\b<2^62):zO [.int b] C=some ((m6 0 b,none),C):=by
 show(if-(2^62)<=b/\b<2^62 then some ((m6 0 b,none),C)else none)=_
 exact a3 h
theorem CS{n:Nat}(h:Run az (bM m) [ah n])(aH:n<=lim):o5 az (kx bM m) ((List.range n).map ah):=λC p=>
 aG (h C p) λaB aS aT=>⟨none,aB,bp aS ((KE (wt aH)).trans (by rw[zP])),aT,λ_ _=>rfl⟩
theorem N1{src:o6}{as:D->aY (aK×aa)}{x:aY (D×aa)}{fr:D->aK}{pp:D->Bool}{gx:D->D}{M:aK->Prop}{eu:List D}(av:∀C,Pre az C->jw src C=true)
  (aC:∀d∈eu,∀m,M m->∀C,as d m C=some (fr d,C)) (aR:∀d∈eu,M (fr d)) (ax:∀d∈eu,Run az (c (fr d)) (pp d)) (ar:∀d∈eu,pp d=true->Run az (x (fr d)) (gx d)):
  ∀(J:List D),(∀d∈J,d∈eu)->∀m,M m->∀C,Pre az C->∃bh ao,lY src as c (dL x) J m C=some ((J.filter pp).map gx,bh,ao)/\Pre C ao:=by
 intro J
 induction J with
 |nil=>exactλ_ m _ C p=>⟨m,C,a3 (av C p),.refl⟩
 |cons d J aE=>
  intro hd m hk C p
  refine aG (ax d (hd d (.head _)) C p) λaB aS aT=>?_
  cases aF:pp d with
  |false=>
   refine dv (aE (λd h=>hd d (.tail _ h)) _ (aR d (hd d (.head _))) aB (p.trans aT)) λbh a8 bf bx=>⟨bh,a8,?_,aT.trans bx⟩
   exact(a3 (av C p)).trans (bp (aC d (hd d (.head _)) m hk C) (bp aS ((bq (aF▸k3)).trans (bf.trans (by rw[List.filter_cons_of_neg (aF▸k3)])))))
  |true=>
   refine aG (ar d (hd d (.head _)) aF aB (p.trans aT)) λa8 bf bx=>?_
   refine dv (aE (λd h=>hd d (.tail _ h)) _ (aR d (hd d (.head _))) a8 ((p.trans aT).trans bx)) λbh cg cY cx=>⟨bh,cg,?_,(aT.trans bx).trans cx⟩
   exact(a3 (av C p)).trans (bp (aC d (hd d (.head _)) m hk C) (bp aS ((a3 aF).trans (bp (ck bf) ((ck cY).trans (by rw[List.filter_cons_of_pos aF];rfl))))))
theorem pX{dk:aY ((List D×o6)×aa)}{cw:List (Option Nat)}{as:D->aY (aK×aa)}{fr:D->aK}{pp:D->Bool}{gx:D->D}(M:aK->Prop)(ed:o5 az (dk m) J)(hk:M (kL cw m))(aC:∀d∈J,∀m,M m->∀C,as d m C=some (fr d,C))(aR:∀d∈J,M (fr d))
  (ax:∀d∈J,Run az (c (fr d)) (pp d)) (ar:∀d∈J,pp d=true->Run az (e (fr d)) (gx d)) (aw:J.length<=lim):d5 az (ea dk cw as c (dL e) m) ((J.filter pp).map gx):=λC p=>
 b2 (ed C p) λsrc aB aS aT av=>dv (N1 (src:=src) av aC aR (λd h=>(ax d h).pre (p.trans aT)) (λd h q=>(ar d h q).pre (p.trans aT)) J (λ_ h=>h) (kL cw m) hk aB .refl) λbh a8 bf bx=>
 ⟨a8.length,_,ck (o:=tb dk cw as c (dL e) m C) (a:=((J.filter pp).map gx,a8)) (bp aS (bp bf (a3 (aO (cB (bR _)) (aO (List.length_filter_le _ _) aw))))),(aT.trans bx).trans (.app _),fx _,(aT.trans bx).len⟩
theorem lD{dk:aY ((List D×o6)×aa)}{cw:List (Option Nat)}{i:Nat}{gx:D->D}(ed:o5 az (dk m) J)(ar:∀d∈J,Run az (e ((kL cw m).set i (some d))) (gx d))(aw:J.length<=lim):d5 az (ea dk cw (b9 i) ef (dL e) m) (J.map gx):=by
 haveI:=pX (c:=ef) (fr:=λd=>(kL cw m).set i (some d)) (pp:=λ_=>true) (gx:=gx) (cw:=cw) (as:=b9 i) (λbh=>∀d,bh.set i (some d)=(kL cw m).set i (some d)) ed (λ_=>rfl) (λd _ bh h C=>by unfold b9;rw[h]) (λd _ jS=>by rw[List.set_set]) (λ_ _=>w3) (λd h _=>ar d h) aw
 rwa [List.filter_eq_self.mpr (λ_ _=>rfl)]at this
end
def eK(x:bF):List D:=.str x.op::x.kids.map ah
def b1(x:bF):D:=.tup (eK x)
noncomputable def iO(x:bF):Prop:=PyData.strOk x.op=true/\x.kids.length<=2
theorem te{a b:Nat}(h:ah a=ah b):a=b:=by unfold ah at h;injection h with h;lia
theorem Oy{a b:List Nat}(h:a.map ah=b.map ah):a=b:=List.map_inj_right (λ_ _ q=>te q)|>.mp h
theorem zB{x y:bF}(h:eK x=eK y):x=y:=by
 unfold eK at h
 injection h with ai ak
 injection ai with ai
 cases x;cases y
 simp only[bF.mk.injEq]
 exact⟨ai,Oy ak⟩
theorem DB{x y:bF}(h:b1 x=b1 y):x=y:=zB (D.tup.inj h)
theorem sc:∀l:List Nat,D.da (l.map ah)=true
 |[]=>rfl
 |n::l=>by refine(?_:(true&&D.da (l.map ah))=true);rw[sc l];rfl
theorem rH:∀l:List Nat,D.ew (l.map ah)=0
 |[]=>rfl
 |n::l=>by refine(?_:max 0 (D.ew (l.map ah))=0);rw[rH l];rfl
theorem zC{x:bF}(h:iO x):keyOk (eK x)=true:=by
 unfold keyOk eK
 simp only[Bool.and_eq_true,iL,rI,rJ,rK,qw,qv,rH,lB,lA,sd,se,sf,sc,and_true]
 exact⟨by decide,h.1⟩
theorem BQ{be dh K:Type}[DecidableEq K][DecidableEq be]{f:be->K}{g:dh->D}(hf:∀a b,f a=f b->a=b)(x:be)(l:List (be×dh)):dM (l.map λq=>(f q.1,g q.2)) (f x)=(l.lookup x).map g:=by
 induction l with
 |nil=>rfl
 |cons q l aE=>
  refine(bb (Option.map Prod.snd) List.find?_cons).trans (Eq.trans ?_ (bb (Option.map g) gV).symm)
  by_cases e:q.1=x
  ·rw[dT (bb f e),beq_iff_eq.mpr e.symm];rfl
  ·rw[fu λh=>e (hf _ _ h),beq_eq_false_iff_ne.mpr (Ne.symm e)];exact aE
theorem Lay.pre{C ao:aa}(L:Lay C)(p:Pre C ao):Lay ao:=⟨p _ _ L.aV,p _ _ L.bL,p _ _ L.dx,p _ _ L.cC,p _ _ L.l1,p _ _ L.rV⟩
noncomputable abbrev k6(C:aa)(l B:Nat)(p:List Nat):Prop:=∃ms,C[l]?=some (.list ms)/\ms.length+jd p<=B
structure b8(C:aa)(U:List bF)(h:cv)(bH bw:Nat->Nat)(ks:List Nat)(B:Nat)(pr:List (Nat×bG)):Prop where
 lay:Lay C
 nodes:C[7]?=some (.list (U.map b1))
 m0:C[8]?=some (.du (U.zipIdx.map λq=>(eK q.1,ah q.2)))
 n7:∃ws:List Nat,C[9]?=some (.list (ws.map ah))/\ws.length=U.length
 ew:∃ws:List Nat,C[10]?=some (.list (ws.map ah))/\ws.length=U.length
 above:C[13]?=some (.list (h.p.map ah))
 dg:C[14]?=some (.list ((List.range U.length).map λi=>.obj (bH i)))
 merged:k6 C 15 B h.p
 km:k6 C 16 B h.p
 lu:k6 C 17 B h.p
 known:C[18]?=some (.du (h.known.map λq=>(eK q.1,ah q.2)))
 iG:C[19]?=some (.gR (ks.map λ(c:Nat)=>((c:Int),.obj (bw c))))
 wait:C[20]?=some (.list (h.wait.map ah))
 gE:∀i,i<U.length->21<=bH i/\C[bH i]?=some (.list ((h.dg i).map ah))
 f8:∀c∈ks,21<=bw c/\C[bw c]?=some (.list ((h.c4 c).map ah))
 tP:∀i j,i<U.length->j<U.length->bH i=bH j->i=j
 sV:∀c∈ks,∀d∈ks,bw c=bw d->c=d
 apart:∀i,i<U.length->∀c∈ks,bH i≠bw c
 keys:ks.Nodup/\∀c,c∈ks↔c<U.length/\h.p.getD c c=c
 fD:∀q∈pr,C[q.1]?=some q.2/\(q.1<3\/21<=q.1)/\(∀i,i<U.length->bH i≠q.1)/\∀c∈ks,bw c≠q.1
 nU:(pr.map (·.1)).Nodup
noncomputable def eX(S:List Nat)(C ao:aa):Prop:=∀(l:Nat) (o:bG),l∉S->C[l]?=some o->ao[l]?=some o
theorem Pre.gS{C ao:aa}(p:Pre C ao):eX [] C ao:=λl o _ h=>p l o h
theorem eX.set(C:aa)(l:Nat)(o:bG):eX [l] C (C.set l o):=λk p aq h=>by rw[k0 (λe=>aq (by simp[e]))];exact h
theorem eX.trans{S T:List Nat}{C aB a8:aa}(a:eX S C aB)(b:eX T aB a8):eX (S++T) C a8:=λl o aw h=>b l o (λq=>aw (iJ _ q)) (a l o (λq=>aw (i6 _ q)) h)
theorem eX.mono{S T:List Nat}{C ao:aa}(a:eX S C ao)(h:∀l∈S,l∈T):eX T C ao:=λl o aw q=>a l o (λr=>aw (h l r)) q
theorem Lay.gS{S:List Nat}{C ao:aa}(L:Lay C)(k:eX S C ao)(h:∀l∈S,13<=l):Lay ao:=by
 have q:∀{l o},l<13->C[l]?=some o->ao[l]?=some o:=λaw e=>k _ _ (λaR=>absurd aw (rj (h _ aR))) e
 exact⟨q ag L.aV,q ag L.bL,q ag L.dx,q ag L.cC,q ag L.l1,q ag L.rV⟩
theorem lr{l c:Nat}(h:21<=l)(ax:c<21):l≠c:=Nat.ne_of_gt (dE ax h)
theorem rP{S:List Nat}{l:Nat}(fQ:∀x∈S,x<21)(h:21<=l):l∉S:=λaR=>absurd (fQ l aR) (rj h)
theorem Kr{S:List Nat}{l:Nat}(fQ:∀x∈S,3<=x/\x<21)(h:l<3\/21<=l):l∉S:=λaR=>h.elim (λh=>absurd h (rj (fQ l aR).1)) λh=>absurd (fQ l aR).2 (rj h)
theorem k6.j7{C ao:aa}{l B oi:Nat}{p:List Nat}(h:k6 C l B p)(q:∀o,C[l]?=some o->ao[l]?=some o)(ab:B<=oi):k6 ao l oi p:=aG h λms ai ak=>⟨ms,q _ ai,aO ak ab⟩
theorem rg{C ao:aa}{l n:Nat}(h:∃ws:List Nat,C[l]?=some (.list (ws.map ah))/\ws.length=n)(q:∀o,C[l]?=some o->ao[l]?=some o):∃ws:List Nat,ao[l]?=some (.list (ws.map ah))/\ws.length=n:=aG h λws ai ak=>⟨ws,q _ ai,ak⟩
theorem b8.zk{C ao:aa}{U h bH bw ks B pr}(H:b8 C U h bH bw ks B pr){oi:Nat}{mW:List (bF×Nat)}{W:List Nat}(k:eX [15,16,17,18,20] C ao)(Qk:k6 ao 15 oi h.p)(Ql:k6 ao 16 oi h.p)(Qm:k6 ao 17 oi h.p)(BX:ao[18]?=some (.du (mW.map λq=>(eK q.1,ah q.2))))(tq:ao[20]?=some (.list (W.map ah))):
  b8 ao U {h with known:=mW,wait:=W} bH bw ks oi pr:=
 {H with
  lay:=H.lay.gS k ag,nodes:=k _ _ ag H.nodes,m0:=k _ _ ag H.m0,n7:=rg H.n7 λ_=>k _ _ ag,ew:=rg H.ew λ_=>k _ _ ag,
  above:=k _ _ ag H.above,dg:=k _ _ ag H.dg,merged:=Qk,km:=Ql,lu:=Qm,known:=BX,iG:=k _ _ ag H.iG,wait:=tq,
  gE:=λi hi=>⟨(H.gE i hi).1,k _ _ (rP ag (H.gE i hi).1) (H.gE i hi).2⟩,f8:=λc ax=>⟨(H.f8 c ax).1,k _ _ (rP ag (H.f8 c ax).1) (H.f8 c ax).2⟩,fD:=λq aL=>⟨k _ _ (Kr ag (H.fD q aL).2.1) (H.fD q aL).1,(H.fD q aL).2⟩}
theorem b8.pre{C ao:aa}{U h bH bw ks B pr}(H:b8 C U h bH bw ks B pr)(p:Pre C ao):b8 ao U h bH bw ks B pr:=
 H.zk (p.gS.mono ka) (H.merged.j7 (p _) (bD _)) (H.km.j7 (p _) (bD _)) (H.lu.j7 (p _) (bD _)) (p _ _ H.known) (p _ _ H.wait)
theorem b8.K2{C:aa}{U h bH bw ks B pr}(H:b8 C U h bH bw ks B pr){l:Nat}(aw:l∈[18,20])(o:bG){mW:List (bF×Nat)}{W:List Nat}(BX:(C.set l o)[18]?=some (.du (mW.map λq=>(eK q.1,ah q.2))))(tq:(C.set l o)[20]?=some (.list (W.map ah))):b8 (C.set l o) U {h with known:=mW,wait:=W} bH bw ks B pr:=by
 have q:∀k,k∉[18,20]->∀d8,C[k]?=some d8->(C.set l o)[k]?=some d8:=λk aq d8 h=>jE h λe=>aq (e▸aw)
 exact H.zk ((eX.set C l o).mono λk aq=>cK.mp aq▸iJ [15,16,17] aw) (H.merged.j7 (q 15 ag) (bD _)) (H.km.j7 (q 16 ag) (bD _)) (H.lu.j7 (q 17 ag) (bD _)) BX tq
section
variable{az:aa}{bI:Addr}{k l:Nat}{F:List (Str×D)}{x:Str}{m:aK}{o f:aY (D×aa)}{bM:aY (List D×aa)}{g:List D->aa->Option (D×aa)}{d v:D}{J xs:List D}
theorem mo(hi:∀C,Pre az C->hy C bI l=some (k,F))(h:F.lookup x=some d)(hf:Run az (f m) (.obj l)):Run az (cn bI x f m) d:=λC p=>
 aG (hf C p) λ_ aS aT=>⟨_,uV aS (hi _ (p.trans aT)) h,aT⟩
theorem q6(hi:∀C,Pre az C->hy C bI l=some (k,F))(h:(F.lookup x).isNone=true)(aD:Run az (o m) (.obj l))(hf:Run az (bM m) J)(av:Run az (g (.obj l::J)) v):Run az (dy bI x o bM g m) v:=λC p=>
 aG (aD C p) λ_ aS aT=>aG (hf _ (p.trans aT)) λ_ bf bx=>aG (av _ ((p.trans aT).trans bx)) λ_ cY cx=>⟨_,(tX aS (hi _ (p.trans aT)) h bf).trans cY,(aT.trans bx).trans cx⟩
theorem tM(hi:∀C,Pre az C->hy C bI l=some (k,F))(h:(F.lookup x).isNone=true)(aD:Run az (o m) (.obj l))(hf:Run az (bM m) J)(av:d5 az (g (.obj l::J)) xs):d5 az (dy bI x o bM g m) xs:=λC p=>
 aG (aD C p) λ_ aS aT=>aG (hf _ (p.trans aT)) λ_ bf bx=>b2 (av _ ((p.trans aT).trans bx)) λ_ _ cY cx q=>⟨_,_,(tX aS (hi _ (p.trans aT)) h bf).trans cY,(aT.trans bx).trans cx,q.1,aO (aT.trans bx).len q.2⟩
end
section
variable{C:aa}(L:Lay C)
include L
theorem oK:∀ao,Pre C ao->hy ao 429 4=some (3,pH):=λ_ p=>ih (L.pre p)
theorem wA:∀ao,Pre C ao->hy ao 181 6=some (5,rD):=λ_ p=>pR (L.pre p)
theorem pU:∀ao,Pre C ao->hy ao 299 12=some (11,un):=λ_ p=>mT (L.pre p)
end
theorem nD{x:D}{xs:List D}(af:(x::xs).length<=lim):qC (.tup (x::xs)) (.int 1)=some (.tup xs):=by
 haveI:(1:Int)<=((x::xs).length:Int):=by simp only[fX];lia
 exact a3 (c:=(1:Int)<=1/\(1:Int)<=((x::xs).length:Int)/\(x::xs).length<=lim) ⟨by decide,this,af⟩
section
variable{C:aa}{U:List bF}{h:cv}{bH bw:Nat->Nat}{ks:List Nat}{B:Nat}{pr:List (Nat×bG)}(H:b8 C U h bH bw ks B pr)(dn:U.length<=6)
include H dn
theorem JV{n:Nat}{x:bF}(ar:U[n]?=some x)(ao:aa)(p:Pre C ao):iW (.obj 7) (ah n) ao=some (b1 x):=
 li (p _ _ H.nodes) (by haveI:=(e4.mp ar).1;lia) (by simp[ar])
theorem Vr{n:Nat}{x:bF}(ar:U[n]?=some x):Run C (BJ [.obj 6,ah n]) (.str x.op):=
 oz rfl (ot (e2 (e2 (mo (wA H.lay) ag (bP rfl)) (bP rfl) (JV H dn ar)) dI λ_ _=>rfl))
theorem TJ{n:Nat}{x:bF}(ar:U[n]?=some x)(aq:x.kids.length<=2):Run C (BI [.obj 6,ah n]) (.tup (x.kids.map ah)):=
 oz rfl (ot (ua (e2 (mo (wA H.lay) ag (bP rfl)) (bP rfl) (JV H dn ar)) dI (nD (by simp[lim];lia))))
variable(hd:Down h.p)(aw:h.p.length=U.length)
include hd aw
theorem Ac{n:Nat}(aH:n<U.length):Run C (pA [.obj 12,ah n]) (ah (root h.p n)):=.keep λao p=>PR (H.lay.pre p) (p _ _ H.above) hd (by lia) n (by lia)
theorem vZ{n:Nat}(aH:n<U.length):Run C (qF [.obj 4,ah n]) (ah (root h.p n)):=
 oz rfl (ot (q6 (pU H.lay) ag (mo (oK H.lay) ag (bP rfl)) (fs (bP rfl)) (Ac H dn hd aw aH)))
theorem BG{m:aK}{a b:aY (D×aa)}{n:Nat}(aC:Run C (a m) (.obj 4))(ab:Run C (b m) (ah n))(aH:n<U.length):Run C (dy 429 "find" a (ay b aJ) qF m) (ah (root h.p n)):=
 q6 (oK H.lay) ag aC (fs ab) (vZ H dn hd aw aH)
omit H dn hd aw in
theorem Jz{g:Nat->Nat}(l:List Nat):(l.map ah).map (λd=>match d with|.int i=>ah (g i.toNat)|d=>d)=(l.map g).map ah:=by
 rw[fj,fj];rfl
theorem JX{n:Nat}{x:bF}(ar:U[n]?=some x)(aq:x.kids.length<=2)(hm:∀k∈x.kids,k<U.length):Run C (vw [.obj 4,ah n]) (b1 (canon (root h.p) x)):=by
 refine oz rfl (ot (oS (m5 (fs (q6 (wA H.lay) ag (mo (oK H.lay) ag (bP rfl)) (fs (bP rfl)) (Vr H dn ar))))
  (w4 (lD (gx:=λd=>match d with|.int i=>ah (root h.p i.toNat)|d=>d) (sa (q6 (wA H.lay) ag (mo (oK H.lay) ag (bP rfl)) (fs (bP rfl)) (TJ H dn ar aq))) ?_ ?_) ?_) ?_))
 ·intro d cW
  refine aG (b5.mp cW) λk dt a2=>?_;subst a2
  exact BG H dn hd aw (bP rfl) (bP rfl) (hm k dt)
 ·simp only[bR,lim];lia
 ·simp only[bR,lim];lia
 ·intro ao _
  rw[Jz]
  show(if 1+((x.kids.map (root h.p)).map ah).length<=lim then _ else _)=_
  rw[a3 (by simp only[bR,lim];lia)]
  rfl
end
theorem y9:∀l:List Nat,intsOf (l.map ah)=some (l.map λ(n:Nat)=>(n:Int))
 |[]=>rfl
 |n::l=>by
  show(intsOf (l.map ah)).map _=_
  rw[y9 l];rfl
theorem Ex{l:List Nat}(h:l.length<64):gw (l.map ah)=true:=by
 unfold gw
 rw[y9,bR]
 simp[h]
theorem M4(l:List Nat):(l.map ah).all mc=true:=by
 rw[List.all_map,kF];exactλ_ _=>rfl
theorem Hl:∀(al J:List D),(al.foldl gL J).length<=J.length+al.length
 |[],J=>by simp
 |e::al,J=>by
  haveI:=Hl al (gL J e)
  haveI:(gL J e).length<=J.length+1:=by unfold gL;split<;>simp
  simp only[List.foldl_cons,fX];lia
theorem xT(J:List D):(d6 J).length<=J.length:=by haveI:=Hl J [];simpa [d6] using this
theorem t4{be:Type}{f:be->D}:∀{l:List D},(∀d∈l,∃x,d=f x)->∃xs:List be,l=xs.map f
 |[],_=>⟨[],rfl⟩
 |d::l,h=>by
  refine a6 (h d (.head _)) λx a2=>?_;subst a2
  refine a6 (t4 λd hd=>h d (.tail _ hd)) λxs a9=>?_;subst a9
  exact⟨x::xs,rfl⟩
theorem Ez{be:Type}{f:be->D}(l:List be):∃xs:List be,dN (d6 (l.map f))=xs.map f/\xs.length<=(d6 (l.map f)).length/\(xs.map f).Nodup/\∀x,f x∈xs.map f↔f x∈l.map f:=by
 haveI aF:=oI (d6 (l.map f))
 refine a6 (t4 (f:=f) (l:=dN (d6 (l.map f))) λd hd=>by
  obtain ⟨x,_,rfl⟩:=b5.mp (kU.mp (aF.mem_iff.mp hd))
  exact⟨x,rfl⟩) λxs ar=>?_
 refine⟨xs,ar,?_,?_,λx=>?_⟩
 ·haveI:=aF.length_eq;rw[ar]at this;simpa using cB this
 ·rw[←ar];exact aF.nodup_iff.mpr (wS _)
 ·rw[←ar,aF.mem_iff,kU]
theorem zc{c:Prop}[Decidable c]{b:Bool}(h:b=true):(if c then b else true)=true:=by
 by_cases ax:c
 ·exact(a3 ax).trans h
 ·exact bq ax
theorem Gi(a b:List Nat):kM (a.map ah) (b.map ah)=true:=by
 induction a generalizing b with
 |nil=>cases b<;>rfl
 |cons x a aE=>
  cases b with
  |nil=>rfl
  |cons y b=>exact(zc (aE b):(if ah x=ah y then kM (a.map ah) (b.map ah)else true)=true)
theorem Oc{x y:bF}(ar:iO x)(bc:iO y):ll (b1 x) (b1 y)=true:=by
 refine(?_:((D.str x.op).cO&&(D.str y.op).cO&&(if D.str x.op=D.str y.op then kM (x.kids.map ah) (y.kids.map ah)else true))=true)
 rw[show(D.str x.op).cO=true from ar.1,show(D.str y.op).cO=true from bc.1]
 exact zc (Gi _ _)
theorem pV{l:List D}:D.da l=true↔∀d∈l,d.cO=true:=⟨λh _ hd=>nS hd h,I2⟩
theorem pv{l:List D}{k:Nat}:D.ew l<=k↔∀d∈l,d.depth<=k:=⟨λh _ hd=>aO (q0 hd) h,GB⟩
theorem JU{x:bF}(h:iO x):(b1 x).cO=true/\(b1 x).depth<=1:=by
 haveI ai:=h.1
 simp only[b1,eK,sd,se,sf,lB,lA,sc,rI,rJ,rK,qw,qv,rH,Bool.and_true]
 exact⟨ai,by decide⟩
theorem z0{J:List D}(aH:J.Nodup)(aw:J.length<64)(aq:∀d∈J,d.cO=true/\d.depth<=8)(ax:∀x∈J,∀y∈J,ll x y=true)
  (cH:(∀d∈J,j4 d=true)\/(∀d∈J,mc (headD d)=true)\/∀d∈J,j4 (headD d)=true):gw J=true:=by
 unfold gw
 simp only[Bool.and_eq_true,Bool.or_eq_true,iL,kF]
 exact⟨aw,.inr ⟨⟨⟨⟨aH,pV.mpr λd hd=>(aq d hd).1⟩,pv.mpr λd hd=>(aq d hd).2⟩,λx ar y bc=>ax x ar y bc⟩,by rcases cH with h|h|h;exact .inl (.inl h);exact .inl (.inr h);exact .inr h⟩⟩
theorem Xn{xs:List bF}(aD:∀x∈xs,iO x)(bL:(d6 (xs.map b1)).length<=4):lX (xs.map b1)=true/\gw (d6 (xs.map b1))=true:=by
 haveI aq:∀d∈xs.map b1,d.cO=true/\d.depth<=8:=λd hd=>by
  refine aG (b5.mp hd) λx ar bY=>?_;subst bY
  exact⟨(JU (aD x ar)).1,aO (JU (aD x ar)).2 ag⟩
 refine⟨?_,z0 (wS _) (by lia) (λd hd=>aq d (kU.mp hd)) (λx ar y bc=>?_) (.inr (.inr λd hd=>?_))⟩
 ·unfold lX
  simp only[Bool.and_eq_true,Bool.or_eq_true,iL,kF]
  refine⟨⟨pV.mpr λd hd=>(aq d hd).1,pv.mpr λd hd=>(aq d hd).2⟩,.inr ⟨λd hd=>?_,bL⟩⟩
  refine aG (b5.mp hd) λx _ b3=>?_;subst b3;rfl
 ·refine aG (b5.mp (kU.mp ar)) λa aC cj=>?_;subst cj
  refine aG (b5.mp (kU.mp bc)) λb ab cA=>?_;subst cA
  exact Oc (aD a aC) (aD b ab)
 ·refine aG (b5.mp (kU.mp hd)) λa aC cQ=>?_;subst cQ;rfl
theorem K8{l:List Nat}(h:l.length<64):lX (l.map ah)=true/\gw (d6 (l.map ah))=true:=by
 have aw:(d6 (l.map ah)).length<64:=e6 (xT _) (by simpa using h)
 refine⟨?_,?_⟩
 ·unfold lX
  rw[sc,rH,M4]
  simp only[Bool.true_and,Bool.or_eq_true,Bool.and_eq_true,iL]
  exact⟨by decide,.inl (.inl (by lia))⟩
 ·refine a6 (t4 (f:=ah) (l:=d6 (l.map ah)) λd hd=>by
   obtain ⟨x,_,rfl⟩:=b5.mp (kU.mp hd)
   exact⟨x,rfl⟩) λxs ar=>?_
  rw[ar]at aw⊢
  exact Ex (by simpa using aw)
section
variable{az:aa}{m:aK}{e:aY (D×aa)}{xs:List D}{l:Nat}
theorem TP(h:Run az (e m) (.obj l))(q:az[l]?=some (.list xs))(aZ:gw xs=true):d5 az (bW (ay e aJ) ny m) (dN xs):=λC p=>by
 refine aG (h C p) λaB aS aT=>?_
 exact⟨aB.length,_,bp (gs aS) (Lc (aT _ _ (p _ _ q)) aZ),aT.trans (.app _),fx _,aT.len⟩
theorem Wr(h:Run az (e m) (.obj l))(q:az[l]?=some (.list xs))(aw:xs.length<=lim):Run az (bW (ay e aJ) ek m) (ah xs.length):=λC p=>by
 refine aG (h C p) λaB aS aT=>?_
 exact⟨aB,bp (gs aS) (sh (aT _ _ (p _ _ q)) aw),aT⟩
theorem sx(h:Run az (e m) (.tup xs))(aw:xs.length<=lim):Run az (bW (ay e aJ) ek m) (ah xs.length):=λC p=>by
 refine aG (h C p) λaB aS aT=>?_
 exact⟨aB,bp (gs aS) (T3 aw),aT⟩
end
section
variable{C:aa}{U:List bF}{h:cv}{bH bw:Nat->Nat}{ks:List Nat}{B:Nat}{pr:List (Nat×bG)}(H:b8 C U h bH bw ks B pr)(dn:U.length<=6)(hd:Down h.p)(aw:h.p.length=U.length)
include H dn hd aw
theorem UG{n:Nat}(aH:n<U.length)(aZ:(h.dg (root h.p n)).length<64):d5 C (yk [.obj 4,ah n]) (dN ((h.dg (root h.p n)).map ah)):=by
 have au:root h.p n<U.length:=e6 (nX hd n) aH
 refine rR rfl (rC (tM (pU H.lay) ag (mo (oK H.lay) ag (bP rfl)) (fs (bP rfl)) (rR rfl (rC (TP (e2 (mo (pU H.lay) (d:=.obj 14) ag (bP rfl)) (q6 (pU H.lay) ag (bP rfl) (fs (bP rfl)) (Ac H dn hd aw aH)) λao p=>?_) (H.gE _ au).2 (Ex aZ))))))
 exact li (p _ _ H.dg) (by lia) (by simp[au])
theorem N7:d5 C (vv [.obj 4]) (((List.range U.length).filter λa=>decide (h.p.getD a a=a)).map ah):=by
 haveI cZ:=Wr (az:=C) (e:=cn 299 "above" (aj 0)) (m:=[some (.obj 12),none,none]) (mo (pU H.lay) (d:=.obj 13) ag (bP rfl)) H.above (by simp[lim];lia)
 rw[bR,aw]at cZ
 haveI:=pX (az:=C) (c:=Lf) (e:=GR) (dk:=kx (ay (bW (ay (cn 299 "above" (aj 0)) aJ) ek) aJ)) (cw:=[none,none,some 0]) (as:=b9 1) (m:=[some (.obj 12),none,none])
  (fr:=λd=>[none,some d,some (.obj 12)]) (pp:=λd=>match d with|.int i=>decide (h.p.getD i.toNat i.toNat=i.toNat)|_=>false) (gx:=id) (λm=>∃d,m=[none,d,some (.obj 12)]) (CS (fs cZ) (by simp[lim];lia)) ⟨none,rfl⟩
  (λd _ m ⟨jS,aR⟩ C=>by subst aR;rfl) (λd _=>⟨some d,rfl⟩) (λd cW=>?_) (λd _ _=>bP rfl) (by simp[lim];lia)
 ·rw[List.map_id,List.filter_map]at this
  exact rR rfl (rC (tM (pU H.lay) ag (mo (oK H.lay) ag (bP rfl)) sy (rR rfl (rC this))))
 ·refine aG (b5.mp cW) λa aC d0=>?_;subst d0
  haveI rY:=ft.mp aC
  refine h3 (a:=ah (h.p.getD a a)) (d:=ah a) (e2 (mo (pU H.lay) (d:=.obj 13) ag (bP rfl)) (bP rfl) λao p=>li (p _ _ H.above) (by lia) (by simp[aw,rY,List.getD])) (bP rfl) λao p=>?_
  refine(?_:some (decide (ah (h.p.getD a a)=ah a))=some (decide (h.p.getD a a=a)))
  congr 2
  exact propext ⟨te,λe=>by rw[e]⟩
end
theorem sq{be:Type}[DecidableEq be]:∀{l r:List be},l.Nodup->(∀x∈l,x∈r)->l.length<=r.length
 |[],r,_,_=>es _
 |x::l,r,aH,aZ=>by
  rw[kH]at aH
  haveI:=sq (r:=r.erase x) aH.2 λy bc=>(List.mem_erase_of_ne (λe=>by subst e;exact aH.1 bc)).mpr (aZ y (.tail _ bc))
  haveI ai:=List.length_erase_of_mem (aZ x (.head _))
  haveI:=List.length_pos_of_mem (aZ x (.head _))
  simp only[fX];lia
theorem tW{i:Nat}{l:List Nat}:ah i∈l.map ah↔i∈l:=⟨λh=>by refine aG (b5.mp h) λj bn e=>?_;rwa [←te e],λh=>b5.mpr ⟨i,h,rfl⟩⟩
theorem zF{be dh:Type}{f:be->dh}{l:List be}(h:(l.map f).Nodup):l.Nodup:=List.Pairwise.of_map f (λa b e1 e=>e1 (by rw[e])) h
noncomputable def gk:D->Nat
 |.int i=>i.toNat
 |_=>0
def n5:D->bF
 |.tup (.str o::ks)=>⟨o,ks.map gk⟩
 |_=>⟨Str.empty,[]⟩
theorem i4(n:Nat):gk (ah n)=n:=Int.toNat_natCast n
theorem LB(l:List Nat):(l.map ah).map gk=l:=by
 rw[fj,show gk∘ah=id from funext i4,List.map_id]
theorem sD(x:bF):n5 (b1 x)=x:=by
 refine(?_:(⟨x.op,(x.kids.map ah).map gk⟩:bF)=x)
 rw[LB]
theorem YN(l:List bF):(l.map b1).map n5=l:=by
 rw[fj,show n5∘b1=id from funext sD,List.map_id]
def kV(h:cv)(c:Nat):List Nat:=(dN ((h.dg c).map ah)).map gk
theorem Dx(h:cv)(c:Nat):dN ((h.dg c).map ah)=(kV h c).map ah/\∀i,i∈kV h c↔i∈h.dg c:=by
 have aF:=oI ((h.dg c).map ah)
 refine a6 (t4 (f:=ah) (l:=dN ((h.dg c).map ah)) λd hd=>by
  obtain ⟨x,_,rfl⟩:=b5.mp (aF.mem_iff.mp hd)
  exact⟨x,rfl⟩) λxs ar=>?_
 have e:kV h c=xs:=by unfold kV;rw[ar,LB]
 refine⟨by rw[e,ar],λi=>?_⟩
 rw[ar]at aF
 rw[e,←tW,aF.mem_iff,tW]
noncomputable def cF(U:List bF)(n:Nat):bF:=U.getD n ⟨Str.empty,[]⟩
noncomputable def gM(U:List bF)(h:cv):List Nat:=(List.range U.length).filter λa=>decide (h.p.getD a a=a)
def gg(U:List bF)(h:cv)(c:Nat):List bF:=if c∈gM U h then(dN (d6 (((kV h c).map λn=>canon (root h.p) (cF U n)).map b1))).map n5 else []
theorem tV{U:List bF}{h:cv}{c:Nat}:c∈gM U h↔c<U.length/\h.p.getD c c=c:=by
 unfold gM;rw[jj,ft,iL]
structure Ok(U:List bF)(told done:List (Nat×Nat))(h:cv):Prop where
 inv:Inv U told done h
 ok:∀x∈U,iO x
 six:U.length<=6
 Dd:np U told (root h.p)
 tk:told.length<=3/\∀q∈told,q.1<U.length/\q.2<U.length
section
variable{U:List bF}{told done:List (Nat×Nat)}{h:cv}(O:Ok U told done h)
include O
theorem zT{n:Nat}(aH:n<U.length):root h.p n∈gM U h:=tV.mpr ⟨e6 (nX O.inv.down n) aH,nY O.inv.down n⟩
theorem Bc{c:Nat}(ax:c∈gM U h):root h.p c=c:=w9 O.inv.down (tV.mp ax).2
theorem wJ{c i:Nat}(ax:c∈gM U h):i∈kV h c↔i<U.length/\root h.p i=c:=by
 refine bU (tV.mp ax) λai ak=>?_
 rw[(Dx h c).2];exact(O.inv.dg c ai ak).2 i
theorem Jn{c:Nat}(ax:c∈gM U h):(h.dg c).length<=6:=by
 refine bU (tV.mp ax) λai ak=>?_
 refine bU (O.inv.dg c ai ak) λaH aR=>?_
 haveI:=sq aH λi hi=>ft.mpr ((aR i).mp hi).1
 rw[fW]at this
 exact aO this O.six
omit O in
theorem j8{n:Nat}(aH:n<U.length):U[n]?=some (cF U n):=by simp[cF,List.getD,aH]
theorem A3{n:Nat}(aH:n<U.length):iO (canon (root h.p) (cF U n)):=by
 haveI:=O.ok _ (eN (j8 aH))
 exact⟨this.1,by simpa [canon] using this.2⟩
theorem Ho{c:Nat}(ax:c∈gM U h):(d6 (((kV h c).map λn=>canon (root h.p) (cF U n)).map b1)).length<=4:=by
 refine a6 (t4 (f:=b1) (l:=d6 (((kV h c).map λn=>canon (root h.p) (cF U n)).map b1)) λd hd=>by
  obtain ⟨x,_,rfl⟩:=b5.mp (kU.mp hd)
  exact⟨x,rfl⟩) λxs ar=>?_
 haveI aH:xs.Nodup:=by
  haveI:=wS (((kV h c).map λn=>canon (root h.p) (cF U n)).map b1)
  rw[ar]at this
  exact zF this
 haveI:=PW (xs:=xs) (c:=c) O.Dd O.tk.2 O.inv.mV aH λx hx=>by
  haveI:b1 x∈d6 (((kV h c).map λn=>canon (root h.p) (cF U n)).map b1):=by rw[ar];exact b5.mpr ⟨x,hx,rfl⟩
  refine aG (b5.mp (kU.mp this)) λy bc e=>?_
  refine aG (b5.mp bc) λi hi bC=>?_;subst bC
  refine bU ((wJ O ax).mp hi) λfS fK=>?_
  exact⟨i,_,j8 fS,fK,DB e⟩
 rw[ar,bR]
 haveI:=O.tk.1
 lia
theorem zD{c:Nat}(ax:c∈gM U h):dN (d6 (((kV h c).map λn=>canon (root h.p) (cF U n)).map b1))=(gg U h c).map b1/\(gg U h c).length<=4/\
  ∀x,x∈gg U h c↔∃i,i<U.length/\root h.p i=c/\canon (root h.p) (cF U i)=x:=by
 refine iv (Ez (f:=b1) ((kV h c).map λn=>canon (root h.p) (cF U n))) λxs ai ak aV bL=>?_
 haveI e:gg U h c=xs:=by unfold gg;rw[a3 ax,ai,YN]
 haveI inj:∀(l:List bF) x,b1 x∈l.map b1↔x∈l:=λl x=>⟨λq=>by refine aG (b5.mp q) λy bc q=>?_;rwa [←DB q],λq=>b5.mpr ⟨x,q,rfl⟩⟩
 rw[e]
 refine⟨ai,aO ak (Ho O ax),λx=>?_⟩
 haveI:=bL x
 rw[inj,inj]at this
 rw[this,b5]
 constructor
 ·intro cA;refine aG cA λi hi q=>?_;clear cA
  refine bU ((wJ O ax).mp hi) λfS fK=>?_
  exact⟨i,fS,fK,q⟩
 ·intro cQ;refine eB cQ λi fS fK q=>?_;clear cQ
  exact⟨i,(wJ O ax).mpr ⟨fS,fK⟩,q⟩
theorem Hn{n:Nat}(aH:n<U.length):∀k∈(canon (root h.p) (cF U n)).kids,k∈gM U h:=λk aq=>by
 refine aG (b5.mp aq) λl aw bY=>?_;subst bY
 exact zT O (O.inv.mV _ (eN (j8 aH)) l aw)
variable{C:aa}{bH bw:Nat->Nat}{ks:List Nat}{B:Nat}{pr:List (Nat×bG)}(H:b8 C U h bH bw ks B pr)
include H
theorem Ve{c:Nat}(ax:c∈gM U h):d5 C (yl [.obj 4,ah c]) ((gg U h c).map b1):=by
 refine bU (tV.mp ax) λgs hJ=>?_
 haveI aR:=UG H O.six O.inv.down O.inv.len gs (by rw[Bc O ax];haveI:=Jn O ax;lia)
 rw[Bc O ax,(Dx h c).1]at aR
 haveI cZ:(kV h c).length<=6:=by
  haveI:=(oI ((h.dg c).map ah)).length_eq
  rw[(Dx h c).1]at this
  simp only[bR]at this
  haveI:=Jn O ax
  lia
 haveI ar:=lD (az:=C) (m:=[some (.obj 4),some (ah c),none,none]) (dk:=c9 (dy 429 "members" (aj 0) (ay (aj 1) aJ) yk)) (cw:=[none,none,some 0]) (i:=1) (e:=GL)
  (gx:=λd=>b1 (canon (root h.p) (cF U (gk d)))) (wq (tM (oK H.lay) ag (bP rfl) (fs (bP rfl)) aR)) (λd hd=>?_) (by simp[lim];lia)
 ·haveI e:((kV h c).map ah).map (λd=>b1 (canon (root h.p) (cF U (gk d))))=((kV h c).map λn=>canon (root h.p) (cF U n)).map b1:=by
   rw[fj,fj]at⊢
   refine kE λn _=>?_
   exact bb (λy=>b1 (canon (root h.p) (cF U y))) (i4 n)
  rw[e]at ar
  haveI:=Jg ar (Xn (λx ar=>by
   refine aG (b5.mp ar) λi hi b3=>?_;subst b3
   exact A3 O ((wJ O ax).mp hi).1) (Ho O ax))
  rw[(zD O ax).1]at this
  exact rR rfl (rC this)
 ·refine aG (b5.mp hd) λn aH cj=>?_;subst cj
  haveI h0:=((wJ O ax).mp aH).1
  haveI aq:=O.ok _ (eN (j8 h0))
  rw[i4]
  exact q6 (oK H.lay) ag (bP rfl) (fs (bP rfl)) (JX H O.six O.inv.down O.inv.len (j8 h0) aq.2 (O.inv.mV _ (eN (j8 h0))))
end
def kX(bo:List Nat):D:=.tup (bo.map ah)
def pairD(p:Str×Nat):D:=.tup [.str p.1,ah p.2]
def h4:Row->D
 |.bind pl o many first=>.tup [.str "bind",ah pl,.str o,ah many,ah first]
 |.same a b=>.tup [.str "same",ah a,ah b]
 |.yield c7=>.tup [.str "yield",.tup (c7.map pairD)]
noncomputable def kY(ho:Nat->List bF):Row->List Nat->List (List Nat)
 |.bind pl o many first,bo=>((ho (bo.getD pl 0)).filter λx=>decide (x.op=o/\x.kids.length=many)).map λx=>bo.take first++x.kids
 |.same a b,bo=>if bo.getD a 0=bo.getD b 0 then [bo]else []
 |.yield _,_=>[]
section
variable{az:aa}{m:aK}{e:aY (D×aa)}{k gW qq:aY (ca×aK×aa)}{c:aY (Bool×aa)}{d:D}{J xs bB:List D}{is:List Nat}{b:Bool}
theorem NY(h:Run az (c m) true)(ab:oo az (gW m) xs):oo az (bl (f6 c gW qq) k m) xs:=λC p=>
 aG (h C p) λ_ aS aT=>lI (ab _ (p.trans aT)) λ_ _ _ bf bx q aw=>⟨_,_,_,bp (bp aS bf) rfl,aT.trans bx,q,aO aT.len aw⟩
theorem NX(h:Run az (c m) false)(aq:oo az (k m) xs):oo az (bl (f6 c gW cc) k m) xs:=λC p=>
 aG (h C p) λ_ aS aT=>lI (aq _ (p.trans aT)) λ_ _ _ bf bx q aw=>⟨_,_,_,bp (bp aS rfl) bf,aT.trans bx,q,aO aT.len aw⟩
theorem NW(h:Run az (e m) (.tup J))(aw:J.length=is.length)(aq:oo az (k (rb is J m)) xs):oo az (bl (cS e (gv is)) k m) xs:=λC p=>
 aG (h C p) λ_ aS aT=>lI (aq _ (p.trans aT)) λ_ _ _ bf bx q iT=>⟨_,_,_,bp (bp aS (ck (K7 aw))) bf,aT.trans bx,q,aO aT.len iT⟩
theorem NV{i:Nat}(h:d5 az (e m) bB)(aq:∀l aB,Pre az aB->aB[l]?=some (.list bB)->oo aB (k (m.set i (some (.obj l)))) xs):oo az (bl (cS e (b9 i)) k m) xs:=λC p=>
 fh (h C p) λ_ _ aS aT q _=>lI (aq _ _ (p.trans aT) q _ .refl) λ_ _ _ bf bx eL iT=>⟨_,_,_,bp (bp aS rfl) bf,aT.trans bx,eL,aO aT.len iT⟩
end
theorem item_tup(xs:List D)(j:Int)(C:aa):iW (.tup xs) (.int j) C=if 0<=j/\j<2^62 then xs[j.toNat]? else none:=rfl
theorem rd{xs:List D}{k:Nat}{d:D}(ar:xs[k]?=some d)(aq:k<2^62)(C:aa):iW (.tup xs) (ah k) C=some d:=by
 haveI ai:(0:Int)<=(k:Int)/\(k:Int)<2^62:=by lia
 exact(item_tup xs k C).trans ((a3 ai).trans ar)
theorem w7{bo:List Nat}{k:Nat}(aq:k<bo.length)(aw:bo.length<=lim)(C:aa):iW (kX bo) (ah k) C=some (ah (bo.getD k 0)):=
 rd (by simp[aq,List.getD]) (by unfold lim at aw;lia) C
theorem G6{a b:D}(aC:a.cO=true)(ab:b.cO=true)(hd:a.depth<=20)(C:aa):he .Eq a b C=some (decide (a=b)):=Bz aC ab hd C
theorem p7{a b:Str}(aC:PyData.strOk a=true)(ab:PyData.strOk b=true)(C:aa):he .Eq (.str a) (.str b) C=some (decide (D.str a=D.str b)):=G6 (a:=.str a) (b:=.str b) aC ab (es _) C
theorem va(a b:Nat)(C:aa):he .Eq (ah a) (ah b) C=some (decide (ah a=ah b)):=G6 (a:=ah a) (b:=ah b) rfl rfl (es _) C
theorem Yc{a b:Str}(h:a≠b):decide (D.str a=D.str b)=false:=fu λe=>h (D.str.inj e)
theorem NR(C:aa):he .Eq (.str "bind") (.str "same") C=some false:=(p7 (by decide+kernel) (by decide+kernel) C).trans (bb some (Yc ag))
theorem W6(C:aa):he .Eq (.str "same") (.str "same") C=some true:=(p7 (by decide+kernel) (by decide+kernel) C).trans (bb some (dT rfl))
theorem X9(a b:Str):decide (D.str a=D.str b)=decide (a=b):=decide_eq_decide.mpr ⟨D.str.inj,λe=>by rw[e]⟩
theorem Hh{be:Type}{f:be->D}{p:D->Bool}{q:be->Bool}{l:List be}(h:∀x∈l,p (f x)=q x):(l.map f).filter p=(l.filter q).map f:=by
 rw[List.filter_map]
 congr 1
 exact List.filter_congr h
theorem tS{be dh:Type}{f:be->D}{g:D->D}{k:be->dh}{qy:dh->D}{l:List be}(h:∀x∈l,g (f x)=qy (k x)):(l.map f).map g=(l.map k).map qy:=by
 rw[fj,fj];exact kE h
noncomputable def Er(cls:List Nat)(bo:List Nat):Row->Prop
 |.bind pl o many first=>pl<bo.length/\first=bo.length/\PyData.strOk o=true/\bo.getD pl 0∈cls
 |.same a b=>a<bo.length/\b<bo.length
 |.yield _=>False
section
variable{U:List bF}{told done:List (Nat×Nat)}{h:cv}(O:Ok U told done h){C:aa}{bH bw:Nat->Nat}{ks:List Nat}{B:Nat}{pr:List (Nat×bG)}(H:b8 C U h bH bw ks B pr){ls k:Nat}(hk:∀ao,Pre C ao->hy ao 217 ls=some (k,([("heap",.obj 4)]:List (Str×D))))
include O H hk
theorem X4{row:Row}{bo:List Nat}(aw:bo.length<=100)(au:Er (gM U h) bo row):
  d5 C (vy [.obj ls,h4 row,kX bo]) ((kY (gg U h) row bo).map kX):=by
 have oD:bo.length<=lim:=by unfold lim;lia
 cases row with
 |yield _=>exact absurd au id
 |same a b=>
  refine rR rfl (NY (h3 (b:=true) (e2 (v:=.str "same") (bP rfl) dI λ_ _=>rfl) dI λao _=>W6 ao) (rC ?_))
  refine Dc (b:=decide (ah (bo.getD a 0)=ah (bo.getD b 0))) (h3 (a:=ah (bo.getD a 0)) (d:=ah (bo.getD b 0)) (e2 (bP rfl) (e2 (v:=ah a) (bP rfl) dI λ_ _=>rfl) λao _=>w7 au.1 oD ao) (e2 (bP rfl) (e2 (v:=ah b) (bP rfl) dI λ_ _=>rfl) λao _=>w7 au.2 oD ao) λao _=>va _ _ ao) (λe=>?_) (λe=>?_)
  ·have bO:bo.getD a 0=bo.getD b 0:=te (hU e)
   show d5 _ _ ((if _ then _ else _:List (List Nat)).map kX)
   rw[a3 bO]
   exact sg (fs (bP rfl))
  ·have bO:¬bo.getD a 0=bo.getD b 0:=λq=>of_decide_eq_false e (by rw[q])
   show d5 _ _ ((if _ then _ else _:List (List Nat)).map kX)
   rw[bq bO]
   exact sg sy
 |bind pl o many first=>
  refine qc au λai a2 aV bL=>?_;clear au;subst a2
  refine fV (zD O bL) λ_ bY Eb=>?_
  have J0:∀x∈gg U h (bo.getD pl 0),iO x:=λx ar=>by refine eB ((Eb x).mp ar) λi hi _ a9=>?_;subst a9;exact A3 O hi
  refine rR rfl (NX (h3 (b:=false) (e2 (v:=.str "bind") (bP rfl) dI λ_ _=>rfl) dI λao _=>NR ao) (NW (bP rfl) rfl (NV (bB:=((gg U h (bo.getD pl 0)).filter λx=>decide (x.op=o/\x.kids.length=many)).map b1) ?_ ?_)))
  ·have:=pX (az:=C) (c:=Li) (e:=GX) (dk:=c9 (dy 429 "nodes_of" (cn 217 "heap" (aj 0)) (ay (bX (aj 2) (aj 4)) aJ) yl)) (cw:=[none,none,none,some 6,some 5]) (as:=b9 1) (m:=[some (.obj ls),some (h4 (.bind pl o many bo.length)),some (kX bo),some (.str "bind"),some (ah pl),some (.str o),some (ah many),some (ah bo.length),none])
    (fr:=λd=>[none,some d,none,some (ah many),some (.str o)]) (pp:=λd=>decide (D.str (n5 d).op=D.str o)&&decide (ah ((n5 d).kids.length+1)=ah (many+1))) (gx:=id) (λm=>∃d,m=[none,d,none,some (ah many),some (.str o)])
    (wq (tM (oK H.lay) ag (mo hk (d:=D.obj 4) ag (bP rfl)) (fs (e2 (bP rfl) (bP rfl) λao _=>w7 ai oD ao)) (Ve O H bL))) ⟨none,rfl⟩ (λd _ m ⟨jS,aR⟩ C=>by subst aR;rfl) (λd _=>⟨some d,rfl⟩)
    (λd hd=>?_) (λd _ _=>bP rfl) (by rw[bR];unfold lim;lia)
   ·rw[List.map_id,Hh (q:=λx=>decide (x.op=o/\x.kids.length=many)) (λx _=>?_)]at this
    ·exact this
    ·rw[sD,X9,Bn]
     simp only[Nat.add_right_cancel_iff,Bool.decide_and]
   ·refine aG (b5.mp hd) λx ar bC=>?_;subst bC
    have eE:=J0 x ar
    rw[sD]
    refine w1 (h3 (a:=.str x.op) (d:=.str o) (e2 (bP rfl) dI λ_ _=>rfl) (bP rfl) λao _=>p7 eE.1 aV ao) λ_=>?_
    rw[←Bool.and_true (decide (ah _=ah _))]
    refine w1 (h3 (a:=ah (x.kids.length+1)) (d:=ah (many+1)) ?_ (oS (bP rfl) dI λ_ _=>rfl) λao _=>va _ _ ao) λ_=>w3
    have:=sx (az:=C) (e:=aj 1) (m:=[none,some (b1 x),none,some (ah many),some (.str o)]) (xs:=eK x) (bP rfl) (by have:=eE.2;simp only[eK,fX,bR,lim];lia)
    rw[show(eK x).length=x.kids.length+1 by simp[eK]]at this
    exact this
  ·intro l aB p1 Wn
   have ty:∀x∈((gg U h (bo.getD pl 0)).filter λx=>decide (x.op=o/\x.kids.length=many)),iO x:=λx ar=>J0 x (jj.mp ar).1
   have:=lD (az:=aB) (m:=[some (.obj ls),some (h4 (.bind pl o many bo.length)),some (kX bo),some (.str "bind"),some (ah pl),some (.str o),some (ah many),some (ah bo.length),some (.obj l)]) (dk:=c9 (aj 8)) (cw:=[none,none,some 7,some 2]) (i:=1) (e:=GM)
    (gx:=λd=>kX (bo.take bo.length++(n5 d).kids)) (tI (bP rfl) Wn) (λd hd=>?_) (by have:=List.length_filter_le (λx=>decide (x.op=o/\x.kids.length=many)) (gg U h (bo.getD pl 0));rw[bR];unfold lim;lia)
   ·rw[tS (k:=λx=>bo.take bo.length++x.kids) (qy:=kX) (λx _=>by rw[sD])]at this
    exact rC this
   ·refine aG (b5.mp hd) λx ar b3=>?_;subst b3
    have eE:=ty x ar
    rw[sD]
    refine oS (a:=kX (bo.take bo.length)) (d:=.tup (x.kids.map ah)) (sz (bP rfl) (bP rfl) λao=>?_) (ua (bP rfl) dI (nD (by have:=eE.2;simp only[fX,bR,lim];lia))) λao _=>?_
    ·show(if(0:Int)<=(bo.length:Int)/\(bo.map ah).length<=lim then _ else _)=_
     rw[a3 ⟨by lia,by rw[bR];exact oD⟩,Int.toNat_natCast,←List.map_take]
     rfl
    ·show(if((bo.take bo.length).map ah).length+(x.kids.map ah).length<=lim then _ else _)=_
     rw[a3 (by have:=eE.2;simp only[bR,List.length_take,lim];lia),←fv]
     rfl
end
def kq(q:Key):List D:=[ah q.1,.tup (q.2.map pairD)]
def ii(q:Key):D:=.tup (kq q)
theorem Kd{a b:Str×Nat}(h:pairD a=pairD b):a=b:=by
 have:=D.tup.inj h
 simp only[List.cons.injEq,D.str.injEq,and_true]at this
 exact Prod.ext this.1 (te this.2)
theorem IZ{a b:Key}(h:kq a=kq b):a=b:=by
 unfold kq at h
 simp only[List.cons.injEq,and_true,D.tup.injEq]at h
 exact Prod.ext (te h.1) ((List.map_inj_right λ_ _ q=>Kd q).mp h.2)
def iE(q:Nat×List Nat):D:=.tup [ah q.1,kX q.2]
structure iP(az C:aa)(cq b6:Nat)(aN:List (List D×D))(W:List D):Prop where
 pre:Pre az C
 vo:C[cq]?=some (.du aN)
 ww:C[b6]?=some (.list W)
 hf:az.length<=cq
 hw:az.length<=b6
 ne:cq≠b6
theorem iP.up{az C ao:aa}{cq b6 aN W}(R:iP az C cq b6 aN W)(p:Pre C ao):iP az ao cq b6 aN W:=⟨R.pre.trans p,p _ _ R.vo,p _ _ R.ww,R.hf,R.hw,R.ne⟩
theorem iP.p6{az C:aa}{cq b6 aN W}(R:iP az C cq b6 aN W)(uP:List D):iP az (C.set b6 (.list uP)) cq b6 aN uP:=
 ⟨R.pre.set R.hw _,by rw[k0 (Ne.symm R.ne)];exact R.vo,gT R.ww,R.hf,R.hw,R.ne⟩
theorem iP.zY{az C:aa}{cq b6 aN W}(R:iP az C cq b6 aN W)(mX:List (List D×D)):iP az (C.set cq (.du mX)) cq b6 mX W:=
 ⟨R.pre.set R.hf _,gT R.vo,by rw[k0 R.ne];exact R.ww,R.hf,R.hw,R.ne⟩
structure nj(K:Key->Prop)(aN:List (List D×D))(F:List Key):Prop where
 eq:aN.map (·.1)=F.map kq
 U:F.Nodup
 mem:∀q,q∈F↔K q
theorem M5{aN:List (List D×D)}{F:List Key}(h:aN.map (·.1)=F.map kq)(q:Key):(aN.any λp=>decide (p.1=kq q))=decide (q∈F):=by
 have e:(aN.any λp=>decide (p.1=kq q))=(aN.map (·.1)).any λk=>decide (k=kq q):=by rw[List.any_map];rfl
 rw[e,h,List.any_map,Bool.eq_iff_iff,List.any_eq_true,iL]
 constructor
 ·intro bC;refine aG bC λx ar aL=>?_;clear bC
  rwa [←IZ (hU aL)]
 ·exactλaL=>⟨q,aL,by simp⟩
theorem nj.put{K:Key->Prop}{aN F}(X:nj K aN F)(q:Key)(d:D):∃fP,nj (λk=>K k\/k=q) (putK aN (kq q) d) fP:=by
 unfold putK
 rw[M5 X.eq]
 by_cases aL:q∈F
 ·rw[a3 (by simpa using aL)]
  refine⟨F,?_,X.U,λk=>?_⟩
  ·rw[←X.eq,fj]
   refine kE λp _=>?_
   refine(?_:(if p.1=kq q then(p.1,d)else p).1=p.1)
   split<;>rfl
  ·rw[X.mem]
   exact⟨.inl,λh=>h.elim id λe=>by rw[e];exact(X.mem q).mp aL⟩
 ·rw[bq (by simpa using aL)]
  refine⟨F++[q],by simp[X.eq],?_,λk=>by simp[X.mem]⟩
  rw[od]
  exact⟨X.U,by simp,λa aC b ab e=>aL (by simp at ab;rw[←ab,←e];exact aC)⟩
noncomputable def q8:Nat->List Row->Prop
 |_,[]=>False
 |n,.yield c7::_=>n<=100/\c7.length<=100/\∀p∈c7,p.2<n/\PyData.strOk p.1=true
 |n,.same a b::r=>n<=100/\a<n/\b<n/\q8 n r
 |n,.bind pl o many first::r=>n<=100/\pl<n/\first=n/\PyData.strOk o=true/\q8 (n+many) r
noncomputable def aan:aY (ca×aK×aa):=λm C=>some (.next,m,C)
theorem zh{c7:List (Str×Nat)}(h:∀p∈c7,PyData.strOk p.1=true):D.da (c7.map pairD)=true/\D.ew (c7.map pairD)<=1:=by
 constructor
 ·rw[pV]
  intro d hd
  refine aG (b5.mp hd) λp aF a2=>?_;subst a2
  have:=h p aF
  simp only[pairD,ah,sd,se,sf,lB,lA,Bool.and_true];exact this
 ·rw[pv]
  intro d hd
  refine aG (b5.mp hd) λp aF a9=>?_;subst a9
  simp[pairD,ah,rI,rJ,rK,qw,qv]
theorem Td{q:Key}(h:∀p∈q.2,PyData.strOk p.1=true):keyOk (kq q)=true:=by
 refine bU (zh h) λai ak=>?_
 unfold keyOk kq
 simp only[Bool.and_eq_true,iL,ah,rI,rJ,rK,qw,qv,lB,lA,sd,se,sf,ai,Bool.and_true,and_true]
 lia
theorem S0(W:List (Nat×List Nat)):D.da (W.map iE)=true/\D.ew (W.map iE)<=20:=by
 refine⟨pV.mpr λd hd=>aG (b5.mp hd) λq aL e=>e▸?_,pv.mpr λd hd=>aG (b5.mp hd) λq aL e=>e▸?_⟩
 ·refine(?_:(true&&(D.da (q.2.map ah)&&true))=true)
  rw[sc];rfl
 ·refine(?_:max 0 (max (D.ew (q.2.map ah)+1) 0)+1<=20)
  rw[rH];decide
theorem EM{C:aa}{b6:Nat}{W:List D}{m:aK}(hw:C[b6]?=some (.list W))(aR:m.at 3=some (.obj b6))(aq:D.da W=true/\D.ew W<=20):xc m C=some (!decide (W=[]),C++[.list []]):=by
 haveI p:=Pre.app (C:=C) [bG.list []] _ _ hw
 exact bp (ck aR) (bp rfl (ck (ck (x7 p (fx _) aq.1 rfl aq.2))))
section
variable{U:List bF}{told done:List (Nat×Nat)}{h:cv}(O:Ok U told done h){az:aa}{bH bw:Nat->Nat}{ks:List Nat}{B:Nat}{pr:List (Nat×bG)}(H:b8 az U h bH bw ks B pr){ls k:Nat}(hk:∀ao,Pre az ao->hy ao 217 ls=some (k,([("heap",.obj 4)]:List (Str×D)))) {rows:List Row} (jb:rows.length<=100) {cq b6:Nat}
def pz(ls:Nat)(rows:List Row)(cq b6 at_:Nat)(bo:List Nat):aK:=[some (.obj ls),some (.tup (rows.map h4)),some (.obj cq),some (.obj b6),some (ah at_),some (kX bo),none,none]
noncomputable abbrev oZ(ls:Nat)(rows:List Row)(cq b6:Nat)(m:aK):Prop:=∃a b,m=[some (.obj ls),some (.tup (rows.map h4)),some (.obj cq),some (.obj b6),a,b,none,none]
theorem Kp{C:aa}{aN:List (List D×D)}{W:List D}{at_:Nat}{bo:List Nat}{m:aK}{fe:aY (ca×aK×aa)}{r}(R:iP az C cq b6 aN (W++[iE (at_,bo)]))(aw:W.length<lim)(aR:oZ ls rows cq b6 m)
  (aq:fe (pz ls rows cq b6 at_ bo) (C.set b6 (.list W))=r):
  bl (cS (eV "list" (aj 3) aJ pf) (gv [4,5])) fe m C=r:=by
 refine iH aR λa b bC=>?_;clear aR;subst bC
 exact bp (bp (gU (a:=.obj b6) rfl (h5 R.ww) rfl (Ko R.ww (aO (cB dO) aw))) rfl) aq
include H in
theorem Es{at_:Nat}{row:Row}{m:aK}{v:D}{xs:List D}{j:Nat}(a0:rows[at_]?=some row)(aw:rows.length<=100)(au:h4 row=.tup xs)(aU:xs[j]?=some v)(bn:j<100)(ai:m.at 1=some (.tup (rows.map h4)))(bL:m.at 4=some (ah at_)):
  Run az (bX (bX (aj 1) (aj 4)) (λ_ C=>some (ah j,C)) m) v:=by
 haveI:=(e4.mp a0).1
 exact e2 (e2 (v:=h4 row) (bP ai) (bP bL) λao _=>rd (tT a0) (dE this (aO aw ag)) ao) dI λao _=>by rw[au];exact rd aU (k2 bn ag) ao
end
section
variable{U:List bF}{told done:List (Nat×Nat)}{h:cv}(O:Ok U told done h){az:aa}{bH bw:Nat->Nat}{ks:List Nat}{B:Nat}{pr:List (Nat×bG)}(H:b8 az U h bH bw ks B pr){ls k:Nat}(hk:∀ao,Pre az ao->hy ao 217 ls=some (k,([("heap",.obj 4)]:List (Str×D)))) {rows:List Row} (jb:rows.length<=100) {cq b6:Nat}
include H hk jb
theorem YE{C:aa}{aN:List (List D×D)}{W:List D}{at_:Nat}{bo:List Nat}{m:aK}{c7:List (Str×Nat)}(R:iP az C cq b6 aN (W++[iE (at_,bo)]))(aw:W.length<lim)(aR:oZ ls rows cq b6 m)
  (a0:rows[at_]?=some (.yield c7)) (bV:0<bo.length) (au:bo.length<=100) (qT:∀p∈c7,p.2<bo.length/\PyData.strOk p.1=true) (aF:c7.length<=100) (hm:aN.length<=lim):
  ∃bh ao,s4 m C=some (.next,bh,ao)/\oZ ls rows cq b6 bh/\iP az ao cq b6 (putK aN (kq (keyOf c7 bo)) (.bool true)) W:=by
 haveI oD:bo.length<=lim:=by unfold lim;lia
 haveI nx:=R.p6 W
 haveI gs:Run az (cP .Eq (bX (bX (aj 1) (aj 4)) (a7 (.int 0))) (a7 (.str "yield")) (pz ls rows cq b6 at_ bo)) true:=
  h3 (Es (rows:=rows) H (j:=0) a0 jb rfl (v:=.str "yield") rfl ag rfl rfl) dI λao _=>(p7 (by decide+kernel) (by decide+kernel) ao).trans (bb some ag)
 refine aG (gs _ nx.pre) λa8 bf bx=>?_
 haveI jp:=nx.up bx
 haveI f3:Run az (dd (ay (bX (aj 5) (a7 (.int 0))) (ay (bW (ay (ea (c9 (bX (bX (aj 1) (aj 4)) (a7 (.int 1)))) [none,none,none,some 5] (gv [1,2]) ef (dL (Bq))) aJ) jR) aJ)) (pz ls rows cq b6 at_ bo)) (ii (keyOf c7 bo)):=by
  refine m5 (mq (e2 (bP rfl) dI λao _=>w7 (k:=0) bV oD ao) (fs ?_))
  haveI:=pX (az:=az) (c:=ef) (e:=Bq) (dk:=c9 (bX (bX (aj 1) (aj 4)) (a7 (.int 1)))) (cw:=[none,none,none,some 5]) (as:=gv [1,2]) (m:=(pz ls rows cq b6 at_ bo))
   (fr:=λd=>match d with|.tup [a,b]=>[none,some a,some b,some (kX bo)]|_=>[]) (pp:=λ_=>true) (gx:=λd=>match d with|.tup [a,b]=>.tup [a,ah (bo.getD (gk b) 0)]|d=>d) (λm=>∃a b,m=[none,a,b,some (kX bo)])
   (sa (Es (rows:=rows) H (j:=1) a0 jb rfl (v:=.tup (c7.map pairD)) rfl ag rfl rfl)) ⟨none,none,rfl⟩ (λd hd m ⟨a,b,aR⟩ C=>?_) (λd hd=>?_) (λ_ _=>w3) (λd hd _=>?_) (by rw[bR];unfold lim;lia)
  ·rw[List.filter_eq_self.mpr (λ_ _=>rfl),tS (k:=λp=>(p.1,bo.getD p.2 0)) (qy:=pairD) (λp _=>by show D.tup [_,ah (bo.getD (gk (ah p.2)) 0)]=_;rw[i4];rfl)]at this
   exact w4 this (by show((c7.map _).map pairD).length<=lim;rw[bR,bR];unfold lim;lia)
  ·refine aG (b5.mp hd) λp d7 a2=>?_;subst a2
   subst aR;rfl
  ·refine aG (b5.mp hd) λp d7 a9=>?_;subst a9
   exact⟨_,_,rfl⟩
  ·refine aG (b5.mp hd) λp d7 bY=>?_;subst bY
   exact m5 (mq (bP rfl) (fs (e2 (bP rfl) (bP (d:=ah p.2) rfl) λao _=>by refine(?_:iW (kX bo) (ah p.2) ao=some (ah (bo.getD (gk (ah p.2)) 0)));rw[i4];exact w7 (qT p d7).1 oD ao)))
 refine aG (f3 _ jp.pre) λcg cY cx=>?_
 haveI o4:=jp.up cx
 haveI pL:keyOk (kq (keyOf c7 bo))=true:=Td λp d7=>by
  refine aG (b5.mp d7) λq aL b3=>?_;subst b3
  exact(qT q aL).2
 refine⟨pz ls rows cq b6 at_ bo,_,?_,⟨_,_,rfl⟩,o4.zY _⟩
 exact Kp R aw aR (bp (bp bf (bp (bp rfl (ck (bp rfl (bp cY (ck (ue o4.vo (a3 ⟨pL,hm⟩))))))) rfl)) rfl)
include O
theorem YD{C:aa}{aN:List (List D×D)}{W:List D}{at_:Nat}{bo:List Nat}{m:aK}{row:Row}(R:iP az C cq b6 aN (W++[iE (at_,bo)]))(aw:W.length+10<lim)(aR:oZ ls rows cq b6 m)
  (a0:rows[at_]?=some row) (au:bo.length<=100) (hn:Er (gM U h) bo row)
  (aZ:(kY (gg U h) row bo).length<=4):
  ∃bh ao,s4 m C=some (.next,bh,ao)/\oZ ls rows cq b6 bh/\iP az ao cq b6 aN (W++(kY (gg U h) row bo).map λr=>iE (at_+1,r)):=by
 haveI nx:=R.p6 W
 haveI mR:∃x xs,h4 row=.tup (.str x::xs)/\he .Eq (.str x) (.str "yield") []=some false/\PyData.strOk x=true/\D.str x≠.str "yield":=by
  cases row with
  |yield _=>exact absurd hn id
  |same a b=>exact⟨_,_,rfl,(p7 (by decide+kernel) (by decide+kernel) _).trans (bb some ag),by decide+kernel,by decide⟩
  |bind a b c d=>exact⟨_,_,rfl,(p7 (by decide+kernel) (by decide+kernel) _).trans (bb some ag),by decide+kernel,by decide⟩
 refine fh mR λx xs ar _ Sv Su=>?_;clear mR
 haveI gs:Run az (cP .Eq (bX (bX (aj 1) (aj 4)) (a7 (.int 0))) (a7 (.str "yield")) (pz ls rows cq b6 at_ bo)) false:=
  h3 (Es (rows:=rows) H (j:=0) a0 jb ar (v:=.str x) rfl ag rfl rfl) dI λao _=>(p7 Sv (by decide+kernel) ao).trans (bb some (fu Su))
 refine aG (gs _ nx.pre) λa8 bf bx=>?_
 haveI jp:=nx.up bx
 haveI Rw:d5 az (ea (c9 (dy 217 "steps" (aj 0) (ay (bX (aj 1) (aj 4)) (ay (aj 5) aJ)) vy)) [none,none,some 4] (b9 1) ef (dL (Br)) (pz ls rows cq b6 at_ bo)) ((kY (gg U h) row bo).map λr=>iE (at_+1,r)):=by
  haveI iS:=(e4.mp a0).1
  haveI:=lD (az:=az) (m:=(pz ls rows cq b6 at_ bo)) (dk:=c9 (dy 217 "steps" (aj 0) (ay (bX (aj 1) (aj 4)) (ay (aj 5) aJ)) vy)) (cw:=[none,none,some 4]) (i:=1) (e:=Br)
   (gx:=λd=>.tup [ah (at_+1),d]) (wq (tM hk ag (bP rfl) (mq (e2 (v:=h4 row) (bP rfl) (bP rfl) λao _=>rd (tT a0) (dE iS (aO jb ag)) ao) (fs (bP rfl))) (X4 O H hk au hn))) (λd hd=>m5 (mq (oS (bP rfl) dI λ_ _=>rfl) (fs (bP rfl)))) (by simp[lim];lia)
  rw[fj]at this
  exact this
 refine fh (Rw _ jp.pre) λl cg cY cx bC ZR=>?_
 haveI o4:=jp.up cx
 refine⟨pz ls rows cq b6 at_ bo,_,?_,⟨_,_,rfl⟩,o4.p6 _⟩
 haveI hle:W.length+((kY (gg U h) row bo).map λr=>iE (at_+1,r)).length<=lim:=by rw[bR];lia
 exact Kp R (by lia) aR (bp (bp bf ((bq k3).trans (bp (ck (gU (a:=.obj b6) rfl (h5 jp.ww) (cp cY) (vl o4.ww bC hle))) rfl))) rfl)
end
noncomputable def kK(c:aY (Bool×aa))(b:aY (ca×aK×aa))(m:aK)(C:aa)(Q:ca×aK×aa->Prop):Prop:=∃r,kd c b m C=some r/\Q r
theorem kK.turn{c:aY (Bool×aa)}{b:aY (ca×aK×aa)}{m bh:aK}{C ao h7:aa}{Q}(h:c m C=some (true,ao))(af:b m ao=some (.next,bh,h7))(au:kK c b bh h7 Q):kK c b m C Q:=aG au λr ai ak=>⟨r,xk h af ai,ak⟩
theorem nj.congr{K nr:Key->Prop}{aN F}(X:nj K aN F)(h:∀q,K q↔nr q):nj nr aN F:=⟨X.eq,X.U,λq=>(X.mem q).trans (h q)⟩
theorem J9{ho:Nat->List bF}{row:Row}{r:List Row}{bo:List Nat}{q:Key}(au:∀c7,row≠.yield c7):q∈outs ho (row::r) bo↔∃uc∈kY ho row bo,q∈outs ho r uc:=by
 cases row with
 |yield c7=>exact absurd rfl (au c7)
 |same a b=>
  by_cases e:bo.getD a 0=bo.getD b 0
  ·rw[show outs ho (.same a b::r) bo=outs ho r bo from a3 e,show kY ho (.same a b) bo=[bo]from a3 e]
   exact⟨λh=>⟨_,.head _,h⟩,λh=>aG h λ_ aR h=>cK.mp aR▸h⟩
  ·rw[show outs ho (.same a b::r) bo=[]from bq e,show kY ho (.same a b) bo=[]from bq e]
   exact⟨λh=>absurd h f7,λh=>aG h λ_ aR _=>absurd aR f7⟩
 |bind pl o many first=>exact List.mem_flatMap.trans ⟨λh=>aG h λx ar aL=>⟨_,b5.mpr ⟨x,ar,rfl⟩,aL⟩,λh=>aG h λ_ aR aL=>aG (b5.mp aR) λx ar e=>⟨x,ar,e▸aL⟩⟩
theorem O2{be:Type}{K:Prop}{P:be->Prop}{kS:List be}{g:be}:((K\/P g)\/∃a∈kS,P a)↔K\/∃a∈kS++[g],P a:=
 ⟨λh=>h.elim (λh=>h.imp id λh=>⟨g,iJ _ (.head _),h⟩) λh=>.inr (aG h λa m h=>⟨a,i6 _ m,h⟩),λh=>h.elim (λh=>.inl (.inl h)) λh=>aG h λa m h=>(er.mp m).elim (λm=>.inr ⟨a,m,h⟩) λm=>.inl (.inr (cK.mp m▸h))⟩
theorem O3{be:Type}{K:Prop}{P:be->Prop}:K↔K\/∃a∈([]:List be),P a:=⟨.inl,λh=>h.elim id λh=>aG h λ_ m _=>absurd m f7⟩
section
variable{U:List bF}{told done:List (Nat×Nat)}{h:cv}(O:Ok U told done h){az:aa}{bH bw:Nat->Nat}{ks:List Nat}{B:Nat}{pr:List (Nat×bG)}(H:b8 az U h bH bw ks B pr){ls k:Nat}(hk:∀ao,Pre az ao->hy ao 217 ls=some (k,([("heap",.obj 4)]:List (Str×D)))) {rows:List Row} (jb:rows.length<=100) {cq b6:Nat}
include O
theorem X3{n:Nat}{row:Row}{r:List Row}{bo:List Nat}(hn:q8 n (row::r))(bc:∀c7,row≠.yield c7)(aH:bo.length=n)(ax:∀c∈bo,c∈gM U h):
  n<=100/\Er (gM U h) bo row/\(kY (gg U h) row bo).length<=4/\∃sl,n<=sl/\q8 sl r/\∀uc∈kY (gg U h) row bo,uc.length=sl/\∀c∈uc,c∈gM U h:=by
 have av:∀j,j<bo.length->bo.getD j 0∈gM U h:=λj bn=>ax _ (eN (rU bn))
 cases row with
 |yield c7=>exact absurd rfl (bc c7)
 |same a b=>
  refine qc hn λbV ai ak aV=>?_;clear hn
  refine⟨bV,⟨by lia,by lia⟩,?_,n,bD _,aV,λuc au=>?_⟩
  ·by_cases e:bo.getD a 0=bo.getD b 0
   ·rw[show kY (gg U h) (.same a b) bo=[bo]from a3 e];exact fi (es _)
   ·rw[show kY (gg U h) (.same a b) bo=[]from bq e];exact es _
  ·by_cases e:bo.getD a 0=bo.getD b 0
   ·rw[show kY (gg U h) (.same a b) bo=[bo]from a3 e]at au
    exact cK.mp au▸⟨aH,ax⟩
   ·rw[show kY (gg U h) (.same a b) bo=[]from bq e]at au
    exact absurd au f7
 |bind pl o many first=>
  refine Zh hn λbV ai ak aV bL=>?_;clear hn
  have aF:=av pl (by lia)
  refine fV (zD O aF) λ_ bY Eb=>?_
  refine⟨bV,⟨by lia,by lia,aV,aF⟩,?_,n+many,by lia,bL,λuc au=>?_⟩
  ·exact aO (cB (bR _)) (aO (List.length_filter_le _ _) bY)
  ·refine aG (b5.mp au) λx ar bC=>?_;subst bC
   refine bU (jj.mp ar) λID Ss=>?_
   refine eB ((Eb x).mp ID) λi hi _ b3=>?_;subst b3
   have:=(hU Ss).2
   refine⟨by simp only[dO,List.length_take];lia,λc hP=>?_⟩
   exact(er.mp hP).elim (λq=>ax c (List.mem_of_mem_take q)) (Hn O hi c)
include H hk jb
theorem WO:∀(rs:List Row) (at_:Nat) (n:Nat) (items:List (List Nat)) (W:List (Nat×List Nat)) (K:Key->Prop) (lT:List Key) (m:aK) (C:aa) (aN:List (List D×D)) (F:List Key) (Q:ca×aK×aa->Prop),
  rows.drop at_=rs->q8 n rs->0<n->(∀g∈items,g.length=n/\∀c∈g,c∈gM U h)->W.length+items.length+4*rs.length+10<lim->(∀g∈items,∀q∈outs (gg U h) rs g,q∈lT)->(∀q,K q->q∈lT)->lT.length<=lim->
  iP az C cq b6 aN ((W++items.map λg=>(at_,g)).map iE)->nj K aN F->oZ ls rows cq b6 m->
  (∀bh ao mX fP,oZ ls rows cq b6 bh->iP az ao cq b6 mX (W.map iE)->nj (λq=>K q\/∃g∈items,q∈outs (gg U h) rs g) mX fP->kK xc s4 bh ao Q)->
  kK xc s4 m C Q:=by
 intro rs
 induction rs with
 |nil=>intro at_ n items W K lT m C aN F Q _ hn;exact absurd hn id
 |cons row cX SK=>
  intro at_ n items
  induction eA:items.length generalizing items with
  |zero=>
   intro W K lT m C aN F Q hd hn aH av aw aD l3 dQ R X aR aq
   obtain rfl:=List.length_eq_zero_iff.mp eA
   exact aq m C aN F aR (List.append_nil W▸R) (X.congr λq=>O3)
  |succ j SI=>
   intro W K lT m C aN F Q hd hn aH av aw aD l3 dQ R X aR aq
   refine iH (show∃kS g,items=kS++[g]from(List.eq_nil_or_concat items).elim (λe=>absurd (eA.symm.trans (bb List.length e)) (Nat.succ_ne_zero j)) λh=>iH h λa b e=>⟨a,b,e.trans List.concat_eq_append⟩) λkS g mm=>?_;subst mm
   have BV:g∈kS++[g]:=iJ _ (.head _)
   refine bU (av g BV) λg1 g2=>?_
   have a0:rows[at_]?=some row:=(Nat.add_zero at_▸List.getElem?_drop:(rows.drop at_)[0]?=rows[at_]?).symm.trans (bb (λl:List Row=>l[0]?) hd)
   have cW:rows.drop (at_+1)=cX:=by rw[←List.tail_drop,hd];rfl
   simp only[dO,fX,List.length_nil]at eA aw
   have Ie:(W++(kS++[g]).map λg=>(at_,g)).map iE=(W++kS.map λg=>(at_,g)).map iE++[iE (at_,g)]:=by
    rw[fv (f:=λg=>(at_,g)),←List.append_assoc,fv];rfl
   have a5:iP az C cq b6 aN ((W++kS.map λg=>(at_,g)).map iE++[iE (at_,g)]):=Ie▸R
   have e1:((W++kS.map λg=>(at_,g)).map iE++[iE (at_,g)])≠[]:=λe=>List.cons_ne_nil _ _ (List.append_eq_nil_iff.mp e).2
   have nL:=EM (m:=m) a5.ww (by refine iH aR λa b cj=>?_;clear aR;subst cj;rfl) (Ie▸S0 _)
   rw[fu e1]at nL
   have HP:=a5.up (.app [bG.list []])
   have ZN:((W++kS.map λg=>(at_,g)).map iE).length=W.length+kS.length:=by rw[bR,dO,bR]
   have H3:∀(nr:Key->Prop),(∀q,nr q↔K q\/q∈outs (gg U h) (row::cX) g)->∀bh ao mX fP,oZ ls rows cq b6 bh->iP az ao cq b6 mX ((W++kS.map λg=>(at_,g)).map iE)->nj nr mX fP->kK xc s4 bh ao Q:=by
    intro nr HL bh ao mX fP f5 gK kj
    refine SI kS (by lia) W nr lT bh ao mX fP Q hd hn aH (λa aC=>av a (i6 _ aC)) (by simp only[fX];lia) (λa aC=>aD a (i6 _ aC)) (λq aL=>?_) dQ gK kj f5 λmZ h7 Da nh r5 o3 AD=>aq mZ h7 Da nh r5 o3 (AD.congr λq=>?_)
    ·exact((HL q).mp aL).elim (l3 q) (aD g BV q)
    ·exact(or_congr_left (HL q)).trans (O2 (P:=λg=>q∈outs (gg U h) (row::cX) g))
   cases mR:row with
   |yield c7=>
    subst mR
    refine fV hn λiZ ip sr=>?_;clear hn
    have hN:aN.length<=lim:=by
     refine aO (cB ((bR _).symm.trans ((bb List.length X.eq).trans (bR _)))) ?_
     exact aO (sq X.U λq aL=>l3 q ((X.mem q).mp aL)) dQ
    refine b2 (YE H hk jb HP (by lia) aR a0 (by lia) (by lia) (λp aF=>by rw[g1];exact sr p aF) ip hN) λbh ao e f5 gK=>?_
    refine a6 (X.put (keyOf c7 g) (.bool true)) λfP kj=>?_
    exact kK.turn nL e (H3 _ (λq=>or_congr_right cK.symm) bh ao _ fP f5 gK kj)
   |_=>
    have bc:∀c7,row≠.yield c7:=λc7 e=>by rw[mR]at e;cases e
    refine bU (X3 O hn bc g1 g2) λf0 cA=>?_;refine bU cA λf1 cQ=>?_;clear cA;refine bU cQ λf2 db=>?_;clear cQ;refine eB db λsl fn vm f4=>?_;clear db
    refine b2 (YD O H hk jb HP (by lia) aR a0 (by lia) f1 f2) λbh ao e f5 gK=>?_
    refine kK.turn nL e (SK (at_+1) sl (kY (gg U h) row g) (W++kS.map λg=>(at_,g)) K lT bh ao aN F Q cW vm (by lia) f4 (by simp only[dO,bR];lia) (λa aC q aL=>aD g BV q ((J9 bc).mpr ⟨a,aC,aL⟩)) l3 dQ (by
     rw[fv,fj];exact gK) X f5 λmZ h7 Da nh r5 o3 AD=>H3 _ (λq=>?_) mZ h7 Da nh r5 o3 AD)
    rw[J9 bc]
end
theorem DO{p:Str×Nat}(h:PyData.strOk p.1=true):(pairD p).cO=true:=(Bool.and_true _).trans h
theorem Gg{p q:Str×Nat}(aF:PyData.strOk p.1=true)(aL:PyData.strOk q.1=true):ll (pairD p) (pairD q)=true:=
 ha.mpr ⟨ha.mpr ⟨aF,aL⟩,(zc (Gi [p.2] [q.2]):(if D.str p.1=D.str q.1 then kM ([p.2].map ah) ([q.2].map ah)else true)=true)⟩
theorem Od(a b:List (Str×Nat))(aC:∀p∈a,PyData.strOk p.1=true)(ab:∀p∈b,PyData.strOk p.1=true):kM (a.map pairD) (b.map pairD)=true:=by
 induction a generalizing b with
 |nil=>cases b<;>rfl
 |cons p a aE=>
  cases b with
  |nil=>rfl
  |cons q b=>
   have aF:=aC p (.head _)
   have aL:=ab q (.head _)
   refine ha.mpr ⟨ha.mpr ⟨DO aF,DO aL⟩,?_⟩
   by_cases e:pairD p=pairD q
   ·exact(a3 e).trans (aE b (λx ar=>aC x (.tail _ ar)) λx ar=>ab x (.tail _ ar))
   ·exact(bq e).trans (Gg aF aL)
theorem I1{q:Key}(h:∀p∈q.2,PyData.strOk p.1=true):(ii q).cO=true/\(ii q).depth<=8:=by
 refine bU (zh h) λai ak=>?_
 simp only[ii,kq,ah,sd,se,sf,lB,lA,ai,rI,rJ,rK,qw,qv,Bool.and_true,true_and]
 lia
theorem Ob{a b:Key}(aC:∀p∈a.2,PyData.strOk p.1=true)(ab:∀p∈b.2,PyData.strOk p.1=true):ll (ii a) (ii b)=true:=by
 have ai:(D.tup (a.2.map pairD)).cO=true:=(zh aC).1
 have ak:(D.tup (b.2.map pairD)).cO=true:=(zh ab).1
 refine(zc ?_:(if ah a.1=ah b.1 then kM [.tup (a.2.map pairD)] [.tup (b.2.map pairD)]else true)=true)
 refine ha.mpr ⟨ha.mpr ⟨ai,ak⟩,?_⟩
 by_cases e:D.tup (a.2.map pairD)=.tup (b.2.map pairD)
 ·exact a3 e
 ·exact(bq e).trans (Od _ _ aC ab)
theorem Tc{a b:Key}(h:ii a=ii b):a=b:=IZ (D.tup.inj h)
theorem zE{be dh:Type}{f:be->dh}(hf:∀a b,f a=f b->a=b){l:List be}(h:l.Nodup):(l.map f).Nodup:=List.Pairwise.map f (λa b e1 e=>e1 (hf a b e)) h
theorem I3{F:List Key}(aH:F.Nodup)(aw:F.length<64)(aD:∀q∈F,∀p∈q.2,PyData.strOk p.1=true):gw (F.map ii)=true:=
 z0 (zE (λ_ _=>Tc) aH) (by simpa using aw) (λd hd=>by refine aG (b5.mp hd) λq aL a2=>?_;subst a2;exact I1 (aD q aL))
  (λx ar y bc=>by refine aG (b5.mp ar) λa aC bC=>?_;subst bC;refine aG (b5.mp bc) λb ab bY=>?_;subst bY;exact Ob (aD a aC) (aD b ab)) (.inr (.inl λd hd=>by refine aG (b5.mp hd) λq aL b3=>?_;subst b3;rfl))
theorem XU{F G:List Key}(hN:F.Nodup)(pB:G.Nodup)(h:∀q,q∈F↔q∈G):dN (F.map ii)=dN (G.map ii):=
 CZ (((List.perm_ext_iff_of_nodup hN pB).mpr h).map ii)
section
variable{U:List bF}{told done:List (Nat×Nat)}{h:cv}(O:Ok U told done h){az:aa}{bH bw:Nat->Nat}{ks:List Nat}{B:Nat}{pr:List (Nat×bG)}(H:b8 az U h bH bw ks B pr){ls k:Nat}(hk:∀ao,Pre az ao->hy ao 217 ls=some (k,([("heap",.obj 4)]:List (Str×D)))) {rows:List Row} (jb:rows.length<=100)
include O H hk jb
theorem WP(hn:q8 1 rows){G:List Key}(pB:G.Nodup)(av:∀q,q∈G↔∃c∈gM U h,q∈outs (gg U h) rows [c])(aw:G.length<64)(aD:∀q∈G,∀p∈q.2,PyData.strOk p.1=true):
  d5 az (vx [.obj ls,.tup (rows.map h4)]) (dN (G.map ii)):=λC p=>by
 haveI aT:Pre C (C++[.du []]):=.app _
 haveI fR:(gM U h).length<=6:=aO (List.length_filter_le _ _) (by rw[fW];exact O.six)
 haveI jx:d5 az (ea (c9 (dy 429 "classes" (cn 217 "heap" (aj 0)) aJ vv)) [none,none] (b9 1) ef (dL Bu) [some (.obj ls),some (.tup (rows.map h4)),some (.obj C.length),none,none,none,none,none]) (((gM U h).map λc=>(0,[c])).map iE):=by
  haveI:=lD (az:=az) (m:=[some (.obj ls),some (.tup (rows.map h4)),some (.obj C.length),none,none,none,none,none]) (dk:=c9 (dy 429 "classes" (cn 217 "heap" (aj 0)) aJ vv)) (cw:=[none,none]) (i:=1) (e:=Bu) (gx:=λd=>.tup [.int 0,.tup [d]])
   (wq (tM (oK H.lay) ag (mo hk (d:=.obj 4) ag (bP rfl)) sy (N7 H O.six O.inv.down O.inv.len))) (λd hd=>m5 (mq dI (fs (m5 (fs (bP rfl)))))) (by rw[bR];unfold lim;exact aO fR ag)
  rw[fj]at this
  rw[fj]
  exact this
 refine fh (jx _ (p.trans aT)) λb6 a8 bf bx a9 qO=>?_
 haveI R:iP C a8 C.length b6 [] (((gM U h).map λc=>(0,[c])).map iE):=⟨aT.trans bx,bx _ _ (fx _),a9,bD _,aO aT.len qO,by rw[dO]at qO;simp only[fX]at qO;lia⟩
 haveI X:nj (λ_=>False) [] []:=⟨rfl,.nil,λq=>by simp⟩
 haveI au:=WO O (H.pre p) (λao gi=>hk ao (p.trans gi)) jb rows 0 1 ((gM U h).map λc=>[c]) [] (λ_=>False) G [some (.obj ls),some (.tup (rows.map h4)),some (.obj C.length),some (.obj b6),none,none,none,none] a8 [] []
  (λr=>∃bh ao aN F,r=(.next,bh,ao)/\oZ ls rows C.length b6 bh/\iP C ao C.length b6 aN []/\nj (λq=>q∈G) aN F) rfl hn ag (λg g4=>by refine aG (b5.mp g4) λc ax cj=>?_;subst cj;exact⟨rfl,λez hP=>by rw[cK.mp hP];exact ax⟩)
  (by simp only[List.length_nil,bR,lim];lia) (λg g4 q aL=>by refine aG (b5.mp g4) λc ax cA=>?_;subst cA;exact(av q).mpr ⟨c,ax,aL⟩) (λ_ q=>q.elim) (by unfold lim;lia) (by simpa [Function.comp_def] using R) X ⟨_,_,rfl⟩
  λbh ao mX fP f5 gK kj=>by
   haveI bK:=EM (m:=bh) gK.ww (by refine iH f5 λa b cQ=>?_;clear f5;subst cQ;rfl) ⟨rfl,es _⟩
   refine⟨_,xi bK,bh,_,mX,fP,rfl,f5,gK.up (.app _),kj.congr λq=>?_⟩
   rw[av]
   simp only[false_or,b5]
   exact⟨λ⟨_,⟨a,aC,e⟩,aL⟩=>⟨a,aC,by rw[e];exact aL⟩,λ⟨c,ax,aL⟩=>⟨_,⟨c,ax,rfl⟩,aL⟩⟩
 refine a6 au λ_ db=>?_;clear au;refine bU db λcY d0=>?_;clear db;refine LP d0 λbh cg aN F eF f5 gK kj=>?_;clear d0;subst eF
 haveI aZ:aN.map (λp=>D.tup p.1)=F.map ii:=by
  haveI:=bb (List.map D.tup) kj.eq
  rw[fj,fj]at this
  exact this
 haveI eE:=I3 kj.U (by rw[(List.perm_ext_iff_of_nodup kj.U pB).mpr kj.mem|>.length_eq];exact aw) λq aL=>aD q ((kj.mem q).mp aL)
 refine⟨cg.length,cg++[.list (dN (G.map ii))],?_,gK.pre.trans (.app _),fx _,gK.pre.len⟩
 refine iH f5 λa b ff=>?_;clear f5;subst ff
 exact gN (c3:=.ret (.obj cg.length)) rfl (eg rfl rfl (eg bf rfl (jJ cY (iI (x_call (cp (a:=.obj C.length) rfl) ((XW gK.vo (aZ▸eE)).trans (by rw[aZ,XU kj.U pB kj.mem])))))))
end
noncomputable def jH(x:Str):Prop:=x="?x"\/x="?y"
noncomputable def su(o:Str):Prop:=o="a"\/o="b"\/o="c"\/o="f"\/o="g"
mutual
noncomputable def eo:br->Prop
 |.var x=>jH x
 |.op o ks=>su o/\ks.length<=2/\nV ks
noncomputable def nV:List br->Prop
 |[]=>True
 |k::ks=>eo k/\nV ks
end
mutual
noncomputable def co:br->D
 |.var x=>.tup [.str x]
 |.op o ks=>.tup (.str o::kw ks)
noncomputable def kw:List br->List D
 |[]=>[]
 |k::ks=>co k::kw ks
end
theorem nT(ks:List br):kw ks=ks.map co:=by
 induction ks with
 |nil=>rfl
 |cons k ks aE=>exact bb (co k:: ·) aE
theorem t6{ks:List br}(h:nV ks):∀k∈ks,eo k:=by
 induction ks with
 |nil=>exact ka
 |cons a ks aE=>exactλk aq=>(dS.mp aq).elim (λe=>e▸h.1) (aE h.2 k)
theorem ur{x:Str}(h:jH x):PyData.strOk x=true:=by rcases h with rfl|rfl<;>decide+kernel
theorem LF{c:Prop}[Decidable c]:jH (if c then"?y" else"?x"):=by
 by_cases e:c
 ·rw[a3 e];exact .inr rfl
 ·rw[bq e];exact .inl rfl
theorem oN{x:Str}(h:su x):PyData.strOk x=true:=by rcases h with rfl|rfl|rfl|rfl|rfl<;>decide+kernel
theorem LC{x y:Str}(e:uh x 1=y)(aw:y.length<=lim)(C:aa):uq (.str x) (.int 1) C=some (.str y,C):=by
 subst e;exact a3 aw
theorem ET{x:Str}(h:jH x)(C:aa):uq (.str x) (.int 1) C=some (.str "?",C):=by rcases h with rfl|rfl<;>exact LC (by decide+kernel) (by decide+kernel) C
theorem ES{x:Str}(h:su x)(C:aa):uq (.str x) (.int 1) C=some (.str x,C):=by rcases h with rfl|rfl|rfl|rfl|rfl<;>exact LC (by decide+kernel) (by decide+kernel) C
theorem zH{x:Str}(h:su x):D.str x≠.str "?":=by rcases h with rfl|rfl|rfl|rfl|rfl<;>decide
theorem sb{x:Str}(h:PyData.strOk x=true)(C:aa):he .Eq (.str x) (.str "?") C=some (decide (D.str x=.str "?")):=p7 h (by decide+kernel) C
noncomputable def isVar:br->Bool
 |.var _=>true
 |.op _ _=>false
section
variable{az:aa}{m:aK}{f g:aY (D×aa)}{b:Bool}{d:D}
theorem Eh(ai:Run az (f m) (.bool b))(ak:b=true->Run az (g m) d)(aV:b=false->d=.bool false):Run az (xG f g m) d:=by
 cases b with
 |true=>exact p2 ai (ak rfl)
 |false=>cases aV rfl;exact p2 ai dI
theorem IP{t:br}(h:eo t):Run az (vE [co t]) (.bool (isVar t)):=by
 cases t with
 |var x=>
  refine oz rfl (ot (Eh (b:=true) (t9 (h3 (a:=ah 1) (d:=ah 1) (sx (xs:=[.str x]) (bP rfl) (by simp[lim])) dI λao _=>(va 1 1 ao).trans (bb some ag))) (λ_=>t9 (h3 (sz (e2 (v:=.str x) (bP rfl) dI λ_ _=>rfl) dI (ET h)) dI λao _=>(sb (by decide+kernel) ao).trans (bb some (dT rfl)))) (λe=>by cases e)))
 |op o ks=>
  haveI aw:(D.str o::kw ks).length=ks.length+1:=by rw[nT];simp
  refine oz rfl (ot (Eh (b:=decide (ah (D.str o::kw ks).length=ah 1)) (t9 (h3 (sx (xs:=.str o::kw ks) (bP rfl) (by rw[aw];haveI:=h.2.1;unfold lim;lia)) dI λao _=>va _ 1 ao)) (λ_=>t9 (h3 (sz (e2 (v:=.str o) (bP rfl) dI λ_ _=>rfl) dI (ES h.1)) dI λao _=>(sb (oN h.1) ao).trans (bb some (fu (zH h.1))))) (λ_=>rfl)))
end
noncomputable def re:D->Str×Nat
 |.tup [.str x,.int i]=>(x,i.toNat)
 |_=>(Str.empty,0)
theorem EQ(p:Str×Nat):re (pairD p)=p:=Prod.ext rfl (Int.toNat_natCast p.2)
def g7(l:List (Str×Nat)):List (Str×Nat):=(dN (l.map pairD)).map re
theorem xb(l:List (Str×Nat)):dN (l.map pairD)=(g7 l).map pairD/\(g7 l).Perm l:=by
 haveI aF:=oI (l.map pairD)
 refine a6 (t4 (f:=pairD) (l:=dN (l.map pairD)) λd hd=>by
  obtain ⟨x,_,rfl⟩:=b5.mp (aF.mem_iff.mp hd)
  exact⟨x,rfl⟩) λxs ar=>?_
 haveI e:g7 l=xs:=by unfold g7;rw[ar,fj,show re∘pairD=id from funext EQ,List.map_id]
 refine⟨by rw[e,ar],?_⟩
 haveI:=aF.map re
 rw[fj,show re∘pairD=id from funext EQ,List.map_id]at this
 exact this
theorem Dw{l:List (Str×Nat)}{p:Str×Nat}:p∈g7 l↔p∈l:=(xb l).2.mem_iff
section
mutual
theorem DR:∀t:br,eo t->(co t).cO=true/\(co t).depth<=t.size
 |.var x,h=>by
  haveI:=ur h
  simp only[co,sd,se,sf,lB,lA,Bool.and_true,rI,rJ,rK,qw,qv,br.size]
  exact⟨this,by lia⟩
 |.op o ks,h=>by
  haveI ai:=oN h.1
  refine bU (Kg ks h.2.2) λak aV=>?_
  simp only[co,sd,se,sf,lB,lA,rI,rJ,rK,qw,qv,br.size,ak,Bool.and_true]
  exact⟨ai,by lia⟩
theorem Kg:∀ks:List br,nV ks->D.da (kw ks)=true/\D.ew (kw ks)<=br.m8 ks
 |[],_=>⟨rfl,bD _⟩
 |k::ks,h=>by
  refine bU (DR k h.1) λai ak=>?_
  refine bU (Kg ks h.2) λaV bL=>?_
  simp only[kw,lB,lA,ai,aV,Bool.and_self,qw,qv,br.m8,true_and]
  lia
end
def mu(q:Nat×br):D:=.tup [ah q.1,co q.2]
theorem Y2{W:List (Nat×br)}(h:∀q∈W,eo q.2/\q.2.size<=18):D.da (W.map mu)=true/\D.ew (W.map mu)<=20:=by
 refine⟨pV.mpr λd hd=>aG (b5.mp hd) λq aL e=>e▸?_,pv.mpr λd hd=>aG (b5.mp hd) λq aL e=>e▸?_⟩
 ·exact(Bool.and_true _).trans (DR _ (h q aL).1).1
 ·exact fi (Nat.max_le.mpr ⟨es _,Nat.max_le.mpr ⟨aO (DR _ (h q aL).1).2 (aO (h q aL).2 ag),es _⟩⟩)
structure hX(az C:aa)(dr cD b6:Nat)(rs:List Row)(pl:List (Str×Nat))(W:List (Nat×br)):Prop where
 pre:Pre az C
 jg:C[dr]?=some (.list (rs.map h4))
 pp:C[cD]?=some (.ee (pl.map λq=>(q.1,ah q.2)))
 ww:C[b6]?=some (.list (W.map mu))
 au:az.length<=dr
 aF:az.length<=cD
 hw:az.length<=b6
 zU:dr≠cD
 rw:dr≠b6
 oQ:cD≠b6
section
variable{az C ao:aa}{dr cD b6:Nat}{rs:List Row}{pl:List (Str×Nat)}{W:List (Nat×br)}(R:hX az C dr cD b6 rs pl W)
include R
theorem hX.up(p:Pre C ao):hX az ao dr cD b6 rs pl W:={R with pre:=R.pre.trans p,jg:=p _ _ R.jg,pp:=p _ _ R.pp,ww:=p _ _ R.ww}
theorem hX.K5(KW):hX az (C.set dr (.list (KW.map h4))) dr cD b6 KW pl W:={R with pre:=R.pre.set R.au _,jg:=gT R.jg,pp:=by rw[k0 R.zU];exact R.pp,ww:=by rw[k0 R.rw];exact R.ww}
theorem hX.ud(Kj):hX az (C.set cD (.ee (Kj.map λq=>(q.1,ah q.2)))) dr cD b6 rs Kj W:={R with pre:=R.pre.set R.aF _,jg:=by rw[k0 (Ne.symm R.zU)];exact R.jg,pp:=gT R.pp,ww:=by rw[k0 R.oQ];exact R.ww}
theorem hX.p6(uP):hX az (C.set b6 (.list (uP.map mu))) dr cD b6 rs pl uP:={R with pre:=R.pre.set R.hw _,jg:=by rw[k0 (Ne.symm R.rw)];exact R.jg,pp:=by rw[k0 (Ne.symm R.oQ)];exact R.pp,ww:=gT R.ww}
end
def jv(t:D)(dr cD b6 first:Nat)(a b c:Option D):aK:=[some t,some (.obj dr),some (.obj cD),some (.obj b6),some (ah first),a,b,c,none,none,none,none,none]
noncomputable abbrev oj(t:D)(dr cD b6 first:Nat)(m:aK):Prop:=∃a b c,m=jv t dr cD b6 first a b c
theorem BS(x:Str)(l:List (Str×Nat)):dM (l.map λq=>(q.1,ah q.2)) x=(l.lookup x).map ah:=BQ (f:=id) (λ_ _ h=>h) x l
theorem zK{K:Type}[DecidableEq K]{aN:List (K×D)}{k:K}{d:D}(h:dM aN k=none):putK aN k d=aN++[(k,d)]:=by
 unfold putK
 rw[bq]
 intro q
 unfold dM at h
 rw[Option.map_eq_none_iff,List.find?_eq_none]at h
 refine aG (List.any_eq_true.mp q) λx ar e=>?_
 exact h x ar e
theorem Zp(first:Nat)(ks:List br):((List.range ks.length).map ah).map (λd=>D.tup [ah (first+gk d),((kw ks).getD (gk d) .none)])=(ks.zipIdx.map λp=>(first+p.2,p.1)).map mu:=by
 apply List.ext_getElem?
 intro i
 simp only[iM,List.getElem?_zipIdx,Nat.zero_add]
 by_cases h:i<ks.length
 ·simp only[List.getElem?_range h,Option.map_some,i4,gz h,mu,nT]
  simp[List.getD,h]
 ·simp[lM (Nat.le_of_not_lt h)];lia
end
section
variable{az:aa}{dr cD b6:Nat}
theorem Lu{C:aa}{rs:List Row}{hp:List (Str×Nat)}{W:List (Nat×br)}{pl first:Nat}{x:Str}{gF:D}{m:aK}(R:hX az C dr cD b6 rs hp ((pl,.var x)::W))(ar:jH x)(aR:oj gF dr cD b6 first m)(aw:W.length+rs.length+hp.length+10<=lim):
  ∃bh ao,ry m C=some (.next,bh,ao)/\oj gF dr cD b6 first bh/\(match hp.lookup x with
   |none=>hX az ao dr cD b6 rs (hp++[(x,pl)]) W
   |some q=>hX az ao dr cD b6 (rs++[.same pl q]) hp W):=by
 refine sF aR λa b c a2=>?_;clear aR;subst a2
 haveI nx:=R.p6 W
 haveI aU:Run az (p0 (qa (bW (ay (aj 6) aJ) vE)) (jv gF dr cD b6 first (some (ah pl)) (some (co (.var x))) c)) false:=
  Ei (b:=true) (Ej (w2 (fs (bP rfl)) (IP (t:=.var x) ar)))
 refine aG (aU _ nx.pre) λa8 bf bx=>?_
 haveI jp:=nx.up bx
 haveI qS:=gU (T:="list") (e:=aj 3) (bM:=ay (a7 (.int 0)) aJ) (m:=(jv gF dr cD b6 first a b c)) rfl (h5 R.ww) rfl (Kn R.ww (by rw[bR];lia))
 haveI qM:∀ao,hX az ao dr cD b6 rs hp W->cP .In (bX (aj 6) (a7 (.int 0))) (aj 2) (jv gF dr cD b6 first (some (ah pl)) (some (co (.var x))) c) ao=some ((hp.lookup x).isSome,ao):=λao gK=>by
  exact fF (a:=.str x) rfl rfl ((SN gK.pp).trans (by rw[BS,Option.isSome_map]))
 cases oE:hp.lookup x with
 |none=>
  refine⟨(jv gF dr cD b6 first (some (ah pl)) (some (co (.var x))) c),a8.set cD (.ee ((hp++[(x,pl)]).map λq=>(q.1,ah q.2))),eg qS rfl (h6 bf (h6 (c:=cP .In _ _) ((qM _ jp).trans (by rw[oE];rfl)) (eg (d:=ah pl) (aB:=a8) (a8:=a8.set cD (.ee ((hp++[(x,pl)]).map λq=>(q.1,ah q.2)))) rfl ?_ rfl) rfl) rfl),⟨_,_,_,rfl⟩,jp.ud _⟩
  haveI cZ:(hp.map λq=>(q.1,ah q.2)).length<=lim:=by rw[bR];lia
  exact ck ((K0 jp.pp cZ).trans (by rw[zK (by rw[BS,oE];rfl),fv];rfl))
 |some q=>
  haveI mR:dd (ay (a7 (.str "same")) (ay (aj 5) (ay (bX (aj 2) (bX (aj 6) (a7 (.int 0)))) aJ))) (jv gF dr cD b6 first (some (ah pl)) (some (co (.var x))) c) a8=some (h4 (.same pl q),a8):=by
   haveI:iW (.obj cD) (.str x) a8=some (ah q):=zW jp.pp (by rw[BS,oE];rfl)
   haveI ak:bX (aj 2) (bX (aj 6) (a7 (.int 0))) (jv gF dr cD b6 first (some (ah pl)) (some (co (.var x))) c) a8=some (ah q,a8):=by
    exact kZ (d:=.str x) rfl rfl this
   exact hC (eC rfl (eC (d:=ah pl) rfl (cp ak)))
  haveI vR:=gU (T:="list") (e:=aj 1) (a:=.obj dr) rfl (h5 jp.jg) (cp mR) (lh jp.jg (by rw[bR];lia))
  refine⟨(jv gF dr cD b6 first (some (ah pl)) (some (co (.var x))) c),a8.set dr (.list (rs.map h4++[h4 (.same pl q)])),eg qS rfl (h6 bf (ux (c:=cP .In _ _) ((qM _ jp).trans (by rw[oE];rfl)) (g9 vR rfl) rfl) rfl),⟨_,_,_,rfl⟩,?_⟩
  haveI:=jp.K5 (rs++[.same pl q])
  rw[fv]at this
  exact this
theorem YC{C:aa}{rs:List Row}{hp:List (Str×Nat)}{W:List (Nat×br)}{pl first:Nat}{o:Str}{ks:List br}{gF:D}{m:aK}(R:hX az C dr cD b6 rs hp ((pl,.op o ks)::W))(ar:eo (.op o ks))(aR:oj gF dr cD b6 first m)(aw:W.length+rs.length+hp.length+10<=lim):
  ∃bh ao,ry m C=some (.next,bh,ao)/\oj gF dr cD b6 (first+ks.length) bh/\hX az ao dr cD b6 (rs++[.bind pl o ks.length first]) hp (W++ks.zipIdx.map λp=>(first+p.2,p.1)):=by
 refine sF aR λa b c a9=>?_;clear aR;subst a9
 haveI eQ:=ar.2.1
 haveI nx:=R.p6 W
 haveI cZ:(D.str o::kw ks).length=ks.length+1:=by rw[nT,fX,bR]
 haveI aU:Run az (p0 (qa (bW (ay (aj 6) aJ) vE)) (jv gF dr cD b6 first (some (ah pl)) (some (co (.op o ks))) c)) true:=
  Ei (b:=false) (Ej (w2 (fs (bP rfl)) (IP (t:=.op o ks) ar)))
 refine aG (aU _ nx.pre) λa8 bf bx=>?_
 haveI jp:=nx.up bx
 haveI qS:=gU (T:="list") (e:=aj 3) (bM:=ay (a7 (.int 0)) aJ) (m:=(jv gF dr cD b6 first a b c)) rfl (h5 R.ww) rfl (Kn R.ww (by rw[bR];lia))
 haveI RD:Run az (et .Sub (bW (ay (aj 6) aJ) ek) (a7 (.int 1)) (jv gF dr cD b6 first (some (ah pl)) (some (co (.op o ks))) c)) (ah ks.length):=
  oS (sx (xs:=.str o::kw ks) (bP rfl) (by rw[cZ];unfold lim;lia)) dI λao _=>by
   rw[cZ]
   refine(?_:some (D.int (((ks.length+1:Nat):Int)-1),ao)=some (D.int (ks.length:Int),ao))
   rw[Int.natCast_succ,Int.add_sub_cancel]
 refine aG (RD _ jp.pre) λcg cY cx=>?_
 haveI o4:=jp.up cx
 haveI vR:=gU (T:="list") (e:=aj 1) (bM:=ay (dd (ay (a7 (.str "bind")) (ay (aj 5) (ay (bX (aj 6) (a7 (.int 0))) (ay (aj 7) (ay (aj 4) aJ)))))) aJ) (J:=[h4 (.bind pl o ks.length first)]) (m:=(jv gF dr cD b6 first (some (ah pl)) (some (co (.op o ks))) (some (ah ks.length)))) rfl (h5 o4.jg) rfl (lh o4.jg (by rw[bR];lia))
 haveI xz:=o4.K5 (rs++[.bind pl o ks.length first])
 rw[fv]at xz
 haveI hz:d5 az (ea (kx (ay (aj 7) aJ)) [none,none,some 4,some 6] (b9 1) ef (dL GW) (jv gF dr cD b6 first (some (ah pl)) (some (co (.op o ks))) (some (ah ks.length)))) ((ks.zipIdx.map λp=>(first+p.2,p.1)).map mu):=by
  rw[←Zp]
  refine lD (CS (fs (bP rfl)) (by unfold lim;lia)) (λd hd=>?_) (by simp[lim];lia)
  refine aG (b5.mp hd) λj bn bC=>?_;subst bC
  haveI pK:=ft.mp bn
  rw[i4]
  refine m5 (mq (oS (a:=ah first) (d:=ah j) (bP rfl) (bP rfl) λ_ _=>rfl) (fs (e2 (a:=co (.op o ks)) (d:=ah (j+1)) (bP rfl) (oS (a:=ah j) (bP rfl) dI λ_ _=>rfl) λao _=>?_)))
  refine rd (xs:=.str o::kw ks) ?_ (by lia) ao
  rw[List.getElem?_cons_succ]
  exact rU (by rw[nT,bR];exact pK)
 refine fh (hz _ xz.pre) λl iN iC hQ b3 _=>?_
 haveI Fw:=xz.up hQ
 haveI yD:=gU (T:="list") (e:=aj 3) (a:=.obj b6) rfl (h5 xz.ww) (cp iC) (vl Fw.ww b3 (by simp;lia))
 refine⟨(jv gF dr cD b6 (first+ks.length) (some (ah pl)) (some (co (.op o ks))) (some (ah ks.length))),iN.set b6 (.list (W.map mu++(ks.zipIdx.map λp=>(first+p.2,p.1)).map mu)),eg qS rfl (ux bf (eg cY rfl (g9 vR (g9 yD (eg (d:=ah (first+ks.length)) rfl rfl rfl)))) rfl),⟨_,_,_,rfl⟩,?_⟩
 haveI:=Fw.p6 (W++ks.zipIdx.map λp=>(first+p.2,p.1))
 rw[fv]at this
 exact this
end
theorem LN(W:List (Nat×br)):W.length<=eM W:=by
 induction W with
 |nil=>exact es _
 |cons q W aE=>rw[uu,Nat.add_comm];exact ob aE q.2.pos
theorem Zc{W:List (Nat×br)}{q}(h:q∈W):q.2.size<=eM W:=by
 induction h with
 |head W=>rw[uu];exact hD ..
 |tail p _ aE=>rw[uu];exact aO aE (oX ..)
theorem VA{l:List (Str×Nat)}(aH:(l.map (·.1)).Nodup)(aw:l.length<64)(aD:∀p∈l,PyData.strOk p.1=true):gw (l.map pairD)=true:=
 z0 (zE (λ_ _=>Kd) (zF aH)) (by simpa using aw) (λd hd=>by refine aG (b5.mp hd) λq aL a9=>?_;subst a9;exact⟨DO (aD q aL),Nat.le_of_ble_eq_true rfl⟩)
  (λx ar y bc=>by refine aG (b5.mp ar) λa aC bC=>?_;subst bC;refine aG (b5.mp bc) λb ab bY=>?_;subst bY;exact Gg (aD a aC) (aD b ab)) (.inr (.inr λd hd=>by refine aG (b5.mp hd) λq aL b3=>?_;subst b3;rfl))
theorem PQ(n:Nat)(places:List (Str×Nat))(W:List (Nat×br))(first:Nat)(h:eM W<=n):(fin n places W first).length<=places.length+eM W/\((∀p∈places,jH p.1)->(∀q∈W,eo q.2)->∀p∈fin n places W first,jH p.1):=by
 refine ut (P:=λn places W first=>(fin n places W first).length<=places.length+eM W/\((∀p∈places,jH p.1)->(∀q∈W,eo q.2)->∀p∈fin n places W first,jH p.1)) (λn places first=>?_) (λn places pl x W first ar aE=>?_) (λn places pl x W first q ar aE=>?_) (λn places pl o ks W first aE=>?_) n places W first h
 ·rw[vq];exact⟨hD ..,λh _=>h⟩
 ·rw[yd ar,qb]
  exact⟨aO aE.1 (by rw[dO];exact cB (Nat.add_assoc places.length 1 (eM W)|>.trans (bb (places.length+ ·) (Nat.add_comm 1 _)))),λaF hw=>aE.2 (λp d7=>(er.mp d7).elim (aF p) λq=>cK.mp q▸hw _ (.head _)) λq aL=>hw q (.tail _ aL)⟩
 ·rw[yc ar,qb]
  exact⟨Nat.le_succ_of_le aE.1,λaF hw=>aE.2 aF λq aL=>hw q (.tail _ aL)⟩
 ·rw[xl first]
  exact⟨Nat.le_succ_of_le aE.1,λaF hw=>aE.2 aF (zt (λq aL=>hw q (.tail _ aL)) λi k hi=>t6 (hw _ (.head _)).2.2 k (eN hi))⟩
theorem P0(n:Nat)(places:List (Str×Nat))(W:List (Nat×br))(first:Nat)(h:eM W<=n):(∀q∈W,eo q.2/\q.1<first)->(∀p∈places,jH p.1/\p.2<first)->first+2*eM W+places.length<=100->q8 first (gen g7 n places W first):=by
 refine ut (P:=λn places W first=>(∀q∈W,eo q.2/\q.1<first)->(∀p∈places,jH p.1/\p.2<first)->first+2*eM W+places.length<=100->q8 first (gen g7 n places W first)) (λn places first _ aF aw=>?_) (λn places pl x W first ar aE jx aF aw=>?_) (λn places pl x W first q ar aE jx aF aw=>?_) (λn places pl o ks W first aE jx aF aw=>?_) n places W first h
 ·rw[yr]
  have aw:first+places.length<=100:=aw
  exact⟨aO (hD ..) aw,by rw[(xb places).2.length_eq];exact aO (oX ..) aw,λp d7=>⟨(aF p (Dw.mp d7)).2,ur (aF p (Dw.mp d7)).1⟩⟩
 ·rw[yt g7 ar]
  rw[qb]at aw
  refine aE (λq aL=>jx q (.tail _ aL)) (λp d7=>(er.mp d7).elim (aF p) λq=>cK.mp q▸jx _ (.head _)) ?_
  rw[dO]
  refine aO ?_ aw
  refine(?_:first+2*eM W+(places.length+1)<=first+2*(eM W+1)+places.length)
  lia
 ·rw[ys g7 ar]
  rw[qb]at aw
  exact⟨by lia,(jx _ (.head _)).2,(aF _ (lookup_mem ar)).2,aE (λq aL=>jx q (.tail _ aL)) aF (by lia)⟩
 ·rw[xl first]at aw
  refine bU (jx _ (.head _)) λkf uv=>?_
  have aq:ks.length<=2:=kf.2.1
  refine⟨by lia,uv,rfl,oN kf.1,aE (zt (λq aL=>⟨(jx q (.tail _ aL)).1,Nat.lt_add_right _ (jx q (.tail _ aL)).2⟩) λi k hi=>⟨t6 kf.2.2 k (eN hi),Nat.add_lt_add_left (e4.mp hi).1 _⟩) (λp d7=>⟨(aF p d7).1,Nat.lt_add_right _ (aF p d7).2⟩) (by lia)⟩
theorem HA(n:Nat)(places:List (Str×Nat))(W:List (Nat×br))(first:Nat)(h:eM W<=n):(gen g7 n places W first).length<=eM W+1:=by
 refine ut (P:=λn places W first=>(gen g7 n places W first).length<=eM W+1) (λn places first=>?_) (λn places pl x W first ar aE=>?_) (λn places pl x W first q ar aE=>?_) (λn places pl o ks W first aE=>?_) n places W first h
 ·rw[yr];exact bD _
 ·rw[yt g7 ar,qb];exact Nat.le_succ_of_le aE
 ·rw[ys g7 ar,qb];exact fi aE
 ·rw[xl first];exact fi aE
section
variable{az:aa}{dr cD b6:Nat}
theorem Lk{C:aa}{rs:List Row}{hp:List (Str×Nat)}{W:List (Nat×br)}{m:aK}{gF:D}{first:Nat}(R:hX az C dr cD b6 rs hp W)(aR:oj gF dr cD b6 first m)(jx:∀q∈W,eo q.2/\q.2.size<=18):uj m C=some (!decide (W=[]),C++[.list []]):=by
 have:=EM (m:=m) R.ww (by refine sF aR λa b c cQ=>?_;clear aR;subst cQ;rfl) (Y2 jx)
 rw[show decide (W.map mu=[])=decide (W=[])from decide_eq_decide.mpr List.map_eq_nil_iff]at this
 exact this
theorem VR{gF:D}{Q:ca×aK×aa->Prop}(n:Nat)(places:List (Str×Nat))(W:List (Nat×br))(first:Nat)(h:eM W<=n):∀(rs:List Row) (m:aK) (C:aa),(∀q∈W,eo q.2)->eM W<=18->eM W+rs.length+places.length<=1000->
  hX az C dr cD b6 rs places W->oj gF dr cD b6 first m->
  (∀bh ao body jW,oj gF dr cD b6 jW bh->hX az ao dr cD b6 (rs++body) (fin n places W first) []->gen g7 n places W first=body++[.yield (g7 (fin n places W first))]->kK uj ry bh ao Q)->kK uj ry m C Q:=by
 refine ut (P:=λn places W first=>∀(rs:List Row) (m:aK) (C:aa),(∀q∈W,eo q.2)->eM W<=18->eM W+rs.length+places.length<=1000->
  hX az C dr cD b6 rs places W->oj gF dr cD b6 first m->
  (∀bh ao body jW,oj gF dr cD b6 jW bh->hX az ao dr cD b6 (rs++body) (fin n places W first) []->gen g7 n places W first=body++[.yield (g7 (fin n places W first))]->kK uj ry bh ao Q)->kK uj ry m C Q)
  (λn places first rs m C ak aV bL R aR aq=>aq m C [] first aR (by rw[List.append_nil,vq];exact R) (by rw[yr,vq];rfl))
  (λn places pl x W first ar aE rs m C ak aV bL R aR aq=>?_) (λn places pl x W first q ar aE rs m C ak aV bL R aR aq=>?_) (λn places pl o ks W first aE rs m C ak aV bL R aR aq=>?_) n places W first h
 all_goals have bK:=Lk R aR λq aL=>⟨ak q aL,aO (Zc aL) aV⟩
 all_goals have aw:=LN W
 ·rw[qb]at aV bL
  rw[yd ar,yt g7 ar]at aq
  refine b2 (Lu (R.up (.app [bG.list []])) (ak _ (.head _)) aR (dC (by lia))) λbh ao e f5 gK=>kK.turn bK e ?_
  rw[ar]at gK
  exact aE rs bh ao (λq aL=>ak q (.tail _ aL)) (i7 aV) (by rw[dO,List.length_singleton];lia) gK f5 aq
 ·rw[qb]at aV bL
  rw[yc ar,ys g7 ar]at aq
  refine b2 (Lu (R.up (.app [bG.list []])) (ak _ (.head _)) aR (dC (by lia))) λbh ao e f5 gK=>kK.turn bK e ?_
  rw[ar]at gK
  exact aE (rs++[.same pl q]) bh ao (λq aL=>ak q (.tail _ aL)) (i7 aV) (by rw[dO,List.length_singleton];lia) gK f5 λmZ h7 body jW r5 o3 ab=>aq mZ h7 (.same pl q::body) jW r5 (by rw[List.append_assoc]at o3;exact o3) (by rw[ab];rfl)
 ·have qP:W.length<=eM ((pl,br.op o ks)::W):=aO (k1 _) (LN ((pl,br.op o ks)::W))
  rw[xl first]at aV bL qP
  refine b2 (YC (R.up (.app [bG.list []])) (ak _ (.head _)) aR (dC (by lia))) λbh ao e f5 gK=>kK.turn bK e ?_
  exact aE (rs++[.bind pl o ks.length first]) bh ao (zt (λq aL=>ak q (.tail _ aL)) λi k hi=>t6 (ak _ (.head _)).2.2 k (eN hi)) (i7 aV) (by rw[dO,List.length_singleton];lia) gK f5 λmZ h7 body jW r5 o3 ab=>aq mZ h7 (.bind pl o ks.length first::body) jW r5 (by rw[List.append_assoc]at o3;exact o3) (bb (Row.bind pl o ks.length first:: ·) ab)
end
theorem VS{C cg:aa}{gF:D}{dr cD b6 first:Nat}{hp:List (Str×Nat)}{rows body:List Row}{a b c:Option D}(R:hX C cg dr cD b6 body hp [])(Sd:gw (hp.map pairD)=true)(ab:rows=body++[.yield (g7 hp)])(ai:hp.length<=100)(ak:body.length<=1000):
  et .Add (bW (ay (aj 1) aJ) jR) (dd (ay (dd (ay (a7 (.str "yield")) (ay (bW (ay (z2 (aj 2)) aJ) jR) aJ))) aJ)) (jv gF dr cD b6 first a b c) cg=some (.tup (rows.map h4),cg++[.list (dN (hp.map pairD))]):=by
 have eA:oT (hp.map λq=>(q.1,ah q.2))=hp.map pairD:=by unfold oT;rw[fj];rfl
 have aw:(dN (hp.map pairD)).length<=lim:=by rw[(oI _).length_eq,bR];exact aO ai ag
 have aV:(body.map h4).length<=1000:=by rw[bR];exact ak
 have hh:=x_call (cp ((X0 (m:=jv gF dr cD b6 first a b c) (e:=aj 2) (l:=cD) rfl R.pp (eA▸Sd)).trans (by rw[eA]))) (Ab (fx _) aw)
 rw[(xb _).1]at hh⊢
 refine hT (x_call (cp (a:=.obj dr) rfl) (Ab R.jg (aO aV ag))) (hC (cp (hC (eC rfl (cp hh))))) ?_
 rw[ab,fv]
 exact a3 (aO (fi aV) ag)
theorem VT{az:aa}{t:br}(bK:eo t)(aZ:t.size<=18):Run az (vG [co t]) (.tup ((gen g7 t.size [] [(0,t)] 1).map h4)):=λC p=>by
 have hw:eM [(0,t)]=t.size:=rfl
 have hi:∀q∈[(0,t)],eo q.2:=λq aL=>by rw[cK.mp aL];exact bK
 have gt:(C++[bG.list []]).length=C.length+1:=dO
 have ge:(C++[bG.list []]++[bG.ee []]).length=C.length+2:=dO.trans (bb (· +1) gt)
 have R:hX C (C++[.list []]++[.ee []]++[.list [mu (0,t)]]) C.length (C++[bG.list []]).length (C++[bG.list []]++[bG.ee []]).length [] [] [(0,t)]:=
  ⟨((Pre.app _).trans (.app _)).trans (.app _),Pre.app _ _ _ (Pre.app _ _ _ (fx _)),Pre.app _ _ _ (fx _),fx _,bD _,by lia,by lia,by lia,by lia,by lia⟩
 refine aG (VR (gF:=co t) (Q:=λr=>∃bh ao body jW,r=(.next,bh,ao)/\oj (co t) C.length (C++[bG.list []]).length (C++[bG.list []]++[bG.ee []]).length jW bh/\hX C ao C.length (C++[bG.list []]).length (C++[bG.list []]++[bG.ee []]).length body (fin t.size [] [(0,t)] 1) []/\gen g7 t.size [] [(0,t)] 1=body++[.yield (g7 (fin t.size [] [(0,t)] 1))])
  t.size [] [(0,t)] 1 (bD _) [] (jv (co t) C.length (C++[bG.list []]).length (C++[bG.list []]++[bG.ee []]).length 1 none none none) _ hi aZ (aO aZ ag) R ⟨_,_,_,rfl⟩
  λbh ao body jW f5 gK ab=>⟨_,xi (Lk gK f5 (λq aL=>absurd aL f7)),bh,_,body,jW,rfl,f5,gK.up (.app _),ab⟩) λr cY aL=>?_
 refine LP aL λbh cg body jW bC f5 gK ab=>?_;clear aL;subst bC
 refine sF f5 λa b c bY=>?_;clear f5;subst bY
 refine bU (PQ t.size [] [(0,t)] 1 (bD _)) λf1 f2=>?_
 have f1:(fin t.size [] [(0,t)] 1).length<=18:=aO f1 (aO (cB (Nat.zero_add _)) aZ)
 have av:=HA t.size [] [(0,t)] 1 (bD _)
 rw[ab,dO]at av
 exact⟨_,gN (c3:=.ret _) rfl (eg (d:=.tup [.obj C.length,.obj (C++[bG.list []]).length,.obj (C++[bG.list []]++[bG.ee []]).length,ah 1]) (aB:=C++[.list []]++[.ee []]++[.list [mu (0,t)]]) (a8:=C++[.list []]++[.ee []]++[.list [mu (0,t)]]) (bh:=jv (co t) C.length (C++[bG.list []]).length (C++[bG.list []]++[bG.ee []]).length 1 none none none) rfl rfl (jJ cY (iI (VS gK (VA (yb t.size [] [(0,t)] 1 (bD _) List.nodup_nil).1 (e6 f1 ag) λq aL=>ur (f2 ka hi q aL)) ab (aO f1 ag) (aO (Nat.le_of_succ_le_succ av) (aO aZ ag)))))),gK.pre.trans (.app _)⟩
mutual
noncomputable def br.dep:br->Nat
 |.var _=>0
 |.op _ ks=>1+br.u8 ks
noncomputable def br.u8:List br->Nat
 |[]=>0
 |k::ks=>max k.dep (br.u8 ks)
end
theorem Bl{ks:List br}{k:br}(h:k∈ks):k.dep<=br.u8 ks:=by
 induction h with
 |head=>exact Nat.le_max_left ..
 |tail _ _ aE=>exact aO aE (Nat.le_max_right ..)
mutual
noncomputable def j9:br->List D
 |.var x=>dN (d6 [.str x])
 |.op _ ks=>dN (d6 (q1 ks))
noncomputable def q1:List br->List D
 |[]=>[]
 |k::ks=>j9 k++q1 ks
end
theorem JS{l:List D}{d:D}:d∈dN (d6 l)↔d∈l:=(oI _).mem_iff.trans kU
theorem br.ind{P:br->Prop}(v:∀x,P (.var x))(o:∀o ks,(∀k∈ks,P k)->P (.op o ks))(t:br):P t:=
 @br.rec P (λks=>∀k∈ks,P k) v o ka (λ_ _ ai ak _ aq=>(dS.mp aq).elim (λe=>e▸ai) (ak _)) t
theorem JT{ks:List br}(h:∀k∈ks,∀d,d∈j9 k↔∃x∈k.vars,d=.str x)(d:D):d∈q1 ks↔∃x∈br.kA ks,d=.str x:=by
 induction ks with
 |nil=>exact⟨λh=>absurd h f7,λh=>aG h λ_ h _=>absurd h f7⟩
 |cons k ks aE=>
  refine er.trans ((or_congr (h k (.head _) d) (aE λk aq=>h k (.tail _ aq))).trans ⟨λh=>h.elim (λh=>aG h λx ai ak=>⟨x,i6 _ ai,ak⟩) λh=>aG h λx ai ak=>⟨x,iJ _ ai,ak⟩,λh=>aG h λx ai ak=>(er.mp ai).elim (λq=>.inl ⟨x,q,ak⟩) λq=>.inr ⟨x,q,ak⟩⟩)
theorem DA(t:br):∀d,d∈j9 t↔∃x∈t.vars,d=.str x:=by
 refine t.ind (λx d=>JS.trans (cK.trans ⟨λh=>⟨x,.head _,h⟩,λh=>aG h λy bc h=>cK.mp bc▸h⟩)) λo ks aE d=>JS.trans (JT aE d)
theorem Vd(ks:List br)(d:D):d∈q1 ks↔∃x∈br.kA ks,d=.str x:=JT (λk _=>DA k) d
theorem LH{ks:List br}(h:∀k∈ks,eo k->∀x∈k.vars,jH x)(aq:nV ks):∀x∈br.kA ks,jH x:=by
 induction ks with
 |nil=>exact ka
 |cons k ks aE=>exactλx ar=>(er.mp ar).elim (h k (.head _) aq.1 x) (aE (λk aq=>h k (.tail _ aq)) aq.2 x)
theorem EX(t:br):eo t->∀x∈t.vars,jH x:=t.ind (λx h y bc=>cK.mp bc▸h) λo ks aE h=>LH aE h.2.2
theorem YX(ks:List br)(h:nV ks):∀x∈br.kA ks,jH x:=LH (λk _=>EX k) h
theorem zA{t:br}(h:eo t):(j9 t).Nodup/\(j9 t).length<=2:=by
 haveI aH:(j9 t).Nodup:=by cases t<;>exact(oI _).nodup_iff.mpr (wS _)
 refine⟨aH,sq (r:=[.str "?x",.str "?y"]) aH λd hd=>?_⟩
 refine aG ((DA t d).mp hd) λx ar bC=>?_;subst bC
 rcases EX t h x ar with rfl|rfl<;>simp
theorem Le{l:List D}(h:∀d∈l,∃x,jH x/\d=.str x)(aw:l.length<64):lX l=true/\gw (d6 l)=true:=by
 haveI aq:∀d∈l,d.cO=true/\d.depth<=8:=λd hd=>by
  refine aG (h d hd) λx ar b3=>?_;subst b3
  exact⟨ur ar,es _⟩
 haveI hd:(d6 l).length<64:=e6 (xT _) aw
 refine⟨?_,z0 (wS _) hd (λd q=>aq d (kU.mp q)) (λx ar y bc=>?_) (.inl λd q=>?_)⟩
 ·unfold lX
  simp only[Bool.and_eq_true,Bool.or_eq_true,iL,kF]
  refine⟨⟨pV.mpr λd q=>(aq d q).1,pv.mpr λd q=>(aq d q).2⟩,.inl (.inr ⟨λd q=>?_,by lia⟩)⟩
  refine aG (h d q) λx ar cj=>?_;subst cj;rfl
 ·refine aG (h x (kU.mp ar)) λa _ cA=>?_;subst cA
  refine aG (h y (kU.mp bc)) λb _ cQ=>?_;subst cQ
  rfl
 ·refine aG (h d (kU.mp q)) λa _ db=>?_;subst db;rfl
theorem U6{az:aa}{r:List D->aa->Option (D×aa)}{pat:D}(ks:List br)(bz:List D)(l:Nat)(a:Option D)(C:aa)(p:Pre az C)(h:C[l]?=some (.list bz))(aw:bz.length+2*ks.length<=60)(au:∀k∈ks,d5 az (r [co k]) (j9 k)/\(j9 k).length<=2):
  ∃fT hG ao,ju none (b9 2) (FS r) (ks.map co) [some pat,some (.obj l),a,none,none,none] C=some (.next,[some pat,some (.obj fT),hG,none,none,none],ao)/\Pre C ao/\ao[fT]?=some (.list (bz++q1 ks)):=by
 induction ks generalizing bz l a C with
 |nil=>exact⟨l,a,C,rfl,.refl,(List.append_nil bz).symm▸h⟩
 |cons k ks aE=>
  refine bU (au k (.head _)) λai ak=>?_
  refine fh (ai C p) λl₂ a8 bf bx a9 _=>?_
  have aq:bz.length+(j9 k).length+2*ks.length<=60:=aO (nb (gH ak _) _) (aO (cB (by rw[fX,Nat.mul_succ,Nat.add_assoc,Nat.add_comm 2])) aw)
  refine d4 (aE (bz++j9 k) a8.length (some (co k)) (a8++[.list (bz++j9 k)]) ((p.trans bx).trans (.app _)) (fx _) (dO▸aq) λbZ dt=>au bZ (.tail _ dt)) λpY sZ eh hh dm bY=>?_
  exact⟨pY,sZ,eh,mI rfl rfl (eg (hT (f:=aj 1) (a:=.obj l) rfl (x_call (cp rfl) bf) (add_l (bx _ _ h) a9 (aO (hD ..) (aO aq ag)))) rfl rfl) hh,(bx.trans (.app _)).trans dm,bY.trans (by rw[List.append_assoc];rfl)⟩
noncomputable def Dz:br->List D
 |.var x=>[.str x]
 |.op _ _=>[]
def zz:br->List D
 |.var x=>[.str x]
 |.op _ ks=>q1 ks
theorem U7{az:aa}(k:Nat)(t:br)(bK:eo t)(aq:t.dep<k):d5 az (vB k [co t]) (j9 t):=by
 induction k generalizing t with
 |zero=>exact absurd aq (kG _)
 |succ k SJ=>
  intro C p
  have aL:Run az (cP .Eq (p9 (bX (aj 0) (a7 (.int 0))) (a7 (.int 1))) (a7 (.str "?")) [some (co t),none,none,none,none,none]) (isVar t):=by
   cases t with
   |var x=>exact h3 (sz (e2 (v:=.str x) (bP rfl) dI λ_ _=>rfl) dI (ET bK)) dI λao _=>(sb (by decide+kernel) ao).trans (bb some (dT rfl))
   |op o ks=>exact h3 (sz (e2 (v:=.str o) (bP rfl) dI λ_ _=>rfl) dI (ES bK.1)) dI λao _=>(sb (oN bK.1) ao).trans (bb some (fu (zH bK.1)))
  have bV:d5 az (j5 (cP .Eq (p9 (bX (aj 0) (a7 (.int 0))) (a7 (.int 1))) (a7 (.str "?"))) (fM (ay (bX (aj 0) (a7 (.int 0))) aJ)) (fM aJ) [some (co t),none,none,none,none,none]) (Dz t):=by
   cases t with
   |var x=>exact Dc aL (λ_=>sg (fs (e2 (bP rfl) dI λ_ _=>rfl))) (λe=>by cases e)
   |op o ks=>exact Dc aL (λe=>by cases e) (λ_=>sg sy)
  refine fh (bV C p) λwI aB aS aT a2 _=>?_
  refine eB (show∃ks:List br,qC (co t) (.int 1)=some (.tup (ks.map co))/\((Dz t)++q1 ks=(zz t))/\ks.length<=2/\∀j∈ks,eo j/\j.dep<k from ?_) λks iD wh jy=>?_
  ·cases t with
   |var x=>exact⟨[],nD (Nat.le_of_ble_eq_true rfl),rfl,es _,ka⟩
   |op o ks=>exact⟨ks,(nT ks)▸nD (by rw[fX,nT,bR];exact dC (aO (fi bK.2.1) ag)),rfl,bK.2.1,λj bn=>⟨t6 bK.2.2 j bn,e6 (Bl bn) (Nat.lt_of_succ_lt_succ (e6 (cB (Nat.add_comm _ 1)) aq))⟩⟩
  refine d4 (U6 (pat:=co t) ks _ wI none aB (p.trans aT) a2 (aO (ob (show(Dz t).length<=1 by cases t<;>exact Nat.le_of_ble_eq_true rfl) (Nat.mul_le_mul_left 2 jy.1)) ag) λj bn=>⟨SJ j (jy.2 j bn).1 (jy.2 j bn).2,(zA (jy.2 j bn).1).2⟩) λl₂ mB a8 bf bx a9=>?_
  rw[wh]at a9
  have aZ:lX (zz t)=true/\gw (d6 (zz t))=true:=by
   cases t with
   |var x=>exact Le (λd hd=>⟨x,bK,cK.mp hd⟩) (by refine(?_:1<64);decide)
   |op o dG=>
    refine Le (λd hd=>?_) ?_
    ·refine aG ((Vd dG d).mp hd) λx ar e=>?_
     exact⟨x,YX dG bK.2.2 x ar,e⟩
    ·have:∀mU:List br,nV mU->(q1 mU).length<=2*mU.length:=λmU=>by
      induction mU with
      |nil=>exactλ_=>bD _
      |cons j mU aE=>exactλh=>aO (cB dO) (aO (ob (zA h.1).2 (aE h.2)) (cB (Nat.add_comm ..)))
     exact e6 (aO (this dG bK.2.2) (Nat.mul_le_mul_left 2 bK.2.1)) ag
  have CB:j9 t=dN (d6 (zz t)):=by cases t<;>rfl
  refine⟨a8.length,a8++[.list (j9 t)],?_,(aT.trans bx).trans (.app _),fx _,(aT.trans bx).len⟩
  refine gN (c3:=.ret (.obj a8.length)) (m:=[some (co t),some (.obj l₂),mB,none,none,none]) rfl ?_
  refine eg aS rfl ?_
  refine jJ (E3 (E4 (a:=co t) (d:=.int 1) rfl rfl iD) bf) (iI ?_)
  exact CB▸Ey (l:=l₂) rfl a9 aZ
theorem LI{x o:Str}(h:jH x)(af:su o):x≠o:=by
 rcases h with rfl|rfl<;>rcases af with rfl|rfl|rfl|rfl|rfl<;>decide
theorem VC{a b:List br}(H:∀k∈a,∀b,eo k->eo b->co k=co b->k=b)(aC:nV a)(ab:nV b)(h:kw a=kw b):a=b:=by
 induction a generalizing b with
 |nil=>
  cases b with
  |nil=>rfl
  |cons y b=>exact absurd h.symm (List.cons_ne_nil _ _)
 |cons x a aE=>
  cases b with
  |nil=>exact absurd h (List.cons_ne_nil _ _)
  |cons y b=>
   have e:=List.cons.inj h
   rw[H x (.head _) y aC.1 ab.1 e.1,aE (λk aq=>H k (.tail _ aq)) aC.2 ab.2 e.2]
theorem VB{a b:br}(aC:eo a)(ab:eo b)(h:co a=co b):a=b:=by
 refine a.ind (P:=λa=>∀b,eo a->eo b->co a=co b->a=b) (λx b aC ab h=>?_) (λo ks aE b aC ab h=>?_) b aC ab h
 ·cases b with
  |var y=>exact bb br.var (D.str.inj (List.cons.inj (D.tup.inj h)).1)
  |op o ks=>exact absurd (D.str.inj (List.cons.inj (D.tup.inj h)).1) (LI aC ab.1)
 ·cases b with
  |var y=>exact absurd (D.str.inj (List.cons.inj (D.tup.inj h)).1).symm (LI ab aC.1)
  |op d8 dG=>
   have e:=List.cons.inj (D.tup.inj h)
   rw[D.str.inj e.1,VC aE aC.2.2 ab.2.2 e.2]
def wX(ks:List br)(g:br->D)(d:D):D:=((ks.find? λk=>decide (co k=d)).map g).getD .none
theorem DS{ks:List br}{g:br->D}(aD:∀k∈ks,eo k){k:br}(aq:k∈ks):wX ks g (co k)=g k:=by
 unfold wX
 cases hf:ks.find? (λj=>decide (co j=co k))with
 |none=>exact absurd (dT rfl) (List.find?_eq_none.mp hf k aq)
 |some j=>rw[VB (aD _ (List.mem_of_find?_eq_some hf)) (aD _ aq) (hU (List.find?_some (p:=λj=>decide (co j=co k)) hf))];rfl
theorem Kh{ks:List br}{g:br->D}(aD:∀k∈ks,eo k):(ks.map co).map (wX ks g)=ks.map g:=fj.trans (kE λ_ aq=>DS aD aq)
def h1:Option Nat->D
 |some c=>ah c
 |none=>.none
section
variable{az:aa}{m:aK}{e:aY (D×aa)}{bM:aY (List D×aa)}{gO:List D->aa->Option (D×aa)}{a v:D}{J:List D}
theorem Wp{T:String}(ai:Run az (e m) a)(bK:∀C,Pre az C->um a C=some T)(ak:Run az (bM m) J)(aV:Run az (gO (a::J)) v):Run az (eV T e bM gO m) v:=λC p=>
 aG (ai C p) λ_ aS aT=>aG (ak _ (p.trans aT)) λ_ bf bx=>aG (aV _ ((p.trans aT).trans bx)) λ_ cY cx=>⟨_,gU aS (bK _ (p.trans aT)) bf cY,(aT.trans bx).trans cx⟩
end
theorem O1(cf:Str->List Nat->Option Nat)(s:Str->Nat)(ks:List br):(∃bk,jT cf s ks=some bk/\ks.map (λk=>h1 (ev cf s k))=bk.map ah)\/(jT cf s ks=none/\D.none∈ks.map λk=>h1 (ev cf s k)):=by
 induction ks with
 |nil=>exact .inl ⟨[],rfl,rfl⟩
 |cons k ks aE=>
  refine(?_:(∃bk,(ev cf s k).bind (λc=>(jT cf s ks).map (c:: ·))=some bk/\h1 (ev cf s k)::ks.map (λk=>h1 (ev cf s k))=bk.map ah)\/((ev cf s k).bind (λc=>(jT cf s ks).map (c:: ·))=none/\D.none∈h1 (ev cf s k)::ks.map λk=>h1 (ev cf s k)))
  cases ev cf s k with
  |none=>exact .inr ⟨rfl,.head _⟩
  |some c=>exact aE.imp (λh=>aG h λbk ai ak=>⟨c::bk,ck ai,bb (ah c:: ·) ak⟩) λh=>⟨(bb (Option.map (c:: ·)) h.1:(jT cf s ks).map (c:: ·)=none),.tail _ h.2⟩
theorem J7(c:Option Nat):(h1 c).cO=true/\(h1 c).depth=0:=by cases c<;>exact⟨rfl,rfl⟩
theorem Vs{l:List D}(h:∀d∈l,∃c,d=h1 c):D.da l=true/\D.ew l<=0:=
 ⟨pV.mpr λd hd=>a6 (h d hd) λc e=>e▸(J7 c).1,pv.mpr λd hd=>a6 (h d hd) λc e=>e▸cB (J7 c).2⟩
section
variable{az:aa}{cf:Str->List Nat->Option Nat}{s:Str->Nat}{lt lk:Nat}{Lj:List (Str×D)}{aN:List (List D×D)}(bK:az[lt]?=some (.ee Lj))(aq:az[lk]?=some (.du aN))
  (ai:∀o bk,dM aN (.str o::bk.map ah)=(cf o bk).map ah) (ak:∀o J,D.none∈J->dM aN (.str o::J)=none)
theorem KB{t:br}(aF:eo t){m:aK}(aR:m.at 0=some (co t)):Run az (cP .Eq (p9 (bX (aj 0) (a7 (.int 0))) (a7 (.int 1))) (a7 (.str "?")) m) (isVar t):=by
 cases t with
 |var x=>exact h3 (sz (e2 (v:=.str x) (bP aR) dI λ_ _=>rfl) dI (ET aF)) dI λao _=>(sb (by decide+kernel) ao).trans (bb some (dT rfl))
 |op o ks=>exact h3 (sz (e2 (v:=.str o) (bP aR) dI λ_ _=>rfl) dI (ES aF.1)) dI λao _=>(sb (oN aF.1) ao).trans (bb some (fu (zH aF.1)))
include bK aq ai ak
theorem N6(k:Nat)(t:br)(aF:eo t)(hd:t.dep<k)(aU:∀x∈t.vars,dM Lj x=some (ah (s x))):Run az (vz k [co t,.obj lt,.obj lk]) (h1 (ev cf s t)):=by
 induction k generalizing t with
 |zero=>exact absurd hd (kG _)
 |succ k aE=>
 cases t with
 |var x=>exact oz rfl (NC (KB aF rfl) (ot (e2 (bP rfl) (e2 (v:=.str x) (bP rfl) dI λ_ _=>rfl) λao p=>zW (p _ _ bK) (aU x (.head _)))))
 |op o ks=>
  have aD:=t6 aF.2.2
  have cZ:(ks.map λk=>h1 (ev cf s k)).length<=2:=aO (cB (bR _)) aF.2.1
  have pL:keyOk (.str o::ks.map λk=>h1 (ev cf s k))=true:=by
   refine bU (Vs (l:=ks.map λk=>h1 (ev cf s k)) λd hd=>aG (b5.mp hd) λk _ e=>⟨_,e.symm⟩) λa2 a9=>?_
   exact ha.mpr ⟨dT (aO (fi (Nat.max_le.mpr ⟨es _,a9⟩)) ag),ha.mpr ⟨oN aF.1,a2⟩⟩
  have qN:(D.str o::kw ks).length<=lim:=by rw[nT,fX,bR];exact dC (aO (fi aF.2.1) ag)
  have ax:=lD (az:=az) (e:=GN (vz k)) (dk:=c9 (iR (aj 0) (a7 (.int 1)))) (cw:=[none,none,none,some 2,some 1]) (i:=1) (m:=[some (co (.op o ks)),some (.obj lt),some (.obj lk),none])
   (gx:=wX ks λk=>h1 (ev cf s k)) (sa (ua (v:=.tup (ks.map co)) (bP rfl) dI (nT ks▸nD qN))) (λd cW=>?_) (by rw[bR];exact dC (aO aF.2.1 ag))
  ·rw[Kh aD]at ax
   refine oz rfl (NB (KB aF rfl) (ot (Wp (bP rfl) (λao p=>xe (p _ _ aq) rfl) (fs (oS (a:=.tup [.str o]) (d:=.tup (ks.map λk=>h1 (ev cf s k))) (v:=.tup (.str o::ks.map λk=>h1 (ev cf s k))) (m5 (fs (e2 (bP rfl) dI λ_ _=>rfl))) (w4 ax (dC (aO cZ ag))) λao _=>a3 (dC (aO (gH cZ 1) (Nat.le_of_ble_eq_true rfl))))) (.keep λao p=>?_))))
   refine(Qe (p _ _ aq) pL).trans (bb (λd=>some (d,ao)) ?_)
   refine(?_:_=h1 ((jT cf s ks).bind (cf o)))
   rcases O1 cf s ks with q|q
   ·refine aG q λbk a2 a9=>?_
    rw[a9,ai,a2]
    refine(?_:((cf o bk).map ah).getD .none=h1 (cf o bk))
    cases cf o bk<;>rfl
   ·rw[ak _ _ q.2,q.1];rfl
  ·refine aG (b5.mp cW) λj bn cj=>?_;subst cj
   rw[DS aD bn]
   exact w2 (mq (bP rfl) (mq (bP rfl) (fs (bP rfl)))) (aE j (aD j bn) (e6 (Bl bn) (Nat.lt_of_succ_lt_succ (e6 (cB (Nat.add_comm _ 1)) hd))) λx ar=>aU x (show x∈br.kA ks from(LG ks).symm▸List.mem_flatMap.mpr ⟨j,bn,ar⟩))
end
mutual
noncomputable def turn:br->br
 |.var x=>.var (if x="?x" then"?y" else"?x")
 |.op o ks=>.op o (turns ks)
noncomputable def turns:List br->List br
 |[]=>[]
 |k::ks=>turn k::turns ks
end
theorem Lv(ks:List br):turns ks=ks.map turn:=by
 induction ks with
 |nil=>rfl
 |cons k ks aE=>exact bb (turn k:: ·) aE
theorem YG{ks:List br}(H:∀k∈ks,eo k->eo (turn k)/\(turn k).dep=k.dep/\(turn k).size=k.size)(h:nV ks):nV (turns ks)/\br.u8 (turns ks)=br.u8 ks/\br.m8 (turns ks)=br.m8 ks:=by
 induction ks with
 |nil=>exact⟨trivial,rfl,rfl⟩
 |cons k ks aE=>exact fV (H k (.head _) h.1) λai ak aV=>fV (aE (λk aq=>H k (.tail _ aq)) h.2) λa2 a9 bC=>⟨⟨ai,a2⟩,(bb (max · _) ak).trans (bb (max _) a9),(bb (· +_) aV).trans (bb (_+ ·) bC)⟩
theorem YB(t:br):eo t->eo (turn t)/\(turn t).dep=t.dep/\(turn t).size=t.size:=by
 exact t.ind (λx h=>⟨LF,rfl,rfl⟩) λo ks aE h=>fV (YG aE h.2.2) λai ak aV=>⟨⟨h.1,by rw[Lv,bR];exact h.2.1,ai⟩,bb (1+ ·) ak,bb (1+ ·) aV⟩
noncomputable def ui:List (Str×D):=putK (putK [] ("?x":Str) (.str "?y")) ("?y":Str) (.str "?x")
noncomputable def wP:br->D
 |.var x=>.str (if x="?x" then"?y" else"?x")
 |.op o _=>.str o
theorem U5{t:br}(aF:eo t):∃x xs,co t=.tup (.str x::xs)/\(dM ui x).getD (.str x)=wP t:=by
 cases t with
 |var x=>exact⟨x,[],rfl,by rcases aF with rfl|rfl<;>decide⟩
 |op o ks=>exact⟨o,_,rfl,by rcases aF.1 with rfl|rfl|rfl|rfl|rfl<;>(show(dM ui _).getD (.str _)=D.str _;decide)⟩
theorem YF{az:aa}(k:Nat)(t:br)(aF:eo t)(hd:t.dep<k):Run az (vC k [co t]) (co (turn t)):=by
 induction k generalizing t with
 |zero=>exact absurd hd (kG _)
 |succ k aE=>
  have RI:Run az (eV "dict" (u9 "?x" "?y" (a7 (.str "?y")) (a7 (.str "?x"))) (ay (bX (aj 0) (a7 (.int 0))) (ay (bX (aj 0) (a7 (.int 0))) aJ)) rB [some (co t),none,none]) (wP t):=λC p=>by
   refine dv (U5 aF) λx xs ar av=>?_
   have hi:bX (aj 0) (a7 (.int 0)) [some (co t),none,none] (C++[.ee ui])=some (.str x,C++[.ee ui]):=ar▸rfl
   exact⟨C++[.ee ui],gU (a:=.obj C.length) (aB:=C++[.ee ui]) rfl (xe (fx _) rfl) (eC hi (cp hi)) ((Qd (fx _)).trans (by rw[av])),.app _⟩
  refine eB (show∃ks:List br,qC (co t) (.int 1)=some (.tup (ks.map co))/\co (turn t)=.tup (wP t::(ks.map turn).map co)/\ks.length<=2/\∀j∈ks,eo j/\j.dep<k from ?_) λks iD wh jy=>?_
  ·cases t with
   |var x=>exact⟨[],nD (Nat.le_of_ble_eq_true rfl),rfl,es _,ka⟩
   |op o ks=>exact⟨ks,(nT ks)▸nD (by rw[fX,nT,bR];exact dC (aO (fi aF.2.1) ag)),by rw[←Lv,←nT];rfl,aF.2.1,λj bn=>⟨t6 aF.2.2 j bn,e6 (Bl bn) (Nat.lt_of_succ_lt_succ (e6 (cB (Nat.add_comm _ 1)) hd))⟩⟩
  have aD:∀j∈ks,eo j:=λj bn=>(jy.2 j bn).1
  have aw:((ks.map turn).map co).length<=2:=by rw[bR,bR];exact jy.1
  refine oz rfl (NA RI (ot (oS (a:=.tup [wP t]) (d:=.tup ((ks.map turn).map co)) (m5 (fs (bP rfl))) (w4 ?_ (dC (aO aw ag))) λao _=>wh▸a3 (dC (aO (gH aw 1) (Nat.le_of_ble_eq_true rfl))))))
  have h:=lD (az:=az) (m:=[some (co t),some (wP t),none]) (dk:=c9 (iR (aj 0) (a7 (.int 1)))) (cw:=[none,none,none]) (i:=1) (e:=GO (vC k))
   (gx:=wX ks λk=>co (turn k)) (sa (ua (bP rfl) dI iD)) (λd cW=>aG (b5.mp cW) λj bn e=>e▸(DS aD bn).symm▸w2 (fs (bP rfl)) (aE j (jy.2 j bn).1 (jy.2 j bn).2)) (by rw[bR];exact dC (aO jy.1 ag))
  rw[Kh aD]at h
  rw[fj];exact h
def Ae:D->List (Str×Nat)
 |.tup xs=>xs.map re
 |_=>[]
def fE(row:List (Str×Nat)):D:=.tup (row.map pairD)
theorem Af(row:List (Str×Nat)):Ae (fE row)=row:=by
 refine(?_:(row.map pairD).map re=row)
 rw[fj,show re∘pairD=id from funext EQ,List.map_id]
section
variable{az:aa}{m:aK}
theorem F7{src:o6}{as:D->aY (aK×aa)}{x:aY (List D×aK×aa)}{N:D->aK->Prop}{bB:D->List D}{M:aK->Prop}(J:List D)(m:aK)(hk:M m)(av:∀C,Pre az C->jw src C=true)(aC:∀d∈J,∀m,M m->∃bh,N d bh/\∀C,as d m C=some (bh,C))
  (ar:∀d∈J,∀fN,N d fN->∀C,Pre az C->∃bh ao,x fN C=some (bB d,bh,ao)/\M bh/\Pre C ao) (C:aa) (p:Pre az C):∃bh ao,lY src as ef x J m C=some (J.flatMap bB,bh,ao)/\M bh/\Pre C ao:=by
 induction J generalizing m C with
 |nil=>exact⟨m,C,a3 (av C p),hk,.refl⟩
 |cons d J aE=>
  refine aG (aC d (.head _) m hk) λU0 dn QL=>b2 (ar d (.head _) U0 dn C p) λfN aB aS Qv aT=>?_
  refine b2 (aE fN Qv (λd h=>aC d (.tail _ h)) (λd h=>ar d (.tail _ h)) aB (p.trans aT)) λim a8 bf Qw bx=>⟨im,a8,?_,Qw,aT.trans bx⟩
  exact(a3 (av C p)).trans (bp (QL C) (bp rfl ((a3 rfl).trans (bp aS (ck bf)))))
theorem TQ{e:aY (D×aa)}{l:Nat}{xs:List D}(h:Run az (e m) (.obj l))(q:az[l]?=some (.list xs))(aZ:lX xs=true/\gw (d6 xs)=true):d5 az (n1 e m) (dN (d6 xs)):=λC p=>
 aG (h C p) λ_ aS aT=>⟨_,_,Ey aS (aT _ _ (p _ _ q)) aZ,aT.trans (.app _),fx _,aT.len⟩
theorem WJ(row:List (Str×Nat))(x:Str)(c:Nat)(h:row.length<=100)(C:aa):pj .Add (fE row) (.tup [.tup [.str x,ah c]]) C=some (fE (row++[(x,c)]),C):=by
 unfold fE
 rw[fv]
 exact a3 (dC (aO (fi (aO (cB (bR _)) h)) ag))
theorem BH{bk:List Nat}{x:Str}(l:List (List (Str×Nat))):(l.flatMap λrow=>bk.map λc=>row++[(x,c)]).length=l.length*bk.length:=by
 induction l with
 |nil=>exact(Nat.zero_mul _).symm
 |cons a l aE=>rw[List.flatMap_cons,dO,aE,bR,fX,Nat.succ_mul,Nat.add_comm]
theorem WN{dX:Nat}{r6:List Nat}{bk:List Nat}{dr:Nat}{rows:List (List (Str×Nat))}{x:Str}(cH:az[dX]?=some (.list (r6.map ah)))(r4:r6.length<=6)(ie:dN (d6 (r6.map ah))=bk.map ah)(R8:az[dr]?=some (.list (rows.map fE)))(au:rows.length*bk.length<=lim)(mR:∀r∈rows,r.length<=100)
  (bL:m.at 4=some (.obj dr)) (dx:m.at 2=some (.obj dX)) (cC:m.at 5=some (.str x)):
  d5 az (ea (c9 (aj 4)) [none,none,none,none,none,some 2,some 5] (b9 1) ef (rL (c9 (n1 (aj 5))) (b9 2) ef (dL vd)) m) ((rows.flatMap λrow=>bk.map λc=>row++[(x,c)]).map fE):=λC p=>by
 have v5:kL [none,none,none,none,none,some 2,some 5] m=[none,none,none,none,none,some (.obj dX),some (.str x)]:=by rw[←dx,←cC];rfl
 have qM:∀row∈rows,∀xL,∀C,Pre az C->∃bh ao,rL (c9 (n1 (aj 5))) (b9 2) ef (dL vd) [none,some (fE row),xL,none,none,some (.obj dX),some (.str x)] C=some ((bk.map λc=>row++[(x,c)]).map fE,bh,ao)/\(∃a b,bh=[none,a,b,none,none,some (.obj dX),some (.str x)])/\Pre C ao:=by
  intro row R6 xL C p
  refine b2 (wq (TQ (az:=az) (e:=aj 5) (m:=[none,some (fE row),xL,none,none,some (.obj dX),some (.str x)]) (bP rfl) cH (K8 (by lia))) C p) λsrc aB aS aT av=>?_
  rw[ie]at aS
  refine b2 (F7 (az:=aB) (src:=src) (as:=b9 2) (x:=dL vd) (N:=λd m=>m=[none,some (fE row),some d,none,none,some (.obj dX),some (.str x)]) (bB:=λd=>[fE (row++[(x,gk d)])]) (M:=λm=>∃b,m=[none,some (fE row),b,none,none,some (.obj dX),some (.str x)]) (bk.map ah) [none,some (fE row),xL,none,none,some (.obj dX),some (.str x)] ⟨_,rfl⟩ av
   (λd _ m aR=>a6 aR λb aR=>⟨_,rfl,λC=>aR▸rfl⟩) (λd hd fN Cz C p=>by
    subst Cz
    refine aG (b5.mp hd) λc ax mm=>?_;subst mm
    refine⟨[none,some (fE row),some (ah c),none,none,some (.obj dX),some (.str x)],C,?_,⟨_,rfl⟩,.refl⟩
    rw[i4]
    exact ck (hT (f:=aj 1) rfl (hC (cp (hC (eC (e:=aj 6) rfl (cp rfl))))) (WJ row x c (mR row R6) C))) aB .refl) λbh a8 bf a2 bx=>?_;refine a6 a2 λb a9=>?_;clear a2;subst a9
  refine⟨[none,some (fE row),b,none,none,some (.obj dX),some (.str x)],a8,?_,⟨_,_,rfl⟩,aT.trans bx⟩
  have:(bk.map ah).flatMap (λd=>[fE (row++[(x,gk d)])])=(bk.map λc=>row++[(x,c)]).map fE:=by
   rw[List.flatMap_map,fj,←List.map_eq_flatMap]
   exact kE λc _=>by rw[i4];rfl
  rw[←this]
  exact bp aS bf
 refine b2 (tI (m:=m) (e:=aj 4) (bP bL) R8 C p) λsrc aB aS aT av=>?_
 refine b2 (F7 (az:=aB) (src:=src) (as:=b9 1) (x:=rL (c9 (n1 (aj 5))) (b9 2) ef (dL vd)) (N:=λd m=>∃b,m=[none,some d,b,none,none,some (.obj dX),some (.str x)]) (bB:=λd=>(bk.map λc=>(Ae d)++[(x,c)]).map fE) (M:=λm=>∃a b,m=[none,a,b,none,none,some (.obj dX),some (.str x)]) (rows.map fE) [none,none,none,none,none,some (.obj dX),some (.str x)] ⟨_,_,rfl⟩ av
  (λd _ m aR=>iH aR λa b aR=>⟨_,⟨b,rfl⟩,λC=>aR▸rfl⟩) (λd hd fN Cz C gi=>a6 Cz λb a2=>aG (b5.mp hd) λrow dA a9=>a2▸a9▸(Af row).symm▸qM row dA b C ((p.trans aT).trans gi)) aB .refl) λbh a8 bf _ bx=>?_
 have:(rows.map fE).flatMap (λd=>(bk.map λc=>Ae d++[(x,c)]).map fE)=(rows.flatMap λrow=>bk.map λc=>row++[(x,c)]).map fE:=by
  rw[List.flatMap_map,List.map_flatMap]
  congr 1
  funext row
  rw[Af]
 rw[this]at bf
 refine⟨a8.length,a8++[.list ((rows.flatMap λrow=>bk.map λc=>row++[(x,c)]).map fE)],?_,(aT.trans bx).trans (.app _),fx _,(aT.trans bx).len⟩
 have cZ:((rows.flatMap λrow=>bk.map λc=>row++[(x,c)]).map fE).length<=lim:=by
  rw[bR]
  rw[BH];exact au
 exact ck (o:=tb _ _ _ _ _ _ _) (a:=(_,a8)) (bp aS (bp (v5.symm▸bf) (a3 cZ)))
end
theorem Ke{be gp:Type}{f:D->Option gp}{A B:be->D}{k:be->gp}{l:List be}(h:∀a∈l,f (A a)=some (k a)):wW f (l.map λa=>.tup [A a,B a])=some (l.map λa=>(k a,B a)):=by
 induction l with
 |nil=>rfl
 |cons a l aE=>
  refine(bb (Option.bind · _) (bb (Option.map λx=>(x,B a)) (h a (.head _)))).trans ?_
  exact bb (Option.map _) (aE λa aC=>h a (.tail _ aC))
section
variable{K:Type}[DecidableEq K]{k bZ:K}{d:D}
theorem qI(p:K×D)(l:List (K×D)):dM (p::l) k=if p.1=k then some p.2 else dM l k:=by
 refine(bb (Option.map Prod.snd) List.find?_cons).trans ?_
 by_cases e:p.1=k
 ·rw[dT e,a3 e];rfl
 ·rw[fu e,bq e];rfl
theorem Qb(l:List (K×D)):dM (l.map λp=>if p.1=k then(p.1,d)else p) k=if(l.any λp=>decide (p.1=k))=true then some d else none:=by
 induction l with
 |nil=>rfl
 |cons p l aE=>
  rw[gm,List.any_cons]
  by_cases aF:p.1=k
  ·rw[a3 aF,qI,a3 aF,dT aF];rfl
  ·rw[bq aF,qI,bq aF,fu aF];exact aE
theorem P9(aq:¬k=bZ)(l:List (K×D)):dM (l.map λp=>if p.1=k then(p.1,d)else p) bZ=dM l bZ:=by
 induction l with
 |nil=>rfl
 |cons p l aE=>
  rw[gm,qI p l]
  by_cases aF:p.1=k
  ·rw[a3 aF,qI,bq λq=>aq (aF.symm.trans q),bq λq=>aq (aF.symm.trans q)];exact aE
  ·rw[bq aF,qI,aE]
theorem P8(l:List (K×D)):dM (l++[(k,d)]) bZ=(dM l bZ).or (if k=bZ then some d else none):=by
 induction l with
 |nil=>exact qI _ _
 |cons p l aE=>
  refine(qI p (l++[(k,d)])).trans ?_
  rw[qI p l]
  by_cases aF:p.1=bZ
  ·rw[a3 aF,a3 aF];rfl
  ·rw[bq aF,bq aF];exact aE
theorem BR(aN:List (K×D))(k bZ:K)(d:D):dM (putK aN k d) bZ=if k=bZ then some d else dM aN bZ:=by
 unfold putK
 by_cases aC:(aN.any λp=>decide (p.1=k))=true
 ·rw[a3 aC]
  by_cases aq:k=bZ
  ·subst aq;rw[Qb,a3 aC,a3 rfl]
  ·rw[bq aq,P9 aq]
 ·rw[bq aC,P8]
  by_cases aq:k=bZ
  ·subst aq
   have aH:dM aN k=none:=bb (Option.map Prod.snd) (List.find?_eq_none.mpr λp aF e=>aC (List.any_eq_true.mpr ⟨p,aF,e⟩))
   rw[aH];rfl
  ·rw[bq aq,bq aq];exact Option.or_none
theorem Ks(c7 bz:List (K×D))(h:∀p∈c7,p.1≠k):dM (iq bz c7) k=dM bz k:=by
 induction c7 generalizing bz with
 |nil=>rfl
 |cons p c7 aE=>exact(aE (putK bz p.1 p.2) λq aL=>h q (.tail _ aL)).trans ((BR ..).trans (bq (h p (.head _))))
theorem Kt(c7 bz:List (K×D))(h:∀p∈c7,p.1=k->p.2=d)(ar:(∃p∈c7,p.1=k)\/dM bz k=some d):dM (iq bz c7) k=some d:=by
 induction c7 generalizing bz with
 |nil=>exact ar.elim (λh=>aG h λ_ h _=>absurd h f7) id
 |cons p c7 aE=>
  refine aE (putK bz p.1 p.2) (λq aL=>h q (.tail _ aL)) ?_
  by_cases e:p.1=k
  ·exact .inr ((BR ..).trans ((a3 e).trans (bb some (h p (.head _) e))))
  ·exact ar.imp (λh=>aG h λq aL bO=>(dS.mp aL).elim (λmm=>absurd (mm▸bO) e) λaL=>⟨q,aL,bO⟩) λar=>(BR ..).trans ((bq e).trans ar)
end
def tabOf(U:List bF)(h:cv)(o:Str)(bk:List Nat):Option Nat:=((List.range U.length).find? λi=>decide (canon (root h.p) (cF U i)=⟨o,bk⟩)).map (root h.p)
def kT(U:List bF)(h:cv):List (List D×D):=(List.range U.length).map λi=>(eK (canon (root h.p) (cF U i)),ah (root h.p i))
section
variable{U:List bF}{told done:List (Nat×Nat)}{h:cv}(O:Ok U told done h)
include O
theorem Gb{i j:Nat}(hi:i<U.length)(bn:j<U.length)(e:canon (root h.p) (cF U i)=canon (root h.p) (cF U j)):root h.p i=root h.p j:=by
 haveI aS:(cF U i).op=(cF U j).op:=(bb bF.op e:(canon (root h.p) (cF U i)).op=(canon (root h.p) (cF U j)).op)
 haveI bf:(cF U i).kids.map (root h.p)=(cF U j).kids.map (root h.p):=(bb bF.kids e:(canon (root h.p) (cF U i)).kids=(canon (root h.p) (cF U j)).kids)
 refine O.Dd.iff i j hi bn (.rE (j8 hi) (j8 bn) aS (by simpa using bb List.length bf) λa k l aq aw=>O.Dd.Gc ?_)
 haveI:=bb (λz:List Nat=>z[a]?) bf
 simpa [aq,aw] using this
theorem z7{o:Str}{bk:List Nat}{c:Nat}:tabOf U h o bk=some c↔∃i,i<U.length/\canon (root h.p) (cF U i)=⟨o,bk⟩/\root h.p i=c:=by
 unfold tabOf
 cases hf:(List.range U.length).find? λi=>decide (canon (root h.p) (cF U i)=⟨o,bk⟩)with
 |none=>
  exact⟨λh=>bi h,λh=>eB h λi hi e _=>absurd (dT e) (List.find?_eq_none.mp hf i (ft.mpr hi))⟩
 |some j=>
  haveI bn:=ft.mp (List.mem_of_find?_eq_some hf)
  haveI mH:canon (root h.p) (cF U j)=⟨o,bk⟩:=hU (List.find?_some (p:=λi=>decide (canon (root h.p) (cF U i)=⟨o,bk⟩)) hf)
  exact⟨λe=>⟨j,bn,mH,Option.some.inj e⟩,λh=>eB h λi hi e q=>bb some ((Gb O bn hi (mH.trans e.symm)).trans q)⟩
theorem Yl(c:Nat)(x:bF):x∈gg U h c↔tabOf U h x.op x.kids=some c:=by
 rw[z7 O]
 by_cases ax:c∈gM U h
 ·rw[(zD O ax).2.2]
  exact exists_congr λi=>and_congr_right λ_=>and_comm
 ·unfold gg
  rw[bq ax]
  exact⟨λh=>absurd h f7,λh=>eB h λi hi _ q=>absurd (q▸zT O hi) ax⟩
theorem Yk{o:Str}{bk:List Nat}{c:Nat}(e:tabOf U h o bk=some c):c∈gM U h/\∀k∈bk,k∈gM U h:=by
 refine eB ((z7 O).mp e) λi hi bO a2=>?_;subst a2
 refine⟨zT O hi,λk aq=>?_⟩
 haveI:=Hn O hi
 rw[bO]at this
 exact this k aq
theorem TN(o:Str)(bk:List Nat):dM (iq [] (kT U h)) (.str o::bk.map ah)=(tabOf U h o bk).map ah:=by
 cases bK:tabOf U h o bk with
 |none=>
  refine Ks _ _ λp aF e=>?_
  refine aG (b5.mp aF) λi hi a9=>?_;subst a9
  have:canon (root h.p) (cF U i)=⟨o,bk⟩:=zB e
  have:=(z7 O).mpr ⟨i,ft.mp hi,this,rfl⟩
  rw[bK]at this;cases this
 |some c=>
  refine eB ((z7 O).mp bK) λi hi e bC=>?_;subst bC
  refine Kt _ _ (λp aF bO=>?_) (.inl ⟨_,b5.mpr ⟨i,ft.mpr hi,rfl⟩,by rw[e];rfl⟩)
  refine aG (b5.mp aF) λj bn bY=>?_;subst bY
  have:canon (root h.p) (cF U j)=⟨o,bk⟩:=zB bO
  show ah (root h.p j)=ah _
  rw[Gb O (ft.mp bn) hi (this.trans e.symm)]
omit O in
theorem TK(o:Str)(J:List D)(hd:D.none∈J):dM (iq [] (kT U h)) (.str o::J)=none:=by
 refine Ks _ _ λp aF e=>?_
 refine aG (b5.mp aF) λi hi b3=>?_;subst b3
 haveI bf:((canon (root h.p) (cF U i)).kids.map ah)=J:=(List.cons.inj e).2
 rw[←bf]at hd
 refine aG (b5.mp hd) λn _ q=>?_
 cases q
theorem TL:DQ ((List.range U.length).map λi=>D.tup [b1 (canon (root h.p) (cF U i)),ah (root h.p i)])=some (kT U h):=
 Ke λi hi=>a3 (zC (A3 O (ft.mp hi)))
end
theorem WL(row:List (Str×Nat)):DP (row.map pairD)=some (row.map λp=>(p.1,ah p.2)):=Ke λ_ _=>rfl
theorem WK{row:List (Str×Nat)}(aH:(row.map (·.1)).Nodup){x:Str}(ar:x∈row.map (·.1)):dM (iq [] (row.map λp=>(p.1,ah p.2))) x=some (ah (asg row x)):=by
 refine aG (b5.mp ar) λp aF cj=>?_;subst cj
 refine Kt _ _ (λq aL e=>?_) (.inl ⟨_,b5.mpr ⟨p,aF,rfl⟩,rfl⟩)
 refine aG (b5.mp aL) λr au cA=>?_;subst cA
 haveI e:r.1=p.1:=e
 haveI:=mem_lookup aH (show(p.1,r.2)∈row by rw[←e];exact au)
 unfold asg
 rw[this]
 rfl
def namesOf(t:br):List Str:=(g7 (fin t.size [] [(0,t)] 1)).map (·.1)
theorem zx{t:br}:(namesOf t).Nodup/\∀x,x∈namesOf t↔x∈t.vars:=by
 refine bU (yb t.size [] [(0,t)] 1 (bD _) List.nodup_nil) λai ak=>?_
 have aF:=(xb (fin t.size [] [(0,t)] 1)).2.map (·.1)
 exact⟨aF.nodup_iff.mpr ai,λx=>aF.mem_iff.trans ((ak x).trans ((or_iff_right f7).trans (by rw[show oV [(0,t)]=t.vars from List.append_nil _])))⟩
theorem U9(l:List (Str×Nat))(aH:(l.map (·.1)).Nodup):(((g7 l).map (·.1)).map D.str).Pairwise mf:=by
 refine bU (xb l) λe aF=>?_
 haveI aZ:=zb (l.map pairD)
 rw[e,List.pairwise_map]at aZ
 haveI hd:=(aF.map (·.1)).nodup_iff.mpr aH
 rw[List.Nodup,List.pairwise_map]at hd
 rw[fj,List.pairwise_map]
 refine(aZ.and hd).imp λ{p q} h=>bU h λai ak=>?_
 haveI ai:g5 (.tup [.str q.1,ah q.2]) (.tup [.str p.1,ah p.2])=false:=ai
 rw[Dm,Dn,bq λe=>ak (D.str.inj e).symm]at ai
 exact ai
theorem JP{t:br}(bK:eo t):j9 t=(namesOf t).map D.str:=by
 refine bU (zx (t:=t)) λai ak=>?_
 have hf:=(yb t.size [] [(0,t)] 1 (bD _) List.nodup_nil).1
 have aR:((namesOf t).map D.str).Perm (j9 t):=by
  refine(List.perm_ext_iff_of_nodup (zE (λ_ _ e=>D.str.inj e) ai) (zA bK).1).mpr λd=>?_
  rw[DA,b5]
  exact exists_congr λx=>and_congr (ak x) eq_comm
 have aZ:(j9 t).Pairwise mf:=by cases t<;>exact zb _
 exact(wy (List.Perm.refl _) aZ).trans (wy aR (U9 _ hf)).symm
theorem PT{bk:List Nat}(ax:bk.Nodup){x:Str}{rows:List (List (Str×Nat))}(h:rows.Nodup):(rows.flatMap λrow=>bk.map λc=>row++[(x,c)]).Nodup:=by
 induction rows with
 |nil=>exact .nil
 |cons r rows aE=>
  have h:=kH.mp h
  rw[List.flatMap_cons,od]
  refine⟨zE (λa b e=>(Prod.mk.inj (List.cons.inj (List.append_cancel_left e)).1).2) ax,aE h.2,λa aC b ab e=>?_⟩
  refine aG (b5.mp aC) λc _ bC=>aG (List.mem_flatMap.mp ab) λeG dA ab=>aG (b5.mp ab) λez _ bY=>h.1 ?_
  rw[(List.append_inj' (bC.trans (e.trans bY.symm)) rfl).1];exact dA
theorem WM{bk:List Nat}(ax:bk.Nodup)(xs:List Str)(rows:List (List (Str×Nat)))(h:rows.Nodup):(rowsOf bk xs rows).Nodup/\(rowsOf bk xs rows).length=rows.length*bk.length^xs.length:=by
 induction xs generalizing rows with
 |nil=>exact⟨h,(Nat.mul_one _).symm⟩
 |cons x xs aE=>
  refine bU (aE _ (PT ax h (x:=x))) λa2 a9=>⟨a2,a9.trans ?_⟩
  rw[BH,fX,Nat.pow_succ,Nat.mul_assoc,Nat.mul_comm bk.length]
def pw(cf:Str->List Nat->Option Nat)(t:br)(rows:List (List (Str×Nat))):List Key:=rows.filterMap λrow=>(ev cf (asg row) t).map λc=>(c,row)
theorem zr{cf t rows}{q:Key}:q∈pw cf t rows↔q.2∈rows/\ev cf (asg q.2) t=some q.1:=by
 unfold pw
 rw[List.mem_filterMap]
 exact⟨λh=>aG h λrow au e=>fC e λc ax e=>e▸⟨au,ax⟩,λh=>⟨q.2,h.1,bb (Option.map λc=>(c,q.2)) h.2⟩⟩
theorem OI(cf:Str->List Nat->Option Nat)(t:br)(rows:List (List (Str×Nat))):(rows.map λrow=>D.tup [h1 (ev cf (asg row) t),fE row]).filter (λd=>match d with|.tup (x::_)=>!decide (x=D.none)|_=>false)=(pw cf t rows).map ii:=by
 induction rows with
 |nil=>rfl
 |cons row rows aE=>
  refine(bb (List.filter _) gm).trans (List.filter_cons.trans ?_)
  refine Eq.trans ?_ (bb (List.map ii) List.filterMap_cons).symm
  cases ev cf (asg row) t with
  |none=>exact aE
  |some c=>exact bb (D.tup [ah c,fE row]:: ·) aE
theorem Bo{cf t rows}(h:rows.Nodup):(pw cf t rows).Nodup/\(pw cf t rows).length<=rows.length:=by
 refine⟨?_,List.length_filterMap_le _ _⟩
 induction rows with
 |nil=>exact .nil
 |cons row rows aE=>
  rw[kH]at h
  refine(bb List.Nodup List.filterMap_cons).mpr ?_
  cases ev cf (asg row) t with
  |none=>exact aE h.2
  |some c=>exact kH.mpr ⟨λaL=>h.1 (zr (cf:=cf) (t:=t).mp aL).1,aE h.2⟩
theorem U8{az:aa}{dX:Nat}{r6 bk:List Nat}{src:o6}{pat aP bQ:Option D}(cH:az[dX]?=some (.list (r6.map ah)))(r4:r6.length<=6)(ie:dN (d6 (r6.map ah))=bk.map ah)(pE:bk.length<=6)(av:∀C,Pre az C->jw src C=true)
  (xs:List Str) (rows:List (List (Str×Nat))) (l:Nat) (a:Option D) (C:aa) (p:Pre az C) (h:C[l]?=some (.list (rows.map fE))) (aw:rows.length*6^xs.length<=1000) (au:∀r∈rows,r.length+xs.length<=100):
  ∃fT hG ao,ju src (b9 5) AS (xs.map D.str) [pat,aP,some (.obj dX),bQ,some (.obj l),a,none,none,none,none,none] C=some (.next,[pat,aP,some (.obj dX),bQ,some (.obj fT),hG,none,none,none,none,none],ao)/\Pre C ao/\ao[fT]?=some (.list ((rowsOf bk xs rows).map fE)):=by
 induction xs generalizing rows l a C with
 |nil=>exact⟨l,a,C,qB (av C p),.refl,h⟩
 |cons x xs aE=>
  have ai:rows.length*bk.length*6^xs.length<=1000:=by
   refine aO (Nat.mul_le_mul_right _ (Nat.mul_le_mul_left _ pE)) (aO (cB ?_) aw)
   rw[fX,Nat.pow_succ,Nat.mul_assoc,Nat.mul_comm 6]
  have hle:rows.length*bk.length<=1000:=aO (Nat.le_mul_of_pos_right _ (Nat.pow_pos ag)) ai
  refine fh (WN (az:=C) (m:=[pat,aP,some (.obj dX),bQ,some (.obj l),some (.str x),none,none,none,none,none]) (x:=x) (p _ _ cH) r4 ie h (dC (aO hle ag)) (λr dA=>aO (hD ..) (au r dA)) rfl rfl rfl C .refl) λwI aB aS aT a2 _=>?_
  refine d4 (aE _ wI (some (.str x)) aB (p.trans aT) a2 (BH rows▸ai) λr dA=>aG (List.mem_flatMap.mp dA) λeG ma R1=>aG (b5.mp R1) λc _ e=>?_) λl₂ mB a8 bf bx a9=>?_
  ·rw[←e,dO];exact aO (cB ((Nat.add_assoc ..).trans (bb (eG.length+ ·) (Nat.add_comm 1 _)))) (au eG ma)
  ·exact⟨l₂,mB,a8,mI (av C p) rfl (eg aS rfl rfl) bf,aT.trans bx,a9⟩
theorem G4(U:List bF):rM (U.map b1)=(List.range U.length).map λi=>D.tup [ah i,b1 (cF U i)]:=by
 unfold rM
 apply List.ext_getElem?
 intro i
 rw[iM,iM,List.getElem?_zipIdx,iM,Nat.zero_add]
 by_cases hi:i<U.length
 ·rw[j8 hi,List.getElem?_range hi];rfl
 ·rw[lM (Nat.le_of_not_lt hi),lM (by rw[fW];exact Nat.le_of_not_lt hi)];rfl
section
variable{U:List bF}{told done:List (Nat×Nat)}{h:cv}(O:Ok U told done h){az:aa}{ln dX:Nat}(aH:az[ln]?=some (.list (U.map b1)))(cH:az[dX]?=some (.list (((List.range U.length).map (root h.p)).map ah)))
include O aH cH
theorem TM{pat:D}:d5 az (ea (rN (aj 1)) [none,none,none,none,some 2] (gv [1,2]) ef (dL ve) [some pat,some (.obj ln),some (.obj dX),none,none,none,none,none,none,none,none]) ((List.range U.length).map λi=>D.tup [b1 (canon (root h.p) (cF U i)),ah (root h.p i)]):=by
 have iS:∀i,i<U.length->∀ao,Pre az ao->iW (.obj dX) (ah i) ao=some (ah (root h.p i)):=λi hi ao p=>li (p _ _ cH) (dE hi (aO O.six ag)) (tT (tT (List.getElem?_range hi)))
 have pG:=G4 U
 have:=pX (az:=az) (c:=ef) (e:=ve) (dk:=rN (aj 1)) (cw:=[none,none,none,none,some 2]) (as:=gv [1,2]) (m:=[some pat,some (.obj ln),some (.obj dX),none,none,none,none,none,none,none,none])
  (fr:=λd=>match d with|.tup [a,b]=>[none,some a,some b,none,some (.obj dX)]|_=>[]) (pp:=λ_=>true) (gx:=λd=>match d with|.tup [a,b]=>.tup [b1 (canon (root h.p) (n5 b)),ah (root h.p (gk a))]|d=>d) (λm=>∃a b,m=[none,a,b,none,some (.obj dX)])
  (SA (bP rfl) aH) ⟨none,none,rfl⟩ (λd hd m aR C=>?_) (λd hd=>?_) (λ_ _=>w3) (λd hd _=>?_) (by rw[pG,bR,fW];exact dC (aO O.six ag))
 ·rw[List.filter_eq_self.mpr (λ_ _=>rfl),pG,fj]at this
  have e:(List.range U.length).map ((λd=>match d with|D.tup [a,b]=>D.tup [b1 (canon (root h.p) (n5 b)),ah (root h.p (gk a))]|d=>d)∘λi=>D.tup [ah i,b1 (cF U i)])=(List.range U.length).map λi=>D.tup [b1 (canon (root h.p) (cF U i)),ah (root h.p i)]:=
   kE λi _=>by
    show D.tup [b1 (canon (root h.p) (n5 (b1 (cF U i)))),ah (root h.p (gk (ah i)))]=_
    rw[sD,i4]
  rw[e]at this
  exact this
 ·rw[pG]at hd
  exact aG (b5.mp hd) λi _ bY=>iH aR λa b aR=>bY▸aR▸rfl
 ·rw[pG]at hd
  refine aG (b5.mp hd) λi _ b3=>?_;subst b3
  exact⟨_,_,rfl⟩
 ·rw[pG]at hd
  refine aG (b5.mp hd) λi hi cj=>?_;subst cj
  have hi:=ft.mp hi
  have aq:=O.ok _ (eN (j8 hi))
  have hm:((cF U i).kids.map ah).length<=2:=aO (cB (bR _)) aq.2
  have tC:(((cF U i).kids.map (root h.p)).map ah).length<=2:=by rw[bR,bR];exact aq.2
  refine(?_:Run az (ve [none,some (ah i),some (b1 (cF U i)),none,some (.obj dX)]) (.tup [b1 (canon (root h.p) (n5 (b1 (cF U i)))),ah (root h.p (gk (ah i)))]))
  rw[sD,i4]
  refine m5 (mq (oS (a:=.tup [.str (cF U i).op]) (d:=.tup (((cF U i).kids.map (root h.p)).map ah)) (m5 (fs (e2 (bP rfl) dI λ_ _=>rfl))) (w4 (xs:=((cF U i).kids.map (root h.p)).map ah) ?_ ?_) λao _=>?_) (fs (e2 (bP rfl) (bP rfl) (iS i hi))))
  ·rw[←Jz]
   refine lD (sa (ua (v:=.tup ((cF U i).kids.map ah)) (bP rfl) dI (nD (dC (aO (fi hm) ag))))) (λd hd=>?_) (dC (aO hm ag))
   refine aG (b5.mp hd) λk dt cA=>?_;subst cA
   exact e2 (bP rfl) (bP rfl) (iS k (O.inv.mV _ (eN (j8 hi)) k dt))
  ·exact dC (aO tC ag)
  ·exact a3 (dC (aO (gH tC 1) (Nat.le_of_ble_eq_true rfl)))
end
section
variable{U:List bF}{told done:List (Nat×Nat)}{h:cv}(O:Ok U told done h){az:aa}{ln dX:Nat}(aH:az[ln]?=some (.list (U.map b1)))(cH:az[dX]?=some (.list (((List.range U.length).map (root h.p)).map ah)))
include O
theorem RR:∃bk:List Nat,dN (d6 (((List.range U.length).map (root h.p)).map ah))=bk.map ah/\bk.Nodup/\bk.length<=6/\∀c,c∈bk↔c∈gM U h:=by
 refine iv (Ez (f:=ah) ((List.range U.length).map (root h.p))) λbk ai ak aV bL=>?_
 refine⟨bk,ai,zF aV,?_,λc=>?_⟩
 ·exact aO ak (aO (xT _) (by rw[bR,bR,fW];exact O.six))
 ·exact tW.symm.trans ((bL c).trans (tW.trans (b5.trans ⟨λq=>aG q λi hi e=>e▸zT O (ft.mp hi),λax=>⟨c,ft.mpr (tV.mp ax).1,Bc O ax⟩⟩)))
theorem Ys{eh:aa}{t:br}{row:List (Str×Nat)}{lk:Nat}{a b:Option D}(bK:eo t)(hd:t.dep<4)(aq:eh[lk]?=some (.du (iq [] (kT U h))))(aH:(row.map (·.1)).Nodup)(aU:∀x∈t.vars,x∈row.map (·.1))(aw:row.length<=100):
  Run eh (Bs [none,some (fE row),a,b,some (.obj lk),some (co t)]) (.tup [h1 (ev (tabOf U h) (asg row) t),fE row]):=λC p=>by
 haveI ai:bW (ay (aj 1) aJ) s5 [none,some (fE row),a,b,some (.obj lk),some (co t)] C=some (.obj C.length,C++[.ee (iq [] (row.map λp=>(p.1,ah p.2)))]):=by
  exact x_call (cp rfl) (bp (WL row) (a3 (dC (aO (cB (bR _)) (aO aw ag)))))
 refine aG (N6 (az:=C++[.ee (iq [] (row.map λp=>(p.1,ah p.2)))]) (cf:=tabOf U h) (s:=asg row) (lt:=C.length) (lk:=lk) (fx _) (Pre.app _ _ _ (p _ _ aq)) (TN O) TK 4 t bK hd (λx ar=>WK aH (aU x ar)) _ .refl) λa8 bf bx=>?_
 exact⟨a8,hC (eC (x_call (eC (e:=aj 5) rfl (eC ai (cp rfl))) bf) (cp rfl)),(Pre.app _).trans bx⟩
omit O in
theorem KV{t:br}(bK:eo t){bk:List Nat}(ax:bk.Nodup)(pE:bk.length<=6):(namesOf t).length<=2/\(rowsOf bk (namesOf t) [[]]).Nodup/\(rowsOf bk (namesOf t) [[]]).length<=36:=by
 have iY:(namesOf t).length<=2:=aO (cB ((bR _).symm.trans (bb List.length (JP bK).symm))) (zA bK).2
 refine bU (WM ax (namesOf t) [[]] (List.pairwise_singleton ..)) λai ak=>⟨iY,ai,?_⟩
 rw[ak,List.length_singleton,Nat.one_mul]
 exact aO (Nat.pow_le_pow_left pE _) (aO (Nat.pow_le_pow_right ag iY) ag)
omit O in
theorem Et{t:br}(bK:eo t){bk:List Nat}{row:List (Str×Nat)}(au:row∈rowsOf bk (namesOf t) [[]]):row.map (·.1)=namesOf t/\∀q∈row,jH q.1:=by
 refine aG ((zs _ _ _).mp au) λp5 bV q=>eB q λvs ai _ e=>?_
 rw[cK.mp bV,List.nil_append]at e
 have e:row.map (·.1)=namesOf t:=e▸List.map_fst_zip (cB ai.symm)
 exact⟨e,λq aL=>EX t bK _ ((zx.2 _).mp (e▸b5.mpr ⟨q,aL,rfl⟩))⟩
include aH cH
theorem OJ{t:br}(bK:eo t)(hd:t.dep<4){bk:List Nat}(ie:dN (d6 (((List.range U.length).map (root h.p)).map ah))=bk.map ah)(ax:bk.Nodup)(pE:bk.length<=6):
  d5 az (vA [co t,.obj ln,.obj dX]) (dN ((pw (tabOf U h) t (rowsOf bk (namesOf t) [[]])).map ii)):=λC p=>by
 refine bU (zx (t:=t)) λnn Vk=>?_
 refine fV (KV bK ax pE) λiY zS jb=>?_
 refine fh (TM O aH cH (pat:=co t) C p) λwI aB aS aT a2 _=>?_
 have hm:((kT U h)).length<=lim:=by unfold kT;rw[bR,fW];exact dC (aO O.six ag)
 have x3:bW (ay (ea (rN (aj 1)) [none,none,none,none,some 2] (gv [1,2]) ef (dL ve)) aJ) s5 [some (co t),some (.obj ln),some (.obj dX),none,none,none,none,none,none,none,none] C=some (.obj aB.length,aB++[.du (iq [] (kT U h))]):=by
  exact x_call (cp aS) (bp (il a2) (bp (TL O) (a3 hm)))
 have bx:Pre C (aB++[.du (iq [] (kT U h))]++[.list [fE []]]):=(aT.trans (.app _)).trans (.app _)
 refine fh (U7 4 t bK hd _ bx) λDp cg cY cx bC _=>?_
 rw[JP bK]at bC
 refine d4 (U8 (az:=cg) (dX:=dX) (src:=some (Dp,(namesOf t).map D.str)) (pat:=some (co t)) (aP:=some (.obj ln)) (bQ:=some (.obj aB.length)) (cx _ _ (bx _ _ (p _ _ cH))) (by rw[bR,fW];exact O.six) ie pE (λao gi=>mK (gi _ _ bC)) (namesOf t) [[]] (aB++[bG.du (iq [] (kT U h))]).length none cg .refl (cx _ _ (fx _)) (aO (cB (Nat.one_mul _)) (aO (Nat.pow_le_pow_right ag iY) ag)) (λr au=>cK.mp au▸aO (cB (Nat.zero_add _)) (aO iY ag))) λpY sZ eh hh dm bY=>?_
 have Rn:eh[aB.length]?=some (.du (iq [] (kT U h))):=dm _ _ (cx _ _ (Pre.app _ _ _ (fx _)))
 refine fh (lD (az:=eh) (m:=[some (co t),some (.obj ln),some (.obj dX),some (.obj aB.length),some (.obj pY),sZ,none,none,none,none,none]) (dk:=c9 (aj 4)) (cw:=[none,none,none,none,some 3,some 0]) (i:=1) (e:=Bs) (gx:=λd=>.tup [h1 (ev (tabOf U h) (asg (Ae d)) t),d]) (tI (bP rfl) bY)
  (λd cW=>by
   refine aG (b5.mp cW) λrow au a2=>?_;subst a2
   have ir:=(Et bK au).1
   rw[Af]
   exact Ys O bK hd Rn (ir▸nn) (λx ar=>ir▸(Vk x).mpr ar) (aO (cB ((bR _).symm.trans (bb List.length ir))) (aO iY ag))) (dC (aO (cB (bR _)) (aO jb ag))) eh .refl) λJx iN iC hQ b3 _=>?_
 rw[tS (k:=id) (qy:=λrow=>D.tup [h1 (ev (tabOf U h) (asg row) t),fE row]) (λrow _=>by rw[Af];rfl),List.map_id]at b3
 refine fh (Jf (az:=iN) (m:=[some (co t),some (.obj ln),some (.obj dX),some (.obj aB.length),some (.obj pY),sZ,some (.obj Jx),none,none,none,none]) (e:=ea (c9 (aj 6)) [none,none] (b9 1) Lh (dL GU)) (xs:=(pw (tabOf U h) t (rowsOf bk (namesOf t) [[]])).map ii) (by
   rw[←OI,←List.map_id (List.filter _ _)]
   refine pX (fr:=λd=>[none,some d]) (gx:=id) (λm=>∃a,m=[none,a]) (tI (bP rfl) b3) ⟨none,rfl⟩ (λd _ m aR C=>a6 aR λa aR=>aR▸rfl) (λd _=>⟨_,rfl⟩) (λd cW=>?_) (λd _ _=>bP rfl) (dC (aO (cB (bR _)) (aO jb ag)))
   refine aG (b5.mp cW) λrow _ a2=>?_;subst a2
   exact h3 (a:=h1 (ev (tabOf U h) (asg row) t)) (e2 (bP rfl) dI λ_ _=>rfl) dI λao _=>rfl)
  (I3 (Bo zS).1 (e6 (aO (Bo (cf:=tabOf U h) (t:=t) zS).2 jb) ag) λq aL gi d7=>ur ((Et bK (zr.mp aL).1).2 gi d7)) iN .refl) λDq jM lp lH cj Ru=>?_
 refine⟨Dq,jM,gN (c3:=.ret (.obj Dq)) (m:=[some (co t),some (.obj ln),some (.obj dX),some (.obj aB.length),some (.obj pY),sZ,some (.obj Jx),none,none,none,none]) rfl ?_,(((bx.trans cx).trans dm).trans hQ).trans lH,cj,aO (((bx.trans cx).trans dm).trans hQ).len Ru⟩
 refine eg (bh:=[some (co t),some (.obj ln),some (.obj dX),some (.obj aB.length),none,none,none,none,none,none,none]) x3 rfl (eg (d:=.obj (aB++[bG.du (iq [] (kT U h))]).length) (aB:=aB++[.du (iq [] (kT U h))]++[.list [fE []]]) (bh:=[some (co t),some (.obj ln),some (.obj dX),some (.obj aB.length),some (.obj (aB++[bG.du (iq [] (kT U h))]).length),none,none,none,none,none,none]) rfl rfl ?_)
 have OT:jX (c9 (bW (ay (aj 0) aJ) (vB 4))) (b9 5) AS [some (co t),some (.obj ln),some (.obj dX),some (.obj aB.length),some (.obj (aB++[bG.du (iq [] (kT U h))]).length),none,none,none,none,none,none] (aB++[.du (iq [] (kT U h))]++[.list [fE []]])=some (.next,[some (co t),some (.obj ln),some (.obj dX),some (.obj aB.length),some (.obj pY),sZ,none,none,none,none,none],eh):=by
  exact E2 (x_call (cp (e:=aj 0) rfl) cY) bC hh
 exact jJ OT (eg iC rfl (iI lp))
end
theorem Xq(C:aa)(a b c:bG):(C++[a]++[b]).set C.length c=C++[c]++[b]:=by
 rw[List.append_assoc,List.set_append_right _ _ (bD _),Nat.sub_self,List.append_assoc];rfl
theorem Ur(C:aa):to [.obj 4] C=some (.obj (C.length+1),C++[.ns [("heap",.obj 4)]]++[.inst 217 C.length]):=by
 haveI hi:hy (C++[.ns []]++[.inst 217 C.length]) 217 (C.length+1)=some (C.length,[]):=by
  haveI ai:(C++[bG.ns []]++[bG.inst 217 C.length])[C.length+1]?=some (.inst 217 C.length):=by
   haveI:=fx (C:=C++[bG.ns []]) (bG.inst 217 C.length)
   rw[dO]at this;exact this
  haveI ak:(C++[bG.ns []]++[bG.inst 217 C.length])[C.length]?=some (.ns []):=Pre.app _ _ _ (fx _)
  exact wv ai ak
 haveI ab:Hf (mh [some 0,some 1] [.obj (C.length+1),.obj 4]) (C++[.ns []]++[.inst 217 C.length])=some (.next,mh [some 0,some 1] [.obj (C.length+1),.obj 4],C++[.ns [("heap",.obj 4)]]++[.inst 217 C.length]):=by
  refine eg (d:=.obj 4) (aB:=C++[.ns []]++[.inst 217 C.length]) rfl ?_ rfl
  exact ck ((Xr hi (es _)).trans (bb some (Xq ..)))
 unfold to tR
 rw[show BN (.obj (C.length+1)::[.obj 4]) (C++[.ns []]++[.inst 217 C.length])=some (.none,C++[.ns [("heap",.obj 4)]]++[.inst 217 C.length])from gN (c3:=.next) rfl ab]
 rfl
theorem Tg{G:List Key}(aD:∀q∈G,∀p∈q.2,PyData.strOk p.1=true):D.da (dN (G.map ii))=true/\D.ew (dN (G.map ii))<=20:=by
 have aR:∀d∈dN (G.map ii),d.cO=true/\d.depth<=8:=λd hd=>by
  refine aG (b5.mp ((oI _).mem_iff.mp hd)) λq aL b3=>?_;subst b3
  exact I1 (aD q aL)
 exact⟨pV.mpr λd hd=>(aR d hd).1,pv.mpr λd hd=>aO (aR d hd).2 ag⟩
section
variable{U:List bF}{told done:List (Nat×Nat)}{h:cv}(O:Ok U told done h){az:aa}{bH bw:Nat->Nat}{ks:List Nat}{B:Nat}{pr:List (Nat×bG)}(H:b8 az U h bH bw ks B pr){ln dX:Nat}(aH:az[ln]?=some (.list (U.map b1)))(cH:az[dX]?=some (.list (((List.range U.length).map (root h.p)).map ah)))
include O H aH cH
theorem N0{t:br}(bK:eo t)(hd:t.dep<4)(aZ:t.size<=18){m:aK}(ak:m.at 2=some (.obj 4))(l2:m.at 13=some (co t))(bL:m.at 4=some (.obj ln))(l1:m.at 11=some (.obj dX)):
  Run az (cP .NotEq (dy 217 "run" (bW (ay (aj 2) aJ) to) (ay (bW (ay (aj 13) aJ) vG) aJ) vx) (bW (ay (aj 13) (ay (aj 4) (ay (aj 11) aJ))) vA) m) false:=λC p=>by
 refine iv (RR O) λbk ie ax pE kQ=>?_
 refine fV (KV bK ax pE) λ_ zS cZ=>?_
 have pB:=Bo (cf:=tabOf U h) (t:=t) zS
 have aD:∀q∈pw (tabOf U h) t (rowsOf bk (namesOf t) [[]]),∀p∈q.2,PyData.strOk p.1=true:=λq aL p aF=>ur ((Et bK (zr.mp aL).1).2 p aF)
 have gQ:∀q,q∈pw (tabOf U h) t (rowsOf bk (namesOf t) [[]])↔∃c∈gM U h,q∈outs (gg U h) (gen g7 t.size [] [(0,t)] 1) [c]:=λq=>by
  have qQ:=Uw (eW:=g7) (cf:=tabOf U h) (ho:=gg U h) (cls:=bk) (t:=t) (n:=t.size) (Yl O) (λl x=>Dw) (λo ks c e=>by
   refine bU (Yk O e) λa2 a9=>?_
   exact⟨(kQ c).mpr a2,λk aq=>(kQ k).mpr (a9 k aq)⟩) (bD _) zx.1 q
  rw[zr]
  exact⟨λdb=>aG (qQ.mpr ⟨q.2,db.1,db.2,rfl⟩) λc gs hJ=>⟨c,(kQ c).mp gs,hJ⟩,λd0=>aG d0 λc gs hJ=>eB (qQ.mp ⟨c,(kQ c).mpr gs,hJ⟩) λrow ir nW Wo=>Wo▸⟨ir,nW⟩⟩
 have hn:=P0 t.size [] [(0,t)] 1 (bD _) (λq aL=>by rw[cK.mp aL];exact⟨bK,Nat.one_pos⟩) ka (aO (gH (Nat.mul_le_mul_left 2 aZ) 1) ag)
 have oC:=HA t.size [] [(0,t)] 1 (bD _)
 have DN:Pre C (C++[.ns [("heap",.obj 4)]]++[.inst 217 C.length]):=(Pre.app _).trans (.app _)
 have hk:∀ao,Pre (C++[.ns [("heap",.obj 4)]]++[.inst 217 C.length]) ao->hy ao 217 (C.length+1)=some (C.length,([("heap",.obj 4)]:List (Str×D))):=λao gi=>by
  have ai:(C++[bG.ns [("heap",.obj 4)]]++[bG.inst 217 C.length])[C.length+1]?=some (.inst 217 C.length):=by
   have:=fx (C:=C++[bG.ns [("heap",.obj 4)]]) (bG.inst 217 C.length)
   rw[dO]at this;exact this
  have ak:(C++[bG.ns [("heap",.obj 4)]]++[bG.inst 217 C.length])[C.length]?=some (.ns [("heap",.obj 4)]):=Pre.app _ _ _ (fx _)
  exact wv (gi _ _ ai) (gi _ _ ak)
 have aF:=VT (az:=C++[.ns [("heap",.obj 4)]]++[.inst 217 C.length]) bK aZ
 refine aG (aF _ .refl) λa8 bf bx=>?_
 refine fh (WP O (H.pre (p.trans DN)) hk (aO oC (aO (fi aZ) ag)) hn pB.1 gQ (e6 (aO pB.2 cZ) ag) aD a8 bx) λDp cg cY cx bC _=>?_
 refine fh (OJ O aH cH bK hd ie ax pE cg ((p.trans DN).trans (bx.trans cx))) λpY eh hh dm bY _=>?_
 refine⟨eh,?_,(DN.trans (bx.trans cx)).trans dm⟩
 have vi:∀{i d C},m.at i=some d->aj i m C=some (d,C):=λh=>ck h
 have iC:dy 217 "run" (bW (ay (aj 2) aJ) to) (ay (bW (ay (aj 13) aJ) vG) aJ) vx m C=some (.obj Dp,cg):=by
  exact(tX (x_call (cp (vi ak)) (Ur C)) (hk _ .refl) ag (cp (x_call (cp (vi l2)) bf))).trans cY
 have lp:=x_call (gO:=vA) (eC (vi l2) (eC (vi bL) (cp (vi l1)))) hh
 refine bU (Tg aD) λe5 jA=>?_
 exact fF iC lp ((ck (x7 (dm _ _ bC) bY e5 e5 jA)).trans (by rw[dT rfl];rfl))
end
theorem int_at{f:Int->Int->Option Int}{i j k:Int}{C:aa}(h:f i j=some k):wx f (.int i) (.int j) C=some (.int k,C):=bb (Option.map λk=>(D.int k,C)) h
def ec(k:Nat):bG:=.ee [("cells",.obj 1),("spot",ah k)]
structure rp(C:aa)(k:Nat):Prop where
 feed:C[2]?=some (ec k)
 cells:∃cells:List Int,C[1]?=some (.list (cells.map D.int))/\cells.length<=60
theorem rp.set{C:aa}{k:Nat}(F:rp C k)(bZ:Nat):rp (C.set 2 (ec bZ)) bZ:=⟨gT F.feed,by refine aG F.cells λc ai ak=>?_;exact⟨c,by rw[k0 ag];exact ai,ak⟩⟩
theorem Hk(a:Int){w:Nat}(hw:0<w):∃v,v<w/\a.fmod (w:Int)=(v:Int):=by
 have hw:(0:Int)<(w:Int):=Int.natCast_pos.mpr hw
 have ai:0<=a.fmod (w:Int):=Int.fmod_nonneg_of_pos a hw
 exact⟨(a.fmod w).toNat,(Int.toNat_lt ai).mpr (Int.fmod_lt_of_pos a hw),(Int.toNat_of_nonneg ai).symm⟩
theorem NU:∀k:Nat,k<=300->Builtin.Int.intBits (7*(k:Int))<=64/\Builtin.Int.intBits (7*(k:Int)*(k:Int))<=64:=by decide+kernel
theorem wR{C:aa}{k w:Nat}(F:rp C k)(aq:k<=300)(hw:0<w):∃v,v<w/\hu [.obj 2,ah w] C=some (ah v,C.set 2 (ec (k+1))):=by
 refine aG F.cells λcells ax aw=>?_
 haveI Au:=F.set (k+1)
 haveI HX:(C.set 2 (ec (k+1)))[1]?=some (.list (cells.map D.int)):=by rw[k0 ag];exact ax
 haveI fR:cells.length<=lim:=by unfold lim;lia
 haveI HY:∀m:aK,m.at 0=some (.obj 2)->bX (aj 0) (a7 (.str "cells")) m (C.set 2 (ec (k+1)))=some (.obj 1,C.set 2 (ec (k+1))):=λm aR=>by
  haveI:iW (.obj 2) (.str "cells") (C.set 2 (ec (k+1)))=some (.obj 1):=zW Au.feed rfl
  exact kZ (ck aR) rfl this
 haveI cZ:∀m:aK,m.at 0=some (.obj 2)->bW (ay (bX (aj 0) (a7 (.str "cells"))) aJ) ek m (C.set 2 (ec (k+1)))=some (ah cells.length,C.set 2 (ec (k+1))):=λm aR=>by
  exact x_call (cp (HY m aR)) ((sh HX (aO (cB (bR _)) fR)).trans (by rw[bR];rfl))
 haveI ai:bX (aj 0) (a7 (.str "spot")) [some (.obj 2),some (ah w),none,none] C=some (ah k,C):=by
  exact kZ (a:=.obj 2) rfl rfl (zW F.feed rfl)
 haveI ak:m7 (aj 0) (a7 (.str "spot")) (ah (k+1)) [some (.obj 2),some (ah w),some (ah k),none] C=some ([some (.obj 2),some (ah w),some (ah k),none],C.set 2 (ec (k+1))):=by
  exact ck (K0 F.feed (Nat.le_of_ble_eq_true rfl))
 haveI key:∀v,Hg [some (.obj 2),some (ah w),none,none] C=some (.ret (ah v),[some (.obj 2),some (ah w),some (ah k),none],C.set 2 (ec (k+1)))->hu [.obj 2,ah w] C=some (ah v,C.set 2 (ec (k+1))):=λv aU=>gN (c3:=.ret (ah v)) rfl aU
 by_cases cz:k<cells.length
 ·refine aG (Hk (cells.getD k 0) hw) λv aU e=>?_
  refine⟨v,aU,key v ?_⟩
  refine eg ai rfl (eg (d:=ah (k+1)) (aB:=C) rfl ak ?_)
  haveI oB:cP .Lt (aj 2) (bW (ay (bX (aj 0) (a7 (.str "cells"))) aJ) ek) [some (.obj 2),some (ah w),some (ah k),none] (C.set 2 (ec (k+1)))=some (true,C.set 2 (ec (k+1))):=by
   refine fF (f:=aj 2) (aB:=C.set 2 (ec (k+1))) rfl (cZ _ rfl) ?_
   exact bb some (dT (Int.ofNat_lt.mpr cz))
  haveI QW:bX (bX (aj 0) (a7 (.str "cells"))) (aj 2) [some (.obj 2),some (ah w),some (ah k),none] (C.set 2 (ec (k+1)))=some (.int (cells.getD k 0),C.set 2 (ec (k+1))):=by
   exact kZ (g:=aj 2) (HY _ rfl) rfl (li HX (e6 aq ag) (sj cz))
  haveI RG:=hT (op:=.Mod) (g:=aj 1) QW rfl (v:=ah v) (cg:=C.set 2 (ec (k+1))) (by
   exact int_at (f:=λi j=>if j≠0 then some (i.fmod j)else none) ((a3 (by lia)).trans (bb some e)))
  exact uw oB (iI RG)
 ·refine aG (Hk ((7*(k:Int)*(k:Int)+2*(k:Int)+3+9*(cells.length:Int)).fmod 113) hw) λv aU e=>?_
  refine⟨v,aU,key v ?_⟩
  refine eg ai rfl (eg (d:=ah (k+1)) (aB:=C) rfl ak ?_)
  haveI oB:cP .Lt (aj 2) (bW (ay (bX (aj 0) (a7 (.str "cells"))) aJ) ek) [some (.obj 2),some (ah w),some (ah k),none] (C.set 2 (ec (k+1)))=some (false,C.set 2 (ec (k+1))):=by
   refine fF (f:=aj 2) (aB:=C.set 2 (ec (k+1))) rfl (cZ _ rfl) ?_
   exact bb some (fu λq=>cz (Int.ofNat_lt.mp q))
  refine bU (NU k aq) λkk kl=>?_
  refine h6 oB rfl ?_
  haveI mg:=hT (op:=.Mult) (f:=λ_ C=>some (.int 7,C)) (g:=aj 2) (m:=[some (.obj 2),some (ah w),some (ah k),none]) (C:=C.set 2 (ec (k+1))) rfl rfl (v:=.int (7*(k:Int))) rfl
  haveI qZ:=hT (op:=.Mult) (g:=aj 2) mg rfl (v:=.int (7*(k:Int)*(k:Int))) (cg:=C.set 2 (ec (k+1))) (by
   exact int_at (f:=λi j=>if Builtin.Int.intBits i<=64 then some (i*j)else none) (a3 kk))
  haveI zp:=hT (op:=.Mult) (f:=λ_ C=>some (.int 2,C)) (g:=aj 2) (m:=[some (.obj 2),some (ah w),some (ah k),none]) (C:=C.set 2 (ec (k+1))) rfl rfl (v:=.int (2*(k:Int))) rfl
  haveI Dt:=hT (op:=.Mult) (f:=λ_ C=>some (.int 9,C)) (m:=[some (.obj 2),some (ah w),some (ah k),none]) (C:=C.set 2 (ec (k+1))) rfl (cZ _ rfl) (v:=.int (9*(cells.length:Int))) rfl
  haveI aX:=hT (op:=.Add) qZ zp (v:=.int (7*(k:Int)*(k:Int)+2*(k:Int))) rfl
  haveI bg:=hT (op:=.Add) (g:=λ_ C=>some (.int 3,C)) aX rfl (v:=.int (7*(k:Int)*(k:Int)+2*(k:Int)+3)) rfl
  haveI bQ:=hT (op:=.Add) bg Dt (v:=.int (7*(k:Int)*(k:Int)+2*(k:Int)+3+9*(cells.length:Int))) rfl
  haveI iQ:=hT (op:=.Mod) (g:=λ_ C=>some (.int 113,C)) bQ rfl (v:=.int ((7*(k:Int)*(k:Int)+2*(k:Int)+3+9*(cells.length:Int)).fmod 113)) rfl
  haveI nz:=hT (op:=.Mod) (g:=aj 1) iQ rfl (v:=ah v) (cg:=C.set 2 (ec (k+1))) (by
   exact int_at (f:=λi j=>if j≠0 then some (i.fmod j)else none) ((a3 (by lia)).trans (bb some e)))
  exact iI nz
theorem tQ(a b:Nat)(C:aa):he .Lt (ah a) (ah b) C=some (decide (a<b)):=by
 exact bb some (decide_eq_decide.mpr Int.ofNat_lt)
theorem vI(a b:Nat)(C:aa):he .Gt (ah a) (ah b) C=some (decide (b<a)):=by
 exact bb some (decide_eq_decide.mpr Int.ofNat_lt)
theorem lq(a b:Nat)(C:aa):he .Eq (ah a) (ah b) C=some (decide (a=b)):=by rw[va,Bn]
theorem Kf(n:Nat){k v:Nat}{C:aa}(F:rp C k)(aq:k+4<=300)(aU:v<4)(hw:cS (bW (ay (aj 0) (ay (j5 (cP .Gt (aj 1) (a7 (.int 0))) (a7 (.int 7)) (a7 (.int 4))) aJ)) hu) (b9 2) [some (.obj 2),some (ah n),none,none,none,none,none] C=some (.next,[some (.obj 2),some (ah n),some (ah v),none,none,none,none],C.set 2 (ec (k+1)))):
  ∃t bZ,eo t/\t.dep<=1/\t.size<=1/\bZ<=k+2/\qG (n+1) [.obj 2,ah n] C=some (co t,C.set 2 (ec bZ)):=by
 by_cases aV:v<3
 ·refine⟨.var (if v=1 then"?y" else"?x"),k+1,LF,es _,bD _,k1 _,?_⟩
  refine gN (c3:=.ret (co (.var (if v=1 then"?y" else"?x")))) rfl (jJ hw (uw (fF (f:=aj 2) rfl rfl ((tQ v 3 _).trans (by rw[dT aV]))) (iI ?_)))
  refine kZ (f:=dd _) (g:=aj 2) (hC rfl) rfl (rd ?_ (by lia) _)
  exact Dk aV rfl rfl rfl
 ·obtain rfl:v=3:=Nat.le_antisymm (nd aU) (Nat.le_of_not_lt aV)
  refine aG (wR (F.set (k+1)) (w:=3) (aO (gH ag k) aq) ag) λu cJ bf=>?_
  rw[List.set_set]at bf
  refine⟨.op (if u=0 then"a" else if u=1 then"b" else"c") [],k+2,⟨Dk cJ (.inl rfl) (.inr (.inl rfl)) (.inr (.inr (.inl rfl))),es _,trivial⟩,bD _,bD _,bD _,?_⟩
  refine gN (c3:=.ret (co (.op (if u=0 then"a" else if u=1 then"b" else"c") []))) rfl (jJ hw (h6 (fF (f:=aj 2) rfl rfl (tQ 3 3 _)) rfl (uw (fF (f:=aj 2) rfl rfl (lq 3 3 _)) (iI (hC (cp ?_))))))
  refine kZ (f:=dd _) (hC rfl) (x_call (eC (e:=aj 0) rfl (cp (e:=λ_ C=>some (D.int 3,C)) rfl)) bf) (rd ?_ (by lia) _)
  exact Dk cJ rfl rfl rfl
theorem Nb{k P:Nat}(h:k+2*P<=300)(bL:4<=P):k<=300/\k+4<=300/\k+1+P<=300/\∀j,j<=k+2->j+2<=k+2*P:=⟨by lia,by lia,by lia,by lia⟩
theorem Nc{k P j:Nat}(h:k+2*P<=300)(bL:4<=P)(b:j+2<=k+1+P):j+P<=300/\j+2<=k+2*P/\∀i,i+2<=j+P->i<=300/\i+1+2<=k+2*P/\i+2<=k+2*P:=⟨by lia,by lia,λi hi=>⟨by lia,by lia,by lia⟩⟩
theorem Nd{S a b:Nat}(aC:a<S)(ab:b<S):1+(a+(b+0))<2*S:=by lia
theorem Nf{S a:Nat}(h:2<=S)(aC:a<S):1+(a+0)<2*S:=by lia
theorem VD:∀(fl k:Nat) (C:aa),rp C k->k+2^(fl+2)<=300->∃t bZ,eo t/\t.dep<=fl+1/\t.size<2^(fl+1)/\bZ+2<=k+2^(fl+2)/\qG (fl+1) [.obj 2,ah fl] C=some (co t,C.set 2 (ec bZ)):=by
 intro fl
 induction fl with
 |zero=>
  intro k C F aq
  refine aG (wR F (w:=4) (aO (hD ..) aq) ag) λv aU e=>?_
  have hw:cS (bW (ay (aj 0) (ay (j5 (cP .Gt (aj 1) (a7 (.int 0))) (a7 (.int 7)) (a7 (.int 4))) aJ)) hu) (b9 2) [some (.obj 2),some (ah 0),none,none,none,none,none] C=some (.next,[some (.obj 2),some (ah 0),some (ah v),none,none,none,none],C.set 2 (ec (k+1))):=by
   exact bp (x_call (eC (e:=aj 0) rfl (cp (E5 (c:=cP .Gt _ _) (g:=λ_ C=>some (.int 4,C)) (fF (f:=aj 1) rfl rfl (vI 0 0 C)) rfl))) e) rfl
  exact jh (Kf 0 F aq aU hw) λt bZ aX bg bQ cm gB=>⟨t,bZ,aX,bg,L1 bQ,aO (nb cm 2) (bD _),gB⟩
 |succ fl aE=>
  intro k C F aq
  have ak:2^(fl+1+2)=2*2^(fl+2):=by rw[show fl+1+2=(fl+2)+1 from rfl,Nat.pow_succ,Nat.mul_comm]
  have ai:2^(fl+1+1)=2*2^(fl+1):=by rw[Nat.pow_succ,Nat.mul_comm]
  have bL:4<=2^(fl+2):=by rw[Nat.pow_add];exact Nat.le_mul_of_pos_left _ (Nat.pow_pos ag)
  have dx:2<=2^(fl+1):=by rw[Nat.pow_succ];exact Nat.le_mul_of_pos_left _ (Nat.pow_pos ag)
  rw[ak]at aq
  rw[ai,ak]
  refine qc (Nb aq bL) λaP aX bg bQ=>?_
  refine aG (wR F (w:=7) aP ag) λv aU e=>?_
  have hw:cS (bW (ay (aj 0) (ay (j5 (cP .Gt (aj 1) (a7 (.int 0))) (a7 (.int 7)) (a7 (.int 4))) aJ)) hu) (b9 2) [some (.obj 2),some (ah (fl+1)),none,none,none,none,none] C=some (.next,[some (.obj 2),some (ah (fl+1)),some (ah v),none,none,none,none],C.set 2 (ec (k+1))):=by
   exact bp (x_call (eC (e:=aj 0) rfl (cp (Am (c:=cP .Gt _ _) (f:=λ_ C=>some (.int 7,C)) (fF (f:=aj 1) rfl rfl ((vI (fl+1) 0 C).trans (bb some (dT (Nat.succ_pos _))))) rfl))) e) rfl
  by_cases CK:v<4
  ·exact jh (Kf (fl+1) F aX CK hw) λt bZ gs hJ s7 qr qs=>⟨t,bZ,gs,aO hJ (oX ..),e6 s7 (dE (dE ag dx) (Nat.le_mul_of_pos_left _ ag)),bQ _ qr,qs⟩
  ·have aV:¬v<3:=λq=>CK (Nat.lt_succ_of_lt q)
   have r8:v≠3:=λq=>CK (q▸oc 3)
   refine jh (aE (k+1) _ (F.set (k+1)) bg) λb4 c6 iZ iQ s1 kk aS=>?_
   refine fV (Nc aq bL kk) λg1 g2 g3=>?_
   rw[List.set_set]at aS
   have gs:∀m C,m.at 0=some (.obj 2)->m.at 1=some (ah (fl+1))->ay (aj 0) (ay (et .Sub (aj 1) (a7 (.int 1))) aJ) m C=some ([.obj 2,ah fl],C):=λm C mm a2=>by
    refine eC (ck mm) (cp (hT (op:=.Sub) (ck a2) rfl ?_))
    refine(?_:some (D.int (((fl+1:Nat):Int)-1),C)=some (ah fl,C))
    rw[Int.natCast_succ,Int.add_sub_cancel];rfl
   have tr:=x_call (gO:=qG (fl+1)) (gs [some (.obj 2),some (ah (fl+1)),some (ah v),none,none,none,none] (C.set 2 (ec (k+1))) rfl rfl) aS
   by_cases IB:v=4
   ·subst IB
    refine⟨.op "f" [b4],c6,⟨.inr (.inr (.inr (.inl rfl))),k1 1,iZ,trivial⟩,aO (cB (Nat.add_comm 1 _)) (fi (Nat.max_le.mpr ⟨iQ,es _⟩)),Nf dx s1,g2,?_⟩
    refine gN (c3:=.ret (co (.op "f" [b4]))) rfl (jJ hw (h6 (fF (f:=aj 2) rfl rfl (tQ 4 3 _)) rfl (h6 (fF (f:=aj 2) rfl rfl (lq 4 3 _)) rfl (eg tr rfl (uw (fF (f:=aj 2) rfl rfl (lq 4 4 _)) (iI (hC rfl)))))))
   ·refine jh (aE c6 _ (F.set c6) g1) λcN dH ip nz s2 kl bf=>?_
    refine fV (g3 dH kl) λf1 f2 vm=>?_
    rw[List.set_set]at bf
    have d2:=x_call (gO:=qG (fl+1)) (gs [some (.obj 2),some (ah (fl+1)),some (ah v),some (co b4),none,none,none] (C.set 2 (ec c6)) rfl rfl) bf
    have Cn:∀(o:Str) (tL:Nat),su o->tL+2<=k+2*2^(fl+2)->j5 (jC (cP .Eq (aj 2) (a7 (.int 5))) (jC (cP .Gt (bW (ay (aj 0) (ay (a7 (.int 3)) aJ)) hu) (a7 (.int 0))) qA)) (a7 (.str "g")) (a7 (.str "f")) [some (.obj 2),some (ah (fl+1)),some (ah v),some (co b4),some (co cN),none,none] (C.set 2 (ec dH))=some (.str o,C.set 2 (ec tL))->
      ∃t bZ,eo t/\t.dep<=fl+1+1/\t.size<2*2^(fl+1)/\bZ+2<=k+2*2^(fl+2)/\qG (fl+1+1) [.obj 2,ah (fl+1)] C=some (co t,C.set 2 (ec bZ)):=λo tL aD Cq cH=>by
     refine⟨.op o [b4,cN],tL,⟨aD,bD 2,iZ,ip,trivial⟩,aO (cB (Nat.add_comm 1 _)) (fi (Nat.max_le.mpr ⟨iQ,Nat.max_le.mpr ⟨nz,es _⟩⟩)),Nd s1 s2,Cq,?_⟩
     exact gN (c3:=.ret (co (.op o [b4,cN]))) rfl (jJ hw (h6 (fF (f:=aj 2) rfl rfl ((tQ v 3 _).trans (bb some (fu aV)))) rfl (h6 (fF (f:=aj 2) rfl rfl ((lq v 3 _).trans (bb some (fu r8)))) rfl (eg tr rfl (h6 (fF (f:=aj 2) rfl rfl ((lq v 4 _).trans (bb some (fu IB)))) rfl (eg d2 rfl (iI (hC (eC cH (eC (e:=aj 3) rfl (cp (e:=aj 4) rfl)))))))))))
    by_cases CL:v=5
    ·subst CL
     exact Cn "g" dH (.inr (.inr (.inr (.inr rfl)))) vm (Am (LU (fF (f:=aj 2) rfl rfl (lq 5 5 _))) rfl)
    ·refine aG (wR (F.set dH) (w:=3) f1 ag) λu cJ cY=>?_
     rw[List.set_set]at cY
     have ax:bW (ay (aj 0) (ay (a7 (.int 3)) aJ)) hu [some (.obj 2),some (ah (fl+1)),some (ah v),some (co b4),some (co cN),none,none] (C.set 2 (ec dH))=some (ah u,C.set 2 (ec (dH+1))):=x_call (eC (e:=aj 0) rfl (cp (e:=λ_ C=>some (D.int 3,C)) rfl)) cY
     by_cases IA:u=0
     ·subst IA
      exact Cn "f" (dH+1) (.inr (.inr (.inr (.inl rfl)))) f2 (E5 (xo (fF (f:=aj 2) rfl rfl ((lq v 5 _).trans (bb some (fu CL)))) (xo (fF ax rfl (vI 0 0 _)) rfl)) rfl)
     ·exact Cn "g" (dH+1) (.inr (.inr (.inr (.inr rfl)))) f2 (Am (xo (fF (f:=aj 2) rfl rfl ((lq v 5 _).trans (bb some (fu CL)))) (LU (fF ax rfl ((vI u 0 _).trans (bb some (dT (Nat.pos_of_ne_zero IA))))))) rfl)
section
variable{az:aa}{m:aK}{f g:aY (D×aa)}{bM:aY (List D×aa)}{xs bB:List D}
theorem KC(ai:d5 az (f m) xs)(ak:d5 az (g m) bB)(ar:D.da xs=true/\D.ew xs<=20)(bc:D.da bB=true):Run az (cP .Eq f g m) (decide (xs=bB)):=λC p=>
 fh (ai C p) λ_ _ aS aT a2 _=>fh (ak _ (p.trans aT)) λ_ _ bf bx a9 _=>⟨_,fF aS bf (x7 (bx _ _ a2) a9 ar.1 bc ar.2),aT.trans bx⟩
theorem Wt{a b:Int}{C:aa}(h:-(2^62)<=a/\a<2^62)(k:-(2^62)<=b/\b<2^62):zO [.int a,.int b] C=some ((m6 a b,none),C):=by
 show(if-(2^62)<=a/\a<2^62/\-(2^62)<=b/\b<2^62 then some ((m6 a b,none),C)else none)=_
 exact a3 ⟨h.1,h.2,k⟩
theorem SB{n:Nat}(h:Run az (bM m) [ah 1,ah (n+1)])(aH:n<=1000):o5 az (kx bM m) ((List.range n).map λj=>ah (1+j)):=λC p=>by
 refine aG (h C p) λaB aS aT=>⟨none,aB,bp aS ((Wt (wt (n:=1) (Nat.le_of_ble_eq_true rfl)) (wt (n:=n+1) (dC (aO (fi aH) ag)))).trans (bb (λl=>some ((l,none),aB)) ?_)),aT,λ_ _=>rfl⟩
 refine(?_:(List.range (((n+1:Nat):Int)-((1:Nat):Int)).toNat).map _=_)
 rw[show(((n+1:Nat):Int)-((1:Nat):Int)).toNat=n from(bb Int.toNat (Int.add_sub_cancel (n:Int) 1)).trans (Int.toNat_natCast n)]
 rfl
end
section
variable{U:List bF}{f:List Nat}(aD:∀x∈U,iO x)(cC:U.length<=6)(aq:∀x∈U,∀k∈x.kids,k<U.length)(hf:f.length=U.length){az:aa}{ln cq:Nat}(aH:az[ln]?=some (.list (U.map b1)))(hN:az[cq]?=some (.list (f.map ah)))
include aD cC aq hf aH hN
theorem JW{m:aK}{bu b0:aY (D×aa)}{a:Nat}(aC:a<U.length)(ai:Run az (bu m) (.obj ln))(ak:Run az (b0 m) (ah a)):Run az (bX bu b0 m) (b1 (cF U a)):=
 e2 ai ak λC p=>li (p _ _ aH) (dE aC (aO cC ag)) (tT (j8 aC))
theorem Hp{m:aK}{bu b0:aY (D×aa)}{a:Nat}(aC:a<U.length)(ai:Run az (bu m) (.obj cq))(ak:Run az (b0 m) (ah a)):Run az (bX bu b0 m) (ah (f.getD a 0)):=
 e2 ai ak λC p=>li (p _ _ hN) (dE aC (aO cC ag)) (sj (hf▸aC))
theorem Je{m:aK}{bu b0:aY (D×aa)}{x:bF}{j:Nat}(bn:j<x.kids.length)(tp:x.kids.length<=2)(ai:Run az (bu m) (b1 x))(ak:Run az (b0 m) (ah (1+j))):Run az (bX bu b0 m) (ah (x.kids.getD j 0)):=
 e2 ai ak λC p=>rd (xs:=eK x) (Nat.add_comm j 1▸(sj bn:(eK x)[j+1]?=some (ah (x.kids.getD j 0)))) (e6 (gH (aO (gI bn) tp) 1) ag) C
theorem T8{a b:Nat}(aC:a<U.length)(ab:b<U.length){bg bQ:Option D}:Run az (z6 [none,some (ah a),bg,bQ,some (ah b),some (.obj cq),some (b1 (cF U b)),some (.obj ln)]) (lF U f a b):=by
 haveI Im:=eN (j8 aC)
 haveI Cx:=eN (j8 ab)
 haveI DH:=aD _ Im
 haveI bp:=aD _ Cx
 haveI Ip:∀m:aK,m.at 7=some (.obj ln)->m.at 1=some (ah a)->Run az (bX (aj 7) (aj 1) m) (b1 (cF U a)):=λm cA a2=>JW aD cC aq hf aH hN aC (bP cA) (bP a2)
 haveI Sl:lF U f a b=(decide (D.str (cF U a).op=D.str (cF U b).op)&&(decide ((cF U a).kids.length+1=(cF U b).kids.length+1)&&(decide ((((List.range (cF U b).kids.length).map λj=>ah (1+j)).filter λd=>!decide (f.getD ((cF U a).kids.getD (gk d-1) 0) 0=f.getD ((cF U b).kids.getD (gk d-1) 0) 0)).map id=[])&&true))):=by
  unfold lF
  rw[j8 aC,j8 ab]
  dsimp only
  rw[Bool.eq_iff_iff]
  simp only[Bool.and_eq_true,iL,D.str.injEq,Nat.add_right_cancel_iff,List.map_id,List.filter_eq_nil_iff,b5,ft,and_true,and_assoc]
  refine and_congr_right λ_=>and_congr_right λaw=>?_
  constructor
  ·intro aR d cQ;refine aG cQ λj bn db=>?_;clear cQ;subst db
   haveI:=bb (λz:List Nat=>z[j]?) aR
   rw[i4,Nat.add_sub_cancel_left]
   simpa [List.getD,bn,aw] using this
  ·intro h
   apply List.ext_getElem
   ·simp[aw]
   ·intro j a2 a9
    simp only[bR]at a2 a9
    haveI:=h (ah (1+j)) ⟨j,a9,rfl⟩
    rw[i4,Nat.add_sub_cancel_left]at this
    simpa [List.getD,a2,a9] using this
 rw[Sl]
 refine w1 (h3 (a:=.str (cF U a).op) (d:=.str (cF U b).op) (e2 (Ip _ rfl rfl) dI λ_ _=>rfl) (e2 (bP rfl) dI λ_ _=>rfl) λC _=>p7 DH.1 bp.1 C) λ_=>?_
 haveI gd:∀x:bF,iO x->(eK x).length<=lim:=λx ar=>dC (aO (cB (bb (· +1) (bR _))) (aO (fi ar.2) ag))
 haveI j1:∀x:bF,(eK x).length=x.kids.length+1:=λx=>bb (· +1) (bR _)
 refine w1 (h3 (a:=ah ((cF U a).kids.length+1)) (d:=ah ((cF U b).kids.length+1)) (by rw[←j1];exact sx (xs:=eK (cF U a)) (Ip _ rfl rfl) (gd _ DH)) (by rw[←j1];exact sx (xs:=eK (cF U b)) (bP rfl) (gd _ bp)) λC _=>lq _ _ C) λak=>?_
 haveI ak:(cF U a).kids.length=(cF U b).kids.length:=Nat.succ.inj (hU ak)
 haveI jA:=bp.2
 refine w1 (KC ?_ (sg sy) ?_ rfl) λ_=>w3
 ·refine pX (fr:=λd=>[none,some d,some (ah a),some (.obj cq),some (b1 (cF U b)),some (.obj ln)]) (pp:=λd=>!decide (f.getD ((cF U a).kids.getD (gk d-1) 0) 0=f.getD ((cF U b).kids.getD (gk d-1) 0) 0)) (λm=>∃d,m=[none,d,some (ah a),some (.obj cq),some (b1 (cF U b)),some (.obj ln)]) (SB (mq dI (fs (by rw[←j1];exact sx (xs:=eK (cF U b)) (bP rfl) (gd _ bp)))) (by lia)) ⟨none,rfl⟩ (λd _ m aR C=>a6 aR λjS aR=>aR▸rfl) (λd _=>⟨_,rfl⟩) (λd hd=>?_) (λd _ _=>bP rfl) (by rw[bR,fW];exact dC (aO jA ag))
  refine aG (b5.mp hd) λj bn bC=>?_;subst bC
  haveI bn:=ft.mp bn
  rw[i4,Nat.add_sub_cancel_left]
  haveI mP:(cF U a).kids.getD j 0<U.length:=aq _ Im _ (eN (rU (ak▸bn)))
  haveI Rp:(cF U b).kids.getD j 0<U.length:=aq _ Cx _ (eN (rU bn))
  refine h3 (a:=ah _) (d:=ah _) (Hp aD cC aq hf aH hN mP (bP rfl) (Je aD cC aq hf aH hN (ak▸bn) DH.2 (JW aD cC aq hf aH hN aC (bP rfl) (bP rfl)) (bP rfl))) (Hp aD cC aq hf aH hN Rp (bP rfl) (Je aD cC aq hf aH hN bn bp.2 (bP rfl) (bP rfl))) λC _=>?_
  exact tY _ _ C
 ·rw[List.map_id]
  haveI:∀d∈((List.range (cF U b).kids.length).map λj=>ah (1+j)).filter λd=>!decide (f.getD ((cF U a).kids.getD (gk d-1) 0) 0=f.getD ((cF U b).kids.getD (gk d-1) 0) 0),∃j,d=ah j:=λd hd=>aG (b5.mp (jj.mp hd).1) λj _ bY=>⟨_,bY.symm⟩
  exact⟨pV.mpr λd hd=>a6 (this d hd) λj e=>e▸rfl,pv.mpr λd hd=>a6 (this d hd) λj e=>e▸es _⟩
end
def h2(q:Nat×Nat):D:=.tup [ah q.1,ah q.2]
theorem UJ(a b:Nat)(C:aa):uX [ah a,ah b] C=some (ah (min a b),C):=by
 refine(?_:some (D.int (if(b:Int)<(a:Int)then(b:Int)else(a:Int)),C)=some (D.int ((min a b:Nat):Int),C))
 by_cases h:b<a
 ·rw[a3 (Int.ofNat_lt.mpr h),Nat.min_eq_right (gI h)]
 ·rw[bq λq=>h (Int.ofNat_lt.mp q),Nat.min_eq_left (Nat.le_of_not_lt h)]
theorem Ux(a b:Nat)(C:aa):qo [ah a,ah b] C=some (ah (max a b),C):=by
 refine(?_:some (D.int (if(b:Int)>(a:Int)then(b:Int)else(a:Int)),C)=some (D.int ((max a b:Nat):Int),C))
 by_cases h:a<b
 ·rw[a3 (Int.ofNat_lt.mpr h),Nat.max_eq_right (gI h)]
 ·rw[bq λq=>h (Int.ofNat_lt.mp q),Nat.max_eq_left (Nat.le_of_not_lt h)]
noncomputable def sN(ln lt cq:Nat)(nw:Bool)(cm gB fH gr eU eY:Option D):aK:=[some (.obj ln),some (.obj lt),some (.obj cq),some (.bool nw),cm,gB,fH,gr,eU,eY,none,none,none,none,none,none]
noncomputable abbrev jm(ln lt cq cD:Nat)(nw:Bool)(gB fH gr eU eY:Option D):aK:=sN ln lt cq nw (some (.obj cD)) gB fH gr eU eY
section
variable{U:List bF}{f:List Nat}(aD:∀x∈U,iO x)(cC:U.length<=6)(aq:∀x∈U,∀k∈x.kids,k<U.length)(hf:f.length=U.length){az:aa}{ln lt cq cD:Nat}(aH:az[ln]?=some (.list (U.map b1)))(hN:az[cq]?=some (.list (f.map ah)))
include aD cC aq hf aH hN
theorem Vz{src:o6}{nw:Bool}{gr eU eY:Option D}(av:∀C,Pre az C->jw src C=true)(RB:az.length<=cD)(L:List Nat)(bz:List (Nat×Nat))(gB fH:Option D)(C:aa)(dQ:∀b∈L,b<U.length)(p:Pre az C)(h:C[cD]?=some (.list (bz.map h2)))(aw:bz.length+6*L.length<=1000):
  ∃uQ AF ao,ju src (gv [5,6]) FX (L.map λb=>D.tup [ah b,b1 (cF U b)]) (jm ln lt cq cD nw gB fH gr eU eY) C=some (.next,jm ln lt cq cD nw uQ AF gr eU eY,ao)/\Pre az ao/\ao[cD]?=some (.list ((bz++L.flatMap λb=>((List.range b).filter λa=>lF U f a b).map λa=>(a,b)).map h2)):=by
 induction L generalizing bz gB fH C with
 |nil=>exact⟨gB,fH,C,qB (av C p),p,by rw[List.flatMap_nil,List.append_nil];exact h⟩
 |cons b L aE=>
  haveI ab:=dQ b (.head _)
  haveI ax:d5 az (ea (kx (ay (aj 5) aJ)) [none,none,none,none,some 5,some 2,some 6,some 0] (b9 1) z6 (dL Bv) (jm ln lt cq cD nw (some (ah b)) (some (b1 (cF U b))) gr eU eY)) ((((List.range b).filter λa=>lF U f a b).map λa=>(a,b)).map h2):=by
   haveI:=pX (az:=az) (c:=z6) (e:=Bv) (dk:=kx (ay (aj 5) aJ)) (cw:=[none,none,none,none,some 5,some 2,some 6,some 0]) (as:=b9 1) (m:=jm ln lt cq cD nw (some (ah b)) (some (b1 (cF U b))) gr eU eY)
    (fr:=λd=>[none,some d,none,none,some (ah b),some (.obj cq),some (b1 (cF U b)),some (.obj ln)]) (pp:=λd=>lF U f (gk d) b) (gx:=λd=>.tup [d,ah b]) (λm=>∃d,m=[none,d,none,none,some (ah b),some (.obj cq),some (b1 (cF U b)),some (.obj ln)]) (CS (n:=b) (fs (bP rfl)) (dC (aO (gI ab) (aO cC ag)))) ⟨none,rfl⟩ (λd _ m aR C=>a6 aR λjS aR=>aR▸rfl) (λd _=>⟨_,rfl⟩)
    (λd hd=>by
     refine aG (b5.mp hd) λa aC bC=>?_;subst bC
     rw[i4]
     exact T8 aD cC aq hf aH hN (k2 (ft.mp aC) ab) ab) (λd _ _=>m5 (mq (bP rfl) (fs (bP rfl)))) (by rw[bR,fW];exact dC (aO (gI ab) (aO cC ag)))
   rw[Hh (q:=λa=>lF U f a b) (λa _=>by rw[i4]),tS (k:=λa=>(a,b)) (qy:=h2) (λa _=>rfl)]at this
   exact this
  refine fh (ax C p) λl aB aS aT a2 _=>?_
  haveI fR:(((List.range b).filter λa=>lF U f a b).map λa=>(a,b)).length<=6:=by
   rw[bR]
   exact aO (List.length_filter_le _ _) (by rw[fW];exact aO (gI ab) cC)
  haveI hle:(bz.map h2).length+((((List.range b).filter λa=>lF U f a b).map λa=>(a,b)).map h2).length<=lim:=by
   simp only[fX]at aw
   rw[bR,bR (as:=((List.range b).filter _).map _)]
   unfold lim;lia
  haveI ar:=gU (T:="list") (e:=aj 4) (a:=.obj cD) (m:=jm ln lt cq cD nw (some (ah b)) (some (b1 (cF U b))) gr eU eY) rfl (h5 h) (cp aS) (vl (aT _ _ h) a2 hle)
  rw[←fv]at ar
  refine d4 (aE (bz++((List.range b).filter λa=>lF U f a b).map λa=>(a,b)) (some (ah b)) (some (b1 (cF U b))) _ (λc ax=>dQ c (.tail _ ax)) ((p.trans aT).set RB _) (gT (aT _ _ h)) (by simp only[dO,fX]at aw⊢;lia)) λuQ AF a8 bf bx a9=>?_
  exact⟨uQ,AF,a8,mI (av C p) rfl (g9 ar rfl) bf,bx,by rw[a9,List.flatMap_cons,List.append_assoc]⟩
end
theorem X8{C:aa}{ln lt cq cD:Nat}{nw:Bool}{f:List Nat}{N:Nat}{q:Nat×Nat}{fH eU eY:Option D}(h:C[cq]?=some (.list (f.map ah)))(hf:f.length=N)(cC:N<=6)(ai:q.1<N)(ak:q.2<N):
  ∃lE AG AH ao,AQ (jm ln lt cq cD nw (some (ah q.2)) fH (some (ah q.1)) eU eY) C=some (.next,jm ln lt lE cD (g8 (f,nw) q).2 (some (ah q.2)) fH (some (ah q.1)) AG AH,ao)/\Pre C ao/\ao[lE]?=some (.list ((g8 (f,nw) q).1.map ah)):=by
 have ya:∀{i:Nat} {m:aK} {j},i<N->m.at 2=some (.obj cq)->m.at j=some (ah i)->bX (aj 2) (aj j) m C=some (ah (f.getD i 0),C):=λ{i m j} hi a9 D9=>kZ (ck a9) (ck D9) (li h (dE hi (aO cC ag)) (sj (hf▸hi)))
 have qP:=x_call (gO:=uX) (eC (ya (m:=jm ln lt cq cD nw (some (ah q.2)) fH (some (ah q.1)) eU eY) (j:=7) ai rfl rfl) (cp (ya (m:=jm ln lt cq cD nw (some (ah q.2)) fH (some (ah q.1)) eU eY) (j:=5) ak rfl rfl))) (UJ _ _ C)
 have Ib:=x_call (gO:=qo) (eC (ya (m:=jm ln lt cq cD nw (some (ah q.2)) fH (some (ah q.1)) eU eY) (j:=7) ai rfl rfl) (cp (ya (m:=jm ln lt cq cD nw (some (ah q.2)) fH (some (ah q.1)) eU eY) (j:=5) ak rfl rfl))) (Ux _ _ C)
 have e1:∀m:aK,m.at 8=some (ah (min (f.getD q.1 0) (f.getD q.2 0)))->m.at 9=some (ah (max (f.getD q.1 0) (f.getD q.2 0)))->cP .NotEq (aj 8) (aj 9) m C=some (!decide (min (f.getD q.1 0) (f.getD q.2 0)=max (f.getD q.1 0) (f.getD q.2 0)),C):=λm cQ db=>fF (ck cQ) (ck db) (tY _ _ C)
 by_cases e:min (f.getD q.1 0) (f.getD q.2 0)=max (f.getD q.1 0) (f.getD q.2 0)
 ·have aZ:g8 (f,nw) q=(f,nw):=bq (λq=>q e)
  rw[aZ]
  exact⟨cq,some (ah (min (f.getD q.1 0) (f.getD q.2 0))),some (ah (max (f.getD q.1 0) (f.getD q.2 0))),C,eg (hC (eC qP (cp Ib))) rfl (h6 ((e1 _ rfl rfl).trans (by rw[dT e];rfl)) rfl rfl),.refl,h⟩
 ·have aZ:g8 (f,nw) q=(f.map λc=>if c=max (f.getD q.1 0) (f.getD q.2 0)then min (f.getD q.1 0) (f.getD q.2 0)else c,true):=a3 e
  rw[aZ]
  refine fh (lD (az:=C) (m:=jm ln lt cq cD nw (some (ah q.2)) fH (some (ah q.1)) (some (ah (min (f.getD q.1 0) (f.getD q.2 0)))) (some (ah (max (f.getD q.1 0) (f.getD q.2 0))))) (dk:=c9 (aj 2)) (cw:=[none,none,some 9,some 8]) (i:=1) (e:=GS) (gx:=λd=>ah (if gk d=max (f.getD q.1 0) (f.getD q.2 0)then min (f.getD q.1 0) (f.getD q.2 0)else gk d)) (tI (bP rfl) h) (λd hd=>by
    refine aG (b5.mp hd) λc _ mm=>?_;subst mm
    rw[i4]
    refine Wq (b:=decide (c=max (f.getD q.1 0) (f.getD q.2 0))) (h3 (a:=ah c) (d:=ah (max (f.getD q.1 0) (f.getD q.2 0))) (bP rfl) (bP rfl) λC _=>lq _ _ C) (λab=>?_) (λab=>?_)
    ·rw[a3 (hU ab)];exact bP rfl
    ·rw[bq (of_decide_eq_false ab)];exact bP rfl) (by rw[bR,hf];exact dC (aO cC ag)) C .refl) λl aB aS aT a2 _=>?_
  rw[tS (k:=λc=>if c=max (f.getD q.1 0) (f.getD q.2 0)then min (f.getD q.1 0) (f.getD q.2 0)else c) (qy:=ah) (λc _=>by rw[i4])]at a2
  exact⟨l,some (ah (min (f.getD q.1 0) (f.getD q.2 0))),some (ah (max (f.getD q.1 0) (f.getD q.2 0))),aB,eg (hC (eC qP (cp Ib))) rfl (ux ((e1 _ rfl rfl).trans (by rw[fu e];rfl)) (eg (hC (eC aS (cp (e:=λ_ C=>some (.bool true,C)) rfl))) rfl rfl) rfl),aT,a2⟩
theorem X5(f:List Nat)(nw:Bool)(q:Nat×Nat):(g8 (f,nw) q).1.length=f.length:=by
 unfold g8
 dsimp only
 by_cases e:min (f.getD q.1 0) (f.getD q.2 0)≠max (f.getD q.1 0) (f.getD q.2 0)
 ·rw[a3 e];exact bR _
 ·rw[bq e]
theorem X6{ln lt cD N:Nat}{src:o6}{fH:Option D}(cC:N<=6){az:aa}(av:∀C,Pre az C->jw src C=true)(L:List (Nat×Nat))(f:List Nat)(nw:Bool)(cq:Nat)(gB gr eU eY:Option D)(C:aa)(p:Pre az C)(dQ:∀q∈L,q.1<N/\q.2<N)(h:C[cq]?=some (.list (f.map ah)))(hf:f.length=N):
  ∃lE uQ MS AG AH ao,ju src (gv [7,5]) AQ (L.map h2) (jm ln lt cq cD nw gB fH gr eU eY) C=some (.next,jm ln lt lE cD (L.foldl g8 (f,nw)).2 uQ fH MS AG AH,ao)/\Pre C ao/\ao[lE]?=some (.list ((L.foldl g8 (f,nw)).1.map ah)):=by
 induction L generalizing f nw cq gB gr eU eY C with
 |nil=>exact⟨cq,gB,gr,eU,eY,C,qB (av C p),.refl,h⟩
 |cons q L aE=>
  refine bU (dQ q (.head _)) λa2 a9=>?_
  refine Zj (X8 (ln:=ln) (lt:=lt) (cD:=cD) (nw:=nw) (fH:=fH) (eU:=eU) (eY:=eY) h hf cC a2 a9) λzl pc pd aB aS aT ai=>?_
  refine a6 (aE (g8 (f,nw) q).1 (g8 (f,nw) q).2 zl (some (ah q.2)) (some (ah q.1)) pc pd aB (p.trans aT) (λeL aL=>dQ eL (.tail _ aL)) ai ((X5 f nw q).trans hf)) λDg H=>qd H λqs s8 s9 ta a8 bf bx ak=>?_
  exact⟨Dg,qs,s8,s9,ta,a8,mI (av C p) rfl aS bf,aT.trans bx,ak⟩
section
variable{U:List bF}{told:List (Nat×Nat)}(aD:∀x∈U,iO x)(cC:U.length<=6)(aq:∀x∈U,∀k∈x.kids,k<U.length)(bK:∀q∈told,q.1<U.length/\q.2<U.length)(wk:told.length<=3){az:aa}{ln lt:Nat}(aH:az[ln]?=some (.list (U.map b1)))(d3:az[lt]?=some (.list (told.map h2)))
include aD cC aq bK wk aH d3
theorem WI{f:List Nat}(hf:f.length=U.length){nw:Bool}{cq:Nat}{cm gB fH gr eU eY:Option D}{C:aa}(p:Pre az C)(hN:C[cq]?=some (.list (f.map ah))):
  ∃lE Dj oq mC rz pc pd ao,AU (sN ln lt cq nw cm gB fH gr eU eY) C=some (.next,jm ln lt lE Dj ((told++m2 U f).foldl g8 (f,false)).2 oq mC rz pc pd,ao)/\Pre C ao/\ao[lE]?=some (.list (((told++m2 U f).foldl g8 (f,false)).1.map ah)):=by
 haveI QC:=p _ _ d3
 haveI ai:bW (ay (aj 1) aJ) uW (sN ln lt cq false cm gB fH gr eU eY) C=some (.obj C.length,C++[.list (told.map h2)]):=by
  exact x_call (cp (e:=aj 1) rfl) (T9 QC (dC (aO (cB (bR _)) (aO wk ag))))
 haveI pG:=G4 U
 haveI ey:=p _ _ aH
 refine d4 (Vz (az:=C) (lt:=lt) (cD:=C.length) aD cC aq hf ey hN (src:=some (ln,U.map b1)) (nw:=false) (gr:=gr) (eU:=eU) (eY:=eY) (λao gi=>mK (gi _ _ ey)) (bD _) (List.range U.length) told gB fH (C++[.list (told.map h2)]) (λb ab=>ft.mp ab) (.app _) (fx _) (by rw[fW];exact aO (ob wk (Nat.mul_le_mul_left 6 cC)) ag)) λoq mC a8 bf bx a9=>?_
 haveI RW:told++(List.range U.length).flatMap (λb=>((List.range b).filter λa=>lF U f a b).map λa=>(a,b))=told++m2 U f:=rfl
 rw[RW]at a9
 refine a6 (X6 (ln:=ln) (lt:=lt) (cD:=C.length) (src:=some (C.length,(told++m2 U f).map h2)) (fH:=mC) cC (az:=a8) (λao gi=>mK (gi _ _ a9)) (told++m2 U f) f false cq oq gr eU eY a8 .refl (λq aL=>(er.mp aL).elim (bK q) λa2=>aG (List.mem_flatMap.mp a2) λb ab a2=>aG (b5.mp a2) λa aC e=>e▸⟨k2 (ft.mp (jj.mp aC).1) (ft.mp ab),ft.mp ab⟩) (bx _ _ hN) hf) λlE bY=>?_;refine qd bY λqs s8 s9 ta cg cY cx bC=>?_;clear bY
 refine⟨lE,C.length,qs,mC,s8,s9,ta,cg,?_,bx.trans cx,bC⟩
 refine eg (e:=λ_ C=>some (.bool false,C)) (aB:=C) rfl rfl (eg ai rfl (jJ (bh:=jm ln lt cq C.length false oq mC gr eU eY) (aB:=a8) ?_ (jJ (aB:=cg) (bh:=jm ln lt lE C.length ((told++m2 U f).foldl g8 (f,false)).2 qs mC s8 s9 ta) ?_ rfl)))
 ·exact Al (bp (rfl:aj 0 (sN ln lt cq false (some (.obj C.length)) gB fH gr eU eY) _=some (D.obj ln,_)) (bp rfl (ck (il (Pre.app [bG.list (told.map h2)] _ _ ey))))) (pG.symm▸bf)
 ·exact E2 (l:=C.length) rfl a9 cY
theorem closing{g:Nat->Nat}(G:np U told g):∀(s:Nat) (f:List Nat) (cq:Nat) (cm gB fH gr eU eY:Option D) (C:aa),f.sum<=s->qi U told f->Pre az C->C[cq]?=some (.list (f.map ah))->
  ∃lE Dj oq mC rz pc pd ao,kd EG AU (sN ln lt cq true cm gB fH gr eU eY) C=some (.next,jm ln lt lE Dj false oq mC rz pc pd,ao)/\Pre C ao/\ao[lE]?=some (.list (((List.range U.length).map g).map ah)):=by
 intro s
 induction s using Nat.strongRecOn with
 |ind s aE=>
  intro f cq cm gB fH gr eU eY C aZ aM p hN
  refine a6 (WI aD cC aq bK wk aH d3 aM.len (nw:=true) (cm:=cm) (gB:=gB) (fH:=fH) (gr:=gr) (eU:=eU) (eY:=eY) p hN) λzl cj=>?_;refine a6 cj λJo cA=>?_;clear cj;refine a6 cA λoq cQ=>?_;clear cA;refine qd cQ λmC rz pc pd aB aS aT a2=>?_;clear cQ
  haveI nL:∀(cq:Nat) (b:Bool) cm gB fH gr eU eY (C:aa),EG (sN ln lt cq b cm gB fH gr eU eY) C=some (b,C):=λ_ _ _ _ _ _ _ _ _=>rfl
  haveI dQ:∀q∈told++m2 U f,q.1<U.length/\q.2<U.length/\gq U told q.1 q.2:=λq aL=>by
   exact(er.mp aL).elim (λa2=>⟨(bK q a2).1,(bK q a2).2,.told a2⟩) (VU aM aq q)
  refine bU (ED (told++m2 U f) f false aM dQ) λmy bn=>?_
  rcases bn with⟨a0,pD⟩|⟨ab,cz⟩
  ·rw[a0]at aS a2
   refine⟨zl,Jo,oq,mC,rz,pc,pd,aB,xk (nL ..) aS (xi (nL ..)),aT,?_⟩
   haveI Rv:=N8 aM bK aq pD
   haveI:f=(List.range U.length).map g:=by
    apply List.ext_getElem
    ·simp[aM.len]
    ·intro i ai ak
     haveI hi:i<U.length:=by rw[←aM.len];exact ai
     haveI:=Rv.uniq G hi
     rw[a3 hi]at this
     simpa [List.getD,ai] using this
   rw[←this];exact a2
  ·rw[ab]at aS
   refine a6 (aE ((told++m2 U f).foldl g8 (f,false)).1.sum (by lia) ((told++m2 U f).foldl g8 (f,false)).1 zl (some (.obj Jo)) oq mC rz pc pd aB (bD _) my (p.trans aT) a2) λDg db=>?_;refine a6 db λUi d0=>?_;clear db;refine a6 d0 λqs eF=>?_;clear d0;refine qd eF λA0 s8 s9 ta a8 bf bx a9=>?_;clear eF
   exact⟨Dg,Ui,qs,A0,s8,s9,ta,a8,xk (nL ..) aS bf,aT.trans bx,a9⟩
theorem N9{g:Nat->Nat}(G:np U told g):∀C,Pre az C->∃l ao,yq [.obj ln,.obj lt] C=some (.obj l,ao)/\Pre C ao/\ao[l]?=some (.list (((List.range U.length).map g).map ah)):=λC p=>by
 haveI ey:=p _ _ aH
 haveI aw:bW (ay (aj 0) aJ) ek [some (.obj ln),some (.obj lt),none,none,none,none,none,none,none,none,none,none,none,none,none,none] C=some (ah U.length,C):=by
  exact x_call (cp (e:=aj 0) rfl) ((sh ey (dC (aO (cB (bR _)) (aO cC ag)))).trans (by rw[bR];rfl))
 haveI au:si (bW (ay (aj 0) aJ) ek) [some (.obj ln),some (.obj lt),none,none,none,none,none,none,none,none,none,none,none,none,none,none] C=some (.obj C.length,C++[.list ((List.range U.length).map ah)]):=by
  unfold si
  rw[aw,rk]
  haveI ab:(0:Int)<=(U.length:Int)/\(U.length:Int)<=(lim:Int):=by unfold lim;lia
  simp only[ah,ab,and_self,if_true,zP]
 haveI aM:qi U told (List.range U.length):=⟨by simp,λi=>by
  by_cases hi:i<U.length
  ·simp[List.getD,List.getElem?_range hi]
  ·simp[List.getD,lM (l:=List.range U.length) (i:=i) (by simpa using hi)],λi hi=>by simp only[List.getD,List.getElem?_range hi,Option.getD_some];exact .refl i⟩
 refine a6 (closing aD cC aq bK wk aH d3 G _ _ C.length none none none none none none (C++[.list ((List.range U.length).map ah)]) (bD _) aM (p.trans (.app _)) (fx _)) λcq ff=>?_;refine a6 ff λcD fg=>?_;clear ff;refine a6 fg λoq fq=>?_;clear fg;refine qd fq λmC rz pc pd aB aS aT a2=>?_;clear fq
 refine⟨cq,aB,?_,(Pre.app _).trans aT,a2⟩
 exact gN (c3:=.ret (.obj cq)) rfl (eg (hC (eC au (cp (e:=λ_ C=>some (.bool true,C)) rfl))) rfl (jJ aS (iI rfl)))
end
theorem XV(a b:Nat):dN [ah a,ah b]=[ah (min a b),ah (max a b)]:=by
 refine(?_:(if g5 (ah a) (ah b)=true then [ah a,ah b]else [ah b,ah a])=_)
 have ax:g5 (ah a) (ah b)=decide ((a:Int)<b):=zn a b
 by_cases h:a<b
 ·rw[a3 (ax.trans (dT (Int.ofNat_lt.mpr h))),Nat.min_eq_left (gI h),Nat.max_eq_right (gI h)]
 ·rw[bq λq=>h (Int.ofNat_lt.mp (hU (ax.symm.trans q))),Nat.min_eq_right (Nat.le_of_not_lt h),Nat.max_eq_left (Nat.le_of_not_lt h)]
theorem I4{N k g a b:Nat}{p:List Nat}(hd:Down p)(aC:a<N)(ab:b<N)(aq:min (root p a) (root p b)=k)(av:max (root p a) (root p b)=g):(k<N/\p.getD k k=k)/\g<N/\p.getD g g=g:=by
 have A:root p a<N/\p.getD (root p a) (root p a)=root p a:=⟨e6 (nX hd a) aC,nY hd a⟩
 have B:root p b<N/\p.getD (root p b) (root p b)=root p b:=⟨e6 (nX hd b) ab,nY hd b⟩
 rcases Nat.le_total (root p a) (root p b)with q|q
 ·rw[Nat.min_eq_left q]at aq;rw[Nat.max_eq_right q]at av;exact aq▸av▸⟨A,B⟩
 ·rw[Nat.min_eq_right q]at aq;rw[Nat.max_eq_left q]at av;exact aq▸av▸⟨B,A⟩
section
variable{C:aa}{U:List bF}{h:cv}{bH bw:Nat->Nat}{ks:List Nat}{B:Nat}{pr:List (Nat×bG)}(H:b8 C U h bH bw ks B pr)(dn:U.length<=6)(hd:Down h.p)(aw:h.p.length=U.length)
include H dn hd aw
theorem Lw{a b:Nat}(aC:a<U.length)(ab:b<U.length):d5 C (bW (ay (fM (ay (dy 299 "find" (aj 0) (ay (aj 1) aJ) pA) (ay (dy 299 "find" (aj 0) (ay (aj 2) aJ) pA) aJ))) aJ) ny [some (.obj 12),some (ah a),some (ah b),none,none,none]) [ah (min (root h.p a) (root h.p b)),ah (max (root h.p a) (root h.p b))]:=by
 rw[←XV]
 refine Jf (sg (mq (q6 (pU H.lay) ag (bP rfl) (fs (bP rfl)) (Ac H dn hd aw aC)) (fs (q6 (pU H.lay) ag (bP rfl) (fs (bP rfl)) (Ac H dn hd aw ab))))) ?_
 exact Ex (l:=[root h.p a,root h.p b]) (Nat.le_of_ble_eq_true rfl)
theorem YM{a b:Nat}(aC:a<U.length)(ab:b<U.length)(e:root h.p a=root h.p b):∃ao,yo [.obj 12,ah a,ah b] C=some (.none,ao)/\Pre C ao:=by
 refine fh (Lw H dn hd aw aC ab C .refl) λl aB aS aT a2 _=>?_
 rw[e,Nat.min_self,Nat.max_self]at a2
 refine⟨aB,gN (c3:=.ret .none) rfl (eg (bh:=[some (.obj 12),some (ah a),some (ah b),some (ah (root h.p b)),some (ah (root h.p b)),none]) aS ?_ (uw (fF (f:=aj 3) (g:=aj 4) rfl rfl ((lq _ _ _).trans (by rw[dT rfl]))) (iI (e:=λ_ C=>some (.none,C)) rfl))),aT⟩
 exact(K6 a2 rfl).trans rfl
theorem YL{a b:Nat}(aC:a<U.length)(ab:b<U.length)(e:root h.p a≠root h.p b)(Ij:∀i,i<U.length->h.p.getD i i=i->(h.dg i).length<=100)(d2:B<=1000){k g:Nat}(l6:min (root h.p a) (root h.p b)=k)(qL:max (root h.p a) (root h.p b)=g){ms:List D}(qQ:C[15]?=some (.list ms)):
  ∃ao,yo [.obj 12,ah a,ah b] C=some (.tup [ah k,ah g],ao)/\eX [13,bH k,15] C ao/\ao[13]?=some (.list ((h.p.set g k).map ah))/\ao[bH k]?=some (.list ((h.dg k++h.dg g).map ah))/\ao[15]?=some (.list (ms++[.tup [ah k,ah g]]))/\C.length<=ao.length:=by
 refine fh (Lw H dn hd aw aC ab C .refl) λl aB aS aT a2 _=>?_
 rw[l6,qL]at a2
 have H1:=H.pre aT
 have lx:k≠g:=by lia
 refine bU (I4 hd aC ab l6 qL) λlw l5=>?_
 refine bU (H1.gE k lw.1) λmY Ua=>?_
 refine bU (H1.gE g l5.1) λT6 T7=>?_
 have j2:=aT _ _ qQ
 have iU:ms.length<=1000:=aG H.merged λaag DV q3=>aO (bG.list.inj (Option.some.inj (qQ.symm.trans DV))▸aO (hD ..) q3) d2
 have CG:n0 (.obj 13) (ah g) (ah k) aB=some (aB.set 13 (.list ((h.p.set g k).map ah))):=by
  have ab:(0:Int)<=(g:Int)/\(g:Int)<((h.p.map ah).length:Int)/\(g:Int)<2^62:=⟨Int.natCast_nonneg g,Int.ofNat_lt.mpr (by rw[bR,aw];exact l5.1),(wt (dC (aO (gI l5.1) (aO dn ag)))).2⟩
  exact ue H1.above ((a3 ab).trans (by rw[List.map_set];rfl))
 have nt:Lay (aB.set 13 (.list ((h.p.set g k).map ah))):=H1.lay.gS (.set _ _ _) λl aw=>cK.mp aw▸bD _
 have cz:∀i,i<U.length->iW (.obj 14) (ah i) (aB.set 13 (.list ((h.p.set g k).map ah)))=some (.obj (bH i)):=λi hi=>li (jE H1.dg ag) (dE hi (aO dn ag)) (tT (List.getElem?_range hi))
 have ed:∀(j i:Nat),i<U.length->∀m:aK,m.at 0=some (.obj 12)->m.at j=some (ah i)->bX (cn 299 "lots" (aj 0)) (aj j) m (aB.set 13 (.list ((h.p.set g k).map ah)))=some (.obj (bH i),aB.set 13 (.list ((h.p.set g k).map ah))):=λj i hi m mm D9=>by
  exact kZ (fI (d:=.obj 14) (mT nt) ag (ck mm)) (ck D9) (cz i hi)
 have eQ:=jE (l:=13) (d8:=.list ((h.p.set g k).map ah)) Ua (lr mY ag).symm
 have r2:=jE (l:=13) (d8:=.list ((h.p.set g k).map ah)) T7 (lr T6 ag).symm
 have hle:((h.dg k).map ah).length+((h.dg g).map ah).length<=lim:=by rw[bR,bR];exact aO (ob (Ij k lw.1 lw.2) (Ij g l5.1 l5.2)) ag
 have yD:=gU (T:="list") (e:=bX (cn 299 "lots" (aj 0)) (aj 3)) (m:=[some (.obj 12),some (ah a),some (ah b),some (ah k),some (ah g),none]) (ed 3 k lw.1 _ rfl rfl) (h5 eQ) (cp (ed 4 g l5.1 _ rfl rfl)) (vl eQ r2 hle)
 rw[←fv]at yD
 have Rs:bH k≠13:=lr mY ag
 have nu:Lay ((aB.set 13 (.list ((h.p.set g k).map ah))).set (bH k) (.list ((h.dg k++h.dg g).map ah))):=nt.gS (.set _ _ _) λl aw=>cK.mp aw▸aO ag mY
 have l7:((aB.set 13 (.list ((h.p.set g k).map ah))).set (bH k) (.list ((h.dg k++h.dg g).map ah)))[15]?=some (.list ms):=jE (jE j2 ag) (lr mY ag)
 have vR:=gU (T:="list") (e:=cn 299 "merged" (aj 0)) (bM:=ay (dd (ay (aj 3) (ay (aj 4) aJ))) aJ) (J:=[.tup [ah k,ah g]]) (m:=[some (.obj 12),some (ah a),some (ah b),some (ah k),some (ah g),none]) (fI (d:=.obj 15) (mT nu) ag rfl) (h5 l7) rfl (lh l7 (dC (aO (fi iU) ag)))
 refine⟨_,gN (c3:=.ret (.tup [ah k,ah g])) rfl (eg (bh:=[some (.obj 12),some (ah a),some (ah b),some (ah k),some (ah g),none]) aS ?_ (h6 (fF (f:=aj 3) (g:=aj 4) rfl rfl ((lq _ _ _).trans (by rw[fu lx]))) rfl (eg (d:=ah k) (aB:=aB) rfl ?_ (g9 yD (g9 vR (iI (hC rfl))))))),?_,?_,?_,gT l7,by rw[mv,mv,mv];exact aT.len⟩
 ·exact K6 a2 rfl
 ·exact zZ (fI (d:=.obj 13) (mT H1.lay) ag rfl) rfl CG
 ·exact((aT.gS.trans (.set _ _ _)).trans (.set _ _ _)).trans (.set _ _ _)
 ·exact jE (jE (gT H1.above) Rs) ag
 ·exact jE (gT eQ) (lr mY ag).symm
end
theorem UD{be:Type}{c:Nat}{f:Nat->be}{ks:List Nat}(h:c∈ks):(ks.map λc=>(c,f c)).lookup c=some (f c):=by
 induction ks with
 |nil=>exact absurd h f7
 |cons k ks aE=>
  refine gV.trans ?_
  by_cases e:c=k
  ·rw[beq_iff_eq.mpr e,e]
  ·rw[beq_eq_false_iff_ne.mpr e];exact aE ((dS.mp h).resolve_left e)
theorem HE{bw:Nat->Nat}{c:Nat}{ks:List Nat}(h:c∈ks):dM (ks.map λ(c:Nat)=>((c:Int),D.obj (bw c))) (c:Int)=some (.obj (bw c)):=by
 have:=BQ (f:=λc:Nat=>(c:Int)) (g:=λl=>D.obj l) (λ_ _=>Int.ofNat.inj) c (ks.map λc=>(c,bw c))
 rw[fj,UD h]at this
 exact this
theorem VV{bw:Nat->Nat}{c n:Nat}{ks:List Nat}(h:c∈ks):putK (ks.map λ(c:Nat)=>((c:Int),D.obj (bw c))) (c:Int) (.obj n)=ks.map λ(d:Nat)=>((d:Int),D.obj (if d=c then n else bw d)):=by
 unfold putK
 rw[a3 (by rw[List.any_map];exact List.any_eq_true.mpr ⟨c,h,dT rfl⟩),fj]
 refine kE λd _=>?_
 refine(?_:(if(d:Int)=(c:Int)then((d:Int),D.obj n)else((d:Int),D.obj (bw d)))=_)
 by_cases e:d=c
 ·rw[a3 (bb (λn:Nat=>(n:Int)) e:(d:Int)=(c:Int)),a3 e]
 ·rw[bq λq:(d:Int)=(c:Int)=>e (Int.ofNat.inj q),bq e]
theorem PO{bw:Nat->Nat}{g:Nat}(ks:List Nat):((ks.map λ(c:Nat)=>((c:Int),D.obj (bw c))).filter λp=>decide (p.1≠(g:Int)))=(ks.filter λc=>decide (c≠g)).map λ(c:Nat)=>((c:Int),D.obj (bw c)):=
 List.filter_map.trans (bb (List.map _) (List.filter_congr λc _=>decide_eq_decide.mpr (not_congr ⟨Int.ofNat.inj,bb Int.ofNat⟩)))
theorem b8.up{C:aa}{U h bH bw ks B oi pr}(H:b8 C U h bH bw ks B pr)(ab:B<=oi):b8 C U h bH bw ks oi pr:=
 H.zk (Pre.refl.gS.mono ka) (H.merged.j7 (λ_=>id) ab) (H.km.j7 (λ_=>id) ab) (H.lu.j7 (λ_=>id) ab) H.known H.wait
theorem b8.Xg{C:aa}{U h bH bw ks B pr ms}(H:b8 C U h bH bw ks B pr)(aR:ms.length+jd h.p<=B+1):b8 (C.set 16 (.list ms)) U h bH bw ks (B+1) pr:=by
 have q:∀k,k≠16->∀d8,C[k]?=some d8->(C.set 16 (.list ms))[k]?=some d8:=λk aq d8 h=>jE h (Ne.symm aq)
 exact aG H.km λal a0 _=>H.zk ((eX.set C 16 _).mono λk aq=>cK.mp aq▸.tail _ (.head _)) (H.merged.j7 (q 15 ag) (k1 _)) ⟨ms,gT a0,aR⟩ (H.lu.j7 (q 17 ag) (k1 _)) (q _ ag _ H.known) (q _ ag _ H.wait)
structure lT(U:List bF)(h:cv)(B:Nat):Prop where
 six:U.length<=6
 down:Down h.p
 len:h.p.length=U.length
 Di:∀i,i<U.length->h.p.getD i i=i->(h.dg i).length<=100
 c4:∀c,(h.c4 c).length<=1000
 wait:h.wait.length<=10000
 B:B<=900
theorem old_ne{C:aa}{l n:Nat}{o:bG}(h:C[l]?=some o)(aH:C.length<=n):l≠n:=gy (dE (e4.mp h).1 aH)
section
variable{C:aa}(L:Lay C){m:aK}(bV:m.at 0=some (.obj 4)){x:Str}{l k:Nat}(ar:pH.lookup x=some (.obj l)){e:aY (D×aa)}{d:D}{xs bB:List D}
include L bV ar
theorem M9(a0:e m C=some (d,C))(q:C[l]?=some (.list xs))(aw:xs.length+1<=lim):∃ao,eV "list" (cn 429 x (aj 0)) (ay e aJ) bAppend m C=some (.none,ao)/\eX [l] C ao/\ao[l]?=some (.list (xs++[d]))/\ao.length=C.length:=
 ⟨_,gU (fI (ih L) ar (ck bV)) (h5 q) (cp a0) (lh q aw),.set _ _ _,gT q,mv⟩
theorem O5(a0:e m C=some (.obj k,C))(q:C[l]?=some (.list xs))(eL:C[k]?=some (.list bB))(aw:xs.length+bB.length<=lim):∃ao,eV "list" (cn 429 x (aj 0)) (ay e aJ) pe m C=some (.none,ao)/\eX [l] C ao/\ao[l]?=some (.list (xs++bB))/\ao.length=C.length:=
 ⟨_,gU (fI (ih L) ar (ck bV)) (h5 q) (cp a0) (vl q eL aw),.set _ _ _,gT q,mv⟩
end
def qz(a b:Nat)(rs:D)(k g:Nat):aK:=[some (.obj 4),some (ah a),some (ah b),some rs,some (.tup [ah k,ah g]),some (ah k),some (ah g),none]
noncomputable def m9(ks:List Nat)(bw:Nat->Nat):bG:=.gR (ks.map λ(c:Nat)=>((c:Int),.obj (bw c)))
theorem EV{C:aa}{ks:List Nat}{bw:Nat->Nat}{c:Nat}(h:C[19]?=some (m9 ks bw))(ax:c∈ks):iW (.obj 19) (ah c) C=some (.obj (bw c)):=IQ h (HE ax)
section
variable{C:aa}{k g:Nat}{ks:List Nat}{bw:Nat->Nat}{rr qk:List Nat}(aq:k∈ks)(av:g∈ks)(lx:k≠g)
include aq av lx
theorem MU(L:Lay C){a b:Nat}{rs:D}(i1:C[19]?=some (m9 ks bw))(iD:ks.length<=6)(Ea:C[bw k]?=some (.list (rr.map ah)))(zN:C[bw g]?=some (.list (qk.map ah)))(wB:21<=bw k)(tl:21<=bw g)(aw:rr.length+qk.length<=2000):
  ∃ao n,cS (et .Add (bX (cn 429 "above" (aj 0)) (aj 5)) (eV "dict" (cn 429 "above" (aj 0)) (ay (aj 6) aJ) rA)) (m7 (cn 429 "above" (aj 0)) (aj 5)) (qz a b rs k g) C=some (.next,qz a b rs k g,ao)/\eX [19] C ao/\
   ao[19]?=some (m9 (ks.filter λc=>decide (c≠g)) λc=>if c=k then n else bw c)/\ao[n]?=some (.list ((rr++qk).map ah))/\C.length<=n:=by
 have hf:k∈ks.filter λc=>decide (c≠g):=jj.mpr ⟨aq,dT lx⟩
 have qS:rA [.obj 19,ah g] C=some (.obj (bw g),C.set 19 (m9 (ks.filter λc=>decide (c≠g)) bw)):=(OD i1 (dC (aO (cB (bR _)) (aO iD ag))) (HE av)).trans (by rw[PO];rfl)
 have xg:(C.set 19 (m9 (ks.filter λc=>decide (c≠g)) bw))[19]?=some (m9 (ks.filter λc=>decide (c≠g)) bw):=gT i1
 have cZ:(C.set 19 (m9 (ks.filter λc=>decide (c≠g)) bw)).length=C.length:=mv
 have k9:=eX.set C 19 (m9 (ks.filter λc=>decide (c≠g)) bw)
 have uM:=L.gS k9 λl aw=>cK.mp aw▸ag
 have JK:∀{l},21<=l->l∉[19]:=λh q=>lr h ag (cK.mp q)
 have vQ:=add_l (k9 _ _ (JK wB) Ea) (k9 _ _ (JK tl) zN) (by rw[bR,bR];exact dC (aO aw ag))
 rw[←fv]at vQ
 have CG:=ue (i:=ah k) (v:=.obj (C.set 19 (m9 (ks.filter λc=>decide (c≠g)) bw)).length) (Pre.app [bG.list ((rr++qk).map ah)] _ _ xg) ((a3 (aO (cB (bR _)) (aO (List.length_filter_le _ _) (aO iD ag)))).trans (bb (λl=>some (bG.gR l)) (VV hf)))
 refine⟨_,C.length,bp (hT (kZ (g:=aj 5) (fI (d:=.obj 19) (ih L) ag rfl) rfl (EV i1 aq)) (gU (a:=.obj 19) (fI (ih L) ag rfl) (xe i1 rfl) (cp (e:=aj 6) rfl) qS) vQ) (ck (zZ (f:=aj 5) (d:=ah k) (fI (f:=aj 0) (d:=.obj 19) (ih (uM.pre (.app _))) ag rfl) rfl CG)),?_,?_,?_,bD _⟩
 ·exact((k9.trans (Pre.app _).gS).trans (.set _ 19 _)).mono λl aw=>by simpa using aw
 ·rw[←cZ];exact gT (Pre.app _ _ _ xg)
 ·rw[←cZ];exact jE (fx _) (gy (e4.mp xg).1)
theorem S8(L:Lay C){a b:Nat}{rs:D}{bM al:List D}{W:List Nat}(hq:C[17]?=some (.list bM))(hf:bM.length<=1000)(i0:C[16]?=some (.list al))(a0:al.length<=1000)(je:C[20]?=some (.list (W.map ah)))(hw:W.length<=10000)
  (i1:C[19]?=some (m9 ks bw)) (iD:ks.length<=6) (Ea:C[bw k]?=some (.list (rr.map ah))) (zN:C[bw g]?=some (.list (qk.map ah))) (wB:21<=bw k) (tl:21<=bw g) (Qt:rr.length<=1000) (HN:qk.length<=1000):
  ∃ao n,bl (fo (eV "list" (cn 429 "forest" (aj 0)) (ay (et .Sub (bW (ay (cn 429 "edges" (aj 0)) aJ) ek) (a7 (.int 1))) aJ) bAppend)) (bl (fo (eV "list" (cn 429 "waiting" (aj 0)) (ay (bX (cn 429 "above" (aj 0)) (aj 6)) aJ) pe)) (bl (cS (et .Add (bX (cn 429 "above" (aj 0)) (aj 5)) (eV "dict" (cn 429 "above" (aj 0)) (ay (aj 6) aJ) rA)) (m7 (cn 429 "above" (aj 0)) (aj 5))) (bl (d9 (a7 (.bool true))) cc))) (qz a b rs k g) C=some (.ret (.bool true),qz a b rs k g,ao)/\
   eX [17,20,19] C ao/\(∃vt,ao[17]?=some (.list vt)/\vt.length=bM.length+1)/\ao[20]?=some (.list ((W++qk).map ah))/\ao[19]?=some (m9 (ks.filter λc=>decide (c≠g)) λc=>if c=k then n else bw c)/\ao[n]?=some (.list ((rr++qk).map ah))/\C.length<=n:=by
 refine iv (M9 (x:="forest") (l:=17) (m:=qz a b rs k g) L rfl ag (hT (op:=.Sub) (g:=λ_ C=>some (.int 1,C)) (x_call (cp (fI (x:="edges") (f:=aj 0) (d:=.obj 16) (ih L) ag rfl)) (sh i0 (dC (aO a0 ag)))) rfl rfl) hq (dC (aO (fi hf) ag))) λcg cY iy n6 fL=>?_
 have sm:∀{l c},21<=l->c<21->l∉[c]:=λh ax q=>lr h ax (cK.mp q)
 have nu:=L.gS iy λl aw=>cK.mp aw▸ag
 have Lz:=iy _ _ ag i1
 refine iv (O5 (x:="waiting") (l:=20) (m:=qz a b rs k g) nu rfl ag (kZ (g:=aj 6) (fI (x:="above") (f:=aj 0) (d:=.obj 19) (ih nu) ag rfl) rfl (EV Lz av)) (iy _ _ ag je) (iy _ _ (sm tl ag) zN) (by rw[bR,bR];exact aO (ob hw HN) ag)) λeh hh sP v4 jB=>?_
 have AA:=nu.gS sP λl aw=>cK.mp aw▸ag
 refine jh (MU (a:=a) (b:=b) (rs:=rs) aq av lx AA (sP _ _ ag Lz) iD (sP _ _ (sm wB ag) (iy _ _ (sm wB ag) Ea)) (sP _ _ (sm tl ag) (iy _ _ (sm tl ag) zN)) wB tl (ob Qt HN)) λiN n iC k9 xg xh aH=>?_
 refine⟨iN,n,g9 cY (g9 hh (bp iC rfl)),(iy.trans sP).trans k9,⟨_,k9 _ _ ag (sP _ _ ag n6),dO⟩,?_,xg,xh,aO ?_ aH⟩
 ·rw[fv];exact k9 _ _ ag v4
 ·exact cB (jB.trans fL).symm
end
section
variable{C:aa}{U:List bF}{h:cv}{bH bw:Nat->Nat}{ks:List Nat}{B:Nat}{pr:List (Nat×bG)}(H:b8 C U h bH bw ks B pr)
include H
theorem GZ{m:aK}{al:aY (D×aa)}{d:D}(d2:B<=900)(bV:m.at 0=some (.obj 4))(a0:al m C=some (d,C)):∃ms,eV "list" (cn 429 "edges" (aj 0)) (ay al aJ) bAppend m C=some (.none,C.set 16 (.list ms))/\ms.length+jd h.p<=B+1/\b8 (C.set 16 (.list ms)) U h bH bw ks (B+1) pr/\ms.length<=1000:=
 aG H.km λms ai ak=>by
  have aw:(ms++[d]).length+jd h.p<=B+1:=by rw[dO,lN];exact fi ak
  have yx:=aO (aO (hD ..) aw) (fi d2)
  exact⟨ms++[d],gU (T:="list") (fI (d:=.obj 16) (ih H.lay) ag (ck bV)) (h5 ai) (cp a0) (lh ai (dC (aO (cB (dO (as:=ms) (bs:=[d])).symm) (aO yx ag)))),aw,H.Xg aw,aO yx ag⟩
theorem S6{ao:aa}{k g n:Nat}(aw:h.p.length=U.length)(lw:k<U.length/\h.p.getD k k=k)(l5:g<U.length/\h.p.getD g g=g)(lx:k≠g)(K:eX [16,13,bH k,15,17,20,19] C ao)(YV:ao[13]?=some (.list ((h.p.set g k).map ah)))(YY:ao[bH k]?=some (.list ((h.dg k++h.dg g).map ah)))
  (m:k6 ao 15 B (h.p.set g k)) (e:k6 ao 16 B (h.p.set g k)) (f:k6 ao 17 B (h.p.set g k)) (v20:ao[20]?=some (.list ((h.wait++h.c4 g).map ah))) (EW:ao[19]?=some (m9 (ks.filter λc=>decide (c≠g)) λc=>if c=k then n else bw c)) (xh:ao[n]?=some (.list ((h.c4 k++h.c4 g).map ah))) (aH:C.length<=n):
  b8 ao U {p:=h.p.set g k,dg:=λc=>if c=k then h.dg k++h.dg g else h.dg c,known:=h.known,c4:=λc=>if c=k then h.c4 k++h.c4 g else h.c4 c,wait:=h.wait++h.c4 g} bH (λc=>if c=k then n else bw c) (ks.filter λc=>decide (c≠g)) B pr:=by
 have mY:=(H.gE k lw.1).1
 have off:∀{l},l<21->l∉[16,13,15,17,20,19]->l∉[16,13,bH k,15,17,20,19]:=λh hd q=>hd (by
  rcases dS.mp q with q|q
  ·exact q▸.head _
  ·rcases dS.mp q with q|q
   ·exact q▸.tail _ (.head _)
   ·exact(dS.mp q).elim (λq=>absurd q.symm (lr mY h)) λq=>.tail _ (.tail _ q))
 have ox:∀{l},21<=l->l≠bH k->l∉[16,13,bH k,15,17,20,19]:=λh hd q=>by
  have q:_∈[16,13]++bH k::[15,17,20,19]:=q
  rcases er.mp q with q|q
  ·exact rP ag h q
  ·exact(dS.mp q).elim hd (rP ag h)
 have cZ:∀c∈ks,bw c≠n:=λc ax=>old_ne (H.f8 c ax).2 aH
 have oy:∀{c},c∈ks.filter (λc=>decide (c≠g))->c∈ks:=λh=>(jj.mp h).1
 have U3:21<=n:=aO (e4.mp H.wait).1 aH
 refine{
  lay:=H.lay.gS K λl aw=>?_,nodes:=K _ _ (off ag ag) H.nodes,m0:=K _ _ (off ag ag) H.m0,n7:=rg H.n7 λ_=>K _ _ (off ag ag),ew:=rg H.ew λ_=>K _ _ (off ag ag),above:=YV,dg:=K _ _ (off ag ag) H.dg,merged:=m,km:=e,lu:=f,known:=K _ _ (off ag ag) H.known,iG:=EW,wait:=v20,
  gE:=λi hi=>⟨(H.gE i hi).1,?_⟩,f8:=λc ax=>?_,tP:=H.tP,sV:=λc ax d hd q=>?_,apart:=λi hi c ax=>?_,keys:=⟨H.keys.1.filter _,λc=>?_⟩,fD:=λq aL=>?_,nU:=H.nU}
 ·have aw:l∈[16,13]++bH k::[15,17,20,19]:=aw
  rcases er.mp aw with q|q
  ·exact(by decide:∀l∈[16,13],13<=l) l q
  ·exact(dS.mp q).elim (λq=>q▸aO ag mY) ((by decide:∀l∈[15,17,20,19],13<=l) l)
 ·dsimp only
  by_cases ic:i=k
  ·rw[a3 ic,ic];exact YY
  ·rw[bq ic];exact K _ _ (ox (H.gE i hi).1 λq=>ic (H.tP i k hi lw.1 q)) (H.gE i hi).2
 ·dsimp only
  by_cases fB:c=k
  ·rw[a3 fB,a3 fB];exact⟨U3,xh⟩
  ·rw[bq fB,bq fB];exact⟨(H.f8 c (oy ax)).1,K _ _ (ox (H.f8 c (oy ax)).1 (H.apart k lw.1 c (oy ax)).symm) (H.f8 c (oy ax)).2⟩
 ·by_cases fB:c=k
  ·by_cases kO:d=k
   ·exact fB.trans kO.symm
   ·rw[a3 fB,bq kO]at q;exact absurd q.symm (cZ d (oy hd))
  ·by_cases kO:d=k
   ·rw[bq fB,a3 kO]at q;exact absurd q (cZ c (oy ax))
   ·rw[bq fB,bq kO]at q;exact H.sV c (oy ax) d (oy hd) q
 ·by_cases fB:c=k
  ·rw[a3 fB];exact old_ne (H.gE i hi).2 aH
  ·rw[bq fB];exact H.apart i hi c (oy ax)
 ·dsimp only
  rw[jj,H.keys.2,qH (by rw[aw];exact l5.1),iL]
  by_cases fB:c=g
  ·rw[a3 fB,fB];exact⟨λq=>absurd rfl q.2,λq=>absurd q.2 lx⟩
  ·rw[bq fB];exact and_iff_left fB
 ·refine qc (H.fD q aL) λa2 a9 bC bY=>⟨K _ _ ?_ a2,a9,bC,λc ax=>?_⟩
  ·exact a9.elim (λh=>off (k2 h ag) (Kr ag (.inl h))) λh=>ox h (bC k lw.1).symm
  ·by_cases fB:c=k
   ·rw[a3 fB];exact(old_ne a2 aH).symm
   ·rw[bq fB];exact bY c (oy ax)
variable(M:lT U h B){a b:Nat}(aC:a<U.length)(ab:b<U.length){rs:D}
include M aC ab
theorem S7(e:root h.p a=root h.p b):∃ao,tm [.obj 4,ah a,ah b,rs] C=some (.bool false,ao)/\b8 ao U h bH bw ks (B+1) pr:=by
 refine iv (GZ H (m:=[some (.obj 4),some (ah a),some (ah b),some rs,none,none,none,none]) (al:=dd (ay (aj 1) (ay (aj 2) (ay (aj 3) aJ)))) M.B rfl rfl) λms aS _ H1 _=>?_
 refine aG (YM H1 M.six M.down M.len aC ab e) λa8 bf bx=>?_
 refine⟨a8,gN (c3:=.ret (.bool false)) rfl (g9 aS (eg (d:=.none) (aB:=a8) (bh:=[some (.obj 4),some (ah a),some (ah b),some rs,some .none,none,none,none]) ?_ rfl (uw (fF (f:=aj 4) (g:=λ_ C=>some (.none,C)) rfl rfl rfl) (iI (e:=λ_ C=>some (.bool false,C)) rfl)))),H1.pre bx⟩
 exact(zq H1.lay ag (fI (d:=.obj 12) (ih H1.lay) ag rfl) rfl).trans bf
theorem IW(e:root h.p a≠root h.p b):∃ao gf f9 dG,tm [.obj 4,ah a,ah b,rs] C=some (.bool true,ao)/\b8 ao U (h.join a b) gf f9 dG B pr:=by
 refine a6 (⟨_,rfl⟩:∃k,min (root h.p a) (root h.p b)=k) λk l6=>a6 (⟨_,rfl⟩:∃g,max (root h.p a) (root h.p b)=g) λg qL=>?_
 refine bU (I4 M.down aC ab l6 qL) λlw l5=>?_
 have lx:k≠g:=λq=>e (by
  rw[←l6,←qL]at q
  rcases Nat.le_total (root h.p a) (root h.p b)with r|r
  ·rw[Nat.min_eq_left r,Nat.max_eq_right r]at q;exact q
  ·rw[Nat.min_eq_right r,Nat.max_eq_left r]at q;exact q.symm)
 have Iw:=J2 (p:=h.p) (g:=g) (k:=k) (by rw[M.len];exact l5.1) (uz (l6▸qL▸aO (Nat.min_le_left ..) (Nat.le_max_left ..)) lx) l5.2
 refine iv (GZ H (m:=[some (.obj 4),some (ah a),some (ah b),some rs,none,none,none,none]) (al:=dd (ay (aj 1) (ay (aj 2) (ay (aj 3) aJ)))) M.B rfl rfl) λal aS OY H1 hj=>?_
 refine aG H.merged λms j2 iU=>aG H.lu λbM Ra yE=>?_
 refine Zi (YL H1 M.six M.down M.len aC ab e M.Di (aO (fi M.B) ag) l6 qL (jE j2 ag)) λa8 bf k8 fg Wk g6 ge=>?_
 have mY:=(H1.gE k lw.1).1
 have MC:eX [16,13,bH k,15] C a8:=(eX.set C 16 _).trans k8
 have hJ:∀{l o},l<21->l≠13->l≠15->(C.set 16 (.list al))[l]?=some o->a8[l]?=some o:=λbV ai ak q=>k8 _ _ (λq=>(dS.mp q).elim ai λq=>(dS.mp q).elim (lr mY bV).symm λq=>ak (cK.mp q)) q
 have f2:∀{c},c∈ks->a8[bw c]?=some (.list ((h.c4 c).map ah)):=λax=>k8 _ _ (λq=>(dS.mp q).elim (lr (H.f8 _ ax).1 ag) λq=>(dS.mp q).elim (H.apart k lw.1 _ ax).symm λq=>lr (H.f8 _ ax).1 ag (cK.mp q)) (H1.f8 _ ax).2
 have mO:=(H.keys.2 k).mpr lw
 have Ck:=(H.keys.2 g).mpr l5
 have nt:Lay a8:=H1.lay.gS k8 λl q=>(dS.mp q).elim (λq=>q▸bD _) λq=>(dS.mp q).elim (λq=>q▸aO ag mY) λq=>cK.mp q▸ag
 have iD:ks.length<=6:=aO (sq H.keys.1 λc ax=>ft.mpr ((H.keys.2 c).mp ax).1) (by rw[fW];exact M.six)
 have yx:∀{n},n+jd h.p<=B->n<=1000:=λq=>aO (hD ..) (aO q (aO M.B ag))
 refine iH (S8 mO Ck lx nt (a:=a) (b:=b) (rs:=rs) (hJ ag ag ag (jE Ra ag)) (yx yE) (hJ ag ag ag (aG H.km λ_ q _=>gT q)) hj (hJ ag ag ag H1.wait) M.wait (hJ ag ag ag H1.iG) iD (f2 mO) (f2 Ck) (H.f8 k mO).1 (H.f8 g Ck).1 (M.c4 k) (M.c4 g)) λAp n Q=>?_
 refine E1 Q λqx uJ Y0 v20 EW xh aH=>aG Y0 λvt YW pH=>?_
 have ir:∀{n},n+jd h.p<=B->n+1+jd (h.p.set g k)<=B:=λq=>aO (cB (by rw[←Iw,Nat.add_assoc,Nat.add_comm 1])) q
 have bn:h.join a b={p:=h.p.set g k,dg:=λc=>if c=k then h.dg k++h.dg g else h.dg c,known:=h.known,c4:=λc=>if c=k then h.c4 k++h.c4 g else h.c4 c,wait:=h.wait++h.c4 g}:=by
  unfold cv.join
  dsimp only
  rw[bq e,l6,qL]
 rw[bn]
 refine⟨Ap,bH,λc=>if c=k then n else bw c,ks.filter λc=>decide (c≠g),gN (c3:=.ret (.bool true)) (m:=qz a b rs k g) rfl (g9 aS (eg (d:=.tup [ah k,ah g]) (aB:=a8) (bh:=[some (.obj 4),some (ah a),some (ah b),some rs,some (.tup [ah k,ah g]),none,none,none]) ((zq H1.lay ag (fI (d:=.obj 12) (ih H1.lay) ag rfl) rfl).trans bf) rfl (h6 (fF (f:=aj 4) (g:=λ_ C=>some (.none,C)) rfl rfl rfl) rfl (eg (e:=aj 4) (aB:=a8) (a8:=a8) (bh:=qz a b rs k g) rfl rfl qx)))),?_⟩
 refine S6 H M.len lw l5 lx (MC.trans uJ) (uJ _ _ ag fg) (uJ _ _ (rP ag mY) Wk) ⟨_,uJ _ _ ag g6,?_⟩ ⟨al,uJ _ _ ag (hJ ag ag ag (aG H.km λ_ q _=>gT q)),?_⟩ ⟨vt,YW,?_⟩ v20 EW xh (aO (aO (cB mv.symm) ge) aH)
 ·rw[dO];exact ir iU
 ·exact Nat.le_of_succ_le_succ (aO (cB (by rw[←Iw];rfl)) OY)
 ·rw[pH];exact ir yE
end
theorem b8.Xi{C:aa}{U h bH bw ks B pr}(H:b8 C U h bH bw ks B pr)(mW:List (bF×Nat)):b8 (C.set 18 (.du (mW.map λq=>(eK q.1,ah q.2)))) U {h with known:=mW} bH bw ks B pr:=H.K2 ag _ (gT H.known) (jE H.wait ag)
theorem b8.p6{C:aa}{U h bH bw ks B pr}(H:b8 C U h bH bw ks B pr)(W:List Nat):b8 (C.set 20 (.list (W.map ah))) U {h with wait:=W} bH bw ks B pr:=H.K2 ag _ (jE H.known ag) (gT H.wait)
theorem BP{mW:List (bF×Nat)}(x:bF):dM (mW.map λq=>(eK q.1,ah q.2)) (eK x)=(mW.lookup x).map ah:=BQ (f:=eK) (g:=ah) (λ_ _ h=>zB h) x mW
section
variable{C:aa}{U:List bF}{h:cv}{bH bw:Nat->Nat}{ks:List Nat}{B:Nat}{pr:List (Nat×bG)}(H:b8 C U h bH bw ks B pr)(M:lT U h B)
include H M
theorem S5{a b:Nat}{rs:D}(aC:a<U.length)(ab:b<U.length):∃ao gf f9 dG r,tm [.obj 4,ah a,ah b,rs] C=some (.bool r,ao)/\b8 ao U (h.join a b) gf f9 dG (B+1) pr:=by
 by_cases e:root h.p a=root h.p b
 ·refine aG (S7 H M (rs:=rs) aC ab e) λao aS H1=>?_
  have:h.join a b=h:=a3 e
  rw[this]
  exact⟨ao,_,_,_,false,aS,H1⟩
 ·refine rh (IW H M (rs:=rs) aC ab e) λao gt ge fL aS H1=>?_
  exact⟨ao,gt,ge,fL,true,aS,H1.up (k1 _)⟩
theorem Jl{n:Nat}{x:bF}(ar:U[n]?=some x)(aq:iO x)(hm:∀k∈x.kids,k<U.length)(ly:∀m,h.known.lookup (canon (root h.p) x)=some m->m<U.length)(aw:h.known.length<=10000):
  ∃ao gf f9 dG,yj [.obj 4,ah n] C=some (.none,ao)/\b8 ao U (h.look U n) gf f9 dG B pr:=by
 have aH:=(e4.mp ar).1
 refine aG (JX H M.six M.down M.len ar aq.2 hm C .refl) λaB aS aT=>?_
 have H1:=H.pre aT
 have y4:U.getD n ⟨Str.empty,[]⟩=x:=Option.some.inj ((rU aH).symm.trans ar)
 have pL:keyOk (eK (canon (root h.p) x))=true:=zC ⟨aq.1,aO (cB (bR _)) aq.2⟩
 have yL:(h.known.map λq=>(eK q.1,ah q.2)).length<=lim:=aO (cB (bR _)) (dC aw)
 have hl:ay (dy 429 "node" (aj 0) (ay (aj 1) aJ) vw) (ay (aj 1) aJ) [some (.obj 4),some (ah n),none] C=some ([b1 (canon (root h.p) x),ah n],aB):=eC ((kr H.lay ag rfl rfl).trans aS) (cp (e:=aj 1) rfl)
 cases oE:h.known.lookup (canon (root h.p) x)with
 |none=>
  have tF:pg [.obj 18,b1 (canon (root h.p) x),ah n] aB=some (ah n,aB.set 18 (.du ((h.known++[(canon (root h.p) x,n)]).map λq=>(eK q.1,ah q.2)))):=by
   have av:dM (h.known.map λq=>(eK q.1,ah q.2)) (eK (canon (root h.p) x))=none:=by rw[BP,oE];rfl
   exact(Xs H1.known pL yL av).trans (by rw[zK av,fv];rfl)
  have bf:=gU (T:="dict") (e:=cn 429 "known" (aj 0)) (gO:=pg) (m:=[some (.obj 4),some (ah n),none]) (fI (d:=.obj 18) (ih H.lay) ag rfl) (xe H.known rfl) hl tF
  have ht:=H1.Xi (h.known++[(canon (root h.p) x,n)])
  refine aG (vZ ht M.six M.down M.len aH _ .refl) λcg cY cx=>?_
  refine aG (vZ ht M.six M.down M.len aH _ cx) λeh hh dm=>?_
  have hF:=ht.pre cx
  refine⟨eh,bH,bw,ks,gN (c3:=.next) (m:=[some (.obj 4),some (ah n),some (ah n)]) rfl (eg bf rfl (h6 (bh:=[some (.obj 4),some (ah n),some (ah n)]) (fF ((kr ht.lay ag rfl (cp (e:=aj 2) rfl)).trans cY) ((kr hF.lay ag rfl (cp (e:=aj 1) rfl)).trans hh) ?_) rfl rfl)),?_⟩
  ·exact(tY _ _ _).trans (by rw[dT rfl];rfl)
  ·have:h.look U n={h with known:=h.known++[(canon (root h.p) x,n)]}:=by unfold cv.look;dsimp only;rw[y4,oE]
   rw[this]
   exact hF.pre dm
 |some m=>
  have aR:=ly m oE
  have tF:pg [.obj 18,b1 (canon (root h.p) x),ah n] aB=some (ah m,aB):=by
   exact Xu H1.known pL yL (by rw[BP,oE];rfl)
  have bf:=gU (T:="dict") (e:=cn 429 "known" (aj 0)) (gO:=pg) (m:=[some (.obj 4),some (ah n),none]) (fI (d:=.obj 18) (ih H.lay) ag rfl) (xe H.known rfl) hl tF
  refine aG (vZ H1 M.six M.down M.len aR _ .refl) λcg cY cx=>?_
  refine aG (vZ H1 M.six M.down M.len aH _ cx) λeh hh dm=>?_
  have hF:=H1.pre cx
  have jO:=hF.pre dm
  have RA:h.look U n=h.join m n:=by unfold cv.look;dsimp only;rw[y4,oE]
  rw[RA]
  have oB:=fF (op:=.NotEq) ((kr (x:="find") (o:=aj 0) H1.lay ag rfl (cp (e:=aj 2) (m:=[some (.obj 4),some (ah n),some (ah m)]) rfl)).trans cY) ((kr (x:="find") hF.lay ag (o:=aj 0) rfl (cp (e:=aj 1) rfl)).trans hh) (b:=!decide (root h.p m=root h.p n)) (tY _ _ _)
  by_cases e:root h.p m=root h.p n
  ·rw[dT e]at oB
   have:h.join m n=h:=a3 e
   rw[this]
   exact⟨eh,bH,bw,ks,gN (c3:=.next) (m:=[some (.obj 4),some (ah n),some (ah m)]) rfl (eg bf rfl (h6 oB rfl rfl)),jO⟩
  ·rw[fu e]at oB
   refine rh (IW jO M (rs:=.tup [.str "like"]) aR aH e) λiN gt ge fL iC k7=>?_
   exact⟨iN,gt,ge,fL,gN (c3:=.next) (m:=[some (.obj 4),some (ah n),some (ah m)]) rfl (eg bf rfl (ux oB (g9 ((kr jO.lay ag rfl (eC (e:=aj 2) rfl (eC (e:=aj 1) rfl (cp (hC rfl))))).trans iC) rfl) rfl)),k7⟩
end
structure iz(U:List bF)(told done:List (Nat×Nat))(h:cv):Prop where
 inv:Inv U told done h
 bd:qh 6 U.length h
 ok:∀x∈U,iO x
 six:U.length<=6
 cnt:h.known.length+ku (6*2^U.length) h<=3000
theorem iz.lm{U told done h B}(X:iz U told done h)(d2:B<=900):lT U h B where
 six:=X.six
 down:=X.inv.down
 len:=X.inv.len
 Di i hi au:=bU (X.inv.dg i hi au) λaH aR=>aO (sq aH λj bn=>ft.mpr ((aR j).mp bn).1) (by rw[fW];exact aO X.six ag)
 c4 c:=by
  have ak:6*2^U.length<=6*2^6:=Nat.mul_le_mul_left 6 (Nat.pow_le_pow_right ag X.six)
  exact aO (X.bd.small c) (aO ak ag)
 wait:=aO (aO (oX ..) (aO (oX ..) X.cnt)) ag
 B:=d2
theorem aai(p:List Nat):jd p<=p.length:=aO (List.length_filter_le _ _) (cB fW)
section
variable{U:List bF}{told:List (Nat×Nat)}
theorem iz.tell{done h a b}(X:iz U told done h)(aC:a<U.length)(ab:b<U.length):iz U (told++[(a,b)]) ((a,b)::done) (h.join a b):=by
 haveI aM:=X.inv.mono (iF:=told++[(a,b)]) λp aF=>i6 _ aF
 haveI my:=aM.join aC ab (.told (iJ _ (.head _)))
 refine fV (IV aM X.bd aC ab) λkk kl pb=>?_
 refine⟨my,kk,X.ok,X.six,?_⟩
 rw[cv.ze]
 haveI:=X.cnt
 lia
theorem iz.look{done h W n x}(X:iz U told done h)(hw:h.wait=W++[n])(ar:U[n]?=some x):∃hK,(∀q∈done,q∈hK)/\iz U told hK (({h with wait:=W}:cv).look U n)/\ku (6*2^U.length) (({h with wait:=W}:cv).look U n)<ku (6*2^U.length) h:=by
 have cH:h={h with wait:=W++[n]}:=by rw[←hw]
 have aM:Inv U told done {h with wait:=W++[n]}:=cH▸X.inv
 have aH:=(e4.mp ar).1
 refine aG (aM.Ub ar) λhK iQ my=>?_
 refine bU (Uc aM X.bd aH) λkk kl=>?_
 rw[←cH]at kl
 refine⟨hK,iQ,⟨my,kk,X.ok,X.six,?_⟩,kl⟩
 have aq:(({h with wait:=W}:cv).look U n).known.length<=h.known.length+1:=by
  unfold cv.look
  dsimp only
  cases h.known.lookup (canon (root h.p) (U.getD n ⟨Str.empty,[]⟩))with
  |none=>exact cB dO
  |some _=>dsimp only;rw[cv.ze];exact k1 _
 have:=X.cnt
 lia
variable{B:Nat}{pr:List (Nat×bG)}
theorem Xw(d2:B<=900):∀(u:Nat) (C:aa) (h:cv) (bH bw:Nat->Nat) (ks:List Nat) (done:List (Nat×Nat)),ku (6*2^U.length) h<=u->b8 C U h bH bw ks B pr->iz U told done h->
  ∃ao af gf f9 dG hK,kd EF FV [some (.obj 4),none] C=some (.next,[some (.obj 4),none],ao)/\b8 ao U af gf f9 dG B pr/\iz U told hK af/\af.wait=[]/\∀q∈done,q∈hK:=by
 intro u
 induction u using Nat.strongRecOn with
 |ind u aE=>
  intro C h bH bw ks done cJ H X
  have M:=X.lm d2
  have r9:(h.wait.map ah).length<=lim:=by rw[bR];exact dC M.wait
  have nL:EF [some (.obj 4),none] C=some (decide (0<h.wait.length),C):=by
   refine fF (op:=.Gt) (d:=ah 0) (x_call (gO:=ek) (cp (fI (d:=.obj 20) (ih H.lay) ag rfl)) ((sh H.wait r9).trans (by rw[bR];rfl))) rfl (vI _ _ _)
  rcases List.eq_nil_or_concat h.wait with hw|⟨W,n,hw⟩
  ·rw[hw]at nL
   exact⟨C,h,bH,bw,ks,done,xi nL,H,X,hw,λ_ q=>q⟩
  ·rw[List.concat_eq_append]at hw
   have aH:n<U.length:=X.inv.sE n (by rw[hw];exact iJ _ (.head _))
   have ar:U[n]?=some (cF U n):=j8 aH
   have gQ:=eN ar
   have qS:pf [.obj 20] C=some (ah n,C.set 20 (.list (W.map ah))):=by
    have tq:=H.wait
    rw[hw,fv]at tq
    rw[hw,fv]at r9
    exact Ko tq r9
   have H1:=H.p6 W
   have ME:lT U {h with wait:=W} B:=⟨M.six,M.down,M.len,M.Di,M.c4,by have:=M.wait;rw[hw,dO]at this;exact i7 this,d2⟩
   refine eB (X.look hw ar) λvb iQ MO cz=>?_
   refine rh (Jl H1 ME ar (X.ok _ gQ) (X.inv.mV _ gQ) (λm aR=>(X.inv.pW _ m (zj aR)).1) (aO (hD ..) (aO X.cnt ag))) λa8 gt ge fL bf ht=>?_
   refine a6 (aE _ (dE cz cJ) a8 _ gt ge fL vb (bD _) ht MO) λcg a2=>?_;refine sH a2 λeT jB md me OA cY hF MP Sp Bh=>?_;clear a2
   refine⟨cg,eT,jB,md,me,OA,xk (ao:=C) (nL.trans (by rw[hw,dO];rfl)) ?_ cY,hF,MP,Sp,λq aL=>Bh q (iQ q aL)⟩
   refine g9 (d:=.none) (aB:=a8) ((kr (C:=C) (aB:=C.set 20 (.list (W.map ah))) H.lay ag rfl (cp (gU (T:="list") (fI (d:=.obj 20) (ih H.lay) ag rfl) (h5 H.wait) rfl qS))).trans bf) rfl
theorem K9(d2:B<=900){C:aa}{h:cv}{bH bw:Nat->Nat}{ks:List Nat}{done:List (Nat×Nat)}(H:b8 C U h bH bw ks B pr)(X:iz U told done h):
  ∃ao af gf f9 dG hK,tn [.obj 4] C=some (.none,ao)/\b8 ao U af gf f9 dG B pr/\iz U told hK af/\af.wait=[]/\∀q∈done,q∈hK:=by
 refine a6 (Xw d2 _ C h bH bw ks done (bD _) H X) λao a9=>?_;refine sH a9 λaf gt ge fL hK e uF kj hw hd=>?_;clear a9
 exact⟨ao,af,gt,ge,fL,hK,gN (c3:=.next) (m:=[some (.obj 4),none]) rfl (jJ e rfl),uF,kj,hw,hd⟩
theorem UH(d2:B<=900){C:aa}{h:cv}{bH bw:Nat->Nat}{ks:List Nat}{done:List (Nat×Nat)}(H:b8 C U h bH bw ks B pr)(X:iz U told done h){a b:Nat}(aC:a<U.length)(ab:b<U.length){rs:D}:
  ∃ao gf f9 dG r,BM [.obj 4,ah a,ah b,rs] C=some (.bool r,ao)/\b8 ao U (h.join a b) gf f9 dG (B+1) pr/\iz U (told++[(a,b)]) ((a,b)::done) (h.join a b):=by
 refine LQ (S5 H (X.lm d2) (rs:=rs) aC ab) λao gt ge fL r e uF=>?_
 exact⟨ao,gt,ge,fL,r,gN (c3:=.ret (.bool r)) (m:=[some (.obj 4),some (ah a),some (ah b),some rs]) rfl (iI ((kr H.lay ag rfl (eC (e:=aj 1) rfl (eC (e:=aj 2) rfl (cp (e:=aj 3) rfl)))).trans e)),uF,X.tell aC ab⟩
end
noncomputable def mJ(o:Str):Prop:=o="a"\/o="b"\/o="f"\/o="g"
section
variable{az:aa}{m:aK}{e:aY (D×aa)}{c ez:aY (Bool×aa)}{b:Bool}{y:Str}
theorem SD(h:Run az (e m) (.str y))(aC:y.cps.all (· <128)=true):o5 az (c9 e m) (y.cps.toList.map λc=>D.str ⟨#[c]⟩):=λC p=>
 aG (h C p) λ_ aS aT=>⟨none,_,bp aS (a3 aC),aT,λ_ _=>rfl⟩
theorem KD(ai:Run az (c m) false)(ak:Run az (ez m) b):Run az (jC c ez m) b:=p2 ai ak
theorem SX{o:Str}(aD:mJ o):Run az (vD [.str o]) (.bool true):=by
 have key:∀(o:Str),o.cps.all (· <128)=true->PyData.strOk o=true->D.str o≠.str ""->(∀d∈o.cps.toList.map λc=>D.str ⟨#[c]⟩,∀C:aa,EH [none,some d] C=some (false,C))->o.length<=100->Run az (vD [.str o]) (.bool true):=λo ai ak aV bL dx=>by
  refine oz rfl (ot (Eh (b:=true) (t9 (h3 (bP rfl) dI λC _=>?_)) (λ_=>t9 ?_) (λe=>by cases e)))
  ·exact(Vc (a:=.str o) (b:=.str "") ak (by decide+kernel) (es _) C).trans (bb (λb=>some (!b)) (fu aV))
  ·have:=pX (az:=az) (c:=EH) (e:=GV) (dk:=c9 (aj 0)) (cw:=[none,none]) (as:=b9 1) (m:=[some (.str o)]) (fr:=λd=>[none,some d]) (pp:=λ_=>false) (gx:=id) (λm=>∃a,m=[none,a]) (SD (bP rfl) ai) ⟨none,rfl⟩ (λd _ m aR C=>a6 aR λa aR=>aR▸rfl) (λd _=>⟨_,rfl⟩) (λd hd=>.keep λC _=>bL d hd C) (λd _ q=>by cases q) (by rw[bR];exact aO dx ag)
   rw[List.filter_eq_nil_iff.mpr (λ_ _=>k3)]at this
   exact KC this (sg sy) ⟨rfl,es _⟩ rfl
 rcases aD with rfl|rfl|rfl|rfl<;>refine key _ (by decide+kernel) (by decide+kernel) ag (λd hd C=>?_) (by decide+kernel)<;>
 ·have hd:=cK.mp (show d∈[_]from hd)
  subst hd
  kernel_rfl
theorem vF{o:Str}(aD:mJ o):su o:=aD.elim .inl λh=>h.elim (λh=>.inr (.inl h)) λh=>.inr (.inr (.inr h))
theorem WG{o:Str}(aD:mJ o)(C:aa):∃ao,BK [.obj 6,.str o] C=some (.none,ao)/\Pre C ao:=by
 haveI hi:∀C:aa,iW (.str o) (.int 0) C=some (.str o):=λC=>by rcases aD with rfl|rfl|rfl|rfl<;>kernel_rfl
 haveI ax:Run C (jC (p0 (qa (bW (ay (aj 1) aJ) vD))) (jC (cP .Eq (bX (aj 1) (a7 (.int 0))) (a7 (.str "?"))) qA) [some (.obj 6),some (.str o),none,none]) false:=
  KD (Ei (b:=true) (Ej (w2 (fs (bP rfl)) (SX aD)))) (KD (h3 (e2 (bP rfl) dI λC _=>hi C) dI λC _=>(sb (oN (vF aD)) C).trans (bb some (fu (zH (vF aD))))) (λC _=>⟨C,rfl,.refl⟩))
 refine aG (ax C .refl) λaB aS aT=>?_
 exact⟨aB,gN (c3:=.next) (m:=[some (.obj 6),some (.str o),none,none]) rfl (h6 aS rfl rfl),aT⟩
end
theorem LZ(U:List bF)(x:bF):(U++[x]).zipIdx=U.zipIdx++[(x,U.length)]:=List.zipIdx_append.trans (by rw[Nat.zero_add];rfl)
theorem E7{x:bF}{l:List bF}{k:Nat}(h:x∉l):(l.zipIdx k).lookup x=none:=by
 induction l generalizing k with
 |nil=>rfl
 |cons y l aE=>
  rw[List.zipIdx_cons,gV,beq_eq_false_iff_ne.mpr λe:x=y=>h (e▸.head _)]
  exact aE λq=>h (.tail _ q)
theorem ints_get{ws kids:List Nat}(aq:∀k∈kids,k<ws.length):∃s:Nat,((kids.map λk=>ws.getD k 0).map λ(n:Nat)=>(n:Int)).sum=(s:Int):=by
 refine⟨(kids.map λk=>ws.getD k 0).sum,?_⟩
 induction kids with
 |nil=>rfl
 |cons k kids aE=>
  have h:=aE λj bn=>aq j (.tail _ bn)
  rw[gm,gm,List.sum_cons,h,List.sum_cons,Int.natCast_add]
theorem Uz(l:List Nat):∃n:Nat,tU (l.map λ(n:Nat)=>(n:Int))=(n:Int):=by
 unfold tU
 generalize argBest _ _=i
 by_cases h:i<l.length
 ·exact⟨l.getD i 0,Option.some.inj ((rU (by rw[bR];exact h)).symm.trans (sj h))⟩
 ·exact⟨0,by rw[kC,lM (by rw[bR];exact Nat.le_of_not_lt h)];rfl⟩
def js(x:bF)(n a:Option D):aK:=[some (.obj 6),some (.str x.op),some (.tup (x.kids.map ah)),n,a,none,none,none,none,none]
section
variable{C:aa}{U:List bF}{h:cv}{bH bw:Nat->Nat}{ks:List Nat}{B:Nat}{pr:List (Nat×bG)}(H:b8 C U h bH bw ks B pr)(dn:U.length<=5){x:bF}(ar:x∉U)(aD:mJ x.op)(eQ:x.kids.length<=2)(hm:∀k∈x.kids,k<U.length)
include H dn ar aD eQ hm
theorem Ym:∃ao ws J:_,yi [.obj 6,.str x.op,.tup (x.kids.map ah)] C=some (ah U.length,ao)/\eX [8,7,9,10] C ao/\ao[7]?=some (.list ((U++[x]).map b1))/\ao[8]?=some (.du ((U++[x]).zipIdx.map λq=>(eK q.1,ah q.2)))/\
  ao[9]?=some (.list (List.map ah ws))/\ws.length=U.length+1/\ao[10]?=some (.list (List.map ah J))/\J.length=U.length+1:=by
 haveI L:=H.lay
 haveI ID:(eK x).length=x.kids.length+1:=bb (· +1) (bR _)
 haveI pL:keyOk (eK x)=true:=zC ⟨oN (vF aD),eQ⟩
 have Ct:(x.kids.map ah).length<=2:=aO (cB (bR _)) eQ
 haveI aS:=hT (op:=.Add) (f:=dd (ay (aj 1) aJ)) (g:=bW (ay (aj 2) aJ) jR) (m:=(js x none none)) (C:=C) (hC (cp (e:=aj 1) rfl)) (x_call (cp (e:=aj 2) rfl) rfl) (v:=b1 x) (cg:=C) (a3 (dC (aO (gH Ct 1) (Nat.le_of_ble_eq_true rfl))))
 have mN:(D.str x.op::x.kids.map ah).length<=lim:=dC (aO (fi Ct) ag)
 haveI H9:dM (U.zipIdx.map λq=>(eK q.1,ah q.2)) (eK x)=none:=by rw[BP,E7 ar];rfl
 haveI bf:cP .In (aj 3) (cn 181 "numbers" (aj 0)) (js x (some (b1 x)) none) C=some (false,C):=by
  refine fF (f:=aj 3) (a:=b1 x) rfl (fI (d:=.obj 8) (pR L) ag rfl) ?_
  haveI:=H.m0
  exact SO this pL (by rw[H9];rfl)
 refine aG (WG aD C) λaB cY aT=>?_
 haveI jn:=L.pre aT
 haveI CA:∀{ao:aa} {m:aK} {xs:List D},Lay ao->m.at 0=some (.obj 6)->ao[7]?=some (.list xs)->xs.length<=100->bW (ay (cn 181 "nodes" (aj 0)) aJ) ek m ao=some (ah xs.length,ao):=λ{ao m xs} om bV BY aw=>x_call (cp (fI (d:=.obj 7) (pR om) ag (ck bV))) (sh BY (aO aw ag))
 haveI BZ:=aT _ _ H.nodes
 haveI OU:∀(mU:List Nat) (a:Option D),(∀k∈mU,k<U.length)->∃hG,ju none (b9 4) xH (mU.map ah) (js x (some (b1 x)) a) aB=some (.next,(js x (some (b1 x)) hG),aB):=λmU=>by
  induction mU with
  |nil=>exactλa _=>⟨a,rfl⟩
  |cons k mU aE=>
   intro a Ig
   refine a6 (aE (some (ah k)) λj bn=>Ig j (.tail _ bn)) λhG e=>?_
   refine⟨hG,?_⟩
   haveI aq:=Ig k (.head _)
   haveI ab:xH (js x (some (b1 x)) (some (ah k))) aB=some (.next,(js x (some (b1 x)) (some (ah k))),aB):=by
    refine h6 ?_ rfl rfl
    haveI cZ:=CA (m:=(js x (some (b1 x)) (some (ah k)))) jn rfl BZ (by rw[bR];exact aO dn ag)
    rw[bR]at cZ
    haveI ai:he .LtE (.int 0) (ah k) aB=some true:=bb some (dT (Int.natCast_nonneg k))
    haveI ak:he .Lt (ah k) (ah U.length) aB=some true:=by rw[tQ,dT aq]
    exact Zm (Zl (f:=λ_ C=>some (.int 0,C)) (g:=aj 4) rfl rfl ai cZ ak)
   exact mI rfl rfl ab e
 refine a6 (OU x.kids none hm) λcm hh=>?_
 haveI ON:jX (c9 (iR (aj 3) (a7 (.int 1)))) (b9 4) xH (js x (some (b1 x)) none) aB=some (.next,(js x (some (b1 x)) cm),aB):=by
  exact E3 (E4 (f:=aj 3) (g:=λ_ C=>some (.int 1,C)) rfl rfl (nD mN)) hh
 haveI HJ:=aT _ _ H.m0
 haveI Sy:(U.zipIdx.map λq=>(eK q.1,ah q.2)).length<=lim:=by rw[bR,List.length_zipIdx];exact dC (aO dn ag)
 obtain ⟨a8,CO⟩:∃a8,aB.set 8 (bG.du ((U++[x]).zipIdx.map λq=>(eK q.1,ah q.2)))=a8:=⟨_,rfl⟩
 haveI k8:eX [8] aB a8:=CO▸eX.set _ _ _
 haveI Qp:a8[8]?=some (bG.du ((U++[x]).zipIdx.map λq=>(eK q.1,ah q.2))):=CO▸gT HJ
 haveI iC:n0 (.obj 8) (b1 x) (ah U.length) aB=some a8:=by
  exact(Yo HJ pL Sy).trans (by rw[zK H9,←CO,LZ,fv];rfl)
 haveI yO:∀{S:List Nat} {C ao:aa},eX S C ao->(∀l∈S,l∈[8,7,9,10])->Lay C->Lay ao:=λ{S C ao} k fQ om=>by
  haveI q:∀{l o},l∉[8,7,9,10]->C[l]?=some o->ao[l]?=some o:=λaw e=>k _ _ (λaR=>aw (fQ _ aR)) e
  exact⟨q ag om.aV,q ag om.bL,q ag om.dx,q ag om.cC,q ag om.l1,q ag om.rV⟩
 haveI nt:=yO k8 ag jn
 haveI B0:=k8 7 _ ag BZ
 obtain ⟨cg,nM⟩:∃cg,a8.set 7 (bG.list (U.map b1++[b1 x]))=cg:=⟨_,rfl⟩
 haveI iy:eX [7] a8 cg:=nM▸eX.set _ _ _
 haveI Qo:cg[7]?=some (bG.list (U.map b1++[b1 x])):=nM▸gT B0
 haveI nu:=yO iy ag nt
 haveI lp:=gU (T:="list") (e:=cn 181 "nodes" (aj 0)) (bM:=ay (aj 3) aJ) (gO:=bAppend) (m:=(js x (some (b1 x)) cm)) (fI (d:=.obj 7) (pR nt) ag rfl) (h5 B0) rfl (lh (d:=b1 x) B0 (by rw[bR];exact dC (aO (fi dn) ag)))
 rw[nM]at lp
 haveI qK:∀{ao:aa} {name:Str} {l:Nat} {ws:List Nat} {el:aY (D×aa)},Lay ao->el=bX (cn 181 name (aj 2)) (aj 1)->rD.lookup name=some (.obj l)->ao[l]?=some (.list (ws.map ah))->ws.length=U.length->
   d5 ao (ea (c9 (iR (aj 3) (a7 (.int 1)))) [none,none,some 0] (b9 1) ef (dL el) (js x (some (b1 x)) cm)) ((x.kids.map λk=>ws.getD k 0).map ah):=λ{ao name l ws el} om yC ab hw r9=>by
  subst yC
  haveI:=lD (az:=ao) (m:=(js x (some (b1 x)) cm)) (dk:=c9 (iR (aj 3) (a7 (.int 1)))) (cw:=[none,none,some 0]) (i:=1) (e:=bX (cn 181 name (aj 2)) (aj 1)) (gx:=λd=>ah (ws.getD (gk d) 0)) (sa (ua (v:=.tup (x.kids.map ah)) (bP rfl) dI (nD mN))) (λd hd=>by
   refine aG (b5.mp hd) λk aq a2=>?_;subst a2
   haveI:=hm k aq
   rw[i4]
   exact e2 (mo (wA om) ab (bP rfl)) (bP rfl) λh7 p=>li (p _ _ hw) (dE this (aO dn ag)) (sj (r9▸this))) (dC (aO Ct ag))
  rw[tS (k:=λk=>ws.getD k 0) (qy:=ah) (λk _=>by rw[i4])]at this
  exact this
 refine aG H.n7 λws kB kc=>?_
 haveI EY:=iy 9 _ ag (k8 9 _ ag (aT _ _ kB))
 refine fh (qK (name:="weights") (el:=GQ) nu rfl ag EY kc cg .refl) λpY eh qr dm bY _=>?_
 refine a6 (ints_get (ws:=ws) (kids:=x.kids) (λk aq=>by rw[kc];exact hm k aq)) λxa y1=>?_
 haveI Sg:uY [.obj pY] eh=some (ah xa,eh):=by
  exact(Ye bY (y9 _)).trans (by rw[y1];rfl)
 haveI vQ:∀(n:Nat) (ao:aa),pj .Add (.int 1) (ah n) ao=some (ah (1+n),ao):=λn ao=>by
  refine(?_:some (D.int (1+(n:Int)),ao)=some (D.int ((1+n:Nat):Int),ao))
  rw[Int.natCast_add];rfl
 haveI LJ:=dm _ _ EY
 obtain ⟨iN,CP⟩:∃iN,eh.set 9 (bG.list (ws.map ah++[ah (1+xa)]))=iN:=⟨_,rfl⟩
 haveI k9:eX [9] eh iN:=CP▸eX.set _ _ _
 haveI Y1:iN[9]?=some (bG.list (ws.map ah++[ah (1+xa)])):=CP▸gT LJ
 haveI AA:=nu.pre dm
 haveI uM:=yO k9 ag AA
 haveI qx:=gU (T:="list") (e:=cn 181 "weights" (aj 0)) (gO:=bAppend) (m:=(js x (some (b1 x)) cm)) (fI (d:=.obj 9) (pR nu) ag rfl) (h5 EY) (cp (hT (op:=.Add) (f:=λ_ C=>some (.int 1,C)) rfl (x_call (cp qr) Sg) (vQ xa eh))) (lh LJ (by rw[bR,kc];exact dC (aO (fi dn) ag)))
 rw[CP]at qx
 refine aG H.ew λJ iQ nz=>?_
 haveI Bh:=iy 10 _ ag (k8 10 _ ag (aT _ _ iQ))
 haveI Bi:=k9 10 _ ag (dm _ _ Bh)
 refine fh (qK (name:="depths") (el:=GJ) uM rfl ag Bi nz iN .refl) λDq jM A0 lH cj _=>?_
 refine a6 (Uz ((x.kids.map λk=>J.getD k 0)++[0])) λwM RH=>?_
 haveI RC:fM (ay (a7 (.int 0)) aJ) (js x (some (b1 x)) cm) jM=some (.obj jM.length,jM++[.list [ah 0]]):=rfl
 haveI QU:=hT (op:=.Add) A0 RC (v:=.obj (jM++[bG.list [ah 0]]).length) (cg:=jM++[bG.list [ah 0]]++[.list (((x.kids.map λk=>J.getD k 0)++[0]).map ah)]) (by
  rw[fv]
  exact add_l (Pre.app [bG.list [ah 0]] _ _ cj) (fx _) (by rw[bR,bR];exact dC (aO (nb eQ 1) ag)))
 haveI RE:qo [.obj (jM++[bG.list [ah 0]]).length] (jM++[bG.list [ah 0]]++[.list (((x.kids.map λk=>J.getD k 0)++[0]).map ah)])=some (ah wM,jM++[bG.list [ah 0]]++[.list (((x.kids.map λk=>J.getD k 0)++[0]).map ah)]):=by
  exact(Uy (fx _) (y9 _) (by rw[fv];exactλe=>List.cons_ne_nil _ _ (List.append_eq_nil_iff.mp e).2)).trans (by rw[RH];rfl)
 haveI t5:Pre jM (jM++[bG.list [ah 0]]++[.list (((x.kids.map λk=>J.getD k 0)++[0]).map ah)]):=(Pre.app _).trans (.app _)
 haveI xS:=t5 _ _ (lH _ _ Bi)
 obtain ⟨og,CQ⟩:∃og,(jM++[bG.list [ah 0]]++[bG.list (((x.kids.map λk=>J.getD k 0)++[0]).map ah)]).set 10 (bG.list (J.map ah++[ah (1+wM)]))=og:=⟨_,rfl⟩
 haveI uK:eX [10] (jM++[bG.list [ah 0]]++[bG.list (((x.kids.map λk=>J.getD k 0)++[0]).map ah)]) og:=CQ▸eX.set _ _ _
 haveI On:og[10]?=some (bG.list (J.map ah++[ah (1+wM)])):=CQ▸gT xS
 haveI x4:=gU (T:="list") (e:=cn 181 "depths" (aj 0)) (gO:=bAppend) (m:=(js x (some (b1 x)) cm)) (fI (d:=.obj 10) (pR uM) ag rfl) (h5 Bi) (cp (hT (op:=.Add) (f:=λ_ C=>some (.int 1,C)) rfl (x_call (cp QU) RE) (vQ wM _))) (lh xS (by rw[bR,nz];exact dC (aO (fi dn) ag)))
 rw[CQ]at x4
 haveI MD:=yO uK ag ((uM.pre lH).pre t5)
 haveI HI:og[7]?=some (bG.list (U.map b1++[b1 x])):=uK 7 _ ag (t5 _ _ (lH _ _ (k9 7 _ ag (dm _ _ Qo))))
 haveI OQ:=hT (op:=.Sub) (f:=bW (ay (cn 181 "nodes" (aj 0)) aJ) ek) (g:=λ_ C=>some (.int 1,C)) (m:=(js x (some (b1 x)) cm)) (CA MD rfl HI (by rw[dO,bR];exact aO (fi dn) ag)) rfl (v:=ah U.length) (cg:=og) (by
  rw[dO,bR]
  refine(?_:some (D.int (((U.length+1:Nat):Int)-1),og)=some (D.int (U.length:Int),og))
  rw[Int.natCast_succ,Int.add_sub_cancel])
 refine⟨og,ws++[1+xa],J++[1+wM],gN (c3:=.ret (ah U.length)) (m:=(js x (some (b1 x)) cm)) rfl (eg aS rfl (h6 bf rfl (g9 ((Jy L ag rfl (cp (e:=aj 1) rfl)).trans cY) (jJ ON (eg (bh:=(js x (some (b1 x)) cm)) (a8:=a8) (CA jn rfl BZ (by rw[bR];exact aO dn ag)) ?_ (g9 lp (g9 qx (g9 x4 (iI OQ))))))))),?_,?_,?_,?_,?_,?_,?_⟩
 ·exact zZ (fI (f:=aj 0) (d:=.obj 8) (pR jn) ag rfl) rfl ((bR b1).symm▸iC)
 ·exact(((((((aT.gS.trans k8).trans iy).trans dm.gS).trans k9).trans lH.gS).trans t5.gS).trans uK).mono λl aw=>aw
 ·rw[fv];exact HI
 ·exact uK 8 _ ag (t5 _ _ (lH _ _ (k9 8 _ ag (dm _ _ (iy 8 _ ag Qp)))))
 ·rw[fv];exact uK 9 _ ag (t5 _ _ (lH _ _ Y1))
 ·rw[dO,kc];rfl
 ·rw[fv];exact On
 ·rw[dO,nz];rfl
end
theorem tN{C:aa}{l n:Nat}{xs:List D}(h:C[l]?=some (.list xs))(aH:xs.length=n)(aw:n<=lim):ek [.obj l] C=some (ah n,C):=by
 subst aH;exact sh h aw
theorem DC(N:Nat):jd (List.range N)=N:=by
 unfold jd
 rw[fW,List.filter_eq_self.mpr (λi _=>dT (range_getD N i)),fW]
theorem Qa{bw:Nat->Nat}{n:Nat}{ks:List Nat}(h:n∉ks):dM (ks.map λ(c:Nat)=>((c:Int),D.obj (bw c))) (n:Int)=none:=by
 exact bb (Option.map Prod.snd) (List.find?_eq_none.mpr λp aF=>by refine aG (b5.mp aF) λc ax a9=>?_;subst a9;exactλe=>h (Int.ofNat.inj (hU e)▸ax))
theorem b8.Xe{C:aa}{U h bH bw ks B pr}(H:b8 C U h bH bw ks B pr){c:Nat}(ax:c∈ks)(l:List Nat):b8 (C.set (bw c) (.list (l.map ah))) U {h with c4:=λd=>if d=c then l else h.c4 d} bH bw ks B pr:=by
 refine bU (H.f8 c ax) λgs hJ=>?_
 have q:∀{k o},k≠bw c->C[k]?=some o->(C.set (bw c) (.list (l.map ah)))[k]?=some o:=λaw e=>jE e (Ne.symm aw)
 have n:∀{a},a<21->a≠bw c:=λh=>(lr gs h).symm
 exact{H with
  lay:=H.lay.gS (.set _ _ _) λl aw=>cK.mp aw▸aO ag gs,nodes:=q (n ag) H.nodes,m0:=q (n ag) H.m0,n7:=rg H.n7 λ_=>q (n ag),ew:=rg H.ew λ_=>q (n ag),
  above:=q (n ag) H.above,dg:=q (n ag) H.dg,merged:=H.merged.j7 (λ_=>q (n ag)) (bD _),km:=H.km.j7 (λ_=>q (n ag)) (bD _),lu:=H.lu.j7 (λ_=>q (n ag)) (bD _),
  known:=q (n ag) H.known,iG:=q (n ag) H.iG,wait:=q (n ag) H.wait,gE:=λi hi=>⟨(H.gE i hi).1,q (H.apart i hi c ax) (H.gE i hi).2⟩,
  f8:=λd hd=>⟨(H.f8 d hd).1,by
   by_cases e:d=c
   ·rw[e];exact(gT hJ).trans (by dsimp only;rw[a3 rfl])
   ·exact(q (λr=>e (H.sV d hd c ax r)) (H.f8 d hd).2).trans (by dsimp only;rw[bq e])⟩,
  fD:=λp aF=>⟨q (((H.fD p aF).2.2.2 c ax).symm) (H.fD p aF).1,(H.fD p aF).2⟩}
def lV(U:List bF):cv:={p:=List.range (U.length+1),dg:=λi=>[i],known:=U.zipIdx,c4:=(fY U).c4,wait:=[]}
theorem Us{C:aa}(L:Lay C){N:Nat}{bH:Nat->Nat}(dn:N<=6)(l2:C[13]?=some (.list ((List.range N).map ah)))(Qj:C[14]?=some (.list ((List.range N).map λi=>.obj (bH i)))):
  ∃ao ln,yn [.obj 12] C=some (ah N,ao)/\eX [13,14] C ao/\ao[13]?=some (.list ((List.range (N+1)).map ah))/\ao[14]?=some (.list ((List.range N).map (λi=>.obj (bH i))++[.obj ln]))/\ao[ln]?=some (.list [ah N])/\C.length<=ln:=by
 have yy:N+1<=lim:=aO (fi dn) ag
 have HO:N<=lim:=i7 yy
 haveI kk:bW (ay (cn 299 "above" (aj 0)) aJ) ek [some (.obj 12),none] C=some (ah N,C):=by
  exact x_call (cp (fI (d:=.obj 13) (mT L) ag rfl)) (tN l2 (by rw[bR,fW]) HO)
 haveI aS:=gU (T:="list") (e:=cn 299 "above" (aj 0)) (gO:=bAppend) (m:=[some (.obj 12),none]) (fI (d:=.obj 13) (mT L) ag rfl) (h5 l2) (cp kk) (lh l2 (by rw[bR,fW];exact yy))
 obtain ⟨aB,y5⟩:∃aB,C.set 13 (bG.list ((List.range N).map ah++[ah N]))=aB:=⟨_,rfl⟩
 haveI uI:eX [13] C aB:=y5▸eX.set _ _ _
 haveI a2:aB[13]?=some (bG.list ((List.range N).map ah++[ah N])):=y5▸gT l2
 haveI qN:aB.length=C.length:=by rw[←y5,mv]
 rw[y5]at aS
 haveI jn:=L.gS uI λl aw=>cK.mp aw▸bD _
 haveI yw:=uI 14 _ ag Qj
 haveI kl:bW (ay (cn 299 "lots" (aj 0)) aJ) ek [some (.obj 12),none] aB=some (ah N,aB):=by
  exact x_call (cp (fI (d:=.obj 14) (mT jn) ag rfl)) (tN yw (by rw[bR,fW]) HO)
 haveI pb:fM (ay (bW (ay (cn 299 "lots" (aj 0)) aJ) ek) aJ) [some (.obj 12),none] aB=some (.obj aB.length,aB++[.list [ah N]]):=by
  exact ck (cp kl)
 haveI HH:=Pre.app [bG.list [ah N]] _ _ yw
 haveI bf:=gU (T:="list") (e:=cn 299 "lots" (aj 0)) (gO:=bAppend) (m:=[some (.obj 12),none]) (fI (d:=.obj 14) (mT jn) ag rfl) (h5 yw) (cp pb) (lh HH (by rw[bR,fW];exact yy))
 obtain ⟨cg,nM⟩:∃cg,(aB++[bG.list [ah N]]).set 14 (bG.list ((List.range N).map (λi=>D.obj (bH i))++[D.obj aB.length]))=cg:=⟨_,rfl⟩
 haveI iy:eX [14] (aB++[bG.list [ah N]]) cg:=nM▸eX.set _ _ _
 haveI bC:cg[14]?=some (bG.list ((List.range N).map (λi=>D.obj (bH i))++[D.obj aB.length])):=nM▸gT HH
 rw[nM]at bf
 haveI nu:=(jn.pre (.app _)).gS iy λl aw=>cK.mp aw▸ag
 haveI HG:=iy 13 _ ag (Pre.app [bG.list [ah N]] _ _ a2)
 haveI s0:bW (ay (cn 299 "above" (aj 0)) aJ) ek [some (.obj 12),none] cg=some (ah (N+1),cg):=by
  exact x_call (cp (fI (d:=.obj 13) (mT nu) ag rfl)) (tN HG (by rw[dO,bR,fW];rfl) yy)
 haveI cY:=hT (op:=.Sub) (g:=λ_ C=>some (.int 1,C)) s0 rfl (v:=ah N) (cg:=cg) (by
  refine(?_:some (D.int (((N+1:Nat):Int)-1),cg)=some (D.int (N:Int),cg))
  rw[Int.natCast_succ,Int.add_sub_cancel])
 refine⟨cg,aB.length,gN (c3:=.ret (ah N)) (m:=[some (.obj 12),none]) rfl (g9 aS (g9 bf (iI cY))),(uI.trans (Pre.app _).gS).trans iy,?_,bC,iy _ _ (λq=>Nat.ne_of_gt (e4.mp yw).1 (cK.mp q)) (fx _),cB qN.symm⟩
 rw[List.range_succ,fv];exact HG
theorem b8.FE{az C:aa}{U h bH bw ks B pr}(H:b8 az U h bH bw ks B pr)(p:Pre az C){l:Nat}{o:bG}(aw:az.length<=l)(q:C[l]?=some o):b8 C U h bH bw ks B ((l,o)::pr):=
 {H.pre p with
  fD:=λr au=>(dS.mp au).elim (λe=>e▸⟨q,.inr (aO (e4.mp H.wait).1 aw),λi hi=>old_ne (H.gE i hi).2 aw,λc ax=>old_ne (H.f8 c ax).2 aw⟩) ((H.pre p).fD r)
  nU:=kH.mpr ⟨λaR=>aG (b5.mp aR) λr au e=>old_ne (H.fD r au).1 aw e,H.nU⟩}
theorem b8.OG{C:aa}{U h bH bw ks B pr q}(H:b8 C U h bH bw ks B (q::pr)):b8 C U h bH bw ks B pr:=
 {H with fD:=λr au=>H.fD r (.tail _ au),nU:=(kH.mp H.nU).2}
section
variable{U:List bF}{bH bw:Nat->Nat}{ks:List Nat}{B:Nat}{pr:List (Nat×bG)}
theorem MV{l n:Nat}{xs:List D}{o nm:D}(bk:List Nat)(h:cv)(a:Option D)(C:aa)(H:b8 C U h bH bw ks B ((l,.list xs)::pr))(ax:∀c∈bk,c∈ks)(aw:∀c,(h.c4 c).length+bk.length<=1000):
  ∃ao hG,ju (some (l,xs)) (b9 4) FU (bk.map ah) [some (.obj 4),some o,some nm,some (ah n),a,none,none] C=some (.next,[some (.obj 4),some o,some nm,some (ah n),hG,none,none],ao)/\
   b8 ao U {h with c4:=λd=>h.c4 d++(bk.filter λc=>decide (c=d)).map λ_=>n} bH bw ks B ((l,.list xs)::pr):=by
 induction bk generalizing h a C with
 |nil=>exact⟨C,a,qB (mK (H.fD _ (.head _)).1),by
   have e:(λd=>h.c4 d++(([]:List Nat).filter λc=>decide (c=d)).map λ_=>n)=h.c4:=funext λd=>List.append_nil _
   rw[e];exact H⟩
 |cons c bk aE=>
  have Cd:=ax c (.head _)
  refine bU (H.f8 c Cd) λgs hJ=>?_
  have aS:=gU (T:="list") (e:=bX (cn 429 "above" (aj 0)) (aj 4)) (bM:=ay (aj 3) aJ) (gO:=bAppend) (m:=[some (.obj 4),some o,some nm,some (ah n),some (ah c),none,none]) (kZ (g:=aj 4) (fI (d:=.obj 19) (ih H.lay) ag rfl) rfl (EV H.iG Cd)) (h5 hJ) rfl (lh (d:=ah n) hJ (by rw[bR];exact dC (aO (fi (aO (hD ..) (aw c))) ag)))
  have H1:=H.Xe Cd (h.c4 c++[n])
  rw[fv]at H1
  have aZ:∀d,(h.c4 d).length+1+bk.length<=1000:=λd=>aO (cB (by rw[fX,Nat.add_assoc,Nat.add_comm 1])) (aw d)
  refine dv (aE _ (some (ah c)) _ H1 (λd hd=>ax d (.tail _ hd)) (λd=>by
   dsimp only
   by_cases q:d=c
   ·rw[a3 q,dO];exact aZ c
   ·rw[bq q];exact aO (nb (k1 _) _) (aZ d))) λao hG bf ht=>?_
  refine⟨ao,hG,mI (mK (H.fD _ (.head _)).1) rfl (g9 aS rfl) bf,?_⟩
  have e:(λd=>(if d=c then h.c4 c++[n]else h.c4 d)++(bk.filter λc=>decide (c=d)).map λ_=>n)=λd=>h.c4 d++((c::bk).filter λc=>decide (c=d)).map λ_=>n:=by
   funext d
   by_cases q:d=c
   ·subst q;rw[a3 rfl,List.filter_cons_of_pos (p:=λc=>decide (c=d)) (dT rfl),gm,List.append_assoc];rfl
   ·rw[bq q,List.filter_cons_of_neg (p:=λc=>decide (c=d)) λr=>q (hU r).symm]
  rw[←e]
  exact ht
end
theorem NE{U:List bF}{x:bF}(hm:∀y∈U,∀k∈y.kids,k<U.length)(yM:∀k∈x.kids,k<U.length){bk:List Nat}(ie:bk.Nodup)(aR:∀c,c∈bk↔c∈x.kids):
  (λd=>(fY U).c4 d++(bk.filter λc=>decide (c=d)).map λ_=>U.length)=(fY (U++[x])).c4:=by
 funext d
 show(List.range U.length).filter _++_=(List.range (U++[x]).length).filter _
 rw[dO,fX,List.length_nil,List.range_succ,List.filter_append]
 congr 1
 ·refine List.filter_congr λi hi=>?_
  have hi:=ft.mp hi
  rw[mw hi]
 ·have aS:(U++[x])[U.length]?=some x:=List.getElem?_concat_length
  rw[List.filter_cons,List.filter_nil]
  by_cases hd:d∈x.kids
  ·rw[a3 (dT ⟨x,aS,hd⟩)]
   have:bk.filter (λc=>decide (c=d))=[d]:=by
    have ak:d∈bk.filter λc=>decide (c=d):=jj.mpr ⟨(aR d).mpr hd,dT rfl⟩
    exact List.perm_singleton.mp ((List.perm_ext_iff_of_nodup (ie.filter _) (List.pairwise_singleton ..)).mpr λa=>⟨λq=>cK.mpr (hU (jj.mp q).2),λq=>cK.mp q▸ak⟩)
   rw[this];rfl
  ·rw[bq (λq=>by
    refine aG (hU q) λy bc wo=>?_
    rw[aS]at bc;refine c0 bc λa2=>?_;clear bc;subst a2;exact hd wo)]
   have:bk.filter (λc=>decide (c=d))=[]:=List.filter_eq_nil_iff.mpr λc ax q=>hd (by
    have q:c=d:=hU q
    rw[←q];exact(aR c).mp ax)
   rw[this];rfl
theorem TR{C ao:aa}{U:List bF}{bH bw:Nat->Nat}{ks:List Nat}{B:Nat}{pr:List (Nat×bG)}(H:b8 C U (fY U) bH bw ks B pr){x:bF}(mP:∀y∈U,∀k∈y.kids,k<U.length)(hm:∀k∈x.kids,k<U.length){ln an:Nat}{ws J:List Nat}
  (k:∀l o,l∉[7,8,9,10,13,14,19]->C[l]?=some o->ao[l]?=some o) (xd:ao[7]?=some (.list ((U++[x]).map b1))) (EI:ao[8]?=some (.du ((U++[x]).zipIdx.map λq=>(eK q.1,ah q.2)))) (EJ:ao[9]?=some (.list (ws.map ah))) (EP:ws.length=U.length+1) (EE:ao[10]?=some (.list (J.map ah))) (EK:J.length=U.length+1)
  (Dr:ao[13]?=some (.list ((List.range (U.length+1)).map ah))) (Ds:ao[14]?=some (.list ((List.range U.length).map (λi=>.obj (bH i))++[.obj ln]))) (zu:ao[ln]?=some (.list [ah U.length])) (u:ao[19]?=some (.gR (ks.map (λ(c:Nat)=>((c:Int),D.obj (bw c)))++[((U.length:Int),D.obj an)]))) (Ut:ao[an]?=some (.list []))
  (j1:∀l o,C[l]?=some o->l≠ln) (yz:∀l o,C[l]?=some o->l≠an) (TO:21<=ln) (MR:21<=an) (e1:ln≠an):
  b8 ao (U++[x]) (lV U) (λi=>if i=U.length then ln else bH i) (λc=>if c=U.length then an else bw c) (ks++[U.length]) (B+1) pr:=by
 have L:=H.lay
 have iD:∀c∈ks,c<U.length:=λc ax=>((H.keys.2 c).mp ax).1
 have pC:(U++[x]).length=U.length+1:=dO
 have ox:∀{l},21<=l->l∉[7,8,9,10,13,14,19]:=λh=>rP ag h
 have dW:∀{i},i<(U++[x]).length->¬i=U.length->i<U.length:=λh e=>uz (nd (dE h (cB pC))) e
 have hP:∀{c},c∈ks++[U.length]->¬c=U.length->c∈ks:=λh e=>(er.mp h).resolve_right λq=>e (cK.mp q)
 have tk:∀{l},l∉[7,8,9,10,13,14,19]->k6 C l B (fY U).p->k6 ao l (B+1) (lV U).p:=λaw h=>aG h λms a b=>⟨ms,k _ _ aw a,aO (cB (bb (ms.length+ ·) ((DC _).trans (bb (· +1) (DC _).symm)))) (fi b)⟩
 refine{
  lay:=⟨k _ _ ag L.aV,k _ _ ag L.bL,k _ _ ag L.dx,k _ _ ag L.cC,k _ _ ag L.l1,k _ _ ag L.rV⟩,nodes:=xd,m0:=EI,n7:=⟨ws,EJ,EP.trans pC.symm⟩,ew:=⟨J,EE,EK.trans pC.symm⟩,above:=Dr,dg:=?_,merged:=tk ag H.merged,km:=tk ag H.km,lu:=tk ag H.lu,
  known:=k _ _ ag H.known,iG:=?_,wait:=k _ _ ag H.wait,gE:=λi hi=>?_,f8:=λc ax=>?_,tP:=λi j hi bn q=>?_,sV:=λc ax d hd q=>?_,apart:=λi hi c ax=>?_,keys:=?_,fD:=λq aL=>?_,nU:=H.nU}
 ·rw[pC,List.range_succ,fv]
  have e:(List.range U.length).map (λi=>D.obj (if i=U.length then ln else bH i))=(List.range U.length).map λi=>D.obj (bH i):=kE λi hi=>by rw[bq (gy (ft.mp hi))]
  rw[e,gm,a3 rfl]
  exact Ds
 ·rw[fv]
  have e:ks.map (λ(c:Nat)=>((c:Int),D.obj (if c=U.length then an else bw c)))=ks.map λ(c:Nat)=>((c:Int),D.obj (bw c)):=kE λc ax=>by rw[bq (gy (iD c ax))]
  rw[e,gm,a3 rfl]
  exact u
 ·by_cases e:i=U.length
  ·rw[a3 e,e];exact⟨TO,zu⟩
  ·rw[bq e];exact⟨(H.gE i (dW hi e)).1,k _ _ (ox (H.gE i (dW hi e)).1) (H.gE i (dW hi e)).2⟩
 ·by_cases e:c=U.length
  ·have By:(lV U).c4 c=[]:=List.filter_eq_nil_iff.mpr λi _ q=>aG (hU q) λy bc wo=>absurd e (gy (mP y (eN bc) _ wo))
   rw[a3 e,By];exact⟨MR,Ut⟩
  ·rw[bq e];exact⟨(H.f8 c (hP ax e)).1,k _ _ (ox (H.f8 c (hP ax e)).1) (H.f8 c (hP ax e)).2⟩
 ·by_cases ic:i=U.length
  ·by_cases mH:j=U.length
   ·exact ic.trans mH.symm
   ·rw[a3 ic,bq mH]at q;exact absurd q.symm (j1 _ _ (H.gE j (dW bn mH)).2)
  ·by_cases mH:j=U.length
   ·rw[bq ic,a3 mH]at q;exact absurd q (j1 _ _ (H.gE i (dW hi ic)).2)
   ·rw[bq ic,bq mH]at q;exact H.tP i j (dW hi ic) (dW bn mH) q
 ·by_cases fB:c=U.length
  ·by_cases kO:d=U.length
   ·exact fB.trans kO.symm
   ·rw[a3 fB,bq kO]at q;exact absurd q.symm (yz _ _ (H.f8 d (hP hd kO)).2)
  ·by_cases kO:d=U.length
   ·rw[bq fB,a3 kO]at q;exact absurd q (yz _ _ (H.f8 c (hP ax fB)).2)
   ·rw[bq fB,bq kO]at q;exact H.sV c (hP ax fB) d (hP hd kO) q
 ·by_cases ic:i=U.length
  ·by_cases fB:c=U.length
   ·rw[a3 ic,a3 fB];exact e1
   ·rw[a3 ic,bq fB];exact(j1 _ _ (H.f8 c (hP ax fB)).2).symm
  ·by_cases fB:c=U.length
   ·rw[bq ic,a3 fB];exact yz _ _ (H.gE i (dW hi ic)).2
   ·rw[bq ic,bq fB];exact H.apart i (dW hi ic) c (hP ax fB)
 ·refine⟨od.mpr ⟨H.keys.1,List.pairwise_singleton ..,λa aC b ab e=>gy (iD a aC) (e.trans (cK.mp ab))⟩,λc=>?_⟩
  rw[er,H.keys.2,pC]
  refine(?_:(c<U.length/\(List.range U.length).getD c c=c)\/c∈[U.length]↔c<U.length+1/\(List.range (U.length+1)).getD c c=c)
  rw[range_getD,range_getD,cK]
  exact⟨λh=>⟨h.elim (λh=>Nat.lt_succ_of_lt h.1) λh=>h▸oc _,rfl⟩,λh=>(Nat.lt_succ_iff_lt_or_eq.mp h.1).imp (λh=>⟨h,rfl⟩) id⟩
 ·refine qc (H.fD q aL) λa2 a9 bC bY=>⟨k _ _ (a9.elim (λh=>λaR=>absurd h (rj ((by decide:∀l∈[7,8,9,10,13,14,19],3<=l) _ aR))) ox) a2,a9,λi hi=>?_,λc ax=>?_⟩
  ·by_cases e:i=U.length
   ·rw[a3 e];exact(j1 _ _ a2).symm
   ·rw[bq e];exact bC i (dW hi e)
  ·by_cases e:c=U.length
   ·rw[a3 e];exact(yz _ _ a2).symm
   ·rw[bq e];exact bY c (hP ax e)
section
variable{C:aa}{U:List bF}{bH bw:Nat->Nat}{ks:List Nat}{B:Nat}{pr:List (Nat×bG)}(H:b8 C U (fY U) bH bw ks B pr)(dn:U.length<=5){x:bF}(ar:x∉U)(aD:mJ x.op)(eQ:x.kids.length<=2)(hm:∀k∈x.kids,k<U.length)(mP:∀y∈U,∀k∈y.kids,k<U.length)
include H dn ar aD eQ hm mP
theorem TS:∃aB a8 cg gf f9 dG:_,yi [.obj 6,.str x.op,.tup (x.kids.map ah)] C=some (ah U.length,aB)/\yp [.obj 12] aB=some (ah U.length,aB)/\yn [.obj 12] aB=some (ah U.length,a8)/\Lay aB/\Lay a8/\
  n0 (.obj 19) (ah U.length) (.obj a8.length) (a8++[.list []])=some cg/\b8 cg (U++[x]) (lV U) gf f9 dG (B+1) pr/\dG=ks++[U.length]:=by
 refine a6 (Ym H dn ar aD eQ hm) λaB b3=>?_;refine a6 b3 λws cj=>?_;clear b3;refine a6 cj λJ cA=>?_;clear cj;refine bU cA λaS cQ=>?_;clear cA;refine E1 cQ λuI xd EI EJ EP EE EK=>?_;clear cQ
 have e5:∀l o,l∉[8,7,9,10]->C[l]?=some o->aB[l]?=some o:=uI
 have L:=H.lay
 have jn:Lay aB:=⟨e5 _ _ ag L.aV,e5 _ _ ag L.bL,e5 _ _ ag L.dx,e5 _ _ ag L.cC,e5 _ _ ag L.l1,e5 _ _ ag L.rV⟩
 have l2:aB[13]?=some (.list ((List.range U.length).map ah)):=e5 _ _ ag H.above
 refine xm (Us jn (Nat.le_succ_of_le dn) l2 (e5 _ _ ag H.dg)) λa8 ln bf k8 Dr Ds zu j1=>?_
 have nt:=jn.gS k8 ag
 have vk:yp [.obj 12] aB=some (ah U.length,aB):=gN (c3:=.ret (ah U.length)) (m:=[some (.obj 12),none]) rfl (iI (x_call (cp (fI (d:=.obj 13) (mT jn) ag rfl)) (tN l2 (by rw[bR,fW]) (dC (aO dn ag)))))
 have iD:∀c∈ks,c<U.length:=λc ax=>((H.keys.2 c).mp ax).1
 have Qx:U.length∉ks:=λq=>ji _ (iD _ q)
 have Ly:=Pre.app [bG.list []] _ _ (k8 _ _ ag (e5 _ _ ag H.iG))
 have yL:(ks.map λ(c:Nat)=>((c:Int),D.obj (bw c))).length<=lim:=aO (cB (bR _)) (aO (sq H.keys.1 λc ax=>ft.mpr (iD c ax)) (by rw[fW];exact dC (aO dn ag)))
 have cY:n0 (.obj 19) (ah U.length) (.obj a8.length) (a8++[.list []])=some ((a8++[bG.list []]).set 19 (bG.gR (ks.map (λ(c:Nat)=>((c:Int),D.obj (bw c)))++[((U.length:Int),D.obj a8.length)]))):=(SH Ly yL).trans (by rw[zK (Qa Qx)])
 refine a6 (⟨_,rfl⟩:∃cg,(a8++[bG.list []]).set 19 (bG.gR (ks.map (λ(c:Nat)=>((c:Int),D.obj (bw c)))++[((U.length:Int),D.obj a8.length)]))=cg) λcg nM=>?_
 rw[nM]at cY
 have iy:eX [19] (a8++[bG.list []]) cg:=nM▸eX.set _ _ _
 have zf:∀l o,l∉[19]->a8[l]?=some o->cg[l]?=some o:=λl o a q=>iy _ _ a (Pre.app _ _ _ q)
 have wC:∀l o,l∉[13,14,19]->aB[l]?=some o->cg[l]?=some o:=λl o a q=>zf _ _ (λr=>a (iJ [13,14] r)) (k8 _ _ (λr=>a (i6 [19] r)) q)
 have wb:20<aB.length:=(e4.mp (e5 _ _ ag H.wait)).1
 have Jp:∀l o,C[l]?=some o->l<aB.length:=λl o q=>(Nat.lt_or_ge 20 l).elim (λh=>(e4.mp (e5 _ _ (rP ag h) q)).1) λh=>e6 h wb
 have zm:ln<a8.length:=(e4.mp zu).1
 refine⟨aB,a8,cg,_,_,_,aS,vk,bf,jn,nt,cY,TR H mP hm (ln:=ln) (an:=a8.length) (λl o a q=>wC _ _ (λr=>a (iJ [7,8,9,10] r)) (e5 _ _ (λr=>a ((by decide:∀l∈[8,7,9,10],l∈[7,8,9,10,13,14,19]) l r)) q)) (wC _ _ ag xd) (wC _ _ ag EI) (wC _ _ ag EJ) EP (wC _ _ ag EE) EK (zf _ _ ag Dr) (zf _ _ ag Ds) (zf _ _ (λq=>lr (dE wb j1) ag (cK.mp q)) zu) (nM▸gT Ly) (iy _ _ (λq=>lr (dE wb (gI (e6 j1 zm))) ag (cK.mp q)) (fx _))
  (λl o q=>gy (dE (Jp l o q) j1)) (λl o q=>gy (k2 (dE (Jp l o q) j1) zm)) (dE wb j1) (dE wb (gI (e6 j1 zm))) (gy zm),rfl⟩
end
def xf(U:List bF)(x:bF):cv:={lV U with c4:=(fY (U++[x])).c4}
theorem Jh(U:List bF)(x:bF):(U++[x])[U.length]?=some x:=List.getElem?_concat_length ..
theorem Ud{U:List bF}{x:bF}(ar:x∉U):(xf U x).look (U++[x]) U.length=fY (U++[x]):=by
 unfold cv.look
 have e:(U++[x]).getD U.length ⟨Str.empty,[]⟩=x:=by rw[kC,Jh];rfl
 have ai:canon (root (xf U x).p) x=x:=canon_id _ x
 have ak:(xf U x).known.lookup x=none:=E7 ar
 rw[e]
 dsimp only
 rw[ai,ak]
 show{lV U with known:=U.zipIdx++[(x,U.length)],c4:=(fY (U++[x])).c4}=fY (U++[x])
 unfold fY lV
 rw[dO,LZ]
 rfl
theorem BF{p:Nat->Bool}{N:Nat}:((List.range N).filter p).length<=N:=aO (List.length_filter_le _ _) (cB fW)
section
variable{C:aa}{U:List bF}{bH bw:Nat->Nat}{ks:List Nat}{B:Nat}{pr:List (Nat×bG)}(H:b8 C U (fY U) bH bw ks B pr)(dn:U.length<=5){x:bF}(ar:x∉U)(aD:mJ x.op)(eQ:x.kids.length<=2)(hm:∀k∈x.kids,k<U.length)(mP:∀y∈U,∀k∈y.kids,k<U.length)(d2:B<=800)
include H dn ar aD eQ hm mP d2
theorem FF:∃ao gf f9 dG,vu [.obj 4,.str x.op,.tup (x.kids.map ah)] C=some (ah U.length,ao)/\b8 ao (U++[x]) (fY (U++[x])) gf f9 dG (B+1) pr:=by
 refine a6 (TS H dn ar aD eQ hm mP) λaB a2=>?_;refine a6 a2 λa8 a9=>?_;clear a2;refine a6 a9 λcg bC=>?_;clear a9;refine a6 bC λgt bY=>?_;clear bC;refine a6 bY λge cj=>?_;clear bY;refine a6 cj λfL cA=>?_;clear cj;refine bU cA λaS cQ=>?_;clear cA;refine E1 cQ λvk bf jn nt cY hF iD=>?_;clear cQ
 have L:=H.lay
 have pC:(U++[x]).length=U.length+1:=dO
 have H0:Down (lV U).p:=El _
 have cZ:(lV U).p.length=(U++[x]).length:=fW.trans pC.symm
 have cC:(U++[x]).length<=6:=aO (cB pC) (fi dn)
 have C8:∀k∈x.kids,k<(U++[x]).length:=λk aq=>pC▸Nat.lt_succ_of_lt (hm k aq)
 refine iv (Ez (f:=ah) x.kids) λbk gs hJ s7 qr=>?_
 have kQ:∀c,c∈bk↔c∈x.kids:=λc=>tW.symm.trans ((qr c).trans tW)
 have IE:(x.kids.map ah).length=x.kids.length:=bR _
 have fR:bk.length<=2:=aO hJ (aO (xT _) (IE▸eQ))
 have qK:=lD (az:=cg) (m:=[some (.obj 4),some (.str x.op),some (.tup (x.kids.map ah)),some (ah U.length),none,none,none]) (dk:=c9 (aj 2)) (cw:=[none,none,some 0]) (i:=1) (e:=GK) (gx:=id) (sa (bP rfl)) (λd hd=>aG (b5.mp hd) λk aq db=>db▸(w5 U.length.succ k▸BG hF cC H0 cZ (m:=[none,some (ah k),some (.obj 4)]) (a:=aj 2) (b:=aj 1) (n:=k) (bP rfl) (bP rfl) (C8 k aq):)) (IE▸dC (aO eQ ag))
 rw[List.map_id]at qK
 refine fh (Jg qK (K8 (e6 eQ ag)) cg .refl) λl eh iC hQ b3 Rt=>?_
 rw[gs]at b3
 have jO:=hF.FE hQ Rt b3
 refine dv (MV (n:=U.length) (o:=.str x.op) (nm:=.tup (x.kids.map ah)) bk (lV U) none eh jO (λc ax=>(hF.keys.2 c).mpr ⟨C8 c ((kQ c).mp ax),range_getD _ c⟩) (λc=>aO (ob (aO BF dn) fR) ag)) λiN hG lp k7=>?_
 have cH:({lV U with c4:=λd=>(lV U).c4 d++(bk.filter λc=>decide (c=d)).map λ_=>U.length}:cv)=xf U x:=bb (λa:Nat->List Nat=>({lV U with c4:=a}:cv)) (NE mP hm (zF s7) kQ)
 rw[cH]at k7
 have rq:=k7.OG
 have vU:canon (root (xf U x).p) x=x:=canon_id _ x
 refine rh (Jl rq ⟨cC,H0,cZ,λi _ _=>(by decide:1<=100),λc=>aO BF (aO cC ag),es _,fi (aO d2 ag)⟩ (Jh U x) ⟨oN (vF aD),eQ⟩ C8 (λm aR=>by rw[vU]at aR;cases (E7 ar).symm.trans aR) (aO (cB List.length_zipIdx) (aO dn ag))) λAp mg qZ zp qx uG=>?_
 rw[Ud ar]at uG
 exact⟨Ap,mg,qZ,zp,gN (c3:=.ret (ah U.length)) (m:=[some (.obj 4),some (.str x.op),some (.tup (x.kids.map ah)),some (ah U.length),hG,none,none]) rfl
  (eg (bh:=[some (.obj 4),some (.str x.op),some (.tup (x.kids.map ah)),some (ah U.length),none,none,none]) ((Jy L ag (fI (d:=.obj 6) (ih L) ag rfl) (eC (e:=aj 1) rfl (cp (e:=aj 2) rfl))).trans aS) rfl
   (h6 (fF (f:=aj 3) rfl ((zq jn ag (fI (d:=.obj 12) (ih jn) ag rfl) rfl).trans vk) ((tQ _ _ _).trans (by rw[fu (ji _)]))) rfl
    (g9 ((zq jn ag (fI (d:=.obj 12) (ih jn) ag rfl) rfl).trans bf)
     (eg (d:=.obj a8.length) (aB:=a8++[.list []]) rfl (zZ (fI (d:=.obj 19) (f:=aj 0) (ih (nt.pre (.app _))) ag rfl) (f:=aj 3) rfl cY)
      (jJ (E2 iC b3 lp) (g9 ((kr rq.lay ag rfl (cp (e:=aj 3) rfl)).trans qx) (iI (e:=aj 3) rfl))))))),uG⟩
end
theorem b8.ud{C:aa}{U h bH bw ks B}{p1 zL:List (Nat×bG)}{l:Nat}{o:bG}(H:b8 C U h bH bw ks B (p1++(l,o)::zL))(d8:bG):b8 (C.set l d8) U h bH bw ks B (p1++(l,d8)::zL):=by
 refine qc (H.fD (l,o) (iJ _ (.head _))) λgs hJ s7 qr=>?_
 have q:∀{k o},k≠l->C[k]?=some o->(C.set l d8)[k]?=some o:=λaw e=>jE e (Ne.symm aw)
 have n:∀{k},3<=k->k<21->k≠l:=λa b e=>hJ.elim (λh=>rj a (e▸h)) λh=>rj h (e▸b)
 have k:∀{k o},3<=k->k<21->C[k]?=some o->(C.set l d8)[k]?=some o:=λa b=>q (n a b)
 have aR:∀o:bG,(p1++(l,o)::zL).map (·.1)=p1.map (·.1)++l::zL.map (·.1):=λo=>fv
 have dn:=H.nU
 rw[aR]at dn
 refine fV (od.mp dn) λh0 iY sm=>?_
 have L:=H.lay
 exact{H with
  lay:=⟨k ag ag L.aV,k ag ag L.bL,k ag ag L.dx,k ag ag L.cC,k ag ag L.l1,k ag ag L.rV⟩,nodes:=k ag ag H.nodes,m0:=k ag ag H.m0,n7:=rg H.n7 λ_=>k ag ag,ew:=rg H.ew λ_=>k ag ag,
  above:=k ag ag H.above,dg:=k ag ag H.dg,merged:=H.merged.j7 (λ_=>k ag ag) (bD _),km:=H.km.j7 (λ_=>k ag ag) (bD _),lu:=H.lu.j7 (λ_=>k ag ag) (bD _),
  known:=k ag ag H.known,iG:=k ag ag H.iG,wait:=k ag ag H.wait,gE:=λi hi=>⟨(H.gE i hi).1,q (s7 i hi) (H.gE i hi).2⟩,f8:=λc ax=>⟨(H.f8 c ax).1,q (qr c ax) (H.f8 c ax).2⟩,
  fD:=λp aF=>(er.mp aF).elim (λaF=>⟨q (sm _ (b5.mpr ⟨p,aF,rfl⟩) _ (.head _)) (H.fD p (i6 _ aF)).1,(H.fD p (i6 _ aF)).2⟩) λaF=>(dS.mp aF).elim (λe=>e▸⟨gT gs,hJ,s7,qr⟩) λaF=>⟨q (λe=>(kH.mp iY).1 (b5.mpr ⟨p,aF,e⟩)) (H.fD p (iJ _ (.tail _ aF))).1,(H.fD p (iJ _ (.tail _ aF))).2⟩
  nU:=by rw[aR];exact dn}
def FY(a b c:bG):aa:=[a,b,c,.ns pH,.inst 429 3,.ns rD,.inst 181 5,.list [],.du [],.list [],.list [],.ns un,.inst 299 11,.list [],.list [],.list [],.list [],.list [],.du [],.gR [],.list []]
theorem Q5(a b c:bG):BL [] [a,b,c]=some (.obj 4,FY a b c):=by kernel_rfl
theorem Gl{src:Option (Nat×List D)}{as:D->aY (aK×aa)}{c:aY (Bool×aa)}{qp:aY (List D×aK×aa)}{m:aK}{C:aa}(av:jw src C=true):lY src as c qp [] m C=some ([],m,C):=a3 av
theorem Bf{src:Option (Nat×List D)}{i:Nat}{e:aY (D×aa)}{m:aK}{C aB a8:aa}{d v:D}{J vs:List D}{bh:aK}(av:jw src C=true)(a0:e (m.set i (some d)) C=some (v,aB))(au:lY src (b9 i) ef (dL e) J (m.set i (some d)) aB=some (vs,bh,a8)):lY src (b9 i) ef (dL e) (d::J) m C=some (v::vs,bh,a8):=(a3 av).trans (bp rfl (bp rfl ((a3 rfl).trans (bp (ck a0) (ck au)))))
theorem Gm{dk:aY ((List D×Option (Nat×List D))×aa)}{cw:List (Option Nat)}{as:D->aY (aK×aa)}{c:aY (Bool×aa)}{qp:aY (List D×aK×aa)}{m bh:aK}{C aB a8:aa}{J vs:List D}{src}(h:dk m C=some ((J,src),aB))(jZ:lY src as c qp J (kL cw m) aB=some (vs,bh,a8))(aw:vs.length<=lim):ea dk cw as c qp m C=some (.obj a8.length,a8++[.list vs]):=by
 have e:tb dk cw as c qp m C=some (vs,a8):=by
  unfold tb
  rw[h,rk]
  exact bp jZ (a3 aw)
 exact ck e
theorem N3{c1:Addr}{ns:List Int}{src:o6}{C:aa}{a:Option D}(av:jw src C=true)(J:List Int):∀b,∃mZ,lY src (b9 1) ef (dL (Bw c1 ns)) (J.map D.int) [a,b] C=some ((J.map λv=>v.fmod 5040).map D.int,mZ,C):=by
 induction J with
 |nil=>exactλb=>⟨_,Gl av⟩
 |cons d J aE=>exactλb=>a6 (aE (some (.int d))) λmZ e=>⟨mZ,Bf av rfl e⟩
theorem N4(c1:Addr)(ns:List Int)(h:ns.length<=63)(m:aK)(aR:m.at 0=some (.adr c1)):∃(l:bG) (bk:List Int),bk.length<=60/\
  u9 "cells" "spot" (ea (c9 (EU c1 ns 60 (aj 0))) [none,none] (b9 1) ef (dL (Bw c1 ns))) (a7 (.int 0)) m []=some (.obj 2,[l,.list (bk.map .int),ec 0]):=
 have aw:((ns.take 60).map λv=>v.fmod 5040).length<=60:=aO (cB (bR _)) (List.length_take_le ..)
 a6 (N3 (c1:=c1) (ns:=ns) (src:=some (0,(ns.take 60).map .int)) (C:=[.list ((ns.take 60).map .int)]) (mK rfl) (ns.take 60) none) λmZ e=>
 ⟨.list ((ns.take 60).map .int),(ns.take 60).map λv=>v.fmod 5040,aw,bp (Gm (wz (bp (ck aR) (a3 rfl)) rfl) e (aO (cB (bR _)) (aO aw ag))) rfl⟩
theorem Sa(a:bG)(bk:List Int)(x y z:bG):b8 (FY a (.list (bk.map .int)) (ec 0)++[x,y,z]) [] (fY []) (λ_=>0) (λ_=>0) [] 0 [(2,ec 0),(22,y),(23,z),(21,x),(1,.list (bk.map .int))] where
 lay:=⟨rfl,rfl,rfl,rfl,rfl,rfl⟩
 nodes:=rfl
 m0:=rfl
 n7:=⟨[],rfl,rfl⟩
 ew:=⟨[],rfl,rfl⟩
 above:=rfl
 dg:=rfl
 merged:=⟨[],rfl,by decide⟩
 km:=⟨[],rfl,by decide⟩
 lu:=⟨[],rfl,by decide⟩
 known:=rfl
 iG:=rfl
 wait:=rfl
 gE i h:=absurd h (kG _)
 f8 c h:=absurd h f7
 tP i j h:=absurd h (kG _)
 sV c h:=absurd h f7
 apart i h:=absurd h (kG _)
 keys:=⟨.nil,λc=>⟨λh=>absurd h f7,λh=>absurd h.1 (kG _)⟩⟩
 fD q aL:=by
  have f:(∀i,i<([]:List bF).length->(0:Nat)≠q.1)/\∀c∈([]:List Nat),(0:Nat)≠q.1:=⟨λi h=>absurd h (kG _),λc h=>absurd h f7⟩
  refine((dS.mp aL).elim (λe=>?_) λaL=>(dS.mp aL).elim (λe=>?_) λaL=>(dS.mp aL).elim (λe=>?_) λaL=>(dS.mp aL).elim (λe=>?_) λaL=>?_)
  ·subst e;exact⟨rfl,.inl (by decide:2<3),f⟩
  ·subst e;exact⟨rfl,.inr (by decide:21<=22),f⟩
  ·subst e;exact⟨rfl,.inr (by decide:21<=23),f⟩
  ·subst e;exact⟨rfl,.inr (by decide:21<=21),f⟩
  ·cases cK.mp aL;exact⟨rfl,.inl (by decide:1<3),f⟩
 nU:=by refine(?_:([2,22,23,21,1]:List Nat).Nodup);decide
theorem Kv{C:aa}{U:List bF}{bH bw:Nat->Nat}{ks:List Nat}{B:Nat}{pr:List (Nat×bG)}(H:b8 C U (fY U) bH bw ks B pr)(dn:U.length<=5){o:Str}(ar:(⟨o,[]⟩:bF)∉U)(aD:mJ o)(mP:∀y∈U,∀k∈y.kids,k<U.length)(d2:B<=800):
  ∃ao gf f9 dG,ym 1 [.obj 4,.tup [.str o]] C=some (ah U.length,ao)/\b8 ao (U++[⟨o,[]⟩]) (fY (U++[⟨o,[]⟩])) gf f9 dG (B+1) pr:=
 rh (FF (H.pre (.app [.list []])) dn ar aD (es _) (λk aq=>absurd aq f7) mP d2) λao gt ge fL e uF=>
 ⟨ao,gt,ge,fL,gN (c3:=.ret (ah U.length)) (m:=[some (.obj 4),some (.tup [.str o]),none]) rfl (iI ((kr (H.lay) ag rfl (eC (d:=.str o) (aB:=C) (e:=bX (aj 1) (a7 (.int 0))) rfl (cp (x_call (cp (a:=.obj C.length) (aB:=C++[bG.list []]) rfl) (d:=.tup []) (aB:=C++[bG.list []]) (Ab (xs:=[]) (fx (.list [])) (by decide:0<=lim)))))).trans e)),uF⟩
theorem Vj{c1:Addr}{ns:List Int}{C:aa}{bH bw:Nat->Nat}{ks:List Nat}{pr:List (Nat×bG)}(H:b8 C [] (fY []) bH bw ks 0 pr)(aF:(21,bG.list [.tup [.str "a"],.tup [.str "b"]])∈pr) {m:aK} (aV:m.at 3=some (.obj 21)) (ak:m.at 2=some (.obj 4)):
  ∃l ao gf f9 dG,ea (c9 (aj 3)) [none,none,some 2] (b9 1) ef (dL (GY c1 ns)) m C=some (.obj l,ao)/\b8 ao [⟨"a",[]⟩,⟨"b",[]⟩] (fY [⟨"a",[]⟩,⟨"b",[]⟩]) gf f9 dG 2 ((l,.list [ah 0,ah 1])::pr):=
 rh (Kv H (es _) (o:="a") f7 (.inl rfl) (λ_ h=>absurd h f7) (es _)) λaB gt ge fL aS H1=>
 rh (Kv H1 ag (o:="b") ag (.inr (.inl rfl)) (λy bc k aq=>by rw[cK.mp bc]at aq;exact absurd aq f7) ag) λa8 jB md me bf ht=>
 have hN:kL [none,none,some 2] m=[none,none,some (.obj 4)]:=by show [none,none,m.at 2]=_;rw[ak]
 ⟨a8.length,a8++[.list [ah 0,ah 1]],jB,md,me,Gm (wz (ck aV) (H.fD _ aF).1) (by
  rw[hN]
  exact Bf (mK (H.fD _ aF).1) ((kr H.lay ag rfl (cp (e:=aj 1) rfl)).trans aS) (Bf (mK (H1.fD _ aF).1) ((kr H1.lay ag rfl (cp (e:=aj 1) rfl)).trans bf) (Gl (mK (ht.fD _ aF).1)))) ag,ht.FE (.app _) (bD _) (fx _)⟩
structure i9(m:aK)(u:Nat):Prop where
 len:m.length=26
 f:m.at 1=some (.obj 2)
 h:m.at 2=some (.obj 4)
 n:m.at 4=some (.obj 22)
 t:m.at 5=some (.obj 23)
 u:m.at 6=some (.obj u)
theorem i9.set{m:aK}{u:Nat}(F:i9 m u){i:Nat}(d:Option D)(hi:7<=i)(aw:i<26):i9 (m.set i d) u/\aK.at (m.set i d) i=d:=by
 have e:=λj=>aK.rx (m:=m) (i:=i) (d:=d) (Nat.lt_of_lt_of_eq aw F.len.symm) j
 have k:∀j,j<7->aK.at (m.set i d) j=m.at j:=λj h=>(e j).trans (bq (gy (dE h hi)))
 exact⟨⟨mv.trans F.len,(k 1 ag).trans F.f,(k 2 ag).trans F.h,(k 4 ag).trans F.n,(k 5 ag).trans F.t,(k 6 ag).trans F.u⟩,(e i).trans (a3 rfl)⟩
theorem i9.put{m:aK}{u:Nat}(F:i9 m u)(i:Nat)(d:D)(hi:7<=i)(aw:i<26):∃bh:aK,m.set i (some d)=bh/\i9 bh u/\bh.at i=some d/\∀j,j≠i->bh.at j=m.at j:=
 ⟨_,rfl,(F.set _ hi aw).1,(F.set _ hi aw).2,λj h=>(aK.rx (Nat.lt_of_lt_of_eq aw F.len.symm) j).trans (bq h)⟩
def gj(u k:Nat)(U:List bF)(N:Nat)(told:List (Nat×Nat))(x:bG)(bk:List Int):List (Nat×bG):=
 [(u,.list ((List.range N).map ah)),(2,ec k),(22,.list (U.map b1)),(23,.list (told.map h2)),(21,x),(1,.list (bk.map .int))]
section
variable{C:aa}{U nl:List bF}{h:cv}{bH bw:Nat->Nat}{ks:List Nat}{B u k N:Nat}{told:List (Nat×Nat)}{x:bG}{bk:List Int}{m:aK}
theorem BD(ax:bk.length<=60)(H:b8 C U h bH bw ks B (gj u k nl N told x bk)):rp C k:=
 ⟨(H.fD (2,ec k) (.tail _ (.head _))).1,bk,(H.fD (1,.list (bk.map .int)) (.tail _ (.tail _ (.tail _ (.tail _ (.tail _ (.head _))))))).1,ax⟩
theorem sp(H:b8 C U h bH bw ks B (gj u k nl N told x bk)):C[22]?=some (.list (nl.map b1)):=(H.fD (22,.list (nl.map b1)) (.tail _ (.tail _ (.head _)))).1
theorem z9(H:b8 C U h bH bw ks B (gj u k nl N told x bk)):C[23]?=some (.list (told.map h2)):=(H.fD (23,.list (told.map h2)) (.tail _ (.tail _ (.tail _ (.head _))))).1
theorem Ad(H:b8 C U h bH bw ks B (gj u k nl N told x bk)):C[u]?=some (.list ((List.range N).map ah)):=(H.fD (u,.list ((List.range N).map ah)) (.head _)).1
theorem b8.zY(H:b8 C U h bH bw ks B (gj u k nl N told x bk))(bZ:Nat):b8 (C.set 2 (ec bZ)) U h bH bw ks B (gj u bZ nl N told x bk):=b8.ud (p1:=[(u,.list ((List.range N).map ah))]) H (ec bZ)
theorem b8.Xj(H:b8 C U h bH bw ks B (gj u k nl N told x bk))(JR:List bF):b8 (C.set 22 (.list (JR.map b1))) U h bH bw ks B (gj u k JR N told x bk):=b8.ud (p1:=[(u,.list ((List.range N).map ah)),(2,ec k)]) H _
theorem b8.Xk(H:b8 C U h bH bw ks B (gj u k nl N told x bk))(iF:List (Nat×Nat)):b8 (C.set 23 (.list (iF.map h2))) U h bH bw ks B (gj u k nl N iF x bk):=b8.ud (p1:=[(u,.list ((List.range N).map ah)),(2,ec k),(22,.list (nl.map b1))]) H _
theorem b8.Xl(H:b8 C U h bH bw ks B (gj u k nl N told x bk))(Fs:Nat):b8 (C.set u (.list ((List.range Fs).map ah))) U h bH bw ks B (gj u k nl Fs told x bk):=b8.ud (p1:=[]) H _
variable(ax:bk.length<=60)(F:i9 m u)(H:b8 C U h bH bw ks B (gj u k nl N told x bk))(aq:k<=300)
include ax F H aq
theorem draw{w:Nat}(hw:0<w){e:aY (D×aa)}(a0:e m C=some (ah w,C)):∃v ao,v<w/\bW (ay (aj 1) (ay e aJ)) hu m C=some (ah v,ao)/\b8 ao U h bH bw ks B (gj u (k+1) nl N told x bk):=
 aG (wR (BD ax H) aq hw) λv ai ak=>⟨v,_,ai,x_call (eC (e:=aj 1) (d:=.obj 2) (aB:=C) (ck F.f) (cp a0)) ak,H.zY _⟩
theorem x2(bV:0<nl.length)(cC:nl.length<=6):∃v ao,v<nl.length/\bW (ay (aj 1) (ay (bW (ay (aj 4) aJ) ek) aJ)) hu m C=some (ah v,ao)/\b8 ao U h bH bw ks B (gj u (k+1) nl N told x bk):=
 draw ax F H aq bV (x_call (cp (a:=.obj 22) (ck F.n)) (tN (sp H) (bR _) (dC (aO cC ag))))
end
theorem Hy{o:Str}(h:mJ o):PyData.strOk o=true:=oN (vF h)
theorem C6{x:bF}(ar:iO x):D.depth (.tup (eK x))<=20/\D.da (eK x)=true:=by
 have h:=zC ar
 unfold keyOk at h
 have h:=ha.mp h
 exact⟨aO (hU h.1) ag,h.2⟩
theorem Vf{U:List bF}:(∀x∈U,iO x)->D.da (U.map b1)=true/\D.ew (U.map b1)<=20:=by
 induction U with
 |nil=>exactλ_=>⟨rfl,es _⟩
 |cons x U aE=>
  intro h
  refine bU (aE λy bc=>h y (.tail _ bc)) λfS fK=>⟨?_,Nat.max_le.mpr ⟨(C6 (h x (.head _))).1,fK⟩⟩
  refine(?_:(D.da (eK x)&&D.da (U.map b1))=true)
  rw[(C6 (h x (.head _))).2,fS];rfl
theorem Vg{C:aa}{l:Nat}{U:List bF}{x:bF}(aw:C[l]?=some (.list (U.map b1)))(aD:∀x∈U,iO x)(ar:iO x):he .NotIn (b1 x) (.obj l) C=some (!decide (x∈U)):=by
 refine bU (Vf aD) λai ak=>(Vh aw ai (C6 ar).2 ak).trans (bb (λb=>some (!b)) ?_)
 rw[Bool.eq_iff_iff,List.any_eq_true,iL]
 exact⟨λq=>aG q λy bc e=>aG (b5.mp bc) λz hz a2=>DB (a2.trans (hU e))▸hz,λaR=>⟨b1 x,b5.mpr ⟨x,aR,rfl⟩,dT rfl⟩⟩
structure lS(U:List bF):Prop where
 nodup:U.Nodup
 wF:∀y∈U,∀k∈y.kids,k<U.length
 op:∀y∈U,mJ y.op
 two:∀y∈U,y.kids.length<=2
 pos:0<U.length
theorem lS.ok{U:List bF}(G:lS U):∀x∈U,iO x:=λx ar=>⟨Hy (G.op x ar),G.two x ar⟩
theorem lS.add{U:List bF}(G:lS U){x:bF}(ar:x∉U)(aD:mJ x.op)(ak:x.kids.length<=2)(aq:∀k∈x.kids,k<U.length):lS (U++[x]) where
 nodup:=od.mpr ⟨G.nodup,List.pairwise_singleton ..,λa aC b ab e=>ar ((cK.mp ab)▸e▸aC)⟩
 wF y bc k dt:=dE ((er.mp bc).elim (λbc=>G.wF y bc k dt) λbc=>aq k ((cK.mp bc)▸dt)) (aO (hD ..) (cB dO.symm))
 op y bc:=(er.mp bc).elim (G.op y) λbc=>(cK.mp bc)▸aD
 two y bc:=(er.mp bc).elim (G.two y) λbc=>(cK.mp bc)▸ak
 pos:=dE G.pos (aO (hD ..) (cB dO.symm))
theorem Em{m:aK}{i:Nat}{d:D}{C:aa}(h:m.at i=some d):aj i m C=some (d,C):=ck h
section
variable{c1:Addr}{ns:List Int}{C:aa}{U:List bF}{bH bw:Nat->Nat}{ks:List Nat}{B u k:Nat}{told:List (Nat×Nat)}{x:bG}{bk:List Int}{m:aK}(ax:bk.length<=60)(F:i9 m u)(H:b8 C U (fY U) bH bw ks B (gj u k U U.length told x bk))
include ax F H
theorem YA{v1 v2:Nat}(eU:m.at 8=some (ah v1))(eY:m.at 9=some (ah v2))(kB:v1<U.length)(kc:v2<U.length)(aq:k<=300):∃(y:bF) (ao:_),mJ y.op/\y.kids.length<=2/\(∀k∈y.kids,k<U.length)/\j5 (cP .Eq (bW (ay (aj 1) (ay (a7 (.int 2)) aJ)) hu) (a7 (.int 0))) (dd (ay (a7 (.str "f")) (ay (aj 8) aJ))) (dd (ay (a7 (.str "g")) (ay (aj 8) (ay (aj 9) aJ)))) m C=some (b1 y,ao)/\b8 ao U (fY U) bH bw ks B (gj u (k+1) U U.length told x bk):=by
 refine b2 (draw ax F H aq (w:=2) ag (e:=λ_ C=>some (.int 2,C)) rfl) λv ao w e H=>?_
 have q:∀{b},decide (v=0)=b->cP .Eq (bW (ay (aj 1) (ay (a7 (.int 2)) aJ)) hu) (a7 (.int 0)) m C=some (b,ao):=λh=>fF e rfl (h▸lq v 0 ao)
 by_cases bV:v=0
 ·exact⟨⟨"f",[v1]⟩,ao,.inr (.inr (.inl rfl)),(by decide:1<=2),λk h=>cK.mp h▸kB,Am (q (dT bV)) (hC (eC rfl (cp (ck eU)))),H⟩
 ·exact⟨⟨"g",[v1,v2]⟩,ao,.inr (.inr (.inr rfl)),bD 2,λk h=>(dS.mp h).elim (λh=>h▸kB) λh=>cK.mp h▸kc,E5 (q (fu bV)) (hC (eC rfl (eC (ck eU) (cp (ck eY))))),H⟩
theorem Yz{y:bF}(sU:m.at 10=some (b1 y))(xq:mJ y.op)(uy:y.kids.length<=2)(An:∀k∈y.kids,k<U.length)(G:lS U)(dn:U.length<=5)(d2:B<=800):∃ao io gf f9 dG,bl (f6 (cP .NotIn (aj 10) (aj 4)) (bl (fo (eV "list" (aj 4) (ay (aj 10) aJ) bAppend)) (bl (fo (eV "list" (aj 6) (ay (dy 429 "add" (aj 2) (ay (bX (aj 10) (a7 (.int 0))) (ay (iR (aj 10) (a7 (.int 1))) aJ)) vu) aJ) bAppend)) cc)) cc) cc m C=some (.next,m,ao)/\b8 ao io (fY io) gf f9 dG (B+1) (gj u k io io.length told x bk)/\lS io/\io.length<=U.length+1:=by
 have q:∀{b},decide (y∈U)=b->cP .NotIn (aj 10) (aj 4) m C=some (!b,C):=λh=>fF (ck sU) (ck F.n) (h▸Vg (sp H) G.ok ⟨Hy xq,uy⟩)
 have aw:∀{n},n<=5->n+1<=lim:=λh=>dC (aO (fi h) ag)
 by_cases aR:y∈U
 ·exact⟨_,U,bH,bw,ks,h6 (q (dT aR)) rfl rfl,H.up (k1 _),G,k1 _⟩
 ·have jO:=H.Xj (U++[y])
  refine rh (FF jO dn aR xq uy An G.wF d2) λiN gt ge fL iC k7=>?_
  have cJ:(List.range U.length).map ah++[ah U.length]=(List.range (U.length+1)).map ah:=by rw[List.range_succ,fv];rfl
  have aH:U.map b1++[b1 y]=(U++[y]).map b1:=(fv (l₂:=[y])).symm
  refine⟨_,U++[y],gt,ge,fL,ux (q (fu aR)) (g9 (d:=.none) (gU (T:="list") (ck F.n) (h5 (sp H)) (cp (ck sU)) (lh (sp H) (aO (cB (bb (· +1) (bR _))) (aw dn)))) ?_) rfl,(by rw[dO];exact k7.Xl (U.length+1)),G.add aR xq uy An,cB dO⟩
  rw[aH,←cJ]
  exact g9 (d:=.none) (gU (T:="list") (ck F.u) (h5 (Ad jO)) (cp ((kr jO.lay ag (ck F.h) (eC (d:=.str y.op) (aB:=_) (kZ (ck sU) rfl rfl) (cp (E4 (ck sU) rfl (nD (aO (fi (aO (cB (bR _)) uy)) (by decide:3<=lim))))))).trans iC)) (lh (Ad k7) (aO (cB (bb (· +1) ((bR _).trans fW))) (aw dn)))) rfl
theorem Yy(G:lS U)(dn:U.length<=5)(aq:k+3<=300)(d2:B<=800):
  ∃bh ao io gf f9 dG,AT c1 ns m C=some (.next,bh,ao)/\i9 bh u/\b8 ao io (fY io) gf f9 dG (B+1) (gj u (k+3) io io.length told x bk)/\lS io/\io.length<=U.length+1:=by
 have cC:=Nat.le_succ_of_le dn
 refine b2 (x2 ax F H (qf aq) G.pos cC) λv1 aB kB aS H1=>?_
 refine b2 (x2 ax F H1 (aO (gH (by decide:1<=3) k) aq) G.pos cC) λv2 a8 kc bf ht=>?_
 refine iv (F.put 8 (ah v1) ag ag) λaae W3 Av eU _=>?_
 refine iv (Av.put 9 (ah v2) ag ag) λUq W4 Fc eY Vn=>?_
 refine jh (YA ax Fc ht ((Vn 8 ag).trans eU) eY kB kc (aO (gH (by decide:2<=3) k) aq)) λy cg xq uy An O6 hF=>?_
 refine iv (Fc.put 10 (b1 y) ag ag) λUp WZ Fb sU _=>?_
 refine LR (Yz ax Fb hF sU xq uy An G dn d2) λeh io gt ge fL hh jO MA U4=>?_
 have db:rb [8,9] [ah v1,ah v2] m=Uq:=by rw[←W4,←W3];rfl
 exact⟨Up,eh,io,gt,ge,fL,eg (hC (eC aS (cp bf))) ((K7 rfl).trans (bb (λm=>some (m,a8)) db)) (eg O6 (bb (λm=>some (m,cg)) WZ) hh),Fb,jO,MA,U4⟩
end
theorem TU{C:aa}{l:Nat}{xs:List D}{d:D}(h:C[l]?=some (.list (xs++[d]))):iW (.obj l) (.int (-1)) C=some d:=
 have e:(xs++[d]).length=xs.length+1:=dO
 have a:-((xs++[d]).length:Int)<=-1:=Int.neg_le_neg (Int.ofNat_le.mpr (e▸fi (es _)))
 have b:((-1:Int)+((xs++[d]).length:Int)).toNat=xs.length:=by rw[e,Nat.add_comm,Int.natCast_add];exact bb Int.toNat (Int.neg_add_cancel_left 1 xs.length)
 have c:wH (xs++[d]) (-1)=some d:=(bq (by decide:¬(0:Int)<=-1)).trans ((a3 ⟨a,by decide⟩).trans (b▸List.getElem?_concat_length ..))
 IQ h c
theorem add_str{a b:Str}{C:aa}(h:a.length+b.length<=lim):pj .Add (.str a) (.str b) C=some (.str (a++b),C):=a3 h
theorem TT{j:Nat}(bn:j<4)(C:aa):∃s,xI [ah j] C=some (.str s,C)/\("m":Str).length+s.length<=lim:=
 have h:=(by decide+kernel:∀j:Nat,j<4->(j:Int).natAbs.log2<1920/\("m":Str).length+(Str.ofString (toString (j:Int))).length<=lim) j bn
 ⟨_,a3 h.1,h.2⟩
section
variable{c1:Addr}{ns:List Int}{u:Nat}{x:bG}{bk:List Int}(ax:bk.length<=60)
include ax
theorem Uh(J:List Nat):∀(C:aa) (U:List bF) (bH bw:Nat->Nat) (ks:List Nat) (B k:Nat) (told:List (Nat×Nat)) (m:aK),i9 m u->b8 C U (fY U) bH bw ks B (gj u k U U.length told x bk)->lS U->U.length+J.length<=6->k+3*J.length<=300->B+J.length<=800->
  ∃bh ao io gf f9 dG,ju none (b9 7) (AT c1 ns) (J.map ah) m C=some (.next,bh,ao)/\i9 bh u/\b8 ao io (fY io) gf f9 dG (B+J.length) (gj u (k+3*J.length) io io.length told x bk)/\lS io/\io.length<=U.length+J.length:=by
 induction J with
 |nil=>exactλC U bH bw ks B k told m F H G _ _ _=>⟨m,C,U,bH,bw,ks,qB rfl,F,H,G,bD _⟩
 |cons d J aE=>
  intro C U bH bw ks B k told m F H G ai ak aV
  have aS:B+(d::J).length=B+1+J.length:=lN B J.length 1
  have bf:k+3*(d::J).length=k+3+3*J.length:=lN k (3*J.length) 3
  have cY:U.length+(d::J).length=U.length+1+J.length:=lN U.length J.length 1
  have ai:=cY▸ai
  have ak:=bf▸ak
  have aV:=aS▸aV
  refine a6 (Yy (c1:=c1) (ns:=ns) ax (F.set (some (ah d)) (i:=7) ag ag).1 H G (Nat.le_of_succ_le_succ (qf ai)) (qf ak) (i7 (qf aV))) λfN a2=>sH a2 λaB Va gt ge fL aX Au H1 My h0=>?_
  have wN:=nb h0 J.length
  refine a6 (aE aB Va gt ge fL (B+1) (k+3) told fN Au H1 My (aO wN ai) ak aV) λim a9=>sH a9 λa8 Vb jB md me bg qj ht Mz iY=>?_
  exact⟨im,a8,Vb,jB,md,me,mI rfl rfl aX bg,qj,by rw[aS,bf];exact ht,Mz,aO iY (aO wN (cB cY.symm))⟩
variable{U:List bF}{N:Nat}{C:aa}{h:cv}{bH bw:Nat->Nat}{ks:List Nat}{B k j:Nat}{told done:List (Nat×Nat)}{m:aK}(F:i9 m u)(H:b8 C U h bH bw ks B (gj u k U N told x bk))(W:iz U told done h)
include F H W
theorem Yx(aq:k<=300)(d2:B<=900):∃ao af gf f9 dG hK,bl (f6 (cP .Eq (bW (ay (aj 1) (ay (a7 (.int 2)) aJ)) hu) (a7 (.int 0))) (bl (fo (dy 429 "settle" (aj 2) aJ tn)) cc) cc) cc m C=some (.next,m,ao)/\b8 ao U af gf f9 dG B (gj u (k+1) U N told x bk)/\iz U told hK af/\∀q∈done,q∈hK:=by
 refine b2 (draw ax F H aq (w:=2) ag (e:=λ_ C=>some (.int 2,C)) rfl) λv aB w aS H1=>?_
 have q:∀{b},decide (v=0)=b->cP .Eq (bW (ay (aj 1) (ay (a7 (.int 2)) aJ)) hu) (a7 (.int 0)) m C=some (b,aB):=λh=>fF aS rfl (h▸lq v 0 aB)
 by_cases bV:v=0
 ·exact a6 (K9 d2 H1 W) λjM bC=>sH bC λSz jB md me OC lp rq MM Z1 Q0=>⟨jM,Sz,jB,md,me,OC,ux (q (dT bV)) (g9 ((kr H1.lay ag (ck F.h) rfl).trans lp) rfl) rfl,rq,MM,Q0⟩
 ·exact⟨_,_,_,_,_,_,h6 (q (fu bV)) rfl rfl,H1,W,λ_ h=>h⟩
theorem Yw(BY:m.at 7=some (ah j))(bn:j<4)(hd:∀q∈told,q∈done)(bK:∀q∈told,q.1<U.length/\q.2<U.length)(bV:0<U.length)(aq:k+3<=300)(d2:B<=800)(Si:told.length<=100):
  ∃ao af gf f9 dG iF hK,AR c1 ns m C=some (.next,m,ao)/\b8 ao U af gf f9 dG (B+1) (gj u (k+3) U N iF x bk)/\iz U iF hK af/\(∀q∈iF,q∈hK)/\(∀q∈iF,q.1<U.length/\q.2<U.length)/\iF.length=told.length+1:=by
 refine b2 (x2 ax F H (qf aq) bV W.six) λv1 aB kB aS H1=>?_
 refine b2 (x2 ax F H1 (aO (gH (by decide:1<=3) k) aq) bV W.six) λv2 a8 kc bf ht=>?_
 refine aG (⟨_,rfl,ht.Xk (told++[(v1,v2)])⟩:∃cg,a8.set 23 (.list ((told++[(v1,v2)]).map h2))=cg/\b8 cg U h bH bw ks B (gj u (k+2) U N (told++[(v1,v2)]) x bk)) λcg s3 hF=>?_
 refine aG (TT bn cg) λs al aZ=>?_
 refine qd (UH (rs:=.tup [.str "told",.str ("m"++s)]) (aO d2 ag) hF W kB kc) λeh gt ge fL r hh jO MK=>?_
 refine a6 (Yx ax F jO MK (aO (gH (by decide:2<=3) k) aq) (aO (fi d2) ag)) λiN b3=>LR b3 λCR jB md me OB iC k7 ML QZ=>?_
 have aH:told.map h2++[h2 (v1,v2)]=(told++[(v1,v2)]).map h2:=(fv (l₂:=[(v1,v2)])).symm
 have Ii:=kZ (m:=m) (f:=aj 5) (g:=zy (a7 (.int 1))) (ck F.t) rfl (TU (xs:=told.map h2) (d:=h2 (v1,v2)) (by rw[aH];exact z9 hF))
 have hi:∀{q},q∈told++[(v1,v2)]->q∈told\/q=(v1,v2):=λaL=>(er.mp aL).imp id cK.mp
 have ap:bAppend [.obj 23,h2 (v1,v2)] a8=some (.none,cg):=(lh (z9 ht) (aO (fi (aO (cB (bR _)) Si)) ag)).trans (by rw[aH];exact bb (λs=>some (D.none,s)) s3)
 exact⟨iN,CR,jB,md,me,_,OB,g9 (d:=.none) (gU (T:="list") (ck F.t) (h5 (z9 H)) (cp (hC (eC aS (cp bf)))) ap) (g9 ((kr hF.lay ag (ck F.h) (eC (d:=ah v1) (kZ Ii rfl rfl) (eC (d:=ah v2) (kZ Ii rfl rfl) (cp (hC (eC rfl (cp (hT rfl (x_call (cp (ck BY)) al) (add_str aZ))))))))).trans hh) iC),k7,ML,λq aL=>QZ q ((hi aL).elim (λh=>.tail _ (hd q h)) λh=>h▸.head _),λq aL=>(hi aL).elim (bK q) λh=>h▸⟨kB,kc⟩,dO⟩
end
theorem JQ{f g:aY (D×aa)}{m:aK}{C aB a8:aa}{a b:Nat}{xs:List D}(ai:f m C=some (.obj a,aB))(ak:g m aB=some (.obj b,a8))(a2:a8[a]?=some (.list xs))(a9:a8[b]?=some (.list xs))(e5:D.da xs=true)(jA:D.ew xs<=20):cP .NotEq f g m C=some (false,a8):=by
 exact fF ai ak ((bb (Option.map (!·)) (x7 a2 a9 e5 e5 jA)).trans (bb (λb=>some (!b)) (dT rfl)))
section
variable{c1:Addr}{ns:List Int}{u:Nat}{x:bG}{bk:List Int}(ax:bk.length<=60){U:List bF}{N:Nat}
include ax
theorem Ug(bV:0<U.length)(J:List Nat):∀(C:aa) (h:cv) (bH bw:Nat->Nat) (ks:List Nat) (B k:Nat) (told done:List (Nat×Nat)) (m:aK),i9 m u->b8 C U h bH bw ks B (gj u k U N told x bk)->iz U told done h->(∀q∈told,q∈done)->(∀q∈told,q.1<U.length/\q.2<U.length)->
  (∀j∈J,j<4)->k+3*J.length<=300->B+J.length<=800->told.length+J.length<=100->
  ∃bh ao af gf f9 dG iF hK,ju none (b9 7) (AR c1 ns) (J.map ah) m C=some (.next,bh,ao)/\i9 bh u/\b8 ao U af gf f9 dG (B+J.length) (gj u (k+3*J.length) U N iF x bk)/\iz U iF hK af/\(∀q∈iF,q∈hK)/\(∀q∈iF,q.1<U.length/\q.2<U.length)/\iF.length=told.length+J.length:=by
 induction J with
 |nil=>exactλC h bH bw ks B k told done m F H W hd bK _ _ _ _=>⟨m,C,h,bH,bw,ks,told,done,qB rfl,F,H,W,hd,bK,rfl⟩
 |cons d J aE=>
  intro C h bH bw ks B k told done m F H W hd bK bn ak aV bL
  have aS:B+(d::J).length=B+1+J.length:=lN B J.length 1
  have bf:k+3*(d::J).length=k+3+3*J.length:=lN k (3*J.length) 3
  have cY:told.length+(d::J).length=told.length+1+J.length:=lN told.length J.length 1
  have ak:=bf▸ak
  have aV:=aS▸aV
  refine bU (F.set (some (ah d)) (i:=7) ag ag) λsM gr=>?_
  refine a6 (Yw (c1:=c1) (ns:=ns) ax sM H W gr (bn d (.head _)) hd bK bV (qf ak) (i7 (qf aV)) (qf bL)) λaB bY=>a6 bY λbN b3=>Zk b3 λgt ge fL Ln vb aX H1 W1 iQ t1 h0=>?_
  have wN:Ln.length+J.length=told.length+(d::J).length:=(bb (· +J.length) h0).trans cY.symm
  refine a6 (aE aB bN gt ge fL (B+1) (k+3) Ln vb _ sM H1 W1 iQ t1 (λj pK=>bn j (.tail _ pK)) ak aV (wN▸bL)) λim cj=>a6 cj λa8 cA=>a6 cA λcE cQ=>LS cQ λjB md me Yr Oz bg qj ht MJ nz dj iY=>?_
  exact⟨im,a8,cE,jB,md,me,Yr,Oz,mI rfl rfl aX bg,qj,by rw[aS,bf];exact ht,MJ,nz,dj,iY.trans wN⟩
variable{C:aa}{h:cv}{bH bw:Nat->Nat}{ks:List Nat}{B k dX:Nat}{told done:List (Nat×Nat)}{m:aK}(O:Ok U told done h)(F:i9 m u)(l1:m.at 11=some (.obj dX))(H:b8 C U h bH bw ks B (gj u k U N told x bk))(cH:C[dX]?=some (.list (((List.range U.length).map (root h.p)).map ah)))
include O F l1 H cH
omit ax in
theorem Lp{s:br}{cg:aa}(p:Pre C cg)(s1:eo s)(s2:s.dep<4)(s3:s.size<=18):∃bh eh,b9 13 (co s) m cg=some (bh,cg)/\i9 bh u/\bh.at 11=some (.obj dX)/\FT c1 ns bh cg=some (.next,bh,eh)/\Pre cg eh:=
 iv (F.put 13 (co s) ag ag) λbh W0 fP MQ o=>
 have b:=(o 11 ag).trans l1
 aG (N0 O H (sp H) cH s1 s2 s3 fP.h MQ fP.n b cg p) λeh e dm=>⟨bh,eh,bb (λm=>some (m,cg)) W0,fP,b,h6 e rfl rfl,dm⟩
theorem Lq(aq:k+16<=300):
  ∃bh ao bZ,AP c1 ns m C=some (.next,bh,ao)/\i9 bh u/\bh.at 11=some (.obj dX)/\b8 ao U h bH bw ks B (gj u bZ U N told x bk)/\ao[dX]?=some (.list (((List.range U.length).map (root h.p)).map ah))/\bZ<=k+16:=by
 refine jh (VD 2 k C (BD ax H) aq) λt bZ t1 dj t3 Yi aS=>?_
 have e1:2≠dX:=λe=>by subst e;cases cH.symm.trans (BD ax H).feed
 have yG:(C.set 2 (ec bZ))[dX]?=some (.list (((List.range U.length).map (root h.p)).map ah)):=jE cH e1
 refine a6 (⟨_,rfl⟩:∃rl,C.set 2 (ec bZ)=rl) λrl IG=>?_
 have H1:=IG▸H.zY bZ
 rw[IG]at yG aS
 have fL:t.dep<4:=L1 dj
 have jB:t.size<=18:=gI (dE t3 ag)
 refine fV (YB t t1) λa2 a9 bC=>?_
 refine iv (F.put 12 (co t) ag ag) λqZ s2 qj bg ip=>?_
 refine aG (YF (az:=rl) 4 t t1 fL _ .refl) λa8 bf bx=>?_
 refine jh (Lp (c1:=c1) (ns:=ns) O qj ((ip 11 ag).trans l1) H1 yG bx t1 fL jB) λzp cg n6 L2 pb cY cx=>?_
 refine jh (Lp (c1:=c1) (ns:=ns) O L2 pb H1 yG (bx.trans cx) a2 (a9▸fL) (bC▸jB)) λDt eh v4 L3 s0 hh dm=>?_
 have p:=(bx.trans cx).trans dm
 exact⟨Dt,eh,bZ,eg (x_call (eC (ck F.f) (cp (a:=ah 2) (e:=λ_ C=>some (.int 2,C)) rfl)) aS) (bb (λm=>some (m,rl)) s2) (jJ (E3 (xs:=[co t,co (turn t)]) (hC (eC (ck bg) (cp (x_call (cp (ck bg)) bf)))) (mI rfl n6 cY (mI rfl v4 hh (qB rfl)))) rfl),L3,s0,H1.pre p,p _ _ yG,qf Yi⟩
end
theorem Ek{bM:aY (List D×aa)}{m:aK}{C aB:aa}{n:Nat}(h:bM m C=some ([ah n],aB))(aH:n<=lim):kx bM m C=some (((List.range n).map ah,none),aB):=by
 exact bp h ((KE (wt aH)).trans (by rw[zP]))
theorem list_range{f:aY (D×aa)}{m:aK}{C aB:aa}{n:Nat}(h:f m C=some (ah n,aB))(aH:n<=lim):si f m C=some (.obj aB.length,aB++[.list ((List.range n).map ah)]):=bp h ((a3 ⟨Int.natCast_nonneg n,Int.ofNat_le.mpr aH⟩).trans (by rw[zP]))
theorem Y5{U:List bF}(G:lS U)(cC:U.length<=6):iz U [] [] (fY U):=by
 have au:jd (fY U).p=U.length:=DC _
 have ak:2^U.length<=2^6:=Nat.pow_le_pow_right ag cC
 have aV:(fY U).known.length=U.length:=List.length_zipIdx
 refine⟨NF G.nodup G.wF,⟨λc=>?_,fW⟩,G.ok,cC,?_⟩
 ·rw[au]
  exact Nat.mul_le_mul_right _ (aO BF cC)
 ·unfold ku
  rw[au,aV]
  exact aO (ob cC (Nat.mul_le_mul cC (nb (Nat.mul_le_mul_left 6 ak) 1):U.length*(6*2^U.length+1)+0<=_)) ag
section
variable{c1:Addr}{ns:List Int}
theorem TV{C:aa}{U:List bF}{h:cv}{bH bw:Nat->Nat}{ks:List Nat}{B u k:Nat}{told done:List (Nat×Nat)}{x:bG}{bk:List Int}{m:aK}(ax:bk.length<=60)(F:i9 m u)(H:b8 C U h bH bw ks B (gj u k U U.length told x bk))(W:iz U told done h)(hd:∀q∈told,q∈done)(bK:∀q∈told,q.1<U.length/\q.2<U.length)(aV:told.length<=3)(aq:k+32<=300)(d2:B<=800):
  ∃bh ao,(bl (fo (dy 429 "settle" (aj 2) aJ tn)) (bl (cS (bW (ay (aj 4) (ay (aj 5) aJ)) yq) (b9 11)) (bl (f6 (jC (cP .NotEq (aj 6) (si (bW (ay (aj 4) aJ) ek))) (jC (cP .NotEq (ea (c9 (aj 6)) [none,none,some 2] (b9 1) ef (dL (Bt c1 ns))) (aj 11)) qA)) (bl (d9 (a7 (.bool false))) cc) cc) (bl (jX (kx (ay (a7 (.int 2)) aJ)) (b9 7) (AP c1 ns)) (bl (d9 (a7 (.bool true))) cc))))) m C=some (.ret (.bool true),bh,ao):=by
 have cC:=W.six
 refine a6 (K9 (aO d2 ag) H W) λaB a2=>sH a2 λbN gt ge fL vb aS H1 W1 hw pF=>?_
 have aM:=W1.inv.SV hw λq aL=>pF q (hd q aL)
 have O:Ok U told vb bN:=⟨W1.inv,W1.ok,W1.six,aM,aV,bK⟩
 refine b2 (N9 W1.ok W1.six W1.inv.mV bK aV (sp H1) (z9 H1) aM aB .refl) λdX a8 bf bx a9=>?_
 have ht:=H1.pre bx
 refine iv (F.put 11 (.obj dX) ag ag) λmg s1 uD FC _=>?_
 have cZ:U.length<=lim:=dC (aO cC ag)
 have au:=list_range (x_call (cp (Em uD.n)) (tN (sp ht) (bR _) cZ)) cZ
 have cx:Pre a8 (a8++[.list ((List.range U.length).map ah)]):=.app _
 have hF:=ht.pre cx
 have gs:=JQ (Em uD.u) au (Ad hF) (fx _) (sc _) (rH _▸es _)
 have hN:∀d,(kL [none,none,some 2] mg).set 1 (some d)=[none,some d,some (.obj 4)]:=λd=>by show [none,some d,mg.at 2]=_;rw[uD.h]
 have qK:=lD (az:=a8++[.list ((List.range U.length).map ah)]) (m:=mg) (dk:=c9 (aj 6)) (cw:=[none,none,some 2]) (i:=1) (e:=Bt c1 ns) (gx:=λd=>ah (root bN.p (gk d))) (tI (bP uD.u) (Ad hF)) (λd hd=>aG (b5.mp hd) λn aH bC=>by
  subst bC
  rw[hN]
  exact BG hF cC W1.inv.down W1.inv.len (bP rfl) (bP rfl) (ft.mp aH)) (aO (cB ((bR _).trans fW)) cZ)
 have RF:((List.range U.length).map ah).map (λd=>ah (root bN.p (gk d)))=((List.range U.length).map (root bN.p)).map ah:=by rw[fj,fj];rfl
 rw[RF]at qK
 refine fh (qK _ .refl) λlc eh hh dm bY _=>?_
 have jO:=hF.pre dm
 have q3:=dm _ _ (cx _ _ a9)
 have hJ:=JQ hh (Em FC) bY q3 (sc _) (rH _▸es _)
 refine iv (uD.put 7 (ah 0) ag ag) λqZ s2 sM _ Vl=>?_
 refine sG (Lq (c1:=c1) (ns:=ns) ax O sM ((Vl 11 ag).trans FC) jO q3 (aO (gH (by decide:16<=32) k) aq)) λJJ iN Z3 iC xv gB k7 b3 Ro=>?_
 refine iv (xv.put 7 (ah 1) ag ag) λaad W2 Av _ Vm=>?_
 refine sG (Lq (c1:=c1) (ns:=ns) ax O Av ((Vm 11 ag).trans gB) k7 b3 (aO (nb Ro 16) aq)) λU1 jM Z4 lp Zu fH rq cj ZQ=>?_
 exact⟨U1,jM,g9 ((kr H.lay ag (ck F.h) rfl).trans aS) (eg (x_call (eC (ck F.n) (cp (ck F.t))) bf) (bb (λm=>some (m,a8)) s1) (h6 (xo gs (xo hJ rfl)) rfl (jJ (Al (Ek (n:=2) (cp (e:=λ_ C=>some (.int 2,C)) (a:=ah 2) rfl) ag) (mI rfl (bb (λm=>some (m,eh)) s2) iC (mI rfl (bb (λm=>some (m,iN)) W2) lp (qB rfl)))) (iI rfl))))⟩
end
noncomputable def uR:List bF:=[⟨"a",[]⟩,⟨"b",[]⟩]
theorem PY:lS uR where
 nodup:=by decide
 wF y bc:=(dS.mp bc).elim (λe=>e▸λk aq=>absurd aq f7) λh=>(cK.mp h)▸λk aq=>absurd aq f7
 op y bc:=(dS.mp bc).elim (λe=>e▸.inl rfl) λh=>(cK.mp h)▸.inr (.inl rfl)
 two y bc:=(dS.mp bc).elim (λe=>e▸es _) λh=>(cK.mp h)▸es _
 pos:=by decide
theorem TX(c1:Addr)(ns:List Int)(h:ns.length<=63):∃ao,Hx c1 ns [.adr c1] []=some (.bool true,ao):=by
 refine dv (N4 c1 ns h (some (.adr c1)::List.replicate 25 none) rfl) λl bk ax aS=>?_
 have aZ:=Sa l bk (.list [.tup [.str "a"],.tup [.str "b"]]) (.list [.tup [.str "a"],.tup [.str "b"]]) (.list [])
 refine LQ (Vj (c1:=c1) (ns:=ns) aZ (.tail _ (.tail _ (.tail _ (.head _)))) (m:=some (.adr c1)::some (.obj 2)::some (.obj 4)::some (.obj 21)::some (.obj 22)::some (.obj 23)::List.replicate 20 none) rfl rfl) λu a8 gt ge fL bf ht=>?_
 have qj:i9 (some (.adr c1)::some (.obj 2)::some (.obj 4)::some (.obj 21)::some (.obj 22)::some (.obj 23)::some (.obj u)::List.replicate 19 none) u:=⟨rfl,rfl,rfl,rfl,rfl,rfl⟩
 have hF:b8 a8 uR (fY uR) gt ge fL 2 (gj u 0 uR uR.length [] (.list [.tup [.str "a"],.tup [.str "b"]]) bk):=ht
 refine b2 (draw ax qj hF (es _) (w:=4) ag (e:=λ_ C=>some (.int 4,C)) rfl) λv rl aU cY jO=>?_
 have au:(List.range (1+v)).length=1+v:=fW
 have rW:1+v<=4:=aO (cB (Nat.add_comm 1 v)) aU
 refine a6 (Uh (c1:=c1) (ns:=ns) ax (List.range (1+v)) _ _ gt ge fL 2 1 [] _ qj jO PY (by rw[au];exact gH rW 2) (by rw[au];exact aO (gH (Nat.mul_le_mul_left 3 rW) 1) ag) (by rw[au];exact aO (gH rW 2) ag)) λJJ a2=>sH a2 λiN U jB md me iC xv k7 Fp JL=>?_
 rw[au]at k7 JL
 have cC:U.length<=6:=aO JL (gH rW 2)
 have IX:1+3*(1+v)<=13:=gH (Nat.mul_le_mul_left 3 rW) 1
 refine b2 (draw ax xv k7 (aO IX ag) (w:=4) ag (e:=λ_ C=>some (.int 4,C)) rfl) λi5 aaB j3 lp rq=>?_
 have dA:(List.range i5).length=i5:=fW
 have r8:=nd j3
 have fe:1+3*(1+v)+1+3*i5<=23:=ob (fi IX) (Nat.mul_le_mul_left 3 r8)
 have qp:2+(1+v)+i5<=9:=ob (gH rW 2) r8
 refine a6 (Ug (c1:=c1) (ns:=ns) ax Fp.pos (List.range i5) _ _ jB md me _ _ [] [] JJ xv rq (Y5 Fp cC) (λ_ h=>absurd h f7) (λ_ h=>absurd h f7) (λj bn=>k2 (ft.mp bn) j3) (by rw[dA];exact aO fe ag) (by rw[dA];exact aO qp ag) (by rw[dA];exact aO (gH r8 0) ag)) λaah a9=>a6 a9 λAp bC=>a6 bC λZ2 bY=>LS bY λZ6 Z7 Z8 told done qx sM uG MN xS xd JM=>?_
 rw[dA]at uG JM
 refine iH (TV (c1:=c1) (ns:=ns) ax sM uG MN xS xd (JM▸aO (cB (Nat.zero_add _)) r8) (aO (nb fe 32) ag) (aO qp ag)) λU2 og x4=>?_
 have By:pj .Add (.int 1) (ah v) rl=some (ah (1+v),rl):=bb (λi=>some (D.int i,rl)) (Int.natCast_add 1 v).symm
 exact⟨og,gN (c3:=.ret (.bool true)) (m:=U2) rfl (eg aS (t:=b9 1) rfl (eg (hC (eC (x_call rfl (Q5 _ _ _)) (eC rfl (eC rfl (cp rfl))))) (t:=gv [2,3,4,5]) rfl (eg bf (t:=b9 6) rfl (jJ (Al (Ek (n:=1+v) (cp (hT rfl cY By)) (dC (aO rW ag))) iC) (jJ (Al (Ek (cp lp) (dC (aO r8 ag))) qx) x4)))))⟩
end
end ja
end
open PySem PySem.W PyProof.Rows PySem.Calls
namespace ja
theorem core{prog:Program}{w:World}{dD:Shared}{kt pZ:Str->Option Value}{p:Program}{loose:List Str}{Du:ExcName->Option Value}{jV a:Addr}{vs:List Value}{ns:List Int}{Q E:Value->Shared->Prop}
  (uL:(_root_.hd.heap_1 w.params).In dD.heap) (T:Top p loose Du kt pZ dD.heap) (yQ:kt "law"=some (.ref jV)) (dQ:dD.heap.IsList a vs.toArray) (ed:IntsAre vs ns) (vJ:ns.length<=63)
  (P:∀af bm ct,(∀b o,dD.heap.get? b=some o->af.get? b=some o)->Q (.bool true) {dD with heap:=af,toks:=bm,drawn:=ct}):wpAny (model prog w) callerA (call (.ref jV) [.ref a]) Q E dD:=by
 have e:kt "law"=some (.ref 479):=mg_of (K:=bS w) uL T.g (by rfl)
 rw[e]at yQ
 cases yQ
 refine a6 (TX a ns vJ) λao av=>?_
 have G:eD dD.heap (bS w) eJ eI:=Qf uL T (by
  intro q aL
  unfold eJ at aL
  simp only[dS,f7,or_false]at aL
  rcases aL with rfl|rfl|rfl|rfl|rfl|rfl|rfl|rfl|rfl|rfl|rfl|rfl|rfl|rfl|rfl|rfl|rfl|rfl|rfl<;>rfl) (by
  intro q aL
  unfold eI at aL
  simp only[dS,f7,or_false]at aL
  rcases aL with rfl|rfl|rfl|rfl|rfl|rfl|rfl|rfl|rfl|rfl|rfl|rfl<;>exact⟨by rfl,by rfl,by decide⟩)
 refine wpAny_call (Mv G dQ ed vJ [.adr a] [] _ ao av callerA [] dD [.ref a] _ ?_ ?_ ⟨_,_,rfl,rfl,rfl⟩ ?_)
 ·exact⟨rfl,by decide,by decide⟩
 ·exact⟨λ_ _ e=>e,rfl,.nil,⟨_,uL 3 _ (by rfl)⟩,(λ_ h=>by cases h),(λ_ _ _ h=>by cases h)⟩
 ·intro a4 v af bm ct S e r
  rw[show v=.bool true from r]
  exact P af bm ct S.keep
end ja
open ja
theorem PySem.Challenge.cw_pq0061_01_holds : PySem.Challenge.rw_pq0061_01.Holds :=
 _root_.hd (by
 k_fill
 intro w aaq dD kt pZ G Y jV o pm cd doc nA nP aD hd qJ mL yQ av args vals as RV Rx R3 r9 qP
 have uL:=kIn_of Y
 refine Ground.open G ?_
 intro T B D TE TW
 wrow_args RV Rx R3 r9 qP
 rename_i a vs _ dQ dR kB aao ed _ ax _
 refine core uL T yQ (by assumption) (by assumption) (by lia) λaf bm ct aq=>?_
 refine⟨.inl ⟨_,.bool true,[],rfl,λ_=>rfl,?_,?_,?_⟩,?_,rfl,?_⟩
 ·first|exact .bool _|constructor
 ·first|rfl|kernel_rfl
 ·exactλ_=>⟨.nil,λ_ h=>by cases h⟩
 ·exact OldK.of_keep aq
 ·exact .of_eq av)
