/- A logic of frames, its evaluator for values known in part, and what the functions that the law reaches are shown to do: written for this claim. Part E. -/
import Derived.Test.YtfeldacghdcghaaGreatDoorFtD
import Derived.KernelRfl
set_option linter.all false
set_option maxRecDepth 100000
namespace Go.Men
open Go.Ev Go.Proofs Go.Proofs.YtfeldacghdcghaaGreatDoor
theorem ZBQ(r:Ray)(s:Surf)(t:Iv):Con Tryz.prog 221 [.fn 211 [.lptr (Ray.enc r) 0,.lptr (Surf.enc s) 0],.agg (Iv.enc t)] (.v (.bool (ZaW (Zo s r t).1))):=by
 refine cf0 (Za Zbi<|Za Z5I<|Za Zxa<|Ze) (fn:=Tryz.f221) rfl ?_
 refine sxT (fun Q=>((r.enc=r.enc)∧((s.enc=s.enc)∧(bif right (Zo s r t).fst then Q (vB (!Men.has (Zo s r t).fst (0:Int))) else Q (vB false))))) (fun _=>by kernel_rfl) ?_
 delta Qn vB
 refine ⟨?r1,⟨?r0,Zb (fun h0=>?_) (fun h0=>?_)⟩⟩
 case r0|r1=>rfl
 all_goals simp only[ZaW, *]
 all_goals rfl
theorem ZBR:Zh Tryz.prog 221 Z7O:=by
 intro args r ps h hp
 unfold Z7O at h
 split at h
 ·rename_i p1 p2 p3 p4 p5
  cases (Qa_ h)
  exact by
   have hq:=ZBQ (Ray.dec p1) (Surf.dec p2) (⟨p3,p4,p5⟩:Iv)
   rw[←(show p1=Ray.enc (Ray.dec p1) from hp _ (by simp))] at hq
   rw[←(show p2=Surf.enc (Surf.dec p2) from hp _ (by simp))] at hq
   exact hq
 ·exact absurd h (by simp)
def ZAa:=Yy [(62,e62),(218,ZAS),(35,e35),(124,ZAM),(99,e99),(219,ZAQ),(64,e64),(220,ZAU),(221,Z7O),(211,ZBa)]
set_option maxHeartbeats 1000000 in
def Zf2(r:Ray)(s:Surf)(t:Iv):=sub (point (ZE t)) (Zp (Zo s r (point (ZE t))).fst (Zo s r t).snd)
def Zdr(r:Ray)(s:Surf)(t:Iv):=Xi t (Zf2 r s t)
def Zu5(r:Ray)(s:Surf)(t:Iv)(z:Iv)(x11:Iv)(x12:Iv):=[(4,(eIv (Zdr r s t))),(6,(eIv z)),(8,(eIv (Zf2 r s t))),(9,(eIv (point (ZE t)))),(10,(eIv (Zdr r s t))),(11,(eIv x11)),(12,(eIv x12)),(13,(eIv (Zo s r (point (ZE t))).fst)),(14,(eIv (Zo s r t).snd))]
def Zqh(k:Int):=vI (IntKind.i64.wrap (k - (1:Int)))
def Zqi(r:Ray)(s:Surf):=PV.fn (211:FuncId) [PV.lptr (Jp r) 0,PV.lptr (XE s) 0]
def Z3n(k:Int)(sure:Bool)(r:Ray)(s:Surf):=[(16,AV.p (Zqh k)),(4,AV.ptr 4 0),(6,AV.ptr 6 0),(8,AV.ptr 8 0),(9,AV.ptr 9 0),(10,AV.ptr 10 0),(11,AV.ptr 11 0),(12,AV.ptr 12 0),(13,AV.ptr 13 0),(14,AV.ptr 14 0),(15,AV.p (vB sure)),(0,AV.p (Zqi r s))]
def Zu6:Option St:=some ⟨95,[(6,AV.ptr 6 0),(7,pI 2)],[(6,[vI 0,vI 0,vB true])],[],[],[]⟩
def Zu7(r:Ray)(s:Surf)(t:Iv):=(Zdr r s t).hi==t.hi&&((Zdr r s t).no==t.no&&true)
def Z3o(sure:Bool)(t:Iv)(z:Iv):Option St:=some ⟨95,[(6,AV.ptr 6 0),(4,AV.ptr 4 0),(15,AV.p (vB sure))],[(6,(eIv z)),(4,(eIv t))],[],[],[]⟩
theorem Zxb:CSOk Tryz.prog ZAa:=Za Zbi<|Za Z6i<|Za Zhw<|Za Zg3<|Za Zdl<|Za ZB4<|Za Xx<|Za ZB7<|Za ZBR<|Za Zxa<|Ze
set_option maxHeartbeats 1000000 in
theorem Z3p:Ye Tryz.prog (Zn Tryz.f212 0) Zhr:=by
 refine ZdK Zk.Γ (Zw Zk Zxb Z4 Z3 (Zif (G:=(Gx.mk [] [] [] [233] [])) (Zie) (Z0r Tryz.underlying233<|Zid)) (LS:=[]) (ZM (l:=[]) (by kernel_rfl) Zr) (n:=2000) (U13 ZsQ) (U13 Zhq) (fun x e s=>((U13 JF x=true∧e= .ret∧s=U13 Zlo x)∨(U13 JF x=false∧((U13 Za8 x=true∧e= .goto 0∧s=U13 Zhp x)∨(U13 Za8 x=false∧e= .exit 0∧s=U13 Zho x))))) (fun x=>x.1.toNat) Zln Z2d Z2e (fun x hx=>?_)) Zln ?_
 ·obtain ⟨k,sure,r,s,t,z,x8,x9,x10,x11,x12,x13,x14⟩:=x
  simp only[U13,Zhq] at hx
  refine sxT (fun Q=>(bif decide (k > (0:Int)) then ((r.enc=r.enc)∧((s.enc=s.enc)∧((r.enc=r.enc)∧((s.enc=s.enc)∧(bif (Zf2 r s t).no then ((r.enc=r.enc)∧((s.enc=s.enc)∧(bif ZaW (Zo s r (ZZ t).fst).fst then Q (Ex.normal) (some ⟨95,(Z3n k sure r s),[(4,(eIv (ZZ t).snd)),(6,(eIv z)),(8,(eIv (Zf2 r s t))),(9,(eIv (point (ZE t)))),(10,(eIv x10)),(11,(eIv (ZZ t).fst)),(12,(eIv (ZZ t).snd)),(13,(eIv (Zo s r (point (ZE t))).fst)),(14,(eIv (Zo s r t).snd))],[],[],[]⟩) else ((r.enc=r.enc)∧((s.enc=s.enc)∧(bif !ZaW (Zo s r (ZZ t).snd).fst then Q (Ex.goto (0:Nat)) (Z3o sure t z) else Q (Ex.normal) (some ⟨95,(Z3n k sure r s),[(4,(eIv (ZZ t).fst)),(6,(eIv z)),(8,(eIv (Zf2 r s t))),(9,(eIv (point (ZE t)))),(10,(eIv x10)),(11,(eIv (ZZ t).fst)),(12,(eIv (ZZ t).snd)),(13,(eIv (Zo s r (point (ZE t))).fst)),(14,(eIv (Zo s r t).snd))],[],[],[]⟩))))))) else (bif sure then (bif (Zdr r s t).no then Q (Ex.ret) Zu6 else (bif (Zdr r s t).lo==t.lo&&(Zu7 r s t) then Q (Ex.exit (0:Nat)) (some ⟨95,[(6,AV.ptr 6 0),(4,AV.ptr 4 0),(15,AV.p (vB true))],[(6,(eIv z)),(4,(eIv t))],[],[],[]⟩) else Q (Ex.normal) (some ⟨95,[(16,AV.p (Zqh k)),(4,AV.ptr 4 0),(6,AV.ptr 6 0),(8,AV.ptr 8 0),(9,AV.ptr 9 0),(10,AV.ptr 10 0),(11,AV.ptr 11 0),(12,AV.ptr 12 0),(13,AV.ptr 13 0),(14,AV.ptr 14 0),(15,AV.p (vB true)),(0,AV.p (Zqi r s))],(Zu5 r s t z x11 x12),[],[],[]⟩))) else (bif decide (t.lo < (Zf2 r s t).lo) then (bif (Zdr r s t).no then Q (Ex.ret) Zu6 else (bif (Zdr r s t).lo==t.lo&&(Zu7 r s t) then Q (Ex.exit (0:Nat)) (some ⟨95,[(6,AV.ptr 6 0),(4,AV.ptr 4 0),(15,AV.p (vB (decide ((Zf2 r s t).hi < t.hi))))],[(6,(eIv z)),(4,(eIv t))],[],[],[]⟩) else Q (Ex.normal) (some ⟨95,[(16,AV.p (Zqh k)),(4,AV.ptr 4 0),(6,AV.ptr 6 0),(8,AV.ptr 8 0),(9,AV.ptr 9 0),(10,AV.ptr 10 0),(11,AV.ptr 11 0),(12,AV.ptr 12 0),(13,AV.ptr 13 0),(14,AV.ptr 14 0),(15,AV.p (vB (decide ((Zf2 r s t).hi < t.hi)))),(0,AV.p (Zqi r s))],(Zu5 r s t z x11 x12),[],[],[]⟩))) else (bif (Zdr r s t).no then Q (Ex.ret) Zu6 else (bif (Zdr r s t).lo==t.lo&&(Zu7 r s t) then Q (Ex.exit (0:Nat)) (some ⟨95,[(6,AV.ptr 6 0),(4,AV.ptr 4 0),(15,AV.p (vB false))],[(6,(eIv z)),(4,(eIv t))],[],[],[]⟩) else Q (Ex.normal) (some ⟨95,[(16,AV.p (Zqh k)),(4,AV.ptr 4 0),(6,AV.ptr 6 0),(8,AV.ptr 8 0),(9,AV.ptr 9 0),(10,AV.ptr 10 0),(11,AV.ptr 11 0),(12,AV.ptr 12 0),(13,AV.ptr 13 0),(14,AV.ptr 14 0),(15,AV.p (vB false)),(0,AV.p (Zqi r s))],(Zu5 r s t z x11 x12),[],[],[]⟩)))))))))) else Q (Ex.exit (0:Nat)) (Z3o sure t z))) (fun _=>by kernel_rfl) ?_
  delta Zf2 Zu5 Z3n Zu6 Zqi Zu7 Zqh Zdr Z3o eIv Jp XE vI vB pI
  refine Zb (fun h0=>⟨?r7,⟨?r6,⟨?r5,⟨?r4,Zb (fun h1=>⟨?r3,⟨?r2,Zb (fun h2=> .inl ⟨rfl,(IntKind.i64.wrap (k - (1:Int)),sure,r,s,(ZZ t).snd,z,(sub (point (ZE t)) (Zp (Zo s r (point (ZE t))).fst (Zo s r t).snd)),(point (ZE t)),x10,(ZZ t).fst,(ZZ t).snd,(Zo s r (point (ZE t))).fst,(Zo s r t).snd),rfl, ?_, ?_, ?_⟩) (fun h2=>⟨?r1,⟨?r0,Zb (fun h3=> .inr ⟨by simp,_,rfl, ?_⟩) (fun h3=> .inl ⟨rfl,(IntKind.i64.wrap (k - (1:Int)),sure,r,s,(ZZ t).fst,z,(sub (point (ZE t)) (Zp (Zo s r (point (ZE t))).fst (Zo s r t).snd)),(point (ZE t)),x10,(ZZ t).fst,(ZZ t).snd,(Zo s r (point (ZE t))).fst,(Zo s r t).snd),rfl, ?_, ?_, ?_⟩)⟩⟩)⟩⟩) (fun h1=>Zb (fun h2=>Zb (fun h3=> .inr ⟨by simp,_,rfl, ?_⟩) (fun h3=>Zb (fun h4=> .inr ⟨by simp,_,rfl, ?_⟩) (fun h4=> .inl ⟨rfl,(IntKind.i64.wrap (k - (1:Int)),true,r,s,(Xi t (sub (point (ZE t)) (Zp (Zo s r (point (ZE t))).fst (Zo s r t).snd))),z,(sub (point (ZE t)) (Zp (Zo s r (point (ZE t))).fst (Zo s r t).snd)),(point (ZE t)),(Xi t (sub (point (ZE t)) (Zp (Zo s r (point (ZE t))).fst (Zo s r t).snd))),x11,x12,(Zo s r (point (ZE t))).fst,(Zo s r t).snd),rfl, ?_, ?_, ?_⟩))) (fun h2=>Zb (fun h3=>Zb (fun h4=> .inr ⟨by simp,_,rfl, ?_⟩) (fun h4=>Zb (fun h5=> .inr ⟨by simp,_,rfl, ?_⟩) (fun h5=> .inl ⟨rfl,(IntKind.i64.wrap (k - (1:Int)),decide ((sub (point (ZE t)) (Zp (Zo s r (point (ZE t))).fst (Zo s r t).snd)).hi < t.hi),r,s,(Xi t (sub (point (ZE t)) (Zp (Zo s r (point (ZE t))).fst (Zo s r t).snd))),z,(sub (point (ZE t)) (Zp (Zo s r (point (ZE t))).fst (Zo s r t).snd)),(point (ZE t)),(Xi t (sub (point (ZE t)) (Zp (Zo s r (point (ZE t))).fst (Zo s r t).snd))),x11,x12,(Zo s r (point (ZE t))).fst,(Zo s r t).snd),rfl, ?_, ?_, ?_⟩))) (fun h3=>Zb (fun h4=> .inr ⟨by simp,_,rfl, ?_⟩) (fun h4=>Zb (fun h5=> .inr ⟨by simp,_,rfl, ?_⟩) (fun h5=> .inl ⟨rfl,(IntKind.i64.wrap (k - (1:Int)),false,r,s,(Xi t (sub (point (ZE t)) (Zp (Zo s r (point (ZE t))).fst (Zo s r t).snd))),z,(sub (point (ZE t)) (Zp (Zo s r (point (ZE t))).fst (Zo s r t).snd)),(point (ZE t)),(Xi t (sub (point (ZE t)) (Zp (Zo s r (point (ZE t))).fst (Zo s r t).snd))),x11,x12,(Zo s r (point (ZE t))).fst,(Zo s r t).snd),rfl, ?_, ?_, ?_⟩)))))⟩⟩⟩⟩) (fun h0=> .inr ⟨by simp,_,rfl, ?_⟩)
  case r0|r1|r2|r3|r4|r5|r6|r7=>rfl
  all_goals try dsimp only[U13]
  all_goals (obtain ⟨a1,a2⟩:=hx;try simp only[Qc_,Qe_] at h0)
  all_goals obtain ⟨A,hA⟩:∃A,Yj (Zo s r) k.toNat t sure=A:=⟨_,rfl⟩
  all_goals have en:=hA
  all_goals first | (rw[show k.toNat=(k - 1).toNat+1 by omega] at en) | (rw[show k.toNat=0 by omega] at en)
  all_goals (try change ZrC _ _=_ at h4)
  all_goals (try change ZrC _ _=_ at h5)
  all_goals simp only[Yj,ZdL,ZvY] at en
  all_goals (try simp only[Qi_,Qf_] at h3)
  all_goals (try simp only[Qc_,Qe_] at h3)
  all_goals (try rw[QH_ h3] at en)
  all_goals (try simp only[*,QD_,Q8_,Qb_,Qd_,Q4_,Qw_,Qp_,Ql_,Qr_,Qn_] at en)
  all_goals have en:=hA.trans en.symm
  all_goals (try have hw:IntKind.i64.wrap (k - 1)=k - 1:=Zg (by constructor<;>omega))
  all_goals first | (exact ⟨by omega,by omega⟩) | (show (IntKind.i64.wrap (k - 1)).toNat < k.toNat;omega) | (simp only[U13,JF,Za8,Zlo,Zhp,Zho,hw,en];exact fun e s h=>h) | (exact .inl ⟨by simp only[U13,JF,en];rfl,by trivial,rfl⟩) | (exact .inr ⟨by simp only[U13,JF,en];rfl,.inl ⟨by simp only[U13,Za8,en];rfl,by trivial,by (simp only[U13,Zhp,en])<;>rfl⟩⟩) | (exact .inr ⟨by simp only[U13,JF,en];rfl,.inr ⟨by simp only[U13,Za8,en];rfl,by trivial,by (simp only[U13,Zho,en])<;>rfl⟩⟩)
 ·intro σ K hS
  unfold Zhr at hS
  split at hS
  ·rename_i p1 p2 p3 p4 p5 p6 p7 p8 p9 p10 p11 p12 p13 hk
   obtain ⟨hi,hK⟩:=W8 hS
   refine ⟨(p1,p2,(Ray.dec p3),(Surf.dec p4),(Iv.dec p5),(Iv.dec p6),(Iv.dec p7),(Iv.dec p8),(Iv.dec p9),(Iv.dec p10),(Iv.dec p11),(Iv.dec p12),(Iv.dec p13)),by
    simp only[ZsQ]
    rw[←(show p3=Ray.enc (Ray.dec p3) from hi _ (by simp))]
    rw[←(show p4=Surf.enc (Surf.dec p4) from hi _ (by simp))]
    rw[←(show p5=Iv.enc (Iv.dec p5) from hi _ (by simp))]
    rw[←(show p6=Iv.enc (Iv.dec p6) from hi _ (by simp))]
    rw[←(show p7=Iv.enc (Iv.dec p7) from hi _ (by simp))]
    rw[←(show p8=Iv.enc (Iv.dec p8) from hi _ (by simp))]
    rw[←(show p9=Iv.enc (Iv.dec p9) from hi _ (by simp))]
    rw[←(show p10=Iv.enc (Iv.dec p10) from hi _ (by simp))]
    rw[←(show p11=Iv.enc (Iv.dec p11) from hi _ (by simp))]
    rw[←(show p12=Iv.enc (Iv.dec p12) from hi _ (by simp))]
    rw[←(show p13=Iv.enc (Iv.dec p13) from hi _ (by simp))]
    exact hk,hi _ (by simp),fun e s hf=>?_⟩
   dsimp only[U13] at hf
   rcases hf with ⟨hc,rfl,rfl⟩ | ⟨hc,hf⟩
   ·rw[hc] at hK;exact hK
   ·rw[hc] at hK;rcases hf with ⟨hd,rfl,rfl⟩ | ⟨hd,rfl,rfl⟩<;>(rw[hd] at hK;exact hK)
  ·exact hS.elim
theorem Z6y:ZF Tryz.prog [(6,Zhr)] Tryz.f212:=ZG (l:=[Zn Tryz.f212 0]) (by kernel_rfl) (Zz (i:=6) (by kernel_rfl) rfl Z3p (Zr))
def q14_10:=Iv.mk (0:Int) (0:Int) false
def Z6z:=[vI 0,vI 0,vB false]
def Zds:=Z6z=q14_10.enc
def Zqj:=PV.tup [PV.agg [vI 0,vI 0,vB true],vI 0]
set_option maxHeartbeats 1000000 in
theorem Z60(r:Ray)(s:Surf)(t:Iv):Con Tryz.prog 212 [.fn 211 [.lptr (Ray.enc r) 0,.lptr (Surf.enc s) 0],.agg (Iv.enc t),.v (.int .i64 20)] (.tup [.agg (Iv.enc ((solve (Zo s r) t 20).1)),.v (.int .i64 ((solve (Zo s r) t 20).2))]):=by
 refine Zcj Zk Zxb Z4 Z3 (Zif (G:=(Gx.mk [] [] [] [233] [])) (Zie) (Z0r Tryz.underlying233<|Zid)) (n:=2000) (LS:=[(6,Zhr)]) (fn:=Tryz.f212) rfl Z6y ?_
 refine sxT (fun Q=>(bif !right t then Q Zqj else ((r.enc=r.enc)∧((s.enc=s.enc)∧(((eIv t)=t.enc)∧(Zds∧(Zds∧(Zds∧(Zds∧(Zds∧(Zds∧(Zds∧(Zds∧((Zhq (20:Int) false r s t q14_10 q14_10 q14_10 q14_10 q14_10 q14_10 q14_10 q14_10)∧(bif JF (20:Int) false r s t q14_10 q14_10 q14_10 q14_10 q14_10 q14_10 q14_10 q14_10 then Q (PV.tup [PV.agg [vI 0,vI 0,vB true],vI 2]) else (bif Za8 (20:Int) false r s t q14_10 q14_10 q14_10 q14_10 q14_10 q14_10 q14_10 q14_10 then Q Zqj else (bif (Yj (Zo s r) (20:Nat) t false).snd.snd then Q (PV.tup [PV.agg (eIv (Yj (Zo s r) (20:Nat) t false).snd.fst),vI 1]) else Q Zqj))))))))))))))))) (fun _=>by kernel_rfl) ?_
 delta Qn q14_10 Z6z Zds Zqj eIv vI vB
 refine Zb (fun h0=>?_) (fun h0=>⟨?r10,⟨?r9,⟨?r8,⟨?r7,⟨?r6,⟨?r5,⟨?r4,⟨?r3,⟨?r2,⟨?r1,⟨?r0,⟨?_,Zb (fun h1=>?_) (fun h1=>Zb (fun h2=>?_) (fun h2=>Zb (fun h3=>?_) (fun h3=>?_)))⟩⟩⟩⟩⟩⟩⟩⟩⟩⟩⟩⟩)
 case r0|r1|r2|r3|r4|r5|r6|r7|r8|r9|r10=>rfl
 ·simp only[Qi_] at h0
  simp only[solve,h0,Qd_];rfl
 ·exact ⟨by decide,by decide⟩
 all_goals have e0:solve (Zo s r) t 20=ZmK (Yj (Zo s r) 20 t false):=(by simp only[Qf_] at h0;unfold solve newt;rw[h0];rfl)
 all_goals rw[e0]
 all_goals (try change ((Yj (Zo s r) 20 t false).1==1)=_ at h1)
 all_goals (try change ((Yj (Zo s r) 20 t false).1==2)=_ at h2)
 all_goals unfold ZmK Zpt
 ·rw[h1];rfl
 ·rw[h1,h2];rfl
 ·rw[h1,h2,h3];rfl
 ·rw[h1,h2,h3];rfl
theorem ZBS:Zh Tryz.prog 212 ZBc:=by
 intro args r ps h hp
 unfold ZBc at h
 split at h
 ·rename_i p1 p2 p3 p4 p5
  cases (Qa_ h)
  exact by
   have hq:=Z60 (Ray.dec p1) (Surf.dec p2) (⟨p3,p4,p5⟩:Iv)
   rw[←(show p1=Ray.enc (Ray.dec p1) from hp _ (by simp))] at hq
   rw[←(show p2=Surf.enc (Surf.dec p2) from hp _ (by simp))] at hq
   exact hq
 ·exact absurd h (by simp)
def Zxc(s:Surf)(r:Ray)(t:Iv):=solve (Zo s r) (of (IntKind.i64.wrap (t.lo - (65536:Int))) (IntKind.i64.wrap (t.hi+(65536:Int)))) (20:Int)
theorem ZBT:Zh Tryz.prog 189 ZEn:=Zi<|Zf fun s=>Zf fun r=>Zf fun t=>EZ1 fun hp0=>by
 refine cf0 (Za Zbj<|Za ZBS<|Za Xx<|Za Zxa<|Ze) (fn:=Tryz.f189) rfl ?_
 refine sxT (fun Q=>(((Jp r)=r.enc)∧(((XE s)=s.enc)∧(bif (Zxc s r t).snd !=(1:Int) then Q (PV.tup [PV.agg [vI 0,vI 0,vB true],vI 0]) else Q (PV.tup [PV.agg (eIv (Zxc s r t).fst),vI 1]))))) (fun _=>by kernel_rfl) ?_
 delta Qn Zxc eIv Jp XE vI vB
 refine ⟨?r1,⟨?r0,Zb (fun h0=>?_) (fun h0=>?_)⟩⟩
 case r0|r1=>rfl
 all_goals have hb:=Y9 hp0
 all_goals simp only[Zg (show Fit (t.lo - 65536) by constructor<;>omega),Zg (show Fit (t.hi+65536) by constructor<;>omega),bne,Qi_,Qf_] at *
 all_goals simp only[ZdM, *,Qb_,Qd_]
 all_goals rfl
def Zg5(s:Surf)(r:Ray):=V.mk r.o.x r.o.y (sub r.o.z s.pos)
def Zdt(s:Surf)(r:Ray):=Jn s (Zg5 s r) r.d
def Zxd:=PV.tup [PV.agg [vI 0,vI 0,vB true],PV.agg [vI 0,vI 0,vB true,vI 0,vI 0,vB true,vI 0,vI 0,vB true],vI 0]
def Zxe(s:Surf)(r:Ray)(Q:PV→Prop):Prop:=bif (Zdt s r).snd !=(1:Int) then Q (PV.tup [PV.agg (eIv none'),PV.agg (eV noV),vI (Zdt s r).snd]) else (bif !Yn (along (Ray.mk (Zg5 s r) r.d) (Zdt s r).fst) then Q Zxd else Q (PV.tup [PV.agg (eIv (Zdt s r).fst),PV.agg (eV (along (Ray.mk (Zg5 s r) r.d) (Zdt s r).fst)),vI 1]))
def Zix(s:Surf)(r:Ray):=ZdM s (Ray.mk (Zg5 s r) r.d) (Zdt s r).fst
theorem ZBU:Zh Tryz.prog 163 ZEo:=Zi<|Zf fun s=>Zf fun r=>EZ0<|by
 refine cf0 (Za Zdl<|Za ZBK<|Za ZBT<|Za ZBE<|Za Z6o<|Za ZwO<|Ze) (fn:=Tryz.f163) rfl ?_
 refine sxT (fun Q=>(((XE s)=s.enc)∧(bif s.bent then (bif (Zdt s r).snd==(1:Int) then (((XE s)=s.enc)∧((right (Zdt s r).fst=true)∧(bif (Zix s r).snd !=(1:Int) then Q (PV.tup [PV.agg (eIv none'),PV.agg (eV noV),vI (Zix s r).snd]) else (bif !Yn (along (Ray.mk (Zg5 s r) r.d) (Zix s r).fst) then Q Zxd else Q (PV.tup [PV.agg (eIv (Zix s r).fst),PV.agg (eV (along (Ray.mk (Zg5 s r) r.d) (Zix s r).fst)),vI 1]))))) else (Zxe s r Q)) else (Zxe s r Q)))) (fun _=>by kernel_rfl) ?_
 delta Qn Zg5 Zxe Zix Zxd Zdt eIv eV XE vI vB
 refine ⟨?r2,Zb (fun h0=>Zb (fun h1=>⟨?r1,⟨?r0,Zb (fun h2=>?_) (fun h2=>Zb (fun h3=>?_) (fun h3=>?_))⟩⟩) (fun h1=>Zb (fun h2=>?_) (fun h2=>Zb (fun h3=>?_) (fun h3=>?_)))) (fun h0=>Zb (fun h1=>?_) (fun h1=>Zb (fun h2=>?_) (fun h2=>?_)))⟩
 case r0|r1|r2=>first | rfl | (exact Zpx (by simpa [Jn] using h1))
 all_goals (try simp only[bne,Qi_,Qf_] at *)
 all_goals simp only[ZU,ZrD,XV, *,Qp_,Ql_,Qr_,Qn_,Qb_,Qd_]
 all_goals first | rfl | (exact absurd (h1.symm.trans h2) (by decide))
def Zxf:=[vI 0,vI 0,vB true,vI 0,vI 0,vB true,vI 0,vI 0,vB true,vI 0,vI 0,vB true,vI 0,vI 0,vB true,vI 0,vI 0,vB true]
def Zad(s:Surf)(r:Ray):=bend r.d (Zch s (ZU s r).snd.fst) s.ratio
def ZeH(s:Surf)(r:Ray):=add (ZU s r).snd.fst.z s.pos
def ZlK:=PV.tup [PV.agg Zxf,vI 3]
def Zqk:=PV.tup [PV.agg Zxf,vI 2]
theorem ZBV:Zh Tryz.prog 130 ZBd:=Zi<|Zf fun s=>Zf fun r=>EZ0<|by
 refine cf0 (Za ZBU<|Za Zdm<|Za Zb2<|Za ZBA<|Za ZBL<|Za ZBN<|Za ZBD<|Ze) (fn:=Tryz.f130) rfl ?_
 refine sxT (fun Q=>(((XE s)=s.enc)∧(bif (ZU s r).snd.snd !=(1:Int) then (bif (ZU s r).snd.snd==(2:Int) then Q Zqk else Q ZlK) else (bif JK (add (sqr (ZU s r).snd.fst.x) (sqr (ZU s r).snd.fst.y)) s.open2 !=(1:Int) then (bif JK (add (sqr (ZU s r).snd.fst.x) (sqr (ZU s r).snd.fst.y)) s.open2==(2:Int) then Q Zqk else Q ZlK) else (bif (ZeH s r).no then Q ZlK else (bif s.stop then Q (PV.tup [PV.agg [vI (ZU s r).snd.fst.x.lo,vI (ZU s r).snd.fst.x.hi,vB (ZU s r).snd.fst.x.no,vI (ZU s r).snd.fst.y.lo,vI (ZU s r).snd.fst.y.hi,vB (ZU s r).snd.fst.y.no,vI (ZeH s r).lo,vI (ZeH s r).hi,vB (ZeH s r).no,vI r.d.x.lo,vI r.d.x.hi,vB r.d.x.no,vI r.d.y.lo,vI r.d.y.hi,vB r.d.y.no,vI r.d.z.lo,vI r.d.z.hi,vB r.d.z.no],vI 1]) else (((XE s)=s.enc)∧(bif (Zad s r).snd !=(1:Int) then (bif (Zad s r).snd==(2:Int) then Q Zqk else Q ZlK) else Q (PV.tup [PV.agg [vI (ZU s r).snd.fst.x.lo,vI (ZU s r).snd.fst.x.hi,vB (ZU s r).snd.fst.x.no,vI (ZU s r).snd.fst.y.lo,vI (ZU s r).snd.fst.y.hi,vB (ZU s r).snd.fst.y.no,vI (ZeH s r).lo,vI (ZeH s r).hi,vB (ZeH s r).no,vI (Zad s r).fst.x.lo,vI (Zad s r).fst.x.hi,vB (Zad s r).fst.x.no,vI (Zad s r).fst.y.lo,vI (Zad s r).fst.y.hi,vB (Zad s r).fst.y.no,vI (Zad s r).fst.z.lo,vI (Zad s r).fst.z.hi,vB (Zad s r).fst.z.no],vI 1]))))))))) (fun _=>by kernel_rfl) ?_
 delta Qn Zxf Zad ZeH ZlK Zqk XE vI vB
 refine ⟨?r1,Zb (fun h0=>Zb (fun h1=>?_) (fun h1=>?_)) (fun h0=>Zb (fun h1=>Zb (fun h2=>?_) (fun h2=>?_)) (fun h1=>Zb (fun h2=>?_) (fun h2=>Zb (fun h3=>?_) (fun h3=>⟨?r0,Zb (fun h4=>Zb (fun h5=>?_) (fun h5=>?_)) (fun h4=>?_)⟩))))⟩
 case r0|r1=>rfl
 all_goals (try simp only[bne,Qi_,Qf_] at *)
 all_goals simp only[goS,goA,goB,goO,Men.goP,ZcS, *,Qb_,Qd_]
 all_goals first | rfl | (exact absurd (h1.symm.trans h2) (by decide)) | (simp only[nz,nzA,nz1,QE_,QN_,Iv.enc,V.enc,Ray.enc, *];done)
theorem ZBW:Zh Tryz.prog 205 ZBe:=Zi<|Zf fun f=>Zf fun t=>EZ0<|by
 refine cf0 (Za Z6u<|Za Z6v<|Za Z6p<|Za Zdn<|Za ZbV<|Za Z6x<|Za ZaH<|Za ZaG<|Za ZjL<|Ze) (fn:=Tryz.f205) rfl ?_
 refine sxT (fun Q=>(((XE f.s)=f.s.enc)∧Q (PV.tup [PV.agg (eIv (sub (along f.r t).z (sag f.s (add (sqr (along f.r t).x) (sqr (along f.r t).y))).fst)),PV.agg (eIv (sub f.r.d.z (Zl (sag f.s (add (sqr (along f.r t).x) (sqr (along f.r t).y))).snd (times (add (Zl (along f.r t).x f.r.d.x) (Zl (along f.r t).y f.r.d.y)) (2:Int)))))]))) (fun _=>by kernel_rfl) ?_
 delta Qn eIv XE vI vB
 refine ⟨?r0, ?_⟩
 case r0=>rfl
 all_goals rfl
def Z61:=Yy [(72,e72),(179,ZAW),(204,ZAT),(46,e46),(205,ZBe),(85,e85),(107,ZAK),(206,ZAV),(207,ZBb),(208,ZAR)]
set_option maxHeartbeats 1000000 in
def Zql(f:FnM):=[PV.lst (List.map Iv.enc f.poly),vB true,vB f.s.stop,vB f.s.bent,vI f.s.curve.lo,vI f.s.curve.hi,vB f.s.curve.no,vI f.s.conic.lo,vI f.s.conic.hi,vB f.s.conic.no,vI f.s.a4.lo,vI f.s.a4.hi,vB f.s.a4.no,vI f.s.a6.lo,vI f.s.a6.hi,vB f.s.a6.no,vI f.s.pos.lo,vI f.s.pos.hi,vB f.s.pos.no,vI f.s.open2.lo,vI f.s.open2.hi,vB f.s.open2.no,vI f.s.ratio.lo,vI f.s.ratio.hi,vB f.s.ratio.no,vI f.r.o.x.lo,vI f.r.o.x.hi,vB f.r.o.x.no,vI f.r.o.y.lo,vI f.r.o.y.hi,vB f.r.o.y.no,vI f.r.o.z.lo,vI f.r.o.z.hi,vB f.r.o.z.no,vI f.r.d.x.lo,vI f.r.d.x.hi,vB f.r.d.x.no,vI f.r.d.y.lo,vI f.r.d.y.hi,vB f.r.d.y.no,vI f.r.d.z.lo,vI f.r.d.z.hi,vB f.r.d.z.no]
def ZmW(t:Iv)(f:FnM):=sub (point (ZE t)) (Zp (Zo f.s f.r (point (ZE t))).fst (Zo f.s f.r t).snd)
def Zqm(f:FnM):=(Zql f)=(FnM.mk (Zc Iv.dec (List.map Iv.enc f.poly)) f.s f.r).enc
def Zu8:Option St:=some ⟨113,[(6,AV.ptr 6 0),(7,pI 2)],[(6,[vI 0,vI 0,vB true])],[],[],[]⟩
def Zem(t:Iv)(f:FnM):=Xi t (ZmW t f)
def Zqn(k:Int):=vI (IntKind.i64.wrap (k+(1:Int)))
def Zu9(t:Iv)(f:FnM):=(Zem t f).hi==t.hi&&((Zem t f).no==t.no&&true)
def ZuA(t:Iv)(z:Iv)(f:FnM):=[(4,(eIv (Zem t f))),(6,(eIv z)),(3,(Zql f))]
def Z3q(k:Int)(yes:Bool)(m:Int):=[(9,AV.p (Zqn k)),(4,AV.ptr 4 0),(6,AV.ptr 6 0),(3,AV.ptr 3 0),(8,AV.p (vB yes)),(2,pI m)]
theorem Zqo:CSOk Tryz.prog Z61:=Za Xp<|Za Zqa<|Za Z6j<|Za ZbU<|Za ZBW<|Za Zhx<|Za ZaG<|Za ZB8<|Za ZBP<|Za ZB5<|Ze
set_option maxHeartbeats 1000000 in
theorem Zxg:Ye Tryz.prog (Zn Tryz.f178 0) Zn0:=by
 refine lsG Zk.Γ (Zw Zk Zqo Z4 Z3 Z7 (LS:=[]) (ZM (l:=[]) (by kernel_rfl) Zr) (n:=2000) (U6 Zzy) (U6 Zei) (fun x e s=>((U6 Jq x=true∧e= .ret∧s=U6 Zeh x)∨(U6 Jq x=false∧e= .exit 0∧s=U6 Zeg x))) (fun x=>(x.2.2.1 - x.1).toNat) Znz Zwv Zww (fun x hx=>?_)) cv6 (fun _=>rfl) (fun _ h=>h) (fun _ _ _ _ h f=>fC h f fE fE)
 ·obtain ⟨k,yes,m,t,z,f⟩:=x
  simp only[U6,Zei] at hx
  refine sxT (fun Q=>(bif decide (k < m) then ((Zqm f)∧((Zqm f)∧(bif !right (ZmW t f) then ((Zqm f)∧((Zqm f)∧(bif ZaW (Zo f.s f.r (ZZ t).fst).fst then Q (Ex.normal) (some ⟨113,(Z3q k yes m),[(4,(eIv (ZZ t).snd)),(6,(eIv z)),(3,(Zql f))],[],[],[]⟩) else (bif ZaW (Zo f.s f.r (ZZ t).snd).fst then Q (Ex.normal) (some ⟨113,(Z3q k yes m),[(4,(eIv (ZZ t).fst)),(6,(eIv z)),(3,(Zql f))],[],[],[]⟩) else Q (Ex.ret) (some ⟨113,[(6,AV.ptr 6 0),(7,pI 0)],[(6,[vI 0,vI 0,vB true])],[],[],[]⟩))))) else (bif yes then (bif !right (Zem t f) then Q (Ex.ret) Zu8 else (bif (Zem t f).lo==t.lo&&(Zu9 t f) then Q (Ex.exit (0:Nat)) (some ⟨113,[(6,AV.ptr 6 0),(4,AV.ptr 4 0),(8,AV.p (vB true))],[(6,(eIv z)),(4,(eIv t))],[],[],[]⟩) else Q (Ex.normal) (some ⟨113,[(9,AV.p (Zqn k)),(4,AV.ptr 4 0),(6,AV.ptr 6 0),(3,AV.ptr 3 0),(8,AV.p (vB true)),(2,pI m)],(ZuA t z f),[],[],[]⟩))) else (bif decide (t.lo < (ZmW t f).lo) then (bif !right (Zem t f) then Q (Ex.ret) Zu8 else (bif (Zem t f).lo==t.lo&&(Zu9 t f) then Q (Ex.exit (0:Nat)) (some ⟨113,[(6,AV.ptr 6 0),(4,AV.ptr 4 0),(8,AV.p (vB (decide ((ZmW t f).hi < t.hi))))],[(6,(eIv z)),(4,(eIv t))],[],[],[]⟩) else Q (Ex.normal) (some ⟨113,[(9,AV.p (Zqn k)),(4,AV.ptr 4 0),(6,AV.ptr 6 0),(3,AV.ptr 3 0),(8,AV.p (vB (decide ((ZmW t f).hi < t.hi)))),(2,pI m)],(ZuA t z f),[],[],[]⟩))) else (bif !right (Zem t f) then Q (Ex.ret) Zu8 else (bif (Zem t f).lo==t.lo&&(Zu9 t f) then Q (Ex.exit (0:Nat)) (some ⟨113,[(6,AV.ptr 6 0),(4,AV.ptr 4 0),(8,AV.p (vB false))],[(6,(eIv z)),(4,(eIv t))],[],[],[]⟩) else Q (Ex.normal) (some ⟨113,[(9,AV.p (Zqn k)),(4,AV.ptr 4 0),(6,AV.ptr 6 0),(3,AV.ptr 3 0),(8,AV.p (vB false)),(2,pI m)],(ZuA t z f),[],[],[]⟩)))))))) else Q (Ex.exit (0:Nat)) (some ⟨113,[(6,AV.ptr 6 0),(4,AV.ptr 4 0),(8,AV.p (vB yes))],[(6,(eIv z)),(4,(eIv t))],[],[],[]⟩))) (fun _=>by kernel_rfl) ?_
  delta Zql ZmW Zqm Zu8 Zem Zqn Zu9 ZuA Z3q eIv vI vB pI
  refine Zb (fun h0=>⟨?r3,⟨?r2,Zb (fun h1=>⟨?r1,⟨?r0,Zb (fun h2=> .inl ⟨rfl,(IntKind.i64.wrap (k+(1:Int)),yes,m,(ZZ t).snd,z,f),rfl, ?_, ?_, ?_⟩) (fun h2=>Zb (fun h3=> .inl ⟨rfl,(IntKind.i64.wrap (k+(1:Int)),yes,m,(ZZ t).fst,z,f),rfl, ?_, ?_, ?_⟩) (fun h3=> .inr ⟨by simp,_,rfl, ?_⟩))⟩⟩) (fun h1=>Zb (fun h2=>Zb (fun h3=> .inr ⟨by simp,_,rfl, ?_⟩) (fun h3=>Zb (fun h4=> .inr ⟨by simp,_,rfl, ?_⟩) (fun h4=> .inl ⟨rfl,(IntKind.i64.wrap (k+(1:Int)),true,m,(Xi t (sub (point (ZE t)) (Zp (Zo f.s f.r (point (ZE t))).fst (Zo f.s f.r t).snd))),z,f),rfl, ?_, ?_, ?_⟩))) (fun h2=>Zb (fun h3=>Zb (fun h4=> .inr ⟨by simp,_,rfl, ?_⟩) (fun h4=>Zb (fun h5=> .inr ⟨by simp,_,rfl, ?_⟩) (fun h5=> .inl ⟨rfl,(IntKind.i64.wrap (k+(1:Int)),decide ((sub (point (ZE t)) (Zp (Zo f.s f.r (point (ZE t))).fst (Zo f.s f.r t).snd)).hi < t.hi),m,(Xi t (sub (point (ZE t)) (Zp (Zo f.s f.r (point (ZE t))).fst (Zo f.s f.r t).snd))),z,f),rfl, ?_, ?_, ?_⟩))) (fun h3=>Zb (fun h4=> .inr ⟨by simp,_,rfl, ?_⟩) (fun h4=>Zb (fun h5=> .inr ⟨by simp,_,rfl, ?_⟩) (fun h5=> .inl ⟨rfl,(IntKind.i64.wrap (k+(1:Int)),false,m,(Xi t (sub (point (ZE t)) (Zp (Zo f.s f.r (point (ZE t))).fst (Zo f.s f.r t).snd))),z,f),rfl, ?_, ?_, ?_⟩)))))⟩⟩) (fun h0=> .inr ⟨by simp,_,rfl, ?_⟩)
  case r0|r1|r2|r3=>first | rfl | (simp only[FnM.enc,dIv];rfl) | (rw[dIv];rfl)
  all_goals try dsimp only[U6]
  all_goals (obtain ⟨a1,a2,a3⟩:=hx;try simp only[Qc_,Qe_] at h0)
  all_goals (try simp only[ZcP,Zik,Ke_,Qi_,Qf_] at h1)
  all_goals (try simp only[ZcP,Zik,Ke_,Qi_,Qf_] at h3)
  all_goals (try simp only[ZcP,Zik,Ke_,Qi_,Qf_] at h4)
  all_goals obtain ⟨A,hA⟩:∃A,Yj (Zo f.s f.r) (m - k).toNat t yes=A:=⟨_,rfl⟩
  all_goals have en:=hA
  all_goals first | (rw[show (m - k).toNat=(m - (k+1)).toNat+1 by omega] at en) | (rw[show (m - k).toNat=0 by omega] at en)
  all_goals (try change ZrC _ _=_ at h4)
  all_goals (try change ZrC _ _=_ at h5)
  all_goals simp only[Yj,ZdL,ZvY] at en
  all_goals (try simp only[Qc_,Qe_] at h3)
  all_goals (try rw[QH_ h3] at en)
  all_goals (try simp only[*,QD_,Q8_,Qb_,Qd_,Q4_,Qw_,Qp_,Ql_,Qr_,Qn_] at en)
  all_goals have en:=hA.trans en.symm
  all_goals (try have hw:IntKind.i64.wrap (k+1)=k+1:=Zg (by constructor<;>omega))
  all_goals first | (exact ⟨(show 0≤IntKind.i64.wrap (k+1) by rw[hw];omega),(show IntKind.i64.wrap (k+1)≤m by rw[hw];omega),a3⟩) | (show (m - IntKind.i64.wrap (k+1)).toNat < (m - k).toNat;omega) | (simp only[U6,Jq,Zeh,Zeg,hw,en];exact fun e s h=>h) | (exact .inl ⟨by simp only[U6,Jq,en];rfl,by trivial,by (simp only[U6,Zeh,en])<;>rfl⟩) | (exact .inr ⟨by simp only[U6,Jq,en];rfl,by trivial,by (simp only[U6,Zeg,en])<;>rfl⟩)
theorem ZzE:ZF Tryz.prog [(7,Zn0)] Tryz.f178:=ZG (l:=[Zn Tryz.f178 0]) (by kernel_rfl) (Zz (i:=7) (by kernel_rfl) rfl Zxg (Zr))
def Zqp(f:FnM):=FnM.mk (Zc Iv.dec (List.map Iv.enc f.poly)) f.s f.r
def q15_11:=Iv.mk (0:Int) (0:Int) false
set_option maxHeartbeats 1000000 in
theorem ZzF(f:FnM)(t:Iv):Con Tryz.prog 178 [.agg (FnM.enc f),.agg (Iv.enc t),.v (.int .i64 20)] (.tup [.agg (Iv.enc ((solve (Zo f.s f.r) t 20).1)),.v (.int .i64 ((solve (Zo f.s f.r) t 20).2))]):=by
 refine cfL Zqo ZzE rfl ?_
 refine sxT (fun Q=>(bif !right t then Q (PV.tup [PV.agg [vI 0,vI 0,vB true],vI 0]) else (([vI 0,vI 0,vB false]=q15_11.enc)∧(([PV.lst (List.map Iv.enc f.poly),vB true,vB f.s.stop,vB f.s.bent,vI f.s.curve.lo,vI f.s.curve.hi,vB f.s.curve.no,vI f.s.conic.lo,vI f.s.conic.hi,vB f.s.conic.no,vI f.s.a4.lo,vI f.s.a4.hi,vB f.s.a4.no,vI f.s.a6.lo,vI f.s.a6.hi,vB f.s.a6.no,vI f.s.pos.lo,vI f.s.pos.hi,vB f.s.pos.no,vI f.s.open2.lo,vI f.s.open2.hi,vB f.s.open2.no,vI f.s.ratio.lo,vI f.s.ratio.hi,vB f.s.ratio.no,vI f.r.o.x.lo,vI f.r.o.x.hi,vB f.r.o.x.no,vI f.r.o.y.lo,vI f.r.o.y.hi,vB f.r.o.y.no,vI f.r.o.z.lo,vI f.r.o.z.hi,vB f.r.o.z.no,vI f.r.d.x.lo,vI f.r.d.x.hi,vB f.r.d.x.no,vI f.r.d.y.lo,vI f.r.d.y.hi,vB f.r.d.y.no,vI f.r.d.z.lo,vI f.r.d.z.hi,vB f.r.d.z.no]=(Zqp f).enc)∧((Zei (0:Int) false (20:Int) t q15_11 (Zqp f))∧(bif Jq (0:Int) false (20:Int) t q15_11 (Zqp f) then Q (PV.tup [PV.agg [vI 0,vI 0,vB true],vI (bif (Yj (Zo f.s f.r) (20:Nat) t false).fst==(1:Int) then (2:Int) else (0:Int))]) else (bif (Yj (Zo f.s f.r) (20:Nat) t false).snd.snd then Q (PV.tup [PV.agg (eIv (Yj (Zo f.s f.r) (20:Nat) t false).snd.fst),vI 1]) else Q (PV.tup [PV.agg [vI 0,vI 0,vB true],vI 0])))))))) (fun _=>by kernel_rfl) ?_
 delta Qn Zqp q15_11 eIv vI vB
 refine Zb (fun h0=>?_) (fun h0=>⟨?r1,⟨?r0,⟨?_,Zb (fun h1=>?_) (fun h1=>Zb (fun h2=>?_) (fun h2=>?_))⟩⟩⟩)
 case r0|r1=>first | rfl | (simp only[FnM.enc,dIv];rfl) | (rw[dIv];rfl)
 ·simp only[Qi_] at h0
  simp only[solve,h0,Qd_];rfl
 ·exact ⟨by decide,by decide,by decide⟩
 all_goals have e0:solve (Zo f.s f.r) t 20=ZmK (Yj (Zo f.s f.r) 20 t false):=(by simp only[Qf_] at h0;unfold solve newt;rw[h0];rfl)
 all_goals rw[e0]
 all_goals have hk:=Zfs (Zo f.s f.r) 20 t false
 all_goals change ((Yj (Zo f.s f.r) 20 t false).1 !=0)=_ at h1
 all_goals obtain ⟨A,hA⟩:∃A,Yj (Zo f.s f.r) 20 t false=A:=⟨_,rfl⟩
 all_goals rw[hA] at hk h1 ⊢
 all_goals (try rw[hA] at h2)
 all_goals unfold ZmK Zpt
 ·rcases hk with hk | hk | hk
  ·rw[hk] at h1;exact absurd h1 (by decide)
  ·rw[hk];rfl
  ·rw[hk];rfl
 ·have hk:A.1=0:=by simpa using h1
  rw[hk,h2];rfl
 ·have hk:A.1=0:=by simpa using h1
  rw[hk,h2];rfl
theorem ZBX:Zh Tryz.prog 178 ZBf:=by
 intro args r ps h hp
 unfold ZBf at h
 split at h
 ·rename_i p1 p2 p3 p4
  cases (Qa_ h)
  exact by
   have hq:=ZzF (FnM.dec p1) (⟨p2,p3,p4⟩:Iv)
   rw[←(show p1=FnM.enc (FnM.dec p1) from hp _ (by simp))] at hq
   exact hq
 ·exact absurd h (by simp)
def Zdu(s:Surf)(r:Ray):=Wc (Zl s.curve (add (add (sqr r.d.x) (sqr r.d.y)) (Zl s.conic (sqr r.d.z)))) (sub (Zl s.curve (add (add (Zl r.o.x r.d.x) (Zl r.o.y r.d.y)) (Zl s.conic (Zl (sub r.o.z s.pos) r.d.z)))) r.d.z) (sub (Zl s.curve (add (add (sqr r.o.x) (sqr r.o.y)) (Zl s.conic (sqr (sub r.o.z s.pos))))) (times (sub r.o.z s.pos) (2:Int)))
def Zg6(s:Surf)(r:Ray):=Ray.mk (V.mk r.o.x r.o.y (sub r.o.z s.pos)) r.d
def Zg7(s:Surf)(r:Ray):=solve (Zo s (Zg6 s r)) (of (IntKind.i64.wrap ((Zdu s r).fst.lo - (65536:Int))) (IntKind.i64.wrap ((Zdu s r).fst.hi+(65536:Int)))) (20:Int)
def Zqq:=[vI 0,vI 0,vB true,vI 0,vI 0,vB true,vI 0,vI 0,vB true]
def Zqr:=PV.tup [PV.agg [vI 0,vI 0,vB true],PV.agg Zqq,vI 0]
def Zxh(s:Surf)(r:Ray)(Q:PV→Prop):Prop:=bif (Zdu s r).snd !=(1:Int) then Q (PV.tup [PV.agg [vI 0,vI 0,vB true],PV.agg Zqq,vI (Zdu s r).snd]) else (bif !Yn (along (Zg6 s r) (Zdu s r).fst) then Q Zqr else Q (PV.tup [PV.agg (eIv (Zdu s r).fst),PV.agg (eV (along (Zg6 s r) (Zdu s r).fst)),vI 1]))
theorem ZBY:Zh Tryz.prog 140 ZEp:=Zi<|Zf fun s=>Zf fun r=>EZ0<|by
 refine cf0 (Za ZaG<|Za Zdn<|Za ZbV<|Za ZaH<|Za ZjL<|Za Z5X<|Za Zar<|Za ZBX<|Za Zqa<|Za ZwQ<|Za Z6p<|Za ZwP<|Ze) (fn:=Tryz.f140) rfl ?_
 refine sxT (fun Q=>(bif s.bent then (bif (Zdu s r).snd==(1:Int) then (([PV.lst [],vB true,vB s.stop,vB s.bent,vI s.curve.lo,vI s.curve.hi,vB s.curve.no,vI s.conic.lo,vI s.conic.hi,vB s.conic.no,vI s.a4.lo,vI s.a4.hi,vB s.a4.no,vI s.a6.lo,vI s.a6.hi,vB s.a6.no,vI s.pos.lo,vI s.pos.hi,vB s.pos.no,vI s.open2.lo,vI s.open2.hi,vB s.open2.no,vI s.ratio.lo,vI s.ratio.hi,vB s.ratio.no,vI r.o.x.lo,vI r.o.x.hi,vB r.o.x.no,vI r.o.y.lo,vI r.o.y.hi,vB r.o.y.no,vI (sub r.o.z s.pos).lo,vI (sub r.o.z s.pos).hi,vB (sub r.o.z s.pos).no,vI r.d.x.lo,vI r.d.x.hi,vB r.d.x.no,vI r.d.y.lo,vI r.d.y.hi,vB r.d.y.no,vI r.d.z.lo,vI r.d.z.hi,vB r.d.z.no]=(FnM.mk (Zc Iv.dec []) s (Zg6 s r)).enc)∧(bif (Zg7 s r).snd==(2:Int) then Q Zqr else (bif (Zg7 s r).snd !=(1:Int) then Q (PV.tup [PV.agg [vI 0,vI 0,vB true],PV.agg Zqq,vI (Zg7 s r).snd]) else (bif !Yn (along (Zg6 s r) (Zg7 s r).fst) then Q Zqr else Q (PV.tup [PV.agg (eIv (Zg7 s r).fst),PV.agg (eV (along (Zg6 s r) (Zg7 s r).fst)),vI 1]))))) else (Zxh s r Q)) else (Zxh s r Q))) (fun _=>by kernel_rfl) ?_
 delta Qn Zdu Zg7 Zxh Zqq Zg6 Zqr eIv eV vI vB
 refine Zb (fun h0=>Zb (fun h1=>⟨?r0,Zb (fun h2=>?_) (fun h2=>Zb (fun h3=>?_) (fun h3=>Zb (fun h4=>?_) (fun h4=>?_)))⟩) (fun h1=>Zb (fun h2=>?_) (fun h2=>Zb (fun h3=>?_) (fun h3=>?_)))) (fun h0=>Zb (fun h1=>?_) (fun h1=>Zb (fun h2=>?_) (fun h2=>?_)))
 case r0=>rfl
 all_goals rw[Z9N]
 all_goals obtain ⟨T,hT⟩:∃T,Jn s (XV s r).o r.d=T:=⟨_,rfl⟩
 all_goals have hN:T.2=1→right T.1=true:=(fun h=>by subst hT;exact Zpx h)
 all_goals rw[hT]
 all_goals simp only[Jn,ZA6,ZA7,ZA8,XV] at hT
 all_goals (try simp only[hT,bne,Ke_,Qi_,Qf_] at h1)
 all_goals (try simp only[hT,bne,Ke_,Qi_,Qf_] at h2)
 all_goals (try simp only[hT,bne,Ke_,Qi_,Qf_] at h3)
 all_goals (try simp only[hT,bne,Ke_,Qi_,Qf_] at h4)
 all_goals (try simp only[hT])
 all_goals clear hT
 all_goals (try have hb:=Y9 (hN (by simpa using h1)))
 all_goals (try simp only[Zg (show Fit (T.1.lo - 65536) by constructor<;>omega),Zg (show Fit (T.1.hi+65536) by constructor<;>omega)] at *)
 all_goals have hK:=Z1I (Zo s (XV s r)) (of (T.1.lo - 65536) (T.1.hi+65536)) 20
 all_goals simp only[ZAA,ZmM,ZdM,h0,h1,Qp_,Ql_,Qb_,Qd_]
 all_goals (try change ((solve (Zo s (XV s r)) (of (T.1.lo - 65536) (T.1.hi+65536)) 20).2==2)=_ at h2)
 all_goals (try change ((solve (Zo s (XV s r)) (of (T.1.lo - 65536) (T.1.hi+65536)) 20).2==1)=_ at h3)
 all_goals (try change (Yn (along (XV s r) (solve (Zo s (XV s r)) (of (T.1.lo - 65536) (T.1.hi+65536)) 20).1))=_ at h4)
 all_goals (try change (Yn (along (XV s r) T.1))=_ at h3)
 all_goals (try change (Yn (along (XV s r) T.1))=_ at h2)
 all_goals obtain ⟨S,hS⟩:∃S,solve (Zo s (XV s r)) (of (T.1.lo - 65536) (T.1.hi+65536)) 20=S:=⟨_,rfl⟩
 all_goals rw[hS] at hK
 all_goals have hS2:=hS
 all_goals simp only[XV] at hS2
 all_goals (try simp only[hS] at h2)
 all_goals (try simp only[hS] at h3)
 all_goals (try simp only[hS] at h4)
 all_goals (try simp only[hS,hS2])
 ·have hz:S.2=2:=by simpa using h2
  simp only[hz];rfl
 ·have hz:S.2=0:=by rcases hK with hK | hK | hK<;>first | exact hK | (rw[hK] at h2 h3;exact absurd h2 (by decide)) | (rw[hK] at h2 h3;exact absurd h3 (by decide))
  simp only[hz];rfl
 ·simp only[h3,Qb_,h4,Qd_];rfl
 ·simp only[h3,Qb_,h4];rfl
 ·rfl
 ·exact absurd (h1.symm.trans h2) (by decide)
 ·exact absurd (h1.symm.trans h2) (by decide)
 ·rfl
 ·simp only[h2,Qd_];rfl
 ·simp only[h2,Qb_];rfl
def Zae(s:Surf)(r:Ray):=bend r.d (Zch s (ZU s r).snd.fst) s.ratio
def ZlL:=[vI 0,vI 0,vB true,vI 0,vI 0,vB true,vI 0,vI 0,vB true,vI 0,vI 0,vB true,vI 0,vI 0,vB true,vI 0,vI 0,vB true]
def ZeI(s:Surf)(r:Ray):=add (ZU s r).snd.fst.z s.pos
theorem ZBZ:Zh Tryz.prog 110 ZBg:=Zi<|Zf fun s=>Zf fun r=>EZ0<|by
 refine cf0 (Za ZBY<|Za Z6q<|Za ZBF<|Za Zdn<|Za ZbV<|Za ZBB<|Za Xp<|Za ZBM<|Za ZBO<|Ze) (fn:=Tryz.f110) rfl ?_
 refine sxT (fun Q=>(((XE s)=s.enc)∧(bif (ZU s r).snd.snd !=(1:Int) then Q (PV.tup [PV.agg ZlL,vI (ZcS (ZU s r).snd.snd)]) else (bif JK (add (sqr (ZU s r).snd.fst.x) (sqr (ZU s r).snd.fst.y)) s.open2 !=(1:Int) then Q (PV.tup [PV.agg ZlL,vI (ZcS (JK (add (sqr (ZU s r).snd.fst.x) (sqr (ZU s r).snd.fst.y)) s.open2))]) else (bif !right (ZeI s r) then Q (PV.tup [PV.agg ZlL,vI 3]) else (bif s.stop then Q (PV.tup [PV.agg [vI (ZU s r).snd.fst.x.lo,vI (ZU s r).snd.fst.x.hi,vB (ZU s r).snd.fst.x.no,vI (ZU s r).snd.fst.y.lo,vI (ZU s r).snd.fst.y.hi,vB (ZU s r).snd.fst.y.no,vI (ZeI s r).lo,vI (ZeI s r).hi,vB (ZeI s r).no,vI r.d.x.lo,vI r.d.x.hi,vB r.d.x.no,vI r.d.y.lo,vI r.d.y.hi,vB r.d.y.no,vI r.d.z.lo,vI r.d.z.hi,vB r.d.z.no],vI 1]) else (((XE s)=s.enc)∧(bif (Zae s r).snd !=(1:Int) then Q (PV.tup [PV.agg ZlL,vI (ZcS (Zae s r).snd)]) else Q (PV.tup [PV.agg [vI (ZU s r).snd.fst.x.lo,vI (ZU s r).snd.fst.x.hi,vB (ZU s r).snd.fst.x.no,vI (ZU s r).snd.fst.y.lo,vI (ZU s r).snd.fst.y.hi,vB (ZU s r).snd.fst.y.no,vI (ZeI s r).lo,vI (ZeI s r).hi,vB (ZeI s r).no,vI (Zae s r).fst.x.lo,vI (Zae s r).fst.x.hi,vB (Zae s r).fst.x.no,vI (Zae s r).fst.y.lo,vI (Zae s r).fst.y.hi,vB (Zae s r).fst.y.no,vI (Zae s r).fst.z.lo,vI (Zae s r).fst.z.hi,vB (Zae s r).fst.z.no],vI 1]))))))))) (fun _=>by kernel_rfl) ?_
 delta Qn Zae ZlL ZeI XE vI vB
 refine ⟨?r1,Zb (fun h0=>?_) (fun h0=>Zb (fun h1=>?_) (fun h1=>Zb (fun h2=>?_) (fun h2=>Zb (fun h3=>?_) (fun h3=>⟨?r0,Zb (fun h4=>?_) (fun h4=>?_)⟩))))⟩
 case r0|r1=>rfl
 all_goals (try simp only[Zga,Ke_,bne,Qi_,Qf_] at *)
 all_goals simp only[goS,goA,goB,goO,Men.goP, *,Qb_,Qd_]
 all_goals first | rfl | (exact absurd (h1.symm.trans h2) (by decide)) | (simp only[nz,nzA,nz1,QE_,QN_,Iv.enc,V.enc,Ray.enc, *];done)
def ZAb:=Yy [(130,ZBd)]
def YC(i:Int)(l:List Surf):=(List.map Surf.enc l).getD i.toNat []
def Xj(i:Int)(l:List Surf)(r:Ray):=goS (Surf.dec (YC i l)) r
def Zxi(s:SysM):=[PV.lst (List.map Surf.enc s.surfs),vI s.op.lo,vI s.op.hi,vB s.op.no]
theorem Zxj:CSOk Tryz.prog ZAb:=Za ZBV<|Ze
theorem Z3r:Ye Tryz.prog (Zn Tryz.f101 0) ZsS:=by
 refine lsG Zk.Γ (Zw Zk Zxj Z4 Z3 Z7 (LS:=[]) (ZM (l:=[]) (by kernel_rfl) Zr) (n:=2000) (U6 Z5A) (U6 Zc1) (fun x e s=>((U6 Zc2 x=true∧e= .ret∧s=U6 Zlq x)∨(U6 Zc2 x=false∧e= .exit 0∧s=U6 Zlp x))) (fun x=>(x.2.1 - x.1).toNat) ZsR Z2f Z2g (fun x hx=>?_)) cv6 (fun _=>rfl) (fun _ h=>h) (fun _ _ _ _ h f=>fC h f fE fE)
 ·obtain ⟨i,n,l,z,r,s⟩:=x
  simp only[U6,Zc1] at hx
  refine sxT (fun Q=>(bif decide (i < n) then (((0:Int)≤i∧(List.map Surf.enc l)[i.toNat]?=some (ZJ [vB false,vB false,vI 0,vI 0,vB false,vI 0,vI 0,vB false,vI 0,vI 0,vB false,vI 0,vI 0,vB false,vI 0,vI 0,vB false,vI 0,vI 0,vB false,vI 0,vI 0,vB false] (YC i l)))∧(([vB (Zt ((YC i l).headD PV.nil)),vB (Zt ((YC i l).tail.headD PV.nil)),vI (intOf ((YC i l).tail.tail.headD PV.nil)),vI (intOf ((YC i l).tail.tail.tail.headD PV.nil)),vB (Zt ((YC i l).tail.tail.tail.tail.headD PV.nil)),vI (intOf ((YC i l).tail.tail.tail.tail.tail.headD PV.nil)),vI (intOf ((YC i l).tail.tail.tail.tail.tail.tail.headD PV.nil)),vB (Zt ((YC i l).tail.tail.tail.tail.tail.tail.tail.headD PV.nil)),vI (intOf ((YC i l).tail.tail.tail.tail.tail.tail.tail.tail.headD PV.nil)),vI (intOf ((YC i l).tail.tail.tail.tail.tail.tail.tail.tail.tail.headD PV.nil)),vB (Zt ((YC i l).tail.tail.tail.tail.tail.tail.tail.tail.tail.tail.headD PV.nil)),vI (intOf ((YC i l).tail.tail.tail.tail.tail.tail.tail.tail.tail.tail.tail.headD PV.nil)),vI (intOf ((YC i l).tail.tail.tail.tail.tail.tail.tail.tail.tail.tail.tail.tail.headD PV.nil)),vB (Zt ((YC i l).tail.tail.tail.tail.tail.tail.tail.tail.tail.tail.tail.tail.tail.headD PV.nil)),vI (intOf ((YC i l).tail.tail.tail.tail.tail.tail.tail.tail.tail.tail.tail.tail.tail.tail.headD PV.nil)),vI (intOf ((YC i l).tail.tail.tail.tail.tail.tail.tail.tail.tail.tail.tail.tail.tail.tail.tail.headD PV.nil)),vB (Zt ((YC i l).tail.tail.tail.tail.tail.tail.tail.tail.tail.tail.tail.tail.tail.tail.tail.tail.headD PV.nil)),vI (intOf ((YC i l).tail.tail.tail.tail.tail.tail.tail.tail.tail.tail.tail.tail.tail.tail.tail.tail.tail.headD PV.nil)),vI (intOf ((YC i l).tail.tail.tail.tail.tail.tail.tail.tail.tail.tail.tail.tail.tail.tail.tail.tail.tail.tail.headD PV.nil)),vB (Zt ((YC i l).tail.tail.tail.tail.tail.tail.tail.tail.tail.tail.tail.tail.tail.tail.tail.tail.tail.tail.tail.headD PV.nil)),vI (intOf ((YC i l).tail.tail.tail.tail.tail.tail.tail.tail.tail.tail.tail.tail.tail.tail.tail.tail.tail.tail.tail.tail.headD PV.nil)),vI (intOf ((YC i l).tail.tail.tail.tail.tail.tail.tail.tail.tail.tail.tail.tail.tail.tail.tail.tail.tail.tail.tail.tail.tail.headD PV.nil)),vB (Zt ((YC i l).tail.tail.tail.tail.tail.tail.tail.tail.tail.tail.tail.tail.tail.tail.tail.tail.tail.tail.tail.tail.tail.tail.headD PV.nil))]=(Surf.dec (YC i l)).enc)∧(bif (Xj i l r).snd !=(1:Int) then Q (Ex.ret) (some ⟨36,[(4,AV.ptr 4 0)],[(4,[vI (Xj i l r).snd,vI i,vI (Xj i l r).fst.o.x.lo,vI (Xj i l r).fst.o.x.hi,vB (Xj i l r).fst.o.x.no,vI (Xj i l r).fst.o.y.lo,vI (Xj i l r).fst.o.y.hi,vB (Xj i l r).fst.o.y.no,vI (Xj i l r).fst.o.z.lo,vI (Xj i l r).fst.o.z.hi,vB (Xj i l r).fst.o.z.no,vI (Xj i l r).fst.d.x.lo,vI (Xj i l r).fst.d.x.hi,vB (Xj i l r).fst.d.x.no,vI (Xj i l r).fst.d.y.lo,vI (Xj i l r).fst.d.y.hi,vB (Xj i l r).fst.d.y.no,vI (Xj i l r).fst.d.z.lo,vI (Xj i l r).fst.d.z.hi,vB (Xj i l r).fst.d.z.no])],[],[],[]⟩) else Q (Ex.normal) (some ⟨36,[(12,AV.p (vI (IntKind.i64.wrap (i+(1:Int))))),(11,pI n),(10,AV.p (PV.lst (List.map Surf.enc l))),(4,AV.ptr 4 0),(3,AV.ptr 3 0),(2,AV.ptr 2 0)],[(4,(Zbz z)),(3,(Jp (Xj i l r).fst)),(2,(Zxi s))],[],[],[]⟩)))) else Q (Ex.exit (0:Nat)) (some ⟨36,[(4,AV.ptr 4 0),(3,AV.ptr 3 0),(2,AV.ptr 2 0)],[(4,(Zbz z)),(3,(Jp r)),(2,(Zxi s))],[],[],[]⟩))) (fun _=>by kernel_rfl) ?_
  delta YC Xj Zxi Jp Zbz vI vB pI
  refine Zb (fun h0=>⟨?r1,⟨?r0,Zb (fun h1=> .inr ⟨by simp,_,rfl, ?_⟩) (fun h1=> .inl ⟨rfl,(IntKind.i64.wrap (i+(1:Int)),n,l,z,(goS (Surf.dec ((List.map Surf.enc l).getD i.toNat [])) r).fst,s),rfl, ?_, ?_, ?_⟩)⟩⟩) (fun h0=> .inr ⟨by simp,_,rfl, ?_⟩)
  case r0|r1=>first | rfl | (rw[Zu];done) | (simp only[SysM.enc,Zu];done) | (obtain ⟨a1,a2,a3,a4,a5⟩:=hx;simp only[Qc_] at h0;exact Z8 (fun _=>rfl) (by omega) (by omega))
  all_goals try dsimp only[U6]
  all_goals (obtain ⟨a1,a2,a3,a4,a5⟩:=hx;try simp only[Qc_,Qe_] at h0)
  all_goals first | (have hk:i < n:=h0;obtain ⟨x,t,e1,e2,e3⟩:=Yf (l:=l) a1 (by omega);simp only[Yh e3,show Surf.dec (Surf.enc x)=x from rfl,bne,Qi_,Qf_] at *;have en:Zx (l.drop i.toNat) i r=bif (goS x r).2==1 then Zx t (i+1) (goS x r).1 else ⟨(goS x r).2,i,(goS x r).1⟩:=(by rw[e1];rfl);rw[h1] at en;try simp only[Qb_] at en;try simp only[Qd_] at en) | skip
  all_goals try rw[Zg (show Fit (i+1) by constructor<;>omega)]
  all_goals try simp only[U6,Zc1,Zc2,Zlq,Zlp]
  ·exact .inl ⟨by rw[en];exact Kl_ (! ·) h1,by trivial,by rw[en];rfl⟩
  ·exact ⟨by omega,by omega,a3,a4,a5⟩
  ·omega
  ·rw[en,e2];exact fun e s h=>h
  ·exact .inr ⟨by rw[Q0_ (by omega)];rfl,by trivial,by rw[Q0_ (by omega)];rfl⟩
theorem Z62:ZF Tryz.prog [(3,ZsS)] Tryz.f101:=ZG (l:=[Zn Tryz.f101 0]) (by kernel_rfl) (Zz (i:=3) (by kernel_rfl) rfl Z3r (Zr))
def Zdv(s:SysM):=Zc Surf.dec (List.map Surf.enc s.surfs)
def X2(s:SysM)(r:Ray):=Zx (List.drop (0:Nat) (Zdv s)) (0:Int) r
def Zqs:=Iv.mk (0:Int) (0:Int) false
def Zxk:=V.mk Zqs Zqs Zqs
def q15_27:=TrRes.mk (0:Int) (0:Int) (Ray.mk Zxk Zxk)
theorem ZCa:Zh Tryz.prog 101 ZEq:=Zi<|Zf fun s=>Zf fun r=>EZ1 fun hp0=>by
 refine cfL Zxj Z62 rfl ?_
 refine sxT (fun Q=>((List.map Surf.enc s.surfs=List.map Surf.enc (Zdv s))∧(([vI 0,vI 0,vI 0,vI 0,vB false,vI 0,vI 0,vB false,vI 0,vI 0,vB false,vI 0,vI 0,vB false,vI 0,vI 0,vB false,vI 0,vI 0,vB false]=q15_27.enc)∧(((Jp r)=r.enc)∧(([PV.lst (List.map Surf.enc s.surfs),vI s.op.lo,vI s.op.hi,vB s.op.no]=(SysM.mk (Zdv s) s.op).enc)∧((Zc1 (0:Int) (↑(List.map Surf.enc s.surfs).length) (Zdv s) q15_27 r (SysM.mk (Zdv s) s.op))∧(bif Zc2 (0:Int) (↑(List.map Surf.enc s.surfs).length) (Zdv s) q15_27 r (SysM.mk (Zdv s) s.op) then Q (PV.agg (Zbz (X2 s r))) else Q (PV.agg [vI 1,vI (↑(List.map Surf.enc (Zdv s)).length),vI (X2 s r).r.o.x.lo,vI (X2 s r).r.o.x.hi,vB (X2 s r).r.o.x.no,vI (X2 s r).r.o.y.lo,vI (X2 s r).r.o.y.hi,vB (X2 s r).r.o.y.no,vI (X2 s r).r.o.z.lo,vI (X2 s r).r.o.z.hi,vB (X2 s r).r.o.z.no,vI (X2 s r).r.d.x.lo,vI (X2 s r).r.d.x.hi,vB (X2 s r).r.d.x.no,vI (X2 s r).r.d.y.lo,vI (X2 s r).r.d.y.hi,vB (X2 s r).r.d.y.no,vI (X2 s r).r.d.z.lo,vI (X2 s r).r.d.z.hi,vB (X2 s r).r.d.z.no])))))))) (fun _=>by kernel_rfl) ?_
 delta Qn X2 Zxk Zdv q15_27 Zqs Jp Zbz vI vB
 refine ⟨?r3,⟨?r2,⟨?r1,⟨?r0,⟨?_,Zb (fun h0=>?_) (fun h0=>?_)⟩⟩⟩⟩⟩
 case r0|r1|r2|r3=>first | rfl | (rw[Zu];done) | (simp only[SysM.enc,Zu];done)
 all_goals simp only[Zc1,Zc2,Zu,Qk_,QO_,QG_,bne] at *
 ·exact ⟨by omega,by omega,by trivial,hp0,by trivial⟩
 ·rfl
 ·rw[show trace s r=Zx s.surfs 0 r from rfl]
  have hp:=ZhK s.surfs 0 r (by simpa using h0)
  have hk:(Zx s.surfs 0 r).kind=1:=by simpa using h0
  simp only[nz,nzA,nz1,QE_,QN_,TrRes.enc,hp,hk,Int.zero_add]
def Z8y:=Yy [(110,ZBg),(111,ZAX)]
def Ziy(s:SysM):=List.map Surf.enc s.surfs
def Y1(i:Int)(s:SysM):=(Ziy s).getD i.toNat []
theorem Ztg:CSOk Tryz.prog Z8y:=Za ZBZ<|Za Z6q<|Ze
theorem ZzG:Ye Tryz.prog (Zn Tryz.f77 0) ZpH:=by
 refine lsG Zk.Γ (Zw Zk Ztg Z4 Z3 Z7 (LS:=[]) (ZM (l:=[]) (by kernel_rfl) Zr) (n:=2000) (U4 Z2h) (U4 Zbe) (fun x e s=>((U4 Zbf x=true∧e= .ret∧s=U4 Zj8 x)∨(U4 Zbf x=false∧e= .exit 0∧s=U4 Zj7 x))) (fun x=>(x.2.2.2.surfs.length - x.1).toNat) ZpG Zzz Zz0 (fun x hx=>?_)) cv4 (fun _=>rfl) (fun _ h=>h) (fun _ _ _ _ h f=>fC h f fE fE)
 ·obtain ⟨i,z,r,s⟩:=x
  simp only[U4,Zbe] at hx
  refine sxT (fun Q=>(bif decide (i < ↑(Ziy s).length) then (((0:Int)≤i∧(Ziy s)[i.toNat]?=some (ZJ [vB false,vB false,vI 0,vI 0,vB false,vI 0,vI 0,vB false,vI 0,vI 0,vB false,vI 0,vI 0,vB false,vI 0,vI 0,vB false,vI 0,vI 0,vB false,vI 0,vI 0,vB false] (Y1 i s)))∧(([vB (Zt ((Y1 i s).headD PV.nil)),vB (Zt ((Y1 i s).tail.headD PV.nil)),vI (intOf ((Y1 i s).tail.tail.headD PV.nil)),vI (intOf ((Y1 i s).tail.tail.tail.headD PV.nil)),vB (Zt ((Y1 i s).tail.tail.tail.tail.headD PV.nil)),vI (intOf ((Y1 i s).tail.tail.tail.tail.tail.headD PV.nil)),vI (intOf ((Y1 i s).tail.tail.tail.tail.tail.tail.headD PV.nil)),vB (Zt ((Y1 i s).tail.tail.tail.tail.tail.tail.tail.headD PV.nil)),vI (intOf ((Y1 i s).tail.tail.tail.tail.tail.tail.tail.tail.headD PV.nil)),vI (intOf ((Y1 i s).tail.tail.tail.tail.tail.tail.tail.tail.tail.headD PV.nil)),vB (Zt ((Y1 i s).tail.tail.tail.tail.tail.tail.tail.tail.tail.tail.headD PV.nil)),vI (intOf ((Y1 i s).tail.tail.tail.tail.tail.tail.tail.tail.tail.tail.tail.headD PV.nil)),vI (intOf ((Y1 i s).tail.tail.tail.tail.tail.tail.tail.tail.tail.tail.tail.tail.headD PV.nil)),vB (Zt ((Y1 i s).tail.tail.tail.tail.tail.tail.tail.tail.tail.tail.tail.tail.tail.headD PV.nil)),vI (intOf ((Y1 i s).tail.tail.tail.tail.tail.tail.tail.tail.tail.tail.tail.tail.tail.tail.headD PV.nil)),vI (intOf ((Y1 i s).tail.tail.tail.tail.tail.tail.tail.tail.tail.tail.tail.tail.tail.tail.tail.headD PV.nil)),vB (Zt ((Y1 i s).tail.tail.tail.tail.tail.tail.tail.tail.tail.tail.tail.tail.tail.tail.tail.tail.headD PV.nil)),vI (intOf ((Y1 i s).tail.tail.tail.tail.tail.tail.tail.tail.tail.tail.tail.tail.tail.tail.tail.tail.tail.headD PV.nil)),vI (intOf ((Y1 i s).tail.tail.tail.tail.tail.tail.tail.tail.tail.tail.tail.tail.tail.tail.tail.tail.tail.tail.headD PV.nil)),vB (Zt ((Y1 i s).tail.tail.tail.tail.tail.tail.tail.tail.tail.tail.tail.tail.tail.tail.tail.tail.tail.tail.tail.headD PV.nil)),vI (intOf ((Y1 i s).tail.tail.tail.tail.tail.tail.tail.tail.tail.tail.tail.tail.tail.tail.tail.tail.tail.tail.tail.tail.headD PV.nil)),vI (intOf ((Y1 i s).tail.tail.tail.tail.tail.tail.tail.tail.tail.tail.tail.tail.tail.tail.tail.tail.tail.tail.tail.tail.tail.headD PV.nil)),vB (Zt ((Y1 i s).tail.tail.tail.tail.tail.tail.tail.tail.tail.tail.tail.tail.tail.tail.tail.tail.tail.tail.tail.tail.tail.tail.headD PV.nil))]=(Surf.dec (Y1 i s)).enc)∧(bif (goS (Surf.dec (Y1 i s)) r).snd !=(1:Int) then Q (Ex.ret) (some ⟨35,[(4,AV.ptr 4 0)],[(4,[vI (goS (Surf.dec (Y1 i s)) r).snd,vI i,vI 0,vI 0,vB true,vI 0,vI 0,vB true,vI 0,vI 0,vB true,vI 0,vI 0,vB true,vI 0,vI 0,vB true,vI 0,vI 0,vB true])],[],[],[]⟩) else Q (Ex.normal) (some ⟨35,[(5,AV.p (vI (IntKind.i64.wrap (i+(1:Int))))),(4,AV.ptr 4 0),(3,AV.ptr 3 0),(2,AV.ptr 2 0)],[(4,(Zbz z)),(3,(Jp (goS (Surf.dec (Y1 i s)) r).fst)),(2,[PV.lst (Ziy s),vI s.op.lo,vI s.op.hi,vB s.op.no])],[],[],[]⟩)))) else Q (Ex.exit (0:Nat)) (some ⟨35,[(4,AV.ptr 4 0),(3,AV.ptr 3 0),(2,AV.ptr 2 0)],[(4,(Zbz z)),(3,(Jp r)),(2,[PV.lst (Ziy s),vI s.op.lo,vI s.op.hi,vB s.op.no])],[],[],[]⟩))) (fun _=>by kernel_rfl) ?_
  delta Y1 Ziy Jp Zbz vI vB
  refine Zb (fun h0=>⟨?r1,⟨?r0,Zb (fun h1=> .inr ⟨by simp,_,rfl, ?_⟩) (fun h1=> .inl ⟨rfl,(IntKind.i64.wrap (i+(1:Int)),z,(goS (Surf.dec ((List.map Surf.enc s.surfs).getD i.toNat [])) r).fst,s),rfl, ?_, ?_, ?_⟩)⟩⟩) (fun h0=> .inr ⟨by simp,_,rfl, ?_⟩)
  case r0|r1=>first | rfl | (rw[Zu];done) | (simp only[SysM.enc,Zu];done) | (obtain ⟨a1,a2,a3⟩:=hx;simp only[Qk_,Qc_] at h0;exact Z8 (fun _=>rfl) (by omega) (by omega))
  all_goals try dsimp only[U4]
  all_goals (obtain ⟨a1,a2,a3⟩:=hx;try simp only[Qk_,Qc_,Qe_] at h0)
  all_goals first | (have hk:i < s.surfs.length:=h0;obtain ⟨x,t,e1,e2,e3⟩:=Yf (l:=s.surfs) a1 (by omega);simp only[Yh e3,show Surf.dec (Surf.enc x)=x from rfl,bne,Qi_,Qf_] at *;have en:Zx (s.surfs.drop i.toNat) i r=bif (goS x r).2==1 then Zx t (i+1) (goS x r).1 else ⟨(goS x r).2,i,(goS x r).1⟩:=(by rw[e1];rfl);rw[h1] at en;try simp only[Qb_] at en;try simp only[Qd_] at en) | skip
  all_goals try rw[Zg (show Fit (i+1) by constructor<;>omega)]
  all_goals try simp only[U4,Zbe,Zbf,Zj8,Zj7,Zu]
  ·exact .inl ⟨by rw[en];exact Kl_ (! ·) h1,by trivial,by rw[en,ZAB h1];rfl⟩
  ·exact ⟨by omega,by omega,a3⟩
  ·omega
  ·rw[en,e2];exact fun e s h=>h
  ·exact .inr ⟨by rw[Q0_ (by omega)];rfl,by trivial,by rw[Q0_ (by omega)];rfl⟩
theorem Z3s:ZF Tryz.prog [(3,ZpH)] Tryz.f77:=ZG (l:=[Zn Tryz.f77 0]) (by kernel_rfl) (Zz (i:=3) (by kernel_rfl) rfl ZzG (Zr))
def Ziz(s:SysM):=Zc Surf.dec (List.map Surf.enc s.surfs)
def X3(s:SysM)(r:Ray):=Zx (List.drop (0:Nat) (Ziz s)) (0:Int) r
def Zqt:=Iv.mk (0:Int) (0:Int) false
def Zxl:=V.mk Zqt Zqt Zqt
def q15_34:=TrRes.mk (0:Int) (0:Int) (Ray.mk Zxl Zxl)
theorem Z3t:Zh Tryz.prog 77 e77:=Zi<|Zf fun s=>Zf fun r=>EZ1 fun hp0=>by
 refine cfL Ztg Z3s rfl ?_
 refine sxT (fun Q=>(([vI 0,vI 0,vI 0,vI 0,vB false,vI 0,vI 0,vB false,vI 0,vI 0,vB false,vI 0,vI 0,vB false,vI 0,vI 0,vB false,vI 0,vI 0,vB false]=q15_34.enc)∧(((Jp r)=r.enc)∧(([PV.lst (List.map Surf.enc s.surfs),vI s.op.lo,vI s.op.hi,vB s.op.no]=(SysM.mk (Ziz s) s.op).enc)∧((Zbe (0:Int) q15_34 r (SysM.mk (Ziz s) s.op))∧(bif Zbf (0:Int) q15_34 r (SysM.mk (Ziz s) s.op) then Q (PV.agg (Zbz (X3 s r))) else Q (PV.agg [vI 1,vI (↑(List.map Surf.enc (Ziz s)).length),vI (X3 s r).r.o.x.lo,vI (X3 s r).r.o.x.hi,vB (X3 s r).r.o.x.no,vI (X3 s r).r.o.y.lo,vI (X3 s r).r.o.y.hi,vB (X3 s r).r.o.y.no,vI (X3 s r).r.o.z.lo,vI (X3 s r).r.o.z.hi,vB (X3 s r).r.o.z.no,vI (X3 s r).r.d.x.lo,vI (X3 s r).r.d.x.hi,vB (X3 s r).r.d.x.no,vI (X3 s r).r.d.y.lo,vI (X3 s r).r.d.y.hi,vB (X3 s r).r.d.y.no,vI (X3 s r).r.d.z.lo,vI (X3 s r).r.d.z.hi,vB (X3 s r).r.d.z.no]))))))) (fun _=>by kernel_rfl) ?_
 delta Qn X3 Zxl Ziz q15_34 Zqt Jp Zbz vI vB
 refine ⟨?r2,⟨?r1,⟨?r0,⟨?_,Zb (fun h0=>?_) (fun h0=>?_)⟩⟩⟩⟩
 case r0|r1|r2=>first | rfl | (rw[Zu];done) | (simp only[SysM.enc,Zu];done)
 all_goals simp only[Zbe,Zbf,Zu,Qk_,QO_,QG_,bne] at *
 ·exact ⟨by omega,by omega,hp0⟩
 ·rfl
 ·rw[show trace s r=Zx s.surfs 0 r from rfl]
  have hp:=ZhK s.surfs 0 r (by simpa using h0)
  have hk:(Zx s.surfs 0 r).kind=1:=by simpa using h0
  simp only[nz,nzA,nz1,QE_,QN_,TrRes.enc,hp,hk,Int.zero_add]
end Go.Men
namespace Go.Men
open Go Go.Ev Go.Proofs Go.RowKit
theorem ZCb:Zh Tryz.prog 136 ZEr:=Zi<|Zf fun x=>EZ1 fun hn=>by
 refine Zzf (f:=136) (fun args w=>?_) _ _ ?_
 ·exact run_callFunc_extern Tryz.func136 (by kernel_rfl) (by kernel_rfl) (by kernel_rfl) (e:=Extern.MathFloor.toIntegral "math.archTrunc" .zero) (by kernel_rfl) args w
 ·unfold Zjq at hn
  show Zjm [PV.v (.float .f64 x)]=_
  unfold Zjm
  dsimp only
  split<;>simp_all[Ze6]
end Go.Men
namespace Go.Men
open Go.Ev Go.Proofs Go.Proofs.YtfeldacghdcghaaGreatDoor
theorem ZCc:Zh Tryz.prog 105 ZEs:=Zi<|Zf fun x=>EZ1 fun hp0=>by
 refine cf0 (Za ZCb<|Ze) (fn:=Tryz.f105) rfl ?_
 refine sxT (fun Q=>((Zjq x=true)∧Q (PV.v (Value.float FloatKind.f64 (Ze6 x))))) (fun _=>by kernel_rfl) ?_
 delta Qn
 refine ⟨?r0, ?_⟩
 case r0=>(first | rfl | assumption)
 all_goals rfl
theorem ZuB:Zh Tryz.prog 33 e33:=Zi<|Zf fun n=>Zf fun low=>Zf fun high=>EZ0<|by
 refine cf0 Ze (fn:=Tryz.f33) rfl ?_
 refine sxT (fun Q=>(bif decide (n≥low) then Q (vB (decide (n≤high))) else Q (vB false))) (fun _=>by kernel_rfl) ?_
 delta Qn vB
 refine Zb (fun h0=>?_) (fun h0=>?_)
 all_goals (simp only[ZX,ZC,ZB,List.foldl,Qr_,Qp_,Ql_,Qn_,Q5_,Q4_,Qw_,Q3_,Qu_,Qt_,Qb_,Qd_,QD_,Q8_, *];rfl)
theorem Z8X:Zh Tryz.prog 32 e32:=Zi<|Zf fun w=>Zf fun h=>EZ0<|by
 refine cf0 (Za ZuB<|Ze) (fn:=Tryz.f32) rfl ?_
 refine sxT (fun Q=>(bif ZX w (1:Int) (16:Int) then Q (vB (ZX h (1:Int) (16:Int))) else Q (vB false))) (fun _=>by kernel_rfl) ?_
 delta Qn vB
 refine Zb (fun h0=>?_) (fun h0=>?_)
 all_goals (simp only[YU,ZC,ZB,List.foldl,Qr_,Qp_,Ql_,Qn_,Q5_,Q4_,Qw_,Q3_,Qu_,Qt_,Qb_,Qd_,QD_,Q8_, *];rfl)
theorem ZC8:Zh Tryz.prog 95 e95:=Zi<|Zf fun s=>Zf fun n=>EZ0<|by
 refine cf0 Ze (fn:=Tryz.f95) rfl ?_
 refine sxT (fun Q=>(bif decide (↑(List.map Surf.enc s.surfs).length > (0:Int)) then (bif decide (n≥(1:Int)) then Q (vB (decide (n≤(16:Int)))) else Q (vB false)) else Q (vB false))) (fun _=>by kernel_rfl) ?_
 delta Qn vB
 refine Zb (fun h0=>Zb (fun h1=>?_) (fun h1=>?_)) (fun h0=>?_)
 all_goals first | (simp only[XZ,ZC,ZB,List.foldl,Qr_,Qp_,Ql_,Qn_,Q5_,Q4_,Qw_,Q3_,Qu_,Qt_,Qb_,Qd_,QD_,Q8_, *];first | rfl | (simp only[nz,nzA,nz1,QE_,QN_,Iv.enc,V.enc,Ray.enc, *];first | done | rfl)) | (simp_all[nz,nzA,nz1,Iv.enc,V.enc,Ray.enc,Dec.enc,Shape.enc,none',told,K6_,XZ];done)
theorem ZC9:Zh Tryz.prog 96 e96:=Zi<|Zf fun o=>Zf fun k=>Zf fun n=>EZ0<|by
 refine cf0 (Za ZjK<|Za ZB2<|Za Z2s<|Za Zg3<|Ze) (fn:=Tryz.f96) rfl ?_
 refine sxT (fun Q=>Q (PV.agg (eIv (Zp (ZcR (times o k) (times o (IntKind.i64.wrap (k+(1:Int))))) (whole n))))) (fun _=>by kernel_rfl) ?_
 delta Qn eIv vI vB
 refine ?_
 all_goals rfl
theorem ZCd:Zh Tryz.prog 108 ZEt:=Zi<|Zf fun o=>Zf fun k=>Zf fun n=>EZ0<|by
 refine cf0 (Za ZjL<|Za ZB3<|Za Z2t<|Za Zhx<|Ze) (fn:=Tryz.f108) rfl ?_
 refine sxT (fun Q=>Q (PV.agg (eIv (Zp (ZcR (times o k) (times o (IntKind.i64.wrap (k+(1:Int))))) (whole n))))) (fun _=>by kernel_rfl) ?_
 delta Qn eIv vI vB
 refine ?_
 all_goals rfl
theorem ZCA:Zh Tryz.prog 70 e70:=Zi<|Zf fun x=>EZ0<|by
 refine cf0 (Za ZCc<|Ze) (fn:=Tryz.f70) rfl ?_
 refine sxT (fun Q=>(bif FloatKind.f64.format.order x (13920626448202203136:Nat)==some Ordering.gt||FloatKind.f64.format.order x (13920626448202203136:Nat)==some Ordering.eq then (bif FloatKind.f64.format.order x (4697254411347427328:Nat)==some Ordering.lt||FloatKind.f64.format.order x (4697254411347427328:Nat)==some Ordering.eq then ((Zjq x=true)∧Q (vB (FloatKind.f64.format.order x (Ze6 x)==some Ordering.eq))) else Q (vB false)) else Q (vB false))) (fun _=>by kernel_rfl) ?_
 delta Qn vB
 refine Zb (fun h0=>Zb (fun h1=>⟨?r0, ?_⟩) (fun h1=>?_)) (fun h0=>?_)
 case r0=>(exact Z9L (c:=13920626448202203136) h0)
 ·have e0:geF x 13920626448202203136=true:=h0
  have e1:leF x 4697254411347427328=true:=h1
  simp only[JL,e0,e1,Qp_];rfl
 ·have e0:geF x 13920626448202203136=true:=h0
  have e1:leF x 4697254411347427328=false:=h1
  simp only[JL,e0,e1,Qn_,Ql_];rfl
 ·have e0:geF x 13920626448202203136=false:=h0
  simp only[JL,e0,Ql_];rfl
theorem Z8Y:Zh Tryz.prog 41 e41:=Zi<|Zf fun z=>EZ0<|by
 refine cf0 (Za ZCA<|Ze) (fn:=Tryz.f41) rfl ?_
 refine sxT (fun Q=>(bif JL z.re then Q (vB (JL z.im)) else Q (vB false))) (fun _=>by kernel_rfl) ?_
 delta Qn vB
 refine Zb (fun h0=>?_) (fun h0=>?_)
 all_goals (simp only[XC,ZC,ZB,List.foldl,Qr_,Qp_,Ql_,Qn_,Q5_,Q4_,Qw_,Q3_,Qu_,Qt_,Qb_,Qd_,QD_,Q8_, *];rfl)
def Zqu(z:Cx):=Ieee.Datum.toInt Ieee.Toward.zero (FloatKind.f64.decode z.re)
def Zqv(z:Cx):=Ieee.Datum.toInt Ieee.Toward.zero (FloatKind.f64.decode z.im)
theorem ZCB:Zh Tryz.prog 28 e28:=Zi<|Zf fun z=>Zf fun n=>EZ0<|by
 refine cf0 (Za Z8Y<|Za ZuB<|Ze) (fn:=Tryz.f28) rfl ?_
 refine sxT (fun Q=>(bif XC z then ((Ieee.Datum.toInt Ieee.Toward.zero (FloatKind.f64.decode z.re)=some ((Zqu z).getD (0:Int)))∧(((-9223372036854775808:Int)≤(Zqu z).getD (0:Int))∧(((Zqu z).getD (0:Int)≤(9223372036854775807:Int))∧(bif ZX ((Zqu z).getD (0:Int)) (IntKind.i64.wrap ((0:Int) - n)) (IntKind.i64.wrap (n - (1:Int))) then ((Ieee.Datum.toInt Ieee.Toward.zero (FloatKind.f64.decode z.im)=some ((Zqv z).getD (0:Int)))∧(((-9223372036854775808:Int)≤(Zqv z).getD (0:Int))∧(((Zqv z).getD (0:Int)≤(9223372036854775807:Int))∧Q (vB (ZX ((Zqv z).getD (0:Int)) (IntKind.i64.wrap ((0:Int) - n)) (IntKind.i64.wrap (n - (1:Int)))))))) else Q (vB false))))) else Q (vB false))) (fun _=>by kernel_rfl) ?_
 delta Qn Zqu Zqv vB
 refine Zb (fun h0=>⟨?r5,⟨?r4,⟨?r3,Zb (fun h1=>⟨?r2,⟨?r1,⟨?r0, ?_⟩⟩⟩) (fun h1=>?_)⟩⟩⟩) (fun h0=>?_)
 case r0|r1|r2|r3|r4|r5=>(first | rfl | (rw[Zu];done) | (simp only[SysM.enc,Zu];done) | exact (WW (ZdO (by simpa using h0))).1 | exact (WW (ZdO (by simpa using h0))).2.1 | exact (WW (ZdO (by simpa using h0))).2.2 | exact (WW (ZdP (by simpa using h0))).1 | exact (WW (ZdP (by simpa using h0))).2.1 | exact (WW (ZdP (by simpa using h0))).2.2)
 ·have e1:ZX (Yi z.re) (IntKind.i64.wrap (0 - n)) (IntKind.i64.wrap (n - 1))=true:=h1
  simp only[YB,h0,e1,Qp_];rfl
 ·have e1:ZX (Yi z.re) (IntKind.i64.wrap (0 - n)) (IntKind.i64.wrap (n - 1))=false:=h1
  simp only[YB,h0,e1,Ql_,Qn_];rfl
 ·simp only[YB,h0,Ql_];rfl
def Zqw(z:Cx):=Ieee.Datum.toInt Ieee.Toward.zero (FloatKind.f64.decode z.re)
def Zqx(z:Cx):=Ieee.Datum.toInt Ieee.Toward.zero (FloatKind.f64.decode z.im)
def ZjS(s:SysM):=List.map Surf.enc s.surfs
def Zdw(s:SysM)(x:Iv)(y:Iv)(z:Cx)(n:Int):=unit (V.mk (sub (edge s.op ((Zqw z).getD (0:Int)) n) x) (sub (edge s.op ((Zqx z).getD (0:Int)) n) y) (Iv.dec ((ZjS s).getD (0:Nat) []).tail.tail.tail.tail.tail.tail.tail.tail.tail.tail.tail.tail.tail.tail))
def Zqy:=PV.tup [PV.agg [vI 0,vI 0,vB false,vI 0,vI 0,vB false,vI 0,vI 0,vB false,vI 0,vI 0,vB false,vI 0,vI 0,vB false,vI 0,vI 0,vB false],vB false]
theorem ZCC:Zh Tryz.prog 66 e66:=Zi<|Zf fun s=>Zf fun x=>Zf fun y=>Zf fun z=>Zf fun n=>EZ0<|by
 refine cf0 (Za ZC8<|Za Z8Y<|Za ZC9<|Za Zhw<|Za Zel<|Za Zdl<|Za Z8V<|Za ZwO<|Ze) (fn:=Tryz.f66) rfl ?_
 refine sxT (fun Q=>(([PV.lst (ZjS s),vI s.op.lo,vI s.op.hi,vB s.op.no]=(SysM.mk (Zc Surf.dec (ZjS s)) s.op).enc)∧(bif !XZ (SysM.mk (Zc Surf.dec (ZjS s)) s.op) n then Q Zqy else (bif !XC z then Q Zqy else ((Ieee.Datum.toInt Ieee.Toward.zero (FloatKind.f64.decode z.re)=some ((Zqw z).getD (0:Int)))∧(((-9223372036854775808:Int)≤(Zqw z).getD (0:Int))∧(((Zqw z).getD (0:Int)≤(9223372036854775807:Int))∧((Ieee.Datum.toInt Ieee.Toward.zero (FloatKind.f64.decode z.im)=some ((Zqx z).getD (0:Int)))∧(((-9223372036854775808:Int)≤(Zqx z).getD (0:Int))∧(((Zqx z).getD (0:Int)≤(9223372036854775807:Int))∧(((0:Int)≤(0:Int)∧(ZjS s)[(0:Nat)]?=some (ZJ [vB false,vB false,vI 0,vI 0,vB false,vI 0,vI 0,vB false,vI 0,vI 0,vB false,vI 0,vI 0,vB false,vI 0,vI 0,vB false,vI 0,vI 0,vB false,vI 0,vI 0,vB false] ((ZjS s).getD (0:Nat) [])))∧(bif !Yn (V.mk x y (point (0:Int))) then Q Zqy else (bif !Yn (Zdw s x y z n) then Q Zqy else Q (PV.tup [PV.agg [vI x.lo,vI x.hi,vB x.no,vI y.lo,vI y.hi,vB y.no,vI (point (0:Int)).lo,vI (point (0:Int)).hi,vB (point (0:Int)).no,vI (Zdw s x y z n).x.lo,vI (Zdw s x y z n).x.hi,vB (Zdw s x y z n).x.no,vI (Zdw s x y z n).y.lo,vI (Zdw s x y z n).y.hi,vB (Zdw s x y z n).y.no,vI (Zdw s x y z n).z.lo,vI (Zdw s x y z n).z.hi,vB (Zdw s x y z n).z.no],vB true])))))))))))))) (fun _=>by kernel_rfl) ?_
 delta Qn Zdw Zqy Zqw Zqx ZjS vI vB
 refine ⟨?r7,Zb (fun h0=>?_) (fun h0=>Zb (fun h1=>?_) (fun h1=>⟨?r6,⟨?r5,⟨?r4,⟨?r3,⟨?r2,⟨?r1,⟨?r0,Zb (fun h2=>?_) (fun h2=>Zb (fun h3=>?_) (fun h3=>?_))⟩⟩⟩⟩⟩⟩⟩))⟩
 case r0|r1|r2|r3|r4|r5|r6|r7=>(first | rfl | (rw[Zu];done) | (simp only[SysM.enc,Zu];done) | exact (WW (ZdO (by simpa using h1))).1 | exact (WW (ZdO (by simpa using h1))).2.1 | exact (WW (ZdO (by simpa using h1))).2.2 | exact (WW (ZdP (by simpa using h1))).1 | exact (WW (ZdP (by simpa using h1))).2.1 | exact (WW (ZdP (by simpa using h1))).2.2 | (have hs:=Zwa (by simpa using h0);exact Z8 (fun _=>rfl) (by omega) (by simpa [Zu] using hs)))
 all_goals simp only[Zu,Qi_,Qf_] at *
 ·simp only[WD,h0,Ql_,Qd_];rfl
 ·simp only[WD,h0,h1,Qn_,Qp_,Qd_];rfl
 ·have e2:Yn (Jz s x y (Yi z.re) (Yi z.im) n).o=false:=h2
  simp only[WD,ZkV,h0,h1,e2,Qp_,Ql_,Qb_,Qd_];rfl
 ·have e2:Yn (Jz s x y (Yi z.re) (Yi z.im) n).o=true:=h2
  have e3:Yn (Jz s x y (Yi z.re) (Yi z.im) n).d=false:=h3
  simp only[WD,ZkV,h0,h1,e2,e3,Qp_,Qn_,Qb_,Qd_];rfl
 ·have e2:Yn (Jz s x y (Yi z.re) (Yi z.im) n).o=true:=h2
  have e3:Yn (Jz s x y (Yi z.re) (Yi z.im) n).d=true:=h3
  simp only[WD,ZkV,h0,h1,e2,e3,Qp_,Qb_];rfl
def Zdx(s:SysM)(x:Iv)(y:Iv)(z:Pair)(n:Int):=unit (V.mk (sub (edge s.op z.x n) x) (sub (edge s.op z.y n) y) (Iv.dec ((List.map Surf.enc s.surfs).getD (0:Nat) []).tail.tail.tail.tail.tail.tail.tail.tail.tail.tail.tail.tail.tail.tail))
def ZmX:=PV.tup [PV.agg [vI 0,vI 0,vB false,vI 0,vI 0,vB false,vI 0,vI 0,vB false,vI 0,vI 0,vB false,vI 0,vI 0,vB false,vI 0,vI 0,vB false],vB false]
theorem Z3u:Zh Tryz.prog 76 e76:=Zi<|Zf fun s=>Zf fun x=>Zf fun y=>Zf fun z=>Zf fun n=>EZ0<|by
 refine cf0 (Za ZCd<|Za ZaG<|Za Z6c<|Za ZbU<|Za ZwP<|Ze) (fn:=Tryz.f76) rfl ?_
 refine sxT (fun Q=>(bif ↑(List.map Surf.enc s.surfs).length==(0:Int) then Q ZmX else (bif decide (n < (1:Int)) then Q ZmX else (bif decide (n > (16:Int)) then Q ZmX else (((0:Int)≤(0:Int)∧(List.map Surf.enc s.surfs)[(0:Nat)]?=some (ZJ [vB false,vB false,vI 0,vI 0,vB false,vI 0,vI 0,vB false,vI 0,vI 0,vB false,vI 0,vI 0,vB false,vI 0,vI 0,vB false,vI 0,vI 0,vB false,vI 0,vI 0,vB false] ((List.map Surf.enc s.surfs).getD (0:Nat) [])))∧(bif !Yn (V.mk x y (point (0:Int))) then Q ZmX else (bif !Yn (Zdx s x y z n) then Q ZmX else Q (PV.tup [PV.agg [vI x.lo,vI x.hi,vB x.no,vI y.lo,vI y.hi,vB y.no,vI 0,vI 0,vB false,vI (Zdx s x y z n).x.lo,vI (Zdx s x y z n).x.hi,vB (Zdx s x y z n).x.no,vI (Zdx s x y z n).y.lo,vI (Zdx s x y z n).y.hi,vB (Zdx s x y z n).y.no,vI (Zdx s x y z n).z.lo,vI (Zdx s x y z n).z.hi,vB (Zdx s x y z n).z.no],vB true])))))))) (fun _=>by kernel_rfl) ?_
 delta Qn Zdx ZmX vI vB
 refine Zb (fun h0=>?_) (fun h0=>Zb (fun h1=>?_) (fun h1=>Zb (fun h2=>?_) (fun h2=>⟨?r0,Zb (fun h3=>?_) (fun h3=>Zb (fun h4=>?_) (fun h4=>?_))⟩)))
 case r0=>(first | rfl | (simp only[Qk_,Qe_] at *;have:s.surfs.length≠0:=(fun e=>by rw[e] at h0;exact absurd h0 (by decide));exact Z8 (fun _=>rfl) (by omega) (by omega)))
 all_goals simp only[Qk_,Qi_,Qf_,Qc_,Qe_] at *
 all_goals have hP:XZ s n=(decide ((0:Int) < s.surfs.length)&&decide (1≤n)&&decide (n≤16)):=rfl
 ·have h0':=eq_of_beq h0
  have e:XZ s n=false:=by rw[hP];simp only[K9_,Qe_];omega
  simp only[WE,e,Qd_];rfl
 ·have e:XZ s n=false:=by rw[hP];simp only[K9_,Qe_];omega
  simp only[WE,e,Qd_];rfl
 ·have e:XZ s n=false:=by rw[hP];simp only[K9_,Qe_];omega
  simp only[WE,e,Qd_];rfl
 all_goals have h0':(s.surfs.length:Int)≠0:=(fun e=>by rw[e] at h0;exact absurd h0 (by decide))
 all_goals have e:XZ s n=true:=(by rw[hP];simp only[Qh_,Qc_];omega)
 ·have e2:Yn (Jz s x y z.x z.y n).o=false:=h3
  simp only[WE,ZkV,e,e2,Ql_,Qb_,Qd_];rfl
 ·have e2:Yn (Jz s x y z.x z.y n).o=true:=h3
  have e3:Yn (Jz s x y z.x z.y n).d=false:=h4
  simp only[WE,ZkV,e,e2,e3,Qn_,Qb_,Qd_];rfl
 ·have e2:Yn (Jz s x y z.x z.y n).o=true:=h3
  have e3:Yn (Jz s x y z.x z.y n).d=true:=h4
  simp only[WE,ZkV,e,e2,e3,Qp_,Qb_];rfl
end Go.Men
namespace Go.Men
theorem ZCD(lo hi:Int):(of lo hi).lo≤(of lo hi).hi:=by
 unfold of
 cases h:right ⟨lo,hi,false⟩ with
 | true=>exact (Y9 h).2.2.2
 | false=>exact Int.le_refl 0
theorem Zxm(a b:Iv):(Zp a b).lo≤(Zp a b).hi:=by
 unfold Zp
 cases both a b&& !(has b 0) with
 | false=>exact Int.le_refl 0
 | true=>
   simp only[cond_true]
   unfold ends
   cases ((div a.lo b.lo false).2&&(div a.lo b.lo true).2)&&(((div a.lo b.hi false).2&&(div a.lo b.hi true).2)&&(((div a.hi b.lo false).2&&(div a.hi b.lo true).2)&&((div a.hi b.hi false).2&&(div a.hi b.hi true).2))) with
   | false=>exact Int.le_refl 0
   | true=>exact ZCD _ _
theorem Z8z(a b c:Iv):(Wc a b c).1.lo≤(Wc a b c).1.hi∧((Wc a b c).2=0∨(Wc a b c).2=1∨(Wc a b c).2=2):=by
 unfold Wc
 simp only
 cases (sub (sqr b) (Zl a c)).no with
 | true=>exact ⟨Int.le_refl 0,.inl rfl⟩
 | false=>
   cases decide ((sub (sqr b) (Zl a c)).hi < 0) with
   | true=>exact ⟨Int.le_refl 0,.inr (.inr rfl)⟩
   | false=>
     cases decide ((sub (sqr b) (Zl a c)).lo < 0) with
     | true=>exact ⟨Int.le_refl 0,.inl rfl⟩
     | false=>
       simp only[cond_false]
       have h:=Zxm c (sub (ZL (sub (sqr b) (Zl a c))) b)
       cases (Zp c (sub (ZL (sub (sqr b) (Zl a c))) b)).no with
       | true=>exact ⟨Int.le_refl 0,.inl rfl⟩
       | false=>exact ⟨h,.inr (.inl rfl)⟩
theorem ZAc(s:Shape)(r:Ray):(meet s r).1.lo≤(meet s r).1.hi∧((meet s r).2=0∨(meet s r).2=1∨(meet s r).2=2):=by
 unfold meet
 simp only
 cases s.kind==1 with
 | true=>exact Z8z _ _ _
 | false=>
   cases s.kind==2 with
   | false=>exact ⟨Int.le_refl 0,.inl rfl⟩
   | true=>
     simp only[cond_true,cond_false]
     have h:=Zxm (sub (Zj s.z) r.o.z) r.d.z
     cases (Zp (sub (Zj s.z) r.o.z) r.d.z).no with
     | true=>exact ⟨Int.le_refl 0,.inl rfl⟩
     | false=>exact ⟨h,.inr (.inl rfl)⟩
theorem Z63(s:Shape)(r:Ray):(hit s r).1.lo≤(hit s r).1.hi∧((hit s r).2=0∨(hit s r).2=1∨(hit s r).2=2):=by
 obtain ⟨h1,h2⟩:=ZAc s r
 unfold hit
 cases !((meet s r).2==1) with
 | true=>exact ⟨Int.le_refl 0,h2⟩
 | false=>
   cases decide ((meet s r).1.hi≤0) with
   | true=>exact ⟨Int.le_refl 0,.inr (.inr rfl)⟩
   | false=>
     cases decide ((meet s r).1.lo≤0) with
     | true=>exact ⟨Int.le_refl 0,.inl rfl⟩
     | false=>exact ⟨h1,.inr (.inl rfl)⟩
def Zck(r:Ray):List Shape→Int→List (Int×Iv)
 | [],_=>[]
 | s::l,k=>bif (hit s r).2==1 then (k,(hit s r).1)::Zck r l (k+1) else Zck r l (k+1)
theorem Z0E(r:Ray):∀(l:List Shape) (k:Int),XU r l=(Zck r l k).map (·.2)
 | [],_=>rfl
 | s::l,k=>by
   simp only[XU,Zck]
   cases (hit s r).2==1<;>simp only[cond_true,cond_false,List.map_cons,←Z0E r l (k+1)]
theorem Z0F(r:Ray):∀(l:List Shape) (k:Int),JJ r l k=(Zck r l k).map (fun p=>⟨p.1⟩)
 | [],_=>rfl
 | s::l,k=>by
   simp only[JJ,Zck]
   cases (hit s r).2==1<;>simp only[cond_true,cond_false,List.map_cons,Z0F r l (k+1)]
theorem Z0G(r:Ray):∀(l:List Shape) (k:Int),0≤k→∀p∈Zck r l k,0≤p.1∧p.2.lo≤p.2.hi
 | [],_,_,p,hp=>absurd hp (by simp[Zck])
 | s::l,k,hk,p,hp=>by
   have ih:=Z0G r l (k+1) (by omega)
   simp only[Zck] at hp
   cases e:(hit s r).2==1 with
   | true=>
     rw[e,cond_true] at hp
     rcases List.mem_cons.1 hp with rfl | hp
     ·exact ⟨hk,(Z63 s r).1⟩
     ·exact ih p hp
   | false=>rw[e,cond_false] at hp;exact ih p hp
def WH:List (Int×Iv)→Int→Iv→Int×Iv
 | [],b,a=>(b,a)
 | p::l,b,a=>bif decide (b < 0)||decide (p.2.hi < a.hi) then WH l p.1 p.2 else WH l b a
theorem Zth(r:Ray):∀(l:List Shape) (k b:Int) (a:Iv) (all:List Iv),unsure r l=false→
 YF r l k b a all=((WH (Zck r l k) b a).1,(WH (Zck r l k) b a).2,all++(Zck r l k).map (·.2))
 | [],_,_,_,_,_=>by simp[YF,Zck,WH]
 | s::l,k,b,a,all,h=>by
   simp only[unsure,List.any_cons,Bool.or_eq_false_iff] at h
   have ih:=fun b a all=>Zth r l (k+1) b a all h.2
   have h0:(hit s r).2≠0:=by simpa using h.1
   simp only[YF,Zck]
   rcases (Z63 s r).2 with e | e | e
   ·exact absurd e h0
   ·rw[show ((hit s r).2==2)=false by rw[e];rfl,show ((hit s r).2==1)=true by rw[e];rfl]
    simp only[cond_true,cond_false,WH,List.map_cons]
    cases decide (b < 0)||decide ((hit s r).1.hi < a.hi)<;>simp only[cond_true,cond_false,ih,List.append_assoc,List.cons_append,List.nil_append]
   ·rw[show ((hit s r).2==2)=true by rw[e];rfl,show ((hit s r).2==1)=false by rw[e];rfl]
    simp only[cond_true,cond_false,ih]
theorem ZlM:∀(l:List (Int×Iv)) (b:Int) (a:Iv),0≤b→(∀p∈l,0≤p.1)→
 0≤(WH l b a).1∧(WH l b a).2.hi≤a.hi∧(∀p∈l,(WH l b a).2.hi≤p.2.hi)∧(WH l b a=(b,a)∨∃m:Nat,l[m]?=some (WH l b a))
 | [],b,a,hb,_=>⟨hb,Int.le_refl _,fun p hp=>absurd hp (by simp),.inl rfl⟩
 | p::l,b,a,hb,hp=>by
   have hp':∀q∈l,0≤q.1:=fun q hq=>hp q (List.mem_cons_of_mem _ hq)
   have n:decide (b < 0)=false:=by simp;omega
   simp only[WH,n,Bool.false_or]
   cases e:decide (p.2.hi < a.hi) with
   | true=>
     simp only[decide_eq_true_eq] at e
     obtain ⟨h1,h2,h3,h4⟩:=ZlM l p.1 p.2 (hp p List.mem_cons_self) hp'
     refine ⟨h1,by simp only[cond_true];omega,fun q hq=>?_,.inr ?_⟩
     ·rcases List.mem_cons.1 hq with rfl | hq
      ·exact h2
      ·exact h3 q hq
     ·rcases h4 with h4 | ⟨m,hm⟩
      ·exact ⟨0,by simp only[cond_true];rw[h4];rfl⟩
      ·exact ⟨m+1,by simpa using hm⟩
   | false=>
     simp only[decide_eq_false_iff_not] at e
     obtain ⟨h1,h2,h3,h4⟩:=ZlM l b a hb hp'
     refine ⟨h1,h2,fun q hq=>?_, ?_⟩
     ·rcases List.mem_cons.1 hq with rfl | hq
      ·simp only[cond_false];omega
      ·exact h3 q hq
     ·rcases h4 with h4 | ⟨m,hm⟩
      ·exact .inl h4
      ·exact .inr ⟨m+1,by simpa using hm⟩
theorem Zti(a:Iv):∀(l:List Iv) (m:Nat) (t:Iv),l[m]?=some t→¬a.hi < t.lo→(∀(n:Nat) (x:Iv),l[n]?=some x→n≠m→a.hi < x.lo)→behind a l+1=l.length
 | [],m,t,h,_,_=>absurd h (by simp)
 | x::l,0,t,h,ht,ha=>by
   have:∀(l:List Iv),(∀(n:Nat) (x:Iv),l[n]?=some x→a.hi < x.lo)→behind a l=l.length:=by
    intro l
    induction l with
    | nil=>intro _;rfl
    | cons y l ih=>
      intro hy
      have:=hy 0 y rfl
      simp only[behind,this,decide_true,cond_true,ih (fun n x hx=>hy (n+1) x (by simpa using hx)),List.length_cons]
      omega
   have e:x=t:=by simpa using h
   subst e
   simp only[behind,ht,decide_false,cond_false,this l (fun n x hx=>ha (n+1) x (by simpa using hx) (by omega)),List.length_cons]
   omega
 | x::l,m+1,t,h,ht,ha=>by
   have ih:=Zti a l m t (by simpa using h) ht (fun n x hx hn=>ha (n+1) x (by simpa using hx) (by omega))
   have:=ha 0 x rfl (by omega)
   simp only[behind,this,decide_true,cond_true,List.length_cons]
   omega
theorem ZjT(a:Iv):∀(l:List Iv) (m:Nat) (t:Iv),l[m]?=some t→¬a.hi < t.lo→behind a l+1≤l.length
 | [],m,t,h,_=>absurd h (by simp)
 | x::l,0,t,h,ht=>by
   have e:x=t:=by simpa using h
   subst e
   have:=(ZkU a l).2
   simp only[behind,ht,decide_false,cond_false,List.length_cons]
   omega
 | x::l,m+1,t,h,ht=>by
   have ih:=ZjT a l m t (by simpa using h) ht
   simp only[behind,List.length_cons]
   cases decide (a.hi < x.lo)<;>simp only[cond_true,cond_false]<;>omega
theorem Zqz(a:Iv):∀(l:List Iv) (m k:Nat) (t u:Iv),l[m]?=some t→¬a.hi < t.lo→l[k]?=some u→¬a.hi < u.lo→m≠k→behind a l+2≤l.length
 | [],m,_,t,_,h,_,_,_,_=>absurd h (by simp)
 | x::l,0,0,_,_,_,_,_,_,hn=>absurd rfl hn
 | x::l,0,k+1,t,u,h,ht,hk,hu,_=>by
   have e:x=t:=by simpa using h
   subst e
   have:=ZjT a l k u (by simpa using hk) hu
   simp only[behind,ht,decide_false,cond_false,List.length_cons]
   omega
 | x::l,m+1,0,t,u,h,ht,hk,hu,_=>by
   have e:x=u:=by simpa using hk
   subst e
   have:=ZjT a l m t (by simpa using h) ht
   simp only[behind,hu,decide_false,cond_false,List.length_cons]
   omega
 | x::l,m+1,k+1,t,u,h,ht,hk,hu,hn=>by
   have ih:=Zqz a l m k t u (by simpa using h) ht (by simpa using hk) hu (by omega)
   simp only[behind,List.length_cons]
   cases decide (a.hi < x.lo)<;>simp only[cond_true,cond_false]<;>omega
theorem Zg8{h i:Int}:∀{l:List Iv} {k:Int},XQ h i l k=true→∀(n:Nat) (t:Iv),l[n]?=some t→k+n=i∨h < t.lo
 | [],_,_,n,t,ht=>absurd ht (by simp)
 | x::l,k,e,n,t,ht=>by
   simp only[XQ,Bool.and_eq_true,Bool.or_eq_true,beq_iff_eq,decide_eq_true_eq] at e
   cases n with
   | zero=>
     have:x=t:=by simpa using ht
     subst this
     rcases e.1 with h1 | h1
     ·exact .inl (by simpa using h1)
     ·exact .inr h1
   | succ n=>
     rcases Zg8 e.2 n t (by simpa using ht) with h1 | h1
     ·exact .inl (by rw[←h1];push_cast;omega)
     ·exact .inr h1
theorem Zko{h i:Int}:∀{l:List Iv} {k:Int},XQ h i l k=false→∃(n:Nat) (t:Iv),l[n]?=some t∧k+n≠i∧¬h < t.lo
 | [],_,e=>absurd e (by simp[XQ])
 | x::l,k,e=>by
   simp only[XQ,Bool.and_eq_false_iff,Bool.or_eq_false_iff,beq_eq_false_iff_ne,decide_eq_false_iff_not] at e
   rcases e with e | e
   ·exact ⟨0,x,rfl,by simpa using e.1,e.2⟩
   ·obtain ⟨n,t,h1,h2,h3⟩:=Zko e
    exact ⟨n+1,t,by simpa using h1,fun h4=>h2 (by rw[←h4];push_cast;omega),h3⟩
theorem Ztj{ts:List Iv}:∀{la:List I} {lt:List Iv} {i:Int} {q:Int×Iv},XB ts la lt i=some q→∃n:Nat,la[n]?=some ⟨q.1⟩∧lt[n]?=some q.2∧XQ q.2.hi (i+n) ts 0=true
 | [],_,_,_,h=>absurd h (by simp[XB])
 | _::_,[],_,_,h=>absurd h (by simp[XB])
 | a::la,t::lt,i,q,h=>by
   simp only[XB] at h
   cases e:XQ t.hi i ts 0 with
   | true=>
     rw[e,cond_true] at h
     cases Option.some.inj h
     exact ⟨0,rfl,rfl,by simpa using e⟩
   | false=>
     rw[e,cond_false] at h
     obtain ⟨n,h1,h2,h3⟩:=Ztj h
     exact ⟨n+1,by simpa using h1,by simpa using h2,by rw[show i+((n+1:Nat):Int)=i+1+n by push_cast;omega];exact h3⟩
theorem Ztk{ts:List Iv}:∀{la:List I} {lt:List Iv} {i:Int},la.length=lt.length→XB ts la lt i=none→∀(n:Nat) t,lt[n]?=some t→XQ t.hi (i+n) ts 0=false
 | [],[],_,_,_,n,t,ht=>absurd ht (by simp)
 | [],_::_,_,hl,_,_,_,_=>absurd hl (by simp)
 | _::_,[],_,hl,_,_,_,_=>absurd hl (by simp)
 | a::la,x::lt,i,hl,h,n,t,ht=>by
   simp only[XB] at h
   cases e:XQ x.hi i ts 0 with
   | true=>rw[e,cond_true] at h;exact absurd h (by simp)
   | false=>
     rw[e,cond_false] at h
     cases n with
     | zero=>
       have:x=t:=by simpa using ht
       subst this
       simpa using e
     | succ n=>
       have:=Ztk (by simpa using hl) h n t (by simpa using ht)
       rw[show i+((n+1:Nat):Int)=i+1+n by push_cast;omega]
       exact this
theorem Wz(l:List Shape)(r:Ray):Wj l r=nearest l r:=by
 unfold Wj nearest
 cases hu:unsure r l with
 | true=>rfl
 | false=>
   simp only[cond_false]
   rw[Zth r l 0 (-1) none' [] hu,Z0E r l 0,Z0F r l 0]
   have hok:=Z0G r l 0 (Int.le_refl 0)
   generalize Zck r l 0=hs at hok
   simp only[List.nil_append]
   cases hs with
   | nil=>rfl
   | cons p hs=>
     have hb:WH (p::hs) (-1) none'=WH hs p.1 p.2:=rfl
     obtain ⟨h1,h2,h3,h4⟩:=ZlM hs p.1 p.2 (hok p List.mem_cons_self).1 (fun q hq=>(hok q (List.mem_cons_of_mem _ hq)).1)
     rw[hb]
     generalize WH hs p.1 p.2=B at h1 h2 h3 h4
     have hB:∃m:Nat,(p::hs)[m]?=some B:=by
      rcases h4 with h4 | ⟨m,hm⟩
      ·exact ⟨0,by rw[h4];rfl⟩
      ·exact ⟨m+1,by simpa using hm⟩
     have hmin:∀q∈p::hs,B.2.hi≤q.2.hi:=fun q hq=>by
      rcases List.mem_cons.1 hq with rfl | hq
      ·exact h2
      ·exact h3 q hq
     clear h2 h3 h4 hb
     obtain ⟨m,hm⟩:=hB
     have hne:((p::hs).map (·.2)).length≠0:=by simp
     generalize hL:p::hs=L at *
     have hBmem:B∈L:=List.mem_of_getElem? hm
     have hmt:(L.map (·.2))[m]?=some B.2:=by rw[List.getElem?_map,hm];rfl
     have hself:¬B.2.hi < B.2.lo:=by have:=(hok B hBmem).2;omega
     rw[show ((L.map (·.2)).length==0)=false by simpa using hne,show decide (B.1 < 0)=false by simp;omega]
     simp only[cond_false]
     cases hp:XB (L.map (·.2)) (L.map fun p=>(⟨p.1⟩:I)) (L.map (·.2)) 0 with
     | none=>
       have hf:=Ztk (by simp) hp m B.2 hmt
       obtain ⟨k,u,k1,k2,k3⟩:=Zko hf
       have:=Zqz B.2 _ m k B.2 u hmt hself k1 k3 (fun e=>k2 (by rw[e]))
       rw[show decide (behind B.2 (L.map (·.2))+1 < ((L.map (·.2)).length:Int))=true by simp only[decide_eq_true_eq];omega]
       rfl
     | some q=>
       obtain ⟨n,k1,k2,k3⟩:=Ztj hp
       have hq:L[n]?=some q:=by
        rw[List.getElem?_map] at k1 k2
        cases e:L[n]? with
        | none=>rw[e] at k1;exact absurd k1 (by simp)
        | some v=>
          rw[e] at k1 k2
          obtain ⟨v1,v2⟩:=v
          obtain ⟨q1,q2⟩:=q
          simp at k1 k2
          rw[k1,k2]
       have hnm:n=m:=by
        rcases Nat.decEq n m with e | e
        ·rcases Zg8 k3 m B.2 hmt with h5 | h5
         ·omega
         ·have h6:=hmin q (List.mem_of_getElem? hq)
          have h7:=(hok B hBmem).2
          omega
        ·exact e
       subst hnm
       have e:q=B:=by rw[hq] at hm;exact Option.some.inj hm
       subst e
       have:=Zti q.2 _ n q.2 hmt hself (fun k x hx hk=>by
        rcases Zg8 k3 k x hx with h5 | h5
        ·omega
        ·exact h5)
       rw[show decide (behind q.2 (L.map (·.2))+1 < ((L.map (·.2)).length:Int))=false by simp only[decide_eq_false_iff_not];omega]
       rfl
open Go.Ev Go.Proofs Go.Proofs.YtfeldacghdcghaaGreatDoor
def Zq0(s:SysM):=SysM.mk (Zc Surf.dec (List.map Surf.enc s.surfs)) s.op
def ZmY(s:SysM)(l:List Shape)(r:Ray):=nearest (Zc Shape.dec (List.map Shape.enc l)) (Men.trace (Zq0 s) r).r
def Zq1(s:SysM)(l:List Shape)(r:Ray):=(List.map Shape.enc l).getD (ZmY s l r).fst.toNat []
def Z3v(s:SysM)(l:List Shape)(r:Ray):=[vI (intOf ((Zq1 s l r).tail.tail.tail.tail.tail.tail.tail.tail.tail.headD PV.nil)),vI (intOf ((Zq1 s l r).tail.tail.tail.tail.tail.tail.tail.tail.tail.tail.headD PV.nil)),vI (intOf ((Zq1 s l r).tail.tail.tail.tail.tail.tail.tail.tail.tail.tail.tail.headD PV.nil))]
def Z3w(s:SysM)(l:List Shape)(r:Ray):=(0:Int)≤(ZmY s l r).fst∧(List.map Shape.enc l)[(ZmY s l r).fst.toNat]?=some (ZJ [vI 0,vI 0,vI 0,vI 0,vI 0,vI 0,vI 0,vI 0,vI 0,vI 0,vI 0,vI 0] (Zq1 s l r))
def Zf3:=[vI 0,vI 0,vI 0]
theorem ZCE:Zh Tryz.prog 67 e67:=Zi<|Zf fun s=>Zf fun l=>Zf fun r=>EZ1 fun hp0=>by
 refine cf0 (Za ZCa<|Za ZB1<|Ze) (fn:=Tryz.f67) rfl ?_
 refine sxT (fun Q=>(([PV.lst (List.map Surf.enc s.surfs),vI s.op.lo,vI s.op.hi,vB s.op.no]=(Zq0 s).enc)∧(((Zc Surf.dec (List.map Surf.enc s.surfs)).length≤(1000000:Nat))∧(bif (Men.trace (Zq0 s) r).kind==(2:Int) then Q (PV.tup [PV.agg Zf3,PV.agg Zf3,vB false]) else (bif (Men.trace (Zq0 s) r).kind==(3:Int) then Q (PV.tup [PV.agg Zf3,PV.agg Zf3,vB true]) else ((List.map Shape.enc l=List.map Shape.enc (Zc Shape.dec (List.map Shape.enc l)))∧(((Zc Shape.dec (List.map Shape.enc l)).length≤(1000000:Nat))∧(bif (ZmY s l r).snd.snd==(1:Int) then ((Z3w s l r)∧((Z3w s l r)∧Q (PV.tup [PV.agg (Z3v s l r),PV.agg (Z3v s l r),vB false]))) else (bif (ZmY s l r).snd.snd==(2:Int) then Q (PV.tup [PV.agg Zf3,PV.agg Zf3,vB false]) else Q (PV.tup [PV.agg Zf3,PV.agg Zf3,vB true])))))))))) (fun _=>by kernel_rfl) ?_
 delta Qn ZmY Z3v Z3w Zq0 Zq1 Zf3 vI vB
 refine ⟨?r5,⟨?r4,Zb (fun h0=>?_) (fun h0=>Zb (fun h1=>?_) (fun h1=>⟨?r3,⟨?r2,Zb (fun h2=>⟨?r1,⟨?r0, ?_⟩⟩) (fun h2=>Zb (fun h3=>?_) (fun h3=>?_))⟩⟩))⟩⟩
 case r0|r1|r2|r3|r4|r5=>(first | rfl | (exact ⟨by decide,by decide⟩) | (rw[Zm];done) | (rw[Zu];done) | (simp only[SysM.enc,Zu];done) | (try simp only[Zu,Zm,Wz,show (⟨s.surfs,s.op⟩:SysM)=s from rfl] at *;first | rfl | exact hp0.1 | exact hp0.2 | (have hk:=Zfr h2;exact Z8 (fun _=>rfl) hk.1 hk.2)))
 all_goals simp only[Zu,Zm,Wz,show (⟨s.surfs,s.op⟩:SysM)=s from rfl] at *
 ·simp only[Yz,h0,Qb_];rfl
 ·simp only[Yz,h0,h1,Qb_,Qd_];rfl
 ·simp only[Yz,h0,h1,h2,Qb_,Qd_];rfl
 ·simp only[Yz,h0,h1,h2,h3,Qb_,Qd_];rfl
 ·simp only[Yz,h0,h1,h2,h3,Qd_];rfl
def ZeJ(l:List Shape):=List.map Shape.enc l
def Zen(s:SysM):=SysM.mk (Zc Surf.dec (List.map Surf.enc s.surfs)) s.op
def Zhz(s:SysM)(l:List Shape)(x:Iv)(y:Iv)(z:Pair)(n:Int):=Wj (Zc Shape.dec (ZeJ l)) (Men.trace (Zen s) (WE (Zen s) x y z n).fst).r
def Z3x(s:SysM)(l:List Shape)(x:Iv)(y:Iv)(z:Pair)(n:Int):=(0:Int)≤(Zhz s l x y z n).fst∧(ZeJ l)[(Zhz s l x y z n).fst.toNat]?=some (ZJ [vI 0,vI 0,vI 0,vI 0,vI 0,vI 0,vI 0,vI 0,vI 0,vI 0,vI 0,vI 0] ((ZeJ l).getD (Zhz s l x y z n).fst.toNat []))
def Zxn(s:SysM):=[PV.lst (List.map Surf.enc s.surfs),vI s.op.lo,vI s.op.hi,vB s.op.no]
def Zq2:=PV.tup [vI 0,vI 255,vB true]
theorem Z3y(s:SysM)(l:List Shape)(x:Iv)(y:Iv)(z:Pair)(n:Int)(hp0:s.surfs.length≤1000000∧l.length≤1000000):Con Tryz.prog 47 [.agg (SysM.enc s),.lst (l.map Shape.enc),.agg (Iv.enc x),.agg (Iv.enc y),.agg (Pair.enc z),.v (.int .i64 n),.v (.int .i64 0)] (.tup [.v (.int .i64 ((Yc s l x y z n 0).1)),.v (.int .i64 ((Yc s l x y z n 0).2.1)),.v (.bool ((Yc s l x y z n 0).2.2))]):=by
 refine cf0 (Za Z3u<|Za Z3t<|Za Z3f<|Ze) (fn:=Tryz.f47) rfl ?_
 refine sxT (fun Q=>(((Zxn s)=(Zen s).enc)∧(((Zfv z)=z.enc)∧(bif !(WE (Zen s) x y z n).snd then Q Zq2 else (((Zxn s)=(Zen s).enc)∧(((Zc Surf.dec (List.map Surf.enc s.surfs)).length≤(1000000:Nat))∧(bif (Men.trace (Zen s) (WE (Zen s) x y z n).fst).kind==(2:Int) then Q (PV.tup [vI 0,vI 0,vB false]) else (bif (Men.trace (Zen s) (WE (Zen s) x y z n).fst).kind==(3:Int) then Q Zq2 else ((List.map Shape.enc l=List.map Shape.enc (Zc Shape.dec (ZeJ l)))∧(((Zc Shape.dec (ZeJ l)).length≤(1000000:Nat))∧(bif (Zhz s l x y z n).snd.snd==(1:Int) then ((Z3x s l x y z n)∧(((0:Int)≤(0:Int)∧(0:Int) < (3:Int))∧((Z3x s l x y z n)∧(((0:Int)≤(0:Int)∧(0:Int) < (3:Int))∧Q (PV.tup [vI (intOf (((ZeJ l).getD (Zhz s l x y z n).fst.toNat []).tail.tail.tail.tail.tail.tail.tail.tail.tail.headD PV.nil)),vI (intOf (((ZeJ l).getD (Zhz s l x y z n).fst.toNat []).tail.tail.tail.tail.tail.tail.tail.tail.tail.headD PV.nil)),vB false]))))) else (bif (Zhz s l x y z n).snd.snd==(2:Int) then Q (PV.tup [vI 0,vI 0,vB false]) else Q Zq2)))))))))))) (fun _=>by kernel_rfl) ?_
 delta Qn Zhz Zen Z3x ZeJ Zxn Zq2 Zfv vI vB
 refine ⟨?r9,⟨?r8,Zb (fun h0=>?_) (fun h0=>⟨?r7,⟨?r6,Zb (fun h1=>?_) (fun h1=>Zb (fun h2=>?_) (fun h2=>⟨?r5,⟨?r4,Zb (fun h3=>⟨?r3,⟨?r2,⟨?r1,⟨?r0, ?_⟩⟩⟩⟩) (fun h3=>Zb (fun h4=>?_) (fun h4=>?_))⟩⟩))⟩⟩)⟩⟩
 case r0|r1|r2|r3|r4|r5|r6|r7|r8|r9=>(first | rfl | (exact ⟨by decide,by decide⟩) | (rw[Zm];done) | (rw[Zu];done) | (simp only[SysM.enc,Zu];done) | (try simp only[Zu,Zm,Wz,show (⟨s.surfs,s.op⟩:SysM)=s from rfl] at *;first | rfl | exact hp0.1 | exact hp0.2 | (have hk:=Zfr h3;exact Z8 (fun _=>rfl) hk.1 hk.2)))
 all_goals simp only[Zu,Zm,Wz,show (⟨s.surfs,s.op⟩:SysM)=s from rfl] at *
 all_goals simp only[Qi_,Qf_] at h0
 ·simp only[Yc,h0,Qd_];rfl
 ·simp only[Yc,XS,Yz,h0,h1,Qb_,Qd_];rfl
 ·simp only[Yc,XS,Yz,h0,h1,h2,Qb_,Qd_];rfl
 ·simp only[Yc,XS,Yz,h0,h1,h2,h3,Qb_,Qd_];rfl
 ·simp only[Yc,XS,Yz,h0,h1,h2,h3,h4,Qb_,Qd_];rfl
 ·simp only[Yc,XS,Yz,h0,h1,h2,h3,h4,Qb_,Qd_];rfl
theorem Z3z:Zh Tryz.prog 47 Zob:=by
 intro args r ps h hp
 unfold Zob at h
 split at h
 ·rename_i p1 p2 p3 p4 p5 p6 p7 p8 p9 p10
  cases (Qa_ h)
  exact by
   have hq:=Z3y (SysM.dec p1) (Zc Shape.dec p2) (⟨p3,p4,p5⟩:Iv) (⟨p6,p7,p8⟩:Iv) (Pair.dec p9) p10 (hp _ (by simp))
   rw[←(show p1=SysM.enc (SysM.dec p1) from hp _ (by simp))] at hq
   rw[←(show p2=(Zc Shape.dec p2).map Shape.enc from hp _ (by simp))] at hq
   rw[←(show p9=Pair.enc (Pair.dec p9) from hp _ (by simp))] at hq
   exact hq
 ·exact absurd h (by simp)
def ZeK(l:List Shape):=List.map Shape.enc l
def Zb4(s:SysM):=SysM.mk (Zc Surf.dec (List.map Surf.enc s.surfs)) s.op
def ZeL(s:SysM)(l:List Shape)(x:Iv)(y:Iv)(z:Pair)(n:Int):=Wj (Zc Shape.dec (ZeK l)) (Men.trace (Zb4 s) (WE (Zb4 s) x y z n).fst).r
def Zxo(s:SysM)(l:List Shape)(x:Iv)(y:Iv)(z:Pair)(n:Int):=(0:Int)≤(ZeL s l x y z n).fst∧(ZeK l)[(ZeL s l x y z n).fst.toNat]?=some (ZJ [vI 0,vI 0,vI 0,vI 0,vI 0,vI 0,vI 0,vI 0,vI 0,vI 0,vI 0,vI 0] ((ZeK l).getD (ZeL s l x y z n).fst.toNat []))
def Zxp(s:SysM):=[PV.lst (List.map Surf.enc s.surfs),vI s.op.lo,vI s.op.hi,vB s.op.no]
def Zq3:=PV.tup [vI 0,vI 255,vB true]
theorem Z30(s:SysM)(l:List Shape)(x:Iv)(y:Iv)(z:Pair)(n:Int)(hp0:s.surfs.length≤1000000∧l.length≤1000000):Con Tryz.prog 47 [.agg (SysM.enc s),.lst (l.map Shape.enc),.agg (Iv.enc x),.agg (Iv.enc y),.agg (Pair.enc z),.v (.int .i64 n),.v (.int .i64 1)] (.tup [.v (.int .i64 ((Yc s l x y z n 1).1)),.v (.int .i64 ((Yc s l x y z n 1).2.1)),.v (.bool ((Yc s l x y z n 1).2.2))]):=by
 refine cf0 (Za Z3u<|Za Z3t<|Za Z3f<|Ze) (fn:=Tryz.f47) rfl ?_
 refine sxT (fun Q=>(((Zxp s)=(Zb4 s).enc)∧(((Zfv z)=z.enc)∧(bif !(WE (Zb4 s) x y z n).snd then Q Zq3 else (((Zxp s)=(Zb4 s).enc)∧(((Zc Surf.dec (List.map Surf.enc s.surfs)).length≤(1000000:Nat))∧(bif (Men.trace (Zb4 s) (WE (Zb4 s) x y z n).fst).kind==(2:Int) then Q (PV.tup [vI 0,vI 0,vB false]) else (bif (Men.trace (Zb4 s) (WE (Zb4 s) x y z n).fst).kind==(3:Int) then Q Zq3 else ((List.map Shape.enc l=List.map Shape.enc (Zc Shape.dec (ZeK l)))∧(((Zc Shape.dec (ZeK l)).length≤(1000000:Nat))∧(bif (ZeL s l x y z n).snd.snd==(1:Int) then ((Zxo s l x y z n)∧(((0:Int)≤(1:Int)∧(1:Int) < (3:Int))∧((Zxo s l x y z n)∧(((0:Int)≤(1:Int)∧(1:Int) < (3:Int))∧Q (PV.tup [vI (intOf (((ZeK l).getD (ZeL s l x y z n).fst.toNat []).tail.tail.tail.tail.tail.tail.tail.tail.tail.tail.headD PV.nil)),vI (intOf (((ZeK l).getD (ZeL s l x y z n).fst.toNat []).tail.tail.tail.tail.tail.tail.tail.tail.tail.tail.headD PV.nil)),vB false]))))) else (bif (ZeL s l x y z n).snd.snd==(2:Int) then Q (PV.tup [vI 0,vI 0,vB false]) else Q Zq3)))))))))))) (fun _=>by kernel_rfl) ?_
 delta Qn ZeL Zb4 Zxo ZeK Zxp Zq3 Zfv vI vB
 refine ⟨?r9,⟨?r8,Zb (fun h0=>?_) (fun h0=>⟨?r7,⟨?r6,Zb (fun h1=>?_) (fun h1=>Zb (fun h2=>?_) (fun h2=>⟨?r5,⟨?r4,Zb (fun h3=>⟨?r3,⟨?r2,⟨?r1,⟨?r0, ?_⟩⟩⟩⟩) (fun h3=>Zb (fun h4=>?_) (fun h4=>?_))⟩⟩))⟩⟩)⟩⟩
 case r0|r1|r2|r3|r4|r5|r6|r7|r8|r9=>(first | rfl | (exact ⟨by decide,by decide⟩) | (rw[Zm];done) | (rw[Zu];done) | (simp only[SysM.enc,Zu];done) | (try simp only[Zu,Zm,Wz,show (⟨s.surfs,s.op⟩:SysM)=s from rfl] at *;first | rfl | exact hp0.1 | exact hp0.2 | (have hk:=Zfr h3;exact Z8 (fun _=>rfl) hk.1 hk.2)))
 all_goals simp only[Zu,Zm,Wz,show (⟨s.surfs,s.op⟩:SysM)=s from rfl] at *
 all_goals simp only[Qi_,Qf_] at h0
 ·simp only[Yc,h0,Qd_];rfl
 ·simp only[Yc,XS,Yz,h0,h1,Qb_,Qd_];rfl
 ·simp only[Yc,XS,Yz,h0,h1,h2,Qb_,Qd_];rfl
 ·simp only[Yc,XS,Yz,h0,h1,h2,h3,Qb_,Qd_];rfl
 ·simp only[Yc,XS,Yz,h0,h1,h2,h3,h4,Qb_,Qd_];rfl
 ·simp only[Yc,XS,Yz,h0,h1,h2,h3,h4,Qb_,Qd_];rfl
theorem Z31:Zh Tryz.prog 47 Zoc:=by
 intro args r ps h hp
 unfold Zoc at h
 split at h
 ·rename_i p1 p2 p3 p4 p5 p6 p7 p8 p9 p10
  cases (Qa_ h)
  exact by
   have hq:=Z30 (SysM.dec p1) (Zc Shape.dec p2) (⟨p3,p4,p5⟩:Iv) (⟨p6,p7,p8⟩:Iv) (Pair.dec p9) p10 (hp _ (by simp))
   rw[←(show p1=SysM.enc (SysM.dec p1) from hp _ (by simp))] at hq
   rw[←(show p2=(Zc Shape.dec p2).map Shape.enc from hp _ (by simp))] at hq
   rw[←(show p9=Pair.enc (Pair.dec p9) from hp _ (by simp))] at hq
   exact hq
 ·exact absurd h (by simp)
def ZeM(l:List Shape):=List.map Shape.enc l
def Zb5(s:SysM):=SysM.mk (Zc Surf.dec (List.map Surf.enc s.surfs)) s.op
def ZeN(s:SysM)(l:List Shape)(x:Iv)(y:Iv)(z:Pair)(n:Int):=Wj (Zc Shape.dec (ZeM l)) (Men.trace (Zb5 s) (WE (Zb5 s) x y z n).fst).r
def Zxq(s:SysM)(l:List Shape)(x:Iv)(y:Iv)(z:Pair)(n:Int):=(0:Int)≤(ZeN s l x y z n).fst∧(ZeM l)[(ZeN s l x y z n).fst.toNat]?=some (ZJ [vI 0,vI 0,vI 0,vI 0,vI 0,vI 0,vI 0,vI 0,vI 0,vI 0,vI 0,vI 0] ((ZeM l).getD (ZeN s l x y z n).fst.toNat []))
def Zxr(s:SysM):=[PV.lst (List.map Surf.enc s.surfs),vI s.op.lo,vI s.op.hi,vB s.op.no]
def Zq4:=PV.tup [vI 0,vI 255,vB true]
theorem Z32(s:SysM)(l:List Shape)(x:Iv)(y:Iv)(z:Pair)(n:Int)(hp0:s.surfs.length≤1000000∧l.length≤1000000):Con Tryz.prog 47 [.agg (SysM.enc s),.lst (l.map Shape.enc),.agg (Iv.enc x),.agg (Iv.enc y),.agg (Pair.enc z),.v (.int .i64 n),.v (.int .i64 2)] (.tup [.v (.int .i64 ((Yc s l x y z n 2).1)),.v (.int .i64 ((Yc s l x y z n 2).2.1)),.v (.bool ((Yc s l x y z n 2).2.2))]):=by
 refine cf0 (Za Z3u<|Za Z3t<|Za Z3f<|Ze) (fn:=Tryz.f47) rfl ?_
 refine sxT (fun Q=>(((Zxr s)=(Zb5 s).enc)∧(((Zfv z)=z.enc)∧(bif !(WE (Zb5 s) x y z n).snd then Q Zq4 else (((Zxr s)=(Zb5 s).enc)∧(((Zc Surf.dec (List.map Surf.enc s.surfs)).length≤(1000000:Nat))∧(bif (Men.trace (Zb5 s) (WE (Zb5 s) x y z n).fst).kind==(2:Int) then Q (PV.tup [vI 0,vI 0,vB false]) else (bif (Men.trace (Zb5 s) (WE (Zb5 s) x y z n).fst).kind==(3:Int) then Q Zq4 else ((List.map Shape.enc l=List.map Shape.enc (Zc Shape.dec (ZeM l)))∧(((Zc Shape.dec (ZeM l)).length≤(1000000:Nat))∧(bif (ZeN s l x y z n).snd.snd==(1:Int) then ((Zxq s l x y z n)∧(((0:Int)≤(2:Int)∧(2:Int) < (3:Int))∧((Zxq s l x y z n)∧(((0:Int)≤(2:Int)∧(2:Int) < (3:Int))∧Q (PV.tup [vI (intOf (((ZeM l).getD (ZeN s l x y z n).fst.toNat []).tail.tail.tail.tail.tail.tail.tail.tail.tail.tail.tail.headD PV.nil)),vI (intOf (((ZeM l).getD (ZeN s l x y z n).fst.toNat []).tail.tail.tail.tail.tail.tail.tail.tail.tail.tail.tail.headD PV.nil)),vB false]))))) else (bif (ZeN s l x y z n).snd.snd==(2:Int) then Q (PV.tup [vI 0,vI 0,vB false]) else Q Zq4)))))))))))) (fun _=>by kernel_rfl) ?_
 delta Qn ZeN Zb5 Zxq ZeM Zxr Zq4 Zfv vI vB
 refine ⟨?r9,⟨?r8,Zb (fun h0=>?_) (fun h0=>⟨?r7,⟨?r6,Zb (fun h1=>?_) (fun h1=>Zb (fun h2=>?_) (fun h2=>⟨?r5,⟨?r4,Zb (fun h3=>⟨?r3,⟨?r2,⟨?r1,⟨?r0, ?_⟩⟩⟩⟩) (fun h3=>Zb (fun h4=>?_) (fun h4=>?_))⟩⟩))⟩⟩)⟩⟩
 case r0|r1|r2|r3|r4|r5|r6|r7|r8|r9=>(first | rfl | (exact ⟨by decide,by decide⟩) | (rw[Zm];done) | (rw[Zu];done) | (simp only[SysM.enc,Zu];done) | (try simp only[Zu,Zm,Wz,show (⟨s.surfs,s.op⟩:SysM)=s from rfl] at *;first | rfl | exact hp0.1 | exact hp0.2 | (have hk:=Zfr h3;exact Z8 (fun _=>rfl) hk.1 hk.2)))
 all_goals simp only[Zu,Zm,Wz,show (⟨s.surfs,s.op⟩:SysM)=s from rfl] at *
 all_goals simp only[Qi_,Qf_] at h0
 ·simp only[Yc,h0,Qd_];rfl
 ·simp only[Yc,XS,Yz,h0,h1,Qb_,Qd_];rfl
 ·simp only[Yc,XS,Yz,h0,h1,h2,Qb_,Qd_];rfl
 ·simp only[Yc,XS,Yz,h0,h1,h2,h3,Qb_,Qd_];rfl
 ·simp only[Yc,XS,Yz,h0,h1,h2,h3,h4,Qb_,Qd_];rfl
 ·simp only[Yc,XS,Yz,h0,h1,h2,h3,h4,Qb_,Qd_];rfl
theorem Z33:Zh Tryz.prog 47 Zod:=by
 intro args r ps h hp
 unfold Zod at h
 split at h
 ·rename_i p1 p2 p3 p4 p5 p6 p7 p8 p9 p10
  cases (Qa_ h)
  exact by
   have hq:=Z32 (SysM.dec p1) (Zc Shape.dec p2) (⟨p3,p4,p5⟩:Iv) (⟨p6,p7,p8⟩:Iv) (Pair.dec p9) p10 (hp _ (by simp))
   rw[←(show p1=SysM.enc (SysM.dec p1) from hp _ (by simp))] at hq
   rw[←(show p2=(Zc Shape.dec p2).map Shape.enc from hp _ (by simp))] at hq
   rw[←(show p9=Pair.enc (Pair.dec p9) from hp _ (by simp))] at hq
   exact hq
 ·exact absurd h (by simp)
theorem ZCF:Zh Tryz.prog 47 e47:=Zig Z3z (Zig Z31 (Z33))
def ZmZ(z:Cx):=Ieee.Datum.toInt Ieee.Toward.zero (FloatKind.f64.decode z.re)
def Zna(z:Cx):=Ieee.Datum.toInt Ieee.Toward.zero (FloatKind.f64.decode z.im)
def ZjU:=PV.tup [PV.agg [vI 0,vI 0],vB false]
theorem ZCG:Zh Tryz.prog 15 e15:=Zi<|Zf fun z=>EZ0<|by
 refine cf0 Ze (fn:=Tryz.f15) rfl ?_
 refine sxT (fun Q=>(bif FloatKind.f64.format.order z.re (13920626448202203136:Nat)==some Ordering.gt||FloatKind.f64.format.order z.re (13920626448202203136:Nat)==some Ordering.eq then (bif FloatKind.f64.format.order z.re (4697254411347427328:Nat)==some Ordering.lt||FloatKind.f64.format.order z.re (4697254411347427328:Nat)==some Ordering.eq then (bif FloatKind.f64.format.order z.im (13920626448202203136:Nat)==some Ordering.gt||FloatKind.f64.format.order z.im (13920626448202203136:Nat)==some Ordering.eq then (bif !(FloatKind.f64.format.order z.im (4697254411347427328:Nat)==some Ordering.lt||FloatKind.f64.format.order z.im (4697254411347427328:Nat)==some Ordering.eq) then Q ZjU else ((Ieee.Datum.toInt Ieee.Toward.zero (FloatKind.f64.decode z.re)=some ((ZmZ z).getD (0:Int)))∧(((-9223372036854775808:Int)≤(ZmZ z).getD (0:Int))∧(((ZmZ z).getD (0:Int)≤(9223372036854775807:Int))∧((Ieee.Datum.toInt Ieee.Toward.zero (FloatKind.f64.decode z.im)=some ((Zna z).getD (0:Int)))∧(((-9223372036854775808:Int)≤(Zna z).getD (0:Int))∧(((Zna z).getD (0:Int)≤(9223372036854775807:Int))∧(bif FloatKind.f64.format.order (FloatKind.f64.nearest ((ZmZ z).getD (0:Int))) z.re !=some Ordering.eq then Q ZjU else (bif FloatKind.f64.format.order (FloatKind.f64.nearest ((Zna z).getD (0:Int))) z.im !=some Ordering.eq then Q ZjU else Q (PV.tup [PV.agg [vI ((ZmZ z).getD (0:Int)),vI ((Zna z).getD (0:Int))],vB true])))))))))) else Q ZjU) else Q ZjU) else Q ZjU)) (fun _=>by kernel_rfl) ?_
 delta Qn ZmZ Zna ZjU vI vB
 refine Zb (fun h0=>Zb (fun h1=>Zb (fun h2=>Zb (fun h3=>?_) (fun h3=>⟨?r5,⟨?r4,⟨?r3,⟨?r2,⟨?r1,⟨?r0,Zb (fun h4=>?_) (fun h4=>Zb (fun h5=>?_) (fun h5=>?_))⟩⟩⟩⟩⟩⟩)) (fun h2=>?_)) (fun h1=>?_)) (fun h0=>?_)
 case r0|r1|r2|r3|r4|r5=>(first | rfl | exact (ZdN h0 h1).1 | exact (ZdN h0 h1).2.1 | exact (ZdN h0 h1).2.2 | exact (ZdN h2 (by simp only[Qf_] at h3;exact h3)).1 | exact (ZdN h2 (by simp only[Qf_] at h3;exact h3)).2.1 | exact (ZdN h2 (by simp only[Qf_] at h3;exact h3)).2.2)
 all_goals have hW:XC z=(ZcT z.re&&ZcT z.im):=(by rw[ZvZ,ZvZ];rfl)
 all_goals (try simp only[bne,Qi_,Qf_] at h3)
 all_goals (try simp only[bne,Qi_,Qf_] at h4)
 all_goals (try simp only[bne,Qi_,Qf_] at h5)
 all_goals (try change geF z.re 13920626448202203136=_ at h0)
 all_goals (try change leF z.re 4697254411347427328=_ at h1)
 all_goals (try change geF z.im 13920626448202203136=_ at h2)
 all_goals (try change leF z.im 4697254411347427328=_ at h3)
 all_goals (try change eqF (FloatKind.f64.nearest (Yi z.re)) z.re=_ at h4)
 all_goals (try change eqF (FloatKind.f64.nearest (Yi z.im)) z.im=_ at h5)
 ·simp only[ofC,hW,ZcT,h3,Qn_,Ql_,Qd_];rfl
 ·simp only[ofC,hW,ZcT,h4,Qn_,Ql_,Qd_];rfl
 ·simp only[ofC,hW,ZcT,h5,Qn_,Ql_,Qd_];rfl
 ·simp only[ofC,hW,ZcT,h0,h1,h2,h3,h4,h5,Qr_,Qp_,Qb_];rfl
 ·simp only[ofC,hW,ZcT,h2,Qn_,Ql_,Qd_];rfl
 ·simp only[ofC,hW,ZcT,h1,Qn_,Ql_,Qd_];rfl
 ·simp only[ofC,hW,ZcT,h0,Qn_,Ql_,Qd_];rfl
end Go.Men
namespace Go.Men
open Go Go.Ev
def Zxs(k:Int):Ent
 | [.v (.int .i64 p1)]=>some (.str (digits p1),[0≤p1∧p1 < k])
 | _=>none
open Go.Proofs Go.Proofs.YtfeldacghdcghaaGreatDoor
theorem ZCe(k:Int)(n:Int)(Q:PV→Prop):sxF evEnv (Yy [(14,Zxs k)]) ZfW ZfX noG [] 2000 Tryz.f14 [.v (.int .i64 n)] Q=(bif decide (n < (0:Int)) then (((0:Int)≤IntKind.i64.wrap ((0:Int) - n)∧IntKind.i64.wrap ((0:Int) - n) < k)∧(((1:Nat)+(digits (IntKind.i64.wrap ((0:Int) - n))).length≤(9223372036854775807:Nat))∧Q (.str ([(45:UInt8)]++digits (IntKind.i64.wrap ((0:Int) - n)))))) else (bif decide (n < (10:Int)) then (((bif decide ((0:Int)≤IntKind.u8.wrap (IntKind.i64.wrap ((48:Int)+n)))&&decide (IntKind.u8.wrap (IntKind.i64.wrap ((48:Int)+n)) < (256:Int)) then some [UInt8.ofNat (IntKind.u8.wrap (IntKind.i64.wrap ((48:Int)+n))).toNat] else none)=some ((bif decide ((0:Int)≤IntKind.u8.wrap (IntKind.i64.wrap ((48:Int)+n)))&&decide (IntKind.u8.wrap (IntKind.i64.wrap ((48:Int)+n)) < (256:Int)) then some [UInt8.ofNat (IntKind.u8.wrap (IntKind.i64.wrap ((48:Int)+n))).toNat] else none).getD []))∧Q (.str ((bif decide ((0:Int)≤IntKind.u8.wrap (IntKind.i64.wrap ((48:Int)+n)))&&decide (IntKind.u8.wrap (IntKind.i64.wrap ((48:Int)+n)) < (256:Int)) then some [UInt8.ofNat (IntKind.u8.wrap (IntKind.i64.wrap ((48:Int)+n))).toNat] else none).getD []))) else (((10:Int)≠(0:Int))∧(((0:Int)≤IntKind.i64.wrap (n.tdiv (10:Int))∧IntKind.i64.wrap (n.tdiv (10:Int)) < k)∧(((10:Int)≠(0:Int))∧(((bif decide ((0:Int)≤IntKind.u8.wrap (IntKind.i64.wrap ((48:Int)+n.tmod (10:Int))))&&decide (IntKind.u8.wrap (IntKind.i64.wrap ((48:Int)+n.tmod (10:Int))) < (256:Int)) then some [UInt8.ofNat (IntKind.u8.wrap (IntKind.i64.wrap ((48:Int)+n.tmod (10:Int)))).toNat] else none)=some ((bif decide ((0:Int)≤IntKind.u8.wrap (IntKind.i64.wrap ((48:Int)+n.tmod (10:Int))))&&decide (IntKind.u8.wrap (IntKind.i64.wrap ((48:Int)+n.tmod (10:Int))) < (256:Int)) then some [UInt8.ofNat (IntKind.u8.wrap (IntKind.i64.wrap ((48:Int)+n.tmod (10:Int)))).toNat] else none).getD []))∧(((digits (IntKind.i64.wrap (n.tdiv (10:Int)))).length+((bif decide ((0:Int)≤IntKind.u8.wrap (IntKind.i64.wrap ((48:Int)+n.tmod (10:Int))))&&decide (IntKind.u8.wrap (IntKind.i64.wrap ((48:Int)+n.tmod (10:Int))) < (256:Int)) then some [UInt8.ofNat (IntKind.u8.wrap (IntKind.i64.wrap ((48:Int)+n.tmod (10:Int)))).toNat] else none).getD []).length≤(9223372036854775807:Nat))∧Q (.str (digits (IntKind.i64.wrap (n.tdiv (10:Int)))++(bif decide ((0:Int)≤IntKind.u8.wrap (IntKind.i64.wrap ((48:Int)+n.tmod (10:Int))))&&decide (IntKind.u8.wrap (IntKind.i64.wrap ((48:Int)+n.tmod (10:Int))) < (256:Int)) then some [UInt8.ofNat (IntKind.u8.wrap (IntKind.i64.wrap ((48:Int)+n.tmod (10:Int)))).toNat] else none).getD []))))))))):=by kernel_rfl
theorem Z64{k:Int}(h:∀n:Int,0≤n→n < k→Con Tryz.prog 14 [.v (.int .i64 n)] (.str (digits n))):Zh Tryz.prog 14 (Zxs k):=by
 intro args r ps h1 hp
 unfold Zxs at h1
 split at h1
 ·cases Qa_ h1
  have:=hp _ Qv_
  exact h _ this.1 this.2
 ·exact absurd h1 (by simp)
theorem Zxt{k:Int}(h:∀n:Int,0≤n→n < k→Con Tryz.prog 14 [.v (.int .i64 n)] (.str (digits n))){n:Int}(h1: -1000000000000000000≤n∧n≤1000000000000000000)(h2:n < 0→ -n < k)(h3:10≤n→n / 10 < k):Con Tryz.prog 14 [.v (.int .i64 n)] (.str (digits n)):=by
 refine Z0t Zk (Za (Z64 h) Ze) Z4 Z3 Z7 (n:=2000) (LS:=[]) (fn:=Tryz.f14) rfl Zaj ?_
 rw[ZCe]
 refine Zb (fun h0=>?_) (fun h0=>Zb (fun h4=>?_) (fun h4=>?_))
 ·have h0:=Qy_ h0
  have hb:=ZI (-n)
  rw[XA (by constructor<;>omega)]
  refine ⟨⟨by omega,h2 h0⟩,by omega, ?_⟩
  rw[Z1L h0];rfl
 ·have h0:=of_decide_eq_false h0
  have h4:=Qy_ h4
  rw[Z02 (by omega) h4,Z1K (by omega) h4]
  exact ⟨rfl,rfl⟩
 ·have h4:=of_decide_eq_false h4
  have e1:n.tdiv 10=n / 10:=Int.tdiv_eq_ediv_of_nonneg (by omega)
  have e2:n.tmod 10=n % 10:=Int.tmod_eq_emod_of_nonneg (by omega)
  have hb:=ZI (n / 10)
  rw[e1,e2,Zg (by constructor<;>omega),Z02 (by omega) (by omega),Zzk (by omega) h1.2]
  exact ⟨by decide,⟨by omega,h3 (by omega)⟩,by decide,rfl,by show (digits (n / 10)).length+1≤_;omega,rfl⟩
theorem Zxu:∀(k:Nat) (n:Int),0≤n→n < k→n≤1000000000000000000→Con Tryz.prog 14 [.v (.int .i64 n)] (.str (digits n))
 | 0,n,h0,h,_=>by omega
 | k+1,n,h0,h,hb=>by
   refine Zxt (k:=min (k:Int) 1000000000000000001) (fun m a b=>Zxu k m a (by omega) (by omega)) (by omega) (by omega) (fun h1=>?_)
   omega
theorem Z34(n:Int)(h: -1000000000000000000≤n∧n≤1000000000000000000):Con Tryz.prog 14 [.v (.int .i64 n)] (.str (digits n)):=
 Zxt (k:=1000000000000000001) (fun m a b=>Zxu (m.toNat+1) m a (by omega) (by omega)) h (by omega) (by omega)
theorem ZuC:Zh Tryz.prog 14 e14:=Zi<|Zf fun n=>EZ1 fun h=>Z34 n h
end Go.Men
namespace Go.Men
open Go.Ev Go.Proofs Go.Proofs.YtfeldacghdcghaaGreatDoor
def Z35(c:Int)(Q:PV→Prop):Prop:=bif decide (c≥(65:Int)) then Q (vB (decide (c≤(90:Int)))) else Q (vB false)
theorem Z65:Zh Tryz.prog 149 ZBh:=Zi<|Zf fun c=>EZ0<|by
 refine cf0 Ze (fn:=Tryz.f149) rfl ?_
 refine sxT (fun Q=>(bif decide (c≥(97:Int)) then (bif decide (c≤(122:Int)) then Q (vB true) else (Z35 c Q)) else (Z35 c Q))) (fun _=>by kernel_rfl) ?_
 delta Qn Z35 vB
 refine Zb (fun h0=>Zb (fun h1=>?_) (fun h1=>Zb (fun h2=>?_) (fun h2=>?_))) (fun h0=>Zb (fun h1=>?_) (fun h1=>?_))
 all_goals (simp only[Zcx,ZC,ZB,List.foldl,Qr_,Qp_,Ql_,Qn_,Q5_,Q4_,Qw_,Q3_,Qu_,Qt_,Qb_,Qd_,QD_,Q8_, *];rfl)
theorem ZCf:Zh Tryz.prog 185 ZEu:=Zi<|Zf fun c=>EZ0<|by
 refine cf0 Ze (fn:=Tryz.f185) rfl ?_
 refine sxT (fun Q=>(bif decide (c≥(48:Int)) then Q (vB (decide (c≤(57:Int)))) else Q (vB false))) (fun _=>by kernel_rfl) ?_
 delta Qn vB
 refine Zb (fun h0=>?_) (fun h0=>?_)
 all_goals (simp only[Zpy,ZC,ZB,List.foldl,Qr_,Qp_,Ql_,Qn_,Q5_,Q4_,Qw_,Q3_,Qu_,Qt_,Qb_,Qd_,QD_,Q8_, *];rfl)
theorem ZCg:Zh Tryz.prog 150 ZBi:=Zi<|Zf fun c=>EZ0<|by
 refine cf0 (Za Z65<|Za ZCf<|Ze) (fn:=Tryz.f150) rfl ?_
 refine sxT (fun Q=>(bif Zcx c then Q (vB true) else (bif Zpy c then Q (vB true) else (bif c==(45:Int) then Q (vB true) else Q (vB (c==(95:Int))))))) (fun _=>by kernel_rfl) ?_
 delta Qn vB
 refine Zb (fun h0=>?_) (fun h0=>Zb (fun h1=>?_) (fun h1=>Zb (fun h2=>?_) (fun h2=>?_)))
 all_goals (simp only[ZmN,ZC,ZB,List.foldl,Qr_,Qp_,Ql_,Qn_,Q5_,Q4_,Qw_,Q3_,Qu_,Qt_,Qb_,Qd_,QD_,Q8_, *];rfl)
def Z80:=Yy [(149,ZBh),(150,ZBi)]
theorem Ztl:CSOk Tryz.prog Z80:=Za Z65<|Za ZCg<|Ze
theorem ZzH:Ye Tryz.prog (Zn Tryz.f113 0) ZpJ:=by
 refine lsG Zk.Γ (Zw Zk Ztl Z4 Z3 Z7 (LS:=[]) (ZM (l:=[]) (by kernel_rfl) Zr) (n:=2000) (U2 Z2i) (U2 Zbg) (fun x e s=>((U2 JO x=true∧e= .ret∧s=U2 ZjA x)∨(U2 JO x=false∧e= .exit 0∧s=U2 Zj9 x))) (fun x=>(x.2.length - x.1).toNat) ZpI Zz1 Zz2 (fun x hx=>?_)) cv2 (fun _=>rfl) (fun _ h=>h) (fun _ _ _ _ h f=>fC h f fE fE)
 ·obtain ⟨i,s⟩:=x
  simp only[U2,Zbg] at hx
  refine sxT (fun Q=>(bif decide (i < ↑s.length) then (((0:Int)≤i∧i < ↑s.length)∧(bif !ZmN ↑(s.getD i.toNat (0:UInt8)).toNat then Q (Ex.ret) (some ⟨29,[(2,AV.p (vB false))],[],[],[],[]⟩) else Q (Ex.normal) (some ⟨29,[(3,AV.p (vI (IntKind.i64.wrap (i+(1:Int))))),(0,AV.p (PV.str s))],[],[],[],[]⟩))) else Q (Ex.exit (0:Nat)) (some ⟨29,[],[],[],[],[]⟩))) (fun _=>by kernel_rfl) ?_
  delta vI vB
  refine Zb (fun h0=>⟨?r0,Zb (fun h1=> .inr ⟨by simp,_,rfl, ?_⟩) (fun h1=> .inl ⟨rfl,(IntKind.i64.wrap (i+(1:Int)),s),rfl, ?_, ?_, ?_⟩)⟩) (fun h0=> .inr ⟨by simp,_,rfl, ?_⟩)
  case r0=>(obtain ⟨a1,a2,a3⟩:=hx;simp only[Qc_] at h0;omega)
  all_goals try dsimp only[U2]
  all_goals (obtain ⟨a1,a2,a3⟩:=hx;try simp only[Qc_,Qe_] at h0)
  all_goals first | (have hk:i < s.length:=h0;obtain ⟨x,t,e1,e2,e3⟩:=Yf (l:=s) a1 (by omega);have eg:s.getD i.toNat 0=x:=(by rw[Q7_,e3];rfl);rw[eg] at h1;have en:(s.drop i.toNat).all Zjs=(Zjs x&&t.all Zjs):=(by rw[e1];rfl)) | skip
  all_goals try rw[Zg (show Fit (i+1) by constructor<;>omega)]
  all_goals try simp only[U2,Zbg,JO,ZjA,Zj9]
  ·change (!Zjs x)=true at h1
   simp only[Qi_] at h1
   exact .inl ⟨by rw[en,h1];rfl,by trivial,by trivial⟩
  ·exact ⟨by omega,by omega,a3⟩
  ·omega
  ·change (!Zjs x)=false at h1
   simp only[Qf_] at h1
   rw[en,e2,h1];exact fun e s h=>h
  ·exact .inr ⟨by rw[Q0_ (by omega)];rfl,by trivial,by trivial⟩
theorem Z36:ZF Tryz.prog [(5,ZpJ)] Tryz.f113:=ZG (l:=[Zn Tryz.f113 0]) (by kernel_rfl) (Zz (i:=5) (by kernel_rfl) rfl ZzH (Zr))
theorem Z66:Zh Tryz.prog 113 ZBj:=Zi<|Zf fun s=>EZ0<|by
 refine cfL Ztl Z36 rfl ?_
 refine sxT (fun Q=>(bif ↑s.length==(0:Int) then Q (vB false) else (bif decide (↑s.length > (20:Int)) then Q (vB false) else (((0:Int)≤(0:Int)∧(0:Int) < ↑s.length)∧(bif !Zcx ↑(s.getD (0:Nat) (0:UInt8)).toNat then Q (vB false) else ((Zbg (0:Int) s)∧(bif JO (0:Int) s then Q (vB false) else Q (vB true)))))))) (fun _=>by kernel_rfl) ?_
 delta Qn vB
 refine Zb (fun h0=>?_) (fun h0=>Zb (fun h1=>?_) (fun h1=>⟨?r0,Zb (fun h2=>?_) (fun h2=>⟨?_,Zb (fun h3=>?_) (fun h3=>?_)⟩)⟩))
 case r0=>first | (obtain ⟨a1,a2,a3⟩:=hx;simp only[Qc_] at h0;omega) | (have h0:¬((s.length:Int)=0):=(by simpa using h0);omega)
 all_goals (try simp only[Qc_,Qe_,Qi_,Qf_] at *)
 ·have h0:(s.length:Int)=0:=(by simpa using h0)
  have e:decide (1≤s.length)=false:=QQ_ (by omega)
  simp only[Zby,e,Ql_];rfl
 ·have e:decide (s.length≤20)=false:=QQ_ (by omega)
  simp only[Zby,e,Ql_,Qn_];rfl
 ·have e0:Zcx ((s.getD 0 0).toNat:Int)=false:=h2
  simp only[Zby,e0,Ql_,Qn_];rfl
 ·have h0:¬((s.length:Int)=0):=(by simpa using h0)
  simp only[Zbg];omega
 ·have h0:¬((s.length:Int)=0):=(by simpa using h0)
  simp only[JO,QO_,QG_,Qi_] at h3
  simp only[Zby,h3,Qn_];rfl
 ·have h0:¬((s.length:Int)=0):=(by simpa using h0)
  simp only[JO,QO_,QG_,Qf_] at h3
  have e1:decide (1≤s.length)=true:=QH_ (by omega)
  have e2:decide (s.length≤20)=true:=QH_ (by omega)
  have e3:Zcx ((s.getD 0 0).toNat:Int)=true:=h2
  simp only[Zby,e1,e2,e3,h3,Qr_];rfl
def Z37(d:Dec):=List.foldl imax d.c [IntKind.i64.wrap ((0:Int) - d.c)]
def ZuD(d:Dec):=(Z37 d).tmod (ZD d.scale)+ZD d.scale
def Zq5(d:Dec):=(Z37 d).tdiv (ZD d.scale)
def Zeo(d:Dec):=IntKind.i64.wrap (Zq5 d)
def Znb(d:Dec):=(0:Int)≤d.scale∧d.scale≤(18:Int)
def ZjV(d:Dec):=digits (IntKind.i64.wrap (ZuD d))
def Z38(d:Dec):=(-1000000000000000000:Int)≤IntKind.i64.wrap (ZuD d)∧IntKind.i64.wrap (ZuD d)≤(1000000000000000000:Int)
theorem ZCh:Zh Tryz.prog 151 ZEv:=Zi<|Zf fun d=>EZ0<|by
 refine cf0 (Za Zuu<|Za ZwD<|Za ZuC<|Ze) (fn:=Tryz.f151) rfl ?_
 refine sxT (fun Q=>(bif !ZO d then Q (PV.str ([])) else ((Znb d)∧((ZD d.scale≠(0:Int))∧(bif decide (IntKind.i64.wrap (Zq5 d) > (99999:Int)) then Q (PV.str ([])) else (((-1000000000000000000:Int)≤IntKind.i64.wrap (Zq5 d)∧IntKind.i64.wrap (Zq5 d)≤(1000000000000000000:Int))∧(bif decide (d.c < (0:Int)) then (((1:Nat)+(digits (Zeo d)).length≤(9223372036854775807:Nat))∧(bif decide (d.scale > (0:Int)) then ((Znb d)∧((ZD d.scale≠(0:Int))∧((Znb d)∧((Z38 d)∧((([(45:UInt8)]++digits (Zeo d)).length+(1:Nat)≤(9223372036854775807:Nat))∧(((0:Int)≤(1:Int)∧(1:Int)≤↑(ZjV d).length)∧((([(45:UInt8)]++digits (Zeo d)++[(46:UInt8)]).length+(List.drop (1:Nat) (ZjV d)).length≤(9223372036854775807:Nat))∧Q (PV.str ([(45:UInt8)]++digits (Zeo d)++[(46:UInt8)]++List.drop (1:Nat) (ZjV d)))))))))) else Q (PV.str ([(45:UInt8)]++digits (Zeo d))))) else (bif decide (d.scale > (0:Int)) then ((Znb d)∧((ZD d.scale≠(0:Int))∧((Znb d)∧((Z38 d)∧(((digits (Zeo d)).length+(1:Nat)≤(9223372036854775807:Nat))∧(((0:Int)≤(1:Int)∧(1:Int)≤↑(ZjV d).length)∧(((digits (Zeo d)++[(46:UInt8)]).length+(List.drop (1:Nat) (ZjV d)).length≤(9223372036854775807:Nat))∧Q (PV.str (digits (Zeo d)++[(46:UInt8)]++List.drop (1:Nat) (ZjV d)))))))))) else Q (PV.str (digits (Zeo d))))))))))) (fun _=>by kernel_rfl) ?_
 delta Qn Z37 ZuD Zeo Znb ZjV Z38 Zq5
 refine Zb (fun h0=>?_) (fun h0=>⟨?r17,⟨?r16,Zb (fun h1=>?_) (fun h1=>⟨?r15,Zb (fun h2=>⟨?r7,Zb (fun h3=>⟨?r6,⟨?r5,⟨?r4,⟨?r3,⟨?r2,⟨?r1,⟨?r0, ?_⟩⟩⟩⟩⟩⟩⟩) (fun h3=>?_)⟩) (fun h2=>Zb (fun h3=>⟨?r14,⟨?r13,⟨?r12,⟨?r11,⟨?r10,⟨?r9,⟨?r8, ?_⟩⟩⟩⟩⟩⟩⟩) (fun h3=>?_))⟩)⟩⟩)
 case r0|r1|r2|r3|r4|r5|r6|r7|r8|r9|r10|r11|r12|r13|r14|r15|r16|r17=>have hf:=Zs7 (by simpa using h0);have l1:=ZI (headD d);have l2:=ZI (ZcU d);(try simp only[hf.1,show (Zfa d).tdiv (ZD d.scale)=headD d from rfl,show (Zfa d).tmod (ZD d.scale)+ZD d.scale=ZcU d from rfl,hf.2.1,hf.2.2.1,Qx_,Qs_,Q1_,KF_]);omega
 ·simp only[Qi_] at h0
  simp only[ZdQ,h0,Qd_];rfl
 all_goals have hf:=Zs7 (by simpa using h0)
 all_goals simp only[Qf_] at h0
 all_goals simp only[hf.1,show (Zfa d).tdiv (ZD d.scale)=headD d from rfl,show (Zfa d).tmod (ZD d.scale)+ZD d.scale=ZcU d from rfl,hf.2.1,hf.2.2.1] at *
 all_goals simp only[ZdQ,Zwc,Z1J, *,Qb_,Qd_]
 all_goals rfl
theorem Z67:Zh Tryz.prog 114 ZBk:=Zi<|Zf fun d=>EZ0<|by
 refine cf0 (Za ZCh<|Ze) (fn:=Tryz.f114) rfl ?_
 refine sxT (fun Q=>Q (vB (!ZdQ d==[]))) (fun _=>by kernel_rfl) ?_
 delta Qn vB
 refine ?_
 rw[Zwd];rfl
theorem Z68:Zh Tryz.prog 115 ZBl:=Zi<|Zf fun d=>EZ0<|by
 refine cf0 Ze (fn:=Tryz.f115) rfl ?_
 refine sxT (fun Q=>Q (vB (decide (d.c > (0:Int))))) (fun _=>by kernel_rfl) ?_
 delta Qn vB
 refine ?_
 all_goals rfl
theorem Z8Z:Zh Tryz.prog 82 e82:=Zi<|Zf fun d=>EZ0<|by
 refine cf0 Ze (fn:=Tryz.f82) rfl ?_
 refine sxT (fun Q=>Q (vB (d.c==(0:Int)&&(d.scale==(0:Int)&&true)))) (fun _=>by kernel_rfl) ?_
 delta Qn vB
 refine ?_
 simp only[YD,Qr_];rfl
theorem ZCi:Zh Tryz.prog 153 ZEw:=Zi<|Zf fun d=>EZ0<|by
 refine cf0 Ze (fn:=Tryz.f153) rfl ?_
 refine sxT (fun Q=>Q (PV.agg [vI (List.foldl imax d.c [IntKind.i64.wrap ((0:Int) - d.c)]),vI d.scale])) (fun _=>by kernel_rfl) ?_
 delta Qn vI
 refine ?_
 simp only[Zua,List.foldl,ZB];rfl
theorem ZCj:Zh Tryz.prog 152 ZEx:=Zi<|Zf fun a=>Zf fun b=>EZ0<|by
 refine cf0 (Za Zuu<|Za ZwD<|Ze) (fn:=Tryz.f152) rfl ?_
 refine sxT (fun Q=>(bif ZO a then (bif ZO b then (((0:Int)≤IntKind.i64.wrap ((6:Int) - a.scale)∧IntKind.i64.wrap ((6:Int) - a.scale)≤(18:Int))∧(((0:Int)≤IntKind.i64.wrap ((6:Int) - b.scale)∧IntKind.i64.wrap ((6:Int) - b.scale)≤(18:Int))∧Q (vB (decide (IntKind.i64.wrap (a.c *ZD (IntKind.i64.wrap ((6:Int) - a.scale))) < IntKind.i64.wrap (b.c *ZD (IntKind.i64.wrap ((6:Int) - b.scale)))))))) else Q (vB false)) else Q (vB false))) (fun _=>by kernel_rfl) ?_
 delta Qn vB
 refine Zb (fun h0=>Zb (fun h1=>⟨?r1,⟨?r0, ?_⟩⟩) (fun h1=>?_)) (fun h0=>?_)
 case r0|r1=>have h0:=Zjt h0;have h1:=Zjt h1;rw[h0.1] at *;rw[h1.1] at *;first | exact h0.2.1 | exact h1.2.1
 ·have f0:=Zjt h0;have f1:=Zjt h1
  rw[f0.1,f1.1,f0.2.2,f1.2.2]
  simp only[ZfG,h0,h1,Qp_];rfl
 ·simp only[ZfG,h0,h1,Qp_,Ql_];rfl
 ·simp only[ZfG,h0,Ql_];rfl
def Ju(i:Int)(l:List Glass):=(List.map Glass.enc l).getD i.toNat []
def Zxv(i:Int)(l:List Glass):=(0:Int)≤i∧(List.map Glass.enc l)[i.toNat]?=some (ZJ [PV.str [],vI 0,vI 0,vI 0,vI 0,vI 0,vI 0,vI 0,vI 0,vI 0,vI 0,vI 0,vI 0] (Ju i l))
theorem ZlN:CSOk Tryz.prog (Yy []):=Ze
theorem Zse:Ye Tryz.prog (Zn Tryz.f86 0) Zke:=by
 refine lsG Zk.Γ (Zw Zk ZlN Z4 Z3 Z7 (LS:=[]) (ZM (l:=[]) (by kernel_rfl) Zr) (n:=2000) (U4 Ztw) (U4 WY) (fun x e s=>((U4 WZ x=true∧e= .ret∧s=U4 Zfc x)∨(U4 WZ x=false∧e= .exit 0∧s=U4 Zfb x))) (fun x=>(x.2.1.length - x.1).toNat) Zkd ZrQ ZrR (fun x hx=>?_)) cv4 (fun _=>rfl) (fun _ h=>h) (fun _ _ _ _ h f=>fC h f fE fE)
 ·obtain ⟨i,l,n,z⟩:=x
  simp only[U4,WY] at hx
  refine sxT (fun Q=>(bif decide (i < ↑(List.map Glass.enc l).length) then ((Zxv i l)∧(bif ZcN ((Ju i l).headD PV.nil)==n then ((Zxv i l)∧Q (Ex.ret) (some ⟨25,[(4,AV.ptr 4 0),(5,AV.p (vB true))],[(4,[PV.str (ZcN ((Ju i l).headD PV.nil)),vI (intOf ((Ju i l).tail.headD PV.nil)),vI (intOf ((Ju i l).tail.tail.headD PV.nil)),vI (intOf ((Ju i l).tail.tail.tail.headD PV.nil)),vI (intOf ((Ju i l).tail.tail.tail.tail.headD PV.nil)),vI (intOf ((Ju i l).tail.tail.tail.tail.tail.headD PV.nil)),vI (intOf ((Ju i l).tail.tail.tail.tail.tail.tail.headD PV.nil)),vI (intOf ((Ju i l).tail.tail.tail.tail.tail.tail.tail.headD PV.nil)),vI (intOf ((Ju i l).tail.tail.tail.tail.tail.tail.tail.tail.headD PV.nil)),vI (intOf ((Ju i l).tail.tail.tail.tail.tail.tail.tail.tail.tail.headD PV.nil)),vI (intOf ((Ju i l).tail.tail.tail.tail.tail.tail.tail.tail.tail.tail.headD PV.nil)),vI (intOf ((Ju i l).tail.tail.tail.tail.tail.tail.tail.tail.tail.tail.tail.headD PV.nil)),vI (intOf ((Ju i l).tail.tail.tail.tail.tail.tail.tail.tail.tail.tail.tail.tail.headD PV.nil))])],[],[],[]⟩)) else Q (Ex.normal) (some ⟨25,[(4,AV.ptr 4 0),(6,AV.p (vI (IntKind.i64.wrap (i+(1:Int))))),(0,AV.p (PV.lst (List.map Glass.enc l))),(1,AV.p (PV.str n))],[(4,(Zgl z))],[],[],[]⟩))) else Q (Ex.exit (0:Nat)) (some ⟨25,[(4,AV.ptr 4 0)],[(4,(Zgl z))],[],[],[]⟩))) (fun _=>by kernel_rfl) ?_
  delta Ju Zxv Zgl vI vB
  refine Zb (fun h0=>⟨?r1,Zb (fun h1=>⟨?r0,.inr ⟨by simp,_,rfl, ?_⟩⟩) (fun h1=> .inl ⟨rfl,(IntKind.i64.wrap (i+(1:Int)),l,n,z),rfl, ?_, ?_, ?_⟩)⟩) (fun h0=> .inr ⟨by simp,_,rfl, ?_⟩)
  case r0|r1=>first | rfl | (rw[YA];done) | (obtain ⟨a1,a2,a3⟩:=hx;simp only[Qk_,Qc_] at h0;exact Z8 (fun _=>rfl) (by omega) (by omega))
  all_goals try dsimp only[U4]
  all_goals (obtain ⟨a1,a2,a3⟩:=hx;try simp only[Qk_,Qc_,Qe_] at h0)
  all_goals first | (have hk:i < l.length:=h0;obtain ⟨x,t,e1,e2,e3⟩:=Yf (l:=l) a1 (by omega);simp only[Yh e3] at *;have en:YV (l.drop i.toNat) n=bif x.name==n then (x,true) else YV t n:=(by rw[e1];rfl)) | skip
  all_goals try rw[Zg (show Fit (i+1) by constructor<;>omega)]
  all_goals try simp only[U4,WY,WZ,Zfc,Zfb]
  ·change (x.name==n)=true at h1
   exact .inl ⟨by rw[en,h1];rfl,by trivial,by rw[en,h1];rfl⟩
  ·exact ⟨by omega,by omega,a3⟩
  ·omega
  ·change (x.name==n)=false at h1
   rw[en,e2,h1];exact fun e s h=>h
  ·exact .inr ⟨by rw[Q0_ (by omega)];rfl,by trivial,by trivial⟩
theorem ZtC:ZF Tryz.prog [(3,Zke)] Tryz.f86:=ZG (l:=[Zn Tryz.f86 0]) (by kernel_rfl) (Zz (i:=3) (by kernel_rfl) rfl Zse (Zr))
def Zg9:=G3.mk (Dec.mk (0:Int) (0:Int)) (Dec.mk (0:Int) (0:Int)) (Dec.mk (0:Int) (0:Int))
def ZlO(l:List Glass):=Zc Glass.dec (List.map Glass.enc l)
theorem Z9a:Zh Tryz.prog 86 e86:=Zi<|Zf fun l=>Zf fun n=>EZ1 fun hp0=>by
 refine cfL ZlN ZtC rfl ?_
 refine sxT (fun Q=>((List.map Glass.enc l=List.map Glass.enc (ZlO l))∧(([PV.str [],vI 0,vI 0,vI 0,vI 0,vI 0,vI 0,vI 0,vI 0,vI 0,vI 0,vI 0,vI 0]=(Glass.mk [] Zg9 Zg9).enc)∧((WY (0:Int) (ZlO l) n (Glass.mk [] Zg9 Zg9))∧(bif WZ (0:Int) (ZlO l) n (Glass.mk [] Zg9 Zg9) then Q (PV.tup [PV.agg (Zgl (YV (List.drop (0:Nat) (ZlO l)) n).fst),vB true]) else Q (PV.tup [PV.agg [PV.str ([]),vI 0,vI 0,vI 0,vI 0,vI 0,vI 0,vI 0,vI 0,vI 0,vI 0,vI 0,vI 0],vB false])))))) (fun _=>by kernel_rfl) ?_
 delta Qn Zg9 ZlO Zgl vI vB
 refine ⟨?r1,⟨?r0,⟨?_,Zb (fun h0=>?_) (fun h0=>?_)⟩⟩⟩
 case r0|r1=>first | rfl | (rw[YA];done)
 all_goals simp only[WY,WZ,YA,QO_,QG_] at *
 ·exact ⟨by omega,by omega,hp0⟩
 ·obtain ⟨A,hA⟩:∃A,YV l n=A:=⟨_,rfl⟩
  rw[hA] at h0 ⊢
  obtain ⟨g,b⟩:=A
  simp only at h0
  subst h0;rfl
 ·rw[ZkZ h0];rfl
theorem ZCH:Zh Tryz.prog 87 e87:=Zi<|Zf fun g=>Zf fun w=>EZ0<|by
 refine cf0 (Za ZbU<|Za Zdn<|Za Zuw<|Za ZaH<|Za ZaG<|Za Zhx<|Za ZbV<|Za ZlE<|Ze) (fn:=Tryz.f87) rfl ?_
 refine sxT (fun Q=>(bif g.name==[(97:UInt8),(105:UInt8),(114:UInt8)] then Q (PV.agg [vI 65536,vI 65536,vB false]) else (((0:Int)≤(0:Int)∧(0:Int) < (3:Int))∧(((0:Int)≤(0:Int)∧(0:Int) < (3:Int))∧(((0:Int)≤(1:Int)∧(1:Int) < (3:Int))∧(((0:Int)≤(1:Int)∧(1:Int) < (3:Int))∧(((0:Int)≤(2:Int)∧(2:Int) < (3:Int))∧(((0:Int)≤(2:Int)∧(2:Int) < (3:Int))∧Q (PV.agg (eIv (ZL (add (add (add (point (65536:Int)) (Zp (Zl (Zj g.b.a) (sqr w)) (sub (sqr w) (Zj g.c.a)))) (Zp (Zl (Zj g.b.b) (sqr w)) (sub (sqr w) (Zj g.c.b)))) (Zp (Zl (Zj g.b.c) (sqr w)) (sub (sqr w) (Zj g.c.c))))))))))))))) (fun _=>by kernel_rfl) ?_
 delta Qn eIv vI vB
 refine Zb (fun h0=>?_) (fun h0=>⟨?r5,⟨?r4,⟨?r3,⟨?r2,⟨?r1,⟨?r0, ?_⟩⟩⟩⟩⟩⟩)
 case r0|r1|r2|r3|r4|r5=>first | rfl | (simp only[Zm,dI,dIv];omega) | (simp[Zc,chunk];done)
 ·have e:(g.name==ZkX)=true:=h0
  simp only[ZcV,e,Qb_];rfl
 ·have e:(g.name==ZkX)=false:=h0
  simp only[ZcV,e,Qd_,Zhk];rfl
theorem ZCI:Zh Tryz.prog 54 e54:=Zi<|Zf fun k=>EZ0<|by
 refine cf0 (Za Zuw<|Za XF<|Ze) (fn:=Tryz.f54) rfl ?_
 refine sxT (fun Q=>(bif k==(0:Int) then Q (PV.agg [vI 38508,vI 38509,vB false]) else (bif k==(1:Int) then Q (PV.agg [vI 31857,vI 31858,vB false]) else (bif k==(2:Int) then Q (PV.agg [vI 43011,vI 43012,vB false]) else Q (PV.agg [vI 0,vI 0,vB true]))))) (fun _=>by kernel_rfl) ?_
 delta Qn vI vB
 refine Zb (fun h0=>?_) (fun h0=>Zb (fun h1=>?_) (fun h1=>Zb (fun h2=>?_) (fun h2=>?_)))
 all_goals simp only[Zpz, *,Qb_,Qd_]
 all_goals rfl
theorem Zxw:CSOk Tryz.prog (Yy []):=Ze
theorem Z39:Ye Tryz.prog (Zn Tryz.f79 0) ZsU:=by
 refine lsG Zk.Γ (Zw Zk Zxw Z4 Z3 Z7 (LS:=[]) (ZM (l:=[]) (by kernel_rfl) Zr) (n:=2000) (U2 Z5B) (U2 Zc3) (fun x e s=>((U2 Zc4 x=true∧e= .ret∧s=U2 Zls x)∨(U2 Zc4 x=false∧e= .exit 0∧s=U2 Zlr x))) (fun x=>(x.2.length - x.1).toNat) ZsT Z2j Z2k (fun x hx=>?_)) cv2 (fun _=>rfl) (fun _ h=>h) (fun _ _ _ _ h f=>fC h f fE fE)
 ·obtain ⟨i,l⟩:=x
  simp only[U2,Zc3] at hx
  refine sxT (fun Q=>(bif decide (i < ↑(List.map Face.enc l).length) then (((0:Int)≤i∧(List.map Face.enc l)[i.toNat]?=some (ZJ [vB false,vI 0,vI 0,vI 0,vI 0,vI 0,vI 0,vI 0,vI 0,vI 0,vI 0,vI 0,vI 0,PV.str []] ((List.map Face.enc l).getD i.toNat [])))∧(bif !Zt (((List.map Face.enc l).getD i.toNat []).headD PV.nil) then Q (Ex.ret) (some ⟨16,[(2,AV.p (vB true))],[],[],[],[]⟩) else Q (Ex.normal) (some ⟨16,[(3,AV.p (vI (IntKind.i64.wrap (i+(1:Int))))),(0,AV.p (PV.lst (List.map Face.enc l)))],[],[],[],[]⟩))) else Q (Ex.exit (0:Nat)) (some ⟨16,[],[],[],[],[]⟩))) (fun _=>by kernel_rfl) ?_
  delta vI vB
  refine Zb (fun h0=>⟨?r0,Zb (fun h1=> .inr ⟨by simp,_,rfl, ?_⟩) (fun h1=> .inl ⟨rfl,(IntKind.i64.wrap (i+(1:Int)),l),rfl, ?_, ?_, ?_⟩)⟩) (fun h0=> .inr ⟨by simp,_,rfl, ?_⟩)
  case r0=>first | rfl | (rw[WN];done) | (obtain ⟨a1,a2,a3⟩:=hx;simp only[Qk_,Qc_] at h0;exact Z8 (fun _=>rfl) (by omega) (by omega))
  all_goals try dsimp only[U2]
  all_goals (obtain ⟨a1,a2,a3⟩:=hx;try simp only[Qk_,Qc_,Qe_] at h0)
  all_goals first | (have hk:i < l.length:=h0;obtain ⟨x,t,e1,e2,e3⟩:=Yf (l:=l) a1 (by omega);simp only[Yh e3] at *;have en:Wa (l.drop i.toNat)=(!x.stop||Wa t):=(by rw[e1];rfl)) | skip
  all_goals try rw[Zg (show Fit (i+1) by constructor<;>omega)]
  all_goals try simp only[U2,Zc3,Zc4,Zls,Zlr]
  ·change (!x.stop)=true at h1
   exact .inl ⟨by rw[en,h1];rfl,by trivial,by trivial⟩
  ·exact ⟨by omega,by omega,a3⟩
  ·omega
  ·change (!x.stop)=false at h1
   rw[en,e2,h1];exact fun e s h=>h
  ·exact .inr ⟨by rw[Q0_ (by omega)];rfl,by trivial,by trivial⟩
theorem Z69:ZF Tryz.prog [(3,ZsU)] Tryz.f79:=ZG (l:=[Zn Tryz.f79 0]) (by kernel_rfl) (Zz (i:=3) (by kernel_rfl) rfl Z39 (Zr))
theorem ZCJ:Zh Tryz.prog 79 e79:=Zi<|Zf fun l=>EZ1 fun hp0=>by
 refine cfL Zxw Z69 rfl ?_
 refine sxT (fun Q=>((List.map Face.enc l=List.map Face.enc (Zc Face.dec (List.map Face.enc l)))∧((Zc3 (0:Int) (Zc Face.dec (List.map Face.enc l)))∧(bif Zc4 (0:Int) (Zc Face.dec (List.map Face.enc l)) then Q (vB true) else Q (vB false))))) (fun _=>by kernel_rfl) ?_
 delta Qn vB
 refine ⟨?r0,⟨?_,Zb (fun h0=>?_) (fun h0=>?_)⟩⟩
 case r0=>first | rfl | (rw[WN];done)
 all_goals simp only[Zc3,Zc4,WN,QO_,QG_] at *
 ·exact ⟨by omega,by omega,hp0⟩
 ·rw[h0];rfl
 ·rw[h0];rfl
def Z3A(f:Face)(Q:PV→Prop):Prop:=bif f.radius.c==(0:Int) then Q (vB true) else Q (vB (!ZfG (Zua f.radius) f.aperture))
theorem ZCk:Zh Tryz.prog 116 ZBm:=Zi<|Zf fun f=>Zf fun g=>EZ1 fun hp0=>by
 refine cf0 (Za Z67<|Za Z68<|Za Z8Z<|Za Z9a<|Za Z66<|Za ZCi<|Za ZCj<|Ze) (fn:=Tryz.f116) rfl ?_
 refine sxT (fun Q=>(bif !printable f.aperture then Q (vB false) else (bif !decide (f.aperture.c > (0:Int)) then Q (vB false) else (bif !printable f.thick then Q (vB false) else (bif decide (f.thick.c < (0:Int)) then Q (vB false) else (bif f.stop then (bif YD f.radius then (bif YD f.conic then (bif YD f.a4 then (bif YD f.a6 then Q (vB (f.glass==[])) else Q (vB false)) else Q (vB false)) else Q (vB false)) else Q (vB false)) else ((List.map Glass.enc g=List.map Glass.enc (Zc Glass.dec (List.map Glass.enc g)))∧(((Zc Glass.dec (List.map Glass.enc g)).length≤(140737488355328:Nat))∧(bif printable f.radius then (bif printable f.conic then (bif printable f.a4 then (bif printable f.a6 then (bif Zby f.glass then (bif (YV (Zc Glass.dec (List.map Glass.enc g)) f.glass).snd then (Z3A f Q) else (bif f.glass==[(97:UInt8),(105:UInt8),(114:UInt8)] then (Z3A f Q) else Q (vB false))) else Q (vB false)) else Q (vB false)) else Q (vB false)) else Q (vB false)) else Q (vB false)))))))))) (fun _=>by kernel_rfl) ?_
 delta Qn Z3A vB
 refine Zb (fun h0=>?_) (fun h0=>Zb (fun h1=>?_) (fun h1=>Zb (fun h2=>?_) (fun h2=>Zb (fun h3=>?_) (fun h3=>Zb (fun h4=>Zb (fun h5=>Zb (fun h6=>Zb (fun h7=>Zb (fun h8=>?_) (fun h8=>?_)) (fun h7=>?_)) (fun h6=>?_)) (fun h5=>?_)) (fun h4=>⟨?r1,⟨?r0,Zb (fun h5=>Zb (fun h6=>Zb (fun h7=>Zb (fun h8=>Zb (fun h9=>Zb (fun h10=>Zb (fun h11=>?_) (fun h11=>?_)) (fun h10=>Zb (fun h11=>Zb (fun h12=>?_) (fun h12=>?_)) (fun h11=>?_))) (fun h9=>?_)) (fun h8=>?_)) (fun h7=>?_)) (fun h6=>?_)) (fun h5=>?_)⟩⟩)))))
 case r0|r1=>first | rfl | (rw[YA];done) | (simp only[YA];omega)
 all_goals (try simp only[YA,Qi_,Qf_] at *)
 all_goals simp only[JE,ZkX, *,Qp_,Ql_,Qr_,Qn_,Qu_,Qt_,Q4_,Qw_,Q5_,Q3_,Qb_,Qd_]
 all_goals rfl
def ZzI:=Yy [(113,ZBj),(114,ZBk),(115,ZBl),(116,ZBm)]
def Wu(i:Int)(l:LensM):=(List.map Face.enc l.faces).getD i.toNat []
def Z3B(i:Int)(l:LensM):=(0:Int)≤i∧(List.map Face.enc l.faces)[i.toNat]?=some (ZJ [vB false,vI 0,vI 0,vI 0,vI 0,vI 0,vI 0,vI 0,vI 0,vI 0,vI 0,vI 0,vI 0,PV.str []] (Wu i l))
theorem ZlP:CSOk Tryz.prog ZzI:=Za Z66<|Za Z67<|Za Z68<|Za ZCk<|Ze
theorem Zsf:Ye Tryz.prog (Zn Tryz.f80 0) Zkg:=by
 refine lsG Zk.Γ (Zw Zk ZlP Z4 Z3 Z7 (LS:=[]) (ZM (l:=[]) (by kernel_rfl) Zr) (n:=2000) (U4 Ztx) (U4 Ja) (fun x e s=>((U4 Jb x=true∧e= .ret∧s=U4 Zfe x)∨(U4 Jb x=false∧e= .exit 0∧s=U4 Zfd x))) (fun x=>(x.2.2.2.faces.length - x.1).toNat) Zkf ZrS ZrT (fun x hx=>?_)) cv4 (fun _=>rfl) (fun _ h=>h) (fun _ _ _ _ h f=>fC h f fE fE)
 ·obtain ⟨i,sm,g,l⟩:=x
  simp only[U4,Ja] at hx
  refine sxT (fun Q=>(bif decide (i < ↑(List.map Face.enc l.faces).length) then ((Z3B i l)∧(([vB (Zt ((Wu i l).headD PV.nil)),vI (intOf ((Wu i l).tail.headD PV.nil)),vI (intOf ((Wu i l).tail.tail.headD PV.nil)),vI (intOf ((Wu i l).tail.tail.tail.headD PV.nil)),vI (intOf ((Wu i l).tail.tail.tail.tail.headD PV.nil)),vI (intOf ((Wu i l).tail.tail.tail.tail.tail.headD PV.nil)),vI (intOf ((Wu i l).tail.tail.tail.tail.tail.tail.headD PV.nil)),vI (intOf ((Wu i l).tail.tail.tail.tail.tail.tail.tail.headD PV.nil)),vI (intOf ((Wu i l).tail.tail.tail.tail.tail.tail.tail.tail.headD PV.nil)),vI (intOf ((Wu i l).tail.tail.tail.tail.tail.tail.tail.tail.tail.headD PV.nil)),vI (intOf ((Wu i l).tail.tail.tail.tail.tail.tail.tail.tail.tail.tail.headD PV.nil)),vI (intOf ((Wu i l).tail.tail.tail.tail.tail.tail.tail.tail.tail.tail.tail.headD PV.nil)),vI (intOf ((Wu i l).tail.tail.tail.tail.tail.tail.tail.tail.tail.tail.tail.tail.headD PV.nil)),PV.str (ZcN ((Wu i l).tail.tail.tail.tail.tail.tail.tail.tail.tail.tail.tail.tail.tail.headD PV.nil))]=(Face.dec (Wu i l)).enc)∧((List.map Glass.enc g=List.map Glass.enc (Zc Glass.dec (List.map Glass.enc g)))∧(((Zc Glass.dec (List.map Glass.enc g)).length≤(140737488355328:Nat))∧(bif !JE (Face.dec (Wu i l)) (Zc Glass.dec (List.map Glass.enc g)) then Q (Ex.ret) (some ⟨55,[(4,AV.p (vB false))],[],[],[],[]⟩) else (bif sm then Q (Ex.normal) (some ⟨55,[(6,AV.p (vI (IntKind.i64.wrap (i+(1:Int))))),(2,AV.ptr 2 0),(5,AV.p (vB true)),(1,AV.p (PV.lst (List.map Glass.enc g)))],[(2,(Z5 l))],[],[],[]⟩) else ((Z3B i l)∧Q (Ex.normal) (some ⟨55,[(6,AV.p (vI (IntKind.i64.wrap (i+(1:Int))))),(2,AV.ptr 2 0),(5,AV.p (vB (!Zt ((Wu i l).headD PV.nil)))),(1,AV.p (PV.lst (List.map Glass.enc g)))],[(2,(Z5 l))],[],[],[]⟩)))))))) else Q (Ex.exit (0:Nat)) (some ⟨55,[(5,AV.p (vB sm))],[],[],[],[]⟩))) (fun _=>by kernel_rfl) ?_
  delta Wu Z3B Z5 vI vB
  refine Zb (fun h0=>⟨?r4,⟨?r3,⟨?r2,⟨?r1,Zb (fun h1=> .inr ⟨by simp,_,rfl, ?_⟩) (fun h1=>Zb (fun h2=> .inl ⟨rfl,(IntKind.i64.wrap (i+(1:Int)),true,g,l),rfl, ?_, ?_, ?_⟩) (fun h2=>⟨?r0,.inl ⟨rfl,(IntKind.i64.wrap (i+(1:Int)),!Zt (((List.map Face.enc l.faces).getD i.toNat []).headD PV.nil),g,l),rfl, ?_, ?_, ?_⟩⟩))⟩⟩⟩⟩) (fun h0=> .inr ⟨by simp,_,rfl, ?_⟩)
  case r0|r1|r2|r3|r4=>first | rfl | (rw[YA];done) | (simp only[YA];omega) | (simp only[Face.enc];rfl) | (obtain ⟨a1,a2,a3,a4⟩:=hx;simp only[Qk_,Qc_] at h0;(exact Z8 (fun _=>rfl) (by omega) (by omega)))
  all_goals try dsimp only[U4]
  all_goals (obtain ⟨a1,a2,a3,a4⟩:=hx;try simp only[Qk_,Qc_,Qe_] at h0)
  all_goals first | (have hk:i < l.faces.length:=h0;obtain ⟨x,t,e1,e2,e3⟩:=Yf (l:=l.faces) a1 (by omega);simp only[Yh e3,YA,show Face.dec (Face.enc x)=x from rfl,Qi_,Qf_] at *;have en:(l.faces.drop i.toNat).all (JE · g)=(JE x g&&t.all (JE · g)):=(by rw[e1];rfl);have es:Wa (l.faces.drop i.toNat)=(!x.stop||Wa t):=(by rw[e1];rfl)) | skip
  all_goals try rw[Zg (show Fit (i+1) by constructor<;>omega)]
  all_goals try simp only[U4,Ja,Jb,Zfe,Zfd]
  all_goals (try change x.stop=_ at h3)
  all_goals first | (exact .inl ⟨by rw[en,h1];rfl,by trivial,by trivial⟩) | (exact ⟨by omega,by omega,a3,a4⟩) | omega | (rw[en,es,e2,h1,h2,h3];exact fun e s h=>h) | (rw[en,es,e2,h1,h2];exact fun e s h=>h) | (exact .inr ⟨by rw[Q0_ (by omega)];rfl,by trivial,by rw[Q0_ (by omega),show Wa []=false from rfl,Q3_]⟩)
theorem ZtD:ZF Tryz.prog [(6,Zkg)] Tryz.f80:=ZG (l:=[Zn Tryz.f80 0]) (by kernel_rfl) (Zz (i:=6) (by kernel_rfl) rfl Zsf (Zr))
def ZuE(l:LensM):=LensM.mk l.name l.back (Zc Face.dec (List.map Face.enc l.faces))
theorem ZCK:Zh Tryz.prog 80 e80:=Zi<|Zf fun l=>Zf fun g=>EZ1 fun hp0=>by
 refine cfL ZlP ZtD rfl ?_
 refine sxT (fun Q=>(bif !Zby l.name then Q (vB false) else (bif !printable l.back then Q (vB false) else (bif !decide (l.back.c > (0:Int)) then Q (vB false) else (bif decide (↑(List.map Face.enc l.faces).length > (12:Int)) then Q (vB false) else ((List.map Glass.enc g=List.map Glass.enc (Zc Glass.dec (List.map Glass.enc g)))∧(((Z5 l)=(ZuE l).enc)∧((Ja (0:Int) false (Zc Glass.dec (List.map Glass.enc g)) (ZuE l))∧(bif Jb (0:Int) false (Zc Glass.dec (List.map Glass.enc g)) (ZuE l) then Q (vB false) else Q (vB (false||Wa (List.drop (0:Nat) (Zc Face.dec (List.map Face.enc l.faces)))))))))))))) (fun _=>by kernel_rfl) ?_
 delta Qn ZuE Z5 vI vB
 refine Zb (fun h0=>?_) (fun h0=>Zb (fun h1=>?_) (fun h1=>Zb (fun h2=>?_) (fun h2=>Zb (fun h3=>?_) (fun h3=>⟨?r1,⟨?r0,⟨?_,Zb (fun h4=>?_) (fun h4=>?_)⟩⟩⟩))))
 case r0|r1=>first | rfl | (rw[YA];done) | (simp only[YA];omega) | (simp only[Face.enc];rfl) | (obtain ⟨a1,a2,a3,a4⟩:=hx;simp only[Qk_,Qc_] at h0;skip) | (simp only[LensM.enc,WN];done)
 all_goals (try simp only[YA,WN,Qi_,Qf_,Qk_,QO_,QG_,Jb,Qw_,show (⟨l.name,l.back,l.faces⟩:LensM)=l from rfl] at *)
 all_goals first | (simp only[Ja,Qe_] at *;omega) | (have e:decide (l.faces.length≤12)=false:=(by simp only[Qc_] at h3;exact QQ_ (by omega));simp only[Ji, *,Qp_,Ql_,Qr_,Qn_,Qu_,Qt_,Q4_,Qw_,Q5_,Q3_,Qb_,Qd_];rfl) | (have e:decide (l.faces.length≤12)=true:=(by simp only[Qe_] at h3;exact QH_ (by omega));simp only[Ji, *,Qp_,Ql_,Qr_,Qn_,Qu_,Qt_,Q4_,Qw_,Q5_,Q3_,Qb_,Qd_];rfl) | (simp only[Ji, *,Qp_,Ql_,Qr_,Qn_,Qu_,Qt_,Q4_,Qw_,Q5_,Q3_,Qb_,Qd_];rfl)
def Z3C:=Yy [(72,e72)]
def Zh0:Option St:=some ⟨60,[(2,AV.p (vB false))],[],[],[],[]⟩
def Znc(s:SysM):=List.map Surf.enc s.surfs
def Zf4(i:Int)(s:SysM):=(Znc s).getD i.toNat []
theorem Zn6:CSOk Tryz.prog Z3C:=Za Xp<|Ze
theorem ZtE:Ye Tryz.prog (Zn Tryz.f88 0) Zlu:=by
 refine lsG Zk.Γ (Zw Zk Zn6 Z4 Z3 Z7 (LS:=[]) (ZM (l:=[]) (by kernel_rfl) Zr) (n:=2000) (U2 Zwx) (U2 J3) (fun x e s=>((U2 J4 x=true∧e= .ret∧s=U2 Zgu x)∨(U2 J4 x=false∧e= .exit 0∧s=U2 Zgt x))) (fun x=>(x.2.surfs.length - x.1).toNat) Zlt Zty Ztz (fun x hx=>?_)) cv2 (fun _=>rfl) (fun _ h=>h) (fun _ _ _ _ h f=>fC h f fE fE)
 ·obtain ⟨i,s⟩:=x
  simp only[U2,J3] at hx
  refine sxT (fun Q=>(bif decide (i < ↑(Znc s).length) then (((0:Int)≤i∧(Znc s)[i.toNat]?=some (ZJ [vB false,vB false,vI 0,vI 0,vB false,vI 0,vI 0,vB false,vI 0,vI 0,vB false,vI 0,vI 0,vB false,vI 0,vI 0,vB false,vI 0,vI 0,vB false,vI 0,vI 0,vB false] (Zf4 i s)))∧(bif !right (Iv.dec (Zf4 i s).tail.tail) then Q (Ex.ret) Zh0 else (bif !right (Iv.dec (Zf4 i s).tail.tail.tail.tail.tail) then Q (Ex.ret) Zh0 else (bif !right (Iv.dec (Zf4 i s).tail.tail.tail.tail.tail.tail.tail.tail) then Q (Ex.ret) Zh0 else (bif !right (Iv.dec (Zf4 i s).tail.tail.tail.tail.tail.tail.tail.tail.tail.tail.tail) then Q (Ex.ret) Zh0 else (bif !right (Iv.dec (Zf4 i s).tail.tail.tail.tail.tail.tail.tail.tail.tail.tail.tail.tail.tail.tail) then Q (Ex.ret) Zh0 else (bif !right (Iv.dec (Zf4 i s).tail.tail.tail.tail.tail.tail.tail.tail.tail.tail.tail.tail.tail.tail.tail.tail.tail) then Q (Ex.ret) Zh0 else (bif !right (Iv.dec (Zf4 i s).tail.tail.tail.tail.tail.tail.tail.tail.tail.tail.tail.tail.tail.tail.tail.tail.tail.tail.tail.tail) then Q (Ex.ret) Zh0 else Q (Ex.normal) (some ⟨60,[(3,AV.p (vI (IntKind.i64.wrap (i+(1:Int))))),(1,AV.ptr 1 0)],[(1,[PV.lst (Znc s),vI s.op.lo,vI s.op.hi,vB s.op.no])],[],[],[]⟩))))))))) else Q (Ex.exit (0:Nat)) (some ⟨60,[(1,AV.ptr 1 0)],[(1,[PV.lst (Znc s),vI s.op.lo,vI s.op.hi,vB s.op.no])],[],[],[]⟩))) (fun _=>by kernel_rfl) ?_
  delta Zh0 Zf4 Znc vI vB
  refine Zb (fun h0=>⟨?r0,Zb (fun h1=> .inr ⟨by simp,_,rfl, ?_⟩) (fun h1=>Zb (fun h2=> .inr ⟨by simp,_,rfl, ?_⟩) (fun h2=>Zb (fun h3=> .inr ⟨by simp,_,rfl, ?_⟩) (fun h3=>Zb (fun h4=> .inr ⟨by simp,_,rfl, ?_⟩) (fun h4=>Zb (fun h5=> .inr ⟨by simp,_,rfl, ?_⟩) (fun h5=>Zb (fun h6=> .inr ⟨by simp,_,rfl, ?_⟩) (fun h6=>Zb (fun h7=> .inr ⟨by simp,_,rfl, ?_⟩) (fun h7=> .inl ⟨rfl,(IntKind.i64.wrap (i+(1:Int)),s),rfl, ?_, ?_, ?_⟩)))))))⟩) (fun h0=> .inr ⟨by simp,_,rfl, ?_⟩)
  case r0=>first | rfl | (rw[Zu];done) | (simp only[SysM.enc,Zu];done) | (obtain ⟨a1,a2,a3⟩:=hx;simp only[Qk_,Qc_] at h0;exact Z8 (fun _=>rfl) (by omega) (by omega))
  all_goals try dsimp only[U2]
  all_goals (obtain ⟨a1,a2,a3⟩:=hx;try simp only[Qk_,Qc_,Qe_] at h0)
  all_goals first | (have hk:i < s.surfs.length:=h0;obtain ⟨x,t,e1,e2,e3⟩:=Yf (l:=s.surfs) a1 (by omega);simp only[Yh e3] at *;have en:(s.surfs.drop i.toNat).all Jj=(Jj x&&t.all Jj):=(by rw[e1];rfl)) | skip
  all_goals try rw[Zg (show Fit (i+1) by constructor<;>omega)]
  all_goals try simp only[U2,J3,J4,Zgu,Zgt]
  all_goals (try simp only[Qi_,Qf_] at *)
  all_goals (try change right x.curve=_ at h1)
  all_goals (try change right x.conic=_ at h2)
  all_goals (try change right x.a4=_ at h3)
  all_goals (try change right x.a6=_ at h4)
  all_goals (try change right x.pos=_ at h5)
  all_goals (try change right x.open2=_ at h6)
  all_goals (try change right x.ratio=_ at h7)
  all_goals first | (have hr:Jj x=false:=(by simp only[Jj, *,Qp_,Ql_,Qr_,Qn_,Qu_,Qt_,Q4_,Qw_,Q5_,Q3_,Qb_,Qd_]);exact .inl ⟨by rw[en,hr];rfl,by trivial,by trivial⟩) | (exact ⟨by omega,by omega,a3⟩) | omega | (have hr:Jj x=true:=(by simp only[Jj, *,Qp_,Ql_,Qr_,Qn_,Qu_,Qt_,Q4_,Qw_,Q5_,Q3_,Qb_,Qd_]);rw[en,e2,hr];exact fun e s h=>h) | (exact .inr ⟨by rw[Q0_ (by omega)];rfl,by trivial,by trivial⟩)
theorem Zxx:ZF Tryz.prog [(3,Zlu)] Tryz.f88:=ZG (l:=[Zn Tryz.f88 0]) (by kernel_rfl) (Zz (i:=3) (by kernel_rfl) rfl ZtE (Zr))
def ZuF(s:SysM):=SysM.mk (Zc Surf.dec (List.map Surf.enc s.surfs)) s.op
theorem ZCL:Zh Tryz.prog 88 e88:=Zi<|Zf fun s=>EZ1 fun hp0=>by
 refine cfL Zn6 Zxx rfl ?_
 refine sxT (fun Q=>(([PV.lst (List.map Surf.enc s.surfs),vI s.op.lo,vI s.op.hi,vB s.op.no]=(ZuF s).enc)∧((J3 (0:Int) (ZuF s))∧(bif J4 (0:Int) (ZuF s) then Q (vB false) else Q (vB (right s.op)))))) (fun _=>by kernel_rfl) ?_
 delta Qn ZuF vI vB
 refine ⟨?r0,⟨?_,Zb (fun h0=>?_) (fun h0=>?_)⟩⟩
 case r0=>first | rfl | (rw[Zu];done) | (simp only[SysM.enc,Zu];done)
 all_goals simp only[J4,J3,Zu,QO_,QG_,Qi_,Qf_] at *
 ·exact ⟨by omega,by omega,hp0⟩
 ·simp only[Za1,h0,Ql_];rfl
 ·simp only[Za1,h0,Qp_];rfl
def Z81:=Yy [(80,e80),(46,e46),(81,e81),(82,e82),(83,e83),(84,e84),(85,e85),(86,e86),(87,e87),(88,e88)]
def fA(i:Int)(l:LensM):=(List.map Face.enc l.faces).getD i.toNat []
def Z82(i:Int)(l:LensM):=Dec.mk (intOf ((fA i l).tail.headD PV.nil)) (intOf ((fA i l).tail.tail.headD PV.nil))
def dAp(i:Int)(l:LensM):=Dec.mk (intOf ((fA i l).tail.tail.tail.headD PV.nil)) (intOf ((fA i l).tail.tail.tail.tail.headD PV.nil))
def dTh(i:Int)(l:LensM):=Dec.mk (intOf ((fA i l).tail.tail.tail.tail.tail.headD PV.nil)) (intOf ((fA i l).tail.tail.tail.tail.tail.tail.headD PV.nil))
def dCo(i:Int)(l:LensM):=Dec.mk (intOf ((fA i l).tail.tail.tail.tail.tail.tail.tail.headD PV.nil)) (intOf ((fA i l).tail.tail.tail.tail.tail.tail.tail.tail.headD PV.nil))
def dA4(i:Int)(l:LensM):=Dec.mk (intOf ((fA i l).tail.tail.tail.tail.tail.tail.tail.tail.tail.headD PV.nil)) (intOf ((fA i l).tail.tail.tail.tail.tail.tail.tail.tail.tail.tail.headD PV.nil))
def dA6(i:Int)(l:LensM):=Dec.mk (intOf ((fA i l).tail.tail.tail.tail.tail.tail.tail.tail.tail.tail.tail.headD PV.nil)) (intOf ((fA i l).tail.tail.tail.tail.tail.tail.tail.tail.tail.tail.tail.tail.headD PV.nil))
def gN(i:Int)(l:LensM):=ZcN ((fA i l).tail.tail.tail.tail.tail.tail.tail.tail.tail.tail.tail.tail.tail.headD PV.nil)
set_option maxHeartbeats 4000000 in
def Zbk(i:Int)(g:List Glass):=[(12,AV.p (vI (IntKind.i64.wrap (i+(1:Int))))),(9,AV.ptr 9 0),(10,AV.ptr 10 0),(11,AV.ptr 11 0),(5,AV.ptr 5 0),(1,AV.p (PV.lst (List.map Glass.enc g))),(8,AV.ptr 8 0),(3,AV.ptr 3 0),(6,AV.ptr 6 0)]
def Zq6(g:List Glass):=Zc Glass.dec (List.map Glass.enc g)
def Zh1(i:Int)(g:List Glass)(l:LensM):=YV (Zq6 g) (gN i l)
def Zbl:=[(Loc.b (nat_lit 9) (nat_lit 0),nat_lit 151),(Loc.b (nat_lit 6) (nat_lit 0),nat_lit 151)]
def ZP(i:Int)(l:LensM):=sqr (Zj (dAp i l))
def ZQ(i:Int)(one:Iv)(l:LensM):=add one (Zj (dCo i l))
def Zas(z:SysM):=[PV.lst (List.map Surf.enc z.surfs),vI z.op.lo,vI z.op.hi,vB z.op.no]
def XI(i:Int)(l:LensM):=Zt ((fA i l).headD PV.nil)
def Y5(i:Int)(one:Iv)(l:LensM):=Zp one (Zj (Z82 i l))
def XJ(i:Int)(g:List Glass)(ix:Iv)(w:Iv)(l:LensM):=Zp ix (ZcV (Zh1 i g l).fst w)
def Z3D(i:Int)(g:List Glass)(s:SysM)(pos:Iv)(ix:Iv)(w:Iv)(one:Iv)(l:LensM):=List.map Surf.enc s.surfs++[[vB (XI i l),vB true,vI (Y5 i one l).lo,vI (Y5 i one l).hi,vB (Y5 i one l).no,vI (ZQ i one l).lo,vI (ZQ i one l).hi,vB (ZQ i one l).no,vI (Zj (dA4 i l)).lo,vI (Zj (dA4 i l)).hi,vB (Zj (dA4 i l)).no,vI (Zj (dA6 i l)).lo,vI (Zj (dA6 i l)).hi,vB (Zj (dA6 i l)).no,vI pos.lo,vI pos.hi,vB pos.no,vI (ZP i l).lo,vI (ZP i l).hi,vB (ZP i l).no,vI (XJ i g ix w l).lo,vI (XJ i g ix w l).hi,vB (XJ i g ix w l).no]]
def Z3E(i:Int)(s:SysM)(pos:Iv)(ix:Iv)(one:Iv)(l:LensM):=List.map Surf.enc s.surfs++[[vB (XI i l),vB true,vI (Y5 i one l).lo,vI (Y5 i one l).hi,vB (Y5 i one l).no,vI (ZQ i one l).lo,vI (ZQ i one l).hi,vB (ZQ i one l).no,vI (Zj (dA4 i l)).lo,vI (Zj (dA4 i l)).hi,vB (Zj (dA4 i l)).no,vI (Zj (dA6 i l)).lo,vI (Zj (dA6 i l)).hi,vB (Zj (dA6 i l)).no,vI pos.lo,vI pos.hi,vB pos.no,vI (ZP i l).lo,vI (ZP i l).hi,vB (ZP i l).no,vI (Zp ix one).lo,vI (Zp ix one).hi,vB (Zp ix one).no]]
def Z3F(i:Int)(s:SysM)(pos:Iv)(one:Iv)(l:LensM):=List.map Surf.enc s.surfs++[[vB (XI i l),vB true,vI (Y5 i one l).lo,vI (Y5 i one l).hi,vB (Y5 i one l).no,vI (ZQ i one l).lo,vI (ZQ i one l).hi,vB (ZQ i one l).no,vI (Zj (dA4 i l)).lo,vI (Zj (dA4 i l)).hi,vB (Zj (dA4 i l)).no,vI (Zj (dA6 i l)).lo,vI (Zj (dA6 i l)).hi,vB (Zj (dA6 i l)).no,vI pos.lo,vI pos.hi,vB pos.no,vI (ZP i l).lo,vI (ZP i l).hi,vB (ZP i l).no,vI one.lo,vI one.hi,vB one.no]]
def J9(s:SysM):=(List.map Surf.enc s.surfs).length+(1:Nat)
def Zxy(i:Int)(g:List Glass)(s:SysM)(pos:Iv)(ix:Iv)(w:Iv)(one:Iv)(l:LensM):=List.map Surf.enc s.surfs++[[vB (XI i l),vB true,vI 0,vI 0,vB false,vI (ZQ i one l).lo,vI (ZQ i one l).hi,vB (ZQ i one l).no,vI (Zj (dA4 i l)).lo,vI (Zj (dA4 i l)).hi,vB (Zj (dA4 i l)).no,vI (Zj (dA6 i l)).lo,vI (Zj (dA6 i l)).hi,vB (Zj (dA6 i l)).no,vI pos.lo,vI pos.hi,vB pos.no,vI (ZP i l).lo,vI (ZP i l).hi,vB (ZP i l).no,vI (XJ i g ix w l).lo,vI (XJ i g ix w l).hi,vB (XJ i g ix w l).no]]
def Zxz(i:Int)(s:SysM)(pos:Iv)(ix:Iv)(one:Iv)(l:LensM):=List.map Surf.enc s.surfs++[[vB (XI i l),vB true,vI 0,vI 0,vB false,vI (ZQ i one l).lo,vI (ZQ i one l).hi,vB (ZQ i one l).no,vI (Zj (dA4 i l)).lo,vI (Zj (dA4 i l)).hi,vB (Zj (dA4 i l)).no,vI (Zj (dA6 i l)).lo,vI (Zj (dA6 i l)).hi,vB (Zj (dA6 i l)).no,vI pos.lo,vI pos.hi,vB pos.no,vI (ZP i l).lo,vI (ZP i l).hi,vB (ZP i l).no,vI (Zp ix one).lo,vI (Zp ix one).hi,vB (Zp ix one).no]]
def Zx0(i:Int)(s:SysM)(pos:Iv)(one:Iv)(l:LensM):=List.map Surf.enc s.surfs++[[vB (XI i l),vB true,vI 0,vI 0,vB false,vI (ZQ i one l).lo,vI (ZQ i one l).hi,vB (ZQ i one l).no,vI (Zj (dA4 i l)).lo,vI (Zj (dA4 i l)).hi,vB (Zj (dA4 i l)).no,vI (Zj (dA6 i l)).lo,vI (Zj (dA6 i l)).hi,vB (Zj (dA6 i l)).no,vI pos.lo,vI pos.hi,vB pos.no,vI (ZP i l).lo,vI (ZP i l).hi,vB (ZP i l).no,vI one.lo,vI one.hi,vB one.no]]
def JA(i:Int)(pos:Iv)(l:LensM):=eIv (add pos (Zj (dTh i l)))
def ZlQ(g:List Glass):=List.map Glass.enc g=List.map Glass.enc (Zq6 g)
def ZlR:=[(97:UInt8),(105:UInt8),(114:UInt8)]
def ZlS(g:List Glass):=(Zq6 g).length≤(140737488355328:Nat)
def ZlT(i:Int)(g:List Glass)(l:LensM):=(Zgl (Zh1 i g l).fst)=(Zh1 i g l).fst.enc
theorem Ztm:CSOk Tryz.prog Z81:=Za ZCK<|Za ZbU<|Za Zuw<|Za Z8Z<|Za ZbV<|Za Zdn<|Za Zhx<|Za Z9a<|Za ZCH<|Za ZCL<|Ze
set_option maxHeartbeats 4000000 in
theorem ZzJ:Ye Tryz.prog (Zn Tryz.f53 0) ZpM:=by
 refine lsG Zk.Γ (Zw Zk Ztm Z4 Z3 Z7 (LS:=[]) (ZM (l:=[]) (by kernel_rfl) Zr) (n:=2000) (U9 ZpK) (U9 Zdb) (fun x e s=>(e= .exit 0∧s=U9 Zfx x)) (fun x=>(x.2.2.2.2.2.2.2.1.faces.length - x.1).toNat) ZpL Zz3 Zz4 (fun x hx=>?_)) cv9 (fun _=>rfl) (fun _ h=>h) (fun _ _ _ _ h f=>fE h f)
 ·obtain ⟨i,g,s,pos,ix,w,one,l,z⟩:=x
  simp only[U9,Zdb] at hx
  refine sxT (fun Q=>(bif decide (i < ↑(List.map Face.enc l.faces).length) then (((0:Int)≤i∧(List.map Face.enc l.faces)[i.toNat]?=some (ZJ [vB false,vI 0,vI 0,vI 0,vI 0,vI 0,vI 0,vI 0,vI 0,vI 0,vI 0,vI 0,vI 0,PV.str []] (fA i l)))∧(bif !YD (dA4 i l) then (bif intOf ((fA i l).tail.headD PV.nil)!=(0:Int) then (bif !Zt ((fA i l).headD PV.nil) then (bif !(gN i l)==ZlR then ((ZlQ g)∧((ZlS g)∧((ZlT i g l)∧(((0:Nat) < (1:Nat)∧(J9 s)* (176:Nat)≤(140737488355328:Nat)∧Lens (23:Nat) (Z3D i g s pos ix w one l))∧Q (Ex.normal) (some ⟨126,(Zbk i g),[(9,[PV.lst (Z3D i g s pos ix w one l),vI s.op.lo,vI s.op.hi,vB s.op.no]),(10,(JA i pos l)),(11,(eIv (ZcV (Zh1 i g l).fst w))),(5,(eIv w)),(8,(eIv one)),(3,(Z5 l)),(6,(Zas z))],[],Zbl,[]⟩))))) else (((0:Nat) < (1:Nat)∧(J9 s)* (176:Nat)≤(140737488355328:Nat)∧Lens (23:Nat) (Z3E i s pos ix one l))∧Q (Ex.normal) (some ⟨126,(Zbk i g),[(9,[PV.lst (Z3E i s pos ix one l),vI s.op.lo,vI s.op.hi,vB s.op.no]),(10,(JA i pos l)),(11,(eIv one)),(5,(eIv w)),(8,(eIv one)),(3,(Z5 l)),(6,(Zas z))],[],Zbl,[]⟩))) else (((0:Nat) < (1:Nat)∧(J9 s)* (176:Nat)≤(140737488355328:Nat)∧Lens (23:Nat) (Z3F i s pos one l))∧Q (Ex.normal) (some ⟨126,(Zbk i g),[(9,[PV.lst (Z3F i s pos one l),vI s.op.lo,vI s.op.hi,vB s.op.no]),(10,(JA i pos l)),(11,(eIv ix)),(5,(eIv w)),(8,(eIv one)),(3,(Z5 l)),(6,(Zas z))],[],Zbl,[]⟩))) else (bif !Zt ((fA i l).headD PV.nil) then (bif !(gN i l)==ZlR then ((ZlQ g)∧((ZlS g)∧((ZlT i g l)∧(((0:Nat) < (1:Nat)∧(J9 s)* (176:Nat)≤(140737488355328:Nat)∧Lens (23:Nat) (Zxy i g s pos ix w one l))∧Q (Ex.normal) (some ⟨126,(Zbk i g),[(9,[PV.lst (Zxy i g s pos ix w one l),vI s.op.lo,vI s.op.hi,vB s.op.no]),(10,(JA i pos l)),(11,(eIv (ZcV (Zh1 i g l).fst w))),(5,(eIv w)),(8,(eIv one)),(3,(Z5 l)),(6,(Zas z))],[],Zbl,[]⟩))))) else (((0:Nat) < (1:Nat)∧(J9 s)* (176:Nat)≤(140737488355328:Nat)∧Lens (23:Nat) (Zxz i s pos ix one l))∧Q (Ex.normal) (some ⟨126,(Zbk i g),[(9,[PV.lst (Zxz i s pos ix one l),vI s.op.lo,vI s.op.hi,vB s.op.no]),(10,(JA i pos l)),(11,(eIv one)),(5,(eIv w)),(8,(eIv one)),(3,(Z5 l)),(6,(Zas z))],[],Zbl,[]⟩))) else (((0:Nat) < (1:Nat)∧(J9 s)* (176:Nat)≤(140737488355328:Nat)∧Lens (23:Nat) (Zx0 i s pos one l))∧Q (Ex.normal) (some ⟨126,(Zbk i g),[(9,[PV.lst (Zx0 i s pos one l),vI s.op.lo,vI s.op.hi,vB s.op.no]),(10,(JA i pos l)),(11,(eIv ix)),(5,(eIv w)),(8,(eIv one)),(3,(Z5 l)),(6,(Zas z))],[],Zbl,[]⟩)))) else (bif intOf ((fA i l).tail.headD PV.nil)!=(0:Int) then (bif !Zt ((fA i l).headD PV.nil) then (bif !(gN i l)==ZlR then ((ZlQ g)∧((ZlS g)∧((ZlT i g l)∧(((0:Nat) < (1:Nat)∧(J9 s)* (176:Nat)≤(140737488355328:Nat)∧Lens (23:Nat) (List.map Surf.enc s.surfs++[[vB (XI i l),vB !YD (dA6 i l),vI (Y5 i one l).lo,vI (Y5 i one l).hi,vB (Y5 i one l).no,vI (ZQ i one l).lo,vI (ZQ i one l).hi,vB (ZQ i one l).no,vI (Zj (dA4 i l)).lo,vI (Zj (dA4 i l)).hi,vB (Zj (dA4 i l)).no,vI (Zj (dA6 i l)).lo,vI (Zj (dA6 i l)).hi,vB (Zj (dA6 i l)).no,vI pos.lo,vI pos.hi,vB pos.no,vI (ZP i l).lo,vI (ZP i l).hi,vB (ZP i l).no,vI (XJ i g ix w l).lo,vI (XJ i g ix w l).hi,vB (XJ i g ix w l).no]]))∧Q (Ex.normal) (some ⟨126,(Zbk i g),[(9,[PV.lst (List.map Surf.enc s.surfs++[[vB (XI i l),vB (!YD (dA6 i l)),vI (Y5 i one l).lo,vI (Y5 i one l).hi,vB (Y5 i one l).no,vI (ZQ i one l).lo,vI (ZQ i one l).hi,vB (ZQ i one l).no,vI (Zj (dA4 i l)).lo,vI (Zj (dA4 i l)).hi,vB (Zj (dA4 i l)).no,vI (Zj (dA6 i l)).lo,vI (Zj (dA6 i l)).hi,vB (Zj (dA6 i l)).no,vI pos.lo,vI pos.hi,vB pos.no,vI (ZP i l).lo,vI (ZP i l).hi,vB (ZP i l).no,vI (XJ i g ix w l).lo,vI (XJ i g ix w l).hi,vB (XJ i g ix w l).no]]),vI s.op.lo,vI s.op.hi,vB s.op.no]),(10,(JA i pos l)),(11,(eIv (ZcV (Zh1 i g l).fst w))),(5,(eIv w)),(8,(eIv one)),(3,(Z5 l)),(6,(Zas z))],[],Zbl,[]⟩))))) else (((0:Nat) < (1:Nat)∧(J9 s)* (176:Nat)≤(140737488355328:Nat)∧Lens (23:Nat) (List.map Surf.enc s.surfs++[[vB (XI i l),vB !YD (dA6 i l),vI (Y5 i one l).lo,vI (Y5 i one l).hi,vB (Y5 i one l).no,vI (ZQ i one l).lo,vI (ZQ i one l).hi,vB (ZQ i one l).no,vI (Zj (dA4 i l)).lo,vI (Zj (dA4 i l)).hi,vB (Zj (dA4 i l)).no,vI (Zj (dA6 i l)).lo,vI (Zj (dA6 i l)).hi,vB (Zj (dA6 i l)).no,vI pos.lo,vI pos.hi,vB pos.no,vI (ZP i l).lo,vI (ZP i l).hi,vB (ZP i l).no,vI (Zp ix one).lo,vI (Zp ix one).hi,vB (Zp ix one).no]]))∧Q (Ex.normal) (some ⟨126,(Zbk i g),[(9,[PV.lst (List.map Surf.enc s.surfs++[[vB (XI i l),vB (!YD (dA6 i l)),vI (Y5 i one l).lo,vI (Y5 i one l).hi,vB (Y5 i one l).no,vI (ZQ i one l).lo,vI (ZQ i one l).hi,vB (ZQ i one l).no,vI (Zj (dA4 i l)).lo,vI (Zj (dA4 i l)).hi,vB (Zj (dA4 i l)).no,vI (Zj (dA6 i l)).lo,vI (Zj (dA6 i l)).hi,vB (Zj (dA6 i l)).no,vI pos.lo,vI pos.hi,vB pos.no,vI (ZP i l).lo,vI (ZP i l).hi,vB (ZP i l).no,vI (Zp ix one).lo,vI (Zp ix one).hi,vB (Zp ix one).no]]),vI s.op.lo,vI s.op.hi,vB s.op.no]),(10,(JA i pos l)),(11,(eIv one)),(5,(eIv w)),(8,(eIv one)),(3,(Z5 l)),(6,(Zas z))],[],Zbl,[]⟩))) else (((0:Nat) < (1:Nat)∧(J9 s)* (176:Nat)≤(140737488355328:Nat)∧Lens (23:Nat) (List.map Surf.enc s.surfs++[[vB (XI i l),vB !YD (dA6 i l),vI (Y5 i one l).lo,vI (Y5 i one l).hi,vB (Y5 i one l).no,vI (ZQ i one l).lo,vI (ZQ i one l).hi,vB (ZQ i one l).no,vI (Zj (dA4 i l)).lo,vI (Zj (dA4 i l)).hi,vB (Zj (dA4 i l)).no,vI (Zj (dA6 i l)).lo,vI (Zj (dA6 i l)).hi,vB (Zj (dA6 i l)).no,vI pos.lo,vI pos.hi,vB pos.no,vI (ZP i l).lo,vI (ZP i l).hi,vB (ZP i l).no,vI one.lo,vI one.hi,vB one.no]]))∧Q (Ex.normal) (some ⟨126,(Zbk i g),[(9,[PV.lst (List.map Surf.enc s.surfs++[[vB (XI i l),vB (!YD (dA6 i l)),vI (Y5 i one l).lo,vI (Y5 i one l).hi,vB (Y5 i one l).no,vI (ZQ i one l).lo,vI (ZQ i one l).hi,vB (ZQ i one l).no,vI (Zj (dA4 i l)).lo,vI (Zj (dA4 i l)).hi,vB (Zj (dA4 i l)).no,vI (Zj (dA6 i l)).lo,vI (Zj (dA6 i l)).hi,vB (Zj (dA6 i l)).no,vI pos.lo,vI pos.hi,vB pos.no,vI (ZP i l).lo,vI (ZP i l).hi,vB (ZP i l).no,vI one.lo,vI one.hi,vB one.no]]),vI s.op.lo,vI s.op.hi,vB s.op.no]),(10,(JA i pos l)),(11,(eIv ix)),(5,(eIv w)),(8,(eIv one)),(3,(Z5 l)),(6,(Zas z))],[],Zbl,[]⟩))) else (bif !Zt ((fA i l).headD PV.nil) then (bif !(gN i l)==ZlR then ((ZlQ g)∧((ZlS g)∧((ZlT i g l)∧(((0:Nat) < (1:Nat)∧(J9 s)* (176:Nat)≤(140737488355328:Nat)∧Lens (23:Nat) (List.map Surf.enc s.surfs++[[vB (XI i l),vB !YD (dA6 i l),vI 0,vI 0,vB false,vI (ZQ i one l).lo,vI (ZQ i one l).hi,vB (ZQ i one l).no,vI (Zj (dA4 i l)).lo,vI (Zj (dA4 i l)).hi,vB (Zj (dA4 i l)).no,vI (Zj (dA6 i l)).lo,vI (Zj (dA6 i l)).hi,vB (Zj (dA6 i l)).no,vI pos.lo,vI pos.hi,vB pos.no,vI (ZP i l).lo,vI (ZP i l).hi,vB (ZP i l).no,vI (XJ i g ix w l).lo,vI (XJ i g ix w l).hi,vB (XJ i g ix w l).no]]))∧Q (Ex.normal) (some ⟨126,(Zbk i g),[(9,[PV.lst (List.map Surf.enc s.surfs++[[vB (XI i l),vB (!YD (dA6 i l)),vI 0,vI 0,vB false,vI (ZQ i one l).lo,vI (ZQ i one l).hi,vB (ZQ i one l).no,vI (Zj (dA4 i l)).lo,vI (Zj (dA4 i l)).hi,vB (Zj (dA4 i l)).no,vI (Zj (dA6 i l)).lo,vI (Zj (dA6 i l)).hi,vB (Zj (dA6 i l)).no,vI pos.lo,vI pos.hi,vB pos.no,vI (ZP i l).lo,vI (ZP i l).hi,vB (ZP i l).no,vI (XJ i g ix w l).lo,vI (XJ i g ix w l).hi,vB (XJ i g ix w l).no]]),vI s.op.lo,vI s.op.hi,vB s.op.no]),(10,(JA i pos l)),(11,(eIv (ZcV (Zh1 i g l).fst w))),(5,(eIv w)),(8,(eIv one)),(3,(Z5 l)),(6,(Zas z))],[],Zbl,[]⟩))))) else (((0:Nat) < (1:Nat)∧(J9 s)* (176:Nat)≤(140737488355328:Nat)∧Lens (23:Nat) (List.map Surf.enc s.surfs++[[vB (XI i l),vB !YD (dA6 i l),vI 0,vI 0,vB false,vI (ZQ i one l).lo,vI (ZQ i one l).hi,vB (ZQ i one l).no,vI (Zj (dA4 i l)).lo,vI (Zj (dA4 i l)).hi,vB (Zj (dA4 i l)).no,vI (Zj (dA6 i l)).lo,vI (Zj (dA6 i l)).hi,vB (Zj (dA6 i l)).no,vI pos.lo,vI pos.hi,vB pos.no,vI (ZP i l).lo,vI (ZP i l).hi,vB (ZP i l).no,vI (Zp ix one).lo,vI (Zp ix one).hi,vB (Zp ix one).no]]))∧Q (Ex.normal) (some ⟨126,(Zbk i g),[(9,[PV.lst (List.map Surf.enc s.surfs++[[vB (XI i l),vB (!YD (dA6 i l)),vI 0,vI 0,vB false,vI (ZQ i one l).lo,vI (ZQ i one l).hi,vB (ZQ i one l).no,vI (Zj (dA4 i l)).lo,vI (Zj (dA4 i l)).hi,vB (Zj (dA4 i l)).no,vI (Zj (dA6 i l)).lo,vI (Zj (dA6 i l)).hi,vB (Zj (dA6 i l)).no,vI pos.lo,vI pos.hi,vB pos.no,vI (ZP i l).lo,vI (ZP i l).hi,vB (ZP i l).no,vI (Zp ix one).lo,vI (Zp ix one).hi,vB (Zp ix one).no]]),vI s.op.lo,vI s.op.hi,vB s.op.no]),(10,(JA i pos l)),(11,(eIv one)),(5,(eIv w)),(8,(eIv one)),(3,(Z5 l)),(6,(Zas z))],[],Zbl,[]⟩))) else (((0:Nat) < (1:Nat)∧(J9 s)* (176:Nat)≤(140737488355328:Nat)∧Lens (23:Nat) (List.map Surf.enc s.surfs++[[vB (XI i l),vB !YD (dA6 i l),vI 0,vI 0,vB false,vI (ZQ i one l).lo,vI (ZQ i one l).hi,vB (ZQ i one l).no,vI (Zj (dA4 i l)).lo,vI (Zj (dA4 i l)).hi,vB (Zj (dA4 i l)).no,vI (Zj (dA6 i l)).lo,vI (Zj (dA6 i l)).hi,vB (Zj (dA6 i l)).no,vI pos.lo,vI pos.hi,vB pos.no,vI (ZP i l).lo,vI (ZP i l).hi,vB (ZP i l).no,vI one.lo,vI one.hi,vB one.no]]))∧Q (Ex.normal) (some ⟨126,(Zbk i g),[(9,[PV.lst (List.map Surf.enc s.surfs++[[vB (XI i l),vB (!YD (dA6 i l)),vI 0,vI 0,vB false,vI (ZQ i one l).lo,vI (ZQ i one l).hi,vB (ZQ i one l).no,vI (Zj (dA4 i l)).lo,vI (Zj (dA4 i l)).hi,vB (Zj (dA4 i l)).no,vI (Zj (dA6 i l)).lo,vI (Zj (dA6 i l)).hi,vB (Zj (dA6 i l)).no,vI pos.lo,vI pos.hi,vB pos.no,vI (ZP i l).lo,vI (ZP i l).hi,vB (ZP i l).no,vI one.lo,vI one.hi,vB one.no]]),vI s.op.lo,vI s.op.hi,vB s.op.no]),(10,(JA i pos l)),(11,(eIv ix)),(5,(eIv w)),(8,(eIv one)),(3,(Z5 l)),(6,(Zas z))],[],Zbl,[]⟩)))))) else Q (Ex.exit (0:Nat)) (some ⟨126,[(6,AV.ptr 6 0),(9,AV.ptr 9 0)],[(6,(Zas z)),(9,[PV.lst (List.map Surf.enc s.surfs),vI s.op.lo,vI s.op.hi,vB s.op.no])],[],[],[]⟩))) (fun _=>by kernel_rfl) ?_
  delta Zbk Zh1 Zbl ZP ZQ Zas Z3D Z3E Z3F J9 Zxy XI Zxz Y5 Zx0 XJ Zq6 JA ZlQ ZlR ZlS ZlT eIv Zgl Z5 vI vB
  refine Zb (fun h0=>⟨?r24,Zb (fun h1=>Zb (fun h2=>Zb (fun h3=>Zb (fun h4=>⟨?r3,⟨?r2,⟨?r1,⟨?r0, ?_⟩⟩⟩⟩) (fun h4=>⟨?r4, ?_⟩)) (fun h3=>⟨?r5, ?_⟩)) (fun h2=>Zb (fun h3=>Zb (fun h4=>⟨?r9,⟨?r8,⟨?r7,⟨?r6, ?_⟩⟩⟩⟩) (fun h4=>⟨?r10, ?_⟩)) (fun h3=>⟨?r11, ?_⟩))) (fun h1=>Zb (fun h2=>Zb (fun h3=>Zb (fun h4=>⟨?r15,⟨?r14,⟨?r13,⟨?r12, ?_⟩⟩⟩⟩) (fun h4=>⟨?r16, ?_⟩)) (fun h3=>⟨?r17, ?_⟩)) (fun h2=>Zb (fun h3=>Zb (fun h4=>⟨?r21,⟨?r20,⟨?r19,⟨?r18, ?_⟩⟩⟩⟩) (fun h4=>⟨?r22, ?_⟩)) (fun h3=>⟨?r23, ?_⟩)))⟩) (fun h0=>?_)
  case r0|r1|r2|r3|r4|r5|r6|r7|r8|r9|r10|r11|r12|r13|r14|r15|r16|r17|r18|r19|r20|r21|r22|r23|r24=>first | rfl | (rw[YA];done) | (simp only[SysM.enc,Zu];done) | (simp only[Qf_,YA,WN,Zu,QG_,show Zc Surf.dec []=[] from rfl,QJ_,Zee,show (⟨l.name,l.back,l.faces⟩:LensM)=l from rfl] at *;have hl:=(Za3 h0).2;omega) | (try simp only[YA,LensM.enc,WN,Qk_] at *;first | done | rfl | omega | exact hp0 | (obtain ⟨⟨a1,a2,a3,a4,a5⟩,a6⟩:=hx;simp only[Qc_] at h0;first | omega | exact Z8 (fun _=>rfl) (by omega) (by omega) | exact ⟨by decide,by omega,Xk (Xb (e:=Surf.enc) (fun _=>rfl) _) rfl⟩))
  all_goals (obtain ⟨⟨a1,a2,a3,a4,a5⟩,a6⟩:=hx;try simp only[Qk_,Qc_,Qe_] at h0)
  all_goals subst a6
  all_goals first | (have hk:i < l.faces.length:=h0;obtain ⟨x,t,e1,e2,e3⟩:=Yf (l:=l.faces) a1 (by omega);have eA:fA i l=Face.enc x:=Yh e3;have r1:Z82 i l=x.radius:=(by unfold Z82;rw[eA];rfl);have r2:dAp i l=x.aperture:=(by unfold dAp;rw[eA];rfl);have r3:dTh i l=x.thick:=(by unfold dTh;rw[eA];rfl);have r4:dCo i l=x.conic:=(by unfold dCo;rw[eA];rfl);have r5:dA4 i l=x.a4:=(by unfold dA4;rw[eA];rfl);have r6:dA6 i l=x.a6:=(by unfold dA6;rw[eA];rfl);have r7:gN i l=x.glass:=(by unfold gN;rw[eA];rfl);(try simp only[r1,r2,r3,r4,r5,r6,r7,eA,YA] at *)) | (exact .inr ⟨by simp,_,rfl,by trivial,by unfold U9 Zfx;(try dsimp only);rw[List.drop_eq_nil_of_le (by omega),show ∀p q,WX g w [] p q=[] from fun _ _=>rfl,List.append_nil];rfl⟩)
  all_goals (have hw:IntKind.i64.wrap (i+1)=i+1:=Zg (by constructor<;>omega);have eb:WX g w (l.faces.drop i.toNat) pos ix=Zp0 x pos (ZmO x g w ix)::WX g w (l.faces.drop (IntKind.i64.wrap (i+1)).toNat) (add pos (Zj x.thick)) (Zp1 x g w ix):=(by rw[hw,e1,e2];rfl))
  all_goals
   refine .inl ⟨by trivial,(IntKind.i64.wrap (i+1),g,⟨s.surfs++[Zp0 x pos (ZmO x g w ix)],s.op⟩,add pos (Zj x.thick),Zp1 x g w ix,w,point 65536,l,z), ?_, ?_, ?_, ?_⟩
   ·simp only[Qi_,Qf_,bne] at *
    have q1:intOf (x.enc.tail.headD PV.nil)=x.radius.c:=rfl
    have q2:Zt (x.enc.headD PV.nil)=x.stop:=rfl
    simp only[q1,q2] at *
    simp only[U9,ZpK,SysM.enc,LensM.enc,QR_,QE_,QN_,Surf.enc,Zp0,ZmO,Zp1,ZnS,Z03,ZkX,bne, *,Qp_,Ql_,Qr_,Qn_,Qu_,Qt_,Q4_,Qw_,Q5_,Q3_,Qb_,Qd_]
    try rfl
   ·simp only[U9,Zdb,hw,Qx_,Qs_,Q1_];exact ⟨⟨by omega,by omega,a3,a4,by omega⟩,trivial⟩
   ·simp only[hw];omega
   ·intro e s' h;refine ⟨h.1,h.2.trans ?_⟩;unfold U9 Zfx;rw[eb];simp only[QB_,QS_,QJ_]
theorem Z3G:ZF Tryz.prog [(9,ZpM)] Tryz.f53:=ZG (l:=[Zn Tryz.f53 0]) (by kernel_rfl) (Zz (i:=9) (by kernel_rfl) rfl ZzJ (Zr))
def ZgA(l:LensM):=List.map Face.enc l.faces
def Jl(l:LensM):=Zj (Dec.mk (intOf (((ZgA l).getD (0:Nat) []).tail.tail.tail.headD PV.nil)) (intOf (((ZgA l).getD (0:Nat) []).tail.tail.tail.tail.headD PV.nil)))
def ZgB(g:List Glass):=Zc Glass.dec (List.map Glass.enc g)
def Zi0(l:LensM)(g:List Glass)(w:Iv):=List.map Surf.enc (Zc Surf.dec []++WX (ZgB g) w (List.drop (0:Nat) (Zc Face.dec (ZgA l))) (Zj l.back) (point (65536:Int)))
def ZlU(l:LensM):=LensM.mk l.name l.back (Zc Face.dec (ZgA l))
def q23_28:=SysM.mk (Zc Surf.dec []) (Iv.mk (0:Int) (0:Int) false)
set_option maxHeartbeats 4000000 in
theorem ZCM:Zh Tryz.prog 53 e53:=Zi<|Zf fun l=>Zf fun g=>Zf fun w=>EZ1 fun hp0=>by
 refine cfL Ztm Z3G rfl ?_
 refine sxT (fun Q=>(((Z5 l)=(ZlU l).enc)∧((List.map Glass.enc g=List.map Glass.enc (ZgB g))∧(((ZgB g).length≤(140737488355328:Nat))∧(bif !Ji (ZlU l) (ZgB g) then Q (PV.tup [PV.agg [.nil,vI 0,vI 0,vB false],vI 1]) else (((0:Int)≤(0:Int)∧(ZgA l)[(0:Nat)]?=some (ZJ [vB false,vI 0,vI 0,vI 0,vI 0,vI 0,vI 0,vI 0,vI 0,vI 0,vI 0,vI 0,vI 0,PV.str []] ((ZgA l).getD (0:Nat) [])))∧((List.map Glass.enc g=List.map Glass.enc (ZgB g))∧(([PV.lst [],vI (Jl l).lo,vI (Jl l).hi,vB (Jl l).no]=(SysM.mk (Zc Surf.dec []) (Jl l)).enc)∧(((Z5 l)=(ZlU l).enc)∧(([PV.lst [],vI 0,vI 0,vB false]=q23_28.enc)∧((Zdb (0:Int) (ZgB g) (SysM.mk (Zc Surf.dec []) (Jl l)) (Zj l.back) (point (65536:Int)) w (point (65536:Int)) (ZlU l) q23_28)∧(([PV.lst (Zi0 l g w),vI (Jl l).lo,vI (Jl l).hi,vB (Jl l).no]=(SysM.mk (Zc Surf.dec (Zi0 l g w)) (Jl l)).enc)∧(((Zc Surf.dec (Zi0 l g w)).length≤(140737488355328:Nat))∧(bif !Za1 (SysM.mk (Zc Surf.dec (Zi0 l g w)) (Jl l)) then Q (PV.tup [PV.agg [.nil,vI 0,vI 0,vB false],vI 6]) else Q (PV.tup [PV.agg [PV.lst (Zi0 l g w),vI (Jl l).lo,vI (Jl l).hi,vB (Jl l).no],vI 0]))))))))))))))) (fun _=>by kernel_rfl) ?_
 delta Qn Jl Zi0 ZlU ZgB ZgA q23_28 Z5 vI vB
 refine ⟨?r9,⟨?r8,⟨?r7,Zb (fun h0=>?_) (fun h0=>⟨?r6,⟨?r5,⟨?r4,⟨?r3,⟨?r2,⟨?_,⟨?r1,⟨?r0,Zb (fun h1=>?_) (fun h1=>?_)⟩⟩⟩⟩⟩⟩⟩⟩)⟩⟩⟩
 case r0|r1|r2|r3|r4|r5|r6|r7|r8|r9=>first | rfl | (rw[YA];done) | (simp only[SysM.enc,Zu];done) | (simp only[Qf_,YA,WN,Zu,QG_,show Zc Surf.dec []=[] from rfl,QJ_,Zee,show (⟨l.name,l.back,l.faces⟩:LensM)=l from rfl] at *;have hl:=(Za3 h0).2;omega) | (try simp only[YA,LensM.enc,WN,Qk_] at *;first | done | rfl | omega | exact hp0 | (obtain ⟨⟨a1,a2,a3,a4,a5⟩,a6⟩:=hx;simp only[Qc_] at h0;skip) | (simp only[Qf_,show (⟨l.name,l.back,l.faces⟩:LensM)=l from rfl] at h0;obtain ⟨⟨f,t,hf⟩,_⟩:=Za3 h0;exact Z8 (i:=0) (fun _=>rfl) (by omega) (by rw[hf];simp only[Qs_];omega)))
 all_goals simp only[YA,WN,Zu,Qi_,Qf_,QG_,QO_,show Zc Surf.dec []=[] from rfl,QJ_,show (⟨l.name,l.back,l.faces⟩:LensM)=l from rfl] at *
 ·simp only[Za2,h0,Qd_];rfl
 all_goals obtain ⟨⟨f,t,hf⟩,hl⟩:=Za3 h0
 all_goals have ef:(List.map Face.enc l.faces).getD 0 []=Face.enc f:=(by rw[hf];rfl)
 all_goals simp only[ef] at *
 all_goals have e0:Zgd l g w=⟨WX g w l.faces (Zj l.back) (point 65536),Zj f.aperture⟩:=(by unfold Zgd Z8Q;rw[hf];rfl)
 ·exact ⟨⟨by omega,by simp,by simpa using hl,hp0,rfl⟩,rfl⟩
 ·change Za1 ⟨WX g w l.faces (Zj l.back) (point 65536),Zj f.aperture⟩=false at h1
  rw[←e0] at h1
  simp only[Za2,h0,h1,Qb_,Qd_];rfl
 ·change Za1 ⟨WX g w l.faces (Zj l.back) (point 65536),Zj f.aperture⟩=true at h1
  rw[←e0] at h1
  have eb:Za2 l g w=(Zgd l g w,0):=(by simp only[Za2,h0,h1,Qb_])
  rw[eb,e0];rfl
def Zca(i:Int)(l:LensM):=(List.map Face.enc l.faces).getD i.toNat []
def Z3H(i:Int)(out:List Face)(l:LensM):=List.map Face.enc out++[[vB (Zt ((Zca i l).headD PV.nil)),vI (intOf ((Zca i l).tail.headD PV.nil)),vI (intOf ((Zca i l).tail.tail.headD PV.nil)),vI (intOf ((Zca i l).tail.tail.tail.headD PV.nil)),vI (intOf ((Zca i l).tail.tail.tail.tail.headD PV.nil)),vI (intOf ((Zca i l).tail.tail.tail.tail.tail.headD PV.nil)),vI (intOf ((Zca i l).tail.tail.tail.tail.tail.tail.headD PV.nil)),vI (intOf ((Zca i l).tail.tail.tail.tail.tail.tail.tail.headD PV.nil)),vI (intOf ((Zca i l).tail.tail.tail.tail.tail.tail.tail.tail.headD PV.nil)),vI 0,vI 0,vI 0,vI 0,PV.str (ZcN ((Zca i l).tail.tail.tail.tail.tail.tail.tail.tail.tail.tail.tail.tail.tail.headD PV.nil))]]
theorem Ztn:CSOk Tryz.prog (Yy []):=Ze
theorem ZzK:Ye Tryz.prog (Zn Tryz.f52 0) ZpP:=by
 refine lsG Zk.Γ (Zw Zk Ztn Z4 Z3 Z7 (LS:=[]) (ZM (l:=[]) (by kernel_rfl) Zr) (n:=2000) (U4 ZpN) (U4 Zdc) (fun x e s=>(e= .exit 0∧s=U4 Zfy x)) (fun x=>(x.2.2.1.faces.length - x.1).toNat) ZpO Zz5 Zz6 (fun x hx=>?_)) cv4 (fun _=>rfl) (fun _ h=>h) (fun _ _ _ _ h f=>fE h f)
 ·obtain ⟨i,out,l,z⟩:=x
  simp only[U4,Zdc] at hx
  refine sxT (fun Q=>(bif decide (i < ↑(List.map Face.enc l.faces).length) then (((0:Int)≤i∧(List.map Face.enc l.faces)[i.toNat]?=some (ZJ [vB false,vI 0,vI 0,vI 0,vI 0,vI 0,vI 0,vI 0,vI 0,vI 0,vI 0,vI 0,vI 0,PV.str []] (Zca i l)))∧(((0:Nat) < (1:Nat)∧((List.map Face.enc out).length+(1:Nat))* (120:Nat)≤(140737488355328:Nat)∧Lens (14:Nat) (Z3H i out l))∧Q (Ex.normal) (some ⟨29,[(4,AV.p (vI (IntKind.i64.wrap (i+(1:Int))))),(3,AV.p (PV.lst (Z3H i out l))),(1,AV.ptr 1 0),(2,AV.ptr 2 0)],[(1,(Z5 l)),(2,(Z5 z))],[],[(Loc.t (nat_lit 3),nat_lit 144),(Loc.b (nat_lit 2) (nat_lit 3),nat_lit 144)],[]⟩))) else Q (Ex.exit (0:Nat)) (some ⟨29,[(2,AV.ptr 2 0),(1,AV.ptr 1 0),(3,AV.p (PV.lst (List.map Face.enc out)))],[(1,(Z5 l)),(2,(Z5 z))],[],[],[]⟩))) (fun _=>by kernel_rfl) ?_
  delta Z3H Zca Z5 vI vB
  refine Zb (fun h0=>⟨?r1,⟨?r0, ?_⟩⟩) (fun h0=>?_)
  case r0|r1=>first | rfl | omega | (simp only[LensM.enc,WN];done) | (obtain ⟨a1,a2,a3,a4⟩:=hx;simp only[Qk_,Qc_] at *;first | exact Z8 (fun _=>rfl) (by omega) (by omega) | exact ⟨by decide,by omega,Xk (Xb (e:=Face.enc) (fun _=>rfl) _) rfl⟩)
  all_goals (obtain ⟨a1,a2,a3,a4⟩:=hx;try simp only[Qk_,Qc_,Qe_] at h0)
  all_goals first | (have hk:i < l.faces.length:=h0;obtain ⟨x,t,e1,e2,e3⟩:=Yf (l:=l.faces) a1 (by omega);(try simp only[Yh e3] at *)) | (exact .inr ⟨by simp,_,rfl,by trivial,by unfold U4 Zfy;(try dsimp only);rw[List.drop_eq_nil_of_le (by omega),List.map_nil,List.append_nil];rfl⟩)
  all_goals (have hw:IntKind.i64.wrap (i+1)=i+1:=Zg (by constructor<;>omega))
  all_goals
   refine .inl ⟨by trivial,(IntKind.i64.wrap (i+1),out++[Zp2 x],l,z), ?_, ?_, ?_, ?_⟩
   ·simp only[U4,ZpN,QR_,QE_,QN_];rfl
   ·simp only[U4,Zdc,hw,Qx_,Qs_,Q1_];exact ⟨by omega,by omega,a3,by omega⟩
   ·simp only[hw];omega
   ·intro e s' h;refine ⟨h.1,h.2.trans ?_⟩;unfold U4 Zfy;(try dsimp only);rw[hw,e1,e2];simp only[List.append_assoc,List.cons_append,List.nil_append,List.map_cons]
theorem Z3I:ZF Tryz.prog [(4,ZpP)] Tryz.f52:=ZG (l:=[Zn Tryz.f52 0]) (by kernel_rfl) (Zz (i:=4) (by kernel_rfl) rfl ZzK (Zr))
def ZuG(l:LensM):=Zc Face.dec (List.map Face.enc l.faces)
def q24_4:=LensM.mk [] (Dec.mk (0:Int) (0:Int)) (Zc Face.dec [])
theorem ZCN:Zh Tryz.prog 52 e52:=Zi<|Zf fun l=>EZ1 fun hp0=>by
 refine cfL Ztn Z3I rfl ?_
 refine sxT (fun Q=>(([]=List.map Face.enc (Zc Face.dec []))∧(((Z5 l)=(LensM.mk l.name l.back (ZuG l)).enc)∧(([PV.str [],vI 0,vI 0,PV.lst []]=q24_4.enc)∧((Zdc (0:Int) (Zc Face.dec []) (LensM.mk l.name l.back (ZuG l)) q24_4)∧Q (PV.agg [PV.str l.name,vI l.back.c,vI l.back.scale,PV.lst (List.map Face.enc (Zc Face.dec []++List.map Zp2 (List.drop (0:Nat) (ZuG l))))])))))) (fun _=>by kernel_rfl) ?_
 delta Qn ZuG q24_4 Z5 vI vB
 refine ⟨?r2,⟨?r1,⟨?r0,⟨?_, ?_⟩⟩⟩⟩
 case r0|r1|r2=>first | rfl | omega | (simp only[LensM.enc,WN];done)
 all_goals simp only[WN,QG_,QO_,show Zc Face.dec []=[] from rfl,QJ_,show (⟨l.name,l.back,l.faces⟩:LensM)=l from rfl] at *
 ·exact ⟨by omega,by omega,hp0,by simp⟩
 ·rfl
def ZtF:=Yy [(25,e25),(14,e14),(9,e9)]
def ZjW(i:Int)(l:List I):=intOf (((List.map I.enc l).getD i.toNat []).headD PV.nil)
def Zx1(i:Int)(l:List I):=hdec (5:Nat) (pick (IntKind.i64.wrap ((ZjW i l).tdiv (7:Int))) (50000:Int)) (5:Int)
def Zx2(i:Int)(l:List I):=hdec (5:Nat) (pick (IntKind.i64.wrap ((ZjW i l).tdiv (11:Int))) (3000:Int)) (5:Int)
def Zx3(i:Int)(l:List I):=hdec (5:Nat) (pick (IntKind.i64.wrap ((ZjW i l).tdiv (13:Int))) (9000:Int)) (5:Int)
def Z3J(i:Int)(l:List I):=hdec (3:Nat) (IntKind.i64.wrap (pick (IntKind.i64.wrap ((ZjW i l).tdiv (17:Int))) (200000:Int) - (1000:Int))) (3:Int)
def Z3K(i:Int)(out:List Glass)(l:List I):=List.map Glass.enc out++[[PV.str ([(103:UInt8)]++digits i),vI (hdec (5:Nat) (pick (ZjW i l) (200000:Int)) (5:Int)).c,vI (hdec (5:Nat) (pick (ZjW i l) (200000:Int)) (5:Int)).scale,vI (Zx1 i l).c,vI (Zx1 i l).scale,vI 0,vI 0,vI (Zx2 i l).c,vI (Zx2 i l).scale,vI (Zx3 i l).c,vI (Zx3 i l).scale,vI (Z3J i l).c,vI (Z3J i l).scale]]
def Znd(i:Int)(l:List I):=(0:Int)≤i∧(List.map I.enc l)[i.toNat]?=some (ZJ [vI 0] ((List.map I.enc l).getD i.toNat []))
def Zq7:=(0:Int)≤(5:Int)∧(5:Int)≤(18:Int)
def Zx4:=(0:Int) < (200000:Int)∧(200000:Int)≤(4611686018427387904:Int)
theorem Zi1:CSOk Tryz.prog ZtF:=Za Z2K<|Za ZuC<|Za Zow<|Ze
theorem Zoz:Ye Tryz.prog (Zn Tryz.f50 0) Zde:=by
 refine lsG Zk.Γ (Zw Zk Zi1 Z4 Z3 (Zif (G:=(Gx.mk [] [] [] [] [23])) (Zie) (Zid)) (LS:=[]) (ZM (l:=[]) (by kernel_rfl) Zr) (n:=2000) (U3 Zhs) (U3 Wg) (fun x e s=>(e= .exit 0∧s=U3 Zaq x)) (fun x=>(3 - x.1).toNat) Zht Zom Zon (fun x hx=>?_)) cv3 (fun _=>rfl) (fun _ h=>h) (fun _ _ _ _ h f=>fE h f)
 ·obtain ⟨i,out,l⟩:=x
  simp only[U3,Wg] at hx
  refine sxT (fun Q=>(bif decide (i < ↑(List.map I.enc l).length) then (bif decide (i < (3:Int)) then (((-1000000000000000000:Int)≤i∧i≤(1000000000000000000:Int))∧(((1:Nat)+(digits i).length≤(9223372036854775807:Nat))∧((Znd i l)∧(Zx4∧(Zq7∧((Znd i l)∧(((7:Int)≠(0:Int))∧(((0:Int) < (50000:Int)∧(50000:Int)≤(4611686018427387904:Int))∧(Zq7∧((Znd i l)∧(((11:Int)≠(0:Int))∧(((0:Int) < (3000:Int)∧(3000:Int)≤(4611686018427387904:Int))∧(Zq7∧((Znd i l)∧(((13:Int)≠(0:Int))∧(((0:Int) < (9000:Int)∧(9000:Int)≤(4611686018427387904:Int))∧(Zq7∧((Znd i l)∧(((17:Int)≠(0:Int))∧(Zx4∧(((0:Int)≤(3:Int)∧(3:Int)≤(18:Int))∧(((0:Nat) < (1:Nat)∧((List.map Glass.enc out).length+(1:Nat))* (112:Nat)≤(140737488355328:Nat)∧Lens (13:Nat) (Z3K i out l))∧Q (Ex.normal) (some ⟨80,[(4,AV.p (vI (IntKind.i64.wrap (i+(1:Int))))),(3,AV.p (PV.lst (Z3K i out l))),(0,AV.p (PV.lst (List.map I.enc l)))],[],[],[(Loc.t (nat_lit 3),nat_lit 140)],[]⟩))))))))))))))))))))))) else Q (Ex.exit (0:Nat)) (some ⟨80,[(3,AV.p (PV.lst (List.map Glass.enc out)))],[],[],[],[]⟩)) else Q (Ex.exit (0:Nat)) (some ⟨80,[(3,AV.p (PV.lst (List.map Glass.enc out)))],[],[],[],[]⟩))) (fun _=>by kernel_rfl) ?_
  delta Z3K ZjW Znd Zq7 Z3J Zx4 Zx1 Zx2 Zx3 vI
  refine Zb (fun h0=>Zb (fun h1=>⟨?r21,⟨?r20,⟨?r19,⟨?r18,⟨?r17,⟨?r16,⟨?r15,⟨?r14,⟨?r13,⟨?r12,⟨?r11,⟨?r10,⟨?r9,⟨?r8,⟨?r7,⟨?r6,⟨?r5,⟨?r4,⟨?r3,⟨?r2,⟨?r1,⟨?r0, ?_⟩⟩⟩⟩⟩⟩⟩⟩⟩⟩⟩⟩⟩⟩⟩⟩⟩⟩⟩⟩⟩⟩) (fun h1=>?_)) (fun h0=>?_)
  case r0|r1|r2|r3|r4|r5|r6|r7|r8|r9|r10|r11|r12|r13|r14|r15|r16|r17|r18|r19|r20|r21=>first | rfl | omega | (rw[dI];done) | (obtain ⟨a1,a2,a3,a4⟩:=hx;simp only[Qk_,Qc_] at *;first | omega | exact Z8 (fun _=>rfl) (by omega) (by omega) | exact ⟨by decide,by omega,Xk (Xb (e:=Glass.enc) (fun _=>rfl) _) rfl⟩ | (have:=ZI i;omega))
  all_goals (obtain ⟨a1,a2,a3,a4⟩:=hx;(try simp only[ZnQ,Qk_] at *))
  all_goals (try simp only[Qc_,Qe_] at h0)
  all_goals (try simp only[Qc_,Qe_] at h1)
  all_goals first
   | (have hw:IntKind.i64.wrap (i+1)=i+1:=Zg (by constructor<;>omega)
      have eb:Zge (3 - i).toNat l i=Zp3 l i::Zge (3 - (i+1)).toNat l (i+1):=(by rw[show (3 - i).toNat=(3 - (i+1)).toNat+1 by omega];rw[ZsA,QH_ h0,QH_ h1];rfl)
      refine .inl ⟨by trivial,(IntKind.i64.wrap (i+1),out++[Zp3 l i],l), ?_, ?_, ?_, ?_⟩
      ·simp only[U3,Zhs,QR_,QE_,QN_];rfl
      ·simp only[U3,Wg,hw,Qx_,Qs_,Q1_];exact ⟨by omega,by omega,a3,by omega⟩
      ·simp only[hw];omega
      ·intro e s' h;refine ⟨h.1,h.2.trans ?_⟩;unfold U3 Zaq;(try dsimp only);rw[hw,eb];simp only[List.append_assoc,List.cons_append,List.nil_append])
   | (have eb:Zge (3 - i).toNat l i=[]:=(by
       by_cases hi:i < 3
       ·rw[show (3 - i).toNat=(3 - (i+1)).toNat+1 by omega];rw[ZsA,show (decide (i < (l.length:Int))&&decide (i < 3))=false by simp;omega];rfl
       ·rw[show (3 - i).toNat=0 by omega];rfl)
      exact .inr ⟨by simp,_,rfl,by trivial,by unfold U3 Zaq;(try dsimp only);(rw[eb,List.append_nil])<;>rfl⟩)
theorem Zq8:ZF Tryz.prog [(4,Zde)] Tryz.f50:=ZG (l:=[Zn Tryz.f50 0]) (by kernel_rfl) (Zz (i:=4) (by kernel_rfl) rfl Zoz (Zr))
def ZlV:=[[PV.str [(99:UInt8),(114:UInt8),(111:UInt8),(119:UInt8),(110:UInt8)],vI 103961,vI 5,vI 23179,vI 5,vI 101047,vI 5,vI 6,vI 3,vI 2002,vI 5,vI 1035607,vI 4],[PV.str [(102:UInt8),(108:UInt8),(105:UInt8),(110:UInt8),(116:UInt8)],vI 17376,vI 4,vI 31375,vI 5,vI 189878,vI 5,vI 1319,vI 5,vI 6231,vI 5,vI 1552363,vI 4]]
def ZaK:=(0:Int)≤(5:Int)∧(5:Int)≤(18:Int)
def Zx5:=(0:Int)≤(4:Int)∧(4:Int)≤(18:Int)
theorem ZCO:Zh Tryz.prog 50 e50:=Zi<|Zf fun l=>EZ1 fun hp0=>by
 refine Zcj Zk Zi1 Z4 Z3 (Zif (G:=(Gx.mk [] [] [] [] [23])) (Zie) (Zid)) (n:=2000) (LS:=[(4,Zde)]) (fn:=Tryz.f50) rfl Zq8 ?_
 refine sxT (fun Q=>(ZaK∧(ZaK∧(ZaK∧(ZaK∧(ZaK∧(Zx5∧(ZaK∧(ZaK∧(ZaK∧(ZaK∧(ZaK∧(Zx5∧((ZlV=List.map Glass.enc (Zc Glass.dec ZlV))∧((List.map I.enc l=List.map I.enc (Zc I.dec (List.map I.enc l)))∧((Wg (0:Int) (Zc Glass.dec ZlV) (Zc I.dec (List.map I.enc l)))∧Q (PV.lst (List.map Glass.enc (Zc Glass.dec ZlV++Zge (3:Nat) (Zc I.dec (List.map I.enc l)) (0:Int)))))))))))))))))))) (fun _=>by kernel_rfl) ?_
 delta Qn ZlV ZaK Zx5 vI
 refine ⟨?r13,⟨?r12,⟨?r11,⟨?r10,⟨?r9,⟨?r8,⟨?r7,⟨?r6,⟨?r5,⟨?r4,⟨?r3,⟨?r2,⟨?r1,⟨?r0,⟨?_, ?_⟩⟩⟩⟩⟩⟩⟩⟩⟩⟩⟩⟩⟩⟩⟩
 case r0|r1|r2|r3|r4|r5|r6|r7|r8|r9|r10|r11|r12|r13=>first | rfl | omega | (rw[dI];done)
 ·simp only[Wg,dI];exact ⟨by omega,by omega,hp0,rfl⟩
 ·simp only[dI];rfl
def Z3L:=Yy [(89,e89),(9,e9),(46,e46)]
def Zx6(i:Int)(l:List I)(zz:Int)(s:SysM):=List.map Surf.enc s.surfs++[[vB (pick (intOf (((List.map I.enc l).getD i.toNat []).headD PV.nil)) (2:Int)==(0:Int)),vB false,vI 0,vI 0,vB false,vI 65536,vI 65536,vB false,vI 0,vI 0,vB false,vI 0,vI 0,vB false,vI (point zz).lo,vI (point zz).hi,vB (point zz).no,vI 6553600,vI 6553600,vB false,vI 65536,vI 65536,vB false]]
def Zx7(z:SysM):=[PV.lst (List.map Surf.enc z.surfs),vI z.op.lo,vI z.op.hi,vB z.op.no]
def Zx8(s:SysM)(z:SysM):Option St:=some ⟨48,[(2,AV.ptr 2 0),(3,AV.ptr 3 0)],[(2,(Zx7 z)),(3,[PV.lst (List.map Surf.enc s.surfs),vI s.op.lo,vI s.op.hi,vB s.op.no])],[],[],[]⟩
def Zx9(i:Int)(l:List I):=(0:Int)≤i∧(List.map I.enc l)[i.toNat]?=some (ZJ [vI 0] ((List.map I.enc l).getD i.toNat []))
theorem Zn7:CSOk Tryz.prog Z3L:=Za Z2t<|Za Zow<|Za ZbU<|Ze
theorem ZtG:Ye Tryz.prog (Zn Tryz.f55 0) Zlx:=by
 refine lsG Zk.Γ (Zw Zk Zn7 Z4 Z3 Z7 (LS:=[]) (ZM (l:=[]) (by kernel_rfl) Zr) (n:=2000) (U5 Zlv) (U5 J5) (fun x e s=>(e= .exit 0∧s=U5 Zdf x)) (fun x=>(4 - x.1).toNat) Zlw Zt0 Zt1 (fun x hx=>?_)) cv5 (fun _=>rfl) (fun _ h=>h) (fun _ _ _ _ h f=>fE h f)
 ·obtain ⟨i,l,zz,s,z⟩:=x
  simp only[U5,J5] at hx
  refine sxT (fun Q=>(bif decide (i < ↑(List.map I.enc l).length) then (bif decide (i < (4:Int)) then ((Zx9 i l)∧(((0:Int) < (2:Int)∧(2:Int)≤(4611686018427387904:Int))∧(((0:Nat) < (1:Nat)∧((List.map Surf.enc s.surfs).length+(1:Nat))* (176:Nat)≤(140737488355328:Nat)∧Lens (23:Nat) (Zx6 i l zz s))∧((Zx9 i l)∧(((2:Int)≠(0:Int))∧(((0:Int) < (327680:Int)∧(327680:Int)≤(4611686018427387904:Int))∧Q (Ex.normal) (some ⟨48,[(5,AV.p (vI (IntKind.i64.wrap (i+(1:Int))))),(0,AV.p (PV.lst (List.map I.enc l))),(4,AV.p (vI (IntKind.i64.wrap (IntKind.i64.wrap (zz+(1:Int))+pick (IntKind.i64.wrap ((intOf (((List.map I.enc l).getD i.toNat []).headD PV.nil)).tdiv (2:Int))) (327680:Int))))),(3,AV.ptr 3 0),(2,AV.ptr 2 0)],[(3,[PV.lst (Zx6 i l zz s),vI s.op.lo,vI s.op.hi,vB s.op.no]),(2,(Zx7 z))],[],[(Loc.b (nat_lit 3) (nat_lit 0),nat_lit 151),(Loc.b (nat_lit 2) (nat_lit 0),nat_lit 151)],[]⟩))))))) else Q (Ex.exit (0:Nat)) (Zx8 s z)) else Q (Ex.exit (0:Nat)) (Zx8 s z))) (fun _=>by kernel_rfl) ?_
  delta Zx6 Zx8 Zx9 Zx7 vI vB
  refine Zb (fun h0=>Zb (fun h1=>⟨?r5,⟨?r4,⟨?r3,⟨?r2,⟨?r1,⟨?r0, ?_⟩⟩⟩⟩⟩⟩) (fun h1=>?_)) (fun h0=>?_)
  case r0|r1|r2|r3|r4|r5=>first | rfl | omega | (rw[dI];done) | (simp only[SysM.enc,Zu];done) | (obtain ⟨a1,a2,a3,a4⟩:=hx;simp only[Qk_,Qc_] at *;first | omega | exact Z8 (fun _=>rfl) (by omega) (by omega) | exact ⟨by decide,by omega,Xk (Xb (e:=Surf.enc) (fun _=>rfl) _) rfl⟩)
  all_goals (obtain ⟨a1,a2,a3,a4⟩:=hx;(try simp only[ZnQ,Qk_] at *))
  all_goals (try simp only[Qc_,Qe_] at h0)
  all_goals (try simp only[Qc_,Qe_] at h1)
  all_goals first
   | (have hw:IntKind.i64.wrap (i+1)=i+1:=Zg (by constructor<;>omega)
      have eb:Wr (4 - i).toNat l i zz=ZmP (l.getD i.toNat ⟨0⟩).n zz::Wr (4 - (i+1)).toNat l (i+1) (w64 (w64 (zz+1)+pick (w64 ((l.getD i.toNat ⟨0⟩).n.tdiv 2)) 327680)):=(by rw[show (4 - i).toNat=(4 - (i+1)).toNat+1 by omega];rw[Zhm,QH_ h0,QH_ h1];rfl)
      refine .inl ⟨by trivial,(IntKind.i64.wrap (i+1),l,w64 (w64 (zz+1)+pick (w64 ((l.getD i.toNat ⟨0⟩).n.tdiv 2)) 327680),⟨s.surfs++[ZmP (l.getD i.toNat ⟨0⟩).n zz],s.op⟩,z), ?_, ?_, ?_, ?_⟩
      ·simp only[U5,Zlv,SysM.enc,QR_,QE_,QN_];rfl
      ·simp only[U5,J5,hw,Qx_,Qs_,Q1_];exact ⟨by omega,by omega,a3,by omega⟩
      ·simp only[hw];omega
      ·intro e s' h;refine ⟨h.1,h.2.trans ?_⟩;unfold U5 Zdf;(try dsimp only);rw[hw,eb];simp only[List.append_assoc,List.cons_append,List.nil_append])
   | (have eb:Wr (4 - i).toNat l i zz=[]:=(by
       by_cases hi:i < 4
       ·rw[show (4 - i).toNat=(4 - (i+1)).toNat+1 by omega];rw[Zhm,show (decide (i < (l.length:Int))&&decide (i < 4))=false by simp;omega];rfl
       ·rw[show (4 - i).toNat=0 by omega];rfl)
      exact .inr ⟨by simp,_,rfl,by trivial,by unfold U5 Zdf;(try dsimp only);(rw[eb,List.append_nil])<;>rfl⟩)
theorem ZxA:ZF Tryz.prog [(5,Zlx)] Tryz.f55:=ZG (l:=[Zn Tryz.f55 0]) (by kernel_rfl) (Zz (i:=5) (by kernel_rfl) rfl ZtG (Zr))
def q24_21:=SysM.mk (Zc Surf.dec []) (Iv.mk (524288:Int) (524288:Int) false)
def q24_22:=SysM.mk (Zc Surf.dec []) (Iv.mk (0:Int) (0:Int) false)
theorem ZCP:Zh Tryz.prog 55 e55:=Zi<|Zf fun l=>EZ1 fun hp0=>by
 refine cfL Zn7 ZxA rfl ?_
 refine sxT (fun Q=>((List.map I.enc l=List.map I.enc (Zc I.dec (List.map I.enc l)))∧(([PV.lst [],vI 524288,vI 524288,vB false]=q24_21.enc)∧(([PV.lst [],vI 0,vI 0,vB false]=q24_22.enc)∧((J5 (0:Int) (Zc I.dec (List.map I.enc l)) (655360:Int) q24_21 q24_22)∧Q (PV.agg [PV.lst (List.map Surf.enc (Zc Surf.dec []++Wr (4:Nat) (Zc I.dec (List.map I.enc l)) (0:Int) (655360:Int))),vI 524288,vI 524288,vB false])))))) (fun _=>by kernel_rfl) ?_
 delta Qn q24_21 q24_22 vI vB
 refine ⟨?r2,⟨?r1,⟨?r0,⟨?_, ?_⟩⟩⟩⟩
 case r0|r1|r2=>first | rfl | omega | (rw[dI];done)
 ·simp only[J5,dI];exact ⟨by omega,by omega,hp0,rfl⟩
 ·simp only[dI];rfl
def Z3M:=Yy [(9,e9),(14,e14),(25,e25),(79,e79)]
def rA(i:Int)(l:List RawFace):=(List.map RawFace.enc l).getD i.toNat []
def Z3N(i:Int)(l:List RawFace):=intOf ((rA i l).headD PV.nil)
def qR(i:Int)(l:List RawFace):=intOf ((rA i l).tail.headD PV.nil)
def qA(i:Int)(l:List RawFace):=intOf ((rA i l).tail.tail.headD PV.nil)
def qT(i:Int)(l:List RawFace):=intOf ((rA i l).tail.tail.tail.headD PV.nil)
def qG(i:Int)(l:List RawFace):=intOf ((rA i l).tail.tail.tail.tail.headD PV.nil)
def qK(i:Int)(l:List RawFace):=intOf ((rA i l).tail.tail.tail.tail.tail.headD PV.nil)
set_option maxHeartbeats 4000000 in
def Zdy(g:List Glass):=List.map Glass.enc g
def Zi2(g:List Glass):=IntKind.i64.wrap (↑(Zdy g).length+(2:Int))
def ZxB:=(0:Int) < (7:Int)∧(7:Int)≤(4611686018427387904:Int)
def ZlW:=(0:Int) < (900:Int)∧(900:Int)≤(4611686018427387904:Int)
def XK:=(0:Int)≤(1:Int)∧(1:Int)≤(18:Int)
def ZxC:=(0:Int) < (2:Int)∧(2:Int)≤(4611686018427387904:Int)
def ZeO:=(0:Int) < (6:Int)∧(6:Int)≤(4611686018427387904:Int)
def XL:=(6:Int)≠(0:Int)
def ZgC:=(0:Int) < (30:Int)∧(30:Int)≤(4611686018427387904:Int)
def YG(u:LensM):=(List.map Face.enc u.faces).length+(1:Nat)
def Xy(i:Int)(l:List RawFace):=hdec (1:Nat) (IntKind.i64.wrap ((-150:Int) - pick (qR i l) (900:Int))) (1:Int)
def Z1(i:Int)(l:List RawFace):=hdec (1:Nat) (IntKind.i64.wrap ((30:Int)+pick (qA i l) (70:Int))) (1:Int)
def Z2(i:Int)(l:List RawFace):=hdec (1:Nat) (pick (qT i l) (80:Int)) (1:Int)
def Wv(i:Int)(l:List RawFace):=hdec (1:Nat) (IntKind.i64.wrap (pick (IntKind.i64.wrap ((qK i l).tdiv (6:Int))) (30:Int) - (15:Int))) (1:Int)
def Zbm(i:Int)(g:List Glass)(l:List RawFace):=ZcN (((Zdy g).getD (pick (qG i l) (Zi2 g)).toNat []).headD PV.nil)
def ZxD(i:Int)(g:List Glass)(l:List RawFace)(u:LensM):=List.map Face.enc u.faces++[[vB false,vI (Xy i l).c,vI (Xy i l).scale,vI (Z1 i l).c,vI (Z1 i l).scale,vI (Z2 i l).c,vI (Z2 i l).scale,vI (Wv i l).c,vI (Wv i l).scale,vI 0,vI 0,vI 0,vI 0,PV.str (Zbm i g l)]]
def Xs(i:Int)(g:List Glass)(l:List RawFace)(most:Int):=[(10,AV.p (vI (IntKind.i64.wrap (i+(1:Int))))),(9,AV.ptr 9 0),(2,AV.p (PV.lst (Zdy g))),(1,AV.p (PV.lst (List.map RawFace.enc l))),(8,AV.ptr 8 0),(3,pI most)]
def YH:=[(Loc.b (nat_lit 9) (nat_lit 3),nat_lit 144),(Loc.b (nat_lit 8) (nat_lit 3),nat_lit 144)]
def XM:=(0:Int) < (400:Int)∧(400:Int)≤(4611686018427387904:Int)
def JB:=(0:Int)≤(2:Int)∧(2:Int)≤(18:Int)
def Yt(i:Int)(l:List RawFace):=hdec (2:Nat) (IntKind.i64.wrap (pick (IntKind.i64.wrap ((qK i l).tdiv (6:Int))) (400:Int) - (200:Int))) (2:Int)
def ZxE(i:Int)(g:List Glass)(l:List RawFace)(u:LensM):=List.map Face.enc u.faces++[[vB false,vI (Xy i l).c,vI (Xy i l).scale,vI (Z1 i l).c,vI (Z1 i l).scale,vI (Z2 i l).c,vI (Z2 i l).scale,vI 0,vI 0,vI (Yt i l).c,vI (Yt i l).scale,vI 0,vI 0,PV.str (Zbm i g l)]]
def ZgD:=(12:Int)≠(0:Int)
def Ww(i:Int)(l:List RawFace):=hdec (1:Nat) (IntKind.i64.wrap (pick (IntKind.i64.wrap ((qK i l).tdiv (12:Int))) (400:Int) - (200:Int))) (1:Int)
def ZxF(i:Int)(g:List Glass)(l:List RawFace)(u:LensM):=List.map Face.enc u.faces++[[vB false,vI (Xy i l).c,vI (Xy i l).scale,vI (Z1 i l).c,vI (Z1 i l).scale,vI (Z2 i l).c,vI (Z2 i l).scale,vI 0,vI 0,vI (Yt i l).c,vI (Yt i l).scale,vI (Ww i l).c,vI (Ww i l).scale,PV.str (Zbm i g l)]]
def ZxG(i:Int)(g:List Glass)(l:List RawFace)(u:LensM):=List.map Face.enc u.faces++[[vB false,vI (Xy i l).c,vI (Xy i l).scale,vI (Z1 i l).c,vI (Z1 i l).scale,vI (Z2 i l).c,vI (Z2 i l).scale,vI 0,vI 0,vI 0,vI 0,vI 0,vI 0,PV.str (Zbm i g l)]]
def YQ(i:Int)(l:List RawFace):=hdec (1:Nat) (IntKind.i64.wrap ((150:Int)+pick (qR i l) (900:Int))) (1:Int)
def ZxH(i:Int)(g:List Glass)(l:List RawFace)(u:LensM):=List.map Face.enc u.faces++[[vB false,vI (YQ i l).c,vI (YQ i l).scale,vI (Z1 i l).c,vI (Z1 i l).scale,vI (Z2 i l).c,vI (Z2 i l).scale,vI (Wv i l).c,vI (Wv i l).scale,vI 0,vI 0,vI 0,vI 0,PV.str (Zbm i g l)]]
def ZxI(i:Int)(g:List Glass)(l:List RawFace)(u:LensM):=List.map Face.enc u.faces++[[vB false,vI (YQ i l).c,vI (YQ i l).scale,vI (Z1 i l).c,vI (Z1 i l).scale,vI (Z2 i l).c,vI (Z2 i l).scale,vI 0,vI 0,vI (Yt i l).c,vI (Yt i l).scale,vI 0,vI 0,PV.str (Zbm i g l)]]
def ZxJ(i:Int)(g:List Glass)(l:List RawFace)(u:LensM):=List.map Face.enc u.faces++[[vB false,vI (YQ i l).c,vI (YQ i l).scale,vI (Z1 i l).c,vI (Z1 i l).scale,vI (Z2 i l).c,vI (Z2 i l).scale,vI 0,vI 0,vI (Yt i l).c,vI (Yt i l).scale,vI (Ww i l).c,vI (Ww i l).scale,PV.str (Zbm i g l)]]
def ZxK(i:Int)(g:List Glass)(l:List RawFace)(u:LensM):=List.map Face.enc u.faces++[[vB false,vI (YQ i l).c,vI (YQ i l).scale,vI (Z1 i l).c,vI (Z1 i l).scale,vI (Z2 i l).c,vI (Z2 i l).scale,vI 0,vI 0,vI 0,vI 0,vI 0,vI 0,PV.str (Zbm i g l)]]
def ZxL(i:Int)(g:List Glass)(l:List RawFace)(u:LensM):=List.map Face.enc u.faces++[[vB false,vI 0,vI 0,vI (Z1 i l).c,vI (Z1 i l).scale,vI (Z2 i l).c,vI (Z2 i l).scale,vI (Wv i l).c,vI (Wv i l).scale,vI 0,vI 0,vI 0,vI 0,PV.str (Zbm i g l)]]
def ZxM(i:Int)(g:List Glass)(l:List RawFace)(u:LensM):=List.map Face.enc u.faces++[[vB false,vI 0,vI 0,vI (Z1 i l).c,vI (Z1 i l).scale,vI (Z2 i l).c,vI (Z2 i l).scale,vI 0,vI 0,vI (Yt i l).c,vI (Yt i l).scale,vI 0,vI 0,PV.str (Zbm i g l)]]
def ZxN(i:Int)(g:List Glass)(l:List RawFace)(u:LensM):=List.map Face.enc u.faces++[[vB false,vI 0,vI 0,vI (Z1 i l).c,vI (Z1 i l).scale,vI (Z2 i l).c,vI (Z2 i l).scale,vI 0,vI 0,vI (Yt i l).c,vI (Yt i l).scale,vI (Ww i l).c,vI (Ww i l).scale,PV.str (Zbm i g l)]]
def ZxO(i:Int)(g:List Glass)(l:List RawFace)(u:LensM):=List.map Face.enc u.faces++[[vB false,vI 0,vI 0,vI (Z1 i l).c,vI (Z1 i l).scale,vI (Z2 i l).c,vI (Z2 i l).scale,vI 0,vI 0,vI 0,vI 0,vI 0,vI 0,PV.str (Zbm i g l)]]
def YR:=[(97:UInt8),(105:UInt8),(114:UInt8)]
def Z3O(i:Int)(g:List Glass)(l:List RawFace)(most:Int)(u:LensM)(z:LensM)(Q:Ex→Option St→Prop):Prop:=((0:Int) < IntKind.i64.wrap (↑(Zdy g).length+(2:Int))∧IntKind.i64.wrap (↑(Zdy g).length+(2:Int))≤(4611686018427387904:Int))∧(bif decide (pick (qG i l) (Zi2 g) < ↑(Zdy g).length) then (((0:Int)≤pick (qG i l) (Zi2 g)∧(Zdy g)[(pick (qG i l) (Zi2 g)).toNat]?=some (ZJ [PV.str [],vI 0,vI 0,vI 0,vI 0,vI 0,vI 0,vI 0,vI 0,vI 0,vI 0,vI 0,vI 0] ((Zdy g).getD (pick (qG i l) (Zi2 g)).toNat [])))∧(ZxB∧(bif decide (pick (qR i l) (7:Int) > (0:Int)) then (ZlW∧(XK∧(((7:Int)≠(0:Int))∧(ZxC∧(bif pick (IntKind.i64.wrap ((qR i l).tdiv (7:Int))) (2:Int)==(0:Int) then (ZlW∧(XK∧(ZeO∧(bif pick (qK i l) (6:Int)==(3:Int) then (XL∧(ZgC∧(XK∧(((0:Nat) < (1:Nat)∧(YG u)* (120:Nat)≤(140737488355328:Nat)∧Lens (14:Nat) (ZxD i g l u))∧Q (Ex.normal) (some ⟨166,(Xs i g l most),[(9,[PV.str u.name,vI u.back.c,vI u.back.scale,PV.lst (ZxD i g l u)]),(8,(Z5 z))],[],YH,[]⟩))))) else (bif pick (qK i l) (6:Int)==(4:Int) then (XL∧(XM∧(JB∧(((0:Nat) < (1:Nat)∧(YG u)* (120:Nat)≤(140737488355328:Nat)∧Lens (14:Nat) (ZxE i g l u))∧Q (Ex.normal) (some ⟨166,(Xs i g l most),[(9,[PV.str u.name,vI u.back.c,vI u.back.scale,PV.lst (ZxE i g l u)]),(8,(Z5 z))],[],YH,[]⟩))))) else (bif pick (qK i l) (6:Int)==(5:Int) then (XL∧(XM∧(JB∧(ZgD∧(XM∧(XK∧(((0:Nat) < (1:Nat)∧(YG u)* (120:Nat)≤(140737488355328:Nat)∧Lens (14:Nat) (ZxF i g l u))∧Q (Ex.normal) (some ⟨166,(Xs i g l most),[(9,[PV.str u.name,vI u.back.c,vI u.back.scale,PV.lst (ZxF i g l u)]),(8,(Z5 z))],[],YH,[]⟩)))))))) else (((0:Nat) < (1:Nat)∧(YG u)* (120:Nat)≤(140737488355328:Nat)∧Lens (14:Nat) (ZxG i g l u))∧Q (Ex.normal) (some ⟨166,(Xs i g l most),[(9,[PV.str u.name,vI u.back.c,vI u.back.scale,PV.lst (ZxG i g l u)]),(8,(Z5 z))],[],YH,[]⟩)))))))) else (ZeO∧(bif pick (qK i l) (6:Int)==(3:Int) then (XL∧(ZgC∧(XK∧(((0:Nat) < (1:Nat)∧(YG u)* (120:Nat)≤(140737488355328:Nat)∧Lens (14:Nat) (ZxH i g l u))∧Q (Ex.normal) (some ⟨166,(Xs i g l most),[(9,[PV.str u.name,vI u.back.c,vI u.back.scale,PV.lst (ZxH i g l u)]),(8,(Z5 z))],[],YH,[]⟩))))) else (bif pick (qK i l) (6:Int)==(4:Int) then (XL∧(XM∧(JB∧(((0:Nat) < (1:Nat)∧(YG u)* (120:Nat)≤(140737488355328:Nat)∧Lens (14:Nat) (ZxI i g l u))∧Q (Ex.normal) (some ⟨166,(Xs i g l most),[(9,[PV.str u.name,vI u.back.c,vI u.back.scale,PV.lst (ZxI i g l u)]),(8,(Z5 z))],[],YH,[]⟩))))) else (bif pick (qK i l) (6:Int)==(5:Int) then (XL∧(XM∧(JB∧(ZgD∧(XM∧(XK∧(((0:Nat) < (1:Nat)∧(YG u)* (120:Nat)≤(140737488355328:Nat)∧Lens (14:Nat) (ZxJ i g l u))∧Q (Ex.normal) (some ⟨166,(Xs i g l most),[(9,[PV.str u.name,vI u.back.c,vI u.back.scale,PV.lst (ZxJ i g l u)]),(8,(Z5 z))],[],YH,[]⟩)))))))) else (((0:Nat) < (1:Nat)∧(YG u)* (120:Nat)≤(140737488355328:Nat)∧Lens (14:Nat) (ZxK i g l u))∧Q (Ex.normal) (some ⟨166,(Xs i g l most),[(9,[PV.str u.name,vI u.back.c,vI u.back.scale,PV.lst (ZxK i g l u)]),(8,(Z5 z))],[],YH,[]⟩))))))))))) else (ZeO∧(bif pick (qK i l) (6:Int)==(3:Int) then (XL∧(ZgC∧(XK∧(((0:Nat) < (1:Nat)∧(YG u)* (120:Nat)≤(140737488355328:Nat)∧Lens (14:Nat) (ZxL i g l u))∧Q (Ex.normal) (some ⟨166,(Xs i g l most),[(9,[PV.str u.name,vI u.back.c,vI u.back.scale,PV.lst (ZxL i g l u)]),(8,(Z5 z))],[],YH,[]⟩))))) else (bif pick (qK i l) (6:Int)==(4:Int) then (XL∧(XM∧(JB∧(((0:Nat) < (1:Nat)∧(YG u)* (120:Nat)≤(140737488355328:Nat)∧Lens (14:Nat) (ZxM i g l u))∧Q (Ex.normal) (some ⟨166,(Xs i g l most),[(9,[PV.str u.name,vI u.back.c,vI u.back.scale,PV.lst (ZxM i g l u)]),(8,(Z5 z))],[],YH,[]⟩))))) else (bif pick (qK i l) (6:Int)==(5:Int) then (XL∧(XM∧(JB∧(ZgD∧(XM∧(XK∧(((0:Nat) < (1:Nat)∧(YG u)* (120:Nat)≤(140737488355328:Nat)∧Lens (14:Nat) (ZxN i g l u))∧Q (Ex.normal) (some ⟨166,(Xs i g l most),[(9,[PV.str u.name,vI u.back.c,vI u.back.scale,PV.lst (ZxN i g l u)]),(8,(Z5 z))],[],YH,[]⟩)))))))) else (((0:Nat) < (1:Nat)∧(YG u)* (120:Nat)≤(140737488355328:Nat)∧Lens (14:Nat) (ZxO i g l u))∧Q (Ex.normal) (some ⟨166,(Xs i g l most),[(9,[PV.str u.name,vI u.back.c,vI u.back.scale,PV.lst (ZxO i g l u)]),(8,(Z5 z))],[],YH,[]⟩))))))))) else (ZxB∧(bif decide (pick (qR i l) (7:Int) > (0:Int)) then (ZlW∧(XK∧(((7:Int)≠(0:Int))∧(ZxC∧(bif pick (IntKind.i64.wrap ((qR i l).tdiv (7:Int))) (2:Int)==(0:Int) then (ZlW∧(XK∧(ZeO∧(bif pick (qK i l) (6:Int)==(3:Int) then (XL∧(ZgC∧(XK∧(((0:Nat) < (1:Nat)∧(YG u)* (120:Nat)≤(140737488355328:Nat)∧Lens (14:Nat) (List.map Face.enc u.faces++[[vB false,vI (Xy i l).c,vI (Xy i l).scale,vI (Z1 i l).c,vI (Z1 i l).scale,vI (Z2 i l).c,vI (Z2 i l).scale,vI (Wv i l).c,vI (Wv i l).scale,vI 0,vI 0,vI 0,vI 0,PV.str YR]]))∧Q (Ex.normal) (some ⟨166,(Xs i g l most),[(9,[PV.str u.name,vI u.back.c,vI u.back.scale,PV.lst (List.map Face.enc u.faces++[[vB false,vI (Xy i l).c,vI (Xy i l).scale,vI (Z1 i l).c,vI (Z1 i l).scale,vI (Z2 i l).c,vI (Z2 i l).scale,vI (Wv i l).c,vI (Wv i l).scale,vI 0,vI 0,vI 0,vI 0,PV.str (YR)]])]),(8,(Z5 z))],[],YH,[]⟩))))) else (bif pick (qK i l) (6:Int)==(4:Int) then (XL∧(XM∧(JB∧(((0:Nat) < (1:Nat)∧(YG u)* (120:Nat)≤(140737488355328:Nat)∧Lens (14:Nat) (List.map Face.enc u.faces++[[vB false,vI (Xy i l).c,vI (Xy i l).scale,vI (Z1 i l).c,vI (Z1 i l).scale,vI (Z2 i l).c,vI (Z2 i l).scale,vI 0,vI 0,vI (Yt i l).c,vI (Yt i l).scale,vI 0,vI 0,PV.str YR]]))∧Q (Ex.normal) (some ⟨166,(Xs i g l most),[(9,[PV.str u.name,vI u.back.c,vI u.back.scale,PV.lst (List.map Face.enc u.faces++[[vB false,vI (Xy i l).c,vI (Xy i l).scale,vI (Z1 i l).c,vI (Z1 i l).scale,vI (Z2 i l).c,vI (Z2 i l).scale,vI 0,vI 0,vI (Yt i l).c,vI (Yt i l).scale,vI 0,vI 0,PV.str (YR)]])]),(8,(Z5 z))],[],YH,[]⟩))))) else (bif pick (qK i l) (6:Int)==(5:Int) then (XL∧(XM∧(JB∧(ZgD∧(XM∧(XK∧(((0:Nat) < (1:Nat)∧(YG u)* (120:Nat)≤(140737488355328:Nat)∧Lens (14:Nat) (List.map Face.enc u.faces++[[vB false,vI (Xy i l).c,vI (Xy i l).scale,vI (Z1 i l).c,vI (Z1 i l).scale,vI (Z2 i l).c,vI (Z2 i l).scale,vI 0,vI 0,vI (Yt i l).c,vI (Yt i l).scale,vI (Ww i l).c,vI (Ww i l).scale,PV.str YR]]))∧Q (Ex.normal) (some ⟨166,(Xs i g l most),[(9,[PV.str u.name,vI u.back.c,vI u.back.scale,PV.lst (List.map Face.enc u.faces++[[vB false,vI (Xy i l).c,vI (Xy i l).scale,vI (Z1 i l).c,vI (Z1 i l).scale,vI (Z2 i l).c,vI (Z2 i l).scale,vI 0,vI 0,vI (Yt i l).c,vI (Yt i l).scale,vI (Ww i l).c,vI (Ww i l).scale,PV.str (YR)]])]),(8,(Z5 z))],[],YH,[]⟩)))))))) else (((0:Nat) < (1:Nat)∧(YG u)* (120:Nat)≤(140737488355328:Nat)∧Lens (14:Nat) (List.map Face.enc u.faces++[[vB false,vI (Xy i l).c,vI (Xy i l).scale,vI (Z1 i l).c,vI (Z1 i l).scale,vI (Z2 i l).c,vI (Z2 i l).scale,vI 0,vI 0,vI 0,vI 0,vI 0,vI 0,PV.str YR]]))∧Q (Ex.normal) (some ⟨166,(Xs i g l most),[(9,[PV.str u.name,vI u.back.c,vI u.back.scale,PV.lst (List.map Face.enc u.faces++[[vB false,vI (Xy i l).c,vI (Xy i l).scale,vI (Z1 i l).c,vI (Z1 i l).scale,vI (Z2 i l).c,vI (Z2 i l).scale,vI 0,vI 0,vI 0,vI 0,vI 0,vI 0,PV.str (YR)]])]),(8,(Z5 z))],[],YH,[]⟩)))))))) else (ZeO∧(bif pick (qK i l) (6:Int)==(3:Int) then (XL∧(ZgC∧(XK∧(((0:Nat) < (1:Nat)∧(YG u)* (120:Nat)≤(140737488355328:Nat)∧Lens (14:Nat) (List.map Face.enc u.faces++[[vB false,vI (YQ i l).c,vI (YQ i l).scale,vI (Z1 i l).c,vI (Z1 i l).scale,vI (Z2 i l).c,vI (Z2 i l).scale,vI (Wv i l).c,vI (Wv i l).scale,vI 0,vI 0,vI 0,vI 0,PV.str YR]]))∧Q (Ex.normal) (some ⟨166,(Xs i g l most),[(9,[PV.str u.name,vI u.back.c,vI u.back.scale,PV.lst (List.map Face.enc u.faces++[[vB false,vI (YQ i l).c,vI (YQ i l).scale,vI (Z1 i l).c,vI (Z1 i l).scale,vI (Z2 i l).c,vI (Z2 i l).scale,vI (Wv i l).c,vI (Wv i l).scale,vI 0,vI 0,vI 0,vI 0,PV.str (YR)]])]),(8,(Z5 z))],[],YH,[]⟩))))) else (bif pick (qK i l) (6:Int)==(4:Int) then (XL∧(XM∧(JB∧(((0:Nat) < (1:Nat)∧(YG u)* (120:Nat)≤(140737488355328:Nat)∧Lens (14:Nat) (List.map Face.enc u.faces++[[vB false,vI (YQ i l).c,vI (YQ i l).scale,vI (Z1 i l).c,vI (Z1 i l).scale,vI (Z2 i l).c,vI (Z2 i l).scale,vI 0,vI 0,vI (Yt i l).c,vI (Yt i l).scale,vI 0,vI 0,PV.str YR]]))∧Q (Ex.normal) (some ⟨166,(Xs i g l most),[(9,[PV.str u.name,vI u.back.c,vI u.back.scale,PV.lst (List.map Face.enc u.faces++[[vB false,vI (YQ i l).c,vI (YQ i l).scale,vI (Z1 i l).c,vI (Z1 i l).scale,vI (Z2 i l).c,vI (Z2 i l).scale,vI 0,vI 0,vI (Yt i l).c,vI (Yt i l).scale,vI 0,vI 0,PV.str (YR)]])]),(8,(Z5 z))],[],YH,[]⟩))))) else (bif pick (qK i l) (6:Int)==(5:Int) then (XL∧(XM∧(JB∧(ZgD∧(XM∧(XK∧(((0:Nat) < (1:Nat)∧(YG u)* (120:Nat)≤(140737488355328:Nat)∧Lens (14:Nat) (List.map Face.enc u.faces++[[vB false,vI (YQ i l).c,vI (YQ i l).scale,vI (Z1 i l).c,vI (Z1 i l).scale,vI (Z2 i l).c,vI (Z2 i l).scale,vI 0,vI 0,vI (Yt i l).c,vI (Yt i l).scale,vI (Ww i l).c,vI (Ww i l).scale,PV.str YR]]))∧Q (Ex.normal) (some ⟨166,(Xs i g l most),[(9,[PV.str u.name,vI u.back.c,vI u.back.scale,PV.lst (List.map Face.enc u.faces++[[vB false,vI (YQ i l).c,vI (YQ i l).scale,vI (Z1 i l).c,vI (Z1 i l).scale,vI (Z2 i l).c,vI (Z2 i l).scale,vI 0,vI 0,vI (Yt i l).c,vI (Yt i l).scale,vI (Ww i l).c,vI (Ww i l).scale,PV.str (YR)]])]),(8,(Z5 z))],[],YH,[]⟩)))))))) else (((0:Nat) < (1:Nat)∧(YG u)* (120:Nat)≤(140737488355328:Nat)∧Lens (14:Nat) (List.map Face.enc u.faces++[[vB false,vI (YQ i l).c,vI (YQ i l).scale,vI (Z1 i l).c,vI (Z1 i l).scale,vI (Z2 i l).c,vI (Z2 i l).scale,vI 0,vI 0,vI 0,vI 0,vI 0,vI 0,PV.str YR]]))∧Q (Ex.normal) (some ⟨166,(Xs i g l most),[(9,[PV.str u.name,vI u.back.c,vI u.back.scale,PV.lst (List.map Face.enc u.faces++[[vB false,vI (YQ i l).c,vI (YQ i l).scale,vI (Z1 i l).c,vI (Z1 i l).scale,vI (Z2 i l).c,vI (Z2 i l).scale,vI 0,vI 0,vI 0,vI 0,vI 0,vI 0,PV.str (YR)]])]),(8,(Z5 z))],[],YH,[]⟩))))))))))) else (ZeO∧(bif pick (qK i l) (6:Int)==(3:Int) then (XL∧(ZgC∧(XK∧(((0:Nat) < (1:Nat)∧(YG u)* (120:Nat)≤(140737488355328:Nat)∧Lens (14:Nat) (List.map Face.enc u.faces++[[vB false,vI 0,vI 0,vI (Z1 i l).c,vI (Z1 i l).scale,vI (Z2 i l).c,vI (Z2 i l).scale,vI (Wv i l).c,vI (Wv i l).scale,vI 0,vI 0,vI 0,vI 0,PV.str YR]]))∧Q (Ex.normal) (some ⟨166,(Xs i g l most),[(9,[PV.str u.name,vI u.back.c,vI u.back.scale,PV.lst (List.map Face.enc u.faces++[[vB false,vI 0,vI 0,vI (Z1 i l).c,vI (Z1 i l).scale,vI (Z2 i l).c,vI (Z2 i l).scale,vI (Wv i l).c,vI (Wv i l).scale,vI 0,vI 0,vI 0,vI 0,PV.str (YR)]])]),(8,(Z5 z))],[],YH,[]⟩))))) else (bif pick (qK i l) (6:Int)==(4:Int) then (XL∧(XM∧(JB∧(((0:Nat) < (1:Nat)∧(YG u)* (120:Nat)≤(140737488355328:Nat)∧Lens (14:Nat) (List.map Face.enc u.faces++[[vB false,vI 0,vI 0,vI (Z1 i l).c,vI (Z1 i l).scale,vI (Z2 i l).c,vI (Z2 i l).scale,vI 0,vI 0,vI (Yt i l).c,vI (Yt i l).scale,vI 0,vI 0,PV.str YR]]))∧Q (Ex.normal) (some ⟨166,(Xs i g l most),[(9,[PV.str u.name,vI u.back.c,vI u.back.scale,PV.lst (List.map Face.enc u.faces++[[vB false,vI 0,vI 0,vI (Z1 i l).c,vI (Z1 i l).scale,vI (Z2 i l).c,vI (Z2 i l).scale,vI 0,vI 0,vI (Yt i l).c,vI (Yt i l).scale,vI 0,vI 0,PV.str (YR)]])]),(8,(Z5 z))],[],YH,[]⟩))))) else (bif pick (qK i l) (6:Int)==(5:Int) then (XL∧(XM∧(JB∧(ZgD∧(XM∧(XK∧(((0:Nat) < (1:Nat)∧(YG u)* (120:Nat)≤(140737488355328:Nat)∧Lens (14:Nat) (List.map Face.enc u.faces++[[vB false,vI 0,vI 0,vI (Z1 i l).c,vI (Z1 i l).scale,vI (Z2 i l).c,vI (Z2 i l).scale,vI 0,vI 0,vI (Yt i l).c,vI (Yt i l).scale,vI (Ww i l).c,vI (Ww i l).scale,PV.str YR]]))∧Q (Ex.normal) (some ⟨166,(Xs i g l most),[(9,[PV.str u.name,vI u.back.c,vI u.back.scale,PV.lst (List.map Face.enc u.faces++[[vB false,vI 0,vI 0,vI (Z1 i l).c,vI (Z1 i l).scale,vI (Z2 i l).c,vI (Z2 i l).scale,vI 0,vI 0,vI (Yt i l).c,vI (Yt i l).scale,vI (Ww i l).c,vI (Ww i l).scale,PV.str (YR)]])]),(8,(Z5 z))],[],YH,[]⟩)))))))) else (((0:Nat) < (1:Nat)∧(YG u)* (120:Nat)≤(140737488355328:Nat)∧Lens (14:Nat) (List.map Face.enc u.faces++[[vB false,vI 0,vI 0,vI (Z1 i l).c,vI (Z1 i l).scale,vI (Z2 i l).c,vI (Z2 i l).scale,vI 0,vI 0,vI 0,vI 0,vI 0,vI 0,PV.str YR]]))∧Q (Ex.normal) (some ⟨166,(Xs i g l most),[(9,[PV.str u.name,vI u.back.c,vI u.back.scale,PV.lst (List.map Face.enc u.faces++[[vB false,vI 0,vI 0,vI (Z1 i l).c,vI (Z1 i l).scale,vI (Z2 i l).c,vI (Z2 i l).scale,vI 0,vI 0,vI 0,vI 0,vI 0,vI 0,PV.str (YR)]])]),(8,(Z5 z))],[],YH,[]⟩)))))))))
def ZxP(u:LensM)(z:LensM):Option St:=some ⟨166,[(8,AV.ptr 8 0),(9,AV.ptr 9 0)],[(8,(Z5 z)),(9,(Z5 u))],[],[(Loc.b (nat_lit 9) (nat_lit 3),nat_lit 144)],[]⟩
theorem Zn8:CSOk Tryz.prog Z3M:=Za Zow<|Za ZuC<|Za Z2K<|Za ZCJ<|Ze
set_option maxHeartbeats 4000000 in
theorem ZtH:Ye Tryz.prog (Zn Tryz.f51 0) Zl0:=by
 refine lsG Zk.Γ (Zw Zk Zn8 Z4 Z3 Z7 (LS:=[]) (ZM (l:=[]) (by kernel_rfl) Zr) (n:=2000) (U6 Zly) (U6 ZaB) (fun x e s=>(e= .exit 0∧s=U6 ZaA x)) (fun x=>(x.2.2.1.length - x.1).toNat) Zlz Zt2 Zt3 (fun x hx=>?_)) cv6 (fun _=>rfl) (fun _ h=>h) (fun _ _ _ _ h f=>fE h f)
 ·obtain ⟨i,g,l,most,u,z⟩:=x
  simp only[U6,ZaB] at hx
  refine sxT (fun Q=>(bif decide (i < ↑(List.map RawFace.enc l).length) then (bif decide (↑(List.map Face.enc u.faces).length < most) then (((0:Int)≤i∧(List.map RawFace.enc l)[i.toNat]?=some (ZJ [vI 0,vI 0,vI 0,vI 0,vI 0,vI 0] (rA i l)))∧(((0:Int) < (70:Int)∧(70:Int)≤(4611686018427387904:Int))∧(XK∧(((0:Int) < (80:Int)∧(80:Int)≤(4611686018427387904:Int))∧(XK∧(ZeO∧(bif pick (Z3N i l) (6:Int)==(5:Int) then (bif decide (i > (0:Int)) then (((0:Nat) < (1:Nat)∧(YG u)* (120:Nat)≤(140737488355328:Nat)∧Lens (14:Nat) (List.map Face.enc u.faces++[[vB true,vI 0,vI 0,vI (Z1 i l).c,vI (Z1 i l).scale,vI (Z2 i l).c,vI (Z2 i l).scale,vI 0,vI 0,vI 0,vI 0,vI 0,vI 0,PV.str []]]))∧Q (Ex.normal) (some ⟨166,(Xs i g l most),[(9,[PV.str u.name,vI u.back.c,vI u.back.scale,PV.lst (List.map Face.enc u.faces++[[vB true,vI 0,vI 0,vI (Z1 i l).c,vI (Z1 i l).scale,vI (Z2 i l).c,vI (Z2 i l).scale,vI 0,vI 0,vI 0,vI 0,vI 0,vI 0,PV.str ([])]])]),(8,(Z5 z))],[],YH,[]⟩)) else (Z3O i g l most u z Q)) else (Z3O i g l most u z Q)))))))) else Q (Ex.exit (0:Nat)) (ZxP u z)) else Q (Ex.exit (0:Nat)) (ZxP u z))) (fun _=>by kernel_rfl) ?_
  delta Z3O Z1 Yt Z2 Xs Zbm Ww Wv Xy YQ YH XM YG YR XK JB ZeO ZgC XL Zi2 ZlW ZxJ ZxF ZxH ZxI ZxD ZxE ZxN ZxK ZxG ZxL ZxM ZxO ZxP ZgD Zdy ZxB ZxC Z5 vI vB pI
  refine Zb (fun h0=>Zb (fun h1=>⟨?r242,⟨?r241,⟨?r240,⟨?r239,⟨?r238,⟨?r237,Zb (fun h2=>Zb (fun h3=>⟨?r0, ?_⟩) (fun h3=>⟨?r118,Zb (fun h4=>⟨?r59,⟨?r58,Zb (fun h5=>⟨?r40,⟨?r39,⟨?r38,⟨?r37,Zb (fun h6=>⟨?r19,⟨?r18,⟨?r17,Zb (fun h7=>⟨?r4,⟨?r3,⟨?r2,⟨?r1, ?_⟩⟩⟩⟩) (fun h7=>Zb (fun h8=>⟨?r8,⟨?r7,⟨?r6,⟨?r5, ?_⟩⟩⟩⟩) (fun h8=>Zb (fun h9=>⟨?r15,⟨?r14,⟨?r13,⟨?r12,⟨?r11,⟨?r10,⟨?r9, ?_⟩⟩⟩⟩⟩⟩⟩) (fun h9=>⟨?r16, ?_⟩)))⟩⟩⟩) (fun h6=>⟨?r36,Zb (fun h7=>⟨?r23,⟨?r22,⟨?r21,⟨?r20, ?_⟩⟩⟩⟩) (fun h7=>Zb (fun h8=>⟨?r27,⟨?r26,⟨?r25,⟨?r24, ?_⟩⟩⟩⟩) (fun h8=>Zb (fun h9=>⟨?r34,⟨?r33,⟨?r32,⟨?r31,⟨?r30,⟨?r29,⟨?r28, ?_⟩⟩⟩⟩⟩⟩⟩) (fun h9=>⟨?r35, ?_⟩)))⟩)⟩⟩⟩⟩) (fun h5=>⟨?r57,Zb (fun h6=>⟨?r44,⟨?r43,⟨?r42,⟨?r41, ?_⟩⟩⟩⟩) (fun h6=>Zb (fun h7=>⟨?r48,⟨?r47,⟨?r46,⟨?r45, ?_⟩⟩⟩⟩) (fun h7=>Zb (fun h8=>⟨?r55,⟨?r54,⟨?r53,⟨?r52,⟨?r51,⟨?r50,⟨?r49, ?_⟩⟩⟩⟩⟩⟩⟩) (fun h8=>⟨?r56, ?_⟩)))⟩)⟩⟩) (fun h4=>⟨?r117,Zb (fun h5=>⟨?r99,⟨?r98,⟨?r97,⟨?r96,Zb (fun h6=>⟨?r78,⟨?r77,⟨?r76,Zb (fun h7=>⟨?r63,⟨?r62,⟨?r61,⟨?r60, ?_⟩⟩⟩⟩) (fun h7=>Zb (fun h8=>⟨?r67,⟨?r66,⟨?r65,⟨?r64, ?_⟩⟩⟩⟩) (fun h8=>Zb (fun h9=>⟨?r74,⟨?r73,⟨?r72,⟨?r71,⟨?r70,⟨?r69,⟨?r68, ?_⟩⟩⟩⟩⟩⟩⟩) (fun h9=>⟨?r75, ?_⟩)))⟩⟩⟩) (fun h6=>⟨?r95,Zb (fun h7=>⟨?r82,⟨?r81,⟨?r80,⟨?r79, ?_⟩⟩⟩⟩) (fun h7=>Zb (fun h8=>⟨?r86,⟨?r85,⟨?r84,⟨?r83, ?_⟩⟩⟩⟩) (fun h8=>Zb (fun h9=>⟨?r93,⟨?r92,⟨?r91,⟨?r90,⟨?r89,⟨?r88,⟨?r87, ?_⟩⟩⟩⟩⟩⟩⟩) (fun h9=>⟨?r94, ?_⟩)))⟩)⟩⟩⟩⟩) (fun h5=>⟨?r116,Zb (fun h6=>⟨?r103,⟨?r102,⟨?r101,⟨?r100, ?_⟩⟩⟩⟩) (fun h6=>Zb (fun h7=>⟨?r107,⟨?r106,⟨?r105,⟨?r104, ?_⟩⟩⟩⟩) (fun h7=>Zb (fun h8=>⟨?r114,⟨?r113,⟨?r112,⟨?r111,⟨?r110,⟨?r109,⟨?r108, ?_⟩⟩⟩⟩⟩⟩⟩) (fun h8=>⟨?r115, ?_⟩)))⟩)⟩)⟩)) (fun h2=>⟨?r236,Zb (fun h3=>⟨?r177,⟨?r176,Zb (fun h4=>⟨?r158,⟨?r157,⟨?r156,⟨?r155,Zb (fun h5=>⟨?r137,⟨?r136,⟨?r135,Zb (fun h6=>⟨?r122,⟨?r121,⟨?r120,⟨?r119, ?_⟩⟩⟩⟩) (fun h6=>Zb (fun h7=>⟨?r126,⟨?r125,⟨?r124,⟨?r123, ?_⟩⟩⟩⟩) (fun h7=>Zb (fun h8=>⟨?r133,⟨?r132,⟨?r131,⟨?r130,⟨?r129,⟨?r128,⟨?r127, ?_⟩⟩⟩⟩⟩⟩⟩) (fun h8=>⟨?r134, ?_⟩)))⟩⟩⟩) (fun h5=>⟨?r154,Zb (fun h6=>⟨?r141,⟨?r140,⟨?r139,⟨?r138, ?_⟩⟩⟩⟩) (fun h6=>Zb (fun h7=>⟨?r145,⟨?r144,⟨?r143,⟨?r142, ?_⟩⟩⟩⟩) (fun h7=>Zb (fun h8=>⟨?r152,⟨?r151,⟨?r150,⟨?r149,⟨?r148,⟨?r147,⟨?r146, ?_⟩⟩⟩⟩⟩⟩⟩) (fun h8=>⟨?r153, ?_⟩)))⟩)⟩⟩⟩⟩) (fun h4=>⟨?r175,Zb (fun h5=>⟨?r162,⟨?r161,⟨?r160,⟨?r159, ?_⟩⟩⟩⟩) (fun h5=>Zb (fun h6=>⟨?r166,⟨?r165,⟨?r164,⟨?r163, ?_⟩⟩⟩⟩) (fun h6=>Zb (fun h7=>⟨?r173,⟨?r172,⟨?r171,⟨?r170,⟨?r169,⟨?r168,⟨?r167, ?_⟩⟩⟩⟩⟩⟩⟩) (fun h7=>⟨?r174, ?_⟩)))⟩)⟩⟩) (fun h3=>⟨?r235,Zb (fun h4=>⟨?r217,⟨?r216,⟨?r215,⟨?r214,Zb (fun h5=>⟨?r196,⟨?r195,⟨?r194,Zb (fun h6=>⟨?r181,⟨?r180,⟨?r179,⟨?r178, ?_⟩⟩⟩⟩) (fun h6=>Zb (fun h7=>⟨?r185,⟨?r184,⟨?r183,⟨?r182, ?_⟩⟩⟩⟩) (fun h7=>Zb (fun h8=>⟨?r192,⟨?r191,⟨?r190,⟨?r189,⟨?r188,⟨?r187,⟨?r186, ?_⟩⟩⟩⟩⟩⟩⟩) (fun h8=>⟨?r193, ?_⟩)))⟩⟩⟩) (fun h5=>⟨?r213,Zb (fun h6=>⟨?r200,⟨?r199,⟨?r198,⟨?r197, ?_⟩⟩⟩⟩) (fun h6=>Zb (fun h7=>⟨?r204,⟨?r203,⟨?r202,⟨?r201, ?_⟩⟩⟩⟩) (fun h7=>Zb (fun h8=>⟨?r211,⟨?r210,⟨?r209,⟨?r208,⟨?r207,⟨?r206,⟨?r205, ?_⟩⟩⟩⟩⟩⟩⟩) (fun h8=>⟨?r212, ?_⟩)))⟩)⟩⟩⟩⟩) (fun h4=>⟨?r234,Zb (fun h5=>⟨?r221,⟨?r220,⟨?r219,⟨?r218, ?_⟩⟩⟩⟩) (fun h5=>Zb (fun h6=>⟨?r225,⟨?r224,⟨?r223,⟨?r222, ?_⟩⟩⟩⟩) (fun h6=>Zb (fun h7=>⟨?r232,⟨?r231,⟨?r230,⟨?r229,⟨?r228,⟨?r227,⟨?r226, ?_⟩⟩⟩⟩⟩⟩⟩) (fun h7=>⟨?r233, ?_⟩)))⟩)⟩)⟩)⟩⟩⟩⟩⟩⟩) (fun h1=>?_)) (fun h0=>?_)
  case r0|r1|r2|r3|r4|r5|r6|r7|r8|r9|r10|r11|r12|r13|r14|r15|r16|r17|r18|r19|r20|r21|r22|r23|r24|r25|r26|r27|r28|r29|r30|r31|r32|r33|r34|r35|r36|r37|r38|r39|r40|r41|r42|r43|r44|r45|r46|r47|r48|r49|r50|r51|r52|r53|r54|r55|r56|r57|r58|r59|r60|r61|r62|r63|r64|r65|r66|r67|r68|r69|r70|r71|r72|r73|r74|r75|r76|r77|r78|r79|r80|r81|r82|r83|r84|r85|r86|r87|r88|r89|r90|r91|r92|r93|r94|r95|r96|r97|r98|r99|r100|r101|r102|r103|r104|r105|r106|r107|r108|r109|r110|r111|r112|r113|r114|r115|r116|r117|r118|r119|r120|r121|r122|r123|r124|r125|r126|r127|r128|r129|r130|r131|r132|r133|r134|r135|r136|r137|r138|r139|r140|r141|r142|r143|r144|r145|r146|r147|r148|r149|r150|r151|r152|r153|r154|r155|r156|r157|r158|r159|r160|r161|r162|r163|r164|r165|r166|r167|r168|r169|r170|r171|r172|r173|r174|r175|r176|r177|r178|r179|r180|r181|r182|r183|r184|r185|r186|r187|r188|r189|r190|r191|r192|r193|r194|r195|r196|r197|r198|r199|r200|r201|r202|r203|r204|r205|r206|r207|r208|r209|r210|r211|r212|r213|r214|r215|r216|r217|r218|r219|r220|r221|r222|r223|r224|r225|r226|r227|r228|r229|r230|r231|r232|r233|r234|r235|r236|r237|r238|r239|r240|r241|r242=>first | rfl | omega | (rw[YA];done) | (rw[Wl];done) | (have hb:=Zft g most l 0 [];have hd:=ZI (pick back 100);have hp:=Zcu (n:=back) (m:=100) (by omega);simp only[YA,WN,Wl,QG_,show Zc Face.dec []=[] from rfl,Qk_,Q1_] at *;skip) | (obtain ⟨a1,a2,a3,a4,a5,a6⟩:=hx;(try simp only[Qk_,Qc_] at h0);(try simp only[Qk_,Qc_] at h1);(try simp only[Qk_] at *);have hg:IntKind.i64.wrap ((g.length:Int)+2)=g.length+2:=Zg (by constructor<;>omega);first | omega | (rw[hg];omega) | exact Z8 (fun _=>rfl) (by omega) (by omega) | exact ⟨by decide,by omega,Xk (Xb (e:=Face.enc) (fun _=>rfl) _) rfl⟩ | (simp only[Qc_] at h4;exact Z8 (fun _=>rfl) (Zcu (by rw[hg];omega)).1 (by omega)) | (simp only[Qc_] at h3;exact Z8 (fun _=>rfl) (Zcu (by rw[hg];omega)).1 (by omega)))
  all_goals (obtain ⟨a1,a2,a3,a4,a5,a6⟩:=hx;try simp only[Qk_,Qc_,Qe_] at h0)
  all_goals first | (have hk:i < l.length:=h0;obtain ⟨f,t,e1,e2,e3⟩:=Yf (l:=l) a1 (by omega);have eA:rA i l=RawFace.enc f:=Yh e3;have r0:Z3N i l=f.kind:=(by unfold Z3N;rw[eA];rfl);have r1:qR i l=f.r:=(by unfold qR;rw[eA];rfl);have r2:qA i l=f.a:=(by unfold qA;rw[eA];rfl);have r3:qT i l=f.t:=(by unfold qT;rw[eA];rfl);have r4:qG i l=f.g:=(by unfold qG;rw[eA];rfl);have r5:qK i l=f.k:=(by unfold qK;rw[eA];rfl)) | (exact .inr ⟨by simp,_,rfl,by trivial,by unfold U6 ZaA;(try dsimp only);rw[List.drop_eq_nil_of_le (by omega)];rfl⟩)
  all_goals (simp only[Qk_] at h1)
  all_goals first | (exact .inr ⟨by simp,_,rfl,by trivial,by unfold U6 ZaA;(try dsimp only);(rw[e1,Znx,h1])<;>rfl⟩) | skip
  all_goals simp only[r0,r1,r2,r3,r4,r5,Z7D,Qk_] at *
  all_goals (have hw:IntKind.i64.wrap (i+1)=i+1:=Zg (by constructor<;>omega);have eb:WF g most (l.drop i.toNat) i u.faces=WF g most (l.drop (IntKind.i64.wrap (i+1)).toNat) (IntKind.i64.wrap (i+1)) (u.faces++[ZdR f i g]):=(by rw[hw,e1,e2,Znx,h1];rfl))
  all_goals
   refine .inl ⟨by trivial,(IntKind.i64.wrap (i+1),g,l,most,⟨u.name,u.back,u.faces++[ZdR f i g]⟩,z), ?_, ?_, ?_, ?_⟩
   ·simp only[U6,Zly,LensM.enc,QR_,QE_,QN_,Face.enc,ZdR,Z05,Zs8,Z5k,Z5l,Zs9,ZCx,Zwe,Zwf,Z9P,w64, *,Qp_,Ql_,Qr_,Qn_,Qu_,Qt_,Q4_,Qw_,Q5_,Q3_,Qb_,Qd_]
    try rfl
   ·simp only[Qc_] at h1
    simp only[U6,ZaB,hw,Qx_,Qs_,Q1_];exact ⟨by omega,by omega,a3,a4,a5,by omega⟩
   ·simp only[hw];omega
   ·intro e s' h;refine ⟨h.1,h.2.trans ?_⟩;unfold U6 ZaA;rw[eb]
theorem ZxQ:ZF Tryz.prog [(4,Zl0)] Tryz.f51:=ZG (l:=[Zn Tryz.f51 0]) (by kernel_rfl) (Zz (i:=4) (by kernel_rfl) rfl ZtH (Zr))
def Zq9(l:List RawFace):=Zc RawFace.dec (List.map RawFace.enc l)
def ZlX(l:List RawFace)(g:List Glass)(most:Int):=WF (Zc Glass.dec (List.map Glass.enc g)) most (List.drop (0:Nat) (Zq9 l)) (0:Int) (Zc Face.dec [])
def ZqA:=(0:Int)≤(0:Int)∧(0:Int)≤(18:Int)
def ZgE(l:List RawFace)(g:List Glass)(most:Int):=List.map Face.enc (ZlX l g most)
def ZxR:=[(99:UInt8),(114:UInt8),(111:UInt8),(119:UInt8),(110:UInt8)]
def ZeP(back:Int):=hdec (1:Nat) (IntKind.i64.wrap ((200:Int)+pick back (600:Int))) (1:Int)
def ZxS(back:Int)(l:List RawFace)(g:List Glass)(most:Int)(Q:PV→Prop):Prop:=ZqA∧(ZqA∧(ZqA∧(((0:Nat) < (1:Nat)∧((ZgE l g most).length+(1:Nat))* (120:Nat)≤(140737488355328:Nat)∧Lens (14:Nat) (List.map Face.enc (ZlX l g most)++[[vB false,vI 40,vI 0,vI 8,vI 0,vI 3,vI 0,vI 0,vI 0,vI 0,vI 0,vI 0,vI 0,PV.str ZxR]]))∧Q (PV.agg [PV.str ([(120:UInt8)]++digits (pick back (100:Int))),vI (ZeP back).c,vI (ZeP back).scale,PV.lst (List.map Face.enc (ZlX l g most)++[[vB false,vI 40,vI 0,vI 8,vI 0,vI 3,vI 0,vI 0,vI 0,vI 0,vI 0,vI 0,vI 0,PV.str (ZxR)]])]))))
def ZxT(back:Int):=LensM.mk ([(120:UInt8)]++digits (pick back (100:Int))) (ZeP back) (Zc Face.dec [])
def q25_45:=LensM.mk [] (Dec.mk (0:Int) (0:Int)) (Zc Face.dec [])
set_option maxHeartbeats 4000000 in
theorem ZCQ:Zh Tryz.prog 51 e51:=Zi<|Zf fun back=>Zf fun l=>Zf fun g=>Zf fun most=>EZ1 fun hp0=>by
 refine cfL Zn8 ZxQ rfl ?_
 refine sxT (fun Q=>(((0:Int) < (100:Int)∧(100:Int)≤(4611686018427387904:Int))∧(((-1000000000000000000:Int)≤pick back (100:Int)∧pick back (100:Int)≤(1000000000000000000:Int))∧(((1:Nat)+(digits (pick back (100:Int))).length≤(9223372036854775807:Nat))∧(((0:Int) < (600:Int)∧(600:Int)≤(4611686018427387904:Int))∧(((0:Int)≤(1:Int)∧(1:Int)≤(18:Int))∧((List.map Glass.enc g=List.map Glass.enc (Zc Glass.dec (List.map Glass.enc g)))∧((List.map RawFace.enc l=List.map RawFace.enc (Zq9 l))∧(([PV.str ([(120:UInt8)]++digits (pick back (100:Int))),vI (ZeP back).c,vI (ZeP back).scale,PV.lst []]=(ZxT back).enc)∧(([PV.str [],vI 0,vI 0,PV.lst []]=q25_45.enc)∧((ZaB (0:Int) (Zc Glass.dec (List.map Glass.enc g)) (Zq9 l) most (ZxT back) q25_45)∧(bif ↑(ZgE l g most).length==(0:Int) then (ZxS back l g most Q) else ((List.map Face.enc (ZlX l g most)=List.map Face.enc (Zc Face.dec (ZgE l g most)))∧(((Zc Face.dec (ZgE l g most)).length≤(140737488355328:Nat))∧(bif !Wa (Zc Face.dec (ZgE l g most)) then (ZxS back l g most Q) else Q (PV.agg [PV.str ([(120:UInt8)]++digits (pick back (100:Int))),vI (ZeP back).c,vI (ZeP back).scale,PV.lst (ZgE l g most)])))))))))))))))) (fun _=>by kernel_rfl) ?_
 delta Qn ZlX ZxS ZeP ZqA ZxR ZxT q25_45 Zq9 ZgE vI vB
 refine ⟨?r18,⟨?r17,⟨?r16,⟨?r15,⟨?r14,⟨?r13,⟨?r12,⟨?r11,⟨?r10,⟨?_,Zb (fun h0=>⟨?r3,⟨?r2,⟨?r1,⟨?r0, ?_⟩⟩⟩⟩) (fun h0=>⟨?r9,⟨?r8,Zb (fun h1=>⟨?r7,⟨?r6,⟨?r5,⟨?r4, ?_⟩⟩⟩⟩) (fun h1=>?_)⟩⟩)⟩⟩⟩⟩⟩⟩⟩⟩⟩⟩
 case r0|r1|r2|r3|r4|r5|r6|r7|r8|r9|r10|r11|r12|r13|r14|r15|r16|r17|r18=>first | rfl | omega | (rw[YA];done) | (rw[Wl];done) | (have hb:=Zft g most l 0 [];have hd:=ZI (pick back 100);have hp:=Zcu (n:=back) (m:=100) (by omega);simp only[YA,WN,Wl,QG_,show Zc Face.dec []=[] from rfl,Qk_,Q1_] at *;first | done | rfl | omega | exact ⟨by decide,by omega,Xk (Xb (e:=Face.enc) (fun _=>rfl) _) rfl⟩)
 all_goals simp only[YA,WN,Wl,QG_,QO_,show Zc Face.dec []=[] from rfl,Qk_] at *
 ·exact ⟨by omega,by omega,hp0.1,hp0.2.1,hp0.2.2,by simp⟩
 all_goals have e0:((WF g most l 0 []).length==0)=_:=Eq.trans (by cases hL:WF g most l 0 []<;>simp only[Qs_,Q1_]<;>(rfl)) h0
 all_goals simp only[Wm,Zla,e0,Q4_,Qw_,Qb_,Qd_]
 ·simp only[LensM.enc,QR_,QE_,QN_];rfl
 ·simp only[Qi_] at h1
  simp only[h1,Qt_,Qb_,LensM.enc,QR_,QE_,QN_];rfl
 ·simp only[Qf_] at h1
  simp only[h1,Qu_,Qd_];rfl
def Zdz(l:List RawFace):=Zc RawFace.dec (List.map RawFace.enc l)
def ZlY(raw:List I):=Zc I.dec (List.map I.enc raw)
def JC(raw:List I):=Zc Glass.dec (List.map Glass.enc (X5 (ZlY raw)))
def ZeQ(back:Int)(l:List RawFace)(raw:List I)(most:Int):=LensM.mk (Wm back (Zdz l) (JC raw) most).name (Wm back (Zdz l) (JC raw) most).back (Zc Face.dec (List.map Face.enc (Wm back (Zdz l) (JC raw) most).faces))
def ZxU(back:Int)(l:List RawFace)(raw:List I)(most:Int):=LensM.mk (Zil (ZeQ back l raw most)).name (Zil (ZeQ back l raw most)).back (Zc Face.dec (List.map Face.enc (Zil (ZeQ back l raw most)).faces))
def ZlZ(back:Int)(l:List RawFace)(raw:List I)(most:Int):=Za2 (ZxU back l raw most) (JC raw) (Zpz (pick back (3:Int)))
def ZqB(raw:List I):=List.map Glass.enc (X5 (ZlY raw))=List.map Glass.enc (JC raw)
def Zma(back:Int)(l:List RawFace)(raw:List I)(most:Int):=Za2 (ZeQ back l raw most) (JC raw) (Zpz (pick back (3:Int)))
def ZxV:=(0:Int) < (3:Int)∧(3:Int)≤(4611686018427387904:Int)
theorem ZCR:Zh Tryz.prog 22 e22:=Zi<|Zf fun back=>Zf fun l=>Zf fun raw=>Zf fun most=>Zf fun plain=>EZ1 fun hp0=>by
 refine cf0 (Za ZCO<|Za ZCQ<|Za ZCN<|Za Zow<|Za ZCI<|Za ZCM<|Ze) (fn:=Tryz.f22) rfl ?_
 refine sxT (fun Q=>((List.map I.enc raw=List.map I.enc (ZlY raw))∧(((ZlY raw).length≤(140737488355328:Nat))∧((List.map RawFace.enc l=List.map RawFace.enc (Zdz l))∧((ZqB raw)∧(((Zdz l).length≤(140737488355328:Nat)∧(JC raw).length≤(1000:Nat)∧most≤(1000:Int))∧(bif plain then (((Z5 (Wm back (Zdz l) (JC raw) most))=(ZeQ back l raw most).enc)∧(((Zc Face.dec (List.map Face.enc (Wm back (Zdz l) (JC raw) most).faces)).length≤(1000:Nat))∧(ZxV∧(((Z5 (Zil (ZeQ back l raw most)))=(ZxU back l raw most).enc)∧((ZqB raw)∧(((JC raw).length≤(140737488355328:Nat))∧Q (PV.agg [PV.lst (List.map Surf.enc (ZlZ back l raw most).fst.surfs),vI (ZlZ back l raw most).fst.op.lo,vI (ZlZ back l raw most).fst.op.hi,vB (ZlZ back l raw most).fst.op.no]))))))) else (ZxV∧(((Z5 (Wm back (Zdz l) (JC raw) most))=(ZeQ back l raw most).enc)∧((ZqB raw)∧(((JC raw).length≤(140737488355328:Nat))∧Q (PV.agg [PV.lst (List.map Surf.enc (Zma back l raw most).fst.surfs),vI (Zma back l raw most).fst.op.lo,vI (Zma back l raw most).fst.op.hi,vB (Zma back l raw most).fst.op.no])))))))))))) (fun _=>by kernel_rfl) ?_
 delta Qn ZeQ JC ZlZ Zdz ZqB Zma ZxU ZxV ZlY Z5 vI vB
 refine ⟨?r14,⟨?r13,⟨?r12,⟨?r11,⟨?r10,Zb (fun h0=>⟨?r5,⟨?r4,⟨?r3,⟨?r2,⟨?r1,⟨?r0, ?_⟩⟩⟩⟩⟩⟩) (fun h0=>⟨?r9,⟨?r8,⟨?r7,⟨?r6, ?_⟩⟩⟩⟩)⟩⟩⟩⟩⟩
 case r0|r1|r2|r3|r4|r5|r6|r7|r8|r9|r10|r11|r12|r13|r14=>first | rfl | omega | (have hg:=Zp4 raw;have hl:=Zwh back l (X5 raw) most hp0.2.2.1;simp only[YA,WN,Wl,dI,Zu,LensM.enc,SysM.enc] at *;first | done | rfl | omega)
 all_goals simp only[YA,WN,Wl,dI,Zu] at *
 ·subst h0;rfl
 ·subst h0;rfl
open Go
theorem ZxW:CSOk Tryz.prog (Yy [(66,e66),(67,e67)]):=Za ZCC<|Za ZCE<|Ze
set_option maxRecDepth 100000 in
set_option maxHeartbeats 1000000 in
def JU:=(0:Int)≤(0:Int)∧(0:Int) < (3:Int)
def Zep(s:SysM):=SysM.mk (Zc Surf.dec (List.map Surf.enc s.surfs)) s.op
def Z3P(p:Pixel)(Q:PV→List PV→Prop):Prop:=JU∧(JU∧(JU∧(JU∧(JU∧(JU∧(JU∧(JU∧Q (.tup []) [.v (.int IntKind.i64 (IntKind.i64.wrap (p.lo.a+(0:Int)))),.v (.int IntKind.i64 (p.lo.b)),.v (.int IntKind.i64 (p.lo.c)),.v (.int IntKind.i64 (IntKind.i64.wrap (p.hi.a+(255:Int)))),.v (.int IntKind.i64 (p.hi.b)),.v (.int IntKind.i64 (p.hi.c)),.v (.int IntKind.i64 (IntKind.i64.wrap (p.lost+(1:Int))))])))))))
def Zne(l:List Shape):=Zc Shape.dec (List.map Shape.enc l)
def Z3Q(s:SysM):=[PV.lst (List.map Surf.enc s.surfs),vI s.op.lo,vI s.op.hi,vB s.op.no]
theorem ZAd(p:Pixel)(s:SysM)(l:List Shape)(x:Iv)(y:Iv)(z:Cx)(n:Int)(Q:PV→List PV→Prop):ZvJ evEnv (Yy [(66,e66),(67,e67)]) ZfW ZfX noG [] 2000 Tryz.f36 (Pixel.enc p) [.agg (SysM.enc s),.lst (l.map Shape.enc),.agg (Iv.enc x),.agg (Iv.enc y),.v (.complex .f64 z.re z.im),.v (.int .i64 n),.v (.int .i64 0)] Q=(((Z3Q s)=(Zep s).enc)∧(bif (WD (Zep s) x y z n).snd then (((Z3Q s)=(Zep s).enc)∧((List.map Shape.enc l=List.map Shape.enc (Zne l))∧(((Zc Surf.dec (List.map Surf.enc s.surfs)).length≤(1000000:Nat)∧(Zne l).length≤(1000000:Nat))∧(bif (Yz (Zep s) (Zne l) (WD (Zep s) x y z n).fst).snd.snd then (Z3P p Q) else (JU∧(JU∧(JU∧(JU∧(JU∧(JU∧Q (.tup []) [.v (.int IntKind.i64 (IntKind.i64.wrap (p.lo.a+(Yz (Zep s) (Zne l) (WD (Zep s) x y z n).fst).fst.a))),.v (.int IntKind.i64 (p.lo.b)),.v (.int IntKind.i64 (p.lo.c)),.v (.int IntKind.i64 (IntKind.i64.wrap (p.hi.a+(Yz (Zep s) (Zne l) (WD (Zep s) x y z n).fst).snd.fst.a))),.v (.int IntKind.i64 (p.hi.b)),.v (.int IntKind.i64 (p.hi.c)),.v (.int IntKind.i64 (p.lost))])))))))))) else (Z3P p Q))):=by kernel_rfl
theorem Z83(p:Pixel)(s:SysM)(l:List Shape)(x:Iv)(y:Iv)(z:Cx)(n:Int)(hp0:s.surfs.length≤1000000∧l.length≤1000000):ZfK Tryz.prog 36 (Pixel.enc p) [.agg (SysM.enc s),.lst (l.map Shape.enc),.agg (Iv.enc x),.agg (Iv.enc y),.v (.complex .f64 z.re z.im),.v (.int .i64 n),.v (.int .i64 0)] (.tup []) (Pixel.enc (XD p (YS s l x y z n 0) 0)):=by
 obtain ⟨r,cs',⟨rfl,rfl⟩,h⟩:=Zr6 (f:=36) (Q:=fun r cs'=>r= .tup []∧cs'=Pixel.enc (XD p (YS s l x y z n 0) 0)) Zk ZxW Z4 Z3 Z7 (n:=2000) (LS:=[]) (fn:=Tryz.f36) (cs:=Pixel.enc p) (args:=[.agg (SysM.enc s),.lst (l.map Shape.enc),.agg (Iv.enc x),.agg (Iv.enc y),.v (.complex .f64 z.re z.im),.v (.int .i64 n),.v (.int .i64 0)]) rfl Zaj (by
  rw[ZAd]
  delta JU Zep Z3P Zne Z3Q vI vB
  refine ⟨by rw[Zu];rfl,Zb (fun h0=>⟨by rw[Zu];rfl,by rw[Zm],by rw[Zu,Zm];exact hp0,Zb (fun h1=>?_) (fun h1=>?_)⟩) (fun h0=>?_)⟩
  all_goals (try rw[Zu] at h0)
  all_goals (try rw[Zu,Zm] at h1)
  all_goals have hI:(0:Int)≤(0:Int)∧(0:Int) < (3:Int):=⟨by decide,by decide⟩
  all_goals (first | refine ⟨hI,hI,hI,hI,hI,hI,hI,hI,rfl, ?_⟩ | refine ⟨hI,hI,hI,hI,hI,hI,rfl, ?_⟩ | refine ⟨hI,hI,hI,hI,hI,hI,hI,hI,hI,hI,rfl, ?_⟩ | refine ⟨hI,hI,hI,hI,rfl, ?_⟩)
  all_goals (try rw[show (⟨s.surfs,s.op⟩:SysM)=s from rfl] at h0)
  all_goals (try rw[show (⟨s.surfs,s.op⟩:SysM)=s from rfl] at h1)
  all_goals (try rw[Zu])
  all_goals (try rw[Zm])
  ·simp only[YS,XS,h0,h1,Qb_];rfl
  ·simp only[YS,XS,h0,h1,Qb_,Qd_];rfl
  ·simp only[YS,h0,Qd_];rfl)
 exact h
set_option maxRecDepth 100000 in
set_option maxHeartbeats 1000000 in
def JV:=(0:Int)≤(1:Int)∧(1:Int) < (3:Int)
def Zeq(s:SysM):=SysM.mk (Zc Surf.dec (List.map Surf.enc s.surfs)) s.op
def Z3R(p:Pixel)(Q:PV→List PV→Prop):Prop:=JV∧(JV∧(JV∧(JV∧(JV∧(JV∧(JV∧(JV∧Q (.tup []) [.v (.int IntKind.i64 (p.lo.a)),.v (.int IntKind.i64 (IntKind.i64.wrap (p.lo.b+(0:Int)))),.v (.int IntKind.i64 (p.lo.c)),.v (.int IntKind.i64 (p.hi.a)),.v (.int IntKind.i64 (IntKind.i64.wrap (p.hi.b+(255:Int)))),.v (.int IntKind.i64 (p.hi.c)),.v (.int IntKind.i64 (IntKind.i64.wrap (p.lost+(1:Int))))])))))))
def Znf(l:List Shape):=Zc Shape.dec (List.map Shape.enc l)
def ZxX(s:SysM):=[PV.lst (List.map Surf.enc s.surfs),vI s.op.lo,vI s.op.hi,vB s.op.no]
theorem ZAe(p:Pixel)(s:SysM)(l:List Shape)(x:Iv)(y:Iv)(z:Cx)(n:Int)(Q:PV→List PV→Prop):ZvJ evEnv (Yy [(66,e66),(67,e67)]) ZfW ZfX noG [] 2000 Tryz.f36 (Pixel.enc p) [.agg (SysM.enc s),.lst (l.map Shape.enc),.agg (Iv.enc x),.agg (Iv.enc y),.v (.complex .f64 z.re z.im),.v (.int .i64 n),.v (.int .i64 1)] Q=(((ZxX s)=(Zeq s).enc)∧(bif (WD (Zeq s) x y z n).snd then (((ZxX s)=(Zeq s).enc)∧((List.map Shape.enc l=List.map Shape.enc (Znf l))∧(((Zc Surf.dec (List.map Surf.enc s.surfs)).length≤(1000000:Nat)∧(Znf l).length≤(1000000:Nat))∧(bif (Yz (Zeq s) (Znf l) (WD (Zeq s) x y z n).fst).snd.snd then (Z3R p Q) else (JV∧(JV∧(JV∧(JV∧(JV∧(JV∧Q (.tup []) [.v (.int IntKind.i64 (p.lo.a)),.v (.int IntKind.i64 (IntKind.i64.wrap (p.lo.b+(Yz (Zeq s) (Znf l) (WD (Zeq s) x y z n).fst).fst.b))),.v (.int IntKind.i64 (p.lo.c)),.v (.int IntKind.i64 (p.hi.a)),.v (.int IntKind.i64 (IntKind.i64.wrap (p.hi.b+(Yz (Zeq s) (Znf l) (WD (Zeq s) x y z n).fst).snd.fst.b))),.v (.int IntKind.i64 (p.hi.c)),.v (.int IntKind.i64 (p.lost))])))))))))) else (Z3R p Q))):=by kernel_rfl
theorem Z84(p:Pixel)(s:SysM)(l:List Shape)(x:Iv)(y:Iv)(z:Cx)(n:Int)(hp0:s.surfs.length≤1000000∧l.length≤1000000):ZfK Tryz.prog 36 (Pixel.enc p) [.agg (SysM.enc s),.lst (l.map Shape.enc),.agg (Iv.enc x),.agg (Iv.enc y),.v (.complex .f64 z.re z.im),.v (.int .i64 n),.v (.int .i64 1)] (.tup []) (Pixel.enc (XD p (YS s l x y z n 1) 1)):=by
 obtain ⟨r,cs',⟨rfl,rfl⟩,h⟩:=Zr6 (f:=36) (Q:=fun r cs'=>r= .tup []∧cs'=Pixel.enc (XD p (YS s l x y z n 1) 1)) Zk ZxW Z4 Z3 Z7 (n:=2000) (LS:=[]) (fn:=Tryz.f36) (cs:=Pixel.enc p) (args:=[.agg (SysM.enc s),.lst (l.map Shape.enc),.agg (Iv.enc x),.agg (Iv.enc y),.v (.complex .f64 z.re z.im),.v (.int .i64 n),.v (.int .i64 1)]) rfl Zaj (by
  rw[ZAe]
  delta JV Zeq Z3R Znf ZxX vI vB
  refine ⟨by rw[Zu];rfl,Zb (fun h0=>⟨by rw[Zu];rfl,by rw[Zm],by rw[Zu,Zm];exact hp0,Zb (fun h1=>?_) (fun h1=>?_)⟩) (fun h0=>?_)⟩
  all_goals (try rw[Zu] at h0)
  all_goals (try rw[Zu,Zm] at h1)
  all_goals have hI:(0:Int)≤(1:Int)∧(1:Int) < (3:Int):=⟨by decide,by decide⟩
  all_goals (first | refine ⟨hI,hI,hI,hI,hI,hI,hI,hI,rfl, ?_⟩ | refine ⟨hI,hI,hI,hI,hI,hI,rfl, ?_⟩ | refine ⟨hI,hI,hI,hI,hI,hI,hI,hI,hI,hI,rfl, ?_⟩ | refine ⟨hI,hI,hI,hI,rfl, ?_⟩)
  all_goals (try rw[show (⟨s.surfs,s.op⟩:SysM)=s from rfl] at h0)
  all_goals (try rw[show (⟨s.surfs,s.op⟩:SysM)=s from rfl] at h1)
  all_goals (try rw[Zu])
  all_goals (try rw[Zm])
  ·simp only[YS,XS,h0,h1,Qb_];rfl
  ·simp only[YS,XS,h0,h1,Qb_,Qd_];rfl
  ·simp only[YS,h0,Qd_];rfl)
 exact h
set_option maxRecDepth 100000 in
set_option maxHeartbeats 1000000 in
def WI:=(0:Int)≤(2:Int)∧(2:Int) < (3:Int)
def Zb6(s:SysM):=SysM.mk (Zc Surf.dec (List.map Surf.enc s.surfs)) s.op
def ZxY(p:Pixel)(Q:PV→List PV→Prop):Prop:=WI∧(WI∧(WI∧(WI∧(WI∧(WI∧(WI∧(WI∧Q (.tup []) [.v (.int IntKind.i64 (p.lo.a)),.v (.int IntKind.i64 (p.lo.b)),.v (.int IntKind.i64 (IntKind.i64.wrap (p.lo.c+(0:Int)))),.v (.int IntKind.i64 (p.hi.a)),.v (.int IntKind.i64 (p.hi.b)),.v (.int IntKind.i64 (IntKind.i64.wrap (p.hi.c+(255:Int)))),.v (.int IntKind.i64 (IntKind.i64.wrap (p.lost+(1:Int))))])))))))
def Zi3(l:List Shape):=Zc Shape.dec (List.map Shape.enc l)
def ZxZ(s:SysM):=[PV.lst (List.map Surf.enc s.surfs),vI s.op.lo,vI s.op.hi,vB s.op.no]
theorem ZAf(p:Pixel)(s:SysM)(l:List Shape)(x:Iv)(y:Iv)(z:Cx)(n:Int)(Q:PV→List PV→Prop):ZvJ evEnv (Yy [(66,e66),(67,e67)]) ZfW ZfX noG [] 2000 Tryz.f36 (Pixel.enc p) [.agg (SysM.enc s),.lst (l.map Shape.enc),.agg (Iv.enc x),.agg (Iv.enc y),.v (.complex .f64 z.re z.im),.v (.int .i64 n),.v (.int .i64 2)] Q=(((ZxZ s)=(Zb6 s).enc)∧(bif (WD (Zb6 s) x y z n).snd then (((ZxZ s)=(Zb6 s).enc)∧((List.map Shape.enc l=List.map Shape.enc (Zi3 l))∧(((Zc Surf.dec (List.map Surf.enc s.surfs)).length≤(1000000:Nat)∧(Zi3 l).length≤(1000000:Nat))∧(bif (Yz (Zb6 s) (Zi3 l) (WD (Zb6 s) x y z n).fst).snd.snd then (ZxY p Q) else (WI∧(WI∧(WI∧(WI∧(WI∧(WI∧Q (.tup []) [.v (.int IntKind.i64 (p.lo.a)),.v (.int IntKind.i64 (p.lo.b)),.v (.int IntKind.i64 (IntKind.i64.wrap (p.lo.c+(Yz (Zb6 s) (Zi3 l) (WD (Zb6 s) x y z n).fst).fst.c))),.v (.int IntKind.i64 (p.hi.a)),.v (.int IntKind.i64 (p.hi.b)),.v (.int IntKind.i64 (IntKind.i64.wrap (p.hi.c+(Yz (Zb6 s) (Zi3 l) (WD (Zb6 s) x y z n).fst).snd.fst.c))),.v (.int IntKind.i64 (p.lost))])))))))))) else (ZxY p Q))):=by kernel_rfl
theorem Z85(p:Pixel)(s:SysM)(l:List Shape)(x:Iv)(y:Iv)(z:Cx)(n:Int)(hp0:s.surfs.length≤1000000∧l.length≤1000000):ZfK Tryz.prog 36 (Pixel.enc p) [.agg (SysM.enc s),.lst (l.map Shape.enc),.agg (Iv.enc x),.agg (Iv.enc y),.v (.complex .f64 z.re z.im),.v (.int .i64 n),.v (.int .i64 2)] (.tup []) (Pixel.enc (XD p (YS s l x y z n 2) 2)):=by
 obtain ⟨r,cs',⟨rfl,rfl⟩,h⟩:=Zr6 (f:=36) (Q:=fun r cs'=>r= .tup []∧cs'=Pixel.enc (XD p (YS s l x y z n 2) 2)) Zk ZxW Z4 Z3 Z7 (n:=2000) (LS:=[]) (fn:=Tryz.f36) (cs:=Pixel.enc p) (args:=[.agg (SysM.enc s),.lst (l.map Shape.enc),.agg (Iv.enc x),.agg (Iv.enc y),.v (.complex .f64 z.re z.im),.v (.int .i64 n),.v (.int .i64 2)]) rfl Zaj (by
  rw[ZAf]
  delta WI Zb6 ZxY Zi3 ZxZ vI vB
  refine ⟨by rw[Zu];rfl,Zb (fun h0=>⟨by rw[Zu];rfl,by rw[Zm],by rw[Zu,Zm];exact hp0,Zb (fun h1=>?_) (fun h1=>?_)⟩) (fun h0=>?_)⟩
  all_goals (try rw[Zu] at h0)
  all_goals (try rw[Zu,Zm] at h1)
  all_goals have hI:(0:Int)≤(2:Int)∧(2:Int) < (3:Int):=⟨by decide,by decide⟩
  all_goals (first | refine ⟨hI,hI,hI,hI,hI,hI,hI,hI,rfl, ?_⟩ | refine ⟨hI,hI,hI,hI,hI,hI,rfl, ?_⟩ | refine ⟨hI,hI,hI,hI,hI,hI,hI,hI,hI,hI,rfl, ?_⟩ | refine ⟨hI,hI,hI,hI,rfl, ?_⟩)
  all_goals (try rw[show (⟨s.surfs,s.op⟩:SysM)=s from rfl] at h0)
  all_goals (try rw[show (⟨s.surfs,s.op⟩:SysM)=s from rfl] at h1)
  all_goals (try rw[Zu])
  all_goals (try rw[Zm])
  ·simp only[YS,XS,h0,h1,Qb_];rfl
  ·simp only[YS,XS,h0,h1,Qb_,Qd_];rfl
  ·simp only[YS,h0,Qd_];rfl)
 exact h
end Go.Men
namespace Go.Men
open Go Go.Ev
def cpA(cs args:List PV):Option (PV×List PV×List Prop):=
 match cs,args with
 | [.v (.int .i64 p1),.v (.int .i64 p2),.v (.int .i64 p3),.v (.int .i64 p4),.v (.int .i64 p5),.v (.int .i64 p6),.v (.int .i64 p7)],
   [.agg q1,.lst q2,.agg [.v (.int .i64 x1),.v (.int .i64 x2),.v (.bool x3)],.agg [.v (.int .i64 y1),.v (.int .i64 y2),.v (.bool y3)],.v (.complex .f64 a b),.v (.int .i64 n),.v (.int .i64 c)]=>
   some (.tup [],Pixel.enc (XD ⟨⟨p1,p2,p3⟩,⟨p4,p5,p6⟩,p7⟩ (YS (SysM.dec q1) (Zc Shape.dec q2) ⟨x1,x2,x3⟩ ⟨y1,y2,y3⟩ ⟨a,b⟩ n c.toNat) c.toNat),
    [q1=SysM.enc (SysM.dec q1),q2=(Zc Shape.dec q2).map Shape.enc,(SysM.dec q1).surfs.length≤1000000∧(Zc Shape.dec q2).length≤1000000,0≤c∧c < 3])
 | _,_=>none
def Z9b:Y4:=fun f cs args=>bif Nat.beq f 36 then cpA cs args else none
open Go.Proofs Go.Proofs.YtfeldacghdcghaaGreatDoor
theorem ZjX:CSPOk Tryz.prog Z9b:=by
 intro f cs args r cs' ps h hp
 unfold Z9b at h
 cases hf:Nat.beq f 36 with
 | false=>rw[hf] at h;exact absurd h (by simp)
 | true=>
   obtain rfl:=Qj_ hf
   rw[hf,Qb_] at h
   unfold cpA at h
   split at h
   ·rename_i p1 p2 p3 p4 p5 p6 p7 q1 q2 x1 x2 x3 y1 y2 y3 a b n c
    have h:=Qa_ h
    injection h with e1 h
    injection h with e2 e3
    subst e1;subst e2;subst e3
    have c1:=hp _ (Qv_ ..)
    have c2:=hp _ (Qq_ _ (Qv_ ..))
    have c3:=hp _ (Qq_ _ (Qq_ _ (Qv_ ..)))
    have c4:0≤c∧c < 3:=hp _ (Qq_ _ (Qq_ _ (Qq_ _ (Qv_ ..))))
    have key:ZfK Tryz.prog 36 (Pixel.enc ⟨⟨p1,p2,p3⟩,⟨p4,p5,p6⟩,p7⟩) [.agg (SysM.enc (SysM.dec q1)),.lst ((Zc Shape.dec q2).map Shape.enc),.agg (Iv.enc ⟨x1,x2,x3⟩),.agg (Iv.enc ⟨y1,y2,y3⟩),.v (.complex .f64 a b),.v (.int .i64 n),.v (.int .i64 c)] (.tup [])
     (Pixel.enc (XD ⟨⟨p1,p2,p3⟩,⟨p4,p5,p6⟩,p7⟩ (YS (SysM.dec q1) (Zc Shape.dec q2) ⟨x1,x2,x3⟩ ⟨y1,y2,y3⟩ ⟨a,b⟩ n c.toNat) c.toNat)):=by
     have:c=0∨c=1∨c=2:=by omega
     rcases this with rfl | rfl | rfl
     ·exact Z83 _ _ _ _ _ ⟨a,b⟩ n c3
     ·exact Z84 _ _ _ _ _ ⟨a,b⟩ n c3
     ·exact Z85 _ _ _ _ _ ⟨a,b⟩ n c3
    rw[←c1,←c2] at key
    exact key
   ·exact absurd h (by simp)
end Go.Men
namespace Go.Men
open Go.Ev Go.Proofs Go.Proofs.YtfeldacghdcghaaGreatDoor
theorem Z9c:Zh Tryz.prog 27 e27:=Zi<|Zf fun z=>Zf fun n=>EZ0<|by
 refine cf0 (Za ZCB<|Ze) (fn:=Tryz.f27) rfl ?_
 refine sxT (fun Q=>Q (vB (!YB z n.n))) (fun _=>by kernel_rfl) ?_
 delta Qn vB
 refine ?_
 all_goals rfl
theorem Z3S:Zh Tryz.prog 30 e30:=Zi<|Zf fun s=>EZ0<|by
 refine cf0 Ze (fn:=Tryz.f30) rfl ?_
 refine sxT (fun Q=>Q (vB (↑(List.map Surf.enc s.surfs).length==(0:Int)))) (fun _=>by kernel_rfl) ?_
 delta Qn vB
 refine ?_
 all_goals (simp_all[nz,nzA,nz1,Iv.enc,V.enc,Ray.enc,Dec.enc,Shape.enc,none',told,K6_,WO];done)
def ZCl:=Yy [(27,e27)]
theorem Z0H:CSOk Tryz.prog ZCl:=Za Z9c<|Ze
theorem Z6A:Ye Tryz.prog (Zn Tryz.f57 0) Zoq:=by
 refine ZdK Zk.Γ (Zw Zk Z0H Z4 Z3 Z7 (LS:=[]) (ZM (l:=[]) (by kernel_rfl) Zr) (n:=2000) (U4 Zwy) (U4 Zgy) (fun x e s=>((U4 ZaC x=true∧e= .ret∧s=U4 ZjD x)∨(U4 ZaC x=false∧e= .exit 0∧s=U4 Zop x))) (fun x=>(x.2.2.2 - x.1).toNat) Zoo Z5C Z5D (fun x hx=>?_)) Zoo ?_
 ·obtain ⟨i,l,n,m⟩:=x
  simp only[U4,Zgy] at hx
  refine sxT (fun Q=>(bif decide (i < m) then (((0:Int)≤i∧(List.map Cx.enc l)[i.toNat]?=some (ZJ [PV.v (Value.complex FloatKind.f64 (0:Nat) (0:Nat))] ((List.map Cx.enc l).getD i.toNat [])))∧((n.enc=n.enc)∧(bif !YB (Cx.mk (Zr4 (((List.map Cx.enc l).getD i.toNat []).headD PV.nil)) (Zr5 (((List.map Cx.enc l).getD i.toNat []).headD PV.nil))) n.n then Q (Ex.ret) (some ⟨19,[(4,pI i)],[],[],[],[]⟩) else Q (Ex.normal) (some ⟨19,[(8,AV.p (vI (IntKind.i64.wrap (i+(1:Int))))),(0,AV.p (PV.lst (List.map Cx.enc l))),(1,AV.p (PV.fn (27:FuncId) [PV.lptr [vI n.n] 0])),(7,pI m)],[],[],[],[]⟩)))) else Q (Ex.exit (0:Nat)) (some ⟨19,[],[],[],[],[]⟩))) (fun _=>by kernel_rfl) ?_
  delta vI pI
  refine Zb (fun h0=>⟨?r1,⟨?r0,Zb (fun h1=> .inr ⟨by simp,_,rfl, ?_⟩) (fun h1=> .inl ⟨rfl,(IntKind.i64.wrap (i+(1:Int)),l,n,m),rfl, ?_, ?_, ?_⟩)⟩⟩) (fun h0=> .inr ⟨by simp,_,rfl, ?_⟩)
  case r0|r1=>first | rfl | (rw[dCx];done) | (rw[Jk];done) | (simp only[dCx,Jk];skip) | omega | (obtain ⟨a1,a2,a3,a4⟩:=hx;simp only[Qc_] at h0;exact Z8 (fun _=>rfl) (by omega) (by omega))
  all_goals try dsimp only[U4]
  all_goals (try obtain ⟨a1,a2,a3,a4⟩:=hx)
  all_goals (try simp only[Qc_,Qe_] at h0)
  ·obtain ⟨x,r,e1,e2,e3⟩:=Yf (l:=l) a1 (by omega)
   rw[Yh e3] at h1
   refine .inl ⟨?_,rfl, ?_⟩
   ·simp only[U4,ZaC,e1,QU_]
    rw[show (!YB x n.n)=true from h1];rfl
   ·simp only[U4,ZjD,e1,Xa]
    rw[show (!YB x n.n)=true from h1];rfl
  ·rw[Zg (by constructor<;>omega)];simp only[U4,Zgy];omega
  ·show (m - IntKind.i64.wrap (i+1)).toNat < (m - i).toNat
   rw[Zg (by constructor<;>omega)];omega
  ·obtain ⟨x,r,e1,e2,e3⟩:=Yf (l:=l) a1 (by omega)
   rw[Yh e3] at h1
   have hp:(!YB x n.n)=false:=h1
   rw[Zg (by constructor<;>omega)]
   simp only[U4,ZaC,ZjD,Zop,e1,e2,QU_,hp,Qw_,Xa,Qd_]
   exact fun e s h=>h
  ·refine .inr ⟨?_,rfl,rfl⟩
   simp only[U4,ZaC]
   rw[Q0_ (by omega)];rfl
 ·intro σ K hS
  unfold Zoq at hS
  split at hS
  ·rename_i p1 p2 p3 p4 hk
   obtain ⟨hi,hK⟩:=W8 hS
   refine ⟨(p1,(Zc Cx.dec p2),(I.dec p3),p4),by
    simp only[Zwy]
    rw[←(show p2=(Zc Cx.dec p2).map Cx.enc from hi _ (by simp))]
    rw[←(show p3=I.enc (I.dec p3) from hi _ (by simp))]
    exact hk,hi _ (by simp),fun e s hf=>?_⟩
   dsimp only[U4] at hf
   rcases hf with ⟨hc,rfl,rfl⟩ | ⟨hc,hf⟩
   ·rw[hc] at hK;exact hK
   ·rw[hc] at hK;obtain ⟨rfl,rfl⟩:=hf;exact hK
  ·exact hS.elim
theorem Z86:ZF Tryz.prog [(3,Zoq)] Tryz.f57:=ZG (l:=[Zn Tryz.f57 0]) (by kernel_rfl) (Zz (i:=3) (by kernel_rfl) rfl Z6A (Zr))
def ZqC(l:List Cx):=Zc Cx.dec (List.map Cx.enc l)
theorem Z87(l:List Cx)(n:I)(hp0:l.length≤140737488355328):Con Tryz.prog 57 [.lst (l.map Cx.enc),.fn 27 [.lptr (I.enc n) 0]] (.v (.int .i64 (Xa (fun z=> !YB z n.n) l 0))):=by
 refine cfL Z0H Z86 rfl ?_
 refine sxT (fun Q=>((List.map Cx.enc l=List.map Cx.enc (ZqC l))∧((n.enc=n.enc)∧((Zgy (0:Int) (ZqC l) n ↑(List.map Cx.enc l).length)∧(bif ZaC (0:Int) (ZqC l) n ↑(List.map Cx.enc l).length then Q (vI (Xa (fun z=> !YB z (I.dec n.enc).n) (List.drop (0:Nat) (ZqC l)) (0:Int))) else Q (vI (-1))))))) (fun _=>by kernel_rfl) ?_
 delta Qn ZqC vI
 refine ⟨?r1,⟨?r0,⟨?_,Zb (fun h0=>?_) (fun h0=>?_)⟩⟩⟩
 case r0|r1=>first | rfl | (rw[dCx];done)
 all_goals simp only[dCx,ZAF] at *
 ·exact ⟨by omega,by omega,by simp,by simp;omega⟩
 ·simp[nz,nzA]
 ·rw[Zih (by simpa [ZaC] using h0)];rfl
theorem ZCS:Zh Tryz.prog 57 e57:=by
 intro args r ps h hp
 unfold e57 at h
 split at h
 ·rename_i p1 p2
  cases (Qa_ h)
  exact by
   have hq:=Z87 (Zc Cx.dec p1) (I.dec p2) (hp _ (by simp))
   rw[←(show p1=(Zc Cx.dec p1).map Cx.enc from hp _ (by simp))] at hq
   rw[←(show p2=I.enc (I.dec p2) from hp _ (by simp))] at hq
   exact hq
 ·exact absurd h (by simp)
theorem Z88(l:List Cx)(n:I)(hp0:l.length≤140737488355328):Con Tryz.prog 26 [.lst (l.map Cx.enc),.fn 27 [.lptr (I.enc n) 0]] (.v (.bool (l.any (fun z=> !YB z n.n)))):=by
 refine cf0 (Za ZCS<|Za Z9c<|Ze) (fn:=Tryz.f26) rfl ?_
 refine sxT (fun Q=>((List.map Cx.enc l=List.map Cx.enc (Zc Cx.dec (List.map Cx.enc l)))∧((n.enc=n.enc)∧(((Zc Cx.dec (List.map Cx.enc l)).length≤(140737488355328:Nat))∧Q (vB (decide (Xa (fun z=> !YB z (I.dec n.enc).n) (Zc Cx.dec (List.map Cx.enc l)) (0:Int)≥(0:Int)))))))) (fun _=>by kernel_rfl) ?_
 delta Qn vB
 refine ⟨?r2,⟨?r1,⟨?r0, ?_⟩⟩⟩
 case r0|r1|r2=>first | rfl | (rw[dCx];done) | (rw[Jk];done) | (simp only[dCx,Jk];first | done | omega)
 simp only[dCx,ZAF] at *
 simp only[nz,nzA]
 rw[Zii (by omega)]
theorem ZCT:Zh Tryz.prog 26 e26:=by
 intro args r ps h hp
 unfold e26 at h
 split at h
 ·rename_i p1 p2
  cases (Qa_ h)
  exact by
   have hq:=Z88 (Zc Cx.dec p1) (I.dec p2) (hp _ (by simp))
   rw[←(show p1=(Zc Cx.dec p1).map Cx.enc from hp _ (by simp))] at hq
   rw[←(show p2=I.enc (I.dec p2) from hp _ (by simp))] at hq
   exact hq
 ·exact absurd h (by simp)
def ZCm:=Yy [(30,e30)]
def Zh2(i:Int)(l:List SysM):=(List.map SysM.enc l).getD i.toNat []
def Z3T(i:Int)(l:List SysM):=SysM.mk (Zc Surf.dec (ZbO ((Zh2 i l).headD PV.nil))) (Iv.dec (Zh2 i l).tail)
theorem Z0I:CSOk Tryz.prog ZCm:=Za Z3S<|Ze
theorem Z6B:Ye Tryz.prog (Zn Tryz.f58 0) Zot:=by
 refine ZdK Zk.Γ (Zw Zk Z0I Z4 Z3 Z7 (LS:=[]) (ZM (l:=[]) (by kernel_rfl) Zr) (n:=2000) (U3 Zwz) (U3 Zg0) (fun x e s=>((U3 ZaD x=true∧e= .ret∧s=U3 ZjE x)∨(U3 ZaD x=false∧e= .exit 0∧s=U3 Zos x))) (fun x=>(x.2.2 - x.1).toNat) Zor Z5E Z5F (fun x hx=>?_)) Zor ?_
 ·obtain ⟨i,l,n⟩:=x
  simp only[U3,Zg0] at hx
  refine sxT (fun Q=>(bif decide (i < n) then (((0:Int)≤i∧(List.map SysM.enc l)[i.toNat]?=some (ZJ [PV.nil,vI 0,vI 0,vB false] (Zh2 i l)))∧(([PV.lst (ZbO ((Zh2 i l).headD PV.nil)),vI (intOf ((Zh2 i l).tail.headD PV.nil)),vI (intOf ((Zh2 i l).tail.tail.headD PV.nil)),vB (Zt ((Zh2 i l).tail.tail.tail.headD PV.nil))]=(Z3T i l).enc)∧(bif WO (Z3T i l) then Q (Ex.ret) (some ⟨19,[(4,pI i)],[],[],[],[]⟩) else Q (Ex.normal) (some ⟨19,[(8,AV.p (vI (IntKind.i64.wrap (i+(1:Int))))),(0,AV.p (PV.lst (List.map SysM.enc l))),(1,AV.p (PV.fn (30:FuncId) [])),(7,pI n)],[],[],[],[]⟩)))) else Q (Ex.exit (0:Nat)) (some ⟨19,[],[],[],[],[]⟩))) (fun _=>by kernel_rfl) ?_
  delta Zh2 Z3T vI vB pI
  refine Zb (fun h0=>⟨?r1,⟨?r0,Zb (fun h1=> .inr ⟨by simp,_,rfl, ?_⟩) (fun h1=> .inl ⟨rfl,(IntKind.i64.wrap (i+(1:Int)),l,n),rfl, ?_, ?_, ?_⟩)⟩⟩) (fun h0=> .inr ⟨by simp,_,rfl, ?_⟩)
  case r0|r1=>first | rfl | (rw[dCx];done) | (rw[Jk];done) | (simp only[dCx,Jk];skip) | omega | (obtain ⟨a1,a2,a3,a4⟩:=hx;simp only[Qc_] at h0;exact Z8 (fun _=>rfl) (by omega) (by omega)) | (obtain ⟨a1,a2,a3,a4⟩:=hx;simp only[Qc_] at h0;obtain ⟨x,r,e1,e2,e3⟩:=Yf (l:=l) a1 (by omega);rw[Yh e3];exact Kl_ SysM.enc (ZmQ x).symm)
  all_goals try dsimp only[U3]
  all_goals (try obtain ⟨a1,a2,a3,a4⟩:=hx)
  all_goals (try simp only[Qc_,Qe_] at h0)
  ·obtain ⟨x,r,e1,e2,e3⟩:=Yf (l:=l) a1 (by omega)
   rw[Yh e3] at h1
   have hq:(⟨Zc Surf.dec (ZbO (x.enc.headD PV.nil)),Iv.dec x.enc.tail⟩:SysM)=x:=ZmQ x
   rw[hq] at h1
   refine .inl ⟨?_,rfl, ?_⟩
   ·simp only[U3,ZaD,e1,QU_]
    rw[show WO x=true from h1];rfl
   ·simp only[U3,ZjE,e1,Xa]
    rw[show WO x=true from h1];rfl
  ·rw[Zg (by constructor<;>omega)];simp only[U3,Zg0];omega
  ·show (n - IntKind.i64.wrap (i+1)).toNat < (n - i).toNat
   rw[Zg (by constructor<;>omega)];omega
  ·obtain ⟨x,r,e1,e2,e3⟩:=Yf (l:=l) a1 (by omega)
   rw[Yh e3] at h1
   have hq:(⟨Zc Surf.dec (ZbO (x.enc.headD PV.nil)),Iv.dec x.enc.tail⟩:SysM)=x:=ZmQ x
   rw[hq] at h1
   have hp:WO x=false:=h1
   rw[Zg (by constructor<;>omega)]
   simp only[U3,ZaD,ZjE,Zos,e1,e2,QU_,hp,Qw_,Xa,Qd_]
   exact fun e s h=>h
  ·refine .inr ⟨?_,rfl,rfl⟩
   simp only[U3,ZaD]
   rw[Q0_ (by omega)];rfl
 ·intro σ K hS
  unfold Zot at hS
  split at hS
  ·rename_i p1 p2 p3 hk
   obtain ⟨hi,hK⟩:=W8 hS
   refine ⟨(p1,(Zc SysM.dec p2),p3),by
    simp only[Zwz]
    rw[←(show p2=(Zc SysM.dec p2).map SysM.enc from hi _ (by simp))]
    exact hk,hi _ (by simp),fun e s hf=>?_⟩
   dsimp only[U3] at hf
   rcases hf with ⟨hc,rfl,rfl⟩ | ⟨hc,hf⟩
   ·rw[hc] at hK;exact hK
   ·rw[hc] at hK;obtain ⟨rfl,rfl⟩:=hf;exact hK
  ·exact hS.elim
theorem Z89:ZF Tryz.prog [(3,Zot)] Tryz.f58:=ZG (l:=[Zn Tryz.f58 0]) (by kernel_rfl) (Zz (i:=3) (by kernel_rfl) rfl Z6B (Zr))
def ZqD(l:List SysM):=Zc SysM.dec (List.map SysM.enc l)
theorem Z8A(l:List SysM)(hp0:l.length≤140737488355328):Con Tryz.prog 58 [.lst (l.map SysM.enc),.fn 30 []] (.v (.int .i64 (Xa WO l 0))):=by
 refine cfL Z0I Z89 rfl ?_
 refine sxT (fun Q=>((List.map SysM.enc l=List.map SysM.enc (ZqD l))∧((Zg0 (0:Int) (ZqD l) ↑(List.map SysM.enc l).length)∧(bif ZaD (0:Int) (ZqD l) ↑(List.map SysM.enc l).length then Q (vI (Xa WO (List.drop (0:Nat) (ZqD l)) (0:Int))) else Q (vI (-1)))))) (fun _=>by kernel_rfl) ?_
 delta Qn ZqD vI
 refine ⟨?r0,⟨?_,Zb (fun h0=>?_) (fun h0=>?_)⟩⟩
 case r0=>first | rfl | (rw[dCx];done) | (rw[Jk];done)
 all_goals simp only[Jk] at *
 ·exact ⟨by omega,by omega,by simp,by simp;omega⟩
 ·simp[nz,nzA]
 ·rw[Zih (by simpa [ZaD] using h0)];rfl
theorem ZCU:Zh Tryz.prog 58 e58:=by
 intro args r ps h hp
 unfold e58 at h
 split at h
 ·rename_i p1
  cases (Qa_ h)
  exact by
   have hq:=Z8A (Zc SysM.dec p1) (hp _ (by simp))
   rw[←(show p1=(Zc SysM.dec p1).map SysM.enc from hp _ (by simp))] at hq
   exact hq
 ·exact absurd h (by simp)
theorem Z8B(l:List SysM)(hp0:l.length≤140737488355328):Con Tryz.prog 29 [.lst (l.map SysM.enc),.fn 30 []] (.v (.bool (l.any WO))):=by
 refine cf0 (Za ZCU<|Za Z3S<|Ze) (fn:=Tryz.f29) rfl ?_
 refine sxT (fun Q=>((List.map SysM.enc l=List.map SysM.enc (Zc SysM.dec (List.map SysM.enc l)))∧(((Zc SysM.dec (List.map SysM.enc l)).length≤(140737488355328:Nat))∧Q (vB (decide (Xa WO (Zc SysM.dec (List.map SysM.enc l)) (0:Int)≥(0:Int))))))) (fun _=>by kernel_rfl) ?_
 delta Qn vB
 refine ⟨?r1,⟨?r0, ?_⟩⟩
 case r0|r1=>first | rfl | (rw[dCx];done) | (rw[Jk];done) | (simp only[dCx,Jk];first | done | omega)
 simp only[Jk] at *
 simp only[nz,nzA]
 rw[Zii (by omega)]
theorem ZCV:Zh Tryz.prog 29 e29:=by
 intro args r ps h hp
 unfold e29 at h
 split at h
 ·rename_i p1
  cases (Qa_ h)
  exact by
   have hq:=Z8B (Zc SysM.dec p1) (hp _ (by simp))
   rw[←(show p1=(Zc SysM.dec p1).map SysM.enc from hp _ (by simp))] at hq
   exact hq
 ·exact absurd h (by simp)
def Z6C:=Yy [(26,e26),(29,e29),(30,e30),(31,e31),(32,e32),(33,e33),(35,e35),(34,e34)]
set_option maxHeartbeats 4000000 in
def Zh3(l:List Shape):=Zc Shape.dec (List.map Shape.enc l)
def Zng(s:S3):=List.map Surf.enc s.a.surfs
def Znh(s:S3):=List.map Surf.enc s.b.surfs
def Zni(s:S3):=List.map Surf.enc s.c.surfs
def Z3U(s:S3):=[PV.lst (Zng s),vI s.a.op.lo,vI s.a.op.hi,vB s.a.op.no,PV.lst (Znh s),vI s.b.op.lo,vI s.b.op.hi,vB s.b.op.no,PV.lst (Zni s),vI s.c.op.lo,vI s.c.op.hi,vB s.c.op.no]
def ZuH(k:Int)(ds2:List Cx):=Cx.mk (Zr4 (((List.map Cx.enc ds2).getD k.toNat []).headD PV.nil)) (Zr5 (((List.map Cx.enc ds2).getD k.toNat []).headD PV.nil))
def ZuI(l:List Shape):=List.map Shape.enc l=List.map Shape.enc (Zh3 l)
theorem Zf5:CSOk Tryz.prog Z6C:=Za ZCT<|Za ZCV<|Za Z3S<|Za ZC4<|Za Z8X<|Za ZuB<|Za Zhw<|Za ZjK<|Ze
set_option maxHeartbeats 4000000 in
theorem Zfj:Ye Tryz.prog (Zn Tryz.f12 2) ZaE:=by
 refine lsG Zk.Γ (Zw Zk Zf5 ZjX Z3 Z7 (LS:=[]) (ZM (l:=[Zn Tryz.f12 3]) (by kernel_rfl) (X8 (i:=19) (by kernel_rfl) rfl (Zr))) (n:=2000) (U19 Zw0) (U19 J6) (fun x e s=>(e= .exit 4∧s=U19 Zdg x)) (fun x=>(x.2.2.2.2.2.2.2.2.2.2.2.2.2.1 - x.2.1).toNat) Zl1 Zt4 Zt5 (fun x hx=>?_)) ZDl (fun _=>rfl) (fun _ h=>h) (fun _ _ _ _ h f=>fE h f)
 ·obtain ⟨l,k,ds2,ds,h,j,pitch,w,h2,j2,w2,i2,out,m,p,n,yy,xx,s⟩:=x
  simp only[U19,J6] at hx
  refine sxT (fun Q=>(bif decide (k < m) then (((0:Int)≤k∧(List.map Cx.enc ds2)[k.toNat]?=some (ZJ [PV.v (Value.complex FloatKind.f64 (0:Nat) (0:Nat))] ((List.map Cx.enc ds2).getD k.toNat [])))∧(((0:Int)≤(0:Int)∧(0:Int) < (3:Int))∧(([PV.lst (Zng s),vI s.a.op.lo,vI s.a.op.hi,vB s.a.op.no]=(SysM.mk (Zc Surf.dec (Zng s)) s.a.op).enc)∧((ZuI l)∧(((Zc Surf.dec (Zng s)).length≤(1000000:Nat)∧(Zh3 l).length≤(1000000:Nat))∧(((0:Int)≤(0:Int)∧(0:Int) < (3:Int))∧(((0:Int)≤(1:Int)∧(1:Int) < (3:Int))∧(([PV.lst (Znh s),vI s.b.op.lo,vI s.b.op.hi,vB s.b.op.no]=(SysM.mk (Zc Surf.dec (Znh s)) s.b.op).enc)∧((ZuI l)∧(((Zc Surf.dec (Znh s)).length≤(1000000:Nat)∧(Zh3 l).length≤(1000000:Nat))∧(((0:Int)≤(1:Int)∧(1:Int) < (3:Int))∧(((0:Int)≤(2:Int)∧(2:Int) < (3:Int))∧(([PV.lst (Zni s),vI s.c.op.lo,vI s.c.op.hi,vB s.c.op.no]=(SysM.mk (Zc Surf.dec (Zni s)) s.c.op).enc)∧((ZuI l)∧(((Zc Surf.dec (Zni s)).length≤(1000000:Nat)∧(Zh3 l).length≤(1000000:Nat))∧(((0:Int)≤(2:Int)∧(2:Int) < (3:Int))∧Q (Ex.normal) (some ⟨114,[(23,AV.ptr 23 0),(12,AV.ptr 12 0),(22,AV.ptr 22 0),(21,AV.ptr 21 0),(1,AV.p (PV.lst (List.map Shape.enc l))),(7,AV.ptr 7 0),(88,AV.p (vI (IntKind.i64.wrap (k+(1:Int))))),(86,AV.p (PV.lst (List.map Cx.enc ds2))),(6,AV.p (PV.lst (List.map Cx.enc ds))),(3,pI h),(19,pI j),(4,pI pitch),(2,pI w),(62,pI h2),(63,pI j2),(66,pI w2),(67,pI i2),(18,AV.p (PV.lst (List.map Pixel.enc out))),(87,pI m)],[(23,(Zb0 (XD (XD (XD p (YS (SysM.mk (Zc Surf.dec (Zng s)) s.a.op) (Zh3 l) xx yy (ZuH k ds2) n (0:Nat)) (0:Nat)) (YS (SysM.mk (Zc Surf.dec (Znh s)) s.b.op) (Zh3 l) xx yy (ZuH k ds2) n (1:Nat)) (1:Nat)) (YS (SysM.mk (Zc Surf.dec (Zni s)) s.c.op) (Zh3 l) xx yy (ZuH k ds2) n (2:Nat)) (2:Nat)))),(12,[vI n]),(22,(eIv yy)),(21,(eIv xx)),(7,(Z3U s))],[nat_lit 7],[(Loc.t (nat_lit 18),nat_lit 44)],[]⟩))))))))))))))))) else Q (Ex.exit (4:Nat)) (some ⟨114,[(12,AV.ptr 12 0),(1,AV.p (PV.lst (List.map Shape.enc l))),(7,AV.ptr 7 0),(6,AV.p (PV.lst (List.map Cx.enc ds))),(3,pI h),(19,pI j),(4,pI pitch),(2,pI w),(62,pI h2),(63,pI j2),(66,pI w2),(67,pI i2),(23,AV.ptr 23 0),(18,AV.p (PV.lst (List.map Pixel.enc out)))],[(12,[vI n]),(7,(Z3U s)),(23,(Zb0 p))],[nat_lit 7],[(Loc.t (nat_lit 18),nat_lit 44)],[]⟩))) (fun _=>by kernel_rfl) ?_
  delta Zh3 Z3U ZuH Zng ZuI Znh Zni eIv Zb0 vI vB pI
  refine Zb (fun h0=>⟨?r15,⟨?r14,⟨?r13,⟨?r12,⟨?r11,⟨?r10,⟨?r9,⟨?r8,⟨?r7,⟨?r6,⟨?r5,⟨?r4,⟨?r3,⟨?r2,⟨?r1,⟨?r0, ?_⟩⟩⟩⟩⟩⟩⟩⟩⟩⟩⟩⟩⟩⟩⟩⟩) (fun h0=>?_)
  case r0|r1|r2|r3|r4|r5|r6|r7|r8|r9|r10|r11|r12|r13|r14|r15=>first | rfl | omega | (rw[Zm];done) | (rw[dCx];done) | (rw[ZT];done) | (simp only[SysM.enc,S3.enc,Iv.enc,Pixel.enc,Zu,ZT,Zm,dCx];first | done | rfl | omega) | (exact (by rw[Jk]:List.map SysM.enc [s.a,s.b,s.c]=List.map SysM.enc (Zc SysM.dec (List.map SysM.enc [s.a,s.b,s.c])))) | (rw[Jk [s.a,s.b,s.c]];exact (by decide:3≤140737488355328)) | (obtain ⟨⟨a1,a2,a3,a4,a5⟩,_⟩:=hx;simp only[Qc_] at h0;subst a3;exact Z8 (fun _=>rfl) (by omega) (by omega))
  all_goals obtain ⟨⟨a1,a2,a3,a4,a5⟩,b1,b2,b3,b4⟩:=hx
  all_goals subst a3
  all_goals (try simp only[Qc_,Qe_] at h0)
  ·have hw:IntKind.i64.wrap (k+1)=k+1:=Zg (by constructor<;>omega)
   obtain ⟨z,t,e1,e2,e3⟩:=Yf a1 (show k < ((List.length ds2:Nat):Int) by omega)
   simp only[Yh e3,Zm,Zu] at *
   refine .inl ⟨by trivial,(l,IntKind.i64.wrap (k+1),ds2,ds2,h,j,pitch,w,h2,j2,w2,i2,out,m,ZfH s l xx yy n p z,n,yy,xx,s), ?_, ?_, ?_, ?_⟩
   ·rfl
   ·simp only[U19,J6,hw];exact ⟨⟨by omega,by omega,by trivial,a4,a5⟩,b1,b2,b3,b4⟩
   ·simp only[hw];omega
   ·intro e s' hh;refine ⟨hh.1,hh.2.trans ?_⟩;unfold U19 Zdg;(try dsimp only);rw[hw,e1,e2];rfl
  ·exact .inr ⟨by simp,_,rfl,by trivial,by unfold U19 Zdg;(try dsimp only);rw[List.drop_eq_nil_of_le (by omega)];rfl⟩
set_option maxHeartbeats 4000000 in
def ZqE(s:S3):=S3.mk (SysM.mk (Zc Surf.dec (List.map Surf.enc s.a.surfs)) s.a.op) (SysM.mk (Zc Surf.dec (List.map Surf.enc s.b.surfs)) s.b.op) (SysM.mk (Zc Surf.dec (List.map Surf.enc s.c.surfs)) s.c.op)
def Znj(h:Int)(j:Int)(pitch:Int):=times (point pitch) (IntKind.i64.wrap (IntKind.i64.wrap (IntKind.i64.wrap ((2:Int)*j)+(1:Int)) - h))
def Zi4(i:Int)(pitch:Int)(w:Int):=times (point pitch) (IntKind.i64.wrap (IntKind.i64.wrap (IntKind.i64.wrap ((2:Int)*i)+(1:Int)) - w))
def q28_11:=Pixel.mk (A3.mk (0:Int) (0:Int) (0:Int)) (A3.mk (0:Int) (0:Int) (0:Int)) (0:Int)
def ZeR(ds:List Cx):=Zc Cx.dec (List.map Cx.enc ds)
def Zi5(l:List Shape):=Zc Shape.dec (List.map Shape.enc l)
def Zi6(out:List Pixel):=Zc Pixel.dec (List.map Pixel.enc out)
set_option maxHeartbeats 4000000 in
theorem Zkp:Ye Tryz.prog (Zn Tryz.f12 1) Zdi:=by
 refine lsG Zk.Γ (Zw Zk Zf5 ZjX Z3 Z7 (LS:=[(16,ZaE)]) (ZM (l:=[Zn Tryz.f12 2,Zn Tryz.f12 3]) (by kernel_rfl) (Zz (i:=16) (by kernel_rfl) rfl Zfj (X8 (i:=19) (by kernel_rfl) rfl (Zr)))) (n:=2000) (U13 Zl2) (U13 J7) (fun x e s=>(e= .exit 2∧s=U13 Zdh x)) (fun x=>(x.2.2.2.2.2.2.2.1 - x.2.1).toNat) Zl3 Zt6 Zt7 (fun x hx=>?_)) ZDj (fun _=>rfl) (fun _ h=>h) (fun _ _ _ _ h f=>fE h f)
 ·obtain ⟨l,i,out,ds,h,j,pitch,w,h2,j2,w2,n,s⟩:=x
  simp only[U13,J7] at hx
  refine sxT (fun Q=>(bif decide (i < w2) then ((List.map Shape.enc l=List.map Shape.enc (Zi5 l))∧((List.map Cx.enc ds=List.map Cx.enc (ZeR ds))∧((List.map Cx.enc ds=List.map Cx.enc (ZeR ds))∧((List.map Pixel.enc out=List.map Pixel.enc (Zi6 out))∧(([vI 0,vI 0,vI 0,vI 0,vI 0,vI 0,vI 0]=q28_11.enc)∧(((eIv (Znj h j pitch))=(Znj h j pitch).enc)∧(((eIv (Zi4 i pitch w))=(Zi4 i pitch w).enc)∧((s.enc=(ZqE s).enc)∧((J6 (Zi5 l) (0:Int) (ZeR ds) (ZeR ds) h j pitch w h2 j2 w2 i (Zi6 out) (↑(List.map Cx.enc ds).length) q28_11 n (Znj h j pitch) (Zi4 i pitch w) (ZqE s))∧(((0:Nat) < (1:Nat)∧((List.map Pixel.enc (Zi6 out)).length+(1:Nat))* (56:Nat)≤(140737488355328:Nat)∧Lens (7:Nat) (List.map Pixel.enc (Zi6 out)++[(Zb0 (Zfu (ZqE s) (Zi5 l) (Zi4 i pitch w) (Znj h j pitch) n (List.drop (0:Nat) (ZeR ds)) q28_11))]))∧Q (Ex.normal) (some ⟨114,[(12,AV.ptr 12 0),(1,AV.p (PV.lst (List.map Shape.enc (Zi5 l)))),(7,AV.ptr 7 0),(67,AV.p (vI (IntKind.i64.wrap (i+(1:Int))))),(18,AV.p (PV.lst (List.map Pixel.enc (Zi6 out)++[(Zb0 (Zfu (ZqE s) (Zi5 l) (Zi4 i pitch w) (Znj h j pitch) n (List.drop (0:Nat) (ZeR ds)) q28_11))]))),(6,AV.p (PV.lst (List.map Cx.enc (ZeR ds)))),(3,pI h),(19,pI j),(4,pI pitch),(2,pI w),(62,pI h2),(63,pI j2),(66,pI w2)],[(12,[vI n]),(7,[PV.lst (List.map Surf.enc (Zc Surf.dec (List.map Surf.enc s.a.surfs))),vI s.a.op.lo,vI s.a.op.hi,vB s.a.op.no,PV.lst (List.map Surf.enc (Zc Surf.dec (List.map Surf.enc s.b.surfs))),vI s.b.op.lo,vI s.b.op.hi,vB s.b.op.no,PV.lst (List.map Surf.enc (Zc Surf.dec (List.map Surf.enc s.c.surfs))),vI s.c.op.lo,vI s.c.op.hi,vB s.c.op.no])],[nat_lit 7],[(Loc.t (nat_lit 18),nat_lit 44)],[]⟩))))))))))) else Q (Ex.exit (2:Nat)) (some ⟨114,[(12,AV.ptr 12 0),(1,AV.p (PV.lst (List.map Shape.enc l))),(7,AV.ptr 7 0),(18,AV.p (PV.lst (List.map Pixel.enc out))),(6,AV.p (PV.lst (List.map Cx.enc ds))),(3,pI h),(4,pI pitch),(2,pI w),(62,pI h2),(63,pI j2)],[(12,[vI n]),(7,[PV.lst (List.map Surf.enc s.a.surfs),vI s.a.op.lo,vI s.a.op.hi,vB s.a.op.no,PV.lst (List.map Surf.enc s.b.surfs),vI s.b.op.lo,vI s.b.op.hi,vB s.b.op.no,PV.lst (List.map Surf.enc s.c.surfs),vI s.c.op.lo,vI s.c.op.hi,vB s.c.op.no])],[nat_lit 7],[(Loc.t (nat_lit 18),nat_lit 44)],[]⟩))) (fun _=>by kernel_rfl) ?_
  delta ZqE Znj Zi4 q28_11 ZeR Zi5 Zi6 eIv Zb0 vI vB pI
  refine Zb (fun h0=>⟨?r8,⟨?r7,⟨?r6,⟨?r5,⟨?r4,⟨?r3,⟨?r2,⟨?r1,⟨?_,⟨?r0, ?_⟩⟩⟩⟩⟩⟩⟩⟩⟩⟩) (fun h0=>?_)
  case r0|r1|r2|r3|r4|r5|r6|r7|r8=>first | rfl | omega | (rw[Zm];done) | (rw[dCx];done) | (rw[ZT];done) | (simp only[SysM.enc,S3.enc,Iv.enc,Pixel.enc,Zu,ZT,Zm,dCx];first | done | rfl | omega) | (exact (by rw[Jk]:List.map SysM.enc [s.a,s.b,s.c]=List.map SysM.enc (Zc SysM.dec (List.map SysM.enc [s.a,s.b,s.c])))) | (rw[Jk [s.a,s.b,s.c]];exact (by decide:3≤140737488355328)) | (obtain ⟨⟨a1,a2,a3,a4,a5⟩,_⟩:=hx;simp only[Qc_] at h0;subst a3;exact Z8 (fun _=>rfl) (by omega) (by omega)) | (obtain ⟨ha,b1,b2,b3,b4⟩:=hx;simp only[Zu,Zm,dCx,ZT,Qk_] at *;first | done | rfl | exact ⟨b2,b1⟩ | exact ⟨b3,b1⟩ | exact ⟨b4,b1⟩ | omega | (exact ⟨by decide,by omega,Xk (Xb (e:=Pixel.enc) (fun _=>rfl) _) rfl⟩))
  all_goals obtain ⟨⟨a1,a2,a3,a4,a5,a6,a7,a8,a9⟩,b1,b2,b3,b4⟩:=hx
  all_goals subst a3
  all_goals (try simp only[Qc_,Qe_] at h0)
  all_goals simp only[dCx,Zm,Zu,ZT,Qk_,QO_,QG_] at *
  ·simp only[J6,Qk_];exact ⟨⟨by omega,by omega,by trivial,by trivial,a8⟩,b1,b2,b3,b4⟩
  ·have hw:IntKind.i64.wrap (i+1)=i+1:=Zg (by constructor<;>omega)
   refine .inl ⟨by trivial,(l,IntKind.i64.wrap (i+1),out++[Zap s l w h pitch n ds j i],ds,h,j,pitch,w,h2,j2,w,n,s), ?_, ?_, ?_, ?_⟩
   ·simp only[U13,Zl2,QR_,QE_,QN_];rfl
   ·simp only[U13,J7,hw,Qx_,Qs_,Q1_];exact ⟨⟨by omega,by omega,by trivial,a4,a5,a6,a7,a8,by omega⟩,b1,b2,b3,b4⟩
   ·simp only[hw];omega
   ·intro e s' hh;refine ⟨hh.1,hh.2.trans ?_⟩;unfold U13 Zdh;(try dsimp only);rw[hw,show (w - i).toNat=(w - (i+1)).toNat+1 by omega];simp only[Zbq,List.append_assoc,List.cons_append,List.nil_append]
  ·exact .inr ⟨by simp,_,rfl,by trivial,by unfold U13 Zdh;(try dsimp only);rw[show (w - i).toNat=0 by omega];simp only[Zbq,List.append_nil];rfl⟩
set_option maxHeartbeats 4000000 in
def ZqF(s:S3):=S3.mk (SysM.mk (Zc Surf.dec (List.map Surf.enc s.a.surfs)) s.a.op) (SysM.mk (Zc Surf.dec (List.map Surf.enc s.b.surfs)) s.b.op) (SysM.mk (Zc Surf.dec (List.map Surf.enc s.c.surfs)) s.c.op)
def Zmb(l:List Shape):=Zc Shape.dec (List.map Shape.enc l)
def Zmc(ds:List Cx):=Zc Cx.dec (List.map Cx.enc ds)
set_option maxHeartbeats 4000000 in
theorem Zya:Ye Tryz.prog (Zn Tryz.f12 0) ZhM:=by
 refine lsG Zk.Γ (Zw Zk Zf5 ZjX Z3 Z7 (LS:=[(11,Zdi),(16,ZaE)]) (ZM (l:=[Zn Tryz.f12 1,Zn Tryz.f12 2,Zn Tryz.f12 3]) (by kernel_rfl) (Zz (i:=11) (by kernel_rfl) rfl Zkp (Zz (i:=16) (by kernel_rfl) rfl Zfj (X8 (i:=19) (by kernel_rfl) rfl (Zr))))) (n:=2000) (U10 Zz7) (U10 Zal) (fun x e s=>(e= .exit 0∧s=U10 Zej x)) (fun x=>(x.2.2.2.1 - x.2.2.2.2.2.2.1).toNat) Zn1 Zw1 Zw2 (fun x hx=>?_)) ZAH (fun _=>rfl) (fun _ h=>h) (fun _ _ _ _ h f=>fE h f)
 ·obtain ⟨l,out,ds,h,pitch,w,j,h2,n,s⟩:=x
  simp only[U10,Zal] at hx
  refine sxT (fun Q=>(bif decide (j < h2) then ((List.map Shape.enc l=List.map Shape.enc (Zmb l))∧((List.map Pixel.enc out=List.map Pixel.enc (Zc Pixel.dec (List.map Pixel.enc out)))∧((List.map Cx.enc ds=List.map Cx.enc (Zmc ds))∧((s.enc=(ZqF s).enc)∧((J7 (Zmb l) (0:Int) (Zc Pixel.dec (List.map Pixel.enc out)) (Zmc ds) h j pitch w h2 j w n (ZqF s))∧Q (Ex.normal) (some ⟨114,[(12,AV.ptr 12 0),(1,AV.p (PV.lst (List.map Shape.enc (Zmb l)))),(7,AV.ptr 7 0),(18,AV.p (PV.lst (List.map Pixel.enc (Zc Pixel.dec (List.map Pixel.enc out)++Zbq (Zap (ZqF s) (Zmb l) w h pitch n (Zmc ds) j) (w - (0:Int)).toNat (0:Int))))),(6,AV.p (PV.lst (List.map Cx.enc (Zmc ds)))),(3,pI h),(4,pI pitch),(2,pI w),(63,AV.p (vI (IntKind.i64.wrap (j+(1:Int))))),(62,pI h2)],[(12,[vI n]),(7,[PV.lst (List.map Surf.enc (Zc Surf.dec (List.map Surf.enc s.a.surfs))),vI s.a.op.lo,vI s.a.op.hi,vB s.a.op.no,PV.lst (List.map Surf.enc (Zc Surf.dec (List.map Surf.enc s.b.surfs))),vI s.b.op.lo,vI s.b.op.hi,vB s.b.op.no,PV.lst (List.map Surf.enc (Zc Surf.dec (List.map Surf.enc s.c.surfs))),vI s.c.op.lo,vI s.c.op.hi,vB s.c.op.no])],[nat_lit 7],[(Loc.t (nat_lit 18),nat_lit 44)],[]⟩)))))) else Q (Ex.exit (0:Nat)) (some ⟨114,[(18,AV.p (PV.lst (List.map Pixel.enc out)))],[],[nat_lit 7],[],[]⟩))) (fun _=>by kernel_rfl) ?_
  delta ZqF Zmb Zmc vI vB pI
  refine Zb (fun h0=>⟨?r3,⟨?r2,⟨?r1,⟨?r0,⟨?_, ?_⟩⟩⟩⟩⟩) (fun h0=>?_)
  case r0|r1|r2|r3=>first | rfl | omega | (rw[Zm];done) | (rw[dCx];done) | (rw[ZT];done) | (simp only[SysM.enc,S3.enc,Iv.enc,Pixel.enc,Zu,ZT,Zm,dCx];done)
  all_goals obtain ⟨⟨a1,a2,a3,a4,a5,a6,a7,a8⟩,b1,b2,b3,b4⟩:=hx
  all_goals subst a3
  all_goals (try simp only[Qc_,Qe_] at h0)
  all_goals simp only[dCx,Zm,Zu,ZT,Qk_,QO_,QG_] at *
  ·simp only[J7];exact ⟨⟨by omega,by omega,by trivial,by omega,by omega,by omega,a6,a7,by omega⟩,b1,b2,b3,b4⟩
  ·have hw:IntKind.i64.wrap (j+1)=j+1:=Zg (by constructor<;>omega)
   refine .inl ⟨by trivial,(l,out++Zbq (Zap s l w h pitch n ds j) w.toNat 0,ds,h,pitch,w,IntKind.i64.wrap (j+1),h,n,s), ?_, ?_, ?_, ?_⟩
   ·simp only[Int.sub_zero];rfl
   ·simp only[U10,Zal,hw,Qx_,Zju];exact ⟨⟨by omega,by omega,by trivial,a4,a5,a6,a7,by omega⟩,b1,b2,b3,b4⟩
   ·simp only[hw];omega
   ·intro e s' hh;refine ⟨hh.1,hh.2.trans ?_⟩;unfold U10 Zej;(try dsimp only);rw[hw,show (h - j).toNat=(h - (j+1)).toNat+1 by omega];simp only[JM,List.append_assoc]
  ·exact .inr ⟨by simp,_,rfl,by trivial,by unfold U10 Zej;(try dsimp only);rw[show (h - j).toNat=0 by omega];(simp only[JM,List.append_nil])<;>rfl⟩
theorem ZzL:ZF Tryz.prog [(16,ZaE),(11,Zdi),(8,ZhM)] Tryz.f12:=ZG (l:=[Zn Tryz.f12 0,Zn Tryz.f12 1,Zn Tryz.f12 2,Zn Tryz.f12 3]) (by kernel_rfl) (Zz (i:=8) (by kernel_rfl) rfl Zya (Zz (i:=11) (by kernel_rfl) rfl Zkp (Zz (i:=16) (by kernel_rfl) rfl Zfj (X8 (i:=19) (by kernel_rfl) rfl (Zr)))))
def ZqG(s:S3):=[[PV.lst (List.map Surf.enc s.a.surfs),vI s.a.op.lo,vI s.a.op.hi,vB s.a.op.no],[PV.lst (List.map Surf.enc s.b.surfs),vI s.b.op.lo,vI s.b.op.hi,vB s.b.op.no],[PV.lst (List.map Surf.enc s.c.surfs),vI s.c.op.lo,vI s.c.op.hi,vB s.c.op.no]]
def ZqH(s:S3):=S3.mk (SysM.mk (Zc Surf.dec (List.map Surf.enc s.a.surfs)) s.a.op) (SysM.mk (Zc Surf.dec (List.map Surf.enc s.b.surfs)) s.b.op) (SysM.mk (Zc Surf.dec (List.map Surf.enc s.c.surfs)) s.c.op)
def ZgF(l:List Shape):=Zc Shape.dec (List.map Shape.enc l)
def ZgG(ds:List Cx):=Zc Cx.dec (List.map Cx.enc ds)
def ZeS:=PV.tup [.nil,vI 1]
set_option maxHeartbeats 4000000 in
theorem Z9d:Zh Tryz.prog 12 e12:=Zi<|Zf fun s=>Zf fun l=>Zf fun w=>Zf fun h=>Zf fun pitch=>Zf fun n=>Zf fun ds=>EZ2 fun hp0 hp1=>by
 refine Zcj Zk Zf5 ZjX Z3 Z7 (n:=2000) (LS:=[(16,ZaE),(11,Zdi),(8,ZhM)]) (fn:=Tryz.f12) rfl ZzL ?_
 refine sxT (fun Q=>((List.map Cx.enc ds=List.map Cx.enc (ZgG ds))∧(([vI n]=(I.mk n).enc)∧(((ZgG ds).length≤(140737488355328:Nat))∧(((ZqG s)=List.map SysM.enc (Zc SysM.dec (ZqG s)))∧(((3:Nat)≤(140737488355328:Nat))∧((List.map Shape.enc l=List.map Shape.enc (ZgF l))∧(((ZgF l).length≤(140737488355328:Nat))∧(bif !Y6 (ZgF l) then Q ZeS else (bif !YU w h then Q ZeS else (bif !ZX pitch (1:Int) (1048576:Int) then Q ZeS else (bif !ZX n (1:Int) (16:Int) then Q ZeS else (bif decide (↑(List.map Cx.enc ds).length > (16:Int)) then Q ZeS else (bif (ZgG ds).any fun z=> !YB z (I.dec [vI n]).n then Q ZeS else (bif (Zc SysM.dec (ZqG s)).any WO then Q ZeS else ((List.map Shape.enc l=List.map Shape.enc (ZgF l))∧(([]=List.map Pixel.enc (Zc Pixel.dec []))∧((List.map Cx.enc ds=List.map Cx.enc (ZgG ds))∧(([PV.lst (List.map Surf.enc s.a.surfs),vI s.a.op.lo,vI s.a.op.hi,vB s.a.op.no,PV.lst (List.map Surf.enc s.b.surfs),vI s.b.op.lo,vI s.b.op.hi,vB s.b.op.no,PV.lst (List.map Surf.enc s.c.surfs),vI s.c.op.lo,vI s.c.op.hi,vB s.c.op.no]=(ZqH s).enc)∧((Zal (ZgF l) (Zc Pixel.dec []) (ZgG ds) h pitch w (0:Int) h n (ZqH s))∧Q (PV.tup [PV.lst (List.map Pixel.enc (Zc Pixel.dec []++JM (Zap (ZqH s) (ZgF l) w h pitch n (ZgG ds)) w (h - (0:Int)).toNat (0:Int))),vI 0]))))))))))))))))))))) (fun _=>by kernel_rfl) ?_
 delta Qn ZqG ZqH ZgF ZgG ZeS vI vB
 have e3:Zc SysM.dec [[PV.lst (List.map Surf.enc s.a.surfs),PV.v (Value.int IntKind.i64 s.a.op.lo),PV.v (Value.int IntKind.i64 s.a.op.hi),PV.v (Value.bool s.a.op.no)],[PV.lst (List.map Surf.enc s.b.surfs),PV.v (Value.int IntKind.i64 s.b.op.lo),PV.v (Value.int IntKind.i64 s.b.op.hi),PV.v (Value.bool s.b.op.no)],[PV.lst (List.map Surf.enc s.c.surfs),PV.v (Value.int IntKind.i64 s.c.op.lo),PV.v (Value.int IntKind.i64 s.c.op.hi),PV.v (Value.bool s.c.op.no)]]=[s.a,s.b,s.c]:=Jk [s.a,s.b,s.c]
 refine ⟨?r10,⟨?r9,⟨?r8,⟨?r7,⟨?r6,⟨?r5,⟨?r4,Zb (fun h0=>?_) (fun h0=>Zb (fun h1=>?_) (fun h1=>Zb (fun h2=>?_) (fun h2=>Zb (fun h3=>?_) (fun h3=>Zb (fun h4=>?_) (fun h4=>Zb (fun h5=>?_) (fun h5=>Zb (fun h6=>?_) (fun h6=>⟨?r3,⟨?r2,⟨?r1,⟨?r0,⟨?_, ?_⟩⟩⟩⟩⟩)))))))⟩⟩⟩⟩⟩⟩⟩
 case r0|r1|r2|r3|r4|r5|r6|r7|r8|r9|r10=>first | rfl | omega | (rw[Zm];done) | (rw[dCx];done) | (rw[ZT];done) | (simp only[SysM.enc,S3.enc,Iv.enc,Pixel.enc,Zu,ZT,Zm,dCx];first | done | rfl | omega) | (exact (by rw[Jk]:List.map SysM.enc [s.a,s.b,s.c]=List.map SysM.enc (Zc SysM.dec (List.map SysM.enc [s.a,s.b,s.c]))))
 all_goals simp only[dCx,Zm,Zu,ZT,e3,Qk_,QO_,QG_,Qi_,Qf_,show Zc Pixel.dec []=[] from rfl,QJ_,Int.sub_zero,show (I.dec [PV.v (Value.int .i64 n)]).n=n from rfl] at *
 all_goals first | (simp only[Z0,Jo, *,Qp_,Ql_,Qr_,Qn_,Qu_,Qt_,Q4_,Qw_,Q5_,Q3_,Qb_,Qd_];first | done | rfl) | (simp only[Zal,YU,ZX,Qh_,Qc_,Qe_,Q1_] at *;exact ⟨⟨by omega,by omega,by trivial,by omega,by omega,by omega,by omega,by omega⟩,hp1.1,hp0.1,hp0.2.1,hp0.2.2⟩)
def Z3V:=Yy [(44,e44),(15,e15),(46,e46),(45,e45),(47,e47)]
set_option maxHeartbeats 4000000 in
def Zh4(i:Int)(ds:List Cx):=ofC (Cx.mk (Zr4 (((List.map Cx.enc ds).getD i.toNat []).headD PV.nil)) (Zr5 (((List.map Cx.enc ds).getD i.toNat []).headD PV.nil)))
def Znk:Option St:=some ⟨218,[(14,AV.p (.nil)),(15,pI 1)],[],[],[],[]⟩
def Z3W(s:S3):=[(7,[PV.lst (List.map Surf.enc s.a.surfs),vI s.a.op.lo,vI s.a.op.hi,vB s.a.op.no,PV.lst (List.map Surf.enc s.b.surfs),vI s.b.op.lo,vI s.b.op.hi,vB s.b.op.no,PV.lst (List.map Surf.enc s.c.surfs),vI s.c.op.lo,vI s.c.op.hi,vB s.c.op.no])]
theorem Zb7:CSOk Tryz.prog Z3V:=Za ZC5<|Za ZCG<|Za ZbU<|Za ZjL<|Za ZCF<|Ze
set_option maxHeartbeats 4000000 in
theorem ZtI:Ye Tryz.prog (Zn Tryz.f18 0) Zl6:=by
 refine lsG Zk.Γ (Zw Zk Zb7 Z4 Z3 Z7 (LS:=[]) (ZM (l:=[]) (by kernel_rfl) Zr) (n:=2000) (U9 Zl4) (U9 J8) (fun x e s=>((U9 We x=true∧e= .ret∧s=U9 Zdk x)∨(U9 We x=false∧e= .exit 0∧s=U9 Zdj x))) (fun x=>(x.2.2.2.1.length - x.1).toNat) Zl5 Zt8 Zt9 (fun x hx=>?_)) cv9 (fun _=>rfl) (fun _ h=>h) (fun _ _ _ _ h f=>fC h f fE fE)
 ·obtain ⟨i,at1,n,ds,l,h,pitch,w,s⟩:=x
  simp only[U9,J8] at hx
  refine sxT (fun Q=>(bif decide (i < ↑(List.map Cx.enc ds).length) then (((0:Int)≤i∧(List.map Cx.enc ds)[i.toNat]?=some (ZJ [PV.v (Value.complex FloatKind.f64 (0:Nat) (0:Nat))] ((List.map Cx.enc ds).getD i.toNat [])))∧(bif !(Zh4 i ds).snd then Q (Ex.ret) Znk else (bif decide ((Zh4 i ds).fst.x < IntKind.i64.wrap ((0:Int) - n)) then Q (Ex.ret) Znk else (bif decide ((Zh4 i ds).fst.x≥n) then Q (Ex.ret) Znk else (bif decide ((Zh4 i ds).fst.y < IntKind.i64.wrap ((0:Int) - n)) then Q (Ex.ret) Znk else (bif decide ((Zh4 i ds).fst.y≥n) then Q (Ex.ret) Znk else (((0:Nat) < (1:Nat)∧((List.map Pair.enc at1).length+(1:Nat))* (16:Nat)≤(140737488355328:Nat)∧Lens (2:Nat) (List.map Pair.enc at1++[(Zfv (Zh4 i ds).fst)]))∧Q (Ex.normal) (some ⟨218,[(17,AV.p (vI (IntKind.i64.wrap (i+(1:Int))))),(16,AV.p (PV.lst (List.map Pair.enc at1++[(Zfv (Zh4 i ds).fst)]))),(5,pI n),(6,AV.p (PV.lst (List.map Cx.enc ds))),(1,AV.p (PV.lst (List.map Shape.enc l))),(7,AV.ptr 7 0),(3,pI h),(4,pI pitch),(2,pI w)],(Z3W s),[],[(Loc.t (nat_lit 16),nat_lit 50)],[]⟩)))))))) else Q (Ex.exit (0:Nat)) (some ⟨218,[(5,pI n),(16,AV.p (PV.lst (List.map Pair.enc at1))),(1,AV.p (PV.lst (List.map Shape.enc l))),(7,AV.ptr 7 0),(3,pI h),(4,pI pitch),(2,pI w)],(Z3W s),[],[],[]⟩))) (fun _=>by kernel_rfl) ?_
  delta Zh4 Znk Z3W Zfv vI vB pI
  refine Zb (fun h0=>⟨?r1,Zb (fun h1=>?_) (fun h1=>Zb (fun h2=>?_) (fun h2=>Zb (fun h3=>?_) (fun h3=>Zb (fun h4=>?_) (fun h4=>Zb (fun h5=>?_) (fun h5=>⟨?r0, ?_⟩)))))⟩) (fun h0=>?_)
  case r0|r1=>first | rfl | omega | (rw[Zm];done) | (rw[dCx];done) | (rw[ZT];done) | (rw[Zao];done) | (simp only[SysM.enc,S3.enc,Iv.enc,Pixel.enc,Zu,ZT,Zm,dCx,Zao];skip) | (obtain ⟨⟨a1,a2,a3⟩,b1,b2,b3,b4⟩:=hx;simp only[Qc_,Qk_] at h0;skip) | (obtain ⟨a1,a2,a3,a4,a5⟩:=hx;simp only[Qc_,Qk_] at h0;first | (exact Z8 (fun _=>rfl) (by omega) (by omega)) | (exact ⟨by decide,by simp only[Qk_];omega,Xk (Xb (e:=Pair.enc) (fun _=>rfl) _) rfl⟩))
  all_goals obtain ⟨a1,a2,a3,a4,a5⟩:=hx
  all_goals (try simp only[Qk_,Qc_,Qe_] at h0)
  all_goals first | (have hk:i < ds.length:=h0;obtain ⟨z,t,e1,e2,e3⟩:=Yf (l:=ds) a1 (by omega);simp only[Yh e3] at *;have eC:ofC ⟨Zr4 ((Cx.enc z).headD PV.nil),Zr5 ((Cx.enc z).headD PV.nil)⟩=(bif XC z then (Za4 z,true) else (⟨0,0⟩,false)):=rfl;simp only[eC] at *;have af:=Zzl (z:=z) a4;have hn:1≤n∧n≤16:=(by simp only[ZX,Bool.and_eq_true,decide_eq_true_eq] at a4;exact a4)) | (exact .inr ⟨by simp,_,rfl,.inr ⟨by unfold U9 We;(try dsimp only);rw[List.drop_eq_nil_of_le (by omega)];rfl,by trivial,by unfold U9 Zdj;(try dsimp only);rw[List.drop_eq_nil_of_le (by omega),List.map_nil,List.append_nil];rfl⟩⟩)
  all_goals (cases hw:XC z)
  all_goals simp only[hw,Qb_,Qd_,Za4] at *
  all_goals first
   | (exact absurd h1 (by decide))
   | (have hA:YB z n=false:=(by first | exact af.trans (Ql_ _) | (rw[af];simp only[h2,Qu_,Qt_,Qp_,Qr_,Ql_,Qn_];done) | (rw[af];simp only[h3,Qu_,Qt_,Qp_,Qr_,Ql_,Qn_];done) | (rw[af];simp only[h4,Qu_,Qt_,Qp_,Qr_,Ql_,Qn_];done) | (rw[af];simp only[h5,Qu_,Qt_,Qp_,Qr_,Ql_,Qn_];done))
      refine .inr ⟨by simp,_,rfl,.inl ⟨?_,by trivial,by unfold U9 Zdk;rfl⟩⟩
      unfold U9 We;(try dsimp only);rw[e1,List.any_cons,hA];rfl)
   | (have hA:YB z n=true:=(by rw[af];simp only[h2,h3,h4,h5,Qu_,Qt_,Qp_,Qr_,Ql_,Qn_])
      have hw':IntKind.i64.wrap (i+1)=i+1:=Zg (by constructor<;>omega)
      refine .inl ⟨by trivial,(IntKind.i64.wrap (i+1),at1++[Za4 z],n,ds,l,h,pitch,w,s), ?_, ?_, ?_, ?_⟩
      ·simp only[U9,Zl4,QR_,QE_,QN_];rfl
      ·simp only[U9,J8,hw',Qx_,Qs_,Q1_];exact ⟨by omega,by omega,a3,a4,by omega⟩
      ·simp only[hw'];omega
      ·simp only[U9,We,Zdk,Zdj,hw',e1,e2,QU_,hA,Qu_,Qw_,QE_,QB_,QS_,QJ_];exact fun e s h=>h)
set_option maxHeartbeats 4000000 in
def Wo:=(0:Int)≤(2:Int)∧(2:Int) < (3:Int)
def ZeT(k:Int)(at1:List Pair):=(List.map Pair.enc at1).getD k.toNat []
def ZgH(k:Int)(at1:List Pair):=(0:Int)≤k∧(List.map Pair.enc at1)[k.toNat]?=some (ZJ [vI 0,vI 0] (ZeT k at1))
def Z6D(s:S3):=[PV.lst (List.map Surf.enc s.c.surfs),vI s.c.op.lo,vI s.c.op.hi,vB s.c.op.no]
def ZqI(s:S3):=Zc Surf.dec (List.map Surf.enc s.c.surfs)
def ZqJ(s:S3):=(Z6D s)=(SysM.mk (ZqI s) s.c.op).enc
def Zd0(l:List Shape):=Zc Shape.dec (List.map Shape.enc l)
def ZgI(l:List Shape):=List.map Shape.enc l=List.map Shape.enc (Zd0 l)
def Z6E(k:Int)(at1:List Pair):=[vI (intOf ((ZeT k at1).headD PV.nil)),vI (intOf ((ZeT k at1).tail.headD PV.nil))]
def ZgJ(k:Int)(at1:List Pair):=(Z6E k at1)=(Pair.dec (ZeT k at1)).enc
def ZqK(l:List Shape)(s:S3):=(ZqI s).length≤(1000000:Nat)∧(Zd0 l).length≤(1000000:Nat)
def Zcb(n:Int)(k:Int)(at1:List Pair)(l:List Shape)(yy:Iv)(xx:Iv)(s:S3):=Yc (SysM.mk (ZqI s) s.c.op) (Zd0 l) xx yy (Pair.dec (ZeT k at1)) n (2:Nat)
def ZjY(n:Int)(k:Int)(at1:List Pair)(l:List Shape)(h:Int)(j:Int)(pitch:Int)(w:Int)(i:Int)(out:List Pixel):=[(23,AV.ptr 23 0),(5,pI n),(26,AV.p (vI (IntKind.i64.wrap (k+(1:Int))))),(16,AV.p (PV.lst (List.map Pair.enc at1))),(25,AV.ptr 25 0),(24,AV.ptr 24 0),(1,AV.p (PV.lst (List.map Shape.enc l))),(7,AV.ptr 7 0),(3,pI h),(21,pI j),(4,pI pitch),(2,pI w),(22,pI i),(20,AV.p (PV.lst (List.map Pixel.enc out)))]
def Zi7(s:S3):=List.map Surf.enc s.a.surfs
def Zer(n:Int)(k:Int)(at1:List Pair)(l:List Shape)(yy:Iv)(xx:Iv)(s:S3):=Yc (SysM.mk (Zc Surf.dec (Zi7 s)) s.a.op) (Zd0 l) xx yy (Pair.dec (ZeT k at1)) n (0:Nat)
def Zi8(s:S3):=Zc Surf.dec (List.map Surf.enc s.b.surfs)
def Zd1(n:Int)(k:Int)(at1:List Pair)(l:List Shape)(yy:Iv)(xx:Iv)(s:S3):=Yc (SysM.mk (Zi8 s) s.b.op) (Zd0 l) xx yy (Pair.dec (ZeT k at1)) n (1:Nat)
def Znl(s:S3):=[PV.lst (Zi7 s),vI s.a.op.lo,vI s.a.op.hi,vB s.a.op.no,PV.lst (List.map Surf.enc s.b.surfs),vI s.b.op.lo,vI s.b.op.hi,vB s.b.op.no,PV.lst (List.map Surf.enc s.c.surfs),vI s.c.op.lo,vI s.c.op.hi,vB s.c.op.no]
def Zyb(n:Int)(k:Int)(at1:List Pair)(l:List Shape)(p:Pixel)(yy:Iv)(xx:Iv)(s:S3):=[(23,[vI (IntKind.i64.wrap (p.lo.a+(Zer n k at1 l yy xx s).fst)),vI (IntKind.i64.wrap (p.lo.b+(Zd1 n k at1 l yy xx s).fst)),vI (IntKind.i64.wrap (p.lo.c+(Zcb n k at1 l yy xx s).fst)),vI (IntKind.i64.wrap (p.hi.a+(Zer n k at1 l yy xx s).snd.fst)),vI (IntKind.i64.wrap (p.hi.b+(Zd1 n k at1 l yy xx s).snd.fst)),vI (IntKind.i64.wrap (p.hi.c+(Zcb n k at1 l yy xx s).snd.fst)),vI (IntKind.i64.wrap (IntKind.i64.wrap (p.lost+(1:Int))+(1:Int)))]),(25,(eIv yy)),(24,(eIv xx)),(7,(Znl s))]
def ZeU:=[(Loc.t (nat_lit 20),nat_lit 98)]
def Zyc(n:Int)(k:Int)(at1:List Pair)(l:List Shape)(p:Pixel)(yy:Iv)(xx:Iv)(s:S3):=[(23,[vI (IntKind.i64.wrap (p.lo.a+(Zer n k at1 l yy xx s).fst)),vI (IntKind.i64.wrap (p.lo.b+(Zd1 n k at1 l yy xx s).fst)),vI (IntKind.i64.wrap (p.lo.c+(Zcb n k at1 l yy xx s).fst)),vI (IntKind.i64.wrap (p.hi.a+(Zer n k at1 l yy xx s).snd.fst)),vI (IntKind.i64.wrap (p.hi.b+(Zd1 n k at1 l yy xx s).snd.fst)),vI (IntKind.i64.wrap (p.hi.c+(Zcb n k at1 l yy xx s).snd.fst)),vI (IntKind.i64.wrap (p.lost+(1:Int)))]),(25,(eIv yy)),(24,(eIv xx)),(7,(Znl s))]
def Z3X(n:Int)(k:Int)(at1:List Pair)(l:List Shape)(h:Int)(j:Int)(pitch:Int)(w:Int)(i:Int)(out:List Pixel)(p:Pixel)(yy:Iv)(xx:Iv)(s:S3)(Q:Ex→Option St→Prop):Prop:=Wo∧((ZgH k at1)∧((ZqJ s)∧((ZgI l)∧((ZgJ k at1)∧((ZqK l s)∧(Wo∧(Wo∧(Wo∧(Wo∧(bif (Zcb n k at1 l yy xx s).snd.snd then Q (Ex.normal) (some ⟨218,(ZjY n k at1 l h j pitch w i out),(Zyb n k at1 l p yy xx s),[],ZeU,[]⟩) else Q (Ex.normal) (some ⟨218,(ZjY n k at1 l h j pitch w i out),(Zyc n k at1 l p yy xx s),[],ZeU,[]⟩)))))))))))
def ZaL:=(0:Int)≤(1:Int)∧(1:Int) < (3:Int)
def Zi9:=(0:Int)≤(0:Int)∧(0:Int) < (3:Int)
def Zyd(s:S3):=[PV.lst (List.map Surf.enc s.b.surfs),vI s.b.op.lo,vI s.b.op.hi,vB s.b.op.no]
set_option maxHeartbeats 4000000 in
theorem ZdW:Ye Tryz.prog (Zn Tryz.f18 3) ZbR:=by
 refine lsG Zk.Γ (Zw Zk Zb7 Z4 Z3 Z7 (LS:=[]) (ZM (l:=[Zn Tryz.f18 4]) (by kernel_rfl) (X8 (i:=28) (by kernel_rfl) rfl (Zr))) (n:=2000) (U14 Zkh) (U14 Jc) (fun x e s=>(e= .exit 6∧s=U14 ZbQ x)) (fun x=>(x.2.2.1.length - x.2.1).toNat) Zki ZrU ZrV (fun x hx=>?_)) ZDk (fun _=>rfl) (fun _ h=>h) (fun _ _ _ _ h f=>fE h f)
 ·obtain ⟨n,k,at1,l,h,j,pitch,w,i,out,p,yy,xx,s⟩:=x
  simp only[U14,Jc] at hx
  refine sxT (fun Q=>(bif decide (k < ↑(List.map Pair.enc at1).length) then (Zi9∧((ZgH k at1)∧(([PV.lst (Zi7 s),vI s.a.op.lo,vI s.a.op.hi,vB s.a.op.no]=(SysM.mk (Zc Surf.dec (Zi7 s)) s.a.op).enc)∧((ZgI l)∧((ZgJ k at1)∧(((Zc Surf.dec (Zi7 s)).length≤(1000000:Nat)∧(Zd0 l).length≤(1000000:Nat))∧(Zi9∧(Zi9∧(Zi9∧(Zi9∧(bif (Zer n k at1 l yy xx s).snd.snd then (ZaL∧((ZgH k at1)∧(((Zyd s)=(SysM.mk (Zi8 s) s.b.op).enc)∧((ZgI l)∧((ZgJ k at1)∧(((Zi8 s).length≤(1000000:Nat)∧(Zd0 l).length≤(1000000:Nat))∧(ZaL∧(ZaL∧(ZaL∧(ZaL∧(bif (Zd1 n k at1 l yy xx s).snd.snd then (Wo∧((ZgH k at1)∧((ZqJ s)∧((ZgI l)∧((ZgJ k at1)∧((ZqK l s)∧(Wo∧(Wo∧(Wo∧(Wo∧(bif (Zcb n k at1 l yy xx s).snd.snd then Q (Ex.normal) (some ⟨218,(ZjY n k at1 l h j pitch w i out),[(23,[vI (IntKind.i64.wrap (p.lo.a+(Zer n k at1 l yy xx s).fst)),vI (IntKind.i64.wrap (p.lo.b+(Zd1 n k at1 l yy xx s).fst)),vI (IntKind.i64.wrap (p.lo.c+(Zcb n k at1 l yy xx s).fst)),vI (IntKind.i64.wrap (p.hi.a+(Zer n k at1 l yy xx s).snd.fst)),vI (IntKind.i64.wrap (p.hi.b+(Zd1 n k at1 l yy xx s).snd.fst)),vI (IntKind.i64.wrap (p.hi.c+(Zcb n k at1 l yy xx s).snd.fst)),vI (IntKind.i64.wrap (IntKind.i64.wrap (IntKind.i64.wrap (p.lost+(1:Int))+(1:Int))+(1:Int)))]),(25,(eIv yy)),(24,(eIv xx)),(7,(Znl s))],[],ZeU,[]⟩) else Q (Ex.normal) (some ⟨218,(ZjY n k at1 l h j pitch w i out),(Zyb n k at1 l p yy xx s),[],ZeU,[]⟩)))))))))))) else (Z3X n k at1 l h j pitch w i out p yy xx s Q)))))))))))) else (ZaL∧((ZgH k at1)∧(((Zyd s)=(SysM.mk (Zi8 s) s.b.op).enc)∧((ZgI l)∧((ZgJ k at1)∧(((Zi8 s).length≤(1000000:Nat)∧(Zd0 l).length≤(1000000:Nat))∧(ZaL∧(ZaL∧(ZaL∧(ZaL∧(bif (Zd1 n k at1 l yy xx s).snd.snd then (Z3X n k at1 l h j pitch w i out p yy xx s Q) else (Wo∧((ZgH k at1)∧((ZqJ s)∧((ZgI l)∧((ZgJ k at1)∧((ZqK l s)∧(Wo∧(Wo∧(Wo∧(Wo∧(bif (Zcb n k at1 l yy xx s).snd.snd then Q (Ex.normal) (some ⟨218,(ZjY n k at1 l h j pitch w i out),(Zyc n k at1 l p yy xx s),[],ZeU,[]⟩) else Q (Ex.normal) (some ⟨218,(ZjY n k at1 l h j pitch w i out),[(23,[vI (IntKind.i64.wrap (p.lo.a+(Zer n k at1 l yy xx s).fst)),vI (IntKind.i64.wrap (p.lo.b+(Zd1 n k at1 l yy xx s).fst)),vI (IntKind.i64.wrap (p.lo.c+(Zcb n k at1 l yy xx s).fst)),vI (IntKind.i64.wrap (p.hi.a+(Zer n k at1 l yy xx s).snd.fst)),vI (IntKind.i64.wrap (p.hi.b+(Zd1 n k at1 l yy xx s).snd.fst)),vI (IntKind.i64.wrap (p.hi.c+(Zcb n k at1 l yy xx s).snd.fst)),vI p.lost]),(25,(eIv yy)),(24,(eIv xx)),(7,(Znl s))],[],ZeU,[]⟩)))))))))))))))))))))))))))))))))) else Q (Ex.exit (6:Nat)) (some ⟨218,[(5,pI n),(16,AV.p (PV.lst (List.map Pair.enc at1))),(1,AV.p (PV.lst (List.map Shape.enc l))),(7,AV.ptr 7 0),(3,pI h),(21,pI j),(4,pI pitch),(2,pI w),(22,pI i),(23,AV.ptr 23 0),(20,AV.p (PV.lst (List.map Pixel.enc out)))],[(7,(Znl s)),(23,(Zb0 p))],[],ZeU,[]⟩))) (fun _=>by kernel_rfl) ?_
  delta Z3X Zcb Zd1 Zer Znl ZjY ZeT Wo Zd0 ZaL ZgH Zyb Zyc Z6E ZgI ZqI Zi9 ZeU ZgJ Zi8 Z6D ZqK Zi7 ZqJ Zyd eIv Zb0 vI vB pI
  refine Zb (fun h0=>⟨?r69,⟨?r68,⟨?r67,⟨?r66,⟨?r65,⟨?r64,⟨?r63,⟨?r62,⟨?r61,⟨?r60,Zb (fun h1=>⟨?r29,⟨?r28,⟨?r27,⟨?r26,⟨?r25,⟨?r24,⟨?r23,⟨?r22,⟨?r21,⟨?r20,Zb (fun h2=>⟨?r9,⟨?r8,⟨?r7,⟨?r6,⟨?r5,⟨?r4,⟨?r3,⟨?r2,⟨?r1,⟨?r0,Zb (fun h3=>?_) (fun h3=>?_)⟩⟩⟩⟩⟩⟩⟩⟩⟩⟩) (fun h2=>⟨?r19,⟨?r18,⟨?r17,⟨?r16,⟨?r15,⟨?r14,⟨?r13,⟨?r12,⟨?r11,⟨?r10,Zb (fun h3=>?_) (fun h3=>?_)⟩⟩⟩⟩⟩⟩⟩⟩⟩⟩)⟩⟩⟩⟩⟩⟩⟩⟩⟩⟩) (fun h1=>⟨?r59,⟨?r58,⟨?r57,⟨?r56,⟨?r55,⟨?r54,⟨?r53,⟨?r52,⟨?r51,⟨?r50,Zb (fun h2=>⟨?r39,⟨?r38,⟨?r37,⟨?r36,⟨?r35,⟨?r34,⟨?r33,⟨?r32,⟨?r31,⟨?r30,Zb (fun h3=>?_) (fun h3=>?_)⟩⟩⟩⟩⟩⟩⟩⟩⟩⟩) (fun h2=>⟨?r49,⟨?r48,⟨?r47,⟨?r46,⟨?r45,⟨?r44,⟨?r43,⟨?r42,⟨?r41,⟨?r40,Zb (fun h3=>?_) (fun h3=>?_)⟩⟩⟩⟩⟩⟩⟩⟩⟩⟩)⟩⟩⟩⟩⟩⟩⟩⟩⟩⟩)⟩⟩⟩⟩⟩⟩⟩⟩⟩⟩) (fun h0=>?_)
  case r0|r1|r2|r3|r4|r5|r6|r7|r8|r9|r10|r11|r12|r13|r14|r15|r16|r17|r18|r19|r20|r21|r22|r23|r24|r25|r26|r27|r28|r29|r30|r31|r32|r33|r34|r35|r36|r37|r38|r39|r40|r41|r42|r43|r44|r45|r46|r47|r48|r49|r50|r51|r52|r53|r54|r55|r56|r57|r58|r59|r60|r61|r62|r63|r64|r65|r66|r67|r68|r69=>first | rfl | omega | (rw[Zm];done) | (rw[dCx];done) | (rw[ZT];done) | (rw[Zao];done) | (simp only[SysM.enc,S3.enc,Iv.enc,Pixel.enc,Zu,ZT,Zm,dCx,Zao];first | done | rfl | omega) | (obtain ⟨⟨a1,a2,a3⟩,b1,b2,b3,b4⟩:=hx;simp only[Qc_,Qk_] at h0;(exact Z8 (fun _=>rfl) (by omega) (by omega)))
  all_goals obtain ⟨⟨a1,a2,a3⟩,b1,b2,b3,b4⟩:=hx
  all_goals (try simp only[Qk_,Qc_,Qe_] at h0)
  all_goals first | (have hk:k < at1.length:=h0;obtain ⟨z,t,e1,e2,e3⟩:=Yf (l:=at1) a1 (by omega);simp only[Yh e3,Zm,Zu] at *;have eC:(⟨intOf ((Pair.enc z).headD PV.nil),intOf ((Pair.enc z).tail.headD PV.nil)⟩:Pair)=z:=rfl;have q1:Pair.dec z.enc=z:=rfl;have q2:(⟨s.a.surfs,s.a.op⟩:SysM)=s.a:=rfl;have q3:(⟨s.b.surfs,s.b.op⟩:SysM)=s.b:=rfl;have q4:(⟨s.c.surfs,s.c.op⟩:SysM)=s.c:=rfl;simp only[eC,q1,q2,q3,q4] at *;have hw:IntKind.i64.wrap (k+1)=k+1:=Zg (by constructor<;>omega)) | (exact .inr ⟨by simp,_,rfl,by trivial,by unfold U14 ZbQ;(try dsimp only);rw[List.drop_eq_nil_of_le (by omega)];rfl⟩)
  all_goals
   refine .inl ⟨by trivial,(n,IntKind.i64.wrap (k+1),at1,l,h,j,pitch,w,i,out,Zgf s l xx yy n p z,yy,xx,s), ?_, ?_, ?_, ?_⟩
   ·simp only[U14,Zkh,Zgf,XD,Z1H, *,Qb_,Qd_]
    try rfl
   ·simp only[U14,Jc,hw];exact ⟨⟨by omega,by omega,a3⟩,b1,b2,b3,b4⟩
   ·simp only[hw];omega
   ·intro e s' hh;refine ⟨hh.1,hh.2.trans ?_⟩;unfold U14 ZbQ;(try dsimp only);rw[hw,e1,e2];rfl
set_option maxHeartbeats 4000000 in
def ZqL(s:S3):=S3.mk (SysM.mk (Zc Surf.dec (List.map Surf.enc s.a.surfs)) s.a.op) (SysM.mk (Zc Surf.dec (List.map Surf.enc s.b.surfs)) s.b.op) (SysM.mk (Zc Surf.dec (List.map Surf.enc s.c.surfs)) s.c.op)
def Zmd(out:List Pixel):=Zc Pixel.dec (List.map Pixel.enc out)
def Zme(l:List Shape):=Zc Shape.dec (List.map Shape.enc l)
def Zmf(i:Int)(pitch:Int)(w:Int):=times (point pitch) (IntKind.i64.wrap (IntKind.i64.wrap (IntKind.i64.wrap ((2:Int)*i)+(1:Int)) - w))
def Zmg(h:Int)(j:Int)(pitch:Int):=times (point pitch) (IntKind.i64.wrap (IntKind.i64.wrap (IntKind.i64.wrap ((2:Int)*j)+(1:Int)) - h))
def Zmh(at1:List Pair):=Zc Pair.dec (List.map Pair.enc at1)
def q29_33:=Pixel.mk (A3.mk (0:Int) (0:Int) (0:Int)) (A3.mk (0:Int) (0:Int) (0:Int)) (0:Int)
def Zye(n:Int)(at1:List Pair)(l:List Shape)(i:Int)(out:List Pixel)(h:Int)(j:Int)(pitch:Int)(w:Int)(s:S3):=List.map Pixel.enc (Zmd out)++[(Zb0 (Zlb (ZqL s) (Zme l) (Zmf i pitch w) (Zmg h j pitch) n (List.drop (0:Nat) (Zmh at1)) q29_33))]
set_option maxHeartbeats 4000000 in
theorem ZiA:Ye Tryz.prog (Zn Tryz.f18 2) Zfh:=by
 refine lsG Zk.Γ (Zw Zk Zb7 Z4 Z3 Z7 (LS:=[(25,ZbR)]) (ZM (l:=[Zn Tryz.f18 3,Zn Tryz.f18 4]) (by kernel_rfl) (Zz (i:=25) (by kernel_rfl) rfl ZdW (X8 (i:=28) (by kernel_rfl) rfl (Zr)))) (n:=2000) (U10 Zkj) (U10 Jd) (fun x e s=>(e= .exit 4∧s=U10 ZbS x)) (fun x=>(x.2.2.2.2.2.2.2.2.1 - x.2.2.2.1).toNat) Zkk ZrW ZrX (fun x hx=>?_)) ZAH (fun _=>rfl) (fun _ h=>h) (fun _ _ _ _ h f=>fE h f)
 ·obtain ⟨n,at1,l,i,out,h,j,pitch,w,s⟩:=x
  simp only[U10,Jd] at hx
  refine sxT (fun Q=>(bif decide (i < w) then ((List.map Pair.enc at1=List.map Pair.enc (Zmh at1))∧((List.map Shape.enc l=List.map Shape.enc (Zme l))∧((List.map Pixel.enc out=List.map Pixel.enc (Zmd out))∧(([vI 0,vI 0,vI 0,vI 0,vI 0,vI 0,vI 0]=q29_33.enc)∧(((eIv (Zmg h j pitch))=(Zmg h j pitch).enc)∧(((eIv (Zmf i pitch w))=(Zmf i pitch w).enc)∧((s.enc=(ZqL s).enc)∧((Jc n (0:Int) (Zmh at1) (Zme l) h j pitch w i (Zmd out) q29_33 (Zmg h j pitch) (Zmf i pitch w) (ZqL s))∧(((0:Nat) < (1:Nat)∧((List.map Pixel.enc (Zmd out)).length+(1:Nat))* (56:Nat)≤(140737488355328:Nat)∧Lens (7:Nat) (Zye n at1 l i out h j pitch w s))∧Q (Ex.normal) (some ⟨218,[(5,pI n),(16,AV.p (PV.lst (List.map Pair.enc (Zmh at1)))),(1,AV.p (PV.lst (List.map Shape.enc (Zme l)))),(7,AV.ptr 7 0),(22,AV.p (vI (IntKind.i64.wrap (i+(1:Int))))),(20,AV.p (PV.lst (Zye n at1 l i out h j pitch w s))),(3,pI h),(21,pI j),(4,pI pitch),(2,pI w)],[(7,[PV.lst (List.map Surf.enc (Zc Surf.dec (List.map Surf.enc s.a.surfs))),vI s.a.op.lo,vI s.a.op.hi,vB s.a.op.no,PV.lst (List.map Surf.enc (Zc Surf.dec (List.map Surf.enc s.b.surfs))),vI s.b.op.lo,vI s.b.op.hi,vB s.b.op.no,PV.lst (List.map Surf.enc (Zc Surf.dec (List.map Surf.enc s.c.surfs))),vI s.c.op.lo,vI s.c.op.hi,vB s.c.op.no])],[],[(Loc.t (nat_lit 20),nat_lit 98)],[]⟩)))))))))) else Q (Ex.exit (4:Nat)) (some ⟨218,[(5,pI n),(16,AV.p (PV.lst (List.map Pair.enc at1))),(1,AV.p (PV.lst (List.map Shape.enc l))),(7,AV.ptr 7 0),(20,AV.p (PV.lst (List.map Pixel.enc out))),(3,pI h),(4,pI pitch),(2,pI w),(21,pI j)],[(7,[PV.lst (List.map Surf.enc s.a.surfs),vI s.a.op.lo,vI s.a.op.hi,vB s.a.op.no,PV.lst (List.map Surf.enc s.b.surfs),vI s.b.op.lo,vI s.b.op.hi,vB s.b.op.no,PV.lst (List.map Surf.enc s.c.surfs),vI s.c.op.lo,vI s.c.op.hi,vB s.c.op.no])],[],[(Loc.t (nat_lit 20),nat_lit 98)],[]⟩))) (fun _=>by kernel_rfl) ?_
  delta ZqL Zye Zmg Zmf q29_33 Zme Zmd Zmh eIv Zb0 vI vB pI
  refine Zb (fun h0=>⟨?r7,⟨?r6,⟨?r5,⟨?r4,⟨?r3,⟨?r2,⟨?r1,⟨?_,⟨?r0, ?_⟩⟩⟩⟩⟩⟩⟩⟩⟩) (fun h0=>?_)
  case r0|r1|r2|r3|r4|r5|r6|r7=>first | rfl | omega | (rw[Zm];done) | (rw[dCx];done) | (rw[ZT];done) | (rw[Zao];done) | (simp only[SysM.enc,S3.enc,Iv.enc,Pixel.enc,Zu,ZT,Zm,dCx,Zao];first | done | rfl | omega) | (obtain ⟨⟨a1,a2,a3⟩,b1,b2,b3,b4⟩:=hx;simp only[Qc_,Qk_] at h0;first | (exact Z8 (fun _=>rfl) (by omega) (by omega)) | (simp only[Zu,Zm];first | exact ⟨b2,b1⟩ | exact ⟨b3,b1⟩ | exact ⟨b4,b1⟩)) | (obtain ⟨a1,a2,a3,a4,a5⟩:=hx;simp only[Qc_,Qk_] at h0;first | (exact Z8 (fun _=>rfl) (by omega) (by omega)) | (exact ⟨by decide,by simp only[Qk_];omega,Xk (Xb (e:=Pair.enc) (fun _=>rfl) _) rfl⟩)) | (obtain ⟨ha,b1,b2,b3,b4⟩:=hx;simp only[Zu,Zm,Zao,ZT,Qk_] at *;first | done | rfl | omega | (exact ⟨by decide,by omega,Xk (Xb (e:=Pixel.enc) (fun _=>rfl) _) rfl⟩))
  all_goals obtain ⟨⟨a1,a2,a4,a5,a6,a7,a8,a9⟩,b1,b2,b3,b4⟩:=hx
  all_goals (try simp only[Qc_,Qe_] at h0)
  all_goals simp only[Zao,Zm,Zu,ZT,Qk_,QO_,QG_] at *
  ·simp only[Jc];exact ⟨⟨by omega,by omega,a8⟩,b1,b2,b3,b4⟩
  ·have hw:IntKind.i64.wrap (i+1)=i+1:=Zg (by constructor<;>omega)
   refine .inl ⟨by trivial,(n,at1,l,IntKind.i64.wrap (i+1),out++[Zgg s l w h pitch n at1 j i],h,j,pitch,w,s), ?_, ?_, ?_, ?_⟩
   ·simp only[U10,Zkj,QR_,QE_,QN_];rfl
   ·simp only[U10,Jd,hw,Qx_,Qs_,Q1_];exact ⟨⟨by omega,by omega,a4,a5,a6,a7,a8,by omega⟩,b1,b2,b3,b4⟩
   ·simp only[hw];omega
   ·intro e s' hh;refine ⟨hh.1,hh.2.trans ?_⟩;unfold U10 ZbS;(try dsimp only);rw[hw,show (w - i).toNat=(w - (i+1)).toNat+1 by omega];simp only[Zbq,List.append_assoc,List.cons_append,List.nil_append]
  ·exact .inr ⟨by simp,_,rfl,by trivial,by unfold U10 ZbS;(try dsimp only);rw[show (w - i).toNat=0 by omega];(simp only[Zbq,List.append_nil])<;>rfl⟩
set_option maxHeartbeats 4000000 in
def ZqM(s:S3):=S3.mk (SysM.mk (Zc Surf.dec (List.map Surf.enc s.a.surfs)) s.a.op) (SysM.mk (Zc Surf.dec (List.map Surf.enc s.b.surfs)) s.b.op) (SysM.mk (Zc Surf.dec (List.map Surf.enc s.c.surfs)) s.c.op)
def Zmi(l:List Shape):=Zc Shape.dec (List.map Shape.enc l)
def Zmj(at1:List Pair):=Zc Pair.dec (List.map Pair.enc at1)
set_option maxHeartbeats 4000000 in
theorem Zsg:Ye Tryz.prog (Zn Tryz.f18 1) Zkm:=by
 refine lsG Zk.Γ (Zw Zk Zb7 Z4 Z3 Z7 (LS:=[(19,Zfh),(25,ZbR)]) (ZM (l:=[Zn Tryz.f18 2,Zn Tryz.f18 3,Zn Tryz.f18 4]) (by kernel_rfl) (Zz (i:=19) (by kernel_rfl) rfl ZiA (Zz (i:=25) (by kernel_rfl) rfl ZdW (X8 (i:=28) (by kernel_rfl) rfl (Zr))))) (n:=2000) (U9 ZtA) (U9 Je) (fun x e s=>(e= .exit 2∧s=U9 ZbT x)) (fun x=>(x.2.2.2.2.1 - x.2.2.2.2.2.1).toNat) Zkl ZrY ZrZ (fun x hx=>?_)) cv9 (fun _=>rfl) (fun _ h=>h) (fun _ _ _ _ h f=>fE h f)
 ·obtain ⟨n,at1,l,out,h,j,pitch,w,s⟩:=x
  simp only[U9,Je] at hx
  refine sxT (fun Q=>(bif decide (j < h) then ((List.map Pair.enc at1=List.map Pair.enc (Zmj at1))∧((List.map Shape.enc l=List.map Shape.enc (Zmi l))∧((List.map Pixel.enc out=List.map Pixel.enc (Zc Pixel.dec (List.map Pixel.enc out)))∧((s.enc=(ZqM s).enc)∧((Jd n (Zmj at1) (Zmi l) (0:Int) (Zc Pixel.dec (List.map Pixel.enc out)) h j pitch w (ZqM s))∧Q (Ex.normal) (some ⟨218,[(5,pI n),(16,AV.p (PV.lst (List.map Pair.enc (Zmj at1)))),(1,AV.p (PV.lst (List.map Shape.enc (Zmi l)))),(7,AV.ptr 7 0),(20,AV.p (PV.lst (List.map Pixel.enc (Zc Pixel.dec (List.map Pixel.enc out)++Zbq (Zgg (ZqM s) (Zmi l) w h pitch n (Zmj at1) j) (w - (0:Int)).toNat (0:Int))))),(3,pI h),(21,AV.p (vI (IntKind.i64.wrap (j+(1:Int))))),(4,pI pitch),(2,pI w)],[(7,[PV.lst (List.map Surf.enc (Zc Surf.dec (List.map Surf.enc s.a.surfs))),vI s.a.op.lo,vI s.a.op.hi,vB s.a.op.no,PV.lst (List.map Surf.enc (Zc Surf.dec (List.map Surf.enc s.b.surfs))),vI s.b.op.lo,vI s.b.op.hi,vB s.b.op.no,PV.lst (List.map Surf.enc (Zc Surf.dec (List.map Surf.enc s.c.surfs))),vI s.c.op.lo,vI s.c.op.hi,vB s.c.op.no])],[],[(Loc.t (nat_lit 20),nat_lit 98)],[]⟩)))))) else Q (Ex.exit (2:Nat)) (some ⟨218,[(20,AV.p (PV.lst (List.map Pixel.enc out)))],[],[],[],[]⟩))) (fun _=>by kernel_rfl) ?_
  delta ZqM Zmi Zmj vI vB pI
  refine Zb (fun h0=>⟨?r3,⟨?r2,⟨?r1,⟨?r0,⟨?_, ?_⟩⟩⟩⟩⟩) (fun h0=>?_)
  case r0|r1|r2|r3=>first | rfl | omega | (rw[Zm];done) | (rw[dCx];done) | (rw[ZT];done) | (rw[Zao];done) | (simp only[SysM.enc,S3.enc,Iv.enc,Pixel.enc,Zu,ZT,Zm,dCx,Zao];done)
  all_goals obtain ⟨⟨a1,a2,a4,a5,a6,a7,a8⟩,b1,b2,b3,b4⟩:=hx
  all_goals (try simp only[Qc_,Qe_] at h0)
  all_goals simp only[Zao,Zm,Zu,ZT,Qk_,QO_,QG_] at *
  ·simp only[Jd];exact ⟨⟨by omega,by omega,by omega,by omega,by omega,a6,a7,by omega⟩,b1,b2,b3,b4⟩
  ·have hw:IntKind.i64.wrap (j+1)=j+1:=Zg (by constructor<;>omega)
   refine .inl ⟨by trivial,(n,at1,l,out++Zbq (Zgg s l w h pitch n at1 j) w.toNat 0,h,IntKind.i64.wrap (j+1),pitch,w,s), ?_, ?_, ?_, ?_⟩
   ·simp only[Int.sub_zero];rfl
   ·simp only[U9,Je,hw,Qx_,Zju];exact ⟨⟨by omega,by omega,a4,a5,a6,a7,by omega⟩,b1,b2,b3,b4⟩
   ·simp only[hw];omega
   ·intro e s' hh;refine ⟨hh.1,hh.2.trans ?_⟩;unfold U9 ZbT;(try dsimp only);rw[hw,show (h - j).toNat=(h - (j+1)).toNat+1 by omega];simp only[JM,List.append_assoc]
  ·exact .inr ⟨by simp,_,rfl,by trivial,by unfold U9 ZbT;(try dsimp only);rw[show (h - j).toNat=0 by omega];(simp only[JM,List.append_nil])<;>rfl⟩
theorem Zyf:ZF Tryz.prog [(6,Zl6),(25,ZbR),(19,Zfh),(16,Zkm)] Tryz.f18:=ZG (l:=[Zn Tryz.f18 0,Zn Tryz.f18 1,Zn Tryz.f18 2,Zn Tryz.f18 3,Zn Tryz.f18 4]) (by kernel_rfl) (Zz (i:=6) (by kernel_rfl) rfl ZtI (Zz (i:=16) (by kernel_rfl) rfl Zsg (Zz (i:=19) (by kernel_rfl) rfl ZiA (Zz (i:=25) (by kernel_rfl) rfl ZdW (X8 (i:=28) (by kernel_rfl) rfl (Zr))))))
def ZqN(s:S3):=List.map Surf.enc (Zc Surf.dec (List.map Surf.enc s.a.surfs))
def ZqO(s:S3):=List.map Surf.enc (Zc Surf.dec (List.map Surf.enc s.b.surfs))
def ZqP(s:S3):=List.map Surf.enc (Zc Surf.dec (List.map Surf.enc s.c.surfs))
def ZqQ(s:S3):=S3.mk (SysM.mk (Zc Surf.dec (ZqN s)) s.a.op) (SysM.mk (Zc Surf.dec (ZqO s)) s.b.op) (SysM.mk (Zc Surf.dec (ZqP s)) s.c.op)
def ZqR(s:S3):=S3.mk (SysM.mk (Zc Surf.dec (List.map Surf.enc s.a.surfs)) s.a.op) (SysM.mk (Zc Surf.dec (List.map Surf.enc s.b.surfs)) s.b.op) (SysM.mk (Zc Surf.dec (List.map Surf.enc s.c.surfs)) s.c.op)
def Zd2(l:List Shape):=Zc Shape.dec (List.map Shape.enc l)
def Zmk(ds:List Cx):=Zc Cx.dec (List.map Cx.enc ds)
def Zyg(ds:List Cx):=Zc Pair.dec []++List.map Za4 (List.drop (0:Nat) (Zmk ds))
def WJ:=PV.tup [.nil,vI 1]
def ZqS(l:List Shape):=Zc Shape.dec (List.map Shape.enc (Zd2 l))
def ZqT(ds:List Cx):=Zc Pair.dec (List.map Pair.enc (Zyg ds))
set_option maxHeartbeats 4000000 in
theorem ZCW:Zh Tryz.prog 18 e18:=Zi<|Zf fun s=>Zf fun l=>Zf fun w=>Zf fun h=>Zf fun pitch=>Zf fun n=>Zf fun ds=>EZ2 fun hp0 hp1=>by
 refine cfL Zb7 Zyf rfl ?_
 refine sxT (fun Q=>((List.map Shape.enc l=List.map Shape.enc (Zd2 l))∧(((Zd2 l).length≤(140737488355328:Nat))∧(bif !Y6 (Zd2 l) then Q WJ else (bif decide (w < (1:Int)) then Q WJ else (bif decide (w > (16:Int)) then Q WJ else (bif decide (h < (1:Int)) then Q WJ else (bif decide (h > (16:Int)) then Q WJ else (bif decide (pitch < (1:Int)) then Q WJ else (bif decide (pitch > (1048576:Int)) then Q WJ else (bif decide (n < (1:Int)) then Q WJ else (bif decide (n > (16:Int)) then Q WJ else (bif decide (↑(List.map Cx.enc ds).length > (16:Int)) then Q WJ else (([]=List.map Pair.enc (Zc Pair.dec []))∧((List.map Cx.enc ds=List.map Cx.enc (Zmk ds))∧((List.map Shape.enc l=List.map Shape.enc (Zd2 l))∧(([PV.lst (List.map Surf.enc s.a.surfs),vI s.a.op.lo,vI s.a.op.hi,vB s.a.op.no,PV.lst (List.map Surf.enc s.b.surfs),vI s.b.op.lo,vI s.b.op.hi,vB s.b.op.no,PV.lst (List.map Surf.enc s.c.surfs),vI s.c.op.lo,vI s.c.op.hi,vB s.c.op.no]=(ZqR s).enc)∧((J8 (0:Int) (Zc Pair.dec []) n (Zmk ds) (Zd2 l) h pitch w (ZqR s))∧(bif We (0:Int) (Zc Pair.dec []) n (Zmk ds) (Zd2 l) h pitch w (ZqR s) then Q WJ else (((0:Int)≤(0:Int)∧(0:Int) < (3:Int))∧(bif ↑(ZqN s).length==(0:Int) then Q WJ else (((0:Int)≤(1:Int)∧(1:Int) < (3:Int))∧(bif ↑(ZqO s).length==(0:Int) then Q WJ else (((0:Int)≤(2:Int)∧(2:Int) < (3:Int))∧(bif ↑(ZqP s).length==(0:Int) then Q WJ else ((List.map Pair.enc (Zyg ds)=List.map Pair.enc (ZqT ds))∧((List.map Shape.enc (Zd2 l)=List.map Shape.enc (ZqS l))∧(([]=List.map Pixel.enc (Zc Pixel.dec []))∧(([PV.lst (ZqN s),vI s.a.op.lo,vI s.a.op.hi,vB s.a.op.no,PV.lst (ZqO s),vI s.b.op.lo,vI s.b.op.hi,vB s.b.op.no,PV.lst (ZqP s),vI s.c.op.lo,vI s.c.op.hi,vB s.c.op.no]=(ZqQ s).enc)∧((Je n (ZqT ds) (ZqS l) (Zc Pixel.dec []) h (0:Int) pitch w (ZqQ s))∧Q (PV.tup [PV.lst (List.map Pixel.enc (Zc Pixel.dec []++JM (Zgg (ZqQ s) (ZqS l) w h pitch n (ZqT ds)) w (h - (0:Int)).toNat (0:Int))),vI 0]))))))))))))))))))))))))))))))) (fun _=>by kernel_rfl) ?_
 delta Qn ZqQ ZqR Zd2 Zyg WJ ZqN ZqO ZqP ZqS ZqT Zmk vI vB
 refine ⟨?r12,⟨?r11,Zb (fun h0=>?_) (fun h0=>Zb (fun h1=>?_) (fun h1=>Zb (fun h2=>?_) (fun h2=>Zb (fun h3=>?_) (fun h3=>Zb (fun h4=>?_) (fun h4=>Zb (fun h5=>?_) (fun h5=>Zb (fun h6=>?_) (fun h6=>Zb (fun h7=>?_) (fun h7=>Zb (fun h8=>?_) (fun h8=>Zb (fun h9=>?_) (fun h9=>⟨?r10,⟨?r9,⟨?r8,⟨?r7,⟨?_,Zb (fun h10=>?_) (fun h10=>⟨?r6,Zb (fun h11=>?_) (fun h11=>⟨?r5,Zb (fun h12=>?_) (fun h12=>⟨?r4,Zb (fun h13=>?_) (fun h13=>⟨?r3,⟨?r2,⟨?r1,⟨?r0,⟨?_, ?_⟩⟩⟩⟩⟩)⟩)⟩)⟩)⟩⟩⟩⟩⟩))))))))))⟩⟩
 case r0|r1|r2|r3|r4|r5|r6|r7|r8|r9|r10|r11|r12=>first | rfl | omega | (rw[Zm];done) | (rw[dCx];done) | (rw[ZT];done) | (rw[Zao];done) | (simp only[SysM.enc,S3.enc,Iv.enc,Pixel.enc,Zu,ZT,Zm,dCx,Zao];first | done | rfl | omega)
 all_goals simp only[dCx,Zm,Zu,ZT,Zao,Qk_,QO_,QG_,Qi_,Qf_,show Zc Pixel.dec []=[] from rfl,show Zc Pair.dec []=[] from rfl,QJ_,Int.sub_zero,We] at *
 all_goals (cases hR:Jo s l w h pitch n ds)
 all_goals first | (simp only[Z0,hR,Qd_];rfl) | (simp only[J8,ZX,Qh_,Qc_,Qe_,Q1_] at *;exact ⟨by omega,by omega,by omega,⟨by omega,by omega⟩,by omega⟩) | (simp only[Je,Qc_,Qe_,Q1_,Qk_] at *;exact ⟨⟨by omega,by omega,by omega,by omega,by omega,by omega,by omega⟩,hp1.1,hp0.1,hp0.2.1,hp0.2.2⟩) | (exfalso;simp only[Jo,YU,ZX,Qh_,Qc_,Qe_,Qi_] at *;obtain ⟨r1,⟨⟨r2,r3⟩,⟨r4,r5⟩⟩,⟨r6,r7⟩,⟨r8,r9⟩,r10,r11,r12⟩:=hR;first | omega | (rw[r1] at h0;exact absurd h0 (by decide)) | (rw[h10] at r11;exact absurd r11 (by decide)) | (simp only[QU_,List.any_nil,Q3_,Ka_,WO] at r12;obtain ⟨q1,q2,q3⟩:=r12;first | (rw[h11] at q1;exact absurd q1 (by decide)) | (rw[h12] at q2;exact absurd q2 (by decide)) | (rw[h13] at q3;exact absurd q3 (by decide)))) | (exfalso;have hT:Jo s l w h pitch n ds=true:=(by simp only[Jo,YU,ZX,QU_,List.any_nil,Q3_,WO,h0,h9,h10,h11,h12,h13,Qh_,Qc_,Qe_,Qt_,Bool.or_self,and_true,true_and] at *;omega);rw[hT] at hR;exact absurd hR (by decide)) | (simp only[Z0,hR,Qb_,Z7E _ _ _ _ _ _ _ h10];rfl)
open Go Go.RowKit Go.Sort
theorem ZzM(w:World)(k:Nat)(os:Array Obj):Below w.heap.size w (grow (w.drewN k) os):=
 ⟨rfl,rfl,rfl,by simp[grow],fun i hi=>KD_ hi⟩
theorem Z8C(n:Int)(h: -1000000000000000000≤n∧n≤1000000000000000000):Con Tryz.prog 38 [.v (.int .i64 n)] (.str (digits n)):=
 Z1o Tryz.call38 (fun n hw w h0 h1 hg=>(Any.strconv_Itoa Tryz.laysM171 n h0 h1 w (Z7h hg (x:=1) (vs:=Lib.pow10Tab.map fun z=>Value.int .u64 z) rfl (by kernel_rfl))).mono fun e w' ⟨he,k,os,hw'⟩=>⟨he,by subst hw';exact ZzM w k os⟩) _ _ (Zzn h)
theorem ZCX:Zh Tryz.prog 38 e38:=Zi<|Zf fun n=>EZ1 fun h=>Z8C n h
end Go.Men
