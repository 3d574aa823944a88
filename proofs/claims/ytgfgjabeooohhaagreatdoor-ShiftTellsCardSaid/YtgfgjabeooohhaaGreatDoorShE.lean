/- A logic of frames, its evaluator for values known in part, and what the functions that the law reaches are shown to do: written for this claim. Part E. -/
import Derived.Test.YtgfgjabeooohhaaGreatDoorShD
import Derived.KernelRfl
import Derived.Deep.Slices
import Derived.Carry
import Derived.OpenShut
import Derived.ChangeMaps5
import Derived.Deep.DeepHandedRow
set_option linter.all false
set_option maxRecDepth 100000
namespace Go.Men
open Go.Ev Go.Proofs Go.Proofs.YtgfgjabeooohhaaGreatDoor
def Z0n:=YN [(60,e60),(66,e66),(27,e27),(37,e37),(63,e63),(67,e67),(68,e68)]
set_option maxHeartbeats 4000000 in
def ZhT(i:Int)(ss:List Surf):=(List.map Surf.enc ss).getD i.toNat []
def Zu3(i:Int)(ss:List Surf):=Iv.dec (ZhT i ss).tail.tail.tail.tail.tail.tail.tail.tail.tail.tail.tail.tail.tail.tail.tail.tail.tail.tail.tail.tail
def Zn2(i:Int)(ss:List Surf)(y:Iv)(u:Iv)(one:Iv):=sub (Ye (Zu3 i ss) u) (Ye (Ye y (Iv.dec (ZhT i ss).tail.tail)) (sub one (Zu3 i ss)))
def Zhi(i:Int):=IntKind.i64.wrap (i+(1:Int))
def Zk7(i:Int)(ss:List Surf)(m:Int):=[(16,AV.p (vI (Zhi i))),(14,AV.p (PV.lst (List.map Surf.enc ss))),(15,pI m),(1,AV.ptr 1 0),(4,AV.ptr 4 0),(5,AV.ptr 5 0),(3,AV.ptr 3 0),(2,AV.ptr 2 0)]
def ZfJ(s:SysM):=List.map Surf.enc s.surfs
def Zu4:=[vB false,vB false,vI 0,vI 0,vB false,vI 0,vI 0,vB false,vI 0,vI 0,vB false,vI 0,vI 0,vB false,vI 0,vI 0,vB false,vI 0,vI 0,vB false,vI 0,vI 0,vB false]
def Zu5(i:Int)(s:SysM):=(0:Int)≤IntKind.i64.wrap (i+(1:Int))∧(ZfJ s)[(Zhi i).toNat]?=some (Yt Zu4 ((ZfJ s).getD (Zhi i).toNat []))
def ZhU(s:SysM):=[PV.lst (ZfJ s),vI s.op.lo,vI s.op.hi,vB s.op.no]
def Zu6(i:Int)(ss:List Surf)(s:SysM):=sub (Iv.dec ((ZfJ s).getD (Zhi i).toNat []).tail.tail.tail.tail.tail.tail.tail.tail.tail.tail.tail.tail.tail.tail) (Iv.dec (ZhT i ss).tail.tail.tail.tail.tail.tail.tail.tail.tail.tail.tail.tail.tail.tail)
theorem Zqe:CSOk Tryz.prog Z0n:=Zb Zkm<|Zb Zzd<|Zb Ztu<|Zb Zko<|Zb Zno<|Zb Zzc<|Zb Z2d<|Zh
set_option maxHeartbeats 4000000 in
theorem Zu7:Yo Tryz.prog (Z6 Tryz.f26 0) Zmi:=by
 refine lsG Zo.Γ (ZD Zo Zqe ZJ ZK ZQ (LS:=[]) (Yh (l:=[]) (by kernel_rfl) Z0) (n:=2000) (U8 Zwi) (U8 JB) (fun x e s=>(e= .exit 0∧s=U8 Zck x)) (fun x=>(x.2.2.2.1.surfs.length - x.1).toNat) Zmh Ztm Ztn (fun x hx=>?_)) cv8 (fun _=>rfl) (fun _ h=>h) (fun _ _ _ _ h f=>fE h f)
 ·obtain ⟨i,ss,m,s,y,u,one,z⟩:=x
  simp only[U8,JB] at hx
  refine sxT (fun Q=>(bif decide (i < m) then (((0:Int)≤i∧(List.map Surf.enc ss)[i.toNat]?=some (Yt Zu4 (ZhT i ss)))∧(bif !Zv ((ZhT i ss).headD PV.nil) then (bif decide (IntKind.i64.wrap (i+(1:Int)) < ↑(ZfJ s).length) then ((Zu5 i s)∧Q (Ex.normal) (some ⟨78,(Zk7 i ss m),[(1,(ZhU s)),(4,(eIv (add y (Ye (Zn2 i ss y u one) (Zu6 i ss s))))),(5,(eIv (Zn2 i ss y u one))),(3,(eIv one)),(2,(Zan z))],[],[],[]⟩)) else Q (Ex.normal) (some ⟨78,(Zk7 i ss m),[(1,(ZhU s)),(4,(eIv y)),(5,(eIv (Zn2 i ss y u one))),(3,(eIv one)),(2,(Zan z))],[],[],[]⟩)) else (bif decide (IntKind.i64.wrap (i+(1:Int)) < ↑(ZfJ s).length) then ((Zu5 i s)∧Q (Ex.normal) (some ⟨78,(Zk7 i ss m),[(1,(ZhU s)),(4,(eIv (add y (Ye u (Zu6 i ss s))))),(5,(eIv u)),(3,(eIv one)),(2,(Zan z))],[],[],[]⟩)) else Q (Ex.normal) (some ⟨78,(Zk7 i ss m),[(1,(ZhU s)),(4,(eIv y)),(5,(eIv u)),(3,(eIv one)),(2,(Zan z))],[],[],[]⟩)))) else Q (Ex.exit (0:Nat)) (some ⟨78,[(2,AV.ptr 2 0),(1,AV.ptr 1 0),(5,AV.ptr 5 0),(4,AV.ptr 4 0),(3,AV.ptr 3 0)],[(2,(Zan z)),(1,(ZhU s)),(5,(eIv u)),(4,(eIv y)),(3,(eIv one))],[],[],[]⟩))) (fun _=>by kernel_rfl) ?_
  delta Zn2 Zk7 Zu5 ZhU Zu6 Zu4 ZhT ZfJ Zu3 Zhi eIv Zan vI vB pI
  refine Za (fun h0=>⟨?r2,Za (fun h1=>Za (fun h2=>⟨?r0, ?_⟩) (fun h2=>?_)) (fun h1=>Za (fun h2=>⟨?r1, ?_⟩) (fun h2=>?_))⟩) (fun h0=>?_)
  case r0|r1|r2=>first | rfl | (rw[Yi];done) | (simp only[SysM.enc,Yi];done) | (obtain ⟨a1,a2,a4,a6,a3,a5⟩:=hx;subst a5;subst a3;simp only[Qk_,Qc_] at *;first | exact Zp (fun _=>rfl) (by omega) (by omega) | (have hw:IntKind.i64.wrap (i+1)=i+1:=Ze (by constructor<;>omega);simp only[hw] at *;exact Zp (fun _=>rfl) (by omega) (by omega))) | skip
  all_goals (obtain ⟨a1,a2,a4,a6,a3,a5⟩:=hx)
  all_goals subst a5
  all_goals subst a3
  all_goals subst a6
  all_goals (try simp only[Qk_,Qc_,Qe_] at h0)
  all_goals first
   | (exact .inr ⟨by simp,_,rfl,by trivial,by unfold U8 Zck;(try dsimp only);rw[List.drop_eq_nil_of_le (by omega)];rfl⟩)
   | (obtain ⟨x,t,e1,e2,e3⟩:=ZM (l:=s.surfs) a1 (by omega)
      have hw:IntKind.i64.wrap (i+1)=i+1:=Ze (by constructor<;>omega)
      simp only[ZV e3,hw,Qk_] at *
      have hs:(!x.stop)=_:=h1
      have hu:pxU x y u=bif x.stop then u else sub (Ye x.ratio u) (Ye (Ye y x.curve) (sub (point 65536) x.ratio)):=rfl
      simp only[Qi_,Qf_] at hs
      rw[hs] at hu
      simp only[Qb_,Qd_] at hu
      have hg:W8 (s.surfs.drop i.toNat) y u=W8 (s.surfs.drop (i+1).toNat) (pxY x t y (pxU x y u)) (pxU x y u):=(by rw[e1,e2];rfl)
      have hy:∃y2,pxY x t y (pxU x y u)=y2:=⟨_,rfl⟩
      first
       | (have h2':(i+1) < (s.surfs.length:Int):=Qy_ h2
          obtain ⟨x2,t2,f1,f2,f3⟩:=ZM (l:=s.surfs) (i:=i+1) (by omega) h2'
          simp only[ZV f3] at *
          have hy2:pxY x t y (pxU x y u)=add y (Ye (pxU x y u) (sub x2.pos x.pos)):=(by rw[←e2,f1];rfl)
          refine .inl ⟨by trivial,(i+1,s.surfs,(s.surfs.length:Int),s,pxY x t y (pxU x y u),pxU x y u,point 65536,z), ?_, ?_, ?_, ?_⟩
          ·rw[hy2,hu];rfl
          ·simp only[U8,JB];exact ⟨by omega,by omega,a4,trivial,trivial,trivial⟩
          ·(show ((s.surfs.length:Int) - (i+1)).toNat < ((s.surfs.length:Int) - i).toNat);omega
          ·intro e s' h;refine ⟨h.1,h.2.trans ?_⟩;unfold U8 Zck;(try dsimp only);rw[hg])
       | (have h2':¬(i+1) < (s.surfs.length:Int):=of_decide_eq_false h2
          have ht:t=[]:=(by rw[←e2];exact Q0_ (by omega))
          have hy2:pxY x t y (pxU x y u)=y:=(by rw[ht];rfl)
          refine .inl ⟨by trivial,(i+1,s.surfs,(s.surfs.length:Int),s,pxY x t y (pxU x y u),pxU x y u,point 65536,z), ?_, ?_, ?_, ?_⟩
          ·rw[hy2,hu];rfl
          ·simp only[U8,JB];exact ⟨by omega,by omega,a4,trivial,trivial,trivial⟩
          ·(show ((s.surfs.length:Int) - (i+1)).toNat < ((s.surfs.length:Int) - i).toNat);omega
          ·intro e s' h;refine ⟨h.1,h.2.trans ?_⟩;unfold U8 Zck;(try dsimp only);rw[hg]))
theorem ZwP:ZN Tryz.prog [(5,Zmi)] Tryz.f26:=ZI (l:=[Z6 Tryz.f26 0]) (by kernel_rfl) (ZR (i:=5) (by kernel_rfl) rfl Zu7 (Z0))
def ZeN(s:SysM):=Zf Surf.dec (List.map Surf.enc s.surfs)
def Zk8(s:SysM):=W8 (List.drop (0:Nat) (ZeN s)) (point (65536:Int)) (point (0:Int))
def Zcs(s:SysM):=neg (Z8 (point (65536:Int)) (Zk8 s).snd)
def Zbi:=Iv.mk (0:Int) (0:Int) false
def Zd7(s:SysM):=neg (Z8 (Zk8 s).fst (Zk8 s).snd)
def Zk9(s:SysM):=Z8 (Zcs s) (times s.op (2:Int))
set_option maxHeartbeats 4000000 in
theorem Z21:Zj Tryz.prog 26 e26:=Zk<|Zi fun s=>EZ1 fun hp0=>by
 refine cfL Zqe ZwP rfl ?_
 refine sxT (fun Q=>((List.map Surf.enc s.surfs=List.map Surf.enc (ZeN s))∧(([PV.lst (List.map Surf.enc s.surfs),vI s.op.lo,vI s.op.hi,vB s.op.no]=(SysM.mk (ZeN s) s.op).enc)∧(([vI 0,vI 0,vB false,vI 0,vI 0,vB false,vI 0,vI 0,vB false,vI 0,vI 0,vB false]=(Card.mk Zbi Zbi Zbi Zbi).enc)∧((JB (0:Int) (ZeN s) (↑(List.map Surf.enc s.surfs).length) (SysM.mk (ZeN s) s.op) (point (65536:Int)) (point (0:Int)) (point (65536:Int)) (Card.mk Zbi Zbi Zbi Zbi))∧Q (PV.agg [vI (Zcs s).lo,vI (Zcs s).hi,vB (Zcs s).no,vI (Zd7 s).lo,vI (Zd7 s).hi,vB (Zd7 s).no,vI (sub (Zd7 s) (Zcs s)).lo,vI (sub (Zd7 s) (Zcs s)).hi,vB (sub (Zd7 s) (Zcs s)).no,vI (Zk9 s).lo,vI (Zk9 s).hi,vB (Zk9 s).no])))))) (fun _=>by kernel_rfl) ?_
 delta Qn Zk8 Zcs Zbi Zd7 ZeN Zk9 vI vB
 refine ⟨?r2,⟨?r1,⟨?r0,⟨?_, ?_⟩⟩⟩⟩
 case r0|r1|r2=>first | rfl | (rw[Yi];done) | (simp only[SysM.enc,Yi];done) | (obtain ⟨a1,a2,a4,a6,a3,a5⟩:=hx;subst a5;subst a3;simp only[Qk_,Qc_] at *;first | exact Zp (fun _=>rfl) (by omega) (by omega) | (have hw:IntKind.i64.wrap (i+1)=i+1:=Ze (by constructor<;>omega);simp only[hw] at *;exact Zp (fun _=>rfl) (by omega) (by omega))) | skip
 all_goals (try simp only[Yi,Qk_,QO_,QG_,XG] at *)
 ·simp only[JB];exact ⟨by omega,by omega,hp0,by trivial,by trivial,by trivial⟩
 ·rfl
def ZyK:=YN [(88,e88),(111,Z0R),(58,e58),(91,e91),(93,e93),(112,Z0P),(113,Z0S)]
set_option maxHeartbeats 4000000 in
def W6(s:SysM):=List.map Surf.enc s.surfs
def Zqf(i:Int)(s:SysM):=Iv.dec ((W6 s).getD i.toNat []).tail.tail.tail.tail.tail.tail.tail.tail.tail.tail.tail.tail.tail.tail.tail.tail.tail.tail.tail.tail
def ZkA(i:Int)(s:SysM)(y:Iv)(u:Iv)(one:Iv):=sub (Ye (Zqf i s) u) (Ye (Ye y (Iv.dec ((W6 s).getD i.toNat []).tail.tail)) (sub one (Zqf i s)))
def Zhj(i:Int):=IntKind.i64.wrap (i+(1:Int))
def Zhk(i:Int):=[(6,AV.p (vI (Zhj i))),(1,AV.ptr 1 0),(4,AV.ptr 4 0),(5,AV.ptr 5 0),(3,AV.ptr 3 0),(2,AV.ptr 2 0)]
def Zqg:=[vB false,vB false,vI 0,vI 0,vB false,vI 0,vI 0,vB false,vI 0,vI 0,vB false,vI 0,vI 0,vB false,vI 0,vI 0,vB false,vI 0,vI 0,vB false,vI 0,vI 0,vB false]
def Zqh(i:Int)(s:SysM):=sub (Iv.dec ((W6 s).getD (Zhj i).toNat []).tail.tail.tail.tail.tail.tail.tail.tail.tail.tail.tail.tail.tail.tail) (Iv.dec ((W6 s).getD i.toNat []).tail.tail.tail.tail.tail.tail.tail.tail.tail.tail.tail.tail.tail.tail)
def ZeO(s:SysM):=[PV.lst (W6 s),vI s.op.lo,vI s.op.hi,vB s.op.no]
def Zqi(i:Int)(s:SysM):=(0:Int)≤IntKind.i64.wrap (i+(1:Int))∧(W6 s)[(Zhj i).toNat]?=some (Yt Zqg ((W6 s).getD (Zhj i).toNat []))
theorem Zmv:CSOk Tryz.prog ZyK:=Zb Ztr<|Zb Zw0<|Zb Ztv<|Zb Ztt<|Zb ZtF<|Zb Z1m<|Zb Z1r<|Zh
set_option maxHeartbeats 4000000 in
theorem Zri:Yo Tryz.prog (Z6 Tryz.f56 0) Zkg:=by
 refine lsG Zo.Γ (ZD Zo Zmv ZJ ZK ZQ (LS:=[]) (Yh (l:=[]) (by kernel_rfl) Z0) (n:=2000) (U6 Zto) (U6 WU) (fun x e s=>(e= .exit 0∧s=U6 Zbc x)) (fun x=>(x.2.1.surfs.length - x.1).toNat) Zkf ZqS ZqT (fun x hx=>?_)) cv6 (fun _=>rfl) (fun _ h=>h) (fun _ _ _ _ h f=>fE h f)
 ·obtain ⟨i,s,y,u,one,z⟩:=x
  simp only[U6,WU] at hx
  refine sxT (fun Q=>(bif decide (i < ↑(W6 s).length) then (((0:Int)≤i∧(W6 s)[i.toNat]?=some (Yt Zqg ((W6 s).getD i.toNat [])))∧(bif !Zv (((W6 s).getD i.toNat []).headD PV.nil) then (bif decide (IntKind.i64.wrap (i+(1:Int)) < ↑(W6 s).length) then ((Zqi i s)∧Q (Ex.normal) (some ⟨84,(Zhk i),[(1,(ZeO s)),(4,(eIv (add y (Ye (ZkA i s y u one) (Zqh i s))))),(5,(eIv (ZkA i s y u one))),(3,(eIv one)),(2,(Zan z))],[],[],[]⟩)) else Q (Ex.normal) (some ⟨84,(Zhk i),[(1,(ZeO s)),(4,(eIv y)),(5,(eIv (ZkA i s y u one))),(3,(eIv one)),(2,(Zan z))],[],[],[]⟩)) else (bif decide (IntKind.i64.wrap (i+(1:Int)) < ↑(W6 s).length) then ((Zqi i s)∧Q (Ex.normal) (some ⟨84,(Zhk i),[(1,(ZeO s)),(4,(eIv (add y (Ye u (Zqh i s))))),(5,(eIv u)),(3,(eIv one)),(2,(Zan z))],[],[],[]⟩)) else Q (Ex.normal) (some ⟨84,(Zhk i),[(1,(ZeO s)),(4,(eIv y)),(5,(eIv u)),(3,(eIv one)),(2,(Zan z))],[],[],[]⟩)))) else Q (Ex.exit (0:Nat)) (some ⟨84,[(2,AV.ptr 2 0),(1,AV.ptr 1 0),(5,AV.ptr 5 0),(4,AV.ptr 4 0),(3,AV.ptr 3 0)],[(2,(Zan z)),(1,(ZeO s)),(5,(eIv u)),(4,(eIv y)),(3,(eIv one))],[],[],[]⟩))) (fun _=>by kernel_rfl) ?_
  delta ZkA Zhk W6 Zqg Zqh ZeO Zqi Zqf Zhj eIv Zan vI vB
  refine Za (fun h0=>⟨?r2,Za (fun h1=>Za (fun h2=>⟨?r0, ?_⟩) (fun h2=>?_)) (fun h1=>Za (fun h2=>⟨?r1, ?_⟩) (fun h2=>?_))⟩) (fun h0=>?_)
  case r0|r1|r2=>first | rfl | (rw[Yi];done) | (simp only[SysM.enc,Yi];done) | (obtain ⟨a1,a2,a4,a6⟩:=hx;simp only[Qk_,Qc_] at *;first | exact Zp (fun _=>rfl) (by omega) (by omega) | (have hw:IntKind.i64.wrap (i+1)=i+1:=Ze (by constructor<;>omega);simp only[hw] at *;exact Zp (fun _=>rfl) (by omega) (by omega))) | skip
  all_goals (obtain ⟨a1,a2,a4,a6⟩:=hx)
  all_goals subst a6
  all_goals (try simp only[Qk_,Qc_,Qe_] at h0)
  all_goals first
   | (exact .inr ⟨by simp,_,rfl,by trivial,by unfold U6 Zbc;(try dsimp only);rw[List.drop_eq_nil_of_le (by omega)];rfl⟩)
   | (obtain ⟨x,t,e1,e2,e3⟩:=ZM (l:=s.surfs) a1 (by omega)
      have hw:IntKind.i64.wrap (i+1)=i+1:=Ze (by constructor<;>omega)
      simp only[ZV e3,hw,Qk_] at *
      have hs:(!x.stop)=_:=h1
      have hu:pxU x y u=bif x.stop then u else sub (Ye x.ratio u) (Ye (Ye y x.curve) (sub (point 65536) x.ratio)):=rfl
      simp only[Qi_,Qf_] at hs
      rw[hs] at hu
      simp only[Qb_,Qd_] at hu
      have hg:W8 (s.surfs.drop i.toNat) y u=W8 (s.surfs.drop (i+1).toNat) (pxY x t y (pxU x y u)) (pxU x y u):=(by rw[e1,e2];rfl)
      have hy:∃y2,pxY x t y (pxU x y u)=y2:=⟨_,rfl⟩
      first
       | (have h2':(i+1) < (s.surfs.length:Int):=Qy_ h2
          obtain ⟨x2,t2,f1,f2,f3⟩:=ZM (l:=s.surfs) (i:=i+1) (by omega) h2'
          simp only[ZV f3] at *
          have hy2:pxY x t y (pxU x y u)=add y (Ye (pxU x y u) (sub x2.pos x.pos)):=(by rw[←e2,f1];rfl)
          refine .inl ⟨by trivial,(i+1,s,pxY x t y (pxU x y u),pxU x y u,point 65536,z), ?_, ?_, ?_, ?_⟩
          ·rw[hy2,hu];rfl
          ·simp only[U6,WU];exact ⟨by omega,by omega,a4,trivial⟩
          ·(show ((s.surfs.length:Int) - (i+1)).toNat < ((s.surfs.length:Int) - i).toNat);omega
          ·intro e s' h;refine ⟨h.1,h.2.trans ?_⟩;unfold U6 Zbc;(try dsimp only);rw[hg])
       | (have h2':¬(i+1) < (s.surfs.length:Int):=of_decide_eq_false h2
          have ht:t=[]:=(by rw[←e2];exact Q0_ (by omega))
          have hy2:pxY x t y (pxU x y u)=y:=(by rw[ht];rfl)
          refine .inl ⟨by trivial,(i+1,s,pxY x t y (pxU x y u),pxU x y u,point 65536,z), ?_, ?_, ?_, ?_⟩
          ·rw[hy2,hu];rfl
          ·simp only[U6,WU];exact ⟨by omega,by omega,a4,trivial⟩
          ·(show ((s.surfs.length:Int) - (i+1)).toNat < ((s.surfs.length:Int) - i).toNat);omega
          ·intro e s' h;refine ⟨h.1,h.2.trans ?_⟩;unfold U6 Zbc;(try dsimp only);rw[hg]))
theorem Zu8:ZN Tryz.prog [(6,Zkg)] Tryz.f56:=ZI (l:=[Z6 Tryz.f56 0]) (by kernel_rfl) (ZR (i:=6) (by kernel_rfl) rfl Zri (Z0))
def ZkB(s:SysM):=Zf Surf.dec (List.map Surf.enc s.surfs)
def ZkC(s:SysM):=W8 (List.drop (0:Nat) (ZkB s)) (point (65536:Int)) (point (0:Int))
def Zct(s:SysM):=neg (Z8 (point (65536:Int)) (ZkC s).snd)
def Zbj:=Iv.mk (0:Int) (0:Int) false
def Zd8(s:SysM):=neg (Z8 (ZkC s).fst (ZkC s).snd)
def ZkD(s:SysM):=Z8 (Zct s) (times s.op (2:Int))
set_option maxHeartbeats 4000000 in
theorem Z22:Zj Tryz.prog 56 e56:=Zk<|Zi fun s=>EZ1 fun hp0=>by
 refine cfL Zmv Zu8 rfl ?_
 refine sxT (fun Q=>(([PV.lst (List.map Surf.enc s.surfs),vI s.op.lo,vI s.op.hi,vB s.op.no]=(SysM.mk (ZkB s) s.op).enc)∧(([vI 0,vI 0,vB false,vI 0,vI 0,vB false,vI 0,vI 0,vB false,vI 0,vI 0,vB false]=(Card.mk Zbj Zbj Zbj Zbj).enc)∧((WU (0:Int) (SysM.mk (ZkB s) s.op) (point (65536:Int)) (point (0:Int)) (point (65536:Int)) (Card.mk Zbj Zbj Zbj Zbj))∧Q (PV.agg [vI (Zct s).lo,vI (Zct s).hi,vB (Zct s).no,vI (Zd8 s).lo,vI (Zd8 s).hi,vB (Zd8 s).no,vI (sub (Zd8 s) (Zct s)).lo,vI (sub (Zd8 s) (Zct s)).hi,vB (sub (Zd8 s) (Zct s)).no,vI (ZkD s).lo,vI (ZkD s).hi,vB (ZkD s).no]))))) (fun _=>by kernel_rfl) ?_
 delta Qn ZkC Zct Zbj Zd8 ZkB ZkD vI vB
 refine ⟨?r1,⟨?r0,⟨?_, ?_⟩⟩⟩
 case r0|r1=>first | rfl | (rw[Yi];done) | (simp only[SysM.enc,Yi];done) | (obtain ⟨a1,a2,a4,a6⟩:=hx;simp only[Qk_,Qc_] at *;first | exact Zp (fun _=>rfl) (by omega) (by omega) | (have hw:IntKind.i64.wrap (i+1)=i+1:=Ze (by constructor<;>omega);simp only[hw] at *;exact Zp (fun _=>rfl) (by omega) (by omega))) | skip
 all_goals (try simp only[Yi,Qk_,QO_,QG_,XG] at *)
 ·simp only[WU];exact ⟨by omega,by omega,hp0,by trivial⟩
 ·rfl
def Z0o:=YN [(24,e24),(26,e26)]
set_option maxHeartbeats 4000000 in
def Zn3(l:LensM):=Zf Face.dec (List.map Face.enc l.faces)
def ZbJ(i:Int)(g:List Glass)(ws:List Iv)(l:LensM):=ZX (LensM.mk l.name l.back (Zn3 l)) (Zf Glass.dec (List.map Glass.enc g)) (Iv.dec ((List.map Iv.enc ws).getD i.toNat []))
def Zn4(i:Int)(g:List Glass)(ws:List Iv)(l:LensM):=SysM.mk (Zf Surf.dec (List.map Surf.enc (ZbJ i g ws l).fst.surfs)) (ZbJ i g ws l).fst.op
theorem Zqj:CSOk Tryz.prog Z0o:=Zb Z20<|Zb Z21<|Zh
set_option maxHeartbeats 4000000 in
theorem Zu9:Yo Tryz.prog (Z6 Tryz.f19 0) Zml:=by
 refine lsG Zo.Γ (ZD Zo Zqj ZJ ZK ZQ (LS:=[]) (Yh (l:=[]) (by kernel_rfl) Z0) (n:=2000) (U6 Zmj) (U6 Zcm) (fun x e s=>((U6 JC x=true∧e= .ret∧s=U6 Zed x)∨(U6 JC x=false∧e= .exit 0∧s=U6 Zec x))) (fun x=>(x.2.2.2.2.1 - x.1).toNat) Zmk Ztp Ztq (fun x hx=>?_)) cv6 (fun _=>rfl) (fun _ h=>h) (fun _ _ _ _ h f=>fC h f fE fE)
 ·obtain ⟨i,out,g,ws,m,l⟩:=x
  simp only[U6,Zcm] at hx
  refine sxT (fun Q=>(bif decide (i < m) then (((0:Int)≤i∧(List.map Iv.enc ws)[i.toNat]?=some (Yt [vI 0,vI 0,vB false] ((List.map Iv.enc ws).getD i.toNat [])))∧(((Zq l)=(LensM.mk l.name l.back (Zn3 l)).enc)∧((List.map Glass.enc g=List.map Glass.enc (Zf Glass.dec (List.map Glass.enc g)))∧(((Zf Glass.dec (List.map Glass.enc g)).length≤(140737488355328:Nat)∧(Zn3 l).length≤(140737488355328:Nat))∧(bif (ZbJ i g ws l).snd !=(0:Int) then Q (Ex.ret) (some ⟨37,[(6,AV.p (.nil)),(7,AV.p (vI (ZbJ i g ws l).snd))],[],[],[],[]⟩) else (([PV.lst (List.map Surf.enc (ZbJ i g ws l).fst.surfs),vI (ZbJ i g ws l).fst.op.lo,vI (ZbJ i g ws l).fst.op.hi,vB (ZbJ i g ws l).fst.op.no]=(Zn4 i g ws l).enc)∧(((Zf Surf.dec (List.map Surf.enc (ZbJ i g ws l).fst.surfs)).length≤(1000:Nat))∧(((0:Nat) < (1:Nat)∧((List.map Iv.enc out).length+(1:Nat))* (24:Nat)≤(140737488355328:Nat)∧Lens (3:Nat) (List.map Iv.enc out++[(eIv (parax (Zn4 i g ws l)).bfl)]))∧Q (Ex.normal) (some ⟨37,[(15,AV.p (vI (IntKind.i64.wrap (i+(1:Int))))),(8,AV.p (PV.lst (List.map Iv.enc out++[(eIv (parax (Zn4 i g ws l)).bfl)]))),(1,AV.p (PV.lst (List.map Glass.enc g))),(3,AV.ptr 3 0),(13,AV.p (PV.lst (List.map Iv.enc ws))),(14,pI m)],[(3,(Zq l))],[],[(Loc.t (nat_lit 8),nat_lit 48)],[]⟩))))))))) else Q (Ex.exit (0:Nat)) (some ⟨37,[(8,AV.p (PV.lst (List.map Iv.enc out)))],[],[],[],[]⟩))) (fun _=>by kernel_rfl) ?_
  delta ZbJ Zn4 Zn3 eIv Zq vI vB pI
  refine Za (fun h0=>⟨?r6,⟨?r5,⟨?r4,⟨?r3,Za (fun h1=>?_) (fun h1=>⟨?r2,⟨?r1,⟨?r0, ?_⟩⟩⟩)⟩⟩⟩⟩) (fun h0=>?_)
  case r0|r1|r2|r3|r4|r5|r6=>(try simp only[show (⟨l.name,l.back,l.faces⟩:LensM)=l from rfl,dIv,Zm,Z4,Yi,XG]);first | rfl | omega | (simp only[LensM.enc,Z4];done) | (exact ⟨by omega,by omega⟩) | (obtain ⟨a1,a2,a3,a4,a5,a6,a7⟩:=hx;subst a3;(try simp only[Qk_,Qc_] at h0);first | exact Zp (fun _=>rfl) (by omega) (by omega) | (obtain ⟨x,t,e1,e2,e3⟩:=ZM (l:=ws) a1 (by omega);simp only[ZV e3];first | rfl | (exact QT_ (ZcF _ _ _) (by decide)) | (exact ⟨by decide,by simp only[Qk_];omega,Yu (Yg (e:=Iv.enc) (fun _=>rfl) _) rfl⟩))) | (exact QT_ (ZcF _ _ _) (by decide)) | skip
  all_goals (obtain ⟨a1,a2,a3,a4,a5,a6,a7⟩:=hx)
  all_goals subst a3
  all_goals (try simp only[Qk_,Qc_,Qe_] at h0)
  all_goals first
   | (exact .inr ⟨by simp,_,rfl,.inr ⟨by unfold U6 JC;(try dsimp only);rw[List.drop_eq_nil_of_le (by omega)];rfl,by trivial,by unfold U6 Zec;(try dsimp only);(rw[List.drop_eq_nil_of_le (by omega),List.map_nil,List.append_nil])<;>rfl⟩⟩)
   | (obtain ⟨x,t,e1,e2,e3⟩:=ZM (l:=ws) a1 (by omega)
      have hw:IntKind.i64.wrap (i+1)=i+1:=Ze (by constructor<;>omega)
      have eI:Iv.dec x.enc=x:=rfl
      have eL:(⟨l.name,l.back,l.faces⟩:LensM)=l:=rfl
      simp only[ZV e3,dIv,Zm,Z4,eI,eL,XG,Yi] at *
      first
       | (have hs:(((ZX l g x).2 !=0)=true):=h1
          have hn:=ZrQ (fun w=>ZX l g w) x t hs
          refine .inr ⟨by simp,_,rfl,.inl ⟨?_,by trivial, ?_⟩⟩
          ·unfold U6 JC;(try dsimp only);rw[e1,hn];rfl
          ·unfold U6 Zed;(try dsimp only);rw[e1,Zdp,hs];rfl)
       | (have hs:(((ZX l g x).2 !=0)=false):=h1
          have ht:XE (fun w=>ZX l g w) (x::t)=XE (fun w=>ZX l g w) t:=(by rw[Zdp,hs];rfl)
          refine .inl ⟨by trivial,(IntKind.i64.wrap (i+1),out++[Zdo (fun w=>ZX l g w) x],g,ws,(ws.length:Int),l), ?_, ?_, ?_, ?_⟩
          ·simp only[U6,Zmj,QR_,QE_,QN_];rfl
          ·simp only[U6,Zcm,hw,Qx_,Qs_,Q1_];exact ⟨by omega,by omega,by trivial,a4,a5,a6,by omega⟩
          ·(try simp only[hw]);omega
          ·intro e s' h
           unfold U6 JC Zed at h ⊢
           (try dsimp only at h ⊢)
           rw[e1,ht,←e2]
           first | (rw[hw] at h) | skip
           refine h.imp (fun h=>h) (fun h=>⟨h.1,h.2.1,h.2.2.trans ?_⟩)
           delta Zec;(try dsimp only);(try rw[hw]);rw[e1,e2];simp only[List.map_cons,List.append_assoc,List.cons_append,List.nil_append]))
theorem ZwQ:ZN Tryz.prog [(4,Zml)] Tryz.f19:=ZI (l:=[Z6 Tryz.f19 0]) (by kernel_rfl) (ZR (i:=4) (by kernel_rfl) rfl Zu9 (Z0))
def Zn5(l:LensM):=LensM.mk l.name l.back (Zf Face.dec (List.map Face.enc l.faces))
def ZhV(g:List Glass):=Zf Glass.dec (List.map Glass.enc g)
def ZhW(ws:List Iv):=Zf Iv.dec (List.map Iv.enc ws)
set_option maxHeartbeats 4000000 in
theorem ZuA:Zj Tryz.prog 19 e19:=Zk<|Zi fun l=>Zi fun g=>Zi fun ws=>EZ1 fun hp0=>by
 refine cfL Zqj ZwQ rfl ?_
 refine sxT (fun Q=>(([]=List.map Iv.enc (Zf Iv.dec []))∧((List.map Glass.enc g=List.map Glass.enc (ZhV g))∧((List.map Iv.enc ws=List.map Iv.enc (ZhW ws))∧(((Zq l)=(Zn5 l).enc)∧((Zcm (0:Int) (Zf Iv.dec []) (ZhV g) (ZhW ws) (↑(List.map Iv.enc ws).length) (Zn5 l))∧(bif JC (0:Int) (Zf Iv.dec []) (ZhV g) (ZhW ws) (↑(List.map Iv.enc ws).length) (Zn5 l) then Q (PV.tup [.nil,vI (XE (fun w=>ZX (LensM.dec (Zq l)) (ZhV g) w) (List.drop (0:Nat) (ZhW ws)))]) else Q (PV.tup [PV.lst (List.map Iv.enc (Zf Iv.dec []++List.map (Zdo fun w=>ZX (LensM.dec (Zq l)) (ZhV g) w) (List.drop (0:Nat) (ZhW ws)))),vI 0])))))))) (fun _=>by kernel_rfl) ?_
 delta Qn Zn5 ZhV ZhW Zq vI vB
 refine ⟨?r3,⟨?r2,⟨?r1,⟨?r0,⟨?_,Za (fun h0=>?_) (fun h0=>?_)⟩⟩⟩⟩⟩
 case r0|r1|r2|r3=>(try simp only[show (⟨l.name,l.back,l.faces⟩:LensM)=l from rfl,dIv,Zm,Z4,Yi,XG]);first | rfl | omega | (simp only[LensM.enc,Z4];done) | (exact ⟨by omega,by omega⟩) | (obtain ⟨a1,a2,a3,a4,a5,a6,a7⟩:=hx;subst a3;(try simp only[Qk_,Qc_] at h0);first | exact Zp (fun _=>rfl) (by omega) (by omega) | (obtain ⟨x,t,e1,e2,e3⟩:=ZM (l:=ws) a1 (by omega);simp only[ZV e3];first | rfl | (exact QT_ (ZcF _ _ _) (by decide)) | (exact ⟨by decide,by simp only[Qk_];omega,Yu (Yg (e:=Iv.enc) (fun _=>rfl) _) rfl⟩))) | (exact QT_ (ZcF _ _ _) (by decide)) | skip
 all_goals (try simp only[dIv,Zm,Z4,Yi,Qk_,QG_,QO_,QJ_,show Zf Iv.dec []=[] from rfl,show (⟨l.name,l.back,l.faces⟩:LensM)=l from rfl,XG] at *)
 all_goals have eD:LensM.dec [PV.str l.name,PV.v (Value.int IntKind.i64 l.back.c),PV.v (Value.int IntKind.i64 l.back.scale),PV.lst (List.map Face.enc l.faces)]=l:=(by show (⟨l.name,l.back,Zf Face.dec (l.faces.map Face.enc)⟩:LensM)=l;rw[Z4])
 all_goals (try simp only[eD])
 ·exact ⟨by omega,by omega,rfl,hp0.2.2,hp0.1,hp0.2.1,rfl⟩
 ·have h1:(XE (fun w=>ZX l g w) ws==0)=false:=(by have h2:(!(XE (fun w=>ZX l g w) ws==0))=true:=h0;simpa using h2)
  simp only[YJ,J4,h1,Qd_];rfl
 ·have h1:(XE (fun w=>ZX l g w) ws==0)=true:=(by have h2:(!(XE (fun w=>ZX l g w) ws==0))=false:=h0;simpa using h2)
  simp only[YJ,J4,h1,Qb_];rfl
def ZyL:=YN [(41,e41),(56,e56)]
set_option maxHeartbeats 4000000 in
def ZuB(l:LensM):=LensM.mk l.name l.back (Zf Face.dec (List.map Face.enc l.faces))
def ZbK(i:Int)(ws:List Iv)(g:List Glass)(l:LensM):=Yb (ZuB l) (Zf Glass.dec (List.map Glass.enc g)) (Iv.dec ((List.map Iv.enc ws).getD i.toNat []))
def Zn6(i:Int)(ws:List Iv)(g:List Glass)(l:LensM):=SysM.mk (Zf Surf.dec (List.map Surf.enc (ZbK i ws g l).fst.surfs)) (ZbK i ws g l).fst.op
theorem Zmw:CSOk Tryz.prog ZyL:=Zb Z2n<|Zb Z22<|Zh
set_option maxHeartbeats 4000000 in
theorem Zrj:Yo Tryz.prog (Z6 Tryz.f20 0) Zkj:=by
 refine lsG Zo.Γ (ZD Zo Zmw ZJ ZK ZQ (LS:=[]) (Yh (l:=[]) (by kernel_rfl) Z0) (n:=2000) (U5 Zkh) (U5 Zbe) (fun x e s=>((U5 WV x=true∧e= .ret∧s=U5 ZcJ x)∨(U5 WV x=false∧e= .exit 0∧s=U5 ZcI x))) (fun x=>(x.2.2.1.length - x.1).toNat) Zki ZqU ZqV (fun x hx=>?_)) cv5 (fun _=>rfl) (fun _ h=>h) (fun _ _ _ _ h f=>fC h f fE fE)
 ·obtain ⟨i,out,ws,g,l⟩:=x
  simp only[U5,Zbe] at hx
  refine sxT (fun Q=>(bif decide (i < ↑(List.map Iv.enc ws).length) then (((0:Int)≤i∧(List.map Iv.enc ws)[i.toNat]?=some (Yt [vI 0,vI 0,vB false] ((List.map Iv.enc ws).getD i.toNat [])))∧(((Zq l)=(ZuB l).enc)∧((List.map Glass.enc g=List.map Glass.enc (Zf Glass.dec (List.map Glass.enc g)))∧(((Zf Glass.dec (List.map Glass.enc g)).length≤(140737488355328:Nat))∧(bif (ZbK i ws g l).snd !=(0:Int) then Q (Ex.ret) (some ⟨38,[(6,AV.p (.nil)),(7,AV.p (vI (ZbK i ws g l).snd))],[],[],[],[]⟩) else (([PV.lst (List.map Surf.enc (ZbK i ws g l).fst.surfs),vI (ZbK i ws g l).fst.op.lo,vI (ZbK i ws g l).fst.op.hi,vB (ZbK i ws g l).fst.op.no]=(Zn6 i ws g l).enc)∧(((Zf Surf.dec (List.map Surf.enc (ZbK i ws g l).fst.surfs)).length≤(1000:Nat))∧(((0:Nat) < (1:Nat)∧((List.map Iv.enc out).length+(1:Nat))* (24:Nat)≤(140737488355328:Nat)∧Lens (3:Nat) (List.map Iv.enc out++[(eIv (parax (Zn6 i ws g l)).bfl)]))∧Q (Ex.normal) (some ⟨38,[(9,AV.p (vI (IntKind.i64.wrap (i+(1:Int))))),(8,AV.p (PV.lst (List.map Iv.enc out++[(eIv (parax (Zn6 i ws g l)).bfl)]))),(2,AV.p (PV.lst (List.map Iv.enc ws))),(1,AV.p (PV.lst (List.map Glass.enc g))),(3,AV.ptr 3 0)],[(3,(Zq l))],[],[(Loc.t (nat_lit 8),nat_lit 48)],[]⟩))))))))) else Q (Ex.exit (0:Nat)) (some ⟨38,[(8,AV.p (PV.lst (List.map Iv.enc out)))],[],[],[],[]⟩))) (fun _=>by kernel_rfl) ?_
  delta ZbK Zn6 ZuB eIv Zq vI vB
  refine Za (fun h0=>⟨?r6,⟨?r5,⟨?r4,⟨?r3,Za (fun h1=>?_) (fun h1=>⟨?r2,⟨?r1,⟨?r0, ?_⟩⟩⟩)⟩⟩⟩⟩) (fun h0=>?_)
  case r0|r1|r2|r3|r4|r5|r6=>(try simp only[show (⟨l.name,l.back,l.faces⟩:LensM)=l from rfl,dIv,Zm,Z4,Yi,XG]);first | rfl | omega | (simp only[LensM.enc,Z4];done) | (exact ⟨by omega,by omega⟩) | (obtain ⟨a1,a2,a4,a5,a6,a7⟩:=hx;(try simp only[Qk_,Qc_] at h0);first | exact Zp (fun _=>rfl) (by omega) (by omega) | (obtain ⟨x,t,e1,e2,e3⟩:=ZM (l:=ws) a1 (by omega);simp only[ZV e3];first | rfl | (exact QT_ (ZcD _ _ _) (by decide)) | (exact ⟨by decide,by simp only[Qk_];omega,Yu (Yg (e:=Iv.enc) (fun _=>rfl) _) rfl⟩))) | (exact QT_ (ZcD _ _ _) (by decide)) | skip
  all_goals (obtain ⟨a1,a2,a4,a5,a6,a7⟩:=hx)
  all_goals (try simp only[Qk_,Qc_,Qe_] at h0)
  all_goals first
   | (exact .inr ⟨by simp,_,rfl,.inr ⟨by unfold U5 WV;(try dsimp only);rw[List.drop_eq_nil_of_le (by omega)];rfl,by trivial,by unfold U5 ZcI;(try dsimp only);(rw[List.drop_eq_nil_of_le (by omega),List.map_nil,List.append_nil])<;>rfl⟩⟩)
   | (obtain ⟨x,t,e1,e2,e3⟩:=ZM (l:=ws) a1 (by omega)
      have hw:IntKind.i64.wrap (i+1)=i+1:=Ze (by constructor<;>omega)
      have eI:Iv.dec x.enc=x:=rfl
      have eL:(⟨l.name,l.back,l.faces⟩:LensM)=l:=rfl
      simp only[ZV e3,dIv,Zm,Z4,eI,eL,XG,Yi] at *
      first
       | (have hs:(((Yb l g x).2 !=0)=true):=h1
          have hn:=ZrQ (fun w=>Yb l g w) x t hs
          refine .inr ⟨by simp,_,rfl,.inl ⟨?_,by trivial, ?_⟩⟩
          ·unfold U5 WV;(try dsimp only);rw[e1,hn];rfl
          ·unfold U5 ZcJ;(try dsimp only);rw[e1,Zdp,hs];rfl)
       | (have hs:(((Yb l g x).2 !=0)=false):=h1
          have ht:XE (fun w=>Yb l g w) (x::t)=XE (fun w=>Yb l g w) t:=(by rw[Zdp,hs];rfl)
          refine .inl ⟨by trivial,(IntKind.i64.wrap (i+1),out++[Zdo (fun w=>Yb l g w) x],ws,g,l), ?_, ?_, ?_, ?_⟩
          ·simp only[U5,Zkh,QR_,QE_,QN_];rfl
          ·simp only[U5,Zbe,hw,Qx_,Qs_,Q1_];exact ⟨by omega,by omega,a4,a5,a6,by omega⟩
          ·(try simp only[hw]);omega
          ·intro e s' h
           unfold U5 WV ZcJ at h ⊢
           (try dsimp only at h ⊢)
           rw[e1,ht,←e2]
           first | (rw[hw] at h) | skip
           refine h.imp (fun h=>h) (fun h=>⟨h.1,h.2.1,h.2.2.trans ?_⟩)
           delta ZcI;(try dsimp only);(try rw[hw]);rw[e1,e2];simp only[List.map_cons,List.append_assoc,List.cons_append,List.nil_append]))
theorem ZuC:ZN Tryz.prog [(4,Zkj)] Tryz.f20:=ZI (l:=[Z6 Tryz.f20 0]) (by kernel_rfl) (ZR (i:=4) (by kernel_rfl) rfl Zrj (Z0))
def ZkE(l:LensM):=LensM.mk l.name l.back (Zf Face.dec (List.map Face.enc l.faces))
def ZeP(g:List Glass):=Zf Glass.dec (List.map Glass.enc g)
def ZeQ(ws:List Iv):=Zf Iv.dec (List.map Iv.enc ws)
set_option maxHeartbeats 4000000 in
theorem Zzs:Zj Tryz.prog 20 e20:=Zk<|Zi fun l=>Zi fun g=>Zi fun ws=>EZ1 fun hp0=>by
 refine cfL Zmw ZuC rfl ?_
 refine sxT (fun Q=>(([]=List.map Iv.enc (Zf Iv.dec []))∧((List.map Iv.enc ws=List.map Iv.enc (ZeQ ws))∧((List.map Glass.enc g=List.map Glass.enc (ZeP g))∧(((Zq l)=(ZkE l).enc)∧((Zbe (0:Int) (Zf Iv.dec []) (ZeQ ws) (ZeP g) (ZkE l))∧(bif WV (0:Int) (Zf Iv.dec []) (ZeQ ws) (ZeP g) (ZkE l) then Q (PV.tup [.nil,vI (XE (fun w=>Yb (LensM.dec (Zq l)) (ZeP g) w) (List.drop (0:Nat) (ZeQ ws)))]) else Q (PV.tup [PV.lst (List.map Iv.enc (Zf Iv.dec []++List.map (Zdo fun w=>Yb (LensM.dec (Zq l)) (ZeP g) w) (List.drop (0:Nat) (ZeQ ws)))),vI 0])))))))) (fun _=>by kernel_rfl) ?_
 delta Qn ZkE ZeP ZeQ Zq vI vB
 refine ⟨?r3,⟨?r2,⟨?r1,⟨?r0,⟨?_,Za (fun h0=>?_) (fun h0=>?_)⟩⟩⟩⟩⟩
 case r0|r1|r2|r3=>(try simp only[show (⟨l.name,l.back,l.faces⟩:LensM)=l from rfl,dIv,Zm,Z4,Yi,XG]);first | rfl | omega | (simp only[LensM.enc,Z4];done) | (exact ⟨by omega,by omega⟩) | (obtain ⟨a1,a2,a4,a5,a6,a7⟩:=hx;(try simp only[Qk_,Qc_] at h0);first | exact Zp (fun _=>rfl) (by omega) (by omega) | (obtain ⟨x,t,e1,e2,e3⟩:=ZM (l:=ws) a1 (by omega);simp only[ZV e3];first | rfl | (exact QT_ (ZcD _ _ _) (by decide)) | (exact ⟨by decide,by simp only[Qk_];omega,Yu (Yg (e:=Iv.enc) (fun _=>rfl) _) rfl⟩))) | (exact QT_ (ZcD _ _ _) (by decide)) | skip
 all_goals (try simp only[dIv,Zm,Z4,Yi,Qk_,QG_,QO_,QJ_,show Zf Iv.dec []=[] from rfl,show (⟨l.name,l.back,l.faces⟩:LensM)=l from rfl,XG] at *)
 all_goals have eD:LensM.dec [PV.str l.name,PV.v (Value.int IntKind.i64 l.back.c),PV.v (Value.int IntKind.i64 l.back.scale),PV.lst (List.map Face.enc l.faces)]=l:=(by show (⟨l.name,l.back,Zf Face.dec (l.faces.map Face.enc)⟩:LensM)=l;rw[Z4])
 all_goals (try simp only[eD])
 ·exact ⟨by omega,by omega,hp0.2.2,hp0.1,hp0.2.1,rfl⟩
 ·have h1:(XE (fun w=>Yb l g w) ws==0)=false:=(by have h2:(!(XE (fun w=>Yb l g w) ws==0))=true:=h0;simpa using h2)
  simp only[YK,J4,h1,Qd_];rfl
 ·have h1:(XE (fun w=>Yb l g w) ws==0)=true:=(by have h2:(!(XE (fun w=>Yb l g w) ws==0))=false:=h0;simpa using h2)
  simp only[YK,J4,h1,Qb_];rfl
def ZkF(l:LensM):=Zf Face.dec (List.map Face.enc l.faces)
def ZkG:=[[vI 31857,vI 31858,vB false],[vI 43011,vI 43012,vB false]]
def ZkH(l:LensM)(g:List Glass):=YJ (LensM.mk l.name l.back (ZkF l)) (Zf Glass.dec (List.map Glass.enc g)) (Zf Iv.dec ZkG)
def Zd9(l:LensM)(g:List Glass):=List.map Iv.enc (ZkH l g).fst
set_option maxHeartbeats 4000000 in
theorem Z23:Zj Tryz.prog 21 e21:=Zk<|Zi fun l=>Zi fun g=>EZ1 fun hp0=>by
 refine cf0 (Zb Zzq<|Zb ZuA<|Zb Ztu<|Zh) (fn:=Tryz.f21) rfl ?_
 refine sxT (fun Q=>(((Zq l)=(LensM.mk l.name l.back (ZkF l)).enc)∧((List.map Glass.enc g=List.map Glass.enc (Zf Glass.dec (List.map Glass.enc g)))∧((ZkG=List.map Iv.enc (Zf Iv.dec ZkG))∧(((Zf Glass.dec (List.map Glass.enc g)).length≤(140737488355328:Nat)∧(ZkF l).length≤(140737488355328:Nat)∧(2:Nat)≤(1000000:Nat))∧(bif (ZkH l g).snd !=(0:Int) then Q (PV.tup [PV.agg [vI 0,vI 0,vB false],vI (ZkH l g).snd]) else (((0:Int)≤(0:Int)∧(Zd9 l g)[(0:Nat)]?=some (Yt [vI 0,vI 0,vB false] ((Zd9 l g).getD (0:Nat) [])))∧(((0:Int)≤(1:Int)∧(Zd9 l g)[(1:Nat)]?=some (Yt [vI 0,vI 0,vB false] ((Zd9 l g).getD (1:Nat) [])))∧Q (PV.tup [PV.agg (eIv (sub (Iv.dec ((Zd9 l g).getD (0:Nat) [])) (Iv.dec ((Zd9 l g).getD (1:Nat) [])))),vI 0]))))))))) (fun _=>by kernel_rfl) ?_
 delta Qn ZkH ZkG Zd9 ZkF eIv Zq vI vB
 refine ⟨?r5,⟨?r4,⟨?r3,⟨?r2,Za (fun h0=>?_) (fun h0=>⟨?r1,⟨?r0, ?_⟩⟩)⟩⟩⟩⟩
 case r0|r1|r2|r3|r4|r5=>have eW:Zf Iv.dec [[PV.v (Value.int IntKind.i64 31857),PV.v (Value.int IntKind.i64 31858),PV.v (Value.bool false)],[PV.v (Value.int IntKind.i64 43011),PV.v (Value.int IntKind.i64 43012),PV.v (Value.bool false)]]=[Zy 1,Zy 2]:=(by decide+kernel);(try simp only[show (⟨l.name,l.back,l.faces⟩:LensM)=l from rfl,Zm,Z4,eW] at *);first | rfl | (simp only[LensM.enc,Z4];done) | (exact ⟨hp0.1,hp0.2,by decide⟩) | (have hz:((YJ l g [Zy 1,Zy 2]).2==0)=true:=(by have h1:(!((YJ l g [Zy 1,Zy 2]).2==0))=false:=h0;simpa using h1);have hr:=ZhI (fun w=>ZX l g w) (Zy 1) (Zy 2) hz;have hl:(YJ l g [Zy 1,Zy 2]).1.length=2:=(by unfold YJ;rw[hr];rfl);first | (exact Zp (i:=0) (fun _=>rfl) (by omega) (by omega)) | (exact Zp (i:=1) (fun _=>rfl) (by omega) (by omega))) | skip
 all_goals have eW:Zf Iv.dec [[PV.v (Value.int IntKind.i64 31857),PV.v (Value.int IntKind.i64 31858),PV.v (Value.bool false)],[PV.v (Value.int IntKind.i64 43011),PV.v (Value.int IntKind.i64 43012),PV.v (Value.bool false)]]=[Zy 1,Zy 2]:=(by decide+kernel)
 all_goals (try simp only[show (⟨l.name,l.back,l.faces⟩:LensM)=l from rfl,Zm,Z4,eW] at *)
 ·have h1:((YJ l g [Zy 1,Zy 2]).2==0)=false:=(by have h2:(!((YJ l g [Zy 1,Zy 2]).2==0))=true:=h0;simpa using h2)
  unfold Jl Zls;rw[show (J4 (fun w=>ZX l g w) [Zy 1,Zy 2])=YJ l g [Zy 1,Zy 2] from rfl,h1];rfl
 ·have hz:((YJ l g [Zy 1,Zy 2]).2==0)=true:=(by have h1:(!((YJ l g [Zy 1,Zy 2]).2==0))=false:=h0;simpa using h1)
  have hr:YJ l g [Zy 1,Zy 2]=_:=ZhI (fun w=>ZX l g w) (Zy 1) (Zy 2) hz
  unfold Jl Zls;rw[show (J4 (fun w=>ZX l g w) [Zy 1,Zy 2])=YJ l g [Zy 1,Zy 2] from rfl,hz,hr];rfl
def ZkI(l:LensM):=Zf Face.dec (List.map Face.enc l.faces)
def ZkJ:=[[vI 31857,vI 31858,vB false],[vI 43011,vI 43012,vB false]]
def ZkK(l:LensM)(g:List Glass):=YK (LensM.mk l.name l.back (ZkI l)) (Zf Glass.dec (List.map Glass.enc g)) (Zf Iv.dec ZkJ)
def ZdA(l:LensM)(g:List Glass):=List.map Iv.enc (ZkK l g).fst
set_option maxHeartbeats 4000000 in
theorem Z24:Zj Tryz.prog 22 e22:=Zk<|Zi fun l=>Zi fun g=>EZ1 fun hp0=>by
 refine cf0 (Zb Z2j<|Zb Zzs<|Zb Ztv<|Zh) (fn:=Tryz.f22) rfl ?_
 refine sxT (fun Q=>(((Zq l)=(LensM.mk l.name l.back (ZkI l)).enc)∧((List.map Glass.enc g=List.map Glass.enc (Zf Glass.dec (List.map Glass.enc g)))∧((ZkJ=List.map Iv.enc (Zf Iv.dec ZkJ))∧(((Zf Glass.dec (List.map Glass.enc g)).length≤(140737488355328:Nat)∧(ZkI l).length≤(140737488355328:Nat)∧(2:Nat)≤(1000000:Nat))∧(bif (ZkK l g).snd !=(0:Int) then Q (PV.tup [PV.agg [vI 0,vI 0,vB false],vI (ZkK l g).snd]) else (((0:Int)≤(0:Int)∧(ZdA l g)[(0:Nat)]?=some (Yt [vI 0,vI 0,vB false] ((ZdA l g).getD (0:Nat) [])))∧(((0:Int)≤(1:Int)∧(ZdA l g)[(1:Nat)]?=some (Yt [vI 0,vI 0,vB false] ((ZdA l g).getD (1:Nat) [])))∧Q (PV.tup [PV.agg (eIv (sub (Iv.dec ((ZdA l g).getD (0:Nat) [])) (Iv.dec ((ZdA l g).getD (1:Nat) [])))),vI 0]))))))))) (fun _=>by kernel_rfl) ?_
 delta Qn ZkK ZkJ ZdA ZkI eIv Zq vI vB
 refine ⟨?r5,⟨?r4,⟨?r3,⟨?r2,Za (fun h0=>?_) (fun h0=>⟨?r1,⟨?r0, ?_⟩⟩)⟩⟩⟩⟩
 case r0|r1|r2|r3|r4|r5=>have eW:Zf Iv.dec [[PV.v (Value.int IntKind.i64 31857),PV.v (Value.int IntKind.i64 31858),PV.v (Value.bool false)],[PV.v (Value.int IntKind.i64 43011),PV.v (Value.int IntKind.i64 43012),PV.v (Value.bool false)]]=[Zy 1,Zy 2]:=(by decide+kernel);(try simp only[show (⟨l.name,l.back,l.faces⟩:LensM)=l from rfl,Zm,Z4,eW] at *);first | rfl | (simp only[LensM.enc,Z4];done) | (exact ⟨hp0.1,hp0.2,by decide⟩) | (have hz:((YK l g [Zy 1,Zy 2]).2==0)=true:=(by have h1:(!((YK l g [Zy 1,Zy 2]).2==0))=false:=h0;simpa using h1);have hr:=ZhI (fun w=>Yb l g w) (Zy 1) (Zy 2) hz;have hl:(YK l g [Zy 1,Zy 2]).1.length=2:=(by unfold YK;rw[hr];rfl);first | (exact Zp (i:=0) (fun _=>rfl) (by omega) (by omega)) | (exact Zp (i:=1) (fun _=>rfl) (by omega) (by omega))) | skip
 all_goals have eW:Zf Iv.dec [[PV.v (Value.int IntKind.i64 31857),PV.v (Value.int IntKind.i64 31858),PV.v (Value.bool false)],[PV.v (Value.int IntKind.i64 43011),PV.v (Value.int IntKind.i64 43012),PV.v (Value.bool false)]]=[Zy 1,Zy 2]:=(by decide+kernel)
 all_goals (try simp only[show (⟨l.name,l.back,l.faces⟩:LensM)=l from rfl,Zm,Z4,eW] at *)
 ·have h1:((YK l g [Zy 1,Zy 2]).2==0)=false:=(by have h2:(!((YK l g [Zy 1,Zy 2]).2==0))=true:=h0;simpa using h2)
  unfold W4 Zls;rw[show (J4 (fun w=>Yb l g w) [Zy 1,Zy 2])=YK l g [Zy 1,Zy 2] from rfl,h1];rfl
 ·have hz:((YK l g [Zy 1,Zy 2]).2==0)=true:=(by have h1:(!((YK l g [Zy 1,Zy 2]).2==0))=false:=h0;simpa using h1)
  have hr:YK l g [Zy 1,Zy 2]=_:=ZhI (fun w=>Yb l g w) (Zy 1) (Zy 2) hz
  unfold W4 Zls;rw[show (J4 (fun w=>Yb l g w) [Zy 1,Zy 2])=YK l g [Zy 1,Zy 2] from rfl,hz,hr];rfl
def Zn7:=Zf Glass.dec (List.map Glass.enc (ZT (Zf I.dec [])))
def q25_1:=YP (0:Int) (Zf RawFace.dec []) Zn7 (4:Int)
def q25_3:=LensM.mk q25_1.name (Dec.mk (20:Int) (0:Int)) (Zf Face.dec (List.map Face.enc q25_1.faces))
def Zn8:=List.map Glass.enc (ZT (Zf I.dec []))=List.map Glass.enc Zn7
def Zn9:=[[vI 38508,vI 38509,vB false]]
def q25_5:=List.map Iv.enc (YJ q25_3 Zn7 (Zf Iv.dec Zn9)).fst
def ZuD:=[PV.str q25_1.name,vI 20,vI 0,PV.lst (List.map Face.enc q25_1.faces)]
theorem Z25:Zj Tryz.prog 23 e23:=Zk<|EZ0<|by
 refine cf0 (Zb Zzj<|Zb Zzk<|Zb ZuA<|Zb Zzq<|Zb Zee<|Zh) (fn:=Tryz.f23) rfl ?_
 refine sxT (fun Q=>(([]=List.map I.enc (Zf I.dec []))∧(((0:Nat)≤(140737488355328:Nat))∧(([]=List.map RawFace.enc (Zf RawFace.dec []))∧(Zn8∧(((0:Nat)≤(140737488355328:Nat)∧(2:Nat)≤(1000:Nat)∧(4:Int)≤(1000:Int))∧((ZuD=q25_3.enc)∧(Zn8∧(([]=List.map Iv.enc (Zf Iv.dec []))∧(((2:Nat)≤(140737488355328:Nat)∧(1:Nat)≤(140737488355328:Nat)∧(0:Nat)≤(1000000:Nat))∧((ZuD=q25_3.enc)∧(Zn8∧((Zn9=List.map Iv.enc (Zf Iv.dec Zn9))∧(((2:Nat)≤(140737488355328:Nat)∧(1:Nat)≤(140737488355328:Nat)∧(1:Nat)≤(1000000:Nat))∧(((0:Int)≤(0:Int)∧q25_5[(0:Nat)]?=some (Yt [vI 0,vI 0,vB false] (q25_5.getD (0:Nat) [])))∧Q (vB true)))))))))))))))) (fun _=>by kernel_rfl) ?_
 delta Qn q25_1 Zn7 q25_3 Zn8 q25_5 ZuD Zn9 vI vB
 refine ⟨?r13,⟨?r12,⟨?r11,⟨?r10,⟨?r9,⟨?r8,⟨?r7,⟨?r6,⟨?r5,⟨?r4,⟨?r3,⟨?r2,⟨?r1,⟨?r0, ?_⟩⟩⟩⟩⟩⟩⟩⟩⟩⟩⟩⟩⟩⟩
 case r0|r1|r2|r3|r4|r5|r6|r7|r8|r9|r10|r11|r12|r13=>first | rfl | (exact ⟨rfl,rfl⟩) | (exact ⟨by decide,by decide⟩) | (exact ⟨by decide,by decide,by decide⟩) | (refine Zp (i:=0) (fun _=>rfl) (by omega) ?_;decide+kernel) | decide+kernel | skip
 all_goals first | (kernel_rfl;done) | skip
def Zrk:=YN [(10,e10),(16,e16),(12,e12),(17,e17),(18,e18),(19,e19),(20,e20),(21,e21),(22,e22),(23,e23)]
set_option maxHeartbeats 8000000 in
def ZuE(i:Int)(waves:List I):=(List.map I.enc waves).getD (IntKind.i64.wrap (i+(1:Int))).toNat []
def ZnA(i:Int)(waves:List I):=(0:Int)≤i∧(List.map I.enc waves)[i.toNat]?=some (Yt [vI 0] ((List.map I.enc waves).getD i.toNat []))
def Zhl(i:Int)(waves:List I):=Zd (((List.map I.enc waves).getD i.toNat []).headD PV.nil)
def Zqk(i:Int)(waves:List I):=(0:Int)≤IntKind.i64.wrap (i+(1:Int))∧(List.map I.enc waves)[(IntKind.i64.wrap (i+(1:Int))).toNat]?=some (Yt [vI 0] (ZuE i waves))
def ZeR(i:Int)(waves:List I):=Zd ((ZuE i waves).headD PV.nil)
def Zql(i:Int)(out:List Iv)(waves:List I):=List.map Iv.enc out++[(eIv (wide (IntKind.i64.wrap ((20000:Int)+pick (Zhl i waves) (40000:Int))) (pick (ZeR i waves) (300:Int))))]
def Zqm(out:List Iv)(g:List Glass)(xl:LensM):Option St:=some ⟨145,[(11,AV.p (PV.lst (List.map Glass.enc g))),(12,AV.ptr 12 0),(13,AV.p (PV.lst (List.map Iv.enc out)))],[(12,(Zq xl))],[],[],[]⟩
theorem ZdB:CSOk Tryz.prog Zrk:=Zb Zzj<|Zb Zzk<|Zb Zkp<|Zb Zzf<|Zb Z2g<|Zb ZuA<|Zb Zzs<|Zb Z23<|Zb Z24<|Zb Z25<|Zh
set_option maxHeartbeats 8000000 in
theorem Zl8:Yo Tryz.prog (Z6 Tryz.f4 0) ZfU:=by
 refine lsG Zo.Γ (ZD Zo ZdB ZJ ZK ZQ (LS:=[]) (Yh (l:=[]) (by kernel_rfl) Z0) (n:=2000) (U5 ZfS) (U5 XK) (fun x e s=>(e= .exit 0∧s=U5 Zao x)) (fun x=>((11 - x.1) / 2).toNat) ZfT Zl0 Zl1 (fun x hx=>?_)) cv5 (fun _=>rfl) (fun _ h=>h) (fun _ _ _ _ h f=>fE h f)
 ·obtain ⟨i,out,waves,g,xl⟩:=x
  simp only[U5,XK] at hx
  refine sxT (fun Q=>(bif decide (IntKind.i64.wrap (i+(1:Int)) < ↑(List.map I.enc waves).length) then (bif decide (i < (10:Int)) then ((ZnA i waves)∧(((0:Int) < (40000:Int)∧(40000:Int)≤(4611686018427387904:Int))∧((Zqk i waves)∧(((0:Int) < (300:Int)∧(300:Int)≤(4611686018427387904:Int))∧(((0:Int)≤pick (ZeR i waves) (300:Int)∧pick (ZeR i waves) (300:Int)≤(1073741824:Int))∧((ZnA i waves)∧(((11:Int)≠(0:Int))∧(bif (Zhl i waves).tmod (11:Int)==(10:Int) then ((ZnA i waves)∧((Zqk i waves)∧(((0:Nat) < (1:Nat)∧((List.map Iv.enc out).length+(1:Nat))* (24:Nat)≤(140737488355328:Nat)∧Lens (3:Nat) (List.map Iv.enc out++[(eIv (ZeB (Zhl i waves) (ZeR i waves)))]))∧Q (Ex.normal) (some ⟨145,[(14,AV.p (vI (IntKind.i64.wrap (i+(2:Int))))),(13,AV.p (PV.lst (List.map Iv.enc out++[(eIv (ZeB (Zhl i waves) (ZeR i waves)))]))),(3,AV.p (PV.lst (List.map I.enc waves))),(11,AV.p (PV.lst (List.map Glass.enc g))),(12,AV.ptr 12 0)],[(12,(Zq xl))],[],[(Loc.t (nat_lit 13),nat_lit 48)],[]⟩)))) else (((0:Nat) < (1:Nat)∧((List.map Iv.enc out).length+(1:Nat))* (24:Nat)≤(140737488355328:Nat)∧Lens (3:Nat) (Zql i out waves))∧Q (Ex.normal) (some ⟨145,[(14,AV.p (vI (IntKind.i64.wrap (i+(2:Int))))),(13,AV.p (PV.lst (Zql i out waves))),(3,AV.p (PV.lst (List.map I.enc waves))),(11,AV.p (PV.lst (List.map Glass.enc g))),(12,AV.ptr 12 0)],[(12,(Zq xl))],[],[(Loc.t (nat_lit 13),nat_lit 48)],[]⟩)))))))))) else Q (Ex.exit (0:Nat)) (Zqm out g xl)) else Q (Ex.exit (0:Nat)) (Zqm out g xl))) (fun _=>by kernel_rfl) ?_
  delta ZuE ZnA Zhl Zqk Zql Zqm ZeR eIv Zq vI vB
  refine Za (fun h0=>Za (fun h1=>⟨?r10,⟨?r9,⟨?r8,⟨?r7,⟨?r6,⟨?r5,⟨?r4,Za (fun h2=>⟨?r2,⟨?r1,⟨?r0, ?_⟩⟩⟩) (fun h2=>⟨?r3, ?_⟩)⟩⟩⟩⟩⟩⟩⟩) (fun h1=>?_)) (fun h0=>?_)
  case r0|r1|r2|r3|r4|r5|r6|r7|r8|r9|r10=>(try simp only[←List.map_drop,dI,dIv,WP,Zm,Z4,Yi,ZfI,XG]);first | rfl | done | omega | (simp only[SysM.enc,LensM.enc,Yi,Z4];done) | (exact ⟨hp0.1,by omega,by decide⟩) | (simp only[K9_,show Zf Iv.dec []=[] from rfl,QJ_];first | exact ⟨by omega,by omega⟩ | exact ⟨by omega,by omega,QT_ (ZbH 5 waves 0) (by decide)⟩) | (exact ⟨by decide,by simp only[Qk_];omega,Yg (e:=Glass.enc) (fun _=>rfl) _⟩) | (obtain ⟨a1,a2,a3,a4⟩:=hx;have hw:IntKind.i64.wrap (i+1)=i+1:=Ze (by constructor<;>omega);(try simp only[hw,Qk_,Qc_] at *);first | exact Zp (fun _=>rfl) (by omega) (by omega) | (exact ⟨(YE (by decide)).1,Int.le_of_lt (Int.lt_of_lt_of_le (YE (by decide)).2 (by decide))⟩) | (exact ⟨by decide,by simp only[Qk_];omega,Yu (Yg (e:=Iv.enc) (fun _=>rfl) _) rfl⟩) | (exact ⟨by decide,by omega,Yu (Yg (e:=Iv.enc) (fun _=>rfl) _) rfl⟩)) | (obtain ⟨a1,a2,a3,a4,a5⟩:=hx;subst a5;simp only[Qc_] at h0;exact Zp (fun _=>rfl) (by omega) (by omega)) | skip
  all_goals (obtain ⟨a1,a2,a3,a4⟩:=hx)
  all_goals have hw:IntKind.i64.wrap (i+1)=i+1:=Ze (by constructor<;>omega)
  all_goals have hw2:IntKind.i64.wrap (i+2)=i+2:=Ze (by constructor<;>omega)
  all_goals simp only[Z0G,hw,hw2,Qk_] at *
  all_goals first
   | (have h0':i+1 < (waves.length:Int):=Qy_ h0
      have h1':i < 10:=Qy_ h1
      have eb:Jg ((11 - i) / 2).toNat waves i=ZjV (waves.getD i.toNat ⟨0⟩).n (waves.getD (i+1).toNat ⟨0⟩).n::Jg ((11 - (i+2)) / 2).toNat waves (i+2):=(by rw[show ((11 - i) / 2).toNat=((11 - (i+2)) / 2).toNat+1 by omega,Zdq,h0,h1];rfl)
      have eW:ZjV (waves.getD i.toNat ⟨0⟩).n (waves.getD (i+1).toNat ⟨0⟩).n=bif (waves.getD i.toNat ⟨0⟩).n.tmod 11==10 then ZeB (waves.getD i.toNat ⟨0⟩).n (waves.getD (i+1).toNat ⟨0⟩).n else wide (IntKind.i64.wrap (20000+pick (waves.getD i.toNat ⟨0⟩).n 40000)) (pick (waves.getD (i+1).toNat ⟨0⟩).n 300):=rfl
      rw[h2] at eW
      simp only[Qb_,Qd_] at eW
      refine .inl ⟨by trivial,(i+2,out++[ZjV (waves.getD i.toNat ⟨0⟩).n (waves.getD (i+1).toNat ⟨0⟩).n],waves,g,xl), ?_, ?_, ?_, ?_⟩
      ·rw[eW];simp only[U5,ZfS,QR_,QE_,QN_];rfl
      ·simp only[U5,XK,Qx_,Qs_,Q1_];exact ⟨by omega,by omega,a3,by omega⟩
      ·(show ((11 - (i+2)) / 2).toNat < ((11 - i) / 2).toNat);omega
      ·intro e s' h;refine ⟨h.1,h.2.trans ?_⟩;unfold U5 Zao;(try dsimp only);rw[eb];simp only[List.append_assoc,List.cons_append,List.nil_append])
   | (have eb:Jg ((11 - i) / 2).toNat waves i=[]:=(by
       by_cases hi:i+1 < (waves.length:Int)∧i < 10
       ·exfalso;(try simp only[Qc_,Qe_] at h0);(try simp only[Qc_,Qe_] at h1);omega
       ·cases hk:((11 - i) / 2).toNat with
        | zero=>rfl
        | succ k=>rw[Zdq,show (decide (i+1 < (waves.length:Int))&&decide (i < 10))=false by (rw[Bool.and_eq_false_iff,Qe_,Qe_];omega)];rfl)
      exact .inr ⟨by simp,_,rfl,by trivial,by unfold U5 Zao;(try dsimp only);(rw[eb,List.append_nil])<;>rfl⟩)
set_option maxHeartbeats 8000000 in
def Zhm(i:Int)(a:List Iv):=(List.map Iv.enc a).getD i.toNat []
def Zhn(i:Int)(b:List Iv):=(List.map Iv.enc b).getD i.toNat []
set_option maxHeartbeats 8000000 in
theorem ZkL:Yo Tryz.prog (Z6 Tryz.f4 1) ZeI:=by
 refine lsG Zo.Γ (ZD Zo ZdB ZJ ZK ZQ (LS:=[]) (Yh (l:=[]) (by kernel_rfl) Z0) (n:=2000) (U4 Zl2) (U4 X9) (fun x e s=>(e= .exit 2∧s=U4 ZeH x)) (fun x=>(x.2.2.2 - x.1).toNat) ZeG Zkk Zkl (fun x hx=>?_)) cv4 (fun _=>rfl) (fun _ h=>h) (fun _ _ _ _ h f=>fE h f)
 ·obtain ⟨i,b,a,m⟩:=x
  simp only[U4,X9] at hx
  refine sxT (fun Q=>(bif decide (i < m) then (((0:Int)≤i∧(List.map Iv.enc a)[i.toNat]?=some (Yt [vI 0,vI 0,vB false] (Zhm i a)))∧(((0:Int)≤i∧(List.map Iv.enc b)[i.toNat]?=some (Yt [vI 0,vI 0,vB false] (Zhn i b)))∧(bif !(Zd ((Zhm i a).headD PV.nil)==Zd ((Zhn i b).headD PV.nil)&&(Zd ((Zhm i a).tail.headD PV.nil)==Zd ((Zhn i b).tail.headD PV.nil)&&(Zv ((Zhm i a).tail.tail.headD PV.nil)==Zv ((Zhn i b).tail.tail.headD PV.nil)&&true))) then Q (Ex.ret) (some ⟨145,[],[],[],[],[]⟩) else Q (Ex.normal) (some ⟨145,[(132,AV.p (vI (IntKind.i64.wrap (i+(1:Int))))),(18,AV.p (PV.lst (List.map Iv.enc b))),(16,AV.p (PV.lst (List.map Iv.enc a))),(131,pI m)],[],[],[],[]⟩)))) else Q (Ex.exit (2:Nat)) (some ⟨145,[],[],[],[],[]⟩))) (fun _=>by kernel_rfl) ?_
  delta Zhm Zhn vI vB pI
  refine Za (fun h0=>⟨?r1,⟨?r0,Za (fun h1=>?_) (fun h1=>?_)⟩⟩) (fun h0=>?_)
  case r0|r1=>(try simp only[←List.map_drop,dI,dIv,WP,Zm,Z4,Yi,ZfI,XG]);first | rfl | done | omega | (simp only[SysM.enc,LensM.enc,Yi,Z4];done) | (exact ⟨hp0.1,by omega,by decide⟩) | (simp only[K9_,show Zf Iv.dec []=[] from rfl,QJ_];first | exact ⟨by omega,by omega⟩ | exact ⟨by omega,by omega,QT_ (ZbH 5 waves 0) (by decide)⟩) | (exact ⟨by decide,by simp only[Qk_];omega,Yg (e:=Glass.enc) (fun _=>rfl) _⟩) | (obtain ⟨a1,a2,a3,a4⟩:=hx;have hw:IntKind.i64.wrap (i+1)=i+1:=Ze (by constructor<;>omega);(try simp only[hw,Qk_,Qc_] at *);first | exact Zp (fun _=>rfl) (by omega) (by omega) | (exact ⟨(YE (by decide)).1,Int.le_of_lt (Int.lt_of_lt_of_le (YE (by decide)).2 (by decide))⟩) | (exact ⟨by decide,by simp only[Qk_];omega,Yu (Yg (e:=Iv.enc) (fun _=>rfl) _) rfl⟩) | (exact ⟨by decide,by omega,Yu (Yg (e:=Iv.enc) (fun _=>rfl) _) rfl⟩)) | (obtain ⟨a1,a2,a3,a4,a5⟩:=hx;subst a5;simp only[Qc_] at h0;exact Zp (fun _=>rfl) (by omega) (by omega)) | skip
  all_goals obtain ⟨a1,a2,a3,a4,a5⟩:=hx
  all_goals subst a5
  all_goals (try simp only[Qc_,Qe_] at h0)
  ·exfalso;simp only[beq_self_eq_true,QZ_,Qu_,Qr_] at h1;cases h1
  ·have hw:IntKind.i64.wrap (i+1)=i+1:=Ze (by constructor<;>omega)
   refine .inl ⟨by trivial,(IntKind.i64.wrap (i+1),b,b,m),rfl, ?_, ?_, ?_⟩
   ·simp only[U4,X9,hw];exact ⟨by omega,by omega,a3,a4,by trivial⟩
   ·simp only[hw];omega
   ·exact fun e s h=>h
  ·exact .inr ⟨by simp,_,rfl,by trivial,rfl⟩
theorem ZmG:ZN Tryz.prog [(8,ZfU),(21,ZeI)] Tryz.f4:=ZI (l:=[Z6 Tryz.f4 0,Z6 Tryz.f4 1]) (by kernel_rfl) (ZR (i:=8) (by kernel_rfl) rfl Zl8 (ZR (i:=21) (by kernel_rfl) rfl ZkL (Z0)))
def ZkM(l:List RawFace):=Zf RawFace.dec (List.map RawFace.enc l)
def Zho(raw:List I):=Zf I.dec (List.map I.enc raw)
def ZeS(raw:List I):=List.map Glass.enc (ZT (Zho raw))
def ZdC(raw:List I):=Zf Glass.dec (ZeS raw)
def WN(back:Int)(l:List RawFace)(raw:List I):=YP back (ZkM l) (ZdC raw) (5:Int)
def Zcu(back:Int)(l:List RawFace)(raw:List I):=Zf Face.dec (List.map Face.enc (Zf Face.dec (List.map Face.enc (WN back l raw).faces)))
def Yd(back:Int)(l:List RawFace)(raw:List I):=LensM.mk (WN back l raw).name (WN back l raw).back (Zcu back l raw)
def ZdD(waves:List I):=Zf I.dec (List.map I.enc waves)
def Xo(waves:List I):=Zf Iv.dec (List.map Iv.enc (Zf Iv.dec []++Jg (5:Nat) (ZdD waves) (0:Int)))
def Zhp(raw:List I):=Zf Glass.dec (List.drop (1:Nat) (ZeS raw))
def Xd(raw:List I):=Zf Glass.dec (List.map Glass.enc (Zhp raw))
def Xe(raw:List I):=Zf Glass.dec (List.map Glass.enc (ZdC raw))
def ZwR(back:Int)(l:List RawFace)(raw:List I):=[PV.str (WN back l raw).name,vI (WN back l raw).back.c,vI (WN back l raw).back.scale,PV.lst (List.map Face.enc (Zf Face.dec (List.map Face.enc (WN back l raw).faces)))]
def Zhq(waves:List I):=List.map Iv.enc (Zf Iv.dec []++Jg (5:Nat) (ZdD waves) (0:Int))=List.map Iv.enc (Xo waves)
def Zhr(raw:List I):=List.map Glass.enc (Zhp raw)=List.map Glass.enc (Xd raw)
def Zhs(back:Int)(l:List RawFace)(raw:List I):=LensM.mk (WN back l raw).name (WN back l raw).back (Zf Face.dec (List.map Face.enc (WN back l raw).faces))
def Zht(raw:List I):=List.map Glass.enc (ZdC raw)=List.map Glass.enc (Xe raw)
def Zbk(back:Int)(l:List RawFace)(raw:List I):=(ZwR back l raw)=(Yd back l raw).enc
def Zhu(back:Int)(l:List RawFace)(raw:List I)(waves:List I):=List.map Iv.enc (YK (Yd back l raw) (Xd raw) (Xo waves)).fst
def Zhv(back:Int)(l:List RawFace)(raw:List I)(waves:List I):=List.map Iv.enc (YK (Yd back l raw) (Xe raw) (Xo waves)).fst
def Zqn(raw:List I):=List.map Glass.enc (ZT (Zho raw))=List.map Glass.enc (ZdC raw)
def Zqo(back:Int)(l:List RawFace)(raw:List I)(waves:List I):=(Xd raw).length≤(140737488355328:Nat)∧(Zcu back l raw).length≤(140737488355328:Nat)∧(Xo waves).length≤(1000000:Nat)
def Zqp(back:Int)(l:List RawFace)(raw:List I)(waves:List I):=(Xe raw).length≤(140737488355328:Nat)∧(Zcu back l raw).length≤(140737488355328:Nat)∧(Xo waves).length≤(1000000:Nat)
set_option maxHeartbeats 8000000 in
theorem ZmH(back:Int)(l:List RawFace)(raw:List I)(waves:List I)(lack:Int)(hp0:l.length≤140737488355328∧raw.length≤140737488355328∧waves.length≤140737488355328):Con Tryz.prog 4 [.v (.int .i64 back),.lst (l.map RawFace.enc),.lst (raw.map I.enc),.lst (waves.map I.enc),.v (.int .i64 lack)] (.v (.bool true)):=by
 refine cfL ZdB ZmG rfl ?_
 refine sxT (fun Q=>((List.map I.enc raw=List.map I.enc (Zho raw))∧(((Zho raw).length≤(140737488355328:Nat))∧((List.map RawFace.enc l=List.map RawFace.enc (ZkM l))∧((Zqn raw)∧(((ZkM l).length≤(140737488355328:Nat)∧(ZdC raw).length≤(1000:Nat)∧(5:Int)≤(1000:Int))∧(((9:Int)≠(0:Int))∧(bif lack.tmod (9:Int)==(8:Int) then (((0:Int)≤(1:Int)∧(1:Int)≤(((ZeS raw).length:Nat):Int)∧Lens (13:Nat) (ZeS raw))∧(([]=List.map Iv.enc (Zf Iv.dec []))∧((List.map I.enc waves=List.map I.enc (ZdD waves))∧((List.drop (1:Nat) (ZeS raw)=List.map Glass.enc (Zhp raw))∧(((Zq (WN back l raw))=(Zhs back l raw).enc)∧((XK (0:Int) (Zf Iv.dec []) (ZdD waves) (Zhp raw) (Zhs back l raw))∧((Zbk back l raw)∧((Zhr raw)∧((Zhq waves)∧((Zqo back l raw waves)∧((Zbk back l raw)∧((Zhr raw)∧((Zhq waves)∧((Zqo back l raw waves)∧((Zbk back l raw)∧((Zhr raw)∧(((Xd raw).length≤(140737488355328:Nat)∧(Zcu back l raw).length≤(140737488355328:Nat))∧((Zbk back l raw)∧((Zhr raw)∧(((Xd raw).length≤(140737488355328:Nat)∧(Zcu back l raw).length≤(140737488355328:Nat))∧(bif (YJ (Yd back l raw) (Xd raw) (Xo waves)).snd !=(YK (Yd back l raw) (Xd raw) (Xo waves)).snd then Q (vB false) else (bif (((List.map Iv.enc (YJ (Yd back l raw) (Xd raw) (Xo waves)).fst).length:Nat):Int)!=(((Zhu back l raw waves).length:Nat):Int) then Q (vB false) else (bif !((Jl (Yd back l raw) (Xd raw)).fst.lo==(W4 (Yd back l raw) (Xd raw)).fst.lo&&((Jl (Yd back l raw) (Xd raw)).fst.hi==(W4 (Yd back l raw) (Xd raw)).fst.hi&&((Jl (Yd back l raw) (Xd raw)).fst.no==(W4 (Yd back l raw) (Xd raw)).fst.no&&true))) then Q (vB false) else (bif (Jl (Yd back l raw) (Xd raw)).snd !=(W4 (Yd back l raw) (Xd raw)).snd then Q (vB false) else ((List.map Iv.enc (YK (Yd back l raw) (Xd raw) (Xo waves)).fst=List.map Iv.enc (Zf Iv.dec (Zhu back l raw waves)))∧((List.map Iv.enc (YJ (Yd back l raw) (Xd raw) (Xo waves)).fst=List.map Iv.enc (Zf Iv.dec (List.map Iv.enc (YJ (Yd back l raw) (Xd raw) (Xo waves)).fst)))∧((X9 (0:Int) (Zf Iv.dec (Zhu back l raw waves)) (Zf Iv.dec (List.map Iv.enc (YJ (Yd back l raw) (Xd raw) (Xo waves)).fst)) (((Zhu back l raw waves).length:Nat):Int))∧Q (vB true)))))))))))))))))))))))))))) else (([]=List.map Iv.enc (Zf Iv.dec []))∧((List.map I.enc waves=List.map I.enc (ZdD waves))∧((Zqn raw)∧(((Zq (WN back l raw))=(Zhs back l raw).enc)∧((XK (0:Int) (Zf Iv.dec []) (ZdD waves) (ZdC raw) (Zhs back l raw))∧((Zbk back l raw)∧((Zht raw)∧((Zhq waves)∧((Zqp back l raw waves)∧((Zbk back l raw)∧((Zht raw)∧((Zhq waves)∧((Zqp back l raw waves)∧((Zbk back l raw)∧((Zht raw)∧(((Xe raw).length≤(140737488355328:Nat)∧(Zcu back l raw).length≤(140737488355328:Nat))∧((Zbk back l raw)∧((Zht raw)∧(((Xe raw).length≤(140737488355328:Nat)∧(Zcu back l raw).length≤(140737488355328:Nat))∧(bif (YJ (Yd back l raw) (Xe raw) (Xo waves)).snd !=(YK (Yd back l raw) (Xe raw) (Xo waves)).snd then Q (vB false) else (bif (((List.map Iv.enc (YJ (Yd back l raw) (Xe raw) (Xo waves)).fst).length:Nat):Int)!=(((Zhv back l raw waves).length:Nat):Int) then Q (vB false) else (bif !((Jl (Yd back l raw) (Xe raw)).fst.lo==(W4 (Yd back l raw) (Xe raw)).fst.lo&&((Jl (Yd back l raw) (Xe raw)).fst.hi==(W4 (Yd back l raw) (Xe raw)).fst.hi&&((Jl (Yd back l raw) (Xe raw)).fst.no==(W4 (Yd back l raw) (Xe raw)).fst.no&&true))) then Q (vB false) else (bif (Jl (Yd back l raw) (Xe raw)).snd !=(W4 (Yd back l raw) (Xe raw)).snd then Q (vB false) else ((List.map Iv.enc (YK (Yd back l raw) (Xe raw) (Xo waves)).fst=List.map Iv.enc (Zf Iv.dec (Zhv back l raw waves)))∧((List.map Iv.enc (YJ (Yd back l raw) (Xe raw) (Xo waves)).fst=List.map Iv.enc (Zf Iv.dec (List.map Iv.enc (YJ (Yd back l raw) (Xe raw) (Xo waves)).fst)))∧((X9 (0:Int) (Zf Iv.dec (Zhv back l raw waves)) (Zf Iv.dec (List.map Iv.enc (YJ (Yd back l raw) (Xe raw) (Xo waves)).fst)) (((Zhv back l raw waves).length:Nat):Int))∧Q (vB true))))))))))))))))))))))))))))))))))) (fun _=>by kernel_rfl) ?_
 delta Qn WN Yd ZeS Xo Xd Xe ZwR Zcu Zhq Zhr Zhs Zht Zbk Zhp ZdC ZdD Zhu Zhv Zqn Zqo Zqp Zho ZkM Zq vI vB
 have hg:=ZdV raw
 have hf:=ZoO back l (ZT raw) 5 (by decide)
 have hB:∀g,(fun w=>ZX (YP back l (ZT raw) 5) g w)=(fun w=>Yb (YP back l (ZT raw) 5) g w):=fun g=>funext fun w=>Zu2 back l raw 5 g w
 have hT:∀g ws,YJ (YP back l (ZT raw) 5) g ws=YK (YP back l (ZT raw) 5) g ws:=fun g ws=>by unfold YJ YK;rw[hB]
 have hC:∀g,Jl (YP back l (ZT raw) 5) g=W4 (YP back l (ZT raw) 5) g:=fun g=>by unfold Jl W4;rw[hB]
 refine ⟨?r46,⟨?r45,⟨?r44,⟨?r43,⟨?r42,⟨?r41,Za (fun h0=>⟨?r20,⟨?r19,⟨?r18,⟨?r17,⟨?r16,⟨?_,⟨?r15,⟨?r14,⟨?r13,⟨?r12,⟨?r11,⟨?r10,⟨?r9,⟨?r8,⟨?r7,⟨?r6,⟨?r5,⟨?r4,⟨?r3,⟨?r2,Za (fun h1=>?_) (fun h1=>Za (fun h2=>?_) (fun h2=>Za (fun h3=>?_) (fun h3=>Za (fun h4=>?_) (fun h4=>⟨?r1,⟨?r0,⟨?_, ?_⟩⟩⟩))))⟩⟩⟩⟩⟩⟩⟩⟩⟩⟩⟩⟩⟩⟩⟩⟩⟩⟩⟩⟩) (fun h0=>⟨?r40,⟨?r39,⟨?r38,⟨?r37,⟨?_,⟨?r36,⟨?r35,⟨?r34,⟨?r33,⟨?r32,⟨?r31,⟨?r30,⟨?r29,⟨?r28,⟨?r27,⟨?r26,⟨?r25,⟨?r24,⟨?r23,Za (fun h1=>?_) (fun h1=>Za (fun h2=>?_) (fun h2=>Za (fun h3=>?_) (fun h3=>Za (fun h4=>?_) (fun h4=>⟨?r22,⟨?r21,⟨?_, ?_⟩⟩⟩))))⟩⟩⟩⟩⟩⟩⟩⟩⟩⟩⟩⟩⟩⟩⟩⟩⟩⟩⟩)⟩⟩⟩⟩⟩⟩
 case r0|r1|r2|r3|r4|r5|r6|r7|r8|r9|r10|r11|r12|r13|r14|r15|r16|r17|r18|r19|r20|r21|r22|r23|r24|r25|r26|r27|r28|r29|r30|r31|r32|r33|r34|r35|r36|r37|r38|r39|r40|r41|r42|r43|r44|r45|r46=>(try simp only[←List.map_drop,dI,dIv,WP,Zm,Z4,Yi,ZfI,XG]);first | rfl | done | omega | (simp only[SysM.enc,LensM.enc,Yi,Z4];done) | (exact ⟨hp0.1,by omega,by decide⟩) | (simp only[K9_,show Zf Iv.dec []=[] from rfl,QJ_];first | exact ⟨by omega,by omega⟩ | exact ⟨by omega,by omega,QT_ (ZbH 5 waves 0) (by decide)⟩) | (exact ⟨by decide,by simp only[Qk_];omega,Yg (e:=Glass.enc) (fun _=>rfl) _⟩) | (obtain ⟨a1,a2,a3,a4⟩:=hx;have hw:IntKind.i64.wrap (i+1)=i+1:=Ze (by constructor<;>omega);(try simp only[hw,Qk_,Qc_] at *);first | exact Zp (fun _=>rfl) (by omega) (by omega) | (exact ⟨(YE (by decide)).1,Int.le_of_lt (Int.lt_of_lt_of_le (YE (by decide)).2 (by decide))⟩) | (exact ⟨by decide,by simp only[Qk_];omega,Yu (Yg (e:=Iv.enc) (fun _=>rfl) _) rfl⟩) | (exact ⟨by decide,by omega,Yu (Yg (e:=Iv.enc) (fun _=>rfl) _) rfl⟩)) | (obtain ⟨a1,a2,a3,a4,a5⟩:=hx;subst a5;simp only[Qc_] at h0;exact Zp (fun _=>rfl) (by omega) (by omega)) | skip
 all_goals (try simp only[←List.map_drop,dI,dIv,WP,Zm,Z4,Yi,show Zf Iv.dec []=[] from rfl,Qk_,QJ_,ZfI,XG] at *)
 all_goals first | rfl | (simp only[XK];exact ⟨by decide,by decide,hp0.2.2,by decide⟩) | (simp only[hT,hC];rfl) | (exfalso;simp only[hT,hC,bne_self_eq_false,beq_self_eq_true,QZ_,Qu_,K6_] at h1;first | done | (cases h1;done)) | (exfalso;simp only[hT,hC,bne_self_eq_false,beq_self_eq_true,QZ_,Qu_,K6_] at h2;first | done | (cases h2;done)) | (exfalso;simp only[hT,hC,bne_self_eq_false,beq_self_eq_true,QZ_,Qu_,K6_] at h3;first | done | (cases h3;done)) | (exfalso;simp only[hT,hC,bne_self_eq_false,beq_self_eq_true,QZ_,Qu_,K6_] at h4;first | done | (cases h4;done)) | (exfalso;simp only[hT,hC,bne_self_eq_false,beq_self_eq_true,QZ_,Qu_,K6_] at h5;first | done | (cases h5;done)) | (exfalso;simp only[hT,hC,bne_self_eq_false,beq_self_eq_true,QZ_,Qu_,K6_] at h6;first | done | (cases h6;done)) | (simp only[X9,hT];exact ⟨by decide,by omega,by trivial,QT_ (ZxM _ _) (QT_ (ZbH 5 waves 0) (by decide)),by trivial⟩) | skip
end Go.Men
namespace Go.Ev
open Go.RowKit Go.ChangeShapes Go.Deep
inductive SK where
 | int (k:IntKind)
 | bool
 | str
def Zbl:SK→Value→Prop
 | .int k,v=>∃n,v= .int k n∧k.min≤n∧n≤k.max
 | .bool,v=>∃b,v= .bool b
 | .str,v=>∃s,v= .string s∧s.size≤maxLen
def px:Value→PV
 | .string s=> .str s.data.toList
 | v=> .v v
def skT(P:Program)(t:TypeId):Option SK:=match P.underlying t with
 | some (.int k)=>some (.int k)
 | some .bool=>some .bool
 | some .string=>some .str
 | _=>none
def ZnB{α β:Type}(f:Nat→α→Option β):Nat→List α→Option (List β)
 | _,[]=>some []
 | i,x::r=>match f i x,ZnB f (i+1) r with
   | some y,some l=>some (y::l)
   | _,_=>none
def ZuF(P:Program)(t:TypeId):Option (List SK):=match P.underlying t with
 | some (.struct fs)=>bif Nat.beq (P.cellsOf t) fs.size then ZnB (fun i (f:Field)=>bif Nat.beq f.offset i&&Nat.beq (P.cellsOf f.type) 1 then skT P f.type else none) 0 fs.toList else none
 | some (.array n e)=>bif Nat.beq (P.cellsOf t) n&&Nat.beq (P.cellsOf e) 1 then (match skT P e with | some k=>some (List.replicate n k) | none=>none) else none
 | _=>bif Nat.beq (P.cellsOf t) 1 then (match skT P t with | some k=>some [k] | none=>none) else none
section
variable {H:Type}{enc:TypeId×Value→H}{P:Program}{w:World}{base:Nat}{spare:Nat→Bool}{held:Bool}
theorem Zhw{t:TypeId}{k:SK}(hk:skT P t=some k){fuel:Nat}{cs:List Value}{x:DataW H×List MemPlace}(h:DataW.trod enc P w base spare held fuel t cs=some x):∃v,cs=[v]∧Zbl k v:=by
 unfold skT at hk
 split at hk
 ·rename_i k' hu
  cases Qa_ hk
  obtain ⟨n,h1,_,h2⟩:=DataW.trod_int hu h
  simp only[Lit.wf,Qh_,Qc_] at h2
  exact ⟨_,h1,n,rfl,h2.1,h2.2⟩
 ·rename_i hu
  cases Qa_ hk
  obtain ⟨b,h1,_⟩:=DataW.trod_bool hu h
  exact ⟨_,h1,b,rfl⟩
 ·rename_i hu
  cases Qa_ hk
  obtain ⟨s,h1,_,h2⟩:=DataW.trod_string hu h
  exact ⟨_,h1,s,rfl,h2⟩
 ·cases hk
theorem Zhx{α β:Type}{f:α→Option β}:∀{l:List α} {r:List β},l.mapM f=some r→∀x∈l,∃y,f x=some y
 | [],_,_,x,hx=>absurd hx (by simp)
 | a::l,r,h,x,hx=>by
   rw[List.mapM_cons] at h
   obtain ⟨y,h1,h2⟩:=Option.bind_eq_some_iff.1 h
   obtain ⟨ys,h3,_⟩:=Option.bind_eq_some_iff.1 h2
   rcases Q9_.1 hx with e | hx
   ·subst e;exact ⟨y,h1⟩
   ·exact Zhx h3 x hx
theorem Zmx{α β:Type}{f:Nat→α→Option β}:∀{l:List α} {i:Nat} {r:List β},ZnB f i l=some r→r.length=l.length∧∀(j:Nat) (y:β),r[j]?=some y→∃x,l[j]?=some x∧f (i+j) x=some y
 | [],i,r,h=>by
   cases Qa_ h
   exact ⟨rfl,fun j y hj=>by simp at hj⟩
 | a::l,i,r,h=>by
   unfold ZnB at h
   split at h
   ·rename_i y ys h1 h2
    cases Qa_ h
    obtain ⟨e1,e2⟩:=Zmx h2
    refine ⟨by simp[e1],fun j z hj=>?_⟩
    cases j with
    | zero=>simp at hj;subst hj;exact ⟨a,by simp,by simpa using h1⟩
    | succ j=>
      obtain ⟨x,h3,h4⟩:=e2 j z (by simpa using hj)
      exact ⟨x,by simpa using h3,by rw[←h4];congr 1;omega⟩
   ·cases h
theorem ZwS{t:TypeId}{ks:List SK}(hk:ZuF P t=some ks){fuel:Nat}{cs:List Value}{x:DataW H×List MemPlace}(h:DataW.trod enc P w base spare held fuel t cs=some x):
 cs.length=ks.length∧P.cellsOf t=ks.length∧∀(i:Nat) (k:SK),ks[i]?=some k→∃v,cs[i]?=some v∧Zbl k v:=by
 unfold ZuF at hk
 split at hk
 ·rename_i fs hu
  cases hb:Nat.beq (P.cellsOf t) fs.size with
  | false=>rw[hb] at hk;cases hk
  | true=>
    rw[hb,Qb_] at hk
    have hsz:=Qj_ hb
    obtain ⟨e1,e2⟩:=Zmx hk
    cases fuel with
    | zero=>exact absurd h (by simp[DataW.trod])
    | succ fuel=>
      simp only[DataW.trod,hu] at h
      split at h
      ·rename_i hl
       simp only[Option.map_eq_some_iff] at h
       obtain ⟨ys,h1,_⟩:=h
       refine ⟨by rw[hl,hsz,e1];simp,by rw[hsz,e1];simp,fun i k hi=>?_⟩
       obtain ⟨f,hf,hc⟩:=e2 i k hi
       rw[QP_] at hc
       cases hb2:(Nat.beq f.offset i&&Nat.beq (P.cellsOf f.type) 1) with
       | false=>rw[hb2] at hc;cases hc
       | true=>
         rw[hb2,Qb_] at hc
         rw[Qh_] at hb2
         have ho:=Qj_ hb2.1
         have h1c:=Qj_ hb2.2
         obtain ⟨y,hy⟩:=Zhx h1 f (Qz_ hf)
         obtain ⟨v,hv,hok⟩:=Zhw hc hy
         rw[ho,h1c] at hv
         refine ⟨v, ?_,hok⟩
         have:=Kk_ (fun l:List Value=>l[0]?) hv
         simpa using this
      ·cases h
 ·rename_i n e hu
  cases hb:(Nat.beq (P.cellsOf t) n&&Nat.beq (P.cellsOf e) 1) with
  | false=>rw[hb] at hk;cases hk
  | true=>
    rw[hb,Qb_] at hk
    rw[Qh_] at hb
    have hsz:=Qj_ hb.1
    have h1c:=Qj_ hb.2
    split at hk
    ·rename_i k hsk
     cases Qa_ hk
     cases fuel with
     | zero=>exact absurd h (by simp[DataW.trod])
     | succ fuel=>
       simp only[DataW.trod,hu] at h
       split at h
       ·rename_i hl
        simp only[Option.map_eq_some_iff] at h
        obtain ⟨ys,h1,_⟩:=h
        refine ⟨by rw[hl,hsz];simp,by rw[hsz];simp,fun i k' hi=>?_⟩
        have hin:i < n:=by
         have:=(Qo_.1 hi).1
         simpa using this
        have hkk:k'=k:=by
         rw[List.getElem?_replicate] at hi
         rw[if_pos hin] at hi
         exact (Qa_ hi).symm
        subst hkk
        obtain ⟨y,hy⟩:=Zhx h1 i (by simpa using hin)
        obtain ⟨v,hv,hok⟩:=Zhw hsk hy
        rw[h1c,Nat.mul_one] at hv
        refine ⟨v, ?_,hok⟩
        have:=Kk_ (fun l:List Value=>l[0]?) hv
        simpa using this
       ·cases h
    ·cases hk
 ·cases hb:Nat.beq (P.cellsOf t) 1 with
  | false=>rw[hb] at hk;cases hk
  | true=>
    rw[hb,Qb_] at hk
    have h1c:=Qj_ hb
    split at hk
    ·rename_i k hsk
     cases Qa_ hk
     obtain ⟨v,rfl,hok⟩:=Zhw hsk h
     refine ⟨rfl,h1c,fun i k' hi=>?_⟩
     cases i with
     | zero=>simp at hi;subst hi;exact ⟨v,rfl,hok⟩
     | succ i=>simp at hi
    ·cases hk
theorem Zqq{k:SK}{v:Value}(h:Zbl k v)(hw:Nat→Nat)(w:World):Rep hw w v (px v)∧v.oneCell'=true:=by
 cases k with
 | int k=>obtain ⟨n,rfl,_⟩:=h;exact ⟨.v _ rfl,rfl⟩
 | bool=>obtain ⟨b,rfl⟩:=h;exact ⟨.v _ rfl,rfl⟩
 | str=>
   obtain ⟨s,rfl,_⟩:=h
   exact ⟨.str s.data.toList,rfl⟩
def Zev(ks:List SK)(xs:List PV):Prop:=xs.length=ks.length∧∀(i:Nat) (k:SK),ks[i]?=some k→∃v,Zbl k v∧xs[i]?=some (px v)
theorem Zqr{xs:List PV}(h:Zev [] xs):xs=[]:=QM_ h.1
theorem ZwT{k:SK}{ks:List SK}{xs:List PV}(h:Zev (k::ks) xs):∃v r,xs=px v::r∧Zbl k v∧Zev ks r:=by
 obtain ⟨h1,h2⟩:=h
 cases xs with
 | nil=>cases h1
 | cons x r=>
   obtain ⟨v,h3,h4⟩:=h2 0 k rfl
   simp at h4
   subst h4
   exact ⟨v,r,rfl,h3,by simpa using h1,fun i k' hi=>h2 (i+1) k' (by simpa using hi)⟩
theorem Za0{k:IntKind}{ks:List SK}{xs:List PV}(h:Zev (.int k::ks) xs):∃n r,xs= .v (.int k n)::r∧(k.min≤n∧n≤k.max)∧Zev ks r:=by
 obtain ⟨v,r,e,⟨n,rfl,hb⟩,hr⟩:=ZwT h
 exact ⟨n,r,e,hb,hr⟩
theorem Z0p{ks:List SK}{cs:List Value}(hl:cs.length=ks.length)(h:∀(i:Nat) (k:SK),ks[i]?=some k→∃v,cs[i]?=some v∧Zbl k v):Zev ks (cs.map px):=
 ⟨by simpa using hl,fun i k hi=>by
   obtain ⟨v,h1,h2⟩:=h i k hi
   exact ⟨v,h2,by rw[Q6_,h1];rfl⟩⟩
theorem Zqs{r:Reach}{b0:Nat}{t e:TypeId}(ht:P.underlying t=some (.slice e)){v:Value}(h:Value.okWide P w r b0 t v):v= .slice none 0 0∨∃blk off len cap,v= .slice (some ⟨blk,off,none⟩) len cap∧blk < w.heap.size:=by
 unfold Value.okWide at h
 rw[ht] at h
 simp only[Cell.okWide,ht] at h
 have h2:Cell.ok P w r b0 t v:=h
 unfold Cell.ok at h2
 rw[ht] at h2
 cases v with
 | slice a len cap=>
   cases a with
   | none=>
     refine .inl ?_
     cases len with
     | zero=>cases cap with
       | zero=>rfl
       | succ c=>exact h2.elim
     | succ l=>exact h2.elim
   | some a=>
     obtain ⟨_,_,_,hs,row,cells,hsh,_⟩:=h2
     obtain ⟨blk,off,spot⟩:=a
     simp only at hs
     subst hs
     refine .inr ⟨blk,off,len,cap,rfl, ?_⟩
     simp only[World.shape?] at hsh
     by_cases hlt:blk < w.heap.size
     ·exact hlt
     ·rw[Array.getElem?_eq_none (by omega)] at hsh
      cases hsh
 | _=>exact h2.elim
theorem Zhy{r:Reach}{b0:Nat}{t e:TypeId}{ks:List SK}(ht:P.underlying t=some (.slice e))(hk:ZuF P e=some ks)
 {v:Value} {d:DataW H} {ps:List MemPlace} (hval:Value.okWide P w r b0 t v) (hd:DataW.Trod enc P w base spare held t v d ps):
 ∃rows N,(∀x∈rows,Zev ks x)∧(∀hw:Nat→Nat,(∀k,k < w.heap.size→N≤hw k)→Rep hw w v (.lst rows))∧∀R,(d.weights P t).all (·≤R)=true→rows.length *P.bytesOf e≤R:=by
 obtain ⟨fuel,hf⟩:=hd
 rcases Zqs ht hval with rfl | ⟨blk,off,len,cap,rfl,hblk⟩
 ·exact ⟨[],0,fun x hx=>absurd hx (by simp),fun _ _=> .lnil,fun R _=>by simp⟩
 ·have hcs:(Value.slice (some ⟨blk,off,none⟩) len cap).cells.toList=[.slice (some ⟨blk,off,none⟩) len cap]:=rfl
  rw[hcs] at hf
  rcases open_slice ht hf with ⟨h0,_⟩ | ⟨a,len',cap',m,n,D,Pl,e1,hb,hl,hm,hmm,e2,hx⟩
  ·cases h0
  ·injection e1 with e1 _
   injection e1 with ea el ec
   injection ea with ea
   subst ea;subst el;subst ec
   have hlm:len≤m:=by rw[hmm];split<;>omega
   have hrow:∀i,i < len→∃cs',w.cells? base ((⟨blk,off,none⟩:Addr).add (i *P.cellsOf e)) (P.cellsOf e)=some cs'∧cs'.length=ks.length∧P.cellsOf e=ks.length∧∀(j:Nat) (k:SK),ks[j]?=some k→∃v,cs'[j]?=some v∧Zbl k v:=by
    intro i hi
    obtain ⟨cs',h1,h2⟩:=hx i (by omega)
    obtain ⟨h3,h4,h5⟩:=ZwS hk h2
    exact ⟨cs',h1,h3,h4,h5⟩
   obtain ⟨C,hC⟩:=choose_lt (α:=List Value) (p:=fun i cs'=>w.cells? base ((⟨blk,off,none⟩:Addr).add (i *P.cellsOf e)) (P.cellsOf e)=some cs'∧cs'.length=ks.length∧P.cellsOf e=ks.length∧∀(j:Nat) (k:SK),ks[j]?=some k→∃v,cs'[j]?=some v∧Zbl k v) hrow
   have hrows:∀(i:Nat) (x:List PV),((List.range len).map fun i=>(C i).map px)[i]?=some x→i < len∧x=(C i).map px:=by
    intro i x hi
    rw[Q6_] at hi
    cases hr:(List.range len)[i]? with
    | none=>rw[hr] at hi;cases hi
    | some y=>
      rw[hr] at hi
      have hlt:i < len:=by have:=(Qo_.1 hr).1;simpa using this
      rw[K1_ hlt] at hr
      cases Qa_ hr
      exact ⟨hlt,(Qa_ hi).symm⟩
   have hlen:((List.range len).map fun i=>(C i).map px).length=len:=by simp
   have hcell:∀i j,i < len→j < ks.length→∃v,w.cell? ⟨blk,off+(i *ks.length+j),none⟩=some v∧(C i)[j]?=some v∧∃k,Zbl k v:=by
    intro i j hi hj
    obtain ⟨h1,h2,h3,h4⟩:=hC i hi
    obtain ⟨v,h5,h6⟩:=h4 j ks[j] (Qg_ hj)
    obtain ⟨_,_,h7⟩:=World.cells?_some h1
    have h8:=h7 j (by omega)
    rw[h5] at h8
    refine ⟨v, ?_,h5,_,h6⟩
    rw[←h8,h3,Addr.add_lit,Addr.add_lit,Kt_]
   refine ⟨(List.range len).map fun i=>(C i).map px,off+len *ks.length,fun x hx=>?_,fun hw hN=>?_,fun R hR=>?_⟩
   ·obtain ⟨i,hi,rfl⟩:=Ku_.1 hx
    have hi:i < len:=by simpa using hi
    obtain ⟨_,h2,_,h4⟩:=hC i hi
    exact Z0p h2 h4
   ·have:=Rep.lst (hw:=hw) (w:=w) ((List.range len).map fun i=>(C i).map px) blk off cap ks.length (fun i j=>(w.cell? ⟨blk,off+(i *ks.length+j),none⟩).getD undef) (by rw[hlen];exact hl)
     (fun i x hx=>by obtain ⟨hi,rfl⟩:=hrows i x hx;simpa using (hC i hi).2.1)
     (fun i j hi hj=>by rw[hlen] at hi;obtain ⟨v,h1,_⟩:=hcell i j hi hj;rw[h1];rfl)
     (fun i j x y hx hy=>by
       obtain ⟨hi,rfl⟩:=hrows i x hx
       have hj:j < ks.length:=by have:=(Qo_.1 hy).1;rw[←(hC i hi).2.1];simpa using this
       obtain ⟨v,h1,h2,k,h3⟩:=hcell i j hi hj
       rw[Q6_,h2] at hy
       cases Qa_ hy
       rw[h1]
       exact (Zqq h3 hw w).1)
     (fun i j hi hj=>by rw[hlen] at hi;obtain ⟨v,h1,_,k,h3⟩:=hcell i j hi hj;rw[h1];exact (Zqq h3 hw w).2)
     (by rw[hlen];exact hN blk hblk)
    rw[hlen] at this
    exact this
   ·rw[hlen]
    have hd:d= .slice ((List.range len).map D) ((List.range (m - len)).map fun j=>D (len+j)):=Kk_ Prod.fst e2
    subst hd
    simp only[DataW.weights,ht,List.all_cons,Qk_,List.length_range,Qh_,Qc_] at hR
    exact QT_ (Kb_ _ (by omega)) hR.1
theorem XW{ts:List TypeId}{ds:List (DataW H)}{R:Nat}{t:TypeId}{d:DataW H}(h:(DataW.weightsEach P (t::ts) (d::ds)).all (·≤R)=true):(d.weights P t).all (·≤R)=true∧(DataW.weightsEach P ts ds).all (·≤R)=true:=by
 simp only[DataW.weightsEach,List.all_append,Qh_] at h
 exact h
end
theorem ZfV{H:Type}{enc:TypeId×Value→H}{P:Program}(hl:laidOutB P=true):∀{ts:List TypeId} {W W':World} {vs:List Value} {ds:List (DataW H)} {ps:List MemPlace},(ts.all fun t=>P.readableRec t&&decide (t < P.types.size))=true→
 DataW.TrodAll enc P W 0 (fun _=>true) true ts vs ds ps→Below W.heap.size W W'→(∀x∈ps,x.block < W.heap.size)→∀sp:Nat→Bool,(∀p∈ps,sp p.block=true)→DataW.TrodAll enc P W' 0 sp true ts vs ds ps
 | [],W,W',vs,ds,ps,_,h,_,_,sp,_=>by
   obtain ⟨rfl,rfl,rfl⟩:=trodAll_nil h
   exact rfl
 | t::ts,W,W',vs,ds,ps,ht,h,hb,hlt,sp,hsp=>by
   obtain ⟨v,vs',d,ds',p,q,rfl,rfl,rfl,h1,h2⟩:=trodAll_cons h
   simp only[List.all_cons,Qh_,Qc_] at ht
   exact ⟨p,q,WideElems.Trod_stays hl ht.1.1 ht.1.2 h1 (fun x hx=>hb.same (hlt x (Kg_ _ hx))) (fun x hx=>hsp x (Kg_ _ hx)),
    ZfV hl ht.2 h2 hb (fun x hx=>hlt x (Kq_ _ hx)) sp (fun x hx=>hsp x (Kq_ _ hx)),rfl⟩
theorem ZwU{P:Program}{f:Nat}{b:Bool}(hc:∀args w,(callFunc f args).run P w= .ok (.enter f args) w){xs:List PV}(h:Con P f xs (.v (.bool b)))(w:World){hw:Nat→Nat}(hl:∀k,w.heap.size≤k→hw k=0)(hgl:GlobOk hw w){vals:List Value}(ha:ArgsRep hw w vals xs):Calls P f vals.toArray w fun e w'=>e= .returned (.bool b)∧Below w.heap.size w w':=by
 rcases h hw w vals hl hgl ha with ⟨v,w',h1,_⟩ | ⟨f',h1,h2⟩
 ·rw[hc] at h1
  cases h1
 ·rw[hc] at h1
  injection h1 with h1 _
  injection h1 with h1 _
  subst h1
  exact h2.mono fun e w' ⟨v,he,hw',q,hr⟩=>⟨by rw[he,ZB hr],q.below⟩
structure ArgsAre(P:Program)(w:World)(ts:List TypeId)(vs:List Value)(xs:List PV):Prop where
 rep:∃N,∀hw:Nat→Nat,(∀k,k < w.heap.size→N≤hw k)→ArgsRep hw w vs xs
theorem Zrl{P:Program}{w:World}:ArgsAre P w [] [] []:=⟨0,fun hw _=>⟨rfl,fun j x y hx=>by simp at hx⟩⟩
theorem JE{P:Program}{w:World}{t:TypeId}{ts:List TypeId}{v:Value}{vs:List Value}{x:PV}{xs:List PV}{N:Nat}(h:∀hw:Nat→Nat,(∀k,k < w.heap.size→N≤hw k)→Rep hw w v x)(hr:ArgsAre P w ts vs xs):ArgsAre P w (t::ts) (v::vs) (x::xs):=by
 obtain ⟨M,hM⟩:=hr.rep
 refine ⟨⟨N+M,fun hw hh=>?_⟩⟩
 have h1:=h hw (fun k hk=>QT_ (Nat.le_add_right _ _) (hh k hk))
 have h2:=hM hw (fun k hk=>QT_ (Nat.le_add_left _ _) (hh k hk))
 refine ⟨by simp[h2.len],fun j a b ha hb=>?_⟩
 cases j with
 | zero=>simp at ha hb;subst ha;subst hb;exact h1
 | succ j=>exact h2.rep j a b (by simpa using ha) (by simpa using hb)
section
variable {H:Type}{enc:TypeId×Value→H}
open Go.WideShapes
end
open Go.ChangeAt Go.WideShapes
section
variable {H:Type}{enc:TypeId×Value→H}
theorem Z0q{a:Assume}{C:Checked}{os:Os}{f:FuncId}{fn:Func}{s:ChangeSpec}{F:Stop.Interp}{conds:List PathCond}{laid:List (String×DataW Unit)}{tb:TypeId}
 (own:ownKnob C.prog.godebug=none) (started:os.Started) (noInit:C.prog.inits.idxOf? f=none) (hfn:C.prog.funcs[f]?=some fn)
 (witness:∃(w:World) (tape:Tape) (i:Input),w.os=os∧(w.forCall tape i).Shaped C.prog∧i.vars=[]∧Input.okWide C.prog (w.forCall tape i) .any w.heap.size f i∧
   (OpenSpec.ofChange s).preRow enc C.prog fn conds false laid (w.forCall tape i).memory i.args∧a.holds C.prog (lone (Frame.enter C.prog f i.args .normal) [] (w.forCall tape i)))
 (hcall:∀args w,(callFunc f args).run C.prog w= .ok (.enter f args) w) (hlaid:laidOutB C.prog=true)
 (hts:(fn.params.toList.all fun t=>C.prog.readableRec t&&decide (t < C.prog.types.size))=true) (hvars:s.vars=[]) (hres:fn.resultTypes=#[tb]) (hbool:C.prog.underlying tb=some .bool)
 (hspec:∀ds:List (DataW H),ds.length=fn.params.toList.length→(s.fn H ds).results=[.lit (.bool true)]∧(s.fn H ds).args=ds∧(s.fn H ds).vars=[])
 (hglob:∀(W:World) (N:Nat),64≤N→laidMetH C.prog laid W→GlobOk (fun k=>if k < W.heap.size then N else 0) W)
 (hcon:∀(W:World) (b0:Nat) (args:List Value) (ds:List (DataW H)) (p:List MemPlace),(∀(j:Nat) t v,fn.params.toList[j]?=some t→args[j]?=some v→Value.okWide C.prog W .any b0 t v)→DataW.TrodAll enc C.prog W 0 (fun _=>true) true fn.params.toList args ds p→
   (DataW.weightsEach C.prog fn.params.toList ds).all (·≤reachBytes)=true→∃xs,ArgsAre C.prog W fn.params.toList args xs∧Con C.prog f xs (.v (.bool true))):
 ReturnsInHanded a C os f .any ((OpenSpec.ofChange s).preRow enc C.prog fn conds false laid) (((OpenSpec.ofChange s).at F).post enc C.prog fn false true false false):=by
 refine returnsInHanded_of_row own started noInit hfn witness ?_
 intro W base args ds gs before hval hw' _ _ hwt hL _ _
 have hW:=hw'
 have hvars':(OpenSpec.ofChange s).vars=[]:=hvars
 obtain ⟨p,q,hA,hV,e,hnf,_⟩:=hw'
 subst e
 rw[hvars'] at hV
 obtain ⟨egs,eq⟩:=trodVars_none hV
 subst egs;subst eq
 have hlen:ds.length=fn.params.toList.length:=by
  have key:∀{ts:List TypeId} {vs:List Value} {ds:List (DataW H)} {p:List MemPlace},DataW.TrodAll enc C.prog W 0 (fun _=>true) true ts vs ds p→ds.length=ts.length:=by
   intro ts
   induction ts with
   | nil=>intro vs ds p h;obtain ⟨_,rfl,_⟩:=trodAll_nil h;rfl
   | cons t ts ih=>intro vs ds p h;obtain ⟨v,vs',d,ds',p',q',rfl,rfl,rfl,_,h2⟩:=trodAll_cons h;simp[ih h2]
  exact key hA
 have hwt2:(DataW.weightsEach C.prog fn.params.toList ds).all (·≤reachBytes)=true:=by
  have e1:∀(ts ts':List TypeId) (ds:List (DataW H)),ds.length=ts.length→DataW.weightsEach C.prog (ts++ts') (ds++[])=DataW.weightsEach C.prog ts ds:=by
   intro ts
   induction ts with
   | nil=>intro ts' ds h;have:=QM_ h;subst this;cases ts'<;>rfl
   | cons t ts ih=>intro ts' ds h;cases ds with
     | nil=>cases h
     | cons d ds=>simp only[QS_,DataW.weightsEach];rw[ih ts' ds (by simpa using h)]
  rw[e1 _ _ _ hlen] at hwt
  exact hwt
 obtain ⟨xs,⟨N,hN⟩,hcon⟩:=hcon W base args.toList ds p (fun j t v h1 h2=>hval j t v (by simpa using h1) (by simpa using h2)) hA hwt2
 have hcalls:=ZwU hcall hcon W (hw:=fun k=>if k < W.heap.size then N+64 else 0) (fun k hk=>by simp;omega) (hglob W (N+64) (by omega) hL) (hN _ (fun k hk=>by simp[hk]))
 have ei:args.toList.toArray=args:=by simp
 rw[ei] at hcalls
 refine hcalls.mono fun e W' ⟨he,hb⟩=>?_
 subst he
 obtain ⟨s1,s2,s3⟩:=hspec ds hlen
 refine ⟨_,rfl,Zm3 (pa:=p) (pv:=[]) hW (fun b sp hd=>?_) (fun sp hsp=>?_) (fun sp _=>?_) rfl hb (ok_one hres rfl (okWide_bool_mk hbool _))⟩
 ·show DataW.TrodAll _ _ _ _ _ _ _ _ (s.fn H (ds++[])).results _
  rw[QI_,hres,s1]
  exact trodAll_cons_mk (shut_bool hbool _) trodAll_mk0
 ·show DataW.TrodAll _ _ _ _ _ _ _ _ (s.fn H (ds++[])).args _
  rw[QI_,s2]
  exact ZfV hlaid hts hA hb (fun x hx=>hW.lt x (Kg_ _ hx)) sp (fun x hx=>hsp x (by simpa using hx))
 ·have h3:(s.fn H (ds++[])).vars=[]:=by rw[QI_];exact s3
  show DataW.TrodVars enc C.prog W' sp s.vars (s.fn H (ds++[])).vars []
  rw[hvars,h3]
  exact rfl
end
end Go.Ev
