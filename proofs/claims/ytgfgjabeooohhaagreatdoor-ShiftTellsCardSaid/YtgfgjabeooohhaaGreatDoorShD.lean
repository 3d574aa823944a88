/- A logic of frames, its evaluator for values known in part, and what the functions that the law reaches are shown to do: written for this claim. Part D. -/
import Derived.Test.YtgfgjabeooohhaaGreatDoorShC
import Derived.KernelRfl
set_option linter.all false
set_option maxRecDepth 100000
namespace Go.Men
open Go.Ev Go.Proofs Go.Proofs.YtgfgjabeooohhaaGreatDoor
def Z1o:=YN [(86,e86)]
def Zt9(bit:Int)(r:Int):=BitVec.ofInt (64:Nat) r||| BitVec.ofInt (64:Nat) (IntKind.i64.wrap ((1:Int)* (2:Int) ^ min bit.toNat (64:Nat)))
theorem ZrT:CSOk Tryz.prog Z1o:=Zb ZhL<|Zh
theorem Zwu:Yo Tryz.prog (Z6 Tryz.f182 0) ZoZ:=by
 refine lsG Zo.Γ (ZD Zo ZrT ZJ ZK ZQ (LS:=[]) (Yh (l:=[]) (by kernel_rfl) Z0) (n:=2000) (U4 ZxS) (U4 Zb1) (fun x e s=>(e= .exit 0∧s=U4 Zdr x)) (fun x=>(x.1+1).toNat) ZoY ZvU ZvV (fun x hx=>?_)) cv4 (fun _=>rfl) (fun _ h=>h) (fun _ _ _ _ h f=>fE h f)
 ·obtain ⟨bit,n,r,up⟩:=x
  simp only[U4,Zb1] at hx
  refine sxT (fun Q=>(bif decide (bit≥(0:Int)) then (((0:Int)≤bit)∧(bif decide (IntKind.i64.wrap (IntKind.i64.wrap ↑(Zt9 bit r).toNat *IntKind.i64.wrap ↑(Zt9 bit r).toNat)≤n) then Q (Ex.normal) (some ⟨44,[(8,AV.p (vI (IntKind.i64.wrap (bit - (1:Int))))),(6,pI n),(7,AV.p (vI (IntKind.i64.wrap ↑(Zt9 bit r).toNat))),(1,AV.p (vB up))],[],[],[],[]⟩) else Q (Ex.normal) (some ⟨44,[(8,AV.p (vI (IntKind.i64.wrap (bit - (1:Int))))),(6,pI n),(7,pI r),(1,AV.p (vB up))],[],[],[],[]⟩))) else Q (Ex.exit (0:Nat)) (some ⟨44,[(7,pI r),(6,pI n),(1,AV.p (vB up))],[],[],[],[]⟩))) (fun _=>by kernel_rfl) ?_
  delta Zt9 vI vB pI
  refine Za (fun h0=>⟨?r0,Za (fun h1=> .inl ⟨rfl,(IntKind.i64.wrap (bit - (1:Int)),n,IntKind.i64.wrap ↑(BitVec.ofInt (64:Nat) r||| BitVec.ofInt (64:Nat) (IntKind.i64.wrap ((1:Int)* (2:Int) ^ min bit.toNat (64:Nat)))).toNat,up),rfl, ?_, ?_, ?_⟩) (fun h1=> .inl ⟨rfl,(IntKind.i64.wrap (bit - (1:Int)),n,r,up),rfl, ?_, ?_, ?_⟩)⟩) (fun h0=> .inr ⟨by simp,_,rfl, ?_⟩)
  case r0=>first | rfl | (simp only[YI,dI,dIv];omega) | (simp[Zf,chunk];done) | (simp only[YI,dI,dIv];done) | (exact Zp (fun _=>rfl) (by omega) (by omega)) | (simp only[Qc_,Qk_] at *;exact Zp (fun _=>rfl) (by omega) (by omega)) | assumption | trivial | (simp_all;done) | omega
  all_goals try dsimp only[U4]
  all_goals obtain ⟨a1,a2,a3,a4⟩:=hx
  all_goals simp only[Qc_,Qe_] at h0
  ·have hm:=Zlm h0 a1.2 a3 a4
   obtain ⟨k1,k2,k3,k4,k5,k6⟩:=XO h0 a3
   simp only[hm,Ze k5,Qc_] at h1
   simp only[U4,hm,Ze (show Fit (bit - 1) by constructor<;>omega),Zb1,k1]
   exact ⟨by omega,a2,by omega,Int.dvd_add (Int.dvd_trans ⟨2,by rw[k4];omega⟩ a4) (Int.dvd_refl _)⟩
  ·simp only[Ze (show Fit (bit - 1) by constructor<;>omega)];omega
  ·have hm:=Zlm h0 a1.2 a3 a4
   obtain ⟨k1,k2,k3,k4,k5,k6⟩:=XO h0 a3
   simp only[hm,Ze k5,Qc_] at h1
   simp only[U4,hm,Ze (show Fit (bit - 1) by constructor<;>omega),Zdr,k1,k2]
   intro e s h
   unfold ZP
   rw[if_pos h1]
   exact h
  ·obtain ⟨k1,k2,k3,k4,k5,k6⟩:=XO h0 a3
   simp only[U4,Ze (show Fit (bit - 1) by constructor<;>omega),Zb1,k1]
   exact ⟨by omega,a2,by omega,Int.dvd_trans ⟨2,by rw[k4];omega⟩ a4⟩
  ·simp only[Ze (show Fit (bit - 1) by constructor<;>omega)];omega
  ·have hm:=Zlm h0 a1.2 a3 a4
   obtain ⟨k1,k2,k3,k4,k5,k6⟩:=XO h0 a3
   simp only[hm,Ze k5,Qe_] at h1
   simp only[U4,Ze (show Fit (bit - 1) by constructor<;>omega),Zdr,k1,k2]
   intro e s h
   unfold ZP
   rw[if_neg h1]
   exact h
  ·have:(bit+1).toNat=0:=by omega
   exact ⟨rfl,by simp only[U4,Zdr];rw[this];rfl⟩
theorem Zyg:ZN Tryz.prog [(6,ZoZ)] Tryz.f182:=ZI (l:=[Z6 Tryz.f182 0]) (by kernel_rfl) (ZR (i:=6) (by kernel_rfl) rfl Zwu (Z0))
def ZiM(a:Int):=IntKind.i64.wrap (a * (65536:Int))
theorem Z1p:Zj Tryz.prog 182 Z2P:=Zk<|Zi fun a=>Zi fun up=>EZ0<|by
 refine cfL ZrT Zyg rfl ?_
 refine sxT (fun Q=>(bif decide (a < (0:Int)) then Q (PV.tup [vI 0,vB false]) else (bif !inB a then Q (PV.tup [vI 0,vB false]) else ((Zb1 (24:Int) (ZiM a) (0:Int) up)∧(bif up then (bif decide (IntKind.i64.wrap (ZP (25:Nat) (ZiM a) (0:Int)*ZP (25:Nat) (ZiM a) (0:Int)) < IntKind.i64.wrap (a * (65536:Int))) then Q (PV.tup [vI (IntKind.i64.wrap (ZP (25:Nat) (ZiM a) (0:Int)+(1:Int))),vB true]) else Q (PV.tup [vI (ZP (25:Nat) (ZiM a) (0:Int)),vB true])) else Q (PV.tup [vI (ZP (25:Nat) (ZiM a) (0:Int)),vB true])))))) (fun _=>by kernel_rfl) ?_
 delta Qn ZiM vI vB
 refine Za (fun h0=>?_) (fun h0=>Za (fun h1=>?_) (fun h1=>⟨?_,Za (fun h2=>Za (fun h3=>?_) (fun h3=>?_)) (fun h2=>?_)⟩))
 ·simp only[Qc_] at h0
  have:decide (0≤a)=false:=by simp;omega
  simp only[root,this,Qn_,Qd_];rfl
 ·simp_all[nz,nzA,root]
 all_goals simp only[Qf_,Qe_,ZO] at h0 h1
 all_goals try rw[Ze (show Fit (a *65536) by constructor<;>omega)] at *
 ·exact ⟨by omega,by omega,by simp,by simp⟩
 all_goals rw[ZxC (by omega)] at *
 all_goals have hf:=Ziz (n:=a *65536)
 all_goals have hb:inB a=true:=ZO.2 h1
 all_goals have h00:decide (0≤a)=true:=by simp;omega
 ·rw[Ze ZhE] at h3
  rw[Ze (by constructor<;>omega)]
  simp only[root,hb,h2,h3,h00,QZ_,Qb_];rfl
 ·rw[Ze ZhE] at h3
  simp only[root,hb,h2,h3,h00,QZ_,Qb_,Qd_,Qn_];rfl
 ·simp only[root,hb,h2,h00,QZ_,Qb_,Qd_,Ql_];rfl
def Z0c:=YN [(140,Z0O),(170,Z0Q)]
def ZtA(bit:Int)(r:Int):=r+IntKind.i64.wrap ((1:Int)* (2:Int) ^ min (IntKind.u64.wrap bit).toNat (64:Nat))
theorem Zpn:CSOk Tryz.prog Z0c:=Zb ZeJ<|Zb Zpj<|Zh
theorem ZtB:Yo Tryz.prog (Z6 Tryz.f172 0) ZlZ:=by
 refine lsG Zo.Γ (ZD Zo Zpn ZJ ZK ZQ (LS:=[]) (Yh (l:=[]) (by kernel_rfl) Z0) (n:=2000) (U4 ZvW) (U4 Za7) (fun x e s=>(e= .exit 0∧s=U4 Zcg x)) (fun x=>(x.1+1).toNat) ZlY Ztb Ztc (fun x hx=>?_)) cv4 (fun _=>rfl) (fun _ h=>h) (fun _ _ _ _ h f=>fE h f)
 ·obtain ⟨bit,n,r,up⟩:=x
  simp only[U4,Za7] at hx
  refine sxT (fun Q=>(bif decide (bit≥(0:Int)) then (((0:Int)≤IntKind.u64.wrap bit)∧(bif decide (IntKind.i64.wrap (IntKind.i64.wrap (ZtA bit r)*IntKind.i64.wrap (ZtA bit r))≤n) then Q (Ex.normal) (some ⟨48,[(8,AV.p (vI (IntKind.i64.wrap (bit - (1:Int))))),(6,pI n),(7,AV.p (vI (IntKind.i64.wrap (ZtA bit r)))),(1,AV.p (vB up))],[],[],[],[]⟩) else Q (Ex.normal) (some ⟨48,[(8,AV.p (vI (IntKind.i64.wrap (bit - (1:Int))))),(6,pI n),(7,pI r),(1,AV.p (vB up))],[],[],[],[]⟩))) else Q (Ex.exit (0:Nat)) (some ⟨48,[(7,pI r),(6,pI n),(1,AV.p (vB up))],[],[],[],[]⟩))) (fun _=>by kernel_rfl) ?_
  delta ZtA vI vB pI
  refine Za (fun h0=>⟨?r0,Za (fun h1=> .inl ⟨rfl,(IntKind.i64.wrap (bit - (1:Int)),n,IntKind.i64.wrap (r+IntKind.i64.wrap ((1:Int)* (2:Int) ^ min (IntKind.u64.wrap bit).toNat (64:Nat))),up),rfl, ?_, ?_, ?_⟩) (fun h1=> .inl ⟨rfl,(IntKind.i64.wrap (bit - (1:Int)),n,r,up),rfl, ?_, ?_, ?_⟩)⟩) (fun h0=> .inr ⟨by simp,_,rfl, ?_⟩)
  case r0=>show (0:Int)≤IntKind.u64.wrap _;have hx0:=hx;simp only[Qc_] at h0;have hu:IntKind.u64.wrap bit=bit:=(by simp[IntKind.wrap,IntKind.bits,IntKind.signed];omega);omega
  all_goals try dsimp only[U4]
  all_goals try obtain ⟨a1,a2,a3⟩:=hx
  all_goals try simp only[Qc_,Qe_] at h0
  all_goals try have hu:IntKind.u64.wrap bit=bit:=by simp[IntKind.wrap,IntKind.bits,IntKind.signed];omega
  ·have hm:=Zln h0 a1.2 a3
   obtain ⟨k1,k2,k3,k4,k5,k6⟩:=XO h0 a3
   simp only[hu,hm,Ze (show Fit (r+2 ^ bit.toNat) by constructor<;>omega),Ze k5,Qc_] at h1
   simp only[U4,hu,hm,Ze (show Fit (r+2 ^ bit.toNat) by constructor<;>omega),Ze (show Fit (bit - 1) by constructor<;>omega),Za7,k1]
   exact ⟨by omega,a2,by omega⟩
  ·simp only[Ze (show Fit (bit - 1) by constructor<;>omega)];omega
  ·have hm:=Zln h0 a1.2 a3
   obtain ⟨k1,k2,k3,k4,k5,k6⟩:=XO h0 a3
   simp only[hu,hm,Ze (show Fit (r+2 ^ bit.toNat) by constructor<;>omega),Ze k5,Qc_] at h1
   simp only[U4,hu,hm,Ze (show Fit (r+2 ^ bit.toNat) by constructor<;>omega),Ze (show Fit (bit - 1) by constructor<;>omega),Zcg,k1,k2]
   intro e s h
   unfold ZP
   rw[if_pos h1]
   exact h
  ·obtain ⟨k1,k2,k3,k4,k5,k6⟩:=XO h0 a3
   simp only[U4,Ze (show Fit (bit - 1) by constructor<;>omega),Za7,k1]
   exact ⟨by omega,a2,by omega⟩
  ·simp only[Ze (show Fit (bit - 1) by constructor<;>omega)];omega
  ·have hm:=Zln h0 a1.2 a3
   obtain ⟨k1,k2,k3,k4,k5,k6⟩:=XO h0 a3
   simp only[hu,hm,Ze (show Fit (r+2 ^ bit.toNat) by constructor<;>omega),Ze k5,Qe_] at h1
   simp only[U4,Ze (show Fit (bit - 1) by constructor<;>omega),Zcg,k1,k2]
   intro e s h
   unfold ZP
   rw[if_neg h1]
   exact h
  ·have:(bit+1).toNat=0:=by omega
   exact ⟨rfl,by simp only[U4,Zcg];rw[this];rfl⟩
theorem Zwv:ZN Tryz.prog [(7,ZlZ)] Tryz.f172:=ZI (l:=[Z6 Tryz.f172 0]) (by kernel_rfl) (ZR (i:=7) (by kernel_rfl) rfl ZtB (Z0))
def ZiN(a:Int):=IntKind.i64.wrap (a * (65536:Int))
def Zyh(a:Int):=PV.tup [vI (told (ZP (24:Nat) (ZiN a) (0:Int))).fst,vB (told (ZP (24:Nat) (ZiN a) (0:Int))).snd]
def Zyi(a:Int):=told (IntKind.i64.wrap (ZP (24:Nat) (ZiN a) (0:Int)+(1:Int)))
theorem Z1q:Zj Tryz.prog 172 Z2Q:=Zk<|Zi fun a=>Zi fun up=>EZ0<|by
 refine cfL Zpn Zwv rfl ?_
 refine sxT (fun Q=>(bif !inB a then Q (PV.tup [vI 0,vB false]) else (bif decide (a < (0:Int)) then Q (PV.tup [vI 0,vB false]) else ((Za7 (23:Int) (ZiN a) (0:Int) up)∧(bif up then (bif IntKind.i64.wrap (ZP (24:Nat) (ZiN a) (0:Int)*ZP (24:Nat) (ZiN a) (0:Int))!=IntKind.i64.wrap (a * (65536:Int)) then Q (PV.tup [vI (Zyi a).fst,vB (Zyi a).snd]) else Q (Zyh a)) else Q (Zyh a)))))) (fun _=>by kernel_rfl) ?_
 delta Qn ZiN Zyh Zyi vI vB
 refine Za (fun h0=>?_) (fun h0=>Za (fun h1=>?_) (fun h1=>⟨?_,Za (fun h2=>Za (fun h3=>?_) (fun h3=>?_)) (fun h2=>?_)⟩))
 ·simp_all[nz,nzA,root]
 ·simp only[Qc_] at h1
  have:decide (0≤a)=false:=by simp;omega
  simp only[root,this,Qn_,Qd_];rfl
 all_goals simp only[Qf_,Qe_,ZO] at h0 h1
 all_goals try rw[Ze (show Fit (a *65536) by constructor<;>omega)] at *
 ·exact ⟨by omega,by omega,by simp⟩
 all_goals have hf:=Ziz (n:=a *65536)
 all_goals have hb:inB a=true:=ZO.2 h0
 all_goals have h00:decide (0≤a)=true:=by simp;omega
 all_goals have hb2:inB (ZP 24 (a *65536) 0)=true:=ZO.2 (by omega)
 all_goals have hb3:inB (ZP 24 (a *65536) 0+1)=true:=ZO.2 (by omega)
 all_goals have hsq:=ZxD (n:=a *65536) (by omega)
 ·rw[Ze ZhE] at h3
  have h4:decide (ZP 24 (a *65536) 0 *ZP 24 (a *65536) 0 < a *65536)=true:=by simp at h3 ⊢;omega
  rw[Ze (by constructor<;>omega)]
  simp only[root,told,hb,hb3,h2,h4,h00,QZ_,Qb_];rfl
 ·rw[Ze ZhE] at h3
  have h4:decide (ZP 24 (a *65536) 0 *ZP 24 (a *65536) 0 < a *65536)=false:=by simp at h3 ⊢;omega
  simp only[root,told,hb,hb2,h2,h4,h00,QZ_,Qb_,Qd_,Qn_];rfl
 ·simp only[root,told,hb,hb2,h2,h00,QZ_,Qb_,Qd_,Ql_];rfl
theorem Zpo:CSOk Tryz.prog (YN []):=Zh
theorem ZtC:Yo Tryz.prog (Z6 Tryz.f116 0) Zmc:=by
 refine lsG Zo.Γ (ZD Zo Zpo ZJ ZK ZQ (LS:=[]) (Yh (l:=[]) (by kernel_rfl) Z0) (n:=2000) (U3 ZvX) (U3 Zch) (fun x e s=>(e= .exit 0∧s=U3 Zmb x)) (fun x=>(x.2.2 - x.1).toNat) Zma Ztd Zte (fun x hx=>?_)) cv3 (fun _=>rfl) (fun _ h=>h) (fun _ _ _ _ h f=>fE h f)
 ·obtain ⟨i,out,n⟩:=x
  simp only[U3,Zch] at hx
  refine sxT (fun Q=>(bif decide (i < n) then Q (Ex.normal) (some ⟨11,[(5,AV.p (vI (IntKind.i64.wrap (i+(1:Int))))),(3,AV.p (vI (IntKind.i64.wrap (out * (10:Int))))),(4,pI n)],[],[],[],[]⟩) else Q (Ex.exit (0:Nat)) (some ⟨11,[(3,pI out)],[],[],[],[]⟩))) (fun _=>by kernel_rfl) ?_
  delta vI pI
  refine Za (fun h0=> .inl ⟨rfl,(IntKind.i64.wrap (i+(1:Int)),IntKind.i64.wrap (out * (10:Int)),n),rfl, ?_, ?_, ?_⟩) (fun h0=> .inr ⟨by simp,_,rfl, ?_⟩)
  all_goals try dsimp only[U3]
  all_goals obtain ⟨a1,a2,a3,a4⟩:=hx
  all_goals simp only[Qc_,Qe_] at h0
  ·have hw:IntKind.i64.wrap (i+1)=i+1:=Ze (by constructor<;>omega)
   have h1:=Jz i
   have h2:=Zix (i:=i+1) (by omega)
   rw[Zft a1] at h2
   rw[hw,Ze (by constructor<;>omega)]
   simp only[U3,Zch]
   exact ⟨by omega,by omega,a3,by rw[a4,Zft a1]⟩
  ·show (n - IntKind.i64.wrap (i+1)).toNat < (n - i).toNat
   rw[Ze (by constructor<;>omega)];omega
  ·exact fun e s h=>h
  ·have:i=n:=by omega
   subst this
   exact ⟨rfl,by rw[a4];rfl⟩
theorem Zww:ZN Tryz.prog [(4,Zmc)] Tryz.f116:=ZI (l:=[Z6 Tryz.f116 0]) (by kernel_rfl) (ZR (i:=4) (by kernel_rfl) rfl ZtC (Z0))
theorem Zwx:Zj Tryz.prog 116 Z2R:=Zk<|Zi fun n=>EZ1 fun hp0=>by
 refine cfL Zpo Zww rfl ?_
 refine sxT (fun Q=>((Zch (0:Int) (1:Int) n)∧Q (vI (Z2 n)))) (fun _=>by kernel_rfl) ?_
 delta Qn vI
 refine ⟨?_, ?_⟩
 ·exact ⟨by omega,hp0.1,hp0.2,rfl⟩
 ·rfl
theorem Zwy:CSOk Tryz.prog (YN []):=Zh
theorem Zyj:Yo Tryz.prog (Z6 Tryz.f47 0) ZrS:=by
 refine lsG Zo.Γ (ZD Zo Zwy ZJ ZK ZQ (LS:=[]) (Yh (l:=[]) (by kernel_rfl) Z0) (n:=2000) (U2 Z0a) (U2 ZhK) (fun x e s=>(e= .exit 0∧s=U2 ZhJ x)) (fun x=>x.1.toNat) ZrR ZxT ZxU (fun x hx=>?_)) cv2 (fun _=>rfl) (fun _ h=>h) (fun _ _ _ _ h f=>fE h f)
 ·obtain ⟨k,out⟩:=x
  simp only[U2,ZhK] at hx
  refine sxT (fun Q=>(bif decide (k > (0:Int)) then Q (Ex.normal) (some ⟨11,[(0,AV.p (vI (IntKind.i64.wrap (k - (1:Int))))),(3,AV.p (vI (IntKind.i64.wrap ((10:Int)*out))))],[],[],[],[]⟩) else Q (Ex.exit (0:Nat)) (some ⟨11,[(3,pI out)],[],[],[],[]⟩))) (fun _=>by kernel_rfl) ?_
  delta vI pI
  refine Za (fun h0=> .inl ⟨rfl,(IntKind.i64.wrap (k - (1:Int)),IntKind.i64.wrap ((10:Int)*out)),rfl, ?_, ?_, ?_⟩) (fun h0=> .inr ⟨by simp,_,rfl, ?_⟩)
  all_goals try dsimp only[U2]
  all_goals obtain ⟨a1,a2⟩:=hx
  all_goals simp only[Qc_,Qe_] at h0
  all_goals try have e1:out *10 *Z2 (k - 1)=out *Z2 k:=by rw[Int.mul_assoc,Int.mul_comm 10,←Zft (by omega),Int.sub_add_cancel]
  all_goals try have e2:out *10≤out *10 *Z2 (k - 1):=by have:=Int.mul_le_mul_of_nonneg_left (Jz (k - 1)) (show 0≤out *10 by omega);omega
  all_goals try rw[Ze (show Fit (k - 1) by constructor<;>omega)]
  ·rw[Ze (by constructor<;>omega)]
   exact ⟨by omega,by omega,by rw[Int.mul_comm 10 out,e1];exact a2.2⟩
  ·(try simp only);omega
  ·rw[Ze (by constructor<;>omega)]
   intro e s h
   simp only[U2,ZhJ] at h ⊢
   rw[Int.mul_comm 10 out,e1] at h
   exact h
  ·have:k=0:=by omega
   subst this
   exact ⟨rfl,by simp[U2,pI,vI,vB,Iv.enc,Dec.enc,ZhJ,Z2]⟩
theorem Z0d:ZN Tryz.prog [(3,ZrS)] Tryz.f47:=ZI (l:=[Z6 Tryz.f47 0]) (by kernel_rfl) (ZR (i:=3) (by kernel_rfl) rfl Zyj (Z0))
theorem ZtD:Zj Tryz.prog 47 e47:=Zk<|Zi fun n=>EZ1 fun hp0=>by
 refine cfL Zwy Z0d rfl ?_
 refine sxT (fun Q=>((ZhK n (1:Int))∧Q (vI ((1:Int)*Z2 n)))) (fun _=>by kernel_rfl) ?_
 delta Qn vI
 refine ⟨?_, ?_⟩
 ·exact ⟨hp0,by have:=Zix hp0.2;omega⟩
 ·simp[nz,nzA]
theorem Zwz(a:Iv)(b:Iv):Con Tryz.prog 66 [.agg (Iv.enc a),.agg (Iv.enc b)] (.agg (Iv.enc (Ye a b))):=by
 refine cf0 (Zb Zts<|Zb Zap<|Zb Zws<|Zb Zpk<|Zh) (fn:=Tryz.f66) rfl ?_
 refine sxT (fun Q=>(bif !both a b then Q (PV.agg [vI 0,vI 0,vB true]) else Q (PV.agg (eIv (ends mul a b))))) (fun _=>by kernel_rfl) ?_
 delta Qn eIv vI vB
 refine Za (fun h0=>?_) (fun h0=>?_)
 all_goals (try simp only[Qi_,Qf_,bne] at *)
 all_goals (simp only[Ye,Zt,Zs,List.foldl,Qr_,Qp_,Ql_,Qn_,Q5_,Q4_,Qw_,Q3_,Qu_,Qt_,Qb_,Qd_,QD_,Q8_, *];first | rfl | (simp only[nz,nzA,nz1,QE_,QN_,Iv.enc,V.enc,Ray.enc, *];first | done | rfl))
theorem Zzd:Zj Tryz.prog 66 e66:=Zk<|Zi fun a=>Zi fun b=>EZ0<|Zwz a b
theorem Zw0:Zj Tryz.prog 111 Z0R:=Zk<|Zi fun a=>Zi fun b=>EZ0<|by
 refine cf0 (Zb ZbI<|Zb JO<|Zb Zwt<|Zh) (fn:=Tryz.f111) rfl ?_
 refine sxT (fun Q=>(bif !right a then Q (PV.agg [vI 0,vI 0,vB true]) else (bif !right b then Q (PV.agg [vI 0,vI 0,vB true]) else Q (PV.agg (eIv (ends mul a b)))))) (fun _=>by kernel_rfl) ?_
 delta Qn eIv vI vB
 refine Za (fun h0=>?_) (fun h0=>Za (fun h1=>?_) (fun h1=>?_))
 all_goals (try simp only[Qi_,Qf_,bne] at *)
 all_goals (simp only[Ye,both,Zt,Zs,List.foldl,Qr_,Qp_,Ql_,Qn_,Q5_,Q4_,Qw_,Q3_,Qu_,Qt_,Qb_,Qd_,QD_,Q8_, *];first | rfl | (simp only[nz,nzA,nz1,QE_,QN_,Iv.enc,V.enc,Ray.enc, *];first | done | rfl))
theorem Zno:Zj Tryz.prog 63 e63:=Zk<|Zi fun a=>Zi fun b=>EZ0<|by
 refine cf0 (Zb Zts<|Zb Z1n<|Zb Zap<|Zb Zws<|Zb Zwm<|Zh) (fn:=Tryz.f63) rfl ?_
 refine sxT (fun Q=>(bif !both a b then Q (PV.agg [vI 0,vI 0,vB true]) else (bif Men.has b (0:Int) then Q (PV.agg [vI 0,vI 0,vB true]) else Q (PV.agg (eIv (ends div a b)))))) (fun _=>by kernel_rfl) ?_
 delta Qn eIv vI vB
 refine Za (fun h0=>?_) (fun h0=>Za (fun h1=>?_) (fun h1=>?_))
 all_goals (try simp only[Qi_,Qf_,bne] at *)
 all_goals (simp only[Z8,Zt,Zs,List.foldl,Qr_,Qp_,Ql_,Qn_,Q5_,Q4_,Qw_,Q3_,Qu_,Qt_,Qb_,Qd_,QD_,Q8_, *];first | rfl | (simp only[nz,nzA,nz1,QE_,QN_,Iv.enc,V.enc,Ray.enc, *];first | done | rfl))
def ZtE:=PV.agg [vI 0,vI 0,vB true]
theorem ZtF:Zj Tryz.prog 93 e93:=Zk<|Zi fun a=>Zi fun b=>EZ0<|by
 refine cf0 (Zb ZbI<|Zb JO<|Zb Zwt<|Zh) (fn:=Tryz.f93) rfl ?_
 refine sxT (fun Q=>(bif !right a then Q ZtE else (bif !right b then Q ZtE else (bif decide (b.lo≤(0:Int)) then (bif decide (b.hi≥(0:Int)) then Q ZtE else Q (PV.agg (eIv (ends div a b)))) else Q (PV.agg (eIv (ends div a b))))))) (fun _=>by kernel_rfl) ?_
 delta Qn ZtE eIv vI vB
 refine Za (fun h0=>?_) (fun h0=>Za (fun h1=>?_) (fun h1=>Za (fun h2=>Za (fun h3=>?_) (fun h3=>?_)) (fun h2=>?_)))
 all_goals simp only[Qi_,Qf_,Qc_,Qe_] at *
 ·simp[nz,nzA,nz1,Z8,both,h0,none',Iv.enc]
 ·simp[nz,nzA,nz1,Z8,both,h0,h1,none',Iv.enc]
 ·have hh:has b 0=true:=by simp[has,h1];omega
  simp[nz,nzA,nz1,Z8,both,h0,h1,hh,none',Iv.enc]
 ·have hh:has b 0=false:=by simp[has,h1];omega
  simp[nz,nzA,nz1,Z8,both,h0,h1,hh,Iv.enc]
 ·have hh:has b 0=false:=by simp[has,h1];omega
  simp[nz,nzA,nz1,Z8,both,h0,h1,hh,Iv.enc]
def Zpp(a:Iv):=List.foldl imax (IntKind.i64.wrap ((0:Int) - a.lo)) [a.hi]
def Zyk(a:Iv):=List.foldl imax a.lo [IntKind.i64.wrap ((0:Int) - a.hi),(0:Int)]
theorem Zw1:Zj Tryz.prog 118 Z2S:=Zk<|Zi fun a=>EZ0<|by
 refine cf0 (Zb Zee<|Zb Zap<|Zb Zpk<|Zb ZcK<|Zh) (fn:=Tryz.f118) rfl ?_
 refine sxT (fun Q=>(bif !right a then Q (PV.agg [vI 0,vI 0,vB true]) else (bif !(mul (Zpp a) (Zpp a) true).snd then Q (PV.agg [vI 0,vI 0,vB true]) else Q (PV.agg (eIv (of (mul (Zyk a) (Zyk a) false).fst (mul (Zpp a) (Zpp a) true).fst)))))) (fun _=>by kernel_rfl) ?_
 delta Qn Zpp Zyk eIv vI vB
 refine Za (fun h0=>?_) (fun h0=>Za (fun h1=>?_) (fun h1=>?_))
 all_goals simp only[Qi_,Qf_,List.foldl,Zs,Zt] at *
 ·simp[nz,nzA,nz1,sqr,h0,none',Iv.enc]
 all_goals have ha:=Xr h0
 all_goals rw[Xa (n:=a.lo) (by omega)] at *
 all_goals try rw[Xa (n:=a.hi) (by omega)]
 ·simp[nz,nzA,nz1,sqr,h0,far,h1,none',Iv.enc]
 ·simp[nz,nzA,nz1,sqr,h0,far,near,h1,Iv.enc]
def Zyl(a:Iv):=List.foldl imax a.lo [IntKind.i64.wrap ((0:Int) - a.lo),a.hi,IntKind.i64.wrap ((0:Int) - a.hi)]
def Zpq(a:Iv):=mul (Zyl a) (Zyl a) true
def Zym(a:Iv):=List.foldl imin (List.foldl imax a.lo [IntKind.i64.wrap ((0:Int) - a.lo)]) [List.foldl imax a.hi [IntKind.i64.wrap ((0:Int) - a.hi)]]
def ZtG:=PV.agg [vI 0,vI 0,vB true]
def Zyn(a:Iv)(Q:PV→Prop):Prop:=bif !(Zpq a).snd then Q ZtG else Q (PV.agg (eIv (of (mul (Zym a) (Zym a) false).fst (Zpq a).fst)))
theorem Zze:Zj Tryz.prog 92 e92:=Zk<|Zi fun a=>EZ0<|by
 refine cf0 (Zb ZbI<|Zb JO<|Zb Zpl<|Zb Zai<|Zh) (fn:=Tryz.f92) rfl ?_
 refine sxT (fun Q=>(bif !right a then Q ZtG else (bif decide (a.lo≤(0:Int)) then (bif decide (a.hi≥(0:Int)) then (bif !(Zpq a).snd then Q ZtG else Q (PV.agg (eIv (of (0:Int) (Zpq a).fst)))) else (Zyn a Q)) else (Zyn a Q)))) (fun _=>by kernel_rfl) ?_
 delta Qn Zpq Zym Zyn Zyl ZtG eIv vI vB
 refine Za (fun h0=>?_) (fun h0=>Za (fun h1=>Za (fun h2=>Za (fun h3=>?_) (fun h3=>?_)) (fun h2=>Za (fun h3=>?_) (fun h3=>?_))) (fun h1=>Za (fun h2=>?_) (fun h2=>?_)))
 all_goals simp only[Qi_,Qf_,List.foldl,Zs,Zt] at *
 ·simp[nz,nzA,nz1,sqr,h0,none',Iv.enc]
 all_goals have ha:=Xr h0
 all_goals rw[Xa (n:=a.lo) (by omega),Xa (n:=a.hi) (by omega)] at *
 all_goals rw[show max (max (max a.lo (-a.lo)) a.hi) (-a.hi)=far a by unfold far;omega] at *
 ·simp[nz,nzA,nz1,sqr,h0,h3,none',Iv.enc]
 ·simp only[Qc_] at h1 h2
  have e:near a=0:=by unfold near;omega
  simp[nz,nzA,nz1,sqr,h0,h3,e,Iv.enc,show (mul 0 0 false).1=0 from rfl]
 ·simp[nz,nzA,nz1,sqr,h0,h3,none',Iv.enc]
 ·simp only[Qc_,Qe_] at h1 h2
  have e:min (max a.lo (-a.lo)) (max a.hi (-a.hi))=near a:=by unfold near;omega
  rw[e]
  simp[nz,nzA,nz1,sqr,h0,h3,Iv.enc]
 ·simp[nz,nzA,nz1,sqr,h0,h2,none',Iv.enc]
 ·simp only[Qe_] at h1
  have e:min (max a.lo (-a.lo)) (max a.hi (-a.hi))=near a:=by unfold near;omega
  rw[e]
  simp[nz,nzA,nz1,sqr,h0,h2,Iv.enc]
theorem Z2d:Zj Tryz.prog 68 e68:=Zk<|Zi fun a=>Zi fun k=>EZ0<|by
 refine cf0 (Zb Zee<|Zb ZhL<|Zb Zap<|Zb ZcK<|Zh) (fn:=Tryz.f68) rfl ?_
 refine sxT (fun Q=>(bif !right a then Q (PV.agg [vI 0,vI 0,vB true]) else (bif !inB k then Q (PV.agg [vI 0,vI 0,vB true]) else Q (PV.agg (eIv (of (List.foldl imin (IntKind.i64.wrap (k *a.lo)) [IntKind.i64.wrap (k *a.hi)]) (List.foldl imax (IntKind.i64.wrap (k *a.lo)) [IntKind.i64.wrap (k *a.hi)]))))))) (fun _=>by kernel_rfl) ?_
 delta Qn eIv vI vB
 refine Za (fun h0=>?_) (fun h0=>Za (fun h1=>?_) (fun h1=>?_))
 all_goals (try simp only[Qi_,Qf_] at *)
 ·simp only[times,h0,Ql_,Qd_];rfl
 ·simp only[times,h0,h1,Qn_,Qd_];rfl
 ·obtain ⟨b1,b2,b3,b4⟩:=Xr h0
  have m1:=Za6 h1 (ZO.2 b2)
  have m2:=Za6 h1 (ZO.2 b3)
  simp only[times,h0,h1,QZ_,Qb_,List.foldl,Zt,Zs,Ze (show Fit (k *a.lo) by constructor<;>omega),Ze (show Fit (k *a.hi) by constructor<;>omega)];rfl
theorem Z1r:Zj Tryz.prog 113 Z0S:=Zk<|Zi fun a=>Zi fun k=>EZ0<|by
 refine cf0 (Zb ZbI<|Zb ZeJ<|Zb JO<|Zb Zai<|Zh) (fn:=Tryz.f113) rfl ?_
 refine sxT (fun Q=>(bif !right a then Q (PV.agg [vI 0,vI 0,vB true]) else (bif !inB k then Q (PV.agg [vI 0,vI 0,vB true]) else Q (PV.agg (eIv (of (List.foldl imin (IntKind.i64.wrap (k *a.lo)) [IntKind.i64.wrap (k *a.hi)]) (List.foldl imax (IntKind.i64.wrap (k *a.lo)) [IntKind.i64.wrap (k *a.hi)]))))))) (fun _=>by kernel_rfl) ?_
 delta Qn eIv vI vB
 refine Za (fun h0=>?_) (fun h0=>Za (fun h1=>?_) (fun h1=>?_))
 all_goals (try simp only[Qi_,Qf_] at *)
 ·simp only[times,h0,Ql_,Qd_];rfl
 ·simp only[times,h0,h1,Qn_,Qd_];rfl
 ·obtain ⟨b1,b2,b3,b4⟩:=Xr h0
  have m1:=Za6 h1 (ZO.2 b2)
  have m2:=Za6 h1 (ZO.2 b3)
  simp only[times,h0,h1,QZ_,Qb_,List.foldl,Zt,Zs,Ze (show Fit (k *a.lo) by constructor<;>omega),Ze (show Fit (k *a.hi) by constructor<;>omega)];rfl
theorem Z1s:Zj Tryz.prog 156 Z2T:=Zk<|Zi fun a=>EZ0<|by
 refine cf0 (Zb Zee<|Zb Zap<|Zb Z1p<|Zb ZcK<|Zh) (fn:=Tryz.f156) rfl ?_
 refine sxT (fun Q=>(bif !right a then Q (PV.agg [vI 0,vI 0,vB true]) else (bif decide (a.lo < (0:Int)) then Q (PV.agg [vI 0,vI 0,vB true]) else Q (PV.agg (eIv (of (root a.lo false).fst (root a.hi true).fst)))))) (fun _=>by kernel_rfl) ?_
 delta Qn eIv vI vB
 refine Za (fun h0=>?_) (fun h0=>Za (fun h1=>?_) (fun h1=>?_))
 all_goals (try simp only[Qi_,Qf_,bne] at *)
 all_goals first | (simp only[Wz,Zt,Zs,List.foldl,Qr_,Qp_,Ql_,Qn_,Q5_,Q4_,Qw_,Q3_,Qu_,Qt_,Qb_,Qd_,QD_,Q8_, *];first | rfl | (simp only[nz,nzA,nz1,QE_,QN_,Iv.enc,V.enc,Ray.enc, *];first | done | rfl)) | (simp_all[nz,nzA,nz1,Iv.enc,V.enc,Ray.enc,Dec.enc,Shape.enc,none',told,K4_,Wz];done) | (simp_all[nz,nzA,nz1,Iv.enc,V.enc,Ray.enc,Dec.enc,Shape.enc,none',told,K4_,Wz];(repeat' split)<;>(first | rfl | (exfalso;omega) | (simp_all;done) | omega))
theorem Z1t:Zj Tryz.prog 149 Z2U:=Zk<|Zi fun a=>EZ0<|by
 refine cf0 (Zb ZbI<|Zb JO<|Zb Z1q<|Zb Zai<|Zh) (fn:=Tryz.f149) rfl ?_
 refine sxT (fun Q=>(bif !right a then Q (PV.agg [vI 0,vI 0,vB true]) else (bif decide (a.lo < (0:Int)) then Q (PV.agg [vI 0,vI 0,vB true]) else Q (PV.agg (eIv (of (root a.lo false).fst (root a.hi true).fst)))))) (fun _=>by kernel_rfl) ?_
 delta Qn eIv vI vB
 refine Za (fun h0=>?_) (fun h0=>Za (fun h1=>?_) (fun h1=>?_))
 all_goals (try simp only[Qi_,Qf_,bne] at *)
 all_goals first | (simp only[Wz,Zt,Zs,List.foldl,Qr_,Qp_,Ql_,Qn_,Q5_,Q4_,Qw_,Q3_,Qu_,Qt_,Qb_,Qd_,QD_,Q8_, *];first | rfl | (simp only[nz,nzA,nz1,QE_,QN_,Iv.enc,V.enc,Ray.enc, *];first | done | rfl)) | (simp_all[nz,nzA,nz1,Iv.enc,V.enc,Ray.enc,Dec.enc,Shape.enc,none',told,K4_,Wz];done) | (simp_all[nz,nzA,nz1,Iv.enc,V.enc,Ray.enc,Dec.enc,Shape.enc,none',told,K4_,Wz];(repeat' split)<;>(first | rfl | (exfalso;omega) | (simp_all;done) | omega))
theorem Zpr:Zj Tryz.prog 115 Z2V:=Zk<|Zi fun d=>EZ0<|by
 refine cf0 Zh (fn:=Tryz.f115) rfl ?_
 refine sxT (fun Q=>(bif decide (d.c≥(-100000000000:Int)) then (bif decide (d.c≤(100000000000:Int)) then (bif decide (d.scale≥(0:Int)) then (bif decide (d.scale≤(6:Int)) then (bif d.scale==(0:Int) then Q (vB true) else (((10:Int)≠(0:Int))∧Q (vB (d.c.tmod (10:Int)!=(0:Int))))) else Q (vB false)) else Q (vB false)) else Q (vB false)) else Q (vB false))) (fun _=>by kernel_rfl) ?_
 delta Qn vB
 refine Za (fun h0=>Za (fun h1=>Za (fun h2=>Za (fun h3=>Za (fun h4=>?_) (fun h4=>⟨?r0, ?_⟩)) (fun h3=>?_)) (fun h2=>?_)) (fun h1=>?_)) (fun h0=>?_)
 case r0=>first | rfl | (simp only[YI,dI,dIv];omega) | (simp[Zf,chunk];done) | (simp only[YI,dI,dIv];done) | (exact Zp (fun _=>rfl) (by omega) (by omega)) | (simp only[Qc_,Qk_] at *;exact Zp (fun _=>rfl) (by omega) (by omega)) | assumption | trivial | (simp_all;done) | omega
 all_goals (try simp only[Qi_,Qf_,bne] at *)
 all_goals (simp only[ZA,Zt,Zs,List.foldl,Qr_,Qp_,Ql_,Qn_,Q5_,Q4_,Qw_,Q3_,Qu_,Qt_,Qb_,Qd_,QD_,Q8_, *];first | rfl | (simp only[nz,nzA,nz1,QE_,QN_,Iv.enc,V.enc,Ray.enc, *];first | done | rfl))
theorem ZtH:Zj Tryz.prog 46 e46:=Zk<|Zi fun d=>EZ0<|by
 refine cf0 Zh (fn:=Tryz.f46) rfl ?_
 refine sxT (fun Q=>(bif decide (d.c≥(-100000000000:Int)) then (bif decide (d.c≤(100000000000:Int)) then (bif decide (d.scale≥(0:Int)) then (bif decide (d.scale≤(6:Int)) then (bif d.scale==(0:Int) then Q (vB true) else (((10:Int)≠(0:Int))∧Q (vB (d.c.tmod (10:Int)!=(0:Int))))) else Q (vB false)) else Q (vB false)) else Q (vB false)) else Q (vB false))) (fun _=>by kernel_rfl) ?_
 delta Qn vB
 refine Za (fun h0=>Za (fun h1=>Za (fun h2=>Za (fun h3=>Za (fun h4=>?_) (fun h4=>⟨?r0, ?_⟩)) (fun h3=>?_)) (fun h2=>?_)) (fun h1=>?_)) (fun h0=>?_)
 case r0=>first | rfl | (simp only[YI,dI,dIv];omega) | (simp[Zf,chunk];done) | (simp only[YI,dI,dIv];done) | (exact Zp (fun _=>rfl) (by omega) (by omega)) | (simp only[Qc_,Qk_] at *;exact Zp (fun _=>rfl) (by omega) (by omega)) | assumption | trivial | (simp_all;done) | omega
 all_goals (try simp only[ZaP,Ze9,Zg8,Zdi,Zaz,ZeA,Zcc,WO,J0,Zdj,Zdk,Zg9,ZeC,ZeD,ZeE,Ke_,Qi_,Qf_,bne] at *)
 all_goals (simp only[ZA,Zt,Zs,List.foldl,Qr_,Qp_,Ql_,Qn_,Q5_,Q4_,Qw_,Q3_,Qu_,Qt_,Qb_,Qd_,QD_,Q8_, *];first | rfl | (simp only[nz,nzA,nz1,QE_,QN_,Iv.enc,V.enc,Ray.enc, *];first | done | rfl))
def ZtI(d:Dec):=(0:Int) - IntKind.i64.wrap (d.c * (65536:Int))
theorem Znp:Zj Tryz.prog 59 e59:=Zk<|Zi fun d=>EZ0<|by
 refine cf0 (Zb Zpr<|Zb Zap<|Zb Zwx<|Zb Zwk<|Zb ZcK<|Zh) (fn:=Tryz.f59) rfl ?_
 refine sxT (fun Q=>(bif !ZA d then Q (PV.agg [vI 0,vI 0,vB true]) else (((0:Int)≤d.scale∧d.scale≤(18:Int))∧(((-4611686018427387904:Int)≤IntKind.i64.wrap (d.c * (65536:Int))∧IntKind.i64.wrap (d.c * (65536:Int))≤(4611686018427387904:Int))∧(((-4611686018427387904:Int)≤IntKind.i64.wrap (ZtI d)∧IntKind.i64.wrap (ZtI d)≤(4611686018427387904:Int))∧Q (PV.agg (eIv (of (floor (IntKind.i64.wrap (d.c * (65536:Int))) (Z2 d.scale)) (IntKind.i64.wrap ((0:Int) - floor (IntKind.i64.wrap (ZtI d)) (Z2 d.scale))))))))))) (fun _=>by kernel_rfl) ?_
 delta Qn ZtI eIv vI vB
 refine Za (fun h0=>?_) (fun h0=>⟨?_,⟨?_,⟨?_, ?_⟩⟩⟩)
 ·simp only[Qi_] at h0
  simp[nz,nzA,nz1,Zg,h0,none',Iv.enc]
 all_goals simp only[Qf_] at h0
 all_goals have hd:=XV h0
 all_goals have hw:IntKind.i64.wrap (d.c *65536)=d.c *65536:=Ze (by constructor<;>omega)
 all_goals have hp:=Jz d.scale
 all_goals try rw[hw]
 all_goals try rw[Xa (n:=d.c *65536) (by omega)]
 ·omega
 ·omega
 ·omega
 ·have hf:=Zdh (a:= -(d.c *65536)) (b:=Z2 d.scale) (by omega)
  have e:floor (-(d.c *65536)) (Z2 d.scale)=(-(d.c *65536)).fdiv (Z2 d.scale):=rfl
  rw[Xa (n:=floor (-(d.c *65536)) (Z2 d.scale)) (by rw[e];omega)]
  simp[nz,nzA,nz1,Zg,h0,Iv.enc]
def ZtJ(d:Dec):=(-4611686018427387904:Int)≤IntKind.i64.wrap (d.c * (65536:Int))∧IntKind.i64.wrap (d.c * (65536:Int))≤(4611686018427387904:Int)
theorem ZtK:Zj Tryz.prog 89 e89:=Zk<|Zi fun d=>EZ0<|by
 refine cf0 (Zb ZtH<|Zb JO<|Zb ZtD<|Zb Zkn<|Zb Zpi<|Zb Zai<|Zh) (fn:=Tryz.f89) rfl ?_
 refine sxT (fun Q=>(bif !ZA d then Q (PV.agg [vI 0,vI 0,vB true]) else (((0:Int)≤d.scale∧d.scale≤(18:Int))∧((ZtJ d)∧(((0:Int)≤d.scale∧d.scale≤(18:Int))∧((ZtJ d)∧(((-4611686018427387904:Int)≤Z2 d.scale∧Z2 d.scale≤(4611686018427387904:Int))∧((Z2 d.scale≠(0:Int))∧Q (PV.agg (eIv (of (floor (IntKind.i64.wrap (d.c * (65536:Int))) (Z2 d.scale)) (up1 (IntKind.i64.wrap (d.c * (65536:Int))) (Z2 d.scale))))))))))))) (fun _=>by kernel_rfl) ?_
 delta Qn ZtJ eIv vI vB
 refine Za (fun h0=>?_) (fun h0=>⟨?_,⟨?_,⟨?_,⟨?_,⟨?_,⟨?_, ?_⟩⟩⟩⟩⟩⟩)
 ·simp only[Qi_] at h0
  simp[nz,nzA,nz1,Zg,h0,none',Iv.enc]
 all_goals simp only[Qf_] at h0
 all_goals have hd:=XV h0
 all_goals have hw:IntKind.i64.wrap (d.c *65536)=d.c *65536:=Ze (by constructor<;>omega)
 all_goals have hp:=Jz d.scale
 all_goals have hq:=Zix (i:=d.scale) (by omega)
 all_goals try rw[hw]
 ·omega
 ·omega
 ·omega
 ·omega
 ·omega
 ·omega
 ·rw[←ZoI (by omega)]
  simp[nz,nzA,nz1,Zg,h0,Iv.enc]
theorem Z2e:Zj Tryz.prog 54 e54:=Zk<|Zi fun n=>Zi fun low=>Zi fun high=>EZ0<|by
 refine cf0 Zh (fn:=Tryz.f54) rfl ?_
 refine sxT (fun Q=>Q (vI (List.foldl imax low [List.foldl imin high [n]]))) (fun _=>by kernel_rfl) ?_
 delta Qn vI
 refine ?_
 simp[nz,nzA,within,List.foldl,Zs,Zt]
theorem Zkp:Zj Tryz.prog 12 e12:=Zk<|Zi fun n=>Zi fun m=>EZ1 fun hp0=>by
 refine cf0 Zh (fn:=Tryz.f12) rfl ?_
 refine sxT (fun Q=>((m≠(0:Int))∧(bif decide (n.tmod m < (0:Int)) then Q (vI (IntKind.i64.wrap (n.tmod m+m))) else Q (vI (n.tmod m))))) (fun _=>by kernel_rfl) ?_
 delta Qn vI
 refine ⟨?r0,Za (fun h0=>?_) (fun h0=>?_)⟩
 case r0=>first | rfl | (simp only[YI,dI,dIv];omega) | (simp[Zf,chunk];done) | (simp only[YI,dI,dIv];done) | (exact Zp (fun _=>rfl) (by omega) (by omega)) | (simp only[Qc_,Qk_] at *;exact Zp (fun _=>rfl) (by omega) (by omega)) | assumption | trivial | (simp_all;done) | omega
 all_goals simp only[Qc_,Qe_] at h0
 all_goals have hb:=ZzT (n:=n) hp0.1
 ·rw[Ze (by constructor<;>omega)]
  simp[nz,nzA,ZrJ hp0.1,h0]
 ·simp[nz,nzA,ZrJ hp0.1,h0]
def Zps(n:Int):=IntKind.i64.wrap (n.tdiv (9:Int))
def Zyo:=(0:Int) < (9:Int)∧(9:Int)≤(4611686018427387904:Int)
def Zpt:=(9:Int)≠(0:Int)
theorem Z2f:Zj Tryz.prog 55 e55:=Zk<|Zi fun n=>EZ0<|by
 refine cf0 (Zb Zkp<|Zh) (fn:=Tryz.f55) rfl ?_
 refine sxT (fun Q=>(Zyo∧(bif pick n (9:Int)==(0:Int) then Q (vI n) else (bif pick n (9:Int)==(1:Int) then (Zpt∧(((0:Int) < (201:Int)∧(201:Int)≤(4611686018427387904:Int))∧Q (vI (IntKind.i64.wrap (IntKind.i64.wrap (pick (Zps n) (201:Int) - (100:Int))* (65536:Int)))))) else (bif pick n (9:Int)==(2:Int) then (Zpt∧(Zyo∧Q (vI (IntKind.i64.wrap (pick (Zps n) (9:Int) - (4:Int)))))) else (bif pick n (9:Int)==(3:Int) then (Zpt∧(((0:Int) < (2147483657:Int)∧(2147483657:Int)≤(4611686018427387904:Int))∧Q (vI (IntKind.i64.wrap (IntKind.i64.wrap (pick (Zps n) (2147483657:Int) - (1073741824:Int)) - (4:Int)))))) else (Zpt∧(((0:Int) < (2621440:Int)∧(2621440:Int)≤(4611686018427387904:Int))∧Q (vI (IntKind.i64.wrap (pick (Zps n) (2621440:Int) - (1310720:Int)))))))))))) (fun _=>by kernel_rfl) ?_
 delta Qn Zps Zyo Zpt vI
 refine ⟨?r8,Za (fun h0=>?_) (fun h0=>Za (fun h1=>⟨?r1,⟨?r0, ?_⟩⟩) (fun h1=>Za (fun h2=>⟨?r3,⟨?r2, ?_⟩⟩) (fun h2=>Za (fun h3=>⟨?r5,⟨?r4, ?_⟩⟩) (fun h3=>⟨?r7,⟨?r6, ?_⟩⟩))))⟩
 case r0|r1|r2|r3|r4|r5|r6|r7|r8=>omega
 all_goals have b1:=YE (n:=IntKind.i64.wrap (n.tdiv 9)) (m:=201) (by omega)
 all_goals have b2:=YE (n:=IntKind.i64.wrap (n.tdiv 9)) (m:=9) (by omega)
 all_goals have b3:=YE (n:=IntKind.i64.wrap (n.tdiv 9)) (m:=2147483657) (by omega)
 all_goals have b4:=YE (n:=IntKind.i64.wrap (n.tdiv 9)) (m:=2621440) (by omega)
 ·simp only[num,h0,Qb_];rfl
 ·rw[Ze (show Fit (pick (IntKind.i64.wrap (n.tdiv 9)) 201 - 100) by constructor<;>omega),Ze (by constructor<;>omega)]
  simp only[num,h0,h1,Qb_,Qd_];rfl
 ·rw[Ze (show Fit (pick (IntKind.i64.wrap (n.tdiv 9)) 9 - 4) by constructor<;>omega)]
  simp only[num,h0,h1,h2,Qb_,Qd_];rfl
 ·rw[Ze (show Fit (pick (IntKind.i64.wrap (n.tdiv 9)) 2147483657 - 1073741824) by constructor<;>omega),Ze (by constructor<;>omega)]
  simp only[num,h0,h1,h2,h3,Qb_,Qd_];rfl
 ·rw[Ze (show Fit (pick (IntKind.i64.wrap (n.tdiv 9)) 2621440 - 1310720) by constructor<;>omega)]
  simp only[num,h0,h1,h2,h3,Qb_,Qd_];rfl
theorem Zzf:Zj Tryz.prog 17 e17:=Zk<|Zi fun x=>Zi fun w=>EZ1 fun hp0=>by
 refine cf0 (Zb Z2e<|Zh) (fn:=Tryz.f17) rfl ?_
 refine sxT (fun Q=>Q (PV.agg [vI (within x (-1073741824:Int) (1073741824:Int)),vI (List.foldl imin (1073741824:Int) [IntKind.i64.wrap (within x (-1073741824:Int) (1073741824:Int)+w)]),vB false])) (fun _=>by kernel_rfl) ?_
 delta Qn vI vB
 refine ?_
 have hb: -1073741824≤within x (-1073741824) 1073741824∧within x (-1073741824) 1073741824≤1073741824:=by unfold within;omega
 rw[Ze (by constructor<;>omega)]
 simp only[List.foldl,Zt];rfl
def Zl3(w:Int):=IntKind.i64.wrap (w.tdiv (12:Int))
def Zyp(n:Int)(w:Int)(Q:PV→Prop):Prop:=((12:Int)≠(0:Int))∧(((0:Int) < (9000:Int)∧(9000:Int)≤(4611686018427387904:Int))∧(((0:Int)≤pick (Zl3 w) (9000:Int)∧pick (Zl3 w) (9000:Int)≤(1073741824:Int))∧Q (PV.agg (eIv (wide (num n) (pick (Zl3 w) (9000:Int)))))))
theorem Z2g:Zj Tryz.prog 18 e18:=Zk<|Zi fun n=>Zi fun w=>EZ0<|by
 refine cf0 (Zb Z2f<|Zb Zkp<|Zb Zzf<|Zh) (fn:=Tryz.f18) rfl ?_
 refine sxT (fun Q=>(((0:Int) < (12:Int)∧(12:Int)≤(4611686018427387904:Int))∧(bif pick w (12:Int)==(0:Int) then (((12:Int)≠(0:Int))∧Q (PV.agg [vI (num n),vI (num (Zl3 w)),vB false])) else (bif pick w (12:Int)==(1:Int) then (((12:Int)≠(0:Int))∧(((0:Int) < (5:Int)∧(5:Int)≤(4611686018427387904:Int))∧Q (PV.agg [vI (num n),vI (num n),vB (pick (Zl3 w) (5:Int)==(4:Int))]))) else (bif pick w (12:Int)==(2:Int) then (bif pick w (12:Int)==(2:Int) then Q (PV.agg [vI (num n),vI (num n),vB false]) else (Zyp n w Q)) else (bif pick w (12:Int)==(3:Int) then Q (PV.agg [vI (num n),vI (num n),vB false]) else (Zyp n w Q))))))) (fun _=>by kernel_rfl) ?_
 delta Qn Zyp Zl3 eIv vI vB
 refine ⟨?r9,Za (fun h0=>⟨?r0, ?_⟩) (fun h0=>Za (fun h1=>⟨?r2,⟨?r1, ?_⟩⟩) (fun h1=>Za (fun h2=>Za (fun h3=>?_) (fun h3=>⟨?r5,⟨?r4,⟨?r3, ?_⟩⟩⟩)) (fun h2=>Za (fun h3=>?_) (fun h3=>⟨?r8,⟨?r7,⟨?r6, ?_⟩⟩⟩))))⟩
 case r0|r1|r2|r3|r4|r5|r6|r7|r8|r9=>have:=YE (n:=IntKind.i64.wrap (w.tdiv 12)) (m:=9000) (by omega);omega
 all_goals simp_all only[ZeB,Qb_,Qd_,Q5_,Q4_,Bool.or_self]
 all_goals first | rfl | simp_all
def Zyq(d:Dec)(z:Dec):Option St:=some ⟨27,[(4,AV.ptr 4 0),(5,AV.ptr 5 0)],[(4,(Zlr z)),(5,(Zlr d))],[],[],[]⟩
theorem ZrU:CSOk Tryz.prog (YN []):=Zh
theorem Zw2:Yo Tryz.prog (Z6 Tryz.f11 0) Zpb:=by
 refine lsG Zo.Γ (ZD Zo ZrU ZJ ZK ZQ (LS:=[]) (Yh (l:=[]) (by kernel_rfl) Z0) (n:=2000) (U2 ZxV) (U2 Zdt) (fun x e s=>(e= .exit 0∧s=U2 Zds x)) (fun x=>x.1.scale.toNat) Zpa ZvY ZvZ (fun x hx=>?_)) cv2 (fun _=>rfl) (fun _ h=>h) (fun _ _ _ _ h f=>fE h f)
 ·obtain ⟨d,z⟩:=x
  simp only[U2,Zdt] at hx
  refine sxT (fun Q=>(bif decide (d.scale > (0:Int)) then (((10:Int)≠(0:Int))∧(bif d.c.tmod (10:Int)==(0:Int) then (((10:Int)≠(0:Int))∧Q (Ex.normal) (some ⟨27,[(5,AV.ptr 5 0),(4,AV.ptr 4 0)],[(5,[vI (IntKind.i64.wrap (d.c.tdiv (10:Int))),vI (IntKind.i64.wrap (d.scale - (1:Int)))]),(4,(Zlr z))],[],[],[]⟩)) else Q (Ex.exit (0:Nat)) (Zyq d z))) else Q (Ex.exit (0:Nat)) (Zyq d z))) (fun _=>by kernel_rfl) ?_
  delta Zyq Zlr vI vB
  refine Za (fun h0=>⟨?r1,Za (fun h1=>⟨?r0,.inl ⟨rfl,(⟨IntKind.i64.wrap (d.c.tdiv (10:Int)),IntKind.i64.wrap (d.scale - (1:Int))⟩,z),rfl, ?_, ?_, ?_⟩⟩) (fun h1=> .inr ⟨by simp,_,rfl, ?_⟩)⟩) (fun h0=> .inr ⟨by simp,_,rfl, ?_⟩)
  case r0|r1=>first | rfl | (simp only[YI,dI,dIv];omega) | (simp[Zf,chunk];done) | (simp only[YI,dI,dIv];done) | (exact Zp (fun _=>rfl) (by omega) (by omega)) | (simp only[Qc_,Qk_] at *;exact Zp (fun _=>rfl) (by omega) (by omega)) | assumption | trivial | (simp_all;done) | omega
  all_goals try dsimp only[U2]
  all_goals (try simp only[Qc_,Qe_] at h0)
  ·rw[Ze (show Fit (d.scale - 1) by constructor<;>omega)];simp only[U2,Zdt];omega
  ·show (IntKind.i64.wrap (d.scale - 1)).toNat < d.scale.toNat
   rw[Ze (by constructor<;>omega)];omega
  ·simp only[beq_iff_eq] at h1
   simp only[U2,Zds]
   rw[Zv5 h0 hx.2 h1]
   exact fun e s h=>h
  ·simp only[KA_] at h1
   exact ⟨rfl,by simp only[U2,Zds];rw[ZoK (fun h=>h1 h.2)]⟩
  ·exact ⟨rfl,by simp only[U2,Zds];rw[ZoK (fun h=>h0 h.1)]⟩
theorem Zyr:ZN Tryz.prog [(3,Zpb)] Tryz.f11:=ZI (l:=[Z6 Tryz.f11 0]) (by kernel_rfl) (ZR (i:=3) (by kernel_rfl) rfl Zw2 (Z0))
theorem Zzg:Zj Tryz.prog 11 e11:=Zk<|Zi fun c=>Zi fun scale=>EZ1 fun hp0=>by
 refine cfL ZrU Zyr rfl ?_
 refine sxT (fun Q=>((Zdt (Dec.mk c scale) (Dec.mk (0:Int) (0:Int)))∧Q (PV.agg (Zlr (hdec scale.toNat c scale))))) (fun _=>by kernel_rfl) ?_
 delta Qn Zlr vI vB
 refine ⟨?_, ?_⟩
 ·exact hp0
 ·rfl
end Go.Men
namespace Go.Men
open Go Go.Ev
def Zpu(k:Int):Ent
 | [.v (.int .i64 p1)]=>some (.str (digits p1),[0≤p1∧p1 < k])
 | _=>none
open Go.Proofs Go.Proofs.YtgfgjabeooohhaaGreatDoor
theorem Z1u(k:Int)(n:Int)(Q:PV→Prop):sxF evEnv (YN [(45,Zpu k)]) Zg2 Zg3 noG [] 2000 Tryz.f45 [.v (.int .i64 n)] Q=(bif decide (n < (0:Int)) then (((0:Int)≤IntKind.i64.wrap ((0:Int) - n)∧IntKind.i64.wrap ((0:Int) - n) < k)∧(((1:Nat)+(digits (IntKind.i64.wrap ((0:Int) - n))).length≤(9223372036854775807:Nat))∧Q (.str ([(45:UInt8)]++digits (IntKind.i64.wrap ((0:Int) - n)))))) else (bif decide (n < (10:Int)) then (((bif decide ((0:Int)≤IntKind.u8.wrap (IntKind.i64.wrap ((48:Int)+n)))&&decide (IntKind.u8.wrap (IntKind.i64.wrap ((48:Int)+n)) < (256:Int)) then some [UInt8.ofNat (IntKind.u8.wrap (IntKind.i64.wrap ((48:Int)+n))).toNat] else none)=some ((bif decide ((0:Int)≤IntKind.u8.wrap (IntKind.i64.wrap ((48:Int)+n)))&&decide (IntKind.u8.wrap (IntKind.i64.wrap ((48:Int)+n)) < (256:Int)) then some [UInt8.ofNat (IntKind.u8.wrap (IntKind.i64.wrap ((48:Int)+n))).toNat] else none).getD []))∧Q (.str ((bif decide ((0:Int)≤IntKind.u8.wrap (IntKind.i64.wrap ((48:Int)+n)))&&decide (IntKind.u8.wrap (IntKind.i64.wrap ((48:Int)+n)) < (256:Int)) then some [UInt8.ofNat (IntKind.u8.wrap (IntKind.i64.wrap ((48:Int)+n))).toNat] else none).getD []))) else (((10:Int)≠(0:Int))∧(((0:Int)≤IntKind.i64.wrap (n.tdiv (10:Int))∧IntKind.i64.wrap (n.tdiv (10:Int)) < k)∧(((10:Int)≠(0:Int))∧(((bif decide ((0:Int)≤IntKind.u8.wrap (IntKind.i64.wrap ((48:Int)+n.tmod (10:Int))))&&decide (IntKind.u8.wrap (IntKind.i64.wrap ((48:Int)+n.tmod (10:Int))) < (256:Int)) then some [UInt8.ofNat (IntKind.u8.wrap (IntKind.i64.wrap ((48:Int)+n.tmod (10:Int)))).toNat] else none)=some ((bif decide ((0:Int)≤IntKind.u8.wrap (IntKind.i64.wrap ((48:Int)+n.tmod (10:Int))))&&decide (IntKind.u8.wrap (IntKind.i64.wrap ((48:Int)+n.tmod (10:Int))) < (256:Int)) then some [UInt8.ofNat (IntKind.u8.wrap (IntKind.i64.wrap ((48:Int)+n.tmod (10:Int)))).toNat] else none).getD []))∧(((digits (IntKind.i64.wrap (n.tdiv (10:Int)))).length+((bif decide ((0:Int)≤IntKind.u8.wrap (IntKind.i64.wrap ((48:Int)+n.tmod (10:Int))))&&decide (IntKind.u8.wrap (IntKind.i64.wrap ((48:Int)+n.tmod (10:Int))) < (256:Int)) then some [UInt8.ofNat (IntKind.u8.wrap (IntKind.i64.wrap ((48:Int)+n.tmod (10:Int)))).toNat] else none).getD []).length≤(9223372036854775807:Nat))∧Q (.str (digits (IntKind.i64.wrap (n.tdiv (10:Int)))++(bif decide ((0:Int)≤IntKind.u8.wrap (IntKind.i64.wrap ((48:Int)+n.tmod (10:Int))))&&decide (IntKind.u8.wrap (IntKind.i64.wrap ((48:Int)+n.tmod (10:Int))) < (256:Int)) then some [UInt8.ofNat (IntKind.u8.wrap (IntKind.i64.wrap ((48:Int)+n.tmod (10:Int)))).toNat] else none).getD []))))))))):=by kernel_rfl
theorem Zw3{k:Int}(h:∀n:Int,0≤n→n < k→Con Tryz.prog 45 [.v (.int .i64 n)] (.str (digits n))):Zj Tryz.prog 45 (Zpu k):=by
 intro args r ps h1 hp
 unfold Zpu at h1
 split at h1
 ·cases Qa_ h1
  have:=hp _ Qv_
  exact h _ this.1 this.2
 ·exact absurd h1 (by simp)
theorem Zpv{k:Int}(h:∀n:Int,0≤n→n < k→Con Tryz.prog 45 [.v (.int .i64 n)] (.str (digits n))){n:Int}(h1: -1000000000000000000≤n∧n≤1000000000000000000)(h2:n < 0→ -n < k)(h3:10≤n→n / 10 < k):Con Tryz.prog 45 [.v (.int .i64 n)] (.str (digits n)):=by
 refine ZrF Zo (Zb (Zw3 h) Zh) ZJ ZK ZQ (n:=2000) (LS:=[]) (fn:=Tryz.f45) rfl Zig ?_
 rw[Z1u]
 refine Za (fun h0=>?_) (fun h0=>Za (fun h4=>?_) (fun h4=>?_))
 ·have h0:=Qy_ h0
  have hb:=Y5 (-n)
  rw[Xa (by constructor<;>omega)]
  refine ⟨⟨by omega,h2 h0⟩,by omega, ?_⟩
  rw[ZsT h0];rfl
 ·have h0:=of_decide_eq_false h0
  have h4:=Qy_ h4
  rw[ZrL (by omega) h4,ZcB (by omega) h4]
  exact ⟨rfl,rfl⟩
 ·have h4:=of_decide_eq_false h4
  have e1:n.tdiv 10=n / 10:=Int.tdiv_eq_ediv_of_nonneg (by omega)
  have e2:n.tmod 10=n % 10:=Int.tmod_eq_emod_of_nonneg (by omega)
  have hb:=Y5 (n / 10)
  rw[e1,e2,Ze (by constructor<;>omega),ZrL (by omega) (by omega),Zaf (by omega) h1.2]
  exact ⟨by decide,⟨by omega,h3 (by omega)⟩,by decide,rfl,by show (digits (n / 10)).length+1≤_;omega,rfl⟩
theorem Zpw:∀(k:Nat) (n:Int),0≤n→n < k→n≤1000000000000000000→Con Tryz.prog 45 [.v (.int .i64 n)] (.str (digits n))
 | 0,n,h0,h,_=>by omega
 | k+1,n,h0,h,hb=>by
   refine Zpv (k:=min (k:Int) 1000000000000000001) (fun m a b=>Zpw k m a (by omega) (by omega)) (by omega) (by omega) (fun h1=>?_)
   omega
theorem ZtL(n:Int)(h: -1000000000000000000≤n∧n≤1000000000000000000):Con Tryz.prog 45 [.v (.int .i64 n)] (.str (digits n)):=
 Zpv (k:=1000000000000000001) (fun m a b=>Zpw (m.toNat+1) m a (by omega) (by omega)) h (by omega) (by omega)
theorem ZtM:Zj Tryz.prog 45 e45:=Zk<|Zi fun n=>EZ1 fun h=>ZtL n h
end Go.Men
namespace Go.Men
open Go.Ev Go.Proofs Go.Proofs.YtgfgjabeooohhaaGreatDoor
def Zys(c:Int)(Q:PV→Prop):Prop:=bif decide (c≥(65:Int)) then Q (vB (decide (c≤(90:Int)))) else Q (vB false)
theorem Zw4:Zj Tryz.prog 166 Z0T:=Zk<|Zi fun c=>EZ0<|by
 refine cf0 Zh (fn:=Tryz.f166) rfl ?_
 refine sxT (fun Q=>(bif decide (c≥(97:Int)) then (bif decide (c≤(122:Int)) then Q (vB true) else (Zys c Q)) else (Zys c Q))) (fun _=>by kernel_rfl) ?_
 delta Qn Zys vB
 refine Za (fun h0=>Za (fun h1=>?_) (fun h1=>Za (fun h2=>?_) (fun h2=>?_))) (fun h0=>Za (fun h1=>?_) (fun h1=>?_))
 all_goals (try simp only[ZaP,Ze9,Zg8,Zdi,Zaz,ZeA,Zcc,WO,J0,Zdj,Zdk,Zg9,ZeC,ZeD,ZeE,Ke_,Qi_,Qf_,bne] at *)
 all_goals (simp only[Y3,Zt,Zs,List.foldl,Qr_,Qp_,Ql_,Qn_,Q5_,Q4_,Qw_,Q3_,Qu_,Qt_,Qb_,Qd_,QD_,Q8_, *];first | rfl | (simp only[nz,nzA,nz1,QE_,QN_,Iv.enc,V.enc,Ray.enc, *];first | done | rfl))
theorem Z1v:Zj Tryz.prog 188 Z2W:=Zk<|Zi fun c=>EZ0<|by
 refine cf0 Zh (fn:=Tryz.f188) rfl ?_
 refine sxT (fun Q=>(bif decide (c≥(48:Int)) then Q (vB (decide (c≤(57:Int)))) else Q (vB false))) (fun _=>by kernel_rfl) ?_
 delta Qn vB
 refine Za (fun h0=>?_) (fun h0=>?_)
 all_goals (try simp only[ZaP,Ze9,Zg8,Zdi,Zaz,ZeA,Zcc,WO,J0,Zdj,Zdk,Zg9,ZeC,ZeD,ZeE,Ke_,Qi_,Qf_,bne] at *)
 all_goals (simp only[Xb,Zt,Zs,List.foldl,Qr_,Qp_,Ql_,Qn_,Q5_,Q4_,Qw_,Q3_,Qu_,Qt_,Qb_,Qd_,QD_,Q8_, *];first | rfl | (simp only[nz,nzA,nz1,QE_,QN_,Iv.enc,V.enc,Ray.enc, *];first | done | rfl))
theorem Z1w:Zj Tryz.prog 167 Z0U:=Zk<|Zi fun c=>EZ0<|by
 refine cf0 (Zb Zw4<|Zb Z1v<|Zh) (fn:=Tryz.f167) rfl ?_
 refine sxT (fun Q=>(bif Y3 c then Q (vB true) else (bif Xb c then Q (vB true) else (bif c==(45:Int) then Q (vB true) else Q (vB (c==(95:Int))))))) (fun _=>by kernel_rfl) ?_
 delta Qn vB
 refine Za (fun h0=>?_) (fun h0=>Za (fun h1=>?_) (fun h1=>Za (fun h2=>?_) (fun h2=>?_)))
 all_goals (try simp only[ZaP,Ze9,Zg8,Zdi,Zaz,ZeA,Zcc,WO,J0,Zdj,Zdk,Zg9,ZeC,ZeD,ZeE,Ke_,Qi_,Qf_,bne] at *)
 all_goals (simp only[Z5,Zt,Zs,List.foldl,Qr_,Qp_,Ql_,Qn_,Q5_,Q4_,Qw_,Q3_,Qu_,Qt_,Qb_,Qd_,QD_,Q8_, *];first | rfl | (simp only[nz,nzA,nz1,QE_,QN_,Iv.enc,V.enc,Ray.enc, *];first | done | rfl))
def Zyt:=YN [(166,Z0T),(167,Z0U)]
theorem Zmm:CSOk Tryz.prog Zyt:=Zb Zw4<|Zb Z1w<|Zh
theorem ZqW:Yo Tryz.prog (Z6 Tryz.f141 0) ZjX:=by
 refine lsG Zo.Γ (ZD Zo Zmm ZJ ZK ZQ (LS:=[]) (Yh (l:=[]) (by kernel_rfl) Z0) (n:=2000) (U2 Ztf) (U2 JL) (fun x e s=>((U2 WS x=true∧e= .ret∧s=U2 Zfy x)∨(U2 WS x=false∧e= .exit 0∧s=U2 Zfx x))) (fun x=>(x.2.length - x.1).toNat) ZjW ZqH ZqI (fun x hx=>?_)) cv2 (fun _=>rfl) (fun _ h=>h) (fun _ _ _ _ h f=>fC h f fE fE)
 ·obtain ⟨i,s⟩:=x
  simp only[U2,JL] at hx
  refine sxT (fun Q=>(bif decide (i < ↑s.length) then (((0:Int)≤i∧i < ↑s.length)∧(bif !Z5 ↑(s.getD i.toNat (0:UInt8)).toNat then Q (Ex.ret) (some ⟨29,[(2,AV.p (vB false))],[],[],[],[]⟩) else Q (Ex.normal) (some ⟨29,[(3,AV.p (vI (IntKind.i64.wrap (i+(1:Int))))),(0,AV.p (PV.str s))],[],[],[],[]⟩))) else Q (Ex.exit (0:Nat)) (some ⟨29,[],[],[],[],[]⟩))) (fun _=>by kernel_rfl) ?_
  delta vI vB
  refine Za (fun h0=>⟨?r0,Za (fun h1=> .inr ⟨by simp,_,rfl, ?_⟩) (fun h1=> .inl ⟨rfl,(IntKind.i64.wrap (i+(1:Int)),s),rfl, ?_, ?_, ?_⟩)⟩) (fun h0=> .inr ⟨by simp,_,rfl, ?_⟩)
  case r0=>first | (obtain ⟨a1,a2,a3⟩:=hx;simp only[Qc_] at h0;omega) | (have h0:¬((s.length:Int)=0):=(by simpa using h0);omega)
  all_goals try dsimp only[U2]
  all_goals (obtain ⟨a1,a2,a3⟩:=hx;try simp only[Qc_,Qe_] at h0)
  all_goals first | (have hk:i < s.length:=h0;obtain ⟨x,t,e1,e2,e3⟩:=ZM (l:=s) a1 (by omega);have eg:s.getD i.toNat 0=x:=(by rw[Q7_,e3];rfl);rw[eg] at h1;have en:(s.drop i.toNat).all Zfu=(Zfu x&&t.all Zfu):=(by rw[e1];rfl)) | skip
  all_goals try rw[Ze (show Fit (i+1) by constructor<;>omega)]
  all_goals try simp only[U2,JL,WS,Zfy,Zfx]
  ·change (!Zfu x)=true at h1
   simp only[Qi_] at h1
   exact .inl ⟨by rw[en,h1];rfl,by trivial,by trivial⟩
  ·exact ⟨by omega,by omega,a3⟩
  ·omega
  ·change (!Zfu x)=false at h1
   simp only[Qf_] at h1
   rw[en,e2,h1];exact fun e s h=>h
  ·exact .inr ⟨by rw[Q0_ (by omega)];rfl,by trivial,by trivial⟩
theorem ZtN:ZN Tryz.prog [(5,ZjX)] Tryz.f141:=ZI (l:=[Z6 Tryz.f141 0]) (by kernel_rfl) (ZR (i:=5) (by kernel_rfl) rfl ZqW (Z0))
theorem Zw5:Zj Tryz.prog 141 Z0V:=Zk<|Zi fun s=>EZ0<|by
 refine cfL Zmm ZtN rfl ?_
 refine sxT (fun Q=>(bif ↑s.length==(0:Int) then Q (vB false) else (bif decide (↑s.length > (20:Int)) then Q (vB false) else (((0:Int)≤(0:Int)∧(0:Int) < ↑s.length)∧(bif !Y3 ↑(s.getD (0:Nat) (0:UInt8)).toNat then Q (vB false) else ((JL (0:Int) s)∧(bif WS (0:Int) s then Q (vB false) else Q (vB true)))))))) (fun _=>by kernel_rfl) ?_
 delta Qn vB
 refine Za (fun h0=>?_) (fun h0=>Za (fun h1=>?_) (fun h1=>⟨?r0,Za (fun h2=>?_) (fun h2=>⟨?_,Za (fun h3=>?_) (fun h3=>?_)⟩)⟩))
 case r0=>first | (obtain ⟨a1,a2,a3⟩:=hx;simp only[Qc_] at h0;omega) | (have h0:¬((s.length:Int)=0):=(by simpa using h0);omega)
 all_goals (try simp only[Qc_,Qe_,Qi_,Qf_] at *)
 ·have h0:(s.length:Int)=0:=(by simpa using h0)
  have e:decide (1≤s.length)=false:=QQ_ (by omega)
  simp only[Yy,e,Ql_];rfl
 ·have e:decide (s.length≤20)=false:=QQ_ (by omega)
  simp only[Yy,e,Ql_,Qn_];rfl
 ·have e0:Y3 ((s.getD 0 0).toNat:Int)=false:=h2
  simp only[Yy,e0,Ql_,Qn_];rfl
 ·have h0:¬((s.length:Int)=0):=(by simpa using h0)
  simp only[JL];omega
 ·have h0:¬((s.length:Int)=0):=(by simpa using h0)
  simp only[WS,QO_,QG_,Qi_] at h3
  simp only[Yy,h3,Qn_];rfl
 ·have h0:¬((s.length:Int)=0):=(by simpa using h0)
  simp only[WS,QO_,QG_,Qf_] at h3
  have e1:decide (1≤s.length)=true:=QH_ (by omega)
  have e2:decide (s.length≤20)=true:=QH_ (by omega)
  have e3:Y3 ((s.getD 0 0).toNat:Int)=true:=h2
  simp only[Yy,e1,e2,e3,h3,Qr_];rfl
def Zyu(d:Dec):=List.foldl imax d.c [IntKind.i64.wrap ((0:Int) - d.c)]
def ZtO(d:Dec):=(Zyu d).tmod (Z2 d.scale)+Z2 d.scale
def Zpx(d:Dec):=(Zyu d).tdiv (Z2 d.scale)
def Zeu(d:Dec):=IntKind.i64.wrap (Zpx d)
def Zl4(d:Dec):=(0:Int)≤d.scale∧d.scale≤(18:Int)
def ZiO(d:Dec):=digits (IntKind.i64.wrap (ZtO d))
def Zyv(d:Dec):=(-1000000000000000000:Int)≤IntKind.i64.wrap (ZtO d)∧IntKind.i64.wrap (ZtO d)≤(1000000000000000000:Int)
theorem Z2h:Zj Tryz.prog 13 e13:=Zk<|Zi fun d=>EZ0<|by
 refine cf0 (Zb ZtH<|Zb ZtD<|Zb ZtM<|Zh) (fn:=Tryz.f13) rfl ?_
 refine sxT (fun Q=>(bif !ZA d then Q (PV.str ([])) else ((Zl4 d)∧((Z2 d.scale≠(0:Int))∧(bif decide (IntKind.i64.wrap (Zpx d) > (99999:Int)) then Q (PV.str ([])) else (((-1000000000000000000:Int)≤IntKind.i64.wrap (Zpx d)∧IntKind.i64.wrap (Zpx d)≤(1000000000000000000:Int))∧(bif decide (d.c < (0:Int)) then (((1:Nat)+(digits (Zeu d)).length≤(9223372036854775807:Nat))∧(bif decide (d.scale > (0:Int)) then ((Zl4 d)∧((Z2 d.scale≠(0:Int))∧((Zl4 d)∧((Zyv d)∧((([(45:UInt8)]++digits (Zeu d)).length+(1:Nat)≤(9223372036854775807:Nat))∧(((0:Int)≤(1:Int)∧(1:Int)≤↑(ZiO d).length)∧((([(45:UInt8)]++digits (Zeu d)++[(46:UInt8)]).length+(List.drop (1:Nat) (ZiO d)).length≤(9223372036854775807:Nat))∧Q (PV.str ([(45:UInt8)]++digits (Zeu d)++[(46:UInt8)]++List.drop (1:Nat) (ZiO d)))))))))) else Q (PV.str ([(45:UInt8)]++digits (Zeu d))))) else (bif decide (d.scale > (0:Int)) then ((Zl4 d)∧((Z2 d.scale≠(0:Int))∧((Zl4 d)∧((Zyv d)∧(((digits (Zeu d)).length+(1:Nat)≤(9223372036854775807:Nat))∧(((0:Int)≤(1:Int)∧(1:Int)≤↑(ZiO d).length)∧(((digits (Zeu d)++[(46:UInt8)]).length+(List.drop (1:Nat) (ZiO d)).length≤(9223372036854775807:Nat))∧Q (PV.str (digits (Zeu d)++[(46:UInt8)]++List.drop (1:Nat) (ZiO d)))))))))) else Q (PV.str (digits (Zeu d))))))))))) (fun _=>by kernel_rfl) ?_
 delta Qn Zyu ZtO Zeu Zl4 ZiO Zyv Zpx
 refine Za (fun h0=>?_) (fun h0=>⟨?r17,⟨?r16,Za (fun h1=>?_) (fun h1=>⟨?r15,Za (fun h2=>⟨?r7,Za (fun h3=>⟨?r6,⟨?r5,⟨?r4,⟨?r3,⟨?r2,⟨?r1,⟨?r0, ?_⟩⟩⟩⟩⟩⟩⟩) (fun h3=>?_)⟩) (fun h2=>Za (fun h3=>⟨?r14,⟨?r13,⟨?r12,⟨?r11,⟨?r10,⟨?r9,⟨?r8, ?_⟩⟩⟩⟩⟩⟩⟩) (fun h3=>?_))⟩)⟩⟩)
 case r0|r1|r2|r3|r4|r5|r6|r7|r8|r9|r10|r11|r12|r13|r14|r15|r16|r17=>have hf:=ZdR (by simpa using h0);have l1:=Y5 (headD d);have l2:=Y5 (W0 d);(try simp only[hf.1,show (YA d).tdiv (Z2 d.scale)=headD d from rfl,show (YA d).tmod (Z2 d.scale)+Z2 d.scale=W0 d from rfl,hf.2.1,hf.2.2.1,Qx_,Qs_,Q1_,K9_]);omega
 ·simp only[Qi_] at h0
  simp only[Wb,h0,Qd_];rfl
 all_goals have hf:=ZdR (by simpa using h0)
 all_goals simp only[Qf_] at h0
 all_goals simp only[hf.1,show (YA d).tdiv (Z2 d.scale)=headD d from rfl,show (YA d).tmod (Z2 d.scale)+Z2 d.scale=W0 d from rfl,hf.2.1,hf.2.2.1] at *
 all_goals simp only[Wb,ZjQ,ZmW, *,Qb_,Qd_]
 all_goals rfl
theorem Zw6:Zj Tryz.prog 142 Z0W:=Zk<|Zi fun d=>EZ0<|by
 refine cf0 (Zb Z2h<|Zh) (fn:=Tryz.f142) rfl ?_
 refine sxT (fun Q=>Q (vB (!Wb d==[]))) (fun _=>by kernel_rfl) ?_
 delta Qn vB
 refine ?_
 rw[ZgA];rfl
theorem Zw7:Zj Tryz.prog 143 Z0X:=Zk<|Zi fun d=>EZ0<|by
 refine cf0 Zh (fn:=Tryz.f143) rfl ?_
 refine sxT (fun Q=>Q (vB (decide (d.c > (0:Int))))) (fun _=>by kernel_rfl) ?_
 delta Qn vB
 refine ?_
 all_goals (try simp only[ZaP,Ze9,Zg8,Zdi,Zaz,ZeA,Zcc,WO,J0,Zdj,Zdk,Zg9,ZeC,ZeD,ZeE,Ke_,Qi_,Qf_,bne] at *)
 all_goals rfl
theorem Zzh:Zj Tryz.prog 90 e90:=Zk<|Zi fun d=>EZ0<|by
 refine cf0 Zh (fn:=Tryz.f90) rfl ?_
 refine sxT (fun Q=>Q (vB (d.c==(0:Int)&&(d.scale==(0:Int)&&true)))) (fun _=>by kernel_rfl) ?_
 delta Qn vB
 refine ?_
 simp only[Yf,Qr_];rfl
theorem Z1x:Zj Tryz.prog 169 Z2X:=Zk<|Zi fun d=>EZ0<|by
 refine cf0 Zh (fn:=Tryz.f169) rfl ?_
 refine sxT (fun Q=>Q (PV.agg [vI (List.foldl imax d.c [IntKind.i64.wrap ((0:Int) - d.c)]),vI d.scale])) (fun _=>by kernel_rfl) ?_
 delta Qn vI
 refine ?_
 simp only[ZcA,List.foldl,Zs];rfl
theorem Z1y:Zj Tryz.prog 168 Z2Y:=Zk<|Zi fun a=>Zi fun b=>EZ0<|by
 refine cf0 (Zb ZtH<|Zb ZtD<|Zh) (fn:=Tryz.f168) rfl ?_
 refine sxT (fun Q=>(bif ZA a then (bif ZA b then (((0:Int)≤IntKind.i64.wrap ((6:Int) - a.scale)∧IntKind.i64.wrap ((6:Int) - a.scale)≤(18:Int))∧(((0:Int)≤IntKind.i64.wrap ((6:Int) - b.scale)∧IntKind.i64.wrap ((6:Int) - b.scale)≤(18:Int))∧Q (vB (decide (IntKind.i64.wrap (a.c *Z2 (IntKind.i64.wrap ((6:Int) - a.scale))) < IntKind.i64.wrap (b.c *Z2 (IntKind.i64.wrap ((6:Int) - b.scale)))))))) else Q (vB false)) else Q (vB false))) (fun _=>by kernel_rfl) ?_
 delta Qn vB
 refine Za (fun h0=>Za (fun h1=>⟨?r1,⟨?r0, ?_⟩⟩) (fun h1=>?_)) (fun h0=>?_)
 case r0|r1=>have h0:=J1 h0;have h1:=J1 h1;rw[h0.1] at *;rw[h1.1] at *;first | exact h0.2.1 | exact h1.2.1 | omega
 ·have f0:=J1 h0;have f1:=J1 h1
  rw[f0.1,f1.1,f0.2.2,f1.2.2]
  simp only[Ya,h0,h1,Qp_];rfl
 ·simp only[Ya,h0,h1,Qp_,Ql_];rfl
 ·simp only[Ya,h0,Ql_];rfl
def JY(i:Int)(l:List Glass):=(List.map Glass.enc l).getD i.toNat []
def ZtP(i:Int)(l:List Glass):=(0:Int)≤i∧(List.map Glass.enc l)[i.toNat]?=some (Yt [PV.str [],vI 0,vI 0,vI 0,vI 0,vI 0,vI 0,vI 0,vI 0,vI 0,vI 0,vI 0,vI 0] (JY i l))
theorem ZgX:CSOk Tryz.prog (YN []):=Zh
theorem Zl5:Yo Tryz.prog (Z6 Tryz.f94 0) ZfP:=by
 refine lsG Zo.Γ (ZD Zo ZgX ZJ ZK ZQ (LS:=[]) (Yh (l:=[]) (by kernel_rfl) Z0) (n:=2000) (U4 Zm4) (U4 Wt) (fun x e s=>((U4 Wu x=true∧e= .ret∧s=U4 Zc0 x)∨(U4 Wu x=false∧e= .exit 0∧s=U4 Zcz x))) (fun x=>(x.2.1.length - x.1).toNat) ZfO Zlw Zlx (fun x hx=>?_)) cv4 (fun _=>rfl) (fun _ h=>h) (fun _ _ _ _ h f=>fC h f fE fE)
 ·obtain ⟨i,l,n,z⟩:=x
  simp only[U4,Wt] at hx
  refine sxT (fun Q=>(bif decide (i < ↑(List.map Glass.enc l).length) then ((ZtP i l)∧(bif Wf ((JY i l).headD PV.nil)==n then ((ZtP i l)∧Q (Ex.ret) (some ⟨25,[(4,AV.ptr 4 0),(5,AV.p (vB true))],[(4,[PV.str (Wf ((JY i l).headD PV.nil)),vI (Zd ((JY i l).tail.headD PV.nil)),vI (Zd ((JY i l).tail.tail.headD PV.nil)),vI (Zd ((JY i l).tail.tail.tail.headD PV.nil)),vI (Zd ((JY i l).tail.tail.tail.tail.headD PV.nil)),vI (Zd ((JY i l).tail.tail.tail.tail.tail.headD PV.nil)),vI (Zd ((JY i l).tail.tail.tail.tail.tail.tail.headD PV.nil)),vI (Zd ((JY i l).tail.tail.tail.tail.tail.tail.tail.headD PV.nil)),vI (Zd ((JY i l).tail.tail.tail.tail.tail.tail.tail.tail.headD PV.nil)),vI (Zd ((JY i l).tail.tail.tail.tail.tail.tail.tail.tail.tail.headD PV.nil)),vI (Zd ((JY i l).tail.tail.tail.tail.tail.tail.tail.tail.tail.tail.headD PV.nil)),vI (Zd ((JY i l).tail.tail.tail.tail.tail.tail.tail.tail.tail.tail.tail.headD PV.nil)),vI (Zd ((JY i l).tail.tail.tail.tail.tail.tail.tail.tail.tail.tail.tail.tail.headD PV.nil))])],[],[],[]⟩)) else Q (Ex.normal) (some ⟨25,[(4,AV.ptr 4 0),(6,AV.p (vI (IntKind.i64.wrap (i+(1:Int))))),(0,AV.p (PV.lst (List.map Glass.enc l))),(1,AV.p (PV.str n))],[(4,(W3 z))],[],[],[]⟩))) else Q (Ex.exit (0:Nat)) (some ⟨25,[(4,AV.ptr 4 0)],[(4,(W3 z))],[],[],[]⟩))) (fun _=>by kernel_rfl) ?_
  delta JY ZtP W3 vI vB
  refine Za (fun h0=>⟨?r1,Za (fun h1=>⟨?r0,.inr ⟨by simp,_,rfl, ?_⟩⟩) (fun h1=> .inl ⟨rfl,(IntKind.i64.wrap (i+(1:Int)),l,n,z),rfl, ?_, ?_, ?_⟩)⟩) (fun h0=> .inr ⟨by simp,_,rfl, ?_⟩)
  case r0|r1=>first | rfl | (rw[Zm];done) | (obtain ⟨a1,a2,a3⟩:=hx;simp only[Qk_,Qc_] at h0;exact Zp (fun _=>rfl) (by omega) (by omega))
  all_goals try dsimp only[U4]
  all_goals (obtain ⟨a1,a2,a3⟩:=hx;try simp only[Qk_,Qc_,Qe_] at h0)
  all_goals first | (have hk:i < l.length:=h0;obtain ⟨x,t,e1,e2,e3⟩:=ZM (l:=l) a1 (by omega);simp only[ZV e3] at *;have en:ZC (l.drop i.toNat) n=bif x.name==n then (x,true) else ZC t n:=(by rw[e1];rfl)) | skip
  all_goals try rw[Ze (show Fit (i+1) by constructor<;>omega)]
  all_goals try simp only[U4,Wt,Wu,Zc0,Zcz]
  ·change (x.name==n)=true at h1
   exact .inl ⟨by rw[en,h1];rfl,by trivial,by rw[en,h1];rfl⟩
  ·exact ⟨by omega,by omega,a3⟩
  ·omega
  ·change (x.name==n)=false at h1
   rw[en,e2,h1];exact fun e s h=>h
  ·exact .inr ⟨by rw[Q0_ (by omega)];rfl,by trivial,by trivial⟩
theorem ZmA:ZN Tryz.prog [(3,ZfP)] Tryz.f94:=ZI (l:=[Z6 Tryz.f94 0]) (by kernel_rfl) (ZR (i:=3) (by kernel_rfl) rfl Zl5 (Z0))
def ZfC:=G3.mk (Dec.mk (0:Int) (0:Int)) (Dec.mk (0:Int) (0:Int)) (Dec.mk (0:Int) (0:Int))
def Zkq(l:List Glass):=Zf Glass.dec (List.map Glass.enc l)
theorem Zzi:Zj Tryz.prog 94 e94:=Zk<|Zi fun l=>Zi fun n=>EZ1 fun hp0=>by
 refine cfL ZgX ZmA rfl ?_
 refine sxT (fun Q=>((List.map Glass.enc l=List.map Glass.enc (Zkq l))∧(([PV.str [],vI 0,vI 0,vI 0,vI 0,vI 0,vI 0,vI 0,vI 0,vI 0,vI 0,vI 0,vI 0]=(Glass.mk [] ZfC ZfC).enc)∧((Wt (0:Int) (Zkq l) n (Glass.mk [] ZfC ZfC))∧(bif Wu (0:Int) (Zkq l) n (Glass.mk [] ZfC ZfC) then Q (PV.tup [PV.agg (W3 (ZC (List.drop (0:Nat) (Zkq l)) n).fst),vB true]) else Q (PV.tup [PV.agg [PV.str ([]),vI 0,vI 0,vI 0,vI 0,vI 0,vI 0,vI 0,vI 0,vI 0,vI 0,vI 0,vI 0],vB false])))))) (fun _=>by kernel_rfl) ?_
 delta Qn ZfC Zkq W3 vI vB
 refine ⟨?r1,⟨?r0,⟨?_,Za (fun h0=>?_) (fun h0=>?_)⟩⟩⟩
 case r0|r1=>first | rfl | (rw[Zm];done) | (obtain ⟨a1,a2,a3⟩:=hx;simp only[Qk_,Qc_] at h0;exact Zp (fun _=>rfl) (by omega) (by omega))
 all_goals simp only[Wt,Wu,Zm,QO_,QG_] at *
 ·exact ⟨by omega,by omega,hp0⟩
 ·obtain ⟨A,hA⟩:∃A,ZC l n=A:=⟨_,rfl⟩
  rw[hA] at h0 ⊢
  obtain ⟨g,b⟩:=A
  simp only at h0
  subst h0;rfl
 ·rw[Zdm h0];rfl
theorem Z2i:Zj Tryz.prog 95 e95:=Zk<|Zi fun g=>Zi fun w=>EZ0<|by
 refine cf0 (Zb Ztr<|Zb Zze<|Zb ZtK<|Zb Zw0<|Zb Ztv<|Zb ZtF<|Zb Ztt<|Zb Z1t<|Zh) (fn:=Tryz.f95) rfl ?_
 refine sxT (fun Q=>(bif g.name==[(97:UInt8),(105:UInt8),(114:UInt8)] then Q (PV.agg [vI 65536,vI 65536,vB false]) else (((0:Int)≤(0:Int)∧(0:Int) < (3:Int))∧(((0:Int)≤(0:Int)∧(0:Int) < (3:Int))∧(((0:Int)≤(1:Int)∧(1:Int) < (3:Int))∧(((0:Int)≤(1:Int)∧(1:Int) < (3:Int))∧(((0:Int)≤(2:Int)∧(2:Int) < (3:Int))∧(((0:Int)≤(2:Int)∧(2:Int) < (3:Int))∧Q (PV.agg (eIv (Wz (add (add (add (point (65536:Int)) (Z8 (Ye (Zg g.b.a) (sqr w)) (sub (sqr w) (Zg g.c.a)))) (Z8 (Ye (Zg g.b.b) (sqr w)) (sub (sqr w) (Zg g.c.b)))) (Z8 (Ye (Zg g.b.c) (sqr w)) (sub (sqr w) (Zg g.c.c))))))))))))))) (fun _=>by kernel_rfl) ?_
 delta Qn eIv vI vB
 refine Za (fun h0=>?_) (fun h0=>⟨?r5,⟨?r4,⟨?r3,⟨?r2,⟨?r1,⟨?r0, ?_⟩⟩⟩⟩⟩⟩)
 case r0|r1|r2|r3|r4|r5=>first | rfl | (simp only[YI,dI,dIv];omega) | (simp[Zf,chunk];done) | (simp only[YI,dI,dIv];done) | (exact Zp (fun _=>rfl) (by omega) (by omega)) | (simp only[Qc_,Qk_] at *;exact Zp (fun _=>rfl) (by omega) (by omega)) | assumption | trivial | (simp_all;done) | omega
 ·have e:(g.name==JX)=true:=h0
  simp only[W1,e,Qb_];rfl
 ·have e:(g.name==JX)=false:=h0
  simp only[W1,e,Qd_,Zce];rfl
theorem Z2j:Zj Tryz.prog 57 e57:=Zk<|Zi fun k=>EZ0<|by
 refine cf0 (Zb ZtK<|Zb JO<|Zh) (fn:=Tryz.f57) rfl ?_
 refine sxT (fun Q=>(bif k==(0:Int) then Q (PV.agg [vI 38508,vI 38509,vB false]) else (bif k==(1:Int) then Q (PV.agg [vI 31857,vI 31858,vB false]) else (bif k==(2:Int) then Q (PV.agg [vI 43011,vI 43012,vB false]) else Q (PV.agg [vI 0,vI 0,vB true]))))) (fun _=>by kernel_rfl) ?_
 delta Qn vI vB
 refine Za (fun h0=>?_) (fun h0=>Za (fun h1=>?_) (fun h1=>Za (fun h2=>?_) (fun h2=>?_)))
 all_goals simp only[Zy, *,Qb_,Qd_]
 all_goals rfl
theorem Zpy:CSOk Tryz.prog (YN []):=Zh
theorem ZtQ:Yo Tryz.prog (Z6 Tryz.f53 0) Zme:=by
 refine lsG Zo.Γ (ZD Zo Zpy ZJ ZK ZQ (LS:=[]) (Yh (l:=[]) (by kernel_rfl) Z0) (n:=2000) (U2 Zwa) (U2 Za8) (fun x e s=>((U2 Za9 x=true∧e= .ret∧s=U2 ZgO x)∨(U2 Za9 x=false∧e= .exit 0∧s=U2 ZgN x))) (fun x=>(x.2.length - x.1).toNat) Zmd Ztg Zth (fun x hx=>?_)) cv2 (fun _=>rfl) (fun _ h=>h) (fun _ _ _ _ h f=>fC h f fE fE)
 ·obtain ⟨i,l⟩:=x
  simp only[U2,Za8] at hx
  refine sxT (fun Q=>(bif decide (i < ↑(List.map Face.enc l).length) then (((0:Int)≤i∧(List.map Face.enc l)[i.toNat]?=some (Yt [vB false,vI 0,vI 0,vI 0,vI 0,vI 0,vI 0,vI 0,vI 0,vI 0,vI 0,vI 0,vI 0,PV.str []] ((List.map Face.enc l).getD i.toNat [])))∧(bif !Zv (((List.map Face.enc l).getD i.toNat []).headD PV.nil) then Q (Ex.ret) (some ⟨16,[(2,AV.p (vB true))],[],[],[],[]⟩) else Q (Ex.normal) (some ⟨16,[(3,AV.p (vI (IntKind.i64.wrap (i+(1:Int))))),(0,AV.p (PV.lst (List.map Face.enc l)))],[],[],[],[]⟩))) else Q (Ex.exit (0:Nat)) (some ⟨16,[],[],[],[],[]⟩))) (fun _=>by kernel_rfl) ?_
  delta vI vB
  refine Za (fun h0=>⟨?r0,Za (fun h1=> .inr ⟨by simp,_,rfl, ?_⟩) (fun h1=> .inl ⟨rfl,(IntKind.i64.wrap (i+(1:Int)),l),rfl, ?_, ?_, ?_⟩)⟩) (fun h0=> .inr ⟨by simp,_,rfl, ?_⟩)
  case r0=>first | rfl | (rw[Z4];done) | (obtain ⟨a1,a2,a3⟩:=hx;simp only[Qk_,Qc_] at h0;exact Zp (fun _=>rfl) (by omega) (by omega))
  all_goals try dsimp only[U2]
  all_goals (obtain ⟨a1,a2,a3⟩:=hx;try simp only[Qk_,Qc_,Qe_] at h0)
  all_goals first | (have hk:i < l.length:=h0;obtain ⟨x,t,e1,e2,e3⟩:=ZM (l:=l) a1 (by omega);simp only[ZV e3] at *;have en:YO (l.drop i.toNat)=(!x.stop||YO t):=(by rw[e1];rfl)) | skip
  all_goals try rw[Ze (show Fit (i+1) by constructor<;>omega)]
  all_goals try simp only[U2,Za8,Za9,ZgO,ZgN]
  ·change (!x.stop)=true at h1
   exact .inl ⟨by rw[en,h1];rfl,by trivial,by trivial⟩
  ·exact ⟨by omega,by omega,a3⟩
  ·omega
  ·change (!x.stop)=false at h1
   rw[en,e2,h1];exact fun e s h=>h
  ·exact .inr ⟨by rw[Q0_ (by omega)];rfl,by trivial,by trivial⟩
theorem Zw8:ZN Tryz.prog [(3,Zme)] Tryz.f53:=ZI (l:=[Z6 Tryz.f53 0]) (by kernel_rfl) (ZR (i:=3) (by kernel_rfl) rfl ZtQ (Z0))
theorem Z2k:Zj Tryz.prog 53 e53:=Zk<|Zi fun l=>EZ1 fun hp0=>by
 refine cfL Zpy Zw8 rfl ?_
 refine sxT (fun Q=>((List.map Face.enc l=List.map Face.enc (Zf Face.dec (List.map Face.enc l)))∧((Za8 (0:Int) (Zf Face.dec (List.map Face.enc l)))∧(bif Za9 (0:Int) (Zf Face.dec (List.map Face.enc l)) then Q (vB true) else Q (vB false))))) (fun _=>by kernel_rfl) ?_
 delta Qn vB
 refine ⟨?r0,⟨?_,Za (fun h0=>?_) (fun h0=>?_)⟩⟩
 case r0=>first | rfl | (rw[Z4];done) | (obtain ⟨a1,a2,a3⟩:=hx;simp only[Qk_,Qc_] at h0;exact Zp (fun _=>rfl) (by omega) (by omega))
 all_goals simp only[Za8,Za9,Z4,QO_,QG_] at *
 ·exact ⟨by omega,by omega,hp0⟩
 ·rw[h0];rfl
 ·rw[h0];rfl
def ZtR(f:Face)(Q:PV→Prop):Prop:=bif f.radius.c==(0:Int) then Q (vB true) else Q (vB (!Ya (ZcA f.radius) f.aperture))
theorem Z1z:Zj Tryz.prog 144 Z0Y:=Zk<|Zi fun f=>Zi fun g=>EZ1 fun hp0=>by
 refine cf0 (Zb Zw6<|Zb Zw7<|Zb Zzh<|Zb Zzi<|Zb Zw5<|Zb Z1x<|Zb Z1y<|Zh) (fn:=Tryz.f144) rfl ?_
 refine sxT (fun Q=>(bif !printable f.aperture then Q (vB false) else (bif !decide (f.aperture.c > (0:Int)) then Q (vB false) else (bif !printable f.thick then Q (vB false) else (bif decide (f.thick.c < (0:Int)) then Q (vB false) else (bif f.stop then (bif Yf f.radius then (bif Yf f.conic then (bif Yf f.a4 then (bif Yf f.a6 then Q (vB (f.glass==[])) else Q (vB false)) else Q (vB false)) else Q (vB false)) else Q (vB false)) else ((List.map Glass.enc g=List.map Glass.enc (Zf Glass.dec (List.map Glass.enc g)))∧(((Zf Glass.dec (List.map Glass.enc g)).length≤(140737488355328:Nat))∧(bif printable f.radius then (bif printable f.conic then (bif printable f.a4 then (bif printable f.a6 then (bif Yy f.glass then (bif (ZC (Zf Glass.dec (List.map Glass.enc g)) f.glass).snd then (ZtR f Q) else (bif f.glass==[(97:UInt8),(105:UInt8),(114:UInt8)] then (ZtR f Q) else Q (vB false))) else Q (vB false)) else Q (vB false)) else Q (vB false)) else Q (vB false)) else Q (vB false)))))))))) (fun _=>by kernel_rfl) ?_
 delta Qn ZtR vB
 refine Za (fun h0=>?_) (fun h0=>Za (fun h1=>?_) (fun h1=>Za (fun h2=>?_) (fun h2=>Za (fun h3=>?_) (fun h3=>Za (fun h4=>Za (fun h5=>Za (fun h6=>Za (fun h7=>Za (fun h8=>?_) (fun h8=>?_)) (fun h7=>?_)) (fun h6=>?_)) (fun h5=>?_)) (fun h4=>⟨?r1,⟨?r0,Za (fun h5=>Za (fun h6=>Za (fun h7=>Za (fun h8=>Za (fun h9=>Za (fun h10=>Za (fun h11=>?_) (fun h11=>?_)) (fun h10=>Za (fun h11=>Za (fun h12=>?_) (fun h12=>?_)) (fun h11=>?_))) (fun h9=>?_)) (fun h8=>?_)) (fun h7=>?_)) (fun h6=>?_)) (fun h5=>?_)⟩⟩)))))
 case r0|r1=>first | rfl | (rw[Zm];done) | (simp only[Zm];omega) | (simp only[Face.enc];rfl)
 all_goals (try simp only[Zm,Qi_,Qf_] at *)
 all_goals simp only[YF,JX, *,Qp_,Ql_,Qr_,Qn_,Qu_,Qt_,Q4_,Qw_,Q5_,Q3_,Qb_,Qd_]
 all_goals first | rfl | (simp only[Yf,Qr_, *,Qp_,Ql_,Qr_,Qn_,Qu_,Qt_,Q4_,Qw_,Q5_,Q3_,Qb_,Qd_];first | done | rfl)
def ZqX:=YN [(141,Z0V),(142,Z0W),(143,Z0X),(144,Z0Y)]
def XS(i:Int)(l:LensM):=(List.map Face.enc l.faces).getD i.toNat []
def ZtS(i:Int)(l:LensM):=(0:Int)≤i∧(List.map Face.enc l.faces)[i.toNat]?=some (Yt [vB false,vI 0,vI 0,vI 0,vI 0,vI 0,vI 0,vI 0,vI 0,vI 0,vI 0,vI 0,vI 0,PV.str []] (XS i l))
theorem ZgY:CSOk Tryz.prog ZqX:=Zb Zw5<|Zb Zw6<|Zb Zw7<|Zb Z1z<|Zh
theorem Zl6:Yo Tryz.prog (Z6 Tryz.f87 0) ZfR:=by
 refine lsG Zo.Γ (ZD Zo ZgY ZJ ZK ZQ (LS:=[]) (Yh (l:=[]) (by kernel_rfl) Z0) (n:=2000) (U4 Zm5) (U4 Wv) (fun x e s=>((U4 Ww x=true∧e= .ret∧s=U4 Zc2 x)∨(U4 Ww x=false∧e= .exit 0∧s=U4 Zc1 x))) (fun x=>(x.2.2.2.faces.length - x.1).toNat) ZfQ Zly Zlz (fun x hx=>?_)) cv4 (fun _=>rfl) (fun _ h=>h) (fun _ _ _ _ h f=>fC h f fE fE)
 ·obtain ⟨i,sm,g,l⟩:=x
  simp only[U4,Wv] at hx
  refine sxT (fun Q=>(bif decide (i < ↑(List.map Face.enc l.faces).length) then ((ZtS i l)∧(([vB (Zv ((XS i l).headD PV.nil)),vI (Zd ((XS i l).tail.headD PV.nil)),vI (Zd ((XS i l).tail.tail.headD PV.nil)),vI (Zd ((XS i l).tail.tail.tail.headD PV.nil)),vI (Zd ((XS i l).tail.tail.tail.tail.headD PV.nil)),vI (Zd ((XS i l).tail.tail.tail.tail.tail.headD PV.nil)),vI (Zd ((XS i l).tail.tail.tail.tail.tail.tail.headD PV.nil)),vI (Zd ((XS i l).tail.tail.tail.tail.tail.tail.tail.headD PV.nil)),vI (Zd ((XS i l).tail.tail.tail.tail.tail.tail.tail.tail.headD PV.nil)),vI (Zd ((XS i l).tail.tail.tail.tail.tail.tail.tail.tail.tail.headD PV.nil)),vI (Zd ((XS i l).tail.tail.tail.tail.tail.tail.tail.tail.tail.tail.headD PV.nil)),vI (Zd ((XS i l).tail.tail.tail.tail.tail.tail.tail.tail.tail.tail.tail.headD PV.nil)),vI (Zd ((XS i l).tail.tail.tail.tail.tail.tail.tail.tail.tail.tail.tail.tail.headD PV.nil)),PV.str (Wf ((XS i l).tail.tail.tail.tail.tail.tail.tail.tail.tail.tail.tail.tail.tail.headD PV.nil))]=(Face.dec (XS i l)).enc)∧((List.map Glass.enc g=List.map Glass.enc (Zf Glass.dec (List.map Glass.enc g)))∧(((Zf Glass.dec (List.map Glass.enc g)).length≤(140737488355328:Nat))∧(bif !YF (Face.dec (XS i l)) (Zf Glass.dec (List.map Glass.enc g)) then Q (Ex.ret) (some ⟨55,[(4,AV.p (vB false))],[],[],[],[]⟩) else (bif sm then Q (Ex.normal) (some ⟨55,[(6,AV.p (vI (IntKind.i64.wrap (i+(1:Int))))),(2,AV.ptr 2 0),(5,AV.p (vB true)),(1,AV.p (PV.lst (List.map Glass.enc g)))],[(2,(Zq l))],[],[],[]⟩) else ((ZtS i l)∧Q (Ex.normal) (some ⟨55,[(6,AV.p (vI (IntKind.i64.wrap (i+(1:Int))))),(2,AV.ptr 2 0),(5,AV.p (vB (!Zv ((XS i l).headD PV.nil)))),(1,AV.p (PV.lst (List.map Glass.enc g)))],[(2,(Zq l))],[],[],[]⟩)))))))) else Q (Ex.exit (0:Nat)) (some ⟨55,[(5,AV.p (vB sm))],[],[],[],[]⟩))) (fun _=>by kernel_rfl) ?_
  delta XS ZtS Zq vI vB
  refine Za (fun h0=>⟨?r4,⟨?r3,⟨?r2,⟨?r1,Za (fun h1=> .inr ⟨by simp,_,rfl, ?_⟩) (fun h1=>Za (fun h2=> .inl ⟨rfl,(IntKind.i64.wrap (i+(1:Int)),true,g,l),rfl, ?_, ?_, ?_⟩) (fun h2=>⟨?r0,.inl ⟨rfl,(IntKind.i64.wrap (i+(1:Int)),!Zv (((List.map Face.enc l.faces).getD i.toNat []).headD PV.nil),g,l),rfl, ?_, ?_, ?_⟩⟩))⟩⟩⟩⟩) (fun h0=> .inr ⟨by simp,_,rfl, ?_⟩)
  case r0|r1|r2|r3|r4=>first | rfl | (rw[Zm];done) | (simp only[Zm];omega) | (simp only[Face.enc];rfl) | (obtain ⟨a1,a2,a3,a4⟩:=hx;simp only[Qk_,Qc_] at h0;first | exact Zp (fun _=>rfl) (by omega) (by omega) | (obtain ⟨x,t,e1,e2,e3⟩:=ZM (l:=l.faces) a1 (by omega);simp only[ZV e3];rfl)) | (simp only[LensM.enc,Z4];done)
  all_goals try dsimp only[U4]
  all_goals (obtain ⟨a1,a2,a3,a4⟩:=hx;try simp only[Qk_,Qc_,Qe_] at h0)
  all_goals first | (have hk:i < l.faces.length:=h0;obtain ⟨x,t,e1,e2,e3⟩:=ZM (l:=l.faces) a1 (by omega);simp only[ZV e3,Zm,show Face.dec (Face.enc x)=x from rfl,Qi_,Qf_] at *;have en:(l.faces.drop i.toNat).all (YF · g)=(YF x g&&t.all (YF · g)):=(by rw[e1];rfl);have es:YO (l.faces.drop i.toNat)=(!x.stop||YO t):=(by rw[e1];rfl)) | skip
  all_goals try rw[Ze (show Fit (i+1) by constructor<;>omega)]
  all_goals try simp only[U4,Wv,Ww,Zc2,Zc1]
  all_goals (try change x.stop=_ at h3)
  all_goals first
   | (exact .inl ⟨by rw[en,h1];rfl,by trivial,by trivial⟩)
   | (exact ⟨by omega,by omega,a3,a4⟩)
   | omega
   | (rw[en,es,e2,h1,h2,h3];exact fun e s h=>h)
   | (rw[en,es,e2,h1,h2];exact fun e s h=>h)
   | (exact .inr ⟨by rw[Q0_ (by omega)];rfl,by trivial,by rw[Q0_ (by omega),show YO []=false from rfl,Q3_]⟩)
   | skip
theorem ZmB:ZN Tryz.prog [(6,ZfR)] Tryz.f87:=ZI (l:=[Z6 Tryz.f87 0]) (by kernel_rfl) (ZR (i:=6) (by kernel_rfl) rfl Zl6 (Z0))
def Znq(l:LensM):=LensM.mk l.name l.back (Zf Face.dec (List.map Face.enc l.faces))
theorem Z2l:Zj Tryz.prog 87 e87:=Zk<|Zi fun l=>Zi fun g=>EZ1 fun hp0=>by
 refine cfL ZgY ZmB rfl ?_
 refine sxT (fun Q=>(bif !Yy l.name then Q (vB false) else (bif !printable l.back then Q (vB false) else (bif !decide (l.back.c > (0:Int)) then Q (vB false) else (bif decide (↑(List.map Face.enc l.faces).length > (12:Int)) then Q (vB false) else ((List.map Glass.enc g=List.map Glass.enc (Zf Glass.dec (List.map Glass.enc g)))∧(((Zq l)=(Znq l).enc)∧((Wv (0:Int) false (Zf Glass.dec (List.map Glass.enc g)) (Znq l))∧(bif Ww (0:Int) false (Zf Glass.dec (List.map Glass.enc g)) (Znq l) then Q (vB false) else Q (vB (false||YO (List.drop (0:Nat) (Zf Face.dec (List.map Face.enc l.faces)))))))))))))) (fun _=>by kernel_rfl) ?_
 delta Qn Znq Zq vI vB
 refine Za (fun h0=>?_) (fun h0=>Za (fun h1=>?_) (fun h1=>Za (fun h2=>?_) (fun h2=>Za (fun h3=>?_) (fun h3=>⟨?r1,⟨?r0,⟨?_,Za (fun h4=>?_) (fun h4=>?_)⟩⟩⟩))))
 case r0|r1=>first | rfl | (rw[Zm];done) | (simp only[Zm];omega) | (simp only[Face.enc];rfl) | (obtain ⟨a1,a2,a3,a4⟩:=hx;simp only[Qk_,Qc_] at h0;first | exact Zp (fun _=>rfl) (by omega) (by omega) | (obtain ⟨x,t,e1,e2,e3⟩:=ZM (l:=l.faces) a1 (by omega);simp only[ZV e3];rfl)) | (simp only[LensM.enc,Z4];done)
 all_goals (try simp only[Zm,Z4,Qi_,Qf_,Qk_,QO_,QG_,Ww,Qw_,show (⟨l.name,l.back,l.faces⟩:LensM)=l from rfl] at *)
 all_goals first
  | (simp only[Wv,Qe_] at *;omega)
  | (have e:decide (l.faces.length≤12)=false:=(by simp only[Qc_] at h3;exact QQ_ (by omega));simp only[Xm, *,Qp_,Ql_,Qr_,Qn_,Qu_,Qt_,Q4_,Qw_,Q5_,Q3_,Qb_,Qd_];rfl)
  | (have e:decide (l.faces.length≤12)=true:=(by simp only[Qe_] at h3;exact QH_ (by omega));simp only[Xm, *,Qp_,Ql_,Qr_,Qn_,Qu_,Qt_,Q4_,Qw_,Q5_,Q3_,Qb_,Qd_];rfl)
  | (simp only[Xm, *,Qp_,Ql_,Qr_,Qn_,Qu_,Qt_,Q4_,Qw_,Q5_,Q3_,Qb_,Qd_];rfl)
  | skip
def ZtT:=YN [(83,e83)]
def Zef:Option St:=some ⟨60,[(2,AV.p (vB false))],[],[],[],[]⟩
def ZhM(s:SysM):=List.map Surf.enc s.surfs
def ZcL(i:Int)(s:SysM):=(ZhM s).getD i.toNat []
theorem Zil:CSOk Tryz.prog ZtT:=Zb ZbI<|Zh
theorem ZmC:Yo Tryz.prog (Z6 Tryz.f96 0) ZgQ:=by
 refine lsG Zo.Γ (ZD Zo Zil ZJ ZK ZQ (LS:=[]) (Yh (l:=[]) (by kernel_rfl) Z0) (n:=2000) (U2 Zpc) (U2 WH) (fun x e s=>((U2 WI x=true∧e= .ret∧s=U2 Zdv x)∨(U2 WI x=false∧e= .exit 0∧s=U2 Zdu x))) (fun x=>(x.2.surfs.length - x.1).toNat) ZgP Zm6 Zm7 (fun x hx=>?_)) cv2 (fun _=>rfl) (fun _ h=>h) (fun _ _ _ _ h f=>fC h f fE fE)
 ·obtain ⟨i,s⟩:=x
  simp only[U2,WH] at hx
  refine sxT (fun Q=>(bif decide (i < ↑(ZhM s).length) then (((0:Int)≤i∧(ZhM s)[i.toNat]?=some (Yt [vB false,vB false,vI 0,vI 0,vB false,vI 0,vI 0,vB false,vI 0,vI 0,vB false,vI 0,vI 0,vB false,vI 0,vI 0,vB false,vI 0,vI 0,vB false,vI 0,vI 0,vB false] (ZcL i s)))∧(bif !right (Iv.dec (ZcL i s).tail.tail) then Q (Ex.ret) Zef else (bif !right (Iv.dec (ZcL i s).tail.tail.tail.tail.tail) then Q (Ex.ret) Zef else (bif !right (Iv.dec (ZcL i s).tail.tail.tail.tail.tail.tail.tail.tail) then Q (Ex.ret) Zef else (bif !right (Iv.dec (ZcL i s).tail.tail.tail.tail.tail.tail.tail.tail.tail.tail.tail) then Q (Ex.ret) Zef else (bif !right (Iv.dec (ZcL i s).tail.tail.tail.tail.tail.tail.tail.tail.tail.tail.tail.tail.tail.tail) then Q (Ex.ret) Zef else (bif !right (Iv.dec (ZcL i s).tail.tail.tail.tail.tail.tail.tail.tail.tail.tail.tail.tail.tail.tail.tail.tail.tail) then Q (Ex.ret) Zef else (bif !right (Iv.dec (ZcL i s).tail.tail.tail.tail.tail.tail.tail.tail.tail.tail.tail.tail.tail.tail.tail.tail.tail.tail.tail.tail) then Q (Ex.ret) Zef else Q (Ex.normal) (some ⟨60,[(3,AV.p (vI (IntKind.i64.wrap (i+(1:Int))))),(1,AV.ptr 1 0)],[(1,[PV.lst (ZhM s),vI s.op.lo,vI s.op.hi,vB s.op.no])],[],[],[]⟩))))))))) else Q (Ex.exit (0:Nat)) (some ⟨60,[(1,AV.ptr 1 0)],[(1,[PV.lst (ZhM s),vI s.op.lo,vI s.op.hi,vB s.op.no])],[],[],[]⟩))) (fun _=>by kernel_rfl) ?_
  delta Zef ZcL ZhM vI vB
  refine Za (fun h0=>⟨?r0,Za (fun h1=> .inr ⟨by simp,_,rfl, ?_⟩) (fun h1=>Za (fun h2=> .inr ⟨by simp,_,rfl, ?_⟩) (fun h2=>Za (fun h3=> .inr ⟨by simp,_,rfl, ?_⟩) (fun h3=>Za (fun h4=> .inr ⟨by simp,_,rfl, ?_⟩) (fun h4=>Za (fun h5=> .inr ⟨by simp,_,rfl, ?_⟩) (fun h5=>Za (fun h6=> .inr ⟨by simp,_,rfl, ?_⟩) (fun h6=>Za (fun h7=> .inr ⟨by simp,_,rfl, ?_⟩) (fun h7=> .inl ⟨rfl,(IntKind.i64.wrap (i+(1:Int)),s),rfl, ?_, ?_, ?_⟩)))))))⟩) (fun h0=> .inr ⟨by simp,_,rfl, ?_⟩)
  case r0=>first | rfl | (rw[Yi];done) | (simp only[SysM.enc,Yi];done) | (obtain ⟨a1,a2,a3⟩:=hx;simp only[Qk_,Qc_] at h0;exact Zp (fun _=>rfl) (by omega) (by omega))
  all_goals try dsimp only[U2]
  all_goals (obtain ⟨a1,a2,a3⟩:=hx;try simp only[Qk_,Qc_,Qe_] at h0)
  all_goals first | (have hk:i < s.surfs.length:=h0;obtain ⟨x,t,e1,e2,e3⟩:=ZM (l:=s.surfs) a1 (by omega);simp only[ZV e3] at *;have en:(s.surfs.drop i.toNat).all YG=(YG x&&t.all YG):=(by rw[e1];rfl)) | skip
  all_goals try rw[Ze (show Fit (i+1) by constructor<;>omega)]
  all_goals try simp only[U2,WH,WI,Zdv,Zdu]
  all_goals (try simp only[Qi_,Qf_] at *)
  all_goals (try change right x.curve=_ at h1)
  all_goals (try change right x.conic=_ at h2)
  all_goals (try change right x.a4=_ at h3)
  all_goals (try change right x.a6=_ at h4)
  all_goals (try change right x.pos=_ at h5)
  all_goals (try change right x.open2=_ at h6)
  all_goals (try change right x.ratio=_ at h7)
  all_goals first
   | (have hr:YG x=false:=(by simp only[YG, *,Qp_,Ql_,Qr_,Qn_,Qu_,Qt_,Q4_,Qw_,Q5_,Q3_,Qb_,Qd_]);exact .inl ⟨by rw[en,hr];rfl,by trivial,by trivial⟩)
   | (exact ⟨by omega,by omega,a3⟩)
   | omega
   | (have hr:YG x=true:=(by simp only[YG, *,Qp_,Ql_,Qr_,Qn_,Qu_,Qt_,Q4_,Qw_,Q5_,Q3_,Qb_,Qd_]);rw[en,e2,hr];exact fun e s h=>h)
   | (exact .inr ⟨by rw[Q0_ (by omega)];rfl,by trivial,by trivial⟩)
   | skip
theorem Zpz:ZN Tryz.prog [(3,ZgQ)] Tryz.f96:=ZI (l:=[Z6 Tryz.f96 0]) (by kernel_rfl) (ZR (i:=3) (by kernel_rfl) rfl ZmC (Z0))
def Znr(s:SysM):=SysM.mk (Zf Surf.dec (List.map Surf.enc s.surfs)) s.op
theorem Z2m:Zj Tryz.prog 96 e96:=Zk<|Zi fun s=>EZ1 fun hp0=>by
 refine cfL Zil Zpz rfl ?_
 refine sxT (fun Q=>(([PV.lst (List.map Surf.enc s.surfs),vI s.op.lo,vI s.op.hi,vB s.op.no]=(Znr s).enc)∧((WH (0:Int) (Znr s))∧(bif WI (0:Int) (Znr s) then Q (vB false) else Q (vB (right s.op)))))) (fun _=>by kernel_rfl) ?_
 delta Qn Znr vI vB
 refine ⟨?r0,⟨?_,Za (fun h0=>?_) (fun h0=>?_)⟩⟩
 case r0=>first | rfl | (rw[Yi];done) | (simp only[SysM.enc,Yi];done) | (obtain ⟨a1,a2,a3⟩:=hx;simp only[Qk_,Qc_] at h0;exact Zp (fun _=>rfl) (by omega) (by omega))
 all_goals simp only[WI,WH,Yi,QO_,QG_,Qi_,Qf_] at *
 ·exact ⟨by omega,by omega,hp0⟩
 ·simp only[WQ,h0,Ql_];rfl
 ·simp only[WQ,h0,Qp_];rfl
def Zyw:=YN [(87,e87),(88,e88),(89,e89),(90,e90),(91,e91),(92,e92),(93,e93),(94,e94),(95,e95),(96,e96)]
def fA(i:Int)(l:LensM):=(List.map Face.enc l.faces).getD i.toNat []
def Zyx(i:Int)(l:LensM):=Dec.mk (Zd ((fA i l).tail.headD PV.nil)) (Zd ((fA i l).tail.tail.headD PV.nil))
def dAp(i:Int)(l:LensM):=Dec.mk (Zd ((fA i l).tail.tail.tail.headD PV.nil)) (Zd ((fA i l).tail.tail.tail.tail.headD PV.nil))
def dTh(i:Int)(l:LensM):=Dec.mk (Zd ((fA i l).tail.tail.tail.tail.tail.headD PV.nil)) (Zd ((fA i l).tail.tail.tail.tail.tail.tail.headD PV.nil))
def dCo(i:Int)(l:LensM):=Dec.mk (Zd ((fA i l).tail.tail.tail.tail.tail.tail.tail.headD PV.nil)) (Zd ((fA i l).tail.tail.tail.tail.tail.tail.tail.tail.headD PV.nil))
def dA4(i:Int)(l:LensM):=Dec.mk (Zd ((fA i l).tail.tail.tail.tail.tail.tail.tail.tail.tail.headD PV.nil)) (Zd ((fA i l).tail.tail.tail.tail.tail.tail.tail.tail.tail.tail.headD PV.nil))
def dA6(i:Int)(l:LensM):=Dec.mk (Zd ((fA i l).tail.tail.tail.tail.tail.tail.tail.tail.tail.tail.tail.headD PV.nil)) (Zd ((fA i l).tail.tail.tail.tail.tail.tail.tail.tail.tail.tail.tail.tail.headD PV.nil))
def gN(i:Int)(l:LensM):=Wf ((fA i l).tail.tail.tail.tail.tail.tail.tail.tail.tail.tail.tail.tail.tail.headD PV.nil)
set_option maxHeartbeats 4000000 in
def JP(i:Int)(g:List Glass):=[(12,AV.p (vI (IntKind.i64.wrap (i+(1:Int))))),(9,AV.ptr 9 0),(10,AV.ptr 10 0),(11,AV.ptr 11 0),(5,AV.ptr 5 0),(1,AV.p (PV.lst (List.map Glass.enc g))),(8,AV.ptr 8 0),(3,AV.ptr 3 0),(6,AV.ptr 6 0)]
def Zkr(g:List Glass):=Zf Glass.dec (List.map Glass.enc g)
def Zeg(i:Int)(g:List Glass)(l:LensM):=ZC (Zkr g) (gN i l)
def JQ:=[(Loc.b (nat_lit 9) (nat_lit 0),nat_lit 75),(Loc.b (nat_lit 6) (nat_lit 0),nat_lit 75)]
def ZE(i:Int)(l:LensM):=sqr (Zg (dAp i l))
def ZF(i:Int)(one:Iv)(l:LensM):=add one (Zg (dCo i l))
def Jn(z:SysM):=[PV.lst (List.map Surf.enc z.surfs),vI z.op.lo,vI z.op.hi,vB z.op.no]
def Xu(i:Int)(l:LensM):=Zv ((fA i l).headD PV.nil)
def Yw(i:Int)(one:Iv)(l:LensM):=Z8 one (Zg (Zyx i l))
def Xv(i:Int)(g:List Glass)(ix:Iv)(w:Iv)(l:LensM):=Z8 ix (W1 (Zeg i g l).fst w)
def ZtU(i:Int)(g:List Glass)(s:SysM)(pos:Iv)(ix:Iv)(w:Iv)(one:Iv)(l:LensM):=List.map Surf.enc s.surfs++[[vB (Xu i l),vB true,vI (Yw i one l).lo,vI (Yw i one l).hi,vB (Yw i one l).no,vI (ZF i one l).lo,vI (ZF i one l).hi,vB (ZF i one l).no,vI (Zg (dA4 i l)).lo,vI (Zg (dA4 i l)).hi,vB (Zg (dA4 i l)).no,vI (Zg (dA6 i l)).lo,vI (Zg (dA6 i l)).hi,vB (Zg (dA6 i l)).no,vI pos.lo,vI pos.hi,vB pos.no,vI (ZE i l).lo,vI (ZE i l).hi,vB (ZE i l).no,vI (Xv i g ix w l).lo,vI (Xv i g ix w l).hi,vB (Xv i g ix w l).no]]
def ZtV(i:Int)(s:SysM)(pos:Iv)(ix:Iv)(one:Iv)(l:LensM):=List.map Surf.enc s.surfs++[[vB (Xu i l),vB true,vI (Yw i one l).lo,vI (Yw i one l).hi,vB (Yw i one l).no,vI (ZF i one l).lo,vI (ZF i one l).hi,vB (ZF i one l).no,vI (Zg (dA4 i l)).lo,vI (Zg (dA4 i l)).hi,vB (Zg (dA4 i l)).no,vI (Zg (dA6 i l)).lo,vI (Zg (dA6 i l)).hi,vB (Zg (dA6 i l)).no,vI pos.lo,vI pos.hi,vB pos.no,vI (ZE i l).lo,vI (ZE i l).hi,vB (ZE i l).no,vI (Z8 ix one).lo,vI (Z8 ix one).hi,vB (Z8 ix one).no]]
def ZtW(i:Int)(s:SysM)(pos:Iv)(one:Iv)(l:LensM):=List.map Surf.enc s.surfs++[[vB (Xu i l),vB true,vI (Yw i one l).lo,vI (Yw i one l).hi,vB (Yw i one l).no,vI (ZF i one l).lo,vI (ZF i one l).hi,vB (ZF i one l).no,vI (Zg (dA4 i l)).lo,vI (Zg (dA4 i l)).hi,vB (Zg (dA4 i l)).no,vI (Zg (dA6 i l)).lo,vI (Zg (dA6 i l)).hi,vB (Zg (dA6 i l)).no,vI pos.lo,vI pos.hi,vB pos.no,vI (ZE i l).lo,vI (ZE i l).hi,vB (ZE i l).no,vI one.lo,vI one.hi,vB one.no]]
def WJ(s:SysM):=(List.map Surf.enc s.surfs).length+(1:Nat)
def Zp0(i:Int)(g:List Glass)(s:SysM)(pos:Iv)(ix:Iv)(w:Iv)(one:Iv)(l:LensM):=List.map Surf.enc s.surfs++[[vB (Xu i l),vB true,vI 0,vI 0,vB false,vI (ZF i one l).lo,vI (ZF i one l).hi,vB (ZF i one l).no,vI (Zg (dA4 i l)).lo,vI (Zg (dA4 i l)).hi,vB (Zg (dA4 i l)).no,vI (Zg (dA6 i l)).lo,vI (Zg (dA6 i l)).hi,vB (Zg (dA6 i l)).no,vI pos.lo,vI pos.hi,vB pos.no,vI (ZE i l).lo,vI (ZE i l).hi,vB (ZE i l).no,vI (Xv i g ix w l).lo,vI (Xv i g ix w l).hi,vB (Xv i g ix w l).no]]
def Zp1(i:Int)(s:SysM)(pos:Iv)(ix:Iv)(one:Iv)(l:LensM):=List.map Surf.enc s.surfs++[[vB (Xu i l),vB true,vI 0,vI 0,vB false,vI (ZF i one l).lo,vI (ZF i one l).hi,vB (ZF i one l).no,vI (Zg (dA4 i l)).lo,vI (Zg (dA4 i l)).hi,vB (Zg (dA4 i l)).no,vI (Zg (dA6 i l)).lo,vI (Zg (dA6 i l)).hi,vB (Zg (dA6 i l)).no,vI pos.lo,vI pos.hi,vB pos.no,vI (ZE i l).lo,vI (ZE i l).hi,vB (ZE i l).no,vI (Z8 ix one).lo,vI (Z8 ix one).hi,vB (Z8 ix one).no]]
def Zp2(i:Int)(s:SysM)(pos:Iv)(one:Iv)(l:LensM):=List.map Surf.enc s.surfs++[[vB (Xu i l),vB true,vI 0,vI 0,vB false,vI (ZF i one l).lo,vI (ZF i one l).hi,vB (ZF i one l).no,vI (Zg (dA4 i l)).lo,vI (Zg (dA4 i l)).hi,vB (Zg (dA4 i l)).no,vI (Zg (dA6 i l)).lo,vI (Zg (dA6 i l)).hi,vB (Zg (dA6 i l)).no,vI pos.lo,vI pos.hi,vB pos.no,vI (ZE i l).lo,vI (ZE i l).hi,vB (ZE i l).no,vI one.lo,vI one.hi,vB one.no]]
def WK(i:Int)(pos:Iv)(l:LensM):=eIv (add pos (Zg (dTh i l)))
def ZgZ(g:List Glass):=List.map Glass.enc g=List.map Glass.enc (Zkr g)
def Zha:=[(97:UInt8),(105:UInt8),(114:UInt8)]
def Zhb(g:List Glass):=(Zkr g).length≤(140737488355328:Nat)
def Zhc(i:Int)(g:List Glass)(l:LensM):=(W3 (Zeg i g l).fst)=(Zeg i g l).fst.enc
theorem Zmn:CSOk Tryz.prog Zyw:=Zb Z2l<|Zb Ztr<|Zb ZtK<|Zb Zzh<|Zb Ztt<|Zb Zze<|Zb ZtF<|Zb Zzi<|Zb Z2i<|Zb Z2m<|Zh
set_option maxHeartbeats 4000000 in
theorem ZqY:Yo Tryz.prog (Z6 Tryz.f41 0) Zka:=by
 refine lsG Zo.Γ (ZD Zo Zmn ZJ ZK ZQ (LS:=[]) (Yh (l:=[]) (by kernel_rfl) Z0) (n:=2000) (U9 ZjY) (U9 ZaV) (fun x e s=>(e= .exit 0∧s=U9 ZcG x)) (fun x=>(x.2.2.2.2.2.2.2.1.faces.length - x.1).toNat) ZjZ ZqJ ZqK (fun x hx=>?_)) cv9 (fun _=>rfl) (fun _ h=>h) (fun _ _ _ _ h f=>fE h f)
 ·obtain ⟨i,g,s,pos,ix,w,one,l,z⟩:=x
  simp only[U9,ZaV] at hx
  refine sxT (fun Q=>(bif decide (i < ↑(List.map Face.enc l.faces).length) then (((0:Int)≤i∧(List.map Face.enc l.faces)[i.toNat]?=some (Yt [vB false,vI 0,vI 0,vI 0,vI 0,vI 0,vI 0,vI 0,vI 0,vI 0,vI 0,vI 0,vI 0,PV.str []] (fA i l)))∧(bif !Yf (dA4 i l) then (bif Zd ((fA i l).tail.headD PV.nil)!=(0:Int) then (bif !Zv ((fA i l).headD PV.nil) then (bif !(gN i l)==Zha then ((ZgZ g)∧((Zhb g)∧((Zhc i g l)∧(((0:Nat) < (1:Nat)∧(WJ s)* (176:Nat)≤(140737488355328:Nat)∧Lens (23:Nat) (ZtU i g s pos ix w one l))∧Q (Ex.normal) (some ⟨126,(JP i g),[(9,[PV.lst (ZtU i g s pos ix w one l),vI s.op.lo,vI s.op.hi,vB s.op.no]),(10,(WK i pos l)),(11,(eIv (W1 (Zeg i g l).fst w))),(5,(eIv w)),(8,(eIv one)),(3,(Zq l)),(6,(Jn z))],[],JQ,[]⟩))))) else (((0:Nat) < (1:Nat)∧(WJ s)* (176:Nat)≤(140737488355328:Nat)∧Lens (23:Nat) (ZtV i s pos ix one l))∧Q (Ex.normal) (some ⟨126,(JP i g),[(9,[PV.lst (ZtV i s pos ix one l),vI s.op.lo,vI s.op.hi,vB s.op.no]),(10,(WK i pos l)),(11,(eIv one)),(5,(eIv w)),(8,(eIv one)),(3,(Zq l)),(6,(Jn z))],[],JQ,[]⟩))) else (((0:Nat) < (1:Nat)∧(WJ s)* (176:Nat)≤(140737488355328:Nat)∧Lens (23:Nat) (ZtW i s pos one l))∧Q (Ex.normal) (some ⟨126,(JP i g),[(9,[PV.lst (ZtW i s pos one l),vI s.op.lo,vI s.op.hi,vB s.op.no]),(10,(WK i pos l)),(11,(eIv ix)),(5,(eIv w)),(8,(eIv one)),(3,(Zq l)),(6,(Jn z))],[],JQ,[]⟩))) else (bif !Zv ((fA i l).headD PV.nil) then (bif !(gN i l)==Zha then ((ZgZ g)∧((Zhb g)∧((Zhc i g l)∧(((0:Nat) < (1:Nat)∧(WJ s)* (176:Nat)≤(140737488355328:Nat)∧Lens (23:Nat) (Zp0 i g s pos ix w one l))∧Q (Ex.normal) (some ⟨126,(JP i g),[(9,[PV.lst (Zp0 i g s pos ix w one l),vI s.op.lo,vI s.op.hi,vB s.op.no]),(10,(WK i pos l)),(11,(eIv (W1 (Zeg i g l).fst w))),(5,(eIv w)),(8,(eIv one)),(3,(Zq l)),(6,(Jn z))],[],JQ,[]⟩))))) else (((0:Nat) < (1:Nat)∧(WJ s)* (176:Nat)≤(140737488355328:Nat)∧Lens (23:Nat) (Zp1 i s pos ix one l))∧Q (Ex.normal) (some ⟨126,(JP i g),[(9,[PV.lst (Zp1 i s pos ix one l),vI s.op.lo,vI s.op.hi,vB s.op.no]),(10,(WK i pos l)),(11,(eIv one)),(5,(eIv w)),(8,(eIv one)),(3,(Zq l)),(6,(Jn z))],[],JQ,[]⟩))) else (((0:Nat) < (1:Nat)∧(WJ s)* (176:Nat)≤(140737488355328:Nat)∧Lens (23:Nat) (Zp2 i s pos one l))∧Q (Ex.normal) (some ⟨126,(JP i g),[(9,[PV.lst (Zp2 i s pos one l),vI s.op.lo,vI s.op.hi,vB s.op.no]),(10,(WK i pos l)),(11,(eIv ix)),(5,(eIv w)),(8,(eIv one)),(3,(Zq l)),(6,(Jn z))],[],JQ,[]⟩)))) else (bif Zd ((fA i l).tail.headD PV.nil)!=(0:Int) then (bif !Zv ((fA i l).headD PV.nil) then (bif !(gN i l)==Zha then ((ZgZ g)∧((Zhb g)∧((Zhc i g l)∧(((0:Nat) < (1:Nat)∧(WJ s)* (176:Nat)≤(140737488355328:Nat)∧Lens (23:Nat) (List.map Surf.enc s.surfs++[[vB (Xu i l),vB !Yf (dA6 i l),vI (Yw i one l).lo,vI (Yw i one l).hi,vB (Yw i one l).no,vI (ZF i one l).lo,vI (ZF i one l).hi,vB (ZF i one l).no,vI (Zg (dA4 i l)).lo,vI (Zg (dA4 i l)).hi,vB (Zg (dA4 i l)).no,vI (Zg (dA6 i l)).lo,vI (Zg (dA6 i l)).hi,vB (Zg (dA6 i l)).no,vI pos.lo,vI pos.hi,vB pos.no,vI (ZE i l).lo,vI (ZE i l).hi,vB (ZE i l).no,vI (Xv i g ix w l).lo,vI (Xv i g ix w l).hi,vB (Xv i g ix w l).no]]))∧Q (Ex.normal) (some ⟨126,(JP i g),[(9,[PV.lst (List.map Surf.enc s.surfs++[[vB (Xu i l),vB (!Yf (dA6 i l)),vI (Yw i one l).lo,vI (Yw i one l).hi,vB (Yw i one l).no,vI (ZF i one l).lo,vI (ZF i one l).hi,vB (ZF i one l).no,vI (Zg (dA4 i l)).lo,vI (Zg (dA4 i l)).hi,vB (Zg (dA4 i l)).no,vI (Zg (dA6 i l)).lo,vI (Zg (dA6 i l)).hi,vB (Zg (dA6 i l)).no,vI pos.lo,vI pos.hi,vB pos.no,vI (ZE i l).lo,vI (ZE i l).hi,vB (ZE i l).no,vI (Xv i g ix w l).lo,vI (Xv i g ix w l).hi,vB (Xv i g ix w l).no]]),vI s.op.lo,vI s.op.hi,vB s.op.no]),(10,(WK i pos l)),(11,(eIv (W1 (Zeg i g l).fst w))),(5,(eIv w)),(8,(eIv one)),(3,(Zq l)),(6,(Jn z))],[],JQ,[]⟩))))) else (((0:Nat) < (1:Nat)∧(WJ s)* (176:Nat)≤(140737488355328:Nat)∧Lens (23:Nat) (List.map Surf.enc s.surfs++[[vB (Xu i l),vB !Yf (dA6 i l),vI (Yw i one l).lo,vI (Yw i one l).hi,vB (Yw i one l).no,vI (ZF i one l).lo,vI (ZF i one l).hi,vB (ZF i one l).no,vI (Zg (dA4 i l)).lo,vI (Zg (dA4 i l)).hi,vB (Zg (dA4 i l)).no,vI (Zg (dA6 i l)).lo,vI (Zg (dA6 i l)).hi,vB (Zg (dA6 i l)).no,vI pos.lo,vI pos.hi,vB pos.no,vI (ZE i l).lo,vI (ZE i l).hi,vB (ZE i l).no,vI (Z8 ix one).lo,vI (Z8 ix one).hi,vB (Z8 ix one).no]]))∧Q (Ex.normal) (some ⟨126,(JP i g),[(9,[PV.lst (List.map Surf.enc s.surfs++[[vB (Xu i l),vB (!Yf (dA6 i l)),vI (Yw i one l).lo,vI (Yw i one l).hi,vB (Yw i one l).no,vI (ZF i one l).lo,vI (ZF i one l).hi,vB (ZF i one l).no,vI (Zg (dA4 i l)).lo,vI (Zg (dA4 i l)).hi,vB (Zg (dA4 i l)).no,vI (Zg (dA6 i l)).lo,vI (Zg (dA6 i l)).hi,vB (Zg (dA6 i l)).no,vI pos.lo,vI pos.hi,vB pos.no,vI (ZE i l).lo,vI (ZE i l).hi,vB (ZE i l).no,vI (Z8 ix one).lo,vI (Z8 ix one).hi,vB (Z8 ix one).no]]),vI s.op.lo,vI s.op.hi,vB s.op.no]),(10,(WK i pos l)),(11,(eIv one)),(5,(eIv w)),(8,(eIv one)),(3,(Zq l)),(6,(Jn z))],[],JQ,[]⟩))) else (((0:Nat) < (1:Nat)∧(WJ s)* (176:Nat)≤(140737488355328:Nat)∧Lens (23:Nat) (List.map Surf.enc s.surfs++[[vB (Xu i l),vB !Yf (dA6 i l),vI (Yw i one l).lo,vI (Yw i one l).hi,vB (Yw i one l).no,vI (ZF i one l).lo,vI (ZF i one l).hi,vB (ZF i one l).no,vI (Zg (dA4 i l)).lo,vI (Zg (dA4 i l)).hi,vB (Zg (dA4 i l)).no,vI (Zg (dA6 i l)).lo,vI (Zg (dA6 i l)).hi,vB (Zg (dA6 i l)).no,vI pos.lo,vI pos.hi,vB pos.no,vI (ZE i l).lo,vI (ZE i l).hi,vB (ZE i l).no,vI one.lo,vI one.hi,vB one.no]]))∧Q (Ex.normal) (some ⟨126,(JP i g),[(9,[PV.lst (List.map Surf.enc s.surfs++[[vB (Xu i l),vB (!Yf (dA6 i l)),vI (Yw i one l).lo,vI (Yw i one l).hi,vB (Yw i one l).no,vI (ZF i one l).lo,vI (ZF i one l).hi,vB (ZF i one l).no,vI (Zg (dA4 i l)).lo,vI (Zg (dA4 i l)).hi,vB (Zg (dA4 i l)).no,vI (Zg (dA6 i l)).lo,vI (Zg (dA6 i l)).hi,vB (Zg (dA6 i l)).no,vI pos.lo,vI pos.hi,vB pos.no,vI (ZE i l).lo,vI (ZE i l).hi,vB (ZE i l).no,vI one.lo,vI one.hi,vB one.no]]),vI s.op.lo,vI s.op.hi,vB s.op.no]),(10,(WK i pos l)),(11,(eIv ix)),(5,(eIv w)),(8,(eIv one)),(3,(Zq l)),(6,(Jn z))],[],JQ,[]⟩))) else (bif !Zv ((fA i l).headD PV.nil) then (bif !(gN i l)==Zha then ((ZgZ g)∧((Zhb g)∧((Zhc i g l)∧(((0:Nat) < (1:Nat)∧(WJ s)* (176:Nat)≤(140737488355328:Nat)∧Lens (23:Nat) (List.map Surf.enc s.surfs++[[vB (Xu i l),vB !Yf (dA6 i l),vI 0,vI 0,vB false,vI (ZF i one l).lo,vI (ZF i one l).hi,vB (ZF i one l).no,vI (Zg (dA4 i l)).lo,vI (Zg (dA4 i l)).hi,vB (Zg (dA4 i l)).no,vI (Zg (dA6 i l)).lo,vI (Zg (dA6 i l)).hi,vB (Zg (dA6 i l)).no,vI pos.lo,vI pos.hi,vB pos.no,vI (ZE i l).lo,vI (ZE i l).hi,vB (ZE i l).no,vI (Xv i g ix w l).lo,vI (Xv i g ix w l).hi,vB (Xv i g ix w l).no]]))∧Q (Ex.normal) (some ⟨126,(JP i g),[(9,[PV.lst (List.map Surf.enc s.surfs++[[vB (Xu i l),vB (!Yf (dA6 i l)),vI 0,vI 0,vB false,vI (ZF i one l).lo,vI (ZF i one l).hi,vB (ZF i one l).no,vI (Zg (dA4 i l)).lo,vI (Zg (dA4 i l)).hi,vB (Zg (dA4 i l)).no,vI (Zg (dA6 i l)).lo,vI (Zg (dA6 i l)).hi,vB (Zg (dA6 i l)).no,vI pos.lo,vI pos.hi,vB pos.no,vI (ZE i l).lo,vI (ZE i l).hi,vB (ZE i l).no,vI (Xv i g ix w l).lo,vI (Xv i g ix w l).hi,vB (Xv i g ix w l).no]]),vI s.op.lo,vI s.op.hi,vB s.op.no]),(10,(WK i pos l)),(11,(eIv (W1 (Zeg i g l).fst w))),(5,(eIv w)),(8,(eIv one)),(3,(Zq l)),(6,(Jn z))],[],JQ,[]⟩))))) else (((0:Nat) < (1:Nat)∧(WJ s)* (176:Nat)≤(140737488355328:Nat)∧Lens (23:Nat) (List.map Surf.enc s.surfs++[[vB (Xu i l),vB !Yf (dA6 i l),vI 0,vI 0,vB false,vI (ZF i one l).lo,vI (ZF i one l).hi,vB (ZF i one l).no,vI (Zg (dA4 i l)).lo,vI (Zg (dA4 i l)).hi,vB (Zg (dA4 i l)).no,vI (Zg (dA6 i l)).lo,vI (Zg (dA6 i l)).hi,vB (Zg (dA6 i l)).no,vI pos.lo,vI pos.hi,vB pos.no,vI (ZE i l).lo,vI (ZE i l).hi,vB (ZE i l).no,vI (Z8 ix one).lo,vI (Z8 ix one).hi,vB (Z8 ix one).no]]))∧Q (Ex.normal) (some ⟨126,(JP i g),[(9,[PV.lst (List.map Surf.enc s.surfs++[[vB (Xu i l),vB (!Yf (dA6 i l)),vI 0,vI 0,vB false,vI (ZF i one l).lo,vI (ZF i one l).hi,vB (ZF i one l).no,vI (Zg (dA4 i l)).lo,vI (Zg (dA4 i l)).hi,vB (Zg (dA4 i l)).no,vI (Zg (dA6 i l)).lo,vI (Zg (dA6 i l)).hi,vB (Zg (dA6 i l)).no,vI pos.lo,vI pos.hi,vB pos.no,vI (ZE i l).lo,vI (ZE i l).hi,vB (ZE i l).no,vI (Z8 ix one).lo,vI (Z8 ix one).hi,vB (Z8 ix one).no]]),vI s.op.lo,vI s.op.hi,vB s.op.no]),(10,(WK i pos l)),(11,(eIv one)),(5,(eIv w)),(8,(eIv one)),(3,(Zq l)),(6,(Jn z))],[],JQ,[]⟩))) else (((0:Nat) < (1:Nat)∧(WJ s)* (176:Nat)≤(140737488355328:Nat)∧Lens (23:Nat) (List.map Surf.enc s.surfs++[[vB (Xu i l),vB !Yf (dA6 i l),vI 0,vI 0,vB false,vI (ZF i one l).lo,vI (ZF i one l).hi,vB (ZF i one l).no,vI (Zg (dA4 i l)).lo,vI (Zg (dA4 i l)).hi,vB (Zg (dA4 i l)).no,vI (Zg (dA6 i l)).lo,vI (Zg (dA6 i l)).hi,vB (Zg (dA6 i l)).no,vI pos.lo,vI pos.hi,vB pos.no,vI (ZE i l).lo,vI (ZE i l).hi,vB (ZE i l).no,vI one.lo,vI one.hi,vB one.no]]))∧Q (Ex.normal) (some ⟨126,(JP i g),[(9,[PV.lst (List.map Surf.enc s.surfs++[[vB (Xu i l),vB (!Yf (dA6 i l)),vI 0,vI 0,vB false,vI (ZF i one l).lo,vI (ZF i one l).hi,vB (ZF i one l).no,vI (Zg (dA4 i l)).lo,vI (Zg (dA4 i l)).hi,vB (Zg (dA4 i l)).no,vI (Zg (dA6 i l)).lo,vI (Zg (dA6 i l)).hi,vB (Zg (dA6 i l)).no,vI pos.lo,vI pos.hi,vB pos.no,vI (ZE i l).lo,vI (ZE i l).hi,vB (ZE i l).no,vI one.lo,vI one.hi,vB one.no]]),vI s.op.lo,vI s.op.hi,vB s.op.no]),(10,(WK i pos l)),(11,(eIv ix)),(5,(eIv w)),(8,(eIv one)),(3,(Zq l)),(6,(Jn z))],[],JQ,[]⟩)))))) else Q (Ex.exit (0:Nat)) (some ⟨126,[(6,AV.ptr 6 0),(9,AV.ptr 9 0)],[(6,(Jn z)),(9,[PV.lst (List.map Surf.enc s.surfs),vI s.op.lo,vI s.op.hi,vB s.op.no])],[],[],[]⟩))) (fun _=>by kernel_rfl) ?_
  delta JP Zeg JQ ZE ZF Jn ZtU ZtV ZtW WJ Zp0 Xu Zp1 Yw Zp2 Xv Zkr WK ZgZ Zha Zhb Zhc eIv W3 Zq vI vB
  refine Za (fun h0=>⟨?r24,Za (fun h1=>Za (fun h2=>Za (fun h3=>Za (fun h4=>⟨?r3,⟨?r2,⟨?r1,⟨?r0, ?_⟩⟩⟩⟩) (fun h4=>⟨?r4, ?_⟩)) (fun h3=>⟨?r5, ?_⟩)) (fun h2=>Za (fun h3=>Za (fun h4=>⟨?r9,⟨?r8,⟨?r7,⟨?r6, ?_⟩⟩⟩⟩) (fun h4=>⟨?r10, ?_⟩)) (fun h3=>⟨?r11, ?_⟩))) (fun h1=>Za (fun h2=>Za (fun h3=>Za (fun h4=>⟨?r15,⟨?r14,⟨?r13,⟨?r12, ?_⟩⟩⟩⟩) (fun h4=>⟨?r16, ?_⟩)) (fun h3=>⟨?r17, ?_⟩)) (fun h2=>Za (fun h3=>Za (fun h4=>⟨?r21,⟨?r20,⟨?r19,⟨?r18, ?_⟩⟩⟩⟩) (fun h4=>⟨?r22, ?_⟩)) (fun h3=>⟨?r23, ?_⟩)))⟩) (fun h0=>?_)
  case r0|r1|r2|r3|r4|r5|r6|r7|r8|r9|r10|r11|r12|r13|r14|r15|r16|r17|r18|r19|r20|r21|r22|r23|r24=>first | rfl | (rw[Zm];done) | (simp only[SysM.enc,Yi];done) | (simp only[Qf_,Zm,Z4,Yi,QG_,show Zf Surf.dec []=[] from rfl,QJ_,ZbF,show (⟨l.name,l.back,l.faces⟩:LensM)=l from rfl] at *;have hl:=(WF h0).2;omega) | (try simp only[Zm,LensM.enc,Z4,Qk_] at *;first | done | rfl | omega | exact hp0 | (obtain ⟨⟨a1,a2,a3,a4,a5⟩,a6⟩:=hx;simp only[Qc_] at h0;first | omega | exact Zp (fun _=>rfl) (by omega) (by omega) | exact ⟨by decide,by omega,Yu (Yg (e:=Surf.enc) (fun _=>rfl) _) rfl⟩) | (simp only[Qf_,show (⟨l.name,l.back,l.faces⟩:LensM)=l from rfl] at h0;obtain ⟨⟨f,t,hf⟩,_⟩:=WF h0;exact Zp (i:=0) (fun _=>rfl) (by omega) (by rw[hf];simp only[Qs_];omega)))
  all_goals (obtain ⟨⟨a1,a2,a3,a4,a5⟩,a6⟩:=hx;try simp only[Qk_,Qc_,Qe_] at h0)
  all_goals subst a6
  all_goals first | (have hk:i < l.faces.length:=h0;obtain ⟨x,t,e1,e2,e3⟩:=ZM (l:=l.faces) a1 (by omega);have eA:fA i l=Face.enc x:=ZV e3;have r1:Zyx i l=x.radius:=(by unfold Zyx;rw[eA];rfl);have r2:dAp i l=x.aperture:=(by unfold dAp;rw[eA];rfl);have r3:dTh i l=x.thick:=(by unfold dTh;rw[eA];rfl);have r4:dCo i l=x.conic:=(by unfold dCo;rw[eA];rfl);have r5:dA4 i l=x.a4:=(by unfold dA4;rw[eA];rfl);have r6:dA6 i l=x.a6:=(by unfold dA6;rw[eA];rfl);have r7:gN i l=x.glass:=(by unfold gN;rw[eA];rfl);(try simp only[r1,r2,r3,r4,r5,r6,r7,eA,Zm] at *)) | (exact .inr ⟨by simp,_,rfl,by trivial,by unfold U9 ZcG;(try dsimp only);rw[List.drop_eq_nil_of_le (by omega),show ∀p q,YZ g w [] p q=[] from fun _ _=>rfl,List.append_nil];rfl⟩)
  all_goals (have hw:IntKind.i64.wrap (i+1)=i+1:=Ze (by constructor<;>omega);have eb:YZ g w (l.faces.drop i.toNat) pos ix=Zag x pos (X0 x g w ix)::YZ g w (l.faces.drop (IntKind.i64.wrap (i+1)).toNat) (add pos (Zg x.thick)) (ZaQ x g w ix):=(by rw[hw,e1,e2];rfl))
  all_goals
   refine .inl ⟨by trivial,(IntKind.i64.wrap (i+1),g,⟨s.surfs++[Zag x pos (X0 x g w ix)],s.op⟩,add pos (Zg x.thick),ZaQ x g w ix,w,point 65536,l,z), ?_, ?_, ?_, ?_⟩
   ·simp only[Qi_,Qf_,bne] at *
    have q1:Zd (x.enc.tail.headD PV.nil)=x.radius.c:=rfl
    have q2:Zv (x.enc.headD PV.nil)=x.stop:=rfl
    simp only[q1,q2] at *
    simp only[U9,ZjY,SysM.enc,LensM.enc,QR_,QE_,QN_,Surf.enc,Zag,X0,ZaQ,Zi2,ZcT,JX,bne, *,Qp_,Ql_,Qr_,Qn_,Qu_,Qt_,Q4_,Qw_,Q5_,Q3_,Qb_,Qd_]
    try rfl
   ·simp only[U9,ZaV,hw,Qx_,Qs_,Q1_];exact ⟨⟨by omega,by omega,a3,a4,by omega⟩,trivial⟩
   ·simp only[hw];omega
   ·intro e s' h;refine ⟨h.1,h.2.trans ?_⟩;unfold U9 ZcG;rw[eb];simp only[QB_,QS_,QJ_]
theorem ZtX:ZN Tryz.prog [(9,Zka)] Tryz.f41:=ZI (l:=[Z6 Tryz.f41 0]) (by kernel_rfl) (ZR (i:=9) (by kernel_rfl) rfl ZqY (Z0))
def Zd0(l:LensM):=List.map Face.enc l.faces
def W5(l:LensM):=Zg (Dec.mk (Zd (((Zd0 l).getD (0:Nat) []).tail.tail.tail.headD PV.nil)) (Zd (((Zd0 l).getD (0:Nat) []).tail.tail.tail.tail.headD PV.nil)))
def Zd1(g:List Glass):=Zf Glass.dec (List.map Glass.enc g)
def ZeK(l:LensM)(g:List Glass)(w:Iv):=List.map Surf.enc (Zf Surf.dec []++YZ (Zd1 g) w (List.drop (0:Nat) (Zf Face.dec (Zd0 l))) (Zg l.back) (point (65536:Int)))
def Zhd(l:LensM):=LensM.mk l.name l.back (Zf Face.dec (Zd0 l))
def q11_28:=SysM.mk (Zf Surf.dec []) (Iv.mk (0:Int) (0:Int) false)
set_option maxHeartbeats 4000000 in
theorem Z2n:Zj Tryz.prog 41 e41:=Zk<|Zi fun l=>Zi fun g=>Zi fun w=>EZ1 fun hp0=>by
 refine cfL Zmn ZtX rfl ?_
 refine sxT (fun Q=>(((Zq l)=(Zhd l).enc)∧((List.map Glass.enc g=List.map Glass.enc (Zd1 g))∧(((Zd1 g).length≤(140737488355328:Nat))∧(bif !Xm (Zhd l) (Zd1 g) then Q (PV.tup [PV.agg [.nil,vI 0,vI 0,vB false],vI 1]) else (((0:Int)≤(0:Int)∧(Zd0 l)[(0:Nat)]?=some (Yt [vB false,vI 0,vI 0,vI 0,vI 0,vI 0,vI 0,vI 0,vI 0,vI 0,vI 0,vI 0,vI 0,PV.str []] ((Zd0 l).getD (0:Nat) [])))∧((List.map Glass.enc g=List.map Glass.enc (Zd1 g))∧(([PV.lst [],vI (W5 l).lo,vI (W5 l).hi,vB (W5 l).no]=(SysM.mk (Zf Surf.dec []) (W5 l)).enc)∧(((Zq l)=(Zhd l).enc)∧(([PV.lst [],vI 0,vI 0,vB false]=q11_28.enc)∧((ZaV (0:Int) (Zd1 g) (SysM.mk (Zf Surf.dec []) (W5 l)) (Zg l.back) (point (65536:Int)) w (point (65536:Int)) (Zhd l) q11_28)∧(([PV.lst (ZeK l g w),vI (W5 l).lo,vI (W5 l).hi,vB (W5 l).no]=(SysM.mk (Zf Surf.dec (ZeK l g w)) (W5 l)).enc)∧(((Zf Surf.dec (ZeK l g w)).length≤(140737488355328:Nat))∧(bif !WQ (SysM.mk (Zf Surf.dec (ZeK l g w)) (W5 l)) then Q (PV.tup [PV.agg [.nil,vI 0,vI 0,vB false],vI 6]) else Q (PV.tup [PV.agg [PV.lst (ZeK l g w),vI (W5 l).lo,vI (W5 l).hi,vB (W5 l).no],vI 0]))))))))))))))) (fun _=>by kernel_rfl) ?_
 delta Qn W5 ZeK Zhd Zd1 Zd0 q11_28 Zq vI vB
 refine ⟨?r9,⟨?r8,⟨?r7,Za (fun h0=>?_) (fun h0=>⟨?r6,⟨?r5,⟨?r4,⟨?r3,⟨?r2,⟨?_,⟨?r1,⟨?r0,Za (fun h1=>?_) (fun h1=>?_)⟩⟩⟩⟩⟩⟩⟩⟩)⟩⟩⟩
 case r0|r1|r2|r3|r4|r5|r6|r7|r8|r9=>first | rfl | (rw[Zm];done) | (simp only[SysM.enc,Yi];done) | (simp only[Qf_,Zm,Z4,Yi,QG_,show Zf Surf.dec []=[] from rfl,QJ_,ZbF,show (⟨l.name,l.back,l.faces⟩:LensM)=l from rfl] at *;have hl:=(WF h0).2;omega) | (try simp only[Zm,LensM.enc,Z4,Qk_] at *;first | done | rfl | omega | exact hp0 | (obtain ⟨⟨a1,a2,a3,a4,a5⟩,a6⟩:=hx;simp only[Qc_] at h0;first | omega | exact Zp (fun _=>rfl) (by omega) (by omega) | exact ⟨by decide,by omega,Yu (Yg (e:=Surf.enc) (fun _=>rfl) _) rfl⟩) | (simp only[Qf_,show (⟨l.name,l.back,l.faces⟩:LensM)=l from rfl] at h0;obtain ⟨⟨f,t,hf⟩,_⟩:=WF h0;exact Zp (i:=0) (fun _=>rfl) (by omega) (by rw[hf];simp only[Qs_];omega)))
 all_goals simp only[Zm,Z4,Yi,Qi_,Qf_,QG_,QO_,show Zf Surf.dec []=[] from rfl,QJ_,show (⟨l.name,l.back,l.faces⟩:LensM)=l from rfl] at *
 ·simp only[Yb,h0,Qd_];rfl
 all_goals obtain ⟨⟨f,t,hf⟩,hl⟩:=WF h0
 all_goals have ef:(List.map Face.enc l.faces).getD 0 []=Face.enc f:=(by rw[hf];rfl)
 all_goals simp only[ef] at *
 all_goals have e0:Wc l g w=⟨YZ g w l.faces (Zg l.back) (point 65536),Zg f.aperture⟩:=(by unfold Wc ZmX;rw[hf];rfl)
 ·exact ⟨⟨by omega,by simp,by simpa using hl,hp0,rfl⟩,rfl⟩
 ·change WQ ⟨YZ g w l.faces (Zg l.back) (point 65536),Zg f.aperture⟩=false at h1
  rw[←e0] at h1
  simp only[Yb,h0,h1,Qb_,Qd_];rfl
 ·change WQ ⟨YZ g w l.faces (Zg l.back) (point 65536),Zg f.aperture⟩=true at h1
  rw[←e0] at h1
  have eb:Yb l g w=(Wc l g w,0):=(by simp only[Yb,h0,h1,Qb_])
  rw[eb,e0];rfl
def ZmD:=YN [(11,e11),(45,e45),(12,e12)]
def ZfD(i:Int)(l:List I):=Zd (((List.map I.enc l).getD i.toNat []).headD PV.nil)
def ZtY(i:Int)(l:List I):=hdec (5:Nat) (pick (IntKind.i64.wrap ((ZfD i l).tdiv (7:Int))) (50000:Int)) (5:Int)
def ZtZ(i:Int)(l:List I):=hdec (5:Nat) (pick (IntKind.i64.wrap ((ZfD i l).tdiv (11:Int))) (3000:Int)) (5:Int)
def Zua(i:Int)(l:List I):=hdec (5:Nat) (pick (IntKind.i64.wrap ((ZfD i l).tdiv (13:Int))) (9000:Int)) (5:Int)
def Zub(i:Int)(l:List I):=hdec (3:Nat) (IntKind.i64.wrap (pick (IntKind.i64.wrap ((ZfD i l).tdiv (17:Int))) (200000:Int) - (1000:Int))) (3:Int)
def Zuc(i:Int)(out:List Glass)(l:List I):=List.map Glass.enc out++[[PV.str ([(103:UInt8)]++digits i),vI (hdec (5:Nat) (pick (ZfD i l) (200000:Int)) (5:Int)).c,vI (hdec (5:Nat) (pick (ZfD i l) (200000:Int)) (5:Int)).scale,vI (ZtY i l).c,vI (ZtY i l).scale,vI 0,vI 0,vI (ZtZ i l).c,vI (ZtZ i l).scale,vI (Zua i l).c,vI (Zua i l).scale,vI (Zub i l).c,vI (Zub i l).scale]]
def ZhN(i:Int)(l:List I):=(0:Int)≤i∧(List.map I.enc l)[i.toNat]?=some (Yt [vI 0] ((List.map I.enc l).getD i.toNat []))
def Zks:=(0:Int)≤(5:Int)∧(5:Int)≤(18:Int)
def Zud:=(0:Int) < (200000:Int)∧(200000:Int)≤(4611686018427387904:Int)
theorem ZeL:CSOk Tryz.prog ZmD:=Zb Zzg<|Zb ZtM<|Zb Zkp<|Zh
theorem ZiP:Yo Tryz.prog (Z6 Tryz.f10 0) ZaX:=by
 refine lsG Zo.Γ (ZD Zo ZeL ZJ ZK (ZrE (G:=(Gx.mk [] [] [] [] [23])) (ZrD) (ZoB)) (LS:=[]) (Yh (l:=[]) (by kernel_rfl) Z0) (n:=2000) (U3 Zea) (U3 XF) (fun x e s=>(e= .exit 0∧s=U3 Jm x)) (fun x=>(3 - x.1).toNat) Zeb ZiB ZiC (fun x hx=>?_)) cv3 (fun _=>rfl) (fun _ h=>h) (fun _ _ _ _ h f=>fE h f)
 ·obtain ⟨i,out,l⟩:=x
  simp only[U3,XF] at hx
  refine sxT (fun Q=>(bif decide (i < ↑(List.map I.enc l).length) then (bif decide (i < (3:Int)) then (((-1000000000000000000:Int)≤i∧i≤(1000000000000000000:Int))∧(((1:Nat)+(digits i).length≤(9223372036854775807:Nat))∧((ZhN i l)∧(Zud∧(Zks∧((ZhN i l)∧(((7:Int)≠(0:Int))∧(((0:Int) < (50000:Int)∧(50000:Int)≤(4611686018427387904:Int))∧(Zks∧((ZhN i l)∧(((11:Int)≠(0:Int))∧(((0:Int) < (3000:Int)∧(3000:Int)≤(4611686018427387904:Int))∧(Zks∧((ZhN i l)∧(((13:Int)≠(0:Int))∧(((0:Int) < (9000:Int)∧(9000:Int)≤(4611686018427387904:Int))∧(Zks∧((ZhN i l)∧(((17:Int)≠(0:Int))∧(Zud∧(((0:Int)≤(3:Int)∧(3:Int)≤(18:Int))∧(((0:Nat) < (1:Nat)∧((List.map Glass.enc out).length+(1:Nat))* (112:Nat)≤(140737488355328:Nat)∧Lens (13:Nat) (Zuc i out l))∧Q (Ex.normal) (some ⟨80,[(4,AV.p (vI (IntKind.i64.wrap (i+(1:Int))))),(3,AV.p (PV.lst (Zuc i out l))),(0,AV.p (PV.lst (List.map I.enc l)))],[],[],[(Loc.t (nat_lit 3),nat_lit 30)],[]⟩))))))))))))))))))))))) else Q (Ex.exit (0:Nat)) (some ⟨80,[(3,AV.p (PV.lst (List.map Glass.enc out)))],[],[],[],[]⟩)) else Q (Ex.exit (0:Nat)) (some ⟨80,[(3,AV.p (PV.lst (List.map Glass.enc out)))],[],[],[],[]⟩))) (fun _=>by kernel_rfl) ?_
  delta Zuc ZfD ZhN Zks Zub Zud ZtY ZtZ Zua vI
  refine Za (fun h0=>Za (fun h1=>⟨?r21,⟨?r20,⟨?r19,⟨?r18,⟨?r17,⟨?r16,⟨?r15,⟨?r14,⟨?r13,⟨?r12,⟨?r11,⟨?r10,⟨?r9,⟨?r8,⟨?r7,⟨?r6,⟨?r5,⟨?r4,⟨?r3,⟨?r2,⟨?r1,⟨?r0, ?_⟩⟩⟩⟩⟩⟩⟩⟩⟩⟩⟩⟩⟩⟩⟩⟩⟩⟩⟩⟩⟩⟩) (fun h1=>?_)) (fun h0=>?_)
  case r0|r1|r2|r3|r4|r5|r6|r7|r8|r9|r10|r11|r12|r13|r14|r15|r16|r17|r18|r19|r20|r21=>first | rfl | omega | (rw[dI];done) | (obtain ⟨a1,a2,a3,a4⟩:=hx;simp only[Qk_,Qc_] at *;first | omega | exact Zp (fun _=>rfl) (by omega) (by omega) | exact ⟨by decide,by omega,Yu (Yg (e:=Glass.enc) (fun _=>rfl) _) rfl⟩ | (have:=Y5 i;omega))
  all_goals (obtain ⟨a1,a2,a3,a4⟩:=hx;(try simp only[Z0G,Qk_] at *))
  all_goals (try simp only[Qc_,Qe_] at h0)
  all_goals (try simp only[Qc_,Qe_] at h1)
  all_goals first
   | (have hw:IntKind.i64.wrap (i+1)=i+1:=Ze (by constructor<;>omega)
      have eb:Zby (3 - i).toNat l i=ZjR l i::Zby (3 - (i+1)).toNat l (i+1):=(by rw[show (3 - i).toNat=(3 - (i+1)).toNat+1 by omega];rw[ZgD,QH_ h0,QH_ h1];rfl)
      refine .inl ⟨by trivial,(IntKind.i64.wrap (i+1),out++[ZjR l i],l), ?_, ?_, ?_, ?_⟩
      ·simp only[U3,Zea,QR_,QE_,QN_];rfl
      ·simp only[U3,XF,hw,Qx_,Qs_,Q1_];exact ⟨by omega,by omega,a3,by omega⟩
      ·simp only[hw];omega
      ·intro e s' h;refine ⟨h.1,h.2.trans ?_⟩;unfold U3 Jm;(try dsimp only);rw[hw,eb];simp only[List.append_assoc,List.cons_append,List.nil_append])
   | (have eb:Zby (3 - i).toNat l i=[]:=(by
       by_cases hi:i < 3
       ·rw[show (3 - i).toNat=(3 - (i+1)).toNat+1 by omega];rw[ZgD,show (decide (i < (l.length:Int))&&decide (i < 3))=false by simp;omega];rfl
       ·rw[show (3 - i).toNat=0 by omega];rfl)
      exact .inr ⟨by simp,_,rfl,by trivial,by unfold U3 Jm;(try dsimp only);(rw[eb,List.append_nil])<;>rfl⟩)
theorem Zkt:ZN Tryz.prog [(4,ZaX)] Tryz.f10:=ZI (l:=[Z6 Tryz.f10 0]) (by kernel_rfl) (ZR (i:=4) (by kernel_rfl) rfl ZiP (Z0))
def Zhe:=[[PV.str [(99:UInt8),(114:UInt8),(111:UInt8),(119:UInt8),(110:UInt8)],vI 103961,vI 5,vI 23179,vI 5,vI 101047,vI 5,vI 6,vI 3,vI 2002,vI 5,vI 1035607,vI 4],[PV.str [(102:UInt8),(108:UInt8),(105:UInt8),(110:UInt8),(116:UInt8)],vI 17376,vI 4,vI 31375,vI 5,vI 189878,vI 5,vI 1319,vI 5,vI 6231,vI 5,vI 1552363,vI 4]]
def JD:=(0:Int)≤(5:Int)∧(5:Int)≤(18:Int)
def Zp3:=(0:Int)≤(4:Int)∧(4:Int)≤(18:Int)
theorem Zzj:Zj Tryz.prog 10 e10:=Zk<|Zi fun l=>EZ1 fun hp0=>by
 refine Zi4 Zo ZeL ZJ ZK (ZrE (G:=(Gx.mk [] [] [] [] [23])) (ZrD) (ZoB)) (n:=2000) (LS:=[(4,ZaX)]) (fn:=Tryz.f10) rfl Zkt ?_
 refine sxT (fun Q=>(JD∧(JD∧(JD∧(JD∧(JD∧(Zp3∧(JD∧(JD∧(JD∧(JD∧(JD∧(Zp3∧((Zhe=List.map Glass.enc (Zf Glass.dec Zhe))∧((List.map I.enc l=List.map I.enc (Zf I.dec (List.map I.enc l)))∧((XF (0:Int) (Zf Glass.dec Zhe) (Zf I.dec (List.map I.enc l)))∧Q (PV.lst (List.map Glass.enc (Zf Glass.dec Zhe++Zby (3:Nat) (Zf I.dec (List.map I.enc l)) (0:Int)))))))))))))))))))) (fun _=>by kernel_rfl) ?_
 delta Qn Zhe JD Zp3 vI
 refine ⟨?r13,⟨?r12,⟨?r11,⟨?r10,⟨?r9,⟨?r8,⟨?r7,⟨?r6,⟨?r5,⟨?r4,⟨?r3,⟨?r2,⟨?r1,⟨?r0,⟨?_, ?_⟩⟩⟩⟩⟩⟩⟩⟩⟩⟩⟩⟩⟩⟩⟩
 case r0|r1|r2|r3|r4|r5|r6|r7|r8|r9|r10|r11|r12|r13=>first | rfl | omega | (rw[dI];done) | (obtain ⟨a1,a2,a3,a4⟩:=hx;simp only[Qk_,Qc_] at *;first | omega | exact Zp (fun _=>rfl) (by omega) (by omega) | exact ⟨by decide,by omega,Yu (Yg (e:=Glass.enc) (fun _=>rfl) _) rfl⟩ | (have:=Y5 i;omega))
 ·simp only[XF,dI];exact ⟨by omega,by omega,hp0,rfl⟩
 ·simp only[dI];rfl
def Zue:=YN [(12,e12),(45,e45),(11,e11),(53,e53)]
def rA(i:Int)(l:List RawFace):=(List.map RawFace.enc l).getD i.toNat []
def Zuf(i:Int)(l:List RawFace):=Zd ((rA i l).headD PV.nil)
def qR(i:Int)(l:List RawFace):=Zd ((rA i l).tail.headD PV.nil)
def qA(i:Int)(l:List RawFace):=Zd ((rA i l).tail.tail.headD PV.nil)
def qT(i:Int)(l:List RawFace):=Zd ((rA i l).tail.tail.tail.headD PV.nil)
def qG(i:Int)(l:List RawFace):=Zd ((rA i l).tail.tail.tail.tail.headD PV.nil)
def qK(i:Int)(l:List RawFace):=Zd ((rA i l).tail.tail.tail.tail.tail.headD PV.nil)
set_option maxHeartbeats 4000000 in
def Zbf(g:List Glass):=List.map Glass.enc g
def ZeM(g:List Glass):=IntKind.i64.wrap (↑(Zbf g).length+(2:Int))
def Zp4:=(0:Int) < (7:Int)∧(7:Int)≤(4611686018427387904:Int)
def Zhf:=(0:Int) < (900:Int)∧(900:Int)≤(4611686018427387904:Int)
def Xw:=(0:Int)≤(1:Int)∧(1:Int)≤(18:Int)
def Zp5:=(0:Int) < (2:Int)∧(2:Int)≤(4611686018427387904:Int)
def Zcn:=(0:Int) < (6:Int)∧(6:Int)≤(4611686018427387904:Int)
def Xx:=(6:Int)≠(0:Int)
def Zd2:=(0:Int) < (30:Int)∧(30:Int)≤(4611686018427387904:Int)
def Y1(u:LensM):=(List.map Face.enc u.faces).length+(1:Nat)
def Xh(i:Int)(l:List RawFace):=hdec (1:Nat) (IntKind.i64.wrap ((-150:Int) - pick (qR i l) (900:Int))) (1:Int)
def Zw(i:Int)(l:List RawFace):=hdec (1:Nat) (IntKind.i64.wrap ((30:Int)+pick (qA i l) (70:Int))) (1:Int)
def Zx(i:Int)(l:List RawFace):=hdec (1:Nat) (pick (qT i l) (80:Int)) (1:Int)
def XT(i:Int)(l:List RawFace):=hdec (1:Nat) (IntKind.i64.wrap (pick (IntKind.i64.wrap ((qK i l).tdiv (6:Int))) (30:Int) - (15:Int))) (1:Int)
def JR(i:Int)(g:List Glass)(l:List RawFace):=Wf (((Zbf g).getD (pick (qG i l) (ZeM g)).toNat []).headD PV.nil)
def Zp6(i:Int)(g:List Glass)(l:List RawFace)(u:LensM):=List.map Face.enc u.faces++[[vB false,vI (Xh i l).c,vI (Xh i l).scale,vI (Zw i l).c,vI (Zw i l).scale,vI (Zx i l).c,vI (Zx i l).scale,vI (XT i l).c,vI (XT i l).scale,vI 0,vI 0,vI 0,vI 0,PV.str (JR i g l)]]
def YY(i:Int)(g:List Glass)(l:List RawFace)(most:Int):=[(10,AV.p (vI (IntKind.i64.wrap (i+(1:Int))))),(9,AV.ptr 9 0),(2,AV.p (PV.lst (Zbf g))),(1,AV.p (PV.lst (List.map RawFace.enc l))),(8,AV.ptr 8 0),(3,pI most)]
def Y2:=[(Loc.b (nat_lit 9) (nat_lit 3),nat_lit 32),(Loc.b (nat_lit 8) (nat_lit 3),nat_lit 32)]
def Xy:=(0:Int) < (400:Int)∧(400:Int)≤(4611686018427387904:Int)
def WL:=(0:Int)≤(2:Int)∧(2:Int)≤(18:Int)
def Yn(i:Int)(l:List RawFace):=hdec (2:Nat) (IntKind.i64.wrap (pick (IntKind.i64.wrap ((qK i l).tdiv (6:Int))) (400:Int) - (200:Int))) (2:Int)
def Zp7(i:Int)(g:List Glass)(l:List RawFace)(u:LensM):=List.map Face.enc u.faces++[[vB false,vI (Xh i l).c,vI (Xh i l).scale,vI (Zw i l).c,vI (Zw i l).scale,vI (Zx i l).c,vI (Zx i l).scale,vI 0,vI 0,vI (Yn i l).c,vI (Yn i l).scale,vI 0,vI 0,PV.str (JR i g l)]]
def Zd3:=(12:Int)≠(0:Int)
def XU(i:Int)(l:List RawFace):=hdec (1:Nat) (IntKind.i64.wrap (pick (IntKind.i64.wrap ((qK i l).tdiv (12:Int))) (400:Int) - (200:Int))) (1:Int)
def Zp8(i:Int)(g:List Glass)(l:List RawFace)(u:LensM):=List.map Face.enc u.faces++[[vB false,vI (Xh i l).c,vI (Xh i l).scale,vI (Zw i l).c,vI (Zw i l).scale,vI (Zx i l).c,vI (Zx i l).scale,vI 0,vI 0,vI (Yn i l).c,vI (Yn i l).scale,vI (XU i l).c,vI (XU i l).scale,PV.str (JR i g l)]]
def Zp9(i:Int)(g:List Glass)(l:List RawFace)(u:LensM):=List.map Face.enc u.faces++[[vB false,vI (Xh i l).c,vI (Xh i l).scale,vI (Zw i l).c,vI (Zw i l).scale,vI (Zx i l).c,vI (Zx i l).scale,vI 0,vI 0,vI 0,vI 0,vI 0,vI 0,PV.str (JR i g l)]]
def YB(i:Int)(l:List RawFace):=hdec (1:Nat) (IntKind.i64.wrap ((150:Int)+pick (qR i l) (900:Int))) (1:Int)
def ZpA(i:Int)(g:List Glass)(l:List RawFace)(u:LensM):=List.map Face.enc u.faces++[[vB false,vI (YB i l).c,vI (YB i l).scale,vI (Zw i l).c,vI (Zw i l).scale,vI (Zx i l).c,vI (Zx i l).scale,vI (XT i l).c,vI (XT i l).scale,vI 0,vI 0,vI 0,vI 0,PV.str (JR i g l)]]
def ZpB(i:Int)(g:List Glass)(l:List RawFace)(u:LensM):=List.map Face.enc u.faces++[[vB false,vI (YB i l).c,vI (YB i l).scale,vI (Zw i l).c,vI (Zw i l).scale,vI (Zx i l).c,vI (Zx i l).scale,vI 0,vI 0,vI (Yn i l).c,vI (Yn i l).scale,vI 0,vI 0,PV.str (JR i g l)]]
def ZpC(i:Int)(g:List Glass)(l:List RawFace)(u:LensM):=List.map Face.enc u.faces++[[vB false,vI (YB i l).c,vI (YB i l).scale,vI (Zw i l).c,vI (Zw i l).scale,vI (Zx i l).c,vI (Zx i l).scale,vI 0,vI 0,vI (Yn i l).c,vI (Yn i l).scale,vI (XU i l).c,vI (XU i l).scale,PV.str (JR i g l)]]
def ZpD(i:Int)(g:List Glass)(l:List RawFace)(u:LensM):=List.map Face.enc u.faces++[[vB false,vI (YB i l).c,vI (YB i l).scale,vI (Zw i l).c,vI (Zw i l).scale,vI (Zx i l).c,vI (Zx i l).scale,vI 0,vI 0,vI 0,vI 0,vI 0,vI 0,PV.str (JR i g l)]]
def ZpE(i:Int)(g:List Glass)(l:List RawFace)(u:LensM):=List.map Face.enc u.faces++[[vB false,vI 0,vI 0,vI (Zw i l).c,vI (Zw i l).scale,vI (Zx i l).c,vI (Zx i l).scale,vI (XT i l).c,vI (XT i l).scale,vI 0,vI 0,vI 0,vI 0,PV.str (JR i g l)]]
def ZpF(i:Int)(g:List Glass)(l:List RawFace)(u:LensM):=List.map Face.enc u.faces++[[vB false,vI 0,vI 0,vI (Zw i l).c,vI (Zw i l).scale,vI (Zx i l).c,vI (Zx i l).scale,vI 0,vI 0,vI (Yn i l).c,vI (Yn i l).scale,vI 0,vI 0,PV.str (JR i g l)]]
def ZpG(i:Int)(g:List Glass)(l:List RawFace)(u:LensM):=List.map Face.enc u.faces++[[vB false,vI 0,vI 0,vI (Zw i l).c,vI (Zw i l).scale,vI (Zx i l).c,vI (Zx i l).scale,vI 0,vI 0,vI (Yn i l).c,vI (Yn i l).scale,vI (XU i l).c,vI (XU i l).scale,PV.str (JR i g l)]]
def ZpH(i:Int)(g:List Glass)(l:List RawFace)(u:LensM):=List.map Face.enc u.faces++[[vB false,vI 0,vI 0,vI (Zw i l).c,vI (Zw i l).scale,vI (Zx i l).c,vI (Zx i l).scale,vI 0,vI 0,vI 0,vI 0,vI 0,vI 0,PV.str (JR i g l)]]
def YC:=[(97:UInt8),(105:UInt8),(114:UInt8)]
def Zug(i:Int)(g:List Glass)(l:List RawFace)(most:Int)(u:LensM)(z:LensM)(Q:Ex→Option St→Prop):Prop:=((0:Int) < IntKind.i64.wrap (↑(Zbf g).length+(2:Int))∧IntKind.i64.wrap (↑(Zbf g).length+(2:Int))≤(4611686018427387904:Int))∧(bif decide (pick (qG i l) (ZeM g) < ↑(Zbf g).length) then (((0:Int)≤pick (qG i l) (ZeM g)∧(Zbf g)[(pick (qG i l) (ZeM g)).toNat]?=some (Yt [PV.str [],vI 0,vI 0,vI 0,vI 0,vI 0,vI 0,vI 0,vI 0,vI 0,vI 0,vI 0,vI 0] ((Zbf g).getD (pick (qG i l) (ZeM g)).toNat [])))∧(Zp4∧(bif decide (pick (qR i l) (7:Int) > (0:Int)) then (Zhf∧(Xw∧(((7:Int)≠(0:Int))∧(Zp5∧(bif pick (IntKind.i64.wrap ((qR i l).tdiv (7:Int))) (2:Int)==(0:Int) then (Zhf∧(Xw∧(Zcn∧(bif pick (qK i l) (6:Int)==(3:Int) then (Xx∧(Zd2∧(Xw∧(((0:Nat) < (1:Nat)∧(Y1 u)* (120:Nat)≤(140737488355328:Nat)∧Lens (14:Nat) (Zp6 i g l u))∧Q (Ex.normal) (some ⟨166,(YY i g l most),[(9,[PV.str u.name,vI u.back.c,vI u.back.scale,PV.lst (Zp6 i g l u)]),(8,(Zq z))],[],Y2,[]⟩))))) else (bif pick (qK i l) (6:Int)==(4:Int) then (Xx∧(Xy∧(WL∧(((0:Nat) < (1:Nat)∧(Y1 u)* (120:Nat)≤(140737488355328:Nat)∧Lens (14:Nat) (Zp7 i g l u))∧Q (Ex.normal) (some ⟨166,(YY i g l most),[(9,[PV.str u.name,vI u.back.c,vI u.back.scale,PV.lst (Zp7 i g l u)]),(8,(Zq z))],[],Y2,[]⟩))))) else (bif pick (qK i l) (6:Int)==(5:Int) then (Xx∧(Xy∧(WL∧(Zd3∧(Xy∧(Xw∧(((0:Nat) < (1:Nat)∧(Y1 u)* (120:Nat)≤(140737488355328:Nat)∧Lens (14:Nat) (Zp8 i g l u))∧Q (Ex.normal) (some ⟨166,(YY i g l most),[(9,[PV.str u.name,vI u.back.c,vI u.back.scale,PV.lst (Zp8 i g l u)]),(8,(Zq z))],[],Y2,[]⟩)))))))) else (((0:Nat) < (1:Nat)∧(Y1 u)* (120:Nat)≤(140737488355328:Nat)∧Lens (14:Nat) (Zp9 i g l u))∧Q (Ex.normal) (some ⟨166,(YY i g l most),[(9,[PV.str u.name,vI u.back.c,vI u.back.scale,PV.lst (Zp9 i g l u)]),(8,(Zq z))],[],Y2,[]⟩)))))))) else (Zcn∧(bif pick (qK i l) (6:Int)==(3:Int) then (Xx∧(Zd2∧(Xw∧(((0:Nat) < (1:Nat)∧(Y1 u)* (120:Nat)≤(140737488355328:Nat)∧Lens (14:Nat) (ZpA i g l u))∧Q (Ex.normal) (some ⟨166,(YY i g l most),[(9,[PV.str u.name,vI u.back.c,vI u.back.scale,PV.lst (ZpA i g l u)]),(8,(Zq z))],[],Y2,[]⟩))))) else (bif pick (qK i l) (6:Int)==(4:Int) then (Xx∧(Xy∧(WL∧(((0:Nat) < (1:Nat)∧(Y1 u)* (120:Nat)≤(140737488355328:Nat)∧Lens (14:Nat) (ZpB i g l u))∧Q (Ex.normal) (some ⟨166,(YY i g l most),[(9,[PV.str u.name,vI u.back.c,vI u.back.scale,PV.lst (ZpB i g l u)]),(8,(Zq z))],[],Y2,[]⟩))))) else (bif pick (qK i l) (6:Int)==(5:Int) then (Xx∧(Xy∧(WL∧(Zd3∧(Xy∧(Xw∧(((0:Nat) < (1:Nat)∧(Y1 u)* (120:Nat)≤(140737488355328:Nat)∧Lens (14:Nat) (ZpC i g l u))∧Q (Ex.normal) (some ⟨166,(YY i g l most),[(9,[PV.str u.name,vI u.back.c,vI u.back.scale,PV.lst (ZpC i g l u)]),(8,(Zq z))],[],Y2,[]⟩)))))))) else (((0:Nat) < (1:Nat)∧(Y1 u)* (120:Nat)≤(140737488355328:Nat)∧Lens (14:Nat) (ZpD i g l u))∧Q (Ex.normal) (some ⟨166,(YY i g l most),[(9,[PV.str u.name,vI u.back.c,vI u.back.scale,PV.lst (ZpD i g l u)]),(8,(Zq z))],[],Y2,[]⟩))))))))))) else (Zcn∧(bif pick (qK i l) (6:Int)==(3:Int) then (Xx∧(Zd2∧(Xw∧(((0:Nat) < (1:Nat)∧(Y1 u)* (120:Nat)≤(140737488355328:Nat)∧Lens (14:Nat) (ZpE i g l u))∧Q (Ex.normal) (some ⟨166,(YY i g l most),[(9,[PV.str u.name,vI u.back.c,vI u.back.scale,PV.lst (ZpE i g l u)]),(8,(Zq z))],[],Y2,[]⟩))))) else (bif pick (qK i l) (6:Int)==(4:Int) then (Xx∧(Xy∧(WL∧(((0:Nat) < (1:Nat)∧(Y1 u)* (120:Nat)≤(140737488355328:Nat)∧Lens (14:Nat) (ZpF i g l u))∧Q (Ex.normal) (some ⟨166,(YY i g l most),[(9,[PV.str u.name,vI u.back.c,vI u.back.scale,PV.lst (ZpF i g l u)]),(8,(Zq z))],[],Y2,[]⟩))))) else (bif pick (qK i l) (6:Int)==(5:Int) then (Xx∧(Xy∧(WL∧(Zd3∧(Xy∧(Xw∧(((0:Nat) < (1:Nat)∧(Y1 u)* (120:Nat)≤(140737488355328:Nat)∧Lens (14:Nat) (ZpG i g l u))∧Q (Ex.normal) (some ⟨166,(YY i g l most),[(9,[PV.str u.name,vI u.back.c,vI u.back.scale,PV.lst (ZpG i g l u)]),(8,(Zq z))],[],Y2,[]⟩)))))))) else (((0:Nat) < (1:Nat)∧(Y1 u)* (120:Nat)≤(140737488355328:Nat)∧Lens (14:Nat) (ZpH i g l u))∧Q (Ex.normal) (some ⟨166,(YY i g l most),[(9,[PV.str u.name,vI u.back.c,vI u.back.scale,PV.lst (ZpH i g l u)]),(8,(Zq z))],[],Y2,[]⟩))))))))) else (Zp4∧(bif decide (pick (qR i l) (7:Int) > (0:Int)) then (Zhf∧(Xw∧(((7:Int)≠(0:Int))∧(Zp5∧(bif pick (IntKind.i64.wrap ((qR i l).tdiv (7:Int))) (2:Int)==(0:Int) then (Zhf∧(Xw∧(Zcn∧(bif pick (qK i l) (6:Int)==(3:Int) then (Xx∧(Zd2∧(Xw∧(((0:Nat) < (1:Nat)∧(Y1 u)* (120:Nat)≤(140737488355328:Nat)∧Lens (14:Nat) (List.map Face.enc u.faces++[[vB false,vI (Xh i l).c,vI (Xh i l).scale,vI (Zw i l).c,vI (Zw i l).scale,vI (Zx i l).c,vI (Zx i l).scale,vI (XT i l).c,vI (XT i l).scale,vI 0,vI 0,vI 0,vI 0,PV.str YC]]))∧Q (Ex.normal) (some ⟨166,(YY i g l most),[(9,[PV.str u.name,vI u.back.c,vI u.back.scale,PV.lst (List.map Face.enc u.faces++[[vB false,vI (Xh i l).c,vI (Xh i l).scale,vI (Zw i l).c,vI (Zw i l).scale,vI (Zx i l).c,vI (Zx i l).scale,vI (XT i l).c,vI (XT i l).scale,vI 0,vI 0,vI 0,vI 0,PV.str (YC)]])]),(8,(Zq z))],[],Y2,[]⟩))))) else (bif pick (qK i l) (6:Int)==(4:Int) then (Xx∧(Xy∧(WL∧(((0:Nat) < (1:Nat)∧(Y1 u)* (120:Nat)≤(140737488355328:Nat)∧Lens (14:Nat) (List.map Face.enc u.faces++[[vB false,vI (Xh i l).c,vI (Xh i l).scale,vI (Zw i l).c,vI (Zw i l).scale,vI (Zx i l).c,vI (Zx i l).scale,vI 0,vI 0,vI (Yn i l).c,vI (Yn i l).scale,vI 0,vI 0,PV.str YC]]))∧Q (Ex.normal) (some ⟨166,(YY i g l most),[(9,[PV.str u.name,vI u.back.c,vI u.back.scale,PV.lst (List.map Face.enc u.faces++[[vB false,vI (Xh i l).c,vI (Xh i l).scale,vI (Zw i l).c,vI (Zw i l).scale,vI (Zx i l).c,vI (Zx i l).scale,vI 0,vI 0,vI (Yn i l).c,vI (Yn i l).scale,vI 0,vI 0,PV.str (YC)]])]),(8,(Zq z))],[],Y2,[]⟩))))) else (bif pick (qK i l) (6:Int)==(5:Int) then (Xx∧(Xy∧(WL∧(Zd3∧(Xy∧(Xw∧(((0:Nat) < (1:Nat)∧(Y1 u)* (120:Nat)≤(140737488355328:Nat)∧Lens (14:Nat) (List.map Face.enc u.faces++[[vB false,vI (Xh i l).c,vI (Xh i l).scale,vI (Zw i l).c,vI (Zw i l).scale,vI (Zx i l).c,vI (Zx i l).scale,vI 0,vI 0,vI (Yn i l).c,vI (Yn i l).scale,vI (XU i l).c,vI (XU i l).scale,PV.str YC]]))∧Q (Ex.normal) (some ⟨166,(YY i g l most),[(9,[PV.str u.name,vI u.back.c,vI u.back.scale,PV.lst (List.map Face.enc u.faces++[[vB false,vI (Xh i l).c,vI (Xh i l).scale,vI (Zw i l).c,vI (Zw i l).scale,vI (Zx i l).c,vI (Zx i l).scale,vI 0,vI 0,vI (Yn i l).c,vI (Yn i l).scale,vI (XU i l).c,vI (XU i l).scale,PV.str (YC)]])]),(8,(Zq z))],[],Y2,[]⟩)))))))) else (((0:Nat) < (1:Nat)∧(Y1 u)* (120:Nat)≤(140737488355328:Nat)∧Lens (14:Nat) (List.map Face.enc u.faces++[[vB false,vI (Xh i l).c,vI (Xh i l).scale,vI (Zw i l).c,vI (Zw i l).scale,vI (Zx i l).c,vI (Zx i l).scale,vI 0,vI 0,vI 0,vI 0,vI 0,vI 0,PV.str YC]]))∧Q (Ex.normal) (some ⟨166,(YY i g l most),[(9,[PV.str u.name,vI u.back.c,vI u.back.scale,PV.lst (List.map Face.enc u.faces++[[vB false,vI (Xh i l).c,vI (Xh i l).scale,vI (Zw i l).c,vI (Zw i l).scale,vI (Zx i l).c,vI (Zx i l).scale,vI 0,vI 0,vI 0,vI 0,vI 0,vI 0,PV.str (YC)]])]),(8,(Zq z))],[],Y2,[]⟩)))))))) else (Zcn∧(bif pick (qK i l) (6:Int)==(3:Int) then (Xx∧(Zd2∧(Xw∧(((0:Nat) < (1:Nat)∧(Y1 u)* (120:Nat)≤(140737488355328:Nat)∧Lens (14:Nat) (List.map Face.enc u.faces++[[vB false,vI (YB i l).c,vI (YB i l).scale,vI (Zw i l).c,vI (Zw i l).scale,vI (Zx i l).c,vI (Zx i l).scale,vI (XT i l).c,vI (XT i l).scale,vI 0,vI 0,vI 0,vI 0,PV.str YC]]))∧Q (Ex.normal) (some ⟨166,(YY i g l most),[(9,[PV.str u.name,vI u.back.c,vI u.back.scale,PV.lst (List.map Face.enc u.faces++[[vB false,vI (YB i l).c,vI (YB i l).scale,vI (Zw i l).c,vI (Zw i l).scale,vI (Zx i l).c,vI (Zx i l).scale,vI (XT i l).c,vI (XT i l).scale,vI 0,vI 0,vI 0,vI 0,PV.str (YC)]])]),(8,(Zq z))],[],Y2,[]⟩))))) else (bif pick (qK i l) (6:Int)==(4:Int) then (Xx∧(Xy∧(WL∧(((0:Nat) < (1:Nat)∧(Y1 u)* (120:Nat)≤(140737488355328:Nat)∧Lens (14:Nat) (List.map Face.enc u.faces++[[vB false,vI (YB i l).c,vI (YB i l).scale,vI (Zw i l).c,vI (Zw i l).scale,vI (Zx i l).c,vI (Zx i l).scale,vI 0,vI 0,vI (Yn i l).c,vI (Yn i l).scale,vI 0,vI 0,PV.str YC]]))∧Q (Ex.normal) (some ⟨166,(YY i g l most),[(9,[PV.str u.name,vI u.back.c,vI u.back.scale,PV.lst (List.map Face.enc u.faces++[[vB false,vI (YB i l).c,vI (YB i l).scale,vI (Zw i l).c,vI (Zw i l).scale,vI (Zx i l).c,vI (Zx i l).scale,vI 0,vI 0,vI (Yn i l).c,vI (Yn i l).scale,vI 0,vI 0,PV.str (YC)]])]),(8,(Zq z))],[],Y2,[]⟩))))) else (bif pick (qK i l) (6:Int)==(5:Int) then (Xx∧(Xy∧(WL∧(Zd3∧(Xy∧(Xw∧(((0:Nat) < (1:Nat)∧(Y1 u)* (120:Nat)≤(140737488355328:Nat)∧Lens (14:Nat) (List.map Face.enc u.faces++[[vB false,vI (YB i l).c,vI (YB i l).scale,vI (Zw i l).c,vI (Zw i l).scale,vI (Zx i l).c,vI (Zx i l).scale,vI 0,vI 0,vI (Yn i l).c,vI (Yn i l).scale,vI (XU i l).c,vI (XU i l).scale,PV.str YC]]))∧Q (Ex.normal) (some ⟨166,(YY i g l most),[(9,[PV.str u.name,vI u.back.c,vI u.back.scale,PV.lst (List.map Face.enc u.faces++[[vB false,vI (YB i l).c,vI (YB i l).scale,vI (Zw i l).c,vI (Zw i l).scale,vI (Zx i l).c,vI (Zx i l).scale,vI 0,vI 0,vI (Yn i l).c,vI (Yn i l).scale,vI (XU i l).c,vI (XU i l).scale,PV.str (YC)]])]),(8,(Zq z))],[],Y2,[]⟩)))))))) else (((0:Nat) < (1:Nat)∧(Y1 u)* (120:Nat)≤(140737488355328:Nat)∧Lens (14:Nat) (List.map Face.enc u.faces++[[vB false,vI (YB i l).c,vI (YB i l).scale,vI (Zw i l).c,vI (Zw i l).scale,vI (Zx i l).c,vI (Zx i l).scale,vI 0,vI 0,vI 0,vI 0,vI 0,vI 0,PV.str YC]]))∧Q (Ex.normal) (some ⟨166,(YY i g l most),[(9,[PV.str u.name,vI u.back.c,vI u.back.scale,PV.lst (List.map Face.enc u.faces++[[vB false,vI (YB i l).c,vI (YB i l).scale,vI (Zw i l).c,vI (Zw i l).scale,vI (Zx i l).c,vI (Zx i l).scale,vI 0,vI 0,vI 0,vI 0,vI 0,vI 0,PV.str (YC)]])]),(8,(Zq z))],[],Y2,[]⟩))))))))))) else (Zcn∧(bif pick (qK i l) (6:Int)==(3:Int) then (Xx∧(Zd2∧(Xw∧(((0:Nat) < (1:Nat)∧(Y1 u)* (120:Nat)≤(140737488355328:Nat)∧Lens (14:Nat) (List.map Face.enc u.faces++[[vB false,vI 0,vI 0,vI (Zw i l).c,vI (Zw i l).scale,vI (Zx i l).c,vI (Zx i l).scale,vI (XT i l).c,vI (XT i l).scale,vI 0,vI 0,vI 0,vI 0,PV.str YC]]))∧Q (Ex.normal) (some ⟨166,(YY i g l most),[(9,[PV.str u.name,vI u.back.c,vI u.back.scale,PV.lst (List.map Face.enc u.faces++[[vB false,vI 0,vI 0,vI (Zw i l).c,vI (Zw i l).scale,vI (Zx i l).c,vI (Zx i l).scale,vI (XT i l).c,vI (XT i l).scale,vI 0,vI 0,vI 0,vI 0,PV.str (YC)]])]),(8,(Zq z))],[],Y2,[]⟩))))) else (bif pick (qK i l) (6:Int)==(4:Int) then (Xx∧(Xy∧(WL∧(((0:Nat) < (1:Nat)∧(Y1 u)* (120:Nat)≤(140737488355328:Nat)∧Lens (14:Nat) (List.map Face.enc u.faces++[[vB false,vI 0,vI 0,vI (Zw i l).c,vI (Zw i l).scale,vI (Zx i l).c,vI (Zx i l).scale,vI 0,vI 0,vI (Yn i l).c,vI (Yn i l).scale,vI 0,vI 0,PV.str YC]]))∧Q (Ex.normal) (some ⟨166,(YY i g l most),[(9,[PV.str u.name,vI u.back.c,vI u.back.scale,PV.lst (List.map Face.enc u.faces++[[vB false,vI 0,vI 0,vI (Zw i l).c,vI (Zw i l).scale,vI (Zx i l).c,vI (Zx i l).scale,vI 0,vI 0,vI (Yn i l).c,vI (Yn i l).scale,vI 0,vI 0,PV.str (YC)]])]),(8,(Zq z))],[],Y2,[]⟩))))) else (bif pick (qK i l) (6:Int)==(5:Int) then (Xx∧(Xy∧(WL∧(Zd3∧(Xy∧(Xw∧(((0:Nat) < (1:Nat)∧(Y1 u)* (120:Nat)≤(140737488355328:Nat)∧Lens (14:Nat) (List.map Face.enc u.faces++[[vB false,vI 0,vI 0,vI (Zw i l).c,vI (Zw i l).scale,vI (Zx i l).c,vI (Zx i l).scale,vI 0,vI 0,vI (Yn i l).c,vI (Yn i l).scale,vI (XU i l).c,vI (XU i l).scale,PV.str YC]]))∧Q (Ex.normal) (some ⟨166,(YY i g l most),[(9,[PV.str u.name,vI u.back.c,vI u.back.scale,PV.lst (List.map Face.enc u.faces++[[vB false,vI 0,vI 0,vI (Zw i l).c,vI (Zw i l).scale,vI (Zx i l).c,vI (Zx i l).scale,vI 0,vI 0,vI (Yn i l).c,vI (Yn i l).scale,vI (XU i l).c,vI (XU i l).scale,PV.str (YC)]])]),(8,(Zq z))],[],Y2,[]⟩)))))))) else (((0:Nat) < (1:Nat)∧(Y1 u)* (120:Nat)≤(140737488355328:Nat)∧Lens (14:Nat) (List.map Face.enc u.faces++[[vB false,vI 0,vI 0,vI (Zw i l).c,vI (Zw i l).scale,vI (Zx i l).c,vI (Zx i l).scale,vI 0,vI 0,vI 0,vI 0,vI 0,vI 0,PV.str YC]]))∧Q (Ex.normal) (some ⟨166,(YY i g l most),[(9,[PV.str u.name,vI u.back.c,vI u.back.scale,PV.lst (List.map Face.enc u.faces++[[vB false,vI 0,vI 0,vI (Zw i l).c,vI (Zw i l).scale,vI (Zx i l).c,vI (Zx i l).scale,vI 0,vI 0,vI 0,vI 0,vI 0,vI 0,PV.str (YC)]])]),(8,(Zq z))],[],Y2,[]⟩)))))))))
def ZpI(u:LensM)(z:LensM):Option St:=some ⟨166,[(8,AV.ptr 8 0),(9,AV.ptr 9 0)],[(8,(Zq z)),(9,(Zq u))],[],[(Loc.b (nat_lit 9) (nat_lit 3),nat_lit 32)],[]⟩
theorem Zim:CSOk Tryz.prog Zue:=Zb Zkp<|Zb ZtM<|Zb Zzg<|Zb Z2k<|Zh
set_option maxHeartbeats 4000000 in
theorem ZmE:Yo Tryz.prog (Z6 Tryz.f16 0) ZgT:=by
 refine lsG Zo.Γ (ZD Zo Zim ZJ ZK ZQ (LS:=[]) (Yh (l:=[]) (by kernel_rfl) Z0) (n:=2000) (U6 ZgR) (U6 J7) (fun x e s=>(e= .exit 0∧s=U6 J6 x)) (fun x=>(x.2.2.1.length - x.1).toNat) ZgS Zm8 Zm9 (fun x hx=>?_)) cv6 (fun _=>rfl) (fun _ h=>h) (fun _ _ _ _ h f=>fE h f)
 ·obtain ⟨i,g,l,most,u,z⟩:=x
  simp only[U6,J7] at hx
  refine sxT (fun Q=>(bif decide (i < ↑(List.map RawFace.enc l).length) then (bif decide (↑(List.map Face.enc u.faces).length < most) then (((0:Int)≤i∧(List.map RawFace.enc l)[i.toNat]?=some (Yt [vI 0,vI 0,vI 0,vI 0,vI 0,vI 0] (rA i l)))∧(((0:Int) < (70:Int)∧(70:Int)≤(4611686018427387904:Int))∧(Xw∧(((0:Int) < (80:Int)∧(80:Int)≤(4611686018427387904:Int))∧(Xw∧(Zcn∧(bif pick (Zuf i l) (6:Int)==(5:Int) then (bif decide (i > (0:Int)) then (((0:Nat) < (1:Nat)∧(Y1 u)* (120:Nat)≤(140737488355328:Nat)∧Lens (14:Nat) (List.map Face.enc u.faces++[[vB true,vI 0,vI 0,vI (Zw i l).c,vI (Zw i l).scale,vI (Zx i l).c,vI (Zx i l).scale,vI 0,vI 0,vI 0,vI 0,vI 0,vI 0,PV.str []]]))∧Q (Ex.normal) (some ⟨166,(YY i g l most),[(9,[PV.str u.name,vI u.back.c,vI u.back.scale,PV.lst (List.map Face.enc u.faces++[[vB true,vI 0,vI 0,vI (Zw i l).c,vI (Zw i l).scale,vI (Zx i l).c,vI (Zx i l).scale,vI 0,vI 0,vI 0,vI 0,vI 0,vI 0,PV.str ([])]])]),(8,(Zq z))],[],Y2,[]⟩)) else (Zug i g l most u z Q)) else (Zug i g l most u z Q)))))))) else Q (Ex.exit (0:Nat)) (ZpI u z)) else Q (Ex.exit (0:Nat)) (ZpI u z))) (fun _=>by kernel_rfl) ?_
  delta Zug Zw Yn Zx YY JR XU XT Xh YB Y2 Xy Y1 YC Xw WL Zcn Zd2 Xx ZeM Zhf ZpC Zp8 ZpA ZpB Zp6 Zp7 ZpG ZpD Zp9 ZpE ZpF ZpH ZpI Zd3 Zbf Zp4 Zp5 Zq vI vB pI
  refine Za (fun h0=>Za (fun h1=>⟨?r242,⟨?r241,⟨?r240,⟨?r239,⟨?r238,⟨?r237,Za (fun h2=>Za (fun h3=>⟨?r0, ?_⟩) (fun h3=>⟨?r118,Za (fun h4=>⟨?r59,⟨?r58,Za (fun h5=>⟨?r40,⟨?r39,⟨?r38,⟨?r37,Za (fun h6=>⟨?r19,⟨?r18,⟨?r17,Za (fun h7=>⟨?r4,⟨?r3,⟨?r2,⟨?r1, ?_⟩⟩⟩⟩) (fun h7=>Za (fun h8=>⟨?r8,⟨?r7,⟨?r6,⟨?r5, ?_⟩⟩⟩⟩) (fun h8=>Za (fun h9=>⟨?r15,⟨?r14,⟨?r13,⟨?r12,⟨?r11,⟨?r10,⟨?r9, ?_⟩⟩⟩⟩⟩⟩⟩) (fun h9=>⟨?r16, ?_⟩)))⟩⟩⟩) (fun h6=>⟨?r36,Za (fun h7=>⟨?r23,⟨?r22,⟨?r21,⟨?r20, ?_⟩⟩⟩⟩) (fun h7=>Za (fun h8=>⟨?r27,⟨?r26,⟨?r25,⟨?r24, ?_⟩⟩⟩⟩) (fun h8=>Za (fun h9=>⟨?r34,⟨?r33,⟨?r32,⟨?r31,⟨?r30,⟨?r29,⟨?r28, ?_⟩⟩⟩⟩⟩⟩⟩) (fun h9=>⟨?r35, ?_⟩)))⟩)⟩⟩⟩⟩) (fun h5=>⟨?r57,Za (fun h6=>⟨?r44,⟨?r43,⟨?r42,⟨?r41, ?_⟩⟩⟩⟩) (fun h6=>Za (fun h7=>⟨?r48,⟨?r47,⟨?r46,⟨?r45, ?_⟩⟩⟩⟩) (fun h7=>Za (fun h8=>⟨?r55,⟨?r54,⟨?r53,⟨?r52,⟨?r51,⟨?r50,⟨?r49, ?_⟩⟩⟩⟩⟩⟩⟩) (fun h8=>⟨?r56, ?_⟩)))⟩)⟩⟩) (fun h4=>⟨?r117,Za (fun h5=>⟨?r99,⟨?r98,⟨?r97,⟨?r96,Za (fun h6=>⟨?r78,⟨?r77,⟨?r76,Za (fun h7=>⟨?r63,⟨?r62,⟨?r61,⟨?r60, ?_⟩⟩⟩⟩) (fun h7=>Za (fun h8=>⟨?r67,⟨?r66,⟨?r65,⟨?r64, ?_⟩⟩⟩⟩) (fun h8=>Za (fun h9=>⟨?r74,⟨?r73,⟨?r72,⟨?r71,⟨?r70,⟨?r69,⟨?r68, ?_⟩⟩⟩⟩⟩⟩⟩) (fun h9=>⟨?r75, ?_⟩)))⟩⟩⟩) (fun h6=>⟨?r95,Za (fun h7=>⟨?r82,⟨?r81,⟨?r80,⟨?r79, ?_⟩⟩⟩⟩) (fun h7=>Za (fun h8=>⟨?r86,⟨?r85,⟨?r84,⟨?r83, ?_⟩⟩⟩⟩) (fun h8=>Za (fun h9=>⟨?r93,⟨?r92,⟨?r91,⟨?r90,⟨?r89,⟨?r88,⟨?r87, ?_⟩⟩⟩⟩⟩⟩⟩) (fun h9=>⟨?r94, ?_⟩)))⟩)⟩⟩⟩⟩) (fun h5=>⟨?r116,Za (fun h6=>⟨?r103,⟨?r102,⟨?r101,⟨?r100, ?_⟩⟩⟩⟩) (fun h6=>Za (fun h7=>⟨?r107,⟨?r106,⟨?r105,⟨?r104, ?_⟩⟩⟩⟩) (fun h7=>Za (fun h8=>⟨?r114,⟨?r113,⟨?r112,⟨?r111,⟨?r110,⟨?r109,⟨?r108, ?_⟩⟩⟩⟩⟩⟩⟩) (fun h8=>⟨?r115, ?_⟩)))⟩)⟩)⟩)) (fun h2=>⟨?r236,Za (fun h3=>⟨?r177,⟨?r176,Za (fun h4=>⟨?r158,⟨?r157,⟨?r156,⟨?r155,Za (fun h5=>⟨?r137,⟨?r136,⟨?r135,Za (fun h6=>⟨?r122,⟨?r121,⟨?r120,⟨?r119, ?_⟩⟩⟩⟩) (fun h6=>Za (fun h7=>⟨?r126,⟨?r125,⟨?r124,⟨?r123, ?_⟩⟩⟩⟩) (fun h7=>Za (fun h8=>⟨?r133,⟨?r132,⟨?r131,⟨?r130,⟨?r129,⟨?r128,⟨?r127, ?_⟩⟩⟩⟩⟩⟩⟩) (fun h8=>⟨?r134, ?_⟩)))⟩⟩⟩) (fun h5=>⟨?r154,Za (fun h6=>⟨?r141,⟨?r140,⟨?r139,⟨?r138, ?_⟩⟩⟩⟩) (fun h6=>Za (fun h7=>⟨?r145,⟨?r144,⟨?r143,⟨?r142, ?_⟩⟩⟩⟩) (fun h7=>Za (fun h8=>⟨?r152,⟨?r151,⟨?r150,⟨?r149,⟨?r148,⟨?r147,⟨?r146, ?_⟩⟩⟩⟩⟩⟩⟩) (fun h8=>⟨?r153, ?_⟩)))⟩)⟩⟩⟩⟩) (fun h4=>⟨?r175,Za (fun h5=>⟨?r162,⟨?r161,⟨?r160,⟨?r159, ?_⟩⟩⟩⟩) (fun h5=>Za (fun h6=>⟨?r166,⟨?r165,⟨?r164,⟨?r163, ?_⟩⟩⟩⟩) (fun h6=>Za (fun h7=>⟨?r173,⟨?r172,⟨?r171,⟨?r170,⟨?r169,⟨?r168,⟨?r167, ?_⟩⟩⟩⟩⟩⟩⟩) (fun h7=>⟨?r174, ?_⟩)))⟩)⟩⟩) (fun h3=>⟨?r235,Za (fun h4=>⟨?r217,⟨?r216,⟨?r215,⟨?r214,Za (fun h5=>⟨?r196,⟨?r195,⟨?r194,Za (fun h6=>⟨?r181,⟨?r180,⟨?r179,⟨?r178, ?_⟩⟩⟩⟩) (fun h6=>Za (fun h7=>⟨?r185,⟨?r184,⟨?r183,⟨?r182, ?_⟩⟩⟩⟩) (fun h7=>Za (fun h8=>⟨?r192,⟨?r191,⟨?r190,⟨?r189,⟨?r188,⟨?r187,⟨?r186, ?_⟩⟩⟩⟩⟩⟩⟩) (fun h8=>⟨?r193, ?_⟩)))⟩⟩⟩) (fun h5=>⟨?r213,Za (fun h6=>⟨?r200,⟨?r199,⟨?r198,⟨?r197, ?_⟩⟩⟩⟩) (fun h6=>Za (fun h7=>⟨?r204,⟨?r203,⟨?r202,⟨?r201, ?_⟩⟩⟩⟩) (fun h7=>Za (fun h8=>⟨?r211,⟨?r210,⟨?r209,⟨?r208,⟨?r207,⟨?r206,⟨?r205, ?_⟩⟩⟩⟩⟩⟩⟩) (fun h8=>⟨?r212, ?_⟩)))⟩)⟩⟩⟩⟩) (fun h4=>⟨?r234,Za (fun h5=>⟨?r221,⟨?r220,⟨?r219,⟨?r218, ?_⟩⟩⟩⟩) (fun h5=>Za (fun h6=>⟨?r225,⟨?r224,⟨?r223,⟨?r222, ?_⟩⟩⟩⟩) (fun h6=>Za (fun h7=>⟨?r232,⟨?r231,⟨?r230,⟨?r229,⟨?r228,⟨?r227,⟨?r226, ?_⟩⟩⟩⟩⟩⟩⟩) (fun h7=>⟨?r233, ?_⟩)))⟩)⟩)⟩)⟩⟩⟩⟩⟩⟩) (fun h1=>?_)) (fun h0=>?_)
  case r0|r1|r2|r3|r4|r5|r6|r7|r8|r9|r10|r11|r12|r13|r14|r15|r16|r17|r18|r19|r20|r21|r22|r23|r24|r25|r26|r27|r28|r29|r30|r31|r32|r33|r34|r35|r36|r37|r38|r39|r40|r41|r42|r43|r44|r45|r46|r47|r48|r49|r50|r51|r52|r53|r54|r55|r56|r57|r58|r59|r60|r61|r62|r63|r64|r65|r66|r67|r68|r69|r70|r71|r72|r73|r74|r75|r76|r77|r78|r79|r80|r81|r82|r83|r84|r85|r86|r87|r88|r89|r90|r91|r92|r93|r94|r95|r96|r97|r98|r99|r100|r101|r102|r103|r104|r105|r106|r107|r108|r109|r110|r111|r112|r113|r114|r115|r116|r117|r118|r119|r120|r121|r122|r123|r124|r125|r126|r127|r128|r129|r130|r131|r132|r133|r134|r135|r136|r137|r138|r139|r140|r141|r142|r143|r144|r145|r146|r147|r148|r149|r150|r151|r152|r153|r154|r155|r156|r157|r158|r159|r160|r161|r162|r163|r164|r165|r166|r167|r168|r169|r170|r171|r172|r173|r174|r175|r176|r177|r178|r179|r180|r181|r182|r183|r184|r185|r186|r187|r188|r189|r190|r191|r192|r193|r194|r195|r196|r197|r198|r199|r200|r201|r202|r203|r204|r205|r206|r207|r208|r209|r210|r211|r212|r213|r214|r215|r216|r217|r218|r219|r220|r221|r222|r223|r224|r225|r226|r227|r228|r229|r230|r231|r232|r233|r234|r235|r236|r237|r238|r239|r240|r241|r242=>first | rfl | omega | (rw[Zm];done) | (rw[WP];done) | (have hb:=ZcC g most l 0 [];have hd:=Y5 (pick back 100);have hp:=YE (n:=back) (m:=100) (by omega);simp only[Zm,Z4,WP,QG_,show Zf Face.dec []=[] from rfl,Qk_,Q1_] at *;first | done | rfl | omega | exact ⟨by decide,by omega,Yu (Yg (e:=Face.enc) (fun _=>rfl) _) rfl⟩) | (obtain ⟨a1,a2,a3,a4,a5,a6⟩:=hx;(try simp only[Qk_,Qc_] at h0);(try simp only[Qk_,Qc_] at h1);(try simp only[Qk_] at *);have hg:IntKind.i64.wrap ((g.length:Int)+2)=g.length+2:=Ze (by constructor<;>omega);first | omega | (rw[hg];omega) | exact Zp (fun _=>rfl) (by omega) (by omega) | exact ⟨by decide,by omega,Yu (Yg (e:=Face.enc) (fun _=>rfl) _) rfl⟩ | (simp only[Qc_] at h4;exact Zp (fun _=>rfl) (YE (by rw[hg];omega)).1 (by omega)) | (simp only[Qc_] at h3;exact Zp (fun _=>rfl) (YE (by rw[hg];omega)).1 (by omega))) | skip
  all_goals (obtain ⟨a1,a2,a3,a4,a5,a6⟩:=hx;try simp only[Qk_,Qc_,Qe_] at h0)
  all_goals first | (have hk:i < l.length:=h0;obtain ⟨f,t,e1,e2,e3⟩:=ZM (l:=l) a1 (by omega);have eA:rA i l=RawFace.enc f:=ZV e3;have r0:Zuf i l=f.kind:=(by unfold Zuf;rw[eA];rfl);have r1:qR i l=f.r:=(by unfold qR;rw[eA];rfl);have r2:qA i l=f.a:=(by unfold qA;rw[eA];rfl);have r3:qT i l=f.t:=(by unfold qT;rw[eA];rfl);have r4:qG i l=f.g:=(by unfold qG;rw[eA];rfl);have r5:qK i l=f.k:=(by unfold qK;rw[eA];rfl)) | (exact .inr ⟨by simp,_,rfl,by trivial,by unfold U6 J6;(try dsimp only);rw[List.drop_eq_nil_of_le (by omega)];rfl⟩)
  all_goals (simp only[Qk_] at h1)
  all_goals first | (exact .inr ⟨by simp,_,rfl,by trivial,by unfold U6 J6;(try dsimp only);(rw[e1,Zep,h1])<;>rfl⟩) | skip
  all_goals simp only[r0,r1,r2,r3,r4,r5,ZxG,Qk_] at *
  all_goals (have hw:IntKind.i64.wrap (i+1)=i+1:=Ze (by constructor<;>omega);have eb:X6 g most (l.drop i.toNat) i u.faces=X6 g most (l.drop (IntKind.i64.wrap (i+1)).toNat) (IntKind.i64.wrap (i+1)) (u.faces++[J2 f i g]):=(by rw[hw,e1,e2,Zep,h1];rfl))
  all_goals
   refine .inl ⟨by trivial,(IntKind.i64.wrap (i+1),g,l,most,⟨u.name,u.back,u.faces++[J2 f i g]⟩,z), ?_, ?_, ?_, ?_⟩
   ·simp only[U6,ZgR,LensM.enc,QR_,QE_,QN_,Face.enc,J2,ZrM,ZlV,Zv9,ZvA,ZdT,Z2c,ZoL,ZoM,ZzU,w64, *,Qp_,Ql_,Qr_,Qn_,Qu_,Qt_,Q4_,Qw_,Q5_,Q3_,Qb_,Qd_]
    try rfl
   ·simp only[Qc_] at h1
    simp only[U6,J7,hw,Qx_,Qs_,Q1_];exact ⟨by omega,by omega,a3,a4,a5,by omega⟩
   ·simp only[hw];omega
   ·intro e s' h;refine ⟨h.1,h.2.trans ?_⟩;unfold U6 J6;rw[eb]
theorem ZpJ:ZN Tryz.prog [(4,ZgT)] Tryz.f16:=ZI (l:=[Z6 Tryz.f16 0]) (by kernel_rfl) (ZR (i:=4) (by kernel_rfl) rfl ZmE (Z0))
def Zku(l:List RawFace):=Zf RawFace.dec (List.map RawFace.enc l)
def Zhg(l:List RawFace)(g:List Glass)(most:Int):=X6 (Zf Glass.dec (List.map Glass.enc g)) most (List.drop (0:Nat) (Zku l)) (0:Int) (Zf Face.dec [])
def Zkv:=(0:Int)≤(0:Int)∧(0:Int)≤(18:Int)
def Zd4(l:List RawFace)(g:List Glass)(most:Int):=List.map Face.enc (Zhg l g most)
def ZpK:=[(99:UInt8),(114:UInt8),(111:UInt8),(119:UInt8),(110:UInt8)]
def Zco(back:Int):=hdec (1:Nat) (IntKind.i64.wrap ((200:Int)+pick back (600:Int))) (1:Int)
def ZpL(back:Int)(l:List RawFace)(g:List Glass)(most:Int)(Q:PV→Prop):Prop:=Zkv∧(Zkv∧(Zkv∧(((0:Nat) < (1:Nat)∧((Zd4 l g most).length+(1:Nat))* (120:Nat)≤(140737488355328:Nat)∧Lens (14:Nat) (List.map Face.enc (Zhg l g most)++[[vB false,vI 40,vI 0,vI 8,vI 0,vI 3,vI 0,vI 0,vI 0,vI 0,vI 0,vI 0,vI 0,PV.str ZpK]]))∧Q (PV.agg [PV.str ([(120:UInt8)]++digits (pick back (100:Int))),vI (Zco back).c,vI (Zco back).scale,PV.lst (List.map Face.enc (Zhg l g most)++[[vB false,vI 40,vI 0,vI 8,vI 0,vI 3,vI 0,vI 0,vI 0,vI 0,vI 0,vI 0,vI 0,PV.str (ZpK)]])]))))
def ZpM(back:Int):=LensM.mk ([(120:UInt8)]++digits (pick back (100:Int))) (Zco back) (Zf Face.dec [])
def q13_45:=LensM.mk [] (Dec.mk (0:Int) (0:Int)) (Zf Face.dec [])
set_option maxHeartbeats 4000000 in
theorem Zzk:Zj Tryz.prog 16 e16:=Zk<|Zi fun back=>Zi fun l=>Zi fun g=>Zi fun most=>EZ1 fun hp0=>by
 refine cfL Zim ZpJ rfl ?_
 refine sxT (fun Q=>(((0:Int) < (100:Int)∧(100:Int)≤(4611686018427387904:Int))∧(((-1000000000000000000:Int)≤pick back (100:Int)∧pick back (100:Int)≤(1000000000000000000:Int))∧(((1:Nat)+(digits (pick back (100:Int))).length≤(9223372036854775807:Nat))∧(((0:Int) < (600:Int)∧(600:Int)≤(4611686018427387904:Int))∧(((0:Int)≤(1:Int)∧(1:Int)≤(18:Int))∧((List.map Glass.enc g=List.map Glass.enc (Zf Glass.dec (List.map Glass.enc g)))∧((List.map RawFace.enc l=List.map RawFace.enc (Zku l))∧(([PV.str ([(120:UInt8)]++digits (pick back (100:Int))),vI (Zco back).c,vI (Zco back).scale,PV.lst []]=(ZpM back).enc)∧(([PV.str [],vI 0,vI 0,PV.lst []]=q13_45.enc)∧((J7 (0:Int) (Zf Glass.dec (List.map Glass.enc g)) (Zku l) most (ZpM back) q13_45)∧(bif ↑(Zd4 l g most).length==(0:Int) then (ZpL back l g most Q) else ((List.map Face.enc (Zhg l g most)=List.map Face.enc (Zf Face.dec (Zd4 l g most)))∧(((Zf Face.dec (Zd4 l g most)).length≤(140737488355328:Nat))∧(bif !YO (Zf Face.dec (Zd4 l g most)) then (ZpL back l g most Q) else Q (PV.agg [PV.str ([(120:UInt8)]++digits (pick back (100:Int))),vI (Zco back).c,vI (Zco back).scale,PV.lst (Zd4 l g most)])))))))))))))))) (fun _=>by kernel_rfl) ?_
 delta Qn Zhg ZpL Zco Zkv ZpK ZpM q13_45 Zku Zd4 vI vB
 refine ⟨?r18,⟨?r17,⟨?r16,⟨?r15,⟨?r14,⟨?r13,⟨?r12,⟨?r11,⟨?r10,⟨?_,Za (fun h0=>⟨?r3,⟨?r2,⟨?r1,⟨?r0, ?_⟩⟩⟩⟩) (fun h0=>⟨?r9,⟨?r8,Za (fun h1=>⟨?r7,⟨?r6,⟨?r5,⟨?r4, ?_⟩⟩⟩⟩) (fun h1=>?_)⟩⟩)⟩⟩⟩⟩⟩⟩⟩⟩⟩⟩
 case r0|r1|r2|r3|r4|r5|r6|r7|r8|r9|r10|r11|r12|r13|r14|r15|r16|r17|r18=>first | rfl | omega | (rw[Zm];done) | (rw[WP];done) | (have hb:=ZcC g most l 0 [];have hd:=Y5 (pick back 100);have hp:=YE (n:=back) (m:=100) (by omega);simp only[Zm,Z4,WP,QG_,show Zf Face.dec []=[] from rfl,Qk_,Q1_] at *;first | done | rfl | omega | exact ⟨by decide,by omega,Yu (Yg (e:=Face.enc) (fun _=>rfl) _) rfl⟩) | (obtain ⟨a1,a2,a3,a4,a5,a6⟩:=hx;(try simp only[Qk_,Qc_] at h0);(try simp only[Qk_,Qc_] at h1);(try simp only[Qk_] at *);have hg:IntKind.i64.wrap ((g.length:Int)+2)=g.length+2:=Ze (by constructor<;>omega);first | omega | (rw[hg];omega) | exact Zp (fun _=>rfl) (by omega) (by omega) | exact ⟨by decide,by omega,Yu (Yg (e:=Face.enc) (fun _=>rfl) _) rfl⟩ | (simp only[Qc_] at h4;exact Zp (fun _=>rfl) (YE (by rw[hg];omega)).1 (by omega)) | (simp only[Qc_] at h3;exact Zp (fun _=>rfl) (YE (by rw[hg];omega)).1 (by omega))) | skip
 all_goals simp only[Zm,Z4,WP,QG_,QO_,show Zf Face.dec []=[] from rfl,Qk_] at *
 ·exact ⟨by omega,by omega,hp0.1,hp0.2.1,hp0.2.2,by simp⟩
 all_goals have e0:((X6 g most l 0 []).length==0)=_:=Eq.trans (by cases hL:X6 g most l 0 []<;>simp only[Qs_,Q1_]<;>(first | rfl | (symm;rw[KA_];omega))) h0
 all_goals simp only[YP,ZdU,e0,Q4_,Qw_,Qb_,Qd_]
 ·simp only[LensM.enc,QR_,QE_,QN_];rfl
 ·simp only[Qi_] at h1
  simp only[h1,Qt_,Qb_,LensM.enc,QR_,QE_,QN_];rfl
 ·simp only[Qf_] at h1
  simp only[h1,Qu_,Qd_];rfl
open Go Go.RowKit Go.Sort
theorem ZqZ(w:World)(e:TypeId)(s:ByteArray):Below w.heap.size w (Lib.bytesWorld w e s):=
 ⟨rfl,rfl,rfl,by rw[Lib.bytesWorld_size];omega,fun k hk=>Lib.bytesWorld_at_old w e s k hk⟩
theorem Zd5{a b:Nat}(h:a≤b):Nat.ble a b=true:=QF_ h
theorem Z10:Zj Tryz.prog 175 Z2Z:=Zk<|Zi fun s=>Zi fun c=>EZ2 fun h0 h1=>
 Zs2 Tryz.call175 (fun s c w h1 h2 h3=>Any.strings_Trim_laid Tryz.lays160 (by kernel_rfl) s c w h1 h2 h3) _ _ (show (bif Xl 4000000000 s&&Xl 4000000000 c&&Zad c then some (PV.str (Lib.trimS s c)) else none)=_ by
  unfold Xl;rw[Zd5 h0.1,Zd5 h0.2,h1];rfl)
theorem Z11:Zj Tryz.prog 153 Z3a:=Zk<|Zi fun s=>Zi fun c=>EZ2 fun h0 h1=>
 Zj3 Tryz.call153 (fun s c w h1 h2 h3=>Any.strings_TrimRight_laid Tryz.lays162 (by kernel_rfl) s c w h1 h2 h3) _ _ (show (bif Xl 4000000000 s&&Xl 4000000000 c&&Zad c then some (PV.str (Lib.trimRightS s c)) else none)=_ by
  unfold Xl;rw[Zd5 h0.1,Zd5 h0.2,h1];rfl)
theorem Z12:Zj Tryz.prog 154 Z3b:=Zk<|Zi fun s=>EZ1 fun h=>
 Zs4 Tryz.call154 (fun s n w h1 h2=>(Any.strconv_Atoi Tryz.lays172 s n h1 h2 w).mono fun e w' ⟨he,t,hw'⟩=>⟨he,by subst hw';exact ZqZ w _ t⟩) _ _ (show (bif Xl 18 s then (match Lib.atoi s with | some n=>some (PV.tup [.v (.int .i64 n),.v .nilIface]) | none=>none) else none)=_ by
  unfold Xl;rw[Zd5 h.1,h.2];rfl)
theorem Z13:Zj Tryz.prog 129 Z3c:=Zk<|Zi fun s=>Zi fun n=>EZ1 fun h=>by
 obtain ⟨m,rfl⟩:=Int.eq_ofNat_of_zero_le h.1
 exact Zox Tryz.call129 (fun s c w h1 h2=>Any.strings_Repeat Tryz.lays105 Tryz.Builder_Extra_105 s c w h1 h2) _ _ (show (bif Nat.ble m 4000000000&&Nat.ble (s.length *m) 4000000000 then some (PV.str (Lib.repeatL s m)) else none)=_ by
  rw[Zd5 (show m≤4000000000 by have:=h.2.1;omega),Zd5 (show s.length *m≤4000000000 from h.2.2)];rfl)
theorem Z14:Zj Tryz.prog 221 Z3d:=Zk<|Zi fun s=>Zi fun c=>EZ0<|
 Zj1 (fun args w=>run_callFunc_extern Tryz.func221 (by kernel_rfl) (by kernel_rfl) (by kernel_rfl) (e:=Extern.BytealgIndexByte.indexByte) (by kernel_rfl) args w) _ _ rfl
theorem Zra(w:World)(k:Nat)(os:Array Obj):Below w.heap.size w (grow (w.drewN k) os):=
 ⟨rfl,rfl,rfl,by simp[grow],fun i hi=>K8_ hi⟩
theorem Zyy(n:Int)(h: -1000000000000000000≤n∧n≤1000000000000000000):Con Tryz.prog 128 [.v (.int .i64 n)] (.str (digits n)):=
 Zs3 Tryz.call128 (fun n hw w h0 h1 hg=>(Any.strconv_Itoa Tryz.laysM171 n h0 h1 w (Zxp hg (x:=4) (vs:=Lib.pow10Tab.map fun z=>Value.int .u64 z) rfl (by kernel_rfl))).mono fun e w' ⟨he,k,os,hw'⟩=>⟨he,by subst hw';exact Zra w k os⟩) _ _ (ZqF h)
theorem Z15:Zj Tryz.prog 128 Z3e:=Zk<|Zi fun n=>EZ1 fun h=>Zyy n h
end Go.Men
namespace Go.Men
open Go.Ev Go.Proofs Go.Proofs.YtgfgjabeooohhaaGreatDoor
theorem Z16:Zj Tryz.prog 206 Z3f:=Zk<|Zi fun s=>Zi fun c=>EZ0<|by
 refine cf0 (Zb Z14<|Zh) (fn:=Tryz.f206) rfl ?_
 refine sxT (fun Q=>Q (vI (ixM c s))) (fun _=>by kernel_rfl) ?_
 delta Qn vI
 refine ?_
 all_goals (try simp only[Qi_,Qf_,bne] at *)
 all_goals first | rfl | (simp only[ixM,Zt,Zs,List.foldl,Qr_,Qp_,Ql_,Qn_,Q5_,Q4_,Qw_,Q3_,Qu_,Qt_,Qb_,Qd_,QD_,Q8_, *];done) | (simp only[ixM,Zt,Zs,List.foldl,Qr_,Qp_,Ql_,Qn_,Q5_,Q4_,Qw_,Q3_,Qu_,Qt_,Qb_,Qd_,QD_,Q8_, *];first | rfl | (simp only[nz,nzA,nz1,QE_,QN_,Iv.enc,V.enc,Ray.enc, *];first | done | rfl)) | (simp_all[nz,nzA,nz1,Iv.enc,V.enc,Ray.enc,Dec.enc,Shape.enc,none',told,K4_,ixM];done) | (simp_all[nz,nzA,nz1,Iv.enc,V.enc,Ray.enc,Dec.enc,Shape.enc,none',told,K4_,ixM];omega) | (simp_all[nz,nzA,nz1,Iv.enc,V.enc,Ray.enc,Dec.enc,Shape.enc,none',told,K4_,ixM];(repeat' split)<;>(first | rfl | (exfalso;omega) | (simp_all;done) | omega))
theorem Z17:Zj Tryz.prog 186 Z3g:=Zk<|Zi fun s=>Zi fun p=>EZ0<|by
 refine cf0 Zh (fn:=Tryz.f186) rfl ?_
 refine sxT (fun Q=>(bif decide (((s.length:Nat):Int)≥((p.length:Nat):Int)) then (((0:Int)≤((p.length:Nat):Int)∧((p.length:Nat):Int)≤((s.length:Nat):Int))∧Q (vB (List.take (((p.length:Nat):Int)).toNat s==p))) else Q (vB false))) (fun _=>by kernel_rfl) ?_
 delta Qn vB
 refine Za (fun h0=>⟨?r0, ?_⟩) (fun h0=>?_)
 case r0=>first | rfl | omega | (simp only[Qc_] at h0;omega) | skip
 all_goals (try simp only[Qi_,Qf_,bne] at *)
 all_goals first | rfl | (simp only[J3,Zt,Zs,List.foldl,Qr_,Qp_,Ql_,Qn_,Q5_,Q4_,Qw_,Q3_,Qu_,Qt_,Qb_,Qd_,QD_,Q8_, *];done) | (simp only[J3,Zt,Zs,List.foldl,Qr_,Qp_,Ql_,Qn_,Q5_,Q4_,Qw_,Q3_,Qu_,Qt_,Qb_,Qd_,QD_,Q8_, *];first | rfl | (simp only[nz,nzA,nz1,QE_,QN_,Iv.enc,V.enc,Ray.enc, *];first | done | rfl)) | (simp_all[nz,nzA,nz1,Iv.enc,V.enc,Ray.enc,Dec.enc,Shape.enc,none',told,K4_,J3];done) | (simp_all[nz,nzA,nz1,Iv.enc,V.enc,Ray.enc,Dec.enc,Shape.enc,none',told,K4_,J3];omega) | (simp_all[nz,nzA,nz1,Iv.enc,V.enc,Ray.enc,Dec.enc,Shape.enc,none',told,K4_,J3];(repeat' split)<;>(first | rfl | (exfalso;omega) | (simp_all;done) | omega))
theorem Z18:Zj Tryz.prog 173 Z3h:=Zk<|Zi fun s=>Zi fun p=>EZ0<|by
 refine cf0 (Zb Z17<|Zh) (fn:=Tryz.f173) rfl ?_
 refine sxT (fun Q=>(bif !J3 s p then Q (PV.tup [PV.str s,vB false]) else (((0:Int)≤((p.length:Nat):Int)∧((p.length:Nat):Int)≤((s.length:Nat):Int))∧Q (PV.tup [PV.str (List.drop (((p.length:Nat):Int)).toNat s),vB true])))) (fun _=>by kernel_rfl) ?_
 delta Qn vB
 refine Za (fun h0=>?_) (fun h0=>⟨?r0, ?_⟩)
 case r0=>first | rfl | omega | (have h0:J3 s p=true:=(by simpa using h0);unfold J3 at h0;simp only[Qh_,Qc_] at h0;omega) | skip
 all_goals (try simp only[Qi_,Qf_,bne] at *)
 all_goals first | rfl | (simp only[ZW,Zt,Zs,List.foldl,Qr_,Qp_,Ql_,Qn_,Q5_,Q4_,Qw_,Q3_,Qu_,Qt_,Qb_,Qd_,QD_,Q8_, *];done) | (simp only[ZW,Zt,Zs,List.foldl,Qr_,Qp_,Ql_,Qn_,Q5_,Q4_,Qw_,Q3_,Qu_,Qt_,Qb_,Qd_,QD_,Q8_, *];first | rfl | (simp only[nz,nzA,nz1,QE_,QN_,Iv.enc,V.enc,Ray.enc, *];first | done | rfl)) | (simp_all[nz,nzA,nz1,Iv.enc,V.enc,Ray.enc,Dec.enc,Shape.enc,none',told,K4_,ZW];done) | (simp_all[nz,nzA,nz1,Iv.enc,V.enc,Ray.enc,Dec.enc,Shape.enc,none',told,K4_,ZW];omega) | (simp_all[nz,nzA,nz1,Iv.enc,V.enc,Ray.enc,Dec.enc,Shape.enc,none',told,K4_,ZW];(repeat' split)<;>(first | rfl | (exfalso;omega) | (simp_all;done) | omega))
theorem Z19:Zj Tryz.prog 150 Z3i:=Zk<|Zi fun s=>Zi fun p=>EZ0<|by
 refine cf0 (Zb Z18<|Zh) (fn:=Tryz.f150) rfl ?_
 refine sxT (fun Q=>Q (PV.tup [PV.str (ZW s p).fst,vB (ZW s p).snd])) (fun _=>by kernel_rfl) ?_
 delta Qn vB
 refine ?_
 all_goals (try simp only[Qi_,Qf_,bne] at *)
 all_goals first | rfl | (simp only[ZW,Zt,Zs,List.foldl,Qr_,Qp_,Ql_,Qn_,Q5_,Q4_,Qw_,Q3_,Qu_,Qt_,Qb_,Qd_,QD_,Q8_, *];done) | (simp only[ZW,Zt,Zs,List.foldl,Qr_,Qp_,Ql_,Qn_,Q5_,Q4_,Qw_,Q3_,Qu_,Qt_,Qb_,Qd_,QD_,Q8_, *];first | rfl | (simp only[nz,nzA,nz1,QE_,QN_,Iv.enc,V.enc,Ray.enc, *];first | done | rfl)) | (simp_all[nz,nzA,nz1,Iv.enc,V.enc,Ray.enc,Dec.enc,Shape.enc,none',told,K4_,ZW];done) | (simp_all[nz,nzA,nz1,Iv.enc,V.enc,Ray.enc,Dec.enc,Shape.enc,none',told,K4_,ZW];omega) | (simp_all[nz,nzA,nz1,Iv.enc,V.enc,Ray.enc,Dec.enc,Shape.enc,none',told,K4_,ZW];(repeat' split)<;>(first | rfl | (exfalso;omega) | (simp_all;done) | omega))
theorem Z0e(s:List UInt8):Con Tryz.prog 189 [.str s,.str [46]] (.v (.int .i64 (ixM 46 s))):=by
 refine cf0 (Zb Z16<|Zh) (fn:=Tryz.f189) rfl ?_
 refine sxT (fun Q=>(bif [(46:UInt8)]==s then Q (vI 0) else (((0:Int)≤(0:Int)∧(0:Int) < (1:Int))∧Q (vI (ixM (46:Int) s))))) (fun _=>by kernel_rfl) ?_
 delta Qn vI
 refine Za (fun h0=>?_) (fun h0=>⟨?r0, ?_⟩)
 case r0=>first | rfl | (simp only[YI,dI,dIv];omega) | (simp[Zf,chunk];done) | (simp only[YI,dI,dIv];done) | (exact Zp (fun _=>rfl) (by omega) (by omega)) | (simp only[Qc_,Qk_] at *;exact Zp (fun _=>rfl) (by omega) (by omega)) | assumption | trivial | (simp_all;done) | omega
 ·have e:=eq_of_beq h0;subst e;rfl
 ·rfl
theorem Z1A:Zj Tryz.prog 189 Z0Z:=by
 intro args r ps h hp
 unfold Z0Z at h
 split at h
 ·rename_i p1
  cases (Qa_ h)
  exact Z0e p1
 ·exact absurd h (by simp)
theorem Zuh(s:List UInt8)(hp0:s.length≤4000000000):Con Tryz.prog 174 [.str s,.str [46]] (.tup [.str ((ZU s).1),.str ((ZU s).2.1),.v (.bool ((ZU s).2.2))]):=by
 refine cf0 (Zb Z1A<|Zh) (fn:=Tryz.f174) rfl ?_
 refine sxT (fun Q=>(bif decide (ixM (46:Int) s≥(0:Int)) then (((0:Int)≤ixM (46:Int) s∧ixM (46:Int) s≤↑s.length)∧(((0:Int)≤IntKind.i64.wrap (ixM (46:Int) s+(1:Int))∧IntKind.i64.wrap (ixM (46:Int) s+(1:Int))≤↑s.length)∧Q (PV.tup [PV.str (List.take (ixM (46:Int) s).toNat s),PV.str (List.drop (IntKind.i64.wrap (ixM (46:Int) s+(1:Int))).toNat s),vB true]))) else Q (PV.tup [PV.str s,PV.str ([]),vB false]))) (fun _=>by kernel_rfl) ?_
 delta Qn vB
 refine Za (fun h0=>⟨?r1,⟨?r0, ?_⟩⟩) (fun h0=>?_)
 case r0|r1=>have hb:=ZvH s;simp only[Qc_] at h0;have hw:IntKind.i64.wrap (ixM 46 s+1)=ixM 46 s+1:=Ze (by constructor<;>omega);(try rw[hw]);omega
 ·have hb:=ZvH s;have h1:=h0;simp only[Qc_] at h1;have hw:IntKind.i64.wrap (ixM 46 s+1)=ixM 46 s+1:=Ze (by constructor<;>omega)
  rw[hw];simp only[ZU,h0,Qb_];rfl
 ·simp only[ZU,h0,Qd_];rfl
theorem Z1B:Zj Tryz.prog 174 Z1a:=by
 intro args r ps h hp
 unfold Z1a at h
 split at h
 ·rename_i p1
  cases (Qa_ h)
  exact Zuh p1 (hp _ (by simp))
 ·exact absurd h (by simp)
theorem Zw9(s:List UInt8)(hp0:s.length≤4000000000):Con Tryz.prog 151 [.str s,.str [46]] (.tup [.str ((ZU s).1),.str ((ZU s).2.1),.v (.bool ((ZU s).2.2))]):=by
 refine cf0 (Zb Z1B<|Zh) (fn:=Tryz.f151) rfl ?_
 refine sxT (fun Q=>((s.length≤(4000000000:Nat))∧Q (PV.tup [PV.str (ZU s).fst,PV.str (ZU s).snd.fst,vB (ZU s).snd.snd]))) (fun _=>by kernel_rfl) ?_
 delta Qn vB
 refine ⟨?r0, ?_⟩
 case r0=>first | rfl | (simp only[YI,dI,dIv];omega) | (simp[Zf,chunk];done) | (simp only[YI,dI,dIv];done) | (exact Zp (fun _=>rfl) (by omega) (by omega)) | (simp only[Qc_,Qk_] at *;exact Zp (fun _=>rfl) (by omega) (by omega)) | assumption | trivial | (simp_all;done) | omega
 all_goals (try simp only[Qi_,Qf_,bne] at *)
 all_goals first | rfl | (simp only[ZU,Zt,Zs,List.foldl,Qr_,Qp_,Ql_,Qn_,Q5_,Q4_,Qw_,Q3_,Qu_,Qt_,Qb_,Qd_,QD_,Q8_, *];done) | (simp only[ZU,Zt,Zs,List.foldl,Qr_,Qp_,Ql_,Qn_,Q5_,Q4_,Qw_,Q3_,Qu_,Qt_,Qb_,Qd_,QD_,Q8_, *];first | rfl | (simp only[nz,nzA,nz1,QE_,QN_,Iv.enc,V.enc,Ray.enc, *];first | done | rfl)) | (simp_all[nz,nzA,nz1,Iv.enc,V.enc,Ray.enc,Dec.enc,Shape.enc,none',told,K4_,ZU];done) | (simp_all[nz,nzA,nz1,Iv.enc,V.enc,Ray.enc,Dec.enc,Shape.enc,none',told,K4_,ZU];omega) | (simp_all[nz,nzA,nz1,Iv.enc,V.enc,Ray.enc,Dec.enc,Shape.enc,none',told,K4_,ZU];(repeat' split)<;>(first | rfl | (exfalso;omega) | (simp_all;done) | omega))
theorem Z1C:Zj Tryz.prog 151 Z1b:=by
 intro args r ps h hp
 unfold Z1b at h
 split at h
 ·rename_i p1
  cases (Qa_ h)
  exact Zw9 p1 (hp _ (by simp))
 ·exact absurd h (by simp)
theorem Z1D:Zj Tryz.prog 152 Z3j:=Zk<|Zi fun s=>Zi fun n=>EZ1 fun hp0=>by
 refine cf0 (Zb Z10<|Zh) (fn:=Tryz.f152) rfl ?_
 refine sxT (fun Q=>(bif !s==[] then (bif decide (↑s.length≤n) then ((s.length≤(4000000000:Nat)∧(10:Nat)≤(4000000000:Nat))∧((true=true)∧Q (vB (ZjS s [(48:UInt8),(49:UInt8),(50:UInt8),(51:UInt8),(52:UInt8),(53:UInt8),(54:UInt8),(55:UInt8),(56:UInt8),(57:UInt8)]==[])))) else Q (vB false)) else Q (vB false))) (fun _=>by kernel_rfl) ?_
 delta Qn vB
 refine Za (fun h0=>Za (fun h1=>⟨?r1,⟨?r0, ?_⟩⟩) (fun h1=>?_)) (fun h0=>?_)
 case r0|r1=>first | rfl | omega | (exact ⟨hp0,by decide⟩) | skip
 all_goals (try simp only[Qi_,Qf_,bne] at *)
 all_goals first | rfl | (simp only[figs,Zt,Zs,List.foldl,Qr_,Qp_,Ql_,Qn_,Q5_,Q4_,Qw_,Q3_,Qu_,Qt_,Qb_,Qd_,QD_,Q8_, *];done) | (simp only[figs,Zt,Zs,List.foldl,Qr_,Qp_,Ql_,Qn_,Q5_,Q4_,Qw_,Q3_,Qu_,Qt_,Qb_,Qd_,QD_,Q8_, *];first | rfl | (simp only[nz,nzA,nz1,QE_,QN_,Iv.enc,V.enc,Ray.enc, *];first | done | rfl)) | (simp_all[nz,nzA,nz1,Iv.enc,V.enc,Ray.enc,Dec.enc,Shape.enc,none',told,K4_,figs];done) | (simp_all[nz,nzA,nz1,Iv.enc,V.enc,Ray.enc,Dec.enc,Shape.enc,none',told,K4_,figs];omega) | (simp_all[nz,nzA,nz1,Iv.enc,V.enc,Ray.enc,Dec.enc,Shape.enc,none',told,K4_,figs];(repeat' split)<;>(first | rfl | (exfalso;omega) | (simp_all;done) | omega))
def Zui(c:Int)(Q:PV→Prop):Prop:=bif decide (c≥(65:Int)) then Q (vB (decide (c≤(90:Int)))) else Q (vB false)
theorem ZwA:Zj Tryz.prog 100 Z1c:=Zk<|Zi fun c=>EZ0<|by
 refine cf0 Zh (fn:=Tryz.f100) rfl ?_
 refine sxT (fun Q=>(bif decide (c≥(97:Int)) then (bif decide (c≤(122:Int)) then Q (vB true) else (Zui c Q)) else (Zui c Q))) (fun _=>by kernel_rfl) ?_
 delta Qn Zui vB
 refine Za (fun h0=>Za (fun h1=>?_) (fun h1=>Za (fun h2=>?_) (fun h2=>?_))) (fun h0=>Za (fun h1=>?_) (fun h1=>?_))
 all_goals (try simp only[Qi_,Qf_,bne] at *)
 all_goals first | rfl | (simp only[Y3,Zt,Zs,List.foldl,Qr_,Qp_,Ql_,Qn_,Q5_,Q4_,Qw_,Q3_,Qu_,Qt_,Qb_,Qd_,QD_,Q8_, *];done) | (simp only[Y3,Zt,Zs,List.foldl,Qr_,Qp_,Ql_,Qn_,Q5_,Q4_,Qw_,Q3_,Qu_,Qt_,Qb_,Qd_,QD_,Q8_, *];first | rfl | (simp only[nz,nzA,nz1,QE_,QN_,Iv.enc,V.enc,Ray.enc, *];first | done | rfl)) | (simp_all[nz,nzA,nz1,Iv.enc,V.enc,Ray.enc,Dec.enc,Shape.enc,none',told,K4_,Y3];done) | (simp_all[nz,nzA,nz1,Iv.enc,V.enc,Ray.enc,Dec.enc,Shape.enc,none',told,K4_,Y3];omega) | (simp_all[nz,nzA,nz1,Iv.enc,V.enc,Ray.enc,Dec.enc,Shape.enc,none',told,K4_,Y3];(repeat' split)<;>(first | rfl | (exfalso;omega) | (simp_all;done) | omega))
theorem ZpN:Zj Tryz.prog 101 Z1d:=Zk<|Zi fun c=>EZ0<|by
 refine cf0 Zh (fn:=Tryz.f101) rfl ?_
 refine sxT (fun Q=>(bif decide (c≥(48:Int)) then Q (vB (decide (c≤(57:Int)))) else Q (vB false))) (fun _=>by kernel_rfl) ?_
 delta Qn vB
 refine Za (fun h0=>?_) (fun h0=>?_)
 all_goals (try simp only[Qi_,Qf_,bne] at *)
 all_goals first | rfl | (simp only[Xb,Zt,Zs,List.foldl,Qr_,Qp_,Ql_,Qn_,Q5_,Q4_,Qw_,Q3_,Qu_,Qt_,Qb_,Qd_,QD_,Q8_, *];done) | (simp only[Xb,Zt,Zs,List.foldl,Qr_,Qp_,Ql_,Qn_,Q5_,Q4_,Qw_,Q3_,Qu_,Qt_,Qb_,Qd_,QD_,Q8_, *];first | rfl | (simp only[nz,nzA,nz1,QE_,QN_,Iv.enc,V.enc,Ray.enc, *];first | done | rfl)) | (simp_all[nz,nzA,nz1,Iv.enc,V.enc,Ray.enc,Dec.enc,Shape.enc,none',told,K4_,Xb];done) | (simp_all[nz,nzA,nz1,Iv.enc,V.enc,Ray.enc,Dec.enc,Shape.enc,none',told,K4_,Xb];omega) | (simp_all[nz,nzA,nz1,Iv.enc,V.enc,Ray.enc,Dec.enc,Shape.enc,none',told,K4_,Xb];(repeat' split)<;>(first | rfl | (exfalso;omega) | (simp_all;done) | omega))
theorem Z1E:Zj Tryz.prog 104 Z1e:=Zk<|Zi fun c=>EZ0<|by
 refine cf0 (Zb ZwA<|Zb ZpN<|Zh) (fn:=Tryz.f104) rfl ?_
 refine sxT (fun Q=>(bif Y3 c then Q (vB true) else (bif Xb c then Q (vB true) else (bif c==(45:Int) then Q (vB true) else Q (vB (c==(95:Int))))))) (fun _=>by kernel_rfl) ?_
 delta Qn vB
 refine Za (fun h0=>?_) (fun h0=>Za (fun h1=>?_) (fun h1=>Za (fun h2=>?_) (fun h2=>?_)))
 all_goals (try simp only[Qi_,Qf_,bne] at *)
 all_goals first | rfl | (simp only[Z5,Zt,Zs,List.foldl,Qr_,Qp_,Ql_,Qn_,Q5_,Q4_,Qw_,Q3_,Qu_,Qt_,Qb_,Qd_,QD_,Q8_, *];done) | (simp only[Z5,Zt,Zs,List.foldl,Qr_,Qp_,Ql_,Qn_,Q5_,Q4_,Qw_,Q3_,Qu_,Qt_,Qb_,Qd_,QD_,Q8_, *];first | rfl | (simp only[nz,nzA,nz1,QE_,QN_,Iv.enc,V.enc,Ray.enc, *];first | done | rfl)) | (simp_all[nz,nzA,nz1,Iv.enc,V.enc,Ray.enc,Dec.enc,Shape.enc,none',told,K4_,Z5];done) | (simp_all[nz,nzA,nz1,Iv.enc,V.enc,Ray.enc,Dec.enc,Shape.enc,none',told,K4_,Z5];omega) | (simp_all[nz,nzA,nz1,Iv.enc,V.enc,Ray.enc,Dec.enc,Shape.enc,none',told,K4_,Z5];(repeat' split)<;>(first | rfl | (exfalso;omega) | (simp_all;done) | omega))
theorem Z1F:Zj Tryz.prog 105 Z1f:=Zk<|Zi fun c=>EZ0<|by
 refine cf0 (Zb ZpN<|Zh) (fn:=Tryz.f105) rfl ?_
 refine sxT (fun Q=>(bif Xb c then Q (vB true) else Q (vB (c==(46:Int))))) (fun _=>by kernel_rfl) ?_
 delta Qn vB
 refine Za (fun h0=>?_) (fun h0=>?_)
 all_goals (try simp only[Qi_,Qf_,bne] at *)
 all_goals first | rfl | (simp only[Zu,Zt,Zs,List.foldl,Qr_,Qp_,Ql_,Qn_,Q5_,Q4_,Qw_,Q3_,Qu_,Qt_,Qb_,Qd_,QD_,Q8_, *];done) | (simp only[Zu,Zt,Zs,List.foldl,Qr_,Qp_,Ql_,Qn_,Q5_,Q4_,Qw_,Q3_,Qu_,Qt_,Qb_,Qd_,QD_,Q8_, *];first | rfl | (simp only[nz,nzA,nz1,QE_,QN_,Iv.enc,V.enc,Ray.enc, *];first | done | rfl)) | (simp_all[nz,nzA,nz1,Iv.enc,V.enc,Ray.enc,Dec.enc,Shape.enc,none',told,K4_,Zu];done) | (simp_all[nz,nzA,nz1,Iv.enc,V.enc,Ray.enc,Dec.enc,Shape.enc,none',told,K4_,Zu];omega) | (simp_all[nz,nzA,nz1,Iv.enc,V.enc,Ray.enc,Dec.enc,Shape.enc,none',told,K4_,Zu];(repeat' split)<;>(first | rfl | (exfalso;omega) | (simp_all;done) | omega))
theorem Z1G:Zj Tryz.prog 103 Z1g:=Zk<|Zi fun c=>EZ0<|by
 refine cf0 Zh (fn:=Tryz.f103) rfl ?_
 refine sxT (fun Q=>Q (vB (c !=(10:Int)))) (fun _=>by kernel_rfl) ?_
 delta Qn vB
 refine ?_
 all_goals (try simp only[Qi_,Qf_,bne] at *)
 all_goals first | rfl | (simp only[XA,Zt,Zs,List.foldl,Qr_,Qp_,Ql_,Qn_,Q5_,Q4_,Qw_,Q3_,Qu_,Qt_,Qb_,Qd_,QD_,Q8_, *];done) | (simp only[XA,Zt,Zs,List.foldl,Qr_,Qp_,Ql_,Qn_,Q5_,Q4_,Qw_,Q3_,Qu_,Qt_,Qb_,Qd_,QD_,Q8_, *];first | rfl | (simp only[nz,nzA,nz1,QE_,QN_,Iv.enc,V.enc,Ray.enc, *];first | done | rfl)) | (simp_all[nz,nzA,nz1,Iv.enc,V.enc,Ray.enc,Dec.enc,Shape.enc,none',told,K4_,XA];done) | (simp_all[nz,nzA,nz1,Iv.enc,V.enc,Ray.enc,Dec.enc,Shape.enc,none',told,K4_,XA];omega) | (simp_all[nz,nzA,nz1,Iv.enc,V.enc,Ray.enc,Dec.enc,Shape.enc,none',told,K4_,XA];(repeat' split)<;>(first | rfl | (exfalso;omega) | (simp_all;done) | omega))
theorem Z2o:Zj Tryz.prog 99 e99:=Zk<|Zi fun a=>Zi fun b=>EZ0<|by
 refine cf0 Zh (fn:=Tryz.f99) rfl ?_
 refine sxT (fun Q=>Q (PV.v (Value.complex FloatKind.f64 (FloatKind.f64.nearest a) (FloatKind.f64.nearest b)))) (fun _=>by kernel_rfl) ?_
 delta Qn
 refine ?_
 all_goals (try simp only[Qi_,Qf_,bne] at *)
 all_goals first | rfl | (simp only[Yz,Zt,Zs,List.foldl,Qr_,Qp_,Ql_,Qn_,Q5_,Q4_,Qw_,Q3_,Qu_,Qt_,Qb_,Qd_,QD_,Q8_, *];done) | (simp only[Yz,Zt,Zs,List.foldl,Qr_,Qp_,Ql_,Qn_,Q5_,Q4_,Qw_,Q3_,Qu_,Qt_,Qb_,Qd_,QD_,Q8_, *];first | rfl | (simp only[nz,nzA,nz1,QE_,QN_,Iv.enc,V.enc,Ray.enc, *];first | done | rfl)) | (simp_all[nz,nzA,nz1,Iv.enc,V.enc,Ray.enc,Dec.enc,Shape.enc,none',told,K4_,Yz];done) | (simp_all[nz,nzA,nz1,Iv.enc,V.enc,Ray.enc,Dec.enc,Shape.enc,none',told,K4_,Yz];omega) | (simp_all[nz,nzA,nz1,Iv.enc,V.enc,Ray.enc,Dec.enc,Shape.enc,none',told,K4_,Yz];(repeat' split)<;>(first | rfl | (exfalso;omega) | (simp_all;done) | omega))
def Zyz:=YN [(103,Z1g)]
theorem Zmo:CSOk Tryz.prog Zyz:=Zb Z1G<|Zh
theorem Zrb:Yo Tryz.prog (Z6 Tryz.f102 0) Zf2:=by
 refine Zax Zo.Γ (ZD Zo Zmo ZJ ZK ZQ (LS:=[]) (Yh (l:=[]) (by kernel_rfl) Z0) (n:=2000) (U2 Zti) (U2 JM) (fun x e s=>(e= .exit 0∧s=U2 ZaY x)) (fun x=>(x.2.length - x.1).toNat) Zf1 ZqL ZqM (fun x hx=>?_)) Zf1 ?_
 ·obtain ⟨i,s⟩:=x
  simp only[U2,JM] at hx
  refine sxT (fun Q=>(bif decide (i < ↑s.length) then (((0:Int)≤i∧i < ↑s.length)∧(bif XA ↑(s.getD i.toNat (0:UInt8)).toNat then Q (Ex.normal) (some ⟨24,[(7,AV.p (vI (IntKind.i64.wrap (i+(1:Int))))),(0,AV.p (PV.str s)),(2,AV.p (PV.fn (103:FuncId) []))],[],[],[],[]⟩) else Q (Ex.exit (0:Nat)) (some ⟨24,[(7,pI i)],[],[],[],[]⟩))) else Q (Ex.exit (0:Nat)) (some ⟨24,[(7,pI i)],[],[],[],[]⟩))) (fun _=>by kernel_rfl) ?_
  delta vI pI
  refine Za (fun h0=>⟨?r0,Za (fun h1=>?_) (fun h1=>?_)⟩) (fun h0=>?_)
  case r0=>first | rfl | (obtain ⟨a1,a2,a3⟩:=hx;simp only[Qc_] at h0;omega) | omega | skip
  all_goals (obtain ⟨a1,a2,a3⟩:=hx)
  all_goals (try simp only[Qc_,Qe_] at h0)
  ·have hw:IntKind.i64.wrap (i+1)=i+1:=Ze (by constructor<;>omega)
   have hs:=Zfv (p:=XA) a1 h0 h1
   refine .inl ⟨by trivial,(IntKind.i64.wrap (i+1),s),rfl, ?_, ?_, ?_⟩
   ·simp only[U2,JM,hw];omega
   ·simp only[hw];omega
   ·intro e s' h;refine ⟨h.1,h.2.trans ?_⟩;unfold U2 ZaY;(try dsimp only);rw[hw,hs]
  ·exact .inr ⟨by simp,_,rfl,by trivial,by unfold U2 ZaY;(try dsimp only);rw[Zfw (p:=XA) a1 h0 h1]⟩
  ·exact .inr ⟨by simp,_,rfl,by trivial,by unfold U2 ZaY;(try dsimp only);rw[ZgH (by omega)]⟩
 ·intro σ K hS
  unfold Zf2 at hS
  split at hS
  ·rename_i p1 p2 hk
   obtain ⟨hi,hK⟩:=XJ hS
   refine ⟨(p1,p2),hk,hi _ (by simp),fun e s hf=>?_⟩
   dsimp only[U2] at hf
   obtain ⟨rfl,rfl⟩:=hf
   exact hK
  ·exact hS.elim
theorem Zuj:ZN Tryz.prog [(3,Zf2)] Tryz.f102:=ZI (l:=[Z6 Tryz.f102 0]) (by kernel_rfl) (ZR (i:=3) (by kernel_rfl) rfl Zrb (Z0))
theorem Zuk(s:List UInt8)(k:Int)(hp0:0≤k∧k < s.length∧s.length≤4000):Con Tryz.prog 102 [.str s,.v (.int .i64 k),.fn 103 []] (.v (.int .i64 (Zl XA s (k+1)))):=by
 refine cfL Zmo Zuj rfl ?_
 refine sxT (fun Q=>((JM (IntKind.i64.wrap (k+(1:Int))) s)∧Q (vI (Zl XA s (IntKind.i64.wrap (k+(1:Int))))))) (fun _=>by kernel_rfl) ?_
 delta Qn vI
 refine ⟨?_, ?_⟩
 all_goals rw[Ze (show Fit (k+1) by constructor<;>omega)]
 ·simp only[JM];omega
 ·rfl
theorem Zul:Zj Tryz.prog 102 Zi7:=by
 intro args r ps h hp
 unfold Zi7 at h
 split at h
 ·rename_i p1 p2
  cases (Qa_ h)
  exact Zuk p1 p2 (hp _ (by simp))
 ·exact absurd h (by simp)
def ZwB:=YN [(104,Z1e)]
theorem Zkw:CSOk Tryz.prog ZwB:=Zb Z1E<|Zh
theorem ZpO:Yo Tryz.prog (Z6 Tryz.f102 0) Zet:=by
 refine Zax Zo.Γ (ZD Zo Zkw ZJ ZK ZQ (LS:=[]) (Yh (l:=[]) (by kernel_rfl) Z0) (n:=2000) (U2 ZqN) (U2 Jh) (fun x e s=>(e= .exit 0∧s=U2 Zah x)) (fun x=>(x.2.length - x.1).toNat) Zes Zpd Zpe (fun x hx=>?_)) Zes ?_
 ·obtain ⟨i,s⟩:=x
  simp only[U2,Jh] at hx
  refine sxT (fun Q=>(bif decide (i < ↑s.length) then (((0:Int)≤i∧i < ↑s.length)∧(bif Z5 ↑(s.getD i.toNat (0:UInt8)).toNat then Q (Ex.normal) (some ⟨24,[(7,AV.p (vI (IntKind.i64.wrap (i+(1:Int))))),(0,AV.p (PV.str s)),(2,AV.p (PV.fn (104:FuncId) []))],[],[],[],[]⟩) else Q (Ex.exit (0:Nat)) (some ⟨24,[(7,pI i)],[],[],[],[]⟩))) else Q (Ex.exit (0:Nat)) (some ⟨24,[(7,pI i)],[],[],[],[]⟩))) (fun _=>by kernel_rfl) ?_
  delta vI pI
  refine Za (fun h0=>⟨?r0,Za (fun h1=>?_) (fun h1=>?_)⟩) (fun h0=>?_)
  case r0=>first | rfl | (obtain ⟨a1,a2,a3⟩:=hx;simp only[Qc_] at h0;omega) | omega | skip
  all_goals (obtain ⟨a1,a2,a3⟩:=hx)
  all_goals (try simp only[Qc_,Qe_] at h0)
  ·have hw:IntKind.i64.wrap (i+1)=i+1:=Ze (by constructor<;>omega)
   have hs:=Zfv (p:=Z5) a1 h0 h1
   refine .inl ⟨by trivial,(IntKind.i64.wrap (i+1),s),rfl, ?_, ?_, ?_⟩
   ·simp only[U2,Jh,hw];omega
   ·simp only[hw];omega
   ·intro e s' h;refine ⟨h.1,h.2.trans ?_⟩;unfold U2 Zah;(try dsimp only);rw[hw,hs]
  ·exact .inr ⟨by simp,_,rfl,by trivial,by unfold U2 Zah;(try dsimp only);rw[Zfw (p:=Z5) a1 h0 h1]⟩
  ·exact .inr ⟨by simp,_,rfl,by trivial,by unfold U2 Zah;(try dsimp only);rw[ZgH (by omega)]⟩
 ·intro σ K hS
  unfold Zet at hS
  split at hS
  ·rename_i p1 p2 hk
   obtain ⟨hi,hK⟩:=XJ hS
   refine ⟨(p1,p2),hk,hi _ (by simp),fun e s hf=>?_⟩
   dsimp only[U2] at hf
   obtain ⟨rfl,rfl⟩:=hf
   exact hK
  ·exact hS.elim
theorem Zrc:ZN Tryz.prog [(3,Zet)] Tryz.f102:=ZI (l:=[Z6 Tryz.f102 0]) (by kernel_rfl) (ZR (i:=3) (by kernel_rfl) rfl ZpO (Z0))
theorem Zrd(s:List UInt8)(k:Int)(hp0:0≤k∧k < s.length∧s.length≤4000):Con Tryz.prog 102 [.str s,.v (.int .i64 k),.fn 104 []] (.v (.int .i64 (Zl Z5 s (k+1)))):=by
 refine cfL Zkw Zrc rfl ?_
 refine sxT (fun Q=>((Jh (IntKind.i64.wrap (k+(1:Int))) s)∧Q (vI (Zl Z5 s (IntKind.i64.wrap (k+(1:Int))))))) (fun _=>by kernel_rfl) ?_
 delta Qn vI
 refine ⟨?_, ?_⟩
 all_goals rw[Ze (show Fit (k+1) by constructor<;>omega)]
 ·simp only[Jh];omega
 ·rfl
theorem Zre:Zj Tryz.prog 102 ZgK:=by
 intro args r ps h hp
 unfold ZgK at h
 split at h
 ·rename_i p1 p2
  cases (Qa_ h)
  exact Zrd p1 p2 (hp _ (by simp))
 ·exact absurd h (by simp)
def Zy0:=YN [(105,Z1f)]
theorem Zmp:CSOk Tryz.prog Zy0:=Zb Z1F<|Zh
theorem Zrf:Yo Tryz.prog (Z6 Tryz.f102 0) Zf5:=by
 refine Zax Zo.Γ (ZD Zo Zmp ZJ ZK ZQ (LS:=[]) (Yh (l:=[]) (by kernel_rfl) Z0) (n:=2000) (U2 Ztj) (U2 JN) (fun x e s=>(e= .exit 0∧s=U2 ZaZ x)) (fun x=>(x.2.length - x.1).toNat) Zf4 ZqO ZqP (fun x hx=>?_)) Zf4 ?_
 ·obtain ⟨i,s⟩:=x
  simp only[U2,JN] at hx
  refine sxT (fun Q=>(bif decide (i < ↑s.length) then (((0:Int)≤i∧i < ↑s.length)∧(bif Zu ↑(s.getD i.toNat (0:UInt8)).toNat then Q (Ex.normal) (some ⟨24,[(7,AV.p (vI (IntKind.i64.wrap (i+(1:Int))))),(0,AV.p (PV.str s)),(2,AV.p (PV.fn (105:FuncId) []))],[],[],[],[]⟩) else Q (Ex.exit (0:Nat)) (some ⟨24,[(7,pI i)],[],[],[],[]⟩))) else Q (Ex.exit (0:Nat)) (some ⟨24,[(7,pI i)],[],[],[],[]⟩))) (fun _=>by kernel_rfl) ?_
  delta vI pI
  refine Za (fun h0=>⟨?r0,Za (fun h1=>?_) (fun h1=>?_)⟩) (fun h0=>?_)
  case r0=>first | rfl | (obtain ⟨a1,a2,a3⟩:=hx;simp only[Qc_] at h0;omega) | omega | skip
  all_goals (obtain ⟨a1,a2,a3⟩:=hx)
  all_goals (try simp only[Qc_,Qe_] at h0)
  ·have hw:IntKind.i64.wrap (i+1)=i+1:=Ze (by constructor<;>omega)
   have hs:=Zfv (p:=Zu) a1 h0 h1
   refine .inl ⟨by trivial,(IntKind.i64.wrap (i+1),s),rfl, ?_, ?_, ?_⟩
   ·simp only[U2,JN,hw];omega
   ·simp only[hw];omega
   ·intro e s' h;refine ⟨h.1,h.2.trans ?_⟩;unfold U2 ZaZ;(try dsimp only);rw[hw,hs]
  ·exact .inr ⟨by simp,_,rfl,by trivial,by unfold U2 ZaZ;(try dsimp only);rw[Zfw (p:=Zu) a1 h0 h1]⟩
  ·exact .inr ⟨by simp,_,rfl,by trivial,by unfold U2 ZaZ;(try dsimp only);rw[ZgH (by omega)]⟩
 ·intro σ K hS
  unfold Zf5 at hS
  split at hS
  ·rename_i p1 p2 hk
   obtain ⟨hi,hK⟩:=XJ hS
   refine ⟨(p1,p2),hk,hi _ (by simp),fun e s hf=>?_⟩
   dsimp only[U2] at hf
   obtain ⟨rfl,rfl⟩:=hf
   exact hK
  ·exact hS.elim
theorem Zum:ZN Tryz.prog [(3,Zf5)] Tryz.f102:=ZI (l:=[Z6 Tryz.f102 0]) (by kernel_rfl) (ZR (i:=3) (by kernel_rfl) rfl Zrf (Z0))
theorem Zun(s:List UInt8)(k:Int)(hp0:0≤k∧k < s.length∧s.length≤4000):Con Tryz.prog 102 [.str s,.v (.int .i64 k),.fn 105 []] (.v (.int .i64 (Zl Zu s (k+1)))):=by
 refine cfL Zmp Zum rfl ?_
 refine sxT (fun Q=>((JN (IntKind.i64.wrap (k+(1:Int))) s)∧Q (vI (Zl Zu s (IntKind.i64.wrap (k+(1:Int))))))) (fun _=>by kernel_rfl) ?_
 delta Qn vI
 refine ⟨?_, ?_⟩
 all_goals rw[Ze (show Fit (k+1) by constructor<;>omega)]
 ·simp only[JN];omega
 ·rfl
theorem Zuo:Zj Tryz.prog 102 Zi8:=by
 intro args r ps h hp
 unfold Zi8 at h
 split at h
 ·rename_i p1 p2
  cases (Qa_ h)
  exact Zun p1 p2 (hp _ (by simp))
 ·exact absurd h (by simp)
theorem Z1H:Zj Tryz.prog 102 Z1h:=Ze8 Zul (Ze8 Zre (Zuo))
def Zbg(s:List UInt8):=ZU (ZW s [(45:UInt8)]).fst
def Zns(s:List UInt8):=ZaR (Zbg s).snd.fst [(48:UInt8)]
def Zkx(s:List UInt8):=(Zbg s).fst++ZaR (Zbg s).snd.fst [(48:UInt8)]
def Znt:=PV.tup [PV.agg [vI 0,vI 0],vB false]
def Zup(s:List UInt8)(Q:PV→Prop):Prop:=bif (ZW s [(45:UInt8)]).snd then Q (PV.tup [PV.agg [vI (IntKind.i64.wrap ((0:Int) - ZbG (Zkx s))),vI (↑(Zns s).length)],vB true]) else Q (PV.tup [PV.agg [vI (ZbG (Zkx s)),vI (↑(Zns s).length)],vB true])
def Zuq(s:List UInt8)(Q:PV→Prop):Prop:=((Zbg s).snd.fst.length≤(4000000000:Nat)∧(1:Nat)≤(4000000000:Nat))∧((true=true)∧(((Zbg s).fst.length+(Zns s).length≤(9223372036854775807:Nat))∧((ZoP (Zkx s))∧(bif (ZW s [(45:UInt8)]).snd then (bif ZbG (Zkx s)==(0:Int) then Q Znt else (Zup s Q)) else (Zup s Q)))))
theorem Z1I:Zj Tryz.prog 106 Z1i:=Zk<|Zi fun s=>EZ1 fun hp0=>by
 refine cf0 (Zb Z19<|Zb Z1C<|Zb Z1D<|Zb Z11<|Zb Z12<|Zh) (fn:=Tryz.f106) rfl ?_
 refine sxT (fun Q=>(((ZW s [(45:UInt8)]).fst.length≤(4000000000:Nat))∧(((Zbg s).fst.length≤(4000000000:Nat))∧(bif !figs (Zbg s).fst (5:Int) then Q Znt else (bif (Zbg s).snd.snd then (((Zbg s).snd.fst.length≤(4000000000:Nat))∧(bif !figs (Zbg s).snd.fst (6:Int) then Q Znt else (Zuq s Q))) else (Zuq s Q)))))) (fun _=>by kernel_rfl) ?_
 delta Qn Zuq Zbg Zup Zkx Znt Zns vI vB
 refine ⟨?r10,⟨?r9,Za (fun h0=>?_) (fun h0=>Za (fun h1=>⟨?r4,Za (fun h2=>?_) (fun h2=>⟨?r3,⟨?r2,⟨?r1,⟨?r0,Za (fun h3=>Za (fun h4=>?_) (fun h4=>Za (fun h5=>?_) (fun h5=>?_))) (fun h3=>Za (fun h4=>?_) (fun h4=>?_))⟩⟩⟩⟩)⟩) (fun h1=>⟨?r8,⟨?r7,⟨?r6,⟨?r5,Za (fun h2=>Za (fun h3=>?_) (fun h3=>Za (fun h4=>?_) (fun h4=>?_))) (fun h2=>Za (fun h3=>?_) (fun h3=>?_))⟩⟩⟩⟩))⟩⟩
 case r0|r1|r2|r3|r4|r5|r6|r7|r8|r9|r10=>first | rfl | omega | (have k1:=ZsV s [45];have k2:=ZvI (ZW s [45]).1;first | omega | exact ⟨by omega,by decide⟩) | (have hF:ZdX s=true:=(by rw[ZoQ];simp only[Qi_,Qf_] at *;simp only[*,Qp_,Qu_,Qt_,Q4_,Qw_,Q5_]);first | exact (ZyX hF).1 | exact (ZyX hF).2) | skip
 all_goals (try simp only[Qi_,Qf_] at *)
 all_goals have eF:=ZoQ s
 all_goals simp only[*,Qp_,Ql_,Qu_,Qt_,Q4_,Qw_,Q5_,Q3_] at eF
 all_goals rw[ZsW,eF]
 all_goals first
  | rfl
  | (have hb:=ZzW eF
     simp only[show ZbG ((ZU (ZW s [45]).fst).fst++ZaR (ZU (ZW s [45]).fst).snd.fst [48])=Zeq s from rfl] at *
     simp only[*,Qb_,Qd_]
     first | rfl | (rw[Xa (by constructor<;>omega)];rfl) | (exfalso;simp_all;done) | skip)
end Go.Men
namespace Go.Ev
open Go.RowKit
def sxJ(Γ:List (Nat×Ty))(R:RSy)(T:TSy)(LS:List (Nat×LSum))(s:Code)(stop:Nat):Nat→Code→St→(Ex→St→Prop)→Prop
 | 0,_,_,_=>False
 | n+1,c,σ,K=>Zfr (clean (Ju s) σ) fun σ=>YM Γ R T LS (n+1) none c σ fun e σ1=>match e with
   | .goto l=>(match Nat.beq l stop with
     | true=>K (.goto l) σ1
     | false=>match findLabel s l with
       | some rest=>sxJ Γ R T LS s stop n rest σ1 K
       | none=>False)
   | e=>K e σ1
section
variable {P:Program}
theorem ZpP{s c:Code}{m:Nat}{σ τ σ':St}{e:Ex}(hs:Wk P σ τ)(h:Wa P s m c τ e σ'):Wa P s m c σ e σ':=fun B g a w hI=>
 Zb9 (fun _ _ _ ⟨h1,g',h2,h3⟩=>⟨h1,g',h2,(hs B g a w hI).2.1 _ _ _ h3⟩) _ _ _ _ (h B g a w (hs B g a w hI).1)
theorem ZpQ{s c:Code}{m:Nat}{σ τ σ':St}{e:Ex}(hs:Wk P σ' τ)(h:Wa P s m c σ e σ'):Wa P s m c σ e τ:=fun B g a w hI=>
 Zb9 (fun _ a' w' ⟨h1,g',h2,h3⟩=>⟨h1,g',(hs B g' a' w' h2).1,(hs B g' a' w' h2).2.2 _ _ _ _ h3⟩) _ _ _ _ (h B g a w hI)
theorem Zmq{E:Env}(hE:EnvOk P E){C:ZZ}(hC:CSOk P C){CP:Y0}(hP:CSPOk P CP){CI:Yx}(hI:CSIOk P CI){G:Gx}(hG:OwOk P C G){LS:List (Nat×LSum)}{s:Code}{stop:Nat}(hL:∀b∈ZH s,∀S,lk (X2 b) LS=some S→Yo P b S):
 ∀(n:Nat) (c:Code) (σ:St) (K:Ex→St→Prop),(∀b∈ZH c,∀S,lk (X2 b) LS=some S→Yo P b S)→sxJ E.Γ (RSym E C) (ZbC E C CP CI G) LS s stop n c σ K→
  ∃e σ',K e σ'∧(∀rest e2 σ2 m,e= .goto stop→findLabel s stop=some rest→Wa P s m rest σ' e2 σ2→∃m',Wa P s m' c σ e2 σ2)∧(e≠ .goto stop→∃m,Wa P s m c σ e σ'):=by
 intro n
 induction n with
 | zero=>intro c σ K _ h;exact h.elim
 | succ n ih=>
   intro c σ K hl h
   unfold sxJ at h
   rw[ZcR] at h
   obtain ⟨e,σ1,h1,h2,_⟩:=(ZaN hE.Γ hE.mixed ZjD (Zgw hE (ZjB hC)) ZhA (ZjI hE hC hP hI hG) (n+1)).1 c _ _ hl h
   have h3:=Jv h2
   have out:(∀l,e≠ .goto l)→K e σ1→∃e σ',K e σ'∧(∀rest e2 σ2 m,e= .goto stop→findLabel s stop=some rest→Wa P s m rest σ' e2 σ2→∃m',Wa P s m' c σ e2 σ2)∧(e≠ .goto stop→∃m,Wa P s m c σ e σ'):=
    fun hne hk=>⟨e,σ1,hk,fun _ _ _ _ he=>absurd he (hne _),fun _=>⟨1,ZnR hne h3⟩⟩
   cases e with
   | goto l=>
     simp only at h1
     cases hb:Nat.beq l stop with
     | true=>
       rw[hb] at h1
       have:=Qj_ hb
       subst this
       exact ⟨_,σ1,h1,fun rest e2 σ2 m _ hf ht=>⟨m+1,ZdH h3 hf ht⟩,fun hne=>absurd rfl hne⟩
     | false=>
       rw[hb] at h1
       simp only at h1
       split at h1
       ·rename_i rest hf
        obtain ⟨e',σ',k1,k2,k3⟩:=ih rest σ1 K (fun b hb=>hL b (Zae hf b hb)) h1
        refine ⟨e',σ',k1,fun r2 e2 σ2 m he hf2 ht=>?_,fun hne=>?_⟩
        ·obtain ⟨m',hm⟩:=k2 r2 e2 σ2 m he hf2 ht
         exact ⟨m'+1,ZdH h3 hf hm⟩
        ·obtain ⟨m',hm⟩:=k3 hne
         exact ⟨m'+1,ZdH h3 hf hm⟩
       ·exact h1.elim
   | normal=>exact out (fun l=>by simp) h1
   | exit i=>exact out (fun l=>by simp) h1
   | ret=>exact out (fun l=>by simp) h1
def kpL(Γ:List (Nat×Ty))(k kr:KpH)(e:Ex)(σ:St):Option St:=match e with
 | .goto _=>Jj Γ k σ
 | _=>Jj Γ kr σ
def sxL(E:Env)(C:ZZ)(CP:Y0)(CI:Yx)(G:Gx)(LS:List (Nat×LSum))(n:Nat)(s:Code)(stop:Nat)(c:Code)(k kr:KpH)(σ:St)(Q:Ex→Option St→Prop):Prop:=
 sxJ E.Γ (RSym E C) (ZbC E C CP CI G) LS s stop n c σ fun e σ1=>Q e (kpL E.Γ k kr e σ1)
theorem ZwC{E:Env}(hE:EnvOk P E){C:ZZ}(hC:CSOk P C){CP:Y0}(hP:CSPOk P CP){CI:Yx}(hI:CSIOk P CI){G:Gx}(hG:OwOk P C G){LS:List (Nat×LSum)}{s rest:Code}{stop:Nat}(hL:∀b∈ZH s,∀S,lk (X2 b) LS=some S→Yo P b S)(hf:findLabel s stop=some rest){n:Nat}
 {X:Type} (H:X→St) (inv:X→Prop) (fin:X→St→Prop) (μ:X→Nat) (k kr:KpH)
 (step:∀x,inv x→sxL E C CP CI G LS n s stop rest k kr (H x) fun e o=>
   (e= .goto stop∧∃y,o=some (H y)∧inv y∧μ y < μ x∧∀s,fin y s→fin x s)∨(e= .ret∧∃τ,o=some τ∧fin x τ)):
 ∀x,inv x→∃σ',fin x σ'∧∃m,Wa P s m rest (H x) .ret σ':=by
 have key:∀j x,μ x < j→inv x→∃σ',fin x σ'∧∃m,Wa P s m rest (H x) .ret σ':=by
  intro j
  induction j with
  | zero=>intro x hx;omega
  | succ j ih=>
    intro x hx hi
    obtain ⟨e,σ1,h1,h2,h3⟩:=Zmq hE hC hP hI hG hL n rest (H x) _ (fun b hb=>hL b (Zae hf b hb)) (step x hi)
    rcases h1 with ⟨rfl,y,hy,iy,my,fy⟩ | ⟨rfl,τ,ht,hfin⟩
    ·obtain ⟨σ',f1,m,f2⟩:=ih y (by omega) iy
     obtain ⟨m',f3⟩:=h2 rest _ _ m rfl hf (ZpP (Zbx hE.Γ hy) f2)
     exact ⟨σ',fy _ f1,m',f3⟩
    ·obtain ⟨m,f3⟩:=h3 (by simp)
     exact ⟨τ,hfin,m,ZpQ (Zbx hE.Γ ht) f3⟩
 exact fun x hi=>key (μ x+1) x (by omega) hi
def Zy1(E:Env)(C:ZZ)(CP:Y0)(CI:Yx)(G:Gx)(LS:List (Nat×LSum))(n:Nat)(fn:Func)(pre s:Code)(stop:Nat)(k kr:KpH)(args:List PV)(Q:Ex→Option St→Prop):Prop:=
 Zo3 (XM fn.ntmps args) fun σ=>YM E.Γ (RSym E C) (ZbC E C CP CI G) LS n none pre σ fun e σ1=>match e with
  | .normal=>sxL E C CP CI G LS n s stop s k kr σ1 Q
  | _=>False
theorem Zy2{E:Env}(hE:EnvOk P E){C:ZZ}(hC:CSOk P C){CP:Y0}(hP:CSPOk P CP){CI:Yx}(hI:CSIOk P CI){G:Gx}(hG:OwOk P C G){LS:List (Nat×LSum)}{f:Nat}{fn:Func}(hfn:lk f E.fns=some fn){pre s rest:Code}(hb:fn.body=some (.seq pre (.scope s))){stop:Nat}(hf:findLabel s stop=some rest)
 (hLp:∀b∈ZH pre,∀S,lk (X2 b) LS=some S→Yo P b S) (hL:∀b∈ZH s,∀S,lk (X2 b) LS=some S→Yo P b S) {n:Nat} {args:List PV} (hn:Nat.ble args.length fn.ntmps=true) {k kr:KpH} {R:PV→Prop}
 (h:Zy1 E C CP CI G LS n fn pre s stop k kr args fun e o=>(e= .goto stop∧∃τ,o=some τ∧∃σ',ZbD E fn.results.toList R .ret σ'∧∃m,Wa P s m rest τ .ret σ')∨(e= .ret∧∃τ,o=some τ∧ZbD E fn.results.toList R .ret τ)):∃r,R r∧Con P f args r:=by
 obtain ⟨k1,k2⟩:=hE.fns f fn hfn
 unfold Zy1 at h
 rw[Zlg] at h
 obtain ⟨e,σ1,h1,h2,_⟩:=(ZaN hE.Γ hE.mixed ZjD (Zgw hE (ZjB hC)) ZhA (ZjI hE hC hP hI hG) n).1 pre _ _ hLp h
 cases e with
 | normal=>
   simp only at h1
   obtain ⟨e',σ2,j1,j2,j3⟩:=Zmq hE hC hP hI hG hL n s σ1 _ hL h1
   have fin:∀{σ':St} {m:Nat},ZbD E fn.results.toList R .ret σ'→Wa P s m s σ1 .ret σ'→∃r,R r∧Con P f args r:=by
    intro σ' m he ht
    unfold ZbD at he
    simp only[Zjj,Qb_] at he
    split at he
    ·rename_i r hr
     exact ⟨_,he,ZuQ hE.Γ k2 k1 hb hn (Zrr h2 (ZlJ ht)) rfl hr⟩
    ·exact he.elim
   rcases j1 with ⟨rfl,τ,ht,σ',he,m,hs⟩ | ⟨rfl,τ,ht,he⟩
   ·obtain ⟨m',hm⟩:=j2 rest _ _ m rfl hf (ZpP (Zbx hE.Γ ht) hs)
    exact fin he hm
   ·obtain ⟨m,hm⟩:=j3 (by simp)
    exact fin he (ZpQ (Zbx hE.Γ ht) hm)
 | exit i=>exact h1.elim
 | goto i=>exact h1.elim
 | ret=>exact h1.elim
end
end Go.Ev
namespace Go.Men
open Go Go.Ev Go.Proofs Go.Proofs.YtgfgjabeooohhaaGreatDoor
def Z2p:Option Code→Code | some (.seq _ (.scope s))=>s | _=> .skip
def Z2q:Option Code→Code | some (.seq p (.scope _))=>p | _=> .skip
noncomputable def ZfE:Code:=Z2p Tryz.f48.body
noncomputable def Zy3:Code:=Z2q Tryz.f48.body
noncomputable def ZpR:Code:=(findLabel ZfE 0).getD .skip
theorem Zy4:Tryz.f48.body=some (.seq Zy3 (.scope ZfE)):=rfl
theorem ZpS:findLabel ZfE 0=some ZpR:=by kernel_rfl
def Zl7(s:List UInt8)(k line beg:Int)(sm:Bool)(out:List Tok):St:=⟨118,[(0,.p (.str s)),(5,.p (.lst (out.map Tok.enc))),(6,pI k),(8,pI line),(9,pI beg),(10,.p (vB sm))],[],[],[(.t 5,92)],[]⟩
def ZpT:KpH:=⟨⟨[0,5,6,8,9,10],[],[.t 5]⟩,[(.t 5,92)]⟩
def Zky:KpH:=⟨⟨[2,3,4],[],[]⟩,[]⟩
def Znu:=YN [(99,e99),(100,Z1c),(101,Z1d),(102,Z1h),(106,Z1i)]
theorem Z1J(s:List UInt8)(k line beg:Int)(sm:Bool)(out:List Tok)(Q:Ex→Option St→Prop):sxL evEnv Znu Zg2 Zg3 noG [] 2000 ZfE 0 ZpR ZpT Zky (Zl7 s k line beg sm out) Q=(bif k==↑s.length then (bif sm then (((0:Nat) < (1:Nat)∧((List.map Tok.enc out).length+(1:Nat))* (40:Nat)≤(140737488355328:Nat)∧Lens (3:Nat) (List.map Tok.enc out++[[PV.v (Value.int IntKind.i64 (3:Int)),PV.str [],PV.v (Value.complex FloatKind.f64 (Yz line (IntKind.i64.wrap (IntKind.i64.wrap (k - beg)+(1:Int)))).re (Yz line (IntKind.i64.wrap (IntKind.i64.wrap (k - beg)+(1:Int)))).im)]]))∧(bif k==↑s.length then Q (Ex.ret) (some ⟨118,[(2,AV.p (PV.lst (List.map Tok.enc out++[[PV.v (Value.int IntKind.i64 ((3:Int))),PV.str ([]),PV.v (Value.complex FloatKind.f64 ((Yz line (IntKind.i64.wrap (IntKind.i64.wrap (k - beg)+(1:Int)))).re) ((Yz line (IntKind.i64.wrap (IntKind.i64.wrap (k - beg)+(1:Int)))).im))]]))),(3,AV.p (PV.v (Value.complex FloatKind.f64 (0) (0)))),(4,AV.p (PV.v (Value.int IntKind.i64 ((0:Int)))))],[],[],[],[]⟩) else Q (Ex.goto (0:Nat)) (some ⟨118,[(0,AV.p (PV.str (s))),(5,AV.p (PV.lst (List.map Tok.enc out++[[PV.v (Value.int IntKind.i64 ((3:Int))),PV.str ([]),PV.v (Value.complex FloatKind.f64 ((Yz line (IntKind.i64.wrap (IntKind.i64.wrap (k - beg)+(1:Int)))).re) ((Yz line (IntKind.i64.wrap (IntKind.i64.wrap (k - beg)+(1:Int)))).im))]]))),(6,AV.p (PV.v (Value.int IntKind.i64 (IntKind.i64.wrap (k+(1:Int)))))),(8,AV.p (PV.v (Value.int IntKind.i64 (IntKind.i64.wrap (line+(1:Int)))))),(9,AV.p (PV.v (Value.int IntKind.i64 (IntKind.i64.wrap (k+(1:Int)))))),(10,AV.p (PV.v (Value.bool (false))))],[],[],[(Loc.t 5,92)],[]⟩))) else (bif k==↑s.length then Q (Ex.ret) (some ⟨118,[(2,AV.p (PV.lst (List.map Tok.enc out))),(3,AV.p (PV.v (Value.complex FloatKind.f64 (0) (0)))),(4,AV.p (PV.v (Value.int IntKind.i64 ((0:Int)))))],[],[],[],[]⟩) else Q (Ex.goto (0:Nat)) (some ⟨118,[(0,AV.p (PV.str (s))),(5,AV.p (PV.lst (List.map Tok.enc out))),(6,AV.p (PV.v (Value.int IntKind.i64 (IntKind.i64.wrap (k+(1:Int)))))),(8,AV.p (PV.v (Value.int IntKind.i64 (IntKind.i64.wrap (line+(1:Int)))))),(9,AV.p (PV.v (Value.int IntKind.i64 (IntKind.i64.wrap (k+(1:Int)))))),(10,AV.p (PV.v (Value.bool (false))))],[],[],[(Loc.t 5,92)],[]⟩))) else (((0:Int)≤k∧k < ↑s.length)∧(bif ((s.getD k.toNat (0:UInt8)).toNat:Int)==(10:Int) then (bif sm then (((0:Nat) < (1:Nat)∧((List.map Tok.enc out).length+(1:Nat))* (40:Nat)≤(140737488355328:Nat)∧Lens (3:Nat) (List.map Tok.enc out++[[PV.v (Value.int IntKind.i64 (3:Int)),PV.str [],PV.v (Value.complex FloatKind.f64 (Yz line (IntKind.i64.wrap (IntKind.i64.wrap (k - beg)+(1:Int)))).re (Yz line (IntKind.i64.wrap (IntKind.i64.wrap (k - beg)+(1:Int)))).im)]]))∧(bif k==↑s.length then Q (Ex.ret) (some ⟨118,[(2,AV.p (PV.lst (List.map Tok.enc out++[[PV.v (Value.int IntKind.i64 ((3:Int))),PV.str ([]),PV.v (Value.complex FloatKind.f64 ((Yz line (IntKind.i64.wrap (IntKind.i64.wrap (k - beg)+(1:Int)))).re) ((Yz line (IntKind.i64.wrap (IntKind.i64.wrap (k - beg)+(1:Int)))).im))]]))),(3,AV.p (PV.v (Value.complex FloatKind.f64 (0) (0)))),(4,AV.p (PV.v (Value.int IntKind.i64 ((0:Int)))))],[],[],[],[]⟩) else Q (Ex.goto (0:Nat)) (some ⟨118,[(0,AV.p (PV.str (s))),(5,AV.p (PV.lst (List.map Tok.enc out++[[PV.v (Value.int IntKind.i64 ((3:Int))),PV.str ([]),PV.v (Value.complex FloatKind.f64 ((Yz line (IntKind.i64.wrap (IntKind.i64.wrap (k - beg)+(1:Int)))).re) ((Yz line (IntKind.i64.wrap (IntKind.i64.wrap (k - beg)+(1:Int)))).im))]]))),(6,AV.p (PV.v (Value.int IntKind.i64 (IntKind.i64.wrap (k+(1:Int)))))),(8,AV.p (PV.v (Value.int IntKind.i64 (IntKind.i64.wrap (line+(1:Int)))))),(9,AV.p (PV.v (Value.int IntKind.i64 (IntKind.i64.wrap (k+(1:Int)))))),(10,AV.p (PV.v (Value.bool (false))))],[],[],[(Loc.t 5,92)],[]⟩))) else (bif k==↑s.length then Q (Ex.ret) (some ⟨118,[(2,AV.p (PV.lst (List.map Tok.enc out))),(3,AV.p (PV.v (Value.complex FloatKind.f64 (0) (0)))),(4,AV.p (PV.v (Value.int IntKind.i64 ((0:Int)))))],[],[],[],[]⟩) else Q (Ex.goto (0:Nat)) (some ⟨118,[(0,AV.p (PV.str (s))),(5,AV.p (PV.lst (List.map Tok.enc out))),(6,AV.p (PV.v (Value.int IntKind.i64 (IntKind.i64.wrap (k+(1:Int)))))),(8,AV.p (PV.v (Value.int IntKind.i64 (IntKind.i64.wrap (line+(1:Int)))))),(9,AV.p (PV.v (Value.int IntKind.i64 (IntKind.i64.wrap (k+(1:Int)))))),(10,AV.p (PV.v (Value.bool (false))))],[],[],[(Loc.t 5,92)],[]⟩))) else (bif ((s.getD k.toNat (0:UInt8)).toNat:Int)==(32:Int) then Q (Ex.goto (0:Nat)) (some ⟨118,[(0,AV.p (PV.str (s))),(5,AV.p (PV.lst (List.map Tok.enc out))),(6,AV.p (PV.v (Value.int IntKind.i64 (IntKind.i64.wrap (k+(1:Int)))))),(8,AV.p (PV.v (Value.int IntKind.i64 (line)))),(9,AV.p (PV.v (Value.int IntKind.i64 (beg)))),(10,AV.p (PV.v (Value.bool (sm))))],[],[],[(Loc.t 5,92)],[]⟩) else (bif ((s.getD k.toNat (0:UInt8)).toNat:Int)==(9:Int) then Q (Ex.goto (0:Nat)) (some ⟨118,[(0,AV.p (PV.str (s))),(5,AV.p (PV.lst (List.map Tok.enc out))),(6,AV.p (PV.v (Value.int IntKind.i64 (IntKind.i64.wrap (k+(1:Int)))))),(8,AV.p (PV.v (Value.int IntKind.i64 (line)))),(9,AV.p (PV.v (Value.int IntKind.i64 (beg)))),(10,AV.p (PV.v (Value.bool (sm))))],[],[],[(Loc.t 5,92)],[]⟩) else (bif ((s.getD k.toNat (0:UInt8)).toNat:Int)==(35:Int) then (((0:Int)≤k∧k < ↑s.length∧s.length≤(4000:Nat))∧Q (Ex.goto (0:Nat)) (some ⟨118,[(0,AV.p (PV.str (s))),(5,AV.p (PV.lst (List.map Tok.enc out))),(6,AV.p (PV.v (Value.int IntKind.i64 (Zl XA s (k+(1:Int)))))),(8,AV.p (PV.v (Value.int IntKind.i64 (line)))),(9,AV.p (PV.v (Value.int IntKind.i64 (beg)))),(10,AV.p (PV.v (Value.bool (sm))))],[],[],[(Loc.t 5,92)],[]⟩)) else (bif Y3 ↑(s.getD k.toNat (0:UInt8)).toNat then (((0:Int)≤k∧k < ↑s.length∧s.length≤(4000:Nat))∧(bif decide (IntKind.i64.wrap (Zl Z5 s (k+(1:Int)) - k) > (20:Int)) then Q (Ex.ret) (some ⟨118,[(2,AV.p (.nil)),(3,AV.p (PV.v (Value.complex FloatKind.f64 ((Yz line (IntKind.i64.wrap (IntKind.i64.wrap (k - beg)+(1:Int)))).re) ((Yz line (IntKind.i64.wrap (IntKind.i64.wrap (k - beg)+(1:Int)))).im)))),(4,AV.p (PV.v (Value.int IntKind.i64 ((3:Int)))))],[],[],[],[]⟩) else (((0:Int)≤k∧k≤Zl Z5 s (k+(1:Int))∧Zl Z5 s (k+(1:Int))≤↑s.length)∧(((0:Nat) < (1:Nat)∧((List.map Tok.enc out).length+(1:Nat))* (40:Nat)≤(140737488355328:Nat)∧Lens (3:Nat) (List.map Tok.enc out++[[PV.v (Value.int IntKind.i64 (1:Int)),PV.str (List.take ((Zl Z5 s (k+(1:Int))).toNat - k.toNat) (List.drop k.toNat s)),PV.v (Value.complex FloatKind.f64 (Yz line (IntKind.i64.wrap (IntKind.i64.wrap (k - beg)+(1:Int)))).re (Yz line (IntKind.i64.wrap (IntKind.i64.wrap (k - beg)+(1:Int)))).im)]]))∧Q (Ex.goto (0:Nat)) (some ⟨118,[(0,AV.p (PV.str (s))),(5,AV.p (PV.lst (List.map Tok.enc out++[[PV.v (Value.int IntKind.i64 ((1:Int))),PV.str (List.take ((Zl Z5 s (k+(1:Int))).toNat - k.toNat) (List.drop k.toNat s)),PV.v (Value.complex FloatKind.f64 ((Yz line (IntKind.i64.wrap (IntKind.i64.wrap (k - beg)+(1:Int)))).re) ((Yz line (IntKind.i64.wrap (IntKind.i64.wrap (k - beg)+(1:Int)))).im))]]))),(6,AV.p (PV.v (Value.int IntKind.i64 (Zl Z5 s (k+(1:Int)))))),(8,AV.p (PV.v (Value.int IntKind.i64 (line)))),(9,AV.p (PV.v (Value.int IntKind.i64 (beg)))),(10,AV.p (PV.v (Value.bool (true))))],[],[],[(Loc.t 5,92)],[]⟩))))) else (bif Xb ↑(s.getD k.toNat (0:UInt8)).toNat then (((0:Int)≤k∧k < ↑s.length∧s.length≤(4000:Nat))∧(((0:Int)≤k∧k≤Zl Zu s (k+(1:Int))∧Zl Zu s (k+(1:Int))≤↑s.length)∧(((List.take ((Zl Zu s (k+(1:Int))).toNat - k.toNat) (List.drop k.toNat s)).length≤(4000:Nat))∧(bif !(XY (List.take ((Zl Zu s (k+(1:Int))).toNat - k.toNat) (List.drop k.toNat s))).snd then Q (Ex.ret) (some ⟨118,[(2,AV.p (.nil)),(3,AV.p (PV.v (Value.complex FloatKind.f64 ((Yz line (IntKind.i64.wrap (IntKind.i64.wrap (k - beg)+(1:Int)))).re) ((Yz line (IntKind.i64.wrap (IntKind.i64.wrap (k - beg)+(1:Int)))).im)))),(4,AV.p (PV.v (Value.int IntKind.i64 ((2:Int)))))],[],[],[],[]⟩) else (((0:Int)≤k∧k≤Zl Zu s (k+(1:Int))∧Zl Zu s (k+(1:Int))≤↑s.length)∧(((0:Nat) < (1:Nat)∧((List.map Tok.enc out).length+(1:Nat))* (40:Nat)≤(140737488355328:Nat)∧Lens (3:Nat) (List.map Tok.enc out++[[PV.v (Value.int IntKind.i64 (2:Int)),PV.str (List.take ((Zl Zu s (k+(1:Int))).toNat - k.toNat) (List.drop k.toNat s)),PV.v (Value.complex FloatKind.f64 (Yz line (IntKind.i64.wrap (IntKind.i64.wrap (k - beg)+(1:Int)))).re (Yz line (IntKind.i64.wrap (IntKind.i64.wrap (k - beg)+(1:Int)))).im)]]))∧Q (Ex.goto (0:Nat)) (some ⟨118,[(0,AV.p (PV.str (s))),(5,AV.p (PV.lst (List.map Tok.enc out++[[PV.v (Value.int IntKind.i64 ((2:Int))),PV.str (List.take ((Zl Zu s (k+(1:Int))).toNat - k.toNat) (List.drop k.toNat s)),PV.v (Value.complex FloatKind.f64 ((Yz line (IntKind.i64.wrap (IntKind.i64.wrap (k - beg)+(1:Int)))).re) ((Yz line (IntKind.i64.wrap (IntKind.i64.wrap (k - beg)+(1:Int)))).im))]]))),(6,AV.p (PV.v (Value.int IntKind.i64 (Zl Zu s (k+(1:Int)))))),(8,AV.p (PV.v (Value.int IntKind.i64 (line)))),(9,AV.p (PV.v (Value.int IntKind.i64 (beg)))),(10,AV.p (PV.v (Value.bool (true))))],[],[],[(Loc.t 5,92)],[]⟩))))))) else (bif ((s.getD k.toNat (0:UInt8)).toNat:Int)==(45:Int) then (((0:Int)≤k∧k < ↑s.length∧s.length≤(4000:Nat))∧(((0:Int)≤k∧k≤Zl Zu s (k+(1:Int))∧Zl Zu s (k+(1:Int))≤↑s.length)∧(((List.take ((Zl Zu s (k+(1:Int))).toNat - k.toNat) (List.drop k.toNat s)).length≤(4000:Nat))∧(bif !(XY (List.take ((Zl Zu s (k+(1:Int))).toNat - k.toNat) (List.drop k.toNat s))).snd then Q (Ex.ret) (some ⟨118,[(2,AV.p (.nil)),(3,AV.p (PV.v (Value.complex FloatKind.f64 ((Yz line (IntKind.i64.wrap (IntKind.i64.wrap (k - beg)+(1:Int)))).re) ((Yz line (IntKind.i64.wrap (IntKind.i64.wrap (k - beg)+(1:Int)))).im)))),(4,AV.p (PV.v (Value.int IntKind.i64 ((2:Int)))))],[],[],[],[]⟩) else (((0:Int)≤k∧k≤Zl Zu s (k+(1:Int))∧Zl Zu s (k+(1:Int))≤↑s.length)∧(((0:Nat) < (1:Nat)∧((List.map Tok.enc out).length+(1:Nat))* (40:Nat)≤(140737488355328:Nat)∧Lens (3:Nat) (List.map Tok.enc out++[[PV.v (Value.int IntKind.i64 (2:Int)),PV.str (List.take ((Zl Zu s (k+(1:Int))).toNat - k.toNat) (List.drop k.toNat s)),PV.v (Value.complex FloatKind.f64 (Yz line (IntKind.i64.wrap (IntKind.i64.wrap (k - beg)+(1:Int)))).re (Yz line (IntKind.i64.wrap (IntKind.i64.wrap (k - beg)+(1:Int)))).im)]]))∧Q (Ex.goto (0:Nat)) (some ⟨118,[(0,AV.p (PV.str (s))),(5,AV.p (PV.lst (List.map Tok.enc out++[[PV.v (Value.int IntKind.i64 ((2:Int))),PV.str (List.take ((Zl Zu s (k+(1:Int))).toNat - k.toNat) (List.drop k.toNat s)),PV.v (Value.complex FloatKind.f64 ((Yz line (IntKind.i64.wrap (IntKind.i64.wrap (k - beg)+(1:Int)))).re) ((Yz line (IntKind.i64.wrap (IntKind.i64.wrap (k - beg)+(1:Int)))).im))]]))),(6,AV.p (PV.v (Value.int IntKind.i64 (Zl Zu s (k+(1:Int)))))),(8,AV.p (PV.v (Value.int IntKind.i64 (line)))),(9,AV.p (PV.v (Value.int IntKind.i64 (beg)))),(10,AV.p (PV.v (Value.bool (true))))],[],[],[(Loc.t 5,92)],[]⟩))))))) else Q (Ex.ret) (some ⟨118,[(2,AV.p (.nil)),(3,AV.p (PV.v (Value.complex FloatKind.f64 ((Yz line (IntKind.i64.wrap (IntKind.i64.wrap (k - beg)+(1:Int)))).re) ((Yz line (IntKind.i64.wrap (IntKind.i64.wrap (k - beg)+(1:Int)))).im)))),(4,AV.p (PV.v (Value.int IntKind.i64 ((2:Int)))))],[],[],[],[]⟩)))))))))):=by kernel_rfl
theorem Z0f(s:List UInt8)(Q:Ex→Option St→Prop):Zy1 evEnv Znu Zg2 Zg3 noG [] 2000 Tryz.f48 Zy3 ZfE 0 ZpT Zky [.str s] Q=(bif decide (↑s.length > (4000:Int)) then Q (Ex.ret) (some ⟨118,[(2,AV.p (.nil)),(3,AV.p (PV.v (Value.complex FloatKind.f64 (0) (0)))),(4,AV.p (PV.v (Value.int IntKind.i64 ((3:Int)))))],[],[],[],[]⟩) else (bif (0:Int)==↑s.length then (bif (0:Int)==↑s.length then Q (Ex.ret) (some ⟨118,[(2,AV.p (.nil)),(3,AV.p (PV.v (Value.complex FloatKind.f64 (0) (0)))),(4,AV.p (PV.v (Value.int IntKind.i64 ((0:Int)))))],[],[],[],[]⟩) else Q (Ex.goto (0:Nat)) (some ⟨118,[(0,AV.p (PV.str (s))),(5,AV.p (PV.lst ([]))),(6,AV.p (PV.v (Value.int IntKind.i64 ((1:Int))))),(8,AV.p (PV.v (Value.int IntKind.i64 ((2:Int))))),(9,AV.p (PV.v (Value.int IntKind.i64 ((1:Int))))),(10,AV.p (PV.v (Value.bool (false))))],[],[],[(Loc.t 5,92)],[]⟩)) else (((0:Int)≤(0:Int)∧(0:Int) < ↑s.length)∧(bif ((s.getD (0:Nat) (0:UInt8)).toNat:Int)==(10:Int) then (bif (0:Int)==↑s.length then Q (Ex.ret) (some ⟨118,[(2,AV.p (.nil)),(3,AV.p (PV.v (Value.complex FloatKind.f64 (0) (0)))),(4,AV.p (PV.v (Value.int IntKind.i64 ((0:Int)))))],[],[],[],[]⟩) else Q (Ex.goto (0:Nat)) (some ⟨118,[(0,AV.p (PV.str (s))),(5,AV.p (PV.lst ([]))),(6,AV.p (PV.v (Value.int IntKind.i64 ((1:Int))))),(8,AV.p (PV.v (Value.int IntKind.i64 ((2:Int))))),(9,AV.p (PV.v (Value.int IntKind.i64 ((1:Int))))),(10,AV.p (PV.v (Value.bool (false))))],[],[],[(Loc.t 5,92)],[]⟩)) else (bif ((s.getD (0:Nat) (0:UInt8)).toNat:Int)==(32:Int) then Q (Ex.goto (0:Nat)) (some ⟨118,[(0,AV.p (PV.str (s))),(5,AV.p (PV.lst ([]))),(6,AV.p (PV.v (Value.int IntKind.i64 ((1:Int))))),(8,AV.p (PV.v (Value.int IntKind.i64 ((1:Int))))),(9,AV.p (PV.v (Value.int IntKind.i64 ((0:Int))))),(10,AV.p (PV.v (Value.bool (false))))],[],[],[(Loc.t 5,92)],[]⟩) else (bif ((s.getD (0:Nat) (0:UInt8)).toNat:Int)==(9:Int) then Q (Ex.goto (0:Nat)) (some ⟨118,[(0,AV.p (PV.str (s))),(5,AV.p (PV.lst ([]))),(6,AV.p (PV.v (Value.int IntKind.i64 ((1:Int))))),(8,AV.p (PV.v (Value.int IntKind.i64 ((1:Int))))),(9,AV.p (PV.v (Value.int IntKind.i64 ((0:Int))))),(10,AV.p (PV.v (Value.bool (false))))],[],[],[(Loc.t 5,92)],[]⟩) else (bif ((s.getD (0:Nat) (0:UInt8)).toNat:Int)==(35:Int) then (((0:Int)≤(0:Int)∧(0:Int) < ↑s.length∧s.length≤(4000:Nat))∧Q (Ex.goto (0:Nat)) (some ⟨118,[(0,AV.p (PV.str (s))),(5,AV.p (PV.lst ([]))),(6,AV.p (PV.v (Value.int IntKind.i64 (Zl XA s (1:Int))))),(8,AV.p (PV.v (Value.int IntKind.i64 ((1:Int))))),(9,AV.p (PV.v (Value.int IntKind.i64 ((0:Int))))),(10,AV.p (PV.v (Value.bool (false))))],[],[],[(Loc.t 5,92)],[]⟩)) else (bif Y3 ↑(s.getD (0:Nat) (0:UInt8)).toNat then (((0:Int)≤(0:Int)∧(0:Int) < ↑s.length∧s.length≤(4000:Nat))∧(bif decide (IntKind.i64.wrap (Zl Z5 s (1:Int) - (0:Int)) > (20:Int)) then Q (Ex.ret) (some ⟨118,[(2,AV.p (.nil)),(3,AV.p (PV.v (Value.complex FloatKind.f64 (4607182418800017408) (4607182418800017408)))),(4,AV.p (PV.v (Value.int IntKind.i64 ((3:Int)))))],[],[],[],[]⟩) else (((0:Int)≤(0:Int)∧(0:Int)≤Zl Z5 s (1:Int)∧Zl Z5 s (1:Int)≤↑s.length)∧(((0:Nat) < (1:Nat)∧((0:Nat)+(1:Nat))* (40:Nat)≤(140737488355328:Nat)∧Lens (3:Nat) [[PV.v (Value.int IntKind.i64 (1:Int)),PV.str (List.take ((Zl Z5 s (1:Int)).toNat - (0:Nat)) (List.drop (0:Nat) s)),PV.v (Value.complex FloatKind.f64 (4607182418800017408:Nat) (4607182418800017408:Nat))]])∧Q (Ex.goto (0:Nat)) (some ⟨118,[(0,AV.p (PV.str (s))),(5,AV.p (PV.lst ([[PV.v (Value.int IntKind.i64 ((1:Int))),PV.str (List.take ((Zl Z5 s (1:Int)).toNat - (0:Nat)) (List.drop (0:Nat) s)),PV.v (Value.complex FloatKind.f64 (4607182418800017408) (4607182418800017408))]]))),(6,AV.p (PV.v (Value.int IntKind.i64 (Zl Z5 s (1:Int))))),(8,AV.p (PV.v (Value.int IntKind.i64 ((1:Int))))),(9,AV.p (PV.v (Value.int IntKind.i64 ((0:Int))))),(10,AV.p (PV.v (Value.bool (true))))],[],[],[(Loc.t 5,92)],[]⟩))))) else (bif Xb ↑(s.getD (0:Nat) (0:UInt8)).toNat then (((0:Int)≤(0:Int)∧(0:Int) < ↑s.length∧s.length≤(4000:Nat))∧(((0:Int)≤(0:Int)∧(0:Int)≤Zl Zu s (1:Int)∧Zl Zu s (1:Int)≤↑s.length)∧(((List.take ((Zl Zu s (1:Int)).toNat - (0:Nat)) (List.drop (0:Nat) s)).length≤(4000:Nat))∧(bif !(XY (List.take ((Zl Zu s (1:Int)).toNat - (0:Nat)) (List.drop (0:Nat) s))).snd then Q (Ex.ret) (some ⟨118,[(2,AV.p (.nil)),(3,AV.p (PV.v (Value.complex FloatKind.f64 (4607182418800017408) (4607182418800017408)))),(4,AV.p (PV.v (Value.int IntKind.i64 ((2:Int)))))],[],[],[],[]⟩) else (((0:Int)≤(0:Int)∧(0:Int)≤Zl Zu s (1:Int)∧Zl Zu s (1:Int)≤↑s.length)∧(((0:Nat) < (1:Nat)∧((0:Nat)+(1:Nat))* (40:Nat)≤(140737488355328:Nat)∧Lens (3:Nat) [[PV.v (Value.int IntKind.i64 (2:Int)),PV.str (List.take ((Zl Zu s (1:Int)).toNat - (0:Nat)) (List.drop (0:Nat) s)),PV.v (Value.complex FloatKind.f64 (4607182418800017408:Nat) (4607182418800017408:Nat))]])∧Q (Ex.goto (0:Nat)) (some ⟨118,[(0,AV.p (PV.str (s))),(5,AV.p (PV.lst ([[PV.v (Value.int IntKind.i64 ((2:Int))),PV.str (List.take ((Zl Zu s (1:Int)).toNat - (0:Nat)) (List.drop (0:Nat) s)),PV.v (Value.complex FloatKind.f64 (4607182418800017408) (4607182418800017408))]]))),(6,AV.p (PV.v (Value.int IntKind.i64 (Zl Zu s (1:Int))))),(8,AV.p (PV.v (Value.int IntKind.i64 ((1:Int))))),(9,AV.p (PV.v (Value.int IntKind.i64 ((0:Int))))),(10,AV.p (PV.v (Value.bool (true))))],[],[],[(Loc.t 5,92)],[]⟩))))))) else (bif ((s.getD (0:Nat) (0:UInt8)).toNat:Int)==(45:Int) then (((0:Int)≤(0:Int)∧(0:Int) < ↑s.length∧s.length≤(4000:Nat))∧(((0:Int)≤(0:Int)∧(0:Int)≤Zl Zu s (1:Int)∧Zl Zu s (1:Int)≤↑s.length)∧(((List.take ((Zl Zu s (1:Int)).toNat - (0:Nat)) (List.drop (0:Nat) s)).length≤(4000:Nat))∧(bif !(XY (List.take ((Zl Zu s (1:Int)).toNat - (0:Nat)) (List.drop (0:Nat) s))).snd then Q (Ex.ret) (some ⟨118,[(2,AV.p (.nil)),(3,AV.p (PV.v (Value.complex FloatKind.f64 (4607182418800017408) (4607182418800017408)))),(4,AV.p (PV.v (Value.int IntKind.i64 ((2:Int)))))],[],[],[],[]⟩) else (((0:Int)≤(0:Int)∧(0:Int)≤Zl Zu s (1:Int)∧Zl Zu s (1:Int)≤↑s.length)∧(((0:Nat) < (1:Nat)∧((0:Nat)+(1:Nat))* (40:Nat)≤(140737488355328:Nat)∧Lens (3:Nat) [[PV.v (Value.int IntKind.i64 (2:Int)),PV.str (List.take ((Zl Zu s (1:Int)).toNat - (0:Nat)) (List.drop (0:Nat) s)),PV.v (Value.complex FloatKind.f64 (4607182418800017408:Nat) (4607182418800017408:Nat))]])∧Q (Ex.goto (0:Nat)) (some ⟨118,[(0,AV.p (PV.str (s))),(5,AV.p (PV.lst ([[PV.v (Value.int IntKind.i64 ((2:Int))),PV.str (List.take ((Zl Zu s (1:Int)).toNat - (0:Nat)) (List.drop (0:Nat) s)),PV.v (Value.complex FloatKind.f64 (4607182418800017408) (4607182418800017408))]]))),(6,AV.p (PV.v (Value.int IntKind.i64 (Zl Zu s (1:Int))))),(8,AV.p (PV.v (Value.int IntKind.i64 ((1:Int))))),(9,AV.p (PV.v (Value.int IntKind.i64 ((0:Int))))),(10,AV.p (PV.v (Value.bool (true))))],[],[],[(Loc.t 5,92)],[]⟩))))))) else Q (Ex.ret) (some ⟨118,[(2,AV.p (.nil)),(3,AV.p (PV.v (Value.complex FloatKind.f64 (4607182418800017408) (4607182418800017408)))),(4,AV.p (PV.v (Value.int IntKind.i64 ((2:Int)))))],[],[],[],[]⟩))))))))))):=by kernel_rfl
def ZiQ(r:List Tok×Cx×Int):PV:= .tup [.lst (r.1.map Tok.enc),.v (.complex .f64 r.2.1.re r.2.1.im),.v (.int .i64 r.2.2)]
def Z3s(s:List UInt8)(f:Nat)(k line beg:Int)(out:List Tok):Prop:=(0≤k∧k≤s.length∧(s.length:Int)≤4000)∧(s.length:Int) - k < f∧(0≤line∧line≤k+1)∧(0≤beg∧beg≤k)∧(out.length:Int)≤k
abbrev Zur:=Nat×Int×Int×Int×Bool×List Tok
def WM(s:List UInt8)(x:Zur)(τ:St):Prop:=ZbD evEnv Tryz.f48.results.toList (Qn (ZiQ (Wg s x.1 x.2.1 x.2.2.1 x.2.2.2.1 x.2.2.2.2.1 x.2.2.2.2.2))) .ret τ
def ZcM(s:List UInt8)(x:Zur):St:=Zl7 s x.2.1 x.2.2.1 x.2.2.2.1 x.2.2.2.2.1 x.2.2.2.2.2
def Zkz(s:List UInt8)(x:Zur):Prop:=Z3s s x.1 x.2.1 x.2.2.1 x.2.2.2.1 x.2.2.2.2.2
theorem ZrV(out:List Tok)(t:Tok)(h:(out.length:Int)≤4000):(0:Nat) < 1∧((out.map Tok.enc).length+1)*40≤140737488355328∧Lens 3 (out.map Tok.enc++[Tok.enc t]):=
 ⟨by decide,by rw[Qk_];omega,Yu (Yg (e:=Tok.enc) (fun _=>rfl) _) rfl⟩
theorem ZwD:CSOk Tryz.prog Znu:=Zb Z2o<|Zb ZwA<|Zb ZpN<|Zb Z1H<|Zb Z1I<|Zh
theorem Zzl(s:List UInt8):∀b∈ZH ZfE,∀S,lk (X2 b) ([]:List (Nat×LSum))=some S→Yo Tryz.prog b S:=fun _ _ _ h=>absurd h (by simp[lk])
theorem Z1K:∀b∈ZH Zy3,∀S,lk (X2 b) ([]:List (Nat×LSum))=some S→Yo Tryz.prog b S:=fun _ _ _ h=>absurd h (by simp[lk])
theorem ZwE(s:List UInt8)(x:Zur)(hx:Zkz s x):sxL evEnv Znu Zg2 Zg3 noG [] 2000 ZfE 0 ZpR ZpT Zky (ZcM s x) fun e o=>
 (e= .goto 0∧∃y,o=some (ZcM s y)∧Zkz s y∧y.1 < x.1∧∀τ,WM s y τ→WM s x τ)∨(e= .ret∧∃τ,o=some τ∧WM s x τ):=by
 obtain ⟨f,k,line,beg,sm,out⟩:=x
 obtain ⟨⟨a1,a2,a3⟩,a4,⟨a5,a6⟩,⟨a7,a8⟩,a9⟩:=hx
 simp only at a1 a2 a3 a4 a5 a6 a7 a8 a9
 obtain ⟨f,rfl⟩:∃g,f=g+1:=⟨f - 1,by omega⟩
 refine Eq.mpr (Z1J s k line beg sm out _) ?_
 have w1:IntKind.i64.wrap (IntKind.i64.wrap (k - beg)+1)=k - beg+1:=by rw[Ze (show Fit (k - beg) by constructor<;>omega),Ze (by constructor<;>omega)]
 have w2:IntKind.i64.wrap (k+1)=k+1:=Ze (by constructor<;>omega)
 have w3:IntKind.i64.wrap (line+1)=line+1:=Ze (by constructor<;>omega)
 have eg:=ZcE s f k line beg sm out
 have hb:Xc s k=((s.getD k.toNat 0).toNat:Int):=rfl
 rw[hb] at eg
 have ha:∀t:Tok,(0:Nat) < 1∧((out.map Tok.enc).length+1)*40≤140737488355328∧Lens 3 (out.map Tok.enc++[Tok.enc t]):=fun t=>ZrV out t (by omega)
 have fin:∀{k' line' beg':Int} {sm':Bool} {out':List Tok},Wg s (f+1) k line beg sm out=Wg s f k' line' beg' sm' out'→∀τ,WM s (f,k',line',beg',sm',out') τ→WM s (f+1,k,line,beg,sm,out) τ:=fun e τ h=>by
  unfold WM at h ⊢
  simp only at h ⊢
  rw[e];exact h
 have bw:=fun h:k < (s.length:Int)=>Zbz Z5 (s:=s) (k:=k+1) (by omega) (by omega)
 have bn:=fun h:k < (s.length:Int)=>Zbz Zu (s:=s) (k:=k+1) (by omega) (by omega)
 have br:=fun h:k < (s.length:Int)=>Zbz XA (s:=s) (k:=k+1) (by omega) (by omega)
 simp only[w1,w2,w3]
 have gx:∀{P1 P2 P3 P4 P5:Prop},P1→P2→P3→P4→P5→P1∧P2∧P3∧P4∧P5:=fun a b c d e=>⟨a,b,c,d,e⟩
 refine Za (fun h0=>Za (fun h1=>⟨?r0,Za (fun h2=>?g0) (fun h2=>?g1)⟩) (fun h1=>Za (fun h2=>?g2) (fun h2=>?g3))) (fun h0=>⟨?r1,Za (fun h1=>Za (fun h2=>⟨?r2,Za (fun h3=>?g4) (fun h3=>?g5)⟩) (fun h2=>Za (fun h3=>?g6) (fun h3=>?g7))) (fun h1=>Za (fun h2=>?g8) (fun h2=>Za (fun h3=>?g9) (fun h3=>Za (fun h4=>⟨?r3, ?g10⟩) (fun h4=>Za (fun h5=>⟨?r4,Za (fun h6=>?g11) (fun h6=>⟨?r5,⟨?r6, ?g12⟩⟩)⟩) (fun h5=>Za (fun h6=>⟨?r7,⟨?r8,⟨?r9,Za (fun h7=>?g13) (fun h7=>⟨?r10,⟨?r11, ?g14⟩⟩)⟩⟩⟩) (fun h6=>Za (fun h7=>⟨?r12,⟨?r13,⟨?r14,Za (fun h8=>?g15) (fun h8=>⟨?r15,⟨?r16, ?g16⟩⟩)⟩⟩⟩) (fun h7=>?g17)))))))⟩)
 case r0|r2=>exact ha ⟨3,[],_⟩
 case r6=>exact ha ⟨1,_,_⟩
 case r11|r16=>exact ha ⟨2,_,_⟩
 case r1=>have hk:k≠s.length:=(by simpa using h0);omega
 case r3|r4|r7|r12=>have hk:k≠s.length:=(by simpa using h0);omega
 case r5=>have hk:k≠s.length:=(by simpa using h0);have:=bw (by omega);omega
 case r8|r10|r13|r15=>have hk:k≠s.length:=(by simpa using h0);have:=bn (by omega);omega
 case r9|r14=>rw[K2_,K9_];omega
 case g1|g3=>rw[h0] at h2;cases h2
 case g4=>rw[h0] at h3;cases h3
 case g6=>rw[h0] at h3;cases h3
 all_goals simp only[h0,Qb_,Qd_] at eg
 case g0|g2=>exact .inr ⟨by trivial,_,rfl,by unfold WM;simp only;rw[eg,h1];simp only[ZgG,Qb_,Qd_,X5,ZiQ,QR_,QE_,QN_];rfl⟩
 all_goals have hk:k≠s.length:=(by simpa using h0)
 all_goals simp only[h1,Qb_,Qd_] at eg
 case g5=>
  subst h2
  simp only[ZgG,Qb_] at eg
  exact .inl ⟨by trivial,(f,k+1,line+1,k+1,false,out++[⟨3,[],X5 k line beg⟩]),by simp only[ZcM,Zl7,QR_,QE_,QN_];rfl,⟨⟨by simp only;omega,by simp only;omega,a3⟩,by simp only;omega,⟨by simp only;omega,by simp only;omega⟩,⟨by simp only;omega,by simp only;omega⟩,by simp only[Qx_,Qs_,Q1_];omega⟩,Nat.lt_succ_self _,fin eg⟩
 case g7=>
  subst h2
  simp only[ZgG,Qd_] at eg
  exact .inl ⟨by trivial,(f,k+1,line+1,k+1,false,out),rfl,⟨⟨by simp only;omega,by simp only;omega,a3⟩,by simp only;omega,⟨by simp only;omega,by simp only;omega⟩,⟨by simp only;omega,by simp only;omega⟩,by simp only;omega⟩,Nat.lt_succ_self _,fin eg⟩
 all_goals simp only[h2,Q4_,Qw_,Qb_,Qd_] at eg
 case g8=>exact .inl ⟨by trivial,(f,k+1,line,beg,sm,out),rfl,⟨⟨by simp only;omega,by simp only;omega,a3⟩,by simp only;omega,⟨a5,by simp only;omega⟩,⟨a7,by simp only;omega⟩,by simp only;omega⟩,Nat.lt_succ_self _,fin eg⟩
 all_goals simp only[h3,Qb_,Qd_] at eg
 case g9=>exact .inl ⟨by trivial,(f,k+1,line,beg,sm,out),rfl,⟨⟨by simp only;omega,by simp only;omega,a3⟩,by simp only;omega,⟨a5,by simp only;omega⟩,⟨a7,by simp only;omega⟩,by simp only;omega⟩,Nat.lt_succ_self _,fin eg⟩
 all_goals simp only[h4,Qb_,Qd_] at eg
 case g10=>have:=br (by omega);exact .inl ⟨by trivial,(f,Zl XA s (k+1),line,beg,sm,out),rfl,⟨⟨by simp only;omega,by simp only;omega,a3⟩,by simp only;omega,⟨a5,by simp only;omega⟩,⟨a7,by simp only;omega⟩,by simp only;omega⟩,Nat.lt_succ_self _,fin eg⟩
 all_goals simp only[h5,Qb_,Qd_] at eg
 case g11|g12=>
  have hw:=bw (by omega)
  have hd:IntKind.i64.wrap (Zl Z5 s (k+1) - k)=Zl Z5 s (k+1) - k:=Ze (by constructor<;>omega)
  rw[hd] at h6
  simp only[h6,Qb_,Qd_] at eg
  first
   | exact .inr ⟨by trivial,_,rfl,by unfold WM;simp only;rw[eg];rfl⟩
   | exact .inl ⟨by trivial,(f,Zl Z5 s (k+1),line,beg,true,out++[⟨1,Ji s k (Zl Z5 s (k+1)),X5 k line beg⟩]),by simp only[ZcM,Zl7,QR_,QE_,QN_];rfl,⟨⟨by simp only;omega,by simp only;omega,a3⟩,by simp only;omega,⟨a5,by simp only;omega⟩,⟨a7,by simp only;omega⟩,by simp only[Qx_,Qs_,Q1_];omega⟩,Nat.lt_succ_self _,fin eg⟩
 all_goals simp only[h6,Q4_,Qw_,Qb_,Qd_] at eg
 case g13|g14=>
  have hn:=bn (by omega)
  simp only[Qi_,Qf_] at h7
  have h8:(XY (Ji s k (Zl Zu s (k+1)))).2=_:=h7
  simp only[h8,Qb_,Qd_] at eg
  first
   | exact .inr ⟨by trivial,_,rfl,by unfold WM;simp only;rw[eg];rfl⟩
   | exact .inl ⟨by trivial,(f,Zl Zu s (k+1),line,beg,true,out++[⟨2,Ji s k (Zl Zu s (k+1)),X5 k line beg⟩]),by simp only[ZcM,Zl7,QR_,QE_,QN_];rfl,⟨⟨by simp only;omega,by simp only;omega,a3⟩,by simp only;omega,⟨a5,by simp only;omega⟩,⟨a7,by simp only;omega⟩,by simp only[Qx_,Qs_,Q1_];omega⟩,Nat.lt_succ_self _,fin eg⟩
 all_goals simp only[h7,Qb_,Qd_] at eg
 case g15|g16=>
  have hn:=bn (by omega)
  simp only[Qi_,Qf_] at h8
  have h9:(XY (Ji s k (Zl Zu s (k+1)))).2=_:=h8
  simp only[h9,Qb_,Qd_] at eg
  first
   | exact .inr ⟨by trivial,_,rfl,by unfold WM;simp only;rw[eg];rfl⟩
   | exact .inl ⟨by trivial,(f,Zl Zu s (k+1),line,beg,true,out++[⟨2,Ji s k (Zl Zu s (k+1)),X5 k line beg⟩]),by simp only[ZcM,Zl7,QR_,QE_,QN_];rfl,⟨⟨by simp only;omega,by simp only;omega,a3⟩,by simp only;omega,⟨a5,by simp only;omega⟩,⟨a7,by simp only;omega⟩,by simp only[Qx_,Qs_,Q1_];omega⟩,Nat.lt_succ_self _,fin eg⟩
 case g17=>exact .inr ⟨by trivial,_,rfl,by unfold WM;simp only;rw[eg];rfl⟩
theorem Z0g(s:List UInt8):∀x,Zkz s x→∃σ',WM s x σ'∧∃m,Wa Tryz.prog ZfE m ZpR (ZcM s x) .ret σ':=
 ZwC Zo ZwD ZJ ZK ZQ (Zzl s) ZpS (n:=2000) (ZcM s) (Zkz s) (WM s) (fun x=>x.1) ZpT Zky (ZwE s)
theorem Z2r:X5 0 1 0=⟨4607182418800017408,4607182418800017408⟩:=by kernel_rfl
theorem Zus(s:List UInt8):Con Tryz.prog 48 [.str s] (ZiQ (tokens s)):=by
 obtain ⟨r,hr,hc⟩:=Zy2 Zo ZwD ZJ ZK ZQ (f:=48) (fn:=Tryz.f48) rfl Zy4 ZpS Z1K (Zzl s) (n:=2000) (args:=[.str s]) (by kernel_rfl) (k:=ZpT) (kr:=Zky) (R:=Qn (ZiQ (tokens s))) (by
  refine Eq.mpr (Z0f s _) ?_
  have eg0:(s.length:Int)≤4000→tokens s=Wg s (s.length+1) 0 1 0 false []:=fun h=>by
   unfold tokens
   rw[QQ_ (by omega)];rfl
  have eg:=ZcE s s.length 0 1 0 false []
  have hb:Xc s 0=((s.getD 0 0).toNat:Int):=rfl
  have go:(s.length:Int)≤4000→∀y,Wg s (s.length+1) 0 1 0 false []=Wg s y.1 y.2.1 y.2.2.1 y.2.2.2.1 y.2.2.2.2.1 y.2.2.2.2.2→Zkz s y→
   ∃τ,some (ZcM s y)=some τ∧∃σ',ZbD evEnv Tryz.f48.results.toList (Qn (ZiQ (tokens s))) .ret σ'∧∃m,Wa Tryz.prog ZfE m ZpR τ .ret σ':=fun hl y e hy=>by
   obtain ⟨σ',h1,m,h2⟩:=Z0g s y hy
   refine ⟨_,rfl,σ', ?_,m,h2⟩
   rw[eg0 hl,e];exact h1
  have rt:∀{τ:St} {t:List Tok×Cx×Int},tokens s=t→ZbD evEnv Tryz.f48.results.toList (Qn (ZiQ t)) .ret τ→∃τ',some τ=some τ'∧ZbD evEnv Tryz.f48.results.toList (Qn (ZiQ (tokens s))) .ret τ':=fun e h=>⟨_,rfl,by rw[e];exact h⟩
  rw[hb,Z2r] at eg
  simp only[show (0:Int)+1=1 from rfl,show (1:Int)+1=2 from rfl] at eg
  have bw:=fun h:0 < s.length=>Zbz Z5 (s:=s) (k:=1) (by omega) (by omega)
  have bn:=fun h:0 < s.length=>Zbz Zu (s:=s) (k:=1) (by omega) (by omega)
  have br:=fun h:0 < s.length=>Zbz XA (s:=s) (k:=1) (by omega) (by omega)
  refine Za (fun h0=>?g0) (fun h0=>Za (fun h1=>Za (fun h2=>?g1) (fun h2=>?g2)) (fun h1=>⟨?r0,Za (fun h2=>Za (fun h3=>?g3) (fun h3=>?g4)) (fun h2=>Za (fun h3=>?g5) (fun h3=>Za (fun h4=>?g6) (fun h4=>Za (fun h5=>⟨?r1, ?g7⟩) (fun h5=>Za (fun h6=>⟨?r2,Za (fun h7=>?g8) (fun h7=>⟨?r3,⟨?r4, ?g9⟩⟩)⟩) (fun h6=>Za (fun h7=>⟨?r5,⟨?r6,⟨?r7,Za (fun h8=>?g10) (fun h8=>⟨?r8,⟨?r9, ?g11⟩⟩)⟩⟩⟩) (fun h7=>Za (fun h8=>⟨?r10,⟨?r11,⟨?r12,Za (fun h9=>?g12) (fun h9=>⟨?r13,⟨?r14, ?g13⟩⟩)⟩⟩⟩) (fun h8=>?g14)))))))⟩))
  case g0=>exact .inr ⟨by trivial,rt (t:=([],WG,3)) (by unfold tokens;rw[h0];rfl) rfl⟩
  all_goals have hl:(s.length:Int)≤4000:=(by have:=of_decide_eq_false h0;omega)
  case g1=>exact .inr ⟨by trivial,rt (t:=([],WG,0)) (by rw[eg0 hl,eg,h1];rfl) rfl⟩
  case g2=>rw[h1] at h2;cases h2
  case g3=>rw[h1] at h3;cases h3
  all_goals have hp:0 < s.length:=(by have hk:(0:Int)≠s.length:=(by simpa using h1);omega)
  case r0=>omega
  case r1|r2|r5|r10=>omega
  case r3=>have:=bw hp;omega
  case r6|r8|r11|r13=>have:=bn hp;omega
  case r4|r9|r14=>exact ZrV [] ⟨_,_,⟨_,_⟩⟩ (by decide)
  case r7|r12=>rw[K2_,K9_];omega
  all_goals simp only[h1,Qb_,Qd_] at eg
  case g4=>
   simp only[h2,ZgG,Qb_,Qd_] at eg
   exact .inl ⟨by trivial,go hl (s.length,1,2,1,false,[]) eg ⟨⟨by simp only;omega,by simp only;omega,hl⟩,by simp only;omega,⟨by simp only;omega,by simp only;omega⟩,⟨by simp only;omega,by simp only;omega⟩,by simp only[Q1_];omega⟩⟩
  all_goals simp only[h2,Qb_,Qd_] at eg
  case g5=>
   simp only[h3,Q4_,Qb_] at eg
   exact .inl ⟨by trivial,go hl (s.length,1,1,0,false,[]) eg ⟨⟨by simp only;omega,by simp only;omega,hl⟩,by simp only;omega,⟨by simp only;omega,by simp only;omega⟩,⟨by simp only;omega,by simp only;omega⟩,by simp only[Q1_];omega⟩⟩
  all_goals simp only[h3,Qw_] at eg
  case g6=>
   simp only[h4,Qb_] at eg
   exact .inl ⟨by trivial,go hl (s.length,1,1,0,false,[]) eg ⟨⟨by simp only;omega,by simp only;omega,hl⟩,by simp only;omega,⟨by simp only;omega,by simp only;omega⟩,⟨by simp only;omega,by simp only;omega⟩,by simp only[Q1_];omega⟩⟩
  all_goals simp only[h4,Qd_] at eg
  case g7=>
   simp only[h5,Qb_] at eg
   have:=br hp
   exact .inl ⟨by trivial,go hl (s.length,Zl XA s 1,1,0,false,[]) eg ⟨⟨by simp only;omega,by simp only;omega,hl⟩,by simp only;omega,⟨by simp only;omega,by simp only;omega⟩,⟨by simp only;omega,by simp only;omega⟩,by simp only[Q1_];omega⟩⟩
  all_goals simp only[h5,Qd_] at eg
  case g8|g9=>
   have hw:=bw hp
   have hd:IntKind.i64.wrap (Zl Z5 s 1 - 0)=Zl Z5 s 1 - 0:=Ze (by constructor<;>omega)
   rw[hd] at h7
   simp only[h6,h7,Qb_,Qd_] at eg
   first
    | exact .inr ⟨by trivial,rt (eg0 hl |>.trans eg) rfl⟩
    | exact .inl ⟨by trivial,go hl (s.length,Zl Z5 s 1,1,0,true,[⟨1,Ji s 0 (Zl Z5 s 1),⟨4607182418800017408,4607182418800017408⟩⟩]) eg ⟨⟨by simp only;omega,by simp only;omega,hl⟩,by simp only;omega,⟨by simp only;omega,by simp only;omega⟩,⟨by simp only;omega,by simp only;omega⟩,by simp only[Qs_,Q1_];omega⟩⟩
  all_goals simp only[h6,Qd_] at eg
  case g10|g11=>
   have hw:=bn hp
   simp only[Qi_,Qf_] at h8
   have h9:(XY (Ji s 0 (Zl Zu s 1))).2=_:=h8
   simp only[h7,h9,Q4_,Qb_,Qd_] at eg
   first
    | exact .inr ⟨by trivial,rt (eg0 hl |>.trans eg) rfl⟩
    | exact .inl ⟨by trivial,go hl (s.length,Zl Zu s 1,1,0,true,[⟨2,Ji s 0 (Zl Zu s 1),⟨4607182418800017408,4607182418800017408⟩⟩]) eg ⟨⟨by simp only;omega,by simp only;omega,hl⟩,by simp only;omega,⟨by simp only;omega,by simp only;omega⟩,⟨by simp only;omega,by simp only;omega⟩,by simp only[Qs_,Q1_];omega⟩⟩
  all_goals simp only[h7,Qw_] at eg
  case g12|g13=>
   have hw:=bn hp
   simp only[Qi_,Qf_] at h9
   have h10:(XY (Ji s 0 (Zl Zu s 1))).2=_:=h9
   simp only[h8,h10,Qb_,Qd_] at eg
   first
    | exact .inr ⟨by trivial,rt (eg0 hl |>.trans eg) rfl⟩
    | exact .inl ⟨by trivial,go hl (s.length,Zl Zu s 1,1,0,true,[⟨2,Ji s 0 (Zl Zu s 1),⟨4607182418800017408,4607182418800017408⟩⟩]) eg ⟨⟨by simp only;omega,by simp only;omega,hl⟩,by simp only;omega,⟨by simp only;omega,by simp only;omega⟩,⟨by simp only;omega,by simp only;omega⟩,by simp only[Qs_,Q1_];omega⟩⟩
  all_goals simp only[h8,Qd_] at eg
  case g14=>exact .inr ⟨by trivial,rt (eg0 hl |>.trans eg) rfl⟩)
 rw[←hr]
 exact Zvv hc
theorem Z2s:Zj Tryz.prog 48 e48:=Zk<|Zi fun s=>EZ0<|Zus s
end Go.Men
namespace Go.Men
open Go.Ev Go.Proofs Go.Proofs.YtgfgjabeooohhaaGreatDoor
theorem ZpU:Zj Tryz.prog 108 Z3k:=Zk<|Zi fun a=>Zi fun b=>EZ0<|by
 refine cf0 (Zb Zpr<|Zb Zwx<|Zh) (fn:=Tryz.f108) rfl ?_
 refine sxT (fun Q=>(bif ZA a then (bif ZA b then (((0:Int)≤IntKind.i64.wrap ((6:Int) - a.scale)∧IntKind.i64.wrap ((6:Int) - a.scale)≤(18:Int))∧(((0:Int)≤IntKind.i64.wrap ((6:Int) - b.scale)∧IntKind.i64.wrap ((6:Int) - b.scale)≤(18:Int))∧Q (vB (decide (IntKind.i64.wrap (a.c *Z2 (IntKind.i64.wrap ((6:Int) - a.scale))) < IntKind.i64.wrap (b.c *Z2 (IntKind.i64.wrap ((6:Int) - b.scale)))))))) else Q (vB false)) else Q (vB false))) (fun _=>by kernel_rfl) ?_
 delta Qn vB
 refine Za (fun h0=>Za (fun h1=>⟨?r1,⟨?r0, ?_⟩⟩) (fun h1=>?_)) (fun h0=>?_)
 case r0|r1=>have h0:=J1 h0;have h1:=J1 h1;rw[h0.1] at *;rw[h1.1] at *;first | exact h0.2.1 | exact h1.2.1 | omega
 ·have f0:=J1 h0;have f1:=J1 h1
  rw[f0.1,f1.1,f0.2.2,f1.2.2]
  simp only[Ya,h0,h1,Qp_];rfl
 ·simp only[Ya,h0,h1,Qp_,Ql_];rfl
 ·simp only[Ya,h0,Ql_];rfl
def ZhO(d:Dec):=[IntKind.i64.wrap ((0:Int) - d.c)]
def ZhP(d:Dec):=[IntKind.i64.wrap (IntKind.i64.wrap (d.scale+(1:Int)) - ↑(digits (List.foldl imax d.c (ZhO d))).length)]
def Wh(d:Dec):=Zlo [(48:UInt8)] (List.foldl imax (0:Int) (ZhP d))++digits (List.foldl imax d.c (ZhO d))
def Jo(d:Dec):=IntKind.i64.wrap (↑(Wh d).length - d.scale)
def Zut(d:Dec):=(0:Int)≤IntKind.i64.wrap (↑(Wh d).length - d.scale)∧IntKind.i64.wrap (↑(Wh d).length - d.scale)≤↑(Wh d).length
def Zk0(d:Dec):=List.take (Jo d).toNat (Wh d)
theorem Z2t:Zj Tryz.prog 70 e70:=Zk<|Zi fun d=>EZ0<|by
 refine cf0 (Zb Zpr<|Zb Z15<|Zb Z13<|Zh) (fn:=Tryz.f70) rfl ?_
 refine sxT (fun Q=>(bif !ZA d then Q (PV.str ([])) else (((-1000000000000000000:Int)≤List.foldl imax d.c (ZhO d)∧List.foldl imax d.c (ZhO d)≤(1000000000000000000:Int))∧(((0:Int)≤List.foldl imax (0:Int) (ZhP d)∧List.foldl imax (0:Int) (ZhP d)≤(4000000000:Int)∧(1:Nat)* (List.foldl imax (0:Int) (ZhP d)).toNat≤(4000000000:Nat))∧(((Zlo [(48:UInt8)] (List.foldl imax (0:Int) (ZhP d))).length+(digits (List.foldl imax d.c (ZhO d))).length≤(9223372036854775807:Nat))∧((Zut d)∧((Zut d)∧(bif decide (↑(Zk0 d).length > (5:Int)) then Q (PV.str ([])) else (bif decide (d.c < (0:Int)) then (((1:Nat)+(Zk0 d).length≤(9223372036854775807:Nat))∧(bif !List.drop (Jo d).toNat (Wh d)==[] then ((([(45:UInt8)]++List.take (Jo d).toNat (Wh d)).length+(1:Nat)≤(9223372036854775807:Nat))∧((([(45:UInt8)]++List.take (Jo d).toNat (Wh d)++[(46:UInt8)]).length+(List.drop (Jo d).toNat (Wh d)).length≤(9223372036854775807:Nat))∧Q (PV.str ([(45:UInt8)]++List.take (Jo d).toNat (Wh d)++[(46:UInt8)]++List.drop (Jo d).toNat (Wh d))))) else Q (PV.str ([(45:UInt8)]++List.take (Jo d).toNat (Wh d))))) else (bif !List.drop (Jo d).toNat (Wh d)==[] then (((Zk0 d).length+(1:Nat)≤(9223372036854775807:Nat))∧(((List.take (Jo d).toNat (Wh d)++[(46:UInt8)]).length+(List.drop (Jo d).toNat (Wh d)).length≤(9223372036854775807:Nat))∧Q (PV.str (List.take (Jo d).toNat (Wh d)++[(46:UInt8)]++List.drop (Jo d).toNat (Wh d))))) else Q (PV.str (Zk0 d)))))))))))) (fun _=>by kernel_rfl) ?_
 delta Qn Wh Jo ZhP Zut ZhO Zk0
 refine Za (fun h0=>?_) (fun h0=>⟨?r9,⟨?r8,⟨?r7,⟨?r6,⟨?r5,Za (fun h1=>?_) (fun h1=>Za (fun h2=>⟨?r2,Za (fun h3=>⟨?r1,⟨?r0, ?_⟩⟩) (fun h3=>?_)⟩) (fun h2=>Za (fun h3=>⟨?r4,⟨?r3, ?_⟩⟩) (fun h3=>?_)))⟩⟩⟩⟩⟩)
 case r0|r1|r2|r3|r4|r5|r6|r7|r8|r9=>have hr:ZA d=true:=(by simpa using h0);obtain ⟨e1,e2,e3,e4,e5,e6⟩:=ZoS hr;have hb:=ZvL hr;simp only[e1,e2,e3,e4,e5,e6];first | omega | (have e7:(Zlo [48] (max 0 (d.scale+1 - ((digits (YA d)).length:Int)))).length=(max 0 (d.scale+1 - ((digits (YA d)).length:Int))).toNat:=ZzY _;omega) | (simp only[Qx_,Qs_,Q1_];omega) | skip
 ·have hr:ZA d=false:=(by simpa using h0)
  unfold Wb;rw[hr];rfl
 all_goals have hr:ZA d=true:=(by simpa using h0)
 all_goals obtain ⟨e1,e2,e3,e4,e5,e6⟩:=ZoS hr
 all_goals simp only[e1,e2,e3,e4,e5,e6] at *
 all_goals rw[ZqG hr]
 all_goals simp only[*,Qb_,Qd_]
 all_goals first | rfl | (simp only[QB_];rfl)
theorem Zzm:Zj Tryz.prog 71 e71:=Zk<|EZ0<|by
 refine cf0 Zh (fn:=Tryz.f71) rfl ?_
 refine sxT (fun Q=>Q (PV.agg [vI 0,vI 0])) (fun _=>by kernel_rfl) ?_
 delta Qn vI
 refine ?_
 all_goals (try simp only[Qi_,Qf_,bne] at *)
 all_goals first | rfl | (simp only[zeroDec,Zt,Zs,List.foldl,Qr_,Qp_,Ql_,Qn_,Q5_,Q4_,Qw_,Q3_,Qu_,Qt_,Qb_,Qd_,QD_,Q8_, *];done) | (simp only[zeroDec,Zt,Zs,List.foldl,Qr_,Qp_,Ql_,Qn_,Q5_,Q4_,Qw_,Q3_,Qu_,Qt_,Qb_,Qd_,QD_,Q8_, *];first | rfl | (simp only[nz,nzA,nz1,QE_,QN_,Iv.enc,V.enc,Ray.enc, *];first | done | rfl)) | (simp_all[nz,nzA,nz1,Iv.enc,V.enc,Ray.enc,Dec.enc,Shape.enc,none',told,K4_,zeroDec];done) | (simp_all[nz,nzA,nz1,Iv.enc,V.enc,Ray.enc,Dec.enc,Shape.enc,none',told,K4_,zeroDec];omega) | (simp_all[nz,nzA,nz1,Iv.enc,V.enc,Ray.enc,Dec.enc,Shape.enc,none',told,K4_,zeroDec];(repeat' split)<;>(first | rfl | (exfalso;omega) | (simp_all;done) | omega))
theorem ZwF:Zj Tryz.prog 131 Z3l:=Zk<|Zi fun d=>EZ0<|by
 refine cf0 (Zb Z2t<|Zh) (fn:=Tryz.f131) rfl ?_
 refine sxT (fun Q=>Q (vB (!Wb d==[]))) (fun _=>by kernel_rfl) ?_
 delta Qn vB
 refine ?_
 rw[←ZgA];rfl
theorem Zzn:Zj Tryz.prog 79 e79:=Zk<|Zi fun d=>EZ0<|by
 refine cf0 (Zb ZwF<|Zb Zzm<|Zb ZpU<|Zh) (fn:=Tryz.f79) rfl ?_
 refine sxT (fun Q=>(bif printable d then Q (vB (Ya zeroDec d)) else Q (vB false))) (fun _=>by kernel_rfl) ?_
 delta Qn vB
 refine Za (fun h0=>?_) (fun h0=>?_)
 all_goals (try simp only[Qi_,Qf_,bne] at *)
 all_goals first | rfl | (simp only[Jc,Zt,Zs,List.foldl,Qr_,Qp_,Ql_,Qn_,Q5_,Q4_,Qw_,Q3_,Qu_,Qt_,Qb_,Qd_,QD_,Q8_, *];done) | (simp only[Jc,Zt,Zs,List.foldl,Qr_,Qp_,Ql_,Qn_,Q5_,Q4_,Qw_,Q3_,Qu_,Qt_,Qb_,Qd_,QD_,Q8_, *];first | rfl | (simp only[nz,nzA,nz1,QE_,QN_,Iv.enc,V.enc,Ray.enc, *];first | done | rfl)) | (simp_all[nz,nzA,nz1,Iv.enc,V.enc,Ray.enc,Dec.enc,Shape.enc,none',told,K4_,Jc];done) | (simp_all[nz,nzA,nz1,Iv.enc,V.enc,Ray.enc,Dec.enc,Shape.enc,none',told,K4_,Jc];omega) | (simp_all[nz,nzA,nz1,Iv.enc,V.enc,Ray.enc,Dec.enc,Shape.enc,none',told,K4_,Jc];(repeat' split)<;>(first | rfl | (exfalso;omega) | (simp_all;done) | omega))
theorem Z1L:Zj Tryz.prog 132 Z3m:=Zk<|Zi fun d=>EZ0<|by
 refine cf0 (Zb Zzm<|Zb ZpU<|Zh) (fn:=Tryz.f132) rfl ?_
 refine sxT (fun Q=>Q (vB (Ya d zeroDec))) (fun _=>by kernel_rfl) ?_
 delta Qn vB
 refine ?_
 all_goals (try simp only[Qi_,Qf_,bne] at *)
 all_goals first | rfl | (simp only[Ya,Zt,Zs,List.foldl,Qr_,Qp_,Ql_,Qn_,Q5_,Q4_,Qw_,Q3_,Qu_,Qt_,Qb_,Qd_,QD_,Q8_, *];done) | (simp only[Ya,Zt,Zs,List.foldl,Qr_,Qp_,Ql_,Qn_,Q5_,Q4_,Qw_,Q3_,Qu_,Qt_,Qb_,Qd_,QD_,Q8_, *];first | rfl | (simp only[nz,nzA,nz1,QE_,QN_,Iv.enc,V.enc,Ray.enc, *];first | done | rfl)) | (simp_all[nz,nzA,nz1,Iv.enc,V.enc,Ray.enc,Dec.enc,Shape.enc,none',told,K4_,Ya];done) | (simp_all[nz,nzA,nz1,Iv.enc,V.enc,Ray.enc,Dec.enc,Shape.enc,none',told,K4_,Ya];omega) | (simp_all[nz,nzA,nz1,Iv.enc,V.enc,Ray.enc,Dec.enc,Shape.enc,none',told,K4_,Ya];(repeat' split)<;>(first | rfl | (exfalso;omega) | (simp_all;done) | omega))
theorem Z1M:Zj Tryz.prog 133 Z3n:=Zk<|Zi fun a=>Zi fun b=>EZ0<|by
 refine cf0 (Zb ZpU<|Zh) (fn:=Tryz.f133) rfl ?_
 refine sxT (fun Q=>(bif List.foldl imax a.c [IntKind.i64.wrap ((0:Int) - a.c)]==(0:Int) then Q (vB true) else Q (vB (!Ya (Dec.mk (List.foldl imax a.c [IntKind.i64.wrap ((0:Int) - a.c)]) a.scale) b)))) (fun _=>by kernel_rfl) ?_
 delta Qn vB
 refine Za (fun h0=>?_) (fun h0=>?_)
 all_goals simp only[List.foldl,Zs] at *
 all_goals (show PV.v (Value.bool _)=PV.v (Value.bool (((max a.c (w64 (0 - a.c)))==0)|| !Ya ⟨max a.c (w64 (0 - a.c)),a.scale⟩ b)))
 all_goals simp only[w64, *,Q4_,Qw_]
def ZhQ(s:List UInt8):=List.map Tok.enc (tokens s).fst
def Zuu(s:List UInt8):=(0:Int)≤(0:Int)∧(ZhQ s)[(0:Nat)]?=some (Yt [vI 0,PV.str [],PV.v (Value.complex FloatKind.f64 (0:Nat) (0:Nat))] ((ZhQ s).getD (0:Nat) []))
theorem Zzo:Zj Tryz.prog 78 e78:=Zk<|Zi fun s=>EZ0<|by
 refine cf0 (Zb Z2s<|Zh) (fn:=Tryz.f78) rfl ?_
 refine sxT (fun Q=>(bif (tokens s).snd.snd==(0:Int) then (bif ↑(ZhQ s).length==(2:Int) then ((Zuu s)∧(bif Zd (((ZhQ s).getD (0:Nat) []).headD PV.nil)==(1:Int) then ((Zuu s)∧Q (vB (Wf (((ZhQ s).getD (0:Nat) []).tail.headD PV.nil)==s))) else Q (vB false))) else Q (vB false)) else Q (vB false))) (fun _=>by kernel_rfl) ?_
 delta Qn Zuu ZhQ vI vB
 refine Za (fun h0=>Za (fun h1=>⟨?r1,Za (fun h2=>⟨?r0, ?_⟩) (fun h2=>?_)⟩) (fun h1=>?_)) (fun h0=>?_)
 case r0|r1=>first | rfl | (rw[Z2C];done) | (have h1':=eq_of_beq h1;rw[Qk_] at h1';exact Zp (i:=0) (fun _=>rfl) (by omega) (by omega)) | skip
 all_goals obtain ⟨q1,q2⟩:=Z0M (tokens s).1
 all_goals simp only[q1,q2,Qk_] at *
 all_goals simp only[Zcf, *,Qp_,Ql_,Qr_,Qn_]
 all_goals rfl
def WB(i:Int)(l:List Glass):=(List.map Glass.enc l).getD i.toNat []
theorem ZpV:CSOk Tryz.prog (YN []):=Zh
theorem Zuv:Yo Tryz.prog (Z6 Tryz.f119 0) Zmg:=by
 refine lsG Zo.Γ (ZD Zo ZpV ZJ ZK ZQ (LS:=[]) (Yh (l:=[]) (by kernel_rfl) Z0) (n:=2000) (U5 Zwb) (U5 ZaA) (fun x e s=>((U5 ZaB x=true∧e= .ret∧s=U5 ZgV x)∨(U5 ZaB x=false∧e= .exit 0∧s=U5 ZgU x))) (fun x=>(x.2.1.length - x.1).toNat) Zmf Ztk Ztl (fun x hx=>?_)) cv5 (fun _=>rfl) (fun _ h=>h) (fun _ _ _ _ h f=>fC h f fE fE)
 ·obtain ⟨i,l,n,m,z⟩:=x
  simp only[U5,ZaA] at hx
  refine sxT (fun Q=>(bif decide (i < m) then (((0:Int)≤i∧(List.map Glass.enc l)[i.toNat]?=some (Yt [PV.str [],vI 0,vI 0,vI 0,vI 0,vI 0,vI 0,vI 0,vI 0,vI 0,vI 0,vI 0,vI 0] (WB i l)))∧(bif Wf ((WB i l).headD PV.nil)==n then Q (Ex.ret) (some ⟨21,[(4,AV.ptr 4 0),(5,AV.p (vB true))],[(4,[PV.str (Wf ((WB i l).headD PV.nil)),vI (Zd ((WB i l).tail.headD PV.nil)),vI (Zd ((WB i l).tail.tail.headD PV.nil)),vI (Zd ((WB i l).tail.tail.tail.headD PV.nil)),vI (Zd ((WB i l).tail.tail.tail.tail.headD PV.nil)),vI (Zd ((WB i l).tail.tail.tail.tail.tail.headD PV.nil)),vI (Zd ((WB i l).tail.tail.tail.tail.tail.tail.headD PV.nil)),vI (Zd ((WB i l).tail.tail.tail.tail.tail.tail.tail.headD PV.nil)),vI (Zd ((WB i l).tail.tail.tail.tail.tail.tail.tail.tail.headD PV.nil)),vI (Zd ((WB i l).tail.tail.tail.tail.tail.tail.tail.tail.tail.headD PV.nil)),vI (Zd ((WB i l).tail.tail.tail.tail.tail.tail.tail.tail.tail.tail.headD PV.nil)),vI (Zd ((WB i l).tail.tail.tail.tail.tail.tail.tail.tail.tail.tail.tail.headD PV.nil)),vI (Zd ((WB i l).tail.tail.tail.tail.tail.tail.tail.tail.tail.tail.tail.tail.headD PV.nil))])],[],[],[]⟩) else Q (Ex.normal) (some ⟨21,[(4,AV.ptr 4 0),(10,AV.p (vI (IntKind.i64.wrap (i+(1:Int))))),(8,AV.p (PV.lst (List.map Glass.enc l))),(1,AV.p (PV.str n)),(9,pI m)],[(4,(W3 z))],[],[],[]⟩))) else Q (Ex.exit (0:Nat)) (some ⟨21,[(4,AV.ptr 4 0)],[(4,(W3 z))],[],[],[]⟩))) (fun _=>by kernel_rfl) ?_
  delta WB W3 vI vB pI
  refine Za (fun h0=>⟨?r0,Za (fun h1=> .inr ⟨by simp,_,rfl, ?_⟩) (fun h1=> .inl ⟨rfl,(IntKind.i64.wrap (i+(1:Int)),l,n,m,z),rfl, ?_, ?_, ?_⟩)⟩) (fun h0=> .inr ⟨by simp,_,rfl, ?_⟩)
  case r0=>first | rfl | (rw[Zm];done) | (obtain ⟨a1,a2,a3,a4⟩:=hx;simp only[Qk_,Qc_] at h0;exact Zp (fun _=>rfl) (by omega) (by omega))
  all_goals try dsimp only[U5]
  all_goals (obtain ⟨a1,a2,a3,a4⟩:=hx;try simp only[Qk_,Qc_,Qe_] at h0)
  all_goals first | (have hk:i < l.length:=(by omega);obtain ⟨x,t,e1,e2,e3⟩:=ZM (l:=l) a1 (by omega);simp only[ZV e3] at *;have en:ZC (l.drop i.toNat) n=bif x.name==n then (x,true) else ZC t n:=(by rw[e1];rfl)) | skip
  all_goals try rw[Ze (show Fit (i+1) by constructor<;>omega)]
  all_goals try simp only[U5,ZaA,ZaB,ZgV,ZgU]
  ·change (x.name==n)=true at h1
   exact .inl ⟨by rw[en,h1];rfl,by trivial,by rw[en,h1];rfl⟩
  ·exact ⟨by omega,by omega,a3,a4⟩
  ·omega
  ·change (x.name==n)=false at h1
   rw[en,e2,h1];exact fun e s h=>h
  ·exact .inr ⟨by rw[Q0_ (by omega)];rfl,by trivial,by trivial⟩
theorem ZwG:ZN Tryz.prog [(3,Zmg)] Tryz.f119:=ZI (l:=[Z6 Tryz.f119 0]) (by kernel_rfl) (ZR (i:=3) (by kernel_rfl) rfl Zuv (Z0))
def Zd6:=G3.mk (Dec.mk (0:Int) (0:Int)) (Dec.mk (0:Int) (0:Int)) (Dec.mk (0:Int) (0:Int))
def Zhh(l:List Glass):=Zf Glass.dec (List.map Glass.enc l)
theorem ZwH:Zj Tryz.prog 119 Z3o:=Zk<|Zi fun l=>Zi fun n=>EZ1 fun hp0=>by
 refine cfL ZpV ZwG rfl ?_
 refine sxT (fun Q=>((List.map Glass.enc l=List.map Glass.enc (Zhh l))∧(([PV.str [],vI 0,vI 0,vI 0,vI 0,vI 0,vI 0,vI 0,vI 0,vI 0,vI 0,vI 0,vI 0]=(Glass.mk [] Zd6 Zd6).enc)∧((ZaA (0:Int) (Zhh l) n (↑(List.map Glass.enc l).length) (Glass.mk [] Zd6 Zd6))∧(bif ZaB (0:Int) (Zhh l) n (↑(List.map Glass.enc l).length) (Glass.mk [] Zd6 Zd6) then Q (PV.tup [PV.agg (W3 (ZC (List.drop (0:Nat) (Zhh l)) n).fst),vB true]) else Q (PV.tup [PV.agg [PV.str ([]),vI 0,vI 0,vI 0,vI 0,vI 0,vI 0,vI 0,vI 0,vI 0,vI 0,vI 0,vI 0],vB false])))))) (fun _=>by kernel_rfl) ?_
 delta Qn Zd6 Zhh W3 vI vB
 refine ⟨?r1,⟨?r0,⟨?_,Za (fun h0=>?_) (fun h0=>?_)⟩⟩⟩
 case r0|r1=>first | rfl | (rw[Zm];done) | (obtain ⟨a1,a2,a3,a4⟩:=hx;simp only[Qk_,Qc_] at h0;exact Zp (fun _=>rfl) (by omega) (by omega))
 all_goals simp only[ZaA,ZaB,Zm,QO_,QG_] at *
 ·exact ⟨by omega,by omega,hp0,by simp⟩
 ·obtain ⟨A,hA⟩:∃A,ZC l n=A:=⟨_,rfl⟩
  rw[hA] at h0 ⊢
  obtain ⟨g,b⟩:=A
  simp only at h0
  subst h0;rfl
 ·rw[Zdm h0];rfl
theorem Z1N:Zj Tryz.prog 134 Z3p:=Zk<|Zi fun n=>Zi fun g=>EZ1 fun hp0=>by
 refine cf0 (Zb ZwH<|Zh) (fn:=Tryz.f134) rfl ?_
 refine sxT (fun Q=>((List.map Glass.enc g=List.map Glass.enc (Zf Glass.dec (List.map Glass.enc g)))∧(((Zf Glass.dec (List.map Glass.enc g)).length≤(140737488355328:Nat))∧(bif (ZC (Zf Glass.dec (List.map Glass.enc g)) n).snd then Q (vB true) else Q (vB (n==[(97:UInt8),(105:UInt8),(114:UInt8)])))))) (fun _=>by kernel_rfl) ?_
 delta Qn vB
 refine ⟨?r1,⟨?r0,Za (fun h0=>?_) (fun h0=>?_)⟩⟩
 case r0|r1=>first | rfl | (rw[Zm];done) | (simp only[Zm];omega)
 all_goals simp only[Zm] at *
 all_goals simp only[ZgI, *,Q4_,Qw_]
 all_goals rfl
theorem Z2u:Zj Tryz.prog 76 e76:=Zk<|Zi fun f=>Zi fun g=>EZ1 fun hp0=>by
 refine cf0 (Zb Zzn<|Zb ZwF<|Zb Z1L<|Zb Z1M<|Zb Zzo<|Zb Z1N<|Zh) (fn:=Tryz.f76) rfl ?_
 refine sxT (fun Q=>(bif !Jc f.aperture then Q (vB false) else (bif !printable f.thick then Q (vB false) else (bif Ya f.thick zeroDec then Q (vB false) else (bif f.stop then Q (vB (f.stop==true&&(f.radius.c==(0:Int)&&(f.radius.scale==(0:Int)&&(f.aperture.c==f.aperture.c&&(f.aperture.scale==f.aperture.scale&&(f.thick.c==f.thick.c&&(f.thick.scale==f.thick.scale&&(f.conic.c==(0:Int)&&(f.conic.scale==(0:Int)&&(f.a4.c==(0:Int)&&(f.a4.scale==(0:Int)&&(f.a6.c==(0:Int)&&(f.a6.scale==(0:Int)&&(f.glass==[]&&true))))))))))))))) else (bif printable f.radius then (bif ZjT f.radius f.aperture then (bif printable f.conic then (bif printable f.a4 then (bif printable f.a6 then (bif Zcf f.glass then ((List.map Glass.enc g=List.map Glass.enc (Zf Glass.dec (List.map Glass.enc g)))∧(((Zf Glass.dec (List.map Glass.enc g)).length≤(140737488355328:Nat))∧Q (vB (ZgI f.glass (Zf Glass.dec (List.map Glass.enc g)))))) else Q (vB false)) else Q (vB false)) else Q (vB false)) else Q (vB false)) else Q (vB false)) else Q (vB false))))))) (fun _=>by kernel_rfl) ?_
 delta Qn vB
 refine Za (fun h0=>?_) (fun h0=>Za (fun h1=>?_) (fun h1=>Za (fun h2=>?_) (fun h2=>Za (fun h3=>?_) (fun h3=>Za (fun h4=>Za (fun h5=>Za (fun h6=>Za (fun h7=>Za (fun h8=>Za (fun h9=>⟨?r1,⟨?r0, ?_⟩⟩) (fun h9=>?_)) (fun h8=>?_)) (fun h7=>?_)) (fun h6=>?_)) (fun h5=>?_)) (fun h4=>?_)))))
 case r0|r1=>first | rfl | (rw[Zm];done) | (simp only[Zm];omega) | (simp only[Face.enc];rfl)
 all_goals (try simp only[Zm,Qi_,Qf_] at *)
 all_goals simp only[Yc, *,Qp_,Ql_,Qr_,Qn_,Qu_,Qt_,Q4_,Qw_,Q5_,Q3_,Qb_,Qd_]
 all_goals first | rfl | (simp only[beq_self_eq_true,Qp_,ZsY,Yf,Bool.and_assoc,Qr_];rfl) | (simp only[ZsY,Yf,Qr_,Bool.and_assoc, *,Qp_,Ql_,Qr_,Qn_,Qu_,Qt_,Q4_,Qw_,Q5_,Q3_,Qb_,Qd_];first | done | rfl) | skip
def Znv(g:GL):=Zf Glass.dec (List.map Glass.enc g.g)
theorem Zzp:Zj Tryz.prog 75 e75:=Zk<|Zi fun f=>Zi fun g=>EZ1 fun hp0=>by
 refine cf0 (Zb Z2u<|Zh) (fn:=Tryz.f75) rfl ?_
 refine sxT (fun Q=>(((ZyY f)=f.enc)∧((List.map Glass.enc g.g=List.map Glass.enc (Znv g))∧(((Znv g).length≤(140737488355328:Nat))∧Q (vB (!Yc f (Znv g))))))) (fun _=>by kernel_rfl) ?_
 delta Qn Znv ZyY vI vB
 refine ⟨?r2,⟨?r1,⟨?r0, ?_⟩⟩⟩
 case r0|r1|r2=>first | rfl | (rw[Zm];done) | (simp only[Zm];omega) | skip
 all_goals simp only[Zm]
 all_goals rfl
theorem Zuw:Zj Tryz.prog 77 e77:=Zk<|Zi fun f=>EZ0<|by
 refine cf0 Zh (fn:=Tryz.f77) rfl ?_
 refine sxT (fun Q=>Q (vB (!f.stop))) (fun _=>by kernel_rfl) ?_
 delta Qn vB
 refine ?_
 all_goals (try simp only[Qi_,Qf_,bne] at *)
 all_goals first | rfl | (simp only[Zt,Zs,List.foldl,Qr_,Qp_,Ql_,Qn_,Q5_,Q4_,Qw_,Q3_,Qu_,Qt_,Qb_,Qd_,QD_,Q8_, *];done) | (simp only[Zt,Zs,List.foldl,Qr_,Qp_,Ql_,Qn_,Q5_,Q4_,Qw_,Q3_,Qu_,Qt_,Qb_,Qd_,QD_,Q8_, *];first | rfl | (simp only[nz,nzA,nz1,QE_,QN_,Iv.enc,V.enc,Ray.enc, *];first | done | rfl)) | (simp_all[nz,nzA,nz1,Iv.enc,V.enc,Ray.enc,Dec.enc,Shape.enc,none',told,K4_];done) | (simp_all[nz,nzA,nz1,Iv.enc,V.enc,Ray.enc,Dec.enc,Shape.enc,none',told,K4_];omega) | (simp_all[nz,nzA,nz1,Iv.enc,V.enc,Ray.enc,Dec.enc,Shape.enc,none',told,K4_];(repeat' split)<;>(first | rfl | (exfalso;omega) | (simp_all;done) | omega))
def Z1O:=YN [(75,e75)]
def Wi(i:Int)(l:List Face):=(List.map Face.enc l).getD i.toNat []
def Znw(g:GL):=Zf Glass.dec (List.map Glass.enc g.g)
theorem ZrW:CSOk Tryz.prog Z1O:=Zb Zzp<|Zh
theorem ZwI:Yo Tryz.prog (Z6 Tryz.f130 0) ZiF:=by
 refine Zax Zo.Γ (ZD Zo ZrW ZJ ZK ZQ (LS:=[]) (Yh (l:=[]) (by kernel_rfl) Z0) (n:=2000) (U4 Zpf) (U4 Zb2) (fun x e s=>((U4 J8 x=true∧e= .ret∧s=U4 Zf6 x)∨(U4 J8 x=false∧e= .exit 0∧s=U4 ZiE x))) (fun x=>(x.2.2.2 - x.1).toNat) ZiD Zwc Zwd (fun x hx=>?_)) ZiD ?_
 ·obtain ⟨i,l,g,m⟩:=x
  simp only[U4,Zb2] at hx
  refine sxT (fun Q=>(bif decide (i < m) then (((0:Int)≤i∧(List.map Face.enc l)[i.toNat]?=some (Yt [vB false,vI 0,vI 0,vI 0,vI 0,vI 0,vI 0,vI 0,vI 0,vI 0,vI 0,vI 0,vI 0,PV.str []] (Wi i l)))∧(([vB (Zv ((Wi i l).headD PV.nil)),vI (Zd ((Wi i l).tail.headD PV.nil)),vI (Zd ((Wi i l).tail.tail.headD PV.nil)),vI (Zd ((Wi i l).tail.tail.tail.headD PV.nil)),vI (Zd ((Wi i l).tail.tail.tail.tail.headD PV.nil)),vI (Zd ((Wi i l).tail.tail.tail.tail.tail.headD PV.nil)),vI (Zd ((Wi i l).tail.tail.tail.tail.tail.tail.headD PV.nil)),vI (Zd ((Wi i l).tail.tail.tail.tail.tail.tail.tail.headD PV.nil)),vI (Zd ((Wi i l).tail.tail.tail.tail.tail.tail.tail.tail.headD PV.nil)),vI (Zd ((Wi i l).tail.tail.tail.tail.tail.tail.tail.tail.tail.headD PV.nil)),vI (Zd ((Wi i l).tail.tail.tail.tail.tail.tail.tail.tail.tail.tail.headD PV.nil)),vI (Zd ((Wi i l).tail.tail.tail.tail.tail.tail.tail.tail.tail.tail.tail.headD PV.nil)),vI (Zd ((Wi i l).tail.tail.tail.tail.tail.tail.tail.tail.tail.tail.tail.tail.headD PV.nil)),PV.str (Wf ((Wi i l).tail.tail.tail.tail.tail.tail.tail.tail.tail.tail.tail.tail.tail.headD PV.nil))]=(Face.dec (Wi i l)).enc)∧((g.enc=(GL.mk (Znw g)).enc)∧(((Znw g).length≤(140737488355328:Nat))∧(bif !Yc (Face.dec (Wi i l)) (Znw g) then Q (Ex.ret) (some ⟨19,[(4,pI i)],[],[],[],[]⟩) else Q (Ex.normal) (some ⟨19,[(8,AV.p (vI (IntKind.i64.wrap (i+(1:Int))))),(0,AV.p (PV.lst (List.map Face.enc l))),(1,AV.p (PV.fn (75:FuncId) [PV.lptr [PV.lst (List.map Glass.enc g.g)] 0])),(7,pI m)],[],[],[],[]⟩)))))) else Q (Ex.exit (0:Nat)) (some ⟨19,[],[],[],[],[]⟩))) (fun _=>by kernel_rfl) ?_
  delta Wi Znw vI vB pI
  refine Za (fun h0=>⟨?r3,⟨?r2,⟨?r1,⟨?r0,Za (fun h1=> .inr ⟨by simp,_,rfl, ?_⟩) (fun h1=> .inl ⟨rfl,(IntKind.i64.wrap (i+(1:Int)),l,g,m),rfl, ?_, ?_, ?_⟩)⟩⟩⟩⟩) (fun h0=> .inr ⟨by simp,_,rfl, ?_⟩)
  case r0|r1|r2|r3=>first | rfl | (simp only[GL.enc,Zm];done) | (rw[ZdY];done) | (rw[Z4];done) | (simp only[Z4,Zm,ZdY];first | done | omega | exact hp0) | (obtain ⟨a1,a2,a3,a4,a5⟩:=hx;simp only[Zm];omega) | omega | (obtain ⟨a1,a2,a3,a4,a5⟩:=hx;simp only[Qc_] at h0;exact Zp (fun _=>rfl) (by omega) (by omega)) | (obtain ⟨a1,a2,a3,a4,a5⟩:=hx;simp only[Qc_] at h0;obtain ⟨x,r,e1,e2,e3⟩:=ZM (l:=l) a1 (by omega);rw[ZV e3];rfl) | (simp[Zf];done) | skip
  all_goals try dsimp only[U4]
  all_goals (try obtain ⟨a1,a2,a3,a4,a5⟩:=hx)
  all_goals (try simp only[Qc_,Qe_] at h0)
  ·obtain ⟨x,r,e1,e2,e3⟩:=ZM (l:=l) a1 (by omega)
   rw[ZV e3] at h1
   try rw[Zm] at h1
   refine .inl ⟨?_,rfl, ?_⟩
   ·simp only[U4,J8,e1,QU_]
    rw[show (!Yc x g.g)=true from h1];rfl
   ·simp only[U4,Zf6,e1,X3]
    rw[show (!Yc x g.g)=true from h1];rfl
  ·rw[Ze (by constructor<;>omega)];simp only[U4,Zb2];omega
  ·show (m - IntKind.i64.wrap (i+1)).toNat < (m - i).toNat
   rw[Ze (by constructor<;>omega)];omega
  ·obtain ⟨x,r,e1,e2,e3⟩:=ZM (l:=l) a1 (by omega)
   rw[ZV e3] at h1
   try rw[Zm] at h1
   have hp:(!Yc x g.g)=false:=h1
   rw[Ze (by constructor<;>omega)]
   simp only[U4,J8,Zf6,ZiE,e1,e2,QU_,hp,Qw_,X3,Qd_]
   exact fun e s h=>h
  ·refine .inr ⟨?_,rfl,rfl⟩
   simp only[U4,J8]
   rw[Q0_ (by omega)];rfl
 ·intro σ K hS
  unfold ZiF at hS
  split at hS
  ·rename_i p1 p2 p3 p4 hk
   obtain ⟨hi,hK⟩:=XJ hS
   refine ⟨(p1,(Zf Face.dec p2),(GL.dec p3),p4),by
    simp only[Zpf]
    rw[←(show p2=(Zf Face.dec p2).map Face.enc from hi _ (by simp))]
    rw[←(show p3=GL.enc (GL.dec p3) from hi _ (by simp))]
    exact hk,hi _ (by simp),fun e s hf=>?_⟩
   dsimp only[U4] at hf
   rcases hf with ⟨hc,rfl,rfl⟩ | ⟨hc,hf⟩
   ·rw[hc] at hK;exact hK
   ·rw[hc] at hK;obtain ⟨rfl,rfl⟩:=hf;exact hK
  ·exact hS.elim
theorem Zy5:ZN Tryz.prog [(3,ZiF)] Tryz.f130:=ZI (l:=[Z6 Tryz.f130 0]) (by kernel_rfl) (ZR (i:=3) (by kernel_rfl) rfl ZwI (Z0))
def Znx(g:GL):=GL.mk (Zf Glass.dec (List.map Glass.enc g.g))
def Zk1(l:List Face):=Zf Face.dec (List.map Face.enc l)
theorem Zy6(l:List Face)(g:GL)(hp0:l.length≤140737488355328∧g.g.length≤140737488355328):Con Tryz.prog 130 [.lst (l.map Face.enc),.fn 75 [.lptr (GL.enc g) 0]] (.v (.int .i64 (X3 (fun f=> !Yc f g.g) l 0))):=by
 refine cfL ZrW Zy5 rfl ?_
 refine sxT (fun Q=>((List.map Face.enc l=List.map Face.enc (Zk1 l))∧((g.enc=(Znx g).enc)∧((Zb2 (0:Int) (Zk1 l) (Znx g) ↑(List.map Face.enc l).length)∧(bif J8 (0:Int) (Zk1 l) (Znx g) ↑(List.map Face.enc l).length then Q (vI (X3 (fun f=> !Yc f (GL.dec g.enc).g) (List.drop (0:Nat) (Zk1 l)) (0:Int))) else Q (vI (-1))))))) (fun _=>by kernel_rfl) ?_
 delta Qn Znx Zk1 vI
 refine ⟨?r1,⟨?r0,⟨?_,Za (fun h0=>?_) (fun h0=>?_)⟩⟩⟩
 case r0|r1=>first | rfl | (simp only[GL.enc,Zm];done) | (rw[ZdY];done) | (rw[Z4];done) | (simp only[Z4,Zm,ZdY];first | done | omega | exact hp0) | (obtain ⟨a1,a2,a3,a4,a5⟩:=hx;simp only[Zm];omega) | omega | (obtain ⟨a1,a2,a3,a4,a5⟩:=hx;simp only[Qc_] at h0;exact Zp (fun _=>rfl) (by omega) (by omega)) | (obtain ⟨a1,a2,a3,a4,a5⟩:=hx;simp only[Qc_] at h0;obtain ⟨x,r,e1,e2,e3⟩:=ZM (l:=l) a1 (by omega);rw[ZV e3];rfl) | (simp[Zf];done) | skip
 all_goals simp only[Z4,Zm,ZdY,Qk_] at *
 ·simp only[Zb2,Qk_,true_and];omega
 ·simp[nz,nzA]
 ·rw[ZhF (by simpa [J8] using h0)];rfl
theorem Zy7:Zj Tryz.prog 130 ZoU:=by
 intro args r ps h hp
 unfold ZoU at h
 split at h
 ·rename_i p1 p2
  cases (Qa_ h)
  exact by
   have hq:=Zy6 (Zf Face.dec p1) (GL.dec p2) (hp _ (by simp))
   rw[←(show p1=(Zf Face.dec p1).map Face.enc from hp _ (by simp))] at hq
   rw[←(show p2=GL.enc (GL.dec p2) from hp _ (by simp))] at hq
   exact hq
 ·exact absurd h (by simp)
def Z1P:=YN [(77,e77)]
def Wj(i:Int)(l:List Face):=(List.map Face.enc l).getD i.toNat []
theorem ZrX:CSOk Tryz.prog Z1P:=Zb Zuw<|Zh
theorem ZwJ:Yo Tryz.prog (Z6 Tryz.f130 0) ZiI:=by
 refine Zax Zo.Γ (ZD Zo ZrX ZJ ZK ZQ (LS:=[]) (Yh (l:=[]) (by kernel_rfl) Z0) (n:=2000) (U3 Zpg) (U3 Zb3) (fun x e s=>((U3 J9 x=true∧e= .ret∧s=U3 Zf7 x)∨(U3 J9 x=false∧e= .exit 0∧s=U3 ZiH x))) (fun x=>(x.2.2 - x.1).toNat) ZiG Zwe Zwf (fun x hx=>?_)) ZiG ?_
 ·obtain ⟨i,l,m⟩:=x
  simp only[U3,Zb3] at hx
  refine sxT (fun Q=>(bif decide (i < m) then (((0:Int)≤i∧(List.map Face.enc l)[i.toNat]?=some (Yt [vB false,vI 0,vI 0,vI 0,vI 0,vI 0,vI 0,vI 0,vI 0,vI 0,vI 0,vI 0,vI 0,PV.str []] (Wj i l)))∧(([vB (Zv ((Wj i l).headD PV.nil)),vI (Zd ((Wj i l).tail.headD PV.nil)),vI (Zd ((Wj i l).tail.tail.headD PV.nil)),vI (Zd ((Wj i l).tail.tail.tail.headD PV.nil)),vI (Zd ((Wj i l).tail.tail.tail.tail.headD PV.nil)),vI (Zd ((Wj i l).tail.tail.tail.tail.tail.headD PV.nil)),vI (Zd ((Wj i l).tail.tail.tail.tail.tail.tail.headD PV.nil)),vI (Zd ((Wj i l).tail.tail.tail.tail.tail.tail.tail.headD PV.nil)),vI (Zd ((Wj i l).tail.tail.tail.tail.tail.tail.tail.tail.headD PV.nil)),vI (Zd ((Wj i l).tail.tail.tail.tail.tail.tail.tail.tail.tail.headD PV.nil)),vI (Zd ((Wj i l).tail.tail.tail.tail.tail.tail.tail.tail.tail.tail.headD PV.nil)),vI (Zd ((Wj i l).tail.tail.tail.tail.tail.tail.tail.tail.tail.tail.tail.headD PV.nil)),vI (Zd ((Wj i l).tail.tail.tail.tail.tail.tail.tail.tail.tail.tail.tail.tail.headD PV.nil)),PV.str (Wf ((Wj i l).tail.tail.tail.tail.tail.tail.tail.tail.tail.tail.tail.tail.tail.headD PV.nil))]=(Face.dec (Wj i l)).enc)∧(bif !(Face.dec (Wj i l)).stop then Q (Ex.ret) (some ⟨19,[(4,pI i)],[],[],[],[]⟩) else Q (Ex.normal) (some ⟨19,[(8,AV.p (vI (IntKind.i64.wrap (i+(1:Int))))),(0,AV.p (PV.lst (List.map Face.enc l))),(1,AV.p (PV.fn (77:FuncId) [])),(7,pI m)],[],[],[],[]⟩)))) else Q (Ex.exit (0:Nat)) (some ⟨19,[],[],[],[],[]⟩))) (fun _=>by kernel_rfl) ?_
  delta Wj vI vB pI
  refine Za (fun h0=>⟨?r1,⟨?r0,Za (fun h1=> .inr ⟨by simp,_,rfl, ?_⟩) (fun h1=> .inl ⟨rfl,(IntKind.i64.wrap (i+(1:Int)),l,m),rfl, ?_, ?_, ?_⟩)⟩⟩) (fun h0=> .inr ⟨by simp,_,rfl, ?_⟩)
  case r0|r1=>first | rfl | (rw[Z4];done) | (simp only[Z4];first | done | omega | exact hp0) | omega | (obtain ⟨a1,a2,a3,a4⟩:=hx;simp only[Qc_] at h0;exact Zp (fun _=>rfl) (by omega) (by omega)) | (obtain ⟨a1,a2,a3,a4⟩:=hx;simp only[Qc_] at h0;obtain ⟨x,r,e1,e2,e3⟩:=ZM (l:=l) a1 (by omega);rw[ZV e3];rfl) | (simp[Zf];done) | skip
  all_goals try dsimp only[U3]
  all_goals (try obtain ⟨a1,a2,a3,a4⟩:=hx)
  all_goals (try simp only[Qc_,Qe_] at h0)
  ·obtain ⟨x,r,e1,e2,e3⟩:=ZM (l:=l) a1 (by omega)
   rw[ZV e3] at h1
   try rw[Zm] at h1
   refine .inl ⟨?_,rfl, ?_⟩
   ·simp only[U3,J9,e1,QU_]
    rw[show (!x.stop)=true from h1];rfl
   ·simp only[U3,Zf7,e1,X3]
    rw[show (!x.stop)=true from h1];rfl
  ·rw[Ze (by constructor<;>omega)];simp only[U3,Zb3];omega
  ·show (m - IntKind.i64.wrap (i+1)).toNat < (m - i).toNat
   rw[Ze (by constructor<;>omega)];omega
  ·obtain ⟨x,r,e1,e2,e3⟩:=ZM (l:=l) a1 (by omega)
   rw[ZV e3] at h1
   try rw[Zm] at h1
   have hp:(!x.stop)=false:=h1
   rw[Ze (by constructor<;>omega)]
   simp only[U3,J9,Zf7,ZiH,e1,e2,QU_,hp,Qw_,X3,Qd_]
   exact fun e s h=>h
  ·refine .inr ⟨?_,rfl,rfl⟩
   simp only[U3,J9]
   rw[Q0_ (by omega)];rfl
 ·intro σ K hS
  unfold ZiI at hS
  split at hS
  ·rename_i p1 p2 p3 hk
   obtain ⟨hi,hK⟩:=XJ hS
   refine ⟨(p1,(Zf Face.dec p2),p3),by
    simp only[Zpg]
    rw[←(show p2=(Zf Face.dec p2).map Face.enc from hi _ (by simp))]
    exact hk,hi _ (by simp),fun e s hf=>?_⟩
   dsimp only[U3] at hf
   rcases hf with ⟨hc,rfl,rfl⟩ | ⟨hc,hf⟩
   ·rw[hc] at hK;exact hK
   ·rw[hc] at hK;obtain ⟨rfl,rfl⟩:=hf;exact hK
  ·exact hS.elim
theorem Zy8:ZN Tryz.prog [(3,ZiI)] Tryz.f130:=ZI (l:=[Z6 Tryz.f130 0]) (by kernel_rfl) (ZR (i:=3) (by kernel_rfl) rfl ZwJ (Z0))
def Zk2(l:List Face):=Zf Face.dec (List.map Face.enc l)
theorem Zy9(l:List Face)(hp0:l.length≤140737488355328):Con Tryz.prog 130 [.lst (l.map Face.enc),.fn 77 []] (.v (.int .i64 (X3 (fun f=> !f.stop) l 0))):=by
 refine cfL ZrX Zy8 rfl ?_
 refine sxT (fun Q=>((List.map Face.enc l=List.map Face.enc (Zk2 l))∧((Zb3 (0:Int) (Zk2 l) ↑(List.map Face.enc l).length)∧(bif J9 (0:Int) (Zk2 l) ↑(List.map Face.enc l).length then Q (vI (X3 (fun f=> !f.stop) (List.drop (0:Nat) (Zk2 l)) (0:Int))) else Q (vI (-1)))))) (fun _=>by kernel_rfl) ?_
 delta Qn Zk2 vI
 refine ⟨?r0,⟨?_,Za (fun h0=>?_) (fun h0=>?_)⟩⟩
 case r0=>first | rfl | (rw[Z4];done) | (simp only[Z4];first | done | omega | exact hp0) | omega | (obtain ⟨a1,a2,a3,a4⟩:=hx;simp only[Qc_] at h0;exact Zp (fun _=>rfl) (by omega) (by omega)) | (obtain ⟨a1,a2,a3,a4⟩:=hx;simp only[Qc_] at h0;obtain ⟨x,r,e1,e2,e3⟩:=ZM (l:=l) a1 (by omega);rw[ZV e3];rfl) | (simp[Zf];done) | skip
 all_goals simp only[Z4,Qk_] at *
 ·simp only[Zb3,Qk_,true_and];omega
 ·simp[nz,nzA]
 ·rw[ZhF (by simpa [J9] using h0)];rfl
theorem ZyA:Zj Tryz.prog 130 ZoV:=by
 intro args r ps h hp
 unfold ZoV at h
 split at h
 ·rename_i p1
  cases (Qa_ h)
  exact by
   have hq:=Zy9 (Zf Face.dec p1) (hp _ (by simp))
   rw[←(show p1=(Zf Face.dec p1).map Face.enc from hp _ (by simp))] at hq
   exact hq
 ·exact absurd h (by simp)
theorem ZwK:Zj Tryz.prog 130 Z3q:=Ze8 Zy7 (ZyA)
theorem ZyB(l:List Face)(g:GL)(hp0:l.length≤140737488355328∧g.g.length≤140737488355328):Con Tryz.prog 74 [.lst (l.map Face.enc),.fn 75 [.lptr (GL.enc g) 0]] (.v (.bool (l.any (fun f=> !Yc f g.g)))):=by
 refine cf0 (Zb ZwK<|Zb Zzp<|Zh) (fn:=Tryz.f74) rfl ?_
 refine sxT (fun Q=>((List.map Face.enc l=List.map Face.enc (Zf Face.dec (List.map Face.enc l)))∧((g.enc=(GL.mk (Zf Glass.dec (List.map Glass.enc g.g))).enc)∧(((Zf Face.dec (List.map Face.enc l)).length≤(140737488355328:Nat)∧(Zf Glass.dec (List.map Glass.enc g.g)).length≤(140737488355328:Nat))∧Q (vB (decide (X3 (fun f=> !Yc f (GL.dec g.enc).g) (Zf Face.dec (List.map Face.enc l)) (0:Int)≥(0:Int)))))))) (fun _=>by kernel_rfl) ?_
 delta Qn vB
 refine ⟨?r2,⟨?r1,⟨?r0, ?_⟩⟩⟩
 case r0|r1|r2=>first | rfl | (simp only[GL.enc,Zm];done) | (rw[ZdY];done) | (rw[Z4];done) | (simp only[Z4,Zm,ZdY];first | done | omega | exact hp0) | (obtain ⟨a1,a2,a3,a4,a5⟩:=hx;simp only[Zm];omega) | omega | (simp[Zf];done) | skip
 simp only[Z4,Zm,ZdY] at *
 simp only[nz,nzA]
 rw[ZhG (by omega)]
theorem ZyC:Zj Tryz.prog 74 ZoW:=by
 intro args r ps h hp
 unfold ZoW at h
 split at h
 ·rename_i p1 p2
  cases (Qa_ h)
  exact by
   have hq:=ZyB (Zf Face.dec p1) (GL.dec p2) (hp _ (by simp))
   rw[←(show p1=(Zf Face.dec p1).map Face.enc from hp _ (by simp))] at hq
   rw[←(show p2=GL.enc (GL.dec p2) from hp _ (by simp))] at hq
   exact hq
 ·exact absurd h (by simp)
theorem ZyD(l:List Face)(hp0:l.length≤140737488355328):Con Tryz.prog 74 [.lst (l.map Face.enc),.fn 77 []] (.v (.bool (l.any (fun f=> !f.stop)))):=by
 refine cf0 (Zb ZwK<|Zb Zuw<|Zh) (fn:=Tryz.f74) rfl ?_
 refine sxT (fun Q=>((List.map Face.enc l=List.map Face.enc (Zf Face.dec (List.map Face.enc l)))∧(((Zf Face.dec (List.map Face.enc l)).length≤(140737488355328:Nat))∧Q (vB (decide (X3 (fun f=> !f.stop) (Zf Face.dec (List.map Face.enc l)) (0:Int)≥(0:Int))))))) (fun _=>by kernel_rfl) ?_
 delta Qn vB
 refine ⟨?r1,⟨?r0, ?_⟩⟩
 case r0|r1=>first | rfl | (rw[Z4];done) | (simp only[Z4];first | done | omega | exact hp0) | omega | (simp[Zf];done) | skip
 simp only[Z4] at *
 simp only[nz,nzA]
 rw[ZhG (by omega)]
theorem ZyE:Zj Tryz.prog 74 ZoX:=by
 intro args r ps h hp
 unfold ZoX at h
 split at h
 ·rename_i p1
  cases (Qa_ h)
  exact by
   have hq:=ZyD (Zf Face.dec p1) (hp _ (by simp))
   rw[←(show p1=(Zf Face.dec p1).map Face.enc from hp _ (by simp))] at hq
   exact hq
 ·exact absurd h (by simp)
theorem Z2v:Zj Tryz.prog 74 e74:=Ze8 ZyC (ZyE)
def ZfF(l:LensM):=Zf Face.dec (List.map Face.enc l.faces)
theorem Z2w:Zj Tryz.prog 30 e30:=Zk<|Zi fun l=>Zi fun g=>EZ1 fun hp0=>by
 refine cf0 (Zb Z2v<|Zb Zuw<|Zb Zzo<|Zb Zzn<|Zh) (fn:=Tryz.f30) rfl ?_
 refine sxT (fun Q=>((List.map Face.enc l.faces=List.map Face.enc (ZfF l))∧(([PV.lst (List.map Glass.enc g)]=(GL.mk (Zf Glass.dec (List.map Glass.enc g))).enc)∧(((ZfF l).length≤(140737488355328:Nat)∧(Zf Glass.dec (List.map Glass.enc g)).length≤(140737488355328:Nat))∧((List.map Face.enc l.faces=List.map Face.enc (ZfF l))∧(((ZfF l).length≤(140737488355328:Nat))∧(bif Zcf l.name then (bif Jc l.back then (bif decide (↑(List.map Face.enc l.faces).length≤(12:Int)) then (bif (ZfF l).any fun f=> !f.stop then Q (vB (!(ZfF l).any fun f=> !Yc f (GL.dec [PV.lst (List.map Glass.enc g)]).g)) else Q (vB false)) else Q (vB false)) else Q (vB false)) else Q (vB false)))))))) (fun _=>by kernel_rfl) ?_
 delta Qn ZfF vB
 refine ⟨?r4,⟨?r3,⟨?r2,⟨?r1,⟨?r0,Za (fun h0=>Za (fun h1=>Za (fun h2=>Za (fun h3=>?_) (fun h3=>?_)) (fun h2=>?_)) (fun h1=>?_)) (fun h0=>?_)⟩⟩⟩⟩⟩
 case r0|r1|r2|r3|r4=>first | rfl | (rw[Z4];done) | (simp only[GL.enc,Zm];done) | (simp only[GL.enc,GL.dec,Zm];rfl) | (simp only[Z4,GL.dec,Zm];omega) | (simp only[Z4,show (GL.dec [PV.lst (List.map Glass.enc g)]).g=Zf Glass.dec (List.map Glass.enc g) from rfl,Zm];omega) | skip
 all_goals (try simp only[Z4,show (GL.dec [PV.lst (List.map Glass.enc g)]).g=Zf Glass.dec (List.map Glass.enc g) from rfl,Zm,Qi_,Qf_,Qk_] at *)
 all_goals (try (have e:decide (l.faces.length≤12)=true:=(by simp only[Qc_] at h2;exact QH_ (by omega))))
 all_goals (try (have e:decide (l.faces.length≤12)=false:=(by simp only[Qe_] at h2;exact QQ_ (by omega))))
 all_goals simp only[XP,YO, *,Qp_,Ql_,Qr_,Qn_,Qu_,Qt_]
 all_goals first | rfl | skip
def q19_2:=[[vI 5876],[vI 4861],[vI 6563]]
theorem Zzq:Zj Tryz.prog 25 e25:=Zk<|Zi fun k=>EZ0<|by
 refine cf0 (Zb Zap<|Zb Znp<|Zh) (fn:=Tryz.f25) rfl ?_
 refine sxT (fun Q=>(bif decide (k < (0:Int)) then Q (PV.agg [vI 0,vI 0,vB true]) else (bif decide (k≥(3:Int)) then Q (PV.agg [vI 0,vI 0,vB true]) else (((0:Int)≤k∧q19_2[k.toNat]?=some (Yt [vI 0] (q19_2.getD k.toNat [])))∧Q (PV.agg (eIv (Zg (Dec.mk (Zd ((q19_2.getD k.toNat []).headD PV.nil)) (4:Int))))))))) (fun _=>by kernel_rfl) ?_
 delta Qn q19_2 eIv vI vB
 refine Za (fun h0=>?_) (fun h0=>Za (fun h1=>?_) (fun h1=>⟨?r0, ?_⟩))
 case r0=>first | rfl | (simp only[Qe_] at *;have hk:k=0∨k=1∨k=2:=(by omega);rcases hk with rfl | rfl | rfl<;>exact ⟨by decide,rfl⟩) | skip
 all_goals simp only[Qe_,Qc_] at *
 ·have e0:(k==0)=false:=(by simp;omega);have e1:(k==1)=false:=(by simp;omega);have e2:(k==2)=false:=(by simp;omega)
  simp only[Zy,e0,e1,e2,Qd_];rfl
 ·have e0:(k==0)=false:=(by simp;omega);have e1:(k==1)=false:=(by simp;omega);have e2:(k==2)=false:=(by simp;omega)
  simp only[Zy,e0,e1,e2,Qd_];rfl
 ·have hk:k=0∨k=1∨k=2:=(by omega)
  rcases hk with rfl | rfl | rfl<;>rfl
theorem Z1Q:Zj Tryz.prog 120 Z3r:=Zk<|Zi fun g=>Zi fun w=>EZ0<|by
 refine cf0 (Zb Zkm<|Zb Zw1<|Zb Znp<|Zb Zzd<|Zb Ztu<|Zb Zno<|Zb Zko<|Zb Z1s<|Zh) (fn:=Tryz.f120) rfl ?_
 refine sxT (fun Q=>(bif g.name==[(97:UInt8),(105:UInt8),(114:UInt8)] then Q (PV.agg [vI 65536,vI 65536,vB false]) else (((0:Int)≤(0:Int)∧(0:Int) < (3:Int))∧(((0:Int)≤(0:Int)∧(0:Int) < (3:Int))∧(((0:Int)≤(1:Int)∧(1:Int) < (3:Int))∧(((0:Int)≤(1:Int)∧(1:Int) < (3:Int))∧(((0:Int)≤(2:Int)∧(2:Int) < (3:Int))∧(((0:Int)≤(2:Int)∧(2:Int) < (3:Int))∧Q (PV.agg (eIv (Wz (add (add (add (point (65536:Int)) (Z8 (Ye (Zg g.b.a) (sqr w)) (sub (sqr w) (Zg g.c.a)))) (Z8 (Ye (Zg g.b.b) (sqr w)) (sub (sqr w) (Zg g.c.b)))) (Z8 (Ye (Zg g.b.c) (sqr w)) (sub (sqr w) (Zg g.c.c))))))))))))))) (fun _=>by kernel_rfl) ?_
 delta Qn eIv vI vB
 refine Za (fun h0=>?_) (fun h0=>⟨?r5,⟨?r4,⟨?r3,⟨?r2,⟨?r1,⟨?r0, ?_⟩⟩⟩⟩⟩⟩)
 case r0|r1|r2|r3|r4|r5=>first | rfl | exact ⟨by decide,by decide⟩ | skip
 ·have e:(g.name==JX)=true:=h0
  simp only[W1,e,Qb_];rfl
 ·have e:(g.name==JX)=false:=h0
  simp only[W1,e,Qd_,Zce];rfl
def ZhR(g:List Glass):=Zf Glass.dec (List.map Glass.enc g)
theorem Z2x:Zj Tryz.prog 62 e62:=Zk<|Zi fun n=>Zi fun g=>Zi fun w=>EZ1 fun hp0=>by
 refine cf0 (Zb Zkm<|Zb ZwH<|Zb Z1Q<|Zh) (fn:=Tryz.f62) rfl ?_
 refine sxT (fun Q=>(bif n==[(97:UInt8),(105:UInt8),(114:UInt8)] then Q (PV.agg [vI 65536,vI 65536,vB false]) else ((List.map Glass.enc g=List.map Glass.enc (ZhR g))∧(((ZhR g).length≤(140737488355328:Nat))∧(((W3 (ZC (ZhR g) n).fst)=(ZC (ZhR g) n).fst.enc)∧Q (PV.agg (eIv (W1 (ZC (ZhR g) n).fst w)))))))) (fun _=>by kernel_rfl) ?_
 delta Qn ZhR eIv W3 vI vB
 refine Za (fun h0=>?_) (fun h0=>⟨?r2,⟨?r1,⟨?r0, ?_⟩⟩⟩)
 case r0|r1|r2=>first | rfl | (rw[Zm];done) | (simp only[Zm];omega) | skip
 all_goals (try simp only[Zm] at *)
 ·have e:(n==JX)=true:=h0
  simp only[Zdn,e,Qb_];rfl
 ·have e:(n==JX)=false:=h0
  simp only[Zdn,e,Qd_];rfl
def JS(f:Face):=add (point (65536:Int)) (Zg f.conic)
def ZfG(f:Face):=Z8 (point (65536:Int)) (Zg f.radius)
def JT(f:Face):=sqr (Zg f.aperture)
theorem Z2y:Zj Tryz.prog 61 e61:=Zk<|Zi fun f=>EZ0<|by
 refine cf0 (Zb Zkm<|Zb Znp<|Zb Zno<|Zb Zko<|Zb Zw1<|Zh) (fn:=Tryz.f61) rfl ?_
 refine sxT (fun Q=>(bif f.radius.c !=(0:Int) then (bif f.a4.c !=(0:Int) then Q (PV.agg [vB f.stop,vB true,vI (ZfG f).lo,vI (ZfG f).hi,vB (ZfG f).no,vI (JS f).lo,vI (JS f).hi,vB (JS f).no,vI (Zg f.a4).lo,vI (Zg f.a4).hi,vB (Zg f.a4).no,vI (Zg f.a6).lo,vI (Zg f.a6).hi,vB (Zg f.a6).no,vI 0,vI 0,vB false,vI (JT f).lo,vI (JT f).hi,vB (JT f).no,vI 65536,vI 65536,vB false]) else Q (PV.agg [vB f.stop,vB (f.a6.c !=(0:Int)),vI (ZfG f).lo,vI (ZfG f).hi,vB (ZfG f).no,vI (JS f).lo,vI (JS f).hi,vB (JS f).no,vI (Zg f.a4).lo,vI (Zg f.a4).hi,vB (Zg f.a4).no,vI (Zg f.a6).lo,vI (Zg f.a6).hi,vB (Zg f.a6).no,vI 0,vI 0,vB false,vI (JT f).lo,vI (JT f).hi,vB (JT f).no,vI 65536,vI 65536,vB false])) else (bif f.a4.c !=(0:Int) then Q (PV.agg [vB f.stop,vB true,vI 0,vI 0,vB false,vI (JS f).lo,vI (JS f).hi,vB (JS f).no,vI (Zg f.a4).lo,vI (Zg f.a4).hi,vB (Zg f.a4).no,vI (Zg f.a6).lo,vI (Zg f.a6).hi,vB (Zg f.a6).no,vI 0,vI 0,vB false,vI (JT f).lo,vI (JT f).hi,vB (JT f).no,vI 65536,vI 65536,vB false]) else Q (PV.agg [vB f.stop,vB (f.a6.c !=(0:Int)),vI 0,vI 0,vB false,vI (JS f).lo,vI (JS f).hi,vB (JS f).no,vI (Zg f.a4).lo,vI (Zg f.a4).hi,vB (Zg f.a4).no,vI (Zg f.a6).lo,vI (Zg f.a6).hi,vB (Zg f.a6).no,vI 0,vI 0,vB false,vI (JT f).lo,vI (JT f).hi,vB (JT f).no,vI 65536,vI 65536,vB false])))) (fun _=>by kernel_rfl) ?_
 delta Qn JS ZfG JT vI vB
 refine Za (fun h0=>Za (fun h1=>?_) (fun h1=>?_)) (fun h0=>Za (fun h1=>?_) (fun h1=>?_))
 all_goals (try simp only[Qi_,Qf_,bne] at *)
 all_goals first | (simp only[ZaT,ZmZ,ZcT,bne, *,Qu_,Qt_,Qb_,Qd_,Q4_,Qw_,Yf,Qp_,Ql_];first | done | rfl) | skip
theorem ZpW:Zj Tryz.prog 125 Z1j:=Zk<|Zi fun a=>EZ0<|by
 refine cf0 Zh (fn:=Tryz.f125) rfl ?_
 refine sxT (fun Q=>Q (vB a.no)) (fun _=>by kernel_rfl) ?_
 delta Qn vB
 refine ?_
 all_goals (try simp only[Qi_,Qf_,bne] at *)
 all_goals first | rfl | (simp only[a.no,Zt,Zs,List.foldl,Qr_,Qp_,Ql_,Qn_,Q5_,Q4_,Qw_,Q3_,Qu_,Qt_,Qb_,Qd_,QD_,Q8_, *];done) | (simp only[a.no,Zt,Zs,List.foldl,Qr_,Qp_,Ql_,Qn_,Q5_,Q4_,Qw_,Q3_,Qu_,Qt_,Qb_,Qd_,QD_,Q8_, *];first | rfl | (simp only[nz,nzA,nz1,QE_,QN_,Iv.enc,V.enc,Ray.enc, *];first | done | rfl)) | (simp_all[nz,nzA,nz1,Iv.enc,V.enc,Ray.enc,Dec.enc,Shape.enc,none',told,K4_,a.no];done) | (simp_all[nz,nzA,nz1,Iv.enc,V.enc,Ray.enc,Dec.enc,Shape.enc,none',told,K4_,a.no];omega) | (simp_all[nz,nzA,nz1,Iv.enc,V.enc,Ray.enc,Dec.enc,Shape.enc,none',told,K4_,a.no];(repeat' split)<;>(first | rfl | (exfalso;omega) | (simp_all;done) | omega))
def Z1R:=YN [(125,Z1j)]
theorem ZrY:CSOk Tryz.prog Z1R:=Zb ZpW<|Zh
theorem ZwL:Yo Tryz.prog (Z6 Tryz.f158 0) ZiL:=by
 refine Zax Zo.Γ (ZD Zo ZrY ZJ ZK ZQ (LS:=[]) (Yh (l:=[]) (by kernel_rfl) Z0) (n:=2000) (U3 Zph) (U3 Zb4) (fun x e s=>((U3 JA x=true∧e= .ret∧s=U3 Zf8 x)∨(U3 JA x=false∧e= .exit 0∧s=U3 ZiK x))) (fun x=>(x.2.2 - x.1).toNat) ZiJ Zwg Zwh (fun x hx=>?_)) ZiJ ?_
 ·obtain ⟨i,l,m⟩:=x
  simp only[U3,Zb4] at hx
  refine sxT (fun Q=>(bif decide (i < m) then (((0:Int)≤i∧(List.map Iv.enc l)[i.toNat]?=some (Yt [vI 0,vI 0,vB false] ((List.map Iv.enc l).getD i.toNat [])))∧(bif (Iv.dec ((List.map Iv.enc l).getD i.toNat [])).no then Q (Ex.ret) (some ⟨19,[(4,pI i)],[],[],[],[]⟩) else Q (Ex.normal) (some ⟨19,[(8,AV.p (vI (IntKind.i64.wrap (i+(1:Int))))),(0,AV.p (PV.lst (List.map Iv.enc l))),(1,AV.p (PV.fn (125:FuncId) [])),(7,pI m)],[],[],[],[]⟩))) else Q (Ex.exit (0:Nat)) (some ⟨19,[],[],[],[],[]⟩))) (fun _=>by kernel_rfl) ?_
  delta vI vB pI
  refine Za (fun h0=>⟨?r0,Za (fun h1=> .inr ⟨by simp,_,rfl, ?_⟩) (fun h1=> .inl ⟨rfl,(IntKind.i64.wrap (i+(1:Int)),l,m),rfl, ?_, ?_, ?_⟩)⟩) (fun h0=> .inr ⟨by simp,_,rfl, ?_⟩)
  case r0=>first | rfl | (rw[dIv];done) | (simp only[dIv];first | done | omega | exact hp0) | omega | (obtain ⟨a1,a2,a3,a4⟩:=hx;simp only[Qc_] at h0;exact Zp (fun _=>rfl) (by omega) (by omega)) | (obtain ⟨a1,a2,a3,a4⟩:=hx;simp only[Qc_] at h0;obtain ⟨x,r,e1,e2,e3⟩:=ZM (l:=l) a1 (by omega);rw[ZV e3];rfl) | (simp[Zf];done) | skip
  all_goals try dsimp only[U3]
  all_goals (try obtain ⟨a1,a2,a3,a4⟩:=hx)
  all_goals (try simp only[Qc_,Qe_] at h0)
  ·obtain ⟨x,r,e1,e2,e3⟩:=ZM (l:=l) a1 (by omega)
   rw[ZV e3] at h1
   try rw[Zm] at h1
   refine .inl ⟨?_,rfl, ?_⟩
   ·simp only[U3,JA,e1,QU_]
    rw[show x.no=true from h1];rfl
   ·simp only[U3,Zf8,e1,X3]
    rw[show x.no=true from h1];rfl
  ·rw[Ze (by constructor<;>omega)];simp only[U3,Zb4];omega
  ·show (m - IntKind.i64.wrap (i+1)).toNat < (m - i).toNat
   rw[Ze (by constructor<;>omega)];omega
  ·obtain ⟨x,r,e1,e2,e3⟩:=ZM (l:=l) a1 (by omega)
   rw[ZV e3] at h1
   try rw[Zm] at h1
   have hp:x.no=false:=h1
   rw[Ze (by constructor<;>omega)]
   simp only[U3,JA,Zf8,ZiK,e1,e2,QU_,hp,Qw_,X3,Qd_]
   exact fun e s h=>h
  ·refine .inr ⟨?_,rfl,rfl⟩
   simp only[U3,JA]
   rw[Q0_ (by omega)];rfl
 ·intro σ K hS
  unfold ZiL at hS
  split at hS
  ·rename_i p1 p2 p3 hk
   obtain ⟨hi,hK⟩:=XJ hS
   refine ⟨(p1,(Zf Iv.dec p2),p3),by
    simp only[Zph]
    rw[←(show p2=(Zf Iv.dec p2).map Iv.enc from hi _ (by simp))]
    exact hk,hi _ (by simp),fun e s hf=>?_⟩
   dsimp only[U3] at hf
   rcases hf with ⟨hc,rfl,rfl⟩ | ⟨hc,hf⟩
   ·rw[hc] at hK;exact hK
   ·rw[hc] at hK;obtain ⟨rfl,rfl⟩:=hf;exact hK
  ·exact hS.elim
theorem ZyF:ZN Tryz.prog [(3,ZiL)] Tryz.f158:=ZI (l:=[Z6 Tryz.f158 0]) (by kernel_rfl) (ZR (i:=3) (by kernel_rfl) rfl ZwL (Z0))
def Zk3(l:List Iv):=Zf Iv.dec (List.map Iv.enc l)
theorem ZyG(l:List Iv)(hp0:l.length≤140737488355328):Con Tryz.prog 158 [.lst (l.map Iv.enc),.fn 125 []] (.v (.int .i64 (X3 (fun f=>f.no) l 0))):=by
 refine cfL ZrY ZyF rfl ?_
 refine sxT (fun Q=>((List.map Iv.enc l=List.map Iv.enc (Zk3 l))∧((Zb4 (0:Int) (Zk3 l) ↑(List.map Iv.enc l).length)∧(bif JA (0:Int) (Zk3 l) ↑(List.map Iv.enc l).length then Q (vI (X3 (fun f=>f.no) (List.drop (0:Nat) (Zk3 l)) (0:Int))) else Q (vI (-1)))))) (fun _=>by kernel_rfl) ?_
 delta Qn Zk3 vI
 refine ⟨?r0,⟨?_,Za (fun h0=>?_) (fun h0=>?_)⟩⟩
 case r0=>first | rfl | (rw[dIv];done) | (simp only[dIv];first | done | omega | exact hp0) | omega | (obtain ⟨a1,a2,a3,a4⟩:=hx;simp only[Qc_] at h0;exact Zp (fun _=>rfl) (by omega) (by omega)) | (obtain ⟨a1,a2,a3,a4⟩:=hx;simp only[Qc_] at h0;obtain ⟨x,r,e1,e2,e3⟩:=ZM (l:=l) a1 (by omega);rw[ZV e3];rfl) | (simp[Zf];done) | skip
 all_goals simp only[dIv,Qk_] at *
 ·simp only[Zb4,Qk_,true_and];omega
 ·simp[nz,nzA]
 ·rw[ZhF (by simpa [JA] using h0)];rfl
theorem Z1S:Zj Tryz.prog 158 Z1k:=by
 intro args r ps h hp
 unfold Z1k at h
 split at h
 ·rename_i p1
  cases (Qa_ h)
  exact by
   have hq:=ZyG (Zf Iv.dec p1) (hp _ (by simp))
   rw[←(show p1=(Zf Iv.dec p1).map Iv.enc from hp _ (by simp))] at hq
   exact hq
 ·exact absurd h (by simp)
theorem ZyH(l:List Iv)(hp0:l.length≤140737488355328):Con Tryz.prog 124 [.lst (l.map Iv.enc),.fn 125 []] (.v (.bool (l.any (fun f=>f.no)))):=by
 refine cf0 (Zb Z1S<|Zb ZpW<|Zh) (fn:=Tryz.f124) rfl ?_
 refine sxT (fun Q=>((List.map Iv.enc l=List.map Iv.enc (Zf Iv.dec (List.map Iv.enc l)))∧(((Zf Iv.dec (List.map Iv.enc l)).length≤(140737488355328:Nat))∧Q (vB (decide (X3 (fun f=>f.no) (Zf Iv.dec (List.map Iv.enc l)) (0:Int)≥(0:Int))))))) (fun _=>by kernel_rfl) ?_
 delta Qn vB
 refine ⟨?r1,⟨?r0, ?_⟩⟩
 case r0|r1=>first | rfl | (rw[dIv];done) | (simp only[dIv];first | done | omega | exact hp0) | omega | (simp[Zf];done) | skip
 simp only[dIv] at *
 simp only[nz,nzA]
 rw[ZhG (by omega)]
theorem Z1T:Zj Tryz.prog 124 Z1l:=by
 intro args r ps h hp
 unfold Z1l at h
 split at h
 ·rename_i p1
  cases (Qa_ h)
  exact by
   have hq:=ZyH (Zf Iv.dec p1) (hp _ (by simp))
   rw[←(show p1=(Zf Iv.dec p1).map Iv.enc from hp _ (by simp))] at hq
   exact hq
 ·exact absurd h (by simp)
def Zny(s:Surf):=[(eIv s.curve),(eIv s.conic),(eIv s.a4),(eIv s.a6),(eIv s.pos),(eIv s.open2),(eIv s.ratio)]
theorem Z2z:Zj Tryz.prog 64 e64:=Zk<|Zi fun s=>EZ0<|by
 refine cf0 (Zb Z1T<|Zb ZpW<|Zh) (fn:=Tryz.f64) rfl ?_
 refine sxT (fun Q=>(((Zny s)=List.map Iv.enc (Zf Iv.dec (Zny s)))∧(((7:Nat)≤(140737488355328:Nat))∧Q (vB ((Zf Iv.dec (Zny s)).any fun f=>f.no))))) (fun _=>by kernel_rfl) ?_
 delta Qn Zny eIv vI vB
 refine ⟨?r1,⟨?r0, ?_⟩⟩
 case r0|r1=>first | rfl | (exact (by decide:7≤140737488355328)) | skip
 simp only[Xn]
 show PV.v (Value.bool (s.curve.no||(s.conic.no||(s.a4.no||(s.a6.no||(s.pos.no||(s.open2.no||(s.ratio.no||false))))))))=_
 rw[Q3_]
def ZyI:=YN [(30,e30),(59,e59),(60,e60),(61,e61),(62,e62),(63,e63),(64,e64),(37,e37)]
set_option maxHeartbeats 4000000 in
def XB(i:Int)(fs:List Face):=(List.map Face.enc fs).getD i.toNat []
def ZG(i:Int)(fs:List Face):=ZaT (Face.dec (XB i fs)) ZjP (point (65536:Int))
def ZpX(i:Int)(fs:List Face):=Wf ((XB i fs).tail.tail.tail.tail.tail.tail.tail.tail.tail.tail.tail.tail.tail.headD PV.nil)
def ZhS(i:Int)(fs:List Face)(g:List Glass)(w:Iv):=Zdn (ZpX i fs) (Zf Glass.dec (List.map Glass.enc g)) w
def Znz(i:Int)(fs:List Face)(g:List Glass)(pos:Iv)(ix:Iv)(w:Iv):=[vB (ZG i fs).stop,vB (ZG i fs).bent,vI (ZG i fs).curve.lo,vI (ZG i fs).curve.hi,vB (ZG i fs).curve.no,vI (ZG i fs).conic.lo,vI (ZG i fs).conic.hi,vB (ZG i fs).conic.no,vI (ZG i fs).a4.lo,vI (ZG i fs).a4.hi,vB (ZG i fs).a4.no,vI (ZG i fs).a6.lo,vI (ZG i fs).a6.hi,vB (ZG i fs).a6.no,vI pos.lo,vI pos.hi,vB pos.no,vI (ZG i fs).open2.lo,vI (ZG i fs).open2.hi,vB (ZG i fs).open2.no,vI (Z8 ix (ZhS i fs g w)).lo,vI (Z8 ix (ZhS i fs g w)).hi,vB (Z8 ix (ZhS i fs g w)).no]
def Zn0(i:Int)(fs:List Face)(pos:Iv):=[vB (ZG i fs).stop,vB (ZG i fs).bent,vI (ZG i fs).curve.lo,vI (ZG i fs).curve.hi,vB (ZG i fs).curve.no,vI (ZG i fs).conic.lo,vI (ZG i fs).conic.hi,vB (ZG i fs).conic.no,vI (ZG i fs).a4.lo,vI (ZG i fs).a4.hi,vB (ZG i fs).a4.no,vI (ZG i fs).a6.lo,vI (ZG i fs).a6.hi,vB (ZG i fs).a6.no,vI pos.lo,vI pos.hi,vB pos.no,vI (ZG i fs).open2.lo,vI (ZG i fs).open2.hi,vB (ZG i fs).open2.no,vI (ZG i fs).ratio.lo,vI (ZG i fs).ratio.hi,vB (ZG i fs).ratio.no]
def Zux(i:Int)(fs:List Face)(m:Int)(g:List Glass):=[(34,AV.p (vI (IntKind.i64.wrap (i+(1:Int))))),(32,AV.p (PV.lst (List.map Face.enc fs))),(33,pI m),(9,AV.ptr 9 0),(10,AV.ptr 10 0),(8,AV.ptr 8 0),(5,AV.ptr 5 0),(6,AV.ptr 6 0),(1,AV.p (PV.lst (List.map Glass.enc g)))]
def Zn1(z:SysM):=[PV.lst (List.map Surf.enc z.surfs),vI z.op.lo,vI z.op.hi,vB z.op.no]
def Zuy(i:Int)(fs:List Face):=Zg (Dec.mk (Zd ((XB i fs).tail.tail.tail.tail.tail.headD PV.nil)) (Zd ((XB i fs).tail.tail.tail.tail.tail.tail.headD PV.nil)))
def Zuz(i:Int)(fs:List Face)(pos:Iv):=Surf.mk (ZG i fs).stop (ZG i fs).bent (ZG i fs).curve (ZG i fs).conic (ZG i fs).a4 (ZG i fs).a6 pos (ZG i fs).open2 (ZG i fs).ratio
def ZpY:Option St:=some ⟨75,[(6,AV.ptr 6 0),(7,pI 6)],[(6,[.nil,vI 0,vI 0,vB false])],[],[],[]⟩
def ZpZ:=[(Loc.b (nat_lit 8) (nat_lit 0),nat_lit 75),(Loc.b (nat_lit 6) (nat_lit 0),nat_lit 75)]
def Zqa(i:Int)(fs:List Face)(g:List Glass)(pos:Iv)(ix:Iv)(w:Iv):=Surf.mk (ZG i fs).stop (ZG i fs).bent (ZG i fs).curve (ZG i fs).conic (ZG i fs).a4 (ZG i fs).a6 pos (ZG i fs).open2 (Z8 ix (ZhS i fs g w))
theorem Zmr:CSOk Tryz.prog ZyI:=Zb Z2w<|Zb Znp<|Zb Zkm<|Zb Z2y<|Zb Z2x<|Zb Zno<|Zb Z2z<|Zb Zko<|Zh
set_option maxHeartbeats 4000000 in
theorem Zrg:Yo Tryz.prog (Z6 Tryz.f24 0) Zke:=by
 refine lsG Zo.Γ (ZD Zo Zmr ZJ ZK ZQ (LS:=[]) (Yh (l:=[]) (by kernel_rfl) Z0) (n:=2000) (U9 Zkb) (U9 Zbb) (fun x e s=>((U9 WT x=true∧e= .ret∧s=U9 Zkd x)∨(U9 WT x=false∧e= .exit 0∧s=U9 ZcH x))) (fun x=>(x.2.2.1 - x.1).toNat) Zkc ZqQ ZqR (fun x hx=>?_)) cv9 (fun _=>rfl) (fun _ h=>h) (fun _ _ _ _ h f=>fC h f fE fE)
 ·obtain ⟨i,fs,m,g,s,pos,ix,w,z⟩:=x
  simp only[U9,Zbb] at hx
  refine sxT (fun Q=>(bif decide (i < m) then (((0:Int)≤i∧(List.map Face.enc fs)[i.toNat]?=some (Yt [vB false,vI 0,vI 0,vI 0,vI 0,vI 0,vI 0,vI 0,vI 0,vI 0,vI 0,vI 0,vI 0,PV.str []] (XB i fs)))∧(([vB (Zv ((XB i fs).headD PV.nil)),vI (Zd ((XB i fs).tail.headD PV.nil)),vI (Zd ((XB i fs).tail.tail.headD PV.nil)),vI (Zd ((XB i fs).tail.tail.tail.headD PV.nil)),vI (Zd ((XB i fs).tail.tail.tail.tail.headD PV.nil)),vI (Zd ((XB i fs).tail.tail.tail.tail.tail.headD PV.nil)),vI (Zd ((XB i fs).tail.tail.tail.tail.tail.tail.headD PV.nil)),vI (Zd ((XB i fs).tail.tail.tail.tail.tail.tail.tail.headD PV.nil)),vI (Zd ((XB i fs).tail.tail.tail.tail.tail.tail.tail.tail.headD PV.nil)),vI (Zd ((XB i fs).tail.tail.tail.tail.tail.tail.tail.tail.tail.headD PV.nil)),vI (Zd ((XB i fs).tail.tail.tail.tail.tail.tail.tail.tail.tail.tail.headD PV.nil)),vI (Zd ((XB i fs).tail.tail.tail.tail.tail.tail.tail.tail.tail.tail.tail.headD PV.nil)),vI (Zd ((XB i fs).tail.tail.tail.tail.tail.tail.tail.tail.tail.tail.tail.tail.headD PV.nil)),PV.str (ZpX i fs)]=(Face.dec (XB i fs)).enc)∧(bif !Zv ((XB i fs).headD PV.nil) then ((List.map Glass.enc g=List.map Glass.enc (Zf Glass.dec (List.map Glass.enc g)))∧(((Zf Glass.dec (List.map Glass.enc g)).length≤(140737488355328:Nat))∧(((Znz i fs g pos ix w)=(Zqa i fs g pos ix w).enc)∧(bif Xn (Zqa i fs g pos ix w) then Q (Ex.ret) ZpY else (((0:Nat) < (1:Nat)∧((List.map Surf.enc s.surfs).length+(1:Nat))* (176:Nat)≤(140737488355328:Nat)∧Lens (23:Nat) (List.map Surf.enc s.surfs++[(Znz i fs g pos ix w)]))∧Q (Ex.normal) (some ⟨75,(Zux i fs m g),[(8,[PV.lst (List.map Surf.enc s.surfs++[(Znz i fs g pos ix w)]),vI s.op.lo,vI s.op.hi,vB s.op.no]),(10,(eIv (add pos (Zuy i fs)))),(9,(eIv (ZhS i fs g w))),(5,(eIv w)),(6,(Zn1 z))],[],ZpZ,[]⟩)))))) else (((Zn0 i fs pos)=(Zuz i fs pos).enc)∧(bif Xn (Zuz i fs pos) then Q (Ex.ret) ZpY else (((0:Nat) < (1:Nat)∧((List.map Surf.enc s.surfs).length+(1:Nat))* (176:Nat)≤(140737488355328:Nat)∧Lens (23:Nat) (List.map Surf.enc s.surfs++[(Zn0 i fs pos)]))∧Q (Ex.normal) (some ⟨75,(Zux i fs m g),[(8,[PV.lst (List.map Surf.enc s.surfs++[(Zn0 i fs pos)]),vI s.op.lo,vI s.op.hi,vB s.op.no]),(10,(eIv (add pos (Zuy i fs)))),(9,(eIv ix)),(5,(eIv w)),(6,(Zn1 z))],[],ZpZ,[]⟩))))))) else Q (Ex.exit (0:Nat)) (some ⟨75,[(6,AV.ptr 6 0),(8,AV.ptr 8 0)],[(6,(Zn1 z)),(8,[PV.lst (List.map Surf.enc s.surfs),vI s.op.lo,vI s.op.hi,vB s.op.no])],[],[],[]⟩))) (fun _=>by kernel_rfl) ?_
  delta ZG Znz Zn0 ZhS XB Zux Zn1 Zuy Zuz ZpY ZpZ ZpX Zqa eIv vI vB pI
  refine Za (fun h0=>⟨?r7,⟨?r6,Za (fun h1=>⟨?r3,⟨?r2,⟨?r1,Za (fun h2=>?_) (fun h2=>⟨?r0, ?_⟩)⟩⟩⟩) (fun h1=>⟨?r5,Za (fun h2=>?_) (fun h2=>⟨?r4, ?_⟩)⟩)⟩⟩) (fun h0=>?_)
  case r0|r1|r2|r3|r4|r5|r6|r7=>first | rfl | (rw[Zm];done) | (simp only[SysM.enc,Yi];done) | (simp only[LensM.enc,Z4];done) | (simp only[Zm,Z4];omega) | (obtain ⟨a1,a2,a3,a4,a5,a6⟩:=hx;simp only[Qc_] at h0;subst a3;first | exact Zp (fun _=>rfl) (by omega) (by omega) | (simp only[Zm];omega) | (obtain ⟨x,t,e1,e2,e3⟩:=ZM (l:=fs) a1 (by omega);simp only[ZV e3];rfl) | exact ⟨by decide,by simp only[Qk_];omega,Yu (Yg (e:=Surf.enc) (fun _=>rfl) _) rfl⟩) | (simp only[Qf_,Zm,Z4,show (⟨l.name,l.back,l.faces⟩:LensM)=l from rfl] at h0;obtain ⟨⟨f,t,hf⟩,_⟩:=ZdZ h0;first | exact Zp (i:=0) (fun _=>rfl) (by omega) (by rw[hf];simp only[Qs_];omega) | skip) | skip
  all_goals (obtain ⟨a1,a2,a3,a4,a5,a6⟩:=hx;try simp only[Qc_,Qe_] at h0)
  all_goals subst a3
  all_goals first
   | (exact .inr ⟨by simp,_,rfl,.inr ⟨by unfold U9 WT;(try dsimp only);rw[List.drop_eq_nil_of_le (by omega)];rfl,by trivial,by unfold U9 ZcH;(try dsimp only);rw[List.drop_eq_nil_of_le (by omega),show ∀p q,pGo g w [] p q=[] from fun _ _=>rfl,List.append_nil];rfl⟩⟩)
   | (obtain ⟨x,t,e1,e2,e3⟩:=ZM (l:=fs) a1 (by omega)
      have hw:IntKind.i64.wrap (i+1)=i+1:=Ze (by constructor<;>omega)
      simp only[ZV e3,Zm] at *
      have eb:pGo g w (fs.drop i.toNat) pos ix=ZaT x pos (X0 x g w ix)::pGo g w (fs.drop (IntKind.i64.wrap (i+1)).toNat) (add pos (Zg x.thick)) (ZaQ x g w ix):=(by rw[hw,e1,e2];rfl)
      have hs:(!x.stop)=_:=h1
      have hr:X0 x g w ix=bif x.stop then point 65536 else Z8 ix (Zdn x.glass g w):=rfl
      have hn:ZaQ x g w ix=bif x.stop then ix else Zdn x.glass g w:=rfl
      simp only[Qi_,Qf_] at hs
      rw[hs] at hr hn
      simp only[Qb_,Qd_] at hr hn
      have hl:=h2
      first | change Xn (ZaT x pos (point 65536))=_ at hl | change Xn (ZaT x pos (Z8 ix (Zdn x.glass g w)))=_ at hl
      rw[←hr] at hl
      first
       | exact .inr ⟨by simp,_,rfl,.inl ⟨by unfold U9 WT;(try dsimp only);rw[eb,List.any_cons,hl];rfl,by trivial,rfl⟩⟩
       | (refine .inl ⟨by trivial,(IntKind.i64.wrap (i+1),fs,(fs.length:Int),g,⟨s.surfs++[ZaT x pos (X0 x g w ix)],s.op⟩,add pos (Zg x.thick),ZaQ x g w ix,w,z), ?_, ?_, ?_, ?_⟩
          ·rw[hr,hn];simp only[U9,Zkb,SysM.enc,QR_,QE_,QN_];rfl
          ·simp only[U9,Zbb,hw,Qx_,Qs_,Q1_];exact ⟨by omega,by omega,by trivial,a4,a5,by omega⟩
          ·simp only[hw];omega
          ·intro e s' h
           have ec:(pGo g w (fs.drop i.toNat) pos ix).any Xn=(pGo g w (fs.drop (IntKind.i64.wrap (i+1)).toNat) (add pos (Zg x.thick)) (ZaQ x g w ix)).any Xn:=(by rw[eb,QU_,hl];rfl)
           unfold U9 WT at h ⊢
           (try dsimp only at h ⊢)
           rw[ec]
           refine h.imp (fun h=>h) (fun h=>⟨h.1,h.2.1,h.2.2.trans ?_⟩)
           delta ZcH;(try dsimp only);rw[eb];simp only[List.append_assoc,List.cons_append,List.nil_append]))
theorem Zu0:ZN Tryz.prog [(7,Zke)] Tryz.f24:=ZI (l:=[Z6 Tryz.f24 0]) (by kernel_rfl) (ZR (i:=7) (by kernel_rfl) rfl Zrg (Z0))
def Zcp(l:LensM):=List.map Face.enc l.faces
def Zbh(l:LensM):=Zg (Dec.mk (Zd (((Zcp l).getD (0:Nat) []).tail.tail.tail.headD PV.nil)) (Zd (((Zcp l).getD (0:Nat) []).tail.tail.tail.tail.headD PV.nil)))
def Zcq(g:List Glass):=Zf Glass.dec (List.map Glass.enc g)
def q20_17:=SysM.mk (Zf Surf.dec []) (Iv.mk (0:Int) (0:Int) false)
def Zcr(l:LensM):=Zf Face.dec (Zcp l)
def Zk4(l:LensM):=SysM.mk (Zf Surf.dec []) (Zbh l)
def Zqb:=PV.tup [PV.agg [.nil,vI 0,vI 0,vB false],vI 6]
set_option maxHeartbeats 4000000 in
theorem Z20:Zj Tryz.prog 24 e24:=Zk<|Zi fun l=>Zi fun g=>Zi fun w=>EZ1 fun hp0=>by
 refine cfL Zmr Zu0 rfl ?_
 refine sxT (fun Q=>(((Zq l)=(LensM.mk l.name l.back (Zcr l)).enc)∧((List.map Glass.enc g=List.map Glass.enc (Zcq g))∧(((Zcq g).length≤(140737488355328:Nat)∧(Zcr l).length≤(140737488355328:Nat))∧(bif !XP (LensM.mk l.name l.back (Zcr l)) (Zcq g) then Q (PV.tup [PV.agg [.nil,vI 0,vI 0,vB false],vI 1]) else (((0:Int)≤(0:Int)∧(Zcp l)[(0:Nat)]?=some (Yt [vB false,vI 0,vI 0,vI 0,vI 0,vI 0,vI 0,vI 0,vI 0,vI 0,vI 0,vI 0,vI 0,PV.str []] ((Zcp l).getD (0:Nat) [])))∧((List.map Face.enc l.faces=List.map Face.enc (Zcr l))∧((List.map Glass.enc g=List.map Glass.enc (Zcq g))∧(([PV.lst [],vI (Zbh l).lo,vI (Zbh l).hi,vB (Zbh l).no]=(Zk4 l).enc)∧(([PV.lst [],vI 0,vI 0,vB false]=q20_17.enc)∧((Zbb (0:Int) (Zcr l) (↑(Zcp l).length) (Zcq g) (Zk4 l) (Zg l.back) (point (65536:Int)) w q20_17)∧(bif WT (0:Int) (Zcr l) (↑(Zcp l).length) (Zcq g) (Zk4 l) (Zg l.back) (point (65536:Int)) w q20_17 then Q Zqb else (bif (Zbh l).no then Q Zqb else Q (PV.tup [PV.agg [PV.lst (List.map Surf.enc (Zf Surf.dec []++pGo (Zcq g) w (List.drop (0:Nat) (Zcr l)) (Zg l.back) (point (65536:Int)))),vI (Zbh l).lo,vI (Zbh l).hi,vB (Zbh l).no],vI 0])))))))))))))) (fun _=>by kernel_rfl) ?_
 delta Qn Zbh Zcp Zcq q20_17 Zcr Zk4 Zqb Zq vI vB
 refine ⟨?r7,⟨?r6,⟨?r5,Za (fun h0=>?_) (fun h0=>⟨?r4,⟨?r3,⟨?r2,⟨?r1,⟨?r0,⟨?_,Za (fun h1=>?_) (fun h1=>Za (fun h2=>?_) (fun h2=>?_))⟩⟩⟩⟩⟩⟩)⟩⟩⟩
 case r0|r1|r2|r3|r4|r5|r6|r7=>first | rfl | (rw[Zm];done) | (simp only[SysM.enc,Yi];done) | (simp only[LensM.enc,Z4];done) | (simp only[Zm,Z4];omega) | (obtain ⟨a1,a2,a3,a4,a5,a6⟩:=hx;simp only[Qc_] at h0;subst a3;first | exact Zp (fun _=>rfl) (by omega) (by omega) | (simp only[Zm];omega) | (obtain ⟨x,t,e1,e2,e3⟩:=ZM (l:=fs) a1 (by omega);simp only[ZV e3];rfl) | exact ⟨by decide,by simp only[Qk_];omega,Yu (Yg (e:=Surf.enc) (fun _=>rfl) _) rfl⟩) | (simp only[Qf_,Zm,Z4,show (⟨l.name,l.back,l.faces⟩:LensM)=l from rfl] at h0;obtain ⟨⟨f,t,hf⟩,_⟩:=ZdZ h0;first | exact Zp (i:=0) (fun _=>rfl) (by omega) (by rw[hf];simp only[Qs_];omega) | skip) | skip
 all_goals (try simp only[Zm,Z4,Yi,Qi_,Qf_,Qk_,QG_,QO_,show Zf Surf.dec []=[] from rfl,QJ_,show (⟨l.name,l.back,l.faces⟩:LensM)=l from rfl] at *)
 ·simp only[ZX,h0,Qd_];rfl
 all_goals obtain ⟨⟨f,t,hf⟩,hl⟩:=ZdZ h0
 all_goals have ef:(List.map Face.enc l.faces).getD 0 []=Face.enc f:=(by rw[hf];rfl)
 all_goals simp only[ef] at *
 all_goals have e0:X8 l g w=⟨pGo g w l.faces (Zg l.back) (point 65536),Zg f.aperture⟩:=(by unfold X8 ZmX;rw[hf];rfl)
 ·exact ⟨by omega,by omega,by trivial,hl,hp0.1,rfl⟩
 ·have h1:(X8 l g w).surfs.any Xn=true:=(by rw[e0];exact h1)
  simp only[ZX,h0,h1,Qb_];rfl
 ·have h1:(X8 l g w).surfs.any Xn=false:=(by rw[e0];exact h1)
  have h2:(X8 l g w).op.no=true:=(by rw[e0];exact h2)
  simp only[ZX,h0,h1,h2,Qb_,Qd_];rfl
 ·have h1:(X8 l g w).surfs.any Xn=false:=(by rw[e0];exact h1)
  have h2:(X8 l g w).op.no=false:=(by rw[e0];exact h2)
  have e:ZX l g w=(X8 l g w,0):=(by simp only[ZX,h0,h1,h2,Qb_,Qd_])
  rw[e,e0];rfl
open Go
end Go.Men
namespace Go.Men
open Go.Ev Go.Proofs Go.Proofs.YtgfgjabeooohhaaGreatDoor
end Go.Men
namespace Go.Men
open Go Go.Ev
theorem Zu1{c:Int}(h:Y3 c=true):(c==10)=false∧(c==32)=false∧(c==9)=false∧(c==35)=false:=by
 unfold Y3 at h
 simp only[Ko_,Qh_,Qc_] at h
 refine ⟨?_, ?_, ?_, ?_⟩<;>simp<;>omega
theorem Zrh{s:List UInt8}(h:Yy s=true):tokens s=([⟨1,s,X5 0 1 0⟩,⟨3,[],X5 s.length 1 0⟩],WG,0):=by
 unfold Yy at h
 simp only[Qh_,Qc_] at h
 obtain ⟨h1,h2,h3,h4⟩:=h
 obtain ⟨a,t,rfl⟩:∃a t,s=a::t:=by cases s with
  | nil=>exact absurd h1 (by simp)
  | cons a t=>exact ⟨a,t,rfl⟩
 have hb:Xc (a::t) 0=(a.toNat:Int):=rfl
 have hl:Y3 (a.toNat:Int)=true:=h3
 obtain ⟨n1,n2,n3,n4⟩:=Zu1 hl
 have he:Zl Z5 (a::t) (0+1)=((a::t).length:Int):=by
  unfold Zl
  show (0+1:Int)+((t.takeWhile fun b=>Z5 (b.toNat:Int)).length:Int)=_
  have:t.all (fun b=>Z5 (b.toNat:Int))=true:=by
   rw[List.all_cons,Qh_] at h4
   exact h4.2
  rw[ZfN this,Qs_];omega
 have hs:Ji (a::t) 0 ((a::t).length:Int)=a::t:=by
  unfold Ji
  show List.take _ (a::t)=_
  rw[Ki_ (by simp)]
 unfold tokens
 rw[QQ_ (show ¬(((a::t).length:Int) > 4000) by omega),Qd_,ZcE,hb,n1,n2,n3,n4,hl,he,hs]
 have k0:((0:Int)==((a::t).length:Int))=false:=by simp;omega
 rw[k0,QQ_ (show ¬(((a::t).length:Int) - 0 > 20) by omega)]
 simp only[Qb_,Qd_,Bool.or_self]
 rw[show (a::t).length=t.length+1 from rfl,ZcE]
 have k1:(((t.length+1:Nat):Int)==((a::t).length:Int))=true:=by simp
 rw[k1];rfl
theorem Zk5{s:List UInt8}(h:Yy s=true):Zcf s=true:=by
 unfold Zcf
 rw[Zrh h]
 simp
theorem Zms{d:Dec}(h:printable d=true):Ya zeroDec d=decide (d.c > 0)∧Ya d zeroDec=decide (d.c < 0):=by
 obtain ⟨b1,b2⟩:=ZgB h
 have hr:ZA d=true:=by unfold printable at h;rw[Qh_] at h;exact h.1
 have p1:=Jz (6 - d.scale)
 unfold Ya
 rw[hr,show ZA zeroDec=true from rfl]
 simp only[Qp_]
 rw[show zeroDec.c *Z2 (6 - zeroDec.scale)=0 from by show (0:Int)*_=0;rw[Int.zero_mul]]
 constructor
 ·by_cases hc:d.c > 0
  ·rw[QH_ hc,QH_ (Int.mul_pos hc (by omega))]
  ·rw[QQ_ hc,QQ_]
   have:=Kr_ (show d.c≤0 by omega) (show 0≤Z2 (6 - d.scale) by omega)
   rw[Int.zero_mul] at this;omega
 ·by_cases hc:d.c < 0
  ·rw[QH_ hc,QH_]
   have:=Int.mul_lt_mul_of_pos_right hc (show 0 < Z2 (6 - d.scale) by omega)
   rw[Int.zero_mul] at this;exact this
  ·rw[QQ_ hc,QQ_]
   have:=Int.mul_nonneg (show 0≤d.c by omega) (show 0≤Z2 (6 - d.scale) by omega)
   omega
theorem Zqc(d:Dec):Jc d=(printable d&&decide (d.c > 0)):=by
 unfold Jc
 cases h:printable d with
 | false=>rfl
 | true=>rw[(Zms h).1]
theorem Z0h{r a:Dec}(h:printable r=true):ZjT r a=(r.c==0|| !Ya (ZcA r) a):=by
 obtain ⟨b1,b2⟩:=ZgB h
 have:((ZcA r).c==0)=(r.c==0):=by
  show (max r.c (w64 (0 - r.c))==0)=_
  rw[show w64 (0 - r.c)= -r.c from Xa (by constructor<;>omega)]
  rw[Bool.eq_iff_iff];simp;omega
 unfold ZjT
 rw[this]
def ZfH(f:Face):Prop:=f.stop=false→Yy f.glass=true
theorem Z0i{f:Face}(h:ZfH f)(g:List Glass):Yc f g=YF f g:=by
 unfold Yc YF
 rw[Zqc]
 cases printable f.aperture with
 | false=>rfl
 | true=>
   cases decide (f.aperture.c > 0) with
   | false=>rfl
   | true=>
     cases ht:printable f.thick with
     | false=>rfl
     | true=>
       rw[(Zms ht).2]
       cases decide (f.thick.c < 0) with
       | true=>rfl
       | false=>
         simp only[Qp_,Qt_]
         cases hs:f.stop with
         | true=>rfl
         | false=>
           simp only[Qd_]
           rw[Zk5 (h hs),h hs]
           cases hr:printable f.radius with
           | false=>rfl
           | true=>
             rw[Z0h hr]
             unfold ZgI
             cases (f.radius.c==0|| !Ya (ZcA f.radius) f.aperture)<;>cases printable f.conic<;>cases printable f.a4<;>cases printable f.a6<;>cases ((ZC g f.glass).2||f.glass==JX)<;>rfl
theorem Z0j{l:List Face}{p q:Face→Bool}(h:∀f∈l,p f=q f):(l.any fun f=> !p f)= !l.all q:=by
 induction l with
 | nil=>rfl
 | cons a l ih=>
   rw[QU_,List.all_cons,h a Qv_,ih fun f hf=>h f (Qq_ _ hf),Bool.not_and]
theorem Z0k{l:LensM}(g:List Glass)(h0:Yy l.name=true)(h:∀f∈l.faces,ZfH f):XP l g=Xm l g:=by
 unfold XP Xm
 rw[Zk5 h0,h0,Zqc,Z0j (q:=(YF · g)) (fun f hf=>Z0i (h f hf) g),Ke_]
 cases printable l.back<;>cases decide (l.back.c > 0)<;>cases decide (l.faces.length≤12)<;>cases l.faces.all (YF · g)<;>cases YO l.faces<;>rfl
theorem Zk6{d:Dec}(h:ZA d=true):Yf d=(d.c==0):=by
 unfold Yf
 cases hc:d.c==0 with
 | false=>rfl
 | true=>
   have hc:=eq_of_beq hc
   unfold ZA at h
   simp only[Qh_,Ko_,hc] at h
   rcases h.2.2.2.2 with h | h
   ·rw[h];rfl
   ·exact absurd h (by decide)
theorem Z0l{f:Face}{g:List Glass}(h:YF f g=true):ZmZ f=(!Yf f.a4|| !Yf f.a6):=by
 have key:ZA f.a4=true∧ZA f.a6=true∨Yf f.a4=true∧Yf f.a6=true:=by
  unfold YF at h
  simp only[Qh_] at h
  obtain ⟨_,_,_,_,h⟩:=h
  cases hs:f.stop with
  | true=>
    rw[hs] at h
    simp only[Qb_,Qh_] at h
    exact .inr ⟨h.2.2.1,h.2.2.2.1⟩
  | false=>
    rw[hs] at h
    simp only[Qd_,Qh_] at h
    obtain ⟨_,_,h4,h6,_⟩:=h
    unfold printable at h4 h6
    rw[Qh_] at h4 h6
    exact .inl ⟨h4.1,h6.1⟩
 unfold ZmZ
 rcases key with ⟨k1,k2⟩ | ⟨k1,k2⟩
 ·rw[Zk6 k1,Zk6 k2]
 ·rw[k1,k2]
  unfold Yf at k1 k2
  rw[Qh_] at k1 k2
  rw[k1.1,k2.1]
theorem Zzr(g:List Glass)(w:Iv):∀(l:List Face) (p q:Iv),(∀f∈l,YF f g=true)→pGo g w l p q=YZ g w l p q
 | [],_,_,_=>rfl
 | f::l,p,q,h=>by
   have e:ZaT f p (X0 f g w q)=Zag f p (X0 f g w q):=by
    unfold ZaT Zag
    rw[Z0l (h f Qv_)]
   show ZaT f p (X0 f g w q)::pGo g w l _ _=Zag f p (X0 f g w q)::YZ g w l _ _
   rw[e,Zzr g w l _ _ fun f' hf=>h f' (Qq_ _ hf)]
theorem Zmt(g:List Glass)(w:Iv):∀(l:List Face) (p q:Iv),right p= !p.no→(YZ g w l p q).any Xn= !(YZ g w l p q).all YG
 | [],_,_,_=>rfl
 | f::l,p,q,h=>by
   show (Xn _||(YZ g w l _ _).any Xn)= !(YG _&&(YZ g w l _ _).all YG)
   rw[ZsZ f g w p q h,Zmt g w l _ _ (ZaP _ _),Bool.not_and]
theorem ZyJ{l:LensM}(g:List Glass)(w:Iv)(h0:Yy l.name=true)(h:∀f∈l.faces,ZfH f):ZX l g w=Yb l g w:=by
 unfold ZX Yb
 rw[Z0k g h0 h]
 cases hr:Xm l g with
 | false=>rfl
 | true=>
   have hall:∀f∈l.faces,YF f g=true:=by
    unfold Xm at hr
    simp only[Qh_] at hr
    exact fun f hf=>QK_.1 hr.2.2.2.2.1 f hf
   have e:X8 l g w=Wc l g w:=by
    unfold X8 Wc
    rw[Zzr g w _ _ _ hall]
   rw[e]
   have e2:(Wc l g w).surfs.any Xn= !(Wc l g w).surfs.all YG:=Zmt g w _ _ _ (WO _)
   have e3:right (Wc l g w).op= !(Wc l g w).op.no:=WO _
   unfold WQ
   rw[e2,e3]
   simp only[Qb_]
   cases (Wc l g w).surfs.all YG<;>cases (Wc l g w).op.no<;>rfl
theorem ZwM:∀n:Fin 100,Yy (120::digits (n.val:Int))=true:=by decide+kernel
theorem ZwN(back:Int):Yy (120::digits (pick back 100))=true:=by
 have:=YE (n:=back) (m:=100) (by omega)
 have h:=ZwM ⟨(pick back 100).toNat,by omega⟩
 simp only at h
 rw[show (((pick back 100).toNat:Nat):Int)=pick back 100 by omega] at h
 exact h
theorem Z0m:∀n:Fin 3,Yy (103::digits (n.val:Int))=true:=by decide+kernel
theorem Zmu:∀(k:Nat) (l:List I) (i:Int),0≤i→∀x∈Zby k l i,Yy x.name=true
 | 0,_,_,_,x,hx=>absurd hx (by simp[Zby])
 | k+1,l,i,h0,x,hx=>by
   rw[ZgD] at hx
   cases hc:(decide (i < (l.length:Int))&&decide (i < 3)) with
   | false=>rw[hc] at hx;exact absurd hx (by simp)
   | true=>
     rw[hc,Qb_] at hx
     rw[Qh_,Qc_,Qc_] at hc
     rcases Q9_.1 hx with rfl | hx
     ·have h:=Z0m ⟨i.toNat,by omega⟩
      simp only at h
      rw[show ((i.toNat:Nat):Int)=i by omega] at h
      exact h
     ·exact Zmu k l (i+1) (by omega) x hx
theorem Zqd(raw:List I):∀x∈ZT raw,Yy x.name=true:=fun x hx=>by
 unfold ZT at hx
 rcases Kv_.1 hx with hx | hx
 ·rcases Q9_.1 hx with rfl | hx
  ·decide
  ·rcases Q9_.1 hx with rfl | hx
   ·decide
   ·cases hx
 ·exact Zmu 3 raw 0 (by omega) x hx
theorem ZmF{g:List Glass}(hg:∀x∈g,Yy x.name=true)(hl:g.length≤1000000)(f:RawFace)(i:Int):ZfH (J2 f i g):=by
 intro hs
 unfold J2 at hs ⊢
 cases hk:(pick f.kind 6==5&&decide (i > 0)) with
 | true=>rw[hk] at hs;exact absurd hs (by simp)
 | false=>
   show Yy (ZdT f g)=true
   unfold ZdT
   cases hc:decide (pick f.g (IntKind.i64.wrap ((g.length:Int)+2)) < (g.length:Int)) with
   | false=>show Yy JX=true;decide
   | true=>
     simp only[Qb_]
     have hc:=Qy_ hc
     have hb:=YE (n:=f.g) (m:=IntKind.i64.wrap ((g.length:Int)+2)) (by rw[Ze (by constructor<;>omega)];omega)
     have hk:(pick f.g (IntKind.i64.wrap ((g.length:Int)+2))).toNat < g.length:=by omega
     rw[Q7_,Qg_ hk]
     exact hg _ (K3_ hk)
theorem Zin{g:List Glass}(hg:∀x∈g,Yy x.name=true)(hl:g.length≤1000000)(most:Int):∀(l:List RawFace) (i:Int) (out:List Face),(∀f∈out,ZfH f)→∀f∈X6 g most l i out,ZfH f
 | [],_,out,h=>h
 | r::l,i,out,h=>by
   rw[Zep]
   cases decide ((out.length:Int) < most) with
   | false=>exact h
   | true=>
     refine Zin hg hl most l (i+1) _ fun f hf=>?_
     rcases Kv_.1 hf with hf | hf
     ·exact h f hf
     ·rcases Q9_.1 hf with rfl | hf
      ·exact ZmF hg hl r i
      ·cases hf
theorem ZwO{g:List Glass}(hg:∀x∈g,Yy x.name=true)(hl:g.length≤1000000)(back:Int)(l:List RawFace)(most:Int):Yy (YP back l g most).name=true∧∀f∈(YP back l g most).faces,ZfH f:=by
 refine ⟨ZwN back,fun f hf=>?_⟩
 have h:=Zin hg hl most l 0 [] (fun f hf=>by cases hf)
 unfold YP ZdU at hf
 simp only at hf
 cases hc:((X6 g most l 0 []).length==0|| !YO (X6 g most l 0 [])) with
 | false=>rw[hc] at hf;exact h f hf
 | true=>
   rw[hc] at hf
   rcases Kv_.1 hf with hf | hf
   ·exact h f hf
   ·rcases Q9_.1 hf with rfl | hf
    ·exact fun _=>by decide
    ·cases hf
theorem ZfI(x:LensM):LensM.mk x.name x.back x.faces=x:=rfl
theorem XG(x:SysM):SysM.mk x.surfs x.op=x:=rfl
theorem Zu2(back:Int)(l:List RawFace)(raw:List I)(most:Int)(g:List Glass)(w:Iv):ZX (YP back l (ZT raw) most) g w=Yb (YP back l (ZT raw) most) g w:=by
 have hl:=ZdV raw
 obtain ⟨h1,h2⟩:=ZwO (Zqd raw) (by omega) back l most
 exact ZyJ g w h1 h2
end Go.Men
namespace Go.Men
open Go.Ev Go.Proofs Go.Proofs.YtgfgjabeooohhaaGreatDoor
end Go.Men
