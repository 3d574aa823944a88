/- A logic of frames, its evaluator for values known in part, and what the functions that the law reaches are shown to do: written for this claim. Part E. -/
import Derived.Test.YtgfgjabeooohhaaGreatDoorStD
import Derived.KernelRfl
import Derived.Deep.Slices
import Derived.Carry
import Derived.OpenShut
import Derived.ChangeMaps5
import Derived.Deep.DeepHandedRow
set_option linter.all false
set_option maxRecDepth 100000
namespace Go.Men
open Go.Ev Go.Proofs Go.Proofs.YtgfgjabeooohhaaGreatDoor
def ZfJ(l:LensM):=Zi Face.dec (List.map Face.enc l.faces)
theorem Z2x:Zj Tryz.prog 30 e30:=Zk<|Zh fun l=>Zh fun g=>EZ1 fun hp0=>by
 refine cf0 (Zb Z2w<|Zb Zun<|Zb Zze<|Zb Zzd<|Zg) (fn:=Tryz.f30) rfl ?_
 refine sxT (fun Q=>((List.map Face.enc l.faces=List.map Face.enc (ZfJ l))∧(([PV.lst (List.map Glass.enc g)]=(GL.mk (Zi Glass.dec (List.map Glass.enc g))).enc)∧(((ZfJ l).length≤(140737488355328:Nat)∧(Zi Glass.dec (List.map Glass.enc g)).length≤(140737488355328:Nat))∧((List.map Face.enc l.faces=List.map Face.enc (ZfJ l))∧(((ZfJ l).length≤(140737488355328:Nat))∧(bif Zcf l.name then (bif Ja l.back then (bif decide (↑(List.map Face.enc l.faces).length≤(12:Int)) then (bif (ZfJ l).any fun f=> !f.stop then Q (vB (!(ZfJ l).any fun f=> !ZU f (GL.dec [PV.lst (List.map Glass.enc g)]).g)) else Q (vB false)) else Q (vB false)) else Q (vB false)) else Q (vB false)))))))) (fun _=>by kernel_rfl) ?_
 delta Qn ZfJ vB
 refine ⟨?r4,⟨?r3,⟨?r2,⟨?r1,⟨?r0,Za (fun h0=>Za (fun h1=>Za (fun h2=>Za (fun h3=>?_) (fun h3=>?_)) (fun h2=>?_)) (fun h1=>?_)) (fun h0=>?_)⟩⟩⟩⟩⟩
 case r0|r1|r2|r3|r4=>first | rfl | (rw[ZI];done) | (simp only[GL.enc,Zp];done) | (simp only[GL.enc,GL.dec,Zp];rfl) | (simp only[ZI,GL.dec,Zp];omega) | (simp only[ZI,show (GL.dec [PV.lst (List.map Glass.enc g)]).g=Zi Glass.dec (List.map Glass.enc g) from rfl,Zp];omega) | skip
 all_goals (try simp only[ZI,show (GL.dec [PV.lst (List.map Glass.enc g)]).g=Zi Glass.dec (List.map Glass.enc g) from rfl,Zp,Qi_,Qf_,Qk_] at *)
 all_goals (try (have e:decide (l.faces.length≤12)=true:=(by simp only[Qc_] at h2;exact QH_ (by omega))))
 all_goals (try (have e:decide (l.faces.length≤12)=false:=(by simp only[Qe_] at h2;exact QQ_ (by omega))))
 all_goals simp only[W6,YL, *,Qp_,Ql_,Qr_,Qn_,Qu_,Qt_]
 all_goals first | rfl | skip
theorem Z1O:Zj Tryz.prog 120 Z3x:=Zk<|Zh fun g=>Zh fun w=>EZ0<|by
 refine cf0 (Zb ZhR<|Zb Zwl<|Zb ZtB<|Zb Z2d<|Zb Z2b<|Zb Zt6<|Zb Znd<|Zb Z1r<|Zg) (fn:=Tryz.f120) rfl ?_
 refine sxT (fun Q=>(bif g.name==[(97:UInt8),(105:UInt8),(114:UInt8)] then Q (PV.agg [vI 65536,vI 65536,vB false]) else (((0:Int)≤(0:Int)∧(0:Int) < (3:Int))∧(((0:Int)≤(0:Int)∧(0:Int) < (3:Int))∧(((0:Int)≤(1:Int)∧(1:Int) < (3:Int))∧(((0:Int)≤(1:Int)∧(1:Int) < (3:Int))∧(((0:Int)≤(2:Int)∧(2:Int) < (3:Int))∧(((0:Int)≤(2:Int)∧(2:Int) < (3:Int))∧Q (PV.agg (eIv (W3 (add (add (add (point (65536:Int)) (ZE (Wi (Ze g.b.a) (sqr w)) (sub (sqr w) (Ze g.c.a)))) (ZE (Wi (Ze g.b.b) (sqr w)) (sub (sqr w) (Ze g.c.b)))) (ZE (Wi (Ze g.b.c) (sqr w)) (sub (sqr w) (Ze g.c.c))))))))))))))) (fun _=>by kernel_rfl) ?_
 delta Qn eIv vI vB
 refine Za (fun h0=>?_) (fun h0=>⟨?r5,⟨?r4,⟨?r3,⟨?r2,⟨?r1,⟨?r0, ?_⟩⟩⟩⟩⟩⟩)
 case r0|r1|r2|r3|r4|r5=>first | rfl | exact ⟨by decide,by decide⟩ | skip
 ·have e:(g.name==Jf)=true:=h0
  simp only[W5,e,Qb_];rfl
 ·have e:(g.name==Jf)=false:=h0
  simp only[W5,e,Qd_,Zce];rfl
def ZhX(g:List Glass):=Zi Glass.dec (List.map Glass.enc g)
theorem Z2y:Zj Tryz.prog 62 e62:=Zk<|Zh fun n=>Zh fun g=>Zh fun w=>EZ1 fun hp0=>by
 refine cf0 (Zb ZhR<|Zb Zw2<|Zb Z1O<|Zg) (fn:=Tryz.f62) rfl ?_
 refine sxT (fun Q=>(bif n==[(97:UInt8),(105:UInt8),(114:UInt8)] then Q (PV.agg [vI 65536,vI 65536,vB false]) else ((List.map Glass.enc g=List.map Glass.enc (ZhX g))∧(((ZhX g).length≤(140737488355328:Nat))∧(((W7 (Z8 (ZhX g) n).fst)=(Z8 (ZhX g) n).fst.enc)∧Q (PV.agg (eIv (W5 (Z8 (ZhX g) n).fst w)))))))) (fun _=>by kernel_rfl) ?_
 delta Qn ZhX eIv W7 vI vB
 refine Za (fun h0=>?_) (fun h0=>⟨?r2,⟨?r1,⟨?r0, ?_⟩⟩⟩)
 case r0|r1|r2=>first | rfl | (rw[Zp];done) | (simp only[Zp];omega) | skip
 all_goals (try simp only[Zp] at *)
 ·have e:(n==Jf)=true:=h0
  simp only[Zdq,e,Qb_];rfl
 ·have e:(n==Jf)=false:=h0
  simp only[Zdq,e,Qd_];rfl
def JV(f:Face):=add (point (65536:Int)) (Ze f.conic)
def ZfK(f:Face):=ZE (point (65536:Int)) (Ze f.radius)
def JW(f:Face):=sqr (Ze f.aperture)
theorem Z2z:Zj Tryz.prog 61 e61:=Zk<|Zh fun f=>EZ0<|by
 refine cf0 (Zb ZhR<|Zb ZtB<|Zb Zt6<|Zb Znd<|Zb Zwl<|Zg) (fn:=Tryz.f61) rfl ?_
 refine sxT (fun Q=>(bif f.radius.c !=(0:Int) then (bif f.a4.c !=(0:Int) then Q (PV.agg [vB f.stop,vB true,vI (ZfK f).lo,vI (ZfK f).hi,vB (ZfK f).no,vI (JV f).lo,vI (JV f).hi,vB (JV f).no,vI (Ze f.a4).lo,vI (Ze f.a4).hi,vB (Ze f.a4).no,vI (Ze f.a6).lo,vI (Ze f.a6).hi,vB (Ze f.a6).no,vI 0,vI 0,vB false,vI (JW f).lo,vI (JW f).hi,vB (JW f).no,vI 65536,vI 65536,vB false]) else Q (PV.agg [vB f.stop,vB (f.a6.c !=(0:Int)),vI (ZfK f).lo,vI (ZfK f).hi,vB (ZfK f).no,vI (JV f).lo,vI (JV f).hi,vB (JV f).no,vI (Ze f.a4).lo,vI (Ze f.a4).hi,vB (Ze f.a4).no,vI (Ze f.a6).lo,vI (Ze f.a6).hi,vB (Ze f.a6).no,vI 0,vI 0,vB false,vI (JW f).lo,vI (JW f).hi,vB (JW f).no,vI 65536,vI 65536,vB false])) else (bif f.a4.c !=(0:Int) then Q (PV.agg [vB f.stop,vB true,vI 0,vI 0,vB false,vI (JV f).lo,vI (JV f).hi,vB (JV f).no,vI (Ze f.a4).lo,vI (Ze f.a4).hi,vB (Ze f.a4).no,vI (Ze f.a6).lo,vI (Ze f.a6).hi,vB (Ze f.a6).no,vI 0,vI 0,vB false,vI (JW f).lo,vI (JW f).hi,vB (JW f).no,vI 65536,vI 65536,vB false]) else Q (PV.agg [vB f.stop,vB (f.a6.c !=(0:Int)),vI 0,vI 0,vB false,vI (JV f).lo,vI (JV f).hi,vB (JV f).no,vI (Ze f.a4).lo,vI (Ze f.a4).hi,vB (Ze f.a4).no,vI (Ze f.a6).lo,vI (Ze f.a6).hi,vB (Ze f.a6).no,vI 0,vI 0,vB false,vI (JW f).lo,vI (JW f).hi,vB (JW f).no,vI 65536,vI 65536,vB false])))) (fun _=>by kernel_rfl) ?_
 delta Qn JV ZfK JW vI vB
 refine Za (fun h0=>Za (fun h1=>?_) (fun h1=>?_)) (fun h0=>Za (fun h1=>?_) (fun h1=>?_))
 all_goals (try simp only[Qi_,Qf_,bne] at *)
 all_goals first | (simp only[ZaZ,Znc,ZcT,bne, *,Qu_,Qt_,Qb_,Qd_,Q4_,Qw_,ZV,Qp_,Ql_];first | done | rfl) | skip
theorem ZpO:Zj Tryz.prog 125 Z1j:=Zk<|Zh fun a=>EZ0<|by
 refine cf0 Zg (fn:=Tryz.f125) rfl ?_
 refine sxT (fun Q=>Q (vB a.no)) (fun _=>by kernel_rfl) ?_
 delta Qn vB
 refine ?_
 all_goals (try simp only[Qi_,Qf_,bne] at *)
 all_goals first | rfl | (simp only[a.no,Zu,Zr,List.foldl,Qr_,Qp_,Ql_,Qn_,Q5_,Q4_,Qw_,Q3_,Qu_,Qt_,Qb_,Qd_,QD_,Q8_, *];done) | (simp only[a.no,Zu,Zr,List.foldl,Qr_,Qp_,Ql_,Qn_,Q5_,Q4_,Qw_,Q3_,Qu_,Qt_,Qb_,Qd_,QD_,Q8_, *];first | rfl | (simp only[nz,nzA,nz1,QE_,QN_,Iv.enc,V.enc,Ray.enc, *];first | done | rfl)) | (simp_all[nz,nzA,nz1,Iv.enc,V.enc,Ray.enc,Dec.enc,Shape.enc,none',told,K4_,a.no];done) | (simp_all[nz,nzA,nz1,Iv.enc,V.enc,Ray.enc,Dec.enc,Shape.enc,none',told,K4_,a.no];omega) | (simp_all[nz,nzA,nz1,Iv.enc,V.enc,Ray.enc,Dec.enc,Shape.enc,none',told,K4_,a.no];(repeat' split)<;>(first | rfl | (exfalso;omega) | (simp_all;done) | omega))
def Z1P:=YY [(125,Z1j)]
theorem ZrO:CSOk Tryz.prog Z1P:=Zb ZpO<|Zg
theorem Zw6:Yl Tryz.prog (Z9 Tryz.f158 0) ZiW:=by
 refine Za0 Zs.Γ (ZF Zs ZrO ZR ZS ZX (LS:=[]) (Yo (l:=[]) (by kernel_rfl) Z2) (n:=2000) (U3 ZoZ) (U3 Zb6) (fun x e s=>((U3 J7 x=true∧e= .ret∧s=U3 ZfC x)∨(U3 J7 x=false∧e= .exit 0∧s=U3 ZiV x))) (fun x=>(x.2.2 - x.1).toNat) ZiU ZvR ZvS (fun x hx=>?_)) ZiU ?_
 ·obtain ⟨i,l,m⟩:=x
  simp only[U3,Zb6] at hx
  refine sxT (fun Q=>(bif decide (i < m) then (((0:Int)≤i∧(List.map Iv.enc l)[i.toNat]?=some (YK [vI 0,vI 0,vB false] ((List.map Iv.enc l).getD i.toNat [])))∧(bif (Iv.dec ((List.map Iv.enc l).getD i.toNat [])).no then Q (Ex.ret) (some ⟨19,[(4,pI i)],[],[],[],[]⟩) else Q (Ex.normal) (some ⟨19,[(8,AV.p (vI (IntKind.i64.wrap (i+(1:Int))))),(0,AV.p (PV.lst (List.map Iv.enc l))),(1,AV.p (PV.fn (125:FuncId) [])),(7,pI m)],[],[],[],[]⟩))) else Q (Ex.exit (0:Nat)) (some ⟨19,[],[],[],[],[]⟩))) (fun _=>by kernel_rfl) ?_
  delta vI vB pI
  refine Za (fun h0=>⟨?r0,Za (fun h1=> .inr ⟨by simp,_,rfl, ?_⟩) (fun h1=> .inl ⟨rfl,(IntKind.i64.wrap (i+(1:Int)),l,m),rfl, ?_, ?_, ?_⟩)⟩) (fun h0=> .inr ⟨by simp,_,rfl, ?_⟩)
  case r0=>first | rfl | (rw[dIv];done) | (simp only[dIv];first | done | omega | exact hp0) | omega | (obtain ⟨a1,a2,a3,a4⟩:=hx;simp only[Qc_] at h0;exact Zv (fun _=>rfl) (by omega) (by omega)) | (obtain ⟨a1,a2,a3,a4⟩:=hx;simp only[Qc_] at h0;obtain ⟨x,r,e1,e2,e3⟩:=Yg (l:=l) a1 (by omega);rw[Yp e3];rfl) | (simp[Zi];done) | skip
  all_goals try dsimp only[U3]
  all_goals (try obtain ⟨a1,a2,a3,a4⟩:=hx)
  all_goals (try simp only[Qc_,Qe_] at h0)
  ·obtain ⟨x,r,e1,e2,e3⟩:=Yg (l:=l) a1 (by omega)
   rw[Yp e3] at h1
   try rw[Zp] at h1
   refine .inl ⟨?_,rfl, ?_⟩
   ·simp only[U3,J7,e1,QU_]
    rw[show x.no=true from h1];rfl
   ·simp only[U3,ZfC,e1,X2]
    rw[show x.no=true from h1];rfl
  ·rw[Zf (by constructor<;>omega)];simp only[U3,Zb6];omega
  ·show (m - IntKind.i64.wrap (i+1)).toNat < (m - i).toNat
   rw[Zf (by constructor<;>omega)];omega
  ·obtain ⟨x,r,e1,e2,e3⟩:=Yg (l:=l) a1 (by omega)
   rw[Yp e3] at h1
   try rw[Zp] at h1
   have hp:x.no=false:=h1
   rw[Zf (by constructor<;>omega)]
   simp only[U3,J7,ZfC,ZiV,e1,e2,QU_,hp,Qw_,X2,Qd_]
   exact fun e s h=>h
  ·refine .inr ⟨?_,rfl,rfl⟩
   simp only[U3,J7]
   rw[Q0_ (by omega)];rfl
 ·intro σ K hS
  unfold ZiW at hS
  split at hS
  ·rename_i p1 p2 p3 hk
   obtain ⟨hi,hK⟩:=XH hS
   refine ⟨(p1,(Zi Iv.dec p2),p3),by
    simp only[ZoZ]
    rw[←(show p2=(Zi Iv.dec p2).map Iv.enc from hi _ (by simp))]
    exact hk,hi _ (by simp),fun e s hf=>?_⟩
   dsimp only[U3] at hf
   rcases hf with ⟨hc,rfl,rfl⟩ | ⟨hc,hf⟩
   ·rw[hc] at hK;exact hK
   ·rw[hc] at hK;obtain ⟨rfl,rfl⟩:=hf;exact hK
  ·exact hS.elim
theorem Zy3:ZQ Tryz.prog [(3,ZiW)] Tryz.f158:=ZM (l:=[Z9 Tryz.f158 0]) (by kernel_rfl) (Ya (i:=3) (by kernel_rfl) rfl Zw6 (Z2))
def Zk2(l:List Iv):=Zi Iv.dec (List.map Iv.enc l)
theorem Zy4(l:List Iv)(hp0:l.length≤140737488355328):Con Tryz.prog 158 [.lst (l.map Iv.enc),.fn 125 []] (.v (.int .i64 (X2 (fun f=>f.no) l 0))):=by
 refine cfL ZrO Zy3 rfl ?_
 refine sxT (fun Q=>((List.map Iv.enc l=List.map Iv.enc (Zk2 l))∧((Zb6 (0:Int) (Zk2 l) ↑(List.map Iv.enc l).length)∧(bif J7 (0:Int) (Zk2 l) ↑(List.map Iv.enc l).length then Q (vI (X2 (fun f=>f.no) (List.drop (0:Nat) (Zk2 l)) (0:Int))) else Q (vI (-1)))))) (fun _=>by kernel_rfl) ?_
 delta Qn Zk2 vI
 refine ⟨?r0,⟨?_,Za (fun h0=>?_) (fun h0=>?_)⟩⟩
 case r0=>first | rfl | (rw[dIv];done) | (simp only[dIv];first | done | omega | exact hp0) | omega | (obtain ⟨a1,a2,a3,a4⟩:=hx;simp only[Qc_] at h0;exact Zv (fun _=>rfl) (by omega) (by omega)) | (obtain ⟨a1,a2,a3,a4⟩:=hx;simp only[Qc_] at h0;obtain ⟨x,r,e1,e2,e3⟩:=Yg (l:=l) a1 (by omega);rw[Yp e3];rfl) | (simp[Zi];done) | skip
 all_goals simp only[dIv,Qk_] at *
 ·simp only[Zb6,Qk_,true_and];omega
 ·simp[nz,nzA]
 ·rw[ZhK (by simpa [J7] using h0)];rfl
theorem Z1Q:Zj Tryz.prog 158 Z1k:=by
 intro args r ps h hp
 unfold Z1k at h
 split at h
 ·rename_i p1
  cases (Qa_ h)
  exact by
   have hq:=Zy4 (Zi Iv.dec p1) (hp _ (by simp))
   rw[←(show p1=(Zi Iv.dec p1).map Iv.enc from hp _ (by simp))] at hq
   exact hq
 ·exact absurd h (by simp)
theorem Zy5(l:List Iv)(hp0:l.length≤140737488355328):Con Tryz.prog 124 [.lst (l.map Iv.enc),.fn 125 []] (.v (.bool (l.any (fun f=>f.no)))):=by
 refine cf0 (Zb Z1Q<|Zb ZpO<|Zg) (fn:=Tryz.f124) rfl ?_
 refine sxT (fun Q=>((List.map Iv.enc l=List.map Iv.enc (Zi Iv.dec (List.map Iv.enc l)))∧(((Zi Iv.dec (List.map Iv.enc l)).length≤(140737488355328:Nat))∧Q (vB (decide (X2 (fun f=>f.no) (Zi Iv.dec (List.map Iv.enc l)) (0:Int)≥(0:Int))))))) (fun _=>by kernel_rfl) ?_
 delta Qn vB
 refine ⟨?r1,⟨?r0, ?_⟩⟩
 case r0|r1=>first | rfl | (rw[dIv];done) | (simp only[dIv];first | done | omega | exact hp0) | omega | (simp[Zi];done) | skip
 simp only[dIv] at *
 simp only[nz,nzA]
 rw[ZhL (by omega)]
theorem Z1R:Zj Tryz.prog 124 Z1l:=by
 intro args r ps h hp
 unfold Z1l at h
 split at h
 ·rename_i p1
  cases (Qa_ h)
  exact by
   have hq:=Zy5 (Zi Iv.dec p1) (hp _ (by simp))
   rw[←(show p1=(Zi Iv.dec p1).map Iv.enc from hp _ (by simp))] at hq
   exact hq
 ·exact absurd h (by simp)
def Zn0(s:Surf):=[(eIv s.curve),(eIv s.conic),(eIv s.a4),(eIv s.a6),(eIv s.pos),(eIv s.open2),(eIv s.ratio)]
theorem Z20:Zj Tryz.prog 64 e64:=Zk<|Zh fun s=>EZ0<|by
 refine cf0 (Zb Z1R<|Zb ZpO<|Zg) (fn:=Tryz.f64) rfl ?_
 refine sxT (fun Q=>(((Zn0 s)=List.map Iv.enc (Zi Iv.dec (Zn0 s)))∧(((7:Nat)≤(140737488355328:Nat))∧Q (vB ((Zi Iv.dec (Zn0 s)).any fun f=>f.no))))) (fun _=>by kernel_rfl) ?_
 delta Qn Zn0 eIv vI vB
 refine ⟨?r1,⟨?r0, ?_⟩⟩
 case r0|r1=>first | rfl | (exact (by decide:7≤140737488355328)) | skip
 simp only[Xp]
 show PV.v (Value.bool (s.curve.no||(s.conic.no||(s.a4.no||(s.a6.no||(s.pos.no||(s.open2.no||(s.ratio.no||false))))))))=_
 rw[Q3_]
def Zd8(s:SysM):=List.map Surf.enc s.surfs
def Zk3(s:SysM):=(Zd8 s).getD (IntKind.i64.wrap (↑(Zd8 s).length - (1:Int))).toNat []
theorem Zzg:Zj Tryz.prog 39 e39:=Zk<|Zh fun s=>EZ1 fun hp0=>by
 refine cf0 (Zb JR<|Zg) (fn:=Tryz.f39) rfl ?_
 refine sxT (fun Q=>(bif ↑(Zd8 s).length==(0:Int) then Q (PV.agg [vI 0,vI 0,vB true]) else (((0:Int)≤IntKind.i64.wrap (↑(Zd8 s).length - (1:Int))∧(Zd8 s)[(IntKind.i64.wrap (↑(Zd8 s).length - (1:Int))).toNat]?=some (YK [vB false,vB false,vI 0,vI 0,vB false,vI 0,vI 0,vB false,vI 0,vI 0,vB false,vI 0,vI 0,vB false,vI 0,vI 0,vB false,vI 0,vI 0,vB false,vI 0,vI 0,vB false] (Zk3 s)))∧Q (PV.agg [vI (Zd ((Zk3 s).tail.tail.tail.tail.tail.tail.tail.tail.tail.tail.tail.tail.tail.tail.headD PV.nil)),vI (Zd ((Zk3 s).tail.tail.tail.tail.tail.tail.tail.tail.tail.tail.tail.tail.tail.tail.tail.headD PV.nil)),vB (Zl ((Zk3 s).tail.tail.tail.tail.tail.tail.tail.tail.tail.tail.tail.tail.tail.tail.tail.tail.headD PV.nil))])))) (fun _=>by kernel_rfl) ?_
 delta Qn Zk3 Zd8 vI vB
 refine Za (fun h0=>?_) (fun h0=>⟨?r0, ?_⟩)
 case r0=>first | rfl | (have h0:¬((s.surfs.length:Int)=0):=(by simpa using h0);rw[Zf (by constructor<;>(simp only[Qk_];omega))];simp only[Qk_];exact Zv (fun _=>rfl) (by omega) (by omega)) | skip
 all_goals (try simp only[Qk_] at *)
 ·simp only[YC,h0,Qb_];rfl
 ·have h1:¬((s.surfs.length:Int)=0):=(by simpa using h0)
  rw[Zf (by constructor<;>omega)]
  obtain ⟨x,t,e1,e2,e3⟩:=Yg (l:=s.surfs) (i:=(s.surfs.length:Int) - 1) (by omega) (by omega)
  have eD:s.surfs.getD ((s.surfs.length:Int) - 1).toNat ZiD=x:=(by rw[Q7_,e3];rfl)
  simp only[YC,h0,Qd_,eD,Yp e3];rfl
def Zd9(s:SysM):=List.map Surf.enc s.surfs
def Zhm(s:SysM):=(Zd9 s).getD (IntKind.i64.wrap (↑(Zd9 s).length - (1:Int))).toNat []
theorem Z21:Zj Tryz.prog 44 e44:=Zk<|Zh fun s=>EZ1 fun hp0=>by
 refine cf0 (Zb Zbi<|Zg) (fn:=Tryz.f44) rfl ?_
 refine sxT (fun Q=>(bif ↑(Zd9 s).length==(0:Int) then Q (PV.agg [vI 0,vI 0,vB true]) else (((0:Int)≤IntKind.i64.wrap (↑(Zd9 s).length - (1:Int))∧(Zd9 s)[(IntKind.i64.wrap (↑(Zd9 s).length - (1:Int))).toNat]?=some (YK [vB false,vB false,vI 0,vI 0,vB false,vI 0,vI 0,vB false,vI 0,vI 0,vB false,vI 0,vI 0,vB false,vI 0,vI 0,vB false,vI 0,vI 0,vB false,vI 0,vI 0,vB false] (Zhm s)))∧Q (PV.agg [vI (Zd ((Zhm s).tail.tail.tail.tail.tail.tail.tail.tail.tail.tail.tail.tail.tail.tail.headD PV.nil)),vI (Zd ((Zhm s).tail.tail.tail.tail.tail.tail.tail.tail.tail.tail.tail.tail.tail.tail.tail.headD PV.nil)),vB (Zl ((Zhm s).tail.tail.tail.tail.tail.tail.tail.tail.tail.tail.tail.tail.tail.tail.tail.tail.headD PV.nil))])))) (fun _=>by kernel_rfl) ?_
 delta Qn Zhm Zd9 vI vB
 refine Za (fun h0=>?_) (fun h0=>⟨?r0, ?_⟩)
 case r0=>first | rfl | (have h0:¬((s.surfs.length:Int)=0):=(by simpa using h0);rw[Zf (by constructor<;>(simp only[Qk_];omega))];simp only[Qk_];exact Zv (fun _=>rfl) (by omega) (by omega)) | skip
 all_goals (try simp only[Qk_] at *)
 ·simp only[YC,h0,Qb_];rfl
 ·have h1:¬((s.surfs.length:Int)=0):=(by simpa using h0)
  rw[Zf (by constructor<;>omega)]
  obtain ⟨x,t,e1,e2,e3⟩:=Yg (l:=s.surfs) (i:=(s.surfs.length:Int) - 1) (by omega) (by omega)
  have eD:s.surfs.getD ((s.surfs.length:Int) - 1).toNat ZiD=x:=(by rw[Q7_,e3];rfl)
  simp only[YC,h0,Qd_,eD,Yp e3];rfl
def Zy6:=YY [(30,e30),(59,e59),(60,e60),(61,e61),(62,e62),(63,e63),(64,e64),(37,e37)]
set_option maxHeartbeats 4000000 in
def X8(i:Int)(fs:List Face):=(List.map Face.enc fs).getD i.toNat []
def ZC(i:Int)(fs:List Face):=ZaZ (Face.dec (X8 i fs)) Zaj (point (65536:Int))
def ZpP(i:Int)(fs:List Face):=Wh ((X8 i fs).tail.tail.tail.tail.tail.tail.tail.tail.tail.tail.tail.tail.tail.headD PV.nil)
def ZhY(i:Int)(fs:List Face)(g:List Glass)(w:Iv):=Zdq (ZpP i fs) (Zi Glass.dec (List.map Glass.enc g)) w
def Zn1(i:Int)(fs:List Face)(g:List Glass)(pos:Iv)(ix:Iv)(w:Iv):=[vB (ZC i fs).stop,vB (ZC i fs).bent,vI (ZC i fs).curve.lo,vI (ZC i fs).curve.hi,vB (ZC i fs).curve.no,vI (ZC i fs).conic.lo,vI (ZC i fs).conic.hi,vB (ZC i fs).conic.no,vI (ZC i fs).a4.lo,vI (ZC i fs).a4.hi,vB (ZC i fs).a4.no,vI (ZC i fs).a6.lo,vI (ZC i fs).a6.hi,vB (ZC i fs).a6.no,vI pos.lo,vI pos.hi,vB pos.no,vI (ZC i fs).open2.lo,vI (ZC i fs).open2.hi,vB (ZC i fs).open2.no,vI (ZE ix (ZhY i fs g w)).lo,vI (ZE ix (ZhY i fs g w)).hi,vB (ZE ix (ZhY i fs g w)).no]
def Zn2(i:Int)(fs:List Face)(pos:Iv):=[vB (ZC i fs).stop,vB (ZC i fs).bent,vI (ZC i fs).curve.lo,vI (ZC i fs).curve.hi,vB (ZC i fs).curve.no,vI (ZC i fs).conic.lo,vI (ZC i fs).conic.hi,vB (ZC i fs).conic.no,vI (ZC i fs).a4.lo,vI (ZC i fs).a4.hi,vB (ZC i fs).a4.no,vI (ZC i fs).a6.lo,vI (ZC i fs).a6.hi,vB (ZC i fs).a6.no,vI pos.lo,vI pos.hi,vB pos.no,vI (ZC i fs).open2.lo,vI (ZC i fs).open2.hi,vB (ZC i fs).open2.no,vI (ZC i fs).ratio.lo,vI (ZC i fs).ratio.hi,vB (ZC i fs).ratio.no]
def Zuo(i:Int)(fs:List Face)(m:Int)(g:List Glass):=[(34,AV.p (vI (IntKind.i64.wrap (i+(1:Int))))),(32,AV.p (PV.lst (List.map Face.enc fs))),(33,pI m),(9,AV.ptr 9 0),(10,AV.ptr 10 0),(8,AV.ptr 8 0),(5,AV.ptr 5 0),(6,AV.ptr 6 0),(1,AV.p (PV.lst (List.map Glass.enc g)))]
def Zn3(z:SysM):=[PV.lst (List.map Surf.enc z.surfs),vI z.op.lo,vI z.op.hi,vB z.op.no]
def Zup(i:Int)(fs:List Face):=Ze (Dec.mk (Zd ((X8 i fs).tail.tail.tail.tail.tail.headD PV.nil)) (Zd ((X8 i fs).tail.tail.tail.tail.tail.tail.headD PV.nil)))
def Zuq(i:Int)(fs:List Face)(pos:Iv):=Surf.mk (ZC i fs).stop (ZC i fs).bent (ZC i fs).curve (ZC i fs).conic (ZC i fs).a4 (ZC i fs).a6 pos (ZC i fs).open2 (ZC i fs).ratio
def ZpQ:Option St:=some ⟨75,[(6,AV.ptr 6 0),(7,pI 6)],[(6,[.nil,vI 0,vI 0,vB false])],[],[],[]⟩
def ZpR:=[(Loc.b (nat_lit 8) (nat_lit 0),nat_lit 75),(Loc.b (nat_lit 6) (nat_lit 0),nat_lit 75)]
def ZpS(i:Int)(fs:List Face)(g:List Glass)(pos:Iv)(ix:Iv)(w:Iv):=Surf.mk (ZC i fs).stop (ZC i fs).bent (ZC i fs).curve (ZC i fs).conic (ZC i fs).a4 (ZC i fs).a6 pos (ZC i fs).open2 (ZE ix (ZhY i fs g w))
theorem Zmv:CSOk Tryz.prog Zy6:=Zb Z2x<|Zb ZtB<|Zb ZhR<|Zb Z2z<|Zb Z2y<|Zb Zt6<|Zb Z20<|Zb Znd<|Zg
set_option maxHeartbeats 4000000 in
theorem ZqU:Yl Tryz.prog (Z9 Tryz.f24 0) Zki:=by
 refine lsG Zs.Γ (ZF Zs Zmv ZR ZS ZX (LS:=[]) (Yo (l:=[]) (by kernel_rfl) Z2) (n:=2000) (U9 Zkf) (U9 Zbh) (fun x e s=>((U9 WT x=true∧e= .ret∧s=U9 Zkh x)∨(U9 WT x=false∧e= .exit 0∧s=U9 ZcF x))) (fun x=>(x.2.2.1 - x.1).toNat) Zkg ZqG ZqH (fun x hx=>?_)) cv9 (fun _=>rfl) (fun _ h=>h) (fun _ _ _ _ h f=>fC h f fE fE)
 ·obtain ⟨i,fs,m,g,s,pos,ix,w,z⟩:=x
  simp only[U9,Zbh] at hx
  refine sxT (fun Q=>(bif decide (i < m) then (((0:Int)≤i∧(List.map Face.enc fs)[i.toNat]?=some (YK [vB false,vI 0,vI 0,vI 0,vI 0,vI 0,vI 0,vI 0,vI 0,vI 0,vI 0,vI 0,vI 0,PV.str []] (X8 i fs)))∧(([vB (Zl ((X8 i fs).headD PV.nil)),vI (Zd ((X8 i fs).tail.headD PV.nil)),vI (Zd ((X8 i fs).tail.tail.headD PV.nil)),vI (Zd ((X8 i fs).tail.tail.tail.headD PV.nil)),vI (Zd ((X8 i fs).tail.tail.tail.tail.headD PV.nil)),vI (Zd ((X8 i fs).tail.tail.tail.tail.tail.headD PV.nil)),vI (Zd ((X8 i fs).tail.tail.tail.tail.tail.tail.headD PV.nil)),vI (Zd ((X8 i fs).tail.tail.tail.tail.tail.tail.tail.headD PV.nil)),vI (Zd ((X8 i fs).tail.tail.tail.tail.tail.tail.tail.tail.headD PV.nil)),vI (Zd ((X8 i fs).tail.tail.tail.tail.tail.tail.tail.tail.tail.headD PV.nil)),vI (Zd ((X8 i fs).tail.tail.tail.tail.tail.tail.tail.tail.tail.tail.headD PV.nil)),vI (Zd ((X8 i fs).tail.tail.tail.tail.tail.tail.tail.tail.tail.tail.tail.headD PV.nil)),vI (Zd ((X8 i fs).tail.tail.tail.tail.tail.tail.tail.tail.tail.tail.tail.tail.headD PV.nil)),PV.str (ZpP i fs)]=(Face.dec (X8 i fs)).enc)∧(bif !Zl ((X8 i fs).headD PV.nil) then ((List.map Glass.enc g=List.map Glass.enc (Zi Glass.dec (List.map Glass.enc g)))∧(((Zi Glass.dec (List.map Glass.enc g)).length≤(140737488355328:Nat))∧(((Zn1 i fs g pos ix w)=(ZpS i fs g pos ix w).enc)∧(bif Xp (ZpS i fs g pos ix w) then Q (Ex.ret) ZpQ else (((0:Nat) < (1:Nat)∧((List.map Surf.enc s.surfs).length+(1:Nat))* (176:Nat)≤(140737488355328:Nat)∧Lens (23:Nat) (List.map Surf.enc s.surfs++[(Zn1 i fs g pos ix w)]))∧Q (Ex.normal) (some ⟨75,(Zuo i fs m g),[(8,[PV.lst (List.map Surf.enc s.surfs++[(Zn1 i fs g pos ix w)]),vI s.op.lo,vI s.op.hi,vB s.op.no]),(10,(eIv (add pos (Zup i fs)))),(9,(eIv (ZhY i fs g w))),(5,(eIv w)),(6,(Zn3 z))],[],ZpR,[]⟩)))))) else (((Zn2 i fs pos)=(Zuq i fs pos).enc)∧(bif Xp (Zuq i fs pos) then Q (Ex.ret) ZpQ else (((0:Nat) < (1:Nat)∧((List.map Surf.enc s.surfs).length+(1:Nat))* (176:Nat)≤(140737488355328:Nat)∧Lens (23:Nat) (List.map Surf.enc s.surfs++[(Zn2 i fs pos)]))∧Q (Ex.normal) (some ⟨75,(Zuo i fs m g),[(8,[PV.lst (List.map Surf.enc s.surfs++[(Zn2 i fs pos)]),vI s.op.lo,vI s.op.hi,vB s.op.no]),(10,(eIv (add pos (Zup i fs)))),(9,(eIv ix)),(5,(eIv w)),(6,(Zn3 z))],[],ZpR,[]⟩))))))) else Q (Ex.exit (0:Nat)) (some ⟨75,[(6,AV.ptr 6 0),(8,AV.ptr 8 0)],[(6,(Zn3 z)),(8,[PV.lst (List.map Surf.enc s.surfs),vI s.op.lo,vI s.op.hi,vB s.op.no])],[],[],[]⟩))) (fun _=>by kernel_rfl) ?_
  delta ZC Zn1 Zn2 ZhY X8 Zuo Zn3 Zup Zuq ZpQ ZpR ZpP ZpS eIv vI vB pI
  refine Za (fun h0=>⟨?r7,⟨?r6,Za (fun h1=>⟨?r3,⟨?r2,⟨?r1,Za (fun h2=>?_) (fun h2=>⟨?r0, ?_⟩)⟩⟩⟩) (fun h1=>⟨?r5,Za (fun h2=>?_) (fun h2=>⟨?r4, ?_⟩)⟩)⟩⟩) (fun h0=>?_)
  case r0|r1|r2|r3|r4|r5|r6|r7=>first | rfl | (rw[Zp];done) | (simp only[SysM.enc,YS];done) | (simp only[LensM.enc,ZI];done) | (simp only[Zp,ZI];omega) | (obtain ⟨a1,a2,a3,a4,a5,a6⟩:=hx;simp only[Qc_] at h0;subst a3;first | exact Zv (fun _=>rfl) (by omega) (by omega) | (simp only[Zp];omega) | (obtain ⟨x,t,e1,e2,e3⟩:=Yg (l:=fs) a1 (by omega);simp only[Yp e3];rfl) | exact ⟨by decide,by simp only[Qk_];omega,XZ (XI (e:=Surf.enc) (fun _=>rfl) _) rfl⟩) | (simp only[Qf_,Zp,ZI,show (⟨l.name,l.back,l.faces⟩:LensM)=l from rfl] at h0;obtain ⟨⟨f,t,hf⟩,_⟩:=ZgM h0;first | exact Zv (i:=0) (fun _=>rfl) (by omega) (by rw[hf];simp only[Qs_];omega) | skip) | skip
  all_goals (obtain ⟨a1,a2,a3,a4,a5,a6⟩:=hx;try simp only[Qc_,Qe_] at h0)
  all_goals subst a3
  all_goals first
   | (exact .inr ⟨by simp,_,rfl,.inr ⟨by unfold U9 WT;(try dsimp only);rw[List.drop_eq_nil_of_le (by omega)];rfl,by trivial,by unfold U9 ZcF;(try dsimp only);rw[List.drop_eq_nil_of_le (by omega),show ∀p q,pGo g w [] p q=[] from fun _ _=>rfl,List.append_nil];rfl⟩⟩)
   | (obtain ⟨x,t,e1,e2,e3⟩:=Yg (l:=fs) a1 (by omega)
      have hw:IntKind.i64.wrap (i+1)=i+1:=Zf (by constructor<;>omega)
      simp only[Yp e3,Zp] at *
      have eb:pGo g w (fs.drop i.toNat) pos ix=ZaZ x pos (Xz x g w ix)::pGo g w (fs.drop (IntKind.i64.wrap (i+1)).toNat) (add pos (Ze x.thick)) (ZaW x g w ix):=(by rw[hw,e1,e2];rfl)
      have hs:(!x.stop)=_:=h1
      have hr:Xz x g w ix=bif x.stop then point 65536 else ZE ix (Zdq x.glass g w):=rfl
      have hn:ZaW x g w ix=bif x.stop then ix else Zdq x.glass g w:=rfl
      simp only[Qi_,Qf_] at hs
      rw[hs] at hr hn
      simp only[Qb_,Qd_] at hr hn
      have hl:=h2
      first | change Xp (ZaZ x pos (point 65536))=_ at hl | change Xp (ZaZ x pos (ZE ix (Zdq x.glass g w)))=_ at hl
      rw[←hr] at hl
      first
       | exact .inr ⟨by simp,_,rfl,.inl ⟨by unfold U9 WT;(try dsimp only);rw[eb,List.any_cons,hl];rfl,by trivial,rfl⟩⟩
       | (refine .inl ⟨by trivial,(IntKind.i64.wrap (i+1),fs,(fs.length:Int),g,⟨s.surfs++[ZaZ x pos (Xz x g w ix)],s.op⟩,add pos (Ze x.thick),ZaW x g w ix,w,z), ?_, ?_, ?_, ?_⟩
          ·rw[hr,hn];simp only[U9,Zkf,SysM.enc,QR_,QE_,QN_];rfl
          ·simp only[U9,Zbh,hw,Qx_,Qs_,Q1_];exact ⟨by omega,by omega,by trivial,a4,a5,by omega⟩
          ·simp only[hw];omega
          ·intro e s' h
           have ec:(pGo g w (fs.drop i.toNat) pos ix).any Xp=(pGo g w (fs.drop (IntKind.i64.wrap (i+1)).toNat) (add pos (Ze x.thick)) (ZaW x g w ix)).any Xp:=(by rw[eb,QU_,hl];rfl)
           unfold U9 WT at h ⊢
           (try dsimp only at h ⊢)
           rw[ec]
           refine h.imp (fun h=>h) (fun h=>⟨h.1,h.2.1,h.2.2.trans ?_⟩)
           delta ZcF;(try dsimp only);rw[eb];simp only[List.append_assoc,List.cons_append,List.nil_append]))
theorem Zur:ZQ Tryz.prog [(7,Zki)] Tryz.f24:=ZM (l:=[Z9 Tryz.f24 0]) (by kernel_rfl) (Ya (i:=7) (by kernel_rfl) rfl ZqU (Z2))
def Zco(l:LensM):=List.map Face.enc l.faces
def Zbl(l:LensM):=Ze (Dec.mk (Zd (((Zco l).getD (0:Nat) []).tail.tail.tail.headD PV.nil)) (Zd (((Zco l).getD (0:Nat) []).tail.tail.tail.tail.headD PV.nil)))
def Zcp(g:List Glass):=Zi Glass.dec (List.map Glass.enc g)
def q20_17:=SysM.mk (Zi Surf.dec []) (Iv.mk (0:Int) (0:Int) false)
def Zcq(l:LensM):=Zi Face.dec (Zco l)
def Zk4(l:LensM):=SysM.mk (Zi Surf.dec []) (Zbl l)
def ZpT:=PV.tup [PV.agg [.nil,vI 0,vI 0,vB false],vI 6]
set_option maxHeartbeats 4000000 in
theorem Zzh:Zj Tryz.prog 24 e24:=Zk<|Zh fun l=>Zh fun g=>Zh fun w=>EZ1 fun hp0=>by
 refine cfL Zmv Zur rfl ?_
 refine sxT (fun Q=>(((Z4 l)=(LensM.mk l.name l.back (Zcq l)).enc)∧((List.map Glass.enc g=List.map Glass.enc (Zcp g))∧(((Zcp g).length≤(140737488355328:Nat)∧(Zcq l).length≤(140737488355328:Nat))∧(bif !W6 (LensM.mk l.name l.back (Zcq l)) (Zcp g) then Q (PV.tup [PV.agg [.nil,vI 0,vI 0,vB false],vI 1]) else (((0:Int)≤(0:Int)∧(Zco l)[(0:Nat)]?=some (YK [vB false,vI 0,vI 0,vI 0,vI 0,vI 0,vI 0,vI 0,vI 0,vI 0,vI 0,vI 0,vI 0,PV.str []] ((Zco l).getD (0:Nat) [])))∧((List.map Face.enc l.faces=List.map Face.enc (Zcq l))∧((List.map Glass.enc g=List.map Glass.enc (Zcp g))∧(([PV.lst [],vI (Zbl l).lo,vI (Zbl l).hi,vB (Zbl l).no]=(Zk4 l).enc)∧(([PV.lst [],vI 0,vI 0,vB false]=q20_17.enc)∧((Zbh (0:Int) (Zcq l) (↑(Zco l).length) (Zcp g) (Zk4 l) (Ze l.back) (point (65536:Int)) w q20_17)∧(bif WT (0:Int) (Zcq l) (↑(Zco l).length) (Zcp g) (Zk4 l) (Ze l.back) (point (65536:Int)) w q20_17 then Q ZpT else (bif (Zbl l).no then Q ZpT else Q (PV.tup [PV.agg [PV.lst (List.map Surf.enc (Zi Surf.dec []++pGo (Zcp g) w (List.drop (0:Nat) (Zcq l)) (Ze l.back) (point (65536:Int)))),vI (Zbl l).lo,vI (Zbl l).hi,vB (Zbl l).no],vI 0])))))))))))))) (fun _=>by kernel_rfl) ?_
 delta Qn Zbl Zco Zcp q20_17 Zcq Zk4 ZpT Z4 vI vB
 refine ⟨?r7,⟨?r6,⟨?r5,Za (fun h0=>?_) (fun h0=>⟨?r4,⟨?r3,⟨?r2,⟨?r1,⟨?r0,⟨?_,Za (fun h1=>?_) (fun h1=>Za (fun h2=>?_) (fun h2=>?_))⟩⟩⟩⟩⟩⟩)⟩⟩⟩
 case r0|r1|r2|r3|r4|r5|r6|r7=>first | rfl | (rw[Zp];done) | (simp only[SysM.enc,YS];done) | (simp only[LensM.enc,ZI];done) | (simp only[Zp,ZI];omega) | (obtain ⟨a1,a2,a3,a4,a5,a6⟩:=hx;simp only[Qc_] at h0;subst a3;first | exact Zv (fun _=>rfl) (by omega) (by omega) | (simp only[Zp];omega) | (obtain ⟨x,t,e1,e2,e3⟩:=Yg (l:=fs) a1 (by omega);simp only[Yp e3];rfl) | exact ⟨by decide,by simp only[Qk_];omega,XZ (XI (e:=Surf.enc) (fun _=>rfl) _) rfl⟩) | (simp only[Qf_,Zp,ZI,show (⟨l.name,l.back,l.faces⟩:LensM)=l from rfl] at h0;obtain ⟨⟨f,t,hf⟩,_⟩:=ZgM h0;first | exact Zv (i:=0) (fun _=>rfl) (by omega) (by rw[hf];simp only[Qs_];omega) | skip) | skip
 all_goals (try simp only[Zp,ZI,YS,Qi_,Qf_,Qk_,QG_,QO_,show Zi Surf.dec []=[] from rfl,QJ_,show (⟨l.name,l.back,l.faces⟩:LensM)=l from rfl] at *)
 ·simp only[Wd,h0,Qd_];rfl
 all_goals obtain ⟨⟨f,t,hf⟩,hl⟩:=ZgM h0
 all_goals have ef:(List.map Face.enc l.faces).getD 0 []=Face.enc f:=(by rw[hf];rfl)
 all_goals simp only[ef] at *
 all_goals have e0:XV l g w=⟨pGo g w l.faces (Ze l.back) (point 65536),Ze f.aperture⟩:=(by unfold XV Zna;rw[hf];rfl)
 ·exact ⟨by omega,by omega,by trivial,hl,hp0.1,rfl⟩
 ·have h1:(XV l g w).surfs.any Xp=true:=(by rw[e0];exact h1)
  simp only[Wd,h0,h1,Qb_];rfl
 ·have h1:(XV l g w).surfs.any Xp=false:=(by rw[e0];exact h1)
  have h2:(XV l g w).op.no=true:=(by rw[e0];exact h2)
  simp only[Wd,h0,h1,h2,Qb_,Qd_];rfl
 ·have h1:(XV l g w).surfs.any Xp=false:=(by rw[e0];exact h1)
  have h2:(XV l g w).op.no=false:=(by rw[e0];exact h2)
  have e:Wd l g w=(XV l g w,0):=(by simp only[Wd,h0,h1,h2,Qb_,Qd_])
  rw[e,e0];rfl
set_option maxHeartbeats 4000000 in
def Y8(i:Int)(a:List Surf):=(List.map Surf.enc a).getD i.toNat []
def Y9(i:Int)(b:List Surf):=(List.map Surf.enc b).getD i.toNat []
def ZpU:=[vB false,vB false,vI 0,vI 0,vB false,vI 0,vI 0,vB false,vI 0,vI 0,vB false,vI 0,vI 0,vB false,vI 0,vI 0,vB false,vI 0,vI 0,vB false,vI 0,vI 0,vB false]
theorem Zmw:CSOk Tryz.prog (YY []):=Zg
set_option maxHeartbeats 4000000 in
theorem ZqV:Yl Tryz.prog (Z9 Tryz.f97 0) Zkl:=by
 refine lsG Zs.Γ (ZF Zs Zmw ZR ZS ZX (LS:=[]) (Yo (l:=[]) (by kernel_rfl) Z2) (n:=2000) (U4 Ztk) (U4 JQ) (fun x e s=>(e= .exit 0∧s=U4 Zkk x)) (fun x=>(x.2.2.2 - x.1).toNat) Zkj ZqI ZqJ (fun x hx=>?_)) cv4 (fun _=>rfl) (fun _ h=>h) (fun _ _ _ _ h f=>fE h f)
 ·obtain ⟨i,b,a,n⟩:=x
  simp only[U4,JQ] at hx
  refine sxT (fun Q=>(bif decide (i < n) then (((0:Int)≤i∧(List.map Surf.enc a)[i.toNat]?=some (YK ZpU (Y8 i a)))∧(((0:Int)≤i∧(List.map Surf.enc b)[i.toNat]?=some (YK ZpU (Y9 i b)))∧(bif !(Zl ((Y8 i a).headD PV.nil)==Zl ((Y9 i b).headD PV.nil)&&(Zl ((Y8 i a).tail.headD PV.nil)==Zl ((Y9 i b).tail.headD PV.nil)&&(Zd ((Y8 i a).tail.tail.headD PV.nil)==Zd ((Y9 i b).tail.tail.headD PV.nil)&&(Zd ((Y8 i a).tail.tail.tail.headD PV.nil)==Zd ((Y9 i b).tail.tail.tail.headD PV.nil)&&(Zl ((Y8 i a).tail.tail.tail.tail.headD PV.nil)==Zl ((Y9 i b).tail.tail.tail.tail.headD PV.nil)&&(Zd ((Y8 i a).tail.tail.tail.tail.tail.headD PV.nil)==Zd ((Y9 i b).tail.tail.tail.tail.tail.headD PV.nil)&&(Zd ((Y8 i a).tail.tail.tail.tail.tail.tail.headD PV.nil)==Zd ((Y9 i b).tail.tail.tail.tail.tail.tail.headD PV.nil)&&(Zl ((Y8 i a).tail.tail.tail.tail.tail.tail.tail.headD PV.nil)==Zl ((Y9 i b).tail.tail.tail.tail.tail.tail.tail.headD PV.nil)&&(Zd ((Y8 i a).tail.tail.tail.tail.tail.tail.tail.tail.headD PV.nil)==Zd ((Y9 i b).tail.tail.tail.tail.tail.tail.tail.tail.headD PV.nil)&&(Zd ((Y8 i a).tail.tail.tail.tail.tail.tail.tail.tail.tail.headD PV.nil)==Zd ((Y9 i b).tail.tail.tail.tail.tail.tail.tail.tail.tail.headD PV.nil)&&(Zl ((Y8 i a).tail.tail.tail.tail.tail.tail.tail.tail.tail.tail.headD PV.nil)==Zl ((Y9 i b).tail.tail.tail.tail.tail.tail.tail.tail.tail.tail.headD PV.nil)&&(Zd ((Y8 i a).tail.tail.tail.tail.tail.tail.tail.tail.tail.tail.tail.headD PV.nil)==Zd ((Y9 i b).tail.tail.tail.tail.tail.tail.tail.tail.tail.tail.tail.headD PV.nil)&&(Zd ((Y8 i a).tail.tail.tail.tail.tail.tail.tail.tail.tail.tail.tail.tail.headD PV.nil)==Zd ((Y9 i b).tail.tail.tail.tail.tail.tail.tail.tail.tail.tail.tail.tail.headD PV.nil)&&(Zl ((Y8 i a).tail.tail.tail.tail.tail.tail.tail.tail.tail.tail.tail.tail.tail.headD PV.nil)==Zl ((Y9 i b).tail.tail.tail.tail.tail.tail.tail.tail.tail.tail.tail.tail.tail.headD PV.nil)&&(Zd ((Y8 i a).tail.tail.tail.tail.tail.tail.tail.tail.tail.tail.tail.tail.tail.tail.headD PV.nil)==Zd ((Y9 i b).tail.tail.tail.tail.tail.tail.tail.tail.tail.tail.tail.tail.tail.tail.headD PV.nil)&&(Zd ((Y8 i a).tail.tail.tail.tail.tail.tail.tail.tail.tail.tail.tail.tail.tail.tail.tail.headD PV.nil)==Zd ((Y9 i b).tail.tail.tail.tail.tail.tail.tail.tail.tail.tail.tail.tail.tail.tail.tail.headD PV.nil)&&(Zl ((Y8 i a).tail.tail.tail.tail.tail.tail.tail.tail.tail.tail.tail.tail.tail.tail.tail.tail.headD PV.nil)==Zl ((Y9 i b).tail.tail.tail.tail.tail.tail.tail.tail.tail.tail.tail.tail.tail.tail.tail.tail.headD PV.nil)&&(Zd ((Y8 i a).tail.tail.tail.tail.tail.tail.tail.tail.tail.tail.tail.tail.tail.tail.tail.tail.tail.headD PV.nil)==Zd ((Y9 i b).tail.tail.tail.tail.tail.tail.tail.tail.tail.tail.tail.tail.tail.tail.tail.tail.tail.headD PV.nil)&&(Zd ((Y8 i a).tail.tail.tail.tail.tail.tail.tail.tail.tail.tail.tail.tail.tail.tail.tail.tail.tail.tail.headD PV.nil)==Zd ((Y9 i b).tail.tail.tail.tail.tail.tail.tail.tail.tail.tail.tail.tail.tail.tail.tail.tail.tail.tail.headD PV.nil)&&(Zl ((Y8 i a).tail.tail.tail.tail.tail.tail.tail.tail.tail.tail.tail.tail.tail.tail.tail.tail.tail.tail.tail.headD PV.nil)==Zl ((Y9 i b).tail.tail.tail.tail.tail.tail.tail.tail.tail.tail.tail.tail.tail.tail.tail.tail.tail.tail.tail.headD PV.nil)&&(Zd ((Y8 i a).tail.tail.tail.tail.tail.tail.tail.tail.tail.tail.tail.tail.tail.tail.tail.tail.tail.tail.tail.tail.headD PV.nil)==Zd ((Y9 i b).tail.tail.tail.tail.tail.tail.tail.tail.tail.tail.tail.tail.tail.tail.tail.tail.tail.tail.tail.tail.headD PV.nil)&&(Zd ((Y8 i a).tail.tail.tail.tail.tail.tail.tail.tail.tail.tail.tail.tail.tail.tail.tail.tail.tail.tail.tail.tail.tail.headD PV.nil)==Zd ((Y9 i b).tail.tail.tail.tail.tail.tail.tail.tail.tail.tail.tail.tail.tail.tail.tail.tail.tail.tail.tail.tail.tail.headD PV.nil)&&(Zl ((Y8 i a).tail.tail.tail.tail.tail.tail.tail.tail.tail.tail.tail.tail.tail.tail.tail.tail.tail.tail.tail.tail.tail.tail.headD PV.nil)==Zl ((Y9 i b).tail.tail.tail.tail.tail.tail.tail.tail.tail.tail.tail.tail.tail.tail.tail.tail.tail.tail.tail.tail.tail.tail.headD PV.nil)&&true))))))))))))))))))))))) then Q (Ex.ret) (some ⟨26,[],[],[],[],[]⟩) else Q (Ex.normal) (some ⟨26,[(13,AV.p (vI (IntKind.i64.wrap (i+(1:Int))))),(1,AV.p (PV.lst (List.map Surf.enc b))),(0,AV.p (PV.lst (List.map Surf.enc a))),(12,pI n)],[],[],[],[]⟩)))) else Q (Ex.exit (0:Nat)) (some ⟨26,[],[],[],[],[]⟩))) (fun _=>by kernel_rfl) ?_
  delta Y8 Y9 ZpU vI vB pI
  refine Za (fun h0=>⟨?r1,⟨?r0,Za (fun h1=>?_) (fun h1=>?_)⟩⟩) (fun h0=>?_)
  case r0|r1=>first | rfl | omega | (rw[YS];done) | (obtain ⟨a1,a2,a3,a4,a5⟩:=hx;subst a5;simp only[Qc_] at h0;exact Zv (fun _=>rfl) (by omega) (by omega)) | skip
  all_goals obtain ⟨a1,a2,a3,a4,a5⟩:=hx
  all_goals subst a5
  all_goals (try simp only[Qc_,Qe_] at h0)
  ·exfalso;simp only[beq_self_eq_true,QZ_,Qu_,Qr_] at h1;cases h1
  ·have hw:IntKind.i64.wrap (i+1)=i+1:=Zf (by constructor<;>omega)
   refine .inl ⟨by trivial,(IntKind.i64.wrap (i+1),b,b,n),rfl, ?_, ?_, ?_⟩
   ·simp only[U4,JQ,hw];exact ⟨by omega,by omega,a3,a4,by trivial⟩
   ·simp only[hw];omega
   ·exact fun e s h=>h
  ·exact .inr ⟨by simp,_,rfl,by trivial,rfl⟩
theorem Zus:ZQ Tryz.prog [(5,Zkl)] Tryz.f97:=ZM (l:=[Z9 Tryz.f97 0]) (by kernel_rfl) (Ya (i:=5) (by kernel_rfl) rfl ZqV (Z2))
set_option maxHeartbeats 4000000 in
theorem Z22:Zj Tryz.prog 97 e97:=Zk<|Zh fun a=>Zh fun b=>EZ1 fun hp0=>by
 refine cfL Zmw Zus rfl ?_
 refine sxT (fun Q=>(bif (((List.map Surf.enc a).length:Nat):Int)!=(((List.map Surf.enc b).length:Nat):Int) then Q (vB false) else ((List.map Surf.enc b=List.map Surf.enc (Zi Surf.dec (List.map Surf.enc b)))∧((List.map Surf.enc a=List.map Surf.enc (Zi Surf.dec (List.map Surf.enc a)))∧((JQ (0:Int) (Zi Surf.dec (List.map Surf.enc b)) (Zi Surf.dec (List.map Surf.enc a)) (((List.map Surf.enc a).length:Nat):Int))∧Q (vB true)))))) (fun _=>by kernel_rfl) ?_
 delta Qn vB
 refine Za (fun h0=>?_) (fun h0=>⟨?r1,⟨?r0,⟨?_, ?_⟩⟩⟩)
 case r0|r1=>first | rfl | omega | (rw[YS];done) | (obtain ⟨a1,a2,a3,a4,a5⟩:=hx;subst a5;simp only[Qc_] at h0;exact Zv (fun _=>rfl) (by omega) (by omega)) | skip
 all_goals obtain ⟨hb,hl⟩:=hp0
 all_goals subst hb
 all_goals simp only[YS,Qk_] at *
 ·exfalso;simp only[bne_self_eq_false] at h0;cases h0
 ·simp only[JQ];exact ⟨by omega,by omega,by trivial,hl,by trivial⟩
 ·rfl
theorem Z23:Zj Tryz.prog 43 e43:=Zk<|Zh fun a=>Zh fun b=>EZ1 fun hp0=>by
 refine cf0 (Zb Z22<|Zg) (fn:=Tryz.f43) rfl ?_
 refine sxT (fun Q=>(bif a.op.lo==b.op.lo&&(a.op.hi==b.op.hi&&(a.op.no==b.op.no&&true)) then ((List.map Surf.enc a.surfs=List.map Surf.enc (Zi Surf.dec (List.map Surf.enc a.surfs)))∧((List.map Surf.enc b.surfs=List.map Surf.enc (Zi Surf.dec (List.map Surf.enc b.surfs)))∧((Zi Surf.dec (List.map Surf.enc b.surfs)=Zi Surf.dec (List.map Surf.enc a.surfs)∧(Zi Surf.dec (List.map Surf.enc a.surfs)).length≤(1000:Nat))∧Q (vB true)))) else Q (vB false))) (fun _=>by kernel_rfl) ?_
 delta Qn vB
 refine Za (fun h0=>⟨?r2,⟨?r1,⟨?r0, ?_⟩⟩⟩) (fun h0=>?_)
 case r0|r1|r2=>first | rfl | omega | (rw[YS];done) | (simp only[YS];obtain ⟨rfl,h⟩:=hp0;exact ⟨rfl,h⟩) | skip
 all_goals obtain ⟨rfl,hl⟩:=hp0
 ·rfl
 ·exfalso;simp at h0
set_option maxHeartbeats 4000000 in
def YA(i:Int)(a:SysM):=(List.map Surf.enc a.surfs).getD i.toNat []
def YB(i:Int)(b:SysM):=(List.map Surf.enc b.surfs).getD i.toNat []
def ZpV:=[vB false,vB false,vI 0,vI 0,vB false,vI 0,vI 0,vB false,vI 0,vI 0,vB false,vI 0,vI 0,vB false,vI 0,vI 0,vB false,vI 0,vI 0,vB false,vI 0,vI 0,vB false]
theorem ZpW:CSOk Tryz.prog (YY []):=Zg
set_option maxHeartbeats 4000000 in
theorem Zut:Yl Tryz.prog (Z9 Tryz.f42 0) Zmp:=by
 refine lsG Zs.Γ (ZF Zs ZpW ZR ZS ZX (LS:=[]) (Yo (l:=[]) (by kernel_rfl) Z2) (n:=2000) (U3 ZvT) (U3 ZaH) (fun x e s=>(e= .exit 0∧s=U3 Zmo x)) (fun x=>(x.2.2.surfs.length - x.1).toNat) Zmn Ztl Ztm (fun x hx=>?_)) cv3 (fun _=>rfl) (fun _ h=>h) (fun _ _ _ _ h f=>fE h f)
 ·obtain ⟨i,b,a⟩:=x
  simp only[U3,ZaH] at hx
  refine sxT (fun Q=>(bif decide (i < ↑(List.map Surf.enc a.surfs).length) then (((0:Int)≤i∧(List.map Surf.enc a.surfs)[i.toNat]?=some (YK ZpV (YA i a)))∧(((0:Int)≤i∧(List.map Surf.enc b.surfs)[i.toNat]?=some (YK ZpV (YB i b)))∧(bif !(Zl ((YA i a).headD PV.nil)==Zl ((YB i b).headD PV.nil)&&(Zl ((YA i a).tail.headD PV.nil)==Zl ((YB i b).tail.headD PV.nil)&&(Zd ((YA i a).tail.tail.headD PV.nil)==Zd ((YB i b).tail.tail.headD PV.nil)&&(Zd ((YA i a).tail.tail.tail.headD PV.nil)==Zd ((YB i b).tail.tail.tail.headD PV.nil)&&(Zl ((YA i a).tail.tail.tail.tail.headD PV.nil)==Zl ((YB i b).tail.tail.tail.tail.headD PV.nil)&&(Zd ((YA i a).tail.tail.tail.tail.tail.headD PV.nil)==Zd ((YB i b).tail.tail.tail.tail.tail.headD PV.nil)&&(Zd ((YA i a).tail.tail.tail.tail.tail.tail.headD PV.nil)==Zd ((YB i b).tail.tail.tail.tail.tail.tail.headD PV.nil)&&(Zl ((YA i a).tail.tail.tail.tail.tail.tail.tail.headD PV.nil)==Zl ((YB i b).tail.tail.tail.tail.tail.tail.tail.headD PV.nil)&&(Zd ((YA i a).tail.tail.tail.tail.tail.tail.tail.tail.headD PV.nil)==Zd ((YB i b).tail.tail.tail.tail.tail.tail.tail.tail.headD PV.nil)&&(Zd ((YA i a).tail.tail.tail.tail.tail.tail.tail.tail.tail.headD PV.nil)==Zd ((YB i b).tail.tail.tail.tail.tail.tail.tail.tail.tail.headD PV.nil)&&(Zl ((YA i a).tail.tail.tail.tail.tail.tail.tail.tail.tail.tail.headD PV.nil)==Zl ((YB i b).tail.tail.tail.tail.tail.tail.tail.tail.tail.tail.headD PV.nil)&&(Zd ((YA i a).tail.tail.tail.tail.tail.tail.tail.tail.tail.tail.tail.headD PV.nil)==Zd ((YB i b).tail.tail.tail.tail.tail.tail.tail.tail.tail.tail.tail.headD PV.nil)&&(Zd ((YA i a).tail.tail.tail.tail.tail.tail.tail.tail.tail.tail.tail.tail.headD PV.nil)==Zd ((YB i b).tail.tail.tail.tail.tail.tail.tail.tail.tail.tail.tail.tail.headD PV.nil)&&(Zl ((YA i a).tail.tail.tail.tail.tail.tail.tail.tail.tail.tail.tail.tail.tail.headD PV.nil)==Zl ((YB i b).tail.tail.tail.tail.tail.tail.tail.tail.tail.tail.tail.tail.tail.headD PV.nil)&&(Zd ((YA i a).tail.tail.tail.tail.tail.tail.tail.tail.tail.tail.tail.tail.tail.tail.headD PV.nil)==Zd ((YB i b).tail.tail.tail.tail.tail.tail.tail.tail.tail.tail.tail.tail.tail.tail.headD PV.nil)&&(Zd ((YA i a).tail.tail.tail.tail.tail.tail.tail.tail.tail.tail.tail.tail.tail.tail.tail.headD PV.nil)==Zd ((YB i b).tail.tail.tail.tail.tail.tail.tail.tail.tail.tail.tail.tail.tail.tail.tail.headD PV.nil)&&(Zl ((YA i a).tail.tail.tail.tail.tail.tail.tail.tail.tail.tail.tail.tail.tail.tail.tail.tail.headD PV.nil)==Zl ((YB i b).tail.tail.tail.tail.tail.tail.tail.tail.tail.tail.tail.tail.tail.tail.tail.tail.headD PV.nil)&&(Zd ((YA i a).tail.tail.tail.tail.tail.tail.tail.tail.tail.tail.tail.tail.tail.tail.tail.tail.tail.headD PV.nil)==Zd ((YB i b).tail.tail.tail.tail.tail.tail.tail.tail.tail.tail.tail.tail.tail.tail.tail.tail.tail.headD PV.nil)&&(Zd ((YA i a).tail.tail.tail.tail.tail.tail.tail.tail.tail.tail.tail.tail.tail.tail.tail.tail.tail.tail.headD PV.nil)==Zd ((YB i b).tail.tail.tail.tail.tail.tail.tail.tail.tail.tail.tail.tail.tail.tail.tail.tail.tail.tail.headD PV.nil)&&(Zl ((YA i a).tail.tail.tail.tail.tail.tail.tail.tail.tail.tail.tail.tail.tail.tail.tail.tail.tail.tail.tail.headD PV.nil)==Zl ((YB i b).tail.tail.tail.tail.tail.tail.tail.tail.tail.tail.tail.tail.tail.tail.tail.tail.tail.tail.tail.headD PV.nil)&&(Zd ((YA i a).tail.tail.tail.tail.tail.tail.tail.tail.tail.tail.tail.tail.tail.tail.tail.tail.tail.tail.tail.tail.headD PV.nil)==Zd ((YB i b).tail.tail.tail.tail.tail.tail.tail.tail.tail.tail.tail.tail.tail.tail.tail.tail.tail.tail.tail.tail.headD PV.nil)&&(Zd ((YA i a).tail.tail.tail.tail.tail.tail.tail.tail.tail.tail.tail.tail.tail.tail.tail.tail.tail.tail.tail.tail.tail.headD PV.nil)==Zd ((YB i b).tail.tail.tail.tail.tail.tail.tail.tail.tail.tail.tail.tail.tail.tail.tail.tail.tail.tail.tail.tail.tail.headD PV.nil)&&(Zl ((YA i a).tail.tail.tail.tail.tail.tail.tail.tail.tail.tail.tail.tail.tail.tail.tail.tail.tail.tail.tail.tail.tail.tail.headD PV.nil)==Zl ((YB i b).tail.tail.tail.tail.tail.tail.tail.tail.tail.tail.tail.tail.tail.tail.tail.tail.tail.tail.tail.tail.tail.tail.headD PV.nil)&&true))))))))))))))))))))))) then Q (Ex.ret) (some ⟨38,[],[],[],[],[]⟩) else Q (Ex.normal) (some ⟨38,[(5,AV.p (vI (IntKind.i64.wrap (i+(1:Int))))),(3,AV.ptr 3 0),(2,AV.ptr 2 0)],[(3,[PV.lst (List.map Surf.enc b.surfs),vI b.op.lo,vI b.op.hi,vB b.op.no]),(2,[PV.lst (List.map Surf.enc a.surfs),vI a.op.lo,vI a.op.hi,vB a.op.no])],[],[],[]⟩)))) else Q (Ex.exit (0:Nat)) (some ⟨38,[],[],[],[],[]⟩))) (fun _=>by kernel_rfl) ?_
  delta YA YB ZpV vI vB
  refine Za (fun h0=>⟨?r1,⟨?r0,Za (fun h1=>?_) (fun h1=>?_)⟩⟩) (fun h0=>?_)
  case r0|r1=>first | rfl | omega | (rw[YS];done) | (simp only[SysM.enc,YS];done) | (obtain ⟨a1,a2,a4,a5⟩:=hx;subst a5;simp only[Qk_,Qc_] at h0;exact Zv (fun _=>rfl) (by omega) (by omega)) | skip
  all_goals obtain ⟨a1,a2,a4,a5⟩:=hx
  all_goals subst a5
  all_goals (try simp only[Qk_,Qc_,Qe_] at h0)
  ·exfalso;simp only[beq_self_eq_true,QZ_,Qu_,Qr_] at h1;cases h1
  ·have hw:IntKind.i64.wrap (i+1)=i+1:=Zf (by constructor<;>omega)
   refine .inl ⟨by trivial,(IntKind.i64.wrap (i+1),b,b),rfl, ?_, ?_, ?_⟩
   ·simp only[U3,ZaH,hw];exact ⟨by omega,by omega,a4,by trivial⟩
   ·simp only[hw];omega
   ·exact fun e s h=>h
  ·exact .inr ⟨by simp,_,rfl,by trivial,rfl⟩
theorem Zw7:ZQ Tryz.prog [(5,Zmp)] Tryz.f42:=ZM (l:=[Z9 Tryz.f42 0]) (by kernel_rfl) (Ya (i:=5) (by kernel_rfl) rfl Zut (Z2))
set_option maxHeartbeats 4000000 in
theorem Z24:Zj Tryz.prog 42 e42:=Zk<|Zh fun a=>Zh fun b=>EZ1 fun hp0=>by
 refine cfL ZpW Zw7 rfl ?_
 refine sxT (fun Q=>(bif !(a.op.lo==b.op.lo&&(a.op.hi==b.op.hi&&(a.op.no==b.op.no&&true))) then Q (vB false) else (bif (((List.map Surf.enc a.surfs).length:Nat):Int)!=(((List.map Surf.enc b.surfs).length:Nat):Int) then Q (vB false) else (([PV.lst (List.map Surf.enc b.surfs),vI b.op.lo,vI b.op.hi,vB b.op.no]=(SysM.mk (Zi Surf.dec (List.map Surf.enc b.surfs)) b.op).enc)∧(([PV.lst (List.map Surf.enc a.surfs),vI a.op.lo,vI a.op.hi,vB a.op.no]=(SysM.mk (Zi Surf.dec (List.map Surf.enc a.surfs)) a.op).enc)∧((ZaH (0:Int) (SysM.mk (Zi Surf.dec (List.map Surf.enc b.surfs)) b.op) (SysM.mk (Zi Surf.dec (List.map Surf.enc a.surfs)) a.op))∧Q (vB true))))))) (fun _=>by kernel_rfl) ?_
 delta Qn vI vB
 refine Za (fun h0=>?_) (fun h0=>Za (fun h1=>?_) (fun h1=>⟨?r1,⟨?r0,⟨?_, ?_⟩⟩⟩))
 case r0|r1=>first | rfl | omega | (rw[YS];done) | (simp only[SysM.enc,YS];done) | (obtain ⟨a1,a2,a4,a5⟩:=hx;subst a5;simp only[Qk_,Qc_] at h0;exact Zv (fun _=>rfl) (by omega) (by omega)) | skip
 all_goals obtain ⟨hb,hl⟩:=hp0
 all_goals subst hb
 all_goals (try simp only[YS,Qk_] at *)
 ·exfalso;simp only[beq_self_eq_true,QZ_,Qu_,Qr_] at h0;cases h0
 ·exfalso;simp only[bne_self_eq_false] at h1;cases h1
 ·simp only[ZaH];exact ⟨by omega,by omega,hl,by trivial⟩
 ·rfl
open Go
theorem ZrP{P:Program}{f:Nat}{args:List PV}{X Y:PV}(h:Con P f args X)(e:X=Y):Con P f args Y:=e▸h
def Zw8:PV:= .tup [.lst [[.v (.int .i64 1),.str [108,101,110,115],.v (.complex .f64 4607182418800017408 4607182418800017408)],[.v (.int .i64 1),.str [97],.v (.complex .f64 4607182418800017408 4618441417868443648)],[.v (.int .i64 2),.str [52,48],.v (.complex .f64 4607182418800017408 4620693217682128896)],[.v (.int .i64 3),.str [],.v (.complex .f64 4607182418800017408 4621819117588971520)],[.v (.int .i64 1),.str [102,97,99,101],.v (.complex .f64 4611686018427387904 4607182418800017408)],[.v (.int .i64 2),.str [48],.v (.complex .f64 4611686018427387904 4618441417868443648)],[.v (.int .i64 2),.str [53],.v (.complex .f64 4611686018427387904 4620693217682128896)],[.v (.int .i64 2),.str [49],.v (.complex .f64 4611686018427387904 4621819117588971520)],[.v (.int .i64 1),.str [97,105,114],.v (.complex .f64 4611686018427387904 4622945017495814144)],[.v (.int .i64 3),.str [],.v (.complex .f64 4611686018427387904 4624633867356078080)],[.v (.int .i64 1),.str [102,97,99,101],.v (.complex .f64 4613937818241073152 4607182418800017408)],[.v (.int .i64 2),.str [50,48],.v (.complex .f64 4613937818241073152 4618441417868443648)],[.v (.int .i64 2),.str [52],.v (.complex .f64 4613937818241073152 4621256167635550208)],[.v (.int .i64 2),.str [50],.v (.complex .f64 4613937818241073152 4622382067542392832)],[.v (.int .i64 1),.str [97,105,114],.v (.complex .f64 4613937818241073152 4623507967449235456)],[.v (.int .i64 3),.str [],.v (.complex .f64 4613937818241073152 4625196817309499392)]],.v (.complex .f64 0 0),.v (.int .i64 0)]
theorem Z25:Con Tryz.prog 48 [.str Zdr] Zw8:=ZrP (Zky Zdr) (by kernel_rfl)
theorem ZfL(s:List UInt8)(d:PV)(h:s.length≤4000)(e:PV.tup [.agg (X6 s).1.enc,.v (.bool (X6 s).2)]=d):Con Tryz.prog 106 [.str s] d:=
 ZrP (Zww [.str s] _ [s.length≤4000] rfl (fun p hp=>by rcases Q9_.1 hp with rfl | hp;exact h;cases hp)) e
def Z0h:PV:= .tup [.agg [.v (.int .i64 0),.v (.int .i64 0)],.v (.bool true)]
def Z0i:PV:= .tup [.agg [.v (.int .i64 1),.v (.int .i64 0)],.v (.bool true)]
def Z0j:PV:= .tup [.agg [.v (.int .i64 2),.v (.int .i64 0)],.v (.bool true)]
def Zy7:PV:= .tup [.agg [.v (.int .i64 20),.v (.int .i64 0)],.v (.bool true)]
def Z0k:PV:= .tup [.agg [.v (.int .i64 4),.v (.int .i64 0)],.v (.bool true)]
def Zy8:PV:= .tup [.agg [.v (.int .i64 40),.v (.int .i64 0)],.v (.bool true)]
def Z0l:PV:= .tup [.agg [.v (.int .i64 5),.v (.int .i64 0)],.v (.bool true)]
def Zzi:Zlj:=[(48,[(48,[.str Zdr],Zw8)]),(106,[(106,[.str [48]],Z0h),(106,[.str [49]],Z0i),(106,[.str [50]],Z0j),(106,[.str [50,48]],Zy7),(106,[.str [52]],Z0k),(106,[.str [52,48]],Zy8),(106,[.str [53]],Z0l)])]
theorem Zy9:Zgy Tryz.prog Zzi:=Zik (W1 Z25 ZlW)<|Zik (W1 (ZfL _ _ (by decide) (by kernel_rfl))<|W1 (ZfL _ _ (by decide) (by kernel_rfl))<|W1 (ZfL _ _ (by decide) (by kernel_rfl))<|W1 (ZfL _ _ (by decide) (by kernel_rfl))<|W1 (ZfL _ _ (by decide) (by kernel_rfl))<|W1 (ZfL _ _ (by decide) (by kernel_rfl))<|W1 (ZfL _ _ (by decide) (by kernel_rfl))<|ZlW) Zsw
theorem Z26:(Wo evEnv Zzi 1000 60).1 14 [.str Zdr,.lst []]=some (.tup [.agg (LensM.enc lens13),.v (.complex .f64 0 0),.v (.int .i64 0)]):=by kernel_rfl
theorem Zuu:Con Tryz.prog 14 [.str Zdr,.lst []] (.tup [.agg (LensM.enc lens13),.v (.complex .f64 0 0),.v (.int .i64 0)]):=(Zru Zs Zy9 1000 60).1 14 _ _ Z26
theorem Z27:Zj Tryz.prog 14 e14:=Zk<|Zh fun s=>Zh fun g=>EZ1 fun h=>by
 obtain ⟨rfl,rfl⟩:=h
 exact Zuu
end Go.Men
namespace Go.Men
open Go.Ev Go.Proofs Go.Proofs.YtgfgjabeooohhaaGreatDoor
def q21_3:=LensM.mk lens13.name (Dec.mk (40:Int) (0:Int)) (Zi Face.dec (List.map Face.enc lens13.faces))
def q21_1:=List.map Surf.enc (Wd q21_3 (Zi Glass.dec []) none').fst.surfs
def Zuv:=[vB false,vB false,vI 0,vI 0,vB false,vI 0,vI 0,vB false,vI 0,vI 0,vB false,vI 0,vI 0,vB false,vI 0,vI 0,vB false,vI 0,vI 0,vB false,vI 0,vI 0,vB false]
def Zuw:=(0:Int)≤(0:Int)∧q21_1[(0:Nat)]?=some (YK Zuv (q21_1.getD (0:Nat) []))
def Zux:=(0:Int)≤(1:Int)∧q21_1[(1:Nat)]?=some (YK Zuv (q21_1.getD (1:Nat) []))
theorem Z28:Zj Tryz.prog 34 e34:=Zk<|EZ0<|by
 refine cf0 (Zb Z27<|Zb JR<|Zb Zzh<|Zb Z1Z<|Zb ZhR<|Zb ZcG<|Zb Zzg<|Zg) (fn:=Tryz.f34) rfl ?_
 refine sxT (fun Q=>(([]=List.map Glass.enc (Zi Glass.dec []))∧(([(108:UInt8),(101:UInt8),(110:UInt8),(115:UInt8),(32:UInt8),(97:UInt8),(32:UInt8),(52:UInt8),(48:UInt8),(10:UInt8),(102:UInt8),(97:UInt8),(99:UInt8),(101:UInt8),(32:UInt8),(48:UInt8),(32:UInt8),(53:UInt8),(32:UInt8),(49:UInt8),(32:UInt8),(97:UInt8),(105:UInt8),(114:UInt8),(10:UInt8),(102:UInt8),(97:UInt8),(99:UInt8),(101:UInt8),(32:UInt8),(50:UInt8),(48:UInt8),(32:UInt8),(52:UInt8),(32:UInt8),(50:UInt8),(32:UInt8),(97:UInt8),(105:UInt8),(114:UInt8)]=Zdr∧Zi Glass.dec []=[])∧(([PV.str lens13.name,vI 40,vI 0,PV.lst (List.map Face.enc lens13.faces)]=q21_3.enc)∧(([]=List.map Glass.enc (Zi Glass.dec []))∧(((0:Nat)≤(140737488355328:Nat)∧(2:Nat)≤(140737488355328:Nat))∧(Zuw∧(Zuw∧(Zux∧(Zux∧(([PV.lst q21_1,vI 327680,vI 327680,vB false]=(SysM.mk (Zi Surf.dec q21_1) (Iv.mk (327680:Int) (327680:Int) false)).enc)∧(((2:Nat)≤(1000:Nat))∧Q (vB true))))))))))))) (fun _=>by kernel_rfl) ?_
 delta Qn q21_1 Zuv q21_3 Zuw Zux vI vB
 refine ⟨?r10,⟨?r9,⟨?r8,⟨?r7,⟨?r6,⟨?r5,⟨?r4,⟨?r3,⟨?r2,⟨?r1,⟨?r0, ?_⟩⟩⟩⟩⟩⟩⟩⟩⟩⟩⟩
 case r0|r1|r2|r3|r4|r5|r6|r7|r8|r9|r10=>first | rfl | (exact ⟨rfl,rfl⟩) | (exact ⟨by decide,by decide⟩) | (refine Zv (i:=0) (fun _=>rfl) (by omega) ?_;decide+kernel) | (refine Zv (i:=1) (fun _=>rfl) (by omega) ?_;decide+kernel) | decide+kernel | skip
 all_goals first | (kernel_rfl;done) | skip
end Go.Men
namespace Go.Men
open Go Go.Ev
theorem Zuy{c:Int}(h:Yw c=true):(c==10)=false∧(c==32)=false∧(c==9)=false∧(c==35)=false:=by
 unfold Yw at h
 simp only[Ko_,Qh_,Qc_] at h
 refine ⟨?_, ?_, ?_, ?_⟩<;>simp<;>omega
theorem ZqW{s:List UInt8}(h:Yq s=true):tokens s=([⟨1,s,X3 0 1 0⟩,⟨3,[],X3 s.length 1 0⟩],XD,0):=by
 unfold Yq at h
 simp only[Qh_,Qc_] at h
 obtain ⟨h1,h2,h3,h4⟩:=h
 obtain ⟨a,t,rfl⟩:∃a t,s=a::t:=by cases s with
  | nil=>exact absurd h1 (by simp)
  | cons a t=>exact ⟨a,t,rfl⟩
 have hb:Xb (a::t) 0=(a.toNat:Int):=rfl
 have hl:Yw (a.toNat:Int)=true:=h3
 obtain ⟨n1,n2,n3,n4⟩:=Zuy hl
 have he:Zm Z1 (a::t) (0+1)=((a::t).length:Int):=by
  unfold Zm
  show (0+1:Int)+((t.takeWhile fun b=>Z1 (b.toNat:Int)).length:Int)=_
  have:t.all (fun b=>Z1 (b.toNat:Int))=true:=by
   rw[List.all_cons,Qh_] at h4
   exact h4.2
  rw[ZfP this,Qs_];omega
 have hs:Jg (a::t) 0 ((a::t).length:Int)=a::t:=by
  unfold Jg
  show List.take _ (a::t)=_
  rw[Ki_ (by simp)]
 unfold tokens
 rw[QQ_ (show ¬(((a::t).length:Int) > 4000) by omega),Qd_,ZcD,hb,n1,n2,n3,n4,hl,he,hs]
 have k0:((0:Int)==((a::t).length:Int))=false:=by simp;omega
 rw[k0,QQ_ (show ¬(((a::t).length:Int) - 0 > 20) by omega)]
 simp only[Qb_,Qd_,Bool.or_self]
 rw[show (a::t).length=t.length+1 from rfl,ZcD]
 have k1:(((t.length+1:Nat):Int)==((a::t).length:Int))=true:=by simp
 rw[k1];rfl
theorem Zk5{s:List UInt8}(h:Yq s=true):Zcf s=true:=by
 unfold Zcf
 rw[ZqW h]
 simp
theorem Zmx{d:Dec}(h:printable d=true):ZT zeroDec d=decide (d.c > 0)∧ZT d zeroDec=decide (d.c < 0):=by
 obtain ⟨b1,b2⟩:=ZgD h
 have hr:Z6 d=true:=by unfold printable at h;rw[Qh_] at h;exact h.1
 have p1:=Jx (6 - d.scale)
 unfold ZT
 rw[hr,show Z6 zeroDec=true from rfl]
 simp only[Qp_]
 rw[show zeroDec.c *Zz (6 - zeroDec.scale)=0 from by show (0:Int)*_=0;rw[Int.zero_mul]]
 constructor
 ·by_cases hc:d.c > 0
  ·rw[QH_ hc,QH_ (Int.mul_pos hc (by omega))]
  ·rw[QQ_ hc,QQ_]
   have:=Kr_ (show d.c≤0 by omega) (show 0≤Zz (6 - d.scale) by omega)
   rw[Int.zero_mul] at this;omega
 ·by_cases hc:d.c < 0
  ·rw[QH_ hc,QH_]
   have:=Int.mul_lt_mul_of_pos_right hc (show 0 < Zz (6 - d.scale) by omega)
   rw[Int.zero_mul] at this;exact this
  ·rw[QQ_ hc,QQ_]
   have:=Int.mul_nonneg (show 0≤d.c by omega) (show 0≤Zz (6 - d.scale) by omega)
   omega
theorem ZpX(d:Dec):Ja d=(printable d&&decide (d.c > 0)):=by
 unfold Ja
 cases h:printable d with
 | false=>rfl
 | true=>rw[(Zmx h).1]
theorem Z0m{r a:Dec}(h:printable r=true):ZjY r a=(r.c==0|| !ZT (ZcA r) a):=by
 obtain ⟨b1,b2⟩:=ZgD h
 have:((ZcA r).c==0)=(r.c==0):=by
  show (max r.c (w64 (0 - r.c))==0)=_
  rw[show w64 (0 - r.c)= -r.c from YZ (by constructor<;>omega)]
  rw[Bool.eq_iff_iff];simp;omega
 unfold ZjY
 rw[this]
def ZfM(f:Face):Prop:=f.stop=false→Yq f.glass=true
theorem Z0n{f:Face}(h:ZfM f)(g:List Glass):ZU f g=YE f g:=by
 unfold ZU YE
 rw[ZpX]
 cases printable f.aperture with
 | false=>rfl
 | true=>
   cases decide (f.aperture.c > 0) with
   | false=>rfl
   | true=>
     cases ht:printable f.thick with
     | false=>rfl
     | true=>
       rw[(Zmx ht).2]
       cases decide (f.thick.c < 0) with
       | true=>rfl
       | false=>
         simp only[Qp_,Qt_]
         cases hs:f.stop with
         | true=>rfl
         | false=>
           simp only[Qd_]
           rw[Zk5 (h hs),h hs]
           cases hr:printable f.radius with
           | false=>rfl
           | true=>
             rw[Z0m hr]
             unfold ZgK
             cases (f.radius.c==0|| !ZT (ZcA f.radius) f.aperture)<;>cases printable f.conic<;>cases printable f.a4<;>cases printable f.a6<;>cases ((Z8 g f.glass).2||f.glass==Jf)<;>rfl
theorem Z0o{l:List Face}{p q:Face→Bool}(h:∀f∈l,p f=q f):(l.any fun f=> !p f)= !l.all q:=by
 induction l with
 | nil=>rfl
 | cons a l ih=>
   rw[QU_,List.all_cons,h a Qv_,ih fun f hf=>h f (Qq_ _ hf),Bool.not_and]
theorem Z0p{l:LensM}(g:List Glass)(h0:Yq l.name=true)(h:∀f∈l.faces,ZfM f):W6 l g=Xj l g:=by
 unfold W6 Xj
 rw[Zk5 h0,h0,ZpX,Z0o (q:=(YE · g)) (fun f hf=>Z0n (h f hf) g),Ke_]
 cases printable l.back<;>cases decide (l.back.c > 0)<;>cases decide (l.faces.length≤12)<;>cases l.faces.all (YE · g)<;>cases YL l.faces<;>rfl
theorem Zk6{d:Dec}(h:Z6 d=true):ZV d=(d.c==0):=by
 unfold ZV
 cases hc:d.c==0 with
 | false=>rfl
 | true=>
   have hc:=eq_of_beq hc
   unfold Z6 at h
   simp only[Qh_,Ko_,hc] at h
   rcases h.2.2.2.2 with h | h
   ·rw[h];rfl
   ·exact absurd h (by decide)
theorem Z0q{f:Face}{g:List Glass}(h:YE f g=true):Znc f=(!ZV f.a4|| !ZV f.a6):=by
 have key:Z6 f.a4=true∧Z6 f.a6=true∨ZV f.a4=true∧ZV f.a6=true:=by
  unfold YE at h
  simp only[Qh_] at h
  obtain ⟨_,_,_,_,h⟩:=h
  cases hs:f.stop with
  | true=>
    rw[hs] at h
    simp only[Qb_,Qh_] at h
    exact .inr ⟨h.2.2.1,h.2.2.2.1⟩
  | false=>
    rw[hs] at h
    simp only[Qd_,Qh_] at h
    obtain ⟨_,_,h4,h6,_⟩:=h
    unfold printable at h4 h6
    rw[Qh_] at h4 h6
    exact .inl ⟨h4.1,h6.1⟩
 unfold Znc
 rcases key with ⟨k1,k2⟩ | ⟨k1,k2⟩
 ·rw[Zk6 k1,Zk6 k2]
 ·rw[k1,k2]
  unfold ZV at k1 k2
  rw[Qh_] at k1 k2
  rw[k1.1,k2.1]
theorem Zzj(g:List Glass)(w:Iv):∀(l:List Face) (p q:Iv),(∀f∈l,YE f g=true)→pGo g w l p q=YX g w l p q
 | [],_,_,_=>rfl
 | f::l,p,q,h=>by
   have e:ZaZ f p (Xz f g w q)=Zal f p (Xz f g w q):=by
    unfold ZaZ Zal
    rw[Z0q (h f Qv_)]
   show ZaZ f p (Xz f g w q)::pGo g w l _ _=Zal f p (Xz f g w q)::YX g w l _ _
   rw[e,Zzj g w l _ _ fun f' hf=>h f' (Qq_ _ hf)]
theorem Zmy(g:List Glass)(w:Iv):∀(l:List Face) (p q:Iv),right p= !p.no→(YX g w l p q).any Xp= !(YX g w l p q).all YF
 | [],_,_,_=>rfl
 | f::l,p,q,h=>by
   show (Xp _||(YX g w l _ _).any Xp)= !(YF _&&(YX g w l _ _).all YF)
   rw[ZsX f g w p q h,Zmy g w l _ _ (ZaV _ _),Bool.not_and]
theorem ZyA{l:LensM}(g:List Glass)(w:Iv)(h0:Yq l.name=true)(h:∀f∈l.faces,ZfM f):Wd l g w=XJ l g w:=by
 unfold Wd XJ
 rw[Z0p g h0 h]
 cases hr:Xj l g with
 | false=>rfl
 | true=>
   have hall:∀f∈l.faces,YE f g=true:=by
    unfold Xj at hr
    simp only[Qh_] at hr
    exact fun f hf=>QK_.1 hr.2.2.2.2.1 f hf
   have e:XV l g w=Wb l g w:=by
    unfold XV Wb
    rw[Zzj g w _ _ _ hall]
   rw[e]
   have e2:(Wb l g w).surfs.any Xp= !(Wb l g w).surfs.all YF:=Zmy g w _ _ _ (WP _)
   have e3:right (Wb l g w).op= !(Wb l g w).op.no:=WP _
   unfold WQ
   rw[e2,e3]
   simp only[Qb_]
   cases (Wb l g w).surfs.all YF<;>cases (Wb l g w).op.no<;>rfl
theorem Zw9:∀n:Fin 100,Yq (120::digits (n.val:Int))=true:=by decide+kernel
theorem ZwA(back:Int):Yq (120::digits (pick back 100))=true:=by
 have:=Xy (n:=back) (m:=100) (by omega)
 have h:=Zw9 ⟨(pick back 100).toNat,by omega⟩
 simp only at h
 rw[show (((pick back 100).toNat:Nat):Int)=pick back 100 by omega] at h
 exact h
theorem Z0r:∀n:Fin 3,Yq (103::digits (n.val:Int))=true:=by decide+kernel
theorem Zmz:∀(k:Nat) (l:List I) (i:Int),0≤i→∀x∈Zb0 k l i,Yq x.name=true
 | 0,_,_,_,x,hx=>absurd hx (by simp[Zb0])
 | k+1,l,i,h0,x,hx=>by
   rw[ZgF] at hx
   cases hc:(decide (i < (l.length:Int))&&decide (i < 3)) with
   | false=>rw[hc] at hx;exact absurd hx (by simp)
   | true=>
     rw[hc,Qb_] at hx
     rw[Qh_,Qc_,Qc_] at hc
     rcases Q9_.1 hx with rfl | hx
     ·have h:=Z0r ⟨i.toNat,by omega⟩
      simp only at h
      rw[show ((i.toNat:Nat):Int)=i by omega] at h
      exact h
     ·exact Zmz k l (i+1) (by omega) x hx
theorem ZpY(raw:List I):∀x∈YM raw,Yq x.name=true:=fun x hx=>by
 unfold YM at hx
 rcases Kv_.1 hx with hx | hx
 ·rcases Q9_.1 hx with rfl | hx
  ·decide
  ·rcases Q9_.1 hx with rfl | hx
   ·decide
   ·cases hx
 ·exact Zmz 3 raw 0 (by omega) x hx
theorem ZmK{g:List Glass}(hg:∀x∈g,Yq x.name=true)(hl:g.length≤1000000)(f:RawFace)(i:Int):ZfM (J0 f i g):=by
 intro hs
 unfold J0 at hs ⊢
 cases hk:(pick f.kind 6==5&&decide (i > 0)) with
 | true=>rw[hk] at hs;exact absurd hs (by simp)
 | false=>
   show Yq (ZdY f g)=true
   unfold ZdY
   cases hc:decide (pick f.g (IntKind.i64.wrap ((g.length:Int)+2)) < (g.length:Int)) with
   | false=>show Yq Jf=true;decide
   | true=>
     simp only[Qb_]
     have hc:=Qy_ hc
     have hb:=Xy (n:=f.g) (m:=IntKind.i64.wrap ((g.length:Int)+2)) (by rw[Zf (by constructor<;>omega)];omega)
     have hk:(pick f.g (IntKind.i64.wrap ((g.length:Int)+2))).toNat < g.length:=by omega
     rw[Q7_,Qg_ hk]
     exact hg _ (K3_ hk)
theorem Zis{g:List Glass}(hg:∀x∈g,Yq x.name=true)(hl:g.length≤1000000)(most:Int):∀(l:List RawFace) (i:Int) (out:List Face),(∀f∈out,ZfM f)→∀f∈X4 g most l i out,ZfM f
 | [],_,out,h=>h
 | r::l,i,out,h=>by
   rw[Zet]
   cases decide ((out.length:Int) < most) with
   | false=>exact h
   | true=>
     refine Zis hg hl most l (i+1) _ fun f hf=>?_
     rcases Kv_.1 hf with hf | hf
     ·exact h f hf
     ·rcases Q9_.1 hf with rfl | hf
      ·exact ZmK hg hl r i
      ·cases hf
theorem ZwB{g:List Glass}(hg:∀x∈g,Yq x.name=true)(hl:g.length≤1000000)(back:Int)(l:List RawFace)(most:Int):Yq (Wc back l g most).name=true∧∀f∈(Wc back l g most).faces,ZfM f:=by
 refine ⟨ZwA back,fun f hf=>?_⟩
 have h:=Zis hg hl most l 0 [] (fun f hf=>by cases hf)
 unfold Wc ZdZ at hf
 simp only at hf
 cases hc:((X4 g most l 0 []).length==0|| !YL (X4 g most l 0 [])) with
 | false=>rw[hc] at hf;exact h f hf
 | true=>
   rw[hc] at hf
   rcases Kv_.1 hf with hf | hf
   ·exact h f hf
   ·rcases Q9_.1 hf with rfl | hf
    ·exact fun _=>by decide
    ·cases hf
theorem ZpZ(x:LensM):LensM.mk x.name x.back x.faces=x:=rfl
theorem ZrQ(x:SysM):SysM.mk x.surfs x.op=x:=rfl
theorem Zk7(back:Int)(l:List RawFace)(raw:List I)(most:Int)(g:List Glass)(w:Iv):Wd (Wc back l (YM raw) most) g w=XJ (Wc back l (YM raw) most) g w:=by
 have hl:=Zea raw
 obtain ⟨h1,h2⟩:=ZwB (ZpY raw) (by omega) back l most
 exact ZyA g w h1 h2
end Go.Men
namespace Go.Men
open Go.Ev Go.Proofs Go.Proofs.YtgfgjabeooohhaaGreatDoor
def Zk8(l:List RawFace):=Zi RawFace.dec (List.map RawFace.enc l)
def Zhn(raw:List I):=Zi I.dec (List.map I.enc raw)
def ZhZ(raw:List I):=List.map Glass.enc (YM (Zhn raw))
def Zaw(raw:List I):=Zi Glass.dec (ZhZ raw)
def Zk9(back:Int)(l:List RawFace)(raw:List I):=Wc back (Zk8 l) (Zaw raw) (8:Int)
def ZeN(back:Int)(l:List RawFace)(raw:List I):=Zi Face.dec (List.map Face.enc (Zk9 back l raw).faces)
def ZbG(back:Int)(l:List RawFace)(raw:List I):=LensM.mk (Zk9 back l raw).name (Zk9 back l raw).back (ZeN back l raw)
def ZkA(a:Int)(b:Int):=wide (IntKind.i64.wrap ((20000:Int)+pick a (40000:Int))) (pick b (300:Int))
def ZbH(raw:List I):=Zi Glass.dec (List.drop (1:Nat) (ZhZ raw))
def ZcJ(back:Int)(l:List RawFace)(raw:List I)(a:Int)(b:Int):=Wd (ZbG back l raw) (ZbH raw) (ZeF a b)
def ZcK(back:Int)(l:List RawFace)(raw:List I)(a:Int)(b:Int):=Wd (ZbG back l raw) (Zaw raw) (ZeF a b)
def ZcL(back:Int)(l:List RawFace)(raw:List I)(a:Int)(b:Int):=Wd (ZbG back l raw) (ZbH raw) (ZkA a b)
def Zbm(back:Int)(l:List RawFace)(raw:List I)(a:Int)(b:Int):=Wd (ZbG back l raw) (Zaw raw) (ZkA a b)
def J9(back:Int)(l:List RawFace)(raw:List I)(a:Int)(b:Int):=XJ (ZbG back l raw) (ZbH raw) (ZeF a b)
def JA(back:Int)(l:List RawFace)(raw:List I)(a:Int)(b:Int):=XJ (ZbG back l raw) (Zaw raw) (ZeF a b)
def JB(back:Int)(l:List RawFace)(raw:List I)(a:Int)(b:Int):=XJ (ZbG back l raw) (ZbH raw) (ZkA a b)
def JC(back:Int)(l:List RawFace)(raw:List I)(a:Int)(b:Int):=XJ (ZbG back l raw) (Zaw raw) (ZkA a b)
def Zho(back:Int)(l:List RawFace)(raw:List I)(a:Int)(b:Int):=Zi Surf.dec (List.map Surf.enc (Zbm back l raw a b).fst.surfs)
def Zhp(back:Int)(l:List RawFace)(raw:List I)(a:Int)(b:Int):=Zi Surf.dec (List.map Surf.enc (ZcL back l raw a b).fst.surfs)
def Zhq(back:Int)(l:List RawFace)(raw:List I)(a:Int)(b:Int):=Zi Surf.dec (List.map Surf.enc (ZcJ back l raw a b).fst.surfs)
def Zhr(back:Int)(l:List RawFace)(raw:List I)(a:Int)(b:Int):=Zi Surf.dec (List.map Surf.enc (ZcK back l raw a b).fst.surfs)
def ZdA(back:Int)(l:List RawFace)(raw:List I)(a:Int)(b:Int):=SysM.mk (Zi Surf.dec (List.map Surf.enc (JB back l raw a b).fst.surfs)) (JB back l raw a b).fst.op
def ZdB(back:Int)(l:List RawFace)(raw:List I)(a:Int)(b:Int):=SysM.mk (Zi Surf.dec (List.map Surf.enc (J9 back l raw a b).fst.surfs)) (J9 back l raw a b).fst.op
def ZdC(back:Int)(l:List RawFace)(raw:List I)(a:Int)(b:Int):=SysM.mk (Zi Surf.dec (List.map Surf.enc (JC back l raw a b).fst.surfs)) (JC back l raw a b).fst.op
def ZdD(back:Int)(l:List RawFace)(raw:List I)(a:Int)(b:Int):=SysM.mk (Zi Surf.dec (List.map Surf.enc (JA back l raw a b).fst.surfs)) (JA back l raw a b).fst.op
def ZeO(raw:List I):=List.map Glass.enc (YM (Zhn raw))=List.map Glass.enc (Zaw raw)
def ZkB(back:Int)(l:List RawFace)(raw:List I)(a:Int)(b:Int):=[PV.lst (List.map Surf.enc (JB back l raw a b).fst.surfs),vI (JB back l raw a b).fst.op.lo,vI (JB back l raw a b).fst.op.hi,vB (JB back l raw a b).fst.op.no]
def ZkC(back:Int)(l:List RawFace)(raw:List I)(a:Int)(b:Int):=[PV.lst (List.map Surf.enc (J9 back l raw a b).fst.surfs),vI (J9 back l raw a b).fst.op.lo,vI (J9 back l raw a b).fst.op.hi,vB (J9 back l raw a b).fst.op.no]
def ZkD(back:Int)(l:List RawFace)(raw:List I)(a:Int)(b:Int):=[PV.lst (List.map Surf.enc (Zbm back l raw a b).fst.surfs),vI (Zbm back l raw a b).fst.op.lo,vI (Zbm back l raw a b).fst.op.hi,vB (Zbm back l raw a b).fst.op.no]
def ZkE(back:Int)(l:List RawFace)(raw:List I)(a:Int)(b:Int):=[PV.lst (List.map Surf.enc (JC back l raw a b).fst.surfs),vI (JC back l raw a b).fst.op.lo,vI (JC back l raw a b).fst.op.hi,vB (JC back l raw a b).fst.op.no]
def ZkF(back:Int)(l:List RawFace)(raw:List I)(a:Int)(b:Int):=[PV.lst (List.map Surf.enc (JA back l raw a b).fst.surfs),vI (JA back l raw a b).fst.op.lo,vI (JA back l raw a b).fst.op.hi,vB (JA back l raw a b).fst.op.no]
def ZkG(back:Int)(l:List RawFace)(raw:List I)(a:Int)(b:Int):=[PV.lst (List.map Surf.enc (ZcL back l raw a b).fst.surfs),vI (ZcL back l raw a b).fst.op.lo,vI (ZcL back l raw a b).fst.op.hi,vB (ZcL back l raw a b).fst.op.no]
def ZkH(back:Int)(l:List RawFace)(raw:List I)(a:Int)(b:Int):=[PV.lst (List.map Surf.enc (ZcJ back l raw a b).fst.surfs),vI (ZcJ back l raw a b).fst.op.lo,vI (ZcJ back l raw a b).fst.op.hi,vB (ZcJ back l raw a b).fst.op.no]
def ZkI(back:Int)(l:List RawFace)(raw:List I)(a:Int)(b:Int):=[PV.lst (List.map Surf.enc (ZcK back l raw a b).fst.surfs),vI (ZcK back l raw a b).fst.op.lo,vI (ZcK back l raw a b).fst.op.hi,vB (ZcK back l raw a b).fst.op.no]
def Zbn(back:Int)(l:List RawFace)(raw:List I):=(Z4 (Zk9 back l raw))=(ZbG back l raw).enc
def Zhs(raw:List I):=List.drop (1:Nat) (ZhZ raw)=List.map Glass.enc (ZbH raw)
def ZdE(back:Int)(l:List RawFace)(raw:List I)(a:Int)(b:Int):=SysM.mk (Zho back l raw a b) (Zbm back l raw a b).fst.op
def ZdF(back:Int)(l:List RawFace)(raw:List I)(a:Int)(b:Int):=SysM.mk (Zhp back l raw a b) (ZcL back l raw a b).fst.op
def ZdG(back:Int)(l:List RawFace)(raw:List I)(a:Int)(b:Int):=SysM.mk (Zhq back l raw a b) (ZcJ back l raw a b).fst.op
def Zqa(back:Int)(l:List RawFace)(raw:List I)(a:Int)(b:Int):=SysM.mk (Zi Surf.dec (List.map Surf.enc (JC back l raw a b).fst.surfs)) (JC back l raw a b).fst.op=SysM.mk (Zho back l raw a b) (Zbm back l raw a b).fst.op∧(Zho back l raw a b).length≤(1000:Nat)
def ZdH(back:Int)(l:List RawFace)(raw:List I)(a:Int)(b:Int):=SysM.mk (Zhr back l raw a b) (ZcK back l raw a b).fst.op
def Zqb(back:Int)(l:List RawFace)(raw:List I)(a:Int)(b:Int):=SysM.mk (Zi Surf.dec (List.map Surf.enc (JB back l raw a b).fst.surfs)) (JB back l raw a b).fst.op=SysM.mk (Zhp back l raw a b) (ZcL back l raw a b).fst.op∧(Zhp back l raw a b).length≤(1000:Nat)
def Zqc(back:Int)(l:List RawFace)(raw:List I)(a:Int)(b:Int):=SysM.mk (Zi Surf.dec (List.map Surf.enc (J9 back l raw a b).fst.surfs)) (J9 back l raw a b).fst.op=SysM.mk (Zhq back l raw a b) (ZcJ back l raw a b).fst.op∧(Zhq back l raw a b).length≤(1000:Nat)
def Zqd(back:Int)(l:List RawFace)(raw:List I)(a:Int)(b:Int):=SysM.mk (Zi Surf.dec (List.map Surf.enc (JA back l raw a b).fst.surfs)) (JA back l raw a b).fst.op=SysM.mk (Zhr back l raw a b) (ZcK back l raw a b).fst.op∧(Zhr back l raw a b).length≤(1000:Nat)
def Zqe:=(0:Int) < (40000:Int)∧(40000:Int)≤(4611686018427387904:Int)
def Zqf:=(0:Int) < (300:Int)∧(300:Int)≤(4611686018427387904:Int)
def Zqg(b:Int):=(0:Int)≤pick b (300:Int)∧pick b (300:Int)≤(1073741824:Int)
set_option maxHeartbeats 8000000 in
theorem Zqh(back:Int)(l:List RawFace)(raw:List I)(a:Int)(b:Int)(lack:Int)(tame:Bool)(hp0:l.length≤140737488355328∧raw.length≤140737488355328):Con Tryz.prog 9 [.v (.int .i64 back),.lst (l.map RawFace.enc),.lst (raw.map I.enc),.v (.int .i64 a),.v (.int .i64 b),.v (.int .i64 lack),.v (.bool tame)] (.v (.bool true)):=by
 refine cf0 (Zb Z2n<|Zb Z2o<|Zb Z2g<|Zb Zkn<|Zb ZyX<|Zb Zzh<|Zb Z2m<|Zb Z28<|Zb Z24<|Zb Z23<|Zb Zzg<|Zb Z21<|Zg) (fn:=Tryz.f9) rfl ?_
 refine sxT (fun Q=>((List.map I.enc raw=List.map I.enc (Zhn raw))∧(((Zhn raw).length≤(140737488355328:Nat))∧((List.map RawFace.enc l=List.map RawFace.enc (Zk8 l))∧((ZeO raw)∧(((Zk8 l).length≤(140737488355328:Nat)∧(Zaw raw).length≤(1000:Nat)∧(8:Int)≤(1000:Int))∧(((7:Int)≠(0:Int))∧(bif lack.tmod (7:Int)==(6:Int) then (((0:Int)≤(1:Int)∧(1:Int)≤↑(ZhZ raw).length∧Lens (13:Nat) (ZhZ raw))∧(bif tame then (Zqe∧(Zqf∧((Zqg b)∧((Zbn back l raw)∧((Zhs raw)∧(((ZbH raw).length≤(140737488355328:Nat)∧(ZeN back l raw).length≤(140737488355328:Nat))∧((Zbn back l raw)∧((Zhs raw)∧(((ZbH raw).length≤(140737488355328:Nat))∧(bif (ZcL back l raw a b).snd==(JB back l raw a b).snd then (((ZkG back l raw a b)=(ZdF back l raw a b).enc)∧(((ZkB back l raw a b)=(ZdA back l raw a b).enc)∧((Zqb back l raw a b)∧(((ZkG back l raw a b)=(ZdF back l raw a b).enc)∧(((ZkB back l raw a b)=(ZdA back l raw a b).enc)∧((Zqb back l raw a b)∧(((ZkG back l raw a b)=(ZdF back l raw a b).enc)∧(((Zhp back l raw a b).length≤(1000:Nat))∧(((ZkB back l raw a b)=(ZdA back l raw a b).enc)∧(((Zi Surf.dec (List.map Surf.enc (JB back l raw a b).fst.surfs)).length≤(1000:Nat))∧Q (vB ((YC (ZdF back l raw a b)).lo==(YC (ZdA back l raw a b)).lo&&((YC (ZdF back l raw a b)).hi==(YC (ZdA back l raw a b)).hi&&((YC (ZdF back l raw a b)).no==(YC (ZdA back l raw a b)).no&&true)))))))))))))) else Q (vB false))))))))))) else ((Zbn back l raw)∧((Zhs raw)∧(((ZbH raw).length≤(140737488355328:Nat)∧(ZeN back l raw).length≤(140737488355328:Nat))∧((Zbn back l raw)∧((Zhs raw)∧(((ZbH raw).length≤(140737488355328:Nat))∧(bif (ZcJ back l raw a b).snd==(J9 back l raw a b).snd then (((ZkH back l raw a b)=(ZdG back l raw a b).enc)∧(((ZkC back l raw a b)=(ZdB back l raw a b).enc)∧((Zqc back l raw a b)∧(((ZkH back l raw a b)=(ZdG back l raw a b).enc)∧(((ZkC back l raw a b)=(ZdB back l raw a b).enc)∧((Zqc back l raw a b)∧(((ZkH back l raw a b)=(ZdG back l raw a b).enc)∧(((Zhq back l raw a b).length≤(1000:Nat))∧(((ZkC back l raw a b)=(ZdB back l raw a b).enc)∧(((Zi Surf.dec (List.map Surf.enc (J9 back l raw a b).fst.surfs)).length≤(1000:Nat))∧Q (vB ((YC (ZdG back l raw a b)).lo==(YC (ZdB back l raw a b)).lo&&((YC (ZdG back l raw a b)).hi==(YC (ZdB back l raw a b)).hi&&((YC (ZdG back l raw a b)).no==(YC (ZdB back l raw a b)).no&&true)))))))))))))) else Q (vB false)))))))))) else (bif tame then (Zqe∧(Zqf∧((Zqg b)∧((Zbn back l raw)∧((ZeO raw)∧(((Zaw raw).length≤(140737488355328:Nat)∧(ZeN back l raw).length≤(140737488355328:Nat))∧((Zbn back l raw)∧((ZeO raw)∧(((Zaw raw).length≤(140737488355328:Nat))∧(bif (Zbm back l raw a b).snd==(JC back l raw a b).snd then (((ZkD back l raw a b)=(ZdE back l raw a b).enc)∧(((ZkE back l raw a b)=(ZdC back l raw a b).enc)∧((Zqa back l raw a b)∧(((ZkD back l raw a b)=(ZdE back l raw a b).enc)∧(((ZkE back l raw a b)=(ZdC back l raw a b).enc)∧((Zqa back l raw a b)∧(((ZkD back l raw a b)=(ZdE back l raw a b).enc)∧(((Zho back l raw a b).length≤(1000:Nat))∧(((ZkE back l raw a b)=(ZdC back l raw a b).enc)∧(((Zi Surf.dec (List.map Surf.enc (JC back l raw a b).fst.surfs)).length≤(1000:Nat))∧Q (vB ((YC (ZdE back l raw a b)).lo==(YC (ZdC back l raw a b)).lo&&((YC (ZdE back l raw a b)).hi==(YC (ZdC back l raw a b)).hi&&((YC (ZdE back l raw a b)).no==(YC (ZdC back l raw a b)).no&&true)))))))))))))) else Q (vB false))))))))))) else ((Zbn back l raw)∧((ZeO raw)∧(((Zaw raw).length≤(140737488355328:Nat)∧(ZeN back l raw).length≤(140737488355328:Nat))∧((Zbn back l raw)∧((ZeO raw)∧(((Zaw raw).length≤(140737488355328:Nat))∧(bif (ZcK back l raw a b).snd==(JA back l raw a b).snd then (((ZkI back l raw a b)=(ZdH back l raw a b).enc)∧(((ZkF back l raw a b)=(ZdD back l raw a b).enc)∧((Zqd back l raw a b)∧(((ZkI back l raw a b)=(ZdH back l raw a b).enc)∧(((ZkF back l raw a b)=(ZdD back l raw a b).enc)∧((Zqd back l raw a b)∧(((ZkI back l raw a b)=(ZdH back l raw a b).enc)∧(((Zhr back l raw a b).length≤(1000:Nat))∧(((ZkF back l raw a b)=(ZdD back l raw a b).enc)∧(((Zi Surf.dec (List.map Surf.enc (JA back l raw a b).fst.surfs)).length≤(1000:Nat))∧Q (vB ((YC (ZdH back l raw a b)).lo==(YC (ZdD back l raw a b)).lo&&((YC (ZdH back l raw a b)).hi==(YC (ZdD back l raw a b)).hi&&((YC (ZdH back l raw a b)).no==(YC (ZdD back l raw a b)).no&&true)))))))))))))) else Q (vB false))))))))))))))))) (fun _=>by kernel_rfl) ?_
 delta Qn ZbG ZhZ ZkA ZbH Zaw ZcJ ZcK Zk9 ZcL Zbm J9 JA JB JC Zho Zhp Zhq Zhr ZdA ZdB ZdC ZdD ZeO ZkB ZkC ZkD ZkE ZkF ZkG ZkH ZkI Zbn Zhs ZdE ZdF ZdG Zqa ZdH Zqb Zqc Zqd ZeN Zqe Zqf Zqg Zhn Zk8 Z4 vI vB
 have hg:=Zea raw
 have hf:=ZoG back l (YM raw) 8 (by decide)
 have hb:=Xy (n:=b) (m:=300) (by omega)
 have hbl:∀g w,(XJ (Wc back l (YM raw) 8) g w).1.surfs.length≤12:=fun g w=>ZsR _ g w
 refine ⟨?r76,⟨?r75,⟨?r74,⟨?r73,⟨?r72,⟨?r71,Za (fun h0=>⟨?r35,Za (fun h1=>⟨?r18,⟨?r17,⟨?r16,⟨?r15,⟨?r14,⟨?r13,⟨?r12,⟨?r11,⟨?r10,Za (fun h2=>⟨?r9,⟨?r8,⟨?r7,⟨?r6,⟨?r5,⟨?r4,⟨?r3,⟨?r2,⟨?r1,⟨?r0, ?_⟩⟩⟩⟩⟩⟩⟩⟩⟩⟩) (fun h2=>?_)⟩⟩⟩⟩⟩⟩⟩⟩⟩) (fun h1=>⟨?r34,⟨?r33,⟨?r32,⟨?r31,⟨?r30,⟨?r29,Za (fun h2=>⟨?r28,⟨?r27,⟨?r26,⟨?r25,⟨?r24,⟨?r23,⟨?r22,⟨?r21,⟨?r20,⟨?r19, ?_⟩⟩⟩⟩⟩⟩⟩⟩⟩⟩) (fun h2=>?_)⟩⟩⟩⟩⟩⟩)⟩) (fun h0=>Za (fun h1=>⟨?r54,⟨?r53,⟨?r52,⟨?r51,⟨?r50,⟨?r49,⟨?r48,⟨?r47,⟨?r46,Za (fun h2=>⟨?r45,⟨?r44,⟨?r43,⟨?r42,⟨?r41,⟨?r40,⟨?r39,⟨?r38,⟨?r37,⟨?r36, ?_⟩⟩⟩⟩⟩⟩⟩⟩⟩⟩) (fun h2=>?_)⟩⟩⟩⟩⟩⟩⟩⟩⟩) (fun h1=>⟨?r70,⟨?r69,⟨?r68,⟨?r67,⟨?r66,⟨?r65,Za (fun h2=>⟨?r64,⟨?r63,⟨?r62,⟨?r61,⟨?r60,⟨?r59,⟨?r58,⟨?r57,⟨?r56,⟨?r55, ?_⟩⟩⟩⟩⟩⟩⟩⟩⟩⟩) (fun h2=>?_)⟩⟩⟩⟩⟩⟩))⟩⟩⟩⟩⟩⟩
 case r0|r1|r2|r3|r4|r5|r6|r7|r8|r9|r10|r11|r12|r13|r14|r15|r16|r17|r18|r19|r20|r21|r22|r23|r24|r25|r26|r27|r28|r29|r30|r31|r32|r33|r34|r35|r36|r37|r38|r39|r40|r41|r42|r43|r44|r45|r46|r47|r48|r49|r50|r51|r52|r53|r54|r55|r56|r57|r58|r59|r60|r61|r62|r63|r64|r65|r66|r67|r68|r69|r70|r71|r72|r73|r74|r75|r76=>(try simp only[←List.map_drop,dI,Za3,Zp,ZI,YS,ZpZ,ZrQ,Zk7]);first | rfl | done | omega | (simp only[SysM.enc,LensM.enc,YS,ZI];done) | (exact ⟨hp0.1,by omega,by decide,by decide⟩) | (simp only[Qk_,K9_];omega) | (exact ⟨by decide,by simp only[Qk_];omega,XI (e:=Glass.enc) (fun _=>rfl) _⟩) | (exact ⟨by trivial,QT_ (hbl _ _) (by decide)⟩) | (exact QT_ (hbl _ _) (by decide)) | (exact ⟨hp0.1,by omega,by omega⟩) | skip
 all_goals (try simp only[←List.map_drop,dI,Za3,Zp,ZI,YS,ZpZ,ZrQ,Zk7] at *)
 all_goals first | rfl | (simp only[beq_self_eq_true,QZ_,Qr_];rfl) | (exact (ZzU h2).elim) | skip
end Go.Men
namespace Go.Ev
open Go.RowKit Go.ChangeShapes Go.Deep
inductive SK where
 | int (k:IntKind)
 | bool
 | str
def Zbo:SK→Value→Prop
 | .int k,v=>∃n,v= .int k n∧k.min≤n∧n≤k.max
 | .bool,v=>∃b,v= .bool b
 | .str,v=>∃s,v= .string s∧s.size≤maxLen
def px:Value→PV
 | .string s=> .str s.data.toList
 | v=> .v v
def skT(P:Program)(t:TypeId):Option SK:=match P.underlying t with
 | some (.int k)=>some (.int k)
 | some .bool=>some .bool
 | some .string=>some .str
 | _=>none
def Zn4{α β:Type}(f:Nat→α→Option β):Nat→List α→Option (List β)
 | _,[]=>some []
 | i,x::r=>match f i x,Zn4 f (i+1) r with
   | some y,some l=>some (y::l)
   | _,_=>none
def Zuz(P:Program)(t:TypeId):Option (List SK):=match P.underlying t with
 | some (.struct fs)=>bif Nat.beq (P.cellsOf t) fs.size then Zn4 (fun i (f:Field)=>bif Nat.beq f.offset i&&Nat.beq (P.cellsOf f.type) 1 then skT P f.type else none) 0 fs.toList else none
 | some (.array n e)=>bif Nat.beq (P.cellsOf t) n&&Nat.beq (P.cellsOf e) 1 then (match skT P e with | some k=>some (List.replicate n k) | none=>none) else none
 | _=>bif Nat.beq (P.cellsOf t) 1 then (match skT P t with | some k=>some [k] | none=>none) else none
section
variable {H:Type}{enc:TypeId×Value→H}{P:Program}{w:World}{base:Nat}{spare:Nat→Bool}{held:Bool}
theorem Zht{t:TypeId}{k:SK}(hk:skT P t=some k){fuel:Nat}{cs:List Value}{x:DataW H×List MemPlace}(h:DataW.trod enc P w base spare held fuel t cs=some x):∃v,cs=[v]∧Zbo k v:=by
 unfold skT at hk
 split at hk
 ·rename_i k' hu
  cases Qa_ hk
  obtain ⟨n,h1,_,h2⟩:=DataW.trod_int hu h
  simp only[Lit.wf,Qh_,Qc_] at h2
  exact ⟨_,h1,n,rfl,h2.1,h2.2⟩
 ·rename_i hu
  cases Qa_ hk
  obtain ⟨b,h1,_⟩:=DataW.trod_bool hu h
  exact ⟨_,h1,b,rfl⟩
 ·rename_i hu
  cases Qa_ hk
  obtain ⟨s,h1,_,h2⟩:=DataW.trod_string hu h
  exact ⟨_,h1,s,rfl,h2⟩
 ·cases hk
theorem Zhu{α β:Type}{f:α→Option β}:∀{l:List α} {r:List β},l.mapM f=some r→∀x∈l,∃y,f x=some y
 | [],_,_,x,hx=>absurd hx (by simp)
 | a::l,r,h,x,hx=>by
   rw[List.mapM_cons] at h
   obtain ⟨y,h1,h2⟩:=Option.bind_eq_some_iff.1 h
   obtain ⟨ys,h3,_⟩:=Option.bind_eq_some_iff.1 h2
   rcases Q9_.1 hx with e | hx
   ·subst e;exact ⟨y,h1⟩
   ·exact Zhu h3 x hx
theorem Zm0{α β:Type}{f:Nat→α→Option β}:∀{l:List α} {i:Nat} {r:List β},Zn4 f i l=some r→r.length=l.length∧∀(j:Nat) (y:β),r[j]?=some y→∃x,l[j]?=some x∧f (i+j) x=some y
 | [],i,r,h=>by
   cases Qa_ h
   exact ⟨rfl,fun j y hj=>by simp at hj⟩
 | a::l,i,r,h=>by
   unfold Zn4 at h
   split at h
   ·rename_i y ys h1 h2
    cases Qa_ h
    obtain ⟨e1,e2⟩:=Zm0 h2
    refine ⟨by simp[e1],fun j z hj=>?_⟩
    cases j with
    | zero=>simp at hj;subst hj;exact ⟨a,by simp,by simpa using h1⟩
    | succ j=>
      obtain ⟨x,h3,h4⟩:=e2 j z (by simpa using hj)
      exact ⟨x,by simpa using h3,by rw[←h4];congr 1;omega⟩
   ·cases h
theorem ZwC{t:TypeId}{ks:List SK}(hk:Zuz P t=some ks){fuel:Nat}{cs:List Value}{x:DataW H×List MemPlace}(h:DataW.trod enc P w base spare held fuel t cs=some x):
 cs.length=ks.length∧P.cellsOf t=ks.length∧∀(i:Nat) (k:SK),ks[i]?=some k→∃v,cs[i]?=some v∧Zbo k v:=by
 unfold Zuz at hk
 split at hk
 ·rename_i fs hu
  cases hb:Nat.beq (P.cellsOf t) fs.size with
  | false=>rw[hb] at hk;cases hk
  | true=>
    rw[hb,Qb_] at hk
    have hsz:=Qj_ hb
    obtain ⟨e1,e2⟩:=Zm0 hk
    cases fuel with
    | zero=>exact absurd h (by simp[DataW.trod])
    | succ fuel=>
      simp only[DataW.trod,hu] at h
      split at h
      ·rename_i hl
       simp only[Option.map_eq_some_iff] at h
       obtain ⟨ys,h1,_⟩:=h
       refine ⟨by rw[hl,hsz,e1];simp,by rw[hsz,e1];simp,fun i k hi=>?_⟩
       obtain ⟨f,hf,hc⟩:=e2 i k hi
       rw[QP_] at hc
       cases hb2:(Nat.beq f.offset i&&Nat.beq (P.cellsOf f.type) 1) with
       | false=>rw[hb2] at hc;cases hc
       | true=>
         rw[hb2,Qb_] at hc
         rw[Qh_] at hb2
         have ho:=Qj_ hb2.1
         have h1c:=Qj_ hb2.2
         obtain ⟨y,hy⟩:=Zhu h1 f (Qz_ hf)
         obtain ⟨v,hv,hok⟩:=Zht hc hy
         rw[ho,h1c] at hv
         refine ⟨v, ?_,hok⟩
         have:=Kk_ (fun l:List Value=>l[0]?) hv
         simpa using this
      ·cases h
 ·rename_i n e hu
  cases hb:(Nat.beq (P.cellsOf t) n&&Nat.beq (P.cellsOf e) 1) with
  | false=>rw[hb] at hk;cases hk
  | true=>
    rw[hb,Qb_] at hk
    rw[Qh_] at hb
    have hsz:=Qj_ hb.1
    have h1c:=Qj_ hb.2
    split at hk
    ·rename_i k hsk
     cases Qa_ hk
     cases fuel with
     | zero=>exact absurd h (by simp[DataW.trod])
     | succ fuel=>
       simp only[DataW.trod,hu] at h
       split at h
       ·rename_i hl
        simp only[Option.map_eq_some_iff] at h
        obtain ⟨ys,h1,_⟩:=h
        refine ⟨by rw[hl,hsz];simp,by rw[hsz];simp,fun i k' hi=>?_⟩
        have hin:i < n:=by
         have:=(Qo_.1 hi).1
         simpa using this
        have hkk:k'=k:=by
         rw[List.getElem?_replicate] at hi
         rw[if_pos hin] at hi
         exact (Qa_ hi).symm
        subst hkk
        obtain ⟨y,hy⟩:=Zhu h1 i (by simpa using hin)
        obtain ⟨v,hv,hok⟩:=Zht hsk hy
        rw[h1c,Nat.mul_one] at hv
        refine ⟨v, ?_,hok⟩
        have:=Kk_ (fun l:List Value=>l[0]?) hv
        simpa using this
       ·cases h
    ·cases hk
 ·cases hb:Nat.beq (P.cellsOf t) 1 with
  | false=>rw[hb] at hk;cases hk
  | true=>
    rw[hb,Qb_] at hk
    have h1c:=Qj_ hb
    split at hk
    ·rename_i k hsk
     cases Qa_ hk
     obtain ⟨v,rfl,hok⟩:=Zht hsk h
     refine ⟨rfl,h1c,fun i k' hi=>?_⟩
     cases i with
     | zero=>simp at hi;subst hi;exact ⟨v,rfl,hok⟩
     | succ i=>simp at hi
    ·cases hk
theorem Zqi{k:SK}{v:Value}(h:Zbo k v)(hw:Nat→Nat)(w:World):Rep hw w v (px v)∧v.oneCell'=true:=by
 cases k with
 | int k=>obtain ⟨n,rfl,_⟩:=h;exact ⟨.v _ rfl,rfl⟩
 | bool=>obtain ⟨b,rfl⟩:=h;exact ⟨.v _ rfl,rfl⟩
 | str=>
   obtain ⟨s,rfl,_⟩:=h
   exact ⟨.str s.data.toList,rfl⟩
def Zez(ks:List SK)(xs:List PV):Prop:=xs.length=ks.length∧∀(i:Nat) (k:SK),ks[i]?=some k→∃v,Zbo k v∧xs[i]?=some (px v)
theorem Zqj{xs:List PV}(h:Zez [] xs):xs=[]:=QM_ h.1
theorem ZwD{k:SK}{ks:List SK}{xs:List PV}(h:Zez (k::ks) xs):∃v r,xs=px v::r∧Zbo k v∧Zez ks r:=by
 obtain ⟨h1,h2⟩:=h
 cases xs with
 | nil=>cases h1
 | cons x r=>
   obtain ⟨v,h3,h4⟩:=h2 0 k rfl
   simp at h4
   subst h4
   exact ⟨v,r,rfl,h3,by simpa using h1,fun i k' hi=>h2 (i+1) k' (by simpa using hi)⟩
theorem Za4{k:IntKind}{ks:List SK}{xs:List PV}(h:Zez (.int k::ks) xs):∃n r,xs= .v (.int k n)::r∧(k.min≤n∧n≤k.max)∧Zez ks r:=by
 obtain ⟨v,r,e,⟨n,rfl,hb⟩,hr⟩:=ZwD h
 exact ⟨n,r,e,hb,hr⟩
theorem Z0s{ks:List SK}{cs:List Value}(hl:cs.length=ks.length)(h:∀(i:Nat) (k:SK),ks[i]?=some k→∃v,cs[i]?=some v∧Zbo k v):Zez ks (cs.map px):=
 ⟨by simpa using hl,fun i k hi=>by
   obtain ⟨v,h1,h2⟩:=h i k hi
   exact ⟨v,h2,by rw[Q6_,h1];rfl⟩⟩
theorem Zqk{r:Reach}{b0:Nat}{t e:TypeId}(ht:P.underlying t=some (.slice e)){v:Value}(h:Value.okWide P w r b0 t v):v= .slice none 0 0∨∃blk off len cap,v= .slice (some ⟨blk,off,none⟩) len cap∧blk < w.heap.size:=by
 unfold Value.okWide at h
 rw[ht] at h
 simp only[Cell.okWide,ht] at h
 have h2:Cell.ok P w r b0 t v:=h
 unfold Cell.ok at h2
 rw[ht] at h2
 cases v with
 | slice a len cap=>
   cases a with
   | none=>
     refine .inl ?_
     cases len with
     | zero=>cases cap with
       | zero=>rfl
       | succ c=>exact h2.elim
     | succ l=>exact h2.elim
   | some a=>
     obtain ⟨_,_,_,hs,row,cells,hsh,_⟩:=h2
     obtain ⟨blk,off,spot⟩:=a
     simp only at hs
     subst hs
     refine .inr ⟨blk,off,len,cap,rfl, ?_⟩
     simp only[World.shape?] at hsh
     by_cases hlt:blk < w.heap.size
     ·exact hlt
     ·rw[Array.getElem?_eq_none (by omega)] at hsh
      cases hsh
 | _=>exact h2.elim
theorem Zm1{r:Reach}{b0:Nat}{t e:TypeId}{ks:List SK}(ht:P.underlying t=some (.slice e))(hk:Zuz P e=some ks)
 {v:Value} {d:DataW H} {ps:List MemPlace} (hval:Value.okWide P w r b0 t v) (hd:DataW.Trod enc P w base spare held t v d ps):
 ∃rows N,(∀x∈rows,Zez ks x)∧(∀hw:Nat→Nat,(∀k,k < w.heap.size→N≤hw k)→Rep hw w v (.lst rows))∧∀R,(d.weights P t).all (·≤R)=true→rows.length *P.bytesOf e≤R:=by
 obtain ⟨fuel,hf⟩:=hd
 rcases Zqk ht hval with rfl | ⟨blk,off,len,cap,rfl,hblk⟩
 ·exact ⟨[],0,fun x hx=>absurd hx (by simp),fun _ _=> .lnil,fun R _=>by simp⟩
 ·have hcs:(Value.slice (some ⟨blk,off,none⟩) len cap).cells.toList=[.slice (some ⟨blk,off,none⟩) len cap]:=rfl
  rw[hcs] at hf
  rcases open_slice ht hf with ⟨h0,_⟩ | ⟨a,len',cap',m,n,D,Pl,e1,hb,hl,hm,hmm,e2,hx⟩
  ·cases h0
  ·injection e1 with e1 _
   injection e1 with ea el ec
   injection ea with ea
   subst ea;subst el;subst ec
   have hlm:len≤m:=by rw[hmm];split<;>omega
   have hrow:∀i,i < len→∃cs',w.cells? base ((⟨blk,off,none⟩:Addr).add (i *P.cellsOf e)) (P.cellsOf e)=some cs'∧cs'.length=ks.length∧P.cellsOf e=ks.length∧∀(j:Nat) (k:SK),ks[j]?=some k→∃v,cs'[j]?=some v∧Zbo k v:=by
    intro i hi
    obtain ⟨cs',h1,h2⟩:=hx i (by omega)
    obtain ⟨h3,h4,h5⟩:=ZwC hk h2
    exact ⟨cs',h1,h3,h4,h5⟩
   obtain ⟨C,hC⟩:=choose_lt (α:=List Value) (p:=fun i cs'=>w.cells? base ((⟨blk,off,none⟩:Addr).add (i *P.cellsOf e)) (P.cellsOf e)=some cs'∧cs'.length=ks.length∧P.cellsOf e=ks.length∧∀(j:Nat) (k:SK),ks[j]?=some k→∃v,cs'[j]?=some v∧Zbo k v) hrow
   have hrows:∀(i:Nat) (x:List PV),((List.range len).map fun i=>(C i).map px)[i]?=some x→i < len∧x=(C i).map px:=by
    intro i x hi
    rw[Q6_] at hi
    cases hr:(List.range len)[i]? with
    | none=>rw[hr] at hi;cases hi
    | some y=>
      rw[hr] at hi
      have hlt:i < len:=by have:=(Qo_.1 hr).1;simpa using this
      rw[K1_ hlt] at hr
      cases Qa_ hr
      exact ⟨hlt,(Qa_ hi).symm⟩
   have hlen:((List.range len).map fun i=>(C i).map px).length=len:=by simp
   have hcell:∀i j,i < len→j < ks.length→∃v,w.cell? ⟨blk,off+(i *ks.length+j),none⟩=some v∧(C i)[j]?=some v∧∃k,Zbo k v:=by
    intro i j hi hj
    obtain ⟨h1,h2,h3,h4⟩:=hC i hi
    obtain ⟨v,h5,h6⟩:=h4 j ks[j] (Qg_ hj)
    obtain ⟨_,_,h7⟩:=World.cells?_some h1
    have h8:=h7 j (by omega)
    rw[h5] at h8
    refine ⟨v, ?_,h5,_,h6⟩
    rw[←h8,h3,Addr.add_lit,Addr.add_lit,Kt_]
   refine ⟨(List.range len).map fun i=>(C i).map px,off+len *ks.length,fun x hx=>?_,fun hw hN=>?_,fun R hR=>?_⟩
   ·obtain ⟨i,hi,rfl⟩:=Ku_.1 hx
    have hi:i < len:=by simpa using hi
    obtain ⟨_,h2,_,h4⟩:=hC i hi
    exact Z0s h2 h4
   ·have:=Rep.lst (hw:=hw) (w:=w) ((List.range len).map fun i=>(C i).map px) blk off cap ks.length (fun i j=>(w.cell? ⟨blk,off+(i *ks.length+j),none⟩).getD undef) (by rw[hlen];exact hl)
     (fun i x hx=>by obtain ⟨hi,rfl⟩:=hrows i x hx;simpa using (hC i hi).2.1)
     (fun i j hi hj=>by rw[hlen] at hi;obtain ⟨v,h1,_⟩:=hcell i j hi hj;rw[h1];rfl)
     (fun i j x y hx hy=>by
       obtain ⟨hi,rfl⟩:=hrows i x hx
       have hj:j < ks.length:=by have:=(Qo_.1 hy).1;rw[←(hC i hi).2.1];simpa using this
       obtain ⟨v,h1,h2,k,h3⟩:=hcell i j hi hj
       rw[Q6_,h2] at hy
       cases Qa_ hy
       rw[h1]
       exact (Zqi h3 hw w).1)
     (fun i j hi hj=>by rw[hlen] at hi;obtain ⟨v,h1,_,k,h3⟩:=hcell i j hi hj;rw[h1];exact (Zqi h3 hw w).2)
     (by rw[hlen];exact hN blk hblk)
    rw[hlen] at this
    exact this
   ·rw[hlen]
    have hd:d= .slice ((List.range len).map D) ((List.range (m - len)).map fun j=>D (len+j)):=Kk_ Prod.fst e2
    subst hd
    simp only[DataW.weights,ht,List.all_cons,Qk_,List.length_range,Qh_,Qc_] at hR
    exact QT_ (Kb_ _ (by omega)) hR.1
theorem X9{ts:List TypeId}{ds:List (DataW H)}{R:Nat}{t:TypeId}{d:DataW H}(h:(DataW.weightsEach P (t::ts) (d::ds)).all (·≤R)=true):(d.weights P t).all (·≤R)=true∧(DataW.weightsEach P ts ds).all (·≤R)=true:=by
 simp only[DataW.weightsEach,List.all_append,Qh_] at h
 exact h
end
theorem ZfU{H:Type}{enc:TypeId×Value→H}{P:Program}(hl:laidOutB P=true):∀{ts:List TypeId} {W W':World} {vs:List Value} {ds:List (DataW H)} {ps:List MemPlace},(ts.all fun t=>P.readableRec t&&decide (t < P.types.size))=true→
 DataW.TrodAll enc P W 0 (fun _=>true) true ts vs ds ps→Below W.heap.size W W'→(∀x∈ps,x.block < W.heap.size)→∀sp:Nat→Bool,(∀p∈ps,sp p.block=true)→DataW.TrodAll enc P W' 0 sp true ts vs ds ps
 | [],W,W',vs,ds,ps,_,h,_,_,sp,_=>by
   obtain ⟨rfl,rfl,rfl⟩:=trodAll_nil h
   exact rfl
 | t::ts,W,W',vs,ds,ps,ht,h,hb,hlt,sp,hsp=>by
   obtain ⟨v,vs',d,ds',p,q,rfl,rfl,rfl,h1,h2⟩:=trodAll_cons h
   simp only[List.all_cons,Qh_,Qc_] at ht
   exact ⟨p,q,WideElems.Trod_stays hl ht.1.1 ht.1.2 h1 (fun x hx=>hb.same (hlt x (Kg_ _ hx))) (fun x hx=>hsp x (Kg_ _ hx)),
    ZfU hl ht.2 h2 hb (fun x hx=>hlt x (Kq_ _ hx)) sp (fun x hx=>hsp x (Kq_ _ hx)),rfl⟩
theorem ZwE{P:Program}{f:Nat}{b:Bool}(hc:∀args w,(callFunc f args).run P w= .ok (.enter f args) w){xs:List PV}(h:Con P f xs (.v (.bool b)))(w:World){hw:Nat→Nat}(hl:∀k,w.heap.size≤k→hw k=0)(hgl:GlobOk hw w){vals:List Value}(ha:ArgsRep hw w vals xs):Calls P f vals.toArray w fun e w'=>e= .returned (.bool b)∧Below w.heap.size w w':=by
 rcases h hw w vals hl hgl ha with ⟨v,w',h1,_⟩ | ⟨f',h1,h2⟩
 ·rw[hc] at h1
  cases h1
 ·rw[hc] at h1
  injection h1 with h1 _
  injection h1 with h1 _
  subst h1
  exact h2.mono fun e w' ⟨v,he,hw',q,hr⟩=>⟨by rw[he,Z7 hr],q.below⟩
structure ArgsAre(P:Program)(w:World)(ts:List TypeId)(vs:List Value)(xs:List PV):Prop where
 rep:∃N,∀hw:Nat→Nat,(∀k,k < w.heap.size→N≤hw k)→ArgsRep hw w vs xs
theorem ZqX{P:Program}{w:World}:ArgsAre P w [] [] []:=⟨0,fun hw _=>⟨rfl,fun j x y hx=>by simp at hx⟩⟩
theorem We{P:Program}{w:World}{t:TypeId}{ts:List TypeId}{v:Value}{vs:List Value}{x:PV}{xs:List PV}{N:Nat}(h:∀hw:Nat→Nat,(∀k,k < w.heap.size→N≤hw k)→Rep hw w v x)(hr:ArgsAre P w ts vs xs):ArgsAre P w (t::ts) (v::vs) (x::xs):=by
 obtain ⟨M,hM⟩:=hr.rep
 refine ⟨⟨N+M,fun hw hh=>?_⟩⟩
 have h1:=h hw (fun k hk=>QT_ (Nat.le_add_right _ _) (hh k hk))
 have h2:=hM hw (fun k hk=>QT_ (Nat.le_add_left _ _) (hh k hk))
 refine ⟨by simp[h2.len],fun j a b ha hb=>?_⟩
 cases j with
 | zero=>simp at ha hb;subst ha;subst hb;exact h1
 | succ j=>exact h2.rep j a b (by simpa using ha) (by simpa using hb)
section
variable {H:Type}{enc:TypeId×Value→H}
open Go.WideShapes
end
open Go.ChangeAt Go.WideShapes
section
variable {H:Type}{enc:TypeId×Value→H}
theorem Z0t{a:Assume}{C:Checked}{os:Os}{f:FuncId}{fn:Func}{s:ChangeSpec}{F:Stop.Interp}{conds:List PathCond}{laid:List (String×DataW Unit)}{tb:TypeId}
 (own:ownKnob C.prog.godebug=none) (started:os.Started) (noInit:C.prog.inits.idxOf? f=none) (hfn:C.prog.funcs[f]?=some fn)
 (witness:∃(w:World) (tape:Tape) (i:Input),w.os=os∧(w.forCall tape i).Shaped C.prog∧i.vars=[]∧Input.okWide C.prog (w.forCall tape i) .any w.heap.size f i∧
   (OpenSpec.ofChange s).preRow enc C.prog fn conds false laid (w.forCall tape i).memory i.args∧a.holds C.prog (lone (Frame.enter C.prog f i.args .normal) [] (w.forCall tape i)))
 (hcall:∀args w,(callFunc f args).run C.prog w= .ok (.enter f args) w) (hlaid:laidOutB C.prog=true)
 (hts:(fn.params.toList.all fun t=>C.prog.readableRec t&&decide (t < C.prog.types.size))=true) (hvars:s.vars=[]) (hres:fn.resultTypes=#[tb]) (hbool:C.prog.underlying tb=some .bool)
 (hspec:∀ds:List (DataW H),ds.length=fn.params.toList.length→(s.fn H ds).results=[.lit (.bool true)]∧(s.fn H ds).args=ds∧(s.fn H ds).vars=[])
 (hglob:∀(W:World) (N:Nat),64≤N→laidMetH C.prog laid W→GlobOk (fun k=>if k < W.heap.size then N else 0) W)
 (hcon:∀(W:World) (b0:Nat) (args:List Value) (ds:List (DataW H)) (p:List MemPlace),(∀(j:Nat) t v,fn.params.toList[j]?=some t→args[j]?=some v→Value.okWide C.prog W .any b0 t v)→DataW.TrodAll enc C.prog W 0 (fun _=>true) true fn.params.toList args ds p→
   (DataW.weightsEach C.prog fn.params.toList ds).all (·≤reachBytes)=true→∃xs,ArgsAre C.prog W fn.params.toList args xs∧Con C.prog f xs (.v (.bool true))):
 ReturnsInHanded a C os f .any ((OpenSpec.ofChange s).preRow enc C.prog fn conds false laid) (((OpenSpec.ofChange s).at F).post enc C.prog fn false true false false):=by
 refine returnsInHanded_of_row own started noInit hfn witness ?_
 intro W base args ds gs before hval hw' _ _ hwt hL _ _
 have hW:=hw'
 have hvars':(OpenSpec.ofChange s).vars=[]:=hvars
 obtain ⟨p,q,hA,hV,e,hnf,_⟩:=hw'
 subst e
 rw[hvars'] at hV
 obtain ⟨egs,eq⟩:=trodVars_none hV
 subst egs;subst eq
 have hlen:ds.length=fn.params.toList.length:=by
  have key:∀{ts:List TypeId} {vs:List Value} {ds:List (DataW H)} {p:List MemPlace},DataW.TrodAll enc C.prog W 0 (fun _=>true) true ts vs ds p→ds.length=ts.length:=by
   intro ts
   induction ts with
   | nil=>intro vs ds p h;obtain ⟨_,rfl,_⟩:=trodAll_nil h;rfl
   | cons t ts ih=>intro vs ds p h;obtain ⟨v,vs',d,ds',p',q',rfl,rfl,rfl,_,h2⟩:=trodAll_cons h;simp[ih h2]
  exact key hA
 have hwt2:(DataW.weightsEach C.prog fn.params.toList ds).all (·≤reachBytes)=true:=by
  have e1:∀(ts ts':List TypeId) (ds:List (DataW H)),ds.length=ts.length→DataW.weightsEach C.prog (ts++ts') (ds++[])=DataW.weightsEach C.prog ts ds:=by
   intro ts
   induction ts with
   | nil=>intro ts' ds h;have:=QM_ h;subst this;cases ts'<;>rfl
   | cons t ts ih=>intro ts' ds h;cases ds with
     | nil=>cases h
     | cons d ds=>simp only[QS_,DataW.weightsEach];rw[ih ts' ds (by simpa using h)]
  rw[e1 _ _ _ hlen] at hwt
  exact hwt
 obtain ⟨xs,⟨N,hN⟩,hcon⟩:=hcon W base args.toList ds p (fun j t v h1 h2=>hval j t v (by simpa using h1) (by simpa using h2)) hA hwt2
 have hcalls:=ZwE hcall hcon W (hw:=fun k=>if k < W.heap.size then N+64 else 0) (fun k hk=>by simp;omega) (hglob W (N+64) (by omega) hL) (hN _ (fun k hk=>by simp[hk]))
 have ei:args.toList.toArray=args:=by simp
 rw[ei] at hcalls
 refine hcalls.mono fun e W' ⟨he,hb⟩=>?_
 subst he
 obtain ⟨s1,s2,s3⟩:=hspec ds hlen
 refine ⟨_,rfl,Zm7 (pa:=p) (pv:=[]) hW (fun b sp hd=>?_) (fun sp hsp=>?_) (fun sp _=>?_) rfl hb (ok_one hres rfl (okWide_bool_mk hbool _))⟩
 ·show DataW.TrodAll _ _ _ _ _ _ _ _ (s.fn H (ds++[])).results _
  rw[QI_,hres,s1]
  exact trodAll_cons_mk (shut_bool hbool _) trodAll_mk0
 ·show DataW.TrodAll _ _ _ _ _ _ _ _ (s.fn H (ds++[])).args _
  rw[QI_,s2]
  exact ZfU hlaid hts hA hb (fun x hx=>hW.lt x (Kg_ _ hx)) sp (fun x hx=>hsp x (by simpa using hx))
 ·have h3:(s.fn H (ds++[])).vars=[]:=by rw[QI_];exact s3
  show DataW.TrodVars enc C.prog W' sp s.vars (s.fn H (ds++[])).vars []
  rw[hvars,h3]
  exact rfl
end
end Go.Ev
