/- A logic of frames, its evaluator for values known in part, and what the functions that the law reaches are shown to do: written for this claim. Part D. -/
import Derived.Test.YtfeldacghdcghaaGreatDoorFuC
import Derived.KernelRfl
import Derived.RangeFuncBox
import Derived.RangeFuncLeaves
import Derived.RangeFuncNested
import Derived.Shelf.Abstract
import Derived.Shelf.RegionOpen
import Derived.WalkKit
import Derived.OwnWalkIn
import Derived.TacticsInMore
import Derived.LoopNIn
import Derived.LoopIn
import Derived.RangeFuncCalls
set_option linter.all false
set_option maxRecDepth 100000
namespace Go.Men
open Go.Ev Go.Proofs Go.Proofs.YtfeldacghdcghaaGreatDoor
theorem ZgZ:Zi Tryz.prog 63 e63:=Zj<|Zg fun n=>EZ0<|by
 refine cf0 Ze (fn:=Tryz.f63) rfl ?_
 refine sxT (fun Q=>(bif decide (n≥(-1073741824:Int)) then Q (vB (decide (n≤(1073741824:Int)))) else Q (vB false))) (fun _=>by kernel_rfl) ?_
 delta Qn vB
 refine Zb (fun h0=>?_) (fun h0=>?_)
 all_goals (simp only[inB,ZK,ZC,List.foldl,Qr_,Qp_,Ql_,Qn_,Q5_,Q4_,Qw_,Q3_,Qu_,Qt_,Qb_,Qd_,QD_,Q8_, *];rfl)
theorem ZjE:Zi Tryz.prog 73 e73:=Zj<|Zg fun n=>EZ0<|by
 refine cf0 Ze (fn:=Tryz.f73) rfl ?_
 refine sxT (fun Q=>(bif decide (n≥(-1073741824:Int)) then Q (vB (decide (n≤(1073741824:Int)))) else Q (vB false))) (fun _=>by kernel_rfl) ?_
 delta Qn vB
 refine Zb (fun h0=>?_) (fun h0=>?_)
 all_goals (simp only[inB,ZK,ZC,List.foldl,Qr_,Qp_,Ql_,Qn_,Q5_,Q4_,Qw_,Q3_,Qu_,Qt_,Qb_,Qd_,QD_,Q8_, *];rfl)
theorem ZoF(a:Iv):Con Tryz.prog 62 [.agg (Iv.enc a)] (.v (.bool (right a))):=by
 refine cf0 (Za ZgZ<|Ze) (fn:=Tryz.f62) rfl ?_
 refine sxT (fun Q=>(bif !a.no then (bif inB a.lo then (bif inB a.hi then Q (vB (decide (a.lo≤a.hi))) else Q (vB false)) else Q (vB false)) else Q (vB false))) (fun _=>by kernel_rfl) ?_
 delta Qn vB
 refine Zb (fun h0=>Zb (fun h1=>Zb (fun h2=>?_) (fun h2=>?_)) (fun h1=>?_)) (fun h0=>?_)
 all_goals (simp only[right,ZK,ZC,List.foldl,Qr_,Qp_,Ql_,Qn_,Q5_,Q4_,Qw_,Q3_,Qu_,Qt_,Qb_,Qd_,QD_,Q8_, *];rfl)
theorem Zab:Zi Tryz.prog 62 e62:=Zj<|Zg fun a=>EZ0<|ZoF a
theorem Zfh:Zi Tryz.prog 72 e72:=Zj<|Zg fun a=>EZ0<|by
 refine cf0 (Za ZjE<|Ze) (fn:=Tryz.f72) rfl ?_
 refine sxT (fun Q=>(bif !a.no then (bif inB a.lo then (bif inB a.hi then Q (vB (decide (a.lo≤a.hi))) else Q (vB false)) else Q (vB false)) else Q (vB false))) (fun _=>by kernel_rfl) ?_
 delta Qn vB
 refine Zb (fun h0=>Zb (fun h1=>Zb (fun h2=>?_) (fun h2=>?_)) (fun h1=>?_)) (fun h0=>?_)
 all_goals (simp only[right,ZK,ZC,List.foldl,Qr_,Qp_,Ql_,Qn_,Q5_,Q4_,Qw_,Q3_,Qu_,Qt_,Qb_,Qd_,QD_,Q8_, *];rfl)
theorem ZrQ:Con Tryz.prog 64 [] (.agg (Iv.enc none')):=by
 refine cf0 Ze (fn:=Tryz.f64) rfl ?_
 refine sxT (fun Q=>Q (PV.agg [vI 0,vI 0,vB true])) (fun _=>by kernel_rfl) ?_
 delta Qn vI vB
 refine ?_
 all_goals rfl
theorem Xe:Zi Tryz.prog 64 e64:=Zj<|EZ0<|ZrQ
theorem Za2:Zi Tryz.prog 74 e74:=Zj<|EZ0<|by
 refine cf0 Ze (fn:=Tryz.f74) rfl ?_
 refine sxT (fun Q=>Q (PV.agg [vI 0,vI 0,vB true])) (fun _=>by kernel_rfl) ?_
 delta Qn vI vB
 refine ?_
 all_goals rfl
theorem Zac:Zi Tryz.prog 65 e65:=Zj<|Zg fun lo=>Zg fun hi=>EZ0<|by
 refine cf0 (Za Zab<|Za Xe<|Ze) (fn:=Tryz.f65) rfl ?_
 refine sxT (fun Q=>(bif !right (Iv.mk lo hi false) then Q (PV.agg [vI 0,vI 0,vB true]) else Q (PV.agg [vI lo,vI hi,vB false]))) (fun _=>by kernel_rfl) ?_
 delta Qn vI vB
 refine Zb (fun h0=>?_) (fun h0=>?_)
 all_goals (try simp only[Qi_,Qf_,bne] at *)
 all_goals (simp only[of,ZK,ZC,List.foldl,Qr_,Qp_,Ql_,Qn_,Q5_,Q4_,Qw_,Q3_,Qu_,Qt_,Qb_,Qd_,QD_,Q8_, *];rfl)
theorem Zfi:Zi Tryz.prog 75 e75:=Zj<|Zg fun lo=>Zg fun hi=>EZ0<|by
 refine cf0 (Za Zfh<|Za Za2<|Ze) (fn:=Tryz.f75) rfl ?_
 refine sxT (fun Q=>(bif !right (Iv.mk lo hi false) then Q (PV.agg [vI 0,vI 0,vB true]) else Q (PV.agg [vI lo,vI hi,vB false]))) (fun _=>by kernel_rfl) ?_
 delta Qn vI vB
 refine Zb (fun h0=>?_) (fun h0=>?_)
 all_goals (try simp only[Qi_,Qf_,bne] at *)
 all_goals (simp only[of,ZK,ZC,List.foldl,Qr_,Qp_,Ql_,Qn_,Q5_,Q4_,Qw_,Q3_,Qu_,Qt_,Qb_,Qd_,QD_,Q8_, *];rfl)
theorem Zfj:Zi Tryz.prog 35 e35:=Zj<|Zg fun n=>EZ0<|by
 refine cf0 (Za Zac<|Ze) (fn:=Tryz.f35) rfl ?_
 refine sxT (fun Q=>Q (PV.agg (eIv (of n n)))) (fun _=>by kernel_rfl) ?_
 delta Qn eIv vI vB
 refine ?_
 all_goals rfl
theorem ZpE:Zi Tryz.prog 46 e46:=Zj<|Zg fun n=>EZ0<|by
 refine cf0 (Za Zfi<|Ze) (fn:=Tryz.f46) rfl ?_
 refine sxT (fun Q=>Q (PV.agg (eIv (of n n)))) (fun _=>by kernel_rfl) ?_
 delta Qn eIv vI vB
 refine ?_
 all_goals rfl
theorem ZwC:Zi Tryz.prog 56 e56:=Zj<|Zg fun n=>EZ0<|by
 refine cf0 (Za ZgZ<|Za Xe<|Za Zfj<|Ze) (fn:=Tryz.f56) rfl ?_
 refine sxT (fun Q=>(bif !inB n then Q (PV.agg [vI 0,vI 0,vB true]) else Q (PV.agg (eIv (point (IntKind.i64.wrap (n * (65536:Int)))))))) (fun _=>by kernel_rfl) ?_
 delta Qn eIv vI vB
 refine Zb (fun h0=>?_) (fun h0=>?_)
 ·simp_all[nz,nzA,nz1,whole,none',Iv.enc]
 ·simp only[Qf_,ZG] at h0
  rw[Zf (by constructor<;>omega)]
  simp[nz,nzA,nz1,whole,ZG.2 h0,Iv.enc]
theorem Z5L:Zi Tryz.prog 89 e89:=Zj<|Zg fun n=>EZ0<|by
 refine cf0 (Za ZjE<|Za Za2<|Za ZpE<|Ze) (fn:=Tryz.f89) rfl ?_
 refine sxT (fun Q=>(bif !inB n then Q (PV.agg [vI 0,vI 0,vB true]) else Q (PV.agg (eIv (point (IntKind.i64.wrap (n * (65536:Int)))))))) (fun _=>by kernel_rfl) ?_
 delta Qn eIv vI vB
 refine Zb (fun h0=>?_) (fun h0=>?_)
 ·simp_all[nz,nzA,nz1,whole,none',Iv.enc]
 ·simp only[Qf_,ZG] at h0
  rw[Zf (by constructor<;>omega)]
  simp[nz,nzA,nz1,whole,ZG.2 h0,Iv.enc]
theorem ZwD:Zi Tryz.prog 39 e39:=Zj<|Zg fun a=>Zg fun b=>EZ1 fun hp0=>by
 refine cf0 Ze (fn:=Tryz.f39) rfl ?_
 refine sxT (fun Q=>(bif b==(0:Int) then Q (vI 0) else ((b≠(0:Int))∧((b≠(0:Int))∧(bif a.tmod b !=(0:Int) then (bif !decide (a < (0:Int))==decide (b < (0:Int)) then Q (vI (IntKind.i64.wrap (IntKind.i64.wrap (a.tdiv b) - (1:Int)))) else Q (vI (IntKind.i64.wrap (a.tdiv b)))) else Q (vI (IntKind.i64.wrap (a.tdiv b)))))))) (fun _=>by kernel_rfl) ?_
 delta Qn vI
 refine Zb (fun h0=>?_) (fun h0=>⟨?r1,⟨?r0,Zb (fun h1=>Zb (fun h2=>?_) (fun h2=>?_)) (fun h1=>?_)⟩⟩)
 case r0|r1=>first | rfl | (simp only[Zs,dI,dIv];omega) | (simp[Zd,chunk];done) | (simp only[Zs,dI,dIv];done) | (exact ZH (fun _=>rfl) (by omega) (by omega)) | (simp only[Qc_,Qk_] at *;exact ZH (fun _=>rfl) (by omega) (by omega)) | assumption | trivial | (simp_all;done)
 ·simp_all[nz,nzA,floor]
 ·have hw:IntKind.i64.wrap (a.tdiv b)=a.tdiv b:=Zf (by have:=ZaC (b:=b) hp0;constructor<;>omega)
  have hb:b≠0:=by simpa using h0
  have e:=ZuJ hb (by simpa using h1) (by simpa using h2)
  have hf:=ZdZ (b:=b) hp0
  rw[hw,e,Zf (by constructor<;>omega)];rfl
 ·have hw:IntKind.i64.wrap (a.tdiv b)=a.tdiv b:=Zf (by have:=ZaC (b:=b) hp0;constructor<;>omega)
  have hb:b≠0:=by simpa using h0
  have e:=Zj2 hb (.inr (by simpa using h2))
  rw[hw,e];rfl
 ·have hw:IntKind.i64.wrap (a.tdiv b)=a.tdiv b:=Zf (by have:=ZaC (b:=b) hp0;constructor<;>omega)
  have hb:b≠0:=by simpa using h0
  have e:=Zj2 hb (.inl (by simpa using h1))
  rw[hw,e];rfl
theorem ZpF:Zi Tryz.prog 48 e48:=Zj<|Zg fun a=>Zg fun b=>EZ1 fun hp0=>by
 refine cf0 Ze (fn:=Tryz.f48) rfl ?_
 refine sxT (fun Q=>(bif b==(0:Int) then Q (vI 0) else ((b≠(0:Int))∧((b≠(0:Int))∧(bif a.tmod b !=(0:Int) then (bif !decide (a.tmod b < (0:Int))==decide (b < (0:Int)) then Q (vI (IntKind.i64.wrap (IntKind.i64.wrap (a.tdiv b) - (1:Int)))) else Q (vI (IntKind.i64.wrap (a.tdiv b)))) else Q (vI (IntKind.i64.wrap (a.tdiv b)))))))) (fun _=>by kernel_rfl) ?_
 delta Qn vI
 refine Zb (fun h0=>?_) (fun h0=>⟨?r1,⟨?r0,Zb (fun h1=>Zb (fun h2=>?_) (fun h2=>?_)) (fun h1=>?_)⟩⟩)
 case r0|r1=>first | rfl | (simp only[Zs,dI,dIv];omega) | (simp[Zd,chunk];done) | (simp only[Zs,dI,dIv];done) | (exact ZH (fun _=>rfl) (by omega) (by omega)) | (simp only[Qc_,Qk_] at *;exact ZH (fun _=>rfl) (by omega) (by omega)) | assumption | trivial | (simp_all;done)
 ·simp_all[nz,nzA,floor]
 ·have hw:IntKind.i64.wrap (a.tdiv b)=a.tdiv b:=Zf (by have:=ZaC (b:=b) hp0;constructor<;>omega)
  have hb:b≠0:=by simpa using h0
  rw[Zro (by simpa using h1)] at h2
  have e:=ZuJ hb (by simpa using h1) (by simpa using h2)
  have hf:=ZdZ (b:=b) hp0
  rw[hw,e,Zf (by constructor<;>omega)];rfl
 ·have hw:IntKind.i64.wrap (a.tdiv b)=a.tdiv b:=Zf (by have:=ZaC (b:=b) hp0;constructor<;>omega)
  have hb:b≠0:=by simpa using h0
  rw[Zro (by simpa using h1)] at h2
  have e:=Zj2 hb (.inr (by simpa using h2))
  rw[hw,e];rfl
 ·have hw:IntKind.i64.wrap (a.tdiv b)=a.tdiv b:=Zf (by have:=ZaC (b:=b) hp0;constructor<;>omega)
  have hb:b≠0:=by simpa using h0
  have e:=Zj2 hb (.inl (by simpa using h1))
  rw[hw,e];rfl
theorem ZiD:Zi Tryz.prog 157 Z68:=Zj<|Zg fun a=>Zg fun b=>EZ0<|by
 refine cf0 (Za Zab<|Ze) (fn:=Tryz.f157) rfl ?_
 refine sxT (fun Q=>(bif right a then Q (vB (right b)) else Q (vB false))) (fun _=>by kernel_rfl) ?_
 delta Qn vB
 refine Zb (fun h0=>?_) (fun h0=>?_)
 all_goals (simp only[both,ZK,ZC,List.foldl,Qr_,Qp_,Ql_,Qn_,Q5_,Q4_,Qw_,Q3_,Qu_,Qt_,Qb_,Qd_,QD_,Q8_, *];rfl)
theorem Zzx:Zi Tryz.prog 129 Z69:=Zj<|Zg fun a=>EZ0<|by
 refine cf0 (Za Zab<|Za Xe<|Za Zac<|Ze) (fn:=Tryz.f129) rfl ?_
 refine sxT (fun Q=>(bif !right a then Q (PV.agg [vI 0,vI 0,vB true]) else Q (PV.agg (eIv (of (IntKind.i64.wrap ((0:Int) - a.hi)) (IntKind.i64.wrap ((0:Int) - a.lo))))))) (fun _=>by kernel_rfl) ?_
 delta Qn eIv vI vB
 refine Zb (fun h0=>?_) (fun h0=>?_)
 ·simp_all[nz,nzA,nz1,neg,none',Iv.enc]
 ·simp only[Qf_] at h0
  have ha:=Xh h0
  rw[Zf (by constructor<;>omega),Zf (by constructor<;>omega)]
  simp[nz,nzA,nz1,neg,h0,Iv.enc]
theorem ZnR(a:Iv)(b:Iv):Con Tryz.prog 128 [.agg (Iv.enc a),.agg (Iv.enc b)] (.agg (Iv.enc (add a b))):=by
 refine cf0 (Za ZiD<|Za Xe<|Za Zac<|Ze) (fn:=Tryz.f128) rfl ?_
 refine sxT (fun Q=>(bif !both a b then Q (PV.agg [vI 0,vI 0,vB true]) else Q (PV.agg (eIv (of (IntKind.i64.wrap (a.lo+b.lo)) (IntKind.i64.wrap (a.hi+b.hi))))))) (fun _=>by kernel_rfl) ?_
 delta Qn eIv vI vB
 refine Zb (fun h0=>?_) (fun h0=>?_)
 ·simp_all[nz,nzA,nz1,add,none',Iv.enc]
 ·simp only[Qf_] at h0
  have hb:=Bool.and_eq_true_iff.1 (show (right a&&right b)=true from h0)
  have ha:=Xh hb.1
  have hb:=Xh hb.2
  rw[Zf (by constructor<;>omega),Zf (by constructor<;>omega)]
  simp[nz,nzA,nz1,add,h0,Iv.enc]
theorem Zas:Zi Tryz.prog 128 Z6A:=Zj<|Zg fun a=>Zg fun b=>EZ0<|ZnR a b
theorem Z2F:Zi Tryz.prog 83 e83:=Zj<|Zg fun a=>Zg fun b=>EZ0<|by
 refine cf0 (Za Zfh<|Za Za2<|Za Zfi<|Ze) (fn:=Tryz.f83) rfl ?_
 refine sxT (fun Q=>(bif !right a then Q (PV.agg [vI 0,vI 0,vB true]) else (bif !right b then Q (PV.agg [vI 0,vI 0,vB true]) else Q (PV.agg (eIv (of (IntKind.i64.wrap (a.lo+b.lo)) (IntKind.i64.wrap (a.hi+b.hi)))))))) (fun _=>by kernel_rfl) ?_
 delta Qn eIv vI vB
 refine Zb (fun h0=>?_) (fun h0=>Zb (fun h1=>?_) (fun h1=>?_))
 ·simp_all[nz,nzA,nz1,add,both,none',Iv.enc]
 ·simp_all[nz,nzA,nz1,add,both,none',Iv.enc]
 ·simp only[Qf_] at h0 h1
  have ha:=Xh h0
  have hb:=Xh h1
  rw[Zf (by constructor<;>omega),Zf (by constructor<;>omega)]
  simp[nz,nzA,nz1,add,both,h0,h1,Iv.enc]
theorem ZbC:Zi Tryz.prog 99 e99:=Zj<|Zg fun a=>Zg fun b=>EZ0<|by
 refine cf0 (Za Zzx<|Za Zas<|Ze) (fn:=Tryz.f99) rfl ?_
 refine sxT (fun Q=>Q (PV.agg (eIv (add a (neg b))))) (fun _=>by kernel_rfl) ?_
 delta Qn eIv vI vB
 refine ?_
 all_goals rfl
theorem Z4O:Zi Tryz.prog 107 Z6B:=Zj<|Zg fun a=>Zg fun b=>EZ0<|by
 refine cf0 (Za Zfh<|Za Za2<|Za Zfi<|Ze) (fn:=Tryz.f107) rfl ?_
 refine sxT (fun Q=>(bif !right a then Q (PV.agg [vI 0,vI 0,vB true]) else (bif !right b then Q (PV.agg [vI 0,vI 0,vB true]) else Q (PV.agg (eIv (of (IntKind.i64.wrap (a.lo - b.hi)) (IntKind.i64.wrap (a.hi - b.lo)))))))) (fun _=>by kernel_rfl) ?_
 delta Qn eIv vI vB
 refine Zb (fun h0=>?_) (fun h0=>Zb (fun h1=>?_) (fun h1=>?_))
 all_goals rw[Z4r]
 ·simp_all[nz,nzA,nz1,both,none',Iv.enc]
 ·simp_all[nz,nzA,nz1,both,none',Iv.enc]
 ·simp only[Qf_] at h0 h1
  have ha:=Xh h0
  have hb:=Xh h1
  rw[Zf (by constructor<;>omega),Zf (by constructor<;>omega)]
  simp[nz,nzA,nz1,both,h0,h1,Iv.enc]
theorem Zzy:Zi Tryz.prog 158 Z6C:=Zj<|Zg fun a=>Zg fun n=>EZ0<|by
 refine cf0 (Za Zab<|Ze) (fn:=Tryz.f158) rfl ?_
 refine sxT (fun Q=>(bif right a then (bif decide (a.lo≤n) then Q (vB (decide (n≤a.hi))) else Q (vB false)) else Q (vB false))) (fun _=>by kernel_rfl) ?_
 delta Qn vB
 refine Zb (fun h0=>Zb (fun h1=>?_) (fun h1=>?_)) (fun h0=>?_)
 all_goals (simp only[has,ZK,ZC,List.foldl,Qr_,Qp_,Ql_,Qn_,Q5_,Q4_,Qw_,Q3_,Qu_,Qt_,Qb_,Qd_,QD_,Q8_, *];rfl)
theorem Zzz:Zi Tryz.prog 186 Z6D:=Zj<|Zg fun a=>Zg fun b=>Zg fun up=>EZ2 fun hp0 hp1=>by
 refine cf0 (Za ZwD<|Za ZgZ<|Ze) (fn:=Tryz.f186) rfl ?_
 refine sxT (fun Q=>(((-4611686018427387904:Int)≤a∧a≤(4611686018427387904:Int))∧(bif up then ((b≠(0:Int))∧(bif a.tmod b !=(0:Int) then (bif !inB (IntKind.i64.wrap (floor a b+(1:Int))) then Q (PV.tup [vI 0,vB false]) else Q (PV.tup [vI (IntKind.i64.wrap (floor a b+(1:Int))),vB true])) else (bif !inB (floor a b) then Q (PV.tup [vI 0,vB false]) else Q (PV.tup [vI (floor a b),vB true])))) else (bif !inB (floor a b) then Q (PV.tup [vI 0,vB false]) else Q (PV.tup [vI (floor a b),vB true]))))) (fun _=>by kernel_rfl) ?_
 delta Qn vI vB
 refine ⟨?r1,Zb (fun h0=>⟨?r0,Zb (fun h1=>Zb (fun h2=>?_) (fun h2=>?_)) (fun h1=>Zb (fun h2=>?_) (fun h2=>?_))⟩) (fun h0=>Zb (fun h1=>?_) (fun h1=>?_))⟩
 case r0|r1=>first | rfl | (simp only[Zs,dI,dIv];omega) | (simp[Zd,chunk];done) | (simp only[Zs,dI,dIv];done) | (exact ZH (fun _=>rfl) (by omega) (by omega)) | (simp only[Qc_,Qk_] at *;exact ZH (fun _=>rfl) (by omega) (by omega)) | assumption
 all_goals have hf:=ZdZ (b:=b) hp0
 all_goals try have hm:a % b≠0:=by rw[bne_iff_ne,Ne,Zou] at h1;exact h1
 all_goals try have hm:a % b=0:=by rw[bne_eq_false_iff_eq,Zou] at h1;exact h1
 all_goals try rw[Zf (show Fit (floor a b+1) by unfold floor;constructor<;>omega)] at *
 all_goals simp_all[nz,nzA,rounded,up1,floor]
theorem ZrR:Zi Tryz.prog 118 Z6E:=Zj<|Zg fun a=>Zg fun b=>EZ3 fun hp0 hp1 hp2=>by
 refine cf0 (Za ZpF<|Ze) (fn:=Tryz.f118) rfl ?_
 refine sxT (fun Q=>(((-4611686018427387904:Int)≤a∧a≤(4611686018427387904:Int))∧(bif IntKind.i64.wrap (floor a b *b)!=a then Q (vI (IntKind.i64.wrap (floor a b+(1:Int)))) else Q (vI (floor a b))))) (fun _=>by kernel_rfl) ?_
 delta Qn vI
 refine ⟨?r0,Zb (fun h0=>?_) (fun h0=>?_)⟩
 case r0=>first | rfl | (simp only[Zs,dI,dIv];omega) | (simp[Zd,chunk];done) | (simp only[Zs,dI,dIv];done) | (exact ZH (fun _=>rfl) (by omega) (by omega)) | (simp only[Qc_,Qk_] at *;exact ZH (fun _=>rfl) (by omega) (by omega)) | assumption
 all_goals have hf:=ZdZ (b:=b) hp0
 all_goals rw[Zf (show Fit (floor a b *b) from Zrq hp2 hp0 hp1)] at h0
 ·have hm:¬a % b=0:=by rw[bne_iff_ne,Ne,floor,Zrp hp2] at h0;exact h0
  rw[Zf (show Fit (floor a b+1) by unfold floor;constructor<;>omega)]
  simp[nz,nzA,up1,floor,hm]
 ·have hm:a % b=0:=by rw[bne_eq_false_iff_eq,floor,Zrp hp2] at h0;exact h0
  simp[nz,nzA,up1,floor,hm]
theorem ZrS:Zi Tryz.prog 154 Z47:=Zj<|Zg fun n=>EZ0<|by
 refine cf0 (Za ZjE<|Ze) (fn:=Tryz.f154) rfl ?_
 refine sxT (fun Q=>(bif !inB n then Q (PV.tup [vI 0,vB false]) else Q (PV.tup [vI n,vB true]))) (fun _=>by kernel_rfl) ?_
 delta Qn vI vB
 refine Zb (fun h0=>?_) (fun h0=>?_)
 all_goals (try simp only[Qi_,Qf_,bne] at *)
 all_goals (simp only[told,ZK,ZC,List.foldl,Qr_,Qp_,Ql_,Qn_,Q5_,Q4_,Qw_,Q3_,Qu_,Qt_,Qb_,Qd_,QD_,Q8_, *];rfl)
theorem ZrT:Zi Tryz.prog 187 Z6F:=Zj<|Zg fun a=>Zg fun b=>Zg fun up=>EZ0<|by
 refine cf0 (Za ZgZ<|Za Zzz<|Ze) (fn:=Tryz.f187) rfl ?_
 refine sxT (fun Q=>(bif !inB a then Q (PV.tup [vI 0,vB false]) else (bif !inB b then Q (PV.tup [vI 0,vB false]) else (((-4611686018427387904:Int)≤IntKind.i64.wrap (a *b)∧IntKind.i64.wrap (a *b)≤(4611686018427387904:Int))∧(((65536:Int)≠(0:Int))∧Q (PV.tup [vI (rounded (IntKind.i64.wrap (a *b)) (65536:Int) up).fst,vB (rounded (IntKind.i64.wrap (a *b)) (65536:Int) up).snd])))))) (fun _=>by kernel_rfl) ?_
 delta Qn vI vB
 refine Zb (fun h0=>?_) (fun h0=>Zb (fun h1=>?_) (fun h1=>⟨?_,⟨?_, ?_⟩⟩))
 ·simp_all[nz,nzA,mul]
 ·simp_all[nz,nzA,mul]
 all_goals simp only[Qf_] at h0 h1
 all_goals have hw:IntKind.i64.wrap (a *b)=a *b:=Zf (by have:=ZdC h0 h1;constructor<;>omega)
 ·rw[hw];have:=ZdC h0 h1;omega
 ·simp
 ·simp[nz,nzA,mul,hw,h0,h1]
def Z13(a:Int)(b:Int):=(-4611686018427387904:Int)≤IntKind.i64.wrap (a *b)∧IntKind.i64.wrap (a *b)≤(4611686018427387904:Int)
theorem ZrU:Zi Tryz.prog 119 Z6G:=Zj<|Zg fun a=>Zg fun b=>Zg fun up=>EZ0<|by
 refine cf0 (Za ZjE<|Za ZrR<|Za ZrS<|Za ZpF<|Ze) (fn:=Tryz.f119) rfl ?_
 refine sxT (fun Q=>(bif !inB a then Q (PV.tup [vI 0,vB false]) else (bif !inB b then Q (PV.tup [vI 0,vB false]) else (bif up then ((Z13 a b)∧(((-4611686018427387904:Int)≤(65536:Int)∧(65536:Int)≤(4611686018427387904:Int))∧(((65536:Int)≠(0:Int))∧Q (PV.tup [vI (told (up1 (IntKind.i64.wrap (a *b)) (65536:Int))).fst,vB (told (up1 (IntKind.i64.wrap (a *b)) (65536:Int))).snd])))) else ((Z13 a b)∧Q (PV.tup [vI (told (floor (IntKind.i64.wrap (a *b)) (65536:Int))).fst,vB (told (floor (IntKind.i64.wrap (a *b)) (65536:Int))).snd])))))) (fun _=>by kernel_rfl) ?_
 delta Qn Z13 vI vB
 refine Zb (fun h0=>?_) (fun h0=>Zb (fun h1=>?_) (fun h1=>Zb (fun h2=>⟨?_,⟨?_,⟨?_, ?_⟩⟩⟩) (fun h2=>⟨?_, ?_⟩)))
 ·simp_all[nz,nzA,mul]
 ·simp_all[nz,nzA,mul]
 all_goals simp only[Qf_] at h0 h1
 all_goals have hw:IntKind.i64.wrap (a *b)=a *b:=Zf (by have:=ZdC h0 h1;constructor<;>omega)
 all_goals have hm:=ZdC h0 h1
 ·rw[hw];omega
 ·simp
 ·simp
 ·simp[nz,nzA,mul,rounded,told,hw,h0,h1,h2]
 ·rw[hw];omega
 ·simp[nz,nzA,mul,rounded,told,floor,hw,h0,h1,h2]
theorem Zz0:Zi Tryz.prog 160 Z6H:=Zj<|Zg fun a=>Zg fun b=>Zg fun up=>EZ0<|by
 refine cf0 (Za ZgZ<|Za Zzz<|Ze) (fn:=Tryz.f160) rfl ?_
 refine sxT (fun Q=>(bif !inB a then Q (PV.tup [vI 0,vB false]) else (bif !inB b then Q (PV.tup [vI 0,vB false]) else (bif b==(0:Int) then Q (PV.tup [vI 0,vB false]) else (((-4611686018427387904:Int)≤IntKind.i64.wrap (a * (65536:Int))∧IntKind.i64.wrap (a * (65536:Int))≤(4611686018427387904:Int))∧((b≠(0:Int))∧Q (PV.tup [vI (rounded (IntKind.i64.wrap (a * (65536:Int))) b up).fst,vB (rounded (IntKind.i64.wrap (a * (65536:Int))) b up).snd]))))))) (fun _=>by kernel_rfl) ?_
 delta Qn vI vB
 refine Zb (fun h0=>?_) (fun h0=>Zb (fun h1=>?_) (fun h1=>Zb (fun h2=>?_) (fun h2=>⟨?_,⟨?_, ?_⟩⟩)))
 ·simp_all[nz,nzA,div]
 ·simp_all[nz,nzA,div]
 ·simp_all[nz,nzA,div]
 all_goals simp only[Qf_] at h0 h1
 all_goals have ha:=ZG.1 h0
 all_goals have hw:IntKind.i64.wrap (a *65536)=a *65536:=Zf (by constructor<;>omega)
 ·rw[hw];omega
 ·simpa using h2
 ·simp_all[nz,nzA,div]
def Z14(a:Int):=(-4611686018427387904:Int)≤IntKind.i64.wrap (a * (65536:Int))∧IntKind.i64.wrap (a * (65536:Int))≤(4611686018427387904:Int)
def ZrV(a:Int):=IntKind.i64.wrap (a * (65536:Int))
theorem Zz1:Zi Tryz.prog 155 Z6I:=Zj<|Zg fun a=>Zg fun b=>Zg fun up=>EZ0<|by
 refine cf0 (Za ZjE<|Za ZrR<|Za ZrS<|Za ZpF<|Ze) (fn:=Tryz.f155) rfl ?_
 refine sxT (fun Q=>(bif !inB a then Q (PV.tup [vI 0,vB false]) else (bif !inB b then Q (PV.tup [vI 0,vB false]) else (bif b==(0:Int) then Q (PV.tup [vI 0,vB false]) else (bif up then ((Z14 a)∧(((-4611686018427387904:Int)≤b∧b≤(4611686018427387904:Int))∧((b≠(0:Int))∧Q (PV.tup [vI (told (up1 (ZrV a) b)).fst,vB (told (up1 (ZrV a) b)).snd])))) else ((Z14 a)∧Q (PV.tup [vI (told (floor (ZrV a) b)).fst,vB (told (floor (ZrV a) b)).snd]))))))) (fun _=>by kernel_rfl) ?_
 delta Qn Z14 ZrV vI vB
 refine Zb (fun h0=>?_) (fun h0=>Zb (fun h1=>?_) (fun h1=>Zb (fun h2=>?_) (fun h2=>Zb (fun h3=>⟨?_,⟨?_,⟨?_, ?_⟩⟩⟩) (fun h3=>⟨?_, ?_⟩))))
 ·simp_all[nz,nzA,div]
 ·simp_all[nz,nzA,div]
 ·simp_all[nz,nzA,div]
 all_goals simp only[Qf_] at h0 h1
 all_goals have ha:=ZG.1 h0
 all_goals have hb:=ZG.1 h1
 all_goals have hw:IntKind.i64.wrap (a *65536)=a *65536:=Zf (by constructor<;>omega)
 ·rw[hw];omega
 ·omega
 ·simpa using h2
 ·simp_all[nz,nzA,div,rounded,told]
 ·rw[hw];omega
 ·simp_all[nz,nzA,div,rounded,told,floor]
def Z15(a:Iv)(b:Iv):=of (List.foldl imin (of (mul a.lo b.lo false).fst (mul a.lo b.lo true).fst).lo [(mul a.lo b.lo false).fst]) (List.foldl imax (of (mul a.lo b.lo false).fst (mul a.lo b.lo true).fst).hi [(mul a.lo b.lo true).fst])
def Z16(a:Iv)(b:Iv):=of (List.foldl imin (Z15 a b).lo [(mul a.lo b.hi false).fst]) (List.foldl imax (Z15 a b).hi [(mul a.lo b.hi true).fst])
def Zha:=PV.agg [vI 0,vI 0,vB true]
def Z17(a:Iv)(b:Iv):=of (List.foldl imin (Z16 a b).lo [(mul a.hi b.lo false).fst]) (List.foldl imax (Z16 a b).hi [(mul a.hi b.lo true).fst])
theorem Zz2(a:Iv)(b:Iv):Con Tryz.prog 159 [.fn 187 [],.agg (Iv.enc a),.agg (Iv.enc b)] (.agg (Iv.enc (ends mul a b))):=by
 refine cf0 (Za Xe<|Za Zac<|Za ZrT<|Ze) (fn:=Tryz.f159) rfl ?_
 refine sxT (fun Q=>(bif !(mul a.lo b.lo false).snd then Q Zha else (bif !(mul a.lo b.lo true).snd then Q Zha else (bif !(mul a.lo b.hi false).snd then Q Zha else (bif !(mul a.lo b.hi true).snd then Q Zha else (bif !(mul a.hi b.lo false).snd then Q Zha else (bif !(mul a.hi b.lo true).snd then Q Zha else (bif !(mul a.hi b.hi false).snd then Q Zha else (bif !(mul a.hi b.hi true).snd then Q Zha else Q (PV.agg (eIv (of (List.foldl imin (Z17 a b).lo [(mul a.hi b.hi false).fst]) (List.foldl imax (Z17 a b).hi [(mul a.hi b.hi true).fst]))))))))))))) (fun _=>by kernel_rfl) ?_
 delta Qn Z16 Z15 Zha Z17 eIv vI vB
 refine Zb (fun h0=>?_) (fun h0=>Zb (fun h1=>?_) (fun h1=>Zb (fun h2=>?_) (fun h2=>Zb (fun h3=>?_) (fun h3=>Zb (fun h4=>?_) (fun h4=>Zb (fun h5=>?_) (fun h5=>Zb (fun h6=>?_) (fun h6=>Zb (fun h7=>?_) (fun h7=>?_))))))))
 all_goals simp only[Qi_,Qf_] at *
 all_goals first | exact Kk_ (fun e=>PV.agg (Iv.enc e)) (Zj3 (by simp[*])) | exact Kk_ (fun e=>PV.agg (Iv.enc e)) (ZlS Z1c h0 h1 h2 h3 h4 h5 h6 h7)
theorem Zz3:Zi Tryz.prog 159 ZnI:=by
 intro args r ps h hp
 unfold ZnI at h
 split at h
 ·rename_i p1 p2 p3 p4 p5 p6
  cases (Qa_ h)
  exact Zz2 (⟨p1,p2,p3⟩:Iv) (⟨p4,p5,p6⟩:Iv)
 ·exact absurd h (by simp)
def Z18(a:Iv)(b:Iv):=of (List.foldl imin (of (div a.lo b.lo false).fst (div a.lo b.lo true).fst).lo [(div a.lo b.lo false).fst]) (List.foldl imax (of (div a.lo b.lo false).fst (div a.lo b.lo true).fst).hi [(div a.lo b.lo true).fst])
def Z19(a:Iv)(b:Iv):=of (List.foldl imin (Z18 a b).lo [(div a.lo b.hi false).fst]) (List.foldl imax (Z18 a b).hi [(div a.lo b.hi true).fst])
def Zhb:=PV.agg [vI 0,vI 0,vB true]
def Z1A(a:Iv)(b:Iv):=of (List.foldl imin (Z19 a b).lo [(div a.hi b.lo false).fst]) (List.foldl imax (Z19 a b).hi [(div a.hi b.lo true).fst])
theorem Zz4(a:Iv)(b:Iv):Con Tryz.prog 159 [.fn 160 [],.agg (Iv.enc a),.agg (Iv.enc b)] (.agg (Iv.enc (ends div a b))):=by
 refine cf0 (Za Xe<|Za Zac<|Za Zz0<|Ze) (fn:=Tryz.f159) rfl ?_
 refine sxT (fun Q=>(bif !(div a.lo b.lo false).snd then Q Zhb else (bif !(div a.lo b.lo true).snd then Q Zhb else (bif !(div a.lo b.hi false).snd then Q Zhb else (bif !(div a.lo b.hi true).snd then Q Zhb else (bif !(div a.hi b.lo false).snd then Q Zhb else (bif !(div a.hi b.lo true).snd then Q Zhb else (bif !(div a.hi b.hi false).snd then Q Zhb else (bif !(div a.hi b.hi true).snd then Q Zhb else Q (PV.agg (eIv (of (List.foldl imin (Z1A a b).lo [(div a.hi b.hi false).fst]) (List.foldl imax (Z1A a b).hi [(div a.hi b.hi true).fst]))))))))))))) (fun _=>by kernel_rfl) ?_
 delta Qn Z19 Z18 Zhb Z1A eIv vI vB
 refine Zb (fun h0=>?_) (fun h0=>Zb (fun h1=>?_) (fun h1=>Zb (fun h2=>?_) (fun h2=>Zb (fun h3=>?_) (fun h3=>Zb (fun h4=>?_) (fun h4=>Zb (fun h5=>?_) (fun h5=>Zb (fun h6=>?_) (fun h6=>Zb (fun h7=>?_) (fun h7=>?_))))))))
 all_goals simp only[Qi_,Qf_] at *
 all_goals first | exact Kk_ (fun e=>PV.agg (Iv.enc e)) (Zj3 (by simp[*])) | exact Kk_ (fun e=>PV.agg (Iv.enc e)) (ZlS Z1d h0 h1 h2 h3 h4 h5 h6 h7)
theorem Zz5:Zi Tryz.prog 159 ZnJ:=by
 intro args r ps h hp
 unfold ZnJ at h
 split at h
 ·rename_i p1 p2 p3 p4 p5 p6
  cases (Qa_ h)
  exact Zz4 (⟨p1,p2,p3⟩:Iv) (⟨p4,p5,p6⟩:Iv)
 ·exact absurd h (by simp)
theorem Zz6:Zi Tryz.prog 159 Z6J:=Zrm Zz3 (Zz5)
def Y7:=(2:Int)≠(0:Int)
def Xr(a:Iv)(b:Iv):=mul a.hi b.hi false
def Y8:=PV.agg [vI 0,vI 0,vB true]
def YX(a:Iv)(b:Iv):=mul a.hi b.hi true
def WF(a:Iv)(b:Iv):=mul a.lo b.hi false
def XL(a:Iv)(b:Iv):=mul a.lo b.hi true
def ZpG(a:Iv)(b:Iv):=PV.agg (eIv (of (Xr a b).fst (YX a b).fst))
def ZpH(a:Iv)(b:Iv)(Q:PV→Prop):Prop:=bif decide ((YX a b).fst > (XL a b).fst) then Q (ZpG a b) else Q (PV.agg (eIv (of (Xr a b).fst (XL a b).fst)))
def ZpI(a:Iv)(b:Iv):=PV.agg (eIv (of (WF a b).fst (YX a b).fst))
def Z1B(a:Iv)(b:Iv)(Q:PV→Prop):Prop:=Y7∧(Y7∧(bif !(Xr a b).snd then Q Y8 else (bif !(YX a b).snd then Q Y8 else (bif decide ((Xr a b).fst < (WF a b).fst) then (ZpH a b Q) else (bif decide ((YX a b).fst > (XL a b).fst) then Q (ZpI a b) else Q (PV.agg (eIv (of (WF a b).fst (XL a b).fst))))))))
def Je(a:Iv)(b:Iv):=mul a.hi b.lo true
def ZpJ(a:Iv)(b:Iv)(Q:PV→Prop):Prop:=bif decide ((YX a b).fst > (Je a b).fst) then Q (ZpG a b) else Q (PV.agg (eIv (of (Xr a b).fst (Je a b).fst)))
def ZwE(a:Iv)(b:Iv)(Q:PV→Prop):Prop:=bif decide ((XL a b).fst > (Je a b).fst) then (Z1B a b Q) else (Y7∧(Y7∧(bif !(Xr a b).snd then Q Y8 else (bif !(YX a b).snd then Q Y8 else (bif decide ((Xr a b).fst < (WF a b).fst) then (ZpJ a b Q) else (bif decide ((YX a b).fst > (Je a b).fst) then Q (ZpI a b) else Q (PV.agg (eIv (of (WF a b).fst (Je a b).fst)))))))))
def Jf(a:Iv)(b:Iv):=mul a.lo b.lo true
def ZpK(a:Iv)(b:Iv)(Q:PV→Prop):Prop:=bif decide ((YX a b).fst > (Jf a b).fst) then Q (ZpG a b) else Q (PV.agg (eIv (of (Xr a b).fst (Jf a b).fst)))
def ZwF(a:Iv)(b:Iv)(Q:PV→Prop):Prop:=bif decide ((XL a b).fst > (Jf a b).fst) then (Z1B a b Q) else (Y7∧(Y7∧(bif !(Xr a b).snd then Q Y8 else (bif !(YX a b).snd then Q Y8 else (bif decide ((Xr a b).fst < (WF a b).fst) then (ZpK a b Q) else (bif decide ((YX a b).fst > (Jf a b).fst) then Q (ZpI a b) else Q (PV.agg (eIv (of (WF a b).fst (Jf a b).fst)))))))))
def Za3(a:Iv)(b:Iv):=mul a.hi b.lo false
def ZpL(a:Iv)(b:Iv):=PV.agg (eIv (of (Za3 a b).fst (YX a b).fst))
def ZwG(a:Iv)(b:Iv)(Q:PV→Prop):Prop:=Y7∧(Y7∧(bif !(Xr a b).snd then Q Y8 else (bif !(YX a b).snd then Q Y8 else (bif decide ((Xr a b).fst < (Za3 a b).fst) then (ZpH a b Q) else (bif decide ((YX a b).fst > (XL a b).fst) then Q (ZpL a b) else Q (PV.agg (eIv (of (Za3 a b).fst (XL a b).fst))))))))
def Za4(a:Iv)(b:Iv):=mul a.lo b.lo false
def ZpM(a:Iv)(b:Iv):=PV.agg (eIv (of (Za4 a b).fst (YX a b).fst))
def ZwH(a:Iv)(b:Iv)(Q:PV→Prop):Prop:=Y7∧(Y7∧(bif !(Xr a b).snd then Q Y8 else (bif !(YX a b).snd then Q Y8 else (bif decide ((Xr a b).fst < (Za4 a b).fst) then (ZpH a b Q) else (bif decide ((YX a b).fst > (XL a b).fst) then Q (ZpM a b) else Q (PV.agg (eIv (of (Za4 a b).fst (XL a b).fst))))))))
theorem ZwI(a:Iv)(b:Iv):Con Tryz.prog 120 [.agg (Iv.enc a),.agg (Iv.enc b),.v (.bool false)] (.agg (Iv.enc (ends mul a b))):=by
 refine cf0 (Za ZrU<|Za Zz1<|Za Za2<|Za Zfi<|Ze) (fn:=Tryz.f120) rfl ?_
 refine sxT (fun Q=>(Y7∧(Y7∧(bif !(Za4 a b).snd then Q Y8 else (bif !(Jf a b).snd then Q Y8 else (Y7∧(Y7∧(bif !(Za3 a b).snd then Q Y8 else (bif !(Je a b).snd then Q Y8 else (bif decide ((Za3 a b).fst < (Za4 a b).fst) then (bif decide ((Je a b).fst > (Jf a b).fst) then (Y7∧(Y7∧(bif !(WF a b).snd then Q Y8 else (bif !(XL a b).snd then Q Y8 else (bif decide ((WF a b).fst < (Za3 a b).fst) then (ZwE a b Q) else (bif decide ((XL a b).fst > (Je a b).fst) then (ZwG a b Q) else (Y7∧(Y7∧(bif !(Xr a b).snd then Q Y8 else (bif !(YX a b).snd then Q Y8 else (bif decide ((Xr a b).fst < (Za3 a b).fst) then (ZpJ a b Q) else (bif decide ((YX a b).fst > (Je a b).fst) then Q (ZpL a b) else Q (PV.agg (eIv (of (Za3 a b).fst (Je a b).fst))))))))))))))) else (Y7∧(Y7∧(bif !(WF a b).snd then Q Y8 else (bif !(XL a b).snd then Q Y8 else (bif decide ((WF a b).fst < (Za3 a b).fst) then (ZwF a b Q) else (bif decide ((XL a b).fst > (Jf a b).fst) then (ZwG a b Q) else (Y7∧(Y7∧(bif !(Xr a b).snd then Q Y8 else (bif !(YX a b).snd then Q Y8 else (bif decide ((Xr a b).fst < (Za3 a b).fst) then (ZpK a b Q) else (bif decide ((YX a b).fst > (Jf a b).fst) then Q (ZpL a b) else Q (PV.agg (eIv (of (Za3 a b).fst (Jf a b).fst)))))))))))))))) else (bif decide ((Je a b).fst > (Jf a b).fst) then (Y7∧(Y7∧(bif !(WF a b).snd then Q Y8 else (bif !(XL a b).snd then Q Y8 else (bif decide ((WF a b).fst < (Za4 a b).fst) then (ZwE a b Q) else (bif decide ((XL a b).fst > (Je a b).fst) then (ZwH a b Q) else (Y7∧(Y7∧(bif !(Xr a b).snd then Q Y8 else (bif !(YX a b).snd then Q Y8 else (bif decide ((Xr a b).fst < (Za4 a b).fst) then (ZpJ a b Q) else (bif decide ((YX a b).fst > (Je a b).fst) then Q (ZpM a b) else Q (PV.agg (eIv (of (Za4 a b).fst (Je a b).fst))))))))))))))) else (Y7∧(Y7∧(bif !(WF a b).snd then Q Y8 else (bif !(XL a b).snd then Q Y8 else (bif decide ((WF a b).fst < (Za4 a b).fst) then (ZwF a b Q) else (bif decide ((XL a b).fst > (Jf a b).fst) then (ZwH a b Q) else (Y7∧(Y7∧(bif !(Xr a b).snd then Q Y8 else (bif !(YX a b).snd then Q Y8 else (bif decide ((Xr a b).fst < (Za4 a b).fst) then (ZpK a b Q) else (bif decide ((YX a b).fst > (Jf a b).fst) then Q (ZpM a b) else Q (PV.agg (eIv (of (Za4 a b).fst (Jf a b).fst)))))))))))))))))))))))))) (fun _=>by kernel_rfl) ?_
 delta Qn Z1B Y8 ZpH ZwE ZwF Y7 YX ZwG ZwH ZpJ ZpK Xr WF XL Za4 Za3 Jf Je ZpL ZpM ZpI ZpG eIv vI vB
 refine ⟨?r43,⟨?r42,Zb (fun h0=>?_) (fun h0=>Zb (fun h1=>?_) (fun h1=>⟨?r41,⟨?r40,Zb (fun h2=>?_) (fun h2=>Zb (fun h3=>?_) (fun h3=>Zb (fun h4=>Zb (fun h5=>⟨?r9,⟨?r8,Zb (fun h6=>?_) (fun h6=>Zb (fun h7=>?_) (fun h7=>Zb (fun h8=>Zb (fun h9=>⟨?r1,⟨?r0,Zb (fun h10=>?_) (fun h10=>Zb (fun h11=>?_) (fun h11=>Zb (fun h12=>Zb (fun h13=>?_) (fun h13=>?_)) (fun h12=>Zb (fun h13=>?_) (fun h13=>?_))))⟩⟩) (fun h9=>⟨?r3,⟨?r2,Zb (fun h10=>?_) (fun h10=>Zb (fun h11=>?_) (fun h11=>Zb (fun h12=>Zb (fun h13=>?_) (fun h13=>?_)) (fun h12=>Zb (fun h13=>?_) (fun h13=>?_))))⟩⟩)) (fun h8=>Zb (fun h9=>⟨?r5,⟨?r4,Zb (fun h10=>?_) (fun h10=>Zb (fun h11=>?_) (fun h11=>Zb (fun h12=>Zb (fun h13=>?_) (fun h13=>?_)) (fun h12=>Zb (fun h13=>?_) (fun h13=>?_))))⟩⟩) (fun h9=>⟨?r7,⟨?r6,Zb (fun h10=>?_) (fun h10=>Zb (fun h11=>?_) (fun h11=>Zb (fun h12=>Zb (fun h13=>?_) (fun h13=>?_)) (fun h12=>Zb (fun h13=>?_) (fun h13=>?_))))⟩⟩))))⟩⟩) (fun h5=>⟨?r19,⟨?r18,Zb (fun h6=>?_) (fun h6=>Zb (fun h7=>?_) (fun h7=>Zb (fun h8=>Zb (fun h9=>⟨?r11,⟨?r10,Zb (fun h10=>?_) (fun h10=>Zb (fun h11=>?_) (fun h11=>Zb (fun h12=>Zb (fun h13=>?_) (fun h13=>?_)) (fun h12=>Zb (fun h13=>?_) (fun h13=>?_))))⟩⟩) (fun h9=>⟨?r13,⟨?r12,Zb (fun h10=>?_) (fun h10=>Zb (fun h11=>?_) (fun h11=>Zb (fun h12=>Zb (fun h13=>?_) (fun h13=>?_)) (fun h12=>Zb (fun h13=>?_) (fun h13=>?_))))⟩⟩)) (fun h8=>Zb (fun h9=>⟨?r15,⟨?r14,Zb (fun h10=>?_) (fun h10=>Zb (fun h11=>?_) (fun h11=>Zb (fun h12=>Zb (fun h13=>?_) (fun h13=>?_)) (fun h12=>Zb (fun h13=>?_) (fun h13=>?_))))⟩⟩) (fun h9=>⟨?r17,⟨?r16,Zb (fun h10=>?_) (fun h10=>Zb (fun h11=>?_) (fun h11=>Zb (fun h12=>Zb (fun h13=>?_) (fun h13=>?_)) (fun h12=>Zb (fun h13=>?_) (fun h13=>?_))))⟩⟩))))⟩⟩)) (fun h4=>Zb (fun h5=>⟨?r29,⟨?r28,Zb (fun h6=>?_) (fun h6=>Zb (fun h7=>?_) (fun h7=>Zb (fun h8=>Zb (fun h9=>⟨?r21,⟨?r20,Zb (fun h10=>?_) (fun h10=>Zb (fun h11=>?_) (fun h11=>Zb (fun h12=>Zb (fun h13=>?_) (fun h13=>?_)) (fun h12=>Zb (fun h13=>?_) (fun h13=>?_))))⟩⟩) (fun h9=>⟨?r23,⟨?r22,Zb (fun h10=>?_) (fun h10=>Zb (fun h11=>?_) (fun h11=>Zb (fun h12=>Zb (fun h13=>?_) (fun h13=>?_)) (fun h12=>Zb (fun h13=>?_) (fun h13=>?_))))⟩⟩)) (fun h8=>Zb (fun h9=>⟨?r25,⟨?r24,Zb (fun h10=>?_) (fun h10=>Zb (fun h11=>?_) (fun h11=>Zb (fun h12=>Zb (fun h13=>?_) (fun h13=>?_)) (fun h12=>Zb (fun h13=>?_) (fun h13=>?_))))⟩⟩) (fun h9=>⟨?r27,⟨?r26,Zb (fun h10=>?_) (fun h10=>Zb (fun h11=>?_) (fun h11=>Zb (fun h12=>Zb (fun h13=>?_) (fun h13=>?_)) (fun h12=>Zb (fun h13=>?_) (fun h13=>?_))))⟩⟩))))⟩⟩) (fun h5=>⟨?r39,⟨?r38,Zb (fun h6=>?_) (fun h6=>Zb (fun h7=>?_) (fun h7=>Zb (fun h8=>Zb (fun h9=>⟨?r31,⟨?r30,Zb (fun h10=>?_) (fun h10=>Zb (fun h11=>?_) (fun h11=>Zb (fun h12=>Zb (fun h13=>?_) (fun h13=>?_)) (fun h12=>Zb (fun h13=>?_) (fun h13=>?_))))⟩⟩) (fun h9=>⟨?r33,⟨?r32,Zb (fun h10=>?_) (fun h10=>Zb (fun h11=>?_) (fun h11=>Zb (fun h12=>Zb (fun h13=>?_) (fun h13=>?_)) (fun h12=>Zb (fun h13=>?_) (fun h13=>?_))))⟩⟩)) (fun h8=>Zb (fun h9=>⟨?r35,⟨?r34,Zb (fun h10=>?_) (fun h10=>Zb (fun h11=>?_) (fun h11=>Zb (fun h12=>Zb (fun h13=>?_) (fun h13=>?_)) (fun h12=>Zb (fun h13=>?_) (fun h13=>?_))))⟩⟩) (fun h9=>⟨?r37,⟨?r36,Zb (fun h10=>?_) (fun h10=>Zb (fun h11=>?_) (fun h11=>Zb (fun h12=>Zb (fun h13=>?_) (fun h13=>?_)) (fun h12=>Zb (fun h13=>?_) (fun h13=>?_))))⟩⟩))))⟩⟩))))⟩⟩))⟩⟩
 case r0|r1|r2|r3|r4|r5|r6|r7|r8|r9|r10|r11|r12|r13|r14|r15|r16|r17|r18|r19|r20|r21|r22|r23|r24|r25|r26|r27|r28|r29|r30|r31|r32|r33|r34|r35|r36|r37|r38|r39|r40|r41|r42|r43=>decide
 all_goals simp only[Qi_,Qf_,Qc_,Qe_] at *
 all_goals first | exact Kk_ (fun e=>PV.agg (Iv.enc e)) (Zj3 (by simp[*])) | exact Kk_ (fun e=>PV.agg (Iv.enc e)) (ZuK h0 h1 h6 h7 h2 h3 h10 h11 (by omega) (by omega))
theorem ZwJ:Zi Tryz.prog 120 ZkG:=by
 intro args r ps h hp
 unfold ZkG at h
 split at h
 ·rename_i p1 p2 p3 p4 p5 p6
  cases (Qa_ h)
  exact ZwI (⟨p1,p2,p3⟩:Iv) (⟨p4,p5,p6⟩:Iv)
 ·exact absurd h (by simp)
def Y9:=(2:Int)≠(0:Int)
def Xs(a:Iv)(b:Iv):=div a.hi b.hi false
def YA:=PV.agg [vI 0,vI 0,vB true]
def YY(a:Iv)(b:Iv):=div a.hi b.hi true
def WG(a:Iv)(b:Iv):=div a.lo b.hi false
def XM(a:Iv)(b:Iv):=div a.lo b.hi true
def ZpN(a:Iv)(b:Iv):=PV.agg (eIv (of (Xs a b).fst (YY a b).fst))
def ZpO(a:Iv)(b:Iv)(Q:PV→Prop):Prop:=bif decide ((YY a b).fst > (XM a b).fst) then Q (ZpN a b) else Q (PV.agg (eIv (of (Xs a b).fst (XM a b).fst)))
def ZpP(a:Iv)(b:Iv):=PV.agg (eIv (of (WG a b).fst (YY a b).fst))
def ZwK(a:Iv)(b:Iv)(Q:PV→Prop):Prop:=Y9∧(Y9∧(bif !(Xs a b).snd then Q YA else (bif !(YY a b).snd then Q YA else (bif decide ((Xs a b).fst < (WG a b).fst) then (ZpO a b Q) else (bif decide ((YY a b).fst > (XM a b).fst) then Q (ZpP a b) else Q (PV.agg (eIv (of (WG a b).fst (XM a b).fst))))))))
def Jg(a:Iv)(b:Iv):=div a.hi b.lo true
def ZpQ(a:Iv)(b:Iv)(Q:PV→Prop):Prop:=bif decide ((YY a b).fst > (Jg a b).fst) then Q (ZpN a b) else Q (PV.agg (eIv (of (Xs a b).fst (Jg a b).fst)))
def ZwL(a:Iv)(b:Iv)(Q:PV→Prop):Prop:=bif decide ((XM a b).fst > (Jg a b).fst) then (ZwK a b Q) else (Y9∧(Y9∧(bif !(Xs a b).snd then Q YA else (bif !(YY a b).snd then Q YA else (bif decide ((Xs a b).fst < (WG a b).fst) then (ZpQ a b Q) else (bif decide ((YY a b).fst > (Jg a b).fst) then Q (ZpP a b) else Q (PV.agg (eIv (of (WG a b).fst (Jg a b).fst)))))))))
def Jh(a:Iv)(b:Iv):=div a.lo b.lo true
def ZpR(a:Iv)(b:Iv)(Q:PV→Prop):Prop:=bif decide ((YY a b).fst > (Jh a b).fst) then Q (ZpN a b) else Q (PV.agg (eIv (of (Xs a b).fst (Jh a b).fst)))
def ZwM(a:Iv)(b:Iv)(Q:PV→Prop):Prop:=bif decide ((XM a b).fst > (Jh a b).fst) then (ZwK a b Q) else (Y9∧(Y9∧(bif !(Xs a b).snd then Q YA else (bif !(YY a b).snd then Q YA else (bif decide ((Xs a b).fst < (WG a b).fst) then (ZpR a b Q) else (bif decide ((YY a b).fst > (Jh a b).fst) then Q (ZpP a b) else Q (PV.agg (eIv (of (WG a b).fst (Jh a b).fst)))))))))
def Za5(a:Iv)(b:Iv):=div a.hi b.lo false
def ZpS(a:Iv)(b:Iv):=PV.agg (eIv (of (Za5 a b).fst (YY a b).fst))
def ZwN(a:Iv)(b:Iv)(Q:PV→Prop):Prop:=Y9∧(Y9∧(bif !(Xs a b).snd then Q YA else (bif !(YY a b).snd then Q YA else (bif decide ((Xs a b).fst < (Za5 a b).fst) then (ZpO a b Q) else (bif decide ((YY a b).fst > (XM a b).fst) then Q (ZpS a b) else Q (PV.agg (eIv (of (Za5 a b).fst (XM a b).fst))))))))
def Za6(a:Iv)(b:Iv):=div a.lo b.lo false
def ZpT(a:Iv)(b:Iv):=PV.agg (eIv (of (Za6 a b).fst (YY a b).fst))
def ZwO(a:Iv)(b:Iv)(Q:PV→Prop):Prop:=Y9∧(Y9∧(bif !(Xs a b).snd then Q YA else (bif !(YY a b).snd then Q YA else (bif decide ((Xs a b).fst < (Za6 a b).fst) then (ZpO a b Q) else (bif decide ((YY a b).fst > (XM a b).fst) then Q (ZpT a b) else Q (PV.agg (eIv (of (Za6 a b).fst (XM a b).fst))))))))
theorem ZwP(a:Iv)(b:Iv):Con Tryz.prog 120 [.agg (Iv.enc a),.agg (Iv.enc b),.v (.bool true)] (.agg (Iv.enc (ends div a b))):=by
 refine cf0 (Za ZrU<|Za Zz1<|Za Za2<|Za Zfi<|Ze) (fn:=Tryz.f120) rfl ?_
 refine sxT (fun Q=>(Y9∧(Y9∧(bif !(Za6 a b).snd then Q YA else (bif !(Jh a b).snd then Q YA else (Y9∧(Y9∧(bif !(Za5 a b).snd then Q YA else (bif !(Jg a b).snd then Q YA else (bif decide ((Za5 a b).fst < (Za6 a b).fst) then (bif decide ((Jg a b).fst > (Jh a b).fst) then (Y9∧(Y9∧(bif !(WG a b).snd then Q YA else (bif !(XM a b).snd then Q YA else (bif decide ((WG a b).fst < (Za5 a b).fst) then (ZwL a b Q) else (bif decide ((XM a b).fst > (Jg a b).fst) then (ZwN a b Q) else (Y9∧(Y9∧(bif !(Xs a b).snd then Q YA else (bif !(YY a b).snd then Q YA else (bif decide ((Xs a b).fst < (Za5 a b).fst) then (ZpQ a b Q) else (bif decide ((YY a b).fst > (Jg a b).fst) then Q (ZpS a b) else Q (PV.agg (eIv (of (Za5 a b).fst (Jg a b).fst))))))))))))))) else (Y9∧(Y9∧(bif !(WG a b).snd then Q YA else (bif !(XM a b).snd then Q YA else (bif decide ((WG a b).fst < (Za5 a b).fst) then (ZwM a b Q) else (bif decide ((XM a b).fst > (Jh a b).fst) then (ZwN a b Q) else (Y9∧(Y9∧(bif !(Xs a b).snd then Q YA else (bif !(YY a b).snd then Q YA else (bif decide ((Xs a b).fst < (Za5 a b).fst) then (ZpR a b Q) else (bif decide ((YY a b).fst > (Jh a b).fst) then Q (ZpS a b) else Q (PV.agg (eIv (of (Za5 a b).fst (Jh a b).fst)))))))))))))))) else (bif decide ((Jg a b).fst > (Jh a b).fst) then (Y9∧(Y9∧(bif !(WG a b).snd then Q YA else (bif !(XM a b).snd then Q YA else (bif decide ((WG a b).fst < (Za6 a b).fst) then (ZwL a b Q) else (bif decide ((XM a b).fst > (Jg a b).fst) then (ZwO a b Q) else (Y9∧(Y9∧(bif !(Xs a b).snd then Q YA else (bif !(YY a b).snd then Q YA else (bif decide ((Xs a b).fst < (Za6 a b).fst) then (ZpQ a b Q) else (bif decide ((YY a b).fst > (Jg a b).fst) then Q (ZpT a b) else Q (PV.agg (eIv (of (Za6 a b).fst (Jg a b).fst))))))))))))))) else (Y9∧(Y9∧(bif !(WG a b).snd then Q YA else (bif !(XM a b).snd then Q YA else (bif decide ((WG a b).fst < (Za6 a b).fst) then (ZwM a b Q) else (bif decide ((XM a b).fst > (Jh a b).fst) then (ZwO a b Q) else (Y9∧(Y9∧(bif !(Xs a b).snd then Q YA else (bif !(YY a b).snd then Q YA else (bif decide ((Xs a b).fst < (Za6 a b).fst) then (ZpR a b Q) else (bif decide ((YY a b).fst > (Jh a b).fst) then Q (ZpT a b) else Q (PV.agg (eIv (of (Za6 a b).fst (Jh a b).fst)))))))))))))))))))))))))) (fun _=>by kernel_rfl) ?_
 delta Qn ZwK YA ZpO ZwL ZwM Y9 YY ZwN ZwO ZpQ ZpR Xs WG XM Za6 Za5 Jh Jg ZpS ZpT ZpP ZpN eIv vI vB
 refine ⟨?r43,⟨?r42,Zb (fun h0=>?_) (fun h0=>Zb (fun h1=>?_) (fun h1=>⟨?r41,⟨?r40,Zb (fun h2=>?_) (fun h2=>Zb (fun h3=>?_) (fun h3=>Zb (fun h4=>Zb (fun h5=>⟨?r9,⟨?r8,Zb (fun h6=>?_) (fun h6=>Zb (fun h7=>?_) (fun h7=>Zb (fun h8=>Zb (fun h9=>⟨?r1,⟨?r0,Zb (fun h10=>?_) (fun h10=>Zb (fun h11=>?_) (fun h11=>Zb (fun h12=>Zb (fun h13=>?_) (fun h13=>?_)) (fun h12=>Zb (fun h13=>?_) (fun h13=>?_))))⟩⟩) (fun h9=>⟨?r3,⟨?r2,Zb (fun h10=>?_) (fun h10=>Zb (fun h11=>?_) (fun h11=>Zb (fun h12=>Zb (fun h13=>?_) (fun h13=>?_)) (fun h12=>Zb (fun h13=>?_) (fun h13=>?_))))⟩⟩)) (fun h8=>Zb (fun h9=>⟨?r5,⟨?r4,Zb (fun h10=>?_) (fun h10=>Zb (fun h11=>?_) (fun h11=>Zb (fun h12=>Zb (fun h13=>?_) (fun h13=>?_)) (fun h12=>Zb (fun h13=>?_) (fun h13=>?_))))⟩⟩) (fun h9=>⟨?r7,⟨?r6,Zb (fun h10=>?_) (fun h10=>Zb (fun h11=>?_) (fun h11=>Zb (fun h12=>Zb (fun h13=>?_) (fun h13=>?_)) (fun h12=>Zb (fun h13=>?_) (fun h13=>?_))))⟩⟩))))⟩⟩) (fun h5=>⟨?r19,⟨?r18,Zb (fun h6=>?_) (fun h6=>Zb (fun h7=>?_) (fun h7=>Zb (fun h8=>Zb (fun h9=>⟨?r11,⟨?r10,Zb (fun h10=>?_) (fun h10=>Zb (fun h11=>?_) (fun h11=>Zb (fun h12=>Zb (fun h13=>?_) (fun h13=>?_)) (fun h12=>Zb (fun h13=>?_) (fun h13=>?_))))⟩⟩) (fun h9=>⟨?r13,⟨?r12,Zb (fun h10=>?_) (fun h10=>Zb (fun h11=>?_) (fun h11=>Zb (fun h12=>Zb (fun h13=>?_) (fun h13=>?_)) (fun h12=>Zb (fun h13=>?_) (fun h13=>?_))))⟩⟩)) (fun h8=>Zb (fun h9=>⟨?r15,⟨?r14,Zb (fun h10=>?_) (fun h10=>Zb (fun h11=>?_) (fun h11=>Zb (fun h12=>Zb (fun h13=>?_) (fun h13=>?_)) (fun h12=>Zb (fun h13=>?_) (fun h13=>?_))))⟩⟩) (fun h9=>⟨?r17,⟨?r16,Zb (fun h10=>?_) (fun h10=>Zb (fun h11=>?_) (fun h11=>Zb (fun h12=>Zb (fun h13=>?_) (fun h13=>?_)) (fun h12=>Zb (fun h13=>?_) (fun h13=>?_))))⟩⟩))))⟩⟩)) (fun h4=>Zb (fun h5=>⟨?r29,⟨?r28,Zb (fun h6=>?_) (fun h6=>Zb (fun h7=>?_) (fun h7=>Zb (fun h8=>Zb (fun h9=>⟨?r21,⟨?r20,Zb (fun h10=>?_) (fun h10=>Zb (fun h11=>?_) (fun h11=>Zb (fun h12=>Zb (fun h13=>?_) (fun h13=>?_)) (fun h12=>Zb (fun h13=>?_) (fun h13=>?_))))⟩⟩) (fun h9=>⟨?r23,⟨?r22,Zb (fun h10=>?_) (fun h10=>Zb (fun h11=>?_) (fun h11=>Zb (fun h12=>Zb (fun h13=>?_) (fun h13=>?_)) (fun h12=>Zb (fun h13=>?_) (fun h13=>?_))))⟩⟩)) (fun h8=>Zb (fun h9=>⟨?r25,⟨?r24,Zb (fun h10=>?_) (fun h10=>Zb (fun h11=>?_) (fun h11=>Zb (fun h12=>Zb (fun h13=>?_) (fun h13=>?_)) (fun h12=>Zb (fun h13=>?_) (fun h13=>?_))))⟩⟩) (fun h9=>⟨?r27,⟨?r26,Zb (fun h10=>?_) (fun h10=>Zb (fun h11=>?_) (fun h11=>Zb (fun h12=>Zb (fun h13=>?_) (fun h13=>?_)) (fun h12=>Zb (fun h13=>?_) (fun h13=>?_))))⟩⟩))))⟩⟩) (fun h5=>⟨?r39,⟨?r38,Zb (fun h6=>?_) (fun h6=>Zb (fun h7=>?_) (fun h7=>Zb (fun h8=>Zb (fun h9=>⟨?r31,⟨?r30,Zb (fun h10=>?_) (fun h10=>Zb (fun h11=>?_) (fun h11=>Zb (fun h12=>Zb (fun h13=>?_) (fun h13=>?_)) (fun h12=>Zb (fun h13=>?_) (fun h13=>?_))))⟩⟩) (fun h9=>⟨?r33,⟨?r32,Zb (fun h10=>?_) (fun h10=>Zb (fun h11=>?_) (fun h11=>Zb (fun h12=>Zb (fun h13=>?_) (fun h13=>?_)) (fun h12=>Zb (fun h13=>?_) (fun h13=>?_))))⟩⟩)) (fun h8=>Zb (fun h9=>⟨?r35,⟨?r34,Zb (fun h10=>?_) (fun h10=>Zb (fun h11=>?_) (fun h11=>Zb (fun h12=>Zb (fun h13=>?_) (fun h13=>?_)) (fun h12=>Zb (fun h13=>?_) (fun h13=>?_))))⟩⟩) (fun h9=>⟨?r37,⟨?r36,Zb (fun h10=>?_) (fun h10=>Zb (fun h11=>?_) (fun h11=>Zb (fun h12=>Zb (fun h13=>?_) (fun h13=>?_)) (fun h12=>Zb (fun h13=>?_) (fun h13=>?_))))⟩⟩))))⟩⟩))))⟩⟩))⟩⟩
 case r0|r1|r2|r3|r4|r5|r6|r7|r8|r9|r10|r11|r12|r13|r14|r15|r16|r17|r18|r19|r20|r21|r22|r23|r24|r25|r26|r27|r28|r29|r30|r31|r32|r33|r34|r35|r36|r37|r38|r39|r40|r41|r42|r43=>decide
 all_goals simp only[Qi_,Qf_,Qc_,Qe_] at *
 all_goals first | exact Kk_ (fun e=>PV.agg (Iv.enc e)) (Zj3 (by simp[*])) | exact Kk_ (fun e=>PV.agg (Iv.enc e)) (ZuK h0 h1 h6 h7 h2 h3 h10 h11 (by omega) (by omega))
theorem ZwQ:Zi Tryz.prog 120 ZkH:=by
 intro args r ps h hp
 unfold ZkH at h
 split at h
 ·rename_i p1 p2 p3 p4 p5 p6
  cases (Qa_ h)
  exact ZwP (⟨p1,p2,p3⟩:Iv) (⟨p4,p5,p6⟩:Iv)
 ·exact absurd h (by simp)
theorem Zz7:Zi Tryz.prog 120 Z6K:=Zrm ZwJ (ZwQ)
def Z4P:=YC [(63,e63)]
def ZwR(bit:Int)(r:Int):=BitVec.ofInt (64:Nat) r||| BitVec.ofInt (64:Nat) (IntKind.i64.wrap ((1:Int)* (2:Int) ^ min bit.toNat (64:Nat)))
theorem ZuW:CSOk Tryz.prog Z4P:=Za ZgZ<|Ze
theorem Zz8:Yt Tryz.prog (Zt Tryz.f161 0) ZrB:=by
 refine lsG Zl.Γ (Z6 Zl ZuW ZA Z7 ZJ (LS:=[]) (ZV (l:=[]) (by kernel_rfl) Zu) (n:=2000) (U4 Z1z) (U4 Zcn) (fun x e s=>(e= .exit 0∧s=U4 Zek x)) (fun x=>(x.1+1).toNat) ZrA Zzh Zzi (fun x hx=>?_)) cv4 (fun _=>rfl) (fun _ h=>h) (fun _ _ _ _ h f=>fE h f)
 ·obtain ⟨bit,n,r,up⟩:=x
  simp only[U4,Zcn] at hx
  refine sxT (fun Q=>(bif decide (bit≥(0:Int)) then (((0:Int)≤bit)∧(bif decide (IntKind.i64.wrap (IntKind.i64.wrap ↑(ZwR bit r).toNat *IntKind.i64.wrap ↑(ZwR bit r).toNat)≤n) then Q (Ex.normal) (some ⟨44,[(8,AV.p (vI (IntKind.i64.wrap (bit - (1:Int))))),(6,pI n),(7,AV.p (vI (IntKind.i64.wrap ↑(ZwR bit r).toNat))),(1,AV.p (vB up))],[],[],[],[]⟩) else Q (Ex.normal) (some ⟨44,[(8,AV.p (vI (IntKind.i64.wrap (bit - (1:Int))))),(6,pI n),(7,pI r),(1,AV.p (vB up))],[],[],[],[]⟩))) else Q (Ex.exit (0:Nat)) (some ⟨44,[(7,pI r),(6,pI n),(1,AV.p (vB up))],[],[],[],[]⟩))) (fun _=>by kernel_rfl) ?_
  delta ZwR vI vB pI
  refine Zb (fun h0=>⟨?r0,Zb (fun h1=> .inl ⟨rfl,(IntKind.i64.wrap (bit - (1:Int)),n,IntKind.i64.wrap ↑(BitVec.ofInt (64:Nat) r||| BitVec.ofInt (64:Nat) (IntKind.i64.wrap ((1:Int)* (2:Int) ^ min bit.toNat (64:Nat)))).toNat,up),rfl, ?_, ?_, ?_⟩) (fun h1=> .inl ⟨rfl,(IntKind.i64.wrap (bit - (1:Int)),n,r,up),rfl, ?_, ?_, ?_⟩)⟩) (fun h0=> .inr ⟨by simp,_,rfl, ?_⟩)
  case r0=>first | rfl | (simp only[Zs,dI,dIv];omega) | (simp[Zd,chunk];done) | (simp only[Zs,dI,dIv];done) | (exact ZH (fun _=>rfl) (by omega) (by omega)) | (simp only[Qc_,Qk_] at *;exact ZH (fun _=>rfl) (by omega) (by omega)) | assumption | trivial | (simp_all;done)
  all_goals obtain ⟨a1,a2,a3,a4⟩:=hx
  all_goals simp only[Qc_,Qe_] at h0
  ·have hm:=ZnC h0 a1.2 a3 a4
   obtain ⟨k1,k2,k3,k4,k5,k6⟩:=XI h0 a3
   simp only[hm,Zf k5,Qc_] at h1
   simp only[U4,hm,Zf (show Fit (bit - 1) by constructor<;>omega),Zcn,k1]
   exact ⟨by omega,a2,by omega,Int.dvd_add (Int.dvd_trans ⟨2,by rw[k4];omega⟩ a4) (Int.dvd_refl _)⟩
  ·simp only[Zf (show Fit (bit - 1) by constructor<;>omega)];omega
  ·have hm:=ZnC h0 a1.2 a3 a4
   obtain ⟨k1,k2,k3,k4,k5,k6⟩:=XI h0 a3
   simp only[hm,Zf k5,Qc_] at h1
   simp only[U4,hm,Zf (show Fit (bit - 1) by constructor<;>omega),Zek,k1,k2]
   intro e s h
   unfold ZP
   rw[if_pos h1]
   exact h
  ·obtain ⟨k1,k2,k3,k4,k5,k6⟩:=XI h0 a3
   simp only[U4,Zf (show Fit (bit - 1) by constructor<;>omega),Zcn,k1]
   exact ⟨by omega,a2,by omega,Int.dvd_trans ⟨2,by rw[k4];omega⟩ a4⟩
  ·simp only[Zf (show Fit (bit - 1) by constructor<;>omega)];omega
  ·have hm:=ZnC h0 a1.2 a3 a4
   obtain ⟨k1,k2,k3,k4,k5,k6⟩:=XI h0 a3
   simp only[hm,Zf k5,Qe_] at h1
   simp only[U4,Zf (show Fit (bit - 1) by constructor<;>omega),Zek,k1,k2]
   intro e s h
   unfold ZP
   rw[if_neg h1]
   exact h
  ·have:(bit+1).toNat=0:=by omega
   exact ⟨rfl,by simp only[U4,Zek];rw[this];rfl⟩
theorem Z1C:ZF Tryz.prog [(6,ZrB)] Tryz.f161:=ZN (l:=[Zt Tryz.f161 0]) (by kernel_rfl) (ZE (i:=6) (by kernel_rfl) rfl Zz8 (Zu))
def ZkY(a:Int):=IntKind.i64.wrap (a * (65536:Int))
theorem Z4Q:Zi Tryz.prog 161 Z6L:=Zj<|Zg fun a=>Zg fun up=>EZ0<|by
 refine cfL ZuW Z1C rfl ?_
 refine sxT (fun Q=>(bif decide (a < (0:Int)) then Q (PV.tup [vI 0,vB false]) else (bif !inB a then Q (PV.tup [vI 0,vB false]) else ((Zcn (24:Int) (ZkY a) (0:Int) up)∧(bif up then (bif decide (IntKind.i64.wrap (ZP (25:Nat) (ZkY a) (0:Int)*ZP (25:Nat) (ZkY a) (0:Int)) < IntKind.i64.wrap (a * (65536:Int))) then Q (PV.tup [vI (IntKind.i64.wrap (ZP (25:Nat) (ZkY a) (0:Int)+(1:Int))),vB true]) else Q (PV.tup [vI (ZP (25:Nat) (ZkY a) (0:Int)),vB true])) else Q (PV.tup [vI (ZP (25:Nat) (ZkY a) (0:Int)),vB true])))))) (fun _=>by kernel_rfl) ?_
 delta Qn ZkY vI vB
 refine Zb (fun h0=>?_) (fun h0=>Zb (fun h1=>?_) (fun h1=>⟨?_,Zb (fun h2=>Zb (fun h3=>?_) (fun h3=>?_)) (fun h2=>?_)⟩))
 ·simp only[Qc_] at h0
  have:decide (0≤a)=false:=by simp;omega
  simp only[root,this,Qn_,Qd_];rfl
 ·simp_all[nz,nzA,root]
 all_goals simp only[Qf_,Qe_,ZG] at h0 h1
 all_goals try rw[Zf (show Fit (a *65536) by constructor<;>omega)] at *
 ·exact ⟨by omega,by omega,by simp,by simp⟩
 all_goals rw[Z1e (by omega)] at *
 all_goals have hf:=Zk7 (n:=a *65536)
 all_goals have hb:inB a=true:=ZG.2 h1
 all_goals have h00:decide (0≤a)=true:=by simp;omega
 ·rw[Zf Zj4] at h3
  rw[Zf (by constructor<;>omega)]
  simp only[root,hb,h2,h3,h00,QZ_,Qb_];rfl
 ·rw[Zf Zj4] at h3
  simp only[root,hb,h2,h3,h00,QZ_,Qb_,Qd_,Qn_];rfl
 ·simp only[root,hb,h2,h00,QZ_,Qb_,Qd_,Ql_];rfl
def Z3H:=YC [(73,e73),(154,Z47)]
def ZwS(bit:Int)(r:Int):=r+IntKind.i64.wrap ((1:Int)* (2:Int) ^ min (IntKind.u64.wrap bit).toNat (64:Nat))
theorem ZrW:CSOk Tryz.prog Z3H:=Za ZjE<|Za ZrS<|Ze
theorem ZwT:Yt Tryz.prog (Zt Tryz.f156 0) Zo2:=by
 refine lsG Zl.Γ (Z6 Zl ZrW ZA Z7 ZJ (LS:=[]) (ZV (l:=[]) (by kernel_rfl) Zu) (n:=2000) (U4 Zzj) (U4 ZaU) (fun x e s=>(e= .exit 0∧s=U4 ZcL x)) (fun x=>(x.1+1).toNat) Zo1 Zww Zwx (fun x hx=>?_)) cv4 (fun _=>rfl) (fun _ h=>h) (fun _ _ _ _ h f=>fE h f)
 ·obtain ⟨bit,n,r,up⟩:=x
  simp only[U4,ZaU] at hx
  refine sxT (fun Q=>(bif decide (bit≥(0:Int)) then (((0:Int)≤IntKind.u64.wrap bit)∧(bif decide (IntKind.i64.wrap (IntKind.i64.wrap (ZwS bit r)*IntKind.i64.wrap (ZwS bit r))≤n) then Q (Ex.normal) (some ⟨48,[(8,AV.p (vI (IntKind.i64.wrap (bit - (1:Int))))),(6,pI n),(7,AV.p (vI (IntKind.i64.wrap (ZwS bit r)))),(1,AV.p (vB up))],[],[],[],[]⟩) else Q (Ex.normal) (some ⟨48,[(8,AV.p (vI (IntKind.i64.wrap (bit - (1:Int))))),(6,pI n),(7,pI r),(1,AV.p (vB up))],[],[],[],[]⟩))) else Q (Ex.exit (0:Nat)) (some ⟨48,[(7,pI r),(6,pI n),(1,AV.p (vB up))],[],[],[],[]⟩))) (fun _=>by kernel_rfl) ?_
  delta ZwS vI vB pI
  refine Zb (fun h0=>⟨?r0,Zb (fun h1=> .inl ⟨rfl,(IntKind.i64.wrap (bit - (1:Int)),n,IntKind.i64.wrap (r+IntKind.i64.wrap ((1:Int)* (2:Int) ^ min (IntKind.u64.wrap bit).toNat (64:Nat))),up),rfl, ?_, ?_, ?_⟩) (fun h1=> .inl ⟨rfl,(IntKind.i64.wrap (bit - (1:Int)),n,r,up),rfl, ?_, ?_, ?_⟩)⟩) (fun h0=> .inr ⟨by simp,_,rfl, ?_⟩)
  case r0=>show (0:Int)≤IntKind.u64.wrap _;have hx0:=hx;simp only[Qc_] at h0;have hu:IntKind.u64.wrap bit=bit:=(by simp[IntKind.wrap,IntKind.bits,IntKind.signed];omega);omega
  all_goals try dsimp only[U4]
  all_goals try obtain ⟨a1,a2,a3⟩:=hx
  all_goals try simp only[Qc_,Qe_] at h0
  all_goals try have hu:IntKind.u64.wrap bit=bit:=by simp[IntKind.wrap,IntKind.bits,IntKind.signed];omega
  ·have hm:=ZnD h0 a1.2 a3
   obtain ⟨k1,k2,k3,k4,k5,k6⟩:=XI h0 a3
   simp only[hu,hm,Zf (show Fit (r+2 ^ bit.toNat) by constructor<;>omega),Zf k5,Qc_] at h1
   simp only[U4,hu,hm,Zf (show Fit (r+2 ^ bit.toNat) by constructor<;>omega),Zf (show Fit (bit - 1) by constructor<;>omega),ZaU,k1]
   exact ⟨by omega,a2,by omega⟩
  ·simp only[Zf (show Fit (bit - 1) by constructor<;>omega)];omega
  ·have hm:=ZnD h0 a1.2 a3
   obtain ⟨k1,k2,k3,k4,k5,k6⟩:=XI h0 a3
   simp only[hu,hm,Zf (show Fit (r+2 ^ bit.toNat) by constructor<;>omega),Zf k5,Qc_] at h1
   simp only[U4,hu,hm,Zf (show Fit (r+2 ^ bit.toNat) by constructor<;>omega),Zf (show Fit (bit - 1) by constructor<;>omega),ZcL,k1,k2]
   intro e s h
   unfold ZP
   rw[if_pos h1]
   exact h
  ·obtain ⟨k1,k2,k3,k4,k5,k6⟩:=XI h0 a3
   simp only[U4,Zf (show Fit (bit - 1) by constructor<;>omega),ZaU,k1]
   exact ⟨by omega,a2,by omega⟩
  ·simp only[Zf (show Fit (bit - 1) by constructor<;>omega)];omega
  ·have hm:=ZnD h0 a1.2 a3
   obtain ⟨k1,k2,k3,k4,k5,k6⟩:=XI h0 a3
   simp only[hu,hm,Zf (show Fit (r+2 ^ bit.toNat) by constructor<;>omega),Zf k5,Qe_] at h1
   simp only[U4,Zf (show Fit (bit - 1) by constructor<;>omega),ZcL,k1,k2]
   intro e s h
   unfold ZP
   rw[if_neg h1]
   exact h
  ·have:(bit+1).toNat=0:=by omega
   exact ⟨rfl,by simp only[U4,ZcL];rw[this];rfl⟩
theorem Zz9:ZF Tryz.prog [(7,Zo2)] Tryz.f156:=ZN (l:=[Zt Tryz.f156 0]) (by kernel_rfl) (ZE (i:=7) (by kernel_rfl) rfl ZwT (Zu))
def ZkZ(a:Int):=IntKind.i64.wrap (a * (65536:Int))
def Z1D(a:Int):=PV.tup [vI (told (ZP (24:Nat) (ZkZ a) (0:Int))).fst,vB (told (ZP (24:Nat) (ZkZ a) (0:Int))).snd]
def Z1E(a:Int):=told (IntKind.i64.wrap (ZP (24:Nat) (ZkZ a) (0:Int)+(1:Int)))
theorem Z4R:Zi Tryz.prog 156 Z6M:=Zj<|Zg fun a=>Zg fun up=>EZ0<|by
 refine cfL ZrW Zz9 rfl ?_
 refine sxT (fun Q=>(bif !inB a then Q (PV.tup [vI 0,vB false]) else (bif decide (a < (0:Int)) then Q (PV.tup [vI 0,vB false]) else ((ZaU (23:Int) (ZkZ a) (0:Int) up)∧(bif up then (bif IntKind.i64.wrap (ZP (24:Nat) (ZkZ a) (0:Int)*ZP (24:Nat) (ZkZ a) (0:Int))!=IntKind.i64.wrap (a * (65536:Int)) then Q (PV.tup [vI (Z1E a).fst,vB (Z1E a).snd]) else Q (Z1D a)) else Q (Z1D a)))))) (fun _=>by kernel_rfl) ?_
 delta Qn ZkZ Z1D Z1E vI vB
 refine Zb (fun h0=>?_) (fun h0=>Zb (fun h1=>?_) (fun h1=>⟨?_,Zb (fun h2=>Zb (fun h3=>?_) (fun h3=>?_)) (fun h2=>?_)⟩))
 ·simp_all[nz,nzA,root]
 ·simp only[Qc_] at h1
  have:decide (0≤a)=false:=by simp;omega
  simp only[root,this,Qn_,Qd_];rfl
 all_goals simp only[Qf_,Qe_,ZG] at h0 h1
 all_goals try rw[Zf (show Fit (a *65536) by constructor<;>omega)] at *
 ·exact ⟨by omega,by omega,by simp⟩
 all_goals have hf:=Zk7 (n:=a *65536)
 all_goals have hb:inB a=true:=ZG.2 h0
 all_goals have h00:decide (0≤a)=true:=by simp;omega
 all_goals have hb2:inB (ZP 24 (a *65536) 0)=true:=ZG.2 (by omega)
 all_goals have hb3:inB (ZP 24 (a *65536) 0+1)=true:=ZG.2 (by omega)
 all_goals have hsq:=Z1f (n:=a *65536) (by omega)
 ·rw[Zf Zj4] at h3
  have h4:decide (ZP 24 (a *65536) 0 *ZP 24 (a *65536) 0 < a *65536)=true:=by simp at h3 ⊢;omega
  rw[Zf (by constructor<;>omega)]
  simp only[root,told,hb,hb3,h2,h4,h00,QZ_,Qb_];rfl
 ·rw[Zf Zj4] at h3
  have h4:decide (ZP 24 (a *65536) 0 *ZP 24 (a *65536) 0 < a *65536)=false:=by simp at h3 ⊢;omega
  simp only[root,told,hb,hb2,h2,h4,h00,QZ_,Qb_,Qd_,Qn_];rfl
 ·simp only[root,told,hb,hb2,h2,h00,QZ_,Qb_,Qd_,Ql_];rfl
theorem ZrX:CSOk Tryz.prog (YC []):=Ze
theorem ZwU:Yt Tryz.prog (Zt Tryz.f216 0) Zo5:=by
 refine lsG Zl.Γ (Z6 Zl ZrX ZA Z7 ZJ (LS:=[]) (ZV (l:=[]) (by kernel_rfl) Zu) (n:=2000) (U3 Zzk) (U3 ZcM) (fun x e s=>(e= .exit 0∧s=U3 Zo4 x)) (fun x=>(x.2.2 - x.1).toNat) Zo3 Zwy Zwz (fun x hx=>?_)) cv3 (fun _=>rfl) (fun _ h=>h) (fun _ _ _ _ h f=>fE h f)
 ·obtain ⟨i,out,n⟩:=x
  simp only[U3,ZcM] at hx
  refine sxT (fun Q=>(bif decide (i < n) then Q (Ex.normal) (some ⟨11,[(5,AV.p (vI (IntKind.i64.wrap (i+(1:Int))))),(3,AV.p (vI (IntKind.i64.wrap (out * (10:Int))))),(4,pI n)],[],[],[],[]⟩) else Q (Ex.exit (0:Nat)) (some ⟨11,[(3,pI out)],[],[],[],[]⟩))) (fun _=>by kernel_rfl) ?_
  delta vI pI
  refine Zb (fun h0=> .inl ⟨rfl,(IntKind.i64.wrap (i+(1:Int)),IntKind.i64.wrap (out * (10:Int)),n),rfl, ?_, ?_, ?_⟩) (fun h0=> .inr ⟨by simp,_,rfl, ?_⟩)
  all_goals obtain ⟨a1,a2,a3,a4⟩:=hx
  all_goals simp only[Qc_,Qe_] at h0
  ·have hw:IntKind.i64.wrap (i+1)=i+1:=Zf (by constructor<;>omega)
   have h1:=ZaQ i
   have h2:=Zk5 (i:=i+1) (by omega)
   rw[ZgH a1] at h2
   rw[hw,Zf (by constructor<;>omega)]
   simp only[U3,ZcM]
   exact ⟨by omega,by omega,a3,by rw[a4,ZgH a1]⟩
  ·show (n - IntKind.i64.wrap (i+1)).toNat < (n - i).toNat
   rw[Zf (by constructor<;>omega)];omega
  ·exact fun e s h=>h
  ·have:i=n:=by omega
   subst this
   exact ⟨rfl,by rw[a4];rfl⟩
theorem ZzA:ZF Tryz.prog [(4,Zo5)] Tryz.f216:=ZN (l:=[Zt Tryz.f216 0]) (by kernel_rfl) (ZE (i:=4) (by kernel_rfl) rfl ZwU (Zu))
theorem Z4S:Zi Tryz.prog 216 Z6N:=Zj<|Zg fun n=>EZ1 fun hp0=>by
 refine cfL ZrX ZzA rfl ?_
 refine sxT (fun Q=>((ZcM (0:Int) (1:Int) n)∧Q (vI (Z1 n)))) (fun _=>by kernel_rfl) ?_
 delta Qn vI
 refine ⟨?_, ?_⟩
 ·exact ⟨by omega,hp0.1,hp0.2,rfl⟩
 ·rfl
theorem ZzB:CSOk Tryz.prog (YC []):=Ze
theorem Z1F:Yt Tryz.prog (Zt Tryz.f117 0) ZuV:=by
 refine lsG Zl.Γ (Z6 Zl ZzB ZA Z7 ZJ (LS:=[]) (ZV (l:=[]) (by kernel_rfl) Zu) (n:=2000) (U2 Z3G) (U2 ZjD) (fun x e s=>(e= .exit 0∧s=U2 ZjC x)) (fun x=>x.1.toNat) ZuU Z10 Z11 (fun x hx=>?_)) cv2 (fun _=>rfl) (fun _ h=>h) (fun _ _ _ _ h f=>fE h f)
 ·obtain ⟨k,out⟩:=x
  simp only[U2,ZjD] at hx
  refine sxT (fun Q=>(bif decide (k > (0:Int)) then Q (Ex.normal) (some ⟨11,[(0,AV.p (vI (IntKind.i64.wrap (k - (1:Int))))),(3,AV.p (vI (IntKind.i64.wrap ((10:Int)*out))))],[],[],[],[]⟩) else Q (Ex.exit (0:Nat)) (some ⟨11,[(3,pI out)],[],[],[],[]⟩))) (fun _=>by kernel_rfl) ?_
  delta vI pI
  refine Zb (fun h0=> .inl ⟨rfl,(IntKind.i64.wrap (k - (1:Int)),IntKind.i64.wrap ((10:Int)*out)),rfl, ?_, ?_, ?_⟩) (fun h0=> .inr ⟨by simp,_,rfl, ?_⟩)
  all_goals try dsimp only[U2]
  all_goals obtain ⟨a1,a2⟩:=hx
  all_goals simp only[Qc_,Qe_] at h0
  all_goals try have e1:out *10 *Z1 (k - 1)=out *Z1 k:=by rw[Int.mul_assoc,Int.mul_comm 10,←ZgH (by omega),Int.sub_add_cancel]
  all_goals try have e2:out *10≤out *10 *Z1 (k - 1):=by have:=Int.mul_le_mul_of_nonneg_left (ZaQ (k - 1)) (show 0≤out *10 by omega);omega
  all_goals try rw[Zf (show Fit (k - 1) by constructor<;>omega)]
  ·rw[Zf (by constructor<;>omega)]
   exact ⟨by omega,by omega,by rw[Int.mul_comm 10 out,e1];exact a2.2⟩
  ·(try simp only);omega
  ·rw[Zf (by constructor<;>omega)]
   intro e s h
   simp only[U2,ZjC] at h ⊢
   rw[Int.mul_comm 10 out,e1] at h
   exact h
  ·have:k=0:=by omega
   subst this
   exact ⟨rfl,by simp[U2,pI,vI,vB,Iv.enc,Dec.enc,ZjC,Z1]⟩
theorem Z3I:ZF Tryz.prog [(3,ZuV)] Tryz.f117:=ZN (l:=[Zt Tryz.f117 0]) (by kernel_rfl) (ZE (i:=3) (by kernel_rfl) rfl Z1F (Zu))
theorem ZrY:Zi Tryz.prog 117 Z6O:=Zj<|Zg fun n=>EZ1 fun hp0=>by
 refine cfL ZzB Z3I rfl ?_
 refine sxT (fun Q=>((ZjD n (1:Int))∧Q (vI ((1:Int)*Z1 n)))) (fun _=>by kernel_rfl) ?_
 delta Qn vI
 refine ⟨?_, ?_⟩
 ·exact ⟨hp0,by have:=Zk5 hp0.2;omega⟩
 ·simp[nz,nzA]
theorem ZiE(a:Iv)(b:Iv):Con Tryz.prog 195 [.agg (Iv.enc a),.agg (Iv.enc b)] (.agg (Iv.enc (Zk a b))):=by
 refine cf0 (Za ZiD<|Za Xe<|Za Zz6<|Za ZrT<|Ze) (fn:=Tryz.f195) rfl ?_
 refine sxT (fun Q=>(bif !both a b then Q (PV.agg [vI 0,vI 0,vB true]) else Q (PV.agg (eIv (ends mul a b))))) (fun _=>by kernel_rfl) ?_
 delta Qn eIv vI vB
 refine Zb (fun h0=>?_) (fun h0=>?_)
 all_goals (try simp only[Qi_,Qf_,bne] at *)
 all_goals (simp only[Zk,ZK,ZC,List.foldl,Qr_,Qp_,Ql_,Qn_,Q5_,Q4_,Qw_,Q3_,Qu_,Qt_,Qb_,Qd_,QD_,Q8_, *];rfl)
theorem ZcR:Zi Tryz.prog 195 Z6P:=Zj<|Zg fun a=>Zg fun b=>EZ0<|ZiE a b
theorem Z4T:Zi Tryz.prog 121 Z6Q:=Zj<|Zg fun a=>Zg fun b=>EZ0<|by
 refine cf0 (Za Zfh<|Za Za2<|Za Zz7<|Ze) (fn:=Tryz.f121) rfl ?_
 refine sxT (fun Q=>(bif !right a then Q (PV.agg [vI 0,vI 0,vB true]) else (bif !right b then Q (PV.agg [vI 0,vI 0,vB true]) else Q (PV.agg (eIv (ends mul a b)))))) (fun _=>by kernel_rfl) ?_
 delta Qn eIv vI vB
 refine Zb (fun h0=>?_) (fun h0=>Zb (fun h1=>?_) (fun h1=>?_))
 all_goals (try simp only[Qi_,Qf_,bne] at *)
 all_goals (simp only[Zk,both,ZK,ZC,List.foldl,Qr_,Qp_,Ql_,Qn_,Q5_,Q4_,Qw_,Q3_,Qu_,Qt_,Qb_,Qd_,QD_,Q8_, *];rfl)
theorem Ze1:Zi Tryz.prog 124 Z48:=Zj<|Zg fun a=>Zg fun b=>EZ0<|by
 refine cf0 (Za ZiD<|Za Zzy<|Za Xe<|Za Zz6<|Za Zz0<|Ze) (fn:=Tryz.f124) rfl ?_
 refine sxT (fun Q=>(bif !both a b then Q (PV.agg [vI 0,vI 0,vB true]) else (bif Men.has b (0:Int) then Q (PV.agg [vI 0,vI 0,vB true]) else Q (PV.agg (eIv (ends div a b)))))) (fun _=>by kernel_rfl) ?_
 delta Qn eIv vI vB
 refine Zb (fun h0=>?_) (fun h0=>Zb (fun h1=>?_) (fun h1=>?_))
 all_goals (try simp only[Qi_,Qf_,bne] at *)
 all_goals (simp only[Zo,ZK,ZC,List.foldl,Qr_,Qp_,Ql_,Qn_,Q5_,Q4_,Qw_,Q3_,Qu_,Qt_,Qb_,Qd_,QD_,Q8_, *];rfl)
def ZwV:=PV.agg [vI 0,vI 0,vB true]
theorem Z2G:Zi Tryz.prog 85 e85:=Zj<|Zg fun a=>Zg fun b=>EZ0<|by
 refine cf0 (Za Zfh<|Za Za2<|Za Zz7<|Ze) (fn:=Tryz.f85) rfl ?_
 refine sxT (fun Q=>(bif !right a then Q ZwV else (bif !right b then Q ZwV else (bif decide (b.lo≤(0:Int)) then (bif decide (b.hi≥(0:Int)) then Q ZwV else Q (PV.agg (eIv (ends div a b)))) else Q (PV.agg (eIv (ends div a b))))))) (fun _=>by kernel_rfl) ?_
 delta Qn ZwV eIv vI vB
 refine Zb (fun h0=>?_) (fun h0=>Zb (fun h1=>?_) (fun h1=>Zb (fun h2=>Zb (fun h3=>?_) (fun h3=>?_)) (fun h2=>?_)))
 all_goals simp only[Qi_,Qf_,Qc_,Qe_] at *
 ·simp[nz,nzA,nz1,Zo,both,h0,none',Iv.enc]
 ·simp[nz,nzA,nz1,Zo,both,h0,h1,none',Iv.enc]
 ·have hh:has b 0=true:=by simp[has,h1];omega
  simp[nz,nzA,nz1,Zo,both,h0,h1,hh,none',Iv.enc]
 ·have hh:has b 0=false:=by simp[has,h1];omega
  simp[nz,nzA,nz1,Zo,both,h0,h1,hh,Iv.enc]
 ·have hh:has b 0=false:=by simp[has,h1];omega
  simp[nz,nzA,nz1,Zo,both,h0,h1,hh,Iv.enc]
def ZrZ(a:Iv):=List.foldl imax (IntKind.i64.wrap ((0:Int) - a.lo)) [a.hi]
def Z1G(a:Iv):=List.foldl imax a.lo [IntKind.i64.wrap ((0:Int) - a.hi),(0:Int)]
theorem ZbD:Zi Tryz.prog 162 Z6R:=Zj<|Zg fun a=>EZ0<|by
 refine cf0 (Za Zab<|Za Xe<|Za ZrT<|Za Zac<|Ze) (fn:=Tryz.f162) rfl ?_
 refine sxT (fun Q=>(bif !right a then Q (PV.agg [vI 0,vI 0,vB true]) else (bif !(mul (ZrZ a) (ZrZ a) true).snd then Q (PV.agg [vI 0,vI 0,vB true]) else Q (PV.agg (eIv (of (mul (Z1G a) (Z1G a) false).fst (mul (ZrZ a) (ZrZ a) true).fst)))))) (fun _=>by kernel_rfl) ?_
 delta Qn ZrZ Z1G eIv vI vB
 refine Zb (fun h0=>?_) (fun h0=>Zb (fun h1=>?_) (fun h1=>?_))
 all_goals simp only[Qi_,Qf_,List.foldl,ZC,ZK] at *
 ·simp[nz,nzA,nz1,sqr,h0,none',Iv.enc]
 all_goals have ha:=Xh h0
 all_goals rw[X7 (n:=a.lo) (by omega)] at *
 all_goals try rw[X7 (n:=a.hi) (by omega)]
 ·simp[nz,nzA,nz1,sqr,h0,far,h1,none',Iv.enc]
 ·simp[nz,nzA,nz1,sqr,h0,far,near,h1,Iv.enc]
def Z1H(a:Iv):=List.foldl imax a.lo [IntKind.i64.wrap ((0:Int) - a.lo),a.hi,IntKind.i64.wrap ((0:Int) - a.hi)]
def Zsa(a:Iv):=mul (Z1H a) (Z1H a) true
def Z1I(a:Iv):=List.foldl imin (List.foldl imax a.lo [IntKind.i64.wrap ((0:Int) - a.lo)]) [List.foldl imax a.hi [IntKind.i64.wrap ((0:Int) - a.hi)]]
def ZwW:=PV.agg [vI 0,vI 0,vB true]
def Z1J(a:Iv)(Q:PV→Prop):Prop:=bif !(Zsa a).snd then Q ZwW else Q (PV.agg (eIv (of (mul (Z1I a) (Z1I a) false).fst (Zsa a).fst)))
theorem Z2H:Zi Tryz.prog 84 e84:=Zj<|Zg fun a=>EZ0<|by
 refine cf0 (Za Zfh<|Za Za2<|Za ZrU<|Za Zfi<|Ze) (fn:=Tryz.f84) rfl ?_
 refine sxT (fun Q=>(bif !right a then Q ZwW else (bif decide (a.lo≤(0:Int)) then (bif decide (a.hi≥(0:Int)) then (bif !(Zsa a).snd then Q ZwW else Q (PV.agg (eIv (of (0:Int) (Zsa a).fst)))) else (Z1J a Q)) else (Z1J a Q)))) (fun _=>by kernel_rfl) ?_
 delta Qn Zsa Z1I Z1J Z1H ZwW eIv vI vB
 refine Zb (fun h0=>?_) (fun h0=>Zb (fun h1=>Zb (fun h2=>Zb (fun h3=>?_) (fun h3=>?_)) (fun h2=>Zb (fun h3=>?_) (fun h3=>?_))) (fun h1=>Zb (fun h2=>?_) (fun h2=>?_)))
 all_goals simp only[Qi_,Qf_,List.foldl,ZC,ZK] at *
 ·simp[nz,nzA,nz1,sqr,h0,none',Iv.enc]
 all_goals have ha:=Xh h0
 all_goals rw[X7 (n:=a.lo) (by omega),X7 (n:=a.hi) (by omega)] at *
 all_goals rw[show max (max (max a.lo (-a.lo)) a.hi) (-a.hi)=far a by unfold far;omega] at *
 ·simp[nz,nzA,nz1,sqr,h0,h3,none',Iv.enc]
 ·simp only[Qc_] at h1 h2
  have e:near a=0:=by unfold near;omega
  simp[nz,nzA,nz1,sqr,h0,h3,e,Iv.enc,show (mul 0 0 false).1=0 from rfl]
 ·simp[nz,nzA,nz1,sqr,h0,h3,none',Iv.enc]
 ·simp only[Qc_,Qe_] at h1 h2
  have e:min (max a.lo (-a.lo)) (max a.hi (-a.hi))=near a:=by unfold near;omega
  rw[e]
  simp[nz,nzA,nz1,sqr,h0,h3,Iv.enc]
 ·simp[nz,nzA,nz1,sqr,h0,h2,none',Iv.enc]
 ·simp only[Qe_] at h1
  have e:min (max a.lo (-a.lo)) (max a.hi (-a.hi))=near a:=by unfold near;omega
  rw[e]
  simp[nz,nzA,nz1,sqr,h0,h2,Iv.enc]
theorem Zhc:Zi Tryz.prog 34 e34:=Zj<|Zg fun a=>Zg fun k=>EZ0<|by
 refine cf0 (Za Zab<|Za ZgZ<|Za Xe<|Za Zac<|Ze) (fn:=Tryz.f34) rfl ?_
 refine sxT (fun Q=>(bif !right a then Q (PV.agg [vI 0,vI 0,vB true]) else (bif !inB k then Q (PV.agg [vI 0,vI 0,vB true]) else Q (PV.agg (eIv (of (List.foldl imin (IntKind.i64.wrap (k *a.lo)) [IntKind.i64.wrap (k *a.hi)]) (List.foldl imax (IntKind.i64.wrap (k *a.lo)) [IntKind.i64.wrap (k *a.hi)]))))))) (fun _=>by kernel_rfl) ?_
 delta Qn eIv vI vB
 refine Zb (fun h0=>?_) (fun h0=>Zb (fun h1=>?_) (fun h1=>?_))
 all_goals (try simp only[Qi_,Qf_] at *)
 ·simp only[times,h0,Ql_,Qd_];rfl
 ·simp only[times,h0,h1,Qn_,Qd_];rfl
 ·obtain ⟨b1,b2,b3,b4⟩:=Xh h0
  have m1:=ZdC h1 (ZG.2 b2)
  have m2:=ZdC h1 (ZG.2 b3)
  simp only[times,h0,h1,QZ_,Qb_,List.foldl,ZK,ZC,Zf (show Fit (k *a.lo) by constructor<;>omega),Zf (show Fit (k *a.hi) by constructor<;>omega)];rfl
theorem Zmr:Zi Tryz.prog 126 Z6S:=Zj<|Zg fun a=>EZ0<|by
 refine cf0 (Za Zab<|Za Xe<|Za Z4Q<|Za Zac<|Ze) (fn:=Tryz.f126) rfl ?_
 refine sxT (fun Q=>(bif !right a then Q (PV.agg [vI 0,vI 0,vB true]) else (bif decide (a.lo < (0:Int)) then Q (PV.agg [vI 0,vI 0,vB true]) else Q (PV.agg (eIv (of (root a.lo false).fst (root a.hi true).fst)))))) (fun _=>by kernel_rfl) ?_
 delta Qn eIv vI vB
 refine Zb (fun h0=>?_) (fun h0=>Zb (fun h1=>?_) (fun h1=>?_))
 all_goals first | (simp only[ZQ,ZK,ZC,List.foldl,Qr_,Qp_,Ql_,Qn_,Q5_,Q4_,Qw_,Q3_,Qu_,Qt_,Qb_,Qd_,QD_,Q8_, *];first | rfl | (simp only[nz,nzA,nz1,QE_,QN_,Iv.enc,V.enc,Ray.enc, *];first | done | rfl)) | (simp_all[nz,nzA,nz1,Iv.enc,V.enc,Ray.enc,Dec.enc,Shape.enc,none',told,K5_,ZQ];done) | (simp_all[nz,nzA,nz1,Iv.enc,V.enc,Ray.enc,Dec.enc,Shape.enc,none',told,K5_,ZQ];(repeat' split)<;>(first | rfl | (exfalso;omega) | (simp_all;done)))
theorem Z4U:Zi Tryz.prog 122 Z6T:=Zj<|Zg fun a=>EZ0<|by
 refine cf0 (Za Zfh<|Za Za2<|Za Z4R<|Za Zfi<|Ze) (fn:=Tryz.f122) rfl ?_
 refine sxT (fun Q=>(bif !right a then Q (PV.agg [vI 0,vI 0,vB true]) else (bif decide (a.lo < (0:Int)) then Q (PV.agg [vI 0,vI 0,vB true]) else Q (PV.agg (eIv (of (root a.lo false).fst (root a.hi true).fst)))))) (fun _=>by kernel_rfl) ?_
 delta Qn eIv vI vB
 refine Zb (fun h0=>?_) (fun h0=>Zb (fun h1=>?_) (fun h1=>?_))
 all_goals first | (simp only[ZQ,ZK,ZC,List.foldl,Qr_,Qp_,Ql_,Qn_,Q5_,Q4_,Qw_,Q3_,Qu_,Qt_,Qb_,Qd_,QD_,Q8_, *];first | rfl | (simp only[nz,nzA,nz1,QE_,QN_,Iv.enc,V.enc,Ray.enc, *];first | done | rfl)) | (simp_all[nz,nzA,nz1,Iv.enc,V.enc,Ray.enc,Dec.enc,Shape.enc,none',told,K5_,ZQ];done) | (simp_all[nz,nzA,nz1,Iv.enc,V.enc,Ray.enc,Dec.enc,Shape.enc,none',told,K5_,ZQ];(repeat' split)<;>(first | rfl | (exfalso;omega) | (simp_all;done)))
def ZwX:=PV.tup [PV.agg [vI 0,vI 0,vB true],vI 0]
theorem ZzC:Zi Tryz.prog 201 Z6U:=Zj<|Zg fun a=>Zg fun b=>Zg fun c=>EZ0<|by
 refine cf0 (Za ZbD<|Za ZcR<|Za ZbC<|Za Xe<|Za Zmr<|Za Ze1<|Ze) (fn:=Tryz.f201) rfl ?_
 refine sxT (fun Q=>(bif (sub (sqr b) (Zk a c)).no then Q ZwX else (bif decide ((sub (sqr b) (Zk a c)).hi < (0:Int)) then Q (PV.tup [PV.agg [vI 0,vI 0,vB true],vI 2]) else (bif decide ((sub (sqr b) (Zk a c)).lo < (0:Int)) then Q ZwX else (bif (Zo c (sub (ZQ (sub (sqr b) (Zk a c))) b)).no then Q ZwX else Q (PV.tup [PV.agg (eIv (Zo c (sub (ZQ (sub (sqr b) (Zk a c))) b))),vI 1])))))) (fun _=>by kernel_rfl) ?_
 delta Qn ZwX eIv vI vB
 refine Zb (fun h0=>?_) (fun h0=>Zb (fun h1=>?_) (fun h1=>Zb (fun h2=>?_) (fun h2=>Zb (fun h3=>?_) (fun h3=>?_))))
 all_goals simp only[WD, *,Qb_,Qd_]
 all_goals first | rfl | (simp[nz,nzA,nz1,Iv.enc, *])
theorem Zc0:Zi Tryz.prog 97 e97:=Zj<|Zg fun x=>Zg fun y=>Zg fun z=>EZ0<|by
 refine cf0 Ze (fn:=Tryz.f97) rfl ?_
 refine sxT (fun Q=>Q (PV.agg [vI x.lo,vI x.hi,vB x.no,vI y.lo,vI y.hi,vB y.no,vI z.lo,vI z.hi,vB z.no])) (fun _=>by kernel_rfl) ?_
 delta Qn vI vB
 refine ?_
 all_goals rfl
theorem Z4V:Zi Tryz.prog 199 Z6V:=Zj<|Zg fun a=>Zg fun b=>EZ0<|by
 refine cf0 (Za ZbC<|Za Zc0<|Ze) (fn:=Tryz.f199) rfl ?_
 refine sxT (fun Q=>Q (PV.agg [vI (sub a.x b.x).lo,vI (sub a.x b.x).hi,vB (sub a.x b.x).no,vI (sub a.y b.y).lo,vI (sub a.y b.y).hi,vB (sub a.y b.y).no,vI (sub a.z b.z).lo,vI (sub a.z b.z).hi,vB (sub a.z b.z).no])) (fun _=>by kernel_rfl) ?_
 delta Qn vI vB
 refine ?_
 all_goals rfl
theorem ZzD:Zi Tryz.prog 193 Z6W:=Zj<|Zg fun a=>Zg fun b=>EZ0<|by
 refine cf0 (Za ZcR<|Za Zas<|Ze) (fn:=Tryz.f193) rfl ?_
 refine sxT (fun Q=>Q (PV.agg (eIv (add (add (Zk a.x b.x) (Zk a.y b.y)) (Zk a.z b.z))))) (fun _=>by kernel_rfl) ?_
 delta Qn eIv vI vB
 refine ?_
 all_goals rfl
theorem ZzE:Zi Tryz.prog 127 Z6X:=Zj<|Zg fun a=>EZ0<|by
 refine cf0 (Za ZbD<|Za Zas<|Ze) (fn:=Tryz.f127) rfl ?_
 refine sxT (fun Q=>Q (PV.agg (eIv (add (add (sqr a.x) (sqr a.y)) (sqr a.z))))) (fun _=>by kernel_rfl) ?_
 delta Qn eIv vI vB
 refine ?_
 all_goals rfl
theorem Z2I:Zi Tryz.prog 93 e93:=Zj<|Zg fun d=>EZ0<|by
 refine cf0 Ze (fn:=Tryz.f93) rfl ?_
 refine sxT (fun Q=>(bif decide (d.c≥(-100000000000:Int)) then (bif decide (d.c≤(100000000000:Int)) then (bif decide (d.scale≥(0:Int)) then (bif decide (d.scale≤(6:Int)) then (bif d.scale==(0:Int) then Q (vB true) else (((10:Int)≠(0:Int))∧Q (vB (d.c.tmod (10:Int)!=(0:Int))))) else Q (vB false)) else Q (vB false)) else Q (vB false)) else Q (vB false))) (fun _=>by kernel_rfl) ?_
 delta Qn vB
 refine Zb (fun h0=>Zb (fun h1=>Zb (fun h2=>Zb (fun h3=>Zb (fun h4=>?_) (fun h4=>⟨?r0, ?_⟩)) (fun h3=>?_)) (fun h2=>?_)) (fun h1=>?_)) (fun h0=>?_)
 case r0=>first | rfl | (simp only[Zs,dI,dIv];omega) | (simp[Zd,chunk];done)
 all_goals (simp only[ZM,ZK,ZC,List.foldl,Qr_,Qp_,Ql_,Qn_,Q5_,Q4_,Qw_,Q3_,Qu_,Qt_,Qb_,Qd_,QD_,Q8_, *];rfl)
theorem ZwY:Zi Tryz.prog 71 e71:=Zj<|Zg fun d=>EZ0<|by
 refine cf0 Ze (fn:=Tryz.f71) rfl ?_
 refine sxT (fun Q=>(bif decide (d.c≥(-100000000000:Int)) then (bif decide (d.c≤(100000000000:Int)) then (bif decide (d.scale≥(0:Int)) then (bif decide (d.scale≤(6:Int)) then (bif d.scale==(0:Int) then Q (vB true) else (((10:Int)≠(0:Int))∧Q (vB (d.c.tmod (10:Int)!=(0:Int))))) else Q (vB false)) else Q (vB false)) else Q (vB false)) else Q (vB false))) (fun _=>by kernel_rfl) ?_
 delta Qn vB
 refine Zb (fun h0=>Zb (fun h1=>Zb (fun h2=>Zb (fun h3=>Zb (fun h4=>?_) (fun h4=>⟨?r0, ?_⟩)) (fun h3=>?_)) (fun h2=>?_)) (fun h1=>?_)) (fun h0=>?_)
 case r0=>first | rfl | (simp only[Zs,dI,dIv];omega) | (simp[Zd,chunk];done)
 all_goals (simp only[ZM,ZK,ZC,List.foldl,Qr_,Qp_,Ql_,Qn_,Q5_,Q4_,Qw_,Q3_,Qu_,Qt_,Qb_,Qd_,QD_,Q8_, *];rfl)
def ZpU(d:Dec):=(0:Int) - IntKind.i64.wrap (d.c * (65536:Int))
theorem Z4W:Zi Tryz.prog 200 Z6Y:=Zj<|Zg fun d=>EZ0<|by
 refine cf0 (Za Z2I<|Za Xe<|Za Z4S<|Za ZwD<|Za Zac<|Ze) (fn:=Tryz.f200) rfl ?_
 refine sxT (fun Q=>(bif !ZM d then Q (PV.agg [vI 0,vI 0,vB true]) else (((0:Int)≤d.scale∧d.scale≤(18:Int))∧(((-4611686018427387904:Int)≤IntKind.i64.wrap (d.c * (65536:Int))∧IntKind.i64.wrap (d.c * (65536:Int))≤(4611686018427387904:Int))∧(((-4611686018427387904:Int)≤IntKind.i64.wrap (ZpU d)∧IntKind.i64.wrap (ZpU d)≤(4611686018427387904:Int))∧Q (PV.agg (eIv (of (floor (IntKind.i64.wrap (d.c * (65536:Int))) (Z1 d.scale)) (IntKind.i64.wrap ((0:Int) - floor (IntKind.i64.wrap (ZpU d)) (Z1 d.scale))))))))))) (fun _=>by kernel_rfl) ?_
 delta Qn ZpU eIv vI vB
 refine Zb (fun h0=>?_) (fun h0=>⟨?_,⟨?_,⟨?_, ?_⟩⟩⟩)
 ·simp only[Qi_] at h0
  simp[nz,nzA,nz1,Zh,h0,none',Iv.enc]
 all_goals simp only[Qf_] at h0
 all_goals have hd:=Zct h0
 all_goals have hw:IntKind.i64.wrap (d.c *65536)=d.c *65536:=Zf (by constructor<;>omega)
 all_goals have hp:=ZaQ d.scale
 all_goals try rw[hw]
 all_goals try rw[X7 (n:=d.c *65536) (by omega)]
 ·omega
 ·omega
 ·omega
 ·have hf:=ZdZ (a:= -(d.c *65536)) (b:=Z1 d.scale) (by omega)
  have e:floor (-(d.c *65536)) (Z1 d.scale)=(-(d.c *65536)).fdiv (Z1 d.scale):=rfl
  rw[X7 (n:=floor (-(d.c *65536)) (Z1 d.scale)) (by rw[e];omega)]
  simp[nz,nzA,nz1,Zh,h0,Iv.enc]
def ZwZ(d:Dec):=(-4611686018427387904:Int)≤IntKind.i64.wrap (d.c * (65536:Int))∧IntKind.i64.wrap (d.c * (65536:Int))≤(4611686018427387904:Int)
theorem Zxa:Zi Tryz.prog 81 e81:=Zj<|Zg fun d=>EZ0<|by
 refine cf0 (Za ZwY<|Za Za2<|Za ZrY<|Za ZpF<|Za ZrR<|Za Zfi<|Ze) (fn:=Tryz.f81) rfl ?_
 refine sxT (fun Q=>(bif !ZM d then Q (PV.agg [vI 0,vI 0,vB true]) else (((0:Int)≤d.scale∧d.scale≤(18:Int))∧((ZwZ d)∧(((0:Int)≤d.scale∧d.scale≤(18:Int))∧((ZwZ d)∧(((-4611686018427387904:Int)≤Z1 d.scale∧Z1 d.scale≤(4611686018427387904:Int))∧((Z1 d.scale≠(0:Int))∧Q (PV.agg (eIv (of (floor (IntKind.i64.wrap (d.c * (65536:Int))) (Z1 d.scale)) (up1 (IntKind.i64.wrap (d.c * (65536:Int))) (Z1 d.scale))))))))))))) (fun _=>by kernel_rfl) ?_
 delta Qn ZwZ eIv vI vB
 refine Zb (fun h0=>?_) (fun h0=>⟨?_,⟨?_,⟨?_,⟨?_,⟨?_,⟨?_, ?_⟩⟩⟩⟩⟩⟩)
 ·simp only[Qi_] at h0
  simp[nz,nzA,nz1,Zh,h0,none',Iv.enc]
 all_goals simp only[Qf_] at h0
 all_goals have hd:=Zct h0
 all_goals have hw:IntKind.i64.wrap (d.c *65536)=d.c *65536:=Zf (by constructor<;>omega)
 all_goals have hp:=ZaQ d.scale
 all_goals have hq:=Zk5 (i:=d.scale) (by omega)
 all_goals try rw[hw]
 ·omega
 ·omega
 ·omega
 ·omega
 ·omega
 ·omega
 ·rw[←Zea (by omega)]
  simp[nz,nzA,nz1,Zh,h0,Iv.enc]
theorem ZnS:Zi Tryz.prog 9 e9:=Zj<|Zg fun n=>Zg fun m=>EZ1 fun hp0=>by
 refine cf0 Ze (fn:=Tryz.f9) rfl ?_
 refine sxT (fun Q=>((m≠(0:Int))∧(bif decide (n.tmod m < (0:Int)) then Q (vI (IntKind.i64.wrap (n.tmod m+m))) else Q (vI (n.tmod m))))) (fun _=>by kernel_rfl) ?_
 delta Qn vI
 refine ⟨?r0,Zb (fun h0=>?_) (fun h0=>?_)⟩
 case r0=>first | rfl | (simp only[Zs,dI,dIv];omega) | (simp[Zd,chunk];done) | (simp only[Zs,dI,dIv];done) | (exact ZH (fun _=>rfl) (by omega) (by omega)) | (simp only[Qc_,Qk_] at *;exact ZH (fun _=>rfl) (by omega) (by omega)) | assumption | trivial | (simp_all;done) | omega
 all_goals simp only[Qc_,Qe_] at h0
 all_goals have hb:=Z38 (n:=n) hp0.1
 ·rw[Zf (by constructor<;>omega)]
  simp[nz,nzA,ZuL hp0.1,h0]
 ·simp[nz,nzA,ZuL hp0.1,h0]
theorem Z5M:Zi Tryz.prog 94 e94:=Zj<|EZ0<|by
 refine cf0 Ze (fn:=Tryz.f94) rfl ?_
 refine sxT (fun Q=>Q (PV.agg [vI 0,vI 0])) (fun _=>by kernel_rfl) ?_
 delta Qn vI
 refine ?_
 all_goals rfl
def Z1K(s:Shape)(r:Ray):=WD (XY r.d) (dot (Zwf r.o (V.mk (Zh s.x) (Zh s.y) (Zh s.z))) r.d) (sub (XY (Zwf r.o (V.mk (Zh s.x) (Zh s.y) (Zh s.z)))) (sqr (Zh s.r)))
theorem Z4X:Zi Tryz.prog 168 Z6Z:=Zj<|Zg fun s=>Zg fun r=>EZ0<|by
 refine cf0 (Za Z4W<|Za Zc0<|Za Z4V<|Za ZzE<|Za ZzD<|Za ZbD<|Za ZbC<|Za ZzC<|Za Ze1<|Za Xe<|Ze) (fn:=Tryz.f168) rfl ?_
 refine sxT (fun Q=>(bif s.kind==(1:Int) then Q (PV.tup [PV.agg (eIv (Z1K s r).fst),vI (Z1K s r).snd]) else (bif s.kind==(2:Int) then (bif !(Zo (sub (Zh s.z) r.o.z) r.d.z).no then Q (PV.tup [PV.agg (eIv (Zo (sub (Zh s.z) r.o.z) r.d.z)),vI 1]) else Q (PV.tup [PV.agg [vI 0,vI 0,vB true],vI 0])) else Q (PV.tup [PV.agg [vI 0,vI 0,vB true],vI 0])))) (fun _=>by kernel_rfl) ?_
 delta Qn Z1K eIv vI vB
 refine Zb (fun h0=>?_) (fun h0=>Zb (fun h1=>Zb (fun h2=>?_) (fun h2=>?_)) (fun h1=>?_))
 all_goals (try simp only[Qi_,Qf_] at *)
 all_goals simp only[meet, *,Qb_,Qd_]
 all_goals first | rfl | (simp[nz,nzA,nz1,Iv.enc, *])
theorem Z4Y:Zi Tryz.prog 131 Z49:=Zj<|Zg fun s=>Zg fun r=>EZ0<|by
 refine cf0 (Za Z4X<|Za Xe<|Ze) (fn:=Tryz.f131) rfl ?_
 refine sxT (fun Q=>(bif (meet s r).snd !=(1:Int) then Q (PV.tup [PV.agg [vI 0,vI 0,vB true],vI (meet s r).snd]) else (bif decide ((meet s r).fst.hi≤(0:Int)) then Q (PV.tup [PV.agg [vI 0,vI 0,vB true],vI 2]) else (bif decide ((meet s r).fst.lo≤(0:Int)) then Q (PV.tup [PV.agg [vI 0,vI 0,vB true],vI 0]) else Q (PV.tup [PV.agg (eIv (meet s r).fst),vI 1]))))) (fun _=>by kernel_rfl) ?_
 delta Qn eIv vI vB
 refine Zb (fun h0=>?_) (fun h0=>Zb (fun h1=>?_) (fun h1=>Zb (fun h2=>?_) (fun h2=>?_)))
 all_goals simp only[bne,Qi_,Qf_] at h0
 all_goals simp only[hit, *,Qb_,Qd_,Qu_,Qt_]
 all_goals rfl
theorem Zxb:Zi Tryz.prog 92 e92:=Zj<|Zg fun n=>EZ0<|by
 refine cf0 Ze (fn:=Tryz.f92) rfl ?_
 refine sxT (fun Q=>(bif decide (n < (0:Int)) then Q (vB true) else Q (vB (decide (n > (255:Int)))))) (fun _=>by kernel_rfl) ?_
 delta Qn vB
 refine Zb (fun h0=>?_) (fun h0=>?_)
 ·simp only[Qc_] at h0
  have:ZX n=false:=by simp[ZX];omega
  rw[this];rfl
 ·simp only[Qe_] at h0
  have e:decide (n > 255)= !decide (n≤255):=by rw[←decide_not];congr 1;simp[Int.not_le]
  have e0:decide (0≤n)=true:=by simp;omega
  simp only[nz,nzA,ZX,e,e0,Qp_]
def Z4Z:=YC [(92,e92)]
theorem ZuX:CSOk Tryz.prog Z4Z:=Za Zxb<|Ze
theorem ZzF:Yt Tryz.prog (Zt Tryz.f123 0) ZkL:=by
 refine Zch Zl.Γ (Z6 Zl ZuX ZA Z7 ZJ (LS:=[]) (ZV (l:=[]) (by kernel_rfl) Zu) (n:=2000) (U3 ZrC) (U3 Zem) (fun x e s=>((U3 JD x=true∧e= .ret∧s=U3 ZgP x)∨(U3 JD x=false∧e= .exit 0∧s=U3 ZkK x))) (fun x=>(x.2.2 - x.1).toNat) ZkJ Zzl Zzm (fun x hx=>?_)) ZkJ ?_
 ·obtain ⟨i,l,n⟩:=x
  simp only[U3,Zem] at hx
  refine sxT (fun Q=>(bif decide (i < n) then (((0:Int)≤i∧(List.map I.enc l)[i.toNat]?=some (ZW [vI 0] ((List.map I.enc l).getD i.toNat [])))∧(bif !ZX (intOf (((List.map I.enc l).getD i.toNat []).headD PV.nil)) then Q (Ex.ret) (some ⟨19,[(4,pI i)],[],[],[],[]⟩) else Q (Ex.normal) (some ⟨19,[(8,AV.p (vI (IntKind.i64.wrap (i+(1:Int))))),(0,AV.p (PV.lst (List.map I.enc l))),(1,AV.p (PV.fn (92:FuncId) [])),(7,pI n)],[],[],[],[]⟩))) else Q (Ex.exit (0:Nat)) (some ⟨19,[],[],[],[],[]⟩))) (fun _=>by kernel_rfl) ?_
  delta vI pI
  refine Zb (fun h0=>⟨?r0,Zb (fun h1=> .inr ⟨by simp,_,rfl, ?_⟩) (fun h1=> .inl ⟨rfl,(IntKind.i64.wrap (i+(1:Int)),l,n),rfl, ?_, ?_, ?_⟩)⟩) (fun h0=> .inr ⟨by simp,_,rfl, ?_⟩)
  case r0=>first | rfl | (simp only[Zs,dI,dIv];omega) | (simp[Zd,chunk];done) | (simp only[Zs,dI,dIv];done) | (exact ZH (fun _=>rfl) (by omega) (by omega)) | (simp only[Qc_,Qk_] at *;exact ZH (fun _=>rfl) (by omega) (by omega))
  all_goals try dsimp only[U3]
  all_goals (try obtain ⟨a1,a2,a3,a4⟩:=hx)
  all_goals (try simp only[Qc_,Qe_] at h0)
  ·obtain ⟨x,r,e1,e2,e3⟩:=Yu (l:=l) a1 (by omega)
   rw[Yz e3] at h1
   refine .inl ⟨?_,rfl, ?_⟩
   ·simp only[U3,JD,e1,QU_]
    rw[show (!ZX x.n)=true from h1];rfl
   ·simp only[U3,ZgP,e1,YM]
    rw[show (!ZX x.n)=true from h1];rfl
  ·rw[Zf (by constructor<;>omega)];simp only[U3,Zem];omega
  ·show (n - IntKind.i64.wrap (i+1)).toNat < (n - i).toNat
   rw[Zf (by constructor<;>omega)];omega
  ·obtain ⟨x,r,e1,e2,e3⟩:=Yu (l:=l) a1 (by omega)
   rw[Yz e3] at h1
   have hp:(!ZX x.n)=false:=h1
   rw[Zf (by constructor<;>omega)]
   simp only[U3,JD,ZgP,ZkK,e1,e2,QU_,hp,Qw_,YM,Qd_]
   exact fun e s h=>h
  ·refine .inr ⟨?_,rfl,rfl⟩
   simp only[U3,JD]
   rw[Q0_ (by omega)];rfl
 ·intro σ K hS
  unfold ZkL at hS
  split at hS
  ·rename_i p1 p2 p3 hk
   obtain ⟨hi,hK⟩:=XW hS
   refine ⟨(p1,(Zd I.dec p2),p3),by
    simp only[ZrC]
    rw[←(show p2=(Zd I.dec p2).map I.enc from hi _ (by simp))]
    exact hk,hi _ (by simp),fun e s hf=>?_⟩
   dsimp only[U3] at hf
   rcases hf with ⟨hc,rfl,rfl⟩ | ⟨hc,hf⟩
   ·rw[hc] at hK;exact hK
   ·rw[hc] at hK;obtain ⟨rfl,rfl⟩:=hf;exact hK
  ·exact hS.elim
theorem Z1L:ZF Tryz.prog [(3,ZkL)] Tryz.f123:=ZN (l:=[Zt Tryz.f123 0]) (by kernel_rfl) (ZE (i:=3) (by kernel_rfl) rfl ZzF (Zu))
def Zsb(l:List I):=Zd I.dec (List.map I.enc l)
theorem Z1M(l:List I)(hp0:l.length≤140737488355328):Con Tryz.prog 123 [.lst (l.map I.enc),.fn 92 []] (.v (.int .i64 (YM (fun x=> !ZX x.n) l 0))):=by
 refine cfL ZuX Z1L rfl ?_
 refine sxT (fun Q=>((List.map I.enc l=List.map I.enc (Zsb l))∧((Zem (0:Int) (Zsb l) ↑(List.map I.enc l).length)∧(bif JD (0:Int) (Zsb l) ↑(List.map I.enc l).length then Q (vI (YM (fun x=> !ZX x.n) (List.drop (0:Nat) (Zsb l)) (0:Int))) else Q (vI (-1)))))) (fun _=>by kernel_rfl) ?_
 delta Qn Zsb vI
 refine ⟨?r0,⟨?_,Zb (fun h0=>?_) (fun h0=>?_)⟩⟩
 case r0=>first | rfl | (simp only[Zs,dI,dIv];omega) | (simp[Zd,chunk];done) | (simp only[Zs,dI,dIv];done)
 all_goals simp only[dI] at *
 ·exact ⟨by omega,by omega,by simp,by simp;omega⟩
 ·simp[nz,nzA]
 ·rw[ZfO (by simpa [JD] using h0)];rfl
theorem Z5a:Zi Tryz.prog 123 Z4A:=by
 intro args r ps h hp
 unfold Z4A at h
 split at h
 ·rename_i p1
  cases (Qa_ h)
  exact by
   have hq:=Z1M (Zd I.dec p1) (hp _ (by simp))
   rw[←(show p1=(Zd I.dec p1).map I.enc from hp _ (by simp))] at hq
   exact hq
 ·exact absurd h (by simp)
theorem Z1N(l:List I)(hp0:l.length≤140737488355328):Con Tryz.prog 91 [.lst (l.map I.enc),.fn 92 []] (.v (.bool (l.any (fun x=> !ZX x.n)))):=by
 refine cf0 (Za Z5a<|Za Zxb<|Ze) (fn:=Tryz.f91) rfl ?_
 refine sxT (fun Q=>((List.map I.enc l=List.map I.enc (Zd I.dec (List.map I.enc l)))∧(((Zd I.dec (List.map I.enc l)).length≤(140737488355328:Nat))∧Q (vB (decide (YM (fun x=> !ZX x.n) (Zd I.dec (List.map I.enc l)) (0:Int)≥(0:Int))))))) (fun _=>by kernel_rfl) ?_
 delta Qn vB
 refine ⟨?r1,⟨?r0, ?_⟩⟩
 case r0|r1=>first | rfl | (simp only[Zs,dI,dIv];omega) | (simp[Zd,chunk];done) | (simp only[Zs,dI,dIv];done)
 simp only[dI] at *
 simp only[nz,nzA]
 rw[ZfP (by omega)]
theorem Z5N:Zi Tryz.prog 91 e91:=by
 intro args r ps h hp
 unfold e91 at h
 split at h
 ·rename_i p1
  cases (Qa_ h)
  exact by
   have hq:=Z1N (Zd I.dec p1) (hp _ (by simp))
   rw[←(show p1=(Zd I.dec p1).map I.enc from hp _ (by simp))] at hq
   exact hq
 ·exact absurd h (by simp)
def Zxc(s:Shape):=[[vI s.glow.a],[vI s.glow.b],[vI s.glow.c]]
theorem Z5O:Zi Tryz.prog 61 e61:=Zj<|Zg fun s=>EZ0<|by
 refine cf0 (Za Z5N<|Za Zxb<|Za Z2I<|Za Z5M<|Ze) (fn:=Tryz.f61) rfl ?_
 refine sxT (fun Q=>(((Zxc s)=List.map I.enc (Zd I.dec (Zxc s)))∧(((3:Nat)≤(140737488355328:Nat))∧(bif (Zd I.dec (Zxc s)).any fun x=> !ZX x.n then Q (vB false) else (bif s.kind==(1:Int) then (bif ZM s.x then (bif ZM s.y then (bif ZM s.z then (bif ZM s.r then Q (vB (decide (s.r.c > (0:Int)))) else Q (vB false)) else Q (vB false)) else Q (vB false)) else Q (vB false)) else (bif s.kind==(2:Int) then (bif ZM s.z then (bif s.x.c==(0:Int)&&(s.x.scale==(0:Int)&&true) then (bif s.y.c==(0:Int)&&(s.y.scale==(0:Int)&&true) then Q (vB (s.r.c==(0:Int)&&(s.r.scale==(0:Int)&&true))) else Q (vB false)) else Q (vB false)) else Q (vB false)) else Q (vB false))))))) (fun _=>by kernel_rfl) ?_
 delta Qn Zxc vI vB
 refine ⟨?r1,⟨?r0,Zb (fun h0=>?_) (fun h0=>Zb (fun h1=>Zb (fun h2=>Zb (fun h3=>Zb (fun h4=>Zb (fun h5=>?_) (fun h5=>?_)) (fun h4=>?_)) (fun h3=>?_)) (fun h2=>?_)) (fun h1=>Zb (fun h2=>Zb (fun h3=>Zb (fun h4=>Zb (fun h5=>?_) (fun h5=>?_)) (fun h4=>?_)) (fun h3=>?_)) (fun h2=>?_)))⟩⟩
 case r0|r1=>first | rfl | (simp only[Zs,dI,dIv];omega) | (simp[Zd,chunk];done)
 all_goals have hg:((Zd I.dec (chunk 1 3 [PV.v (Value.int .i64 s.glow.a),PV.v (Value.int .i64 s.glow.b),PV.v (Value.int .i64 s.glow.c)])).any fun x=> !ZX x.n)= !(ZX s.glow.a&&(ZX s.glow.b&&ZX s.glow.c)):=by simp[Zd,chunk,I.dec,intOf,Bool.not_and]
 ·replace h0:(!(ZX s.glow.a&&(ZX s.glow.b&&ZX s.glow.c)))=true:=by rw[←hg];exact h0
  simp only[Qi_] at h0
  simp only[nz,nzA,ZL,h0,Ql_]
 all_goals replace h0:(!(ZX s.glow.a&&(ZX s.glow.b&&ZX s.glow.c)))=false:=by rw[←hg];exact h0
 all_goals simp only[Qf_] at h0
 all_goals clear hg
 all_goals simp only[nz,nzA,ZL,YF,Qr_, *,Qp_,Ql_,Qn_,Qb_,Qd_] at *
 all_goals first | rfl | (simp_all;done)
theorem Zxd:Zi Tryz.prog 60 e60:=Zj<|Zg fun s=>EZ0<|by
 refine cf0 (Za Z5O<|Ze) (fn:=Tryz.f60) rfl ?_
 refine sxT (fun Q=>Q (vB (!ZL s))) (fun _=>by kernel_rfl) ?_
 delta Qn vB
 refine ?_
 all_goals rfl
def Z5b:=YC [(60,e60)]
theorem ZuY:CSOk Tryz.prog Z5b:=Za Zxd<|Ze
theorem ZzG:Yt Tryz.prog (Zt Tryz.f90 0) ZkO:=by
 refine Zch Zl.Γ (Z6 Zl ZuY ZA Z7 ZJ (LS:=[]) (ZV (l:=[]) (by kernel_rfl) Zu) (n:=2000) (U3 ZrD) (U3 Zeo) (fun x e s=>((U3 JE x=true∧e= .ret∧s=U3 ZgQ x)∨(U3 JE x=false∧e= .exit 0∧s=U3 ZkN x))) (fun x=>(x.2.2 - x.1).toNat) ZkM Zzn Zzo (fun x hx=>?_)) ZkM ?_
 ·obtain ⟨i,l,n⟩:=x
  simp only[U3,Zeo] at hx
  refine sxT (fun Q=>(bif decide (i < n) then (((0:Int)≤i∧(List.map Shape.enc l)[i.toNat]?=some (ZW [vI 0,vI 0,vI 0,vI 0,vI 0,vI 0,vI 0,vI 0,vI 0,vI 0,vI 0,vI 0] ((List.map Shape.enc l).getD i.toNat [])))∧(bif !ZL (Shape.dec ((List.map Shape.enc l).getD i.toNat [])) then Q (Ex.ret) (some ⟨19,[(4,pI i)],[],[],[],[]⟩) else Q (Ex.normal) (some ⟨19,[(8,AV.p (vI (IntKind.i64.wrap (i+(1:Int))))),(0,AV.p (PV.lst (List.map Shape.enc l))),(1,AV.p (PV.fn (60:FuncId) [])),(7,pI n)],[],[],[],[]⟩))) else Q (Ex.exit (0:Nat)) (some ⟨19,[],[],[],[],[]⟩))) (fun _=>by kernel_rfl) ?_
  delta vI pI
  refine Zb (fun h0=>⟨?r0,Zb (fun h1=> .inr ⟨by simp,_,rfl, ?_⟩) (fun h1=> .inl ⟨rfl,(IntKind.i64.wrap (i+(1:Int)),l,n),rfl, ?_, ?_, ?_⟩)⟩) (fun h0=> .inr ⟨by simp,_,rfl, ?_⟩)
  case r0=>first | rfl | (simp only[Zs,dI,dIv];omega) | (simp[Zd,chunk];done) | (simp only[Zs,dI,dIv];done) | (exact ZH (fun _=>rfl) (by omega) (by omega)) | (simp only[Qc_,Qk_] at *;exact ZH (fun _=>rfl) (by omega) (by omega))
  all_goals try dsimp only[U3]
  all_goals (try obtain ⟨a1,a2,a3,a4⟩:=hx)
  all_goals (try simp only[Qc_,Qe_] at h0)
  ·obtain ⟨x,r,e1,e2,e3⟩:=Yu (l:=l) a1 (by omega)
   rw[Yz e3] at h1
   refine .inl ⟨?_,rfl, ?_⟩
   ·simp only[U3,JE,e1,QU_]
    rw[show (!ZL x)=true from h1];rfl
   ·simp only[U3,ZgQ,e1,YM]
    rw[show (!ZL x)=true from h1];rfl
  ·rw[Zf (by constructor<;>omega)];simp only[U3,Zeo];omega
  ·show (n - IntKind.i64.wrap (i+1)).toNat < (n - i).toNat
   rw[Zf (by constructor<;>omega)];omega
  ·obtain ⟨x,r,e1,e2,e3⟩:=Yu (l:=l) a1 (by omega)
   rw[Yz e3] at h1
   have hp:(!ZL x)=false:=h1
   rw[Zf (by constructor<;>omega)]
   simp only[U3,JE,ZgQ,ZkN,e1,e2,QU_,hp,Qw_,YM,Qd_]
   exact fun e s h=>h
  ·refine .inr ⟨?_,rfl,rfl⟩
   simp only[U3,JE]
   rw[Q0_ (by omega)];rfl
 ·intro σ K hS
  unfold ZkO at hS
  split at hS
  ·rename_i p1 p2 p3 hk
   obtain ⟨hi,hK⟩:=XW hS
   refine ⟨(p1,(Zd Shape.dec p2),p3),by
    simp only[ZrD]
    rw[←(show p2=(Zd Shape.dec p2).map Shape.enc from hi _ (by simp))]
    exact hk,hi _ (by simp),fun e s hf=>?_⟩
   dsimp only[U3] at hf
   rcases hf with ⟨hc,rfl,rfl⟩ | ⟨hc,hf⟩
   ·rw[hc] at hK;exact hK
   ·rw[hc] at hK;obtain ⟨rfl,rfl⟩:=hf;exact hK
  ·exact hS.elim
theorem Z1O:ZF Tryz.prog [(3,ZkO)] Tryz.f90:=ZN (l:=[Zt Tryz.f90 0]) (by kernel_rfl) (ZE (i:=3) (by kernel_rfl) rfl ZzG (Zu))
def Zsc(l:List Shape):=Zd Shape.dec (List.map Shape.enc l)
theorem Z1P(l:List Shape)(hp0:l.length≤140737488355328):Con Tryz.prog 90 [.lst (l.map Shape.enc),.fn 60 []] (.v (.int .i64 (YM (fun s=> !ZL s) l 0))):=by
 refine cfL ZuY Z1O rfl ?_
 refine sxT (fun Q=>((List.map Shape.enc l=List.map Shape.enc (Zsc l))∧((Zeo (0:Int) (Zsc l) ↑(List.map Shape.enc l).length)∧(bif JE (0:Int) (Zsc l) ↑(List.map Shape.enc l).length then Q (vI (YM (fun s=> !ZL s) (List.drop (0:Nat) (Zsc l)) (0:Int))) else Q (vI (-1)))))) (fun _=>by kernel_rfl) ?_
 delta Qn Zsc vI
 refine ⟨?r0,⟨?_,Zb (fun h0=>?_) (fun h0=>?_)⟩⟩
 case r0=>first | rfl | (simp only[Zs,dI,dIv];omega) | (simp[Zd,chunk];done) | (simp only[Zs,dI,dIv];done)
 all_goals simp only[Zs] at *
 ·exact ⟨by omega,by omega,by simp,by simp;omega⟩
 ·simp[nz,nzA]
 ·rw[ZfO (by simpa [JE] using h0)];rfl
theorem Z5P:Zi Tryz.prog 90 e90:=by
 intro args r ps h hp
 unfold e90 at h
 split at h
 ·rename_i p1
  cases (Qa_ h)
  exact by
   have hq:=Z1P (Zd Shape.dec p1) (hp _ (by simp))
   rw[←(show p1=(Zd Shape.dec p1).map Shape.enc from hp _ (by simp))] at hq
   exact hq
 ·exact absurd h (by simp)
theorem Z1Q(l:List Shape)(hp0:l.length≤140737488355328):Con Tryz.prog 59 [.lst (l.map Shape.enc),.fn 60 []] (.v (.bool (l.any (fun s=> !ZL s)))):=by
 refine cf0 (Za Z5P<|Za Zxd<|Ze) (fn:=Tryz.f59) rfl ?_
 refine sxT (fun Q=>((List.map Shape.enc l=List.map Shape.enc (Zd Shape.dec (List.map Shape.enc l)))∧(((Zd Shape.dec (List.map Shape.enc l)).length≤(140737488355328:Nat))∧Q (vB (decide (YM (fun s=> !ZL s) (Zd Shape.dec (List.map Shape.enc l)) (0:Int)≥(0:Int))))))) (fun _=>by kernel_rfl) ?_
 delta Qn vB
 refine ⟨?r1,⟨?r0, ?_⟩⟩
 case r0|r1=>first | rfl | (simp only[Zs,dI,dIv];omega) | (simp[Zd,chunk];done) | (simp only[Zs,dI,dIv];done)
 simp only[Zs] at *
 simp only[nz,nzA]
 rw[ZfP (by omega)]
theorem Z5Q:Zi Tryz.prog 59 e59:=by
 intro args r ps h hp
 unfold e59 at h
 split at h
 ·rename_i p1
  cases (Qa_ h)
  exact by
   have hq:=Z1Q (Zd Shape.dec p1) (hp _ (by simp))
   rw[←(show p1=(Zd Shape.dec p1).map Shape.enc from hp _ (by simp))] at hq
   exact hq
 ·exact absurd h (by simp)
theorem Z5R:Zi Tryz.prog 31 e31:=Zj<|Zg fun l=>EZ1 fun hp0=>by
 refine cf0 (Za Z5Q<|Za Zxd<|Ze) (fn:=Tryz.f31) rfl ?_
 refine sxT (fun Q=>(bif decide (↑(List.map Shape.enc l).length≤(8:Int)) then ((List.map Shape.enc l=List.map Shape.enc (Zd Shape.dec (List.map Shape.enc l)))∧(((Zd Shape.dec (List.map Shape.enc l)).length≤(140737488355328:Nat))∧Q (vB (!(Zd Shape.dec (List.map Shape.enc l)).any fun s=> !ZL s)))) else Q (vB false))) (fun _=>by kernel_rfl) ?_
 delta Qn vB
 refine Zb (fun h0=>⟨?r1,⟨?r0, ?_⟩⟩) (fun h0=>?_)
 case r0|r1=>first | rfl | (simp only[Zs,dI,dIv];omega) | (simp[Zd,chunk];done) | (simp only[Zs,dI,dIv];done)
 all_goals simp only[Zs,Qc_,Qe_,Qk_] at *
 ·have e:decide (l.length≤8)=true:=by simp;omega
  have e2:(!l.any fun s=> !ZL s)=l.all ZL:=by rw[List.all_eq_not_any_not]
  simp only[nz,nzA,YQ,e,e2,Qp_]
 ·have e:decide (l.length≤8)=false:=by simp;omega
  simp only[nz,nzA,YQ,e,Ql_]
def Z1R(d:Dec)(z:Dec):Option St:=some ⟨27,[(4,AV.ptr 4 0),(5,AV.ptr 5 0)],[(4,(ZnH z)),(5,(ZnH d))],[],[],[]⟩
theorem ZuZ:CSOk Tryz.prog (YC []):=Ze
theorem ZzH:Yt Tryz.prog (Zt Tryz.f25 0) ZrF:=by
 refine lsG Zl.Γ (Z6 Zl ZuZ ZA Z7 ZJ (LS:=[]) (ZV (l:=[]) (by kernel_rfl) Zu) (n:=2000) (U2 Z12) (U2 Zeq) (fun x e s=>(e= .exit 0∧s=U2 Zep x)) (fun x=>x.1.scale.toNat) ZrE Zzp Zzq (fun x hx=>?_)) cv2 (fun _=>rfl) (fun _ h=>h) (fun _ _ _ _ h f=>fE h f)
 ·obtain ⟨d,z⟩:=x
  simp only[U2,Zeq] at hx
  refine sxT (fun Q=>(bif decide (d.scale > (0:Int)) then (((10:Int)≠(0:Int))∧(bif d.c.tmod (10:Int)==(0:Int) then (((10:Int)≠(0:Int))∧Q (Ex.normal) (some ⟨27,[(5,AV.ptr 5 0),(4,AV.ptr 4 0)],[(5,[vI (IntKind.i64.wrap (d.c.tdiv (10:Int))),vI (IntKind.i64.wrap (d.scale - (1:Int)))]),(4,(ZnH z))],[],[],[]⟩)) else Q (Ex.exit (0:Nat)) (Z1R d z))) else Q (Ex.exit (0:Nat)) (Z1R d z))) (fun _=>by kernel_rfl) ?_
  delta Z1R ZnH vI vB
  refine Zb (fun h0=>⟨?r1,Zb (fun h1=>⟨?r0,.inl ⟨rfl,(⟨IntKind.i64.wrap (d.c.tdiv (10:Int)),IntKind.i64.wrap (d.scale - (1:Int))⟩,z),rfl, ?_, ?_, ?_⟩⟩) (fun h1=> .inr ⟨by simp,_,rfl, ?_⟩)⟩) (fun h0=> .inr ⟨by simp,_,rfl, ?_⟩)
  case r0|r1=>first | rfl | (simp only[Zs,dI,dIv];omega) | (simp[Zd,chunk];done)
  all_goals try dsimp only[U2]
  all_goals (try simp only[Qc_,Qe_] at h0)
  ·rw[Zf (show Fit (d.scale - 1) by constructor<;>omega)];simp only[U2,Zeq];omega
  ·show (IntKind.i64.wrap (d.scale - 1)).toNat < d.scale.toNat
   rw[Zf (by constructor<;>omega)];omega
  ·simp only[beq_iff_eq] at h1
   simp only[U2,Zep]
   rw[ZyL h0 hx.2 h1]
   exact fun e s h=>h
  ·simp only[beq_eq_false_iff_ne] at h1
   exact ⟨rfl,by simp only[U2,Zep];rw[Zrs (fun h=>h1 h.2)]⟩
  ·exact ⟨rfl,by simp only[U2,Zep];rw[Zrs (fun h=>h0 h.1)]⟩
theorem Z1S:ZF Tryz.prog [(3,ZrF)] Tryz.f25:=ZN (l:=[Zt Tryz.f25 0]) (by kernel_rfl) (ZE (i:=3) (by kernel_rfl) rfl ZzH (Zu))
theorem Z2J:Zi Tryz.prog 25 e25:=Zj<|Zg fun c=>Zg fun scale=>EZ1 fun hp0=>by
 refine cfL ZuZ Z1S rfl ?_
 refine sxT (fun Q=>((Zeq (Dec.mk c scale) (Dec.mk (0:Int) (0:Int)))∧Q (PV.agg (ZnH (hdec scale.toNat c scale))))) (fun _=>by kernel_rfl) ?_
 delta Qn ZnH vI vB
 refine ⟨?_, ?_⟩
 ·exact hp0
 ·rfl
def Z3J:=YC [(64,e64),(131,Z49)]
def Zhd(l:List Shape):=List.map Shape.enc l
def Zfk(k:Int)(l:List Shape)(r:Ray):=hit (Shape.dec ((Zhd l).getD k.toNat [])) r
def Zxe(k:Int)(l:List Shape)(all:List Iv)(r:Ray):=(0:Nat) < (1:Nat)∧((List.map Iv.enc all).length+(1:Nat))* (24:Nat)≤(140737488355328:Nat)∧Lens (3:Nat) (List.map Iv.enc all++[(eIv (Zfk k l r).fst)])
def ZpV(k:Int):=vI (IntKind.i64.wrap (k+(1:Int)))
def ZpW:=[(Loc.t (nat_lit 9),nat_lit 26)]
def Zxf(k:Int)(n:Int)(l:List Shape)(all:List Iv)(z:Iv)(r:Ray)(Q:Ex→Option St→Prop):Prop:=(Zxe k l all r)∧Q (Ex.normal) (some ⟨80,[(20,AV.p (ZpV k)),(19,pI n),(18,AV.p (PV.lst (Zhd l))),(9,AV.p (PV.lst (List.map Iv.enc all++[(eIv (Zfk k l r).fst)]))),(7,pI k),(8,AV.ptr 8 0),(5,AV.ptr 5 0),(3,AV.ptr 3 0)],[(8,(eIv (Zfk k l r).fst)),(5,(eIv z)),(3,(Zcm r))],[],ZpW,[]⟩)
theorem Zla:CSOk Tryz.prog Z3J:=Za Xe<|Za Z4Y<|Ze
theorem Zxg:Yt Tryz.prog (Zt Tryz.f102 0) Zo7:=by
 refine lsG Zl.Γ (Z6 Zl Zla ZA Z7 ZJ (LS:=[]) (ZV (l:=[]) (by kernel_rfl) Zu) (n:=2000) (U8 ZeZ) (U8 ZcO) (fun x e s=>((U8 ZaV x=true∧e= .ret∧s=U8 Zit x)∨(U8 ZaV x=false∧e= .exit 0∧s=U8 Zis x))) (fun x=>(x.2.1 - x.1).toNat) Zo6 Zw0 Zw1 (fun x hx=>?_)) cv8 (fun _=>rfl) (fun _ h=>h) (fun _ _ _ _ h f=>fC h f fE fE)
 ·obtain ⟨k,n,l,all,best,at1,z,r⟩:=x
  simp only[U8,ZcO] at hx
  refine sxT (fun Q=>(bif decide (k < n) then (((0:Int)≤k∧(Zhd l)[k.toNat]?=some (ZW [vI 0,vI 0,vI 0,vI 0,vI 0,vI 0,vI 0,vI 0,vI 0,vI 0,vI 0,vI 0] ((Zhd l).getD k.toNat [])))∧(bif (Zfk k l r).snd==(0:Int) then Q (Ex.ret) (some ⟨80,[(4,AV.p (vI (-1))),(5,AV.ptr 5 0),(6,pI 0)],[(5,[vI 0,vI 0,vB true])],[],[],[]⟩) else (bif (Zfk k l r).snd==(2:Int) then Q (Ex.normal) (some ⟨80,[(20,AV.p (ZpV k)),(19,pI n),(18,AV.p (PV.lst (Zhd l))),(9,AV.p (PV.lst (List.map Iv.enc all))),(7,pI best),(8,AV.ptr 8 0),(5,AV.ptr 5 0),(3,AV.ptr 3 0)],[(8,(eIv at1)),(5,(eIv z)),(3,(Zcm r))],[],ZpW,[]⟩) else (bif decide (best < (0:Int)) then (Zxf k n l all z r Q) else (bif decide ((Zfk k l r).fst.hi < at1.hi) then (Zxf k n l all z r Q) else ((Zxe k l all r)∧Q (Ex.normal) (some ⟨80,[(20,AV.p (ZpV k)),(19,pI n),(18,AV.p (PV.lst (Zhd l))),(9,AV.p (PV.lst (List.map Iv.enc all++[(eIv (Zfk k l r).fst)]))),(7,pI best),(8,AV.ptr 8 0),(5,AV.ptr 5 0),(3,AV.ptr 3 0)],[(8,(eIv at1)),(5,(eIv z)),(3,(Zcm r))],[],ZpW,[]⟩))))))) else Q (Ex.exit (0:Nat)) (some ⟨80,[(5,AV.ptr 5 0),(8,AV.ptr 8 0),(7,pI best),(9,AV.p (PV.lst (List.map Iv.enc all)))],[(8,(eIv at1)),(5,(eIv z))],[],[],[]⟩))) (fun _=>by kernel_rfl) ?_
  delta Zxf Zfk Zxe ZpW ZpV Zhd eIv Zcm vI vB pI
  refine Zb (fun h0=>⟨?r3,Zb (fun h1=> .inr ⟨by simp,_,rfl, ?_⟩) (fun h1=>Zb (fun h2=> .inl ⟨rfl,(IntKind.i64.wrap (k+(1:Int)),n,l,all,best,at1,z,r),rfl, ?_, ?_, ?_⟩) (fun h2=>Zb (fun h3=>⟨?r0,.inl ⟨rfl,(IntKind.i64.wrap (k+(1:Int)),n,l,(all++[(hit (Shape.dec ((List.map Shape.enc l).getD k.toNat [])) r).fst]),k,(hit (Shape.dec ((List.map Shape.enc l).getD k.toNat [])) r).fst,z,r),by simp only[U8,ZeZ,QR_,QE_,QN_];rfl, ?_, ?_, ?_⟩⟩) (fun h3=>Zb (fun h4=>⟨?r1,.inl ⟨rfl,(IntKind.i64.wrap (k+(1:Int)),n,l,(all++[(hit (Shape.dec ((List.map Shape.enc l).getD k.toNat [])) r).fst]),k,(hit (Shape.dec ((List.map Shape.enc l).getD k.toNat [])) r).fst,z,r),by simp only[U8,ZeZ,QR_,QE_,QN_];rfl, ?_, ?_, ?_⟩⟩) (fun h4=>⟨?r2,.inl ⟨rfl,(IntKind.i64.wrap (k+(1:Int)),n,l,(all++[(hit (Shape.dec ((List.map Shape.enc l).getD k.toNat [])) r).fst]),best,at1,z,r),by simp only[U8,ZeZ,QR_,QE_,QN_];rfl, ?_, ?_, ?_⟩⟩))))⟩) (fun h0=> .inr ⟨by simp,_,rfl, ?_⟩)
  case r0|r1|r2|r3=>first | rfl | (simp only[Zs,dI,dIv];done) | skip;(try simp only[Qk_] at *);(try simp only[Qc_] at h0);first | omega | (exact ZH (fun _=>rfl) (by omega) (by omega)) | (exact ⟨by omega,by omega,Wa (XZ (e:=Iv.enc) (fun _=>rfl) _) rfl⟩)
  all_goals try dsimp only[U8]
  all_goals obtain ⟨⟨a1,a2,a3,a4⟩,a5⟩:=hx
  all_goals (try simp only[Qc_,Qe_] at h0)
  all_goals first | (have hk:k < n:=h0;obtain ⟨x,t,e1,e2,e3⟩:=Yu (l:=l) a1 (by omega);(try simp only[Yz e3,Z5G] at *)) | skip
  all_goals try simp only[U8,ZcO,ZaV,Zit,Zis]
  all_goals try rw[Zf (show Fit (k+1) by constructor<;>omega)]
  ·exact .inl ⟨by simp only[unsure,e1,QU_,h1,Q4_],by trivial,rfl⟩
  ·exact ⟨⟨by omega,by omega,a3,a4⟩,by omega⟩
  ·omega
  ·simp only[unsure,e1,e2,QU_,h1,Qw_,Yl,h2,Qb_]
   exact fun e s h=>h
  ·simp only[Qx_,Qs_,Q1_];exact ⟨⟨by omega,by omega,a3,a4⟩,by omega⟩
  ·omega
  ·simp only[unsure,e1,e2,QU_,h1,Qw_,Yl,h2,h3,Q4_,Qb_,Qd_]
   exact fun e s h=>h
  ·simp only[Qx_,Qs_,Q1_];exact ⟨⟨by omega,by omega,a3,a4⟩,by omega⟩
  ·omega
  ·simp only[unsure,e1,e2,QU_,h1,Qw_,Yl,h2,h3,h4,Qw_,Qb_,Qd_]
   exact fun e s h=>h
  ·simp only[Qx_,Qs_,Q1_];exact ⟨⟨by omega,by omega,a3,a4⟩,by omega⟩
  ·omega
  ·simp only[unsure,e1,e2,QU_,h1,Qw_,Yl,h2,h3,h4,Qw_,Qd_]
   exact fun e s h=>h
  ·exact .inr ⟨by rw[Q0_ (by omega)];rfl,by trivial,by rw[Q0_ (by omega)];rfl⟩
theorem Zua:Yt Tryz.prog (Zt Tryz.f102 1) Zmi:=by
 refine lsG Zl.Γ (Z6 Zl Zla ZA Z7 ZJ (LS:=[]) (ZV (l:=[]) (by kernel_rfl) Zu) (n:=2000) (U8 Zw2) (U8 Zb2) (fun x e s=>(e= .exit 3∧s=U8 ZgS x)) (fun x=>(x.2.1 - x.1).toNat) Zmh ZtR ZtS (fun x hx=>?_)) cv8 (fun _=>rfl) (fun _ h=>h) (fun _ _ _ _ h f=>fE h f)
 ·obtain ⟨i,n,all,near,best,al2,at1,z⟩:=x
  simp only[U8,Zb2] at hx
  refine sxT (fun Q=>(bif decide (i < n) then (((0:Int)≤i∧(List.map Iv.enc all)[i.toNat]?=some (ZW [vI 0,vI 0,vB false] ((List.map Iv.enc all).getD i.toNat [])))∧(bif decide (at1.hi < intOf (((List.map Iv.enc all).getD i.toNat []).headD PV.nil)) then Q (Ex.normal) (some ⟨80,[(60,AV.p (vI (IntKind.i64.wrap (i+(1:Int))))),(59,pI n),(58,AV.p (PV.lst (List.map Iv.enc all))),(14,AV.p (vI (IntKind.i64.wrap (near+(1:Int))))),(5,AV.ptr 5 0),(7,pI best),(8,AV.ptr 8 0),(9,AV.p (PV.lst (List.map Iv.enc al2)))],[(8,(eIv at1)),(5,(eIv z))],[],[],[]⟩) else Q (Ex.normal) (some ⟨80,[(60,AV.p (vI (IntKind.i64.wrap (i+(1:Int))))),(59,pI n),(58,AV.p (PV.lst (List.map Iv.enc all))),(14,pI near),(5,AV.ptr 5 0),(7,pI best),(8,AV.ptr 8 0),(9,AV.p (PV.lst (List.map Iv.enc al2)))],[(8,(eIv at1)),(5,(eIv z))],[],[],[]⟩))) else Q (Ex.exit (3:Nat)) (some ⟨80,[(5,AV.ptr 5 0),(7,pI best),(8,AV.ptr 8 0),(9,AV.p (PV.lst (List.map Iv.enc al2))),(14,pI near)],[(8,(eIv at1)),(5,(eIv z))],[],[],[]⟩))) (fun _=>by kernel_rfl) ?_
  delta eIv vI vB pI
  refine Zb (fun h0=>⟨?r0,Zb (fun h1=> .inl ⟨rfl,(IntKind.i64.wrap (i+(1:Int)),n,all,IntKind.i64.wrap (near+(1:Int)),best,al2,at1,z),rfl, ?_, ?_, ?_⟩) (fun h1=> .inl ⟨rfl,(IntKind.i64.wrap (i+(1:Int)),n,all,near,best,al2,at1,z),rfl, ?_, ?_, ?_⟩)⟩) (fun h0=> .inr ⟨by simp,_,rfl, ?_⟩)
  case r0=>first | rfl | (simp only[Zs,dI,dIv];done) | skip;(try simp only[Qk_] at *);(try simp only[Qc_] at h0);first | omega | (exact ZH (fun _=>rfl) (by omega) (by omega))
  all_goals try dsimp only[U8]
  all_goals obtain ⟨⟨a1,a2,a3,a4,a5,a6⟩,a7⟩:=hx
  all_goals (try simp only[Qc_,Qe_] at h0)
  all_goals first | (have hk:i < n:=h0;obtain ⟨x,t,e1,e2,e3⟩:=Yu (l:=all) a1 (by omega);(try simp only[Yz e3,Z5H] at *)) | skip
  all_goals try simp only[U8,Zb2,ZgS]
  all_goals try rw[Zf (show Fit (i+1) by constructor<;>omega)]
  all_goals try rw[Zf (show Fit (near+1) by constructor<;>omega)]
  ·exact ⟨⟨by omega,by omega,a3,a4,by omega,by omega⟩,a7⟩
  ·omega
  ·have h1':decide (at1.hi < x.lo)=true:=h1
   simp only[e1,e2,behind,h1',Qb_]
   rw[show near+(behind at1 t+1)=near+1+behind at1 t by omega]
   exact fun e s h=>h
  ·exact ⟨⟨by omega,by omega,a3,a4,by omega,by omega⟩,a7⟩
  ·omega
  ·have h1':decide (at1.hi < x.lo)=false:=h1
   simp only[e1,e2,behind,h1',Qd_]
   exact fun e s h=>h
  ·exact ⟨by trivial,by rw[Q0_ (by omega)];simp only[behind,Int.add_zero]⟩
theorem ZzI:ZF Tryz.prog [(5,Zo7),(19,Zmi)] Tryz.f102:=ZN (l:=[Zt Tryz.f102 0,Zt Tryz.f102 1]) (by kernel_rfl) (ZE (i:=5) (by kernel_rfl) rfl Zxg (ZE (i:=19) (by kernel_rfl) rfl Zua (Zu)))
def Zms(l:List Shape):=Zd Shape.dec (List.map Shape.enc l)
def ZbE(l:List Shape)(r:Ray):=Yl r (List.drop (0:Nat) (Zms l)) (0:Int) (-1:Int) none' (Zd Iv.dec [])
def Zhe(l:List Shape)(r:Ray):=Zd Iv.dec (List.map Iv.enc (ZbE l r).snd.snd)
def Zmt:=Iv.mk (0:Int) (0:Int) false
def Zsd:=PV.tup [vI (-1),PV.agg [vI 0,vI 0,vB true],vI 0]
theorem Z5c:Zi Tryz.prog 102 Z7a:=Zj<|Zg fun l=>Zg fun r=>EZ1 fun hp0=>by
 refine cfL Zla ZzI rfl ?_
 refine sxT (fun Q=>((List.map Shape.enc l=List.map Shape.enc (Zms l))∧(([]=List.map Iv.enc (Zd Iv.dec []))∧((ZcO (0:Int) (↑(List.map Shape.enc l).length) (Zms l) (Zd Iv.dec []) (-1:Int) none' Zmt r)∧(bif ZaV (0:Int) (↑(List.map Shape.enc l).length) (Zms l) (Zd Iv.dec []) (-1:Int) none' Zmt r then Q Zsd else (bif decide ((ZbE l r).fst < (0:Int)) then Q (PV.tup [vI (-1),PV.agg [vI 0,vI 0,vB true],vI 2]) else ((List.map Iv.enc (ZbE l r).snd.snd=List.map Iv.enc (Zhe l r))∧((List.map Iv.enc (ZbE l r).snd.snd=List.map Iv.enc (Zhe l r))∧((Zb2 (0:Int) (↑(List.map Iv.enc (ZbE l r).snd.snd).length) (Zhe l r) (0:Int) (ZbE l r).fst (Zhe l r) (ZbE l r).snd.fst Zmt)∧(bif decide (IntKind.i64.wrap ((0:Int)+behind (ZbE l r).snd.fst (List.drop (0:Nat) (Zhe l r))+(1:Int)) < ↑(List.map Iv.enc (Zhe l r)).length) then Q Zsd else Q (PV.tup [vI (ZbE l r).fst,PV.agg (eIv (ZbE l r).snd.fst),vI 1]))))))))))) (fun _=>by kernel_rfl) ?_
 delta Qn ZbE Zhe Zms Zmt Zsd eIv vI vB
 refine ⟨?r3,⟨?r2,⟨?_,Zb (fun h0=>?_) (fun h0=>Zb (fun h1=>?_) (fun h1=>⟨?r1,⟨?r0,⟨?_,Zb (fun h2=>?_) (fun h2=>?_)⟩⟩⟩))⟩⟩⟩
 case r0|r1|r2|r3=>first | rfl | (simp only[Zs,dI,dIv];done)
 all_goals simp only[Zs,dIv,Qk_,QO_,QG_,Int.zero_add,ZaV,show Zd Iv.dec []=[] from rfl] at *
 ·exact ⟨⟨by omega,by omega,rfl,by omega⟩,by simp⟩
 ·simp only[nearest,h0,Qb_];rfl
 ·simp only[nearest,h0,h1,Qb_,Qd_];rfl
 ·have hl:=Zbs r l 0 (-1) none' []
  simp only[Q1_] at hl
  exact ⟨⟨by omega,by omega,rfl,by omega,by omega,by omega⟩,rfl⟩
 all_goals have hl:=Zbs r l 0 (-1) none' []
 all_goals have hb:=Zid (Yl r l 0 (-1) none' []).2.1 (Yl r l 0 (-1) none' []).2.2
 all_goals simp only[Q1_] at hl
 all_goals rw[Zf (by constructor<;>omega)] at h2
 ·simp only[nearest,h0,h1,h2,Qb_,Qd_];rfl
 ·simp only[nearest,h0,h1,h2,Qb_,Qd_];rfl
theorem Z5d:Zi Tryz.prog 125 Z7b:=Zj<|Zg fun a=>Zg fun b=>EZ0<|by
 refine cf0 (Za ZiD<|Za Xe<|Za Zac<|Ze) (fn:=Tryz.f125) rfl ?_
 refine sxT (fun Q=>(bif !both a b then Q (PV.agg [vI 0,vI 0,vB true]) else Q (PV.agg (eIv (of (List.foldl imin a.lo [b.lo]) (List.foldl imax a.hi [b.hi])))))) (fun _=>by kernel_rfl) ?_
 delta Qn eIv vI vB
 refine Zb (fun h0=>?_) (fun h0=>?_)
 all_goals (try simp only[Qi_,Qf_] at *)
 all_goals simp only[Zaq,List.foldl,ZK,ZC, *,Qb_,Qd_]
 all_goals rfl
theorem Z5e:Zi Tryz.prog 219 Z4B:=Zj<|Zg fun a=>Zg fun b=>EZ0<|by
 refine cf0 (Za ZiD<|Za Xe<|Za Zac<|Ze) (fn:=Tryz.f219) rfl ?_
 refine sxT (fun Q=>(bif !both a b then Q (PV.agg [vI 0,vI 0,vB true]) else Q (PV.agg (eIv (of (List.foldl imax a.lo [b.lo]) (List.foldl imin a.hi [b.hi])))))) (fun _=>by kernel_rfl) ?_
 delta Qn eIv vI vB
 refine Zb (fun h0=>?_) (fun h0=>?_)
 all_goals (try simp only[Qi_,Qf_] at *)
 all_goals simp only[Jo,List.foldl,ZK,ZC, *,Qb_,Qd_]
 all_goals rfl
theorem ZzJ:Zi Tryz.prog 218 Z4C:=Zj<|Zg fun a=>EZ0<|by
 refine cf0 (Za Zab<|Ze) (fn:=Tryz.f218) rfl ?_
 refine sxT (fun Q=>(bif !right a then Q (vI 0) else (((0:Int)≤(1:Int))∧Q (vI ((IntKind.i64.wrap (a.lo+a.hi)).fdiv (2:Int)))))) (fun _=>by kernel_rfl) ?_
 delta Qn vI
 refine Zb (fun h0=>?_) (fun h0=>⟨?r0, ?_⟩)
 case r0=>first | rfl | (simp only[Zs,dI,dIv];omega) | (simp[Zd,chunk];done)
 all_goals (try simp only[Qi_,Qf_] at *)
 all_goals simp only[ZI, *,Qb_,Qd_]
 ·rfl
 ·have hb:=Xh h0
  rw[Zf (by constructor<;>omega)];rfl
theorem Z5f:Zi Tryz.prog 220 Z4D:=Zj<|Zg fun a=>EZ0<|by
 refine cf0 (Za Zab<|Za Xe<|Za ZzJ<|Za Zac<|Ze) (fn:=Tryz.f220) rfl ?_
 refine sxT (fun Q=>(bif !right a then Q (PV.tup [PV.agg [vI 0,vI 0,vB true],PV.agg [vI 0,vI 0,vB true]]) else Q (PV.tup [PV.agg (eIv (of a.lo (ZI a))),PV.agg (eIv (of (ZI a) a.hi))]))) (fun _=>by kernel_rfl) ?_
 delta Qn eIv vI vB
 refine Zb (fun h0=>?_) (fun h0=>?_)
 all_goals (try simp only[Qi_,Qf_,bne] at *)
 all_goals (simp only[YG,ZK,ZC,List.foldl,Qr_,Qp_,Ql_,Qn_,Q5_,Q4_,Qw_,Q3_,Qu_,Qt_,Qb_,Qd_,QD_,Q8_, *];rfl)
theorem ZzK:Zi Tryz.prog 196 Z7c:=Zj<|Zg fun a=>Zg fun b=>EZ0<|by
 refine cf0 (Za Zas<|Za Zc0<|Ze) (fn:=Tryz.f196) rfl ?_
 refine sxT (fun Q=>Q (PV.agg [vI (add a.x b.x).lo,vI (add a.x b.x).hi,vB (add a.x b.x).no,vI (add a.y b.y).lo,vI (add a.y b.y).hi,vB (add a.y b.y).no,vI (add a.z b.z).lo,vI (add a.z b.z).hi,vB (add a.z b.z).no])) (fun _=>by kernel_rfl) ?_
 delta Qn vI vB
 refine ?_
 all_goals rfl
theorem ZzL:Zi Tryz.prog 197 Z7d:=Zj<|Zg fun a=>Zg fun k=>EZ0<|by
 refine cf0 (Za ZcR<|Za Zc0<|Ze) (fn:=Tryz.f197) rfl ?_
 refine sxT (fun Q=>Q (PV.agg [vI (Zk a.x k).lo,vI (Zk a.x k).hi,vB (Zk a.x k).no,vI (Zk a.y k).lo,vI (Zk a.y k).hi,vB (Zk a.y k).no,vI (Zk a.z k).lo,vI (Zk a.z k).hi,vB (Zk a.z k).no])) (fun _=>by kernel_rfl) ?_
 delta Qn vI vB
 refine ?_
 all_goals rfl
theorem ZzM:Zi Tryz.prog 191 Z7e:=Zj<|Zg fun r=>Zg fun t=>EZ0<|by
 refine cf0 (Za ZzL<|Za ZzK<|Ze) (fn:=Tryz.f191) rfl ?_
 refine sxT (fun Q=>Q (PV.agg (eV (ZgG r.o (Jp r.d t))))) (fun _=>by kernel_rfl) ?_
 delta Qn eV vI vB
 refine ?_
 all_goals rfl
theorem Zse:Zi Tryz.prog 100 Z7f:=Zj<|Zg fun a=>EZ0<|by
 refine cf0 (Za Zab<|Ze) (fn:=Tryz.f100) rfl ?_
 refine sxT (fun Q=>(bif right a.x then (bif right a.y then Q (vB (right a.z)) else Q (vB false)) else Q (vB false))) (fun _=>by kernel_rfl) ?_
 delta Qn vB
 refine Zb (fun h0=>Zb (fun h1=>?_) (fun h1=>?_)) (fun h0=>?_)
 all_goals (simp only[YN,ZK,ZC,List.foldl,Qr_,Qp_,Ql_,Qn_,Q5_,Q4_,Qw_,Q3_,Qu_,Qt_,Qb_,Qd_,QD_,Q8_, *];rfl)
theorem Z2K:Zi Tryz.prog 98 e98:=Zj<|Zg fun a=>EZ0<|by
 refine cf0 (Za ZzE<|Za Zmr<|Za Ze1<|Za Zc0<|Ze) (fn:=Tryz.f98) rfl ?_
 refine sxT (fun Q=>Q (PV.agg [vI (Zo a.x (ZQ (XY a))).lo,vI (Zo a.x (ZQ (XY a))).hi,vB (Zo a.x (ZQ (XY a))).no,vI (Zo a.y (ZQ (XY a))).lo,vI (Zo a.y (ZQ (XY a))).hi,vB (Zo a.y (ZQ (XY a))).no,vI (Zo a.z (ZQ (XY a))).lo,vI (Zo a.z (ZQ (XY a))).hi,vB (Zo a.z (ZQ (XY a))).no])) (fun _=>by kernel_rfl) ?_
 delta Qn vI vB
 refine ?_
 all_goals rfl
theorem Z5g:Zi Tryz.prog 192 Z7g:=Zj<|Zg fun yes=>Zg fun no=>EZ0<|by
 refine cf0 Ze (fn:=Tryz.f192) rfl ?_
 refine sxT (fun Q=>(bif yes then Q (vI 1) else (bif no then Q (vI 2) else Q (vI 0)))) (fun _=>by kernel_rfl) ?_
 delta Qn vI
 refine Zb (fun h0=>?_) (fun h0=>Zb (fun h1=>?_) (fun h1=>?_))
 all_goals (simp only[ZpA,ZK,ZC,List.foldl,Qr_,Qp_,Ql_,Qn_,Q5_,Q4_,Qw_,Q3_,Qu_,Qt_,Qb_,Qd_,QD_,Q8_, *];rfl)
theorem Z5h:Zi Tryz.prog 164 Z7h:=Zj<|Zg fun a=>Zg fun b=>EZ0<|by
 refine cf0 (Za Zab<|Za Z5g<|Ze) (fn:=Tryz.f164) rfl ?_
 refine sxT (fun Q=>(bif !right a then Q (vI 0) else (bif !right b then Q (vI 0) else Q (vI (ZpA (decide (a.hi≤b.lo)) (decide (a.lo > b.hi))))))) (fun _=>by kernel_rfl) ?_
 delta Qn vI
 refine Zb (fun h0=>?_) (fun h0=>Zb (fun h1=>?_) (fun h1=>?_))
 all_goals (try simp only[Qi_,Qf_,bne] at *)
 all_goals (simp only[Zeb,ZK,ZC,List.foldl,Qr_,Qp_,Ql_,Qn_,Q5_,Q4_,Qw_,Q3_,Qu_,Qt_,Qb_,Qd_,QD_,Q8_, *];rfl)
theorem Z5i:Zi Tryz.prog 194 Z7i:=Zj<|EZ0<|by
 refine cf0 (Za Xe<|Za Zc0<|Ze) (fn:=Tryz.f194) rfl ?_
 refine sxT (fun Q=>Q (PV.agg [vI 0,vI 0,vB true,vI 0,vI 0,vB true,vI 0,vI 0,vB true])) (fun _=>by kernel_rfl) ?_
 delta Qn vI vB
 refine ?_
 all_goals rfl
theorem Z5j:Zi Tryz.prog 167 Z7j:=Zj<|EZ0<|by
 refine cf0 (Za Xe<|Za Zc0<|Ze) (fn:=Tryz.f167) rfl ?_
 refine sxT (fun Q=>Q (PV.agg [vI 0,vI 0,vB true,vI 0,vI 0,vB true,vI 0,vI 0,vB true,vI 0,vI 0,vB true,vI 0,vI 0,vB true,vI 0,vI 0,vB true])) (fun _=>by kernel_rfl) ?_
 delta Qn vI vB
 refine ?_
 all_goals rfl
theorem Z5k:Zi Tryz.prog 190 Z7k:=Zj<|Zg fun is=>EZ0<|by
 refine cf0 (Za Xe<|Za Zc0<|Ze) (fn:=Tryz.f190) rfl ?_
 refine sxT (fun Q=>Q (PV.tup [PV.agg [vI 0,vI 0,vB true],PV.agg [vI 0,vI 0,vB true,vI 0,vI 0,vB true,vI 0,vI 0,vB true],vI is])) (fun _=>by kernel_rfl) ?_
 delta Qn vI vB
 refine ?_
 all_goals rfl
end Go.Men
namespace Go.Men
open Go Go.Ev Go.Proofs Go.RowKit Go.Shelf
attribute [local go_sem] Oper.semAt_some
def KpB(n₀ Bs:Nat)(W W':World):Prop:=Below n₀ W W'∧W'.heap[Bs]?=W.heap[Bs]?
theorem KpB.refl(n₀ Bs:Nat)(W:World):KpB n₀ Bs W W:=⟨Below.refl _ _,rfl⟩
theorem KpB.trans{n₀ Bs:Nat}{A B C:World}(h:KpB n₀ Bs A B)(k:KpB n₀ Bs B C):KpB n₀ Bs A C:=⟨h.1.trans k.1,k.2.trans h.2⟩
theorem KpB.cell{n₀ Bs:Nat}{W W':World}(h:KpB n₀ Bs W W'):W'.cell? ⟨Bs,0,none⟩=W.cell? ⟨Bs,0,none⟩:=by unfold World.cell?;rw[h.2]
def ivV(x:Iv):Value:= .agg #[.int .i64 x.lo,.int .i64 x.hi,.bool x.no]
def downto(zs:List Iv)(k:Nat):List (Int×Iv):=(List.range k).map (fun (j:Nat)=>(((zs.length:Int) - 1 - (j:Int):Int),zs[zs.length - 1 - j]?.getD none'))
theorem Zub(zs:List Iv)(k:Nat):downto zs (k+1)=downto zs k++[(((zs.length:Int) - 1 - (k:Int):Int),zs[zs.length - 1 - k]?.getD none')]:=by simp[downto,List.range_succ]
theorem Zpo(zs:List Iv)(k:Nat):(downto zs k).length=k:=by simp[downto]
set_option maxRecDepth 100000 in
set_option maxHeartbeats 4000000 in
theorem Z5l(F:Fence)(n:Nat)(h7:F.fn 223)(hro:F.round=none)(hn:1≤n)(l Bs n₀ b off cap:Nat)(zs:List Iv)(hreach:zs.length≤1000)(hb:b < n₀)(J Jx:List (Int×Iv)→World→Prop)
 (hY:∀pre x W,J pre W→pre.length < zs.length→YieldAt F (n - 1) Tryz.prog l #[.int .i64 x.1,ivV x.2] W fun e W'=>
   (e= .returned (.bool true)∧J (pre++[x]) W'∧KpB n₀ Bs W W')∨(e= .returned (.bool false)∧Jx (pre++[x]) W'))
 (W:World) (hBs:W.cell? ⟨Bs,0,none⟩=some (.slice (some ⟨b,off,none⟩) zs.length cap))
 (hc:∀j,j < zs.length→W.cell? ⟨b,off+j *3,none⟩=some (.int .i64 (zs[j]?.getD none').lo)∧W.cell? ⟨b,off+j *3+1,none⟩=some (.int .i64 (zs[j]?.getD none').hi)∧W.cell? ⟨b,off+j *3+2,none⟩=some (.bool (zs[j]?.getD none').no)) (h0:J [] W):
 CallsIn F n Tryz.prog 223 #[.func (.yield l) #[] #[],.pointer (some ⟨Bs,0,none⟩)] W fun e W'=>(∃v,e= .returned v)∧
  ((∃ys,ys=downto zs zs.length∧J ys W')∨(∃pre,True∧Jx pre W')):=by
 refine callsIn_of_wp Tryz.func223 rfl h7 ?_ hro
 simp only[Tryz.ntmps223,K9_,Qs_,Q1_,Nat.reduceAdd,Nat.reduceSub,Array.replicate_succ,Array.replicate_zero,List.push_toArray,List.append_toArray,QJ_,QS_]
 gi_wp2
 gi_loopw [3] (fun i wr=>∃k:Nat,k≤zs.length∧i= .int .i64 ((zs.length:Int) - 1 - k)∧J (downto zs k) wr∧KpB n₀ Bs W wr)
  (fun i _=>(RowKit.intOf i+1).toNat)
 case atStart=>exact ⟨0,K0_ _,by simp,h0,KpB.refl _ _ _⟩
 case round=>
  obtain ⟨k,hk,rfl,hJs,hnx⟩:=hrel
  by_cases hlt:k < zs.length
  ·obtain ⟨fn,tmps,assign,body,hy,hR⟩:=hY _ (((zs.length:Int) - 1 - (k:Int):Int),zs[zs.length - 1 - k]?.getD none') wr hJs (by rw[Zpo];exact hlt)
   have hBs':=hnx.cell.trans hBs
   obtain ⟨c0,c1,c2⟩:=hc (zs.length - 1 - k) (by omega)
   have c0':=(hnx.1.cell (p:=⟨b,off+(zs.length - 1 - k)*3,none⟩) hb).trans c0
   have c1':=(hnx.1.cell (p:=⟨b,off+(zs.length - 1 - k)*3+1,none⟩) hb).trans c1
   have c2':=(hnx.1.cell (p:=⟨b,off+(zs.length - 1 - k)*3+2,none⟩) hb).trans c2
   dsimp only[ivV] at hy
   gi_wp2
   refine hR.mono ?_
   rintro e W3 (⟨rfl,hJ3,hk3⟩ | ⟨rfl,hJx3⟩)
   ·gi_wp2
    go_roundw
    case rel=>exact ⟨k+1,by omega,by simp;omega,by rw[Zub];exact hJ3,hnx.trans hk3⟩
    case measure=>simp[RowKit.intOf];omega
   ·gi_wp2
    refine bodyPost_ret (results_none rfl _ _ _) rfl ?_
    exact ⟨⟨_,rfl⟩,.inr ⟨_,trivial,hJx3⟩⟩
  ·obtain rfl:k=zs.length:=by omega
   gi_wp2
   go_end0
   exact ⟨⟨_,rfl⟩,.inl ⟨_,rfl,hJs⟩⟩
theorem Z2L(F:Fence)(n:Nat)(h5:F.fn 222)(hro:F.round=none)(a:Option Addr)(len cap:Nat)(w:World):
 CallsIn F n Tryz.prog 222 #[.slice a len cap] w fun e w'=>e= .returned (.func (.func 223) #[] #[.pointer (some ⟨w.heap.size,0,none⟩)])∧w'=w.alloc (.cells #[.slice a len cap] 172):=by
 refine callsIn_of_wp Tryz.func222 rfl h5 ?_ hro
 simp only[Tryz.ntmps222,K9_,Qs_,Q1_,Nat.reduceAdd,Nat.reduceSub,Array.replicate_succ,Array.replicate_zero,List.push_toArray,List.append_toArray,QJ_,QS_]
 gi_wp2
 go_ret
 exact ⟨rfl,rfl⟩
attribute [local go_sem] Oper.semAt_some
theorem Zba{f:FuncId}{args:List PV}{r:PV}(h:Con Tryz.prog f args r)(hcall:∀a w,(callFunc f a).run Tryz.prog w= .ok (.enter f a) w)
 {hw:Nat→Nat} {w:World} {vals:List Value} (hl:∀k,w.heap.size≤k→hw k=0) (hg:GlobOk hw w) (ha:ArgsRep hw w vals args):
 Calls Tryz.prog f vals.toArray w fun e w'=>∃v,e= .returned v∧∃hw',Qt hw w hw' w'∧Rep hw' w' v r:=by
 rcases h hw w vals hl hg ha with ⟨v,w',h1,h2⟩ | ⟨f',h1,h2⟩
 ·rw[hcall] at h1;cases h1
 ·rw[hcall] at h1;cases h1;exact h2
theorem Zat{hw:Nat→Nat}{w:World}(x:Iv):Rep hw w (ivV x) (.agg (Iv.enc x)):=by
 refine .agg [.int .i64 x.lo,.int .i64 x.hi,.bool x.no] _ rfl (fun j a b ha hb=>?_) (fun a ha=>?_)
 ·rcases j with _ | _ | _ | j<;>simp[Iv.enc] at ha hb
  all_goals (obtain rfl:=ha;obtain rfl:=hb;exact .v _ rfl)
 ·simp at ha;rcases ha with rfl | rfl | rfl<;>rfl
theorem ZfT{hw:Nat→Nat}{w:World}{v:Value}{x:Iv}(h:Rep hw w v (.agg (Iv.enc x))):v=ivV x:=by
 cases h with
 | agg vs cs hl hr h1=>
   obtain ⟨a,b,c,rfl⟩:∃a b c,vs=[a,b,c]:=by
    match vs,hl with
    | [a,b,c],_=>exact ⟨a,b,c,rfl⟩
   have e0:=Z2 (hr 0 a _ rfl rfl)
   have e1:=Z2 (hr 1 b _ rfl rfl)
   have e2:=Z2 (hr 2 c _ rfl rfl)
   subst e0;subst e1;subst e2;rfl
theorem Zvp{hw:Nat→Nat}{w:World}{a:Value}{p:PV}(h:Rep hw w a p):ArgsRep hw w [a] [p]:=
 ⟨rfl,fun j x y hx hy=>by rcases j with _ | j<;>simp at hx hy;subst hx;subst hy;exact h⟩
theorem ZpX{hw:Nat→Nat}{w:World}{a b:Value}{p q:PV}(h:Rep hw w a p)(k:Rep hw w b q):ArgsRep hw w [a,b] [p,q]:=
 ⟨rfl,fun j x y hx hy=>by rcases j with _ | _ | j<;>simp at hx hy<;>(subst hx;subst hy;assumption)⟩
theorem Z5S{hw:Nat→Nat}{w:World}:ArgsRep hw w [] []:=⟨rfl,fun j x y hx _=>by simp at hx⟩
theorem ZdG{hw hw':Nat→Nat}{w w':World}(hl:∀k,w.heap.size≤k→hw k=0)(hg:GlobOk hw w)(q:Qt hw w hw' w'):GlobOk hw' w':=
 hg.mono (q.ext hl) (fun y cs hy=>q.below.block y (hg.lt hy))
def ivO(x:Iv):Obj:= .cells #[.int .i64 x.lo,.int .i64 x.hi,.bool x.no] 26
theorem Yi{W:World}{k:Nat}{x:Iv}(h:W.heap[k]?=some (ivO x)):
 W.cell? ⟨k,0,none⟩=some (.int .i64 x.lo)∧W.cell? ⟨k,1,none⟩=some (.int .i64 x.hi)∧W.cell? ⟨k,2,none⟩=some (.bool x.no)∧
 W.frozen? ⟨k,0,none⟩=false∧W.frozen? ⟨k,1,none⟩=false∧W.frozen? ⟨k,2,none⟩=false:=by
 simp[World.cell?,World.frozen?,h,ivO]
theorem ZfU{W:World}{k:Nat}{x:Iv}(h:W.heap[k]?=some (ivO x)):k < W.heap.size:=(QL_.1 h).1
structure HF(hw:Nat→Nat)(w:World)(x o:Iv)(W:World):Prop where
 q:∃hw',Qt hw w hw' W
 x:W.heap[w.heap.size]?=some (ivO x)
 r:W.heap[w.heap.size+1]?=some (ivO ⟨0,0,false⟩)
 o:W.heap[w.heap.size+1+1]?=some (ivO o)
theorem HF.size{hw:Nat→Nat}{w:World}{x o:Iv}{W:World}(h:HF hw w x o W):w.heap.size+2 < W.heap.size:=ZfU h.o
theorem HF.kept{hw hw1 hw2:Nat→Nat}{w:World}{x o:Iv}{W W':World}(hl:∀k,w.heap.size≤k→hw k=0)(h:HF hw w x o W)(q0:Qt hw w hw1 W)(q:Qt hw1 W hw2 W'):HF hw w x o W':=
 have hs:=h.size
 ⟨⟨hw2,⟨q0.below.trans (q.below.mono q0.below.size),fun k hk=>(q.hw k (Kc_ hk q0.below.size)).trans (q0.hw k hk),q.hwlt⟩⟩,
  (q.below.block _ (by omega)).trans h.x,(q.below.block _ (by omega)).trans h.r,(q.below.block _ (by omega)).trans h.o⟩
theorem HF.own{hw:Nat→Nat}{w:World}{x o:Iv}{X Y:World}{row:Option Nat}(h:HF hw w x o X)(hg:X.grownBy Y row)(hrow:∀r,row=some r→w.heap.size+3≤r):HF hw w x o Y:=by
 obtain ⟨⟨hw',q⟩,h1,h2,h3⟩:=h
 have kp:∀k,k < w.heap.size+3→k < X.heap.size→Y.heap[k]?=X.heap[k]?:=fun k hk hk2=>hg.block k hk2 (fun e=>by have:=hrow k e.symm;omega)
 have s:=ZfU h3
 exact ⟨⟨hw',⟨q.below.grown hg q.below.size (fun k e=>by have:=hrow k e;omega),q.hw,fun k hk=>q.hwlt k (QT_ hg.size hk)⟩⟩,
  (kp _ (by omega) (by omega)).trans h1,(kp _ (by omega) (by omega)).trans h2,(kp _ (by omega) (by omega)).trans h3⟩
theorem HF.drew{hw:Nat→Nat}{w:World}{x o:Iv}{W:World}(h:HF hw w x o W):HF hw w x o W.drew:=by
 obtain ⟨⟨hw',q⟩,h1,h2,h3⟩:=h
 exact ⟨⟨hw',⟨q.below.drew,q.hw,q.hwlt⟩⟩,h1,h2,h3⟩
theorem ZnT{W:World}{k:Nat}{x y:Iv}(h:W.heap[k]?=some (ivO x)):
 (((W.setCell ⟨k,0,none⟩ (.int .i64 y.lo)).setCell ⟨k,1,none⟩ (.int .i64 y.hi)).setCell ⟨k,2,none⟩ (.bool y.no)).heap[k]?=some (ivO y):=by
 obtain ⟨hk,e⟩:=QL_.1 h
 simp only[World.setCell]
 rw[QC_ (by simp only[Array.size_modify];exact hk)]
 simp only[Array.getElem_modify_self,e,ivO]
 rfl
def Wl(W:World)(k:Nat)(y:Iv):World:=((W.setCell ⟨k,0,none⟩ (.int .i64 y.lo)).setCell ⟨k,1,none⟩ (.int .i64 y.hi)).setCell ⟨k,2,none⟩ (.bool y.no)
theorem ZbF(W:World){k j:Nat}(y:Iv)(h:j≠k):(Wl W k y).heap[j]?=W.heap[j]?:=
 (Below.heap_setCell _ _ _ j h).trans ((Below.heap_setCell _ _ _ j h).trans (Below.heap_setCell _ _ _ j h))
theorem Zbb(W:World)(k:Nat)(y:Iv):(Wl W k y).heap.size=W.heap.size:=by simp[Wl]
theorem Zdy{B:Nat}{a W:World}(h:Below B a W){k:Nat}(hk:B≤k)(y:Iv):Below B a (Wl W k y):=
 ((h.setCell (p:=⟨k,0,none⟩) hk _).setCell (p:=⟨k,1,none⟩) hk _).setCell (p:=⟨k,2,none⟩) hk _
theorem HF.setO{hw:Nat→Nat}{w:World}{x o:Iv}{W:World}(h:HF hw w x o W)(y:Iv):HF hw w x y (Wl W (w.heap.size+1+1) y):=by
 obtain ⟨⟨hw',q⟩,h1,h2,h3⟩:=h
 exact ⟨⟨hw',⟨Zdy q.below (by omega) y,q.hw,fun k hk=>q.hwlt k (by rw[Zbb] at hk;exact hk)⟩⟩,
  (ZbF W y (by omega)).trans h1,(ZbF W y (by omega)).trans h2,ZnT h3⟩
theorem Zmu{hw:Nat→Nat}{w:World}{x o y v:Iv}{X W5 W7:World}{hwx hw5 hw6 hw7:Nat→Nat}{B Bs:Nat}(hI:HF hw w x o X)(f8:HF hw w x v W7)(q5:Qt hwx X.drew hw5 W5)(q7:Qt hw6 W5 hw7 W7)(hBs:Bs < X.heap.size)(hk:w.heap.size+1+1≠Bs):
 KeepsFrom B X (Wl W7 (w.heap.size+1+1) y)∧KpB w.heap.size Bs X (Wl W7 (w.heap.size+1+1) y)∧HF hw w x y (Wl W7 (w.heap.size+1+1) y)∧X.heap.size≤(Wl W7 (w.heap.size+1+1) y).heap.size:=by
 have hs:=hI.size
 have s5:X.heap.size≤W5.heap.size:=q5.below.size
 have s7:=q7.below.size
 have same:∀j,j < X.heap.size→j≠w.heap.size+1+1→(Wl W7 (w.heap.size+1+1) y).heap[j]?=X.heap[j]?:=fun j hj hne=>
  (ZbF W7 y hne).trans ((q7.below.block j (by omega)).trans (q5.below.block j hj))
 have sz:X.heap.size≤(Wl W7 (w.heap.size+1+1) y).heap.size:=by rw[Zbb];omega
 refine ⟨⟨sz,fun j ob _ hj hcl=>?_⟩,⟨?_,same Bs hBs (fun e=>hk e.symm)⟩,f8.setO y,sz⟩
 ·refine (same j (QL_.1 hj).1 (fun e=>?_)).trans hj
  subst e;rw[hI.o] at hj;cases hj;cases hcl
 ·have b1:Below w.heap.size X.drew W5:=q5.below.mono (by show w.heap.size≤X.heap.size;omega)
  have b2:Below w.heap.size X X.drew:=(Below.refl _ X).drew
  exact Zdy ((b2.trans b1).trans (q7.below.mono (by omega))) (by omega) y
def Ji(o x:Iv)(pre:List (Int×Iv)):Iv:=pre.foldl (fun o p=>add (Zk o x) p.2) o
theorem Zmv(o x:Iv)(pre:List (Int×Iv))(p:Int×Iv):Ji o x (pre++[p])=add (Zk (Ji o x pre) x) p.2:=by simp[Ji]
theorem Zsf(n:Nat)(hn:1≤n)(Bs n₀ b off cap:Nat)(zs:List Iv)(hreach:zs.length≤1000)(w:World)(hBs:Bs < w.heap.size)(hn₀:n₀≤w.heap.size)(hb:b < n₀)
 (hcB:w.cell? ⟨Bs,0,none⟩=some (.slice (some ⟨b,off,none⟩) zs.length cap))
 (hc:∀j,j < zs.length→w.cell? ⟨b,off+j *3,none⟩=some (.int .i64 (zs[j]?.getD none').lo)∧w.cell? ⟨b,off+j *3+1,none⟩=some (.int .i64 (zs[j]?.getD none').hi)∧w.cell? ⟨b,off+j *3+2,none⟩=some (.bool (zs[j]?.getD none').no)):
 SeqStopsK Fence.wide n Tryz.prog 223 #[.pointer (some ⟨Bs,0,none⟩)] (fun p:Int×Iv=>#[.int .i64 p.1,ivV p.2]) (KpB n₀ Bs) (fun ys=>ys=downto zs zs.length) (fun _=>True) zs.length w:=fun l J Jx W hW _ _ hY h0=>
 Z5l Fence.wide n trivial rfl hn l Bs n₀ b off cap zs hreach hb J Jx hY W ((hW.cell (p:=⟨Bs,0,none⟩) hBs).trans hcB)
  (fun j hj=>⟨(hW.cell (p:=⟨b,off+j *3,none⟩) (by show b < _;omega)).trans (hc j hj).1,(hW.cell (p:=⟨b,off+j *3+1,none⟩) (by show b < _;omega)).trans (hc j hj).2.1,(hW.cell (p:=⟨b,off+j *3+2,none⟩) (by show b < _;omega)).trans (hc j hj).2.2⟩) h0
set_option maxRecDepth 100000 in
set_option maxHeartbeats 4000000 in
theorem Zxh(hw:Nat→Nat)(w:World)(hl:∀k,w.heap.size≤k→hw k=0)(hg:GlobOk hw w)(b off cap:Nat)(zs:List Iv)(x:Iv)(hreach:zs.length≤1000)(hz:0 < zs.length)(hcap:zs.length≤cap)(hb:b < w.heap.size)
 (hc:∀j,j < zs.length→w.cell? ⟨b,off+j *3,none⟩=some (.int .i64 (zs[j]?.getD none').lo)∧w.cell? ⟨b,off+j *3+1,none⟩=some (.int .i64 (zs[j]?.getD none').hi)∧w.cell? ⟨b,off+j *3+2,none⟩=some (.bool (zs[j]?.getD none').no)):
 CallsIn Fence.wide 5 Tryz.prog 214 #[.slice (some ⟨b,off,none⟩) zs.length cap,ivV x] w fun e w'=>∃v,e= .returned v∧∃hw',Qt hw w hw' w'∧v=ivV (Ji (ZcI (zs[zs.length - 1]?.getD none')) x (downto (zs.take (zs.length - 1)) (zs.length - 1))):=by
 refine callsIn_of_wp_marks Tryz.func214 rfl trivial ?_ rfl
 simp only[Tryz.ntmps214,K9_,Qs_,Q1_,Nat.reduceAdd,Nat.reduceSub,Array.replicate_succ,Array.replicate_zero,List.push_toArray,List.append_toArray,QJ_,QS_,ivV]
 obtain ⟨c0,c1,c2⟩:=hc (zs.length - 1) (by omega)
 gi_wp2
 obtain ⟨w3,hw3⟩:∃w3,(((w.alloc (Obj.cells #[Value.int IntKind.i64 x.lo,Value.int IntKind.i64 x.hi,Value.bool x.no] 26)).alloc (Obj.cells #[Value.int IntKind.i64 0,Value.int IntKind.i64 0,Value.bool false] 26)).alloc
  (Obj.cells #[Value.int IntKind.i64 (zs[zs.length - 1]?.getD none').lo,Value.int IntKind.i64 (zs[zs.length - 1]?.getD none').hi,Value.bool (zs[zs.length - 1]?.getD none').no] 26))=w3:=⟨_,rfl⟩
 have hB3:Below w.heap.size w w3:=by rw[←hw3];exact (((Below.refl _ w).alloc (Q2_ _) _).alloc (by simp) _).alloc (by simp;omega) _
 have q3:Qt hw w hw w3:=⟨hB3,fun _ _=>rfl,fun k hk=>hl k (by have:=hB3.size;omega)⟩
 have f3:HF hw w x (zs[zs.length - 1]?.getD none') w3:=by
  refine ⟨⟨_,q3⟩, ?_, ?_, ?_⟩
  ·rw[←hw3];exact ((Below.heap_alloc _ _ _ (by simp;omega)).trans ((Below.heap_alloc _ _ _ (by simp)).trans (World.alloc_heap_new w _)))
  ·rw[←hw3];exact ((Below.heap_alloc _ _ _ (by simp)).trans (by have:=World.alloc_heap_new (w.alloc (Obj.cells #[Value.int IntKind.i64 x.lo,Value.int IntKind.i64 x.hi,Value.bool x.no] 26)) (Obj.cells #[Value.int IntKind.i64 0,Value.int IntKind.i64 0,Value.bool false] 26);rwa [World.size_alloc] at this))
  ·rw[←hw3];have:=World.alloc_heap_new ((w.alloc (Obj.cells #[Value.int IntKind.i64 x.lo,Value.int IntKind.i64 x.hi,Value.bool x.no] 26)).alloc (Obj.cells #[Value.int IntKind.i64 0,Value.int IntKind.i64 0,Value.bool false] 26)) (Obj.cells #[Value.int IntKind.i64 (zs[zs.length - 1]?.getD none').lo,Value.int IntKind.i64 (zs[zs.length - 1]?.getD none').hi,Value.bool (zs[zs.length - 1]?.getD none').no] 26);rwa [World.size_alloc,World.size_alloc] at this
 rw[hw3]
 clear hw3
 refine ⟨trivial,(callsIn_wide.2 (Zba (ZoF (zs[zs.length - 1]?.getD none')) Tryz.call62 q3.hwlt (ZdG hl hg q3) (Zvp (Zat _)))).mono ?_⟩
 rintro e W1 ⟨v,rfl,hw1,q1,hr⟩
 obtain rfl:=Z2 hr
 have f4:=f3.kept hl q3 q1
 obtain ⟨d0,d1,d2,d3,d4,d5⟩:=Yi f4.o
 have hlen:(zs.take (zs.length - 1)).length=zs.length - 1:=by rw[K3_];omega
 gi_wp2
 ·have h':(!right (zs[zs.length - 1]?.getD none'))=true:=by assumption
  have hO:ZcI (zs[zs.length - 1]?.getD none')=none':=by unfold ZcI;rw[show right (zs[zs.length - 1]?.getD none')=false by simpa using h'];rfl
  refine ⟨trivial,(callsIn_wide.2 (Zba ZrQ Tryz.call64 q1.hwlt (ZdG hl hg ⟨q3.below.trans (q1.below.mono hB3.size),fun k hk=>(q1.hw k (Kc_ hk hB3.size)).trans (q3.hw k hk),q1.hwlt⟩) Z5S)).mono ?_⟩
  rintro e W2 ⟨v,rfl,hw2,q2,r2⟩
  obtain rfl:=ZfT r2
  have f4b:=f4.kept hl ⟨q3.below.trans (q1.below.mono hB3.size),fun k hk=>(q1.hw k (Kc_ hk hB3.size)).trans (q3.hw k hk),q1.hwlt⟩ q2
  obtain ⟨g0,g1,g2,g3,g4,g5⟩:=Yi f4b.o
  dsimp only[ivV]
  gi_wp2
  clear f4
  have f4:=f4b.setO none'
  obtain ⟨W,hWe⟩:∃W,Wl W2 (w.heap.size+1+1) none'=W:=⟨_,rfl⟩
  rw[hWe] at f4
  have hWe':(((W2.setCell {block:=w.heap.size+1+1,off:=0} (Value.int IntKind.i64 none'.lo)).setCell {block:=w.heap.size+1+1,off:=1} (Value.int IntKind.i64 none'.hi)).setCell {block:=w.heap.size+1+1,off:=2} (Value.bool none'.no))=W:=hWe
  rw[hWe']
  refine ⟨trivial,(Z2L Fence.wide 4 trivial rfl _ _ _ _).mono ?_⟩
  rintro e w'' ⟨rfl,rfl⟩
  gi_wp2
  have hs:=f4.size
  have hB:Below w.heap.size w W:=f4.q.elim fun _ q=>q.below
  have hnew:(W.alloc (.cells #[.slice (some ⟨b,off,none⟩) (zs.length - 1) cap] 172)).cell? ⟨W.heap.size,0,none⟩=some (.slice (some ⟨b,off,none⟩) (zs.take (zs.length - 1)).length cap):=by
   rw[hlen];simp only[World.cell?,World.alloc_heap_new];rfl
  have hcc:∀j,j < (zs.take (zs.length - 1)).length→(W.alloc (.cells #[.slice (some ⟨b,off,none⟩) (zs.length - 1) cap] 172)).cell? ⟨b,off+j *3,none⟩=some (.int .i64 ((zs.take (zs.length - 1))[j]?.getD none').lo)∧(W.alloc (.cells #[.slice (some ⟨b,off,none⟩) (zs.length - 1) cap] 172)).cell? ⟨b,off+j *3+1,none⟩=some (.int .i64 ((zs.take (zs.length - 1))[j]?.getD none').hi)∧(W.alloc (.cells #[.slice (some ⟨b,off,none⟩) (zs.length - 1) cap] 172)).cell? ⟨b,off+j *3+2,none⟩=some (.bool ((zs.take (zs.length - 1))[j]?.getD none').no):=by
   intro j hj
   rw[hlen] at hj
   have hbw:b < W.heap.size:=by omega
   have hB2:=hB.alloc hB.size (.cells #[.slice (some ⟨b,off,none⟩) (zs.length - 1) cap] 172)
   rw[Kj_ hj]
   obtain ⟨g0,g1,g2⟩:=hc j (by omega)
   exact ⟨(hB2.cell (p:=⟨b,off+j *3,none⟩) hb).trans g0,(hB2.cell (p:=⟨b,off+j *3+1,none⟩) hb).trans g1,(hB2.cell (p:=⟨b,off+j *3+2,none⟩) hb).trans g2⟩
  have f5:HF hw w x none' (W.alloc (.cells #[.slice (some ⟨b,off,none⟩) (zs.length - 1) cap] 172)):=f4.own (World.grownBy_alloc W _ none) (fun r e=>by cases e)
  refine wpIn_rangeFunc_ownH rfl (by omega) (gf:=223) (lb:=#[.pointer (some ⟨W.heap.size,0,none⟩)]) rfl trivial Tryz.call223
   (Zsf 4 (by omega) W.heap.size w.heap.size b off cap (zs.take (zs.length - 1)) (by omega) _ (by simp) (by simp;omega) hb hnew hcc) (fun h k=>h.trans k)
   (fun X l ob ob' hl' hob _ _=>⟨(Below.refl _ X).grown (grownBy_putObj' X l ob') (by have:=(QL_.1 hob).1;simp at hl';omega) (fun k e=>by cases e;simp at hl';omega),World.putObj_heap_other (by simp at hl';omega)⟩)
   (Below.refl _ _) (fun _=>rfl)
   (fun pre X=>HF hw w x (Ji none' x pre) X∧W.heap.size+1≤X.heap.size) (fun _ _ _=>False)
   (fun pre X Y row h hg' hr'=>⟨h.1.own hg' (fun r e=>by have:=(hr' r e).1;simp at this;omega),QT_ h.2 hg'.size⟩)
   (fun _ _ _ _ _ hs _ _=>hs) ⟨f5,by simp⟩
   (fun p a' X=>∃k7,X.heap[k7]?=some (ivO p.2)∧W.heap.size+1≤k7∧a'={tmps:=#[Value.slice (some ⟨b,off,none⟩) zs.length cap,ivV x,undef,.pointer (some ⟨w.heap.size,0,none⟩),.pointer (some ⟨w.heap.size+1,0,none⟩),.pointer (some ⟨w.heap.size+1+1,0,none⟩),undef,.pointer (some ⟨k7,0,none⟩),
     Value.slice (some ⟨b,off,none⟩) zs.length cap,.int .i64 zs.length,.bool false,undef,Value.slice (some ⟨b,off,none⟩) zs.length cap,Value.slice (some ⟨b,off,none⟩) zs.length cap,.int .i64 zs.length,.int .i64 (zs.length - 1),
     .pointer (some ⟨b,off+(zs.length - 1)*3,none⟩),ivV (zs[zs.length - 1]?.getD none'),ivV (zs[zs.length - 1]?.getD none'),.bool (right (zs[zs.length - 1]?.getD none')),.bool true,ivV none',Value.slice (some ⟨b,off,none⟩) zs.length cap,Value.slice (some ⟨b,off,none⟩) zs.length cap,.int .i64 zs.length,.int .i64 (zs.length - 1),
     Value.slice (some ⟨b,off,none⟩) (zs.length - 1) cap,.func (.func 223) #[] #[.pointer (some ⟨W.heap.size,0,none⟩)],.int .i64 p.1,ivV p.2,undef,undef,undef,undef,undef,undef],defers:=[]})
   ?ax ?assign ?body ?done ?stop
  case ax=>
   rintro p a' _ X Y row ⟨k7,h7,hk7,rfl⟩ hg' hr'
   refine ⟨k7,(hg'.block k7 (ZfU h7) (fun e=>?_)).trans h7,hk7,rfl⟩
   obtain ⟨_,ob,hob,hcl⟩:=hr' k7 e.symm
   rw[h7] at hob;cases hob;cases hcl
  case assign=>
   rintro l pre ⟨i,v⟩ X K hI hK
   dsimp only[ivV] at hK ⊢
   gi_wp2
   exact hK _ _ (KeepsFrom.of_grownBy (World.grownBy_alloc X _ none) (fun j e=>by cases e)) ⟨(Below.refl _ X).alloc (by have:=hI.1.size;omega) _,Below.heap_alloc _ _ _ (by omega)⟩ ⟨hI.1.own (World.grownBy_alloc X _ none) (fun r e=>by cases e),by have:=hI.2;simp;omega⟩ ⟨X.heap.size,World.alloc_heap_new X _,hI.2,rfl⟩
  case body=>
   rintro l pre ⟨i,v⟩ a' X hl' _ ⟨hI,hX⟩ ⟨k7,h7,hk7,rfl⟩ hpl
   have hmx:Tryz.prog.follows .mixedOrders=true:=by kernel_rfl
   dsimp only[ivV]
   obtain ⟨a0,a1,a2,a3,a4,a5⟩:=Yi hI.o
   obtain ⟨b0,b1,b2,b3,b4,b5⟩:=Yi hI.x
   obtain ⟨e0,e1,e2,e3,e4,e5⟩:=Yi h7
   obtain ⟨hwx,qx⟩:=hI.drew.q
   gi_wp2
   gi_region_with_o (first
    | (refine ⟨trivial, ?_⟩
       gi_at_call 195
       refine (CallsIn.inRound l (callsIn_wide.2 (Zba (ZiE (Ji none' x pre) x) Tryz.call195 qx.hwlt (ZdG hl hg qx) (ZpX (Zat _) (Zat _))))).mono ?_
       rintro e W5 ⟨v5,rfl,hw5,q5,r5⟩
       obtain rfl:=ZfT r5
       dsimp only[ivV]
       have f6:=hI.drew.kept hl qx q5
       have h7':W5.heap[k7]?=some (ivO v):=(q5.below.block _ (ZfU h7)).trans h7
       obtain ⟨m0,m1,m2,m3,m4,m5⟩:=Yi f6.o
       obtain ⟨l0,l1,l2,l3,l4,l5⟩:=Yi h7'
       obtain ⟨hw6,q6⟩:=f6.q)
    | (refine ⟨trivial, ?_⟩
       gi_at_call 128
       refine (CallsIn.inRound l (callsIn_wide.2 (Zba (ZnR (Zk (Ji none' x pre) x) v) Tryz.call128 q6.hwlt (ZdG hl hg q6) (ZpX (Zat _) (Zat _))))).mono ?_
       rintro e W7 ⟨v7,rfl,hw7,q7,r7⟩
       obtain rfl:=ZfT r7
       dsimp only[ivV]
       have f8:=f6.kept hl q6 q7
       obtain ⟨n0,n1,n2,n3,n4,n5⟩:=Yi f8.o))
   all_goals gi_wp2
   all_goals (have hR:=Zmu (B:=(W.alloc (.cells #[.slice (some ⟨b,off,none⟩) (zs.length - 1) cap] 172)).heap.size) (y:=add (Zk (Ji none' x pre) x) v) hI f8 q5 q7 (Bs:=W.heap.size) (by omega) (by omega))
   all_goals (exact ⟨hR.1,hR.2.1,by rw[Zmv];exact hR.2.2.1,QT_ hX hR.2.2.2⟩)
  case done=>
   rintro D ys X hD rfl ⟨hI,hX⟩ hK
   obtain ⟨a0,a1,a2,a3,a4,a5⟩:=Yi hI.o
   obtain ⟨b0,b1,b2,b3,b4,b5⟩:=Yi hI.r
   gi_wp2
   obtain ⟨y,hy⟩:∃y,Ji none' x (downto (List.take (zs.length - 1) zs) (zs.length - 1))=y:=⟨_,rfl⟩
   rw[hlen] at hI
   (try rw[hO])
   rw[hy]
   rw[hy] at hI
   simp at hD
   have hk:D≠w.heap.size+1:=by omega
   have hK':(Wl X (w.heap.size+1) y).heap[D]?=some (.deferred (some [])):=(ZbF X y hk).trans hK
   refine ⟨by simp,.inl ⟨_,_,rfl,run_takeDeferred hK', ?_⟩⟩
   have h4:((Wl X (w.heap.size+1) y).putObj D (.deferred none)).heap[w.heap.size+1]?=some (ivO y):=(World.putObj_heap_other (fun e=>hk e.symm)).trans (ZnT hI.r)
   obtain ⟨m0,m1,m2,_,_,_⟩:=Yi h4
   obtain ⟨hwf,qf⟩:=hI.q
   refine ⟨ivV y, ?_,rfl,hwf, ?_⟩
   ·show (results Tryz.f214 _).run Tryz.prog ((Wl X (w.heap.size+1) y).putObj D (.deferred none))= .ok (ivV y) ((Wl X (w.heap.size+1) y).putObj D (.deferred none))
    obtain ⟨Z,hZ⟩:∃Z,(Wl X (w.heap.size+1) y).putObj D (.deferred none)=Z:=⟨_,rfl⟩
    rw[hZ] at m0 m1 m2 ⊢
    simp[results,Tryz.f214,go_sem,m0,m1,m2,ivV]
   ·exact ⟨(Zdy qf.below (by omega) y).grown (grownBy_putObj' _ D _) (by have:=qf.below.size;rw[Zbb];omega) (fun k e=>by cases e;omega),qf.hw,fun k hk=>qf.hwlt k (by simp[Zbb] at hk;exact hk)⟩
  case stop=>
   rintro D c pre X _ _ h _
   exact h.elim
 ·have h':(!right (zs[zs.length - 1]?.getD none'))=false:=by assumption
  have hO:ZcI (zs[zs.length - 1]?.getD none')=zs[zs.length - 1]?.getD none':=by unfold ZcI;rw[show right (zs[zs.length - 1]?.getD none')=true by simpa using h'];rfl
  obtain ⟨W,hWe⟩:∃W,W1=W:=⟨_,rfl⟩
  rw[hWe] at f4 q1 ⊢
  refine ⟨trivial,(Z2L Fence.wide 4 trivial rfl _ _ _ _).mono ?_⟩
  rintro e w'' ⟨rfl,rfl⟩
  gi_wp2
  have hs:=f4.size
  have hB:Below w.heap.size w W:=f4.q.elim fun _ q=>q.below
  have hnew:(W.alloc (.cells #[.slice (some ⟨b,off,none⟩) (zs.length - 1) cap] 172)).cell? ⟨W.heap.size,0,none⟩=some (.slice (some ⟨b,off,none⟩) (zs.take (zs.length - 1)).length cap):=by
   rw[hlen];simp only[World.cell?,World.alloc_heap_new];rfl
  have hcc:∀j,j < (zs.take (zs.length - 1)).length→(W.alloc (.cells #[.slice (some ⟨b,off,none⟩) (zs.length - 1) cap] 172)).cell? ⟨b,off+j *3,none⟩=some (.int .i64 ((zs.take (zs.length - 1))[j]?.getD none').lo)∧(W.alloc (.cells #[.slice (some ⟨b,off,none⟩) (zs.length - 1) cap] 172)).cell? ⟨b,off+j *3+1,none⟩=some (.int .i64 ((zs.take (zs.length - 1))[j]?.getD none').hi)∧(W.alloc (.cells #[.slice (some ⟨b,off,none⟩) (zs.length - 1) cap] 172)).cell? ⟨b,off+j *3+2,none⟩=some (.bool ((zs.take (zs.length - 1))[j]?.getD none').no):=by
   intro j hj
   rw[hlen] at hj
   have hbw:b < W.heap.size:=by omega
   have hB2:=hB.alloc hB.size (.cells #[.slice (some ⟨b,off,none⟩) (zs.length - 1) cap] 172)
   rw[Kj_ hj]
   obtain ⟨g0,g1,g2⟩:=hc j (by omega)
   exact ⟨(hB2.cell (p:=⟨b,off+j *3,none⟩) hb).trans g0,(hB2.cell (p:=⟨b,off+j *3+1,none⟩) hb).trans g1,(hB2.cell (p:=⟨b,off+j *3+2,none⟩) hb).trans g2⟩
  have f5:HF hw w x (zs[zs.length - 1]?.getD none') (W.alloc (.cells #[.slice (some ⟨b,off,none⟩) (zs.length - 1) cap] 172)):=f4.own (World.grownBy_alloc W _ none) (fun r e=>by cases e)
  refine wpIn_rangeFunc_ownH rfl (by omega) (gf:=223) (lb:=#[.pointer (some ⟨W.heap.size,0,none⟩)]) rfl trivial Tryz.call223
   (Zsf 4 (by omega) W.heap.size w.heap.size b off cap (zs.take (zs.length - 1)) (by omega) _ (by simp) (by simp;omega) hb hnew hcc) (fun h k=>h.trans k)
   (fun X l ob ob' hl' hob _ _=>⟨(Below.refl _ X).grown (grownBy_putObj' X l ob') (by have:=(QL_.1 hob).1;simp at hl';omega) (fun k e=>by cases e;simp at hl';omega),World.putObj_heap_other (by simp at hl';omega)⟩)
   (Below.refl _ _) (fun _=>rfl)
   (fun pre X=>HF hw w x (Ji (zs[zs.length - 1]?.getD none') x pre) X∧W.heap.size+1≤X.heap.size) (fun _ _ _=>False)
   (fun pre X Y row h hg' hr'=>⟨h.1.own hg' (fun r e=>by have:=(hr' r e).1;simp at this;omega),QT_ h.2 hg'.size⟩)
   (fun _ _ _ _ _ hs _ _=>hs) ⟨f5,by simp⟩
   (fun p a' X=>∃k7,X.heap[k7]?=some (ivO p.2)∧W.heap.size+1≤k7∧a'={tmps:=#[Value.slice (some ⟨b,off,none⟩) zs.length cap,ivV x,undef,.pointer (some ⟨w.heap.size,0,none⟩),.pointer (some ⟨w.heap.size+1,0,none⟩),.pointer (some ⟨w.heap.size+1+1,0,none⟩),undef,.pointer (some ⟨k7,0,none⟩),
     Value.slice (some ⟨b,off,none⟩) zs.length cap,.int .i64 zs.length,.bool false,undef,Value.slice (some ⟨b,off,none⟩) zs.length cap,Value.slice (some ⟨b,off,none⟩) zs.length cap,.int .i64 zs.length,.int .i64 (zs.length - 1),
     .pointer (some ⟨b,off+(zs.length - 1)*3,none⟩),ivV (zs[zs.length - 1]?.getD none'),ivV (zs[zs.length - 1]?.getD none'),.bool (right (zs[zs.length - 1]?.getD none')),.bool false,undef,Value.slice (some ⟨b,off,none⟩) zs.length cap,Value.slice (some ⟨b,off,none⟩) zs.length cap,.int .i64 zs.length,.int .i64 (zs.length - 1),
     Value.slice (some ⟨b,off,none⟩) (zs.length - 1) cap,.func (.func 223) #[] #[.pointer (some ⟨W.heap.size,0,none⟩)],.int .i64 p.1,ivV p.2,undef,undef,undef,undef,undef,undef],defers:=[]})
   ?ax ?assign ?body ?done ?stop
  case ax=>
   rintro p a' _ X Y row ⟨k7,h7,hk7,rfl⟩ hg' hr'
   refine ⟨k7,(hg'.block k7 (ZfU h7) (fun e=>?_)).trans h7,hk7,rfl⟩
   obtain ⟨_,ob,hob,hcl⟩:=hr' k7 e.symm
   rw[h7] at hob;cases hob;cases hcl
  case assign=>
   rintro l pre ⟨i,v⟩ X K hI hK
   dsimp only[ivV] at hK ⊢
   gi_wp2
   exact hK _ _ (KeepsFrom.of_grownBy (World.grownBy_alloc X _ none) (fun j e=>by cases e)) ⟨(Below.refl _ X).alloc (by have:=hI.1.size;omega) _,Below.heap_alloc _ _ _ (by omega)⟩ ⟨hI.1.own (World.grownBy_alloc X _ none) (fun r e=>by cases e),by have:=hI.2;simp;omega⟩ ⟨X.heap.size,World.alloc_heap_new X _,hI.2,rfl⟩
  case body=>
   rintro l pre ⟨i,v⟩ a' X hl' _ ⟨hI,hX⟩ ⟨k7,h7,hk7,rfl⟩ hpl
   have hmx:Tryz.prog.follows .mixedOrders=true:=by kernel_rfl
   dsimp only[ivV]
   obtain ⟨a0,a1,a2,a3,a4,a5⟩:=Yi hI.o
   obtain ⟨b0,b1,b2,b3,b4,b5⟩:=Yi hI.x
   obtain ⟨e0,e1,e2,e3,e4,e5⟩:=Yi h7
   obtain ⟨hwx,qx⟩:=hI.drew.q
   gi_wp2
   gi_region_with_o (first
    | (refine ⟨trivial, ?_⟩
       gi_at_call 195
       refine (CallsIn.inRound l (callsIn_wide.2 (Zba (ZiE (Ji (zs[zs.length - 1]?.getD none') x pre) x) Tryz.call195 qx.hwlt (ZdG hl hg qx) (ZpX (Zat _) (Zat _))))).mono ?_
       rintro e W5 ⟨v5,rfl,hw5,q5,r5⟩
       obtain rfl:=ZfT r5
       dsimp only[ivV]
       have f6:=hI.drew.kept hl qx q5
       have h7':W5.heap[k7]?=some (ivO v):=(q5.below.block _ (ZfU h7)).trans h7
       obtain ⟨m0,m1,m2,m3,m4,m5⟩:=Yi f6.o
       obtain ⟨l0,l1,l2,l3,l4,l5⟩:=Yi h7'
       obtain ⟨hw6,q6⟩:=f6.q)
    | (refine ⟨trivial, ?_⟩
       gi_at_call 128
       refine (CallsIn.inRound l (callsIn_wide.2 (Zba (ZnR (Zk (Ji (zs[zs.length - 1]?.getD none') x pre) x) v) Tryz.call128 q6.hwlt (ZdG hl hg q6) (ZpX (Zat _) (Zat _))))).mono ?_
       rintro e W7 ⟨v7,rfl,hw7,q7,r7⟩
       obtain rfl:=ZfT r7
       dsimp only[ivV]
       have f8:=f6.kept hl q6 q7
       obtain ⟨n0,n1,n2,n3,n4,n5⟩:=Yi f8.o))
   all_goals gi_wp2
   all_goals (have hR:=Zmu (B:=(W.alloc (.cells #[.slice (some ⟨b,off,none⟩) (zs.length - 1) cap] 172)).heap.size) (y:=add (Zk (Ji (zs[zs.length - 1]?.getD none') x pre) x) v) hI f8 q5 q7 (Bs:=W.heap.size) (by omega) (by omega))
   all_goals (exact ⟨hR.1,hR.2.1,by rw[Zmv];exact hR.2.2.1,QT_ hX hR.2.2.2⟩)
  case done=>
   rintro D ys X hD rfl ⟨hI,hX⟩ hK
   obtain ⟨a0,a1,a2,a3,a4,a5⟩:=Yi hI.o
   obtain ⟨b0,b1,b2,b3,b4,b5⟩:=Yi hI.r
   gi_wp2
   obtain ⟨y,hy⟩:∃y,Ji (zs[zs.length - 1]?.getD none') x (downto (List.take (zs.length - 1) zs) (zs.length - 1))=y:=⟨_,rfl⟩
   rw[hlen] at hI
   (try rw[hO])
   rw[hy]
   rw[hy] at hI
   simp at hD
   have hk:D≠w.heap.size+1:=by omega
   have hK':(Wl X (w.heap.size+1) y).heap[D]?=some (.deferred (some [])):=(ZbF X y hk).trans hK
   refine ⟨by simp,.inl ⟨_,_,rfl,run_takeDeferred hK', ?_⟩⟩
   have h4:((Wl X (w.heap.size+1) y).putObj D (.deferred none)).heap[w.heap.size+1]?=some (ivO y):=(World.putObj_heap_other (fun e=>hk e.symm)).trans (ZnT hI.r)
   obtain ⟨m0,m1,m2,_,_,_⟩:=Yi h4
   obtain ⟨hwf,qf⟩:=hI.q
   refine ⟨ivV y, ?_,rfl,hwf, ?_⟩
   ·show (results Tryz.f214 _).run Tryz.prog ((Wl X (w.heap.size+1) y).putObj D (.deferred none))= .ok (ivV y) ((Wl X (w.heap.size+1) y).putObj D (.deferred none))
    obtain ⟨Z,hZ⟩:∃Z,(Wl X (w.heap.size+1) y).putObj D (.deferred none)=Z:=⟨_,rfl⟩
    rw[hZ] at m0 m1 m2 ⊢
    simp[results,Tryz.f214,go_sem,m0,m1,m2,ivV]
   ·exact ⟨(Zdy qf.below (by omega) y).grown (grownBy_putObj' _ D _) (by have:=qf.below.size;rw[Zbb];omega) (fun k e=>by cases e;omega),qf.hw,fun k hk=>qf.hwlt k (by simp[Zbb] at hk;exact hk)⟩
  case stop=>
   rintro D c pre X _ _ h _
   exact h.elim
end Go.Men
namespace Go.Men
open Go Go.Ev Go.Proofs Go.RowKit
theorem Zkl(zs:List Iv)(x:Iv)(hz:0 < zs.length)(hreach:zs.length≤1000):
 Con Tryz.prog 214 [.lst (zs.map Iv.enc),.agg (Iv.enc x)] (.agg (Iv.enc (Ji (ZcI (zs[zs.length - 1]?.getD none')) x (downto (zs.take (zs.length - 1)) (zs.length - 1))))):=by
 intro hw w vals hl hgl ha
 obtain ⟨v1,v2,rfl⟩:∃v1 v2,vals=[v1,v2]:=by
  match vals,ha.len with
  | [a,b],_=>exact ⟨a,b,rfl⟩
 have r1:=ha.rep 0 v1 _ rfl rfl
 obtain rfl:=ZfT (ha.rep 1 v2 _ rfl rfl)
 refine .inr ⟨214,Tryz.call214 _ _, ?_⟩
 generalize hL:PV.lst (zs.map Iv.enc)=L at r1
 cases r1 with
 | lst xs blk off cap s c hcap hlen hc hr h1 hh=>
   cases hL
   have hs:s=3:=by
    obtain ⟨z,zz,rfl⟩:=List.exists_cons_of_length_pos hz
    exact (hlen 0 (Iv.enc z) rfl).symm
   subst hs
   simp only[Qk_] at hcap hh hc h1 ⊢
   have hb:blk < w.heap.size:=by
    by_cases h:blk < w.heap.size
    ·exact h
    ·have:=hl blk (by omega);omega
   refine (callsIn_wide.1 (Zxh hw w hl hgl blk off cap zs x hreach hz hcap hb (fun j hj=>?_))).mono ?_
   ·obtain ⟨z,hzj⟩:∃z,zs[j]?=some z:=⟨zs[j],by simp[hj]⟩
    have hx:(zs.map Iv.enc)[j]?=some (Iv.enc z):=by simp[hzj]
    have e0:=Z2 (hr j 0 _ _ hx rfl)
    have e1:=Z2 (hr j 1 _ _ hx rfl)
    have e2:=Z2 (hr j 2 _ _ hx rfl)
    rw[hzj]
    exact ⟨by have:=hc j 0 hj (by omega);rw[e0] at this;exact this,by have:=hc j 1 hj (by omega);rw[e1] at this;exact this,by have:=hc j 2 hj (by omega);rw[e2] at this;exact this⟩
   ·rintro e w' ⟨v,rfl,hw',q,rfl⟩
    exact ⟨_,rfl,hw',q,Zat _⟩
 | lnil=>
   injection hL with hL
   cases zs with
   | nil=>exact absurd hz (by simp)
   | cons a l=>simp at hL
 | _=>cases hL
theorem ZzN(l:K4)(x:Iv):Con Tryz.prog 214 [.lst [Iv.enc l.a,Iv.enc l.b,Iv.enc l.c,Iv.enc l.d],.agg (Iv.enc x)] (.agg (Iv.enc (Zj5 l x))):=
 Zkl [l.a,l.b,l.c,l.d] x (by simp) (by simp)
theorem ZzO(l:K3)(x:Iv):Con Tryz.prog 214 [.lst [Iv.enc l.a,Iv.enc l.b,Iv.enc l.c],.agg (Iv.enc x)] (.agg (Iv.enc (Zj6 l x))):=
 Zkl [l.a,l.b,l.c] x (by simp) (by simp)
theorem ZoG:Zi Tryz.prog 214 ZnK:=by
 intro args r ps h hp
 unfold ZnK at h
 split at h
 ·cases (Qa_ h)
  exact ZzN ⟨⟨_,_,_⟩,⟨_,_,_⟩,⟨_,_,_⟩,⟨_,_,_⟩⟩ ⟨_,_,_⟩
 ·exact absurd h (by simp)
theorem ZoH:Zi Tryz.prog 214 ZnL:=by
 intro args r ps h hp
 unfold ZnL at h
 split at h
 ·cases (Qa_ h)
  exact ZzO ⟨⟨_,_,_⟩,⟨_,_,_⟩,⟨_,_,_⟩⟩ ⟨_,_,_⟩
 ·exact absurd h (by simp)
#print axioms ZoG
#print axioms ZoH
end Go.Men
namespace Go.Men
open Go.Ev Go.Proofs Go.Proofs.YtfeldacghdcghaaGreatDoor
theorem Z5m:Zi Tryz.prog 214 Z7l:=Zrm ZoG (ZoH)
def Zdz(l:K4):=[l.a.enc,l.b.enc,l.c.enc,l.d.enc]
def Zxi(l:K4):=[(eIv (times l.b (1:Int))),(eIv (times l.c (2:Int))),(eIv (times l.d (3:Int)))]
def Zmw:=[vI 0,vI 0,vB false]
theorem ZzP(l:K4):Con Tryz.prog 215 [.lst [Iv.enc l.a,Iv.enc l.b,Iv.enc l.c,Iv.enc l.d]] (.lst [Iv.enc (ZcJ l).a,Iv.enc (ZcJ l).b,Iv.enc (ZcJ l).c]):=by
 refine cf0 (Za Zhc<|Ze) (fn:=Tryz.f215) rfl ?_
 refine sxT (fun Q=>(((0:Int)≤(0:Int)∧(Zdz l)[(0:Nat)]?=some (ZW Zmw ((Zdz l).getD (0:Nat) [])))∧(((0:Int)≤(1:Int)∧(Zdz l)[(1:Nat)]?=some (ZW Zmw ((Zdz l).getD (1:Nat) [])))∧(((0:Nat) < (1:Nat)∧((0:Nat)+(1:Nat))* (24:Nat)≤(140737488355328:Nat)∧Lens (3:Nat) [(eIv (times l.b (1:Int)))])∧(((0:Int)≤(2:Int)∧(Zdz l)[(2:Nat)]?=some (ZW Zmw ((Zdz l).getD (2:Nat) [])))∧(((0:Nat) < (1:Nat)∧((1:Nat)+(1:Nat))* (24:Nat)≤(140737488355328:Nat)∧Lens (3:Nat) [(eIv (times l.b (1:Int))),(eIv (times l.c (2:Int)))])∧(((0:Int)≤(3:Int)∧(Zdz l)[(3:Nat)]?=some (ZW Zmw ((Zdz l).getD (3:Nat) [])))∧(((0:Nat) < (1:Nat)∧((2:Nat)+(1:Nat))* (24:Nat)≤(140737488355328:Nat)∧Lens (3:Nat) (Zxi l))∧Q (PV.lst ((Zxi l))))))))))) (fun _=>by kernel_rfl) ?_
 delta Qn Zdz Zxi Zmw eIv vI vB
 refine ⟨?r6,⟨?r5,⟨?r4,⟨?r3,⟨?r2,⟨?r1,⟨?r0, ?_⟩⟩⟩⟩⟩⟩⟩
 case r0|r1|r2|r3|r4|r5|r6=>first | rfl | (exact ⟨by decide,rfl⟩) | (exact ⟨by decide,by decide,by simp[Ev.Lens]⟩)
 all_goals rfl
theorem Z5n:Zi Tryz.prog 215 Z4E:=by
 intro args r ps h hp
 unfold Z4E at h
 split at h
 ·rename_i p1 p2 p3 p4 p5 p6 p7 p8 p9 p10 p11 p12
  cases (Qa_ h)
  exact ZzP (⟨⟨p1,p2,p3⟩,⟨p4,p5,p6⟩,⟨p7,p8,p9⟩,⟨p10,p11,p12⟩⟩:K4)
 ·exact absurd h (by simp)
theorem Z5o:Zi Tryz.prog 213 Z7m:=Zj<|Zg fun s=>Zg fun r2=>EZ0<|by
 refine cf0 (Za Zfj<|Za ZbD<|Za ZcR<|Za ZbC<|Za Zmr<|Za Zas<|Za Ze1<|Za Zhc<|Ze) (fn:=Tryz.f213) rfl ?_
 refine sxT (fun Q=>Q (PV.tup [PV.agg (eIv (Zo (Zk s.curve r2) (add (point (65536:Int)) (ZQ (sub (point (65536:Int)) (Zk (Zk s.conic (sqr s.curve)) r2)))))),PV.agg (eIv (Zo s.curve (times (ZQ (sub (point (65536:Int)) (Zk (Zk s.conic (sqr s.curve)) r2))) (2:Int))))])) (fun _=>by kernel_rfl) ?_
 delta Qn eIv vI vB
 refine ?_
 all_goals rfl
def Zsg(s:Surf)(o:V)(d:V):=WD (Zk s.curve (add (add (sqr d.x) (sqr d.y)) (Zk s.conic (sqr d.z)))) (sub (Zk s.curve (add (add (Zk o.x d.x) (Zk o.y d.y)) (Zk s.conic (Zk o.z d.z)))) d.z) (sub (Zk s.curve (add (add (sqr o.x) (sqr o.y)) (Zk s.conic (sqr o.z)))) (times o.z (2:Int)))
theorem Z5p:Zi Tryz.prog 188 Z7n:=Zj<|Zg fun s=>Zg fun o=>Zg fun d=>EZ0<|by
 refine cf0 (Za ZbD<|Za Zas<|Za ZcR<|Za ZbC<|Za Zhc<|Za ZzC<|Ze) (fn:=Tryz.f188) rfl ?_
 refine sxT (fun Q=>Q (PV.tup [PV.agg (eIv (Zsg s o d).fst),vI (Zsg s o d).snd])) (fun _=>by kernel_rfl) ?_
 delta Qn Zsg eIv vI vB
 refine ?_
 all_goals rfl
def ZiF:=PV.tup [PV.agg [vI 0,vI 0,vB true],PV.agg [vI 0,vI 0,vB true]]
def Zsh(s:Surf)(r2:Iv):=add (XF s r2).snd (Zo (Zj6 (ZcJ (K4.mk (point (0:Int)) (point (0:Int)) s.a4 s.a6)) (Zo r2 (whole (1000:Int)))) (whole (1000:Int)))
def Zsi(s:Surf)(r2:Iv):=add (XF s r2).fst (Zj5 (K4.mk (point (0:Int)) (point (0:Int)) s.a4 s.a6) (Zo r2 (whole (1000:Int))))
theorem ZzQ:Zi Tryz.prog 198 Z7o:=Zj<|Zg fun s=>Zg fun r2=>EZ0<|by
 refine cf0 (Za Z5o<|Za ZwC<|Za Ze1<|Za Zfj<|Za Z5m<|Za Zas<|Za Z5n<|Za Xe<|Ze) (fn:=Tryz.f198) rfl ?_
 refine sxT (fun Q=>(((WE s)=s.enc)∧(bif s.bent then (bif (Zsi s r2).no then Q ZiF else (bif (Zsh s r2).no then Q ZiF else Q (PV.tup [PV.agg (eIv (Zsi s r2)),PV.agg (eIv (Zsh s r2))]))) else (bif (XF s r2).fst.no then Q ZiF else (bif (XF s r2).snd.no then Q ZiF else Q (PV.tup [PV.agg (eIv (XF s r2).fst),PV.agg (eIv (XF s r2).snd)])))))) (fun _=>by kernel_rfl) ?_
 delta Qn ZiF Zsh Zsi eIv WE vI vB
 refine ⟨?r0,Zb (fun h0=>Zb (fun h1=>?_) (fun h1=>Zb (fun h2=>?_) (fun h2=>?_))) (fun h0=>Zb (fun h1=>?_) (fun h1=>Zb (fun h2=>?_) (fun h2=>?_)))⟩
 case r0=>rfl
 all_goals (simp only[sag,sag,Zru,Z1i,Z1j,ZK,ZC,List.foldl,Qr_,Qp_,Ql_,Qn_,Q5_,Q4_,Qw_,Q3_,Qu_,Qt_,Qb_,Qd_,QD_,Q8_, *];first | rfl | (simp only[nz,nzA,nz1,QE_,QN_,Iv.enc,V.enc,Ray.enc, *];done))
theorem Z5q:Zi Tryz.prog 166 Z7p:=Zj<|Zg fun s=>Zg fun p=>EZ0<|by
 refine cf0 (Za Zfj<|Za ZcR<|Za Zzx<|Za ZbC<|Za Zc0<|Za Z2K<|Za ZbD<|Za Zas<|Za ZzQ<|Za Zhc<|Ze) (fn:=Tryz.f166) rfl ?_
 refine sxT (fun Q=>(bif !s.bent then Q (PV.agg (eV (unit (V.mk (neg (Zk s.curve p.x)) (neg (Zk s.curve p.y)) (sub (point (65536:Int)) (Zk s.curve (Zk s.conic p.z))))))) else (((WE s)=s.enc)∧Q (PV.agg (eV (unit (V.mk (neg (times (Zk (sag s (add (sqr p.x) (sqr p.y))).snd p.x) (2:Int))) (neg (times (Zk (sag s (add (sqr p.x) (sqr p.y))).snd p.y) (2:Int))) (point (65536:Int))))))))) (fun _=>by kernel_rfl) ?_
 delta Qn eV WE vI vB
 refine Zb (fun h0=>?_) (fun h0=>⟨?r0, ?_⟩)
 case r0=>rfl
 all_goals (try simp only[Qi_,Qf_,bne] at *)
 all_goals (simp only[ZaD,ZK,ZC,List.foldl,Qr_,Qp_,Ql_,Qn_,Q5_,Q4_,Qw_,Q3_,Qu_,Qt_,Qb_,Qd_,QD_,Q8_, *];rfl)
def Zsj:=[vI 0,vI 0,vB true,vI 0,vI 0,vB true,vI 0,vI 0,vB true]
def ZfV:=PV.tup [PV.agg Zsj,vI 0]
def ZfW(d:V)(n:V)(ratio:Iv):=sub (point (65536:Int)) (Zk (sqr ratio) (sub (point (65536:Int)) (sqr (dot d n))))
theorem Z5r:Zi Tryz.prog 165 Z7q:=Zj<|Zg fun d=>Zg fun n=>Zg fun ratio=>EZ0<|by
 refine cf0 (Za Zfj<|Za ZzD<|Za Z5i<|Za ZbD<|Za ZbC<|Za ZcR<|Za ZzL<|Za Zmr<|Za ZzK<|Za Zse<|Ze) (fn:=Tryz.f165) rfl ?_
 refine sxT (fun Q=>(bif (dot d n).no then Q ZfV else (bif decide ((dot d n).lo≤(0:Int)) then Q ZfV else (bif (ZfW d n ratio).no then Q ZfV else (bif decide ((ZfW d n ratio).hi < (0:Int)) then Q (PV.tup [PV.agg Zsj,vI 2]) else (bif decide ((ZfW d n ratio).lo < (0:Int)) then Q ZfV else (bif !YN (ZgG (Jp d ratio) (Jp n (sub (ZQ (ZfW d n ratio)) (Zk ratio (dot d n))))) then Q ZfV else Q (PV.tup [PV.agg (eV (ZgG (Jp d ratio) (Jp n (sub (ZQ (ZfW d n ratio)) (Zk ratio (dot d n)))))),vI 1])))))))) (fun _=>by kernel_rfl) ?_
 delta Qn ZfV ZfW Zsj eV vI vB
 refine Zb (fun h0=>?_) (fun h0=>Zb (fun h1=>?_) (fun h1=>Zb (fun h2=>?_) (fun h2=>Zb (fun h3=>?_) (fun h3=>Zb (fun h4=>?_) (fun h4=>Zb (fun h5=>?_) (fun h5=>?_))))))
 all_goals (try simp only[Z41,Z4v,Bool.not_not,Qi_,Qf_,Qc_,Qe_] at *)
 all_goals simp only[bend,Zbv,ZgL, *,QD_,Q8_,Q5_,Q4_,Q3_,Bool.or_self,Qb_,Qd_]
 all_goals rfl
theorem Zsk:Zi Tryz.prog 211 Z4F:=Zj<|Zg fun t=>Zg fun r=>Zg fun s=>EZ0<|by
 refine cf0 (Za ZzM<|Za ZbD<|Za Zas<|Za ZzQ<|Za ZcR<|Za Zhc<|Za ZbC<|Ze) (fn:=Tryz.f211) rfl ?_
 refine sxT (fun Q=>(((WE s)=s.enc)∧Q (PV.tup [PV.agg (eIv (sub (along r t).z (sag s (add (sqr (along r t).x) (sqr (along r t).y))).fst)),PV.agg (eIv (sub r.d.z (Zk (sag s (add (sqr (along r t).x) (sqr (along r t).y))).snd (times (add (Zk (along r t).x r.d.x) (Zk (along r t).y r.d.y)) (2:Int)))))]))) (fun _=>by kernel_rfl) ?_
 delta Qn eIv WE vI vB
 refine ⟨?r0, ?_⟩
 case r0=>rfl
 all_goals rfl
theorem Z5s(r:Ray)(s:Surf)(t:Iv):Con Tryz.prog 221 [.fn 211 [.lptr (Ray.enc r) 0,.lptr (Surf.enc s) 0],.agg (Iv.enc t)] (.v (.bool (ZgK (Zv s r t).1))):=by
 refine cf0 (Za Zab<|Za Zzy<|Za Zsk<|Ze) (fn:=Tryz.f221) rfl ?_
 refine sxT (fun Q=>((r.enc=r.enc)∧((s.enc=s.enc)∧(bif right (Zv s r t).fst then Q (vB (!Men.has (Zv s r t).fst (0:Int))) else Q (vB false))))) (fun _=>by kernel_rfl) ?_
 delta Qn vB
 refine ⟨?r1,⟨?r0,Zb (fun h0=>?_) (fun h0=>?_)⟩⟩
 case r0|r1=>rfl
 all_goals simp only[ZgK, *]
 all_goals rfl
theorem Z5t:Zi Tryz.prog 221 Z1y:=by
 intro args r ps h hp
 unfold Z1y at h
 split at h
 ·rename_i p1 p2 p3 p4 p5
  cases (Qa_ h)
  exact by
   have hq:=Z5s (Ray.dec p1) (Surf.dec p2) (⟨p3,p4,p5⟩:Iv)
   rw[←(show p1=Ray.enc (Ray.dec p1) from hp _ (by simp))] at hq
   rw[←(show p2=Surf.enc (Surf.dec p2) from hp _ (by simp))] at hq
   exact hq
 ·exact absurd h (by simp)
def Z3K:=YC [(62,e62),(218,Z4C),(35,e35),(124,Z48),(99,e99),(219,Z4B),(64,e64),(220,Z4D),(221,Z1y),(211,Z4F)]
set_option maxHeartbeats 1000000 in
def Zd0(r:Ray)(s:Surf)(t:Iv):=sub (point (ZI t)) (Zo (Zv s r (point (ZI t))).fst (Zv s r t).snd)
def ZbG(r:Ray)(s:Surf)(t:Iv):=Jo t (Zd0 r s t)
def ZpY(r:Ray)(s:Surf)(t:Iv)(z:Iv)(x11:Iv)(x12:Iv):=[(4,(eIv (ZbG r s t))),(6,(eIv z)),(8,(eIv (Zd0 r s t))),(9,(eIv (point (ZI t)))),(10,(eIv (ZbG r s t))),(11,(eIv x11)),(12,(eIv x12)),(13,(eIv (Zv s r (point (ZI t))).fst)),(14,(eIv (Zv s r t).snd))]
def Zmx(k:Int):=vI (IntKind.i64.wrap (k - (1:Int)))
def Zmy(r:Ray)(s:Surf):=PV.fn (211:FuncId) [PV.lptr (Zcm r) 0,PV.lptr (WE s) 0]
def Zxj(k:Int)(sure:Bool)(r:Ray)(s:Surf):=[(16,AV.p (Zmx k)),(4,AV.ptr 4 0),(6,AV.ptr 6 0),(8,AV.ptr 8 0),(9,AV.ptr 9 0),(10,AV.ptr 10 0),(11,AV.ptr 11 0),(12,AV.ptr 12 0),(13,AV.ptr 13 0),(14,AV.ptr 14 0),(15,AV.p (vB sure)),(0,AV.p (Zmy r s))]
def ZpZ:Option St:=some ⟨95,[(6,AV.ptr 6 0),(7,pI 2)],[(6,[vI 0,vI 0,vB true])],[],[],[]⟩
def Zqa(r:Ray)(s:Surf)(t:Iv):=(ZbG r s t).hi==t.hi&&((ZbG r s t).no==t.no&&true)
def Zxk(sure:Bool)(t:Iv)(z:Iv):Option St:=some ⟨95,[(6,AV.ptr 6 0),(4,AV.ptr 4 0),(15,AV.p (vB sure))],[(6,(eIv z)),(4,(eIv t))],[],[],[]⟩
theorem Zsl:CSOk Tryz.prog Z3K:=Za Zab<|Za ZzJ<|Za Zfj<|Za Ze1<|Za ZbC<|Za Z5e<|Za Xe<|Za Z5f<|Za Z5t<|Za Zsk<|Ze
set_option maxHeartbeats 1000000 in
theorem Zxl:Yt Tryz.prog (Zt Tryz.f212 0) Zfd:=by
 refine Zch Zl.Γ (Z6 Zl Zsl ZA Z7 (ZdA (G:=(Gx.mk [] [] [] [233] [])) (Zd9) (ZuG Tryz.underlying233<|ZdV)) (LS:=[]) (ZV (l:=[]) (by kernel_rfl) Zu) (n:=2000) (U13 Zo8) (U13 Zfc) (fun x e s=>((U13 WX x=true∧e= .ret∧s=U13 Ziv x)∨(U13 WX x=false∧((U13 JG x=true∧e= .goto 0∧s=U13 Zfb x)∨(U13 JG x=false∧e= .exit 0∧s=U13 Zfa x))))) (fun x=>x.1.toNat) Ziu Zw3 Zw4 (fun x hx=>?_)) Ziu ?_
 ·obtain ⟨k,sure,r,s,t,z,x8,x9,x10,x11,x12,x13,x14⟩:=x
  simp only[U13,Zfc] at hx
  refine sxT (fun Q=>(bif decide (k > (0:Int)) then ((r.enc=r.enc)∧((s.enc=s.enc)∧((r.enc=r.enc)∧((s.enc=s.enc)∧(bif (Zd0 r s t).no then ((r.enc=r.enc)∧((s.enc=s.enc)∧(bif ZgK (Zv s r (YG t).fst).fst then Q (Ex.normal) (some ⟨95,(Zxj k sure r s),[(4,(eIv (YG t).snd)),(6,(eIv z)),(8,(eIv (Zd0 r s t))),(9,(eIv (point (ZI t)))),(10,(eIv x10)),(11,(eIv (YG t).fst)),(12,(eIv (YG t).snd)),(13,(eIv (Zv s r (point (ZI t))).fst)),(14,(eIv (Zv s r t).snd))],[],[],[]⟩) else ((r.enc=r.enc)∧((s.enc=s.enc)∧(bif !ZgK (Zv s r (YG t).snd).fst then Q (Ex.goto (0:Nat)) (Zxk sure t z) else Q (Ex.normal) (some ⟨95,(Zxj k sure r s),[(4,(eIv (YG t).fst)),(6,(eIv z)),(8,(eIv (Zd0 r s t))),(9,(eIv (point (ZI t)))),(10,(eIv x10)),(11,(eIv (YG t).fst)),(12,(eIv (YG t).snd)),(13,(eIv (Zv s r (point (ZI t))).fst)),(14,(eIv (Zv s r t).snd))],[],[],[]⟩))))))) else (bif sure then (bif (ZbG r s t).no then Q (Ex.ret) ZpZ else (bif (ZbG r s t).lo==t.lo&&(Zqa r s t) then Q (Ex.exit (0:Nat)) (some ⟨95,[(6,AV.ptr 6 0),(4,AV.ptr 4 0),(15,AV.p (vB true))],[(6,(eIv z)),(4,(eIv t))],[],[],[]⟩) else Q (Ex.normal) (some ⟨95,[(16,AV.p (Zmx k)),(4,AV.ptr 4 0),(6,AV.ptr 6 0),(8,AV.ptr 8 0),(9,AV.ptr 9 0),(10,AV.ptr 10 0),(11,AV.ptr 11 0),(12,AV.ptr 12 0),(13,AV.ptr 13 0),(14,AV.ptr 14 0),(15,AV.p (vB true)),(0,AV.p (Zmy r s))],(ZpY r s t z x11 x12),[],[],[]⟩))) else (bif decide (t.lo < (Zd0 r s t).lo) then (bif (ZbG r s t).no then Q (Ex.ret) ZpZ else (bif (ZbG r s t).lo==t.lo&&(Zqa r s t) then Q (Ex.exit (0:Nat)) (some ⟨95,[(6,AV.ptr 6 0),(4,AV.ptr 4 0),(15,AV.p (vB (decide ((Zd0 r s t).hi < t.hi))))],[(6,(eIv z)),(4,(eIv t))],[],[],[]⟩) else Q (Ex.normal) (some ⟨95,[(16,AV.p (Zmx k)),(4,AV.ptr 4 0),(6,AV.ptr 6 0),(8,AV.ptr 8 0),(9,AV.ptr 9 0),(10,AV.ptr 10 0),(11,AV.ptr 11 0),(12,AV.ptr 12 0),(13,AV.ptr 13 0),(14,AV.ptr 14 0),(15,AV.p (vB (decide ((Zd0 r s t).hi < t.hi)))),(0,AV.p (Zmy r s))],(ZpY r s t z x11 x12),[],[],[]⟩))) else (bif (ZbG r s t).no then Q (Ex.ret) ZpZ else (bif (ZbG r s t).lo==t.lo&&(Zqa r s t) then Q (Ex.exit (0:Nat)) (some ⟨95,[(6,AV.ptr 6 0),(4,AV.ptr 4 0),(15,AV.p (vB false))],[(6,(eIv z)),(4,(eIv t))],[],[],[]⟩) else Q (Ex.normal) (some ⟨95,[(16,AV.p (Zmx k)),(4,AV.ptr 4 0),(6,AV.ptr 6 0),(8,AV.ptr 8 0),(9,AV.ptr 9 0),(10,AV.ptr 10 0),(11,AV.ptr 11 0),(12,AV.ptr 12 0),(13,AV.ptr 13 0),(14,AV.ptr 14 0),(15,AV.p (vB false)),(0,AV.p (Zmy r s))],(ZpY r s t z x11 x12),[],[],[]⟩)))))))))) else Q (Ex.exit (0:Nat)) (Zxk sure t z))) (fun _=>by kernel_rfl) ?_
  delta Zd0 ZpY Zxj ZpZ Zmy Zqa Zmx ZbG Zxk eIv Zcm WE vI vB pI
  refine Zb (fun h0=>⟨?r7,⟨?r6,⟨?r5,⟨?r4,Zb (fun h1=>⟨?r3,⟨?r2,Zb (fun h2=> .inl ⟨rfl,(IntKind.i64.wrap (k - (1:Int)),sure,r,s,(YG t).snd,z,(sub (point (ZI t)) (Zo (Zv s r (point (ZI t))).fst (Zv s r t).snd)),(point (ZI t)),x10,(YG t).fst,(YG t).snd,(Zv s r (point (ZI t))).fst,(Zv s r t).snd),rfl, ?_, ?_, ?_⟩) (fun h2=>⟨?r1,⟨?r0,Zb (fun h3=> .inr ⟨by simp,_,rfl, ?_⟩) (fun h3=> .inl ⟨rfl,(IntKind.i64.wrap (k - (1:Int)),sure,r,s,(YG t).fst,z,(sub (point (ZI t)) (Zo (Zv s r (point (ZI t))).fst (Zv s r t).snd)),(point (ZI t)),x10,(YG t).fst,(YG t).snd,(Zv s r (point (ZI t))).fst,(Zv s r t).snd),rfl, ?_, ?_, ?_⟩)⟩⟩)⟩⟩) (fun h1=>Zb (fun h2=>Zb (fun h3=> .inr ⟨by simp,_,rfl, ?_⟩) (fun h3=>Zb (fun h4=> .inr ⟨by simp,_,rfl, ?_⟩) (fun h4=> .inl ⟨rfl,(IntKind.i64.wrap (k - (1:Int)),true,r,s,(Jo t (sub (point (ZI t)) (Zo (Zv s r (point (ZI t))).fst (Zv s r t).snd))),z,(sub (point (ZI t)) (Zo (Zv s r (point (ZI t))).fst (Zv s r t).snd)),(point (ZI t)),(Jo t (sub (point (ZI t)) (Zo (Zv s r (point (ZI t))).fst (Zv s r t).snd))),x11,x12,(Zv s r (point (ZI t))).fst,(Zv s r t).snd),rfl, ?_, ?_, ?_⟩))) (fun h2=>Zb (fun h3=>Zb (fun h4=> .inr ⟨by simp,_,rfl, ?_⟩) (fun h4=>Zb (fun h5=> .inr ⟨by simp,_,rfl, ?_⟩) (fun h5=> .inl ⟨rfl,(IntKind.i64.wrap (k - (1:Int)),decide ((sub (point (ZI t)) (Zo (Zv s r (point (ZI t))).fst (Zv s r t).snd)).hi < t.hi),r,s,(Jo t (sub (point (ZI t)) (Zo (Zv s r (point (ZI t))).fst (Zv s r t).snd))),z,(sub (point (ZI t)) (Zo (Zv s r (point (ZI t))).fst (Zv s r t).snd)),(point (ZI t)),(Jo t (sub (point (ZI t)) (Zo (Zv s r (point (ZI t))).fst (Zv s r t).snd))),x11,x12,(Zv s r (point (ZI t))).fst,(Zv s r t).snd),rfl, ?_, ?_, ?_⟩))) (fun h3=>Zb (fun h4=> .inr ⟨by simp,_,rfl, ?_⟩) (fun h4=>Zb (fun h5=> .inr ⟨by simp,_,rfl, ?_⟩) (fun h5=> .inl ⟨rfl,(IntKind.i64.wrap (k - (1:Int)),false,r,s,(Jo t (sub (point (ZI t)) (Zo (Zv s r (point (ZI t))).fst (Zv s r t).snd))),z,(sub (point (ZI t)) (Zo (Zv s r (point (ZI t))).fst (Zv s r t).snd)),(point (ZI t)),(Jo t (sub (point (ZI t)) (Zo (Zv s r (point (ZI t))).fst (Zv s r t).snd))),x11,x12,(Zv s r (point (ZI t))).fst,(Zv s r t).snd),rfl, ?_, ?_, ?_⟩)))))⟩⟩⟩⟩) (fun h0=> .inr ⟨by simp,_,rfl, ?_⟩)
  case r0|r1|r2|r3|r4|r5|r6|r7=>rfl
  all_goals try dsimp only[U13]
  all_goals (obtain ⟨a1,a2⟩:=hx;try simp only[Qc_,Qe_] at h0)
  all_goals obtain ⟨A,hA⟩:∃A,X5 (Zv s r) k.toNat t sure=A:=⟨_,rfl⟩
  all_goals have en:=hA
  all_goals first | (rw[show k.toNat=(k - 1).toNat+1 by omega] at en) | (rw[show k.toNat=0 by omega] at en)
  all_goals (try change Z1k _ _=_ at h4)
  all_goals (try change Z1k _ _=_ at h5)
  all_goals simp only[X5,Zk9,Zwh] at en
  all_goals (try simp only[Qi_,Qf_] at h3)
  all_goals (try simp only[Qc_,Qe_] at h3)
  all_goals (try rw[QH_ h3] at en)
  all_goals (try simp only[*,QD_,Q8_,Qb_,Qd_,Q4_,Qw_,Qp_,Ql_,Qr_,Qn_] at en)
  all_goals have en:=hA.trans en.symm
  all_goals (try have hw:IntKind.i64.wrap (k - 1)=k - 1:=Zf (by constructor<;>omega))
  all_goals first | (exact ⟨by omega,by omega⟩) | (show (IntKind.i64.wrap (k - 1)).toNat < k.toNat;omega) | (simp only[U13,WX,JG,Ziv,Zfb,Zfa,hw,en];exact fun e s h=>h) | (exact .inl ⟨by simp only[U13,WX,en];rfl,by trivial,rfl⟩) | (exact .inr ⟨by simp only[U13,WX,en];rfl,.inl ⟨by simp only[U13,JG,en];rfl,by trivial,by (simp only[U13,Zfb,en])<;>rfl⟩⟩) | (exact .inr ⟨by simp only[U13,WX,en];rfl,.inr ⟨by simp only[U13,JG,en];rfl,by trivial,by (simp only[U13,Zfa,en])<;>rfl⟩⟩)
 ·intro σ K hS
  unfold Zfd at hS
  split at hS
  ·rename_i p1 p2 p3 p4 p5 p6 p7 p8 p9 p10 p11 p12 p13 hk
   obtain ⟨hi,hK⟩:=XW hS
   refine ⟨(p1,p2,(Ray.dec p3),(Surf.dec p4),(Iv.dec p5),(Iv.dec p6),(Iv.dec p7),(Iv.dec p8),(Iv.dec p9),(Iv.dec p10),(Iv.dec p11),(Iv.dec p12),(Iv.dec p13)),by
    simp only[Zo8]
    rw[←(show p3=Ray.enc (Ray.dec p3) from hi _ (by simp))]
    rw[←(show p4=Surf.enc (Surf.dec p4) from hi _ (by simp))]
    rw[←(show p5=Iv.enc (Iv.dec p5) from hi _ (by simp))]
    rw[←(show p6=Iv.enc (Iv.dec p6) from hi _ (by simp))]
    rw[←(show p7=Iv.enc (Iv.dec p7) from hi _ (by simp))]
    rw[←(show p8=Iv.enc (Iv.dec p8) from hi _ (by simp))]
    rw[←(show p9=Iv.enc (Iv.dec p9) from hi _ (by simp))]
    rw[←(show p10=Iv.enc (Iv.dec p10) from hi _ (by simp))]
    rw[←(show p11=Iv.enc (Iv.dec p11) from hi _ (by simp))]
    rw[←(show p12=Iv.enc (Iv.dec p12) from hi _ (by simp))]
    rw[←(show p13=Iv.enc (Iv.dec p13) from hi _ (by simp))]
    exact hk,hi _ (by simp),fun e s hf=>?_⟩
   dsimp only[U13] at hf
   rcases hf with ⟨hc,rfl,rfl⟩ | ⟨hc,hf⟩
   ·rw[hc] at hK;exact hK
   ·rw[hc] at hK;rcases hf with ⟨hd,rfl,rfl⟩ | ⟨hd,rfl,rfl⟩<;>(rw[hd] at hK;exact hK)
  ·exact hS.elim
theorem ZzR:ZF Tryz.prog [(6,Zfd)] Tryz.f212:=ZN (l:=[Zt Tryz.f212 0]) (by kernel_rfl) (ZE (i:=6) (by kernel_rfl) rfl Zxl (Zu))
def q14_10:=Iv.mk (0:Int) (0:Int) false
def ZzS:=[vI 0,vI 0,vB false]
def ZbH:=ZzS=q14_10.enc
def Zmz:=PV.tup [PV.agg [vI 0,vI 0,vB true],vI 0]
set_option maxHeartbeats 1000000 in
theorem ZzT(r:Ray)(s:Surf)(t:Iv):Con Tryz.prog 212 [.fn 211 [.lptr (Ray.enc r) 0,.lptr (Surf.enc s) 0],.agg (Iv.enc t),.v (.int .i64 20)] (.tup [.agg (Iv.enc ((solve (Zv s r) t 20).1)),.v (.int .i64 ((solve (Zv s r) t 20).2))]):=by
 refine ZaG Zl Zsl ZA Z7 (ZdA (G:=(Gx.mk [] [] [] [233] [])) (Zd9) (ZuG Tryz.underlying233<|ZdV)) (n:=2000) (LS:=[(6,Zfd)]) (fn:=Tryz.f212) rfl ZzR ?_
 refine sxT (fun Q=>(bif !right t then Q Zmz else ((r.enc=r.enc)∧((s.enc=s.enc)∧(((eIv t)=t.enc)∧(ZbH∧(ZbH∧(ZbH∧(ZbH∧(ZbH∧(ZbH∧(ZbH∧(ZbH∧((Zfc (20:Int) false r s t q14_10 q14_10 q14_10 q14_10 q14_10 q14_10 q14_10 q14_10)∧(bif WX (20:Int) false r s t q14_10 q14_10 q14_10 q14_10 q14_10 q14_10 q14_10 q14_10 then Q (PV.tup [PV.agg [vI 0,vI 0,vB true],vI 2]) else (bif JG (20:Int) false r s t q14_10 q14_10 q14_10 q14_10 q14_10 q14_10 q14_10 q14_10 then Q Zmz else (bif (X5 (Zv s r) (20:Nat) t false).snd.snd then Q (PV.tup [PV.agg (eIv (X5 (Zv s r) (20:Nat) t false).snd.fst),vI 1]) else Q Zmz))))))))))))))))) (fun _=>by kernel_rfl) ?_
 delta Qn q14_10 ZzS ZbH Zmz eIv vI vB
 refine Zb (fun h0=>?_) (fun h0=>⟨?r10,⟨?r9,⟨?r8,⟨?r7,⟨?r6,⟨?r5,⟨?r4,⟨?r3,⟨?r2,⟨?r1,⟨?r0,⟨?_,Zb (fun h1=>?_) (fun h1=>Zb (fun h2=>?_) (fun h2=>Zb (fun h3=>?_) (fun h3=>?_)))⟩⟩⟩⟩⟩⟩⟩⟩⟩⟩⟩⟩)
 case r0|r1|r2|r3|r4|r5|r6|r7|r8|r9|r10=>rfl
 ·simp only[Qi_] at h0
  simp only[solve,h0,Qd_];rfl
 ·exact ⟨by decide,by decide⟩
 all_goals have e0:solve (Zv s r) t 20=Zwi (X5 (Zv s r) 20 t false):=(by simp only[Qf_] at h0;unfold solve newt;rw[h0];rfl)
 all_goals rw[e0]
 all_goals (try change ((X5 (Zv s r) 20 t false).1==1)=_ at h1)
 all_goals (try change ((X5 (Zv s r) 20 t false).1==2)=_ at h2)
 all_goals unfold Zwi ZyM
 ·rw[h1];rfl
 ·rw[h1,h2];rfl
 ·rw[h1,h2,h3];rfl
 ·rw[h1,h2,h3];rfl
theorem Z5u:Zi Tryz.prog 212 Z4G:=by
 intro args r ps h hp
 unfold Z4G at h
 split at h
 ·rename_i p1 p2 p3 p4 p5
  cases (Qa_ h)
  exact by
   have hq:=ZzT (Ray.dec p1) (Surf.dec p2) (⟨p3,p4,p5⟩:Iv)
   rw[←(show p1=Ray.enc (Ray.dec p1) from hp _ (by simp))] at hq
   rw[←(show p2=Surf.enc (Surf.dec p2) from hp _ (by simp))] at hq
   exact hq
 ·exact absurd h (by simp)
def Zsm(s:Surf)(r:Ray)(t:Iv):=solve (Zv s r) (of (IntKind.i64.wrap (t.lo - (65536:Int))) (IntKind.i64.wrap (t.hi+(65536:Int)))) (20:Int)
theorem Z5v:Zi Tryz.prog 189 Z7r:=Zj<|Zg fun s=>Zg fun r=>Zg fun t=>EZ1 fun hp0=>by
 refine cf0 (Za Zac<|Za Z5u<|Za Xe<|Za Zsk<|Ze) (fn:=Tryz.f189) rfl ?_
 refine sxT (fun Q=>(((Zcm r)=r.enc)∧(((WE s)=s.enc)∧(bif (Zsm s r t).snd !=(1:Int) then Q (PV.tup [PV.agg [vI 0,vI 0,vB true],vI 0]) else Q (PV.tup [PV.agg (eIv (Zsm s r t).fst),vI 1]))))) (fun _=>by kernel_rfl) ?_
 delta Qn Zsm eIv Zcm WE vI vB
 refine ⟨?r1,⟨?r0,Zb (fun h0=>?_) (fun h0=>?_)⟩⟩
 case r0|r1=>rfl
 all_goals have hb:=Xh hp0
 all_goals simp only[Zf (show Fit (t.lo - 65536) by constructor<;>omega),Zf (show Fit (t.hi+65536) by constructor<;>omega),bne,Qi_,Qf_] at *
 all_goals simp only[ZaR, *,Qb_,Qd_]
 all_goals rfl
def Ze2(s:Surf)(r:Ray):=V.mk r.o.x r.o.y (sub r.o.z s.pos)
def ZbI(s:Surf)(r:Ray):=W9 s (Ze2 s r) r.d
def Zsn:=PV.tup [PV.agg [vI 0,vI 0,vB true],PV.agg [vI 0,vI 0,vB true,vI 0,vI 0,vB true,vI 0,vI 0,vB true],vI 0]
def Zso(s:Surf)(r:Ray)(Q:PV→Prop):Prop:=bif (ZbI s r).snd !=(1:Int) then Q (PV.tup [PV.agg (eIv none'),PV.agg (eV noV),vI (ZbI s r).snd]) else (bif !YN (along (Ray.mk (Ze2 s r) r.d) (ZbI s r).fst) then Q Zsn else Q (PV.tup [PV.agg (eIv (ZbI s r).fst),PV.agg (eV (along (Ray.mk (Ze2 s r) r.d) (ZbI s r).fst)),vI 1]))
def ZfX(s:Surf)(r:Ray):=ZaR s (Ray.mk (Ze2 s r) r.d) (ZbI s r).fst
theorem Z5w:Zi Tryz.prog 163 Z7s:=Zj<|Zg fun s=>Zg fun r=>EZ0<|by
 refine cf0 (Za ZbC<|Za Z5p<|Za Z5v<|Za Z5k<|Za ZzM<|Za Zse<|Ze) (fn:=Tryz.f163) rfl ?_
 refine sxT (fun Q=>(((WE s)=s.enc)∧(bif s.bent then (bif (ZbI s r).snd==(1:Int) then (((WE s)=s.enc)∧((right (ZbI s r).fst=true)∧(bif (ZfX s r).snd !=(1:Int) then Q (PV.tup [PV.agg (eIv none'),PV.agg (eV noV),vI (ZfX s r).snd]) else (bif !YN (along (Ray.mk (Ze2 s r) r.d) (ZfX s r).fst) then Q Zsn else Q (PV.tup [PV.agg (eIv (ZfX s r).fst),PV.agg (eV (along (Ray.mk (Ze2 s r) r.d) (ZfX s r).fst)),vI 1]))))) else (Zso s r Q)) else (Zso s r Q)))) (fun _=>by kernel_rfl) ?_
 delta Qn Ze2 Zso ZfX Zsn ZbI eIv eV WE vI vB
 refine ⟨?r2,Zb (fun h0=>Zb (fun h1=>⟨?r1,⟨?r0,Zb (fun h2=>?_) (fun h2=>Zb (fun h3=>?_) (fun h3=>?_))⟩⟩) (fun h1=>Zb (fun h2=>?_) (fun h2=>Zb (fun h3=>?_) (fun h3=>?_)))) (fun h0=>Zb (fun h1=>?_) (fun h1=>Zb (fun h2=>?_) (fun h2=>?_)))⟩
 case r0|r1|r2=>first | rfl | (exact Zwl (by simpa [W9] using h1))
 all_goals (try simp only[bne,Qi_,Qf_] at *)
 all_goals simp only[Yq,Zec,Za1, *,Qp_,Ql_,Qr_,Qn_,Qb_,Qd_]
 all_goals first | rfl | (exact absurd (h1.symm.trans h2) (by decide))
def Zsp:=[vI 0,vI 0,vB true,vI 0,vI 0,vB true,vI 0,vI 0,vB true,vI 0,vI 0,vB true,vI 0,vI 0,vB true,vI 0,vI 0,vB true]
def Js(s:Surf)(r:Ray):=bend r.d (ZaD s (Yq s r).snd.fst) s.ratio
def ZcS(s:Surf)(r:Ray):=add (Yq s r).snd.fst.z s.pos
def ZiG:=PV.tup [PV.agg Zsp,vI 3]
def Zm0:=PV.tup [PV.agg Zsp,vI 2]
theorem Z5x:Zi Tryz.prog 130 Z4H:=Zj<|Zg fun s=>Zg fun r=>EZ0<|by
 refine cf0 (Za Z5w<|Za ZbD<|Za Zas<|Za Z5h<|Za Z5q<|Za Z5r<|Za Z5j<|Ze) (fn:=Tryz.f130) rfl ?_
 refine sxT (fun Q=>(((WE s)=s.enc)∧(bif (Yq s r).snd.snd !=(1:Int) then (bif (Yq s r).snd.snd==(2:Int) then Q Zm0 else Q ZiG) else (bif Zeb (add (sqr (Yq s r).snd.fst.x) (sqr (Yq s r).snd.fst.y)) s.open2 !=(1:Int) then (bif Zeb (add (sqr (Yq s r).snd.fst.x) (sqr (Yq s r).snd.fst.y)) s.open2==(2:Int) then Q Zm0 else Q ZiG) else (bif (ZcS s r).no then Q ZiG else (bif s.stop then Q (PV.tup [PV.agg [vI (Yq s r).snd.fst.x.lo,vI (Yq s r).snd.fst.x.hi,vB (Yq s r).snd.fst.x.no,vI (Yq s r).snd.fst.y.lo,vI (Yq s r).snd.fst.y.hi,vB (Yq s r).snd.fst.y.no,vI (ZcS s r).lo,vI (ZcS s r).hi,vB (ZcS s r).no,vI r.d.x.lo,vI r.d.x.hi,vB r.d.x.no,vI r.d.y.lo,vI r.d.y.hi,vB r.d.y.no,vI r.d.z.lo,vI r.d.z.hi,vB r.d.z.no],vI 1]) else (((WE s)=s.enc)∧(bif (Js s r).snd !=(1:Int) then (bif (Js s r).snd==(2:Int) then Q Zm0 else Q ZiG) else Q (PV.tup [PV.agg [vI (Yq s r).snd.fst.x.lo,vI (Yq s r).snd.fst.x.hi,vB (Yq s r).snd.fst.x.no,vI (Yq s r).snd.fst.y.lo,vI (Yq s r).snd.fst.y.hi,vB (Yq s r).snd.fst.y.no,vI (ZcS s r).lo,vI (ZcS s r).hi,vB (ZcS s r).no,vI (Js s r).fst.x.lo,vI (Js s r).fst.x.hi,vB (Js s r).fst.x.no,vI (Js s r).fst.y.lo,vI (Js s r).fst.y.hi,vB (Js s r).fst.y.no,vI (Js s r).fst.z.lo,vI (Js s r).fst.z.hi,vB (Js s r).fst.z.no],vI 1]))))))))) (fun _=>by kernel_rfl) ?_
 delta Qn Zsp Js ZcS ZiG Zm0 WE vI vB
 refine ⟨?r1,Zb (fun h0=>Zb (fun h1=>?_) (fun h1=>?_)) (fun h0=>Zb (fun h1=>Zb (fun h2=>?_) (fun h2=>?_)) (fun h1=>Zb (fun h2=>?_) (fun h2=>Zb (fun h3=>?_) (fun h3=>⟨?r0,Zb (fun h4=>Zb (fun h5=>?_) (fun h5=>?_)) (fun h4=>?_)⟩))))⟩
 case r0|r1=>rfl
 all_goals (try simp only[bne,Qi_,Qf_] at *)
 all_goals simp only[goS,goA,goB,goO,Men.goP,ZlV, *,Qb_,Qd_]
 all_goals first | rfl | (exact absurd (h1.symm.trans h2) (by decide)) | (simp only[nz,nzA,nz1,QE_,QN_,Iv.enc,V.enc,Ray.enc, *];done)
def Z3L:=YC [(130,Z4H)]
def Yx(i:Int)(l:List Surf):=(List.map Surf.enc l).getD i.toNat []
def YS(i:Int)(l:List Surf)(r:Ray):=goS (Surf.dec (Yx i l)) r
def Zsq(s:SysM):=[PV.lst (List.map Surf.enc s.surfs),vI s.op.lo,vI s.op.hi,vB s.op.no]
theorem Zsr:CSOk Tryz.prog Z3L:=Za Z5x<|Ze
theorem Zxm:Yt Tryz.prog (Zt Tryz.f101 0) ZoA:=by
 refine lsG Zl.Γ (Z6 Zl Zsr ZA Z7 ZJ (LS:=[]) (ZV (l:=[]) (by kernel_rfl) Zu) (n:=2000) (U6 Zzr) (U6 ZaW) (fun x e s=>((U6 ZaX x=true∧e= .ret∧s=U6 Zix x)∨(U6 ZaX x=false∧e= .exit 0∧s=U6 Ziw x))) (fun x=>(x.2.1 - x.1).toNat) Zo9 Zw5 Zw6 (fun x hx=>?_)) cv6 (fun _=>rfl) (fun _ h=>h) (fun _ _ _ _ h f=>fC h f fE fE)
 ·obtain ⟨i,n,l,z,r,s⟩:=x
  simp only[U6,ZaW] at hx
  refine sxT (fun Q=>(bif decide (i < n) then (((0:Int)≤i∧(List.map Surf.enc l)[i.toNat]?=some (ZW [vB false,vB false,vI 0,vI 0,vB false,vI 0,vI 0,vB false,vI 0,vI 0,vB false,vI 0,vI 0,vB false,vI 0,vI 0,vB false,vI 0,vI 0,vB false,vI 0,vI 0,vB false] (Yx i l)))∧(([vB (Zr ((Yx i l).headD PV.nil)),vB (Zr ((Yx i l).tail.headD PV.nil)),vI (intOf ((Yx i l).tail.tail.headD PV.nil)),vI (intOf ((Yx i l).tail.tail.tail.headD PV.nil)),vB (Zr ((Yx i l).tail.tail.tail.tail.headD PV.nil)),vI (intOf ((Yx i l).tail.tail.tail.tail.tail.headD PV.nil)),vI (intOf ((Yx i l).tail.tail.tail.tail.tail.tail.headD PV.nil)),vB (Zr ((Yx i l).tail.tail.tail.tail.tail.tail.tail.headD PV.nil)),vI (intOf ((Yx i l).tail.tail.tail.tail.tail.tail.tail.tail.headD PV.nil)),vI (intOf ((Yx i l).tail.tail.tail.tail.tail.tail.tail.tail.tail.headD PV.nil)),vB (Zr ((Yx i l).tail.tail.tail.tail.tail.tail.tail.tail.tail.tail.headD PV.nil)),vI (intOf ((Yx i l).tail.tail.tail.tail.tail.tail.tail.tail.tail.tail.tail.headD PV.nil)),vI (intOf ((Yx i l).tail.tail.tail.tail.tail.tail.tail.tail.tail.tail.tail.tail.headD PV.nil)),vB (Zr ((Yx i l).tail.tail.tail.tail.tail.tail.tail.tail.tail.tail.tail.tail.tail.headD PV.nil)),vI (intOf ((Yx i l).tail.tail.tail.tail.tail.tail.tail.tail.tail.tail.tail.tail.tail.tail.headD PV.nil)),vI (intOf ((Yx i l).tail.tail.tail.tail.tail.tail.tail.tail.tail.tail.tail.tail.tail.tail.tail.headD PV.nil)),vB (Zr ((Yx i l).tail.tail.tail.tail.tail.tail.tail.tail.tail.tail.tail.tail.tail.tail.tail.tail.headD PV.nil)),vI (intOf ((Yx i l).tail.tail.tail.tail.tail.tail.tail.tail.tail.tail.tail.tail.tail.tail.tail.tail.tail.headD PV.nil)),vI (intOf ((Yx i l).tail.tail.tail.tail.tail.tail.tail.tail.tail.tail.tail.tail.tail.tail.tail.tail.tail.tail.headD PV.nil)),vB (Zr ((Yx i l).tail.tail.tail.tail.tail.tail.tail.tail.tail.tail.tail.tail.tail.tail.tail.tail.tail.tail.tail.headD PV.nil)),vI (intOf ((Yx i l).tail.tail.tail.tail.tail.tail.tail.tail.tail.tail.tail.tail.tail.tail.tail.tail.tail.tail.tail.tail.headD PV.nil)),vI (intOf ((Yx i l).tail.tail.tail.tail.tail.tail.tail.tail.tail.tail.tail.tail.tail.tail.tail.tail.tail.tail.tail.tail.tail.headD PV.nil)),vB (Zr ((Yx i l).tail.tail.tail.tail.tail.tail.tail.tail.tail.tail.tail.tail.tail.tail.tail.tail.tail.tail.tail.tail.tail.tail.headD PV.nil))]=(Surf.dec (Yx i l)).enc)∧(bif (YS i l r).snd !=(1:Int) then Q (Ex.ret) (some ⟨36,[(4,AV.ptr 4 0)],[(4,[vI (YS i l r).snd,vI i,vI (YS i l r).fst.o.x.lo,vI (YS i l r).fst.o.x.hi,vB (YS i l r).fst.o.x.no,vI (YS i l r).fst.o.y.lo,vI (YS i l r).fst.o.y.hi,vB (YS i l r).fst.o.y.no,vI (YS i l r).fst.o.z.lo,vI (YS i l r).fst.o.z.hi,vB (YS i l r).fst.o.z.no,vI (YS i l r).fst.d.x.lo,vI (YS i l r).fst.d.x.hi,vB (YS i l r).fst.d.x.no,vI (YS i l r).fst.d.y.lo,vI (YS i l r).fst.d.y.hi,vB (YS i l r).fst.d.y.no,vI (YS i l r).fst.d.z.lo,vI (YS i l r).fst.d.z.hi,vB (YS i l r).fst.d.z.no])],[],[],[]⟩) else Q (Ex.normal) (some ⟨36,[(12,AV.p (vI (IntKind.i64.wrap (i+(1:Int))))),(11,pI n),(10,AV.p (PV.lst (List.map Surf.enc l))),(4,AV.ptr 4 0),(3,AV.ptr 3 0),(2,AV.ptr 2 0)],[(4,(Zip z)),(3,(Zcm (YS i l r).fst)),(2,(Zsq s))],[],[],[]⟩)))) else Q (Ex.exit (0:Nat)) (some ⟨36,[(4,AV.ptr 4 0),(3,AV.ptr 3 0),(2,AV.ptr 2 0)],[(4,(Zip z)),(3,(Zcm r)),(2,(Zsq s))],[],[],[]⟩))) (fun _=>by kernel_rfl) ?_
  delta Yx YS Zsq Zcm Zip vI vB pI
  refine Zb (fun h0=>⟨?r1,⟨?r0,Zb (fun h1=> .inr ⟨by simp,_,rfl, ?_⟩) (fun h1=> .inl ⟨rfl,(IntKind.i64.wrap (i+(1:Int)),n,l,z,(goS (Surf.dec ((List.map Surf.enc l).getD i.toNat [])) r).fst,s),rfl, ?_, ?_, ?_⟩)⟩⟩) (fun h0=> .inr ⟨by simp,_,rfl, ?_⟩)
  case r0|r1=>first | rfl | (rw[Z3];done) | (simp only[SysM.enc,Z3];done) | (obtain ⟨a1,a2,a3,a4,a5⟩:=hx;simp only[Qc_] at h0;exact ZH (fun _=>rfl) (by omega) (by omega))
  all_goals try dsimp only[U6]
  all_goals (obtain ⟨a1,a2,a3,a4,a5⟩:=hx;try simp only[Qc_,Qe_] at h0)
  all_goals first | (have hk:i < n:=h0;obtain ⟨x,t,e1,e2,e3⟩:=Yu (l:=l) a1 (by omega);simp only[Yz e3,show Surf.dec (Surf.enc x)=x from rfl,bne,Qi_,Qf_] at *;have en:ZD (l.drop i.toNat) i r=bif (goS x r).2==1 then ZD t (i+1) (goS x r).1 else ⟨(goS x r).2,i,(goS x r).1⟩:=(by rw[e1];rfl);rw[h1] at en;try simp only[Qb_] at en;try simp only[Qd_] at en) | skip
  all_goals try rw[Zf (show Fit (i+1) by constructor<;>omega)]
  all_goals try simp only[U6,ZaW,ZaX,Zix,Ziw]
  ·exact .inl ⟨by rw[en];exact Kk_ (! ·) h1,by trivial,by rw[en];rfl⟩
  ·exact ⟨by omega,by omega,a3,a4,a5⟩
  ·omega
  ·rw[en,e2];exact fun e s h=>h
  ·exact .inr ⟨by rw[Q0_ (by omega)];rfl,by trivial,by rw[Q0_ (by omega)];rfl⟩
theorem ZzU:ZF Tryz.prog [(3,ZoA)] Tryz.f101:=ZN (l:=[Zt Tryz.f101 0]) (by kernel_rfl) (ZE (i:=3) (by kernel_rfl) rfl Zxm (Zu))
def ZbJ(s:SysM):=Zd Surf.dec (List.map Surf.enc s.surfs)
def Xk(s:SysM)(r:Ray):=ZD (List.drop (0:Nat) (ZbJ s)) (0:Int) r
def Zm1:=Iv.mk (0:Int) (0:Int) false
def Zss:=V.mk Zm1 Zm1 Zm1
def q15_27:=TrRes.mk (0:Int) (0:Int) (Ray.mk Zss Zss)
theorem Z5y:Zi Tryz.prog 101 Z7t:=Zj<|Zg fun s=>Zg fun r=>EZ1 fun hp0=>by
 refine cfL Zsr ZzU rfl ?_
 refine sxT (fun Q=>((List.map Surf.enc s.surfs=List.map Surf.enc (ZbJ s))∧(([vI 0,vI 0,vI 0,vI 0,vB false,vI 0,vI 0,vB false,vI 0,vI 0,vB false,vI 0,vI 0,vB false,vI 0,vI 0,vB false,vI 0,vI 0,vB false]=q15_27.enc)∧(((Zcm r)=r.enc)∧(([PV.lst (List.map Surf.enc s.surfs),vI s.op.lo,vI s.op.hi,vB s.op.no]=(SysM.mk (ZbJ s) s.op).enc)∧((ZaW (0:Int) (↑(List.map Surf.enc s.surfs).length) (ZbJ s) q15_27 r (SysM.mk (ZbJ s) s.op))∧(bif ZaX (0:Int) (↑(List.map Surf.enc s.surfs).length) (ZbJ s) q15_27 r (SysM.mk (ZbJ s) s.op) then Q (PV.agg (Zip (Xk s r))) else Q (PV.agg [vI 1,vI (↑(List.map Surf.enc (ZbJ s)).length),vI (Xk s r).r.o.x.lo,vI (Xk s r).r.o.x.hi,vB (Xk s r).r.o.x.no,vI (Xk s r).r.o.y.lo,vI (Xk s r).r.o.y.hi,vB (Xk s r).r.o.y.no,vI (Xk s r).r.o.z.lo,vI (Xk s r).r.o.z.hi,vB (Xk s r).r.o.z.no,vI (Xk s r).r.d.x.lo,vI (Xk s r).r.d.x.hi,vB (Xk s r).r.d.x.no,vI (Xk s r).r.d.y.lo,vI (Xk s r).r.d.y.hi,vB (Xk s r).r.d.y.no,vI (Xk s r).r.d.z.lo,vI (Xk s r).r.d.z.hi,vB (Xk s r).r.d.z.no])))))))) (fun _=>by kernel_rfl) ?_
 delta Qn Xk Zss ZbJ q15_27 Zm1 Zcm Zip vI vB
 refine ⟨?r3,⟨?r2,⟨?r1,⟨?r0,⟨?_,Zb (fun h0=>?_) (fun h0=>?_)⟩⟩⟩⟩⟩
 case r0|r1|r2|r3=>first | rfl | (rw[Z3];done) | (simp only[SysM.enc,Z3];done)
 all_goals simp only[ZaW,ZaX,Z3,Qk_,QO_,QG_,bne] at *
 ·exact ⟨by omega,by omega,by trivial,hp0,by trivial⟩
 ·rfl
 ·rw[show trace s r=ZD s.surfs 0 r from rfl]
  have hp:=Zkc s.surfs 0 r (by simpa using h0)
  have hk:(ZD s.surfs 0 r).kind=1:=by simpa using h0
  simp only[nz,nzA,nz1,QE_,QN_,TrRes.enc,hp,hk,Int.zero_add]
end Go.Men
namespace Go.Men
open Go Go.Ev Go.Proofs Go.RowKit
theorem Z5z:Zi Tryz.prog 136 Z7u:=Zj<|Zg fun x=>EZ1 fun hn=>by
 refine ZtJ (f:=136) (fun args w=>?_) _ _ ?_
 ·exact run_callFunc_extern Tryz.func136 (by kernel_rfl) (by kernel_rfl) (by kernel_rfl) (e:=Extern.MathFloor.toIntegral "math.archTrunc" .zero) (by kernel_rfl) args w
 ·unfold ZgJ at hn
  show ZgE [PV.v (.float .f64 x)]=_
  unfold ZgE
  dsimp only
  split<;>simp_all[ZcH]
end Go.Men
namespace Go.Men
open Go.Ev Go.Proofs Go.Proofs.YtfeldacghdcghaaGreatDoor
theorem Z50:Zi Tryz.prog 105 Z7v:=Zj<|Zg fun x=>EZ1 fun hp0=>by
 refine cf0 (Za Z5z<|Ze) (fn:=Tryz.f105) rfl ?_
 refine sxT (fun Q=>((ZgJ x=true)∧Q (PV.v (Value.float FloatKind.f64 (ZcH x))))) (fun _=>by kernel_rfl) ?_
 delta Qn
 refine ⟨?r0, ?_⟩
 case r0=>(first | rfl | assumption)
 all_goals rfl
theorem Zqb:Zi Tryz.prog 33 e33:=Zj<|Zg fun n=>Zg fun low=>Zg fun high=>EZ0<|by
 refine cf0 Ze (fn:=Tryz.f33) rfl ?_
 refine sxT (fun Q=>(bif decide (n≥low) then Q (vB (decide (n≤high))) else Q (vB false))) (fun _=>by kernel_rfl) ?_
 delta Qn vB
 refine Zb (fun h0=>?_) (fun h0=>?_)
 all_goals (simp only[Yw,ZK,ZC,List.foldl,Qr_,Qp_,Ql_,Qn_,Q5_,Q4_,Qw_,Q3_,Qu_,Qt_,Qb_,Qd_,QD_,Q8_, *];rfl)
theorem Z2M:Zi Tryz.prog 32 e32:=Zj<|Zg fun w=>Zg fun h=>EZ0<|by
 refine cf0 (Za Zqb<|Ze) (fn:=Tryz.f32) rfl ?_
 refine sxT (fun Q=>(bif Yw w (1:Int) (16:Int) then Q (vB (Yw h (1:Int) (16:Int))) else Q (vB false))) (fun _=>by kernel_rfl) ?_
 delta Qn vB
 refine Zb (fun h0=>?_) (fun h0=>?_)
 all_goals (simp only[X8,ZK,ZC,List.foldl,Qr_,Qp_,Ql_,Qn_,Q5_,Q4_,Qw_,Q3_,Qu_,Qt_,Qb_,Qd_,QD_,Q8_, *];rfl)
theorem Z5T:Zi Tryz.prog 95 e95:=Zj<|Zg fun s=>Zg fun n=>EZ0<|by
 refine cf0 Ze (fn:=Tryz.f95) rfl ?_
 refine sxT (fun Q=>(bif decide (↑(List.map Surf.enc s.surfs).length > (0:Int)) then (bif decide (n≥(1:Int)) then Q (vB (decide (n≤(16:Int)))) else Q (vB false)) else Q (vB false))) (fun _=>by kernel_rfl) ?_
 delta Qn vB
 refine Zb (fun h0=>Zb (fun h1=>?_) (fun h1=>?_)) (fun h0=>?_)
 all_goals first | (simp only[J8,ZK,ZC,List.foldl,Qr_,Qp_,Ql_,Qn_,Q5_,Q4_,Qw_,Q3_,Qu_,Qt_,Qb_,Qd_,QD_,Q8_, *];first | rfl | (simp only[nz,nzA,nz1,QE_,QN_,Iv.enc,V.enc,Ray.enc, *];first | done | rfl)) | (simp_all[nz,nzA,nz1,Iv.enc,V.enc,Ray.enc,Dec.enc,Shape.enc,none',told,K5_,J8];done)
theorem Z5U:Zi Tryz.prog 96 e96:=Zj<|Zg fun o=>Zg fun k=>Zg fun n=>EZ0<|by
 refine cf0 (Za Zhc<|Za Z5d<|Za ZwC<|Za Ze1<|Ze) (fn:=Tryz.f96) rfl ?_
 refine sxT (fun Q=>Q (PV.agg (eIv (Zo (Zaq (times o k) (times o (IntKind.i64.wrap (k+(1:Int))))) (whole n))))) (fun _=>by kernel_rfl) ?_
 delta Qn eIv vI vB
 refine ?_
 all_goals rfl
theorem Z5V:Zi Tryz.prog 70 e70:=Zj<|Zg fun x=>EZ0<|by
 refine cf0 (Za Z50<|Ze) (fn:=Tryz.f70) rfl ?_
 refine sxT (fun Q=>(bif FloatKind.f64.format.order x (13920626448202203136:Nat)==some Ordering.gt||FloatKind.f64.format.order x (13920626448202203136:Nat)==some Ordering.eq then (bif FloatKind.f64.format.order x (4697254411347427328:Nat)==some Ordering.lt||FloatKind.f64.format.order x (4697254411347427328:Nat)==some Ordering.eq then ((ZgJ x=true)∧Q (vB (FloatKind.f64.format.order x (ZcH x)==some Ordering.eq))) else Q (vB false)) else Q (vB false))) (fun _=>by kernel_rfl) ?_
 delta Qn vB
 refine Zb (fun h0=>Zb (fun h1=>⟨?r0, ?_⟩) (fun h1=>?_)) (fun h0=>?_)
 case r0=>(exact Z39 (c:=13920626448202203136) h0)
 ·have e0:geF x 13920626448202203136=true:=h0
  have e1:leF x 4697254411347427328=true:=h1
  simp only[XJ,e0,e1,Qp_];rfl
 ·have e0:geF x 13920626448202203136=true:=h0
  have e1:leF x 4697254411347427328=false:=h1
  simp only[XJ,e0,e1,Qn_,Ql_];rfl
 ·have e0:geF x 13920626448202203136=false:=h0
  simp only[XJ,e0,Ql_];rfl
theorem Zxn:Zi Tryz.prog 41 e41:=Zj<|Zg fun z=>EZ0<|by
 refine cf0 (Za Z5V<|Ze) (fn:=Tryz.f41) rfl ?_
 refine sxT (fun Q=>(bif XJ z.re then Q (vB (XJ z.im)) else Q (vB false))) (fun _=>by kernel_rfl) ?_
 delta Qn vB
 refine Zb (fun h0=>?_) (fun h0=>?_)
 all_goals (simp only[ZY,ZK,ZC,List.foldl,Qr_,Qp_,Ql_,Qn_,Q5_,Q4_,Qw_,Q3_,Qu_,Qt_,Qb_,Qd_,QD_,Q8_, *];rfl)
def Zm2(z:Cx):=Ieee.Datum.toInt Ieee.Toward.zero (FloatKind.f64.decode z.re)
def Zm3(z:Cx):=Ieee.Datum.toInt Ieee.Toward.zero (FloatKind.f64.decode z.im)
theorem Z5W:Zi Tryz.prog 28 e28:=Zj<|Zg fun z=>Zg fun n=>EZ0<|by
 refine cf0 (Za Zxn<|Za Zqb<|Ze) (fn:=Tryz.f28) rfl ?_
 refine sxT (fun Q=>(bif ZY z then ((Ieee.Datum.toInt Ieee.Toward.zero (FloatKind.f64.decode z.re)=some ((Zm2 z).getD (0:Int)))∧(((-9223372036854775808:Int)≤(Zm2 z).getD (0:Int))∧(((Zm2 z).getD (0:Int)≤(9223372036854775807:Int))∧(bif Yw ((Zm2 z).getD (0:Int)) (IntKind.i64.wrap ((0:Int) - n)) (IntKind.i64.wrap (n - (1:Int))) then ((Ieee.Datum.toInt Ieee.Toward.zero (FloatKind.f64.decode z.im)=some ((Zm3 z).getD (0:Int)))∧(((-9223372036854775808:Int)≤(Zm3 z).getD (0:Int))∧(((Zm3 z).getD (0:Int)≤(9223372036854775807:Int))∧Q (vB (Yw ((Zm3 z).getD (0:Int)) (IntKind.i64.wrap ((0:Int) - n)) (IntKind.i64.wrap (n - (1:Int)))))))) else Q (vB false))))) else Q (vB false))) (fun _=>by kernel_rfl) ?_
 delta Qn Zm2 Zm3 vB
 refine Zb (fun h0=>⟨?r5,⟨?r4,⟨?r3,Zb (fun h1=>⟨?r2,⟨?r1,⟨?r0, ?_⟩⟩⟩) (fun h1=>?_)⟩⟩⟩) (fun h0=>?_)
 case r0|r1|r2|r3|r4|r5=>(first | rfl | (rw[Z3];done) | (simp only[SysM.enc,Z3];done) | exact (Xa (Jb (by simpa using h0))).1 | exact (Xa (Jb (by simpa using h0))).2.1 | exact (Xa (Jb (by simpa using h0))).2.2 | exact (Xa (Jc (by simpa using h0))).1 | exact (Xa (Jc (by simpa using h0))).2.1 | exact (Xa (Jc (by simpa using h0))).2.2)
 ·have e1:Yw (ZB z.re) (IntKind.i64.wrap (0 - n)) (IntKind.i64.wrap (n - 1))=true:=h1
  simp only[YO,h0,e1,Qp_];rfl
 ·have e1:Yw (ZB z.re) (IntKind.i64.wrap (0 - n)) (IntKind.i64.wrap (n - 1))=false:=h1
  simp only[YO,h0,e1,Ql_,Qn_];rfl
 ·simp only[YO,h0,Ql_];rfl
def Zm4(z:Cx):=Ieee.Datum.toInt Ieee.Toward.zero (FloatKind.f64.decode z.re)
def Zm5(z:Cx):=Ieee.Datum.toInt Ieee.Toward.zero (FloatKind.f64.decode z.im)
def Zhf(s:SysM):=List.map Surf.enc s.surfs
def ZbK(s:SysM)(x:Iv)(y:Iv)(z:Cx)(n:Int):=unit (V.mk (sub (edge s.op ((Zm4 z).getD (0:Int)) n) x) (sub (edge s.op ((Zm5 z).getD (0:Int)) n) y) (Iv.dec ((Zhf s).getD (0:Nat) []).tail.tail.tail.tail.tail.tail.tail.tail.tail.tail.tail.tail.tail.tail))
def Zm6:=PV.tup [PV.agg [vI 0,vI 0,vB false,vI 0,vI 0,vB false,vI 0,vI 0,vB false,vI 0,vI 0,vB false,vI 0,vI 0,vB false,vI 0,vI 0,vB false],vB false]
theorem Z5X:Zi Tryz.prog 66 e66:=Zj<|Zg fun s=>Zg fun x=>Zg fun y=>Zg fun z=>Zg fun n=>EZ0<|by
 refine cf0 (Za Z5T<|Za Zxn<|Za Z5U<|Za Zfj<|Za Zc0<|Za ZbC<|Za Z2K<|Za Zse<|Ze) (fn:=Tryz.f66) rfl ?_
 refine sxT (fun Q=>(([PV.lst (Zhf s),vI s.op.lo,vI s.op.hi,vB s.op.no]=(SysM.mk (Zd Surf.dec (Zhf s)) s.op).enc)∧(bif !J8 (SysM.mk (Zd Surf.dec (Zhf s)) s.op) n then Q Zm6 else (bif !ZY z then Q Zm6 else ((Ieee.Datum.toInt Ieee.Toward.zero (FloatKind.f64.decode z.re)=some ((Zm4 z).getD (0:Int)))∧(((-9223372036854775808:Int)≤(Zm4 z).getD (0:Int))∧(((Zm4 z).getD (0:Int)≤(9223372036854775807:Int))∧((Ieee.Datum.toInt Ieee.Toward.zero (FloatKind.f64.decode z.im)=some ((Zm5 z).getD (0:Int)))∧(((-9223372036854775808:Int)≤(Zm5 z).getD (0:Int))∧(((Zm5 z).getD (0:Int)≤(9223372036854775807:Int))∧(((0:Int)≤(0:Int)∧(Zhf s)[(0:Nat)]?=some (ZW [vB false,vB false,vI 0,vI 0,vB false,vI 0,vI 0,vB false,vI 0,vI 0,vB false,vI 0,vI 0,vB false,vI 0,vI 0,vB false,vI 0,vI 0,vB false,vI 0,vI 0,vB false] ((Zhf s).getD (0:Nat) [])))∧(bif !YN (V.mk x y (point (0:Int))) then Q Zm6 else (bif !YN (ZbK s x y z n) then Q Zm6 else Q (PV.tup [PV.agg [vI x.lo,vI x.hi,vB x.no,vI y.lo,vI y.hi,vB y.no,vI (point (0:Int)).lo,vI (point (0:Int)).hi,vB (point (0:Int)).no,vI (ZbK s x y z n).x.lo,vI (ZbK s x y z n).x.hi,vB (ZbK s x y z n).x.no,vI (ZbK s x y z n).y.lo,vI (ZbK s x y z n).y.hi,vB (ZbK s x y z n).y.no,vI (ZbK s x y z n).z.lo,vI (ZbK s x y z n).z.hi,vB (ZbK s x y z n).z.no],vB true])))))))))))))) (fun _=>by kernel_rfl) ?_
 delta Qn ZbK Zm6 Zm4 Zm5 Zhf vI vB
 refine ⟨?r7,Zb (fun h0=>?_) (fun h0=>Zb (fun h1=>?_) (fun h1=>⟨?r6,⟨?r5,⟨?r4,⟨?r3,⟨?r2,⟨?r1,⟨?r0,Zb (fun h2=>?_) (fun h2=>Zb (fun h3=>?_) (fun h3=>?_))⟩⟩⟩⟩⟩⟩⟩))⟩
 case r0|r1|r2|r3|r4|r5|r6|r7=>(first | rfl | (rw[Z3];done) | (simp only[SysM.enc,Z3];done) | exact (Xa (Jb (by simpa using h1))).1 | exact (Xa (Jb (by simpa using h1))).2.1 | exact (Xa (Jb (by simpa using h1))).2.2 | exact (Xa (Jc (by simpa using h1))).1 | exact (Xa (Jc (by simpa using h1))).2.1 | exact (Xa (Jc (by simpa using h1))).2.2 | (have hs:=Zrw (by simpa using h0);exact ZH (fun _=>rfl) (by omega) (by simpa [Z3] using hs)))
 all_goals simp only[Z3,Qi_,Qf_] at *
 ·simp only[Wb,h0,Ql_,Qd_];rfl
 ·simp only[Wb,h0,h1,Qn_,Qp_,Qd_];rfl
 ·have e2:YN (X9 s x y (ZB z.re) (ZB z.im) n).o=false:=h2
  simp only[Wb,Zed,h0,h1,e2,Qp_,Ql_,Qb_,Qd_];rfl
 ·have e2:YN (X9 s x y (ZB z.re) (ZB z.im) n).o=true:=h2
  have e3:YN (X9 s x y (ZB z.re) (ZB z.im) n).d=false:=h3
  simp only[Wb,Zed,h0,h1,e2,e3,Qp_,Qn_,Qb_,Qd_];rfl
 ·have e2:YN (X9 s x y (ZB z.re) (ZB z.im) n).o=true:=h2
  have e3:YN (X9 s x y (ZB z.re) (ZB z.im) n).d=true:=h3
  simp only[Wb,Zed,h0,h1,e2,e3,Qp_,Qb_];rfl
theorem Z5Y:Zi Tryz.prog 42 e42:=Zj<|Zg fun x=>Zg fun y=>EZ0<|by
 refine cf0 Ze (fn:=Tryz.f42) rfl ?_
 refine sxT (fun Q=>Q (PV.v (Value.complex FloatKind.f64 (FloatKind.f64.nearest x) (FloatKind.f64.nearest y)))) (fun _=>by kernel_rfl) ?_
 delta Qn
 refine ?_
 all_goals rfl
def Zm7(z:Cx):=Ieee.Datum.toInt Ieee.Toward.zero (FloatKind.f64.decode z.re)
def Zm8(z:Cx):=Ieee.Datum.toInt Ieee.Toward.zero (FloatKind.f64.decode z.im)
theorem Z5Z:Zi Tryz.prog 43 e43:=Zj<|Zg fun z=>EZ1 fun hp0=>by
 refine cf0 Ze (fn:=Tryz.f43) rfl ?_
 refine sxT (fun Q=>((Ieee.Datum.toInt Ieee.Toward.zero (FloatKind.f64.decode z.re)=some ((Zm7 z).getD (0:Int)))∧(((-9223372036854775808:Int)≤(Zm7 z).getD (0:Int))∧(((Zm7 z).getD (0:Int)≤(9223372036854775807:Int))∧((Ieee.Datum.toInt Ieee.Toward.zero (FloatKind.f64.decode z.im)=some ((Zm8 z).getD (0:Int)))∧(((-9223372036854775808:Int)≤(Zm8 z).getD (0:Int))∧(((Zm8 z).getD (0:Int)≤(9223372036854775807:Int))∧Q (PV.tup [vI ((Zm7 z).getD (0:Int)),vI ((Zm8 z).getD (0:Int))])))))))) (fun _=>by kernel_rfl) ?_
 delta Qn Zm7 Zm8 vI
 refine ⟨?r5,⟨?r4,⟨?r3,⟨?r2,⟨?r1,⟨?r0, ?_⟩⟩⟩⟩⟩⟩
 case r0|r1|r2|r3|r4|r5=>(first | rfl | (rw[Z3];done) | (simp only[SysM.enc,Z3];done) | exact (Xa (Jb (by simpa using hp0))).1 | exact (Xa (Jb (by simpa using hp0))).2.1 | exact (Xa (Jb (by simpa using hp0))).2.2 | exact (Xa (Jc (by simpa using hp0))).1 | exact (Xa (Jc (by simpa using hp0))).2.1 | exact (Xa (Jc (by simpa using hp0))).2.2)
 all_goals rfl
theorem Z6a:Zi Tryz.prog 17 e17:=Zj<|Zg fun z=>EZ0<|by
 refine cf0 Ze (fn:=Tryz.f17) rfl ?_
 refine sxT (fun Q=>Q (PV.v (Value.complex FloatKind.f64 (FloatKind.f64.nearest z.x) (FloatKind.f64.nearest z.y)))) (fun _=>by kernel_rfl) ?_
 delta Qn
 refine ?_
 all_goals rfl
end Go.Men
namespace Go.Men
theorem Z6b(lo hi:Int):(of lo hi).lo≤(of lo hi).hi:=by
 unfold of
 cases h:right ⟨lo,hi,false⟩ with
 | true=>exact (Xh h).2.2.2
 | false=>exact Int.le_refl 0
theorem Zst(a b:Iv):(Zo a b).lo≤(Zo a b).hi:=by
 unfold Zo
 cases both a b&& !(has b 0) with
 | false=>exact Int.le_refl 0
 | true=>
   simp only[cond_true]
   unfold ends
   cases ((div a.lo b.lo false).2&&(div a.lo b.lo true).2)&&(((div a.lo b.hi false).2&&(div a.lo b.hi true).2)&&(((div a.hi b.lo false).2&&(div a.hi b.lo true).2)&&((div a.hi b.hi false).2&&(div a.hi b.hi true).2))) with
   | false=>exact Int.le_refl 0
   | true=>exact Z6b _ _
theorem Z1T(a b c:Iv):(WD a b c).1.lo≤(WD a b c).1.hi∧((WD a b c).2=0∨(WD a b c).2=1∨(WD a b c).2=2):=by
 unfold WD
 simp only
 cases (sub (sqr b) (Zk a c)).no with
 | true=>exact ⟨Int.le_refl 0,.inl rfl⟩
 | false=>
   cases decide ((sub (sqr b) (Zk a c)).hi < 0) with
   | true=>exact ⟨Int.le_refl 0,.inr (.inr rfl)⟩
   | false=>
     cases decide ((sub (sqr b) (Zk a c)).lo < 0) with
     | true=>exact ⟨Int.le_refl 0,.inl rfl⟩
     | false=>
       simp only[cond_false]
       have h:=Zst c (sub (ZQ (sub (sqr b) (Zk a c))) b)
       cases (Zo c (sub (ZQ (sub (sqr b) (Zk a c))) b)).no with
       | true=>exact ⟨Int.le_refl 0,.inl rfl⟩
       | false=>exact ⟨h,.inr (.inl rfl)⟩
theorem Z3M(s:Shape)(r:Ray):(meet s r).1.lo≤(meet s r).1.hi∧((meet s r).2=0∨(meet s r).2=1∨(meet s r).2=2):=by
 unfold meet
 simp only
 cases s.kind==1 with
 | true=>exact Z1T _ _ _
 | false=>
   cases s.kind==2 with
   | false=>exact ⟨Int.le_refl 0,.inl rfl⟩
   | true=>
     simp only[cond_true,cond_false]
     have h:=Zst (sub (Zh s.z) r.o.z) r.d.z
     cases (Zo (sub (Zh s.z) r.o.z) r.d.z).no with
     | true=>exact ⟨Int.le_refl 0,.inl rfl⟩
     | false=>exact ⟨h,.inr (.inl rfl)⟩
theorem ZzV(s:Shape)(r:Ray):(hit s r).1.lo≤(hit s r).1.hi∧((hit s r).2=0∨(hit s r).2=1∨(hit s r).2=2):=by
 obtain ⟨h1,h2⟩:=Z3M s r
 unfold hit
 cases !((meet s r).2==1) with
 | true=>exact ⟨Int.le_refl 0,h2⟩
 | false=>
   cases decide ((meet s r).1.hi≤0) with
   | true=>exact ⟨Int.le_refl 0,.inr (.inr rfl)⟩
   | false=>
     cases decide ((meet s r).1.lo≤0) with
     | true=>exact ⟨Int.le_refl 0,.inl rfl⟩
     | false=>exact ⟨h1,.inr (.inl rfl)⟩
def ZaH(r:Ray):List Shape→Int→List (Int×Iv)
 | [],_=>[]
 | s::l,k=>bif (hit s r).2==1 then (k,(hit s r).1)::ZaH r l (k+1) else ZaH r l (k+1)
theorem Zva(r:Ray):∀(l:List Shape) (k:Int),Zbt r l=(ZaH r l k).map (·.2)
 | [],_=>rfl
 | s::l,k=>by
   simp only[Zbt,ZaH]
   cases (hit s r).2==1<;>simp only[cond_true,cond_false,List.map_cons,←Zva r l (k+1)]
theorem Zvb(r:Ray):∀(l:List Shape) (k:Int),ZgI r l k=(ZaH r l k).map (fun p=>⟨p.1⟩)
 | [],_=>rfl
 | s::l,k=>by
   simp only[ZgI,ZaH]
   cases (hit s r).2==1<;>simp only[cond_true,cond_false,List.map_cons,Zvb r l (k+1)]
theorem Zvc(r:Ray):∀(l:List Shape) (k:Int),0≤k→∀p∈ZaH r l k,0≤p.1∧p.2.lo≤p.2.hi
 | [],_,_,p,hp=>absurd hp (by simp[ZaH])
 | s::l,k,hk,p,hp=>by
   have ih:=Zvc r l (k+1) (by omega)
   simp only[ZaH] at hp
   cases e:(hit s r).2==1 with
   | true=>
     rw[e,cond_true] at hp
     rcases List.mem_cons.1 hp with rfl | hp
     ·exact ⟨hk,(ZzV s r).1⟩
     ·exact ih p hp
   | false=>rw[e,cond_false] at hp;exact ih p hp
def We:List (Int×Iv)→Int→Iv→Int×Iv
 | [],b,a=>(b,a)
 | p::l,b,a=>bif decide (b < 0)||decide (p.2.hi < a.hi) then We l p.1 p.2 else We l b a
theorem ZoI(r:Ray):∀(l:List Shape) (k b:Int) (a:Iv) (all:List Iv),unsure r l=false→
 Yl r l k b a all=((We (ZaH r l k) b a).1,(We (ZaH r l k) b a).2,all++(ZaH r l k).map (·.2))
 | [],_,_,_,_,_=>by simp[Yl,ZaH,We]
 | s::l,k,b,a,all,h=>by
   simp only[unsure,List.any_cons,Bool.or_eq_false_iff] at h
   have ih:=fun b a all=>ZoI r l (k+1) b a all h.2
   have h0:(hit s r).2≠0:=by simpa using h.1
   simp only[Yl,ZaH]
   rcases (ZzV s r).2 with e | e | e
   ·exact absurd e h0
   ·rw[show ((hit s r).2==2)=false by rw[e];rfl,show ((hit s r).2==1)=true by rw[e];rfl]
    simp only[cond_true,cond_false,We,List.map_cons]
    cases decide (b < 0)||decide ((hit s r).1.hi < a.hi)<;>simp only[cond_true,cond_false,ih,List.append_assoc,List.cons_append,List.nil_append]
   ·rw[show ((hit s r).2==2)=true by rw[e];rfl,show ((hit s r).2==1)=false by rw[e];rfl]
    simp only[cond_true,cond_false,ih]
theorem ZiH:∀(l:List (Int×Iv)) (b:Int) (a:Iv),0≤b→(∀p∈l,0≤p.1)→
 0≤(We l b a).1∧(We l b a).2.hi≤a.hi∧(∀p∈l,(We l b a).2.hi≤p.2.hi)∧(We l b a=(b,a)∨∃m:Nat,l[m]?=some (We l b a))
 | [],b,a,hb,_=>⟨hb,Int.le_refl _,fun p hp=>absurd hp (by simp),.inl rfl⟩
 | p::l,b,a,hb,hp=>by
   have hp':∀q∈l,0≤q.1:=fun q hq=>hp q (List.mem_cons_of_mem _ hq)
   have n:decide (b < 0)=false:=by simp;omega
   simp only[We,n,Bool.false_or]
   cases e:decide (p.2.hi < a.hi) with
   | true=>
     simp only[decide_eq_true_eq] at e
     obtain ⟨h1,h2,h3,h4⟩:=ZiH l p.1 p.2 (hp p List.mem_cons_self) hp'
     refine ⟨h1,by simp only[cond_true];omega,fun q hq=>?_,.inr ?_⟩
     ·rcases List.mem_cons.1 hq with rfl | hq
      ·exact h2
      ·exact h3 q hq
     ·rcases h4 with h4 | ⟨m,hm⟩
      ·exact ⟨0,by simp only[cond_true];rw[h4];rfl⟩
      ·exact ⟨m+1,by simpa using hm⟩
   | false=>
     simp only[decide_eq_false_iff_not] at e
     obtain ⟨h1,h2,h3,h4⟩:=ZiH l b a hb hp'
     refine ⟨h1,h2,fun q hq=>?_, ?_⟩
     ·rcases List.mem_cons.1 hq with rfl | hq
      ·simp only[cond_false];omega
      ·exact h3 q hq
     ·rcases h4 with h4 | ⟨m,hm⟩
      ·exact .inl h4
      ·exact .inr ⟨m+1,by simpa using hm⟩
theorem ZoJ(a:Iv):∀(l:List Iv) (m:Nat) (t:Iv),l[m]?=some t→¬a.hi < t.lo→(∀(n:Nat) (x:Iv),l[n]?=some x→n≠m→a.hi < x.lo)→behind a l+1=l.length
 | [],m,t,h,_,_=>absurd h (by simp)
 | x::l,0,t,h,ht,ha=>by
   have:∀(l:List Iv),(∀(n:Nat) (x:Iv),l[n]?=some x→a.hi < x.lo)→behind a l=l.length:=by
    intro l
    induction l with
    | nil=>intro _;rfl
    | cons y l ih=>
      intro hy
      have:=hy 0 y rfl
      simp only[behind,this,decide_true,cond_true,ih (fun n x hx=>hy (n+1) x (by simpa using hx)),List.length_cons]
      omega
   have e:x=t:=by simpa using h
   subst e
   simp only[behind,ht,decide_false,cond_false,this l (fun n x hx=>ha (n+1) x (by simpa using hx) (by omega)),List.length_cons]
   omega
 | x::l,m+1,t,h,ht,ha=>by
   have ih:=ZoJ a l m t (by simpa using h) ht (fun n x hx hn=>ha (n+1) x (by simpa using hx) (by omega))
   have:=ha 0 x rfl (by omega)
   simp only[behind,this,decide_true,cond_true,List.length_cons]
   omega
theorem Zhg(a:Iv):∀(l:List Iv) (m:Nat) (t:Iv),l[m]?=some t→¬a.hi < t.lo→behind a l+1≤l.length
 | [],m,t,h,_=>absurd h (by simp)
 | x::l,0,t,h,ht=>by
   have e:x=t:=by simpa using h
   subst e
   have:=(Zid a l).2
   simp only[behind,ht,decide_false,cond_false,List.length_cons]
   omega
 | x::l,m+1,t,h,ht=>by
   have ih:=Zhg a l m t (by simpa using h) ht
   simp only[behind,List.length_cons]
   cases decide (a.hi < x.lo)<;>simp only[cond_true,cond_false]<;>omega
theorem Zm9(a:Iv):∀(l:List Iv) (m k:Nat) (t u:Iv),l[m]?=some t→¬a.hi < t.lo→l[k]?=some u→¬a.hi < u.lo→m≠k→behind a l+2≤l.length
 | [],m,_,t,_,h,_,_,_,_=>absurd h (by simp)
 | x::l,0,0,_,_,_,_,_,_,hn=>absurd rfl hn
 | x::l,0,k+1,t,u,h,ht,hk,hu,_=>by
   have e:x=t:=by simpa using h
   subst e
   have:=Zhg a l k u (by simpa using hk) hu
   simp only[behind,ht,decide_false,cond_false,List.length_cons]
   omega
 | x::l,m+1,0,t,u,h,ht,hk,hu,_=>by
   have e:x=u:=by simpa using hk
   subst e
   have:=Zhg a l m t (by simpa using h) ht
   simp only[behind,hu,decide_false,cond_false,List.length_cons]
   omega
 | x::l,m+1,k+1,t,u,h,ht,hk,hu,hn=>by
   have ih:=Zm9 a l m k t u (by simpa using h) ht (by simpa using hk) hu (by omega)
   simp only[behind,List.length_cons]
   cases decide (a.hi < x.lo)<;>simp only[cond_true,cond_false]<;>omega
theorem Ze3{h i:Int}:∀{l:List Iv} {k:Int},WL h i l k=true→∀(n:Nat) (t:Iv),l[n]?=some t→k+n=i∨h < t.lo
 | [],_,_,n,t,ht=>absurd ht (by simp)
 | x::l,k,e,n,t,ht=>by
   simp only[WL,Bool.and_eq_true,Bool.or_eq_true,beq_iff_eq,decide_eq_true_eq] at e
   cases n with
   | zero=>
     have:x=t:=by simpa using ht
     subst this
     rcases e.1 with h1 | h1
     ·exact .inl (by simpa using h1)
     ·exact .inr h1
   | succ n=>
     rcases Ze3 e.2 n t (by simpa using ht) with h1 | h1
     ·exact .inl (by rw[←h1];push_cast;omega)
     ·exact .inr h1
theorem Zhx{h i:Int}:∀{l:List Iv} {k:Int},WL h i l k=false→∃(n:Nat) (t:Iv),l[n]?=some t∧k+n≠i∧¬h < t.lo
 | [],_,e=>absurd e (by simp[WL])
 | x::l,k,e=>by
   simp only[WL,Bool.and_eq_false_iff,Bool.or_eq_false_iff,beq_eq_false_iff_ne,decide_eq_false_iff_not] at e
   rcases e with e | e
   ·exact ⟨0,x,rfl,by simpa using e.1,e.2⟩
   ·obtain ⟨n,t,h1,h2,h3⟩:=Zhx e
    exact ⟨n+1,t,by simpa using h1,fun h4=>h2 (by rw[←h4];push_cast;omega),h3⟩
theorem ZoK{ts:List Iv}:∀{la:List I} {lt:List Iv} {i:Int} {q:Int×Iv},Zbu ts la lt i=some q→∃n:Nat,la[n]?=some ⟨q.1⟩∧lt[n]?=some q.2∧WL q.2.hi (i+n) ts 0=true
 | [],_,_,_,h=>absurd h (by simp[Zbu])
 | _::_,[],_,_,h=>absurd h (by simp[Zbu])
 | a::la,t::lt,i,q,h=>by
   simp only[Zbu] at h
   cases e:WL t.hi i ts 0 with
   | true=>
     rw[e,cond_true] at h
     cases Option.some.inj h
     exact ⟨0,rfl,rfl,by simpa using e⟩
   | false=>
     rw[e,cond_false] at h
     obtain ⟨n,h1,h2,h3⟩:=ZoK h
     exact ⟨n+1,by simpa using h1,by simpa using h2,by rw[show i+((n+1:Nat):Int)=i+1+n by push_cast;omega];exact h3⟩
theorem ZoL{ts:List Iv}:∀{la:List I} {lt:List Iv} {i:Int},la.length=lt.length→Zbu ts la lt i=none→∀(n:Nat) t,lt[n]?=some t→WL t.hi (i+n) ts 0=false
 | [],[],_,_,_,n,t,ht=>absurd ht (by simp)
 | [],_::_,_,hl,_,_,_,_=>absurd hl (by simp)
 | _::_,[],_,hl,_,_,_,_=>absurd hl (by simp)
 | a::la,x::lt,i,hl,h,n,t,ht=>by
   simp only[Zbu] at h
   cases e:WL x.hi i ts 0 with
   | true=>rw[e,cond_true] at h;exact absurd h (by simp)
   | false=>
     rw[e,cond_false] at h
     cases n with
     | zero=>
       have:x=t:=by simpa using ht
       subst this
       simpa using e
     | succ n=>
       have:=ZoL (by simpa using hl) h n t (by simpa using ht)
       rw[show i+((n+1:Nat):Int)=i+1+n by push_cast;omega]
       exact this
theorem Zkm(l:List Shape)(r:Ray):Zrt l r=nearest l r:=by
 unfold Zrt nearest
 cases hu:unsure r l with
 | true=>rfl
 | false=>
   simp only[cond_false]
   rw[ZoI r l 0 (-1) none' [] hu,Zva r l 0,Zvb r l 0]
   have hok:=Zvc r l 0 (Int.le_refl 0)
   generalize ZaH r l 0=hs at hok
   simp only[List.nil_append]
   cases hs with
   | nil=>rfl
   | cons p hs=>
     have hb:We (p::hs) (-1) none'=We hs p.1 p.2:=rfl
     obtain ⟨h1,h2,h3,h4⟩:=ZiH hs p.1 p.2 (hok p List.mem_cons_self).1 (fun q hq=>(hok q (List.mem_cons_of_mem _ hq)).1)
     rw[hb]
     generalize We hs p.1 p.2=B at h1 h2 h3 h4
     have hB:∃m:Nat,(p::hs)[m]?=some B:=by
      rcases h4 with h4 | ⟨m,hm⟩
      ·exact ⟨0,by rw[h4];rfl⟩
      ·exact ⟨m+1,by simpa using hm⟩
     have hmin:∀q∈p::hs,B.2.hi≤q.2.hi:=fun q hq=>by
      rcases List.mem_cons.1 hq with rfl | hq
      ·exact h2
      ·exact h3 q hq
     clear h2 h3 h4 hb
     obtain ⟨m,hm⟩:=hB
     have hne:((p::hs).map (·.2)).length≠0:=by simp
     generalize hL:p::hs=L at *
     have hBmem:B∈L:=List.mem_of_getElem? hm
     have hmt:(L.map (·.2))[m]?=some B.2:=by rw[List.getElem?_map,hm];rfl
     have hself:¬B.2.hi < B.2.lo:=by have:=(hok B hBmem).2;omega
     rw[show ((L.map (·.2)).length==0)=false by simpa using hne,show decide (B.1 < 0)=false by simp;omega]
     simp only[cond_false]
     cases hp:Zbu (L.map (·.2)) (L.map fun p=>(⟨p.1⟩:I)) (L.map (·.2)) 0 with
     | none=>
       have hf:=ZoL (by simp) hp m B.2 hmt
       obtain ⟨k,u,k1,k2,k3⟩:=Zhx hf
       have:=Zm9 B.2 _ m k B.2 u hmt hself k1 k3 (fun e=>k2 (by rw[e]))
       rw[show decide (behind B.2 (L.map (·.2))+1 < ((L.map (·.2)).length:Int))=true by simp only[decide_eq_true_eq];omega]
       rfl
     | some q=>
       obtain ⟨n,k1,k2,k3⟩:=ZoK hp
       have hq:L[n]?=some q:=by
        rw[List.getElem?_map] at k1 k2
        cases e:L[n]? with
        | none=>rw[e] at k1;exact absurd k1 (by simp)
        | some v=>
          rw[e] at k1 k2
          obtain ⟨v1,v2⟩:=v
          obtain ⟨q1,q2⟩:=q
          simp at k1 k2
          rw[k1,k2]
       have hnm:n=m:=by
        rcases Nat.decEq n m with e | e
        ·rcases Ze3 k3 m B.2 hmt with h5 | h5
         ·omega
         ·have h6:=hmin q (List.mem_of_getElem? hq)
          have h7:=(hok B hBmem).2
          omega
        ·exact e
       subst hnm
       have e:q=B:=by rw[hq] at hm;exact Option.some.inj hm
       subst e
       have:=ZoJ q.2 _ n q.2 hmt hself (fun k x hx hk=>by
        rcases Ze3 k3 k x hx with h5 | h5
        ·omega
        ·exact h5)
       rw[show decide (behind q.2 (L.map (·.2))+1 < ((L.map (·.2)).length:Int))=false by simp only[decide_eq_false_iff_not];omega]
       rfl
open Go.Ev Go.Proofs Go.Proofs.YtfeldacghdcghaaGreatDoor
def ZmA(s:SysM):=SysM.mk (Zd Surf.dec (List.map Surf.enc s.surfs)) s.op
def ZjF(s:SysM)(l:List Shape)(r:Ray):=nearest (Zd Shape.dec (List.map Shape.enc l)) (Men.trace (ZmA s) r).r
def ZmB(s:SysM)(l:List Shape)(r:Ray):=(List.map Shape.enc l).getD (ZjF s l r).fst.toNat []
def Zxo(s:SysM)(l:List Shape)(r:Ray):=[vI (intOf ((ZmB s l r).tail.tail.tail.tail.tail.tail.tail.tail.tail.headD PV.nil)),vI (intOf ((ZmB s l r).tail.tail.tail.tail.tail.tail.tail.tail.tail.tail.headD PV.nil)),vI (intOf ((ZmB s l r).tail.tail.tail.tail.tail.tail.tail.tail.tail.tail.tail.headD PV.nil))]
def Zxp(s:SysM)(l:List Shape)(r:Ray):=(0:Int)≤(ZjF s l r).fst∧(List.map Shape.enc l)[(ZjF s l r).fst.toNat]?=some (ZW [vI 0,vI 0,vI 0,vI 0,vI 0,vI 0,vI 0,vI 0,vI 0,vI 0,vI 0,vI 0] (ZmB s l r))
def Zd1:=[vI 0,vI 0,vI 0]
theorem Z6c:Zi Tryz.prog 67 e67:=Zj<|Zg fun s=>Zg fun l=>Zg fun r=>EZ1 fun hp0=>by
 refine cf0 (Za Z5y<|Za Z5c<|Ze) (fn:=Tryz.f67) rfl ?_
 refine sxT (fun Q=>(([PV.lst (List.map Surf.enc s.surfs),vI s.op.lo,vI s.op.hi,vB s.op.no]=(ZmA s).enc)∧(((Zd Surf.dec (List.map Surf.enc s.surfs)).length≤(1000000:Nat))∧(bif (Men.trace (ZmA s) r).kind==(2:Int) then Q (PV.tup [PV.agg Zd1,PV.agg Zd1,vB false]) else (bif (Men.trace (ZmA s) r).kind==(3:Int) then Q (PV.tup [PV.agg Zd1,PV.agg Zd1,vB true]) else ((List.map Shape.enc l=List.map Shape.enc (Zd Shape.dec (List.map Shape.enc l)))∧(((Zd Shape.dec (List.map Shape.enc l)).length≤(1000000:Nat))∧(bif (ZjF s l r).snd.snd==(1:Int) then ((Zxp s l r)∧((Zxp s l r)∧Q (PV.tup [PV.agg (Zxo s l r),PV.agg (Zxo s l r),vB false]))) else (bif (ZjF s l r).snd.snd==(2:Int) then Q (PV.tup [PV.agg Zd1,PV.agg Zd1,vB false]) else Q (PV.tup [PV.agg Zd1,PV.agg Zd1,vB true])))))))))) (fun _=>by kernel_rfl) ?_
 delta Qn ZjF Zxo Zxp ZmA ZmB Zd1 vI vB
 refine ⟨?r5,⟨?r4,Zb (fun h0=>?_) (fun h0=>Zb (fun h1=>?_) (fun h1=>⟨?r3,⟨?r2,Zb (fun h2=>⟨?r1,⟨?r0, ?_⟩⟩) (fun h2=>Zb (fun h3=>?_) (fun h3=>?_))⟩⟩))⟩⟩
 case r0|r1|r2|r3|r4|r5=>(first | rfl | (exact ⟨by decide,by decide⟩) | (rw[Zs];done) | (rw[Z3];done) | (simp only[SysM.enc,Z3];done) | (try simp only[Z3,Zs,Zkm,show (⟨s.surfs,s.op⟩:SysM)=s from rfl] at *;first | rfl | exact hp0.1 | exact hp0.2 | (have hk:=Zwk h2;exact ZH (fun _=>rfl) hk.1 hk.2)))
 all_goals simp only[Z3,Zs,Zkm,show (⟨s.surfs,s.op⟩:SysM)=s from rfl] at *
 ·simp only[Xl,h0,Qb_];rfl
 ·simp only[Xl,h0,h1,Qb_,Qd_];rfl
 ·simp only[Xl,h0,h1,h2,Qb_,Qd_];rfl
 ·simp only[Xl,h0,h1,h2,h3,Qb_,Qd_];rfl
 ·simp only[Xl,h0,h1,h2,h3,Qd_];rfl
def ZjG(z:Cx):=Ieee.Datum.toInt Ieee.Toward.zero (FloatKind.f64.decode z.re)
def ZjH(z:Cx):=Ieee.Datum.toInt Ieee.Toward.zero (FloatKind.f64.decode z.im)
def Zhh:=PV.tup [PV.agg [vI 0,vI 0],vB false]
theorem Z6d:Zi Tryz.prog 15 e15:=Zj<|Zg fun z=>EZ0<|by
 refine cf0 Ze (fn:=Tryz.f15) rfl ?_
 refine sxT (fun Q=>(bif FloatKind.f64.format.order z.re (13920626448202203136:Nat)==some Ordering.gt||FloatKind.f64.format.order z.re (13920626448202203136:Nat)==some Ordering.eq then (bif FloatKind.f64.format.order z.re (4697254411347427328:Nat)==some Ordering.lt||FloatKind.f64.format.order z.re (4697254411347427328:Nat)==some Ordering.eq then (bif FloatKind.f64.format.order z.im (13920626448202203136:Nat)==some Ordering.gt||FloatKind.f64.format.order z.im (13920626448202203136:Nat)==some Ordering.eq then (bif !(FloatKind.f64.format.order z.im (4697254411347427328:Nat)==some Ordering.lt||FloatKind.f64.format.order z.im (4697254411347427328:Nat)==some Ordering.eq) then Q Zhh else ((Ieee.Datum.toInt Ieee.Toward.zero (FloatKind.f64.decode z.re)=some ((ZjG z).getD (0:Int)))∧(((-9223372036854775808:Int)≤(ZjG z).getD (0:Int))∧(((ZjG z).getD (0:Int)≤(9223372036854775807:Int))∧((Ieee.Datum.toInt Ieee.Toward.zero (FloatKind.f64.decode z.im)=some ((ZjH z).getD (0:Int)))∧(((-9223372036854775808:Int)≤(ZjH z).getD (0:Int))∧(((ZjH z).getD (0:Int)≤(9223372036854775807:Int))∧(bif FloatKind.f64.format.order (FloatKind.f64.nearest ((ZjG z).getD (0:Int))) z.re !=some Ordering.eq then Q Zhh else (bif FloatKind.f64.format.order (FloatKind.f64.nearest ((ZjH z).getD (0:Int))) z.im !=some Ordering.eq then Q Zhh else Q (PV.tup [PV.agg [vI ((ZjG z).getD (0:Int)),vI ((ZjH z).getD (0:Int))],vB true])))))))))) else Q Zhh) else Q Zhh) else Q Zhh)) (fun _=>by kernel_rfl) ?_
 delta Qn ZjG ZjH Zhh vI vB
 refine Zb (fun h0=>Zb (fun h1=>Zb (fun h2=>Zb (fun h3=>?_) (fun h3=>⟨?r5,⟨?r4,⟨?r3,⟨?r2,⟨?r1,⟨?r0,Zb (fun h4=>?_) (fun h4=>Zb (fun h5=>?_) (fun h5=>?_))⟩⟩⟩⟩⟩⟩)) (fun h2=>?_)) (fun h1=>?_)) (fun h0=>?_)
 case r0|r1|r2|r3|r4|r5=>(first | rfl | exact (Zci h0 h1).1 | exact (Zci h0 h1).2.1 | exact (Zci h0 h1).2.2 | exact (Zci h2 (by simp only[Qf_] at h3;exact h3)).1 | exact (Zci h2 (by simp only[Qf_] at h3;exact h3)).2.1 | exact (Zci h2 (by simp only[Qf_] at h3;exact h3)).2.2)
 all_goals have hW:ZY z=(Zbw z.re&&Zbw z.im):=(by rw[Zrv,Zrv];rfl)
 all_goals (try simp only[bne,Qi_,Qf_] at h3)
 all_goals (try simp only[bne,Qi_,Qf_] at h4)
 all_goals (try simp only[bne,Qi_,Qf_] at h5)
 all_goals (try change geF z.re 13920626448202203136=_ at h0)
 all_goals (try change leF z.re 4697254411347427328=_ at h1)
 all_goals (try change geF z.im 13920626448202203136=_ at h2)
 all_goals (try change leF z.im 4697254411347427328=_ at h3)
 all_goals (try change eqF (FloatKind.f64.nearest (ZB z.re)) z.re=_ at h4)
 all_goals (try change eqF (FloatKind.f64.nearest (ZB z.im)) z.im=_ at h5)
 ·simp only[ofC,hW,Zbw,h3,Qn_,Ql_,Qd_];rfl
 ·simp only[ofC,hW,Zbw,h4,Qn_,Ql_,Qd_];rfl
 ·simp only[ofC,hW,Zbw,h5,Qn_,Ql_,Qd_];rfl
 ·simp only[ofC,hW,Zbw,h0,h1,h2,h3,h4,h5,Qr_,Qp_,Qb_];rfl
 ·simp only[ofC,hW,Zbw,h2,Qn_,Ql_,Qd_];rfl
 ·simp only[ofC,hW,Zbw,h1,Qn_,Ql_,Qd_];rfl
 ·simp only[ofC,hW,Zbw,h0,Qn_,Ql_,Qd_];rfl
end Go.Men
namespace Go.Men
open Go Go.Ev
def Zsu(k:Int):Ent
 | [.v (.int .i64 p1)]=>some (.str (digits p1),[0≤p1∧p1 < k])
 | _=>none
open Go.Proofs Go.Proofs.YtfeldacghdcghaaGreatDoor
theorem Z51(k:Int)(n:Int)(Q:PV→Prop):sxF evEnv (YC [(14,Zsu k)]) ZdW ZdX noG [] 2000 Tryz.f14 [.v (.int .i64 n)] Q=(bif decide (n < (0:Int)) then (((0:Int)≤IntKind.i64.wrap ((0:Int) - n)∧IntKind.i64.wrap ((0:Int) - n) < k)∧(((1:Nat)+(digits (IntKind.i64.wrap ((0:Int) - n))).length≤(9223372036854775807:Nat))∧Q (.str ([(45:UInt8)]++digits (IntKind.i64.wrap ((0:Int) - n)))))) else (bif decide (n < (10:Int)) then (((bif decide ((0:Int)≤IntKind.u8.wrap (IntKind.i64.wrap ((48:Int)+n)))&&decide (IntKind.u8.wrap (IntKind.i64.wrap ((48:Int)+n)) < (256:Int)) then some [UInt8.ofNat (IntKind.u8.wrap (IntKind.i64.wrap ((48:Int)+n))).toNat] else none)=some ((bif decide ((0:Int)≤IntKind.u8.wrap (IntKind.i64.wrap ((48:Int)+n)))&&decide (IntKind.u8.wrap (IntKind.i64.wrap ((48:Int)+n)) < (256:Int)) then some [UInt8.ofNat (IntKind.u8.wrap (IntKind.i64.wrap ((48:Int)+n))).toNat] else none).getD []))∧Q (.str ((bif decide ((0:Int)≤IntKind.u8.wrap (IntKind.i64.wrap ((48:Int)+n)))&&decide (IntKind.u8.wrap (IntKind.i64.wrap ((48:Int)+n)) < (256:Int)) then some [UInt8.ofNat (IntKind.u8.wrap (IntKind.i64.wrap ((48:Int)+n))).toNat] else none).getD []))) else (((10:Int)≠(0:Int))∧(((0:Int)≤IntKind.i64.wrap (n.tdiv (10:Int))∧IntKind.i64.wrap (n.tdiv (10:Int)) < k)∧(((10:Int)≠(0:Int))∧(((bif decide ((0:Int)≤IntKind.u8.wrap (IntKind.i64.wrap ((48:Int)+n.tmod (10:Int))))&&decide (IntKind.u8.wrap (IntKind.i64.wrap ((48:Int)+n.tmod (10:Int))) < (256:Int)) then some [UInt8.ofNat (IntKind.u8.wrap (IntKind.i64.wrap ((48:Int)+n.tmod (10:Int)))).toNat] else none)=some ((bif decide ((0:Int)≤IntKind.u8.wrap (IntKind.i64.wrap ((48:Int)+n.tmod (10:Int))))&&decide (IntKind.u8.wrap (IntKind.i64.wrap ((48:Int)+n.tmod (10:Int))) < (256:Int)) then some [UInt8.ofNat (IntKind.u8.wrap (IntKind.i64.wrap ((48:Int)+n.tmod (10:Int)))).toNat] else none).getD []))∧(((digits (IntKind.i64.wrap (n.tdiv (10:Int)))).length+((bif decide ((0:Int)≤IntKind.u8.wrap (IntKind.i64.wrap ((48:Int)+n.tmod (10:Int))))&&decide (IntKind.u8.wrap (IntKind.i64.wrap ((48:Int)+n.tmod (10:Int))) < (256:Int)) then some [UInt8.ofNat (IntKind.u8.wrap (IntKind.i64.wrap ((48:Int)+n.tmod (10:Int)))).toNat] else none).getD []).length≤(9223372036854775807:Nat))∧Q (.str (digits (IntKind.i64.wrap (n.tdiv (10:Int)))++(bif decide ((0:Int)≤IntKind.u8.wrap (IntKind.i64.wrap ((48:Int)+n.tmod (10:Int))))&&decide (IntKind.u8.wrap (IntKind.i64.wrap ((48:Int)+n.tmod (10:Int))) < (256:Int)) then some [UInt8.ofNat (IntKind.u8.wrap (IntKind.i64.wrap ((48:Int)+n.tmod (10:Int)))).toNat] else none).getD []))))))))):=by kernel_rfl
theorem ZzW{k:Int}(h:∀n:Int,0≤n→n < k→Con Tryz.prog 14 [.v (.int .i64 n)] (.str (digits n))):Zi Tryz.prog 14 (Zsu k):=by
 intro args r ps h1 hp
 unfold Zsu at h1
 split at h1
 ·cases Qa_ h1
  have:=hp _ Qv_
  exact h _ this.1 this.2
 ·exact absurd h1 (by simp)
theorem Zsv{k:Int}(h:∀n:Int,0≤n→n < k→Con Tryz.prog 14 [.v (.int .i64 n)] (.str (digits n))){n:Int}(h1: -1000000000000000000≤n∧n≤1000000000000000000)(h2:n < 0→ -n < k)(h3:10≤n→n / 10 < k):Con Tryz.prog 14 [.v (.int .i64 n)] (.str (digits n)):=by
 refine ZuI Zl (Za (ZzW h) Ze) ZA Z7 ZJ (n:=2000) (LS:=[]) (fn:=Tryz.f14) rfl Zao ?_
 rw[Z51]
 refine Zb (fun h0=>?_) (fun h0=>Zb (fun h4=>?_) (fun h4=>?_))
 ·have h0:=Qy_ h0
  have hb:=ZS (-n)
  rw[X7 (by constructor<;>omega)]
  refine ⟨⟨by omega,h2 h0⟩,by omega, ?_⟩
  rw[Zwo h0];rfl
 ·have h0:=of_decide_eq_false h0
  have h4:=Qy_ h4
  rw[ZuO (by omega) h4,Zwn (by omega) h4]
  exact ⟨rfl,rfl⟩
 ·have h4:=of_decide_eq_false h4
  have e1:n.tdiv 10=n / 10:=Int.tdiv_eq_ediv_of_nonneg (by omega)
  have e2:n.tmod 10=n % 10:=Int.tmod_eq_emod_of_nonneg (by omega)
  have hb:=ZS (n / 10)
  rw[e1,e2,Zf (by constructor<;>omega),ZuO (by omega) (by omega),ZtO (by omega) h1.2]
  exact ⟨by decide,⟨by omega,h3 (by omega)⟩,by decide,rfl,by show (digits (n / 10)).length+1≤_;omega,rfl⟩
theorem Zsw:∀(k:Nat) (n:Int),0≤n→n < k→n≤1000000000000000000→Con Tryz.prog 14 [.v (.int .i64 n)] (.str (digits n))
 | 0,n,h0,h,_=>by omega
 | k+1,n,h0,h,hb=>by
   refine Zsv (k:=min (k:Int) 1000000000000000001) (fun m a b=>Zsw k m a (by omega) (by omega)) (by omega) (by omega) (fun h1=>?_)
   omega
theorem Zxq(n:Int)(h: -1000000000000000000≤n∧n≤1000000000000000000):Con Tryz.prog 14 [.v (.int .i64 n)] (.str (digits n)):=
 Zsv (k:=1000000000000000001) (fun m a b=>Zsw (m.toNat+1) m a (by omega) (by omega)) h (by omega) (by omega)
theorem Zxr:Zi Tryz.prog 14 e14:=Zj<|Zg fun n=>EZ1 fun h=>Zxq n h
end Go.Men
namespace Go.Men
open Go.Ev Go.Proofs Go.Proofs.YtfeldacghdcghaaGreatDoor
def Zxs(c:Int)(Q:PV→Prop):Prop:=bif decide (c≥(65:Int)) then Q (vB (decide (c≤(90:Int)))) else Q (vB false)
theorem ZzX:Zi Tryz.prog 149 Z4I:=Zj<|Zg fun c=>EZ0<|by
 refine cf0 Ze (fn:=Tryz.f149) rfl ?_
 refine sxT (fun Q=>(bif decide (c≥(97:Int)) then (bif decide (c≤(122:Int)) then Q (vB true) else (Zxs c Q)) else (Zxs c Q))) (fun _=>by kernel_rfl) ?_
 delta Qn Zxs vB
 refine Zb (fun h0=>Zb (fun h1=>?_) (fun h1=>Zb (fun h2=>?_) (fun h2=>?_))) (fun h0=>Zb (fun h1=>?_) (fun h1=>?_))
 all_goals (simp only[ZaS,ZK,ZC,List.foldl,Qr_,Qp_,Ql_,Qn_,Q5_,Q4_,Qw_,Q3_,Qu_,Qt_,Qb_,Qd_,QD_,Q8_, *];rfl)
theorem Z52:Zi Tryz.prog 185 Z7w:=Zj<|Zg fun c=>EZ0<|by
 refine cf0 Ze (fn:=Tryz.f185) rfl ?_
 refine sxT (fun Q=>(bif decide (c≥(48:Int)) then Q (vB (decide (c≤(57:Int)))) else Q (vB false))) (fun _=>by kernel_rfl) ?_
 delta Qn vB
 refine Zb (fun h0=>?_) (fun h0=>?_)
 all_goals (simp only[ZlY,ZK,ZC,List.foldl,Qr_,Qp_,Ql_,Qn_,Q5_,Q4_,Qw_,Q3_,Qu_,Qt_,Qb_,Qd_,QD_,Q8_, *];rfl)
theorem Z53:Zi Tryz.prog 150 Z4J:=Zj<|Zg fun c=>EZ0<|by
 refine cf0 (Za ZzX<|Za Z52<|Ze) (fn:=Tryz.f150) rfl ?_
 refine sxT (fun Q=>(bif ZaS c then Q (vB true) else (bif ZlY c then Q (vB true) else (bif c==(45:Int) then Q (vB true) else Q (vB (c==(95:Int))))))) (fun _=>by kernel_rfl) ?_
 delta Qn vB
 refine Zb (fun h0=>?_) (fun h0=>Zb (fun h1=>?_) (fun h1=>Zb (fun h2=>?_) (fun h2=>?_)))
 all_goals (simp only[Zj7,ZK,ZC,List.foldl,Qr_,Qp_,Ql_,Qn_,Q5_,Q4_,Qw_,Q3_,Qu_,Qt_,Qb_,Qd_,QD_,Q8_, *];rfl)
def Z1U:=YC [(149,Z4I),(150,Z4J)]
theorem ZoM:CSOk Tryz.prog Z1U:=Za ZzX<|Za Z53<|Ze
theorem Zuc:Yt Tryz.prog (Zt Tryz.f113 0) Zmk:=by
 refine lsG Zl.Γ (Z6 Zl ZoM ZA Z7 ZJ (LS:=[]) (ZV (l:=[]) (by kernel_rfl) Zu) (n:=2000) (U2 Zw7) (U2 Zaa) (fun x e s=>((U2 Jd x=true∧e= .ret∧s=U2 ZgU x)∨(U2 Jd x=false∧e= .exit 0∧s=U2 ZgT x))) (fun x=>(x.2.length - x.1).toNat) Zmj ZtT ZtU (fun x hx=>?_)) cv2 (fun _=>rfl) (fun _ h=>h) (fun _ _ _ _ h f=>fC h f fE fE)
 ·obtain ⟨i,s⟩:=x
  simp only[U2,Zaa] at hx
  refine sxT (fun Q=>(bif decide (i < ↑s.length) then (((0:Int)≤i∧i < ↑s.length)∧(bif !Zj7 ↑(s.getD i.toNat (0:UInt8)).toNat then Q (Ex.ret) (some ⟨29,[(2,AV.p (vB false))],[],[],[],[]⟩) else Q (Ex.normal) (some ⟨29,[(3,AV.p (vI (IntKind.i64.wrap (i+(1:Int))))),(0,AV.p (PV.str s))],[],[],[],[]⟩))) else Q (Ex.exit (0:Nat)) (some ⟨29,[],[],[],[],[]⟩))) (fun _=>by kernel_rfl) ?_
  delta vI vB
  refine Zb (fun h0=>⟨?r0,Zb (fun h1=> .inr ⟨by simp,_,rfl, ?_⟩) (fun h1=> .inl ⟨rfl,(IntKind.i64.wrap (i+(1:Int)),s),rfl, ?_, ?_, ?_⟩)⟩) (fun h0=> .inr ⟨by simp,_,rfl, ?_⟩)
  case r0=>(obtain ⟨a1,a2,a3⟩:=hx;simp only[Qc_] at h0;omega)
  all_goals try dsimp only[U2]
  all_goals (obtain ⟨a1,a2,a3⟩:=hx;try simp only[Qc_,Qe_] at h0)
  all_goals first | (have hk:i < s.length:=h0;obtain ⟨x,t,e1,e2,e3⟩:=Yu (l:=s) a1 (by omega);have eg:s.getD i.toNat 0=x:=(by rw[Q7_,e3];rfl);rw[eg] at h1;have en:(s.drop i.toNat).all ZgM=(ZgM x&&t.all ZgM):=(by rw[e1];rfl)) | skip
  all_goals try rw[Zf (show Fit (i+1) by constructor<;>omega)]
  all_goals try simp only[U2,Zaa,Jd,ZgU,ZgT]
  ·change (!ZgM x)=true at h1
   simp only[Qi_] at h1
   exact .inl ⟨by rw[en,h1];rfl,by trivial,by trivial⟩
  ·exact ⟨by omega,by omega,a3⟩
  ·omega
  ·change (!ZgM x)=false at h1
   simp only[Qf_] at h1
   rw[en,e2,h1];exact fun e s h=>h
  ·exact .inr ⟨by rw[Q0_ (by omega)];rfl,by trivial,by trivial⟩
theorem Zxt:ZF Tryz.prog [(5,Zmk)] Tryz.f113:=ZN (l:=[Zt Tryz.f113 0]) (by kernel_rfl) (ZE (i:=5) (by kernel_rfl) rfl Zuc (Zu))
theorem ZzY:Zi Tryz.prog 113 Z4K:=Zj<|Zg fun s=>EZ0<|by
 refine cfL ZoM Zxt rfl ?_
 refine sxT (fun Q=>(bif ↑s.length==(0:Int) then Q (vB false) else (bif decide (↑s.length > (20:Int)) then Q (vB false) else (((0:Int)≤(0:Int)∧(0:Int) < ↑s.length)∧(bif !ZaS ↑(s.getD (0:Nat) (0:UInt8)).toNat then Q (vB false) else ((Zaa (0:Int) s)∧(bif Jd (0:Int) s then Q (vB false) else Q (vB true)))))))) (fun _=>by kernel_rfl) ?_
 delta Qn vB
 refine Zb (fun h0=>?_) (fun h0=>Zb (fun h1=>?_) (fun h1=>⟨?r0,Zb (fun h2=>?_) (fun h2=>⟨?_,Zb (fun h3=>?_) (fun h3=>?_)⟩)⟩))
 case r0=>first | (obtain ⟨a1,a2,a3⟩:=hx;simp only[Qc_] at h0;omega) | (have h0:¬((s.length:Int)=0):=(by simpa using h0);omega)
 all_goals (try simp only[Qc_,Qe_,Qi_,Qf_] at *)
 ·have h0:(s.length:Int)=0:=(by simpa using h0)
  have e:decide (1≤s.length)=false:=QQ_ (by omega)
  simp only[Zar,e,Ql_];rfl
 ·have e:decide (s.length≤20)=false:=QQ_ (by omega)
  simp only[Zar,e,Ql_,Qn_];rfl
 ·have e0:ZaS ((s.getD 0 0).toNat:Int)=false:=h2
  simp only[Zar,e0,Ql_,Qn_];rfl
 ·have h0:¬((s.length:Int)=0):=(by simpa using h0)
  simp only[Zaa];omega
 ·have h0:¬((s.length:Int)=0):=(by simpa using h0)
  simp only[Jd,QO_,QG_,Qi_] at h3
  simp only[Zar,h3,Qn_];rfl
 ·have h0:¬((s.length:Int)=0):=(by simpa using h0)
  simp only[Jd,QO_,QG_,Qf_] at h3
  have e1:decide (1≤s.length)=true:=QH_ (by omega)
  have e2:decide (s.length≤20)=true:=QH_ (by omega)
  have e3:ZaS ((s.getD 0 0).toNat:Int)=true:=h2
  simp only[Zar,e1,e2,e3,h3,Qr_];rfl
def Zxu(d:Dec):=List.foldl imax d.c [IntKind.i64.wrap ((0:Int) - d.c)]
def Zqc(d:Dec):=(Zxu d).tmod (Z1 d.scale)+Z1 d.scale
def ZmC(d:Dec):=(Zxu d).tdiv (Z1 d.scale)
def Zc1(d:Dec):=IntKind.i64.wrap (ZmC d)
def ZjI(d:Dec):=(0:Int)≤d.scale∧d.scale≤(18:Int)
def Zhi(d:Dec):=digits (IntKind.i64.wrap (Zqc d))
def Zxv(d:Dec):=(-1000000000000000000:Int)≤IntKind.i64.wrap (Zqc d)∧IntKind.i64.wrap (Zqc d)≤(1000000000000000000:Int)
theorem Z54:Zi Tryz.prog 151 Z7x:=Zj<|Zg fun d=>EZ0<|by
 refine cf0 (Za ZwY<|Za ZrY<|Za Zxr<|Ze) (fn:=Tryz.f151) rfl ?_
 refine sxT (fun Q=>(bif !ZM d then Q (PV.str ([])) else ((ZjI d)∧((Z1 d.scale≠(0:Int))∧(bif decide (IntKind.i64.wrap (ZmC d) > (99999:Int)) then Q (PV.str ([])) else (((-1000000000000000000:Int)≤IntKind.i64.wrap (ZmC d)∧IntKind.i64.wrap (ZmC d)≤(1000000000000000000:Int))∧(bif decide (d.c < (0:Int)) then (((1:Nat)+(digits (Zc1 d)).length≤(9223372036854775807:Nat))∧(bif decide (d.scale > (0:Int)) then ((ZjI d)∧((Z1 d.scale≠(0:Int))∧((ZjI d)∧((Zxv d)∧((([(45:UInt8)]++digits (Zc1 d)).length+(1:Nat)≤(9223372036854775807:Nat))∧(((0:Int)≤(1:Int)∧(1:Int)≤↑(Zhi d).length)∧((([(45:UInt8)]++digits (Zc1 d)++[(46:UInt8)]).length+(List.drop (1:Nat) (Zhi d)).length≤(9223372036854775807:Nat))∧Q (PV.str ([(45:UInt8)]++digits (Zc1 d)++[(46:UInt8)]++List.drop (1:Nat) (Zhi d)))))))))) else Q (PV.str ([(45:UInt8)]++digits (Zc1 d))))) else (bif decide (d.scale > (0:Int)) then ((ZjI d)∧((Z1 d.scale≠(0:Int))∧((ZjI d)∧((Zxv d)∧(((digits (Zc1 d)).length+(1:Nat)≤(9223372036854775807:Nat))∧(((0:Int)≤(1:Int)∧(1:Int)≤↑(Zhi d).length)∧(((digits (Zc1 d)++[(46:UInt8)]).length+(List.drop (1:Nat) (Zhi d)).length≤(9223372036854775807:Nat))∧Q (PV.str (digits (Zc1 d)++[(46:UInt8)]++List.drop (1:Nat) (Zhi d)))))))))) else Q (PV.str (digits (Zc1 d))))))))))) (fun _=>by kernel_rfl) ?_
 delta Qn Zxu Zqc Zc1 ZjI Zhi Zxv ZmC
 refine Zb (fun h0=>?_) (fun h0=>⟨?r17,⟨?r16,Zb (fun h1=>?_) (fun h1=>⟨?r15,Zb (fun h2=>⟨?r7,Zb (fun h3=>⟨?r6,⟨?r5,⟨?r4,⟨?r3,⟨?r2,⟨?r1,⟨?r0, ?_⟩⟩⟩⟩⟩⟩⟩) (fun h3=>?_)⟩) (fun h2=>Zb (fun h3=>⟨?r14,⟨?r13,⟨?r12,⟨?r11,⟨?r10,⟨?r9,⟨?r8, ?_⟩⟩⟩⟩⟩⟩⟩) (fun h3=>?_))⟩)⟩⟩)
 case r0|r1|r2|r3|r4|r5|r6|r7|r8|r9|r10|r11|r12|r13|r14|r15|r16|r17=>have hf:=Zow (by simpa using h0);have l1:=ZS (headD d);have l2:=ZS (Zbx d);(try simp only[hf.1,show (Zdf d).tdiv (Z1 d.scale)=headD d from rfl,show (Zdf d).tmod (Z1 d.scale)+Z1 d.scale=Zbx d from rfl,hf.2.1,hf.2.2.1,Qx_,Qs_,Q1_,KD_]);omega
 ·simp only[Qi_] at h0
  simp only[Zcj,h0,Qd_];rfl
 all_goals have hf:=Zow (by simpa using h0)
 all_goals simp only[Qf_] at h0
 all_goals simp only[hf.1,show (Zdf d).tdiv (Z1 d.scale)=headD d from rfl,show (Zdf d).tmod (Z1 d.scale)+Z1 d.scale=Zbx d from rfl,hf.2.1,hf.2.2.1] at *
 all_goals simp only[Zcj,Zrx,Zwm, *,Qb_,Qd_]
 all_goals rfl
theorem ZzZ:Zi Tryz.prog 114 Z4L:=Zj<|Zg fun d=>EZ0<|by
 refine cf0 (Za Z54<|Ze) (fn:=Tryz.f114) rfl ?_
 refine sxT (fun Q=>Q (vB (!Zcj d==[]))) (fun _=>by kernel_rfl) ?_
 delta Qn vB
 refine ?_
 rw[Zry];rfl
theorem Z0a:Zi Tryz.prog 115 Z4M:=Zj<|Zg fun d=>EZ0<|by
 refine cf0 Ze (fn:=Tryz.f115) rfl ?_
 refine sxT (fun Q=>Q (vB (decide (d.c > (0:Int))))) (fun _=>by kernel_rfl) ?_
 delta Qn vB
 refine ?_
 all_goals rfl
theorem Z2N:Zi Tryz.prog 82 e82:=Zj<|Zg fun d=>EZ0<|by
 refine cf0 Ze (fn:=Tryz.f82) rfl ?_
 refine sxT (fun Q=>Q (vB (d.c==(0:Int)&&(d.scale==(0:Int)&&true)))) (fun _=>by kernel_rfl) ?_
 delta Qn vB
 refine ?_
 simp only[YF,Qr_];rfl
theorem Z55:Zi Tryz.prog 153 Z7y:=Zj<|Zg fun d=>EZ0<|by
 refine cf0 Ze (fn:=Tryz.f153) rfl ?_
 refine sxT (fun Q=>Q (PV.agg [vI (List.foldl imax d.c [IntKind.i64.wrap ((0:Int) - d.c)]),vI d.scale])) (fun _=>by kernel_rfl) ?_
 delta Qn vI
 refine ?_
 simp only[ZpB,List.foldl,ZC];rfl
theorem Z56:Zi Tryz.prog 152 Z7z:=Zj<|Zg fun a=>Zg fun b=>EZ0<|by
 refine cf0 (Za ZwY<|Za ZrY<|Ze) (fn:=Tryz.f152) rfl ?_
 refine sxT (fun Q=>(bif ZM a then (bif ZM b then (((0:Int)≤IntKind.i64.wrap ((6:Int) - a.scale)∧IntKind.i64.wrap ((6:Int) - a.scale)≤(18:Int))∧(((0:Int)≤IntKind.i64.wrap ((6:Int) - b.scale)∧IntKind.i64.wrap ((6:Int) - b.scale)≤(18:Int))∧Q (vB (decide (IntKind.i64.wrap (a.c *Z1 (IntKind.i64.wrap ((6:Int) - a.scale))) < IntKind.i64.wrap (b.c *Z1 (IntKind.i64.wrap ((6:Int) - b.scale)))))))) else Q (vB false)) else Q (vB false))) (fun _=>by kernel_rfl) ?_
 delta Qn vB
 refine Zb (fun h0=>Zb (fun h1=>⟨?r1,⟨?r0, ?_⟩⟩) (fun h1=>?_)) (fun h0=>?_)
 case r0|r1=>have h0:=ZgN h0;have h1:=ZgN h1;rw[h0.1] at *;rw[h1.1] at *;first | exact h0.2.1 | exact h1.2.1
 ·have f0:=ZgN h0;have f1:=ZgN h1
  rw[f0.1,f1.1,f0.2.2,f1.2.2]
  simp only[ZdD,h0,h1,Qp_];rfl
 ·simp only[ZdD,h0,h1,Qp_,Ql_];rfl
 ·simp only[ZdD,h0,Ql_];rfl
def WH(i:Int)(l:List Glass):=(List.map Glass.enc l).getD i.toNat []
def Zsx(i:Int)(l:List Glass):=(0:Int)≤i∧(List.map Glass.enc l)[i.toNat]?=some (ZW [PV.str [],vI 0,vI 0,vI 0,vI 0,vI 0,vI 0,vI 0,vI 0,vI 0,vI 0,vI 0,vI 0] (WH i l))
theorem ZiI:CSOk Tryz.prog (YC []):=Ze
theorem ZnU:Yt Tryz.prog (Zt Tryz.f86 0) Zhu:=by
 refine lsG Zl.Γ (Z6 Zl ZiI ZA Z7 ZJ (LS:=[]) (ZV (l:=[]) (by kernel_rfl) Zu) (n:=2000) (U4 Zpc) (U4 Ws) (fun x e s=>((U4 Wt x=true∧e= .ret∧s=U4 Zdi x)∨(U4 Wt x=false∧e= .exit 0∧s=U4 Zdh x))) (fun x=>(x.2.1.length - x.1).toNat) Zht ZnN ZnO (fun x hx=>?_)) cv4 (fun _=>rfl) (fun _ h=>h) (fun _ _ _ _ h f=>fC h f fE fE)
 ·obtain ⟨i,l,n,z⟩:=x
  simp only[U4,Ws] at hx
  refine sxT (fun Q=>(bif decide (i < ↑(List.map Glass.enc l).length) then ((Zsx i l)∧(bif Zbq ((WH i l).headD PV.nil)==n then ((Zsx i l)∧Q (Ex.ret) (some ⟨25,[(4,AV.ptr 4 0),(5,AV.p (vB true))],[(4,[PV.str (Zbq ((WH i l).headD PV.nil)),vI (intOf ((WH i l).tail.headD PV.nil)),vI (intOf ((WH i l).tail.tail.headD PV.nil)),vI (intOf ((WH i l).tail.tail.tail.headD PV.nil)),vI (intOf ((WH i l).tail.tail.tail.tail.headD PV.nil)),vI (intOf ((WH i l).tail.tail.tail.tail.tail.headD PV.nil)),vI (intOf ((WH i l).tail.tail.tail.tail.tail.tail.headD PV.nil)),vI (intOf ((WH i l).tail.tail.tail.tail.tail.tail.tail.headD PV.nil)),vI (intOf ((WH i l).tail.tail.tail.tail.tail.tail.tail.tail.headD PV.nil)),vI (intOf ((WH i l).tail.tail.tail.tail.tail.tail.tail.tail.tail.headD PV.nil)),vI (intOf ((WH i l).tail.tail.tail.tail.tail.tail.tail.tail.tail.tail.headD PV.nil)),vI (intOf ((WH i l).tail.tail.tail.tail.tail.tail.tail.tail.tail.tail.tail.headD PV.nil)),vI (intOf ((WH i l).tail.tail.tail.tail.tail.tail.tail.tail.tail.tail.tail.tail.headD PV.nil))])],[],[],[]⟩)) else Q (Ex.normal) (some ⟨25,[(4,AV.ptr 4 0),(6,AV.p (vI (IntKind.i64.wrap (i+(1:Int))))),(0,AV.p (PV.lst (List.map Glass.enc l))),(1,AV.p (PV.str n))],[(4,(Zej z))],[],[],[]⟩))) else Q (Ex.exit (0:Nat)) (some ⟨25,[(4,AV.ptr 4 0)],[(4,(Zej z))],[],[],[]⟩))) (fun _=>by kernel_rfl) ?_
  delta WH Zsx Zej vI vB
  refine Zb (fun h0=>⟨?r1,Zb (fun h1=>⟨?r0,.inr ⟨by simp,_,rfl, ?_⟩⟩) (fun h1=> .inl ⟨rfl,(IntKind.i64.wrap (i+(1:Int)),l,n,z),rfl, ?_, ?_, ?_⟩)⟩) (fun h0=> .inr ⟨by simp,_,rfl, ?_⟩)
  case r0|r1=>first | rfl | (rw[Yv];done) | (obtain ⟨a1,a2,a3⟩:=hx;simp only[Qk_,Qc_] at h0;exact ZH (fun _=>rfl) (by omega) (by omega))
  all_goals try dsimp only[U4]
  all_goals (obtain ⟨a1,a2,a3⟩:=hx;try simp only[Qk_,Qc_,Qe_] at h0)
  all_goals first | (have hk:i < l.length:=h0;obtain ⟨x,t,e1,e2,e3⟩:=Yu (l:=l) a1 (by omega);simp only[Yz e3] at *;have en:YH (l.drop i.toNat) n=bif x.name==n then (x,true) else YH t n:=(by rw[e1];rfl)) | skip
  all_goals try rw[Zf (show Fit (i+1) by constructor<;>omega)]
  all_goals try simp only[U4,Ws,Wt,Zdi,Zdh]
  ·change (x.name==n)=true at h1
   exact .inl ⟨by rw[en,h1];rfl,by trivial,by rw[en,h1];rfl⟩
  ·exact ⟨by omega,by omega,a3⟩
  ·omega
  ·change (x.name==n)=false at h1
   rw[en,e2,h1];exact fun e s h=>h
  ·exact .inr ⟨by rw[Q0_ (by omega)];rfl,by trivial,by trivial⟩
theorem Zpp:ZF Tryz.prog [(3,Zhu)] Tryz.f86:=ZN (l:=[Zt Tryz.f86 0]) (by kernel_rfl) (ZE (i:=3) (by kernel_rfl) rfl ZnU (Zu))
def Ze4:=G3.mk (Dec.mk (0:Int) (0:Int)) (Dec.mk (0:Int) (0:Int)) (Dec.mk (0:Int) (0:Int))
def ZiJ(l:List Glass):=Zd Glass.dec (List.map Glass.enc l)
theorem Z2O:Zi Tryz.prog 86 e86:=Zj<|Zg fun l=>Zg fun n=>EZ1 fun hp0=>by
 refine cfL ZiI Zpp rfl ?_
 refine sxT (fun Q=>((List.map Glass.enc l=List.map Glass.enc (ZiJ l))∧(([PV.str [],vI 0,vI 0,vI 0,vI 0,vI 0,vI 0,vI 0,vI 0,vI 0,vI 0,vI 0,vI 0]=(Glass.mk [] Ze4 Ze4).enc)∧((Ws (0:Int) (ZiJ l) n (Glass.mk [] Ze4 Ze4))∧(bif Wt (0:Int) (ZiJ l) n (Glass.mk [] Ze4 Ze4) then Q (PV.tup [PV.agg (Zej (YH (List.drop (0:Nat) (ZiJ l)) n).fst),vB true]) else Q (PV.tup [PV.agg [PV.str ([]),vI 0,vI 0,vI 0,vI 0,vI 0,vI 0,vI 0,vI 0,vI 0,vI 0,vI 0,vI 0],vB false])))))) (fun _=>by kernel_rfl) ?_
 delta Qn Ze4 ZiJ Zej vI vB
 refine ⟨?r1,⟨?r0,⟨?_,Zb (fun h0=>?_) (fun h0=>?_)⟩⟩⟩
 case r0|r1=>first | rfl | (rw[Yv];done)
 all_goals simp only[Ws,Wt,Yv,QO_,QG_] at *
 ·exact ⟨by omega,by omega,hp0⟩
 ·obtain ⟨A,hA⟩:∃A,YH l n=A:=⟨_,rfl⟩
  rw[hA] at h0 ⊢
  obtain ⟨g,b⟩:=A
  simp only at h0
  subst h0;rfl
 ·rw[Zig h0];rfl
theorem Z6e:Zi Tryz.prog 87 e87:=Zj<|Zg fun g=>Zg fun w=>EZ0<|by
 refine cf0 (Za ZpE<|Za Z2H<|Za Zxa<|Za Z4T<|Za Z4O<|Za Z2G<|Za Z2F<|Za Z4U<|Ze) (fn:=Tryz.f87) rfl ?_
 refine sxT (fun Q=>(bif g.name==[(97:UInt8),(105:UInt8),(114:UInt8)] then Q (PV.agg [vI 65536,vI 65536,vB false]) else (((0:Int)≤(0:Int)∧(0:Int) < (3:Int))∧(((0:Int)≤(0:Int)∧(0:Int) < (3:Int))∧(((0:Int)≤(1:Int)∧(1:Int) < (3:Int))∧(((0:Int)≤(1:Int)∧(1:Int) < (3:Int))∧(((0:Int)≤(2:Int)∧(2:Int) < (3:Int))∧(((0:Int)≤(2:Int)∧(2:Int) < (3:Int))∧Q (PV.agg (eIv (ZQ (add (add (add (point (65536:Int)) (Zo (Zk (Zh g.b.a) (sqr w)) (sub (sqr w) (Zh g.c.a)))) (Zo (Zk (Zh g.b.b) (sqr w)) (sub (sqr w) (Zh g.c.b)))) (Zo (Zk (Zh g.b.c) (sqr w)) (sub (sqr w) (Zh g.c.c))))))))))))))) (fun _=>by kernel_rfl) ?_
 delta Qn eIv vI vB
 refine Zb (fun h0=>?_) (fun h0=>⟨?r5,⟨?r4,⟨?r3,⟨?r2,⟨?r1,⟨?r0, ?_⟩⟩⟩⟩⟩⟩)
 case r0|r1|r2|r3|r4|r5=>first | rfl | (simp only[Zs,dI,dIv];omega) | (simp[Zd,chunk];done)
 ·have e:(g.name==Zie)=true:=h0
  simp only[Zby,e,Qb_];rfl
 ·have e:(g.name==Zie)=false:=h0
  simp only[Zby,e,Qd_,ZeV];rfl
theorem Z6f:Zi Tryz.prog 54 e54:=Zj<|Zg fun k=>EZ0<|by
 refine cf0 (Za Zxa<|Za Za2<|Ze) (fn:=Tryz.f54) rfl ?_
 refine sxT (fun Q=>(bif k==(0:Int) then Q (PV.agg [vI 38508,vI 38509,vB false]) else (bif k==(1:Int) then Q (PV.agg [vI 31857,vI 31858,vB false]) else (bif k==(2:Int) then Q (PV.agg [vI 43011,vI 43012,vB false]) else Q (PV.agg [vI 0,vI 0,vB true]))))) (fun _=>by kernel_rfl) ?_
 delta Qn vI vB
 refine Zb (fun h0=>?_) (fun h0=>Zb (fun h1=>?_) (fun h1=>Zb (fun h2=>?_) (fun h2=>?_)))
 all_goals simp only[ZlZ, *,Qb_,Qd_]
 all_goals rfl
theorem Zsy:CSOk Tryz.prog (YC []):=Ze
theorem Zxw:Yt Tryz.prog (Zt Tryz.f79 0) ZoC:=by
 refine lsG Zl.Γ (Z6 Zl Zsy ZA Z7 ZJ (LS:=[]) (ZV (l:=[]) (by kernel_rfl) Zu) (n:=2000) (U2 Zzs) (U2 ZaY) (fun x e s=>((U2 ZaZ x=true∧e= .ret∧s=U2 Ziz x)∨(U2 ZaZ x=false∧e= .exit 0∧s=U2 Ziy x))) (fun x=>(x.2.length - x.1).toNat) ZoB Zw8 Zw9 (fun x hx=>?_)) cv2 (fun _=>rfl) (fun _ h=>h) (fun _ _ _ _ h f=>fC h f fE fE)
 ·obtain ⟨i,l⟩:=x
  simp only[U2,ZaY] at hx
  refine sxT (fun Q=>(bif decide (i < ↑(List.map Face.enc l).length) then (((0:Int)≤i∧(List.map Face.enc l)[i.toNat]?=some (ZW [vB false,vI 0,vI 0,vI 0,vI 0,vI 0,vI 0,vI 0,vI 0,vI 0,vI 0,vI 0,vI 0,PV.str []] ((List.map Face.enc l).getD i.toNat [])))∧(bif !Zr (((List.map Face.enc l).getD i.toNat []).headD PV.nil) then Q (Ex.ret) (some ⟨16,[(2,AV.p (vB true))],[],[],[],[]⟩) else Q (Ex.normal) (some ⟨16,[(3,AV.p (vI (IntKind.i64.wrap (i+(1:Int))))),(0,AV.p (PV.lst (List.map Face.enc l)))],[],[],[],[]⟩))) else Q (Ex.exit (0:Nat)) (some ⟨16,[],[],[],[],[]⟩))) (fun _=>by kernel_rfl) ?_
  delta vI vB
  refine Zb (fun h0=>⟨?r0,Zb (fun h1=> .inr ⟨by simp,_,rfl, ?_⟩) (fun h1=> .inl ⟨rfl,(IntKind.i64.wrap (i+(1:Int)),l),rfl, ?_, ?_, ?_⟩)⟩) (fun h0=> .inr ⟨by simp,_,rfl, ?_⟩)
  case r0=>first | rfl | (rw[Wi];done) | (obtain ⟨a1,a2,a3⟩:=hx;simp only[Qk_,Qc_] at h0;exact ZH (fun _=>rfl) (by omega) (by omega))
  all_goals try dsimp only[U2]
  all_goals (obtain ⟨a1,a2,a3⟩:=hx;try simp only[Qk_,Qc_,Qe_] at h0)
  all_goals first | (have hk:i < l.length:=h0;obtain ⟨x,t,e1,e2,e3⟩:=Yu (l:=l) a1 (by omega);simp only[Yz e3] at *;have en:X4 (l.drop i.toNat)=(!x.stop||X4 t):=(by rw[e1];rfl)) | skip
  all_goals try rw[Zf (show Fit (i+1) by constructor<;>omega)]
  all_goals try simp only[U2,ZaY,ZaZ,Ziz,Ziy]
  ·change (!x.stop)=true at h1
   exact .inl ⟨by rw[en,h1];rfl,by trivial,by trivial⟩
  ·exact ⟨by omega,by omega,a3⟩
  ·omega
  ·change (!x.stop)=false at h1
   rw[en,e2,h1];exact fun e s h=>h
  ·exact .inr ⟨by rw[Q0_ (by omega)];rfl,by trivial,by trivial⟩
theorem Z0b:ZF Tryz.prog [(3,ZoC)] Tryz.f79:=ZN (l:=[Zt Tryz.f79 0]) (by kernel_rfl) (ZE (i:=3) (by kernel_rfl) rfl Zxw (Zu))
theorem Z6g:Zi Tryz.prog 79 e79:=Zj<|Zg fun l=>EZ1 fun hp0=>by
 refine cfL Zsy Z0b rfl ?_
 refine sxT (fun Q=>((List.map Face.enc l=List.map Face.enc (Zd Face.dec (List.map Face.enc l)))∧((ZaY (0:Int) (Zd Face.dec (List.map Face.enc l)))∧(bif ZaZ (0:Int) (Zd Face.dec (List.map Face.enc l)) then Q (vB true) else Q (vB false))))) (fun _=>by kernel_rfl) ?_
 delta Qn vB
 refine ⟨?r0,⟨?_,Zb (fun h0=>?_) (fun h0=>?_)⟩⟩
 case r0=>first | rfl | (rw[Wi];done)
 all_goals simp only[ZaY,ZaZ,Wi,QO_,QG_] at *
 ·exact ⟨by omega,by omega,hp0⟩
 ·rw[h0];rfl
 ·rw[h0];rfl
def Zxx(f:Face)(Q:PV→Prop):Prop:=bif f.radius.c==(0:Int) then Q (vB true) else Q (vB (!ZdD (ZpB f.radius) f.aperture))
theorem Z57:Zi Tryz.prog 116 Z4N:=Zj<|Zg fun f=>Zg fun g=>EZ1 fun hp0=>by
 refine cf0 (Za ZzZ<|Za Z0a<|Za Z2N<|Za Z2O<|Za ZzY<|Za Z55<|Za Z56<|Ze) (fn:=Tryz.f116) rfl ?_
 refine sxT (fun Q=>(bif !printable f.aperture then Q (vB false) else (bif !decide (f.aperture.c > (0:Int)) then Q (vB false) else (bif !printable f.thick then Q (vB false) else (bif decide (f.thick.c < (0:Int)) then Q (vB false) else (bif f.stop then (bif YF f.radius then (bif YF f.conic then (bif YF f.a4 then (bif YF f.a6 then Q (vB (f.glass==[])) else Q (vB false)) else Q (vB false)) else Q (vB false)) else Q (vB false)) else ((List.map Glass.enc g=List.map Glass.enc (Zd Glass.dec (List.map Glass.enc g)))∧(((Zd Glass.dec (List.map Glass.enc g)).length≤(140737488355328:Nat))∧(bif printable f.radius then (bif printable f.conic then (bif printable f.a4 then (bif printable f.a6 then (bif Zar f.glass then (bif (YH (Zd Glass.dec (List.map Glass.enc g)) f.glass).snd then (Zxx f Q) else (bif f.glass==[(97:UInt8),(105:UInt8),(114:UInt8)] then (Zxx f Q) else Q (vB false))) else Q (vB false)) else Q (vB false)) else Q (vB false)) else Q (vB false)) else Q (vB false)))))))))) (fun _=>by kernel_rfl) ?_
 delta Qn Zxx vB
 refine Zb (fun h0=>?_) (fun h0=>Zb (fun h1=>?_) (fun h1=>Zb (fun h2=>?_) (fun h2=>Zb (fun h3=>?_) (fun h3=>Zb (fun h4=>Zb (fun h5=>Zb (fun h6=>Zb (fun h7=>Zb (fun h8=>?_) (fun h8=>?_)) (fun h7=>?_)) (fun h6=>?_)) (fun h5=>?_)) (fun h4=>⟨?r1,⟨?r0,Zb (fun h5=>Zb (fun h6=>Zb (fun h7=>Zb (fun h8=>Zb (fun h9=>Zb (fun h10=>Zb (fun h11=>?_) (fun h11=>?_)) (fun h10=>Zb (fun h11=>Zb (fun h12=>?_) (fun h12=>?_)) (fun h11=>?_))) (fun h9=>?_)) (fun h8=>?_)) (fun h7=>?_)) (fun h6=>?_)) (fun h5=>?_)⟩⟩)))))
 case r0|r1=>first | rfl | (rw[Yv];done) | (simp only[Yv];omega)
 all_goals (try simp only[Yv,Qi_,Qf_] at *)
 all_goals simp only[WW,Zie, *,Qp_,Ql_,Qr_,Qn_,Qu_,Qt_,Q4_,Qw_,Q5_,Q3_,Qb_,Qd_]
 all_goals rfl
def Zud:=YC [(113,Z4K),(114,Z4L),(115,Z4M),(116,Z4N)]
def XN(i:Int)(l:LensM):=(List.map Face.enc l.faces).getD i.toNat []
def Zxy(i:Int)(l:LensM):=(0:Int)≤i∧(List.map Face.enc l.faces)[i.toNat]?=some (ZW [vB false,vI 0,vI 0,vI 0,vI 0,vI 0,vI 0,vI 0,vI 0,vI 0,vI 0,vI 0,vI 0,PV.str []] (XN i l))
theorem ZiK:CSOk Tryz.prog Zud:=Za ZzY<|Za ZzZ<|Za Z0a<|Za Z57<|Ze
theorem ZnV:Yt Tryz.prog (Zt Tryz.f80 0) Zhw:=by
 refine lsG Zl.Γ (Z6 Zl ZiK ZA Z7 ZJ (LS:=[]) (ZV (l:=[]) (by kernel_rfl) Zu) (n:=2000) (U4 Zpd) (U4 Wu) (fun x e s=>((U4 Wv x=true∧e= .ret∧s=U4 Zdk x)∨(U4 Wv x=false∧e= .exit 0∧s=U4 Zdj x))) (fun x=>(x.2.2.2.faces.length - x.1).toNat) Zhv ZnP ZnQ (fun x hx=>?_)) cv4 (fun _=>rfl) (fun _ h=>h) (fun _ _ _ _ h f=>fC h f fE fE)
 ·obtain ⟨i,sm,g,l⟩:=x
  simp only[U4,Wu] at hx
  refine sxT (fun Q=>(bif decide (i < ↑(List.map Face.enc l.faces).length) then ((Zxy i l)∧(([vB (Zr ((XN i l).headD PV.nil)),vI (intOf ((XN i l).tail.headD PV.nil)),vI (intOf ((XN i l).tail.tail.headD PV.nil)),vI (intOf ((XN i l).tail.tail.tail.headD PV.nil)),vI (intOf ((XN i l).tail.tail.tail.tail.headD PV.nil)),vI (intOf ((XN i l).tail.tail.tail.tail.tail.headD PV.nil)),vI (intOf ((XN i l).tail.tail.tail.tail.tail.tail.headD PV.nil)),vI (intOf ((XN i l).tail.tail.tail.tail.tail.tail.tail.headD PV.nil)),vI (intOf ((XN i l).tail.tail.tail.tail.tail.tail.tail.tail.headD PV.nil)),vI (intOf ((XN i l).tail.tail.tail.tail.tail.tail.tail.tail.tail.headD PV.nil)),vI (intOf ((XN i l).tail.tail.tail.tail.tail.tail.tail.tail.tail.tail.headD PV.nil)),vI (intOf ((XN i l).tail.tail.tail.tail.tail.tail.tail.tail.tail.tail.tail.headD PV.nil)),vI (intOf ((XN i l).tail.tail.tail.tail.tail.tail.tail.tail.tail.tail.tail.tail.headD PV.nil)),PV.str (Zbq ((XN i l).tail.tail.tail.tail.tail.tail.tail.tail.tail.tail.tail.tail.tail.headD PV.nil))]=(Face.dec (XN i l)).enc)∧((List.map Glass.enc g=List.map Glass.enc (Zd Glass.dec (List.map Glass.enc g)))∧(((Zd Glass.dec (List.map Glass.enc g)).length≤(140737488355328:Nat))∧(bif !WW (Face.dec (XN i l)) (Zd Glass.dec (List.map Glass.enc g)) then Q (Ex.ret) (some ⟨55,[(4,AV.p (vB false))],[],[],[],[]⟩) else (bif sm then Q (Ex.normal) (some ⟨55,[(6,AV.p (vI (IntKind.i64.wrap (i+(1:Int))))),(2,AV.ptr 2 0),(5,AV.p (vB true)),(1,AV.p (PV.lst (List.map Glass.enc g)))],[(2,(Zy l))],[],[],[]⟩) else ((Zxy i l)∧Q (Ex.normal) (some ⟨55,[(6,AV.p (vI (IntKind.i64.wrap (i+(1:Int))))),(2,AV.ptr 2 0),(5,AV.p (vB (!Zr ((XN i l).headD PV.nil)))),(1,AV.p (PV.lst (List.map Glass.enc g)))],[(2,(Zy l))],[],[],[]⟩)))))))) else Q (Ex.exit (0:Nat)) (some ⟨55,[(5,AV.p (vB sm))],[],[],[],[]⟩))) (fun _=>by kernel_rfl) ?_
  delta XN Zxy Zy vI vB
  refine Zb (fun h0=>⟨?r4,⟨?r3,⟨?r2,⟨?r1,Zb (fun h1=> .inr ⟨by simp,_,rfl, ?_⟩) (fun h1=>Zb (fun h2=> .inl ⟨rfl,(IntKind.i64.wrap (i+(1:Int)),true,g,l),rfl, ?_, ?_, ?_⟩) (fun h2=>⟨?r0,.inl ⟨rfl,(IntKind.i64.wrap (i+(1:Int)),!Zr (((List.map Face.enc l.faces).getD i.toNat []).headD PV.nil),g,l),rfl, ?_, ?_, ?_⟩⟩))⟩⟩⟩⟩) (fun h0=> .inr ⟨by simp,_,rfl, ?_⟩)
  case r0|r1|r2|r3|r4=>first | rfl | (rw[Yv];done) | (simp only[Yv];omega) | (simp only[Face.enc];rfl) | (obtain ⟨a1,a2,a3,a4⟩:=hx;simp only[Qk_,Qc_] at h0;(exact ZH (fun _=>rfl) (by omega) (by omega)))
  all_goals try dsimp only[U4]
  all_goals (obtain ⟨a1,a2,a3,a4⟩:=hx;try simp only[Qk_,Qc_,Qe_] at h0)
  all_goals first | (have hk:i < l.faces.length:=h0;obtain ⟨x,t,e1,e2,e3⟩:=Yu (l:=l.faces) a1 (by omega);simp only[Yz e3,Yv,show Face.dec (Face.enc x)=x from rfl,Qi_,Qf_] at *;have en:(l.faces.drop i.toNat).all (WW · g)=(WW x g&&t.all (WW · g)):=(by rw[e1];rfl);have es:X4 (l.faces.drop i.toNat)=(!x.stop||X4 t):=(by rw[e1];rfl)) | skip
  all_goals try rw[Zf (show Fit (i+1) by constructor<;>omega)]
  all_goals try simp only[U4,Wu,Wv,Zdk,Zdj]
  all_goals (try change x.stop=_ at h3)
  all_goals first | (exact .inl ⟨by rw[en,h1];rfl,by trivial,by trivial⟩) | (exact ⟨by omega,by omega,a3,a4⟩) | omega | (rw[en,es,e2,h1,h2,h3];exact fun e s h=>h) | (rw[en,es,e2,h1,h2];exact fun e s h=>h) | (exact .inr ⟨by rw[Q0_ (by omega)];rfl,by trivial,by rw[Q0_ (by omega),show X4 []=false from rfl,Q3_]⟩)
theorem Zpq:ZF Tryz.prog [(6,Zhw)] Tryz.f80:=ZN (l:=[Zt Tryz.f80 0]) (by kernel_rfl) (ZE (i:=6) (by kernel_rfl) rfl ZnV (Zu))
def Zqd(l:LensM):=LensM.mk l.name l.back (Zd Face.dec (List.map Face.enc l.faces))
theorem Z6h:Zi Tryz.prog 80 e80:=Zj<|Zg fun l=>Zg fun g=>EZ1 fun hp0=>by
 refine cfL ZiK Zpq rfl ?_
 refine sxT (fun Q=>(bif !Zar l.name then Q (vB false) else (bif !printable l.back then Q (vB false) else (bif !decide (l.back.c > (0:Int)) then Q (vB false) else (bif decide (↑(List.map Face.enc l.faces).length > (12:Int)) then Q (vB false) else ((List.map Glass.enc g=List.map Glass.enc (Zd Glass.dec (List.map Glass.enc g)))∧(((Zy l)=(Zqd l).enc)∧((Wu (0:Int) false (Zd Glass.dec (List.map Glass.enc g)) (Zqd l))∧(bif Wv (0:Int) false (Zd Glass.dec (List.map Glass.enc g)) (Zqd l) then Q (vB false) else Q (vB (false||X4 (List.drop (0:Nat) (Zd Face.dec (List.map Face.enc l.faces)))))))))))))) (fun _=>by kernel_rfl) ?_
 delta Qn Zqd Zy vI vB
 refine Zb (fun h0=>?_) (fun h0=>Zb (fun h1=>?_) (fun h1=>Zb (fun h2=>?_) (fun h2=>Zb (fun h3=>?_) (fun h3=>⟨?r1,⟨?r0,⟨?_,Zb (fun h4=>?_) (fun h4=>?_)⟩⟩⟩))))
 case r0|r1=>first | rfl | (rw[Yv];done) | (simp only[Yv];omega) | (simp only[Face.enc];rfl) | (obtain ⟨a1,a2,a3,a4⟩:=hx;simp only[Qk_,Qc_] at h0;skip) | (simp only[LensM.enc,Wi];done)
 all_goals (try simp only[Yv,Wi,Qi_,Qf_,Qk_,QO_,QG_,Wv,Qw_,show (⟨l.name,l.back,l.faces⟩:LensM)=l from rfl] at *)
 all_goals first | (simp only[Wu,Qe_] at *;omega) | (have e:decide (l.faces.length≤12)=false:=(by simp only[Qc_] at h3;exact QQ_ (by omega));simp only[Wz, *,Qp_,Ql_,Qr_,Qn_,Qu_,Qt_,Q4_,Qw_,Q5_,Q3_,Qb_,Qd_];rfl) | (have e:decide (l.faces.length≤12)=true:=(by simp only[Qe_] at h3;exact QH_ (by omega));simp only[Wz, *,Qp_,Ql_,Qr_,Qn_,Qu_,Qt_,Q4_,Qw_,Q5_,Q3_,Qb_,Qd_];rfl) | (simp only[Wz, *,Qp_,Ql_,Qr_,Qn_,Qu_,Qt_,Q4_,Qw_,Q5_,Q3_,Qb_,Qd_];rfl)
def Zxz:=YC [(72,e72)]
def Zfl:Option St:=some ⟨60,[(2,AV.p (vB false))],[],[],[],[]⟩
def ZjJ(s:SysM):=List.map Surf.enc s.surfs
def Zd2(i:Int)(s:SysM):=(ZjJ s).getD i.toNat []
theorem Zkn:CSOk Tryz.prog Zxz:=Za Zfh<|Ze
theorem Zpr:Yt Tryz.prog (Zt Tryz.f88 0) Zi1:=by
 refine lsG Zl.Γ (Z6 Zl Zkn ZA Z7 ZJ (LS:=[]) (ZV (l:=[]) (by kernel_rfl) Zu) (n:=2000) (U2 ZrG) (U2 WM) (fun x e s=>((U2 WN x=true∧e= .ret∧s=U2 Zes x)∨(U2 WN x=false∧e= .exit 0∧s=U2 Zer x))) (fun x=>(x.2.surfs.length - x.1).toNat) Zi0 Zpe Zpf (fun x hx=>?_)) cv2 (fun _=>rfl) (fun _ h=>h) (fun _ _ _ _ h f=>fC h f fE fE)
 ·obtain ⟨i,s⟩:=x
  simp only[U2,WM] at hx
  refine sxT (fun Q=>(bif decide (i < ↑(ZjJ s).length) then (((0:Int)≤i∧(ZjJ s)[i.toNat]?=some (ZW [vB false,vB false,vI 0,vI 0,vB false,vI 0,vI 0,vB false,vI 0,vI 0,vB false,vI 0,vI 0,vB false,vI 0,vI 0,vB false,vI 0,vI 0,vB false,vI 0,vI 0,vB false] (Zd2 i s)))∧(bif !right (Iv.dec (Zd2 i s).tail.tail) then Q (Ex.ret) Zfl else (bif !right (Iv.dec (Zd2 i s).tail.tail.tail.tail.tail) then Q (Ex.ret) Zfl else (bif !right (Iv.dec (Zd2 i s).tail.tail.tail.tail.tail.tail.tail.tail) then Q (Ex.ret) Zfl else (bif !right (Iv.dec (Zd2 i s).tail.tail.tail.tail.tail.tail.tail.tail.tail.tail.tail) then Q (Ex.ret) Zfl else (bif !right (Iv.dec (Zd2 i s).tail.tail.tail.tail.tail.tail.tail.tail.tail.tail.tail.tail.tail.tail) then Q (Ex.ret) Zfl else (bif !right (Iv.dec (Zd2 i s).tail.tail.tail.tail.tail.tail.tail.tail.tail.tail.tail.tail.tail.tail.tail.tail.tail) then Q (Ex.ret) Zfl else (bif !right (Iv.dec (Zd2 i s).tail.tail.tail.tail.tail.tail.tail.tail.tail.tail.tail.tail.tail.tail.tail.tail.tail.tail.tail.tail) then Q (Ex.ret) Zfl else Q (Ex.normal) (some ⟨60,[(3,AV.p (vI (IntKind.i64.wrap (i+(1:Int))))),(1,AV.ptr 1 0)],[(1,[PV.lst (ZjJ s),vI s.op.lo,vI s.op.hi,vB s.op.no])],[],[],[]⟩))))))))) else Q (Ex.exit (0:Nat)) (some ⟨60,[(1,AV.ptr 1 0)],[(1,[PV.lst (ZjJ s),vI s.op.lo,vI s.op.hi,vB s.op.no])],[],[],[]⟩))) (fun _=>by kernel_rfl) ?_
  delta Zfl Zd2 ZjJ vI vB
  refine Zb (fun h0=>⟨?r0,Zb (fun h1=> .inr ⟨by simp,_,rfl, ?_⟩) (fun h1=>Zb (fun h2=> .inr ⟨by simp,_,rfl, ?_⟩) (fun h2=>Zb (fun h3=> .inr ⟨by simp,_,rfl, ?_⟩) (fun h3=>Zb (fun h4=> .inr ⟨by simp,_,rfl, ?_⟩) (fun h4=>Zb (fun h5=> .inr ⟨by simp,_,rfl, ?_⟩) (fun h5=>Zb (fun h6=> .inr ⟨by simp,_,rfl, ?_⟩) (fun h6=>Zb (fun h7=> .inr ⟨by simp,_,rfl, ?_⟩) (fun h7=> .inl ⟨rfl,(IntKind.i64.wrap (i+(1:Int)),s),rfl, ?_, ?_, ?_⟩)))))))⟩) (fun h0=> .inr ⟨by simp,_,rfl, ?_⟩)
  case r0=>first | rfl | (rw[Z3];done) | (simp only[SysM.enc,Z3];done) | (obtain ⟨a1,a2,a3⟩:=hx;simp only[Qk_,Qc_] at h0;exact ZH (fun _=>rfl) (by omega) (by omega))
  all_goals try dsimp only[U2]
  all_goals (obtain ⟨a1,a2,a3⟩:=hx;try simp only[Qk_,Qc_,Qe_] at h0)
  all_goals first | (have hk:i < s.surfs.length:=h0;obtain ⟨x,t,e1,e2,e3⟩:=Yu (l:=s.surfs) a1 (by omega);simp only[Yz e3] at *;have en:(s.surfs.drop i.toNat).all W0=(W0 x&&t.all W0):=(by rw[e1];rfl)) | skip
  all_goals try rw[Zf (show Fit (i+1) by constructor<;>omega)]
  all_goals try simp only[U2,WM,WN,Zes,Zer]
  all_goals (try simp only[Qi_,Qf_] at *)
  all_goals (try change right x.curve=_ at h1)
  all_goals (try change right x.conic=_ at h2)
  all_goals (try change right x.a4=_ at h3)
  all_goals (try change right x.a6=_ at h4)
  all_goals (try change right x.pos=_ at h5)
  all_goals (try change right x.open2=_ at h6)
  all_goals (try change right x.ratio=_ at h7)
  all_goals first | (have hr:W0 x=false:=(by simp only[W0, *,Qp_,Ql_,Qr_,Qn_,Qu_,Qt_,Q4_,Qw_,Q5_,Q3_,Qb_,Qd_]);exact .inl ⟨by rw[en,hr];rfl,by trivial,by trivial⟩) | (exact ⟨by omega,by omega,a3⟩) | omega | (have hr:W0 x=true:=(by simp only[W0, *,Qp_,Ql_,Qr_,Qn_,Qu_,Qt_,Q4_,Qw_,Q5_,Q3_,Qb_,Qd_]);rw[en,e2,hr];exact fun e s h=>h) | (exact .inr ⟨by rw[Q0_ (by omega)];rfl,by trivial,by trivial⟩)
theorem Zsz:ZF Tryz.prog [(3,Zi1)] Tryz.f88:=ZN (l:=[Zt Tryz.f88 0]) (by kernel_rfl) (ZE (i:=3) (by kernel_rfl) rfl Zpr (Zu))
def Zqe(s:SysM):=SysM.mk (Zd Surf.dec (List.map Surf.enc s.surfs)) s.op
theorem Z6i:Zi Tryz.prog 88 e88:=Zj<|Zg fun s=>EZ1 fun hp0=>by
 refine cfL Zkn Zsz rfl ?_
 refine sxT (fun Q=>(([PV.lst (List.map Surf.enc s.surfs),vI s.op.lo,vI s.op.hi,vB s.op.no]=(Zqe s).enc)∧((WM (0:Int) (Zqe s))∧(bif WN (0:Int) (Zqe s) then Q (vB false) else Q (vB (right s.op)))))) (fun _=>by kernel_rfl) ?_
 delta Qn Zqe vI vB
 refine ⟨?r0,⟨?_,Zb (fun h0=>?_) (fun h0=>?_)⟩⟩
 case r0=>first | rfl | (rw[Z3];done) | (simp only[SysM.enc,Z3];done)
 all_goals simp only[WN,WM,Z3,QO_,QG_,Qi_,Qf_] at *
 ·exact ⟨by omega,by omega,hp0⟩
 ·simp only[JA,h0,Ql_];rfl
 ·simp only[JA,h0,Qp_];rfl
def Z1V:=YC [(80,e80),(46,e46),(81,e81),(82,e82),(83,e83),(84,e84),(85,e85),(86,e86),(87,e87),(88,e88)]
def fA(i:Int)(l:LensM):=(List.map Face.enc l.faces).getD i.toNat []
def Z1W(i:Int)(l:LensM):=Dec.mk (intOf ((fA i l).tail.headD PV.nil)) (intOf ((fA i l).tail.tail.headD PV.nil))
def dAp(i:Int)(l:LensM):=Dec.mk (intOf ((fA i l).tail.tail.tail.headD PV.nil)) (intOf ((fA i l).tail.tail.tail.tail.headD PV.nil))
def dTh(i:Int)(l:LensM):=Dec.mk (intOf ((fA i l).tail.tail.tail.tail.tail.headD PV.nil)) (intOf ((fA i l).tail.tail.tail.tail.tail.tail.headD PV.nil))
def dCo(i:Int)(l:LensM):=Dec.mk (intOf ((fA i l).tail.tail.tail.tail.tail.tail.tail.headD PV.nil)) (intOf ((fA i l).tail.tail.tail.tail.tail.tail.tail.tail.headD PV.nil))
def dA4(i:Int)(l:LensM):=Dec.mk (intOf ((fA i l).tail.tail.tail.tail.tail.tail.tail.tail.tail.headD PV.nil)) (intOf ((fA i l).tail.tail.tail.tail.tail.tail.tail.tail.tail.tail.headD PV.nil))
def dA6(i:Int)(l:LensM):=Dec.mk (intOf ((fA i l).tail.tail.tail.tail.tail.tail.tail.tail.tail.tail.tail.headD PV.nil)) (intOf ((fA i l).tail.tail.tail.tail.tail.tail.tail.tail.tail.tail.tail.tail.headD PV.nil))
def gN(i:Int)(l:LensM):=Zbq ((fA i l).tail.tail.tail.tail.tail.tail.tail.tail.tail.tail.tail.tail.tail.headD PV.nil)
set_option maxHeartbeats 4000000 in
def Zad(i:Int)(g:List Glass):=[(12,AV.p (vI (IntKind.i64.wrap (i+(1:Int))))),(9,AV.ptr 9 0),(10,AV.ptr 10 0),(11,AV.ptr 11 0),(5,AV.ptr 5 0),(1,AV.p (PV.lst (List.map Glass.enc g))),(8,AV.ptr 8 0),(3,AV.ptr 3 0),(6,AV.ptr 6 0)]
def ZmD(g:List Glass):=Zd Glass.dec (List.map Glass.enc g)
def Zfm(i:Int)(g:List Glass)(l:LensM):=YH (ZmD g) (gN i l)
def Zae:=[(Loc.b (nat_lit 9) (nat_lit 0),nat_lit 151),(Loc.b (nat_lit 6) (nat_lit 0),nat_lit 151)]
def Z8(i:Int)(l:LensM):=sqr (Zh (dAp i l))
def Z9(i:Int)(one:Iv)(l:LensM):=add one (Zh (dCo i l))
def J0(z:SysM):=[PV.lst (List.map Surf.enc z.surfs),vI z.op.lo,vI z.op.hi,vB z.op.no]
def Xt(i:Int)(l:LensM):=Zr ((fA i l).headD PV.nil)
def Yo(i:Int)(one:Iv)(l:LensM):=Zo one (Zh (Z1W i l))
def Xu(i:Int)(g:List Glass)(ix:Iv)(w:Iv)(l:LensM):=Zo ix (Zby (Zfm i g l).fst w)
def Zx0(i:Int)(g:List Glass)(s:SysM)(pos:Iv)(ix:Iv)(w:Iv)(one:Iv)(l:LensM):=List.map Surf.enc s.surfs++[[vB (Xt i l),vB true,vI (Yo i one l).lo,vI (Yo i one l).hi,vB (Yo i one l).no,vI (Z9 i one l).lo,vI (Z9 i one l).hi,vB (Z9 i one l).no,vI (Zh (dA4 i l)).lo,vI (Zh (dA4 i l)).hi,vB (Zh (dA4 i l)).no,vI (Zh (dA6 i l)).lo,vI (Zh (dA6 i l)).hi,vB (Zh (dA6 i l)).no,vI pos.lo,vI pos.hi,vB pos.no,vI (Z8 i l).lo,vI (Z8 i l).hi,vB (Z8 i l).no,vI (Xu i g ix w l).lo,vI (Xu i g ix w l).hi,vB (Xu i g ix w l).no]]
def Zx1(i:Int)(s:SysM)(pos:Iv)(ix:Iv)(one:Iv)(l:LensM):=List.map Surf.enc s.surfs++[[vB (Xt i l),vB true,vI (Yo i one l).lo,vI (Yo i one l).hi,vB (Yo i one l).no,vI (Z9 i one l).lo,vI (Z9 i one l).hi,vB (Z9 i one l).no,vI (Zh (dA4 i l)).lo,vI (Zh (dA4 i l)).hi,vB (Zh (dA4 i l)).no,vI (Zh (dA6 i l)).lo,vI (Zh (dA6 i l)).hi,vB (Zh (dA6 i l)).no,vI pos.lo,vI pos.hi,vB pos.no,vI (Z8 i l).lo,vI (Z8 i l).hi,vB (Z8 i l).no,vI (Zo ix one).lo,vI (Zo ix one).hi,vB (Zo ix one).no]]
def Zx2(i:Int)(s:SysM)(pos:Iv)(one:Iv)(l:LensM):=List.map Surf.enc s.surfs++[[vB (Xt i l),vB true,vI (Yo i one l).lo,vI (Yo i one l).hi,vB (Yo i one l).no,vI (Z9 i one l).lo,vI (Z9 i one l).hi,vB (Z9 i one l).no,vI (Zh (dA4 i l)).lo,vI (Zh (dA4 i l)).hi,vB (Zh (dA4 i l)).no,vI (Zh (dA6 i l)).lo,vI (Zh (dA6 i l)).hi,vB (Zh (dA6 i l)).no,vI pos.lo,vI pos.hi,vB pos.no,vI (Z8 i l).lo,vI (Z8 i l).hi,vB (Z8 i l).no,vI one.lo,vI one.hi,vB one.no]]
def WR(s:SysM):=(List.map Surf.enc s.surfs).length+(1:Nat)
def Zs0(i:Int)(g:List Glass)(s:SysM)(pos:Iv)(ix:Iv)(w:Iv)(one:Iv)(l:LensM):=List.map Surf.enc s.surfs++[[vB (Xt i l),vB true,vI 0,vI 0,vB false,vI (Z9 i one l).lo,vI (Z9 i one l).hi,vB (Z9 i one l).no,vI (Zh (dA4 i l)).lo,vI (Zh (dA4 i l)).hi,vB (Zh (dA4 i l)).no,vI (Zh (dA6 i l)).lo,vI (Zh (dA6 i l)).hi,vB (Zh (dA6 i l)).no,vI pos.lo,vI pos.hi,vB pos.no,vI (Z8 i l).lo,vI (Z8 i l).hi,vB (Z8 i l).no,vI (Xu i g ix w l).lo,vI (Xu i g ix w l).hi,vB (Xu i g ix w l).no]]
def Zs1(i:Int)(s:SysM)(pos:Iv)(ix:Iv)(one:Iv)(l:LensM):=List.map Surf.enc s.surfs++[[vB (Xt i l),vB true,vI 0,vI 0,vB false,vI (Z9 i one l).lo,vI (Z9 i one l).hi,vB (Z9 i one l).no,vI (Zh (dA4 i l)).lo,vI (Zh (dA4 i l)).hi,vB (Zh (dA4 i l)).no,vI (Zh (dA6 i l)).lo,vI (Zh (dA6 i l)).hi,vB (Zh (dA6 i l)).no,vI pos.lo,vI pos.hi,vB pos.no,vI (Z8 i l).lo,vI (Z8 i l).hi,vB (Z8 i l).no,vI (Zo ix one).lo,vI (Zo ix one).hi,vB (Zo ix one).no]]
def Zs2(i:Int)(s:SysM)(pos:Iv)(one:Iv)(l:LensM):=List.map Surf.enc s.surfs++[[vB (Xt i l),vB true,vI 0,vI 0,vB false,vI (Z9 i one l).lo,vI (Z9 i one l).hi,vB (Z9 i one l).no,vI (Zh (dA4 i l)).lo,vI (Zh (dA4 i l)).hi,vB (Zh (dA4 i l)).no,vI (Zh (dA6 i l)).lo,vI (Zh (dA6 i l)).hi,vB (Zh (dA6 i l)).no,vI pos.lo,vI pos.hi,vB pos.no,vI (Z8 i l).lo,vI (Z8 i l).hi,vB (Z8 i l).no,vI one.lo,vI one.hi,vB one.no]]
def WS(i:Int)(pos:Iv)(l:LensM):=eIv (add pos (Zh (dTh i l)))
def ZiL(g:List Glass):=List.map Glass.enc g=List.map Glass.enc (ZmD g)
def ZiM:=[(97:UInt8),(105:UInt8),(114:UInt8)]
def ZiN(g:List Glass):=(ZmD g).length≤(140737488355328:Nat)
def ZiO(i:Int)(g:List Glass)(l:LensM):=(Zej (Zfm i g l).fst)=(Zfm i g l).fst.enc
theorem ZoN:CSOk Tryz.prog Z1V:=Za Z6h<|Za ZpE<|Za Zxa<|Za Z2N<|Za Z2F<|Za Z2H<|Za Z2G<|Za Z2O<|Za Z6e<|Za Z6i<|Ze
set_option maxHeartbeats 4000000 in
theorem Zue:Yt Tryz.prog (Zt Tryz.f53 0) Zmn:=by
 refine lsG Zl.Γ (Z6 Zl ZoN ZA Z7 ZJ (LS:=[]) (ZV (l:=[]) (by kernel_rfl) Zu) (n:=2000) (U9 Zml) (U9 Zb4) (fun x e s=>(e= .exit 0∧s=U9 Zdw x)) (fun x=>(x.2.2.2.2.2.2.2.1.faces.length - x.1).toNat) Zmm ZtV ZtW (fun x hx=>?_)) cv9 (fun _=>rfl) (fun _ h=>h) (fun _ _ _ _ h f=>fE h f)
 ·obtain ⟨i,g,s,pos,ix,w,one,l,z⟩:=x
  simp only[U9,Zb4] at hx
  refine sxT (fun Q=>(bif decide (i < ↑(List.map Face.enc l.faces).length) then (((0:Int)≤i∧(List.map Face.enc l.faces)[i.toNat]?=some (ZW [vB false,vI 0,vI 0,vI 0,vI 0,vI 0,vI 0,vI 0,vI 0,vI 0,vI 0,vI 0,vI 0,PV.str []] (fA i l)))∧(bif !YF (dA4 i l) then (bif intOf ((fA i l).tail.headD PV.nil)!=(0:Int) then (bif !Zr ((fA i l).headD PV.nil) then (bif !(gN i l)==ZiM then ((ZiL g)∧((ZiN g)∧((ZiO i g l)∧(((0:Nat) < (1:Nat)∧(WR s)* (176:Nat)≤(140737488355328:Nat)∧Lens (23:Nat) (Zx0 i g s pos ix w one l))∧Q (Ex.normal) (some ⟨126,(Zad i g),[(9,[PV.lst (Zx0 i g s pos ix w one l),vI s.op.lo,vI s.op.hi,vB s.op.no]),(10,(WS i pos l)),(11,(eIv (Zby (Zfm i g l).fst w))),(5,(eIv w)),(8,(eIv one)),(3,(Zy l)),(6,(J0 z))],[],Zae,[]⟩))))) else (((0:Nat) < (1:Nat)∧(WR s)* (176:Nat)≤(140737488355328:Nat)∧Lens (23:Nat) (Zx1 i s pos ix one l))∧Q (Ex.normal) (some ⟨126,(Zad i g),[(9,[PV.lst (Zx1 i s pos ix one l),vI s.op.lo,vI s.op.hi,vB s.op.no]),(10,(WS i pos l)),(11,(eIv one)),(5,(eIv w)),(8,(eIv one)),(3,(Zy l)),(6,(J0 z))],[],Zae,[]⟩))) else (((0:Nat) < (1:Nat)∧(WR s)* (176:Nat)≤(140737488355328:Nat)∧Lens (23:Nat) (Zx2 i s pos one l))∧Q (Ex.normal) (some ⟨126,(Zad i g),[(9,[PV.lst (Zx2 i s pos one l),vI s.op.lo,vI s.op.hi,vB s.op.no]),(10,(WS i pos l)),(11,(eIv ix)),(5,(eIv w)),(8,(eIv one)),(3,(Zy l)),(6,(J0 z))],[],Zae,[]⟩))) else (bif !Zr ((fA i l).headD PV.nil) then (bif !(gN i l)==ZiM then ((ZiL g)∧((ZiN g)∧((ZiO i g l)∧(((0:Nat) < (1:Nat)∧(WR s)* (176:Nat)≤(140737488355328:Nat)∧Lens (23:Nat) (Zs0 i g s pos ix w one l))∧Q (Ex.normal) (some ⟨126,(Zad i g),[(9,[PV.lst (Zs0 i g s pos ix w one l),vI s.op.lo,vI s.op.hi,vB s.op.no]),(10,(WS i pos l)),(11,(eIv (Zby (Zfm i g l).fst w))),(5,(eIv w)),(8,(eIv one)),(3,(Zy l)),(6,(J0 z))],[],Zae,[]⟩))))) else (((0:Nat) < (1:Nat)∧(WR s)* (176:Nat)≤(140737488355328:Nat)∧Lens (23:Nat) (Zs1 i s pos ix one l))∧Q (Ex.normal) (some ⟨126,(Zad i g),[(9,[PV.lst (Zs1 i s pos ix one l),vI s.op.lo,vI s.op.hi,vB s.op.no]),(10,(WS i pos l)),(11,(eIv one)),(5,(eIv w)),(8,(eIv one)),(3,(Zy l)),(6,(J0 z))],[],Zae,[]⟩))) else (((0:Nat) < (1:Nat)∧(WR s)* (176:Nat)≤(140737488355328:Nat)∧Lens (23:Nat) (Zs2 i s pos one l))∧Q (Ex.normal) (some ⟨126,(Zad i g),[(9,[PV.lst (Zs2 i s pos one l),vI s.op.lo,vI s.op.hi,vB s.op.no]),(10,(WS i pos l)),(11,(eIv ix)),(5,(eIv w)),(8,(eIv one)),(3,(Zy l)),(6,(J0 z))],[],Zae,[]⟩)))) else (bif intOf ((fA i l).tail.headD PV.nil)!=(0:Int) then (bif !Zr ((fA i l).headD PV.nil) then (bif !(gN i l)==ZiM then ((ZiL g)∧((ZiN g)∧((ZiO i g l)∧(((0:Nat) < (1:Nat)∧(WR s)* (176:Nat)≤(140737488355328:Nat)∧Lens (23:Nat) (List.map Surf.enc s.surfs++[[vB (Xt i l),vB !YF (dA6 i l),vI (Yo i one l).lo,vI (Yo i one l).hi,vB (Yo i one l).no,vI (Z9 i one l).lo,vI (Z9 i one l).hi,vB (Z9 i one l).no,vI (Zh (dA4 i l)).lo,vI (Zh (dA4 i l)).hi,vB (Zh (dA4 i l)).no,vI (Zh (dA6 i l)).lo,vI (Zh (dA6 i l)).hi,vB (Zh (dA6 i l)).no,vI pos.lo,vI pos.hi,vB pos.no,vI (Z8 i l).lo,vI (Z8 i l).hi,vB (Z8 i l).no,vI (Xu i g ix w l).lo,vI (Xu i g ix w l).hi,vB (Xu i g ix w l).no]]))∧Q (Ex.normal) (some ⟨126,(Zad i g),[(9,[PV.lst (List.map Surf.enc s.surfs++[[vB (Xt i l),vB (!YF (dA6 i l)),vI (Yo i one l).lo,vI (Yo i one l).hi,vB (Yo i one l).no,vI (Z9 i one l).lo,vI (Z9 i one l).hi,vB (Z9 i one l).no,vI (Zh (dA4 i l)).lo,vI (Zh (dA4 i l)).hi,vB (Zh (dA4 i l)).no,vI (Zh (dA6 i l)).lo,vI (Zh (dA6 i l)).hi,vB (Zh (dA6 i l)).no,vI pos.lo,vI pos.hi,vB pos.no,vI (Z8 i l).lo,vI (Z8 i l).hi,vB (Z8 i l).no,vI (Xu i g ix w l).lo,vI (Xu i g ix w l).hi,vB (Xu i g ix w l).no]]),vI s.op.lo,vI s.op.hi,vB s.op.no]),(10,(WS i pos l)),(11,(eIv (Zby (Zfm i g l).fst w))),(5,(eIv w)),(8,(eIv one)),(3,(Zy l)),(6,(J0 z))],[],Zae,[]⟩))))) else (((0:Nat) < (1:Nat)∧(WR s)* (176:Nat)≤(140737488355328:Nat)∧Lens (23:Nat) (List.map Surf.enc s.surfs++[[vB (Xt i l),vB !YF (dA6 i l),vI (Yo i one l).lo,vI (Yo i one l).hi,vB (Yo i one l).no,vI (Z9 i one l).lo,vI (Z9 i one l).hi,vB (Z9 i one l).no,vI (Zh (dA4 i l)).lo,vI (Zh (dA4 i l)).hi,vB (Zh (dA4 i l)).no,vI (Zh (dA6 i l)).lo,vI (Zh (dA6 i l)).hi,vB (Zh (dA6 i l)).no,vI pos.lo,vI pos.hi,vB pos.no,vI (Z8 i l).lo,vI (Z8 i l).hi,vB (Z8 i l).no,vI (Zo ix one).lo,vI (Zo ix one).hi,vB (Zo ix one).no]]))∧Q (Ex.normal) (some ⟨126,(Zad i g),[(9,[PV.lst (List.map Surf.enc s.surfs++[[vB (Xt i l),vB (!YF (dA6 i l)),vI (Yo i one l).lo,vI (Yo i one l).hi,vB (Yo i one l).no,vI (Z9 i one l).lo,vI (Z9 i one l).hi,vB (Z9 i one l).no,vI (Zh (dA4 i l)).lo,vI (Zh (dA4 i l)).hi,vB (Zh (dA4 i l)).no,vI (Zh (dA6 i l)).lo,vI (Zh (dA6 i l)).hi,vB (Zh (dA6 i l)).no,vI pos.lo,vI pos.hi,vB pos.no,vI (Z8 i l).lo,vI (Z8 i l).hi,vB (Z8 i l).no,vI (Zo ix one).lo,vI (Zo ix one).hi,vB (Zo ix one).no]]),vI s.op.lo,vI s.op.hi,vB s.op.no]),(10,(WS i pos l)),(11,(eIv one)),(5,(eIv w)),(8,(eIv one)),(3,(Zy l)),(6,(J0 z))],[],Zae,[]⟩))) else (((0:Nat) < (1:Nat)∧(WR s)* (176:Nat)≤(140737488355328:Nat)∧Lens (23:Nat) (List.map Surf.enc s.surfs++[[vB (Xt i l),vB !YF (dA6 i l),vI (Yo i one l).lo,vI (Yo i one l).hi,vB (Yo i one l).no,vI (Z9 i one l).lo,vI (Z9 i one l).hi,vB (Z9 i one l).no,vI (Zh (dA4 i l)).lo,vI (Zh (dA4 i l)).hi,vB (Zh (dA4 i l)).no,vI (Zh (dA6 i l)).lo,vI (Zh (dA6 i l)).hi,vB (Zh (dA6 i l)).no,vI pos.lo,vI pos.hi,vB pos.no,vI (Z8 i l).lo,vI (Z8 i l).hi,vB (Z8 i l).no,vI one.lo,vI one.hi,vB one.no]]))∧Q (Ex.normal) (some ⟨126,(Zad i g),[(9,[PV.lst (List.map Surf.enc s.surfs++[[vB (Xt i l),vB (!YF (dA6 i l)),vI (Yo i one l).lo,vI (Yo i one l).hi,vB (Yo i one l).no,vI (Z9 i one l).lo,vI (Z9 i one l).hi,vB (Z9 i one l).no,vI (Zh (dA4 i l)).lo,vI (Zh (dA4 i l)).hi,vB (Zh (dA4 i l)).no,vI (Zh (dA6 i l)).lo,vI (Zh (dA6 i l)).hi,vB (Zh (dA6 i l)).no,vI pos.lo,vI pos.hi,vB pos.no,vI (Z8 i l).lo,vI (Z8 i l).hi,vB (Z8 i l).no,vI one.lo,vI one.hi,vB one.no]]),vI s.op.lo,vI s.op.hi,vB s.op.no]),(10,(WS i pos l)),(11,(eIv ix)),(5,(eIv w)),(8,(eIv one)),(3,(Zy l)),(6,(J0 z))],[],Zae,[]⟩))) else (bif !Zr ((fA i l).headD PV.nil) then (bif !(gN i l)==ZiM then ((ZiL g)∧((ZiN g)∧((ZiO i g l)∧(((0:Nat) < (1:Nat)∧(WR s)* (176:Nat)≤(140737488355328:Nat)∧Lens (23:Nat) (List.map Surf.enc s.surfs++[[vB (Xt i l),vB !YF (dA6 i l),vI 0,vI 0,vB false,vI (Z9 i one l).lo,vI (Z9 i one l).hi,vB (Z9 i one l).no,vI (Zh (dA4 i l)).lo,vI (Zh (dA4 i l)).hi,vB (Zh (dA4 i l)).no,vI (Zh (dA6 i l)).lo,vI (Zh (dA6 i l)).hi,vB (Zh (dA6 i l)).no,vI pos.lo,vI pos.hi,vB pos.no,vI (Z8 i l).lo,vI (Z8 i l).hi,vB (Z8 i l).no,vI (Xu i g ix w l).lo,vI (Xu i g ix w l).hi,vB (Xu i g ix w l).no]]))∧Q (Ex.normal) (some ⟨126,(Zad i g),[(9,[PV.lst (List.map Surf.enc s.surfs++[[vB (Xt i l),vB (!YF (dA6 i l)),vI 0,vI 0,vB false,vI (Z9 i one l).lo,vI (Z9 i one l).hi,vB (Z9 i one l).no,vI (Zh (dA4 i l)).lo,vI (Zh (dA4 i l)).hi,vB (Zh (dA4 i l)).no,vI (Zh (dA6 i l)).lo,vI (Zh (dA6 i l)).hi,vB (Zh (dA6 i l)).no,vI pos.lo,vI pos.hi,vB pos.no,vI (Z8 i l).lo,vI (Z8 i l).hi,vB (Z8 i l).no,vI (Xu i g ix w l).lo,vI (Xu i g ix w l).hi,vB (Xu i g ix w l).no]]),vI s.op.lo,vI s.op.hi,vB s.op.no]),(10,(WS i pos l)),(11,(eIv (Zby (Zfm i g l).fst w))),(5,(eIv w)),(8,(eIv one)),(3,(Zy l)),(6,(J0 z))],[],Zae,[]⟩))))) else (((0:Nat) < (1:Nat)∧(WR s)* (176:Nat)≤(140737488355328:Nat)∧Lens (23:Nat) (List.map Surf.enc s.surfs++[[vB (Xt i l),vB !YF (dA6 i l),vI 0,vI 0,vB false,vI (Z9 i one l).lo,vI (Z9 i one l).hi,vB (Z9 i one l).no,vI (Zh (dA4 i l)).lo,vI (Zh (dA4 i l)).hi,vB (Zh (dA4 i l)).no,vI (Zh (dA6 i l)).lo,vI (Zh (dA6 i l)).hi,vB (Zh (dA6 i l)).no,vI pos.lo,vI pos.hi,vB pos.no,vI (Z8 i l).lo,vI (Z8 i l).hi,vB (Z8 i l).no,vI (Zo ix one).lo,vI (Zo ix one).hi,vB (Zo ix one).no]]))∧Q (Ex.normal) (some ⟨126,(Zad i g),[(9,[PV.lst (List.map Surf.enc s.surfs++[[vB (Xt i l),vB (!YF (dA6 i l)),vI 0,vI 0,vB false,vI (Z9 i one l).lo,vI (Z9 i one l).hi,vB (Z9 i one l).no,vI (Zh (dA4 i l)).lo,vI (Zh (dA4 i l)).hi,vB (Zh (dA4 i l)).no,vI (Zh (dA6 i l)).lo,vI (Zh (dA6 i l)).hi,vB (Zh (dA6 i l)).no,vI pos.lo,vI pos.hi,vB pos.no,vI (Z8 i l).lo,vI (Z8 i l).hi,vB (Z8 i l).no,vI (Zo ix one).lo,vI (Zo ix one).hi,vB (Zo ix one).no]]),vI s.op.lo,vI s.op.hi,vB s.op.no]),(10,(WS i pos l)),(11,(eIv one)),(5,(eIv w)),(8,(eIv one)),(3,(Zy l)),(6,(J0 z))],[],Zae,[]⟩))) else (((0:Nat) < (1:Nat)∧(WR s)* (176:Nat)≤(140737488355328:Nat)∧Lens (23:Nat) (List.map Surf.enc s.surfs++[[vB (Xt i l),vB !YF (dA6 i l),vI 0,vI 0,vB false,vI (Z9 i one l).lo,vI (Z9 i one l).hi,vB (Z9 i one l).no,vI (Zh (dA4 i l)).lo,vI (Zh (dA4 i l)).hi,vB (Zh (dA4 i l)).no,vI (Zh (dA6 i l)).lo,vI (Zh (dA6 i l)).hi,vB (Zh (dA6 i l)).no,vI pos.lo,vI pos.hi,vB pos.no,vI (Z8 i l).lo,vI (Z8 i l).hi,vB (Z8 i l).no,vI one.lo,vI one.hi,vB one.no]]))∧Q (Ex.normal) (some ⟨126,(Zad i g),[(9,[PV.lst (List.map Surf.enc s.surfs++[[vB (Xt i l),vB (!YF (dA6 i l)),vI 0,vI 0,vB false,vI (Z9 i one l).lo,vI (Z9 i one l).hi,vB (Z9 i one l).no,vI (Zh (dA4 i l)).lo,vI (Zh (dA4 i l)).hi,vB (Zh (dA4 i l)).no,vI (Zh (dA6 i l)).lo,vI (Zh (dA6 i l)).hi,vB (Zh (dA6 i l)).no,vI pos.lo,vI pos.hi,vB pos.no,vI (Z8 i l).lo,vI (Z8 i l).hi,vB (Z8 i l).no,vI one.lo,vI one.hi,vB one.no]]),vI s.op.lo,vI s.op.hi,vB s.op.no]),(10,(WS i pos l)),(11,(eIv ix)),(5,(eIv w)),(8,(eIv one)),(3,(Zy l)),(6,(J0 z))],[],Zae,[]⟩)))))) else Q (Ex.exit (0:Nat)) (some ⟨126,[(6,AV.ptr 6 0),(9,AV.ptr 9 0)],[(6,(J0 z)),(9,[PV.lst (List.map Surf.enc s.surfs),vI s.op.lo,vI s.op.hi,vB s.op.no])],[],[],[]⟩))) (fun _=>by kernel_rfl) ?_
  delta Zad Zfm Zae Z8 Z9 J0 Zx0 Zx1 Zx2 WR Zs0 Xt Zs1 Yo Zs2 Xu ZmD WS ZiL ZiM ZiN ZiO eIv Zej Zy vI vB
  refine Zb (fun h0=>⟨?r24,Zb (fun h1=>Zb (fun h2=>Zb (fun h3=>Zb (fun h4=>⟨?r3,⟨?r2,⟨?r1,⟨?r0, ?_⟩⟩⟩⟩) (fun h4=>⟨?r4, ?_⟩)) (fun h3=>⟨?r5, ?_⟩)) (fun h2=>Zb (fun h3=>Zb (fun h4=>⟨?r9,⟨?r8,⟨?r7,⟨?r6, ?_⟩⟩⟩⟩) (fun h4=>⟨?r10, ?_⟩)) (fun h3=>⟨?r11, ?_⟩))) (fun h1=>Zb (fun h2=>Zb (fun h3=>Zb (fun h4=>⟨?r15,⟨?r14,⟨?r13,⟨?r12, ?_⟩⟩⟩⟩) (fun h4=>⟨?r16, ?_⟩)) (fun h3=>⟨?r17, ?_⟩)) (fun h2=>Zb (fun h3=>Zb (fun h4=>⟨?r21,⟨?r20,⟨?r19,⟨?r18, ?_⟩⟩⟩⟩) (fun h4=>⟨?r22, ?_⟩)) (fun h3=>⟨?r23, ?_⟩)))⟩) (fun h0=>?_)
  case r0|r1|r2|r3|r4|r5|r6|r7|r8|r9|r10|r11|r12|r13|r14|r15|r16|r17|r18|r19|r20|r21|r22|r23|r24=>first | rfl | (rw[Yv];done) | (simp only[SysM.enc,Z3];done) | (simp only[Qf_,Yv,Wi,Z3,QG_,show Zd Surf.dec []=[] from rfl,QJ_,Zcu,show (⟨l.name,l.back,l.faces⟩:LensM)=l from rfl] at *;have hl:=(JC h0).2;omega) | (try simp only[Yv,LensM.enc,Wi,Qk_] at *;first | done | rfl | omega | exact hp0 | (obtain ⟨⟨a1,a2,a3,a4,a5⟩,a6⟩:=hx;simp only[Qc_] at h0;first | omega | exact ZH (fun _=>rfl) (by omega) (by omega) | exact ⟨by decide,by omega,Wa (XZ (e:=Surf.enc) (fun _=>rfl) _) rfl⟩))
  all_goals (obtain ⟨⟨a1,a2,a3,a4,a5⟩,a6⟩:=hx;try simp only[Qk_,Qc_,Qe_] at h0)
  all_goals subst a6
  all_goals first | (have hk:i < l.faces.length:=h0;obtain ⟨x,t,e1,e2,e3⟩:=Yu (l:=l.faces) a1 (by omega);have eA:fA i l=Face.enc x:=Yz e3;have r1:Z1W i l=x.radius:=(by unfold Z1W;rw[eA];rfl);have r2:dAp i l=x.aperture:=(by unfold dAp;rw[eA];rfl);have r3:dTh i l=x.thick:=(by unfold dTh;rw[eA];rfl);have r4:dCo i l=x.conic:=(by unfold dCo;rw[eA];rfl);have r5:dA4 i l=x.a4:=(by unfold dA4;rw[eA];rfl);have r6:dA6 i l=x.a6:=(by unfold dA6;rw[eA];rfl);have r7:gN i l=x.glass:=(by unfold gN;rw[eA];rfl);(try simp only[r1,r2,r3,r4,r5,r6,r7,eA,Yv] at *)) | (exact .inr ⟨by simp,_,rfl,by trivial,by unfold U9 Zdw;(try dsimp only);rw[List.drop_eq_nil_of_le (by omega),show ∀p q,Wq g w [] p q=[] from fun _ _=>rfl,List.append_nil];rfl⟩)
  all_goals (have hw:IntKind.i64.wrap (i+1)=i+1:=Zf (by constructor<;>omega);have eb:Wq g w (l.faces.drop i.toNat) pos ix=Zma x pos (Zj8 x g w ix)::Wq g w (l.faces.drop (IntKind.i64.wrap (i+1)).toNat) (add pos (Zh x.thick)) (Zmb x g w ix):=(by rw[hw,e1,e2];rfl))
  all_goals
   refine .inl ⟨by trivial,(IntKind.i64.wrap (i+1),g,⟨s.surfs++[Zma x pos (Zj8 x g w ix)],s.op⟩,add pos (Zh x.thick),Zmb x g w ix,w,point 65536,l,z), ?_, ?_, ?_, ?_⟩
   ·simp only[Qi_,Qf_,bne] at *
    have q1:intOf (x.enc.tail.headD PV.nil)=x.radius.c:=rfl
    have q2:Zr (x.enc.headD PV.nil)=x.stop:=rfl
    simp only[q1,q2] at *
    simp only[U9,Zml,SysM.enc,LensM.enc,QR_,QE_,QN_,Surf.enc,Zma,Zj8,Zmb,ZkB,ZuP,Zie,bne, *,Qp_,Ql_,Qr_,Qn_,Qu_,Qt_,Q4_,Qw_,Q5_,Q3_,Qb_,Qd_]
    try rfl
   ·simp only[U9,Zb4,hw,Qx_,Qs_,Q1_];exact ⟨⟨by omega,by omega,a3,a4,by omega⟩,trivial⟩
   ·simp only[hw];omega
   ·intro e s' h;refine ⟨h.1,h.2.trans ?_⟩;unfold U9 Zdw;rw[eb];simp only[QB_,QS_,QJ_]
theorem Zx3:ZF Tryz.prog [(9,Zmn)] Tryz.f53:=ZN (l:=[Zt Tryz.f53 0]) (by kernel_rfl) (ZE (i:=9) (by kernel_rfl) rfl Zue (Zu))
def Ze5(l:LensM):=List.map Face.enc l.faces
def W6(l:LensM):=Zh (Dec.mk (intOf (((Ze5 l).getD (0:Nat) []).tail.tail.tail.headD PV.nil)) (intOf (((Ze5 l).getD (0:Nat) []).tail.tail.tail.tail.headD PV.nil)))
def Ze6(g:List Glass):=Zd Glass.dec (List.map Glass.enc g)
def ZfY(l:LensM)(g:List Glass)(w:Iv):=List.map Surf.enc (Zd Surf.dec []++Wq (Ze6 g) w (List.drop (0:Nat) (Zd Face.dec (Ze5 l))) (Zh l.back) (point (65536:Int)))
def ZiP(l:LensM):=LensM.mk l.name l.back (Zd Face.dec (Ze5 l))
def q23_28:=SysM.mk (Zd Surf.dec []) (Iv.mk (0:Int) (0:Int) false)
set_option maxHeartbeats 4000000 in
theorem Z6j:Zi Tryz.prog 53 e53:=Zj<|Zg fun l=>Zg fun g=>Zg fun w=>EZ1 fun hp0=>by
 refine cfL ZoN Zx3 rfl ?_
 refine sxT (fun Q=>(((Zy l)=(ZiP l).enc)∧((List.map Glass.enc g=List.map Glass.enc (Ze6 g))∧(((Ze6 g).length≤(140737488355328:Nat))∧(bif !Wz (ZiP l) (Ze6 g) then Q (PV.tup [PV.agg [.nil,vI 0,vI 0,vB false],vI 1]) else (((0:Int)≤(0:Int)∧(Ze5 l)[(0:Nat)]?=some (ZW [vB false,vI 0,vI 0,vI 0,vI 0,vI 0,vI 0,vI 0,vI 0,vI 0,vI 0,vI 0,vI 0,PV.str []] ((Ze5 l).getD (0:Nat) [])))∧((List.map Glass.enc g=List.map Glass.enc (Ze6 g))∧(([PV.lst [],vI (W6 l).lo,vI (W6 l).hi,vB (W6 l).no]=(SysM.mk (Zd Surf.dec []) (W6 l)).enc)∧(((Zy l)=(ZiP l).enc)∧(([PV.lst [],vI 0,vI 0,vB false]=q23_28.enc)∧((Zb4 (0:Int) (Ze6 g) (SysM.mk (Zd Surf.dec []) (W6 l)) (Zh l.back) (point (65536:Int)) w (point (65536:Int)) (ZiP l) q23_28)∧(([PV.lst (ZfY l g w),vI (W6 l).lo,vI (W6 l).hi,vB (W6 l).no]=(SysM.mk (Zd Surf.dec (ZfY l g w)) (W6 l)).enc)∧(((Zd Surf.dec (ZfY l g w)).length≤(140737488355328:Nat))∧(bif !JA (SysM.mk (Zd Surf.dec (ZfY l g w)) (W6 l)) then Q (PV.tup [PV.agg [.nil,vI 0,vI 0,vB false],vI 6]) else Q (PV.tup [PV.agg [PV.lst (ZfY l g w),vI (W6 l).lo,vI (W6 l).hi,vB (W6 l).no],vI 0]))))))))))))))) (fun _=>by kernel_rfl) ?_
 delta Qn W6 ZfY ZiP Ze6 Ze5 q23_28 Zy vI vB
 refine ⟨?r9,⟨?r8,⟨?r7,Zb (fun h0=>?_) (fun h0=>⟨?r6,⟨?r5,⟨?r4,⟨?r3,⟨?r2,⟨?_,⟨?r1,⟨?r0,Zb (fun h1=>?_) (fun h1=>?_)⟩⟩⟩⟩⟩⟩⟩⟩)⟩⟩⟩
 case r0|r1|r2|r3|r4|r5|r6|r7|r8|r9=>first | rfl | (rw[Yv];done) | (simp only[SysM.enc,Z3];done) | (simp only[Qf_,Yv,Wi,Z3,QG_,show Zd Surf.dec []=[] from rfl,QJ_,Zcu,show (⟨l.name,l.back,l.faces⟩:LensM)=l from rfl] at *;have hl:=(JC h0).2;omega) | (try simp only[Yv,LensM.enc,Wi,Qk_] at *;first | done | rfl | omega | exact hp0 | (obtain ⟨⟨a1,a2,a3,a4,a5⟩,a6⟩:=hx;simp only[Qc_] at h0;skip) | (simp only[Qf_,show (⟨l.name,l.back,l.faces⟩:LensM)=l from rfl] at h0;obtain ⟨⟨f,t,hf⟩,_⟩:=JC h0;exact ZH (i:=0) (fun _=>rfl) (by omega) (by rw[hf];simp only[Qs_];omega)))
 all_goals simp only[Yv,Wi,Z3,Qi_,Qf_,QG_,QO_,show Zd Surf.dec []=[] from rfl,QJ_,show (⟨l.name,l.back,l.faces⟩:LensM)=l from rfl] at *
 ·simp only[JB,h0,Qd_];rfl
 all_goals obtain ⟨⟨f,t,hf⟩,hl⟩:=JC h0
 all_goals have ef:(List.map Face.enc l.faces).getD 0 []=Face.enc f:=(by rw[hf];rfl)
 all_goals simp only[ef] at *
 all_goals have e0:Zef l g w=⟨Wq g w l.faces (Zh l.back) (point 65536),Zh f.aperture⟩:=(by unfold Zef Z2B;rw[hf];rfl)
 ·exact ⟨⟨by omega,by simp,by simpa using hl,hp0,rfl⟩,rfl⟩
 ·change JA ⟨Wq g w l.faces (Zh l.back) (point 65536),Zh f.aperture⟩=false at h1
  rw[←e0] at h1
  simp only[JB,h0,h1,Qb_,Qd_];rfl
 ·change JA ⟨Wq g w l.faces (Zh l.back) (point 65536),Zh f.aperture⟩=true at h1
  rw[←e0] at h1
  have eb:JB l g w=(Zef l g w,0):=(by simp only[JB,h0,h1,Qb_])
  rw[eb,e0];rfl
def Za7(i:Int)(l:LensM):=(List.map Face.enc l.faces).getD i.toNat []
def Zx4(i:Int)(out:List Face)(l:LensM):=List.map Face.enc out++[[vB (Zr ((Za7 i l).headD PV.nil)),vI (intOf ((Za7 i l).tail.headD PV.nil)),vI (intOf ((Za7 i l).tail.tail.headD PV.nil)),vI (intOf ((Za7 i l).tail.tail.tail.headD PV.nil)),vI (intOf ((Za7 i l).tail.tail.tail.tail.headD PV.nil)),vI (intOf ((Za7 i l).tail.tail.tail.tail.tail.headD PV.nil)),vI (intOf ((Za7 i l).tail.tail.tail.tail.tail.tail.headD PV.nil)),vI (intOf ((Za7 i l).tail.tail.tail.tail.tail.tail.tail.headD PV.nil)),vI (intOf ((Za7 i l).tail.tail.tail.tail.tail.tail.tail.tail.headD PV.nil)),vI 0,vI 0,vI 0,vI 0,PV.str (Zbq ((Za7 i l).tail.tail.tail.tail.tail.tail.tail.tail.tail.tail.tail.tail.tail.headD PV.nil))]]
theorem ZoO:CSOk Tryz.prog (YC []):=Ze
theorem Zuf:Yt Tryz.prog (Zt Tryz.f52 0) Zmq:=by
 refine lsG Zl.Γ (Z6 Zl ZoO ZA Z7 ZJ (LS:=[]) (ZV (l:=[]) (by kernel_rfl) Zu) (n:=2000) (U4 Zmo) (U4 Zb5) (fun x e s=>(e= .exit 0∧s=U4 Zdx x)) (fun x=>(x.2.2.1.faces.length - x.1).toNat) Zmp ZtX ZtY (fun x hx=>?_)) cv4 (fun _=>rfl) (fun _ h=>h) (fun _ _ _ _ h f=>fE h f)
 ·obtain ⟨i,out,l,z⟩:=x
  simp only[U4,Zb5] at hx
  refine sxT (fun Q=>(bif decide (i < ↑(List.map Face.enc l.faces).length) then (((0:Int)≤i∧(List.map Face.enc l.faces)[i.toNat]?=some (ZW [vB false,vI 0,vI 0,vI 0,vI 0,vI 0,vI 0,vI 0,vI 0,vI 0,vI 0,vI 0,vI 0,PV.str []] (Za7 i l)))∧(((0:Nat) < (1:Nat)∧((List.map Face.enc out).length+(1:Nat))* (120:Nat)≤(140737488355328:Nat)∧Lens (14:Nat) (Zx4 i out l))∧Q (Ex.normal) (some ⟨29,[(4,AV.p (vI (IntKind.i64.wrap (i+(1:Int))))),(3,AV.p (PV.lst (Zx4 i out l))),(1,AV.ptr 1 0),(2,AV.ptr 2 0)],[(1,(Zy l)),(2,(Zy z))],[],[(Loc.t (nat_lit 3),nat_lit 144),(Loc.b (nat_lit 2) (nat_lit 3),nat_lit 144)],[]⟩))) else Q (Ex.exit (0:Nat)) (some ⟨29,[(2,AV.ptr 2 0),(1,AV.ptr 1 0),(3,AV.p (PV.lst (List.map Face.enc out)))],[(1,(Zy l)),(2,(Zy z))],[],[],[]⟩))) (fun _=>by kernel_rfl) ?_
  delta Zx4 Za7 Zy vI vB
  refine Zb (fun h0=>⟨?r1,⟨?r0, ?_⟩⟩) (fun h0=>?_)
  case r0|r1=>first | rfl | omega | (simp only[LensM.enc,Wi];done) | (obtain ⟨a1,a2,a3,a4⟩:=hx;simp only[Qk_,Qc_] at *;first | exact ZH (fun _=>rfl) (by omega) (by omega) | exact ⟨by decide,by omega,Wa (XZ (e:=Face.enc) (fun _=>rfl) _) rfl⟩)
  all_goals (obtain ⟨a1,a2,a3,a4⟩:=hx;try simp only[Qk_,Qc_,Qe_] at h0)
  all_goals first | (have hk:i < l.faces.length:=h0;obtain ⟨x,t,e1,e2,e3⟩:=Yu (l:=l.faces) a1 (by omega);(try simp only[Yz e3] at *)) | (exact .inr ⟨by simp,_,rfl,by trivial,by unfold U4 Zdx;(try dsimp only);rw[List.drop_eq_nil_of_le (by omega),List.map_nil,List.append_nil];rfl⟩)
  all_goals (have hw:IntKind.i64.wrap (i+1)=i+1:=Zf (by constructor<;>omega))
  all_goals
   refine .inl ⟨by trivial,(IntKind.i64.wrap (i+1),out++[Zmc x],l,z), ?_, ?_, ?_, ?_⟩
   ·simp only[U4,Zmo,QR_,QE_,QN_];rfl
   ·simp only[U4,Zb5,hw,Qx_,Qs_,Q1_];exact ⟨by omega,by omega,a3,by omega⟩
   ·simp only[hw];omega
   ·intro e s' h;refine ⟨h.1,h.2.trans ?_⟩;unfold U4 Zdx;(try dsimp only);rw[hw,e1,e2];simp only[List.append_assoc,List.cons_append,List.nil_append,List.map_cons]
theorem Zx5:ZF Tryz.prog [(4,Zmq)] Tryz.f52:=ZN (l:=[Zt Tryz.f52 0]) (by kernel_rfl) (ZE (i:=4) (by kernel_rfl) rfl Zuf (Zu))
def Zqf(l:LensM):=Zd Face.dec (List.map Face.enc l.faces)
def q24_4:=LensM.mk [] (Dec.mk (0:Int) (0:Int)) (Zd Face.dec [])
theorem Z6k:Zi Tryz.prog 52 e52:=Zj<|Zg fun l=>EZ1 fun hp0=>by
 refine cfL ZoO Zx5 rfl ?_
 refine sxT (fun Q=>(([]=List.map Face.enc (Zd Face.dec []))∧(((Zy l)=(LensM.mk l.name l.back (Zqf l)).enc)∧(([PV.str [],vI 0,vI 0,PV.lst []]=q24_4.enc)∧((Zb5 (0:Int) (Zd Face.dec []) (LensM.mk l.name l.back (Zqf l)) q24_4)∧Q (PV.agg [PV.str l.name,vI l.back.c,vI l.back.scale,PV.lst (List.map Face.enc (Zd Face.dec []++List.map Zmc (List.drop (0:Nat) (Zqf l))))])))))) (fun _=>by kernel_rfl) ?_
 delta Qn Zqf q24_4 Zy vI vB
 refine ⟨?r2,⟨?r1,⟨?r0,⟨?_, ?_⟩⟩⟩⟩
 case r0|r1|r2=>first | rfl | omega | (simp only[LensM.enc,Wi];done)
 all_goals simp only[Wi,QG_,QO_,show Zd Face.dec []=[] from rfl,QJ_,show (⟨l.name,l.back,l.faces⟩:LensM)=l from rfl] at *
 ·exact ⟨by omega,by omega,hp0,by simp⟩
 ·rfl
def Zps:=YC [(25,e25),(14,e14),(9,e9)]
def Zhj(i:Int)(l:List I):=intOf (((List.map I.enc l).getD i.toNat []).headD PV.nil)
def Zs3(i:Int)(l:List I):=hdec (5:Nat) (pick (IntKind.i64.wrap ((Zhj i l).tdiv (7:Int))) (50000:Int)) (5:Int)
def Zs4(i:Int)(l:List I):=hdec (5:Nat) (pick (IntKind.i64.wrap ((Zhj i l).tdiv (11:Int))) (3000:Int)) (5:Int)
def Zs5(i:Int)(l:List I):=hdec (5:Nat) (pick (IntKind.i64.wrap ((Zhj i l).tdiv (13:Int))) (9000:Int)) (5:Int)
def Zx6(i:Int)(l:List I):=hdec (3:Nat) (IntKind.i64.wrap (pick (IntKind.i64.wrap ((Zhj i l).tdiv (17:Int))) (200000:Int) - (1000:Int))) (3:Int)
def Zx7(i:Int)(out:List Glass)(l:List I):=List.map Glass.enc out++[[PV.str ([(103:UInt8)]++digits i),vI (hdec (5:Nat) (pick (Zhj i l) (200000:Int)) (5:Int)).c,vI (hdec (5:Nat) (pick (Zhj i l) (200000:Int)) (5:Int)).scale,vI (Zs3 i l).c,vI (Zs3 i l).scale,vI 0,vI 0,vI (Zs4 i l).c,vI (Zs4 i l).scale,vI (Zs5 i l).c,vI (Zs5 i l).scale,vI (Zx6 i l).c,vI (Zx6 i l).scale]]
def ZjK(i:Int)(l:List I):=(0:Int)≤i∧(List.map I.enc l)[i.toNat]?=some (ZW [vI 0] ((List.map I.enc l).getD i.toNat []))
def ZmE:=(0:Int)≤(5:Int)∧(5:Int)≤(18:Int)
def Zs6:=(0:Int) < (200000:Int)∧(200000:Int)≤(4611686018427387904:Int)
theorem ZfZ:CSOk Tryz.prog Zps:=Za Z2J<|Za Zxr<|Za ZnS<|Ze
theorem Zlb:Yt Tryz.prog (Zt Tryz.f50 0) Zb7:=by
 refine lsG Zl.Γ (Z6 Zl ZfZ ZA Z7 (ZdA (G:=(Gx.mk [] [] [] [] [23])) (Zd9) (ZdV)) (LS:=[]) (ZV (l:=[]) (by kernel_rfl) Zu) (n:=2000) (U3 Zfe) (U3 XC) (fun x e s=>(e= .exit 0∧s=U3 Jz x)) (fun x=>(3 - x.1).toNat) Zff ZkQ ZkR (fun x hx=>?_)) cv3 (fun _=>rfl) (fun _ h=>h) (fun _ _ _ _ h f=>fE h f)
 ·obtain ⟨i,out,l⟩:=x
  simp only[U3,XC] at hx
  refine sxT (fun Q=>(bif decide (i < ↑(List.map I.enc l).length) then (bif decide (i < (3:Int)) then (((-1000000000000000000:Int)≤i∧i≤(1000000000000000000:Int))∧(((1:Nat)+(digits i).length≤(9223372036854775807:Nat))∧((ZjK i l)∧(Zs6∧(ZmE∧((ZjK i l)∧(((7:Int)≠(0:Int))∧(((0:Int) < (50000:Int)∧(50000:Int)≤(4611686018427387904:Int))∧(ZmE∧((ZjK i l)∧(((11:Int)≠(0:Int))∧(((0:Int) < (3000:Int)∧(3000:Int)≤(4611686018427387904:Int))∧(ZmE∧((ZjK i l)∧(((13:Int)≠(0:Int))∧(((0:Int) < (9000:Int)∧(9000:Int)≤(4611686018427387904:Int))∧(ZmE∧((ZjK i l)∧(((17:Int)≠(0:Int))∧(Zs6∧(((0:Int)≤(3:Int)∧(3:Int)≤(18:Int))∧(((0:Nat) < (1:Nat)∧((List.map Glass.enc out).length+(1:Nat))* (112:Nat)≤(140737488355328:Nat)∧Lens (13:Nat) (Zx7 i out l))∧Q (Ex.normal) (some ⟨80,[(4,AV.p (vI (IntKind.i64.wrap (i+(1:Int))))),(3,AV.p (PV.lst (Zx7 i out l))),(0,AV.p (PV.lst (List.map I.enc l)))],[],[],[(Loc.t (nat_lit 3),nat_lit 140)],[]⟩))))))))))))))))))))))) else Q (Ex.exit (0:Nat)) (some ⟨80,[(3,AV.p (PV.lst (List.map Glass.enc out)))],[],[],[],[]⟩)) else Q (Ex.exit (0:Nat)) (some ⟨80,[(3,AV.p (PV.lst (List.map Glass.enc out)))],[],[],[],[]⟩))) (fun _=>by kernel_rfl) ?_
  delta Zx7 Zhj ZjK ZmE Zx6 Zs6 Zs3 Zs4 Zs5 vI
  refine Zb (fun h0=>Zb (fun h1=>⟨?r21,⟨?r20,⟨?r19,⟨?r18,⟨?r17,⟨?r16,⟨?r15,⟨?r14,⟨?r13,⟨?r12,⟨?r11,⟨?r10,⟨?r9,⟨?r8,⟨?r7,⟨?r6,⟨?r5,⟨?r4,⟨?r3,⟨?r2,⟨?r1,⟨?r0, ?_⟩⟩⟩⟩⟩⟩⟩⟩⟩⟩⟩⟩⟩⟩⟩⟩⟩⟩⟩⟩⟩⟩) (fun h1=>?_)) (fun h0=>?_)
  case r0|r1|r2|r3|r4|r5|r6|r7|r8|r9|r10|r11|r12|r13|r14|r15|r16|r17|r18|r19|r20|r21=>first | rfl | omega | (rw[dI];done) | (obtain ⟨a1,a2,a3,a4⟩:=hx;simp only[Qk_,Qc_] at *;first | omega | exact ZH (fun _=>rfl) (by omega) (by omega) | exact ⟨by decide,by omega,Wa (XZ (e:=Glass.enc) (fun _=>rfl) _) rfl⟩ | (have:=ZS i;omega))
  all_goals (obtain ⟨a1,a2,a3,a4⟩:=hx;(try simp only[Z1h,Qk_] at *))
  all_goals (try simp only[Qc_,Qe_] at h0)
  all_goals (try simp only[Qc_,Qe_] at h1)
  all_goals first
   | (have hw:IntKind.i64.wrap (i+1)=i+1:=Zf (by constructor<;>omega)
      have eb:Zeg (3 - i).toNat l i=Zmd l i::Zeg (3 - (i+1)).toNat l (i+1):=(by rw[show (3 - i).toNat=(3 - (i+1)).toNat+1 by omega];rw[Zoz,QH_ h0,QH_ h1];rfl)
      refine .inl ⟨by trivial,(IntKind.i64.wrap (i+1),out++[Zmd l i],l), ?_, ?_, ?_, ?_⟩
      ·simp only[U3,Zfe,QR_,QE_,QN_];rfl
      ·simp only[U3,XC,hw,Qx_,Qs_,Q1_];exact ⟨by omega,by omega,a3,by omega⟩
      ·simp only[hw];omega
      ·intro e s' h;refine ⟨h.1,h.2.trans ?_⟩;unfold U3 Jz;(try dsimp only);rw[hw,eb];simp only[List.append_assoc,List.cons_append,List.nil_append])
   | (have eb:Zeg (3 - i).toNat l i=[]:=(by
       by_cases hi:i < 3
       ·rw[show (3 - i).toNat=(3 - (i+1)).toNat+1 by omega];rw[Zoz,show (decide (i < (l.length:Int))&&decide (i < 3))=false by simp;omega];rfl
       ·rw[show (3 - i).toNat=0 by omega];rfl)
      exact .inr ⟨by simp,_,rfl,by trivial,by unfold U3 Jz;(try dsimp only);(rw[eb,List.append_nil])<;>rfl⟩)
theorem ZmF:ZF Tryz.prog [(4,Zb7)] Tryz.f50:=ZN (l:=[Zt Tryz.f50 0]) (by kernel_rfl) (ZE (i:=4) (by kernel_rfl) rfl Zlb (Zu))
def ZiQ:=[[PV.str [(99:UInt8),(114:UInt8),(111:UInt8),(119:UInt8),(110:UInt8)],vI 103961,vI 5,vI 23179,vI 5,vI 101047,vI 5,vI 6,vI 3,vI 2002,vI 5,vI 1035607,vI 4],[PV.str [(102:UInt8),(108:UInt8),(105:UInt8),(110:UInt8),(116:UInt8)],vI 17376,vI 4,vI 31375,vI 5,vI 189878,vI 5,vI 1319,vI 5,vI 6231,vI 5,vI 1552363,vI 4]]
def JN:=(0:Int)≤(5:Int)∧(5:Int)≤(18:Int)
def Zs7:=(0:Int)≤(4:Int)∧(4:Int)≤(18:Int)
theorem Z6l:Zi Tryz.prog 50 e50:=Zj<|Zg fun l=>EZ1 fun hp0=>by
 refine ZaG Zl ZfZ ZA Z7 (ZdA (G:=(Gx.mk [] [] [] [] [23])) (Zd9) (ZdV)) (n:=2000) (LS:=[(4,Zb7)]) (fn:=Tryz.f50) rfl ZmF ?_
 refine sxT (fun Q=>(JN∧(JN∧(JN∧(JN∧(JN∧(Zs7∧(JN∧(JN∧(JN∧(JN∧(JN∧(Zs7∧((ZiQ=List.map Glass.enc (Zd Glass.dec ZiQ))∧((List.map I.enc l=List.map I.enc (Zd I.dec (List.map I.enc l)))∧((XC (0:Int) (Zd Glass.dec ZiQ) (Zd I.dec (List.map I.enc l)))∧Q (PV.lst (List.map Glass.enc (Zd Glass.dec ZiQ++Zeg (3:Nat) (Zd I.dec (List.map I.enc l)) (0:Int)))))))))))))))))))) (fun _=>by kernel_rfl) ?_
 delta Qn ZiQ JN Zs7 vI
 refine ⟨?r13,⟨?r12,⟨?r11,⟨?r10,⟨?r9,⟨?r8,⟨?r7,⟨?r6,⟨?r5,⟨?r4,⟨?r3,⟨?r2,⟨?r1,⟨?r0,⟨?_, ?_⟩⟩⟩⟩⟩⟩⟩⟩⟩⟩⟩⟩⟩⟩⟩
 case r0|r1|r2|r3|r4|r5|r6|r7|r8|r9|r10|r11|r12|r13=>first | rfl | omega | (rw[dI];done)
 ·simp only[XC,dI];exact ⟨by omega,by omega,hp0,rfl⟩
 ·simp only[dI];rfl
def Zx8:=YC [(89,e89),(9,e9),(46,e46)]
def Zs8(i:Int)(l:List I)(zz:Int)(s:SysM):=List.map Surf.enc s.surfs++[[vB (pick (intOf (((List.map I.enc l).getD i.toNat []).headD PV.nil)) (2:Int)==(0:Int)),vB false,vI 0,vI 0,vB false,vI 65536,vI 65536,vB false,vI 0,vI 0,vB false,vI 0,vI 0,vB false,vI (point zz).lo,vI (point zz).hi,vB (point zz).no,vI 6553600,vI 6553600,vB false,vI 65536,vI 65536,vB false]]
def Zs9(z:SysM):=[PV.lst (List.map Surf.enc z.surfs),vI z.op.lo,vI z.op.hi,vB z.op.no]
def ZsA(s:SysM)(z:SysM):Option St:=some ⟨48,[(2,AV.ptr 2 0),(3,AV.ptr 3 0)],[(2,(Zs9 z)),(3,[PV.lst (List.map Surf.enc s.surfs),vI s.op.lo,vI s.op.hi,vB s.op.no])],[],[],[]⟩
def ZsB(i:Int)(l:List I):=(0:Int)≤i∧(List.map I.enc l)[i.toNat]?=some (ZW [vI 0] ((List.map I.enc l).getD i.toNat []))
theorem Zko:CSOk Tryz.prog Zx8:=Za Z5L<|Za ZnS<|Za ZpE<|Ze
theorem Zpt:Yt Tryz.prog (Zt Tryz.f55 0) Zi4:=by
 refine lsG Zl.Γ (Z6 Zl Zko ZA Z7 ZJ (LS:=[]) (ZV (l:=[]) (by kernel_rfl) Zu) (n:=2000) (U5 Zi2) (U5 WO) (fun x e s=>(e= .exit 0∧s=U5 Zb8 x)) (fun x=>(4 - x.1).toNat) Zi3 Zpg Zph (fun x hx=>?_)) cv5 (fun _=>rfl) (fun _ h=>h) (fun _ _ _ _ h f=>fE h f)
 ·obtain ⟨i,l,zz,s,z⟩:=x
  simp only[U5,WO] at hx
  refine sxT (fun Q=>(bif decide (i < ↑(List.map I.enc l).length) then (bif decide (i < (4:Int)) then ((ZsB i l)∧(((0:Int) < (2:Int)∧(2:Int)≤(4611686018427387904:Int))∧(((0:Nat) < (1:Nat)∧((List.map Surf.enc s.surfs).length+(1:Nat))* (176:Nat)≤(140737488355328:Nat)∧Lens (23:Nat) (Zs8 i l zz s))∧((ZsB i l)∧(((2:Int)≠(0:Int))∧(((0:Int) < (327680:Int)∧(327680:Int)≤(4611686018427387904:Int))∧Q (Ex.normal) (some ⟨48,[(5,AV.p (vI (IntKind.i64.wrap (i+(1:Int))))),(0,AV.p (PV.lst (List.map I.enc l))),(4,AV.p (vI (IntKind.i64.wrap (IntKind.i64.wrap (zz+(1:Int))+pick (IntKind.i64.wrap ((intOf (((List.map I.enc l).getD i.toNat []).headD PV.nil)).tdiv (2:Int))) (327680:Int))))),(3,AV.ptr 3 0),(2,AV.ptr 2 0)],[(3,[PV.lst (Zs8 i l zz s),vI s.op.lo,vI s.op.hi,vB s.op.no]),(2,(Zs9 z))],[],[(Loc.b (nat_lit 3) (nat_lit 0),nat_lit 151),(Loc.b (nat_lit 2) (nat_lit 0),nat_lit 151)],[]⟩))))))) else Q (Ex.exit (0:Nat)) (ZsA s z)) else Q (Ex.exit (0:Nat)) (ZsA s z))) (fun _=>by kernel_rfl) ?_
  delta Zs8 ZsA ZsB Zs9 vI vB
  refine Zb (fun h0=>Zb (fun h1=>⟨?r5,⟨?r4,⟨?r3,⟨?r2,⟨?r1,⟨?r0, ?_⟩⟩⟩⟩⟩⟩) (fun h1=>?_)) (fun h0=>?_)
  case r0|r1|r2|r3|r4|r5=>first | rfl | omega | (rw[dI];done) | (simp only[SysM.enc,Z3];done) | (obtain ⟨a1,a2,a3,a4⟩:=hx;simp only[Qk_,Qc_] at *;first | omega | exact ZH (fun _=>rfl) (by omega) (by omega) | exact ⟨by decide,by omega,Wa (XZ (e:=Surf.enc) (fun _=>rfl) _) rfl⟩)
  all_goals (obtain ⟨a1,a2,a3,a4⟩:=hx;(try simp only[Z1h,Qk_] at *))
  all_goals (try simp only[Qc_,Qe_] at h0)
  all_goals (try simp only[Qc_,Qe_] at h1)
  all_goals first
   | (have hw:IntKind.i64.wrap (i+1)=i+1:=Zf (by constructor<;>omega)
      have eb:XK (4 - i).toNat l i zz=Zj9 (l.getD i.toNat ⟨0⟩).n zz::XK (4 - (i+1)).toNat l (i+1) (w64 (w64 (zz+1)+pick (w64 ((l.getD i.toNat ⟨0⟩).n.tdiv 2)) 327680)):=(by rw[show (4 - i).toNat=(4 - (i+1)).toNat+1 by omega];rw[ZeX,QH_ h0,QH_ h1];rfl)
      refine .inl ⟨by trivial,(IntKind.i64.wrap (i+1),l,w64 (w64 (zz+1)+pick (w64 ((l.getD i.toNat ⟨0⟩).n.tdiv 2)) 327680),⟨s.surfs++[Zj9 (l.getD i.toNat ⟨0⟩).n zz],s.op⟩,z), ?_, ?_, ?_, ?_⟩
      ·simp only[U5,Zi2,SysM.enc,QR_,QE_,QN_];rfl
      ·simp only[U5,WO,hw,Qx_,Qs_,Q1_];exact ⟨by omega,by omega,a3,by omega⟩
      ·simp only[hw];omega
      ·intro e s' h;refine ⟨h.1,h.2.trans ?_⟩;unfold U5 Zb8;(try dsimp only);rw[hw,eb];simp only[List.append_assoc,List.cons_append,List.nil_append])
   | (have eb:XK (4 - i).toNat l i zz=[]:=(by
       by_cases hi:i < 4
       ·rw[show (4 - i).toNat=(4 - (i+1)).toNat+1 by omega];rw[ZeX,show (decide (i < (l.length:Int))&&decide (i < 4))=false by simp;omega];rfl
       ·rw[show (4 - i).toNat=0 by omega];rfl)
      exact .inr ⟨by simp,_,rfl,by trivial,by unfold U5 Zb8;(try dsimp only);(rw[eb,List.append_nil])<;>rfl⟩)
theorem ZsC:ZF Tryz.prog [(5,Zi4)] Tryz.f55:=ZN (l:=[Zt Tryz.f55 0]) (by kernel_rfl) (ZE (i:=5) (by kernel_rfl) rfl Zpt (Zu))
def q24_21:=SysM.mk (Zd Surf.dec []) (Iv.mk (524288:Int) (524288:Int) false)
def q24_22:=SysM.mk (Zd Surf.dec []) (Iv.mk (0:Int) (0:Int) false)
theorem Z6m:Zi Tryz.prog 55 e55:=Zj<|Zg fun l=>EZ1 fun hp0=>by
 refine cfL Zko ZsC rfl ?_
 refine sxT (fun Q=>((List.map I.enc l=List.map I.enc (Zd I.dec (List.map I.enc l)))∧(([PV.lst [],vI 524288,vI 524288,vB false]=q24_21.enc)∧(([PV.lst [],vI 0,vI 0,vB false]=q24_22.enc)∧((WO (0:Int) (Zd I.dec (List.map I.enc l)) (655360:Int) q24_21 q24_22)∧Q (PV.agg [PV.lst (List.map Surf.enc (Zd Surf.dec []++XK (4:Nat) (Zd I.dec (List.map I.enc l)) (0:Int) (655360:Int))),vI 524288,vI 524288,vB false])))))) (fun _=>by kernel_rfl) ?_
 delta Qn q24_21 q24_22 vI vB
 refine ⟨?r2,⟨?r1,⟨?r0,⟨?_, ?_⟩⟩⟩⟩
 case r0|r1|r2=>first | rfl | omega | (rw[dI];done)
 ·simp only[WO,dI];exact ⟨by omega,by omega,hp0,rfl⟩
 ·simp only[dI];rfl
end Go.Men
