/- A logic of frames, its evaluator for values known in part, and what the functions that the law reaches are shown to do: written for this claim. Part D. -/
import Derived.Test.YtgfgjabeooohhaaGreatDoorStC
import Derived.KernelRfl
set_option linter.all false
set_option maxRecDepth 100000
namespace Go.Men
open Go.Ev Go.Proofs Go.Proofs.YtgfgjabeooohhaaGreatDoor
theorem ZhP:Zj Tryz.prog 86 e86:=Zk<|Zh fun n=>EZ0<|by
 refine cf0 Zg (fn:=Tryz.f86) rfl ?_
 refine sxT (fun Q=>(bif decide (n≥(-1073741824:Int)) then Q (vB (decide (n≤(1073741824:Int)))) else Q (vB false))) (fun _=>by kernel_rfl) ?_
 delta Qn vB
 refine Za (fun h0=>?_) (fun h0=>?_)
 all_goals (try simp only[Qi_,Qf_,bne] at *)
 all_goals (simp only[inB,Zu,Zr,List.foldl,Qr_,Qp_,Ql_,Qn_,Q5_,Q4_,Qw_,Q3_,Qu_,Qt_,Qb_,Qd_,QD_,Q8_, *];first | rfl | (simp only[nz,nzA,nz1,QE_,QN_,Iv.enc,V.enc,Ray.enc, *];first | done | rfl))
theorem Zha:Zj Tryz.prog 140 Z0R:=Zk<|Zh fun n=>EZ0<|by
 refine cf0 Zg (fn:=Tryz.f140) rfl ?_
 refine sxT (fun Q=>(bif decide (n≥(-1073741824:Int)) then Q (vB (decide (n≤(1073741824:Int)))) else Q (vB false))) (fun _=>by kernel_rfl) ?_
 delta Qn vB
 refine Za (fun h0=>?_) (fun h0=>?_)
 all_goals (try simp only[Qi_,Qf_,bne] at *)
 all_goals (simp only[inB,Zu,Zr,List.foldl,Qr_,Qp_,Ql_,Qn_,Q5_,Q4_,Qw_,Q3_,Qu_,Qt_,Qb_,Qd_,QD_,Q8_, *];first | rfl | (simp only[nz,nzA,nz1,QE_,QN_,Iv.enc,V.enc,Ray.enc, *];first | done | rfl))
theorem ZvU(a:Iv):Con Tryz.prog 40 [.agg (Iv.enc a)] (.v (.bool (right a))):=by
 refine cf0 (Zb ZhP<|Zg) (fn:=Tryz.f40) rfl ?_
 refine sxT (fun Q=>(bif !a.no then (bif inB a.lo then (bif inB a.hi then Q (vB (decide (a.lo≤a.hi))) else Q (vB false)) else Q (vB false)) else Q (vB false))) (fun _=>by kernel_rfl) ?_
 delta Qn vB
 refine Za (fun h0=>Za (fun h1=>Za (fun h2=>?_) (fun h2=>?_)) (fun h1=>?_)) (fun h0=>?_)
 all_goals (try simp only[Qi_,Qf_,bne] at *)
 all_goals (simp only[right,Zu,Zr,List.foldl,Qr_,Qp_,Ql_,Qn_,Q5_,Q4_,Qw_,Q3_,Qu_,Qt_,Qb_,Qd_,QD_,Q8_, *];first | rfl | (simp only[nz,nzA,nz1,QE_,QN_,Iv.enc,V.enc,Ray.enc, *];first | done | rfl))
theorem ZhQ:Zj Tryz.prog 40 e40:=Zk<|Zh fun a=>EZ0<|ZvU a
theorem Zeg:Zj Tryz.prog 83 e83:=Zk<|Zh fun a=>EZ0<|by
 refine cf0 (Zb Zha<|Zg) (fn:=Tryz.f83) rfl ?_
 refine sxT (fun Q=>(bif !a.no then (bif inB a.lo then (bif inB a.hi then Q (vB (decide (a.lo≤a.hi))) else Q (vB false)) else Q (vB false)) else Q (vB false))) (fun _=>by kernel_rfl) ?_
 delta Qn vB
 refine Za (fun h0=>Za (fun h1=>Za (fun h2=>?_) (fun h2=>?_)) (fun h1=>?_)) (fun h0=>?_)
 all_goals (try simp only[Qi_,Qf_,bne] at *)
 all_goals (simp only[right,Zu,Zr,List.foldl,Qr_,Qp_,Ql_,Qn_,Q5_,Q4_,Qw_,Q3_,Qu_,Qt_,Qb_,Qd_,QD_,Q8_, *];first | rfl | (simp only[nz,nzA,nz1,QE_,QN_,Iv.enc,V.enc,Ray.enc, *];first | done | rfl))
theorem ZxK:Con Tryz.prog 65 [] (.agg (Iv.enc none')):=by
 refine cf0 Zg (fn:=Tryz.f65) rfl ?_
 refine sxT (fun Q=>Q (PV.agg [vI 0,vI 0,vB true])) (fun _=>by kernel_rfl) ?_
 delta Qn vI vB
 refine ?_
 all_goals (try simp only[Qi_,Qf_,bne] at *)
 all_goals rfl
theorem JR:Zj Tryz.prog 65 e65:=Zk<|EZ0<|ZxK
theorem Zbi:Zj Tryz.prog 98 e98:=Zk<|EZ0<|by
 refine cf0 Zg (fn:=Tryz.f98) rfl ?_
 refine sxT (fun Q=>Q (PV.agg [vI 0,vI 0,vB true])) (fun _=>by kernel_rfl) ?_
 delta Qn vI vB
 refine ?_
 all_goals (try simp only[Qi_,Qf_,bne] at *)
 all_goals rfl
theorem ZcG:Zj Tryz.prog 84 e84:=Zk<|Zh fun lo=>Zh fun hi=>EZ0<|by
 refine cf0 (Zb ZhQ<|Zb JR<|Zg) (fn:=Tryz.f84) rfl ?_
 refine sxT (fun Q=>(bif !right (Iv.mk lo hi false) then Q (PV.agg [vI 0,vI 0,vB true]) else Q (PV.agg [vI lo,vI hi,vB false]))) (fun _=>by kernel_rfl) ?_
 delta Qn vI vB
 refine Za (fun h0=>?_) (fun h0=>?_)
 all_goals (try simp only[Qi_,Qf_,bne] at *)
 all_goals (simp only[of,Zu,Zr,List.foldl,Qr_,Qp_,Ql_,Qn_,Q5_,Q4_,Qw_,Q3_,Qu_,Qt_,Qb_,Qd_,QD_,Q8_, *];first | rfl | (simp only[nz,nzA,nz1,QE_,QN_,Iv.enc,V.enc,Ray.enc, *];first | done | rfl))
theorem Zcl:Zj Tryz.prog 114 Z2I:=Zk<|Zh fun lo=>Zh fun hi=>EZ0<|by
 refine cf0 (Zb Zeg<|Zb Zbi<|Zg) (fn:=Tryz.f114) rfl ?_
 refine sxT (fun Q=>(bif !right (Iv.mk lo hi false) then Q (PV.agg [vI 0,vI 0,vB true]) else Q (PV.agg [vI lo,vI hi,vB false]))) (fun _=>by kernel_rfl) ?_
 delta Qn vI vB
 refine Za (fun h0=>?_) (fun h0=>?_)
 all_goals (try simp only[Qi_,Qf_,bne] at *)
 all_goals (simp only[of,Zu,Zr,List.foldl,Qr_,Qp_,Ql_,Qn_,Q5_,Q4_,Qw_,Q3_,Qu_,Qt_,Qb_,Qd_,QD_,Q8_, *];first | rfl | (simp only[nz,nzA,nz1,QE_,QN_,Iv.enc,V.enc,Ray.enc, *];first | done | rfl))
theorem ZhR:Zj Tryz.prog 60 e60:=Zk<|Zh fun n=>EZ0<|by
 refine cf0 (Zb ZcG<|Zg) (fn:=Tryz.f60) rfl ?_
 refine sxT (fun Q=>Q (PV.agg (eIv (of n n)))) (fun _=>by kernel_rfl) ?_
 delta Qn eIv vI vB
 refine ?_
 all_goals (try simp only[Qi_,Qf_,bne] at *)
 all_goals rfl
theorem ZyS:Zj Tryz.prog 88 e88:=Zk<|Zh fun n=>EZ0<|by
 refine cf0 (Zb Zcl<|Zg) (fn:=Tryz.f88) rfl ?_
 refine sxT (fun Q=>Q (PV.agg (eIv (of n n)))) (fun _=>by kernel_rfl) ?_
 delta Qn eIv vI vB
 refine ?_
 all_goals (try simp only[Qi_,Qf_,bne] at *)
 all_goals rfl
theorem Z1Z:Zj Tryz.prog 38 e38:=Zk<|Zh fun n=>EZ0<|by
 refine cf0 (Zb ZhP<|Zb JR<|Zb ZhR<|Zg) (fn:=Tryz.f38) rfl ?_
 refine sxT (fun Q=>(bif !inB n then Q (PV.agg [vI 0,vI 0,vB true]) else Q (PV.agg (eIv (point (IntKind.i64.wrap (n * (65536:Int)))))))) (fun _=>by kernel_rfl) ?_
 delta Qn eIv vI vB
 refine Za (fun h0=>?_) (fun h0=>?_)
 ·simp_all[nz,nzA,nz1,whole,none',Iv.enc]
 ·simp only[Qf_,ZL] at h0
  rw[Zf (by constructor<;>omega)]
  simp[nz,nzA,nz1,whole,ZL.2 h0,Iv.enc]
theorem ZvV:Zj Tryz.prog 117 Z2J:=Zk<|Zh fun a=>Zh fun b=>EZ1 fun hp0=>by
 refine cf0 Zg (fn:=Tryz.f117) rfl ?_
 refine sxT (fun Q=>(bif b==(0:Int) then Q (vI 0) else ((b≠(0:Int))∧((b≠(0:Int))∧(bif a.tmod b !=(0:Int) then (bif !decide (a < (0:Int))==decide (b < (0:Int)) then Q (vI (IntKind.i64.wrap (IntKind.i64.wrap (a.tdiv b) - (1:Int)))) else Q (vI (IntKind.i64.wrap (a.tdiv b)))) else Q (vI (IntKind.i64.wrap (a.tdiv b)))))))) (fun _=>by kernel_rfl) ?_
 delta Qn vI
 refine Za (fun h0=>?_) (fun h0=>⟨?r1,⟨?r0,Za (fun h1=>Za (fun h2=>?_) (fun h2=>?_)) (fun h1=>?_)⟩⟩)
 case r0|r1=>first | rfl | (simp only[YH,dI,dIv];omega) | (simp[Zi,chunk];done) | (simp only[YH,dI,dIv];done) | (exact Zv (fun _=>rfl) (by omega) (by omega)) | (simp only[Qc_,Qk_] at *;exact Zv (fun _=>rfl) (by omega) (by omega)) | assumption | trivial | (simp_all;done) | omega
 ·simp_all[nz,nzA,floor]
 ·have hw:IntKind.i64.wrap (a.tdiv b)=a.tdiv b:=Zf (by have:=Za1 (b:=b) hp0;constructor<;>omega)
  have hb:b≠0:=by simpa using h0
  have e:=Zr8 hb (by simpa using h1) (by simpa using h2)
  have hf:=Zdk (b:=b) hp0
  rw[hw,e,Zf (by constructor<;>omega)];rfl
 ·have hw:IntKind.i64.wrap (a.tdiv b)=a.tdiv b:=Zf (by have:=Za1 (b:=b) hp0;constructor<;>omega)
  have hb:b≠0:=by simpa using h0
  have e:=ZhG hb (.inr (by simpa using h2))
  rw[hw,e];rfl
 ·have hw:IntKind.i64.wrap (a.tdiv b)=a.tdiv b:=Zf (by have:=Za1 (b:=b) hp0;constructor<;>omega)
  have hb:b≠0:=by simpa using h0
  have e:=ZhG hb (.inl (by simpa using h1))
  rw[hw,e];rfl
theorem Zkm:Zj Tryz.prog 145 Z2K:=Zk<|Zh fun a=>Zh fun b=>EZ1 fun hp0=>by
 refine cf0 Zg (fn:=Tryz.f145) rfl ?_
 refine sxT (fun Q=>(bif b==(0:Int) then Q (vI 0) else ((b≠(0:Int))∧((b≠(0:Int))∧(bif a.tmod b !=(0:Int) then (bif !decide (a.tmod b < (0:Int))==decide (b < (0:Int)) then Q (vI (IntKind.i64.wrap (IntKind.i64.wrap (a.tdiv b) - (1:Int)))) else Q (vI (IntKind.i64.wrap (a.tdiv b)))) else Q (vI (IntKind.i64.wrap (a.tdiv b)))))))) (fun _=>by kernel_rfl) ?_
 delta Qn vI
 refine Za (fun h0=>?_) (fun h0=>⟨?r1,⟨?r0,Za (fun h1=>Za (fun h2=>?_) (fun h2=>?_)) (fun h1=>?_)⟩⟩)
 case r0|r1=>first | rfl | (simp only[YH,dI,dIv];omega) | (simp[Zi,chunk];done) | (simp only[YH,dI,dIv];done) | (exact Zv (fun _=>rfl) (by omega) (by omega)) | (simp only[Qc_,Qk_] at *;exact Zv (fun _=>rfl) (by omega) (by omega)) | assumption | trivial | (simp_all;done) | omega
 ·simp_all[nz,nzA,floor]
 ·have hw:IntKind.i64.wrap (a.tdiv b)=a.tdiv b:=Zf (by have:=Za1 (b:=b) hp0;constructor<;>omega)
  have hb:b≠0:=by simpa using h0
  rw[Zo7 (by simpa using h1)] at h2
  have e:=Zr8 hb (by simpa using h1) (by simpa using h2)
  have hf:=Zdk (b:=b) hp0
  rw[hw,e,Zf (by constructor<;>omega)];rfl
 ·have hw:IntKind.i64.wrap (a.tdiv b)=a.tdiv b:=Zf (by have:=Za1 (b:=b) hp0;constructor<;>omega)
  have hb:b≠0:=by simpa using h0
  rw[Zo7 (by simpa using h1)] at h2
  have e:=ZhG hb (.inr (by simpa using h2))
  rw[hw,e];rfl
 ·have hw:IntKind.i64.wrap (a.tdiv b)=a.tdiv b:=Zf (by have:=Za1 (b:=b) hp0;constructor<;>omega)
  have hb:b≠0:=by simpa using h0
  have e:=ZhG hb (.inl (by simpa using h1))
  rw[hw,e];rfl
theorem Ztn:Zj Tryz.prog 85 e85:=Zk<|Zh fun a=>Zh fun b=>EZ0<|by
 refine cf0 (Zb ZhQ<|Zg) (fn:=Tryz.f85) rfl ?_
 refine sxT (fun Q=>(bif right a then Q (vB (right b)) else Q (vB false))) (fun _=>by kernel_rfl) ?_
 delta Qn vB
 refine Za (fun h0=>?_) (fun h0=>?_)
 all_goals (try simp only[Qi_,Qf_,bne] at *)
 all_goals (simp only[both,Zu,Zr,List.foldl,Qr_,Qp_,Ql_,Qn_,Q5_,Q4_,Qw_,Q3_,Qu_,Qt_,Qb_,Qd_,QD_,Q8_, *];first | rfl | (simp only[nz,nzA,nz1,QE_,QN_,Iv.enc,V.enc,Ray.enc, *];first | done | rfl))
theorem Z2a:Zj Tryz.prog 67 e67:=Zk<|Zh fun a=>EZ0<|by
 refine cf0 (Zb ZhQ<|Zb JR<|Zb ZcG<|Zg) (fn:=Tryz.f67) rfl ?_
 refine sxT (fun Q=>(bif !right a then Q (PV.agg [vI 0,vI 0,vB true]) else Q (PV.agg (eIv (of (IntKind.i64.wrap ((0:Int) - a.hi)) (IntKind.i64.wrap ((0:Int) - a.lo))))))) (fun _=>by kernel_rfl) ?_
 delta Qn eIv vI vB
 refine Za (fun h0=>?_) (fun h0=>?_)
 ·simp_all[nz,nzA,nz1,neg,none',Iv.enc]
 ·simp only[Qf_] at h0
  have ha:=XY h0
  rw[Zf (by constructor<;>omega),Zf (by constructor<;>omega)]
  simp[nz,nzA,nz1,neg,h0,Iv.enc]
theorem Z0b(a:Iv)(b:Iv):Con Tryz.prog 37 [.agg (Iv.enc a),.agg (Iv.enc b)] (.agg (Iv.enc (add a b))):=by
 refine cf0 (Zb Ztn<|Zb JR<|Zb ZcG<|Zg) (fn:=Tryz.f37) rfl ?_
 refine sxT (fun Q=>(bif !both a b then Q (PV.agg [vI 0,vI 0,vB true]) else Q (PV.agg (eIv (of (IntKind.i64.wrap (a.lo+b.lo)) (IntKind.i64.wrap (a.hi+b.hi))))))) (fun _=>by kernel_rfl) ?_
 delta Qn eIv vI vB
 refine Za (fun h0=>?_) (fun h0=>?_)
 ·simp_all[nz,nzA,nz1,add,none',Iv.enc]
 ·simp only[Qf_] at h0
  have hb:=Bool.and_eq_true_iff.1 (show (right a&&right b)=true from h0)
  have ha:=XY hb.1
  have hb:=XY hb.2
  rw[Zf (by constructor<;>omega),Zf (by constructor<;>omega)]
  simp[nz,nzA,nz1,add,h0,Iv.enc]
theorem Znd:Zj Tryz.prog 37 e37:=Zk<|Zh fun a=>Zh fun b=>EZ0<|Z0b a b
theorem ZyT:Zj Tryz.prog 91 e91:=Zk<|Zh fun a=>Zh fun b=>EZ0<|by
 refine cf0 (Zb Zeg<|Zb Zbi<|Zb Zcl<|Zg) (fn:=Tryz.f91) rfl ?_
 refine sxT (fun Q=>(bif !right a then Q (PV.agg [vI 0,vI 0,vB true]) else (bif !right b then Q (PV.agg [vI 0,vI 0,vB true]) else Q (PV.agg (eIv (of (IntKind.i64.wrap (a.lo+b.lo)) (IntKind.i64.wrap (a.hi+b.hi)))))))) (fun _=>by kernel_rfl) ?_
 delta Qn eIv vI vB
 refine Za (fun h0=>?_) (fun h0=>Za (fun h1=>?_) (fun h1=>?_))
 ·simp_all[nz,nzA,nz1,add,both,none',Iv.enc]
 ·simp_all[nz,nzA,nz1,add,both,none',Iv.enc]
 ·simp only[Qf_] at h0 h1
  have ha:=XY h0
  have hb:=XY h1
  rw[Zf (by constructor<;>omega),Zf (by constructor<;>omega)]
  simp[nz,nzA,nz1,add,both,h0,h1,Iv.enc]
theorem Z2b:Zj Tryz.prog 27 e27:=Zk<|Zh fun a=>Zh fun b=>EZ0<|by
 refine cf0 (Zb Z2a<|Zb Znd<|Zg) (fn:=Tryz.f27) rfl ?_
 refine sxT (fun Q=>Q (PV.agg (eIv (add a (neg b))))) (fun _=>by kernel_rfl) ?_
 delta Qn eIv vI vB
 refine ?_
 all_goals (try simp only[Qi_,Qf_,bne] at *)
 all_goals rfl
theorem Z2c:Zj Tryz.prog 58 e58:=Zk<|Zh fun a=>Zh fun b=>EZ0<|by
 refine cf0 (Zb Zeg<|Zb Zbi<|Zb Zcl<|Zg) (fn:=Tryz.f58) rfl ?_
 refine sxT (fun Q=>(bif !right a then Q (PV.agg [vI 0,vI 0,vB true]) else (bif !right b then Q (PV.agg [vI 0,vI 0,vB true]) else Q (PV.agg (eIv (of (IntKind.i64.wrap (a.lo - b.hi)) (IntKind.i64.wrap (a.hi - b.lo)))))))) (fun _=>by kernel_rfl) ?_
 delta Qn eIv vI vB
 refine Za (fun h0=>?_) (fun h0=>Za (fun h1=>?_) (fun h1=>?_))
 all_goals rw[Z0F]
 ·simp_all[nz,nzA,nz1,both,none',Iv.enc]
 ·simp_all[nz,nzA,nz1,both,none',Iv.enc]
 ·simp only[Qf_] at h0 h1
  have ha:=XY h0
  have hb:=XY h1
  rw[Zf (by constructor<;>omega),Zf (by constructor<;>omega)]
  simp[nz,nzA,nz1,both,h0,h1,Iv.enc]
theorem Z1m:Zj Tryz.prog 121 Z2L:=Zk<|Zh fun a=>Zh fun n=>EZ0<|by
 refine cf0 (Zb ZhQ<|Zg) (fn:=Tryz.f121) rfl ?_
 refine sxT (fun Q=>(bif right a then (bif decide (a.lo≤n) then Q (vB (decide (n≤a.hi))) else Q (vB false)) else Q (vB false))) (fun _=>by kernel_rfl) ?_
 delta Qn vB
 refine Za (fun h0=>Za (fun h1=>?_) (fun h1=>?_)) (fun h0=>?_)
 all_goals (try simp only[Qi_,Qf_,bne] at *)
 all_goals (simp only[has,Zu,Zr,List.foldl,Qr_,Qp_,Ql_,Qn_,Q5_,Q4_,Qw_,Q3_,Qu_,Qt_,Qb_,Qd_,QD_,Q8_, *];first | rfl | (simp only[nz,nzA,nz1,QE_,QN_,Iv.enc,V.enc,Ray.enc, *];first | done | rfl))
theorem ZvW:Zj Tryz.prog 157 Z2M:=Zk<|Zh fun a=>Zh fun b=>Zh fun up=>EZ2 fun hp0 hp1=>by
 refine cf0 (Zb ZvV<|Zb ZhP<|Zg) (fn:=Tryz.f157) rfl ?_
 refine sxT (fun Q=>(((-4611686018427387904:Int)≤a∧a≤(4611686018427387904:Int))∧(bif up then ((b≠(0:Int))∧(bif a.tmod b !=(0:Int) then (bif !inB (IntKind.i64.wrap (floor a b+(1:Int))) then Q (PV.tup [vI 0,vB false]) else Q (PV.tup [vI (IntKind.i64.wrap (floor a b+(1:Int))),vB true])) else (bif !inB (floor a b) then Q (PV.tup [vI 0,vB false]) else Q (PV.tup [vI (floor a b),vB true])))) else (bif !inB (floor a b) then Q (PV.tup [vI 0,vB false]) else Q (PV.tup [vI (floor a b),vB true]))))) (fun _=>by kernel_rfl) ?_
 delta Qn vI vB
 refine ⟨?r1,Za (fun h0=>⟨?r0,Za (fun h1=>Za (fun h2=>?_) (fun h2=>?_)) (fun h1=>Za (fun h2=>?_) (fun h2=>?_))⟩) (fun h0=>Za (fun h1=>?_) (fun h1=>?_))⟩
 case r0|r1=>first | rfl | (simp only[YH,dI,dIv];omega) | (simp[Zi,chunk];done) | (simp only[YH,dI,dIv];done) | (exact Zv (fun _=>rfl) (by omega) (by omega)) | (simp only[Qc_,Qk_] at *;exact Zv (fun _=>rfl) (by omega) (by omega)) | assumption | trivial | (simp_all;done) | omega
 all_goals have hf:=Zdk (b:=b) hp0
 all_goals try have hm:a % b≠0:=by rw[bne_iff_ne,Ne,Zma] at h1;exact h1
 all_goals try have hm:a % b=0:=by rw[bne_eq_false_iff_eq,Zma] at h1;exact h1
 all_goals try rw[Zf (show Fit (floor a b+1) by unfold floor;constructor<;>omega)] at *
 all_goals simp_all[nz,nzA,rounded,up1,floor]
theorem Zpa:Zj Tryz.prog 146 Z2N:=Zk<|Zh fun a=>Zh fun b=>EZ3 fun hp0 hp1 hp2=>by
 refine cf0 (Zb Zkm<|Zg) (fn:=Tryz.f146) rfl ?_
 refine sxT (fun Q=>(((-4611686018427387904:Int)≤a∧a≤(4611686018427387904:Int))∧(bif IntKind.i64.wrap (floor a b *b)!=a then Q (vI (IntKind.i64.wrap (floor a b+(1:Int)))) else Q (vI (floor a b))))) (fun _=>by kernel_rfl) ?_
 delta Qn vI
 refine ⟨?r0,Za (fun h0=>?_) (fun h0=>?_)⟩
 case r0=>first | rfl | (simp only[YH,dI,dIv];omega) | (simp[Zi,chunk];done) | (simp only[YH,dI,dIv];done) | (exact Zv (fun _=>rfl) (by omega) (by omega)) | (simp only[Qc_,Qk_] at *;exact Zv (fun _=>rfl) (by omega) (by omega)) | assumption | trivial | (simp_all;done) | omega
 all_goals have hf:=Zdk (b:=b) hp0
 all_goals rw[Zf (show Fit (floor a b *b) from Zo9 hp2 hp0 hp1)] at h0
 ·have hm:¬a % b=0:=by rw[bne_iff_ne,Ne,floor,Zo8 hp2] at h0;exact h0
  rw[Zf (show Fit (floor a b+1) by unfold floor;constructor<;>omega)]
  simp[nz,nzA,up1,floor,hm]
 ·have hm:a % b=0:=by rw[bne_eq_false_iff_eq,floor,Zo8 hp2] at h0;exact h0
  simp[nz,nzA,up1,floor,hm]
theorem Zpb:Zj Tryz.prog 170 Z0S:=Zk<|Zh fun n=>EZ0<|by
 refine cf0 (Zb Zha<|Zg) (fn:=Tryz.f170) rfl ?_
 refine sxT (fun Q=>(bif !inB n then Q (PV.tup [vI 0,vB false]) else Q (PV.tup [vI n,vB true]))) (fun _=>by kernel_rfl) ?_
 delta Qn vI vB
 refine Za (fun h0=>?_) (fun h0=>?_)
 all_goals (try simp only[Qi_,Qf_,bne] at *)
 all_goals (simp only[told,Zu,Zr,List.foldl,Qr_,Qp_,Ql_,Qn_,Q5_,Q4_,Qw_,Q3_,Qu_,Qt_,Qb_,Qd_,QD_,Q8_, *];first | rfl | (simp only[nz,nzA,nz1,QE_,QN_,Iv.enc,V.enc,Ray.enc, *];first | done | rfl))
theorem Zpc:Zj Tryz.prog 126 Z2O:=Zk<|Zh fun a=>Zh fun b=>Zh fun up=>EZ0<|by
 refine cf0 (Zb ZhP<|Zb ZvW<|Zg) (fn:=Tryz.f126) rfl ?_
 refine sxT (fun Q=>(bif !inB a then Q (PV.tup [vI 0,vB false]) else (bif !inB b then Q (PV.tup [vI 0,vB false]) else (((-4611686018427387904:Int)≤IntKind.i64.wrap (a *b)∧IntKind.i64.wrap (a *b)≤(4611686018427387904:Int))∧(((65536:Int)≠(0:Int))∧Q (PV.tup [vI (rounded (IntKind.i64.wrap (a *b)) (65536:Int) up).fst,vB (rounded (IntKind.i64.wrap (a *b)) (65536:Int) up).snd])))))) (fun _=>by kernel_rfl) ?_
 delta Qn vI vB
 refine Za (fun h0=>?_) (fun h0=>Za (fun h1=>?_) (fun h1=>⟨?_,⟨?_, ?_⟩⟩))
 ·simp_all[nz,nzA,mul]
 ·simp_all[nz,nzA,mul]
 all_goals simp only[Qf_] at h0 h1
 all_goals have hw:IntKind.i64.wrap (a *b)=a *b:=Zf (by have:=ZhH h0 h1;constructor<;>omega)
 ·rw[hw];have:=ZhH h0 h1;omega
 ·simp
 ·simp[nz,nzA,mul,hw,h0,h1]
def ZxL(a:Int)(b:Int):=(-4611686018427387904:Int)≤IntKind.i64.wrap (a *b)∧IntKind.i64.wrap (a *b)≤(4611686018427387904:Int)
theorem Zpd:Zj Tryz.prog 147 Z2P:=Zk<|Zh fun a=>Zh fun b=>Zh fun up=>EZ0<|by
 refine cf0 (Zb Zha<|Zb Zpa<|Zb Zpb<|Zb Zkm<|Zg) (fn:=Tryz.f147) rfl ?_
 refine sxT (fun Q=>(bif !inB a then Q (PV.tup [vI 0,vB false]) else (bif !inB b then Q (PV.tup [vI 0,vB false]) else (bif up then ((ZxL a b)∧(((-4611686018427387904:Int)≤(65536:Int)∧(65536:Int)≤(4611686018427387904:Int))∧(((65536:Int)≠(0:Int))∧Q (PV.tup [vI (told (up1 (IntKind.i64.wrap (a *b)) (65536:Int))).fst,vB (told (up1 (IntKind.i64.wrap (a *b)) (65536:Int))).snd])))) else ((ZxL a b)∧Q (PV.tup [vI (told (floor (IntKind.i64.wrap (a *b)) (65536:Int))).fst,vB (told (floor (IntKind.i64.wrap (a *b)) (65536:Int))).snd])))))) (fun _=>by kernel_rfl) ?_
 delta Qn ZxL vI vB
 refine Za (fun h0=>?_) (fun h0=>Za (fun h1=>?_) (fun h1=>Za (fun h2=>⟨?_,⟨?_,⟨?_, ?_⟩⟩⟩) (fun h2=>⟨?_, ?_⟩)))
 ·simp_all[nz,nzA,mul]
 ·simp_all[nz,nzA,mul]
 all_goals simp only[Qf_] at h0 h1
 all_goals have hw:IntKind.i64.wrap (a *b)=a *b:=Zf (by have:=ZhH h0 h1;constructor<;>omega)
 all_goals have hm:=ZhH h0 h1
 ·rw[hw];omega
 ·simp
 ·simp
 ·simp[nz,nzA,mul,rounded,told,hw,h0,h1,h2]
 ·rw[hw];omega
 ·simp[nz,nzA,mul,rounded,told,floor,hw,h0,h1,h2]
theorem ZvX:Zj Tryz.prog 123 Z2Q:=Zk<|Zh fun a=>Zh fun b=>Zh fun up=>EZ0<|by
 refine cf0 (Zb ZhP<|Zb ZvW<|Zg) (fn:=Tryz.f123) rfl ?_
 refine sxT (fun Q=>(bif !inB a then Q (PV.tup [vI 0,vB false]) else (bif !inB b then Q (PV.tup [vI 0,vB false]) else (bif b==(0:Int) then Q (PV.tup [vI 0,vB false]) else (((-4611686018427387904:Int)≤IntKind.i64.wrap (a * (65536:Int))∧IntKind.i64.wrap (a * (65536:Int))≤(4611686018427387904:Int))∧((b≠(0:Int))∧Q (PV.tup [vI (rounded (IntKind.i64.wrap (a * (65536:Int))) b up).fst,vB (rounded (IntKind.i64.wrap (a * (65536:Int))) b up).snd]))))))) (fun _=>by kernel_rfl) ?_
 delta Qn vI vB
 refine Za (fun h0=>?_) (fun h0=>Za (fun h1=>?_) (fun h1=>Za (fun h2=>?_) (fun h2=>⟨?_,⟨?_, ?_⟩⟩)))
 ·simp_all[nz,nzA,div]
 ·simp_all[nz,nzA,div]
 ·simp_all[nz,nzA,div]
 all_goals simp only[Qf_] at h0 h1
 all_goals have ha:=ZL.1 h0
 all_goals have hw:IntKind.i64.wrap (a *65536)=a *65536:=Zf (by constructor<;>omega)
 ·rw[hw];omega
 ·simpa using h2
 ·simp_all[nz,nzA,div]
def ZxM(a:Int):=(-4611686018427387904:Int)≤IntKind.i64.wrap (a * (65536:Int))∧IntKind.i64.wrap (a * (65536:Int))≤(4611686018427387904:Int)
def Zpe(a:Int):=IntKind.i64.wrap (a * (65536:Int))
theorem ZvY:Zj Tryz.prog 171 Z2R:=Zk<|Zh fun a=>Zh fun b=>Zh fun up=>EZ0<|by
 refine cf0 (Zb Zha<|Zb Zpa<|Zb Zpb<|Zb Zkm<|Zg) (fn:=Tryz.f171) rfl ?_
 refine sxT (fun Q=>(bif !inB a then Q (PV.tup [vI 0,vB false]) else (bif !inB b then Q (PV.tup [vI 0,vB false]) else (bif b==(0:Int) then Q (PV.tup [vI 0,vB false]) else (bif up then ((ZxM a)∧(((-4611686018427387904:Int)≤b∧b≤(4611686018427387904:Int))∧((b≠(0:Int))∧Q (PV.tup [vI (told (up1 (Zpe a) b)).fst,vB (told (up1 (Zpe a) b)).snd])))) else ((ZxM a)∧Q (PV.tup [vI (told (floor (Zpe a) b)).fst,vB (told (floor (Zpe a) b)).snd]))))))) (fun _=>by kernel_rfl) ?_
 delta Qn ZxM Zpe vI vB
 refine Za (fun h0=>?_) (fun h0=>Za (fun h1=>?_) (fun h1=>Za (fun h2=>?_) (fun h2=>Za (fun h3=>⟨?_,⟨?_,⟨?_, ?_⟩⟩⟩) (fun h3=>⟨?_, ?_⟩))))
 ·simp_all[nz,nzA,div]
 ·simp_all[nz,nzA,div]
 ·simp_all[nz,nzA,div]
 all_goals simp only[Qf_] at h0 h1
 all_goals have ha:=ZL.1 h0
 all_goals have hb:=ZL.1 h1
 all_goals have hw:IntKind.i64.wrap (a *65536)=a *65536:=Zf (by constructor<;>omega)
 ·rw[hw];omega
 ·omega
 ·simpa using h2
 ·simp_all[nz,nzA,div,rounded,told]
 ·rw[hw];omega
 ·simp_all[nz,nzA,div,rounded,told,floor]
def ZxN(a:Iv)(b:Iv):=of (List.foldl imin (of (mul a.lo b.lo false).fst (mul a.lo b.lo true).fst).lo [(mul a.lo b.lo false).fst]) (List.foldl imax (of (mul a.lo b.lo false).fst (mul a.lo b.lo true).fst).hi [(mul a.lo b.lo true).fst])
def ZxO(a:Iv)(b:Iv):=of (List.foldl imin (ZxN a b).lo [(mul a.lo b.hi false).fst]) (List.foldl imax (ZxN a b).hi [(mul a.lo b.hi true).fst])
def ZfE:=PV.agg [vI 0,vI 0,vB true]
def ZxP(a:Iv)(b:Iv):=of (List.foldl imin (ZxO a b).lo [(mul a.hi b.lo false).fst]) (List.foldl imax (ZxO a b).hi [(mul a.hi b.lo true).fst])
theorem ZvZ(a:Iv)(b:Iv):Con Tryz.prog 122 [.fn 126 [],.agg (Iv.enc a),.agg (Iv.enc b)] (.agg (Iv.enc (ends mul a b))):=by
 refine cf0 (Zb JR<|Zb ZcG<|Zb Zpc<|Zg) (fn:=Tryz.f122) rfl ?_
 refine sxT (fun Q=>(bif !(mul a.lo b.lo false).snd then Q ZfE else (bif !(mul a.lo b.lo true).snd then Q ZfE else (bif !(mul a.lo b.hi false).snd then Q ZfE else (bif !(mul a.lo b.hi true).snd then Q ZfE else (bif !(mul a.hi b.lo false).snd then Q ZfE else (bif !(mul a.hi b.lo true).snd then Q ZfE else (bif !(mul a.hi b.hi false).snd then Q ZfE else (bif !(mul a.hi b.hi true).snd then Q ZfE else Q (PV.agg (eIv (of (List.foldl imin (ZxP a b).lo [(mul a.hi b.hi false).fst]) (List.foldl imax (ZxP a b).hi [(mul a.hi b.hi true).fst]))))))))))))) (fun _=>by kernel_rfl) ?_
 delta Qn ZxO ZxN ZfE ZxP eIv vI vB
 refine Za (fun h0=>?_) (fun h0=>Za (fun h1=>?_) (fun h1=>Za (fun h2=>?_) (fun h2=>Za (fun h3=>?_) (fun h3=>Za (fun h4=>?_) (fun h4=>Za (fun h5=>?_) (fun h5=>Za (fun h6=>?_) (fun h6=>Za (fun h7=>?_) (fun h7=>?_))))))))
 all_goals simp only[Qi_,Qf_] at *
 all_goals first | exact Kk_ (fun e=>PV.agg (Iv.enc e)) (ZhI (by simp[*])) | exact Kk_ (fun e=>PV.agg (Iv.enc e)) (ZjS Zxz h0 h1 h2 h3 h4 h5 h6 h7)
theorem Zwa:Zj Tryz.prog 122 Zl0:=by
 intro args r ps h hp
 unfold Zl0 at h
 split at h
 ·rename_i p1 p2 p3 p4 p5 p6
  cases (Qa_ h)
  exact ZvZ (⟨p1,p2,p3⟩:Iv) (⟨p4,p5,p6⟩:Iv)
 ·exact absurd h (by simp)
def ZxQ(a:Iv)(b:Iv):=of (List.foldl imin (of (div a.lo b.lo false).fst (div a.lo b.lo true).fst).lo [(div a.lo b.lo false).fst]) (List.foldl imax (of (div a.lo b.lo false).fst (div a.lo b.lo true).fst).hi [(div a.lo b.lo true).fst])
def ZxR(a:Iv)(b:Iv):=of (List.foldl imin (ZxQ a b).lo [(div a.lo b.hi false).fst]) (List.foldl imax (ZxQ a b).hi [(div a.lo b.hi true).fst])
def ZfF:=PV.agg [vI 0,vI 0,vB true]
def ZxS(a:Iv)(b:Iv):=of (List.foldl imin (ZxR a b).lo [(div a.hi b.lo false).fst]) (List.foldl imax (ZxR a b).hi [(div a.hi b.lo true).fst])
theorem Zwb(a:Iv)(b:Iv):Con Tryz.prog 122 [.fn 123 [],.agg (Iv.enc a),.agg (Iv.enc b)] (.agg (Iv.enc (ends div a b))):=by
 refine cf0 (Zb JR<|Zb ZcG<|Zb ZvX<|Zg) (fn:=Tryz.f122) rfl ?_
 refine sxT (fun Q=>(bif !(div a.lo b.lo false).snd then Q ZfF else (bif !(div a.lo b.lo true).snd then Q ZfF else (bif !(div a.lo b.hi false).snd then Q ZfF else (bif !(div a.lo b.hi true).snd then Q ZfF else (bif !(div a.hi b.lo false).snd then Q ZfF else (bif !(div a.hi b.lo true).snd then Q ZfF else (bif !(div a.hi b.hi false).snd then Q ZfF else (bif !(div a.hi b.hi true).snd then Q ZfF else Q (PV.agg (eIv (of (List.foldl imin (ZxS a b).lo [(div a.hi b.hi false).fst]) (List.foldl imax (ZxS a b).hi [(div a.hi b.hi true).fst]))))))))))))) (fun _=>by kernel_rfl) ?_
 delta Qn ZxR ZxQ ZfF ZxS eIv vI vB
 refine Za (fun h0=>?_) (fun h0=>Za (fun h1=>?_) (fun h1=>Za (fun h2=>?_) (fun h2=>Za (fun h3=>?_) (fun h3=>Za (fun h4=>?_) (fun h4=>Za (fun h5=>?_) (fun h5=>Za (fun h6=>?_) (fun h6=>Za (fun h7=>?_) (fun h7=>?_))))))))
 all_goals simp only[Qi_,Qf_] at *
 all_goals first | exact Kk_ (fun e=>PV.agg (Iv.enc e)) (ZhI (by simp[*])) | exact Kk_ (fun e=>PV.agg (Iv.enc e)) (ZjS Zx0 h0 h1 h2 h3 h4 h5 h6 h7)
theorem Zwc:Zj Tryz.prog 122 Zl1:=by
 intro args r ps h hp
 unfold Zl1 at h
 split at h
 ·rename_i p1 p2 p3 p4 p5 p6
  cases (Qa_ h)
  exact Zwb (⟨p1,p2,p3⟩:Iv) (⟨p4,p5,p6⟩:Iv)
 ·exact absurd h (by simp)
theorem Zwd:Zj Tryz.prog 122 Z2S:=ZeC Zwa (Zwc)
def Y1:=(2:Int)≠(0:Int)
def Xq(a:Iv)(b:Iv):=mul a.hi b.hi false
def Y2:=PV.agg [vI 0,vI 0,vB true]
def YT(a:Iv)(b:Iv):=mul a.hi b.hi true
def WA(a:Iv)(b:Iv):=mul a.lo b.hi false
def XN(a:Iv)(b:Iv):=mul a.lo b.hi true
def Zne(a:Iv)(b:Iv):=PV.agg (eIv (of (Xq a b).fst (YT a b).fst))
def Znf(a:Iv)(b:Iv)(Q:PV→Prop):Prop:=bif decide ((YT a b).fst > (XN a b).fst) then Q (Zne a b) else Q (PV.agg (eIv (of (Xq a b).fst (XN a b).fst)))
def Zng(a:Iv)(b:Iv):=PV.agg (eIv (of (WA a b).fst (YT a b).fst))
def ZxT(a:Iv)(b:Iv)(Q:PV→Prop):Prop:=Y1∧(Y1∧(bif !(Xq a b).snd then Q Y2 else (bif !(YT a b).snd then Q Y2 else (bif decide ((Xq a b).fst < (WA a b).fst) then (Znf a b Q) else (bif decide ((YT a b).fst > (XN a b).fst) then Q (Zng a b) else Q (PV.agg (eIv (of (WA a b).fst (XN a b).fst))))))))
def WU(a:Iv)(b:Iv):=mul a.hi b.lo true
def Znh(a:Iv)(b:Iv)(Q:PV→Prop):Prop:=bif decide ((YT a b).fst > (WU a b).fst) then Q (Zne a b) else Q (PV.agg (eIv (of (Xq a b).fst (WU a b).fst)))
def Zto(a:Iv)(b:Iv)(Q:PV→Prop):Prop:=bif decide ((XN a b).fst > (WU a b).fst) then (ZxT a b Q) else (Y1∧(Y1∧(bif !(Xq a b).snd then Q Y2 else (bif !(YT a b).snd then Q Y2 else (bif decide ((Xq a b).fst < (WA a b).fst) then (Znh a b Q) else (bif decide ((YT a b).fst > (WU a b).fst) then Q (Zng a b) else Q (PV.agg (eIv (of (WA a b).fst (WU a b).fst)))))))))
def WV(a:Iv)(b:Iv):=mul a.lo b.lo true
def Zni(a:Iv)(b:Iv)(Q:PV→Prop):Prop:=bif decide ((YT a b).fst > (WV a b).fst) then Q (Zne a b) else Q (PV.agg (eIv (of (Xq a b).fst (WV a b).fst)))
def Ztp(a:Iv)(b:Iv)(Q:PV→Prop):Prop:=bif decide ((XN a b).fst > (WV a b).fst) then (ZxT a b Q) else (Y1∧(Y1∧(bif !(Xq a b).snd then Q Y2 else (bif !(YT a b).snd then Q Y2 else (bif decide ((Xq a b).fst < (WA a b).fst) then (Zni a b Q) else (bif decide ((YT a b).fst > (WV a b).fst) then Q (Zng a b) else Q (PV.agg (eIv (of (WA a b).fst (WV a b).fst)))))))))
def Zas(a:Iv)(b:Iv):=mul a.hi b.lo false
def Znj(a:Iv)(b:Iv):=PV.agg (eIv (of (Zas a b).fst (YT a b).fst))
def Ztq(a:Iv)(b:Iv)(Q:PV→Prop):Prop:=Y1∧(Y1∧(bif !(Xq a b).snd then Q Y2 else (bif !(YT a b).snd then Q Y2 else (bif decide ((Xq a b).fst < (Zas a b).fst) then (Znf a b Q) else (bif decide ((YT a b).fst > (XN a b).fst) then Q (Znj a b) else Q (PV.agg (eIv (of (Zas a b).fst (XN a b).fst))))))))
def Zat(a:Iv)(b:Iv):=mul a.lo b.lo false
def Znk(a:Iv)(b:Iv):=PV.agg (eIv (of (Zat a b).fst (YT a b).fst))
def Ztr(a:Iv)(b:Iv)(Q:PV→Prop):Prop:=Y1∧(Y1∧(bif !(Xq a b).snd then Q Y2 else (bif !(YT a b).snd then Q Y2 else (bif decide ((Xq a b).fst < (Zat a b).fst) then (Znf a b Q) else (bif decide ((YT a b).fst > (XN a b).fst) then Q (Znk a b) else Q (PV.agg (eIv (of (Zat a b).fst (XN a b).fst))))))))
theorem Zts(a:Iv)(b:Iv):Con Tryz.prog 148 [.agg (Iv.enc a),.agg (Iv.enc b),.v (.bool false)] (.agg (Iv.enc (ends mul a b))):=by
 refine cf0 (Zb Zpd<|Zb ZvY<|Zb Zbi<|Zb Zcl<|Zg) (fn:=Tryz.f148) rfl ?_
 refine sxT (fun Q=>(Y1∧(Y1∧(bif !(Zat a b).snd then Q Y2 else (bif !(WV a b).snd then Q Y2 else (Y1∧(Y1∧(bif !(Zas a b).snd then Q Y2 else (bif !(WU a b).snd then Q Y2 else (bif decide ((Zas a b).fst < (Zat a b).fst) then (bif decide ((WU a b).fst > (WV a b).fst) then (Y1∧(Y1∧(bif !(WA a b).snd then Q Y2 else (bif !(XN a b).snd then Q Y2 else (bif decide ((WA a b).fst < (Zas a b).fst) then (Zto a b Q) else (bif decide ((XN a b).fst > (WU a b).fst) then (Ztq a b Q) else (Y1∧(Y1∧(bif !(Xq a b).snd then Q Y2 else (bif !(YT a b).snd then Q Y2 else (bif decide ((Xq a b).fst < (Zas a b).fst) then (Znh a b Q) else (bif decide ((YT a b).fst > (WU a b).fst) then Q (Znj a b) else Q (PV.agg (eIv (of (Zas a b).fst (WU a b).fst))))))))))))))) else (Y1∧(Y1∧(bif !(WA a b).snd then Q Y2 else (bif !(XN a b).snd then Q Y2 else (bif decide ((WA a b).fst < (Zas a b).fst) then (Ztp a b Q) else (bif decide ((XN a b).fst > (WV a b).fst) then (Ztq a b Q) else (Y1∧(Y1∧(bif !(Xq a b).snd then Q Y2 else (bif !(YT a b).snd then Q Y2 else (bif decide ((Xq a b).fst < (Zas a b).fst) then (Zni a b Q) else (bif decide ((YT a b).fst > (WV a b).fst) then Q (Znj a b) else Q (PV.agg (eIv (of (Zas a b).fst (WV a b).fst)))))))))))))))) else (bif decide ((WU a b).fst > (WV a b).fst) then (Y1∧(Y1∧(bif !(WA a b).snd then Q Y2 else (bif !(XN a b).snd then Q Y2 else (bif decide ((WA a b).fst < (Zat a b).fst) then (Zto a b Q) else (bif decide ((XN a b).fst > (WU a b).fst) then (Ztr a b Q) else (Y1∧(Y1∧(bif !(Xq a b).snd then Q Y2 else (bif !(YT a b).snd then Q Y2 else (bif decide ((Xq a b).fst < (Zat a b).fst) then (Znh a b Q) else (bif decide ((YT a b).fst > (WU a b).fst) then Q (Znk a b) else Q (PV.agg (eIv (of (Zat a b).fst (WU a b).fst))))))))))))))) else (Y1∧(Y1∧(bif !(WA a b).snd then Q Y2 else (bif !(XN a b).snd then Q Y2 else (bif decide ((WA a b).fst < (Zat a b).fst) then (Ztp a b Q) else (bif decide ((XN a b).fst > (WV a b).fst) then (Ztr a b Q) else (Y1∧(Y1∧(bif !(Xq a b).snd then Q Y2 else (bif !(YT a b).snd then Q Y2 else (bif decide ((Xq a b).fst < (Zat a b).fst) then (Zni a b Q) else (bif decide ((YT a b).fst > (WV a b).fst) then Q (Znk a b) else Q (PV.agg (eIv (of (Zat a b).fst (WV a b).fst)))))))))))))))))))))))))) (fun _=>by kernel_rfl) ?_
 delta Qn ZxT Y2 Znf Zto Ztp Y1 YT Ztq Ztr Znh Zni Xq WA XN Zat Zas WV WU Znj Znk Zng Zne eIv vI vB
 refine ⟨?r43,⟨?r42,Za (fun h0=>?_) (fun h0=>Za (fun h1=>?_) (fun h1=>⟨?r41,⟨?r40,Za (fun h2=>?_) (fun h2=>Za (fun h3=>?_) (fun h3=>Za (fun h4=>Za (fun h5=>⟨?r9,⟨?r8,Za (fun h6=>?_) (fun h6=>Za (fun h7=>?_) (fun h7=>Za (fun h8=>Za (fun h9=>⟨?r1,⟨?r0,Za (fun h10=>?_) (fun h10=>Za (fun h11=>?_) (fun h11=>Za (fun h12=>Za (fun h13=>?_) (fun h13=>?_)) (fun h12=>Za (fun h13=>?_) (fun h13=>?_))))⟩⟩) (fun h9=>⟨?r3,⟨?r2,Za (fun h10=>?_) (fun h10=>Za (fun h11=>?_) (fun h11=>Za (fun h12=>Za (fun h13=>?_) (fun h13=>?_)) (fun h12=>Za (fun h13=>?_) (fun h13=>?_))))⟩⟩)) (fun h8=>Za (fun h9=>⟨?r5,⟨?r4,Za (fun h10=>?_) (fun h10=>Za (fun h11=>?_) (fun h11=>Za (fun h12=>Za (fun h13=>?_) (fun h13=>?_)) (fun h12=>Za (fun h13=>?_) (fun h13=>?_))))⟩⟩) (fun h9=>⟨?r7,⟨?r6,Za (fun h10=>?_) (fun h10=>Za (fun h11=>?_) (fun h11=>Za (fun h12=>Za (fun h13=>?_) (fun h13=>?_)) (fun h12=>Za (fun h13=>?_) (fun h13=>?_))))⟩⟩))))⟩⟩) (fun h5=>⟨?r19,⟨?r18,Za (fun h6=>?_) (fun h6=>Za (fun h7=>?_) (fun h7=>Za (fun h8=>Za (fun h9=>⟨?r11,⟨?r10,Za (fun h10=>?_) (fun h10=>Za (fun h11=>?_) (fun h11=>Za (fun h12=>Za (fun h13=>?_) (fun h13=>?_)) (fun h12=>Za (fun h13=>?_) (fun h13=>?_))))⟩⟩) (fun h9=>⟨?r13,⟨?r12,Za (fun h10=>?_) (fun h10=>Za (fun h11=>?_) (fun h11=>Za (fun h12=>Za (fun h13=>?_) (fun h13=>?_)) (fun h12=>Za (fun h13=>?_) (fun h13=>?_))))⟩⟩)) (fun h8=>Za (fun h9=>⟨?r15,⟨?r14,Za (fun h10=>?_) (fun h10=>Za (fun h11=>?_) (fun h11=>Za (fun h12=>Za (fun h13=>?_) (fun h13=>?_)) (fun h12=>Za (fun h13=>?_) (fun h13=>?_))))⟩⟩) (fun h9=>⟨?r17,⟨?r16,Za (fun h10=>?_) (fun h10=>Za (fun h11=>?_) (fun h11=>Za (fun h12=>Za (fun h13=>?_) (fun h13=>?_)) (fun h12=>Za (fun h13=>?_) (fun h13=>?_))))⟩⟩))))⟩⟩)) (fun h4=>Za (fun h5=>⟨?r29,⟨?r28,Za (fun h6=>?_) (fun h6=>Za (fun h7=>?_) (fun h7=>Za (fun h8=>Za (fun h9=>⟨?r21,⟨?r20,Za (fun h10=>?_) (fun h10=>Za (fun h11=>?_) (fun h11=>Za (fun h12=>Za (fun h13=>?_) (fun h13=>?_)) (fun h12=>Za (fun h13=>?_) (fun h13=>?_))))⟩⟩) (fun h9=>⟨?r23,⟨?r22,Za (fun h10=>?_) (fun h10=>Za (fun h11=>?_) (fun h11=>Za (fun h12=>Za (fun h13=>?_) (fun h13=>?_)) (fun h12=>Za (fun h13=>?_) (fun h13=>?_))))⟩⟩)) (fun h8=>Za (fun h9=>⟨?r25,⟨?r24,Za (fun h10=>?_) (fun h10=>Za (fun h11=>?_) (fun h11=>Za (fun h12=>Za (fun h13=>?_) (fun h13=>?_)) (fun h12=>Za (fun h13=>?_) (fun h13=>?_))))⟩⟩) (fun h9=>⟨?r27,⟨?r26,Za (fun h10=>?_) (fun h10=>Za (fun h11=>?_) (fun h11=>Za (fun h12=>Za (fun h13=>?_) (fun h13=>?_)) (fun h12=>Za (fun h13=>?_) (fun h13=>?_))))⟩⟩))))⟩⟩) (fun h5=>⟨?r39,⟨?r38,Za (fun h6=>?_) (fun h6=>Za (fun h7=>?_) (fun h7=>Za (fun h8=>Za (fun h9=>⟨?r31,⟨?r30,Za (fun h10=>?_) (fun h10=>Za (fun h11=>?_) (fun h11=>Za (fun h12=>Za (fun h13=>?_) (fun h13=>?_)) (fun h12=>Za (fun h13=>?_) (fun h13=>?_))))⟩⟩) (fun h9=>⟨?r33,⟨?r32,Za (fun h10=>?_) (fun h10=>Za (fun h11=>?_) (fun h11=>Za (fun h12=>Za (fun h13=>?_) (fun h13=>?_)) (fun h12=>Za (fun h13=>?_) (fun h13=>?_))))⟩⟩)) (fun h8=>Za (fun h9=>⟨?r35,⟨?r34,Za (fun h10=>?_) (fun h10=>Za (fun h11=>?_) (fun h11=>Za (fun h12=>Za (fun h13=>?_) (fun h13=>?_)) (fun h12=>Za (fun h13=>?_) (fun h13=>?_))))⟩⟩) (fun h9=>⟨?r37,⟨?r36,Za (fun h10=>?_) (fun h10=>Za (fun h11=>?_) (fun h11=>Za (fun h12=>Za (fun h13=>?_) (fun h13=>?_)) (fun h12=>Za (fun h13=>?_) (fun h13=>?_))))⟩⟩))))⟩⟩))))⟩⟩))⟩⟩
 case r0|r1|r2|r3|r4|r5|r6|r7|r8|r9|r10|r11|r12|r13|r14|r15|r16|r17|r18|r19|r20|r21|r22|r23|r24|r25|r26|r27|r28|r29|r30|r31|r32|r33|r34|r35|r36|r37|r38|r39|r40|r41|r42|r43=>decide
 all_goals simp only[Qi_,Qf_,Qc_,Qe_] at *
 all_goals first | exact Kk_ (fun e=>PV.agg (Iv.enc e)) (ZhI (by simp[*])) | exact Kk_ (fun e=>PV.agg (Iv.enc e)) (Zr9 h0 h1 h6 h7 h2 h3 h10 h11 (by omega) (by omega))
theorem Ztt:Zj Tryz.prog 148 ZiG:=by
 intro args r ps h hp
 unfold ZiG at h
 split at h
 ·rename_i p1 p2 p3 p4 p5 p6
  cases (Qa_ h)
  exact Zts (⟨p1,p2,p3⟩:Iv) (⟨p4,p5,p6⟩:Iv)
 ·exact absurd h (by simp)
def Y3:=(2:Int)≠(0:Int)
def Xr(a:Iv)(b:Iv):=div a.hi b.hi false
def Y4:=PV.agg [vI 0,vI 0,vB true]
def YU(a:Iv)(b:Iv):=div a.hi b.hi true
def WB(a:Iv)(b:Iv):=div a.lo b.hi false
def XO(a:Iv)(b:Iv):=div a.lo b.hi true
def Znl(a:Iv)(b:Iv):=PV.agg (eIv (of (Xr a b).fst (YU a b).fst))
def Znm(a:Iv)(b:Iv)(Q:PV→Prop):Prop:=bif decide ((YU a b).fst > (XO a b).fst) then Q (Znl a b) else Q (PV.agg (eIv (of (Xr a b).fst (XO a b).fst)))
def Znn(a:Iv)(b:Iv):=PV.agg (eIv (of (WB a b).fst (YU a b).fst))
def Ztu(a:Iv)(b:Iv)(Q:PV→Prop):Prop:=Y3∧(Y3∧(bif !(Xr a b).snd then Q Y4 else (bif !(YU a b).snd then Q Y4 else (bif decide ((Xr a b).fst < (WB a b).fst) then (Znm a b Q) else (bif decide ((YU a b).fst > (XO a b).fst) then Q (Znn a b) else Q (PV.agg (eIv (of (WB a b).fst (XO a b).fst))))))))
def WW(a:Iv)(b:Iv):=div a.hi b.lo true
def Zno(a:Iv)(b:Iv)(Q:PV→Prop):Prop:=bif decide ((YU a b).fst > (WW a b).fst) then Q (Znl a b) else Q (PV.agg (eIv (of (Xr a b).fst (WW a b).fst)))
def Ztv(a:Iv)(b:Iv)(Q:PV→Prop):Prop:=bif decide ((XO a b).fst > (WW a b).fst) then (Ztu a b Q) else (Y3∧(Y3∧(bif !(Xr a b).snd then Q Y4 else (bif !(YU a b).snd then Q Y4 else (bif decide ((Xr a b).fst < (WB a b).fst) then (Zno a b Q) else (bif decide ((YU a b).fst > (WW a b).fst) then Q (Znn a b) else Q (PV.agg (eIv (of (WB a b).fst (WW a b).fst)))))))))
def WX(a:Iv)(b:Iv):=div a.lo b.lo true
def Znp(a:Iv)(b:Iv)(Q:PV→Prop):Prop:=bif decide ((YU a b).fst > (WX a b).fst) then Q (Znl a b) else Q (PV.agg (eIv (of (Xr a b).fst (WX a b).fst)))
def Ztw(a:Iv)(b:Iv)(Q:PV→Prop):Prop:=bif decide ((XO a b).fst > (WX a b).fst) then (Ztu a b Q) else (Y3∧(Y3∧(bif !(Xr a b).snd then Q Y4 else (bif !(YU a b).snd then Q Y4 else (bif decide ((Xr a b).fst < (WB a b).fst) then (Znp a b Q) else (bif decide ((YU a b).fst > (WX a b).fst) then Q (Znn a b) else Q (PV.agg (eIv (of (WB a b).fst (WX a b).fst)))))))))
def Zau(a:Iv)(b:Iv):=div a.hi b.lo false
def Znq(a:Iv)(b:Iv):=PV.agg (eIv (of (Zau a b).fst (YU a b).fst))
def Ztx(a:Iv)(b:Iv)(Q:PV→Prop):Prop:=Y3∧(Y3∧(bif !(Xr a b).snd then Q Y4 else (bif !(YU a b).snd then Q Y4 else (bif decide ((Xr a b).fst < (Zau a b).fst) then (Znm a b Q) else (bif decide ((YU a b).fst > (XO a b).fst) then Q (Znq a b) else Q (PV.agg (eIv (of (Zau a b).fst (XO a b).fst))))))))
def Zav(a:Iv)(b:Iv):=div a.lo b.lo false
def Znr(a:Iv)(b:Iv):=PV.agg (eIv (of (Zav a b).fst (YU a b).fst))
def Zty(a:Iv)(b:Iv)(Q:PV→Prop):Prop:=Y3∧(Y3∧(bif !(Xr a b).snd then Q Y4 else (bif !(YU a b).snd then Q Y4 else (bif decide ((Xr a b).fst < (Zav a b).fst) then (Znm a b Q) else (bif decide ((YU a b).fst > (XO a b).fst) then Q (Znr a b) else Q (PV.agg (eIv (of (Zav a b).fst (XO a b).fst))))))))
theorem Ztz(a:Iv)(b:Iv):Con Tryz.prog 148 [.agg (Iv.enc a),.agg (Iv.enc b),.v (.bool true)] (.agg (Iv.enc (ends div a b))):=by
 refine cf0 (Zb Zpd<|Zb ZvY<|Zb Zbi<|Zb Zcl<|Zg) (fn:=Tryz.f148) rfl ?_
 refine sxT (fun Q=>(Y3∧(Y3∧(bif !(Zav a b).snd then Q Y4 else (bif !(WX a b).snd then Q Y4 else (Y3∧(Y3∧(bif !(Zau a b).snd then Q Y4 else (bif !(WW a b).snd then Q Y4 else (bif decide ((Zau a b).fst < (Zav a b).fst) then (bif decide ((WW a b).fst > (WX a b).fst) then (Y3∧(Y3∧(bif !(WB a b).snd then Q Y4 else (bif !(XO a b).snd then Q Y4 else (bif decide ((WB a b).fst < (Zau a b).fst) then (Ztv a b Q) else (bif decide ((XO a b).fst > (WW a b).fst) then (Ztx a b Q) else (Y3∧(Y3∧(bif !(Xr a b).snd then Q Y4 else (bif !(YU a b).snd then Q Y4 else (bif decide ((Xr a b).fst < (Zau a b).fst) then (Zno a b Q) else (bif decide ((YU a b).fst > (WW a b).fst) then Q (Znq a b) else Q (PV.agg (eIv (of (Zau a b).fst (WW a b).fst))))))))))))))) else (Y3∧(Y3∧(bif !(WB a b).snd then Q Y4 else (bif !(XO a b).snd then Q Y4 else (bif decide ((WB a b).fst < (Zau a b).fst) then (Ztw a b Q) else (bif decide ((XO a b).fst > (WX a b).fst) then (Ztx a b Q) else (Y3∧(Y3∧(bif !(Xr a b).snd then Q Y4 else (bif !(YU a b).snd then Q Y4 else (bif decide ((Xr a b).fst < (Zau a b).fst) then (Znp a b Q) else (bif decide ((YU a b).fst > (WX a b).fst) then Q (Znq a b) else Q (PV.agg (eIv (of (Zau a b).fst (WX a b).fst)))))))))))))))) else (bif decide ((WW a b).fst > (WX a b).fst) then (Y3∧(Y3∧(bif !(WB a b).snd then Q Y4 else (bif !(XO a b).snd then Q Y4 else (bif decide ((WB a b).fst < (Zav a b).fst) then (Ztv a b Q) else (bif decide ((XO a b).fst > (WW a b).fst) then (Zty a b Q) else (Y3∧(Y3∧(bif !(Xr a b).snd then Q Y4 else (bif !(YU a b).snd then Q Y4 else (bif decide ((Xr a b).fst < (Zav a b).fst) then (Zno a b Q) else (bif decide ((YU a b).fst > (WW a b).fst) then Q (Znr a b) else Q (PV.agg (eIv (of (Zav a b).fst (WW a b).fst))))))))))))))) else (Y3∧(Y3∧(bif !(WB a b).snd then Q Y4 else (bif !(XO a b).snd then Q Y4 else (bif decide ((WB a b).fst < (Zav a b).fst) then (Ztw a b Q) else (bif decide ((XO a b).fst > (WX a b).fst) then (Zty a b Q) else (Y3∧(Y3∧(bif !(Xr a b).snd then Q Y4 else (bif !(YU a b).snd then Q Y4 else (bif decide ((Xr a b).fst < (Zav a b).fst) then (Znp a b Q) else (bif decide ((YU a b).fst > (WX a b).fst) then Q (Znr a b) else Q (PV.agg (eIv (of (Zav a b).fst (WX a b).fst)))))))))))))))))))))))))) (fun _=>by kernel_rfl) ?_
 delta Qn Ztu Y4 Znm Ztv Ztw Y3 YU Ztx Zty Zno Znp Xr WB XO Zav Zau WX WW Znq Znr Znn Znl eIv vI vB
 refine ⟨?r43,⟨?r42,Za (fun h0=>?_) (fun h0=>Za (fun h1=>?_) (fun h1=>⟨?r41,⟨?r40,Za (fun h2=>?_) (fun h2=>Za (fun h3=>?_) (fun h3=>Za (fun h4=>Za (fun h5=>⟨?r9,⟨?r8,Za (fun h6=>?_) (fun h6=>Za (fun h7=>?_) (fun h7=>Za (fun h8=>Za (fun h9=>⟨?r1,⟨?r0,Za (fun h10=>?_) (fun h10=>Za (fun h11=>?_) (fun h11=>Za (fun h12=>Za (fun h13=>?_) (fun h13=>?_)) (fun h12=>Za (fun h13=>?_) (fun h13=>?_))))⟩⟩) (fun h9=>⟨?r3,⟨?r2,Za (fun h10=>?_) (fun h10=>Za (fun h11=>?_) (fun h11=>Za (fun h12=>Za (fun h13=>?_) (fun h13=>?_)) (fun h12=>Za (fun h13=>?_) (fun h13=>?_))))⟩⟩)) (fun h8=>Za (fun h9=>⟨?r5,⟨?r4,Za (fun h10=>?_) (fun h10=>Za (fun h11=>?_) (fun h11=>Za (fun h12=>Za (fun h13=>?_) (fun h13=>?_)) (fun h12=>Za (fun h13=>?_) (fun h13=>?_))))⟩⟩) (fun h9=>⟨?r7,⟨?r6,Za (fun h10=>?_) (fun h10=>Za (fun h11=>?_) (fun h11=>Za (fun h12=>Za (fun h13=>?_) (fun h13=>?_)) (fun h12=>Za (fun h13=>?_) (fun h13=>?_))))⟩⟩))))⟩⟩) (fun h5=>⟨?r19,⟨?r18,Za (fun h6=>?_) (fun h6=>Za (fun h7=>?_) (fun h7=>Za (fun h8=>Za (fun h9=>⟨?r11,⟨?r10,Za (fun h10=>?_) (fun h10=>Za (fun h11=>?_) (fun h11=>Za (fun h12=>Za (fun h13=>?_) (fun h13=>?_)) (fun h12=>Za (fun h13=>?_) (fun h13=>?_))))⟩⟩) (fun h9=>⟨?r13,⟨?r12,Za (fun h10=>?_) (fun h10=>Za (fun h11=>?_) (fun h11=>Za (fun h12=>Za (fun h13=>?_) (fun h13=>?_)) (fun h12=>Za (fun h13=>?_) (fun h13=>?_))))⟩⟩)) (fun h8=>Za (fun h9=>⟨?r15,⟨?r14,Za (fun h10=>?_) (fun h10=>Za (fun h11=>?_) (fun h11=>Za (fun h12=>Za (fun h13=>?_) (fun h13=>?_)) (fun h12=>Za (fun h13=>?_) (fun h13=>?_))))⟩⟩) (fun h9=>⟨?r17,⟨?r16,Za (fun h10=>?_) (fun h10=>Za (fun h11=>?_) (fun h11=>Za (fun h12=>Za (fun h13=>?_) (fun h13=>?_)) (fun h12=>Za (fun h13=>?_) (fun h13=>?_))))⟩⟩))))⟩⟩)) (fun h4=>Za (fun h5=>⟨?r29,⟨?r28,Za (fun h6=>?_) (fun h6=>Za (fun h7=>?_) (fun h7=>Za (fun h8=>Za (fun h9=>⟨?r21,⟨?r20,Za (fun h10=>?_) (fun h10=>Za (fun h11=>?_) (fun h11=>Za (fun h12=>Za (fun h13=>?_) (fun h13=>?_)) (fun h12=>Za (fun h13=>?_) (fun h13=>?_))))⟩⟩) (fun h9=>⟨?r23,⟨?r22,Za (fun h10=>?_) (fun h10=>Za (fun h11=>?_) (fun h11=>Za (fun h12=>Za (fun h13=>?_) (fun h13=>?_)) (fun h12=>Za (fun h13=>?_) (fun h13=>?_))))⟩⟩)) (fun h8=>Za (fun h9=>⟨?r25,⟨?r24,Za (fun h10=>?_) (fun h10=>Za (fun h11=>?_) (fun h11=>Za (fun h12=>Za (fun h13=>?_) (fun h13=>?_)) (fun h12=>Za (fun h13=>?_) (fun h13=>?_))))⟩⟩) (fun h9=>⟨?r27,⟨?r26,Za (fun h10=>?_) (fun h10=>Za (fun h11=>?_) (fun h11=>Za (fun h12=>Za (fun h13=>?_) (fun h13=>?_)) (fun h12=>Za (fun h13=>?_) (fun h13=>?_))))⟩⟩))))⟩⟩) (fun h5=>⟨?r39,⟨?r38,Za (fun h6=>?_) (fun h6=>Za (fun h7=>?_) (fun h7=>Za (fun h8=>Za (fun h9=>⟨?r31,⟨?r30,Za (fun h10=>?_) (fun h10=>Za (fun h11=>?_) (fun h11=>Za (fun h12=>Za (fun h13=>?_) (fun h13=>?_)) (fun h12=>Za (fun h13=>?_) (fun h13=>?_))))⟩⟩) (fun h9=>⟨?r33,⟨?r32,Za (fun h10=>?_) (fun h10=>Za (fun h11=>?_) (fun h11=>Za (fun h12=>Za (fun h13=>?_) (fun h13=>?_)) (fun h12=>Za (fun h13=>?_) (fun h13=>?_))))⟩⟩)) (fun h8=>Za (fun h9=>⟨?r35,⟨?r34,Za (fun h10=>?_) (fun h10=>Za (fun h11=>?_) (fun h11=>Za (fun h12=>Za (fun h13=>?_) (fun h13=>?_)) (fun h12=>Za (fun h13=>?_) (fun h13=>?_))))⟩⟩) (fun h9=>⟨?r37,⟨?r36,Za (fun h10=>?_) (fun h10=>Za (fun h11=>?_) (fun h11=>Za (fun h12=>Za (fun h13=>?_) (fun h13=>?_)) (fun h12=>Za (fun h13=>?_) (fun h13=>?_))))⟩⟩))))⟩⟩))))⟩⟩))⟩⟩
 case r0|r1|r2|r3|r4|r5|r6|r7|r8|r9|r10|r11|r12|r13|r14|r15|r16|r17|r18|r19|r20|r21|r22|r23|r24|r25|r26|r27|r28|r29|r30|r31|r32|r33|r34|r35|r36|r37|r38|r39|r40|r41|r42|r43=>decide
 all_goals simp only[Qi_,Qf_,Qc_,Qe_] at *
 all_goals first | exact Kk_ (fun e=>PV.agg (Iv.enc e)) (ZhI (by simp[*])) | exact Kk_ (fun e=>PV.agg (Iv.enc e)) (Zr9 h0 h1 h6 h7 h2 h3 h10 h11 (by omega) (by omega))
theorem Zt0:Zj Tryz.prog 148 ZiH:=by
 intro args r ps h hp
 unfold ZiH at h
 split at h
 ·rename_i p1 p2 p3 p4 p5 p6
  cases (Qa_ h)
  exact Ztz (⟨p1,p2,p3⟩:Iv) (⟨p4,p5,p6⟩:Iv)
 ·exact absurd h (by simp)
theorem Zwe:Zj Tryz.prog 148 Z2T:=ZeC Ztt (Zt0)
def Z1n:=YY [(86,e86)]
def Zt1(bit:Int)(r:Int):=BitVec.ofInt (64:Nat) r||| BitVec.ofInt (64:Nat) (IntKind.i64.wrap ((1:Int)* (2:Int) ^ min bit.toNat (64:Nat)))
theorem ZrJ:CSOk Tryz.prog Z1n:=Zb ZhP<|Zg
theorem Zwf:Yl Tryz.prog (Z9 Tryz.f182 0) ZoR:=by
 refine lsG Zs.Γ (ZF Zs ZrJ ZR ZS ZX (LS:=[]) (Yo (l:=[]) (by kernel_rfl) Z2) (n:=2000) (U4 ZxG) (U4 Zb3) (fun x e s=>(e= .exit 0∧s=U4 Zds x)) (fun x=>(x.1+1).toNat) ZoQ ZvF ZvG (fun x hx=>?_)) cv4 (fun _=>rfl) (fun _ h=>h) (fun _ _ _ _ h f=>fE h f)
 ·obtain ⟨bit,n,r,up⟩:=x
  simp only[U4,Zb3] at hx
  refine sxT (fun Q=>(bif decide (bit≥(0:Int)) then (((0:Int)≤bit)∧(bif decide (IntKind.i64.wrap (IntKind.i64.wrap ↑(Zt1 bit r).toNat *IntKind.i64.wrap ↑(Zt1 bit r).toNat)≤n) then Q (Ex.normal) (some ⟨44,[(8,AV.p (vI (IntKind.i64.wrap (bit - (1:Int))))),(6,pI n),(7,AV.p (vI (IntKind.i64.wrap ↑(Zt1 bit r).toNat))),(1,AV.p (vB up))],[],[],[],[]⟩) else Q (Ex.normal) (some ⟨44,[(8,AV.p (vI (IntKind.i64.wrap (bit - (1:Int))))),(6,pI n),(7,pI r),(1,AV.p (vB up))],[],[],[],[]⟩))) else Q (Ex.exit (0:Nat)) (some ⟨44,[(7,pI r),(6,pI n),(1,AV.p (vB up))],[],[],[],[]⟩))) (fun _=>by kernel_rfl) ?_
  delta Zt1 vI vB pI
  refine Za (fun h0=>⟨?r0,Za (fun h1=> .inl ⟨rfl,(IntKind.i64.wrap (bit - (1:Int)),n,IntKind.i64.wrap ↑(BitVec.ofInt (64:Nat) r||| BitVec.ofInt (64:Nat) (IntKind.i64.wrap ((1:Int)* (2:Int) ^ min bit.toNat (64:Nat)))).toNat,up),rfl, ?_, ?_, ?_⟩) (fun h1=> .inl ⟨rfl,(IntKind.i64.wrap (bit - (1:Int)),n,r,up),rfl, ?_, ?_, ?_⟩)⟩) (fun h0=> .inr ⟨by simp,_,rfl, ?_⟩)
  case r0=>first | rfl | (simp only[YH,dI,dIv];omega) | (simp[Zi,chunk];done) | (simp only[YH,dI,dIv];done) | (exact Zv (fun _=>rfl) (by omega) (by omega)) | (simp only[Qc_,Qk_] at *;exact Zv (fun _=>rfl) (by omega) (by omega)) | assumption | trivial | (simp_all;done) | omega
  all_goals try dsimp only[U4]
  all_goals obtain ⟨a1,a2,a3,a4⟩:=hx
  all_goals simp only[Qc_,Qe_] at h0
  ·have hm:=Zlu h0 a1.2 a3 a4
   obtain ⟨k1,k2,k3,k4,k5,k6⟩:=XM h0 a3
   simp only[hm,Zf k5,Qc_] at h1
   simp only[U4,hm,Zf (show Fit (bit - 1) by constructor<;>omega),Zb3,k1]
   exact ⟨by omega,a2,by omega,Int.dvd_add (Int.dvd_trans ⟨2,by rw[k4];omega⟩ a4) (Int.dvd_refl _)⟩
  ·simp only[Zf (show Fit (bit - 1) by constructor<;>omega)];omega
  ·have hm:=Zlu h0 a1.2 a3 a4
   obtain ⟨k1,k2,k3,k4,k5,k6⟩:=XM h0 a3
   simp only[hm,Zf k5,Qc_] at h1
   simp only[U4,hm,Zf (show Fit (bit - 1) by constructor<;>omega),Zds,k1,k2]
   intro e s h
   unfold ZH
   rw[if_pos h1]
   exact h
  ·obtain ⟨k1,k2,k3,k4,k5,k6⟩:=XM h0 a3
   simp only[U4,Zf (show Fit (bit - 1) by constructor<;>omega),Zb3,k1]
   exact ⟨by omega,a2,by omega,Int.dvd_trans ⟨2,by rw[k4];omega⟩ a4⟩
  ·simp only[Zf (show Fit (bit - 1) by constructor<;>omega)];omega
  ·have hm:=Zlu h0 a1.2 a3 a4
   obtain ⟨k1,k2,k3,k4,k5,k6⟩:=XM h0 a3
   simp only[hm,Zf k5,Qe_] at h1
   simp only[U4,Zf (show Fit (bit - 1) by constructor<;>omega),Zds,k1,k2]
   intro e s h
   unfold ZH
   rw[if_neg h1]
   exact h
  ·have:(bit+1).toNat=0:=by omega
   exact ⟨rfl,by simp only[U4,Zds];rw[this];rfl⟩
theorem ZxU:ZQ Tryz.prog [(6,ZoR)] Tryz.f182:=ZM (l:=[Z9 Tryz.f182 0]) (by kernel_rfl) (Ya (i:=6) (by kernel_rfl) rfl Zwf (Z2))
def ZiX(a:Int):=IntKind.i64.wrap (a * (65536:Int))
theorem Z1o:Zj Tryz.prog 182 Z2U:=Zk<|Zh fun a=>Zh fun up=>EZ0<|by
 refine cfL ZrJ ZxU rfl ?_
 refine sxT (fun Q=>(bif decide (a < (0:Int)) then Q (PV.tup [vI 0,vB false]) else (bif !inB a then Q (PV.tup [vI 0,vB false]) else ((Zb3 (24:Int) (ZiX a) (0:Int) up)∧(bif up then (bif decide (IntKind.i64.wrap (ZH (25:Nat) (ZiX a) (0:Int)*ZH (25:Nat) (ZiX a) (0:Int)) < IntKind.i64.wrap (a * (65536:Int))) then Q (PV.tup [vI (IntKind.i64.wrap (ZH (25:Nat) (ZiX a) (0:Int)+(1:Int))),vB true]) else Q (PV.tup [vI (ZH (25:Nat) (ZiX a) (0:Int)),vB true])) else Q (PV.tup [vI (ZH (25:Nat) (ZiX a) (0:Int)),vB true])))))) (fun _=>by kernel_rfl) ?_
 delta Qn ZiX vI vB
 refine Za (fun h0=>?_) (fun h0=>Za (fun h1=>?_) (fun h1=>⟨?_,Za (fun h2=>Za (fun h3=>?_) (fun h3=>?_)) (fun h2=>?_)⟩))
 ·simp only[Qc_] at h0
  have:decide (0≤a)=false:=by simp;omega
  simp only[root,this,Qn_,Qd_];rfl
 ·simp_all[nz,nzA,root]
 all_goals simp only[Qf_,Qe_,ZL] at h0 h1
 all_goals try rw[Zf (show Fit (a *65536) by constructor<;>omega)] at *
 ·exact ⟨by omega,by omega,by simp,by simp⟩
 all_goals rw[Zx1 (by omega)] at *
 all_goals have hf:=Zi9 (n:=a *65536)
 all_goals have hb:inB a=true:=ZL.2 h1
 all_goals have h00:decide (0≤a)=true:=by simp;omega
 ·rw[Zf ZhJ] at h3
  rw[Zf (by constructor<;>omega)]
  simp only[root,hb,h2,h3,h00,QZ_,Qb_];rfl
 ·rw[Zf ZhJ] at h3
  simp only[root,hb,h2,h3,h00,QZ_,Qb_,Qd_,Qn_];rfl
 ·simp only[root,hb,h2,h00,QZ_,Qb_,Qd_,Ql_];rfl
def Z0c:=YY [(140,Z0R),(170,Z0S)]
def Zt2(bit:Int)(r:Int):=r+IntKind.i64.wrap ((1:Int)* (2:Int) ^ min (IntKind.u64.wrap bit).toNat (64:Nat))
theorem Zpf:CSOk Tryz.prog Z0c:=Zb Zha<|Zb Zpb<|Zg
theorem Zt3:Yl Tryz.prog (Z9 Tryz.f172 0) Zmf:=by
 refine lsG Zs.Γ (ZF Zs Zpf ZR ZS ZX (LS:=[]) (Yo (l:=[]) (by kernel_rfl) Z2) (n:=2000) (U4 ZvH) (U4 ZaC) (fun x e s=>(e= .exit 0∧s=U4 Zch x)) (fun x=>(x.1+1).toNat) Zme ZsZ Zta (fun x hx=>?_)) cv4 (fun _=>rfl) (fun _ h=>h) (fun _ _ _ _ h f=>fE h f)
 ·obtain ⟨bit,n,r,up⟩:=x
  simp only[U4,ZaC] at hx
  refine sxT (fun Q=>(bif decide (bit≥(0:Int)) then (((0:Int)≤IntKind.u64.wrap bit)∧(bif decide (IntKind.i64.wrap (IntKind.i64.wrap (Zt2 bit r)*IntKind.i64.wrap (Zt2 bit r))≤n) then Q (Ex.normal) (some ⟨48,[(8,AV.p (vI (IntKind.i64.wrap (bit - (1:Int))))),(6,pI n),(7,AV.p (vI (IntKind.i64.wrap (Zt2 bit r)))),(1,AV.p (vB up))],[],[],[],[]⟩) else Q (Ex.normal) (some ⟨48,[(8,AV.p (vI (IntKind.i64.wrap (bit - (1:Int))))),(6,pI n),(7,pI r),(1,AV.p (vB up))],[],[],[],[]⟩))) else Q (Ex.exit (0:Nat)) (some ⟨48,[(7,pI r),(6,pI n),(1,AV.p (vB up))],[],[],[],[]⟩))) (fun _=>by kernel_rfl) ?_
  delta Zt2 vI vB pI
  refine Za (fun h0=>⟨?r0,Za (fun h1=> .inl ⟨rfl,(IntKind.i64.wrap (bit - (1:Int)),n,IntKind.i64.wrap (r+IntKind.i64.wrap ((1:Int)* (2:Int) ^ min (IntKind.u64.wrap bit).toNat (64:Nat))),up),rfl, ?_, ?_, ?_⟩) (fun h1=> .inl ⟨rfl,(IntKind.i64.wrap (bit - (1:Int)),n,r,up),rfl, ?_, ?_, ?_⟩)⟩) (fun h0=> .inr ⟨by simp,_,rfl, ?_⟩)
  case r0=>show (0:Int)≤IntKind.u64.wrap _;have hx0:=hx;simp only[Qc_] at h0;have hu:IntKind.u64.wrap bit=bit:=(by simp[IntKind.wrap,IntKind.bits,IntKind.signed];omega);omega
  all_goals try dsimp only[U4]
  all_goals try obtain ⟨a1,a2,a3⟩:=hx
  all_goals try simp only[Qc_,Qe_] at h0
  all_goals try have hu:IntKind.u64.wrap bit=bit:=by simp[IntKind.wrap,IntKind.bits,IntKind.signed];omega
  ·have hm:=Zlv h0 a1.2 a3
   obtain ⟨k1,k2,k3,k4,k5,k6⟩:=XM h0 a3
   simp only[hu,hm,Zf (show Fit (r+2 ^ bit.toNat) by constructor<;>omega),Zf k5,Qc_] at h1
   simp only[U4,hu,hm,Zf (show Fit (r+2 ^ bit.toNat) by constructor<;>omega),Zf (show Fit (bit - 1) by constructor<;>omega),ZaC,k1]
   exact ⟨by omega,a2,by omega⟩
  ·simp only[Zf (show Fit (bit - 1) by constructor<;>omega)];omega
  ·have hm:=Zlv h0 a1.2 a3
   obtain ⟨k1,k2,k3,k4,k5,k6⟩:=XM h0 a3
   simp only[hu,hm,Zf (show Fit (r+2 ^ bit.toNat) by constructor<;>omega),Zf k5,Qc_] at h1
   simp only[U4,hu,hm,Zf (show Fit (r+2 ^ bit.toNat) by constructor<;>omega),Zf (show Fit (bit - 1) by constructor<;>omega),Zch,k1,k2]
   intro e s h
   unfold ZH
   rw[if_pos h1]
   exact h
  ·obtain ⟨k1,k2,k3,k4,k5,k6⟩:=XM h0 a3
   simp only[U4,Zf (show Fit (bit - 1) by constructor<;>omega),ZaC,k1]
   exact ⟨by omega,a2,by omega⟩
  ·simp only[Zf (show Fit (bit - 1) by constructor<;>omega)];omega
  ·have hm:=Zlv h0 a1.2 a3
   obtain ⟨k1,k2,k3,k4,k5,k6⟩:=XM h0 a3
   simp only[hu,hm,Zf (show Fit (r+2 ^ bit.toNat) by constructor<;>omega),Zf k5,Qe_] at h1
   simp only[U4,Zf (show Fit (bit - 1) by constructor<;>omega),Zch,k1,k2]
   intro e s h
   unfold ZH
   rw[if_neg h1]
   exact h
  ·have:(bit+1).toNat=0:=by omega
   exact ⟨rfl,by simp only[U4,Zch];rw[this];rfl⟩
theorem Zwg:ZQ Tryz.prog [(7,Zmf)] Tryz.f172:=ZM (l:=[Z9 Tryz.f172 0]) (by kernel_rfl) (Ya (i:=7) (by kernel_rfl) rfl Zt3 (Z2))
def ZiY(a:Int):=IntKind.i64.wrap (a * (65536:Int))
def ZxV(a:Int):=PV.tup [vI (told (ZH (24:Nat) (ZiY a) (0:Int))).fst,vB (told (ZH (24:Nat) (ZiY a) (0:Int))).snd]
def ZxW(a:Int):=told (IntKind.i64.wrap (ZH (24:Nat) (ZiY a) (0:Int)+(1:Int)))
theorem Z1p:Zj Tryz.prog 172 Z2V:=Zk<|Zh fun a=>Zh fun up=>EZ0<|by
 refine cfL Zpf Zwg rfl ?_
 refine sxT (fun Q=>(bif !inB a then Q (PV.tup [vI 0,vB false]) else (bif decide (a < (0:Int)) then Q (PV.tup [vI 0,vB false]) else ((ZaC (23:Int) (ZiY a) (0:Int) up)∧(bif up then (bif IntKind.i64.wrap (ZH (24:Nat) (ZiY a) (0:Int)*ZH (24:Nat) (ZiY a) (0:Int))!=IntKind.i64.wrap (a * (65536:Int)) then Q (PV.tup [vI (ZxW a).fst,vB (ZxW a).snd]) else Q (ZxV a)) else Q (ZxV a)))))) (fun _=>by kernel_rfl) ?_
 delta Qn ZiY ZxV ZxW vI vB
 refine Za (fun h0=>?_) (fun h0=>Za (fun h1=>?_) (fun h1=>⟨?_,Za (fun h2=>Za (fun h3=>?_) (fun h3=>?_)) (fun h2=>?_)⟩))
 ·simp_all[nz,nzA,root]
 ·simp only[Qc_] at h1
  have:decide (0≤a)=false:=by simp;omega
  simp only[root,this,Qn_,Qd_];rfl
 all_goals simp only[Qf_,Qe_,ZL] at h0 h1
 all_goals try rw[Zf (show Fit (a *65536) by constructor<;>omega)] at *
 ·exact ⟨by omega,by omega,by simp⟩
 all_goals have hf:=Zi9 (n:=a *65536)
 all_goals have hb:inB a=true:=ZL.2 h0
 all_goals have h00:decide (0≤a)=true:=by simp;omega
 all_goals have hb2:inB (ZH 24 (a *65536) 0)=true:=ZL.2 (by omega)
 all_goals have hb3:inB (ZH 24 (a *65536) 0+1)=true:=ZL.2 (by omega)
 all_goals have hsq:=Zx2 (n:=a *65536) (by omega)
 ·rw[Zf ZhJ] at h3
  have h4:decide (ZH 24 (a *65536) 0 *ZH 24 (a *65536) 0 < a *65536)=true:=by simp at h3 ⊢;omega
  rw[Zf (by constructor<;>omega)]
  simp only[root,told,hb,hb3,h2,h4,h00,QZ_,Qb_];rfl
 ·rw[Zf ZhJ] at h3
  have h4:decide (ZH 24 (a *65536) 0 *ZH 24 (a *65536) 0 < a *65536)=false:=by simp at h3 ⊢;omega
  simp only[root,told,hb,hb2,h2,h4,h00,QZ_,Qb_,Qd_,Qn_];rfl
 ·simp only[root,told,hb,hb2,h2,h00,QZ_,Qb_,Qd_,Ql_];rfl
theorem Zpg:CSOk Tryz.prog (YY []):=Zg
theorem Zt4:Yl Tryz.prog (Z9 Tryz.f116 0) Zmi:=by
 refine lsG Zs.Γ (ZF Zs Zpg ZR ZS ZX (LS:=[]) (Yo (l:=[]) (by kernel_rfl) Z2) (n:=2000) (U3 ZvI) (U3 Zci) (fun x e s=>(e= .exit 0∧s=U3 Zmh x)) (fun x=>(x.2.2 - x.1).toNat) Zmg Ztb Ztc (fun x hx=>?_)) cv3 (fun _=>rfl) (fun _ h=>h) (fun _ _ _ _ h f=>fE h f)
 ·obtain ⟨i,out,n⟩:=x
  simp only[U3,Zci] at hx
  refine sxT (fun Q=>(bif decide (i < n) then Q (Ex.normal) (some ⟨11,[(5,AV.p (vI (IntKind.i64.wrap (i+(1:Int))))),(3,AV.p (vI (IntKind.i64.wrap (out * (10:Int))))),(4,pI n)],[],[],[],[]⟩) else Q (Ex.exit (0:Nat)) (some ⟨11,[(3,pI out)],[],[],[],[]⟩))) (fun _=>by kernel_rfl) ?_
  delta vI pI
  refine Za (fun h0=> .inl ⟨rfl,(IntKind.i64.wrap (i+(1:Int)),IntKind.i64.wrap (out * (10:Int)),n),rfl, ?_, ?_, ?_⟩) (fun h0=> .inr ⟨by simp,_,rfl, ?_⟩)
  all_goals try dsimp only[U3]
  all_goals obtain ⟨a1,a2,a3,a4⟩:=hx
  all_goals simp only[Qc_,Qe_] at h0
  ·have hw:IntKind.i64.wrap (i+1)=i+1:=Zf (by constructor<;>omega)
   have h1:=Jx i
   have h2:=Zi7 (i:=i+1) (by omega)
   rw[Zfx a1] at h2
   rw[hw,Zf (by constructor<;>omega)]
   simp only[U3,Zci]
   exact ⟨by omega,by omega,a3,by rw[a4,Zfx a1]⟩
  ·show (n - IntKind.i64.wrap (i+1)).toNat < (n - i).toNat
   rw[Zf (by constructor<;>omega)];omega
  ·exact fun e s h=>h
  ·have:i=n:=by omega
   subst this
   exact ⟨rfl,by rw[a4];rfl⟩
theorem Zwh:ZQ Tryz.prog [(4,Zmi)] Tryz.f116:=ZM (l:=[Z9 Tryz.f116 0]) (by kernel_rfl) (Ya (i:=4) (by kernel_rfl) rfl Zt4 (Z2))
theorem Zwi:Zj Tryz.prog 116 Z2W:=Zk<|Zh fun n=>EZ1 fun hp0=>by
 refine cfL Zpg Zwh rfl ?_
 refine sxT (fun Q=>((Zci (0:Int) (1:Int) n)∧Q (vI (Zz n)))) (fun _=>by kernel_rfl) ?_
 delta Qn vI
 refine ⟨?_, ?_⟩
 ·exact ⟨by omega,hp0.1,hp0.2,rfl⟩
 ·rfl
theorem Zwj:CSOk Tryz.prog (YY []):=Zg
theorem ZxX:Yl Tryz.prog (Z9 Tryz.f47 0) ZrI:=by
 refine lsG Zs.Γ (ZF Zs Zwj ZR ZS ZX (LS:=[]) (Yo (l:=[]) (by kernel_rfl) Z2) (n:=2000) (U2 Z0a) (U2 ZhO) (fun x e s=>(e= .exit 0∧s=U2 ZhN x)) (fun x=>x.1.toNat) ZrH ZxH ZxI (fun x hx=>?_)) cv2 (fun _=>rfl) (fun _ h=>h) (fun _ _ _ _ h f=>fE h f)
 ·obtain ⟨k,out⟩:=x
  simp only[U2,ZhO] at hx
  refine sxT (fun Q=>(bif decide (k > (0:Int)) then Q (Ex.normal) (some ⟨11,[(0,AV.p (vI (IntKind.i64.wrap (k - (1:Int))))),(3,AV.p (vI (IntKind.i64.wrap ((10:Int)*out))))],[],[],[],[]⟩) else Q (Ex.exit (0:Nat)) (some ⟨11,[(3,pI out)],[],[],[],[]⟩))) (fun _=>by kernel_rfl) ?_
  delta vI pI
  refine Za (fun h0=> .inl ⟨rfl,(IntKind.i64.wrap (k - (1:Int)),IntKind.i64.wrap ((10:Int)*out)),rfl, ?_, ?_, ?_⟩) (fun h0=> .inr ⟨by simp,_,rfl, ?_⟩)
  all_goals try dsimp only[U2]
  all_goals obtain ⟨a1,a2⟩:=hx
  all_goals simp only[Qc_,Qe_] at h0
  all_goals try have e1:out *10 *Zz (k - 1)=out *Zz k:=by rw[Int.mul_assoc,Int.mul_comm 10,←Zfx (by omega),Int.sub_add_cancel]
  all_goals try have e2:out *10≤out *10 *Zz (k - 1):=by have:=Int.mul_le_mul_of_nonneg_left (Jx (k - 1)) (show 0≤out *10 by omega);omega
  all_goals try rw[Zf (show Fit (k - 1) by constructor<;>omega)]
  ·rw[Zf (by constructor<;>omega)]
   exact ⟨by omega,by omega,by rw[Int.mul_comm 10 out,e1];exact a2.2⟩
  ·(try simp only);omega
  ·rw[Zf (by constructor<;>omega)]
   intro e s h
   simp only[U2,ZhN] at h ⊢
   rw[Int.mul_comm 10 out,e1] at h
   exact h
  ·have:k=0:=by omega
   subst this
   exact ⟨rfl,by simp[U2,pI,vI,vB,Iv.enc,Dec.enc,ZhN,Zz]⟩
theorem Z0d:ZQ Tryz.prog [(3,ZrI)] Tryz.f47:=ZM (l:=[Z9 Tryz.f47 0]) (by kernel_rfl) (Ya (i:=3) (by kernel_rfl) rfl ZxX (Z2))
theorem Zt5:Zj Tryz.prog 47 e47:=Zk<|Zh fun n=>EZ1 fun hp0=>by
 refine cfL Zwj Z0d rfl ?_
 refine sxT (fun Q=>((ZhO n (1:Int))∧Q (vI ((1:Int)*Zz n)))) (fun _=>by kernel_rfl) ?_
 delta Qn vI
 refine ⟨?_, ?_⟩
 ·exact ⟨hp0,by have:=Zi7 hp0.2;omega⟩
 ·simp[nz,nzA]
theorem Zwk(a:Iv)(b:Iv):Con Tryz.prog 66 [.agg (Iv.enc a),.agg (Iv.enc b)] (.agg (Iv.enc (Wi a b))):=by
 refine cf0 (Zb Ztn<|Zb JR<|Zb Zwd<|Zb Zpc<|Zg) (fn:=Tryz.f66) rfl ?_
 refine sxT (fun Q=>(bif !both a b then Q (PV.agg [vI 0,vI 0,vB true]) else Q (PV.agg (eIv (ends mul a b))))) (fun _=>by kernel_rfl) ?_
 delta Qn eIv vI vB
 refine Za (fun h0=>?_) (fun h0=>?_)
 all_goals (try simp only[Qi_,Qf_,bne] at *)
 all_goals (simp only[Wi,Zu,Zr,List.foldl,Qr_,Qp_,Ql_,Qn_,Q5_,Q4_,Qw_,Q3_,Qu_,Qt_,Qb_,Qd_,QD_,Q8_, *];first | rfl | (simp only[nz,nzA,nz1,QE_,QN_,Iv.enc,V.enc,Ray.enc, *];first | done | rfl))
theorem Z2d:Zj Tryz.prog 66 e66:=Zk<|Zh fun a=>Zh fun b=>EZ0<|Zwk a b
theorem Z1q:Zj Tryz.prog 111 Z2X:=Zk<|Zh fun a=>Zh fun b=>EZ0<|by
 refine cf0 (Zb Zeg<|Zb Zbi<|Zb Zwe<|Zg) (fn:=Tryz.f111) rfl ?_
 refine sxT (fun Q=>(bif !right a then Q (PV.agg [vI 0,vI 0,vB true]) else (bif !right b then Q (PV.agg [vI 0,vI 0,vB true]) else Q (PV.agg (eIv (ends mul a b)))))) (fun _=>by kernel_rfl) ?_
 delta Qn eIv vI vB
 refine Za (fun h0=>?_) (fun h0=>Za (fun h1=>?_) (fun h1=>?_))
 all_goals (try simp only[Qi_,Qf_,bne] at *)
 all_goals (simp only[Wi,both,Zu,Zr,List.foldl,Qr_,Qp_,Ql_,Qn_,Q5_,Q4_,Qw_,Q3_,Qu_,Qt_,Qb_,Qd_,QD_,Q8_, *];first | rfl | (simp only[nz,nzA,nz1,QE_,QN_,Iv.enc,V.enc,Ray.enc, *];first | done | rfl))
theorem Zt6:Zj Tryz.prog 63 e63:=Zk<|Zh fun a=>Zh fun b=>EZ0<|by
 refine cf0 (Zb Ztn<|Zb Z1m<|Zb JR<|Zb Zwd<|Zb ZvX<|Zg) (fn:=Tryz.f63) rfl ?_
 refine sxT (fun Q=>(bif !both a b then Q (PV.agg [vI 0,vI 0,vB true]) else (bif Men.has b (0:Int) then Q (PV.agg [vI 0,vI 0,vB true]) else Q (PV.agg (eIv (ends div a b)))))) (fun _=>by kernel_rfl) ?_
 delta Qn eIv vI vB
 refine Za (fun h0=>?_) (fun h0=>Za (fun h1=>?_) (fun h1=>?_))
 all_goals (try simp only[Qi_,Qf_,bne] at *)
 all_goals (simp only[ZE,Zu,Zr,List.foldl,Qr_,Qp_,Ql_,Qn_,Q5_,Q4_,Qw_,Q3_,Qu_,Qt_,Qb_,Qd_,QD_,Q8_, *];first | rfl | (simp only[nz,nzA,nz1,QE_,QN_,Iv.enc,V.enc,Ray.enc, *];first | done | rfl))
def Zt7:=PV.agg [vI 0,vI 0,vB true]
theorem ZyU:Zj Tryz.prog 93 e93:=Zk<|Zh fun a=>Zh fun b=>EZ0<|by
 refine cf0 (Zb Zeg<|Zb Zbi<|Zb Zwe<|Zg) (fn:=Tryz.f93) rfl ?_
 refine sxT (fun Q=>(bif !right a then Q Zt7 else (bif !right b then Q Zt7 else (bif decide (b.lo≤(0:Int)) then (bif decide (b.hi≥(0:Int)) then Q Zt7 else Q (PV.agg (eIv (ends div a b)))) else Q (PV.agg (eIv (ends div a b))))))) (fun _=>by kernel_rfl) ?_
 delta Qn Zt7 eIv vI vB
 refine Za (fun h0=>?_) (fun h0=>Za (fun h1=>?_) (fun h1=>Za (fun h2=>Za (fun h3=>?_) (fun h3=>?_)) (fun h2=>?_)))
 all_goals simp only[Qi_,Qf_,Qc_,Qe_] at *
 ·simp[nz,nzA,nz1,ZE,both,h0,none',Iv.enc]
 ·simp[nz,nzA,nz1,ZE,both,h0,h1,none',Iv.enc]
 ·have hh:has b 0=true:=by simp[has,h1];omega
  simp[nz,nzA,nz1,ZE,both,h0,h1,hh,none',Iv.enc]
 ·have hh:has b 0=false:=by simp[has,h1];omega
  simp[nz,nzA,nz1,ZE,both,h0,h1,hh,Iv.enc]
 ·have hh:has b 0=false:=by simp[has,h1];omega
  simp[nz,nzA,nz1,ZE,both,h0,h1,hh,Iv.enc]
def Zph(a:Iv):=List.foldl imax (IntKind.i64.wrap ((0:Int) - a.lo)) [a.hi]
def ZxY(a:Iv):=List.foldl imax a.lo [IntKind.i64.wrap ((0:Int) - a.hi),(0:Int)]
theorem Zwl:Zj Tryz.prog 118 Z2Y:=Zk<|Zh fun a=>EZ0<|by
 refine cf0 (Zb ZhQ<|Zb JR<|Zb Zpc<|Zb ZcG<|Zg) (fn:=Tryz.f118) rfl ?_
 refine sxT (fun Q=>(bif !right a then Q (PV.agg [vI 0,vI 0,vB true]) else (bif !(mul (Zph a) (Zph a) true).snd then Q (PV.agg [vI 0,vI 0,vB true]) else Q (PV.agg (eIv (of (mul (ZxY a) (ZxY a) false).fst (mul (Zph a) (Zph a) true).fst)))))) (fun _=>by kernel_rfl) ?_
 delta Qn Zph ZxY eIv vI vB
 refine Za (fun h0=>?_) (fun h0=>Za (fun h1=>?_) (fun h1=>?_))
 all_goals simp only[Qi_,Qf_,List.foldl,Zr,Zu] at *
 ·simp[nz,nzA,nz1,sqr,h0,none',Iv.enc]
 all_goals have ha:=XY h0
 all_goals rw[YZ (n:=a.lo) (by omega)] at *
 all_goals try rw[YZ (n:=a.hi) (by omega)]
 ·simp[nz,nzA,nz1,sqr,h0,far,h1,none',Iv.enc]
 ·simp[nz,nzA,nz1,sqr,h0,far,near,h1,Iv.enc]
def ZxZ(a:Iv):=List.foldl imax a.lo [IntKind.i64.wrap ((0:Int) - a.lo),a.hi,IntKind.i64.wrap ((0:Int) - a.hi)]
def Zpi(a:Iv):=mul (ZxZ a) (ZxZ a) true
def Zya(a:Iv):=List.foldl imin (List.foldl imax a.lo [IntKind.i64.wrap ((0:Int) - a.lo)]) [List.foldl imax a.hi [IntKind.i64.wrap ((0:Int) - a.hi)]]
def Zt8:=PV.agg [vI 0,vI 0,vB true]
def Zyb(a:Iv)(Q:PV→Prop):Prop:=bif !(Zpi a).snd then Q Zt8 else Q (PV.agg (eIv (of (mul (Zya a) (Zya a) false).fst (Zpi a).fst)))
theorem ZyV:Zj Tryz.prog 92 e92:=Zk<|Zh fun a=>EZ0<|by
 refine cf0 (Zb Zeg<|Zb Zbi<|Zb Zpd<|Zb Zcl<|Zg) (fn:=Tryz.f92) rfl ?_
 refine sxT (fun Q=>(bif !right a then Q Zt8 else (bif decide (a.lo≤(0:Int)) then (bif decide (a.hi≥(0:Int)) then (bif !(Zpi a).snd then Q Zt8 else Q (PV.agg (eIv (of (0:Int) (Zpi a).fst)))) else (Zyb a Q)) else (Zyb a Q)))) (fun _=>by kernel_rfl) ?_
 delta Qn Zpi Zya Zyb ZxZ Zt8 eIv vI vB
 refine Za (fun h0=>?_) (fun h0=>Za (fun h1=>Za (fun h2=>Za (fun h3=>?_) (fun h3=>?_)) (fun h2=>Za (fun h3=>?_) (fun h3=>?_))) (fun h1=>Za (fun h2=>?_) (fun h2=>?_)))
 all_goals simp only[Qi_,Qf_,List.foldl,Zr,Zu] at *
 ·simp[nz,nzA,nz1,sqr,h0,none',Iv.enc]
 all_goals have ha:=XY h0
 all_goals rw[YZ (n:=a.lo) (by omega),YZ (n:=a.hi) (by omega)] at *
 all_goals rw[show max (max (max a.lo (-a.lo)) a.hi) (-a.hi)=far a by unfold far;omega] at *
 ·simp[nz,nzA,nz1,sqr,h0,h3,none',Iv.enc]
 ·simp only[Qc_] at h1 h2
  have e:near a=0:=by unfold near;omega
  simp[nz,nzA,nz1,sqr,h0,h3,e,Iv.enc,show (mul 0 0 false).1=0 from rfl]
 ·simp[nz,nzA,nz1,sqr,h0,h3,none',Iv.enc]
 ·simp only[Qc_,Qe_] at h1 h2
  have e:min (max a.lo (-a.lo)) (max a.hi (-a.hi))=near a:=by unfold near;omega
  rw[e]
  simp[nz,nzA,nz1,sqr,h0,h3,Iv.enc]
 ·simp[nz,nzA,nz1,sqr,h0,h2,none',Iv.enc]
 ·simp only[Qe_] at h1
  have e:min (max a.lo (-a.lo)) (max a.hi (-a.hi))=near a:=by unfold near;omega
  rw[e]
  simp[nz,nzA,nz1,sqr,h0,h2,Iv.enc]
theorem Z1r:Zj Tryz.prog 156 Z2Z:=Zk<|Zh fun a=>EZ0<|by
 refine cf0 (Zb ZhQ<|Zb JR<|Zb Z1o<|Zb ZcG<|Zg) (fn:=Tryz.f156) rfl ?_
 refine sxT (fun Q=>(bif !right a then Q (PV.agg [vI 0,vI 0,vB true]) else (bif decide (a.lo < (0:Int)) then Q (PV.agg [vI 0,vI 0,vB true]) else Q (PV.agg (eIv (of (root a.lo false).fst (root a.hi true).fst)))))) (fun _=>by kernel_rfl) ?_
 delta Qn eIv vI vB
 refine Za (fun h0=>?_) (fun h0=>Za (fun h1=>?_) (fun h1=>?_))
 all_goals (try simp only[Qi_,Qf_,bne] at *)
 all_goals first | (simp only[W3,Zu,Zr,List.foldl,Qr_,Qp_,Ql_,Qn_,Q5_,Q4_,Qw_,Q3_,Qu_,Qt_,Qb_,Qd_,QD_,Q8_, *];first | rfl | (simp only[nz,nzA,nz1,QE_,QN_,Iv.enc,V.enc,Ray.enc, *];first | done | rfl)) | (simp_all[nz,nzA,nz1,Iv.enc,V.enc,Ray.enc,Dec.enc,Shape.enc,none',told,K4_,W3];done) | (simp_all[nz,nzA,nz1,Iv.enc,V.enc,Ray.enc,Dec.enc,Shape.enc,none',told,K4_,W3];(repeat' split)<;>(first | rfl | (exfalso;omega) | (simp_all;done) | omega))
theorem Z1s:Zj Tryz.prog 149 Z3a:=Zk<|Zh fun a=>EZ0<|by
 refine cf0 (Zb Zeg<|Zb Zbi<|Zb Z1p<|Zb Zcl<|Zg) (fn:=Tryz.f149) rfl ?_
 refine sxT (fun Q=>(bif !right a then Q (PV.agg [vI 0,vI 0,vB true]) else (bif decide (a.lo < (0:Int)) then Q (PV.agg [vI 0,vI 0,vB true]) else Q (PV.agg (eIv (of (root a.lo false).fst (root a.hi true).fst)))))) (fun _=>by kernel_rfl) ?_
 delta Qn eIv vI vB
 refine Za (fun h0=>?_) (fun h0=>Za (fun h1=>?_) (fun h1=>?_))
 all_goals (try simp only[Qi_,Qf_,bne] at *)
 all_goals first | (simp only[W3,Zu,Zr,List.foldl,Qr_,Qp_,Ql_,Qn_,Q5_,Q4_,Qw_,Q3_,Qu_,Qt_,Qb_,Qd_,QD_,Q8_, *];first | rfl | (simp only[nz,nzA,nz1,QE_,QN_,Iv.enc,V.enc,Ray.enc, *];first | done | rfl)) | (simp_all[nz,nzA,nz1,Iv.enc,V.enc,Ray.enc,Dec.enc,Shape.enc,none',told,K4_,W3];done) | (simp_all[nz,nzA,nz1,Iv.enc,V.enc,Ray.enc,Dec.enc,Shape.enc,none',told,K4_,W3];(repeat' split)<;>(first | rfl | (exfalso;omega) | (simp_all;done) | omega))
theorem Zpj:Zj Tryz.prog 115 Z3b:=Zk<|Zh fun d=>EZ0<|by
 refine cf0 Zg (fn:=Tryz.f115) rfl ?_
 refine sxT (fun Q=>(bif decide (d.c≥(-100000000000:Int)) then (bif decide (d.c≤(100000000000:Int)) then (bif decide (d.scale≥(0:Int)) then (bif decide (d.scale≤(6:Int)) then (bif d.scale==(0:Int) then Q (vB true) else (((10:Int)≠(0:Int))∧Q (vB (d.c.tmod (10:Int)!=(0:Int))))) else Q (vB false)) else Q (vB false)) else Q (vB false)) else Q (vB false))) (fun _=>by kernel_rfl) ?_
 delta Qn vB
 refine Za (fun h0=>Za (fun h1=>Za (fun h2=>Za (fun h3=>Za (fun h4=>?_) (fun h4=>⟨?r0, ?_⟩)) (fun h3=>?_)) (fun h2=>?_)) (fun h1=>?_)) (fun h0=>?_)
 case r0=>first | rfl | (simp only[YH,dI,dIv];omega) | (simp[Zi,chunk];done) | (simp only[YH,dI,dIv];done) | (exact Zv (fun _=>rfl) (by omega) (by omega)) | (simp only[Qc_,Qk_] at *;exact Zv (fun _=>rfl) (by omega) (by omega)) | assumption | trivial | (simp_all;done) | omega
 all_goals (try simp only[Qi_,Qf_,bne] at *)
 all_goals (simp only[Z6,Zu,Zr,List.foldl,Qr_,Qp_,Ql_,Qn_,Q5_,Q4_,Qw_,Q3_,Qu_,Qt_,Qb_,Qd_,QD_,Q8_, *];first | rfl | (simp only[nz,nzA,nz1,QE_,QN_,Iv.enc,V.enc,Ray.enc, *];first | done | rfl))
theorem Zt9:Zj Tryz.prog 46 e46:=Zk<|Zh fun d=>EZ0<|by
 refine cf0 Zg (fn:=Tryz.f46) rfl ?_
 refine sxT (fun Q=>(bif decide (d.c≥(-100000000000:Int)) then (bif decide (d.c≤(100000000000:Int)) then (bif decide (d.scale≥(0:Int)) then (bif decide (d.scale≤(6:Int)) then (bif d.scale==(0:Int) then Q (vB true) else (((10:Int)≠(0:Int))∧Q (vB (d.c.tmod (10:Int)!=(0:Int))))) else Q (vB false)) else Q (vB false)) else Q (vB false)) else Q (vB false))) (fun _=>by kernel_rfl) ?_
 delta Qn vB
 refine Za (fun h0=>Za (fun h1=>Za (fun h2=>Za (fun h3=>Za (fun h4=>?_) (fun h4=>⟨?r0, ?_⟩)) (fun h3=>?_)) (fun h2=>?_)) (fun h1=>?_)) (fun h0=>?_)
 case r0=>first | rfl | (simp only[YH,dI,dIv];omega) | (simp[Zi,chunk];done) | (simp only[YH,dI,dIv];done) | (exact Zv (fun _=>rfl) (by omega) (by omega)) | (simp only[Qc_,Qk_] at *;exact Zv (fun _=>rfl) (by omega) (by omega)) | assumption | trivial | (simp_all;done) | omega
 all_goals (try simp only[ZaV,ZeD,ZgA,Zdl,Za2,ZeE,Zcc,WP,Jy,Zdm,Zdn,ZgB,ZeG,ZeH,ZeI,Ke_,Qi_,Qf_,bne] at *)
 all_goals (simp only[Z6,Zu,Zr,List.foldl,Qr_,Qp_,Ql_,Qn_,Q5_,Q4_,Qw_,Q3_,Qu_,Qt_,Qb_,Qd_,QD_,Q8_, *];first | rfl | (simp only[nz,nzA,nz1,QE_,QN_,Iv.enc,V.enc,Ray.enc, *];first | done | rfl))
def ZtA(d:Dec):=(0:Int) - IntKind.i64.wrap (d.c * (65536:Int))
theorem ZtB:Zj Tryz.prog 59 e59:=Zk<|Zh fun d=>EZ0<|by
 refine cf0 (Zb Zpj<|Zb JR<|Zb Zwi<|Zb ZvV<|Zb ZcG<|Zg) (fn:=Tryz.f59) rfl ?_
 refine sxT (fun Q=>(bif !Z6 d then Q (PV.agg [vI 0,vI 0,vB true]) else (((0:Int)≤d.scale∧d.scale≤(18:Int))∧(((-4611686018427387904:Int)≤IntKind.i64.wrap (d.c * (65536:Int))∧IntKind.i64.wrap (d.c * (65536:Int))≤(4611686018427387904:Int))∧(((-4611686018427387904:Int)≤IntKind.i64.wrap (ZtA d)∧IntKind.i64.wrap (ZtA d)≤(4611686018427387904:Int))∧Q (PV.agg (eIv (of (floor (IntKind.i64.wrap (d.c * (65536:Int))) (Zz d.scale)) (IntKind.i64.wrap ((0:Int) - floor (IntKind.i64.wrap (ZtA d)) (Zz d.scale))))))))))) (fun _=>by kernel_rfl) ?_
 delta Qn ZtA eIv vI vB
 refine Za (fun h0=>?_) (fun h0=>⟨?_,⟨?_,⟨?_, ?_⟩⟩⟩)
 ·simp only[Qi_] at h0
  simp[nz,nzA,nz1,Ze,h0,none',Iv.enc]
 all_goals simp only[Qf_] at h0
 all_goals have hd:=XS h0
 all_goals have hw:IntKind.i64.wrap (d.c *65536)=d.c *65536:=Zf (by constructor<;>omega)
 all_goals have hp:=Jx d.scale
 all_goals try rw[hw]
 all_goals try rw[YZ (n:=d.c *65536) (by omega)]
 ·omega
 ·omega
 ·omega
 ·have hf:=Zdk (a:= -(d.c *65536)) (b:=Zz d.scale) (by omega)
  have e:floor (-(d.c *65536)) (Zz d.scale)=(-(d.c *65536)).fdiv (Zz d.scale):=rfl
  rw[YZ (n:=floor (-(d.c *65536)) (Zz d.scale)) (by rw[e];omega)]
  simp[nz,nzA,nz1,Ze,h0,Iv.enc]
def ZtC(d:Dec):=(-4611686018427387904:Int)≤IntKind.i64.wrap (d.c * (65536:Int))∧IntKind.i64.wrap (d.c * (65536:Int))≤(4611686018427387904:Int)
theorem ZyW:Zj Tryz.prog 89 e89:=Zk<|Zh fun d=>EZ0<|by
 refine cf0 (Zb Zt9<|Zb Zbi<|Zb Zt5<|Zb Zkm<|Zb Zpa<|Zb Zcl<|Zg) (fn:=Tryz.f89) rfl ?_
 refine sxT (fun Q=>(bif !Z6 d then Q (PV.agg [vI 0,vI 0,vB true]) else (((0:Int)≤d.scale∧d.scale≤(18:Int))∧((ZtC d)∧(((0:Int)≤d.scale∧d.scale≤(18:Int))∧((ZtC d)∧(((-4611686018427387904:Int)≤Zz d.scale∧Zz d.scale≤(4611686018427387904:Int))∧((Zz d.scale≠(0:Int))∧Q (PV.agg (eIv (of (floor (IntKind.i64.wrap (d.c * (65536:Int))) (Zz d.scale)) (up1 (IntKind.i64.wrap (d.c * (65536:Int))) (Zz d.scale))))))))))))) (fun _=>by kernel_rfl) ?_
 delta Qn ZtC eIv vI vB
 refine Za (fun h0=>?_) (fun h0=>⟨?_,⟨?_,⟨?_,⟨?_,⟨?_,⟨?_, ?_⟩⟩⟩⟩⟩⟩)
 ·simp only[Qi_] at h0
  simp[nz,nzA,nz1,Ze,h0,none',Iv.enc]
 all_goals simp only[Qf_] at h0
 all_goals have hd:=XS h0
 all_goals have hw:IntKind.i64.wrap (d.c *65536)=d.c *65536:=Zf (by constructor<;>omega)
 all_goals have hp:=Jx d.scale
 all_goals have hq:=Zi7 (i:=d.scale) (by omega)
 all_goals try rw[hw]
 ·omega
 ·omega
 ·omega
 ·omega
 ·omega
 ·omega
 ·rw[←ZoA (by omega)]
  simp[nz,nzA,nz1,Ze,h0,Iv.enc]
theorem Z2e:Zj Tryz.prog 54 e54:=Zk<|Zh fun n=>Zh fun low=>Zh fun high=>EZ0<|by
 refine cf0 Zg (fn:=Tryz.f54) rfl ?_
 refine sxT (fun Q=>Q (vI (List.foldl imax low [List.foldl imin high [n]]))) (fun _=>by kernel_rfl) ?_
 delta Qn vI
 refine ?_
 simp[nz,nzA,within,List.foldl,Zr,Zu]
theorem Zkn:Zj Tryz.prog 12 e12:=Zk<|Zh fun n=>Zh fun m=>EZ1 fun hp0=>by
 refine cf0 Zg (fn:=Tryz.f12) rfl ?_
 refine sxT (fun Q=>((m≠(0:Int))∧(bif decide (n.tmod m < (0:Int)) then Q (vI (IntKind.i64.wrap (n.tmod m+m))) else Q (vI (n.tmod m))))) (fun _=>by kernel_rfl) ?_
 delta Qn vI
 refine ⟨?r0,Za (fun h0=>?_) (fun h0=>?_)⟩
 case r0=>first | rfl | (simp only[YH,dI,dIv];omega) | (simp[Zi,chunk];done) | (simp only[YH,dI,dIv];done) | (exact Zv (fun _=>rfl) (by omega) (by omega)) | (simp only[Qc_,Qk_] at *;exact Zv (fun _=>rfl) (by omega) (by omega)) | assumption | trivial | (simp_all;done) | omega
 all_goals simp only[Qc_,Qe_] at h0
 all_goals have hb:=ZzS (n:=n) hp0.1
 ·rw[Zf (by constructor<;>omega)]
  simp[nz,nzA,ZrB hp0.1,h0]
 ·simp[nz,nzA,ZrB hp0.1,h0]
def Zpk(n:Int):=IntKind.i64.wrap (n.tdiv (9:Int))
def Zyc:=(0:Int) < (9:Int)∧(9:Int)≤(4611686018427387904:Int)
def Zpl:=(9:Int)≠(0:Int)
theorem Z2f:Zj Tryz.prog 55 e55:=Zk<|Zh fun n=>EZ0<|by
 refine cf0 (Zb Zkn<|Zg) (fn:=Tryz.f55) rfl ?_
 refine sxT (fun Q=>(Zyc∧(bif pick n (9:Int)==(0:Int) then Q (vI n) else (bif pick n (9:Int)==(1:Int) then (Zpl∧(((0:Int) < (201:Int)∧(201:Int)≤(4611686018427387904:Int))∧Q (vI (IntKind.i64.wrap (IntKind.i64.wrap (pick (Zpk n) (201:Int) - (100:Int))* (65536:Int)))))) else (bif pick n (9:Int)==(2:Int) then (Zpl∧(Zyc∧Q (vI (IntKind.i64.wrap (pick (Zpk n) (9:Int) - (4:Int)))))) else (bif pick n (9:Int)==(3:Int) then (Zpl∧(((0:Int) < (2147483657:Int)∧(2147483657:Int)≤(4611686018427387904:Int))∧Q (vI (IntKind.i64.wrap (IntKind.i64.wrap (pick (Zpk n) (2147483657:Int) - (1073741824:Int)) - (4:Int)))))) else (Zpl∧(((0:Int) < (2621440:Int)∧(2621440:Int)≤(4611686018427387904:Int))∧Q (vI (IntKind.i64.wrap (pick (Zpk n) (2621440:Int) - (1310720:Int)))))))))))) (fun _=>by kernel_rfl) ?_
 delta Qn Zpk Zyc Zpl vI
 refine ⟨?r8,Za (fun h0=>?_) (fun h0=>Za (fun h1=>⟨?r1,⟨?r0, ?_⟩⟩) (fun h1=>Za (fun h2=>⟨?r3,⟨?r2, ?_⟩⟩) (fun h2=>Za (fun h3=>⟨?r5,⟨?r4, ?_⟩⟩) (fun h3=>⟨?r7,⟨?r6, ?_⟩⟩))))⟩
 case r0|r1|r2|r3|r4|r5|r6|r7|r8=>omega
 all_goals have b1:=Xy (n:=IntKind.i64.wrap (n.tdiv 9)) (m:=201) (by omega)
 all_goals have b2:=Xy (n:=IntKind.i64.wrap (n.tdiv 9)) (m:=9) (by omega)
 all_goals have b3:=Xy (n:=IntKind.i64.wrap (n.tdiv 9)) (m:=2147483657) (by omega)
 all_goals have b4:=Xy (n:=IntKind.i64.wrap (n.tdiv 9)) (m:=2621440) (by omega)
 ·simp only[num,h0,Qb_];rfl
 ·rw[Zf (show Fit (pick (IntKind.i64.wrap (n.tdiv 9)) 201 - 100) by constructor<;>omega),Zf (by constructor<;>omega)]
  simp only[num,h0,h1,Qb_,Qd_];rfl
 ·rw[Zf (show Fit (pick (IntKind.i64.wrap (n.tdiv 9)) 9 - 4) by constructor<;>omega)]
  simp only[num,h0,h1,h2,Qb_,Qd_];rfl
 ·rw[Zf (show Fit (pick (IntKind.i64.wrap (n.tdiv 9)) 2147483657 - 1073741824) by constructor<;>omega),Zf (by constructor<;>omega)]
  simp only[num,h0,h1,h2,h3,Qb_,Qd_];rfl
 ·rw[Zf (show Fit (pick (IntKind.i64.wrap (n.tdiv 9)) 2621440 - 1310720) by constructor<;>omega)]
  simp only[num,h0,h1,h2,h3,Qb_,Qd_];rfl
theorem ZyX:Zj Tryz.prog 17 e17:=Zk<|Zh fun x=>Zh fun w=>EZ1 fun hp0=>by
 refine cf0 (Zb Z2e<|Zg) (fn:=Tryz.f17) rfl ?_
 refine sxT (fun Q=>Q (PV.agg [vI (within x (-1073741824:Int) (1073741824:Int)),vI (List.foldl imin (1073741824:Int) [IntKind.i64.wrap (within x (-1073741824:Int) (1073741824:Int)+w)]),vB false])) (fun _=>by kernel_rfl) ?_
 delta Qn vI vB
 refine ?_
 have hb: -1073741824≤within x (-1073741824) 1073741824∧within x (-1073741824) 1073741824≤1073741824:=by unfold within;omega
 rw[Zf (by constructor<;>omega)]
 simp only[List.foldl,Zu];rfl
def Zl7(w:Int):=IntKind.i64.wrap (w.tdiv (12:Int))
def Zyd(n:Int)(w:Int)(Q:PV→Prop):Prop:=((12:Int)≠(0:Int))∧(((0:Int) < (9000:Int)∧(9000:Int)≤(4611686018427387904:Int))∧(((0:Int)≤pick (Zl7 w) (9000:Int)∧pick (Zl7 w) (9000:Int)≤(1073741824:Int))∧Q (PV.agg (eIv (wide (num n) (pick (Zl7 w) (9000:Int)))))))
theorem Z2g:Zj Tryz.prog 18 e18:=Zk<|Zh fun n=>Zh fun w=>EZ0<|by
 refine cf0 (Zb Z2f<|Zb Zkn<|Zb ZyX<|Zg) (fn:=Tryz.f18) rfl ?_
 refine sxT (fun Q=>(((0:Int) < (12:Int)∧(12:Int)≤(4611686018427387904:Int))∧(bif pick w (12:Int)==(0:Int) then (((12:Int)≠(0:Int))∧Q (PV.agg [vI (num n),vI (num (Zl7 w)),vB false])) else (bif pick w (12:Int)==(1:Int) then (((12:Int)≠(0:Int))∧(((0:Int) < (5:Int)∧(5:Int)≤(4611686018427387904:Int))∧Q (PV.agg [vI (num n),vI (num n),vB (pick (Zl7 w) (5:Int)==(4:Int))]))) else (bif pick w (12:Int)==(2:Int) then (bif pick w (12:Int)==(2:Int) then Q (PV.agg [vI (num n),vI (num n),vB false]) else (Zyd n w Q)) else (bif pick w (12:Int)==(3:Int) then Q (PV.agg [vI (num n),vI (num n),vB false]) else (Zyd n w Q))))))) (fun _=>by kernel_rfl) ?_
 delta Qn Zyd Zl7 eIv vI vB
 refine ⟨?r9,Za (fun h0=>⟨?r0, ?_⟩) (fun h0=>Za (fun h1=>⟨?r2,⟨?r1, ?_⟩⟩) (fun h1=>Za (fun h2=>Za (fun h3=>?_) (fun h3=>⟨?r5,⟨?r4,⟨?r3, ?_⟩⟩⟩)) (fun h2=>Za (fun h3=>?_) (fun h3=>⟨?r8,⟨?r7,⟨?r6, ?_⟩⟩⟩))))⟩
 case r0|r1|r2|r3|r4|r5|r6|r7|r8|r9=>have:=Xy (n:=IntKind.i64.wrap (w.tdiv 12)) (m:=9000) (by omega);omega
 all_goals simp_all only[ZeF,Qb_,Qd_,Q5_,Q4_,Bool.or_self]
 all_goals first | rfl | simp_all
def Zye(d:Dec)(z:Dec):Option St:=some ⟨27,[(4,AV.ptr 4 0),(5,AV.ptr 5 0)],[(4,(Zlz z)),(5,(Zlz d))],[],[],[]⟩
theorem ZrK:CSOk Tryz.prog (YY []):=Zg
theorem Zwm:Yl Tryz.prog (Z9 Tryz.f11 0) ZoT:=by
 refine lsG Zs.Γ (ZF Zs ZrK ZR ZS ZX (LS:=[]) (Yo (l:=[]) (by kernel_rfl) Z2) (n:=2000) (U2 ZxJ) (U2 Zdu) (fun x e s=>(e= .exit 0∧s=U2 Zdt x)) (fun x=>x.1.scale.toNat) ZoS ZvJ ZvK (fun x hx=>?_)) cv2 (fun _=>rfl) (fun _ h=>h) (fun _ _ _ _ h f=>fE h f)
 ·obtain ⟨d,z⟩:=x
  simp only[U2,Zdu] at hx
  refine sxT (fun Q=>(bif decide (d.scale > (0:Int)) then (((10:Int)≠(0:Int))∧(bif d.c.tmod (10:Int)==(0:Int) then (((10:Int)≠(0:Int))∧Q (Ex.normal) (some ⟨27,[(5,AV.ptr 5 0),(4,AV.ptr 4 0)],[(5,[vI (IntKind.i64.wrap (d.c.tdiv (10:Int))),vI (IntKind.i64.wrap (d.scale - (1:Int)))]),(4,(Zlz z))],[],[],[]⟩)) else Q (Ex.exit (0:Nat)) (Zye d z))) else Q (Ex.exit (0:Nat)) (Zye d z))) (fun _=>by kernel_rfl) ?_
  delta Zye Zlz vI vB
  refine Za (fun h0=>⟨?r1,Za (fun h1=>⟨?r0,.inl ⟨rfl,(⟨IntKind.i64.wrap (d.c.tdiv (10:Int)),IntKind.i64.wrap (d.scale - (1:Int))⟩,z),rfl, ?_, ?_, ?_⟩⟩) (fun h1=> .inr ⟨by simp,_,rfl, ?_⟩)⟩) (fun h0=> .inr ⟨by simp,_,rfl, ?_⟩)
  case r0|r1=>first | rfl | (simp only[YH,dI,dIv];omega) | (simp[Zi,chunk];done) | (simp only[YH,dI,dIv];done) | (exact Zv (fun _=>rfl) (by omega) (by omega)) | (simp only[Qc_,Qk_] at *;exact Zv (fun _=>rfl) (by omega) (by omega)) | assumption | trivial | (simp_all;done) | omega
  all_goals try dsimp only[U2]
  all_goals (try simp only[Qc_,Qe_] at h0)
  ·rw[Zf (show Fit (d.scale - 1) by constructor<;>omega)];simp only[U2,Zdu];omega
  ·show (IntKind.i64.wrap (d.scale - 1)).toNat < d.scale.toNat
   rw[Zf (by constructor<;>omega)];omega
  ·simp only[beq_iff_eq] at h1
   simp only[U2,Zdt]
   rw[Zvq h0 hx.2 h1]
   exact fun e s h=>h
  ·simp only[KA_] at h1
   exact ⟨rfl,by simp only[U2,Zdt];rw[ZoC (fun h=>h1 h.2)]⟩
  ·exact ⟨rfl,by simp only[U2,Zdt];rw[ZoC (fun h=>h0 h.1)]⟩
theorem Zyf:ZQ Tryz.prog [(3,ZoT)] Tryz.f11:=ZM (l:=[Z9 Tryz.f11 0]) (by kernel_rfl) (Ya (i:=3) (by kernel_rfl) rfl Zwm (Z2))
theorem ZyY:Zj Tryz.prog 11 e11:=Zk<|Zh fun c=>Zh fun scale=>EZ1 fun hp0=>by
 refine cfL ZrK Zyf rfl ?_
 refine sxT (fun Q=>((Zdu (Dec.mk c scale) (Dec.mk (0:Int) (0:Int)))∧Q (PV.agg (Zlz (hdec scale.toNat c scale))))) (fun _=>by kernel_rfl) ?_
 delta Qn Zlz vI vB
 refine ⟨?_, ?_⟩
 ·exact hp0
 ·rfl
end Go.Men
namespace Go.Men
open Go Go.Ev
def Zpm(k:Int):Ent
 | [.v (.int .i64 p1)]=>some (.str (digits p1),[0≤p1∧p1 < k])
 | _=>none
open Go.Proofs Go.Proofs.YtgfgjabeooohhaaGreatDoor
theorem Z1t(k:Int)(n:Int)(Q:PV→Prop):sxF evEnv (YY [(45,Zpm k)]) Zg4 Zg5 noG [] 2000 Tryz.f45 [.v (.int .i64 n)] Q=(bif decide (n < (0:Int)) then (((0:Int)≤IntKind.i64.wrap ((0:Int) - n)∧IntKind.i64.wrap ((0:Int) - n) < k)∧(((1:Nat)+(digits (IntKind.i64.wrap ((0:Int) - n))).length≤(9223372036854775807:Nat))∧Q (.str ([(45:UInt8)]++digits (IntKind.i64.wrap ((0:Int) - n)))))) else (bif decide (n < (10:Int)) then (((bif decide ((0:Int)≤IntKind.u8.wrap (IntKind.i64.wrap ((48:Int)+n)))&&decide (IntKind.u8.wrap (IntKind.i64.wrap ((48:Int)+n)) < (256:Int)) then some [UInt8.ofNat (IntKind.u8.wrap (IntKind.i64.wrap ((48:Int)+n))).toNat] else none)=some ((bif decide ((0:Int)≤IntKind.u8.wrap (IntKind.i64.wrap ((48:Int)+n)))&&decide (IntKind.u8.wrap (IntKind.i64.wrap ((48:Int)+n)) < (256:Int)) then some [UInt8.ofNat (IntKind.u8.wrap (IntKind.i64.wrap ((48:Int)+n))).toNat] else none).getD []))∧Q (.str ((bif decide ((0:Int)≤IntKind.u8.wrap (IntKind.i64.wrap ((48:Int)+n)))&&decide (IntKind.u8.wrap (IntKind.i64.wrap ((48:Int)+n)) < (256:Int)) then some [UInt8.ofNat (IntKind.u8.wrap (IntKind.i64.wrap ((48:Int)+n))).toNat] else none).getD []))) else (((10:Int)≠(0:Int))∧(((0:Int)≤IntKind.i64.wrap (n.tdiv (10:Int))∧IntKind.i64.wrap (n.tdiv (10:Int)) < k)∧(((10:Int)≠(0:Int))∧(((bif decide ((0:Int)≤IntKind.u8.wrap (IntKind.i64.wrap ((48:Int)+n.tmod (10:Int))))&&decide (IntKind.u8.wrap (IntKind.i64.wrap ((48:Int)+n.tmod (10:Int))) < (256:Int)) then some [UInt8.ofNat (IntKind.u8.wrap (IntKind.i64.wrap ((48:Int)+n.tmod (10:Int)))).toNat] else none)=some ((bif decide ((0:Int)≤IntKind.u8.wrap (IntKind.i64.wrap ((48:Int)+n.tmod (10:Int))))&&decide (IntKind.u8.wrap (IntKind.i64.wrap ((48:Int)+n.tmod (10:Int))) < (256:Int)) then some [UInt8.ofNat (IntKind.u8.wrap (IntKind.i64.wrap ((48:Int)+n.tmod (10:Int)))).toNat] else none).getD []))∧(((digits (IntKind.i64.wrap (n.tdiv (10:Int)))).length+((bif decide ((0:Int)≤IntKind.u8.wrap (IntKind.i64.wrap ((48:Int)+n.tmod (10:Int))))&&decide (IntKind.u8.wrap (IntKind.i64.wrap ((48:Int)+n.tmod (10:Int))) < (256:Int)) then some [UInt8.ofNat (IntKind.u8.wrap (IntKind.i64.wrap ((48:Int)+n.tmod (10:Int)))).toNat] else none).getD []).length≤(9223372036854775807:Nat))∧Q (.str (digits (IntKind.i64.wrap (n.tdiv (10:Int)))++(bif decide ((0:Int)≤IntKind.u8.wrap (IntKind.i64.wrap ((48:Int)+n.tmod (10:Int))))&&decide (IntKind.u8.wrap (IntKind.i64.wrap ((48:Int)+n.tmod (10:Int))) < (256:Int)) then some [UInt8.ofNat (IntKind.u8.wrap (IntKind.i64.wrap ((48:Int)+n.tmod (10:Int)))).toNat] else none).getD []))))))))):=by kernel_rfl
theorem Zwn{k:Int}(h:∀n:Int,0≤n→n < k→Con Tryz.prog 45 [.v (.int .i64 n)] (.str (digits n))):Zj Tryz.prog 45 (Zpm k):=by
 intro args r ps h1 hp
 unfold Zpm at h1
 split at h1
 ·cases Qa_ h1
  have:=hp _ Qv_
  exact h _ this.1 this.2
 ·exact absurd h1 (by simp)
theorem Zpn{k:Int}(h:∀n:Int,0≤n→n < k→Con Tryz.prog 45 [.v (.int .i64 n)] (.str (digits n))){n:Int}(h1: -1000000000000000000≤n∧n≤1000000000000000000)(h2:n < 0→ -n < k)(h3:10≤n→n / 10 < k):Con Tryz.prog 45 [.v (.int .i64 n)] (.str (digits n)):=by
 refine Zr7 Zs (Zb (Zwn h) Zg) ZR ZS ZX (n:=2000) (LS:=[]) (fn:=Tryz.f45) rfl Zil ?_
 rw[Z1t]
 refine Za (fun h0=>?_) (fun h0=>Za (fun h4=>?_) (fun h4=>?_))
 ·have h0:=Qy_ h0
  have hb:=Y0 (-n)
  rw[YZ (by constructor<;>omega)]
  refine ⟨⟨by omega,h2 h0⟩,by omega, ?_⟩
  rw[ZsQ h0];rfl
 ·have h0:=of_decide_eq_false h0
  have h4:=Qy_ h4
  rw[ZrD (by omega) h4,ZcB (by omega) h4]
  exact ⟨rfl,rfl⟩
 ·have h4:=of_decide_eq_false h4
  have e1:n.tdiv 10=n / 10:=Int.tdiv_eq_ediv_of_nonneg (by omega)
  have e2:n.tmod 10=n % 10:=Int.tmod_eq_emod_of_nonneg (by omega)
  have hb:=Y0 (n / 10)
  rw[e1,e2,Zf (by constructor<;>omega),ZrD (by omega) (by omega),Zak (by omega) h1.2]
  exact ⟨by decide,⟨by omega,h3 (by omega)⟩,by decide,rfl,by show (digits (n / 10)).length+1≤_;omega,rfl⟩
theorem Zpo:∀(k:Nat) (n:Int),0≤n→n < k→n≤1000000000000000000→Con Tryz.prog 45 [.v (.int .i64 n)] (.str (digits n))
 | 0,n,h0,h,_=>by omega
 | k+1,n,h0,h,hb=>by
   refine Zpn (k:=min (k:Int) 1000000000000000001) (fun m a b=>Zpo k m a (by omega) (by omega)) (by omega) (by omega) (fun h1=>?_)
   omega
theorem ZtD(n:Int)(h: -1000000000000000000≤n∧n≤1000000000000000000):Con Tryz.prog 45 [.v (.int .i64 n)] (.str (digits n)):=
 Zpn (k:=1000000000000000001) (fun m a b=>Zpo (m.toNat+1) m a (by omega) (by omega)) h (by omega) (by omega)
theorem ZtE:Zj Tryz.prog 45 e45:=Zk<|Zh fun n=>EZ1 fun h=>ZtD n h
end Go.Men
namespace Go.Men
open Go.Ev Go.Proofs Go.Proofs.YtgfgjabeooohhaaGreatDoor
def Zyg(c:Int)(Q:PV→Prop):Prop:=bif decide (c≥(65:Int)) then Q (vB (decide (c≤(90:Int)))) else Q (vB false)
theorem Zwo:Zj Tryz.prog 166 Z0T:=Zk<|Zh fun c=>EZ0<|by
 refine cf0 Zg (fn:=Tryz.f166) rfl ?_
 refine sxT (fun Q=>(bif decide (c≥(97:Int)) then (bif decide (c≤(122:Int)) then Q (vB true) else (Zyg c Q)) else (Zyg c Q))) (fun _=>by kernel_rfl) ?_
 delta Qn Zyg vB
 refine Za (fun h0=>Za (fun h1=>?_) (fun h1=>Za (fun h2=>?_) (fun h2=>?_))) (fun h0=>Za (fun h1=>?_) (fun h1=>?_))
 all_goals (try simp only[ZaV,ZeD,ZgA,Zdl,Za2,ZeE,Zcc,WP,Jy,Zdm,Zdn,ZgB,ZeG,ZeH,ZeI,Ke_,Qi_,Qf_,bne] at *)
 all_goals (simp only[Yw,Zu,Zr,List.foldl,Qr_,Qp_,Ql_,Qn_,Q5_,Q4_,Qw_,Q3_,Qu_,Qt_,Qb_,Qd_,QD_,Q8_, *];first | rfl | (simp only[nz,nzA,nz1,QE_,QN_,Iv.enc,V.enc,Ray.enc, *];first | done | rfl))
theorem Z1u:Zj Tryz.prog 188 Z3c:=Zk<|Zh fun c=>EZ0<|by
 refine cf0 Zg (fn:=Tryz.f188) rfl ?_
 refine sxT (fun Q=>(bif decide (c≥(48:Int)) then Q (vB (decide (c≤(57:Int)))) else Q (vB false))) (fun _=>by kernel_rfl) ?_
 delta Qn vB
 refine Za (fun h0=>?_) (fun h0=>?_)
 all_goals (try simp only[ZaV,ZeD,ZgA,Zdl,Za2,ZeE,Zcc,WP,Jy,Zdm,Zdn,ZgB,ZeG,ZeH,ZeI,Ke_,Qi_,Qf_,bne] at *)
 all_goals (simp only[Xa,Zu,Zr,List.foldl,Qr_,Qp_,Ql_,Qn_,Q5_,Q4_,Qw_,Q3_,Qu_,Qt_,Qb_,Qd_,QD_,Q8_, *];first | rfl | (simp only[nz,nzA,nz1,QE_,QN_,Iv.enc,V.enc,Ray.enc, *];first | done | rfl))
theorem Z1v:Zj Tryz.prog 167 Z0U:=Zk<|Zh fun c=>EZ0<|by
 refine cf0 (Zb Zwo<|Zb Z1u<|Zg) (fn:=Tryz.f167) rfl ?_
 refine sxT (fun Q=>(bif Yw c then Q (vB true) else (bif Xa c then Q (vB true) else (bif c==(45:Int) then Q (vB true) else Q (vB (c==(95:Int))))))) (fun _=>by kernel_rfl) ?_
 delta Qn vB
 refine Za (fun h0=>?_) (fun h0=>Za (fun h1=>?_) (fun h1=>Za (fun h2=>?_) (fun h2=>?_)))
 all_goals (try simp only[ZaV,ZeD,ZgA,Zdl,Za2,ZeE,Zcc,WP,Jy,Zdm,Zdn,ZgB,ZeG,ZeH,ZeI,Ke_,Qi_,Qf_,bne] at *)
 all_goals (simp only[Z1,Zu,Zr,List.foldl,Qr_,Qp_,Ql_,Qn_,Q5_,Q4_,Qw_,Q3_,Qu_,Qt_,Qb_,Qd_,QD_,Q8_, *];first | rfl | (simp only[nz,nzA,nz1,QE_,QN_,Iv.enc,V.enc,Ray.enc, *];first | done | rfl))
def Zyh:=YY [(166,Z0T),(167,Z0U)]
theorem Zmq:CSOk Tryz.prog Zyh:=Zb Zwo<|Zb Z1v<|Zg
theorem ZqK:Yl Tryz.prog (Z9 Tryz.f141 0) Zkb:=by
 refine lsG Zs.Γ (ZF Zs Zmq ZR ZS ZX (LS:=[]) (Yo (l:=[]) (by kernel_rfl) Z2) (n:=2000) (U2 Ztd) (U2 JN) (fun x e s=>((U2 WS x=true∧e= .ret∧s=U2 Zf2 x)∨(U2 WS x=false∧e= .exit 0∧s=U2 Zf1 x))) (fun x=>(x.2.length - x.1).toNat) Zka Zq7 Zq8 (fun x hx=>?_)) cv2 (fun _=>rfl) (fun _ h=>h) (fun _ _ _ _ h f=>fC h f fE fE)
 ·obtain ⟨i,s⟩:=x
  simp only[U2,JN] at hx
  refine sxT (fun Q=>(bif decide (i < ↑s.length) then (((0:Int)≤i∧i < ↑s.length)∧(bif !Z1 ↑(s.getD i.toNat (0:UInt8)).toNat then Q (Ex.ret) (some ⟨29,[(2,AV.p (vB false))],[],[],[],[]⟩) else Q (Ex.normal) (some ⟨29,[(3,AV.p (vI (IntKind.i64.wrap (i+(1:Int))))),(0,AV.p (PV.str s))],[],[],[],[]⟩))) else Q (Ex.exit (0:Nat)) (some ⟨29,[],[],[],[],[]⟩))) (fun _=>by kernel_rfl) ?_
  delta vI vB
  refine Za (fun h0=>⟨?r0,Za (fun h1=> .inr ⟨by simp,_,rfl, ?_⟩) (fun h1=> .inl ⟨rfl,(IntKind.i64.wrap (i+(1:Int)),s),rfl, ?_, ?_, ?_⟩)⟩) (fun h0=> .inr ⟨by simp,_,rfl, ?_⟩)
  case r0=>first | (obtain ⟨a1,a2,a3⟩:=hx;simp only[Qc_] at h0;omega) | (have h0:¬((s.length:Int)=0):=(by simpa using h0);omega)
  all_goals try dsimp only[U2]
  all_goals (obtain ⟨a1,a2,a3⟩:=hx;try simp only[Qc_,Qe_] at h0)
  all_goals first | (have hk:i < s.length:=h0;obtain ⟨x,t,e1,e2,e3⟩:=Yg (l:=s) a1 (by omega);have eg:s.getD i.toNat 0=x:=(by rw[Q7_,e3];rfl);rw[eg] at h1;have en:(s.drop i.toNat).all Zfy=(Zfy x&&t.all Zfy):=(by rw[e1];rfl)) | skip
  all_goals try rw[Zf (show Fit (i+1) by constructor<;>omega)]
  all_goals try simp only[U2,JN,WS,Zf2,Zf1]
  ·change (!Zfy x)=true at h1
   simp only[Qi_] at h1
   exact .inl ⟨by rw[en,h1];rfl,by trivial,by trivial⟩
  ·exact ⟨by omega,by omega,a3⟩
  ·omega
  ·change (!Zfy x)=false at h1
   simp only[Qf_] at h1
   rw[en,e2,h1];exact fun e s h=>h
  ·exact .inr ⟨by rw[Q0_ (by omega)];rfl,by trivial,by trivial⟩
theorem ZtF:ZQ Tryz.prog [(5,Zkb)] Tryz.f141:=ZM (l:=[Z9 Tryz.f141 0]) (by kernel_rfl) (Ya (i:=5) (by kernel_rfl) rfl ZqK (Z2))
theorem Zwp:Zj Tryz.prog 141 Z0V:=Zk<|Zh fun s=>EZ0<|by
 refine cfL Zmq ZtF rfl ?_
 refine sxT (fun Q=>(bif ↑s.length==(0:Int) then Q (vB false) else (bif decide (↑s.length > (20:Int)) then Q (vB false) else (((0:Int)≤(0:Int)∧(0:Int) < ↑s.length)∧(bif !Yw ↑(s.getD (0:Nat) (0:UInt8)).toNat then Q (vB false) else ((JN (0:Int) s)∧(bif WS (0:Int) s then Q (vB false) else Q (vB true)))))))) (fun _=>by kernel_rfl) ?_
 delta Qn vB
 refine Za (fun h0=>?_) (fun h0=>Za (fun h1=>?_) (fun h1=>⟨?r0,Za (fun h2=>?_) (fun h2=>⟨?_,Za (fun h3=>?_) (fun h3=>?_)⟩)⟩))
 case r0=>first | (obtain ⟨a1,a2,a3⟩:=hx;simp only[Qc_] at h0;omega) | (have h0:¬((s.length:Int)=0):=(by simpa using h0);omega)
 all_goals (try simp only[Qc_,Qe_,Qi_,Qf_] at *)
 ·have h0:(s.length:Int)=0:=(by simpa using h0)
  have e:decide (1≤s.length)=false:=QQ_ (by omega)
  simp only[Yq,e,Ql_];rfl
 ·have e:decide (s.length≤20)=false:=QQ_ (by omega)
  simp only[Yq,e,Ql_,Qn_];rfl
 ·have e0:Yw ((s.getD 0 0).toNat:Int)=false:=h2
  simp only[Yq,e0,Ql_,Qn_];rfl
 ·have h0:¬((s.length:Int)=0):=(by simpa using h0)
  simp only[JN];omega
 ·have h0:¬((s.length:Int)=0):=(by simpa using h0)
  simp only[WS,QO_,QG_,Qi_] at h3
  simp only[Yq,h3,Qn_];rfl
 ·have h0:¬((s.length:Int)=0):=(by simpa using h0)
  simp only[WS,QO_,QG_,Qf_] at h3
  have e1:decide (1≤s.length)=true:=QH_ (by omega)
  have e2:decide (s.length≤20)=true:=QH_ (by omega)
  have e3:Yw ((s.getD 0 0).toNat:Int)=true:=h2
  simp only[Yq,e1,e2,e3,h3,Qr_];rfl
def Zyi(d:Dec):=List.foldl imax d.c [IntKind.i64.wrap ((0:Int) - d.c)]
def ZtG(d:Dec):=(Zyi d).tmod (Zz d.scale)+Zz d.scale
def Zpp(d:Dec):=(Zyi d).tdiv (Zz d.scale)
def Zey(d:Dec):=IntKind.i64.wrap (Zpp d)
def Zl8(d:Dec):=(0:Int)≤d.scale∧d.scale≤(18:Int)
def ZiZ(d:Dec):=digits (IntKind.i64.wrap (ZtG d))
def Zyj(d:Dec):=(-1000000000000000000:Int)≤IntKind.i64.wrap (ZtG d)∧IntKind.i64.wrap (ZtG d)≤(1000000000000000000:Int)
theorem Z2h:Zj Tryz.prog 13 e13:=Zk<|Zh fun d=>EZ0<|by
 refine cf0 (Zb Zt9<|Zb Zt5<|Zb ZtE<|Zg) (fn:=Tryz.f13) rfl ?_
 refine sxT (fun Q=>(bif !Z6 d then Q (PV.str ([])) else ((Zl8 d)∧((Zz d.scale≠(0:Int))∧(bif decide (IntKind.i64.wrap (Zpp d) > (99999:Int)) then Q (PV.str ([])) else (((-1000000000000000000:Int)≤IntKind.i64.wrap (Zpp d)∧IntKind.i64.wrap (Zpp d)≤(1000000000000000000:Int))∧(bif decide (d.c < (0:Int)) then (((1:Nat)+(digits (Zey d)).length≤(9223372036854775807:Nat))∧(bif decide (d.scale > (0:Int)) then ((Zl8 d)∧((Zz d.scale≠(0:Int))∧((Zl8 d)∧((Zyj d)∧((([(45:UInt8)]++digits (Zey d)).length+(1:Nat)≤(9223372036854775807:Nat))∧(((0:Int)≤(1:Int)∧(1:Int)≤↑(ZiZ d).length)∧((([(45:UInt8)]++digits (Zey d)++[(46:UInt8)]).length+(List.drop (1:Nat) (ZiZ d)).length≤(9223372036854775807:Nat))∧Q (PV.str ([(45:UInt8)]++digits (Zey d)++[(46:UInt8)]++List.drop (1:Nat) (ZiZ d)))))))))) else Q (PV.str ([(45:UInt8)]++digits (Zey d))))) else (bif decide (d.scale > (0:Int)) then ((Zl8 d)∧((Zz d.scale≠(0:Int))∧((Zl8 d)∧((Zyj d)∧(((digits (Zey d)).length+(1:Nat)≤(9223372036854775807:Nat))∧(((0:Int)≤(1:Int)∧(1:Int)≤↑(ZiZ d).length)∧(((digits (Zey d)++[(46:UInt8)]).length+(List.drop (1:Nat) (ZiZ d)).length≤(9223372036854775807:Nat))∧Q (PV.str (digits (Zey d)++[(46:UInt8)]++List.drop (1:Nat) (ZiZ d)))))))))) else Q (PV.str (digits (Zey d))))))))))) (fun _=>by kernel_rfl) ?_
 delta Qn Zyi ZtG Zey Zl8 ZiZ Zyj Zpp
 refine Za (fun h0=>?_) (fun h0=>⟨?r17,⟨?r16,Za (fun h1=>?_) (fun h1=>⟨?r15,Za (fun h2=>⟨?r7,Za (fun h3=>⟨?r6,⟨?r5,⟨?r4,⟨?r3,⟨?r2,⟨?r1,⟨?r0, ?_⟩⟩⟩⟩⟩⟩⟩) (fun h3=>?_)⟩) (fun h2=>Za (fun h3=>⟨?r14,⟨?r13,⟨?r12,⟨?r11,⟨?r10,⟨?r9,⟨?r8, ?_⟩⟩⟩⟩⟩⟩⟩) (fun h3=>?_))⟩)⟩⟩)
 case r0|r1|r2|r3|r4|r5|r6|r7|r8|r9|r10|r11|r12|r13|r14|r15|r16|r17=>have hf:=ZdW (by simpa using h0);have l1:=Y0 (headD d);have l2:=Y0 (W4 d);(try simp only[hf.1,show (Y5 d).tdiv (Zz d.scale)=headD d from rfl,show (Y5 d).tmod (Zz d.scale)+Zz d.scale=W4 d from rfl,hf.2.1,hf.2.2.1,Qx_,Qs_,Q1_,K9_]);omega
 ·simp only[Qi_] at h0
  simp only[Wa,h0,Qd_];rfl
 all_goals have hf:=ZdW (by simpa using h0)
 all_goals simp only[Qf_] at h0
 all_goals simp only[hf.1,show (Y5 d).tdiv (Zz d.scale)=headD d from rfl,show (Y5 d).tmod (Zz d.scale)+Zz d.scale=W4 d from rfl,hf.2.1,hf.2.2.1] at *
 all_goals simp only[Wa,ZjV,ZmZ, *,Qb_,Qd_]
 all_goals rfl
theorem Zwq:Zj Tryz.prog 142 Z0W:=Zk<|Zh fun d=>EZ0<|by
 refine cf0 (Zb Z2h<|Zg) (fn:=Tryz.f142) rfl ?_
 refine sxT (fun Q=>Q (vB (!Wa d==[]))) (fun _=>by kernel_rfl) ?_
 delta Qn vB
 refine ?_
 rw[ZgC];rfl
theorem Zwr:Zj Tryz.prog 143 Z0X:=Zk<|Zh fun d=>EZ0<|by
 refine cf0 Zg (fn:=Tryz.f143) rfl ?_
 refine sxT (fun Q=>Q (vB (decide (d.c > (0:Int))))) (fun _=>by kernel_rfl) ?_
 delta Qn vB
 refine ?_
 all_goals (try simp only[ZaV,ZeD,ZgA,Zdl,Za2,ZeE,Zcc,WP,Jy,Zdm,Zdn,ZgB,ZeG,ZeH,ZeI,Ke_,Qi_,Qf_,bne] at *)
 all_goals rfl
theorem ZyZ:Zj Tryz.prog 90 e90:=Zk<|Zh fun d=>EZ0<|by
 refine cf0 Zg (fn:=Tryz.f90) rfl ?_
 refine sxT (fun Q=>Q (vB (d.c==(0:Int)&&(d.scale==(0:Int)&&true)))) (fun _=>by kernel_rfl) ?_
 delta Qn vB
 refine ?_
 simp only[ZV,Qr_];rfl
theorem Z1w:Zj Tryz.prog 169 Z3d:=Zk<|Zh fun d=>EZ0<|by
 refine cf0 Zg (fn:=Tryz.f169) rfl ?_
 refine sxT (fun Q=>Q (PV.agg [vI (List.foldl imax d.c [IntKind.i64.wrap ((0:Int) - d.c)]),vI d.scale])) (fun _=>by kernel_rfl) ?_
 delta Qn vI
 refine ?_
 simp only[ZcA,List.foldl,Zr];rfl
theorem Z1x:Zj Tryz.prog 168 Z3e:=Zk<|Zh fun a=>Zh fun b=>EZ0<|by
 refine cf0 (Zb Zt9<|Zb Zt5<|Zg) (fn:=Tryz.f168) rfl ?_
 refine sxT (fun Q=>(bif Z6 a then (bif Z6 b then (((0:Int)≤IntKind.i64.wrap ((6:Int) - a.scale)∧IntKind.i64.wrap ((6:Int) - a.scale)≤(18:Int))∧(((0:Int)≤IntKind.i64.wrap ((6:Int) - b.scale)∧IntKind.i64.wrap ((6:Int) - b.scale)≤(18:Int))∧Q (vB (decide (IntKind.i64.wrap (a.c *Zz (IntKind.i64.wrap ((6:Int) - a.scale))) < IntKind.i64.wrap (b.c *Zz (IntKind.i64.wrap ((6:Int) - b.scale)))))))) else Q (vB false)) else Q (vB false))) (fun _=>by kernel_rfl) ?_
 delta Qn vB
 refine Za (fun h0=>Za (fun h1=>⟨?r1,⟨?r0, ?_⟩⟩) (fun h1=>?_)) (fun h0=>?_)
 case r0|r1=>have h0:=Jz h0;have h1:=Jz h1;rw[h0.1] at *;rw[h1.1] at *;first | exact h0.2.1 | exact h1.2.1 | omega
 ·have f0:=Jz h0;have f1:=Jz h1
  rw[f0.1,f1.1,f0.2.2,f1.2.2]
  simp only[ZT,h0,h1,Qp_];rfl
 ·simp only[ZT,h0,h1,Qp_,Ql_];rfl
 ·simp only[ZT,h0,Ql_];rfl
def Zaa(i:Int)(l:List Glass):=(List.map Glass.enc l).getD i.toNat []
def ZtH(i:Int)(l:List Glass):=(0:Int)≤i∧(List.map Glass.enc l)[i.toNat]?=some (YK [PV.str [],vI 0,vI 0,vI 0,vI 0,vI 0,vI 0,vI 0,vI 0,vI 0,vI 0,vI 0,vI 0] (Zaa i l))
theorem Zhb:CSOk Tryz.prog (YY []):=Zg
theorem Zl9:Yl Tryz.prog (Z9 Tryz.f94 0) ZfR:=by
 refine lsG Zs.Γ (ZF Zs Zhb ZR ZS ZX (LS:=[]) (Yo (l:=[]) (by kernel_rfl) Z2) (n:=2000) (U4 Zm9) (U4 Wv) (fun x e s=>((U4 Ww x=true∧e= .ret∧s=U4 Zcx x)∨(U4 Ww x=false∧e= .exit 0∧s=U4 Zcw x))) (fun x=>(x.2.1.length - x.1).toNat) ZfQ Zl3 Zl4 (fun x hx=>?_)) cv4 (fun _=>rfl) (fun _ h=>h) (fun _ _ _ _ h f=>fC h f fE fE)
 ·obtain ⟨i,l,n,z⟩:=x
  simp only[U4,Wv] at hx
  refine sxT (fun Q=>(bif decide (i < ↑(List.map Glass.enc l).length) then ((ZtH i l)∧(bif Wh ((Zaa i l).headD PV.nil)==n then ((ZtH i l)∧Q (Ex.ret) (some ⟨25,[(4,AV.ptr 4 0),(5,AV.p (vB true))],[(4,[PV.str (Wh ((Zaa i l).headD PV.nil)),vI (Zd ((Zaa i l).tail.headD PV.nil)),vI (Zd ((Zaa i l).tail.tail.headD PV.nil)),vI (Zd ((Zaa i l).tail.tail.tail.headD PV.nil)),vI (Zd ((Zaa i l).tail.tail.tail.tail.headD PV.nil)),vI (Zd ((Zaa i l).tail.tail.tail.tail.tail.headD PV.nil)),vI (Zd ((Zaa i l).tail.tail.tail.tail.tail.tail.headD PV.nil)),vI (Zd ((Zaa i l).tail.tail.tail.tail.tail.tail.tail.headD PV.nil)),vI (Zd ((Zaa i l).tail.tail.tail.tail.tail.tail.tail.tail.headD PV.nil)),vI (Zd ((Zaa i l).tail.tail.tail.tail.tail.tail.tail.tail.tail.headD PV.nil)),vI (Zd ((Zaa i l).tail.tail.tail.tail.tail.tail.tail.tail.tail.tail.headD PV.nil)),vI (Zd ((Zaa i l).tail.tail.tail.tail.tail.tail.tail.tail.tail.tail.tail.headD PV.nil)),vI (Zd ((Zaa i l).tail.tail.tail.tail.tail.tail.tail.tail.tail.tail.tail.tail.headD PV.nil))])],[],[],[]⟩)) else Q (Ex.normal) (some ⟨25,[(4,AV.ptr 4 0),(6,AV.p (vI (IntKind.i64.wrap (i+(1:Int))))),(0,AV.p (PV.lst (List.map Glass.enc l))),(1,AV.p (PV.str n))],[(4,(W7 z))],[],[],[]⟩))) else Q (Ex.exit (0:Nat)) (some ⟨25,[(4,AV.ptr 4 0)],[(4,(W7 z))],[],[],[]⟩))) (fun _=>by kernel_rfl) ?_
  delta Zaa ZtH W7 vI vB
  refine Za (fun h0=>⟨?r1,Za (fun h1=>⟨?r0,.inr ⟨by simp,_,rfl, ?_⟩⟩) (fun h1=> .inl ⟨rfl,(IntKind.i64.wrap (i+(1:Int)),l,n,z),rfl, ?_, ?_, ?_⟩)⟩) (fun h0=> .inr ⟨by simp,_,rfl, ?_⟩)
  case r0|r1=>first | rfl | (rw[Zp];done) | (obtain ⟨a1,a2,a3⟩:=hx;simp only[Qk_,Qc_] at h0;exact Zv (fun _=>rfl) (by omega) (by omega))
  all_goals try dsimp only[U4]
  all_goals (obtain ⟨a1,a2,a3⟩:=hx;try simp only[Qk_,Qc_,Qe_] at h0)
  all_goals first | (have hk:i < l.length:=h0;obtain ⟨x,t,e1,e2,e3⟩:=Yg (l:=l) a1 (by omega);simp only[Yp e3] at *;have en:Z8 (l.drop i.toNat) n=bif x.name==n then (x,true) else Z8 t n:=(by rw[e1];rfl)) | skip
  all_goals try rw[Zf (show Fit (i+1) by constructor<;>omega)]
  all_goals try simp only[U4,Wv,Ww,Zcx,Zcw]
  ·change (x.name==n)=true at h1
   exact .inl ⟨by rw[en,h1];rfl,by trivial,by rw[en,h1];rfl⟩
  ·exact ⟨by omega,by omega,a3⟩
  ·omega
  ·change (x.name==n)=false at h1
   rw[en,e2,h1];exact fun e s h=>h
  ·exact .inr ⟨by rw[Q0_ (by omega)];rfl,by trivial,by trivial⟩
theorem ZmF:ZQ Tryz.prog [(3,ZfR)] Tryz.f94:=ZM (l:=[Z9 Tryz.f94 0]) (by kernel_rfl) (Ya (i:=3) (by kernel_rfl) rfl Zl9 (Z2))
def ZfG:=G3.mk (Dec.mk (0:Int) (0:Int)) (Dec.mk (0:Int) (0:Int)) (Dec.mk (0:Int) (0:Int))
def Zko(l:List Glass):=Zi Glass.dec (List.map Glass.enc l)
theorem Zza:Zj Tryz.prog 94 e94:=Zk<|Zh fun l=>Zh fun n=>EZ1 fun hp0=>by
 refine cfL Zhb ZmF rfl ?_
 refine sxT (fun Q=>((List.map Glass.enc l=List.map Glass.enc (Zko l))∧(([PV.str [],vI 0,vI 0,vI 0,vI 0,vI 0,vI 0,vI 0,vI 0,vI 0,vI 0,vI 0,vI 0]=(Glass.mk [] ZfG ZfG).enc)∧((Wv (0:Int) (Zko l) n (Glass.mk [] ZfG ZfG))∧(bif Ww (0:Int) (Zko l) n (Glass.mk [] ZfG ZfG) then Q (PV.tup [PV.agg (W7 (Z8 (List.drop (0:Nat) (Zko l)) n).fst),vB true]) else Q (PV.tup [PV.agg [PV.str ([]),vI 0,vI 0,vI 0,vI 0,vI 0,vI 0,vI 0,vI 0,vI 0,vI 0,vI 0,vI 0],vB false])))))) (fun _=>by kernel_rfl) ?_
 delta Qn ZfG Zko W7 vI vB
 refine ⟨?r1,⟨?r0,⟨?_,Za (fun h0=>?_) (fun h0=>?_)⟩⟩⟩
 case r0|r1=>first | rfl | (rw[Zp];done) | (obtain ⟨a1,a2,a3⟩:=hx;simp only[Qk_,Qc_] at h0;exact Zv (fun _=>rfl) (by omega) (by omega))
 all_goals simp only[Wv,Ww,Zp,QO_,QG_] at *
 ·exact ⟨by omega,by omega,hp0⟩
 ·obtain ⟨A,hA⟩:∃A,Z8 l n=A:=⟨_,rfl⟩
  rw[hA] at h0 ⊢
  obtain ⟨g,b⟩:=A
  simp only at h0
  subst h0;rfl
 ·rw[Zdp h0];rfl
theorem Z2i:Zj Tryz.prog 95 e95:=Zk<|Zh fun g=>Zh fun w=>EZ0<|by
 refine cf0 (Zb ZyS<|Zb ZyV<|Zb ZyW<|Zb Z1q<|Zb Z2c<|Zb ZyU<|Zb ZyT<|Zb Z1s<|Zg) (fn:=Tryz.f95) rfl ?_
 refine sxT (fun Q=>(bif g.name==[(97:UInt8),(105:UInt8),(114:UInt8)] then Q (PV.agg [vI 65536,vI 65536,vB false]) else (((0:Int)≤(0:Int)∧(0:Int) < (3:Int))∧(((0:Int)≤(0:Int)∧(0:Int) < (3:Int))∧(((0:Int)≤(1:Int)∧(1:Int) < (3:Int))∧(((0:Int)≤(1:Int)∧(1:Int) < (3:Int))∧(((0:Int)≤(2:Int)∧(2:Int) < (3:Int))∧(((0:Int)≤(2:Int)∧(2:Int) < (3:Int))∧Q (PV.agg (eIv (W3 (add (add (add (point (65536:Int)) (ZE (Wi (Ze g.b.a) (sqr w)) (sub (sqr w) (Ze g.c.a)))) (ZE (Wi (Ze g.b.b) (sqr w)) (sub (sqr w) (Ze g.c.b)))) (ZE (Wi (Ze g.b.c) (sqr w)) (sub (sqr w) (Ze g.c.c))))))))))))))) (fun _=>by kernel_rfl) ?_
 delta Qn eIv vI vB
 refine Za (fun h0=>?_) (fun h0=>⟨?r5,⟨?r4,⟨?r3,⟨?r2,⟨?r1,⟨?r0, ?_⟩⟩⟩⟩⟩⟩)
 case r0|r1|r2|r3|r4|r5=>first | rfl | (simp only[YH,dI,dIv];omega) | (simp[Zi,chunk];done) | (simp only[YH,dI,dIv];done) | (exact Zv (fun _=>rfl) (by omega) (by omega)) | (simp only[Qc_,Qk_] at *;exact Zv (fun _=>rfl) (by omega) (by omega)) | assumption | trivial | (simp_all;done) | omega
 ·have e:(g.name==Jf)=true:=h0
  simp only[W5,e,Qb_];rfl
 ·have e:(g.name==Jf)=false:=h0
  simp only[W5,e,Qd_,Zce];rfl
theorem Zpq:CSOk Tryz.prog (YY []):=Zg
theorem ZtI:Yl Tryz.prog (Z9 Tryz.f53 0) Zmk:=by
 refine lsG Zs.Γ (ZF Zs Zpq ZR ZS ZX (LS:=[]) (Yo (l:=[]) (by kernel_rfl) Z2) (n:=2000) (U2 ZvL) (U2 ZaD) (fun x e s=>((U2 ZaE x=true∧e= .ret∧s=U2 ZgR x)∨(U2 ZaE x=false∧e= .exit 0∧s=U2 ZgQ x))) (fun x=>(x.2.length - x.1).toNat) Zmj Zte Ztf (fun x hx=>?_)) cv2 (fun _=>rfl) (fun _ h=>h) (fun _ _ _ _ h f=>fC h f fE fE)
 ·obtain ⟨i,l⟩:=x
  simp only[U2,ZaD] at hx
  refine sxT (fun Q=>(bif decide (i < ↑(List.map Face.enc l).length) then (((0:Int)≤i∧(List.map Face.enc l)[i.toNat]?=some (YK [vB false,vI 0,vI 0,vI 0,vI 0,vI 0,vI 0,vI 0,vI 0,vI 0,vI 0,vI 0,vI 0,PV.str []] ((List.map Face.enc l).getD i.toNat [])))∧(bif !Zl (((List.map Face.enc l).getD i.toNat []).headD PV.nil) then Q (Ex.ret) (some ⟨16,[(2,AV.p (vB true))],[],[],[],[]⟩) else Q (Ex.normal) (some ⟨16,[(3,AV.p (vI (IntKind.i64.wrap (i+(1:Int))))),(0,AV.p (PV.lst (List.map Face.enc l)))],[],[],[],[]⟩))) else Q (Ex.exit (0:Nat)) (some ⟨16,[],[],[],[],[]⟩))) (fun _=>by kernel_rfl) ?_
  delta vI vB
  refine Za (fun h0=>⟨?r0,Za (fun h1=> .inr ⟨by simp,_,rfl, ?_⟩) (fun h1=> .inl ⟨rfl,(IntKind.i64.wrap (i+(1:Int)),l),rfl, ?_, ?_, ?_⟩)⟩) (fun h0=> .inr ⟨by simp,_,rfl, ?_⟩)
  case r0=>first | rfl | (rw[ZI];done) | (obtain ⟨a1,a2,a3⟩:=hx;simp only[Qk_,Qc_] at h0;exact Zv (fun _=>rfl) (by omega) (by omega))
  all_goals try dsimp only[U2]
  all_goals (obtain ⟨a1,a2,a3⟩:=hx;try simp only[Qk_,Qc_,Qe_] at h0)
  all_goals first | (have hk:i < l.length:=h0;obtain ⟨x,t,e1,e2,e3⟩:=Yg (l:=l) a1 (by omega);simp only[Yp e3] at *;have en:YL (l.drop i.toNat)=(!x.stop||YL t):=(by rw[e1];rfl)) | skip
  all_goals try rw[Zf (show Fit (i+1) by constructor<;>omega)]
  all_goals try simp only[U2,ZaD,ZaE,ZgR,ZgQ]
  ·change (!x.stop)=true at h1
   exact .inl ⟨by rw[en,h1];rfl,by trivial,by trivial⟩
  ·exact ⟨by omega,by omega,a3⟩
  ·omega
  ·change (!x.stop)=false at h1
   rw[en,e2,h1];exact fun e s h=>h
  ·exact .inr ⟨by rw[Q0_ (by omega)];rfl,by trivial,by trivial⟩
theorem Zws:ZQ Tryz.prog [(3,Zmk)] Tryz.f53:=ZM (l:=[Z9 Tryz.f53 0]) (by kernel_rfl) (Ya (i:=3) (by kernel_rfl) rfl ZtI (Z2))
theorem Z2j:Zj Tryz.prog 53 e53:=Zk<|Zh fun l=>EZ1 fun hp0=>by
 refine cfL Zpq Zws rfl ?_
 refine sxT (fun Q=>((List.map Face.enc l=List.map Face.enc (Zi Face.dec (List.map Face.enc l)))∧((ZaD (0:Int) (Zi Face.dec (List.map Face.enc l)))∧(bif ZaE (0:Int) (Zi Face.dec (List.map Face.enc l)) then Q (vB true) else Q (vB false))))) (fun _=>by kernel_rfl) ?_
 delta Qn vB
 refine ⟨?r0,⟨?_,Za (fun h0=>?_) (fun h0=>?_)⟩⟩
 case r0=>first | rfl | (rw[ZI];done) | (obtain ⟨a1,a2,a3⟩:=hx;simp only[Qk_,Qc_] at h0;exact Zv (fun _=>rfl) (by omega) (by omega))
 all_goals simp only[ZaD,ZaE,ZI,QO_,QG_] at *
 ·exact ⟨by omega,by omega,hp0⟩
 ·rw[h0];rfl
 ·rw[h0];rfl
def ZtJ(f:Face)(Q:PV→Prop):Prop:=bif f.radius.c==(0:Int) then Q (vB true) else Q (vB (!ZT (ZcA f.radius) f.aperture))
theorem Z1y:Zj Tryz.prog 144 Z0Y:=Zk<|Zh fun f=>Zh fun g=>EZ1 fun hp0=>by
 refine cf0 (Zb Zwq<|Zb Zwr<|Zb ZyZ<|Zb Zza<|Zb Zwp<|Zb Z1w<|Zb Z1x<|Zg) (fn:=Tryz.f144) rfl ?_
 refine sxT (fun Q=>(bif !printable f.aperture then Q (vB false) else (bif !decide (f.aperture.c > (0:Int)) then Q (vB false) else (bif !printable f.thick then Q (vB false) else (bif decide (f.thick.c < (0:Int)) then Q (vB false) else (bif f.stop then (bif ZV f.radius then (bif ZV f.conic then (bif ZV f.a4 then (bif ZV f.a6 then Q (vB (f.glass==[])) else Q (vB false)) else Q (vB false)) else Q (vB false)) else Q (vB false)) else ((List.map Glass.enc g=List.map Glass.enc (Zi Glass.dec (List.map Glass.enc g)))∧(((Zi Glass.dec (List.map Glass.enc g)).length≤(140737488355328:Nat))∧(bif printable f.radius then (bif printable f.conic then (bif printable f.a4 then (bif printable f.a6 then (bif Yq f.glass then (bif (Z8 (Zi Glass.dec (List.map Glass.enc g)) f.glass).snd then (ZtJ f Q) else (bif f.glass==[(97:UInt8),(105:UInt8),(114:UInt8)] then (ZtJ f Q) else Q (vB false))) else Q (vB false)) else Q (vB false)) else Q (vB false)) else Q (vB false)) else Q (vB false)))))))))) (fun _=>by kernel_rfl) ?_
 delta Qn ZtJ vB
 refine Za (fun h0=>?_) (fun h0=>Za (fun h1=>?_) (fun h1=>Za (fun h2=>?_) (fun h2=>Za (fun h3=>?_) (fun h3=>Za (fun h4=>Za (fun h5=>Za (fun h6=>Za (fun h7=>Za (fun h8=>?_) (fun h8=>?_)) (fun h7=>?_)) (fun h6=>?_)) (fun h5=>?_)) (fun h4=>⟨?r1,⟨?r0,Za (fun h5=>Za (fun h6=>Za (fun h7=>Za (fun h8=>Za (fun h9=>Za (fun h10=>Za (fun h11=>?_) (fun h11=>?_)) (fun h10=>Za (fun h11=>Za (fun h12=>?_) (fun h12=>?_)) (fun h11=>?_))) (fun h9=>?_)) (fun h8=>?_)) (fun h7=>?_)) (fun h6=>?_)) (fun h5=>?_)⟩⟩)))))
 case r0|r1=>first | rfl | (rw[Zp];done) | (simp only[Zp];omega) | (simp only[Face.enc];rfl)
 all_goals (try simp only[Zp,Qi_,Qf_] at *)
 all_goals simp only[YE,Jf, *,Qp_,Ql_,Qr_,Qn_,Qu_,Qt_,Q4_,Qw_,Q5_,Q3_,Qb_,Qd_]
 all_goals first | rfl | (simp only[ZV,Qr_, *,Qp_,Ql_,Qr_,Qn_,Qu_,Qt_,Q4_,Qw_,Q5_,Q3_,Qb_,Qd_];first | done | rfl)
def ZqL:=YY [(141,Z0V),(142,Z0W),(143,Z0X),(144,Z0Y)]
def XP(i:Int)(l:LensM):=(List.map Face.enc l.faces).getD i.toNat []
def ZtK(i:Int)(l:LensM):=(0:Int)≤i∧(List.map Face.enc l.faces)[i.toNat]?=some (YK [vB false,vI 0,vI 0,vI 0,vI 0,vI 0,vI 0,vI 0,vI 0,vI 0,vI 0,vI 0,vI 0,PV.str []] (XP i l))
theorem Zhc:CSOk Tryz.prog ZqL:=Zb Zwp<|Zb Zwq<|Zb Zwr<|Zb Z1y<|Zg
theorem ZlA:Yl Tryz.prog (Z9 Tryz.f87 0) ZfT:=by
 refine lsG Zs.Γ (ZF Zs Zhc ZR ZS ZX (LS:=[]) (Yo (l:=[]) (by kernel_rfl) Z2) (n:=2000) (U4 ZmA) (U4 Wx) (fun x e s=>((U4 Wy x=true∧e= .ret∧s=U4 Zcz x)∨(U4 Wy x=false∧e= .exit 0∧s=U4 Zcy x))) (fun x=>(x.2.2.2.faces.length - x.1).toNat) ZfS Zl5 Zl6 (fun x hx=>?_)) cv4 (fun _=>rfl) (fun _ h=>h) (fun _ _ _ _ h f=>fC h f fE fE)
 ·obtain ⟨i,sm,g,l⟩:=x
  simp only[U4,Wx] at hx
  refine sxT (fun Q=>(bif decide (i < ↑(List.map Face.enc l.faces).length) then ((ZtK i l)∧(([vB (Zl ((XP i l).headD PV.nil)),vI (Zd ((XP i l).tail.headD PV.nil)),vI (Zd ((XP i l).tail.tail.headD PV.nil)),vI (Zd ((XP i l).tail.tail.tail.headD PV.nil)),vI (Zd ((XP i l).tail.tail.tail.tail.headD PV.nil)),vI (Zd ((XP i l).tail.tail.tail.tail.tail.headD PV.nil)),vI (Zd ((XP i l).tail.tail.tail.tail.tail.tail.headD PV.nil)),vI (Zd ((XP i l).tail.tail.tail.tail.tail.tail.tail.headD PV.nil)),vI (Zd ((XP i l).tail.tail.tail.tail.tail.tail.tail.tail.headD PV.nil)),vI (Zd ((XP i l).tail.tail.tail.tail.tail.tail.tail.tail.tail.headD PV.nil)),vI (Zd ((XP i l).tail.tail.tail.tail.tail.tail.tail.tail.tail.tail.headD PV.nil)),vI (Zd ((XP i l).tail.tail.tail.tail.tail.tail.tail.tail.tail.tail.tail.headD PV.nil)),vI (Zd ((XP i l).tail.tail.tail.tail.tail.tail.tail.tail.tail.tail.tail.tail.headD PV.nil)),PV.str (Wh ((XP i l).tail.tail.tail.tail.tail.tail.tail.tail.tail.tail.tail.tail.tail.headD PV.nil))]=(Face.dec (XP i l)).enc)∧((List.map Glass.enc g=List.map Glass.enc (Zi Glass.dec (List.map Glass.enc g)))∧(((Zi Glass.dec (List.map Glass.enc g)).length≤(140737488355328:Nat))∧(bif !YE (Face.dec (XP i l)) (Zi Glass.dec (List.map Glass.enc g)) then Q (Ex.ret) (some ⟨55,[(4,AV.p (vB false))],[],[],[],[]⟩) else (bif sm then Q (Ex.normal) (some ⟨55,[(6,AV.p (vI (IntKind.i64.wrap (i+(1:Int))))),(2,AV.ptr 2 0),(5,AV.p (vB true)),(1,AV.p (PV.lst (List.map Glass.enc g)))],[(2,(Z4 l))],[],[],[]⟩) else ((ZtK i l)∧Q (Ex.normal) (some ⟨55,[(6,AV.p (vI (IntKind.i64.wrap (i+(1:Int))))),(2,AV.ptr 2 0),(5,AV.p (vB (!Zl ((XP i l).headD PV.nil)))),(1,AV.p (PV.lst (List.map Glass.enc g)))],[(2,(Z4 l))],[],[],[]⟩)))))))) else Q (Ex.exit (0:Nat)) (some ⟨55,[(5,AV.p (vB sm))],[],[],[],[]⟩))) (fun _=>by kernel_rfl) ?_
  delta XP ZtK Z4 vI vB
  refine Za (fun h0=>⟨?r4,⟨?r3,⟨?r2,⟨?r1,Za (fun h1=> .inr ⟨by simp,_,rfl, ?_⟩) (fun h1=>Za (fun h2=> .inl ⟨rfl,(IntKind.i64.wrap (i+(1:Int)),true,g,l),rfl, ?_, ?_, ?_⟩) (fun h2=>⟨?r0,.inl ⟨rfl,(IntKind.i64.wrap (i+(1:Int)),!Zl (((List.map Face.enc l.faces).getD i.toNat []).headD PV.nil),g,l),rfl, ?_, ?_, ?_⟩⟩))⟩⟩⟩⟩) (fun h0=> .inr ⟨by simp,_,rfl, ?_⟩)
  case r0|r1|r2|r3|r4=>first | rfl | (rw[Zp];done) | (simp only[Zp];omega) | (simp only[Face.enc];rfl) | (obtain ⟨a1,a2,a3,a4⟩:=hx;simp only[Qk_,Qc_] at h0;first | exact Zv (fun _=>rfl) (by omega) (by omega) | (obtain ⟨x,t,e1,e2,e3⟩:=Yg (l:=l.faces) a1 (by omega);simp only[Yp e3];rfl)) | (simp only[LensM.enc,ZI];done)
  all_goals try dsimp only[U4]
  all_goals (obtain ⟨a1,a2,a3,a4⟩:=hx;try simp only[Qk_,Qc_,Qe_] at h0)
  all_goals first | (have hk:i < l.faces.length:=h0;obtain ⟨x,t,e1,e2,e3⟩:=Yg (l:=l.faces) a1 (by omega);simp only[Yp e3,Zp,show Face.dec (Face.enc x)=x from rfl,Qi_,Qf_] at *;have en:(l.faces.drop i.toNat).all (YE · g)=(YE x g&&t.all (YE · g)):=(by rw[e1];rfl);have es:YL (l.faces.drop i.toNat)=(!x.stop||YL t):=(by rw[e1];rfl)) | skip
  all_goals try rw[Zf (show Fit (i+1) by constructor<;>omega)]
  all_goals try simp only[U4,Wx,Wy,Zcz,Zcy]
  all_goals (try change x.stop=_ at h3)
  all_goals first
   | (exact .inl ⟨by rw[en,h1];rfl,by trivial,by trivial⟩)
   | (exact ⟨by omega,by omega,a3,a4⟩)
   | omega
   | (rw[en,es,e2,h1,h2,h3];exact fun e s h=>h)
   | (rw[en,es,e2,h1,h2];exact fun e s h=>h)
   | (exact .inr ⟨by rw[Q0_ (by omega)];rfl,by trivial,by rw[Q0_ (by omega),show YL []=false from rfl,Q3_]⟩)
   | skip
theorem ZmG:ZQ Tryz.prog [(6,ZfT)] Tryz.f87:=ZM (l:=[Z9 Tryz.f87 0]) (by kernel_rfl) (Ya (i:=6) (by kernel_rfl) rfl ZlA (Z2))
def Zns(l:LensM):=LensM.mk l.name l.back (Zi Face.dec (List.map Face.enc l.faces))
theorem Z2k:Zj Tryz.prog 87 e87:=Zk<|Zh fun l=>Zh fun g=>EZ1 fun hp0=>by
 refine cfL Zhc ZmG rfl ?_
 refine sxT (fun Q=>(bif !Yq l.name then Q (vB false) else (bif !printable l.back then Q (vB false) else (bif !decide (l.back.c > (0:Int)) then Q (vB false) else (bif decide (↑(List.map Face.enc l.faces).length > (12:Int)) then Q (vB false) else ((List.map Glass.enc g=List.map Glass.enc (Zi Glass.dec (List.map Glass.enc g)))∧(((Z4 l)=(Zns l).enc)∧((Wx (0:Int) false (Zi Glass.dec (List.map Glass.enc g)) (Zns l))∧(bif Wy (0:Int) false (Zi Glass.dec (List.map Glass.enc g)) (Zns l) then Q (vB false) else Q (vB (false||YL (List.drop (0:Nat) (Zi Face.dec (List.map Face.enc l.faces)))))))))))))) (fun _=>by kernel_rfl) ?_
 delta Qn Zns Z4 vI vB
 refine Za (fun h0=>?_) (fun h0=>Za (fun h1=>?_) (fun h1=>Za (fun h2=>?_) (fun h2=>Za (fun h3=>?_) (fun h3=>⟨?r1,⟨?r0,⟨?_,Za (fun h4=>?_) (fun h4=>?_)⟩⟩⟩))))
 case r0|r1=>first | rfl | (rw[Zp];done) | (simp only[Zp];omega) | (simp only[Face.enc];rfl) | (obtain ⟨a1,a2,a3,a4⟩:=hx;simp only[Qk_,Qc_] at h0;first | exact Zv (fun _=>rfl) (by omega) (by omega) | (obtain ⟨x,t,e1,e2,e3⟩:=Yg (l:=l.faces) a1 (by omega);simp only[Yp e3];rfl)) | (simp only[LensM.enc,ZI];done)
 all_goals (try simp only[Zp,ZI,Qi_,Qf_,Qk_,QO_,QG_,Wy,Qw_,show (⟨l.name,l.back,l.faces⟩:LensM)=l from rfl] at *)
 all_goals first
  | (simp only[Wx,Qe_] at *;omega)
  | (have e:decide (l.faces.length≤12)=false:=(by simp only[Qc_] at h3;exact QQ_ (by omega));simp only[Xj, *,Qp_,Ql_,Qr_,Qn_,Qu_,Qt_,Q4_,Qw_,Q5_,Q3_,Qb_,Qd_];rfl)
  | (have e:decide (l.faces.length≤12)=true:=(by simp only[Qe_] at h3;exact QH_ (by omega));simp only[Xj, *,Qp_,Ql_,Qr_,Qn_,Qu_,Qt_,Q4_,Qw_,Q5_,Q3_,Qb_,Qd_];rfl)
  | (simp only[Xj, *,Qp_,Ql_,Qr_,Qn_,Qu_,Qt_,Q4_,Qw_,Q5_,Q3_,Qb_,Qd_];rfl)
  | skip
def ZtL:=YY [(83,e83)]
def Zeh:Option St:=some ⟨60,[(2,AV.p (vB false))],[],[],[],[]⟩
def ZhS(s:SysM):=List.map Surf.enc s.surfs
def ZcH(i:Int)(s:SysM):=(ZhS s).getD i.toNat []
theorem Ziq:CSOk Tryz.prog ZtL:=Zb Zeg<|Zg
theorem ZmH:Yl Tryz.prog (Z9 Tryz.f96 0) ZgT:=by
 refine lsG Zs.Γ (ZF Zs Ziq ZR ZS ZX (LS:=[]) (Yo (l:=[]) (by kernel_rfl) Z2) (n:=2000) (U2 ZoU) (U2 WI) (fun x e s=>((U2 WJ x=true∧e= .ret∧s=U2 Zdw x)∨(U2 WJ x=false∧e= .exit 0∧s=U2 Zdv x))) (fun x=>(x.2.surfs.length - x.1).toNat) ZgS ZmB ZmC (fun x hx=>?_)) cv2 (fun _=>rfl) (fun _ h=>h) (fun _ _ _ _ h f=>fC h f fE fE)
 ·obtain ⟨i,s⟩:=x
  simp only[U2,WI] at hx
  refine sxT (fun Q=>(bif decide (i < ↑(ZhS s).length) then (((0:Int)≤i∧(ZhS s)[i.toNat]?=some (YK [vB false,vB false,vI 0,vI 0,vB false,vI 0,vI 0,vB false,vI 0,vI 0,vB false,vI 0,vI 0,vB false,vI 0,vI 0,vB false,vI 0,vI 0,vB false,vI 0,vI 0,vB false] (ZcH i s)))∧(bif !right (Iv.dec (ZcH i s).tail.tail) then Q (Ex.ret) Zeh else (bif !right (Iv.dec (ZcH i s).tail.tail.tail.tail.tail) then Q (Ex.ret) Zeh else (bif !right (Iv.dec (ZcH i s).tail.tail.tail.tail.tail.tail.tail.tail) then Q (Ex.ret) Zeh else (bif !right (Iv.dec (ZcH i s).tail.tail.tail.tail.tail.tail.tail.tail.tail.tail.tail) then Q (Ex.ret) Zeh else (bif !right (Iv.dec (ZcH i s).tail.tail.tail.tail.tail.tail.tail.tail.tail.tail.tail.tail.tail.tail) then Q (Ex.ret) Zeh else (bif !right (Iv.dec (ZcH i s).tail.tail.tail.tail.tail.tail.tail.tail.tail.tail.tail.tail.tail.tail.tail.tail.tail) then Q (Ex.ret) Zeh else (bif !right (Iv.dec (ZcH i s).tail.tail.tail.tail.tail.tail.tail.tail.tail.tail.tail.tail.tail.tail.tail.tail.tail.tail.tail.tail) then Q (Ex.ret) Zeh else Q (Ex.normal) (some ⟨60,[(3,AV.p (vI (IntKind.i64.wrap (i+(1:Int))))),(1,AV.ptr 1 0)],[(1,[PV.lst (ZhS s),vI s.op.lo,vI s.op.hi,vB s.op.no])],[],[],[]⟩))))))))) else Q (Ex.exit (0:Nat)) (some ⟨60,[(1,AV.ptr 1 0)],[(1,[PV.lst (ZhS s),vI s.op.lo,vI s.op.hi,vB s.op.no])],[],[],[]⟩))) (fun _=>by kernel_rfl) ?_
  delta Zeh ZcH ZhS vI vB
  refine Za (fun h0=>⟨?r0,Za (fun h1=> .inr ⟨by simp,_,rfl, ?_⟩) (fun h1=>Za (fun h2=> .inr ⟨by simp,_,rfl, ?_⟩) (fun h2=>Za (fun h3=> .inr ⟨by simp,_,rfl, ?_⟩) (fun h3=>Za (fun h4=> .inr ⟨by simp,_,rfl, ?_⟩) (fun h4=>Za (fun h5=> .inr ⟨by simp,_,rfl, ?_⟩) (fun h5=>Za (fun h6=> .inr ⟨by simp,_,rfl, ?_⟩) (fun h6=>Za (fun h7=> .inr ⟨by simp,_,rfl, ?_⟩) (fun h7=> .inl ⟨rfl,(IntKind.i64.wrap (i+(1:Int)),s),rfl, ?_, ?_, ?_⟩)))))))⟩) (fun h0=> .inr ⟨by simp,_,rfl, ?_⟩)
  case r0=>first | rfl | (rw[YS];done) | (simp only[SysM.enc,YS];done) | (obtain ⟨a1,a2,a3⟩:=hx;simp only[Qk_,Qc_] at h0;exact Zv (fun _=>rfl) (by omega) (by omega))
  all_goals try dsimp only[U2]
  all_goals (obtain ⟨a1,a2,a3⟩:=hx;try simp only[Qk_,Qc_,Qe_] at h0)
  all_goals first | (have hk:i < s.surfs.length:=h0;obtain ⟨x,t,e1,e2,e3⟩:=Yg (l:=s.surfs) a1 (by omega);simp only[Yp e3] at *;have en:(s.surfs.drop i.toNat).all YF=(YF x&&t.all YF):=(by rw[e1];rfl)) | skip
  all_goals try rw[Zf (show Fit (i+1) by constructor<;>omega)]
  all_goals try simp only[U2,WI,WJ,Zdw,Zdv]
  all_goals (try simp only[Qi_,Qf_] at *)
  all_goals (try change right x.curve=_ at h1)
  all_goals (try change right x.conic=_ at h2)
  all_goals (try change right x.a4=_ at h3)
  all_goals (try change right x.a6=_ at h4)
  all_goals (try change right x.pos=_ at h5)
  all_goals (try change right x.open2=_ at h6)
  all_goals (try change right x.ratio=_ at h7)
  all_goals first
   | (have hr:YF x=false:=(by simp only[YF, *,Qp_,Ql_,Qr_,Qn_,Qu_,Qt_,Q4_,Qw_,Q5_,Q3_,Qb_,Qd_]);exact .inl ⟨by rw[en,hr];rfl,by trivial,by trivial⟩)
   | (exact ⟨by omega,by omega,a3⟩)
   | omega
   | (have hr:YF x=true:=(by simp only[YF, *,Qp_,Ql_,Qr_,Qn_,Qu_,Qt_,Q4_,Qw_,Q5_,Q3_,Qb_,Qd_]);rw[en,e2,hr];exact fun e s h=>h)
   | (exact .inr ⟨by rw[Q0_ (by omega)];rfl,by trivial,by trivial⟩)
   | skip
theorem Zpr:ZQ Tryz.prog [(3,ZgT)] Tryz.f96:=ZM (l:=[Z9 Tryz.f96 0]) (by kernel_rfl) (Ya (i:=3) (by kernel_rfl) rfl ZmH (Z2))
def Znt(s:SysM):=SysM.mk (Zi Surf.dec (List.map Surf.enc s.surfs)) s.op
theorem Z2l:Zj Tryz.prog 96 e96:=Zk<|Zh fun s=>EZ1 fun hp0=>by
 refine cfL Ziq Zpr rfl ?_
 refine sxT (fun Q=>(([PV.lst (List.map Surf.enc s.surfs),vI s.op.lo,vI s.op.hi,vB s.op.no]=(Znt s).enc)∧((WI (0:Int) (Znt s))∧(bif WJ (0:Int) (Znt s) then Q (vB false) else Q (vB (right s.op)))))) (fun _=>by kernel_rfl) ?_
 delta Qn Znt vI vB
 refine ⟨?r0,⟨?_,Za (fun h0=>?_) (fun h0=>?_)⟩⟩
 case r0=>first | rfl | (rw[YS];done) | (simp only[SysM.enc,YS];done) | (obtain ⟨a1,a2,a3⟩:=hx;simp only[Qk_,Qc_] at h0;exact Zv (fun _=>rfl) (by omega) (by omega))
 all_goals simp only[WJ,WI,YS,QO_,QG_,Qi_,Qf_] at *
 ·exact ⟨by omega,by omega,hp0⟩
 ·simp only[WQ,h0,Ql_];rfl
 ·simp only[WQ,h0,Qp_];rfl
def Zyk:=YY [(87,e87),(88,e88),(89,e89),(90,e90),(91,e91),(92,e92),(93,e93),(94,e94),(95,e95),(96,e96)]
def fA(i:Int)(l:LensM):=(List.map Face.enc l.faces).getD i.toNat []
def Zyl(i:Int)(l:LensM):=Dec.mk (Zd ((fA i l).tail.headD PV.nil)) (Zd ((fA i l).tail.tail.headD PV.nil))
def dAp(i:Int)(l:LensM):=Dec.mk (Zd ((fA i l).tail.tail.tail.headD PV.nil)) (Zd ((fA i l).tail.tail.tail.tail.headD PV.nil))
def dTh(i:Int)(l:LensM):=Dec.mk (Zd ((fA i l).tail.tail.tail.tail.tail.headD PV.nil)) (Zd ((fA i l).tail.tail.tail.tail.tail.tail.headD PV.nil))
def dCo(i:Int)(l:LensM):=Dec.mk (Zd ((fA i l).tail.tail.tail.tail.tail.tail.tail.headD PV.nil)) (Zd ((fA i l).tail.tail.tail.tail.tail.tail.tail.tail.headD PV.nil))
def dA4(i:Int)(l:LensM):=Dec.mk (Zd ((fA i l).tail.tail.tail.tail.tail.tail.tail.tail.tail.headD PV.nil)) (Zd ((fA i l).tail.tail.tail.tail.tail.tail.tail.tail.tail.tail.headD PV.nil))
def dA6(i:Int)(l:LensM):=Dec.mk (Zd ((fA i l).tail.tail.tail.tail.tail.tail.tail.tail.tail.tail.tail.headD PV.nil)) (Zd ((fA i l).tail.tail.tail.tail.tail.tail.tail.tail.tail.tail.tail.tail.headD PV.nil))
def gN(i:Int)(l:LensM):=Wh ((fA i l).tail.tail.tail.tail.tail.tail.tail.tail.tail.tail.tail.tail.tail.headD PV.nil)
set_option maxHeartbeats 4000000 in
def JS(i:Int)(g:List Glass):=[(12,AV.p (vI (IntKind.i64.wrap (i+(1:Int))))),(9,AV.ptr 9 0),(10,AV.ptr 10 0),(11,AV.ptr 11 0),(5,AV.ptr 5 0),(1,AV.p (PV.lst (List.map Glass.enc g))),(8,AV.ptr 8 0),(3,AV.ptr 3 0),(6,AV.ptr 6 0)]
def Zkp(g:List Glass):=Zi Glass.dec (List.map Glass.enc g)
def Zei(i:Int)(g:List Glass)(l:LensM):=Z8 (Zkp g) (gN i l)
def JT:=[(Loc.b (nat_lit 9) (nat_lit 0),nat_lit 75),(Loc.b (nat_lit 6) (nat_lit 0),nat_lit 75)]
def ZA(i:Int)(l:LensM):=sqr (Ze (dAp i l))
def ZB(i:Int)(one:Iv)(l:LensM):=add one (Ze (dCo i l))
def Jk(z:SysM):=[PV.lst (List.map Surf.enc z.surfs),vI z.op.lo,vI z.op.hi,vB z.op.no]
def Xs(i:Int)(l:LensM):=Zl ((fA i l).headD PV.nil)
def Yk(i:Int)(one:Iv)(l:LensM):=ZE one (Ze (Zyl i l))
def Xt(i:Int)(g:List Glass)(ix:Iv)(w:Iv)(l:LensM):=ZE ix (W5 (Zei i g l).fst w)
def ZtM(i:Int)(g:List Glass)(s:SysM)(pos:Iv)(ix:Iv)(w:Iv)(one:Iv)(l:LensM):=List.map Surf.enc s.surfs++[[vB (Xs i l),vB true,vI (Yk i one l).lo,vI (Yk i one l).hi,vB (Yk i one l).no,vI (ZB i one l).lo,vI (ZB i one l).hi,vB (ZB i one l).no,vI (Ze (dA4 i l)).lo,vI (Ze (dA4 i l)).hi,vB (Ze (dA4 i l)).no,vI (Ze (dA6 i l)).lo,vI (Ze (dA6 i l)).hi,vB (Ze (dA6 i l)).no,vI pos.lo,vI pos.hi,vB pos.no,vI (ZA i l).lo,vI (ZA i l).hi,vB (ZA i l).no,vI (Xt i g ix w l).lo,vI (Xt i g ix w l).hi,vB (Xt i g ix w l).no]]
def ZtN(i:Int)(s:SysM)(pos:Iv)(ix:Iv)(one:Iv)(l:LensM):=List.map Surf.enc s.surfs++[[vB (Xs i l),vB true,vI (Yk i one l).lo,vI (Yk i one l).hi,vB (Yk i one l).no,vI (ZB i one l).lo,vI (ZB i one l).hi,vB (ZB i one l).no,vI (Ze (dA4 i l)).lo,vI (Ze (dA4 i l)).hi,vB (Ze (dA4 i l)).no,vI (Ze (dA6 i l)).lo,vI (Ze (dA6 i l)).hi,vB (Ze (dA6 i l)).no,vI pos.lo,vI pos.hi,vB pos.no,vI (ZA i l).lo,vI (ZA i l).hi,vB (ZA i l).no,vI (ZE ix one).lo,vI (ZE ix one).hi,vB (ZE ix one).no]]
def ZtO(i:Int)(s:SysM)(pos:Iv)(one:Iv)(l:LensM):=List.map Surf.enc s.surfs++[[vB (Xs i l),vB true,vI (Yk i one l).lo,vI (Yk i one l).hi,vB (Yk i one l).no,vI (ZB i one l).lo,vI (ZB i one l).hi,vB (ZB i one l).no,vI (Ze (dA4 i l)).lo,vI (Ze (dA4 i l)).hi,vB (Ze (dA4 i l)).no,vI (Ze (dA6 i l)).lo,vI (Ze (dA6 i l)).hi,vB (Ze (dA6 i l)).no,vI pos.lo,vI pos.hi,vB pos.no,vI (ZA i l).lo,vI (ZA i l).hi,vB (ZA i l).no,vI one.lo,vI one.hi,vB one.no]]
def WK(s:SysM):=(List.map Surf.enc s.surfs).length+(1:Nat)
def Zps(i:Int)(g:List Glass)(s:SysM)(pos:Iv)(ix:Iv)(w:Iv)(one:Iv)(l:LensM):=List.map Surf.enc s.surfs++[[vB (Xs i l),vB true,vI 0,vI 0,vB false,vI (ZB i one l).lo,vI (ZB i one l).hi,vB (ZB i one l).no,vI (Ze (dA4 i l)).lo,vI (Ze (dA4 i l)).hi,vB (Ze (dA4 i l)).no,vI (Ze (dA6 i l)).lo,vI (Ze (dA6 i l)).hi,vB (Ze (dA6 i l)).no,vI pos.lo,vI pos.hi,vB pos.no,vI (ZA i l).lo,vI (ZA i l).hi,vB (ZA i l).no,vI (Xt i g ix w l).lo,vI (Xt i g ix w l).hi,vB (Xt i g ix w l).no]]
def Zpt(i:Int)(s:SysM)(pos:Iv)(ix:Iv)(one:Iv)(l:LensM):=List.map Surf.enc s.surfs++[[vB (Xs i l),vB true,vI 0,vI 0,vB false,vI (ZB i one l).lo,vI (ZB i one l).hi,vB (ZB i one l).no,vI (Ze (dA4 i l)).lo,vI (Ze (dA4 i l)).hi,vB (Ze (dA4 i l)).no,vI (Ze (dA6 i l)).lo,vI (Ze (dA6 i l)).hi,vB (Ze (dA6 i l)).no,vI pos.lo,vI pos.hi,vB pos.no,vI (ZA i l).lo,vI (ZA i l).hi,vB (ZA i l).no,vI (ZE ix one).lo,vI (ZE ix one).hi,vB (ZE ix one).no]]
def Zpu(i:Int)(s:SysM)(pos:Iv)(one:Iv)(l:LensM):=List.map Surf.enc s.surfs++[[vB (Xs i l),vB true,vI 0,vI 0,vB false,vI (ZB i one l).lo,vI (ZB i one l).hi,vB (ZB i one l).no,vI (Ze (dA4 i l)).lo,vI (Ze (dA4 i l)).hi,vB (Ze (dA4 i l)).no,vI (Ze (dA6 i l)).lo,vI (Ze (dA6 i l)).hi,vB (Ze (dA6 i l)).no,vI pos.lo,vI pos.hi,vB pos.no,vI (ZA i l).lo,vI (ZA i l).hi,vB (ZA i l).no,vI one.lo,vI one.hi,vB one.no]]
def WL(i:Int)(pos:Iv)(l:LensM):=eIv (add pos (Ze (dTh i l)))
def Zhd(g:List Glass):=List.map Glass.enc g=List.map Glass.enc (Zkp g)
def Zhe:=[(97:UInt8),(105:UInt8),(114:UInt8)]
def Zhf(g:List Glass):=(Zkp g).length≤(140737488355328:Nat)
def Zhg(i:Int)(g:List Glass)(l:LensM):=(W7 (Zei i g l).fst)=(Zei i g l).fst.enc
theorem Zmr:CSOk Tryz.prog Zyk:=Zb Z2k<|Zb ZyS<|Zb ZyW<|Zb ZyZ<|Zb ZyT<|Zb ZyV<|Zb ZyU<|Zb Zza<|Zb Z2i<|Zb Z2l<|Zg
set_option maxHeartbeats 4000000 in
theorem ZqM:Yl Tryz.prog (Z9 Tryz.f41 0) Zke:=by
 refine lsG Zs.Γ (ZF Zs Zmr ZR ZS ZX (LS:=[]) (Yo (l:=[]) (by kernel_rfl) Z2) (n:=2000) (U9 Zkc) (U9 Zbb) (fun x e s=>(e= .exit 0∧s=U9 ZcE x)) (fun x=>(x.2.2.2.2.2.2.2.1.faces.length - x.1).toNat) Zkd Zq9 ZqA (fun x hx=>?_)) cv9 (fun _=>rfl) (fun _ h=>h) (fun _ _ _ _ h f=>fE h f)
 ·obtain ⟨i,g,s,pos,ix,w,one,l,z⟩:=x
  simp only[U9,Zbb] at hx
  refine sxT (fun Q=>(bif decide (i < ↑(List.map Face.enc l.faces).length) then (((0:Int)≤i∧(List.map Face.enc l.faces)[i.toNat]?=some (YK [vB false,vI 0,vI 0,vI 0,vI 0,vI 0,vI 0,vI 0,vI 0,vI 0,vI 0,vI 0,vI 0,PV.str []] (fA i l)))∧(bif !ZV (dA4 i l) then (bif Zd ((fA i l).tail.headD PV.nil)!=(0:Int) then (bif !Zl ((fA i l).headD PV.nil) then (bif !(gN i l)==Zhe then ((Zhd g)∧((Zhf g)∧((Zhg i g l)∧(((0:Nat) < (1:Nat)∧(WK s)* (176:Nat)≤(140737488355328:Nat)∧Lens (23:Nat) (ZtM i g s pos ix w one l))∧Q (Ex.normal) (some ⟨126,(JS i g),[(9,[PV.lst (ZtM i g s pos ix w one l),vI s.op.lo,vI s.op.hi,vB s.op.no]),(10,(WL i pos l)),(11,(eIv (W5 (Zei i g l).fst w))),(5,(eIv w)),(8,(eIv one)),(3,(Z4 l)),(6,(Jk z))],[],JT,[]⟩))))) else (((0:Nat) < (1:Nat)∧(WK s)* (176:Nat)≤(140737488355328:Nat)∧Lens (23:Nat) (ZtN i s pos ix one l))∧Q (Ex.normal) (some ⟨126,(JS i g),[(9,[PV.lst (ZtN i s pos ix one l),vI s.op.lo,vI s.op.hi,vB s.op.no]),(10,(WL i pos l)),(11,(eIv one)),(5,(eIv w)),(8,(eIv one)),(3,(Z4 l)),(6,(Jk z))],[],JT,[]⟩))) else (((0:Nat) < (1:Nat)∧(WK s)* (176:Nat)≤(140737488355328:Nat)∧Lens (23:Nat) (ZtO i s pos one l))∧Q (Ex.normal) (some ⟨126,(JS i g),[(9,[PV.lst (ZtO i s pos one l),vI s.op.lo,vI s.op.hi,vB s.op.no]),(10,(WL i pos l)),(11,(eIv ix)),(5,(eIv w)),(8,(eIv one)),(3,(Z4 l)),(6,(Jk z))],[],JT,[]⟩))) else (bif !Zl ((fA i l).headD PV.nil) then (bif !(gN i l)==Zhe then ((Zhd g)∧((Zhf g)∧((Zhg i g l)∧(((0:Nat) < (1:Nat)∧(WK s)* (176:Nat)≤(140737488355328:Nat)∧Lens (23:Nat) (Zps i g s pos ix w one l))∧Q (Ex.normal) (some ⟨126,(JS i g),[(9,[PV.lst (Zps i g s pos ix w one l),vI s.op.lo,vI s.op.hi,vB s.op.no]),(10,(WL i pos l)),(11,(eIv (W5 (Zei i g l).fst w))),(5,(eIv w)),(8,(eIv one)),(3,(Z4 l)),(6,(Jk z))],[],JT,[]⟩))))) else (((0:Nat) < (1:Nat)∧(WK s)* (176:Nat)≤(140737488355328:Nat)∧Lens (23:Nat) (Zpt i s pos ix one l))∧Q (Ex.normal) (some ⟨126,(JS i g),[(9,[PV.lst (Zpt i s pos ix one l),vI s.op.lo,vI s.op.hi,vB s.op.no]),(10,(WL i pos l)),(11,(eIv one)),(5,(eIv w)),(8,(eIv one)),(3,(Z4 l)),(6,(Jk z))],[],JT,[]⟩))) else (((0:Nat) < (1:Nat)∧(WK s)* (176:Nat)≤(140737488355328:Nat)∧Lens (23:Nat) (Zpu i s pos one l))∧Q (Ex.normal) (some ⟨126,(JS i g),[(9,[PV.lst (Zpu i s pos one l),vI s.op.lo,vI s.op.hi,vB s.op.no]),(10,(WL i pos l)),(11,(eIv ix)),(5,(eIv w)),(8,(eIv one)),(3,(Z4 l)),(6,(Jk z))],[],JT,[]⟩)))) else (bif Zd ((fA i l).tail.headD PV.nil)!=(0:Int) then (bif !Zl ((fA i l).headD PV.nil) then (bif !(gN i l)==Zhe then ((Zhd g)∧((Zhf g)∧((Zhg i g l)∧(((0:Nat) < (1:Nat)∧(WK s)* (176:Nat)≤(140737488355328:Nat)∧Lens (23:Nat) (List.map Surf.enc s.surfs++[[vB (Xs i l),vB !ZV (dA6 i l),vI (Yk i one l).lo,vI (Yk i one l).hi,vB (Yk i one l).no,vI (ZB i one l).lo,vI (ZB i one l).hi,vB (ZB i one l).no,vI (Ze (dA4 i l)).lo,vI (Ze (dA4 i l)).hi,vB (Ze (dA4 i l)).no,vI (Ze (dA6 i l)).lo,vI (Ze (dA6 i l)).hi,vB (Ze (dA6 i l)).no,vI pos.lo,vI pos.hi,vB pos.no,vI (ZA i l).lo,vI (ZA i l).hi,vB (ZA i l).no,vI (Xt i g ix w l).lo,vI (Xt i g ix w l).hi,vB (Xt i g ix w l).no]]))∧Q (Ex.normal) (some ⟨126,(JS i g),[(9,[PV.lst (List.map Surf.enc s.surfs++[[vB (Xs i l),vB (!ZV (dA6 i l)),vI (Yk i one l).lo,vI (Yk i one l).hi,vB (Yk i one l).no,vI (ZB i one l).lo,vI (ZB i one l).hi,vB (ZB i one l).no,vI (Ze (dA4 i l)).lo,vI (Ze (dA4 i l)).hi,vB (Ze (dA4 i l)).no,vI (Ze (dA6 i l)).lo,vI (Ze (dA6 i l)).hi,vB (Ze (dA6 i l)).no,vI pos.lo,vI pos.hi,vB pos.no,vI (ZA i l).lo,vI (ZA i l).hi,vB (ZA i l).no,vI (Xt i g ix w l).lo,vI (Xt i g ix w l).hi,vB (Xt i g ix w l).no]]),vI s.op.lo,vI s.op.hi,vB s.op.no]),(10,(WL i pos l)),(11,(eIv (W5 (Zei i g l).fst w))),(5,(eIv w)),(8,(eIv one)),(3,(Z4 l)),(6,(Jk z))],[],JT,[]⟩))))) else (((0:Nat) < (1:Nat)∧(WK s)* (176:Nat)≤(140737488355328:Nat)∧Lens (23:Nat) (List.map Surf.enc s.surfs++[[vB (Xs i l),vB !ZV (dA6 i l),vI (Yk i one l).lo,vI (Yk i one l).hi,vB (Yk i one l).no,vI (ZB i one l).lo,vI (ZB i one l).hi,vB (ZB i one l).no,vI (Ze (dA4 i l)).lo,vI (Ze (dA4 i l)).hi,vB (Ze (dA4 i l)).no,vI (Ze (dA6 i l)).lo,vI (Ze (dA6 i l)).hi,vB (Ze (dA6 i l)).no,vI pos.lo,vI pos.hi,vB pos.no,vI (ZA i l).lo,vI (ZA i l).hi,vB (ZA i l).no,vI (ZE ix one).lo,vI (ZE ix one).hi,vB (ZE ix one).no]]))∧Q (Ex.normal) (some ⟨126,(JS i g),[(9,[PV.lst (List.map Surf.enc s.surfs++[[vB (Xs i l),vB (!ZV (dA6 i l)),vI (Yk i one l).lo,vI (Yk i one l).hi,vB (Yk i one l).no,vI (ZB i one l).lo,vI (ZB i one l).hi,vB (ZB i one l).no,vI (Ze (dA4 i l)).lo,vI (Ze (dA4 i l)).hi,vB (Ze (dA4 i l)).no,vI (Ze (dA6 i l)).lo,vI (Ze (dA6 i l)).hi,vB (Ze (dA6 i l)).no,vI pos.lo,vI pos.hi,vB pos.no,vI (ZA i l).lo,vI (ZA i l).hi,vB (ZA i l).no,vI (ZE ix one).lo,vI (ZE ix one).hi,vB (ZE ix one).no]]),vI s.op.lo,vI s.op.hi,vB s.op.no]),(10,(WL i pos l)),(11,(eIv one)),(5,(eIv w)),(8,(eIv one)),(3,(Z4 l)),(6,(Jk z))],[],JT,[]⟩))) else (((0:Nat) < (1:Nat)∧(WK s)* (176:Nat)≤(140737488355328:Nat)∧Lens (23:Nat) (List.map Surf.enc s.surfs++[[vB (Xs i l),vB !ZV (dA6 i l),vI (Yk i one l).lo,vI (Yk i one l).hi,vB (Yk i one l).no,vI (ZB i one l).lo,vI (ZB i one l).hi,vB (ZB i one l).no,vI (Ze (dA4 i l)).lo,vI (Ze (dA4 i l)).hi,vB (Ze (dA4 i l)).no,vI (Ze (dA6 i l)).lo,vI (Ze (dA6 i l)).hi,vB (Ze (dA6 i l)).no,vI pos.lo,vI pos.hi,vB pos.no,vI (ZA i l).lo,vI (ZA i l).hi,vB (ZA i l).no,vI one.lo,vI one.hi,vB one.no]]))∧Q (Ex.normal) (some ⟨126,(JS i g),[(9,[PV.lst (List.map Surf.enc s.surfs++[[vB (Xs i l),vB (!ZV (dA6 i l)),vI (Yk i one l).lo,vI (Yk i one l).hi,vB (Yk i one l).no,vI (ZB i one l).lo,vI (ZB i one l).hi,vB (ZB i one l).no,vI (Ze (dA4 i l)).lo,vI (Ze (dA4 i l)).hi,vB (Ze (dA4 i l)).no,vI (Ze (dA6 i l)).lo,vI (Ze (dA6 i l)).hi,vB (Ze (dA6 i l)).no,vI pos.lo,vI pos.hi,vB pos.no,vI (ZA i l).lo,vI (ZA i l).hi,vB (ZA i l).no,vI one.lo,vI one.hi,vB one.no]]),vI s.op.lo,vI s.op.hi,vB s.op.no]),(10,(WL i pos l)),(11,(eIv ix)),(5,(eIv w)),(8,(eIv one)),(3,(Z4 l)),(6,(Jk z))],[],JT,[]⟩))) else (bif !Zl ((fA i l).headD PV.nil) then (bif !(gN i l)==Zhe then ((Zhd g)∧((Zhf g)∧((Zhg i g l)∧(((0:Nat) < (1:Nat)∧(WK s)* (176:Nat)≤(140737488355328:Nat)∧Lens (23:Nat) (List.map Surf.enc s.surfs++[[vB (Xs i l),vB !ZV (dA6 i l),vI 0,vI 0,vB false,vI (ZB i one l).lo,vI (ZB i one l).hi,vB (ZB i one l).no,vI (Ze (dA4 i l)).lo,vI (Ze (dA4 i l)).hi,vB (Ze (dA4 i l)).no,vI (Ze (dA6 i l)).lo,vI (Ze (dA6 i l)).hi,vB (Ze (dA6 i l)).no,vI pos.lo,vI pos.hi,vB pos.no,vI (ZA i l).lo,vI (ZA i l).hi,vB (ZA i l).no,vI (Xt i g ix w l).lo,vI (Xt i g ix w l).hi,vB (Xt i g ix w l).no]]))∧Q (Ex.normal) (some ⟨126,(JS i g),[(9,[PV.lst (List.map Surf.enc s.surfs++[[vB (Xs i l),vB (!ZV (dA6 i l)),vI 0,vI 0,vB false,vI (ZB i one l).lo,vI (ZB i one l).hi,vB (ZB i one l).no,vI (Ze (dA4 i l)).lo,vI (Ze (dA4 i l)).hi,vB (Ze (dA4 i l)).no,vI (Ze (dA6 i l)).lo,vI (Ze (dA6 i l)).hi,vB (Ze (dA6 i l)).no,vI pos.lo,vI pos.hi,vB pos.no,vI (ZA i l).lo,vI (ZA i l).hi,vB (ZA i l).no,vI (Xt i g ix w l).lo,vI (Xt i g ix w l).hi,vB (Xt i g ix w l).no]]),vI s.op.lo,vI s.op.hi,vB s.op.no]),(10,(WL i pos l)),(11,(eIv (W5 (Zei i g l).fst w))),(5,(eIv w)),(8,(eIv one)),(3,(Z4 l)),(6,(Jk z))],[],JT,[]⟩))))) else (((0:Nat) < (1:Nat)∧(WK s)* (176:Nat)≤(140737488355328:Nat)∧Lens (23:Nat) (List.map Surf.enc s.surfs++[[vB (Xs i l),vB !ZV (dA6 i l),vI 0,vI 0,vB false,vI (ZB i one l).lo,vI (ZB i one l).hi,vB (ZB i one l).no,vI (Ze (dA4 i l)).lo,vI (Ze (dA4 i l)).hi,vB (Ze (dA4 i l)).no,vI (Ze (dA6 i l)).lo,vI (Ze (dA6 i l)).hi,vB (Ze (dA6 i l)).no,vI pos.lo,vI pos.hi,vB pos.no,vI (ZA i l).lo,vI (ZA i l).hi,vB (ZA i l).no,vI (ZE ix one).lo,vI (ZE ix one).hi,vB (ZE ix one).no]]))∧Q (Ex.normal) (some ⟨126,(JS i g),[(9,[PV.lst (List.map Surf.enc s.surfs++[[vB (Xs i l),vB (!ZV (dA6 i l)),vI 0,vI 0,vB false,vI (ZB i one l).lo,vI (ZB i one l).hi,vB (ZB i one l).no,vI (Ze (dA4 i l)).lo,vI (Ze (dA4 i l)).hi,vB (Ze (dA4 i l)).no,vI (Ze (dA6 i l)).lo,vI (Ze (dA6 i l)).hi,vB (Ze (dA6 i l)).no,vI pos.lo,vI pos.hi,vB pos.no,vI (ZA i l).lo,vI (ZA i l).hi,vB (ZA i l).no,vI (ZE ix one).lo,vI (ZE ix one).hi,vB (ZE ix one).no]]),vI s.op.lo,vI s.op.hi,vB s.op.no]),(10,(WL i pos l)),(11,(eIv one)),(5,(eIv w)),(8,(eIv one)),(3,(Z4 l)),(6,(Jk z))],[],JT,[]⟩))) else (((0:Nat) < (1:Nat)∧(WK s)* (176:Nat)≤(140737488355328:Nat)∧Lens (23:Nat) (List.map Surf.enc s.surfs++[[vB (Xs i l),vB !ZV (dA6 i l),vI 0,vI 0,vB false,vI (ZB i one l).lo,vI (ZB i one l).hi,vB (ZB i one l).no,vI (Ze (dA4 i l)).lo,vI (Ze (dA4 i l)).hi,vB (Ze (dA4 i l)).no,vI (Ze (dA6 i l)).lo,vI (Ze (dA6 i l)).hi,vB (Ze (dA6 i l)).no,vI pos.lo,vI pos.hi,vB pos.no,vI (ZA i l).lo,vI (ZA i l).hi,vB (ZA i l).no,vI one.lo,vI one.hi,vB one.no]]))∧Q (Ex.normal) (some ⟨126,(JS i g),[(9,[PV.lst (List.map Surf.enc s.surfs++[[vB (Xs i l),vB (!ZV (dA6 i l)),vI 0,vI 0,vB false,vI (ZB i one l).lo,vI (ZB i one l).hi,vB (ZB i one l).no,vI (Ze (dA4 i l)).lo,vI (Ze (dA4 i l)).hi,vB (Ze (dA4 i l)).no,vI (Ze (dA6 i l)).lo,vI (Ze (dA6 i l)).hi,vB (Ze (dA6 i l)).no,vI pos.lo,vI pos.hi,vB pos.no,vI (ZA i l).lo,vI (ZA i l).hi,vB (ZA i l).no,vI one.lo,vI one.hi,vB one.no]]),vI s.op.lo,vI s.op.hi,vB s.op.no]),(10,(WL i pos l)),(11,(eIv ix)),(5,(eIv w)),(8,(eIv one)),(3,(Z4 l)),(6,(Jk z))],[],JT,[]⟩)))))) else Q (Ex.exit (0:Nat)) (some ⟨126,[(6,AV.ptr 6 0),(9,AV.ptr 9 0)],[(6,(Jk z)),(9,[PV.lst (List.map Surf.enc s.surfs),vI s.op.lo,vI s.op.hi,vB s.op.no])],[],[],[]⟩))) (fun _=>by kernel_rfl) ?_
  delta JS Zei JT ZA ZB Jk ZtM ZtN ZtO WK Zps Xs Zpt Yk Zpu Xt Zkp WL Zhd Zhe Zhf Zhg eIv W7 Z4 vI vB
  refine Za (fun h0=>⟨?r24,Za (fun h1=>Za (fun h2=>Za (fun h3=>Za (fun h4=>⟨?r3,⟨?r2,⟨?r1,⟨?r0, ?_⟩⟩⟩⟩) (fun h4=>⟨?r4, ?_⟩)) (fun h3=>⟨?r5, ?_⟩)) (fun h2=>Za (fun h3=>Za (fun h4=>⟨?r9,⟨?r8,⟨?r7,⟨?r6, ?_⟩⟩⟩⟩) (fun h4=>⟨?r10, ?_⟩)) (fun h3=>⟨?r11, ?_⟩))) (fun h1=>Za (fun h2=>Za (fun h3=>Za (fun h4=>⟨?r15,⟨?r14,⟨?r13,⟨?r12, ?_⟩⟩⟩⟩) (fun h4=>⟨?r16, ?_⟩)) (fun h3=>⟨?r17, ?_⟩)) (fun h2=>Za (fun h3=>Za (fun h4=>⟨?r21,⟨?r20,⟨?r19,⟨?r18, ?_⟩⟩⟩⟩) (fun h4=>⟨?r22, ?_⟩)) (fun h3=>⟨?r23, ?_⟩)))⟩) (fun h0=>?_)
  case r0|r1|r2|r3|r4|r5|r6|r7|r8|r9|r10|r11|r12|r13|r14|r15|r16|r17|r18|r19|r20|r21|r22|r23|r24=>first | rfl | (rw[Zp];done) | (simp only[SysM.enc,YS];done) | (simp only[Qf_,Zp,ZI,YS,QG_,show Zi Surf.dec []=[] from rfl,QJ_,ZbE,show (⟨l.name,l.back,l.faces⟩:LensM)=l from rfl] at *;have hl:=(WH h0).2;omega) | (try simp only[Zp,LensM.enc,ZI,Qk_] at *;first | done | rfl | omega | exact hp0 | (obtain ⟨⟨a1,a2,a3,a4,a5⟩,a6⟩:=hx;simp only[Qc_] at h0;first | omega | exact Zv (fun _=>rfl) (by omega) (by omega) | exact ⟨by decide,by omega,XZ (XI (e:=Surf.enc) (fun _=>rfl) _) rfl⟩) | (simp only[Qf_,show (⟨l.name,l.back,l.faces⟩:LensM)=l from rfl] at h0;obtain ⟨⟨f,t,hf⟩,_⟩:=WH h0;exact Zv (i:=0) (fun _=>rfl) (by omega) (by rw[hf];simp only[Qs_];omega)))
  all_goals (obtain ⟨⟨a1,a2,a3,a4,a5⟩,a6⟩:=hx;try simp only[Qk_,Qc_,Qe_] at h0)
  all_goals subst a6
  all_goals first | (have hk:i < l.faces.length:=h0;obtain ⟨x,t,e1,e2,e3⟩:=Yg (l:=l.faces) a1 (by omega);have eA:fA i l=Face.enc x:=Yp e3;have r1:Zyl i l=x.radius:=(by unfold Zyl;rw[eA];rfl);have r2:dAp i l=x.aperture:=(by unfold dAp;rw[eA];rfl);have r3:dTh i l=x.thick:=(by unfold dTh;rw[eA];rfl);have r4:dCo i l=x.conic:=(by unfold dCo;rw[eA];rfl);have r5:dA4 i l=x.a4:=(by unfold dA4;rw[eA];rfl);have r6:dA6 i l=x.a6:=(by unfold dA6;rw[eA];rfl);have r7:gN i l=x.glass:=(by unfold gN;rw[eA];rfl);(try simp only[r1,r2,r3,r4,r5,r6,r7,eA,Zp] at *)) | (exact .inr ⟨by simp,_,rfl,by trivial,by unfold U9 ZcE;(try dsimp only);rw[List.drop_eq_nil_of_le (by omega),show ∀p q,YX g w [] p q=[] from fun _ _=>rfl,List.append_nil];rfl⟩)
  all_goals (have hw:IntKind.i64.wrap (i+1)=i+1:=Zf (by constructor<;>omega);have eb:YX g w (l.faces.drop i.toNat) pos ix=Zal x pos (Xz x g w ix)::YX g w (l.faces.drop (IntKind.i64.wrap (i+1)).toNat) (add pos (Ze x.thick)) (ZaW x g w ix):=(by rw[hw,e1,e2];rfl))
  all_goals
   refine .inl ⟨by trivial,(IntKind.i64.wrap (i+1),g,⟨s.surfs++[Zal x pos (Xz x g w ix)],s.op⟩,add pos (Ze x.thick),ZaW x g w ix,w,point 65536,l,z), ?_, ?_, ?_, ?_⟩
   ·simp only[Qi_,Qf_,bne] at *
    have q1:Zd (x.enc.tail.headD PV.nil)=x.radius.c:=rfl
    have q2:Zl (x.enc.headD PV.nil)=x.stop:=rfl
    simp only[q1,q2] at *
    simp only[U9,Zkc,SysM.enc,LensM.enc,QR_,QE_,QN_,Surf.enc,Zal,Xz,ZaW,ZiC,ZcT,Jf,bne, *,Qp_,Ql_,Qr_,Qn_,Qu_,Qt_,Q4_,Qw_,Q5_,Q3_,Qb_,Qd_]
    try rfl
   ·simp only[U9,Zbb,hw,Qx_,Qs_,Q1_];exact ⟨⟨by omega,by omega,a3,a4,by omega⟩,trivial⟩
   ·simp only[hw];omega
   ·intro e s' h;refine ⟨h.1,h.2.trans ?_⟩;unfold U9 ZcE;rw[eb];simp only[QB_,QS_,QJ_]
theorem ZtP:ZQ Tryz.prog [(9,Zke)] Tryz.f41:=ZM (l:=[Z9 Tryz.f41 0]) (by kernel_rfl) (Ya (i:=9) (by kernel_rfl) rfl ZqM (Z2))
def Zd1(l:LensM):=List.map Face.enc l.faces
def W8(l:LensM):=Ze (Dec.mk (Zd (((Zd1 l).getD (0:Nat) []).tail.tail.tail.headD PV.nil)) (Zd (((Zd1 l).getD (0:Nat) []).tail.tail.tail.tail.headD PV.nil)))
def Zd2(g:List Glass):=Zi Glass.dec (List.map Glass.enc g)
def ZeK(l:LensM)(g:List Glass)(w:Iv):=List.map Surf.enc (Zi Surf.dec []++YX (Zd2 g) w (List.drop (0:Nat) (Zi Face.dec (Zd1 l))) (Ze l.back) (point (65536:Int)))
def Zhh(l:LensM):=LensM.mk l.name l.back (Zi Face.dec (Zd1 l))
def q11_28:=SysM.mk (Zi Surf.dec []) (Iv.mk (0:Int) (0:Int) false)
set_option maxHeartbeats 4000000 in
theorem Z2m:Zj Tryz.prog 41 e41:=Zk<|Zh fun l=>Zh fun g=>Zh fun w=>EZ1 fun hp0=>by
 refine cfL Zmr ZtP rfl ?_
 refine sxT (fun Q=>(((Z4 l)=(Zhh l).enc)∧((List.map Glass.enc g=List.map Glass.enc (Zd2 g))∧(((Zd2 g).length≤(140737488355328:Nat))∧(bif !Xj (Zhh l) (Zd2 g) then Q (PV.tup [PV.agg [.nil,vI 0,vI 0,vB false],vI 1]) else (((0:Int)≤(0:Int)∧(Zd1 l)[(0:Nat)]?=some (YK [vB false,vI 0,vI 0,vI 0,vI 0,vI 0,vI 0,vI 0,vI 0,vI 0,vI 0,vI 0,vI 0,PV.str []] ((Zd1 l).getD (0:Nat) [])))∧((List.map Glass.enc g=List.map Glass.enc (Zd2 g))∧(([PV.lst [],vI (W8 l).lo,vI (W8 l).hi,vB (W8 l).no]=(SysM.mk (Zi Surf.dec []) (W8 l)).enc)∧(((Z4 l)=(Zhh l).enc)∧(([PV.lst [],vI 0,vI 0,vB false]=q11_28.enc)∧((Zbb (0:Int) (Zd2 g) (SysM.mk (Zi Surf.dec []) (W8 l)) (Ze l.back) (point (65536:Int)) w (point (65536:Int)) (Zhh l) q11_28)∧(([PV.lst (ZeK l g w),vI (W8 l).lo,vI (W8 l).hi,vB (W8 l).no]=(SysM.mk (Zi Surf.dec (ZeK l g w)) (W8 l)).enc)∧(((Zi Surf.dec (ZeK l g w)).length≤(140737488355328:Nat))∧(bif !WQ (SysM.mk (Zi Surf.dec (ZeK l g w)) (W8 l)) then Q (PV.tup [PV.agg [.nil,vI 0,vI 0,vB false],vI 6]) else Q (PV.tup [PV.agg [PV.lst (ZeK l g w),vI (W8 l).lo,vI (W8 l).hi,vB (W8 l).no],vI 0]))))))))))))))) (fun _=>by kernel_rfl) ?_
 delta Qn W8 ZeK Zhh Zd2 Zd1 q11_28 Z4 vI vB
 refine ⟨?r9,⟨?r8,⟨?r7,Za (fun h0=>?_) (fun h0=>⟨?r6,⟨?r5,⟨?r4,⟨?r3,⟨?r2,⟨?_,⟨?r1,⟨?r0,Za (fun h1=>?_) (fun h1=>?_)⟩⟩⟩⟩⟩⟩⟩⟩)⟩⟩⟩
 case r0|r1|r2|r3|r4|r5|r6|r7|r8|r9=>first | rfl | (rw[Zp];done) | (simp only[SysM.enc,YS];done) | (simp only[Qf_,Zp,ZI,YS,QG_,show Zi Surf.dec []=[] from rfl,QJ_,ZbE,show (⟨l.name,l.back,l.faces⟩:LensM)=l from rfl] at *;have hl:=(WH h0).2;omega) | (try simp only[Zp,LensM.enc,ZI,Qk_] at *;first | done | rfl | omega | exact hp0 | (obtain ⟨⟨a1,a2,a3,a4,a5⟩,a6⟩:=hx;simp only[Qc_] at h0;first | omega | exact Zv (fun _=>rfl) (by omega) (by omega) | exact ⟨by decide,by omega,XZ (XI (e:=Surf.enc) (fun _=>rfl) _) rfl⟩) | (simp only[Qf_,show (⟨l.name,l.back,l.faces⟩:LensM)=l from rfl] at h0;obtain ⟨⟨f,t,hf⟩,_⟩:=WH h0;exact Zv (i:=0) (fun _=>rfl) (by omega) (by rw[hf];simp only[Qs_];omega)))
 all_goals simp only[Zp,ZI,YS,Qi_,Qf_,QG_,QO_,show Zi Surf.dec []=[] from rfl,QJ_,show (⟨l.name,l.back,l.faces⟩:LensM)=l from rfl] at *
 ·simp only[XJ,h0,Qd_];rfl
 all_goals obtain ⟨⟨f,t,hf⟩,hl⟩:=WH h0
 all_goals have ef:(List.map Face.enc l.faces).getD 0 []=Face.enc f:=(by rw[hf];rfl)
 all_goals simp only[ef] at *
 all_goals have e0:Wb l g w=⟨YX g w l.faces (Ze l.back) (point 65536),Ze f.aperture⟩:=(by unfold Wb Zna;rw[hf];rfl)
 ·exact ⟨⟨by omega,by simp,by simpa using hl,hp0,rfl⟩,rfl⟩
 ·change WQ ⟨YX g w l.faces (Ze l.back) (point 65536),Ze f.aperture⟩=false at h1
  rw[←e0] at h1
  simp only[XJ,h0,h1,Qb_,Qd_];rfl
 ·change WQ ⟨YX g w l.faces (Ze l.back) (point 65536),Ze f.aperture⟩=true at h1
  rw[←e0] at h1
  have eb:XJ l g w=(Wb l g w,0):=(by simp only[XJ,h0,h1,Qb_])
  rw[eb,e0];rfl
def ZmI:=YY [(11,e11),(45,e45),(12,e12)]
def ZfH(i:Int)(l:List I):=Zd (((List.map I.enc l).getD i.toNat []).headD PV.nil)
def ZtQ(i:Int)(l:List I):=hdec (5:Nat) (pick (IntKind.i64.wrap ((ZfH i l).tdiv (7:Int))) (50000:Int)) (5:Int)
def ZtR(i:Int)(l:List I):=hdec (5:Nat) (pick (IntKind.i64.wrap ((ZfH i l).tdiv (11:Int))) (3000:Int)) (5:Int)
def ZtS(i:Int)(l:List I):=hdec (5:Nat) (pick (IntKind.i64.wrap ((ZfH i l).tdiv (13:Int))) (9000:Int)) (5:Int)
def ZtT(i:Int)(l:List I):=hdec (3:Nat) (IntKind.i64.wrap (pick (IntKind.i64.wrap ((ZfH i l).tdiv (17:Int))) (200000:Int) - (1000:Int))) (3:Int)
def ZtU(i:Int)(out:List Glass)(l:List I):=List.map Glass.enc out++[[PV.str ([(103:UInt8)]++digits i),vI (hdec (5:Nat) (pick (ZfH i l) (200000:Int)) (5:Int)).c,vI (hdec (5:Nat) (pick (ZfH i l) (200000:Int)) (5:Int)).scale,vI (ZtQ i l).c,vI (ZtQ i l).scale,vI 0,vI 0,vI (ZtR i l).c,vI (ZtR i l).scale,vI (ZtS i l).c,vI (ZtS i l).scale,vI (ZtT i l).c,vI (ZtT i l).scale]]
def ZhT(i:Int)(l:List I):=(0:Int)≤i∧(List.map I.enc l)[i.toNat]?=some (YK [vI 0] ((List.map I.enc l).getD i.toNat []))
def Zkq:=(0:Int)≤(5:Int)∧(5:Int)≤(18:Int)
def ZtV:=(0:Int) < (200000:Int)∧(200000:Int)≤(4611686018427387904:Int)
theorem ZeL:CSOk Tryz.prog ZmI:=Zb ZyY<|Zb ZtE<|Zb Zkn<|Zg
theorem Zja:Yl Tryz.prog (Z9 Tryz.f10 0) Zbd:=by
 refine lsG Zs.Γ (ZF Zs ZeL ZR ZS (Zr6 (G:=(Gx.mk [] [] [] [] [23])) (Zr5) (Zo3)) (LS:=[]) (Yo (l:=[]) (by kernel_rfl) Z2) (n:=2000) (U3 Zee) (U3 XF) (fun x e s=>(e= .exit 0∧s=U3 Jj x)) (fun x=>(3 - x.1).toNat) Zef ZiM ZiN (fun x hx=>?_)) cv3 (fun _=>rfl) (fun _ h=>h) (fun _ _ _ _ h f=>fE h f)
 ·obtain ⟨i,out,l⟩:=x
  simp only[U3,XF] at hx
  refine sxT (fun Q=>(bif decide (i < ↑(List.map I.enc l).length) then (bif decide (i < (3:Int)) then (((-1000000000000000000:Int)≤i∧i≤(1000000000000000000:Int))∧(((1:Nat)+(digits i).length≤(9223372036854775807:Nat))∧((ZhT i l)∧(ZtV∧(Zkq∧((ZhT i l)∧(((7:Int)≠(0:Int))∧(((0:Int) < (50000:Int)∧(50000:Int)≤(4611686018427387904:Int))∧(Zkq∧((ZhT i l)∧(((11:Int)≠(0:Int))∧(((0:Int) < (3000:Int)∧(3000:Int)≤(4611686018427387904:Int))∧(Zkq∧((ZhT i l)∧(((13:Int)≠(0:Int))∧(((0:Int) < (9000:Int)∧(9000:Int)≤(4611686018427387904:Int))∧(Zkq∧((ZhT i l)∧(((17:Int)≠(0:Int))∧(ZtV∧(((0:Int)≤(3:Int)∧(3:Int)≤(18:Int))∧(((0:Nat) < (1:Nat)∧((List.map Glass.enc out).length+(1:Nat))* (112:Nat)≤(140737488355328:Nat)∧Lens (13:Nat) (ZtU i out l))∧Q (Ex.normal) (some ⟨80,[(4,AV.p (vI (IntKind.i64.wrap (i+(1:Int))))),(3,AV.p (PV.lst (ZtU i out l))),(0,AV.p (PV.lst (List.map I.enc l)))],[],[],[(Loc.t (nat_lit 3),nat_lit 30)],[]⟩))))))))))))))))))))))) else Q (Ex.exit (0:Nat)) (some ⟨80,[(3,AV.p (PV.lst (List.map Glass.enc out)))],[],[],[],[]⟩)) else Q (Ex.exit (0:Nat)) (some ⟨80,[(3,AV.p (PV.lst (List.map Glass.enc out)))],[],[],[],[]⟩))) (fun _=>by kernel_rfl) ?_
  delta ZtU ZfH ZhT Zkq ZtT ZtV ZtQ ZtR ZtS vI
  refine Za (fun h0=>Za (fun h1=>⟨?r21,⟨?r20,⟨?r19,⟨?r18,⟨?r17,⟨?r16,⟨?r15,⟨?r14,⟨?r13,⟨?r12,⟨?r11,⟨?r10,⟨?r9,⟨?r8,⟨?r7,⟨?r6,⟨?r5,⟨?r4,⟨?r3,⟨?r2,⟨?r1,⟨?r0, ?_⟩⟩⟩⟩⟩⟩⟩⟩⟩⟩⟩⟩⟩⟩⟩⟩⟩⟩⟩⟩⟩⟩) (fun h1=>?_)) (fun h0=>?_)
  case r0|r1|r2|r3|r4|r5|r6|r7|r8|r9|r10|r11|r12|r13|r14|r15|r16|r17|r18|r19|r20|r21=>first | rfl | omega | (rw[dI];done) | (obtain ⟨a1,a2,a3,a4⟩:=hx;simp only[Qk_,Qc_] at *;first | omega | exact Zv (fun _=>rfl) (by omega) (by omega) | exact ⟨by decide,by omega,XZ (XI (e:=Glass.enc) (fun _=>rfl) _) rfl⟩ | (have:=Y0 i;omega))
  all_goals (obtain ⟨a1,a2,a3,a4⟩:=hx;(try simp only[Z2G,Qk_] at *))
  all_goals (try simp only[Qc_,Qe_] at h0)
  all_goals (try simp only[Qc_,Qe_] at h1)
  all_goals first
   | (have hw:IntKind.i64.wrap (i+1)=i+1:=Zf (by constructor<;>omega)
      have eb:Zb0 (3 - i).toNat l i=ZjW l i::Zb0 (3 - (i+1)).toNat l (i+1):=(by rw[show (3 - i).toNat=(3 - (i+1)).toNat+1 by omega];rw[ZgF,QH_ h0,QH_ h1];rfl)
      refine .inl ⟨by trivial,(IntKind.i64.wrap (i+1),out++[ZjW l i],l), ?_, ?_, ?_, ?_⟩
      ·simp only[U3,Zee,QR_,QE_,QN_];rfl
      ·simp only[U3,XF,hw,Qx_,Qs_,Q1_];exact ⟨by omega,by omega,a3,by omega⟩
      ·simp only[hw];omega
      ·intro e s' h;refine ⟨h.1,h.2.trans ?_⟩;unfold U3 Jj;(try dsimp only);rw[hw,eb];simp only[List.append_assoc,List.cons_append,List.nil_append])
   | (have eb:Zb0 (3 - i).toNat l i=[]:=(by
       by_cases hi:i < 3
       ·rw[show (3 - i).toNat=(3 - (i+1)).toNat+1 by omega];rw[ZgF,show (decide (i < (l.length:Int))&&decide (i < 3))=false by simp;omega];rfl
       ·rw[show (3 - i).toNat=0 by omega];rfl)
      exact .inr ⟨by simp,_,rfl,by trivial,by unfold U3 Jj;(try dsimp only);(rw[eb,List.append_nil])<;>rfl⟩)
theorem Zkr:ZQ Tryz.prog [(4,Zbd)] Tryz.f10:=ZM (l:=[Z9 Tryz.f10 0]) (by kernel_rfl) (Ya (i:=4) (by kernel_rfl) rfl Zja (Z2))
def Zhi:=[[PV.str [(99:UInt8),(114:UInt8),(111:UInt8),(119:UInt8),(110:UInt8)],vI 103961,vI 5,vI 23179,vI 5,vI 101047,vI 5,vI 6,vI 3,vI 2002,vI 5,vI 1035607,vI 4],[PV.str [(102:UInt8),(108:UInt8),(105:UInt8),(110:UInt8),(116:UInt8)],vI 17376,vI 4,vI 31375,vI 5,vI 189878,vI 5,vI 1319,vI 5,vI 6231,vI 5,vI 1552363,vI 4]]
def J8:=(0:Int)≤(5:Int)∧(5:Int)≤(18:Int)
def Zpv:=(0:Int)≤(4:Int)∧(4:Int)≤(18:Int)
theorem Z2n:Zj Tryz.prog 10 e10:=Zk<|Zh fun l=>EZ1 fun hp0=>by
 refine ZiF Zs ZeL ZR ZS (Zr6 (G:=(Gx.mk [] [] [] [] [23])) (Zr5) (Zo3)) (n:=2000) (LS:=[(4,Zbd)]) (fn:=Tryz.f10) rfl Zkr ?_
 refine sxT (fun Q=>(J8∧(J8∧(J8∧(J8∧(J8∧(Zpv∧(J8∧(J8∧(J8∧(J8∧(J8∧(Zpv∧((Zhi=List.map Glass.enc (Zi Glass.dec Zhi))∧((List.map I.enc l=List.map I.enc (Zi I.dec (List.map I.enc l)))∧((XF (0:Int) (Zi Glass.dec Zhi) (Zi I.dec (List.map I.enc l)))∧Q (PV.lst (List.map Glass.enc (Zi Glass.dec Zhi++Zb0 (3:Nat) (Zi I.dec (List.map I.enc l)) (0:Int)))))))))))))))))))) (fun _=>by kernel_rfl) ?_
 delta Qn Zhi J8 Zpv vI
 refine ⟨?r13,⟨?r12,⟨?r11,⟨?r10,⟨?r9,⟨?r8,⟨?r7,⟨?r6,⟨?r5,⟨?r4,⟨?r3,⟨?r2,⟨?r1,⟨?r0,⟨?_, ?_⟩⟩⟩⟩⟩⟩⟩⟩⟩⟩⟩⟩⟩⟩⟩
 case r0|r1|r2|r3|r4|r5|r6|r7|r8|r9|r10|r11|r12|r13=>first | rfl | omega | (rw[dI];done) | (obtain ⟨a1,a2,a3,a4⟩:=hx;simp only[Qk_,Qc_] at *;first | omega | exact Zv (fun _=>rfl) (by omega) (by omega) | exact ⟨by decide,by omega,XZ (XI (e:=Glass.enc) (fun _=>rfl) _) rfl⟩ | (have:=Y0 i;omega))
 ·simp only[XF,dI];exact ⟨by omega,by omega,hp0,rfl⟩
 ·simp only[dI];rfl
def ZtW:=YY [(12,e12),(45,e45),(11,e11),(53,e53)]
def rA(i:Int)(l:List RawFace):=(List.map RawFace.enc l).getD i.toNat []
def ZtX(i:Int)(l:List RawFace):=Zd ((rA i l).headD PV.nil)
def qR(i:Int)(l:List RawFace):=Zd ((rA i l).tail.headD PV.nil)
def qA(i:Int)(l:List RawFace):=Zd ((rA i l).tail.tail.headD PV.nil)
def qT(i:Int)(l:List RawFace):=Zd ((rA i l).tail.tail.tail.headD PV.nil)
def qG(i:Int)(l:List RawFace):=Zd ((rA i l).tail.tail.tail.tail.headD PV.nil)
def qK(i:Int)(l:List RawFace):=Zd ((rA i l).tail.tail.tail.tail.tail.headD PV.nil)
set_option maxHeartbeats 4000000 in
def Zbj(g:List Glass):=List.map Glass.enc g
def ZeM(g:List Glass):=IntKind.i64.wrap (↑(Zbj g).length+(2:Int))
def Zpw:=(0:Int) < (7:Int)∧(7:Int)≤(4611686018427387904:Int)
def Zhj:=(0:Int) < (900:Int)∧(900:Int)≤(4611686018427387904:Int)
def Xu:=(0:Int)≤(1:Int)∧(1:Int)≤(18:Int)
def Zpx:=(0:Int) < (2:Int)∧(2:Int)≤(4611686018427387904:Int)
def Zcm:=(0:Int) < (6:Int)∧(6:Int)≤(4611686018427387904:Int)
def Xv:=(6:Int)≠(0:Int)
def Zd3:=(0:Int) < (30:Int)∧(30:Int)≤(4611686018427387904:Int)
def Yt(u:LensM):=(List.map Face.enc u.faces).length+(1:Nat)
def Xe(i:Int)(l:List RawFace):=hdec (1:Nat) (IntKind.i64.wrap ((-150:Int) - pick (qR i l) (900:Int))) (1:Int)
def Zw(i:Int)(l:List RawFace):=hdec (1:Nat) (IntKind.i64.wrap ((30:Int)+pick (qA i l) (70:Int))) (1:Int)
def Zx(i:Int)(l:List RawFace):=hdec (1:Nat) (pick (qT i l) (80:Int)) (1:Int)
def XQ(i:Int)(l:List RawFace):=hdec (1:Nat) (IntKind.i64.wrap (pick (IntKind.i64.wrap ((qK i l).tdiv (6:Int))) (30:Int) - (15:Int))) (1:Int)
def JU(i:Int)(g:List Glass)(l:List RawFace):=Wh (((Zbj g).getD (pick (qG i l) (ZeM g)).toNat []).headD PV.nil)
def Zpy(i:Int)(g:List Glass)(l:List RawFace)(u:LensM):=List.map Face.enc u.faces++[[vB false,vI (Xe i l).c,vI (Xe i l).scale,vI (Zw i l).c,vI (Zw i l).scale,vI (Zx i l).c,vI (Zx i l).scale,vI (XQ i l).c,vI (XQ i l).scale,vI 0,vI 0,vI 0,vI 0,PV.str (JU i g l)]]
def YV(i:Int)(g:List Glass)(l:List RawFace)(most:Int):=[(10,AV.p (vI (IntKind.i64.wrap (i+(1:Int))))),(9,AV.ptr 9 0),(2,AV.p (PV.lst (Zbj g))),(1,AV.p (PV.lst (List.map RawFace.enc l))),(8,AV.ptr 8 0),(3,pI most)]
def Yu:=[(Loc.b (nat_lit 9) (nat_lit 3),nat_lit 32),(Loc.b (nat_lit 8) (nat_lit 3),nat_lit 32)]
def Xw:=(0:Int) < (400:Int)∧(400:Int)≤(4611686018427387904:Int)
def WM:=(0:Int)≤(2:Int)∧(2:Int)≤(18:Int)
def Yd(i:Int)(l:List RawFace):=hdec (2:Nat) (IntKind.i64.wrap (pick (IntKind.i64.wrap ((qK i l).tdiv (6:Int))) (400:Int) - (200:Int))) (2:Int)
def Zpz(i:Int)(g:List Glass)(l:List RawFace)(u:LensM):=List.map Face.enc u.faces++[[vB false,vI (Xe i l).c,vI (Xe i l).scale,vI (Zw i l).c,vI (Zw i l).scale,vI (Zx i l).c,vI (Zx i l).scale,vI 0,vI 0,vI (Yd i l).c,vI (Yd i l).scale,vI 0,vI 0,PV.str (JU i g l)]]
def Zd4:=(12:Int)≠(0:Int)
def XR(i:Int)(l:List RawFace):=hdec (1:Nat) (IntKind.i64.wrap (pick (IntKind.i64.wrap ((qK i l).tdiv (12:Int))) (400:Int) - (200:Int))) (1:Int)
def Zp0(i:Int)(g:List Glass)(l:List RawFace)(u:LensM):=List.map Face.enc u.faces++[[vB false,vI (Xe i l).c,vI (Xe i l).scale,vI (Zw i l).c,vI (Zw i l).scale,vI (Zx i l).c,vI (Zx i l).scale,vI 0,vI 0,vI (Yd i l).c,vI (Yd i l).scale,vI (XR i l).c,vI (XR i l).scale,PV.str (JU i g l)]]
def Zp1(i:Int)(g:List Glass)(l:List RawFace)(u:LensM):=List.map Face.enc u.faces++[[vB false,vI (Xe i l).c,vI (Xe i l).scale,vI (Zw i l).c,vI (Zw i l).scale,vI (Zx i l).c,vI (Zx i l).scale,vI 0,vI 0,vI 0,vI 0,vI 0,vI 0,PV.str (JU i g l)]]
def Y6(i:Int)(l:List RawFace):=hdec (1:Nat) (IntKind.i64.wrap ((150:Int)+pick (qR i l) (900:Int))) (1:Int)
def Zp2(i:Int)(g:List Glass)(l:List RawFace)(u:LensM):=List.map Face.enc u.faces++[[vB false,vI (Y6 i l).c,vI (Y6 i l).scale,vI (Zw i l).c,vI (Zw i l).scale,vI (Zx i l).c,vI (Zx i l).scale,vI (XQ i l).c,vI (XQ i l).scale,vI 0,vI 0,vI 0,vI 0,PV.str (JU i g l)]]
def Zp3(i:Int)(g:List Glass)(l:List RawFace)(u:LensM):=List.map Face.enc u.faces++[[vB false,vI (Y6 i l).c,vI (Y6 i l).scale,vI (Zw i l).c,vI (Zw i l).scale,vI (Zx i l).c,vI (Zx i l).scale,vI 0,vI 0,vI (Yd i l).c,vI (Yd i l).scale,vI 0,vI 0,PV.str (JU i g l)]]
def Zp4(i:Int)(g:List Glass)(l:List RawFace)(u:LensM):=List.map Face.enc u.faces++[[vB false,vI (Y6 i l).c,vI (Y6 i l).scale,vI (Zw i l).c,vI (Zw i l).scale,vI (Zx i l).c,vI (Zx i l).scale,vI 0,vI 0,vI (Yd i l).c,vI (Yd i l).scale,vI (XR i l).c,vI (XR i l).scale,PV.str (JU i g l)]]
def Zp5(i:Int)(g:List Glass)(l:List RawFace)(u:LensM):=List.map Face.enc u.faces++[[vB false,vI (Y6 i l).c,vI (Y6 i l).scale,vI (Zw i l).c,vI (Zw i l).scale,vI (Zx i l).c,vI (Zx i l).scale,vI 0,vI 0,vI 0,vI 0,vI 0,vI 0,PV.str (JU i g l)]]
def Zp6(i:Int)(g:List Glass)(l:List RawFace)(u:LensM):=List.map Face.enc u.faces++[[vB false,vI 0,vI 0,vI (Zw i l).c,vI (Zw i l).scale,vI (Zx i l).c,vI (Zx i l).scale,vI (XQ i l).c,vI (XQ i l).scale,vI 0,vI 0,vI 0,vI 0,PV.str (JU i g l)]]
def Zp7(i:Int)(g:List Glass)(l:List RawFace)(u:LensM):=List.map Face.enc u.faces++[[vB false,vI 0,vI 0,vI (Zw i l).c,vI (Zw i l).scale,vI (Zx i l).c,vI (Zx i l).scale,vI 0,vI 0,vI (Yd i l).c,vI (Yd i l).scale,vI 0,vI 0,PV.str (JU i g l)]]
def Zp8(i:Int)(g:List Glass)(l:List RawFace)(u:LensM):=List.map Face.enc u.faces++[[vB false,vI 0,vI 0,vI (Zw i l).c,vI (Zw i l).scale,vI (Zx i l).c,vI (Zx i l).scale,vI 0,vI 0,vI (Yd i l).c,vI (Yd i l).scale,vI (XR i l).c,vI (XR i l).scale,PV.str (JU i g l)]]
def Zp9(i:Int)(g:List Glass)(l:List RawFace)(u:LensM):=List.map Face.enc u.faces++[[vB false,vI 0,vI 0,vI (Zw i l).c,vI (Zw i l).scale,vI (Zx i l).c,vI (Zx i l).scale,vI 0,vI 0,vI 0,vI 0,vI 0,vI 0,PV.str (JU i g l)]]
def Y7:=[(97:UInt8),(105:UInt8),(114:UInt8)]
def ZtY(i:Int)(g:List Glass)(l:List RawFace)(most:Int)(u:LensM)(z:LensM)(Q:Ex→Option St→Prop):Prop:=((0:Int) < IntKind.i64.wrap (↑(Zbj g).length+(2:Int))∧IntKind.i64.wrap (↑(Zbj g).length+(2:Int))≤(4611686018427387904:Int))∧(bif decide (pick (qG i l) (ZeM g) < ↑(Zbj g).length) then (((0:Int)≤pick (qG i l) (ZeM g)∧(Zbj g)[(pick (qG i l) (ZeM g)).toNat]?=some (YK [PV.str [],vI 0,vI 0,vI 0,vI 0,vI 0,vI 0,vI 0,vI 0,vI 0,vI 0,vI 0,vI 0] ((Zbj g).getD (pick (qG i l) (ZeM g)).toNat [])))∧(Zpw∧(bif decide (pick (qR i l) (7:Int) > (0:Int)) then (Zhj∧(Xu∧(((7:Int)≠(0:Int))∧(Zpx∧(bif pick (IntKind.i64.wrap ((qR i l).tdiv (7:Int))) (2:Int)==(0:Int) then (Zhj∧(Xu∧(Zcm∧(bif pick (qK i l) (6:Int)==(3:Int) then (Xv∧(Zd3∧(Xu∧(((0:Nat) < (1:Nat)∧(Yt u)* (120:Nat)≤(140737488355328:Nat)∧Lens (14:Nat) (Zpy i g l u))∧Q (Ex.normal) (some ⟨166,(YV i g l most),[(9,[PV.str u.name,vI u.back.c,vI u.back.scale,PV.lst (Zpy i g l u)]),(8,(Z4 z))],[],Yu,[]⟩))))) else (bif pick (qK i l) (6:Int)==(4:Int) then (Xv∧(Xw∧(WM∧(((0:Nat) < (1:Nat)∧(Yt u)* (120:Nat)≤(140737488355328:Nat)∧Lens (14:Nat) (Zpz i g l u))∧Q (Ex.normal) (some ⟨166,(YV i g l most),[(9,[PV.str u.name,vI u.back.c,vI u.back.scale,PV.lst (Zpz i g l u)]),(8,(Z4 z))],[],Yu,[]⟩))))) else (bif pick (qK i l) (6:Int)==(5:Int) then (Xv∧(Xw∧(WM∧(Zd4∧(Xw∧(Xu∧(((0:Nat) < (1:Nat)∧(Yt u)* (120:Nat)≤(140737488355328:Nat)∧Lens (14:Nat) (Zp0 i g l u))∧Q (Ex.normal) (some ⟨166,(YV i g l most),[(9,[PV.str u.name,vI u.back.c,vI u.back.scale,PV.lst (Zp0 i g l u)]),(8,(Z4 z))],[],Yu,[]⟩)))))))) else (((0:Nat) < (1:Nat)∧(Yt u)* (120:Nat)≤(140737488355328:Nat)∧Lens (14:Nat) (Zp1 i g l u))∧Q (Ex.normal) (some ⟨166,(YV i g l most),[(9,[PV.str u.name,vI u.back.c,vI u.back.scale,PV.lst (Zp1 i g l u)]),(8,(Z4 z))],[],Yu,[]⟩)))))))) else (Zcm∧(bif pick (qK i l) (6:Int)==(3:Int) then (Xv∧(Zd3∧(Xu∧(((0:Nat) < (1:Nat)∧(Yt u)* (120:Nat)≤(140737488355328:Nat)∧Lens (14:Nat) (Zp2 i g l u))∧Q (Ex.normal) (some ⟨166,(YV i g l most),[(9,[PV.str u.name,vI u.back.c,vI u.back.scale,PV.lst (Zp2 i g l u)]),(8,(Z4 z))],[],Yu,[]⟩))))) else (bif pick (qK i l) (6:Int)==(4:Int) then (Xv∧(Xw∧(WM∧(((0:Nat) < (1:Nat)∧(Yt u)* (120:Nat)≤(140737488355328:Nat)∧Lens (14:Nat) (Zp3 i g l u))∧Q (Ex.normal) (some ⟨166,(YV i g l most),[(9,[PV.str u.name,vI u.back.c,vI u.back.scale,PV.lst (Zp3 i g l u)]),(8,(Z4 z))],[],Yu,[]⟩))))) else (bif pick (qK i l) (6:Int)==(5:Int) then (Xv∧(Xw∧(WM∧(Zd4∧(Xw∧(Xu∧(((0:Nat) < (1:Nat)∧(Yt u)* (120:Nat)≤(140737488355328:Nat)∧Lens (14:Nat) (Zp4 i g l u))∧Q (Ex.normal) (some ⟨166,(YV i g l most),[(9,[PV.str u.name,vI u.back.c,vI u.back.scale,PV.lst (Zp4 i g l u)]),(8,(Z4 z))],[],Yu,[]⟩)))))))) else (((0:Nat) < (1:Nat)∧(Yt u)* (120:Nat)≤(140737488355328:Nat)∧Lens (14:Nat) (Zp5 i g l u))∧Q (Ex.normal) (some ⟨166,(YV i g l most),[(9,[PV.str u.name,vI u.back.c,vI u.back.scale,PV.lst (Zp5 i g l u)]),(8,(Z4 z))],[],Yu,[]⟩))))))))))) else (Zcm∧(bif pick (qK i l) (6:Int)==(3:Int) then (Xv∧(Zd3∧(Xu∧(((0:Nat) < (1:Nat)∧(Yt u)* (120:Nat)≤(140737488355328:Nat)∧Lens (14:Nat) (Zp6 i g l u))∧Q (Ex.normal) (some ⟨166,(YV i g l most),[(9,[PV.str u.name,vI u.back.c,vI u.back.scale,PV.lst (Zp6 i g l u)]),(8,(Z4 z))],[],Yu,[]⟩))))) else (bif pick (qK i l) (6:Int)==(4:Int) then (Xv∧(Xw∧(WM∧(((0:Nat) < (1:Nat)∧(Yt u)* (120:Nat)≤(140737488355328:Nat)∧Lens (14:Nat) (Zp7 i g l u))∧Q (Ex.normal) (some ⟨166,(YV i g l most),[(9,[PV.str u.name,vI u.back.c,vI u.back.scale,PV.lst (Zp7 i g l u)]),(8,(Z4 z))],[],Yu,[]⟩))))) else (bif pick (qK i l) (6:Int)==(5:Int) then (Xv∧(Xw∧(WM∧(Zd4∧(Xw∧(Xu∧(((0:Nat) < (1:Nat)∧(Yt u)* (120:Nat)≤(140737488355328:Nat)∧Lens (14:Nat) (Zp8 i g l u))∧Q (Ex.normal) (some ⟨166,(YV i g l most),[(9,[PV.str u.name,vI u.back.c,vI u.back.scale,PV.lst (Zp8 i g l u)]),(8,(Z4 z))],[],Yu,[]⟩)))))))) else (((0:Nat) < (1:Nat)∧(Yt u)* (120:Nat)≤(140737488355328:Nat)∧Lens (14:Nat) (Zp9 i g l u))∧Q (Ex.normal) (some ⟨166,(YV i g l most),[(9,[PV.str u.name,vI u.back.c,vI u.back.scale,PV.lst (Zp9 i g l u)]),(8,(Z4 z))],[],Yu,[]⟩))))))))) else (Zpw∧(bif decide (pick (qR i l) (7:Int) > (0:Int)) then (Zhj∧(Xu∧(((7:Int)≠(0:Int))∧(Zpx∧(bif pick (IntKind.i64.wrap ((qR i l).tdiv (7:Int))) (2:Int)==(0:Int) then (Zhj∧(Xu∧(Zcm∧(bif pick (qK i l) (6:Int)==(3:Int) then (Xv∧(Zd3∧(Xu∧(((0:Nat) < (1:Nat)∧(Yt u)* (120:Nat)≤(140737488355328:Nat)∧Lens (14:Nat) (List.map Face.enc u.faces++[[vB false,vI (Xe i l).c,vI (Xe i l).scale,vI (Zw i l).c,vI (Zw i l).scale,vI (Zx i l).c,vI (Zx i l).scale,vI (XQ i l).c,vI (XQ i l).scale,vI 0,vI 0,vI 0,vI 0,PV.str Y7]]))∧Q (Ex.normal) (some ⟨166,(YV i g l most),[(9,[PV.str u.name,vI u.back.c,vI u.back.scale,PV.lst (List.map Face.enc u.faces++[[vB false,vI (Xe i l).c,vI (Xe i l).scale,vI (Zw i l).c,vI (Zw i l).scale,vI (Zx i l).c,vI (Zx i l).scale,vI (XQ i l).c,vI (XQ i l).scale,vI 0,vI 0,vI 0,vI 0,PV.str (Y7)]])]),(8,(Z4 z))],[],Yu,[]⟩))))) else (bif pick (qK i l) (6:Int)==(4:Int) then (Xv∧(Xw∧(WM∧(((0:Nat) < (1:Nat)∧(Yt u)* (120:Nat)≤(140737488355328:Nat)∧Lens (14:Nat) (List.map Face.enc u.faces++[[vB false,vI (Xe i l).c,vI (Xe i l).scale,vI (Zw i l).c,vI (Zw i l).scale,vI (Zx i l).c,vI (Zx i l).scale,vI 0,vI 0,vI (Yd i l).c,vI (Yd i l).scale,vI 0,vI 0,PV.str Y7]]))∧Q (Ex.normal) (some ⟨166,(YV i g l most),[(9,[PV.str u.name,vI u.back.c,vI u.back.scale,PV.lst (List.map Face.enc u.faces++[[vB false,vI (Xe i l).c,vI (Xe i l).scale,vI (Zw i l).c,vI (Zw i l).scale,vI (Zx i l).c,vI (Zx i l).scale,vI 0,vI 0,vI (Yd i l).c,vI (Yd i l).scale,vI 0,vI 0,PV.str (Y7)]])]),(8,(Z4 z))],[],Yu,[]⟩))))) else (bif pick (qK i l) (6:Int)==(5:Int) then (Xv∧(Xw∧(WM∧(Zd4∧(Xw∧(Xu∧(((0:Nat) < (1:Nat)∧(Yt u)* (120:Nat)≤(140737488355328:Nat)∧Lens (14:Nat) (List.map Face.enc u.faces++[[vB false,vI (Xe i l).c,vI (Xe i l).scale,vI (Zw i l).c,vI (Zw i l).scale,vI (Zx i l).c,vI (Zx i l).scale,vI 0,vI 0,vI (Yd i l).c,vI (Yd i l).scale,vI (XR i l).c,vI (XR i l).scale,PV.str Y7]]))∧Q (Ex.normal) (some ⟨166,(YV i g l most),[(9,[PV.str u.name,vI u.back.c,vI u.back.scale,PV.lst (List.map Face.enc u.faces++[[vB false,vI (Xe i l).c,vI (Xe i l).scale,vI (Zw i l).c,vI (Zw i l).scale,vI (Zx i l).c,vI (Zx i l).scale,vI 0,vI 0,vI (Yd i l).c,vI (Yd i l).scale,vI (XR i l).c,vI (XR i l).scale,PV.str (Y7)]])]),(8,(Z4 z))],[],Yu,[]⟩)))))))) else (((0:Nat) < (1:Nat)∧(Yt u)* (120:Nat)≤(140737488355328:Nat)∧Lens (14:Nat) (List.map Face.enc u.faces++[[vB false,vI (Xe i l).c,vI (Xe i l).scale,vI (Zw i l).c,vI (Zw i l).scale,vI (Zx i l).c,vI (Zx i l).scale,vI 0,vI 0,vI 0,vI 0,vI 0,vI 0,PV.str Y7]]))∧Q (Ex.normal) (some ⟨166,(YV i g l most),[(9,[PV.str u.name,vI u.back.c,vI u.back.scale,PV.lst (List.map Face.enc u.faces++[[vB false,vI (Xe i l).c,vI (Xe i l).scale,vI (Zw i l).c,vI (Zw i l).scale,vI (Zx i l).c,vI (Zx i l).scale,vI 0,vI 0,vI 0,vI 0,vI 0,vI 0,PV.str (Y7)]])]),(8,(Z4 z))],[],Yu,[]⟩)))))))) else (Zcm∧(bif pick (qK i l) (6:Int)==(3:Int) then (Xv∧(Zd3∧(Xu∧(((0:Nat) < (1:Nat)∧(Yt u)* (120:Nat)≤(140737488355328:Nat)∧Lens (14:Nat) (List.map Face.enc u.faces++[[vB false,vI (Y6 i l).c,vI (Y6 i l).scale,vI (Zw i l).c,vI (Zw i l).scale,vI (Zx i l).c,vI (Zx i l).scale,vI (XQ i l).c,vI (XQ i l).scale,vI 0,vI 0,vI 0,vI 0,PV.str Y7]]))∧Q (Ex.normal) (some ⟨166,(YV i g l most),[(9,[PV.str u.name,vI u.back.c,vI u.back.scale,PV.lst (List.map Face.enc u.faces++[[vB false,vI (Y6 i l).c,vI (Y6 i l).scale,vI (Zw i l).c,vI (Zw i l).scale,vI (Zx i l).c,vI (Zx i l).scale,vI (XQ i l).c,vI (XQ i l).scale,vI 0,vI 0,vI 0,vI 0,PV.str (Y7)]])]),(8,(Z4 z))],[],Yu,[]⟩))))) else (bif pick (qK i l) (6:Int)==(4:Int) then (Xv∧(Xw∧(WM∧(((0:Nat) < (1:Nat)∧(Yt u)* (120:Nat)≤(140737488355328:Nat)∧Lens (14:Nat) (List.map Face.enc u.faces++[[vB false,vI (Y6 i l).c,vI (Y6 i l).scale,vI (Zw i l).c,vI (Zw i l).scale,vI (Zx i l).c,vI (Zx i l).scale,vI 0,vI 0,vI (Yd i l).c,vI (Yd i l).scale,vI 0,vI 0,PV.str Y7]]))∧Q (Ex.normal) (some ⟨166,(YV i g l most),[(9,[PV.str u.name,vI u.back.c,vI u.back.scale,PV.lst (List.map Face.enc u.faces++[[vB false,vI (Y6 i l).c,vI (Y6 i l).scale,vI (Zw i l).c,vI (Zw i l).scale,vI (Zx i l).c,vI (Zx i l).scale,vI 0,vI 0,vI (Yd i l).c,vI (Yd i l).scale,vI 0,vI 0,PV.str (Y7)]])]),(8,(Z4 z))],[],Yu,[]⟩))))) else (bif pick (qK i l) (6:Int)==(5:Int) then (Xv∧(Xw∧(WM∧(Zd4∧(Xw∧(Xu∧(((0:Nat) < (1:Nat)∧(Yt u)* (120:Nat)≤(140737488355328:Nat)∧Lens (14:Nat) (List.map Face.enc u.faces++[[vB false,vI (Y6 i l).c,vI (Y6 i l).scale,vI (Zw i l).c,vI (Zw i l).scale,vI (Zx i l).c,vI (Zx i l).scale,vI 0,vI 0,vI (Yd i l).c,vI (Yd i l).scale,vI (XR i l).c,vI (XR i l).scale,PV.str Y7]]))∧Q (Ex.normal) (some ⟨166,(YV i g l most),[(9,[PV.str u.name,vI u.back.c,vI u.back.scale,PV.lst (List.map Face.enc u.faces++[[vB false,vI (Y6 i l).c,vI (Y6 i l).scale,vI (Zw i l).c,vI (Zw i l).scale,vI (Zx i l).c,vI (Zx i l).scale,vI 0,vI 0,vI (Yd i l).c,vI (Yd i l).scale,vI (XR i l).c,vI (XR i l).scale,PV.str (Y7)]])]),(8,(Z4 z))],[],Yu,[]⟩)))))))) else (((0:Nat) < (1:Nat)∧(Yt u)* (120:Nat)≤(140737488355328:Nat)∧Lens (14:Nat) (List.map Face.enc u.faces++[[vB false,vI (Y6 i l).c,vI (Y6 i l).scale,vI (Zw i l).c,vI (Zw i l).scale,vI (Zx i l).c,vI (Zx i l).scale,vI 0,vI 0,vI 0,vI 0,vI 0,vI 0,PV.str Y7]]))∧Q (Ex.normal) (some ⟨166,(YV i g l most),[(9,[PV.str u.name,vI u.back.c,vI u.back.scale,PV.lst (List.map Face.enc u.faces++[[vB false,vI (Y6 i l).c,vI (Y6 i l).scale,vI (Zw i l).c,vI (Zw i l).scale,vI (Zx i l).c,vI (Zx i l).scale,vI 0,vI 0,vI 0,vI 0,vI 0,vI 0,PV.str (Y7)]])]),(8,(Z4 z))],[],Yu,[]⟩))))))))))) else (Zcm∧(bif pick (qK i l) (6:Int)==(3:Int) then (Xv∧(Zd3∧(Xu∧(((0:Nat) < (1:Nat)∧(Yt u)* (120:Nat)≤(140737488355328:Nat)∧Lens (14:Nat) (List.map Face.enc u.faces++[[vB false,vI 0,vI 0,vI (Zw i l).c,vI (Zw i l).scale,vI (Zx i l).c,vI (Zx i l).scale,vI (XQ i l).c,vI (XQ i l).scale,vI 0,vI 0,vI 0,vI 0,PV.str Y7]]))∧Q (Ex.normal) (some ⟨166,(YV i g l most),[(9,[PV.str u.name,vI u.back.c,vI u.back.scale,PV.lst (List.map Face.enc u.faces++[[vB false,vI 0,vI 0,vI (Zw i l).c,vI (Zw i l).scale,vI (Zx i l).c,vI (Zx i l).scale,vI (XQ i l).c,vI (XQ i l).scale,vI 0,vI 0,vI 0,vI 0,PV.str (Y7)]])]),(8,(Z4 z))],[],Yu,[]⟩))))) else (bif pick (qK i l) (6:Int)==(4:Int) then (Xv∧(Xw∧(WM∧(((0:Nat) < (1:Nat)∧(Yt u)* (120:Nat)≤(140737488355328:Nat)∧Lens (14:Nat) (List.map Face.enc u.faces++[[vB false,vI 0,vI 0,vI (Zw i l).c,vI (Zw i l).scale,vI (Zx i l).c,vI (Zx i l).scale,vI 0,vI 0,vI (Yd i l).c,vI (Yd i l).scale,vI 0,vI 0,PV.str Y7]]))∧Q (Ex.normal) (some ⟨166,(YV i g l most),[(9,[PV.str u.name,vI u.back.c,vI u.back.scale,PV.lst (List.map Face.enc u.faces++[[vB false,vI 0,vI 0,vI (Zw i l).c,vI (Zw i l).scale,vI (Zx i l).c,vI (Zx i l).scale,vI 0,vI 0,vI (Yd i l).c,vI (Yd i l).scale,vI 0,vI 0,PV.str (Y7)]])]),(8,(Z4 z))],[],Yu,[]⟩))))) else (bif pick (qK i l) (6:Int)==(5:Int) then (Xv∧(Xw∧(WM∧(Zd4∧(Xw∧(Xu∧(((0:Nat) < (1:Nat)∧(Yt u)* (120:Nat)≤(140737488355328:Nat)∧Lens (14:Nat) (List.map Face.enc u.faces++[[vB false,vI 0,vI 0,vI (Zw i l).c,vI (Zw i l).scale,vI (Zx i l).c,vI (Zx i l).scale,vI 0,vI 0,vI (Yd i l).c,vI (Yd i l).scale,vI (XR i l).c,vI (XR i l).scale,PV.str Y7]]))∧Q (Ex.normal) (some ⟨166,(YV i g l most),[(9,[PV.str u.name,vI u.back.c,vI u.back.scale,PV.lst (List.map Face.enc u.faces++[[vB false,vI 0,vI 0,vI (Zw i l).c,vI (Zw i l).scale,vI (Zx i l).c,vI (Zx i l).scale,vI 0,vI 0,vI (Yd i l).c,vI (Yd i l).scale,vI (XR i l).c,vI (XR i l).scale,PV.str (Y7)]])]),(8,(Z4 z))],[],Yu,[]⟩)))))))) else (((0:Nat) < (1:Nat)∧(Yt u)* (120:Nat)≤(140737488355328:Nat)∧Lens (14:Nat) (List.map Face.enc u.faces++[[vB false,vI 0,vI 0,vI (Zw i l).c,vI (Zw i l).scale,vI (Zx i l).c,vI (Zx i l).scale,vI 0,vI 0,vI 0,vI 0,vI 0,vI 0,PV.str Y7]]))∧Q (Ex.normal) (some ⟨166,(YV i g l most),[(9,[PV.str u.name,vI u.back.c,vI u.back.scale,PV.lst (List.map Face.enc u.faces++[[vB false,vI 0,vI 0,vI (Zw i l).c,vI (Zw i l).scale,vI (Zx i l).c,vI (Zx i l).scale,vI 0,vI 0,vI 0,vI 0,vI 0,vI 0,PV.str (Y7)]])]),(8,(Z4 z))],[],Yu,[]⟩)))))))))
def ZpA(u:LensM)(z:LensM):Option St:=some ⟨166,[(8,AV.ptr 8 0),(9,AV.ptr 9 0)],[(8,(Z4 z)),(9,(Z4 u))],[],[(Loc.b (nat_lit 9) (nat_lit 3),nat_lit 32)],[]⟩
theorem Zir:CSOk Tryz.prog ZtW:=Zb Zkn<|Zb ZtE<|Zb ZyY<|Zb Z2j<|Zg
set_option maxHeartbeats 4000000 in
theorem ZmJ:Yl Tryz.prog (Z9 Tryz.f16 0) ZgW:=by
 refine lsG Zs.Γ (ZF Zs Zir ZR ZS ZX (LS:=[]) (Yo (l:=[]) (by kernel_rfl) Z2) (n:=2000) (U6 ZgU) (U6 J4) (fun x e s=>(e= .exit 0∧s=U6 J3 x)) (fun x=>(x.2.2.1.length - x.1).toNat) ZgV ZmD ZmE (fun x hx=>?_)) cv6 (fun _=>rfl) (fun _ h=>h) (fun _ _ _ _ h f=>fE h f)
 ·obtain ⟨i,g,l,most,u,z⟩:=x
  simp only[U6,J4] at hx
  refine sxT (fun Q=>(bif decide (i < ↑(List.map RawFace.enc l).length) then (bif decide (↑(List.map Face.enc u.faces).length < most) then (((0:Int)≤i∧(List.map RawFace.enc l)[i.toNat]?=some (YK [vI 0,vI 0,vI 0,vI 0,vI 0,vI 0] (rA i l)))∧(((0:Int) < (70:Int)∧(70:Int)≤(4611686018427387904:Int))∧(Xu∧(((0:Int) < (80:Int)∧(80:Int)≤(4611686018427387904:Int))∧(Xu∧(Zcm∧(bif pick (ZtX i l) (6:Int)==(5:Int) then (bif decide (i > (0:Int)) then (((0:Nat) < (1:Nat)∧(Yt u)* (120:Nat)≤(140737488355328:Nat)∧Lens (14:Nat) (List.map Face.enc u.faces++[[vB true,vI 0,vI 0,vI (Zw i l).c,vI (Zw i l).scale,vI (Zx i l).c,vI (Zx i l).scale,vI 0,vI 0,vI 0,vI 0,vI 0,vI 0,PV.str []]]))∧Q (Ex.normal) (some ⟨166,(YV i g l most),[(9,[PV.str u.name,vI u.back.c,vI u.back.scale,PV.lst (List.map Face.enc u.faces++[[vB true,vI 0,vI 0,vI (Zw i l).c,vI (Zw i l).scale,vI (Zx i l).c,vI (Zx i l).scale,vI 0,vI 0,vI 0,vI 0,vI 0,vI 0,PV.str ([])]])]),(8,(Z4 z))],[],Yu,[]⟩)) else (ZtY i g l most u z Q)) else (ZtY i g l most u z Q)))))))) else Q (Ex.exit (0:Nat)) (ZpA u z)) else Q (Ex.exit (0:Nat)) (ZpA u z))) (fun _=>by kernel_rfl) ?_
  delta ZtY Zw Yd Zx YV JU XR XQ Xe Y6 Yu Xw Yt Y7 Xu WM Zcm Zd3 Xv ZeM Zhj Zp4 Zp0 Zp2 Zp3 Zpy Zpz Zp8 Zp5 Zp1 Zp6 Zp7 Zp9 ZpA Zd4 Zbj Zpw Zpx Z4 vI vB pI
  refine Za (fun h0=>Za (fun h1=>⟨?r242,⟨?r241,⟨?r240,⟨?r239,⟨?r238,⟨?r237,Za (fun h2=>Za (fun h3=>⟨?r0, ?_⟩) (fun h3=>⟨?r118,Za (fun h4=>⟨?r59,⟨?r58,Za (fun h5=>⟨?r40,⟨?r39,⟨?r38,⟨?r37,Za (fun h6=>⟨?r19,⟨?r18,⟨?r17,Za (fun h7=>⟨?r4,⟨?r3,⟨?r2,⟨?r1, ?_⟩⟩⟩⟩) (fun h7=>Za (fun h8=>⟨?r8,⟨?r7,⟨?r6,⟨?r5, ?_⟩⟩⟩⟩) (fun h8=>Za (fun h9=>⟨?r15,⟨?r14,⟨?r13,⟨?r12,⟨?r11,⟨?r10,⟨?r9, ?_⟩⟩⟩⟩⟩⟩⟩) (fun h9=>⟨?r16, ?_⟩)))⟩⟩⟩) (fun h6=>⟨?r36,Za (fun h7=>⟨?r23,⟨?r22,⟨?r21,⟨?r20, ?_⟩⟩⟩⟩) (fun h7=>Za (fun h8=>⟨?r27,⟨?r26,⟨?r25,⟨?r24, ?_⟩⟩⟩⟩) (fun h8=>Za (fun h9=>⟨?r34,⟨?r33,⟨?r32,⟨?r31,⟨?r30,⟨?r29,⟨?r28, ?_⟩⟩⟩⟩⟩⟩⟩) (fun h9=>⟨?r35, ?_⟩)))⟩)⟩⟩⟩⟩) (fun h5=>⟨?r57,Za (fun h6=>⟨?r44,⟨?r43,⟨?r42,⟨?r41, ?_⟩⟩⟩⟩) (fun h6=>Za (fun h7=>⟨?r48,⟨?r47,⟨?r46,⟨?r45, ?_⟩⟩⟩⟩) (fun h7=>Za (fun h8=>⟨?r55,⟨?r54,⟨?r53,⟨?r52,⟨?r51,⟨?r50,⟨?r49, ?_⟩⟩⟩⟩⟩⟩⟩) (fun h8=>⟨?r56, ?_⟩)))⟩)⟩⟩) (fun h4=>⟨?r117,Za (fun h5=>⟨?r99,⟨?r98,⟨?r97,⟨?r96,Za (fun h6=>⟨?r78,⟨?r77,⟨?r76,Za (fun h7=>⟨?r63,⟨?r62,⟨?r61,⟨?r60, ?_⟩⟩⟩⟩) (fun h7=>Za (fun h8=>⟨?r67,⟨?r66,⟨?r65,⟨?r64, ?_⟩⟩⟩⟩) (fun h8=>Za (fun h9=>⟨?r74,⟨?r73,⟨?r72,⟨?r71,⟨?r70,⟨?r69,⟨?r68, ?_⟩⟩⟩⟩⟩⟩⟩) (fun h9=>⟨?r75, ?_⟩)))⟩⟩⟩) (fun h6=>⟨?r95,Za (fun h7=>⟨?r82,⟨?r81,⟨?r80,⟨?r79, ?_⟩⟩⟩⟩) (fun h7=>Za (fun h8=>⟨?r86,⟨?r85,⟨?r84,⟨?r83, ?_⟩⟩⟩⟩) (fun h8=>Za (fun h9=>⟨?r93,⟨?r92,⟨?r91,⟨?r90,⟨?r89,⟨?r88,⟨?r87, ?_⟩⟩⟩⟩⟩⟩⟩) (fun h9=>⟨?r94, ?_⟩)))⟩)⟩⟩⟩⟩) (fun h5=>⟨?r116,Za (fun h6=>⟨?r103,⟨?r102,⟨?r101,⟨?r100, ?_⟩⟩⟩⟩) (fun h6=>Za (fun h7=>⟨?r107,⟨?r106,⟨?r105,⟨?r104, ?_⟩⟩⟩⟩) (fun h7=>Za (fun h8=>⟨?r114,⟨?r113,⟨?r112,⟨?r111,⟨?r110,⟨?r109,⟨?r108, ?_⟩⟩⟩⟩⟩⟩⟩) (fun h8=>⟨?r115, ?_⟩)))⟩)⟩)⟩)) (fun h2=>⟨?r236,Za (fun h3=>⟨?r177,⟨?r176,Za (fun h4=>⟨?r158,⟨?r157,⟨?r156,⟨?r155,Za (fun h5=>⟨?r137,⟨?r136,⟨?r135,Za (fun h6=>⟨?r122,⟨?r121,⟨?r120,⟨?r119, ?_⟩⟩⟩⟩) (fun h6=>Za (fun h7=>⟨?r126,⟨?r125,⟨?r124,⟨?r123, ?_⟩⟩⟩⟩) (fun h7=>Za (fun h8=>⟨?r133,⟨?r132,⟨?r131,⟨?r130,⟨?r129,⟨?r128,⟨?r127, ?_⟩⟩⟩⟩⟩⟩⟩) (fun h8=>⟨?r134, ?_⟩)))⟩⟩⟩) (fun h5=>⟨?r154,Za (fun h6=>⟨?r141,⟨?r140,⟨?r139,⟨?r138, ?_⟩⟩⟩⟩) (fun h6=>Za (fun h7=>⟨?r145,⟨?r144,⟨?r143,⟨?r142, ?_⟩⟩⟩⟩) (fun h7=>Za (fun h8=>⟨?r152,⟨?r151,⟨?r150,⟨?r149,⟨?r148,⟨?r147,⟨?r146, ?_⟩⟩⟩⟩⟩⟩⟩) (fun h8=>⟨?r153, ?_⟩)))⟩)⟩⟩⟩⟩) (fun h4=>⟨?r175,Za (fun h5=>⟨?r162,⟨?r161,⟨?r160,⟨?r159, ?_⟩⟩⟩⟩) (fun h5=>Za (fun h6=>⟨?r166,⟨?r165,⟨?r164,⟨?r163, ?_⟩⟩⟩⟩) (fun h6=>Za (fun h7=>⟨?r173,⟨?r172,⟨?r171,⟨?r170,⟨?r169,⟨?r168,⟨?r167, ?_⟩⟩⟩⟩⟩⟩⟩) (fun h7=>⟨?r174, ?_⟩)))⟩)⟩⟩) (fun h3=>⟨?r235,Za (fun h4=>⟨?r217,⟨?r216,⟨?r215,⟨?r214,Za (fun h5=>⟨?r196,⟨?r195,⟨?r194,Za (fun h6=>⟨?r181,⟨?r180,⟨?r179,⟨?r178, ?_⟩⟩⟩⟩) (fun h6=>Za (fun h7=>⟨?r185,⟨?r184,⟨?r183,⟨?r182, ?_⟩⟩⟩⟩) (fun h7=>Za (fun h8=>⟨?r192,⟨?r191,⟨?r190,⟨?r189,⟨?r188,⟨?r187,⟨?r186, ?_⟩⟩⟩⟩⟩⟩⟩) (fun h8=>⟨?r193, ?_⟩)))⟩⟩⟩) (fun h5=>⟨?r213,Za (fun h6=>⟨?r200,⟨?r199,⟨?r198,⟨?r197, ?_⟩⟩⟩⟩) (fun h6=>Za (fun h7=>⟨?r204,⟨?r203,⟨?r202,⟨?r201, ?_⟩⟩⟩⟩) (fun h7=>Za (fun h8=>⟨?r211,⟨?r210,⟨?r209,⟨?r208,⟨?r207,⟨?r206,⟨?r205, ?_⟩⟩⟩⟩⟩⟩⟩) (fun h8=>⟨?r212, ?_⟩)))⟩)⟩⟩⟩⟩) (fun h4=>⟨?r234,Za (fun h5=>⟨?r221,⟨?r220,⟨?r219,⟨?r218, ?_⟩⟩⟩⟩) (fun h5=>Za (fun h6=>⟨?r225,⟨?r224,⟨?r223,⟨?r222, ?_⟩⟩⟩⟩) (fun h6=>Za (fun h7=>⟨?r232,⟨?r231,⟨?r230,⟨?r229,⟨?r228,⟨?r227,⟨?r226, ?_⟩⟩⟩⟩⟩⟩⟩) (fun h7=>⟨?r233, ?_⟩)))⟩)⟩)⟩)⟩⟩⟩⟩⟩⟩) (fun h1=>?_)) (fun h0=>?_)
  case r0|r1|r2|r3|r4|r5|r6|r7|r8|r9|r10|r11|r12|r13|r14|r15|r16|r17|r18|r19|r20|r21|r22|r23|r24|r25|r26|r27|r28|r29|r30|r31|r32|r33|r34|r35|r36|r37|r38|r39|r40|r41|r42|r43|r44|r45|r46|r47|r48|r49|r50|r51|r52|r53|r54|r55|r56|r57|r58|r59|r60|r61|r62|r63|r64|r65|r66|r67|r68|r69|r70|r71|r72|r73|r74|r75|r76|r77|r78|r79|r80|r81|r82|r83|r84|r85|r86|r87|r88|r89|r90|r91|r92|r93|r94|r95|r96|r97|r98|r99|r100|r101|r102|r103|r104|r105|r106|r107|r108|r109|r110|r111|r112|r113|r114|r115|r116|r117|r118|r119|r120|r121|r122|r123|r124|r125|r126|r127|r128|r129|r130|r131|r132|r133|r134|r135|r136|r137|r138|r139|r140|r141|r142|r143|r144|r145|r146|r147|r148|r149|r150|r151|r152|r153|r154|r155|r156|r157|r158|r159|r160|r161|r162|r163|r164|r165|r166|r167|r168|r169|r170|r171|r172|r173|r174|r175|r176|r177|r178|r179|r180|r181|r182|r183|r184|r185|r186|r187|r188|r189|r190|r191|r192|r193|r194|r195|r196|r197|r198|r199|r200|r201|r202|r203|r204|r205|r206|r207|r208|r209|r210|r211|r212|r213|r214|r215|r216|r217|r218|r219|r220|r221|r222|r223|r224|r225|r226|r227|r228|r229|r230|r231|r232|r233|r234|r235|r236|r237|r238|r239|r240|r241|r242=>first | rfl | omega | (rw[Zp];done) | (rw[Za3];done) | (have hb:=ZcC g most l 0 [];have hd:=Y0 (pick back 100);have hp:=Xy (n:=back) (m:=100) (by omega);simp only[Zp,ZI,Za3,QG_,show Zi Face.dec []=[] from rfl,Qk_,Q1_] at *;first | done | rfl | omega | exact ⟨by decide,by omega,XZ (XI (e:=Face.enc) (fun _=>rfl) _) rfl⟩) | (obtain ⟨a1,a2,a3,a4,a5,a6⟩:=hx;(try simp only[Qk_,Qc_] at h0);(try simp only[Qk_,Qc_] at h1);(try simp only[Qk_] at *);have hg:IntKind.i64.wrap ((g.length:Int)+2)=g.length+2:=Zf (by constructor<;>omega);first | omega | (rw[hg];omega) | exact Zv (fun _=>rfl) (by omega) (by omega) | exact ⟨by decide,by omega,XZ (XI (e:=Face.enc) (fun _=>rfl) _) rfl⟩ | (simp only[Qc_] at h4;exact Zv (fun _=>rfl) (Xy (by rw[hg];omega)).1 (by omega)) | (simp only[Qc_] at h3;exact Zv (fun _=>rfl) (Xy (by rw[hg];omega)).1 (by omega))) | skip
  all_goals (obtain ⟨a1,a2,a3,a4,a5,a6⟩:=hx;try simp only[Qk_,Qc_,Qe_] at h0)
  all_goals first | (have hk:i < l.length:=h0;obtain ⟨f,t,e1,e2,e3⟩:=Yg (l:=l) a1 (by omega);have eA:rA i l=RawFace.enc f:=Yp e3;have r0:ZtX i l=f.kind:=(by unfold ZtX;rw[eA];rfl);have r1:qR i l=f.r:=(by unfold qR;rw[eA];rfl);have r2:qA i l=f.a:=(by unfold qA;rw[eA];rfl);have r3:qT i l=f.t:=(by unfold qT;rw[eA];rfl);have r4:qG i l=f.g:=(by unfold qG;rw[eA];rfl);have r5:qK i l=f.k:=(by unfold qK;rw[eA];rfl)) | (exact .inr ⟨by simp,_,rfl,by trivial,by unfold U6 J3;(try dsimp only);rw[List.drop_eq_nil_of_le (by omega)];rfl⟩)
  all_goals (simp only[Qk_] at h1)
  all_goals first | (exact .inr ⟨by simp,_,rfl,by trivial,by unfold U6 J3;(try dsimp only);(rw[e1,Zet,h1])<;>rfl⟩) | skip
  all_goals simp only[r0,r1,r2,r3,r4,r5,Zx5,Qk_] at *
  all_goals (have hw:IntKind.i64.wrap (i+1)=i+1:=Zf (by constructor<;>omega);have eb:X4 g most (l.drop i.toNat) i u.faces=X4 g most (l.drop (IntKind.i64.wrap (i+1)).toNat) (IntKind.i64.wrap (i+1)) (u.faces++[J0 f i g]):=(by rw[hw,e1,e2,Zet,h1];rfl))
  all_goals
   refine .inl ⟨by trivial,(IntKind.i64.wrap (i+1),g,l,most,⟨u.name,u.back,u.faces++[J0 f i g]⟩,z), ?_, ?_, ?_, ?_⟩
   ·simp only[U6,ZgU,LensM.enc,QR_,QE_,QN_,Face.enc,J0,ZrE,Zmb,Zvu,Zvv,ZdY,Z1Y,ZoD,ZoE,ZzT,w64, *,Qp_,Ql_,Qr_,Qn_,Qu_,Qt_,Q4_,Qw_,Q5_,Q3_,Qb_,Qd_]
    try rfl
   ·simp only[Qc_] at h1
    simp only[U6,J4,hw,Qx_,Qs_,Q1_];exact ⟨by omega,by omega,a3,a4,a5,by omega⟩
   ·simp only[hw];omega
   ·intro e s' h;refine ⟨h.1,h.2.trans ?_⟩;unfold U6 J3;rw[eb]
theorem ZpB:ZQ Tryz.prog [(4,ZgW)] Tryz.f16:=ZM (l:=[Z9 Tryz.f16 0]) (by kernel_rfl) (Ya (i:=4) (by kernel_rfl) rfl ZmJ (Z2))
def Zks(l:List RawFace):=Zi RawFace.dec (List.map RawFace.enc l)
def Zhk(l:List RawFace)(g:List Glass)(most:Int):=X4 (Zi Glass.dec (List.map Glass.enc g)) most (List.drop (0:Nat) (Zks l)) (0:Int) (Zi Face.dec [])
def Zkt:=(0:Int)≤(0:Int)∧(0:Int)≤(18:Int)
def Zd5(l:List RawFace)(g:List Glass)(most:Int):=List.map Face.enc (Zhk l g most)
def ZpC:=[(99:UInt8),(114:UInt8),(111:UInt8),(119:UInt8),(110:UInt8)]
def Zcn(back:Int):=hdec (1:Nat) (IntKind.i64.wrap ((200:Int)+pick back (600:Int))) (1:Int)
def ZpD(back:Int)(l:List RawFace)(g:List Glass)(most:Int)(Q:PV→Prop):Prop:=Zkt∧(Zkt∧(Zkt∧(((0:Nat) < (1:Nat)∧((Zd5 l g most).length+(1:Nat))* (120:Nat)≤(140737488355328:Nat)∧Lens (14:Nat) (List.map Face.enc (Zhk l g most)++[[vB false,vI 40,vI 0,vI 8,vI 0,vI 3,vI 0,vI 0,vI 0,vI 0,vI 0,vI 0,vI 0,PV.str ZpC]]))∧Q (PV.agg [PV.str ([(120:UInt8)]++digits (pick back (100:Int))),vI (Zcn back).c,vI (Zcn back).scale,PV.lst (List.map Face.enc (Zhk l g most)++[[vB false,vI 40,vI 0,vI 8,vI 0,vI 3,vI 0,vI 0,vI 0,vI 0,vI 0,vI 0,vI 0,PV.str (ZpC)]])]))))
def ZpE(back:Int):=LensM.mk ([(120:UInt8)]++digits (pick back (100:Int))) (Zcn back) (Zi Face.dec [])
def q13_45:=LensM.mk [] (Dec.mk (0:Int) (0:Int)) (Zi Face.dec [])
set_option maxHeartbeats 4000000 in
theorem Z2o:Zj Tryz.prog 16 e16:=Zk<|Zh fun back=>Zh fun l=>Zh fun g=>Zh fun most=>EZ1 fun hp0=>by
 refine cfL Zir ZpB rfl ?_
 refine sxT (fun Q=>(((0:Int) < (100:Int)∧(100:Int)≤(4611686018427387904:Int))∧(((-1000000000000000000:Int)≤pick back (100:Int)∧pick back (100:Int)≤(1000000000000000000:Int))∧(((1:Nat)+(digits (pick back (100:Int))).length≤(9223372036854775807:Nat))∧(((0:Int) < (600:Int)∧(600:Int)≤(4611686018427387904:Int))∧(((0:Int)≤(1:Int)∧(1:Int)≤(18:Int))∧((List.map Glass.enc g=List.map Glass.enc (Zi Glass.dec (List.map Glass.enc g)))∧((List.map RawFace.enc l=List.map RawFace.enc (Zks l))∧(([PV.str ([(120:UInt8)]++digits (pick back (100:Int))),vI (Zcn back).c,vI (Zcn back).scale,PV.lst []]=(ZpE back).enc)∧(([PV.str [],vI 0,vI 0,PV.lst []]=q13_45.enc)∧((J4 (0:Int) (Zi Glass.dec (List.map Glass.enc g)) (Zks l) most (ZpE back) q13_45)∧(bif ↑(Zd5 l g most).length==(0:Int) then (ZpD back l g most Q) else ((List.map Face.enc (Zhk l g most)=List.map Face.enc (Zi Face.dec (Zd5 l g most)))∧(((Zi Face.dec (Zd5 l g most)).length≤(140737488355328:Nat))∧(bif !YL (Zi Face.dec (Zd5 l g most)) then (ZpD back l g most Q) else Q (PV.agg [PV.str ([(120:UInt8)]++digits (pick back (100:Int))),vI (Zcn back).c,vI (Zcn back).scale,PV.lst (Zd5 l g most)])))))))))))))))) (fun _=>by kernel_rfl) ?_
 delta Qn Zhk ZpD Zcn Zkt ZpC ZpE q13_45 Zks Zd5 vI vB
 refine ⟨?r18,⟨?r17,⟨?r16,⟨?r15,⟨?r14,⟨?r13,⟨?r12,⟨?r11,⟨?r10,⟨?_,Za (fun h0=>⟨?r3,⟨?r2,⟨?r1,⟨?r0, ?_⟩⟩⟩⟩) (fun h0=>⟨?r9,⟨?r8,Za (fun h1=>⟨?r7,⟨?r6,⟨?r5,⟨?r4, ?_⟩⟩⟩⟩) (fun h1=>?_)⟩⟩)⟩⟩⟩⟩⟩⟩⟩⟩⟩⟩
 case r0|r1|r2|r3|r4|r5|r6|r7|r8|r9|r10|r11|r12|r13|r14|r15|r16|r17|r18=>first | rfl | omega | (rw[Zp];done) | (rw[Za3];done) | (have hb:=ZcC g most l 0 [];have hd:=Y0 (pick back 100);have hp:=Xy (n:=back) (m:=100) (by omega);simp only[Zp,ZI,Za3,QG_,show Zi Face.dec []=[] from rfl,Qk_,Q1_] at *;first | done | rfl | omega | exact ⟨by decide,by omega,XZ (XI (e:=Face.enc) (fun _=>rfl) _) rfl⟩) | (obtain ⟨a1,a2,a3,a4,a5,a6⟩:=hx;(try simp only[Qk_,Qc_] at h0);(try simp only[Qk_,Qc_] at h1);(try simp only[Qk_] at *);have hg:IntKind.i64.wrap ((g.length:Int)+2)=g.length+2:=Zf (by constructor<;>omega);first | omega | (rw[hg];omega) | exact Zv (fun _=>rfl) (by omega) (by omega) | exact ⟨by decide,by omega,XZ (XI (e:=Face.enc) (fun _=>rfl) _) rfl⟩ | (simp only[Qc_] at h4;exact Zv (fun _=>rfl) (Xy (by rw[hg];omega)).1 (by omega)) | (simp only[Qc_] at h3;exact Zv (fun _=>rfl) (Xy (by rw[hg];omega)).1 (by omega))) | skip
 all_goals simp only[Zp,ZI,Za3,QG_,QO_,show Zi Face.dec []=[] from rfl,Qk_] at *
 ·exact ⟨by omega,by omega,hp0.1,hp0.2.1,hp0.2.2,by simp⟩
 all_goals have e0:((X4 g most l 0 []).length==0)=_:=Eq.trans (by cases hL:X4 g most l 0 []<;>simp only[Qs_,Q1_]<;>(first | rfl | (symm;rw[KA_];omega))) h0
 all_goals simp only[Wc,ZdZ,e0,Q4_,Qw_,Qb_,Qd_]
 ·simp only[LensM.enc,QR_,QE_,QN_];rfl
 ·simp only[Qi_] at h1
  simp only[h1,Qt_,Qb_,LensM.enc,QR_,QE_,QN_];rfl
 ·simp only[Qf_] at h1
  simp only[h1,Qu_,Qd_];rfl
open Go Go.RowKit Go.Sort
theorem ZqN(w:World)(e:TypeId)(s:ByteArray):Below w.heap.size w (Lib.bytesWorld w e s):=
 ⟨rfl,rfl,rfl,by rw[Lib.bytesWorld_size];omega,fun k hk=>Lib.bytesWorld_at_old w e s k hk⟩
theorem Zd6{a b:Nat}(h:a≤b):Nat.ble a b=true:=QF_ h
theorem Z1z:Zj Tryz.prog 175 Z3f:=Zk<|Zh fun s=>Zh fun c=>EZ2 fun h0 h1=>
 Zsz Tryz.call175 (fun s c w h1 h2 h3=>Any.strings_Trim_laid Tryz.lays160 (by kernel_rfl) s c w h1 h2 h3) _ _ (show (bif Xi 4000000000 s&&Xi 4000000000 c&&Zah c then some (PV.str (Lib.trimS s c)) else none)=_ by
  unfold Xi;rw[Zd6 h0.1,Zd6 h0.2,h1];rfl)
theorem Z10:Zj Tryz.prog 153 Z3g:=Zk<|Zh fun s=>Zh fun c=>EZ2 fun h0 h1=>
 Zj9 Tryz.call153 (fun s c w h1 h2 h3=>Any.strings_TrimRight_laid Tryz.lays162 (by kernel_rfl) s c w h1 h2 h3) _ _ (show (bif Xi 4000000000 s&&Xi 4000000000 c&&Zah c then some (PV.str (Lib.trimRightS s c)) else none)=_ by
  unfold Xi;rw[Zd6 h0.1,Zd6 h0.2,h1];rfl)
theorem Z11:Zj Tryz.prog 154 Z3h:=Zk<|Zh fun s=>EZ1 fun h=>
 Zs1 Tryz.call154 (fun s n w h1 h2=>(Any.strconv_Atoi Tryz.lays172 s n h1 h2 w).mono fun e w' ⟨he,t,hw'⟩=>⟨he,by subst hw';exact ZqN w _ t⟩) _ _ (show (bif Xi 18 s then (match Lib.atoi s with | some n=>some (PV.tup [.v (.int .i64 n),.v .nilIface]) | none=>none) else none)=_ by
  unfold Xi;rw[Zd6 h.1,h.2];rfl)
theorem Z12:Zj Tryz.prog 129 Z3i:=Zk<|Zh fun s=>Zh fun n=>EZ1 fun h=>by
 obtain ⟨m,rfl⟩:=Int.eq_ofNat_of_zero_le h.1
 exact Zor Tryz.call129 (fun s c w h1 h2=>Any.strings_Repeat Tryz.lays105 Tryz.Builder_Extra_105 s c w h1 h2) _ _ (show (bif Nat.ble m 4000000000&&Nat.ble (s.length *m) 4000000000 then some (PV.str (Lib.repeatL s m)) else none)=_ by
  rw[Zd6 (show m≤4000000000 by have:=h.2.1;omega),Zd6 (show s.length *m≤4000000000 from h.2.2)];rfl)
theorem Z13:Zj Tryz.prog 221 Z3j:=Zk<|Zh fun s=>Zh fun c=>EZ0<|
 Zj7 (fun args w=>run_callFunc_extern Tryz.func221 (by kernel_rfl) (by kernel_rfl) (by kernel_rfl) (e:=Extern.BytealgIndexByte.indexByte) (by kernel_rfl) args w) _ _ rfl
theorem ZqO(w:World)(k:Nat)(os:Array Obj):Below w.heap.size w (grow (w.drewN k) os):=
 ⟨rfl,rfl,rfl,by simp[grow],fun i hi=>K8_ hi⟩
theorem Zym(n:Int)(h: -1000000000000000000≤n∧n≤1000000000000000000):Con Tryz.prog 128 [.v (.int .i64 n)] (.str (digits n)):=
 Zs0 Tryz.call128 (fun n hw w h0 h1 hg=>(Any.strconv_Itoa Tryz.laysM171 n h0 h1 w (Zxe hg (x:=4) (vs:=Lib.pow10Tab.map fun z=>Value.int .u64 z) rfl (by kernel_rfl))).mono fun e w' ⟨he,k,os,hw'⟩=>⟨he,by subst hw';exact ZqO w k os⟩) _ _ (Zq5 h)
theorem Z14:Zj Tryz.prog 128 Z3k:=Zk<|Zh fun n=>EZ1 fun h=>Zym n h
end Go.Men
namespace Go.Men
open Go.Ev Go.Proofs Go.Proofs.YtgfgjabeooohhaaGreatDoor
theorem Z15:Zj Tryz.prog 206 Z3l:=Zk<|Zh fun s=>Zh fun c=>EZ0<|by
 refine cf0 (Zb Z13<|Zg) (fn:=Tryz.f206) rfl ?_
 refine sxT (fun Q=>Q (vI (ixM c s))) (fun _=>by kernel_rfl) ?_
 delta Qn vI
 refine ?_
 all_goals (try simp only[Qi_,Qf_,bne] at *)
 all_goals first | rfl | (simp only[ixM,Zu,Zr,List.foldl,Qr_,Qp_,Ql_,Qn_,Q5_,Q4_,Qw_,Q3_,Qu_,Qt_,Qb_,Qd_,QD_,Q8_, *];done) | (simp only[ixM,Zu,Zr,List.foldl,Qr_,Qp_,Ql_,Qn_,Q5_,Q4_,Qw_,Q3_,Qu_,Qt_,Qb_,Qd_,QD_,Q8_, *];first | rfl | (simp only[nz,nzA,nz1,QE_,QN_,Iv.enc,V.enc,Ray.enc, *];first | done | rfl)) | (simp_all[nz,nzA,nz1,Iv.enc,V.enc,Ray.enc,Dec.enc,Shape.enc,none',told,K4_,ixM];done) | (simp_all[nz,nzA,nz1,Iv.enc,V.enc,Ray.enc,Dec.enc,Shape.enc,none',told,K4_,ixM];omega) | (simp_all[nz,nzA,nz1,Iv.enc,V.enc,Ray.enc,Dec.enc,Shape.enc,none',told,K4_,ixM];(repeat' split)<;>(first | rfl | (exfalso;omega) | (simp_all;done) | omega))
theorem Z16:Zj Tryz.prog 186 Z3m:=Zk<|Zh fun s=>Zh fun p=>EZ0<|by
 refine cf0 Zg (fn:=Tryz.f186) rfl ?_
 refine sxT (fun Q=>(bif decide (((s.length:Nat):Int)≥((p.length:Nat):Int)) then (((0:Int)≤((p.length:Nat):Int)∧((p.length:Nat):Int)≤((s.length:Nat):Int))∧Q (vB (List.take (((p.length:Nat):Int)).toNat s==p))) else Q (vB false))) (fun _=>by kernel_rfl) ?_
 delta Qn vB
 refine Za (fun h0=>⟨?r0, ?_⟩) (fun h0=>?_)
 case r0=>first | rfl | omega | (simp only[Qc_] at h0;omega) | skip
 all_goals (try simp only[Qi_,Qf_,bne] at *)
 all_goals first | rfl | (simp only[J1,Zu,Zr,List.foldl,Qr_,Qp_,Ql_,Qn_,Q5_,Q4_,Qw_,Q3_,Qu_,Qt_,Qb_,Qd_,QD_,Q8_, *];done) | (simp only[J1,Zu,Zr,List.foldl,Qr_,Qp_,Ql_,Qn_,Q5_,Q4_,Qw_,Q3_,Qu_,Qt_,Qb_,Qd_,QD_,Q8_, *];first | rfl | (simp only[nz,nzA,nz1,QE_,QN_,Iv.enc,V.enc,Ray.enc, *];first | done | rfl)) | (simp_all[nz,nzA,nz1,Iv.enc,V.enc,Ray.enc,Dec.enc,Shape.enc,none',told,K4_,J1];done) | (simp_all[nz,nzA,nz1,Iv.enc,V.enc,Ray.enc,Dec.enc,Shape.enc,none',told,K4_,J1];omega) | (simp_all[nz,nzA,nz1,Iv.enc,V.enc,Ray.enc,Dec.enc,Shape.enc,none',told,K4_,J1];(repeat' split)<;>(first | rfl | (exfalso;omega) | (simp_all;done) | omega))
theorem Z17:Zj Tryz.prog 173 Z3n:=Zk<|Zh fun s=>Zh fun p=>EZ0<|by
 refine cf0 (Zb Z16<|Zg) (fn:=Tryz.f173) rfl ?_
 refine sxT (fun Q=>(bif !J1 s p then Q (PV.tup [PV.str s,vB false]) else (((0:Int)≤((p.length:Nat):Int)∧((p.length:Nat):Int)≤((s.length:Nat):Int))∧Q (PV.tup [PV.str (List.drop (((p.length:Nat):Int)).toNat s),vB true])))) (fun _=>by kernel_rfl) ?_
 delta Qn vB
 refine Za (fun h0=>?_) (fun h0=>⟨?r0, ?_⟩)
 case r0=>first | rfl | omega | (have h0:J1 s p=true:=(by simpa using h0);unfold J1 at h0;simp only[Qh_,Qc_] at h0;omega) | skip
 all_goals (try simp only[Qi_,Qf_,bne] at *)
 all_goals first | rfl | (simp only[ZN,Zu,Zr,List.foldl,Qr_,Qp_,Ql_,Qn_,Q5_,Q4_,Qw_,Q3_,Qu_,Qt_,Qb_,Qd_,QD_,Q8_, *];done) | (simp only[ZN,Zu,Zr,List.foldl,Qr_,Qp_,Ql_,Qn_,Q5_,Q4_,Qw_,Q3_,Qu_,Qt_,Qb_,Qd_,QD_,Q8_, *];first | rfl | (simp only[nz,nzA,nz1,QE_,QN_,Iv.enc,V.enc,Ray.enc, *];first | done | rfl)) | (simp_all[nz,nzA,nz1,Iv.enc,V.enc,Ray.enc,Dec.enc,Shape.enc,none',told,K4_,ZN];done) | (simp_all[nz,nzA,nz1,Iv.enc,V.enc,Ray.enc,Dec.enc,Shape.enc,none',told,K4_,ZN];omega) | (simp_all[nz,nzA,nz1,Iv.enc,V.enc,Ray.enc,Dec.enc,Shape.enc,none',told,K4_,ZN];(repeat' split)<;>(first | rfl | (exfalso;omega) | (simp_all;done) | omega))
theorem Z18:Zj Tryz.prog 150 Z3o:=Zk<|Zh fun s=>Zh fun p=>EZ0<|by
 refine cf0 (Zb Z17<|Zg) (fn:=Tryz.f150) rfl ?_
 refine sxT (fun Q=>Q (PV.tup [PV.str (ZN s p).fst,vB (ZN s p).snd])) (fun _=>by kernel_rfl) ?_
 delta Qn vB
 refine ?_
 all_goals (try simp only[Qi_,Qf_,bne] at *)
 all_goals first | rfl | (simp only[ZN,Zu,Zr,List.foldl,Qr_,Qp_,Ql_,Qn_,Q5_,Q4_,Qw_,Q3_,Qu_,Qt_,Qb_,Qd_,QD_,Q8_, *];done) | (simp only[ZN,Zu,Zr,List.foldl,Qr_,Qp_,Ql_,Qn_,Q5_,Q4_,Qw_,Q3_,Qu_,Qt_,Qb_,Qd_,QD_,Q8_, *];first | rfl | (simp only[nz,nzA,nz1,QE_,QN_,Iv.enc,V.enc,Ray.enc, *];first | done | rfl)) | (simp_all[nz,nzA,nz1,Iv.enc,V.enc,Ray.enc,Dec.enc,Shape.enc,none',told,K4_,ZN];done) | (simp_all[nz,nzA,nz1,Iv.enc,V.enc,Ray.enc,Dec.enc,Shape.enc,none',told,K4_,ZN];omega) | (simp_all[nz,nzA,nz1,Iv.enc,V.enc,Ray.enc,Dec.enc,Shape.enc,none',told,K4_,ZN];(repeat' split)<;>(first | rfl | (exfalso;omega) | (simp_all;done) | omega))
theorem Z0e(s:List UInt8):Con Tryz.prog 189 [.str s,.str [46]] (.v (.int .i64 (ixM 46 s))):=by
 refine cf0 (Zb Z15<|Zg) (fn:=Tryz.f189) rfl ?_
 refine sxT (fun Q=>(bif [(46:UInt8)]==s then Q (vI 0) else (((0:Int)≤(0:Int)∧(0:Int) < (1:Int))∧Q (vI (ixM (46:Int) s))))) (fun _=>by kernel_rfl) ?_
 delta Qn vI
 refine Za (fun h0=>?_) (fun h0=>⟨?r0, ?_⟩)
 case r0=>first | rfl | (simp only[YH,dI,dIv];omega) | (simp[Zi,chunk];done) | (simp only[YH,dI,dIv];done) | (exact Zv (fun _=>rfl) (by omega) (by omega)) | (simp only[Qc_,Qk_] at *;exact Zv (fun _=>rfl) (by omega) (by omega)) | assumption | trivial | (simp_all;done) | omega
 ·have e:=eq_of_beq h0;subst e;rfl
 ·rfl
theorem Z19:Zj Tryz.prog 189 Z0Z:=by
 intro args r ps h hp
 unfold Z0Z at h
 split at h
 ·rename_i p1
  cases (Qa_ h)
  exact Z0e p1
 ·exact absurd h (by simp)
theorem ZtZ(s:List UInt8)(hp0:s.length≤4000000000):Con Tryz.prog 174 [.str s,.str [46]] (.tup [.str ((ZK s).1),.str ((ZK s).2.1),.v (.bool ((ZK s).2.2))]):=by
 refine cf0 (Zb Z19<|Zg) (fn:=Tryz.f174) rfl ?_
 refine sxT (fun Q=>(bif decide (ixM (46:Int) s≥(0:Int)) then (((0:Int)≤ixM (46:Int) s∧ixM (46:Int) s≤↑s.length)∧(((0:Int)≤IntKind.i64.wrap (ixM (46:Int) s+(1:Int))∧IntKind.i64.wrap (ixM (46:Int) s+(1:Int))≤↑s.length)∧Q (PV.tup [PV.str (List.take (ixM (46:Int) s).toNat s),PV.str (List.drop (IntKind.i64.wrap (ixM (46:Int) s+(1:Int))).toNat s),vB true]))) else Q (PV.tup [PV.str s,PV.str ([]),vB false]))) (fun _=>by kernel_rfl) ?_
 delta Qn vB
 refine Za (fun h0=>⟨?r1,⟨?r0, ?_⟩⟩) (fun h0=>?_)
 case r0|r1=>have hb:=Zv2 s;simp only[Qc_] at h0;have hw:IntKind.i64.wrap (ixM 46 s+1)=ixM 46 s+1:=Zf (by constructor<;>omega);(try rw[hw]);omega
 ·have hb:=Zv2 s;have h1:=h0;simp only[Qc_] at h1;have hw:IntKind.i64.wrap (ixM 46 s+1)=ixM 46 s+1:=Zf (by constructor<;>omega)
  rw[hw];simp only[ZK,h0,Qb_];rfl
 ·simp only[ZK,h0,Qd_];rfl
theorem Z1A:Zj Tryz.prog 174 Z1a:=by
 intro args r ps h hp
 unfold Z1a at h
 split at h
 ·rename_i p1
  cases (Qa_ h)
  exact ZtZ p1 (hp _ (by simp))
 ·exact absurd h (by simp)
theorem Zwt(s:List UInt8)(hp0:s.length≤4000000000):Con Tryz.prog 151 [.str s,.str [46]] (.tup [.str ((ZK s).1),.str ((ZK s).2.1),.v (.bool ((ZK s).2.2))]):=by
 refine cf0 (Zb Z1A<|Zg) (fn:=Tryz.f151) rfl ?_
 refine sxT (fun Q=>((s.length≤(4000000000:Nat))∧Q (PV.tup [PV.str (ZK s).fst,PV.str (ZK s).snd.fst,vB (ZK s).snd.snd]))) (fun _=>by kernel_rfl) ?_
 delta Qn vB
 refine ⟨?r0, ?_⟩
 case r0=>first | rfl | (simp only[YH,dI,dIv];omega) | (simp[Zi,chunk];done) | (simp only[YH,dI,dIv];done) | (exact Zv (fun _=>rfl) (by omega) (by omega)) | (simp only[Qc_,Qk_] at *;exact Zv (fun _=>rfl) (by omega) (by omega)) | assumption | trivial | (simp_all;done) | omega
 all_goals (try simp only[Qi_,Qf_,bne] at *)
 all_goals first | rfl | (simp only[ZK,Zu,Zr,List.foldl,Qr_,Qp_,Ql_,Qn_,Q5_,Q4_,Qw_,Q3_,Qu_,Qt_,Qb_,Qd_,QD_,Q8_, *];done) | (simp only[ZK,Zu,Zr,List.foldl,Qr_,Qp_,Ql_,Qn_,Q5_,Q4_,Qw_,Q3_,Qu_,Qt_,Qb_,Qd_,QD_,Q8_, *];first | rfl | (simp only[nz,nzA,nz1,QE_,QN_,Iv.enc,V.enc,Ray.enc, *];first | done | rfl)) | (simp_all[nz,nzA,nz1,Iv.enc,V.enc,Ray.enc,Dec.enc,Shape.enc,none',told,K4_,ZK];done) | (simp_all[nz,nzA,nz1,Iv.enc,V.enc,Ray.enc,Dec.enc,Shape.enc,none',told,K4_,ZK];omega) | (simp_all[nz,nzA,nz1,Iv.enc,V.enc,Ray.enc,Dec.enc,Shape.enc,none',told,K4_,ZK];(repeat' split)<;>(first | rfl | (exfalso;omega) | (simp_all;done) | omega))
theorem Z1B:Zj Tryz.prog 151 Z1b:=by
 intro args r ps h hp
 unfold Z1b at h
 split at h
 ·rename_i p1
  cases (Qa_ h)
  exact Zwt p1 (hp _ (by simp))
 ·exact absurd h (by simp)
theorem Z1C:Zj Tryz.prog 152 Z3p:=Zk<|Zh fun s=>Zh fun n=>EZ1 fun hp0=>by
 refine cf0 (Zb Z1z<|Zg) (fn:=Tryz.f152) rfl ?_
 refine sxT (fun Q=>(bif !s==[] then (bif decide (↑s.length≤n) then ((s.length≤(4000000000:Nat)∧(10:Nat)≤(4000000000:Nat))∧((true=true)∧Q (vB (ZjX s [(48:UInt8),(49:UInt8),(50:UInt8),(51:UInt8),(52:UInt8),(53:UInt8),(54:UInt8),(55:UInt8),(56:UInt8),(57:UInt8)]==[])))) else Q (vB false)) else Q (vB false))) (fun _=>by kernel_rfl) ?_
 delta Qn vB
 refine Za (fun h0=>Za (fun h1=>⟨?r1,⟨?r0, ?_⟩⟩) (fun h1=>?_)) (fun h0=>?_)
 case r0|r1=>first | rfl | omega | (exact ⟨hp0,by decide⟩) | skip
 all_goals (try simp only[Qi_,Qf_,bne] at *)
 all_goals first | rfl | (simp only[figs,Zu,Zr,List.foldl,Qr_,Qp_,Ql_,Qn_,Q5_,Q4_,Qw_,Q3_,Qu_,Qt_,Qb_,Qd_,QD_,Q8_, *];done) | (simp only[figs,Zu,Zr,List.foldl,Qr_,Qp_,Ql_,Qn_,Q5_,Q4_,Qw_,Q3_,Qu_,Qt_,Qb_,Qd_,QD_,Q8_, *];first | rfl | (simp only[nz,nzA,nz1,QE_,QN_,Iv.enc,V.enc,Ray.enc, *];first | done | rfl)) | (simp_all[nz,nzA,nz1,Iv.enc,V.enc,Ray.enc,Dec.enc,Shape.enc,none',told,K4_,figs];done) | (simp_all[nz,nzA,nz1,Iv.enc,V.enc,Ray.enc,Dec.enc,Shape.enc,none',told,K4_,figs];omega) | (simp_all[nz,nzA,nz1,Iv.enc,V.enc,Ray.enc,Dec.enc,Shape.enc,none',told,K4_,figs];(repeat' split)<;>(first | rfl | (exfalso;omega) | (simp_all;done) | omega))
def Zua(c:Int)(Q:PV→Prop):Prop:=bif decide (c≥(65:Int)) then Q (vB (decide (c≤(90:Int)))) else Q (vB false)
theorem Zwu:Zj Tryz.prog 100 Z1c:=Zk<|Zh fun c=>EZ0<|by
 refine cf0 Zg (fn:=Tryz.f100) rfl ?_
 refine sxT (fun Q=>(bif decide (c≥(97:Int)) then (bif decide (c≤(122:Int)) then Q (vB true) else (Zua c Q)) else (Zua c Q))) (fun _=>by kernel_rfl) ?_
 delta Qn Zua vB
 refine Za (fun h0=>Za (fun h1=>?_) (fun h1=>Za (fun h2=>?_) (fun h2=>?_))) (fun h0=>Za (fun h1=>?_) (fun h1=>?_))
 all_goals (try simp only[Qi_,Qf_,bne] at *)
 all_goals first | rfl | (simp only[Yw,Zu,Zr,List.foldl,Qr_,Qp_,Ql_,Qn_,Q5_,Q4_,Qw_,Q3_,Qu_,Qt_,Qb_,Qd_,QD_,Q8_, *];done) | (simp only[Yw,Zu,Zr,List.foldl,Qr_,Qp_,Ql_,Qn_,Q5_,Q4_,Qw_,Q3_,Qu_,Qt_,Qb_,Qd_,QD_,Q8_, *];first | rfl | (simp only[nz,nzA,nz1,QE_,QN_,Iv.enc,V.enc,Ray.enc, *];first | done | rfl)) | (simp_all[nz,nzA,nz1,Iv.enc,V.enc,Ray.enc,Dec.enc,Shape.enc,none',told,K4_,Yw];done) | (simp_all[nz,nzA,nz1,Iv.enc,V.enc,Ray.enc,Dec.enc,Shape.enc,none',told,K4_,Yw];omega) | (simp_all[nz,nzA,nz1,Iv.enc,V.enc,Ray.enc,Dec.enc,Shape.enc,none',told,K4_,Yw];(repeat' split)<;>(first | rfl | (exfalso;omega) | (simp_all;done) | omega))
theorem ZpF:Zj Tryz.prog 101 Z1d:=Zk<|Zh fun c=>EZ0<|by
 refine cf0 Zg (fn:=Tryz.f101) rfl ?_
 refine sxT (fun Q=>(bif decide (c≥(48:Int)) then Q (vB (decide (c≤(57:Int)))) else Q (vB false))) (fun _=>by kernel_rfl) ?_
 delta Qn vB
 refine Za (fun h0=>?_) (fun h0=>?_)
 all_goals (try simp only[Qi_,Qf_,bne] at *)
 all_goals first | rfl | (simp only[Xa,Zu,Zr,List.foldl,Qr_,Qp_,Ql_,Qn_,Q5_,Q4_,Qw_,Q3_,Qu_,Qt_,Qb_,Qd_,QD_,Q8_, *];done) | (simp only[Xa,Zu,Zr,List.foldl,Qr_,Qp_,Ql_,Qn_,Q5_,Q4_,Qw_,Q3_,Qu_,Qt_,Qb_,Qd_,QD_,Q8_, *];first | rfl | (simp only[nz,nzA,nz1,QE_,QN_,Iv.enc,V.enc,Ray.enc, *];first | done | rfl)) | (simp_all[nz,nzA,nz1,Iv.enc,V.enc,Ray.enc,Dec.enc,Shape.enc,none',told,K4_,Xa];done) | (simp_all[nz,nzA,nz1,Iv.enc,V.enc,Ray.enc,Dec.enc,Shape.enc,none',told,K4_,Xa];omega) | (simp_all[nz,nzA,nz1,Iv.enc,V.enc,Ray.enc,Dec.enc,Shape.enc,none',told,K4_,Xa];(repeat' split)<;>(first | rfl | (exfalso;omega) | (simp_all;done) | omega))
theorem Z1D:Zj Tryz.prog 104 Z1e:=Zk<|Zh fun c=>EZ0<|by
 refine cf0 (Zb Zwu<|Zb ZpF<|Zg) (fn:=Tryz.f104) rfl ?_
 refine sxT (fun Q=>(bif Yw c then Q (vB true) else (bif Xa c then Q (vB true) else (bif c==(45:Int) then Q (vB true) else Q (vB (c==(95:Int))))))) (fun _=>by kernel_rfl) ?_
 delta Qn vB
 refine Za (fun h0=>?_) (fun h0=>Za (fun h1=>?_) (fun h1=>Za (fun h2=>?_) (fun h2=>?_)))
 all_goals (try simp only[Qi_,Qf_,bne] at *)
 all_goals first | rfl | (simp only[Z1,Zu,Zr,List.foldl,Qr_,Qp_,Ql_,Qn_,Q5_,Q4_,Qw_,Q3_,Qu_,Qt_,Qb_,Qd_,QD_,Q8_, *];done) | (simp only[Z1,Zu,Zr,List.foldl,Qr_,Qp_,Ql_,Qn_,Q5_,Q4_,Qw_,Q3_,Qu_,Qt_,Qb_,Qd_,QD_,Q8_, *];first | rfl | (simp only[nz,nzA,nz1,QE_,QN_,Iv.enc,V.enc,Ray.enc, *];first | done | rfl)) | (simp_all[nz,nzA,nz1,Iv.enc,V.enc,Ray.enc,Dec.enc,Shape.enc,none',told,K4_,Z1];done) | (simp_all[nz,nzA,nz1,Iv.enc,V.enc,Ray.enc,Dec.enc,Shape.enc,none',told,K4_,Z1];omega) | (simp_all[nz,nzA,nz1,Iv.enc,V.enc,Ray.enc,Dec.enc,Shape.enc,none',told,K4_,Z1];(repeat' split)<;>(first | rfl | (exfalso;omega) | (simp_all;done) | omega))
theorem Z1E:Zj Tryz.prog 105 Z1f:=Zk<|Zh fun c=>EZ0<|by
 refine cf0 (Zb ZpF<|Zg) (fn:=Tryz.f105) rfl ?_
 refine sxT (fun Q=>(bif Xa c then Q (vB true) else Q (vB (c==(46:Int))))) (fun _=>by kernel_rfl) ?_
 delta Qn vB
 refine Za (fun h0=>?_) (fun h0=>?_)
 all_goals (try simp only[Qi_,Qf_,bne] at *)
 all_goals first | rfl | (simp only[Zt,Zu,Zr,List.foldl,Qr_,Qp_,Ql_,Qn_,Q5_,Q4_,Qw_,Q3_,Qu_,Qt_,Qb_,Qd_,QD_,Q8_, *];done) | (simp only[Zt,Zu,Zr,List.foldl,Qr_,Qp_,Ql_,Qn_,Q5_,Q4_,Qw_,Q3_,Qu_,Qt_,Qb_,Qd_,QD_,Q8_, *];first | rfl | (simp only[nz,nzA,nz1,QE_,QN_,Iv.enc,V.enc,Ray.enc, *];first | done | rfl)) | (simp_all[nz,nzA,nz1,Iv.enc,V.enc,Ray.enc,Dec.enc,Shape.enc,none',told,K4_,Zt];done) | (simp_all[nz,nzA,nz1,Iv.enc,V.enc,Ray.enc,Dec.enc,Shape.enc,none',told,K4_,Zt];omega) | (simp_all[nz,nzA,nz1,Iv.enc,V.enc,Ray.enc,Dec.enc,Shape.enc,none',told,K4_,Zt];(repeat' split)<;>(first | rfl | (exfalso;omega) | (simp_all;done) | omega))
theorem Z1F:Zj Tryz.prog 103 Z1g:=Zk<|Zh fun c=>EZ0<|by
 refine cf0 Zg (fn:=Tryz.f103) rfl ?_
 refine sxT (fun Q=>Q (vB (c !=(10:Int)))) (fun _=>by kernel_rfl) ?_
 delta Qn vB
 refine ?_
 all_goals (try simp only[Qi_,Qf_,bne] at *)
 all_goals first | rfl | (simp only[X7,Zu,Zr,List.foldl,Qr_,Qp_,Ql_,Qn_,Q5_,Q4_,Qw_,Q3_,Qu_,Qt_,Qb_,Qd_,QD_,Q8_, *];done) | (simp only[X7,Zu,Zr,List.foldl,Qr_,Qp_,Ql_,Qn_,Q5_,Q4_,Qw_,Q3_,Qu_,Qt_,Qb_,Qd_,QD_,Q8_, *];first | rfl | (simp only[nz,nzA,nz1,QE_,QN_,Iv.enc,V.enc,Ray.enc, *];first | done | rfl)) | (simp_all[nz,nzA,nz1,Iv.enc,V.enc,Ray.enc,Dec.enc,Shape.enc,none',told,K4_,X7];done) | (simp_all[nz,nzA,nz1,Iv.enc,V.enc,Ray.enc,Dec.enc,Shape.enc,none',told,K4_,X7];omega) | (simp_all[nz,nzA,nz1,Iv.enc,V.enc,Ray.enc,Dec.enc,Shape.enc,none',told,K4_,X7];(repeat' split)<;>(first | rfl | (exfalso;omega) | (simp_all;done) | omega))
theorem Z2p:Zj Tryz.prog 99 e99:=Zk<|Zh fun a=>Zh fun b=>EZ0<|by
 refine cf0 Zg (fn:=Tryz.f99) rfl ?_
 refine sxT (fun Q=>Q (PV.v (Value.complex FloatKind.f64 (FloatKind.f64.nearest a) (FloatKind.f64.nearest b)))) (fun _=>by kernel_rfl) ?_
 delta Qn
 refine ?_
 all_goals (try simp only[Qi_,Qf_,bne] at *)
 all_goals first | rfl | (simp only[Yr,Zu,Zr,List.foldl,Qr_,Qp_,Ql_,Qn_,Q5_,Q4_,Qw_,Q3_,Qu_,Qt_,Qb_,Qd_,QD_,Q8_, *];done) | (simp only[Yr,Zu,Zr,List.foldl,Qr_,Qp_,Ql_,Qn_,Q5_,Q4_,Qw_,Q3_,Qu_,Qt_,Qb_,Qd_,QD_,Q8_, *];first | rfl | (simp only[nz,nzA,nz1,QE_,QN_,Iv.enc,V.enc,Ray.enc, *];first | done | rfl)) | (simp_all[nz,nzA,nz1,Iv.enc,V.enc,Ray.enc,Dec.enc,Shape.enc,none',told,K4_,Yr];done) | (simp_all[nz,nzA,nz1,Iv.enc,V.enc,Ray.enc,Dec.enc,Shape.enc,none',told,K4_,Yr];omega) | (simp_all[nz,nzA,nz1,Iv.enc,V.enc,Ray.enc,Dec.enc,Shape.enc,none',told,K4_,Yr];(repeat' split)<;>(first | rfl | (exfalso;omega) | (simp_all;done) | omega))
def Zyn:=YY [(103,Z1g)]
theorem Zms:CSOk Tryz.prog Zyn:=Zb Z1F<|Zg
theorem ZqP:Yl Tryz.prog (Z9 Tryz.f102 0) Zf6:=by
 refine Za0 Zs.Γ (ZF Zs Zms ZR ZS ZX (LS:=[]) (Yo (l:=[]) (by kernel_rfl) Z2) (n:=2000) (U2 Ztg) (U2 JO) (fun x e s=>(e= .exit 0∧s=U2 Zbe x)) (fun x=>(x.2.length - x.1).toNat) Zf5 ZqB ZqC (fun x hx=>?_)) Zf5 ?_
 ·obtain ⟨i,s⟩:=x
  simp only[U2,JO] at hx
  refine sxT (fun Q=>(bif decide (i < ↑s.length) then (((0:Int)≤i∧i < ↑s.length)∧(bif X7 ↑(s.getD i.toNat (0:UInt8)).toNat then Q (Ex.normal) (some ⟨24,[(7,AV.p (vI (IntKind.i64.wrap (i+(1:Int))))),(0,AV.p (PV.str s)),(2,AV.p (PV.fn (103:FuncId) []))],[],[],[],[]⟩) else Q (Ex.exit (0:Nat)) (some ⟨24,[(7,pI i)],[],[],[],[]⟩))) else Q (Ex.exit (0:Nat)) (some ⟨24,[(7,pI i)],[],[],[],[]⟩))) (fun _=>by kernel_rfl) ?_
  delta vI pI
  refine Za (fun h0=>⟨?r0,Za (fun h1=>?_) (fun h1=>?_)⟩) (fun h0=>?_)
  case r0=>first | rfl | (obtain ⟨a1,a2,a3⟩:=hx;simp only[Qc_] at h0;omega) | omega | skip
  all_goals (obtain ⟨a1,a2,a3⟩:=hx)
  all_goals (try simp only[Qc_,Qe_] at h0)
  ·have hw:IntKind.i64.wrap (i+1)=i+1:=Zf (by constructor<;>omega)
   have hs:=Zfz (p:=X7) a1 h0 h1
   refine .inl ⟨by trivial,(IntKind.i64.wrap (i+1),s),rfl, ?_, ?_, ?_⟩
   ·simp only[U2,JO,hw];omega
   ·simp only[hw];omega
   ·intro e s' h;refine ⟨h.1,h.2.trans ?_⟩;unfold U2 Zbe;(try dsimp only);rw[hw,hs]
  ·exact .inr ⟨by simp,_,rfl,by trivial,by unfold U2 Zbe;(try dsimp only);rw[Zf0 (p:=X7) a1 h0 h1]⟩
  ·exact .inr ⟨by simp,_,rfl,by trivial,by unfold U2 Zbe;(try dsimp only);rw[ZgJ (by omega)]⟩
 ·intro σ K hS
  unfold Zf6 at hS
  split at hS
  ·rename_i p1 p2 hk
   obtain ⟨hi,hK⟩:=XH hS
   refine ⟨(p1,p2),hk,hi _ (by simp),fun e s hf=>?_⟩
   dsimp only[U2] at hf
   obtain ⟨rfl,rfl⟩:=hf
   exact hK
  ·exact hS.elim
theorem Zub:ZQ Tryz.prog [(3,Zf6)] Tryz.f102:=ZM (l:=[Z9 Tryz.f102 0]) (by kernel_rfl) (Ya (i:=3) (by kernel_rfl) rfl ZqP (Z2))
theorem Zuc(s:List UInt8)(k:Int)(hp0:0≤k∧k < s.length∧s.length≤4000):Con Tryz.prog 102 [.str s,.v (.int .i64 k),.fn 103 []] (.v (.int .i64 (Zm X7 s (k+1)))):=by
 refine cfL Zms Zub rfl ?_
 refine sxT (fun Q=>((JO (IntKind.i64.wrap (k+(1:Int))) s)∧Q (vI (Zm X7 s (IntKind.i64.wrap (k+(1:Int))))))) (fun _=>by kernel_rfl) ?_
 delta Qn vI
 refine ⟨?_, ?_⟩
 all_goals rw[Zf (show Fit (k+1) by constructor<;>omega)]
 ·simp only[JO];omega
 ·rfl
theorem Zud:Zj Tryz.prog 102 ZiI:=by
 intro args r ps h hp
 unfold ZiI at h
 split at h
 ·rename_i p1 p2
  cases (Qa_ h)
  exact Zuc p1 p2 (hp _ (by simp))
 ·exact absurd h (by simp)
def Zwv:=YY [(104,Z1e)]
theorem Zku:CSOk Tryz.prog Zwv:=Zb Z1D<|Zg
theorem ZpG:Yl Tryz.prog (Z9 Tryz.f102 0) Zex:=by
 refine Za0 Zs.Γ (ZF Zs Zku ZR ZS ZX (LS:=[]) (Yo (l:=[]) (by kernel_rfl) Z2) (n:=2000) (U2 ZqD) (U2 Je) (fun x e s=>(e= .exit 0∧s=U2 Zam x)) (fun x=>(x.2.length - x.1).toNat) Zew ZoV ZoW (fun x hx=>?_)) Zew ?_
 ·obtain ⟨i,s⟩:=x
  simp only[U2,Je] at hx
  refine sxT (fun Q=>(bif decide (i < ↑s.length) then (((0:Int)≤i∧i < ↑s.length)∧(bif Z1 ↑(s.getD i.toNat (0:UInt8)).toNat then Q (Ex.normal) (some ⟨24,[(7,AV.p (vI (IntKind.i64.wrap (i+(1:Int))))),(0,AV.p (PV.str s)),(2,AV.p (PV.fn (104:FuncId) []))],[],[],[],[]⟩) else Q (Ex.exit (0:Nat)) (some ⟨24,[(7,pI i)],[],[],[],[]⟩))) else Q (Ex.exit (0:Nat)) (some ⟨24,[(7,pI i)],[],[],[],[]⟩))) (fun _=>by kernel_rfl) ?_
  delta vI pI
  refine Za (fun h0=>⟨?r0,Za (fun h1=>?_) (fun h1=>?_)⟩) (fun h0=>?_)
  case r0=>first | rfl | (obtain ⟨a1,a2,a3⟩:=hx;simp only[Qc_] at h0;omega) | omega | skip
  all_goals (obtain ⟨a1,a2,a3⟩:=hx)
  all_goals (try simp only[Qc_,Qe_] at h0)
  ·have hw:IntKind.i64.wrap (i+1)=i+1:=Zf (by constructor<;>omega)
   have hs:=Zfz (p:=Z1) a1 h0 h1
   refine .inl ⟨by trivial,(IntKind.i64.wrap (i+1),s),rfl, ?_, ?_, ?_⟩
   ·simp only[U2,Je,hw];omega
   ·simp only[hw];omega
   ·intro e s' h;refine ⟨h.1,h.2.trans ?_⟩;unfold U2 Zam;(try dsimp only);rw[hw,hs]
  ·exact .inr ⟨by simp,_,rfl,by trivial,by unfold U2 Zam;(try dsimp only);rw[Zf0 (p:=Z1) a1 h0 h1]⟩
  ·exact .inr ⟨by simp,_,rfl,by trivial,by unfold U2 Zam;(try dsimp only);rw[ZgJ (by omega)]⟩
 ·intro σ K hS
  unfold Zex at hS
  split at hS
  ·rename_i p1 p2 hk
   obtain ⟨hi,hK⟩:=XH hS
   refine ⟨(p1,p2),hk,hi _ (by simp),fun e s hf=>?_⟩
   dsimp only[U2] at hf
   obtain ⟨rfl,rfl⟩:=hf
   exact hK
  ·exact hS.elim
theorem ZqQ:ZQ Tryz.prog [(3,Zex)] Tryz.f102:=ZM (l:=[Z9 Tryz.f102 0]) (by kernel_rfl) (Ya (i:=3) (by kernel_rfl) rfl ZpG (Z2))
theorem ZqR(s:List UInt8)(k:Int)(hp0:0≤k∧k < s.length∧s.length≤4000):Con Tryz.prog 102 [.str s,.v (.int .i64 k),.fn 104 []] (.v (.int .i64 (Zm Z1 s (k+1)))):=by
 refine cfL Zku ZqQ rfl ?_
 refine sxT (fun Q=>((Je (IntKind.i64.wrap (k+(1:Int))) s)∧Q (vI (Zm Z1 s (IntKind.i64.wrap (k+(1:Int))))))) (fun _=>by kernel_rfl) ?_
 delta Qn vI
 refine ⟨?_, ?_⟩
 all_goals rw[Zf (show Fit (k+1) by constructor<;>omega)]
 ·simp only[Je];omega
 ·rfl
theorem ZqS:Zj Tryz.prog 102 ZgN:=by
 intro args r ps h hp
 unfold ZgN at h
 split at h
 ·rename_i p1 p2
  cases (Qa_ h)
  exact ZqR p1 p2 (hp _ (by simp))
 ·exact absurd h (by simp)
def Zyo:=YY [(105,Z1f)]
theorem Zmt:CSOk Tryz.prog Zyo:=Zb Z1E<|Zg
theorem ZqT:Yl Tryz.prog (Z9 Tryz.f102 0) Zf9:=by
 refine Za0 Zs.Γ (ZF Zs Zmt ZR ZS ZX (LS:=[]) (Yo (l:=[]) (by kernel_rfl) Z2) (n:=2000) (U2 Zth) (U2 JP) (fun x e s=>(e= .exit 0∧s=U2 Zbf x)) (fun x=>(x.2.length - x.1).toNat) Zf8 ZqE ZqF (fun x hx=>?_)) Zf8 ?_
 ·obtain ⟨i,s⟩:=x
  simp only[U2,JP] at hx
  refine sxT (fun Q=>(bif decide (i < ↑s.length) then (((0:Int)≤i∧i < ↑s.length)∧(bif Zt ↑(s.getD i.toNat (0:UInt8)).toNat then Q (Ex.normal) (some ⟨24,[(7,AV.p (vI (IntKind.i64.wrap (i+(1:Int))))),(0,AV.p (PV.str s)),(2,AV.p (PV.fn (105:FuncId) []))],[],[],[],[]⟩) else Q (Ex.exit (0:Nat)) (some ⟨24,[(7,pI i)],[],[],[],[]⟩))) else Q (Ex.exit (0:Nat)) (some ⟨24,[(7,pI i)],[],[],[],[]⟩))) (fun _=>by kernel_rfl) ?_
  delta vI pI
  refine Za (fun h0=>⟨?r0,Za (fun h1=>?_) (fun h1=>?_)⟩) (fun h0=>?_)
  case r0=>first | rfl | (obtain ⟨a1,a2,a3⟩:=hx;simp only[Qc_] at h0;omega) | omega | skip
  all_goals (obtain ⟨a1,a2,a3⟩:=hx)
  all_goals (try simp only[Qc_,Qe_] at h0)
  ·have hw:IntKind.i64.wrap (i+1)=i+1:=Zf (by constructor<;>omega)
   have hs:=Zfz (p:=Zt) a1 h0 h1
   refine .inl ⟨by trivial,(IntKind.i64.wrap (i+1),s),rfl, ?_, ?_, ?_⟩
   ·simp only[U2,JP,hw];omega
   ·simp only[hw];omega
   ·intro e s' h;refine ⟨h.1,h.2.trans ?_⟩;unfold U2 Zbf;(try dsimp only);rw[hw,hs]
  ·exact .inr ⟨by simp,_,rfl,by trivial,by unfold U2 Zbf;(try dsimp only);rw[Zf0 (p:=Zt) a1 h0 h1]⟩
  ·exact .inr ⟨by simp,_,rfl,by trivial,by unfold U2 Zbf;(try dsimp only);rw[ZgJ (by omega)]⟩
 ·intro σ K hS
  unfold Zf9 at hS
  split at hS
  ·rename_i p1 p2 hk
   obtain ⟨hi,hK⟩:=XH hS
   refine ⟨(p1,p2),hk,hi _ (by simp),fun e s hf=>?_⟩
   dsimp only[U2] at hf
   obtain ⟨rfl,rfl⟩:=hf
   exact hK
  ·exact hS.elim
theorem Zue:ZQ Tryz.prog [(3,Zf9)] Tryz.f102:=ZM (l:=[Z9 Tryz.f102 0]) (by kernel_rfl) (Ya (i:=3) (by kernel_rfl) rfl ZqT (Z2))
theorem Zuf(s:List UInt8)(k:Int)(hp0:0≤k∧k < s.length∧s.length≤4000):Con Tryz.prog 102 [.str s,.v (.int .i64 k),.fn 105 []] (.v (.int .i64 (Zm Zt s (k+1)))):=by
 refine cfL Zmt Zue rfl ?_
 refine sxT (fun Q=>((JP (IntKind.i64.wrap (k+(1:Int))) s)∧Q (vI (Zm Zt s (IntKind.i64.wrap (k+(1:Int))))))) (fun _=>by kernel_rfl) ?_
 delta Qn vI
 refine ⟨?_, ?_⟩
 all_goals rw[Zf (show Fit (k+1) by constructor<;>omega)]
 ·simp only[JP];omega
 ·rfl
theorem Zug:Zj Tryz.prog 102 ZiJ:=by
 intro args r ps h hp
 unfold ZiJ at h
 split at h
 ·rename_i p1 p2
  cases (Qa_ h)
  exact Zuf p1 p2 (hp _ (by simp))
 ·exact absurd h (by simp)
theorem Z1G:Zj Tryz.prog 102 Z1h:=ZeC Zud (ZeC ZqS (Zug))
def Zbk(s:List UInt8):=ZK (ZN s [(45:UInt8)]).fst
def Znu(s:List UInt8):=ZaX (Zbk s).snd.fst [(48:UInt8)]
def Zkv(s:List UInt8):=(Zbk s).fst++ZaX (Zbk s).snd.fst [(48:UInt8)]
def Znv:=PV.tup [PV.agg [vI 0,vI 0],vB false]
def Zuh(s:List UInt8)(Q:PV→Prop):Prop:=bif (ZN s [(45:UInt8)]).snd then Q (PV.tup [PV.agg [vI (IntKind.i64.wrap ((0:Int) - ZbF (Zkv s))),vI (↑(Znu s).length)],vB true]) else Q (PV.tup [PV.agg [vI (ZbF (Zkv s)),vI (↑(Znu s).length)],vB true])
def Zui(s:List UInt8)(Q:PV→Prop):Prop:=((Zbk s).snd.fst.length≤(4000000000:Nat)∧(1:Nat)≤(4000000000:Nat))∧((true=true)∧(((Zbk s).fst.length+(Znu s).length≤(9223372036854775807:Nat))∧((ZoH (Zkv s))∧(bif (ZN s [(45:UInt8)]).snd then (bif ZbF (Zkv s)==(0:Int) then Q Znv else (Zuh s Q)) else (Zuh s Q)))))
theorem Zww:Zj Tryz.prog 106 Z1i:=Zk<|Zh fun s=>EZ1 fun hp0=>by
 refine cf0 (Zb Z18<|Zb Z1B<|Zb Z1C<|Zb Z10<|Zb Z11<|Zg) (fn:=Tryz.f106) rfl ?_
 refine sxT (fun Q=>(((ZN s [(45:UInt8)]).fst.length≤(4000000000:Nat))∧(((Zbk s).fst.length≤(4000000000:Nat))∧(bif !figs (Zbk s).fst (5:Int) then Q Znv else (bif (Zbk s).snd.snd then (((Zbk s).snd.fst.length≤(4000000000:Nat))∧(bif !figs (Zbk s).snd.fst (6:Int) then Q Znv else (Zui s Q))) else (Zui s Q)))))) (fun _=>by kernel_rfl) ?_
 delta Qn Zui Zbk Zuh Zkv Znv Znu vI vB
 refine ⟨?r10,⟨?r9,Za (fun h0=>?_) (fun h0=>Za (fun h1=>⟨?r4,Za (fun h2=>?_) (fun h2=>⟨?r3,⟨?r2,⟨?r1,⟨?r0,Za (fun h3=>Za (fun h4=>?_) (fun h4=>Za (fun h5=>?_) (fun h5=>?_))) (fun h3=>Za (fun h4=>?_) (fun h4=>?_))⟩⟩⟩⟩)⟩) (fun h1=>⟨?r8,⟨?r7,⟨?r6,⟨?r5,Za (fun h2=>Za (fun h3=>?_) (fun h3=>Za (fun h4=>?_) (fun h4=>?_))) (fun h2=>Za (fun h3=>?_) (fun h3=>?_))⟩⟩⟩⟩))⟩⟩
 case r0|r1|r2|r3|r4|r5|r6|r7|r8|r9|r10=>first | rfl | omega | (have k1:=ZsT s [45];have k2:=Zv3 (ZN s [45]).1;first | omega | exact ⟨by omega,by decide⟩) | (have hF:Zec s=true:=(by rw[ZoI];simp only[Qi_,Qf_] at *;simp only[*,Qp_,Qu_,Qt_,Q4_,Qw_,Q5_]);first | exact (ZyN hF).1 | exact (ZyN hF).2) | skip
 all_goals (try simp only[Qi_,Qf_] at *)
 all_goals have eF:=ZoI s
 all_goals simp only[*,Qp_,Ql_,Qu_,Qt_,Q4_,Qw_,Q5_,Q3_] at eF
 all_goals rw[ZsU,eF]
 all_goals first
  | rfl
  | (have hb:=ZzW eF
     simp only[show ZbF ((ZK (ZN s [45]).fst).fst++ZaX (ZK (ZN s [45]).fst).snd.fst [48])=Zeu s from rfl] at *
     simp only[*,Qb_,Qd_]
     first | rfl | (rw[YZ (by constructor<;>omega)];rfl) | (exfalso;simp_all;done) | skip)
end Go.Men
namespace Go.Ev
open Go.RowKit
def sxJ(Γ:List (Nat×Ty))(R:RSy)(T:TSy)(LS:List (Nat×LSum))(s:Code)(stop:Nat):Nat→Code→St→(Ex→St→Prop)→Prop
 | 0,_,_,_=>False
 | n+1,c,σ,K=>Zfv (clean (XX s) σ) fun σ=>YJ Γ R T LS (n+1) none c σ fun e σ1=>match e with
   | .goto l=>(match Nat.beq l stop with
     | true=>K (.goto l) σ1
     | false=>match findLabel s l with
       | some rest=>sxJ Γ R T LS s stop n rest σ1 K
       | none=>False)
   | e=>K e σ1
section
variable {P:Program}
theorem ZpH{s c:Code}{m:Nat}{σ τ σ':St}{e:Ex}(hs:Wk P σ τ)(h:XL P s m c τ e σ'):XL P s m c σ e σ':=fun B g a w hI=>
 Zb9 (fun _ _ _ ⟨h1,g',h2,h3⟩=>⟨h1,g',h2,(hs B g a w hI).2.1 _ _ _ h3⟩) _ _ _ _ (h B g a w (hs B g a w hI).1)
theorem ZpI{s c:Code}{m:Nat}{σ τ σ':St}{e:Ex}(hs:Wk P σ' τ)(h:XL P s m c σ e σ'):XL P s m c σ e τ:=fun B g a w hI=>
 Zb9 (fun _ a' w' ⟨h1,g',h2,h3⟩=>⟨h1,g',(hs B g' a' w' h2).1,(hs B g' a' w' h2).2.2 _ _ _ _ h3⟩) _ _ _ _ (h B g a w hI)
theorem Zmu{E:Env}(hE:EnvOk P E){C:ZP}(hC:CSOk P C){CP:Ys}(hP:CSPOk P CP){CI:Yn}(hI:CSIOk P CI){G:Gx}(hG:OwOk P C G){LS:List (Nat×LSum)}{s:Code}{stop:Nat}(hL:∀b∈ZD s,∀S,lk (X1 b) LS=some S→Yl P b S):
 ∀(n:Nat) (c:Code) (σ:St) (K:Ex→St→Prop),(∀b∈ZD c,∀S,lk (X1 b) LS=some S→Yl P b S)→sxJ E.Γ (RSym E C) (ZbB E C CP CI G) LS s stop n c σ K→
  ∃e σ',K e σ'∧(∀rest e2 σ2 m,e= .goto stop→findLabel s stop=some rest→XL P s m rest σ' e2 σ2→∃m',XL P s m' c σ e2 σ2)∧(e≠ .goto stop→∃m,XL P s m c σ e σ'):=by
 intro n
 induction n with
 | zero=>intro c σ K _ h;exact h.elim
 | succ n ih=>
   intro c σ K hl h
   unfold sxJ at h
   rw[ZcR] at h
   obtain ⟨e,σ1,h1,h2,_⟩:=(ZaT hE.Γ hE.mixed ZjJ (ZeA hE (ZjH hC)) ZhE (ZjO hE hC hP hI hG) (n+1)).1 c _ _ hl h
   have h3:=XC h2
   have out:(∀l,e≠ .goto l)→K e σ1→∃e σ',K e σ'∧(∀rest e2 σ2 m,e= .goto stop→findLabel s stop=some rest→XL P s m rest σ' e2 σ2→∃m',XL P s m' c σ e2 σ2)∧(e≠ .goto stop→∃m,XL P s m c σ e σ'):=
    fun hne hk=>⟨e,σ1,hk,fun _ _ _ _ he=>absurd he (hne _),fun _=>⟨1,Ziy hne h3⟩⟩
   cases e with
   | goto l=>
     simp only at h1
     cases hb:Nat.beq l stop with
     | true=>
       rw[hb] at h1
       have:=Qj_ hb
       subst this
       exact ⟨_,σ1,h1,fun rest e2 σ2 m _ hf ht=>⟨m+1,ZbP h3 hf ht⟩,fun hne=>absurd rfl hne⟩
     | false=>
       rw[hb] at h1
       simp only at h1
       split at h1
       ·rename_i rest hf
        obtain ⟨e',σ',k1,k2,k3⟩:=ih rest σ1 K (fun b hb=>hL b (Zai hf b hb)) h1
        refine ⟨e',σ',k1,fun r2 e2 σ2 m he hf2 ht=>?_,fun hne=>?_⟩
        ·obtain ⟨m',hm⟩:=k2 r2 e2 σ2 m he hf2 ht
         exact ⟨m'+1,ZbP h3 hf hm⟩
        ·obtain ⟨m',hm⟩:=k3 hne
         exact ⟨m'+1,ZbP h3 hf hm⟩
       ·exact h1.elim
   | normal=>exact out (fun l=>by simp) h1
   | exit i=>exact out (fun l=>by simp) h1
   | ret=>exact out (fun l=>by simp) h1
def kpL(Γ:List (Nat×Ty))(k kr:KpH)(e:Ex)(σ:St):Option St:=match e with
 | .goto _=>Jh Γ k σ
 | _=>Jh Γ kr σ
def sxL(E:Env)(C:ZP)(CP:Ys)(CI:Yn)(G:Gx)(LS:List (Nat×LSum))(n:Nat)(s:Code)(stop:Nat)(c:Code)(k kr:KpH)(σ:St)(Q:Ex→Option St→Prop):Prop:=
 sxJ E.Γ (RSym E C) (ZbB E C CP CI G) LS s stop n c σ fun e σ1=>Q e (kpL E.Γ k kr e σ1)
theorem Zwx{E:Env}(hE:EnvOk P E){C:ZP}(hC:CSOk P C){CP:Ys}(hP:CSPOk P CP){CI:Yn}(hI:CSIOk P CI){G:Gx}(hG:OwOk P C G){LS:List (Nat×LSum)}{s rest:Code}{stop:Nat}(hL:∀b∈ZD s,∀S,lk (X1 b) LS=some S→Yl P b S)(hf:findLabel s stop=some rest){n:Nat}
 {X:Type} (H:X→St) (inv:X→Prop) (fin:X→St→Prop) (μ:X→Nat) (k kr:KpH)
 (step:∀x,inv x→sxL E C CP CI G LS n s stop rest k kr (H x) fun e o=>
   (e= .goto stop∧∃y,o=some (H y)∧inv y∧μ y < μ x∧∀s,fin y s→fin x s)∨(e= .ret∧∃τ,o=some τ∧fin x τ)):
 ∀x,inv x→∃σ',fin x σ'∧∃m,XL P s m rest (H x) .ret σ':=by
 have key:∀j x,μ x < j→inv x→∃σ',fin x σ'∧∃m,XL P s m rest (H x) .ret σ':=by
  intro j
  induction j with
  | zero=>intro x hx;omega
  | succ j ih=>
    intro x hx hi
    obtain ⟨e,σ1,h1,h2,h3⟩:=Zmu hE hC hP hI hG hL n rest (H x) _ (fun b hb=>hL b (Zai hf b hb)) (step x hi)
    rcases h1 with ⟨rfl,y,hy,iy,my,fy⟩ | ⟨rfl,τ,ht,hfin⟩
    ·obtain ⟨σ',f1,m,f2⟩:=ih y (by omega) iy
     obtain ⟨m',f3⟩:=h2 rest _ _ m rfl hf (ZpH (Zbz hE.Γ hy) f2)
     exact ⟨σ',fy _ f1,m',f3⟩
    ·obtain ⟨m,f3⟩:=h3 (by simp)
     exact ⟨τ,hfin,m,ZpI (Zbz hE.Γ ht) f3⟩
 exact fun x hi=>key (μ x+1) x (by omega) hi
def Zyp(E:Env)(C:ZP)(CP:Ys)(CI:Yn)(G:Gx)(LS:List (Nat×LSum))(n:Nat)(fn:Func)(pre s:Code)(stop:Nat)(k kr:KpH)(args:List PV)(Q:Ex→Option St→Prop):Prop:=
 Zov (XB fn.ntmps args) fun σ=>YJ E.Γ (RSym E C) (ZbB E C CP CI G) LS n none pre σ fun e σ1=>match e with
  | .normal=>sxL E C CP CI G LS n s stop s k kr σ1 Q
  | _=>False
theorem Zyq{E:Env}(hE:EnvOk P E){C:ZP}(hC:CSOk P C){CP:Ys}(hP:CSPOk P CP){CI:Yn}(hI:CSIOk P CI){G:Gx}(hG:OwOk P C G){LS:List (Nat×LSum)}{f:Nat}{fn:Func}(hfn:lk f E.fns=some fn){pre s rest:Code}(hb:fn.body=some (.seq pre (.scope s))){stop:Nat}(hf:findLabel s stop=some rest)
 (hLp:∀b∈ZD pre,∀S,lk (X1 b) LS=some S→Yl P b S) (hL:∀b∈ZD s,∀S,lk (X1 b) LS=some S→Yl P b S) {n:Nat} {args:List PV} (hn:Nat.ble args.length fn.ntmps=true) {k kr:KpH} {R:PV→Prop}
 (h:Zyp E C CP CI G LS n fn pre s stop k kr args fun e o=>(e= .goto stop∧∃τ,o=some τ∧∃σ',ZbC E fn.results.toList R .ret σ'∧∃m,XL P s m rest τ .ret σ')∨(e= .ret∧∃τ,o=some τ∧ZbC E fn.results.toList R .ret τ)):∃r,R r∧Con P f args r:=by
 obtain ⟨k1,k2⟩:=hE.fns f fn hfn
 unfold Zyp at h
 rw[Zlo] at h
 obtain ⟨e,σ1,h1,h2,_⟩:=(ZaT hE.Γ hE.mixed ZjJ (ZeA hE (ZjH hC)) ZhE (ZjO hE hC hP hI hG) n).1 pre _ _ hLp h
 cases e with
 | normal=>
   simp only at h1
   obtain ⟨e',σ2,j1,j2,j3⟩:=Zmu hE hC hP hI hG hL n s σ1 _ hL h1
   have fin:∀{σ':St} {m:Nat},ZbC E fn.results.toList R .ret σ'→XL P s m s σ1 .ret σ'→∃r,R r∧Con P f args r:=by
    intro σ' m he ht
    unfold ZbC at he
    simp only[WO,Qb_] at he
    split at he
    ·rename_i r hr
     exact ⟨_,he,ZnH hE.Γ k2 k1 hb hn (ZkQ h2 (Zgg ht)) rfl hr⟩
    ·exact he.elim
   rcases j1 with ⟨rfl,τ,ht,σ',he,m,hs⟩ | ⟨rfl,τ,ht,he⟩
   ·obtain ⟨m',hm⟩:=j2 rest _ _ m rfl hf (ZpH (Zbz hE.Γ ht) hs)
    exact fin he hm
   ·obtain ⟨m,hm⟩:=j3 (by simp)
    exact fin he (ZpI (Zbz hE.Γ ht) hm)
 | exit i=>exact h1.elim
 | goto i=>exact h1.elim
 | ret=>exact h1.elim
end
end Go.Ev
namespace Go.Men
open Go Go.Ev Go.Proofs Go.Proofs.YtgfgjabeooohhaaGreatDoor
def Z2q:Option Code→Code | some (.seq _ (.scope s))=>s | _=> .skip
def Z2r:Option Code→Code | some (.seq p (.scope _))=>p | _=> .skip
noncomputable def ZfI:Code:=Z2q Tryz.f48.body
noncomputable def Zyr:Code:=Z2r Tryz.f48.body
noncomputable def ZpJ:Code:=(findLabel ZfI 0).getD .skip
theorem Zys:Tryz.f48.body=some (.seq Zyr (.scope ZfI)):=rfl
theorem ZpK:findLabel ZfI 0=some ZpJ:=by kernel_rfl
def ZlB(s:List UInt8)(k line beg:Int)(sm:Bool)(out:List Tok):St:=⟨118,[(0,.p (.str s)),(5,.p (.lst (out.map Tok.enc))),(6,pI k),(8,pI line),(9,pI beg),(10,.p (vB sm))],[],[],[(.t 5,92)],[]⟩
def ZpL:KpH:=⟨⟨[0,5,6,8,9,10],[],[.t 5]⟩,[(.t 5,92)]⟩
def Zkw:KpH:=⟨⟨[2,3,4],[],[]⟩,[]⟩
def Znw:=YY [(99,e99),(100,Z1c),(101,Z1d),(102,Z1h),(106,Z1i)]
theorem Z1H(s:List UInt8)(k line beg:Int)(sm:Bool)(out:List Tok)(Q:Ex→Option St→Prop):sxL evEnv Znw Zg4 Zg5 noG [] 2000 ZfI 0 ZpJ ZpL Zkw (ZlB s k line beg sm out) Q=(bif k==↑s.length then (bif sm then (((0:Nat) < (1:Nat)∧((List.map Tok.enc out).length+(1:Nat))* (40:Nat)≤(140737488355328:Nat)∧Lens (3:Nat) (List.map Tok.enc out++[[PV.v (Value.int IntKind.i64 (3:Int)),PV.str [],PV.v (Value.complex FloatKind.f64 (Yr line (IntKind.i64.wrap (IntKind.i64.wrap (k - beg)+(1:Int)))).re (Yr line (IntKind.i64.wrap (IntKind.i64.wrap (k - beg)+(1:Int)))).im)]]))∧(bif k==↑s.length then Q (Ex.ret) (some ⟨118,[(2,AV.p (PV.lst (List.map Tok.enc out++[[PV.v (Value.int IntKind.i64 ((3:Int))),PV.str ([]),PV.v (Value.complex FloatKind.f64 ((Yr line (IntKind.i64.wrap (IntKind.i64.wrap (k - beg)+(1:Int)))).re) ((Yr line (IntKind.i64.wrap (IntKind.i64.wrap (k - beg)+(1:Int)))).im))]]))),(3,AV.p (PV.v (Value.complex FloatKind.f64 (0) (0)))),(4,AV.p (PV.v (Value.int IntKind.i64 ((0:Int)))))],[],[],[],[]⟩) else Q (Ex.goto (0:Nat)) (some ⟨118,[(0,AV.p (PV.str (s))),(5,AV.p (PV.lst (List.map Tok.enc out++[[PV.v (Value.int IntKind.i64 ((3:Int))),PV.str ([]),PV.v (Value.complex FloatKind.f64 ((Yr line (IntKind.i64.wrap (IntKind.i64.wrap (k - beg)+(1:Int)))).re) ((Yr line (IntKind.i64.wrap (IntKind.i64.wrap (k - beg)+(1:Int)))).im))]]))),(6,AV.p (PV.v (Value.int IntKind.i64 (IntKind.i64.wrap (k+(1:Int)))))),(8,AV.p (PV.v (Value.int IntKind.i64 (IntKind.i64.wrap (line+(1:Int)))))),(9,AV.p (PV.v (Value.int IntKind.i64 (IntKind.i64.wrap (k+(1:Int)))))),(10,AV.p (PV.v (Value.bool (false))))],[],[],[(Loc.t 5,92)],[]⟩))) else (bif k==↑s.length then Q (Ex.ret) (some ⟨118,[(2,AV.p (PV.lst (List.map Tok.enc out))),(3,AV.p (PV.v (Value.complex FloatKind.f64 (0) (0)))),(4,AV.p (PV.v (Value.int IntKind.i64 ((0:Int)))))],[],[],[],[]⟩) else Q (Ex.goto (0:Nat)) (some ⟨118,[(0,AV.p (PV.str (s))),(5,AV.p (PV.lst (List.map Tok.enc out))),(6,AV.p (PV.v (Value.int IntKind.i64 (IntKind.i64.wrap (k+(1:Int)))))),(8,AV.p (PV.v (Value.int IntKind.i64 (IntKind.i64.wrap (line+(1:Int)))))),(9,AV.p (PV.v (Value.int IntKind.i64 (IntKind.i64.wrap (k+(1:Int)))))),(10,AV.p (PV.v (Value.bool (false))))],[],[],[(Loc.t 5,92)],[]⟩))) else (((0:Int)≤k∧k < ↑s.length)∧(bif ((s.getD k.toNat (0:UInt8)).toNat:Int)==(10:Int) then (bif sm then (((0:Nat) < (1:Nat)∧((List.map Tok.enc out).length+(1:Nat))* (40:Nat)≤(140737488355328:Nat)∧Lens (3:Nat) (List.map Tok.enc out++[[PV.v (Value.int IntKind.i64 (3:Int)),PV.str [],PV.v (Value.complex FloatKind.f64 (Yr line (IntKind.i64.wrap (IntKind.i64.wrap (k - beg)+(1:Int)))).re (Yr line (IntKind.i64.wrap (IntKind.i64.wrap (k - beg)+(1:Int)))).im)]]))∧(bif k==↑s.length then Q (Ex.ret) (some ⟨118,[(2,AV.p (PV.lst (List.map Tok.enc out++[[PV.v (Value.int IntKind.i64 ((3:Int))),PV.str ([]),PV.v (Value.complex FloatKind.f64 ((Yr line (IntKind.i64.wrap (IntKind.i64.wrap (k - beg)+(1:Int)))).re) ((Yr line (IntKind.i64.wrap (IntKind.i64.wrap (k - beg)+(1:Int)))).im))]]))),(3,AV.p (PV.v (Value.complex FloatKind.f64 (0) (0)))),(4,AV.p (PV.v (Value.int IntKind.i64 ((0:Int)))))],[],[],[],[]⟩) else Q (Ex.goto (0:Nat)) (some ⟨118,[(0,AV.p (PV.str (s))),(5,AV.p (PV.lst (List.map Tok.enc out++[[PV.v (Value.int IntKind.i64 ((3:Int))),PV.str ([]),PV.v (Value.complex FloatKind.f64 ((Yr line (IntKind.i64.wrap (IntKind.i64.wrap (k - beg)+(1:Int)))).re) ((Yr line (IntKind.i64.wrap (IntKind.i64.wrap (k - beg)+(1:Int)))).im))]]))),(6,AV.p (PV.v (Value.int IntKind.i64 (IntKind.i64.wrap (k+(1:Int)))))),(8,AV.p (PV.v (Value.int IntKind.i64 (IntKind.i64.wrap (line+(1:Int)))))),(9,AV.p (PV.v (Value.int IntKind.i64 (IntKind.i64.wrap (k+(1:Int)))))),(10,AV.p (PV.v (Value.bool (false))))],[],[],[(Loc.t 5,92)],[]⟩))) else (bif k==↑s.length then Q (Ex.ret) (some ⟨118,[(2,AV.p (PV.lst (List.map Tok.enc out))),(3,AV.p (PV.v (Value.complex FloatKind.f64 (0) (0)))),(4,AV.p (PV.v (Value.int IntKind.i64 ((0:Int)))))],[],[],[],[]⟩) else Q (Ex.goto (0:Nat)) (some ⟨118,[(0,AV.p (PV.str (s))),(5,AV.p (PV.lst (List.map Tok.enc out))),(6,AV.p (PV.v (Value.int IntKind.i64 (IntKind.i64.wrap (k+(1:Int)))))),(8,AV.p (PV.v (Value.int IntKind.i64 (IntKind.i64.wrap (line+(1:Int)))))),(9,AV.p (PV.v (Value.int IntKind.i64 (IntKind.i64.wrap (k+(1:Int)))))),(10,AV.p (PV.v (Value.bool (false))))],[],[],[(Loc.t 5,92)],[]⟩))) else (bif ((s.getD k.toNat (0:UInt8)).toNat:Int)==(32:Int) then Q (Ex.goto (0:Nat)) (some ⟨118,[(0,AV.p (PV.str (s))),(5,AV.p (PV.lst (List.map Tok.enc out))),(6,AV.p (PV.v (Value.int IntKind.i64 (IntKind.i64.wrap (k+(1:Int)))))),(8,AV.p (PV.v (Value.int IntKind.i64 (line)))),(9,AV.p (PV.v (Value.int IntKind.i64 (beg)))),(10,AV.p (PV.v (Value.bool (sm))))],[],[],[(Loc.t 5,92)],[]⟩) else (bif ((s.getD k.toNat (0:UInt8)).toNat:Int)==(9:Int) then Q (Ex.goto (0:Nat)) (some ⟨118,[(0,AV.p (PV.str (s))),(5,AV.p (PV.lst (List.map Tok.enc out))),(6,AV.p (PV.v (Value.int IntKind.i64 (IntKind.i64.wrap (k+(1:Int)))))),(8,AV.p (PV.v (Value.int IntKind.i64 (line)))),(9,AV.p (PV.v (Value.int IntKind.i64 (beg)))),(10,AV.p (PV.v (Value.bool (sm))))],[],[],[(Loc.t 5,92)],[]⟩) else (bif ((s.getD k.toNat (0:UInt8)).toNat:Int)==(35:Int) then (((0:Int)≤k∧k < ↑s.length∧s.length≤(4000:Nat))∧Q (Ex.goto (0:Nat)) (some ⟨118,[(0,AV.p (PV.str (s))),(5,AV.p (PV.lst (List.map Tok.enc out))),(6,AV.p (PV.v (Value.int IntKind.i64 (Zm X7 s (k+(1:Int)))))),(8,AV.p (PV.v (Value.int IntKind.i64 (line)))),(9,AV.p (PV.v (Value.int IntKind.i64 (beg)))),(10,AV.p (PV.v (Value.bool (sm))))],[],[],[(Loc.t 5,92)],[]⟩)) else (bif Yw ↑(s.getD k.toNat (0:UInt8)).toNat then (((0:Int)≤k∧k < ↑s.length∧s.length≤(4000:Nat))∧(bif decide (IntKind.i64.wrap (Zm Z1 s (k+(1:Int)) - k) > (20:Int)) then Q (Ex.ret) (some ⟨118,[(2,AV.p (.nil)),(3,AV.p (PV.v (Value.complex FloatKind.f64 ((Yr line (IntKind.i64.wrap (IntKind.i64.wrap (k - beg)+(1:Int)))).re) ((Yr line (IntKind.i64.wrap (IntKind.i64.wrap (k - beg)+(1:Int)))).im)))),(4,AV.p (PV.v (Value.int IntKind.i64 ((3:Int)))))],[],[],[],[]⟩) else (((0:Int)≤k∧k≤Zm Z1 s (k+(1:Int))∧Zm Z1 s (k+(1:Int))≤↑s.length)∧(((0:Nat) < (1:Nat)∧((List.map Tok.enc out).length+(1:Nat))* (40:Nat)≤(140737488355328:Nat)∧Lens (3:Nat) (List.map Tok.enc out++[[PV.v (Value.int IntKind.i64 (1:Int)),PV.str (List.take ((Zm Z1 s (k+(1:Int))).toNat - k.toNat) (List.drop k.toNat s)),PV.v (Value.complex FloatKind.f64 (Yr line (IntKind.i64.wrap (IntKind.i64.wrap (k - beg)+(1:Int)))).re (Yr line (IntKind.i64.wrap (IntKind.i64.wrap (k - beg)+(1:Int)))).im)]]))∧Q (Ex.goto (0:Nat)) (some ⟨118,[(0,AV.p (PV.str (s))),(5,AV.p (PV.lst (List.map Tok.enc out++[[PV.v (Value.int IntKind.i64 ((1:Int))),PV.str (List.take ((Zm Z1 s (k+(1:Int))).toNat - k.toNat) (List.drop k.toNat s)),PV.v (Value.complex FloatKind.f64 ((Yr line (IntKind.i64.wrap (IntKind.i64.wrap (k - beg)+(1:Int)))).re) ((Yr line (IntKind.i64.wrap (IntKind.i64.wrap (k - beg)+(1:Int)))).im))]]))),(6,AV.p (PV.v (Value.int IntKind.i64 (Zm Z1 s (k+(1:Int)))))),(8,AV.p (PV.v (Value.int IntKind.i64 (line)))),(9,AV.p (PV.v (Value.int IntKind.i64 (beg)))),(10,AV.p (PV.v (Value.bool (true))))],[],[],[(Loc.t 5,92)],[]⟩))))) else (bif Xa ↑(s.getD k.toNat (0:UInt8)).toNat then (((0:Int)≤k∧k < ↑s.length∧s.length≤(4000:Nat))∧(((0:Int)≤k∧k≤Zm Zt s (k+(1:Int))∧Zm Zt s (k+(1:Int))≤↑s.length)∧(((List.take ((Zm Zt s (k+(1:Int))).toNat - k.toNat) (List.drop k.toNat s)).length≤(4000:Nat))∧(bif !(X6 (List.take ((Zm Zt s (k+(1:Int))).toNat - k.toNat) (List.drop k.toNat s))).snd then Q (Ex.ret) (some ⟨118,[(2,AV.p (.nil)),(3,AV.p (PV.v (Value.complex FloatKind.f64 ((Yr line (IntKind.i64.wrap (IntKind.i64.wrap (k - beg)+(1:Int)))).re) ((Yr line (IntKind.i64.wrap (IntKind.i64.wrap (k - beg)+(1:Int)))).im)))),(4,AV.p (PV.v (Value.int IntKind.i64 ((2:Int)))))],[],[],[],[]⟩) else (((0:Int)≤k∧k≤Zm Zt s (k+(1:Int))∧Zm Zt s (k+(1:Int))≤↑s.length)∧(((0:Nat) < (1:Nat)∧((List.map Tok.enc out).length+(1:Nat))* (40:Nat)≤(140737488355328:Nat)∧Lens (3:Nat) (List.map Tok.enc out++[[PV.v (Value.int IntKind.i64 (2:Int)),PV.str (List.take ((Zm Zt s (k+(1:Int))).toNat - k.toNat) (List.drop k.toNat s)),PV.v (Value.complex FloatKind.f64 (Yr line (IntKind.i64.wrap (IntKind.i64.wrap (k - beg)+(1:Int)))).re (Yr line (IntKind.i64.wrap (IntKind.i64.wrap (k - beg)+(1:Int)))).im)]]))∧Q (Ex.goto (0:Nat)) (some ⟨118,[(0,AV.p (PV.str (s))),(5,AV.p (PV.lst (List.map Tok.enc out++[[PV.v (Value.int IntKind.i64 ((2:Int))),PV.str (List.take ((Zm Zt s (k+(1:Int))).toNat - k.toNat) (List.drop k.toNat s)),PV.v (Value.complex FloatKind.f64 ((Yr line (IntKind.i64.wrap (IntKind.i64.wrap (k - beg)+(1:Int)))).re) ((Yr line (IntKind.i64.wrap (IntKind.i64.wrap (k - beg)+(1:Int)))).im))]]))),(6,AV.p (PV.v (Value.int IntKind.i64 (Zm Zt s (k+(1:Int)))))),(8,AV.p (PV.v (Value.int IntKind.i64 (line)))),(9,AV.p (PV.v (Value.int IntKind.i64 (beg)))),(10,AV.p (PV.v (Value.bool (true))))],[],[],[(Loc.t 5,92)],[]⟩))))))) else (bif ((s.getD k.toNat (0:UInt8)).toNat:Int)==(45:Int) then (((0:Int)≤k∧k < ↑s.length∧s.length≤(4000:Nat))∧(((0:Int)≤k∧k≤Zm Zt s (k+(1:Int))∧Zm Zt s (k+(1:Int))≤↑s.length)∧(((List.take ((Zm Zt s (k+(1:Int))).toNat - k.toNat) (List.drop k.toNat s)).length≤(4000:Nat))∧(bif !(X6 (List.take ((Zm Zt s (k+(1:Int))).toNat - k.toNat) (List.drop k.toNat s))).snd then Q (Ex.ret) (some ⟨118,[(2,AV.p (.nil)),(3,AV.p (PV.v (Value.complex FloatKind.f64 ((Yr line (IntKind.i64.wrap (IntKind.i64.wrap (k - beg)+(1:Int)))).re) ((Yr line (IntKind.i64.wrap (IntKind.i64.wrap (k - beg)+(1:Int)))).im)))),(4,AV.p (PV.v (Value.int IntKind.i64 ((2:Int)))))],[],[],[],[]⟩) else (((0:Int)≤k∧k≤Zm Zt s (k+(1:Int))∧Zm Zt s (k+(1:Int))≤↑s.length)∧(((0:Nat) < (1:Nat)∧((List.map Tok.enc out).length+(1:Nat))* (40:Nat)≤(140737488355328:Nat)∧Lens (3:Nat) (List.map Tok.enc out++[[PV.v (Value.int IntKind.i64 (2:Int)),PV.str (List.take ((Zm Zt s (k+(1:Int))).toNat - k.toNat) (List.drop k.toNat s)),PV.v (Value.complex FloatKind.f64 (Yr line (IntKind.i64.wrap (IntKind.i64.wrap (k - beg)+(1:Int)))).re (Yr line (IntKind.i64.wrap (IntKind.i64.wrap (k - beg)+(1:Int)))).im)]]))∧Q (Ex.goto (0:Nat)) (some ⟨118,[(0,AV.p (PV.str (s))),(5,AV.p (PV.lst (List.map Tok.enc out++[[PV.v (Value.int IntKind.i64 ((2:Int))),PV.str (List.take ((Zm Zt s (k+(1:Int))).toNat - k.toNat) (List.drop k.toNat s)),PV.v (Value.complex FloatKind.f64 ((Yr line (IntKind.i64.wrap (IntKind.i64.wrap (k - beg)+(1:Int)))).re) ((Yr line (IntKind.i64.wrap (IntKind.i64.wrap (k - beg)+(1:Int)))).im))]]))),(6,AV.p (PV.v (Value.int IntKind.i64 (Zm Zt s (k+(1:Int)))))),(8,AV.p (PV.v (Value.int IntKind.i64 (line)))),(9,AV.p (PV.v (Value.int IntKind.i64 (beg)))),(10,AV.p (PV.v (Value.bool (true))))],[],[],[(Loc.t 5,92)],[]⟩))))))) else Q (Ex.ret) (some ⟨118,[(2,AV.p (.nil)),(3,AV.p (PV.v (Value.complex FloatKind.f64 ((Yr line (IntKind.i64.wrap (IntKind.i64.wrap (k - beg)+(1:Int)))).re) ((Yr line (IntKind.i64.wrap (IntKind.i64.wrap (k - beg)+(1:Int)))).im)))),(4,AV.p (PV.v (Value.int IntKind.i64 ((2:Int)))))],[],[],[],[]⟩)))))))))):=by kernel_rfl
theorem Z0f(s:List UInt8)(Q:Ex→Option St→Prop):Zyp evEnv Znw Zg4 Zg5 noG [] 2000 Tryz.f48 Zyr ZfI 0 ZpL Zkw [.str s] Q=(bif decide (↑s.length > (4000:Int)) then Q (Ex.ret) (some ⟨118,[(2,AV.p (.nil)),(3,AV.p (PV.v (Value.complex FloatKind.f64 (0) (0)))),(4,AV.p (PV.v (Value.int IntKind.i64 ((3:Int)))))],[],[],[],[]⟩) else (bif (0:Int)==↑s.length then (bif (0:Int)==↑s.length then Q (Ex.ret) (some ⟨118,[(2,AV.p (.nil)),(3,AV.p (PV.v (Value.complex FloatKind.f64 (0) (0)))),(4,AV.p (PV.v (Value.int IntKind.i64 ((0:Int)))))],[],[],[],[]⟩) else Q (Ex.goto (0:Nat)) (some ⟨118,[(0,AV.p (PV.str (s))),(5,AV.p (PV.lst ([]))),(6,AV.p (PV.v (Value.int IntKind.i64 ((1:Int))))),(8,AV.p (PV.v (Value.int IntKind.i64 ((2:Int))))),(9,AV.p (PV.v (Value.int IntKind.i64 ((1:Int))))),(10,AV.p (PV.v (Value.bool (false))))],[],[],[(Loc.t 5,92)],[]⟩)) else (((0:Int)≤(0:Int)∧(0:Int) < ↑s.length)∧(bif ((s.getD (0:Nat) (0:UInt8)).toNat:Int)==(10:Int) then (bif (0:Int)==↑s.length then Q (Ex.ret) (some ⟨118,[(2,AV.p (.nil)),(3,AV.p (PV.v (Value.complex FloatKind.f64 (0) (0)))),(4,AV.p (PV.v (Value.int IntKind.i64 ((0:Int)))))],[],[],[],[]⟩) else Q (Ex.goto (0:Nat)) (some ⟨118,[(0,AV.p (PV.str (s))),(5,AV.p (PV.lst ([]))),(6,AV.p (PV.v (Value.int IntKind.i64 ((1:Int))))),(8,AV.p (PV.v (Value.int IntKind.i64 ((2:Int))))),(9,AV.p (PV.v (Value.int IntKind.i64 ((1:Int))))),(10,AV.p (PV.v (Value.bool (false))))],[],[],[(Loc.t 5,92)],[]⟩)) else (bif ((s.getD (0:Nat) (0:UInt8)).toNat:Int)==(32:Int) then Q (Ex.goto (0:Nat)) (some ⟨118,[(0,AV.p (PV.str (s))),(5,AV.p (PV.lst ([]))),(6,AV.p (PV.v (Value.int IntKind.i64 ((1:Int))))),(8,AV.p (PV.v (Value.int IntKind.i64 ((1:Int))))),(9,AV.p (PV.v (Value.int IntKind.i64 ((0:Int))))),(10,AV.p (PV.v (Value.bool (false))))],[],[],[(Loc.t 5,92)],[]⟩) else (bif ((s.getD (0:Nat) (0:UInt8)).toNat:Int)==(9:Int) then Q (Ex.goto (0:Nat)) (some ⟨118,[(0,AV.p (PV.str (s))),(5,AV.p (PV.lst ([]))),(6,AV.p (PV.v (Value.int IntKind.i64 ((1:Int))))),(8,AV.p (PV.v (Value.int IntKind.i64 ((1:Int))))),(9,AV.p (PV.v (Value.int IntKind.i64 ((0:Int))))),(10,AV.p (PV.v (Value.bool (false))))],[],[],[(Loc.t 5,92)],[]⟩) else (bif ((s.getD (0:Nat) (0:UInt8)).toNat:Int)==(35:Int) then (((0:Int)≤(0:Int)∧(0:Int) < ↑s.length∧s.length≤(4000:Nat))∧Q (Ex.goto (0:Nat)) (some ⟨118,[(0,AV.p (PV.str (s))),(5,AV.p (PV.lst ([]))),(6,AV.p (PV.v (Value.int IntKind.i64 (Zm X7 s (1:Int))))),(8,AV.p (PV.v (Value.int IntKind.i64 ((1:Int))))),(9,AV.p (PV.v (Value.int IntKind.i64 ((0:Int))))),(10,AV.p (PV.v (Value.bool (false))))],[],[],[(Loc.t 5,92)],[]⟩)) else (bif Yw ↑(s.getD (0:Nat) (0:UInt8)).toNat then (((0:Int)≤(0:Int)∧(0:Int) < ↑s.length∧s.length≤(4000:Nat))∧(bif decide (IntKind.i64.wrap (Zm Z1 s (1:Int) - (0:Int)) > (20:Int)) then Q (Ex.ret) (some ⟨118,[(2,AV.p (.nil)),(3,AV.p (PV.v (Value.complex FloatKind.f64 (4607182418800017408) (4607182418800017408)))),(4,AV.p (PV.v (Value.int IntKind.i64 ((3:Int)))))],[],[],[],[]⟩) else (((0:Int)≤(0:Int)∧(0:Int)≤Zm Z1 s (1:Int)∧Zm Z1 s (1:Int)≤↑s.length)∧(((0:Nat) < (1:Nat)∧((0:Nat)+(1:Nat))* (40:Nat)≤(140737488355328:Nat)∧Lens (3:Nat) [[PV.v (Value.int IntKind.i64 (1:Int)),PV.str (List.take ((Zm Z1 s (1:Int)).toNat - (0:Nat)) (List.drop (0:Nat) s)),PV.v (Value.complex FloatKind.f64 (4607182418800017408:Nat) (4607182418800017408:Nat))]])∧Q (Ex.goto (0:Nat)) (some ⟨118,[(0,AV.p (PV.str (s))),(5,AV.p (PV.lst ([[PV.v (Value.int IntKind.i64 ((1:Int))),PV.str (List.take ((Zm Z1 s (1:Int)).toNat - (0:Nat)) (List.drop (0:Nat) s)),PV.v (Value.complex FloatKind.f64 (4607182418800017408) (4607182418800017408))]]))),(6,AV.p (PV.v (Value.int IntKind.i64 (Zm Z1 s (1:Int))))),(8,AV.p (PV.v (Value.int IntKind.i64 ((1:Int))))),(9,AV.p (PV.v (Value.int IntKind.i64 ((0:Int))))),(10,AV.p (PV.v (Value.bool (true))))],[],[],[(Loc.t 5,92)],[]⟩))))) else (bif Xa ↑(s.getD (0:Nat) (0:UInt8)).toNat then (((0:Int)≤(0:Int)∧(0:Int) < ↑s.length∧s.length≤(4000:Nat))∧(((0:Int)≤(0:Int)∧(0:Int)≤Zm Zt s (1:Int)∧Zm Zt s (1:Int)≤↑s.length)∧(((List.take ((Zm Zt s (1:Int)).toNat - (0:Nat)) (List.drop (0:Nat) s)).length≤(4000:Nat))∧(bif !(X6 (List.take ((Zm Zt s (1:Int)).toNat - (0:Nat)) (List.drop (0:Nat) s))).snd then Q (Ex.ret) (some ⟨118,[(2,AV.p (.nil)),(3,AV.p (PV.v (Value.complex FloatKind.f64 (4607182418800017408) (4607182418800017408)))),(4,AV.p (PV.v (Value.int IntKind.i64 ((2:Int)))))],[],[],[],[]⟩) else (((0:Int)≤(0:Int)∧(0:Int)≤Zm Zt s (1:Int)∧Zm Zt s (1:Int)≤↑s.length)∧(((0:Nat) < (1:Nat)∧((0:Nat)+(1:Nat))* (40:Nat)≤(140737488355328:Nat)∧Lens (3:Nat) [[PV.v (Value.int IntKind.i64 (2:Int)),PV.str (List.take ((Zm Zt s (1:Int)).toNat - (0:Nat)) (List.drop (0:Nat) s)),PV.v (Value.complex FloatKind.f64 (4607182418800017408:Nat) (4607182418800017408:Nat))]])∧Q (Ex.goto (0:Nat)) (some ⟨118,[(0,AV.p (PV.str (s))),(5,AV.p (PV.lst ([[PV.v (Value.int IntKind.i64 ((2:Int))),PV.str (List.take ((Zm Zt s (1:Int)).toNat - (0:Nat)) (List.drop (0:Nat) s)),PV.v (Value.complex FloatKind.f64 (4607182418800017408) (4607182418800017408))]]))),(6,AV.p (PV.v (Value.int IntKind.i64 (Zm Zt s (1:Int))))),(8,AV.p (PV.v (Value.int IntKind.i64 ((1:Int))))),(9,AV.p (PV.v (Value.int IntKind.i64 ((0:Int))))),(10,AV.p (PV.v (Value.bool (true))))],[],[],[(Loc.t 5,92)],[]⟩))))))) else (bif ((s.getD (0:Nat) (0:UInt8)).toNat:Int)==(45:Int) then (((0:Int)≤(0:Int)∧(0:Int) < ↑s.length∧s.length≤(4000:Nat))∧(((0:Int)≤(0:Int)∧(0:Int)≤Zm Zt s (1:Int)∧Zm Zt s (1:Int)≤↑s.length)∧(((List.take ((Zm Zt s (1:Int)).toNat - (0:Nat)) (List.drop (0:Nat) s)).length≤(4000:Nat))∧(bif !(X6 (List.take ((Zm Zt s (1:Int)).toNat - (0:Nat)) (List.drop (0:Nat) s))).snd then Q (Ex.ret) (some ⟨118,[(2,AV.p (.nil)),(3,AV.p (PV.v (Value.complex FloatKind.f64 (4607182418800017408) (4607182418800017408)))),(4,AV.p (PV.v (Value.int IntKind.i64 ((2:Int)))))],[],[],[],[]⟩) else (((0:Int)≤(0:Int)∧(0:Int)≤Zm Zt s (1:Int)∧Zm Zt s (1:Int)≤↑s.length)∧(((0:Nat) < (1:Nat)∧((0:Nat)+(1:Nat))* (40:Nat)≤(140737488355328:Nat)∧Lens (3:Nat) [[PV.v (Value.int IntKind.i64 (2:Int)),PV.str (List.take ((Zm Zt s (1:Int)).toNat - (0:Nat)) (List.drop (0:Nat) s)),PV.v (Value.complex FloatKind.f64 (4607182418800017408:Nat) (4607182418800017408:Nat))]])∧Q (Ex.goto (0:Nat)) (some ⟨118,[(0,AV.p (PV.str (s))),(5,AV.p (PV.lst ([[PV.v (Value.int IntKind.i64 ((2:Int))),PV.str (List.take ((Zm Zt s (1:Int)).toNat - (0:Nat)) (List.drop (0:Nat) s)),PV.v (Value.complex FloatKind.f64 (4607182418800017408) (4607182418800017408))]]))),(6,AV.p (PV.v (Value.int IntKind.i64 (Zm Zt s (1:Int))))),(8,AV.p (PV.v (Value.int IntKind.i64 ((1:Int))))),(9,AV.p (PV.v (Value.int IntKind.i64 ((0:Int))))),(10,AV.p (PV.v (Value.bool (true))))],[],[],[(Loc.t 5,92)],[]⟩))))))) else Q (Ex.ret) (some ⟨118,[(2,AV.p (.nil)),(3,AV.p (PV.v (Value.complex FloatKind.f64 (4607182418800017408) (4607182418800017408)))),(4,AV.p (PV.v (Value.int IntKind.i64 ((2:Int)))))],[],[],[],[]⟩))))))))))):=by kernel_rfl
def Zjb(r:List Tok×Cx×Int):PV:= .tup [.lst (r.1.map Tok.enc),.v (.complex .f64 r.2.1.re r.2.1.im),.v (.int .i64 r.2.2)]
def Z3y(s:List UInt8)(f:Nat)(k line beg:Int)(out:List Tok):Prop:=(0≤k∧k≤s.length∧(s.length:Int)≤4000)∧(s.length:Int) - k < f∧(0≤line∧line≤k+1)∧(0≤beg∧beg≤k)∧(out.length:Int)≤k
abbrev Zuj:=Nat×Int×Int×Int×Bool×List Tok
def WN(s:List UInt8)(x:Zuj)(τ:St):Prop:=ZbC evEnv Tryz.f48.results.toList (Qn (Zjb (Wj s x.1 x.2.1 x.2.2.1 x.2.2.2.1 x.2.2.2.2.1 x.2.2.2.2.2))) .ret τ
def ZcI(s:List UInt8)(x:Zuj):St:=ZlB s x.2.1 x.2.2.1 x.2.2.2.1 x.2.2.2.2.1 x.2.2.2.2.2
def Zkx(s:List UInt8)(x:Zuj):Prop:=Z3y s x.1 x.2.1 x.2.2.1 x.2.2.2.1 x.2.2.2.2.2
theorem ZrL(out:List Tok)(t:Tok)(h:(out.length:Int)≤4000):(0:Nat) < 1∧((out.map Tok.enc).length+1)*40≤140737488355328∧Lens 3 (out.map Tok.enc++[Tok.enc t]):=
 ⟨by decide,by rw[Qk_];omega,XZ (XI (e:=Tok.enc) (fun _=>rfl) _) rfl⟩
theorem Zwy:CSOk Tryz.prog Znw:=Zb Z2p<|Zb Zwu<|Zb ZpF<|Zb Z1G<|Zb Zww<|Zg
theorem Zzb(s:List UInt8):∀b∈ZD ZfI,∀S,lk (X1 b) ([]:List (Nat×LSum))=some S→Yl Tryz.prog b S:=fun _ _ _ h=>absurd h (by simp[lk])
theorem Z1I:∀b∈ZD Zyr,∀S,lk (X1 b) ([]:List (Nat×LSum))=some S→Yl Tryz.prog b S:=fun _ _ _ h=>absurd h (by simp[lk])
theorem Zwz(s:List UInt8)(x:Zuj)(hx:Zkx s x):sxL evEnv Znw Zg4 Zg5 noG [] 2000 ZfI 0 ZpJ ZpL Zkw (ZcI s x) fun e o=>
 (e= .goto 0∧∃y,o=some (ZcI s y)∧Zkx s y∧y.1 < x.1∧∀τ,WN s y τ→WN s x τ)∨(e= .ret∧∃τ,o=some τ∧WN s x τ):=by
 obtain ⟨f,k,line,beg,sm,out⟩:=x
 obtain ⟨⟨a1,a2,a3⟩,a4,⟨a5,a6⟩,⟨a7,a8⟩,a9⟩:=hx
 simp only at a1 a2 a3 a4 a5 a6 a7 a8 a9
 obtain ⟨f,rfl⟩:∃g,f=g+1:=⟨f - 1,by omega⟩
 refine Eq.mpr (Z1H s k line beg sm out _) ?_
 have w1:IntKind.i64.wrap (IntKind.i64.wrap (k - beg)+1)=k - beg+1:=by rw[Zf (show Fit (k - beg) by constructor<;>omega),Zf (by constructor<;>omega)]
 have w2:IntKind.i64.wrap (k+1)=k+1:=Zf (by constructor<;>omega)
 have w3:IntKind.i64.wrap (line+1)=line+1:=Zf (by constructor<;>omega)
 have eg:=ZcD s f k line beg sm out
 have hb:Xb s k=((s.getD k.toNat 0).toNat:Int):=rfl
 rw[hb] at eg
 have ha:∀t:Tok,(0:Nat) < 1∧((out.map Tok.enc).length+1)*40≤140737488355328∧Lens 3 (out.map Tok.enc++[Tok.enc t]):=fun t=>ZrL out t (by omega)
 have fin:∀{k' line' beg':Int} {sm':Bool} {out':List Tok},Wj s (f+1) k line beg sm out=Wj s f k' line' beg' sm' out'→∀τ,WN s (f,k',line',beg',sm',out') τ→WN s (f+1,k,line,beg,sm,out) τ:=fun e τ h=>by
  unfold WN at h ⊢
  simp only at h ⊢
  rw[e];exact h
 have bw:=fun h:k < (s.length:Int)=>Zb1 Z1 (s:=s) (k:=k+1) (by omega) (by omega)
 have bn:=fun h:k < (s.length:Int)=>Zb1 Zt (s:=s) (k:=k+1) (by omega) (by omega)
 have br:=fun h:k < (s.length:Int)=>Zb1 X7 (s:=s) (k:=k+1) (by omega) (by omega)
 simp only[w1,w2,w3]
 have gx:∀{P1 P2 P3 P4 P5:Prop},P1→P2→P3→P4→P5→P1∧P2∧P3∧P4∧P5:=fun a b c d e=>⟨a,b,c,d,e⟩
 refine Za (fun h0=>Za (fun h1=>⟨?r0,Za (fun h2=>?g0) (fun h2=>?g1)⟩) (fun h1=>Za (fun h2=>?g2) (fun h2=>?g3))) (fun h0=>⟨?r1,Za (fun h1=>Za (fun h2=>⟨?r2,Za (fun h3=>?g4) (fun h3=>?g5)⟩) (fun h2=>Za (fun h3=>?g6) (fun h3=>?g7))) (fun h1=>Za (fun h2=>?g8) (fun h2=>Za (fun h3=>?g9) (fun h3=>Za (fun h4=>⟨?r3, ?g10⟩) (fun h4=>Za (fun h5=>⟨?r4,Za (fun h6=>?g11) (fun h6=>⟨?r5,⟨?r6, ?g12⟩⟩)⟩) (fun h5=>Za (fun h6=>⟨?r7,⟨?r8,⟨?r9,Za (fun h7=>?g13) (fun h7=>⟨?r10,⟨?r11, ?g14⟩⟩)⟩⟩⟩) (fun h6=>Za (fun h7=>⟨?r12,⟨?r13,⟨?r14,Za (fun h8=>?g15) (fun h8=>⟨?r15,⟨?r16, ?g16⟩⟩)⟩⟩⟩) (fun h7=>?g17)))))))⟩)
 case r0|r2=>exact ha ⟨3,[],_⟩
 case r6=>exact ha ⟨1,_,_⟩
 case r11|r16=>exact ha ⟨2,_,_⟩
 case r1=>have hk:k≠s.length:=(by simpa using h0);omega
 case r3|r4|r7|r12=>have hk:k≠s.length:=(by simpa using h0);omega
 case r5=>have hk:k≠s.length:=(by simpa using h0);have:=bw (by omega);omega
 case r8|r10|r13|r15=>have hk:k≠s.length:=(by simpa using h0);have:=bn (by omega);omega
 case r9|r14=>rw[K2_,K9_];omega
 case g1|g3=>rw[h0] at h2;cases h2
 case g4=>rw[h0] at h3;cases h3
 case g6=>rw[h0] at h3;cases h3
 all_goals simp only[h0,Qb_,Qd_] at eg
 case g0|g2=>exact .inr ⟨by trivial,_,rfl,by unfold WN;simp only;rw[eg,h1];simp only[ZgI,Qb_,Qd_,X3,Zjb,QR_,QE_,QN_];rfl⟩
 all_goals have hk:k≠s.length:=(by simpa using h0)
 all_goals simp only[h1,Qb_,Qd_] at eg
 case g5=>
  subst h2
  simp only[ZgI,Qb_] at eg
  exact .inl ⟨by trivial,(f,k+1,line+1,k+1,false,out++[⟨3,[],X3 k line beg⟩]),by simp only[ZcI,ZlB,QR_,QE_,QN_];rfl,⟨⟨by simp only;omega,by simp only;omega,a3⟩,by simp only;omega,⟨by simp only;omega,by simp only;omega⟩,⟨by simp only;omega,by simp only;omega⟩,by simp only[Qx_,Qs_,Q1_];omega⟩,Nat.lt_succ_self _,fin eg⟩
 case g7=>
  subst h2
  simp only[ZgI,Qd_] at eg
  exact .inl ⟨by trivial,(f,k+1,line+1,k+1,false,out),rfl,⟨⟨by simp only;omega,by simp only;omega,a3⟩,by simp only;omega,⟨by simp only;omega,by simp only;omega⟩,⟨by simp only;omega,by simp only;omega⟩,by simp only;omega⟩,Nat.lt_succ_self _,fin eg⟩
 all_goals simp only[h2,Q4_,Qw_,Qb_,Qd_] at eg
 case g8=>exact .inl ⟨by trivial,(f,k+1,line,beg,sm,out),rfl,⟨⟨by simp only;omega,by simp only;omega,a3⟩,by simp only;omega,⟨a5,by simp only;omega⟩,⟨a7,by simp only;omega⟩,by simp only;omega⟩,Nat.lt_succ_self _,fin eg⟩
 all_goals simp only[h3,Qb_,Qd_] at eg
 case g9=>exact .inl ⟨by trivial,(f,k+1,line,beg,sm,out),rfl,⟨⟨by simp only;omega,by simp only;omega,a3⟩,by simp only;omega,⟨a5,by simp only;omega⟩,⟨a7,by simp only;omega⟩,by simp only;omega⟩,Nat.lt_succ_self _,fin eg⟩
 all_goals simp only[h4,Qb_,Qd_] at eg
 case g10=>have:=br (by omega);exact .inl ⟨by trivial,(f,Zm X7 s (k+1),line,beg,sm,out),rfl,⟨⟨by simp only;omega,by simp only;omega,a3⟩,by simp only;omega,⟨a5,by simp only;omega⟩,⟨a7,by simp only;omega⟩,by simp only;omega⟩,Nat.lt_succ_self _,fin eg⟩
 all_goals simp only[h5,Qb_,Qd_] at eg
 case g11|g12=>
  have hw:=bw (by omega)
  have hd:IntKind.i64.wrap (Zm Z1 s (k+1) - k)=Zm Z1 s (k+1) - k:=Zf (by constructor<;>omega)
  rw[hd] at h6
  simp only[h6,Qb_,Qd_] at eg
  first
   | exact .inr ⟨by trivial,_,rfl,by unfold WN;simp only;rw[eg];rfl⟩
   | exact .inl ⟨by trivial,(f,Zm Z1 s (k+1),line,beg,true,out++[⟨1,Jg s k (Zm Z1 s (k+1)),X3 k line beg⟩]),by simp only[ZcI,ZlB,QR_,QE_,QN_];rfl,⟨⟨by simp only;omega,by simp only;omega,a3⟩,by simp only;omega,⟨a5,by simp only;omega⟩,⟨a7,by simp only;omega⟩,by simp only[Qx_,Qs_,Q1_];omega⟩,Nat.lt_succ_self _,fin eg⟩
 all_goals simp only[h6,Q4_,Qw_,Qb_,Qd_] at eg
 case g13|g14=>
  have hn:=bn (by omega)
  simp only[Qi_,Qf_] at h7
  have h8:(X6 (Jg s k (Zm Zt s (k+1)))).2=_:=h7
  simp only[h8,Qb_,Qd_] at eg
  first
   | exact .inr ⟨by trivial,_,rfl,by unfold WN;simp only;rw[eg];rfl⟩
   | exact .inl ⟨by trivial,(f,Zm Zt s (k+1),line,beg,true,out++[⟨2,Jg s k (Zm Zt s (k+1)),X3 k line beg⟩]),by simp only[ZcI,ZlB,QR_,QE_,QN_];rfl,⟨⟨by simp only;omega,by simp only;omega,a3⟩,by simp only;omega,⟨a5,by simp only;omega⟩,⟨a7,by simp only;omega⟩,by simp only[Qx_,Qs_,Q1_];omega⟩,Nat.lt_succ_self _,fin eg⟩
 all_goals simp only[h7,Qb_,Qd_] at eg
 case g15|g16=>
  have hn:=bn (by omega)
  simp only[Qi_,Qf_] at h8
  have h9:(X6 (Jg s k (Zm Zt s (k+1)))).2=_:=h8
  simp only[h9,Qb_,Qd_] at eg
  first
   | exact .inr ⟨by trivial,_,rfl,by unfold WN;simp only;rw[eg];rfl⟩
   | exact .inl ⟨by trivial,(f,Zm Zt s (k+1),line,beg,true,out++[⟨2,Jg s k (Zm Zt s (k+1)),X3 k line beg⟩]),by simp only[ZcI,ZlB,QR_,QE_,QN_];rfl,⟨⟨by simp only;omega,by simp only;omega,a3⟩,by simp only;omega,⟨a5,by simp only;omega⟩,⟨a7,by simp only;omega⟩,by simp only[Qx_,Qs_,Q1_];omega⟩,Nat.lt_succ_self _,fin eg⟩
 case g17=>exact .inr ⟨by trivial,_,rfl,by unfold WN;simp only;rw[eg];rfl⟩
theorem Z0g(s:List UInt8):∀x,Zkx s x→∃σ',WN s x σ'∧∃m,XL Tryz.prog ZfI m ZpJ (ZcI s x) .ret σ':=
 Zwx Zs Zwy ZR ZS ZX (Zzb s) ZpK (n:=2000) (ZcI s) (Zkx s) (WN s) (fun x=>x.1) ZpL Zkw (Zwz s)
theorem Z2s:X3 0 1 0=⟨4607182418800017408,4607182418800017408⟩:=by kernel_rfl
theorem Zky(s:List UInt8):Con Tryz.prog 48 [.str s] (Zjb (tokens s)):=by
 obtain ⟨r,hr,hc⟩:=Zyq Zs Zwy ZR ZS ZX (f:=48) (fn:=Tryz.f48) rfl Zys ZpK Z1I (Zzb s) (n:=2000) (args:=[.str s]) (by kernel_rfl) (k:=ZpL) (kr:=Zkw) (R:=Qn (Zjb (tokens s))) (by
  refine Eq.mpr (Z0f s _) ?_
  have eg0:(s.length:Int)≤4000→tokens s=Wj s (s.length+1) 0 1 0 false []:=fun h=>by
   unfold tokens
   rw[QQ_ (by omega)];rfl
  have eg:=ZcD s s.length 0 1 0 false []
  have hb:Xb s 0=((s.getD 0 0).toNat:Int):=rfl
  have go:(s.length:Int)≤4000→∀y,Wj s (s.length+1) 0 1 0 false []=Wj s y.1 y.2.1 y.2.2.1 y.2.2.2.1 y.2.2.2.2.1 y.2.2.2.2.2→Zkx s y→
   ∃τ,some (ZcI s y)=some τ∧∃σ',ZbC evEnv Tryz.f48.results.toList (Qn (Zjb (tokens s))) .ret σ'∧∃m,XL Tryz.prog ZfI m ZpJ τ .ret σ':=fun hl y e hy=>by
   obtain ⟨σ',h1,m,h2⟩:=Z0g s y hy
   refine ⟨_,rfl,σ', ?_,m,h2⟩
   rw[eg0 hl,e];exact h1
  have rt:∀{τ:St} {t:List Tok×Cx×Int},tokens s=t→ZbC evEnv Tryz.f48.results.toList (Qn (Zjb t)) .ret τ→∃τ',some τ=some τ'∧ZbC evEnv Tryz.f48.results.toList (Qn (Zjb (tokens s))) .ret τ':=fun e h=>⟨_,rfl,by rw[e];exact h⟩
  rw[hb,Z2s] at eg
  simp only[show (0:Int)+1=1 from rfl,show (1:Int)+1=2 from rfl] at eg
  have bw:=fun h:0 < s.length=>Zb1 Z1 (s:=s) (k:=1) (by omega) (by omega)
  have bn:=fun h:0 < s.length=>Zb1 Zt (s:=s) (k:=1) (by omega) (by omega)
  have br:=fun h:0 < s.length=>Zb1 X7 (s:=s) (k:=1) (by omega) (by omega)
  refine Za (fun h0=>?g0) (fun h0=>Za (fun h1=>Za (fun h2=>?g1) (fun h2=>?g2)) (fun h1=>⟨?r0,Za (fun h2=>Za (fun h3=>?g3) (fun h3=>?g4)) (fun h2=>Za (fun h3=>?g5) (fun h3=>Za (fun h4=>?g6) (fun h4=>Za (fun h5=>⟨?r1, ?g7⟩) (fun h5=>Za (fun h6=>⟨?r2,Za (fun h7=>?g8) (fun h7=>⟨?r3,⟨?r4, ?g9⟩⟩)⟩) (fun h6=>Za (fun h7=>⟨?r5,⟨?r6,⟨?r7,Za (fun h8=>?g10) (fun h8=>⟨?r8,⟨?r9, ?g11⟩⟩)⟩⟩⟩) (fun h7=>Za (fun h8=>⟨?r10,⟨?r11,⟨?r12,Za (fun h9=>?g12) (fun h9=>⟨?r13,⟨?r14, ?g13⟩⟩)⟩⟩⟩) (fun h8=>?g14)))))))⟩))
  case g0=>exact .inr ⟨by trivial,rt (t:=([],XD,3)) (by unfold tokens;rw[h0];rfl) rfl⟩
  all_goals have hl:(s.length:Int)≤4000:=(by have:=of_decide_eq_false h0;omega)
  case g1=>exact .inr ⟨by trivial,rt (t:=([],XD,0)) (by rw[eg0 hl,eg,h1];rfl) rfl⟩
  case g2=>rw[h1] at h2;cases h2
  case g3=>rw[h1] at h3;cases h3
  all_goals have hp:0 < s.length:=(by have hk:(0:Int)≠s.length:=(by simpa using h1);omega)
  case r0=>omega
  case r1|r2|r5|r10=>omega
  case r3=>have:=bw hp;omega
  case r6|r8|r11|r13=>have:=bn hp;omega
  case r4|r9|r14=>exact ZrL [] ⟨_,_,⟨_,_⟩⟩ (by decide)
  case r7|r12=>rw[K2_,K9_];omega
  all_goals simp only[h1,Qb_,Qd_] at eg
  case g4=>
   simp only[h2,ZgI,Qb_,Qd_] at eg
   exact .inl ⟨by trivial,go hl (s.length,1,2,1,false,[]) eg ⟨⟨by simp only;omega,by simp only;omega,hl⟩,by simp only;omega,⟨by simp only;omega,by simp only;omega⟩,⟨by simp only;omega,by simp only;omega⟩,by simp only[Q1_];omega⟩⟩
  all_goals simp only[h2,Qb_,Qd_] at eg
  case g5=>
   simp only[h3,Q4_,Qb_] at eg
   exact .inl ⟨by trivial,go hl (s.length,1,1,0,false,[]) eg ⟨⟨by simp only;omega,by simp only;omega,hl⟩,by simp only;omega,⟨by simp only;omega,by simp only;omega⟩,⟨by simp only;omega,by simp only;omega⟩,by simp only[Q1_];omega⟩⟩
  all_goals simp only[h3,Qw_] at eg
  case g6=>
   simp only[h4,Qb_] at eg
   exact .inl ⟨by trivial,go hl (s.length,1,1,0,false,[]) eg ⟨⟨by simp only;omega,by simp only;omega,hl⟩,by simp only;omega,⟨by simp only;omega,by simp only;omega⟩,⟨by simp only;omega,by simp only;omega⟩,by simp only[Q1_];omega⟩⟩
  all_goals simp only[h4,Qd_] at eg
  case g7=>
   simp only[h5,Qb_] at eg
   have:=br hp
   exact .inl ⟨by trivial,go hl (s.length,Zm X7 s 1,1,0,false,[]) eg ⟨⟨by simp only;omega,by simp only;omega,hl⟩,by simp only;omega,⟨by simp only;omega,by simp only;omega⟩,⟨by simp only;omega,by simp only;omega⟩,by simp only[Q1_];omega⟩⟩
  all_goals simp only[h5,Qd_] at eg
  case g8|g9=>
   have hw:=bw hp
   have hd:IntKind.i64.wrap (Zm Z1 s 1 - 0)=Zm Z1 s 1 - 0:=Zf (by constructor<;>omega)
   rw[hd] at h7
   simp only[h6,h7,Qb_,Qd_] at eg
   first
    | exact .inr ⟨by trivial,rt (eg0 hl |>.trans eg) rfl⟩
    | exact .inl ⟨by trivial,go hl (s.length,Zm Z1 s 1,1,0,true,[⟨1,Jg s 0 (Zm Z1 s 1),⟨4607182418800017408,4607182418800017408⟩⟩]) eg ⟨⟨by simp only;omega,by simp only;omega,hl⟩,by simp only;omega,⟨by simp only;omega,by simp only;omega⟩,⟨by simp only;omega,by simp only;omega⟩,by simp only[Qs_,Q1_];omega⟩⟩
  all_goals simp only[h6,Qd_] at eg
  case g10|g11=>
   have hw:=bn hp
   simp only[Qi_,Qf_] at h8
   have h9:(X6 (Jg s 0 (Zm Zt s 1))).2=_:=h8
   simp only[h7,h9,Q4_,Qb_,Qd_] at eg
   first
    | exact .inr ⟨by trivial,rt (eg0 hl |>.trans eg) rfl⟩
    | exact .inl ⟨by trivial,go hl (s.length,Zm Zt s 1,1,0,true,[⟨2,Jg s 0 (Zm Zt s 1),⟨4607182418800017408,4607182418800017408⟩⟩]) eg ⟨⟨by simp only;omega,by simp only;omega,hl⟩,by simp only;omega,⟨by simp only;omega,by simp only;omega⟩,⟨by simp only;omega,by simp only;omega⟩,by simp only[Qs_,Q1_];omega⟩⟩
  all_goals simp only[h7,Qw_] at eg
  case g12|g13=>
   have hw:=bn hp
   simp only[Qi_,Qf_] at h9
   have h10:(X6 (Jg s 0 (Zm Zt s 1))).2=_:=h9
   simp only[h8,h10,Qb_,Qd_] at eg
   first
    | exact .inr ⟨by trivial,rt (eg0 hl |>.trans eg) rfl⟩
    | exact .inl ⟨by trivial,go hl (s.length,Zm Zt s 1,1,0,true,[⟨2,Jg s 0 (Zm Zt s 1),⟨4607182418800017408,4607182418800017408⟩⟩]) eg ⟨⟨by simp only;omega,by simp only;omega,hl⟩,by simp only;omega,⟨by simp only;omega,by simp only;omega⟩,⟨by simp only;omega,by simp only;omega⟩,by simp only[Qs_,Q1_];omega⟩⟩
  all_goals simp only[h8,Qd_] at eg
  case g14=>exact .inr ⟨by trivial,rt (eg0 hl |>.trans eg) rfl⟩)
 rw[←hr]
 exact Zvg hc
theorem Z2t:Zj Tryz.prog 48 e48:=Zk<|Zh fun s=>EZ0<|Zky s
end Go.Men
namespace Go.Men
open Go.Ev Go.Proofs Go.Proofs.YtgfgjabeooohhaaGreatDoor
theorem ZpM:Zj Tryz.prog 108 Z3q:=Zk<|Zh fun a=>Zh fun b=>EZ0<|by
 refine cf0 (Zb Zpj<|Zb Zwi<|Zg) (fn:=Tryz.f108) rfl ?_
 refine sxT (fun Q=>(bif Z6 a then (bif Z6 b then (((0:Int)≤IntKind.i64.wrap ((6:Int) - a.scale)∧IntKind.i64.wrap ((6:Int) - a.scale)≤(18:Int))∧(((0:Int)≤IntKind.i64.wrap ((6:Int) - b.scale)∧IntKind.i64.wrap ((6:Int) - b.scale)≤(18:Int))∧Q (vB (decide (IntKind.i64.wrap (a.c *Zz (IntKind.i64.wrap ((6:Int) - a.scale))) < IntKind.i64.wrap (b.c *Zz (IntKind.i64.wrap ((6:Int) - b.scale)))))))) else Q (vB false)) else Q (vB false))) (fun _=>by kernel_rfl) ?_
 delta Qn vB
 refine Za (fun h0=>Za (fun h1=>⟨?r1,⟨?r0, ?_⟩⟩) (fun h1=>?_)) (fun h0=>?_)
 case r0|r1=>have h0:=Jz h0;have h1:=Jz h1;rw[h0.1] at *;rw[h1.1] at *;first | exact h0.2.1 | exact h1.2.1 | omega
 ·have f0:=Jz h0;have f1:=Jz h1
  rw[f0.1,f1.1,f0.2.2,f1.2.2]
  simp only[ZT,h0,h1,Qp_];rfl
 ·simp only[ZT,h0,h1,Qp_,Ql_];rfl
 ·simp only[ZT,h0,Ql_];rfl
def ZhU(d:Dec):=[IntKind.i64.wrap ((0:Int) - d.c)]
def ZhV(d:Dec):=[IntKind.i64.wrap (IntKind.i64.wrap (d.scale+(1:Int)) - ↑(digits (List.foldl imax d.c (ZhU d))).length)]
def Wl(d:Dec):=Zlw [(48:UInt8)] (List.foldl imax (0:Int) (ZhV d))++digits (List.foldl imax d.c (ZhU d))
def Jl(d:Dec):=IntKind.i64.wrap (↑(Wl d).length - d.scale)
def Zuk(d:Dec):=(0:Int)≤IntKind.i64.wrap (↑(Wl d).length - d.scale)∧IntKind.i64.wrap (↑(Wl d).length - d.scale)≤↑(Wl d).length
def Zkz(d:Dec):=List.take (Jl d).toNat (Wl d)
theorem Z2u:Zj Tryz.prog 70 e70:=Zk<|Zh fun d=>EZ0<|by
 refine cf0 (Zb Zpj<|Zb Z14<|Zb Z12<|Zg) (fn:=Tryz.f70) rfl ?_
 refine sxT (fun Q=>(bif !Z6 d then Q (PV.str ([])) else (((-1000000000000000000:Int)≤List.foldl imax d.c (ZhU d)∧List.foldl imax d.c (ZhU d)≤(1000000000000000000:Int))∧(((0:Int)≤List.foldl imax (0:Int) (ZhV d)∧List.foldl imax (0:Int) (ZhV d)≤(4000000000:Int)∧(1:Nat)* (List.foldl imax (0:Int) (ZhV d)).toNat≤(4000000000:Nat))∧(((Zlw [(48:UInt8)] (List.foldl imax (0:Int) (ZhV d))).length+(digits (List.foldl imax d.c (ZhU d))).length≤(9223372036854775807:Nat))∧((Zuk d)∧((Zuk d)∧(bif decide (↑(Zkz d).length > (5:Int)) then Q (PV.str ([])) else (bif decide (d.c < (0:Int)) then (((1:Nat)+(Zkz d).length≤(9223372036854775807:Nat))∧(bif !List.drop (Jl d).toNat (Wl d)==[] then ((([(45:UInt8)]++List.take (Jl d).toNat (Wl d)).length+(1:Nat)≤(9223372036854775807:Nat))∧((([(45:UInt8)]++List.take (Jl d).toNat (Wl d)++[(46:UInt8)]).length+(List.drop (Jl d).toNat (Wl d)).length≤(9223372036854775807:Nat))∧Q (PV.str ([(45:UInt8)]++List.take (Jl d).toNat (Wl d)++[(46:UInt8)]++List.drop (Jl d).toNat (Wl d))))) else Q (PV.str ([(45:UInt8)]++List.take (Jl d).toNat (Wl d))))) else (bif !List.drop (Jl d).toNat (Wl d)==[] then (((Zkz d).length+(1:Nat)≤(9223372036854775807:Nat))∧(((List.take (Jl d).toNat (Wl d)++[(46:UInt8)]).length+(List.drop (Jl d).toNat (Wl d)).length≤(9223372036854775807:Nat))∧Q (PV.str (List.take (Jl d).toNat (Wl d)++[(46:UInt8)]++List.drop (Jl d).toNat (Wl d))))) else Q (PV.str (Zkz d)))))))))))) (fun _=>by kernel_rfl) ?_
 delta Qn Wl Jl ZhV Zuk ZhU Zkz
 refine Za (fun h0=>?_) (fun h0=>⟨?r9,⟨?r8,⟨?r7,⟨?r6,⟨?r5,Za (fun h1=>?_) (fun h1=>Za (fun h2=>⟨?r2,Za (fun h3=>⟨?r1,⟨?r0, ?_⟩⟩) (fun h3=>?_)⟩) (fun h2=>Za (fun h3=>⟨?r4,⟨?r3, ?_⟩⟩) (fun h3=>?_)))⟩⟩⟩⟩⟩)
 case r0|r1|r2|r3|r4|r5|r6|r7|r8|r9=>have hr:Z6 d=true:=(by simpa using h0);obtain ⟨e1,e2,e3,e4,e5,e6⟩:=ZoK hr;have hb:=Zv6 hr;simp only[e1,e2,e3,e4,e5,e6];first | omega | (have e7:(Zlw [48] (max 0 (d.scale+1 - ((digits (Y5 d)).length:Int)))).length=(max 0 (d.scale+1 - ((digits (Y5 d)).length:Int))).toNat:=ZzY _;omega) | (simp only[Qx_,Qs_,Q1_];omega) | skip
 ·have hr:Z6 d=false:=(by simpa using h0)
  unfold Wa;rw[hr];rfl
 all_goals have hr:Z6 d=true:=(by simpa using h0)
 all_goals obtain ⟨e1,e2,e3,e4,e5,e6⟩:=ZoK hr
 all_goals simp only[e1,e2,e3,e4,e5,e6] at *
 all_goals rw[Zq6 hr]
 all_goals simp only[*,Qb_,Qd_]
 all_goals first | rfl | (simp only[QB_];rfl)
theorem Zzc:Zj Tryz.prog 71 e71:=Zk<|EZ0<|by
 refine cf0 Zg (fn:=Tryz.f71) rfl ?_
 refine sxT (fun Q=>Q (PV.agg [vI 0,vI 0])) (fun _=>by kernel_rfl) ?_
 delta Qn vI
 refine ?_
 all_goals (try simp only[Qi_,Qf_,bne] at *)
 all_goals first | rfl | (simp only[zeroDec,Zu,Zr,List.foldl,Qr_,Qp_,Ql_,Qn_,Q5_,Q4_,Qw_,Q3_,Qu_,Qt_,Qb_,Qd_,QD_,Q8_, *];done) | (simp only[zeroDec,Zu,Zr,List.foldl,Qr_,Qp_,Ql_,Qn_,Q5_,Q4_,Qw_,Q3_,Qu_,Qt_,Qb_,Qd_,QD_,Q8_, *];first | rfl | (simp only[nz,nzA,nz1,QE_,QN_,Iv.enc,V.enc,Ray.enc, *];first | done | rfl)) | (simp_all[nz,nzA,nz1,Iv.enc,V.enc,Ray.enc,Dec.enc,Shape.enc,none',told,K4_,zeroDec];done) | (simp_all[nz,nzA,nz1,Iv.enc,V.enc,Ray.enc,Dec.enc,Shape.enc,none',told,K4_,zeroDec];omega) | (simp_all[nz,nzA,nz1,Iv.enc,V.enc,Ray.enc,Dec.enc,Shape.enc,none',told,K4_,zeroDec];(repeat' split)<;>(first | rfl | (exfalso;omega) | (simp_all;done) | omega))
theorem Zw0:Zj Tryz.prog 131 Z3r:=Zk<|Zh fun d=>EZ0<|by
 refine cf0 (Zb Z2u<|Zg) (fn:=Tryz.f131) rfl ?_
 refine sxT (fun Q=>Q (vB (!Wa d==[]))) (fun _=>by kernel_rfl) ?_
 delta Qn vB
 refine ?_
 rw[←ZgC];rfl
theorem Zzd:Zj Tryz.prog 79 e79:=Zk<|Zh fun d=>EZ0<|by
 refine cf0 (Zb Zw0<|Zb Zzc<|Zb ZpM<|Zg) (fn:=Tryz.f79) rfl ?_
 refine sxT (fun Q=>(bif printable d then Q (vB (ZT zeroDec d)) else Q (vB false))) (fun _=>by kernel_rfl) ?_
 delta Qn vB
 refine Za (fun h0=>?_) (fun h0=>?_)
 all_goals (try simp only[Qi_,Qf_,bne] at *)
 all_goals first | rfl | (simp only[Ja,Zu,Zr,List.foldl,Qr_,Qp_,Ql_,Qn_,Q5_,Q4_,Qw_,Q3_,Qu_,Qt_,Qb_,Qd_,QD_,Q8_, *];done) | (simp only[Ja,Zu,Zr,List.foldl,Qr_,Qp_,Ql_,Qn_,Q5_,Q4_,Qw_,Q3_,Qu_,Qt_,Qb_,Qd_,QD_,Q8_, *];first | rfl | (simp only[nz,nzA,nz1,QE_,QN_,Iv.enc,V.enc,Ray.enc, *];first | done | rfl)) | (simp_all[nz,nzA,nz1,Iv.enc,V.enc,Ray.enc,Dec.enc,Shape.enc,none',told,K4_,Ja];done) | (simp_all[nz,nzA,nz1,Iv.enc,V.enc,Ray.enc,Dec.enc,Shape.enc,none',told,K4_,Ja];omega) | (simp_all[nz,nzA,nz1,Iv.enc,V.enc,Ray.enc,Dec.enc,Shape.enc,none',told,K4_,Ja];(repeat' split)<;>(first | rfl | (exfalso;omega) | (simp_all;done) | omega))
theorem Z1J:Zj Tryz.prog 132 Z3s:=Zk<|Zh fun d=>EZ0<|by
 refine cf0 (Zb Zzc<|Zb ZpM<|Zg) (fn:=Tryz.f132) rfl ?_
 refine sxT (fun Q=>Q (vB (ZT d zeroDec))) (fun _=>by kernel_rfl) ?_
 delta Qn vB
 refine ?_
 all_goals (try simp only[Qi_,Qf_,bne] at *)
 all_goals first | rfl | (simp only[ZT,Zu,Zr,List.foldl,Qr_,Qp_,Ql_,Qn_,Q5_,Q4_,Qw_,Q3_,Qu_,Qt_,Qb_,Qd_,QD_,Q8_, *];done) | (simp only[ZT,Zu,Zr,List.foldl,Qr_,Qp_,Ql_,Qn_,Q5_,Q4_,Qw_,Q3_,Qu_,Qt_,Qb_,Qd_,QD_,Q8_, *];first | rfl | (simp only[nz,nzA,nz1,QE_,QN_,Iv.enc,V.enc,Ray.enc, *];first | done | rfl)) | (simp_all[nz,nzA,nz1,Iv.enc,V.enc,Ray.enc,Dec.enc,Shape.enc,none',told,K4_,ZT];done) | (simp_all[nz,nzA,nz1,Iv.enc,V.enc,Ray.enc,Dec.enc,Shape.enc,none',told,K4_,ZT];omega) | (simp_all[nz,nzA,nz1,Iv.enc,V.enc,Ray.enc,Dec.enc,Shape.enc,none',told,K4_,ZT];(repeat' split)<;>(first | rfl | (exfalso;omega) | (simp_all;done) | omega))
theorem Z1K:Zj Tryz.prog 133 Z3t:=Zk<|Zh fun a=>Zh fun b=>EZ0<|by
 refine cf0 (Zb ZpM<|Zg) (fn:=Tryz.f133) rfl ?_
 refine sxT (fun Q=>(bif List.foldl imax a.c [IntKind.i64.wrap ((0:Int) - a.c)]==(0:Int) then Q (vB true) else Q (vB (!ZT (Dec.mk (List.foldl imax a.c [IntKind.i64.wrap ((0:Int) - a.c)]) a.scale) b)))) (fun _=>by kernel_rfl) ?_
 delta Qn vB
 refine Za (fun h0=>?_) (fun h0=>?_)
 all_goals simp only[List.foldl,Zr] at *
 all_goals (show PV.v (Value.bool _)=PV.v (Value.bool (((max a.c (w64 (0 - a.c)))==0)|| !ZT ⟨max a.c (w64 (0 - a.c)),a.scale⟩ b)))
 all_goals simp only[w64, *,Q4_,Qw_]
def ZhW(s:List UInt8):=List.map Tok.enc (tokens s).fst
def Zul(s:List UInt8):=(0:Int)≤(0:Int)∧(ZhW s)[(0:Nat)]?=some (YK [vI 0,PV.str [],PV.v (Value.complex FloatKind.f64 (0:Nat) (0:Nat))] ((ZhW s).getD (0:Nat) []))
theorem Zze:Zj Tryz.prog 78 e78:=Zk<|Zh fun s=>EZ0<|by
 refine cf0 (Zb Z2t<|Zg) (fn:=Tryz.f78) rfl ?_
 refine sxT (fun Q=>(bif (tokens s).snd.snd==(0:Int) then (bif ↑(ZhW s).length==(2:Int) then ((Zul s)∧(bif Zd (((ZhW s).getD (0:Nat) []).headD PV.nil)==(1:Int) then ((Zul s)∧Q (vB (Wh (((ZhW s).getD (0:Nat) []).tail.headD PV.nil)==s))) else Q (vB false))) else Q (vB false)) else Q (vB false))) (fun _=>by kernel_rfl) ?_
 delta Qn Zul ZhW vI vB
 refine Za (fun h0=>Za (fun h1=>⟨?r1,Za (fun h2=>⟨?r0, ?_⟩) (fun h2=>?_)⟩) (fun h1=>?_)) (fun h0=>?_)
 case r0|r1=>first | rfl | (rw[Z2H];done) | (have h1':=eq_of_beq h1;rw[Qk_] at h1';exact Zv (i:=0) (fun _=>rfl) (by omega) (by omega)) | skip
 all_goals obtain ⟨q1,q2⟩:=Z0P (tokens s).1
 all_goals simp only[q1,q2,Qk_] at *
 all_goals simp only[Zcf, *,Qp_,Ql_,Qr_,Qn_]
 all_goals rfl
def WC(i:Int)(l:List Glass):=(List.map Glass.enc l).getD i.toNat []
theorem ZpN:CSOk Tryz.prog (YY []):=Zg
theorem Zum:Yl Tryz.prog (Z9 Tryz.f119 0) Zmm:=by
 refine lsG Zs.Γ (ZF Zs ZpN ZR ZS ZX (LS:=[]) (Yo (l:=[]) (by kernel_rfl) Z2) (n:=2000) (U5 ZvM) (U5 ZaF) (fun x e s=>((U5 ZaG x=true∧e= .ret∧s=U5 ZgY x)∨(U5 ZaG x=false∧e= .exit 0∧s=U5 ZgX x))) (fun x=>(x.2.1.length - x.1).toNat) Zml Zti Ztj (fun x hx=>?_)) cv5 (fun _=>rfl) (fun _ h=>h) (fun _ _ _ _ h f=>fC h f fE fE)
 ·obtain ⟨i,l,n,m,z⟩:=x
  simp only[U5,ZaF] at hx
  refine sxT (fun Q=>(bif decide (i < m) then (((0:Int)≤i∧(List.map Glass.enc l)[i.toNat]?=some (YK [PV.str [],vI 0,vI 0,vI 0,vI 0,vI 0,vI 0,vI 0,vI 0,vI 0,vI 0,vI 0,vI 0] (WC i l)))∧(bif Wh ((WC i l).headD PV.nil)==n then Q (Ex.ret) (some ⟨21,[(4,AV.ptr 4 0),(5,AV.p (vB true))],[(4,[PV.str (Wh ((WC i l).headD PV.nil)),vI (Zd ((WC i l).tail.headD PV.nil)),vI (Zd ((WC i l).tail.tail.headD PV.nil)),vI (Zd ((WC i l).tail.tail.tail.headD PV.nil)),vI (Zd ((WC i l).tail.tail.tail.tail.headD PV.nil)),vI (Zd ((WC i l).tail.tail.tail.tail.tail.headD PV.nil)),vI (Zd ((WC i l).tail.tail.tail.tail.tail.tail.headD PV.nil)),vI (Zd ((WC i l).tail.tail.tail.tail.tail.tail.tail.headD PV.nil)),vI (Zd ((WC i l).tail.tail.tail.tail.tail.tail.tail.tail.headD PV.nil)),vI (Zd ((WC i l).tail.tail.tail.tail.tail.tail.tail.tail.tail.headD PV.nil)),vI (Zd ((WC i l).tail.tail.tail.tail.tail.tail.tail.tail.tail.tail.headD PV.nil)),vI (Zd ((WC i l).tail.tail.tail.tail.tail.tail.tail.tail.tail.tail.tail.headD PV.nil)),vI (Zd ((WC i l).tail.tail.tail.tail.tail.tail.tail.tail.tail.tail.tail.tail.headD PV.nil))])],[],[],[]⟩) else Q (Ex.normal) (some ⟨21,[(4,AV.ptr 4 0),(10,AV.p (vI (IntKind.i64.wrap (i+(1:Int))))),(8,AV.p (PV.lst (List.map Glass.enc l))),(1,AV.p (PV.str n)),(9,pI m)],[(4,(W7 z))],[],[],[]⟩))) else Q (Ex.exit (0:Nat)) (some ⟨21,[(4,AV.ptr 4 0)],[(4,(W7 z))],[],[],[]⟩))) (fun _=>by kernel_rfl) ?_
  delta WC W7 vI vB pI
  refine Za (fun h0=>⟨?r0,Za (fun h1=> .inr ⟨by simp,_,rfl, ?_⟩) (fun h1=> .inl ⟨rfl,(IntKind.i64.wrap (i+(1:Int)),l,n,m,z),rfl, ?_, ?_, ?_⟩)⟩) (fun h0=> .inr ⟨by simp,_,rfl, ?_⟩)
  case r0=>first | rfl | (rw[Zp];done) | (obtain ⟨a1,a2,a3,a4⟩:=hx;simp only[Qk_,Qc_] at h0;exact Zv (fun _=>rfl) (by omega) (by omega))
  all_goals try dsimp only[U5]
  all_goals (obtain ⟨a1,a2,a3,a4⟩:=hx;try simp only[Qk_,Qc_,Qe_] at h0)
  all_goals first | (have hk:i < l.length:=(by omega);obtain ⟨x,t,e1,e2,e3⟩:=Yg (l:=l) a1 (by omega);simp only[Yp e3] at *;have en:Z8 (l.drop i.toNat) n=bif x.name==n then (x,true) else Z8 t n:=(by rw[e1];rfl)) | skip
  all_goals try rw[Zf (show Fit (i+1) by constructor<;>omega)]
  all_goals try simp only[U5,ZaF,ZaG,ZgY,ZgX]
  ·change (x.name==n)=true at h1
   exact .inl ⟨by rw[en,h1];rfl,by trivial,by rw[en,h1];rfl⟩
  ·exact ⟨by omega,by omega,a3,a4⟩
  ·omega
  ·change (x.name==n)=false at h1
   rw[en,e2,h1];exact fun e s h=>h
  ·exact .inr ⟨by rw[Q0_ (by omega)];rfl,by trivial,by trivial⟩
theorem Zw1:ZQ Tryz.prog [(3,Zmm)] Tryz.f119:=ZM (l:=[Z9 Tryz.f119 0]) (by kernel_rfl) (Ya (i:=3) (by kernel_rfl) rfl Zum (Z2))
def Zd7:=G3.mk (Dec.mk (0:Int) (0:Int)) (Dec.mk (0:Int) (0:Int)) (Dec.mk (0:Int) (0:Int))
def Zhl(l:List Glass):=Zi Glass.dec (List.map Glass.enc l)
theorem Zw2:Zj Tryz.prog 119 Z3u:=Zk<|Zh fun l=>Zh fun n=>EZ1 fun hp0=>by
 refine cfL ZpN Zw1 rfl ?_
 refine sxT (fun Q=>((List.map Glass.enc l=List.map Glass.enc (Zhl l))∧(([PV.str [],vI 0,vI 0,vI 0,vI 0,vI 0,vI 0,vI 0,vI 0,vI 0,vI 0,vI 0,vI 0]=(Glass.mk [] Zd7 Zd7).enc)∧((ZaF (0:Int) (Zhl l) n (↑(List.map Glass.enc l).length) (Glass.mk [] Zd7 Zd7))∧(bif ZaG (0:Int) (Zhl l) n (↑(List.map Glass.enc l).length) (Glass.mk [] Zd7 Zd7) then Q (PV.tup [PV.agg (W7 (Z8 (List.drop (0:Nat) (Zhl l)) n).fst),vB true]) else Q (PV.tup [PV.agg [PV.str ([]),vI 0,vI 0,vI 0,vI 0,vI 0,vI 0,vI 0,vI 0,vI 0,vI 0,vI 0,vI 0],vB false])))))) (fun _=>by kernel_rfl) ?_
 delta Qn Zd7 Zhl W7 vI vB
 refine ⟨?r1,⟨?r0,⟨?_,Za (fun h0=>?_) (fun h0=>?_)⟩⟩⟩
 case r0|r1=>first | rfl | (rw[Zp];done) | (obtain ⟨a1,a2,a3,a4⟩:=hx;simp only[Qk_,Qc_] at h0;exact Zv (fun _=>rfl) (by omega) (by omega))
 all_goals simp only[ZaF,ZaG,Zp,QO_,QG_] at *
 ·exact ⟨by omega,by omega,hp0,by simp⟩
 ·obtain ⟨A,hA⟩:∃A,Z8 l n=A:=⟨_,rfl⟩
  rw[hA] at h0 ⊢
  obtain ⟨g,b⟩:=A
  simp only at h0
  subst h0;rfl
 ·rw[Zdp h0];rfl
theorem Z1L:Zj Tryz.prog 134 Z3v:=Zk<|Zh fun n=>Zh fun g=>EZ1 fun hp0=>by
 refine cf0 (Zb Zw2<|Zg) (fn:=Tryz.f134) rfl ?_
 refine sxT (fun Q=>((List.map Glass.enc g=List.map Glass.enc (Zi Glass.dec (List.map Glass.enc g)))∧(((Zi Glass.dec (List.map Glass.enc g)).length≤(140737488355328:Nat))∧(bif (Z8 (Zi Glass.dec (List.map Glass.enc g)) n).snd then Q (vB true) else Q (vB (n==[(97:UInt8),(105:UInt8),(114:UInt8)])))))) (fun _=>by kernel_rfl) ?_
 delta Qn vB
 refine ⟨?r1,⟨?r0,Za (fun h0=>?_) (fun h0=>?_)⟩⟩
 case r0|r1=>first | rfl | (rw[Zp];done) | (simp only[Zp];omega)
 all_goals simp only[Zp] at *
 all_goals simp only[ZgK, *,Q4_,Qw_]
 all_goals rfl
theorem Z2v:Zj Tryz.prog 76 e76:=Zk<|Zh fun f=>Zh fun g=>EZ1 fun hp0=>by
 refine cf0 (Zb Zzd<|Zb Zw0<|Zb Z1J<|Zb Z1K<|Zb Zze<|Zb Z1L<|Zg) (fn:=Tryz.f76) rfl ?_
 refine sxT (fun Q=>(bif !Ja f.aperture then Q (vB false) else (bif !printable f.thick then Q (vB false) else (bif ZT f.thick zeroDec then Q (vB false) else (bif f.stop then Q (vB (f.stop==true&&(f.radius.c==(0:Int)&&(f.radius.scale==(0:Int)&&(f.aperture.c==f.aperture.c&&(f.aperture.scale==f.aperture.scale&&(f.thick.c==f.thick.c&&(f.thick.scale==f.thick.scale&&(f.conic.c==(0:Int)&&(f.conic.scale==(0:Int)&&(f.a4.c==(0:Int)&&(f.a4.scale==(0:Int)&&(f.a6.c==(0:Int)&&(f.a6.scale==(0:Int)&&(f.glass==[]&&true))))))))))))))) else (bif printable f.radius then (bif ZjY f.radius f.aperture then (bif printable f.conic then (bif printable f.a4 then (bif printable f.a6 then (bif Zcf f.glass then ((List.map Glass.enc g=List.map Glass.enc (Zi Glass.dec (List.map Glass.enc g)))∧(((Zi Glass.dec (List.map Glass.enc g)).length≤(140737488355328:Nat))∧Q (vB (ZgK f.glass (Zi Glass.dec (List.map Glass.enc g)))))) else Q (vB false)) else Q (vB false)) else Q (vB false)) else Q (vB false)) else Q (vB false)) else Q (vB false))))))) (fun _=>by kernel_rfl) ?_
 delta Qn vB
 refine Za (fun h0=>?_) (fun h0=>Za (fun h1=>?_) (fun h1=>Za (fun h2=>?_) (fun h2=>Za (fun h3=>?_) (fun h3=>Za (fun h4=>Za (fun h5=>Za (fun h6=>Za (fun h7=>Za (fun h8=>Za (fun h9=>⟨?r1,⟨?r0, ?_⟩⟩) (fun h9=>?_)) (fun h8=>?_)) (fun h7=>?_)) (fun h6=>?_)) (fun h5=>?_)) (fun h4=>?_)))))
 case r0|r1=>first | rfl | (rw[Zp];done) | (simp only[Zp];omega) | (simp only[Face.enc];rfl)
 all_goals (try simp only[Zp,Qi_,Qf_] at *)
 all_goals simp only[ZU, *,Qp_,Ql_,Qr_,Qn_,Qu_,Qt_,Q4_,Qw_,Q5_,Q3_,Qb_,Qd_]
 all_goals first | rfl | (simp only[beq_self_eq_true,Qp_,ZsW,ZV,Bool.and_assoc,Qr_];rfl) | (simp only[ZsW,ZV,Qr_,Bool.and_assoc, *,Qp_,Ql_,Qr_,Qn_,Qu_,Qt_,Q4_,Qw_,Q5_,Q3_,Qb_,Qd_];first | done | rfl) | skip
def Znx(g:GL):=Zi Glass.dec (List.map Glass.enc g.g)
theorem Zzf:Zj Tryz.prog 75 e75:=Zk<|Zh fun f=>Zh fun g=>EZ1 fun hp0=>by
 refine cf0 (Zb Z2v<|Zg) (fn:=Tryz.f75) rfl ?_
 refine sxT (fun Q=>(((ZyO f)=f.enc)∧((List.map Glass.enc g.g=List.map Glass.enc (Znx g))∧(((Znx g).length≤(140737488355328:Nat))∧Q (vB (!ZU f (Znx g))))))) (fun _=>by kernel_rfl) ?_
 delta Qn Znx ZyO vI vB
 refine ⟨?r2,⟨?r1,⟨?r0, ?_⟩⟩⟩
 case r0|r1|r2=>first | rfl | (rw[Zp];done) | (simp only[Zp];omega) | skip
 all_goals simp only[Zp]
 all_goals rfl
theorem Zun:Zj Tryz.prog 77 e77:=Zk<|Zh fun f=>EZ0<|by
 refine cf0 Zg (fn:=Tryz.f77) rfl ?_
 refine sxT (fun Q=>Q (vB (!f.stop))) (fun _=>by kernel_rfl) ?_
 delta Qn vB
 refine ?_
 all_goals (try simp only[Qi_,Qf_,bne] at *)
 all_goals first | rfl | (simp only[Zu,Zr,List.foldl,Qr_,Qp_,Ql_,Qn_,Q5_,Q4_,Qw_,Q3_,Qu_,Qt_,Qb_,Qd_,QD_,Q8_, *];done) | (simp only[Zu,Zr,List.foldl,Qr_,Qp_,Ql_,Qn_,Q5_,Q4_,Qw_,Q3_,Qu_,Qt_,Qb_,Qd_,QD_,Q8_, *];first | rfl | (simp only[nz,nzA,nz1,QE_,QN_,Iv.enc,V.enc,Ray.enc, *];first | done | rfl)) | (simp_all[nz,nzA,nz1,Iv.enc,V.enc,Ray.enc,Dec.enc,Shape.enc,none',told,K4_];done) | (simp_all[nz,nzA,nz1,Iv.enc,V.enc,Ray.enc,Dec.enc,Shape.enc,none',told,K4_];omega) | (simp_all[nz,nzA,nz1,Iv.enc,V.enc,Ray.enc,Dec.enc,Shape.enc,none',told,K4_];(repeat' split)<;>(first | rfl | (exfalso;omega) | (simp_all;done) | omega))
def Z1M:=YY [(75,e75)]
def Wm(i:Int)(l:List Face):=(List.map Face.enc l).getD i.toNat []
def Zny(g:GL):=Zi Glass.dec (List.map Glass.enc g.g)
theorem ZrM:CSOk Tryz.prog Z1M:=Zb Zzf<|Zg
theorem Zw3:Yl Tryz.prog (Z9 Tryz.f130 0) ZiQ:=by
 refine Za0 Zs.Γ (ZF Zs ZrM ZR ZS ZX (LS:=[]) (Yo (l:=[]) (by kernel_rfl) Z2) (n:=2000) (U4 ZoX) (U4 Zb4) (fun x e s=>((U4 J5 x=true∧e= .ret∧s=U4 ZfA x)∨(U4 J5 x=false∧e= .exit 0∧s=U4 ZiP x))) (fun x=>(x.2.2.2 - x.1).toNat) ZiO ZvN ZvO (fun x hx=>?_)) ZiO ?_
 ·obtain ⟨i,l,g,m⟩:=x
  simp only[U4,Zb4] at hx
  refine sxT (fun Q=>(bif decide (i < m) then (((0:Int)≤i∧(List.map Face.enc l)[i.toNat]?=some (YK [vB false,vI 0,vI 0,vI 0,vI 0,vI 0,vI 0,vI 0,vI 0,vI 0,vI 0,vI 0,vI 0,PV.str []] (Wm i l)))∧(([vB (Zl ((Wm i l).headD PV.nil)),vI (Zd ((Wm i l).tail.headD PV.nil)),vI (Zd ((Wm i l).tail.tail.headD PV.nil)),vI (Zd ((Wm i l).tail.tail.tail.headD PV.nil)),vI (Zd ((Wm i l).tail.tail.tail.tail.headD PV.nil)),vI (Zd ((Wm i l).tail.tail.tail.tail.tail.headD PV.nil)),vI (Zd ((Wm i l).tail.tail.tail.tail.tail.tail.headD PV.nil)),vI (Zd ((Wm i l).tail.tail.tail.tail.tail.tail.tail.headD PV.nil)),vI (Zd ((Wm i l).tail.tail.tail.tail.tail.tail.tail.tail.headD PV.nil)),vI (Zd ((Wm i l).tail.tail.tail.tail.tail.tail.tail.tail.tail.headD PV.nil)),vI (Zd ((Wm i l).tail.tail.tail.tail.tail.tail.tail.tail.tail.tail.headD PV.nil)),vI (Zd ((Wm i l).tail.tail.tail.tail.tail.tail.tail.tail.tail.tail.tail.headD PV.nil)),vI (Zd ((Wm i l).tail.tail.tail.tail.tail.tail.tail.tail.tail.tail.tail.tail.headD PV.nil)),PV.str (Wh ((Wm i l).tail.tail.tail.tail.tail.tail.tail.tail.tail.tail.tail.tail.tail.headD PV.nil))]=(Face.dec (Wm i l)).enc)∧((g.enc=(GL.mk (Zny g)).enc)∧(((Zny g).length≤(140737488355328:Nat))∧(bif !ZU (Face.dec (Wm i l)) (Zny g) then Q (Ex.ret) (some ⟨19,[(4,pI i)],[],[],[],[]⟩) else Q (Ex.normal) (some ⟨19,[(8,AV.p (vI (IntKind.i64.wrap (i+(1:Int))))),(0,AV.p (PV.lst (List.map Face.enc l))),(1,AV.p (PV.fn (75:FuncId) [PV.lptr [PV.lst (List.map Glass.enc g.g)] 0])),(7,pI m)],[],[],[],[]⟩)))))) else Q (Ex.exit (0:Nat)) (some ⟨19,[],[],[],[],[]⟩))) (fun _=>by kernel_rfl) ?_
  delta Wm Zny vI vB pI
  refine Za (fun h0=>⟨?r3,⟨?r2,⟨?r1,⟨?r0,Za (fun h1=> .inr ⟨by simp,_,rfl, ?_⟩) (fun h1=> .inl ⟨rfl,(IntKind.i64.wrap (i+(1:Int)),l,g,m),rfl, ?_, ?_, ?_⟩)⟩⟩⟩⟩) (fun h0=> .inr ⟨by simp,_,rfl, ?_⟩)
  case r0|r1|r2|r3=>first | rfl | (simp only[GL.enc,Zp];done) | (rw[Zed];done) | (rw[ZI];done) | (simp only[ZI,Zp,Zed];first | done | omega | exact hp0) | (obtain ⟨a1,a2,a3,a4,a5⟩:=hx;simp only[Zp];omega) | omega | (obtain ⟨a1,a2,a3,a4,a5⟩:=hx;simp only[Qc_] at h0;exact Zv (fun _=>rfl) (by omega) (by omega)) | (obtain ⟨a1,a2,a3,a4,a5⟩:=hx;simp only[Qc_] at h0;obtain ⟨x,r,e1,e2,e3⟩:=Yg (l:=l) a1 (by omega);rw[Yp e3];rfl) | (simp[Zi];done) | skip
  all_goals try dsimp only[U4]
  all_goals (try obtain ⟨a1,a2,a3,a4,a5⟩:=hx)
  all_goals (try simp only[Qc_,Qe_] at h0)
  ·obtain ⟨x,r,e1,e2,e3⟩:=Yg (l:=l) a1 (by omega)
   rw[Yp e3] at h1
   try rw[Zp] at h1
   refine .inl ⟨?_,rfl, ?_⟩
   ·simp only[U4,J5,e1,QU_]
    rw[show (!ZU x g.g)=true from h1];rfl
   ·simp only[U4,ZfA,e1,X2]
    rw[show (!ZU x g.g)=true from h1];rfl
  ·rw[Zf (by constructor<;>omega)];simp only[U4,Zb4];omega
  ·show (m - IntKind.i64.wrap (i+1)).toNat < (m - i).toNat
   rw[Zf (by constructor<;>omega)];omega
  ·obtain ⟨x,r,e1,e2,e3⟩:=Yg (l:=l) a1 (by omega)
   rw[Yp e3] at h1
   try rw[Zp] at h1
   have hp:(!ZU x g.g)=false:=h1
   rw[Zf (by constructor<;>omega)]
   simp only[U4,J5,ZfA,ZiP,e1,e2,QU_,hp,Qw_,X2,Qd_]
   exact fun e s h=>h
  ·refine .inr ⟨?_,rfl,rfl⟩
   simp only[U4,J5]
   rw[Q0_ (by omega)];rfl
 ·intro σ K hS
  unfold ZiQ at hS
  split at hS
  ·rename_i p1 p2 p3 p4 hk
   obtain ⟨hi,hK⟩:=XH hS
   refine ⟨(p1,(Zi Face.dec p2),(GL.dec p3),p4),by
    simp only[ZoX]
    rw[←(show p2=(Zi Face.dec p2).map Face.enc from hi _ (by simp))]
    rw[←(show p3=GL.enc (GL.dec p3) from hi _ (by simp))]
    exact hk,hi _ (by simp),fun e s hf=>?_⟩
   dsimp only[U4] at hf
   rcases hf with ⟨hc,rfl,rfl⟩ | ⟨hc,hf⟩
   ·rw[hc] at hK;exact hK
   ·rw[hc] at hK;obtain ⟨rfl,rfl⟩:=hf;exact hK
  ·exact hS.elim
theorem Zyt:ZQ Tryz.prog [(3,ZiQ)] Tryz.f130:=ZM (l:=[Z9 Tryz.f130 0]) (by kernel_rfl) (Ya (i:=3) (by kernel_rfl) rfl Zw3 (Z2))
def Znz(g:GL):=GL.mk (Zi Glass.dec (List.map Glass.enc g.g))
def Zk0(l:List Face):=Zi Face.dec (List.map Face.enc l)
theorem Zyu(l:List Face)(g:GL)(hp0:l.length≤140737488355328∧g.g.length≤140737488355328):Con Tryz.prog 130 [.lst (l.map Face.enc),.fn 75 [.lptr (GL.enc g) 0]] (.v (.int .i64 (X2 (fun f=> !ZU f g.g) l 0))):=by
 refine cfL ZrM Zyt rfl ?_
 refine sxT (fun Q=>((List.map Face.enc l=List.map Face.enc (Zk0 l))∧((g.enc=(Znz g).enc)∧((Zb4 (0:Int) (Zk0 l) (Znz g) ↑(List.map Face.enc l).length)∧(bif J5 (0:Int) (Zk0 l) (Znz g) ↑(List.map Face.enc l).length then Q (vI (X2 (fun f=> !ZU f (GL.dec g.enc).g) (List.drop (0:Nat) (Zk0 l)) (0:Int))) else Q (vI (-1))))))) (fun _=>by kernel_rfl) ?_
 delta Qn Znz Zk0 vI
 refine ⟨?r1,⟨?r0,⟨?_,Za (fun h0=>?_) (fun h0=>?_)⟩⟩⟩
 case r0|r1=>first | rfl | (simp only[GL.enc,Zp];done) | (rw[Zed];done) | (rw[ZI];done) | (simp only[ZI,Zp,Zed];first | done | omega | exact hp0) | (obtain ⟨a1,a2,a3,a4,a5⟩:=hx;simp only[Zp];omega) | omega | (obtain ⟨a1,a2,a3,a4,a5⟩:=hx;simp only[Qc_] at h0;exact Zv (fun _=>rfl) (by omega) (by omega)) | (obtain ⟨a1,a2,a3,a4,a5⟩:=hx;simp only[Qc_] at h0;obtain ⟨x,r,e1,e2,e3⟩:=Yg (l:=l) a1 (by omega);rw[Yp e3];rfl) | (simp[Zi];done) | skip
 all_goals simp only[ZI,Zp,Zed,Qk_] at *
 ·simp only[Zb4,Qk_,true_and];omega
 ·simp[nz,nzA]
 ·rw[ZhK (by simpa [J5] using h0)];rfl
theorem Zyv:Zj Tryz.prog 130 ZoM:=by
 intro args r ps h hp
 unfold ZoM at h
 split at h
 ·rename_i p1 p2
  cases (Qa_ h)
  exact by
   have hq:=Zyu (Zi Face.dec p1) (GL.dec p2) (hp _ (by simp))
   rw[←(show p1=(Zi Face.dec p1).map Face.enc from hp _ (by simp))] at hq
   rw[←(show p2=GL.enc (GL.dec p2) from hp _ (by simp))] at hq
   exact hq
 ·exact absurd h (by simp)
def Z1N:=YY [(77,e77)]
def Wn(i:Int)(l:List Face):=(List.map Face.enc l).getD i.toNat []
theorem ZrN:CSOk Tryz.prog Z1N:=Zb Zun<|Zg
theorem Zw4:Yl Tryz.prog (Z9 Tryz.f130 0) ZiT:=by
 refine Za0 Zs.Γ (ZF Zs ZrN ZR ZS ZX (LS:=[]) (Yo (l:=[]) (by kernel_rfl) Z2) (n:=2000) (U3 ZoY) (U3 Zb5) (fun x e s=>((U3 J6 x=true∧e= .ret∧s=U3 ZfB x)∨(U3 J6 x=false∧e= .exit 0∧s=U3 ZiS x))) (fun x=>(x.2.2 - x.1).toNat) ZiR ZvP ZvQ (fun x hx=>?_)) ZiR ?_
 ·obtain ⟨i,l,m⟩:=x
  simp only[U3,Zb5] at hx
  refine sxT (fun Q=>(bif decide (i < m) then (((0:Int)≤i∧(List.map Face.enc l)[i.toNat]?=some (YK [vB false,vI 0,vI 0,vI 0,vI 0,vI 0,vI 0,vI 0,vI 0,vI 0,vI 0,vI 0,vI 0,PV.str []] (Wn i l)))∧(([vB (Zl ((Wn i l).headD PV.nil)),vI (Zd ((Wn i l).tail.headD PV.nil)),vI (Zd ((Wn i l).tail.tail.headD PV.nil)),vI (Zd ((Wn i l).tail.tail.tail.headD PV.nil)),vI (Zd ((Wn i l).tail.tail.tail.tail.headD PV.nil)),vI (Zd ((Wn i l).tail.tail.tail.tail.tail.headD PV.nil)),vI (Zd ((Wn i l).tail.tail.tail.tail.tail.tail.headD PV.nil)),vI (Zd ((Wn i l).tail.tail.tail.tail.tail.tail.tail.headD PV.nil)),vI (Zd ((Wn i l).tail.tail.tail.tail.tail.tail.tail.tail.headD PV.nil)),vI (Zd ((Wn i l).tail.tail.tail.tail.tail.tail.tail.tail.tail.headD PV.nil)),vI (Zd ((Wn i l).tail.tail.tail.tail.tail.tail.tail.tail.tail.tail.headD PV.nil)),vI (Zd ((Wn i l).tail.tail.tail.tail.tail.tail.tail.tail.tail.tail.tail.headD PV.nil)),vI (Zd ((Wn i l).tail.tail.tail.tail.tail.tail.tail.tail.tail.tail.tail.tail.headD PV.nil)),PV.str (Wh ((Wn i l).tail.tail.tail.tail.tail.tail.tail.tail.tail.tail.tail.tail.tail.headD PV.nil))]=(Face.dec (Wn i l)).enc)∧(bif !(Face.dec (Wn i l)).stop then Q (Ex.ret) (some ⟨19,[(4,pI i)],[],[],[],[]⟩) else Q (Ex.normal) (some ⟨19,[(8,AV.p (vI (IntKind.i64.wrap (i+(1:Int))))),(0,AV.p (PV.lst (List.map Face.enc l))),(1,AV.p (PV.fn (77:FuncId) [])),(7,pI m)],[],[],[],[]⟩)))) else Q (Ex.exit (0:Nat)) (some ⟨19,[],[],[],[],[]⟩))) (fun _=>by kernel_rfl) ?_
  delta Wn vI vB pI
  refine Za (fun h0=>⟨?r1,⟨?r0,Za (fun h1=> .inr ⟨by simp,_,rfl, ?_⟩) (fun h1=> .inl ⟨rfl,(IntKind.i64.wrap (i+(1:Int)),l,m),rfl, ?_, ?_, ?_⟩)⟩⟩) (fun h0=> .inr ⟨by simp,_,rfl, ?_⟩)
  case r0|r1=>first | rfl | (rw[ZI];done) | (simp only[ZI];first | done | omega | exact hp0) | omega | (obtain ⟨a1,a2,a3,a4⟩:=hx;simp only[Qc_] at h0;exact Zv (fun _=>rfl) (by omega) (by omega)) | (obtain ⟨a1,a2,a3,a4⟩:=hx;simp only[Qc_] at h0;obtain ⟨x,r,e1,e2,e3⟩:=Yg (l:=l) a1 (by omega);rw[Yp e3];rfl) | (simp[Zi];done) | skip
  all_goals try dsimp only[U3]
  all_goals (try obtain ⟨a1,a2,a3,a4⟩:=hx)
  all_goals (try simp only[Qc_,Qe_] at h0)
  ·obtain ⟨x,r,e1,e2,e3⟩:=Yg (l:=l) a1 (by omega)
   rw[Yp e3] at h1
   try rw[Zp] at h1
   refine .inl ⟨?_,rfl, ?_⟩
   ·simp only[U3,J6,e1,QU_]
    rw[show (!x.stop)=true from h1];rfl
   ·simp only[U3,ZfB,e1,X2]
    rw[show (!x.stop)=true from h1];rfl
  ·rw[Zf (by constructor<;>omega)];simp only[U3,Zb5];omega
  ·show (m - IntKind.i64.wrap (i+1)).toNat < (m - i).toNat
   rw[Zf (by constructor<;>omega)];omega
  ·obtain ⟨x,r,e1,e2,e3⟩:=Yg (l:=l) a1 (by omega)
   rw[Yp e3] at h1
   try rw[Zp] at h1
   have hp:(!x.stop)=false:=h1
   rw[Zf (by constructor<;>omega)]
   simp only[U3,J6,ZfB,ZiS,e1,e2,QU_,hp,Qw_,X2,Qd_]
   exact fun e s h=>h
  ·refine .inr ⟨?_,rfl,rfl⟩
   simp only[U3,J6]
   rw[Q0_ (by omega)];rfl
 ·intro σ K hS
  unfold ZiT at hS
  split at hS
  ·rename_i p1 p2 p3 hk
   obtain ⟨hi,hK⟩:=XH hS
   refine ⟨(p1,(Zi Face.dec p2),p3),by
    simp only[ZoY]
    rw[←(show p2=(Zi Face.dec p2).map Face.enc from hi _ (by simp))]
    exact hk,hi _ (by simp),fun e s hf=>?_⟩
   dsimp only[U3] at hf
   rcases hf with ⟨hc,rfl,rfl⟩ | ⟨hc,hf⟩
   ·rw[hc] at hK;exact hK
   ·rw[hc] at hK;obtain ⟨rfl,rfl⟩:=hf;exact hK
  ·exact hS.elim
theorem Zyw:ZQ Tryz.prog [(3,ZiT)] Tryz.f130:=ZM (l:=[Z9 Tryz.f130 0]) (by kernel_rfl) (Ya (i:=3) (by kernel_rfl) rfl Zw4 (Z2))
def Zk1(l:List Face):=Zi Face.dec (List.map Face.enc l)
theorem Zyx(l:List Face)(hp0:l.length≤140737488355328):Con Tryz.prog 130 [.lst (l.map Face.enc),.fn 77 []] (.v (.int .i64 (X2 (fun f=> !f.stop) l 0))):=by
 refine cfL ZrN Zyw rfl ?_
 refine sxT (fun Q=>((List.map Face.enc l=List.map Face.enc (Zk1 l))∧((Zb5 (0:Int) (Zk1 l) ↑(List.map Face.enc l).length)∧(bif J6 (0:Int) (Zk1 l) ↑(List.map Face.enc l).length then Q (vI (X2 (fun f=> !f.stop) (List.drop (0:Nat) (Zk1 l)) (0:Int))) else Q (vI (-1)))))) (fun _=>by kernel_rfl) ?_
 delta Qn Zk1 vI
 refine ⟨?r0,⟨?_,Za (fun h0=>?_) (fun h0=>?_)⟩⟩
 case r0=>first | rfl | (rw[ZI];done) | (simp only[ZI];first | done | omega | exact hp0) | omega | (obtain ⟨a1,a2,a3,a4⟩:=hx;simp only[Qc_] at h0;exact Zv (fun _=>rfl) (by omega) (by omega)) | (obtain ⟨a1,a2,a3,a4⟩:=hx;simp only[Qc_] at h0;obtain ⟨x,r,e1,e2,e3⟩:=Yg (l:=l) a1 (by omega);rw[Yp e3];rfl) | (simp[Zi];done) | skip
 all_goals simp only[ZI,Qk_] at *
 ·simp only[Zb5,Qk_,true_and];omega
 ·simp[nz,nzA]
 ·rw[ZhK (by simpa [J6] using h0)];rfl
theorem Zyy:Zj Tryz.prog 130 ZoN:=by
 intro args r ps h hp
 unfold ZoN at h
 split at h
 ·rename_i p1
  cases (Qa_ h)
  exact by
   have hq:=Zyx (Zi Face.dec p1) (hp _ (by simp))
   rw[←(show p1=(Zi Face.dec p1).map Face.enc from hp _ (by simp))] at hq
   exact hq
 ·exact absurd h (by simp)
theorem Zw5:Zj Tryz.prog 130 Z3w:=ZeC Zyv (Zyy)
theorem Zyz(l:List Face)(g:GL)(hp0:l.length≤140737488355328∧g.g.length≤140737488355328):Con Tryz.prog 74 [.lst (l.map Face.enc),.fn 75 [.lptr (GL.enc g) 0]] (.v (.bool (l.any (fun f=> !ZU f g.g)))):=by
 refine cf0 (Zb Zw5<|Zb Zzf<|Zg) (fn:=Tryz.f74) rfl ?_
 refine sxT (fun Q=>((List.map Face.enc l=List.map Face.enc (Zi Face.dec (List.map Face.enc l)))∧((g.enc=(GL.mk (Zi Glass.dec (List.map Glass.enc g.g))).enc)∧(((Zi Face.dec (List.map Face.enc l)).length≤(140737488355328:Nat)∧(Zi Glass.dec (List.map Glass.enc g.g)).length≤(140737488355328:Nat))∧Q (vB (decide (X2 (fun f=> !ZU f (GL.dec g.enc).g) (Zi Face.dec (List.map Face.enc l)) (0:Int)≥(0:Int)))))))) (fun _=>by kernel_rfl) ?_
 delta Qn vB
 refine ⟨?r2,⟨?r1,⟨?r0, ?_⟩⟩⟩
 case r0|r1|r2=>first | rfl | (simp only[GL.enc,Zp];done) | (rw[Zed];done) | (rw[ZI];done) | (simp only[ZI,Zp,Zed];first | done | omega | exact hp0) | (obtain ⟨a1,a2,a3,a4,a5⟩:=hx;simp only[Zp];omega) | omega | (simp[Zi];done) | skip
 simp only[ZI,Zp,Zed] at *
 simp only[nz,nzA]
 rw[ZhL (by omega)]
theorem Zy0:Zj Tryz.prog 74 ZoO:=by
 intro args r ps h hp
 unfold ZoO at h
 split at h
 ·rename_i p1 p2
  cases (Qa_ h)
  exact by
   have hq:=Zyz (Zi Face.dec p1) (GL.dec p2) (hp _ (by simp))
   rw[←(show p1=(Zi Face.dec p1).map Face.enc from hp _ (by simp))] at hq
   rw[←(show p2=GL.enc (GL.dec p2) from hp _ (by simp))] at hq
   exact hq
 ·exact absurd h (by simp)
theorem Zy1(l:List Face)(hp0:l.length≤140737488355328):Con Tryz.prog 74 [.lst (l.map Face.enc),.fn 77 []] (.v (.bool (l.any (fun f=> !f.stop)))):=by
 refine cf0 (Zb Zw5<|Zb Zun<|Zg) (fn:=Tryz.f74) rfl ?_
 refine sxT (fun Q=>((List.map Face.enc l=List.map Face.enc (Zi Face.dec (List.map Face.enc l)))∧(((Zi Face.dec (List.map Face.enc l)).length≤(140737488355328:Nat))∧Q (vB (decide (X2 (fun f=> !f.stop) (Zi Face.dec (List.map Face.enc l)) (0:Int)≥(0:Int))))))) (fun _=>by kernel_rfl) ?_
 delta Qn vB
 refine ⟨?r1,⟨?r0, ?_⟩⟩
 case r0|r1=>first | rfl | (rw[ZI];done) | (simp only[ZI];first | done | omega | exact hp0) | omega | (simp[Zi];done) | skip
 simp only[ZI] at *
 simp only[nz,nzA]
 rw[ZhL (by omega)]
theorem Zy2:Zj Tryz.prog 74 ZoP:=by
 intro args r ps h hp
 unfold ZoP at h
 split at h
 ·rename_i p1
  cases (Qa_ h)
  exact by
   have hq:=Zy1 (Zi Face.dec p1) (hp _ (by simp))
   rw[←(show p1=(Zi Face.dec p1).map Face.enc from hp _ (by simp))] at hq
   exact hq
 ·exact absurd h (by simp)
theorem Z2w:Zj Tryz.prog 74 e74:=ZeC Zy0 (Zy2)
end Go.Men
