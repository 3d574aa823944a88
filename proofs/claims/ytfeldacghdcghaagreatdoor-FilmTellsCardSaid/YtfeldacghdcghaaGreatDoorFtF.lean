/- A logic of frames, its evaluator for values known in part, and what the functions that the law reaches are shown to do: written for this claim. Part F. -/
import Derived.Test.YtfeldacghdcghaaGreatDoorFtE
import Derived.KernelRfl
import Derived.Deep.Slices
import Derived.Carry
import Derived.OpenShut
import Derived.ChangeMaps5
import Derived.Deep.DeepHandedRow
set_option linter.all false
set_option maxRecDepth 100000
namespace Go.Men
open Go.Ev Go.Proofs Go.Proofs.YtfeldacghdcghaaGreatDoor
def ZCn:=Yy [(32,e32),(33,e33),(38,e38),(39,e39)]
def pA(i:Int)(ps:List Pixel):=(List.map Pixel.enc ps).getD i.toNat []
set_option maxHeartbeats 4000000 in
def ZuJ(i:Int)(ps:List Pixel):=intOf ((pA i ps).headD PV.nil)+intOf ((pA i ps).tail.tail.tail.headD PV.nil)
def ZqU(i:Int)(ps:List Pixel):=IntKind.i64.wrap (ZuJ i ps)
def ZjZ(i:Int)(ps:List Pixel):=intOf ((pA i ps).tail.headD PV.nil)+intOf ((pA i ps).tail.tail.tail.tail.headD PV.nil)
def Zh5(i:Int)(ps:List Pixel):=intOf ((pA i ps).tail.tail.headD PV.nil)+intOf ((pA i ps).tail.tail.tail.tail.tail.headD PV.nil)
def q30_4:=[[PV.str [(32:UInt8)]],[PV.str [(32:UInt8)]],[PV.str [(10:UInt8)]]]
def Zka(tw:Int)(i:Int)(ps:List Pixel):=digits (floor (ZqU i ps) tw)++[(32:UInt8)]
def ZqV(tw:Int)(i:Int)(ps:List Pixel):=digits (floor (IntKind.i64.wrap (ZjZ i ps)) tw)++[(32:UInt8)]
theorem Z0J:CSOk Tryz.prog ZCn:=Za Z8X<|Za ZuB<|Za ZCX<|Za Z2u<|Ze
set_option maxHeartbeats 4000000 in
theorem Z3Y:Ye Tryz.prog (Zn Tryz.f13 0) Zl8:=by
 refine lsG Zk.Γ (Zw Zk Z0J Z4 (Z5t (n:=60) Zk Ze) Z7 (LS:=[]) (ZM (l:=[Zn Tryz.f13 1]) (by kernel_rfl) (X8 (i:=13) (by kernel_rfl) rfl (Zr))) (n:=2000) (U5 ZsV) (U5 JG) (fun x e s=>(e= .exit 0∧s=U5 Zhu x)) (fun x=>(x.2.2.2.1 - x.2.1).toNat) ZsW Z2l Z2m (fun x hx=>?_)) cv5 (fun _=>rfl) (fun _ h=>h) (fun _ _ _ _ h f=>fE h f)
 ·obtain ⟨tw,i,ps,m,bl⟩:=x
  simp only[U5,JG] at hx
  refine sxT (fun Q=>(bif decide (i < m) then (((0:Int)≤i∧(List.map Pixel.enc ps)[i.toNat]?=some (ZJ [vI 0,vI 0,vI 0,vI 0,vI 0,vI 0,vI 0] (pA i ps)))∧(((0:Int)≤(0:Int)∧(0:Int) < (3:Int))∧(((0:Int)≤(0:Int)∧(0:Int) < (3:Int))∧(((-4611686018427387904:Int)≤IntKind.i64.wrap (ZuJ i ps)∧IntKind.i64.wrap (ZuJ i ps)≤(4611686018427387904:Int))∧(((-1000000000000000000:Int)≤floor (ZqU i ps) tw∧floor (ZqU i ps) tw≤(1000000000000000000:Int))∧(((0:Int)≤(0:Int)∧q30_4[(0:Nat)]?=some (ZJ [PV.str []] (q30_4.getD (0:Nat) [])))∧(((digits (floor (ZqU i ps) tw)).length+(1:Nat)≤(9223372036854775807:Nat))∧(((ZK bl.txt).length+(Zka tw i ps).length≤(140737488355328:Nat)∧Lens (1:Nat) (ZK bl.txt))∧(((0:Int)≤(1:Int)∧(1:Int) < (3:Int))∧(((0:Int)≤(1:Int)∧(1:Int) < (3:Int))∧(((-4611686018427387904:Int)≤IntKind.i64.wrap (ZjZ i ps)∧IntKind.i64.wrap (ZjZ i ps)≤(4611686018427387904:Int))∧(((-1000000000000000000:Int)≤floor (IntKind.i64.wrap (ZjZ i ps)) tw∧floor (IntKind.i64.wrap (ZjZ i ps)) tw≤(1000000000000000000:Int))∧(((0:Int)≤(1:Int)∧q30_4[(1:Nat)]?=some (ZJ [PV.str []] (q30_4.getD (1:Nat) [])))∧(((digits (floor (IntKind.i64.wrap (ZjZ i ps)) tw)).length+(1:Nat)≤(9223372036854775807:Nat))∧(((ZK bl.txt++ZK (Zka tw i ps)).length+(ZqV tw i ps).length≤(140737488355328:Nat)∧Lens (1:Nat) (ZK bl.txt++ZK (Zka tw i ps)))∧(((0:Int)≤(2:Int)∧(2:Int) < (3:Int))∧(((0:Int)≤(2:Int)∧(2:Int) < (3:Int))∧(((-4611686018427387904:Int)≤IntKind.i64.wrap (Zh5 i ps)∧IntKind.i64.wrap (Zh5 i ps)≤(4611686018427387904:Int))∧(((-1000000000000000000:Int)≤floor (IntKind.i64.wrap (Zh5 i ps)) tw∧floor (IntKind.i64.wrap (Zh5 i ps)) tw≤(1000000000000000000:Int))∧(((0:Int)≤(2:Int)∧q30_4[(2:Nat)]?=some (ZJ [PV.str []] (q30_4.getD (2:Nat) [])))∧(((digits (floor (IntKind.i64.wrap (Zh5 i ps)) tw)).length+(1:Nat)≤(9223372036854775807:Nat))∧(((ZK bl.txt++ZK (Zka tw i ps)++ZK (ZqV tw i ps)).length+(digits (floor (IntKind.i64.wrap (Zh5 i ps)) tw)++[(10:UInt8)]).length≤(140737488355328:Nat)∧Lens (1:Nat) (ZK bl.txt++ZK (Zka tw i ps)++ZK (ZqV tw i ps)))∧Q (Ex.normal) (some ⟨73,[(10,AV.ptr 10 0),(9,pI tw),(45,AV.p (vI (IntKind.i64.wrap (i+(1:Int))))),(43,AV.p (PV.lst (List.map Pixel.enc ps))),(44,pI m)],[(10,[(PV.bld true),PV.lst (ZK bl.txt++ZK (Zka tw i ps)++ZK (ZqV tw i ps)++ZK (digits (floor (IntKind.i64.wrap (Zh5 i ps)) tw)++[(10:UInt8)]))])],[],[(Loc.b (nat_lit 10) (nat_lit 1),nat_lit 5)],[]⟩))))))))))))))))))))))) else Q (Ex.exit (0:Nat)) (some ⟨73,[(10,AV.ptr 10 0)],[(10,[(PV.bld true),PV.lst (ZK bl.txt)])],[],[(Loc.b (nat_lit 10) (nat_lit 1),nat_lit 5)],[]⟩))) (fun _=>by kernel_rfl) ?_
  delta ZqU ZjZ Zh5 q30_4 Zka ZqV ZuJ vI pI
  refine Zb (fun h0=>⟨?r21,⟨?r20,⟨?r19,⟨?r18,⟨?r17,⟨?r16,⟨?r15,⟨?r14,⟨?r13,⟨?r12,⟨?r11,⟨?r10,⟨?r9,⟨?r8,⟨?r7,⟨?r6,⟨?r5,⟨?r4,⟨?r3,⟨?r2,⟨?r1,⟨?r0, ?_⟩⟩⟩⟩⟩⟩⟩⟩⟩⟩⟩⟩⟩⟩⟩⟩⟩⟩⟩⟩⟩⟩) (fun h0=>?_)
  case r0|r1|r2|r3|r4|r5|r6|r7|r8|r9|r10|r11|r12|r13|r14|r15|r16|r17|r18|r19|r20|r21=>first | rfl | omega | (rw[ZT];done) | (exact ⟨by decide,rfl⟩) | (obtain ⟨⟨a1,a2,a3,a4,a5⟩,⟨a6,a7⟩,a8⟩:=hx;simp only[Qc_] at h0;first | exact Z8 (fun _=>rfl) (by omega) (by omega) | (obtain ⟨p,t,e1,e2,e3⟩:=Yf (l:=ps) a1 (by omega);have eA:pA i ps=Pixel.enc p:=Yh e3;have hb:=a8 p (Qz_ e3);have n0:=ZaY hb a6 0;have n1:=ZaY hb a6 1;have n2:=ZaY hb a6 2;have d0:=ZI (Xt p 0 tw);have d1:=ZI (Xt p 1 tw);have d2:=ZI (Xt p 2 tw);obtain ⟨⟨b1,b2,b3⟩,b4,b5,b6⟩:=hb;have q0:IntKind.i64.wrap (intOf (p.enc.headD PV.nil)+intOf (p.enc.tail.tail.tail.headD PV.nil))=p.lo.a+p.hi.a:=Zg (show Fit (p.lo.a+p.hi.a) by constructor<;>omega);have q1:IntKind.i64.wrap (intOf (p.enc.tail.headD PV.nil)+intOf (p.enc.tail.tail.tail.tail.headD PV.nil))=p.lo.b+p.hi.b:=Zg (show Fit (p.lo.b+p.hi.b) by constructor<;>omega);have q2:IntKind.i64.wrap (intOf (p.enc.tail.tail.headD PV.nil)+intOf (p.enc.tail.tail.tail.tail.tail.headD PV.nil))=p.lo.c+p.hi.c:=Zg (show Fit (p.lo.c+p.hi.c) by constructor<;>omega);have f0:floor (p.lo.a+p.hi.a) tw=Xt p 0 tw:=rfl;have f1:floor (p.lo.b+p.hi.b) tw=Xt p 1 tw:=rfl;have f2:floor (p.lo.c+p.hi.c) tw=Xt p 2 tw:=rfl;simp only[eA,q0,q1,q2,f0,f1,f2,Zp5,Qx_,Zp6,Qs_,Q1_];first | omega | exact ⟨by omega,Zzm _⟩))
  all_goals obtain ⟨⟨a1,a2,a3,a4,a5⟩,⟨a6,a7⟩,a8⟩:=hx
  all_goals (try simp only[Qc_,Qe_] at h0)
  ·obtain ⟨p,t,e1,e2,e3⟩:=Yf (l:=ps) a1 (by omega);have eA:pA i ps=Pixel.enc p:=Yh e3;have hb:=a8 p (Qz_ e3);have n0:=ZaY hb a6 0;have n1:=ZaY hb a6 1;have n2:=ZaY hb a6 2;have d0:=ZI (Xt p 0 tw);have d1:=ZI (Xt p 1 tw);have d2:=ZI (Xt p 2 tw);obtain ⟨⟨b1,b2,b3⟩,b4,b5,b6⟩:=hb;have q0:IntKind.i64.wrap (intOf (p.enc.headD PV.nil)+intOf (p.enc.tail.tail.tail.headD PV.nil))=p.lo.a+p.hi.a:=Zg (show Fit (p.lo.a+p.hi.a) by constructor<;>omega);have q1:IntKind.i64.wrap (intOf (p.enc.tail.headD PV.nil)+intOf (p.enc.tail.tail.tail.tail.headD PV.nil))=p.lo.b+p.hi.b:=Zg (show Fit (p.lo.b+p.hi.b) by constructor<;>omega);have q2:IntKind.i64.wrap (intOf (p.enc.tail.tail.headD PV.nil)+intOf (p.enc.tail.tail.tail.tail.tail.headD PV.nil))=p.lo.c+p.hi.c:=Zg (show Fit (p.lo.c+p.hi.c) by constructor<;>omega);have f0:floor (p.lo.a+p.hi.a) tw=Xt p 0 tw:=rfl;have f1:floor (p.lo.b+p.hi.b) tw=Xt p 1 tw:=rfl;have f2:floor (p.lo.c+p.hi.c) tw=Xt p 2 tw:=rfl
   have hw:IntKind.i64.wrap (i+1)=i+1:=Zg (by constructor<;>omega)
   have hl:=ZsC tw p
   refine .inl ⟨by trivial,(tw,IntKind.i64.wrap (i+1),ps,m,⟨bl.txt++JN tw p⟩), ?_, ?_, ?_, ?_⟩
   ·(simp only[U5,ZsV,Bld.enc,JN,eA,q0,q1,q2,f0,f1,f2,Zp5,QB_])<;>rfl
   ·simp only[U5,JG,hw,Qx_];exact ⟨⟨by omega,by omega,a3,a4,by omega⟩,⟨a6,a7⟩,a8⟩
   ·simp only[hw];omega
   ·intro e s' hh;refine ⟨hh.1,hh.2.trans ?_⟩;unfold U5 Zhu;(try dsimp only);rw[hw,e1,e2];simp only[List.map_cons,List.flatten_cons,List.append_assoc]
  ·exact .inr ⟨by simp,_,rfl,by trivial,by unfold U5 Zhu;(try dsimp only);rw[List.drop_eq_nil_of_le (by omega)];(simp only[List.map_nil,List.flatten_nil,List.append_nil])<;>rfl⟩
theorem Z8D:ZF Tryz.prog [(10,Zl8)] Tryz.f13:=ZG (l:=[Zn Tryz.f13 0,Zn Tryz.f13 1]) (by kernel_rfl) (Zz (i:=10) (by kernel_rfl) rfl Z3Y (X8 (i:=13) (by kernel_rfl) rfl (Zr)))
def Zf6(w:Int)(h:Int):=ZK ([(80:UInt8),(51:UInt8),(10:UInt8)]++digits w++[(32:UInt8)]++digits h++[(10:UInt8)]++digits (255:Int)++[(10:UInt8)])
def Z3Z(w:Int)(h:Int):=Bld.dec [PV.bld true,PV.lst (ZK ((ByteArray.mk #[(80:UInt8),(51:UInt8),(10:UInt8)]).data.toList++digits w++(ByteArray.mk #[(32:UInt8)]).data.toList++digits h++(ByteArray.mk #[(10:UInt8)]).data.toList++digits (255:Int)++(ByteArray.mk #[(10:UInt8)]).data.toList))]
def Zd3(ps:List Pixel):=Zc Pixel.dec (List.map Pixel.enc ps)
def Zyh(w:Int)(h:Int):=(0:Nat)+([(80:UInt8),(51:UInt8),(10:UInt8)]++digits w++[(32:UInt8)]++digits h++[(10:UInt8)]++digits (255:Int)++[(10:UInt8)]).length≤(140737488355328:Nat)
def Zyi(w:Int)(h:Int):=([(80:UInt8),(51:UInt8),(10:UInt8)]++digits w++[(32:UInt8)]++digits h++[(10:UInt8)]++digits (255:Int)).length+(1:Nat)≤(9223372036854775807:Nat)
def Zyj(w:Int)(h:Int):=([(80:UInt8),(51:UInt8),(10:UInt8)]++digits w++[(32:UInt8)]++digits h++[(10:UInt8)]).length+(3:Nat)≤(9223372036854775807:Nat)
def Zyk(w:Int)(h:Int):=([(80:UInt8),(51:UInt8),(10:UInt8)]++digits w++[(32:UInt8)]++digits h).length+(1:Nat)≤(9223372036854775807:Nat)
def Zyl(w:Int)(h:Int):=([(80:UInt8),(51:UInt8),(10:UInt8)]++digits w++[(32:UInt8)]).length+(digits h).length≤(9223372036854775807:Nat)
def Zym(w:Int):=([(80:UInt8),(51:UInt8),(10:UInt8)]++digits w).length+(1:Nat)≤(9223372036854775807:Nat)
def Zyn:=(-1000000000000000000:Int)≤(255:Int)∧(255:Int)≤(1000000000000000000:Int)
def Zyo(w:Int):=(-1000000000000000000:Int)≤w∧w≤(1000000000000000000:Int)
def Zyp(h:Int):=(-1000000000000000000:Int)≤h∧h≤(1000000000000000000:Int)
set_option maxHeartbeats 4000000 in
theorem Z9e:Zh Tryz.prog 13 e13:=Zi<|Zf fun ps=>Zf fun w=>Zf fun h=>Zf fun d=>EZ1 fun hp0=>by
 refine Zcj Zk Z0J Z4 (Z5t (n:=60) Zk Ze) Z7 (n:=2000) (LS:=[(10,Zl8)]) (fn:=Tryz.f13) rfl Z8D ?_
 refine sxT (fun Q=>(bif !YU w h then Q (PV.str ([])) else (bif ↑(List.map Pixel.enc ps).length !=IntKind.i64.wrap (w *h) then Q (PV.str ([])) else (bif !ZX d (1:Int) (16:Int) then ((Zyo w)∧(((3:Nat)+(digits w).length≤(9223372036854775807:Nat))∧((Zym w)∧((Zyp h)∧((Zyl w h)∧((Zyk w h)∧(Zyn∧((Zyj w h)∧((Zyi w h)∧((Zyh w h)∧((List.map Pixel.enc ps=List.map Pixel.enc (Zd3 ps))∧(([PV.bld true,PV.lst (Zf6 w h)]=(Bld.mk (unbytes (Zf6 w h))).enc)∧((JG (0:Int) (0:Int) (Zd3 ps) (↑(List.map Pixel.enc ps).length) (Bld.mk (unbytes (Zf6 w h))))∧((∃c l,bytesOf (ZK (Bld.mk ((Z3Z w h).txt++(List.map (JN (0:Int)) (List.drop (Int.toNat (0:Int)) (Zd3 ps))).flatten)).txt)=some (c::l))∧Q (PV.str (Zib (ZK (unbytes (Zf6 w h)++(List.map (JN (0:Int)) (List.drop (0:Nat) (Zd3 ps))).flatten)))))))))))))))))) else ((Zyo w)∧(((3:Nat)+(digits w).length≤(9223372036854775807:Nat))∧((Zym w)∧((Zyp h)∧((Zyl w h)∧((Zyk w h)∧(Zyn∧((Zyj w h)∧((Zyi w h)∧((Zyh w h)∧((List.map Pixel.enc ps=List.map Pixel.enc (Zd3 ps))∧(([PV.bld true,PV.lst (Zf6 w h)]=(Bld.mk (unbytes (Zf6 w h))).enc)∧((JG (IntKind.i64.wrap ((2:Int)*d)) (0:Int) (Zd3 ps) (↑(List.map Pixel.enc ps).length) (Bld.mk (unbytes (Zf6 w h))))∧((∃c l,bytesOf (ZK (Bld.mk ((Z3Z w h).txt++(List.map (JN (IntKind.i64.wrap ((2:Int)*d))) (List.drop (Int.toNat (0:Int)) (Zd3 ps))).flatten)).txt)=some (c::l))∧Q (PV.str (Zib (ZK (unbytes (Zf6 w h)++(List.map (JN (IntKind.i64.wrap ((2:Int)*d))) (List.drop (0:Nat) (Zd3 ps))).flatten)))))))))))))))))))))) (fun _=>by kernel_rfl) ?_
 delta Qn Zf6 Z3Z Zd3 Zyh Zyi Zyj Zyk Zyl Zym Zyn Zyo Zyp
 refine Zb (fun h0=>?_) (fun h0=>Zb (fun h1=>?_) (fun h1=>Zb (fun h2=>⟨?r12,⟨?r11,⟨?r10,⟨?r9,⟨?r8,⟨?r7,⟨?r6,⟨?r5,⟨?r4,⟨?r3,⟨?r2,⟨?r1,⟨?_,⟨?r0, ?_⟩⟩⟩⟩⟩⟩⟩⟩⟩⟩⟩⟩⟩⟩) (fun h2=>⟨?r25,⟨?r24,⟨?r23,⟨?r22,⟨?r21,⟨?r20,⟨?r19,⟨?r18,⟨?r17,⟨?r16,⟨?r15,⟨?r14,⟨?_,⟨?r13, ?_⟩⟩⟩⟩⟩⟩⟩⟩⟩⟩⟩⟩⟩⟩)))
 case r0|r1|r2|r3|r4|r5|r6|r7|r8|r9|r10|r11|r12|r13|r14|r15|r16|r17|r18|r19|r20|r21|r22|r23|r24|r25=>first | rfl | omega | (rw[ZT];done) | (exact ⟨by decide,rfl⟩) | (obtain ⟨⟨a1,a2,a3,a4,a5⟩,⟨a6,a7⟩,a8⟩:=hx;simp only[Qc_] at h0;skip) | (simp only[Bld.enc,ZnT];done) | (simp only[Z9Q,Zlc];exact ⟨80,_,rfl⟩) | (have hs:=Zgh (by simpa using h0);have dw:=ZI w;have dh:=ZI h;have e255:digits 255=[50,53,53]:=rfl;(try simp only[e255,Qx_,Qs_,Q1_,Zp6]);omega)
 ·simp only[Qi_] at h0
  simp only[X0,h0,Qp_,Ql_,Qr_,Qn_,Qu_,Qt_,Qb_,Qd_];rfl
 all_goals simp only[Qf_] at h0
 all_goals have ha:=Z06 h0
 all_goals have hw:IntKind.i64.wrap (w *h)=w *h:=Zg (by constructor<;>omega)
 all_goals simp only[hw,Qk_,bne,Qi_,Qf_] at h1
 ·simp only[X0,h0,h1,Qp_,Ql_,Qr_,Qn_,Qu_,Qt_,Qb_,Qd_];rfl
 all_goals have hl:(ps.length:Int)=w *h:=(by simpa using h1)
 all_goals have e255:digits 255=[50,53,53]:=rfl
 all_goals have dw:=ZI w
 all_goals have dh:=ZI h
 all_goals simp only[ZT,ZnT,Z7F,Qk_,QG_,QO_,Qi_,Qf_] at *
 all_goals first
  | (simp only[JG,e255,Qx_,Qs_,Q1_];exact ⟨⟨by omega,by omega,by trivial,by omega,by omega⟩,⟨by omega,by omega⟩,hp0⟩)
  | (have ht:Zbr d=0:=(by simp only[Zbr,h2,Qd_]);simp only[X0,Zub,h0,h1,ht,e255,Qp_,Ql_,Qr_,Qn_,Qu_,Qt_,Qb_,Qd_,QB_,QS_,QJ_];rfl)
  | (have hd:1≤d∧d≤16:=(by simp only[ZX,Qh_,Qc_] at h2;exact h2)
     have hz:IntKind.i64.wrap (2 *d)=2 *d:=Zg (by constructor<;>omega)
     rw[hz]
     first | (simp only[JG,e255,Qx_,Qs_,Q1_];exact ⟨⟨by omega,by omega,by trivial,by omega,by omega⟩,⟨by omega,by omega⟩,hp0⟩) | (have ht:Zbr d=2 *d:=(by simp only[Zbr,h2,Qb_]);simp only[X0,Zub,h0,h1,ht,e255,Qp_,Ql_,Qr_,Qn_,Qu_,Qt_,Qb_,Qd_,QB_,QS_,QJ_];rfl))
def ZAg:=Yy [(14,e14),(48,e48)]
def pB(i:Int)(ps:List Pixel):=(List.map Pixel.enc ps).getD i.toNat []
set_option maxHeartbeats 4000000 in
def Zh6:=(-1000000000000000000:Int)≤(0:Int)∧(0:Int)≤(1000000000000000000:Int)
def JW(i:Int)(ps:List Pixel):=(0:Int)≤i∧(List.map Pixel.enc ps)[i.toNat]?=some (ZJ [vI 0,vI 0,vI 0,vI 0,vI 0,vI 0,vI 0] (pB i ps))
def Zml:=(0:Int)≤(1:Int)∧(1:Int) < (3:Int)
def ZiB(i:Int)(ps:List Pixel):=intOf ((pB i ps).tail.headD PV.nil)+intOf ((pB i ps).tail.tail.tail.tail.headD PV.nil)
def Zyq(i:Int)(ps:List Pixel):=(-4611686018427387904:Int)≤IntKind.i64.wrap (ZiB i ps)∧IntKind.i64.wrap (ZiB i ps)≤(4611686018427387904:Int)
def Zyr(tx:List UInt8):=(tx++digits (0:Int)).length+(1:Nat)≤(9223372036854775807:Nat)
def Zes(d:Int):=IntKind.i64.wrap ((2:Int)*d)
def Zys(d:Int)(i:Int)(ps:List Pixel):=(-1000000000000000000:Int)≤floor (IntKind.i64.wrap (ZiB i ps)) (Zes d)∧floor (IntKind.i64.wrap (ZiB i ps)) (Zes d)≤(1000000000000000000:Int)
def Wx(d:Int)(i:Int)(ps:List Pixel):=floor (IntKind.i64.wrap (ZiB i ps)) (Zes d)
def Zd4:=(0:Int)≤(2:Int)∧(2:Int) < (3:Int)
def Znm(i:Int)(ps:List Pixel):=intOf ((pB i ps).tail.tail.headD PV.nil)+intOf ((pB i ps).tail.tail.tail.tail.tail.headD PV.nil)
def Zmm(i:Int)(ps:List Pixel):=(-4611686018427387904:Int)≤IntKind.i64.wrap (Znm i ps)∧IntKind.i64.wrap (Znm i ps)≤(4611686018427387904:Int)
def Zmn(d:Int)(i:Int)(ps:List Pixel):=(-1000000000000000000:Int)≤floor (IntKind.i64.wrap (Znm i ps)) (Zes d)∧floor (IntKind.i64.wrap (Znm i ps)) (Zes d)≤(1000000000000000000:Int)
def JD(d:Int)(i:Int)(ps:List Pixel):=floor (IntKind.i64.wrap (Znm i ps)) (Zes d)
def Zd5(i:Int):=vI (IntKind.i64.wrap (i+(1:Int)))
def Zd6(ps:List Pixel):=PV.lst (List.map Pixel.enc ps)
def Zyt(tx:List UInt8)(d:Int)(i:Int)(ps:List Pixel)(Q:Ex→Option St→Prop):Prop:=((tx++digits (0:Int)++[(32:UInt8)]++digits (Wx d i ps)).length+(1:Nat)≤(9223372036854775807:Nat))∧(Zh6∧(((tx++digits (0:Int)++[(32:UInt8)]++digits (Wx d i ps)++[(32:UInt8)]).length+(1:Nat)≤(9223372036854775807:Nat))∧(((tx++digits (0:Int)++[(32:UInt8)]++digits (Wx d i ps)++[(32:UInt8)]++digits (0:Int)).length+(1:Nat)≤(9223372036854775807:Nat))∧Q (Ex.normal) (some ⟨88,[(9,AV.p (PV.str (tx++digits (0:Int)++[(32:UInt8)]++digits (Wx d i ps)++[(32:UInt8)]++digits (0:Int)++[(10:UInt8)]))),(3,pI d),(10,AV.p (Zd5 i)),(0,AV.p (Zd6 ps))],[],[],[],[]⟩))))
def Zyu(tx:List UInt8):=(tx++digits (0:Int)++[(32:UInt8)]++digits (0:Int)).length+(1:Nat)≤(9223372036854775807:Nat)
def Zyv(tx:List UInt8):=tx++digits (0:Int)++[(32:UInt8)]++digits (0:Int)++[(32:UInt8)]
def Zyw(tx:List UInt8)(d:Int)(i:Int)(ps:List Pixel)(Q:Ex→Option St→Prop):Prop:=(Zyu tx)∧(Zh6∧(((Zyv tx).length+(1:Nat)≤(9223372036854775807:Nat))∧(((tx++digits (0:Int)++[(32:UInt8)]++digits (0:Int)++[(32:UInt8)]++digits (0:Int)).length+(1:Nat)≤(9223372036854775807:Nat))∧Q (Ex.normal) (some ⟨88,[(9,AV.p (PV.str (tx++digits (0:Int)++[(32:UInt8)]++digits (0:Int)++[(32:UInt8)]++digits (0:Int)++[(10:UInt8)]))),(3,pI d),(10,AV.p (Zd5 i)),(0,AV.p (Zd6 ps))],[],[],[],[]⟩))))
def Z4a(tx:List UInt8)(d:Int)(i:Int)(ps:List Pixel)(Q:Ex→Option St→Prop):Prop:=(Zyr tx)∧(Zh6∧(((tx++digits (0:Int)++[(32:UInt8)]).length+(1:Nat)≤(9223372036854775807:Nat))∧(bif decide (d≥(1:Int)) then (bif decide (d≤(16:Int)) then ((JW i ps)∧(Zd4∧((JW i ps)∧(Zd4∧((Zmm i ps)∧((Zyu tx)∧((Zmn d i ps)∧(((Zyv tx).length+(digits (JD d i ps)).length≤(9223372036854775807:Nat))∧(((tx++digits (0:Int)++[(32:UInt8)]++digits (0:Int)++[(32:UInt8)]++digits (JD d i ps)).length+(1:Nat)≤(9223372036854775807:Nat))∧Q (Ex.normal) (some ⟨88,[(9,AV.p (PV.str (tx++digits (0:Int)++[(32:UInt8)]++digits (0:Int)++[(32:UInt8)]++digits (JD d i ps)++[(10:UInt8)]))),(3,pI d),(10,AV.p (Zd5 i)),(0,AV.p (Zd6 ps))],[],[],[],[]⟩)))))))))) else (Zyw tx d i ps Q)) else (Zyw tx d i ps Q))))
def Z4b(tx:List UInt8)(d:Int)(i:Int)(ps:List Pixel)(Q:Ex→Option St→Prop):Prop:=Zh6∧((tx.length+(1:Nat)≤(9223372036854775807:Nat))∧(bif decide (d≥(1:Int)) then (bif decide (d≤(16:Int)) then ((JW i ps)∧(Zml∧((JW i ps)∧(Zml∧((Zyq i ps)∧((Zyr tx)∧((Zys d i ps)∧(((tx++digits (0:Int)++[(32:UInt8)]).length+(digits (Wx d i ps)).length≤(9223372036854775807:Nat))∧(bif decide (d≥(1:Int)) then (bif decide (d≤(16:Int)) then ((JW i ps)∧(Zd4∧((JW i ps)∧(Zd4∧((Zmm i ps)∧(((tx++digits (0:Int)++[(32:UInt8)]++digits (Wx d i ps)).length+(1:Nat)≤(9223372036854775807:Nat))∧((Zmn d i ps)∧(((tx++digits (0:Int)++[(32:UInt8)]++digits (Wx d i ps)++[(32:UInt8)]).length+(digits (JD d i ps)).length≤(9223372036854775807:Nat))∧(((tx++digits (0:Int)++[(32:UInt8)]++digits (Wx d i ps)++[(32:UInt8)]++digits (JD d i ps)).length+(1:Nat)≤(9223372036854775807:Nat))∧Q (Ex.normal) (some ⟨88,[(9,AV.p (PV.str (tx++digits (0:Int)++[(32:UInt8)]++digits (Wx d i ps)++[(32:UInt8)]++digits (JD d i ps)++[(10:UInt8)]))),(3,pI d),(10,AV.p (Zd5 i)),(0,AV.p (Zd6 ps))],[],[],[],[]⟩)))))))))) else (Zyt tx d i ps Q)) else (Zyt tx d i ps Q)))))))))) else (Z4a tx d i ps Q)) else (Z4a tx d i ps Q)))
def ZiC(i:Int)(ps:List Pixel):=intOf ((pB i ps).headD PV.nil)+intOf ((pB i ps).tail.tail.tail.headD PV.nil)
def XW(d:Int)(i:Int)(ps:List Pixel):=floor (IntKind.i64.wrap (ZiC i ps)) (Zes d)
def Zyx(tx:List UInt8)(d:Int)(i:Int)(ps:List Pixel)(Q:Ex→Option St→Prop):Prop:=((tx++digits (XW d i ps)++[(32:UInt8)]++digits (0:Int)).length+(1:Nat)≤(9223372036854775807:Nat))∧(Zh6∧(((tx++digits (XW d i ps)++[(32:UInt8)]++digits (0:Int)++[(32:UInt8)]).length+(1:Nat)≤(9223372036854775807:Nat))∧(((tx++digits (XW d i ps)++[(32:UInt8)]++digits (0:Int)++[(32:UInt8)]++digits (0:Int)).length+(1:Nat)≤(9223372036854775807:Nat))∧Q (Ex.normal) (some ⟨88,[(9,AV.p (PV.str (tx++digits (XW d i ps)++[(32:UInt8)]++digits (0:Int)++[(32:UInt8)]++digits (0:Int)++[(10:UInt8)]))),(3,pI d),(10,AV.p (Zd5 i)),(0,AV.p (Zd6 ps))],[],[],[],[]⟩))))
def Z4c(tx:List UInt8)(d:Int)(i:Int)(ps:List Pixel)(Q:Ex→Option St→Prop):Prop:=((tx++digits (XW d i ps)).length+(1:Nat)≤(9223372036854775807:Nat))∧(Zh6∧(((tx++digits (XW d i ps)++[(32:UInt8)]).length+(1:Nat)≤(9223372036854775807:Nat))∧(bif decide (d≥(1:Int)) then (bif decide (d≤(16:Int)) then ((JW i ps)∧(Zd4∧((JW i ps)∧(Zd4∧((Zmm i ps)∧(((tx++digits (XW d i ps)++[(32:UInt8)]++digits (0:Int)).length+(1:Nat)≤(9223372036854775807:Nat))∧((Zmn d i ps)∧(((tx++digits (XW d i ps)++[(32:UInt8)]++digits (0:Int)++[(32:UInt8)]).length+(digits (JD d i ps)).length≤(9223372036854775807:Nat))∧(((tx++digits (XW d i ps)++[(32:UInt8)]++digits (0:Int)++[(32:UInt8)]++digits (JD d i ps)).length+(1:Nat)≤(9223372036854775807:Nat))∧Q (Ex.normal) (some ⟨88,[(9,AV.p (PV.str (tx++digits (XW d i ps)++[(32:UInt8)]++digits (0:Int)++[(32:UInt8)]++digits (JD d i ps)++[(10:UInt8)]))),(3,pI d),(10,AV.p (Zd5 i)),(0,AV.p (Zd6 ps))],[],[],[],[]⟩)))))))))) else (Zyx tx d i ps Q)) else (Zyx tx d i ps Q))))
def Zyy(tx:List UInt8)(d:Int)(i:Int)(ps:List Pixel)(Q:Ex→Option St→Prop):Prop:=((tx++digits (XW d i ps)++[(32:UInt8)]++digits (Wx d i ps)).length+(1:Nat)≤(9223372036854775807:Nat))∧(Zh6∧(((tx++digits (XW d i ps)++[(32:UInt8)]++digits (Wx d i ps)++[(32:UInt8)]).length+(1:Nat)≤(9223372036854775807:Nat))∧(((tx++digits (XW d i ps)++[(32:UInt8)]++digits (Wx d i ps)++[(32:UInt8)]++digits (0:Int)).length+(1:Nat)≤(9223372036854775807:Nat))∧Q (Ex.normal) (some ⟨88,[(9,AV.p (PV.str (tx++digits (XW d i ps)++[(32:UInt8)]++digits (Wx d i ps)++[(32:UInt8)]++digits (0:Int)++[(10:UInt8)]))),(3,pI d),(10,AV.p (Zd5 i)),(0,AV.p (Zd6 ps))],[],[],[],[]⟩))))
theorem Zyz:CSOk Tryz.prog ZAg:=Za ZuC<|Za ZmU<|Ze
set_option maxHeartbeats 4000000 in
theorem Z4d:Ye Tryz.prog (Zn Tryz.f20 0) ZsY:=by
 refine lsG Zk.Γ (Zw Zk Zyz Z4 Z3 Z7 (LS:=[]) (ZM (l:=[Zn Tryz.f20 1]) (by kernel_rfl) (X8 (i:=9) (by kernel_rfl) rfl (Zr))) (n:=2000) (U4 ZlA) (U4 Zc5) (fun x e s=>(e= .exit 0∧s=U4 Zhv x)) (fun x=>(x.2.2.2.length - x.2.2.1).toNat) ZsX Z2n Z2o (fun x hx=>?_)) cv4 (fun _=>rfl) (fun _ h=>h) (fun _ _ _ _ h f=>fE h f)
 ·obtain ⟨tx,d,i,ps⟩:=x
  simp only[U4,Zc5] at hx
  refine sxT (fun Q=>(bif decide (i < ↑(List.map Pixel.enc ps).length) then (bif decide (d≥(1:Int)) then (bif decide (d≤(16:Int)) then ((JW i ps)∧(((0:Int)≤(0:Int)∧(0:Int) < (3:Int))∧((JW i ps)∧(((0:Int)≤(0:Int)∧(0:Int) < (3:Int))∧(((-4611686018427387904:Int)≤IntKind.i64.wrap (ZiC i ps)∧IntKind.i64.wrap (ZiC i ps)≤(4611686018427387904:Int))∧(((-1000000000000000000:Int)≤floor (IntKind.i64.wrap (ZiC i ps)) (Zes d)∧floor (IntKind.i64.wrap (ZiC i ps)) (Zes d)≤(1000000000000000000:Int))∧((tx.length+(digits (XW d i ps)).length≤(9223372036854775807:Nat))∧(bif decide (d≥(1:Int)) then (bif decide (d≤(16:Int)) then ((JW i ps)∧(Zml∧((JW i ps)∧(Zml∧((Zyq i ps)∧(((tx++digits (XW d i ps)).length+(1:Nat)≤(9223372036854775807:Nat))∧((Zys d i ps)∧(((tx++digits (XW d i ps)++[(32:UInt8)]).length+(digits (Wx d i ps)).length≤(9223372036854775807:Nat))∧(bif decide (d≥(1:Int)) then (bif decide (d≤(16:Int)) then ((JW i ps)∧(Zd4∧((JW i ps)∧(Zd4∧((Zmm i ps)∧(((tx++digits (XW d i ps)++[(32:UInt8)]++digits (Wx d i ps)).length+(1:Nat)≤(9223372036854775807:Nat))∧((Zmn d i ps)∧(((tx++digits (XW d i ps)++[(32:UInt8)]++digits (Wx d i ps)++[(32:UInt8)]).length+(digits (JD d i ps)).length≤(9223372036854775807:Nat))∧(((tx++digits (XW d i ps)++[(32:UInt8)]++digits (Wx d i ps)++[(32:UInt8)]++digits (JD d i ps)).length+(1:Nat)≤(9223372036854775807:Nat))∧Q (Ex.normal) (some ⟨88,[(9,AV.p (PV.str (tx++digits (XW d i ps)++[(32:UInt8)]++digits (Wx d i ps)++[(32:UInt8)]++digits (JD d i ps)++[(10:UInt8)]))),(3,pI d),(10,AV.p (Zd5 i)),(0,AV.p (Zd6 ps))],[],[],[],[]⟩)))))))))) else (Zyy tx d i ps Q)) else (Zyy tx d i ps Q)))))))))) else (Z4c tx d i ps Q)) else (Z4c tx d i ps Q))))))))) else (Z4b tx d i ps Q)) else (Z4b tx d i ps Q)) else Q (Ex.exit (0:Nat)) (some ⟨88,[(9,AV.p (PV.str tx))],[],[],[],[]⟩))) (fun _=>by kernel_rfl) ?_
  delta Z4b Z4c Z4a XW Wx Znm JW Zh6 Zes Zyy Zyt Zyx Zyw ZiB Zmn JD Zmm Zd4 ZiC Zd5 Zd6 Zml Zys Zyq Zyu Zyv Zyr vI pI
  refine Zb (fun h0=>Zb (fun h1=>Zb (fun h2=>⟨?r71,⟨?r70,⟨?r69,⟨?r68,⟨?r67,⟨?r66,⟨?r65,Zb (fun h3=>Zb (fun h4=>⟨?r24,⟨?r23,⟨?r22,⟨?r21,⟨?r20,⟨?r19,⟨?r18,⟨?r17,Zb (fun h5=>Zb (fun h6=>⟨?r8,⟨?r7,⟨?r6,⟨?r5,⟨?r4,⟨?r3,⟨?r2,⟨?r1,⟨?r0, ?_⟩⟩⟩⟩⟩⟩⟩⟩⟩) (fun h6=>⟨?r12,⟨?r11,⟨?r10,⟨?r9, ?_⟩⟩⟩⟩)) (fun h5=>⟨?r16,⟨?r15,⟨?r14,⟨?r13, ?_⟩⟩⟩⟩)⟩⟩⟩⟩⟩⟩⟩⟩) (fun h4=>⟨?r44,⟨?r43,⟨?r42,Zb (fun h5=>Zb (fun h6=>⟨?r33,⟨?r32,⟨?r31,⟨?r30,⟨?r29,⟨?r28,⟨?r27,⟨?r26,⟨?r25, ?_⟩⟩⟩⟩⟩⟩⟩⟩⟩) (fun h6=>⟨?r37,⟨?r36,⟨?r35,⟨?r34, ?_⟩⟩⟩⟩)) (fun h5=>⟨?r41,⟨?r40,⟨?r39,⟨?r38, ?_⟩⟩⟩⟩)⟩⟩⟩)) (fun h3=>⟨?r64,⟨?r63,⟨?r62,Zb (fun h4=>Zb (fun h5=>⟨?r53,⟨?r52,⟨?r51,⟨?r50,⟨?r49,⟨?r48,⟨?r47,⟨?r46,⟨?r45, ?_⟩⟩⟩⟩⟩⟩⟩⟩⟩) (fun h5=>⟨?r57,⟨?r56,⟨?r55,⟨?r54, ?_⟩⟩⟩⟩)) (fun h4=>⟨?r61,⟨?r60,⟨?r59,⟨?r58, ?_⟩⟩⟩⟩)⟩⟩⟩)⟩⟩⟩⟩⟩⟩⟩) (fun h2=>⟨?r138,⟨?r137,Zb (fun h3=>Zb (fun h4=>⟨?r96,⟨?r95,⟨?r94,⟨?r93,⟨?r92,⟨?r91,⟨?r90,⟨?r89,Zb (fun h5=>Zb (fun h6=>⟨?r80,⟨?r79,⟨?r78,⟨?r77,⟨?r76,⟨?r75,⟨?r74,⟨?r73,⟨?r72, ?_⟩⟩⟩⟩⟩⟩⟩⟩⟩) (fun h6=>⟨?r84,⟨?r83,⟨?r82,⟨?r81, ?_⟩⟩⟩⟩)) (fun h5=>⟨?r88,⟨?r87,⟨?r86,⟨?r85, ?_⟩⟩⟩⟩)⟩⟩⟩⟩⟩⟩⟩⟩) (fun h4=>⟨?r116,⟨?r115,⟨?r114,Zb (fun h5=>Zb (fun h6=>⟨?r105,⟨?r104,⟨?r103,⟨?r102,⟨?r101,⟨?r100,⟨?r99,⟨?r98,⟨?r97, ?_⟩⟩⟩⟩⟩⟩⟩⟩⟩) (fun h6=>⟨?r109,⟨?r108,⟨?r107,⟨?r106, ?_⟩⟩⟩⟩)) (fun h5=>⟨?r113,⟨?r112,⟨?r111,⟨?r110, ?_⟩⟩⟩⟩)⟩⟩⟩)) (fun h3=>⟨?r136,⟨?r135,⟨?r134,Zb (fun h4=>Zb (fun h5=>⟨?r125,⟨?r124,⟨?r123,⟨?r122,⟨?r121,⟨?r120,⟨?r119,⟨?r118,⟨?r117, ?_⟩⟩⟩⟩⟩⟩⟩⟩⟩) (fun h5=>⟨?r129,⟨?r128,⟨?r127,⟨?r126, ?_⟩⟩⟩⟩)) (fun h4=>⟨?r133,⟨?r132,⟨?r131,⟨?r130, ?_⟩⟩⟩⟩)⟩⟩⟩)⟩⟩)) (fun h1=>⟨?r205,⟨?r204,Zb (fun h2=>Zb (fun h3=>⟨?r163,⟨?r162,⟨?r161,⟨?r160,⟨?r159,⟨?r158,⟨?r157,⟨?r156,Zb (fun h4=>Zb (fun h5=>⟨?r147,⟨?r146,⟨?r145,⟨?r144,⟨?r143,⟨?r142,⟨?r141,⟨?r140,⟨?r139, ?_⟩⟩⟩⟩⟩⟩⟩⟩⟩) (fun h5=>⟨?r151,⟨?r150,⟨?r149,⟨?r148, ?_⟩⟩⟩⟩)) (fun h4=>⟨?r155,⟨?r154,⟨?r153,⟨?r152, ?_⟩⟩⟩⟩)⟩⟩⟩⟩⟩⟩⟩⟩) (fun h3=>⟨?r183,⟨?r182,⟨?r181,Zb (fun h4=>Zb (fun h5=>⟨?r172,⟨?r171,⟨?r170,⟨?r169,⟨?r168,⟨?r167,⟨?r166,⟨?r165,⟨?r164, ?_⟩⟩⟩⟩⟩⟩⟩⟩⟩) (fun h5=>⟨?r176,⟨?r175,⟨?r174,⟨?r173, ?_⟩⟩⟩⟩)) (fun h4=>⟨?r180,⟨?r179,⟨?r178,⟨?r177, ?_⟩⟩⟩⟩)⟩⟩⟩)) (fun h2=>⟨?r203,⟨?r202,⟨?r201,Zb (fun h3=>Zb (fun h4=>⟨?r192,⟨?r191,⟨?r190,⟨?r189,⟨?r188,⟨?r187,⟨?r186,⟨?r185,⟨?r184, ?_⟩⟩⟩⟩⟩⟩⟩⟩⟩) (fun h4=>⟨?r196,⟨?r195,⟨?r194,⟨?r193, ?_⟩⟩⟩⟩)) (fun h3=>⟨?r200,⟨?r199,⟨?r198,⟨?r197, ?_⟩⟩⟩⟩)⟩⟩⟩)⟩⟩)) (fun h0=>?_)
  case r0|r1|r2|r3|r4|r5|r6|r7|r8|r9|r10|r11|r12|r13|r14|r15|r16|r17|r18|r19|r20|r21|r22|r23|r24|r25|r26|r27|r28|r29|r30|r31|r32|r33|r34|r35|r36|r37|r38|r39|r40|r41|r42|r43|r44|r45|r46|r47|r48|r49|r50|r51|r52|r53|r54|r55|r56|r57|r58|r59|r60|r61|r62|r63|r64|r65|r66|r67|r68|r69|r70|r71|r72|r73|r74|r75|r76|r77|r78|r79|r80|r81|r82|r83|r84|r85|r86|r87|r88|r89|r90|r91|r92|r93|r94|r95|r96|r97|r98|r99|r100|r101|r102|r103|r104|r105|r106|r107|r108|r109|r110|r111|r112|r113|r114|r115|r116|r117|r118|r119|r120|r121|r122|r123|r124|r125|r126|r127|r128|r129|r130|r131|r132|r133|r134|r135|r136|r137|r138|r139|r140|r141|r142|r143|r144|r145|r146|r147|r148|r149|r150|r151|r152|r153|r154|r155|r156|r157|r158|r159|r160|r161|r162|r163|r164|r165|r166|r167|r168|r169|r170|r171|r172|r173|r174|r175|r176|r177|r178|r179|r180|r181|r182|r183|r184|r185|r186|r187|r188|r189|r190|r191|r192|r193|r194|r195|r196|r197|r198|r199|r200|r201|r202|r203|r204|r205=>first | rfl | omega | (rw[ZT];done) | (obtain ⟨⟨a1,a2,a3,a4⟩,a8⟩:=hx;(try simp only[Qk_,Qc_,Qe_] at *);have dz:=ZI 0;(try simp only[Qx_,Qs_,Q1_]);first | omega | exact Z8 (fun _=>rfl) (by omega) (by omega) | (obtain ⟨p,t,e1,e2,e3⟩:=Yf (l:=ps) a1 (by omega);have eA:pB i ps=Pixel.enc p:=Yh e3;have hb:=a8 p (Qz_ e3);have hd:1≤d∧d≤16:=(by omega);have hz:IntKind.i64.wrap (2 *d)=2 *d:=Zg (by constructor<;>omega);have n0:=ZaY hb (show 0≤2 *d by omega) 0;have n1:=ZaY hb (show 0≤2 *d by omega) 1;have n2:=ZaY hb (show 0≤2 *d by omega) 2;have d0:=ZI (Xt p 0 (2 *d));have d1:=ZI (Xt p 1 (2 *d));have d2:=ZI (Xt p 2 (2 *d));obtain ⟨⟨b1,b2,b3⟩,b4,b5,b6⟩:=hb;have q0:IntKind.i64.wrap (intOf (p.enc.headD PV.nil)+intOf (p.enc.tail.tail.tail.headD PV.nil))=p.lo.a+p.hi.a:=Zg (show Fit (p.lo.a+p.hi.a) by constructor<;>omega);have q1:IntKind.i64.wrap (intOf (p.enc.tail.headD PV.nil)+intOf (p.enc.tail.tail.tail.tail.headD PV.nil))=p.lo.b+p.hi.b:=Zg (show Fit (p.lo.b+p.hi.b) by constructor<;>omega);have q2:IntKind.i64.wrap (intOf (p.enc.tail.tail.headD PV.nil)+intOf (p.enc.tail.tail.tail.tail.tail.headD PV.nil))=p.lo.c+p.hi.c:=Zg (show Fit (p.lo.c+p.hi.c) by constructor<;>omega);have f0:∀x,floor (p.lo.a+p.hi.a) x=Xt p 0 x:=fun _=>rfl;have f1:∀x,floor (p.lo.b+p.hi.b) x=Xt p 1 x:=fun _=>rfl;have f2:∀x,floor (p.lo.c+p.hi.c) x=Xt p 2 x:=fun _=>rfl;simp only[eA,q0,q1,q2,hz,f0,f1,f2];omega))
  all_goals obtain ⟨⟨a1,a2,a3,a4⟩,a8⟩:=hx
  all_goals (try simp only[Qk_,Qc_,Qe_] at h0)
  all_goals first | (exfalso;simp only[decide_eq_true_eq,decide_eq_false_iff_not] at *;omega) | (exact .inr ⟨by simp,_,rfl,by trivial,by unfold U4 Zhv;(try dsimp only);rw[List.drop_eq_nil_of_le (by omega)];(simp only[List.map_nil,List.flatten_nil,List.append_nil])<;>rfl⟩) | skip
  all_goals
   obtain ⟨p,t,e1,e2,e3⟩:=Yf (l:=ps) a1 (by omega);have eA:pB i ps=Pixel.enc p:=Yh e3;have hb:=a8 p (Qz_ e3)
   have hw:IntKind.i64.wrap (i+1)=i+1:=Zg (by constructor<;>omega)
   have hl:=ZsC (Zbr d) p
   refine .inl ⟨by trivial,(tx++JN (Zbr d) p,d,IntKind.i64.wrap (i+1),ps), ?_, ?_, ?_, ?_⟩
   ·first
     | (have ht:=Z9R h1 h2
        obtain ⟨⟨b1,b2,b3⟩,b4,b5,b6⟩:=hb
        have hz:IntKind.i64.wrap (2 *d)=2 *d:=(by simp only[Qc_] at h1 h2;exact Zg (by constructor<;>omega))
        have q0:IntKind.i64.wrap (intOf (p.enc.headD PV.nil)+intOf (p.enc.tail.tail.tail.headD PV.nil))=p.lo.a+p.hi.a:=Zg (show Fit (p.lo.a+p.hi.a) by constructor<;>omega);have q1:IntKind.i64.wrap (intOf (p.enc.tail.headD PV.nil)+intOf (p.enc.tail.tail.tail.tail.headD PV.nil))=p.lo.b+p.hi.b:=Zg (show Fit (p.lo.b+p.hi.b) by constructor<;>omega);have q2:IntKind.i64.wrap (intOf (p.enc.tail.tail.headD PV.nil)+intOf (p.enc.tail.tail.tail.tail.tail.headD PV.nil))=p.lo.c+p.hi.c:=Zg (show Fit (p.lo.c+p.hi.c) by constructor<;>omega);have f0:∀x,floor (p.lo.a+p.hi.a) x=Xt p 0 x:=fun _=>rfl;have f1:∀x,floor (p.lo.b+p.hi.b) x=Xt p 1 x:=fun _=>rfl;have f2:∀x,floor (p.lo.c+p.hi.c) x=Xt p 2 x:=fun _=>rfl
        (simp only[U4,ZlA,JN,ht,hz,eA,q0,q1,q2,f0,f1,f2,QB_])<;>rfl)
     | (have ht:Zbr d=0:=(by first | exact Z9S h1 | exact Z9T h2)
        (simp only[U4,ZlA,JN,ht,Z5o,QB_])<;>rfl)
   ·simp only[U4,Zc5,hw,Qx_];exact ⟨⟨by omega,by omega,a3,by omega⟩,a8⟩
   ·simp only[hw];omega
   ·intro e s' hh;refine ⟨hh.1,hh.2.trans ?_⟩;unfold U4 Zhv;(try dsimp only);rw[hw,e1,e2];simp only[List.map_cons,List.flatten_cons,List.append_assoc]
theorem Z6F:ZF Tryz.prog [(6,ZsY)] Tryz.f20:=ZG (l:=[Zn Tryz.f20 0,Zn Tryz.f20 1]) (by kernel_rfl) (Zz (i:=6) (by kernel_rfl) rfl Z4d (X8 (i:=9) (by kernel_rfl) rfl (Zr)))
def ZiD:=[(80:UInt8),(51:UInt8),(10:UInt8)]
def Zy0:=[(10:UInt8),(50:UInt8),(53:UInt8),(53:UInt8),(10:UInt8)]
set_option maxHeartbeats 4000000 in
theorem ZCY:Zh Tryz.prog 20 e20:=Zi<|Zf fun ps=>Zf fun w=>Zf fun h=>Zf fun d=>EZ1 fun hp0=>by
 refine cfL Zyz Z6F rfl ?_
 refine sxT (fun Q=>(bif decide (w < (1:Int)) then Q (PV.str ([])) else (bif decide (w > (16:Int)) then Q (PV.str ([])) else (bif decide (h < (1:Int)) then Q (PV.str ([])) else (bif decide (h > (16:Int)) then Q (PV.str ([])) else (bif ↑(List.map Pixel.enc ps).length !=IntKind.i64.wrap (w *h) then Q (PV.str ([])) else (((-1000000000000000000:Int)≤w∧w≤(1000000000000000000:Int))∧(((3:Nat)+(digits w).length≤(9223372036854775807:Nat))∧(((ZiD++digits w).length+(1:Nat)≤(9223372036854775807:Nat))∧(((-1000000000000000000:Int)≤h∧h≤(1000000000000000000:Int))∧(((ZiD++digits w++[(32:UInt8)]).length+(digits h).length≤(9223372036854775807:Nat))∧(((ZiD++digits w++[(32:UInt8)]++digits h).length+(5:Nat)≤(9223372036854775807:Nat))∧((List.map Pixel.enc ps=List.map Pixel.enc (Zc Pixel.dec (List.map Pixel.enc ps)))∧((Zc5 (ZiD++digits w++[(32:UInt8)]++digits h++Zy0) d (0:Int) (Zc Pixel.dec (List.map Pixel.enc ps)))∧Q (PV.str (ZiD++digits w++[(32:UInt8)]++digits h++Zy0++(List.map (JN (Zbr d)) (List.drop (0:Nat) (Zc Pixel.dec (List.map Pixel.enc ps)))).flatten)))))))))))))))) (fun _=>by kernel_rfl) ?_
 delta Qn ZiD Zy0
 refine Zb (fun h0=>?_) (fun h0=>Zb (fun h1=>?_) (fun h1=>Zb (fun h2=>?_) (fun h2=>Zb (fun h3=>?_) (fun h3=>Zb (fun h4=>?_) (fun h4=>⟨?r6,⟨?r5,⟨?r4,⟨?r3,⟨?r2,⟨?r1,⟨?r0,⟨?_, ?_⟩⟩⟩⟩⟩⟩⟩⟩)))))
 case r0|r1|r2|r3|r4|r5|r6=>first | rfl | omega | (rw[ZT];done) | (obtain ⟨⟨a1,a2,a3,a4⟩,a8⟩:=hx;(try simp only[Qk_,Qc_,Qe_] at *);have dz:=ZI 0;(try simp only[Qx_,Qs_,Q1_]);skip) | (have dw:=ZI w;have dh:=ZI h;(try simp only[Qx_,Qs_,Q1_]);omega) | (simp only[Qc_,Qe_] at *;omega)
 all_goals (have hz:=Z7G w h)
 all_goals first
  | (refine (fun (hs:YU w h=false)=>?_) (hz.trans ?_)
     ·simp only[X0,hs,Qp_,Ql_,Qr_,Qn_,Qu_,Qt_,Qb_,Qd_];rfl
     ·first | (simp only[h0,Qp_,Ql_,Qr_,Qn_,Qu_,Qt_,Qb_,Qd_];done) | (simp only[h0,h1,Qp_,Ql_,Qr_,Qn_,Qu_,Qt_,Qb_,Qd_];done) | (simp only[h0,h1,h2,Qp_,Ql_,Qr_,Qn_,Qu_,Qt_,Qb_,Qd_];done) | (simp only[h0,h1,h2,h3,Qp_,Ql_,Qr_,Qn_,Qu_,Qt_,Qb_,Qd_];done))
  | skip
 all_goals have hs:YU w h=true:=(by rw[hz];simp only[h0,h1,h2,h3,Qp_,Ql_,Qr_,Qn_,Qu_,Qt_,Qb_,Qd_])
 all_goals have ha:=Z06 hs
 all_goals have hw:IntKind.i64.wrap (w *h)=w *h:=Zg (by constructor<;>omega)
 all_goals simp only[hw,Qk_,bne,Qi_,Qf_] at h4
 ·simp only[X0,hs,h4,Qp_,Ql_,Qr_,Qn_,Qu_,Qt_,Qb_,Qd_];rfl
 all_goals have hl:(ps.length:Int)=w *h:=(by simpa using h4)
 all_goals have dw:=ZI w
 all_goals have dh:=ZI h
 all_goals simp only[ZT,QG_,QO_] at *
 ·simp only[Zc5,Qx_,Qs_,Q1_];exact ⟨⟨by omega,by omega,by omega,by omega⟩,hp0⟩
 ·simp only[X0,Zub,hs,h4,Qp_,Ql_,Qr_,Qn_,Qu_,Qt_,Qb_,Qd_,QB_,QS_,QJ_];rfl
def Zf7(i:Int)(a:List Pixel):=(List.map Pixel.enc a).getD i.toNat []
def Zf8(i:Int)(b:List Pixel):=(List.map Pixel.enc b).getD i.toNat []
theorem Zy1:CSOk Tryz.prog (Yy []):=Ze
theorem Z4e:Ye Tryz.prog (Zn Tryz.f49 0) Ztb:=by
 refine lsG Zk.Γ (Zw Zk Zy1 Z4 Z3 Z7 (LS:=[]) (ZM (l:=[]) (by kernel_rfl) Zr) (n:=2000) (U4 Z5G) (U4 Zc6) (fun x e s=>(e= .exit 0∧s=U4 Zta x)) (fun x=>(x.2.2.2 - x.1).toNat) ZsZ Z2p Z2q (fun x hx=>?_)) cv4 (fun _=>rfl) (fun _ h=>h) (fun _ _ _ _ h f=>fE h f)
 ·obtain ⟨i,b,a,n⟩:=x
  simp only[U4,Zc6] at hx
  refine sxT (fun Q=>(bif decide (i < n) then (((0:Int)≤i∧(List.map Pixel.enc a)[i.toNat]?=some (ZJ [vI 0,vI 0,vI 0,vI 0,vI 0,vI 0,vI 0] (Zf7 i a)))∧(((0:Int)≤i∧(List.map Pixel.enc b)[i.toNat]?=some (ZJ [vI 0,vI 0,vI 0,vI 0,vI 0,vI 0,vI 0] (Zf8 i b)))∧(bif !(intOf ((Zf7 i a).headD PV.nil)==intOf ((Zf8 i b).headD PV.nil)&&(intOf ((Zf7 i a).tail.headD PV.nil)==intOf ((Zf8 i b).tail.headD PV.nil)&&(intOf ((Zf7 i a).tail.tail.headD PV.nil)==intOf ((Zf8 i b).tail.tail.headD PV.nil)&&(intOf ((Zf7 i a).tail.tail.tail.headD PV.nil)==intOf ((Zf8 i b).tail.tail.tail.headD PV.nil)&&(intOf ((Zf7 i a).tail.tail.tail.tail.headD PV.nil)==intOf ((Zf8 i b).tail.tail.tail.tail.headD PV.nil)&&(intOf ((Zf7 i a).tail.tail.tail.tail.tail.headD PV.nil)==intOf ((Zf8 i b).tail.tail.tail.tail.tail.headD PV.nil)&&(intOf ((Zf7 i a).tail.tail.tail.tail.tail.tail.headD PV.nil)==intOf ((Zf8 i b).tail.tail.tail.tail.tail.tail.headD PV.nil)&&true))))))) then Q (Ex.ret) (some ⟨26,[],[],[],[],[]⟩) else Q (Ex.normal) (some ⟨26,[(13,AV.p (vI (IntKind.i64.wrap (i+(1:Int))))),(1,AV.p (PV.lst (List.map Pixel.enc b))),(0,AV.p (PV.lst (List.map Pixel.enc a))),(12,pI n)],[],[],[],[]⟩)))) else Q (Ex.exit (0:Nat)) (some ⟨26,[],[],[],[],[]⟩))) (fun _=>by kernel_rfl) ?_
  delta Zf7 Zf8 vI pI
  refine Zb (fun h0=>⟨?r1,⟨?r0,Zb (fun h1=>?_) (fun h1=>?_)⟩⟩) (fun h0=>?_)
  case r0|r1=>first | rfl | omega | (rw[ZT];done) | (obtain ⟨a1,a2,a3,a4,a5⟩:=hx;subst a5;simp only[Qc_] at h0;exact Z8 (fun _=>rfl) (by omega) (by omega))
  all_goals obtain ⟨a1,a2,a3,a4,a5⟩:=hx
  all_goals subst a5
  all_goals (try simp only[Qc_,Qe_] at h0)
  ·exfalso;simp at h1
  ·have hw:IntKind.i64.wrap (i+1)=i+1:=Zg (by constructor<;>omega)
   refine .inl ⟨by trivial,(IntKind.i64.wrap (i+1),b,b,n),rfl, ?_, ?_, ?_⟩
   ·simp only[U4,Zc6,hw];exact ⟨by omega,by omega,a3,a4,by trivial⟩
   ·simp only[hw];omega
   ·exact fun e s h=>h
  ·exact .inr ⟨by simp,_,rfl,by trivial,rfl⟩
theorem Z6G:ZF Tryz.prog [(5,Ztb)] Tryz.f49:=ZG (l:=[Zn Tryz.f49 0]) (by kernel_rfl) (Zz (i:=5) (by kernel_rfl) rfl Z4e (Zr))
theorem ZCZ:Zh Tryz.prog 49 e49:=Zi<|Zf fun a=>Zf fun b=>EZ1 fun hp0=>by
 refine cfL Zy1 Z6G rfl ?_
 refine sxT (fun Q=>(bif (((List.map Pixel.enc a).length:Nat):Int)!=(((List.map Pixel.enc b).length:Nat):Int) then Q (vB false) else ((List.map Pixel.enc b=List.map Pixel.enc (Zc Pixel.dec (List.map Pixel.enc b)))∧((List.map Pixel.enc a=List.map Pixel.enc (Zc Pixel.dec (List.map Pixel.enc a)))∧((Zc6 (0:Int) (Zc Pixel.dec (List.map Pixel.enc b)) (Zc Pixel.dec (List.map Pixel.enc a)) (((List.map Pixel.enc a).length:Nat):Int))∧Q (vB true)))))) (fun _=>by kernel_rfl) ?_
 delta Qn vB
 refine Zb (fun h0=>?_) (fun h0=>⟨?r1,⟨?r0,⟨?_, ?_⟩⟩⟩)
 case r0|r1=>first | rfl | omega | (rw[ZT];done)
 all_goals obtain ⟨hb,hl⟩:=hp0
 all_goals subst hb
 all_goals simp only[ZT,Qk_] at *
 ·exfalso;simp at h0
 ·simp only[Zc6];exact ⟨by omega,by omega,by trivial,hl,by trivial⟩
 ·rfl
theorem ZDa:Zh Tryz.prog 21 e21:=Zi<|Zf fun a=>Zf fun b=>EZ1 fun hp0=>by
 refine cf0 (Za ZCZ<|Ze) (fn:=Tryz.f21) rfl ?_
 refine sxT (fun Q=>((List.map Pixel.enc a=List.map Pixel.enc (Zc Pixel.dec (List.map Pixel.enc a)))∧((List.map Pixel.enc b=List.map Pixel.enc (Zc Pixel.dec (List.map Pixel.enc b)))∧((Zc Pixel.dec (List.map Pixel.enc b)=Zc Pixel.dec (List.map Pixel.enc a)∧(Zc Pixel.dec (List.map Pixel.enc a)).length≤(1000:Nat))∧Q (vB true))))) (fun _=>by kernel_rfl) ?_
 delta Qn vB
 refine ⟨?r2,⟨?r1,⟨?r0, ?_⟩⟩⟩
 case r0|r1|r2=>first | rfl | omega | (rw[ZT];done) | (simp only[ZT];exact hp0)
 all_goals rfl
def Zf9(i:Int)(b:List Pixel):=(List.map Pixel.enc b).getD i.toNat []
def ZuK(i:Int)(b:List Pixel):=(0:Int)≤i∧(List.map Pixel.enc b)[i.toNat]?=some (ZJ [vI 0,vI 0,vI 0,vI 0,vI 0,vI 0,vI 0] (Zf9 i b))
def ZfA(i:Int)(a:List Pixel):=(List.map Pixel.enc a).getD i.toNat []
theorem Zto:CSOk Tryz.prog (Yy []):=Ze
theorem ZzN:Ye Tryz.prog (Zn Tryz.f19 0) ZpS:=by
 refine lsG Zk.Γ (Zw Zk Zto Z4 Z3 Z7 (LS:=[]) (ZM (l:=[]) (by kernel_rfl) Zr) (n:=2000) (U4 Z2r) (U4 Zbh) (fun x e s=>(e= .exit 0∧s=U4 ZpR x)) (fun x=>(x.2.2.2 - x.1).toNat) ZpQ Zz8 Zz9 (fun x hx=>?_)) cv4 (fun _=>rfl) (fun _ h=>h) (fun _ _ _ _ h f=>fE h f)
 ·obtain ⟨i,b,a,n⟩:=x
  simp only[U4,Zbh] at hx
  refine sxT (fun Q=>(bif decide (i < n) then (((0:Int)≤i∧(List.map Pixel.enc a)[i.toNat]?=some (ZJ [vI 0,vI 0,vI 0,vI 0,vI 0,vI 0,vI 0] (ZfA i a)))∧((ZuK i b)∧((ZuK i b)∧((ZuK i b)∧(bif !(intOf ((ZfA i a).headD PV.nil)==intOf ((Zf9 i b).headD PV.nil)&&(intOf ((ZfA i a).tail.headD PV.nil)==intOf ((Zf9 i b).tail.headD PV.nil)&&(intOf ((ZfA i a).tail.tail.headD PV.nil)==intOf ((Zf9 i b).tail.tail.headD PV.nil)&&(intOf ((ZfA i a).tail.tail.tail.headD PV.nil)==intOf ((Zf9 i b).tail.tail.tail.headD PV.nil)&&(intOf ((ZfA i a).tail.tail.tail.tail.headD PV.nil)==intOf ((Zf9 i b).tail.tail.tail.tail.headD PV.nil)&&(intOf ((ZfA i a).tail.tail.tail.tail.tail.headD PV.nil)==intOf ((Zf9 i b).tail.tail.tail.tail.tail.headD PV.nil)&&(intOf ((ZfA i a).tail.tail.tail.tail.tail.tail.headD PV.nil)==intOf ((Zf9 i b).tail.tail.tail.tail.tail.tail.headD PV.nil)&&true))))))) then Q (Ex.ret) (some ⟨38,[],[],[],[],[]⟩) else Q (Ex.normal) (some ⟨38,[(13,AV.p (vI (IntKind.i64.wrap (i+(1:Int))))),(1,AV.p (PV.lst (List.map Pixel.enc b))),(0,AV.p (PV.lst (List.map Pixel.enc a))),(12,pI n)],[],[],[],[]⟩)))))) else Q (Ex.exit (0:Nat)) (some ⟨38,[],[],[],[],[]⟩))) (fun _=>by kernel_rfl) ?_
  delta ZuK ZfA Zf9 vI pI
  refine Zb (fun h0=>⟨?r3,⟨?r2,⟨?r1,⟨?r0,Zb (fun h1=>?_) (fun h1=>?_)⟩⟩⟩⟩) (fun h0=>?_)
  case r0|r1|r2|r3=>first | rfl | omega | (rw[ZT];done) | (obtain ⟨a1,a2,a3,a4,a5⟩:=hx;subst a5;simp only[Qc_] at h0;exact Z8 (fun _=>rfl) (by omega) (by omega))
  all_goals obtain ⟨a1,a2,a3,a4,a5⟩:=hx
  all_goals subst a5
  all_goals (try simp only[Qc_,Qe_] at h0)
  ·exfalso;simp at h1
  ·have hw:IntKind.i64.wrap (i+1)=i+1:=Zg (by constructor<;>omega)
   refine .inl ⟨by trivial,(IntKind.i64.wrap (i+1),b,b,n),rfl, ?_, ?_, ?_⟩
   ·simp only[U4,Zbh,hw];exact ⟨by omega,by omega,a3,a4,by trivial⟩
   ·simp only[hw];omega
   ·exact fun e s h=>h
  ·exact .inr ⟨by simp,_,rfl,by trivial,rfl⟩
theorem Z4f:ZF Tryz.prog [(5,ZpS)] Tryz.f19:=ZG (l:=[Zn Tryz.f19 0]) (by kernel_rfl) (Zz (i:=5) (by kernel_rfl) rfl ZzN (Zr))
theorem ZDb:Zh Tryz.prog 19 e19:=Zi<|Zf fun a=>Zf fun b=>EZ1 fun hp0=>by
 refine cfL Zto Z4f rfl ?_
 refine sxT (fun Q=>(bif (((List.map Pixel.enc a).length:Nat):Int)!=(((List.map Pixel.enc b).length:Nat):Int) then Q (vB false) else ((List.map Pixel.enc b=List.map Pixel.enc (Zc Pixel.dec (List.map Pixel.enc b)))∧((List.map Pixel.enc a=List.map Pixel.enc (Zc Pixel.dec (List.map Pixel.enc a)))∧((Zbh (0:Int) (Zc Pixel.dec (List.map Pixel.enc b)) (Zc Pixel.dec (List.map Pixel.enc a)) (((List.map Pixel.enc b).length:Nat):Int))∧Q (vB true)))))) (fun _=>by kernel_rfl) ?_
 delta Qn vB
 refine Zb (fun h0=>?_) (fun h0=>⟨?r1,⟨?r0,⟨?_, ?_⟩⟩⟩)
 case r0|r1=>first | rfl | omega | (rw[ZT];done)
 all_goals obtain ⟨hb,hl⟩:=hp0
 all_goals subst hb
 all_goals simp only[ZT,Qk_] at *
 ·exfalso;simp at h0
 ·simp only[Zbh];exact ⟨by omega,by omega,by trivial,hl,by trivial⟩
 ·rfl
def Z6H:=Yy [(9,e9)]
def Z4g(i:Int)(n:Int)(l:List I)(out:List Cx):=List.map Cx.enc out++[[PV.v (Value.complex FloatKind.f64 (FloatKind.f64.nearest (IntKind.i64.wrap (pick (intOf (((List.map I.enc l).getD i.toNat []).headD PV.nil)) (IntKind.i64.wrap ((2:Int)*n)) - n))) (FloatKind.f64.nearest (IntKind.i64.wrap (pick (IntKind.i64.wrap ((intOf (((List.map I.enc l).getD i.toNat []).headD PV.nil)).tdiv (40:Int))) (IntKind.i64.wrap ((2:Int)*n)) - n))))]]
def Z4h(n:Int):=(0:Int) < IntKind.i64.wrap ((2:Int)*n)∧IntKind.i64.wrap ((2:Int)*n)≤(4611686018427387904:Int)
def Z4i(out:List Cx):Option St:=some ⟨43,[(5,AV.p (PV.lst (List.map Cx.enc out)))],[],[],[(Loc.t (nat_lit 5),nat_lit 41)],[]⟩
def Z4j(i:Int)(l:List I):=(0:Int)≤i∧(List.map I.enc l)[i.toNat]?=some (ZJ [vI 0] ((List.map I.enc l).getD i.toNat []))
theorem ZqW:CSOk Tryz.prog Z6H:=Za Zow<|Ze
theorem Zy2:Ye Tryz.prog (Zn Tryz.f10 0) ZhO:=by
 refine lsG Zk.Γ (Zw Zk ZqW Z4 Z3 Z7 (LS:=[]) (ZM (l:=[]) (by kernel_rfl) Zr) (n:=2000) (U4 Zn2) (U4 Zam) (fun x e s=>(e= .exit 0∧s=U4 Zek x)) (fun x=>(5 - x.1).toNat) Zn3 Zw3 Zw4 (fun x hx=>?_)) cv4 (fun _=>rfl) (fun _ h=>h) (fun _ _ _ _ h f=>fE h f)
 ·obtain ⟨i,n,l,out⟩:=x
  simp only[U4,Zam] at hx
  refine sxT (fun Q=>(bif decide (i < ↑(List.map I.enc l).length) then (bif decide (i < (5:Int)) then ((Z4j i l)∧((Z4h n)∧((Z4j i l)∧(((40:Int)≠(0:Int))∧((Z4h n)∧(((0:Nat) < (1:Nat)∧((List.map Cx.enc out).length+(1:Nat))* (16:Nat)≤(140737488355328:Nat)∧Lens (1:Nat) (Z4g i n l out))∧Q (Ex.normal) (some ⟨43,[(6,AV.p (vI (IntKind.i64.wrap (i+(1:Int))))),(1,pI n),(0,AV.p (PV.lst (List.map I.enc l))),(5,AV.p (PV.lst (Z4g i n l out)))],[],[],[(Loc.t (nat_lit 5),nat_lit 41)],[]⟩))))))) else Q (Ex.exit (0:Nat)) (Z4i out)) else Q (Ex.exit (0:Nat)) (Z4i out))) (fun _=>by kernel_rfl) ?_
  delta Z4g Z4h Z4i Z4j vI pI
  refine Zb (fun h0=>Zb (fun h1=>⟨?r5,⟨?r4,⟨?r3,⟨?r2,⟨?r1,⟨?r0, ?_⟩⟩⟩⟩⟩⟩) (fun h1=>?_)) (fun h0=>?_)
  case r0|r1|r2|r3|r4|r5=>first | rfl | omega | (rw[dI];done) | (obtain ⟨a1,a2,a3,a4,a5,a6⟩:=hx;have hz:IntKind.i64.wrap (2 *n)=2 *n:=Zg (by constructor<;>omega);(try simp only[Qk_,Qc_,hz] at *);first | omega | exact Z8 (fun _=>rfl) (by omega) (by omega) | exact ⟨by decide,by omega,Xk (Xb (e:=Cx.enc) (fun _=>rfl) _) rfl⟩)
  all_goals (obtain ⟨a1,a2,a3,a4,a5,a6⟩:=hx;(try simp only[ZnQ,Qk_] at *))
  all_goals (try simp only[Qc_,Qe_] at h0)
  all_goals (try simp only[Qc_,Qe_] at h1)
  all_goals (have hz:IntKind.i64.wrap (2 *n)=2 *n:=Zg (by constructor<;>omega))
  all_goals first
   | (have hw:IntKind.i64.wrap (i+1)=i+1:=Zg (by constructor<;>omega)
      have eb:Zak n (5 - i).toNat l i=Zuc l n i::Zak n (5 - (i+1)).toNat l (i+1):=(by rw[show (5 - i).toNat=(5 - (i+1)).toNat+1 by omega,Zgi,QH_ h0,QH_ h1];rfl)
      refine .inl ⟨by trivial,(IntKind.i64.wrap (i+1),n,l,out++[Zuc l n i]), ?_, ?_, ?_, ?_⟩
      ·simp only[U4,Zn2,QR_,QE_,QN_];rfl
      ·simp only[U4,Zam,hw,Qx_,Qs_,Q1_];exact ⟨by omega,by omega,a3,a4,a5,by omega⟩
      ·simp only[hw];omega
      ·intro e s' h;refine ⟨h.1,h.2.trans ?_⟩;unfold U4 Zek;(try dsimp only);rw[hw,eb];simp only[List.append_assoc,List.cons_append,List.nil_append])
   | (have eb:Zak n (5 - i).toNat l i=[]:=(by
       by_cases hi:i < 5
       ·rw[show (5 - i).toNat=(5 - (i+1)).toNat+1 by omega,Zgi,show (decide (i < (l.length:Int))&&decide (i < 5))=false by simp;omega];rfl
       ·rw[show (5 - i).toNat=0 by omega];rfl)
      exact .inr ⟨by simp,_,rfl,by trivial,by unfold U4 Zek;(try dsimp only);(rw[eb,List.append_nil])<;>rfl⟩)
theorem ZzO:ZF Tryz.prog [(4,ZhO)] Tryz.f10:=ZG (l:=[Zn Tryz.f10 0]) (by kernel_rfl) (Zz (i:=4) (by kernel_rfl) rfl Zy2 (Zr))
theorem ZCo:ZvK Tryz.prog 10 e10 41:=Z07<|Zwl fun l=>Zwl fun n=>ZAI fun hp0=>by
 refine ZsF Zk ZqW Z4 Z3 Z7 (n:=2000) (LS:=[(4,ZhO)]) (fn:=Tryz.f10) rfl ZzO ?_
 refine sxT (fun Q=>((List.map I.enc l=List.map I.enc (Zc I.dec (List.map I.enc l)))∧(([]=List.map Cx.enc (Zc Cx.dec []))∧((Zam (0:Int) n (Zc I.dec (List.map I.enc l)) (Zc Cx.dec []))∧Q (PV.lst (List.map Cx.enc (Zc Cx.dec []++Zak n (5:Nat) (Zc I.dec (List.map I.enc l)) (0:Int)))))))) (fun _=>by kernel_rfl) ?_
 delta Qn
 refine ⟨?r1,⟨?r0,⟨?_, ?_⟩⟩⟩
 case r0|r1=>first | rfl | omega | (rw[dI];done)
 ·simp only[Zam,dI];exact ⟨by omega,by omega,hp0.1,hp0.2.1,hp0.2.2,rfl⟩
 ·simp only[dI];rfl
theorem ZDc:Zh Tryz.prog 10 e10:=fun args r ps h hp=>ZvL (ZCo args r ps h hp)
def ZiE(l:List RawFace):=Zc RawFace.dec (List.map RawFace.enc l)
def ZqX(back:Int):=IntKind.i64.wrap (back.tdiv (3:Int))* (3:Int)
def ZqY(l:List RawFace)(most:Int):=(ZiE l).length≤(140737488355328:Nat)∧(0:Nat)≤(140737488355328:Nat)∧(0:Int)≤most∧most≤(12:Int)
def Zmo(back:Int)(l:List RawFace)(most:Int)(plain:Bool):=ZaX (IntKind.i64.wrap (IntKind.i64.wrap (ZqX back)+(0:Int))) (ZiE l) (Zc I.dec []) most plain
def Zmp(back:Int)(l:List RawFace)(most:Int)(plain:Bool):=ZaX (IntKind.i64.wrap (IntKind.i64.wrap (ZqX back)+(1:Int))) (ZiE l) (Zc I.dec []) most plain
def Zmq(back:Int)(l:List RawFace)(most:Int)(plain:Bool):=ZaX (IntKind.i64.wrap (IntKind.i64.wrap (ZqX back)+(2:Int))) (ZiE l) (Zc I.dec []) most plain
def ZqZ(l:List RawFace):=List.map RawFace.enc l=List.map RawFace.enc (ZiE l)
theorem ZEz:Zh Tryz.prog 7 e7:=Zi<|Zf fun back=>Zf fun l=>Zf fun most=>Zf fun plain=>EZ1 fun hp0=>by
 refine cf0 (Za ZCR<|Ze) (fn:=Tryz.f7) rfl ?_
 refine sxT (fun Q=>(((3:Int)≠(0:Int))∧((ZqZ l)∧(([]=List.map I.enc (Zc I.dec []))∧((ZqY l most)∧(((0:Int)≤(0:Int)∧(0:Int) < (3:Int))∧(((3:Int)≠(0:Int))∧((ZqZ l)∧(([]=List.map I.enc (Zc I.dec []))∧((ZqY l most)∧(((0:Int)≤(1:Int)∧(1:Int) < (3:Int))∧(((3:Int)≠(0:Int))∧((ZqZ l)∧(([]=List.map I.enc (Zc I.dec []))∧((ZqY l most)∧(((0:Int)≤(2:Int)∧(2:Int) < (3:Int))∧Q (PV.agg [PV.lst (List.map Surf.enc (Zmo back l most plain).surfs),vI (Zmo back l most plain).op.lo,vI (Zmo back l most plain).op.hi,vB (Zmo back l most plain).op.no,PV.lst (List.map Surf.enc (Zmp back l most plain).surfs),vI (Zmp back l most plain).op.lo,vI (Zmp back l most plain).op.hi,vB (Zmp back l most plain).op.no,PV.lst (List.map Surf.enc (Zmq back l most plain).surfs),vI (Zmq back l most plain).op.lo,vI (Zmq back l most plain).op.hi,vB (Zmq back l most plain).op.no]))))))))))))))))) (fun _=>by kernel_rfl) ?_
 delta Qn ZiE ZqX ZqY Zmo Zmp Zmq ZqZ vI vB
 refine ⟨?r14,⟨?r13,⟨?r12,⟨?r11,⟨?r10,⟨?r9,⟨?r8,⟨?r7,⟨?r6,⟨?r5,⟨?r4,⟨?r3,⟨?r2,⟨?r1,⟨?r0, ?_⟩⟩⟩⟩⟩⟩⟩⟩⟩⟩⟩⟩⟩⟩⟩
 case r0|r1|r2|r3|r4|r5|r6|r7|r8|r9|r10|r11|r12|r13|r14=>first | rfl | omega | (rw[Wl];done) | (simp only[Wl];exact ⟨hp0.1,by decide,hp0.2⟩)
 all_goals simp only[Wl,show Zc I.dec []=[] from rfl] at *
 all_goals rfl
def Zra:=[[vB false,vB false,vI 0,vI 0,vB false,vI 65536,vI 65536,vB false,vI 0,vI 0,vB false,vI 0,vI 0,vB false,vI 655360,vI 655360,vB false,vI 6553600,vI 6553600,vB false,vI 65536,vI 65536,vB false]]
theorem ZDd:Zh Tryz.prog 23 e23:=Zi<|EZ0<|by
 refine cf0 (Za ZCP<|Za Z2s<|Ze) (fn:=Tryz.f23) rfl ?_
 refine sxT (fun Q=>(([[vI 1]]=List.map I.enc (Zc I.dec [[vI 1]]))∧(((1:Nat)≤(140737488355328:Nat))∧Q (PV.agg [PV.lst (Zra),vI 262144,vI 262144,vB false,PV.lst (Zra),vI 262144,vI 262144,vB false,PV.lst (Zra),vI 262144,vI 262144,vB false])))) (fun _=>by kernel_rfl) ?_
 delta Qn Zra vI vB
 refine ⟨?r1,⟨?r0, ?_⟩⟩
 case r0|r1=>first | rfl | (simp only[Zm,dI,dIv];omega) | (simp[Zc,chunk];done)
 all_goals rfl
theorem ZDe:Zh Tryz.prog 24 e24:=Zi<|EZ0<|by
 refine cf0 Ze (fn:=Tryz.f24) rfl ?_
 refine sxT (fun Q=>Q (PV.lst ([[vI 2,vI 0,vI 0,vI 0,vI 0,vI 50,vI 0,vI 0,vI 0,vI 10,vI 20,vI 30]]))) (fun _=>by kernel_rfl) ?_
 delta Qn vI
 refine ?_
 all_goals rfl
def Zrb:=List.map Surf.enc open3.a.surfs
def Zrc:=Iv.mk (262144:Int) (262144:Int) false
def Zrd:=List.map Surf.enc open3.b.surfs
def Zre:=List.map Surf.enc open3.c.surfs
def q33_1:=S3.mk (SysM.mk (Zc Surf.dec Zrb) Zrc) (SysM.mk (Zc Surf.dec Zrd) Zrc) (SysM.mk (Zc Surf.dec Zre) Zrc)
def ZuL:=Zc Shape.dec (List.map Shape.enc wallL)
def ZuM:=Value.complex FloatKind.f64 (0:Nat) (0:Nat)
def Zy3:=Value.complex FloatKind.f64 (0:Nat) (4607182418800017408:Nat)
def ZuN:=[[PV.v ZuM],[PV.v Zy3]]
def q33_2:=Z0 q33_1 ZuL (1:Int) (1:Int) (1000:Int) (4:Int) (Zc Cx.dec ZuN)
def q33_3:=Ty.mk (0:Nat) (1:Nat) (16:Nat) [PV.v ZuM] [] (0:Nat) (0:Nat)
def Z4k:=[PV.lst Zrb,vI 262144,vI 262144,vB false,PV.lst Zrd,vI 262144,vI 262144,vB false,PV.lst Zre,vI 262144,vI 262144,vB false]
def q33_6:=List.map Pixel.enc (Z0 q33_1 (Zc Shape.dec []) (2:Int) (1:Int) (1000:Int) (4:Int) (Zc Cx.dec [])).fst
def Z4l:=(1:Nat)≤(1000000:Nat)∧(1:Nat)≤(1000000:Nat)∧(1:Nat)≤(1000000:Nat)
def q33_15:=List.map Pixel.enc q33_2.fst
theorem ZE0:Zh Tryz.prog 8 e8:=Zi<|EZ0<|by
 refine cf0 (Za ZDd<|Za Z9d<|Za ZDe<|Za Z9e<|Ze) (fn:=Tryz.f8) rfl ?_
 refine sxT (fun Q=>((Z4k=q33_1.enc)∧(([]=List.map Shape.enc (Zc Shape.dec []))∧(([]=List.map Cx.enc (Zc Cx.dec []))∧(Z4l∧(((0:Nat)≤(1000000:Nat)∧(0:Nat)≤(140737488355328:Nat))∧((Z4k=q33_1.enc)∧((List.map Shape.enc wallL=List.map Shape.enc ZuL)∧((ZuN=List.map Cx.enc (Zc Cx.dec ZuN))∧(Z4l∧(((1:Nat)≤(1000000:Nat)∧(2:Nat)≤(140737488355328:Nat))∧(((0:Int)≤(0:Int)∧q33_6[(0:Nat)]?=some (ZJ [vI 0,vI 0,vI 0,vI 0,vI 0,vI 0,vI 0] (q33_6.getD (0:Nat) [])))∧(((0:Int)≤(0:Int)∧q33_15[(0:Nat)]?=some (ZJ [vI 0,vI 0,vI 0,vI 0,vI 0,vI 0,vI 0] (q33_15.getD (0:Nat) [])))∧((List.map Pixel.enc q33_2.fst=List.map Pixel.enc (Zc Pixel.dec q33_15))∧((∀(p:Pixel),p∈Zc Pixel.dec (List.map Pixel.enc (Z0 (S3.dec (List.map nz1 [PV.lst Zrb,vI open3.a.op.lo,vI open3.a.op.hi,vB open3.a.op.no,PV.lst Zrd,vI open3.b.op.lo,vI open3.b.op.hi,vB open3.b.op.no,PV.lst Zre,vI open3.c.op.lo,vI open3.c.op.hi,vB open3.c.op.no])) ZuL (1:Int) (1:Int) (1000:Int) (4:Int) (Zc Cx.dec (chunk q33_3.size (2:Nat) (lay (lay (reps (2:Nat) q33_3.zero) ((0:Nat)*q33_3.size) (cv ZuM).cells) ((1:Nat)*q33_3.size) (cv Zy3).cells)))).fst)→X4 p)∧Q (vB true)))))))))))))))) (fun _=>by kernel_rfl) ?_
 delta Qn q33_1 q33_2 q33_3 ZuN Z4k q33_6 Z4l ZuM ZuL Zrc Zy3 Zrb Zrd Zre q33_15 vI vB
 refine ⟨?r13,⟨?r12,⟨?r11,⟨?r10,⟨?r9,⟨?r8,⟨?r7,⟨?r6,⟨?r5,⟨?r4,⟨?r3,⟨?r2,⟨?r1,⟨?r0, ?_⟩⟩⟩⟩⟩⟩⟩⟩⟩⟩⟩⟩⟩⟩
 case r0|r1|r2|r3|r4|r5|r6|r7|r8|r9|r10|r11|r12|r13=>first | rfl | omega | (rw[ZT];exact ZsE _ _ _ _ _ _ _) | (refine Z8 (i:=0) (fun _=>rfl) (by omega) ?_;decide+kernel)
 all_goals rfl
def zSy(back:Int)(l:List RawFace)(bend:Int):=Zgj back (Zc RawFace.dec (List.map RawFace.enc l)) (2:Int) (bend.tmod (2:Int)==(0:Int))
def zDr(n:Int)(ds:List I):=Zp7 (Zc I.dec (List.map I.enc ds)) (IntKind.i64.wrap ((1:Int)+pick n (8:Int)))
def zSc(sc:List I):=Zpq (Zc I.dec (List.map I.enc sc))
def z3(back:Int)(l:List RawFace)(bend:Int):=S3.mk (SysM.mk (Zc Surf.dec (List.map Surf.enc (zSy back l bend).a.surfs)) (zSy back l bend).a.op) (SysM.mk (Zc Surf.dec (List.map Surf.enc (zSy back l bend).b.surfs)) (zSy back l bend).b.op) (SysM.mk (Zc Surf.dec (List.map Surf.enc (zSy back l bend).c.surfs)) (zSy back l bend).c.op)
def zTk(n:Int)(ds:List I):=List.take (List.foldl imin (1:Int) [↑(List.map Cx.enc (zDr n ds)).length]).toNat (List.map Cx.enc (zDr n ds))
def Z4m(back:Int)(l:List RawFace)(bend:Int):=[PV.lst (List.map Surf.enc (zSy back l bend).a.surfs),vI (zSy back l bend).a.op.lo,vI (zSy back l bend).a.op.hi,vB (zSy back l bend).a.op.no,PV.lst (List.map Surf.enc (zSy back l bend).b.surfs),vI (zSy back l bend).b.op.lo,vI (zSy back l bend).b.op.hi,vB (zSy back l bend).b.op.no,PV.lst (List.map Surf.enc (zSy back l bend).c.surfs),vI (zSy back l bend).c.op.lo,vI (zSy back l bend).c.op.hi,vB (zSy back l bend).c.op.no]
def ZW(sc:List I):=Zc Shape.dec (List.map Shape.enc (zSc sc))
def Y3(pitch:Int):=IntKind.i64.wrap ((1:Int)+pick pitch (196608:Int))
def Zaf(w:Int):=(1:Int)+pick w (3:Int)
def ZR(w:Int):=IntKind.i64.wrap (Zaf w)
def Yu(n:Int):=IntKind.i64.wrap ((1:Int)+pick n (8:Int))
def Zmr(bn:Int):=Value.complex FloatKind.f64 (FloatKind.f64.nearest bn) (4602678819172646912:Nat)
def JX(n:Int)(ds:List I)(bn:Int):=List.map Cx.enc (zDr n ds)++[[PV.v (Zmr bn)]]
def YE(h:Int):=IntKind.i64.wrap ((1:Int)+pick h (2:Int))
def XN(back:Int)(l:List RawFace)(bend:Int):=(Zc Surf.dec (List.map Surf.enc (zSy back l bend).a.surfs)).length≤(1000000:Nat)∧(Zc Surf.dec (List.map Surf.enc (zSy back l bend).b.surfs)).length≤(1000000:Nat)∧(Zc Surf.dec (List.map Surf.enc (zSy back l bend).c.surfs)).length≤(1000000:Nat)
def ZgK(n:Int)(ds:List I):=List.map Cx.enc (zDr n ds)
def Xg(n:Int)(ds:List I):=Zc Cx.dec (ZgK n ds)
def Zag(sc:List I):=List.map I.enc sc=List.map I.enc (Zc I.dec (List.map I.enc sc))
def Zah(sc:List I):=(Zc I.dec (List.map I.enc sc)).length≤(140737488355328:Nat)
def Xc(back:Int)(l:List RawFace)(bend:Int):=(Z4m back l bend)=(z3 back l bend).enc
def Xd(sc:List I):=List.map Shape.enc (zSc sc)=List.map Shape.enc (ZW sc)
def Jm:=(0:Int) < (20:Int)∧(20:Int)≤(4611686018427387904:Int)
def Zb8(back:Int)(l:List RawFace)(sc:List I)(w:Int)(h:Int)(pitch:Int)(n:Int)(ds:List I)(bend:Int)(bn:Int):=Z0 (z3 back l bend) (ZW sc) (ZR w) (YE h) (Y3 pitch) (Yu n) (Zc Cx.dec (JX n ds bn))
def ZgL(back:Int)(l:List RawFace)(sc:List I)(w:Int)(h:Int)(pitch:Int)(n:Int)(ds:List I)(bend:Int)(bn:Int):=List.map Pixel.enc (Zb8 back l sc w h pitch n ds bend bn).fst=List.map Pixel.enc (Zc Pixel.dec (List.map Pixel.enc (Zb8 back l sc w h pitch n ds bend bn).fst))
def Zy4(back:Int)(l:List RawFace)(sc:List I)(w:Int)(h:Int)(pitch:Int)(n:Int)(ds:List I)(bend:Int)(bn:Int):=Zc Pixel.dec (List.map Pixel.enc (Zb8 back l sc w h pitch n ds bend bn).fst)=Zc Pixel.dec (List.map Pixel.enc (Zb8 back l sc w h pitch n ds bend bn).fst)∧(Zc Pixel.dec (List.map Pixel.enc (Zb8 back l sc w h pitch n ds bend bn).fst)).length≤(1000:Nat)
def Xe(back:Int)(l:List RawFace)(bend:Int):=S3.dec (List.map nz1 (Z4m back l bend))
def q34_53:=Ty.mk (0:Nat) (1:Nat) (16:Nat) [PV.v (Value.complex FloatKind.f64 (0:Nat) (0:Nat))] [] (0:Nat) (0:Nat)
def Zms(n:Int)(ds:List I)(bn:Int):=List.map Cx.enc (zDr n ds)++chunk q34_53.size (1:Nat) (lay (reps (1:Nat) q34_53.zero) ((0:Nat)*q34_53.size) (PV.v (Zmr bn)).cells)
def Yk(bn:Int):=IntKind.i64.wrap (pick bn (20:Int) - (2:Int))
def Zy5(back:Int)(l:List RawFace)(sc:List I)(w:Int)(h:Int)(pitch:Int)(n:Int)(ds:List I)(bend:Int)(bn:Int)(Q:PV→Prop):Prop:=(Zag sc)∧((Zah sc)∧((Xc back l bend)∧((Xd sc)∧((List.map Cx.enc (zDr n ds)++[[PV.v (Zmr bn)]]=List.map Cx.enc (Zc Cx.dec (JX n ds bn)))∧((XN back l bend)∧(((ZW sc).length≤(1000000:Nat)∧(Zc Cx.dec (JX n ds bn)).length≤(140737488355328:Nat))∧((Xc back l bend)∧((Xd sc)∧((List.map Cx.enc (zDr n ds)++[[PV.v (Zmr bn)]]=List.map Cx.enc (Zc Cx.dec (JX n ds bn)))∧((XN back l bend)∧(((ZW sc).length≤(1000000:Nat)∧(Zc Cx.dec (JX n ds bn)).length≤(140737488355328:Nat))∧(Jm∧(bif (Zb8 back l sc w h pitch n ds bend bn).snd==(Zb8 back l sc w h pitch n ds bend bn).snd then ((ZgL back l sc w h pitch n ds bend bn)∧((ZgL back l sc w h pitch n ds bend bn)∧((Zy4 back l sc w h pitch n ds bend bn)∧((ZgL back l sc w h pitch n ds bend bn)∧((∀(p:Pixel),p∈Zc Pixel.dec (List.map Pixel.enc (Z0 (Xe back l bend) (ZW sc) (ZR w) (YE h) (Y3 pitch) (Yu n) (Zc Cx.dec (Zms n ds bn))).fst)→X4 p)∧((ZgL back l sc w h pitch n ds bend bn)∧((∀(p:Pixel),p∈Zc Pixel.dec (List.map Pixel.enc (Z0 (Xe back l bend) (ZW sc) (ZR w) (YE h) (Y3 pitch) (Yu n) (Zc Cx.dec (Zms n ds bn))).fst)→X4 p)∧(bif X0 (Zc Pixel.dec (List.map Pixel.enc (Zb8 back l sc w h pitch n ds bend bn).fst)) (ZR w) (YE h) (Yk bn)==X0 (Zc Pixel.dec (List.map Pixel.enc (Zb8 back l sc w h pitch n ds bend bn).fst)) (ZR w) (YE h) (Yk bn) then ((ZgL back l sc w h pitch n ds bend bn)∧((ZgL back l sc w h pitch n ds bend bn)∧((Zy4 back l sc w h pitch n ds bend bn)∧Q (vB true)))) else Q (vB false))))))))) else Q (vB false))))))))))))))
def ZaM(n:Int)(ds:List I):=List.map Cx.enc (zDr n ds)=List.map Cx.enc (Xg n ds)
def ZaN(sc:List I)(n:Int)(ds:List I):=(ZW sc).length≤(1000000:Nat)∧(Xg n ds).length≤(140737488355328:Nat)
def Zb9(back:Int)(l:List RawFace)(sc:List I)(h:Int)(pitch:Int)(n:Int)(ds:List I)(bend:Int)(bn:Int):=Z0 (z3 back l bend) (ZW sc) (Yk bn) (YE h) (Y3 pitch) (Yu n) (Xg n ds)
def ZgM(back:Int)(l:List RawFace)(sc:List I)(h:Int)(pitch:Int)(n:Int)(ds:List I)(bend:Int)(bn:Int):=List.map Pixel.enc (Zb9 back l sc h pitch n ds bend bn).fst=List.map Pixel.enc (Zc Pixel.dec (List.map Pixel.enc (Zb9 back l sc h pitch n ds bend bn).fst))
def Zy6(back:Int)(l:List RawFace)(sc:List I)(h:Int)(pitch:Int)(n:Int)(ds:List I)(bend:Int)(bn:Int):=Zc Pixel.dec (List.map Pixel.enc (Zb9 back l sc h pitch n ds bend bn).fst)=Zc Pixel.dec (List.map Pixel.enc (Zb9 back l sc h pitch n ds bend bn).fst)∧(Zc Pixel.dec (List.map Pixel.enc (Zb9 back l sc h pitch n ds bend bn).fst)).length≤(1000:Nat)
def Zy7(back:Int)(l:List RawFace)(sc:List I)(h:Int)(pitch:Int)(n:Int)(ds:List I)(bend:Int)(bn:Int)(Q:PV→Prop):Prop:=(Zag sc)∧((Zah sc)∧((Xc back l bend)∧((Xd sc)∧((ZaM n ds)∧((XN back l bend)∧((ZaN sc n ds)∧((Xc back l bend)∧((Xd sc)∧((ZaM n ds)∧((XN back l bend)∧((ZaN sc n ds)∧(Jm∧(bif (Zb9 back l sc h pitch n ds bend bn).snd==(Zb9 back l sc h pitch n ds bend bn).snd then ((ZgM back l sc h pitch n ds bend bn)∧((ZgM back l sc h pitch n ds bend bn)∧((Zy6 back l sc h pitch n ds bend bn)∧((ZgM back l sc h pitch n ds bend bn)∧((∀(p:Pixel),p∈Zc Pixel.dec (List.map Pixel.enc (Z0 (Xe back l bend) (ZW sc) (Yk bn) (YE h) (Y3 pitch) (Yu n) (Xg n ds)).fst)→X4 p)∧((ZgM back l sc h pitch n ds bend bn)∧((∀(p:Pixel),p∈Zc Pixel.dec (List.map Pixel.enc (Z0 (Xe back l bend) (ZW sc) (Yk bn) (YE h) (Y3 pitch) (Yu n) (Xg n ds)).fst)→X4 p)∧(bif X0 (Zc Pixel.dec (List.map Pixel.enc (Zb9 back l sc h pitch n ds bend bn).fst)) (Yk bn) (YE h) (Yk bn)==X0 (Zc Pixel.dec (List.map Pixel.enc (Zb9 back l sc h pitch n ds bend bn).fst)) (Yk bn) (YE h) (Yk bn) then ((ZgM back l sc h pitch n ds bend bn)∧((ZgM back l sc h pitch n ds bend bn)∧((Zy6 back l sc h pitch n ds bend bn)∧Q (vB true)))) else Q (vB false))))))))) else Q (vB false))))))))))))))
def ZgN(bn:Int):=IntKind.i64.wrap (pick bn (20:Int) - (1:Int))
def ZbA(back:Int)(l:List RawFace)(sc:List I)(w:Int)(h:Int)(pitch:Int)(n:Int)(ds:List I)(bend:Int)(bn:Int):=Z0 (z3 back l bend) (ZW sc) (ZR w) (YE h) (Y3 pitch) (ZgN bn) (Xg n ds)
def ZgO(back:Int)(l:List RawFace)(sc:List I)(w:Int)(h:Int)(pitch:Int)(n:Int)(ds:List I)(bend:Int)(bn:Int):=List.map Pixel.enc (ZbA back l sc w h pitch n ds bend bn).fst=List.map Pixel.enc (Zc Pixel.dec (List.map Pixel.enc (ZbA back l sc w h pitch n ds bend bn).fst))
def Zy8(back:Int)(l:List RawFace)(sc:List I)(w:Int)(h:Int)(pitch:Int)(n:Int)(ds:List I)(bend:Int)(bn:Int):=Zc Pixel.dec (List.map Pixel.enc (ZbA back l sc w h pitch n ds bend bn).fst)=Zc Pixel.dec (List.map Pixel.enc (ZbA back l sc w h pitch n ds bend bn).fst)∧(Zc Pixel.dec (List.map Pixel.enc (ZbA back l sc w h pitch n ds bend bn).fst)).length≤(1000:Nat)
def Zy9(back:Int)(l:List RawFace)(sc:List I)(w:Int)(h:Int)(pitch:Int)(n:Int)(ds:List I)(bend:Int)(bn:Int)(Q:PV→Prop):Prop:=(Zag sc)∧((Zah sc)∧((Xc back l bend)∧((Xd sc)∧((ZaM n ds)∧((XN back l bend)∧((ZaN sc n ds)∧((Xc back l bend)∧((Xd sc)∧((ZaM n ds)∧((XN back l bend)∧((ZaN sc n ds)∧(Jm∧(bif (ZbA back l sc w h pitch n ds bend bn).snd==(ZbA back l sc w h pitch n ds bend bn).snd then ((ZgO back l sc w h pitch n ds bend bn)∧((ZgO back l sc w h pitch n ds bend bn)∧((Zy8 back l sc w h pitch n ds bend bn)∧((ZgO back l sc w h pitch n ds bend bn)∧((∀(p:Pixel),p∈Zc Pixel.dec (List.map Pixel.enc (Z0 (Xe back l bend) (ZW sc) (ZR w) (YE h) (Y3 pitch) (ZgN bn) (Xg n ds)).fst)→X4 p)∧((ZgO back l sc w h pitch n ds bend bn)∧((∀(p:Pixel),p∈Zc Pixel.dec (List.map Pixel.enc (Z0 (Xe back l bend) (ZW sc) (ZR w) (YE h) (Y3 pitch) (ZgN bn) (Xg n ds)).fst)→X4 p)∧(bif X0 (Zc Pixel.dec (List.map Pixel.enc (ZbA back l sc w h pitch n ds bend bn).fst)) (ZR w) (YE h) (Yk bn)==X0 (Zc Pixel.dec (List.map Pixel.enc (ZbA back l sc w h pitch n ds bend bn).fst)) (ZR w) (YE h) (Yk bn) then ((ZgO back l sc w h pitch n ds bend bn)∧((ZgO back l sc w h pitch n ds bend bn)∧((Zy8 back l sc w h pitch n ds bend bn)∧Q (vB true)))) else Q (vB false))))))))) else Q (vB false))))))))))))))
def Zmt(n:Int)(ds:List I):=(0:Int)≤List.foldl imin (1:Int) [↑(ZgK n ds).length]∧List.foldl imin (1:Int) [↑(ZgK n ds).length]≤↑(ZgK n ds).length∧Lens (1:Nat) (ZgK n ds)
def WK(n:Int)(ds:List I):=Zc Cx.dec (zTk n ds)
def Zd7(n:Int)(ds:List I):=(zTk n ds)=List.map Cx.enc (WK n ds)
def Zd8(sc:List I)(n:Int)(ds:List I):=(ZW sc).length≤(1000000:Nat)∧(WK n ds).length≤(140737488355328:Nat)
def ZbB(back:Int)(l:List RawFace)(sc:List I)(w:Int)(pitch:Int)(n:Int)(ds:List I)(bend:Int):=Z0 (z3 back l bend) (ZW sc) (ZR w) (1:Int) (Y3 pitch) (Yu n) (WK n ds)
def ZgP(back:Int)(l:List RawFace)(sc:List I)(w:Int)(pitch:Int)(n:Int)(ds:List I)(bend:Int):=List.map Pixel.enc (ZbB back l sc w pitch n ds bend).fst=List.map Pixel.enc (Zc Pixel.dec (List.map Pixel.enc (ZbB back l sc w pitch n ds bend).fst))
def ZyA(back:Int)(l:List RawFace)(sc:List I)(w:Int)(pitch:Int)(n:Int)(ds:List I)(bend:Int):=Zc Pixel.dec (List.map Pixel.enc (ZbB back l sc w pitch n ds bend).fst)=Zc Pixel.dec (List.map Pixel.enc (ZbB back l sc w pitch n ds bend).fst)∧(Zc Pixel.dec (List.map Pixel.enc (ZbB back l sc w pitch n ds bend).fst)).length≤(1000:Nat)
def ZyB(back:Int)(l:List RawFace)(sc:List I)(w:Int)(pitch:Int)(n:Int)(ds:List I)(bend:Int)(bn:Int)(Q:PV→Prop):Prop:=(Zmt n ds)∧((Zag sc)∧((Zah sc)∧((Xc back l bend)∧((Xd sc)∧((Zd7 n ds)∧((XN back l bend)∧((Zd8 sc n ds)∧((Xc back l bend)∧((Xd sc)∧((Zd7 n ds)∧((XN back l bend)∧((Zd8 sc n ds)∧(Jm∧(bif (ZbB back l sc w pitch n ds bend).snd==(ZbB back l sc w pitch n ds bend).snd then ((ZgP back l sc w pitch n ds bend)∧((ZgP back l sc w pitch n ds bend)∧((ZyA back l sc w pitch n ds bend)∧((ZgP back l sc w pitch n ds bend)∧((∀(p:Pixel),p∈Zc Pixel.dec (List.map Pixel.enc (Z0 (Xe back l bend) (ZW sc) (ZR w) (1:Int) (Y3 pitch) (Yu n) (WK n ds)).fst)→X4 p)∧((ZgP back l sc w pitch n ds bend)∧((∀(p:Pixel),p∈Zc Pixel.dec (List.map Pixel.enc (Z0 (Xe back l bend) (ZW sc) (ZR w) (1:Int) (Y3 pitch) (Yu n) (WK n ds)).fst)→X4 p)∧(bif X0 (Zc Pixel.dec (List.map Pixel.enc (ZbB back l sc w pitch n ds bend).fst)) (ZR w) (1:Int) (Yk bn)==X0 (Zc Pixel.dec (List.map Pixel.enc (ZbB back l sc w pitch n ds bend).fst)) (ZR w) (1:Int) (Yk bn) then ((ZgP back l sc w pitch n ds bend)∧((ZgP back l sc w pitch n ds bend)∧((ZyA back l sc w pitch n ds bend)∧Q (vB true)))) else Q (vB false))))))))) else Q (vB false)))))))))))))))
def ZbC(back:Int)(l:List RawFace)(sc:List I)(w:Int)(h:Int)(pitch:Int)(n:Int)(ds:List I)(bend:Int):=List.map Pixel.enc (Z0 (z3 back l bend) (ZW sc) (ZR w) (YE h) (Y3 pitch) (Yu n) (Xg n ds)).fst
def ZgQ(back:Int)(l:List RawFace)(sc:List I)(w:Int)(h:Int)(pitch:Int)(n:Int)(ds:List I)(bend:Int):=List.map Pixel.enc (Z0 (z3 back l bend) (ZW sc) (ZR w) (YE h) (Y3 pitch) (Yu n) (Xg n ds)).fst=List.map Pixel.enc (Zc Pixel.dec (ZbC back l sc w h pitch n ds bend))
def ZyC(back:Int)(l:List RawFace)(sc:List I)(w:Int)(h:Int)(pitch:Int)(n:Int)(ds:List I)(bend:Int)(bn:Int)(Q:PV→Prop):Prop:=(Zag sc)∧((Zah sc)∧((Xc back l bend)∧((Xd sc)∧((ZaM n ds)∧((XN back l bend)∧((ZaN sc n ds)∧((Xc back l bend)∧((Xd sc)∧((ZaM n ds)∧((XN back l bend)∧((ZaN sc n ds)∧(Jm∧(bif (Z0 (z3 back l bend) (ZW sc) (ZR w) (YE h) (Y3 pitch) (Yu n) (Xg n ds)).snd==(Z0 (z3 back l bend) (ZW sc) (ZR w) (YE h) (Y3 pitch) (Yu n) (Xg n ds)).snd then ((ZgQ back l sc w h pitch n ds bend)∧((ZgQ back l sc w h pitch n ds bend)∧((Zc Pixel.dec (ZbC back l sc w h pitch n ds bend)=Zc Pixel.dec (ZbC back l sc w h pitch n ds bend)∧(Zc Pixel.dec (ZbC back l sc w h pitch n ds bend)).length≤(1000:Nat))∧((ZgQ back l sc w h pitch n ds bend)∧((∀(p:Pixel),p∈Zc Pixel.dec (List.map Pixel.enc (Z0 (Xe back l bend) (ZW sc) (ZR w) (YE h) (Y3 pitch) (Yu n) (Xg n ds)).fst)→X4 p)∧((ZgQ back l sc w h pitch n ds bend)∧((∀(p:Pixel),p∈Zc Pixel.dec (List.map Pixel.enc (Z0 (Xe back l bend) (ZW sc) (ZR w) (YE h) (Y3 pitch) (Yu n) (Xg n ds)).fst)→X4 p)∧(bif X0 (Zc Pixel.dec (ZbC back l sc w h pitch n ds bend)) (ZR w) (YE h) (Yk bn)==X0 (Zc Pixel.dec (ZbC back l sc w h pitch n ds bend)) (ZR w) (YE h) (Yk bn) then ((ZgQ back l sc w h pitch n ds bend)∧((ZgQ back l sc w h pitch n ds bend)∧((Zc Pixel.dec (ZbC back l sc w h pitch n ds bend)=Zc Pixel.dec (ZbC back l sc w h pitch n ds bend)∧(Zc Pixel.dec (ZbC back l sc w h pitch n ds bend)).length≤(1000:Nat))∧Q (vB true)))) else Q (vB false))))))))) else Q (vB false))))))))))))))
def ZbD(back:Int)(l:List RawFace)(sc:List I)(w:Int)(pitch:Int)(n:Int)(ds:List I)(bend:Int)(bn:Int):=List.map Pixel.enc (Z0 (z3 back l bend) (ZW sc) (ZR w) bn (Y3 pitch) (Yu n) (Xg n ds)).fst
def ZgR(back:Int)(l:List RawFace)(sc:List I)(w:Int)(pitch:Int)(n:Int)(ds:List I)(bend:Int)(bn:Int):=List.map Pixel.enc (Z0 (z3 back l bend) (ZW sc) (ZR w) bn (Y3 pitch) (Yu n) (Xg n ds)).fst=List.map Pixel.enc (Zc Pixel.dec (ZbD back l sc w pitch n ds bend bn))
def ZyD(back:Int)(l:List RawFace)(sc:List I)(w:Int)(pitch:Int)(n:Int)(ds:List I)(bend:Int)(bn:Int)(Q:PV→Prop):Prop:=(Zag sc)∧((Zah sc)∧((Xc back l bend)∧((Xd sc)∧((ZaM n ds)∧((XN back l bend)∧((ZaN sc n ds)∧((Xc back l bend)∧((Xd sc)∧((ZaM n ds)∧((XN back l bend)∧((ZaN sc n ds)∧(Jm∧(bif (Z0 (z3 back l bend) (ZW sc) (ZR w) bn (Y3 pitch) (Yu n) (Xg n ds)).snd==(Z0 (z3 back l bend) (ZW sc) (ZR w) bn (Y3 pitch) (Yu n) (Xg n ds)).snd then ((ZgR back l sc w pitch n ds bend bn)∧((ZgR back l sc w pitch n ds bend bn)∧((Zc Pixel.dec (ZbD back l sc w pitch n ds bend bn)=Zc Pixel.dec (ZbD back l sc w pitch n ds bend bn)∧(Zc Pixel.dec (ZbD back l sc w pitch n ds bend bn)).length≤(1000:Nat))∧((ZgR back l sc w pitch n ds bend bn)∧((∀(p:Pixel),p∈Zc Pixel.dec (List.map Pixel.enc (Z0 (Xe back l bend) (ZW sc) (ZR w) bn (Y3 pitch) (Yu n) (Xg n ds)).fst)→X4 p)∧((ZgR back l sc w pitch n ds bend bn)∧((∀(p:Pixel),p∈Zc Pixel.dec (List.map Pixel.enc (Z0 (Xe back l bend) (ZW sc) (ZR w) bn (Y3 pitch) (Yu n) (Xg n ds)).fst)→X4 p)∧(bif X0 (Zc Pixel.dec (ZbD back l sc w pitch n ds bend bn)) (ZR w) bn (Yk bn)==X0 (Zc Pixel.dec (ZbD back l sc w pitch n ds bend bn)) (ZR w) bn (Yk bn) then ((ZgR back l sc w pitch n ds bend bn)∧((ZgR back l sc w pitch n ds bend bn)∧((Zc Pixel.dec (ZbD back l sc w pitch n ds bend bn)=Zc Pixel.dec (ZbD back l sc w pitch n ds bend bn)∧(Zc Pixel.dec (ZbD back l sc w pitch n ds bend bn)).length≤(1000:Nat))∧Q (vB true)))) else Q (vB false))))))))) else Q (vB false))))))))))))))
def ZbE(back:Int)(l:List RawFace)(sc:List I)(w:Int)(h:Int)(n:Int)(ds:List I)(bend:Int)(bn:Int):=List.map Pixel.enc (Z0 (z3 back l bend) (ZW sc) (ZR w) (YE h) bn (Yu n) (Xg n ds)).fst
def ZgS(back:Int)(l:List RawFace)(sc:List I)(w:Int)(h:Int)(n:Int)(ds:List I)(bend:Int)(bn:Int):=List.map Pixel.enc (Z0 (z3 back l bend) (ZW sc) (ZR w) (YE h) bn (Yu n) (Xg n ds)).fst=List.map Pixel.enc (Zc Pixel.dec (ZbE back l sc w h n ds bend bn))
def ZyE(back:Int)(l:List RawFace)(sc:List I)(w:Int)(h:Int)(n:Int)(ds:List I)(bend:Int)(bn:Int)(Q:PV→Prop):Prop:=(Zag sc)∧((Zah sc)∧((Xc back l bend)∧((Xd sc)∧((ZaM n ds)∧((XN back l bend)∧((ZaN sc n ds)∧((Xc back l bend)∧((Xd sc)∧((ZaM n ds)∧((XN back l bend)∧((ZaN sc n ds)∧(Jm∧(bif (Z0 (z3 back l bend) (ZW sc) (ZR w) (YE h) bn (Yu n) (Xg n ds)).snd==(Z0 (z3 back l bend) (ZW sc) (ZR w) (YE h) bn (Yu n) (Xg n ds)).snd then ((ZgS back l sc w h n ds bend bn)∧((ZgS back l sc w h n ds bend bn)∧((Zc Pixel.dec (ZbE back l sc w h n ds bend bn)=Zc Pixel.dec (ZbE back l sc w h n ds bend bn)∧(Zc Pixel.dec (ZbE back l sc w h n ds bend bn)).length≤(1000:Nat))∧((ZgS back l sc w h n ds bend bn)∧((∀(p:Pixel),p∈Zc Pixel.dec (List.map Pixel.enc (Z0 (Xe back l bend) (ZW sc) (ZR w) (YE h) bn (Yu n) (Xg n ds)).fst)→X4 p)∧((ZgS back l sc w h n ds bend bn)∧((∀(p:Pixel),p∈Zc Pixel.dec (List.map Pixel.enc (Z0 (Xe back l bend) (ZW sc) (ZR w) (YE h) bn (Yu n) (Xg n ds)).fst)→X4 p)∧(bif X0 (Zc Pixel.dec (ZbE back l sc w h n ds bend bn)) (ZR w) (YE h) (Yk bn)==X0 (Zc Pixel.dec (ZbE back l sc w h n ds bend bn)) (ZR w) (YE h) (Yk bn) then ((ZgS back l sc w h n ds bend bn)∧((ZgS back l sc w h n ds bend bn)∧((Zc Pixel.dec (ZbE back l sc w h n ds bend bn)=Zc Pixel.dec (ZbE back l sc w h n ds bend bn)∧(Zc Pixel.dec (ZbE back l sc w h n ds bend bn)).length≤(1000:Nat))∧Q (vB true)))) else Q (vB false))))))))) else Q (vB false))))))))))))))
def Zmu(n:Int)(ds:List I)(bn:Int):=Zc Cx.dec (List.take (List.foldl imin (1:Int) [↑(JX n ds bn).length]).toNat (JX n ds bn))
def ZbF(back:Int)(l:List RawFace)(sc:List I)(w:Int)(pitch:Int)(n:Int)(ds:List I)(bend:Int)(bn:Int):=Z0 (z3 back l bend) (ZW sc) (ZR w) (1:Int) (Y3 pitch) (Yu n) (Zmu n ds bn)
def ZbG(back:Int)(l:List RawFace)(sc:List I)(w:Int)(pitch:Int)(n:Int)(ds:List I)(bend:Int)(bn:Int):=Z0 (z3 back l bend) (ZW sc) (ZR w) (1:Int) (Y3 pitch) (ZgN bn) (WK n ds)
def ZbH(back:Int)(l:List RawFace)(sc:List I)(pitch:Int)(n:Int)(ds:List I)(bend:Int)(bn:Int):=Z0 (z3 back l bend) (ZW sc) (Yk bn) (1:Int) (Y3 pitch) (Yu n) (WK n ds)
def ZbI(back:Int)(l:List RawFace)(sc:List I)(w:Int)(n:Int)(ds:List I)(bend:Int)(bn:Int):=Z0 (z3 back l bend) (ZW sc) (ZR w) (1:Int) bn (Yu n) (WK n ds)
def ZgT(back:Int)(l:List RawFace)(sc:List I)(pitch:Int)(n:Int)(ds:List I)(bend:Int)(bn:Int):=List.map Pixel.enc (ZbH back l sc pitch n ds bend bn).fst=List.map Pixel.enc (Zc Pixel.dec (List.map Pixel.enc (ZbH back l sc pitch n ds bend bn).fst))
def ZgU(back:Int)(l:List RawFace)(sc:List I)(w:Int)(pitch:Int)(n:Int)(ds:List I)(bend:Int)(bn:Int):=List.map Pixel.enc (ZbG back l sc w pitch n ds bend bn).fst=List.map Pixel.enc (Zc Pixel.dec (List.map Pixel.enc (ZbG back l sc w pitch n ds bend bn).fst))
def ZgV(back:Int)(l:List RawFace)(sc:List I)(w:Int)(pitch:Int)(n:Int)(ds:List I)(bend:Int)(bn:Int):=List.map Pixel.enc (ZbF back l sc w pitch n ds bend bn).fst=List.map Pixel.enc (Zc Pixel.dec (List.map Pixel.enc (ZbF back l sc w pitch n ds bend bn).fst))
def ZgW(back:Int)(l:List RawFace)(sc:List I)(w:Int)(n:Int)(ds:List I)(bend:Int)(bn:Int):=List.map Pixel.enc (ZbI back l sc w n ds bend bn).fst=List.map Pixel.enc (Zc Pixel.dec (List.map Pixel.enc (ZbI back l sc w n ds bend bn).fst))
def ZyF(back:Int)(l:List RawFace)(sc:List I)(pitch:Int)(n:Int)(ds:List I)(bend:Int)(bn:Int):=Zc Pixel.dec (List.map Pixel.enc (ZbH back l sc pitch n ds bend bn).fst)=Zc Pixel.dec (List.map Pixel.enc (ZbH back l sc pitch n ds bend bn).fst)∧(Zc Pixel.dec (List.map Pixel.enc (ZbH back l sc pitch n ds bend bn).fst)).length≤(1000:Nat)
def ZyG(back:Int)(l:List RawFace)(sc:List I)(w:Int)(n:Int)(ds:List I)(bend:Int)(bn:Int):=Zc Pixel.dec (List.map Pixel.enc (ZbI back l sc w n ds bend bn).fst)=Zc Pixel.dec (List.map Pixel.enc (ZbI back l sc w n ds bend bn).fst)∧(Zc Pixel.dec (List.map Pixel.enc (ZbI back l sc w n ds bend bn).fst)).length≤(1000:Nat)
def ZyH(back:Int)(l:List RawFace)(sc:List I)(w:Int)(pitch:Int)(n:Int)(ds:List I)(bend:Int)(bn:Int):=Zc Pixel.dec (List.map Pixel.enc (ZbG back l sc w pitch n ds bend bn).fst)=Zc Pixel.dec (List.map Pixel.enc (ZbG back l sc w pitch n ds bend bn).fst)∧(Zc Pixel.dec (List.map Pixel.enc (ZbG back l sc w pitch n ds bend bn).fst)).length≤(1000:Nat)
def ZyI(back:Int)(l:List RawFace)(sc:List I)(w:Int)(pitch:Int)(n:Int)(ds:List I)(bend:Int)(bn:Int):=Zc Pixel.dec (List.map Pixel.enc (ZbF back l sc w pitch n ds bend bn).fst)=Zc Pixel.dec (List.map Pixel.enc (ZbF back l sc w pitch n ds bend bn).fst)∧(Zc Pixel.dec (List.map Pixel.enc (ZbF back l sc w pitch n ds bend bn).fst)).length≤(1000:Nat)
def ZyJ(n:Int)(ds:List I)(bn:Int):=List.take (List.foldl imin (1:Int) [↑(JX n ds bn).length]).toNat (JX n ds bn)=List.map Cx.enc (Zmu n ds bn)
def ZyK(n:Int)(ds:List I)(bn:Int):=Zc Cx.dec (List.take (List.foldl imin (1:Int) [↑(Zms n ds bn).length]).toNat (Zms n ds bn))
set_option maxHeartbeats 8000000 in
theorem ZzP(back:Int)(l:List RawFace)(sc:List I)(w:Int)(h:Int)(pitch:Int)(n:Int)(ds:List I)(bend:Int)(bn:Int)(hp0:l.length≤140737488355328∧sc.length≤140737488355328∧ds.length≤140737488355328):Con Tryz.prog 6 [.v (.int .i64 back),.lst (l.map RawFace.enc),.lst (sc.map I.enc),.v (.int .i64 w),.v (.int .i64 h),.v (.int .i64 pitch),.v (.int .i64 n),.lst (ds.map I.enc),.v (.int .i64 bend),.v (.int .i64 bn)] (.v (.bool true)):=by
 refine Zcj Zk (Za ZEz<|Za Zow<|Za ZDc<|Za ZC6<|Za Z9d<|Za ZCW<|Za ZE0<|Za ZDb<|Za Z9e<|Za ZCY<|Za ZDa<|Ze) Z4 Z3 (Zif (G:=(Gx.mk [] [] [(10,41)] [] [])) (Z7y (g:=e10) rfl ZCo<|Zie) (Zid)) (n:=2000) (LS:=[]) (fn:=Tryz.f6) rfl Zaj ?_
 refine sxT (fun Q=>(((2:Int)≠(0:Int))∧((List.map RawFace.enc l=List.map RawFace.enc (Zc RawFace.dec (List.map RawFace.enc l)))∧(((Zc RawFace.dec (List.map RawFace.enc l)).length≤(140737488355328:Nat)∧(0:Int)≤(2:Int)∧(2:Int)≤(12:Int))∧(((0:Int) < (8:Int)∧(8:Int)≤(4611686018427387904:Int))∧((List.map I.enc ds=List.map I.enc (Zc I.dec (List.map I.enc ds)))∧(((Zc I.dec (List.map I.enc ds)).length≤(140737488355328:Nat)∧(1:Int)≤IntKind.i64.wrap ((1:Int)+pick n (8:Int))∧IntKind.i64.wrap ((1:Int)+pick n (8:Int))≤(8:Int))∧(((0:Int) < (3:Int)∧(3:Int)≤(4611686018427387904:Int))∧(((0:Int) < (2:Int)∧(2:Int)≤(4611686018427387904:Int))∧(((0:Int) < (196608:Int)∧(196608:Int)≤(4611686018427387904:Int))∧(((0:Int) < (11:Int)∧(11:Int)≤(4611686018427387904:Int))∧(bif pick bend (11:Int)==(6:Int) then (Jm∧(bif decide (IntKind.i64.wrap (pick bn (20:Int) - (2:Int)) > (4:Int)) then (bif decide (IntKind.i64.wrap (pick bn (20:Int) - (2:Int))≤(16:Int)) then ((Zmt n ds)∧((Zag sc)∧((Zah sc)∧((Xc back l bend)∧((Xd sc)∧((Zd7 n ds)∧((XN back l bend)∧((Zd8 sc n ds)∧((Xc back l bend)∧((Xd sc)∧((Zd7 n ds)∧((XN back l bend)∧((Zd8 sc n ds)∧(Jm∧(bif (ZbH back l sc pitch n ds bend bn).snd==(ZbH back l sc pitch n ds bend bn).snd then ((ZgT back l sc pitch n ds bend bn)∧((ZgT back l sc pitch n ds bend bn)∧((ZyF back l sc pitch n ds bend bn)∧((ZgT back l sc pitch n ds bend bn)∧((∀(p:Pixel),p∈Zc Pixel.dec (List.map Pixel.enc (Z0 (Xe back l bend) (ZW sc) (Yk bn) (1:Int) (Y3 pitch) (Yu n) (WK n ds)).fst)→X4 p)∧((ZgT back l sc pitch n ds bend bn)∧((∀(p:Pixel),p∈Zc Pixel.dec (List.map Pixel.enc (Z0 (Xe back l bend) (ZW sc) (Yk bn) (1:Int) (Y3 pitch) (Yu n) (WK n ds)).fst)→X4 p)∧(bif X0 (Zc Pixel.dec (List.map Pixel.enc (ZbH back l sc pitch n ds bend bn).fst)) (Yk bn) (1:Int) (Yk bn)==X0 (Zc Pixel.dec (List.map Pixel.enc (ZbH back l sc pitch n ds bend bn).fst)) (Yk bn) (1:Int) (Yk bn) then ((ZgT back l sc pitch n ds bend bn)∧((ZgT back l sc pitch n ds bend bn)∧((ZyF back l sc pitch n ds bend bn)∧Q (vB true)))) else Q (vB false))))))))) else Q (vB false)))))))))))))))) else (Zy7 back l sc h pitch n ds bend bn Q)) else (Zy7 back l sc h pitch n ds bend bn Q))) else (bif pick bend (11:Int)==(7:Int) then (bif decide (IntKind.i64.wrap (Zaf w) > (4:Int)) then (bif decide (IntKind.i64.wrap (Zaf w)≤(16:Int)) then ((Zmt n ds)∧((Zag sc)∧((Zah sc)∧((Xc back l bend)∧((Xd sc)∧((Zd7 n ds)∧((XN back l bend)∧((Zd8 sc n ds)∧((Xc back l bend)∧((Xd sc)∧((Zd7 n ds)∧((XN back l bend)∧((Zd8 sc n ds)∧(Jm∧(bif (ZbI back l sc w n ds bend bn).snd==(ZbI back l sc w n ds bend bn).snd then ((ZgW back l sc w n ds bend bn)∧((ZgW back l sc w n ds bend bn)∧((ZyG back l sc w n ds bend bn)∧((ZgW back l sc w n ds bend bn)∧((∀(p:Pixel),p∈Zc Pixel.dec (List.map Pixel.enc (Z0 (Xe back l bend) (ZW sc) (ZR w) (1:Int) bn (Yu n) (WK n ds)).fst)→X4 p)∧((ZgW back l sc w n ds bend bn)∧((∀(p:Pixel),p∈Zc Pixel.dec (List.map Pixel.enc (Z0 (Xe back l bend) (ZW sc) (ZR w) (1:Int) bn (Yu n) (WK n ds)).fst)→X4 p)∧(bif X0 (Zc Pixel.dec (List.map Pixel.enc (ZbI back l sc w n ds bend bn).fst)) (ZR w) (1:Int) (Yk bn)==X0 (Zc Pixel.dec (List.map Pixel.enc (ZbI back l sc w n ds bend bn).fst)) (ZR w) (1:Int) (Yk bn) then ((ZgW back l sc w n ds bend bn)∧((ZgW back l sc w n ds bend bn)∧((ZyG back l sc w n ds bend bn)∧Q (vB true)))) else Q (vB false))))))))) else Q (vB false)))))))))))))))) else (ZyE back l sc w h n ds bend bn Q)) else (ZyE back l sc w h n ds bend bn Q)) else (bif pick bend (11:Int)==(8:Int) then (Jm∧(bif decide (IntKind.i64.wrap (Zaf w) > (4:Int)) then (bif decide (IntKind.i64.wrap (Zaf w)≤(16:Int)) then ((Zmt n ds)∧((Zag sc)∧((Zah sc)∧((Xc back l bend)∧((Xd sc)∧((Zd7 n ds)∧((XN back l bend)∧((Zd8 sc n ds)∧((Xc back l bend)∧((Xd sc)∧((Zd7 n ds)∧((XN back l bend)∧((Zd8 sc n ds)∧(Jm∧(bif (ZbG back l sc w pitch n ds bend bn).snd==(ZbG back l sc w pitch n ds bend bn).snd then ((ZgU back l sc w pitch n ds bend bn)∧((ZgU back l sc w pitch n ds bend bn)∧((ZyH back l sc w pitch n ds bend bn)∧((ZgU back l sc w pitch n ds bend bn)∧((∀(p:Pixel),p∈Zc Pixel.dec (List.map Pixel.enc (Z0 (Xe back l bend) (ZW sc) (ZR w) (1:Int) (Y3 pitch) (ZgN bn) (WK n ds)).fst)→X4 p)∧((ZgU back l sc w pitch n ds bend bn)∧((∀(p:Pixel),p∈Zc Pixel.dec (List.map Pixel.enc (Z0 (Xe back l bend) (ZW sc) (ZR w) (1:Int) (Y3 pitch) (ZgN bn) (WK n ds)).fst)→X4 p)∧(bif X0 (Zc Pixel.dec (List.map Pixel.enc (ZbG back l sc w pitch n ds bend bn).fst)) (ZR w) (1:Int) (Yk bn)==X0 (Zc Pixel.dec (List.map Pixel.enc (ZbG back l sc w pitch n ds bend bn).fst)) (ZR w) (1:Int) (Yk bn) then ((ZgU back l sc w pitch n ds bend bn)∧((ZgU back l sc w pitch n ds bend bn)∧((ZyH back l sc w pitch n ds bend bn)∧Q (vB true)))) else Q (vB false))))))))) else Q (vB false)))))))))))))))) else (Zy9 back l sc w h pitch n ds bend bn Q)) else (Zy9 back l sc w h pitch n ds bend bn Q))) else (bif pick bend (11:Int)==(9:Int) then (((0:Nat) < (1:Nat)∧((ZgK n ds).length+(1:Nat))* (16:Nat)≤(140737488355328:Nat)∧Lens (1:Nat) (JX n ds bn))∧(bif decide (IntKind.i64.wrap (Zaf w) > (4:Int)) then (bif decide (IntKind.i64.wrap (Zaf w)≤(16:Int)) then (((0:Int)≤List.foldl imin (1:Int) [↑(JX n ds bn).length]∧List.foldl imin (1:Int) [↑(JX n ds bn).length]≤↑(JX n ds bn).length∧Lens (1:Nat) (JX n ds bn))∧((Zag sc)∧((Zah sc)∧((Xc back l bend)∧((Xd sc)∧((ZyJ n ds bn)∧((XN back l bend)∧(((ZW sc).length≤(1000000:Nat)∧(Zmu n ds bn).length≤(140737488355328:Nat))∧((Xc back l bend)∧((Xd sc)∧((ZyJ n ds bn)∧((XN back l bend)∧(((ZW sc).length≤(1000000:Nat)∧(Zmu n ds bn).length≤(140737488355328:Nat))∧(Jm∧(bif (ZbF back l sc w pitch n ds bend bn).snd==(ZbF back l sc w pitch n ds bend bn).snd then ((ZgV back l sc w pitch n ds bend bn)∧((ZgV back l sc w pitch n ds bend bn)∧((ZyI back l sc w pitch n ds bend bn)∧((ZgV back l sc w pitch n ds bend bn)∧((∀(p:Pixel),p∈Zc Pixel.dec (List.map Pixel.enc (Z0 (Xe back l bend) (ZW sc) (ZR w) (1:Int) (Y3 pitch) (Yu n) (ZyK n ds bn)).fst)→X4 p)∧((ZgV back l sc w pitch n ds bend bn)∧((∀(p:Pixel),p∈Zc Pixel.dec (List.map Pixel.enc (Z0 (Xe back l bend) (ZW sc) (ZR w) (1:Int) (Y3 pitch) (Yu n) (ZyK n ds bn)).fst)→X4 p)∧(bif X0 (Zc Pixel.dec (List.map Pixel.enc (ZbF back l sc w pitch n ds bend bn).fst)) (ZR w) (1:Int) (Yk bn)==X0 (Zc Pixel.dec (List.map Pixel.enc (ZbF back l sc w pitch n ds bend bn).fst)) (ZR w) (1:Int) (Yk bn) then ((ZgV back l sc w pitch n ds bend bn)∧((ZgV back l sc w pitch n ds bend bn)∧((ZyI back l sc w pitch n ds bend bn)∧Q (vB true)))) else Q (vB false))))))))) else Q (vB false)))))))))))))))) else (Zy5 back l sc w h pitch n ds bend bn Q)) else (Zy5 back l sc w h pitch n ds bend bn Q))) else (bif pick bend (11:Int)==(10:Int) then (bif decide (IntKind.i64.wrap (Zaf w) > (4:Int)) then (bif decide (IntKind.i64.wrap (Zaf w)≤(16:Int)) then (ZyB back l sc w pitch n ds bend bn Q) else (ZyD back l sc w pitch n ds bend bn Q)) else (ZyD back l sc w pitch n ds bend bn Q)) else (bif decide (IntKind.i64.wrap (Zaf w) > (4:Int)) then (bif decide (IntKind.i64.wrap (Zaf w)≤(16:Int)) then (ZyB back l sc w pitch n ds bend bn Q) else (ZyC back l sc w h pitch n ds bend bn Q)) else (ZyC back l sc w h pitch n ds bend bn Q)))))))))))))))))) (fun _=>by kernel_rfl) ?_
 delta Qn Z4m ZW Y3 ZR Yu JX YE XN Xg Zy5 Zy7 Zy9 ZyB ZyC ZyD ZyE Yk ZbF Zms ZbG ZbA ZbH ZbB Zb8 ZbI Zb9 Xd ZgQ ZgR ZgS Jm Zmt ZaN Zag Zah Zd8 ZbC ZgT ZgU ZgV ZgM ZgP ZgL ZgO ZgW Xc ZbE Xe ZbD ZaM Zmu Zd7 q34_53 Zmr Zaf ZgN WK ZyF ZyG ZyA ZyH ZyI Zy6 Zy4 Zy8 ZyJ ZgK ZyK vI vB
 have r1:zDr n ds=Zp7 ds (IntKind.i64.wrap (1+pick n 8)):=by unfold zDr;rw[dI]
 have r2:zSc sc=Zpq sc:=by unfold zSc;rw[dI]
 have r3:z3 back l bend=zSy back l bend:=by unfold z3;rw[Zu,Zu,Zu]
 have k1:(zSy back l bend).a.surfs.length≤12∧(zSy back l bend).b.surfs.length≤12∧(zSy back l bend).c.surfs.length≤12:=Zzp _ _ _ _
 have k2:(zDr n ds).length≤5:=Z1Q _ _
 have k3:(zSc sc).length≤5:=Z1D _
 have k4:(zTk n ds).length≤5:=(by unfold zTk;rw[K4_,Qk_];omega)
 have k5:=Zcu (n:=n) (m:=8) (by omega)
 refine ⟨?r432,⟨?r431,⟨?r430,⟨?r429,⟨?r428,⟨?r427,⟨?r426,⟨?r425,⟨?r424,⟨?r423,Zb (fun h0=>⟨?r70,Zb (fun h1=>Zb (fun h2=>⟨?r23,⟨?r22,⟨?r21,⟨?r20,⟨?r19,⟨?r18,⟨?r17,⟨?r16,⟨?r15,⟨?r14,⟨?r13,⟨?r12,⟨?r11,⟨?r10,Zb (fun h3=>⟨?r9,⟨?r8,⟨?r7,⟨?r6,⟨?r5,⟨?r4,⟨?r3,Zb (fun h4=>⟨?r2,⟨?r1,⟨?r0, ?_⟩⟩⟩) (fun h4=>?_)⟩⟩⟩⟩⟩⟩⟩) (fun h3=>?_)⟩⟩⟩⟩⟩⟩⟩⟩⟩⟩⟩⟩⟩⟩) (fun h2=>⟨?r46,⟨?r45,⟨?r44,⟨?r43,⟨?r42,⟨?r41,⟨?r40,⟨?r39,⟨?r38,⟨?r37,⟨?r36,⟨?r35,⟨?r34,Zb (fun h3=>⟨?r33,⟨?r32,⟨?r31,⟨?r30,⟨?r29,⟨?r28,⟨?r27,Zb (fun h4=>⟨?r26,⟨?r25,⟨?r24, ?_⟩⟩⟩) (fun h4=>?_)⟩⟩⟩⟩⟩⟩⟩) (fun h3=>?_)⟩⟩⟩⟩⟩⟩⟩⟩⟩⟩⟩⟩⟩)) (fun h1=>⟨?r69,⟨?r68,⟨?r67,⟨?r66,⟨?r65,⟨?r64,⟨?r63,⟨?r62,⟨?r61,⟨?r60,⟨?r59,⟨?r58,⟨?r57,Zb (fun h2=>⟨?r56,⟨?r55,⟨?r54,⟨?r53,⟨?r52,⟨?r51,⟨?r50,Zb (fun h3=>⟨?r49,⟨?r48,⟨?r47, ?_⟩⟩⟩) (fun h3=>?_)⟩⟩⟩⟩⟩⟩⟩) (fun h2=>?_)⟩⟩⟩⟩⟩⟩⟩⟩⟩⟩⟩⟩⟩)⟩) (fun h0=>Zb (fun h1=>Zb (fun h2=>Zb (fun h3=>⟨?r94,⟨?r93,⟨?r92,⟨?r91,⟨?r90,⟨?r89,⟨?r88,⟨?r87,⟨?r86,⟨?r85,⟨?r84,⟨?r83,⟨?r82,⟨?r81,Zb (fun h4=>⟨?r80,⟨?r79,⟨?r78,⟨?r77,⟨?r76,⟨?r75,⟨?r74,Zb (fun h5=>⟨?r73,⟨?r72,⟨?r71, ?_⟩⟩⟩) (fun h5=>?_)⟩⟩⟩⟩⟩⟩⟩) (fun h4=>?_)⟩⟩⟩⟩⟩⟩⟩⟩⟩⟩⟩⟩⟩⟩) (fun h3=>⟨?r117,⟨?r116,⟨?r115,⟨?r114,⟨?r113,⟨?r112,⟨?r111,⟨?r110,⟨?r109,⟨?r108,⟨?r107,⟨?r106,⟨?r105,Zb (fun h4=>⟨?r104,⟨?r103,⟨?r102,⟨?r101,⟨?r100,⟨?r99,⟨?r98,Zb (fun h5=>⟨?r97,⟨?r96,⟨?r95, ?_⟩⟩⟩) (fun h5=>?_)⟩⟩⟩⟩⟩⟩⟩) (fun h4=>?_)⟩⟩⟩⟩⟩⟩⟩⟩⟩⟩⟩⟩⟩)) (fun h2=>⟨?r140,⟨?r139,⟨?r138,⟨?r137,⟨?r136,⟨?r135,⟨?r134,⟨?r133,⟨?r132,⟨?r131,⟨?r130,⟨?r129,⟨?r128,Zb (fun h3=>⟨?r127,⟨?r126,⟨?r125,⟨?r124,⟨?r123,⟨?r122,⟨?r121,Zb (fun h4=>⟨?r120,⟨?r119,⟨?r118, ?_⟩⟩⟩) (fun h4=>?_)⟩⟩⟩⟩⟩⟩⟩) (fun h3=>?_)⟩⟩⟩⟩⟩⟩⟩⟩⟩⟩⟩⟩⟩)) (fun h1=>Zb (fun h2=>⟨?r211,Zb (fun h3=>Zb (fun h4=>⟨?r164,⟨?r163,⟨?r162,⟨?r161,⟨?r160,⟨?r159,⟨?r158,⟨?r157,⟨?r156,⟨?r155,⟨?r154,⟨?r153,⟨?r152,⟨?r151,Zb (fun h5=>⟨?r150,⟨?r149,⟨?r148,⟨?r147,⟨?r146,⟨?r145,⟨?r144,Zb (fun h6=>⟨?r143,⟨?r142,⟨?r141, ?_⟩⟩⟩) (fun h6=>?_)⟩⟩⟩⟩⟩⟩⟩) (fun h5=>?_)⟩⟩⟩⟩⟩⟩⟩⟩⟩⟩⟩⟩⟩⟩) (fun h4=>⟨?r187,⟨?r186,⟨?r185,⟨?r184,⟨?r183,⟨?r182,⟨?r181,⟨?r180,⟨?r179,⟨?r178,⟨?r177,⟨?r176,⟨?r175,Zb (fun h5=>⟨?r174,⟨?r173,⟨?r172,⟨?r171,⟨?r170,⟨?r169,⟨?r168,Zb (fun h6=>⟨?r167,⟨?r166,⟨?r165, ?_⟩⟩⟩) (fun h6=>?_)⟩⟩⟩⟩⟩⟩⟩) (fun h5=>?_)⟩⟩⟩⟩⟩⟩⟩⟩⟩⟩⟩⟩⟩)) (fun h3=>⟨?r210,⟨?r209,⟨?r208,⟨?r207,⟨?r206,⟨?r205,⟨?r204,⟨?r203,⟨?r202,⟨?r201,⟨?r200,⟨?r199,⟨?r198,Zb (fun h4=>⟨?r197,⟨?r196,⟨?r195,⟨?r194,⟨?r193,⟨?r192,⟨?r191,Zb (fun h5=>⟨?r190,⟨?r189,⟨?r188, ?_⟩⟩⟩) (fun h5=>?_)⟩⟩⟩⟩⟩⟩⟩) (fun h4=>?_)⟩⟩⟩⟩⟩⟩⟩⟩⟩⟩⟩⟩⟩)⟩) (fun h2=>Zb (fun h3=>⟨?r282,Zb (fun h4=>Zb (fun h5=>⟨?r235,⟨?r234,⟨?r233,⟨?r232,⟨?r231,⟨?r230,⟨?r229,⟨?r228,⟨?r227,⟨?r226,⟨?r225,⟨?r224,⟨?r223,⟨?r222,Zb (fun h6=>⟨?r221,⟨?r220,⟨?r219,⟨?r218,⟨?r217,⟨?r216,⟨?r215,Zb (fun h7=>⟨?r214,⟨?r213,⟨?r212, ?_⟩⟩⟩) (fun h7=>?_)⟩⟩⟩⟩⟩⟩⟩) (fun h6=>?_)⟩⟩⟩⟩⟩⟩⟩⟩⟩⟩⟩⟩⟩⟩) (fun h5=>⟨?r258,⟨?r257,⟨?r256,⟨?r255,⟨?r254,⟨?r253,⟨?r252,⟨?r251,⟨?r250,⟨?r249,⟨?r248,⟨?r247,⟨?r246,Zb (fun h6=>⟨?r245,⟨?r244,⟨?r243,⟨?r242,⟨?r241,⟨?r240,⟨?r239,Zb (fun h7=>⟨?r238,⟨?r237,⟨?r236, ?_⟩⟩⟩) (fun h7=>?_)⟩⟩⟩⟩⟩⟩⟩) (fun h6=>?_)⟩⟩⟩⟩⟩⟩⟩⟩⟩⟩⟩⟩⟩)) (fun h4=>⟨?r281,⟨?r280,⟨?r279,⟨?r278,⟨?r277,⟨?r276,⟨?r275,⟨?r274,⟨?r273,⟨?r272,⟨?r271,⟨?r270,⟨?r269,Zb (fun h5=>⟨?r268,⟨?r267,⟨?r266,⟨?r265,⟨?r264,⟨?r263,⟨?r262,Zb (fun h6=>⟨?r261,⟨?r260,⟨?r259, ?_⟩⟩⟩) (fun h6=>?_)⟩⟩⟩⟩⟩⟩⟩) (fun h5=>?_)⟩⟩⟩⟩⟩⟩⟩⟩⟩⟩⟩⟩⟩)⟩) (fun h3=>Zb (fun h4=>Zb (fun h5=>Zb (fun h6=>⟨?r306,⟨?r305,⟨?r304,⟨?r303,⟨?r302,⟨?r301,⟨?r300,⟨?r299,⟨?r298,⟨?r297,⟨?r296,⟨?r295,⟨?r294,⟨?r293,Zb (fun h7=>⟨?r292,⟨?r291,⟨?r290,⟨?r289,⟨?r288,⟨?r287,⟨?r286,Zb (fun h8=>⟨?r285,⟨?r284,⟨?r283, ?_⟩⟩⟩) (fun h8=>?_)⟩⟩⟩⟩⟩⟩⟩) (fun h7=>?_)⟩⟩⟩⟩⟩⟩⟩⟩⟩⟩⟩⟩⟩⟩) (fun h6=>⟨?r329,⟨?r328,⟨?r327,⟨?r326,⟨?r325,⟨?r324,⟨?r323,⟨?r322,⟨?r321,⟨?r320,⟨?r319,⟨?r318,⟨?r317,Zb (fun h7=>⟨?r316,⟨?r315,⟨?r314,⟨?r313,⟨?r312,⟨?r311,⟨?r310,Zb (fun h8=>⟨?r309,⟨?r308,⟨?r307, ?_⟩⟩⟩) (fun h8=>?_)⟩⟩⟩⟩⟩⟩⟩) (fun h7=>?_)⟩⟩⟩⟩⟩⟩⟩⟩⟩⟩⟩⟩⟩)) (fun h5=>⟨?r352,⟨?r351,⟨?r350,⟨?r349,⟨?r348,⟨?r347,⟨?r346,⟨?r345,⟨?r344,⟨?r343,⟨?r342,⟨?r341,⟨?r340,Zb (fun h6=>⟨?r339,⟨?r338,⟨?r337,⟨?r336,⟨?r335,⟨?r334,⟨?r333,Zb (fun h7=>⟨?r332,⟨?r331,⟨?r330, ?_⟩⟩⟩) (fun h7=>?_)⟩⟩⟩⟩⟩⟩⟩) (fun h6=>?_)⟩⟩⟩⟩⟩⟩⟩⟩⟩⟩⟩⟩⟩)) (fun h4=>Zb (fun h5=>Zb (fun h6=>⟨?r376,⟨?r375,⟨?r374,⟨?r373,⟨?r372,⟨?r371,⟨?r370,⟨?r369,⟨?r368,⟨?r367,⟨?r366,⟨?r365,⟨?r364,⟨?r363,Zb (fun h7=>⟨?r362,⟨?r361,⟨?r360,⟨?r359,⟨?r358,⟨?r357,⟨?r356,Zb (fun h8=>⟨?r355,⟨?r354,⟨?r353, ?_⟩⟩⟩) (fun h8=>?_)⟩⟩⟩⟩⟩⟩⟩) (fun h7=>?_)⟩⟩⟩⟩⟩⟩⟩⟩⟩⟩⟩⟩⟩⟩) (fun h6=>⟨?r399,⟨?r398,⟨?r397,⟨?r396,⟨?r395,⟨?r394,⟨?r393,⟨?r392,⟨?r391,⟨?r390,⟨?r389,⟨?r388,⟨?r387,Zb (fun h7=>⟨?r386,⟨?r385,⟨?r384,⟨?r383,⟨?r382,⟨?r381,⟨?r380,Zb (fun h8=>⟨?r379,⟨?r378,⟨?r377, ?_⟩⟩⟩) (fun h8=>?_)⟩⟩⟩⟩⟩⟩⟩) (fun h7=>?_)⟩⟩⟩⟩⟩⟩⟩⟩⟩⟩⟩⟩⟩)) (fun h5=>⟨?r422,⟨?r421,⟨?r420,⟨?r419,⟨?r418,⟨?r417,⟨?r416,⟨?r415,⟨?r414,⟨?r413,⟨?r412,⟨?r411,⟨?r410,Zb (fun h6=>⟨?r409,⟨?r408,⟨?r407,⟨?r406,⟨?r405,⟨?r404,⟨?r403,Zb (fun h7=>⟨?r402,⟨?r401,⟨?r400, ?_⟩⟩⟩) (fun h7=>?_)⟩⟩⟩⟩⟩⟩⟩) (fun h6=>?_)⟩⟩⟩⟩⟩⟩⟩⟩⟩⟩⟩⟩⟩))))))⟩⟩⟩⟩⟩⟩⟩⟩⟩⟩
 case r0|r1|r2|r3|r4|r5|r6|r7|r8|r9|r10|r11|r12|r13|r14|r15|r16|r17|r18|r19|r20|r21|r22|r23|r24|r25|r26|r27|r28|r29|r30|r31|r32|r33|r34|r35|r36|r37|r38|r39|r40|r41|r42|r43|r44|r45|r46|r47|r48|r49|r50|r51|r52|r53|r54|r55|r56|r57|r58|r59|r60|r61|r62|r63|r64|r65|r66|r67|r68|r69|r70|r71|r72|r73|r74|r75|r76|r77|r78|r79|r80|r81|r82|r83|r84|r85|r86|r87|r88|r89|r90|r91|r92|r93|r94|r95|r96|r97|r98|r99|r100|r101|r102|r103|r104|r105|r106|r107|r108|r109|r110|r111|r112|r113|r114|r115|r116|r117|r118|r119|r120|r121|r122|r123|r124|r125|r126|r127|r128|r129|r130|r131|r132|r133|r134|r135|r136|r137|r138|r139|r140|r141|r142|r143|r144|r145|r146|r147|r148|r149|r150|r151|r152|r153|r154|r155|r156|r157|r158|r159|r160|r161|r162|r163|r164|r165|r166|r167|r168|r169|r170|r171|r172|r173|r174|r175|r176|r177|r178|r179|r180|r181|r182|r183|r184|r185|r186|r187|r188|r189|r190|r191|r192|r193|r194|r195|r196|r197|r198|r199|r200|r201|r202|r203|r204|r205|r206|r207|r208|r209|r210|r211|r212|r213|r214|r215|r216|r217|r218|r219|r220|r221|r222|r223|r224|r225|r226|r227|r228|r229|r230|r231|r232|r233|r234|r235|r236|r237|r238|r239|r240|r241|r242|r243|r244|r245|r246|r247|r248|r249|r250|r251|r252|r253|r254|r255|r256|r257|r258|r259|r260|r261|r262|r263|r264|r265|r266|r267|r268|r269|r270|r271|r272|r273|r274|r275|r276|r277|r278|r279|r280|r281|r282|r283|r284|r285|r286|r287|r288|r289|r290|r291|r292|r293|r294|r295|r296|r297|r298|r299|r300|r301|r302|r303|r304|r305|r306|r307|r308|r309|r310|r311|r312|r313|r314|r315|r316|r317|r318|r319|r320|r321|r322|r323|r324|r325|r326|r327|r328|r329|r330|r331|r332|r333|r334|r335|r336|r337|r338|r339|r340|r341|r342|r343|r344|r345|r346|r347|r348|r349|r350|r351|r352|r353|r354|r355|r356|r357|r358|r359|r360|r361|r362|r363|r364|r365|r366|r367|r368|r369|r370|r371|r372|r373|r374|r375|r376|r377|r378|r379|r380|r381|r382|r383|r384|r385|r386|r387|r388|r389|r390|r391|r392|r393|r394|r395|r396|r397|r398|r399|r400|r401|r402|r403|r404|r405|r406|r407|r408|r409|r410|r411|r412|r413|r414|r415|r416|r417|r418|r419|r420|r421|r422|r423|r424|r425|r426|r427|r428|r429|r430|r431|r432=>first | rfl | omega | (rw[dI];done) | (rw[Wl];done) | (rw[dCx];done) | (rw[Zm];done) | (rw[ZT];done) | (simp only[Wl];exact ⟨hp0.1,by decide,by decide⟩) | (simp only[dI];rw[Zg (by constructor<;>omega)];exact ⟨hp0.2.2,by omega,by omega⟩) | (simp only[dI];exact hp0.2.1) | (rw[r3];rfl) | (unfold zTk;rw[←List.map_take,dCx];done) | (rw[ZAG,QR_];rfl) | (simp only[Zu];omega) | (simp only[Zm,Z7I,Qk_,Qx_,Qs_,Q1_];omega) | (exact ⟨by decide,by simp only[Qk_];omega,Xk (Xb (e:=Cx.enc) (fun _=>rfl) _) rfl⟩) | (refine ⟨?_, ?_,Xb (e:=Cx.enc) (fun _=>rfl) _⟩<;>simp only[List.foldl,ZC,Qk_]<;>omega) | (rw[ZT];exact ZsE _ _ _ _ _ _ _) | (refine ⟨rfl, ?_⟩;rw[ZT];exact QT_ (Zzo _ _ _ _ _ _ _) (by decide)) | (exfalso;have hw:=Zcu (n:=w) (m:=3) (by omega);simp only[Zg (show Fit (1+pick w 3) by constructor<;>omega),Qc_] at *;omega)
 all_goals first | rfl | (exact (ZaZ h0).elim) | (exact (ZaZ h1).elim) | (exact (ZaZ h2).elim) | (exact (ZaZ h3).elim) | (exact (ZaZ h4).elim) | (exact (ZaZ h5).elim) | (exact (ZaZ h6).elim) | (exact (ZaZ h7).elim) | (exact (ZaZ h8).elim)
end Go.Men
namespace Go.Ev
open Go.RowKit Go.ChangeShapes Go.Deep
inductive SK where
 | int (k:IntKind)
 | bool
 | str
def Zd9:SK→Value→Prop
 | .int k,v=>∃n,v= .int k n∧k.min≤n∧n≤k.max
 | .bool,v=>∃b,v= .bool b
 | .str,v=>∃s,v= .string s∧s.size≤maxLen
def px:Value→PV
 | .string s=> .str s.data.toList
 | v=> .v v
def skT(P:Program)(t:TypeId):Option SK:=match P.underlying t with
 | some (.int k)=>some (.int k)
 | some .bool=>some .bool
 | some .string=>some .str
 | _=>none
def ZuO{α β:Type}(f:Nat→α→Option β):Nat→List α→Option (List β)
 | _,[]=>some []
 | i,x::r=>match f i x,ZuO f (i+1) r with
   | some y,some l=>some (y::l)
   | _,_=>none
def Z4n(P:Program)(t:TypeId):Option (List SK):=match P.underlying t with
 | some (.struct fs)=>bif Nat.beq (P.cellsOf t) fs.size then ZuO (fun i (f:Field)=>bif Nat.beq f.offset i&&Nat.beq (P.cellsOf f.type) 1 then skT P f.type else none) 0 fs.toList else none
 | some (.array n e)=>bif Nat.beq (P.cellsOf t) n&&Nat.beq (P.cellsOf e) 1 then (match skT P e with | some k=>some (List.replicate n k) | none=>none) else none
 | _=>bif Nat.beq (P.cellsOf t) 1 then (match skT P t with | some k=>some [k] | none=>none) else none
section
variable {H:Type}{enc:TypeId×Value→H}{P:Program}{w:World}{base:Nat}{spare:Nat→Bool}{held:Bool}
theorem Zmv{t:TypeId}{k:SK}(hk:skT P t=some k){fuel:Nat}{cs:List Value}{x:DataW H×List MemPlace}(h:DataW.trod enc P w base spare held fuel t cs=some x):∃v,cs=[v]∧Zd9 k v:=by
 unfold skT at hk
 split at hk
 ·rename_i k' hu
  cases Qa_ hk
  obtain ⟨n,h1,_,h2⟩:=DataW.trod_int hu h
  simp only[Lit.wf,Qh_,Qc_] at h2
  exact ⟨_,h1,n,rfl,h2.1,h2.2⟩
 ·rename_i hu
  cases Qa_ hk
  obtain ⟨b,h1,_⟩:=DataW.trod_bool hu h
  exact ⟨_,h1,b,rfl⟩
 ·rename_i hu
  cases Qa_ hk
  obtain ⟨s,h1,_,h2⟩:=DataW.trod_string hu h
  exact ⟨_,h1,s,rfl,h2⟩
 ·cases hk
theorem Zmw{α β:Type}{f:α→Option β}:∀{l:List α} {r:List β},l.mapM f=some r→∀x∈l,∃y,f x=some y
 | [],_,_,x,hx=>absurd hx (by simp)
 | a::l,r,h,x,hx=>by
   rw[List.mapM_cons] at h
   obtain ⟨y,h1,h2⟩:=Option.bind_eq_some_iff.1 h
   obtain ⟨ys,h3,_⟩:=Option.bind_eq_some_iff.1 h2
   rcases Q9_.1 hx with e | hx
   ·subst e;exact ⟨y,h1⟩
   ·exact Zmw h3 x hx
theorem Ztp{α β:Type}{f:Nat→α→Option β}:∀{l:List α} {i:Nat} {r:List β},ZuO f i l=some r→r.length=l.length∧∀(j:Nat) (y:β),r[j]?=some y→∃x,l[j]?=some x∧f (i+j) x=some y
 | [],i,r,h=>by
   cases Qa_ h
   exact ⟨rfl,fun j y hj=>by simp at hj⟩
 | a::l,i,r,h=>by
   unfold ZuO at h
   split at h
   ·rename_i y ys h1 h2
    cases Qa_ h
    obtain ⟨e1,e2⟩:=Ztp h2
    refine ⟨by simp[e1],fun j z hj=>?_⟩
    cases j with
    | zero=>simp at hj;subst hj;exact ⟨a,by simp,by simpa using h1⟩
    | succ j=>
      obtain ⟨x,h3,h4⟩:=e2 j z (by simpa using hj)
      exact ⟨x,by simpa using h3,by rw[←h4];congr 1;omega⟩
   ·cases h
theorem Z6I{t:TypeId}{ks:List SK}(hk:Z4n P t=some ks){fuel:Nat}{cs:List Value}{x:DataW H×List MemPlace}(h:DataW.trod enc P w base spare held fuel t cs=some x):
 cs.length=ks.length∧P.cellsOf t=ks.length∧∀(i:Nat) (k:SK),ks[i]?=some k→∃v,cs[i]?=some v∧Zd9 k v:=by
 unfold Z4n at hk
 split at hk
 ·rename_i fs hu
  cases hb:Nat.beq (P.cellsOf t) fs.size with
  | false=>rw[hb] at hk;cases hk
  | true=>
    rw[hb,Qb_] at hk
    have hsz:=Qj_ hb
    obtain ⟨e1,e2⟩:=Ztp hk
    cases fuel with
    | zero=>exact absurd h (by simp[DataW.trod])
    | succ fuel=>
      simp only[DataW.trod,hu] at h
      split at h
      ·rename_i hl
       simp only[Option.map_eq_some_iff] at h
       obtain ⟨ys,h1,_⟩:=h
       refine ⟨by rw[hl,hsz,e1];simp,by rw[hsz,e1];simp,fun i k hi=>?_⟩
       obtain ⟨f,hf,hc⟩:=e2 i k hi
       rw[QP_] at hc
       cases hb2:(Nat.beq f.offset i&&Nat.beq (P.cellsOf f.type) 1) with
       | false=>rw[hb2] at hc;cases hc
       | true=>
         rw[hb2,Qb_] at hc
         rw[Qh_] at hb2
         have ho:=Qj_ hb2.1
         have h1c:=Qj_ hb2.2
         obtain ⟨y,hy⟩:=Zmw h1 f (Qz_ hf)
         obtain ⟨v,hv,hok⟩:=Zmv hc hy
         rw[ho,h1c] at hv
         refine ⟨v, ?_,hok⟩
         have:=Kl_ (fun l:List Value=>l[0]?) hv
         simpa using this
      ·cases h
 ·rename_i n e hu
  cases hb:(Nat.beq (P.cellsOf t) n&&Nat.beq (P.cellsOf e) 1) with
  | false=>rw[hb] at hk;cases hk
  | true=>
    rw[hb,Qb_] at hk
    rw[Qh_] at hb
    have hsz:=Qj_ hb.1
    have h1c:=Qj_ hb.2
    split at hk
    ·rename_i k hsk
     cases Qa_ hk
     cases fuel with
     | zero=>exact absurd h (by simp[DataW.trod])
     | succ fuel=>
       simp only[DataW.trod,hu] at h
       split at h
       ·rename_i hl
        simp only[Option.map_eq_some_iff] at h
        obtain ⟨ys,h1,_⟩:=h
        refine ⟨by rw[hl,hsz];simp,by rw[hsz];simp,fun i k' hi=>?_⟩
        have hin:i < n:=by
         have:=(Qo_.1 hi).1
         simpa using this
        have hkk:k'=k:=by
         rw[List.getElem?_replicate] at hi
         rw[if_pos hin] at hi
         exact (Qa_ hi).symm
        subst hkk
        obtain ⟨y,hy⟩:=Zmw h1 i (by simpa using hin)
        obtain ⟨v,hv,hok⟩:=Zmv hsk hy
        rw[h1c,Nat.mul_one] at hv
        refine ⟨v, ?_,hok⟩
        have:=Kl_ (fun l:List Value=>l[0]?) hv
        simpa using this
       ·cases h
    ·cases hk
 ·cases hb:Nat.beq (P.cellsOf t) 1 with
  | false=>rw[hb] at hk;cases hk
  | true=>
    rw[hb,Qb_] at hk
    have h1c:=Qj_ hb
    split at hk
    ·rename_i k hsk
     cases Qa_ hk
     obtain ⟨v,rfl,hok⟩:=Zmv hsk h
     refine ⟨rfl,h1c,fun i k' hi=>?_⟩
     cases i with
     | zero=>simp at hi;subst hi;exact ⟨v,rfl,hok⟩
     | succ i=>simp at hi
    ·cases hk
theorem ZyL{k:SK}{v:Value}(h:Zd9 k v)(hw:Nat→Nat)(w:World):Rep hw w v (px v)∧v.oneCell'=true:=by
 cases k with
 | int k=>obtain ⟨n,rfl,_⟩:=h;exact ⟨.v _ rfl,rfl⟩
 | bool=>obtain ⟨b,rfl⟩:=h;exact ⟨.v _ rfl,rfl⟩
 | str=>
   obtain ⟨s,rfl,_⟩:=h
   exact ⟨.str s.data.toList,rfl⟩
def ZhP(ks:List SK)(xs:List PV):Prop:=xs.length=ks.length∧∀(i:Nat) (k:SK),ks[i]?=some k→∃v,Zd9 k v∧xs[i]?=some (px v)
theorem ZyM{xs:List PV}(h:ZhP [] xs):xs=[]:=QM_ h.1
theorem Z6J{k:SK}{ks:List SK}{xs:List PV}(h:ZhP (k::ks) xs):∃v r,xs=px v::r∧Zd9 k v∧ZhP ks r:=by
 obtain ⟨h1,h2⟩:=h
 cases xs with
 | nil=>cases h1
 | cons x r=>
   obtain ⟨v,h3,h4⟩:=h2 0 k rfl
   simp at h4
   subst h4
   exact ⟨v,r,rfl,h3,by simpa using h1,fun i k' hi=>h2 (i+1) k' (by simpa using hi)⟩
theorem Zcl{k:IntKind}{ks:List SK}{xs:List PV}(h:ZhP (.int k::ks) xs):∃n r,xs= .v (.int k n)::r∧(k.min≤n∧n≤k.max)∧ZhP ks r:=by
 obtain ⟨v,r,e,⟨n,rfl,hb⟩,hr⟩:=Z6J h
 exact ⟨n,r,e,hb,hr⟩
theorem ZAh{ks:List SK}{cs:List Value}(hl:cs.length=ks.length)(h:∀(i:Nat) (k:SK),ks[i]?=some k→∃v,cs[i]?=some v∧Zd9 k v):ZhP ks (cs.map px):=
 ⟨by simpa using hl,fun i k hi=>by
   obtain ⟨v,h1,h2⟩:=h i k hi
   exact ⟨v,h2,by rw[Q6_,h1];rfl⟩⟩
theorem ZyN{r:Reach}{b0:Nat}{t e:TypeId}(ht:P.underlying t=some (.slice e)){v:Value}(h:Value.okWide P w r b0 t v):v= .slice none 0 0∨∃blk off len cap,v= .slice (some ⟨blk,off,none⟩) len cap∧blk < w.heap.size:=by
 unfold Value.okWide at h
 rw[ht] at h
 simp only[Cell.okWide,ht] at h
 have h2:Cell.ok P w r b0 t v:=h
 unfold Cell.ok at h2
 rw[ht] at h2
 cases v with
 | slice a len cap=>
   cases a with
   | none=>
     refine .inl ?_
     cases len with
     | zero=>cases cap with
       | zero=>rfl
       | succ c=>exact h2.elim
     | succ l=>exact h2.elim
   | some a=>
     obtain ⟨_,_,_,hs,row,cells,hsh,_⟩:=h2
     obtain ⟨blk,off,spot⟩:=a
     simp only at hs
     subst hs
     refine .inr ⟨blk,off,len,cap,rfl, ?_⟩
     simp only[World.shape?] at hsh
     by_cases hlt:blk < w.heap.size
     ·exact hlt
     ·rw[Array.getElem?_eq_none (by omega)] at hsh
      cases hsh
 | _=>exact h2.elim
theorem Zmx{r:Reach}{b0:Nat}{t e:TypeId}{ks:List SK}(ht:P.underlying t=some (.slice e))(hk:Z4n P e=some ks)
 {v:Value} {d:DataW H} {ps:List MemPlace} (hval:Value.okWide P w r b0 t v) (hd:DataW.Trod enc P w base spare held t v d ps):
 ∃rows N,(∀x∈rows,ZhP ks x)∧(∀hw:Nat→Nat,(∀k,k < w.heap.size→N≤hw k)→Rep hw w v (.lst rows))∧∀R,(d.weights P t).all (·≤R)=true→rows.length *P.bytesOf e≤R:=by
 obtain ⟨fuel,hf⟩:=hd
 rcases ZyN ht hval with rfl | ⟨blk,off,len,cap,rfl,hblk⟩
 ·exact ⟨[],0,fun x hx=>absurd hx (by simp),fun _ _=> .lnil,fun R _=>by simp⟩
 ·have hcs:(Value.slice (some ⟨blk,off,none⟩) len cap).cells.toList=[.slice (some ⟨blk,off,none⟩) len cap]:=rfl
  rw[hcs] at hf
  rcases open_slice ht hf with ⟨h0,_⟩ | ⟨a,len',cap',m,n,D,Pl,e1,hb,hl,hm,hmm,e2,hx⟩
  ·cases h0
  ·injection e1 with e1 _
   injection e1 with ea el ec
   injection ea with ea
   subst ea;subst el;subst ec
   have hlm:len≤m:=by rw[hmm];split<;>omega
   have hrow:∀i,i < len→∃cs',w.cells? base ((⟨blk,off,none⟩:Addr).add (i *P.cellsOf e)) (P.cellsOf e)=some cs'∧cs'.length=ks.length∧P.cellsOf e=ks.length∧∀(j:Nat) (k:SK),ks[j]?=some k→∃v,cs'[j]?=some v∧Zd9 k v:=by
    intro i hi
    obtain ⟨cs',h1,h2⟩:=hx i (by omega)
    obtain ⟨h3,h4,h5⟩:=Z6I hk h2
    exact ⟨cs',h1,h3,h4,h5⟩
   obtain ⟨C,hC⟩:=choose_lt (α:=List Value) (p:=fun i cs'=>w.cells? base ((⟨blk,off,none⟩:Addr).add (i *P.cellsOf e)) (P.cellsOf e)=some cs'∧cs'.length=ks.length∧P.cellsOf e=ks.length∧∀(j:Nat) (k:SK),ks[j]?=some k→∃v,cs'[j]?=some v∧Zd9 k v) hrow
   have hrows:∀(i:Nat) (x:List PV),((List.range len).map fun i=>(C i).map px)[i]?=some x→i < len∧x=(C i).map px:=by
    intro i x hi
    rw[Q6_] at hi
    cases hr:(List.range len)[i]? with
    | none=>rw[hr] at hi;cases hi
    | some y=>
      rw[hr] at hi
      have hlt:i < len:=by have:=(Qo_.1 hr).1;simpa using this
      rw[K3_ hlt] at hr
      cases Qa_ hr
      exact ⟨hlt,(Qa_ hi).symm⟩
   have hlen:((List.range len).map fun i=>(C i).map px).length=len:=by simp
   have hcell:∀i j,i < len→j < ks.length→∃v,w.cell? ⟨blk,off+(i *ks.length+j),none⟩=some v∧(C i)[j]?=some v∧∃k,Zd9 k v:=by
    intro i j hi hj
    obtain ⟨h1,h2,h3,h4⟩:=hC i hi
    obtain ⟨v,h5,h6⟩:=h4 j ks[j] (Qg_ hj)
    obtain ⟨_,_,h7⟩:=World.cells?_some h1
    have h8:=h7 j (by omega)
    rw[h5] at h8
    refine ⟨v, ?_,h5,_,h6⟩
    rw[←h8,h3,Addr.add_lit,Addr.add_lit,Ku_]
   refine ⟨(List.range len).map fun i=>(C i).map px,off+len *ks.length,fun x hx=>?_,fun hw hN=>?_,fun R hR=>?_⟩
   ·obtain ⟨i,hi,rfl⟩:=Kv_.1 hx
    have hi:i < len:=by simpa using hi
    obtain ⟨_,h2,_,h4⟩:=hC i hi
    exact ZAh h2 h4
   ·have:=Rep.lst (hw:=hw) (w:=w) ((List.range len).map fun i=>(C i).map px) blk off cap ks.length (fun i j=>(w.cell? ⟨blk,off+(i *ks.length+j),none⟩).getD undef) (by rw[hlen];exact hl)
     (fun i x hx=>by obtain ⟨hi,rfl⟩:=hrows i x hx;simpa using (hC i hi).2.1)
     (fun i j hi hj=>by rw[hlen] at hi;obtain ⟨v,h1,_⟩:=hcell i j hi hj;rw[h1];rfl)
     (fun i j x y hx hy=>by
       obtain ⟨hi,rfl⟩:=hrows i x hx
       have hj:j < ks.length:=by have:=(Qo_.1 hy).1;rw[←(hC i hi).2.1];simpa using this
       obtain ⟨v,h1,h2,k,h3⟩:=hcell i j hi hj
       rw[Q6_,h2] at hy
       cases Qa_ hy
       rw[h1]
       exact (ZyL h3 hw w).1)
     (fun i j hi hj=>by rw[hlen] at hi;obtain ⟨v,h1,_,k,h3⟩:=hcell i j hi hj;rw[h1];exact (ZyL h3 hw w).2)
     (by rw[hlen];exact hN blk hblk)
    rw[hlen] at this
    exact this
   ·rw[hlen]
    have hd:d= .slice ((List.range len).map D) ((List.range (m - len)).map fun j=>D (len+j)):=Kl_ Prod.fst e2
    subst hd
    simp only[DataW.weights,ht,List.all_cons,Qk_,List.length_range,Qh_,Qc_] at hR
    exact QT_ (Kb_ _ (by omega)) hR.1
theorem YT{ts:List TypeId}{ds:List (DataW H)}{R:Nat}{t:TypeId}{d:DataW H}(h:(DataW.weightsEach P (t::ts) (d::ds)).all (·≤R)=true):(d.weights P t).all (·≤R)=true∧(DataW.weightsEach P ts ds).all (·≤R)=true:=by
 simp only[DataW.weightsEach,List.all_append,Qh_] at h
 exact h
end
theorem Zkq{H:Type}{enc:TypeId×Value→H}{P:Program}(hl:laidOutB P=true):∀{ts:List TypeId} {W W':World} {vs:List Value} {ds:List (DataW H)} {ps:List MemPlace},(ts.all fun t=>P.readableRec t&&decide (t < P.types.size))=true→
 DataW.TrodAll enc P W 0 (fun _=>true) true ts vs ds ps→Below W.heap.size W W'→(∀x∈ps,x.block < W.heap.size)→∀sp:Nat→Bool,(∀p∈ps,sp p.block=true)→DataW.TrodAll enc P W' 0 sp true ts vs ds ps
 | [],W,W',vs,ds,ps,_,h,_,_,sp,_=>by
   obtain ⟨rfl,rfl,rfl⟩:=trodAll_nil h
   exact rfl
 | t::ts,W,W',vs,ds,ps,ht,h,hb,hlt,sp,hsp=>by
   obtain ⟨v,vs',d,ds',p,q,rfl,rfl,rfl,h1,h2⟩:=trodAll_cons h
   simp only[List.all_cons,Qh_,Qc_] at ht
   exact ⟨p,q,WideElems.Trod_stays hl ht.1.1 ht.1.2 h1 (fun x hx=>hb.same (hlt x (Kh_ _ hx))) (fun x hx=>hsp x (Kh_ _ hx)),
    Zkq hl ht.2 h2 hb (fun x hx=>hlt x (Kr_ _ hx)) sp (fun x hx=>hsp x (Kr_ _ hx)),rfl⟩
theorem Z6K{P:Program}{f:Nat}{b:Bool}(hc:∀args w,(callFunc f args).run P w= .ok (.enter f args) w){xs:List PV}(h:Con P f xs (.v (.bool b)))(w:World){hw:Nat→Nat}(hl:∀k,w.heap.size≤k→hw k=0)(hgl:GlobOk hw w){vals:List Value}(ha:ArgsRep hw w vals xs):Calls P f vals.toArray w fun e w'=>e= .returned (.bool b)∧Below w.heap.size w w':=by
 rcases h hw w vals hl hgl ha with ⟨v,w',h1,_⟩ | ⟨f',h1,h2⟩
 ·rw[hc] at h1
  cases h1
 ·rw[hc] at h1
  injection h1 with h1 _
  injection h1 with h1 _
  subst h1
  exact h2.mono fun e w' ⟨v,he,hw',q,hr⟩=>⟨by rw[he,ZH hr],q.below⟩
structure ArgsAre(P:Program)(w:World)(ts:List TypeId)(vs:List Value)(xs:List PV):Prop where
 rep:∃N,∀hw:Nat→Nat,(∀k,k < w.heap.size→N≤hw k)→ArgsRep hw w vs xs
theorem ZzQ{P:Program}{w:World}:ArgsAre P w [] [] []:=⟨0,fun hw _=>⟨rfl,fun j x y hx=>by simp at hx⟩⟩
theorem Xu{P:Program}{w:World}{t:TypeId}{ts:List TypeId}{v:Value}{vs:List Value}{x:PV}{xs:List PV}{N:Nat}(h:∀hw:Nat→Nat,(∀k,k < w.heap.size→N≤hw k)→Rep hw w v x)(hr:ArgsAre P w ts vs xs):ArgsAre P w (t::ts) (v::vs) (x::xs):=by
 obtain ⟨M,hM⟩:=hr.rep
 refine ⟨⟨N+M,fun hw hh=>?_⟩⟩
 have h1:=h hw (fun k hk=>QT_ (Nat.le_add_right _ _) (hh k hk))
 have h2:=hM hw (fun k hk=>QT_ (Nat.le_add_left _ _) (hh k hk))
 refine ⟨by simp[h2.len],fun j a b ha hb=>?_⟩
 cases j with
 | zero=>simp at ha hb;subst ha;subst hb;exact h1
 | succ j=>exact h2.rep j a b (by simpa using ha) (by simpa using hb)
section
variable {H:Type}{enc:TypeId×Value→H}
open Go.WideShapes
end
open Go.ChangeAt Go.WideShapes
section
variable {H:Type}{enc:TypeId×Value→H}
theorem ZAi{a:Assume}{C:Checked}{os:Os}{f:FuncId}{fn:Func}{s:ChangeSpec}{F:Stop.Interp}{conds:List PathCond}{laid:List (String×DataW Unit)}{tb:TypeId}
 (own:ownKnob C.prog.godebug=none) (started:os.Started) (noInit:C.prog.inits.idxOf? f=none) (hfn:C.prog.funcs[f]?=some fn)
 (witness:∃(w:World) (tape:Tape) (i:Input),w.os=os∧(w.forCall tape i).Shaped C.prog∧i.vars=[]∧Input.okWide C.prog (w.forCall tape i) .any w.heap.size f i∧
   (OpenSpec.ofChange s).preRow enc C.prog fn conds false laid (w.forCall tape i).memory i.args∧a.holds C.prog (lone (Frame.enter C.prog f i.args .normal) [] (w.forCall tape i)))
 (hcall:∀args w,(callFunc f args).run C.prog w= .ok (.enter f args) w) (hlaid:laidOutB C.prog=true)
 (hts:(fn.params.toList.all fun t=>C.prog.readableRec t&&decide (t < C.prog.types.size))=true) (hvars:s.vars=[]) (hres:fn.resultTypes=#[tb]) (hbool:C.prog.underlying tb=some .bool)
 (hspec:∀ds:List (DataW H),ds.length=fn.params.toList.length→(s.fn H ds).results=[.lit (.bool true)]∧(s.fn H ds).args=ds∧(s.fn H ds).vars=[])
 (hglob:∀(W:World) (N:Nat),64≤N→laidMetH C.prog laid W→GlobOk (fun k=>if k < W.heap.size then N else 0) W)
 (hcon:∀(W:World) (b0:Nat) (args:List Value) (ds:List (DataW H)) (p:List MemPlace),(∀(j:Nat) t v,fn.params.toList[j]?=some t→args[j]?=some v→Value.okWide C.prog W .any b0 t v)→DataW.TrodAll enc C.prog W 0 (fun _=>true) true fn.params.toList args ds p→
   (DataW.weightsEach C.prog fn.params.toList ds).all (·≤reachBytes)=true→∃xs,ArgsAre C.prog W fn.params.toList args xs∧Con C.prog f xs (.v (.bool true))):
 ReturnsInHanded a C os f .any ((OpenSpec.ofChange s).preRow enc C.prog fn conds false laid) (((OpenSpec.ofChange s).at F).post enc C.prog fn false true false false):=by
 refine returnsInHanded_of_row own started noInit hfn witness ?_
 intro W base args ds gs before hval hw' _ _ hwt hL _ _
 have hW:=hw'
 have hvars':(OpenSpec.ofChange s).vars=[]:=hvars
 obtain ⟨p,q,hA,hV,e,hnf,_⟩:=hw'
 subst e
 rw[hvars'] at hV
 obtain ⟨egs,eq⟩:=trodVars_none hV
 subst egs;subst eq
 have hlen:ds.length=fn.params.toList.length:=by
  have key:∀{ts:List TypeId} {vs:List Value} {ds:List (DataW H)} {p:List MemPlace},DataW.TrodAll enc C.prog W 0 (fun _=>true) true ts vs ds p→ds.length=ts.length:=by
   intro ts
   induction ts with
   | nil=>intro vs ds p h;obtain ⟨_,rfl,_⟩:=trodAll_nil h;rfl
   | cons t ts ih=>intro vs ds p h;obtain ⟨v,vs',d,ds',p',q',rfl,rfl,rfl,_,h2⟩:=trodAll_cons h;simp[ih h2]
  exact key hA
 have hwt2:(DataW.weightsEach C.prog fn.params.toList ds).all (·≤reachBytes)=true:=by
  have e1:∀(ts ts':List TypeId) (ds:List (DataW H)),ds.length=ts.length→DataW.weightsEach C.prog (ts++ts') (ds++[])=DataW.weightsEach C.prog ts ds:=by
   intro ts
   induction ts with
   | nil=>intro ts' ds h;have:=QM_ h;subst this;cases ts'<;>rfl
   | cons t ts ih=>intro ts' ds h;cases ds with
     | nil=>cases h
     | cons d ds=>simp only[QS_,DataW.weightsEach];rw[ih ts' ds (by simpa using h)]
  rw[e1 _ _ _ hlen] at hwt
  exact hwt
 obtain ⟨xs,⟨N,hN⟩,hcon⟩:=hcon W base args.toList ds p (fun j t v h1 h2=>hval j t v (by simpa using h1) (by simpa using h2)) hA hwt2
 have hcalls:=Z6K hcall hcon W (hw:=fun k=>if k < W.heap.size then N+64 else 0) (fun k hk=>by simp;omega) (hglob W (N+64) (by omega) hL) (hN _ (fun k hk=>by simp[hk]))
 have ei:args.toList.toArray=args:=by simp
 rw[ei] at hcalls
 refine hcalls.mono fun e W' ⟨he,hb⟩=>?_
 subst he
 obtain ⟨s1,s2,s3⟩:=hspec ds hlen
 refine ⟨_,rfl,Ztv (pa:=p) (pv:=[]) hW (fun b sp hd=>?_) (fun sp hsp=>?_) (fun sp _=>?_) rfl hb (ok_one hres rfl (okWide_bool_mk hbool _))⟩
 ·show DataW.TrodAll _ _ _ _ _ _ _ _ (s.fn H (ds++[])).results _
  rw[QI_,hres,s1]
  exact trodAll_cons_mk (shut_bool hbool _) trodAll_mk0
 ·show DataW.TrodAll _ _ _ _ _ _ _ _ (s.fn H (ds++[])).args _
  rw[QI_,s2]
  exact Zkq hlaid hts hA hb (fun x hx=>hW.lt x (Kh_ _ hx)) sp (fun x hx=>hsp x (by simpa using hx))
 ·have h3:(s.fn H (ds++[])).vars=[]:=by rw[QI_];exact s3
  show DataW.TrodVars enc C.prog W' sp s.vars (s.fn H (ds++[])).vars []
  rw[hvars,h3]
  exact rfl
end
end Go.Ev
