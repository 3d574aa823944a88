import Derived.Test.YtgfgjabeooohhaaGreatDoorSrD
import Derived.Test.YtgfgjabeooohhaaGreatDoorRows
import Derived.Test.YtgfgjabeooohhaaGreatDoorCards
import Derived.Test.YtgfgjabeooohhaaGreatDoorTie
set_option linter.all false
namespace Go.Proofs.YtgfgjabeooohhaaGreatDoor
open Go.ChangeShapes Go.WideShapes Go.ChangeAt Go.RowKit Go.Ev Go.Men
theorem Zmq:ownKnob Tryz.prog.godebug=none:=by kernel_rfl
theorem Zwk{rows:List (List PV)}(h:∀x∈rows,Zcw [.int .i64] x):∃l:List I,rows=l.map I.enc:=by
 induction rows with
 | nil=>exact ⟨[],rfl⟩
 | cons r rows ih=>
   obtain ⟨l,rfl⟩:=ih fun x hx=>h x (Qq_ _ hx)
   obtain ⟨n,r',rfl,_,h1⟩:=Je (h r Qv_)
   cases Zmo h1
   exact ⟨⟨n⟩::l,rfl⟩
theorem ZvL{xs:List PV}(h:Zcw [.int .i64,.int .i64,.int .i64,.int .i64,.int .i64,.int .i64] xs):∃a:RawFace,xs=RawFace.enc a:=by
 obtain ⟨n1,r1,rfl,_,h⟩:=Je h
 obtain ⟨n2,r2,rfl,_,h⟩:=Je h
 obtain ⟨n3,r3,rfl,_,h⟩:=Je h
 obtain ⟨n4,r4,rfl,_,h⟩:=Je h
 obtain ⟨n5,r5,rfl,_,h⟩:=Je h
 obtain ⟨n6,r6,rfl,_,h⟩:=Je h
 cases Zmo h
 exact ⟨⟨n1,n2,n3,n4,n5,n6⟩,rfl⟩
theorem Zu4{rows:List (List PV)}(h:∀x∈rows,Zcw [.int .i64,.int .i64,.int .i64,.int .i64,.int .i64,.int .i64] x):∃l:List RawFace,rows=l.map RawFace.enc:=by
 induction rows with
 | nil=>exact ⟨[],rfl⟩
 | cons r rows ih=>
   obtain ⟨l,rfl⟩:=ih fun x hx=>h x (Qq_ _ hx)
   obtain ⟨a,rfl⟩:=ZvL (h r Qv_)
   exact ⟨a::l,rfl⟩
theorem Zip(w:World)(N:Nat)(hN:64≤N)(hL:laidMetH Tryz.prog Rows.shiftRowsRow.laid w):GlobOk (fun k=>if k < w.heap.size then N else 0) w:=by
 have hL':laidMet Tryz.prog Rows.shiftRowsRow.laid w:=hL
 obtain ⟨ps,hv,_⟩:=hL'
 obtain ⟨t1,fr1,b1⟩:=ZkF (P:=Tryz.prog) (W:=w) ⟨ps,hv⟩ (k:= .u64) (zs:=Lib.pow10Tab) (.tail _ (.tail _ (.head _))) (g:=4) (t:=220) (by kernel_rfl) (by kernel_rfl) Tryz.underlying220 Tryz.underlying192 (by kernel_rfl) (by kernel_rfl)
 refine Zqd fun x cs hx=>?_
 unfold Zab at hx
 rw[Zs] at hx
 split at hx
 ·rename_i e
  have:=Qa_ hx
  subst this;subst e
  exact ⟨_,t1,fr1,b1,by decide,rfl,by decide,QT_ (by decide) hN⟩
 exact absurd hx (by simp[lk])
def Xy(cs:Array Value):Obj→Obj
 | .cells _ t frozen=> .cells cs t frozen
 | o=>o
def shiftRowsArgs:Array Value:=#[.int .i64 0,.slice none 0 0,.slice none 0 0]
noncomputable def ZeK:Nat:=(World.holding Tryz.prog default ⟨#[],#[],[]⟩).heap.size
noncomputable def Zaa(os:Os):World:=
 let w0:=World.holding Tryz.prog os ⟨#[.cells #[.string ⟨#[118,97,108,117,101,32,111,117,116,32,111,102,32,114,97,110,103,101]⟩] 228,.cells #[.string ⟨#[105,110,118,97,108,105,100,32,115,121,110,116,97,120]⟩] 228],shiftRowsArgs,[]⟩
 {w0 with heap:=(((((((w0.heap.modify 7 (Xy #[.int .u8 0,.int .u8 1,.int .u8 28,.int .u8 2,.int .u8 29,.int .u8 14,.int .u8 24,.int .u8 3,.int .u8 30,.int .u8 22,.int .u8 20,.int .u8 15,.int .u8 25,.int .u8 17,.int .u8 4,.int .u8 8,.int .u8 31,.int .u8 27,.int .u8 13,.int .u8 23,.int .u8 21,.int .u8 19,.int .u8 16,.int .u8 7,.int .u8 26,.int .u8 12,.int .u8 18,.int .u8 6,.int .u8 11,.int .u8 5,.int .u8 10,.int .u8 9])).modify 8 (Xy #[.int .u8 0,.int .u8 1,.int .u8 56,.int .u8 2,.int .u8 57,.int .u8 49,.int .u8 28,.int .u8 3,.int .u8 61,.int .u8 58,.int .u8 42,.int .u8 50,.int .u8 38,.int .u8 29,.int .u8 17,.int .u8 4,.int .u8 62,.int .u8 47,.int .u8 59,.int .u8 36,.int .u8 45,.int .u8 43,.int .u8 51,.int .u8 22,.int .u8 53,.int .u8 39,.int .u8 33,.int .u8 30,.int .u8 24,.int .u8 18,.int .u8 12,.int .u8 5,.int .u8 63,.int .u8 55,.int .u8 48,.int .u8 27,.int .u8 60,.int .u8 41,.int .u8 37,.int .u8 16,.int .u8 46,.int .u8 35,.int .u8 44,.int .u8 21,.int .u8 52,.int .u8 32,.int .u8 23,.int .u8 11,.int .u8 54,.int .u8 26,.int .u8 40,.int .u8 15,.int .u8 34,.int .u8 20,.int .u8 31,.int .u8 10,.int .u8 25,.int .u8 14,.int .u8 19,.int .u8 9,.int .u8 13,.int .u8 8,.int .u8 7,.int .u8 6])).modify 4 (Xy #[.int .u64 1,.int .u64 10,.int .u64 100,.int .u64 1000,.int .u64 10000,.int .u64 100000,.int .u64 1000000,.int .u64 10000000,.int .u64 100000000,.int .u64 1000000000,.int .u64 10000000000,.int .u64 100000000000,.int .u64 1000000000000,.int .u64 10000000000000,.int .u64 100000000000000,.int .u64 1000000000000000,.int .u64 10000000000000000,.int .u64 100000000000000000,.int .u64 1000000000000000000,.int .u64 10000000000000000000])).modify 6 (Xy #[.int .u8 128,.int .u8 191,.int .u8 160,.int .u8 191,.int .u8 128,.int .u8 159,.int .u8 144,.int .u8 191,.int .u8 128,.int .u8 143,.int .u8 0,.int .u8 0,.int .u8 0,.int .u8 0,.int .u8 0,.int .u8 0,.int .u8 0,.int .u8 0,.int .u8 0,.int .u8 0,.int .u8 0,.int .u8 0,.int .u8 0,.int .u8 0,.int .u8 0,.int .u8 0,.int .u8 0,.int .u8 0,.int .u8 0,.int .u8 0,.int .u8 0,.int .u8 0])).modify 3 (Xy #[.iface 226 (.pointer (some ⟨ZeK+0,0,none⟩))])).modify 2 (Xy #[.iface 226 (.pointer (some ⟨ZeK+1,0,none⟩))])).modify 5 (Xy (Pinned.utf8FirstZ.map fun (n:Nat)=>Value.int .u8 n).toArray))}
theorem Zjn(os:Os):laidMet Tryz.prog Rows.shiftRowsRow.laid ((Zaa os).forCall (fun _ _=>0) ⟨#[],shiftRowsArgs,[]⟩).memory:=
 laidMet_of_run' 8 (by kernel_rfl) (by kernel_rfl)
theorem ZhB(os:Os){H:Type}(enc:TypeId×Value→H):∃places,DataW.whole enc Tryz.prog ((Zaa os).forCall (fun _ _=>0) ⟨#[],shiftRowsArgs,[]⟩).memory Tryz.f5.params.toList Rows.shiftRowsSpec.vars false shiftRowsArgs.toList 8=some ([.lit (.int .i64 0),.nil,.nil],[],places):=
 ⟨[],by kernel_rfl⟩
set_option maxRecDepth 100000 in
theorem ZfZ(os:Os)(started:os.Started)(H:Type)(enc:TypeId×Value→H)(F:Stop.Interp):
 ReturnsInHanded {} Tryz.checked os 5 .any ((OpenSpec.ofChange Rows.shiftRowsSpec).preRow enc Tryz.prog Tryz.f5 Rows.shiftRowsRow.domain false Rows.shiftRowsRow.laid) (((OpenSpec.ofChange Rows.shiftRowsSpec).at F).post enc Tryz.prog Tryz.f5 false true false false):=by
 obtain ⟨places,hx⟩:=ZhB os enc
 refine Zu3 (C:=Tryz.checked) (s:=Rows.shiftRowsSpec) (tb:=4) Zmq started (by kernel_rfl) Tryz.func5
  (witness_row_at (enc:=enc) (C:=Tryz.checked) false (Zaa os) shiftRowsArgs rfl (by kernel_rfl) (by kernel_rfl) (by kernel_rfl)
    (OpenSpec.preRow_of_cond 8 hx (by kernel_rfl) (fun k hk=>by cases hk) (by kernel_rfl) (Zjn os)))
  Tryz.call5 (by kernel_rfl) (by kernel_rfl) rfl (by kernel_rfl) Tryz.underlying4 ?_ Zip ?_
 ·intro ds hds
  rw[Tryz.params5] at hds
  match ds,hds with
  | [d1,d2,d3],_=>exact ⟨rfl,rfl,rfl⟩
 ·intro W b0 args ds p hval hA hwt
  rw[Tryz.params5] at hval hA hwt ⊢
  obtain ⟨v1,_,d1,_,_,_,rfl,rfl,_,h1,hA⟩:=trodAll_cons hA
  obtain ⟨v2,_,d2,_,_,_,rfl,rfl,_,h2,hA⟩:=trodAll_cons hA
  obtain ⟨v3,_,d3,_,_,_,rfl,rfl,_,h3,hA⟩:=trodAll_cons hA
  obtain ⟨rfl,rfl,_⟩:=trodAll_nil hA
  obtain ⟨n1,rfl,_,_,_⟩:=open_int Tryz.underlying3 (hval 0 _ _ rfl rfl) h1
  obtain ⟨rows2,N2,r2,e2,w2⟩:=ZiY (ks:=[.int .i64,.int .i64,.int .i64,.int .i64,.int .i64,.int .i64]) Tryz.underlying43 (by kernel_rfl) (hval 1 _ _ rfl rfl) h2
  obtain ⟨n2,rfl⟩:=Zu4 r2
  obtain ⟨rows3,N3,r3,e3,w3⟩:=ZiY (ks:=[.int .i64]) Tryz.underlying44 (by kernel_rfl) (hval 2 _ _ rfl rfl) h3
  obtain ⟨n3,rfl⟩:=Zwk r3
  have hq0:=hwt
  have hq1:=(WT hq0).2
  have hb2:=w2 _ (WT hq1).1
  rw[show Tryz.prog.bytesOf 98=48 by kernel_rfl,Qk_] at hb2
  have hq2:=(WT hq1).2
  have hb3:=w3 _ (WT hq2).1
  rw[show Tryz.prog.bytesOf 3=8 by kernel_rfl,Qk_] at hb3
  have hq3:=(WT hq2).2
  have hr:reachBytes=140737488351232:=rfl
  exact ⟨_,ZbH (N:=0) (fun hw _=> .v _ rfl)<|ZbH (N:=N2) e2<|ZbH (N:=N3) e3<|ZmU,Zmm n1 n2 n3 ⟨by omega,by omega⟩⟩
theorem shiftRows_said:Rows.ShiftRowsSaid:=
 OpenClaim.holds_of_cond 5 Tryz.f5 rfl rfl rfl rfl rfl rfl rfl ⟨rfl,rfl,rfl,rfl,rfl⟩ rfl rfl rfl rfl rfl (by kernel_rfl) Tryz.func5 (by kernel_rfl)
  (Qy_ (by kernel_rfl)) (by unfold Func.isWrapper;first | (rw[if_pos (by decide+kernel)];kernel_rfl) | (rw[if_neg (by decide+kernel)];exact ⟨rfl,rfl⟩))
  (fun os started H enc _ F=>by rw[OpenClaim.pre_eq_preRow];exact ZfZ os started H enc F)
theorem ZhC(f:FuncId)(fn:Func)(hf:Tryz.pinned.checked.prog.funcNamed Rows.shiftRowsRow.func=some f)(hfn:Tryz.pinned.checked.prog.funcs[f]?=some fn):
 true=Tryz.pinned.checked.prog.looks []∧∀(j:Nat) t,fn.params[j]?=some t→Tryz.pinned.checked.prog.wantsStandIn t=false:=by
 obtain rfl:f=5:=Qa_ ((show Tryz.prog.funcNamed Rows.shiftRowsRow.func=some 5 by kernel_rfl).symm.trans hf) |>.symm
 obtain rfl:fn=Tryz.f5:=(Qa_ (Tryz.func5.symm.trans hfn)).symm
 refine ⟨by kernel_rfl,fun j t ht=>?_⟩
 have hall:(Tryz.f5.params.toList.all fun t=> !Tryz.prog.wantsStandIn t)=true:=by kernel_rfl
 have hm:t∈Tryz.f5.params.toList:=by simpa using Array.mem_of_getElem? ht
 show Tryz.prog.wantsStandIn t=false
 simpa using QK_.1 hall t hm
theorem shiftRows_card:Rows.ShiftRowsCardSaid:=
 Claim7.holds_tied_plain_at .later [] _ _ _ _ shiftRows_said (fun _ h=>by cases h) (by kernel_rfl) (fun _ h=>by cases h) shiftRows_row_tie rfl ⟨rfl,rfl⟩ (by kernel_rfl) rfl ZhC (by kernel_rfl)
#print axioms shiftRows_card
end Go.Proofs.YtgfgjabeooohhaaGreatDoor
