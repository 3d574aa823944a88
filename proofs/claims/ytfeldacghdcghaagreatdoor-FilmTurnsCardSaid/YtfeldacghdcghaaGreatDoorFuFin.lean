import Derived.Test.YtfeldacghdcghaaGreatDoorFuE
import Derived.Test.YtfeldacghdcghaaGreatDoorRows
import Derived.Test.YtfeldacghdcghaaGreatDoorCards
import Derived.Test.YtfeldacghdcghaaGreatDoorTie
set_option linter.all false
namespace Go.Proofs.YtfeldacghdcghaaGreatDoor
open Go.ChangeShapes Go.WideShapes Go.ChangeAt Go.RowKit Go.Ev Go.Men
theorem Zt2:ownKnob Tryz.prog.godebug=none:=by kernel_rfl
theorem Z60{rows:List (List PV)}(h:∀x∈rows,ZfA [.int .i64] x):∃l:List I,rows=l.map I.enc:=by
 induction rows with
 | nil=>exact ⟨[],rfl⟩
 | cons r rows ih=>
   obtain ⟨l,rfl⟩:=ih fun x hx=>h x (Qq_ _ hx)
   obtain ⟨n,r',rfl,_,h1⟩:=ZaJ (h r Qv_)
   cases Zt0 h1
   exact ⟨⟨n⟩::l,rfl⟩
theorem Z5B{xs:List PV}(h:ZfA [.int .i64,.int .i64,.int .i64,.int .i64,.int .i64,.int .i64] xs):∃a:RawFace,xs=RawFace.enc a:=by
 obtain ⟨n1,r1,rfl,_,h⟩:=ZaJ h
 obtain ⟨n2,r2,rfl,_,h⟩:=ZaJ h
 obtain ⟨n3,r3,rfl,_,h⟩:=ZaJ h
 obtain ⟨n4,r4,rfl,_,h⟩:=ZaJ h
 obtain ⟨n5,r5,rfl,_,h⟩:=ZaJ h
 obtain ⟨n6,r6,rfl,_,h⟩:=ZaJ h
 cases Zt0 h
 exact ⟨⟨n1,n2,n3,n4,n5,n6⟩,rfl⟩
theorem Z3Y{rows:List (List PV)}(h:∀x∈rows,ZfA [.int .i64,.int .i64,.int .i64,.int .i64,.int .i64,.int .i64] x):∃l:List RawFace,rows=l.map RawFace.enc:=by
 induction rows with
 | nil=>exact ⟨[],rfl⟩
 | cons r rows ih=>
   obtain ⟨l,rfl⟩:=ih fun x hx=>h x (Qq_ _ hx)
   obtain ⟨a,rfl⟩:=Z5B (h r Qv_)
   exact ⟨a::l,rfl⟩
theorem ZnX(w:World)(N:Nat)(hN:64≤N)(hL:laidMetH Tryz.prog Rows.filmTurnsRow.laid w):GlobOk (fun k=>if k < w.heap.size then N else 0) w:=by
 have hL':laidMet Tryz.prog Rows.filmTurnsRow.laid w:=hL
 obtain ⟨ps,hv,_⟩:=hL'
 obtain ⟨t0,fr0,b0⟩:=ZqY (P:=Tryz.prog) (W:=w) ⟨ps,hv⟩ (k:= .u64) (zs:=Lib.pow10Tab) (.tail _ (.tail _ (.head _))) (g:=1) (t:=210) (by kernel_rfl) (by kernel_rfl) Tryz.underlying210 (by kernel_rfl) (by kernel_rfl) (by kernel_rfl)
 refine Zyr fun x cs hx=>?_
 unfold Zcp at hx
 rw[Zm] at hx
 split at hx
 ·rename_i e
  have:=Qa_ hx
  subst this;subst e
  exact ⟨_,t0,fr0,b0,by decide,rfl,by decide,QT_ (by decide) hN⟩
 exact absurd hx (by simp[lk])
def ZeI(cs:Array Value):Obj→Obj
 | .cells _ t frozen=> .cells cs t frozen
 | o=>o
def filmTurnsArgs:Array Value:=#[.int .i64 0,.slice none 0 0,.int .i64 0,.int .i64 0,.int .i64 0,.slice none 0 0]
noncomputable def Zco(os:Os):World:=
 let w0:=World.holding Tryz.prog os ⟨#[],filmTurnsArgs,[]⟩
 {w0 with heap:=(((w0.heap.modify 2 (ZeI #[.int .u8 0,.int .u8 1,.int .u8 28,.int .u8 2,.int .u8 29,.int .u8 14,.int .u8 24,.int .u8 3,.int .u8 30,.int .u8 22,.int .u8 20,.int .u8 15,.int .u8 25,.int .u8 17,.int .u8 4,.int .u8 8,.int .u8 31,.int .u8 27,.int .u8 13,.int .u8 23,.int .u8 21,.int .u8 19,.int .u8 16,.int .u8 7,.int .u8 26,.int .u8 12,.int .u8 18,.int .u8 6,.int .u8 11,.int .u8 5,.int .u8 10,.int .u8 9])).modify 3 (ZeI #[.int .u8 0,.int .u8 1,.int .u8 56,.int .u8 2,.int .u8 57,.int .u8 49,.int .u8 28,.int .u8 3,.int .u8 61,.int .u8 58,.int .u8 42,.int .u8 50,.int .u8 38,.int .u8 29,.int .u8 17,.int .u8 4,.int .u8 62,.int .u8 47,.int .u8 59,.int .u8 36,.int .u8 45,.int .u8 43,.int .u8 51,.int .u8 22,.int .u8 53,.int .u8 39,.int .u8 33,.int .u8 30,.int .u8 24,.int .u8 18,.int .u8 12,.int .u8 5,.int .u8 63,.int .u8 55,.int .u8 48,.int .u8 27,.int .u8 60,.int .u8 41,.int .u8 37,.int .u8 16,.int .u8 46,.int .u8 35,.int .u8 44,.int .u8 21,.int .u8 52,.int .u8 32,.int .u8 23,.int .u8 11,.int .u8 54,.int .u8 26,.int .u8 40,.int .u8 15,.int .u8 34,.int .u8 20,.int .u8 31,.int .u8 10,.int .u8 25,.int .u8 14,.int .u8 19,.int .u8 9,.int .u8 13,.int .u8 8,.int .u8 7,.int .u8 6])).modify 1 (ZeI #[.int .u64 1,.int .u64 10,.int .u64 100,.int .u64 1000,.int .u64 10000,.int .u64 100000,.int .u64 1000000,.int .u64 10000000,.int .u64 100000000,.int .u64 1000000000,.int .u64 10000000000,.int .u64 100000000000,.int .u64 1000000000000,.int .u64 10000000000000,.int .u64 100000000000000,.int .u64 1000000000000000,.int .u64 10000000000000000,.int .u64 100000000000000000,.int .u64 1000000000000000000,.int .u64 10000000000000000000]))}
theorem Zpv(os:Os):laidMet Tryz.prog Rows.filmTurnsRow.laid ((Zco os).forCall (fun _ _=>0) ⟨#[],filmTurnsArgs,[]⟩).memory:=
 laidMet_of_run' 8 (by kernel_rfl) (by kernel_rfl)
theorem Znj(os:Os){H:Type}(enc:TypeId×Value→H):∃places,DataW.whole enc Tryz.prog ((Zco os).forCall (fun _ _=>0) ⟨#[],filmTurnsArgs,[]⟩).memory Tryz.f5.params.toList Rows.filmTurnsSpec.vars false filmTurnsArgs.toList 8=some ([.lit (.int .i64 0),.nil,.lit (.int .i64 0),.lit (.int .i64 0),.lit (.int .i64 0),.nil],[],places):=
 ⟨[],by kernel_rfl⟩
set_option maxRecDepth 100000 in
theorem Zle(os:Os)(started:os.Started)(H:Type)(enc:TypeId×Value→H)(F:Stop.Interp):
 ReturnsInHanded {} Tryz.checked os 5 .any ((OpenSpec.ofChange Rows.filmTurnsSpec).preRow enc Tryz.prog Tryz.f5 Rows.filmTurnsRow.domain false Rows.filmTurnsRow.laid) (((OpenSpec.ofChange Rows.filmTurnsSpec).at F).post enc Tryz.prog Tryz.f5 false true false false):=by
 obtain ⟨places,hx⟩:=Znj os enc
 refine Z3X (C:=Tryz.checked) (s:=Rows.filmTurnsSpec) (tb:=4) Zt2 started (by kernel_rfl) Tryz.func5
  (witness_row_at (enc:=enc) (C:=Tryz.checked) false (Zco os) filmTurnsArgs rfl (by kernel_rfl) (by kernel_rfl) (by kernel_rfl)
    (OpenSpec.preRow_of_cond 8 hx (by kernel_rfl) (fun k hk=>by cases hk) (by kernel_rfl) (Zpv os)))
  Tryz.call5 (by kernel_rfl) (by kernel_rfl) rfl (by kernel_rfl) Tryz.underlying4 ?_ ZnX ?_
 ·intro ds hds
  rw[Tryz.params5] at hds
  match ds,hds with
  | [d1,d2,d3,d4,d5,d6],_=>exact ⟨rfl,rfl,rfl⟩
 ·intro W b0 args ds p hval hA hwt
  rw[Tryz.params5] at hval hA hwt ⊢
  obtain ⟨v1,_,d1,_,_,_,rfl,rfl,_,h1,hA⟩:=trodAll_cons hA
  obtain ⟨v2,_,d2,_,_,_,rfl,rfl,_,h2,hA⟩:=trodAll_cons hA
  obtain ⟨v3,_,d3,_,_,_,rfl,rfl,_,h3,hA⟩:=trodAll_cons hA
  obtain ⟨v4,_,d4,_,_,_,rfl,rfl,_,h4,hA⟩:=trodAll_cons hA
  obtain ⟨v5,_,d5,_,_,_,rfl,rfl,_,h5,hA⟩:=trodAll_cons hA
  obtain ⟨v6,_,d6,_,_,_,rfl,rfl,_,h6,hA⟩:=trodAll_cons hA
  obtain ⟨rfl,rfl,_⟩:=trodAll_nil hA
  obtain ⟨n1,rfl,_,_,_⟩:=open_int Tryz.underlying3 (hval 0 _ _ rfl rfl) h1
  obtain ⟨rows2,N2,r2,e2,w2⟩:=ZoV (ks:=[.int .i64,.int .i64,.int .i64,.int .i64,.int .i64,.int .i64]) Tryz.underlying22 (by kernel_rfl) (hval 1 _ _ rfl rfl) h2
  obtain ⟨n2,rfl⟩:=Z3Y r2
  obtain ⟨n3,rfl,_,_,_⟩:=open_int Tryz.underlying3 (hval 2 _ _ rfl rfl) h3
  obtain ⟨n4,rfl,_,_,_⟩:=open_int Tryz.underlying3 (hval 3 _ _ rfl rfl) h4
  obtain ⟨n5,rfl,_,_,_⟩:=open_int Tryz.underlying3 (hval 4 _ _ rfl rfl) h5
  obtain ⟨rows6,N6,r6,e6,w6⟩:=ZoV (ks:=[.int .i64]) Tryz.underlying23 (by kernel_rfl) (hval 5 _ _ rfl rfl) h6
  obtain ⟨n6,rfl⟩:=Z60 r6
  have hq0:=hwt
  have hq1:=(XS hq0).2
  have hb2:=w2 _ (XS hq1).1
  rw[show Tryz.prog.bytesOf 142=48 by kernel_rfl,Qk_] at hb2
  have hq2:=(XS hq1).2
  have hq3:=(XS hq2).2
  have hq4:=(XS hq3).2
  have hq5:=(XS hq4).2
  have hb6:=w6 _ (XS hq5).1
  rw[show Tryz.prog.bytesOf 3=8 by kernel_rfl,Qk_] at hb6
  have hq6:=(XS hq5).2
  have hr:reachBytes=140737488351232:=rfl
  exact ⟨_,WV (N:=0) (fun hw _=> .v _ rfl)<|WV (N:=N2) e2<|WV (N:=0) (fun hw _=> .v _ rfl)<|WV (N:=0) (fun hw _=> .v _ rfl)<|WV (N:=0) (fun hw _=> .v _ rfl)<|WV (N:=N6) e6<|Zup,Zuo n1 n2 n3 n4 n5 n6 ⟨by omega,by omega⟩⟩
theorem filmTurns_said:Rows.FilmTurnsSaid:=
 OpenClaim.holds_of_cond 5 Tryz.f5 rfl rfl rfl rfl rfl rfl rfl ⟨rfl,rfl,rfl,rfl,rfl⟩ rfl rfl rfl rfl rfl (by kernel_rfl) Tryz.func5 (by kernel_rfl)
  (Qy_ (by kernel_rfl)) (by unfold Func.isWrapper;first | (rw[if_pos (by decide+kernel)];kernel_rfl) | (rw[if_neg (by decide+kernel)];exact ⟨rfl,rfl⟩))
  (fun os started H enc _ F=>by rw[OpenClaim.pre_eq_preRow];exact Zle os started H enc F)
theorem Znk(f:FuncId)(fn:Func)(hf:Tryz.pinned.checked.prog.funcNamed Rows.filmTurnsRow.func=some f)(hfn:Tryz.pinned.checked.prog.funcs[f]?=some fn):
 false=Tryz.pinned.checked.prog.looks []∧∀(j:Nat) t,fn.params[j]?=some t→Tryz.pinned.checked.prog.wantsStandIn t=false:=by
 obtain rfl:f=5:=Qa_ ((show Tryz.prog.funcNamed Rows.filmTurnsRow.func=some 5 by kernel_rfl).symm.trans hf) |>.symm
 obtain rfl:fn=Tryz.f5:=(Qa_ (Tryz.func5.symm.trans hfn)).symm
 refine ⟨by kernel_rfl,fun j t ht=>?_⟩
 have hall:(Tryz.f5.params.toList.all fun t=> !Tryz.prog.wantsStandIn t)=true:=by kernel_rfl
 have hm:t∈Tryz.f5.params.toList:=by simpa using Array.mem_of_getElem? ht
 show Tryz.prog.wantsStandIn t=false
 simpa using QK_.1 hall t hm
theorem filmTurns_card:Rows.FilmTurnsCardSaid:=
 Claim7.holds_tied_plain_at .later [] _ _ _ _ filmTurns_said (fun _ h=>by cases h) (by kernel_rfl) (fun _ h=>by cases h) filmTurns_row_tie rfl ⟨rfl,rfl⟩ (by kernel_rfl) rfl Znk (by kernel_rfl)
#print axioms filmTurns_card
end Go.Proofs.YtfeldacghdcghaaGreatDoor
