import Derived.Test.YtfeldacghdcghaaGreatDoorFtF
import Derived.Test.YtfeldacghdcghaaGreatDoorRows
import Derived.Test.YtfeldacghdcghaaGreatDoorCards
import Derived.Test.YtfeldacghdcghaaGreatDoorTie
set_option linter.all false
namespace Go.Proofs.YtfeldacghdcghaaGreatDoor
open Go.ChangeShapes Go.WideShapes Go.ChangeAt Go.RowKit Go.Ev Go.Men
theorem ZyO:ownKnob Tryz.prog.godebug=none:=by kernel_rfl
theorem Z9f{rows:List (List PV)}(h:∀x∈rows,ZhP [.int .i64] x):∃l:List I,rows=l.map I.enc:=by
 induction rows with
 | nil=>exact ⟨[],rfl⟩
 | cons r rows ih=>
   obtain ⟨l,rfl⟩:=ih fun x hx=>h x (Qq_ _ hx)
   obtain ⟨n,r',rfl,_,h1⟩:=Zcl (h r Qv_)
   cases ZyM h1
   exact ⟨⟨n⟩::l,rfl⟩
theorem ZCp{xs:List PV}(h:ZhP [.int .i64,.int .i64,.int .i64,.int .i64,.int .i64,.int .i64] xs):∃a:RawFace,xs=RawFace.enc a:=by
 obtain ⟨n1,r1,rfl,_,h⟩:=Zcl h
 obtain ⟨n2,r2,rfl,_,h⟩:=Zcl h
 obtain ⟨n3,r3,rfl,_,h⟩:=Zcl h
 obtain ⟨n4,r4,rfl,_,h⟩:=Zcl h
 obtain ⟨n5,r5,rfl,_,h⟩:=Zcl h
 obtain ⟨n6,r6,rfl,_,h⟩:=Zcl h
 cases ZyM h
 exact ⟨⟨n1,n2,n3,n4,n5,n6⟩,rfl⟩
theorem ZAj{rows:List (List PV)}(h:∀x∈rows,ZhP [.int .i64,.int .i64,.int .i64,.int .i64,.int .i64,.int .i64] x):∃l:List RawFace,rows=l.map RawFace.enc:=by
 induction rows with
 | nil=>exact ⟨[],rfl⟩
 | cons r rows ih=>
   obtain ⟨l,rfl⟩:=ih fun x hx=>h x (Qq_ _ hx)
   obtain ⟨a,rfl⟩:=ZCp (h r Qv_)
   exact ⟨a::l,rfl⟩
theorem Zsh(w:World)(N:Nat)(hN:64≤N)(hL:laidMetH Tryz.prog Rows.filmTellsRow.laid w):GlobOk (fun k=>if k < w.heap.size then N else 0) w:=by
 have hL':laidMet Tryz.prog Rows.filmTellsRow.laid w:=hL
 obtain ⟨ps,hv,_⟩:=hL'
 obtain ⟨t0,fr0,b0⟩:=Zv9 (P:=Tryz.prog) (W:=w) ⟨ps,hv⟩ (k:= .u64) (zs:=Lib.pow10Tab) (.tail _ (.tail _ (.head _))) (g:=1) (t:=210) (by kernel_rfl) (by kernel_rfl) Tryz.underlying210 (by kernel_rfl) (by kernel_rfl) (by kernel_rfl)
 refine Z4A fun x cs hx=>?_
 unfold ZdY at hx
 rw[Zq] at hx
 split at hx
 ·rename_i e
  have:=Qa_ hx
  subst this;subst e
  exact ⟨_,t0,fr0,b0,by decide,rfl,by decide,QT_ (by decide) hN⟩
 exact absurd hx (by simp[lk])
def ZgX(cs:Array Value):Obj→Obj
 | .cells _ t frozen=> .cells cs t frozen
 | o=>o
def filmTellsArgs:Array Value:=#[.int .i64 0,.slice none 0 0,.slice none 0 0,.int .i64 0,.int .i64 0,.int .i64 0,.int .i64 0,.slice none 0 0,.int .i64 0,.int .i64 0]
noncomputable def ZdX(os:Os):World:=
 let w0:=World.holding Tryz.prog os ⟨#[],filmTellsArgs,[]⟩
 {w0 with heap:=(((w0.heap.modify 2 (ZgX #[.int .u8 0,.int .u8 1,.int .u8 28,.int .u8 2,.int .u8 29,.int .u8 14,.int .u8 24,.int .u8 3,.int .u8 30,.int .u8 22,.int .u8 20,.int .u8 15,.int .u8 25,.int .u8 17,.int .u8 4,.int .u8 8,.int .u8 31,.int .u8 27,.int .u8 13,.int .u8 23,.int .u8 21,.int .u8 19,.int .u8 16,.int .u8 7,.int .u8 26,.int .u8 12,.int .u8 18,.int .u8 6,.int .u8 11,.int .u8 5,.int .u8 10,.int .u8 9])).modify 3 (ZgX #[.int .u8 0,.int .u8 1,.int .u8 56,.int .u8 2,.int .u8 57,.int .u8 49,.int .u8 28,.int .u8 3,.int .u8 61,.int .u8 58,.int .u8 42,.int .u8 50,.int .u8 38,.int .u8 29,.int .u8 17,.int .u8 4,.int .u8 62,.int .u8 47,.int .u8 59,.int .u8 36,.int .u8 45,.int .u8 43,.int .u8 51,.int .u8 22,.int .u8 53,.int .u8 39,.int .u8 33,.int .u8 30,.int .u8 24,.int .u8 18,.int .u8 12,.int .u8 5,.int .u8 63,.int .u8 55,.int .u8 48,.int .u8 27,.int .u8 60,.int .u8 41,.int .u8 37,.int .u8 16,.int .u8 46,.int .u8 35,.int .u8 44,.int .u8 21,.int .u8 52,.int .u8 32,.int .u8 23,.int .u8 11,.int .u8 54,.int .u8 26,.int .u8 40,.int .u8 15,.int .u8 34,.int .u8 20,.int .u8 31,.int .u8 10,.int .u8 25,.int .u8 14,.int .u8 19,.int .u8 9,.int .u8 13,.int .u8 8,.int .u8 7,.int .u8 6])).modify 1 (ZgX #[.int .u64 1,.int .u64 10,.int .u64 100,.int .u64 1000,.int .u64 10000,.int .u64 100000,.int .u64 1000000,.int .u64 10000000,.int .u64 100000000,.int .u64 1000000000,.int .u64 10000000000,.int .u64 100000000000,.int .u64 1000000000000,.int .u64 10000000000000,.int .u64 100000000000000,.int .u64 1000000000000000,.int .u64 10000000000000000,.int .u64 100000000000000000,.int .u64 1000000000000000000,.int .u64 10000000000000000000]))}
theorem ZtJ(os:Os):laidMet Tryz.prog Rows.filmTellsRow.laid ((ZdX os).forCall (fun _ _=>0) ⟨#[],filmTellsArgs,[]⟩).memory:=
 laidMet_of_run' 8 (by kernel_rfl) (by kernel_rfl)
theorem Zrf(os:Os){H:Type}(enc:TypeId×Value→H):∃places,DataW.whole enc Tryz.prog ((ZdX os).forCall (fun _ _=>0) ⟨#[],filmTellsArgs,[]⟩).memory Tryz.f6.params.toList Rows.filmTellsSpec.vars false filmTellsArgs.toList 8=some ([.lit (.int .i64 0),.nil,.nil,.lit (.int .i64 0),.lit (.int .i64 0),.lit (.int .i64 0),.lit (.int .i64 0),.nil,.lit (.int .i64 0),.lit (.int .i64 0)],[],places):=
 ⟨[],by kernel_rfl⟩
set_option maxRecDepth 100000 in
theorem Zo0(os:Os)(started:os.Started)(H:Type)(enc:TypeId×Value→H)(F:Stop.Interp):
 ReturnsInHanded {} Tryz.checked os 6 .any ((OpenSpec.ofChange Rows.filmTellsSpec).preRow enc Tryz.prog Tryz.f6 Rows.filmTellsRow.domain false Rows.filmTellsRow.laid) (((OpenSpec.ofChange Rows.filmTellsSpec).at F).post enc Tryz.prog Tryz.f6 false true false false):=by
 obtain ⟨places,hx⟩:=Zrf os enc
 refine ZAi (C:=Tryz.checked) (s:=Rows.filmTellsSpec) (tb:=4) ZyO started (by kernel_rfl) Tryz.func6
  (witness_row_at (enc:=enc) (C:=Tryz.checked) false (ZdX os) filmTellsArgs rfl (by kernel_rfl) (by kernel_rfl) (by kernel_rfl)
    (OpenSpec.preRow_of_cond 8 hx (by kernel_rfl) (fun k hk=>by cases hk) (by kernel_rfl) (ZtJ os)))
  Tryz.call6 (by kernel_rfl) (by kernel_rfl) rfl (by kernel_rfl) Tryz.underlying4 ?_ Zsh ?_
 ·intro ds hds
  rw[Tryz.params6] at hds
  match ds,hds with
  | [d1,d2,d3,d4,d5,d6,d7,d8,d9,d10],_=>exact ⟨rfl,rfl,rfl⟩
 ·intro W b0 args ds p hval hA hwt
  rw[Tryz.params6] at hval hA hwt ⊢
  obtain ⟨v1,_,d1,_,_,_,rfl,rfl,_,h1,hA⟩:=trodAll_cons hA
  obtain ⟨v2,_,d2,_,_,_,rfl,rfl,_,h2,hA⟩:=trodAll_cons hA
  obtain ⟨v3,_,d3,_,_,_,rfl,rfl,_,h3,hA⟩:=trodAll_cons hA
  obtain ⟨v4,_,d4,_,_,_,rfl,rfl,_,h4,hA⟩:=trodAll_cons hA
  obtain ⟨v5,_,d5,_,_,_,rfl,rfl,_,h5,hA⟩:=trodAll_cons hA
  obtain ⟨v6,_,d6,_,_,_,rfl,rfl,_,h6,hA⟩:=trodAll_cons hA
  obtain ⟨v7,_,d7,_,_,_,rfl,rfl,_,h7,hA⟩:=trodAll_cons hA
  obtain ⟨v8,_,d8,_,_,_,rfl,rfl,_,h8,hA⟩:=trodAll_cons hA
  obtain ⟨v9,_,d9,_,_,_,rfl,rfl,_,h9,hA⟩:=trodAll_cons hA
  obtain ⟨v10,_,d10,_,_,_,rfl,rfl,_,h10,hA⟩:=trodAll_cons hA
  obtain ⟨rfl,rfl,_⟩:=trodAll_nil hA
  obtain ⟨n1,rfl,_,_,_⟩:=open_int Tryz.underlying3 (hval 0 _ _ rfl rfl) h1
  obtain ⟨rows2,N2,r2,e2,w2⟩:=Zmx (ks:=[.int .i64,.int .i64,.int .i64,.int .i64,.int .i64,.int .i64]) Tryz.underlying22 (by kernel_rfl) (hval 1 _ _ rfl rfl) h2
  obtain ⟨n2,rfl⟩:=ZAj r2
  obtain ⟨rows3,N3,r3,e3,w3⟩:=Zmx (ks:=[.int .i64]) Tryz.underlying23 (by kernel_rfl) (hval 2 _ _ rfl rfl) h3
  obtain ⟨n3,rfl⟩:=Z9f r3
  obtain ⟨n4,rfl,_,_,_⟩:=open_int Tryz.underlying3 (hval 3 _ _ rfl rfl) h4
  obtain ⟨n5,rfl,_,_,_⟩:=open_int Tryz.underlying3 (hval 4 _ _ rfl rfl) h5
  obtain ⟨n6,rfl,_,_,_⟩:=open_int Tryz.underlying3 (hval 5 _ _ rfl rfl) h6
  obtain ⟨n7,rfl,_,_,_⟩:=open_int Tryz.underlying3 (hval 6 _ _ rfl rfl) h7
  obtain ⟨rows8,N8,r8,e8,w8⟩:=Zmx (ks:=[.int .i64]) Tryz.underlying23 (by kernel_rfl) (hval 7 _ _ rfl rfl) h8
  obtain ⟨n8,rfl⟩:=Z9f r8
  obtain ⟨n9,rfl,_,_,_⟩:=open_int Tryz.underlying3 (hval 8 _ _ rfl rfl) h9
  obtain ⟨n10,rfl,_,_,_⟩:=open_int Tryz.underlying3 (hval 9 _ _ rfl rfl) h10
  have hq0:=hwt
  have hq1:=(YT hq0).2
  have hb2:=w2 _ (YT hq1).1
  rw[show Tryz.prog.bytesOf 142=48 by kernel_rfl,Qk_] at hb2
  have hq2:=(YT hq1).2
  have hb3:=w3 _ (YT hq2).1
  rw[show Tryz.prog.bytesOf 3=8 by kernel_rfl,Qk_] at hb3
  have hq3:=(YT hq2).2
  have hq4:=(YT hq3).2
  have hq5:=(YT hq4).2
  have hq6:=(YT hq5).2
  have hq7:=(YT hq6).2
  have hb8:=w8 _ (YT hq7).1
  rw[show Tryz.prog.bytesOf 3=8 by kernel_rfl,Qk_] at hb8
  have hq8:=(YT hq7).2
  have hq9:=(YT hq8).2
  have hq10:=(YT hq9).2
  have hr:reachBytes=140737488351232:=rfl
  exact ⟨_,Xu (N:=0) (fun hw _=> .v _ rfl)<|Xu (N:=N2) e2<|Xu (N:=N3) e3<|Xu (N:=0) (fun hw _=> .v _ rfl)<|Xu (N:=0) (fun hw _=> .v _ rfl)<|Xu (N:=0) (fun hw _=> .v _ rfl)<|Xu (N:=0) (fun hw _=> .v _ rfl)<|Xu (N:=N8) e8<|Xu (N:=0) (fun hw _=> .v _ rfl)<|Xu (N:=0) (fun hw _=> .v _ rfl)<|ZzQ,ZzP n1 n2 n3 n4 n5 n6 n7 n8 n9 n10 ⟨by omega,by omega,by omega⟩⟩
theorem filmTells_said:Rows.FilmTellsSaid:=
 OpenClaim.holds_of_cond 6 Tryz.f6 rfl rfl rfl rfl rfl rfl rfl ⟨rfl,rfl,rfl,rfl,rfl⟩ rfl rfl rfl rfl rfl (by kernel_rfl) Tryz.func6 (by kernel_rfl)
  (Qy_ (by kernel_rfl)) (by unfold Func.isWrapper;first | (rw[if_pos (by decide+kernel)];kernel_rfl) | (rw[if_neg (by decide+kernel)];exact ⟨rfl,rfl⟩))
  (fun os started H enc _ F=>by rw[OpenClaim.pre_eq_preRow];exact Zo0 os started H enc F)
theorem Zrg(f:FuncId)(fn:Func)(hf:Tryz.pinned.checked.prog.funcNamed Rows.filmTellsRow.func=some f)(hfn:Tryz.pinned.checked.prog.funcs[f]?=some fn):
 false=Tryz.pinned.checked.prog.looks []∧∀(j:Nat) t,fn.params[j]?=some t→Tryz.pinned.checked.prog.wantsStandIn t=false:=by
 obtain rfl:f=6:=Qa_ ((show Tryz.prog.funcNamed Rows.filmTellsRow.func=some 6 by kernel_rfl).symm.trans hf) |>.symm
 obtain rfl:fn=Tryz.f6:=(Qa_ (Tryz.func6.symm.trans hfn)).symm
 refine ⟨by kernel_rfl,fun j t ht=>?_⟩
 have hall:(Tryz.f6.params.toList.all fun t=> !Tryz.prog.wantsStandIn t)=true:=by kernel_rfl
 have hm:t∈Tryz.f6.params.toList:=by simpa using Array.mem_of_getElem? ht
 show Tryz.prog.wantsStandIn t=false
 simpa using QK_.1 hall t hm
theorem filmTells_card:Rows.FilmTellsCardSaid:=
 Claim7.holds_tied_plain_at .later [] _ _ _ _ filmTells_said (fun _ h=>by cases h) (by kernel_rfl) (fun _ h=>by cases h) filmTells_row_tie rfl ⟨rfl,rfl⟩ (by kernel_rfl) rfl Zrg (by kernel_rfl)
#print axioms filmTells_card
end Go.Proofs.YtfeldacghdcghaaGreatDoor
