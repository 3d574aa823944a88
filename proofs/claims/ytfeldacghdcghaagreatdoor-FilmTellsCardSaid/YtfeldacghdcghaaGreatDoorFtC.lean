/- A logic of frames, its evaluator for values known in part, and what the functions that the law reaches are shown to do: written for this claim. Part C. -/
import Derived.Test.YtfeldacghdcghaaGreatDoorFtB
import Derived.Test.YtfeldacghdcghaaGreatDoorChecked
import Derived.Test.YtfeldacghdcghaaGreatDoorShelf
set_option linter.all false
set_option maxRecDepth 100000
namespace Go.Ev
open Go.RowKit
section
variable {P:Program}{σ:St}{o:Oper}
theorem ZmE{x:Option Res}{r:Res}{ps:List Prop}(h:noR x=some (r,ps)):x=some r∧ps=[]:=by
 unfold noR at h
 split at h
 ·have:=Qa_ h
  cases this
  exact ⟨rfl,rfl⟩
 ·cases h
theorem Z96{E:Env}{C:Yb}:RSub (RSym E C) (RR E (CH C)):=by
 intro j τ o r ps h hp
 obtain ⟨dst,op,type,pos,after,guard⟩:=o
 unfold RSym at h
 cases op with
 | binOp op T x y yT=>
   simp only at h
   split at h
   ·rename_i hn
    obtain ⟨h1,_⟩:=ZmE h
    simp only[RR,hn] at h1 ⊢
    exact h1
   ·rename_i hn
    split at h
    ·rename_i a b ha hb
     obtain ⟨d,y0,hd,hs,hlt,rfl⟩:=Xw h
     simp only at hd
     subst hd
     obtain ⟨os,ob,h1,h2⟩:=Z4K hs hp
     simp only[RR,hn]
     exact X7 (os:=os) (ob:=ob) (by simp only[WM,ha,hb,h1]) (by simp only[Zs,ha,hb,h2]) rfl hlt rfl
    ·cases h
 | pick c x y=>
   simp only at h
   split at h
   ·rename_i a hc hx
    obtain ⟨d,y0,hd,hs,hlt,rfl⟩:=Xw h
    simp only at hd
    subst hd
    cases hs
    simp only[RR]
    exact X7 (os:=[]) (ob:=[]) (by simp only[WM]) (by simp only[Zs,hc,hx]) rfl hlt rfl
   ·rename_i a hc hx
    obtain ⟨d,y0,hd,hs,hlt,rfl⟩:=Xw h
    simp only at hd
    subst hd
    cases hs
    simp only[RR]
    exact X7 (os:=[]) (ob:=[]) (by simp only[WM]) (by simp only[Zs,hc,hx]) rfl hlt rfl
   ·cases h
 | index T x i=>
   simp only at h
   split at h
   ·exact (ZmE h).1
   ·rename_i a b hna ha hb
    obtain ⟨d,y0,hd,hs,hlt,rfl⟩:=Xw h
    simp only at hd
    subst hd
    simp only[RR]
    unfold Z4J at hs
    split at hs
    ·rename_i ty k n hty
     split at hs
     ·rename_i l hk
      have:=Qa_ hs
      cases this
      have hq:=one hp
      exact X7 (os:=[.pr True]) (ob:=_) (by simp only[WM,ha,hb,Zhe,hty,hk];simp[hq.1,hq.2]) (by simp only[Zs,ha,hb,ZdA,hty,hk];rfl) rfl hlt rfl
     ·rename_i cs hk
      split at hs
      ·rename_i ety hety
       generalize hy:ZJ ety.zero ((chunk ety.size ty.len cs).getD n.toNat [])=y at hs
       cases hb2:(Nat.beq cs.length (ty.len *ety.size)&& !(Nat.beq ety.size 0)) with
       | false=>rw[hb2] at hs;cases hs
       | true=>
         rw[hb2] at hs
         simp only[Qb_] at hs
         split at hs
         ·rename_i r0 hr0
          cases hb3:Nat.beq y.length ety.size with
          | false=>rw[hb3] at hs;cases hs
          | true=>
            rw[hb3] at hs
            have:=Qa_ hs
            cases this
            have hq:=one hp
            exact X7 (os:=[.idx [] 0 y]) (ob:=_) (by simp only[WM,ha,hb,Zhe,hty,hk,hety,hq.2];simp[hq.1]) (by simp only[Zs,ha,hb,ZdA,hty,hk,hety,hb2,Qb_,hr0,hb3];rfl) rfl hlt rfl
         ·cases hs
      ·cases hs
     ·cases hs
    ·cases hs
   ·cases h
 | indexAddr T x i=>
   simp only at h
   split at h
   ·rename_i a b d ha hb
    split at h
    ·rename_i r0 q hs
     cases hlt:Nat.blt d τ.n with
     | false=>rw[hlt] at h;cases h
     | true=>
       rw[hlt] at h
       have:=Qa_ h
       cases this
       simp only[RR]
       unfold Zpd at hs
       split at hs
       ·rename_i ty k n hty
        split at hs
        ·rename_i xs hk
         split at hs
         ·rename_i ety hety
          generalize hy:ZJ ety.zero (xs.getD n.toNat [])=y at hs
          cases hb2:(Nat.beq y.length ety.size&& !(Nat.beq ety.size 0)) with
          | false=>rw[hb2] at hs;cases hs
          | true=>
            rw[hb2] at hs
            have:=Qa_ hs
            cases this
            have hq:=one hp
            exact X7 (os:=[.idx [] 0 y]) (ob:=_) (by simp only[WM,ha,hb,Zaa,hty,hk,hq.2];simp[hq.1]) (by simp only[Zs,ha,hb,hty,hk,hety,hb2,Qb_];rfl) rfl hlt rfl
         ·cases hs
        ·rename_i b0 off hk
         split at hs
         ·rename_i ety hety
          have:=Qa_ hs
          cases this
          have hq:=one hp
          exact X7 (os:=[.pr True]) (ob:=_) (by simp only[WM,ha,hb,Zaa,hty,hk];simp[hq.1,hq.2]) (by simp only[Zs,ha,hb,hty,hk,hety];rfl) rfl hlt rfl
         ·cases hs
        ·rename_i cs off hk
         split at hs
         ·rename_i ety hety
          have:=Qa_ hs
          cases this
          have hq:=one hp
          exact X7 (os:=[.pr True]) (ob:=_) (by simp only[WM,ha,hb,Zaa,hty,hk];simp[hq.1,hq.2]) (by simp only[Zs,ha,hb,hty,hk,hety];rfl) rfl hlt rfl
         ·cases hs
        ·cases hs
       ·cases hs
    ·cases h
   ·cases h
 | slice T x lo hi mx=>
   have key:∀(a:PV) (l h':Option PV) (y0:PV),ZkP E.Γ T a l h'=some (y0,ps)→∃ob,XR E.Γ T a l h'=some [.pr True]∧Xf E.Γ T a l h' [.pr True]=some (y0,[],ob):=by
    intro a l h' y0 hs
    have lens:∀{n:Nat} {l:List (List PV)},Lens n l→Jg n l=true:=fun hl=>QK_.2 fun x hx=>by simpa using hl x hx
    unfold ZkP at hs
    split at hs
    ·rename_i ty hty
     split at hs
     ·rename_i hk
      have:=Qa_ hs;cases this
      have hq:=one hp
      exact ⟨_,by simp only[XR,hty,hk];simp[hq.1,hq.2],by simp only[Xf,hty,hk];rfl⟩
     ·rename_i hk
      have:=Qa_ hs;cases this
      have hq:=one hp
      exact ⟨_,by simp only[XR,hty,hk];simp[hq.1,hq.2],by simp only[Xf,hty,hk];rfl⟩
     ·rename_i hk
      have:=Qa_ hs;cases this
      have hq:=one hp
      exact ⟨_,by simp only[XR,hty,hk];simp[hq.1,hq.2],by simp only[Xf,hty,hk];rfl⟩
     ·rename_i l0 hk
      split at hs
      ·rename_i ety hety
       have:=Qa_ hs;cases this
       have hq:=one hp
       exact ⟨_,by simp only[XR,hty,hk,hety];simp[hq.1,hq.2.1,hq.2.2.1,lens hq.2.2.2],by simp only[Xf,hty,hk,hety];rfl⟩
      ·rename_i ety hety
       have:=Qa_ hs;cases this
       have hq:=one hp
       exact ⟨_,by simp only[XR,hty,hk,hety];simp[hq.1,hq.2.1,lens hq.2.2],by simp only[Xf,hty,hk,hety];rfl⟩
      ·rename_i ety hety
       have:=Qa_ hs;cases this
       have hq:=one hp
       exact ⟨_,by simp only[XR,hty,hk,hety];simp[hq.1,hq.2.1,lens hq.2.2],by simp only[Xf,hty,hk,hety];rfl⟩
      ·cases hs
     ·cases hs
    ·cases hs
   cases mx with
   | some m=>cases h
   | none=>
     simp only at h
     split at h
     ·rename_i a ha
      simp only[RR]
      split at h
      ·cases h
      ·rename_i l
       split at h
       ·rename_i pl hl
        obtain ⟨d,y0,hd,hs,hlt,rfl⟩:=Xw h
        simp only at hd;subst hd
        obtain ⟨ob,h1,h2⟩:=key _ _ _ _ hs
        exact X7 (os:=[.pr True]) (ob:=ob) (by simp only[WM,ha,hl,h1]) (by simp only[Zs,ha,hl,h2]) rfl hlt rfl
       ·cases h
      ·rename_i l
       split at h
       ·rename_i pl hl
        obtain ⟨d,y0,hd,hs,hlt,rfl⟩:=Xw h
        simp only at hd;subst hd
        obtain ⟨ob,h1,h2⟩:=key _ _ _ _ hs
        exact X7 (os:=[.pr True]) (ob:=ob) (by simp only[WM,ha,hl,h1]) (by simp only[Zs,ha,hl,h2]) rfl hlt rfl
       ·cases h
      ·rename_i l m
       split at h
       ·rename_i pl pm hl hm
        obtain ⟨d,y0,hd,hs,hlt,rfl⟩:=Xw h
        simp only at hd;subst hd
        obtain ⟨ob,h1,h2⟩:=key _ _ _ _ hs
        exact X7 (os:=[.pr True]) (ob:=ob) (by simp only[WM,ha,hl,hm,h1]) (by simp only[Zs,ha,hl,hm,h2]) rfl hlt rfl
       ·cases h
     ·cases h
 | convert S T x=>
   have key:∀(a y0:PV),ZvF E S T a=some (y0,ps)→ZhX E S T a=some y0:=by
    intro a y0 hs
    unfold ZvF at hs
    unfold ZhX
    split at hs
    ·unfold noP at hs
     split at hs
     ·rename_i r0 hr0
      have:=Qa_ hs;cases this
      simp only[hr0]
     ·cases hs
    ·rename_i s b
     split at hs
     ·rename_i k s0 hk hs0
      have:=Qa_ hs;cases this
      have h1:=one hp
      have h2:=hp _ (Qq_ _ (Qv_ ..))
      have h3:=hp _ (Qq_ _ (Qq_ _ (Qv_ ..)))
      simp only[Zvs,hk,hs0]
      generalize ((s.decode b).toInt .zero).getD 0=z at h1 h2 h3
      rw[h1]
      simp[h2,h3]
     ·cases hs
    ·rename_i xs
     cases hb:(WU E S&&YX E T) with
     | false=>rw[hb] at hs;cases hs
     | true=>
       rw[hb] at hs
       have:=Qa_ hs;cases this
       have h1:=one hp
       generalize (bytesOf xs).getD []=z at h1
       simp only[Zvt,hb,Qb_,h1]
    ·cases hb:(WU E S&&YX E T) with
     | false=>rw[hb] at hs;cases hs
     | true=>
       rw[hb] at hs
       have:=Qa_ hs;cases this
       simp only[hb,Qb_]
    ·cases hb:(YX E S&&YX E T) with
     | false=>rw[hb] at hs;cases hs
     | true=>
       rw[hb] at hs
       have:=Qa_ hs;cases this
       simp only[hb,Qb_]
    ·cases hs
   have gen:∀(a y0:PV) (d:Nat),ZA τ x=some a→ZvF E S T a=some (y0,ps)→Nat.blt d τ.n=true→RRgen E (CH C) τ ⟨some d,.convert S T x,type,pos,after,guard⟩=some ⟨.p y0,none,none⟩:=by
    intro a y0 d ha hs hlt
    exact X7 (os:=[.cvt S T a y0]) (ob:=_) (by simp only[WM,ha,key a y0 hs]) (by simp only[Zs,ha];rfl) rfl hlt rfl
   simp only at h
   split at h
   ·rename_i l hx
    split at h
    ·rename_i r0 hr0
     obtain ⟨d,y0,hd,hs,hlt,rfl⟩:=Xw h
     simp only at hd;subst hd
     cases hs
     simp only[RR,hx,hr0,ZfR,hlt,Qb_]
    ·rename_i hr0
     obtain ⟨d,y0,hd,hs,hlt,rfl⟩:=Xw h
     simp only at hd;subst hd
     simp only[RR,hx,hr0]
     exact gen _ _ _ hx hs hlt
   ·rename_i a hne hx
    obtain ⟨d,y0,hd,hs,hlt,rfl⟩:=Xw h
    simp only at hd;subst hd
    unfold RR
    simp only
    split
    ·rename_i l hl
     rw[hx] at hl
     exact (hne l (Qa_ hl)).elim
    ·exact gen _ _ _ hx hs hlt
   ·cases h
 | makeSlice T l c=>
   simp only at h
   split at h
   ·rename_i pl pc hl hc
    obtain ⟨d,y0,hd,hs,hlt,rfl⟩:=Xw h
    simp only at hd;subst hd
    simp only[RR,hl,hc]
    unfold Z8J at hs
    split at hs
    ·rename_i ty k n k' m hty
     cases hk:Nat.beq ty.kd 3 with
     | false=>rw[hk] at hs;cases hs
     | true=>
       rw[hk] at hs
       simp only[Qb_] at hs
       split at hs
       ·rename_i ety hety
        cases hb:(Nat.beq ety.size 0|| !(Nat.beq ety.zero.length ety.size)) with
        | true=>rw[hb] at hs;cases hs
        | false=>
          rw[hb] at hs
          have:=Qa_ hs;cases this
          have h1:=one hp
          subst h1
          have h2:=hp _ (Qq_ _ (Qv_ ..))
          have h3:=hp _ (Qq_ _ (Qq_ _ (Qv_ ..)))
          have h4:=hp _ (Qq_ _ (Qq_ _ (Qq_ _ (Qv_ ..))))
          rw[Ka_] at hb
          have e3:Nat.ble 16777216 (n.toNat *ety.size)=false:=by
           cases hh:Nat.ble 16777216 (n.toNat *ety.size) with
           | false=>rfl
           | true=>have:=Qm_ hh;omega
          have e4:Nat.ble 16777216 (n.toNat *ety.bytes)=false:=by
           cases hh:Nat.ble 16777216 (n.toNat *ety.bytes) with
           | false=>rfl
           | true=>have:=Qm_ hh;omega
          simp only[ZfR,ZtN,hty,hk,hety,hb.1,hb.2,e3,e4,h2,QD_,QZ_,Qb_,Bool.or_self,Qd_,hlt]
       ·cases hs
    ·cases hs
   ·cases h
 | call c=>
   obtain ⟨callee,args,ats⟩:=c
   cases callee with
   | value f=>
     simp only at h
     obtain ⟨d,y0,hd,hs,hlt,rfl⟩:=Xw h
     simp only at hd;subst hd
     simp only[RR]
     have ch:∀g xs,C g xs=some (y0,ps)→CH C g xs=some y0:=by
      intro g xs hg
      unfold CH
      rw[hg]
      simp only[hp,Kx_]
     unfold Z8K at hs
     split at hs
     ·rename_i g0 cs l hf hl
      split at hs
      ·rename_i xs c hh
       split at hs
       ·rename_i r0 q hr0
        cases hb:(!c||flat r0) with
        | false=>rw[hb] at hs;cases hs
        | true=>
          rw[hb] at hs
          have:=Qa_ hs;cases this
          exact X7 (os:=[.call 0 [] y0]) (ob:=_) (by simp only[WM,Zjb,hf,hl,hh,ch _ _ hr0]) (by simp only[Zs,hf,hl,hh,hb,Qb_];rfl) rfl hlt rfl
       ·cases hs
      ·cases hs
     ·rename_i g0 bs l hf hl
      split at hs
      ·rename_i xs c cs hh hcs
       split at hs
       ·rename_i r0 q hr0
        cases hb:flat r0 with
        | false=>rw[hb] at hs;cases hs
        | true=>
          rw[hb] at hs
          have:=Qa_ hs;cases this
          exact X7 (os:=[.call 0 [] y0]) (ob:=_) (by simp only[WM,Zjb,hf,hl,hh,hcs,ch _ _ hr0]) (by simp only[Zs,hf,hl,hh,hcs,hb,Qb_];rfl) rfl hlt rfl
       ·cases hs
      ·cases hs
     ·cases hs
   | _=>
     obtain ⟨h1,_⟩:=ZmE h
     exact h1
 | _=>
   obtain ⟨h1,_⟩:=ZmE h
   exact h1
theorem Zpf{E:Env}{C:Yb}:RSub (RSym E C) (RR2 E (CH C)):=fun j τ o r ps h hp=>by
 unfold RR2
 rw[Z96 j τ o r ps h hp]
end
def ZvG(Γ:List (Nat×Ty))(σ:St)(T:TypeId)(p x:Operand):Option (St×List Prop):=
 match opd σ p,ZA σ x,lk T Γ with
 | some (.ptr b off),some v,some ty=>match lk b σ.boxes with
   | some cs=>bif Nat.beq v.cells.length ty.size&& !(Nat.beq ty.size 0)&& !(has b σ.ro) then
      match x with
      | .tmp t=>match lkL (.t t) σ.own with
        | some E=>some (Xn (Y2 σ (.t t)) b off v.cells cs [(.b b off,E)],[off+ty.size≤cs.length])
        | none=>some (Xn σ b off v.cells cs [],[off+ty.size≤cs.length])
      | _=>some (Xn σ b off v.cells cs [],[off+ty.size≤cs.length])
     else none
   | none=>none
 | _,_,_=>none
theorem Z4L{Γ:List (Nat×Ty)}{σ:St}{T:TypeId}{p x:Operand}{σ':St}{ps:List Prop}(h:ZvG Γ σ T p x=some (σ',ps))(hp:Yx ps):WS Γ σ T p x=some σ':=by
 unfold ZvG at h
 unfold WS
 split at h
 ·rename_i b off v ty h1 h2 h3
  simp only[h1,h2,h3]
  split at h
  ·rename_i cs h4
   simp only[h4]
   cases hb:(Nat.beq v.cells.length ty.size&& !(Nat.beq ty.size 0)&& !(has b σ.ro)) with
   | false=>rw[hb] at h;cases h
   | true=>
     rw[hb,Qb_] at h
     have key:off+ty.size≤cs.length→(Nat.beq v.cells.length ty.size&&Nat.ble (off+ty.size) cs.length&& !(Nat.beq ty.size 0)&& !(has b σ.ro))=true:=by
      intro hle
      simp only[Qh_] at hb ⊢
      exact ⟨⟨⟨hb.1.1,QF_ hle⟩,hb.1.2⟩,hb.2⟩
     have fin:∀{s0:St},some (s0,[off+ty.size≤cs.length])=some (σ',ps)→off+ty.size≤cs.length∧s0=σ':=by
      intro s0 e
      have e:=Qa_ e
      have e1:=Kl_ Prod.fst e
      have e2:=Kl_ Prod.snd e
      simp only at e1 e2
      subst e2
      exact ⟨hp _ Qv_,e1⟩
     split at h
     ·split at h
      ·rename_i t E h5
       obtain ⟨f1,f2⟩:=fin h
       rw[key f1,Qb_]
       simp only[h5,f2]
      ·rename_i t h5
       obtain ⟨f1,f2⟩:=fin h
       rw[key f1,Qb_]
       simp only[h5,f2]
     ·rename_i hx
      obtain ⟨f1,f2⟩:=fin h
      rw[key f1,Qb_]
      split
      ·rename_i t
       exact absurd rfl (hx t)
      ·rw[f2]
  ·cases h
 ·cases h
def Zpg(E:Env)(σ:St)(o:Oper):Option (Res×List Prop):=
 match o.dst,o.op with
 | some d,.indexAddr T x i=>match lk T E.Γ,opd σ x,ZA σ i with
   | some ty,some (.sl b off n s),some (.v (.int _ m))=>match lk ty.elem E.Γ with
     | some ety=>bif Nat.blt d σ.n&&Nat.beq ty.kd 3&&Nat.beq ety.size s then some (⟨.ptr b (off+m.toNat *s),none,none⟩,[0≤m∧m < n]) else none
     | none=>none
   | _,_,_=>none
 | _,_=>none
theorem Z4M{E:Env}{σ:St}{o:Oper}{r:Res}{ps:List Prop}(h:Zpg E σ o=some (r,ps))(hp:Yx ps):RRA E σ o=some r:=by
 obtain ⟨dst,op,type,pos,after,guard⟩:=o
 unfold Zpg at h
 split at h
 ·rename_i d T x i hd ho
  simp only at hd ho
  subst hd;subst ho
  split at h
  ·rename_i ty b off n s k m h1 h2 h3
   split at h
   ·rename_i ety h4
    cases hb:(Nat.blt d σ.n&&Nat.beq ty.kd 3&&Nat.beq ety.size s) with
    | false=>rw[hb] at h;cases h
    | true=>
      rw[hb] at h
      have h:=Qa_ h
      have e1:=Kl_ Prod.fst h
      have e2:=Kl_ Prod.snd h
      simp only at e1 e2
      subst e2;subst e1
      have hm:=hp _ Qv_
      simp only[Qh_] at hb
      unfold RRA
      simp only[h1,h2,h3,h4,hb.1.1,hb.1.2,hb.2,QH_ hm.1,QH_ hm.2,Qb_,QZ_]
   ·cases h
  ·cases h
 ·cases h
theorem ZCt{E:Env}{call:XT}{j:Nat}{σ:St}{dst:Option Tmp}{T:TypeId}{x i:Operand}{ty':TypeId}{pos:String}{after:Array Edge}{gd:Option (Nat×Bool)}{b off n s:Nat}(h:opd σ x=some (.sl b off n s)):
 RR E call j σ ⟨dst,.indexAddr T x i,ty',pos,after,gd⟩=none:=by
 simp only[RR,RRgen]
 split
 ·rename_i os hos
  have:ZaR E.Γ σ ⟨dst,.indexAddr T x i,ty',pos,after,gd⟩ os=none:=by
   unfold ZaR
   have e:Zs E.Γ σ ⟨dst,.indexAddr T x i,ty',pos,after,gd⟩ os=none:=by
    simp only[Zs,h]
    cases lk T E.Γ with
    | none=>rfl
    | some t=>cases ZA σ i with
      | none=>rfl
      | some y=>
        split
        ·rename_i h1 h2 h3
         cases h2
         split<;>simp_all
        ·rfl
   rw[e]
  rw[this]
 ·rfl
theorem Z4N{E:Env}{call:XT}{j:Nat}{σ:St}{o:Oper}{r:Res}{ps:List Prop}(h:Zpg E σ o=some (r,ps))(hp:Yx ps):RR2 E call j σ o=some r:=by
 have h2:=Z4M h hp
 obtain ⟨dst,op,type,pos,after,guard⟩:=o
 unfold Zpg at h
 split at h
 ·rename_i d T x i hd ho
  simp only at hd ho
  subst hd;subst ho
  split at h
  ·rename_i ty b off n s k m h1 h3 h4
   unfold RR2
   rw[ZCt h3]
   exact h2
  ·cases h
 ·cases h
def Z11(E:Env)(σ:St)(o:Oper):Option (Res×List Prop):=
 match o.op with
 | .call ⟨.builtin .len,args,_⟩=>match args.toList with
   | [x]=>match opd σ x with
     | some (.sl _ _ _ _)=>match RRA E σ o with
       | some r=>some (r,[])
       | none=>none
     | _=>none
   | _=>none
 | _=>none
theorem Z4O{E:Env}{call:XT}{j:Nat}{σ:St}{o:Oper}{r:Res}{ps:List Prop}(h:Z11 E σ o=some (r,ps)):RR2 E call j σ o=some r:=by
 obtain ⟨dst,op,type,pos,after,guard⟩:=o
 unfold Z11 at h
 split at h
 ·rename_i args ats ho
  simp only at ho
  subst ho
  split at h
  ·rename_i x hx
   split at h
   ·rename_i b off n s h1
    split at h
    ·rename_i r' h2
     have h:=Qa_ h
     have e1:=Kl_ Prod.fst h
     simp only at e1
     subst e1
     have hr:RR E call j σ ⟨dst,.call ⟨.builtin .len,args,ats⟩,type,pos,after,guard⟩=none:=by
      have hm:W6 (ZA σ) args.toList=none:=by
       rw[hx]
       simp only[W6,ZA,h1]
      simp only[RR,RRgen]
      split
      ·rename_i os hos
       have:ZaR E.Γ σ ⟨dst,.call ⟨.builtin .len,args,ats⟩,type,pos,after,guard⟩ os=none:=by
        unfold ZaR
        have e:Zs E.Γ σ ⟨dst,.call ⟨.builtin .len,args,ats⟩,type,pos,after,guard⟩ os=none:=by
         simp only[Zs,hm]
        rw[e]
       rw[this]
      ·rfl
     unfold RR2
     rw[hr]
     exact h2
    ·cases h
   ·cases h
  ·cases h
 ·cases h
def Z12(E:Env)(C:Yb)(j:Nat)(σ:St)(o:Oper):Option (Res×List Prop):=
 match Zpg E σ o with
 | some r=>some r
 | none=>match Z11 E σ o with
   | some r=>some r
   | none=>RSym E C j σ o
def Z8L(σ:St)(p:Operand):Bool:=match opd σ p with
 | some (.ptr b _)=>σ.tmps.any fun (_,v)=>match v with | .sl b' _ _ _=>Nat.beq b' b | _=>false
 | _=>false
theorem Z8M{E:Env}{C:Yb}:RSub (Z12 E C) (RR2 E (CH C)):=by
 intro j τ o r ps h hp
 unfold Z12 at h
 split at h
 ·rename_i q hq
  cases Qa_ h
  exact Z4N hq hp
 ·split at h
  ·rename_i q hq
   cases Qa_ h
   exact Z4O hq
  ·exact Zpf j τ o r ps h hp
variable {P:Program}
def Zcf(P:Program)(f:FuncId)(args:List PV)(E:TypeId)(r:PV):Prop:=
 ∀(hw:Nat→Nat) (w:World) (vals:List Value),(∀k,w.heap.size≤k→hw k=0)→GlobOk hw w→ArgsRep hw w vals args→
  CallRes P f vals.toArray w fun v w'=>∃hw',Qt hw w hw' w'∧Rep hw' w' v r∧OwnV P w.heap.size hw' w' E v
def ZtT(σ:St)(t:Nat):Option Nat:=match lkL (.t t) σ.own with
 | some E=>some E
 | none=>match lk t σ.al with
   | some l=>lkL l σ.own
   | none=>none
theorem Z4P{B:Nat}{g:G}{σ:St}{a:Act}{w:World}(hI:Inv P B g σ a w){t E:Nat}(h:ZtT σ t=some E):OwnV P B g.hw w E (a.tmps.getD t undef):=by
 unfold ZtT at h
 split at h
 ·rename_i E' hE
  cases Qa_ h
  obtain ⟨val,k1,k2,_⟩:=hI.own _ _ hE
  have k1:a.tmps.getD t undef=val:=k1
  rw[k1];exact k2
 ·split at h
  ·rename_i l hl
   obtain ⟨val,k1,k2,_⟩:=hI.own _ _ h
   rw[Zay (hI.al t l (ZcE hl)) k1];exact k2
  ·cases h
theorem Z97{Γ:List (Nat×Ty)}(hΓ:Yo P Γ){f:FuncId}{fn:Func}{c:Code}(hcall:∀args w,(callFunc f args).run P w= .ok (.enter f args) w)(hf:P.funcs[f]?=some fn)(hb:fn.body=some c)
 {args:List PV} (hn:Nat.ble args.length fn.ntmps=true) {e:Ex} {σ':St} (ht:Tri P c (X6 fn.ntmps args) e σ') (he:JI e=true) {t:Nat} (hres:fn.results=#[.tmp t]) {E:TypeId} (hown:ZtT σ' t=some E) {r:List PV} (hr:ZaT Γ σ' fn.results.toList=some r):Zcf P f args E (ZbM r):=by
 intro hw w vals hl hgl ha
 refine .inr ⟨f,hcall _ _,calls_of_wp hf hb (wp_mono (ht _ _ _ w (Zvc hl hgl ha (Qm_ hn))) fun ex a' w' ⟨hx,g',hI,hF⟩=>?_)⟩
 have key:a'.defers=[]∧∃v,(results fn a'.tmps).run P w'= .ok v w'∧∃v0,Ending.returned v= .returned v0∧∃hw',Qt hw w hw' w'∧Rep hw' w' v0 (ZbM r)∧OwnV P w.heap.size hw' w' E v0:=by
  obtain ⟨v,h1,h2⟩:=Zm1 hΓ hI hr
  have nl:∀k,¬Zan ⟨fun _=>none,hw⟩ (X6 fn.ntmps args) k:=fun k ⟨b,cs,base,_,h,_⟩=>by simp[X6,lk] at h
  have k2:=Z4P hI hown
  have hv:v=a'.tmps.getD t undef:=by
   have e:(results fn a'.tmps).run P w'= .ok (a'.tmps.getD t undef) w':=by
    unfold results
    rw[hres,KE_]
    simp only[map_eq_pure_bind,bind_assoc,pure_bind,Sem.run_bind,List.mapM_cons,List.mapM_nil,Sem.run_pure,Result.andThen_ok]
    rfl
   rw[h1] at e
   injection e with e1 _
  exact ⟨hI.defers,v,h1,v,rfl,g'.hw,⟨⟨hF.os,hF.tape,hF.output,hF.size,fun k hk=>hF.block k hk (nl k)⟩,fun k hk=>hF.hw k hk (nl k),hI.hwlt⟩,h2,hv▸k2⟩
 cases ex<;>first | exact key | (cases e<;>first | exact hx.elim | exact absurd he (by simp[JI]))
theorem Z98{hw:Nat→Nat}{w:World}{v:Value}{xs:List (List PV)}{B:Nat}{E:TypeId}{i:TypeInfo}(hi:P.info? E=some i)(h:Rep hw w v (.lst xs))(ho:OwnV P B hw w E v)(hs:Lens i.size xs)(hx:xs≠[])(hflat:∀x∈xs,∀y∈x,flat y=true):
 ∃k cap,v= .slice (some ⟨k,0,none⟩) xs.length cap∧B≤k∧k < w.heap.size∧xs.length≤cap∧∀(β:Nat→Option (Nat×Nat)) (hw':Nat→Nat),BoxOk ⟨β,hw'⟩ w k 0 xs.flatten:=by
 obtain ⟨i',n,xv,e1,hown,_⟩:=ho
 rw[hi] at e1
 cases Qa_ e1
 obtain ⟨hn,hc⟩:=Zex h hown hs
 subst hn
 rcases hown.2 with ⟨_,h0⟩ | ⟨k,cap,cur,rfl,hB,hb,hcap,_,_,_⟩
 ·exact absurd (QM_ h0) hx
 ·refine ⟨k,cap,rfl,hB,(QL_.1 hb).1,hcap,fun β hw'=>⟨fun j y hj=>?_⟩⟩
  obtain ⟨a,b,x,h4,h5,h6⟩:=Zjh hs hj
  obtain ⟨u,h7,h8,h9⟩:=hc a b x y h4 h5
  refine ⟨u, ?_,h8,hown.frozenAt _,.rep (ZuU (hflat x (Qz_ h4) y (Qz_ h5)) h9)⟩
  have:=hown.cells (g:=k) rfl (a *i.size+b) u h7
  rw[Addr.add_lit] at this
  rw[h6]
  exact this
def ZAw(P:Program)(f:FuncId)(args:List PV)(n:Nat)(cs:List PV):Prop:=
 ∀(hw:Nat→Nat) (w:World) (vals:List Value),(∀k,w.heap.size≤k→hw k=0)→GlobOk hw w→ArgsRep hw w vals args→
  CallRes P f vals.toArray w fun v w'=>∃hw' k cap,Qt hw w hw' w'∧v= .slice (some ⟨k,0,none⟩) n cap∧w.heap.size≤k∧k < w'.heap.size∧n≤cap∧hw' k=0∧∀(β:Nat→Option (Nat×Nat)) (hw2:Nat→Nat),BoxOk ⟨β,hw2⟩ w' k 0 cs
theorem Z99{f:FuncId}{args:List PV}{E:TypeId}{xs:List (List PV)}{i:TypeInfo}(h:Zcf P f args E (.lst xs))(hi:P.info? E=some i)(hs:Lens i.size xs)(hx:xs≠[])(hflat:∀x∈xs,∀y∈x,flat y=true):ZAw P f args xs.length xs.flatten:=by
 intro hw w vals hl hgl ha
 refine (h hw w vals hl hgl ha).mono fun v w' ⟨hw',q,hr,ho⟩=>?_
 obtain ⟨k,cap,h1,h2,h3,h4,h5⟩:=Z98 hi hr ho hs hx hflat
 refine ⟨fun j=>if j=k then 0 else hw' j,k,cap,⟨q.below,fun j hj=>?_,fun j hj=>?_⟩,h1,h2,h3,h4,by simp,h5⟩
 ·show (if j=k then 0 else hw' j)=hw j
  rw[if_neg (by omega)]
  exact q.hw j hj
 ·show (if j=k then 0 else hw' j)=0
  rw[if_neg (by omega)]
  exact q.hwlt j hj
theorem Zzh{B:Nat}{g:G}{σ:St}{a:Act}{w:World}(hI:Inv P B g σ a w){f:FuncId}{vals:List Value}{xs:List PV}{n:Nat}{cs:List PV}(hc:ZAw P f xs n cs)(ha:ArgsRep g.hw w vals xs)
 {d s:Nat} (hd:d < σ.n) (hdb:lk d σ.boxes=none) (hrf:∀y∈cs,Xz y=none):
 CallRes P f vals.toArray w fun v w'=>∃g',Inv P B g' (put {σ with boxes:=(d,cs)::σ.boxes} d (.sl d 0 n s)) (a.put (some d) v) w'∧Fr B g σ w g' (put {σ with boxes:=(d,cs)::σ.boxes} d (.sl d 0 n s)) w':=by
 refine (hc _ w vals hI.hwlt hI.glob.1 ha).mono fun v w' ⟨hw',k,cap,q,hv,h1,h2,h3,h4,h5⟩=>?_
 obtain ⟨i1,f1⟩:=Zk0 hI q
 subst hv
 have hnb:∀b cs base,lk b σ.boxes=some cs→g.β b≠some (k,base):=by
  intro b cs base hb e
  obtain ⟨k',base',e1,e2,_⟩:=hI.box b cs hb
  rw[e] at e1
  cases Qa_ e1
  omega
 have hno:∀l E val,lkL l σ.own=some E→LocIs ⟨g.β,hw'⟩ a w' l val→val.ownBlock≠some k:=by
  intro l E val hl hloc e
  obtain ⟨val0,q1,q2,_⟩:=hI.own l E hl
  have:val0=val:=by
   cases l with
   | t t=>exact q1.symm.trans hloc
   | b b c=>
     obtain ⟨k1,b1,e1,e2⟩:=q1
     obtain ⟨k2,b2,e3,e4⟩:=hloc
     have e3:g.β b=some (k2,b2):=e3
     rw[e1] at e3
     cases Qa_ e3
     obtain ⟨c1,hc1⟩:=hI.ownt _ E hl
     obtain ⟨k3,b3,e5,e6,_⟩:=hI.box b c1 hc1
     rw[e1] at e5
     cases Qa_ e5
     rw[q.cell k1 _ e6] at e4
     exact Qa_ (e2.symm.trans e4)
  subst this
  have:=(Y7 q2 k e).1
  omega
 obtain ⟨i2,f2⟩:=Z47 i1 (s:=s) hd hdb h2 (QT_ hI.base h1) h4 h3 hnb hno (h5 _ _) (fun y hy b' hb'=>by rw[hrf y hy] at hb';cases hb')
 exact ⟨_,i2,f1.trans f2⟩
abbrev Y4:=Nat→List PV→List PV→Option (PV×List PV×List Prop)
abbrev Y0:=Nat→St→List AV→Option (PV×St×List Prop)
open Classical in
noncomputable def CHP(C:Y4):ZoQ:=fun f cs args=>match C f cs args with
 | some (r,cs',ps)=>if Yx ps then some (r,cs') else none
 | none=>none
open Classical in
noncomputable def CHI(C:Y0):Zji:=fun f σ args=>match C f σ args with
 | some (r,σ',ps)=>if Yx ps then some (r,σ') else none
 | none=>none
def CSPOk(P:Program)(C:Y4):Prop:=∀f cs args r cs' ps,C f cs args=some (r,cs',ps)→Yx ps→ZfK P f cs args r cs'
def CSIOk(P:Program)(C:Y0):Prop:=∀f σ args r σ' ps,C f σ args=some (r,σ',ps)→Yx ps→Z1b P f σ args r σ'
theorem Z4Q{P:Program}{C:Y4}(h:CSPOk P C):Z0g P (CHP C):=fun f cs args r cs' hr=>by
 unfold CHP at hr
 split at hr
 ·rename_i r' cs2 ps h1
  split at hr
  ·rename_i hp
   have:=Qa_ hr
   cases this
   exact h _ _ _ _ _ _ h1 hp
  ·cases hr
 ·cases hr
theorem Z4R{P:Program}{C:Y0}(h:CSIOk P C):Zrw P (CHI C):=fun f σ args r σ' hr=>by
 unfold CHI at hr
 split at hr
 ·rename_i r' cs2 ps h1
  split at hr
  ·rename_i hp
   have:=Qa_ hr
   cases this
   exact h _ _ _ _ _ _ h1 hp
  ·cases hr
 ·cases hr
def noT(x:Option St):Option (St×List Prop):=match x with
 | some σ=>some (σ,[])
 | none=>none
def Ze5(E:Env)(C:Yb)(j:Nat)(σ:St)(o:Oper):Option (St×List Prop):=
 match Z12 E C j σ o with
 | some (r,ps)=>match o.dst with
   | some d=>some (Wd σ d r,ps)
   | none=>bif Y8 r.box then some (σ,ps) else none
 | none=>none
def ZAx:List Obl→Option Prop
 | [.pr p]=>some p
 | _=>none
def Z4S(C:Y0)(σ:St)(o:Oper)(fid:Nat)(args:List Operand):Option (St×List Prop):=
 match W6 (opd σ) args with
 | some l=>bif l.all (ZdF σ.boxes)&&Jy σ.boxes then
    match C fid σ l with
    | some (r,σ1,ps)=>match o.dst with
      | some d=>bif Nat.blt d σ1.n then some (put σ1 d (.p r),ps) else none
      | none=>some (σ1,ps)
    | none=>none
   else none
 | none=>none
def Zib(xs:List (List PV)):List UInt8:=(bytesOf xs).getD []
def Z7q(σ:St)(e:TypeId)(dst:Option Nat)(x:Operand):Option (St×List Prop):=
 match opd σ x,dst with
 | some (.ptr b off),some d=>match lk b σ.boxes with
   | some (.bld _::y::_)=>bif Nat.beq off 0&&Nat.blt d σ.n then
     match y with
     | .nil=>some (put σ d (.p (.str [])),[])
     | .lst xs=>match lkL (.b b 1) σ.own with
       | some E=>bif Nat.beq E e then some (put (Y2 σ (.b b 1)) d (.p (.str (Zib xs))),[∃c l,bytesOf xs=some (c::l)]) else none
       | none=>none
     | _=>none
     else none
   | _=>none
 | _,_=>none
theorem Z7r{σ σ':St}{e:TypeId}{dst:Option Nat}{x:Operand}{ps:List Prop}(h:Z7q σ e dst x=some (σ',ps))(hp:Yx ps):ZkH σ e dst x=some σ':=by
 unfold Z7q at h
 unfold ZkH
 split at h
 ·rename_i b off d hx
  simp only[hx]
  split at h
  ·rename_i u y r hb
   simp only[hb]
   cases hc:(Nat.beq off 0&&Nat.blt d σ.n) with
   | false=>rw[hc] at h;cases h
   | true=>
     rw[hc] at h
     simp only[Qb_] at h ⊢
     split at h
     ·cases Qa_ h;rfl
     ·rename_i xs
      split at h
      ·rename_i E hE
       cases he:Nat.beq E e with
       | false=>rw[he] at h;cases h
       | true=>
         rw[he] at h
         cases Qa_ h
         obtain ⟨c,l,hl⟩:∃c l,bytesOf xs=some (c::l):=hp _ Qv_
         simp only[hl,hE,he,Qb_,Zib,Kt_]
      ·cases h
     ·cases h
  ·cases h
 ·cases h
def Z8N(E:Env)(C:Yb)(CP:Y4)(CI:Y0)(j:Nat)(σ:St)(o:Oper)(f:Operand)(args:List Operand):Option (St×List Prop):=
 match f with
 | .func fid=>bif has fid E.wr then
    match args with
    | p::rest=>match opd σ p,W6 (opd σ) rest with
      | some (.ptr b off),some l=>match lk b σ.boxes,XO σ.boxes l with
        | some cs,some (xs,_)=>match CP fid (cs.drop off) xs with
          | some (r,cs',ps)=>match ZhU σ o.dst f args [.callp 0 [] [] r cs'] with
            | some (σ',_,_)=>bif Nat.beq cs'.length (cs.length - off) then some (σ',ps) else none
            | none=>none
          | none=>none
        | _,_=>none
      | _,_=>none
    | []=>none
   else bif has fid E.inl then Z4S CI σ o fid args
   else bif has fid E.cc then (match args with | [x]=>noT (Z1c σ o.dst x) | _=>none)
   else match lk fid E.bst with
   | some e=>(match args with | [x]=>Z7q σ e o.dst x | _=>none)
   | none=>Ze5 E C j σ o
 | _=>Ze5 E C j σ o
def apS(E:Env)(σ:St)(d:Nat)(x y:Operand)(t u:TypeId):Option (St×List Prop):=
 match lk t E.Γ,ZA σ x,ZA σ y with
 | some ty,some xv,some (.str l)=>bif YX E u&&Nat.beq ty.kd 3 then
    match lk ty.elem E.Γ with
    | some ety=>bif Nat.beq ety.size 1&&Nat.beq ety.bytes 1 then
      match xv,x with
      | .nil,_=>some (JY (put σ d (.p (.lst (ZK l)))) d ty.elem,[0+l.length≤140737488355328])
      | .lst xs,.tmp t1=>
        match lkL (match lk t1 σ.al with | some l=>l | none=> .t t1) σ.own with
        | some E'=>bif Nat.beq E' ty.elem then some (JY (put (Y2 σ (match lk t1 σ.al with | some l=>l | none=> .t t1)) d (.p (.lst (xs++ZK l)))) d ty.elem,[xs.length+l.length≤140737488355328∧Lens 1 xs]) else none
        | none=>none
      | _,_=>none
      else none
    | none=>none
   else none
 | _,_,_=>none
theorem Z9A{E:Env}{σ σ':St}{d:Nat}{x y:Operand}{t u:TypeId}{ps:List Prop}(h:apS E σ d x y t u=some (σ',ps))(hp:Yx ps):Ze3 E σ d x y t u=some σ':=by
 unfold apS at h
 unfold Ze3
 split at h
 ·rename_i ty xv l hty hx hy
  simp only[hty,hx,hy]
  cases hb:(YX E u&&Nat.beq ty.kd 3) with
  | false=>rw[hb] at h;cases h
  | true=>
    rw[hb] at h
    simp only[Qb_] at h ⊢
    split at h
    ·rename_i ety hety
     simp only[hety]
     cases hb2:(Nat.beq ety.size 1&&Nat.beq ety.bytes 1) with
     | false=>rw[hb2] at h;cases h
     | true=>
       rw[hb2] at h
       simp only[Qb_] at h ⊢
       split at h
       ·cases Qa_ h
        have h1:0+l.length≤140737488355328:=hp _ Qv_
        simp only[QF_ h1,Qb_]
       ·rename_i xs t1
        have fin:∀{L:Loc},(match lkL L σ.own with
         | some E'=>bif Nat.beq E' ty.elem then some (JY (put (Y2 σ L) d (.p (.lst (xs++ZK l)))) d ty.elem,[xs.length+l.length≤140737488355328∧Lens 1 xs]) else none
         | none=>none)=some (σ',ps)→(match lkL L σ.own with
         | some E'=>bif Nat.beq E' ty.elem&&Nat.ble (xs.length+l.length) 140737488355328&&Jg 1 xs then some (JY (put (Y2 σ L) d (.p (.lst (xs++ZK l)))) d ty.elem) else none
         | none=>none)=some σ':=by
         intro L h
         split at h
         ·rename_i E' hE
          cases hb3:Nat.beq E' ty.elem with
          | false=>rw[hb3] at h;cases h
          | true=>
            rw[hb3] at h
            cases Qa_ h
            obtain ⟨h1,h2⟩:xs.length+l.length≤140737488355328∧Lens 1 xs:=hp _ Qv_
            have h3:Jg 1 xs=true:=QK_.2 fun x hx=>by simpa using h2 x hx
            simp only[hE,hb3,QF_ h1,h3,QZ_,Qb_]
         ·cases h
        cases hal:lk t1 σ.al with
        | none=>simp only[hal] at h ⊢;exact fin h
        | some l2=>simp only[hal] at h ⊢;exact fin h
       ·cases h
    ·cases h
 ·cases h
def TSym(E:Env)(C:Yb)(CP:Y4)(CI:Y0)(j:Nat)(σ:St)(o:Oper):Option (St×List Prop):=
 match o.op with
 | .store T p x=>match o.dst with
   | none=>bif Z8L σ p then ZvG E.Γ σ T p x else match WS E.Γ σ T p x with
     | some σ'=>some (σ',[])
     | none=>none
   | some _=>none
 | .buildSlice T n ps=>bif has T E.sla&&Nat.beq n 0 then
    match o.dst,ps.toList with
    | some d,[]=>noT (ZtO E σ d T)
    | _,_=>none
   else Ze5 E C j σ o
 | .call ⟨.builtin .append,args,ats⟩=>match args.toList,ats.toList,o.dst with
   | [x,y],[t,t'],some d=>bif has t E.sla&&isE σ x then noT (Zm9 E σ d x y t t') else bif Nat.beq t t' then (bif Nat.blt d σ.n then
       match Zax E.Γ σ d x y t t' [.pr True] with
       | some (σ',_,ob)=>match ZAx ob with
         | some p=>some (σ',[p])
         | none=>none
       | none=>none
     else none) else bif Nat.blt d σ.n then apS E σ d x y t t' else none
   | _,_,_=>none
 | .slice T x none none none=>match o.dst with
   | some d=>bif Nat.blt d σ.n then noT (ZiO E.Γ σ d T x) else none
   | none=>none
 | .call ⟨.value f,args,_⟩=>Z8N E C CP CI j σ o f args.toList
 | .alloc T=>bif Nat.beq T Zc9 then noT (ZkI E Zpe j σ o T) else Ze5 E C j σ o
 | _=>Ze5 E C j σ o
section
variable {P:Program}{σ:St}{o:Oper}
theorem Zic{x:Option St}{r:St}{ps:List Prop}(h:noT x=some (r,ps)):x=some r∧ps=[]:=by
 unfold noT at h
 split at h
 ·have:=Qa_ h
  cases this
  exact ⟨rfl,rfl⟩
 ·cases h
theorem Z13{E:Env}{C:Yb}{j:Nat}{σ':St}{ps:List Prop}(h:Ze5 E C j σ o=some (σ',ps))(hp:Yx ps):Zbw E (CH C) j σ o=some σ':=by
 unfold Ze5 at h
 unfold Zbw
 split at h
 ·rename_i r q hr
  split at h
  ·rename_i d hd
   have:=Qa_ h
   cases this
   simp only[Z8M j σ o r _ hr hp,hd]
  ·rename_i hd
   cases hb:Y8 r.box with
   | false=>rw[hb] at h;cases h
   | true=>
     rw[hb] at h
     have:=Qa_ h
     cases this
     simp only[Z8M j σ o r _ hr hp,hd,hb,Qb_]
 ·cases h
theorem ZAy{Γ:List (Nat×Ty)}{d:Nat}{x y:Operand}{t t':TypeId}{σ':St}{os ob:List Obl}{p:Prop}(h:Zax Γ σ d x y t t' [.pr True]=some (σ',os,ob))(ho:ZAx ob=some p)(hp:p):Zcq Γ σ x y t=true:=by
 have lens:∀{n:Nat} {l:List (List PV)},Lens n l→Jg n l=true:=fun hl=>QK_.2 fun x hx=>by simpa using hl x hx
 have blt:∀{a b:Nat},a < b→Nat.blt a b=true:=fun h=>QF_ h
 unfold Zax at h
 unfold Zcq
 split at h
 ·rename_i ty xv ys _ os' hty hx hy he
  simp only[hty,hx,hy]
  cases hb:(Nat.beq t t'&&Nat.beq ty.kd 3) with
  | false=>rw[hb] at h;cases h
  | true=>
    rw[hb] at h
    simp only[Qb_] at h
    split at h
    ·rename_i ety hety
     cases hb2:(Nat.beq ety.size 0||Nat.beq ety.bytes 0) with
     | true=>rw[hb2] at h;cases h
     | false=>
       rw[hb2] at h
       simp only[Qd_] at h
       split at h
       ·have:=Qa_ h
        cases this
        cases ho
        simp only[hety,blt hp.1,QF_ hp.2.1,lens hp.2.2,QZ_]
       ·rename_i xs t1
        split at h
        ·rename_i E1 hE1
         cases hb3:Nat.beq E1 ty.elem with
         | false=>simp only[hb3] at h;cases h
         | true=>
           simp only[hb3] at h
           have:=Qa_ h
           cases this
           cases ho
           simp only[hety,blt hp.1,QF_ hp.2.1,lens hp.2.2,QZ_]
        ·cases h
       ·cases h
    ·cases h
 ·cases h
theorem Z0q{E:Env}{C:Yb}{CP:Y4}{CI:Y0}:TSub (TSym E C CP CI) (TT E (CH C) (CHP CP) (CHI CI)):=by
 intro j σ o σ' ps h hp
 have hQ:∀{o:Oper},Ze5 E C j σ o=some (σ',ps)→Zbw E (CH C) j σ o=some σ':=fun h=>Z13 h hp
 obtain ⟨dst,op,type,pos,after,guard⟩:=o
 unfold TSym at h
 cases op with
 | store T p x=>
   cases dst with
   | some d=>cases h
   | none=>
     simp only at h
     cases hb:Z8L σ p with
     | true=>
       rw[hb,Qb_] at h
       simp only[TT,Z4L h hp]
     | false=>
       rw[hb,Qd_] at h
       split at h
       ·rename_i σ2 h2
        have:=Qa_ h
        cases this
        simp only[TT,h2]
       ·cases h
 | buildSlice T n q=>
   simp only at h
   simp only[TT]
   cases hb:(has T E.sla&&Nat.beq n 0) with
   | false=>rw[hb] at h;exact hQ h
   | true=>
     rw[hb] at h
     simp only[Qb_] at h ⊢
     split at h
     ·rename_i d hd hps
      simp only[hps]
      exact (Zic h).1
     ·cases h
 | slice T x lo hi mx=>
   cases lo with
   | some l=>exact hQ h
   | none=>cases hi with
     | some l=>exact hQ h
     | none=>cases mx with
       | some l=>exact hQ h
       | none=>
         cases dst with
         | none=>cases h
         | some d=>
           simp only at h
           simp only[TT]
           cases hb:Nat.blt d σ.n with
           | false=>rw[hb] at h;cases h
           | true=>rw[hb] at h;exact (Zic h).1
 | alloc T=>
   simp only at h
   simp only[TT,ZkI]
   cases hb:Nat.beq T Zc9 with
   | false=>rw[hb] at h;exact hQ h
   | true=>
     rw[hb] at h
     have h1:=(Zic h).1
     simp only[ZkI,hb,Qb_] at h1
     exact h1
 | call c=>
   obtain ⟨callee,args,ats⟩:=c
   cases callee with
   | value f=>
     simp only at h
     simp only[TT]
     unfold Z8N at h
     unfold Z1e
     split at h
     ·rename_i fid
      simp only
      cases hb:has fid E.wr with
      | true=>
        rw[hb] at h
        simp only[Qb_] at h ⊢
        split at h
        ·rename_i p rest hargs
         split at h
         ·rename_i b off l hop hl
          split at h
          ·rename_i cs xs c hcs hxs
           split at h
           ·rename_i r cs' q hcp
            split at h
            ·rename_i σ1 _ _ h1
             cases hb2:Nat.beq cs'.length (cs.length - off) with
             | false=>rw[hb2] at h;cases h
             | true=>
               rw[hb2] at h
               have:=Qa_ h
               cases this
               have hch:CHP CP fid (cs.drop off) xs=some (r,cs'):=by
                unfold CHP
                rw[hcp]
                simp only[hp,Kx_]
               simp only[hargs,hop,hl,hcs,hxs,hch]
               rw[hargs] at h1
               simp only[h1,hb2,Qb_]
            ·cases h
           ·cases h
          ·cases h
         ·cases h
        ·cases h
      | false=>
        rw[hb] at h
        simp only[Qd_] at h ⊢
        cases hb2:has fid E.inl with
        | true=>
          rw[hb2] at h
          simp only[Qb_] at h ⊢
          unfold Z4S at h
          unfold ZtP
          split at h
          ·rename_i l hl
           simp only[hl]
           cases hb3:(l.all (ZdF σ.boxes)&&Jy σ.boxes) with
           | false=>rw[hb3] at h;cases h
           | true=>
             rw[hb3] at h
             simp only[Qb_] at h ⊢
             split at h
             ·rename_i r σ1 q hci
              have hch:Yx q→CHI CI fid σ l=some (r,σ1):=by
               intro hq
               unfold CHI
               rw[hci]
               simp only[hq,Kx_]
              cases dst with
              | some d=>
                simp only at h ⊢
                cases hb4:Nat.blt d σ1.n with
                | false=>rw[hb4] at h;cases h
                | true=>
                  rw[hb4] at h
                  have:=Qa_ h
                  cases this
                  simp only[hch hp,hb4,Qb_]
              | none=>
                simp only at h ⊢
                have:=Qa_ h
                cases this
                simp only[hch hp]
             ·cases h
          ·cases h
        | false=>
          rw[hb2] at h
          simp only[Qd_] at h ⊢
          cases hb3:has fid E.cc with
          | true=>
            rw[hb3] at h
            simp only[Qb_] at h ⊢
            split at h
            ·rename_i x hx
             simp only[hx]
             exact (Zic h).1
            ·cases h
          | false=>
            rw[hb3] at h
            simp only[Qd_] at h ⊢
            split at h
            ·rename_i e he
             simp only[he]
             split at h
             ·rename_i x hx
              simp only[hx]
              exact Z7r h hp
             ·cases h
            ·rename_i he
             simp only[he]
             exact hQ h
     ·rename_i hne
      split
      ·rename_i fid;exact (hne fid rfl).elim
      ·exact hQ h
   | builtin b=>
     cases b with
     | append=>
       simp only at h
       simp only[TT]
       split at h
       ·rename_i x y t t' d hargs hats
        simp only[hargs,hats]
        cases hb:(has t E.sla&&isE σ x) with
        | true=>
          rw[hb] at h
          exact (Zic h).1
        | false=>
          rw[hb] at h
          simp only[Qd_] at h ⊢
          cases hb2:Nat.beq t t' with
          | true=>
            rw[hb2] at h
            simp only[Qb_] at h ⊢
            cases hb3:Nat.blt d σ.n with
            | false=>rw[hb3] at h;cases h
            | true=>
              rw[hb3] at h
              simp only[Qb_] at h
              split at h
              ·rename_i σ1 os1 ob1 h1
               split at h
               ·rename_i p hpr
                have:=Qa_ h
                cases this
                simp only[ZAy h1 hpr (one hp),QZ_,Qb_,h1]
               ·cases h
              ·cases h
          | false=>
            rw[hb2] at h
            simp only[Qd_] at h ⊢
            cases hb3:Nat.blt d σ.n with
            | false=>rw[hb3] at h;cases h
            | true=>rw[hb3] at h;exact Z9A h hp
       ·cases h
     | _=>exact hQ h
   | _=>exact hQ h
 | _=>exact hQ h
end
structure Gx where
 pb:List (Nat×List Nat)
 cb:List Nat
 ow:List (Nat×Nat)
 nf:List Nat
 ob:List Nat
def noG:Gx:=⟨[],[],[],[],[]⟩
structure HdOk(cs:List PV):Prop where
 h:YJ cs=true
def Z7s(d:Nat)(σ:St):Option (St×List Prop):=match lk d σ.tmps with
 | some (.sl b off n s)=>match lk b σ.boxes with
   | some cs=>bif Nat.blt d σ.n&&Nat.beq off 0 then
      some ({σ with tmps:=(d,.p (.lst (chunk s n cs)))::σ.tmps,ro:=b::σ.ro},[cs.length=n *s∧HdOk cs])
     else none
   | none=>none
 | some _=>some (σ,[])
 | none=>none
def Zph:List Nat→St→Option (St×List Prop)
 | [],σ=>some (σ,[])
 | d::r,σ=>match Z7s d σ with
   | some (σ1,ps)=>match Zph r σ1 with
     | some (σ2,qs)=>some (σ2,ps++qs)
     | none=>none
   | none=>none
theorem W9{l l':List Prop}(h:Yx (l++l')):Yx l∧Yx l':=⟨fun p hp=>h p (Kh_ _ hp),fun p hp=>h p (Kr_ _ hp)⟩
section
variable {P:Program}{B:Nat}{g:G}{σ σ':St}{a:Act}{w:World}
theorem Z7t(hI:Inv P B g σ a w){d:Nat}{x:PV}(hd:d < σ.n)(hr:Rep g.hw w (a.tmps.getD d undef) x):Inv P B g {σ with tmps:=(d,.p x)::σ.tmps} a w:=by
 have lkc:∀t' v,lk t' ((d,AV.p x)::σ.tmps)=some v→(t'=d∧v= .p x)∨lk t' σ.tmps=some v:=by
  intro t' v h
  rw[Zq] at h
  split at h
  ·rename_i e
   exact .inl ⟨e,(Qa_ h).symm⟩
  ·exact .inr h
 refine ⟨hI.size,hI.defers,fun t' v h=>?_,fun t' b off h=>?_,fun t' f bs h=>?_,hI.box,hI.inj,hI.hwlt,hI.base,hI.glob,hI.own,hI.ownt,hI.owninj,hI.al,hI.alt,fun t' b off n s h=>?_,hI.ref⟩
 ·rcases lkc t' v h with ⟨rfl,rfl⟩ | h
  ·exact ⟨hd,hr⟩
  ·exact hI.tmp t' v h
 ·rcases lkc t' _ h with ⟨_,e⟩ | h
  ·cases e
  ·exact hI.ptr t' b off h
 ·rcases lkc t' _ h with ⟨_,e⟩ | h
  ·cases e
  ·exact hI.fnp t' f bs h
 ·rcases lkc t' _ h with ⟨_,e⟩ | h
  ·cases e
  ·exact hI.sl t' b off n s h
theorem Z7u{d:Nat}{ps:List Prop}(h:Z7s d σ=some (σ',ps))(hp:Yx ps)(hI:Inv P B g σ a w):∃g',Inv P B g' σ' a w∧Fr B g σ w g' σ' w:=by
 unfold Z7s at h
 split at h
 ·rename_i b off n s hd
  split at h
  ·rename_i cs hcs
   cases hb:(Nat.blt d σ.n&&Nat.beq off 0) with
   | false=>rw[hb] at h;cases h
   | true=>
     rw[hb] at h
     cases Qa_ h
     obtain ⟨p1,p2⟩:=hp _ Qv_
     rw[Qh_] at hb
     have e0:=Qj_ hb.2
     subst e0
     have hdn:d < σ.n:=Qm_ hb.1
     obtain ⟨k,base,cap,h1,h2,h3⟩:=(hI.tmp d _ hd).2
     obtain ⟨i1,f1⟩:=ZiN hI hcs h1
     obtain ⟨k',base',hk',hlt,hok,_⟩:=i1.box b cs hcs
     have hk2:g.β b=some (k',base'):=hk'
     rw[h1] at hk2
     cases Qa_ hk2
     have hrep:Rep (fun j=>if j=k then max (g.hw j) (base+cs.length) else g.hw j) w (.slice (some ⟨k,base+0,none⟩) n cap) (.lst (chunk s n cs)):=by
      refine ZeX p1 hok.cells p2.h h2 ?_
      simp only[Kx_]
      omega
     refine ⟨_,Z7t i1 hdn (by rw[h3];exact hrep),⟨f1.os,f1.tape,f1.output,f1.size,f1.n,f1.block,f1.cell,f1.frozen,f1.hw,f1.par,f1.ext⟩⟩
  ·cases h
 ·cases Qa_ h
  exact ⟨g,hI,Fr.refl⟩
 ·cases h
theorem Zpi:∀{l:List Nat} {σ σ':St} {g:G} {ps:List Prop},Zph l σ=some (σ',ps)→Yx ps→Inv P B g σ a w→∃g',Inv P B g' σ' a w∧Fr B g σ w g' σ' w
 | [],σ,σ',g,ps,h,_,hI=>by
   cases Qa_ h
   exact ⟨g,hI,Fr.refl⟩
 | d::r,σ,σ',g,ps,h,hp,hI=>by
   unfold Zph at h
   split at h
   ·rename_i σ1 ps1 h1
    split at h
    ·rename_i σ2 qs h2
     cases Qa_ h
     obtain ⟨q1,q2⟩:=W9 hp
     obtain ⟨g1,i1,f1⟩:=Z7u h1 q1 hI
     obtain ⟨g2,i2,f2⟩:=Zpi h2 q2 i1
     exact ⟨g2,i2,f1.trans f2⟩
    ·cases h
   ·cases h
theorem Zzi(hI:Inv P B g σ a w){f:FuncId}{vals:List Value}{xs:List PV}{E:TypeId}{r:PV}(hc:Zcf P f xs E r)(ha:ArgsRep g.hw w vals xs){d:Nat}(hd:d < σ.n):
 CallRes P f vals.toArray w fun v w'=>∃g',Inv P B g' {put σ d (.p r) with own:=(.t d,E)::σ.own.filter fun (l,_)=> !(l.eq (.t d))} (a.put (some d) v) w'∧Fr B g σ w g' {put σ d (.p r) with own:=(.t d,E)::σ.own.filter fun (l,_)=> !(l.eq (.t d))} w':=by
 refine (hc _ w vals hI.hwlt hI.glob.1 ha).mono fun v w' ⟨hw',q,hr,ho⟩=>?_
 obtain ⟨i1,f1⟩:=Zk0 hI q
 have i2:=Jw i1 hd hr
 have hsz:(a.put (some d) v).tmps.getD d undef=v:=by
  have hs:=hI.size
  show (a.tmps.setIfInBounds d v).getD d undef=v
  simp[Array.getD,hs,hd]
 have hlt:∀k,v.ownBlock=some k→w.heap.size≤k:=fun k hk=>(Y7 (g:=⟨g.β,hw'⟩) ho k hk).2
 refine ⟨⟨g.β,hw'⟩,ZgY i2 hd hsz ⟨ho.choose,ho.choose_spec.choose,ho.choose_spec.choose_spec.choose,ho.choose_spec.choose_spec.choose_spec.1, ?_,ho.choose_spec.choose_spec.choose_spec.2.2⟩ ?_ ?_,⟨f1.os,f1.tape,f1.output,f1.size,f1.n,f1.block,f1.cell,f1.frozen,f1.hw,f1.par,f1.ext⟩⟩
 ·have h2:=ho.choose_spec.choose_spec.choose_spec.2.1
  refine ⟨h2.1, ?_⟩
  rcases h2.2 with h | ⟨gb,cap,cur,e1,e2,r⟩
  ·exact .inl h
  ·exact .inr ⟨gb,cap,cur,e1,QT_ hI.base e2,r⟩
 ·intro k hk b cs base hb e
  obtain ⟨k',base',e1,e2,_⟩:=hI.box b cs hb
  have e:g.β b=some (k,base):=e
  rw[e] at e1
  cases Qa_ e1
  have:=hlt k hk
  omega
 ·intro l E' val' k hl hloc hk hk2
  have hl':lkL l σ.own=some E'∧l≠ .t d:=by
   have hl:lkL l (σ.own.filter fun (l,_)=> !(l.eq (.t d)))=some E':=hl
   rw[Yr (fun l'=> !(l'.eq (.t d)))] at hl
   split at hl
   ·rename_i hn
    refine ⟨hl,fun e=>?_⟩
    subst e
    rw[Loc.eq_iff.2 rfl] at hn
    cases hn
   ·cases hl
  obtain ⟨val0,q1,q2,_⟩:=i1.own l E' hl'.1
  have hv0:val0=val':=by
   cases l with
   | t t=>
     have q1:a.tmps.getD t undef=val0:=q1
     have hloc:(a.tmps.setIfInBounds d v).getD t undef=val':=hloc
     have ne:d≠t:=fun e=>hl'.2 (by rw[e])
     rw[←q1,←hloc]
     simp only[QA_,K7_]
     simp[ne]
   | b b c=>
     obtain ⟨k1,b1,e1,e2⟩:=q1
     obtain ⟨k2,b2,e3,e4⟩:=hloc
     rw[e1] at e3
     cases Qa_ e3
     exact Qa_ (e2.symm.trans e4)
  subst hv0
  have h0:=hI.own l E' hl'.1
  obtain ⟨val1,r1,r2,_⟩:=h0
  have hv1:val1=val0:=by
   cases l with
   | t t=>exact r1.symm.trans q1
   | b b c=>
     obtain ⟨k1,b1,e1,e2⟩:=r1
     obtain ⟨k2,b2,e3,e4⟩:=q1
     have e3:g.β b=some (k2,b2):=e3
     rw[e1] at e3
     cases Qa_ e3
     obtain ⟨c1,hc1⟩:=hI.ownt _ E' hl'.1
     obtain ⟨k3,b3,e5,e6,_⟩:=hI.box b c1 hc1
     rw[e1] at e5
     cases Qa_ e5
     rw[q.cell k1 _ e6] at e4
     exact Qa_ (e2.symm.trans e4)
  subst hv1
  have:=(Y7 r2 k hk2).1
  have:=hlt k hk
  omega
end
def ZvH(E:Env)(C:Yb)(G:Gx)(σ:St)(d fid:Nat)(args:List Operand):Option (St×List Prop):=
 match lk fid G.ow,W6 (opd σ) args with
 | some T,some l=>match XO σ.boxes l with
   | some (xs,c)=>match c with
     | true=>none
     | false=>match C fid xs with
       | some (r,ps)=>match Nat.blt d σ.n with
         | false=>none
         | true=>match has d G.cb with
           | true=>match r,lk T E.Γ with
             | .lst rows,some ety=>bif Y8 (lk d σ.boxes) then
                some (put {σ with boxes:=(d,rows.flatten)::σ.boxes} d (.sl d 0 rows.length ety.size),ps++[rows≠[]∧Lens ety.size rows∧∀x∈rows,∀y∈x,flat y=true])
               else none
             | _,_=>none
           | false=>some ({put σ d (.p r) with own:=(.t d,T)::σ.own.filter fun (l,_)=> !(l.eq (.t d))},ps)
       | none=>none
   | none=>none
 | _,_=>none
def Z14(G:Gx)(σ:St)(op:BinOp)(T:TypeId)(x:Operand)(d:Nat):Option (St×List Prop):=
 match has T G.nf&&Nat.blt d σ.n with
 | false=>none
 | true=>match op,opd σ x with
   | .eql,some (.p (.fn _ _))=>some (put σ d (.p (.v (.bool false))),[])
   | .eql,some (.fnp _ _)=>some (put σ d (.p (.v (.bool false))),[])
   | .neq,some (.p (.fn _ _))=>some (put σ d (.p (.v (.bool true))),[])
   | .neq,some (.fnp _ _)=>some (put σ d (.p (.v (.bool true))),[])
   | _,_=>none
def bsO(E:Env)(σ:St)(T n:Nat)(ps:List (Nat×Operand))(d:Nat):Option (St×List Prop):=
 match W6 (fun (i,x)=>match ZA σ x with | some v=>some (i,v) | none=>none) ps with
 | some l=>match Jv E.Γ T n l,lk T E.Γ with
   | some (.lst xs),some ty=>bif Nat.blt d σ.n then some (JY (put σ d (.p (.lst xs))) d ty.elem,[]) else none
   | _,_=>none
 | none=>none
def ZvI:Operand→Bool
 | .const .nilFunc=>true
 | _=>false
def ZtU(E:Env)(C:Yb)(CP:Y4)(CI:Y0)(G:Gx)(j:Nat)(σ:St)(o:Oper):Option (St×List Prop):=
 match o.op,o.dst with
 | .call ⟨.value (.func fid),args,_⟩,some d=>(match Wf (lk fid G.ow) with
   | true=>ZvH E C G σ d fid args.toList
   | false=>TSym E C CP CI j σ o)
 | .binOp op T x y _,some d=>(match ZvI y with
   | true=>Z14 G σ op T x d
   | false=>TSym E C CP CI j σ o)
 | .buildSlice T n ps,some d=>(match has d G.ob with
   | true=>bsO E σ T n ps.toList d
   | false=>TSym E C CP CI j σ o)
 | _,_=>TSym E C CP CI j σ o
def Zfq(E:Env)(C:Yb)(CP:Y4)(CI:Y0)(G:Gx)(j:Nat)(σ:St)(o:Oper):Option (St×List Prop):=
 match (match o.dst with | some d=>lk d G.pb | none=>none) with
 | some l=>match Zph l σ with
   | some (σ1,ps)=>match ZtU E C CP CI G j σ1 o with
     | some (σ2,qs)=>some (σ2,ps++qs)
     | none=>none
   | none=>none
 | none=>ZtU E C CP CI G j σ o
structure OwOk(P:Program)(C:Yb)(G:Gx):Prop where
 o:∀f T,lk f G.ow=some T→∀args r ps,C f args=some (r,ps)→Yx ps→Zcf P f args T r
 nf:∀T,has T G.nf=true→∃a b c,P.underlying T=some (.func a b c)
theorem Zid{P:Program}:∀T,has T []=true→∃a b c,P.underlying T=some (.func a b c):=fun T h=>absurd h (by simp[has])
theorem Z0r{P:Program}{t:Nat}{l:List Nat}{a b:Array TypeId}{c:Bool}(h:P.underlying t=some (.func a b c))(hl:∀T,has T l=true→∃a b c,P.underlying T=some (.func a b c)):∀T,has T (t::l)=true→∃a b c,P.underlying T=some (.func a b c):=fun T hT=>by
 have hT:=YY.1 hT
 rcases Q9_.1 hT with e | hT
 ·subst e;exact ⟨a,b,c,h⟩
 ·exact hl T (YY.2 hT)
theorem Z7{P:Program}{C:Yb}:OwOk P C noG:=⟨fun f T h=>by simp[noG,lk] at h,Zid⟩
open Classical in
noncomputable def TG0(E:Env)(C:Yb)(CP:Y4)(CI:Y0)(G:Gx)(j:Nat)(σ:St)(o:Oper):Option St:=match Zfq E C CP CI G j σ o with
 | some (σ',ps)=>if Yx ps then some σ' else none
 | none=>none
section
variable {P:Program}{B:Nat}{g:G}{σ:St}{a:Act}{w:World}{o:Oper}
theorem Z4T(hI:Inv P B g σ a w){l:List AV}{vals:List Value}(hl:vals.length=l.length)(hv:∀(j:Nat) (v:Value) (av:AV),vals[j]?=some v→l[j]?=some av→RepA g w v av)
 {xs:List PV} (hh:XO σ.boxes l=some (xs,false)):ArgsRep g.hw w vals xs:=by
 obtain ⟨e1,e2⟩:=Zbt hh
 have getl:∀{j:Nat} {v:Value},vals[j]?=some v→∃av,l[j]?=some av:=by
  intro j v hj
  have:j < l.length:=by have:=(Qo_.1 hj).1;omega
  exact ⟨_,Qg_ this⟩
 refine ⟨by omega,fun j x y hx hy=>?_⟩
 obtain ⟨av,hav⟩:=getl hx
 obtain ⟨d,h3,h4⟩:=e2 j av y hav hy
 have hd:=h4 rfl
 subst hd
 have hr:=hv j x av hx hav
 cases av with
 | p z=>
   have:=Qa_ h3
   cases this
   exact ZdB hr
 | ptr b off=>
   unfold hand at h3
   split at h3
   ·rename_i e;cases e
   ·split at h3
    ·rename_i cs0 _
     cases hd:YJ cs0<;>rw[hd] at h3<;>cases h3
    ·cases h3
   ·rename_i e;cases e
   ·rename_i e;cases e
 | sl b off n s=>
   unfold hand at h3
   split at h3
   ·rename_i e;cases e
   ·rename_i e;cases e
   ·rename_i e;cases e
   ·cases h3
 | fnp f bs=>
   unfold hand at h3
   split at h3
   ·rename_i e;cases e
   ·rename_i e;cases e
   ·split at h3
    ·cases h3
    ·cases h3
   ·rename_i e;cases e
theorem Z7v{y:PV}(h:flat y=true):Xz y=none:=by cases y<;>first | rfl | exact absurd h (by simp[flat])
theorem Zzj{E:Env}(hE:EnvOk P E){C:Yb}{G:Gx}(hG:OwOk P C G)(hI:Inv P B g σ a w){fid d:Nat}{args:Array Operand}{ats:Array TypeId}{σ':St}{ps:List Prop}(hop:o.op= .call ⟨.value (.func fid),args,ats⟩)(hd:o.dst=some d)
 (h:ZvH E C G σ d fid args.toList=some (σ',ps)) (hp:Yx ps):Goes P B g σ a w o σ':=by
 unfold ZvH at h
 split at h
 ·rename_i T l hT hl
  split at h
  ·rename_i xs c hx
   split at h
   ·cases h
   ·split at h
    ·rename_i r qs hc
     split at h
     ·cases h
     ·rename_i hdn
      have hdn:d < σ.n:=Qm_ hdn
      obtain ⟨e1,e2⟩:=ZhS hI hl
      have ha:=Z4T hI e1 e2 hx
      have key:∀{σ2:St} {K:Value→World→Prop},CallRes P fid (args.toList.map a.eval).toArray w K→(∀v w',K v w'→∃g',Inv P B g' σ2 (a.put o.dst v) w'∧Fr B g σ w g' σ2 w')→Goes P B g σ a w o σ2:=by
       intro σ2 K hcall hnext
       refine ZcD (hcall.mono hnext) (fun res hres=>?_)
       have e:args.map a.eval=(args.toList.map a.eval).toArray:=by apply QW_;simp
       have hfv:a.eval (.func fid)= .func (.func fid) #[] #[]:=rfl
       unfold execOp
       rw[hop]
       simp only[resolve,Deferred.ofValue,hfv,pure_bind,invoke,e]
       rw[←hres]
       congr 2
       simp
      split at h
      ·split at h
       ·rename_i rows ety hety
        cases hb:Y8 (lk d σ.boxes) with
        | false=>rw[hb] at h;cases h
        | true=>
          rw[hb] at h
          cases Qa_ h
          obtain ⟨q1,q2⟩:=W9 hp
          obtain ⟨r1,r2,r3⟩:=q2 _ Qv_
          have hdb:lk d σ.boxes=none:=by
           cases hh:lk d σ.boxes with
           | none=>rfl
           | some c=>rw[hh] at hb;exact absurd hb (by simp[Y8])
          obtain ⟨i,z,hi,_,hsz,_⟩:=(Yg (hE.Γ _ _ hety)).info
          have hcon:=Z99 (hG.o _ _ hT _ _ _ hc q1) hi (by rw[←hsz];exact r2) r1 r3
          refine key (Zzh (s:=ety.size) hI hcon ha hdn hdb (fun y hy=>?_)) (fun v w' hk=>by rw[hd];exact hk)
          obtain ⟨x,hx1,hx2⟩:=List.mem_flatten.1 hy
          exact Z7v (r3 x hx1 y hx2)
       ·cases h
      ·cases Qa_ h
       exact key (Zzi hI (hG.o _ _ hT _ _ _ hc hp) ha hdn) (fun v w' hk=>by rw[hd];exact hk)
    ·cases h
  ·cases h
 ·cases h
theorem Z15{C:Yb}{G:Gx}(hG:OwOk P C G)(hI:Inv P B g σ a w){op:BinOp}{T yT:TypeId}{x y:Operand}{d:Nat}{σ':St}{ps:List Prop}(hop:o.op= .binOp op T x y yT)(hy:ZvI y=true)(hd:o.dst=some d)
 (h:Z14 G σ op T x d=some (σ',ps)):Goes P B g σ a w o σ':=by
 unfold Z14 at h
 have hyc:y= .const .nilFunc:=by
  unfold ZvI at hy
  split at hy
  ·rfl
  ·cases hy
 subst hyc
 split at h
 ·cases h
 ·rename_i hb
  rw[Qh_] at hb
  obtain ⟨ta,tb,tc,hu⟩:=hG.nf T hb.1
  have hdn:d < σ.n:=Qm_ hb.2
  have fin:∀(b:Bool),(∃f vs,a.eval x= .func f #[] vs)→(op= .eql∧b=false∨op= .neq∧b=true)→σ'=put σ d (.p (.v (.bool b)))→Goes P B g σ a w o σ':=by
   intro b ⟨f,vs,hx⟩ hbo hσ
   subst hσ
   refine .inl ⟨.bool b,w, ?_,g,by rw[hd];exact Jw hI hdn (.v _ rfl),⟨rfl,rfl,rfl,Q2_ _,rfl,fun _ _ _=>rfl,fun _ _ _ _=>rfl,fun _ _ _=>rfl,fun _ _ _=>rfl,fun _ cs' _ h=>⟨cs',h,rfl,rfl⟩,Ext.refl _ _⟩⟩
   have he:(Op.equal T (.func f #[] vs) .nilFunc).run P w= .ok false w:=by
    show (Op.equalIn 10000 T (.func f #[] vs) .nilFunc).run P w= .ok false w
    unfold Op.equalIn
    simp only[Sem.run_bind,run_underlying hu,Result.andThen_ok]
    rfl
   unfold execOp
   rw[hop]
   have e2:a.eval (.const .nilFunc)= .nilFunc:=rfl
   simp only[hx,e2]
   refine Yl ?_
   rcases hbo with ⟨rfl,rfl⟩ | ⟨rfl,rfl⟩<;>simp[eqGuard,binOp,he]
  have rp:∀{f:Nat} {cs:List PV},opd σ x=some (.p (.fn f cs))→∃f vs,a.eval x= .func f #[] vs:=fun hx=>by
   have hr:Rep g.hw w (a.eval x) (.fn _ _):=ZY hI hx
   generalize a.eval x=v at hr
   cases hr with
   | fn f vs cs _ _=>exact ⟨_,_,rfl⟩
  have rf:∀{f:Nat} {bs:List Nat},opd σ x=some (.fnp f bs)→∃f vs,a.eval x= .func f #[] vs:=fun hx=>by
   obtain ⟨vs,h1,_⟩:=ZY hI hx
   exact ⟨_,_,h1⟩
  split at h
  ·rename_i hx;cases Qa_ h;exact fin _ (rp hx) (.inl ⟨rfl,rfl⟩) rfl
  ·rename_i hx;cases Qa_ h;exact fin _ (rf hx) (.inl ⟨rfl,rfl⟩) rfl
  ·rename_i hx;cases Qa_ h;exact fin _ (rp hx) (.inr ⟨rfl,rfl⟩) rfl
  ·rename_i hx;cases Qa_ h;exact fin _ (rf hx) (.inr ⟨rfl,rfl⟩) rfl
  ·cases h
theorem Z9B{Γ:List (Nat×Ty)}(hΓ:Yo P Γ){hw:Nat→Nat}{T:TypeId}{n:Nat}{ps:List (Nat×PV)}{xs:List (List PV)}{ty:Ty}(h:Jv Γ T n ps=some (.lst xs))(hty:lk T Γ=some ty)(hl0:∀k,w.heap.size≤k→hw k=0)
 {vs:List (Nat×Value)} (hl:vs.length=ps.length) (hr:∀(j:Nat) (v:Nat×Value) (p:Nat×PV),vs[j]?=some v→ps[j]?=some p→v.1=p.1∧Rep hw w v.2 p.2):
 ∃i out,P.info? ty.elem=some i∧n *i.size < 16777216∧i.size≠0∧(out:List Value).length=n *i.size∧(Instr.buildSlice T n vs.toArray).run P w= .ok (.slice (some ⟨w.heap.size,0,none⟩) n n) (w.alloc (.cells out.toArray ty.elem))∧
  Qt hw w (fun k=>if k=w.heap.size then n *i.size else hw k) (w.alloc (.cells out.toArray ty.elem))∧Rep (fun k=>if k=w.heap.size then n *i.size else hw k) (w.alloc (.cells out.toArray ty.elem)) (.slice (some ⟨w.heap.size,0,none⟩) n n) (.lst xs):=by
 unfold Jv at h
 split at h
 ·rename_i sz by_ zc fs e m hty2
  rw[hty] at hty2
  cases Qa_ hty2
  have hT:=Yg (hΓ T _ hty)
  obtain ⟨_,hk3,_⟩:=YW hT
  have hu:=hk3 rfl
  simp only at hu
  split at h
  ·rename_i ety hety
   have hET:=Yg (hΓ _ _ hety)
   cases hb:(Nat.beq ety.size 0||Nat.ble 16777216 (n *ety.size)|| !(Nat.beq ety.zero.length ety.size)) with
   | true=>rw[hb] at h;cases h
   | false=>
     rw[hb] at h
     simp only[Qd_] at h
     simp only[Ka_,Qf_] at hb
     obtain ⟨⟨hb1,hb2⟩,hb3⟩:=hb
     have hs0:ety.size≠0:=fun h0=>by rw[h0] at hb1;exact absurd hb1 (by decide)
     have hn:n *ety.size < 16777216:=by
      rcases Ki_ (n *ety.size) 16777216 with h | h
      ·exact h
      ·rw[QF_ h] at hb2;cases hb2
     split at h
     ·rename_i cs hcs
      have:=Qa_ h
      injection this with this
      subst this
      obtain ⟨z,hz,hzc,h1,hzs⟩:=WR hET w
      rw[hzc] at hcs
      obtain ⟨out,f1,f2,f3⟩:=ZcB (hw:=hw) (w:=w) (pl:=fun i=>some (i *ety.size,ety.size)) (fun i q hq=>hq) ps vs (JH n z.cells.toList) _ cs (ZiK h1 n) hl hr hcs
      have hol:out.length=n *ety.size:=by rw[f3,Zkw];simp[hzs]
      obtain ⟨i,z',hi,_,hsz,_⟩:=hET.info
      refine ⟨i,out,hi,by rw[←hsz];exact hn,by rw[←hsz];exact hs0,by rw[←hsz];exact hol, ?_,ZiI hl0 (fun k hk=>by simp[hk]) _,by
       rw[←hsz]
       have:=ZiJ hl0 f2 (rest:=[]) (n:=n) (s:=ety.size) (cap:=n) (by rw[←f2.len,hol]) (Q2_ _) e
       rw[QI_] at this
       exact this⟩
      have hnot:¬(n *ety.size > 2 ^ 24):=by omega
      unfold Instr.buildSlice
      simp only[Sem.run_bind,run_underlying hu,Result.andThen_ok,Ys hET,hnot,Ky_]
      by_cases h0:n *ety.size=0
      ·have hn0:n=0:=by
        rcases Nat.mul_eq_zero.1 h0 with h | h
        ·exact h
        ·exact absurd h hs0
       subst hn0
       have f1':Instr.fill (fun i=>some (i *ety.size,ety.size)) #[] vs=some out.toArray:=f1
       have e0:(Array.range 0).map (fun i=>(#[]:Array Value)[i % (#[]:Array Value).size]!)=#[]:=by apply QW_;simp
       simp only[Nat.zero_mul,Kx_,pure_bind,e0]
       rw[f1']
       rfl
      ·have hzp:0 < z.cells.size:=by omega
       have e1:=ZiL hzp n
       rw[hzs] at e1
       simp only[h0,Ky_,Sem.run_bind,hz,Result.andThen_ok,Sem.run_pure,hzs,e1]
       have f1':Instr.fill (fun i=>some (i *ety.size,ety.size)) (JH n z.cells.toList).toArray vs=some out.toArray:=f1
       rw[f1']
       simp[newRow]
     ·cases h
  ·cases h
 ·cases h
theorem Z7w{E:Env}(hE:EnvOk P E)(hI:Inv P B g σ a w){T:TypeId}{n:Nat}{ps:Array (Nat×Operand)}{d:Nat}{σ':St}{qs:List Prop}(hop:o.op= .buildSlice T n ps)(hdst:o.dst=some d)(h:bsO E σ T n ps.toList d=some (σ',qs)):Goes P B g σ a w o σ':=by
 unfold bsO at h
 split at h
 ·rename_i l hl
  split at h
  ·rename_i xs ty hv hty
   cases hb:Nat.blt d σ.n with
   | false=>rw[hb] at h;cases h
   | true=>
     rw[hb] at h
     cases Qa_ h
     have hd:d < σ.n:=Qm_ hb
     obtain ⟨e1,e2⟩:=ZnA hI hl
     obtain ⟨i,out,hi,hn,hs0,hol,hrun,q,hrep⟩:=Z9B (w:=w) hE.Γ hv hty hI.hwlt e1 e2
     have hown:OwnV P B (fun k=>if k=w.heap.size then n *i.size else g.hw k) (w.alloc (.cells out.toArray ty.elem)) ty.elem (.slice (some ⟨w.heap.size,0,none⟩) n n):=by
      have hnm:n≤maxLen:=by
       have:n *1≤n *i.size:=Nat.mul_le_mul_left _ (by omega)
       have:(16777216:Nat)≤maxLen:=by simp only[maxLen];omega
       omega
      refine ⟨i,n,out,hi,⟨hol,.inr ⟨w.heap.size,n,out.toArray,rfl,hI.base,heap_alloc_new w _,Q2_ _,hnm,by simpa using hol,by simp[←hol]⟩⟩,fun k hk=>?_⟩
      have:k=w.heap.size:=by simp[Value.ownBlock] at hk;exact hk.symm
      simp[this]
     have:=ZaS (v:= .slice none 0 0) (own':=σ.own) hI hd (fun k hk=>absurd hk (by simp[Value.ownBlock])) (fun k hk=>absurd hk (by simp[Value.ownBlock])) (fun _ _ h=>h) (fun _ _ _ j _ _ hk=>absurd hk (by simp[Value.ownBlock])) q.grew hrep hown (.inr (fun k hk=>by simp[Value.ownBlock] at hk;omega))
     refine .inl ⟨_,_, ?_,by rw[hdst];exact ⟨_,this⟩⟩
     unfold execOp
     rw[hop]
     simp only
     rw[Zky]
     exact Yl hrun
  ·cases h
 ·cases h
theorem Zpj{E:Env}(hE:EnvOk P E){C:Yb}(hC:CSOk P C){CP:Y4}(hP:CSPOk P CP){CI:Y0}(hJ:CSIOk P CI){G:Gx}(hG:OwOk P C G){j:Nat}{σ':St}{ps:List Prop}
 (h:ZtU E C CP CI G j σ o=some (σ',ps)) (hp:Yx ps) (hI:Inv P B g σ a w):Goes P B g σ a w o σ':=by
 have hT:∀{σ':St} {ps:List Prop},TSym E C CP CI j σ o=some (σ',ps)→Yx ps→Goes P B g σ a w o σ':=fun h hp=>Z8H hE (ZmD hC) (Z4Q hP) (Z4R hJ) j σ o _ (Z0q _ _ _ _ _ h hp) B g a w hI
 unfold ZtU at h
 split at h
 ·rename_i fid args ats d hop hd
  split at h
  ·exact Zzj hE hG hI hop hd h hp
  ·exact hT h hp
 ·rename_i op T x y yT d hop hd
  split at h
  ·rename_i hy
   exact Z15 hG hI hop hy hd h
  ·exact hT h hp
 ·rename_i T n ps d hop hd
  split at h
  ·exact Z7w hE hI hop hd h
  ·exact hT h hp
 ·exact hT h hp
theorem Z16{E:Env}(hE:EnvOk P E){C:Yb}(hC:CSOk P C){CP:Y4}(hP:CSPOk P CP){CI:Y0}(hJ:CSIOk P CI){G:Gx}(hG:OwOk P C G){j:Nat}{σ':St}{ps:List Prop}
 (h:Zfq E C CP CI G j σ o=some (σ',ps)) (hp:Yx ps) (hI:Inv P B g σ a w):Goes P B g σ a w o σ':=by
 unfold Zfq at h
 split at h
 ·split at h
  ·rename_i σ1 ps1 h1
   split at h
   ·rename_i σ2 qs h2
    cases Qa_ h
    obtain ⟨q1,q2⟩:=W9 hp
    obtain ⟨g1,i1,f1⟩:=Zpi h1 q1 hI
    exact (Zpj hE hC hP hJ hG h2 q2 i1).mono fun v w' ⟨g',k1,k2⟩=>⟨g',k1,f1.trans k2⟩
   ·cases h
  ·cases h
 ·exact Zpj hE hC hP hJ hG h hp hI
theorem ZmF{E:Env}{C:Yb}{CP:Y4}{CI:Y0}{G:Gx}:TSub (Zfq E C CP CI G) (TG0 E C CP CI G):=fun j σ o σ' ps h hp=>by
 unfold TG0
 rw[h]
 simp only[hp,Kx_]
theorem Zpk{E:Env}(hE:EnvOk P E){C:Yb}(hC:CSOk P C){CP:Y4}(hP:CSPOk P CP){CI:Y0}(hJ:CSIOk P CI){G:Gx}(hG:OwOk P C G):∀j σ o σ',TG0 E C CP CI G j σ o=some σ'→∀B g a w,Inv P B g σ a w→Goes P B g σ a w o σ':=by
 intro j σ o σ' h B g a w hI
 unfold TG0 at h
 split at h
 ·rename_i σ2 ps h2
  split at h
  ·rename_i hp
   cases Qa_ h
   exact Z16 hE hC hP hJ hG h2 hp hI
  ·cases h
 ·cases h
end
def ZtV(E:Env)(l:List ResultVar)(Q:PV→Prop)(e:Ex)(σ:St):Prop:=
 bif JI e then (match ZaT E.Γ σ l with
  | some r=>Q (ZbM r)
  | none=>False) else False
def sxF(E:Env)(C:Yb)(CP:Y4)(CI:Y0)(G:Gx)(LS:List (Nat×LSum))(n:Nat)(fn:Func)(args:List PV)(Q:PV→Prop):Prop:=
 match fn.body with
 | some c=>bif Nat.ble args.length fn.ntmps then
    Zr2 (X6 fn.ntmps args) fun σ=>YZ E.Γ (RSym E C) (Zfq E C CP CI G) LS n none c σ (ZtV E fn.results.toList Q)
   else False
 | none=>False
def ZvJ(E:Env)(C:Yb)(CP:Y4)(CI:Y0)(G:Gx)(LS:List (Nat×LSum))(n:Nat)(fn:Func)(cs args:List PV)(Q:PV→List PV→Prop):Prop:=
 match fn.body with
 | some c=>bif Nat.ble (args.length+1) fn.ntmps then
    Zr2 (YI fn.ntmps cs args) fun σ=>YZ E.Γ (RSym E C) (Zfq E C CP CI G) LS n none c σ fun e σ'=>
     bif !(has fn.ntmps σ'.ro) then
      (match lk fn.ntmps σ'.boxes with
       | some cs'=>bif YJ cs&&YJ cs' then ZcK cs' fun cs'=>ZtV E fn.results.toList (fun r=>Q r cs') e σ' else False
       | none=>False)
     else False
   else False
 | none=>False
def ZF(P:Program)(LS:List (Nat×LSum))(fn:Func):Prop:=∀c,fn.body=some c→∀b∈Ym c,∀S,lk (WP b) LS=some S→Ye P b S
theorem Zaj{P:Program}{fn:Func}:ZF P [] fn:=fun c _ b _ S h=>by simp[lk] at h
theorem ZAz{P:Program}{E:Env}(hE:EnvOk P E){C:Yb}(hC:CSOk P C){CP:Y4}(hP:CSPOk P CP){CI:Y0}(hI:CSIOk P CI){G:Gx}(hG:OwOk P C G){LS:List (Nat×LSum)}{f:Nat}{fn:Func}(hf:lk f E.fns=some fn)(hL:ZF P LS fn){n:Nat}{args:List PV}{Q:PV→Prop}
 (h:sxF E C CP CI G LS n fn args Q):∃r,Q r∧Con P f args r:=by
 obtain ⟨k1,k2⟩:=hE.fns f fn hf
 unfold sxF at h
 split at h
 ·rename_i c hc
  cases hb:Nat.ble args.length fn.ntmps with
  | false=>rw[hb] at h;exact h.elim
  | true=>
    rw[hb] at h
    simp only[Qb_,ZmC] at h
    obtain ⟨e,σ',h1,h2,_⟩:=(ZcM hE.Γ hE.mixed Zpf (ZkJ hE (ZmD hC)) ZmF (Zpk hE hC hP hI hG) n).1 c _ _ (hL c hc) h
    unfold ZtV at h1
    cases ho:JI e with
    | false=>rw[ho] at h1;exact h1.elim
    | true=>
      rw[ho] at h1
      simp only[Qb_] at h1
      split at h1
      ·rename_i r hr
       exact ⟨_,h1,ZAk hE.Γ k2 k1 hc hb h2 ho hr⟩
      ·exact h1.elim
 ·exact h.elim
def Z4U(E:Env)(l:List ResultVar)(T:Nat)(Q:PV→Prop)(e:Ex)(σ:St):Prop:=
 bif JI e then (match l with
  | [.tmp t]=>match ZtT σ t with
    | some T'=>bif Nat.beq T' T then (match ZaT E.Γ σ [.tmp t] with
      | some r=>Q (ZbM r)
      | none=>False) else False
    | none=>False
  | _=>False) else False
def Z17(E:Env)(C:Yb)(CP:Y4)(CI:Y0)(G:Gx)(LS:List (Nat×LSum))(n:Nat)(fn:Func)(T:Nat)(args:List PV)(Q:PV→Prop):Prop:=
 match fn.body with
 | some c=>bif Nat.ble args.length fn.ntmps then
    Zr2 (X6 fn.ntmps args) fun σ=>YZ E.Γ (RSym E C) (Zfq E C CP CI G) LS n none c σ (Z4U E fn.results.toList T Q)
   else False
 | none=>False
theorem Z9C{P:Program}{E:Env}(hE:EnvOk P E){C:Yb}(hC:CSOk P C){CP:Y4}(hP:CSPOk P CP){CI:Y0}(hI:CSIOk P CI){G:Gx}(hG:OwOk P C G){LS:List (Nat×LSum)}{f:Nat}{fn:Func}(hf:lk f E.fns=some fn)(hL:ZF P LS fn){n:Nat}{T:Nat}{args:List PV}{Q:PV→Prop}
 (h:Z17 E C CP CI G LS n fn T args Q):∃r,Q r∧Zcf P f args T r:=by
 obtain ⟨k1,k2⟩:=hE.fns f fn hf
 unfold Z17 at h
 split at h
 ·rename_i c hc
  cases hb:Nat.ble args.length fn.ntmps with
  | false=>rw[hb] at h;exact h.elim
  | true=>
    rw[hb] at h
    simp only[Qb_,ZmC] at h
    obtain ⟨e,σ',h1,h2,_⟩:=(ZcM hE.Γ hE.mixed Zpf (ZkJ hE (ZmD hC)) ZmF (Zpk hE hC hP hI hG) n).1 c _ _ (hL c hc) h
    unfold Z4U at h1
    cases ho:JI e with
    | false=>rw[ho] at h1;exact h1.elim
    | true=>
      rw[ho] at h1
      simp only[Qb_] at h1
      split at h1
      ·rename_i t ht
       split at h1
       ·rename_i T' hT'
        cases hbt:Nat.beq T' T with
        | false=>rw[hbt] at h1;exact h1.elim
        | true=>
          rw[hbt] at h1
          simp only[Qb_] at h1
          have eT:=Qj_ hbt
          subst eT
          split at h1
          ·rename_i r hr
           have hres:fn.results=#[.tmp t]:=by apply QW_;simpa using ht
           exact ⟨_,h1,Z97 hE.Γ k2 k1 hc hb h2 ho hres hT' (by rw[ht];exact hr)⟩
          ·exact h1.elim
       ·exact h1.elim
      ·exact h1.elim
 ·exact h.elim
theorem Zr6{P:Program}{E:Env}(hE:EnvOk P E){C:Yb}(hC:CSOk P C){CP:Y4}(hP:CSPOk P CP){CI:Y0}(hI:CSIOk P CI){G:Gx}(hG:OwOk P C G){LS:List (Nat×LSum)}{f:Nat}{fn:Func}(hf:lk f E.fns=some fn)(hL:ZF P LS fn){n:Nat}{cs args:List PV}{Q:PV→List PV→Prop}
 (h:ZvJ E C CP CI G LS n fn cs args Q):∃r cs',Q r cs'∧ZfK P f cs args r cs':=by
 obtain ⟨k1,k2⟩:=hE.fns f fn hf
 unfold ZvJ at h
 split at h
 ·rename_i c hc
  cases hb:Nat.ble (args.length+1) fn.ntmps with
  | false=>rw[hb] at h;exact h.elim
  | true=>
    rw[hb] at h
    simp only[Qb_,ZmC] at h
    obtain ⟨e,σ',h1,h2,_⟩:=(ZcM hE.Γ hE.mixed Zpf (ZkJ hE (ZmD hC)) ZmF (Zpk hE hC hP hI hG) n).1 c _ _ (hL c hc) h
    cases hro:has fn.ntmps σ'.ro with
    | true=>rw[hro] at h1;exact h1.elim
    | false=>
      rw[hro] at h1
      simp only[Qt_,Qb_] at h1
      split at h1
      ·rename_i cs' hcs
       cases hd:(YJ cs&&YJ cs') with
       | false=>rw[hd] at h1;exact h1.elim
       | true=>
         rw[hd] at h1
         simp only[Qb_,Zcr] at h1
         rw[Qh_] at hd
         unfold ZtV at h1
         cases ho:JI e with
         | false=>rw[ho] at h1;exact h1.elim
         | true=>
           rw[ho] at h1
           simp only[Qb_] at h1
           split at h1
           ·rename_i r hr
            exact ⟨_,_,h1,Z9o hE.Γ k2 k1 hc hb h2 ho hr hcs hro hd.1 hd.2⟩
           ·exact h1.elim
      ·exact h1.elim
 ·exact h.elim
theorem Z9D{P:Program}{E:Env}(hE:EnvOk P E){C:Yb}(hC:CSOk P C){CP:Y4}(hP:CSPOk P CP){CI:Y0}(hI:CSIOk P CI){G:Gx}(hG:OwOk P C G){LS:List (Nat×LSum)}{b:Code}(hL:∀b'∈Ym b,∀S,lk (WP b') LS=some S→Ye P b' S){n:Nat}{σ:St}{K:Ex→St→Prop}
 (h:YZ E.Γ (RSym E C) (Zfq E C CP CI G) LS n none b σ K):∃e σ',K e σ'∧Tri P b σ e σ':=by
 obtain ⟨e,σ',h1,h2,_⟩:=(ZcM hE.Γ hE.mixed Zpf (ZkJ hE (ZmD hC)) ZmF (Zpk hE hC hP hI hG) n).1 b _ _ hL h
 exact ⟨e,σ',h1,h2⟩
def nz1:PV→PV
 | .nil=> .lst []
 | x=>x
def nzA:PV→PV
 | .nil=> .lst []
 | .agg cs=> .agg (cs.map nz1)
 | x=>x
def nz:PV→PV
 | .tup vs=> .tup (vs.map nzA)
 | x=>nzA x
section
variable {P:Program}{hw:Nat→Nat}{w:World}
theorem Z9E{v:Value}{x:PV}(h:Rep hw w v x):Rep hw w v (nz1 x):=by
 cases h<;>first | exact .lnil | (constructor<;>assumption)
theorem Zr7{v:Value}{x:PV}(h:Rep hw w v x):Rep hw w v (nzA x):=by
 cases x with
 | nil=>cases h;exact .lnil
 | agg cs=>
   cases h with
   | agg vs _ hl hr h1=>
     refine .agg vs _ (by simpa using hl) (fun j a b ha hb=>?_) h1
     rw[Q6_] at hb
     cases hc:cs[j]? with
     | none=>rw[hc] at hb;cases hb
     | some c=>
       rw[hc] at hb
       have:=Qa_ hb
       subst this
       exact Z9E (hr j a c ha hc)
 | _=>exact h
theorem Z4V{v:Value}{x:PV}(h:Rep hw w v x):Rep hw w v (nz x):=by
 cases x with
 | tup vs=>
   cases h with
   | tup us _ hl hr=>
     refine .tup us _ (by simpa using hl) (fun j a b ha hb=>?_)
     rw[Q6_] at hb
     cases hc:vs[j]? with
     | none=>rw[hc] at hb;cases hb
     | some c=>
       rw[hc] at hb
       have:=Qa_ hb
       subst this
       exact Zr7 (hr j a c ha hc)
 | _=>exact Zr7 h
theorem Z0s{vals:List Value}{args:List PV}(h:ArgsRep hw w vals args):ArgsRep hw w vals (args.map nzA):=by
 refine ⟨by simpa using h.len,fun j a b ha hb=>?_⟩
 rw[Q6_] at hb
 cases hc:args[j]? with
 | none=>rw[hc] at hb;cases hb
 | some c=>
   rw[hc] at hb
   have:=Qa_ hb
   subst this
   exact Zr7 (h.rep j a c ha hc)
end
theorem ZA0{P:Program}{f:FuncId}{args:List PV}{r:PV}(h:Con P f args r):Con P f args (nz r):=fun hw w vals hl hg ha=>
 (h hw w vals hl hg ha).mono fun _ _ ⟨hw',q,hr⟩=>⟨hw',q,Z4V hr⟩
theorem Z7x{P:Program}{f:FuncId}{args:List PV}{r:PV}(h:Con P f (args.map nzA) r):Con P f args r:=fun hw w vals hl hg ha=>h hw w vals hl hg (Z0s ha)
abbrev Ent:=List PV→Option (PV×List Prop)
def Yy(l:List (Nat×Ent)):Yb:=fun f args=>match lk f l with
 | some g=>g (args.map nzA)
 | none=>none
def Zh(P:Program)(f:Nat)(g:Ent):Prop:=∀args r ps,g args=some (r,ps)→Yx ps→Con P f args r
theorem Ze{P:Program}:CSOk P (Yy []):=fun f args r ps h=>by simp[Yy,lk] at h
theorem Za{P:Program}{f:Nat}{g:Ent}{l:List (Nat×Ent)}(h:Zh P f g)(hl:CSOk P (Yy l)):CSOk P (Yy ((f,g)::l)):=fun f' args r ps he hp=>by
 unfold Yy at he
 rw[Zq] at he
 by_cases e:f'=f
 ·rw[if_pos e] at he
  subst e
  exact Z7x (h _ _ _ he hp)
 ·rw[if_neg e] at he
  exact hl f' args r ps he hp
def ZvK(P:Program)(f:Nat)(g:Ent)(T:Nat):Prop:=∀args r ps,g args=some (r,ps)→Yx ps→Zcf P f args T r
theorem Z9F{P:Program}{f:FuncId}{args:List PV}{T:Nat}{r:PV}(h:Zcf P f args T r):Zcf P f args T (nz r):=fun hw w vals hl hg ha=>
 (h hw w vals hl hg ha).mono fun _ _ ⟨hw',q,hr,ho⟩=>⟨hw',q,Z4V hr,ho⟩
theorem Z4W{P:Program}{f:FuncId}{args:List PV}{T:Nat}{r:PV}(h:Zcf P f (args.map nzA) T r):Zcf P f args T r:=fun hw w vals hl hg ha=>h hw w vals hl hg (Z0s ha)
theorem ZvL{P:Program}{f:FuncId}{args:List PV}{T:Nat}{r:PV}(h:Zcf P f args T r):Con P f args r:=fun hw w vals hl hg ha=>
 (h hw w vals hl hg ha).mono fun _ _ ⟨hw',q,hr,_⟩=>⟨hw',q,hr⟩
def OwL(P:Program)(l:List (Nat×Ent))(ow:List (Nat×Nat)):Prop:=∀f T,lk f ow=some T→∀g,lk f l=some g→ZvK P f g T
theorem Zie{P:Program}{l:List (Nat×Ent)}:OwL P l []:=fun f T h=>by simp[lk] at h
theorem Z7y{P:Program}{l:List (Nat×Ent)}{f T:Nat}{g:Ent}{ow:List (Nat×Nat)}(hg:lk f l=some g)(h:ZvK P f g T)(hl:OwL P l ow):OwL P l ((f,T)::ow):=fun f' T' h1 g' h2=>by
 rw[Zq] at h1
 by_cases e:f'=f
 ·subst e
  rw[if_pos rfl] at h1
  cases Qa_ h1
  rw[hg] at h2
  cases Qa_ h2
  exact h
 ·rw[if_neg e] at h1
  exact hl f' T' h1 g' h2
theorem Zif{P:Program}{l:List (Nat×Ent)}{G:Gx}(h:OwL P l G.ow)(hn:∀T,has T G.nf=true→∃a b c,P.underlying T=some (.func a b c)):OwOk P (Yy l) G:=⟨fun f T h1 args r ps h2 hp=>by
 unfold Yy at h2
 split at h2
 ·rename_i g hg
  exact Z4W (h f T h1 g hg _ _ _ h2 hp)
 ·exact absurd h2 (by simp),hn⟩
def ZfW:Y4:=fun _ _ _=>none
def ZfX:Y0:=fun _ _ _=>none
theorem Z4{P:Program}:CSPOk P ZfW:=fun _ _ _ _ _ _ h=>absurd h (by simp[ZfW])
theorem Z3{P:Program}:CSIOk P ZfX:=fun _ _ _ _ _ _ h=>absurd h (by simp[ZfX])
theorem Z0t{P:Program}{E:Env}(hE:EnvOk P E){C:Yb}(hC:CSOk P C){CP:Y4}(hP:CSPOk P CP){CI:Y0}(hI:CSIOk P CI){G:Gx}(hG:OwOk P C G){LS:List (Nat×LSum)}{f:Nat}{fn:Func}(hf:lk f E.fns=some fn)(hL:ZF P LS fn){n:Nat}{args:List PV}{X:PV}
 (h:sxF E C CP CI G LS n fn args (fun r=>nz r=X)):Con P f args X:=by
 obtain ⟨r,hr,hc⟩:=ZAz hE hC hP hI hG hf hL h
 rw[←hr]
 exact ZA0 hc
theorem Z7z{P:Program}{E:Env}(hE:EnvOk P E){C:Yb}(hC:CSOk P C){CP:Y4}(hP:CSPOk P CP){CI:Y0}(hI:CSIOk P CI){G:Gx}(hG:OwOk P C G){LS:List (Nat×LSum)}{f:Nat}{fn:Func}(hf:lk f E.fns=some fn)(hL:ZF P LS fn){n:Nat}{T:Nat}{args:List PV}{X:PV}
 (h:Z17 E C CP CI G LS n fn T args (fun r=>nz r=X)):Zcf P f args T X:=by
 obtain ⟨r,hr,hc⟩:=Z9C hE hC hP hI hG hf hL h
 rw[←hr]
 exact Z9F hc
def ZaV{α:Type}(l:List (Nat×α)):List Nat→List (Nat×α)
 | []=>[]
 | t::r=>match lk t l with
   | some v=>(t,v)::ZaV l r
   | none=>ZaV l r
def Zhh(l:List (Loc×Nat)):List Loc→List (Loc×Nat)
 | []=>[]
 | t::r=>match lkL t l with
   | some v=>(t,v)::Zhh l r
   | none=>Zhh l r
theorem Zhi{α:Type}{l:List (Nat×α)}{t:Nat}{v:α}:∀{ks:List Nat},lk t (ZaV l ks)=some v→lk t l=some v
 | [],h=>by simp[ZaV,lk] at h
 | k::r,h=>by
   unfold ZaV at h
   split at h
   ·rename_i v' hv
    rw[Zq] at h
    split at h
    ·rename_i e
     subst e
     rw[hv];exact h
    ·exact Zhi h
   ·exact Zhi h
theorem Z4X{a b:Loc}(h:a.eq b=true):a=b:=by
 cases a<;>cases b<;>simp only[Loc.eq,Qh_] at h
 ·rw[Qj_ h]
 ·cases h
 ·cases h
 ·rw[Qj_ h.1,Qj_ h.2]
theorem ZkQ{l:List (Loc×Nat)}{t:Loc}{v:Nat}:∀{ks:List Loc},lkL t (Zhh l ks)=some v→lkL t l=some v
 | [],h=>by simp[Zhh,lkL] at h
 | k::r,h=>by
   unfold Zhh at h
   split at h
   ·rename_i v' hv
    unfold lkL at h
    cases hb:t.eq k with
    | true=>
      rw[hb] at h
      rw[Z4X hb,hv]
      exact h
    | false=>
      rw[hb] at h
      exact ZkQ h
   ·exact ZkQ h
structure Kp where
 t:List Nat
 b:List Nat
 o:List Loc
def Zpl(bx:List (Nat×List PV))(b:Nat):Bool:=Wf (lk b bx)
def okS(τ:St):Bool:=
 τ.tmps.all (fun (_,v)=>(WT v).all (Zpl τ.boxes))&&(τ.own.all (fun (l,_)=>match l with | .t _=>true | .b b _=>Zpl τ.boxes b)&&τ.boxes.all (fun (_,cs)=>(Zbs cs).all (Zpl τ.boxes)))
def Z18(k:Kp)(σ:St):Option St:=
 bif okS ⟨σ.n,ZaV σ.tmps k.t,ZaV σ.boxes k.b,σ.ro,Zhh σ.own k.o,[]⟩ then some ⟨σ.n,ZaV σ.tmps k.t,ZaV σ.boxes k.b,σ.ro,Zhh σ.own k.o,[]⟩ else none
theorem ZkR{bx:List (Nat×List PV)}{b:Nat}(h:Zpl bx b=true):∃cs,lk b bx=some cs:=by
 unfold Zpl at h
 cases hb:lk b bx with
 | none=>rw[hb] at h;exact absurd h (by simp[Wf])
 | some cs=>exact ⟨cs,rfl⟩
theorem Zr8{α:Type}{t:Nat}{v:α}:∀{l:List (Nat×α)},lk t l=some v→(t,v)∈l
 | [],h=>by simp[lk] at h
 | (t',v')::r,h=>by
   rw[Zq] at h
   split at h
   ·rename_i e
    subst e
    have:=Qa_ h
    subst this
    exact Qv_ ..
   ·exact Qq_ _ (Zr8 h)
theorem ZvM{t:Loc}{v:Nat}:∀{l:List (Loc×Nat)},lkL t l=some v→(t,v)∈l
 | [],h=>by simp[lkL] at h
 | (t',v')::r,h=>by
   unfold lkL at h
   cases hb:t.eq t' with
   | true=>
     rw[hb] at h
     have:=Qa_ h
     subst this
     rw[Z4X hb]
     exact Qv_ ..
   | false=>rw[hb] at h;exact Qq_ _ (ZvM h)
theorem Z4Y{k:Kp}{σ τ:St}(h:Z18 k σ=some τ):Sub τ σ:=by
 unfold Z18 at h
 cases hb:okS ⟨σ.n,ZaV σ.tmps k.t,ZaV σ.boxes k.b,σ.ro,Zhh σ.own k.o,[]⟩ with
 | false=>rw[hb] at h;cases h
 | true=>
   rw[hb] at h
   have:=Qa_ h
   subst this
   simp only[okS,Qh_] at hb
   obtain ⟨h1,h2,h3⟩:=hb
   have tm:∀t v,lk t (ZaV σ.tmps k.t)=some v→∀b∈WT v,∃cs,lk b (ZaV σ.boxes k.b)=some cs:=fun t v ht b hm=>
    ZkR (QK_.1 (QK_.1 h1 _ (Zr8 ht)) b hm)
   refine ⟨rfl,fun t v ht=>Zhi ht,fun b cs hb=>Zhi hb,fun b hm=>hm,fun t b off ht=>tm t _ ht b (by simp[WT]),fun t f bs ht b hm=>tm t _ ht b hm,fun l E hl=>ZkQ hl,fun b c E hl=>?_,fun t l hm=>absurd hm (by simp),fun t b c hm=>absurd hm (by simp),fun t b off n s ht=>tm t _ ht b (by simp[WT]),fun b cs hb y hy b' hb'=>?_⟩
   ·exact ZkR (QK_.1 h2 _ (ZvM hl))
   ·exact ZkR (QK_.1 (QK_.1 h3 _ (Zr8 hb)) b' (ZaO hy hb'))
def Zn(fn:Func)(i:Nat):Code:=match fn.body with
 | some c=>(Ym c).getD i .skip
 | none=> .skip
def LsA(P:Program)(LS:List (Nat×LSum)):List Code→Prop
 | []=>True
 | b::r=>(∀S,lk (WP b) LS=some S→Ye P b S)∧LsA P LS r
theorem Zr{P:Program}{LS:List (Nat×LSum)}:LsA P LS []:=trivial
theorem Zz{P:Program}{LS:List (Nat×LSum)}{b:Code}{r:List Code}{i:Nat}{S:LSum}(hi:WP b=i)(hl:lk i LS=some S)(h:Ye P b S)(hr:LsA P LS r):LsA P LS (b::r):=
 ⟨fun S' h'=>by rw[hi,hl] at h';have:=Qa_ h';subst this;exact h,hr⟩
theorem X8{P:Program}{LS:List (Nat×LSum)}{b:Code}{r:List Code}{i:Nat}(hi:WP b=i)(hl:lk i LS=none)(hr:LsA P LS r):LsA P LS (b::r):=
 ⟨fun S' h'=>by rw[hi,hl] at h';exact absurd h' (by simp),hr⟩
theorem Zr9{P:Program}{LS:List (Nat×LSum)}:∀{l:List Code},LsA P LS l→∀b∈l,∀S,lk (WP b) LS=some S→Ye P b S
 | [],_,b,hb,_,_=>absurd hb (by simp)
 | c::r,h,b,hb,S,hS=>by
   rcases Q9_.1 hb with e | hb
   ·subst e;exact h.1 S hS
   ·exact Zr9 h.2 b hb S hS
theorem ZM{P:Program}{LS:List (Nat×LSum)}{c:Code}{l:List Code}(he:Ym c=l)(h:LsA P LS l):∀b∈Ym c,∀S,lk (WP b) LS=some S→Ye P b S:=by
 rw[he];exact Zr9 h
theorem ZG{P:Program}{LS:List (Nat×LSum)}{fn:Func}{l:List Code}(he:(match fn.body with | some c=>Ym c | none=>[])=l)(h:LsA P LS l):ZF P LS fn:=fun c hc b hm S hl=>by
 rw[hc] at he
 simp only at he
 rw[he] at hm
 exact Zr9 h b hm S hl
def Z19(Γ:List (Nat×Ty))(t E:Nat)(σ:St):St:=match lk t σ.tmps,lk E Γ with
 | some (.p .nil),some _=>{σ with tmps:=(t,.p (.lst []))::σ.tmps,own:=(.t t,E)::σ.own}
 | _,_=>σ
def ZtW(Γ:List (Nat×Ty))(t E:Nat)(σ:St):St:=match lk t σ.tmps with
 | some (.p .nil)=>Z19 Γ t E σ
 | _=>match lk t σ.al with
   | some l=>match lkL l σ.own with
     | some E'=>bif Nat.beq E E'&&Nat.blt t σ.n then {σ with own:=(.t t,E)::σ.own.filter fun (l',_)=> !(l'.eq l)} else σ
     | none=>σ
   | none=>σ
def ZtX(Γ:List (Nat×Ty))(b c E:Nat)(σ:St):St:=match lk b σ.boxes,lk E Γ with
 | some cs,some _=>match cs[c]? with
   | some .nil=>bif Nat.blt b σ.n then {σ with boxes:=(b,cs.set c (.lst []))::σ.boxes,own:=(.b b c,E)::σ.own} else σ
   | _=>σ
 | _,_=>σ
def Zpm(Γ:List (Nat×Ty))(l:Loc)(E:Nat)(σ:St):St:=match l with
 | .t t=>ZtW Γ t E σ
 | .b b c=>ZtX Γ b c E σ
def ZfF(Γ:List (Nat×Ty)):List (Loc×Nat)→St→St
 | [],σ=>σ
 | (l,E)::r,σ=>ZfF Γ r (Zpm Γ l E σ)
section
variable {P:Program}{B:Nat}{g:G}{σ τ:St}{a:Act}{w:World}
theorem Z70{Γ:List (Nat×Ty)}(hΓ:Yo P Γ){t E:Nat}(hI:Inv P B g σ a w):Inv P B g (Z19 Γ t E σ) a w:=by
 unfold Z19
 split
 ·rename_i ety ht hE
  obtain ⟨hlt,hrep⟩:=hI.tmp t _ ht
  have hval:a.tmps.getD t undef= .slice none 0 0:=by
   have hrep:Rep g.hw w (a.tmps.getD t undef) .nil:=hrep
   generalize a.tmps.getD t undef=v at hrep
   cases hrep;rfl
  obtain ⟨i,z,hi,_⟩:=(Yg (hΓ _ _ hE)).info
  have hown:OwnV P B g.hw w E (.slice none 0 0):=⟨i,0,[],hi,World.ownsRow_nil _ _ _ _,fun k hk=>absurd hk (by simp[Value.ownBlock])⟩
  have h1:=ZgY hI hlt hval hown (fun k hk=>absurd hk (by simp[Value.ownBlock])) (fun l E' val' k _ _ hk=>absurd hk (by simp[Value.ownBlock]))
  have lkc:∀t' v,lk t' ((t,AV.p (.lst []))::σ.tmps)=some v→(t'=t∧v= .p (.lst []))∨lk t' σ.tmps=some v:=by
   intro t' v h
   rw[Zq] at h
   split at h
   ·rename_i e
    exact .inl ⟨e,(Qa_ h).symm⟩
   ·exact .inr h
  refine ⟨h1.size,h1.defers,fun t' v h=>?_,fun t' b off h=>?_,fun t' f bs h=>?_,h1.box,h1.inj,h1.hwlt,h1.base,h1.glob,h1.own,h1.ownt,h1.owninj,h1.al,h1.alt,fun t' b off n s h=>?_,h1.ref⟩
  ·rcases lkc t' v h with ⟨rfl,rfl⟩ | h
   ·exact ⟨hlt,by show Rep g.hw w _ (.lst []);rw[hval];exact .lnil⟩
   ·exact hI.tmp t' v h
  ·rcases lkc t' _ h with ⟨_,e⟩ | h
   ·cases e
   ·exact hI.ptr t' b off h
  ·rcases lkc t' _ h with ⟨_,e⟩ | h
   ·cases e
   ·exact hI.fnp t' f bs h
  ·rcases lkc t' _ h with ⟨_,e⟩ | h
   ·cases e
   ·exact hI.sl t' b off n s h
 ·exact hI
theorem Z4Z{Γ:List (Nat×Ty)}(hΓ:Yo P Γ){t E:Nat}(hI:Inv P B g σ a w):Inv P B g (ZtW Γ t E σ) a w:=by
 unfold ZtW
 split
 ·exact Z70 hΓ hI
 ·split
  ·rename_i l hl
   split
   ·rename_i E' hE
    cases hb:(Nat.beq E E'&&Nat.blt t σ.n) with
    | false=>exact hI
    | true=>
      rw[Qh_] at hb
      have e1:=Qj_ hb.1
      subst e1
      have hlt:t < σ.n:=Qm_ hb.2
      have hal:=hI.al t l (ZcE hl)
      obtain ⟨val,v1,v2,v3⟩:=hI.own l E hE
      have hv:a.tmps.getD t undef=val:=Zay hal v1
      have hf:∀l2 E2,lkL l2 (σ.own.filter fun (l',_)=> !(l'.eq l))=some E2→l2≠l∧lkL l2 σ.own=some E2:=by
       intro l2 E2 h
       rw[Yr (fun l'=> !(l'.eq l))] at h
       split at h
       ·rename_i hn
        refine ⟨fun e=>?_,h⟩
        subst e
        rw[Loc.eq_iff.2 rfl] at hn
        cases hn
       ·cases h
      have base:Inv P B g {σ with own:=σ.own.filter fun (l',_)=> !(l'.eq l)} a w:=
       ⟨hI.size,hI.defers,hI.tmp,hI.ptr,hI.fnp,hI.box,hI.inj,hI.hwlt,hI.base,hI.glob,fun l2 E2 h=>hI.own l2 E2 (hf l2 E2 h).2,fun l2 E2 h=>hI.ownt l2 E2 (hf l2 E2 h).2,
        fun l2 l3 E2 E3 x y k h2 h3=>hI.owninj l2 l3 E2 E3 x y k (hf l2 E2 h2).2 (hf l3 E3 h3).2,hI.al,hI.alt,hI.sl,hI.ref⟩
      refine ZgY base hlt hv v2 v3 (fun l2 E2 val2 k h2 hloc hk hk2=>?_)
      exact (hf l2 E2 h2).1 (hI.owninj l2 l E2 E val2 val k (hf l2 E2 h2).2 hE hloc v1 hk2 hk)
   ·exact hI
  ·exact hI
theorem Z5a{Γ:List (Nat×Ty)}(hΓ:Yo P Γ){b c E:Nat}(hI:Inv P B g σ a w):Inv P B g (ZtX Γ b c E σ) a w:=by
 unfold ZtX
 split
 ·rename_i cs ety hb hE
  split
  ·rename_i hc
   cases hn:Nat.blt b σ.n with
   | false=>exact hI
   | true=>
     obtain ⟨k0,base0,hk0,hlt0,hok0,hh0,hB0⟩:=hI.box b cs hb
     have hlen:c < cs.length:=(Qo_.1 hc).1
     obtain ⟨v0,q1,q2,q3,q4⟩:=hok0.cell c .nil hc
     have hv0:v0= .slice none 0 0:=by
      have h:=q4.plain rfl
      cases h;rfl
     subst hv0
     obtain ⟨i,z,hi,_⟩:=(Yg (hΓ _ _ hE)).info
     have hown:OwnV P B g.hw w E (.slice none 0 0):=⟨i,0,[],hi,World.ownsRow_nil _ _ _ _,fun k hk=>absurd hk (by simp[Value.ownBlock])⟩
     have lkc:∀b' cs',lk b' ((b,cs.set c (.lst []))::σ.boxes)=some cs'→(b'=b∧cs'=cs.set c (.lst []))∨lk b' σ.boxes=some cs':=by
      intro b' cs' h
      rw[Zq] at h
      split at h
      ·rename_i e
       exact .inl ⟨e,(Qa_ h).symm⟩
      ·exact .inr h
     have lkm:∀b',(∃cs',lk b' σ.boxes=some cs')→∃cs',lk b' ((b,cs.set c (.lst []))::σ.boxes)=some cs':=by
      intro b' ⟨cs',h⟩
      rw[Zq]
      split
      ·exact ⟨_,rfl⟩
      ·exact ⟨cs',h⟩
     have lkb:∀b' cs',lk b' ((b,cs.set c (.lst []))::σ.boxes)=some cs'→∃cs0,lk b' σ.boxes=some cs0:=by
      intro b' cs' h
      rcases lkc b' cs' h with ⟨rfl,_⟩ | h
      ·exact ⟨_,hb⟩
      ·exact ⟨_,h⟩
     have lko:∀l E',lkL l ((Loc.b b c,E)::σ.own)=some E'→(l= .b b c∧E'=E)∨(l≠ .b b c∧lkL l σ.own=some E'):=by
      intro l E' hl
      rw[YK] at hl
      split at hl
      ·rename_i e;exact .inl ⟨e,(Qa_ hl).symm⟩
      ·rename_i e;exact .inr ⟨e,hl⟩
     have nob:∀{v:Value},LocIs g a w (.b b c) v→v.ownBlock=none:=by
      intro v h
      obtain ⟨k1,b1,e1,e2⟩:=h
      rw[hk0] at e1
      cases Qa_ e1
      rw[q1] at e2
      cases Qa_ e2
      rfl
     refine ⟨hI.size,hI.defers,hI.tmp,fun t b' off h=>lkm b' (hI.ptr t b' off h),fun t f bs h b' hb'=>lkm b' (hI.fnp t f bs h b' hb'), ?_, ?_,hI.hwlt,hI.base,hI.glob, ?_, ?_, ?_,hI.al,fun t b' c' h=>lkm b' (hI.alt t b' c' h),fun t b' off n s h=>lkm b' (hI.sl t b' off n s h), ?_⟩
     ·intro b' cs' h
      rcases lkc b' cs' h with ⟨rfl,rfl⟩ | h
      ·refine ⟨k0,base0,hk0,hlt0,⟨fun j y hy=>?_⟩,hh0,hB0⟩
       rw[List.getElem?_set] at hy
       split at hy
       ·rename_i e
        subst e
        have hy:some (PV.lst [])=some y:=by simpa [hlen] using hy
        cases Qa_ hy
        exact ⟨_,q1,q2,q3,.rep .lnil⟩
       ·exact hok0.cell j y hy
      ·exact hI.box b' cs' h
     ·intro b1 b2 c1 c2 k x y h1 h2
      obtain ⟨d1,h1⟩:=lkb _ _ h1
      obtain ⟨d2,h2⟩:=lkb _ _ h2
      exact hI.inj b1 b2 d1 d2 k x y h1 h2
     ·intro l E' hl
      rcases lko l E' hl with ⟨rfl,rfl⟩ | ⟨_,hl⟩
      ·exact ⟨.slice none 0 0,⟨k0,base0,hk0,q1⟩,hown,fun k hk=>absurd hk (by simp[Value.ownBlock])⟩
      ·obtain ⟨val,v1,v2,v3⟩:=hI.own l E' hl
       refine ⟨val,v1,v2,fun k hk b' cs' base h=>?_⟩
       obtain ⟨d1,h⟩:=lkb _ _ h
       exact v3 k hk b' d1 base h
     ·intro l E' hl
      rcases lko l E' hl with ⟨rfl,rfl⟩ | ⟨_,hl⟩
      ·exact lkm b ⟨cs,hb⟩
      ·have:=hI.ownt l E' hl
       cases l with
       | t t=>exact this
       | b b1 c1=>exact lkm b1 this
     ·intro l l' E1 E2 v1 v2 k hl hl' h1 h2 h3 h4
      rcases lko l E1 hl with ⟨rfl,rfl⟩ | ⟨hne,hq⟩<;>rcases lko l' E2 hl' with ⟨rfl,rfl⟩ | ⟨hne',hq'⟩
      ·rfl
      ·rw[nob h1] at h3;cases h3
      ·rw[nob h2] at h4;cases h4
      ·exact hI.owninj l l' E1 E2 v1 v2 k hq hq' h1 h2 h3 h4
     ·intro b' cs' h y hy b2 hr
      rcases lkc b' cs' h with ⟨rfl,rfl⟩ | h
      ·rcases List.mem_or_eq_of_mem_set hy with hy | rfl
       ·exact lkm b2 (hI.ref b' cs hb y hy b2 hr)
       ·exact absurd hr (by simp[Xz])
      ·exact lkm b2 (hI.ref b' cs' h y hy b2 hr)
  ·exact hI
 ·exact hI
theorem Z5b{Γ:List (Nat×Ty)}(hΓ:Yo P Γ){l:Loc}{E:Nat}(hI:Inv P B g σ a w):Inv P B g (Zpm Γ l E σ) a w:=by
 cases l with
 | t t=>exact Z4Z hΓ hI
 | b b c=>exact Z5a hΓ hI
theorem Znw{Γ:List (Nat×Ty)}(hΓ:Yo P Γ):∀{l:List (Loc×Nat)} {σ:St},Inv P B g σ a w→Inv P B g (ZfF Γ l σ) a w
 | [],_,h=>h
 | (t,E)::r,σ,h=>by
   unfold ZfF
   exact Znw hΓ (Z5b hΓ h)
def ZmG(σ τ:St):Prop:=τ.n=σ.n∧∀b,σ.n≤b→lk b τ.boxes=lk b σ.boxes
theorem Zs3{c:Bool}{σ τ:St}(h:c=true→ZmG σ τ):ZmG σ (bif c then τ else σ):=by
 cases c with
 | false=>exact ⟨rfl,fun _ _=>rfl⟩
 | true=>exact h rfl
theorem Z1A(Γ:List (Nat×Ty))(l:Loc)(E:Nat)(σ:St):ZmG σ (Zpm Γ l E σ):=by
 unfold Zpm
 split
 ·unfold ZtW Z19
  repeat' split
  all_goals first | exact ⟨rfl,fun _ _=>rfl⟩ | exact Zs3 fun _=>⟨rfl,fun _ _=>rfl⟩
 ·unfold ZtX
  repeat' split
  all_goals first | exact ⟨rfl,fun _ _=>rfl⟩ | skip
  refine Zs3 fun hn=>⟨rfl,fun b' hb'=>?_⟩
  have hn:=Qm_ hn
  show lk b' (_::σ.boxes)=_
  rw[Zq,if_neg (by omega)]
theorem ZfY(Γ:List (Nat×Ty)):∀(l:List (Loc×Nat)) (σ:St),ZmG σ (ZfF Γ l σ)
 | [],_=>⟨rfl,fun _ _=>rfl⟩
 | (t,E)::r,σ=>by
   have h1:=Z1A Γ t E σ
   have h2:=ZfY Γ r (Zpm Γ t E σ)
   exact ⟨h2.1.trans h1.1,fun b hb=>(h2.2 b (by rw[h1.1];exact hb)).trans (h1.2 b hb)⟩
theorem Z9G{g':G}{w':World}{σ':St}(h0:ZmG σ τ)(h:Fr B g τ w g' σ' w'):Fr B g σ w g' σ' w':=by
 obtain ⟨h1,h2⟩:=h0
 have l1:∀k,Zan g τ k→Zan g σ k:=fun k ⟨b,cs,base,a1,a2,a3⟩=>⟨b,cs,base,by rw[←h1];exact a1,by rw[←h2 b (by rw[←h1];exact a1)];exact a2,a3⟩
 have l2:∀k off,Lent g τ k off→Lent g σ k off:=fun k off ⟨b,cs,base,a1,a2,a3⟩=>⟨b,cs,base,by rw[←h1];exact a1,by rw[←h2 b (by rw[←h1];exact a1)];exact a2,a3⟩
 exact ⟨h.os,h.tape,h.output,h.size,h.n.trans h1,fun k hk hn=>h.block k hk (fun hl=>hn (l1 k hl)),fun k off hk hn=>h.cell k off hk (fun hl=>hn (l2 k off hl)),h.frozen,fun k hk hn=>h.hw k hk (fun hl=>hn (l1 k hl)),
  fun b cs hn hb=>by obtain ⟨cs0,q1,q2,q3⟩:=h.par b cs (by rw[h1];exact hn) hb;exact ⟨cs0,by rw[←h2 b hn];exact q1,q2,q3⟩,h.ext⟩
theorem Z71{g0:G}{w0:World}{σ0:St}(h0:ZmG σ τ)(h:Fr B g0 σ0 w0 g σ w):Fr B g0 σ0 w0 g τ w:=
 ⟨h.os,h.tape,h.output,h.size,h0.1.trans h.n,h.block,h.cell,h.frozen,h.hw,fun b cs hn hb=>h.par b cs hn (by rw[←h0.2 b (by rw[h.n];exact hn)];exact hb),h.ext⟩
end
def Wk(P:Program)(σ τ:St):Prop:=∀B g a w,Inv P B g σ a w→Inv P B g τ a w∧(∀g' σ' w',Fr B g τ w g' σ' w'→Fr B g σ w g' σ' w')∧∀B0 g0 σ0 w0,Fr B0 g0 σ0 w0 g σ w→Fr B0 g0 σ0 w0 g τ w
theorem ZA1{P:Program}{σ τ:St}(h:Sub τ σ):Wk P σ τ:=fun _ _ _ _ hI=>⟨ZdE hI h,fun _ _ _ hf=>Zva hf h,fun _ _ _ _ hf=>ZnB hf h⟩
theorem Z9H{P:Program}{Γ:List (Nat×Ty)}(hΓ:Yo P Γ)(l:List (Loc×Nat))(σ:St):Wk P σ (ZfF Γ l σ):=fun _ _ _ _ hI=>
 ⟨Znw hΓ hI,fun _ _ _ hf=>Z9G (ZfY Γ l σ) hf,fun _ _ _ _ hf=>Z71 (ZfY Γ l σ) hf⟩
theorem Wk.trans{P:Program}{σ τ ρ:St}(h:Wk P σ τ)(h':Wk P τ ρ):Wk P σ ρ:=fun B g a w hI=>by
 obtain ⟨i1,l1,r1⟩:=h B g a w hI
 obtain ⟨i2,l2,r2⟩:=h' B g a w i1
 exact ⟨i2,fun _ _ _ hf=>l1 _ _ _ (l2 _ _ _ hf),fun _ _ _ _ hf=>r2 _ _ _ _ (r1 _ _ _ _ hf)⟩
theorem Z9I{P:Program}{c:Code}{σ τ σ':St}{e:Ex}(hs:Wk P σ τ)(h:Tri P c τ e σ'):Tri P c σ e σ':=fun B g a w hI=>
 wp_mono (h B g a w (hs B g a w hI).1) fun _ _ _ ⟨h1,g',h2,h3⟩=>⟨h1,g',h2,(hs B g a w hI).2.1 _ _ _ h3⟩
theorem Z9J{P:Program}{c:Code}{σ τ σ':St}{e:Ex}(hs:Wk P σ' τ)(h:Tri P c σ e σ'):Tri P c σ e τ:=fun B g a w hI=>
 wp_mono (h B g a w hI) fun _ a' w' ⟨h1,g',h2,h3⟩=>⟨h1,g',(hs B g' a' w' h2).1,(hs B g' a' w' h2).2.2 _ _ _ _ h3⟩
theorem Z72{P:Program}{c:Code}{n:Nat}{σ τ σ':St}{e:Ex}(hs:Wk P σ' τ)(h:Zaz P n c σ e σ'):Zaz P n c σ e τ:=fun B g a w hI=>
 Zh9 (fun _ a' w' ⟨h1,g',h2,h3⟩=>⟨h1,g',(hs B g' a' w' h2).1,(hs B g' a' w' h2).2.2 _ _ _ _ h3⟩) n a w (h B g a w hI)
structure KpH where
 k:Kp
 h:List (Loc×Nat)
def ZcO(Γ:List (Nat×Ty))(k:KpH)(σ:St):Option St:=Z18 k.k (ZfF Γ k.h σ)
theorem ZvN{P:Program}{Γ:List (Nat×Ty)}(hΓ:Yo P Γ){k:KpH}{σ τ:St}(h:ZcO Γ k σ=some τ):Wk P σ τ:=(Z9H hΓ k.h σ).trans (ZA1 (Z4Y h))
def kpH(Γ:List (Nat×Ty))(k ke kr:KpH)(e:Ex)(σ:St):Option St:=match e with
 | .normal=>ZcO Γ k σ
 | .ret=>ZcO Γ kr σ
 | _=>ZcO Γ ke σ
theorem Z5c{P:Program}{Γ:List (Nat×Ty)}(hΓ:Yo P Γ){k ke kr:KpH}{e:Ex}{σ τ:St}(h:kpH Γ k ke kr e σ=some τ):Wk P σ τ:=by
 cases e<;>exact ZvN hΓ h
def sxH(E:Env)(C:Yb)(CP:Y4)(CI:Y0)(G:Gx)(LS:List (Nat×LSum))(n:Nat)(b:Code)(k ke kr:KpH)(σ:St)(Q:Ex→Option St→Prop):Prop:=
 ZkO (clean (JZ b) σ) fun σ=>YZ E.Γ (RSym E C) (Zfq E C CP CI G) LS n none b σ fun e σ1=>Q e (kpH E.Γ k ke kr e σ1)
theorem Zw{P:Program}{E:Env}(hE:EnvOk P E){C:Yb}(hC:CSOk P C){CP:Y4}(hP:CSPOk P CP){CI:Y0}(hI:CSIOk P CI){G:Gx}(hG:OwOk P C G){LS:List (Nat×LSum)}{b:Code}(hL:∀b'∈Ym b,∀S,lk (WP b') LS=some S→Ye P b' S){n:Nat}
 {X:Type} (H:X→St) (inv:X→Prop) (fin:X→Ex→St→Prop) (μ:X→Nat) (k ke kr:KpH)
 (step:∀x,inv x→sxH E C CP CI G LS n b k ke kr (H x) fun e o=>
   (e= .normal∧∃y,o=some (H y)∧inv y∧μ y < μ x∧∀e s,fin y e s→fin x e s)∨(e≠ .normal∧∃τ,o=some τ∧fin x e τ)):
 ∀x,inv x→∃e σ',fin x e σ'∧∃m,Zaz P m b (H x) e σ':=by
 have key:∀j x,μ x < j→inv x→∃e σ',fin x e σ'∧∃m,Zaz P m b (H x) e σ':=by
  intro j
  induction j with
  | zero=>intro x hx;omega
  | succ j ih=>
    intro x hx hi
    have hs:=step x hi
    unfold sxH at hs
    rw[Zia] at hs
    obtain ⟨e,σ1,h1,h2⟩:=Z9D hE hC hP hI hG hL hs
    have h3:=Wy h2
    rcases h1 with ⟨rfl,y,hy,iy,my,fy⟩ | ⟨hne,τ,ht,hf⟩
    ·obtain ⟨e',σ',f1,m,f2⟩:=ih y (by omega) iy
     exact ⟨e',σ',fy _ _ f1,m+1,ZiQ (Z9J (Z5c hE.Γ hy) h3) f2⟩
    ·exact ⟨e,τ,hf,1,Z72 (Z5c hE.Γ ht) (ZnD hne h3)⟩
 exact fun x hi=>key (μ x+1) x (by omega) hi
theorem ZdK{P:Program}{Γ:List (Nat×Ty)}(hΓ:Yo P Γ){b:Code}{S:LSum}{X:Type}{H:X→St}{inv:X→Prop}{fin:X→Ex→St→Prop}(h:∀x,inv x→∃e σ',fin x e σ'∧∃m,Zaz P m b (H x) e σ')(k:KpH)
 (hS:∀σ K,S σ K→∃x,ZcO Γ k σ=some (H x)∧inv x∧∀e σ',fin x e σ'→K e σ'):Ye P b S:=fun σ K hs=>by
 obtain ⟨x,h1,h2,h3⟩:=hS σ K hs
 obtain ⟨e,σ',f1,m,f2⟩:=h x h2
 exact ⟨e,σ',h3 e σ' f1,Z9I (ZvN hΓ h1) (ZiR f2)⟩
end Go.Ev
namespace Go.Men
open Go.Ev
theorem Zb{b:Bool}{X Y:Prop}(h:b=true→X)(h':b=false→Y):(bif b then X else Y):=by
 cases b
 ·exact h' rfl
 ·exact h rfl
def eOr(a b:Ent):Ent:=fun args=>match a args with
 | some r=>some r
 | none=>b args
theorem Zig{P:Program}{f:Nat}{a b:Ent}(ha:Zh P f a)(hb:Zh P f b):Zh P f (eOr a b):=fun args r ps h hp=>by
 unfold eOr at h
 split at h
 ·rename_i q hq
  have:=Qa_ h
  subst this
  exact ha _ _ _ hq hp
 ·exact hb _ _ _ h hp
def Zc{α:Type}(d:List PV→α)(xs:List (List PV)):List α:=xs.map d
theorem WA{α:Type}(d:List PV→α)(e:α→List PV)(h:∀x,d (e x)=x)(l:List α):Zc d (l.map e)=l:=by
 unfold Zc
 rw[List.map_map]
 conv=>rhs;rw[←List.map_id l]
 exact List.map_congr_left fun x _=>h x
structure Iv where
 lo:Int
 hi:Int
 no:Bool
 deriving DecidableEq
def Iv.enc(a:Iv):List PV:=[.v (.int .i64 a.lo),.v (.int .i64 a.hi),.v (.bool a.no)]
def Iv.dec(p:List PV):Iv:=⟨intOf (p.headD .nil),intOf (p.tail.headD .nil),Zt (p.tail.tail.headD .nil)⟩
structure V where
 x:Iv
 y:Iv
 z:Iv
 deriving DecidableEq
def V.enc(a:V):List PV:=[.v (.int .i64 a.x.lo),.v (.int .i64 a.x.hi),.v (.bool a.x.no),.v (.int .i64 a.y.lo),.v (.int .i64 a.y.hi),.v (.bool a.y.no),.v (.int .i64 a.z.lo),.v (.int .i64 a.z.hi),.v (.bool a.z.no)]
structure Ray where
 o:V
 d:V
 deriving DecidableEq
def Ray.enc(r:Ray):List PV:=[.v (.int .i64 r.o.x.lo),.v (.int .i64 r.o.x.hi),.v (.bool r.o.x.no),.v (.int .i64 r.o.y.lo),.v (.int .i64 r.o.y.hi),.v (.bool r.o.y.no),.v (.int .i64 r.o.z.lo),.v (.int .i64 r.o.z.hi),.v (.bool r.o.z.no),
 .v (.int .i64 r.d.x.lo),.v (.int .i64 r.d.x.hi),.v (.bool r.d.x.no),.v (.int .i64 r.d.y.lo),.v (.int .i64 r.d.y.hi),.v (.bool r.d.y.no),.v (.int .i64 r.d.z.lo),.v (.int .i64 r.d.z.hi),.v (.bool r.d.z.no)]
structure Dec where
 c:Int
 scale:Int
 deriving DecidableEq
def Dec.enc(a:Dec):List PV:=[.v (.int .i64 a.c),.v (.int .i64 a.scale)]
structure A3 where
 a:Int
 b:Int
 c:Int
 deriving DecidableEq
def A3.enc(x:A3):List PV:=[.v (.int .i64 x.a),.v (.int .i64 x.b),.v (.int .i64 x.c)]
structure A6 where
 a:Int
 b:Int
 c:Int
 d:Int
 e:Int
 f:Int
def A6.enc(x:A6):List PV:=[.v (.int .i64 x.a),.v (.int .i64 x.b),.v (.int .i64 x.c),.v (.int .i64 x.d),.v (.int .i64 x.e),.v (.int .i64 x.f)]
structure RawRay where
 x:Int
 y:Int
 u:Int
 w:Int
 wide:Int
 lean:Int
def RawRay.enc(r:RawRay):List PV:=[.v (.int .i64 r.x),.v (.int .i64 r.y),.v (.int .i64 r.u),.v (.int .i64 r.w),.v (.int .i64 r.wide),.v (.int .i64 r.lean)]
structure Shape where
 kind:Int
 x:Dec
 y:Dec
 z:Dec
 r:Dec
 glow:A3
def Shape.enc(s:Shape):List PV:=[.v (.int .i64 s.kind),.v (.int .i64 s.x.c),.v (.int .i64 s.x.scale),.v (.int .i64 s.y.c),.v (.int .i64 s.y.scale),.v (.int .i64 s.z.c),.v (.int .i64 s.z.scale),.v (.int .i64 s.r.c),.v (.int .i64 s.r.scale),.v (.int .i64 s.glow.a),.v (.int .i64 s.glow.b),.v (.int .i64 s.glow.c)]
def Shape.dec(p:List PV):Shape:=⟨intOf (p.headD .nil),⟨intOf (p.tail.headD .nil),intOf (p.tail.tail.headD .nil)⟩,⟨intOf (p.tail.tail.tail.headD .nil),intOf (p.tail.tail.tail.tail.headD .nil)⟩,⟨intOf (p.tail.tail.tail.tail.tail.headD .nil),intOf (p.tail.tail.tail.tail.tail.tail.headD .nil)⟩,⟨intOf (p.tail.tail.tail.tail.tail.tail.tail.headD .nil),intOf (p.tail.tail.tail.tail.tail.tail.tail.tail.headD .nil)⟩,⟨intOf (p.tail.tail.tail.tail.tail.tail.tail.tail.tail.headD .nil),intOf (p.tail.tail.tail.tail.tail.tail.tail.tail.tail.tail.headD .nil),intOf (p.tail.tail.tail.tail.tail.tail.tail.tail.tail.tail.tail.headD .nil)⟩⟩
structure I where
 n:Int
def I.enc(a:I):List PV:=[.v (.int .i64 a.n)]
def I.dec(p:List PV):I:=⟨intOf (p.headD .nil)⟩
def Fit(n:Int):Prop:= -9223372036854775808≤n∧n≤9223372036854775807
theorem Zg{n:Int}(h:Fit n):IntKind.i64.wrap n=n:=by
 obtain ⟨h1,h2⟩:=h
 simp[IntKind.wrap,IntKind.bits,IntKind.signed]
 split<;>omega
theorem Zjn{b:Int}(hb:b≠0):(b < 0∧b.sign= -1)∨(0 < b∧b.sign=1):=by
 rcases Int.lt_or_gt_of_ne hb with h | h
 ·exact .inl ⟨h,Int.sign_eq_neg_one_of_neg h⟩
 ·exact .inr ⟨h,Int.sign_eq_one_of_pos h⟩
theorem Z0u{a b:Int}(hb:b≠0)(hm:a.tmod b≠0)(h:(decide (a < 0)==decide (b < 0))=false):a.tdiv b - 1=a.fdiv b:=by
 have hd:¬b∣a:=fun hd=>hm (Int.tmod_eq_zero_of_dvd hd)
 rw[Int.fdiv_eq_tdiv,if_neg hd]
 have ha:a≠0:=fun e=>hd (e▸Int.dvd_zero b)
 have hs:=Zjn hb
 by_cases h1:a < 0<;>by_cases h2:b < 0<;>simp[h1,h2] at h
 ·rw[if_neg (by omega)];omega
 ·rw[if_pos (by omega),if_neg (by omega)]
theorem ZmH{a b:Int}(hb:b≠0)(h:a.tmod b=0∨(decide (a < 0)==decide (b < 0))=true):a.tdiv b=a.fdiv b:=by
 rw[Int.fdiv_eq_tdiv]
 by_cases hd:b∣a
 ·rw[if_pos hd];omega
 ·rw[if_neg hd]
  have hm:a.tmod b≠0:=fun e=>hd (Int.dvd_of_tmod_eq_zero e)
  have ha:a≠0:=fun e=>hd (e▸Int.dvd_zero b)
  have h:=h.resolve_left hm
  have hs:=Zjn hb
  by_cases h1:a < 0<;>by_cases h2:b < 0<;>simp[h1,h2] at h
  ·rw[if_neg (by omega)];split<;>omega
  ·rw[if_pos (by omega),if_pos (by omega)];omega
theorem Zcg{a b:Int}(h: -4611686018427387904≤a∧a≤4611686018427387904): -4611686018427387904≤a.tdiv b∧a.tdiv b≤4611686018427387904:=by
 have:=Int.natAbs_tdiv_le_natAbs a b
 omega
theorem ZfZ{a b:Int}(h: -4611686018427387904≤a∧a≤4611686018427387904): -4611686018427387905≤a.fdiv b∧a.fdiv b≤4611686018427387905:=by
 have:=Zcg (b:=b) h
 by_cases hb:b=0
 ·subst hb;simp
 ·have hs:=Zjn hb
  rw[Int.fdiv_eq_tdiv]
  split
  ·omega
  ·split<;>split<;>omega
def inB(n:Int):Bool:=decide (-1073741824≤n)&&decide (n≤1073741824)
theorem ZV{n:Int}:inB n=true↔ -1073741824≤n∧n≤1073741824:=by simp[inB]
def right(a:Iv):Bool:= !a.no&&(inB a.lo&&(inB a.hi&&decide (a.lo≤a.hi)))
def none':Iv:=⟨0,0,true⟩
def of(lo hi:Int):Iv:=bif right ⟨lo,hi,false⟩ then ⟨lo,hi,false⟩ else none'
def point(n:Int):Iv:=of n n
def whole(n:Int):Iv:=bif inB n then point (n *65536) else none'
def floor(a b:Int):Int:=a.fdiv b
def up1(a b:Int):Int:=if a % b=0 then a.fdiv b else a.fdiv b+1
def rounded(a b:Int)(up:Bool):Int×Bool:=
 let q:=bif up then up1 a b else a.fdiv b
 bif inB q then (q,true) else (0,false)
def told(n:Int):Int×Bool:=bif inB n then (n,true) else (0,false)
def mul(a b:Int)(up:Bool):Int×Bool:=bif inB a&&inB b then rounded (a *b) 65536 up else (0,false)
def div(a b:Int)(up:Bool):Int×Bool:=bif inB a&&(inB b&&decide (b≠0)) then rounded (a *65536) b up else (0,false)
def both(a b:Iv):Bool:=right a&&right b
def neg(a:Iv):Iv:=bif right a then of (-a.hi) (-a.lo) else none'
def add(a b:Iv):Iv:=bif both a b then of (a.lo+b.lo) (a.hi+b.hi) else none'
def sub(a b:Iv):Iv:=add a (neg b)
def has(a:Iv)(n:Int):Bool:=right a&&(decide (a.lo≤n)&&decide (n≤a.hi))
theorem Y9{a:Iv}(h:right a=true):a.no=false∧(-1073741824≤a.lo∧a.lo≤1073741824)∧(-1073741824≤a.hi∧a.hi≤1073741824)∧a.lo≤a.hi:=by
 simpa [right,inB] using h
theorem ZvO{a:Iv}(h:a.no=false)(h1: -1073741824≤a.lo)(h2:a.hi≤1073741824)(h3:a.lo≤a.hi):right a=true:=by
 simp[right,inB,h];omega
theorem Z5d{b:Iv}(h:right b=true):neg b=⟨-b.hi,-b.lo,false⟩:=by
 have hb:=Y9 h
 have:right ⟨-b.hi,-b.lo,false⟩=true:=ZvO rfl (by simp;omega) (by simp;omega) (by simp;omega)
 simp[neg,of,h,this]
theorem Z5e(b:Iv):right (neg b)=right b:=by
 cases h:right b with
 | true=>
   have hb:=Y9 h
   rw[Z5d h]
   exact ZvO rfl (by simp;omega) (by simp;omega) (by simp;omega)
 | false=>simp[neg,h];rfl
theorem ZA2(a b:Iv):sub a b=bif both a b then of (a.lo - b.hi) (a.hi - b.lo) else none':=by
 unfold sub add both
 rw[Z5e]
 cases h:right b with
 | true=>simp[Z5d h,Int.sub_eq_add_neg]
 | false=>simp
theorem ZvP{a b:Int}(h:a.tmod b≠0):decide (a.tmod b < 0)=decide (a < 0):=by
 by_cases ha:a < 0
 ·have:=Int.tmod_nonneg b (a:= -a) (by omega)
  rw[Int.neg_tmod] at this
  simp[ha];omega
 ·have:=Int.tmod_nonneg b (a:=a) (by omega)
  simp[ha];omega
theorem Z1B{lo hi:Int}(h1:inB lo=true)(h2:inB hi=true)(h3:lo≤hi):of lo hi=⟨lo,hi,false⟩:=by
 simp[of,right,h1,h2,h3]
theorem Zs4{a b:Int}:a.tmod b=0↔a % b=0:=by
 rw[←Int.dvd_iff_tmod_eq_zero,←Int.dvd_iff_emod_eq_zero]
theorem ZvQ{a b:Int}(hb:b≠0):a.fdiv b *b=a↔a % b=0:=by
 rw[←Int.dvd_iff_emod_eq_zero]
 constructor
 ·intro h;exact ⟨a.fdiv b,by rw[Int.mul_comm];exact h.symm⟩
 ·rintro ⟨c,rfl⟩
  rw[Int.mul_comm b c,Int.mul_fdiv_cancel _ hb]
theorem ZkS{a b:Int}(hl:0 < b):a - b < a.fdiv b *b∧a.fdiv b *b≤a:=by
 have h1:=Int.fmod_add_fdiv_mul a b
 have h2:=Int.fmod_nonneg_of_pos a hl
 have h3:=Int.fmod_lt_of_pos a hl
 omega
theorem ZvR{a b:Int}(hb:b≠0)(ha: -4611686018427387904≤a∧a≤4611686018427387904)(h: -4611686018427387904≤b∧b≤4611686018427387904):Fit (a.fdiv b *b):=by
 rcases Int.lt_or_gt_of_ne hb with hl | hl
 ·have h1:=ZkS (a:= -a) (b:= -b) (by omega)
  rw[Int.neg_fdiv_neg,Int.mul_neg] at h1
  constructor<;>omega
 ·have h1:=ZkS (a:=a) hl
  constructor<;>omega
theorem Zcs{a b:Int}(ha:inB a=true)(hb:inB b=true): -1152921504606846976≤a *b∧a *b≤1152921504606846976:=by
 rw[ZV] at ha hb
 have h1:(a *b).natAbs≤1073741824 *1073741824:=by
  rw[Int.natAbs_mul]
  exact Nat.mul_le_mul (by omega) (by omega)
 omega
def ends(f:Int→Int→Bool→Int×Bool)(a b:Iv):Iv:=
 bif ((f a.lo b.lo false).2&&(f a.lo b.lo true).2)&&(((f a.lo b.hi false).2&&(f a.lo b.hi true).2)&&(((f a.hi b.lo false).2&&(f a.hi b.lo true).2)&&((f a.hi b.hi false).2&&(f a.hi b.hi true).2))) then
  of (min (min (f a.lo b.lo false).1 (f a.lo b.hi false).1) (min (f a.hi b.lo false).1 (f a.hi b.hi false).1)) (max (max (f a.lo b.lo true).1 (f a.lo b.hi true).1) (max (f a.hi b.lo true).1 (f a.hi b.hi true).1))
 else none'
def Zl(a b:Iv):Iv:=bif both a b then ends mul a b else none'
def Zp(a b:Iv):Iv:=bif both a b&& !(has b 0) then ends div a b else none'
def Good(f:Int→Int→Bool→Int×Bool):Prop:=∀x y,(f x y false).2=true→(f x y true).2=true→inB (f x y false).1=true∧inB (f x y true).1=true∧(f x y false).1≤(f x y true).1
theorem ZA3(a b:Int):a.fdiv b≤up1 a b:=by unfold up1;split<;>omega
theorem ZkT{a b:Int}(h1:(rounded a b false).2=true)(h2:(rounded a b true).2=true):inB (rounded a b false).1=true∧inB (rounded a b true).1=true∧(rounded a b false).1≤(rounded a b true).1:=by
 have:=ZA3 a b
 unfold rounded at *
 simp only[Qb_,Qd_] at *
 cases e1:inB (a.fdiv b)<;>cases e2:inB (up1 a b)<;>simp_all
theorem Z73:Good mul:=by
 intro x y h1 h2
 unfold mul at *
 cases e:(inB x&&inB y) with
 | false=>simp[e] at h1
 | true=>simp only[e,Qb_] at *;exact ZkT h1 h2
theorem Z74:Good div:=by
 intro x y h1 h2
 unfold div at *
 cases e:(inB x&&(inB y&&decide (y≠0))) with
 | false=>rw[e] at h1;simp at h1
 | true=>simp only[e,Qb_] at *;exact ZkT h1 h2
def ch1(p q:Int)(e:Iv):Iv:=of (List.foldl imin e.lo [p]) (List.foldl imax e.hi [q])
theorem ZC(x y:Int):imin x y=min x y:=by unfold imin;split<;>omega
theorem ZB(x y:Int):imax x y=max x y:=by unfold imax;split<;>omega
theorem Zpn{p q l h:Int}(h1:inB p=true)(h2:inB q=true)(h3:inB l=true)(h4:inB h=true)(h5:p≤q)(h6:l≤h):ch1 p q ⟨l,h,false⟩=⟨min l p,max h q,false⟩:=by
 rw[ZV] at *
 simp only[ch1,List.foldl,ZC,ZB]
 exact Z1B (ZV.2 (by omega)) (ZV.2 (by omega)) (by omega)
theorem Zpo{f:Int→Int→Bool→Int×Bool}(g:Good f){a b:Iv}(h1:(f a.lo b.lo false).2=true)(h2:(f a.lo b.lo true).2=true)(h3:(f a.lo b.hi false).2=true)(h4:(f a.lo b.hi true).2=true)(h5:(f a.hi b.lo false).2=true)(h6:(f a.hi b.lo true).2=true)(h7:(f a.hi b.hi false).2=true)(h8:(f a.hi b.hi true).2=true):
 ch1 (f a.hi b.hi false).1 (f a.hi b.hi true).1 (ch1 (f a.hi b.lo false).1 (f a.hi b.lo true).1 (ch1 (f a.lo b.hi false).1 (f a.lo b.hi true).1 (ch1 (f a.lo b.lo false).1 (f a.lo b.lo true).1 (of (f a.lo b.lo false).1 (f a.lo b.lo true).1))))=ends f a b:=by
 obtain ⟨a1,a2,a3⟩:=g _ _ h1 h2
 obtain ⟨b1,b2,b3⟩:=g _ _ h3 h4
 obtain ⟨c1,c2,c3⟩:=g _ _ h5 h6
 obtain ⟨d1,d2,d3⟩:=g _ _ h7 h8
 simp only[ends,h1,h2,h3,h4,h5,h6,h7,h8,QZ_,Qb_]
 generalize (f a.lo b.lo false).1=p1 at *
 generalize (f a.lo b.lo true).1=q1 at *
 generalize (f a.lo b.hi false).1=p2 at *
 generalize (f a.lo b.hi true).1=q2 at *
 generalize (f a.hi b.lo false).1=p3 at *
 generalize (f a.hi b.lo true).1=q3 at *
 generalize (f a.hi b.hi false).1=p4 at *
 generalize (f a.hi b.hi true).1=q4 at *
 rw[Z1B a1 a2 a3,Zpn a1 a2 a1 a2 a3 a3]
 rw[ZV] at *
 rw[Zpn (ZV.2 b1) (ZV.2 b2) (ZV.2 (by omega)) (ZV.2 (by omega)) b3 (by omega),
  Zpn (ZV.2 c1) (ZV.2 c2) (ZV.2 (by omega)) (ZV.2 (by omega)) c3 (by omega),
  Zpn (ZV.2 d1) (ZV.2 d2) (ZV.2 (by omega)) (ZV.2 (by omega)) d3 (by omega)]
 rw[Z1B (ZV.2 (by omega)) (ZV.2 (by omega)) (by omega)]
 simp only[Iv.mk.injEq,and_true]
 omega
theorem ZmI{f:Int→Int→Bool→Int×Bool}{a b:Iv}(h:(f a.lo b.lo false).2=false∨(f a.lo b.lo true).2=false∨(f a.lo b.hi false).2=false∨(f a.lo b.hi true).2=false∨(f a.hi b.lo false).2=false∨(f a.hi b.lo true).2=false∨(f a.hi b.hi false).2=false∨(f a.hi b.hi true).2=false):none'=ends f a b:=by
 unfold ends
 rcases h with h | h | h | h | h | h | h | h<;>simp[h]
theorem Z0v{f:Int→Int→Bool→Int×Bool}{a b:Iv}{x y:Int}(h1:(f a.lo b.lo false).2=true)(h2:(f a.lo b.lo true).2=true)(h3:(f a.lo b.hi false).2=true)(h4:(f a.lo b.hi true).2=true)(h5:(f a.hi b.lo false).2=true)(h6:(f a.hi b.lo true).2=true)(h7:(f a.hi b.hi false).2=true)(h8:(f a.hi b.hi true).2=true)
 (hx:x=min (min (f a.lo b.lo false).1 (f a.lo b.hi false).1) (min (f a.hi b.lo false).1 (f a.hi b.hi false).1)) (hy:y=max (max (f a.lo b.lo true).1 (f a.lo b.hi true).1) (max (f a.hi b.lo true).1 (f a.hi b.hi true).1)):of x y=ends f a b:=by
 subst hx;subst hy
 simp only[ends,h1,h2,h3,h4,h5,h6,h7,h8,QZ_,Qb_]
def far(a:Iv):Int:=max (-a.lo) a.hi
def near(a:Iv):Int:=max (max a.lo (-a.hi)) 0
def sqr(a:Iv):Iv:=bif right a&&(mul (far a) (far a) true).2 then of (mul (near a) (near a) false).1 (mul (far a) (far a) true).1 else none'
def times(a:Iv)(k:Int):Iv:=bif right a&&inB k then of (min (k *a.lo) (k *a.hi)) (max (k *a.lo) (k *a.hi)) else none'
def Ya:Nat→Int→Int→Int
 | 0,_,r=>r
 | k+1,n,r=>if (r+2 ^ k)* (r+2 ^ k)≤n then Ya k n (r+2 ^ k) else Ya k n r
def root(a:Int)(up:Bool):Int×Bool:=bif inB a&&decide (0≤a) then
    (bif up&&decide (Ya 24 (a *65536) 0 *Ya 24 (a *65536) 0 < a *65536) then (Ya 24 (a *65536) 0+1,true) else (Ya 24 (a *65536) 0,true))
 else (0,false)
def ZL(a:Iv):Iv:=bif right a&&decide (0≤a.lo) then of (root a.lo false).1 (root a.hi true).1 else none'
def Wc(a b c:Iv):Iv×Int:=
 let d:=sub (sqr b) (Zl a c)
 bif d.no then (none',0) else bif decide (d.hi < 0) then (none',2) else bif decide (d.lo < 0) then (none',0) else
  let t:=Zp c (sub (ZL d) b)
  bif t.no then (none',0) else (t,1)
def ZhI(a b:V):V:=⟨add a.x b.x,add a.y b.y,add a.z b.z⟩
def ZnK(a b:V):V:=⟨sub a.x b.x,sub a.y b.y,sub a.z b.z⟩
def dot(a b:V):Iv:=add (add (Zl a.x b.x) (Zl a.y b.y)) (Zl a.z b.z)
def X9(a:V):Iv:=add (add (sqr a.x) (sqr a.y)) (sqr a.z)
def unit(a:V):V:=⟨Zp a.x (ZL (X9 a)),Zp a.y (ZL (X9 a)),Zp a.z (ZL (X9 a))⟩
def ZO(d:Dec):Bool:=decide (d.c≥ -100000000000)&&(decide (d.c≤100000000000)&&(decide (d.scale≥0)&&(decide (d.scale≤6)&&(d.scale==0||d.c.tmod 10 !=0))))
def ZD(n:Int):Int:=10 ^ n.toNat
def Zj(d:Dec):Iv:=bif ZO d then of (floor (d.c *65536) (ZD d.scale)) (-(floor (-(d.c *65536)) (ZD d.scale))) else none'
def within(n low high:Int):Int:=max low (min high n)
theorem Zjo{i:Int}(h:0≤i):ZD (i+1)=ZD i *10:=by
 unfold ZD
 rw[show (i+1).toNat=i.toNat+1 by omega,Int.pow_succ]
theorem Zct(i:Int):1≤ZD i:=by
 unfold ZD
 have:0 < (10:Int) ^ i.toNat:=Int.pow_pos (by omega)
 omega
theorem Zpp{i j:Int}(h:i≤j):ZD i≤ZD j:=by
 unfold ZD
 have:=Nat.pow_le_pow_right (n:=10) (by omega) (show i.toNat≤j.toNat by omega)
 exact_mod_cast this
theorem ZnL{i:Int}(h:i≤18):ZD i≤1000000000000000000:=Zpp (j:=18) h
theorem XA{n:Int}(h: -9223372036854775807≤n∧n≤9223372036854775807):IntKind.i64.wrap (0 - n)= -n:=by
 rw[Zg (by constructor<;>omega)];omega
theorem ZvS{a b:Int}(hb:0 < b): -(floor (-a) b)=up1 a b:=by
 unfold floor up1
 have h1:=KC_ (-a) (Int.le_of_lt hb)
 have h2:=KC_ a (Int.le_of_lt hb)
 rw[h1,h2,Int.neg_ediv]
 by_cases h:b∣a
 ·rw[if_pos h,if_pos (Int.emod_eq_zero_of_dvd h)];omega
 ·rw[if_neg h,if_neg (fun e=>h (Int.dvd_of_emod_eq_zero e)),Int.sign_eq_one_of_pos hb];omega
theorem ZnM(n:Int):∀(k:Nat) (r:Int),r≤Ya k n r∧Ya k n r < r+2 ^ k
 | 0,r=>by simp[Ya];omega
 | k+1,r=>by
   have h:(2:Int) ^ (k+1)=2 ^ k+2 ^ k:=by rw[Int.pow_succ];omega
   have hp:(0:Int) < 2 ^ k:=Int.pow_pos (by omega)
   unfold Ya
   split
   ·have:=ZnM n k (r+2 ^ k);omega
   ·have:=ZnM n k r;omega
theorem Z75{n:Int}(h:n < 281474976710656):Ya 25 n 0=Ya 24 n 0:=by
 conv=>lhs;unfold Ya
 rw[if_neg (by simp;omega)]
theorem ZnN{n:Int}:0≤Ya 24 n 0∧Ya 24 n 0 < 16777216:=by
 have:=ZnM n 24 0
 simp at this
 omega
theorem ZmJ{n:Int}:Fit (Ya 24 n 0 *Ya 24 n 0):=by
 have:=ZnN (n:=n)
 generalize Ya 24 n 0=r at *
 have h1:0≤r *r:=Int.mul_nonneg this.1 this.1
 have h2:r *r≤16777216 *16777216:=Int.mul_le_mul (by omega) (by omega) this.1 (by omega)
 constructor<;>omega
theorem ZvT{b:Int}(h:0≤b):(2:Int) ^ (b+1).toNat=2 ^ b.toNat+2 ^ b.toNat:=by
 rw[show (b+1).toNat=b.toNat+1 by omega,Int.pow_succ];omega
theorem ZA4{x:Int}(h:0≤x∧x≤33554432):Fit (x *x):=by
 have h1:0≤x *x:=Int.mul_nonneg h.1 h.1
 have h2:x *x≤33554432 *33554432:=Int.mul_le_mul (by omega) (by omega) h.1 (by omega)
 constructor<;>omega
theorem ZA5{r b:Int}(hb:0≤b∧b≤30)(hr:0≤r∧r < 4294967296)(hd:(2:Int) ^ (b.toNat+1)∣r):
 IntKind.i64.wrap ((BitVec.ofInt IntKind.i64.bits r||| BitVec.ofInt IntKind.i64.bits (IntKind.i64.wrap (1 *2 ^ min b.toNat IntKind.i64.bits))).toNat:Int)=r+2 ^ b.toNat:=by
 obtain ⟨m,hm⟩:=Int.eq_ofNat_of_zero_le hr.1
 obtain ⟨k,hk⟩:=Int.eq_ofNat_of_zero_le hb.1
 subst hm;subst hk
 have hk30:k≤30:=by omega
 have hm32:m < 4294967296:=by omega
 have hp:2 ^ k≤2 ^ 30:=Nat.pow_le_pow_right (by omega) hk30
 have e1:min (Int.toNat (k:Int)) IntKind.i64.bits=k:=by simp[IntKind.bits];omega
 have hp30:(2:Nat) ^ 30=1073741824:=by decide
 have e2:IntKind.i64.wrap (1 *2 ^ k)=((2 ^ k:Nat):Int):=by
  have h2:(1:Int)*2 ^ k=((2 ^ k:Nat):Int):=by simp
  rw[h2]
  generalize (2 ^ k:Nat)=t at *
  exact Zg (by constructor<;>omega)
 rw[e1,e2]
 have hd':2 ^ (k+1)∣m:=by
  have:((2 ^ (k+1):Nat):Int)∣(m:Int):=by simpa using hd
  exact Int.ofNat_dvd.1 this
 obtain ⟨c,hc⟩:=hd'
 have e3:(BitVec.ofInt IntKind.i64.bits (m:Int)||| BitVec.ofInt IntKind.i64.bits ((2 ^ k:Nat):Int)).toNat=m+2 ^ k:=by
  rw[BitVec.toNat_or,BitVec.ofInt_natCast,BitVec.ofInt_natCast,BitVec.toNat_ofNat,BitVec.toNat_ofNat]
  rw[Nat.mod_eq_of_lt (show m < 2 ^ IntKind.i64.bits by simp only[IntKind.bits];omega),Nat.mod_eq_of_lt (show 2 ^ k < 2 ^ IntKind.i64.bits by simp only[IntKind.bits];omega)]
  have h2:2 ^ k < 2 ^ (k+1):=Nat.pow_lt_pow_right (by omega) (by omega)
  have:=Nat.shiftLeft_add_eq_or_of_lt h2 c
  rw[Nat.shiftLeft_eq,Nat.mul_comm,←hc] at this
  exact this.symm
 rw[e3,Zg (by generalize (2 ^ k:Nat)=t at *;constructor<;>omega)]
 simp
theorem ZrA{r bit:Int}(h0:0≤bit)(a1:bit≤24)(a3:0≤r∧r+2 ^ (bit+1).toNat≤33554432)(a4:(2:Int) ^ (bit+1).toNat∣r):
 IntKind.i64.wrap (BitVec.ofInt (64:Nat) r||| BitVec.ofInt (64:Nat) (IntKind.i64.wrap (1 *2 ^ min bit.toNat (64:Nat)))).toNat=r+2 ^ bit.toNat:=by
 have h4:=ZvT h0
 have hp:(0:Int) < 2 ^ bit.toNat:=Int.pow_pos (by omega)
 rw[h4] at a3
 exact ZA5 (r:=r) (b:=bit) (by omega) (by omega) (by rw[show bit.toNat+1=(bit+1).toNat by omega];exact a4)
theorem Wq{r bit:Int}(h0:0≤bit)(a3:0≤r∧r+2 ^ (bit+1).toNat≤33554432):
 (bit - 1+1).toNat=bit.toNat∧(bit+1).toNat=bit.toNat+1∧(0:Int) < 2 ^ bit.toNat∧(2:Int) ^ (bit+1).toNat=2 ^ bit.toNat+2 ^ bit.toNat∧Fit ((r+2 ^ bit.toNat)* (r+2 ^ bit.toNat))∧(0≤r∧r+2 ^ bit.toNat+2 ^ bit.toNat≤33554432):=by
 have h4:=ZvT h0
 have hp:(0:Int) < 2 ^ bit.toNat:=Int.pow_pos (by omega)
 rw[h4] at a3
 exact ⟨by omega,by omega,hp,h4,ZA4 (by omega),by omega⟩
theorem ZrB{r bit:Int}(h0:0≤bit)(a1:bit≤24)(a3:0≤r∧r+2 ^ (bit+1).toNat≤33554432):IntKind.i64.wrap (1 *2 ^ min bit.toNat (64:Nat))=2 ^ bit.toNat:=by
 obtain ⟨k1,k2,k3,k4,k5,k6⟩:=Wq h0 a3
 rw[show min bit.toNat 64=bit.toNat by omega,Int.one_mul]
 exact Zg (by constructor<;>omega)
theorem ZnO(n:Int):∀(k:Nat) (r:Int),r *r≤n→Ya k n r *Ya k n r≤n
 | 0,r,h=>h
 | k+1,r,h=>by
   unfold Ya
   split
   ·exact ZnO n k _ (by assumption)
   ·exact ZnO n k _ h
theorem Z76{n:Int}(h:0≤n):Ya 24 n 0 *Ya 24 n 0≤n:=ZnO n 24 0 (by simpa using h)
theorem Zec(l h:Int):right (of l h)= !(of l h).no:=by
 unfold of
 cases e:right ⟨l,h,false⟩ with
 | true=>simp[e]
 | false=>simp;rfl
theorem WV:right none'= !none'.no:=rfl
theorem ZbP{c:Bool}{x y:Iv}(hx:right x= !x.no)(hy:right y= !y.no):right (bif c then x else y)= !(bif c then x else y).no:=by cases c<;>assumption
theorem Zga(a b:Iv):right (add a b)= !(add a b).no:=ZbP (Zec _ _) WV
theorem Z5f(a:Iv):right (neg a)= !(neg a).no:=ZbP (Zec _ _) WV
theorem ZcP(a b:Iv):right (sub a b)= !(sub a b).no:=Zga _ _
theorem Z0w(f:Int→Int→Bool→Int×Bool)(a b:Iv):right (ends f a b)= !(ends f a b).no:=ZbP (Zec _ _) WV
theorem ZvU(a b:Iv):right (Zl a b)= !(Zl a b).no:=ZbP (Z0w _ _ _) WV
theorem Zgb(a b:Iv):right (Zp a b)= !(Zp a b).no:=ZbP (Z0w _ _ _) WV
theorem Z5g(a:Iv):right (sqr a)= !(sqr a).no:=ZbP (Zec _ _) WV
theorem Zs5(a:Iv):right (ZL a)= !(ZL a).no:=ZbP (Zec _ _) WV
theorem ZvV(d:Dec):right (Zj d)= !(Zj d).no:=ZbP (Zec _ _) WV
theorem ZnP(n:Int):right (point n)= !(point n).no:=Zec _ _
theorem ZvW(n:Int):right (whole n)= !(whole n).no:=ZbP (ZnP _) WV
theorem Zed{d:Dec}(h:ZO d=true):(-100000000000≤d.c∧d.c≤100000000000)∧(0≤d.scale∧d.scale≤6):=by
 simp[ZO] at h
 omega
def pick(n m:Int):Int:=n % m
theorem Zcu{n m:Int}(h:0 < m):0≤pick n m∧pick n m < m:=⟨Int.emod_nonneg n (by omega),Int.emod_lt_of_pos n h⟩
theorem Z0x{n m:Int}(h:0 < m):pick n m=if n.tmod m < 0 then n.tmod m+m else n.tmod m:=by
 have h1:=Zcu (n:=n) h
 unfold pick at *
 rw[Int.tmod_eq_emod]
 split<;>split<;>omega
theorem Z9K{n m:Int}(h:0 < m): -m < n.tmod m∧n.tmod m < m:=by
 have h1:=Zcu (n:=n) h
 unfold pick at h1
 rw[Int.tmod_eq_emod]
 split<;>omega
def w64(n:Int):Int:=IntKind.i64.wrap n
def wide(x w:Int):Iv:=⟨within x (-1073741824) 1073741824,min 1073741824 (within x (-1073741824) 1073741824+w),false⟩
def ZS(n:Int):Bool:=decide (0≤n)&&decide (n≤255)
def YD(d:Dec):Bool:=d.c==0&&d.scale==0
def Z6(s:Shape):Bool:=
 (ZS s.glow.a&&(ZS s.glow.b&&ZS s.glow.c))&&
 (bif s.kind==1 then ZO s.x&&(ZO s.y&&(ZO s.z&&(ZO s.r&&decide (s.r.c > 0))))
  else bif s.kind==2 then ZO s.z&&(YD s.x&&(YD s.y&&YD s.r)) else false)
def Y6(l:List Shape):Bool:=decide (l.length≤8)&&l.all Z6
def meet(s:Shape)(r:Ray):Iv×Int:=
 bif s.kind==1 then
  let o:=ZnK r.o ⟨Zj s.x,Zj s.y,Zj s.z⟩
  Wc (X9 r.d) (dot o r.d) (sub (X9 o) (sqr (Zj s.r)))
 else bif s.kind==2 then
  let t:=Zp (sub (Zj s.z) r.o.z) r.d.z
  bif t.no then (none',0) else (t,1)
 else (none',0)
def hit(s:Shape)(r:Ray):Iv×Int:=
 bif !((meet s r).2==1) then (none',(meet s r).2) else bif decide ((meet s r).1.hi≤0) then (none',2) else bif decide ((meet s r).1.lo≤0) then (none',0) else ((meet s r).1,1)
theorem Zm(l:List Shape):Zc Shape.dec (l.map Shape.enc)=l:=WA _ _ (fun _=>rfl) l
theorem dI(l:List I):Zc I.dec (l.map I.enc)=l:=WA _ _ (fun _=>rfl) l
theorem dIv(l:List Iv):Zc Iv.dec (l.map Iv.enc)=l:=WA _ _ (fun _=>rfl) l
def Xa{α:Type}(p:α→Bool):List α→Int→Int
 | [],_=> -1
 | x::r,i=>bif p x then i else Xa p r (i+1)
theorem Zih{α:Type}{p:α→Bool}:∀{l:List α} {i:Int},l.any p=false→Xa p l i= -1
 | [],_,_=>rfl
 | x::r,i,h=>by
   simp only[QU_,Ka_] at h
   simp only[Xa,h.1,Qd_]
   exact Zih h.2
theorem Zii{α:Type}{p:α→Bool}:∀{l:List α} {i:Int},0≤i→decide (Xa p l i≥0)=l.any p
 | [],_,_=>by simp[Xa]
 | x::r,i,h=>by
   cases e:p x with
   | true=>simp[Xa,e];exact h
   | false=>simpa [Xa,e] using Zii (p:=p) (l:=r) (i:=i+1) (by omega)
theorem Yf{α:Type}{l:List α}{i:Int}(h0:0≤i)(h:i < l.length):∃x r,l.drop i.toNat=x::r∧l.drop (i+1).toNat=r∧l[i.toNat]?=some x:=by
 have hl:i.toNat < l.length:=by omega
 refine ⟨l[i.toNat],l.drop (i.toNat+1),K0_ hl,by rw[show (i+1).toNat=i.toNat+1 by omega],by simp[hl]⟩
theorem Yh{α:Type}{e:α→List PV}{l:List α}{n:Nat}{x:α}(h:l[n]?=some x):(l.map e).getD n []=e x:=by
 rw[Q7_,Q6_,h];rfl
def hdec:Nat→Int→Int→Dec
 | 0,c,s=>⟨c,s⟩
 | k+1,c,s=>bif decide (s > 0)&&c.tmod 10==0 then hdec k (IntKind.i64.wrap (c.tdiv 10)) (IntKind.i64.wrap (s - 1)) else ⟨c,s⟩
theorem Z8{α:Type}{e:α→List PV}{z:List PV}(h:∀x,ZJ z (e x)=e x){l:List α}{i:Int}(h0:0≤i)(h1:i < l.length):0≤i∧(l.map e)[i.toNat]?=some (ZJ z ((l.map e).getD i.toNat [])):=by
 obtain ⟨x,r,_,_,hx⟩:=Yf h0 h1
 refine ⟨h0, ?_⟩
 rw[Yh hx,Q6_,hx,h]
 rfl
def Zij(l:List I)(i:Int):Shape:=
 let w:=fun (n:Int)=>IntKind.i64.wrap n
 let g0:=(l.getD i.toNat ⟨0⟩).n
 let g1:=(l.getD (w (i+1)).toNat ⟨0⟩).n
 let g2:=(l.getD (w (i+2)).toNat ⟨0⟩).n
 let g3:=(l.getD (w (i+3)).toNat ⟨0⟩).n
 let g4:=(l.getD (w (i+4)).toNat ⟨0⟩).n
 let glow:A3:=⟨pick g0 256,pick (w (g0.tdiv 7)) 256,pick (w (g0.tdiv 13)) 256⟩
 bif pick g4 3==0 then ⟨2,⟨0,0⟩,⟨0,0⟩,hdec 0 (w (60+pick g3 100)) 0,⟨0,0⟩,glow⟩
 else ⟨1,hdec 1 (w (pick g1 600 - 300)) 1,hdec 1 (w (pick g2 600 - 300)) 1,hdec 0 (w (50+pick g3 70)) 0,hdec 1 (w (10+pick g4 300)) 1,glow⟩
def Wn:Nat→List I→Int→List Shape
 | 0,_,_=>[]
 | k+1,l,i=>bif decide (i+4 < l.length)&&decide (i < 25) then Zij l i::Wn k l (i+5) else []
def Zpq(l:List I):List Shape:=Wn 5 l 0
theorem ZnQ(l:List I)(k:Nat):intOf (((l.map I.enc).getD k []).headD .nil)=(l.getD k ⟨0⟩).n:=by
 rw[Q7_,Q6_,Q7_]
 cases l[k]?<;>rfl
theorem Z5h{c s:Int}(h:0 < s)(hs:s≤18)(hc:c.tmod 10=0):hdec s.toNat c s=hdec (IntKind.i64.wrap (s - 1)).toNat (IntKind.i64.wrap (c.tdiv 10)) (IntKind.i64.wrap (s - 1)):=by
 have e:(IntKind.i64.wrap (s - 1))=s - 1:=Zg (by constructor<;>omega)
 rw[e]
 obtain ⟨k,hk⟩:∃k,s.toNat=k+1:=⟨s.toNat - 1,by omega⟩
 have hk2:(s - 1).toNat=k:=by omega
 rw[hk,hk2]
 conv=>lhs;unfold hdec
 rw[e,show (decide (s > 0)&&c.tmod 10==0)=true by simp[h,hc]]
 rfl
theorem ZvX{c s:Int}(h:¬(s > 0∧c.tmod 10=0)):hdec s.toNat c s=⟨c,s⟩:=by
 by_cases hs:s > 0
 ·obtain ⟨k,hk⟩:∃k,s.toNat=k+1:=⟨s.toNat - 1,by omega⟩
  rw[hk]
  unfold hdec
  have hc:(c.tmod 10==0)=false:=by simp;intro e;exact h ⟨hs,e⟩
  rw[hc,Qn_];rfl
 ·have:s.toNat=0:=by omega
  rw[this];rfl
theorem Xb{α:Type}{e:α→List PV}{n:Nat}(h:∀x,(e x).length=n)(l:List α):Lens n (l.map e):=fun y hy=>by
 obtain ⟨x,_,rfl⟩:=Kv_.1 hy
 exact h x
theorem Xk{n:Nat}{l:List (List PV)}{x:List PV}(h:Lens n l)(hx:x.length=n):Lens n (l++[x]):=fun y hy=>by
 rcases Kw_.1 hy with h' | h'
 ·exact h y h'
 ·rw[List.mem_singleton.1 h'];exact hx
theorem Z8O(x:Shape):Shape.dec (Shape.enc x)=x:=rfl
theorem Z1C(x:Iv):Iv.dec (Iv.enc x)=x:=rfl
def YF(r:Ray):List Shape→Int→Int→Iv→List Iv→Int×Iv×List Iv
 | [],_,b,a,all=>(b,a,all)
 | s::l,k,b,a,all=>
   bif (hit s r).2==2 then YF r l (k+1) b a all
   else bif decide (b < 0)||decide ((hit s r).1.hi < a.hi) then YF r l (k+1) k (hit s r).1 (all++[(hit s r).1])
   else YF r l (k+1) b a (all++[(hit s r).1])
def unsure(r:Ray)(l:List Shape):Bool:=l.any (fun s=>(hit s r).2==0)
def behind(a:Iv):List Iv→Int
 | []=>0
 | t::l=>bif decide (a.hi < t.lo) then behind a l+1 else behind a l
theorem ZkU(a:Iv):∀l:List Iv,0≤behind a l∧behind a l≤l.length
 | []=>⟨Kg_ 0,Kg_ 0⟩
 | t::l=>by
   have h:=ZkU a l
   simp only[behind,Qs_]
   cases decide (a.hi < t.lo)<;>simp only[Qb_,Qd_]<;>omega
theorem ZcQ(r:Ray):∀(l:List Shape) (k b:Int) (a:Iv) (all:List Iv),(YF r l k b a all).2.2.length≤all.length+l.length
 | [],_,_,_,_=>Q2_ _
 | s::l,k,b,a,all=>by
   simp only[YF,Qs_]
   have h1:=ZcQ r l (k+1) b a all
   have h2:=ZcQ r l (k+1) k (hit s r).1 (all++[(hit s r).1])
   have h3:=ZcQ r l (k+1) b a (all++[(hit s r).1])
   simp only[Qx_,Qs_,Q1_] at h2 h3
   cases (hit s r).2==2<;>cases decide (b < 0)||decide ((hit s r).1.hi < a.hi)<;>simp only[Qb_,Qd_]<;>omega
def nearest(l:List Shape)(r:Ray):Int×Iv×Int:=
 bif unsure r l then (-1,none',0) else
  let g:=YF r l 0 (-1) none' []
  bif decide (g.1 < 0) then (-1,none',2)
  else bif decide (behind g.2.1 g.2.2+1 < g.2.2.length) then (-1,none',0) else (g.1,g.2.1,1)
def JJ(r:Ray):List Shape→Int→List I
 | [],_=>[]
 | s::l,k=>bif (hit s r).2==1 then ⟨k⟩::JJ r l (k+1) else JJ r l (k+1)
def XU(r:Ray):List Shape→List Iv
 | []=>[]
 | s::l=>bif (hit s r).2==1 then (hit s r).1::XU r l else XU r l
theorem Z0y(r:Ray):∀(l:List Shape) (k:Int),(JJ r l k).length=(XU r l).length∧(XU r l).length≤l.length
 | [],_=>⟨rfl,Q2_ _⟩
 | s::l,k=>by
   have h:=Z0y r l (k+1)
   simp only[JJ,XU]
   cases (hit s r).2==1<;>simp only[Qb_,Qd_,Qs_]<;>omega
def XQ(h i:Int):List Iv→Int→Bool
 | [],_=>true
 | t::l,k=>(k==i||decide (h < t.lo))&&XQ h i l (k+1)
def XB(ts:List Iv):List I→List Iv→Int→Option (Int×Iv)
 | a::la,t::lt,i=>bif XQ t.hi i ts 0 then some (a.n,t) else XB ts la lt (i+1)
 | _,_,_=>none
def Zjp(o:Option (Int×Iv)):Int×Iv:=o.getD (0,none')
def Wj(l:List Shape)(r:Ray):Int×Iv×Int:=
 bif unsure r l then (-1,none',0) else
  bif (XU r l).length==0 then (-1,none',2)
  else bif (XB (XU r l) (JJ r l 0) (XU r l) 0).isSome then ((Zjp (XB (XU r l) (JJ r l 0) (XU r l) 0)).1,(Zjp (XB (XU r l) (JJ r l 0) (XU r l) 0)).2,1) else (-1,none',0)
theorem Zpr:∀(k:Nat) (l:List I) (i:Int),(Wn k l i).length≤k
 | 0,_,_=>Q2_ _
 | k+1,l,i=>by
   have h:=Zpr k l (i+5)
   unfold Wn
   cases (decide (i+4 < ↑l.length)&&decide (i < 25)) with
   | true=>simp only[Qb_,Qs_];omega
   | false=>simp
theorem Z1D(l:List I):(Zpq l).length≤5:=Zpr 5 l 0
theorem ZzT{cs vs:List PV}{o:Nat}(h:o+vs.length≤cs.length):(lay cs o vs).length=cs.length:=by
 unfold lay
 simp only[Qx_,K4_,KF_]
 omega
structure Surf where
 stop:Bool
 bent:Bool
 curve:Iv
 conic:Iv
 a4:Iv
 a6:Iv
 pos:Iv
 open2:Iv
 ratio:Iv
def Surf.enc(x:Surf):List PV:=[.v (.bool x.stop),.v (.bool x.bent),.v (.int .i64 x.curve.lo),.v (.int .i64 x.curve.hi),.v (.bool x.curve.no),.v (.int .i64 x.conic.lo),.v (.int .i64 x.conic.hi),.v (.bool x.conic.no),.v (.int .i64 x.a4.lo),.v (.int .i64 x.a4.hi),.v (.bool x.a4.no),.v (.int .i64 x.a6.lo),.v (.int .i64 x.a6.hi),.v (.bool x.a6.no),.v (.int .i64 x.pos.lo),.v (.int .i64 x.pos.hi),.v (.bool x.pos.no),.v (.int .i64 x.open2.lo),.v (.int .i64 x.open2.hi),.v (.bool x.open2.no),.v (.int .i64 x.ratio.lo),.v (.int .i64 x.ratio.hi),.v (.bool x.ratio.no)]
def Surf.dec(p:List PV):Surf:=⟨Zt (p.headD .nil),Zt (p.tail.headD .nil),⟨intOf (p.tail.tail.headD .nil),intOf (p.tail.tail.tail.headD .nil),Zt (p.tail.tail.tail.tail.headD .nil)⟩,⟨intOf (p.tail.tail.tail.tail.tail.headD .nil),intOf (p.tail.tail.tail.tail.tail.tail.headD .nil),Zt (p.tail.tail.tail.tail.tail.tail.tail.headD .nil)⟩,⟨intOf (p.tail.tail.tail.tail.tail.tail.tail.tail.headD .nil),intOf (p.tail.tail.tail.tail.tail.tail.tail.tail.tail.headD .nil),Zt (p.tail.tail.tail.tail.tail.tail.tail.tail.tail.tail.headD .nil)⟩,⟨intOf (p.tail.tail.tail.tail.tail.tail.tail.tail.tail.tail.tail.headD .nil),intOf (p.tail.tail.tail.tail.tail.tail.tail.tail.tail.tail.tail.tail.headD .nil),Zt (p.tail.tail.tail.tail.tail.tail.tail.tail.tail.tail.tail.tail.tail.headD .nil)⟩,⟨intOf (p.tail.tail.tail.tail.tail.tail.tail.tail.tail.tail.tail.tail.tail.tail.headD .nil),intOf (p.tail.tail.tail.tail.tail.tail.tail.tail.tail.tail.tail.tail.tail.tail.tail.headD .nil),Zt (p.tail.tail.tail.tail.tail.tail.tail.tail.tail.tail.tail.tail.tail.tail.tail.tail.headD .nil)⟩,⟨intOf (p.tail.tail.tail.tail.tail.tail.tail.tail.tail.tail.tail.tail.tail.tail.tail.tail.tail.headD .nil),intOf (p.tail.tail.tail.tail.tail.tail.tail.tail.tail.tail.tail.tail.tail.tail.tail.tail.tail.tail.headD .nil),Zt (p.tail.tail.tail.tail.tail.tail.tail.tail.tail.tail.tail.tail.tail.tail.tail.tail.tail.tail.tail.headD .nil)⟩,⟨intOf (p.tail.tail.tail.tail.tail.tail.tail.tail.tail.tail.tail.tail.tail.tail.tail.tail.tail.tail.tail.tail.headD .nil),intOf (p.tail.tail.tail.tail.tail.tail.tail.tail.tail.tail.tail.tail.tail.tail.tail.tail.tail.tail.tail.tail.tail.headD .nil),Zt (p.tail.tail.tail.tail.tail.tail.tail.tail.tail.tail.tail.tail.tail.tail.tail.tail.tail.tail.tail.tail.tail.tail.headD .nil)⟩⟩
theorem Zu(l:List Surf):Zc Surf.dec (l.map Surf.enc)=l:=WA _ _ (fun _=>rfl) l
structure SysM where
 surfs:List Surf
 op:Iv
def SysM.enc(x:SysM):List PV:=[.lst (x.surfs.map Surf.enc),.v (.int .i64 x.op.lo),.v (.int .i64 x.op.hi),.v (.bool x.op.no)]
def SysM.dec(p:List PV):SysM:=⟨(Zc Surf.dec (ZbO (p.headD .nil))),⟨intOf (p.tail.headD .nil),intOf (p.tail.tail.headD .nil),Zt (p.tail.tail.tail.headD .nil)⟩⟩
-- SysM: with lists
structure TrRes where
 kind:Int
 pos:Int
 r:Ray
def TrRes.enc(x:TrRes):List PV:=[.v (.int .i64 x.kind),.v (.int .i64 x.pos),.v (.int .i64 x.r.o.x.lo),.v (.int .i64 x.r.o.x.hi),.v (.bool x.r.o.x.no),.v (.int .i64 x.r.o.y.lo),.v (.int .i64 x.r.o.y.hi),.v (.bool x.r.o.y.no),.v (.int .i64 x.r.o.z.lo),.v (.int .i64 x.r.o.z.hi),.v (.bool x.r.o.z.no),.v (.int .i64 x.r.d.x.lo),.v (.int .i64 x.r.d.x.hi),.v (.bool x.r.d.x.no),.v (.int .i64 x.r.d.y.lo),.v (.int .i64 x.r.d.y.hi),.v (.bool x.r.d.y.no),.v (.int .i64 x.r.d.z.lo),.v (.int .i64 x.r.d.z.hi),.v (.bool x.r.d.z.no)]
def TrRes.dec(p:List PV):TrRes:=⟨intOf (p.headD .nil),intOf (p.tail.headD .nil),⟨⟨⟨intOf (p.tail.tail.headD .nil),intOf (p.tail.tail.tail.headD .nil),Zt (p.tail.tail.tail.tail.headD .nil)⟩,⟨intOf (p.tail.tail.tail.tail.tail.headD .nil),intOf (p.tail.tail.tail.tail.tail.tail.headD .nil),Zt (p.tail.tail.tail.tail.tail.tail.tail.headD .nil)⟩,⟨intOf (p.tail.tail.tail.tail.tail.tail.tail.tail.headD .nil),intOf (p.tail.tail.tail.tail.tail.tail.tail.tail.tail.headD .nil),Zt (p.tail.tail.tail.tail.tail.tail.tail.tail.tail.tail.headD .nil)⟩⟩,⟨⟨intOf (p.tail.tail.tail.tail.tail.tail.tail.tail.tail.tail.tail.headD .nil),intOf (p.tail.tail.tail.tail.tail.tail.tail.tail.tail.tail.tail.tail.headD .nil),Zt (p.tail.tail.tail.tail.tail.tail.tail.tail.tail.tail.tail.tail.tail.headD .nil)⟩,⟨intOf (p.tail.tail.tail.tail.tail.tail.tail.tail.tail.tail.tail.tail.tail.tail.headD .nil),intOf (p.tail.tail.tail.tail.tail.tail.tail.tail.tail.tail.tail.tail.tail.tail.tail.headD .nil),Zt (p.tail.tail.tail.tail.tail.tail.tail.tail.tail.tail.tail.tail.tail.tail.tail.tail.headD .nil)⟩,⟨intOf (p.tail.tail.tail.tail.tail.tail.tail.tail.tail.tail.tail.tail.tail.tail.tail.tail.tail.headD .nil),intOf (p.tail.tail.tail.tail.tail.tail.tail.tail.tail.tail.tail.tail.tail.tail.tail.tail.tail.tail.headD .nil),Zt (p.tail.tail.tail.tail.tail.tail.tail.tail.tail.tail.tail.tail.tail.tail.tail.tail.tail.tail.tail.headD .nil)⟩⟩⟩⟩
structure G3 where
 a:Dec
 b:Dec
 c:Dec
def G3.enc(x:G3):List PV:=[.v (.int .i64 x.a.c),.v (.int .i64 x.a.scale),.v (.int .i64 x.b.c),.v (.int .i64 x.b.scale),.v (.int .i64 x.c.c),.v (.int .i64 x.c.scale)]
def G3.dec(p:List PV):G3:=⟨⟨intOf (p.headD .nil),intOf (p.tail.headD .nil)⟩,⟨intOf (p.tail.tail.headD .nil),intOf (p.tail.tail.tail.headD .nil)⟩,⟨intOf (p.tail.tail.tail.tail.headD .nil),intOf (p.tail.tail.tail.tail.tail.headD .nil)⟩⟩
structure Glass where
 name:List UInt8
 b:G3
 c:G3
def Glass.enc(x:Glass):List PV:=[.str x.name,.v (.int .i64 x.b.a.c),.v (.int .i64 x.b.a.scale),.v (.int .i64 x.b.b.c),.v (.int .i64 x.b.b.scale),.v (.int .i64 x.b.c.c),.v (.int .i64 x.b.c.scale),.v (.int .i64 x.c.a.c),.v (.int .i64 x.c.a.scale),.v (.int .i64 x.c.b.c),.v (.int .i64 x.c.b.scale),.v (.int .i64 x.c.c.c),.v (.int .i64 x.c.c.scale)]
def Glass.dec(p:List PV):Glass:=⟨ZcN (p.headD .nil),⟨⟨intOf (p.tail.headD .nil),intOf (p.tail.tail.headD .nil)⟩,⟨intOf (p.tail.tail.tail.headD .nil),intOf (p.tail.tail.tail.tail.headD .nil)⟩,⟨intOf (p.tail.tail.tail.tail.tail.headD .nil),intOf (p.tail.tail.tail.tail.tail.tail.headD .nil)⟩⟩,⟨⟨intOf (p.tail.tail.tail.tail.tail.tail.tail.headD .nil),intOf (p.tail.tail.tail.tail.tail.tail.tail.tail.headD .nil)⟩,⟨intOf (p.tail.tail.tail.tail.tail.tail.tail.tail.tail.headD .nil),intOf (p.tail.tail.tail.tail.tail.tail.tail.tail.tail.tail.headD .nil)⟩,⟨intOf (p.tail.tail.tail.tail.tail.tail.tail.tail.tail.tail.tail.headD .nil),intOf (p.tail.tail.tail.tail.tail.tail.tail.tail.tail.tail.tail.tail.headD .nil)⟩⟩⟩
theorem YA(l:List Glass):Zc Glass.dec (l.map Glass.enc)=l:=WA _ _ (fun _=>rfl) l
structure Face where
 stop:Bool
 radius:Dec
 aperture:Dec
 thick:Dec
 conic:Dec
 a4:Dec
 a6:Dec
 glass:List UInt8
def Face.enc(x:Face):List PV:=[.v (.bool x.stop),.v (.int .i64 x.radius.c),.v (.int .i64 x.radius.scale),.v (.int .i64 x.aperture.c),.v (.int .i64 x.aperture.scale),.v (.int .i64 x.thick.c),.v (.int .i64 x.thick.scale),.v (.int .i64 x.conic.c),.v (.int .i64 x.conic.scale),.v (.int .i64 x.a4.c),.v (.int .i64 x.a4.scale),.v (.int .i64 x.a6.c),.v (.int .i64 x.a6.scale),.str x.glass]
def Face.dec(p:List PV):Face:=⟨Zt (p.headD .nil),⟨intOf (p.tail.headD .nil),intOf (p.tail.tail.headD .nil)⟩,⟨intOf (p.tail.tail.tail.headD .nil),intOf (p.tail.tail.tail.tail.headD .nil)⟩,⟨intOf (p.tail.tail.tail.tail.tail.headD .nil),intOf (p.tail.tail.tail.tail.tail.tail.headD .nil)⟩,⟨intOf (p.tail.tail.tail.tail.tail.tail.tail.headD .nil),intOf (p.tail.tail.tail.tail.tail.tail.tail.tail.headD .nil)⟩,⟨intOf (p.tail.tail.tail.tail.tail.tail.tail.tail.tail.headD .nil),intOf (p.tail.tail.tail.tail.tail.tail.tail.tail.tail.tail.headD .nil)⟩,⟨intOf (p.tail.tail.tail.tail.tail.tail.tail.tail.tail.tail.tail.headD .nil),intOf (p.tail.tail.tail.tail.tail.tail.tail.tail.tail.tail.tail.tail.headD .nil)⟩,ZcN (p.tail.tail.tail.tail.tail.tail.tail.tail.tail.tail.tail.tail.tail.headD .nil)⟩
theorem WN(l:List Face):Zc Face.dec (l.map Face.enc)=l:=WA _ _ (fun _=>rfl) l
structure LensM where
 name:List UInt8
 back:Dec
 faces:List Face
def LensM.enc(x:LensM):List PV:=[.str x.name,.v (.int .i64 x.back.c),.v (.int .i64 x.back.scale),.lst (x.faces.map Face.enc)]
def LensM.dec(p:List PV):LensM:=⟨ZcN (p.headD .nil),⟨intOf (p.tail.headD .nil),intOf (p.tail.tail.headD .nil)⟩,(Zc Face.dec (ZbO (p.tail.tail.tail.headD .nil)))⟩
-- LensM: with lists
structure RawFace where
 kind:Int
 r:Int
 a:Int
 t:Int
 g:Int
 k:Int
def RawFace.enc(x:RawFace):List PV:=[.v (.int .i64 x.kind),.v (.int .i64 x.r),.v (.int .i64 x.a),.v (.int .i64 x.t),.v (.int .i64 x.g),.v (.int .i64 x.k)]
def RawFace.dec(p:List PV):RawFace:=⟨intOf (p.headD .nil),intOf (p.tail.headD .nil),intOf (p.tail.tail.headD .nil),intOf (p.tail.tail.tail.headD .nil),intOf (p.tail.tail.tail.tail.headD .nil),intOf (p.tail.tail.tail.tail.tail.headD .nil)⟩
theorem Wl(l:List RawFace):Zc RawFace.dec (l.map RawFace.enc)=l:=WA _ _ (fun _=>rfl) l
structure Pixel where
 lo:A3
 hi:A3
 lost:Int
def Pixel.enc(x:Pixel):List PV:=[.v (.int .i64 x.lo.a),.v (.int .i64 x.lo.b),.v (.int .i64 x.lo.c),.v (.int .i64 x.hi.a),.v (.int .i64 x.hi.b),.v (.int .i64 x.hi.c),.v (.int .i64 x.lost)]
def Pixel.dec(p:List PV):Pixel:=⟨⟨intOf (p.headD .nil),intOf (p.tail.headD .nil),intOf (p.tail.tail.headD .nil)⟩,⟨intOf (p.tail.tail.tail.headD .nil),intOf (p.tail.tail.tail.tail.headD .nil),intOf (p.tail.tail.tail.tail.tail.headD .nil)⟩,intOf (p.tail.tail.tail.tail.tail.tail.headD .nil)⟩
theorem ZT(l:List Pixel):Zc Pixel.dec (l.map Pixel.enc)=l:=WA _ _ (fun _=>rfl) l
structure Card where
 efl:Iv
 bfl:Iv
 plane:Iv
 number:Iv
def Card.enc(x:Card):List PV:=[.v (.int .i64 x.efl.lo),.v (.int .i64 x.efl.hi),.v (.bool x.efl.no),.v (.int .i64 x.bfl.lo),.v (.int .i64 x.bfl.hi),.v (.bool x.bfl.no),.v (.int .i64 x.plane.lo),.v (.int .i64 x.plane.hi),.v (.bool x.plane.no),.v (.int .i64 x.number.lo),.v (.int .i64 x.number.hi),.v (.bool x.number.no)]
def Card.dec(p:List PV):Card:=⟨⟨intOf (p.headD .nil),intOf (p.tail.headD .nil),Zt (p.tail.tail.headD .nil)⟩,⟨intOf (p.tail.tail.tail.headD .nil),intOf (p.tail.tail.tail.tail.headD .nil),Zt (p.tail.tail.tail.tail.tail.headD .nil)⟩,⟨intOf (p.tail.tail.tail.tail.tail.tail.headD .nil),intOf (p.tail.tail.tail.tail.tail.tail.tail.headD .nil),Zt (p.tail.tail.tail.tail.tail.tail.tail.tail.headD .nil)⟩,⟨intOf (p.tail.tail.tail.tail.tail.tail.tail.tail.tail.headD .nil),intOf (p.tail.tail.tail.tail.tail.tail.tail.tail.tail.tail.headD .nil),Zt (p.tail.tail.tail.tail.tail.tail.tail.tail.tail.tail.tail.headD .nil)⟩⟩
structure FnM where
 poly:List Iv
 s:Surf
 r:Ray
def FnM.enc(x:FnM):List PV:=[.lst (x.poly.map Iv.enc),.v (.bool true),.v (.bool x.s.stop),.v (.bool x.s.bent),.v (.int .i64 x.s.curve.lo),.v (.int .i64 x.s.curve.hi),.v (.bool x.s.curve.no),.v (.int .i64 x.s.conic.lo),.v (.int .i64 x.s.conic.hi),.v (.bool x.s.conic.no),.v (.int .i64 x.s.a4.lo),.v (.int .i64 x.s.a4.hi),.v (.bool x.s.a4.no),.v (.int .i64 x.s.a6.lo),.v (.int .i64 x.s.a6.hi),.v (.bool x.s.a6.no),.v (.int .i64 x.s.pos.lo),.v (.int .i64 x.s.pos.hi),.v (.bool x.s.pos.no),.v (.int .i64 x.s.open2.lo),.v (.int .i64 x.s.open2.hi),.v (.bool x.s.open2.no),.v (.int .i64 x.s.ratio.lo),.v (.int .i64 x.s.ratio.hi),.v (.bool x.s.ratio.no),.v (.int .i64 x.r.o.x.lo),.v (.int .i64 x.r.o.x.hi),.v (.bool x.r.o.x.no),.v (.int .i64 x.r.o.y.lo),.v (.int .i64 x.r.o.y.hi),.v (.bool x.r.o.y.no),.v (.int .i64 x.r.o.z.lo),.v (.int .i64 x.r.o.z.hi),.v (.bool x.r.o.z.no),.v (.int .i64 x.r.d.x.lo),.v (.int .i64 x.r.d.x.hi),.v (.bool x.r.d.x.no),.v (.int .i64 x.r.d.y.lo),.v (.int .i64 x.r.d.y.hi),.v (.bool x.r.d.y.no),.v (.int .i64 x.r.d.z.lo),.v (.int .i64 x.r.d.z.hi),.v (.bool x.r.d.z.no)]
def FnM.dec(p:List PV):FnM:=⟨(Zc Iv.dec (ZbO (p.headD .nil))),⟨Zt (p.tail.tail.headD .nil),Zt (p.tail.tail.tail.headD .nil),⟨intOf (p.tail.tail.tail.tail.headD .nil),intOf (p.tail.tail.tail.tail.tail.headD .nil),Zt (p.tail.tail.tail.tail.tail.tail.headD .nil)⟩,⟨intOf (p.tail.tail.tail.tail.tail.tail.tail.headD .nil),intOf (p.tail.tail.tail.tail.tail.tail.tail.tail.headD .nil),Zt (p.tail.tail.tail.tail.tail.tail.tail.tail.tail.headD .nil)⟩,⟨intOf (p.tail.tail.tail.tail.tail.tail.tail.tail.tail.tail.headD .nil),intOf (p.tail.tail.tail.tail.tail.tail.tail.tail.tail.tail.tail.headD .nil),Zt (p.tail.tail.tail.tail.tail.tail.tail.tail.tail.tail.tail.tail.headD .nil)⟩,⟨intOf (p.tail.tail.tail.tail.tail.tail.tail.tail.tail.tail.tail.tail.tail.headD .nil),intOf (p.tail.tail.tail.tail.tail.tail.tail.tail.tail.tail.tail.tail.tail.tail.headD .nil),Zt (p.tail.tail.tail.tail.tail.tail.tail.tail.tail.tail.tail.tail.tail.tail.tail.headD .nil)⟩,⟨intOf (p.tail.tail.tail.tail.tail.tail.tail.tail.tail.tail.tail.tail.tail.tail.tail.tail.headD .nil),intOf (p.tail.tail.tail.tail.tail.tail.tail.tail.tail.tail.tail.tail.tail.tail.tail.tail.tail.headD .nil),Zt (p.tail.tail.tail.tail.tail.tail.tail.tail.tail.tail.tail.tail.tail.tail.tail.tail.tail.tail.headD .nil)⟩,⟨intOf (p.tail.tail.tail.tail.tail.tail.tail.tail.tail.tail.tail.tail.tail.tail.tail.tail.tail.tail.tail.headD .nil),intOf (p.tail.tail.tail.tail.tail.tail.tail.tail.tail.tail.tail.tail.tail.tail.tail.tail.tail.tail.tail.tail.headD .nil),Zt (p.tail.tail.tail.tail.tail.tail.tail.tail.tail.tail.tail.tail.tail.tail.tail.tail.tail.tail.tail.tail.tail.headD .nil)⟩,⟨intOf (p.tail.tail.tail.tail.tail.tail.tail.tail.tail.tail.tail.tail.tail.tail.tail.tail.tail.tail.tail.tail.tail.tail.headD .nil),intOf (p.tail.tail.tail.tail.tail.tail.tail.tail.tail.tail.tail.tail.tail.tail.tail.tail.tail.tail.tail.tail.tail.tail.tail.headD .nil),Zt (p.tail.tail.tail.tail.tail.tail.tail.tail.tail.tail.tail.tail.tail.tail.tail.tail.tail.tail.tail.tail.tail.tail.tail.tail.headD .nil)⟩⟩,⟨⟨⟨intOf (p.tail.tail.tail.tail.tail.tail.tail.tail.tail.tail.tail.tail.tail.tail.tail.tail.tail.tail.tail.tail.tail.tail.tail.tail.tail.headD .nil),intOf (p.tail.tail.tail.tail.tail.tail.tail.tail.tail.tail.tail.tail.tail.tail.tail.tail.tail.tail.tail.tail.tail.tail.tail.tail.tail.tail.headD .nil),Zt (p.tail.tail.tail.tail.tail.tail.tail.tail.tail.tail.tail.tail.tail.tail.tail.tail.tail.tail.tail.tail.tail.tail.tail.tail.tail.tail.tail.headD .nil)⟩,⟨intOf (p.tail.tail.tail.tail.tail.tail.tail.tail.tail.tail.tail.tail.tail.tail.tail.tail.tail.tail.tail.tail.tail.tail.tail.tail.tail.tail.tail.tail.headD .nil),intOf (p.tail.tail.tail.tail.tail.tail.tail.tail.tail.tail.tail.tail.tail.tail.tail.tail.tail.tail.tail.tail.tail.tail.tail.tail.tail.tail.tail.tail.tail.headD .nil),Zt (p.tail.tail.tail.tail.tail.tail.tail.tail.tail.tail.tail.tail.tail.tail.tail.tail.tail.tail.tail.tail.tail.tail.tail.tail.tail.tail.tail.tail.tail.tail.headD .nil)⟩,⟨intOf (p.tail.tail.tail.tail.tail.tail.tail.tail.tail.tail.tail.tail.tail.tail.tail.tail.tail.tail.tail.tail.tail.tail.tail.tail.tail.tail.tail.tail.tail.tail.tail.headD .nil),intOf (p.tail.tail.tail.tail.tail.tail.tail.tail.tail.tail.tail.tail.tail.tail.tail.tail.tail.tail.tail.tail.tail.tail.tail.tail.tail.tail.tail.tail.tail.tail.tail.tail.headD .nil),Zt (p.tail.tail.tail.tail.tail.tail.tail.tail.tail.tail.tail.tail.tail.tail.tail.tail.tail.tail.tail.tail.tail.tail.tail.tail.tail.tail.tail.tail.tail.tail.tail.tail.tail.headD .nil)⟩⟩,⟨⟨intOf (p.tail.tail.tail.tail.tail.tail.tail.tail.tail.tail.tail.tail.tail.tail.tail.tail.tail.tail.tail.tail.tail.tail.tail.tail.tail.tail.tail.tail.tail.tail.tail.tail.tail.tail.headD .nil),intOf (p.tail.tail.tail.tail.tail.tail.tail.tail.tail.tail.tail.tail.tail.tail.tail.tail.tail.tail.tail.tail.tail.tail.tail.tail.tail.tail.tail.tail.tail.tail.tail.tail.tail.tail.tail.headD .nil),Zt (p.tail.tail.tail.tail.tail.tail.tail.tail.tail.tail.tail.tail.tail.tail.tail.tail.tail.tail.tail.tail.tail.tail.tail.tail.tail.tail.tail.tail.tail.tail.tail.tail.tail.tail.tail.tail.headD .nil)⟩,⟨intOf (p.tail.tail.tail.tail.tail.tail.tail.tail.tail.tail.tail.tail.tail.tail.tail.tail.tail.tail.tail.tail.tail.tail.tail.tail.tail.tail.tail.tail.tail.tail.tail.tail.tail.tail.tail.tail.tail.headD .nil),intOf (p.tail.tail.tail.tail.tail.tail.tail.tail.tail.tail.tail.tail.tail.tail.tail.tail.tail.tail.tail.tail.tail.tail.tail.tail.tail.tail.tail.tail.tail.tail.tail.tail.tail.tail.tail.tail.tail.tail.headD .nil),Zt (p.tail.tail.tail.tail.tail.tail.tail.tail.tail.tail.tail.tail.tail.tail.tail.tail.tail.tail.tail.tail.tail.tail.tail.tail.tail.tail.tail.tail.tail.tail.tail.tail.tail.tail.tail.tail.tail.tail.tail.headD .nil)⟩,⟨intOf (p.tail.tail.tail.tail.tail.tail.tail.tail.tail.tail.tail.tail.tail.tail.tail.tail.tail.tail.tail.tail.tail.tail.tail.tail.tail.tail.tail.tail.tail.tail.tail.tail.tail.tail.tail.tail.tail.tail.tail.tail.headD .nil),intOf (p.tail.tail.tail.tail.tail.tail.tail.tail.tail.tail.tail.tail.tail.tail.tail.tail.tail.tail.tail.tail.tail.tail.tail.tail.tail.tail.tail.tail.tail.tail.tail.tail.tail.tail.tail.tail.tail.tail.tail.tail.tail.headD .nil),Zt (p.tail.tail.tail.tail.tail.tail.tail.tail.tail.tail.tail.tail.tail.tail.tail.tail.tail.tail.tail.tail.tail.tail.tail.tail.tail.tail.tail.tail.tail.tail.tail.tail.tail.tail.tail.tail.tail.tail.tail.tail.tail.tail.headD .nil)⟩⟩⟩⟩
-- FnM: with lists
structure Pair where
 x:Int
 y:Int
def Pair.enc(x:Pair):List PV:=[.v (.int .i64 x.x),.v (.int .i64 x.y)]
def Pair.dec(p:List PV):Pair:=⟨intOf (p.headD .nil),intOf (p.tail.headD .nil)⟩
theorem Zao(l:List Pair):Zc Pair.dec (l.map Pair.enc)=l:=WA _ _ (fun _=>rfl) l
structure S3 where
 a:SysM
 b:SysM
 c:SysM
def S3.enc(x:S3):List PV:=[.lst (x.a.surfs.map Surf.enc),.v (.int .i64 x.a.op.lo),.v (.int .i64 x.a.op.hi),.v (.bool x.a.op.no),.lst (x.b.surfs.map Surf.enc),.v (.int .i64 x.b.op.lo),.v (.int .i64 x.b.op.hi),.v (.bool x.b.op.no),.lst (x.c.surfs.map Surf.enc),.v (.int .i64 x.c.op.lo),.v (.int .i64 x.c.op.hi),.v (.bool x.c.op.no)]
def S3.dec(p:List PV):S3:=⟨⟨(Zc Surf.dec (ZbO (p.headD .nil))),⟨intOf (p.tail.headD .nil),intOf (p.tail.tail.headD .nil),Zt (p.tail.tail.tail.headD .nil)⟩⟩,⟨(Zc Surf.dec (ZbO (p.tail.tail.tail.tail.headD .nil))),⟨intOf (p.tail.tail.tail.tail.tail.headD .nil),intOf (p.tail.tail.tail.tail.tail.tail.headD .nil),Zt (p.tail.tail.tail.tail.tail.tail.tail.headD .nil)⟩⟩,⟨(Zc Surf.dec (ZbO (p.tail.tail.tail.tail.tail.tail.tail.tail.headD .nil))),⟨intOf (p.tail.tail.tail.tail.tail.tail.tail.tail.tail.headD .nil),intOf (p.tail.tail.tail.tail.tail.tail.tail.tail.tail.tail.headD .nil),Zt (p.tail.tail.tail.tail.tail.tail.tail.tail.tail.tail.tail.headD .nil)⟩⟩⟩
-- S3: with lists
structure Cx where
 re:Nat
 im:Nat
def Cx.enc(z:Cx):List PV:=[.v (.complex .f64 z.re z.im)]
def Cx.dec(l:List PV):Cx:=⟨Zr4 (l.headD .nil),Zr5 (l.headD .nil)⟩
theorem dCx(l:List Cx):Zc Cx.dec (l.map Cx.enc)=l:=WA _ _ (fun _=>rfl) l
def Zjq(x:Nat):Bool:=match FloatKind.f64.decode x with | .nan _ _=>false | _=>true
def Ze6(x:Nat):Nat:=FloatKind.f64.encode ((FloatKind.f64.decode x).integral .zero)
def Ray.dec(p:List PV):Ray:=⟨⟨⟨intOf (p.headD .nil),intOf (p.tail.headD .nil),Zt (p.tail.tail.headD .nil)⟩,⟨intOf (p.tail.tail.tail.headD .nil),intOf (p.tail.tail.tail.tail.headD .nil),Zt (p.tail.tail.tail.tail.tail.headD .nil)⟩,⟨intOf (p.tail.tail.tail.tail.tail.tail.headD .nil),intOf (p.tail.tail.tail.tail.tail.tail.tail.headD .nil),Zt (p.tail.tail.tail.tail.tail.tail.tail.tail.headD .nil)⟩⟩,⟨⟨intOf ((p.drop 9).headD .nil),intOf ((p.drop 10).headD .nil),Zt ((p.drop 11).headD .nil)⟩,⟨intOf ((p.drop 12).headD .nil),intOf ((p.drop 13).headD .nil),Zt ((p.drop 14).headD .nil)⟩,⟨intOf ((p.drop 15).headD .nil),intOf ((p.drop 16).headD .nil),Zt ((p.drop 17).headD .nil)⟩⟩⟩
def ZtY(y n:Bool):Int:=bif y then 1 else bif n then 2 else 0
def JK(a b:Iv):Int:=bif right a&&right b then ZtY (decide (a.hi≤b.lo)) (decide (a.lo > b.hi)) else 0
def ZE(a:Iv):Int:=bif right a then floor (a.lo+a.hi) 2 else 0
def Xi(a b:Iv):Iv:=bif both a b then of (max a.lo b.lo) (min a.hi b.hi) else none'
def ZcR(a b:Iv):Iv:=bif both a b then of (min a.lo b.lo) (max a.hi b.hi) else none'
def ZZ(a:Iv):Iv×Iv:=bif right a then (of a.lo (ZE a),of (ZE a) a.hi) else (none',none')
def WB(a:V)(k:Iv):V:=⟨Zl a.x k,Zl a.y k,Zl a.z k⟩
def along(r:Ray)(t:Iv):V:=ZhI r.o (WB r.d t)
def Yn(a:V):Bool:=right a.x&&(right a.y&&right a.z)
def noV:V:=⟨none',none',none'⟩
def Zjr:Ray:=⟨noV,noV⟩
structure K4 where
 a:Iv
 b:Iv
 c:Iv
 d:Iv
structure K3 where
 a:Iv
 b:Iv
 c:Iv
def Zbx(a:Iv):Iv:=bif right a then a else none'
def Zcv(l:K4)(x:Iv):Iv:=add (Zl (add (Zl (add (Zl (Zbx l.d) x) l.c) x) l.b) x) l.a
def Zcw(l:K3)(x:Iv):Iv:=add (Zl (add (Zl (Zbx l.c) x) l.b) x) l.a
def WC(l:K4):K3:=⟨times l.b 1,times l.c 2,times l.d 3⟩
def Z77(s:Surf)(r2:Iv):Iv:=ZL (sub (point 65536) (Zl (Zl s.conic (sqr s.curve)) r2))
def XY(s:Surf)(r2:Iv):Iv×Iv:=(Zp (Zl s.curve r2) (add (point 65536) (Z77 s r2)),Zp s.curve (times (Z77 s r2) 2))
def Zps(z m:Iv):Iv×Iv:=bif z.no||m.no then (none',none') else (z,m)
def Z1E(r2:Iv):Iv:=Zp r2 (whole 1000)
def Z1F(s:Surf):K4:=⟨point 0,point 0,s.a4,s.a6⟩
def sag(s:Surf)(r2:Iv):Iv×Iv:=bif s.bent then Zps (add (XY s r2).1 (Zcv (Z1F s) (Z1E r2))) (add (XY s r2).2 (Zp (Zcw (WC (Z1F s)) (Z1E r2)) (whole 1000))) else Zps (XY s r2).1 (XY s r2).2
def Zo(s:Surf)(r:Ray)(t:Iv):Iv×Iv:=
 let p:=along r t
 let zm:=sag s (add (sqr p.x) (sqr p.y))
 (sub p.z zm.1,sub r.d.z (Zl zm.2 (times (add (Zl p.x r.d.x) (Zl p.y r.d.y)) 2)))
def ZrC(a b:Iv):Bool:=a.lo==b.lo&&(a.hi==b.hi&&(a.no==b.no&&true))
def ZaW(v:Iv):Bool:=right v&& !(has v 0)
def ZdL(f:Iv→Iv×Iv)(t:Iv):Iv:=sub (point (ZE t)) (Zp (f (point (ZE t))).1 (f t).2)
def Zpt(t:Iv)(sure:Bool):Iv×Int:=bif sure then (t,1) else (none',0)
def ZvY(f:Iv→Iv×Iv)(t:Iv)(s:Bool):Bool:=s||(decide (t.lo < (ZdL f t).lo)&&decide ((ZdL f t).hi < t.hi))
def Yj(f:Iv→Iv×Iv):Nat→Iv→Bool→Int×Iv×Bool
 | 0,t,s=>(0,t,s)
 | n+1,t,s=>bif (ZdL f t).no then (bif ZaW (f (ZZ t).1).1 then Yj f n (ZZ t).2 s else bif ZaW (f (ZZ t).2).1 then Yj f n (ZZ t).1 s else (2,t,s))
   else bif (Xi t (ZdL f t)).no then (1,t,ZvY f t s) else bif ZrC (Xi t (ZdL f t)) t then (0,t,ZvY f t s) else Yj f n (Xi t (ZdL f t)) (ZvY f t s)
def ZmK(o:Int×Iv×Bool):Iv×Int:=bif o.1==1 then (none',2) else bif o.1==2 then (none',0) else Zpt o.2.1 o.2.2
def newt(f:Iv→Iv×Iv)(n:Nat)(t:Iv)(s:Bool):Iv×Int:=ZmK (Yj f n t s)
def solve(f:Iv→Iv×Iv)(t:Iv)(most:Int):Iv×Int:=bif right t then newt f (max 0 (min most 40)).toNat t false else (none',0)
def ZdM(s:Surf)(r:Ray)(t:Iv):Iv×Int:=bif (solve (Zo s r) (of (t.lo - 65536) (t.hi+65536)) 20).2==1 then ((solve (Zo s r) (of (t.lo - 65536) (t.hi+65536)) 20).1,1) else (none',0)
def ZA6(s:Surf)(o d:V):Iv:=Zl s.curve (add (add (sqr d.x) (sqr d.y)) (Zl s.conic (sqr d.z)))
def ZA7(s:Surf)(o d:V):Iv:=sub (Zl s.curve (add (add (Zl o.x d.x) (Zl o.y d.y)) (Zl s.conic (Zl o.z d.z)))) d.z
def ZA8(s:Surf)(o d:V):Iv:=sub (Zl s.curve (add (add (sqr o.x) (sqr o.y)) (Zl s.conic (sqr o.z)))) (times o.z 2)
def Jn(s:Surf)(o d:V):Iv×Int:=Wc (ZA6 s o d) (ZA7 s o d) (ZA8 s o d)
def XV(s:Surf)(r:Ray):Ray:=⟨⟨r.o.x,r.o.y,sub r.o.z s.pos⟩,r.d⟩
def ZrD(s:Surf)(r:Ray):Iv×Int:=bif s.bent&&(Jn s (XV s r).o r.d).2==1 then ZdM s (XV s r) (Jn s (XV s r).o r.d).1 else Jn s (XV s r).o r.d
def ZU(s:Surf)(r:Ray):Iv×V×Int:=bif (ZrD s r).2==1 then (bif Yn (along (XV s r) (ZrD s r).1) then ((ZrD s r).1,along (XV s r) (ZrD s r).1,1) else (none',noV,0)) else (none',noV,(ZrD s r).2)
def Zch(s:Surf)(p:V):V:=bif s.bent then unit ⟨neg (times (Zl (sag s (add (sqr p.x) (sqr p.y))).2 p.x) 2),neg (times (Zl (sag s (add (sqr p.x) (sqr p.y))).2 p.y) 2),point 65536⟩
 else unit ⟨neg (Zl s.curve p.x),neg (Zl s.curve p.y),sub (point 65536) (Zl s.curve (Zl s.conic p.z))⟩
def ZmL(d n:V)(ratio:Iv):Iv:=sub (point 65536) (Zl (sqr ratio) (sub (point 65536) (sqr (dot d n))))
def ZtZ(d n:V)(ratio:Iv):V:=ZhI (WB d ratio) (WB n (sub (ZL (ZmL d n ratio)) (Zl ratio (dot d n))))
def bend(d n:V)(ratio:Iv):V×Int:=bif (dot d n).no||decide ((dot d n).lo≤0) then (noV,0)
 else bif (ZmL d n ratio).no then (noV,0) else bif decide ((ZmL d n ratio).hi < 0) then (noV,2) else bif decide ((ZmL d n ratio).lo < 0) then (noV,0)
 else bif Yn (ZtZ d n ratio) then (ZtZ d n ratio,1) else (noV,0)
def ZcS(is:Int):Int:=bif is==2 then 2 else 3
def goP(s:Surf)(r:Ray):V:=(ZU s r).2.1
def goO(s:Surf)(r:Ray):V:=⟨(goP s r).x,(goP s r).y,add (goP s r).z s.pos⟩
def goA(s:Surf)(r:Ray):Int:=JK (add (sqr (goP s r).x) (sqr (goP s r).y)) s.open2
def goB(s:Surf)(r:Ray):V×Int:=bend r.d (Zch s (goP s r)) s.ratio
def goS(s:Surf)(r:Ray):Ray×Int:=bif (ZU s r).2.2==1 then (bif goA s r==1 then (bif (goO s r).z.no then (Zjr,3) else bif s.stop then (⟨goO s r,r.d⟩,1) else bif (goB s r).2==1 then (⟨goO s r,(goB s r).1⟩,1) else (Zjr,ZcS (goB s r).2)) else (Zjr,ZcS (goA s r))) else (Zjr,ZcS (ZU s r).2.2)
def Zx:List Surf→Int→Ray→TrRes
 | [],k,r=>⟨1,k,r⟩
 | f::l,k,r=>bif (goS f r).2==1 then Zx l (k+1) (goS f r).1 else ⟨(goS f r).2,k,(goS f r).1⟩
def trace(s:SysM)(r:Ray):TrRes:=Zx s.surfs 0 r
def ZX(n lo hi:Int):Bool:=decide (lo≤n)&&decide (n≤hi)
def eqF(a b:Nat):Bool:=FloatKind.f64.format.order a b==some .eq
def geF(a b:Nat):Bool:=FloatKind.f64.format.order a b==some .gt||FloatKind.f64.format.order a b==some .eq
def leF(a b:Nat):Bool:=FloatKind.f64.format.order a b==some .lt||FloatKind.f64.format.order a b==some .eq
theorem Z9L{x c:Nat}(h:geF x c=true):Zjq x=true:=by
 unfold Zjq
 unfold geF at h
 cases e:FloatKind.f64.decode x with
 | nan s t=>
   have:FloatKind.f64.format.order x c=none:=by
    show (Ieee.Format.order _ x c)=none
    unfold Ieee.Format.order
    rw[show FloatKind.f64.format.read x= .nan s t from e]
    rfl
   rw[this] at h
   exact absurd h (by decide)
 | number _ _ _=>rfl
 | infinity _=>rfl
def JL(x:Nat):Bool:=geF x 13920626448202203136&&leF x 4697254411347427328&&eqF x (Ze6 x)
def Yi(x:Nat):Int:=((FloatKind.f64.decode x).toInt .zero).getD 0
theorem ZA9(m:Nat)(i:Int)(h:m <<< (i - min i (-32)).toNat≤4503599627370496 <<< (-32 - min i (-32)).toNat):(m <<< i.toNat) / 2 ^ (-i).toNat≤1048576:=by
 simp only[Nat.shiftLeft_eq] at h ⊢
 rcases Int.lt_or_le i 0 with hi | hi
 ·obtain ⟨k,rfl⟩:∃k:Nat,i= -((k:Int)+1):=⟨(-i - 1).toNat,by omega⟩
  rw[show (-((k:Int)+1)).toNat=0 by omega,show (- -((k:Int)+1)).toNat=k+1 by omega,Nat.pow_zero,Nat.mul_one]
  by_cases hk:k+1≤32
  ·obtain ⟨d,hd⟩:∃d,d+(k+1)=32:=⟨32 - (k+1),by omega⟩
   rw[show min (-((k:Int)+1)) (-32)= -32 by omega] at h
   rw[show (-((k:Int)+1) - -32).toNat=d by omega,show ((-32:Int) - -32).toNat=0 by omega] at h
   refine Nat.div_le_of_le_mul ?_
   have e:2 ^ d *2 ^ (k+1)=4294967296:=by rw[←Nat.pow_add,hd]
   have hp:0 < 2 ^ d:=Nat.pow_pos (by decide)
   refine Nat.le_of_mul_le_mul_right (QT_ h ?_) hp
   rw[Nat.mul_right_comm,Nat.mul_comm (2 ^ (k+1)) (2 ^ d),e]
   decide
  ·obtain ⟨d,hd⟩:∃d,k+1=32+d:=⟨k+1 - 32,by omega⟩
   rw[show min (-((k:Int)+1)) (-32)= -((k:Int)+1) by omega] at h
   rw[show (-((k:Int)+1) - -((k:Int)+1)).toNat=0 by omega,show ((-32:Int) - -((k:Int)+1)).toNat=d by omega] at h
   refine Nat.div_le_of_le_mul ?_
   rw[hd,Nat.pow_add]
   generalize 2 ^ d=p at *
   omega
 ·obtain ⟨k,rfl⟩:∃k:Nat,i=k:=⟨i.toNat,by omega⟩
  rw[show min (k:Int) (-32)= -32 by omega] at h
  rw[show ((k:Int) - -32).toNat=k+32 by omega,show ((-32:Int) - -32).toNat=0 by omega,Nat.pow_add] at h
  rw[show (k:Int).toNat=k from rfl,show (-(k:Int)).toNat=0 by omega]
  generalize 2 ^ k=p at *
  have:m * (p *2 ^ 32)=(m *p)*4294967296:=by rw[←Nat.mul_assoc]
  rw[this] at h
  generalize m *p=q at *
  omega
theorem ZDh{s:Bool}{n d c:Nat}(h:n / 2 ^ d≤c):Ieee.Toward.zero.cut s n d≤c:=by
 unfold Ieee.Toward.cut
 simp only[Nat.shiftLeft_eq,Nat.one_mul]
 by_cases hd:d≤n.log2+2
 ·rw[Nat.min_eq_left hd];simpa using h
 ·rw[Nat.min_eq_right (by omega)]
  have:n / 2 ^ (n.log2+2)=0:=Nat.div_eq_of_lt (Kc_ Nat.lt_log2_self (Nat.pow_le_pow_right (by decide) (by omega)))
  rw[this];simp
theorem Zs6{x:Nat}(h1:geF x 13920626448202203136=true)(h2:leF x 4697254411347427328=true):(FloatKind.f64.decode x).toInt .zero=some (Yi x)∧ -1048576≤Yi x∧Yi x≤1048576:=by
 unfold Yi
 unfold geF FloatKind.format at h1
 unfold leF FloatKind.format at h2
 simp only[Ieee.Format.order] at h1 h2
 rw[show Ieee.double.read 13920626448202203136= .number true 4503599627370496 (-32) by rfl] at h1
 rw[show Ieee.double.read 4697254411347427328= .number false 4503599627370496 (-32) by rfl] at h2
 rw[show FloatKind.f64.decode x=Ieee.double.read x from rfl]
 cases e:Ieee.double.read x with
 | nan s t=>rw[e] at h1;exact absurd h1 Kz_
 | infinity s=>rw[e] at h1 h2;cases s<;>first | exact absurd h1 Kz_ | exact absurd h2 Kz_
 | number s m i=>
   rw[e] at h1 h2
   simp only[Ieee.Datum.order] at h1 h2
   have key:m <<< (i - min i (-32)).toNat≤4503599627370496 <<< (-32 - min i (-32)).toNat:=by
    generalize hA:m <<< (i - min i (-32)).toNat=A
    generalize hB:4503599627370496 <<< (-32 - min i (-32)).toNat=B
    simp only[Ieee.signed,hA,hB] at h1 h2
    clear hA hB
    cases s with
    | false=>
      simp only[K8_,Ky_] at h2
      simp[Int.compare_eq_lt,Int.compare_eq_eq] at h2
      omega
    | true=>
      simp only[Kx_] at h1
      simp[Int.compare_eq_gt,Int.compare_eq_eq] at h1
      omega
   have hc:=ZDh (s:=s) (ZA9 m i key)
   refine ⟨rfl, ?_⟩
   show -1048576≤Ieee.signed s (Ieee.Toward.zero.cut s (m <<< i.toNat) (-i).toNat) 0∧Ieee.signed s (Ieee.Toward.zero.cut s (m <<< i.toNat) (-i).toNat) 0≤1048576
   unfold Ieee.signed
   rw[Nat.shiftLeft_zero]
   cases s<;>simp<;>omega
theorem Z78{x:Nat}(h:JL x=true):(FloatKind.f64.decode x).toInt .zero=some (Yi x)∧ -1048576≤Yi x∧Yi x≤1048576:=by
 unfold JL at h
 simp only[Qh_] at h
 exact Zs6 h.1.1 h.1.2
theorem Z1G(a b:Ieee.Datum):(a.order b==some .eq)=(b.order a==some .eq):=by
 cases a<;>cases b<;>try rfl
 ·rename_i s m i t n j
  simp only[Ieee.Datum.order]
  rw[Int.min_comm j i]
  generalize Ieee.signed s m (i - min i j).toNat=u
  generalize Ieee.signed t n (j - min i j).toNat=v
  by_cases h:u=v
  ·subst h;rfl
  ·have h1:compare u v≠ .eq:=fun e=>h (Int.compare_eq_eq.1 e)
   have h2:compare v u≠ .eq:=fun e=>h (Int.compare_eq_eq.1 e).symm
   rw[show (some (compare u v)==some Ordering.eq)=false by simpa using h1,show (some (compare v u)==some Ordering.eq)=false by simpa using h2]
 ·rename_i s m i t;cases t<;>rfl
 ·rename_i s t m i;cases s<;>rfl
 ·rename_i s t;cases s<;>cases t<;>rfl
theorem Z79(a b:Nat):eqF a b=eqF b a:=Z1G _ _
theorem Z7A(x:Nat):eqF x (FloatKind.f64.encode (.number true 0 0))=eqF x (FloatKind.f64.encode (.number false 0 0)):=by
 unfold eqF
 simp only[FloatKind.format,Ieee.Format.order]
 rw[show Ieee.double.read (FloatKind.f64.encode (.number true 0 0))= .number true 0 (-1074) by rfl,show Ieee.double.read (FloatKind.f64.encode (.number false 0 0))= .number false 0 (-1074) by rfl]
 cases Ieee.double.read x with
 | nan s t=>rfl
 | infinity s=>rfl
 | number s m i=>simp[Ieee.Datum.order,Ieee.signed]
theorem Z9M{x:Nat}{s:Bool}{m:Nat}{i:Int}(e:FloatKind.f64.decode x= .number s m i):eqF x (Ze6 x)=eqF (FloatKind.f64.nearest (Yi x)) x:=by
 rw[Z79 (FloatKind.f64.nearest (Yi x)) x]
 unfold Ze6 Yi FloatKind.nearest
 rw[e]
 simp only[Ieee.Datum.integral,Ieee.Datum.toInt,Kt_,Ieee.signed,Nat.shiftLeft_zero]
 generalize Ieee.Toward.zero.cut s (m <<< i.toNat) (-i).toNat=c
 cases c with
 | zero=>
   cases s with
   | true=>exact Z7A x
   | false=>rfl
 | succ c=>
   cases s with
   | true=>simp only[Kx_];rw[show (-((c+1:Nat):Int)).natAbs=c+1 by omega,show decide (-((c+1:Nat):Int) < 0)=true by simp]
   | false=>simp only[K8_,Ky_];rw[show (((c+1:Nat):Int)).natAbs=c+1 by omega,show decide (((c+1:Nat):Int) < 0)=false by simp;omega]
def ZcT(x:Nat):Bool:=geF x 13920626448202203136&&leF x 4697254411347427328&&eqF (FloatKind.f64.nearest (Yi x)) x
theorem ZvZ(x:Nat):ZcT x=JL x:=by
 unfold ZcT JL
 cases h1:geF x 13920626448202203136 with
 | false=>rfl
 | true=>
   cases h2:leF x 4697254411347427328 with
   | false=>rfl
   | true=>
     simp only[Qp_]
     have e:∃s m i,FloatKind.f64.decode x= .number s m i:=by
      unfold geF FloatKind.format at h1
      unfold leF FloatKind.format at h2
      simp only[Ieee.Format.order] at h1 h2
      rw[show Ieee.double.read 13920626448202203136= .number true 4503599627370496 (-32) by rfl] at h1
      rw[show Ieee.double.read 4697254411347427328= .number false 4503599627370496 (-32) by rfl] at h2
      rw[show FloatKind.f64.decode x=Ieee.double.read x from rfl]
      cases e:Ieee.double.read x with
      | nan s t=>rw[e] at h1;exact absurd h1 Kz_
      | infinity s=>rw[e] at h1 h2;cases s<;>first | exact absurd h1 Kz_ | exact absurd h2 Kz_
      | number s m i=>exact ⟨s,m,i,rfl⟩
     obtain ⟨s,m,i,e⟩:=e
     exact (Z9M e).symm
def ZDi(x y:Int):Cx:=⟨FloatKind.f64.nearest x,FloatKind.f64.nearest y⟩
def XC(z:Cx):Bool:=JL z.re&&JL z.im
def YU(w h:Int):Bool:=ZX w 1 16&&ZX h 1 16
def XZ(s:SysM)(n:Int):Bool:=decide ((0:Int) < s.surfs.length)&&decide (1≤n)&&decide (n≤16)
def edge(o:Iv)(k n:Int):Iv:=Zp (ZcR (times o k) (times o (IntKind.i64.wrap (k+1)))) (whole n)
theorem ZdN{x:Nat}(h1:geF x 13920626448202203136=true)(h2:leF x 4697254411347427328=true):(FloatKind.f64.decode x).toInt .zero=some (((FloatKind.f64.decode x).toInt .zero).getD 0)∧IntKind.i64.min≤((FloatKind.f64.decode x).toInt .zero).getD 0∧((FloatKind.f64.decode x).toInt .zero).getD 0≤IntKind.i64.max:=by
 obtain ⟨h1,h2,h3⟩:=Zs6 h1 h2
 unfold Yi at *
 refine ⟨h1, ?_, ?_⟩
 ·rw[show IntKind.i64.min= -9223372036854775808 by decide];omega
 ·rw[show IntKind.i64.max=9223372036854775807 by decide];omega
def ofC(z:Cx):Pair×Bool:=bif XC z then (⟨Yi z.re,Yi z.im⟩,true) else (⟨0,0⟩,false)
theorem WW{x:Nat}(h:JL x=true):(FloatKind.f64.decode x).toInt .zero=some (((FloatKind.f64.decode x).toInt .zero).getD 0)∧IntKind.i64.min≤((FloatKind.f64.decode x).toInt .zero).getD 0∧((FloatKind.f64.decode x).toInt .zero).getD 0≤IntKind.i64.max:=by
 obtain ⟨h1,h2,h3⟩:=Z78 h
 unfold Yi at *
 refine ⟨h1, ?_, ?_⟩
 ·rw[show IntKind.i64.min= -9223372036854775808 by decide];omega
 ·rw[show IntKind.i64.max=9223372036854775807 by decide];omega
theorem ZdO{z:Cx}(h:XC z=true):JL z.re=true:=by unfold XC at h;rw[Qh_] at h;exact h.1
theorem ZdP{z:Cx}(h:XC z=true):JL z.im=true:=by unfold XC at h;rw[Qh_] at h;exact h.2
theorem Zwa{s:SysM}{n:Int}(h:XZ s n=true):0 < s.surfs.length:=by
 unfold XZ at h
 simp only[Qh_,Qc_] at h
 omega
def YB(z:Cx)(n:Int):Bool:=XC z&&(ZX (Yi z.re) (IntKind.i64.wrap (0 - n)) (IntKind.i64.wrap (n - 1))&&ZX (Yi z.im) (IntKind.i64.wrap (0 - n)) (IntKind.i64.wrap (n - 1)))
def ZCu(s:SysM):Surf:=Surf.dec ((s.surfs.map Surf.enc).getD 0 [])
def Jz(s:SysM)(x y:Iv)(a b n:Int):Ray:=⟨⟨x,y,point 0⟩,unit ⟨sub (edge s.op a n) x,sub (edge s.op b n) y,(ZCu s).pos⟩⟩
def Zpu:Iv:=⟨0,0,false⟩
def Z8P:V:=⟨Zpu,Zpu,Zpu⟩
def ZrE:Ray:=⟨Z8P,Z8P⟩
def ZkV(s:SysM)(x y:Iv)(a b n:Int):Ray×Bool:=bif Yn (Jz s x y a b n).o&&Yn (Jz s x y a b n).d then (Jz s x y a b n,true) else (ZrE,false)
def WD(s:SysM)(x y:Iv)(z:Cx)(n:Int):Ray×Bool:=bif XZ s n&&XC z then ZkV s x y (Yi z.re) (Yi z.im) n else (ZrE,false)
def WE(s:SysM)(x y:Iv)(z:Pair)(n:Int):Ray×Bool:=bif XZ s n then ZkV s x y z.x z.y n else (ZrE,false)
def ZmM(s:Surf)(r:Ray)(T:Iv×Int):Iv×Int:=bif s.bent&&T.2==1 then ZdM s (XV s r) T.1 else T
def ZAA(s:Surf)(r:Ray)(T:Iv×Int):Iv×V×Int:=bif (ZmM s r T).2==1 then (bif Yn (along (XV s r) (ZmM s r T).1) then ((ZmM s r T).1,along (XV s r) (ZmM s r T).1,1) else (none',noV,0)) else (none',noV,(ZmM s r T).2)
theorem Z9N(s:Surf)(r:Ray):ZU s r=ZAA s r (Jn s (XV s r).o r.d):=rfl
theorem Zhj(r:Ray):∀(l:List Shape) (k b:Int) (a:Iv) (all:List Iv),(YF r l k b a all).1=b∨(k≤(YF r l k b a all).1∧(YF r l k b a all).1 < k+l.length)
 | [],_,_,_,_=> .inl rfl
 | s::l,k,b,a,all=>by
   simp only[YF,Qs_]
   cases (hit s r).2==2<;>simp only[Qb_,Qd_]
   ·cases decide (b < 0)||decide ((hit s r).1.hi < a.hi)<;>simp only[Qb_,Qd_]
    ·rcases Zhj r l (k+1) b a (all++[(hit s r).1]) with h | ⟨h1,h2⟩
     ·exact .inl h
     ·exact .inr ⟨by omega,by omega⟩
    ·rcases Zhj r l (k+1) k (hit s r).1 (all++[(hit s r).1]) with h | ⟨h1,h2⟩
     ·exact .inr ⟨by rw[h];omega,by rw[h];omega⟩
     ·exact .inr ⟨by omega,by omega⟩
   ·rcases Zhj r l (k+1) b a all with h | ⟨h1,h2⟩
    ·exact .inl h
    ·exact .inr ⟨by omega,by omega⟩
theorem Zfr{l:List Shape}{r:Ray}(h:((nearest l r).2.2==1)=true):0≤(nearest l r).1∧(nearest l r).1 < l.length:=by
 unfold nearest at h ⊢
 have hg:=Zhj r l 0 (-1) none' []
 revert h
 cases unsure r l<;>simp only[Qb_,Qd_]
 ·obtain ⟨g,hgd⟩:∃g,YF r l 0 (-1) none' []=g:=⟨_,rfl⟩
  rw[hgd] at hg ⊢
  cases hd:decide (g.1 < 0)<;>simp only[Qb_,Qd_]
  ·have hd:=of_decide_eq_false hd
   cases decide (behind g.2.1 g.2.2+1 < g.2.2.length)<;>simp only[Qb_,Qd_]
   ·intro _;omega
   ·exact fun h=>absurd h (by decide)
  ·exact fun h=>absurd h (by decide)
 ·exact fun h=>absurd h (by decide)
def Za0:A3:=⟨0,0,0⟩
def Zpv(l:List Shape)(k:Int):A3:=(Shape.dec ((l.map Shape.enc).getD k.toNat [])).glow
def Yz(s:SysM)(l:List Shape)(r:Ray):A3×A3×Bool:=
 bif (trace s r).kind==2 then (Za0,Za0,false) else bif (trace s r).kind==3 then (Za0,Za0,true) else
 bif (nearest l (trace s r).r).2.2==1 then (Zpv l (nearest l (trace s r).r).1,Zpv l (nearest l (trace s r).r).1,false)
 else bif (nearest l (trace s r).r).2.2==2 then (Za0,Za0,false) else (Za0,Za0,true)
def ZhJ(a:A3)(c:Nat):Int:=match c with | 0=>a.a | 1=>a.b | _=>a.c
def XS(s:SysM)(l:List Shape)(r:Ray)(c:Nat):Int×Int×Bool:=
 bif (Yz s l r).2.2 then (0,255,true) else (ZhJ (Yz s l r).1 c,ZhJ (Yz s l r).2.1 c,false)
def Yc(s:SysM)(l:List Shape)(x y:Iv)(z:Pair)(n:Int)(c:Nat):Int×Int×Bool:=
 bif (WE s x y z n).2 then XS s l (WE s x y z n).1 c else (0,255,true)
def YS(s:SysM)(l:List Shape)(x y:Iv)(z:Cx)(n:Int)(c:Nat):Int×Int×Bool:=
 bif (WD s x y z n).2 then XS s l (WD s x y z n).1 c else (0,255,true)
def Z1H(a:A3)(c:Nat)(v:Int):A3:=match c with
 | 0=>⟨IntKind.i64.wrap (a.a+v),a.b,a.c⟩
 | 1=>⟨a.a,IntKind.i64.wrap (a.b+v),a.c⟩
 | _=>⟨a.a,a.b,IntKind.i64.wrap (a.c+v)⟩
def XD(p:Pixel)(v:Int×Int×Bool)(c:Nat):Pixel:=⟨Z1H p.lo c v.1,Z1H p.hi c v.2.1,bif v.2.2 then IntKind.i64.wrap (p.lost+1) else p.lost⟩
theorem Zfs(f:Iv→Iv×Iv):∀n t s,(Yj f n t s).1=0∨(Yj f n t s).1=1∨(Yj f n t s).1=2
 | 0,_,_=> .inl rfl
 | n+1,t,s=>by
   simp only[Yj]
   cases (ZdL f t).no<;>simp only[Qb_,Qd_]
   ·cases (Xi t (ZdL f t)).no<;>simp only[Qb_,Qd_]
    ·cases ZrC (Xi t (ZdL f t)) t<;>simp only[Qb_,Qd_]
     ·exact Zfs f n _ _
     ·simp
    ·simp
   ·cases ZaW (f (ZZ t).1).1<;>simp only[Qb_,Qd_]
    ·cases ZaW (f (ZZ t).2).1<;>simp only[Qb_,Qd_]
     ·simp
     ·exact Zfs f n _ _
    ·exact Zfs f n _ _
theorem Z1I(f:Iv→Iv×Iv)(t:Iv)(m:Int):(solve f t m).2=0∨(solve f t m).2=1∨(solve f t m).2=2:=by
 unfold solve newt ZmK Zpt
 cases right t<;>simp only[Qb_,Qd_]
 ·simp
 ·obtain ⟨A,hA⟩:∃A,Yj f (max 0 (min m 40)).toNat t false=A:=⟨_,rfl⟩
  rw[hA]
  cases A.1==1<;>simp only[Qb_,Qd_]
  ·cases A.1==2<;>simp only[Qb_,Qd_]
   ·cases A.2.2<;>simp only[Qb_,Qd_]
    ·simp
    ·simp
   ·simp
  ·simp
theorem ZAB{s:Surf}{r:Ray}(h:((goS s r).2==1)=false):(goS s r).1=Zjr:=by
 revert h
 unfold goS
 cases (ZU s r).2.2==1<;>simp only[Qb_,Qd_]
 ·exact fun _=>by trivial
 cases goA s r==1<;>simp only[Qb_,Qd_]
 ·exact fun _=>by trivial
 cases (goO s r).z.no<;>simp only[Qb_,Qd_]
 ·cases s.stop<;>simp only[Qb_,Qd_]
  ·cases (goB s r).2==1<;>simp only[Qb_,Qd_]
   ·exact fun _=>by trivial
   ·exact fun h=>absurd h (by decide)
  ·exact fun h=>absurd h (by decide)
 ·exact fun _=>by trivial
theorem ZhK:∀(l:List Surf) k r,((Zx l k r).kind==1)=true→(Zx l k r).pos=k+l.length
 | [],k,r,_=>by show k=k+((0:Nat):Int);omega
 | f::l,k,r,h=>by
   cases hg:(goS f r).2==1 with
   | true=>
     have e:Zx (f::l) k r=Zx l (k+1) (goS f r).1:=by simp only[Zx,hg,Qb_]
     rw[e] at h ⊢
     rw[ZhK l _ _ h,Qs_];omega
   | false=>
     have e:Zx (f::l) k r=⟨(goS f r).2,k,(goS f r).1⟩:=by simp only[Zx,hg,Qd_]
     rw[e] at h
     exact absurd h (by simp[hg])
theorem ZCv(l h:Int):(of l h).no=true→of l h=none':=by
 unfold of
 cases right ⟨l,h,false⟩<;>simp[none']
theorem ZCw{c:Bool}{x y:Iv}(hx:x.no=true→x=none')(hy:y.no=true→y=none'):(bif c then x else y).no=true→(bif c then x else y)=none':=by cases c<;>assumption
theorem Z9O:none'.no=true→none'=none':=fun _=>rfl
theorem Z5i(a b:Iv):(add a b).no=true→add a b=none':=ZCw (ZCv _ _) Z9O
theorem Zik(a b:Iv):right (Xi a b)= !(Xi a b).no:=ZbP (Zec _ _) WV
theorem Z0z(a b:Iv):right (ZcR a b)= !(ZcR a b).no:=ZbP (Zec _ _) WV
theorem Zwb(a:Iv)(k:Int):right (times a k)= !(times a k).no:=ZbP (Zec _ _) WV
theorem Zpw(a b:V):right (dot a b)= !(dot a b).no:=Zga _ _
theorem Z00(f:Iv→Iv×Iv)(t:Iv):right (ZdL f t)= !(ZdL f t).no:=ZcP _ _
theorem Zpx{a b c:Iv}(h:(Wc a b c).2=1):right (Wc a b c).1=true:=by
 unfold Wc at h ⊢
 simp only at h ⊢
 revert h
 repeat' (first | (cases (sub (sqr b) (Zl a c)).no<;>simp only[Qb_,Qd_]) | (cases decide ((sub (sqr b) (Zl a c)).hi < 0)<;>simp only[Qb_,Qd_]) | (cases decide ((sub (sqr b) (Zl a c)).lo < 0)<;>simp only[Qb_,Qd_]) | (cases hd:(Zp c (sub (ZL (sub (sqr b) (Zl a c))) b)).no<;>simp only[Qb_,Qd_]))
 all_goals first | (intro h;exact absurd h (by decide)) | (intro _;rw[Zgb,hd];rfl)
theorem ZkW(a x:Iv):Zl (Zbx a) x=Zl a x:=by
 unfold Zbx Zl both
 cases h:right a with
 | true=>simp only[Qb_,h]
 | false=>simp only[Qd_,show right none'=false from rfl,h,Ql_,Qd_]
open Go
def Zcx(c:Int):Bool:=(decide (97≤c)&&decide (c≤122))||(decide (65≤c)&&decide (c≤90))
def Zpy(c:Int):Bool:=decide (48≤c)&&decide (c≤57)
def ZmN(c:Int):Bool:=Zcx c||(Zpy c||(c==45||c==95))
def Zjs(b:UInt8):Bool:=ZmN (b.toNat:Int)
def Zby(s:List UInt8):Bool:=decide (1≤s.length)&&(decide (s.length≤20)&&(Zcx ((s.getD 0 0).toNat:Int)&&s.all Zjs))
def Zbp:Nat→Nat→List UInt8
 | 0,_=>[]
 | f+1,n=>bif decide (n < 10) then [UInt8.ofNat (48+n)] else Zbp f (n / 10)++[UInt8.ofNat (48+n % 10)]
def digits(n:Int):List UInt8:=bif decide (n < 0) then 45::Zbp 19 (-n).toNat else Zbp 19 n.toNat
theorem ZnR:∀(f n:Nat),(Zbp f n).length≤f
 | 0,n=>Q2_ _
 | f+1,n=>by
   unfold Zbp
   cases decide (n < 10)<;>simp only[Qb_,Qd_,Qx_,Qs_,Q1_]
   ·have:=ZnR f (n / 10);omega
   ·omega
theorem Z7B:∀(f n:Nat),1≤(Zbp (f+1) n).length
 | f,n=>by
   unfold Zbp
   cases decide (n < 10)<;>simp only[Qb_,Qd_,Qx_,Qs_,Q1_]<;>omega
theorem ZI(n:Int):1≤(digits n).length∧(digits n).length≤20:=by
 unfold digits
 cases decide (n < 0)<;>simp only[Qb_,Qd_,Qs_]
 ·exact ⟨Z7B 18 _,Nat.le_succ_of_le (ZnR _ _)⟩
 ·exact ⟨by omega,by have:=ZnR 19 (-n).toNat;omega⟩
def Zfa(d:Dec):Int:=max d.c (-d.c)
def headD(d:Dec):Int:=(Zfa d).tdiv (ZD d.scale)
def ZcU(d:Dec):Int:=(Zfa d).tmod (ZD d.scale)+ZD d.scale
def Z1J(d:Dec)(s:List UInt8):List UInt8:=bif decide (d.c < 0) then 45::s else s
def Zwc(d:Dec)(s:List UInt8):List UInt8:=bif decide (d.scale > 0) then s++[46]++(digits (ZcU d)).drop 1 else s
def ZdQ(d:Dec):List UInt8:=bif ZO d then (bif decide (headD d > 99999) then [] else Zwc d (Z1J d (digits (headD d)))) else []
def printable(d:Dec):Bool:=ZO d&& !decide (headD d > 99999)
theorem Zwd(d:Dec):(!(ZdQ d==[]))=printable d:=by
 unfold printable ZdQ Zwc Z1J
 cases ZO d<;>simp only[Qb_,Qd_]
 ·rfl
 ·have h1:=ZI (headD d)
  cases decide (headD d > 99999)<;>simp only[Qb_,Qd_]
  ·show (!_)=true
   rw[Qi_,KG_]
   intro e
   have:=Kl_ List.length e
   revert this
   cases decide (d.c < 0)<;>cases decide (d.scale > 0)<;>simp only[Qb_,Qd_,Qx_,Qs_,Q1_]<;>omega
  ·rfl
theorem Z01{i:Int}(h:i≤6):ZD i≤1000000:=Zpp (j:=6) h
theorem Zs7{d:Dec}(h:ZO d=true):List.foldl imax d.c [IntKind.i64.wrap (0 - d.c)]=Zfa d∧IntKind.i64.wrap (headD d)=headD d∧IntKind.i64.wrap (ZcU d)=ZcU d∧(0≤headD d∧headD d≤100000000000)∧(1≤ZcU d∧ZcU d≤2000000)∧(1≤ZD d.scale∧ZD d.scale≤1000000)∧(0≤d.scale∧d.scale≤6):=by
 obtain ⟨h1,h2⟩:=Zed h
 have p1:=Zct d.scale
 have p2:=Z01 (i:=d.scale) h2.2
 have ha:0≤Zfa d∧Zfa d≤100000000000:=by unfold Zfa;omega
 have hq:0≤headD d∧headD d≤100000000000:=by
  unfold headD
  rw[Int.tdiv_eq_ediv_of_nonneg ha.1]
  refine ⟨Int.ediv_nonneg ha.1 (by omega),Int.le_trans (Int.ediv_le_self _ ha.1) ha.2⟩
 have hr:1≤ZcU d∧ZcU d≤2000000:=by
  unfold ZcU
  rw[Int.tmod_eq_emod_of_nonneg ha.1]
  have:=Int.emod_nonneg (Zfa d) (show ZD d.scale≠0 by omega)
  have:=Int.emod_lt_of_pos (Zfa d) (show 0 < ZD d.scale by omega)
  omega
 refine ⟨?_,Zg (by constructor<;>omega),Zg (by constructor<;>omega),hq,hr,⟨p1,p2⟩,h2⟩
 rw[XA (by constructor<;>omega)]
 simp only[List.foldl,ZB]
 rfl
theorem Zjt{d:Dec}(h:ZO d=true):IntKind.i64.wrap (6 - d.scale)=6 - d.scale∧(0≤6 - d.scale∧6 - d.scale≤18)∧IntKind.i64.wrap (d.c *ZD (6 - d.scale))=d.c *ZD (6 - d.scale):=by
 obtain ⟨h1,h2⟩:=Zed h
 have p1:=Zct (6 - d.scale)
 have p2:=Z01 (i:=6 - d.scale) (by omega)
 refine ⟨Zg (by constructor<;>omega),by omega,Zg ?_⟩
 have a1:d.c *ZD (6 - d.scale)≤100000000000 *ZD (6 - d.scale):=Ks_ h1.2 (by omega)
 have a2: -100000000000 *ZD (6 - d.scale)≤d.c *ZD (6 - d.scale):=Ks_ h1.1 (by omega)
 constructor<;>omega
def Zua(d:Dec):Dec:=⟨max d.c (w64 (0 - d.c)),d.scale⟩
def ZfG(a b:Dec):Bool:=ZO a&&(ZO b&&decide (a.c *ZD (6 - a.scale) < b.c *ZD (6 - b.scale)))
def Yv:Dec:=⟨0,0⟩
def Z5j:G3:=⟨Yv,Yv,Yv⟩
def Ze7:Glass:=⟨[],Z5j,Z5j⟩
def YV:List Glass→List UInt8→Glass×Bool
 | [],_=>(Ze7,false)
 | g::l,n=>bif g.name==n then (g,true) else YV l n
def ZkX:List UInt8:=[97,105,114]
def Zhk(b c:Dec)(l:Iv):Iv:=Zp (Zl (Zj b) l) (sub l (Zj c))
def ZcV(g:Glass)(w:Iv):Iv:=bif g.name==ZkX then point 65536 else ZL (add (add (add (point 65536) (Zhk g.b.a g.c.a (sqr w))) (Zhk g.b.b g.c.b (sqr w))) (Zhk g.b.c g.c.c (sqr w)))
def Zpz(k:Int):Iv:=bif k==0 then Zj ⟨5876,4⟩ else bif k==1 then Zj ⟨4861,4⟩ else bif k==2 then Zj ⟨6563,4⟩ else none'
theorem ZkY{f n:Nat}(h:10≤n):Zbp (f+1) n=Zbp f (n / 10)++[UInt8.ofNat (48+n % 10)]:=by
 conv=>lhs;unfold Zbp
 rw[QQ_ (by omega)];rfl
theorem Zgc{f n:Nat}(h:n < 10):Zbp (f+1) n=[UInt8.ofNat (48+n)]:=by
 unfold Zbp
 rw[QH_ h];rfl
theorem Zhl:∀(f n:Nat),n < 10 ^ (f+1)→Zbp (f+2) n=Zbp (f+1) n
 | 0,n,h=>by rw[Zgc (by simpa using h),Zgc (by simpa using h)]
 | f+1,n,h=>by
   by_cases hn:n < 10
   ·rw[Zgc hn,Zgc hn]
   ·have hn':n / 10 < 10 ^ (f+1):=by
     refine Nat.div_lt_of_lt_mul ?_
     rw[Nat.mul_comm,←Nat.pow_succ];exact h
    have e1:=ZkY (f:=f+2) (show 10≤n by omega)
    have e2:=ZkY (f:=f+1) (show 10≤n by omega)
    rw[Zhl f (n / 10) hn',←e2] at e1
    exact e1
theorem Zzk{n:Int}(h:10≤n)(h2:n≤1000000000000000000):digits n=digits (n / 10)++[UInt8.ofNat (48+(n % 10).toNat)]:=by
 unfold digits
 rw[QQ_ (by omega),QQ_ (by omega)]
 simp only[Qd_]
 rw[ZkY (f:=18) (by omega),show (n / 10).toNat=n.toNat / 10 by omega,show (n % 10).toNat=n.toNat % 10 by omega]
 rw[←Zhl 17 (n.toNat / 10) (by omega)]
theorem Z1K{n:Int}(h0:0≤n)(h:n < 10):digits n=[UInt8.ofNat (48+n.toNat)]:=by
 unfold digits
 rw[QQ_ (by omega),Qd_,Zgc (by omega)]
theorem Z1L{n:Int}(h:n < 0):digits n=45::digits (-n):=by
 unfold digits
 rw[QH_ h,QQ_ (by omega)];rfl
theorem Z02{m:Int}(h0:0≤m)(h:m < 10):(bif decide ((0:Int)≤IntKind.u8.wrap (IntKind.i64.wrap (48+m)))&&decide (IntKind.u8.wrap (IntKind.i64.wrap (48+m)) < 256) then some [UInt8.ofNat (IntKind.u8.wrap (IntKind.i64.wrap (48+m))).toNat] else none)=some [UInt8.ofNat (48+m.toNat)]:=by
 have h1:IntKind.i64.wrap (48+m)=48+m:=Zg (by constructor<;>omega)
 have h2:IntKind.u8.wrap (48+m)=48+m:=by
  have:m=0∨m=1∨m=2∨m=3∨m=4∨m=5∨m=6∨m=7∨m=8∨m=9:=by omega
  rcases this with rfl | rfl | rfl | rfl | rfl | rfl | rfl | rfl | rfl | rfl<;>decide
 rw[h1,h2,QH_ (by omega),QH_ (by omega)]
 show some [UInt8.ofNat (48+m).toNat]=_
 rw[show (48+m).toNat=48+m.toNat by omega]
theorem ZkZ:∀{l:List Glass} {n:List UInt8},(YV l n).2=false→YV l n=(Ze7,false)
 | [],_,_=>rfl
 | g::l,n,h=>by
   revert h
   unfold YV
   cases g.name==n
   ·exact ZkZ
   ·intro h;exact absurd h (by simp)
def JE(f:Face)(g:List Glass):Bool:=
 printable f.aperture&&(decide (f.aperture.c > 0)&&(printable f.thick&&(!decide (f.thick.c < 0)&&
  (bif f.stop then YD f.radius&&(YD f.conic&&(YD f.a4&&(YD f.a6&&f.glass==[])))
   else printable f.radius&&(printable f.conic&&(printable f.a4&&(printable f.a6&&(Zby f.glass&&(((YV g f.glass).2||f.glass==ZkX)&&(f.radius.c==0|| !ZfG (Zua f.radius) f.aperture))))))))))
def Wa(l:List Face):Bool:=l.any fun f=> !f.stop
def Ji(l:LensM)(g:List Glass):Bool:=Zby l.name&&(printable l.back&&(decide (l.back.c > 0)&&(decide (l.faces.length≤12)&&(l.faces.all (JE · g)&&Wa l.faces))))
def Jj(x:Surf):Bool:=right x.curve&&(right x.conic&&(right x.a4&&(right x.a6&&(right x.pos&&(right x.open2&&right x.ratio)))))
def Za1(s:SysM):Bool:=s.surfs.all Jj&&right s.op
def Z03(f:Face):Iv:=bif f.radius.c !=0 then Zp (point 65536) (Zj f.radius) else point 0
def ZnS(f:Face)(g:List Glass)(w:Iv):Iv:=bif f.glass==ZkX then point 65536 else ZcV (YV g f.glass).1 w
def Zp0(f:Face)(pos ratio:Iv):Surf:=⟨f.stop,!YD f.a4|| !YD f.a6,Z03 f,add (point 65536) (Zj f.conic),Zj f.a4,Zj f.a6,pos,sqr (Zj f.aperture),ratio⟩
def ZmO(f:Face)(g:List Glass)(w ix:Iv):Iv:=bif f.stop then point 65536 else Zp ix (ZnS f g w)
def Zp1(f:Face)(g:List Glass)(w ix:Iv):Iv:=bif f.stop then ix else ZnS f g w
def WX(g:List Glass)(w:Iv):List Face→Iv→Iv→List Surf
 | [],_,_=>[]
 | f::l,pos,ix=>Zp0 f pos (ZmO f g w ix)::WX g w l (add pos (Zj f.thick)) (Zp1 f g w ix)
def Z7C:Face:=⟨false,Yv,Yv,Yv,Yv,Yv,Yv,[]⟩
def Z8Q(l:LensM):Face:=l.faces.headD Z7C
def Z04:SysM:=⟨[],Zpu⟩
def Zgd(l:LensM)(g:List Glass)(w:Iv):SysM:=⟨WX g w l.faces (Zj l.back) (point 65536),Zj (Z8Q l).aperture⟩
def Za2(l:LensM)(g:List Glass)(w:Iv):SysM×Int:=bif Ji l g then (bif Za1 (Zgd l g w) then (Zgd l g w,0) else (Z04,6)) else (Z04,1)
def Z05(f:RawFace):Dec:=bif decide (pick f.r 7 > 0) then (bif pick (w64 (f.r.tdiv 7)) 2==0 then hdec 1 (w64 (-150 - pick f.r 900)) 1 else hdec 1 (w64 (150+pick f.r 900)) 1) else Yv
def Zs8(f:RawFace):Dec:=bif pick f.k 6==3 then hdec 1 (w64 (pick (w64 (f.k.tdiv 6)) 30 - 15)) 1 else Yv
def Z5k(f:RawFace):Dec:=bif pick f.k 6==3 then Yv else bif pick f.k 6==4 then hdec 2 (w64 (pick (w64 (f.k.tdiv 6)) 400 - 200)) 2 else bif pick f.k 6==5 then hdec 2 (w64 (pick (w64 (f.k.tdiv 6)) 400 - 200)) 2 else Yv
def Z5l(f:RawFace):Dec:=bif pick f.k 6==3 then Yv else bif pick f.k 6==4 then Yv else bif pick f.k 6==5 then hdec 1 (w64 (pick (w64 (f.k.tdiv 12)) 400 - 200)) 1 else Yv
def ZCx(f:RawFace)(g:List Glass):Int:=pick f.g (w64 (g.length+2))
def Z9P(g:List Glass)(k:Int):Glass:=g.getD k.toNat Ze7
def Zs9(f:RawFace)(g:List Glass):List UInt8:=bif decide (pick f.g (IntKind.i64.wrap ((g.length:Int)+2)) < (g.length:Int)) then (g.getD (pick f.g (IntKind.i64.wrap ((g.length:Int)+2))).toNat Ze7).name else ZkX
def Zwe(f:RawFace):Dec:=hdec 1 (w64 (30+pick f.a 70)) 1
def Zwf(f:RawFace):Dec:=hdec 1 (pick f.t 80) 1
def ZdR(f:RawFace)(i:Int)(g:List Glass):Face:=bif pick f.kind 6==5&&decide (i > 0) then ⟨true,Yv,Zwe f,Zwf f,Yv,Yv,Yv,[]⟩ else ⟨false,Z05 f,Zwe f,Zwf f,Zs8 f,Z5k f,Z5l f,Zs9 f g⟩
def WF(g:List Glass)(most:Int):List RawFace→Int→List Face→List Face
 | [],_,out=>out
 | f::l,i,out=>bif decide ((out.length:Int) < most) then WF g most l (i+1) (out++[ZdR f i g]) else out
def Z5m:List UInt8:=[99,114,111,119,110]
def ZAC:List UInt8:=[102,108,105,110,116]
def Z5n:Face:=⟨false,⟨40,0⟩,⟨8,0⟩,⟨3,0⟩,Yv,Yv,Yv,Z5m⟩
def Zla(l:List Face):List Face:=bif l.length==0|| !Wa l then l++[Z5n] else l
def Wm(back:Int)(l:List RawFace)(g:List Glass)(most:Int):LensM:=
 ⟨120::digits (pick back 100),hdec 1 (w64 (200+pick back 600)) 1,Zla (WF g most l 0 [])⟩
def Zp2(f:Face):Face:=⟨f.stop,f.radius,f.aperture,f.thick,f.conic,Yv,Yv,f.glass⟩
def Zil(l:LensM):LensM:=⟨l.name,l.back,l.faces.map Zp2⟩
def Zp3(l:List I)(i:Int):Glass:=
 ⟨103::digits i,⟨hdec 5 (pick (l.getD i.toNat ⟨0⟩).n 200000) 5,hdec 5 (pick (w64 ((l.getD i.toNat ⟨0⟩).n.tdiv 7)) 50000) 5,Yv⟩,
   ⟨hdec 5 (pick (w64 ((l.getD i.toNat ⟨0⟩).n.tdiv 11)) 3000) 5,hdec 5 (pick (w64 ((l.getD i.toNat ⟨0⟩).n.tdiv 13)) 9000) 5,hdec 3 (w64 (pick (w64 ((l.getD i.toNat ⟨0⟩).n.tdiv 17)) 200000 - 1000)) 3⟩⟩
def ZAD:Glass:=⟨Z5m,⟨⟨103961,5⟩,⟨23179,5⟩,⟨101047,5⟩⟩,⟨⟨6,3⟩,⟨2002,5⟩,⟨1035607,4⟩⟩⟩
def ZAE:Glass:=⟨ZAC,⟨⟨17376,4⟩,⟨31375,5⟩,⟨189878,5⟩⟩,⟨⟨1319,5⟩,⟨6231,5⟩,⟨1552363,4⟩⟩⟩
def Zge:Nat→List I→Int→List Glass
 | 0,_,_=>[]
 | k+1,l,i=>bif decide (i < l.length)&&decide (i < 3) then Zp3 l i::Zge k l (i+1) else []
def X5(l:List I):List Glass:=[ZAD,ZAE]++Zge 3 l 0
def ZaX(back:Int)(l:List RawFace)(raw:List I)(most:Int)(plain:Bool):SysM:=
 (Za2 (bif plain then Zil (Wm back l (X5 raw) most) else Wm back l (X5 raw) most) (X5 raw) (Zpz (pick back 3))).1
def ZmP(a z:Int):Surf:=⟨pick a 2==0,false,point 0,point 65536,point 0,point 0,point z,whole 100,point 65536⟩
def Wr:Nat→List I→Int→Int→List Surf
 | 0,_,_,_=>[]
 | k+1,l,i,z=>bif decide (i < l.length)&&decide (i < 4) then ZmP (l.getD i.toNat ⟨0⟩).n z::Wr k l (i+1) (w64 (w64 (z+1)+pick (w64 ((l.getD i.toNat ⟨0⟩).n.tdiv 2)) 327680)) else []
def straight(l:List I):SysM:=⟨Wr 4 l 0 655360,whole 8⟩
theorem Za3{l:LensM}{g:List Glass}(h:Ji l g=true):(∃f t,l.faces=f::t)∧l.faces.length≤12:=by
 unfold Ji at h
 simp only[Qh_,Qc_] at h
 refine ⟨?_,h.2.2.2.1⟩
 cases hf:l.faces with
 | nil=>rw[hf] at h;exact absurd h.2.2.2.2.2 (by decide)
 | cons f t=>exact ⟨f,t,rfl⟩
theorem Zee(g:List Glass)(w:Iv):∀(l:List Face) (p q:Iv),(WX g w l p q).length=l.length
 | [],_,_=>rfl
 | f::l,p,q=>by simp only[WX,Qs_,Zee g w l]
theorem Z7D(g:List Glass)(k:Nat):ZcN (((g.map Glass.enc).getD k []).headD .nil)=(g.getD k Ze7).name:=by
 rw[Q7_,Q6_,Q7_]
 cases g[k]?<;>rfl
theorem Zwg:∀(k:Nat) (l:List I) (i:Int),(Zge k l i).length≤k
 | 0,_,_=>Q2_ _
 | k+1,l,i=>by
   unfold Zge
   cases decide (i < l.length)&&decide (i < 3)<;>simp only[Qb_,Qd_,Qs_,Q1_]
   ·omega
   ·have:=Zwg k l (i+1);omega
theorem Zp4(l:List I):2≤(X5 l).length∧(X5 l).length≤5:=by
 have:=Zwg 3 l 0
 simp only[X5,Qx_,Qs_,Q1_];omega
theorem Zft(g:List Glass)(most:Int):∀(l:List RawFace) (i:Int) (out:List Face),((WF g most l i out).length:Int)≤max (out.length:Int) most
 | [],_,out=>by simp only[WF];omega
 | f::l,i,out=>by
   unfold WF
   by_cases h:(out.length:Int) < most
   ·rw[QH_ h,Qb_]
    have:=Zft g most l (i+1) (out++[ZdR f i g])
    simp only[Qx_,Qs_,Q1_] at this
    omega
   ·rw[QQ_ h,Qd_];omega
theorem Zwh(back:Int)(l:List RawFace)(g:List Glass)(most:Int)(h:0≤most):((Wm back l g most).faces.length:Int)≤most+1:=by
 have:=Zft g most l 0 []
 simp only[Q1_] at this
 unfold Wm Zla
 simp only
 cases (WF g most l 0 []).length==0|| !Wa (WF g most l 0 [])<;>simp only[Qb_,Qd_,Qx_,Qs_,Q1_]<;>omega
theorem ZsA(k:Nat)(l:List I)(i:Int):Zge (k+1) l i=bif decide (i < l.length)&&decide (i < 3) then Zp3 l i::Zge k l (i+1) else []:=rfl
theorem Zhm(k:Nat)(l:List I)(i z:Int):Wr (k+1) l i z=bif decide (i < l.length)&&decide (i < 4) then ZmP (l.getD i.toNat ⟨0⟩).n z::Wr k l (i+1) (w64 (w64 (z+1)+pick (w64 ((l.getD i.toNat ⟨0⟩).n.tdiv 2)) 327680)) else []:=rfl
theorem Znx(g:List Glass)(most:Int)(f:RawFace)(l:List RawFace)(i:Int)(out:List Face):WF g most (f::l) i out=bif decide ((out.length:Int) < most) then WF g most l (i+1) (out++[ZdR f i g]) else out:=rfl
theorem ZmQ(x:SysM):SysM.dec (SysM.enc x)=x:=by
 show (⟨Zc Surf.dec (x.surfs.map Surf.enc),x.op⟩:SysM)=x
 rw[Zu]
theorem Jk(l:List SysM):Zc SysM.dec (l.map SysM.enc)=l:=WA _ _ ZmQ l
theorem ZAF(x:I):I.dec (I.enc x)=x:=rfl
def ZrF:Pixel:=⟨Za0,Za0,0⟩
def ZfH(s:S3)(l:List Shape)(x y:Iv)(n:Int)(p:Pixel)(z:Cx):Pixel:=XD (XD (XD p (YS s.a l x y z n 0) 0) (YS s.b l x y z n 1) 1) (YS s.c l x y z n 2) 2
def Zfu(s:S3)(l:List Shape)(x y:Iv)(n:Int)(ds:List Cx)(p:Pixel):Pixel:=ds.foldl (ZfH s l x y n) p
def ZmR(pitch i w:Int):Iv:=times (point pitch) (IntKind.i64.wrap (IntKind.i64.wrap (IntKind.i64.wrap (2 *i)+1) - w))
def Zap(s:S3)(l:List Shape)(w h pitch n:Int)(ds:List Cx)(j i:Int):Pixel:=Zfu s l (ZmR pitch i w) (ZmR pitch j h) n ds ZrF
def Zbq(f:Int→Pixel):Nat→Int→List Pixel
 | 0,_=>[]
 | k+1,i=>f i::Zbq f k (i+1)
def JM(f:Int→Int→Pixel)(w:Int):Nat→Int→List Pixel
 | 0,_=>[]
 | k+1,j=>Zbq (f j) w.toNat 0++JM f w k (j+1)
theorem Zju(f:Int→Pixel):∀(k:Nat) (i:Int),(Zbq f k i).length=k
 | 0,_=>rfl
 | k+1,i=>by simp only[Zbq,Qs_,Zju f k]
theorem ZsB(f:Int→Int→Pixel)(w:Int):∀(k:Nat) (j:Int),(JM f w k j).length=k *w.toNat
 | 0,_=>by simp[JM]
 | k+1,j=>by simp only[JM,Qx_,Zju,ZsB f w k];rw[Kq_];omega
def WO(s:SysM):Bool:=(s.surfs.length:Int)==0
def Jo(s:S3)(l:List Shape)(w h pitch n:Int)(ds:List Cx):Bool:=
 Y6 l&&(YU w h&&(ZX pitch 1 1048576&&(ZX n 1 16&&(!decide ((ds.length:Int) > 16)&&(!(ds.any fun z=> !YB z n)&& !([s.a,s.b,s.c].any WO))))))
def Z0(s:S3)(l:List Shape)(w h pitch n:Int)(ds:List Cx):List Pixel×Int:=
 bif Jo s l w h pitch n ds then (JM (Zap s l w h pitch n ds) w h.toNat 0,0) else ([],1)
def Za4(z:Cx):Pair:=⟨Yi z.re,Yi z.im⟩
def Zgf(s:S3)(l:List Shape)(x y:Iv)(n:Int)(p:Pixel)(z:Pair):Pixel:=XD (XD (XD p (Yc s.a l x y z n 0) 0) (Yc s.b l x y z n 1) 1) (Yc s.c l x y z n 2) 2
def Zlb(s:S3)(l:List Shape)(x y:Iv)(n:Int)(ds:List Pair)(p:Pixel):Pixel:=ds.foldl (Zgf s l x y n) p
def Zgg(s:S3)(l:List Shape)(w h pitch n:Int)(ds:List Pair)(j i:Int):Pixel:=Zlb s l (ZmR pitch i w) (ZmR pitch j h) n ds ZrF
theorem Zzl{z:Cx}{n:Int}(hn:ZX n 1 16=true):YB z n=(XC z&&(!decide (Yi z.re < IntKind.i64.wrap (0 - n))&&(!decide (Yi z.re≥n)&&(!decide (Yi z.im < IntKind.i64.wrap (0 - n))&& !decide (Yi z.im≥n))))):=by
 simp only[ZX,Qh_,Qc_] at hn
 unfold YB ZX
 rw[XA (by constructor<;>omega),Zg (by constructor<;>omega)]
 cases XC z
 ·rfl
 ·simp only[Qp_]
  by_cases h1:Yi z.re < -n
  ·rw[QH_ h1,QQ_ (by omega:¬-n≤Yi z.re)];rfl
  ·rw[QQ_ h1,QH_ (by omega: -n≤Yi z.re)]
   by_cases h2:Yi z.re≥n
   ·rw[QH_ h2,QQ_ (by omega:¬Yi z.re≤n - 1)];rfl
   ·rw[QQ_ h2,QH_ (by omega:Yi z.re≤n - 1)]
    by_cases h3:Yi z.im < -n
    ·rw[QH_ h3,QQ_ (by omega:¬-n≤Yi z.im)];rfl
    ·rw[QQ_ h3,QH_ (by omega: -n≤Yi z.im)]
     by_cases h4:Yi z.im≥n
     ·rw[QH_ h4,QQ_ (by omega:¬Yi z.im≤n - 1)];rfl
     ·rw[QQ_ h4,QH_ (by omega:Yi z.im≤n - 1)];rfl
theorem ZrG{z:Cx}(hz:XC z=true)(s:SysM)(l:List Shape)(x y:Iv)(n:Int)(c:Nat):Yc s l x y (Za4 z) n c=YS s l x y z n c:=by
 unfold Yc YS WE WD Za4
 rw[hz,Qr_]
theorem Zwi(s:S3)(l:List Shape)(x y:Iv)(n:Int):∀(ds:List Cx) (p:Pixel),(∀z∈ds,XC z=true)→Zlb s l x y n (ds.map Za4) p=Zfu s l x y n ds p
 | [],_,_=>rfl
 | z::ds,p,h=>by
   have hz:=h z Qv_
   show Zlb s l x y n (ds.map Za4) (Zgf s l x y n p (Za4 z))=Zfu s l x y n ds (ZfH s l x y n p z)
   rw[Zwi s l x y n ds _ (fun z' h'=>h z' (Qq_ _ h'))]
   congr 1
   unfold Zgf ZfH
   rw[ZrG hz,ZrG hz,ZrG hz]
theorem Z7E(s:S3)(l:List Shape)(w h pitch n:Int)(ds:List Cx)(ha:(ds.any fun z=> !YB z n)=false):Zgg s l w h pitch n (ds.map Za4)=Zap s l w h pitch n ds:=by
 funext j i
 refine Zwi _ _ _ _ _ _ _ fun z hz=>?_
 rw[List.any_eq_false] at ha
 have:=ha z hz
 simp only[Qi_,Qf_] at this
 cases hw:XC z
 ·unfold YB at this;rw[hw] at this;exact absurd rfl this
 ·rfl
structure Bld where
 txt:List UInt8
def unbytes(l:List (List PV)):List UInt8:=l.map fun x=>UInt8.ofNat (intOf (x.headD .nil)).toNat
def Bld.enc(x:Bld):List PV:=[.bld true,.lst (ZK x.txt)]
def Bld.dec(p:List PV):Bld:=⟨unbytes (ZbO (p.tail.headD .nil))⟩
theorem ZnT(t:List UInt8):unbytes (ZK t)=t:=by
 unfold unbytes ZK
 rw[List.map_map]
 conv=>rhs;rw[←List.map_id t]
 refine List.map_congr_left fun b _=>?_
 show UInt8.ofNat ((b.toNat:Int)).toNat=b
 simp
theorem Zp5(a b:List UInt8):ZK a++ZK b=ZK (a++b):=by unfold ZK;rw[QR_]
theorem Zp6(a:List UInt8):(ZK a).length=a.length:=by unfold ZK;rw[Qk_]
theorem Zzm(a:List UInt8):Lens 1 (ZK a):=fun x hx=>by
 unfold ZK at hx
 obtain ⟨b,_,rfl⟩:=Kv_.1 hx
 rfl
theorem Zlc:∀(a:List UInt8),bytesOf (ZK a)=some a
 | []=>rfl
 | b::a=>by
   show (bif decide ((0:Int)≤(b.toNat:Int))&&decide ((b.toNat:Int) < 256) then (match bytesOf (ZK a) with | some l=>some (UInt8.ofNat ((b.toNat:Int)).toNat::l) | none=>none) else none)=some (b::a)
   have h1:(b.toNat:Int) < 256:=by have:=b.toNat_lt;omega
   rw[QH_ (by omega:(0:Int)≤(b.toNat:Int)),QH_ h1,Zlc a]
   simp
def Zbr(d:Int):Int:=bif ZX d 1 16 then 2 *d else 0
def Xt(p:Pixel)(c:Nat)(tw:Int):Int:=floor (ZhJ p.lo c+ZhJ p.hi c) tw
def JN(tw:Int)(p:Pixel):List UInt8:=digits (Xt p 0 tw)++[32]++(digits (Xt p 1 tw)++[32])++(digits (Xt p 2 tw)++[10])
def Zub(w h:Int):List UInt8:=[80,51,10]++digits w++[32]++digits h++[10,50,53,53,10]
def X0(ps:List Pixel)(w h d:Int):List UInt8:=bif YU w h&&(ps.length:Int)==w *h then Zub w h++(ps.map (JN (Zbr d))).flatten else []
def X4(p:Pixel):Prop:=((0≤p.lo.a∧p.lo.a≤1000000)∧(0≤p.lo.b∧p.lo.b≤1000000)∧(0≤p.lo.c∧p.lo.c≤1000000))∧((0≤p.hi.a∧p.hi.a≤1000000)∧(0≤p.hi.b∧p.hi.b≤1000000)∧(0≤p.hi.c∧p.hi.c≤1000000))
theorem Zld:∀(f n:Nat),digs f n=Zbp f n
 | 0,_=>rfl
 | f+1,n=>by
   unfold digs Zbp
   rw[Zld f (n / 10)]
   cases hb:Nat.blt n 10 with
   | true=>
     have h:n < 10:=Qm_ hb
     rw[QH_ h]
   | false=>
     have h:¬n < 10:=fun h=>by
      have h2:Nat.blt n 10=true:=QF_ h
      rw[h2] at hb;exact absurd hb (by simp)
     rw[QQ_ h]
theorem Zzn{n:Int}(h: -1000000000000000000≤n∧n≤1000000000000000000):Zrz [.v (.int .i64 n)]=some (.str (digits n)):=by
 cases n with
 | ofNat m=>
   have hm:(m:Int)≤1000000000000000000:=h.2
   have hb:Nat.blt m 9223372036854775808=true:=QF_ (by omega)
   show (bif Nat.blt m 9223372036854775808 then some (PV.str (digs 20 m)) else none)=_
   rw[hb,Qb_,Zld,Zhl 18 m (by omega)]
   unfold digits
   rw[QQ_ (show ¬(Int.ofNat m < 0) from fun h=>absurd h (by simp))];rfl
 | negSucc m=>
   have hm: -1000000000000000000≤Int.negSucc m:=h.1
   have hb:Nat.blt m 9223372036854775808=true:=QF_ (by omega)
   show (bif Nat.blt m 9223372036854775808 then some (PV.str (45::digs 20 (m+1))) else none)=_
   rw[hb,Qb_,Zld,Zhl 18 (m+1) (by omega)]
   unfold digits
   rw[QH_ (by omega:Int.negSucc m < 0)];rfl
theorem Z9Q(t:List UInt8):(Bld.dec [.bld true,.lst (ZK t)]).txt=t:=ZnT t
theorem Z7F(t:List UInt8):Zib (ZK t)=t:=by unfold Zib;rw[Zlc];rfl
theorem ZaY{p:Pixel}(hb:X4 p){tw:Int}(h:0≤tw)(c:Nat):0≤Xt p c tw∧Xt p c tw≤2000000:=by
 obtain ⟨⟨b1,b2,b3⟩,b4,b5,b6⟩:=hb
 have hs:0≤ZhJ p.lo c+ZhJ p.hi c∧ZhJ p.lo c+ZhJ p.hi c≤2000000:=by
  match c with
  | 0=>show 0≤p.lo.a+p.hi.a∧p.lo.a+p.hi.a≤2000000;omega
  | 1=>show 0≤p.lo.b+p.hi.b∧p.lo.b+p.hi.b≤2000000;omega
  | _+2=>show 0≤p.lo.c+p.hi.c∧p.lo.c+p.hi.c≤2000000;omega
 unfold Xt floor
 rw[KC_ _ h]
 exact ⟨Int.ediv_nonneg hs.1 h,Int.le_trans (Int.ediv_le_self _ hs.1) hs.2⟩
theorem ZsC(tw:Int)(p:Pixel):(JN tw p).length≤63:=by
 have d0:=ZI (Xt p 0 tw)
 have d1:=ZI (Xt p 1 tw)
 have d2:=ZI (Xt p 2 tw)
 simp only[JN,Qx_,Qs_,Q1_];omega
theorem Zgh{w h:Int}(hs:YU w h=true):(1≤w∧w≤16)∧(1≤h∧h≤16):=by
 unfold YU ZX at hs
 simp only[Qh_,Qc_] at hs
 exact hs
theorem Z06{w h:Int}(hs:YU w h=true):1≤w *h∧w *h≤256:=by
 obtain ⟨h1,h2⟩:=Zgh hs
 have a1:w *h≤16 *h:=Ks_ h1.2 (by omega)
 have a2:1 *h≤w *h:=Ks_ h1.1 (by omega)
 omega
theorem Z5o(p:Pixel)(c:Nat):Xt p c 0=0:=by unfold Xt floor;simp
theorem Z9R{d:Int}(h1:decide (d≥1)=true)(h2:decide (d≤16)=true):Zbr d=2 *d:=by
 unfold Zbr ZX
 rw[show decide (1≤d)=true from h1,h2];rfl
theorem Z9S{d:Int}(h1:decide (d≥1)=false):Zbr d=0:=by
 unfold Zbr ZX
 rw[show decide (1≤d)=false from h1];rfl
theorem Z9T{d:Int}(h1:decide (d≤16)=false):Zbr d=0:=by
 unfold Zbr ZX
 rw[h1,Qn_];rfl
theorem Z7G(w h:Int):YU w h=(!decide (w < 1)&&(!decide (w > 16)&&(!decide (h < 1)&& !decide (h > 16)))):=by
 have e:∀a b:Int,decide (a≤b)= !decide (b < a):=fun a b=>by
  by_cases h:a≤b
  ·rw[QH_ h,QQ_ (by omega)];rfl
  ·rw[QQ_ h,QH_ (by omega)];rfl
 unfold YU ZX
 rw[e 1 w,e w 16,e 1 h,e h 16]
 show _=(!decide (w < 1)&&(!decide (16 < w)&&(!decide (h < 1)&& !decide (16 < h))))
 rw[Bool.and_assoc]
def Zuc(l:List I)(n i:Int):Cx:=ZDi (IntKind.i64.wrap (pick (l.getD i.toNat ⟨0⟩).n (IntKind.i64.wrap (2 *n)) - n)) (IntKind.i64.wrap (pick (w64 ((l.getD i.toNat ⟨0⟩).n.tdiv 40)) (IntKind.i64.wrap (2 *n)) - n))
def Zak(n:Int):Nat→List I→Int→List Cx
 | 0,_,_=>[]
 | k+1,l,i=>bif decide (i < l.length)&&decide (i < 5) then Zuc l n i::Zak n k l (i+1) else []
theorem Zgi(n:Int)(k:Nat)(l:List I)(i:Int):Zak n (k+1) l i=bif decide (i < l.length)&&decide (i < 5) then Zuc l n i::Zak n k l (i+1) else []:=rfl
theorem Zny(n:Int):∀(k:Nat) (l:List I) (i:Int),(Zak n k l i).length≤k
 | 0,_,_=>Q2_ _
 | k+1,l,i=>by
   rw[Zgi]
   cases decide (i < l.length)&&decide (i < 5)<;>simp only[Qb_,Qd_,Qs_,Q1_]
   ·omega
   ·have:=Zny n k l (i+1);omega
def Zp7(l:List I)(n:Int):List Cx:=Zak n 5 l 0
def Z7H(back:Int)(l:List RawFace)(most:Int)(plain:Bool)(k:Int):SysM:=ZaX (IntKind.i64.wrap (IntKind.i64.wrap (IntKind.i64.wrap (back.tdiv 3)*3)+k)) l [] most plain
def Zgj(back:Int)(l:List RawFace)(most:Int)(plain:Bool):S3:=⟨Z7H back l most plain 0,Z7H back l most plain 1,Z7H back l most plain 2⟩
def Z1M:SysM:=⟨(straight [⟨1⟩]).surfs,whole 4⟩
def open3:S3:=⟨Z1M,Z1M,Z1M⟩
def wallL:List Shape:=[⟨2,⟨0,0⟩,⟨0,0⟩,⟨50,0⟩,⟨0,0⟩,⟨10,20,30⟩⟩]
def ZnU(p:Pixel)(m:Int):Prop:=((0≤p.lo.a∧p.lo.a≤m)∧(0≤p.lo.b∧p.lo.b≤m)∧(0≤p.lo.c∧p.lo.c≤m))∧((0≤p.hi.a∧p.hi.a≤m)∧(0≤p.hi.b∧p.hi.b≤m)∧(0≤p.hi.c∧p.hi.c≤m))
def Zud(g:A3):Prop:=(0≤g.a∧g.a≤255)∧(0≤g.b∧g.b≤255)∧(0≤g.c∧g.c≤255)
theorem Zle{n:Int}(h:ZS n=true):0≤n∧n≤255:=by
 unfold ZS at h
 simp only[Qh_,Qc_] at h
 exact h
theorem Z1N{s:Shape}(h:Z6 s=true):Zud s.glow:=by
 unfold Z6 at h
 simp only[Qh_] at h
 exact ⟨Zle h.1.1,Zle h.1.2.1,Zle h.1.2.2⟩
theorem Z5p{l:List Shape}(h:Y6 l=true)(k:Int):Zud (Zpv l k):=by
 unfold Y6 at h
 simp only[Qh_,QK_] at h
 unfold Zpv
 rw[Q7_,Q6_]
 cases hk:l[k.toNat]? with
 | none=>exact ⟨by decide,by decide,by decide⟩
 | some s=>exact Z1N (h.2 s (Qz_ hk))
theorem Z9U{l:List Shape}(h:Y6 l=true)(s:SysM)(r:Ray)(c:Nat):(0≤(XS s l r c).1∧(XS s l r c).1≤255)∧(0≤(XS s l r c).2.1∧(XS s l r c).2.1≤255):=by
 have hg:=Z5p h (nearest l (trace s r).r).1
 have hA:∀g:A3,Zud g→0≤ZhJ g c∧ZhJ g c≤255:=fun g hg=>by
  match c with
  | 0=>exact hg.1
  | 1=>exact hg.2.1
  | _+2=>exact hg.2.2
 have hZ:Zud Za0:=⟨by decide,by decide,by decide⟩
 unfold XS Yz
 cases (trace s r).kind==2<;>cases (trace s r).kind==3<;>cases (nearest l (trace s r).r).2.2==1<;>cases (nearest l (trace s r).r).2.2==2<;>simp only[Qb_,Qd_]<;>first | exact ⟨hA _ hg,hA _ hg⟩ | exact ⟨hA _ hZ,hA _ hZ⟩ | exact ⟨by decide,by decide⟩
theorem ZnV{l:List Shape}(h:Y6 l=true)(s:SysM)(x y:Iv)(z:Cx)(n:Int)(c:Nat):(0≤(YS s l x y z n c).1∧(YS s l x y z n c).1≤255)∧(0≤(YS s l x y z n c).2.1∧(YS s l x y z n c).2.1≤255):=by
 unfold YS
 cases (WD s x y z n).2<;>simp only[Qb_,Qd_]
 ·exact ⟨by decide,by decide⟩
 ·exact Z9U h _ _ _
theorem Zlf{p:Pixel}{m:Int}(hp:ZnU p m)(hm:0≤m∧m≤1000000000){v:Int×Int×Bool}(h1:0≤v.1∧v.1≤255)(h2:0≤v.2.1∧v.2.1≤255)(c:Nat):ZnU (XD p v c) (m+255):=by
 obtain ⟨⟨b1,b2,b3⟩,b4,b5,b6⟩:=hp
 have hw:∀x y:Int,0≤x∧x≤m→0≤y∧y≤255→0≤IntKind.i64.wrap (x+y)∧IntKind.i64.wrap (x+y)≤m+255:=fun x y hx hy=>by
  rw[Zg (by constructor<;>omega)];omega
 have hk:∀x:Int,0≤x∧x≤m→0≤x∧x≤m+255:=fun x hx=>by omega
 match c with
 | 0=>exact ⟨⟨hw _ _ b1 h1,hk _ b2,hk _ b3⟩,hw _ _ b4 h2,hk _ b5,hk _ b6⟩
 | 1=>exact ⟨⟨hk _ b1,hw _ _ b2 h1,hk _ b3⟩,hk _ b4,hw _ _ b5 h2,hk _ b6⟩
 | _+2=>exact ⟨⟨hk _ b1,hk _ b2,hw _ _ b3 h1⟩,hk _ b4,hk _ b5,hw _ _ b6 h2⟩
theorem Z1O{l:List Shape}(hl:Y6 l=true){p:Pixel}{m:Int}(hp:ZnU p m)(hm:0≤m∧m≤100000000)(s:S3)(x y:Iv)(n:Int)(z:Cx):ZnU (ZfH s l x y n p z) (m+765):=by
 have d0:=ZnV hl s.a x y z n 0
 have d1:=ZnV hl s.b x y z n 1
 have d2:=ZnV hl s.c x y z n 2
 have:=Zlf (Zlf (Zlf hp (by omega) d0.1 d0.2 0) (by omega) d1.1 d1.2 1) (by omega) d2.1 d2.2 2
 rw[show m+765=m+255+255+255 by omega]
 exact this
theorem Zwj{l:List Shape}(hl:Y6 l=true)(s:S3)(x y:Iv)(n:Int):∀(ds:List Cx) {p:Pixel} {m:Int},ZnU p m→0≤m→m+765 *ds.length≤100000000→ZnU (Zfu s l x y n ds p) (m+765 *ds.length)
 | [],p,m,hp,_,_=>by simpa [Zfu] using hp
 | z::ds,p,m,hp,h0,hm=>by
   simp only[Qs_] at hm
   have:=Zwj hl s x y n ds (Z1O hl hp (by omega) s x y n z) (by omega) (by omega)
   show ZnU (Zfu s l x y n ds (ZfH s l x y n p z)) _
   rw[show m+765 * ((z::ds).length:Int)=m+765+765 *ds.length by simp only[Qs_];omega]
   exact this
theorem Zwk{f:Int→Pixel}{q:Pixel→Prop}(h:∀i,q (f i)):∀(k:Nat) (i:Int),∀p∈Zbq f k i,q p
 | 0,_,p,hp=>absurd hp (by simp[Zbq])
 | k+1,i,p,hp=>by
   rcases Q9_.1 hp with e | hp
   ·subst e;exact h i
   ·exact Zwk h k (i+1) p hp
theorem ZsD{f:Int→Int→Pixel}{q:Pixel→Prop}(h:∀j i,q (f j i))(w:Int):∀(k:Nat) (j:Int),∀p∈JM f w k j,q p
 | 0,_,p,hp=>absurd hp (by simp[JM])
 | k+1,j,p,hp=>by
   rcases Kw_.1 hp with hp | hp
   ·exact Zwk (h j) _ _ p hp
   ·exact ZsD h w k (j+1) p hp
theorem ZsE(s:S3)(l:List Shape)(w h pitch n:Int)(ds:List Cx):∀p∈(Z0 s l w h pitch n ds).1,X4 p:=by
 intro p hp
 unfold Z0 at hp
 cases hR:Jo s l w h pitch n ds with
 | false=>rw[hR] at hp;exact absurd hp (by simp)
 | true=>
   rw[hR] at hp
   unfold Jo at hR
   simp only[Qh_,Qi_,Qe_] at hR
   obtain ⟨r1,r2,r3,r4,r5,_⟩:=hR
   refine ZsD (q:=X4) (fun j i=>?_) w _ _ p hp
   have:=Zwj r1 s (ZmR pitch i w) (ZmR pitch j h) n ds (p:=ZrF) (m:=0) ⟨⟨by decide,by decide,by decide⟩,by decide,by decide,by decide⟩ (by omega) (by omega)
   obtain ⟨⟨b1,b2,b3⟩,b4,b5,b6⟩:=this
   exact ⟨⟨by unfold Zap;omega,by unfold Zap;omega,by unfold Zap;omega⟩,by unfold Zap;omega,by unfold Zap;omega,by unfold Zap;omega⟩
theorem Zzo(s:S3)(l:List Shape)(w h pitch n:Int)(ds:List Cx):(Z0 s l w h pitch n ds).1.length≤256:=by
 unfold Z0
 cases hR:Jo s l w h pitch n ds with
 | false=>simp
 | true=>
   unfold Jo at hR
   simp only[Qh_] at hR
   obtain ⟨h1,h2⟩:=Zgh hR.2.1
   simp only[Qb_,ZsB]
   have a1:h.toNat *w.toNat≤16 *w.toNat:=Kb_ _ (by omega)
   omega
theorem Z1P(l:LensM)(g:List Glass)(w:Iv):(Za2 l g w).1.surfs.length≤12:=by
 unfold Za2
 cases h:Ji l g<;>simp only[Qb_,Qd_]
 ·exact K1_ _
 ·cases Za1 (Zgd l g w)<;>simp only[Qb_,Qd_]
  ·exact K1_ _
  ·unfold Zgd
   simp only[Zee]
   exact (Za3 h).2
theorem ZdS(back:Int)(l:List RawFace)(raw:List I)(most:Int)(plain:Bool):(ZaX back l raw most plain).surfs.length≤12:=Z1P _ _ _
theorem Zzp(back:Int)(l:List RawFace)(most:Int)(plain:Bool):(Zgj back l most plain).a.surfs.length≤12∧(Zgj back l most plain).b.surfs.length≤12∧(Zgj back l most plain).c.surfs.length≤12:=⟨ZdS _ _ _ _ _,ZdS _ _ _ _ _,ZdS _ _ _ _ _⟩
theorem Z1Q(l:List I)(n:Int):(Zp7 l n).length≤5:=Zny n 5 l 0
theorem Z7I{α:Type}(d:List PV→α)(xs:List (List PV)):(Zc d xs).length=xs.length:=by unfold Zc;rw[Qk_]
theorem ZAG(d:List Cx)(a b:Nat):Zc Cx.dec (d.map Cx.enc++[[.v (.complex .f64 a b)]])=d++[⟨a,b⟩]:=by
 have:=dCx (d++[⟨a,b⟩])
 rw[QR_] at this
 exact this
theorem ZaZ{α:Type}[BEq α][ReflBEq α]{a:α}(h:(a==a)=false):False:=by rw[beq_self_eq_true] at h;exact absurd h (by decide)
end Go.Men
namespace Go.Ev
abbrev U2{T0 T1 R:Type}(f:T0→T1→R)(x:T0×T1):R:=f x.1 x.2
abbrev V2{T0 T1 R:Type}(f:T0→T1→R)(x:T0×T1×Unit):R:=match x with | (a0,a1,_)=>f a0 a1
def cv2{T0 T1:Type}(x:T0×T1×Unit):T0×T1:=(x.1,x.2.1)
abbrev U3{T0 T1 T2 R:Type}(f:T0→T1→T2→R)(x:T0×T1×T2):R:=f x.1 x.2.1 x.2.2
abbrev V3{T0 T1 T2 R:Type}(f:T0→T1→T2→R)(x:T0×T1×T2×Unit):R:=match x with | (a0,a1,a2,_)=>f a0 a1 a2
def cv3{T0 T1 T2:Type}(x:T0×T1×T2×Unit):T0×T1×T2:=(x.1,x.2.1,x.2.2.1)
abbrev U4{T0 T1 T2 T3 R:Type}(f:T0→T1→T2→T3→R)(x:T0×T1×T2×T3):R:=f x.1 x.2.1 x.2.2.1 x.2.2.2
abbrev V4{T0 T1 T2 T3 R:Type}(f:T0→T1→T2→T3→R)(x:T0×T1×T2×T3×Unit):R:=match x with | (a0,a1,a2,a3,_)=>f a0 a1 a2 a3
def cv4{T0 T1 T2 T3:Type}(x:T0×T1×T2×T3×Unit):T0×T1×T2×T3:=(x.1,x.2.1,x.2.2.1,x.2.2.2.1)
abbrev U5{T0 T1 T2 T3 T4 R:Type}(f:T0→T1→T2→T3→T4→R)(x:T0×T1×T2×T3×T4):R:=f x.1 x.2.1 x.2.2.1 x.2.2.2.1 x.2.2.2.2
abbrev V5{T0 T1 T2 T3 T4 R:Type}(f:T0→T1→T2→T3→T4→R)(x:T0×T1×T2×T3×T4×Unit):R:=match x with | (a0,a1,a2,a3,a4,_)=>f a0 a1 a2 a3 a4
def cv5{T0 T1 T2 T3 T4:Type}(x:T0×T1×T2×T3×T4×Unit):T0×T1×T2×T3×T4:=(x.1,x.2.1,x.2.2.1,x.2.2.2.1,x.2.2.2.2.1)
abbrev U6{T0 T1 T2 T3 T4 T5 R:Type}(f:T0→T1→T2→T3→T4→T5→R)(x:T0×T1×T2×T3×T4×T5):R:=f x.1 x.2.1 x.2.2.1 x.2.2.2.1 x.2.2.2.2.1 x.2.2.2.2.2
abbrev V6{T0 T1 T2 T3 T4 T5 R:Type}(f:T0→T1→T2→T3→T4→T5→R)(x:T0×T1×T2×T3×T4×T5×Unit):R:=match x with | (a0,a1,a2,a3,a4,a5,_)=>f a0 a1 a2 a3 a4 a5
def cv6{T0 T1 T2 T3 T4 T5:Type}(x:T0×T1×T2×T3×T4×T5×Unit):T0×T1×T2×T3×T4×T5:=(x.1,x.2.1,x.2.2.1,x.2.2.2.1,x.2.2.2.2.1,x.2.2.2.2.2.1)
abbrev U8{T0 T1 T2 T3 T4 T5 T6 T7 R:Type}(f:T0→T1→T2→T3→T4→T5→T6→T7→R)(x:T0×T1×T2×T3×T4×T5×T6×T7):R:=f x.1 x.2.1 x.2.2.1 x.2.2.2.1 x.2.2.2.2.1 x.2.2.2.2.2.1 x.2.2.2.2.2.2.1 x.2.2.2.2.2.2.2
abbrev V8{T0 T1 T2 T3 T4 T5 T6 T7 R:Type}(f:T0→T1→T2→T3→T4→T5→T6→T7→R)(x:T0×T1×T2×T3×T4×T5×T6×T7×Unit):R:=match x with | (a0,a1,a2,a3,a4,a5,a6,a7,_)=>f a0 a1 a2 a3 a4 a5 a6 a7
def cv8{T0 T1 T2 T3 T4 T5 T6 T7:Type}(x:T0×T1×T2×T3×T4×T5×T6×T7×Unit):T0×T1×T2×T3×T4×T5×T6×T7:=(x.1,x.2.1,x.2.2.1,x.2.2.2.1,x.2.2.2.2.1,x.2.2.2.2.2.1,x.2.2.2.2.2.2.1,x.2.2.2.2.2.2.2.1)
abbrev U9{T0 T1 T2 T3 T4 T5 T6 T7 T8 R:Type}(f:T0→T1→T2→T3→T4→T5→T6→T7→T8→R)(x:T0×T1×T2×T3×T4×T5×T6×T7×T8):R:=f x.1 x.2.1 x.2.2.1 x.2.2.2.1 x.2.2.2.2.1 x.2.2.2.2.2.1 x.2.2.2.2.2.2.1 x.2.2.2.2.2.2.2.1 x.2.2.2.2.2.2.2.2
abbrev V9{T0 T1 T2 T3 T4 T5 T6 T7 T8 R:Type}(f:T0→T1→T2→T3→T4→T5→T6→T7→T8→R)(x:T0×T1×T2×T3×T4×T5×T6×T7×T8×Unit):R:=match x with | (a0,a1,a2,a3,a4,a5,a6,a7,a8,_)=>f a0 a1 a2 a3 a4 a5 a6 a7 a8
def cv9{T0 T1 T2 T3 T4 T5 T6 T7 T8:Type}(x:T0×T1×T2×T3×T4×T5×T6×T7×T8×Unit):T0×T1×T2×T3×T4×T5×T6×T7×T8:=(x.1,x.2.1,x.2.2.1,x.2.2.2.1,x.2.2.2.2.1,x.2.2.2.2.2.1,x.2.2.2.2.2.2.1,x.2.2.2.2.2.2.2.1,x.2.2.2.2.2.2.2.2.1)
abbrev U10{T0 T1 T2 T3 T4 T5 T6 T7 T8 T9 R:Type}(f:T0→T1→T2→T3→T4→T5→T6→T7→T8→T9→R)(x:T0×T1×T2×T3×T4×T5×T6×T7×T8×T9):R:=f x.1 x.2.1 x.2.2.1 x.2.2.2.1 x.2.2.2.2.1 x.2.2.2.2.2.1 x.2.2.2.2.2.2.1 x.2.2.2.2.2.2.2.1 x.2.2.2.2.2.2.2.2.1 x.2.2.2.2.2.2.2.2.2
abbrev V10{T0 T1 T2 T3 T4 T5 T6 T7 T8 T9 R:Type}(f:T0→T1→T2→T3→T4→T5→T6→T7→T8→T9→R)(x:T0×T1×T2×T3×T4×T5×T6×T7×T8×T9×Unit):R:=match x with | (a0,a1,a2,a3,a4,a5,a6,a7,a8,a9,_)=>f a0 a1 a2 a3 a4 a5 a6 a7 a8 a9
def ZAH{T0 T1 T2 T3 T4 T5 T6 T7 T8 T9:Type}(x:T0×T1×T2×T3×T4×T5×T6×T7×T8×T9×Unit):T0×T1×T2×T3×T4×T5×T6×T7×T8×T9:=(x.1,x.2.1,x.2.2.1,x.2.2.2.1,x.2.2.2.2.1,x.2.2.2.2.2.1,x.2.2.2.2.2.2.1,x.2.2.2.2.2.2.2.1,x.2.2.2.2.2.2.2.2.1,x.2.2.2.2.2.2.2.2.2.1)
abbrev U13{T0 T1 T2 T3 T4 T5 T6 T7 T8 T9 T10 T11 T12 R:Type}(f:T0→T1→T2→T3→T4→T5→T6→T7→T8→T9→T10→T11→T12→R)(x:T0×T1×T2×T3×T4×T5×T6×T7×T8×T9×T10×T11×T12):R:=f x.1 x.2.1 x.2.2.1 x.2.2.2.1 x.2.2.2.2.1 x.2.2.2.2.2.1 x.2.2.2.2.2.2.1 x.2.2.2.2.2.2.2.1 x.2.2.2.2.2.2.2.2.1 x.2.2.2.2.2.2.2.2.2.1 x.2.2.2.2.2.2.2.2.2.2.1 x.2.2.2.2.2.2.2.2.2.2.2.1 x.2.2.2.2.2.2.2.2.2.2.2.2
abbrev V13{T0 T1 T2 T3 T4 T5 T6 T7 T8 T9 T10 T11 T12 R:Type}(f:T0→T1→T2→T3→T4→T5→T6→T7→T8→T9→T10→T11→T12→R)(x:T0×T1×T2×T3×T4×T5×T6×T7×T8×T9×T10×T11×T12×Unit):R:=match x with | (a0,a1,a2,a3,a4,a5,a6,a7,a8,a9,a10,a11,a12,_)=>f a0 a1 a2 a3 a4 a5 a6 a7 a8 a9 a10 a11 a12
def ZDj{T0 T1 T2 T3 T4 T5 T6 T7 T8 T9 T10 T11 T12:Type}(x:T0×T1×T2×T3×T4×T5×T6×T7×T8×T9×T10×T11×T12×Unit):T0×T1×T2×T3×T4×T5×T6×T7×T8×T9×T10×T11×T12:=(x.1,x.2.1,x.2.2.1,x.2.2.2.1,x.2.2.2.2.1,x.2.2.2.2.2.1,x.2.2.2.2.2.2.1,x.2.2.2.2.2.2.2.1,x.2.2.2.2.2.2.2.2.1,x.2.2.2.2.2.2.2.2.2.1,x.2.2.2.2.2.2.2.2.2.2.1,x.2.2.2.2.2.2.2.2.2.2.2.1,x.2.2.2.2.2.2.2.2.2.2.2.2.1)
abbrev U14{T0 T1 T2 T3 T4 T5 T6 T7 T8 T9 T10 T11 T12 T13 R:Type}(f:T0→T1→T2→T3→T4→T5→T6→T7→T8→T9→T10→T11→T12→T13→R)(x:T0×T1×T2×T3×T4×T5×T6×T7×T8×T9×T10×T11×T12×T13):R:=f x.1 x.2.1 x.2.2.1 x.2.2.2.1 x.2.2.2.2.1 x.2.2.2.2.2.1 x.2.2.2.2.2.2.1 x.2.2.2.2.2.2.2.1 x.2.2.2.2.2.2.2.2.1 x.2.2.2.2.2.2.2.2.2.1 x.2.2.2.2.2.2.2.2.2.2.1 x.2.2.2.2.2.2.2.2.2.2.2.1 x.2.2.2.2.2.2.2.2.2.2.2.2.1 x.2.2.2.2.2.2.2.2.2.2.2.2.2
abbrev V14{T0 T1 T2 T3 T4 T5 T6 T7 T8 T9 T10 T11 T12 T13 R:Type}(f:T0→T1→T2→T3→T4→T5→T6→T7→T8→T9→T10→T11→T12→T13→R)(x:T0×T1×T2×T3×T4×T5×T6×T7×T8×T9×T10×T11×T12×T13×Unit):R:=match x with | (a0,a1,a2,a3,a4,a5,a6,a7,a8,a9,a10,a11,a12,a13,_)=>f a0 a1 a2 a3 a4 a5 a6 a7 a8 a9 a10 a11 a12 a13
def ZDk{T0 T1 T2 T3 T4 T5 T6 T7 T8 T9 T10 T11 T12 T13:Type}(x:T0×T1×T2×T3×T4×T5×T6×T7×T8×T9×T10×T11×T12×T13×Unit):T0×T1×T2×T3×T4×T5×T6×T7×T8×T9×T10×T11×T12×T13:=(x.1,x.2.1,x.2.2.1,x.2.2.2.1,x.2.2.2.2.1,x.2.2.2.2.2.1,x.2.2.2.2.2.2.1,x.2.2.2.2.2.2.2.1,x.2.2.2.2.2.2.2.2.1,x.2.2.2.2.2.2.2.2.2.1,x.2.2.2.2.2.2.2.2.2.2.1,x.2.2.2.2.2.2.2.2.2.2.2.1,x.2.2.2.2.2.2.2.2.2.2.2.2.1,x.2.2.2.2.2.2.2.2.2.2.2.2.2.1)
abbrev U19{T0 T1 T2 T3 T4 T5 T6 T7 T8 T9 T10 T11 T12 T13 T14 T15 T16 T17 T18 R:Type}(f:T0→T1→T2→T3→T4→T5→T6→T7→T8→T9→T10→T11→T12→T13→T14→T15→T16→T17→T18→R)(x:T0×T1×T2×T3×T4×T5×T6×T7×T8×T9×T10×T11×T12×T13×T14×T15×T16×T17×T18):R:=f x.1 x.2.1 x.2.2.1 x.2.2.2.1 x.2.2.2.2.1 x.2.2.2.2.2.1 x.2.2.2.2.2.2.1 x.2.2.2.2.2.2.2.1 x.2.2.2.2.2.2.2.2.1 x.2.2.2.2.2.2.2.2.2.1 x.2.2.2.2.2.2.2.2.2.2.1 x.2.2.2.2.2.2.2.2.2.2.2.1 x.2.2.2.2.2.2.2.2.2.2.2.2.1 x.2.2.2.2.2.2.2.2.2.2.2.2.2.1 x.2.2.2.2.2.2.2.2.2.2.2.2.2.2.1 x.2.2.2.2.2.2.2.2.2.2.2.2.2.2.2.1 x.2.2.2.2.2.2.2.2.2.2.2.2.2.2.2.2.1 x.2.2.2.2.2.2.2.2.2.2.2.2.2.2.2.2.2.1 x.2.2.2.2.2.2.2.2.2.2.2.2.2.2.2.2.2.2
abbrev V19{T0 T1 T2 T3 T4 T5 T6 T7 T8 T9 T10 T11 T12 T13 T14 T15 T16 T17 T18 R:Type}(f:T0→T1→T2→T3→T4→T5→T6→T7→T8→T9→T10→T11→T12→T13→T14→T15→T16→T17→T18→R)(x:T0×T1×T2×T3×T4×T5×T6×T7×T8×T9×T10×T11×T12×T13×T14×T15×T16×T17×T18×Unit):R:=match x with | (a0,a1,a2,a3,a4,a5,a6,a7,a8,a9,a10,a11,a12,a13,a14,a15,a16,a17,a18,_)=>f a0 a1 a2 a3 a4 a5 a6 a7 a8 a9 a10 a11 a12 a13 a14 a15 a16 a17 a18
def ZDl{T0 T1 T2 T3 T4 T5 T6 T7 T8 T9 T10 T11 T12 T13 T14 T15 T16 T17 T18:Type}(x:T0×T1×T2×T3×T4×T5×T6×T7×T8×T9×T10×T11×T12×T13×T14×T15×T16×T17×T18×Unit):T0×T1×T2×T3×T4×T5×T6×T7×T8×T9×T10×T11×T12×T13×T14×T15×T16×T17×T18:=(x.1,x.2.1,x.2.2.1,x.2.2.2.1,x.2.2.2.2.1,x.2.2.2.2.2.1,x.2.2.2.2.2.2.1,x.2.2.2.2.2.2.2.1,x.2.2.2.2.2.2.2.2.1,x.2.2.2.2.2.2.2.2.2.1,x.2.2.2.2.2.2.2.2.2.2.1,x.2.2.2.2.2.2.2.2.2.2.2.1,x.2.2.2.2.2.2.2.2.2.2.2.2.1,x.2.2.2.2.2.2.2.2.2.2.2.2.2.1,x.2.2.2.2.2.2.2.2.2.2.2.2.2.2.1,x.2.2.2.2.2.2.2.2.2.2.2.2.2.2.2.1,x.2.2.2.2.2.2.2.2.2.2.2.2.2.2.2.2.1,x.2.2.2.2.2.2.2.2.2.2.2.2.2.2.2.2.2.1,x.2.2.2.2.2.2.2.2.2.2.2.2.2.2.2.2.2.2.1)
end Go.Ev
namespace Go.Men
open Go Go.Ev
structure Cd(α:Type) where
 enc:α→PV
 get:PV→Option (α×List Prop)
 ok:∀v a ps,get v=some (a,ps)→Yx ps→v=enc a
def ZnW(P:Program)(f:Nat)(pre:List PV)(k:List PV→List Prop→Option (PV×List Prop)):Prop:=∀l ps r qs,k l ps=some (r,qs)→Yx qs→Yx ps∧Con P f (pre++l) r
def Zue(P:Program)(f T:Nat)(pre:List PV)(k:List PV→List Prop→Option (PV×List Prop)):Prop:=∀l ps r qs,k l ps=some (r,qs)→Yx qs→Yx ps∧Zcf P f (pre++l) T r
def EA{α:Type}(c:Cd α)(k:α→List PV→List Prop→Option (PV×List Prop)):List PV→List Prop→Option (PV×List Prop)
 | x::r,ps=>match c.get x with
   | some (a,p)=>k a r (ps++p)
   | none=>none
 | [],_=>none
def EZ(v:PV)(c:List Prop):List PV→List Prop→Option (PV×List Prop)
 | [],ps=>some (v,ps++c)
 | _,_=>none
theorem Z5q{α:Type}{c:Cd α}{k:α→List PV→List Prop→Option (PV×List Prop)}{l:List PV}{ps qs:List Prop}{r:PV}(h:EA c k l ps=some (r,qs)):∃x t a p,l=x::t∧c.get x=some (a,p)∧k a t (ps++p)=some (r,qs):=by
 cases l with
 | nil=>cases h
 | cons x t=>
   cases hg:c.get x with
   | none=>simp only[EA,hg] at h;cases h
   | some y=>simp only[EA,hg] at h;exact ⟨x,t,y.1,y.2,rfl,hg,h⟩
theorem Zf{P:Program}{f:Nat}{α:Type}{c:Cd α}{pre:List PV}{k:α→List PV→List Prop→Option (PV×List Prop)}(h:∀a,ZnW P f (pre++[c.enc a]) (k a)):ZnW P f pre (EA c k):=fun l ps r qs hk hq=>by
 obtain ⟨x,t,a,p,rfl,hg,hk⟩:=Z5q hk
 obtain ⟨h1,h2⟩:=h a _ _ _ _ hk hq
 obtain ⟨h3,h4⟩:=W9 h1
 rw[←c.ok _ _ _ hg h4,QB_] at h2
 exact ⟨h3,h2⟩
theorem Zwl{P:Program}{f T:Nat}{α:Type}{c:Cd α}{pre:List PV}{k:α→List PV→List Prop→Option (PV×List Prop)}(h:∀a,Zue P f T (pre++[c.enc a]) (k a)):Zue P f T pre (EA c k):=fun l ps r qs hk hq=>by
 obtain ⟨x,t,a,p,rfl,hg,hk⟩:=Z5q hk
 obtain ⟨h1,h2⟩:=h a _ _ _ _ hk hq
 obtain ⟨h3,h4⟩:=W9 h1
 rw[←c.ok _ _ _ hg h4,QB_] at h2
 exact ⟨h3,h2⟩
theorem Zlg{v r:PV}{c ps qs:List Prop}{l:List PV}(h:EZ v c l ps=some (r,qs))(hq:Yx qs):l=[]∧r=v∧Yx ps∧Yx c:=by
 cases l with
 | nil=>cases h;exact ⟨rfl,rfl,W9 hq⟩
 | cons x t=>cases h
theorem EZ0{P:Program}{f:Nat}{pre:List PV}{v:PV}(h:Con P f pre v):ZnW P f pre (EZ v []):=fun l ps r qs hk hq=>by
 obtain ⟨rfl,rfl,h1,_⟩:=Zlg hk hq
 exact ⟨h1,by rw[QI_];exact h⟩
theorem EZ1{P:Program}{f:Nat}{pre:List PV}{v:PV}{p:Prop}(h:p→Con P f pre v):ZnW P f pre (EZ v [p]):=fun l ps r qs hk hq=>by
 obtain ⟨rfl,rfl,h1,h2⟩:=Zlg hk hq
 exact ⟨h1,by rw[QI_];exact h (h2 _ Qv_)⟩
theorem EZ2{P:Program}{f:Nat}{pre:List PV}{v:PV}{p q:Prop}(h:p→q→Con P f pre v):ZnW P f pre (EZ v [p,q]):=fun l ps r qs hk hq=>by
 obtain ⟨rfl,rfl,h1,h2⟩:=Zlg hk hq
 exact ⟨h1,by rw[QI_];exact h (h2 _ (by simp)) (h2 _ (by simp))⟩
theorem EZ3{P:Program}{f:Nat}{pre:List PV}{v:PV}{p q s:Prop}(h:p→q→s→Con P f pre v):ZnW P f pre (EZ v [p,q,s]):=fun l ps r qs hk hq=>by
 obtain ⟨rfl,rfl,h1,h2⟩:=Zlg hk hq
 exact ⟨h1,by rw[QI_];exact h (h2 _ (by simp)) (h2 _ (by simp)) (h2 _ (by simp))⟩
theorem ZAI{P:Program}{f T:Nat}{pre:List PV}{v:PV}{p:Prop}(h:p→Zcf P f pre T v):Zue P f T pre (EZ v [p]):=fun l ps r qs hk hq=>by
 obtain ⟨rfl,rfl,h1,h2⟩:=Zlg hk hq
 exact ⟨h1,by rw[QI_];exact h (h2 _ Qv_)⟩
theorem Zi{P:Program}{f:Nat}{k:List PV→List Prop→Option (PV×List Prop)}(h:ZnW P f [] k):Zh P f (fun l=>k l []):=fun args r ps hk hp=>(h _ _ _ _ hk hp).2
theorem Z07{P:Program}{f T:Nat}{k:List PV→List Prop→Option (PV×List Prop)}(h:Zue P f T [] k):ZvK P f (fun l=>k l []) T:=fun args r ps hk hp=>(h _ _ _ _ hk hp).2
def cI:Cd Int:=⟨fun n=> .v (.int .i64 n),fun v=>match v with | .v (.int .i64 n)=>some (n,[]) | _=>none,fun v a ps h _=>by split at h<;>cases h;rfl⟩
def cU:Cd Int:=⟨fun n=> .v (.int .u8 n),fun v=>match v with | .v (.int .u8 n)=>some (n,[]) | _=>none,fun v a ps h _=>by split at h<;>cases h;rfl⟩
def cB:Cd Bool:=⟨fun n=> .v (.bool n),fun v=>match v with | .v (.bool n)=>some (n,[]) | _=>none,fun v a ps h _=>by split at h<;>cases h;rfl⟩
def cS:Cd (List UInt8):=⟨fun n=> .str n,fun v=>match v with | .str n=>some (n,[]) | _=>none,fun v a ps h _=>by split at h<;>cases h;rfl⟩
def cF:Cd Nat:=⟨fun n=> .v (.float .f64 n),fun v=>match v with | .v (.float .f64 n)=>some (n,[]) | _=>none,fun v a ps h _=>by split at h<;>cases h;rfl⟩
def cX:Cd Cx:=⟨fun z=> .v (.complex .f64 z.re z.im),fun v=>match v with | .v (.complex .f64 a b)=>some (⟨a,b⟩,[]) | _=>none,fun v a ps h _=>by split at h<;>cases h;rfl⟩
def cL{α:Type}(e:α→List PV)(d:List PV→α):Cd (List α):=⟨fun l=> .lst (l.map e),fun v=>match v with | .lst xs=>some (Zc d xs,[xs=(Zc d xs).map e]) | _=>none,fun v a ps h hp=>by
 split at h<;>cases h
 exact Kl_ PV.lst (hp _ Qv_)⟩
def cG{α:Type}(e:α→List PV)(d:List PV→α):Cd α:=⟨fun x=> .agg (e x),fun v=>match v with | .agg xs=>some (d xs,[xs=e (d xs)]) | _=>none,fun v a ps h hp=>by
 split at h<;>cases h
 exact Kl_ PV.agg (hp _ Qv_)⟩
def cP{α:Type}(e:α→List PV)(d:List PV→α):Cd α:=⟨fun x=> .lptr (e x) 0,fun v=>match v with | .lptr xs 0=>some (d xs,[xs=e (d xs)]) | _=>none,fun v a ps h hp=>by
 split at h<;>cases h
 exact Kl_ (PV.lptr · 0) (hp _ Qv_)⟩
def cT{α:Type}(e:α→List PV)(g:List PV→Option α)(ok:∀l a,g l=some a→l=e a):Cd α:=⟨fun x=> .agg (e x),fun v=>match v with | .agg xs=>(match g xs with | some a=>some (a,[]) | none=>none) | _=>none,fun v a ps h _=>by
 split at h
 ·split at h
  ·rename_i xs b hb
   cases h
   exact Kl_ PV.agg (ok _ _ hb)
  ·cases h
 ·cases h⟩
def gIv:List PV→Option Iv | [.v (.int .i64 a),.v (.int .i64 b),.v (.bool c)]=>some ⟨a,b,c⟩ | _=>none
theorem J0(l:List PV)(a:Iv)(h:gIv l=some a):l=Iv.enc a:=by unfold gIv at h;split at h<;>cases h;rfl
def cIv:Cd Iv:=cT Iv.enc gIv J0
def gV:List PV→Option V | [.v (.int .i64 a),.v (.int .i64 b),.v (.bool c),.v (.int .i64 d),.v (.int .i64 e),.v (.bool f),.v (.int .i64 g),.v (.int .i64 h),.v (.bool i)]=>some ⟨⟨a,b,c⟩,⟨d,e,f⟩,⟨g,h,i⟩⟩ | _=>none
theorem ZCy(l:List PV)(a:V)(h:gV l=some a):l=V.enc a:=by unfold gV at h;split at h<;>cases h;rfl
def cV:Cd V:=cT V.enc gV ZCy
def Zwm:List PV→Option Ray | [.v (.int .i64 a),.v (.int .i64 b),.v (.bool c),.v (.int .i64 d),.v (.int .i64 e),.v (.bool f),.v (.int .i64 g),.v (.int .i64 h),.v (.bool i),.v (.int .i64 j),.v (.int .i64 k),.v (.bool l),.v (.int .i64 m),.v (.int .i64 n),.v (.bool o),.v (.int .i64 p),.v (.int .i64 q),.v (.bool r)]=>some ⟨⟨⟨a,b,c⟩,⟨d,e,f⟩,⟨g,h,i⟩⟩,⟨⟨j,k,l⟩,⟨m,n,o⟩,⟨p,q,r⟩⟩⟩ | _=>none
theorem ZrH(l:List PV)(a:Ray)(h:Zwm l=some a):l=Ray.enc a:=by unfold Zwm at h;split at h<;>cases h;rfl
def Zci:Cd Ray:=cT Ray.enc Zwm ZrH
def Zwn:List PV→Option Dec | [.v (.int .i64 a),.v (.int .i64 b)]=>some ⟨a,b⟩ | _=>none
theorem ZrI(l:List PV)(a:Dec)(h:Zwn l=some a):l=Dec.enc a:=by unfold Zwn at h;split at h<;>cases h;rfl
def Zgk:Cd Dec:=cT Dec.enc Zwn ZrI
def gSh:List PV→Option Shape | [.v (.int .i64 a),.v (.int .i64 b),.v (.int .i64 c),.v (.int .i64 d),.v (.int .i64 e),.v (.int .i64 f),.v (.int .i64 g),.v (.int .i64 h),.v (.int .i64 i),.v (.int .i64 j),.v (.int .i64 k),.v (.int .i64 l)]=>some ⟨a,⟨b,c⟩,⟨d,e⟩,⟨f,g⟩,⟨h,i⟩,⟨j,k,l⟩⟩ | _=>none
theorem ZAJ(l:List PV)(a:Shape)(h:gSh l=some a):l=Shape.enc a:=by unfold gSh at h;split at h<;>cases h;rfl
def cSh:Cd Shape:=cT Shape.enc gSh ZAJ
def vI(n:Int):PV:= .v (.int .i64 n)
def vB(b:Bool):PV:= .v (.bool b)
def pI(n:Int):AV:= .p (.v (.int .i64 n))
def eI1(n:Int):List PV:=[.v (.int .i64 n)]
def gI1:List PV→Option Int | [.v (.int .i64 a)]=>some a | _=>none
theorem Zwo(l:List PV)(a:Int)(h:gI1 l=some a):l=eI1 a:=by unfold gI1 at h;split at h<;>cases h;rfl
structure FD(β:Type) where
 t:β→List (Nat×AV)
 b:β→List (Nat×List PV)
 g:List (Nat×AV)→List (Nat×List PV)→Option (β×List Prop)
 ok:∀ts bs x ps,g ts bs=some (x,ps)→Yx ps→ts=t x∧bs=b x
def fZ:FD Unit:=⟨fun _=>[],fun _=>[],fun ts bs=>match ts,bs with | [],[]=>some ((),[]) | _,_=>none,fun ts bs x ps h _=>by split at h<;>cases h;exact ⟨rfl,rfl⟩⟩
theorem fx{β α:Type}{o:Option (β×List Prop)}{p ps:List Prop}{a:α}{x:α×β}(h:(match o with | some (y,q)=>some ((a,y),p++q) | none=>none)=some (x,ps))(hp:Yx ps):x.1=a∧Yx p∧∃q,o=some (x.2,q)∧Yx q:=by
 cases o with
 | none=>cases h
 | some y=>
   cases h
   exact ⟨rfl,(W9 hp).1,y.2,rfl,(W9 hp).2⟩
def fT{α β:Type}(i:Nat)(c:Cd α)(r:FD β):FD (α×β):=⟨fun y=>(i,.p (c.enc y.1))::r.t y.2,fun y=>r.b y.2,fun ts bs=>match ts with
 | (j,.p v)::ts=>bif Nat.beq j i then (match c.get v with
   | some (a,p)=>(match r.g ts bs with | some (y,q)=>some ((a,y),p++q) | none=>none)
   | none=>none) else none
 | _=>none,fun ts bs x ps h hp=>by
 split at h
 ·rename_i j v ts
  cases hb:Nat.beq j i with
  | false=>rw[hb] at h;cases h
  | true=>
    rw[hb,Qb_] at h
    split at h
    ·rename_i a p hg
     obtain ⟨h1,h2,q,h3,h4⟩:=fx h hp
     obtain ⟨k1,k2⟩:=r.ok _ _ _ _ h3 h4
     rw[c.ok _ _ _ hg h2,h1,k1,k2,Qj_ hb]
     exact ⟨rfl,rfl⟩
    ·cases h
 ·cases h⟩
def fP{β:Type}(i n off:Nat)(r:FD β):FD β:=⟨fun y=>(i,.ptr n off)::r.t y,r.b,fun ts bs=>match ts with
 | (j,.ptr m o)::ts=>bif Nat.beq j i&&(Nat.beq m n&&Nat.beq o off) then r.g ts bs else none
 | _=>none,fun ts bs x ps h hp=>by
 split at h
 ·rename_i j m o ts
  cases hb:(Nat.beq j i&&(Nat.beq m n&&Nat.beq o off)) with
  | false=>rw[hb] at h;cases h
  | true=>
    rw[hb,Qb_] at h
    simp only[Qh_] at hb
    obtain ⟨k1,k2⟩:=r.ok _ _ _ _ h hp
    rw[k1,k2,Qj_ hb.1,Qj_ hb.2.1,Qj_ hb.2.2]
    exact ⟨rfl,rfl⟩
 ·cases h⟩
def fB{α β:Type}(i:Nat)(e:α→List PV)(d:List PV→α)(r:FD β):FD (α×β):=⟨fun y=>r.t y.2,fun y=>(i,e y.1)::r.b y.2,fun ts bs=>match bs with
 | (j,v)::bs=>bif Nat.beq j i then (match r.g ts bs with | some (y,q)=>some ((d v,y),[v=e (d v)]++q) | none=>none) else none
 | _=>none,fun ts bs x ps h hp=>by
 split at h
 ·rename_i j v bs
  cases hb:Nat.beq j i with
  | false=>rw[hb] at h;cases h
  | true=>
    rw[hb,Qb_] at h
    obtain ⟨h1,h2,q,h3,h4⟩:=fx h hp
    obtain ⟨k1,k2⟩:=r.ok _ _ _ _ h3 h4
    have h5:v=e (d v):=h2 _ Qv_
    rw[h1,←h5,k1,k2,Qj_ hb]
    exact ⟨rfl,rfl⟩
 ·cases h⟩
def fb{α β:Type}(i:Nat)(e:α→List PV)(gc:List PV→Option α)(ok:∀l a,gc l=some a→l=e a)(r:FD β):FD (α×β):=⟨fun y=>r.t y.2,fun y=>(i,e y.1)::r.b y.2,fun ts bs=>match bs with
 | (j,v)::bs=>bif Nat.beq j i then (match gc v with
   | some a=>(match r.g ts bs with | some (y,q)=>some ((a,y),[]++q) | none=>none)
   | none=>none) else none
 | _=>none,fun ts bs x ps h hp=>by
 split at h
 ·rename_i j v bs
  cases hb:Nat.beq j i with
  | false=>rw[hb] at h;cases h
  | true=>
    rw[hb,Qb_] at h
    split at h
    ·rename_i a hg
     obtain ⟨h1,h2,q,h3,h4⟩:=fx h hp
     obtain ⟨k1,k2⟩:=r.ok _ _ _ _ h3 h4
     rw[h1,ok _ _ hg,k1,k2,Qj_ hb]
     exact ⟨rfl,rfl⟩
    ·cases h
 ·cases h⟩
def nsB:List Nat→List Nat→Bool
 | [],[]=>true
 | a::r,b::s=>Nat.beq a b&&nsB r s
 | _,_=>false
theorem Z5r:∀{l m:List Nat},nsB l m=true→l=m
 | [],[],_=>rfl
 | a::r,b::s,h=>by
   simp only[nsB,Qh_] at h
   rw[Qj_ h.1,Z5r h.2]
 | [],_::_,h=>by cases h
 | _::_,[],h=>by cases h
def owB:List (Ev.Loc×Nat)→List (Ev.Loc×Nat)→Bool
 | [],[]=>true
 | (a,x)::r,(b,y)::s=>(a.eq b&&Nat.beq x y)&&owB r s
 | _,_=>false
theorem Z5s:∀{l m:List (Ev.Loc×Nat)},owB l m=true→l=m
 | [],[],_=>rfl
 | (a,x)::r,(b,y)::s,h=>by
   simp only[owB,Qh_] at h
   rw[Loc.eq_iff.1 h.1.1,Qj_ h.1.2,Z5s h.2]
 | [],_::_,h=>by cases h
 | _::_,[],h=>by cases h
def LSg{β:Type}(Γ:List (Nat×Ty))(n:Nat)(fd:FD β)(ro:List Nat)(ow:List (Ev.Loc×Nat))(k:KpH)(I:β→Prop)(F:β→(Ex→St→Prop)→Prop):LSum:=fun σ K=>match ZcO Γ k σ with
 | some ⟨n',ts,bs,ro',ow',[]⟩=>bif Nat.beq n' n&&(nsB ro' ro&&owB ow' ow) then (match fd.g ts bs with
   | some (y,ps)=>alls (ps++[I y]) (F y K)
   | none=>False) else False
 | _=>False
theorem lsG{P:Program}{β X:Type}{Γ:List (Nat×Ty)}{b:Code}{n:Nat}{fd:FD β}{ro:List Nat}{ow:List (Ev.Loc×Nat)}{k:KpH}{I:β→Prop}{F:β→(Ex→St→Prop)→Prop}(hΓ:Yo P Γ){H:X→St}{inv:X→Prop}{fin:X→Ex→St→Prop}(h:∀x,inv x→∃e σ',fin x e σ'∧∃m,Zaz P m b (H x) e σ')
 (cv:β→X) (hH:∀y,(⟨n,fd.t y,fd.b y,ro,ow,[]⟩:St)=H (cv y)) (hI:∀y,I y→inv (cv y)) (hF:∀y K e s,F y K→fin (cv y) e s→K e s):Ye P b (LSg Γ n fd ro ow k I F):=by
 refine ZdK hΓ h k fun σ K hS=>?_
 unfold LSg at hS
 split at hS
 ·rename_i n' ts bs ro' ow' hk
  cases hb:(Nat.beq n' n&&(nsB ro' ro&&owB ow' ow)) with
  | false=>rw[hb] at hS;exact hS.elim
  | true=>
    rw[hb,Qb_] at hS
    simp only[Qh_] at hb
    split at hS
    ·rename_i y ps hg
     obtain ⟨h1,h2⟩:=W8 hS
     obtain ⟨h3,h4⟩:=W9 h1
     obtain ⟨k1,k2⟩:=fd.ok _ _ _ _ hg h3
     refine ⟨cv y, ?_,hI y (h4 _ Qv_),fun e s=>hF y K e s h2⟩
     rw[hk,←hH,k1,k2,Qj_ hb.1,Z5r hb.2.1,Z5s hb.2.2]
    ·exact hS.elim
 ·exact hS.elim
theorem fE{K:Ex→St→Prop}{a e:Ex}{b s:St}(h:K a b)(f:e=a∧s=b):K e s:=by obtain ⟨rfl,rfl⟩:=f;exact h
theorem fC{c:Bool}{A B p q R:Prop}(h:bif c then A else B)(f:(c=true∧p)∨(c=false∧q))(ha:A→p→R)(hb:B→q→R):R:=by
 rcases f with ⟨rfl,f⟩ | ⟨rfl,f⟩
 ·exact ha h f
 ·exact hb h f
theorem sxT{α:Type}{A:α→Prop}(T:α→Prop)(e:∀Q,A Q=T Q){Q:α}(h:T Q):A Q:=(e Q).mpr h
def Qn(X r:PV):Prop:=nz r=X
theorem Zcj{P:Program}{E:Env}(hE:EnvOk P E){C:Yb}(hC:CSOk P C){CP:Y4}(hP:CSPOk P CP){CI:Y0}(hI:CSIOk P CI){G:Gx}(hG:OwOk P C G){LS:List (Nat×LSum)}{f:Nat}{fn:Func}(hf:lk f E.fns=some fn)(hL:ZF P LS fn){n:Nat}{args:List PV}{X:PV}
 (h:sxF E C CP CI G LS n fn args (Qn X)):Con P f args X:=Z0t hE hC hP hI hG hf hL h
theorem ZsF{P:Program}{E:Env}(hE:EnvOk P E){C:Yb}(hC:CSOk P C){CP:Y4}(hP:CSPOk P CP){CI:Y0}(hI:CSIOk P CI){G:Gx}(hG:OwOk P C G){LS:List (Nat×LSum)}{f:Nat}{fn:Func}(hf:lk f E.fns=some fn)(hL:ZF P LS fn){n:Nat}{T:Nat}{args:List PV}{X:PV}
 (h:Z17 E C CP CI G LS n fn T args (Qn X)):Zcf P f args T X:=Z7z hE hC hP hI hG hf hL h
def kr0:KpH:=⟨⟨[],[],[]⟩,[]⟩
def eIv(x:Iv):List PV:=[vI x.lo,vI x.hi,vB x.no]
def eV(x:V):List PV:=[vI x.x.lo,vI x.x.hi,vB x.x.no,vI x.y.lo,vI x.y.hi,vB x.y.no,vI x.z.lo,vI x.z.hi,vB x.z.no]
def Jp(x:Ray):List PV:=[vI x.o.x.lo,vI x.o.x.hi,vB x.o.x.no,vI x.o.y.lo,vI x.o.y.hi,vB x.o.y.no,vI x.o.z.lo,vI x.o.z.hi,vB x.o.z.no,vI x.d.x.lo,vI x.d.x.hi,vB x.d.x.no,vI x.d.y.lo,vI x.d.y.hi,vB x.d.y.no,vI x.d.z.lo,vI x.d.z.hi,vB x.d.z.no]
def ZrJ(x:Dec):List PV:=[vI x.c,vI x.scale]
def XE(x:Surf):List PV:=[vB x.stop,vB x.bent,vI x.curve.lo,vI x.curve.hi,vB x.curve.no,vI x.conic.lo,vI x.conic.hi,vB x.conic.no,vI x.a4.lo,vI x.a4.hi,vB x.a4.no,vI x.a6.lo,vI x.a6.hi,vB x.a6.no,vI x.pos.lo,vI x.pos.hi,vB x.pos.no,vI x.open2.lo,vI x.open2.hi,vB x.open2.no,vI x.ratio.lo,vI x.ratio.hi,vB x.ratio.no]
def Zbz(x:TrRes):List PV:=[vI x.kind,vI x.pos,vI x.r.o.x.lo,vI x.r.o.x.hi,vB x.r.o.x.no,vI x.r.o.y.lo,vI x.r.o.y.hi,vB x.r.o.y.no,vI x.r.o.z.lo,vI x.r.o.z.hi,vB x.r.o.z.no,vI x.r.d.x.lo,vI x.r.d.x.hi,vB x.r.d.x.no,vI x.r.d.y.lo,vI x.r.d.y.hi,vB x.r.d.y.no,vI x.r.d.z.lo,vI x.r.d.z.hi,vB x.r.d.z.no]
def Zgl(x:Glass):List PV:=[PV.str x.name,vI x.b.a.c,vI x.b.a.scale,vI x.b.b.c,vI x.b.b.scale,vI x.b.c.c,vI x.b.c.scale,vI x.c.a.c,vI x.c.a.scale,vI x.c.b.c,vI x.c.b.scale,vI x.c.c.c,vI x.c.c.scale]
def Z5(x:LensM):List PV:=[PV.str x.name,vI x.back.c,vI x.back.scale,PV.lst (List.map Face.enc x.faces)]
def Zb0(x:Pixel):List PV:=[vI x.lo.a,vI x.lo.b,vI x.lo.c,vI x.hi.a,vI x.hi.b,vI x.hi.c,vI x.lost]
def Zfv(x:Pair):List PV:=[vI x.x,vI x.y]
end Go.Men
namespace Go.Ev
open Go.RowKit
def ZfI(T:TSy)(ops:List Oper):List Oper→Nat→St→Option (St×List Prop)
 | [],_,σ=>some (σ,[])
 | o::r,j,σ=>match Zco σ ops o with
   | some true=>match T j σ o with
     | some (σ1,ps)=>match ZfI T ops r (j+1) σ1 with
       | some (σ2,qs)=>some (σ2,ps++qs)
       | none=>none
     | none=>none
   | some false=>match o.dst with
     | some d=>ZfI T ops r (j+1) (Zfn σ d)
     | none=>ZfI T ops r (j+1) σ
   | none=>none
def Zim(T:TSy):Nat→Code→St→Option (Ex×St×List Prop)
 | 0,_,_=>none
 | n+1,c,σ=>match c with
   | .skip=>some (.normal,σ,[])
   | .ret=>some (.ret,σ,[])
   | .region _ ops false=>match ZfI T ops.toList ops.toList 0 σ with
     | some (σ1,ps)=>some (.normal,σ1,ps)
     | none=>none
   | .seq x y=>match Zim T n x σ with
     | some (.normal,σ1,ps)=>match Zim T n y σ1 with
       | some (e,σ2,qs)=>some (e,σ2,ps++qs)
       | none=>none
     | r=>r
   | _=>none
theorem Zef{T:TSy}{T0:Nat→St→Oper→Option St}(hT:TSub T T0){ops:List Oper}:∀{l:List Oper} {j:Nat} {σ σ':St} {ps:List Prop},ZfI T ops l j σ=some (σ',ps)→Yx ps→tails T0 ops l j σ=some σ'
 | [],j,σ,σ',ps,h,_=>by
   cases Qa_ h
   rfl
 | o::r,j,σ,σ',ps,h,hp=>by
   unfold ZfI at h
   unfold tails
   split at h
   ·rename_i hg
    rw[hg]
    split at h
    ·rename_i σ1 p1 h1
     split at h
     ·rename_i σ2 p2 h2
      cases Qa_ h
      obtain ⟨q1,q2⟩:=W9 hp
      simp only[hT _ _ _ _ _ h1 q1]
      exact Zef hT h2 q2
     ·cases h
    ·cases h
   ·rename_i hg
    rw[hg]
    split at h
    ·rename_i d hd
     simp only[hd]
     exact Zef hT h hp
    ·rename_i hd
     simp only[hd]
     exact Zef hT h hp
   ·cases h
theorem Zfw{Γ:List (Nat×Ty)}{R0:Nat→St→Oper→Option Res}{T:TSy}{T0:Nat→St→Oper→Option St}(hT:TSub T T0):∀{n:Nat} {c:Code} {σ σ':St} {e:Ex} {ps:List Prop},Zim T n c σ=some (e,σ',ps)→Yx ps→YP Γ R0 T0 n none c σ=some (e,σ')
 | 0,c,σ,σ',e,ps,h,_=>absurd h (by simp[Zim])
 | n+1,c,σ,σ',e,ps,h,hp=>by
   unfold Zim at h
   unfold YP
   split at h
   ·cases Qa_ h;rfl
   ·cases Qa_ h;rfl
   ·rename_i ops
    split at h
    ·rename_i σ1 p1 h1
     cases Qa_ h
     simp only[Zm7,Zef hT h1 hp]
    ·cases h
   ·rename_i x y
    split at h
    ·rename_i σ1 p1 h1
     split at h
     ·rename_i e2 σ2 p2 h2
      cases Qa_ h
      obtain ⟨q1,q2⟩:=W9 hp
      simp only[Zfw (Γ:=Γ) (R0:=R0) hT h1 q1]
      exact Zfw hT h2 q2
     ·cases h
    ·rename_i hne
     have h1:=Zfw (Γ:=Γ) (R0:=R0) hT h hp
     simp only[h1]
     cases e<;>first | rfl | exact (hne _ _ h).elim
   ·cases h
def ciS(E:Env)(C:Yb)(n:Nat):Y0:=fun f σ args=>match lk f E.fns with
 | some fn=>match fn.body with
   | some c=>bif Nat.ble args.length fn.ntmps then
      match Zim (TSym E C ZfW ZfX) n c (Jr fn.ntmps σ args) with
      | some (e,σc,ps)=>match ZaT E.Γ σc fn.results.toList with
        | some r=>bif JI e&&ZiP (ZhF fn.ntmps σc.boxes) σ.tmps&&Jy σc.boxes then some (ZbM r,ZaU fn.ntmps σ σc,ps) else none
        | none=>none
      | none=>none
     else none
   | none=>none
 | none=>none
theorem Z5t{P:Program}{E:Env}(hE:EnvOk P E){C:Yb}(hC:CSOk P C){n:Nat}:CSIOk P (ciS E C n):=by
 intro f σ args r σ' ps h hp
 unfold ciS at h
 split at h
 ·rename_i fn hfn
  obtain ⟨k1,k2⟩:=hE.fns f fn hfn
  split at h
  ·rename_i c hc
   cases hb:Nat.ble args.length fn.ntmps with
   | false=>rw[hb] at h;cases h
   | true=>
     rw[hb] at h
     simp only[Qb_] at h
     split at h
     ·rename_i e σc qs h1
      split at h
      ·rename_i r0 hr
       cases hb2:(JI e&&ZiP (ZhF fn.ntmps σc.boxes) σ.tmps&&Jy σc.boxes) with
       | false=>rw[hb2] at h;cases h
       | true=>
         rw[hb2] at h
         cases Qa_ h
         simp only[Qh_] at hb2
         have hsub:TSub (TSym E C ZfW ZfX) (TT E (CH C) (CHP ZfW) (CHI ZfX)):=Z0q
         have h2:=Zfw (Γ:=E.Γ) (R0:=fun _ _ _=>none) hsub h1 hp
         exact ZAm hE.Γ k2 k1 hc hb ((Zvo hE.Γ hE.mixed (fun _ _ _ _ h=>absurd h (by simp)) (fun j σ o σ' h=>Z8H hE (ZmD hC) (Z4Q Z4) (Z4R Z3) j σ o σ' h) n).1 c _ _ _ h2).1 hb2.1.1 hr hb2.1.2 hb2.2
      ·cases h
     ·cases h
  ·cases h
 ·cases h
end Go.Ev
namespace Go.Proofs.YtfeldacghdcghaaGreatDoor
open Go.Ev
def Yd:List (Nat×Ty):=[
 (26,⟨1,3,24,[.v (.int .i64 0),.v (.int .i64 0),.v (.bool false)],[(0,3),(1,3),(2,4)],0,0⟩),
 (3,⟨0,1,8,[.v (.int .i64 0)],[],0,0⟩),
 (121,⟨1,9,72,[.v (.int .i64 0),.v (.int .i64 0),.v (.bool false),.v (.int .i64 0),.v (.int .i64 0),.v (.bool false),.v (.int .i64 0),.v (.int .i64 0),.v (.bool false)],[(0,26),(3,26),(6,26)],0,0⟩),
 (56,⟨1,2,16,[.v (.int .i64 0),.v (.int .i64 0)],[(0,3),(1,3)],0,0⟩),
 (123,⟨1,18,144,[.v (.int .i64 0),.v (.int .i64 0),.v (.bool false),.v (.int .i64 0),.v (.int .i64 0),.v (.bool false),.v (.int .i64 0),.v (.int .i64 0),.v (.bool false),.v (.int .i64 0),.v (.int .i64 0),.v (.bool false),.v (.int .i64 0),.v (.int .i64 0),.v (.bool false),.v (.int .i64 0),.v (.int .i64 0),.v (.bool false)],[(0,121),(9,121)],0,0⟩),
 (151,⟨1,23,176,[.v (.bool false),.v (.bool false),.v (.int .i64 0),.v (.int .i64 0),.v (.bool false),.v (.int .i64 0),.v (.int .i64 0),.v (.bool false),.v (.int .i64 0),.v (.int .i64 0),.v (.bool false),.v (.int .i64 0),.v (.int .i64 0),.v (.bool false),.v (.int .i64 0),.v (.int .i64 0),.v (.bool false),.v (.int .i64 0),.v (.int .i64 0),.v (.bool false),.v (.int .i64 0),.v (.int .i64 0),.v (.bool false)],[(0,4),(1,4),(2,26),(5,26),(8,26),(11,26),(14,26),(17,26),(20,26)],0,0⟩),
 (28,⟨1,4,48,[.nil,.v (.int .i64 0),.v (.int .i64 0),.v (.bool false)],[(0,24),(1,26)],0,0⟩),
 (42,⟨2,3,24,[.v (.int .i64 0),.v (.int .i64 0),.v (.int .i64 0)],[],3,3⟩),
 (144,⟨1,14,120,[.v (.bool false),.v (.int .i64 0),.v (.int .i64 0),.v (.int .i64 0),.v (.int .i64 0),.v (.int .i64 0),.v (.int .i64 0),.v (.int .i64 0),.v (.int .i64 0),.v (.int .i64 0),.v (.int .i64 0),.v (.int .i64 0),.v (.int .i64 0),.str []],[(0,4),(1,56),(3,56),(5,56),(7,56),(9,56),(11,56),(13,9)],0,0⟩),
 (58,⟨1,12,96,[.v (.int .i64 0),.v (.int .i64 0),.v (.int .i64 0),.v (.int .i64 0),.v (.int .i64 0),.v (.int .i64 0),.v (.int .i64 0),.v (.int .i64 0),.v (.int .i64 0),.v (.int .i64 0),.v (.int .i64 0),.v (.int .i64 0)],[(0,3),(1,56),(3,56),(5,56),(7,56),(9,42)],0,0⟩),
 (24,⟨3,1,24,[.nil],[],151,0⟩),
 (44,⟨1,7,56,[.v (.int .i64 0),.v (.int .i64 0),.v (.int .i64 0),.v (.int .i64 0),.v (.int .i64 0),.v (.int .i64 0),.v (.int .i64 0)],[(0,42),(3,42),(6,3)],0,0⟩),
 (37,⟨3,1,24,[.nil],[],44,0⟩),
 (103,⟨3,1,24,[.nil],[],144,0⟩),
 (105,⟨1,4,56,[.str [],.v (.int .i64 0),.v (.int .i64 0),.nil],[(0,9),(1,56),(3,103)],0,0⟩),
 (172,⟨3,1,24,[.nil],[],26,0⟩),
 (29,⟨2,12,144,[.nil,.v (.int .i64 0),.v (.int .i64 0),.v (.bool false),.nil,.v (.int .i64 0),.v (.int .i64 0),.v (.bool false),.nil,.v (.int .i64 0),.v (.int .i64 0),.v (.bool false)],[],28,3⟩),
 (50,⟨1,2,16,[.v (.int .i64 0),.v (.int .i64 0)],[(0,3),(1,3)],0,0⟩),
 (23,⟨3,1,24,[.nil],[],3,0⟩),
 (9,⟨4,1,16,[.str []],[],0,0⟩),
 (60,⟨0,1,8,[.v (Go.Value.float (Go.FloatKind.f64) 0)],[],0,0⟩),
 (4,⟨0,1,1,[.v (.bool false)],[],0,0⟩),
 (33,⟨3,1,24,[.nil],[],41,0⟩),
 (35,⟨3,1,24,[.nil],[],58,0⟩),
 (140,⟨1,13,112,[.str [],.v (.int .i64 0),.v (.int .i64 0),.v (.int .i64 0),.v (.int .i64 0),.v (.int .i64 0),.v (.int .i64 0),.v (.int .i64 0),.v (.int .i64 0),.v (.int .i64 0),.v (.int .i64 0),.v (.int .i64 0),.v (.int .i64 0)],[(0,9),(1,138),(7,138)],0,0⟩),
 (41,⟨0,1,16,[.v (Go.Value.complex (Go.FloatKind.f64) 0 0)],[],0,0⟩),
 (142,⟨1,6,48,[.v (.int .i64 0),.v (.int .i64 0),.v (.int .i64 0),.v (.int .i64 0),.v (.int .i64 0),.v (.int .i64 0)],[(0,3),(1,3),(2,3),(3,3),(4,3),(5,3)],0,0⟩),
 (98,⟨1,7,56,[.v (.int .i64 0),.v (.int .i64 0),.v (.int .i64 0),.v (.int .i64 0),.v (.int .i64 0),.v (.int .i64 0),.v (.int .i64 0)],[(0,42),(3,42),(6,3)],0,0⟩),
 (219,⟨1,43,352,[.nil,.v (.bool false),.v (.bool false),.v (.bool false),.v (.int .i64 0),.v (.int .i64 0),.v (.bool false),.v (.int .i64 0),.v (.int .i64 0),.v (.bool false),.v (.int .i64 0),.v (.int .i64 0),.v (.bool false),.v (.int .i64 0),.v (.int .i64 0),.v (.bool false),.v (.int .i64 0),.v (.int .i64 0),.v (.bool false),.v (.int .i64 0),.v (.int .i64 0),.v (.bool false),.v (.int .i64 0),.v (.int .i64 0),.v (.bool false),.v (.int .i64 0),.v (.int .i64 0),.v (.bool false),.v (.int .i64 0),.v (.int .i64 0),.v (.bool false),.v (.int .i64 0),.v (.int .i64 0),.v (.bool false),.v (.int .i64 0),.v (.int .i64 0),.v (.bool false),.v (.int .i64 0),.v (.int .i64 0),.v (.bool false),.v (.int .i64 0),.v (.int .i64 0),.v (.bool false)],[(0,172),(1,4),(2,151),(25,123)],0,0⟩),
 (61,⟨3,1,24,[.nil],[],98,0⟩),
 (163,⟨1,20,160,[.v (.int .i64 0),.v (.int .i64 0),.v (.int .i64 0),.v (.int .i64 0),.v (.bool false),.v (.int .i64 0),.v (.int .i64 0),.v (.bool false),.v (.int .i64 0),.v (.int .i64 0),.v (.bool false),.v (.int .i64 0),.v (.int .i64 0),.v (.bool false),.v (.int .i64 0),.v (.int .i64 0),.v (.bool false),.v (.int .i64 0),.v (.int .i64 0),.v (.bool false)],[(0,3),(1,3),(2,123)],0,0⟩),
 (101,⟨3,1,24,[.nil],[],140,0⟩),
 (133,⟨1,20,160,[.v (.int .i64 0),.v (.int .i64 0),.v (.int .i64 0),.v (.int .i64 0),.v (.bool false),.v (.int .i64 0),.v (.int .i64 0),.v (.bool false),.v (.int .i64 0),.v (.int .i64 0),.v (.bool false),.v (.int .i64 0),.v (.int .i64 0),.v (.bool false),.v (.int .i64 0),.v (.int .i64 0),.v (.bool false),.v (.int .i64 0),.v (.int .i64 0),.v (.bool false)],[(0,3),(1,3),(2,123)],0,0⟩),
 (138,⟨2,6,48,[.v (.int .i64 0),.v (.int .i64 0),.v (.int .i64 0),.v (.int .i64 0),.v (.int .i64 0),.v (.int .i64 0)],[],56,3⟩),
 (85,⟨3,1,24,[.nil],[],5,0⟩),
 (97,⟨3,1,24,[.nil],[],50,0⟩),
 (226,⟨2,2,16,[.v (.int .i64 0),.v (.int .i64 0)],[],3,2⟩),
 (87,⟨1,2,32,[.v (Go.Value.pointer none),.nil],[(0,84),(1,85)],0,0⟩),
 (92,⟨3,1,24,[.nil],[],9,0⟩),
 (22,⟨3,1,24,[.nil],[],142,0⟩),
 (76,⟨3,1,24,[.nil],[],28,0⟩),
 (5,⟨0,1,1,[.v (.int .u8 0)],[],0,0⟩),
 (213,⟨0,1,8,[.v (.int .u64 0)],[],0,0⟩),
 (21,⟨0,1,4,[.v (.int .i32 0)],[],0,0⟩),
 (84,⟨0,1,8,[.v (Go.Value.pointer none)],[],0,0⟩)]
theorem Z7J:Yo Tryz.prog Yd:=
 Zy (by kernel_rfl)<|
 Zy (by kernel_rfl)<|
 Zy (by kernel_rfl)<|
 Zy (by kernel_rfl)<|
 Zy (by kernel_rfl)<|
 Zy (by kernel_rfl)<|
 Zy (by kernel_rfl)<|
 Zy (by kernel_rfl)<|
 Zy (by kernel_rfl)<|
 Zy (by kernel_rfl)<|
 Zy (by kernel_rfl)<|
 Zy (by kernel_rfl)<|
 Zy (by kernel_rfl)<|
 Zy (by kernel_rfl)<|
 Zy (by kernel_rfl)<|
 Zy (by kernel_rfl)<|
 Zy (by kernel_rfl)<|
 Zy (by kernel_rfl)<|
 Zy (by kernel_rfl)<|
 Zy (by kernel_rfl)<|
 Zy (by kernel_rfl)<|
 Zy (by kernel_rfl)<|
 Zy (by kernel_rfl)<|
 Zy (by kernel_rfl)<|
 Zy (by kernel_rfl)<|
 Zy (by kernel_rfl)<|
 Zy (by kernel_rfl)<|
 Zy (by kernel_rfl)<|
 Zy (by kernel_rfl)<|
 Zy (by kernel_rfl)<|
 Zy (by kernel_rfl)<|
 Zy (by kernel_rfl)<|
 Zy (by kernel_rfl)<|
 Zy (by kernel_rfl)<|
 Zy (by kernel_rfl)<|
 Zy (by kernel_rfl)<|
 Zy (by kernel_rfl)<|
 Zy (by kernel_rfl)<|
 Zy (by kernel_rfl)<|
 Zy (by kernel_rfl)<|
 Zy (by kernel_rfl)<|
 Zy (by kernel_rfl)<|
 Zy (by kernel_rfl)<|
 Zy (by kernel_rfl)<|
 Zy (by kernel_rfl)<|
 Z7e
noncomputable def Z8R:List (Nat×Func):=[(3,Tryz.f3),(4,Tryz.f4),(5,Tryz.f5),(6,Tryz.f6),(7,Tryz.f7),(8,Tryz.f8),(9,Tryz.f9),(10,Tryz.f10),(11,Tryz.f11),(12,Tryz.f12),(13,Tryz.f13),(14,Tryz.f14),(16,Tryz.f16),(15,Tryz.f15),(17,Tryz.f17),(18,Tryz.f18),(19,Tryz.f19),(20,Tryz.f20),(21,Tryz.f21),(22,Tryz.f22),(23,Tryz.f23),(24,Tryz.f24),(25,Tryz.f25),(27,Tryz.f27),(26,Tryz.f26),(29,Tryz.f29),(30,Tryz.f30),(31,Tryz.f31),(32,Tryz.f32),(33,Tryz.f33),(35,Tryz.f35),(34,Tryz.f34),(36,Tryz.f36),(37,Tryz.f37),(39,Tryz.f39),(41,Tryz.f41),(43,Tryz.f43),(42,Tryz.f42),(44,Tryz.f44),(46,Tryz.f46),(45,Tryz.f45),(47,Tryz.f47),(48,Tryz.f48),(49,Tryz.f49),(50,Tryz.f50),(51,Tryz.f51),(52,Tryz.f52),(54,Tryz.f54),(53,Tryz.f53),(55,Tryz.f55),(56,Tryz.f56),(28,Tryz.f28),(57,Tryz.f57),(58,Tryz.f58),(59,Tryz.f59),(60,Tryz.f60),(65,Tryz.f65),(62,Tryz.f62),(63,Tryz.f63),(64,Tryz.f64),(66,Tryz.f66),(67,Tryz.f67),(70,Tryz.f70),(71,Tryz.f71),(75,Tryz.f75),(72,Tryz.f72),(73,Tryz.f73),(74,Tryz.f74),(76,Tryz.f76),(77,Tryz.f77),(78,Tryz.f78),(79,Tryz.f79),(81,Tryz.f81),(80,Tryz.f80),(82,Tryz.f82),(83,Tryz.f83),(84,Tryz.f84),(85,Tryz.f85),(86,Tryz.f86),(87,Tryz.f87),(88,Tryz.f88),(89,Tryz.f89),(90,Tryz.f90),(61,Tryz.f61),(95,Tryz.f95),(96,Tryz.f96),(97,Tryz.f97),(99,Tryz.f99),(98,Tryz.f98),(100,Tryz.f100),(101,Tryz.f101),(102,Tryz.f102),(105,Tryz.f105),(108,Tryz.f108),(107,Tryz.f107),(106,Tryz.f106),(109,Tryz.f109),(110,Tryz.f110),(111,Tryz.f111),(112,Tryz.f112),(117,Tryz.f117),(118,Tryz.f118),(113,Tryz.f113),(114,Tryz.f114),(115,Tryz.f115),(116,Tryz.f116),(119,Tryz.f119),(120,Tryz.f120),(121,Tryz.f121),(122,Tryz.f122),(91,Tryz.f91),(92,Tryz.f92),(93,Tryz.f93),(94,Tryz.f94),(125,Tryz.f125),(124,Tryz.f124),(129,Tryz.f129),(128,Tryz.f128),(127,Tryz.f127),(126,Tryz.f126),(130,Tryz.f130),(131,Tryz.f131),(137,Tryz.f137),(139,Tryz.f139),(138,Tryz.f138),(140,Tryz.f140),(141,Tryz.f141),(142,Tryz.f142),(144,Tryz.f144),(143,Tryz.f143),(145,Tryz.f145),(146,Tryz.f146),(148,Tryz.f148),(147,Tryz.f147),(149,Tryz.f149),(150,Tryz.f150),(151,Tryz.f151),(153,Tryz.f153),(152,Tryz.f152),(154,Tryz.f154),(155,Tryz.f155),(156,Tryz.f156),(123,Tryz.f123),(157,Tryz.f157),(158,Tryz.f158),(159,Tryz.f159),(160,Tryz.f160),(162,Tryz.f162),(161,Tryz.f161),(163,Tryz.f163),(164,Tryz.f164),(166,Tryz.f166),(165,Tryz.f165),(167,Tryz.f167),(168,Tryz.f168),(174,Tryz.f174),(175,Tryz.f175),(178,Tryz.f178),(179,Tryz.f179),(180,Tryz.f180),(183,Tryz.f183),(184,Tryz.f184),(182,Tryz.f182),(181,Tryz.f181),(185,Tryz.f185),(186,Tryz.f186),(187,Tryz.f187),(188,Tryz.f188),(189,Tryz.f189),(190,Tryz.f190),(191,Tryz.f191),(192,Tryz.f192),(195,Tryz.f195),(198,Tryz.f198),(193,Tryz.f193),(194,Tryz.f194),(197,Tryz.f197),(196,Tryz.f196),(200,Tryz.f200),(199,Tryz.f199),(201,Tryz.f201),(204,Tryz.f204),(205,Tryz.f205),(206,Tryz.f206),(207,Tryz.f207),(208,Tryz.f208),(209,Tryz.f209),(210,Tryz.f210),(211,Tryz.f211),(212,Tryz.f212),(213,Tryz.f213),(214,Tryz.f214),(215,Tryz.f215),(216,Tryz.f216),(217,Tryz.f217),(218,Tryz.f218),(219,Tryz.f219),(220,Tryz.f220),(221,Tryz.f221),(222,Tryz.f222),(223,Tryz.f223)]
theorem Z7K:ZtQ Tryz.prog Z8R:=
 Zd Tryz.func3 Tryz.call3<|
 Zd Tryz.func4 Tryz.call4<|
 Zd Tryz.func5 Tryz.call5<|
 Zd Tryz.func6 Tryz.call6<|
 Zd Tryz.func7 Tryz.call7<|
 Zd Tryz.func8 Tryz.call8<|
 Zd Tryz.func9 Tryz.call9<|
 Zd Tryz.func10 Tryz.call10<|
 Zd Tryz.func11 Tryz.call11<|
 Zd Tryz.func12 Tryz.call12<|
 Zd Tryz.func13 Tryz.call13<|
 Zd Tryz.func14 Tryz.call14<|
 Zd Tryz.func16 Tryz.call16<|
 Zd Tryz.func15 Tryz.call15<|
 Zd Tryz.func17 Tryz.call17<|
 Zd Tryz.func18 Tryz.call18<|
 Zd Tryz.func19 Tryz.call19<|
 Zd Tryz.func20 Tryz.call20<|
 Zd Tryz.func21 Tryz.call21<|
 Zd Tryz.func22 Tryz.call22<|
 Zd Tryz.func23 Tryz.call23<|
 Zd Tryz.func24 Tryz.call24<|
 Zd Tryz.func25 Tryz.call25<|
 Zd Tryz.func27 Tryz.call27<|
 Zd Tryz.func26 Tryz.call26<|
 Zd Tryz.func29 Tryz.call29<|
 Zd Tryz.func30 Tryz.call30<|
 Zd Tryz.func31 Tryz.call31<|
 Zd Tryz.func32 Tryz.call32<|
 Zd Tryz.func33 Tryz.call33<|
 Zd Tryz.func35 Tryz.call35<|
 Zd Tryz.func34 Tryz.call34<|
 Zd Tryz.func36 Tryz.call36<|
 Zd Tryz.func37 Tryz.call37<|
 Zd Tryz.func39 Tryz.call39<|
 Zd Tryz.func41 Tryz.call41<|
 Zd Tryz.func43 Tryz.call43<|
 Zd Tryz.func42 Tryz.call42<|
 Zd Tryz.func44 Tryz.call44<|
 Zd Tryz.func46 Tryz.call46<|
 Zd Tryz.func45 Tryz.call45<|
 Zd Tryz.func47 Tryz.call47<|
 Zd Tryz.func48 Tryz.call48<|
 Zd Tryz.func49 Tryz.call49<|
 Zd Tryz.func50 Tryz.call50<|
 Zd Tryz.func51 Tryz.call51<|
 Zd Tryz.func52 Tryz.call52<|
 Zd Tryz.func54 Tryz.call54<|
 Zd Tryz.func53 Tryz.call53<|
 Zd Tryz.func55 Tryz.call55<|
 Zd Tryz.func56 Tryz.call56<|
 Zd Tryz.func28 Tryz.call28<|
 Zd Tryz.func57 Tryz.call57<|
 Zd Tryz.func58 Tryz.call58<|
 Zd Tryz.func59 Tryz.call59<|
 Zd Tryz.func60 Tryz.call60<|
 Zd Tryz.func65 Tryz.call65<|
 Zd Tryz.func62 Tryz.call62<|
 Zd Tryz.func63 Tryz.call63<|
 Zd Tryz.func64 Tryz.call64<|
 Zd Tryz.func66 Tryz.call66<|
 Zd Tryz.func67 Tryz.call67<|
 Zd Tryz.func70 Tryz.call70<|
 Zd Tryz.func71 Tryz.call71<|
 Zd Tryz.func75 Tryz.call75<|
 Zd Tryz.func72 Tryz.call72<|
 Zd Tryz.func73 Tryz.call73<|
 Zd Tryz.func74 Tryz.call74<|
 Zd Tryz.func76 Tryz.call76<|
 Zd Tryz.func77 Tryz.call77<|
 Zd Tryz.func78 Tryz.call78<|
 Zd Tryz.func79 Tryz.call79<|
 Zd Tryz.func81 Tryz.call81<|
 Zd Tryz.func80 Tryz.call80<|
 Zd Tryz.func82 Tryz.call82<|
 Zd Tryz.func83 Tryz.call83<|
 Zd Tryz.func84 Tryz.call84<|
 Zd Tryz.func85 Tryz.call85<|
 Zd Tryz.func86 Tryz.call86<|
 Zd Tryz.func87 Tryz.call87<|
 Zd Tryz.func88 Tryz.call88<|
 Zd Tryz.func89 Tryz.call89<|
 Zd Tryz.func90 Tryz.call90<|
 Zd Tryz.func61 Tryz.call61<|
 Zd Tryz.func95 Tryz.call95<|
 Zd Tryz.func96 Tryz.call96<|
 Zd Tryz.func97 Tryz.call97<|
 Zd Tryz.func99 Tryz.call99<|
 Zd Tryz.func98 Tryz.call98<|
 Zd Tryz.func100 Tryz.call100<|
 Zd Tryz.func101 Tryz.call101<|
 Zd Tryz.func102 Tryz.call102<|
 Zd Tryz.func105 Tryz.call105<|
 Zd Tryz.func108 Tryz.call108<|
 Zd Tryz.func107 Tryz.call107<|
 Zd Tryz.func106 Tryz.call106<|
 Zd Tryz.func109 Tryz.call109<|
 Zd Tryz.func110 Tryz.call110<|
 Zd Tryz.func111 Tryz.call111<|
 Zd Tryz.func112 Tryz.call112<|
 Zd Tryz.func117 Tryz.call117<|
 Zd Tryz.func118 Tryz.call118<|
 Zd Tryz.func113 Tryz.call113<|
 Zd Tryz.func114 Tryz.call114<|
 Zd Tryz.func115 Tryz.call115<|
 Zd Tryz.func116 Tryz.call116<|
 Zd Tryz.func119 Tryz.call119<|
 Zd Tryz.func120 Tryz.call120<|
 Zd Tryz.func121 Tryz.call121<|
 Zd Tryz.func122 Tryz.call122<|
 Zd Tryz.func91 Tryz.call91<|
 Zd Tryz.func92 Tryz.call92<|
 Zd Tryz.func93 Tryz.call93<|
 Zd Tryz.func94 Tryz.call94<|
 Zd Tryz.func125 Tryz.call125<|
 Zd Tryz.func124 Tryz.call124<|
 Zd Tryz.func129 Tryz.call129<|
 Zd Tryz.func128 Tryz.call128<|
 Zd Tryz.func127 Tryz.call127<|
 Zd Tryz.func126 Tryz.call126<|
 Zd Tryz.func130 Tryz.call130<|
 Zd Tryz.func131 Tryz.call131<|
 Zd Tryz.func137 Tryz.call137<|
 Zd Tryz.func139 Tryz.call139<|
 Zd Tryz.func138 Tryz.call138<|
 Zd Tryz.func140 Tryz.call140<|
 Zd Tryz.func141 Tryz.call141<|
 Zd Tryz.func142 Tryz.call142<|
 Zd Tryz.func144 Tryz.call144<|
 Zd Tryz.func143 Tryz.call143<|
 Zd Tryz.func145 Tryz.call145<|
 Zd Tryz.func146 Tryz.call146<|
 Zd Tryz.func148 Tryz.call148<|
 Zd Tryz.func147 Tryz.call147<|
 Zd Tryz.func149 Tryz.call149<|
 Zd Tryz.func150 Tryz.call150<|
 Zd Tryz.func151 Tryz.call151<|
 Zd Tryz.func153 Tryz.call153<|
 Zd Tryz.func152 Tryz.call152<|
 Zd Tryz.func154 Tryz.call154<|
 Zd Tryz.func155 Tryz.call155<|
 Zd Tryz.func156 Tryz.call156<|
 Zd Tryz.func123 Tryz.call123<|
 Zd Tryz.func157 Tryz.call157<|
 Zd Tryz.func158 Tryz.call158<|
 Zd Tryz.func159 Tryz.call159<|
 Zd Tryz.func160 Tryz.call160<|
 Zd Tryz.func162 Tryz.call162<|
 Zd Tryz.func161 Tryz.call161<|
 Zd Tryz.func163 Tryz.call163<|
 Zd Tryz.func164 Tryz.call164<|
 Zd Tryz.func166 Tryz.call166<|
 Zd Tryz.func165 Tryz.call165<|
 Zd Tryz.func167 Tryz.call167<|
 Zd Tryz.func168 Tryz.call168<|
 Zd Tryz.func174 Tryz.call174<|
 Zd Tryz.func175 Tryz.call175<|
 Zd Tryz.func178 Tryz.call178<|
 Zd Tryz.func179 Tryz.call179<|
 Zd Tryz.func180 Tryz.call180<|
 Zd Tryz.func183 Tryz.call183<|
 Zd Tryz.func184 Tryz.call184<|
 Zd Tryz.func182 Tryz.call182<|
 Zd Tryz.func181 Tryz.call181<|
 Zd Tryz.func185 Tryz.call185<|
 Zd Tryz.func186 Tryz.call186<|
 Zd Tryz.func187 Tryz.call187<|
 Zd Tryz.func188 Tryz.call188<|
 Zd Tryz.func189 Tryz.call189<|
 Zd Tryz.func190 Tryz.call190<|
 Zd Tryz.func191 Tryz.call191<|
 Zd Tryz.func192 Tryz.call192<|
 Zd Tryz.func195 Tryz.call195<|
 Zd Tryz.func198 Tryz.call198<|
 Zd Tryz.func193 Tryz.call193<|
 Zd Tryz.func194 Tryz.call194<|
 Zd Tryz.func197 Tryz.call197<|
 Zd Tryz.func196 Tryz.call196<|
 Zd Tryz.func200 Tryz.call200<|
 Zd Tryz.func199 Tryz.call199<|
 Zd Tryz.func201 Tryz.call201<|
 Zd Tryz.func204 Tryz.call204<|
 Zd Tryz.func205 Tryz.call205<|
 Zd Tryz.func206 Tryz.call206<|
 Zd Tryz.func207 Tryz.call207<|
 Zd Tryz.func208 Tryz.call208<|
 Zd Tryz.func209 Tryz.call209<|
 Zd Tryz.func210 Tryz.call210<|
 Zd Tryz.func211 Tryz.call211<|
 Zd Tryz.func212 Tryz.call212<|
 Zd Tryz.func213 Tryz.call213<|
 Zd Tryz.func214 Tryz.call214<|
 Zd Tryz.func215 Tryz.call215<|
 Zd Tryz.func216 Tryz.call216<|
 Zd Tryz.func217 Tryz.call217<|
 Zd Tryz.func218 Tryz.call218<|
 Zd Tryz.func219 Tryz.call219<|
 Zd Tryz.func220 Tryz.call220<|
 Zd Tryz.func221 Tryz.call221<|
 Zd Tryz.func222 Tryz.call222<|
 Zd Tryz.func223 Tryz.call223<|
 Z48
def Z8S:List (Nat×List Nat):=[(44,[0,0,0,0,0,0,0]),(56,[0,0]),(26,[0,0,1])]
theorem Z7L:ZtR Tryz.prog Z8S:=
 Zjj (ZkM (d:=8) (by kernel_rfl) (by kernel_rfl) (fun w=>by simp[isAgg,run_underlying Tryz.underlying44]) (i:=(Tryz.prog.info? 44).get (by kernel_rfl)) (by kernel_rfl) (by kernel_rfl) (by kernel_rfl))<|
 Zjj (ZkM (d:=8) (by kernel_rfl) (by kernel_rfl) (fun w=>by simp[isAgg,run_underlying Tryz.underlying56]) (i:=(Tryz.prog.info? 56).get (by kernel_rfl)) (by kernel_rfl) (by kernel_rfl) (by kernel_rfl))<|
 Zjj (ZkM (d:=8) (by kernel_rfl) (by kernel_rfl) (fun w=>by simp[isAgg,run_underlying Tryz.underlying26]) (i:=(Tryz.prog.info? 26).get (by kernel_rfl)) (by kernel_rfl) (by kernel_rfl) (by kernel_rfl))<|
 Z49
def Z5u:List (Nat×IntKind):=[(21,Go.IntKind.i32),(3,Go.IntKind.i64),(5,Go.IntKind.u8),(213,Go.IntKind.u64)]
theorem Z5v:ZoS Tryz.prog Z5u:=
 Zeb Tryz.underlying21<|
 Zeb Tryz.underlying3<|
 Zeb Tryz.underlying5<|
 Zeb Tryz.underlying213<|
 Z1g
def Z5w:List (Nat×FloatKind):=[(60,Go.FloatKind.f64)]
theorem Z5x:ZoW Tryz.prog Z5w:=
 Zzd Tryz.underlying60<|
 Z1m
theorem Z5y:Z4D Tryz.prog []:=
 Z1n
noncomputable def Z8T:Nat→List PV→Option PV:=fun _ _=>none
theorem Z7M:Z8I Tryz.prog Z8T:=Z4E
noncomputable def evEnv:Env:=⟨Yd,Z8S,[4],Z5u,Z5w,[],Z8R,[36],[],Z8T,[37],[68],[(40,5)],[]⟩
theorem Z7N:ZtS Tryz.prog [68]:=
 Z1p (Z92 (ρ:=Tryz.lays240_ren) Tryz.lays240 Tryz.Builder_X72_240 rfl Tryz.call68)<|
 Z4I
theorem Z5z:ZmA Tryz.prog [(40,5)]:=
 ZvA (Z4H (ρ:=Tryz.lays169_ren) Tryz.lays169 Tryz.Builder_Extra_169 Tryz.call40)<|
 Zze
theorem Z1R:∀T,has T [4]=true→Tryz.prog.underlying T=some .bool:=by
 intro T h
 have h:=YY.1 h
 simp only[Q9_,List.not_mem_nil,or_false] at h
 subst h;exact Tryz.underlying4
theorem Zk:EnvOk Tryz.prog evEnv:=⟨Z7J,by kernel_rfl,Z7L,Z1R,Z5v,Z5x,Z5y,Z7M,Z7N,Z5z,Z7K⟩
end Go.Proofs.YtfeldacghdcghaaGreatDoor
