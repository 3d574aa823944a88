/- A logic of frames, its evaluator for values known in part, and what the functions that the law reaches are shown to do: written for this claim. Part C. -/
import Derived.Test.YtfeldacghdcghaaGreatDoorFuB
import Derived.Test.YtfeldacghdcghaaGreatDoorChecked
import Derived.Test.YtfeldacghdcghaaGreatDoorShelf
set_option linter.all false
set_option maxRecDepth 100000
namespace Go.Ev
open Go.RowKit
section
variable {P:Program}{σ:St}{o:Oper}
theorem Zjz{x:Option Res}{r:Res}{ps:List Prop}(h:noR x=some (r,ps)):x=some r∧ps=[]:=by
 unfold noR at h
 split at h
 ·have:=Qa_ h
  cases this
  exact ⟨rfl,rfl⟩
 ·cases h
theorem Z3t{E:Env}{C:ZR}:RSub (RSym E C) (RR E (CH C)):=by
 intro j τ o r ps h hp
 obtain ⟨dst,op,type,pos,after,guard⟩:=o
 unfold RSym at h
 cases op with
 | binOp op T x y yT=>
   simp only at h
   split at h
   ·rename_i hn
    obtain ⟨h1,_⟩:=Zjz h
    simp only[RR,hn] at h1 ⊢
    exact h1
   ·rename_i hn
    split at h
    ·rename_i a b ha hb
     obtain ⟨d,y0,hd,hs,hlt,rfl⟩:=Xd h
     simp only at hd
     subst hd
     obtain ⟨os,ob,h1,h2⟩:=Zy1 hs hp
     simp only[RR,hn]
     exact Xo (os:=os) (ob:=ob) (by simp only[Wh,ha,hb,h1]) (by simp only[Zn,ha,hb,h2]) rfl hlt rfl
    ·cases h
 | pick c x y=>
   simp only at h
   split at h
   ·rename_i a hc hx
    obtain ⟨d,y0,hd,hs,hlt,rfl⟩:=Xd h
    simp only at hd
    subst hd
    cases hs
    simp only[RR]
    exact Xo (os:=[]) (ob:=[]) (by simp only[Wh]) (by simp only[Zn,hc,hx]) rfl hlt rfl
   ·rename_i a hc hx
    obtain ⟨d,y0,hd,hs,hlt,rfl⟩:=Xd h
    simp only at hd
    subst hd
    cases hs
    simp only[RR]
    exact Xo (os:=[]) (ob:=[]) (by simp only[Wh]) (by simp only[Zn,hc,hx]) rfl hlt rfl
   ·cases h
 | index T x i=>
   simp only at h
   split at h
   ·exact (Zjz h).1
   ·rename_i a b hna ha hb
    obtain ⟨d,y0,hd,hs,hlt,rfl⟩:=Xd h
    simp only at hd
    subst hd
    simp only[RR]
    unfold Zy0 at hs
    split at hs
    ·rename_i ty k n hty
     split at hs
     ·rename_i l hk
      have:=Qa_ hs
      cases this
      have hq:=one hp
      exact Xo (os:=[.pr True]) (ob:=_) (by simp only[Wh,ha,hb,ZeP,hty,hk];simp[hq.1,hq.2]) (by simp only[Zn,ha,hb,ZbW,hty,hk];rfl) rfl hlt rfl
     ·rename_i cs hk
      split at hs
      ·rename_i ety hety
       generalize hy:ZW ety.zero ((chunk ety.size ty.len cs).getD n.toNat [])=y at hs
       cases hb2:(Nat.beq cs.length (ty.len *ety.size)&& !(Nat.beq ety.size 0)) with
       | false=>rw[hb2] at hs;cases hs
       | true=>
         rw[hb2] at hs
         simp only[Qb_] at hs
         split at hs
         ·rename_i r0 hr0
          cases hb3:Nat.beq y.length ety.size with
          | false=>rw[hb3] at hs;cases hs
          | true=>
            rw[hb3] at hs
            have:=Qa_ hs
            cases this
            have hq:=one hp
            exact Xo (os:=[.idx [] 0 y]) (ob:=_) (by simp only[Wh,ha,hb,ZeP,hty,hk,hety,hq.2];simp[hq.1]) (by simp only[Zn,ha,hb,ZbW,hty,hk,hety,hb2,Qb_,hr0,hb3];rfl) rfl hlt rfl
         ·cases hs
      ·cases hs
     ·cases hs
    ·cases hs
   ·cases h
 | indexAddr T x i=>
   simp only at h
   split at h
   ·rename_i a b d ha hb
    split at h
    ·rename_i r0 q hs
     cases hlt:Nat.blt d τ.n with
     | false=>rw[hlt] at h;cases h
     | true=>
       rw[hlt] at h
       have:=Qa_ h
       cases this
       simp only[RR]
       unfold ZlH at hs
       split at hs
       ·rename_i ty k n hty
        split at hs
        ·rename_i xs hk
         split at hs
         ·rename_i ety hety
          generalize hy:ZW ety.zero (xs.getD n.toNat [])=y at hs
          cases hb2:(Nat.beq y.length ety.size&& !(Nat.beq ety.size 0)) with
          | false=>rw[hb2] at hs;cases hs
          | true=>
            rw[hb2] at hs
            have:=Qa_ hs
            cases this
            have hq:=one hp
            exact Xo (os:=[.idx [] 0 y]) (ob:=_) (by simp only[Wh,ha,hb,Jn,hty,hk,hq.2];simp[hq.1]) (by simp only[Zn,ha,hb,hty,hk,hety,hb2,Qb_];rfl) rfl hlt rfl
         ·cases hs
        ·rename_i b0 off hk
         split at hs
         ·rename_i ety hety
          have:=Qa_ hs
          cases this
          have hq:=one hp
          exact Xo (os:=[.pr True]) (ob:=_) (by simp only[Wh,ha,hb,Jn,hty,hk];simp[hq.1,hq.2]) (by simp only[Zn,ha,hb,hty,hk,hety];rfl) rfl hlt rfl
         ·cases hs
        ·rename_i cs off hk
         split at hs
         ·rename_i ety hety
          have:=Qa_ hs
          cases this
          have hq:=one hp
          exact Xo (os:=[.pr True]) (ob:=_) (by simp only[Wh,ha,hb,Jn,hty,hk];simp[hq.1,hq.2]) (by simp only[Zn,ha,hb,hty,hk,hety];rfl) rfl hlt rfl
         ·cases hs
        ·cases hs
       ·cases hs
    ·cases h
   ·cases h
 | slice T x lo hi mx=>
   have key:∀(a:PV) (l h':Option PV) (y0:PV),ZhY E.Γ T a l h'=some (y0,ps)→∃ob,X1 E.Γ T a l h'=some [.pr True]∧YP E.Γ T a l h' [.pr True]=some (y0,[],ob):=by
    intro a l h' y0 hs
    have lens:∀{n:Nat} {l:List (List PV)},Lens n l→Wx n l=true:=fun hl=>QK_.2 fun x hx=>by simpa using hl x hx
    unfold ZhY at hs
    split at hs
    ·rename_i ty hty
     split at hs
     ·rename_i hk
      have:=Qa_ hs;cases this
      have hq:=one hp
      exact ⟨_,by simp only[X1,hty,hk];simp[hq.1,hq.2],by simp only[YP,hty,hk];rfl⟩
     ·rename_i hk
      have:=Qa_ hs;cases this
      have hq:=one hp
      exact ⟨_,by simp only[X1,hty,hk];simp[hq.1,hq.2],by simp only[YP,hty,hk];rfl⟩
     ·rename_i hk
      have:=Qa_ hs;cases this
      have hq:=one hp
      exact ⟨_,by simp only[X1,hty,hk];simp[hq.1,hq.2],by simp only[YP,hty,hk];rfl⟩
     ·rename_i l0 hk
      split at hs
      ·rename_i ety hety
       have:=Qa_ hs;cases this
       have hq:=one hp
       exact ⟨_,by simp only[X1,hty,hk,hety];simp[hq.1,hq.2.1,hq.2.2.1,lens hq.2.2.2],by simp only[YP,hty,hk,hety];rfl⟩
      ·rename_i ety hety
       have:=Qa_ hs;cases this
       have hq:=one hp
       exact ⟨_,by simp only[X1,hty,hk,hety];simp[hq.1,hq.2.1,lens hq.2.2],by simp only[YP,hty,hk,hety];rfl⟩
      ·rename_i ety hety
       have:=Qa_ hs;cases this
       have hq:=one hp
       exact ⟨_,by simp only[X1,hty,hk,hety];simp[hq.1,hq.2.1,lens hq.2.2],by simp only[YP,hty,hk,hety];rfl⟩
      ·cases hs
     ·cases hs
    ·cases hs
   cases mx with
   | some m=>cases h
   | none=>
     simp only at h
     split at h
     ·rename_i a ha
      simp only[RR]
      split at h
      ·cases h
      ·rename_i l
       split at h
       ·rename_i pl hl
        obtain ⟨d,y0,hd,hs,hlt,rfl⟩:=Xd h
        simp only at hd;subst hd
        obtain ⟨ob,h1,h2⟩:=key _ _ _ _ hs
        exact Xo (os:=[.pr True]) (ob:=ob) (by simp only[Wh,ha,hl,h1]) (by simp only[Zn,ha,hl,h2]) rfl hlt rfl
       ·cases h
      ·rename_i l
       split at h
       ·rename_i pl hl
        obtain ⟨d,y0,hd,hs,hlt,rfl⟩:=Xd h
        simp only at hd;subst hd
        obtain ⟨ob,h1,h2⟩:=key _ _ _ _ hs
        exact Xo (os:=[.pr True]) (ob:=ob) (by simp only[Wh,ha,hl,h1]) (by simp only[Zn,ha,hl,h2]) rfl hlt rfl
       ·cases h
      ·rename_i l m
       split at h
       ·rename_i pl pm hl hm
        obtain ⟨d,y0,hd,hs,hlt,rfl⟩:=Xd h
        simp only at hd;subst hd
        obtain ⟨ob,h1,h2⟩:=key _ _ _ _ hs
        exact Xo (os:=[.pr True]) (ob:=ob) (by simp only[Wh,ha,hl,hm,h1]) (by simp only[Zn,ha,hl,hm,h2]) rfl hlt rfl
       ·cases h
     ·cases h
 | convert S T x=>
   have key:∀(a y0:PV),Zre E S T a=some (y0,ps)→ZfI E S T a=some y0:=by
    intro a y0 hs
    unfold Zre at hs
    unfold ZfI
    split at hs
    ·unfold noP at hs
     split at hs
     ·rename_i r0 hr0
      have:=Qa_ hs;cases this
      simp only[hr0]
     ·cases hs
    ·rename_i s b
     split at hs
     ·rename_i k s0 hk hs0
      have:=Qa_ hs;cases this
      have h1:=one hp
      have h2:=hp _ (Qq_ _ (Qv_ ..))
      have h3:=hp _ (Qq_ _ (Qq_ _ (Qv_ ..)))
      simp only[ZqH,hk,hs0]
      generalize ((s.decode b).toInt .zero).getD 0=z at h1 h2 h3
      rw[h1]
      simp[h2,h3]
     ·cases hs
    ·rename_i xs
     cases hb:(Wp E S&&YJ E T) with
     | false=>rw[hb] at hs;cases hs
     | true=>
       rw[hb] at hs
       have:=Qa_ hs;cases this
       have h1:=one hp
       generalize (bytesOf xs).getD []=z at h1
       simp only[ZqI,hb,Qb_,h1]
    ·cases hb:(Wp E S&&YJ E T) with
     | false=>rw[hb] at hs;cases hs
     | true=>
       rw[hb] at hs
       have:=Qa_ hs;cases this
       simp only[hb,Qb_]
    ·cases hb:(YJ E S&&YJ E T) with
     | false=>rw[hb] at hs;cases hs
     | true=>
       rw[hb] at hs
       have:=Qa_ hs;cases this
       simp only[hb,Qb_]
    ·cases hs
   have gen:∀(a y0:PV) (d:Nat),Z0 τ x=some a→Zre E S T a=some (y0,ps)→Nat.blt d τ.n=true→RRgen E (CH C) τ ⟨some d,.convert S T x,type,pos,after,guard⟩=some ⟨.p y0,none,none⟩:=by
    intro a y0 d ha hs hlt
    exact Xo (os:=[.cvt S T a y0]) (ob:=_) (by simp only[Wh,ha,key a y0 hs]) (by simp only[Zn,ha];rfl) rfl hlt rfl
   simp only at h
   split at h
   ·rename_i l hx
    split at h
    ·rename_i r0 hr0
     obtain ⟨d,y0,hd,hs,hlt,rfl⟩:=Xd h
     simp only at hd;subst hd
     cases hs
     simp only[RR,hx,hr0,ZdQ,hlt,Qb_]
    ·rename_i hr0
     obtain ⟨d,y0,hd,hs,hlt,rfl⟩:=Xd h
     simp only at hd;subst hd
     simp only[RR,hx,hr0]
     exact gen _ _ _ hx hs hlt
   ·rename_i a hne hx
    obtain ⟨d,y0,hd,hs,hlt,rfl⟩:=Xd h
    simp only at hd;subst hd
    unfold RR
    simp only
    split
    ·rename_i l hl
     rw[hx] at hl
     exact (hne l (Qa_ hl)).elim
    ·exact gen _ _ _ hx hs hlt
   ·cases h
 | makeSlice T l c=>
   simp only at h
   split at h
   ·rename_i pl pc hl hc
    obtain ⟨d,y0,hd,hs,hlt,rfl⟩:=Xd h
    simp only at hd;subst hd
    simp only[RR,hl,hc]
    unfold Z22 at hs
    split at hs
    ·rename_i ty k n k' m hty
     cases hk:Nat.beq ty.kd 3 with
     | false=>rw[hk] at hs;cases hs
     | true=>
       rw[hk] at hs
       simp only[Qb_] at hs
       split at hs
       ·rename_i ety hety
        cases hb:(Nat.beq ety.size 0|| !(Nat.beq ety.zero.length ety.size)) with
        | true=>rw[hb] at hs;cases hs
        | false=>
          rw[hb] at hs
          have:=Qa_ hs;cases this
          have h1:=one hp
          subst h1
          have h2:=hp _ (Qq_ _ (Qv_ ..))
          have h3:=hp _ (Qq_ _ (Qq_ _ (Qv_ ..)))
          have h4:=hp _ (Qq_ _ (Qq_ _ (Qq_ _ (Qv_ ..))))
          rw[Ka_] at hb
          have e3:Nat.ble 16777216 (n.toNat *ety.size)=false:=by
           cases hh:Nat.ble 16777216 (n.toNat *ety.size) with
           | false=>rfl
           | true=>have:=Qm_ hh;omega
          have e4:Nat.ble 16777216 (n.toNat *ety.bytes)=false:=by
           cases hh:Nat.ble 16777216 (n.toNat *ety.bytes) with
           | false=>rfl
           | true=>have:=Qm_ hh;omega
          simp only[ZdQ,Zpz,hty,hk,hety,hb.1,hb.2,e3,e4,h2,QD_,QZ_,Qb_,Bool.or_self,Qd_,hlt]
       ·cases hs
    ·cases hs
   ·cases h
 | call c=>
   obtain ⟨callee,args,ats⟩:=c
   cases callee with
   | value f=>
     simp only at h
     obtain ⟨d,y0,hd,hs,hlt,rfl⟩:=Xd h
     simp only at hd;subst hd
     simp only[RR]
     have ch:∀g xs,C g xs=some (y0,ps)→CH C g xs=some y0:=by
      intro g xs hg
      unfold CH
      rw[hg]
      simp only[hp,Kw_]
     unfold Z23 at hs
     split at hs
     ·rename_i g0 cs l hf hl
      split at hs
      ·rename_i xs c hh
       split at hs
       ·rename_i r0 q hr0
        cases hb:(!c||flat r0) with
        | false=>rw[hb] at hs;cases hs
        | true=>
          rw[hb] at hs
          have:=Qa_ hs;cases this
          exact Xo (os:=[.call 0 [] y0]) (ob:=_) (by simp only[Wh,Zg3,hf,hl,hh,ch _ _ hr0]) (by simp only[Zn,hf,hl,hh,hb,Qb_];rfl) rfl hlt rfl
       ·cases hs
      ·cases hs
     ·rename_i g0 bs l hf hl
      split at hs
      ·rename_i xs c cs hh hcs
       split at hs
       ·rename_i r0 q hr0
        cases hb:flat r0 with
        | false=>rw[hb] at hs;cases hs
        | true=>
          rw[hb] at hs
          have:=Qa_ hs;cases this
          exact Xo (os:=[.call 0 [] y0]) (ob:=_) (by simp only[Wh,Zg3,hf,hl,hh,hcs,ch _ _ hr0]) (by simp only[Zn,hf,hl,hh,hcs,hb,Qb_];rfl) rfl hlt rfl
       ·cases hs
      ·cases hs
     ·cases hs
   | _=>
     obtain ⟨h1,_⟩:=Zjz h
     exact h1
 | _=>
   obtain ⟨h1,_⟩:=Zjz h
   exact h1
theorem ZlJ{E:Env}{C:ZR}:RSub (RSym E C) (RR2 E (CH C)):=fun j τ o r ps h hp=>by
 unfold RR2
 rw[Z3t j τ o r ps h hp]
end
def Zrf(Γ:List (Nat×Ty))(σ:St)(T:TypeId)(p x:Operand):Option (St×List Prop):=
 match opd σ p,Z0 σ x,lk T Γ with
 | some (.ptr b off),some v,some ty=>match lk b σ.boxes with
   | some cs=>bif Nat.beq v.cells.length ty.size&& !(Nat.beq ty.size 0)&& !(has b σ.ro) then
      match x with
      | .tmp t=>match lkL (.t t) σ.own with
        | some E=>some (YV (Ym σ (.t t)) b off v.cells cs [(.b b off,E)],[off+ty.size≤cs.length])
        | none=>some (YV σ b off v.cells cs [],[off+ty.size≤cs.length])
      | _=>some (YV σ b off v.cells cs [],[off+ty.size≤cs.length])
     else none
   | none=>none
 | _,_,_=>none
theorem Zy2{Γ:List (Nat×Ty)}{σ:St}{T:TypeId}{p x:Operand}{σ':St}{ps:List Prop}(h:Zrf Γ σ T p x=some (σ',ps))(hp:Yj ps):Wn Γ σ T p x=some σ':=by
 unfold Zrf at h
 unfold Wn
 split at h
 ·rename_i b off v ty h1 h2 h3
  simp only[h1,h2,h3]
  split at h
  ·rename_i cs h4
   simp only[h4]
   cases hb:(Nat.beq v.cells.length ty.size&& !(Nat.beq ty.size 0)&& !(has b σ.ro)) with
   | false=>rw[hb] at h;cases h
   | true=>
     rw[hb,Qb_] at h
     have key:off+ty.size≤cs.length→(Nat.beq v.cells.length ty.size&&Nat.ble (off+ty.size) cs.length&& !(Nat.beq ty.size 0)&& !(has b σ.ro))=true:=by
      intro hle
      simp only[Qh_] at hb ⊢
      exact ⟨⟨⟨hb.1.1,QF_ hle⟩,hb.1.2⟩,hb.2⟩
     have fin:∀{s0:St},some (s0,[off+ty.size≤cs.length])=some (σ',ps)→off+ty.size≤cs.length∧s0=σ':=by
      intro s0 e
      have e:=Qa_ e
      have e1:=Kk_ Prod.fst e
      have e2:=Kk_ Prod.snd e
      simp only at e1 e2
      subst e2
      exact ⟨hp _ Qv_,e1⟩
     split at h
     ·split at h
      ·rename_i t E h5
       obtain ⟨f1,f2⟩:=fin h
       rw[key f1,Qb_]
       simp only[h5,f2]
      ·rename_i t h5
       obtain ⟨f1,f2⟩:=fin h
       rw[key f1,Qb_]
       simp only[h5,f2]
     ·rename_i hx
      obtain ⟨f1,f2⟩:=fin h
      rw[key f1,Qb_]
      split
      ·rename_i t
       exact absurd rfl (hx t)
      ·rw[f2]
  ·cases h
 ·cases h
def ZlK(E:Env)(σ:St)(o:Oper):Option (Res×List Prop):=
 match o.dst,o.op with
 | some d,.indexAddr T x i=>match lk T E.Γ,opd σ x,Z0 σ i with
   | some ty,some (.sl b off n s),some (.v (.int _ m))=>match lk ty.elem E.Γ with
     | some ety=>bif Nat.blt d σ.n&&Nat.beq ty.kd 3&&Nat.beq ety.size s then some (⟨.ptr b (off+m.toNat *s),none,none⟩,[0≤m∧m < n]) else none
     | none=>none
   | _,_,_=>none
 | _,_=>none
theorem Zy3{E:Env}{σ:St}{o:Oper}{r:Res}{ps:List Prop}(h:ZlK E σ o=some (r,ps))(hp:Yj ps):RRA E σ o=some r:=by
 obtain ⟨dst,op,type,pos,after,guard⟩:=o
 unfold ZlK at h
 split at h
 ·rename_i d T x i hd ho
  simp only at hd ho
  subst hd;subst ho
  split at h
  ·rename_i ty b off n s k m h1 h2 h3
   split at h
   ·rename_i ety h4
    cases hb:(Nat.blt d σ.n&&Nat.beq ty.kd 3&&Nat.beq ety.size s) with
    | false=>rw[hb] at h;cases h
    | true=>
      rw[hb] at h
      have h:=Qa_ h
      have e1:=Kk_ Prod.fst h
      have e2:=Kk_ Prod.snd h
      simp only at e1 e2
      subst e2;subst e1
      have hm:=hp _ Qv_
      simp only[Qh_] at hb
      unfold RRA
      simp only[h1,h2,h3,h4,hb.1.1,hb.1.2,hb.2,QH_ hm.1,QH_ hm.2,Qb_,QZ_]
   ·cases h
  ·cases h
 ·cases h
theorem Z5F{E:Env}{call:X2}{j:Nat}{σ:St}{dst:Option Tmp}{T:TypeId}{x i:Operand}{ty':TypeId}{pos:String}{after:Array Edge}{gd:Option (Nat×Bool)}{b off n s:Nat}(h:opd σ x=some (.sl b off n s)):
 RR E call j σ ⟨dst,.indexAddr T x i,ty',pos,after,gd⟩=none:=by
 simp only[RR,RRgen]
 split
 ·rename_i os hos
  have:JS E.Γ σ ⟨dst,.indexAddr T x i,ty',pos,after,gd⟩ os=none:=by
   unfold JS
   have e:Zn E.Γ σ ⟨dst,.indexAddr T x i,ty',pos,after,gd⟩ os=none:=by
    simp only[Zn,h]
    cases lk T E.Γ with
    | none=>rfl
    | some t=>cases Z0 σ i with
      | none=>rfl
      | some y=>
        split
        ·rename_i h1 h2 h3
         cases h2
         split<;>simp_all
        ·rfl
   rw[e]
  rw[this]
 ·rfl
theorem Zy4{E:Env}{call:X2}{j:Nat}{σ:St}{o:Oper}{r:Res}{ps:List Prop}(h:ZlK E σ o=some (r,ps))(hp:Yj ps):RR2 E call j σ o=some r:=by
 have h2:=Zy3 h hp
 obtain ⟨dst,op,type,pos,after,guard⟩:=o
 unfold ZlK at h
 split at h
 ·rename_i d T x i hd ho
  simp only at hd ho
  subst hd;subst ho
  split at h
  ·rename_i ty b off n s k m h1 h3 h4
   unfold RR2
   rw[Z5F h3]
   exact h2
  ·cases h
 ·cases h
def ZvT(E:Env)(σ:St)(o:Oper):Option (Res×List Prop):=
 match o.op with
 | .call ⟨.builtin .len,args,_⟩=>match args.toList with
   | [x]=>match opd σ x with
     | some (.sl _ _ _ _)=>match RRA E σ o with
       | some r=>some (r,[])
       | none=>none
     | _=>none
   | _=>none
 | _=>none
theorem Zy5{E:Env}{call:X2}{j:Nat}{σ:St}{o:Oper}{r:Res}{ps:List Prop}(h:ZvT E σ o=some (r,ps)):RR2 E call j σ o=some r:=by
 obtain ⟨dst,op,type,pos,after,guard⟩:=o
 unfold ZvT at h
 split at h
 ·rename_i args ats ho
  simp only at ho
  subst ho
  split at h
  ·rename_i x hx
   split at h
   ·rename_i b off n s h1
    split at h
    ·rename_i r' h2
     have h:=Qa_ h
     have e1:=Kk_ Prod.fst h
     simp only at e1
     subst e1
     have hr:RR E call j σ ⟨dst,.call ⟨.builtin .len,args,ats⟩,type,pos,after,guard⟩=none:=by
      have hm:XV (Z0 σ) args.toList=none:=by
       rw[hx]
       simp only[XV,Z0,h1]
      simp only[RR,RRgen]
      split
      ·rename_i os hos
       have:JS E.Γ σ ⟨dst,.call ⟨.builtin .len,args,ats⟩,type,pos,after,guard⟩ os=none:=by
        unfold JS
        have e:Zn E.Γ σ ⟨dst,.call ⟨.builtin .len,args,ats⟩,type,pos,after,guard⟩ os=none:=by
         simp only[Zn,hm]
        rw[e]
       rw[this]
      ·rfl
     unfold RR2
     rw[hr]
     exact h2
    ·cases h
   ·cases h
  ·cases h
 ·cases h
def ZvU(E:Env)(C:ZR)(j:Nat)(σ:St)(o:Oper):Option (Res×List Prop):=
 match ZlK E σ o with
 | some r=>some r
 | none=>match ZvT E σ o with
   | some r=>some r
   | none=>RSym E C j σ o
def Z24(σ:St)(p:Operand):Bool:=match opd σ p with
 | some (.ptr b _)=>σ.tmps.any fun (_,v)=>match v with | .sl b' _ _ _=>Nat.beq b' b | _=>false
 | _=>false
theorem Z25{E:Env}{C:ZR}:RSub (ZvU E C) (RR2 E (CH C)):=by
 intro j τ o r ps h hp
 unfold ZvU at h
 split at h
 ·rename_i q hq
  cases Qa_ h
  exact Zy4 hq hp
 ·split at h
  ·rename_i q hq
   cases Qa_ h
   exact Zy5 hq
  ·exact ZlJ j τ o r ps h hp
variable {P:Program}
def ZaB(P:Program)(f:FuncId)(args:List PV)(E:TypeId)(r:PV):Prop:=
 ∀(hw:Nat→Nat) (w:World) (vals:List Value),(∀k,w.heap.size≤k→hw k=0)→GlobOk hw w→ArgsRep hw w vals args→
  CallRes P f vals.toArray w fun v w'=>∃hw',Qt hw w hw' w'∧Rep hw' w' v r∧OwnV P w.heap.size hw' w' E v
def Zp5(σ:St)(t:Nat):Option Nat:=match lkL (.t t) σ.own with
 | some E=>some E
 | none=>match lk t σ.al with
   | some l=>lkL l σ.own
   | none=>none
theorem Zy6{B:Nat}{g:G}{σ:St}{a:Act}{w:World}(hI:Inv P B g σ a w){t E:Nat}(h:Zp5 σ t=some E):OwnV P B g.hw w E (a.tmps.getD t undef):=by
 unfold Zp5 at h
 split at h
 ·rename_i E' hE
  cases Qa_ h
  obtain ⟨val,k1,k2,_⟩:=hI.own _ _ hE
  have k1:a.tmps.getD t undef=val:=k1
  rw[k1];exact k2
 ·split at h
  ·rename_i l hl
   obtain ⟨val,k1,k2,_⟩:=hI.own _ _ h
   rw[J6 (hI.al t l (Zbh hl)) k1];exact k2
  ·cases h
theorem Z3u{Γ:List (Nat×Ty)}(hΓ:Yb P Γ){f:FuncId}{fn:Func}{c:Code}(hcall:∀args w,(callFunc f args).run P w= .ok (.enter f args) w)(hf:P.funcs[f]?=some fn)(hb:fn.body=some c)
 {args:List PV} (hn:Nat.ble args.length fn.ntmps=true) {e:Ex} {σ':St} (ht:Tri P c (Xn fn.ntmps args) e σ') (he:Ja e=true) {t:Nat} (hres:fn.results=#[.tmp t]) {E:TypeId} (hown:Zp5 σ' t=some E) {r:List PV} (hr:JU Γ σ' fn.results.toList=some r):ZaB P f args E (Zay r):=by
 intro hw w vals hl hgl ha
 refine .inr ⟨f,hcall _ _,calls_of_wp hf hb (wp_mono (ht _ _ _ w (Zq1 hl hgl ha (Qm_ hn))) fun ex a' w' ⟨hx,g',hI,hF⟩=>?_)⟩
 have key:a'.defers=[]∧∃v,(results fn a'.tmps).run P w'= .ok v w'∧∃v0,Ending.returned v= .returned v0∧∃hw',Qt hw w hw' w'∧Rep hw' w' v0 (Zay r)∧OwnV P w.heap.size hw' w' E v0:=by
  obtain ⟨v,h1,h2⟩:=Zjm hΓ hI hr
  have nl:∀k,¬Jy ⟨fun _=>none,hw⟩ (Xn fn.ntmps args) k:=fun k ⟨b,cs,base,_,h,_⟩=>by simp[Xn,lk] at h
  have k2:=Zy6 hI hown
  have hv:v=a'.tmps.getD t undef:=by
   have e:(results fn a'.tmps).run P w'= .ok (a'.tmps.getD t undef) w':=by
    unfold results
    rw[hres,KC_]
    simp only[map_eq_pure_bind,bind_assoc,pure_bind,Sem.run_bind,List.mapM_cons,List.mapM_nil,Sem.run_pure,Result.andThen_ok]
    rfl
   rw[h1] at e
   injection e with e1 _
  exact ⟨hI.defers,v,h1,v,rfl,g'.hw,⟨⟨hF.os,hF.tape,hF.output,hF.size,fun k hk=>hF.block k hk (nl k)⟩,fun k hk=>hF.hw k hk (nl k),hI.hwlt⟩,h2,hv▸k2⟩
 cases ex<;>first | exact key | (cases e<;>first | exact hx.elim | exact absurd he (by simp[Ja]))
theorem Z3v{hw:Nat→Nat}{w:World}{v:Value}{xs:List (List PV)}{B:Nat}{E:TypeId}{i:TypeInfo}(hi:P.info? E=some i)(h:Rep hw w v (.lst xs))(ho:OwnV P B hw w E v)(hs:Lens i.size xs)(hx:xs≠[])(hflat:∀x∈xs,∀y∈x,flat y=true):
 ∃k cap,v= .slice (some ⟨k,0,none⟩) xs.length cap∧B≤k∧k < w.heap.size∧xs.length≤cap∧∀(β:Nat→Option (Nat×Nat)) (hw':Nat→Nat),BoxOk ⟨β,hw'⟩ w k 0 xs.flatten:=by
 obtain ⟨i',n,xv,e1,hown,_⟩:=ho
 rw[hi] at e1
 cases Qa_ e1
 obtain ⟨hn,hc⟩:=Zc8 h hown hs
 subst hn
 rcases hown.2 with ⟨_,h0⟩ | ⟨k,cap,cur,rfl,hB,hb,hcap,_,_,_⟩
 ·exact absurd (QM_ h0) hx
 ·refine ⟨k,cap,rfl,hB,(QL_.1 hb).1,hcap,fun β hw'=>⟨fun j y hj=>?_⟩⟩
  obtain ⟨a,b,x,h4,h5,h6⟩:=Zg9 hs hj
  obtain ⟨u,h7,h8,h9⟩:=hc a b x y h4 h5
  refine ⟨u, ?_,h8,hown.frozenAt _,.rep (Zqt (hflat x (Qz_ h4) y (Qz_ h5)) h9)⟩
  have:=hown.cells (g:=k) rfl (a *i.size+b) u h7
  rw[Addr.add_lit] at this
  rw[h6]
  exact this
def Z4l(P:Program)(f:FuncId)(args:List PV)(n:Nat)(cs:List PV):Prop:=
 ∀(hw:Nat→Nat) (w:World) (vals:List Value),(∀k,w.heap.size≤k→hw k=0)→GlobOk hw w→ArgsRep hw w vals args→
  CallRes P f vals.toArray w fun v w'=>∃hw' k cap,Qt hw w hw' w'∧v= .slice (some ⟨k,0,none⟩) n cap∧w.heap.size≤k∧k < w'.heap.size∧n≤cap∧hw' k=0∧∀(β:Nat→Option (Nat×Nat)) (hw2:Nat→Nat),BoxOk ⟨β,hw2⟩ w' k 0 cs
theorem Z3w{f:FuncId}{args:List PV}{E:TypeId}{xs:List (List PV)}{i:TypeInfo}(h:ZaB P f args E (.lst xs))(hi:P.info? E=some i)(hs:Lens i.size xs)(hx:xs≠[])(hflat:∀x∈xs,∀y∈x,flat y=true):Z4l P f args xs.length xs.flatten:=by
 intro hw w vals hl hgl ha
 refine (h hw w vals hl hgl ha).mono fun v w' ⟨hw',q,hr,ho⟩=>?_
 obtain ⟨k,cap,h1,h2,h3,h4,h5⟩:=Z3v hi hr ho hs hx hflat
 refine ⟨fun j=>if j=k then 0 else hw' j,k,cap,⟨q.below,fun j hj=>?_,fun j hj=>?_⟩,h1,h2,h3,h4,by simp,h5⟩
 ·show (if j=k then 0 else hw' j)=hw j
  rw[if_neg (by omega)]
  exact q.hw j hj
 ·show (if j=k then 0 else hw' j)=0
  rw[if_neg (by omega)]
  exact q.hwlt j hj
theorem ZtL{B:Nat}{g:G}{σ:St}{a:Act}{w:World}(hI:Inv P B g σ a w){f:FuncId}{vals:List Value}{xs:List PV}{n:Nat}{cs:List PV}(hc:Z4l P f xs n cs)(ha:ArgsRep g.hw w vals xs)
 {d s:Nat} (hd:d < σ.n) (hdb:lk d σ.boxes=none) (hrf:∀y∈cs,Xg y=none):
 CallRes P f vals.toArray w fun v w'=>∃g',Inv P B g' (put {σ with boxes:=(d,cs)::σ.boxes} d (.sl d 0 n s)) (a.put (some d) v) w'∧Fr B g σ w g' (put {σ with boxes:=(d,cs)::σ.boxes} d (.sl d 0 n s)) w':=by
 refine (hc _ w vals hI.hwlt hI.glob.1 ha).mono fun v w' ⟨hw',k,cap,q,hv,h1,h2,h3,h4,h5⟩=>?_
 obtain ⟨i1,f1⟩:=Zh9 hI q
 subst hv
 have hnb:∀b cs base,lk b σ.boxes=some cs→g.β b≠some (k,base):=by
  intro b cs base hb e
  obtain ⟨k',base',e1,e2,_⟩:=hI.box b cs hb
  rw[e] at e1
  cases Qa_ e1
  omega
 have hno:∀l E val,lkL l σ.own=some E→LocIs ⟨g.β,hw'⟩ a w' l val→val.ownBlock≠some k:=by
  intro l E val hl hloc e
  obtain ⟨val0,q1,q2,_⟩:=hI.own l E hl
  have:val0=val:=by
   cases l with
   | t t=>exact q1.symm.trans hloc
   | b b c=>
     obtain ⟨k1,b1,e1,e2⟩:=q1
     obtain ⟨k2,b2,e3,e4⟩:=hloc
     have e3:g.β b=some (k2,b2):=e3
     rw[e1] at e3
     cases Qa_ e3
     obtain ⟨c1,hc1⟩:=hI.ownt _ E hl
     obtain ⟨k3,b3,e5,e6,_⟩:=hI.box b c1 hc1
     rw[e1] at e5
     cases Qa_ e5
     rw[q.cell k1 _ e6] at e4
     exact Qa_ (e2.symm.trans e4)
  subst this
  have:=(Yr q2 k e).1
  omega
 obtain ⟨i2,f2⟩:=Zyo i1 (s:=s) hd hdb h2 (QT_ hI.base h1) h4 h3 hnb hno (h5 _ _) (fun y hy b' hb'=>by rw[hrf y hy] at hb';cases hb')
 exact ⟨_,i2,f1.trans f2⟩
abbrev Yn:=Nat→List PV→List PV→Option (PV×List PV×List Prop)
abbrev Yk:=Nat→St→List AV→Option (PV×St×List Prop)
open Classical in
noncomputable def CHP(C:Yn):Zl4:=fun f cs args=>match C f cs args with
 | some (r,cs',ps)=>if Yj ps then some (r,cs') else none
 | none=>none
open Classical in
noncomputable def CHI(C:Yk):ZgA:=fun f σ args=>match C f σ args with
 | some (r,σ',ps)=>if Yj ps then some (r,σ') else none
 | none=>none
def CSPOk(P:Program)(C:Yn):Prop:=∀f cs args r cs' ps,C f cs args=some (r,cs',ps)→Yj ps→ZdJ P f cs args r cs'
def CSIOk(P:Program)(C:Yk):Prop:=∀f σ args r σ' ps,C f σ args=some (r,σ',ps)→Yj ps→Zv3 P f σ args r σ'
theorem Zy7{P:Program}{C:Yn}(h:CSPOk P C):Zu5 P (CHP C):=fun f cs args r cs' hr=>by
 unfold CHP at hr
 split at hr
 ·rename_i r' cs2 ps h1
  split at hr
  ·rename_i hp
   have:=Qa_ hr
   cases this
   exact h _ _ _ _ _ _ h1 hp
  ·cases hr
 ·cases hr
theorem Zy8{P:Program}{C:Yk}(h:CSIOk P C):Zn0 P (CHI C):=fun f σ args r σ' hr=>by
 unfold CHI at hr
 split at hr
 ·rename_i r' cs2 ps h1
  split at hr
  ·rename_i hp
   have:=Qa_ hr
   cases this
   exact h _ _ _ _ _ _ h1 hp
  ·cases hr
 ·cases hr
def noT(x:Option St):Option (St×List Prop):=match x with
 | some σ=>some (σ,[])
 | none=>none
def ZcG(E:Env)(C:ZR)(j:Nat)(σ:St)(o:Oper):Option (St×List Prop):=
 match ZvU E C j σ o with
 | some (r,ps)=>match o.dst with
   | some d=>some (X6 σ d r,ps)
   | none=>bif Ys r.box then some (σ,ps) else none
 | none=>none
def Z4m:List Obl→Option Prop
 | [.pr p]=>some p
 | _=>none
def Zy9(C:Yk)(σ:St)(o:Oper)(fid:Nat)(args:List Operand):Option (St×List Prop):=
 match XV (opd σ) args with
 | some l=>bif l.all (Zcb σ.boxes)&&WK σ.boxes then
    match C fid σ l with
    | some (r,σ1,ps)=>match o.dst with
      | some d=>bif Nat.blt d σ1.n then some (put σ1 d (.p r),ps) else none
      | none=>some (σ1,ps)
    | none=>none
   else none
 | none=>none
def ZfM(xs:List (List PV)):List UInt8:=(bytesOf xs).getD []
def Z0P(σ:St)(e:TypeId)(dst:Option Nat)(x:Operand):Option (St×List Prop):=
 match opd σ x,dst with
 | some (.ptr b off),some d=>match lk b σ.boxes with
   | some (.bld _::y::_)=>bif Nat.beq off 0&&Nat.blt d σ.n then
     match y with
     | .nil=>some (put σ d (.p (.str [])),[])
     | .lst xs=>match lkL (.b b 1) σ.own with
       | some E=>bif Nat.beq E e then some (put (Ym σ (.b b 1)) d (.p (.str (ZfM xs))),[∃c l,bytesOf xs=some (c::l)]) else none
       | none=>none
     | _=>none
     else none
   | _=>none
 | _,_=>none
theorem Z0Q{σ σ':St}{e:TypeId}{dst:Option Nat}{x:Operand}{ps:List Prop}(h:Z0P σ e dst x=some (σ',ps))(hp:Yj ps):ZhQ σ e dst x=some σ':=by
 unfold Z0P at h
 unfold ZhQ
 split at h
 ·rename_i b off d hx
  simp only[hx]
  split at h
  ·rename_i u y r hb
   simp only[hb]
   cases hc:(Nat.beq off 0&&Nat.blt d σ.n) with
   | false=>rw[hc] at h;cases h
   | true=>
     rw[hc] at h
     simp only[Qb_] at h ⊢
     split at h
     ·cases Qa_ h;rfl
     ·rename_i xs
      split at h
      ·rename_i E hE
       cases he:Nat.beq E e with
       | false=>rw[he] at h;cases h
       | true=>
         rw[he] at h
         cases Qa_ h
         obtain ⟨c,l,hl⟩:∃c l,bytesOf xs=some (c::l):=hp _ Qv_
         simp only[hl,hE,he,Qb_,ZfM,Ks_]
      ·cases h
     ·cases h
  ·cases h
 ·cases h
def Z26(E:Env)(C:ZR)(CP:Yn)(CI:Yk)(j:Nat)(σ:St)(o:Oper)(f:Operand)(args:List Operand):Option (St×List Prop):=
 match f with
 | .func fid=>bif has fid E.wr then
    match args with
    | p::rest=>match opd σ p,XV (opd σ) rest with
      | some (.ptr b off),some l=>match lk b σ.boxes,Xy σ.boxes l with
        | some cs,some (xs,_)=>match CP fid (cs.drop off) xs with
          | some (r,cs',ps)=>match ZfF σ o.dst f args [.callp 0 [] [] r cs'] with
            | some (σ',_,_)=>bif Nat.beq cs'.length (cs.length - off) then some (σ',ps) else none
            | none=>none
          | none=>none
        | _,_=>none
      | _,_=>none
    | []=>none
   else bif has fid E.inl then Zy9 CI σ o fid args
   else bif has fid E.cc then (match args with | [x]=>noT (Zv4 σ o.dst x) | _=>none)
   else match lk fid E.bst with
   | some e=>(match args with | [x]=>Z0P σ e o.dst x | _=>none)
   | none=>ZcG E C j σ o
 | _=>ZcG E C j σ o
def apS(E:Env)(σ:St)(d:Nat)(x y:Operand)(t u:TypeId):Option (St×List Prop):=
 match lk t E.Γ,Z0 σ x,Z0 σ y with
 | some ty,some xv,some (.str l)=>bif YJ E u&&Nat.beq ty.kd 3 then
    match lk ty.elem E.Γ with
    | some ety=>bif Nat.beq ety.size 1&&Nat.beq ety.bytes 1 then
      match xv,x with
      | .nil,_=>some (Jl (put σ d (.p (.lst (Z4 l)))) d ty.elem,[0+l.length≤140737488355328])
      | .lst xs,.tmp t1=>
        match lkL (match lk t1 σ.al with | some l=>l | none=> .t t1) σ.own with
        | some E'=>bif Nat.beq E' ty.elem then some (Jl (put (Ym σ (match lk t1 σ.al with | some l=>l | none=> .t t1)) d (.p (.lst (xs++Z4 l)))) d ty.elem,[xs.length+l.length≤140737488355328∧Lens 1 xs]) else none
        | none=>none
      | _,_=>none
      else none
    | none=>none
   else none
 | _,_,_=>none
theorem Z3x{E:Env}{σ σ':St}{d:Nat}{x y:Operand}{t u:TypeId}{ps:List Prop}(h:apS E σ d x y t u=some (σ',ps))(hp:Yj ps):ZcE E σ d x y t u=some σ':=by
 unfold apS at h
 unfold ZcE
 split at h
 ·rename_i ty xv l hty hx hy
  simp only[hty,hx,hy]
  cases hb:(YJ E u&&Nat.beq ty.kd 3) with
  | false=>rw[hb] at h;cases h
  | true=>
    rw[hb] at h
    simp only[Qb_] at h ⊢
    split at h
    ·rename_i ety hety
     simp only[hety]
     cases hb2:(Nat.beq ety.size 1&&Nat.beq ety.bytes 1) with
     | false=>rw[hb2] at h;cases h
     | true=>
       rw[hb2] at h
       simp only[Qb_] at h ⊢
       split at h
       ·cases Qa_ h
        have h1:0+l.length≤140737488355328:=hp _ Qv_
        simp only[QF_ h1,Qb_]
       ·rename_i xs t1
        have fin:∀{L:Loc},(match lkL L σ.own with
         | some E'=>bif Nat.beq E' ty.elem then some (Jl (put (Ym σ L) d (.p (.lst (xs++Z4 l)))) d ty.elem,[xs.length+l.length≤140737488355328∧Lens 1 xs]) else none
         | none=>none)=some (σ',ps)→(match lkL L σ.own with
         | some E'=>bif Nat.beq E' ty.elem&&Nat.ble (xs.length+l.length) 140737488355328&&Wx 1 xs then some (Jl (put (Ym σ L) d (.p (.lst (xs++Z4 l)))) d ty.elem) else none
         | none=>none)=some σ':=by
         intro L h
         split at h
         ·rename_i E' hE
          cases hb3:Nat.beq E' ty.elem with
          | false=>rw[hb3] at h;cases h
          | true=>
            rw[hb3] at h
            cases Qa_ h
            obtain ⟨h1,h2⟩:xs.length+l.length≤140737488355328∧Lens 1 xs:=hp _ Qv_
            have h3:Wx 1 xs=true:=QK_.2 fun x hx=>by simpa using h2 x hx
            simp only[hE,hb3,QF_ h1,h3,QZ_,Qb_]
         ·cases h
        cases hal:lk t1 σ.al with
        | none=>simp only[hal] at h ⊢;exact fin h
        | some l2=>simp only[hal] at h ⊢;exact fin h
       ·cases h
    ·cases h
 ·cases h
def TSym(E:Env)(C:ZR)(CP:Yn)(CI:Yk)(j:Nat)(σ:St)(o:Oper):Option (St×List Prop):=
 match o.op with
 | .store T p x=>match o.dst with
   | none=>bif Z24 σ p then Zrf E.Γ σ T p x else match Wn E.Γ σ T p x with
     | some σ'=>some (σ',[])
     | none=>none
   | some _=>none
 | .buildSlice T n ps=>bif has T E.sla&&Nat.beq n 0 then
    match o.dst,ps.toList with
    | some d,[]=>noT (Zp0 E σ d T)
    | _,_=>none
   else ZcG E C j σ o
 | .call ⟨.builtin .append,args,ats⟩=>match args.toList,ats.toList,o.dst with
   | [x,y],[t,t'],some d=>bif has t E.sla&&isE σ x then noT (Zju E σ d x y t t') else bif Nat.beq t t' then (bif Nat.blt d σ.n then
       match J5 E.Γ σ d x y t t' [.pr True] with
       | some (σ',_,ob)=>match Z4m ob with
         | some p=>some (σ',[p])
         | none=>none
       | none=>none
     else none) else bif Nat.blt d σ.n then apS E σ d x y t t' else none
   | _,_,_=>none
 | .slice T x none none none=>match o.dst with
   | some d=>bif Nat.blt d σ.n then noT (Zgq E.Γ σ d T x) else none
   | none=>none
 | .call ⟨.value f,args,_⟩=>Z26 E C CP CI j σ o f args.toList
 | .alloc T=>bif Nat.beq T Zbc then noT (ZhR E ZlI j σ o T) else ZcG E C j σ o
 | _=>ZcG E C j σ o
section
variable {P:Program}{σ:St}{o:Oper}
theorem ZfN{x:Option St}{r:St}{ps:List Prop}(h:noT x=some (r,ps)):x=some r∧ps=[]:=by
 unfold noT at h
 split at h
 ·have:=Qa_ h
  cases this
  exact ⟨rfl,rfl⟩
 ·cases h
theorem ZvV{E:Env}{C:ZR}{j:Nat}{σ':St}{ps:List Prop}(h:ZcG E C j σ o=some (σ',ps))(hp:Yj ps):Zan E (CH C) j σ o=some σ':=by
 unfold ZcG at h
 unfold Zan
 split at h
 ·rename_i r q hr
  split at h
  ·rename_i d hd
   have:=Qa_ h
   cases this
   simp only[Z25 j σ o r _ hr hp,hd]
  ·rename_i hd
   cases hb:Ys r.box with
   | false=>rw[hb] at h;cases h
   | true=>
     rw[hb] at h
     have:=Qa_ h
     cases this
     simp only[Z25 j σ o r _ hr hp,hd,hb,Qb_]
 ·cases h
theorem Z4n{Γ:List (Nat×Ty)}{d:Nat}{x y:Operand}{t t':TypeId}{σ':St}{os ob:List Obl}{p:Prop}(h:J5 Γ σ d x y t t' [.pr True]=some (σ',os,ob))(ho:Z4m ob=some p)(hp:p):ZaO Γ σ x y t=true:=by
 have lens:∀{n:Nat} {l:List (List PV)},Lens n l→Wx n l=true:=fun hl=>QK_.2 fun x hx=>by simpa using hl x hx
 have blt:∀{a b:Nat},a < b→Nat.blt a b=true:=fun h=>QF_ h
 unfold J5 at h
 unfold ZaO
 split at h
 ·rename_i ty xv ys _ os' hty hx hy he
  simp only[hty,hx,hy]
  cases hb:(Nat.beq t t'&&Nat.beq ty.kd 3) with
  | false=>rw[hb] at h;cases h
  | true=>
    rw[hb] at h
    simp only[Qb_] at h
    split at h
    ·rename_i ety hety
     cases hb2:(Nat.beq ety.size 0||Nat.beq ety.bytes 0) with
     | true=>rw[hb2] at h;cases h
     | false=>
       rw[hb2] at h
       simp only[Qd_] at h
       split at h
       ·have:=Qa_ h
        cases this
        cases ho
        simp only[hety,blt hp.1,QF_ hp.2.1,lens hp.2.2,QZ_]
       ·rename_i xs t1
        split at h
        ·rename_i E1 hE1
         cases hb3:Nat.beq E1 ty.elem with
         | false=>simp only[hb3] at h;cases h
         | true=>
           simp only[hb3] at h
           have:=Qa_ h
           cases this
           cases ho
           simp only[hety,blt hp.1,QF_ hp.2.1,lens hp.2.2,QZ_]
        ·cases h
       ·cases h
    ·cases h
 ·cases h
theorem ZuF{E:Env}{C:ZR}{CP:Yn}{CI:Yk}:TSub (TSym E C CP CI) (TT E (CH C) (CHP CP) (CHI CI)):=by
 intro j σ o σ' ps h hp
 have hQ:∀{o:Oper},ZcG E C j σ o=some (σ',ps)→Zan E (CH C) j σ o=some σ':=fun h=>ZvV h hp
 obtain ⟨dst,op,type,pos,after,guard⟩:=o
 unfold TSym at h
 cases op with
 | store T p x=>
   cases dst with
   | some d=>cases h
   | none=>
     simp only at h
     cases hb:Z24 σ p with
     | true=>
       rw[hb,Qb_] at h
       simp only[TT,Zy2 h hp]
     | false=>
       rw[hb,Qd_] at h
       split at h
       ·rename_i σ2 h2
        have:=Qa_ h
        cases this
        simp only[TT,h2]
       ·cases h
 | buildSlice T n q=>
   simp only at h
   simp only[TT]
   cases hb:(has T E.sla&&Nat.beq n 0) with
   | false=>rw[hb] at h;exact hQ h
   | true=>
     rw[hb] at h
     simp only[Qb_] at h ⊢
     split at h
     ·rename_i d hd hps
      simp only[hps]
      exact (ZfN h).1
     ·cases h
 | slice T x lo hi mx=>
   cases lo with
   | some l=>exact hQ h
   | none=>cases hi with
     | some l=>exact hQ h
     | none=>cases mx with
       | some l=>exact hQ h
       | none=>
         cases dst with
         | none=>cases h
         | some d=>
           simp only at h
           simp only[TT]
           cases hb:Nat.blt d σ.n with
           | false=>rw[hb] at h;cases h
           | true=>rw[hb] at h;exact (ZfN h).1
 | alloc T=>
   simp only at h
   simp only[TT,ZhR]
   cases hb:Nat.beq T Zbc with
   | false=>rw[hb] at h;exact hQ h
   | true=>
     rw[hb] at h
     have h1:=(ZfN h).1
     simp only[ZhR,hb,Qb_] at h1
     exact h1
 | call c=>
   obtain ⟨callee,args,ats⟩:=c
   cases callee with
   | value f=>
     simp only at h
     simp only[TT]
     unfold Z26 at h
     unfold Zv6
     split at h
     ·rename_i fid
      simp only
      cases hb:has fid E.wr with
      | true=>
        rw[hb] at h
        simp only[Qb_] at h ⊢
        split at h
        ·rename_i p rest hargs
         split at h
         ·rename_i b off l hop hl
          split at h
          ·rename_i cs xs c hcs hxs
           split at h
           ·rename_i r cs' q hcp
            split at h
            ·rename_i σ1 _ _ h1
             cases hb2:Nat.beq cs'.length (cs.length - off) with
             | false=>rw[hb2] at h;cases h
             | true=>
               rw[hb2] at h
               have:=Qa_ h
               cases this
               have hch:CHP CP fid (cs.drop off) xs=some (r,cs'):=by
                unfold CHP
                rw[hcp]
                simp only[hp,Kw_]
               simp only[hargs,hop,hl,hcs,hxs,hch]
               rw[hargs] at h1
               simp only[h1,hb2,Qb_]
            ·cases h
           ·cases h
          ·cases h
         ·cases h
        ·cases h
      | false=>
        rw[hb] at h
        simp only[Qd_] at h ⊢
        cases hb2:has fid E.inl with
        | true=>
          rw[hb2] at h
          simp only[Qb_] at h ⊢
          unfold Zy9 at h
          unfold Zp1
          split at h
          ·rename_i l hl
           simp only[hl]
           cases hb3:(l.all (Zcb σ.boxes)&&WK σ.boxes) with
           | false=>rw[hb3] at h;cases h
           | true=>
             rw[hb3] at h
             simp only[Qb_] at h ⊢
             split at h
             ·rename_i r σ1 q hci
              have hch:Yj q→CHI CI fid σ l=some (r,σ1):=by
               intro hq
               unfold CHI
               rw[hci]
               simp only[hq,Kw_]
              cases dst with
              | some d=>
                simp only at h ⊢
                cases hb4:Nat.blt d σ1.n with
                | false=>rw[hb4] at h;cases h
                | true=>
                  rw[hb4] at h
                  have:=Qa_ h
                  cases this
                  simp only[hch hp,hb4,Qb_]
              | none=>
                simp only at h ⊢
                have:=Qa_ h
                cases this
                simp only[hch hp]
             ·cases h
          ·cases h
        | false=>
          rw[hb2] at h
          simp only[Qd_] at h ⊢
          cases hb3:has fid E.cc with
          | true=>
            rw[hb3] at h
            simp only[Qb_] at h ⊢
            split at h
            ·rename_i x hx
             simp only[hx]
             exact (ZfN h).1
            ·cases h
          | false=>
            rw[hb3] at h
            simp only[Qd_] at h ⊢
            split at h
            ·rename_i e he
             simp only[he]
             split at h
             ·rename_i x hx
              simp only[hx]
              exact Z0Q h hp
             ·cases h
            ·rename_i he
             simp only[he]
             exact hQ h
     ·rename_i hne
      split
      ·rename_i fid;exact (hne fid rfl).elim
      ·exact hQ h
   | builtin b=>
     cases b with
     | append=>
       simp only at h
       simp only[TT]
       split at h
       ·rename_i x y t t' d hargs hats
        simp only[hargs,hats]
        cases hb:(has t E.sla&&isE σ x) with
        | true=>
          rw[hb] at h
          exact (ZfN h).1
        | false=>
          rw[hb] at h
          simp only[Qd_] at h ⊢
          cases hb2:Nat.beq t t' with
          | true=>
            rw[hb2] at h
            simp only[Qb_] at h ⊢
            cases hb3:Nat.blt d σ.n with
            | false=>rw[hb3] at h;cases h
            | true=>
              rw[hb3] at h
              simp only[Qb_] at h
              split at h
              ·rename_i σ1 os1 ob1 h1
               split at h
               ·rename_i p hpr
                have:=Qa_ h
                cases this
                simp only[Z4n h1 hpr (one hp),QZ_,Qb_,h1]
               ·cases h
              ·cases h
          | false=>
            rw[hb2] at h
            simp only[Qd_] at h ⊢
            cases hb3:Nat.blt d σ.n with
            | false=>rw[hb3] at h;cases h
            | true=>rw[hb3] at h;exact Z3x h hp
       ·cases h
     | _=>exact hQ h
   | _=>exact hQ h
 | _=>exact hQ h
end
structure Gx where
 pb:List (Nat×List Nat)
 cb:List Nat
 ow:List (Nat×Nat)
 nf:List Nat
 ob:List Nat
def noG:Gx:=⟨[],[],[],[],[]⟩
structure HdOk(cs:List PV):Prop where
 h:Y3 cs=true
def Z0R(d:Nat)(σ:St):Option (St×List Prop):=match lk d σ.tmps with
 | some (.sl b off n s)=>match lk b σ.boxes with
   | some cs=>bif Nat.blt d σ.n&&Nat.beq off 0 then
      some ({σ with tmps:=(d,.p (.lst (chunk s n cs)))::σ.tmps,ro:=b::σ.ro},[cs.length=n *s∧HdOk cs])
     else none
   | none=>none
 | some _=>some (σ,[])
 | none=>none
def ZlL:List Nat→St→Option (St×List Prop)
 | [],σ=>some (σ,[])
 | d::r,σ=>match Z0R d σ with
   | some (σ1,ps)=>match ZlL r σ1 with
     | some (σ2,qs)=>some (σ2,ps++qs)
     | none=>none
   | none=>none
theorem XX{l l':List Prop}(h:Yj (l++l')):Yj l∧Yj l':=⟨fun p hp=>h p (Kg_ _ hp),fun p hp=>h p (Kq_ _ hp)⟩
section
variable {P:Program}{B:Nat}{g:G}{σ σ':St}{a:Act}{w:World}
theorem Z0S(hI:Inv P B g σ a w){d:Nat}{x:PV}(hd:d < σ.n)(hr:Rep g.hw w (a.tmps.getD d undef) x):Inv P B g {σ with tmps:=(d,.p x)::σ.tmps} a w:=by
 have lkc:∀t' v,lk t' ((d,AV.p x)::σ.tmps)=some v→(t'=d∧v= .p x)∨lk t' σ.tmps=some v:=by
  intro t' v h
  rw[Zm] at h
  split at h
  ·rename_i e
   exact .inl ⟨e,(Qa_ h).symm⟩
  ·exact .inr h
 refine ⟨hI.size,hI.defers,fun t' v h=>?_,fun t' b off h=>?_,fun t' f bs h=>?_,hI.box,hI.inj,hI.hwlt,hI.base,hI.glob,hI.own,hI.ownt,hI.owninj,hI.al,hI.alt,fun t' b off n s h=>?_,hI.ref⟩
 ·rcases lkc t' v h with ⟨rfl,rfl⟩ | h
  ·exact ⟨hd,hr⟩
  ·exact hI.tmp t' v h
 ·rcases lkc t' _ h with ⟨_,e⟩ | h
  ·cases e
  ·exact hI.ptr t' b off h
 ·rcases lkc t' _ h with ⟨_,e⟩ | h
  ·cases e
  ·exact hI.fnp t' f bs h
 ·rcases lkc t' _ h with ⟨_,e⟩ | h
  ·cases e
  ·exact hI.sl t' b off n s h
theorem Z0T{d:Nat}{ps:List Prop}(h:Z0R d σ=some (σ',ps))(hp:Yj ps)(hI:Inv P B g σ a w):∃g',Inv P B g' σ' a w∧Fr B g σ w g' σ' w:=by
 unfold Z0R at h
 split at h
 ·rename_i b off n s hd
  split at h
  ·rename_i cs hcs
   cases hb:(Nat.blt d σ.n&&Nat.beq off 0) with
   | false=>rw[hb] at h;cases h
   | true=>
     rw[hb] at h
     cases Qa_ h
     obtain ⟨p1,p2⟩:=hp _ Qv_
     rw[Qh_] at hb
     have e0:=Qj_ hb.2
     subst e0
     have hdn:d < σ.n:=Qm_ hb.1
     obtain ⟨k,base,cap,h1,h2,h3⟩:=(hI.tmp d _ hd).2
     obtain ⟨i1,f1⟩:=Zgp hI hcs h1
     obtain ⟨k',base',hk',hlt,hok,_⟩:=i1.box b cs hcs
     have hk2:g.β b=some (k',base'):=hk'
     rw[h1] at hk2
     cases Qa_ hk2
     have hrep:Rep (fun j=>if j=k then max (g.hw j) (base+cs.length) else g.hw j) w (.slice (some ⟨k,base+0,none⟩) n cap) (.lst (chunk s n cs)):=by
      refine Zdc p1 hok.cells p2.h h2 ?_
      simp only[Kw_]
      omega
     refine ⟨_,Z0S i1 hdn (by rw[h3];exact hrep),⟨f1.os,f1.tape,f1.output,f1.size,f1.n,f1.block,f1.cell,f1.frozen,f1.hw,f1.par,f1.ext⟩⟩
  ·cases h
 ·cases Qa_ h
  exact ⟨g,hI,Fr.refl⟩
 ·cases h
theorem ZlM:∀{l:List Nat} {σ σ':St} {g:G} {ps:List Prop},ZlL l σ=some (σ',ps)→Yj ps→Inv P B g σ a w→∃g',Inv P B g' σ' a w∧Fr B g σ w g' σ' w
 | [],σ,σ',g,ps,h,_,hI=>by
   cases Qa_ h
   exact ⟨g,hI,Fr.refl⟩
 | d::r,σ,σ',g,ps,h,hp,hI=>by
   unfold ZlL at h
   split at h
   ·rename_i σ1 ps1 h1
    split at h
    ·rename_i σ2 qs h2
     cases Qa_ h
     obtain ⟨q1,q2⟩:=XX hp
     obtain ⟨g1,i1,f1⟩:=Z0T h1 q1 hI
     obtain ⟨g2,i2,f2⟩:=ZlM h2 q2 i1
     exact ⟨g2,i2,f1.trans f2⟩
    ·cases h
   ·cases h
theorem ZtM(hI:Inv P B g σ a w){f:FuncId}{vals:List Value}{xs:List PV}{E:TypeId}{r:PV}(hc:ZaB P f xs E r)(ha:ArgsRep g.hw w vals xs){d:Nat}(hd:d < σ.n):
 CallRes P f vals.toArray w fun v w'=>∃g',Inv P B g' {put σ d (.p r) with own:=(.t d,E)::σ.own.filter fun (l,_)=> !(l.eq (.t d))} (a.put (some d) v) w'∧Fr B g σ w g' {put σ d (.p r) with own:=(.t d,E)::σ.own.filter fun (l,_)=> !(l.eq (.t d))} w':=by
 refine (hc _ w vals hI.hwlt hI.glob.1 ha).mono fun v w' ⟨hw',q,hr,ho⟩=>?_
 obtain ⟨i1,f1⟩:=Zh9 hI q
 have i2:=WJ i1 hd hr
 have hsz:(a.put (some d) v).tmps.getD d undef=v:=by
  have hs:=hI.size
  show (a.tmps.setIfInBounds d v).getD d undef=v
  simp[Array.getD,hs,hd]
 have hlt:∀k,v.ownBlock=some k→w.heap.size≤k:=fun k hk=>(Yr (g:=⟨g.β,hw'⟩) ho k hk).2
 refine ⟨⟨g.β,hw'⟩,ZeJ i2 hd hsz ⟨ho.choose,ho.choose_spec.choose,ho.choose_spec.choose_spec.choose,ho.choose_spec.choose_spec.choose_spec.1, ?_,ho.choose_spec.choose_spec.choose_spec.2.2⟩ ?_ ?_,⟨f1.os,f1.tape,f1.output,f1.size,f1.n,f1.block,f1.cell,f1.frozen,f1.hw,f1.par,f1.ext⟩⟩
 ·have h2:=ho.choose_spec.choose_spec.choose_spec.2.1
  refine ⟨h2.1, ?_⟩
  rcases h2.2 with h | ⟨gb,cap,cur,e1,e2,r⟩
  ·exact .inl h
  ·exact .inr ⟨gb,cap,cur,e1,QT_ hI.base e2,r⟩
 ·intro k hk b cs base hb e
  obtain ⟨k',base',e1,e2,_⟩:=hI.box b cs hb
  have e:g.β b=some (k,base):=e
  rw[e] at e1
  cases Qa_ e1
  have:=hlt k hk
  omega
 ·intro l E' val' k hl hloc hk hk2
  have hl':lkL l σ.own=some E'∧l≠ .t d:=by
   have hl:lkL l (σ.own.filter fun (l,_)=> !(l.eq (.t d)))=some E':=hl
   rw[Ye (fun l'=> !(l'.eq (.t d)))] at hl
   split at hl
   ·rename_i hn
    refine ⟨hl,fun e=>?_⟩
    subst e
    rw[Loc.eq_iff.2 rfl] at hn
    cases hn
   ·cases hl
  obtain ⟨val0,q1,q2,_⟩:=i1.own l E' hl'.1
  have hv0:val0=val':=by
   cases l with
   | t t=>
     have q1:a.tmps.getD t undef=val0:=q1
     have hloc:(a.tmps.setIfInBounds d v).getD t undef=val':=hloc
     have ne:d≠t:=fun e=>hl'.2 (by rw[e])
     rw[←q1,←hloc]
     simp only[QA_,K6_]
     simp[ne]
   | b b c=>
     obtain ⟨k1,b1,e1,e2⟩:=q1
     obtain ⟨k2,b2,e3,e4⟩:=hloc
     rw[e1] at e3
     cases Qa_ e3
     exact Qa_ (e2.symm.trans e4)
  subst hv0
  have h0:=hI.own l E' hl'.1
  obtain ⟨val1,r1,r2,_⟩:=h0
  have hv1:val1=val0:=by
   cases l with
   | t t=>exact r1.symm.trans q1
   | b b c=>
     obtain ⟨k1,b1,e1,e2⟩:=r1
     obtain ⟨k2,b2,e3,e4⟩:=q1
     have e3:g.β b=some (k2,b2):=e3
     rw[e1] at e3
     cases Qa_ e3
     obtain ⟨c1,hc1⟩:=hI.ownt _ E' hl'.1
     obtain ⟨k3,b3,e5,e6,_⟩:=hI.box b c1 hc1
     rw[e1] at e5
     cases Qa_ e5
     rw[q.cell k1 _ e6] at e4
     exact Qa_ (e2.symm.trans e4)
  subst hv1
  have:=(Yr r2 k hk2).1
  have:=hlt k hk
  omega
end
def Zrg(E:Env)(C:ZR)(G:Gx)(σ:St)(d fid:Nat)(args:List Operand):Option (St×List Prop):=
 match lk fid G.ow,XV (opd σ) args with
 | some T,some l=>match Xy σ.boxes l with
   | some (xs,c)=>match c with
     | true=>none
     | false=>match C fid xs with
       | some (r,ps)=>match Nat.blt d σ.n with
         | false=>none
         | true=>match has d G.cb with
           | true=>match r,lk T E.Γ with
             | .lst rows,some ety=>bif Ys (lk d σ.boxes) then
                some (put {σ with boxes:=(d,rows.flatten)::σ.boxes} d (.sl d 0 rows.length ety.size),ps++[rows≠[]∧Lens ety.size rows∧∀x∈rows,∀y∈x,flat y=true])
               else none
             | _,_=>none
           | false=>some ({put σ d (.p r) with own:=(.t d,T)::σ.own.filter fun (l,_)=> !(l.eq (.t d))},ps)
       | none=>none
   | none=>none
 | _,_=>none
def ZvW(G:Gx)(σ:St)(op:BinOp)(T:TypeId)(x:Operand)(d:Nat):Option (St×List Prop):=
 match has T G.nf&&Nat.blt d σ.n with
 | false=>none
 | true=>match op,opd σ x with
   | .eql,some (.p (.fn _ _))=>some (put σ d (.p (.v (.bool false))),[])
   | .eql,some (.fnp _ _)=>some (put σ d (.p (.v (.bool false))),[])
   | .neq,some (.p (.fn _ _))=>some (put σ d (.p (.v (.bool true))),[])
   | .neq,some (.fnp _ _)=>some (put σ d (.p (.v (.bool true))),[])
   | _,_=>none
def bsO(E:Env)(σ:St)(T n:Nat)(ps:List (Nat×Operand))(d:Nat):Option (St×List Prop):=
 match XV (fun (i,x)=>match Z0 σ x with | some v=>some (i,v) | none=>none) ps with
 | some l=>match WI E.Γ T n l,lk T E.Γ with
   | some (.lst xs),some ty=>bif Nat.blt d σ.n then some (Jl (put σ d (.p (.lst xs))) d ty.elem,[]) else none
   | _,_=>none
 | none=>none
def Zrh:Operand→Bool
 | .const .nilFunc=>true
 | _=>false
def Zp6(E:Env)(C:ZR)(CP:Yn)(CI:Yk)(G:Gx)(j:Nat)(σ:St)(o:Oper):Option (St×List Prop):=
 match o.op,o.dst with
 | .call ⟨.value (.func fid),args,_⟩,some d=>(match XA (lk fid G.ow) with
   | true=>Zrg E C G σ d fid args.toList
   | false=>TSym E C CP CI j σ o)
 | .binOp op T x y _,some d=>(match Zrh y with
   | true=>ZvW G σ op T x d
   | false=>TSym E C CP CI j σ o)
 | .buildSlice T n ps,some d=>(match has d G.ob with
   | true=>bsO E σ T n ps.toList d
   | false=>TSym E C CP CI j σ o)
 | _,_=>TSym E C CP CI j σ o
def Zds(E:Env)(C:ZR)(CP:Yn)(CI:Yk)(G:Gx)(j:Nat)(σ:St)(o:Oper):Option (St×List Prop):=
 match (match o.dst with | some d=>lk d G.pb | none=>none) with
 | some l=>match ZlL l σ with
   | some (σ1,ps)=>match Zp6 E C CP CI G j σ1 o with
     | some (σ2,qs)=>some (σ2,ps++qs)
     | none=>none
   | none=>none
 | none=>Zp6 E C CP CI G j σ o
structure OwOk(P:Program)(C:ZR)(G:Gx):Prop where
 o:∀f T,lk f G.ow=some T→∀args r ps,C f args=some (r,ps)→Yj ps→ZaB P f args T r
 nf:∀T,has T G.nf=true→∃a b c,P.underlying T=some (.func a b c)
theorem ZdV{P:Program}:∀T,has T []=true→∃a b c,P.underlying T=some (.func a b c):=fun T h=>absurd h (by simp[has])
theorem ZuG{P:Program}{t:Nat}{l:List Nat}{a b:Array TypeId}{c:Bool}(h:P.underlying t=some (.func a b c))(hl:∀T,has T l=true→∃a b c,P.underlying T=some (.func a b c)):∀T,has T (t::l)=true→∃a b c,P.underlying T=some (.func a b c):=fun T hT=>by
 have hT:=YK.1 hT
 rcases Q9_.1 hT with e | hT
 ·subst e;exact ⟨a,b,c,h⟩
 ·exact hl T (YK.2 hT)
theorem ZJ{P:Program}{C:ZR}:OwOk P C noG:=⟨fun f T h=>by simp[noG,lk] at h,ZdV⟩
open Classical in
noncomputable def TG0(E:Env)(C:ZR)(CP:Yn)(CI:Yk)(G:Gx)(j:Nat)(σ:St)(o:Oper):Option St:=match Zds E C CP CI G j σ o with
 | some (σ',ps)=>if Yj ps then some σ' else none
 | none=>none
section
variable {P:Program}{B:Nat}{g:G}{σ:St}{a:Act}{w:World}{o:Oper}
theorem ZyA(hI:Inv P B g σ a w){l:List AV}{vals:List Value}(hl:vals.length=l.length)(hv:∀(j:Nat) (v:Value) (av:AV),vals[j]?=some v→l[j]?=some av→RepA g w v av)
 {xs:List PV} (hh:Xy σ.boxes l=some (xs,false)):ArgsRep g.hw w vals xs:=by
 obtain ⟨e1,e2⟩:=Zak hh
 have getl:∀{j:Nat} {v:Value},vals[j]?=some v→∃av,l[j]?=some av:=by
  intro j v hj
  have:j < l.length:=by have:=(Qo_.1 hj).1;omega
  exact ⟨_,Qg_ this⟩
 refine ⟨by omega,fun j x y hx hy=>?_⟩
 obtain ⟨av,hav⟩:=getl hx
 obtain ⟨d,h3,h4⟩:=e2 j av y hav hy
 have hd:=h4 rfl
 subst hd
 have hr:=hv j x av hx hav
 cases av with
 | p z=>
   have:=Qa_ h3
   cases this
   exact ZbX hr
 | ptr b off=>
   unfold hand at h3
   split at h3
   ·rename_i e;cases e
   ·split at h3
    ·rename_i cs0 _
     cases hd:Y3 cs0<;>rw[hd] at h3<;>cases h3
    ·cases h3
   ·rename_i e;cases e
   ·rename_i e;cases e
 | sl b off n s=>
   unfold hand at h3
   split at h3
   ·rename_i e;cases e
   ·rename_i e;cases e
   ·rename_i e;cases e
   ·cases h3
 | fnp f bs=>
   unfold hand at h3
   split at h3
   ·rename_i e;cases e
   ·rename_i e;cases e
   ·split at h3
    ·cases h3
    ·cases h3
   ·rename_i e;cases e
theorem Z0U{y:PV}(h:flat y=true):Xg y=none:=by cases y<;>first | rfl | exact absurd h (by simp[flat])
theorem ZtN{E:Env}(hE:EnvOk P E){C:ZR}{G:Gx}(hG:OwOk P C G)(hI:Inv P B g σ a w){fid d:Nat}{args:Array Operand}{ats:Array TypeId}{σ':St}{ps:List Prop}(hop:o.op= .call ⟨.value (.func fid),args,ats⟩)(hd:o.dst=some d)
 (h:Zrg E C G σ d fid args.toList=some (σ',ps)) (hp:Yj ps):Goes P B g σ a w o σ':=by
 unfold Zrg at h
 split at h
 ·rename_i T l hT hl
  split at h
  ·rename_i xs c hx
   split at h
   ·cases h
   ·split at h
    ·rename_i r qs hc
     split at h
     ·cases h
     ·rename_i hdn
      have hdn:d < σ.n:=Qm_ hdn
      obtain ⟨e1,e2⟩:=ZfD hI hl
      have ha:=ZyA hI e1 e2 hx
      have key:∀{σ2:St} {K:Value→World→Prop},CallRes P fid (args.toList.map a.eval).toArray w K→(∀v w',K v w'→∃g',Inv P B g' σ2 (a.put o.dst v) w'∧Fr B g σ w g' σ2 w')→Goes P B g σ a w o σ2:=by
       intro σ2 K hcall hnext
       refine Zbg (hcall.mono hnext) (fun res hres=>?_)
       have e:args.map a.eval=(args.toList.map a.eval).toArray:=by apply QW_;simp
       have hfv:a.eval (.func fid)= .func (.func fid) #[] #[]:=rfl
       unfold execOp
       rw[hop]
       simp only[resolve,Deferred.ofValue,hfv,pure_bind,invoke,e]
       rw[←hres]
       congr 2
       simp
      split at h
      ·split at h
       ·rename_i rows ety hety
        cases hb:Ys (lk d σ.boxes) with
        | false=>rw[hb] at h;cases h
        | true=>
          rw[hb] at h
          cases Qa_ h
          obtain ⟨q1,q2⟩:=XX hp
          obtain ⟨r1,r2,r3⟩:=q2 _ Qv_
          have hdb:lk d σ.boxes=none:=by
           cases hh:lk d σ.boxes with
           | none=>rfl
           | some c=>rw[hh] at hb;exact absurd hb (by simp[Ys])
          obtain ⟨i,z,hi,_,hsz,_⟩:=(ZU (hE.Γ _ _ hety)).info
          have hcon:=Z3w (hG.o _ _ hT _ _ _ hc q1) hi (by rw[←hsz];exact r2) r1 r3
          refine key (ZtL (s:=ety.size) hI hcon ha hdn hdb (fun y hy=>?_)) (fun v w' hk=>by rw[hd];exact hk)
          obtain ⟨x,hx1,hx2⟩:=List.mem_flatten.1 hy
          exact Z0U (r3 x hx1 y hx2)
       ·cases h
      ·cases Qa_ h
       exact key (ZtM hI (hG.o _ _ hT _ _ _ hc hp) ha hdn) (fun v w' hk=>by rw[hd];exact hk)
    ·cases h
  ·cases h
 ·cases h
theorem ZvX{C:ZR}{G:Gx}(hG:OwOk P C G)(hI:Inv P B g σ a w){op:BinOp}{T yT:TypeId}{x y:Operand}{d:Nat}{σ':St}{ps:List Prop}(hop:o.op= .binOp op T x y yT)(hy:Zrh y=true)(hd:o.dst=some d)
 (h:ZvW G σ op T x d=some (σ',ps)):Goes P B g σ a w o σ':=by
 unfold ZvW at h
 have hyc:y= .const .nilFunc:=by
  unfold Zrh at hy
  split at hy
  ·rfl
  ·cases hy
 subst hyc
 split at h
 ·cases h
 ·rename_i hb
  rw[Qh_] at hb
  obtain ⟨ta,tb,tc,hu⟩:=hG.nf T hb.1
  have hdn:d < σ.n:=Qm_ hb.2
  have fin:∀(b:Bool),(∃f vs,a.eval x= .func f #[] vs)→(op= .eql∧b=false∨op= .neq∧b=true)→σ'=put σ d (.p (.v (.bool b)))→Goes P B g σ a w o σ':=by
   intro b ⟨f,vs,hx⟩ hbo hσ
   subst hσ
   refine .inl ⟨.bool b,w, ?_,g,by rw[hd];exact WJ hI hdn (.v _ rfl),⟨rfl,rfl,rfl,Q2_ _,rfl,fun _ _ _=>rfl,fun _ _ _ _=>rfl,fun _ _ _=>rfl,fun _ _ _=>rfl,fun _ cs' _ h=>⟨cs',h,rfl,rfl⟩,Ext.refl _ _⟩⟩
   have he:(Op.equal T (.func f #[] vs) .nilFunc).run P w= .ok false w:=by
    show (Op.equalIn 10000 T (.func f #[] vs) .nilFunc).run P w= .ok false w
    unfold Op.equalIn
    simp only[Sem.run_bind,run_underlying hu,Result.andThen_ok]
    rfl
   unfold execOp
   rw[hop]
   have e2:a.eval (.const .nilFunc)= .nilFunc:=rfl
   simp only[hx,e2]
   refine ZZ ?_
   rcases hbo with ⟨rfl,rfl⟩ | ⟨rfl,rfl⟩<;>simp[eqGuard,binOp,he]
  have rp:∀{f:Nat} {cs:List PV},opd σ x=some (.p (.fn f cs))→∃f vs,a.eval x= .func f #[] vs:=fun hx=>by
   have hr:Rep g.hw w (a.eval x) (.fn _ _):=ZO hI hx
   generalize a.eval x=v at hr
   cases hr with
   | fn f vs cs _ _=>exact ⟨_,_,rfl⟩
  have rf:∀{f:Nat} {bs:List Nat},opd σ x=some (.fnp f bs)→∃f vs,a.eval x= .func f #[] vs:=fun hx=>by
   obtain ⟨vs,h1,_⟩:=ZO hI hx
   exact ⟨_,_,h1⟩
  split at h
  ·rename_i hx;cases Qa_ h;exact fin _ (rp hx) (.inl ⟨rfl,rfl⟩) rfl
  ·rename_i hx;cases Qa_ h;exact fin _ (rf hx) (.inl ⟨rfl,rfl⟩) rfl
  ·rename_i hx;cases Qa_ h;exact fin _ (rp hx) (.inr ⟨rfl,rfl⟩) rfl
  ·rename_i hx;cases Qa_ h;exact fin _ (rf hx) (.inr ⟨rfl,rfl⟩) rfl
  ·cases h
theorem Z3y{Γ:List (Nat×Ty)}(hΓ:Yb P Γ){hw:Nat→Nat}{T:TypeId}{n:Nat}{ps:List (Nat×PV)}{xs:List (List PV)}{ty:Ty}(h:WI Γ T n ps=some (.lst xs))(hty:lk T Γ=some ty)(hl0:∀k,w.heap.size≤k→hw k=0)
 {vs:List (Nat×Value)} (hl:vs.length=ps.length) (hr:∀(j:Nat) (v:Nat×Value) (p:Nat×PV),vs[j]?=some v→ps[j]?=some p→v.1=p.1∧Rep hw w v.2 p.2):
 ∃i out,P.info? ty.elem=some i∧n *i.size < 16777216∧i.size≠0∧(out:List Value).length=n *i.size∧(Instr.buildSlice T n vs.toArray).run P w= .ok (.slice (some ⟨w.heap.size,0,none⟩) n n) (w.alloc (.cells out.toArray ty.elem))∧
  Qt hw w (fun k=>if k=w.heap.size then n *i.size else hw k) (w.alloc (.cells out.toArray ty.elem))∧Rep (fun k=>if k=w.heap.size then n *i.size else hw k) (w.alloc (.cells out.toArray ty.elem)) (.slice (some ⟨w.heap.size,0,none⟩) n n) (.lst xs):=by
 unfold WI at h
 split at h
 ·rename_i sz by_ zc fs e m hty2
  rw[hty] at hty2
  cases Qa_ hty2
  have hT:=ZU (hΓ T _ hty)
  obtain ⟨_,hk3,_⟩:=YI hT
  have hu:=hk3 rfl
  simp only at hu
  split at h
  ·rename_i ety hety
   have hET:=ZU (hΓ _ _ hety)
   cases hb:(Nat.beq ety.size 0||Nat.ble 16777216 (n *ety.size)|| !(Nat.beq ety.zero.length ety.size)) with
   | true=>rw[hb] at h;cases h
   | false=>
     rw[hb] at h
     simp only[Qd_] at h
     simp only[Ka_,Qf_] at hb
     obtain ⟨⟨hb1,hb2⟩,hb3⟩:=hb
     have hs0:ety.size≠0:=fun h0=>by rw[h0] at hb1;exact absurd hb1 (by decide)
     have hn:n *ety.size < 16777216:=by
      rcases Kh_ (n *ety.size) 16777216 with h | h
      ·exact h
      ·rw[QF_ h] at hb2;cases hb2
     split at h
     ·rename_i cs hcs
      have:=Qa_ h
      injection this with this
      subst this
      obtain ⟨z,hz,hzc,h1,hzs⟩:=Wm hET w
      rw[hzc] at hcs
      obtain ⟨out,f1,f2,f3⟩:=Zbe (hw:=hw) (w:=w) (pl:=fun i=>some (i *ety.size,ety.size)) (fun i q hq=>hq) ps vs (WZ n z.cells.toList) _ cs (Zgm h1 n) hl hr hcs
      have hol:out.length=n *ety.size:=by rw[f3,Zh5];simp[hzs]
      obtain ⟨i,z',hi,_,hsz,_⟩:=hET.info
      refine ⟨i,out,hi,by rw[←hsz];exact hn,by rw[←hsz];exact hs0,by rw[←hsz];exact hol, ?_,Zgk hl0 (fun k hk=>by simp[hk]) _,by
       rw[←hsz]
       have:=Zgl hl0 f2 (rest:=[]) (n:=n) (s:=ety.size) (cap:=n) (by rw[←f2.len,hol]) (Q2_ _) e
       rw[QI_] at this
       exact this⟩
      have hnot:¬(n *ety.size > 2 ^ 24):=by omega
      unfold Instr.buildSlice
      simp only[Sem.run_bind,run_underlying hu,Result.andThen_ok,Yf hET,hnot,Kx_]
      by_cases h0:n *ety.size=0
      ·have hn0:n=0:=by
        rcases Nat.mul_eq_zero.1 h0 with h | h
        ·exact h
        ·exact absurd h hs0
       subst hn0
       have f1':Instr.fill (fun i=>some (i *ety.size,ety.size)) #[] vs=some out.toArray:=f1
       have e0:(Array.range 0).map (fun i=>(#[]:Array Value)[i % (#[]:Array Value).size]!)=#[]:=by apply QW_;simp
       simp only[Nat.zero_mul,Kw_,pure_bind,e0]
       rw[f1']
       rfl
      ·have hzp:0 < z.cells.size:=by omega
       have e1:=Zgn hzp n
       rw[hzs] at e1
       simp only[h0,Kx_,Sem.run_bind,hz,Result.andThen_ok,Sem.run_pure,hzs,e1]
       have f1':Instr.fill (fun i=>some (i *ety.size,ety.size)) (WZ n z.cells.toList).toArray vs=some out.toArray:=f1
       rw[f1']
       simp[newRow]
     ·cases h
  ·cases h
 ·cases h
theorem Z0V{E:Env}(hE:EnvOk P E)(hI:Inv P B g σ a w){T:TypeId}{n:Nat}{ps:Array (Nat×Operand)}{d:Nat}{σ':St}{qs:List Prop}(hop:o.op= .buildSlice T n ps)(hdst:o.dst=some d)(h:bsO E σ T n ps.toList d=some (σ',qs)):Goes P B g σ a w o σ':=by
 unfold bsO at h
 split at h
 ·rename_i l hl
  split at h
  ·rename_i xs ty hv hty
   cases hb:Nat.blt d σ.n with
   | false=>rw[hb] at h;cases h
   | true=>
     rw[hb] at h
     cases Qa_ h
     have hd:d < σ.n:=Qm_ hb
     obtain ⟨e1,e2⟩:=Zkt hI hl
     obtain ⟨i,out,hi,hn,hs0,hol,hrun,q,hrep⟩:=Z3y (w:=w) hE.Γ hv hty hI.hwlt e1 e2
     have hown:OwnV P B (fun k=>if k=w.heap.size then n *i.size else g.hw k) (w.alloc (.cells out.toArray ty.elem)) ty.elem (.slice (some ⟨w.heap.size,0,none⟩) n n):=by
      have hnm:n≤maxLen:=by
       have:n *1≤n *i.size:=Nat.mul_le_mul_left _ (by omega)
       have:(16777216:Nat)≤maxLen:=by simp only[maxLen];omega
       omega
      refine ⟨i,n,out,hi,⟨hol,.inr ⟨w.heap.size,n,out.toArray,rfl,hI.base,heap_alloc_new w _,Q2_ _,hnm,by simpa using hol,by simp[←hol]⟩⟩,fun k hk=>?_⟩
      have:k=w.heap.size:=by simp[Value.ownBlock] at hk;exact hk.symm
      simp[this]
     have:=JT (v:= .slice none 0 0) (own':=σ.own) hI hd (fun k hk=>absurd hk (by simp[Value.ownBlock])) (fun k hk=>absurd hk (by simp[Value.ownBlock])) (fun _ _ h=>h) (fun _ _ _ j _ _ hk=>absurd hk (by simp[Value.ownBlock])) q.grew hrep hown (.inr (fun k hk=>by simp[Value.ownBlock] at hk;omega))
     refine .inl ⟨_,_, ?_,by rw[hdst];exact ⟨_,this⟩⟩
     unfold execOp
     rw[hop]
     simp only
     rw[Zh7]
     exact ZZ hrun
  ·cases h
 ·cases h
theorem ZlN{E:Env}(hE:EnvOk P E){C:ZR}(hC:CSOk P C){CP:Yn}(hP:CSPOk P CP){CI:Yk}(hJ:CSIOk P CI){G:Gx}(hG:OwOk P C G){j:Nat}{σ':St}{ps:List Prop}
 (h:Zp6 E C CP CI G j σ o=some (σ',ps)) (hp:Yj ps) (hI:Inv P B g σ a w):Goes P B g σ a w o σ':=by
 have hT:∀{σ':St} {ps:List Prop},TSym E C CP CI j σ o=some (σ',ps)→Yj ps→Goes P B g σ a w o σ':=fun h hp=>Z20 hE (Zjy hC) (Zy7 hP) (Zy8 hJ) j σ o _ (ZuF _ _ _ _ _ h hp) B g a w hI
 unfold Zp6 at h
 split at h
 ·rename_i fid args ats d hop hd
  split at h
  ·exact ZtN hE hG hI hop hd h hp
  ·exact hT h hp
 ·rename_i op T x y yT d hop hd
  split at h
  ·rename_i hy
   exact ZvX hG hI hop hy hd h
  ·exact hT h hp
 ·rename_i T n ps d hop hd
  split at h
  ·exact Z0V hE hI hop hd h
  ·exact hT h hp
 ·exact hT h hp
theorem ZvY{E:Env}(hE:EnvOk P E){C:ZR}(hC:CSOk P C){CP:Yn}(hP:CSPOk P CP){CI:Yk}(hJ:CSIOk P CI){G:Gx}(hG:OwOk P C G){j:Nat}{σ':St}{ps:List Prop}
 (h:Zds E C CP CI G j σ o=some (σ',ps)) (hp:Yj ps) (hI:Inv P B g σ a w):Goes P B g σ a w o σ':=by
 unfold Zds at h
 split at h
 ·split at h
  ·rename_i σ1 ps1 h1
   split at h
   ·rename_i σ2 qs h2
    cases Qa_ h
    obtain ⟨q1,q2⟩:=XX hp
    obtain ⟨g1,i1,f1⟩:=ZlM h1 q1 hI
    exact (ZlN hE hC hP hJ hG h2 q2 i1).mono fun v w' ⟨g',k1,k2⟩=>⟨g',k1,f1.trans k2⟩
   ·cases h
  ·cases h
 ·exact ZlN hE hC hP hJ hG h hp hI
theorem Zj0{E:Env}{C:ZR}{CP:Yn}{CI:Yk}{G:Gx}:TSub (Zds E C CP CI G) (TG0 E C CP CI G):=fun j σ o σ' ps h hp=>by
 unfold TG0
 rw[h]
 simp only[hp,Kw_]
theorem ZlO{E:Env}(hE:EnvOk P E){C:ZR}(hC:CSOk P C){CP:Yn}(hP:CSPOk P CP){CI:Yk}(hJ:CSIOk P CI){G:Gx}(hG:OwOk P C G):∀j σ o σ',TG0 E C CP CI G j σ o=some σ'→∀B g a w,Inv P B g σ a w→Goes P B g σ a w o σ':=by
 intro j σ o σ' h B g a w hI
 unfold TG0 at h
 split at h
 ·rename_i σ2 ps h2
  split at h
  ·rename_i hp
   cases Qa_ h
   exact ZvY hE hC hP hJ hG h2 hp hI
  ·cases h
 ·cases h
end
def Zp7(E:Env)(l:List ResultVar)(Q:PV→Prop)(e:Ex)(σ:St):Prop:=
 bif Ja e then (match JU E.Γ σ l with
  | some r=>Q (Zay r)
  | none=>False) else False
def sxF(E:Env)(C:ZR)(CP:Yn)(CI:Yk)(G:Gx)(LS:List (Nat×LSum))(n:Nat)(fn:Func)(args:List PV)(Q:PV→Prop):Prop:=
 match fn.body with
 | some c=>bif Nat.ble args.length fn.ntmps then
    Zn6 (Xn fn.ntmps args) fun σ=>YL E.Γ (RSym E C) (Zds E C CP CI G) LS n none c σ (Zp7 E fn.results.toList Q)
   else False
 | none=>False
def Zri(E:Env)(C:ZR)(CP:Yn)(CI:Yk)(G:Gx)(LS:List (Nat×LSum))(n:Nat)(fn:Func)(cs args:List PV)(Q:PV→List PV→Prop):Prop:=
 match fn.body with
 | some c=>bif Nat.ble (args.length+1) fn.ntmps then
    Zn6 (Y2 fn.ntmps cs args) fun σ=>YL E.Γ (RSym E C) (Zds E C CP CI G) LS n none c σ fun e σ'=>
     bif !(has fn.ntmps σ'.ro) then
      (match lk fn.ntmps σ'.boxes with
       | some cs'=>bif Y3 cs&&Y3 cs' then Zbn cs' fun cs'=>Zp7 E fn.results.toList (fun r=>Q r cs') e σ' else False
       | none=>False)
     else False
   else False
 | none=>False
def ZF(P:Program)(LS:List (Nat×LSum))(fn:Func):Prop:=∀c,fn.body=some c→∀b∈Ya c,∀S,lk (Wj b) LS=some S→Yt P b S
theorem Zao{P:Program}{fn:Func}:ZF P [] fn:=fun c _ b _ S h=>by simp[lk] at h
theorem Z4o{P:Program}{E:Env}(hE:EnvOk P E){C:ZR}(hC:CSOk P C){CP:Yn}(hP:CSPOk P CP){CI:Yk}(hI:CSIOk P CI){G:Gx}(hG:OwOk P C G){LS:List (Nat×LSum)}{f:Nat}{fn:Func}(hf:lk f E.fns=some fn)(hL:ZF P LS fn){n:Nat}{args:List PV}{Q:PV→Prop}
 (h:sxF E C CP CI G LS n fn args Q):∃r,Q r∧Con P f args r:=by
 obtain ⟨k1,k2⟩:=hE.fns f fn hf
 unfold sxF at h
 split at h
 ·rename_i c hc
  cases hb:Nat.ble args.length fn.ntmps with
  | false=>rw[hb] at h;exact h.elim
  | true=>
    rw[hb] at h
    simp only[Qb_,Zjx] at h
    obtain ⟨e,σ',h1,h2,_⟩:=(Zbp hE.Γ hE.mixed ZlJ (ZhS hE (Zjy hC)) Zj0 (ZlO hE hC hP hI hG) n).1 c _ _ (hL c hc) h
    unfold Zp7 at h1
    cases ho:Ja e with
    | false=>rw[ho] at h1;exact h1.elim
    | true=>
      rw[ho] at h1
      simp only[Qb_] at h1
      split at h1
      ·rename_i r hr
       exact ⟨_,h1,Z3Z hE.Γ k2 k1 hc hb h2 ho hr⟩
      ·exact h1.elim
 ·exact h.elim
def ZyB(E:Env)(l:List ResultVar)(T:Nat)(Q:PV→Prop)(e:Ex)(σ:St):Prop:=
 bif Ja e then (match l with
  | [.tmp t]=>match Zp5 σ t with
    | some T'=>bif Nat.beq T' T then (match JU E.Γ σ [.tmp t] with
      | some r=>Q (Zay r)
      | none=>False) else False
    | none=>False
  | _=>False) else False
def ZvZ(E:Env)(C:ZR)(CP:Yn)(CI:Yk)(G:Gx)(LS:List (Nat×LSum))(n:Nat)(fn:Func)(T:Nat)(args:List PV)(Q:PV→Prop):Prop:=
 match fn.body with
 | some c=>bif Nat.ble args.length fn.ntmps then
    Zn6 (Xn fn.ntmps args) fun σ=>YL E.Γ (RSym E C) (Zds E C CP CI G) LS n none c σ (ZyB E fn.results.toList T Q)
   else False
 | none=>False
theorem Z3z{P:Program}{E:Env}(hE:EnvOk P E){C:ZR}(hC:CSOk P C){CP:Yn}(hP:CSPOk P CP){CI:Yk}(hI:CSIOk P CI){G:Gx}(hG:OwOk P C G){LS:List (Nat×LSum)}{f:Nat}{fn:Func}(hf:lk f E.fns=some fn)(hL:ZF P LS fn){n:Nat}{T:Nat}{args:List PV}{Q:PV→Prop}
 (h:ZvZ E C CP CI G LS n fn T args Q):∃r,Q r∧ZaB P f args T r:=by
 obtain ⟨k1,k2⟩:=hE.fns f fn hf
 unfold ZvZ at h
 split at h
 ·rename_i c hc
  cases hb:Nat.ble args.length fn.ntmps with
  | false=>rw[hb] at h;exact h.elim
  | true=>
    rw[hb] at h
    simp only[Qb_,Zjx] at h
    obtain ⟨e,σ',h1,h2,_⟩:=(Zbp hE.Γ hE.mixed ZlJ (ZhS hE (Zjy hC)) Zj0 (ZlO hE hC hP hI hG) n).1 c _ _ (hL c hc) h
    unfold ZyB at h1
    cases ho:Ja e with
    | false=>rw[ho] at h1;exact h1.elim
    | true=>
      rw[ho] at h1
      simp only[Qb_] at h1
      split at h1
      ·rename_i t ht
       split at h1
       ·rename_i T' hT'
        cases hbt:Nat.beq T' T with
        | false=>rw[hbt] at h1;exact h1.elim
        | true=>
          rw[hbt] at h1
          simp only[Qb_] at h1
          have eT:=Qj_ hbt
          subst eT
          split at h1
          ·rename_i r hr
           have hres:fn.results=#[.tmp t]:=by apply QW_;simpa using ht
           exact ⟨_,h1,Z3u hE.Γ k2 k1 hc hb h2 ho hres hT' (by rw[ht];exact hr)⟩
          ·exact h1.elim
       ·exact h1.elim
      ·exact h1.elim
 ·exact h.elim
theorem Zn8{P:Program}{E:Env}(hE:EnvOk P E){C:ZR}(hC:CSOk P C){CP:Yn}(hP:CSPOk P CP){CI:Yk}(hI:CSIOk P CI){G:Gx}(hG:OwOk P C G){LS:List (Nat×LSum)}{f:Nat}{fn:Func}(hf:lk f E.fns=some fn)(hL:ZF P LS fn){n:Nat}{cs args:List PV}{Q:PV→List PV→Prop}
 (h:Zri E C CP CI G LS n fn cs args Q):∃r cs',Q r cs'∧ZdJ P f cs args r cs':=by
 obtain ⟨k1,k2⟩:=hE.fns f fn hf
 unfold Zri at h
 split at h
 ·rename_i c hc
  cases hb:Nat.ble (args.length+1) fn.ntmps with
  | false=>rw[hb] at h;exact h.elim
  | true=>
    rw[hb] at h
    simp only[Qb_,Zjx] at h
    obtain ⟨e,σ',h1,h2,_⟩:=(Zbp hE.Γ hE.mixed ZlJ (ZhS hE (Zjy hC)) Zj0 (ZlO hE hC hP hI hG) n).1 c _ _ (hL c hc) h
    cases hro:has fn.ntmps σ'.ro with
    | true=>rw[hro] at h1;exact h1.elim
    | false=>
      rw[hro] at h1
      simp only[Qt_,Qb_] at h1
      split at h1
      ·rename_i cs' hcs
       cases hd:(Y3 cs&&Y3 cs') with
       | false=>rw[hd] at h1;exact h1.elim
       | true=>
         rw[hd] at h1
         simp only[Qb_,ZaP] at h1
         rw[Qh_] at hd
         unfold Zp7 at h1
         cases ho:Ja e with
         | false=>rw[ho] at h1;exact h1.elim
         | true=>
           rw[ho] at h1
           simp only[Qb_] at h1
           split at h1
           ·rename_i r hr
            exact ⟨_,_,h1,Z3b hE.Γ k2 k1 hc hb h2 ho hr hcs hro hd.1 hd.2⟩
           ·exact h1.elim
      ·exact h1.elim
 ·exact h.elim
theorem Z30{P:Program}{E:Env}(hE:EnvOk P E){C:ZR}(hC:CSOk P C){CP:Yn}(hP:CSPOk P CP){CI:Yk}(hI:CSIOk P CI){G:Gx}(hG:OwOk P C G){LS:List (Nat×LSum)}{b:Code}(hL:∀b'∈Ya b,∀S,lk (Wj b') LS=some S→Yt P b' S){n:Nat}{σ:St}{K:Ex→St→Prop}
 (h:YL E.Γ (RSym E C) (Zds E C CP CI G) LS n none b σ K):∃e σ',K e σ'∧Tri P b σ e σ':=by
 obtain ⟨e,σ',h1,h2,_⟩:=(Zbp hE.Γ hE.mixed ZlJ (ZhS hE (Zjy hC)) Zj0 (ZlO hE hC hP hI hG) n).1 b _ _ hL h
 exact ⟨e,σ',h1,h2⟩
def nz1:PV→PV
 | .nil=> .lst []
 | x=>x
def nzA:PV→PV
 | .nil=> .lst []
 | .agg cs=> .agg (cs.map nz1)
 | x=>x
def nz:PV→PV
 | .tup vs=> .tup (vs.map nzA)
 | x=>nzA x
section
variable {P:Program}{hw:Nat→Nat}{w:World}
theorem Z31{v:Value}{x:PV}(h:Rep hw w v x):Rep hw w v (nz1 x):=by
 cases h<;>first | exact .lnil | (constructor<;>assumption)
theorem Zn9{v:Value}{x:PV}(h:Rep hw w v x):Rep hw w v (nzA x):=by
 cases x with
 | nil=>cases h;exact .lnil
 | agg cs=>
   cases h with
   | agg vs _ hl hr h1=>
     refine .agg vs _ (by simpa using hl) (fun j a b ha hb=>?_) h1
     rw[Q6_] at hb
     cases hc:cs[j]? with
     | none=>rw[hc] at hb;cases hb
     | some c=>
       rw[hc] at hb
       have:=Qa_ hb
       subst this
       exact Z31 (hr j a c ha hc)
 | _=>exact h
theorem ZyC{v:Value}{x:PV}(h:Rep hw w v x):Rep hw w v (nz x):=by
 cases x with
 | tup vs=>
   cases h with
   | tup us _ hl hr=>
     refine .tup us _ (by simpa using hl) (fun j a b ha hb=>?_)
     rw[Q6_] at hb
     cases hc:vs[j]? with
     | none=>rw[hc] at hb;cases hb
     | some c=>
       rw[hc] at hb
       have:=Qa_ hb
       subst this
       exact Zn9 (hr j a c ha hc)
 | _=>exact Zn9 h
theorem ZuH{vals:List Value}{args:List PV}(h:ArgsRep hw w vals args):ArgsRep hw w vals (args.map nzA):=by
 refine ⟨by simpa using h.len,fun j a b ha hb=>?_⟩
 rw[Q6_] at hb
 cases hc:args[j]? with
 | none=>rw[hc] at hb;cases hb
 | some c=>
   rw[hc] at hb
   have:=Qa_ hb
   subst this
   exact Zn9 (h.rep j a c ha hc)
end
theorem Z4p{P:Program}{f:FuncId}{args:List PV}{r:PV}(h:Con P f args r):Con P f args (nz r):=fun hw w vals hl hg ha=>
 (h hw w vals hl hg ha).mono fun _ _ ⟨hw',q,hr⟩=>⟨hw',q,ZyC hr⟩
theorem Z0W{P:Program}{f:FuncId}{args:List PV}{r:PV}(h:Con P f (args.map nzA) r):Con P f args r:=fun hw w vals hl hg ha=>h hw w vals hl hg (ZuH ha)
abbrev Ent:=List PV→Option (PV×List Prop)
def YC(l:List (Nat×Ent)):ZR:=fun f args=>match lk f l with
 | some g=>g (args.map nzA)
 | none=>none
def Zi(P:Program)(f:Nat)(g:Ent):Prop:=∀args r ps,g args=some (r,ps)→Yj ps→Con P f args r
theorem Ze{P:Program}:CSOk P (YC []):=fun f args r ps h=>by simp[YC,lk] at h
theorem Za{P:Program}{f:Nat}{g:Ent}{l:List (Nat×Ent)}(h:Zi P f g)(hl:CSOk P (YC l)):CSOk P (YC ((f,g)::l)):=fun f' args r ps he hp=>by
 unfold YC at he
 rw[Zm] at he
 by_cases e:f'=f
 ·rw[if_pos e] at he
  subst e
  exact Z0W (h _ _ _ he hp)
 ·rw[if_neg e] at he
  exact hl f' args r ps he hp
def Zwa(P:Program)(f:Nat)(g:Ent)(T:Nat):Prop:=∀args r ps,g args=some (r,ps)→Yj ps→ZaB P f args T r
theorem Z32{P:Program}{f:FuncId}{args:List PV}{T:Nat}{r:PV}(h:ZaB P f args T r):ZaB P f args T (nz r):=fun hw w vals hl hg ha=>
 (h hw w vals hl hg ha).mono fun _ _ ⟨hw',q,hr,ho⟩=>⟨hw',q,ZyC hr,ho⟩
theorem ZyD{P:Program}{f:FuncId}{args:List PV}{T:Nat}{r:PV}(h:ZaB P f (args.map nzA) T r):ZaB P f args T r:=fun hw w vals hl hg ha=>h hw w vals hl hg (ZuH ha)
theorem Z0X{P:Program}{f:FuncId}{args:List PV}{T:Nat}{r:PV}(h:ZaB P f args T r):Con P f args r:=fun hw w vals hl hg ha=>
 (h hw w vals hl hg ha).mono fun _ _ ⟨hw',q,hr,_⟩=>⟨hw',q,hr⟩
def OwL(P:Program)(l:List (Nat×Ent))(ow:List (Nat×Nat)):Prop:=∀f T,lk f ow=some T→∀g,lk f l=some g→Zwa P f g T
theorem Zd9{P:Program}{l:List (Nat×Ent)}:OwL P l []:=fun f T h=>by simp[lk] at h
theorem Zrj{P:Program}{l:List (Nat×Ent)}{f T:Nat}{g:Ent}{ow:List (Nat×Nat)}(hg:lk f l=some g)(h:Zwa P f g T)(hl:OwL P l ow):OwL P l ((f,T)::ow):=fun f' T' h1 g' h2=>by
 rw[Zm] at h1
 by_cases e:f'=f
 ·subst e
  rw[if_pos rfl] at h1
  cases Qa_ h1
  rw[hg] at h2
  cases Qa_ h2
  exact h
 ·rw[if_neg e] at h1
  exact hl f' T' h1 g' h2
theorem ZdA{P:Program}{l:List (Nat×Ent)}{G:Gx}(h:OwL P l G.ow)(hn:∀T,has T G.nf=true→∃a b c,P.underlying T=some (.func a b c)):OwOk P (YC l) G:=⟨fun f T h1 args r ps h2 hp=>by
 unfold YC at h2
 split at h2
 ·rename_i g hg
  exact ZyD (h f T h1 g hg _ _ _ h2 hp)
 ·exact absurd h2 (by simp),hn⟩
def ZdW:Yn:=fun _ _ _=>none
def ZdX:Yk:=fun _ _ _=>none
theorem ZA{P:Program}:CSPOk P ZdW:=fun _ _ _ _ _ _ h=>absurd h (by simp[ZdW])
theorem Z7{P:Program}:CSIOk P ZdX:=fun _ _ _ _ _ _ h=>absurd h (by simp[ZdX])
theorem ZuI{P:Program}{E:Env}(hE:EnvOk P E){C:ZR}(hC:CSOk P C){CP:Yn}(hP:CSPOk P CP){CI:Yk}(hI:CSIOk P CI){G:Gx}(hG:OwOk P C G){LS:List (Nat×LSum)}{f:Nat}{fn:Func}(hf:lk f E.fns=some fn)(hL:ZF P LS fn){n:Nat}{args:List PV}{X:PV}
 (h:sxF E C CP CI G LS n fn args (fun r=>nz r=X)):Con P f args X:=by
 obtain ⟨r,hr,hc⟩:=Z4o hE hC hP hI hG hf hL h
 rw[←hr]
 exact Z4p hc
theorem Z0Y{P:Program}{E:Env}(hE:EnvOk P E){C:ZR}(hC:CSOk P C){CP:Yn}(hP:CSPOk P CP){CI:Yk}(hI:CSIOk P CI){G:Gx}(hG:OwOk P C G){LS:List (Nat×LSum)}{f:Nat}{fn:Func}(hf:lk f E.fns=some fn)(hL:ZF P LS fn){n:Nat}{T:Nat}{args:List PV}{X:PV}
 (h:ZvZ E C CP CI G LS n fn T args (fun r=>nz r=X)):ZaB P f args T X:=by
 obtain ⟨r,hr,hc⟩:=Z3z hE hC hP hI hG hf hL h
 rw[←hr]
 exact Z32 hc
def JW{α:Type}(l:List (Nat×α)):List Nat→List (Nat×α)
 | []=>[]
 | t::r=>match lk t l with
   | some v=>(t,v)::JW l r
   | none=>JW l r
def ZeS(l:List (Loc×Nat)):List Loc→List (Loc×Nat)
 | []=>[]
 | t::r=>match lkL t l with
   | some v=>(t,v)::ZeS l r
   | none=>ZeS l r
theorem ZeT{α:Type}{l:List (Nat×α)}{t:Nat}{v:α}:∀{ks:List Nat},lk t (JW l ks)=some v→lk t l=some v
 | [],h=>by simp[JW,lk] at h
 | k::r,h=>by
   unfold JW at h
   split at h
   ·rename_i v' hv
    rw[Zm] at h
    split at h
    ·rename_i e
     subst e
     rw[hv];exact h
    ·exact ZeT h
   ·exact ZeT h
theorem ZyE{a b:Loc}(h:a.eq b=true):a=b:=by
 cases a<;>cases b<;>simp only[Loc.eq,Qh_] at h
 ·rw[Qj_ h]
 ·cases h
 ·cases h
 ·rw[Qj_ h.1,Qj_ h.2]
theorem ZhZ{l:List (Loc×Nat)}{t:Loc}{v:Nat}:∀{ks:List Loc},lkL t (ZeS l ks)=some v→lkL t l=some v
 | [],h=>by simp[ZeS,lkL] at h
 | k::r,h=>by
   unfold ZeS at h
   split at h
   ·rename_i v' hv
    unfold lkL at h
    cases hb:t.eq k with
    | true=>
      rw[hb] at h
      rw[ZyE hb,hv]
      exact h
    | false=>
      rw[hb] at h
      exact ZhZ h
   ·exact ZhZ h
structure Kp where
 t:List Nat
 b:List Nat
 o:List Loc
def ZlP(bx:List (Nat×List PV))(b:Nat):Bool:=XA (lk b bx)
def okS(τ:St):Bool:=
 τ.tmps.all (fun (_,v)=>(Wo v).all (ZlP τ.boxes))&&(τ.own.all (fun (l,_)=>match l with | .t _=>true | .b b _=>ZlP τ.boxes b)&&τ.boxes.all (fun (_,cs)=>(Zaj cs).all (ZlP τ.boxes)))
def Zwb(k:Kp)(σ:St):Option St:=
 bif okS ⟨σ.n,JW σ.tmps k.t,JW σ.boxes k.b,σ.ro,ZeS σ.own k.o,[]⟩ then some ⟨σ.n,JW σ.tmps k.t,JW σ.boxes k.b,σ.ro,ZeS σ.own k.o,[]⟩ else none
theorem Zia{bx:List (Nat×List PV)}{b:Nat}(h:ZlP bx b=true):∃cs,lk b bx=some cs:=by
 unfold ZlP at h
 cases hb:lk b bx with
 | none=>rw[hb] at h;exact absurd h (by simp[XA])
 | some cs=>exact ⟨cs,rfl⟩
theorem ZnA{α:Type}{t:Nat}{v:α}:∀{l:List (Nat×α)},lk t l=some v→(t,v)∈l
 | [],h=>by simp[lk] at h
 | (t',v')::r,h=>by
   rw[Zm] at h
   split at h
   ·rename_i e
    subst e
    have:=Qa_ h
    subst this
    exact Qv_ ..
   ·exact Qq_ _ (ZnA h)
theorem Zrk{t:Loc}{v:Nat}:∀{l:List (Loc×Nat)},lkL t l=some v→(t,v)∈l
 | [],h=>by simp[lkL] at h
 | (t',v')::r,h=>by
   unfold lkL at h
   cases hb:t.eq t' with
   | true=>
     rw[hb] at h
     have:=Qa_ h
     subst this
     rw[ZyE hb]
     exact Qv_ ..
   | false=>rw[hb] at h;exact Qq_ _ (Zrk h)
theorem ZyF{k:Kp}{σ τ:St}(h:Zwb k σ=some τ):Sub τ σ:=by
 unfold Zwb at h
 cases hb:okS ⟨σ.n,JW σ.tmps k.t,JW σ.boxes k.b,σ.ro,ZeS σ.own k.o,[]⟩ with
 | false=>rw[hb] at h;cases h
 | true=>
   rw[hb] at h
   have:=Qa_ h
   subst this
   simp only[okS,Qh_] at hb
   obtain ⟨h1,h2,h3⟩:=hb
   have tm:∀t v,lk t (JW σ.tmps k.t)=some v→∀b∈Wo v,∃cs,lk b (JW σ.boxes k.b)=some cs:=fun t v ht b hm=>
    Zia (QK_.1 (QK_.1 h1 _ (ZnA ht)) b hm)
   refine ⟨rfl,fun t v ht=>ZeT ht,fun b cs hb=>ZeT hb,fun b hm=>hm,fun t b off ht=>tm t _ ht b (by simp[Wo]),fun t f bs ht b hm=>tm t _ ht b hm,fun l E hl=>ZhZ hl,fun b c E hl=>?_,fun t l hm=>absurd hm (by simp),fun t b c hm=>absurd hm (by simp),fun t b off n s ht=>tm t _ ht b (by simp[Wo]),fun b cs hb y hy b' hb'=>?_⟩
   ·exact Zia (QK_.1 h2 _ (Zrk hl))
   ·exact Zia (QK_.1 (QK_.1 h3 _ (ZnA hb)) b' (JP hy hb'))
def Zt(fn:Func)(i:Nat):Code:=match fn.body with
 | some c=>(Ya c).getD i .skip
 | none=> .skip
def LsA(P:Program)(LS:List (Nat×LSum)):List Code→Prop
 | []=>True
 | b::r=>(∀S,lk (Wj b) LS=some S→Yt P b S)∧LsA P LS r
theorem Zu{P:Program}{LS:List (Nat×LSum)}:LsA P LS []:=trivial
theorem ZE{P:Program}{LS:List (Nat×LSum)}{b:Code}{r:List Code}{i:Nat}{S:LSum}(hi:Wj b=i)(hl:lk i LS=some S)(h:Yt P b S)(hr:LsA P LS r):LsA P LS (b::r):=
 ⟨fun S' h'=>by rw[hi,hl] at h';have:=Qa_ h';subst this;exact h,hr⟩
theorem Zcg{P:Program}{LS:List (Nat×LSum)}{b:Code}{r:List Code}{i:Nat}(hi:Wj b=i)(hl:lk i LS=none)(hr:LsA P LS r):LsA P LS (b::r):=
 ⟨fun S' h'=>by rw[hi,hl] at h';exact absurd h' (by simp),hr⟩
theorem ZnB{P:Program}{LS:List (Nat×LSum)}:∀{l:List Code},LsA P LS l→∀b∈l,∀S,lk (Wj b) LS=some S→Yt P b S
 | [],_,b,hb,_,_=>absurd hb (by simp)
 | c::r,h,b,hb,S,hS=>by
   rcases Q9_.1 hb with e | hb
   ·subst e;exact h.1 S hS
   ·exact ZnB h.2 b hb S hS
theorem ZV{P:Program}{LS:List (Nat×LSum)}{c:Code}{l:List Code}(he:Ya c=l)(h:LsA P LS l):∀b∈Ya c,∀S,lk (Wj b) LS=some S→Yt P b S:=by
 rw[he];exact ZnB h
theorem ZN{P:Program}{LS:List (Nat×LSum)}{fn:Func}{l:List Code}(he:(match fn.body with | some c=>Ya c | none=>[])=l)(h:LsA P LS l):ZF P LS fn:=fun c hc b hm S hl=>by
 rw[hc] at he
 simp only at he
 rw[he] at hm
 exact ZnB h b hm S hl
def Zwc(Γ:List (Nat×Ty))(t E:Nat)(σ:St):St:=match lk t σ.tmps,lk E Γ with
 | some (.p .nil),some _=>{σ with tmps:=(t,.p (.lst []))::σ.tmps,own:=(.t t,E)::σ.own}
 | _,_=>σ
def Zp8(Γ:List (Nat×Ty))(t E:Nat)(σ:St):St:=match lk t σ.tmps with
 | some (.p .nil)=>Zwc Γ t E σ
 | _=>match lk t σ.al with
   | some l=>match lkL l σ.own with
     | some E'=>bif Nat.beq E E'&&Nat.blt t σ.n then {σ with own:=(.t t,E)::σ.own.filter fun (l',_)=> !(l'.eq l)} else σ
     | none=>σ
   | none=>σ
def Zp9(Γ:List (Nat×Ty))(b c E:Nat)(σ:St):St:=match lk b σ.boxes,lk E Γ with
 | some cs,some _=>match cs[c]? with
   | some .nil=>bif Nat.blt b σ.n then {σ with boxes:=(b,cs.set c (.lst []))::σ.boxes,own:=(.b b c,E)::σ.own} else σ
   | _=>σ
 | _,_=>σ
def ZlQ(Γ:List (Nat×Ty))(l:Loc)(E:Nat)(σ:St):St:=match l with
 | .t t=>Zp8 Γ t E σ
 | .b b c=>Zp9 Γ b c E σ
def ZdB(Γ:List (Nat×Ty)):List (Loc×Nat)→St→St
 | [],σ=>σ
 | (l,E)::r,σ=>ZdB Γ r (ZlQ Γ l E σ)
section
variable {P:Program}{B:Nat}{g:G}{σ τ:St}{a:Act}{w:World}
theorem Z0Z{Γ:List (Nat×Ty)}(hΓ:Yb P Γ){t E:Nat}(hI:Inv P B g σ a w):Inv P B g (Zwc Γ t E σ) a w:=by
 unfold Zwc
 split
 ·rename_i ety ht hE
  obtain ⟨hlt,hrep⟩:=hI.tmp t _ ht
  have hval:a.tmps.getD t undef= .slice none 0 0:=by
   have hrep:Rep g.hw w (a.tmps.getD t undef) .nil:=hrep
   generalize a.tmps.getD t undef=v at hrep
   cases hrep;rfl
  obtain ⟨i,z,hi,_⟩:=(ZU (hΓ _ _ hE)).info
  have hown:OwnV P B g.hw w E (.slice none 0 0):=⟨i,0,[],hi,World.ownsRow_nil _ _ _ _,fun k hk=>absurd hk (by simp[Value.ownBlock])⟩
  have h1:=ZeJ hI hlt hval hown (fun k hk=>absurd hk (by simp[Value.ownBlock])) (fun l E' val' k _ _ hk=>absurd hk (by simp[Value.ownBlock]))
  have lkc:∀t' v,lk t' ((t,AV.p (.lst []))::σ.tmps)=some v→(t'=t∧v= .p (.lst []))∨lk t' σ.tmps=some v:=by
   intro t' v h
   rw[Zm] at h
   split at h
   ·rename_i e
    exact .inl ⟨e,(Qa_ h).symm⟩
   ·exact .inr h
  refine ⟨h1.size,h1.defers,fun t' v h=>?_,fun t' b off h=>?_,fun t' f bs h=>?_,h1.box,h1.inj,h1.hwlt,h1.base,h1.glob,h1.own,h1.ownt,h1.owninj,h1.al,h1.alt,fun t' b off n s h=>?_,h1.ref⟩
  ·rcases lkc t' v h with ⟨rfl,rfl⟩ | h
   ·exact ⟨hlt,by show Rep g.hw w _ (.lst []);rw[hval];exact .lnil⟩
   ·exact hI.tmp t' v h
  ·rcases lkc t' _ h with ⟨_,e⟩ | h
   ·cases e
   ·exact hI.ptr t' b off h
  ·rcases lkc t' _ h with ⟨_,e⟩ | h
   ·cases e
   ·exact hI.fnp t' f bs h
  ·rcases lkc t' _ h with ⟨_,e⟩ | h
   ·cases e
   ·exact hI.sl t' b off n s h
 ·exact hI
theorem ZyG{Γ:List (Nat×Ty)}(hΓ:Yb P Γ){t E:Nat}(hI:Inv P B g σ a w):Inv P B g (Zp8 Γ t E σ) a w:=by
 unfold Zp8
 split
 ·exact Z0Z hΓ hI
 ·split
  ·rename_i l hl
   split
   ·rename_i E' hE
    cases hb:(Nat.beq E E'&&Nat.blt t σ.n) with
    | false=>exact hI
    | true=>
      rw[Qh_] at hb
      have e1:=Qj_ hb.1
      subst e1
      have hlt:t < σ.n:=Qm_ hb.2
      have hal:=hI.al t l (Zbh hl)
      obtain ⟨val,v1,v2,v3⟩:=hI.own l E hE
      have hv:a.tmps.getD t undef=val:=J6 hal v1
      have hf:∀l2 E2,lkL l2 (σ.own.filter fun (l',_)=> !(l'.eq l))=some E2→l2≠l∧lkL l2 σ.own=some E2:=by
       intro l2 E2 h
       rw[Ye (fun l'=> !(l'.eq l))] at h
       split at h
       ·rename_i hn
        refine ⟨fun e=>?_,h⟩
        subst e
        rw[Loc.eq_iff.2 rfl] at hn
        cases hn
       ·cases h
      have base:Inv P B g {σ with own:=σ.own.filter fun (l',_)=> !(l'.eq l)} a w:=
       ⟨hI.size,hI.defers,hI.tmp,hI.ptr,hI.fnp,hI.box,hI.inj,hI.hwlt,hI.base,hI.glob,fun l2 E2 h=>hI.own l2 E2 (hf l2 E2 h).2,fun l2 E2 h=>hI.ownt l2 E2 (hf l2 E2 h).2,
        fun l2 l3 E2 E3 x y k h2 h3=>hI.owninj l2 l3 E2 E3 x y k (hf l2 E2 h2).2 (hf l3 E3 h3).2,hI.al,hI.alt,hI.sl,hI.ref⟩
      refine ZeJ base hlt hv v2 v3 (fun l2 E2 val2 k h2 hloc hk hk2=>?_)
      exact (hf l2 E2 h2).1 (hI.owninj l2 l E2 E val2 val k (hf l2 E2 h2).2 hE hloc v1 hk2 hk)
   ·exact hI
  ·exact hI
theorem ZyH{Γ:List (Nat×Ty)}(hΓ:Yb P Γ){b c E:Nat}(hI:Inv P B g σ a w):Inv P B g (Zp9 Γ b c E σ) a w:=by
 unfold Zp9
 split
 ·rename_i cs ety hb hE
  split
  ·rename_i hc
   cases hn:Nat.blt b σ.n with
   | false=>exact hI
   | true=>
     obtain ⟨k0,base0,hk0,hlt0,hok0,hh0,hB0⟩:=hI.box b cs hb
     have hlen:c < cs.length:=(Qo_.1 hc).1
     obtain ⟨v0,q1,q2,q3,q4⟩:=hok0.cell c .nil hc
     have hv0:v0= .slice none 0 0:=by
      have h:=q4.plain rfl
      cases h;rfl
     subst hv0
     obtain ⟨i,z,hi,_⟩:=(ZU (hΓ _ _ hE)).info
     have hown:OwnV P B g.hw w E (.slice none 0 0):=⟨i,0,[],hi,World.ownsRow_nil _ _ _ _,fun k hk=>absurd hk (by simp[Value.ownBlock])⟩
     have lkc:∀b' cs',lk b' ((b,cs.set c (.lst []))::σ.boxes)=some cs'→(b'=b∧cs'=cs.set c (.lst []))∨lk b' σ.boxes=some cs':=by
      intro b' cs' h
      rw[Zm] at h
      split at h
      ·rename_i e
       exact .inl ⟨e,(Qa_ h).symm⟩
      ·exact .inr h
     have lkm:∀b',(∃cs',lk b' σ.boxes=some cs')→∃cs',lk b' ((b,cs.set c (.lst []))::σ.boxes)=some cs':=by
      intro b' ⟨cs',h⟩
      rw[Zm]
      split
      ·exact ⟨_,rfl⟩
      ·exact ⟨cs',h⟩
     have lkb:∀b' cs',lk b' ((b,cs.set c (.lst []))::σ.boxes)=some cs'→∃cs0,lk b' σ.boxes=some cs0:=by
      intro b' cs' h
      rcases lkc b' cs' h with ⟨rfl,_⟩ | h
      ·exact ⟨_,hb⟩
      ·exact ⟨_,h⟩
     have lko:∀l E',lkL l ((Loc.b b c,E)::σ.own)=some E'→(l= .b b c∧E'=E)∨(l≠ .b b c∧lkL l σ.own=some E'):=by
      intro l E' hl
      rw[Y4] at hl
      split at hl
      ·rename_i e;exact .inl ⟨e,(Qa_ hl).symm⟩
      ·rename_i e;exact .inr ⟨e,hl⟩
     have nob:∀{v:Value},LocIs g a w (.b b c) v→v.ownBlock=none:=by
      intro v h
      obtain ⟨k1,b1,e1,e2⟩:=h
      rw[hk0] at e1
      cases Qa_ e1
      rw[q1] at e2
      cases Qa_ e2
      rfl
     refine ⟨hI.size,hI.defers,hI.tmp,fun t b' off h=>lkm b' (hI.ptr t b' off h),fun t f bs h b' hb'=>lkm b' (hI.fnp t f bs h b' hb'), ?_, ?_,hI.hwlt,hI.base,hI.glob, ?_, ?_, ?_,hI.al,fun t b' c' h=>lkm b' (hI.alt t b' c' h),fun t b' off n s h=>lkm b' (hI.sl t b' off n s h), ?_⟩
     ·intro b' cs' h
      rcases lkc b' cs' h with ⟨rfl,rfl⟩ | h
      ·refine ⟨k0,base0,hk0,hlt0,⟨fun j y hy=>?_⟩,hh0,hB0⟩
       rw[List.getElem?_set] at hy
       split at hy
       ·rename_i e
        subst e
        have hy:some (PV.lst [])=some y:=by simpa [hlen] using hy
        cases Qa_ hy
        exact ⟨_,q1,q2,q3,.rep .lnil⟩
       ·exact hok0.cell j y hy
      ·exact hI.box b' cs' h
     ·intro b1 b2 c1 c2 k x y h1 h2
      obtain ⟨d1,h1⟩:=lkb _ _ h1
      obtain ⟨d2,h2⟩:=lkb _ _ h2
      exact hI.inj b1 b2 d1 d2 k x y h1 h2
     ·intro l E' hl
      rcases lko l E' hl with ⟨rfl,rfl⟩ | ⟨_,hl⟩
      ·exact ⟨.slice none 0 0,⟨k0,base0,hk0,q1⟩,hown,fun k hk=>absurd hk (by simp[Value.ownBlock])⟩
      ·obtain ⟨val,v1,v2,v3⟩:=hI.own l E' hl
       refine ⟨val,v1,v2,fun k hk b' cs' base h=>?_⟩
       obtain ⟨d1,h⟩:=lkb _ _ h
       exact v3 k hk b' d1 base h
     ·intro l E' hl
      rcases lko l E' hl with ⟨rfl,rfl⟩ | ⟨_,hl⟩
      ·exact lkm b ⟨cs,hb⟩
      ·have:=hI.ownt l E' hl
       cases l with
       | t t=>exact this
       | b b1 c1=>exact lkm b1 this
     ·intro l l' E1 E2 v1 v2 k hl hl' h1 h2 h3 h4
      rcases lko l E1 hl with ⟨rfl,rfl⟩ | ⟨hne,hq⟩<;>rcases lko l' E2 hl' with ⟨rfl,rfl⟩ | ⟨hne',hq'⟩
      ·rfl
      ·rw[nob h1] at h3;cases h3
      ·rw[nob h2] at h4;cases h4
      ·exact hI.owninj l l' E1 E2 v1 v2 k hq hq' h1 h2 h3 h4
     ·intro b' cs' h y hy b2 hr
      rcases lkc b' cs' h with ⟨rfl,rfl⟩ | h
      ·rcases List.mem_or_eq_of_mem_set hy with hy | rfl
       ·exact lkm b2 (hI.ref b' cs hb y hy b2 hr)
       ·exact absurd hr (by simp[Xg])
      ·exact lkm b2 (hI.ref b' cs' h y hy b2 hr)
  ·exact hI
 ·exact hI
theorem ZyI{Γ:List (Nat×Ty)}(hΓ:Yb P Γ){l:Loc}{E:Nat}(hI:Inv P B g σ a w):Inv P B g (ZlQ Γ l E σ) a w:=by
 cases l with
 | t t=>exact ZyG hΓ hI
 | b b c=>exact ZyH hΓ hI
theorem Zkb{Γ:List (Nat×Ty)}(hΓ:Yb P Γ):∀{l:List (Loc×Nat)} {σ:St},Inv P B g σ a w→Inv P B g (ZdB Γ l σ) a w
 | [],_,h=>h
 | (t,E)::r,σ,h=>by
   unfold ZdB
   exact Zkb hΓ (ZyI hΓ h)
def Zj1(σ τ:St):Prop:=τ.n=σ.n∧∀b,σ.n≤b→lk b τ.boxes=lk b σ.boxes
theorem Zot{c:Bool}{σ τ:St}(h:c=true→Zj1 σ τ):Zj1 σ (bif c then τ else σ):=by
 cases c with
 | false=>exact ⟨rfl,fun _ _=>rfl⟩
 | true=>exact h rfl
theorem Zwd(Γ:List (Nat×Ty))(l:Loc)(E:Nat)(σ:St):Zj1 σ (ZlQ Γ l E σ):=by
 unfold ZlQ
 split
 ·unfold Zp8 Zwc
  repeat' split
  all_goals first | exact ⟨rfl,fun _ _=>rfl⟩ | exact Zot fun _=>⟨rfl,fun _ _=>rfl⟩
 ·unfold Zp9
  repeat' split
  all_goals first | exact ⟨rfl,fun _ _=>rfl⟩ | skip
  refine Zot fun hn=>⟨rfl,fun b' hb'=>?_⟩
  have hn:=Qm_ hn
  show lk b' (_::σ.boxes)=_
  rw[Zm,if_neg (by omega)]
theorem ZdY(Γ:List (Nat×Ty)):∀(l:List (Loc×Nat)) (σ:St),Zj1 σ (ZdB Γ l σ)
 | [],_=>⟨rfl,fun _ _=>rfl⟩
 | (t,E)::r,σ=>by
   have h1:=Zwd Γ t E σ
   have h2:=ZdY Γ r (ZlQ Γ t E σ)
   exact ⟨h2.1.trans h1.1,fun b hb=>(h2.2 b (by rw[h1.1];exact hb)).trans (h1.2 b hb)⟩
theorem Z33{g':G}{w':World}{σ':St}(h0:Zj1 σ τ)(h:Fr B g τ w g' σ' w'):Fr B g σ w g' σ' w':=by
 obtain ⟨h1,h2⟩:=h0
 have l1:∀k,Jy g τ k→Jy g σ k:=fun k ⟨b,cs,base,a1,a2,a3⟩=>⟨b,cs,base,by rw[←h1];exact a1,by rw[←h2 b (by rw[←h1];exact a1)];exact a2,a3⟩
 have l2:∀k off,Lent g τ k off→Lent g σ k off:=fun k off ⟨b,cs,base,a1,a2,a3⟩=>⟨b,cs,base,by rw[←h1];exact a1,by rw[←h2 b (by rw[←h1];exact a1)];exact a2,a3⟩
 exact ⟨h.os,h.tape,h.output,h.size,h.n.trans h1,fun k hk hn=>h.block k hk (fun hl=>hn (l1 k hl)),fun k off hk hn=>h.cell k off hk (fun hl=>hn (l2 k off hl)),h.frozen,fun k hk hn=>h.hw k hk (fun hl=>hn (l1 k hl)),
  fun b cs hn hb=>by obtain ⟨cs0,q1,q2,q3⟩:=h.par b cs (by rw[h1];exact hn) hb;exact ⟨cs0,by rw[←h2 b hn];exact q1,q2,q3⟩,h.ext⟩
theorem Z1a{g0:G}{w0:World}{σ0:St}(h0:Zj1 σ τ)(h:Fr B g0 σ0 w0 g σ w):Fr B g0 σ0 w0 g τ w:=
 ⟨h.os,h.tape,h.output,h.size,h0.1.trans h.n,h.block,h.cell,h.frozen,h.hw,fun b cs hn hb=>h.par b cs hn (by rw[←h0.2 b (by rw[h.n];exact hn)];exact hb),h.ext⟩
end
def Wk(P:Program)(σ τ:St):Prop:=∀B g a w,Inv P B g σ a w→Inv P B g τ a w∧(∀g' σ' w',Fr B g τ w g' σ' w'→Fr B g σ w g' σ' w')∧∀B0 g0 σ0 w0,Fr B0 g0 σ0 w0 g σ w→Fr B0 g0 σ0 w0 g τ w
theorem Z4q{P:Program}{σ τ:St}(h:Sub τ σ):Wk P σ τ:=fun _ _ _ _ hI=>⟨Zca hI h,fun _ _ _ hf=>Zqz hf h,fun _ _ _ _ hf=>Zku hf h⟩
theorem Z34{P:Program}{Γ:List (Nat×Ty)}(hΓ:Yb P Γ)(l:List (Loc×Nat))(σ:St):Wk P σ (ZdB Γ l σ):=fun _ _ _ _ hI=>
 ⟨Zkb hΓ hI,fun _ _ _ hf=>Z33 (ZdY Γ l σ) hf,fun _ _ _ _ hf=>Z1a (ZdY Γ l σ) hf⟩
theorem Wk.trans{P:Program}{σ τ ρ:St}(h:Wk P σ τ)(h':Wk P τ ρ):Wk P σ ρ:=fun B g a w hI=>by
 obtain ⟨i1,l1,r1⟩:=h B g a w hI
 obtain ⟨i2,l2,r2⟩:=h' B g a w i1
 exact ⟨i2,fun _ _ _ hf=>l1 _ _ _ (l2 _ _ _ hf),fun _ _ _ _ hf=>r2 _ _ _ _ (r1 _ _ _ _ hf)⟩
theorem Z35{P:Program}{c:Code}{σ τ σ':St}{e:Ex}(hs:Wk P σ τ)(h:Tri P c τ e σ'):Tri P c σ e σ':=fun B g a w hI=>
 wp_mono (h B g a w (hs B g a w hI).1) fun _ _ _ ⟨h1,g',h2,h3⟩=>⟨h1,g',h2,(hs B g a w hI).2.1 _ _ _ h3⟩
theorem Z36{P:Program}{c:Code}{σ τ σ':St}{e:Ex}(hs:Wk P σ' τ)(h:Tri P c σ e σ'):Tri P c σ e τ:=fun B g a w hI=>
 wp_mono (h B g a w hI) fun _ a' w' ⟨h1,g',h2,h3⟩=>⟨h1,g',(hs B g' a' w' h2).1,(hs B g' a' w' h2).2.2 _ _ _ _ h3⟩
theorem Z1b{P:Program}{c:Code}{n:Nat}{σ τ σ':St}{e:Ex}(hs:Wk P σ' τ)(h:J7 P n c σ e σ'):J7 P n c σ e τ:=fun B g a w hI=>
 Zft (fun _ a' w' ⟨h1,g',h2,h3⟩=>⟨h1,g',(hs B g' a' w' h2).1,(hs B g' a' w' h2).2.2 _ _ _ _ h3⟩) n a w (h B g a w hI)
structure KpH where
 k:Kp
 h:List (Loc×Nat)
def Zbr(Γ:List (Nat×Ty))(k:KpH)(σ:St):Option St:=Zwb k.k (ZdB Γ k.h σ)
theorem Zrl{P:Program}{Γ:List (Nat×Ty)}(hΓ:Yb P Γ){k:KpH}{σ τ:St}(h:Zbr Γ k σ=some τ):Wk P σ τ:=(Z34 hΓ k.h σ).trans (Z4q (ZyF h))
def kpH(Γ:List (Nat×Ty))(k ke kr:KpH)(e:Ex)(σ:St):Option St:=match e with
 | .normal=>Zbr Γ k σ
 | .ret=>Zbr Γ kr σ
 | _=>Zbr Γ ke σ
theorem ZyJ{P:Program}{Γ:List (Nat×Ty)}(hΓ:Yb P Γ){k ke kr:KpH}{e:Ex}{σ τ:St}(h:kpH Γ k ke kr e σ=some τ):Wk P σ τ:=by
 cases e<;>exact Zrl hΓ h
def sxH(E:Env)(C:ZR)(CP:Yn)(CI:Yk)(G:Gx)(LS:List (Nat×LSum))(n:Nat)(b:Code)(k ke kr:KpH)(σ:St)(Q:Ex→Option St→Prop):Prop:=
 ZhX (clean (Jm b) σ) fun σ=>YL E.Γ (RSym E C) (Zds E C CP CI G) LS n none b σ fun e σ1=>Q e (kpH E.Γ k ke kr e σ1)
theorem Z6{P:Program}{E:Env}(hE:EnvOk P E){C:ZR}(hC:CSOk P C){CP:Yn}(hP:CSPOk P CP){CI:Yk}(hI:CSIOk P CI){G:Gx}(hG:OwOk P C G){LS:List (Nat×LSum)}{b:Code}(hL:∀b'∈Ya b,∀S,lk (Wj b') LS=some S→Yt P b' S){n:Nat}
 {X:Type} (H:X→St) (inv:X→Prop) (fin:X→Ex→St→Prop) (μ:X→Nat) (k ke kr:KpH)
 (step:∀x,inv x→sxH E C CP CI G LS n b k ke kr (H x) fun e o=>
   (e= .normal∧∃y,o=some (H y)∧inv y∧μ y < μ x∧∀e s,fin y e s→fin x e s)∨(e≠ .normal∧∃τ,o=some τ∧fin x e τ)):
 ∀x,inv x→∃e σ',fin x e σ'∧∃m,J7 P m b (H x) e σ':=by
 have key:∀j x,μ x < j→inv x→∃e σ',fin x e σ'∧∃m,J7 P m b (H x) e σ':=by
  intro j
  induction j with
  | zero=>intro x hx;omega
  | succ j ih=>
    intro x hx hi
    have hs:=step x hi
    unfold sxH at hs
    rw[ZfL] at hs
    obtain ⟨e,σ1,h1,h2⟩:=Z30 hE hC hP hI hG hL hs
    have h3:=XQ h2
    rcases h1 with ⟨rfl,y,hy,iy,my,fy⟩ | ⟨hne,τ,ht,hf⟩
    ·obtain ⟨e',σ',f1,m,f2⟩:=ih y (by omega) iy
     exact ⟨e',σ',fy _ _ f1,m+1,Zgs (Z36 (ZyJ hE.Γ hy) h3) f2⟩
    ·exact ⟨e,τ,hf,1,Z1b (ZyJ hE.Γ ht) (Zkw hne h3)⟩
 exact fun x hi=>key (μ x+1) x (by omega) hi
theorem Zch{P:Program}{Γ:List (Nat×Ty)}(hΓ:Yb P Γ){b:Code}{S:LSum}{X:Type}{H:X→St}{inv:X→Prop}{fin:X→Ex→St→Prop}(h:∀x,inv x→∃e σ',fin x e σ'∧∃m,J7 P m b (H x) e σ')(k:KpH)
 (hS:∀σ K,S σ K→∃x,Zbr Γ k σ=some (H x)∧inv x∧∀e σ',fin x e σ'→K e σ'):Yt P b S:=fun σ K hs=>by
 obtain ⟨x,h1,h2,h3⟩:=hS σ K hs
 obtain ⟨e,σ',f1,m,f2⟩:=h x h2
 exact ⟨e,σ',h3 e σ' f1,Z35 (Zrl hΓ h1) (Zgt f2)⟩
end Go.Ev
namespace Go.Men
open Go.Ev
theorem Zb{b:Bool}{X Y:Prop}(h:b=true→X)(h':b=false→Y):(bif b then X else Y):=by
 cases b
 ·exact h' rfl
 ·exact h rfl
def eOr(a b:Ent):Ent:=fun args=>match a args with
 | some r=>some r
 | none=>b args
theorem Zrm{P:Program}{f:Nat}{a b:Ent}(ha:Zi P f a)(hb:Zi P f b):Zi P f (eOr a b):=fun args r ps h hp=>by
 unfold eOr at h
 split at h
 ·rename_i q hq
  have:=Qa_ h
  subst this
  exact ha _ _ _ hq hp
 ·exact hb _ _ _ h hp
def Zd{α:Type}(d:List PV→α)(xs:List (List PV)):List α:=xs.map d
theorem W8{α:Type}(d:List PV→α)(e:α→List PV)(h:∀x,d (e x)=x)(l:List α):Zd d (l.map e)=l:=by
 unfold Zd
 rw[List.map_map]
 conv=>rhs;rw[←List.map_id l]
 exact List.map_congr_left fun x _=>h x
structure Iv where
 lo:Int
 hi:Int
 no:Bool
 deriving DecidableEq
def Iv.enc(a:Iv):List PV:=[.v (.int .i64 a.lo),.v (.int .i64 a.hi),.v (.bool a.no)]
def Iv.dec(p:List PV):Iv:=⟨intOf (p.headD .nil),intOf (p.tail.headD .nil),Zr (p.tail.tail.headD .nil)⟩
structure V where
 x:Iv
 y:Iv
 z:Iv
 deriving DecidableEq
def V.enc(a:V):List PV:=[.v (.int .i64 a.x.lo),.v (.int .i64 a.x.hi),.v (.bool a.x.no),.v (.int .i64 a.y.lo),.v (.int .i64 a.y.hi),.v (.bool a.y.no),.v (.int .i64 a.z.lo),.v (.int .i64 a.z.hi),.v (.bool a.z.no)]
structure Ray where
 o:V
 d:V
 deriving DecidableEq
def Ray.enc(r:Ray):List PV:=[.v (.int .i64 r.o.x.lo),.v (.int .i64 r.o.x.hi),.v (.bool r.o.x.no),.v (.int .i64 r.o.y.lo),.v (.int .i64 r.o.y.hi),.v (.bool r.o.y.no),.v (.int .i64 r.o.z.lo),.v (.int .i64 r.o.z.hi),.v (.bool r.o.z.no),
 .v (.int .i64 r.d.x.lo),.v (.int .i64 r.d.x.hi),.v (.bool r.d.x.no),.v (.int .i64 r.d.y.lo),.v (.int .i64 r.d.y.hi),.v (.bool r.d.y.no),.v (.int .i64 r.d.z.lo),.v (.int .i64 r.d.z.hi),.v (.bool r.d.z.no)]
structure Dec where
 c:Int
 scale:Int
 deriving DecidableEq
def Dec.enc(a:Dec):List PV:=[.v (.int .i64 a.c),.v (.int .i64 a.scale)]
structure A3 where
 a:Int
 b:Int
 c:Int
 deriving DecidableEq
def A3.enc(x:A3):List PV:=[.v (.int .i64 x.a),.v (.int .i64 x.b),.v (.int .i64 x.c)]
structure A6 where
 a:Int
 b:Int
 c:Int
 d:Int
 e:Int
 f:Int
def A6.enc(x:A6):List PV:=[.v (.int .i64 x.a),.v (.int .i64 x.b),.v (.int .i64 x.c),.v (.int .i64 x.d),.v (.int .i64 x.e),.v (.int .i64 x.f)]
structure RawRay where
 x:Int
 y:Int
 u:Int
 w:Int
 wide:Int
 lean:Int
def RawRay.enc(r:RawRay):List PV:=[.v (.int .i64 r.x),.v (.int .i64 r.y),.v (.int .i64 r.u),.v (.int .i64 r.w),.v (.int .i64 r.wide),.v (.int .i64 r.lean)]
structure Shape where
 kind:Int
 x:Dec
 y:Dec
 z:Dec
 r:Dec
 glow:A3
def Shape.enc(s:Shape):List PV:=[.v (.int .i64 s.kind),.v (.int .i64 s.x.c),.v (.int .i64 s.x.scale),.v (.int .i64 s.y.c),.v (.int .i64 s.y.scale),.v (.int .i64 s.z.c),.v (.int .i64 s.z.scale),.v (.int .i64 s.r.c),.v (.int .i64 s.r.scale),.v (.int .i64 s.glow.a),.v (.int .i64 s.glow.b),.v (.int .i64 s.glow.c)]
def Shape.dec(p:List PV):Shape:=⟨intOf (p.headD .nil),⟨intOf (p.tail.headD .nil),intOf (p.tail.tail.headD .nil)⟩,⟨intOf (p.tail.tail.tail.headD .nil),intOf (p.tail.tail.tail.tail.headD .nil)⟩,⟨intOf (p.tail.tail.tail.tail.tail.headD .nil),intOf (p.tail.tail.tail.tail.tail.tail.headD .nil)⟩,⟨intOf (p.tail.tail.tail.tail.tail.tail.tail.headD .nil),intOf (p.tail.tail.tail.tail.tail.tail.tail.tail.headD .nil)⟩,⟨intOf (p.tail.tail.tail.tail.tail.tail.tail.tail.tail.headD .nil),intOf (p.tail.tail.tail.tail.tail.tail.tail.tail.tail.tail.headD .nil),intOf (p.tail.tail.tail.tail.tail.tail.tail.tail.tail.tail.tail.headD .nil)⟩⟩
structure I where
 n:Int
def I.enc(a:I):List PV:=[.v (.int .i64 a.n)]
def I.dec(p:List PV):I:=⟨intOf (p.headD .nil)⟩
def Fit(n:Int):Prop:= -9223372036854775808≤n∧n≤9223372036854775807
theorem Zf{n:Int}(h:Fit n):IntKind.i64.wrap n=n:=by
 obtain ⟨h1,h2⟩:=h
 simp[IntKind.wrap,IntKind.bits,IntKind.signed]
 split<;>omega
theorem ZgF{b:Int}(hb:b≠0):(b < 0∧b.sign= -1)∨(0 < b∧b.sign=1):=by
 rcases Int.lt_or_gt_of_ne hb with h | h
 ·exact .inl ⟨h,Int.sign_eq_neg_one_of_neg h⟩
 ·exact .inr ⟨h,Int.sign_eq_one_of_pos h⟩
theorem ZuJ{a b:Int}(hb:b≠0)(hm:a.tmod b≠0)(h:(decide (a < 0)==decide (b < 0))=false):a.tdiv b - 1=a.fdiv b:=by
 have hd:¬b∣a:=fun hd=>hm (Int.tmod_eq_zero_of_dvd hd)
 rw[Int.fdiv_eq_tdiv,if_neg hd]
 have ha:a≠0:=fun e=>hd (e▸Int.dvd_zero b)
 have hs:=ZgF hb
 by_cases h1:a < 0<;>by_cases h2:b < 0<;>simp[h1,h2] at h
 ·rw[if_neg (by omega)];omega
 ·rw[if_pos (by omega),if_neg (by omega)]
theorem Zj2{a b:Int}(hb:b≠0)(h:a.tmod b=0∨(decide (a < 0)==decide (b < 0))=true):a.tdiv b=a.fdiv b:=by
 rw[Int.fdiv_eq_tdiv]
 by_cases hd:b∣a
 ·rw[if_pos hd];omega
 ·rw[if_neg hd]
  have hm:a.tmod b≠0:=fun e=>hd (Int.dvd_of_tmod_eq_zero e)
  have ha:a≠0:=fun e=>hd (e▸Int.dvd_zero b)
  have h:=h.resolve_left hm
  have hs:=ZgF hb
  by_cases h1:a < 0<;>by_cases h2:b < 0<;>simp[h1,h2] at h
  ·rw[if_neg (by omega)];split<;>omega
  ·rw[if_pos (by omega),if_pos (by omega)];omega
theorem ZaC{a b:Int}(h: -4611686018427387904≤a∧a≤4611686018427387904): -4611686018427387904≤a.tdiv b∧a.tdiv b≤4611686018427387904:=by
 have:=Int.natAbs_tdiv_le_natAbs a b
 omega
theorem ZdZ{a b:Int}(h: -4611686018427387904≤a∧a≤4611686018427387904): -4611686018427387905≤a.fdiv b∧a.fdiv b≤4611686018427387905:=by
 have:=ZaC (b:=b) h
 by_cases hb:b=0
 ·subst hb;simp
 ·have hs:=ZgF hb
  rw[Int.fdiv_eq_tdiv]
  split
  ·omega
  ·split<;>split<;>omega
def inB(n:Int):Bool:=decide (-1073741824≤n)&&decide (n≤1073741824)
theorem ZG{n:Int}:inB n=true↔ -1073741824≤n∧n≤1073741824:=by simp[inB]
def right(a:Iv):Bool:= !a.no&&(inB a.lo&&(inB a.hi&&decide (a.lo≤a.hi)))
def none':Iv:=⟨0,0,true⟩
def of(lo hi:Int):Iv:=bif right ⟨lo,hi,false⟩ then ⟨lo,hi,false⟩ else none'
def point(n:Int):Iv:=of n n
def whole(n:Int):Iv:=bif inB n then point (n *65536) else none'
def floor(a b:Int):Int:=a.fdiv b
def up1(a b:Int):Int:=if a % b=0 then a.fdiv b else a.fdiv b+1
def rounded(a b:Int)(up:Bool):Int×Bool:=
 let q:=bif up then up1 a b else a.fdiv b
 bif inB q then (q,true) else (0,false)
def told(n:Int):Int×Bool:=bif inB n then (n,true) else (0,false)
def mul(a b:Int)(up:Bool):Int×Bool:=bif inB a&&inB b then rounded (a *b) 65536 up else (0,false)
def div(a b:Int)(up:Bool):Int×Bool:=bif inB a&&(inB b&&decide (b≠0)) then rounded (a *65536) b up else (0,false)
def both(a b:Iv):Bool:=right a&&right b
def neg(a:Iv):Iv:=bif right a then of (-a.hi) (-a.lo) else none'
def add(a b:Iv):Iv:=bif both a b then of (a.lo+b.lo) (a.hi+b.hi) else none'
def sub(a b:Iv):Iv:=add a (neg b)
def has(a:Iv)(n:Int):Bool:=right a&&(decide (a.lo≤n)&&decide (n≤a.hi))
theorem Xh{a:Iv}(h:right a=true):a.no=false∧(-1073741824≤a.lo∧a.lo≤1073741824)∧(-1073741824≤a.hi∧a.hi≤1073741824)∧a.lo≤a.hi:=by
 simpa [right,inB] using h
theorem Zrn{a:Iv}(h:a.no=false)(h1: -1073741824≤a.lo)(h2:a.hi≤1073741824)(h3:a.lo≤a.hi):right a=true:=by
 simp[right,inB,h];omega
theorem Zap{b:Iv}(h:right b=true):neg b=⟨-b.hi,-b.lo,false⟩:=by
 have hb:=Xh h
 have:right ⟨-b.hi,-b.lo,false⟩=true:=Zrn rfl (by simp;omega) (by simp;omega) (by simp;omega)
 simp[neg,of,h,this]
theorem XR(b:Iv):right (neg b)=right b:=by
 cases h:right b with
 | true=>
   have hb:=Xh h
   rw[Zap h]
   exact Zrn rfl (by simp;omega) (by simp;omega) (by simp;omega)
 | false=>simp[neg,h];rfl
theorem Z4r(a b:Iv):sub a b=bif both a b then of (a.lo - b.hi) (a.hi - b.lo) else none':=by
 unfold sub add both
 rw[XR]
 cases h:right b with
 | true=>simp[Zap h,Int.sub_eq_add_neg]
 | false=>simp
theorem Zro{a b:Int}(h:a.tmod b≠0):decide (a.tmod b < 0)=decide (a < 0):=by
 by_cases ha:a < 0
 ·have:=Int.tmod_nonneg b (a:= -a) (by omega)
  rw[Int.neg_tmod] at this
  simp[ha];omega
 ·have:=Int.tmod_nonneg b (a:=a) (by omega)
  simp[ha];omega
theorem Zwe{lo hi:Int}(h1:inB lo=true)(h2:inB hi=true)(h3:lo≤hi):of lo hi=⟨lo,hi,false⟩:=by
 simp[of,right,h1,h2,h3]
theorem Zou{a b:Int}:a.tmod b=0↔a % b=0:=by
 rw[←Int.dvd_iff_tmod_eq_zero,←Int.dvd_iff_emod_eq_zero]
theorem Zrp{a b:Int}(hb:b≠0):a.fdiv b *b=a↔a % b=0:=by
 rw[←Int.dvd_iff_emod_eq_zero]
 constructor
 ·intro h;exact ⟨a.fdiv b,by rw[Int.mul_comm];exact h.symm⟩
 ·rintro ⟨c,rfl⟩
  rw[Int.mul_comm b c,Int.mul_fdiv_cancel _ hb]
theorem Zib{a b:Int}(hl:0 < b):a - b < a.fdiv b *b∧a.fdiv b *b≤a:=by
 have h1:=Int.fmod_add_fdiv_mul a b
 have h2:=Int.fmod_nonneg_of_pos a hl
 have h3:=Int.fmod_lt_of_pos a hl
 omega
theorem Zrq{a b:Int}(hb:b≠0)(ha: -4611686018427387904≤a∧a≤4611686018427387904)(h: -4611686018427387904≤b∧b≤4611686018427387904):Fit (a.fdiv b *b):=by
 rcases Int.lt_or_gt_of_ne hb with hl | hl
 ·have h1:=Zib (a:= -a) (b:= -b) (by omega)
  rw[Int.neg_fdiv_neg,Int.mul_neg] at h1
  constructor<;>omega
 ·have h1:=Zib (a:=a) hl
  constructor<;>omega
theorem ZdC{a b:Int}(ha:inB a=true)(hb:inB b=true): -1152921504606846976≤a *b∧a *b≤1152921504606846976:=by
 rw[ZG] at ha hb
 have h1:(a *b).natAbs≤1073741824 *1073741824:=by
  rw[Int.natAbs_mul]
  exact Nat.mul_le_mul (by omega) (by omega)
 omega
def ends(f:Int→Int→Bool→Int×Bool)(a b:Iv):Iv:=
 bif ((f a.lo b.lo false).2&&(f a.lo b.lo true).2)&&(((f a.lo b.hi false).2&&(f a.lo b.hi true).2)&&(((f a.hi b.lo false).2&&(f a.hi b.lo true).2)&&((f a.hi b.hi false).2&&(f a.hi b.hi true).2))) then
  of (min (min (f a.lo b.lo false).1 (f a.lo b.hi false).1) (min (f a.hi b.lo false).1 (f a.hi b.hi false).1)) (max (max (f a.lo b.lo true).1 (f a.lo b.hi true).1) (max (f a.hi b.lo true).1 (f a.hi b.hi true).1))
 else none'
def Zk(a b:Iv):Iv:=bif both a b then ends mul a b else none'
def Zo(a b:Iv):Iv:=bif both a b&& !(has b 0) then ends div a b else none'
def Good(f:Int→Int→Bool→Int×Bool):Prop:=∀x y,(f x y false).2=true→(f x y true).2=true→inB (f x y false).1=true∧inB (f x y true).1=true∧(f x y false).1≤(f x y true).1
theorem Z4s(a b:Int):a.fdiv b≤up1 a b:=by unfold up1;split<;>omega
theorem Zic{a b:Int}(h1:(rounded a b false).2=true)(h2:(rounded a b true).2=true):inB (rounded a b false).1=true∧inB (rounded a b true).1=true∧(rounded a b false).1≤(rounded a b true).1:=by
 have:=Z4s a b
 unfold rounded at *
 simp only[Qb_,Qd_] at *
 cases e1:inB (a.fdiv b)<;>cases e2:inB (up1 a b)<;>simp_all
theorem Z1c:Good mul:=by
 intro x y h1 h2
 unfold mul at *
 cases e:(inB x&&inB y) with
 | false=>simp[e] at h1
 | true=>simp only[e,Qb_] at *;exact Zic h1 h2
theorem Z1d:Good div:=by
 intro x y h1 h2
 unfold div at *
 cases e:(inB x&&(inB y&&decide (y≠0))) with
 | false=>rw[e] at h1;simp at h1
 | true=>simp only[e,Qb_] at *;exact Zic h1 h2
def ch1(p q:Int)(e:Iv):Iv:=of (List.foldl imin e.lo [p]) (List.foldl imax e.hi [q])
theorem ZK(x y:Int):imin x y=min x y:=by unfold imin;split<;>omega
theorem ZC(x y:Int):imax x y=max x y:=by unfold imax;split<;>omega
theorem ZlR{p q l h:Int}(h1:inB p=true)(h2:inB q=true)(h3:inB l=true)(h4:inB h=true)(h5:p≤q)(h6:l≤h):ch1 p q ⟨l,h,false⟩=⟨min l p,max h q,false⟩:=by
 rw[ZG] at *
 simp only[ch1,List.foldl,ZK,ZC]
 exact Zwe (ZG.2 (by omega)) (ZG.2 (by omega)) (by omega)
theorem ZlS{f:Int→Int→Bool→Int×Bool}(g:Good f){a b:Iv}(h1:(f a.lo b.lo false).2=true)(h2:(f a.lo b.lo true).2=true)(h3:(f a.lo b.hi false).2=true)(h4:(f a.lo b.hi true).2=true)(h5:(f a.hi b.lo false).2=true)(h6:(f a.hi b.lo true).2=true)(h7:(f a.hi b.hi false).2=true)(h8:(f a.hi b.hi true).2=true):
 ch1 (f a.hi b.hi false).1 (f a.hi b.hi true).1 (ch1 (f a.hi b.lo false).1 (f a.hi b.lo true).1 (ch1 (f a.lo b.hi false).1 (f a.lo b.hi true).1 (ch1 (f a.lo b.lo false).1 (f a.lo b.lo true).1 (of (f a.lo b.lo false).1 (f a.lo b.lo true).1))))=ends f a b:=by
 obtain ⟨a1,a2,a3⟩:=g _ _ h1 h2
 obtain ⟨b1,b2,b3⟩:=g _ _ h3 h4
 obtain ⟨c1,c2,c3⟩:=g _ _ h5 h6
 obtain ⟨d1,d2,d3⟩:=g _ _ h7 h8
 simp only[ends,h1,h2,h3,h4,h5,h6,h7,h8,QZ_,Qb_]
 generalize (f a.lo b.lo false).1=p1 at *
 generalize (f a.lo b.lo true).1=q1 at *
 generalize (f a.lo b.hi false).1=p2 at *
 generalize (f a.lo b.hi true).1=q2 at *
 generalize (f a.hi b.lo false).1=p3 at *
 generalize (f a.hi b.lo true).1=q3 at *
 generalize (f a.hi b.hi false).1=p4 at *
 generalize (f a.hi b.hi true).1=q4 at *
 rw[Zwe a1 a2 a3,ZlR a1 a2 a1 a2 a3 a3]
 rw[ZG] at *
 rw[ZlR (ZG.2 b1) (ZG.2 b2) (ZG.2 (by omega)) (ZG.2 (by omega)) b3 (by omega),
  ZlR (ZG.2 c1) (ZG.2 c2) (ZG.2 (by omega)) (ZG.2 (by omega)) c3 (by omega),
  ZlR (ZG.2 d1) (ZG.2 d2) (ZG.2 (by omega)) (ZG.2 (by omega)) d3 (by omega)]
 rw[Zwe (ZG.2 (by omega)) (ZG.2 (by omega)) (by omega)]
 simp only[Iv.mk.injEq,and_true]
 omega
theorem Zj3{f:Int→Int→Bool→Int×Bool}{a b:Iv}(h:(f a.lo b.lo false).2=false∨(f a.lo b.lo true).2=false∨(f a.lo b.hi false).2=false∨(f a.lo b.hi true).2=false∨(f a.hi b.lo false).2=false∨(f a.hi b.lo true).2=false∨(f a.hi b.hi false).2=false∨(f a.hi b.hi true).2=false):none'=ends f a b:=by
 unfold ends
 rcases h with h | h | h | h | h | h | h | h<;>simp[h]
theorem ZuK{f:Int→Int→Bool→Int×Bool}{a b:Iv}{x y:Int}(h1:(f a.lo b.lo false).2=true)(h2:(f a.lo b.lo true).2=true)(h3:(f a.lo b.hi false).2=true)(h4:(f a.lo b.hi true).2=true)(h5:(f a.hi b.lo false).2=true)(h6:(f a.hi b.lo true).2=true)(h7:(f a.hi b.hi false).2=true)(h8:(f a.hi b.hi true).2=true)
 (hx:x=min (min (f a.lo b.lo false).1 (f a.lo b.hi false).1) (min (f a.hi b.lo false).1 (f a.hi b.hi false).1)) (hy:y=max (max (f a.lo b.lo true).1 (f a.lo b.hi true).1) (max (f a.hi b.lo true).1 (f a.hi b.hi true).1)):of x y=ends f a b:=by
 subst hx;subst hy
 simp only[ends,h1,h2,h3,h4,h5,h6,h7,h8,QZ_,Qb_]
def far(a:Iv):Int:=max (-a.lo) a.hi
def near(a:Iv):Int:=max (max a.lo (-a.hi)) 0
def sqr(a:Iv):Iv:=bif right a&&(mul (far a) (far a) true).2 then of (mul (near a) (near a) false).1 (mul (far a) (far a) true).1 else none'
def times(a:Iv)(k:Int):Iv:=bif right a&&inB k then of (min (k *a.lo) (k *a.hi)) (max (k *a.lo) (k *a.hi)) else none'
def ZP:Nat→Int→Int→Int
 | 0,_,r=>r
 | k+1,n,r=>if (r+2 ^ k)* (r+2 ^ k)≤n then ZP k n (r+2 ^ k) else ZP k n r
def root(a:Int)(up:Bool):Int×Bool:=bif inB a&&decide (0≤a) then
    (bif up&&decide (ZP 24 (a *65536) 0 *ZP 24 (a *65536) 0 < a *65536) then (ZP 24 (a *65536) 0+1,true) else (ZP 24 (a *65536) 0,true))
 else (0,false)
def ZQ(a:Iv):Iv:=bif right a&&decide (0≤a.lo) then of (root a.lo false).1 (root a.hi true).1 else none'
def WD(a b c:Iv):Iv×Int:=
 let d:=sub (sqr b) (Zk a c)
 bif d.no then (none',0) else bif decide (d.hi < 0) then (none',2) else bif decide (d.lo < 0) then (none',0) else
  let t:=Zo c (sub (ZQ d) b)
  bif t.no then (none',0) else (t,1)
def ZgG(a b:V):V:=⟨add a.x b.x,add a.y b.y,add a.z b.z⟩
def Zwf(a b:V):V:=⟨sub a.x b.x,sub a.y b.y,sub a.z b.z⟩
def dot(a b:V):Iv:=add (add (Zk a.x b.x) (Zk a.y b.y)) (Zk a.z b.z)
def XY(a:V):Iv:=add (add (sqr a.x) (sqr a.y)) (sqr a.z)
def unit(a:V):V:=⟨Zo a.x (ZQ (XY a)),Zo a.y (ZQ (XY a)),Zo a.z (ZQ (XY a))⟩
def ZM(d:Dec):Bool:=decide (d.c≥ -100000000000)&&(decide (d.c≤100000000000)&&(decide (d.scale≥0)&&(decide (d.scale≤6)&&(d.scale==0||d.c.tmod 10 !=0))))
def Z1(n:Int):Int:=10 ^ n.toNat
def Zh(d:Dec):Iv:=bif ZM d then of (floor (d.c *65536) (Z1 d.scale)) (-(floor (-(d.c *65536)) (Z1 d.scale))) else none'
def within(n low high:Int):Int:=max low (min high n)
theorem ZgH{i:Int}(h:0≤i):Z1 (i+1)=Z1 i *10:=by
 unfold Z1
 rw[show (i+1).toNat=i.toNat+1 by omega,Int.pow_succ]
theorem ZaQ(i:Int):1≤Z1 i:=by
 unfold Z1
 have:0 < (10:Int) ^ i.toNat:=Int.pow_pos (by omega)
 omega
theorem ZlT{i j:Int}(h:i≤j):Z1 i≤Z1 j:=by
 unfold Z1
 have:=Nat.pow_le_pow_right (n:=10) (by omega) (show i.toNat≤j.toNat by omega)
 exact_mod_cast this
theorem Zk5{i:Int}(h:i≤18):Z1 i≤1000000000000000000:=ZlT (j:=18) h
theorem X7{n:Int}(h: -9223372036854775807≤n∧n≤9223372036854775807):IntKind.i64.wrap (0 - n)= -n:=by
 rw[Zf (by constructor<;>omega)];omega
theorem Zea{a b:Int}(hb:0 < b): -(floor (-a) b)=up1 a b:=by
 unfold floor up1
 have h1:=KA_ (-a) (Int.le_of_lt hb)
 have h2:=KA_ a (Int.le_of_lt hb)
 rw[h1,h2,Int.neg_ediv]
 by_cases h:b∣a
 ·rw[if_pos h,if_pos (Int.emod_eq_zero_of_dvd h)];omega
 ·rw[if_neg h,if_neg (fun e=>h (Int.dvd_of_emod_eq_zero e)),Int.sign_eq_one_of_pos hb];omega
theorem Zk6(n:Int):∀(k:Nat) (r:Int),r≤ZP k n r∧ZP k n r < r+2 ^ k
 | 0,r=>by simp[ZP];omega
 | k+1,r=>by
   have h:(2:Int) ^ (k+1)=2 ^ k+2 ^ k:=by rw[Int.pow_succ];omega
   have hp:(0:Int) < 2 ^ k:=Int.pow_pos (by omega)
   unfold ZP
   split
   ·have:=Zk6 n k (r+2 ^ k);omega
   ·have:=Zk6 n k r;omega
theorem Z1e{n:Int}(h:n < 281474976710656):ZP 25 n 0=ZP 24 n 0:=by
 conv=>lhs;unfold ZP
 rw[if_neg (by simp;omega)]
theorem Zk7{n:Int}:0≤ZP 24 n 0∧ZP 24 n 0 < 16777216:=by
 have:=Zk6 n 24 0
 simp at this
 omega
theorem Zj4{n:Int}:Fit (ZP 24 n 0 *ZP 24 n 0):=by
 have:=Zk7 (n:=n)
 generalize ZP 24 n 0=r at *
 have h1:0≤r *r:=Int.mul_nonneg this.1 this.1
 have h2:r *r≤16777216 *16777216:=Int.mul_le_mul (by omega) (by omega) this.1 (by omega)
 constructor<;>omega
theorem Zrr{b:Int}(h:0≤b):(2:Int) ^ (b+1).toNat=2 ^ b.toNat+2 ^ b.toNat:=by
 rw[show (b+1).toNat=b.toNat+1 by omega,Int.pow_succ];omega
theorem Z4t{x:Int}(h:0≤x∧x≤33554432):Fit (x *x):=by
 have h1:0≤x *x:=Int.mul_nonneg h.1 h.1
 have h2:x *x≤33554432 *33554432:=Int.mul_le_mul (by omega) (by omega) h.1 (by omega)
 constructor<;>omega
theorem Z4u{r b:Int}(hb:0≤b∧b≤30)(hr:0≤r∧r < 4294967296)(hd:(2:Int) ^ (b.toNat+1)∣r):
 IntKind.i64.wrap ((BitVec.ofInt IntKind.i64.bits r||| BitVec.ofInt IntKind.i64.bits (IntKind.i64.wrap (1 *2 ^ min b.toNat IntKind.i64.bits))).toNat:Int)=r+2 ^ b.toNat:=by
 obtain ⟨m,hm⟩:=Int.eq_ofNat_of_zero_le hr.1
 obtain ⟨k,hk⟩:=Int.eq_ofNat_of_zero_le hb.1
 subst hm;subst hk
 have hk30:k≤30:=by omega
 have hm32:m < 4294967296:=by omega
 have hp:2 ^ k≤2 ^ 30:=Nat.pow_le_pow_right (by omega) hk30
 have e1:min (Int.toNat (k:Int)) IntKind.i64.bits=k:=by simp[IntKind.bits];omega
 have hp30:(2:Nat) ^ 30=1073741824:=by decide
 have e2:IntKind.i64.wrap (1 *2 ^ k)=((2 ^ k:Nat):Int):=by
  have h2:(1:Int)*2 ^ k=((2 ^ k:Nat):Int):=by simp
  rw[h2]
  generalize (2 ^ k:Nat)=t at *
  exact Zf (by constructor<;>omega)
 rw[e1,e2]
 have hd':2 ^ (k+1)∣m:=by
  have:((2 ^ (k+1):Nat):Int)∣(m:Int):=by simpa using hd
  exact Int.ofNat_dvd.1 this
 obtain ⟨c,hc⟩:=hd'
 have e3:(BitVec.ofInt IntKind.i64.bits (m:Int)||| BitVec.ofInt IntKind.i64.bits ((2 ^ k:Nat):Int)).toNat=m+2 ^ k:=by
  rw[BitVec.toNat_or,BitVec.ofInt_natCast,BitVec.ofInt_natCast,BitVec.toNat_ofNat,BitVec.toNat_ofNat]
  rw[Nat.mod_eq_of_lt (show m < 2 ^ IntKind.i64.bits by simp only[IntKind.bits];omega),Nat.mod_eq_of_lt (show 2 ^ k < 2 ^ IntKind.i64.bits by simp only[IntKind.bits];omega)]
  have h2:2 ^ k < 2 ^ (k+1):=Nat.pow_lt_pow_right (by omega) (by omega)
  have:=Nat.shiftLeft_add_eq_or_of_lt h2 c
  rw[Nat.shiftLeft_eq,Nat.mul_comm,←hc] at this
  exact this.symm
 rw[e3,Zf (by generalize (2 ^ k:Nat)=t at *;constructor<;>omega)]
 simp
theorem ZnC{r bit:Int}(h0:0≤bit)(a1:bit≤24)(a3:0≤r∧r+2 ^ (bit+1).toNat≤33554432)(a4:(2:Int) ^ (bit+1).toNat∣r):
 IntKind.i64.wrap (BitVec.ofInt (64:Nat) r||| BitVec.ofInt (64:Nat) (IntKind.i64.wrap (1 *2 ^ min bit.toNat (64:Nat)))).toNat=r+2 ^ bit.toNat:=by
 have h4:=Zrr h0
 have hp:(0:Int) < 2 ^ bit.toNat:=Int.pow_pos (by omega)
 rw[h4] at a3
 exact Z4u (r:=r) (b:=bit) (by omega) (by omega) (by rw[show bit.toNat+1=(bit+1).toNat by omega];exact a4)
theorem XI{r bit:Int}(h0:0≤bit)(a3:0≤r∧r+2 ^ (bit+1).toNat≤33554432):
 (bit - 1+1).toNat=bit.toNat∧(bit+1).toNat=bit.toNat+1∧(0:Int) < 2 ^ bit.toNat∧(2:Int) ^ (bit+1).toNat=2 ^ bit.toNat+2 ^ bit.toNat∧Fit ((r+2 ^ bit.toNat)* (r+2 ^ bit.toNat))∧(0≤r∧r+2 ^ bit.toNat+2 ^ bit.toNat≤33554432):=by
 have h4:=Zrr h0
 have hp:(0:Int) < 2 ^ bit.toNat:=Int.pow_pos (by omega)
 rw[h4] at a3
 exact ⟨by omega,by omega,hp,h4,Z4t (by omega),by omega⟩
theorem ZnD{r bit:Int}(h0:0≤bit)(a1:bit≤24)(a3:0≤r∧r+2 ^ (bit+1).toNat≤33554432):IntKind.i64.wrap (1 *2 ^ min bit.toNat (64:Nat))=2 ^ bit.toNat:=by
 obtain ⟨k1,k2,k3,k4,k5,k6⟩:=XI h0 a3
 rw[show min bit.toNat 64=bit.toNat by omega,Int.one_mul]
 exact Zf (by constructor<;>omega)
theorem Zk8(n:Int):∀(k:Nat) (r:Int),r *r≤n→ZP k n r *ZP k n r≤n
 | 0,r,h=>h
 | k+1,r,h=>by
   unfold ZP
   split
   ·exact Zk8 n k _ (by assumption)
   ·exact Zk8 n k _ h
theorem Z1f{n:Int}(h:0≤n):ZP 24 n 0 *ZP 24 n 0≤n:=Zk8 n 24 0 (by simpa using h)
theorem Z27(l h:Int):right (of l h)= !(of l h).no:=by
 unfold of
 cases e:right ⟨l,h,false⟩ with
 | true=>simp[e]
 | false=>simp;rfl
theorem ZnE:right none'= !none'.no:=rfl
theorem Zwg{c:Bool}{x y:Iv}(hx:right x= !x.no)(hy:right y= !y.no):right (bif c then x else y)= !(bif c then x else y).no:=by cases c<;>assumption
theorem ZyK(a b:Iv):right (add a b)= !(add a b).no:=Zwg (Z27 _ _) ZnE
theorem Z4v(a b:Iv):right (sub a b)= !(sub a b).no:=ZyK _ _
theorem Z37(f:Int→Int→Bool→Int×Bool)(a b:Iv):right (ends f a b)= !(ends f a b).no:=Zwg (Z27 _ _) ZnE
theorem Z1g(a b:Iv):right (Zo a b)= !(Zo a b).no:=Zwg (Z37 _ _ _) ZnE
theorem Zct{d:Dec}(h:ZM d=true):(-100000000000≤d.c∧d.c≤100000000000)∧(0≤d.scale∧d.scale≤6):=by
 simp[ZM] at h
 omega
def pick(n m:Int):Int:=n % m
theorem XB{n m:Int}(h:0 < m):0≤pick n m∧pick n m < m:=⟨Int.emod_nonneg n (by omega),Int.emod_lt_of_pos n h⟩
theorem ZuL{n m:Int}(h:0 < m):pick n m=if n.tmod m < 0 then n.tmod m+m else n.tmod m:=by
 have h1:=XB (n:=n) h
 unfold pick at *
 rw[Int.tmod_eq_emod]
 split<;>split<;>omega
theorem Z38{n m:Int}(h:0 < m): -m < n.tmod m∧n.tmod m < m:=by
 have h1:=XB (n:=n) h
 unfold pick at h1
 rw[Int.tmod_eq_emod]
 split<;>omega
def w64(n:Int):Int:=IntKind.i64.wrap n
def wide(x w:Int):Iv:=⟨within x (-1073741824) 1073741824,min 1073741824 (within x (-1073741824) 1073741824+w),false⟩
def ZX(n:Int):Bool:=decide (0≤n)&&decide (n≤255)
def YF(d:Dec):Bool:=d.c==0&&d.scale==0
def ZL(s:Shape):Bool:=
 (ZX s.glow.a&&(ZX s.glow.b&&ZX s.glow.c))&&
 (bif s.kind==1 then ZM s.x&&(ZM s.y&&(ZM s.z&&(ZM s.r&&decide (s.r.c > 0))))
  else bif s.kind==2 then ZM s.z&&(YF s.x&&(YF s.y&&YF s.r)) else false)
def YQ(l:List Shape):Bool:=decide (l.length≤8)&&l.all ZL
def meet(s:Shape)(r:Ray):Iv×Int:=
 bif s.kind==1 then
  let o:=Zwf r.o ⟨Zh s.x,Zh s.y,Zh s.z⟩
  WD (XY r.d) (dot o r.d) (sub (XY o) (sqr (Zh s.r)))
 else bif s.kind==2 then
  let t:=Zo (sub (Zh s.z) r.o.z) r.d.z
  bif t.no then (none',0) else (t,1)
 else (none',0)
def hit(s:Shape)(r:Ray):Iv×Int:=
 bif !((meet s r).2==1) then (none',(meet s r).2) else bif decide ((meet s r).1.hi≤0) then (none',2) else bif decide ((meet s r).1.lo≤0) then (none',0) else ((meet s r).1,1)
theorem Zs(l:List Shape):Zd Shape.dec (l.map Shape.enc)=l:=W8 _ _ (fun _=>rfl) l
theorem dI(l:List I):Zd I.dec (l.map I.enc)=l:=W8 _ _ (fun _=>rfl) l
theorem dIv(l:List Iv):Zd Iv.dec (l.map Iv.enc)=l:=W8 _ _ (fun _=>rfl) l
def YM{α:Type}(p:α→Bool):List α→Int→Int
 | [],_=> -1
 | x::r,i=>bif p x then i else YM p r (i+1)
theorem ZfO{α:Type}{p:α→Bool}:∀{l:List α} {i:Int},l.any p=false→YM p l i= -1
 | [],_,_=>rfl
 | x::r,i,h=>by
   simp only[QU_,Ka_] at h
   simp only[YM,h.1,Qd_]
   exact ZfO h.2
theorem ZfP{α:Type}{p:α→Bool}:∀{l:List α} {i:Int},0≤i→decide (YM p l i≥0)=l.any p
 | [],_,_=>by simp[YM]
 | x::r,i,h=>by
   cases e:p x with
   | true=>simp[YM,e];exact h
   | false=>simpa [YM,e] using ZfP (p:=p) (l:=r) (i:=i+1) (by omega)
theorem Yu{α:Type}{l:List α}{i:Int}(h0:0≤i)(h:i < l.length):∃x r,l.drop i.toNat=x::r∧l.drop (i+1).toNat=r∧l[i.toNat]?=some x:=by
 have hl:i.toNat < l.length:=by omega
 refine ⟨l[i.toNat],l.drop (i.toNat+1),Kz_ hl,by rw[show (i+1).toNat=i.toNat+1 by omega],by simp[hl]⟩
theorem Yz{α:Type}{e:α→List PV}{l:List α}{n:Nat}{x:α}(h:l[n]?=some x):(l.map e).getD n []=e x:=by
 rw[Q7_,Q6_,h];rfl
def hdec:Nat→Int→Int→Dec
 | 0,c,s=>⟨c,s⟩
 | k+1,c,s=>bif decide (s > 0)&&c.tmod 10==0 then hdec k (IntKind.i64.wrap (c.tdiv 10)) (IntKind.i64.wrap (s - 1)) else ⟨c,s⟩
theorem ZH{α:Type}{e:α→List PV}{z:List PV}(h:∀x,ZW z (e x)=e x){l:List α}{i:Int}(h0:0≤i)(h1:i < l.length):0≤i∧(l.map e)[i.toNat]?=some (ZW z ((l.map e).getD i.toNat [])):=by
 obtain ⟨x,r,_,_,hx⟩:=Yu h0 h1
 refine ⟨h0, ?_⟩
 rw[Yz hx,Q6_,hx,h]
 rfl
theorem Z1h(l:List I)(k:Nat):intOf (((l.map I.enc).getD k []).headD .nil)=(l.getD k ⟨0⟩).n:=by
 rw[Q7_,Q6_,Q7_]
 cases l[k]?<;>rfl
theorem ZyL{c s:Int}(h:0 < s)(hs:s≤18)(hc:c.tmod 10=0):hdec s.toNat c s=hdec (IntKind.i64.wrap (s - 1)).toNat (IntKind.i64.wrap (c.tdiv 10)) (IntKind.i64.wrap (s - 1)):=by
 have e:(IntKind.i64.wrap (s - 1))=s - 1:=Zf (by constructor<;>omega)
 rw[e]
 obtain ⟨k,hk⟩:∃k,s.toNat=k+1:=⟨s.toNat - 1,by omega⟩
 have hk2:(s - 1).toNat=k:=by omega
 rw[hk,hk2]
 conv=>lhs;unfold hdec
 rw[e,show (decide (s > 0)&&c.tmod 10==0)=true by simp[h,hc]]
 rfl
theorem Zrs{c s:Int}(h:¬(s > 0∧c.tmod 10=0)):hdec s.toNat c s=⟨c,s⟩:=by
 by_cases hs:s > 0
 ·obtain ⟨k,hk⟩:∃k,s.toNat=k+1:=⟨s.toNat - 1,by omega⟩
  rw[hk]
  unfold hdec
  have hc:(c.tmod 10==0)=false:=by simp;intro e;exact h ⟨hs,e⟩
  rw[hc,Qn_];rfl
 ·have:s.toNat=0:=by omega
  rw[this];rfl
theorem XZ{α:Type}{e:α→List PV}{n:Nat}(h:∀x,(e x).length=n)(l:List α):Lens n (l.map e):=fun y hy=>by
 obtain ⟨x,_,rfl⟩:=Ku_.1 hy
 exact h x
theorem Wa{n:Nat}{l:List (List PV)}{x:List PV}(h:Lens n l)(hx:x.length=n):Lens n (l++[x]):=fun y hy=>by
 rcases Kv_.1 hy with h' | h'
 ·exact h y h'
 ·rw[List.mem_singleton.1 h'];exact hx
theorem Z5G(x:Shape):Shape.dec (Shape.enc x)=x:=rfl
theorem Z5H(x:Iv):Iv.dec (Iv.enc x)=x:=rfl
def Yl(r:Ray):List Shape→Int→Int→Iv→List Iv→Int×Iv×List Iv
 | [],_,b,a,all=>(b,a,all)
 | s::l,k,b,a,all=>
   bif (hit s r).2==2 then Yl r l (k+1) b a all
   else bif decide (b < 0)||decide ((hit s r).1.hi < a.hi) then Yl r l (k+1) k (hit s r).1 (all++[(hit s r).1])
   else Yl r l (k+1) b a (all++[(hit s r).1])
def unsure(r:Ray)(l:List Shape):Bool:=l.any (fun s=>(hit s r).2==0)
def behind(a:Iv):List Iv→Int
 | []=>0
 | t::l=>bif decide (a.hi < t.lo) then behind a l+1 else behind a l
theorem Zid(a:Iv):∀l:List Iv,0≤behind a l∧behind a l≤l.length
 | []=>⟨Kf_ 0,Kf_ 0⟩
 | t::l=>by
   have h:=Zid a l
   simp only[behind,Qs_]
   cases decide (a.hi < t.lo)<;>simp only[Qb_,Qd_]<;>omega
theorem Zbs(r:Ray):∀(l:List Shape) (k b:Int) (a:Iv) (all:List Iv),(Yl r l k b a all).2.2.length≤all.length+l.length
 | [],_,_,_,_=>Q2_ _
 | s::l,k,b,a,all=>by
   simp only[Yl,Qs_]
   have h1:=Zbs r l (k+1) b a all
   have h2:=Zbs r l (k+1) k (hit s r).1 (all++[(hit s r).1])
   have h3:=Zbs r l (k+1) b a (all++[(hit s r).1])
   simp only[Qx_,Qs_,Q1_] at h2 h3
   cases (hit s r).2==2<;>cases decide (b < 0)||decide ((hit s r).1.hi < a.hi)<;>simp only[Qb_,Qd_]<;>omega
def nearest(l:List Shape)(r:Ray):Int×Iv×Int:=
 bif unsure r l then (-1,none',0) else
  let g:=Yl r l 0 (-1) none' []
  bif decide (g.1 < 0) then (-1,none',2)
  else bif decide (behind g.2.1 g.2.2+1 < g.2.2.length) then (-1,none',0) else (g.1,g.2.1,1)
def ZgI(r:Ray):List Shape→Int→List I
 | [],_=>[]
 | s::l,k=>bif (hit s r).2==1 then ⟨k⟩::ZgI r l (k+1) else ZgI r l (k+1)
def Zbt(r:Ray):List Shape→List Iv
 | []=>[]
 | s::l=>bif (hit s r).2==1 then (hit s r).1::Zbt r l else Zbt r l
def WL(h i:Int):List Iv→Int→Bool
 | [],_=>true
 | t::l,k=>(k==i||decide (h < t.lo))&&WL h i l (k+1)
def Zbu(ts:List Iv):List I→List Iv→Int→Option (Int×Iv)
 | a::la,t::lt,i=>bif WL t.hi i ts 0 then some (a.n,t) else Zbu ts la lt (i+1)
 | _,_,_=>none
def Z28(o:Option (Int×Iv)):Int×Iv:=o.getD (0,none')
def Zrt(l:List Shape)(r:Ray):Int×Iv×Int:=
 bif unsure r l then (-1,none',0) else
  bif (Zbt r l).length==0 then (-1,none',2)
  else bif (Zbu (Zbt r l) (ZgI r l 0) (Zbt r l) 0).isSome then ((Z28 (Zbu (Zbt r l) (ZgI r l 0) (Zbt r l) 0)).1,(Z28 (Zbu (Zbt r l) (ZgI r l 0) (Zbt r l) 0)).2,1) else (-1,none',0)
theorem Zus{cs vs:List PV}{o:Nat}(h:o+vs.length≤cs.length):(lay cs o vs).length=cs.length:=by
 unfold lay
 simp only[Qx_,K3_,KD_]
 omega
structure Surf where
 stop:Bool
 bent:Bool
 curve:Iv
 conic:Iv
 a4:Iv
 a6:Iv
 pos:Iv
 open2:Iv
 ratio:Iv
def Surf.enc(x:Surf):List PV:=[.v (.bool x.stop),.v (.bool x.bent),.v (.int .i64 x.curve.lo),.v (.int .i64 x.curve.hi),.v (.bool x.curve.no),.v (.int .i64 x.conic.lo),.v (.int .i64 x.conic.hi),.v (.bool x.conic.no),.v (.int .i64 x.a4.lo),.v (.int .i64 x.a4.hi),.v (.bool x.a4.no),.v (.int .i64 x.a6.lo),.v (.int .i64 x.a6.hi),.v (.bool x.a6.no),.v (.int .i64 x.pos.lo),.v (.int .i64 x.pos.hi),.v (.bool x.pos.no),.v (.int .i64 x.open2.lo),.v (.int .i64 x.open2.hi),.v (.bool x.open2.no),.v (.int .i64 x.ratio.lo),.v (.int .i64 x.ratio.hi),.v (.bool x.ratio.no)]
def Surf.dec(p:List PV):Surf:=⟨Zr (p.headD .nil),Zr (p.tail.headD .nil),⟨intOf (p.tail.tail.headD .nil),intOf (p.tail.tail.tail.headD .nil),Zr (p.tail.tail.tail.tail.headD .nil)⟩,⟨intOf (p.tail.tail.tail.tail.tail.headD .nil),intOf (p.tail.tail.tail.tail.tail.tail.headD .nil),Zr (p.tail.tail.tail.tail.tail.tail.tail.headD .nil)⟩,⟨intOf (p.tail.tail.tail.tail.tail.tail.tail.tail.headD .nil),intOf (p.tail.tail.tail.tail.tail.tail.tail.tail.tail.headD .nil),Zr (p.tail.tail.tail.tail.tail.tail.tail.tail.tail.tail.headD .nil)⟩,⟨intOf (p.tail.tail.tail.tail.tail.tail.tail.tail.tail.tail.tail.headD .nil),intOf (p.tail.tail.tail.tail.tail.tail.tail.tail.tail.tail.tail.tail.headD .nil),Zr (p.tail.tail.tail.tail.tail.tail.tail.tail.tail.tail.tail.tail.tail.headD .nil)⟩,⟨intOf (p.tail.tail.tail.tail.tail.tail.tail.tail.tail.tail.tail.tail.tail.tail.headD .nil),intOf (p.tail.tail.tail.tail.tail.tail.tail.tail.tail.tail.tail.tail.tail.tail.tail.headD .nil),Zr (p.tail.tail.tail.tail.tail.tail.tail.tail.tail.tail.tail.tail.tail.tail.tail.tail.headD .nil)⟩,⟨intOf (p.tail.tail.tail.tail.tail.tail.tail.tail.tail.tail.tail.tail.tail.tail.tail.tail.tail.headD .nil),intOf (p.tail.tail.tail.tail.tail.tail.tail.tail.tail.tail.tail.tail.tail.tail.tail.tail.tail.tail.headD .nil),Zr (p.tail.tail.tail.tail.tail.tail.tail.tail.tail.tail.tail.tail.tail.tail.tail.tail.tail.tail.tail.headD .nil)⟩,⟨intOf (p.tail.tail.tail.tail.tail.tail.tail.tail.tail.tail.tail.tail.tail.tail.tail.tail.tail.tail.tail.tail.headD .nil),intOf (p.tail.tail.tail.tail.tail.tail.tail.tail.tail.tail.tail.tail.tail.tail.tail.tail.tail.tail.tail.tail.tail.headD .nil),Zr (p.tail.tail.tail.tail.tail.tail.tail.tail.tail.tail.tail.tail.tail.tail.tail.tail.tail.tail.tail.tail.tail.tail.headD .nil)⟩⟩
theorem Z3(l:List Surf):Zd Surf.dec (l.map Surf.enc)=l:=W8 _ _ (fun _=>rfl) l
structure SysM where
 surfs:List Surf
 op:Iv
def SysM.enc(x:SysM):List PV:=[.lst (x.surfs.map Surf.enc),.v (.int .i64 x.op.lo),.v (.int .i64 x.op.hi),.v (.bool x.op.no)]
def SysM.dec(p:List PV):SysM:=⟨(Zd Surf.dec (Za0 (p.headD .nil))),⟨intOf (p.tail.headD .nil),intOf (p.tail.tail.headD .nil),Zr (p.tail.tail.tail.headD .nil)⟩⟩
-- SysM: with lists
structure TrRes where
 kind:Int
 pos:Int
 r:Ray
def TrRes.enc(x:TrRes):List PV:=[.v (.int .i64 x.kind),.v (.int .i64 x.pos),.v (.int .i64 x.r.o.x.lo),.v (.int .i64 x.r.o.x.hi),.v (.bool x.r.o.x.no),.v (.int .i64 x.r.o.y.lo),.v (.int .i64 x.r.o.y.hi),.v (.bool x.r.o.y.no),.v (.int .i64 x.r.o.z.lo),.v (.int .i64 x.r.o.z.hi),.v (.bool x.r.o.z.no),.v (.int .i64 x.r.d.x.lo),.v (.int .i64 x.r.d.x.hi),.v (.bool x.r.d.x.no),.v (.int .i64 x.r.d.y.lo),.v (.int .i64 x.r.d.y.hi),.v (.bool x.r.d.y.no),.v (.int .i64 x.r.d.z.lo),.v (.int .i64 x.r.d.z.hi),.v (.bool x.r.d.z.no)]
def TrRes.dec(p:List PV):TrRes:=⟨intOf (p.headD .nil),intOf (p.tail.headD .nil),⟨⟨⟨intOf (p.tail.tail.headD .nil),intOf (p.tail.tail.tail.headD .nil),Zr (p.tail.tail.tail.tail.headD .nil)⟩,⟨intOf (p.tail.tail.tail.tail.tail.headD .nil),intOf (p.tail.tail.tail.tail.tail.tail.headD .nil),Zr (p.tail.tail.tail.tail.tail.tail.tail.headD .nil)⟩,⟨intOf (p.tail.tail.tail.tail.tail.tail.tail.tail.headD .nil),intOf (p.tail.tail.tail.tail.tail.tail.tail.tail.tail.headD .nil),Zr (p.tail.tail.tail.tail.tail.tail.tail.tail.tail.tail.headD .nil)⟩⟩,⟨⟨intOf (p.tail.tail.tail.tail.tail.tail.tail.tail.tail.tail.tail.headD .nil),intOf (p.tail.tail.tail.tail.tail.tail.tail.tail.tail.tail.tail.tail.headD .nil),Zr (p.tail.tail.tail.tail.tail.tail.tail.tail.tail.tail.tail.tail.tail.headD .nil)⟩,⟨intOf (p.tail.tail.tail.tail.tail.tail.tail.tail.tail.tail.tail.tail.tail.tail.headD .nil),intOf (p.tail.tail.tail.tail.tail.tail.tail.tail.tail.tail.tail.tail.tail.tail.tail.headD .nil),Zr (p.tail.tail.tail.tail.tail.tail.tail.tail.tail.tail.tail.tail.tail.tail.tail.tail.headD .nil)⟩,⟨intOf (p.tail.tail.tail.tail.tail.tail.tail.tail.tail.tail.tail.tail.tail.tail.tail.tail.tail.headD .nil),intOf (p.tail.tail.tail.tail.tail.tail.tail.tail.tail.tail.tail.tail.tail.tail.tail.tail.tail.tail.headD .nil),Zr (p.tail.tail.tail.tail.tail.tail.tail.tail.tail.tail.tail.tail.tail.tail.tail.tail.tail.tail.tail.headD .nil)⟩⟩⟩⟩
structure G3 where
 a:Dec
 b:Dec
 c:Dec
def G3.enc(x:G3):List PV:=[.v (.int .i64 x.a.c),.v (.int .i64 x.a.scale),.v (.int .i64 x.b.c),.v (.int .i64 x.b.scale),.v (.int .i64 x.c.c),.v (.int .i64 x.c.scale)]
def G3.dec(p:List PV):G3:=⟨⟨intOf (p.headD .nil),intOf (p.tail.headD .nil)⟩,⟨intOf (p.tail.tail.headD .nil),intOf (p.tail.tail.tail.headD .nil)⟩,⟨intOf (p.tail.tail.tail.tail.headD .nil),intOf (p.tail.tail.tail.tail.tail.headD .nil)⟩⟩
structure Glass where
 name:List UInt8
 b:G3
 c:G3
def Glass.enc(x:Glass):List PV:=[.str x.name,.v (.int .i64 x.b.a.c),.v (.int .i64 x.b.a.scale),.v (.int .i64 x.b.b.c),.v (.int .i64 x.b.b.scale),.v (.int .i64 x.b.c.c),.v (.int .i64 x.b.c.scale),.v (.int .i64 x.c.a.c),.v (.int .i64 x.c.a.scale),.v (.int .i64 x.c.b.c),.v (.int .i64 x.c.b.scale),.v (.int .i64 x.c.c.c),.v (.int .i64 x.c.c.scale)]
def Glass.dec(p:List PV):Glass:=⟨Zbq (p.headD .nil),⟨⟨intOf (p.tail.headD .nil),intOf (p.tail.tail.headD .nil)⟩,⟨intOf (p.tail.tail.tail.headD .nil),intOf (p.tail.tail.tail.tail.headD .nil)⟩,⟨intOf (p.tail.tail.tail.tail.tail.headD .nil),intOf (p.tail.tail.tail.tail.tail.tail.headD .nil)⟩⟩,⟨⟨intOf (p.tail.tail.tail.tail.tail.tail.tail.headD .nil),intOf (p.tail.tail.tail.tail.tail.tail.tail.tail.headD .nil)⟩,⟨intOf (p.tail.tail.tail.tail.tail.tail.tail.tail.tail.headD .nil),intOf (p.tail.tail.tail.tail.tail.tail.tail.tail.tail.tail.headD .nil)⟩,⟨intOf (p.tail.tail.tail.tail.tail.tail.tail.tail.tail.tail.tail.headD .nil),intOf (p.tail.tail.tail.tail.tail.tail.tail.tail.tail.tail.tail.tail.headD .nil)⟩⟩⟩
theorem Yv(l:List Glass):Zd Glass.dec (l.map Glass.enc)=l:=W8 _ _ (fun _=>rfl) l
structure Face where
 stop:Bool
 radius:Dec
 aperture:Dec
 thick:Dec
 conic:Dec
 a4:Dec
 a6:Dec
 glass:List UInt8
def Face.enc(x:Face):List PV:=[.v (.bool x.stop),.v (.int .i64 x.radius.c),.v (.int .i64 x.radius.scale),.v (.int .i64 x.aperture.c),.v (.int .i64 x.aperture.scale),.v (.int .i64 x.thick.c),.v (.int .i64 x.thick.scale),.v (.int .i64 x.conic.c),.v (.int .i64 x.conic.scale),.v (.int .i64 x.a4.c),.v (.int .i64 x.a4.scale),.v (.int .i64 x.a6.c),.v (.int .i64 x.a6.scale),.str x.glass]
def Face.dec(p:List PV):Face:=⟨Zr (p.headD .nil),⟨intOf (p.tail.headD .nil),intOf (p.tail.tail.headD .nil)⟩,⟨intOf (p.tail.tail.tail.headD .nil),intOf (p.tail.tail.tail.tail.headD .nil)⟩,⟨intOf (p.tail.tail.tail.tail.tail.headD .nil),intOf (p.tail.tail.tail.tail.tail.tail.headD .nil)⟩,⟨intOf (p.tail.tail.tail.tail.tail.tail.tail.headD .nil),intOf (p.tail.tail.tail.tail.tail.tail.tail.tail.headD .nil)⟩,⟨intOf (p.tail.tail.tail.tail.tail.tail.tail.tail.tail.headD .nil),intOf (p.tail.tail.tail.tail.tail.tail.tail.tail.tail.tail.headD .nil)⟩,⟨intOf (p.tail.tail.tail.tail.tail.tail.tail.tail.tail.tail.tail.headD .nil),intOf (p.tail.tail.tail.tail.tail.tail.tail.tail.tail.tail.tail.tail.headD .nil)⟩,Zbq (p.tail.tail.tail.tail.tail.tail.tail.tail.tail.tail.tail.tail.tail.headD .nil)⟩
theorem Wi(l:List Face):Zd Face.dec (l.map Face.enc)=l:=W8 _ _ (fun _=>rfl) l
structure LensM where
 name:List UInt8
 back:Dec
 faces:List Face
def LensM.enc(x:LensM):List PV:=[.str x.name,.v (.int .i64 x.back.c),.v (.int .i64 x.back.scale),.lst (x.faces.map Face.enc)]
def LensM.dec(p:List PV):LensM:=⟨Zbq (p.headD .nil),⟨intOf (p.tail.headD .nil),intOf (p.tail.tail.headD .nil)⟩,(Zd Face.dec (Za0 (p.tail.tail.tail.headD .nil)))⟩
-- LensM: with lists
structure RawFace where
 kind:Int
 r:Int
 a:Int
 t:Int
 g:Int
 k:Int
def RawFace.enc(x:RawFace):List PV:=[.v (.int .i64 x.kind),.v (.int .i64 x.r),.v (.int .i64 x.a),.v (.int .i64 x.t),.v (.int .i64 x.g),.v (.int .i64 x.k)]
def RawFace.dec(p:List PV):RawFace:=⟨intOf (p.headD .nil),intOf (p.tail.headD .nil),intOf (p.tail.tail.headD .nil),intOf (p.tail.tail.tail.headD .nil),intOf (p.tail.tail.tail.tail.headD .nil),intOf (p.tail.tail.tail.tail.tail.headD .nil)⟩
theorem Xi(l:List RawFace):Zd RawFace.dec (l.map RawFace.enc)=l:=W8 _ _ (fun _=>rfl) l
structure Pixel where
 lo:A3
 hi:A3
 lost:Int
def Pixel.enc(x:Pixel):List PV:=[.v (.int .i64 x.lo.a),.v (.int .i64 x.lo.b),.v (.int .i64 x.lo.c),.v (.int .i64 x.hi.a),.v (.int .i64 x.hi.b),.v (.int .i64 x.hi.c),.v (.int .i64 x.lost)]
def Pixel.dec(p:List PV):Pixel:=⟨⟨intOf (p.headD .nil),intOf (p.tail.headD .nil),intOf (p.tail.tail.headD .nil)⟩,⟨intOf (p.tail.tail.tail.headD .nil),intOf (p.tail.tail.tail.tail.headD .nil),intOf (p.tail.tail.tail.tail.tail.headD .nil)⟩,intOf (p.tail.tail.tail.tail.tail.tail.headD .nil)⟩
theorem Xb(l:List Pixel):Zd Pixel.dec (l.map Pixel.enc)=l:=W8 _ _ (fun _=>rfl) l
structure Card where
 efl:Iv
 bfl:Iv
 plane:Iv
 number:Iv
def Card.enc(x:Card):List PV:=[.v (.int .i64 x.efl.lo),.v (.int .i64 x.efl.hi),.v (.bool x.efl.no),.v (.int .i64 x.bfl.lo),.v (.int .i64 x.bfl.hi),.v (.bool x.bfl.no),.v (.int .i64 x.plane.lo),.v (.int .i64 x.plane.hi),.v (.bool x.plane.no),.v (.int .i64 x.number.lo),.v (.int .i64 x.number.hi),.v (.bool x.number.no)]
def Card.dec(p:List PV):Card:=⟨⟨intOf (p.headD .nil),intOf (p.tail.headD .nil),Zr (p.tail.tail.headD .nil)⟩,⟨intOf (p.tail.tail.tail.headD .nil),intOf (p.tail.tail.tail.tail.headD .nil),Zr (p.tail.tail.tail.tail.tail.headD .nil)⟩,⟨intOf (p.tail.tail.tail.tail.tail.tail.headD .nil),intOf (p.tail.tail.tail.tail.tail.tail.tail.headD .nil),Zr (p.tail.tail.tail.tail.tail.tail.tail.tail.headD .nil)⟩,⟨intOf (p.tail.tail.tail.tail.tail.tail.tail.tail.tail.headD .nil),intOf (p.tail.tail.tail.tail.tail.tail.tail.tail.tail.tail.headD .nil),Zr (p.tail.tail.tail.tail.tail.tail.tail.tail.tail.tail.tail.headD .nil)⟩⟩
structure FnM where
 poly:List Iv
 s:Surf
 r:Ray
def FnM.enc(x:FnM):List PV:=[.lst (x.poly.map Iv.enc),.v (.bool true),.v (.bool x.s.stop),.v (.bool x.s.bent),.v (.int .i64 x.s.curve.lo),.v (.int .i64 x.s.curve.hi),.v (.bool x.s.curve.no),.v (.int .i64 x.s.conic.lo),.v (.int .i64 x.s.conic.hi),.v (.bool x.s.conic.no),.v (.int .i64 x.s.a4.lo),.v (.int .i64 x.s.a4.hi),.v (.bool x.s.a4.no),.v (.int .i64 x.s.a6.lo),.v (.int .i64 x.s.a6.hi),.v (.bool x.s.a6.no),.v (.int .i64 x.s.pos.lo),.v (.int .i64 x.s.pos.hi),.v (.bool x.s.pos.no),.v (.int .i64 x.s.open2.lo),.v (.int .i64 x.s.open2.hi),.v (.bool x.s.open2.no),.v (.int .i64 x.s.ratio.lo),.v (.int .i64 x.s.ratio.hi),.v (.bool x.s.ratio.no),.v (.int .i64 x.r.o.x.lo),.v (.int .i64 x.r.o.x.hi),.v (.bool x.r.o.x.no),.v (.int .i64 x.r.o.y.lo),.v (.int .i64 x.r.o.y.hi),.v (.bool x.r.o.y.no),.v (.int .i64 x.r.o.z.lo),.v (.int .i64 x.r.o.z.hi),.v (.bool x.r.o.z.no),.v (.int .i64 x.r.d.x.lo),.v (.int .i64 x.r.d.x.hi),.v (.bool x.r.d.x.no),.v (.int .i64 x.r.d.y.lo),.v (.int .i64 x.r.d.y.hi),.v (.bool x.r.d.y.no),.v (.int .i64 x.r.d.z.lo),.v (.int .i64 x.r.d.z.hi),.v (.bool x.r.d.z.no)]
def FnM.dec(p:List PV):FnM:=⟨(Zd Iv.dec (Za0 (p.headD .nil))),⟨Zr (p.tail.tail.headD .nil),Zr (p.tail.tail.tail.headD .nil),⟨intOf (p.tail.tail.tail.tail.headD .nil),intOf (p.tail.tail.tail.tail.tail.headD .nil),Zr (p.tail.tail.tail.tail.tail.tail.headD .nil)⟩,⟨intOf (p.tail.tail.tail.tail.tail.tail.tail.headD .nil),intOf (p.tail.tail.tail.tail.tail.tail.tail.tail.headD .nil),Zr (p.tail.tail.tail.tail.tail.tail.tail.tail.tail.headD .nil)⟩,⟨intOf (p.tail.tail.tail.tail.tail.tail.tail.tail.tail.tail.headD .nil),intOf (p.tail.tail.tail.tail.tail.tail.tail.tail.tail.tail.tail.headD .nil),Zr (p.tail.tail.tail.tail.tail.tail.tail.tail.tail.tail.tail.tail.headD .nil)⟩,⟨intOf (p.tail.tail.tail.tail.tail.tail.tail.tail.tail.tail.tail.tail.tail.headD .nil),intOf (p.tail.tail.tail.tail.tail.tail.tail.tail.tail.tail.tail.tail.tail.tail.headD .nil),Zr (p.tail.tail.tail.tail.tail.tail.tail.tail.tail.tail.tail.tail.tail.tail.tail.headD .nil)⟩,⟨intOf (p.tail.tail.tail.tail.tail.tail.tail.tail.tail.tail.tail.tail.tail.tail.tail.tail.headD .nil),intOf (p.tail.tail.tail.tail.tail.tail.tail.tail.tail.tail.tail.tail.tail.tail.tail.tail.tail.headD .nil),Zr (p.tail.tail.tail.tail.tail.tail.tail.tail.tail.tail.tail.tail.tail.tail.tail.tail.tail.tail.headD .nil)⟩,⟨intOf (p.tail.tail.tail.tail.tail.tail.tail.tail.tail.tail.tail.tail.tail.tail.tail.tail.tail.tail.tail.headD .nil),intOf (p.tail.tail.tail.tail.tail.tail.tail.tail.tail.tail.tail.tail.tail.tail.tail.tail.tail.tail.tail.tail.headD .nil),Zr (p.tail.tail.tail.tail.tail.tail.tail.tail.tail.tail.tail.tail.tail.tail.tail.tail.tail.tail.tail.tail.tail.headD .nil)⟩,⟨intOf (p.tail.tail.tail.tail.tail.tail.tail.tail.tail.tail.tail.tail.tail.tail.tail.tail.tail.tail.tail.tail.tail.tail.headD .nil),intOf (p.tail.tail.tail.tail.tail.tail.tail.tail.tail.tail.tail.tail.tail.tail.tail.tail.tail.tail.tail.tail.tail.tail.tail.headD .nil),Zr (p.tail.tail.tail.tail.tail.tail.tail.tail.tail.tail.tail.tail.tail.tail.tail.tail.tail.tail.tail.tail.tail.tail.tail.tail.headD .nil)⟩⟩,⟨⟨⟨intOf (p.tail.tail.tail.tail.tail.tail.tail.tail.tail.tail.tail.tail.tail.tail.tail.tail.tail.tail.tail.tail.tail.tail.tail.tail.tail.headD .nil),intOf (p.tail.tail.tail.tail.tail.tail.tail.tail.tail.tail.tail.tail.tail.tail.tail.tail.tail.tail.tail.tail.tail.tail.tail.tail.tail.tail.headD .nil),Zr (p.tail.tail.tail.tail.tail.tail.tail.tail.tail.tail.tail.tail.tail.tail.tail.tail.tail.tail.tail.tail.tail.tail.tail.tail.tail.tail.tail.headD .nil)⟩,⟨intOf (p.tail.tail.tail.tail.tail.tail.tail.tail.tail.tail.tail.tail.tail.tail.tail.tail.tail.tail.tail.tail.tail.tail.tail.tail.tail.tail.tail.tail.headD .nil),intOf (p.tail.tail.tail.tail.tail.tail.tail.tail.tail.tail.tail.tail.tail.tail.tail.tail.tail.tail.tail.tail.tail.tail.tail.tail.tail.tail.tail.tail.tail.headD .nil),Zr (p.tail.tail.tail.tail.tail.tail.tail.tail.tail.tail.tail.tail.tail.tail.tail.tail.tail.tail.tail.tail.tail.tail.tail.tail.tail.tail.tail.tail.tail.tail.headD .nil)⟩,⟨intOf (p.tail.tail.tail.tail.tail.tail.tail.tail.tail.tail.tail.tail.tail.tail.tail.tail.tail.tail.tail.tail.tail.tail.tail.tail.tail.tail.tail.tail.tail.tail.tail.headD .nil),intOf (p.tail.tail.tail.tail.tail.tail.tail.tail.tail.tail.tail.tail.tail.tail.tail.tail.tail.tail.tail.tail.tail.tail.tail.tail.tail.tail.tail.tail.tail.tail.tail.tail.headD .nil),Zr (p.tail.tail.tail.tail.tail.tail.tail.tail.tail.tail.tail.tail.tail.tail.tail.tail.tail.tail.tail.tail.tail.tail.tail.tail.tail.tail.tail.tail.tail.tail.tail.tail.tail.headD .nil)⟩⟩,⟨⟨intOf (p.tail.tail.tail.tail.tail.tail.tail.tail.tail.tail.tail.tail.tail.tail.tail.tail.tail.tail.tail.tail.tail.tail.tail.tail.tail.tail.tail.tail.tail.tail.tail.tail.tail.tail.headD .nil),intOf (p.tail.tail.tail.tail.tail.tail.tail.tail.tail.tail.tail.tail.tail.tail.tail.tail.tail.tail.tail.tail.tail.tail.tail.tail.tail.tail.tail.tail.tail.tail.tail.tail.tail.tail.tail.headD .nil),Zr (p.tail.tail.tail.tail.tail.tail.tail.tail.tail.tail.tail.tail.tail.tail.tail.tail.tail.tail.tail.tail.tail.tail.tail.tail.tail.tail.tail.tail.tail.tail.tail.tail.tail.tail.tail.tail.headD .nil)⟩,⟨intOf (p.tail.tail.tail.tail.tail.tail.tail.tail.tail.tail.tail.tail.tail.tail.tail.tail.tail.tail.tail.tail.tail.tail.tail.tail.tail.tail.tail.tail.tail.tail.tail.tail.tail.tail.tail.tail.tail.headD .nil),intOf (p.tail.tail.tail.tail.tail.tail.tail.tail.tail.tail.tail.tail.tail.tail.tail.tail.tail.tail.tail.tail.tail.tail.tail.tail.tail.tail.tail.tail.tail.tail.tail.tail.tail.tail.tail.tail.tail.tail.headD .nil),Zr (p.tail.tail.tail.tail.tail.tail.tail.tail.tail.tail.tail.tail.tail.tail.tail.tail.tail.tail.tail.tail.tail.tail.tail.tail.tail.tail.tail.tail.tail.tail.tail.tail.tail.tail.tail.tail.tail.tail.tail.headD .nil)⟩,⟨intOf (p.tail.tail.tail.tail.tail.tail.tail.tail.tail.tail.tail.tail.tail.tail.tail.tail.tail.tail.tail.tail.tail.tail.tail.tail.tail.tail.tail.tail.tail.tail.tail.tail.tail.tail.tail.tail.tail.tail.tail.tail.headD .nil),intOf (p.tail.tail.tail.tail.tail.tail.tail.tail.tail.tail.tail.tail.tail.tail.tail.tail.tail.tail.tail.tail.tail.tail.tail.tail.tail.tail.tail.tail.tail.tail.tail.tail.tail.tail.tail.tail.tail.tail.tail.tail.tail.headD .nil),Zr (p.tail.tail.tail.tail.tail.tail.tail.tail.tail.tail.tail.tail.tail.tail.tail.tail.tail.tail.tail.tail.tail.tail.tail.tail.tail.tail.tail.tail.tail.tail.tail.tail.tail.tail.tail.tail.tail.tail.tail.tail.tail.tail.headD .nil)⟩⟩⟩⟩
-- FnM: with lists
structure Pair where
 x:Int
 y:Int
def Pair.enc(x:Pair):List PV:=[.v (.int .i64 x.x),.v (.int .i64 x.y)]
def Pair.dec(p:List PV):Pair:=⟨intOf (p.headD .nil),intOf (p.tail.headD .nil)⟩
structure S3 where
 a:SysM
 b:SysM
 c:SysM
def S3.enc(x:S3):List PV:=[.lst (x.a.surfs.map Surf.enc),.v (.int .i64 x.a.op.lo),.v (.int .i64 x.a.op.hi),.v (.bool x.a.op.no),.lst (x.b.surfs.map Surf.enc),.v (.int .i64 x.b.op.lo),.v (.int .i64 x.b.op.hi),.v (.bool x.b.op.no),.lst (x.c.surfs.map Surf.enc),.v (.int .i64 x.c.op.lo),.v (.int .i64 x.c.op.hi),.v (.bool x.c.op.no)]
def S3.dec(p:List PV):S3:=⟨⟨(Zd Surf.dec (Za0 (p.headD .nil))),⟨intOf (p.tail.headD .nil),intOf (p.tail.tail.headD .nil),Zr (p.tail.tail.tail.headD .nil)⟩⟩,⟨(Zd Surf.dec (Za0 (p.tail.tail.tail.tail.headD .nil))),⟨intOf (p.tail.tail.tail.tail.tail.headD .nil),intOf (p.tail.tail.tail.tail.tail.tail.headD .nil),Zr (p.tail.tail.tail.tail.tail.tail.tail.headD .nil)⟩⟩,⟨(Zd Surf.dec (Za0 (p.tail.tail.tail.tail.tail.tail.tail.tail.headD .nil))),⟨intOf (p.tail.tail.tail.tail.tail.tail.tail.tail.tail.headD .nil),intOf (p.tail.tail.tail.tail.tail.tail.tail.tail.tail.tail.headD .nil),Zr (p.tail.tail.tail.tail.tail.tail.tail.tail.tail.tail.tail.headD .nil)⟩⟩⟩
-- S3: with lists
structure Cx where
 re:Nat
 im:Nat
def Cx.enc(z:Cx):List PV:=[.v (.complex .f64 z.re z.im)]
def Cx.dec(l:List PV):Cx:=⟨Zk3 (l.headD .nil),Zk4 (l.headD .nil)⟩
theorem dCx(l:List Cx):Zd Cx.dec (l.map Cx.enc)=l:=W8 _ _ (fun _=>rfl) l
def ZgJ(x:Nat):Bool:=match FloatKind.f64.decode x with | .nan _ _=>false | _=>true
def ZcH(x:Nat):Nat:=FloatKind.f64.encode ((FloatKind.f64.decode x).integral .zero)
def Ray.dec(p:List PV):Ray:=⟨⟨⟨intOf (p.headD .nil),intOf (p.tail.headD .nil),Zr (p.tail.tail.headD .nil)⟩,⟨intOf (p.tail.tail.tail.headD .nil),intOf (p.tail.tail.tail.tail.headD .nil),Zr (p.tail.tail.tail.tail.tail.headD .nil)⟩,⟨intOf (p.tail.tail.tail.tail.tail.tail.headD .nil),intOf (p.tail.tail.tail.tail.tail.tail.tail.headD .nil),Zr (p.tail.tail.tail.tail.tail.tail.tail.tail.headD .nil)⟩⟩,⟨⟨intOf ((p.drop 9).headD .nil),intOf ((p.drop 10).headD .nil),Zr ((p.drop 11).headD .nil)⟩,⟨intOf ((p.drop 12).headD .nil),intOf ((p.drop 13).headD .nil),Zr ((p.drop 14).headD .nil)⟩,⟨intOf ((p.drop 15).headD .nil),intOf ((p.drop 16).headD .nil),Zr ((p.drop 17).headD .nil)⟩⟩⟩
def ZpA(y n:Bool):Int:=bif y then 1 else bif n then 2 else 0
def Zeb(a b:Iv):Int:=bif right a&&right b then ZpA (decide (a.hi≤b.lo)) (decide (a.lo > b.hi)) else 0
def ZI(a:Iv):Int:=bif right a then floor (a.lo+a.hi) 2 else 0
def Jo(a b:Iv):Iv:=bif both a b then of (max a.lo b.lo) (min a.hi b.hi) else none'
def Zaq(a b:Iv):Iv:=bif both a b then of (min a.lo b.lo) (max a.hi b.hi) else none'
def YG(a:Iv):Iv×Iv:=bif right a then (of a.lo (ZI a),of (ZI a) a.hi) else (none',none')
def Jp(a:V)(k:Iv):V:=⟨Zk a.x k,Zk a.y k,Zk a.z k⟩
def along(r:Ray)(t:Iv):V:=ZgG r.o (Jp r.d t)
def YN(a:V):Bool:=right a.x&&(right a.y&&right a.z)
def noV:V:=⟨none',none',none'⟩
def ZlU:Ray:=⟨noV,noV⟩
structure K4 where
 a:Iv
 b:Iv
 c:Iv
 d:Iv
structure K3 where
 a:Iv
 b:Iv
 c:Iv
def ZcI(a:Iv):Iv:=bif right a then a else none'
def Zj5(l:K4)(x:Iv):Iv:=add (Zk (add (Zk (add (Zk (ZcI l.d) x) l.c) x) l.b) x) l.a
def Zj6(l:K3)(x:Iv):Iv:=add (Zk (add (Zk (ZcI l.c) x) l.b) x) l.a
def ZcJ(l:K4):K3:=⟨times l.b 1,times l.c 2,times l.d 3⟩
def Z4w(s:Surf)(r2:Iv):Iv:=ZQ (sub (point 65536) (Zk (Zk s.conic (sqr s.curve)) r2))
def XF(s:Surf)(r2:Iv):Iv×Iv:=(Zo (Zk s.curve r2) (add (point 65536) (Z4w s r2)),Zo s.curve (times (Z4w s r2) 2))
def Zru(z m:Iv):Iv×Iv:=bif z.no||m.no then (none',none') else (z,m)
def Z1i(r2:Iv):Iv:=Zo r2 (whole 1000)
def Z1j(s:Surf):K4:=⟨point 0,point 0,s.a4,s.a6⟩
def sag(s:Surf)(r2:Iv):Iv×Iv:=bif s.bent then Zru (add (XF s r2).1 (Zj5 (Z1j s) (Z1i r2))) (add (XF s r2).2 (Zo (Zj6 (ZcJ (Z1j s)) (Z1i r2)) (whole 1000))) else Zru (XF s r2).1 (XF s r2).2
def Zv(s:Surf)(r:Ray)(t:Iv):Iv×Iv:=
 let p:=along r t
 let zm:=sag s (add (sqr p.x) (sqr p.y))
 (sub p.z zm.1,sub r.d.z (Zk zm.2 (times (add (Zk p.x r.d.x) (Zk p.y r.d.y)) 2)))
def Z1k(a b:Iv):Bool:=a.lo==b.lo&&(a.hi==b.hi&&(a.no==b.no&&true))
def ZgK(v:Iv):Bool:=right v&& !(has v 0)
def Zk9(f:Iv→Iv×Iv)(t:Iv):Iv:=sub (point (ZI t)) (Zo (f (point (ZI t))).1 (f t).2)
def ZyM(t:Iv)(sure:Bool):Iv×Int:=bif sure then (t,1) else (none',0)
def Zwh(f:Iv→Iv×Iv)(t:Iv)(s:Bool):Bool:=s||(decide (t.lo < (Zk9 f t).lo)&&decide ((Zk9 f t).hi < t.hi))
def X5(f:Iv→Iv×Iv):Nat→Iv→Bool→Int×Iv×Bool
 | 0,t,s=>(0,t,s)
 | n+1,t,s=>bif (Zk9 f t).no then (bif ZgK (f (YG t).1).1 then X5 f n (YG t).2 s else bif ZgK (f (YG t).2).1 then X5 f n (YG t).1 s else (2,t,s))
   else bif (Jo t (Zk9 f t)).no then (1,t,Zwh f t s) else bif Z1k (Jo t (Zk9 f t)) t then (0,t,Zwh f t s) else X5 f n (Jo t (Zk9 f t)) (Zwh f t s)
def Zwi(o:Int×Iv×Bool):Iv×Int:=bif o.1==1 then (none',2) else bif o.1==2 then (none',0) else ZyM o.2.1 o.2.2
def newt(f:Iv→Iv×Iv)(n:Nat)(t:Iv)(s:Bool):Iv×Int:=Zwi (X5 f n t s)
def solve(f:Iv→Iv×Iv)(t:Iv)(most:Int):Iv×Int:=bif right t then newt f (max 0 (min most 40)).toNat t false else (none',0)
def ZaR(s:Surf)(r:Ray)(t:Iv):Iv×Int:=bif (solve (Zv s r) (of (t.lo - 65536) (t.hi+65536)) 20).2==1 then ((solve (Zv s r) (of (t.lo - 65536) (t.hi+65536)) 20).1,1) else (none',0)
def Z4x(s:Surf)(o d:V):Iv:=Zk s.curve (add (add (sqr d.x) (sqr d.y)) (Zk s.conic (sqr d.z)))
def Z4y(s:Surf)(o d:V):Iv:=sub (Zk s.curve (add (add (Zk o.x d.x) (Zk o.y d.y)) (Zk s.conic (Zk o.z d.z)))) d.z
def Z4z(s:Surf)(o d:V):Iv:=sub (Zk s.curve (add (add (sqr o.x) (sqr o.y)) (Zk s.conic (sqr o.z)))) (times o.z 2)
def W9(s:Surf)(o d:V):Iv×Int:=WD (Z4x s o d) (Z4y s o d) (Z4z s o d)
def Za1(s:Surf)(r:Ray):Ray:=⟨⟨r.o.x,r.o.y,sub r.o.z s.pos⟩,r.d⟩
def Zec(s:Surf)(r:Ray):Iv×Int:=bif s.bent&&(W9 s (Za1 s r).o r.d).2==1 then ZaR s (Za1 s r) (W9 s (Za1 s r).o r.d).1 else W9 s (Za1 s r).o r.d
def Yq(s:Surf)(r:Ray):Iv×V×Int:=bif (Zec s r).2==1 then (bif YN (along (Za1 s r) (Zec s r).1) then ((Zec s r).1,along (Za1 s r) (Zec s r).1,1) else (none',noV,0)) else (none',noV,(Zec s r).2)
def ZaD(s:Surf)(p:V):V:=bif s.bent then unit ⟨neg (times (Zk (sag s (add (sqr p.x) (sqr p.y))).2 p.x) 2),neg (times (Zk (sag s (add (sqr p.x) (sqr p.y))).2 p.y) 2),point 65536⟩
 else unit ⟨neg (Zk s.curve p.x),neg (Zk s.curve p.y),sub (point 65536) (Zk s.curve (Zk s.conic p.z))⟩
def Zbv(d n:V)(ratio:Iv):Iv:=sub (point 65536) (Zk (sqr ratio) (sub (point 65536) (sqr (dot d n))))
def ZgL(d n:V)(ratio:Iv):V:=ZgG (Jp d ratio) (Jp n (sub (ZQ (Zbv d n ratio)) (Zk ratio (dot d n))))
def bend(d n:V)(ratio:Iv):V×Int:=bif (dot d n).no||decide ((dot d n).lo≤0) then (noV,0)
 else bif (Zbv d n ratio).no then (noV,0) else bif decide ((Zbv d n ratio).hi < 0) then (noV,2) else bif decide ((Zbv d n ratio).lo < 0) then (noV,0)
 else bif YN (ZgL d n ratio) then (ZgL d n ratio,1) else (noV,0)
def ZlV(is:Int):Int:=bif is==2 then 2 else 3
def goP(s:Surf)(r:Ray):V:=(Yq s r).2.1
def goO(s:Surf)(r:Ray):V:=⟨(goP s r).x,(goP s r).y,add (goP s r).z s.pos⟩
def goA(s:Surf)(r:Ray):Int:=Zeb (add (sqr (goP s r).x) (sqr (goP s r).y)) s.open2
def goB(s:Surf)(r:Ray):V×Int:=bend r.d (ZaD s (goP s r)) s.ratio
def goS(s:Surf)(r:Ray):Ray×Int:=bif (Yq s r).2.2==1 then (bif goA s r==1 then (bif (goO s r).z.no then (ZlU,3) else bif s.stop then (⟨goO s r,r.d⟩,1) else bif (goB s r).2==1 then (⟨goO s r,(goB s r).1⟩,1) else (ZlU,ZlV (goB s r).2)) else (ZlU,ZlV (goA s r))) else (ZlU,ZlV (Yq s r).2.2)
def ZD:List Surf→Int→Ray→TrRes
 | [],k,r=>⟨1,k,r⟩
 | f::l,k,r=>bif (goS f r).2==1 then ZD l (k+1) (goS f r).1 else ⟨(goS f r).2,k,(goS f r).1⟩
def trace(s:SysM)(r:Ray):TrRes:=ZD s.surfs 0 r
def Yw(n lo hi:Int):Bool:=decide (lo≤n)&&decide (n≤hi)
def eqF(a b:Nat):Bool:=FloatKind.f64.format.order a b==some .eq
def geF(a b:Nat):Bool:=FloatKind.f64.format.order a b==some .gt||FloatKind.f64.format.order a b==some .eq
def leF(a b:Nat):Bool:=FloatKind.f64.format.order a b==some .lt||FloatKind.f64.format.order a b==some .eq
theorem Z39{x c:Nat}(h:geF x c=true):ZgJ x=true:=by
 unfold ZgJ
 unfold geF at h
 cases e:FloatKind.f64.decode x with
 | nan s t=>
   have:FloatKind.f64.format.order x c=none:=by
    show (Ieee.Format.order _ x c)=none
    unfold Ieee.Format.order
    rw[show FloatKind.f64.format.read x= .nan s t from e]
    rfl
   rw[this] at h
   exact absurd h (by decide)
 | number _ _ _=>rfl
 | infinity _=>rfl
def XJ(x:Nat):Bool:=geF x 13920626448202203136&&leF x 4697254411347427328&&eqF x (ZcH x)
def ZB(x:Nat):Int:=((FloatKind.f64.decode x).toInt .zero).getD 0
theorem Z40(m:Nat)(i:Int)(h:m <<< (i - min i (-32)).toNat≤4503599627370496 <<< (-32 - min i (-32)).toNat):(m <<< i.toNat) / 2 ^ (-i).toNat≤1048576:=by
 simp only[Nat.shiftLeft_eq] at h ⊢
 rcases Int.lt_or_le i 0 with hi | hi
 ·obtain ⟨k,rfl⟩:∃k:Nat,i= -((k:Int)+1):=⟨(-i - 1).toNat,by omega⟩
  rw[show (-((k:Int)+1)).toNat=0 by omega,show (- -((k:Int)+1)).toNat=k+1 by omega,Nat.pow_zero,Nat.mul_one]
  by_cases hk:k+1≤32
  ·obtain ⟨d,hd⟩:∃d,d+(k+1)=32:=⟨32 - (k+1),by omega⟩
   rw[show min (-((k:Int)+1)) (-32)= -32 by omega] at h
   rw[show (-((k:Int)+1) - -32).toNat=d by omega,show ((-32:Int) - -32).toNat=0 by omega] at h
   refine Nat.div_le_of_le_mul ?_
   have e:2 ^ d *2 ^ (k+1)=4294967296:=by rw[←Nat.pow_add,hd]
   have hp:0 < 2 ^ d:=Nat.pow_pos (by decide)
   refine Nat.le_of_mul_le_mul_right (QT_ h ?_) hp
   rw[Nat.mul_right_comm,Nat.mul_comm (2 ^ (k+1)) (2 ^ d),e]
   decide
  ·obtain ⟨d,hd⟩:∃d,k+1=32+d:=⟨k+1 - 32,by omega⟩
   rw[show min (-((k:Int)+1)) (-32)= -((k:Int)+1) by omega] at h
   rw[show (-((k:Int)+1) - -((k:Int)+1)).toNat=0 by omega,show ((-32:Int) - -((k:Int)+1)).toNat=d by omega] at h
   refine Nat.div_le_of_le_mul ?_
   rw[hd,Nat.pow_add]
   generalize 2 ^ d=p at *
   omega
 ·obtain ⟨k,rfl⟩:∃k:Nat,i=k:=⟨i.toNat,by omega⟩
  rw[show min (k:Int) (-32)= -32 by omega] at h
  rw[show ((k:Int) - -32).toNat=k+32 by omega,show ((-32:Int) - -32).toNat=0 by omega,Nat.pow_add] at h
  rw[show (k:Int).toNat=k from rfl,show (-(k:Int)).toNat=0 by omega]
  generalize 2 ^ k=p at *
  have:m * (p *2 ^ 32)=(m *p)*4294967296:=by rw[←Nat.mul_assoc]
  rw[this] at h
  generalize m *p=q at *
  omega
theorem Z63{s:Bool}{n d c:Nat}(h:n / 2 ^ d≤c):Ieee.Toward.zero.cut s n d≤c:=by
 unfold Ieee.Toward.cut
 simp only[Nat.shiftLeft_eq,Nat.one_mul]
 by_cases hd:d≤n.log2+2
 ·rw[Nat.min_eq_left hd];simpa using h
 ·rw[Nat.min_eq_right (by omega)]
  have:n / 2 ^ (n.log2+2)=0:=Nat.div_eq_of_lt (Kc_ Nat.lt_log2_self (Nat.pow_le_pow_right (by decide) (by omega)))
  rw[this];simp
theorem Zov{x:Nat}(h1:geF x 13920626448202203136=true)(h2:leF x 4697254411347427328=true):(FloatKind.f64.decode x).toInt .zero=some (ZB x)∧ -1048576≤ZB x∧ZB x≤1048576:=by
 unfold ZB
 unfold geF FloatKind.format at h1
 unfold leF FloatKind.format at h2
 simp only[Ieee.Format.order] at h1 h2
 rw[show Ieee.double.read 13920626448202203136= .number true 4503599627370496 (-32) by rfl] at h1
 rw[show Ieee.double.read 4697254411347427328= .number false 4503599627370496 (-32) by rfl] at h2
 rw[show FloatKind.f64.decode x=Ieee.double.read x from rfl]
 cases e:Ieee.double.read x with
 | nan s t=>rw[e] at h1;exact absurd h1 Ky_
 | infinity s=>rw[e] at h1 h2;cases s<;>first | exact absurd h1 Ky_ | exact absurd h2 Ky_
 | number s m i=>
   rw[e] at h1 h2
   simp only[Ieee.Datum.order] at h1 h2
   have key:m <<< (i - min i (-32)).toNat≤4503599627370496 <<< (-32 - min i (-32)).toNat:=by
    generalize hA:m <<< (i - min i (-32)).toNat=A
    generalize hB:4503599627370496 <<< (-32 - min i (-32)).toNat=B
    simp only[Ieee.signed,hA,hB] at h1 h2
    clear hA hB
    cases s with
    | false=>
      simp only[K7_,Kx_] at h2
      simp[Int.compare_eq_lt,Int.compare_eq_eq] at h2
      omega
    | true=>
      simp only[Kw_] at h1
      simp[Int.compare_eq_gt,Int.compare_eq_eq] at h1
      omega
   have hc:=Z63 (s:=s) (Z40 m i key)
   refine ⟨rfl, ?_⟩
   show -1048576≤Ieee.signed s (Ieee.Toward.zero.cut s (m <<< i.toNat) (-i).toNat) 0∧Ieee.signed s (Ieee.Toward.zero.cut s (m <<< i.toNat) (-i).toNat) 0≤1048576
   unfold Ieee.signed
   rw[Nat.shiftLeft_zero]
   cases s<;>simp<;>omega
theorem Z1l{x:Nat}(h:XJ x=true):(FloatKind.f64.decode x).toInt .zero=some (ZB x)∧ -1048576≤ZB x∧ZB x≤1048576:=by
 unfold XJ at h
 simp only[Qh_] at h
 exact Zov h.1.1 h.1.2
theorem Zwj(a b:Ieee.Datum):(a.order b==some .eq)=(b.order a==some .eq):=by
 cases a<;>cases b<;>try rfl
 ·rename_i s m i t n j
  simp only[Ieee.Datum.order]
  rw[Int.min_comm j i]
  generalize Ieee.signed s m (i - min i j).toNat=u
  generalize Ieee.signed t n (j - min i j).toNat=v
  by_cases h:u=v
  ·subst h;rfl
  ·have h1:compare u v≠ .eq:=fun e=>h (Int.compare_eq_eq.1 e)
   have h2:compare v u≠ .eq:=fun e=>h (Int.compare_eq_eq.1 e).symm
   rw[show (some (compare u v)==some Ordering.eq)=false by simpa using h1,show (some (compare v u)==some Ordering.eq)=false by simpa using h2]
 ·rename_i s m i t;cases t<;>rfl
 ·rename_i s t m i;cases s<;>rfl
 ·rename_i s t;cases s<;>cases t<;>rfl
theorem Z1m(a b:Nat):eqF a b=eqF b a:=Zwj _ _
theorem Z1n(x:Nat):eqF x (FloatKind.f64.encode (.number true 0 0))=eqF x (FloatKind.f64.encode (.number false 0 0)):=by
 unfold eqF
 simp only[FloatKind.format,Ieee.Format.order]
 rw[show Ieee.double.read (FloatKind.f64.encode (.number true 0 0))= .number true 0 (-1074) by rfl,show Ieee.double.read (FloatKind.f64.encode (.number false 0 0))= .number false 0 (-1074) by rfl]
 cases Ieee.double.read x with
 | nan s t=>rfl
 | infinity s=>rfl
 | number s m i=>simp[Ieee.Datum.order,Ieee.signed]
theorem Z3A{x:Nat}{s:Bool}{m:Nat}{i:Int}(e:FloatKind.f64.decode x= .number s m i):eqF x (ZcH x)=eqF (FloatKind.f64.nearest (ZB x)) x:=by
 rw[Z1m (FloatKind.f64.nearest (ZB x)) x]
 unfold ZcH ZB FloatKind.nearest
 rw[e]
 simp only[Ieee.Datum.integral,Ieee.Datum.toInt,Ks_,Ieee.signed,Nat.shiftLeft_zero]
 generalize Ieee.Toward.zero.cut s (m <<< i.toNat) (-i).toNat=c
 cases c with
 | zero=>
   cases s with
   | true=>exact Z1n x
   | false=>rfl
 | succ c=>
   cases s with
   | true=>simp only[Kw_];rw[show (-((c+1:Nat):Int)).natAbs=c+1 by omega,show decide (-((c+1:Nat):Int) < 0)=true by simp]
   | false=>simp only[K7_,Kx_];rw[show (((c+1:Nat):Int)).natAbs=c+1 by omega,show decide (((c+1:Nat):Int) < 0)=false by simp;omega]
def Zbw(x:Nat):Bool:=geF x 13920626448202203136&&leF x 4697254411347427328&&eqF (FloatKind.f64.nearest (ZB x)) x
theorem Zrv(x:Nat):Zbw x=XJ x:=by
 unfold Zbw XJ
 cases h1:geF x 13920626448202203136 with
 | false=>rfl
 | true=>
   cases h2:leF x 4697254411347427328 with
   | false=>rfl
   | true=>
     simp only[Qp_]
     have e:∃s m i,FloatKind.f64.decode x= .number s m i:=by
      unfold geF FloatKind.format at h1
      unfold leF FloatKind.format at h2
      simp only[Ieee.Format.order] at h1 h2
      rw[show Ieee.double.read 13920626448202203136= .number true 4503599627370496 (-32) by rfl] at h1
      rw[show Ieee.double.read 4697254411347427328= .number false 4503599627370496 (-32) by rfl] at h2
      rw[show FloatKind.f64.decode x=Ieee.double.read x from rfl]
      cases e:Ieee.double.read x with
      | nan s t=>rw[e] at h1;exact absurd h1 Ky_
      | infinity s=>rw[e] at h1 h2;cases s<;>first | exact absurd h1 Ky_ | exact absurd h2 Ky_
      | number s m i=>exact ⟨s,m,i,rfl⟩
     obtain ⟨s,m,i,e⟩:=e
     exact (Z3A e).symm
def Yp(x y:Int):Cx:=⟨FloatKind.f64.nearest x,FloatKind.f64.nearest y⟩
def ZY(z:Cx):Bool:=XJ z.re&&XJ z.im
def X8(w h:Int):Bool:=Yw w 1 16&&Yw h 1 16
def J8(s:SysM)(n:Int):Bool:=decide ((0:Int) < s.surfs.length)&&decide (1≤n)&&decide (n≤16)
def edge(o:Iv)(k n:Int):Iv:=Zo (Zaq (times o k) (times o (IntKind.i64.wrap (k+1)))) (whole n)
theorem Zci{x:Nat}(h1:geF x 13920626448202203136=true)(h2:leF x 4697254411347427328=true):(FloatKind.f64.decode x).toInt .zero=some (((FloatKind.f64.decode x).toInt .zero).getD 0)∧IntKind.i64.min≤((FloatKind.f64.decode x).toInt .zero).getD 0∧((FloatKind.f64.decode x).toInt .zero).getD 0≤IntKind.i64.max:=by
 obtain ⟨h1,h2,h3⟩:=Zov h1 h2
 unfold ZB at *
 refine ⟨h1, ?_, ?_⟩
 ·rw[show IntKind.i64.min= -9223372036854775808 by decide];omega
 ·rw[show IntKind.i64.max=9223372036854775807 by decide];omega
def ofC(z:Cx):Pair×Bool:=bif ZY z then (⟨ZB z.re,ZB z.im⟩,true) else (⟨0,0⟩,false)
theorem Xa{x:Nat}(h:XJ x=true):(FloatKind.f64.decode x).toInt .zero=some (((FloatKind.f64.decode x).toInt .zero).getD 0)∧IntKind.i64.min≤((FloatKind.f64.decode x).toInt .zero).getD 0∧((FloatKind.f64.decode x).toInt .zero).getD 0≤IntKind.i64.max:=by
 obtain ⟨h1,h2,h3⟩:=Z1l h
 unfold ZB at *
 refine ⟨h1, ?_, ?_⟩
 ·rw[show IntKind.i64.min= -9223372036854775808 by decide];omega
 ·rw[show IntKind.i64.max=9223372036854775807 by decide];omega
theorem Jb{z:Cx}(h:ZY z=true):XJ z.re=true:=by unfold ZY at h;rw[Qh_] at h;exact h.1
theorem Jc{z:Cx}(h:ZY z=true):XJ z.im=true:=by unfold ZY at h;rw[Qh_] at h;exact h.2
theorem Zrw{s:SysM}{n:Int}(h:J8 s n=true):0 < s.surfs.length:=by
 unfold J8 at h
 simp only[Qh_,Qc_] at h
 omega
def YO(z:Cx)(n:Int):Bool:=ZY z&&(Yw (ZB z.re) (IntKind.i64.wrap (0 - n)) (IntKind.i64.wrap (n - 1))&&Yw (ZB z.im) (IntKind.i64.wrap (0 - n)) (IntKind.i64.wrap (n - 1)))
def Z5I(s:SysM):Surf:=Surf.dec ((s.surfs.map Surf.enc).getD 0 [])
def X9(s:SysM)(x y:Iv)(a b n:Int):Ray:=⟨⟨x,y,point 0⟩,unit ⟨sub (edge s.op a n) x,sub (edge s.op b n) y,(Z5I s).pos⟩⟩
def ZlW:Iv:=⟨0,0,false⟩
def Z29:V:=⟨ZlW,ZlW,ZlW⟩
def ZuM:Ray:=⟨Z29,Z29⟩
def Zed(s:SysM)(x y:Iv)(a b n:Int):Ray×Bool:=bif YN (X9 s x y a b n).o&&YN (X9 s x y a b n).d then (X9 s x y a b n,true) else (ZuM,false)
def Wb(s:SysM)(x y:Iv)(z:Cx)(n:Int):Ray×Bool:=bif J8 s n&&ZY z then Zed s x y (ZB z.re) (ZB z.im) n else (ZuM,false)
theorem ZeU(r:Ray):∀(l:List Shape) (k b:Int) (a:Iv) (all:List Iv),(Yl r l k b a all).1=b∨(k≤(Yl r l k b a all).1∧(Yl r l k b a all).1 < k+l.length)
 | [],_,_,_,_=> .inl rfl
 | s::l,k,b,a,all=>by
   simp only[Yl,Qs_]
   cases (hit s r).2==2<;>simp only[Qb_,Qd_]
   ·cases decide (b < 0)||decide ((hit s r).1.hi < a.hi)<;>simp only[Qb_,Qd_]
    ·rcases ZeU r l (k+1) b a (all++[(hit s r).1]) with h | ⟨h1,h2⟩
     ·exact .inl h
     ·exact .inr ⟨by omega,by omega⟩
    ·rcases ZeU r l (k+1) k (hit s r).1 (all++[(hit s r).1]) with h | ⟨h1,h2⟩
     ·exact .inr ⟨by rw[h];omega,by rw[h];omega⟩
     ·exact .inr ⟨by omega,by omega⟩
   ·rcases ZeU r l (k+1) b a all with h | ⟨h1,h2⟩
    ·exact .inl h
    ·exact .inr ⟨by omega,by omega⟩
theorem Zwk{l:List Shape}{r:Ray}(h:((nearest l r).2.2==1)=true):0≤(nearest l r).1∧(nearest l r).1 < l.length:=by
 unfold nearest at h ⊢
 have hg:=ZeU r l 0 (-1) none' []
 revert h
 cases unsure r l<;>simp only[Qb_,Qd_]
 ·obtain ⟨g,hgd⟩:∃g,Yl r l 0 (-1) none' []=g:=⟨_,rfl⟩
  rw[hgd] at hg ⊢
  cases hd:decide (g.1 < 0)<;>simp only[Qb_,Qd_]
  ·have hd:=of_decide_eq_false hd
   cases decide (behind g.2.1 g.2.2+1 < g.2.2.length)<;>simp only[Qb_,Qd_]
   ·intro _;omega
   ·exact fun h=>absurd h (by decide)
  ·exact fun h=>absurd h (by decide)
 ·exact fun h=>absurd h (by decide)
def J9:A3:=⟨0,0,0⟩
def ZlX(l:List Shape)(k:Int):A3:=(Shape.dec ((l.map Shape.enc).getD k.toNat [])).glow
def Xl(s:SysM)(l:List Shape)(r:Ray):A3×A3×Bool:=
 bif (trace s r).kind==2 then (J9,J9,false) else bif (trace s r).kind==3 then (J9,J9,true) else
 bif (nearest l (trace s r).r).2.2==1 then (ZlX l (nearest l (trace s r).r).1,ZlX l (nearest l (trace s r).r).1,false)
 else bif (nearest l (trace s r).r).2.2==2 then (J9,J9,false) else (J9,J9,true)
def Zf2(a:A3)(c:Nat):Int:=match c with | 0=>a.a | 1=>a.b | _=>a.c
def ZaE(s:SysM)(l:List Shape)(r:Ray)(c:Nat):Int×Int×Bool:=
 bif (Xl s l r).2.2 then (0,255,true) else (Zf2 (Xl s l r).1 c,Zf2 (Xl s l r).2.1 c,false)
def Y5(s:SysM)(l:List Shape)(x y:Iv)(z:Cx)(n:Int)(c:Nat):Int×Int×Bool:=
 bif (Wb s x y z n).2 then ZaE s l (Wb s x y z n).1 c else (0,255,true)
def Z2A(a:A3)(c:Nat)(v:Int):A3:=match c with
 | 0=>⟨IntKind.i64.wrap (a.a+v),a.b,a.c⟩
 | 1=>⟨a.a,IntKind.i64.wrap (a.b+v),a.c⟩
 | _=>⟨a.a,a.b,IntKind.i64.wrap (a.c+v)⟩
def Wc(p:Pixel)(v:Int×Int×Bool)(c:Nat):Pixel:=⟨Z2A p.lo c v.1,Z2A p.hi c v.2.1,bif v.2.2 then IntKind.i64.wrap (p.lost+1) else p.lost⟩
theorem Zkc:∀(l:List Surf) k r,((ZD l k r).kind==1)=true→(ZD l k r).pos=k+l.length
 | [],k,r,_=>by show k=k+((0:Nat):Int);omega
 | f::l,k,r,h=>by
   cases hg:(goS f r).2==1 with
   | true=>
     have e:ZD (f::l) k r=ZD l (k+1) (goS f r).1:=by simp only[ZD,hg,Qb_]
     rw[e] at h ⊢
     rw[Zkc l _ _ h,Qs_];omega
   | false=>
     have e:ZD (f::l) k r=⟨(goS f r).2,k,(goS f r).1⟩:=by simp only[ZD,hg,Qd_]
     rw[e] at h
     exact absurd h (by simp[hg])
theorem Z41(a b:V):right (dot a b)= !(dot a b).no:=ZyK _ _
theorem Zwl{a b c:Iv}(h:(WD a b c).2=1):right (WD a b c).1=true:=by
 unfold WD at h ⊢
 simp only at h ⊢
 revert h
 repeat' (first | (cases (sub (sqr b) (Zk a c)).no<;>simp only[Qb_,Qd_]) | (cases decide ((sub (sqr b) (Zk a c)).hi < 0)<;>simp only[Qb_,Qd_]) | (cases decide ((sub (sqr b) (Zk a c)).lo < 0)<;>simp only[Qb_,Qd_]) | (cases hd:(Zo c (sub (ZQ (sub (sqr b) (Zk a c))) b)).no<;>simp only[Qb_,Qd_]))
 all_goals first | (intro h;exact absurd h (by decide)) | (intro _;rw[Z1g,hd];rfl)
open Go
def ZaS(c:Int):Bool:=(decide (97≤c)&&decide (c≤122))||(decide (65≤c)&&decide (c≤90))
def ZlY(c:Int):Bool:=decide (48≤c)&&decide (c≤57)
def Zj7(c:Int):Bool:=ZaS c||(ZlY c||(c==45||c==95))
def ZgM(b:UInt8):Bool:=Zj7 (b.toNat:Int)
def Zar(s:List UInt8):Bool:=decide (1≤s.length)&&(decide (s.length≤20)&&(ZaS ((s.getD 0 0).toNat:Int)&&s.all ZgM))
def Zai:Nat→Nat→List UInt8
 | 0,_=>[]
 | f+1,n=>bif decide (n < 10) then [UInt8.ofNat (48+n)] else Zai f (n / 10)++[UInt8.ofNat (48+n % 10)]
def digits(n:Int):List UInt8:=bif decide (n < 0) then 45::Zai 19 (-n).toNat else Zai 19 n.toNat
theorem ZkA:∀(f n:Nat),(Zai f n).length≤f
 | 0,n=>Q2_ _
 | f+1,n=>by
   unfold Zai
   cases decide (n < 10)<;>simp only[Qb_,Qd_,Qx_,Qs_,Q1_]
   ·have:=ZkA f (n / 10);omega
   ·omega
theorem Z1o:∀(f n:Nat),1≤(Zai (f+1) n).length
 | f,n=>by
   unfold Zai
   cases decide (n < 10)<;>simp only[Qb_,Qd_,Qx_,Qs_,Q1_]<;>omega
theorem ZS(n:Int):1≤(digits n).length∧(digits n).length≤20:=by
 unfold digits
 cases decide (n < 0)<;>simp only[Qb_,Qd_,Qs_]
 ·exact ⟨Z1o 18 _,Nat.le_succ_of_le (ZkA _ _)⟩
 ·exact ⟨by omega,by have:=ZkA 19 (-n).toNat;omega⟩
def Zdf(d:Dec):Int:=max d.c (-d.c)
def headD(d:Dec):Int:=(Zdf d).tdiv (Z1 d.scale)
def Zbx(d:Dec):Int:=(Zdf d).tmod (Z1 d.scale)+Z1 d.scale
def Zwm(d:Dec)(s:List UInt8):List UInt8:=bif decide (d.c < 0) then 45::s else s
def Zrx(d:Dec)(s:List UInt8):List UInt8:=bif decide (d.scale > 0) then s++[46]++(digits (Zbx d)).drop 1 else s
def Zcj(d:Dec):List UInt8:=bif ZM d then (bif decide (headD d > 99999) then [] else Zrx d (Zwm d (digits (headD d)))) else []
def printable(d:Dec):Bool:=ZM d&& !decide (headD d > 99999)
theorem Zry(d:Dec):(!(Zcj d==[]))=printable d:=by
 unfold printable Zcj Zrx Zwm
 cases ZM d<;>simp only[Qb_,Qd_]
 ·rfl
 ·have h1:=ZS (headD d)
  cases decide (headD d > 99999)<;>simp only[Qb_,Qd_]
  ·show (!_)=true
   rw[Qi_,beq_eq_false_iff_ne]
   intro e
   have:=Kk_ List.length e
   revert this
   cases decide (d.c < 0)<;>cases decide (d.scale > 0)<;>simp only[Qb_,Qd_,Qx_,Qs_,Q1_]<;>omega
  ·rfl
theorem ZuN{i:Int}(h:i≤6):Z1 i≤1000000:=ZlT (j:=6) h
theorem Zow{d:Dec}(h:ZM d=true):List.foldl imax d.c [IntKind.i64.wrap (0 - d.c)]=Zdf d∧IntKind.i64.wrap (headD d)=headD d∧IntKind.i64.wrap (Zbx d)=Zbx d∧(0≤headD d∧headD d≤100000000000)∧(1≤Zbx d∧Zbx d≤2000000)∧(1≤Z1 d.scale∧Z1 d.scale≤1000000)∧(0≤d.scale∧d.scale≤6):=by
 obtain ⟨h1,h2⟩:=Zct h
 have p1:=ZaQ d.scale
 have p2:=ZuN (i:=d.scale) h2.2
 have ha:0≤Zdf d∧Zdf d≤100000000000:=by unfold Zdf;omega
 have hq:0≤headD d∧headD d≤100000000000:=by
  unfold headD
  rw[Int.tdiv_eq_ediv_of_nonneg ha.1]
  refine ⟨Int.ediv_nonneg ha.1 (by omega),Int.le_trans (Int.ediv_le_self _ ha.1) ha.2⟩
 have hr:1≤Zbx d∧Zbx d≤2000000:=by
  unfold Zbx
  rw[Int.tmod_eq_emod_of_nonneg ha.1]
  have:=Int.emod_nonneg (Zdf d) (show Z1 d.scale≠0 by omega)
  have:=Int.emod_lt_of_pos (Zdf d) (show 0 < Z1 d.scale by omega)
  omega
 refine ⟨?_,Zf (by constructor<;>omega),Zf (by constructor<;>omega),hq,hr,⟨p1,p2⟩,h2⟩
 rw[X7 (by constructor<;>omega)]
 simp only[List.foldl,ZC]
 rfl
theorem ZgN{d:Dec}(h:ZM d=true):IntKind.i64.wrap (6 - d.scale)=6 - d.scale∧(0≤6 - d.scale∧6 - d.scale≤18)∧IntKind.i64.wrap (d.c *Z1 (6 - d.scale))=d.c *Z1 (6 - d.scale):=by
 obtain ⟨h1,h2⟩:=Zct h
 have p1:=ZaQ (6 - d.scale)
 have p2:=ZuN (i:=6 - d.scale) (by omega)
 refine ⟨Zf (by constructor<;>omega),by omega,Zf ?_⟩
 have a1:d.c *Z1 (6 - d.scale)≤100000000000 *Z1 (6 - d.scale):=Kr_ h1.2 (by omega)
 have a2: -100000000000 *Z1 (6 - d.scale)≤d.c *Z1 (6 - d.scale):=Kr_ h1.1 (by omega)
 constructor<;>omega
def ZpB(d:Dec):Dec:=⟨max d.c (w64 (0 - d.c)),d.scale⟩
def ZdD(a b:Dec):Bool:=ZM a&&(ZM b&&decide (a.c *Z1 (6 - a.scale) < b.c *Z1 (6 - b.scale)))
def Yh:Dec:=⟨0,0⟩
def ZyN:G3:=⟨Yh,Yh,Yh⟩
def ZcK:Glass:=⟨[],ZyN,ZyN⟩
def YH:List Glass→List UInt8→Glass×Bool
 | [],_=>(ZcK,false)
 | g::l,n=>bif g.name==n then (g,true) else YH l n
def Zie:List UInt8:=[97,105,114]
def ZeV(b c:Dec)(l:Iv):Iv:=Zo (Zk (Zh b) l) (sub l (Zh c))
def Zby(g:Glass)(w:Iv):Iv:=bif g.name==Zie then point 65536 else ZQ (add (add (add (point 65536) (ZeV g.b.a g.c.a (sqr w))) (ZeV g.b.b g.c.b (sqr w))) (ZeV g.b.c g.c.c (sqr w)))
def ZlZ(k:Int):Iv:=bif k==0 then Zh ⟨5876,4⟩ else bif k==1 then Zh ⟨4861,4⟩ else bif k==2 then Zh ⟨6563,4⟩ else none'
theorem Zif{f n:Nat}(h:10≤n):Zai (f+1) n=Zai f (n / 10)++[UInt8.ofNat (48+n % 10)]:=by
 conv=>lhs;unfold Zai
 rw[QQ_ (by omega)];rfl
theorem Zee{f n:Nat}(h:n < 10):Zai (f+1) n=[UInt8.ofNat (48+n)]:=by
 unfold Zai
 rw[QH_ h];rfl
theorem ZeW:∀(f n:Nat),n < 10 ^ (f+1)→Zai (f+2) n=Zai (f+1) n
 | 0,n,h=>by rw[Zee (by simpa using h),Zee (by simpa using h)]
 | f+1,n,h=>by
   by_cases hn:n < 10
   ·rw[Zee hn,Zee hn]
   ·have hn':n / 10 < 10 ^ (f+1):=by
     refine Nat.div_lt_of_lt_mul ?_
     rw[Nat.mul_comm,←Nat.pow_succ];exact h
    have e1:=Zif (f:=f+2) (show 10≤n by omega)
    have e2:=Zif (f:=f+1) (show 10≤n by omega)
    rw[ZeW f (n / 10) hn',←e2] at e1
    exact e1
theorem ZtO{n:Int}(h:10≤n)(h2:n≤1000000000000000000):digits n=digits (n / 10)++[UInt8.ofNat (48+(n % 10).toNat)]:=by
 unfold digits
 rw[QQ_ (by omega),QQ_ (by omega)]
 simp only[Qd_]
 rw[Zif (f:=18) (by omega),show (n / 10).toNat=n.toNat / 10 by omega,show (n % 10).toNat=n.toNat % 10 by omega]
 rw[←ZeW 17 (n.toNat / 10) (by omega)]
theorem Zwn{n:Int}(h0:0≤n)(h:n < 10):digits n=[UInt8.ofNat (48+n.toNat)]:=by
 unfold digits
 rw[QQ_ (by omega),Qd_,Zee (by omega)]
theorem Zwo{n:Int}(h:n < 0):digits n=45::digits (-n):=by
 unfold digits
 rw[QH_ h,QQ_ (by omega)];rfl
theorem ZuO{m:Int}(h0:0≤m)(h:m < 10):(bif decide ((0:Int)≤IntKind.u8.wrap (IntKind.i64.wrap (48+m)))&&decide (IntKind.u8.wrap (IntKind.i64.wrap (48+m)) < 256) then some [UInt8.ofNat (IntKind.u8.wrap (IntKind.i64.wrap (48+m))).toNat] else none)=some [UInt8.ofNat (48+m.toNat)]:=by
 have h1:IntKind.i64.wrap (48+m)=48+m:=Zf (by constructor<;>omega)
 have h2:IntKind.u8.wrap (48+m)=48+m:=by
  have:m=0∨m=1∨m=2∨m=3∨m=4∨m=5∨m=6∨m=7∨m=8∨m=9:=by omega
  rcases this with rfl | rfl | rfl | rfl | rfl | rfl | rfl | rfl | rfl | rfl<;>decide
 rw[h1,h2,QH_ (by omega),QH_ (by omega)]
 show some [UInt8.ofNat (48+m).toNat]=_
 rw[show (48+m).toNat=48+m.toNat by omega]
theorem Zig:∀{l:List Glass} {n:List UInt8},(YH l n).2=false→YH l n=(ZcK,false)
 | [],_,_=>rfl
 | g::l,n,h=>by
   revert h
   unfold YH
   cases g.name==n
   ·exact Zig
   ·intro h;exact absurd h (by simp)
def WW(f:Face)(g:List Glass):Bool:=
 printable f.aperture&&(decide (f.aperture.c > 0)&&(printable f.thick&&(!decide (f.thick.c < 0)&&
  (bif f.stop then YF f.radius&&(YF f.conic&&(YF f.a4&&(YF f.a6&&f.glass==[])))
   else printable f.radius&&(printable f.conic&&(printable f.a4&&(printable f.a6&&(Zar f.glass&&(((YH g f.glass).2||f.glass==Zie)&&(f.radius.c==0|| !ZdD (ZpB f.radius) f.aperture))))))))))
def X4(l:List Face):Bool:=l.any fun f=> !f.stop
def Wz(l:LensM)(g:List Glass):Bool:=Zar l.name&&(printable l.back&&(decide (l.back.c > 0)&&(decide (l.faces.length≤12)&&(l.faces.all (WW · g)&&X4 l.faces))))
def W0(x:Surf):Bool:=right x.curve&&(right x.conic&&(right x.a4&&(right x.a6&&(right x.pos&&(right x.open2&&right x.ratio)))))
def JA(s:SysM):Bool:=s.surfs.all W0&&right s.op
def ZuP(f:Face):Iv:=bif f.radius.c !=0 then Zo (point 65536) (Zh f.radius) else point 0
def ZkB(f:Face)(g:List Glass)(w:Iv):Iv:=bif f.glass==Zie then point 65536 else Zby (YH g f.glass).1 w
def Zma(f:Face)(pos ratio:Iv):Surf:=⟨f.stop,!YF f.a4|| !YF f.a6,ZuP f,add (point 65536) (Zh f.conic),Zh f.a4,Zh f.a6,pos,sqr (Zh f.aperture),ratio⟩
def Zj8(f:Face)(g:List Glass)(w ix:Iv):Iv:=bif f.stop then point 65536 else Zo ix (ZkB f g w)
def Zmb(f:Face)(g:List Glass)(w ix:Iv):Iv:=bif f.stop then ix else ZkB f g w
def Wq(g:List Glass)(w:Iv):List Face→Iv→Iv→List Surf
 | [],_,_=>[]
 | f::l,pos,ix=>Zma f pos (Zj8 f g w ix)::Wq g w l (add pos (Zh f.thick)) (Zmb f g w ix)
def Z1p:Face:=⟨false,Yh,Yh,Yh,Yh,Yh,Yh,[]⟩
def Z2B(l:LensM):Face:=l.faces.headD Z1p
def ZuQ:SysM:=⟨[],ZlW⟩
def Zef(l:LensM)(g:List Glass)(w:Iv):SysM:=⟨Wq g w l.faces (Zh l.back) (point 65536),Zh (Z2B l).aperture⟩
def JB(l:LensM)(g:List Glass)(w:Iv):SysM×Int:=bif Wz l g then (bif JA (Zef l g w) then (Zef l g w,0) else (ZuQ,6)) else (ZuQ,1)
def ZuR(f:RawFace):Dec:=bif decide (pick f.r 7 > 0) then (bif pick (w64 (f.r.tdiv 7)) 2==0 then hdec 1 (w64 (-150 - pick f.r 900)) 1 else hdec 1 (w64 (150+pick f.r 900)) 1) else Yh
def Zox(f:RawFace):Dec:=bif pick f.k 6==3 then hdec 1 (w64 (pick (w64 (f.k.tdiv 6)) 30 - 15)) 1 else Yh
def ZyO(f:RawFace):Dec:=bif pick f.k 6==3 then Yh else bif pick f.k 6==4 then hdec 2 (w64 (pick (w64 (f.k.tdiv 6)) 400 - 200)) 2 else bif pick f.k 6==5 then hdec 2 (w64 (pick (w64 (f.k.tdiv 6)) 400 - 200)) 2 else Yh
def ZyP(f:RawFace):Dec:=bif pick f.k 6==3 then Yh else bif pick f.k 6==4 then Yh else bif pick f.k 6==5 then hdec 1 (w64 (pick (w64 (f.k.tdiv 12)) 400 - 200)) 1 else Yh
def Z5J(f:RawFace)(g:List Glass):Int:=pick f.g (w64 (g.length+2))
def Z3B(g:List Glass)(k:Int):Glass:=g.getD k.toNat ZcK
def Zoy(f:RawFace)(g:List Glass):List UInt8:=bif decide (pick f.g (IntKind.i64.wrap ((g.length:Int)+2)) < (g.length:Int)) then (g.getD (pick f.g (IntKind.i64.wrap ((g.length:Int)+2))).toNat ZcK).name else Zie
def Zrz(f:RawFace):Dec:=hdec 1 (w64 (30+pick f.a 70)) 1
def Zr0(f:RawFace):Dec:=hdec 1 (pick f.t 80) 1
def Zck(f:RawFace)(i:Int)(g:List Glass):Face:=bif pick f.kind 6==5&&decide (i > 0) then ⟨true,Yh,Zrz f,Zr0 f,Yh,Yh,Yh,[]⟩ else ⟨false,ZuR f,Zrz f,Zr0 f,Zox f,ZyO f,ZyP f,Zoy f g⟩
def Wd(g:List Glass)(most:Int):List RawFace→Int→List Face→List Face
 | [],_,out=>out
 | f::l,i,out=>bif decide ((out.length:Int) < most) then Wd g most l (i+1) (out++[Zck f i g]) else out
def ZyQ:List UInt8:=[99,114,111,119,110]
def Z42:List UInt8:=[102,108,105,110,116]
def ZyR:Face:=⟨false,⟨40,0⟩,⟨8,0⟩,⟨3,0⟩,Yh,Yh,Yh,ZyQ⟩
def Zih(l:List Face):List Face:=bif l.length==0|| !X4 l then l++[ZyR] else l
def XG(back:Int)(l:List RawFace)(g:List Glass)(most:Int):LensM:=
 ⟨120::digits (pick back 100),hdec 1 (w64 (200+pick back 600)) 1,Zih (Wd g most l 0 [])⟩
def Zmc(f:Face):Face:=⟨f.stop,f.radius,f.aperture,f.thick,f.conic,Yh,Yh,f.glass⟩
def ZfQ(l:LensM):LensM:=⟨l.name,l.back,l.faces.map Zmc⟩
def Zmd(l:List I)(i:Int):Glass:=
 ⟨103::digits i,⟨hdec 5 (pick (l.getD i.toNat ⟨0⟩).n 200000) 5,hdec 5 (pick (w64 ((l.getD i.toNat ⟨0⟩).n.tdiv 7)) 50000) 5,Yh⟩,
   ⟨hdec 5 (pick (w64 ((l.getD i.toNat ⟨0⟩).n.tdiv 11)) 3000) 5,hdec 5 (pick (w64 ((l.getD i.toNat ⟨0⟩).n.tdiv 13)) 9000) 5,hdec 3 (w64 (pick (w64 ((l.getD i.toNat ⟨0⟩).n.tdiv 17)) 200000 - 1000)) 3⟩⟩
def Z43:Glass:=⟨ZyQ,⟨⟨103961,5⟩,⟨23179,5⟩,⟨101047,5⟩⟩,⟨⟨6,3⟩,⟨2002,5⟩,⟨1035607,4⟩⟩⟩
def Z44:Glass:=⟨Z42,⟨⟨17376,4⟩,⟨31375,5⟩,⟨189878,5⟩⟩,⟨⟨1319,5⟩,⟨6231,5⟩,⟨1552363,4⟩⟩⟩
def Zeg:Nat→List I→Int→List Glass
 | 0,_,_=>[]
 | k+1,l,i=>bif decide (i < l.length)&&decide (i < 3) then Zmd l i::Zeg k l (i+1) else []
def Xm(l:List I):List Glass:=[Z43,Z44]++Zeg 3 l 0
def JX(back:Int)(l:List RawFace)(raw:List I)(most:Int)(plain:Bool):SysM:=
 (JB (bif plain then ZfQ (XG back l (Xm raw) most) else XG back l (Xm raw) most) (Xm raw) (ZlZ (pick back 3))).1
def Zj9(a z:Int):Surf:=⟨pick a 2==0,false,point 0,point 65536,point 0,point 0,point z,whole 100,point 65536⟩
def XK:Nat→List I→Int→Int→List Surf
 | 0,_,_,_=>[]
 | k+1,l,i,z=>bif decide (i < l.length)&&decide (i < 4) then Zj9 (l.getD i.toNat ⟨0⟩).n z::XK k l (i+1) (w64 (w64 (z+1)+pick (w64 ((l.getD i.toNat ⟨0⟩).n.tdiv 2)) 327680)) else []
def straight(l:List I):SysM:=⟨XK 4 l 0 655360,whole 8⟩
theorem JC{l:LensM}{g:List Glass}(h:Wz l g=true):(∃f t,l.faces=f::t)∧l.faces.length≤12:=by
 unfold Wz at h
 simp only[Qh_,Qc_] at h
 refine ⟨?_,h.2.2.2.1⟩
 cases hf:l.faces with
 | nil=>rw[hf] at h;exact absurd h.2.2.2.2.2 (by decide)
 | cons f t=>exact ⟨f,t,rfl⟩
theorem Zcu(g:List Glass)(w:Iv):∀(l:List Face) (p q:Iv),(Wq g w l p q).length=l.length
 | [],_,_=>rfl
 | f::l,p,q=>by simp only[Wq,Qs_,Zcu g w l]
theorem Z1q(g:List Glass)(k:Nat):Zbq (((g.map Glass.enc).getD k []).headD .nil)=(g.getD k ZcK).name:=by
 rw[Q7_,Q6_,Q7_]
 cases g[k]?<;>rfl
theorem Zr1:∀(k:Nat) (l:List I) (i:Int),(Zeg k l i).length≤k
 | 0,_,_=>Q2_ _
 | k+1,l,i=>by
   unfold Zeg
   cases decide (i < l.length)&&decide (i < 3)<;>simp only[Qb_,Qd_,Qs_,Q1_]
   ·omega
   ·have:=Zr1 k l (i+1);omega
theorem Zme(l:List I):2≤(Xm l).length∧(Xm l).length≤5:=by
 have:=Zr1 3 l 0
 simp only[Xm,Qx_,Qs_,Q1_];omega
theorem Zdt(g:List Glass)(most:Int):∀(l:List RawFace) (i:Int) (out:List Face),((Wd g most l i out).length:Int)≤max (out.length:Int) most
 | [],_,out=>by simp only[Wd];omega
 | f::l,i,out=>by
   unfold Wd
   by_cases h:(out.length:Int) < most
   ·rw[QH_ h,Qb_]
    have:=Zdt g most l (i+1) (out++[Zck f i g])
    simp only[Qx_,Qs_,Q1_] at this
    omega
   ·rw[QQ_ h,Qd_];omega
theorem Zr2(back:Int)(l:List RawFace)(g:List Glass)(most:Int)(h:0≤most):((XG back l g most).faces.length:Int)≤most+1:=by
 have:=Zdt g most l 0 []
 simp only[Q1_] at this
 unfold XG Zih
 simp only
 cases (Wd g most l 0 []).length==0|| !X4 (Wd g most l 0 [])<;>simp only[Qb_,Qd_,Qx_,Qs_,Q1_]<;>omega
theorem Zoz(k:Nat)(l:List I)(i:Int):Zeg (k+1) l i=bif decide (i < l.length)&&decide (i < 3) then Zmd l i::Zeg k l (i+1) else []:=rfl
theorem ZeX(k:Nat)(l:List I)(i z:Int):XK (k+1) l i z=bif decide (i < l.length)&&decide (i < 4) then Zj9 (l.getD i.toNat ⟨0⟩).n z::XK k l (i+1) (w64 (w64 (z+1)+pick (w64 ((l.getD i.toNat ⟨0⟩).n.tdiv 2)) 327680)) else []:=rfl
theorem Zkd(g:List Glass)(most:Int)(f:RawFace)(l:List RawFace)(i:Int)(out:List Face):Wd g most (f::l) i out=bif decide ((out.length:Int) < most) then Wd g most l (i+1) (out++[Zck f i g]) else out:=rfl
theorem ZjA(x:SysM):SysM.dec (SysM.enc x)=x:=by
 show (⟨Zd Surf.dec (x.surfs.map Surf.enc),x.op⟩:SysM)=x
 rw[Z3]
theorem W4(l:List SysM):Zd SysM.dec (l.map SysM.enc)=l:=W8 _ _ ZjA l
theorem Z45(x:I):I.dec (I.enc x)=x:=rfl
def ZuS:Pixel:=⟨J9,J9,0⟩
def ZaT(s:S3)(l:List Shape)(x y:Iv)(n:Int)(p:Pixel)(z:Cx):Pixel:=Wc (Wc (Wc p (Y5 s.a l x y z n 0) 0) (Y5 s.b l x y z n 1) 1) (Y5 s.c l x y z n 2) 2
def JY(s:S3)(l:List Shape)(x y:Iv)(n:Int)(ds:List Cx)(p:Pixel):Pixel:=ds.foldl (ZaT s l x y n) p
def JZ(pitch i w:Int):Iv:=times (point pitch) (IntKind.i64.wrap (IntKind.i64.wrap (IntKind.i64.wrap (2 *i)+1) - w))
def Xp(s:S3)(l:List Shape)(w h pitch n:Int)(ds:List Cx)(j i:Int):Pixel:=JY s l (JZ pitch i w) (JZ pitch j h) n ds ZuS
def Zeh(f:Int→Pixel):Nat→Int→List Pixel
 | 0,_=>[]
 | k+1,i=>f i::Zeh f k (i+1)
def ZeY(f:Int→Int→Pixel)(w:Int):Nat→Int→List Pixel
 | 0,_=>[]
 | k+1,j=>Zeh (f j) w.toNat 0++ZeY f w k (j+1)
theorem Zr3(f:Int→Pixel):∀(k:Nat) (i:Int),(Zeh f k i).length=k
 | 0,_=>rfl
 | k+1,i=>by simp only[Zeh,Qs_,Zr3 f k]
def Xq(s:SysM):Bool:=(s.surfs.length:Int)==0
def ZaF(s:S3)(l:List Shape)(w h pitch n:Int)(ds:List Cx):Bool:=
 YQ l&&(X8 w h&&(Yw pitch 1 1048576&&(Yw n 1 16&&(!decide ((ds.length:Int) > 16)&&(!(ds.any fun z=> !YO z n)&& !([s.a,s.b,s.c].any Xq))))))
def X0(s:S3)(l:List Shape)(w h pitch n:Int)(ds:List Cx):List Pixel×Int:=
 bif ZaF s l w h pitch n ds then (ZeY (Xp s l w h pitch n ds) w h.toNat 0,0) else ([],1)
structure Bld where
 txt:List UInt8
def unbytes(l:List (List PV)):List UInt8:=l.map fun x=>UInt8.ofNat (intOf (x.headD .nil)).toNat
def Bld.enc(x:Bld):List PV:=[.bld true,.lst (Z4 x.txt)]
def Bld.dec(p:List PV):Bld:=⟨unbytes (Za0 (p.tail.headD .nil))⟩
theorem ZkC(t:List UInt8):unbytes (Z4 t)=t:=by
 unfold unbytes Z4
 rw[List.map_map]
 conv=>rhs;rw[←List.map_id t]
 refine List.map_congr_left fun b _=>?_
 show UInt8.ofNat ((b.toNat:Int)).toNat=b
 simp
theorem Zmf(a b:List UInt8):Z4 a++Z4 b=Z4 (a++b):=by unfold Z4;rw[QR_]
theorem Zmg(a:List UInt8):(Z4 a).length=a.length:=by unfold Z4;rw[Qk_]
theorem ZtP(a:List UInt8):Lens 1 (Z4 a):=fun x hx=>by
 unfold Z4 at hx
 obtain ⟨b,_,rfl⟩:=Ku_.1 hx
 rfl
theorem Zii:∀(a:List UInt8),bytesOf (Z4 a)=some a
 | []=>rfl
 | b::a=>by
   show (bif decide ((0:Int)≤(b.toNat:Int))&&decide ((b.toNat:Int) < 256) then (match bytesOf (Z4 a) with | some l=>some (UInt8.ofNat ((b.toNat:Int)).toNat::l) | none=>none) else none)=some (b::a)
   have h1:(b.toNat:Int) < 256:=by have:=b.toNat_lt;omega
   rw[QH_ (by omega:(0:Int)≤(b.toNat:Int)),QH_ h1,Zii a]
   simp
def Zr4(d:Int):Int:=bif Yw d 1 16 then 2 *d else 0
def WA(p:Pixel)(c:Nat)(tw:Int):Int:=floor (Zf2 p.lo c+Zf2 p.hi c) tw
def Zcv(tw:Int)(p:Pixel):List UInt8:=digits (WA p 0 tw)++[32]++(digits (WA p 1 tw)++[32])++(digits (WA p 2 tw)++[10])
def Zwp(w h:Int):List UInt8:=[80,51,10]++digits w++[32]++digits h++[10,50,53,53,10]
def Zr5(ps:List Pixel)(w h d:Int):List UInt8:=bif X8 w h&&(ps.length:Int)==w *h then Zwp w h++(ps.map (Zcv (Zr4 d))).flatten else []
def ZnF(p:Pixel):Prop:=((0≤p.lo.a∧p.lo.a≤1000000)∧(0≤p.lo.b∧p.lo.b≤1000000)∧(0≤p.lo.c∧p.lo.c≤1000000))∧((0≤p.hi.a∧p.hi.a≤1000000)∧(0≤p.hi.b∧p.hi.b≤1000000)∧(0≤p.hi.c∧p.hi.c≤1000000))
theorem Zij:∀(f n:Nat),digs f n=Zai f n
 | 0,_=>rfl
 | f+1,n=>by
   unfold digs Zai
   rw[Zij f (n / 10)]
   cases hb:Nat.blt n 10 with
   | true=>
     have h:n < 10:=Qm_ hb
     rw[QH_ h]
   | false=>
     have h:¬n < 10:=fun h=>by
      have h2:Nat.blt n 10=true:=QF_ h
      rw[h2] at hb;exact absurd hb (by simp)
     rw[QQ_ h]
theorem ZtQ{n:Int}(h: -1000000000000000000≤n∧n≤1000000000000000000):Zn3 [.v (.int .i64 n)]=some (.str (digits n)):=by
 cases n with
 | ofNat m=>
   have hm:(m:Int)≤1000000000000000000:=h.2
   have hb:Nat.blt m 9223372036854775808=true:=QF_ (by omega)
   show (bif Nat.blt m 9223372036854775808 then some (PV.str (digs 20 m)) else none)=_
   rw[hb,Qb_,Zij,ZeW 18 m (by omega)]
   unfold digits
   rw[QQ_ (show ¬(Int.ofNat m < 0) from fun h=>absurd h (by simp))];rfl
 | negSucc m=>
   have hm: -1000000000000000000≤Int.negSucc m:=h.1
   have hb:Nat.blt m 9223372036854775808=true:=QF_ (by omega)
   show (bif Nat.blt m 9223372036854775808 then some (PV.str (45::digs 20 (m+1))) else none)=_
   rw[hb,Qb_,Zij,ZeW 18 (m+1) (by omega)]
   unfold digits
   rw[QH_ (by omega:Int.negSucc m < 0)];rfl
theorem Z3C(t:List UInt8):(Bld.dec [.bld true,.lst (Z4 t)]).txt=t:=ZkC t
theorem Z1r(t:List UInt8):ZfM (Z4 t)=t:=by unfold ZfM;rw[Zii];rfl
theorem ZdE{p:Pixel}(hb:ZnF p){tw:Int}(h:0≤tw)(c:Nat):0≤WA p c tw∧WA p c tw≤2000000:=by
 obtain ⟨⟨b1,b2,b3⟩,b4,b5,b6⟩:=hb
 have hs:0≤Zf2 p.lo c+Zf2 p.hi c∧Zf2 p.lo c+Zf2 p.hi c≤2000000:=by
  match c with
  | 0=>show 0≤p.lo.a+p.hi.a∧p.lo.a+p.hi.a≤2000000;omega
  | 1=>show 0≤p.lo.b+p.hi.b∧p.lo.b+p.hi.b≤2000000;omega
  | _+2=>show 0≤p.lo.c+p.hi.c∧p.lo.c+p.hi.c≤2000000;omega
 unfold WA floor
 rw[KA_ _ h]
 exact ⟨Int.ediv_nonneg hs.1 h,Int.le_trans (Int.ediv_le_self _ hs.1) hs.2⟩
theorem ZyS(tw:Int)(p:Pixel):(Zcv tw p).length≤63:=by
 have d0:=ZS (WA p 0 tw)
 have d1:=ZS (WA p 1 tw)
 have d2:=ZS (WA p 2 tw)
 simp only[Zcv,Qx_,Qs_,Q1_];omega
theorem Zik{w h:Int}(hs:X8 w h=true):(1≤w∧w≤16)∧(1≤h∧h≤16):=by
 unfold X8 Yw at hs
 simp only[Qh_,Qc_] at hs
 exact hs
theorem Z3D{w h:Int}(hs:X8 w h=true):1≤w *h∧w *h≤256:=by
 obtain ⟨h1,h2⟩:=Zik hs
 have a1:w *h≤16 *h:=Kr_ h1.2 (by omega)
 have a2:1 *h≤w *h:=Kr_ h1.1 (by omega)
 omega
def ZjB(l:List I)(n i:Int):Cx:=Yp (IntKind.i64.wrap (pick (l.getD i.toNat ⟨0⟩).n (IntKind.i64.wrap (2 *n)) - n)) (IntKind.i64.wrap (pick (w64 ((l.getD i.toNat ⟨0⟩).n.tdiv 40)) (IntKind.i64.wrap (2 *n)) - n))
def Wr(n:Int):Nat→List I→Int→List Cx
 | 0,_,_=>[]
 | k+1,l,i=>bif decide (i < l.length)&&decide (i < 5) then ZjB l n i::Wr n k l (i+1) else []
theorem Zbz(n:Int)(k:Nat)(l:List I)(i:Int):Wr n (k+1) l i=bif decide (i < l.length)&&decide (i < 5) then ZjB l n i::Wr n k l (i+1) else []:=rfl
theorem Zke(n:Int):∀(k:Nat) (l:List I) (i:Int),(Wr n k l i).length≤k
 | 0,_,_=>Q2_ _
 | k+1,l,i=>by
   rw[Zbz]
   cases decide (i < l.length)&&decide (i < 5)<;>simp only[Qb_,Qd_,Qs_,Q1_]
   ·omega
   ·have:=Zke n k l (i+1);omega
def Zb0(l:List I)(n:Int):List Cx:=Wr n 5 l 0
def Z1s(back:Int)(l:List RawFace)(most:Int)(plain:Bool)(k:Int):SysM:=JX (IntKind.i64.wrap (IntKind.i64.wrap (IntKind.i64.wrap (back.tdiv 3)*3)+k)) l [] most plain
def WB(back:Int)(l:List RawFace)(most:Int)(plain:Bool):S3:=⟨Z1s back l most plain 0,Z1s back l most plain 1,Z1s back l most plain 2⟩
def Zwq:SysM:=⟨(straight [⟨1⟩]).surfs,whole 4⟩
def open3:S3:=⟨Zwq,Zwq,Zwq⟩
def wallL:List Shape:=[⟨2,⟨0,0⟩,⟨0,0⟩,⟨50,0⟩,⟨0,0⟩,⟨10,20,30⟩⟩]
def ZkD(p:Pixel)(m:Int):Prop:=((0≤p.lo.a∧p.lo.a≤m)∧(0≤p.lo.b∧p.lo.b≤m)∧(0≤p.lo.c∧p.lo.c≤m))∧((0≤p.hi.a∧p.hi.a≤m)∧(0≤p.hi.b∧p.hi.b≤m)∧(0≤p.hi.c∧p.hi.c≤m))
def ZpC(g:A3):Prop:=(0≤g.a∧g.a≤255)∧(0≤g.b∧g.b≤255)∧(0≤g.c∧g.c≤255)
theorem Zil{n:Int}(h:ZX n=true):0≤n∧n≤255:=by
 unfold ZX at h
 simp only[Qh_,Qc_] at h
 exact h
theorem Zwr{s:Shape}(h:ZL s=true):ZpC s.glow:=by
 unfold ZL at h
 simp only[Qh_] at h
 exact ⟨Zil h.1.1,Zil h.1.2.1,Zil h.1.2.2⟩
theorem ZyT{l:List Shape}(h:YQ l=true)(k:Int):ZpC (ZlX l k):=by
 unfold YQ at h
 simp only[Qh_,QK_] at h
 unfold ZlX
 rw[Q7_,Q6_]
 cases hk:l[k.toNat]? with
 | none=>exact ⟨by decide,by decide,by decide⟩
 | some s=>exact Zwr (h.2 s (Qz_ hk))
theorem Z3E{l:List Shape}(h:YQ l=true)(s:SysM)(r:Ray)(c:Nat):(0≤(ZaE s l r c).1∧(ZaE s l r c).1≤255)∧(0≤(ZaE s l r c).2.1∧(ZaE s l r c).2.1≤255):=by
 have hg:=ZyT h (nearest l (trace s r).r).1
 have hA:∀g:A3,ZpC g→0≤Zf2 g c∧Zf2 g c≤255:=fun g hg=>by
  match c with
  | 0=>exact hg.1
  | 1=>exact hg.2.1
  | _+2=>exact hg.2.2
 have hZ:ZpC J9:=⟨by decide,by decide,by decide⟩
 unfold ZaE Xl
 cases (trace s r).kind==2<;>cases (trace s r).kind==3<;>cases (nearest l (trace s r).r).2.2==1<;>cases (nearest l (trace s r).r).2.2==2<;>simp only[Qb_,Qd_]<;>first | exact ⟨hA _ hg,hA _ hg⟩ | exact ⟨hA _ hZ,hA _ hZ⟩ | exact ⟨by decide,by decide⟩
theorem ZkE{l:List Shape}(h:YQ l=true)(s:SysM)(x y:Iv)(z:Cx)(n:Int)(c:Nat):(0≤(Y5 s l x y z n c).1∧(Y5 s l x y z n c).1≤255)∧(0≤(Y5 s l x y z n c).2.1∧(Y5 s l x y z n c).2.1≤255):=by
 unfold Y5
 cases (Wb s x y z n).2<;>simp only[Qb_,Qd_]
 ·exact ⟨by decide,by decide⟩
 ·exact Z3E h _ _ _
theorem Zim{p:Pixel}{m:Int}(hp:ZkD p m)(hm:0≤m∧m≤1000000000){v:Int×Int×Bool}(h1:0≤v.1∧v.1≤255)(h2:0≤v.2.1∧v.2.1≤255)(c:Nat):ZkD (Wc p v c) (m+255):=by
 obtain ⟨⟨b1,b2,b3⟩,b4,b5,b6⟩:=hp
 have hw:∀x y:Int,0≤x∧x≤m→0≤y∧y≤255→0≤IntKind.i64.wrap (x+y)∧IntKind.i64.wrap (x+y)≤m+255:=fun x y hx hy=>by
  rw[Zf (by constructor<;>omega)];omega
 have hk:∀x:Int,0≤x∧x≤m→0≤x∧x≤m+255:=fun x hx=>by omega
 match c with
 | 0=>exact ⟨⟨hw _ _ b1 h1,hk _ b2,hk _ b3⟩,hw _ _ b4 h2,hk _ b5,hk _ b6⟩
 | 1=>exact ⟨⟨hk _ b1,hw _ _ b2 h1,hk _ b3⟩,hk _ b4,hw _ _ b5 h2,hk _ b6⟩
 | _+2=>exact ⟨⟨hk _ b1,hk _ b2,hw _ _ b3 h1⟩,hk _ b4,hk _ b5,hw _ _ b6 h2⟩
theorem Zws{l:List Shape}(hl:YQ l=true){p:Pixel}{m:Int}(hp:ZkD p m)(hm:0≤m∧m≤100000000)(s:S3)(x y:Iv)(n:Int)(z:Cx):ZkD (ZaT s l x y n p z) (m+765):=by
 have d0:=ZkE hl s.a x y z n 0
 have d1:=ZkE hl s.b x y z n 1
 have d2:=ZkE hl s.c x y z n 2
 have:=Zim (Zim (Zim hp (by omega) d0.1 d0.2 0) (by omega) d1.1 d1.2 1) (by omega) d2.1 d2.2 2
 rw[show m+765=m+255+255+255 by omega]
 exact this
theorem Zr6{l:List Shape}(hl:YQ l=true)(s:S3)(x y:Iv)(n:Int):∀(ds:List Cx) {p:Pixel} {m:Int},ZkD p m→0≤m→m+765 *ds.length≤100000000→ZkD (JY s l x y n ds p) (m+765 *ds.length)
 | [],p,m,hp,_,_=>by simpa [JY] using hp
 | z::ds,p,m,hp,h0,hm=>by
   simp only[Qs_] at hm
   have:=Zr6 hl s x y n ds (Zws hl hp (by omega) s x y n z) (by omega) (by omega)
   show ZkD (JY s l x y n ds (ZaT s l x y n p z)) _
   rw[show m+765 * ((z::ds).length:Int)=m+765+765 *ds.length by simp only[Qs_];omega]
   exact this
theorem Zr7{f:Int→Pixel}{q:Pixel→Prop}(h:∀i,q (f i)):∀(k:Nat) (i:Int),∀p∈Zeh f k i,q p
 | 0,_,p,hp=>absurd hp (by simp[Zeh])
 | k+1,i,p,hp=>by
   rcases Q9_.1 hp with e | hp
   ·subst e;exact h i
   ·exact Zr7 h k (i+1) p hp
theorem Zo0{f:Int→Int→Pixel}{q:Pixel→Prop}(h:∀j i,q (f j i))(w:Int):∀(k:Nat) (j:Int),∀p∈ZeY f w k j,q p
 | 0,_,p,hp=>absurd hp (by simp[ZeY])
 | k+1,j,p,hp=>by
   rcases Kv_.1 hp with hp | hp
   ·exact Zr7 (h j) _ _ p hp
   ·exact Zo0 h w k (j+1) p hp
theorem ZyU(s:S3)(l:List Shape)(w h pitch n:Int)(ds:List Cx):∀p∈(X0 s l w h pitch n ds).1,ZnF p:=by
 intro p hp
 unfold X0 at hp
 cases hR:ZaF s l w h pitch n ds with
 | false=>rw[hR] at hp;exact absurd hp (by simp)
 | true=>
   rw[hR] at hp
   unfold ZaF at hR
   simp only[Qh_,Qi_,Qe_] at hR
   obtain ⟨r1,r2,r3,r4,r5,_⟩:=hR
   refine Zo0 (q:=ZnF) (fun j i=>?_) w _ _ p hp
   have:=Zr6 r1 s (JZ pitch i w) (JZ pitch j h) n ds (p:=ZuS) (m:=0) ⟨⟨by decide,by decide,by decide⟩,by decide,by decide,by decide⟩ (by omega) (by omega)
   obtain ⟨⟨b1,b2,b3⟩,b4,b5,b6⟩:=this
   exact ⟨⟨by unfold Xp;omega,by unfold Xp;omega,by unfold Xp;omega⟩,by unfold Xp;omega,by unfold Xp;omega,by unfold Xp;omega⟩
theorem Zwt(l:LensM)(g:List Glass)(w:Iv):(JB l g w).1.surfs.length≤12:=by
 unfold JB
 cases h:Wz l g<;>simp only[Qb_,Qd_]
 ·exact K0_ _
 ·cases JA (Zef l g w)<;>simp only[Qb_,Qd_]
  ·exact K0_ _
  ·unfold Zef
   simp only[Zcu]
   exact (JC h).2
theorem Zcl(back:Int)(l:List RawFace)(raw:List I)(most:Int)(plain:Bool):(JX back l raw most plain).surfs.length≤12:=Zwt _ _ _
theorem Zkf(back:Int)(l:List RawFace)(most:Int)(plain:Bool):(WB back l most plain).a.surfs.length≤12∧(WB back l most plain).b.surfs.length≤12∧(WB back l most plain).c.surfs.length≤12:=⟨Zcl _ _ _ _ _,Zcl _ _ _ _ _,Zcl _ _ _ _ _⟩
theorem Zdu(l:List I)(n:Int):(Zb0 l n).length≤5:=Zke n 5 l 0
def Zin(z:Cx):Cx:=bif ZY z then Yp (ZB z.re) (ZB (Op.negFloat .f64 z.im)) else ⟨0,0⟩
def Zdg(z:Cx):Cx:=Yp (ofC (Zin z)).1.x (IntKind.i64.wrap ((ofC (Zin z)).1.y - 1))
def DrB(z:Cx):Prop:=∃a b,z=Yp a b∧(-8≤a∧a≤7)∧(-8≤b∧b≤7)
end Go.Men
namespace Go.Ev
abbrev U2{T0 T1 R:Type}(f:T0→T1→R)(x:T0×T1):R:=f x.1 x.2
abbrev V2{T0 T1 R:Type}(f:T0→T1→R)(x:T0×T1×Unit):R:=match x with | (a0,a1,_)=>f a0 a1
def cv2{T0 T1:Type}(x:T0×T1×Unit):T0×T1:=(x.1,x.2.1)
abbrev U3{T0 T1 T2 R:Type}(f:T0→T1→T2→R)(x:T0×T1×T2):R:=f x.1 x.2.1 x.2.2
abbrev V3{T0 T1 T2 R:Type}(f:T0→T1→T2→R)(x:T0×T1×T2×Unit):R:=match x with | (a0,a1,a2,_)=>f a0 a1 a2
def cv3{T0 T1 T2:Type}(x:T0×T1×T2×Unit):T0×T1×T2:=(x.1,x.2.1,x.2.2.1)
abbrev U4{T0 T1 T2 T3 R:Type}(f:T0→T1→T2→T3→R)(x:T0×T1×T2×T3):R:=f x.1 x.2.1 x.2.2.1 x.2.2.2
abbrev V4{T0 T1 T2 T3 R:Type}(f:T0→T1→T2→T3→R)(x:T0×T1×T2×T3×Unit):R:=match x with | (a0,a1,a2,a3,_)=>f a0 a1 a2 a3
def cv4{T0 T1 T2 T3:Type}(x:T0×T1×T2×T3×Unit):T0×T1×T2×T3:=(x.1,x.2.1,x.2.2.1,x.2.2.2.1)
abbrev U5{T0 T1 T2 T3 T4 R:Type}(f:T0→T1→T2→T3→T4→R)(x:T0×T1×T2×T3×T4):R:=f x.1 x.2.1 x.2.2.1 x.2.2.2.1 x.2.2.2.2
abbrev V5{T0 T1 T2 T3 T4 R:Type}(f:T0→T1→T2→T3→T4→R)(x:T0×T1×T2×T3×T4×Unit):R:=match x with | (a0,a1,a2,a3,a4,_)=>f a0 a1 a2 a3 a4
def cv5{T0 T1 T2 T3 T4:Type}(x:T0×T1×T2×T3×T4×Unit):T0×T1×T2×T3×T4:=(x.1,x.2.1,x.2.2.1,x.2.2.2.1,x.2.2.2.2.1)
abbrev U6{T0 T1 T2 T3 T4 T5 R:Type}(f:T0→T1→T2→T3→T4→T5→R)(x:T0×T1×T2×T3×T4×T5):R:=f x.1 x.2.1 x.2.2.1 x.2.2.2.1 x.2.2.2.2.1 x.2.2.2.2.2
abbrev V6{T0 T1 T2 T3 T4 T5 R:Type}(f:T0→T1→T2→T3→T4→T5→R)(x:T0×T1×T2×T3×T4×T5×Unit):R:=match x with | (a0,a1,a2,a3,a4,a5,_)=>f a0 a1 a2 a3 a4 a5
def cv6{T0 T1 T2 T3 T4 T5:Type}(x:T0×T1×T2×T3×T4×T5×Unit):T0×T1×T2×T3×T4×T5:=(x.1,x.2.1,x.2.2.1,x.2.2.2.1,x.2.2.2.2.1,x.2.2.2.2.2.1)
abbrev U8{T0 T1 T2 T3 T4 T5 T6 T7 R:Type}(f:T0→T1→T2→T3→T4→T5→T6→T7→R)(x:T0×T1×T2×T3×T4×T5×T6×T7):R:=f x.1 x.2.1 x.2.2.1 x.2.2.2.1 x.2.2.2.2.1 x.2.2.2.2.2.1 x.2.2.2.2.2.2.1 x.2.2.2.2.2.2.2
abbrev V8{T0 T1 T2 T3 T4 T5 T6 T7 R:Type}(f:T0→T1→T2→T3→T4→T5→T6→T7→R)(x:T0×T1×T2×T3×T4×T5×T6×T7×Unit):R:=match x with | (a0,a1,a2,a3,a4,a5,a6,a7,_)=>f a0 a1 a2 a3 a4 a5 a6 a7
def cv8{T0 T1 T2 T3 T4 T5 T6 T7:Type}(x:T0×T1×T2×T3×T4×T5×T6×T7×Unit):T0×T1×T2×T3×T4×T5×T6×T7:=(x.1,x.2.1,x.2.2.1,x.2.2.2.1,x.2.2.2.2.1,x.2.2.2.2.2.1,x.2.2.2.2.2.2.1,x.2.2.2.2.2.2.2.1)
abbrev U9{T0 T1 T2 T3 T4 T5 T6 T7 T8 R:Type}(f:T0→T1→T2→T3→T4→T5→T6→T7→T8→R)(x:T0×T1×T2×T3×T4×T5×T6×T7×T8):R:=f x.1 x.2.1 x.2.2.1 x.2.2.2.1 x.2.2.2.2.1 x.2.2.2.2.2.1 x.2.2.2.2.2.2.1 x.2.2.2.2.2.2.2.1 x.2.2.2.2.2.2.2.2
abbrev V9{T0 T1 T2 T3 T4 T5 T6 T7 T8 R:Type}(f:T0→T1→T2→T3→T4→T5→T6→T7→T8→R)(x:T0×T1×T2×T3×T4×T5×T6×T7×T8×Unit):R:=match x with | (a0,a1,a2,a3,a4,a5,a6,a7,a8,_)=>f a0 a1 a2 a3 a4 a5 a6 a7 a8
def cv9{T0 T1 T2 T3 T4 T5 T6 T7 T8:Type}(x:T0×T1×T2×T3×T4×T5×T6×T7×T8×Unit):T0×T1×T2×T3×T4×T5×T6×T7×T8:=(x.1,x.2.1,x.2.2.1,x.2.2.2.1,x.2.2.2.2.1,x.2.2.2.2.2.1,x.2.2.2.2.2.2.1,x.2.2.2.2.2.2.2.1,x.2.2.2.2.2.2.2.2.1)
abbrev U10{T0 T1 T2 T3 T4 T5 T6 T7 T8 T9 R:Type}(f:T0→T1→T2→T3→T4→T5→T6→T7→T8→T9→R)(x:T0×T1×T2×T3×T4×T5×T6×T7×T8×T9):R:=f x.1 x.2.1 x.2.2.1 x.2.2.2.1 x.2.2.2.2.1 x.2.2.2.2.2.1 x.2.2.2.2.2.2.1 x.2.2.2.2.2.2.2.1 x.2.2.2.2.2.2.2.2.1 x.2.2.2.2.2.2.2.2.2
abbrev V10{T0 T1 T2 T3 T4 T5 T6 T7 T8 T9 R:Type}(f:T0→T1→T2→T3→T4→T5→T6→T7→T8→T9→R)(x:T0×T1×T2×T3×T4×T5×T6×T7×T8×T9×Unit):R:=match x with | (a0,a1,a2,a3,a4,a5,a6,a7,a8,a9,_)=>f a0 a1 a2 a3 a4 a5 a6 a7 a8 a9
def Z64{T0 T1 T2 T3 T4 T5 T6 T7 T8 T9:Type}(x:T0×T1×T2×T3×T4×T5×T6×T7×T8×T9×Unit):T0×T1×T2×T3×T4×T5×T6×T7×T8×T9:=(x.1,x.2.1,x.2.2.1,x.2.2.2.1,x.2.2.2.2.1,x.2.2.2.2.2.1,x.2.2.2.2.2.2.1,x.2.2.2.2.2.2.2.1,x.2.2.2.2.2.2.2.2.1,x.2.2.2.2.2.2.2.2.2.1)
abbrev U13{T0 T1 T2 T3 T4 T5 T6 T7 T8 T9 T10 T11 T12 R:Type}(f:T0→T1→T2→T3→T4→T5→T6→T7→T8→T9→T10→T11→T12→R)(x:T0×T1×T2×T3×T4×T5×T6×T7×T8×T9×T10×T11×T12):R:=f x.1 x.2.1 x.2.2.1 x.2.2.2.1 x.2.2.2.2.1 x.2.2.2.2.2.1 x.2.2.2.2.2.2.1 x.2.2.2.2.2.2.2.1 x.2.2.2.2.2.2.2.2.1 x.2.2.2.2.2.2.2.2.2.1 x.2.2.2.2.2.2.2.2.2.2.1 x.2.2.2.2.2.2.2.2.2.2.2.1 x.2.2.2.2.2.2.2.2.2.2.2.2
abbrev V13{T0 T1 T2 T3 T4 T5 T6 T7 T8 T9 T10 T11 T12 R:Type}(f:T0→T1→T2→T3→T4→T5→T6→T7→T8→T9→T10→T11→T12→R)(x:T0×T1×T2×T3×T4×T5×T6×T7×T8×T9×T10×T11×T12×Unit):R:=match x with | (a0,a1,a2,a3,a4,a5,a6,a7,a8,a9,a10,a11,a12,_)=>f a0 a1 a2 a3 a4 a5 a6 a7 a8 a9 a10 a11 a12
def Z65{T0 T1 T2 T3 T4 T5 T6 T7 T8 T9 T10 T11 T12:Type}(x:T0×T1×T2×T3×T4×T5×T6×T7×T8×T9×T10×T11×T12×Unit):T0×T1×T2×T3×T4×T5×T6×T7×T8×T9×T10×T11×T12:=(x.1,x.2.1,x.2.2.1,x.2.2.2.1,x.2.2.2.2.1,x.2.2.2.2.2.1,x.2.2.2.2.2.2.1,x.2.2.2.2.2.2.2.1,x.2.2.2.2.2.2.2.2.1,x.2.2.2.2.2.2.2.2.2.1,x.2.2.2.2.2.2.2.2.2.2.1,x.2.2.2.2.2.2.2.2.2.2.2.1,x.2.2.2.2.2.2.2.2.2.2.2.2.1)
abbrev U19{T0 T1 T2 T3 T4 T5 T6 T7 T8 T9 T10 T11 T12 T13 T14 T15 T16 T17 T18 R:Type}(f:T0→T1→T2→T3→T4→T5→T6→T7→T8→T9→T10→T11→T12→T13→T14→T15→T16→T17→T18→R)(x:T0×T1×T2×T3×T4×T5×T6×T7×T8×T9×T10×T11×T12×T13×T14×T15×T16×T17×T18):R:=f x.1 x.2.1 x.2.2.1 x.2.2.2.1 x.2.2.2.2.1 x.2.2.2.2.2.1 x.2.2.2.2.2.2.1 x.2.2.2.2.2.2.2.1 x.2.2.2.2.2.2.2.2.1 x.2.2.2.2.2.2.2.2.2.1 x.2.2.2.2.2.2.2.2.2.2.1 x.2.2.2.2.2.2.2.2.2.2.2.1 x.2.2.2.2.2.2.2.2.2.2.2.2.1 x.2.2.2.2.2.2.2.2.2.2.2.2.2.1 x.2.2.2.2.2.2.2.2.2.2.2.2.2.2.1 x.2.2.2.2.2.2.2.2.2.2.2.2.2.2.2.1 x.2.2.2.2.2.2.2.2.2.2.2.2.2.2.2.2.1 x.2.2.2.2.2.2.2.2.2.2.2.2.2.2.2.2.2.1 x.2.2.2.2.2.2.2.2.2.2.2.2.2.2.2.2.2.2
abbrev V19{T0 T1 T2 T3 T4 T5 T6 T7 T8 T9 T10 T11 T12 T13 T14 T15 T16 T17 T18 R:Type}(f:T0→T1→T2→T3→T4→T5→T6→T7→T8→T9→T10→T11→T12→T13→T14→T15→T16→T17→T18→R)(x:T0×T1×T2×T3×T4×T5×T6×T7×T8×T9×T10×T11×T12×T13×T14×T15×T16×T17×T18×Unit):R:=match x with | (a0,a1,a2,a3,a4,a5,a6,a7,a8,a9,a10,a11,a12,a13,a14,a15,a16,a17,a18,_)=>f a0 a1 a2 a3 a4 a5 a6 a7 a8 a9 a10 a11 a12 a13 a14 a15 a16 a17 a18
def Z66{T0 T1 T2 T3 T4 T5 T6 T7 T8 T9 T10 T11 T12 T13 T14 T15 T16 T17 T18:Type}(x:T0×T1×T2×T3×T4×T5×T6×T7×T8×T9×T10×T11×T12×T13×T14×T15×T16×T17×T18×Unit):T0×T1×T2×T3×T4×T5×T6×T7×T8×T9×T10×T11×T12×T13×T14×T15×T16×T17×T18:=(x.1,x.2.1,x.2.2.1,x.2.2.2.1,x.2.2.2.2.1,x.2.2.2.2.2.1,x.2.2.2.2.2.2.1,x.2.2.2.2.2.2.2.1,x.2.2.2.2.2.2.2.2.1,x.2.2.2.2.2.2.2.2.2.1,x.2.2.2.2.2.2.2.2.2.2.1,x.2.2.2.2.2.2.2.2.2.2.2.1,x.2.2.2.2.2.2.2.2.2.2.2.2.1,x.2.2.2.2.2.2.2.2.2.2.2.2.2.1,x.2.2.2.2.2.2.2.2.2.2.2.2.2.2.1,x.2.2.2.2.2.2.2.2.2.2.2.2.2.2.2.1,x.2.2.2.2.2.2.2.2.2.2.2.2.2.2.2.2.1,x.2.2.2.2.2.2.2.2.2.2.2.2.2.2.2.2.2.1,x.2.2.2.2.2.2.2.2.2.2.2.2.2.2.2.2.2.2.1)
end Go.Ev
namespace Go.Men
open Go Go.Ev
structure Cd(α:Type) where
 enc:α→PV
 get:PV→Option (α×List Prop)
 ok:∀v a ps,get v=some (a,ps)→Yj ps→v=enc a
def ZkF(P:Program)(f:Nat)(pre:List PV)(k:List PV→List Prop→Option (PV×List Prop)):Prop:=∀l ps r qs,k l ps=some (r,qs)→Yj qs→Yj ps∧Con P f (pre++l) r
def ZpD(P:Program)(f T:Nat)(pre:List PV)(k:List PV→List Prop→Option (PV×List Prop)):Prop:=∀l ps r qs,k l ps=some (r,qs)→Yj qs→Yj ps∧ZaB P f (pre++l) T r
def EA{α:Type}(c:Cd α)(k:α→List PV→List Prop→Option (PV×List Prop)):List PV→List Prop→Option (PV×List Prop)
 | x::r,ps=>match c.get x with
   | some (a,p)=>k a r (ps++p)
   | none=>none
 | [],_=>none
def EZ(v:PV)(c:List Prop):List PV→List Prop→Option (PV×List Prop)
 | [],ps=>some (v,ps++c)
 | _,_=>none
theorem ZyV{α:Type}{c:Cd α}{k:α→List PV→List Prop→Option (PV×List Prop)}{l:List PV}{ps qs:List Prop}{r:PV}(h:EA c k l ps=some (r,qs)):∃x t a p,l=x::t∧c.get x=some (a,p)∧k a t (ps++p)=some (r,qs):=by
 cases l with
 | nil=>cases h
 | cons x t=>
   cases hg:c.get x with
   | none=>simp only[EA,hg] at h;cases h
   | some y=>simp only[EA,hg] at h;exact ⟨x,t,y.1,y.2,rfl,hg,h⟩
theorem Zg{P:Program}{f:Nat}{α:Type}{c:Cd α}{pre:List PV}{k:α→List PV→List Prop→Option (PV×List Prop)}(h:∀a,ZkF P f (pre++[c.enc a]) (k a)):ZkF P f pre (EA c k):=fun l ps r qs hk hq=>by
 obtain ⟨x,t,a,p,rfl,hg,hk⟩:=ZyV hk
 obtain ⟨h1,h2⟩:=h a _ _ _ _ hk hq
 obtain ⟨h3,h4⟩:=XX h1
 rw[←c.ok _ _ _ hg h4,QB_] at h2
 exact ⟨h3,h2⟩
theorem ZyW{P:Program}{f T:Nat}{α:Type}{c:Cd α}{pre:List PV}{k:α→List PV→List Prop→Option (PV×List Prop)}(h:∀a,ZpD P f T (pre++[c.enc a]) (k a)):ZpD P f T pre (EA c k):=fun l ps r qs hk hq=>by
 obtain ⟨x,t,a,p,rfl,hg,hk⟩:=ZyV hk
 obtain ⟨h1,h2⟩:=h a _ _ _ _ hk hq
 obtain ⟨h3,h4⟩:=XX h1
 rw[←c.ok _ _ _ hg h4,QB_] at h2
 exact ⟨h3,h2⟩
theorem Zio{v r:PV}{c ps qs:List Prop}{l:List PV}(h:EZ v c l ps=some (r,qs))(hq:Yj qs):l=[]∧r=v∧Yj ps∧Yj c:=by
 cases l with
 | nil=>cases h;exact ⟨rfl,rfl,XX hq⟩
 | cons x t=>cases h
theorem EZ0{P:Program}{f:Nat}{pre:List PV}{v:PV}(h:Con P f pre v):ZkF P f pre (EZ v []):=fun l ps r qs hk hq=>by
 obtain ⟨rfl,rfl,h1,_⟩:=Zio hk hq
 exact ⟨h1,by rw[QI_];exact h⟩
theorem EZ1{P:Program}{f:Nat}{pre:List PV}{v:PV}{p:Prop}(h:p→Con P f pre v):ZkF P f pre (EZ v [p]):=fun l ps r qs hk hq=>by
 obtain ⟨rfl,rfl,h1,h2⟩:=Zio hk hq
 exact ⟨h1,by rw[QI_];exact h (h2 _ Qv_)⟩
theorem EZ2{P:Program}{f:Nat}{pre:List PV}{v:PV}{p q:Prop}(h:p→q→Con P f pre v):ZkF P f pre (EZ v [p,q]):=fun l ps r qs hk hq=>by
 obtain ⟨rfl,rfl,h1,h2⟩:=Zio hk hq
 exact ⟨h1,by rw[QI_];exact h (h2 _ (by simp)) (h2 _ (by simp))⟩
theorem EZ3{P:Program}{f:Nat}{pre:List PV}{v:PV}{p q s:Prop}(h:p→q→s→Con P f pre v):ZkF P f pre (EZ v [p,q,s]):=fun l ps r qs hk hq=>by
 obtain ⟨rfl,rfl,h1,h2⟩:=Zio hk hq
 exact ⟨h1,by rw[QI_];exact h (h2 _ (by simp)) (h2 _ (by simp)) (h2 _ (by simp))⟩
theorem Z67{P:Program}{f T:Nat}{pre:List PV}{v:PV}{p:Prop}(h:p→ZaB P f pre T v):ZpD P f T pre (EZ v [p]):=fun l ps r qs hk hq=>by
 obtain ⟨rfl,rfl,h1,h2⟩:=Zio hk hq
 exact ⟨h1,by rw[QI_];exact h (h2 _ Qv_)⟩
theorem Zj{P:Program}{f:Nat}{k:List PV→List Prop→Option (PV×List Prop)}(h:ZkF P f [] k):Zi P f (fun l=>k l []):=fun args r ps hk hp=>(h _ _ _ _ hk hp).2
theorem Z3F{P:Program}{f T:Nat}{k:List PV→List Prop→Option (PV×List Prop)}(h:ZpD P f T [] k):Zwa P f (fun l=>k l []) T:=fun args r ps hk hp=>(h _ _ _ _ hk hp).2
def cI:Cd Int:=⟨fun n=> .v (.int .i64 n),fun v=>match v with | .v (.int .i64 n)=>some (n,[]) | _=>none,fun v a ps h _=>by split at h<;>cases h;rfl⟩
def cU:Cd Int:=⟨fun n=> .v (.int .u8 n),fun v=>match v with | .v (.int .u8 n)=>some (n,[]) | _=>none,fun v a ps h _=>by split at h<;>cases h;rfl⟩
def cB:Cd Bool:=⟨fun n=> .v (.bool n),fun v=>match v with | .v (.bool n)=>some (n,[]) | _=>none,fun v a ps h _=>by split at h<;>cases h;rfl⟩
def cS:Cd (List UInt8):=⟨fun n=> .str n,fun v=>match v with | .str n=>some (n,[]) | _=>none,fun v a ps h _=>by split at h<;>cases h;rfl⟩
def cF:Cd Nat:=⟨fun n=> .v (.float .f64 n),fun v=>match v with | .v (.float .f64 n)=>some (n,[]) | _=>none,fun v a ps h _=>by split at h<;>cases h;rfl⟩
def cX:Cd Cx:=⟨fun z=> .v (.complex .f64 z.re z.im),fun v=>match v with | .v (.complex .f64 a b)=>some (⟨a,b⟩,[]) | _=>none,fun v a ps h _=>by split at h<;>cases h;rfl⟩
def cL{α:Type}(e:α→List PV)(d:List PV→α):Cd (List α):=⟨fun l=> .lst (l.map e),fun v=>match v with | .lst xs=>some (Zd d xs,[xs=(Zd d xs).map e]) | _=>none,fun v a ps h hp=>by
 split at h<;>cases h
 exact Kk_ PV.lst (hp _ Qv_)⟩
def cG{α:Type}(e:α→List PV)(d:List PV→α):Cd α:=⟨fun x=> .agg (e x),fun v=>match v with | .agg xs=>some (d xs,[xs=e (d xs)]) | _=>none,fun v a ps h hp=>by
 split at h<;>cases h
 exact Kk_ PV.agg (hp _ Qv_)⟩
def cP{α:Type}(e:α→List PV)(d:List PV→α):Cd α:=⟨fun x=> .lptr (e x) 0,fun v=>match v with | .lptr xs 0=>some (d xs,[xs=e (d xs)]) | _=>none,fun v a ps h hp=>by
 split at h<;>cases h
 exact Kk_ (PV.lptr · 0) (hp _ Qv_)⟩
def cT{α:Type}(e:α→List PV)(g:List PV→Option α)(ok:∀l a,g l=some a→l=e a):Cd α:=⟨fun x=> .agg (e x),fun v=>match v with | .agg xs=>(match g xs with | some a=>some (a,[]) | none=>none) | _=>none,fun v a ps h _=>by
 split at h
 ·split at h
  ·rename_i xs b hb
   cases h
   exact Kk_ PV.agg (ok _ _ hb)
  ·cases h
 ·cases h⟩
def gIv:List PV→Option Iv | [.v (.int .i64 a),.v (.int .i64 b),.v (.bool c)]=>some ⟨a,b,c⟩ | _=>none
theorem Zb1(l:List PV)(a:Iv)(h:gIv l=some a):l=Iv.enc a:=by unfold gIv at h;split at h<;>cases h;rfl
def cIv:Cd Iv:=cT Iv.enc gIv Zb1
def gV:List PV→Option V | [.v (.int .i64 a),.v (.int .i64 b),.v (.bool c),.v (.int .i64 d),.v (.int .i64 e),.v (.bool f),.v (.int .i64 g),.v (.int .i64 h),.v (.bool i)]=>some ⟨⟨a,b,c⟩,⟨d,e,f⟩,⟨g,h,i⟩⟩ | _=>none
theorem Z5K(l:List PV)(a:V)(h:gV l=some a):l=V.enc a:=by unfold gV at h;split at h<;>cases h;rfl
def cV:Cd V:=cT V.enc gV Z5K
def Zwu:List PV→Option Ray | [.v (.int .i64 a),.v (.int .i64 b),.v (.bool c),.v (.int .i64 d),.v (.int .i64 e),.v (.bool f),.v (.int .i64 g),.v (.int .i64 h),.v (.bool i),.v (.int .i64 j),.v (.int .i64 k),.v (.bool l),.v (.int .i64 m),.v (.int .i64 n),.v (.bool o),.v (.int .i64 p),.v (.int .i64 q),.v (.bool r)]=>some ⟨⟨⟨a,b,c⟩,⟨d,e,f⟩,⟨g,h,i⟩⟩,⟨⟨j,k,l⟩,⟨m,n,o⟩,⟨p,q,r⟩⟩⟩ | _=>none
theorem ZuT(l:List PV)(a:Ray)(h:Zwu l=some a):l=Ray.enc a:=by unfold Zwu at h;split at h<;>cases h;rfl
def ZgO:Cd Ray:=cT Ray.enc Zwu ZuT
def Zr8:List PV→Option Dec | [.v (.int .i64 a),.v (.int .i64 b)]=>some ⟨a,b⟩ | _=>none
theorem ZnG(l:List PV)(a:Dec)(h:Zr8 l=some a):l=Dec.enc a:=by unfold Zr8 at h;split at h<;>cases h;rfl
def Zei:Cd Dec:=cT Dec.enc Zr8 ZnG
def gSh:List PV→Option Shape | [.v (.int .i64 a),.v (.int .i64 b),.v (.int .i64 c),.v (.int .i64 d),.v (.int .i64 e),.v (.int .i64 f),.v (.int .i64 g),.v (.int .i64 h),.v (.int .i64 i),.v (.int .i64 j),.v (.int .i64 k),.v (.int .i64 l)]=>some ⟨a,⟨b,c⟩,⟨d,e⟩,⟨f,g⟩,⟨h,i⟩,⟨j,k,l⟩⟩ | _=>none
theorem Z46(l:List PV)(a:Shape)(h:gSh l=some a):l=Shape.enc a:=by unfold gSh at h;split at h<;>cases h;rfl
def cSh:Cd Shape:=cT Shape.enc gSh Z46
def vI(n:Int):PV:= .v (.int .i64 n)
def vB(b:Bool):PV:= .v (.bool b)
def pI(n:Int):AV:= .p (.v (.int .i64 n))
def eI1(n:Int):List PV:=[.v (.int .i64 n)]
def gI1:List PV→Option Int | [.v (.int .i64 a)]=>some a | _=>none
theorem Zr9(l:List PV)(a:Int)(h:gI1 l=some a):l=eI1 a:=by unfold gI1 at h;split at h<;>cases h;rfl
structure FD(β:Type) where
 t:β→List (Nat×AV)
 b:β→List (Nat×List PV)
 g:List (Nat×AV)→List (Nat×List PV)→Option (β×List Prop)
 ok:∀ts bs x ps,g ts bs=some (x,ps)→Yj ps→ts=t x∧bs=b x
def fZ:FD Unit:=⟨fun _=>[],fun _=>[],fun ts bs=>match ts,bs with | [],[]=>some ((),[]) | _,_=>none,fun ts bs x ps h _=>by split at h<;>cases h;exact ⟨rfl,rfl⟩⟩
theorem fx{β α:Type}{o:Option (β×List Prop)}{p ps:List Prop}{a:α}{x:α×β}(h:(match o with | some (y,q)=>some ((a,y),p++q) | none=>none)=some (x,ps))(hp:Yj ps):x.1=a∧Yj p∧∃q,o=some (x.2,q)∧Yj q:=by
 cases o with
 | none=>cases h
 | some y=>
   cases h
   exact ⟨rfl,(XX hp).1,y.2,rfl,(XX hp).2⟩
def fT{α β:Type}(i:Nat)(c:Cd α)(r:FD β):FD (α×β):=⟨fun y=>(i,.p (c.enc y.1))::r.t y.2,fun y=>r.b y.2,fun ts bs=>match ts with
 | (j,.p v)::ts=>bif Nat.beq j i then (match c.get v with
   | some (a,p)=>(match r.g ts bs with | some (y,q)=>some ((a,y),p++q) | none=>none)
   | none=>none) else none
 | _=>none,fun ts bs x ps h hp=>by
 split at h
 ·rename_i j v ts
  cases hb:Nat.beq j i with
  | false=>rw[hb] at h;cases h
  | true=>
    rw[hb,Qb_] at h
    split at h
    ·rename_i a p hg
     obtain ⟨h1,h2,q,h3,h4⟩:=fx h hp
     obtain ⟨k1,k2⟩:=r.ok _ _ _ _ h3 h4
     rw[c.ok _ _ _ hg h2,h1,k1,k2,Qj_ hb]
     exact ⟨rfl,rfl⟩
    ·cases h
 ·cases h⟩
def fP{β:Type}(i n off:Nat)(r:FD β):FD β:=⟨fun y=>(i,.ptr n off)::r.t y,r.b,fun ts bs=>match ts with
 | (j,.ptr m o)::ts=>bif Nat.beq j i&&(Nat.beq m n&&Nat.beq o off) then r.g ts bs else none
 | _=>none,fun ts bs x ps h hp=>by
 split at h
 ·rename_i j m o ts
  cases hb:(Nat.beq j i&&(Nat.beq m n&&Nat.beq o off)) with
  | false=>rw[hb] at h;cases h
  | true=>
    rw[hb,Qb_] at h
    simp only[Qh_] at hb
    obtain ⟨k1,k2⟩:=r.ok _ _ _ _ h hp
    rw[k1,k2,Qj_ hb.1,Qj_ hb.2.1,Qj_ hb.2.2]
    exact ⟨rfl,rfl⟩
 ·cases h⟩
def fB{α β:Type}(i:Nat)(e:α→List PV)(d:List PV→α)(r:FD β):FD (α×β):=⟨fun y=>r.t y.2,fun y=>(i,e y.1)::r.b y.2,fun ts bs=>match bs with
 | (j,v)::bs=>bif Nat.beq j i then (match r.g ts bs with | some (y,q)=>some ((d v,y),[v=e (d v)]++q) | none=>none) else none
 | _=>none,fun ts bs x ps h hp=>by
 split at h
 ·rename_i j v bs
  cases hb:Nat.beq j i with
  | false=>rw[hb] at h;cases h
  | true=>
    rw[hb,Qb_] at h
    obtain ⟨h1,h2,q,h3,h4⟩:=fx h hp
    obtain ⟨k1,k2⟩:=r.ok _ _ _ _ h3 h4
    have h5:v=e (d v):=h2 _ Qv_
    rw[h1,←h5,k1,k2,Qj_ hb]
    exact ⟨rfl,rfl⟩
 ·cases h⟩
def fb{α β:Type}(i:Nat)(e:α→List PV)(gc:List PV→Option α)(ok:∀l a,gc l=some a→l=e a)(r:FD β):FD (α×β):=⟨fun y=>r.t y.2,fun y=>(i,e y.1)::r.b y.2,fun ts bs=>match bs with
 | (j,v)::bs=>bif Nat.beq j i then (match gc v with
   | some a=>(match r.g ts bs with | some (y,q)=>some ((a,y),[]++q) | none=>none)
   | none=>none) else none
 | _=>none,fun ts bs x ps h hp=>by
 split at h
 ·rename_i j v bs
  cases hb:Nat.beq j i with
  | false=>rw[hb] at h;cases h
  | true=>
    rw[hb,Qb_] at h
    split at h
    ·rename_i a hg
     obtain ⟨h1,h2,q,h3,h4⟩:=fx h hp
     obtain ⟨k1,k2⟩:=r.ok _ _ _ _ h3 h4
     rw[h1,ok _ _ hg,k1,k2,Qj_ hb]
     exact ⟨rfl,rfl⟩
    ·cases h
 ·cases h⟩
def nsB:List Nat→List Nat→Bool
 | [],[]=>true
 | a::r,b::s=>Nat.beq a b&&nsB r s
 | _,_=>false
theorem ZyX:∀{l m:List Nat},nsB l m=true→l=m
 | [],[],_=>rfl
 | a::r,b::s,h=>by
   simp only[nsB,Qh_] at h
   rw[Qj_ h.1,ZyX h.2]
 | [],_::_,h=>by cases h
 | _::_,[],h=>by cases h
def owB:List (Ev.Loc×Nat)→List (Ev.Loc×Nat)→Bool
 | [],[]=>true
 | (a,x)::r,(b,y)::s=>(a.eq b&&Nat.beq x y)&&owB r s
 | _,_=>false
theorem ZyY:∀{l m:List (Ev.Loc×Nat)},owB l m=true→l=m
 | [],[],_=>rfl
 | (a,x)::r,(b,y)::s,h=>by
   simp only[owB,Qh_] at h
   rw[Loc.eq_iff.1 h.1.1,Qj_ h.1.2,ZyY h.2]
 | [],_::_,h=>by cases h
 | _::_,[],h=>by cases h
def LSg{β:Type}(Γ:List (Nat×Ty))(n:Nat)(fd:FD β)(ro:List Nat)(ow:List (Ev.Loc×Nat))(k:KpH)(I:β→Prop)(F:β→(Ex→St→Prop)→Prop):LSum:=fun σ K=>match Zbr Γ k σ with
 | some ⟨n',ts,bs,ro',ow',[]⟩=>bif Nat.beq n' n&&(nsB ro' ro&&owB ow' ow) then (match fd.g ts bs with
   | some (y,ps)=>alls (ps++[I y]) (F y K)
   | none=>False) else False
 | _=>False
theorem lsG{P:Program}{β X:Type}{Γ:List (Nat×Ty)}{b:Code}{n:Nat}{fd:FD β}{ro:List Nat}{ow:List (Ev.Loc×Nat)}{k:KpH}{I:β→Prop}{F:β→(Ex→St→Prop)→Prop}(hΓ:Yb P Γ){H:X→St}{inv:X→Prop}{fin:X→Ex→St→Prop}(h:∀x,inv x→∃e σ',fin x e σ'∧∃m,J7 P m b (H x) e σ')
 (cv:β→X) (hH:∀y,(⟨n,fd.t y,fd.b y,ro,ow,[]⟩:St)=H (cv y)) (hI:∀y,I y→inv (cv y)) (hF:∀y K e s,F y K→fin (cv y) e s→K e s):Yt P b (LSg Γ n fd ro ow k I F):=by
 refine Zch hΓ h k fun σ K hS=>?_
 unfold LSg at hS
 split at hS
 ·rename_i n' ts bs ro' ow' hk
  cases hb:(Nat.beq n' n&&(nsB ro' ro&&owB ow' ow)) with
  | false=>rw[hb] at hS;exact hS.elim
  | true=>
    rw[hb,Qb_] at hS
    simp only[Qh_] at hb
    split at hS
    ·rename_i y ps hg
     obtain ⟨h1,h2⟩:=XW hS
     obtain ⟨h3,h4⟩:=XX h1
     obtain ⟨k1,k2⟩:=fd.ok _ _ _ _ hg h3
     refine ⟨cv y, ?_,hI y (h4 _ Qv_),fun e s=>hF y K e s h2⟩
     rw[hk,←hH,k1,k2,Qj_ hb.1,ZyX hb.2.1,ZyY hb.2.2]
    ·exact hS.elim
 ·exact hS.elim
theorem fE{K:Ex→St→Prop}{a e:Ex}{b s:St}(h:K a b)(f:e=a∧s=b):K e s:=by obtain ⟨rfl,rfl⟩:=f;exact h
theorem fC{c:Bool}{A B p q R:Prop}(h:bif c then A else B)(f:(c=true∧p)∨(c=false∧q))(ha:A→p→R)(hb:B→q→R):R:=by
 rcases f with ⟨rfl,f⟩ | ⟨rfl,f⟩
 ·exact ha h f
 ·exact hb h f
theorem sxT{α:Type}{A:α→Prop}(T:α→Prop)(e:∀Q,A Q=T Q){Q:α}(h:T Q):A Q:=(e Q).mpr h
def Qn(X r:PV):Prop:=nz r=X
theorem ZaG{P:Program}{E:Env}(hE:EnvOk P E){C:ZR}(hC:CSOk P C){CP:Yn}(hP:CSPOk P CP){CI:Yk}(hI:CSIOk P CI){G:Gx}(hG:OwOk P C G){LS:List (Nat×LSum)}{f:Nat}{fn:Func}(hf:lk f E.fns=some fn)(hL:ZF P LS fn){n:Nat}{args:List PV}{X:PV}
 (h:sxF E C CP CI G LS n fn args (Qn X)):Con P f args X:=ZuI hE hC hP hI hG hf hL h
theorem ZyZ{P:Program}{E:Env}(hE:EnvOk P E){C:ZR}(hC:CSOk P C){CP:Yn}(hP:CSPOk P CP){CI:Yk}(hI:CSIOk P CI){G:Gx}(hG:OwOk P C G){LS:List (Nat×LSum)}{f:Nat}{fn:Func}(hf:lk f E.fns=some fn)(hL:ZF P LS fn){n:Nat}{T:Nat}{args:List PV}{X:PV}
 (h:ZvZ E C CP CI G LS n fn T args (Qn X)):ZaB P f args T X:=Z0Y hE hC hP hI hG hf hL h
def kr0:KpH:=⟨⟨[],[],[]⟩,[]⟩
def eIv(x:Iv):List PV:=[vI x.lo,vI x.hi,vB x.no]
def eV(x:V):List PV:=[vI x.x.lo,vI x.x.hi,vB x.x.no,vI x.y.lo,vI x.y.hi,vB x.y.no,vI x.z.lo,vI x.z.hi,vB x.z.no]
def Zcm(x:Ray):List PV:=[vI x.o.x.lo,vI x.o.x.hi,vB x.o.x.no,vI x.o.y.lo,vI x.o.y.hi,vB x.o.y.no,vI x.o.z.lo,vI x.o.z.hi,vB x.o.z.no,vI x.d.x.lo,vI x.d.x.hi,vB x.d.x.no,vI x.d.y.lo,vI x.d.y.hi,vB x.d.y.no,vI x.d.z.lo,vI x.d.z.hi,vB x.d.z.no]
def ZnH(x:Dec):List PV:=[vI x.c,vI x.scale]
def WE(x:Surf):List PV:=[vB x.stop,vB x.bent,vI x.curve.lo,vI x.curve.hi,vB x.curve.no,vI x.conic.lo,vI x.conic.hi,vB x.conic.no,vI x.a4.lo,vI x.a4.hi,vB x.a4.no,vI x.a6.lo,vI x.a6.hi,vB x.a6.no,vI x.pos.lo,vI x.pos.hi,vB x.pos.no,vI x.open2.lo,vI x.open2.hi,vB x.open2.no,vI x.ratio.lo,vI x.ratio.hi,vB x.ratio.no]
def Zip(x:TrRes):List PV:=[vI x.kind,vI x.pos,vI x.r.o.x.lo,vI x.r.o.x.hi,vB x.r.o.x.no,vI x.r.o.y.lo,vI x.r.o.y.hi,vB x.r.o.y.no,vI x.r.o.z.lo,vI x.r.o.z.hi,vB x.r.o.z.no,vI x.r.d.x.lo,vI x.r.d.x.hi,vB x.r.d.x.no,vI x.r.d.y.lo,vI x.r.d.y.hi,vB x.r.d.y.no,vI x.r.d.z.lo,vI x.r.d.z.hi,vB x.r.d.z.no]
def Zej(x:Glass):List PV:=[PV.str x.name,vI x.b.a.c,vI x.b.a.scale,vI x.b.b.c,vI x.b.b.scale,vI x.b.c.c,vI x.b.c.scale,vI x.c.a.c,vI x.c.a.scale,vI x.c.b.c,vI x.c.b.scale,vI x.c.c.c,vI x.c.c.scale]
def Zy(x:LensM):List PV:=[PV.str x.name,vI x.back.c,vI x.back.scale,PV.lst (List.map Face.enc x.faces)]
def ZfR(x:Pixel):List PV:=[vI x.lo.a,vI x.lo.b,vI x.lo.c,vI x.hi.a,vI x.hi.b,vI x.hi.c,vI x.lost]
end Go.Men
namespace Go.Ev
open Go.RowKit
def ZdF(T:TSy)(ops:List Oper):List Oper→Nat→St→Option (St×List Prop)
 | [],_,σ=>some (σ,[])
 | o::r,j,σ=>match ZaM σ ops o with
   | some true=>match T j σ o with
     | some (σ1,ps)=>match ZdF T ops r (j+1) σ1 with
       | some (σ2,qs)=>some (σ2,ps++qs)
       | none=>none
     | none=>none
   | some false=>match o.dst with
     | some d=>ZdF T ops r (j+1) (Zdp σ d)
     | none=>ZdF T ops r (j+1) σ
   | none=>none
def ZfS(T:TSy):Nat→Code→St→Option (Ex×St×List Prop)
 | 0,_,_=>none
 | n+1,c,σ=>match c with
   | .skip=>some (.normal,σ,[])
   | .ret=>some (.ret,σ,[])
   | .region _ ops false=>match ZdF T ops.toList ops.toList 0 σ with
     | some (σ1,ps)=>some (.normal,σ1,ps)
     | none=>none
   | .seq x y=>match ZfS T n x σ with
     | some (.normal,σ1,ps)=>match ZfS T n y σ1 with
       | some (e,σ2,qs)=>some (e,σ2,ps++qs)
       | none=>none
     | r=>r
   | _=>none
theorem Zcw{T:TSy}{T0:Nat→St→Oper→Option St}(hT:TSub T T0){ops:List Oper}:∀{l:List Oper} {j:Nat} {σ σ':St} {ps:List Prop},ZdF T ops l j σ=some (σ',ps)→Yj ps→tails T0 ops l j σ=some σ'
 | [],j,σ,σ',ps,h,_=>by
   cases Qa_ h
   rfl
 | o::r,j,σ,σ',ps,h,hp=>by
   unfold ZdF at h
   unfold tails
   split at h
   ·rename_i hg
    rw[hg]
    split at h
    ·rename_i σ1 p1 h1
     split at h
     ·rename_i σ2 p2 h2
      cases Qa_ h
      obtain ⟨q1,q2⟩:=XX hp
      simp only[hT _ _ _ _ _ h1 q1]
      exact Zcw hT h2 q2
     ·cases h
    ·cases h
   ·rename_i hg
    rw[hg]
    split at h
    ·rename_i d hd
     simp only[hd]
     exact Zcw hT h hp
    ·rename_i hd
     simp only[hd]
     exact Zcw hT h hp
   ·cases h
theorem Zdv{Γ:List (Nat×Ty)}{R0:Nat→St→Oper→Option Res}{T:TSy}{T0:Nat→St→Oper→Option St}(hT:TSub T T0):∀{n:Nat} {c:Code} {σ σ':St} {e:Ex} {ps:List Prop},ZfS T n c σ=some (e,σ',ps)→Yj ps→YB Γ R0 T0 n none c σ=some (e,σ')
 | 0,c,σ,σ',e,ps,h,_=>absurd h (by simp[ZfS])
 | n+1,c,σ,σ',e,ps,h,hp=>by
   unfold ZfS at h
   unfold YB
   split at h
   ·cases Qa_ h;rfl
   ·cases Qa_ h;rfl
   ·rename_i ops
    split at h
    ·rename_i σ1 p1 h1
     cases Qa_ h
     simp only[Zjs,Zcw hT h1 hp]
    ·cases h
   ·rename_i x y
    split at h
    ·rename_i σ1 p1 h1
     split at h
     ·rename_i e2 σ2 p2 h2
      cases Qa_ h
      obtain ⟨q1,q2⟩:=XX hp
      simp only[Zdv (Γ:=Γ) (R0:=R0) hT h1 q1]
      exact Zdv hT h2 q2
     ·cases h
    ·rename_i hne
     have h1:=Zdv (Γ:=Γ) (R0:=R0) hT h hp
     simp only[h1]
     cases e<;>first | rfl | exact (hne _ _ h).elim
   ·cases h
def ciS(E:Env)(C:ZR)(n:Nat):Yk:=fun f σ args=>match lk f E.fns with
 | some fn=>match fn.body with
   | some c=>bif Nat.ble args.length fn.ntmps then
      match ZfS (TSym E C ZdW ZdX) n c (WC fn.ntmps σ args) with
      | some (e,σc,ps)=>match JU E.Γ σc fn.results.toList with
        | some r=>bif Ja e&&Zgr (Zfz fn.ntmps σc.boxes) σ.tmps&&WK σc.boxes then some (Zay r,JV fn.ntmps σ σc,ps) else none
        | none=>none
      | none=>none
     else none
   | none=>none
 | none=>none
theorem Zza{P:Program}{E:Env}(hE:EnvOk P E){C:ZR}(hC:CSOk P C){n:Nat}:CSIOk P (ciS E C n):=by
 intro f σ args r σ' ps h hp
 unfold ciS at h
 split at h
 ·rename_i fn hfn
  obtain ⟨k1,k2⟩:=hE.fns f fn hfn
  split at h
  ·rename_i c hc
   cases hb:Nat.ble args.length fn.ntmps with
   | false=>rw[hb] at h;cases h
   | true=>
     rw[hb] at h
     simp only[Qb_] at h
     split at h
     ·rename_i e σc qs h1
      split at h
      ·rename_i r0 hr
       cases hb2:(Ja e&&Zgr (Zfz fn.ntmps σc.boxes) σ.tmps&&WK σc.boxes) with
       | false=>rw[hb2] at h;cases h
       | true=>
         rw[hb2] at h
         cases Qa_ h
         simp only[Qh_] at hb2
         have hsub:TSub (TSym E C ZdW ZdX) (TT E (CH C) (CHP ZdW) (CHI ZdX)):=ZuF
         have h2:=Zdv (Γ:=E.Γ) (R0:=fun _ _ _=>none) hsub h1 hp
         exact Z4b hE.Γ k2 k1 hc hb ((ZqD hE.Γ hE.mixed (fun _ _ _ _ h=>absurd h (by simp)) (fun j σ o σ' h=>Z20 hE (Zjy hC) (Zy7 ZA) (Zy8 Z7) j σ o σ' h) n).1 c _ _ _ h2).1 hb2.1.1 hr hb2.1.2 hb2.2
      ·cases h
     ·cases h
  ·cases h
 ·cases h
end Go.Ev
namespace Go.Proofs.YtfeldacghdcghaaGreatDoor
open Go.Ev
def Y6:List (Nat×Ty):=[
 (26,⟨1,3,24,[.v (.int .i64 0),.v (.int .i64 0),.v (.bool false)],[(0,3),(1,3),(2,4)],0,0⟩),
 (3,⟨0,1,8,[.v (.int .i64 0)],[],0,0⟩),
 (121,⟨1,9,72,[.v (.int .i64 0),.v (.int .i64 0),.v (.bool false),.v (.int .i64 0),.v (.int .i64 0),.v (.bool false),.v (.int .i64 0),.v (.int .i64 0),.v (.bool false)],[(0,26),(3,26),(6,26)],0,0⟩),
 (56,⟨1,2,16,[.v (.int .i64 0),.v (.int .i64 0)],[(0,3),(1,3)],0,0⟩),
 (123,⟨1,18,144,[.v (.int .i64 0),.v (.int .i64 0),.v (.bool false),.v (.int .i64 0),.v (.int .i64 0),.v (.bool false),.v (.int .i64 0),.v (.int .i64 0),.v (.bool false),.v (.int .i64 0),.v (.int .i64 0),.v (.bool false),.v (.int .i64 0),.v (.int .i64 0),.v (.bool false),.v (.int .i64 0),.v (.int .i64 0),.v (.bool false)],[(0,121),(9,121)],0,0⟩),
 (151,⟨1,23,176,[.v (.bool false),.v (.bool false),.v (.int .i64 0),.v (.int .i64 0),.v (.bool false),.v (.int .i64 0),.v (.int .i64 0),.v (.bool false),.v (.int .i64 0),.v (.int .i64 0),.v (.bool false),.v (.int .i64 0),.v (.int .i64 0),.v (.bool false),.v (.int .i64 0),.v (.int .i64 0),.v (.bool false),.v (.int .i64 0),.v (.int .i64 0),.v (.bool false),.v (.int .i64 0),.v (.int .i64 0),.v (.bool false)],[(0,4),(1,4),(2,26),(5,26),(8,26),(11,26),(14,26),(17,26),(20,26)],0,0⟩),
 (28,⟨1,4,48,[.nil,.v (.int .i64 0),.v (.int .i64 0),.v (.bool false)],[(0,24),(1,26)],0,0⟩),
 (42,⟨2,3,24,[.v (.int .i64 0),.v (.int .i64 0),.v (.int .i64 0)],[],3,3⟩),
 (144,⟨1,14,120,[.v (.bool false),.v (.int .i64 0),.v (.int .i64 0),.v (.int .i64 0),.v (.int .i64 0),.v (.int .i64 0),.v (.int .i64 0),.v (.int .i64 0),.v (.int .i64 0),.v (.int .i64 0),.v (.int .i64 0),.v (.int .i64 0),.v (.int .i64 0),.str []],[(0,4),(1,56),(3,56),(5,56),(7,56),(9,56),(11,56),(13,9)],0,0⟩),
 (58,⟨1,12,96,[.v (.int .i64 0),.v (.int .i64 0),.v (.int .i64 0),.v (.int .i64 0),.v (.int .i64 0),.v (.int .i64 0),.v (.int .i64 0),.v (.int .i64 0),.v (.int .i64 0),.v (.int .i64 0),.v (.int .i64 0),.v (.int .i64 0)],[(0,3),(1,56),(3,56),(5,56),(7,56),(9,42)],0,0⟩),
 (24,⟨3,1,24,[.nil],[],151,0⟩),
 (44,⟨1,7,56,[.v (.int .i64 0),.v (.int .i64 0),.v (.int .i64 0),.v (.int .i64 0),.v (.int .i64 0),.v (.int .i64 0),.v (.int .i64 0)],[(0,42),(3,42),(6,3)],0,0⟩),
 (37,⟨3,1,24,[.nil],[],44,0⟩),
 (103,⟨3,1,24,[.nil],[],144,0⟩),
 (105,⟨1,4,56,[.str [],.v (.int .i64 0),.v (.int .i64 0),.nil],[(0,9),(1,56),(3,103)],0,0⟩),
 (172,⟨3,1,24,[.nil],[],26,0⟩),
 (29,⟨2,12,144,[.nil,.v (.int .i64 0),.v (.int .i64 0),.v (.bool false),.nil,.v (.int .i64 0),.v (.int .i64 0),.v (.bool false),.nil,.v (.int .i64 0),.v (.int .i64 0),.v (.bool false)],[],28,3⟩),
 (50,⟨1,2,16,[.v (.int .i64 0),.v (.int .i64 0)],[(0,3),(1,3)],0,0⟩),
 (23,⟨3,1,24,[.nil],[],3,0⟩),
 (9,⟨4,1,16,[.str []],[],0,0⟩),
 (60,⟨0,1,8,[.v (Go.Value.float (Go.FloatKind.f64) 0)],[],0,0⟩),
 (4,⟨0,1,1,[.v (.bool false)],[],0,0⟩),
 (33,⟨3,1,24,[.nil],[],41,0⟩),
 (35,⟨3,1,24,[.nil],[],58,0⟩),
 (140,⟨1,13,112,[.str [],.v (.int .i64 0),.v (.int .i64 0),.v (.int .i64 0),.v (.int .i64 0),.v (.int .i64 0),.v (.int .i64 0),.v (.int .i64 0),.v (.int .i64 0),.v (.int .i64 0),.v (.int .i64 0),.v (.int .i64 0),.v (.int .i64 0)],[(0,9),(1,138),(7,138)],0,0⟩),
 (41,⟨0,1,16,[.v (Go.Value.complex (Go.FloatKind.f64) 0 0)],[],0,0⟩),
 (142,⟨1,6,48,[.v (.int .i64 0),.v (.int .i64 0),.v (.int .i64 0),.v (.int .i64 0),.v (.int .i64 0),.v (.int .i64 0)],[(0,3),(1,3),(2,3),(3,3),(4,3),(5,3)],0,0⟩),
 (98,⟨1,7,56,[.v (.int .i64 0),.v (.int .i64 0),.v (.int .i64 0),.v (.int .i64 0),.v (.int .i64 0),.v (.int .i64 0),.v (.int .i64 0)],[(0,42),(3,42),(6,3)],0,0⟩),
 (219,⟨1,43,352,[.nil,.v (.bool false),.v (.bool false),.v (.bool false),.v (.int .i64 0),.v (.int .i64 0),.v (.bool false),.v (.int .i64 0),.v (.int .i64 0),.v (.bool false),.v (.int .i64 0),.v (.int .i64 0),.v (.bool false),.v (.int .i64 0),.v (.int .i64 0),.v (.bool false),.v (.int .i64 0),.v (.int .i64 0),.v (.bool false),.v (.int .i64 0),.v (.int .i64 0),.v (.bool false),.v (.int .i64 0),.v (.int .i64 0),.v (.bool false),.v (.int .i64 0),.v (.int .i64 0),.v (.bool false),.v (.int .i64 0),.v (.int .i64 0),.v (.bool false),.v (.int .i64 0),.v (.int .i64 0),.v (.bool false),.v (.int .i64 0),.v (.int .i64 0),.v (.bool false),.v (.int .i64 0),.v (.int .i64 0),.v (.bool false),.v (.int .i64 0),.v (.int .i64 0),.v (.bool false)],[(0,172),(1,4),(2,151),(25,123)],0,0⟩),
 (61,⟨3,1,24,[.nil],[],98,0⟩),
 (163,⟨1,20,160,[.v (.int .i64 0),.v (.int .i64 0),.v (.int .i64 0),.v (.int .i64 0),.v (.bool false),.v (.int .i64 0),.v (.int .i64 0),.v (.bool false),.v (.int .i64 0),.v (.int .i64 0),.v (.bool false),.v (.int .i64 0),.v (.int .i64 0),.v (.bool false),.v (.int .i64 0),.v (.int .i64 0),.v (.bool false),.v (.int .i64 0),.v (.int .i64 0),.v (.bool false)],[(0,3),(1,3),(2,123)],0,0⟩),
 (101,⟨3,1,24,[.nil],[],140,0⟩),
 (133,⟨1,20,160,[.v (.int .i64 0),.v (.int .i64 0),.v (.int .i64 0),.v (.int .i64 0),.v (.bool false),.v (.int .i64 0),.v (.int .i64 0),.v (.bool false),.v (.int .i64 0),.v (.int .i64 0),.v (.bool false),.v (.int .i64 0),.v (.int .i64 0),.v (.bool false),.v (.int .i64 0),.v (.int .i64 0),.v (.bool false),.v (.int .i64 0),.v (.int .i64 0),.v (.bool false)],[(0,3),(1,3),(2,123)],0,0⟩),
 (138,⟨2,6,48,[.v (.int .i64 0),.v (.int .i64 0),.v (.int .i64 0),.v (.int .i64 0),.v (.int .i64 0),.v (.int .i64 0)],[],56,3⟩),
 (85,⟨3,1,24,[.nil],[],5,0⟩),
 (97,⟨3,1,24,[.nil],[],50,0⟩),
 (226,⟨2,2,16,[.v (.int .i64 0),.v (.int .i64 0)],[],3,2⟩),
 (87,⟨1,2,32,[.v (Go.Value.pointer none),.nil],[(0,84),(1,85)],0,0⟩),
 (92,⟨3,1,24,[.nil],[],9,0⟩),
 (22,⟨3,1,24,[.nil],[],142,0⟩),
 (76,⟨3,1,24,[.nil],[],28,0⟩),
 (5,⟨0,1,1,[.v (.int .u8 0)],[],0,0⟩),
 (213,⟨0,1,8,[.v (.int .u64 0)],[],0,0⟩),
 (21,⟨0,1,4,[.v (.int .i32 0)],[],0,0⟩),
 (84,⟨0,1,8,[.v (Go.Value.pointer none)],[],0,0⟩)]
theorem Z1t:Yb Tryz.prog Y6:=
 Zq (by kernel_rfl)<|
 Zq (by kernel_rfl)<|
 Zq (by kernel_rfl)<|
 Zq (by kernel_rfl)<|
 Zq (by kernel_rfl)<|
 Zq (by kernel_rfl)<|
 Zq (by kernel_rfl)<|
 Zq (by kernel_rfl)<|
 Zq (by kernel_rfl)<|
 Zq (by kernel_rfl)<|
 Zq (by kernel_rfl)<|
 Zq (by kernel_rfl)<|
 Zq (by kernel_rfl)<|
 Zq (by kernel_rfl)<|
 Zq (by kernel_rfl)<|
 Zq (by kernel_rfl)<|
 Zq (by kernel_rfl)<|
 Zq (by kernel_rfl)<|
 Zq (by kernel_rfl)<|
 Zq (by kernel_rfl)<|
 Zq (by kernel_rfl)<|
 Zq (by kernel_rfl)<|
 Zq (by kernel_rfl)<|
 Zq (by kernel_rfl)<|
 Zq (by kernel_rfl)<|
 Zq (by kernel_rfl)<|
 Zq (by kernel_rfl)<|
 Zq (by kernel_rfl)<|
 Zq (by kernel_rfl)<|
 Zq (by kernel_rfl)<|
 Zq (by kernel_rfl)<|
 Zq (by kernel_rfl)<|
 Zq (by kernel_rfl)<|
 Zq (by kernel_rfl)<|
 Zq (by kernel_rfl)<|
 Zq (by kernel_rfl)<|
 Zq (by kernel_rfl)<|
 Zq (by kernel_rfl)<|
 Zq (by kernel_rfl)<|
 Zq (by kernel_rfl)<|
 Zq (by kernel_rfl)<|
 Zq (by kernel_rfl)<|
 Zq (by kernel_rfl)<|
 Zq (by kernel_rfl)<|
 Zq (by kernel_rfl)<|
 Z0D
noncomputable def Z2C:List (Nat×Func):=[(3,Tryz.f3),(4,Tryz.f4),(5,Tryz.f5),(6,Tryz.f6),(7,Tryz.f7),(8,Tryz.f8),(9,Tryz.f9),(10,Tryz.f10),(11,Tryz.f11),(12,Tryz.f12),(13,Tryz.f13),(14,Tryz.f14),(16,Tryz.f16),(15,Tryz.f15),(17,Tryz.f17),(18,Tryz.f18),(19,Tryz.f19),(20,Tryz.f20),(21,Tryz.f21),(22,Tryz.f22),(23,Tryz.f23),(24,Tryz.f24),(25,Tryz.f25),(27,Tryz.f27),(26,Tryz.f26),(29,Tryz.f29),(30,Tryz.f30),(31,Tryz.f31),(32,Tryz.f32),(33,Tryz.f33),(35,Tryz.f35),(34,Tryz.f34),(36,Tryz.f36),(37,Tryz.f37),(39,Tryz.f39),(41,Tryz.f41),(43,Tryz.f43),(42,Tryz.f42),(44,Tryz.f44),(46,Tryz.f46),(45,Tryz.f45),(47,Tryz.f47),(48,Tryz.f48),(49,Tryz.f49),(50,Tryz.f50),(51,Tryz.f51),(52,Tryz.f52),(54,Tryz.f54),(53,Tryz.f53),(55,Tryz.f55),(56,Tryz.f56),(28,Tryz.f28),(57,Tryz.f57),(58,Tryz.f58),(59,Tryz.f59),(60,Tryz.f60),(65,Tryz.f65),(62,Tryz.f62),(63,Tryz.f63),(64,Tryz.f64),(66,Tryz.f66),(67,Tryz.f67),(70,Tryz.f70),(71,Tryz.f71),(75,Tryz.f75),(72,Tryz.f72),(73,Tryz.f73),(74,Tryz.f74),(76,Tryz.f76),(77,Tryz.f77),(78,Tryz.f78),(79,Tryz.f79),(81,Tryz.f81),(80,Tryz.f80),(82,Tryz.f82),(83,Tryz.f83),(84,Tryz.f84),(85,Tryz.f85),(86,Tryz.f86),(87,Tryz.f87),(88,Tryz.f88),(89,Tryz.f89),(90,Tryz.f90),(61,Tryz.f61),(95,Tryz.f95),(96,Tryz.f96),(97,Tryz.f97),(99,Tryz.f99),(98,Tryz.f98),(100,Tryz.f100),(101,Tryz.f101),(102,Tryz.f102),(105,Tryz.f105),(108,Tryz.f108),(107,Tryz.f107),(106,Tryz.f106),(109,Tryz.f109),(110,Tryz.f110),(111,Tryz.f111),(112,Tryz.f112),(117,Tryz.f117),(118,Tryz.f118),(113,Tryz.f113),(114,Tryz.f114),(115,Tryz.f115),(116,Tryz.f116),(119,Tryz.f119),(120,Tryz.f120),(121,Tryz.f121),(122,Tryz.f122),(91,Tryz.f91),(92,Tryz.f92),(93,Tryz.f93),(94,Tryz.f94),(125,Tryz.f125),(124,Tryz.f124),(129,Tryz.f129),(128,Tryz.f128),(127,Tryz.f127),(126,Tryz.f126),(130,Tryz.f130),(131,Tryz.f131),(137,Tryz.f137),(139,Tryz.f139),(138,Tryz.f138),(140,Tryz.f140),(141,Tryz.f141),(142,Tryz.f142),(144,Tryz.f144),(143,Tryz.f143),(145,Tryz.f145),(146,Tryz.f146),(148,Tryz.f148),(147,Tryz.f147),(149,Tryz.f149),(150,Tryz.f150),(151,Tryz.f151),(153,Tryz.f153),(152,Tryz.f152),(154,Tryz.f154),(155,Tryz.f155),(156,Tryz.f156),(123,Tryz.f123),(157,Tryz.f157),(158,Tryz.f158),(159,Tryz.f159),(160,Tryz.f160),(162,Tryz.f162),(161,Tryz.f161),(163,Tryz.f163),(164,Tryz.f164),(166,Tryz.f166),(165,Tryz.f165),(167,Tryz.f167),(168,Tryz.f168),(174,Tryz.f174),(175,Tryz.f175),(178,Tryz.f178),(179,Tryz.f179),(180,Tryz.f180),(183,Tryz.f183),(184,Tryz.f184),(182,Tryz.f182),(181,Tryz.f181),(185,Tryz.f185),(186,Tryz.f186),(187,Tryz.f187),(188,Tryz.f188),(189,Tryz.f189),(190,Tryz.f190),(191,Tryz.f191),(192,Tryz.f192),(195,Tryz.f195),(198,Tryz.f198),(193,Tryz.f193),(194,Tryz.f194),(197,Tryz.f197),(196,Tryz.f196),(200,Tryz.f200),(199,Tryz.f199),(201,Tryz.f201),(204,Tryz.f204),(205,Tryz.f205),(206,Tryz.f206),(207,Tryz.f207),(208,Tryz.f208),(209,Tryz.f209),(210,Tryz.f210),(211,Tryz.f211),(212,Tryz.f212),(213,Tryz.f213),(214,Tryz.f214),(215,Tryz.f215),(216,Tryz.f216),(217,Tryz.f217),(218,Tryz.f218),(219,Tryz.f219),(220,Tryz.f220),(221,Tryz.f221),(222,Tryz.f222),(223,Tryz.f223)]
theorem Z1u:Zp2 Tryz.prog Z2C:=
 Zc Tryz.func3 Tryz.call3<|
 Zc Tryz.func4 Tryz.call4<|
 Zc Tryz.func5 Tryz.call5<|
 Zc Tryz.func6 Tryz.call6<|
 Zc Tryz.func7 Tryz.call7<|
 Zc Tryz.func8 Tryz.call8<|
 Zc Tryz.func9 Tryz.call9<|
 Zc Tryz.func10 Tryz.call10<|
 Zc Tryz.func11 Tryz.call11<|
 Zc Tryz.func12 Tryz.call12<|
 Zc Tryz.func13 Tryz.call13<|
 Zc Tryz.func14 Tryz.call14<|
 Zc Tryz.func16 Tryz.call16<|
 Zc Tryz.func15 Tryz.call15<|
 Zc Tryz.func17 Tryz.call17<|
 Zc Tryz.func18 Tryz.call18<|
 Zc Tryz.func19 Tryz.call19<|
 Zc Tryz.func20 Tryz.call20<|
 Zc Tryz.func21 Tryz.call21<|
 Zc Tryz.func22 Tryz.call22<|
 Zc Tryz.func23 Tryz.call23<|
 Zc Tryz.func24 Tryz.call24<|
 Zc Tryz.func25 Tryz.call25<|
 Zc Tryz.func27 Tryz.call27<|
 Zc Tryz.func26 Tryz.call26<|
 Zc Tryz.func29 Tryz.call29<|
 Zc Tryz.func30 Tryz.call30<|
 Zc Tryz.func31 Tryz.call31<|
 Zc Tryz.func32 Tryz.call32<|
 Zc Tryz.func33 Tryz.call33<|
 Zc Tryz.func35 Tryz.call35<|
 Zc Tryz.func34 Tryz.call34<|
 Zc Tryz.func36 Tryz.call36<|
 Zc Tryz.func37 Tryz.call37<|
 Zc Tryz.func39 Tryz.call39<|
 Zc Tryz.func41 Tryz.call41<|
 Zc Tryz.func43 Tryz.call43<|
 Zc Tryz.func42 Tryz.call42<|
 Zc Tryz.func44 Tryz.call44<|
 Zc Tryz.func46 Tryz.call46<|
 Zc Tryz.func45 Tryz.call45<|
 Zc Tryz.func47 Tryz.call47<|
 Zc Tryz.func48 Tryz.call48<|
 Zc Tryz.func49 Tryz.call49<|
 Zc Tryz.func50 Tryz.call50<|
 Zc Tryz.func51 Tryz.call51<|
 Zc Tryz.func52 Tryz.call52<|
 Zc Tryz.func54 Tryz.call54<|
 Zc Tryz.func53 Tryz.call53<|
 Zc Tryz.func55 Tryz.call55<|
 Zc Tryz.func56 Tryz.call56<|
 Zc Tryz.func28 Tryz.call28<|
 Zc Tryz.func57 Tryz.call57<|
 Zc Tryz.func58 Tryz.call58<|
 Zc Tryz.func59 Tryz.call59<|
 Zc Tryz.func60 Tryz.call60<|
 Zc Tryz.func65 Tryz.call65<|
 Zc Tryz.func62 Tryz.call62<|
 Zc Tryz.func63 Tryz.call63<|
 Zc Tryz.func64 Tryz.call64<|
 Zc Tryz.func66 Tryz.call66<|
 Zc Tryz.func67 Tryz.call67<|
 Zc Tryz.func70 Tryz.call70<|
 Zc Tryz.func71 Tryz.call71<|
 Zc Tryz.func75 Tryz.call75<|
 Zc Tryz.func72 Tryz.call72<|
 Zc Tryz.func73 Tryz.call73<|
 Zc Tryz.func74 Tryz.call74<|
 Zc Tryz.func76 Tryz.call76<|
 Zc Tryz.func77 Tryz.call77<|
 Zc Tryz.func78 Tryz.call78<|
 Zc Tryz.func79 Tryz.call79<|
 Zc Tryz.func81 Tryz.call81<|
 Zc Tryz.func80 Tryz.call80<|
 Zc Tryz.func82 Tryz.call82<|
 Zc Tryz.func83 Tryz.call83<|
 Zc Tryz.func84 Tryz.call84<|
 Zc Tryz.func85 Tryz.call85<|
 Zc Tryz.func86 Tryz.call86<|
 Zc Tryz.func87 Tryz.call87<|
 Zc Tryz.func88 Tryz.call88<|
 Zc Tryz.func89 Tryz.call89<|
 Zc Tryz.func90 Tryz.call90<|
 Zc Tryz.func61 Tryz.call61<|
 Zc Tryz.func95 Tryz.call95<|
 Zc Tryz.func96 Tryz.call96<|
 Zc Tryz.func97 Tryz.call97<|
 Zc Tryz.func99 Tryz.call99<|
 Zc Tryz.func98 Tryz.call98<|
 Zc Tryz.func100 Tryz.call100<|
 Zc Tryz.func101 Tryz.call101<|
 Zc Tryz.func102 Tryz.call102<|
 Zc Tryz.func105 Tryz.call105<|
 Zc Tryz.func108 Tryz.call108<|
 Zc Tryz.func107 Tryz.call107<|
 Zc Tryz.func106 Tryz.call106<|
 Zc Tryz.func109 Tryz.call109<|
 Zc Tryz.func110 Tryz.call110<|
 Zc Tryz.func111 Tryz.call111<|
 Zc Tryz.func112 Tryz.call112<|
 Zc Tryz.func117 Tryz.call117<|
 Zc Tryz.func118 Tryz.call118<|
 Zc Tryz.func113 Tryz.call113<|
 Zc Tryz.func114 Tryz.call114<|
 Zc Tryz.func115 Tryz.call115<|
 Zc Tryz.func116 Tryz.call116<|
 Zc Tryz.func119 Tryz.call119<|
 Zc Tryz.func120 Tryz.call120<|
 Zc Tryz.func121 Tryz.call121<|
 Zc Tryz.func122 Tryz.call122<|
 Zc Tryz.func91 Tryz.call91<|
 Zc Tryz.func92 Tryz.call92<|
 Zc Tryz.func93 Tryz.call93<|
 Zc Tryz.func94 Tryz.call94<|
 Zc Tryz.func125 Tryz.call125<|
 Zc Tryz.func124 Tryz.call124<|
 Zc Tryz.func129 Tryz.call129<|
 Zc Tryz.func128 Tryz.call128<|
 Zc Tryz.func127 Tryz.call127<|
 Zc Tryz.func126 Tryz.call126<|
 Zc Tryz.func130 Tryz.call130<|
 Zc Tryz.func131 Tryz.call131<|
 Zc Tryz.func137 Tryz.call137<|
 Zc Tryz.func139 Tryz.call139<|
 Zc Tryz.func138 Tryz.call138<|
 Zc Tryz.func140 Tryz.call140<|
 Zc Tryz.func141 Tryz.call141<|
 Zc Tryz.func142 Tryz.call142<|
 Zc Tryz.func144 Tryz.call144<|
 Zc Tryz.func143 Tryz.call143<|
 Zc Tryz.func145 Tryz.call145<|
 Zc Tryz.func146 Tryz.call146<|
 Zc Tryz.func148 Tryz.call148<|
 Zc Tryz.func147 Tryz.call147<|
 Zc Tryz.func149 Tryz.call149<|
 Zc Tryz.func150 Tryz.call150<|
 Zc Tryz.func151 Tryz.call151<|
 Zc Tryz.func153 Tryz.call153<|
 Zc Tryz.func152 Tryz.call152<|
 Zc Tryz.func154 Tryz.call154<|
 Zc Tryz.func155 Tryz.call155<|
 Zc Tryz.func156 Tryz.call156<|
 Zc Tryz.func123 Tryz.call123<|
 Zc Tryz.func157 Tryz.call157<|
 Zc Tryz.func158 Tryz.call158<|
 Zc Tryz.func159 Tryz.call159<|
 Zc Tryz.func160 Tryz.call160<|
 Zc Tryz.func162 Tryz.call162<|
 Zc Tryz.func161 Tryz.call161<|
 Zc Tryz.func163 Tryz.call163<|
 Zc Tryz.func164 Tryz.call164<|
 Zc Tryz.func166 Tryz.call166<|
 Zc Tryz.func165 Tryz.call165<|
 Zc Tryz.func167 Tryz.call167<|
 Zc Tryz.func168 Tryz.call168<|
 Zc Tryz.func174 Tryz.call174<|
 Zc Tryz.func175 Tryz.call175<|
 Zc Tryz.func178 Tryz.call178<|
 Zc Tryz.func179 Tryz.call179<|
 Zc Tryz.func180 Tryz.call180<|
 Zc Tryz.func183 Tryz.call183<|
 Zc Tryz.func184 Tryz.call184<|
 Zc Tryz.func182 Tryz.call182<|
 Zc Tryz.func181 Tryz.call181<|
 Zc Tryz.func185 Tryz.call185<|
 Zc Tryz.func186 Tryz.call186<|
 Zc Tryz.func187 Tryz.call187<|
 Zc Tryz.func188 Tryz.call188<|
 Zc Tryz.func189 Tryz.call189<|
 Zc Tryz.func190 Tryz.call190<|
 Zc Tryz.func191 Tryz.call191<|
 Zc Tryz.func192 Tryz.call192<|
 Zc Tryz.func195 Tryz.call195<|
 Zc Tryz.func198 Tryz.call198<|
 Zc Tryz.func193 Tryz.call193<|
 Zc Tryz.func194 Tryz.call194<|
 Zc Tryz.func197 Tryz.call197<|
 Zc Tryz.func196 Tryz.call196<|
 Zc Tryz.func200 Tryz.call200<|
 Zc Tryz.func199 Tryz.call199<|
 Zc Tryz.func201 Tryz.call201<|
 Zc Tryz.func204 Tryz.call204<|
 Zc Tryz.func205 Tryz.call205<|
 Zc Tryz.func206 Tryz.call206<|
 Zc Tryz.func207 Tryz.call207<|
 Zc Tryz.func208 Tryz.call208<|
 Zc Tryz.func209 Tryz.call209<|
 Zc Tryz.func210 Tryz.call210<|
 Zc Tryz.func211 Tryz.call211<|
 Zc Tryz.func212 Tryz.call212<|
 Zc Tryz.func213 Tryz.call213<|
 Zc Tryz.func214 Tryz.call214<|
 Zc Tryz.func215 Tryz.call215<|
 Zc Tryz.func216 Tryz.call216<|
 Zc Tryz.func217 Tryz.call217<|
 Zc Tryz.func218 Tryz.call218<|
 Zc Tryz.func219 Tryz.call219<|
 Zc Tryz.func220 Tryz.call220<|
 Zc Tryz.func221 Tryz.call221<|
 Zc Tryz.func222 Tryz.call222<|
 Zc Tryz.func223 Tryz.call223<|
 Zyp
def Z2D:List (Nat×List Nat):=[(44,[0,0,0,0,0,0,0]),(56,[0,0]),(26,[0,0,1])]
theorem Z1v:Zp3 Tryz.prog Z2D:=
 ZgB (ZhV (d:=8) (by kernel_rfl) (by kernel_rfl) (fun w=>by simp[isAgg,run_underlying Tryz.underlying44]) (i:=(Tryz.prog.info? 44).get (by kernel_rfl)) (by kernel_rfl) (by kernel_rfl) (by kernel_rfl))<|
 ZgB (ZhV (d:=8) (by kernel_rfl) (by kernel_rfl) (fun w=>by simp[isAgg,run_underlying Tryz.underlying56]) (i:=(Tryz.prog.info? 56).get (by kernel_rfl)) (by kernel_rfl) (by kernel_rfl) (by kernel_rfl))<|
 ZgB (ZhV (d:=8) (by kernel_rfl) (by kernel_rfl) (fun w=>by simp[isAgg,run_underlying Tryz.underlying26]) (i:=(Tryz.prog.info? 26).get (by kernel_rfl)) (by kernel_rfl) (by kernel_rfl) (by kernel_rfl))<|
 Zyq
def Zzb:List (Nat×IntKind):=[(21,Go.IntKind.i32),(3,Go.IntKind.i64),(5,Go.IntKind.u8),(213,Go.IntKind.u64)]
theorem Zzc:Zl6 Tryz.prog Zzb:=
 Zcs Tryz.underlying21<|
 Zcs Tryz.underlying3<|
 Zcs Tryz.underlying5<|
 Zcs Tryz.underlying213<|
 Zv8
def Zzd:List (Nat×FloatKind):=[(60,Go.FloatKind.f64)]
theorem Zze:ZlA Tryz.prog Zzd:=
 ZtH Tryz.underlying60<|
 ZvE
theorem Zzf:Zyu Tryz.prog []:=
 ZvF
noncomputable def Z2E:Nat→List PV→Option PV:=fun _ _=>none
theorem Z1w:Z21 Tryz.prog Z2E:=Zyv
noncomputable def evEnv:Env:=⟨Y6,Z2D,[4],Zzb,Zzd,[],Z2C,[36],[],Z2E,[37],[68],[(40,5)],[]⟩
theorem Z1x:Zp4 Tryz.prog [68]:=
 ZvH (Z3p (ρ:=Tryz.lays240_ren) Tryz.lays240 Tryz.Builder_X72_240 rfl Tryz.call68)<|
 Zyz
theorem Zzg:Zjv Tryz.prog [(40,5)]:=
 ZqZ (Zyy (ρ:=Tryz.lays169_ren) Tryz.lays169 Tryz.Builder_Extra_169 Tryz.call40)<|
 ZtI
theorem Zwv:∀T,has T [4]=true→Tryz.prog.underlying T=some .bool:=by
 intro T h
 have h:=YK.1 h
 simp only[Q9_,List.not_mem_nil,or_false] at h
 subst h;exact Tryz.underlying4
theorem Zl:EnvOk Tryz.prog evEnv:=⟨Z1t,by kernel_rfl,Z1v,Zwv,Zzc,Zze,Zzf,Z1w,Z1x,Zzg,Z1u⟩
end Go.Proofs.YtfeldacghdcghaaGreatDoor
namespace Go.Men
open Go.Ev Go.Proofs Go.Proofs.YtfeldacghdcghaaGreatDoor
def e63:Ent:=fun l_=>EA cI (fun n=>EZ (.v (.bool (inB n))) []) l_ []
def e73:Ent:=fun l_=>EA cI (fun n=>EZ (.v (.bool (inB n))) []) l_ []
def e62:Ent:=fun l_=>EA cIv (fun a=>EZ (.v (.bool (right a))) []) l_ []
def e72:Ent:=fun l_=>EA cIv (fun a=>EZ (.v (.bool (right a))) []) l_ []
def e64:Ent:=fun l_=>EZ (.agg (Iv.enc none')) [] l_ []
def e74:Ent:=fun l_=>EZ (.agg (Iv.enc none')) [] l_ []
def e65:Ent:=fun l_=>EA cI (fun lo=>EA cI (fun hi=>EZ (.agg (Iv.enc (of lo hi))) [])) l_ []
def e75:Ent:=fun l_=>EA cI (fun lo=>EA cI (fun hi=>EZ (.agg (Iv.enc (of lo hi))) [])) l_ []
def e35:Ent:=fun l_=>EA cI (fun n=>EZ (.agg (Iv.enc (point n))) []) l_ []
def e46:Ent:=fun l_=>EA cI (fun n=>EZ (.agg (Iv.enc (point n))) []) l_ []
def e56:Ent:=fun l_=>EA cI (fun n=>EZ (.agg (Iv.enc (whole n))) []) l_ []
def e89:Ent:=fun l_=>EA cI (fun n=>EZ (.agg (Iv.enc (whole n))) []) l_ []
def e39:Ent:=fun l_=>EA cI (fun a=>EA cI (fun b=>EZ (.v (.int .i64 (floor a b))) [-4611686018427387904≤a∧a≤4611686018427387904])) l_ []
def e48:Ent:=fun l_=>EA cI (fun a=>EA cI (fun b=>EZ (.v (.int .i64 (floor a b))) [-4611686018427387904≤a∧a≤4611686018427387904])) l_ []
def Z68:Ent:=fun l_=>EA cIv (fun a=>EA cIv (fun b=>EZ (.v (.bool (both a b))) [])) l_ []
def Z69:Ent:=fun l_=>EA cIv (fun a=>EZ (.agg (Iv.enc (neg a))) []) l_ []
def Z6A:Ent:=fun l_=>EA cIv (fun a=>EA cIv (fun b=>EZ (.agg (Iv.enc (add a b))) [])) l_ []
def e83:Ent:=fun l_=>EA cIv (fun a=>EA cIv (fun b=>EZ (.agg (Iv.enc (add a b))) [])) l_ []
def e99:Ent:=fun l_=>EA cIv (fun a=>EA cIv (fun b=>EZ (.agg (Iv.enc (sub a b))) [])) l_ []
def Z6B:Ent:=fun l_=>EA cIv (fun a=>EA cIv (fun b=>EZ (.agg (Iv.enc (sub a b))) [])) l_ []
def Z6C:Ent:=fun l_=>EA cIv (fun a=>EA cI (fun n=>EZ (.v (.bool (has a n))) [])) l_ []
def Z6D:Ent:=fun l_=>EA cI (fun a=>EA cI (fun b=>EA cB (fun up=>EZ (.tup [.v (.int .i64 ((rounded a b up).1)),.v (.bool ((rounded a b up).2))]) [-4611686018427387904≤a∧a≤4611686018427387904,b≠0]))) l_ []
def Z6E:Ent:=fun l_=>EA cI (fun a=>EA cI (fun b=>EZ (.v (.int .i64 (up1 a b))) [-4611686018427387904≤a∧a≤4611686018427387904,-4611686018427387904≤b∧b≤4611686018427387904,b≠0])) l_ []
def Z47:Ent:=fun l_=>EA cI (fun n=>EZ (.tup [.v (.int .i64 ((told n).1)),.v (.bool ((told n).2))]) []) l_ []
def Z6F:Ent:=fun l_=>EA cI (fun a=>EA cI (fun b=>EA cB (fun up=>EZ (.tup [.v (.int .i64 ((mul a b up).1)),.v (.bool ((mul a b up).2))]) []))) l_ []
def Z6G:Ent:=fun l_=>EA cI (fun a=>EA cI (fun b=>EA cB (fun up=>EZ (.tup [.v (.int .i64 ((mul a b up).1)),.v (.bool ((mul a b up).2))]) []))) l_ []
def Z6H:Ent:=fun l_=>EA cI (fun a=>EA cI (fun b=>EA cB (fun up=>EZ (.tup [.v (.int .i64 ((div a b up).1)),.v (.bool ((div a b up).2))]) []))) l_ []
def Z6I:Ent:=fun l_=>EA cI (fun a=>EA cI (fun b=>EA cB (fun up=>EZ (.tup [.v (.int .i64 ((div a b up).1)),.v (.bool ((div a b up).2))]) []))) l_ []
def ZnI:Ent
 | [.fn 187 [],.agg [.v (.int .i64 p1),.v (.int .i64 p2),.v (.bool p3)],.agg [.v (.int .i64 p4),.v (.int .i64 p5),.v (.bool p6)]]=>some (.agg (Iv.enc (ends mul (⟨p1,p2,p3⟩:Iv) (⟨p4,p5,p6⟩:Iv))),[])
 | _=>none
def ZnJ:Ent
 | [.fn 160 [],.agg [.v (.int .i64 p1),.v (.int .i64 p2),.v (.bool p3)],.agg [.v (.int .i64 p4),.v (.int .i64 p5),.v (.bool p6)]]=>some (.agg (Iv.enc (ends div (⟨p1,p2,p3⟩:Iv) (⟨p4,p5,p6⟩:Iv))),[])
 | _=>none
def Z6J:Ent:=eOr ZnI (ZnJ)
def ZkG:Ent
 | [.agg [.v (.int .i64 p1),.v (.int .i64 p2),.v (.bool p3)],.agg [.v (.int .i64 p4),.v (.int .i64 p5),.v (.bool p6)],.v (.bool false)]=>some (.agg (Iv.enc (ends mul (⟨p1,p2,p3⟩:Iv) (⟨p4,p5,p6⟩:Iv))),[])
 | _=>none
def ZkH:Ent
 | [.agg [.v (.int .i64 p1),.v (.int .i64 p2),.v (.bool p3)],.agg [.v (.int .i64 p4),.v (.int .i64 p5),.v (.bool p6)],.v (.bool true)]=>some (.agg (Iv.enc (ends div (⟨p1,p2,p3⟩:Iv) (⟨p4,p5,p6⟩:Iv))),[])
 | _=>none
def Z6K:Ent:=eOr ZkG (ZkH)
def Z6L:Ent:=fun l_=>EA cI (fun a=>EA cB (fun up=>EZ (.tup [.v (.int .i64 ((root a up).1)),.v (.bool ((root a up).2))]) [])) l_ []
def Z6M:Ent:=fun l_=>EA cI (fun a=>EA cB (fun up=>EZ (.tup [.v (.int .i64 ((root a up).1)),.v (.bool ((root a up).2))]) [])) l_ []
def Z6N:Ent:=fun l_=>EA cI (fun n=>EZ (.v (.int .i64 (Z1 n))) [0≤n∧n≤18]) l_ []
def Z6O:Ent:=fun l_=>EA cI (fun n=>EZ (.v (.int .i64 (Z1 n))) [0≤n∧n≤18]) l_ []
def Z6P:Ent:=fun l_=>EA cIv (fun a=>EA cIv (fun b=>EZ (.agg (Iv.enc (Zk a b))) [])) l_ []
def Z6Q:Ent:=fun l_=>EA cIv (fun a=>EA cIv (fun b=>EZ (.agg (Iv.enc (Zk a b))) [])) l_ []
def Z48:Ent:=fun l_=>EA cIv (fun a=>EA cIv (fun b=>EZ (.agg (Iv.enc (Zo a b))) [])) l_ []
def e85:Ent:=fun l_=>EA cIv (fun a=>EA cIv (fun b=>EZ (.agg (Iv.enc (Zo a b))) [])) l_ []
def Z6R:Ent:=fun l_=>EA cIv (fun a=>EZ (.agg (Iv.enc (sqr a))) []) l_ []
def e84:Ent:=fun l_=>EA cIv (fun a=>EZ (.agg (Iv.enc (sqr a))) []) l_ []
def e34:Ent:=fun l_=>EA cIv (fun a=>EA cI (fun k=>EZ (.agg (Iv.enc (times a k))) [])) l_ []
def Z6S:Ent:=fun l_=>EA cIv (fun a=>EZ (.agg (Iv.enc (ZQ a))) []) l_ []
def Z6T:Ent:=fun l_=>EA cIv (fun a=>EZ (.agg (Iv.enc (ZQ a))) []) l_ []
def Z6U:Ent:=fun l_=>EA cIv (fun a=>EA cIv (fun b=>EA cIv (fun c=>EZ (.tup [.agg (Iv.enc ((WD a b c).1)),.v (.int .i64 ((WD a b c).2))]) []))) l_ []
def e97:Ent:=fun l_=>EA cIv (fun x=>EA cIv (fun y=>EA cIv (fun z=>EZ (.agg (V.enc (⟨x,y,z⟩:V))) []))) l_ []
def Z6V:Ent:=fun l_=>EA cV (fun a=>EA cV (fun b=>EZ (.agg (V.enc (Zwf a b))) [])) l_ []
def Z6W:Ent:=fun l_=>EA cV (fun a=>EA cV (fun b=>EZ (.agg (Iv.enc (dot a b))) [])) l_ []
def Z6X:Ent:=fun l_=>EA cV (fun a=>EZ (.agg (Iv.enc (XY a))) []) l_ []
def e93:Ent:=fun l_=>EA Zei (fun d=>EZ (.v (.bool (ZM d))) []) l_ []
def e71:Ent:=fun l_=>EA Zei (fun d=>EZ (.v (.bool (ZM d))) []) l_ []
def Z6Y:Ent:=fun l_=>EA Zei (fun d=>EZ (.agg (Iv.enc (Zh d))) []) l_ []
def e81:Ent:=fun l_=>EA Zei (fun d=>EZ (.agg (Iv.enc (Zh d))) []) l_ []
def e9:Ent:=fun l_=>EA cI (fun n=>EA cI (fun m=>EZ (.v (.int .i64 (pick n m))) [0 < m∧m≤4611686018427387904])) l_ []
def e94:Ent:=fun l_=>EZ (.agg (Dec.enc (⟨0,0⟩:Dec))) [] l_ []
def Z6Z:Ent:=fun l_=>EA cSh (fun s=>EA ZgO (fun r=>EZ (.tup [.agg (Iv.enc ((meet s r).1)),.v (.int .i64 ((meet s r).2))]) [])) l_ []
def Z49:Ent:=fun l_=>EA cSh (fun s=>EA ZgO (fun r=>EZ (.tup [.agg (Iv.enc ((hit s r).1)),.v (.int .i64 ((hit s r).2))]) [])) l_ []
def e92:Ent:=fun l_=>EA cI (fun n=>EZ (.v (.bool (!ZX n))) []) l_ []
def Z4A:Ent
 | [.lst p1,.fn 92 []]=>some (.v (.int .i64 (YM (fun x=> !ZX x.n) (Zd I.dec p1) 0)),[p1=(Zd I.dec p1).map I.enc,(Zd I.dec p1).length≤140737488355328])
 | _=>none
def e91:Ent
 | [.lst p1,.fn 92 []]=>some (.v (.bool ((Zd I.dec p1).any (fun x=> !ZX x.n))),[p1=(Zd I.dec p1).map I.enc,(Zd I.dec p1).length≤140737488355328])
 | _=>none
def e61:Ent:=fun l_=>EA cSh (fun s=>EZ (.v (.bool (ZL s))) []) l_ []
def e60:Ent:=fun l_=>EA cSh (fun s=>EZ (.v (.bool (!ZL s))) []) l_ []
def e90:Ent
 | [.lst p1,.fn 60 []]=>some (.v (.int .i64 (YM (fun s=> !ZL s) (Zd Shape.dec p1) 0)),[p1=(Zd Shape.dec p1).map Shape.enc,(Zd Shape.dec p1).length≤140737488355328])
 | _=>none
def e59:Ent
 | [.lst p1,.fn 60 []]=>some (.v (.bool ((Zd Shape.dec p1).any (fun s=> !ZL s))),[p1=(Zd Shape.dec p1).map Shape.enc,(Zd Shape.dec p1).length≤140737488355328])
 | _=>none
def e31:Ent:=fun l_=>EA (cL Shape.enc Shape.dec) (fun l=>EZ (.v (.bool (YQ l))) [l.length≤140737488355328]) l_ []
def e25:Ent:=fun l_=>EA cI (fun c=>EA cI (fun scale=>EZ (.agg (Dec.enc (hdec scale.toNat c scale))) [0≤scale∧scale≤18])) l_ []
def Z7a:Ent:=fun l_=>EA (cL Shape.enc Shape.dec) (fun l=>EA ZgO (fun r=>EZ (.tup [.v (.int .i64 ((nearest l r).1)),.agg (Iv.enc ((nearest l r).2.1)),.v (.int .i64 ((nearest l r).2.2))]) [l.length≤1000000])) l_ []
def Z7b:Ent:=fun l_=>EA cIv (fun a=>EA cIv (fun b=>EZ (.agg (Iv.enc (Zaq a b))) [])) l_ []
def Z4B:Ent:=fun l_=>EA cIv (fun a=>EA cIv (fun b=>EZ (.agg (Iv.enc (Jo a b))) [])) l_ []
def Z4C:Ent:=fun l_=>EA cIv (fun a=>EZ (.v (.int .i64 (ZI a))) []) l_ []
def Z4D:Ent:=fun l_=>EA cIv (fun a=>EZ (.tup [.agg (Iv.enc ((YG a).1)),.agg (Iv.enc ((YG a).2))]) []) l_ []
def Z7c:Ent:=fun l_=>EA cV (fun a=>EA cV (fun b=>EZ (.agg (V.enc (ZgG a b))) [])) l_ []
def Z7d:Ent:=fun l_=>EA cV (fun a=>EA cIv (fun k=>EZ (.agg (V.enc (Jp a k))) [])) l_ []
def Z7e:Ent:=fun l_=>EA ZgO (fun r=>EA cIv (fun t=>EZ (.agg (V.enc (along r t))) [])) l_ []
def Z7f:Ent:=fun l_=>EA cV (fun a=>EZ (.v (.bool (YN a))) []) l_ []
def e98:Ent:=fun l_=>EA cV (fun a=>EZ (.agg (V.enc (unit a))) []) l_ []
def Z7g:Ent:=fun l_=>EA cB (fun yes=>EA cB (fun no=>EZ (.v (.int .i64 (ZpA yes no))) [])) l_ []
def Z7h:Ent:=fun l_=>EA cIv (fun a=>EA cIv (fun b=>EZ (.v (.int .i64 (Zeb a b))) [])) l_ []
def Z7i:Ent:=fun l_=>EZ (.agg (V.enc noV)) [] l_ []
def Z7j:Ent:=fun l_=>EZ (.agg (Ray.enc ZlU)) [] l_ []
def Z7k:Ent:=fun l_=>EA cI (fun is=>EZ (.tup [.agg (Iv.enc (((none',noV,is):Iv×V×Int).1)),.agg (V.enc (((none',noV,is):Iv×V×Int).2.1)),.v (.int .i64 (((none',noV,is):Iv×V×Int).2.2))]) []) l_ []
def ZnK:Ent
 | [.lst [[.v (.int .i64 p1),.v (.int .i64 p2),.v (.bool p3)],[.v (.int .i64 p4),.v (.int .i64 p5),.v (.bool p6)],[.v (.int .i64 p7),.v (.int .i64 p8),.v (.bool p9)],[.v (.int .i64 p10),.v (.int .i64 p11),.v (.bool p12)]],.agg [.v (.int .i64 p13),.v (.int .i64 p14),.v (.bool p15)]]=>some (.agg (Iv.enc (Zj5 (⟨⟨p1,p2,p3⟩,⟨p4,p5,p6⟩,⟨p7,p8,p9⟩,⟨p10,p11,p12⟩⟩:K4) (⟨p13,p14,p15⟩:Iv))),[])
 | _=>none
def ZnL:Ent
 | [.lst [[.v (.int .i64 p1),.v (.int .i64 p2),.v (.bool p3)],[.v (.int .i64 p4),.v (.int .i64 p5),.v (.bool p6)],[.v (.int .i64 p7),.v (.int .i64 p8),.v (.bool p9)]],.agg [.v (.int .i64 p10),.v (.int .i64 p11),.v (.bool p12)]]=>some (.agg (Iv.enc (Zj6 (⟨⟨p1,p2,p3⟩,⟨p4,p5,p6⟩,⟨p7,p8,p9⟩⟩:K3) (⟨p10,p11,p12⟩:Iv))),[])
 | _=>none
def Z7l:Ent:=eOr ZnK (ZnL)
def Z4E:Ent
 | [.lst [[.v (.int .i64 p1),.v (.int .i64 p2),.v (.bool p3)],[.v (.int .i64 p4),.v (.int .i64 p5),.v (.bool p6)],[.v (.int .i64 p7),.v (.int .i64 p8),.v (.bool p9)],[.v (.int .i64 p10),.v (.int .i64 p11),.v (.bool p12)]]]=>some (.lst [Iv.enc (ZcJ (⟨⟨p1,p2,p3⟩,⟨p4,p5,p6⟩,⟨p7,p8,p9⟩,⟨p10,p11,p12⟩⟩:K4)).a,Iv.enc (ZcJ (⟨⟨p1,p2,p3⟩,⟨p4,p5,p6⟩,⟨p7,p8,p9⟩,⟨p10,p11,p12⟩⟩:K4)).b,Iv.enc (ZcJ (⟨⟨p1,p2,p3⟩,⟨p4,p5,p6⟩,⟨p7,p8,p9⟩,⟨p10,p11,p12⟩⟩:K4)).c],[])
 | _=>none
def Z7m:Ent:=fun l_=>EA (cG Surf.enc Surf.dec) (fun s=>EA cIv (fun r2=>EZ (.tup [.agg (Iv.enc ((XF s r2).1)),.agg (Iv.enc ((XF s r2).2))]) [])) l_ []
def Z7n:Ent:=fun l_=>EA (cG Surf.enc Surf.dec) (fun s=>EA cV (fun o=>EA cV (fun d=>EZ (.tup [.agg (Iv.enc ((W9 s o d).1)),.v (.int .i64 ((W9 s o d).2))]) []))) l_ []
def Z7o:Ent:=fun l_=>EA (cG Surf.enc Surf.dec) (fun s=>EA cIv (fun r2=>EZ (.tup [.agg (Iv.enc ((sag s r2).1)),.agg (Iv.enc ((sag s r2).2))]) [])) l_ []
def Z7p:Ent:=fun l_=>EA (cG Surf.enc Surf.dec) (fun s=>EA cV (fun p=>EZ (.agg (V.enc (ZaD s p))) [])) l_ []
def Z7q:Ent:=fun l_=>EA cV (fun d=>EA cV (fun n=>EA cIv (fun ratio=>EZ (.tup [.agg (V.enc ((bend d n ratio).1)),.v (.int .i64 ((bend d n ratio).2))]) []))) l_ []
def Z4F:Ent:=fun l_=>EA cIv (fun t=>EA (cP Ray.enc Ray.dec) (fun r=>EA (cP Surf.enc Surf.dec) (fun s=>EZ (.tup [.agg (Iv.enc ((Zv s r t).1)),.agg (Iv.enc ((Zv s r t).2))]) []))) l_ []
def Z1y:Ent
 | [.fn 211 [.lptr p1 0,.lptr p2 0],.agg [.v (.int .i64 p3),.v (.int .i64 p4),.v (.bool p5)]]=>some (.v (.bool (ZgK (Zv (Surf.dec p2) (Ray.dec p1) (⟨p3,p4,p5⟩:Iv)).1)),[p1=Ray.enc (Ray.dec p1),p2=Surf.enc (Surf.dec p2)])
 | _=>none
def Z4G:Ent
 | [.fn 211 [.lptr p1 0,.lptr p2 0],.agg [.v (.int .i64 p3),.v (.int .i64 p4),.v (.bool p5)],.v (.int .i64 20)]=>some (.tup [.agg (Iv.enc ((solve (Zv (Surf.dec p2) (Ray.dec p1)) (⟨p3,p4,p5⟩:Iv) 20).1)),.v (.int .i64 ((solve (Zv (Surf.dec p2) (Ray.dec p1)) (⟨p3,p4,p5⟩:Iv) 20).2))],[p1=Ray.enc (Ray.dec p1),p2=Surf.enc (Surf.dec p2)])
 | _=>none
def Z7r:Ent:=fun l_=>EA (cG Surf.enc Surf.dec) (fun s=>EA ZgO (fun r=>EA cIv (fun t=>EZ (.tup [.agg (Iv.enc ((ZaR s r t).1)),.v (.int .i64 ((ZaR s r t).2))]) [right t=true]))) l_ []
def Z7s:Ent:=fun l_=>EA (cG Surf.enc Surf.dec) (fun s=>EA ZgO (fun r=>EZ (.tup [.agg (Iv.enc ((Yq s r).1)),.agg (V.enc ((Yq s r).2.1)),.v (.int .i64 ((Yq s r).2.2))]) [])) l_ []
def Z4H:Ent:=fun l_=>EA (cG Surf.enc Surf.dec) (fun s=>EA ZgO (fun r=>EZ (.tup [.agg (Ray.enc ((goS s r).1)),.v (.int .i64 ((goS s r).2))]) [])) l_ []
def Z7t:Ent:=fun l_=>EA (cG SysM.enc SysM.dec) (fun s=>EA ZgO (fun r=>EZ (.agg (TrRes.enc (trace s r))) [s.surfs.length≤1000000])) l_ []
def Z7u:Ent:=fun l_=>EA cF (fun x=>EZ (.v (.float .f64 (ZcH x))) [ZgJ x=true]) l_ []
def Z7v:Ent:=fun l_=>EA cF (fun x=>EZ (.v (.float .f64 (ZcH x))) [ZgJ x=true]) l_ []
def e33:Ent:=fun l_=>EA cI (fun n=>EA cI (fun low=>EA cI (fun high=>EZ (.v (.bool (Yw n low high))) []))) l_ []
def e32:Ent:=fun l_=>EA cI (fun w=>EA cI (fun h=>EZ (.v (.bool (X8 w h))) [])) l_ []
def e95:Ent:=fun l_=>EA (cG SysM.enc SysM.dec) (fun s=>EA cI (fun n=>EZ (.v (.bool (J8 s n))) [])) l_ []
def e96:Ent:=fun l_=>EA cIv (fun o=>EA cI (fun k=>EA cI (fun n=>EZ (.agg (Iv.enc (edge o k n))) []))) l_ []
def e70:Ent:=fun l_=>EA cF (fun x=>EZ (.v (.bool (XJ x))) []) l_ []
def e41:Ent:=fun l_=>EA cX (fun z=>EZ (.v (.bool (ZY z))) []) l_ []
def e28:Ent:=fun l_=>EA cX (fun z=>EA cI (fun n=>EZ (.v (.bool (YO z n))) [])) l_ []
def e66:Ent:=fun l_=>EA (cG SysM.enc SysM.dec) (fun s=>EA cIv (fun x=>EA cIv (fun y=>EA cX (fun z=>EA cI (fun n=>EZ (.tup [.agg (Ray.enc ((Wb s x y z n).1)),.v (.bool ((Wb s x y z n).2))]) []))))) l_ []
def e42:Ent:=fun l_=>EA cI (fun x=>EA cI (fun y=>EZ (.v (.complex .f64 (Yp x y).re (Yp x y).im)) [])) l_ []
def e43:Ent:=fun l_=>EA cX (fun z=>EZ (.tup [.v (.int .i64 ((ZB z.re,ZB z.im).1)),.v (.int .i64 ((ZB z.re,ZB z.im).2))]) [ZY z=true]) l_ []
def e17:Ent:=fun l_=>EA (cG Pair.enc Pair.dec) (fun z=>EZ (.v (.complex .f64 (Yp z.x z.y).re (Yp z.x z.y).im)) []) l_ []
def e67:Ent:=fun l_=>EA (cG SysM.enc SysM.dec) (fun s=>EA (cL Shape.enc Shape.dec) (fun l=>EA ZgO (fun r=>EZ (.tup [.agg (A3.enc ((Xl s l r).1)),.agg (A3.enc ((Xl s l r).2.1)),.v (.bool ((Xl s l r).2.2))]) [s.surfs.length≤1000000∧l.length≤1000000]))) l_ []
def e15:Ent:=fun l_=>EA cX (fun z=>EZ (.tup [.agg (Pair.enc ((ofC z).1)),.v (.bool ((ofC z).2))]) []) l_ []
def Z4I:Ent:=fun l_=>EA cU (fun c=>EZ (.v (.bool (ZaS c))) []) l_ []
def Z7w:Ent:=fun l_=>EA cU (fun c=>EZ (.v (.bool (ZlY c))) []) l_ []
def Z4J:Ent:=fun l_=>EA cU (fun c=>EZ (.v (.bool (Zj7 c))) []) l_ []
def Z4K:Ent:=fun l_=>EA cS (fun s=>EZ (.v (.bool (Zar s))) []) l_ []
def e14:Ent:=fun l_=>EA cI (fun n=>EZ (.str (digits n)) [-1000000000000000000≤n∧n≤1000000000000000000]) l_ []
def Z7x:Ent:=fun l_=>EA Zei (fun d=>EZ (.str (Zcj d)) []) l_ []
def Z4L:Ent:=fun l_=>EA Zei (fun d=>EZ (.v (.bool (printable d))) []) l_ []
def Z4M:Ent:=fun l_=>EA Zei (fun d=>EZ (.v (.bool (decide (d.c > 0)))) []) l_ []
def e82:Ent:=fun l_=>EA Zei (fun d=>EZ (.v (.bool (YF d))) []) l_ []
def Z7y:Ent:=fun l_=>EA Zei (fun d=>EZ (.agg (Dec.enc (ZpB d))) []) l_ []
def Z7z:Ent:=fun l_=>EA Zei (fun a=>EA Zei (fun b=>EZ (.v (.bool (ZdD a b))) [])) l_ []
def e86:Ent:=fun l_=>EA (cL Glass.enc Glass.dec) (fun l=>EA cS (fun n=>EZ (.tup [.agg (Glass.enc ((YH l n).1)),.v (.bool ((YH l n).2))]) [l.length≤140737488355328])) l_ []
def e87:Ent:=fun l_=>EA (cG Glass.enc Glass.dec) (fun g=>EA cIv (fun w=>EZ (.agg (Iv.enc (Zby g w))) [])) l_ []
def e54:Ent:=fun l_=>EA cI (fun k=>EZ (.agg (Iv.enc (ZlZ k))) []) l_ []
def e79:Ent:=fun l_=>EA (cL Face.enc Face.dec) (fun l=>EZ (.v (.bool (X4 l))) [l.length≤140737488355328]) l_ []
def Z4N:Ent:=fun l_=>EA (cG Face.enc Face.dec) (fun f=>EA (cL Glass.enc Glass.dec) (fun g=>EZ (.v (.bool (WW f g))) [g.length≤140737488355328])) l_ []
def e80:Ent:=fun l_=>EA (cG LensM.enc LensM.dec) (fun l=>EA (cL Glass.enc Glass.dec) (fun g=>EZ (.v (.bool (Wz l g))) [g.length≤140737488355328])) l_ []
def e88:Ent:=fun l_=>EA (cG SysM.enc SysM.dec) (fun s=>EZ (.v (.bool (JA s))) [s.surfs.length≤140737488355328]) l_ []
def e53:Ent:=fun l_=>EA (cG LensM.enc LensM.dec) (fun l=>EA (cL Glass.enc Glass.dec) (fun g=>EA cIv (fun w=>EZ (.tup [.agg (SysM.enc ((JB l g w).1)),.v (.int .i64 ((JB l g w).2))]) [g.length≤140737488355328]))) l_ []
def e52:Ent:=fun l_=>EA (cG LensM.enc LensM.dec) (fun l=>EZ (.agg (LensM.enc (ZfQ l))) [l.faces.length≤1000]) l_ []
def e50:Ent:=fun l_=>EA (cL I.enc I.dec) (fun l=>EZ (.lst ((Xm l).map Glass.enc)) [l.length≤140737488355328]) l_ []
def e55:Ent:=fun l_=>EA (cL I.enc I.dec) (fun l=>EZ (.agg (SysM.enc (straight l))) [l.length≤140737488355328]) l_ []
def e51:Ent:=fun l_=>EA cI (fun back=>EA (cL RawFace.enc RawFace.dec) (fun l=>EA (cL Glass.enc Glass.dec) (fun g=>EA cI (fun most=>EZ (.agg (LensM.enc (XG back l g most))) [l.length≤140737488355328∧g.length≤1000∧most≤1000])))) l_ []
def e22:Ent:=fun l_=>EA cI (fun back=>EA (cL RawFace.enc RawFace.dec) (fun l=>EA (cL I.enc I.dec) (fun raw=>EA cI (fun most=>EA cB (fun plain=>EZ (.agg (SysM.enc (JX back l raw most plain))) [l.length≤140737488355328∧raw.length≤140737488355328∧0≤most∧most≤12]))))) l_ []
def e27:Ent:=fun l_=>EA cX (fun z=>EA (cP I.enc I.dec) (fun n=>EZ (.v (.bool (!YO z n.n))) [])) l_ []
def e30:Ent:=fun l_=>EA (cG SysM.enc SysM.dec) (fun s=>EZ (.v (.bool (Xq s))) []) l_ []
def e57:Ent
 | [.lst p1,.fn 27 [.lptr p2 0]]=>some (.v (.int .i64 (YM (fun z=> !YO z (I.dec p2).n) (Zd Cx.dec p1) 0)),[p1=(Zd Cx.dec p1).map Cx.enc,p2=I.enc (I.dec p2),(Zd Cx.dec p1).length≤140737488355328])
 | _=>none
def e26:Ent
 | [.lst p1,.fn 27 [.lptr p2 0]]=>some (.v (.bool ((Zd Cx.dec p1).any (fun z=> !YO z (I.dec p2).n))),[p1=(Zd Cx.dec p1).map Cx.enc,p2=I.enc (I.dec p2),(Zd Cx.dec p1).length≤140737488355328])
 | _=>none
def e58:Ent
 | [.lst p1,.fn 30 []]=>some (.v (.int .i64 (YM Xq (Zd SysM.dec p1) 0)),[p1=(Zd SysM.dec p1).map SysM.enc,(Zd SysM.dec p1).length≤140737488355328])
 | _=>none
def e29:Ent
 | [.lst p1,.fn 30 []]=>some (.v (.bool ((Zd SysM.dec p1).any Xq)),[p1=(Zd SysM.dec p1).map SysM.enc,(Zd SysM.dec p1).length≤140737488355328])
 | _=>none
def e12:Ent:=fun l_=>EA (cG S3.enc S3.dec) (fun s=>EA (cL Shape.enc Shape.dec) (fun l=>EA cI (fun w=>EA cI (fun h=>EA cI (fun pitch=>EA cI (fun n=>EA (cL Cx.enc Cx.dec) (fun ds=>EZ (.tup [.lst (((X0 s l w h pitch n ds).1).map Pixel.enc),.v (.int .i64 ((X0 s l w h pitch n ds).2))]) [s.a.surfs.length≤1000000∧s.b.surfs.length≤1000000∧s.c.surfs.length≤1000000,l.length≤1000000∧ds.length≤140737488355328]))))))) l_ []
def e38:Ent:=fun l_=>EA cI (fun n=>EZ (.str (digits n)) [-1000000000000000000≤n∧n≤1000000000000000000]) l_ []
def e13:Ent:=fun l_=>EA (cL Pixel.enc Pixel.dec) (fun ps=>EA cI (fun w=>EA cI (fun h=>EA cI (fun d=>EZ (.str (Zr5 ps w h d)) [∀p∈ps,ZnF p])))) l_ []
def e10:Ent:=fun l_=>EA (cL I.enc I.dec) (fun l=>EA cI (fun n=>EZ (.lst ((Zb0 l n).map Cx.enc)) [l.length≤140737488355328∧1≤n∧n≤8])) l_ []
def e7:Ent:=fun l_=>EA cI (fun back=>EA (cL RawFace.enc RawFace.dec) (fun l=>EA cI (fun most=>EA cB (fun plain=>EZ (.agg (S3.enc (WB back l most plain))) [l.length≤140737488355328∧0≤most∧most≤12])))) l_ []
def e23:Ent:=fun l_=>EZ (.agg (S3.enc open3)) [] l_ []
def e24:Ent:=fun l_=>EZ (.lst (wallL.map Shape.enc)) [] l_ []
def e8:Ent:=fun l_=>EZ (.v (.bool true)) [] l_ []
def e16:Ent:=fun l_=>EA cX (fun z=>EZ (.v (.complex .f64 (Zin z).re (Zin z).im)) [ZY z=true∧ZY ⟨z.re,Op.negFloat .f64 z.im⟩=true]) l_ []
def e5:Ent:=fun l_=>EA cI (fun back=>EA (cL RawFace.enc RawFace.dec) (fun l=>EA cI (fun zz=>EA cI (fun pitch=>EA cI (fun n=>EA (cL I.enc I.dec) (fun ds=>EZ (.v (.bool true)) [l.length≤140737488355328∧ds.length≤140737488355328])))))) l_ []
theorem cf0{C:ZR}(hC:CSOk Tryz.prog C){f:Nat}{fn:Func}(hf:lk f evEnv.fns=some fn){args:List PV}{X:PV}(h:sxF evEnv C ZdW ZdX noG [] 2000 fn args (Qn X)):Con Tryz.prog f args X:=ZaG Zl hC ZA Z7 ZJ hf Zao h
theorem cfL{C:ZR}(hC:CSOk Tryz.prog C){f:Nat}{fn:Func}{LS:List (Nat×LSum)}(hL:ZF Tryz.prog LS fn)(hf:lk f evEnv.fns=some fn){args:List PV}{X:PV}(h:sxF evEnv C ZdW ZdX noG LS 2000 fn args (Qn X)):Con Tryz.prog f args X:=ZaG Zl hC ZA Z7 ZJ hf hL h
abbrev ZkI(R_:Type):=Int→Int→Int→Bool→R_
def Z1z:ZkI St:=fun bit n r up=>⟨44,[(8,pI bit),(6,pI n),(7,pI r),(1,.p (vB up))],[],[],[],[]⟩
def ZrA:KpH:=⟨⟨[8,6,7,1],[],[]⟩,[]⟩
def Zzh:KpH:=⟨⟨[7,6,1],[],[]⟩,[]⟩
abbrev Zzi:KpH:=kr0
def Zek:ZkI St:=fun bit n r up=>⟨44,[(7,.p (.v (.int .i64 (ZP (bit+1).toNat n r)))),(6,.p (.v (.int .i64 n))),(1,.p (.v (.bool up)))],[],[],[],[]⟩
def Zcn:ZkI Prop:=fun bit n r up=>(-1≤bit∧bit≤24)∧(0≤n∧n≤140737488355328)∧(0≤r∧r+2 ^ (bit+1).toNat≤33554432)∧((2:Int) ^ (bit+1).toNat∣r)
def ZrB:LSum:=LSg Y6 44 (fT 8 cI<|fT 6 cI<|fT 7 cI<|fT 1 cB<|fZ) [] [] ZrA (V4 Zcn) fun y K=>K (.exit 0) (V4 Zek y)
abbrev Ziq(R_:Type):=Int→Int→Int→Bool→R_
def Zzj:Ziq St:=fun bit n r up=>⟨48,[(8,pI bit),(6,pI n),(7,pI r),(1,.p (vB up))],[],[],[],[]⟩
def Zo1:KpH:=⟨⟨[8,6,7,1],[],[]⟩,[]⟩
def Zww:KpH:=⟨⟨[7,6,1],[],[]⟩,[]⟩
abbrev Zwx:KpH:=kr0
def ZcL:Ziq St:=fun bit n r up=>⟨48,[(7,.p (.v (.int .i64 (ZP (bit+1).toNat n r)))),(6,.p (.v (.int .i64 n))),(1,.p (.v (.bool up)))],[],[],[],[]⟩
def ZaU:Ziq Prop:=fun bit n r up=>(-1≤bit∧bit≤24)∧(0≤n∧n≤140737488355328)∧(0≤r∧r+2 ^ (bit+1).toNat≤33554432)
def Zo2:LSum:=LSg Y6 48 (fT 8 cI<|fT 6 cI<|fT 7 cI<|fT 1 cB<|fZ) [] [] Zo1 (V4 ZaU) fun y K=>K (.exit 0) (V4 ZcL y)
abbrev Zir(R_:Type):=Int→Int→Int→R_
def Zzk:Zir St:=fun i out n=>⟨11,[(5,pI i),(3,pI out),(4,pI n)],[],[],[],[]⟩
def Zo3:KpH:=⟨⟨[5,3,4],[],[]⟩,[]⟩
def Zwy:KpH:=⟨⟨[3],[],[]⟩,[]⟩
abbrev Zwz:KpH:=kr0
def Zo4:Zir St:=fun i out n=>⟨11,[(3,.p (.v (.int .i64 (Z1 n))))],[],[],[],[]⟩
def ZcM:Zir Prop:=fun i out n=>(0≤i)∧(i≤n)∧(n≤18)∧(out=Z1 i)
def Zo5:LSum:=LSg Y6 11 (fT 5 cI<|fT 3 cI<|fT 4 cI<|fZ) [] [] Zo3 (V3 ZcM) fun y K=>K (.exit 0) (V3 Zo4 y)
abbrev ZnM(R_:Type):=Int→Int→R_
def Z3G:ZnM St:=fun k out=>⟨11,[(0,pI k),(3,pI out)],[],[],[],[]⟩
def ZuU:KpH:=⟨⟨[0,3],[],[]⟩,[]⟩
def Z10:KpH:=⟨⟨[3],[],[]⟩,[]⟩
abbrev Z11:KpH:=kr0
def ZjC:ZnM St:=fun k out=>⟨11,[(3,.p (.v (.int .i64 (out *Z1 k))))],[],[],[],[]⟩
def ZjD:ZnM Prop:=fun k out=>(0≤k∧k≤18)∧(1≤out∧out *Z1 k≤1000000000000000000)
def ZuV:LSum:=LSg Y6 11 (fT 0 cI<|fT 3 cI<|fZ) [] [] ZuU (V2 ZjD) fun y K=>K (.exit 0) (V2 ZjC y)
abbrev Zel(R_:Type):=Int→(List I)→Int→R_
def ZrC:Zel St:=fun i l n=>⟨19,[(8,pI i),(0,.p (.lst (l.map I.enc))),(1,.p (.fn 92 [])),(7,pI n)],[],[],[],[]⟩
def ZkJ:KpH:=⟨⟨[8,0,1,7],[],[]⟩,[]⟩
def Zzl:KpH:=⟨⟨[],[],[]⟩,[]⟩
def Zzm:KpH:=⟨⟨[4],[],[]⟩,[]⟩
def ZkK:Zel St:=fun i l n=>⟨19,[],[],[],[],[]⟩
def ZgP:Zel St:=fun i l n=>⟨19,[(4,.p (.v (.int .i64 (YM (fun x=> !ZX x.n) (l.drop i.toNat) i))))],[],[],[],[]⟩
def Zem:Zel Prop:=fun i l n=>(0≤i∧i≤l.length∧n=l.length∧n≤140737488355328)
def JD:Zel Bool:=fun i l n=>(l.drop i.toNat).any (fun x=> !ZX x.n)
def ZkL:LSum:=fun σ K=>match Zbr Y6 ZkJ σ with
 | some ⟨19,[(8,.p (.v (.int .i64 p1))),(0,.p (.lst p2)),(1,.p (.fn 92 [])),(7,.p (.v (.int .i64 p3)))],[],[],[],[]⟩=>alls [p2=(Zd I.dec p2).map I.enc,Zem p1 (Zd I.dec p2) p3] (bif JD p1 (Zd I.dec p2) p3 then K .ret (ZgP p1 (Zd I.dec p2) p3) else (K (.exit 0) (ZkK p1 (Zd I.dec p2) p3)))
 | _=>False
abbrev Zen(R_:Type):=Int→(List Shape)→Int→R_
def ZrD:Zen St:=fun i l n=>⟨19,[(8,pI i),(0,.p (.lst (l.map Shape.enc))),(1,.p (.fn 60 [])),(7,pI n)],[],[],[],[]⟩
def ZkM:KpH:=⟨⟨[8,0,1,7],[],[]⟩,[]⟩
def Zzn:KpH:=⟨⟨[],[],[]⟩,[]⟩
def Zzo:KpH:=⟨⟨[4],[],[]⟩,[]⟩
def ZkN:Zen St:=fun i l n=>⟨19,[],[],[],[],[]⟩
def ZgQ:Zen St:=fun i l n=>⟨19,[(4,.p (.v (.int .i64 (YM (fun s=> !ZL s) (l.drop i.toNat) i))))],[],[],[],[]⟩
def Zeo:Zen Prop:=fun i l n=>(0≤i∧i≤l.length∧n=l.length∧n≤140737488355328)
def JE:Zen Bool:=fun i l n=>(l.drop i.toNat).any (fun s=> !ZL s)
def ZkO:LSum:=fun σ K=>match Zbr Y6 ZkM σ with
 | some ⟨19,[(8,.p (.v (.int .i64 p1))),(0,.p (.lst p2)),(1,.p (.fn 60 [])),(7,.p (.v (.int .i64 p3)))],[],[],[],[]⟩=>alls [p2=(Zd Shape.dec p2).map Shape.enc,Zeo p1 (Zd Shape.dec p2) p3] (bif JE p1 (Zd Shape.dec p2) p3 then K .ret (ZgQ p1 (Zd Shape.dec p2) p3) else (K (.exit 0) (ZkN p1 (Zd Shape.dec p2) p3)))
 | _=>False
abbrev ZkP(R_:Type):=Dec→Dec→R_
def Z12:ZkP St:=fun d z=>⟨27,[(5,.ptr 5 0),(4,.ptr 4 0)],[(5,Dec.enc d),(4,Dec.enc z)],[],[],[]⟩
def ZrE:KpH:=⟨⟨[5,4],[5,4],[]⟩,[]⟩
def Zzp:KpH:=⟨⟨[4,5],[4,5],[]⟩,[]⟩
abbrev Zzq:KpH:=kr0
def Zep:ZkP St:=fun d z=>⟨27,[(4,.ptr 4 0),(5,.ptr 5 0)],[(4,[.v (.int .i64 z.c),.v (.int .i64 z.scale)]),(5,[.v (.int .i64 ((hdec d.scale.toNat d.c d.scale).c)),.v (.int .i64 ((hdec d.scale.toNat d.c d.scale).scale))])],[],[],[]⟩
def Zeq:ZkP Prop:=fun d z=>(0≤d.scale∧d.scale≤18)
def ZrF:LSum:=LSg Y6 27 (fP 5 5 0<|fP 4 4 0<|fb 5 Dec.enc Zr8 ZnG<|fb 4 Dec.enc Zr8 ZnG<|fZ) [] [] ZrE (V2 Zeq) fun y K=>K (.exit 0) (V2 Zep y)
abbrev ZcN(R_:Type):=Int→Int→(List Shape)→(List Iv)→Int→Iv→Iv→Ray→R_
def ZeZ:ZcN St:=fun k n l all best at1 z r=>⟨80,[(20,pI k),(19,pI n),(18,.p (.lst (l.map Shape.enc))),(9,.p (.lst (all.map Iv.enc))),(7,pI best),(8,.ptr 8 0),(5,.ptr 5 0),(3,.ptr 3 0)],[(8,Iv.enc at1),(5,Iv.enc z),(3,Ray.enc r)],[],[(.t 9,26)],[]⟩
def Zo6:KpH:=⟨⟨[20,19,18,9,7,8,5,3],[8,5,3],[.t 9]⟩,[(.t 9,26)]⟩
def Zw0:KpH:=⟨⟨[5,8,7,9],[8,5],[]⟩,[]⟩
def Zw1:KpH:=⟨⟨[4,5,6],[5],[]⟩,[]⟩
def Zis:ZcN St:=fun k n l all best at1 z r=>⟨80,[(5,.ptr 5 0),(8,.ptr 8 0),(7,.p (.v (.int .i64 ((Yl r (l.drop k.toNat) k best at1 all).1)))),(9,.p (.lst (((Yl r (l.drop k.toNat) k best at1 all).2.2).map Iv.enc)))],[(8,[.v (.int .i64 (((Yl r (l.drop k.toNat) k best at1 all).2.1).lo)),.v (.int .i64 (((Yl r (l.drop k.toNat) k best at1 all).2.1).hi)),.v (.bool (((Yl r (l.drop k.toNat) k best at1 all).2.1).no))]),(5,[.v (.int .i64 z.lo),.v (.int .i64 z.hi),.v (.bool z.no)])],[],[],[]⟩
def Zit:ZcN St:=fun k n l all best at1 z r=>⟨80,[(4,.p (.v (.int .i64 (-1)))),(5,.ptr 5 0),(6,.p (.v (.int .i64 0)))],[(5,[.v (.int .i64 none'.lo),.v (.int .i64 none'.hi),.v (.bool none'.no)])],[],[],[]⟩
def ZcO:ZcN Prop:=fun k n l all best at1 z r=>(0≤k∧k≤l.length∧n=l.length∧n≤1000000)∧((all.length:Int)≤k)
def ZaV:ZcN Bool:=fun k n l all best at1 z r=>unsure r (l.drop k.toNat)
def Zo7:LSum:=LSg Y6 80 (fT 20 cI<|fT 19 cI<|fT 18 (cL Shape.enc Shape.dec)<|fT 9 (cL Iv.enc Iv.dec)<|fT 7 cI<|fP 8 8 0<|fP 5 5 0<|fP 3 3 0<|fb 8 Iv.enc gIv Zb1<|fb 5 Iv.enc gIv Zb1<|fb 3 Ray.enc Zwu ZuT<|fZ) [] [(.t 9,26)] Zo6 (V8 ZcO) fun y K=>bif V8 ZaV y then K .ret (V8 Zit y) else K (.exit 0) (V8 Zis y)
abbrev ZgR(R_:Type):=Int→Int→(List Iv)→Int→Int→(List Iv)→Iv→Iv→R_
def Zw2:ZgR St:=fun i n all near best al2 at1 z=>⟨80,[(60,pI i),(59,pI n),(58,.p (.lst (all.map Iv.enc))),(14,pI near),(5,.ptr 5 0),(7,pI best),(8,.ptr 8 0),(9,.p (.lst (al2.map Iv.enc)))],[(8,Iv.enc at1),(5,Iv.enc z)],[],[],[]⟩
def Zmh:KpH:=⟨⟨[60,59,58,14,5,7,8,9],[8,5],[]⟩,[]⟩
def ZtR:KpH:=⟨⟨[5,7,8,9,14],[8,5],[]⟩,[]⟩
abbrev ZtS:KpH:=kr0
def ZgS:ZgR St:=fun i n all near best al2 at1 z=>⟨80,[(5,.ptr 5 0),(7,.p (.v (.int .i64 best))),(8,.ptr 8 0),(9,.p (.lst (al2.map Iv.enc))),(14,.p (.v (.int .i64 (near+behind at1 (all.drop i.toNat)))))],[(8,[.v (.int .i64 at1.lo),.v (.int .i64 at1.hi),.v (.bool at1.no)]),(5,[.v (.int .i64 z.lo),.v (.int .i64 z.hi),.v (.bool z.no)])],[],[],[]⟩
def Zb2:ZgR Prop:=fun i n all near best al2 at1 z=>(0≤i∧i≤all.length∧n=all.length∧n≤1000000∧0≤near∧near≤i)∧(al2=all)
def Zmi:LSum:=LSg Y6 80 (fT 60 cI<|fT 59 cI<|fT 58 (cL Iv.enc Iv.dec)<|fT 14 cI<|fP 5 5 0<|fT 7 cI<|fP 8 8 0<|fT 9 (cL Iv.enc Iv.dec)<|fb 8 Iv.enc gIv Zb1<|fb 5 Iv.enc gIv Zb1<|fZ) [] [] Zmh (V8 Zb2) fun y K=>K (.exit 3) (V8 ZgS y)
abbrev JF(R_:Type):=Int→Bool→Ray→Surf→Iv→Iv→Iv→Iv→Iv→Iv→Iv→Iv→Iv→R_
def Zo8:JF St:=fun k sure r s t z x8 x9 x10 x11 x12 x13 x14=>⟨95,[(16,pI k),(4,.ptr 4 0),(6,.ptr 6 0),(8,.ptr 8 0),(9,.ptr 9 0),(10,.ptr 10 0),(11,.ptr 11 0),(12,.ptr 12 0),(13,.ptr 13 0),(14,.ptr 14 0),(15,.p (vB sure)),(0,.p (.fn 211 [.lptr (Ray.enc r) 0,.lptr (Surf.enc s) 0]))],[(4,Iv.enc t),(6,Iv.enc z),(8,Iv.enc x8),(9,Iv.enc x9),(10,Iv.enc x10),(11,Iv.enc x11),(12,Iv.enc x12),(13,Iv.enc x13),(14,Iv.enc x14)],[],[],[]⟩
def Ziu:KpH:=⟨⟨[16,4,6,8,9,10,11,12,13,14,15,0],[4,6,8,9,10,11,12,13,14],[]⟩,[]⟩
def Zw3:KpH:=⟨⟨[6,4,15],[6,4],[]⟩,[]⟩
def Zw4:KpH:=⟨⟨[6,7],[6],[]⟩,[]⟩
def Zfa:JF St:=fun k sure r s t z x8 x9 x10 x11 x12 x13 x14=>⟨95,[(6,.ptr 6 0),(4,.ptr 4 0),(15,.p (.v (.bool ((X5 (Zv s r) k.toNat t sure).2.2))))],[(6,[.v (.int .i64 z.lo),.v (.int .i64 z.hi),.v (.bool z.no)]),(4,[.v (.int .i64 (((X5 (Zv s r) k.toNat t sure).2.1).lo)),.v (.int .i64 (((X5 (Zv s r) k.toNat t sure).2.1).hi)),.v (.bool (((X5 (Zv s r) k.toNat t sure).2.1).no))])],[],[],[]⟩
def Ziv:JF St:=fun k sure r s t z x8 x9 x10 x11 x12 x13 x14=>⟨95,[(6,.ptr 6 0),(7,.p (.v (.int .i64 2)))],[(6,[.v (.int .i64 none'.lo),.v (.int .i64 none'.hi),.v (.bool none'.no)])],[],[],[]⟩
def Zfb:JF St:=fun k sure r s t z x8 x9 x10 x11 x12 x13 x14=>⟨95,[(6,.ptr 6 0),(4,.ptr 4 0),(15,.p (.v (.bool ((X5 (Zv s r) k.toNat t sure).2.2))))],[(6,[.v (.int .i64 z.lo),.v (.int .i64 z.hi),.v (.bool z.no)]),(4,[.v (.int .i64 (((X5 (Zv s r) k.toNat t sure).2.1).lo)),.v (.int .i64 (((X5 (Zv s r) k.toNat t sure).2.1).hi)),.v (.bool (((X5 (Zv s r) k.toNat t sure).2.1).no))])],[],[],[]⟩
def Zfc:JF Prop:=fun k sure r s t z x8 x9 x10 x11 x12 x13 x14=>(0≤k∧k≤1000)
def WX:JF Bool:=fun k sure r s t z x8 x9 x10 x11 x12 x13 x14=>(X5 (Zv s r) k.toNat t sure).1==1
def JG:JF Bool:=fun k sure r s t z x8 x9 x10 x11 x12 x13 x14=>(X5 (Zv s r) k.toNat t sure).1==2
def Zfd:LSum:=fun σ K=>match Zbr Y6 Ziu σ with
 | some ⟨95,[(16,.p (.v (.int .i64 p1))),(4,.ptr 4 0),(6,.ptr 6 0),(8,.ptr 8 0),(9,.ptr 9 0),(10,.ptr 10 0),(11,.ptr 11 0),(12,.ptr 12 0),(13,.ptr 13 0),(14,.ptr 14 0),(15,.p (.v (.bool p2))),(0,.p (.fn 211 [.lptr p3 0,.lptr p4 0]))],[(4,p5),(6,p6),(8,p7),(9,p8),(10,p9),(11,p10),(12,p11),(13,p12),(14,p13)],[],[],[]⟩=>alls [p3=Ray.enc (Ray.dec p3),p4=Surf.enc (Surf.dec p4),p5=Iv.enc (Iv.dec p5),p6=Iv.enc (Iv.dec p6),p7=Iv.enc (Iv.dec p7),p8=Iv.enc (Iv.dec p8),p9=Iv.enc (Iv.dec p9),p10=Iv.enc (Iv.dec p10),p11=Iv.enc (Iv.dec p11),p12=Iv.enc (Iv.dec p12),p13=Iv.enc (Iv.dec p13),Zfc p1 p2 (Ray.dec p3) (Surf.dec p4) (Iv.dec p5) (Iv.dec p6) (Iv.dec p7) (Iv.dec p8) (Iv.dec p9) (Iv.dec p10) (Iv.dec p11) (Iv.dec p12) (Iv.dec p13)] (bif WX p1 p2 (Ray.dec p3) (Surf.dec p4) (Iv.dec p5) (Iv.dec p6) (Iv.dec p7) (Iv.dec p8) (Iv.dec p9) (Iv.dec p10) (Iv.dec p11) (Iv.dec p12) (Iv.dec p13) then K .ret (Ziv p1 p2 (Ray.dec p3) (Surf.dec p4) (Iv.dec p5) (Iv.dec p6) (Iv.dec p7) (Iv.dec p8) (Iv.dec p9) (Iv.dec p10) (Iv.dec p11) (Iv.dec p12) (Iv.dec p13)) else (bif JG p1 p2 (Ray.dec p3) (Surf.dec p4) (Iv.dec p5) (Iv.dec p6) (Iv.dec p7) (Iv.dec p8) (Iv.dec p9) (Iv.dec p10) (Iv.dec p11) (Iv.dec p12) (Iv.dec p13) then K (.goto 0) (Zfb p1 p2 (Ray.dec p3) (Surf.dec p4) (Iv.dec p5) (Iv.dec p6) (Iv.dec p7) (Iv.dec p8) (Iv.dec p9) (Iv.dec p10) (Iv.dec p11) (Iv.dec p12) (Iv.dec p13)) else (K (.exit 0) (Zfa p1 p2 (Ray.dec p3) (Surf.dec p4) (Iv.dec p5) (Iv.dec p6) (Iv.dec p7) (Iv.dec p8) (Iv.dec p9) (Iv.dec p10) (Iv.dec p11) (Iv.dec p12) (Iv.dec p13)))))
 | _=>False
abbrev ZcP(R_:Type):=Int→Int→(List Surf)→TrRes→Ray→SysM→R_
def Zzr:ZcP St:=fun i n l z r s=>⟨36,[(12,pI i),(11,pI n),(10,.p (.lst (l.map Surf.enc))),(4,.ptr 4 0),(3,.ptr 3 0),(2,.ptr 2 0)],[(4,TrRes.enc z),(3,Ray.enc r),(2,SysM.enc s)],[],[],[]⟩
def Zo9:KpH:=⟨⟨[12,11,10,4,3,2],[4,3,2],[]⟩,[]⟩
def Zw5:KpH:=⟨⟨[4,3,2],[4,3,2],[]⟩,[]⟩
def Zw6:KpH:=⟨⟨[4],[4],[]⟩,[]⟩
def Ziw:ZcP St:=fun i n l z r s=>⟨36,[(4,.ptr 4 0),(3,.ptr 3 0),(2,.ptr 2 0)],[(4,TrRes.enc z),(3,[.v (.int .i64 (((((ZD (l.drop i.toNat) i r).r).o).x).lo)),.v (.int .i64 (((((ZD (l.drop i.toNat) i r).r).o).x).hi)),.v (.bool (((((ZD (l.drop i.toNat) i r).r).o).x).no)),.v (.int .i64 (((((ZD (l.drop i.toNat) i r).r).o).y).lo)),.v (.int .i64 (((((ZD (l.drop i.toNat) i r).r).o).y).hi)),.v (.bool (((((ZD (l.drop i.toNat) i r).r).o).y).no)),.v (.int .i64 (((((ZD (l.drop i.toNat) i r).r).o).z).lo)),.v (.int .i64 (((((ZD (l.drop i.toNat) i r).r).o).z).hi)),.v (.bool (((((ZD (l.drop i.toNat) i r).r).o).z).no)),.v (.int .i64 (((((ZD (l.drop i.toNat) i r).r).d).x).lo)),.v (.int .i64 (((((ZD (l.drop i.toNat) i r).r).d).x).hi)),.v (.bool (((((ZD (l.drop i.toNat) i r).r).d).x).no)),.v (.int .i64 (((((ZD (l.drop i.toNat) i r).r).d).y).lo)),.v (.int .i64 (((((ZD (l.drop i.toNat) i r).r).d).y).hi)),.v (.bool (((((ZD (l.drop i.toNat) i r).r).d).y).no)),.v (.int .i64 (((((ZD (l.drop i.toNat) i r).r).d).z).lo)),.v (.int .i64 (((((ZD (l.drop i.toNat) i r).r).d).z).hi)),.v (.bool (((((ZD (l.drop i.toNat) i r).r).d).z).no))]),(2,SysM.enc s)],[],[],[]⟩
def Zix:ZcP St:=fun i n l z r s=>⟨36,[(4,.ptr 4 0)],[(4,TrRes.enc (ZD (l.drop i.toNat) i r))],[],[],[]⟩
def ZaW:ZcP Prop:=fun i n l z r s=>(0≤i∧i≤l.length∧n=l.length∧l.length≤1000000∧l=s.surfs)
def ZaX:ZcP Bool:=fun i n l z r s=>(ZD (l.drop i.toNat) i r).kind !=1
def ZoA:LSum:=LSg Y6 36 (fT 12 cI<|fT 11 cI<|fT 10 (cL Surf.enc Surf.dec)<|fP 4 4 0<|fP 3 3 0<|fP 2 2 0<|fB 4 TrRes.enc TrRes.dec<|fB 3 Ray.enc Ray.dec<|fB 2 SysM.enc SysM.dec<|fZ) [] [] Zo9 (V6 ZaW) fun y K=>bif V6 ZaX y then K .ret (V6 Zix y) else K (.exit 0) (V6 Ziw y)
abbrev Zb3(R_:Type):=Int→(List UInt8)→R_
def Zw7:Zb3 St:=fun i s=>⟨29,[(3,pI i),(0,.p (.str s))],[],[],[],[]⟩
def Zmj:KpH:=⟨⟨[3,0],[],[]⟩,[]⟩
def ZtT:KpH:=⟨⟨[],[],[]⟩,[]⟩
def ZtU:KpH:=⟨⟨[2],[],[]⟩,[]⟩
def ZgT:Zb3 St:=fun i s=>⟨29,[],[],[],[],[]⟩
def ZgU:Zb3 St:=fun i s=>⟨29,[(2,.p (.v (.bool false)))],[],[],[],[]⟩
def Zaa:Zb3 Prop:=fun i s=>(0≤i∧i≤s.length∧s.length≤20)
def Jd:Zb3 Bool:=fun i s=> !((s.drop i.toNat).all ZgM)
def Zmk:LSum:=LSg Y6 29 (fT 3 cI<|fT 0 cS<|fZ) [] [] Zmj (V2 Zaa) fun y K=>bif V2 Jd y then K .ret (V2 ZgU y) else K (.exit 0) (V2 ZgT y)
abbrev Jq(R_:Type):=Int→(List Glass)→(List UInt8)→Glass→R_
def Zpc:Jq St:=fun i l n z=>⟨25,[(4,.ptr 4 0),(6,pI i),(0,.p (.lst (l.map Glass.enc))),(1,.p (.str n))],[(4,Glass.enc z)],[],[],[]⟩
def Zht:KpH:=⟨⟨[4,6,0,1],[4],[]⟩,[]⟩
def ZnN:KpH:=⟨⟨[4],[4],[]⟩,[]⟩
def ZnO:KpH:=⟨⟨[4,5],[4],[]⟩,[]⟩
def Zdh:Jq St:=fun i l n z=>⟨25,[(4,.ptr 4 0)],[(4,Glass.enc z)],[],[],[]⟩
def Zdi:Jq St:=fun i l n z=>⟨25,[(4,.ptr 4 0),(5,.p (.v (.bool true)))],[(4,Glass.enc ((YH (l.drop i.toNat) n).1))],[],[],[]⟩
def Ws:Jq Prop:=fun i l n z=>(0≤i∧i≤l.length∧l.length≤140737488355328)
def Wt:Jq Bool:=fun i l n z=>(YH (l.drop i.toNat) n).2
def Zhu:LSum:=LSg Y6 25 (fP 4 4 0<|fT 6 cI<|fT 0 (cL Glass.enc Glass.dec)<|fT 1 cS<|fB 4 Glass.enc Glass.dec<|fZ) [] [] Zht (V4 Ws) fun y K=>bif V4 Wt y then K .ret (V4 Zdi y) else K (.exit 0) (V4 Zdh y)
abbrev ZcQ(R_:Type):=Int→(List Face)→R_
def Zzs:ZcQ St:=fun i l=>⟨16,[(3,pI i),(0,.p (.lst (l.map Face.enc)))],[],[],[],[]⟩
def ZoB:KpH:=⟨⟨[3,0],[],[]⟩,[]⟩
def Zw8:KpH:=⟨⟨[],[],[]⟩,[]⟩
def Zw9:KpH:=⟨⟨[2],[],[]⟩,[]⟩
def Ziy:ZcQ St:=fun i l=>⟨16,[],[],[],[],[]⟩
def Ziz:ZcQ St:=fun i l=>⟨16,[(2,.p (.v (.bool true)))],[],[],[],[]⟩
def ZaY:ZcQ Prop:=fun i l=>(0≤i∧i≤l.length∧l.length≤140737488355328)
def ZaZ:ZcQ Bool:=fun i l=>X4 (l.drop i.toNat)
def ZoC:LSum:=LSg Y6 16 (fT 3 cI<|fT 0 (cL Face.enc Face.dec)<|fZ) [] [] ZoB (V2 ZaY) fun y K=>bif V2 ZaZ y then K .ret (V2 Ziz y) else K (.exit 0) (V2 Ziy y)
abbrev Jr(R_:Type):=Int→Bool→(List Glass)→LensM→R_
def Zpd:Jr St:=fun i sm g l=>⟨55,[(6,pI i),(2,.ptr 2 0),(5,.p (vB sm)),(1,.p (.lst (g.map Glass.enc)))],[(2,LensM.enc l)],[],[],[]⟩
def Zhv:KpH:=⟨⟨[6,2,5,1],[2],[]⟩,[]⟩
def ZnP:KpH:=⟨⟨[5],[],[]⟩,[]⟩
def ZnQ:KpH:=⟨⟨[4],[],[]⟩,[]⟩
def Zdj:Jr St:=fun i sm g l=>⟨55,[(5,.p (.v (.bool (sm||X4 (l.faces.drop i.toNat)))))],[],[],[],[]⟩
def Zdk:Jr St:=fun i sm g l=>⟨55,[(4,.p (.v (.bool false)))],[],[],[],[]⟩
def Wu:Jr Prop:=fun i sm g l=>(0≤i∧i≤l.faces.length∧l.faces.length≤12∧g.length≤140737488355328)
def Wv:Jr Bool:=fun i sm g l=> !((l.faces.drop i.toNat).all (WW · g))
def Zhw:LSum:=LSg Y6 55 (fT 6 cI<|fP 2 2 0<|fT 5 cB<|fT 1 (cL Glass.enc Glass.dec)<|fB 2 LensM.enc LensM.dec<|fZ) [] [] Zhv (V4 Wu) fun y K=>bif V4 Wv y then K .ret (V4 Zdk y) else K (.exit 0) (V4 Zdj y)
abbrev JH(R_:Type):=Int→SysM→R_
def ZrG:JH St:=fun i s=>⟨60,[(3,pI i),(1,.ptr 1 0)],[(1,SysM.enc s)],[],[],[]⟩
def Zi0:KpH:=⟨⟨[3,1],[1],[]⟩,[]⟩
def Zpe:KpH:=⟨⟨[1],[1],[]⟩,[]⟩
def Zpf:KpH:=⟨⟨[2],[],[]⟩,[]⟩
def Zer:JH St:=fun i s=>⟨60,[(1,.ptr 1 0)],[(1,SysM.enc s)],[],[],[]⟩
def Zes:JH St:=fun i s=>⟨60,[(2,.p (.v (.bool false)))],[],[],[],[]⟩
def WM:JH Prop:=fun i s=>(0≤i∧i≤s.surfs.length∧s.surfs.length≤140737488355328)
def WN:JH Bool:=fun i s=> !((s.surfs.drop i.toNat).all W0)
def Zi1:LSum:=LSg Y6 60 (fT 3 cI<|fP 1 1 0<|fB 1 SysM.enc SysM.dec<|fZ) [] [] Zi0 (V2 WM) fun y K=>bif V2 WN y then K .ret (V2 Zes y) else K (.exit 0) (V2 Zer y)
abbrev ZgV(R_:Type):=Int→(List Glass)→SysM→Iv→Iv→Iv→Iv→LensM→SysM→R_
def Zml:ZgV St:=fun i g s pos ix w one l z=>⟨126,[(12,pI i),(9,.ptr 9 0),(10,.ptr 10 0),(11,.ptr 11 0),(5,.ptr 5 0),(1,.p (.lst (g.map Glass.enc))),(8,.ptr 8 0),(3,.ptr 3 0),(6,.ptr 6 0)],[(9,SysM.enc s),(10,Iv.enc pos),(11,Iv.enc ix),(5,Iv.enc w),(8,Iv.enc one),(3,LensM.enc l),(6,SysM.enc z)],[],[(.b 9 0,151),(.b 6 0,151)],[]⟩
def Zmm:KpH:=⟨⟨[12,9,10,11,5,1,8,3,6],[9,10,11,5,8,3,6],[.b 9 0,.b 6 0]⟩,[(.b 9 0,151),(.b 6 0,151)]⟩
def ZtV:KpH:=⟨⟨[6,9],[6,9],[]⟩,[]⟩
abbrev ZtW:KpH:=kr0
def Zdw:ZgV St:=fun i g s pos ix w one l z=>⟨126,[(6,.ptr 6 0),(9,.ptr 9 0)],[(6,SysM.enc z),(9,SysM.enc (⟨s.surfs++Wq g w (l.faces.drop i.toNat) pos ix,s.op⟩))],[],[],[]⟩
def Zb4:ZgV Prop:=fun i g s pos ix w one l z=>(0≤i∧i≤l.faces.length∧l.faces.length≤12∧g.length≤140737488355328∧(s.surfs.length:Int)=i)∧(one=point 65536)
def Zmn:LSum:=LSg Y6 126 (fT 12 cI<|fP 9 9 0<|fP 10 10 0<|fP 11 11 0<|fP 5 5 0<|fT 1 (cL Glass.enc Glass.dec)<|fP 8 8 0<|fP 3 3 0<|fP 6 6 0<|fB 9 SysM.enc SysM.dec<|fb 10 Iv.enc gIv Zb1<|fb 11 Iv.enc gIv Zb1<|fb 5 Iv.enc gIv Zb1<|fb 8 Iv.enc gIv Zb1<|fB 3 LensM.enc LensM.dec<|fB 6 SysM.enc SysM.dec<|fZ) [] [(.b 9 0,151),(.b 6 0,151)] Zmm (V9 Zb4) fun y K=>K (.exit 0) (V9 Zdw y)
abbrev ZgW(R_:Type):=Int→(List Face)→LensM→LensM→R_
def Zmo:ZgW St:=fun i out l z=>⟨29,[(4,pI i),(3,.p (.lst (out.map Face.enc))),(1,.ptr 1 0),(2,.ptr 2 0)],[(1,LensM.enc l),(2,LensM.enc z)],[],[(.t 3,144),(.b 2 3,144)],[]⟩
def Zmp:KpH:=⟨⟨[4,3,1,2],[1,2],[.t 3,.b 2 3]⟩,[(.t 3,144),(.b 2 3,144)]⟩
def ZtX:KpH:=⟨⟨[2,1,3],[1,2],[]⟩,[]⟩
abbrev ZtY:KpH:=kr0
def Zdx:ZgW St:=fun i out l z=>⟨29,[(2,.ptr 2 0),(1,.ptr 1 0),(3,.p (.lst ((out++(l.faces.drop i.toNat).map Zmc).map Face.enc)))],[(1,LensM.enc l),(2,LensM.enc z)],[],[],[]⟩
def Zb5:ZgW Prop:=fun i out l z=>(0≤i∧i≤l.faces.length∧l.faces.length≤1000∧(out.length:Int)=i)
def Zmq:LSum:=LSg Y6 29 (fT 4 cI<|fT 3 (cL Face.enc Face.dec)<|fP 1 1 0<|fP 2 2 0<|fB 1 LensM.enc LensM.dec<|fB 2 LensM.enc LensM.dec<|fZ) [] [(.t 3,144),(.b 2 3,144)] Zmp (V4 Zb5) fun y K=>K (.exit 0) (V4 Zdx y)
abbrev Zb6(R_:Type):=Int→(List Glass)→(List I)→R_
def Zfe:Zb6 St:=fun i out l=>⟨80,[(4,pI i),(3,.p (.lst (out.map Glass.enc))),(0,.p (.lst (l.map I.enc)))],[],[],[(.t 3,140)],[]⟩
def Zff:KpH:=⟨⟨[4,3,0],[],[.t 3]⟩,[(.t 3,140)]⟩
def ZkQ:KpH:=⟨⟨[3],[],[]⟩,[]⟩
abbrev ZkR:KpH:=kr0
def Jz:Zb6 St:=fun i out l=>⟨80,[(3,.p (.lst ((out++Zeg (3 - i).toNat l i).map Glass.enc)))],[],[],[],[]⟩
def XC:Zb6 Prop:=fun i out l=>(0≤i∧i≤3∧l.length≤140737488355328∧(out.length:Int)=i+2)
def Zb7:LSum:=LSg Y6 80 (fT 4 cI<|fT 3 (cL Glass.enc Glass.dec)<|fT 0 (cL I.enc I.dec)<|fZ) [] [(.t 3,140)] Zff (V3 XC) fun y K=>K (.exit 0) (V3 Jz y)
abbrev Zet(R_:Type):=Int→(List I)→Int→SysM→SysM→R_
def Zi2:Zet St:=fun i l zz s z=>⟨48,[(5,pI i),(0,.p (.lst (l.map I.enc))),(4,pI zz),(3,.ptr 3 0),(2,.ptr 2 0)],[(3,SysM.enc s),(2,SysM.enc z)],[],[(.b 3 0,151),(.b 2 0,151)],[]⟩
def Zi3:KpH:=⟨⟨[5,0,4,3,2],[3,2],[.b 3 0,.b 2 0]⟩,[(.b 3 0,151),(.b 2 0,151)]⟩
def Zpg:KpH:=⟨⟨[2,3],[2,3],[]⟩,[]⟩
abbrev Zph:KpH:=kr0
def Zb8:Zet St:=fun i l zz s z=>⟨48,[(2,.ptr 2 0),(3,.ptr 3 0)],[(2,SysM.enc z),(3,SysM.enc (⟨s.surfs++XK (4 - i).toNat l i zz,s.op⟩))],[],[],[]⟩
def WO:Zet Prop:=fun i l zz s z=>(0≤i∧i≤4∧l.length≤140737488355328∧(s.surfs.length:Int)=i)
def Zi4:LSum:=LSg Y6 48 (fT 5 cI<|fT 0 (cL I.enc I.dec)<|fT 4 cI<|fP 3 3 0<|fP 2 2 0<|fB 3 SysM.enc SysM.dec<|fB 2 SysM.enc SysM.dec<|fZ) [] [(.b 3 0,151),(.b 2 0,151)] Zi3 (V5 WO) fun y K=>K (.exit 0) (V5 Zb8 y)
abbrev Zeu(R_:Type):=Int→(List Glass)→(List RawFace)→Int→LensM→LensM→R_
def Zi5:Zeu St:=fun i g l most u z=>⟨166,[(10,pI i),(9,.ptr 9 0),(2,.p (.lst (g.map Glass.enc))),(1,.p (.lst (l.map RawFace.enc))),(8,.ptr 8 0),(3,pI most)],[(9,LensM.enc u),(8,LensM.enc z)],[],[(.b 9 3,144),(.b 8 3,144)],[]⟩
def Zi6:KpH:=⟨⟨[10,9,2,1,8,3],[9,8],[.b 9 3,.b 8 3]⟩,[(.b 9 3,144),(.b 8 3,144)]⟩
def Zpi:KpH:=⟨⟨[8,9],[8,9],[.b 9 3]⟩,[(.b 9 3,144)]⟩
abbrev Zpj:KpH:=kr0
def JI:Zeu St:=fun i g l most u z=>⟨166,[(8,.ptr 8 0),(9,.ptr 9 0)],[(8,LensM.enc z),(9,LensM.enc (⟨u.name,u.back,Wd g most (l.drop i.toNat) i u.faces⟩))],[],[(.b 9 3,144)],[]⟩
def JJ:Zeu Prop:=fun i g l most u z=>(0≤i∧i≤l.length∧l.length≤140737488355328∧g.length≤1000∧most≤1000∧(u.faces.length:Int)≤1000)
def Zi7:LSum:=LSg Y6 166 (fT 10 cI<|fP 9 9 0<|fT 2 (cL Glass.enc Glass.dec)<|fT 1 (cL RawFace.enc RawFace.dec)<|fP 8 8 0<|fT 3 cI<|fB 9 LensM.enc LensM.dec<|fB 8 LensM.enc LensM.dec<|fZ) [] [(.b 9 3,144),(.b 8 3,144)] Zi6 (V6 JJ) fun y K=>K (.exit 0) (V6 JI y)
abbrev Zev(R_:Type):=Int→(List Cx)→I→Int→R_
def ZrH:Zev St:=fun i l n m=>⟨19,[(8,pI i),(0,.p (.lst (l.map Cx.enc))),(1,.p (.fn 27 [.lptr (I.enc n) 0])),(7,pI m)],[],[],[],[]⟩
def ZkS:KpH:=⟨⟨[8,0,1,7],[],[]⟩,[]⟩
def Zzt:KpH:=⟨⟨[],[],[]⟩,[]⟩
def Zzu:KpH:=⟨⟨[4],[],[]⟩,[]⟩
def ZkT:Zev St:=fun i l n m=>⟨19,[],[],[],[],[]⟩
def ZgX:Zev St:=fun i l n m=>⟨19,[(4,.p (.v (.int .i64 (YM (fun z=> !YO z n.n) (l.drop i.toNat) i))))],[],[],[],[]⟩
def Zew:Zev Prop:=fun i l n m=>(0≤i∧i≤l.length∧m=l.length∧m≤140737488355328)
def JK:Zev Bool:=fun i l n m=>(l.drop i.toNat).any (fun z=> !YO z n.n)
def ZkU:LSum:=fun σ K=>match Zbr Y6 ZkS σ with
 | some ⟨19,[(8,.p (.v (.int .i64 p1))),(0,.p (.lst p2)),(1,.p (.fn 27 [.lptr p3 0])),(7,.p (.v (.int .i64 p4)))],[],[],[],[]⟩=>alls [p2=(Zd Cx.dec p2).map Cx.enc,p3=I.enc (I.dec p3),Zew p1 (Zd Cx.dec p2) (I.dec p3) p4] (bif JK p1 (Zd Cx.dec p2) (I.dec p3) p4 then K .ret (ZgX p1 (Zd Cx.dec p2) (I.dec p3) p4) else (K (.exit 0) (ZkT p1 (Zd Cx.dec p2) (I.dec p3) p4)))
 | _=>False
abbrev Zex(R_:Type):=Int→(List SysM)→Int→R_
def ZrI:Zex St:=fun i l n=>⟨19,[(8,pI i),(0,.p (.lst (l.map SysM.enc))),(1,.p (.fn 30 [])),(7,pI n)],[],[],[],[]⟩
def ZkV:KpH:=⟨⟨[8,0,1,7],[],[]⟩,[]⟩
def Zzv:KpH:=⟨⟨[],[],[]⟩,[]⟩
def Zzw:KpH:=⟨⟨[4],[],[]⟩,[]⟩
def ZkW:Zex St:=fun i l n=>⟨19,[],[],[],[],[]⟩
def ZgY:Zex St:=fun i l n=>⟨19,[(4,.p (.v (.int .i64 (YM Xq (l.drop i.toNat) i))))],[],[],[],[]⟩
def Zey:Zex Prop:=fun i l n=>(0≤i∧i≤l.length∧n=l.length∧n≤140737488355328)
def JL:Zex Bool:=fun i l n=>(l.drop i.toNat).any Xq
def ZkX:LSum:=fun σ K=>match Zbr Y6 ZkV σ with
 | some ⟨19,[(8,.p (.v (.int .i64 p1))),(0,.p (.lst p2)),(1,.p (.fn 30 [])),(7,.p (.v (.int .i64 p3)))],[],[],[],[]⟩=>alls [p2=(Zd SysM.dec p2).map SysM.enc,Zey p1 (Zd SysM.dec p2) p3] (bif JL p1 (Zd SysM.dec p2) p3 then K .ret (ZgY p1 (Zd SysM.dec p2) p3) else (K (.exit 0) (ZkW p1 (Zd SysM.dec p2) p3)))
 | _=>False
abbrev Zez(R_:Type):=(List Shape)→Int→(List Cx)→(List Cx)→Int→Int→Int→Int→Int→Int→Int→Int→(List Pixel)→Int→Pixel→Int→Iv→Iv→S3→R_
def ZrJ:Zez St:=fun l k ds2 ds h j pitch w h2 j2 w2 i2 out m p n yy xx s=>⟨114,[(23,.ptr 23 0),(12,.ptr 12 0),(22,.ptr 22 0),(21,.ptr 21 0),(1,.p (.lst (l.map Shape.enc))),(7,.ptr 7 0),(88,pI k),(86,.p (.lst (ds2.map Cx.enc))),(6,.p (.lst (ds.map Cx.enc))),(3,pI h),(19,pI j),(4,pI pitch),(2,pI w),(62,pI h2),(63,pI j2),(66,pI w2),(67,pI i2),(18,.p (.lst (out.map Pixel.enc))),(87,pI m)],[(23,Pixel.enc p),(12,[vI n]),(22,Iv.enc yy),(21,Iv.enc xx),(7,S3.enc s)],[7],[(.t 18,44)],[]⟩
def Zi8:KpH:=⟨⟨[23,12,22,21,1,7,88,86,6,3,19,4,2,62,63,66,67,18,87],[23,12,22,21,7],[.t 18]⟩,[(.t 18,44)]⟩
def Zpk:KpH:=⟨⟨[12,1,7,6,3,19,4,2,62,63,66,67,23,18],[12,7,23],[.t 18]⟩,[(.t 18,44)]⟩
abbrev Zpl:KpH:=kr0
def Zb9:Zez St:=fun l k ds2 ds h j pitch w h2 j2 w2 i2 out m p n yy xx s=>⟨114,[(12,.ptr 12 0),(1,.p (.lst (l.map Shape.enc))),(7,.ptr 7 0),(6,.p (.lst (ds.map Cx.enc))),(3,.p (.v (.int .i64 h))),(19,.p (.v (.int .i64 j))),(4,.p (.v (.int .i64 pitch))),(2,.p (.v (.int .i64 w))),(62,.p (.v (.int .i64 h2))),(63,.p (.v (.int .i64 j2))),(66,.p (.v (.int .i64 w2))),(67,.p (.v (.int .i64 i2))),(23,.ptr 23 0),(18,.p (.lst (out.map Pixel.enc)))],[(12,[.v (.int .i64 n)]),(7,S3.enc s),(23,Pixel.enc (JY s l xx yy n (ds.drop k.toNat) p))],[7],[(.t 18,44)],[]⟩
def WP:Zez Prop:=fun l k ds2 ds h j pitch w h2 j2 w2 i2 out m p n yy xx s=>(0≤k∧k≤ds.length∧ds2=ds∧m=ds.length∧ds.length≤16)∧(l.length≤1000000∧s.a.surfs.length≤1000000∧s.b.surfs.length≤1000000∧s.c.surfs.length≤1000000)
def JM:LSum:=LSg Y6 114 (fP 23 23 0<|fP 12 12 0<|fP 22 22 0<|fP 21 21 0<|fT 1 (cL Shape.enc Shape.dec)<|fP 7 7 0<|fT 88 cI<|fT 86 (cL Cx.enc Cx.dec)<|fT 6 (cL Cx.enc Cx.dec)<|fT 3 cI<|fT 19 cI<|fT 4 cI<|fT 2 cI<|fT 62 cI<|fT 63 cI<|fT 66 cI<|fT 67 cI<|fT 18 (cL Pixel.enc Pixel.dec)<|fT 87 cI<|fB 23 Pixel.enc Pixel.dec<|fb 12 eI1 gI1 Zr9<|fB 22 Iv.enc Iv.dec<|fB 21 Iv.enc Iv.dec<|fB 7 S3.enc S3.dec<|fZ) [7] [(.t 18,44)] Zi8 (V19 WP) fun y K=>K (.exit 4) (V19 Zb9 y)
abbrev Ze0(R_:Type):=(List Shape)→Int→(List Pixel)→(List Cx)→Int→Int→Int→Int→Int→Int→Int→Int→S3→R_
def Zi9:Ze0 St:=fun l i out ds h j pitch w h2 j2 w2 n s=>⟨114,[(12,.ptr 12 0),(1,.p (.lst (l.map Shape.enc))),(7,.ptr 7 0),(67,pI i),(18,.p (.lst (out.map Pixel.enc))),(6,.p (.lst (ds.map Cx.enc))),(3,pI h),(19,pI j),(4,pI pitch),(2,pI w),(62,pI h2),(63,pI j2),(66,pI w2)],[(12,[vI n]),(7,S3.enc s)],[7],[(.t 18,44)],[]⟩
def ZiA:KpH:=⟨⟨[12,1,7,67,18,6,3,19,4,2,62,63,66],[12,7],[.t 18]⟩,[(.t 18,44)]⟩
def Zpm:KpH:=⟨⟨[12,1,7,18,6,3,4,2,62,63],[12,7],[.t 18]⟩,[(.t 18,44)]⟩
abbrev Zpn:KpH:=kr0
def ZbA:Ze0 St:=fun l i out ds h j pitch w h2 j2 w2 n s=>⟨114,[(12,.ptr 12 0),(1,.p (.lst (l.map Shape.enc))),(7,.ptr 7 0),(18,.p (.lst ((out++Zeh (Xp s l w h pitch n ds j) (w - i).toNat i).map Pixel.enc))),(6,.p (.lst (ds.map Cx.enc))),(3,.p (.v (.int .i64 h))),(4,.p (.v (.int .i64 pitch))),(2,.p (.v (.int .i64 w))),(62,.p (.v (.int .i64 h2))),(63,.p (.v (.int .i64 j2)))],[(12,[.v (.int .i64 n)]),(7,S3.enc s)],[7],[(.t 18,44)],[]⟩
def WQ:Ze0 Prop:=fun l i out ds h j pitch w h2 j2 w2 n s=>(0≤i∧i≤w∧w=w2∧h≤16∧0≤j∧j≤16∧w≤16∧ds.length≤16∧(out.length:Int)≤16 *j+i)∧(l.length≤1000000∧s.a.surfs.length≤1000000∧s.b.surfs.length≤1000000∧s.c.surfs.length≤1000000)
def ZbB:LSum:=LSg Y6 114 (fP 12 12 0<|fT 1 (cL Shape.enc Shape.dec)<|fP 7 7 0<|fT 67 cI<|fT 18 (cL Pixel.enc Pixel.dec)<|fT 6 (cL Cx.enc Cx.dec)<|fT 3 cI<|fT 19 cI<|fT 4 cI<|fT 2 cI<|fT 62 cI<|fT 63 cI<|fT 66 cI<|fb 12 eI1 gI1 Zr9<|fB 7 S3.enc S3.dec<|fZ) [7] [(.t 18,44)] ZiA (V13 WQ) fun y K=>K (.exit 2) (V13 ZbA y)
abbrev Zf3(R_:Type):=(List Shape)→(List Pixel)→(List Cx)→Int→Int→Int→Int→Int→Int→S3→R_
def ZtZ:Zf3 St:=fun l out ds h pitch w j h2 n s=>⟨114,[(12,.ptr 12 0),(1,.p (.lst (l.map Shape.enc))),(7,.ptr 7 0),(18,.p (.lst (out.map Pixel.enc))),(6,.p (.lst (ds.map Cx.enc))),(3,pI h),(4,pI pitch),(2,pI w),(63,pI j),(62,pI h2)],[(12,[vI n]),(7,S3.enc s)],[7],[(.t 18,44)],[]⟩
def Zkg:KpH:=⟨⟨[12,1,7,18,6,3,4,2,63,62],[12,7],[.t 18]⟩,[(.t 18,44)]⟩
def ZrK:KpH:=⟨⟨[18],[],[]⟩,[]⟩
abbrev ZrL:KpH:=kr0
def Zcx:Zf3 St:=fun l out ds h pitch w j h2 n s=>⟨114,[(18,.p (.lst ((out++ZeY (Xp s l w h pitch n ds) w (h - j).toNat j).map Pixel.enc)))],[],[7],[],[]⟩
def Ju:Zf3 Prop:=fun l out ds h pitch w j h2 n s=>(0≤j∧j≤h∧h=h2∧h≤16∧0≤w∧w≤16∧ds.length≤16∧(out.length:Int)≤16 *j)∧(l.length≤1000000∧s.a.surfs.length≤1000000∧s.b.surfs.length≤1000000∧s.c.surfs.length≤1000000)
def Zf4:LSum:=LSg Y6 114 (fP 12 12 0<|fT 1 (cL Shape.enc Shape.dec)<|fP 7 7 0<|fT 18 (cL Pixel.enc Pixel.dec)<|fT 6 (cL Cx.enc Cx.dec)<|fT 3 cI<|fT 4 cI<|fT 2 cI<|fT 63 cI<|fT 62 cI<|fb 12 eI1 gI1 Zr9<|fB 7 S3.enc S3.dec<|fZ) [7] [(.t 18,44)] Zkg (V10 Ju) fun y K=>K (.exit 0) (V10 Zcx y)
abbrev ZiB(R_:Type):=Int→Int→(List Pixel)→Int→Bld→R_
def ZoD:ZiB St:=fun tw i ps m bl=>⟨73,[(10,.ptr 10 0),(9,pI tw),(45,pI i),(43,.p (.lst (ps.map Pixel.enc))),(44,pI m)],[(10,Bld.enc bl)],[],[(.b 10 1,5)],[]⟩
def ZoE:KpH:=⟨⟨[10,9,45,43,44],[10],[.b 10 1]⟩,[(.b 10 1,5)]⟩
def ZwA:KpH:=⟨⟨[10],[10],[.b 10 1]⟩,[(.b 10 1,5)]⟩
abbrev ZwB:KpH:=kr0
def Zfg:ZiB St:=fun tw i ps m bl=>⟨73,[(10,.ptr 10 0)],[(10,Bld.enc (⟨bl.txt++((ps.drop i.toNat).map (Zcv tw)).flatten⟩))],[],[(.b 10 1,5)],[]⟩
def WY:ZiB Prop:=fun tw i ps m bl=>(0≤i∧i≤ps.length∧m=ps.length∧ps.length≤256∧(bl.txt.length:Int)≤100+100 *i)∧((0≤tw∧tw≤32)∧∀p∈ps,ZnF p)
def ZiC:LSum:=LSg Y6 73 (fP 10 10 0<|fT 9 cI<|fT 45 cI<|fT 43 (cL Pixel.enc Pixel.dec)<|fT 44 cI<|fB 10 Bld.enc Bld.dec<|fZ) [] [(.b 10 1,5)] ZoE (V5 WY) fun y K=>K (.exit 0) (V5 Zfg y)
abbrev Zf5(R_:Type):=Int→Int→(List I)→(List Cx)→R_
def Zkh:Zf5 St:=fun i n l out=>⟨43,[(6,pI i),(1,pI n),(0,.p (.lst (l.map I.enc))),(5,.p (.lst (out.map Cx.enc)))],[],[],[(.t 5,41)],[]⟩
def Zki:KpH:=⟨⟨[6,1,0,5],[],[.t 5]⟩,[(.t 5,41)]⟩
def ZrM:KpH:=⟨⟨[5],[],[.t 5]⟩,[(.t 5,41)]⟩
abbrev ZrN:KpH:=kr0
def Zcy:Zf5 St:=fun i n l out=>⟨43,[(5,.p (.lst ((out++Wr n (5 - i).toNat l i).map Cx.enc)))],[],[],[(.t 5,41)],[]⟩
def Jv:Zf5 Prop:=fun i n l out=>(0≤i∧i≤5∧l.length≤140737488355328∧1≤n∧n≤8∧(out.length:Int)=i)
def Zf6:LSum:=LSg Y6 43 (fT 6 cI<|fT 1 cI<|fT 0 (cL I.enc I.dec)<|fT 5 (cL Cx.enc Cx.dec)<|fZ) [] [(.t 5,41)] Zki (V4 Jv) fun y K=>K (.exit 0) (V4 Zcy y)
abbrev Zf7(R_:Type):=Int→Int→(List Cx)→(List Cx)→Int→Int→Int→(List Cx)→S3→R_
def Zkj:Zf7 St:=fun i len d m n zz pitch e s=>⟨151,[(56,pI i),(55,pI len),(54,.p (.lst (d.map Cx.enc))),(15,.p (.lst (m.map Cx.enc))),(4,pI n),(2,pI zz),(3,pI pitch),(14,.p (.lst (e.map Cx.enc))),(13,.ptr 13 0)],[(13,S3.enc s)],[],[(.t 15,41)],[]⟩
def Zkk:KpH:=⟨⟨[56,55,54,15,4,2,3,14,13],[13],[.t 15]⟩,[(.t 15,41)]⟩
def ZrO:KpH:=⟨⟨[15,4,2,3,14,13],[13],[]⟩,[]⟩
abbrev ZrP:KpH:=kr0
def Zcz:Zf7 St:=fun i len d m n zz pitch e s=>⟨151,[(15,.p (.lst ((m++(d.drop i.toNat).map Zdg).map Cx.enc))),(4,.p (.v (.int .i64 n))),(2,.p (.v (.int .i64 zz))),(3,.p (.v (.int .i64 pitch))),(14,.p (.lst (e.map Cx.enc))),(13,.ptr 13 0)],[(13,S3.enc s)],[],[],[]⟩
def Jw:Zf7 Prop:=fun i len d m n zz pitch e s=>(0≤i∧i≤d.length∧len=d.length∧d.length≤5∧(m.length:Int)=i∧∀z∈d,DrB z)
def Zf8:LSum:=LSg Y6 151 (fT 56 cI<|fT 55 cI<|fT 54 (cL Cx.enc Cx.dec)<|fT 15 (cL Cx.enc Cx.dec)<|fT 4 cI<|fT 2 cI<|fT 3 cI<|fT 14 (cL Cx.enc Cx.dec)<|fP 13 13 0<|fB 13 S3.enc S3.dec<|fZ) [] [(.t 15,41)] Zkk (V9 Jw) fun y K=>K (.exit 0) (V9 Zcz y)
end Go.Men
