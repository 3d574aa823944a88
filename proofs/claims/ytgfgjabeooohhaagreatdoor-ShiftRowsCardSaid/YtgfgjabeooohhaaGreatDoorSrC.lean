/- A logic of frames, its evaluator for values known in part, and what the functions that the law reaches are shown to do: written for this claim. Part C. -/
import Derived.Test.YtgfgjabeooohhaaGreatDoorSrB
import Derived.Test.YtgfgjabeooohhaaGreatDoorChecked
import Derived.Test.YtgfgjabeooohhaaGreatDoorShelf
import Derived.KernelRfl
set_option linter.all false
set_option maxRecDepth 100000
namespace Go.Ev
open Go.RowKit
abbrev Yg:=Nat→List PV→List PV→Option (PV×List PV×List Prop)
abbrev Yc:=Nat→St→List AV→Option (PV×St×List Prop)
open Classical in
noncomputable def CHP(C:Yg):Zg2:=fun f cs args=>match C f cs args with
 | some (r,cs',ps)=>if ZX ps then some (r,cs') else none
 | none=>none
open Classical in
noncomputable def CHI(C:Yc):Zdd:=fun f σ args=>match C f σ args with
 | some (r,σ',ps)=>if ZX ps then some (r,σ') else none
 | none=>none
def CSPOk(P:Program)(C:Yg):Prop:=∀f cs args r cs' ps,C f cs args=some (r,cs',ps)→ZX ps→ZjU P f cs args r cs'
def CSIOk(P:Program)(C:Yc):Prop:=∀f σ args r σ' ps,C f σ args=some (r,σ',ps)→ZX ps→Ztl P f σ args r σ'
theorem ZuH{P:Program}{C:Yg}(h:CSPOk P C):Zni P (CHP C):=fun f cs args r cs' hr=>by
 unfold CHP at hr
 split at hr
 ·rename_i r' cs2 ps h1
  split at hr
  ·rename_i hp
   have:=Qa_ hr
   cases this
   exact h _ _ _ _ _ _ h1 hp
  ·cases hr
 ·cases hr
theorem ZuI{P:Program}{C:Yc}(h:CSIOk P C):ZhP P (CHI C):=fun f σ args r σ' hr=>by
 unfold CHI at hr
 split at hr
 ·rename_i r' cs2 ps h1
  split at hr
  ·rename_i hp
   have:=Qa_ hr
   cases this
   exact h _ _ _ _ _ _ h1 hp
  ·cases hr
 ·cases hr
def noT(x:Option St):Option (St×List Prop):=match x with
 | some σ=>some (σ,[])
 | none=>none
def Za1(E:Env)(C:ZJ)(j:Nat)(σ:St)(o:Oper):Option (St×List Prop):=
 match Zo2 E C j σ o with
 | some (r,ps)=>match o.dst with
   | some d=>some (Xa σ d r,ps)
   | none=>bif ZT r.box then some (σ,ps) else none
 | none=>none
def ZuJ:List Obl→Option Prop
 | [.pr p]=>some p
 | _=>none
def Zqu(C:Yc)(σ:St)(o:Oper)(fid:Nat)(args:List Operand):Option (St×List Prop):=
 match Xt (opd σ) args with
 | some l=>bif l.all (Zke σ.boxes)&&Zc3 σ.boxes then
    match C fid σ l with
    | some (r,σ1,ps)=>match o.dst with
      | some d=>bif Nat.blt d σ1.n then some (put σ1 d (.p r),ps) else none
      | none=>some (σ1,ps)
    | none=>none
   else none
 | none=>none
def Zqv(xs:List (List PV)):List UInt8:=(bytesOf xs).getD []
def Zsk(σ:St)(e:TypeId)(dst:Option Nat)(x:Operand):Option (St×List Prop):=
 match opd σ x,dst with
 | some (.ptr b off),some d=>match lk b σ.boxes with
   | some (.bld _::y::_)=>bif Nat.beq off 0&&Nat.blt d σ.n then
     match y with
     | .nil=>some (put σ d (.p (.str [])),[])
     | .lst xs=>match lkL (.b b 1) σ.own with
       | some E=>bif Nat.beq E e then some (put (ZY σ (.b b 1)) d (.p (.str (Zqv xs))),[∃c l,bytesOf xs=some (c::l)]) else none
       | none=>none
     | _=>none
     else none
   | _=>none
 | _,_=>none
theorem Zsl{σ σ':St}{e:TypeId}{dst:Option Nat}{x:Operand}{ps:List Prop}(h:Zsk σ e dst x=some (σ',ps))(hp:ZX ps):Zea σ e dst x=some σ':=by
 unfold Zsk at h
 unfold Zea
 split at h
 ·rename_i b off d hx
  simp only[hx]
  split at h
  ·rename_i u y r hb
   simp only[hb]
   cases hc:(Nat.beq off 0&&Nat.blt d σ.n) with
   | false=>rw[hc] at h;cases h
   | true=>
     rw[hc] at h
     simp only[Qb_] at h ⊢
     split at h
     ·cases Qa_ h;rfl
     ·rename_i xs
      split at h
      ·rename_i E hE
       cases he:Nat.beq E e with
       | false=>rw[he] at h;cases h
       | true=>
         rw[he] at h
         cases Qa_ h
         obtain ⟨c,l,hl⟩:∃c l,bytesOf xs=some (c::l):=hp _ Qv_
         simp only[hl,hE,he,Qb_,Zqv,Kq_]
      ·cases h
     ·cases h
  ·cases h
 ·cases h
def Zts(E:Env)(C:ZJ)(CP:Yg)(CI:Yc)(j:Nat)(σ:St)(o:Oper)(f:Operand)(args:List Operand):Option (St×List Prop):=
 match f with
 | .func fid=>bif has fid E.wr then
    match args with
    | p::rest=>match opd σ p,Xt (opd σ) rest with
      | some (.ptr b off),some l=>match lk b σ.boxes,YQ σ.boxes l with
        | some cs,some (xs,_)=>match CP fid (cs.drop off) xs with
          | some (r,cs',ps)=>match Zc2 σ o.dst f args [.callp 0 [] [] r cs'] with
            | some (σ',_,_)=>bif Nat.beq cs'.length (cs.length - off) then some (σ',ps) else none
            | none=>none
          | none=>none
        | _,_=>none
      | _,_=>none
    | []=>none
   else bif has fid E.inl then Zqu CI σ o fid args
   else bif has fid E.cc then (match args with | [x]=>noT (ZnY σ o.dst x) | _=>none)
   else match lk fid E.bst with
   | some e=>(match args with | [x]=>Zsk σ e o.dst x | _=>none)
   | none=>Za1 E C j σ o
 | _=>Za1 E C j σ o
def apS(E:Env)(σ:St)(d:Nat)(x y:Operand)(t u:TypeId):Option (St×List Prop):=
 match lk t E.Γ,Zw σ x,Zw σ y with
 | some ty,some xv,some (.str l)=>bif Ys E u&&Nat.beq ty.kd 3 then
    match lk ty.elem E.Γ with
    | some ety=>bif Nat.beq ety.size 1&&Nat.beq ety.bytes 1 then
      match xv,x with
      | .nil,_=>some (XW (put σ d (.p (.lst (XO l)))) d ty.elem,[0+l.length≤140737488355328])
      | .lst xs,.tmp t1=>
        match lkL (match lk t1 σ.al with | some l=>l | none=> .t t1) σ.own with
        | some E'=>bif Nat.beq E' ty.elem then some (XW (put (ZY σ (match lk t1 σ.al with | some l=>l | none=> .t t1)) d (.p (.lst (xs++XO l)))) d ty.elem,[xs.length+l.length≤140737488355328∧Lens 1 xs]) else none
        | none=>none
      | _,_=>none
      else none
    | none=>none
   else none
 | _,_,_=>none
theorem Zue{E:Env}{σ σ':St}{d:Nat}{x y:Operand}{t u:TypeId}{ps:List Prop}(h:apS E σ d x y t u=some (σ',ps))(hp:ZX ps):Zax E σ d x y t u=some σ':=by
 unfold apS at h
 unfold Zax
 split at h
 ·rename_i ty xv l hty hx hy
  simp only[hty,hx,hy]
  cases hb:(Ys E u&&Nat.beq ty.kd 3) with
  | false=>rw[hb] at h;cases h
  | true=>
    rw[hb] at h
    simp only[Qb_] at h ⊢
    split at h
    ·rename_i ety hety
     simp only[hety]
     cases hb2:(Nat.beq ety.size 1&&Nat.beq ety.bytes 1) with
     | false=>rw[hb2] at h;cases h
     | true=>
       rw[hb2] at h
       simp only[Qb_] at h ⊢
       split at h
       ·cases Qa_ h
        have h1:0+l.length≤140737488355328:=hp _ Qv_
        simp only[QF_ h1,Qb_]
       ·rename_i xs t1
        have fin:∀{L:Loc},(match lkL L σ.own with
         | some E'=>bif Nat.beq E' ty.elem then some (XW (put (ZY σ L) d (.p (.lst (xs++XO l)))) d ty.elem,[xs.length+l.length≤140737488355328∧Lens 1 xs]) else none
         | none=>none)=some (σ',ps)→(match lkL L σ.own with
         | some E'=>bif Nat.beq E' ty.elem&&Nat.ble (xs.length+l.length) 140737488355328&&XG 1 xs then some (XW (put (ZY σ L) d (.p (.lst (xs++XO l)))) d ty.elem) else none
         | none=>none)=some σ':=by
         intro L h
         split at h
         ·rename_i E' hE
          cases hb3:Nat.beq E' ty.elem with
          | false=>rw[hb3] at h;cases h
          | true=>
            rw[hb3] at h
            cases Qa_ h
            obtain ⟨h1,h2⟩:xs.length+l.length≤140737488355328∧Lens 1 xs:=hp _ Qv_
            have h3:XG 1 xs=true:=QK_.2 fun x hx=>by simpa using h2 x hx
            simp only[hE,hb3,QF_ h1,h3,QZ_,Qb_]
         ·cases h
        cases hal:lk t1 σ.al with
        | none=>simp only[hal] at h ⊢;exact fin h
        | some l2=>simp only[hal] at h ⊢;exact fin h
       ·cases h
    ·cases h
 ·cases h
def TSym(E:Env)(C:ZJ)(CP:Yg)(CI:Yc)(j:Nat)(σ:St)(o:Oper):Option (St×List Prop):=
 match o.op with
 | .store T p x=>match o.dst with
   | none=>bif Ztq σ p then ZkN E.Γ σ T p x else match X9 E.Γ σ T p x with
     | some σ'=>some (σ',[])
     | none=>none
   | some _=>none
 | .buildSlice T n ps=>bif has T E.sla&&Nat.beq n 0 then
    match o.dst,ps.toList with
    | some d,[]=>noT (Zjt E σ d T)
    | _,_=>none
   else Za1 E C j σ o
 | .call ⟨.builtin .append,args,ats⟩=>match args.toList,ats.toList,o.dst with
   | [x,y],[t,t'],some d=>bif has t E.sla&&isE σ x then noT (ZeR E σ d x y t t') else bif Nat.beq t t' then (bif Nat.blt d σ.n then
       match Wo E.Γ σ d x y t t' [.pr True] with
       | some (σ',_,ob)=>match ZuJ ob with
         | some p=>some (σ',[p])
         | none=>none
       | none=>none
     else none) else bif Nat.blt d σ.n then apS E σ d x y t t' else none
   | _,_,_=>none
 | .slice T x none none none=>match o.dst with
   | some d=>bif Nat.blt d σ.n then noT (ZcO E.Γ σ d T x) else none
   | none=>none
 | .call ⟨.value f,args,_⟩=>Zts E C CP CI j σ o f args.toList
 | .alloc T=>bif Nat.beq T Jp then noT (Zeb E ZgJ j σ o T) else Za1 E C j σ o
 | _=>Za1 E C j σ o
section
variable {P:Program}{σ:St}{o:Oper}
theorem Zc8{x:Option St}{r:St}{ps:List Prop}(h:noT x=some (r,ps)):x=some r∧ps=[]:=by
 unfold noT at h
 split at h
 ·have:=Qa_ h
  cases this
  exact ⟨rfl,rfl⟩
 ·cases h
theorem Zo3{E:Env}{C:ZJ}{j:Nat}{σ':St}{ps:List Prop}(h:Za1 E C j σ o=some (σ',ps))(hp:ZX ps):WN E (CH C) j σ o=some σ':=by
 unfold Za1 at h
 unfold WN
 split at h
 ·rename_i r q hr
  split at h
  ·rename_i d hd
   have:=Qa_ h
   cases this
   simp only[Ztr j σ o r _ hr hp,hd]
  ·rename_i hd
   cases hb:ZT r.box with
   | false=>rw[hb] at h;cases h
   | true=>
     rw[hb] at h
     have:=Qa_ h
     cases this
     simp only[Ztr j σ o r _ hr hp,hd,hb,Qb_]
 ·cases h
theorem ZuK{Γ:List (Nat×Ty)}{d:Nat}{x y:Operand}{t t':TypeId}{σ':St}{os ob:List Obl}{p:Prop}(h:Wo Γ σ d x y t t' [.pr True]=some (σ',os,ob))(ho:ZuJ ob=some p)(hp:p):Jj Γ σ x y t=true:=by
 have lens:∀{n:Nat} {l:List (List PV)},Lens n l→XG n l=true:=fun hl=>QK_.2 fun x hx=>by simpa using hl x hx
 have blt:∀{a b:Nat},a < b→Nat.blt a b=true:=fun h=>QF_ h
 unfold Wo at h
 unfold Jj
 split at h
 ·rename_i ty xv ys _ os' hty hx hy he
  simp only[hty,hx,hy]
  cases hb:(Nat.beq t t'&&Nat.beq ty.kd 3) with
  | false=>rw[hb] at h;cases h
  | true=>
    rw[hb] at h
    simp only[Qb_] at h
    split at h
    ·rename_i ety hety
     cases hb2:(Nat.beq ety.size 0||Nat.beq ety.bytes 0) with
     | true=>rw[hb2] at h;cases h
     | false=>
       rw[hb2] at h
       simp only[Qd_] at h
       split at h
       ·have:=Qa_ h
        cases this
        cases ho
        simp only[hety,blt hp.1,QF_ hp.2.1,lens hp.2.2,QZ_]
       ·rename_i xs t1
        split at h
        ·rename_i E1 hE1
         cases hb3:Nat.beq E1 ty.elem with
         | false=>simp only[hb3] at h;cases h
         | true=>
           simp only[hb3] at h
           have:=Qa_ h
           cases this
           cases ho
           simp only[hety,blt hp.1,QF_ hp.2.1,lens hp.2.2,QZ_]
        ·cases h
       ·cases h
    ·cases h
 ·cases h
theorem Zuf{E:Env}{C:ZJ}{CP:Yg}{CI:Yc}:TSub (TSym E C CP CI) (TT E (CH C) (CHP CP) (CHI CI)):=by
 intro j σ o σ' ps h hp
 have hQ:∀{o:Oper},Za1 E C j σ o=some (σ',ps)→WN E (CH C) j σ o=some σ':=fun h=>Zo3 h hp
 obtain ⟨dst,op,type,pos,after,guard⟩:=o
 unfold TSym at h
 cases op with
 | store T p x=>
   cases dst with
   | some d=>cases h
   | none=>
     simp only at h
     cases hb:Ztq σ p with
     | true=>
       rw[hb,Qb_] at h
       simp only[TT,Zqq h hp]
     | false=>
       rw[hb,Qd_] at h
       split at h
       ·rename_i σ2 h2
        have:=Qa_ h
        cases this
        simp only[TT,h2]
       ·cases h
 | buildSlice T n q=>
   simp only at h
   simp only[TT]
   cases hb:(has T E.sla&&Nat.beq n 0) with
   | false=>rw[hb] at h;exact hQ h
   | true=>
     rw[hb] at h
     simp only[Qb_] at h ⊢
     split at h
     ·rename_i d hd hps
      simp only[hps]
      exact (Zc8 h).1
     ·cases h
 | slice T x lo hi mx=>
   cases lo with
   | some l=>exact hQ h
   | none=>cases hi with
     | some l=>exact hQ h
     | none=>cases mx with
       | some l=>exact hQ h
       | none=>
         cases dst with
         | none=>cases h
         | some d=>
           simp only at h
           simp only[TT]
           cases hb:Nat.blt d σ.n with
           | false=>rw[hb] at h;cases h
           | true=>rw[hb] at h;exact (Zc8 h).1
 | alloc T=>
   simp only at h
   simp only[TT,Zeb]
   cases hb:Nat.beq T Jp with
   | false=>rw[hb] at h;exact hQ h
   | true=>
     rw[hb] at h
     have h1:=(Zc8 h).1
     simp only[Zeb,hb,Qb_] at h1
     exact h1
 | call c=>
   obtain ⟨callee,args,ats⟩:=c
   cases callee with
   | value f=>
     simp only at h
     simp only[TT]
     unfold Zts at h
     unfold Zoa
     split at h
     ·rename_i fid
      simp only
      cases hb:has fid E.wr with
      | true=>
        rw[hb] at h
        simp only[Qb_] at h ⊢
        split at h
        ·rename_i p rest hargs
         split at h
         ·rename_i b off l hop hl
          split at h
          ·rename_i cs xs c hcs hxs
           split at h
           ·rename_i r cs' q hcp
            split at h
            ·rename_i σ1 _ _ h1
             cases hb2:Nat.beq cs'.length (cs.length - off) with
             | false=>rw[hb2] at h;cases h
             | true=>
               rw[hb2] at h
               have:=Qa_ h
               cases this
               have hch:CHP CP fid (cs.drop off) xs=some (r,cs'):=by
                unfold CHP
                rw[hcp]
                simp only[hp,Ku_]
               simp only[hargs,hop,hl,hcs,hxs,hch]
               rw[hargs] at h1
               simp only[h1,hb2,Qb_]
            ·cases h
           ·cases h
          ·cases h
         ·cases h
        ·cases h
      | false=>
        rw[hb] at h
        simp only[Qd_] at h ⊢
        cases hb2:has fid E.inl with
        | true=>
          rw[hb2] at h
          simp only[Qb_] at h ⊢
          unfold Zqu at h
          unfold Zju
          split at h
          ·rename_i l hl
           simp only[hl]
           cases hb3:(l.all (Zke σ.boxes)&&Zc3 σ.boxes) with
           | false=>rw[hb3] at h;cases h
           | true=>
             rw[hb3] at h
             simp only[Qb_] at h ⊢
             split at h
             ·rename_i r σ1 q hci
              have hch:ZX q→CHI CI fid σ l=some (r,σ1):=by
               intro hq
               unfold CHI
               rw[hci]
               simp only[hq,Ku_]
              cases dst with
              | some d=>
                simp only at h ⊢
                cases hb4:Nat.blt d σ1.n with
                | false=>rw[hb4] at h;cases h
                | true=>
                  rw[hb4] at h
                  have:=Qa_ h
                  cases this
                  simp only[hch hp,hb4,Qb_]
              | none=>
                simp only at h ⊢
                have:=Qa_ h
                cases this
                simp only[hch hp]
             ·cases h
          ·cases h
        | false=>
          rw[hb2] at h
          simp only[Qd_] at h ⊢
          cases hb3:has fid E.cc with
          | true=>
            rw[hb3] at h
            simp only[Qb_] at h ⊢
            split at h
            ·rename_i x hx
             simp only[hx]
             exact (Zc8 h).1
            ·cases h
          | false=>
            rw[hb3] at h
            simp only[Qd_] at h ⊢
            split at h
            ·rename_i e he
             simp only[he]
             split at h
             ·rename_i x hx
              simp only[hx]
              exact Zsl h hp
             ·cases h
            ·rename_i he
             simp only[he]
             exact hQ h
     ·rename_i hne
      split
      ·rename_i fid;exact (hne fid rfl).elim
      ·exact hQ h
   | builtin b=>
     cases b with
     | append=>
       simp only at h
       simp only[TT]
       split at h
       ·rename_i x y t t' d hargs hats
        simp only[hargs,hats]
        cases hb:(has t E.sla&&isE σ x) with
        | true=>
          rw[hb] at h
          exact (Zc8 h).1
        | false=>
          rw[hb] at h
          simp only[Qd_] at h ⊢
          cases hb2:Nat.beq t t' with
          | true=>
            rw[hb2] at h
            simp only[Qb_] at h ⊢
            cases hb3:Nat.blt d σ.n with
            | false=>rw[hb3] at h;cases h
            | true=>
              rw[hb3] at h
              simp only[Qb_] at h
              split at h
              ·rename_i σ1 os1 ob1 h1
               split at h
               ·rename_i p hpr
                have:=Qa_ h
                cases this
                simp only[ZuK h1 hpr (one hp),QZ_,Qb_,h1]
               ·cases h
              ·cases h
          | false=>
            rw[hb2] at h
            simp only[Qd_] at h ⊢
            cases hb3:Nat.blt d σ.n with
            | false=>rw[hb3] at h;cases h
            | true=>rw[hb3] at h;exact Zue h hp
       ·cases h
     | _=>exact hQ h
   | _=>exact hQ h
 | _=>exact hQ h
end
structure Gx where
 pb:List (Nat×List Nat)
 cb:List Nat
 ow:List (Nat×Nat)
 nf:List Nat
 ob:List Nat
def noG:Gx:=⟨[],[],[],[],[]⟩
structure HdOk(cs:List PV):Prop where
 h:YD cs=true
def Zsm(d:Nat)(σ:St):Option (St×List Prop):=match lk d σ.tmps with
 | some (.sl b off n s)=>match lk b σ.boxes with
   | some cs=>bif Nat.blt d σ.n&&Nat.beq off 0 then
      some ({σ with tmps:=(d,.p (.lst (chunk s n cs)))::σ.tmps,ro:=b::σ.ro},[cs.length=n *s∧HdOk cs])
     else none
   | none=>none
 | some _=>some (σ,[])
 | none=>none
def ZgM:List Nat→St→Option (St×List Prop)
 | [],σ=>some (σ,[])
 | d::r,σ=>match Zsm d σ with
   | some (σ1,ps)=>match ZgM r σ1 with
     | some (σ2,qs)=>some (σ2,ps++qs)
     | none=>none
   | none=>none
theorem Ws{l l':List Prop}(h:ZX (l++l')):ZX l∧ZX l':=⟨fun p hp=>h p (Kf_ _ hp),fun p hp=>h p (Kp_ _ hp)⟩
section
variable {P:Program}{B:Nat}{g:G}{σ σ':St}{a:Act}{w:World}
theorem Zsn(hI:Inv P B g σ a w){d:Nat}{x:PV}(hd:d < σ.n)(hr:Rep g.hw w (a.tmps.getD d undef) x):Inv P B g {σ with tmps:=(d,.p x)::σ.tmps} a w:=by
 have lkc:∀t' v,lk t' ((d,AV.p x)::σ.tmps)=some v→(t'=d∧v= .p x)∨lk t' σ.tmps=some v:=by
  intro t' v h
  rw[Zs] at h
  split at h
  ·rename_i e
   exact .inl ⟨e,(Qa_ h).symm⟩
  ·exact .inr h
 refine ⟨hI.size,hI.defers,fun t' v h=>?_,fun t' b off h=>?_,fun t' f bs h=>?_,hI.box,hI.inj,hI.hwlt,hI.base,hI.glob,hI.own,hI.ownt,hI.owninj,hI.al,hI.alt,fun t' b off n s h=>?_,hI.ref⟩
 ·rcases lkc t' v h with ⟨rfl,rfl⟩ | h
  ·exact ⟨hd,hr⟩
  ·exact hI.tmp t' v h
 ·rcases lkc t' _ h with ⟨_,e⟩ | h
  ·cases e
  ·exact hI.ptr t' b off h
 ·rcases lkc t' _ h with ⟨_,e⟩ | h
  ·cases e
  ·exact hI.fnp t' f bs h
 ·rcases lkc t' _ h with ⟨_,e⟩ | h
  ·cases e
  ·exact hI.sl t' b off n s h
theorem Zso{d:Nat}{ps:List Prop}(h:Zsm d σ=some (σ',ps))(hp:ZX ps)(hI:Inv P B g σ a w):∃g',Inv P B g' σ' a w∧Fr B g σ w g' σ' w:=by
 unfold Zsm at h
 split at h
 ·rename_i b off n s hd
  split at h
  ·rename_i cs hcs
   cases hb:(Nat.blt d σ.n&&Nat.beq off 0) with
   | false=>rw[hb] at h;cases h
   | true=>
     rw[hb] at h
     cases Qa_ h
     obtain ⟨p1,p2⟩:=hp _ Qv_
     rw[Qh_] at hb
     have e0:=Qj_ hb.2
     subst e0
     have hdn:d < σ.n:=Qm_ hb.1
     obtain ⟨k,base,cap,h1,h2,h3⟩:=(hI.tmp d _ hd).2
     obtain ⟨i1,f1⟩:=Zgj hI hcs h1
     obtain ⟨k',base',hk',hlt,hok,_⟩:=i1.box b cs hcs
     have hk2:g.β b=some (k',base'):=hk'
     rw[h1] at hk2
     cases Qa_ hk2
     have hrep:Rep (fun j=>if j=k then max (g.hw j) (base+cs.length) else g.hw j) w (.slice (some ⟨k,base+0,none⟩) n cap) (.lst (chunk s n cs)):=by
      refine Zd7 p1 hok.cells p2.h h2 ?_
      simp only[Ku_]
      omega
     refine ⟨_,Zsn i1 hdn (by rw[h3];exact hrep),⟨f1.os,f1.tape,f1.output,f1.size,f1.n,f1.block,f1.cell,f1.frozen,f1.hw,f1.par,f1.ext⟩⟩
  ·cases h
 ·cases Qa_ h
  exact ⟨g,hI,Fr.refl⟩
 ·cases h
theorem ZgN:∀{l:List Nat} {σ σ':St} {g:G} {ps:List Prop},ZgM l σ=some (σ',ps)→ZX ps→Inv P B g σ a w→∃g',Inv P B g' σ' a w∧Fr B g σ w g' σ' w
 | [],σ,σ',g,ps,h,_,hI=>by
   cases Qa_ h
   exact ⟨g,hI,Fr.refl⟩
 | d::r,σ,σ',g,ps,h,hp,hI=>by
   unfold ZgM at h
   split at h
   ·rename_i σ1 ps1 h1
    split at h
    ·rename_i σ2 qs h2
     cases Qa_ h
     obtain ⟨q1,q2⟩:=Ws hp
     obtain ⟨g1,i1,f1⟩:=Zso h1 q1 hI
     obtain ⟨g2,i2,f2⟩:=ZgN h2 q2 i1
     exact ⟨g2,i2,f1.trans f2⟩
    ·cases h
   ·cases h
theorem ZmB(hI:Inv P B g σ a w){f:FuncId}{vals:List Value}{xs:List PV}{E:TypeId}{r:PV}(hc:ZhX P f xs E r)(ha:ArgsRep g.hw w vals xs){d:Nat}(hd:d < σ.n):
 CallRes P f vals.toArray w fun v w'=>∃g',Inv P B g' {put σ d (.p r) with own:=(.t d,E)::σ.own.filter fun (l,_)=> !(l.eq (.t d))} (a.put (some d) v) w'∧Fr B g σ w g' {put σ d (.p r) with own:=(.t d,E)::σ.own.filter fun (l,_)=> !(l.eq (.t d))} w':=by
 refine (hc _ w vals hI.hwlt hI.glob.1 ha).mono fun v w' ⟨hw',q,hr,ho⟩=>?_
 obtain ⟨i1,f1⟩:=Zc1 hI q
 have i2:=XN i1 hd hr
 have hsz:(a.put (some d) v).tmps.getD d undef=v:=by
  have hs:=hI.size
  show (a.tmps.setIfInBounds d v).getD d undef=v
  simp[Array.getD,hs,hd]
 have hlt:∀k,v.ownBlock=some k→w.heap.size≤k:=fun k hk=>(ZU (g:=⟨g.β,hw'⟩) ho k hk).2
 refine ⟨⟨g.β,hw'⟩,ZbJ i2 hd hsz ⟨ho.choose,ho.choose_spec.choose,ho.choose_spec.choose_spec.choose,ho.choose_spec.choose_spec.choose_spec.1, ?_,ho.choose_spec.choose_spec.choose_spec.2.2⟩ ?_ ?_,⟨f1.os,f1.tape,f1.output,f1.size,f1.n,f1.block,f1.cell,f1.frozen,f1.hw,f1.par,f1.ext⟩⟩
 ·have h2:=ho.choose_spec.choose_spec.choose_spec.2.1
  refine ⟨h2.1, ?_⟩
  rcases h2.2 with h | ⟨gb,cap,cur,e1,e2,r⟩
  ·exact .inl h
  ·exact .inr ⟨gb,cap,cur,e1,QT_ hI.base e2,r⟩
 ·intro k hk b cs base hb e
  obtain ⟨k',base',e1,e2,_⟩:=hI.box b cs hb
  have e:g.β b=some (k,base):=e
  rw[e] at e1
  cases Qa_ e1
  have:=hlt k hk
  omega
 ·intro l E' val' k hl hloc hk hk2
  have hl':lkL l σ.own=some E'∧l≠ .t d:=by
   have hl:lkL l (σ.own.filter fun (l,_)=> !(l.eq (.t d)))=some E':=hl
   rw[ZO (fun l'=> !(l'.eq (.t d)))] at hl
   split at hl
   ·rename_i hn
    refine ⟨hl,fun e=>?_⟩
    subst e
    rw[Loc.eq_iff.2 rfl] at hn
    cases hn
   ·cases hl
  obtain ⟨val0,q1,q2,_⟩:=i1.own l E' hl'.1
  have hv0:val0=val':=by
   cases l with
   | t t=>
     have q1:a.tmps.getD t undef=val0:=q1
     have hloc:(a.tmps.setIfInBounds d v).getD t undef=val':=hloc
     have ne:d≠t:=fun e=>hl'.2 (by rw[e])
     rw[←q1,←hloc]
     simp only[QA_,K3_]
     simp[ne]
   | b b c=>
     obtain ⟨k1,b1,e1,e2⟩:=q1
     obtain ⟨k2,b2,e3,e4⟩:=hloc
     rw[e1] at e3
     cases Qa_ e3
     exact Qa_ (e2.symm.trans e4)
  subst hv0
  have h0:=hI.own l E' hl'.1
  obtain ⟨val1,r1,r2,_⟩:=h0
  have hv1:val1=val0:=by
   cases l with
   | t t=>exact r1.symm.trans q1
   | b b c=>
     obtain ⟨k1,b1,e1,e2⟩:=r1
     obtain ⟨k2,b2,e3,e4⟩:=q1
     have e3:g.β b=some (k2,b2):=e3
     rw[e1] at e3
     cases Qa_ e3
     obtain ⟨c1,hc1⟩:=hI.ownt _ E' hl'.1
     obtain ⟨k3,b3,e5,e6,_⟩:=hI.box b c1 hc1
     rw[e1] at e5
     cases Qa_ e5
     rw[q.cell k1 _ e6] at e4
     exact Qa_ (e2.symm.trans e4)
  subst hv1
  have:=(ZU r2 k hk2).1
  have:=hlt k hk
  omega
end
def ZkO(E:Env)(C:ZJ)(G:Gx)(σ:St)(d fid:Nat)(args:List Operand):Option (St×List Prop):=
 match lk fid G.ow,Xt (opd σ) args with
 | some T,some l=>match YQ σ.boxes l with
   | some (xs,c)=>match c with
     | true=>none
     | false=>match C fid xs with
       | some (r,ps)=>match Nat.blt d σ.n with
         | false=>none
         | true=>match has d G.cb with
           | true=>match r,lk T E.Γ with
             | .lst rows,some ety=>bif ZT (lk d σ.boxes) then
                some (put {σ with boxes:=(d,rows.flatten)::σ.boxes} d (.sl d 0 rows.length ety.size),ps++[rows≠[]∧Lens ety.size rows∧∀x∈rows,∀y∈x,flat y=true])
               else none
             | _,_=>none
           | false=>some ({put σ d (.p r) with own:=(.t d,T)::σ.own.filter fun (l,_)=> !(l.eq (.t d))},ps)
       | none=>none
   | none=>none
 | _,_=>none
def Zo4(G:Gx)(σ:St)(op:BinOp)(T:TypeId)(x:Operand)(d:Nat):Option (St×List Prop):=
 match has T G.nf&&Nat.blt d σ.n with
 | false=>none
 | true=>match op,opd σ x with
   | .eql,some (.p (.fn _ _))=>some (put σ d (.p (.v (.bool false))),[])
   | .eql,some (.fnp _ _)=>some (put σ d (.p (.v (.bool false))),[])
   | .neq,some (.p (.fn _ _))=>some (put σ d (.p (.v (.bool true))),[])
   | .neq,some (.fnp _ _)=>some (put σ d (.p (.v (.bool true))),[])
   | _,_=>none
def bsO(E:Env)(σ:St)(T n:Nat)(ps:List (Nat×Operand))(d:Nat):Option (St×List Prop):=
 match Xt (fun (i,x)=>match Zw σ x with | some v=>some (i,v) | none=>none) ps with
 | some l=>match XM E.Γ T n l,lk T E.Γ with
   | some (.lst xs),some ty=>bif Nat.blt d σ.n then some (XW (put σ d (.p (.lst xs))) d ty.elem,[]) else none
   | _,_=>none
 | none=>none
def mkB(E:Env)(σ:St)(T:TypeId)(l c:Operand)(d:Nat):Option (St×List Prop):=
 match lk T E.Γ,Zw σ l,Zw σ c with
 | some ty,some (.v (.int _ n)),some (.v (.int _ m))=>bif Nat.beq ty.kd 3&&(Nat.blt d σ.n&&ZT (lk d σ.boxes)) then
    match lk ty.elem E.Γ with
    | some ety=>bif Nat.beq ety.size 0||(!(Nat.beq ety.zero.length ety.size)|| !(ety.zero.all flat)) then none
      else some (put {σ with boxes:=(d,reps n.toNat ety.zero)::σ.boxes} d (.sl d 0 n.toNat ety.size),[n=m,0≤n,n.toNat *ety.size < 16777216,n.toNat *ety.bytes < 16777216])
    | none=>none
   else none
 | _,_,_=>none
def ZkP:Operand→Bool
 | .const .nilFunc=>true
 | _=>false
def Zjy(E:Env)(C:ZJ)(CP:Yg)(CI:Yc)(G:Gx)(j:Nat)(σ:St)(o:Oper):Option (St×List Prop):=
 match o.op,o.dst with
 | .call ⟨.value (.func fid),args,_⟩,some d=>(match XA (lk fid G.ow) with
   | true=>ZkO E C G σ d fid args.toList
   | false=>TSym E C CP CI j σ o)
 | .binOp op T x y _,some d=>(match ZkP y with
   | true=>Zo4 G σ op T x d
   | false=>TSym E C CP CI j σ o)
 | .buildSlice T n ps,some d=>(match has d G.ob with
   | true=>bsO E σ T n ps.toList d
   | false=>TSym E C CP CI j σ o)
 | .makeSlice T l c,some d=>(match has d G.cb with
   | true=>mkB E σ T l c d
   | false=>TSym E C CP CI j σ o)
 | _,_=>TSym E C CP CI j σ o
def Zah(E:Env)(C:ZJ)(CP:Yg)(CI:Yc)(G:Gx)(j:Nat)(σ:St)(o:Oper):Option (St×List Prop):=
 match (match o.dst with | some d=>lk d G.pb | none=>none) with
 | some l=>match ZgM l σ with
   | some (σ1,ps)=>match Zjy E C CP CI G j σ1 o with
     | some (σ2,qs)=>some (σ2,ps++qs)
     | none=>none
   | none=>none
 | none=>Zjy E C CP CI G j σ o
structure OwOk(P:Program)(C:ZJ)(G:Gx):Prop where
 o:∀f T,lk f G.ow=some T→∀args r ps,C f args=some (r,ps)→ZX ps→ZhX P f args T r
 nf:∀T,has T G.nf=true→∃a b c,P.underlying T=some (.func a b c)
theorem ZkQ{P:Program}:∀T,has T []=true→∃a b c,P.underlying T=some (.func a b c):=fun T h=>absurd h (by simp[has])
theorem Yl{P:Program}{C:ZJ}:OwOk P C noG:=⟨fun f T h=>by simp[noG,lk] at h,ZkQ⟩
open Classical in
noncomputable def TG0(E:Env)(C:ZJ)(CP:Yg)(CI:Yc)(G:Gx)(j:Nat)(σ:St)(o:Oper):Option St:=match Zah E C CP CI G j σ o with
 | some (σ',ps)=>if ZX ps then some σ' else none
 | none=>none
section
variable {P:Program}{B:Nat}{g:G}{σ:St}{a:Act}{w:World}{o:Oper}
theorem Zqw(hI:Inv P B g σ a w){l:List AV}{vals:List Value}(hl:vals.length=l.length)(hv:∀(j:Nat) (v:Value) (av:AV),vals[j]?=some v→l[j]?=some av→RepA g w v av)
 {xs:List PV} (hh:YQ σ.boxes l=some (xs,false)):ArgsRep g.hw w vals xs:=by
 obtain ⟨e1,e2⟩:=WL hh
 have getl:∀{j:Nat} {v:Value},vals[j]?=some v→∃av,l[j]?=some av:=by
  intro j v hj
  have:j < l.length:=by have:=(Qo_.1 hj).1;omega
  exact ⟨_,Qg_ this⟩
 refine ⟨by omega,fun j x y hx hy=>?_⟩
 obtain ⟨av,hav⟩:=getl hx
 obtain ⟨d,h3,h4⟩:=e2 j av y hav hy
 have hd:=h4 rfl
 subst hd
 have hr:=hv j x av hx hav
 cases av with
 | p z=>
   have:=Qa_ h3
   cases this
   exact JJ hr
 | ptr b off=>
   unfold hand at h3
   split at h3
   ·rename_i e;cases e
   ·split at h3
    ·rename_i cs0 _
     cases hd:YD cs0<;>rw[hd] at h3<;>cases h3
    ·cases h3
   ·rename_i e;cases e
   ·rename_i e;cases e
 | sl b off n s=>
   unfold hand at h3
   split at h3
   ·rename_i e;cases e
   ·rename_i e;cases e
   ·rename_i e;cases e
   ·cases h3
 | fnp f bs=>
   unfold hand at h3
   split at h3
   ·rename_i e;cases e
   ·rename_i e;cases e
   ·split at h3
    ·cases h3
    ·cases h3
   ·rename_i e;cases e
theorem ZkR{y:PV}(h:flat y=true):YZ y=none:=by cases y<;>first | rfl | exact absurd h (by simp[flat])
theorem ZmC{E:Env}(hE:EnvOk P E){C:ZJ}{G:Gx}(hG:OwOk P C G)(hI:Inv P B g σ a w){fid d:Nat}{args:Array Operand}{ats:Array TypeId}{σ':St}{ps:List Prop}(hop:o.op= .call ⟨.value (.func fid),args,ats⟩)(hd:o.dst=some d)
 (h:ZkO E C G σ d fid args.toList=some (σ',ps)) (hp:ZX ps):Goes P B g σ a w o σ':=by
 unfold ZkO at h
 split at h
 ·rename_i T l hT hl
  split at h
  ·rename_i xs c hx
   split at h
   ·cases h
   ·split at h
    ·rename_i r qs hc
     split at h
     ·cases h
     ·rename_i hdn
      have hdn:d < σ.n:=Qm_ hdn
      obtain ⟨e1,e2⟩:=Zcz hI hl
      have ha:=Zqw hI e1 e2 hx
      have key:∀{σ2:St} {K:Value→World→Prop},CallRes P fid (args.toList.map a.eval).toArray w K→(∀v w',K v w'→∃g',Inv P B g' σ2 (a.put o.dst v) w'∧Fr B g σ w g' σ2 w')→Goes P B g σ a w o σ2:=by
       intro σ2 K hcall hnext
       refine Ju (hcall.mono hnext) (fun res hres=>?_)
       have e:args.map a.eval=(args.toList.map a.eval).toArray:=by apply QW_;simp
       have hfv:a.eval (.func fid)= .func (.func fid) #[] #[]:=rfl
       unfold execOp
       rw[hop]
       simp only[resolve,Deferred.ofValue,hfv,pure_bind,invoke,e]
       rw[←hres]
       congr 2
       simp
      split at h
      ·split at h
       ·rename_i rows ety hety
        cases hb:ZT (lk d σ.boxes) with
        | false=>rw[hb] at h;cases h
        | true=>
          rw[hb] at h
          cases Qa_ h
          obtain ⟨q1,q2⟩:=Ws hp
          obtain ⟨r1,r2,r3⟩:=q2 _ Qv_
          have hdb:lk d σ.boxes=none:=by
           cases hh:lk d σ.boxes with
           | none=>rfl
           | some c=>rw[hh] at hb;exact absurd hb (by simp[ZT])
          obtain ⟨i,z,hi,_,hsz,_⟩:=(ZF (hE.Γ _ _ hety)).info
          have hcon:=Zud (hG.o _ _ hT _ _ _ hc q1) hi (by rw[←hsz];exact r2) r1 r3
          refine key (ZmA (s:=ety.size) hI hcon ha hdn hdb (fun y hy=>?_)) (fun v w' hk=>by rw[hd];exact hk)
          obtain ⟨x,hx1,hx2⟩:=List.mem_flatten.1 hy
          exact ZkR (r3 x hx1 y hx2)
       ·cases h
      ·cases Qa_ h
       exact key (ZmB hI (hG.o _ _ hT _ _ _ hc hp) ha hdn) (fun v w' hk=>by rw[hd];exact hk)
    ·cases h
  ·cases h
 ·cases h
theorem Zo5{C:ZJ}{G:Gx}(hG:OwOk P C G)(hI:Inv P B g σ a w){op:BinOp}{T yT:TypeId}{x y:Operand}{d:Nat}{σ':St}{ps:List Prop}(hop:o.op= .binOp op T x y yT)(hy:ZkP y=true)(hd:o.dst=some d)
 (h:Zo4 G σ op T x d=some (σ',ps)):Goes P B g σ a w o σ':=by
 unfold Zo4 at h
 have hyc:y= .const .nilFunc:=by
  unfold ZkP at hy
  split at hy
  ·rfl
  ·cases hy
 subst hyc
 split at h
 ·cases h
 ·rename_i hb
  rw[Qh_] at hb
  obtain ⟨ta,tb,tc,hu⟩:=hG.nf T hb.1
  have hdn:d < σ.n:=Qm_ hb.2
  have fin:∀(b:Bool),(∃f vs,a.eval x= .func f #[] vs)→(op= .eql∧b=false∨op= .neq∧b=true)→σ'=put σ d (.p (.v (.bool b)))→Goes P B g σ a w o σ':=by
   intro b ⟨f,vs,hx⟩ hbo hσ
   subst hσ
   refine .inl ⟨.bool b,w, ?_,g,by rw[hd];exact XN hI hdn (.v _ rfl),⟨rfl,rfl,rfl,Q2_ _,rfl,fun _ _ _=>rfl,fun _ _ _ _=>rfl,fun _ _ _=>rfl,fun _ _ _=>rfl,fun _ cs' _ h=>⟨cs',h,rfl,rfl⟩,Ext.refl _ _⟩⟩
   have he:(Op.equal T (.func f #[] vs) .nilFunc).run P w= .ok false w:=by
    show (Op.equalIn 10000 T (.func f #[] vs) .nilFunc).run P w= .ok false w
    unfold Op.equalIn
    simp only[Sem.run_bind,run_underlying hu,Result.andThen_ok]
    rfl
   unfold execOp
   rw[hop]
   have e2:a.eval (.const .nilFunc)= .nilFunc:=rfl
   simp only[hx,e2]
   refine ZI ?_
   rcases hbo with ⟨rfl,rfl⟩ | ⟨rfl,rfl⟩<;>simp[eqGuard,binOp,he]
  have rp:∀{f:Nat} {cs:List PV},opd σ x=some (.p (.fn f cs))→∃f vs,a.eval x= .func f #[] vs:=fun hx=>by
   have hr:Rep g.hw w (a.eval x) (.fn _ _):=ZD hI hx
   generalize a.eval x=v at hr
   cases hr with
   | fn f vs cs _ _=>exact ⟨_,_,rfl⟩
  have rf:∀{f:Nat} {bs:List Nat},opd σ x=some (.fnp f bs)→∃f vs,a.eval x= .func f #[] vs:=fun hx=>by
   obtain ⟨vs,h1,_⟩:=ZD hI hx
   exact ⟨_,_,h1⟩
  split at h
  ·rename_i hx;cases Qa_ h;exact fin _ (rp hx) (.inl ⟨rfl,rfl⟩) rfl
  ·rename_i hx;cases Qa_ h;exact fin _ (rf hx) (.inl ⟨rfl,rfl⟩) rfl
  ·rename_i hx;cases Qa_ h;exact fin _ (rp hx) (.inr ⟨rfl,rfl⟩) rfl
  ·rename_i hx;cases Qa_ h;exact fin _ (rf hx) (.inr ⟨rfl,rfl⟩) rfl
  ·cases h
theorem Zug{Γ:List (Nat×Ty)}(hΓ:ZW P Γ){hw:Nat→Nat}{T:TypeId}{n:Nat}{ps:List (Nat×PV)}{xs:List (List PV)}{ty:Ty}(h:XM Γ T n ps=some (.lst xs))(hty:lk T Γ=some ty)(hl0:∀k,w.heap.size≤k→hw k=0)
 {vs:List (Nat×Value)} (hl:vs.length=ps.length) (hr:∀(j:Nat) (v:Nat×Value) (p:Nat×PV),vs[j]?=some v→ps[j]?=some p→v.1=p.1∧Rep hw w v.2 p.2):
 ∃i out,P.info? ty.elem=some i∧n *i.size < 16777216∧i.size≠0∧(out:List Value).length=n *i.size∧(Instr.buildSlice T n vs.toArray).run P w= .ok (.slice (some ⟨w.heap.size,0,none⟩) n n) (w.alloc (.cells out.toArray ty.elem))∧
  Qt hw w (fun k=>if k=w.heap.size then n *i.size else hw k) (w.alloc (.cells out.toArray ty.elem))∧Rep (fun k=>if k=w.heap.size then n *i.size else hw k) (w.alloc (.cells out.toArray ty.elem)) (.slice (some ⟨w.heap.size,0,none⟩) n n) (.lst xs):=by
 unfold XM at h
 split at h
 ·rename_i sz by_ zc fs e m hty2
  rw[hty] at hty2
  cases Qa_ hty2
  have hT:=ZF (hΓ T _ hty)
  obtain ⟨_,hk3,_⟩:=Ym hT
  have hu:=hk3 rfl
  simp only at hu
  split at h
  ·rename_i ety hety
   have hET:=ZF (hΓ _ _ hety)
   cases hb:(Nat.beq ety.size 0||Nat.ble 16777216 (n *ety.size)|| !(Nat.beq ety.zero.length ety.size)) with
   | true=>rw[hb] at h;cases h
   | false=>
     rw[hb] at h
     simp only[Qd_] at h
     simp only[Ka_,Qf_] at hb
     obtain ⟨⟨hb1,hb2⟩,hb3⟩:=hb
     have hs0:ety.size≠0:=fun h0=>by rw[h0] at hb1;exact absurd hb1 (by decide)
     have hn:n *ety.size < 16777216:=by
      rcases Kg_ (n *ety.size) 16777216 with h | h
      ·exact h
      ·rw[QF_ h] at hb2;cases hb2
     split at h
     ·rename_i cs hcs
      have:=Qa_ h
      injection this with this
      subst this
      obtain ⟨z,hz,hzc,h1,hzs⟩:=X8 hET w
      rw[hzc] at hcs
      obtain ⟨out,f1,f2,f3⟩:=Js (hw:=hw) (w:=w) (pl:=fun i=>some (i *ety.size,ety.size)) (fun i q hq=>hq) ps vs (YJ n z.cells.toList) _ cs (Zbi h1 n) hl hr hcs
      have hol:out.length=n *ety.size:=by rw[f3,ZbI];simp[hzs]
      obtain ⟨i,z',hi,_,hsz,_⟩:=hET.info
      refine ⟨i,out,hi,by rw[←hsz];exact hn,by rw[←hsz];exact hs0,by rw[←hsz];exact hol, ?_,ZcL hl0 (fun k hk=>by simp[hk]) _,by
       rw[←hsz]
       have:=ZcM hl0 f2 (rest:=[]) (n:=n) (s:=ety.size) (cap:=n) (by rw[←f2.len,hol]) (Q2_ _) e
       rw[QI_] at this
       exact this⟩
      have hnot:¬(n *ety.size > 2 ^ 24):=by omega
      unfold Instr.buildSlice
      simp only[Sem.run_bind,run_underlying hu,Result.andThen_ok,ZP hET,hnot,Kv_]
      by_cases h0:n *ety.size=0
      ·have hn0:n=0:=by
        rcases Nat.mul_eq_zero.1 h0 with h | h
        ·exact h
        ·exact absurd h hs0
       subst hn0
       have f1':Instr.fill (fun i=>some (i *ety.size,ety.size)) #[] vs=some out.toArray:=f1
       have e0:(Array.range 0).map (fun i=>(#[]:Array Value)[i % (#[]:Array Value).size]!)=#[]:=by apply QW_;simp
       simp only[Nat.zero_mul,Ku_,pure_bind,e0]
       rw[f1']
       rfl
      ·have hzp:0 < z.cells.size:=by omega
       have e1:=ZaP hzp n
       rw[hzs] at e1
       simp only[h0,Kv_,Sem.run_bind,hz,Result.andThen_ok,Sem.run_pure,hzs,e1]
       have f1':Instr.fill (fun i=>some (i *ety.size,ety.size)) (YJ n z.cells.toList).toArray vs=some out.toArray:=f1
       rw[f1']
       simp[newRow]
     ·cases h
  ·cases h
 ·cases h
theorem Zsp{E:Env}(hE:EnvOk P E)(hI:Inv P B g σ a w){T:TypeId}{n:Nat}{ps:Array (Nat×Operand)}{d:Nat}{σ':St}{qs:List Prop}(hop:o.op= .buildSlice T n ps)(hdst:o.dst=some d)(h:bsO E σ T n ps.toList d=some (σ',qs)):Goes P B g σ a w o σ':=by
 unfold bsO at h
 split at h
 ·rename_i l hl
  split at h
  ·rename_i xs ty hv hty
   cases hb:Nat.blt d σ.n with
   | false=>rw[hb] at h;cases h
   | true=>
     rw[hb] at h
     cases Qa_ h
     have hd:d < σ.n:=Qm_ hb
     obtain ⟨e1,e2⟩:=Zf5 hI hl
     obtain ⟨i,out,hi,hn,hs0,hol,hrun,q,hrep⟩:=Zug (w:=w) hE.Γ hv hty hI.hwlt e1 e2
     have hown:OwnV P B (fun k=>if k=w.heap.size then n *i.size else g.hw k) (w.alloc (.cells out.toArray ty.elem)) ty.elem (.slice (some ⟨w.heap.size,0,none⟩) n n):=by
      have hnm:n≤maxLen:=by
       have:n *1≤n *i.size:=Nat.mul_le_mul_left _ (by omega)
       have:(16777216:Nat)≤maxLen:=by simp only[maxLen];omega
       omega
      refine ⟨i,n,out,hi,⟨hol,.inr ⟨w.heap.size,n,out.toArray,rfl,hI.base,heap_alloc_new w _,Q2_ _,hnm,by simpa using hol,by simp[←hol]⟩⟩,fun k hk=>?_⟩
      have:k=w.heap.size:=by simp[Value.ownBlock] at hk;exact hk.symm
      simp[this]
     have:=W8 (v:= .slice none 0 0) (own':=σ.own) hI hd (fun k hk=>absurd hk (by simp[Value.ownBlock])) (fun k hk=>absurd hk (by simp[Value.ownBlock])) (fun _ _ h=>h) (fun _ _ _ j _ _ hk=>absurd hk (by simp[Value.ownBlock])) q.grew hrep hown (.inr (fun k hk=>by simp[Value.ownBlock] at hk;omega))
     refine .inl ⟨_,_, ?_,by rw[hdst];exact ⟨_,this⟩⟩
     unfold execOp
     rw[hop]
     simp only
     rw[ZdJ]
     exact ZI hrun
  ·cases h
 ·cases h
theorem Zsq{n:Nat}{z:List PV}{y:PV}(h:y∈reps n z):y∈z:=by
 induction n with
 | zero=>cases h
 | succ n ih=>
   rcases Kt_.1 h with h | h
   ·exact h
   ·exact ih h
theorem Zsr{E:Env}(hE:EnvOk P E)(hI:Inv P B g σ a w){T:TypeId}{l c:Operand}{d:Nat}{σ':St}{ps:List Prop}(hop:o.op= .makeSlice T l c)(hdst:o.dst=some d)(h:mkB E σ T l c d=some (σ',ps))(hp:ZX ps):Goes P B g σ a w o σ':=by
 unfold mkB at h
 split at h
 ·rename_i ty k n k' m hty hl hc
  cases hb:(Nat.beq ty.kd 3&&(Nat.blt d σ.n&&ZT (lk d σ.boxes))) with
  | false=>rw[hb] at h;cases h
  | true=>
    rw[hb] at h
    simp only[Qb_] at h
    simp only[Qh_] at hb
    obtain ⟨b1,b2,b3⟩:=hb
    have hkd:=Qj_ b1
    have hd:d < σ.n:=Qm_ b2
    have hdb:lk d σ.boxes=none:=by
     cases hh:lk d σ.boxes with
     | none=>rfl
     | some c=>rw[hh] at b3;exact absurd b3 (by simp[ZT])
    split at h
    ·rename_i ety hety
     cases hb:(Nat.beq ety.size 0||(!(Nat.beq ety.zero.length ety.size)|| !(ety.zero.all flat))) with
     | true=>rw[hb] at h;cases h
     | false=>
       rw[hb] at h
       cases Qa_ h
       simp only[Ka_,Qf_] at hb
       obtain ⟨c1,c2,c3⟩:=hb
       have e1:n=m:=hp _ Qv_
       have e2:0≤n:=hp _ (Qq_ _ Qv_)
       have hn1:n.toNat *ety.size < 16777216:=hp _ (Qq_ _ (Qq_ _ Qv_))
       have hn2:n.toNat *ety.bytes < 16777216:=hp _ (Qq_ _ (Qq_ _ (Qq_ _ Qv_)))
       subst e1
       have hs0:ety.size≠0:=fun h0=>by rw[h0] at c1;exact absurd c1 (by decide)
       have hET:=ZF (hE.Γ _ _ hety)
       obtain ⟨i,z,hi,hz,s1,s2,s3,s4,s5⟩:=hET.info
       obtain ⟨_,hk3,_⟩:=Ym (ZF (hE.Γ _ _ hty))
       have hu:=hk3 hkd
       have rl:=Z6 (Zt hI hl)
       have rc:=Z6 (Zt hI hc)
       have hnn:(n.toNat:Int)=n:=Int.toNat_of_nonneg e2
       have hle:n.toNat≤n.toNat *ety.size:=Nat.le_mul_of_pos_right _ (by omega)
       have hrun:=run_makeSlice (P:=P) w T ty.elem i z hu hi hz k k' n n e2 (Int.le_refl _) (by rw[←s1];omega) (by rw[←s2,←hnn,←Int.natCast_mul,Nat.mul_comm];omega) (by omega)
       have hcells:madeCells z.cells (n.toNat *i.size)=(YJ n.toNat z.cells.toList).toArray:=by
        rw[←s5]
        exact ZaP (by rw[s5,←s1];omega) n.toNat
       rw[hcells] at hrun
       have hlen:(YJ n.toNat z.cells.toList).length=n.toNat *i.size:=by rw[ZbI];simp[s5]
       have hmx:n.toNat≤maxLen:=by
        have:(16777216:Nat)≤maxLen:=by simp only[maxLen];omega
        omega
       have q:Qt g.hw w g.hw (w.alloc (.cells (YJ n.toNat z.cells.toList).toArray ty.elem)):=⟨(Below.refl _ _).alloc (Q2_ _) _,fun _ _=>rfl,fun k hk=>hI.hwlt k (by simp at hk;omega)⟩
       obtain ⟨i1,f1⟩:=Zc1 hI q
       have hrow:=World.ownsRow_lit (e:=ty.elem) (base:=B) (size:=i.size) w (YJ n.toNat z.cells.toList).toArray n.toNat hI.base hmx (by simpa using hlen)
       have hbx:∀(β:Nat→Option (Nat×Nat)) (hw2:Nat→Nat),BoxOk ⟨β,hw2⟩ (w.alloc (.cells (YJ n.toNat z.cells.toList).toArray ty.elem)) w.heap.size 0 (reps n.toNat ety.zero):=fun β hw2=>⟨fun j y hj=>by
        have hc:=Zbi (hw:=hw2) (w:=w.alloc (.cells (YJ n.toNat z.cells.toList).toArray ty.elem)) s4 n.toNat
        rw[←s3] at hc
        have hjl:j < (YJ n.toNat z.cells.toList).length:=by rw[hc.len];exact (Qo_.1 hj).1
        have hv:=Qg_ hjl
        refine ⟨_, ?_,hc.one _ (Qz_ hv), ?_,.rep (hc.rep j _ y hv hj)⟩
        ·rw[QP_,hrow.cellAt j (by rw[←hlen];exact hjl)];exact hv
        ·rw[QP_];exact hrow.frozenAt j⟩
       have hnb:∀b cs base,lk b σ.boxes=some cs→g.β b≠some (w.heap.size,base):=by
        intro b cs base hb e
        obtain ⟨k',base',e1,e2,_⟩:=hI.box b cs hb
        rw[e] at e1
        cases Qa_ e1
        omega
       have hno:∀l E val,lkL l σ.own=some E→LocIs g a (w.alloc (.cells (YJ n.toNat z.cells.toList).toArray ty.elem)) l val→val.ownBlock≠some w.heap.size:=by
        intro l E val hl hloc e
        obtain ⟨val0,q1,q2,_⟩:=hI.own l E hl
        have:val0=val:=by
         cases l with
         | t t=>exact q1.symm.trans hloc
         | b b c=>
           obtain ⟨k1,b1,e1,e2⟩:=q1
           obtain ⟨k2,b2,e3,e4⟩:=hloc
           rw[e1] at e3
           cases Qa_ e3
           obtain ⟨c1,hc1⟩:=hI.ownt _ E hl
           obtain ⟨k3,b3,e5,e6,_⟩:=hI.box b c1 hc1
           rw[e1] at e5
           cases Qa_ e5
           rw[q.cell k1 _ e6] at e4
           exact Qa_ (e2.symm.trans e4)
        subst this
        have:=(ZU q2 _ e).1
        omega
       obtain ⟨i2,f2⟩:=Zk4 i1 (n:=n.toNat) (s:=ety.size) (cap:=n.toNat) hd hdb (by simp) hI.base (hI.hwlt _ (Q2_ _)) (Q2_ _) hnb hno (hbx _ _) (fun y hy b' hb'=>by
        rw[ZkR (QK_.1 c3 y (Zsq hy))] at hb';cases hb')
       refine .inl ⟨_,_, ?_,_,by rw[hdst];exact i2,f1.trans f2⟩
       unfold execOp
       rw[hop]
       simp only[rl,rc]
       exact ZI hrun
    ·cases h
 ·cases h
theorem ZgO{E:Env}(hE:EnvOk P E){C:ZJ}(hC:CSOk P C){CP:Yg}(hP:CSPOk P CP){CI:Yc}(hJ:CSIOk P CI){G:Gx}(hG:OwOk P C G){j:Nat}{σ':St}{ps:List Prop}
 (h:Zjy E C CP CI G j σ o=some (σ',ps)) (hp:ZX ps) (hI:Inv P B g σ a w):Goes P B g σ a w o σ':=by
 have hT:∀{σ':St} {ps:List Prop},TSym E C CP CI j σ o=some (σ',ps)→ZX ps→Goes P B g σ a w o σ':=fun h hp=>ZvO hE (ZgI hC) (ZuH hP) (ZuI hJ) j σ o _ (Zuf _ _ _ _ _ h hp) B g a w hI
 unfold Zjy at h
 split at h
 ·rename_i fid args ats d hop hd
  split at h
  ·exact ZmC hE hG hI hop hd h hp
  ·exact hT h hp
 ·rename_i op T x y yT d hop hd
  split at h
  ·rename_i hy
   exact Zo5 hG hI hop hy hd h
  ·exact hT h hp
 ·rename_i T n ps d hop hd
  split at h
  ·exact Zsp hE hI hop hd h
  ·exact hT h hp
 ·rename_i T l c d hop hd
  split at h
  ·exact Zsr hE hI hop hd h hp
  ·exact hT h hp
 ·exact hT h hp
theorem Zo6{E:Env}(hE:EnvOk P E){C:ZJ}(hC:CSOk P C){CP:Yg}(hP:CSPOk P CP){CI:Yc}(hJ:CSIOk P CI){G:Gx}(hG:OwOk P C G){j:Nat}{σ':St}{ps:List Prop}
 (h:Zah E C CP CI G j σ o=some (σ',ps)) (hp:ZX ps) (hI:Inv P B g σ a w):Goes P B g σ a w o σ':=by
 unfold Zah at h
 split at h
 ·split at h
  ·rename_i σ1 ps1 h1
   split at h
   ·rename_i σ2 qs h2
    cases Qa_ h
    obtain ⟨q1,q2⟩:=Ws hp
    obtain ⟨g1,i1,f1⟩:=ZgN h1 q1 hI
    exact (ZgO hE hC hP hJ hG h2 q2 i1).mono fun v w' ⟨g',k1,k2⟩=>⟨g',k1,f1.trans k2⟩
   ·cases h
  ·cases h
 ·exact ZgO hE hC hP hJ hG h hp hI
theorem ZeW{E:Env}{C:ZJ}{CP:Yg}{CI:Yc}{G:Gx}:TSub (Zah E C CP CI G) (TG0 E C CP CI G):=fun j σ o σ' ps h hp=>by
 unfold TG0
 rw[h]
 simp only[hp,Ku_]
theorem ZgP{E:Env}(hE:EnvOk P E){C:ZJ}(hC:CSOk P C){CP:Yg}(hP:CSPOk P CP){CI:Yc}(hJ:CSIOk P CI){G:Gx}(hG:OwOk P C G):∀j σ o σ',TG0 E C CP CI G j σ o=some σ'→∀B g a w,Inv P B g σ a w→Goes P B g σ a w o σ':=by
 intro j σ o σ' h B g a w hI
 unfold TG0 at h
 split at h
 ·rename_i σ2 ps h2
  split at h
  ·rename_i hp
   cases Qa_ h
   exact Zo6 hE hC hP hJ hG h2 hp hI
  ·cases h
 ·cases h
end
def Zai(E:Env)(l:List ResultVar)(Q:PV→Prop)(e:Ex)(σ:St):Prop:=
 bif Zgq e then (match ZbM E.Γ σ l with
  | some r=>Q (Zjo r)
  | none=>False) else False
def sxF(E:Env)(C:ZJ)(CP:Yg)(CI:Yc)(G:Gx)(LS:List (Nat×LSum))(n:Nat)(fn:Func)(args:List PV)(Q:PV→Prop):Prop:=
 match fn.body with
 | some c=>bif Nat.ble args.length fn.ntmps then
    ZkI (Xk fn.ntmps args) fun σ=>Yv E.Γ (RSym E C) (Zah E C CP CI G) LS n none c σ (Zai E fn.results.toList Q)
   else False
 | none=>False
def Yd(P:Program)(LS:List (Nat×LSum))(fn:Func):Prop:=∀c,fn.body=some c→∀b∈ZB c,∀S,lk (YS b) LS=some S→Yq P b S
theorem Zfx{P:Program}{fn:Func}:Yd P [] fn:=fun c _ b _ S h=>by simp[lk] at h
theorem ZuL{P:Program}{E:Env}(hE:EnvOk P E){C:ZJ}(hC:CSOk P C){CP:Yg}(hP:CSPOk P CP){CI:Yc}(hI:CSIOk P CI){G:Gx}(hG:OwOk P C G){LS:List (Nat×LSum)}{f:Nat}{fn:Func}(hf:lk f E.fns=some fn)(hL:Yd P LS fn){n:Nat}{args:List PV}{Q:PV→Prop}
 (h:sxF E C CP CI G LS n fn args Q):∃r,Q r∧Con P f args r:=by
 obtain ⟨k1,k2⟩:=hE.fns f fn hf
 unfold sxF at h
 split at h
 ·rename_i c hc
  cases hb:Nat.ble args.length fn.ntmps with
  | false=>rw[hb] at h;exact h.elim
  | true=>
    rw[hb] at h
    simp only[Qb_,ZhV] at h
    obtain ⟨e,σ',h1,h2,_⟩:=(J0 hE.Γ hE.mixed ZgK (Zec hE (ZgI hC)) ZeW (ZgP hE hC hP hI hG) n).1 c _ _ (hL c hc) h
    unfold Zai at h1
    cases ho:Zgq e with
    | false=>rw[ho] at h1;exact h1.elim
    | true=>
      rw[ho] at h1
      simp only[Qb_] at h1
      split at h1
      ·rename_i r hr
       exact ⟨_,h1,ZpS hE.Γ k2 k1 hc hb h2 ho hr⟩
      ·exact h1.elim
 ·exact h.elim
theorem Zuh{P:Program}{E:Env}(hE:EnvOk P E){C:ZJ}(hC:CSOk P C){CP:Yg}(hP:CSPOk P CP){CI:Yc}(hI:CSIOk P CI){G:Gx}(hG:OwOk P C G){LS:List (Nat×LSum)}{b:Code}(hL:∀b'∈ZB b,∀S,lk (YS b') LS=some S→Yq P b' S){n:Nat}{σ:St}{K:Ex→St→Prop}
 (h:Yv E.Γ (RSym E C) (Zah E C CP CI G) LS n none b σ K):∃e σ',K e σ'∧Tri P b σ e σ':=by
 obtain ⟨e,σ',h1,h2,_⟩:=(J0 hE.Γ hE.mixed ZgK (Zec hE (ZgI hC)) ZeW (ZgP hE hC hP hI hG) n).1 b _ _ hL h
 exact ⟨e,σ',h1,h2⟩
def nz1:PV→PV
 | .nil=> .lst []
 | x=>x
def nzA:PV→PV
 | .nil=> .lst []
 | .agg cs=> .agg (cs.map nz1)
 | x=>x
def nz:PV→PV
 | .tup vs=> .tup (vs.map nzA)
 | x=>nzA x
section
variable {P:Program}{hw:Nat→Nat}{w:World}
theorem Zui{v:Value}{x:PV}(h:Rep hw w v x):Rep hw w v (nz1 x):=by
 cases h<;>first | exact .lnil | (constructor<;>assumption)
theorem ZhY{v:Value}{x:PV}(h:Rep hw w v x):Rep hw w v (nzA x):=by
 cases x with
 | nil=>cases h;exact .lnil
 | agg cs=>
   cases h with
   | agg vs _ hl hr h1=>
     refine .agg vs _ (by simpa using hl) (fun j a b ha hb=>?_) h1
     rw[Q6_] at hb
     cases hc:cs[j]? with
     | none=>rw[hc] at hb;cases hb
     | some c=>
       rw[hc] at hb
       have:=Qa_ hb
       subst this
       exact Zui (hr j a c ha hc)
 | _=>exact h
theorem ZuM{v:Value}{x:PV}(h:Rep hw w v x):Rep hw w v (nz x):=by
 cases x with
 | tup vs=>
   cases h with
   | tup us _ hl hr=>
     refine .tup us _ (by simpa using hl) (fun j a b ha hb=>?_)
     rw[Q6_] at hb
     cases hc:vs[j]? with
     | none=>rw[hc] at hb;cases hb
     | some c=>
       rw[hc] at hb
       have:=Qa_ hb
       subst this
       exact ZhY (hr j a c ha hc)
 | _=>exact ZhY h
theorem Znv{vals:List Value}{args:List PV}(h:ArgsRep hw w vals args):ArgsRep hw w vals (args.map nzA):=by
 refine ⟨by simpa using h.len,fun j a b ha hb=>?_⟩
 rw[Q6_] at hb
 cases hc:args[j]? with
 | none=>rw[hc] at hb;cases hb
 | some c=>
   rw[hc] at hb
   have:=Qa_ hb
   subst this
   exact ZhY (h.rep j a c ha hc)
end
theorem Zqx{P:Program}{f:FuncId}{args:List PV}{r:PV}(h:Con P f args r):Con P f args (nz r):=fun hw w vals hl hg ha=>
 (h hw w vals hl hg ha).mono fun _ _ ⟨hw',q,hr⟩=>⟨hw',q,ZuM hr⟩
theorem Zss{P:Program}{f:FuncId}{args:List PV}{r:PV}(h:Con P f (args.map nzA) r):Con P f args r:=fun hw w vals hl hg ha=>h hw w vals hl hg (Znv ha)
abbrev Ent:=List PV→Option (PV×List Prop)
def Xb(l:List (Nat×Ent)):ZJ:=fun f args=>match lk f l with
 | some g=>g (args.map nzA)
 | none=>none
def Zk(P:Program)(f:Nat)(g:Ent):Prop:=∀args r ps,g args=some (r,ps)→ZX ps→Con P f args r
theorem Zf{P:Program}:CSOk P (Xb []):=fun f args r ps h=>by simp[Xb,lk] at h
theorem Zb{P:Program}{f:Nat}{g:Ent}{l:List (Nat×Ent)}(h:Zk P f g)(hl:CSOk P (Xb l)):CSOk P (Xb ((f,g)::l)):=fun f' args r ps he hp=>by
 unfold Xb at he
 rw[Zs] at he
 by_cases e:f'=f
 ·rw[if_pos e] at he
  subst e
  exact Zss (h _ _ _ he hp)
 ·rw[if_neg e] at he
  exact hl f' args r ps he hp
def Zwp(P:Program)(f:Nat)(g:Ent)(T:Nat):Prop:=∀args r ps,g args=some (r,ps)→ZX ps→ZhX P f args T r
theorem Zqy{P:Program}{f:FuncId}{args:List PV}{T:Nat}{r:PV}(h:ZhX P f (args.map nzA) T r):ZhX P f args T r:=fun hw w vals hl hg ha=>h hw w vals hl hg (Znv ha)
def OwL(P:Program)(l:List (Nat×Ent))(ow:List (Nat×Nat)):Prop:=∀f T,lk f ow=some T→∀g,lk f l=some g→Zwp P f g T
theorem Znw{P:Program}{l:List (Nat×Ent)}:OwL P l []:=fun f T h=>by simp[lk] at h
theorem Znx{P:Program}{l:List (Nat×Ent)}{G:Gx}(h:OwL P l G.ow)(hn:∀T,has T G.nf=true→∃a b c,P.underlying T=some (.func a b c)):OwOk P (Xb l) G:=⟨fun f T h1 args r ps h2 hp=>by
 unfold Xb at h2
 split at h2
 ·rename_i g hg
  exact Zqy (h f T h1 g hg _ _ _ h2 hp)
 ·exact absurd h2 (by simp),hn⟩
def Zei:Yg:=fun _ _ _=>none
def Zej:Yc:=fun _ _ _=>none
theorem ZZ{P:Program}:CSPOk P Zei:=fun _ _ _ _ _ _ h=>absurd h (by simp[Zei])
theorem Ya{P:Program}:CSIOk P Zej:=fun _ _ _ _ _ _ h=>absurd h (by simp[Zej])
theorem Zny{P:Program}{E:Env}(hE:EnvOk P E){C:ZJ}(hC:CSOk P C){CP:Yg}(hP:CSPOk P CP){CI:Yc}(hI:CSIOk P CI){G:Gx}(hG:OwOk P C G){LS:List (Nat×LSum)}{f:Nat}{fn:Func}(hf:lk f E.fns=some fn)(hL:Yd P LS fn){n:Nat}{args:List PV}{X:PV}
 (h:sxF E C CP CI G LS n fn args (fun r=>nz r=X)):Con P f args X:=by
 obtain ⟨r,hr,hc⟩:=ZuL hE hC hP hI hG hf hL h
 rw[←hr]
 exact Zqx hc
def W9{α:Type}(l:List (Nat×α)):List Nat→List (Nat×α)
 | []=>[]
 | t::r=>match lk t l with
   | some v=>(t,v)::W9 l r
   | none=>W9 l r
def ZbT(l:List (Loc×Nat)):List Loc→List (Loc×Nat)
 | []=>[]
 | t::r=>match lkL t l with
   | some v=>(t,v)::ZbT l r
   | none=>ZbT l r
theorem ZbU{α:Type}{l:List (Nat×α)}{t:Nat}{v:α}:∀{ks:List Nat},lk t (W9 l ks)=some v→lk t l=some v
 | [],h=>by simp[W9,lk] at h
 | k::r,h=>by
   unfold W9 at h
   split at h
   ·rename_i v' hv
    rw[Zs] at h
    split at h
    ·rename_i e
     subst e
     rw[hv];exact h
    ·exact ZbU h
   ·exact ZbU h
theorem Zqz{a b:Loc}(h:a.eq b=true):a=b:=by
 cases a<;>cases b<;>simp only[Loc.eq,Qh_] at h
 ·rw[Qj_ h]
 ·cases h
 ·cases h
 ·rw[Qj_ h.1,Qj_ h.2]
theorem Zek{l:List (Loc×Nat)}{t:Loc}{v:Nat}:∀{ks:List Loc},lkL t (ZbT l ks)=some v→lkL t l=some v
 | [],h=>by simp[ZbT,lkL] at h
 | k::r,h=>by
   unfold ZbT at h
   split at h
   ·rename_i v' hv
    unfold lkL at h
    cases hb:t.eq k with
    | true=>
      rw[hb] at h
      rw[Zqz hb,hv]
      exact h
    | false=>
      rw[hb] at h
      exact Zek h
   ·exact Zek h
structure Kp where
 t:List Nat
 b:List Nat
 o:List Loc
def ZgQ(bx:List (Nat×List PV))(b:Nat):Bool:=XA (lk b bx)
def okS(τ:St):Bool:=
 τ.tmps.all (fun (_,v)=>(XB v).all (ZgQ τ.boxes))&&(τ.own.all (fun (l,_)=>match l with | .t _=>true | .b b _=>ZgQ τ.boxes b)&&τ.boxes.all (fun (_,cs)=>(WK cs).all (ZgQ τ.boxes)))
def Zo7(k:Kp)(σ:St):Option St:=
 bif okS ⟨σ.n,W9 σ.tmps k.t,W9 σ.boxes k.b,σ.ro,ZbT σ.own k.o,[]⟩ then some ⟨σ.n,W9 σ.tmps k.t,W9 σ.boxes k.b,σ.ro,ZbT σ.own k.o,[]⟩ else none
theorem Zel{bx:List (Nat×List PV)}{b:Nat}(h:ZgQ bx b=true):∃cs,lk b bx=some cs:=by
 unfold ZgQ at h
 cases hb:lk b bx with
 | none=>rw[hb] at h;exact absurd h (by simp[XA])
 | some cs=>exact ⟨cs,rfl⟩
theorem ZhZ{α:Type}{t:Nat}{v:α}:∀{l:List (Nat×α)},lk t l=some v→(t,v)∈l
 | [],h=>by simp[lk] at h
 | (t',v')::r,h=>by
   rw[Zs] at h
   split at h
   ·rename_i e
    subst e
    have:=Qa_ h
    subst this
    exact Qv_ ..
   ·exact Qq_ _ (ZhZ h)
theorem ZkS{t:Loc}{v:Nat}:∀{l:List (Loc×Nat)},lkL t l=some v→(t,v)∈l
 | [],h=>by simp[lkL] at h
 | (t',v')::r,h=>by
   unfold lkL at h
   cases hb:t.eq t' with
   | true=>
     rw[hb] at h
     have:=Qa_ h
     subst this
     rw[Zqz hb]
     exact Qv_ ..
   | false=>rw[hb] at h;exact Qq_ _ (ZkS h)
theorem Zq0{k:Kp}{σ τ:St}(h:Zo7 k σ=some τ):Sub τ σ:=by
 unfold Zo7 at h
 cases hb:okS ⟨σ.n,W9 σ.tmps k.t,W9 σ.boxes k.b,σ.ro,ZbT σ.own k.o,[]⟩ with
 | false=>rw[hb] at h;cases h
 | true=>
   rw[hb] at h
   have:=Qa_ h
   subst this
   simp only[okS,Qh_] at hb
   obtain ⟨h1,h2,h3⟩:=hb
   have tm:∀t v,lk t (W9 σ.tmps k.t)=some v→∀b∈XB v,∃cs,lk b (W9 σ.boxes k.b)=some cs:=fun t v ht b hm=>
    Zel (QK_.1 (QK_.1 h1 _ (ZhZ ht)) b hm)
   refine ⟨rfl,fun t v ht=>ZbU ht,fun b cs hb=>ZbU hb,fun b hm=>hm,fun t b off ht=>tm t _ ht b (by simp[XB]),fun t f bs ht b hm=>tm t _ ht b hm,fun l E hl=>Zek hl,fun b c E hl=>?_,fun t l hm=>absurd hm (by simp),fun t b c hm=>absurd hm (by simp),fun t b off n s ht=>tm t _ ht b (by simp[XB]),fun b cs hb y hy b' hb'=>?_⟩
   ·exact Zel (QK_.1 h2 _ (ZkS hl))
   ·exact Zel (QK_.1 (QK_.1 h3 _ (ZhZ hb)) b' (Jr hy hb'))
def ZE(fn:Func)(i:Nat):Code:=match fn.body with
 | some c=>(ZB c).getD i .skip
 | none=> .skip
def LsA(P:Program)(LS:List (Nat×LSum)):List Code→Prop
 | []=>True
 | b::r=>(∀S,lk (YS b) LS=some S→Yq P b S)∧LsA P LS r
theorem ZC{P:Program}{LS:List (Nat×LSum)}:LsA P LS []:=trivial
theorem Yr{P:Program}{LS:List (Nat×LSum)}{b:Code}{r:List Code}{i:Nat}{S:LSum}(hi:YS b=i)(hl:lk i LS=some S)(h:Yq P b S)(hr:LsA P LS r):LsA P LS (b::r):=
 ⟨fun S' h'=>by rw[hi,hl] at h';have:=Qa_ h';subst this;exact h,hr⟩
theorem Zia{P:Program}{LS:List (Nat×LSum)}:∀{l:List Code},LsA P LS l→∀b∈l,∀S,lk (YS b) LS=some S→Yq P b S
 | [],_,b,hb,_,_=>absurd hb (by simp)
 | c::r,h,b,hb,S,hS=>by
   rcases Q9_.1 hb with e | hb
   ·subst e;exact h.1 S hS
   ·exact Zia h.2 b hb S hS
theorem Y8{P:Program}{LS:List (Nat×LSum)}{c:Code}{l:List Code}(he:ZB c=l)(h:LsA P LS l):∀b∈ZB c,∀S,lk (YS b) LS=some S→Yq P b S:=by
 rw[he];exact Zia h
theorem Yh{P:Program}{LS:List (Nat×LSum)}{fn:Func}{l:List Code}(he:(match fn.body with | some c=>ZB c | none=>[])=l)(h:LsA P LS l):Yd P LS fn:=fun c hc b hm S hl=>by
 rw[hc] at he
 simp only at he
 rw[he] at hm
 exact Zia h b hm S hl
def Zo8(Γ:List (Nat×Ty))(t E:Nat)(σ:St):St:=match lk t σ.tmps,lk E Γ with
 | some (.p .nil),some _=>{σ with tmps:=(t,.p (.lst []))::σ.tmps,own:=(.t t,E)::σ.own}
 | _,_=>σ
def Zjz(Γ:List (Nat×Ty))(t E:Nat)(σ:St):St:=match lk t σ.tmps with
 | some (.p .nil)=>Zo8 Γ t E σ
 | _=>match lk t σ.al with
   | some l=>match lkL l σ.own with
     | some E'=>bif Nat.beq E E'&&Nat.blt t σ.n then {σ with own:=(.t t,E)::σ.own.filter fun (l',_)=> !(l'.eq l)} else σ
     | none=>σ
   | none=>σ
def Zj0(Γ:List (Nat×Ty))(b c E:Nat)(σ:St):St:=match lk b σ.boxes,lk E Γ with
 | some cs,some _=>match cs[c]? with
   | some .nil=>bif Nat.blt b σ.n then {σ with boxes:=(b,cs.set c (.lst []))::σ.boxes,own:=(.b b c,E)::σ.own} else σ
   | _=>σ
 | _,_=>σ
def ZgR(Γ:List (Nat×Ty))(l:Loc)(E:Nat)(σ:St):St:=match l with
 | .t t=>Zjz Γ t E σ
 | .b b c=>Zj0 Γ b c E σ
def Zbf(Γ:List (Nat×Ty)):List (Loc×Nat)→St→St
 | [],σ=>σ
 | (l,E)::r,σ=>Zbf Γ r (ZgR Γ l E σ)
section
variable {P:Program}{B:Nat}{g:G}{σ τ:St}{a:Act}{w:World}
theorem Zst{Γ:List (Nat×Ty)}(hΓ:ZW P Γ){t E:Nat}(hI:Inv P B g σ a w):Inv P B g (Zo8 Γ t E σ) a w:=by
 unfold Zo8
 split
 ·rename_i ety ht hE
  obtain ⟨hlt,hrep⟩:=hI.tmp t _ ht
  have hval:a.tmps.getD t undef= .slice none 0 0:=by
   have hrep:Rep g.hw w (a.tmps.getD t undef) .nil:=hrep
   generalize a.tmps.getD t undef=v at hrep
   cases hrep;rfl
  obtain ⟨i,z,hi,_⟩:=(ZF (hΓ _ _ hE)).info
  have hown:OwnV P B g.hw w E (.slice none 0 0):=⟨i,0,[],hi,World.ownsRow_nil _ _ _ _,fun k hk=>absurd hk (by simp[Value.ownBlock])⟩
  have h1:=ZbJ hI hlt hval hown (fun k hk=>absurd hk (by simp[Value.ownBlock])) (fun l E' val' k _ _ hk=>absurd hk (by simp[Value.ownBlock]))
  have lkc:∀t' v,lk t' ((t,AV.p (.lst []))::σ.tmps)=some v→(t'=t∧v= .p (.lst []))∨lk t' σ.tmps=some v:=by
   intro t' v h
   rw[Zs] at h
   split at h
   ·rename_i e
    exact .inl ⟨e,(Qa_ h).symm⟩
   ·exact .inr h
  refine ⟨h1.size,h1.defers,fun t' v h=>?_,fun t' b off h=>?_,fun t' f bs h=>?_,h1.box,h1.inj,h1.hwlt,h1.base,h1.glob,h1.own,h1.ownt,h1.owninj,h1.al,h1.alt,fun t' b off n s h=>?_,h1.ref⟩
  ·rcases lkc t' v h with ⟨rfl,rfl⟩ | h
   ·exact ⟨hlt,by show Rep g.hw w _ (.lst []);rw[hval];exact .lnil⟩
   ·exact hI.tmp t' v h
  ·rcases lkc t' _ h with ⟨_,e⟩ | h
   ·cases e
   ·exact hI.ptr t' b off h
  ·rcases lkc t' _ h with ⟨_,e⟩ | h
   ·cases e
   ·exact hI.fnp t' f bs h
  ·rcases lkc t' _ h with ⟨_,e⟩ | h
   ·cases e
   ·exact hI.sl t' b off n s h
 ·exact hI
theorem Zq1{Γ:List (Nat×Ty)}(hΓ:ZW P Γ){t E:Nat}(hI:Inv P B g σ a w):Inv P B g (Zjz Γ t E σ) a w:=by
 unfold Zjz
 split
 ·exact Zst hΓ hI
 ·split
  ·rename_i l hl
   split
   ·rename_i E' hE
    cases hb:(Nat.beq E E'&&Nat.blt t σ.n) with
    | false=>exact hI
    | true=>
      rw[Qh_] at hb
      have e1:=Qj_ hb.1
      subst e1
      have hlt:t < σ.n:=Qm_ hb.2
      have hal:=hI.al t l (Zao hl)
      obtain ⟨val,v1,v2,v3⟩:=hI.own l E hE
      have hv:a.tmps.getD t undef=val:=Jh hal v1
      have hf:∀l2 E2,lkL l2 (σ.own.filter fun (l',_)=> !(l'.eq l))=some E2→l2≠l∧lkL l2 σ.own=some E2:=by
       intro l2 E2 h
       rw[ZO (fun l'=> !(l'.eq l))] at h
       split at h
       ·rename_i hn
        refine ⟨fun e=>?_,h⟩
        subst e
        rw[Loc.eq_iff.2 rfl] at hn
        cases hn
       ·cases h
      have base:Inv P B g {σ with own:=σ.own.filter fun (l',_)=> !(l'.eq l)} a w:=
       ⟨hI.size,hI.defers,hI.tmp,hI.ptr,hI.fnp,hI.box,hI.inj,hI.hwlt,hI.base,hI.glob,fun l2 E2 h=>hI.own l2 E2 (hf l2 E2 h).2,fun l2 E2 h=>hI.ownt l2 E2 (hf l2 E2 h).2,
        fun l2 l3 E2 E3 x y k h2 h3=>hI.owninj l2 l3 E2 E3 x y k (hf l2 E2 h2).2 (hf l3 E3 h3).2,hI.al,hI.alt,hI.sl,hI.ref⟩
      refine ZbJ base hlt hv v2 v3 (fun l2 E2 val2 k h2 hloc hk hk2=>?_)
      exact (hf l2 E2 h2).1 (hI.owninj l2 l E2 E val2 val k (hf l2 E2 h2).2 hE hloc v1 hk2 hk)
   ·exact hI
  ·exact hI
theorem Zq2{Γ:List (Nat×Ty)}(hΓ:ZW P Γ){b c E:Nat}(hI:Inv P B g σ a w):Inv P B g (Zj0 Γ b c E σ) a w:=by
 unfold Zj0
 split
 ·rename_i cs ety hb hE
  split
  ·rename_i hc
   cases hn:Nat.blt b σ.n with
   | false=>exact hI
   | true=>
     obtain ⟨k0,base0,hk0,hlt0,hok0,hh0,hB0⟩:=hI.box b cs hb
     have hlen:c < cs.length:=(Qo_.1 hc).1
     obtain ⟨v0,q1,q2,q3,q4⟩:=hok0.cell c .nil hc
     have hv0:v0= .slice none 0 0:=by
      have h:=q4.plain rfl
      cases h;rfl
     subst hv0
     obtain ⟨i,z,hi,_⟩:=(ZF (hΓ _ _ hE)).info
     have hown:OwnV P B g.hw w E (.slice none 0 0):=⟨i,0,[],hi,World.ownsRow_nil _ _ _ _,fun k hk=>absurd hk (by simp[Value.ownBlock])⟩
     have lkc:∀b' cs',lk b' ((b,cs.set c (.lst []))::σ.boxes)=some cs'→(b'=b∧cs'=cs.set c (.lst []))∨lk b' σ.boxes=some cs':=by
      intro b' cs' h
      rw[Zs] at h
      split at h
      ·rename_i e
       exact .inl ⟨e,(Qa_ h).symm⟩
      ·exact .inr h
     have lkm:∀b',(∃cs',lk b' σ.boxes=some cs')→∃cs',lk b' ((b,cs.set c (.lst []))::σ.boxes)=some cs':=by
      intro b' ⟨cs',h⟩
      rw[Zs]
      split
      ·exact ⟨_,rfl⟩
      ·exact ⟨cs',h⟩
     have lkb:∀b' cs',lk b' ((b,cs.set c (.lst []))::σ.boxes)=some cs'→∃cs0,lk b' σ.boxes=some cs0:=by
      intro b' cs' h
      rcases lkc b' cs' h with ⟨rfl,_⟩ | h
      ·exact ⟨_,hb⟩
      ·exact ⟨_,h⟩
     have lko:∀l E',lkL l ((Loc.b b c,E)::σ.own)=some E'→(l= .b b c∧E'=E)∨(l≠ .b b c∧lkL l σ.own=some E'):=by
      intro l E' hl
      rw[XJ] at hl
      split at hl
      ·rename_i e;exact .inl ⟨e,(Qa_ hl).symm⟩
      ·rename_i e;exact .inr ⟨e,hl⟩
     have nob:∀{v:Value},LocIs g a w (.b b c) v→v.ownBlock=none:=by
      intro v h
      obtain ⟨k1,b1,e1,e2⟩:=h
      rw[hk0] at e1
      cases Qa_ e1
      rw[q1] at e2
      cases Qa_ e2
      rfl
     refine ⟨hI.size,hI.defers,hI.tmp,fun t b' off h=>lkm b' (hI.ptr t b' off h),fun t f bs h b' hb'=>lkm b' (hI.fnp t f bs h b' hb'), ?_, ?_,hI.hwlt,hI.base,hI.glob, ?_, ?_, ?_,hI.al,fun t b' c' h=>lkm b' (hI.alt t b' c' h),fun t b' off n s h=>lkm b' (hI.sl t b' off n s h), ?_⟩
     ·intro b' cs' h
      rcases lkc b' cs' h with ⟨rfl,rfl⟩ | h
      ·refine ⟨k0,base0,hk0,hlt0,⟨fun j y hy=>?_⟩,hh0,hB0⟩
       rw[List.getElem?_set] at hy
       split at hy
       ·rename_i e
        subst e
        have hy:some (PV.lst [])=some y:=by simpa [hlen] using hy
        cases Qa_ hy
        exact ⟨_,q1,q2,q3,.rep .lnil⟩
       ·exact hok0.cell j y hy
      ·exact hI.box b' cs' h
     ·intro b1 b2 c1 c2 k x y h1 h2
      obtain ⟨d1,h1⟩:=lkb _ _ h1
      obtain ⟨d2,h2⟩:=lkb _ _ h2
      exact hI.inj b1 b2 d1 d2 k x y h1 h2
     ·intro l E' hl
      rcases lko l E' hl with ⟨rfl,rfl⟩ | ⟨_,hl⟩
      ·exact ⟨.slice none 0 0,⟨k0,base0,hk0,q1⟩,hown,fun k hk=>absurd hk (by simp[Value.ownBlock])⟩
      ·obtain ⟨val,v1,v2,v3⟩:=hI.own l E' hl
       refine ⟨val,v1,v2,fun k hk b' cs' base h=>?_⟩
       obtain ⟨d1,h⟩:=lkb _ _ h
       exact v3 k hk b' d1 base h
     ·intro l E' hl
      rcases lko l E' hl with ⟨rfl,rfl⟩ | ⟨_,hl⟩
      ·exact lkm b ⟨cs,hb⟩
      ·have:=hI.ownt l E' hl
       cases l with
       | t t=>exact this
       | b b1 c1=>exact lkm b1 this
     ·intro l l' E1 E2 v1 v2 k hl hl' h1 h2 h3 h4
      rcases lko l E1 hl with ⟨rfl,rfl⟩ | ⟨hne,hq⟩<;>rcases lko l' E2 hl' with ⟨rfl,rfl⟩ | ⟨hne',hq'⟩
      ·rfl
      ·rw[nob h1] at h3;cases h3
      ·rw[nob h2] at h4;cases h4
      ·exact hI.owninj l l' E1 E2 v1 v2 k hq hq' h1 h2 h3 h4
     ·intro b' cs' h y hy b2 hr
      rcases lkc b' cs' h with ⟨rfl,rfl⟩ | h
      ·rcases List.mem_or_eq_of_mem_set hy with hy | rfl
       ·exact lkm b2 (hI.ref b' cs hb y hy b2 hr)
       ·exact absurd hr (by simp[YZ])
      ·exact lkm b2 (hI.ref b' cs' h y hy b2 hr)
  ·exact hI
 ·exact hI
theorem Zq3{Γ:List (Nat×Ty)}(hΓ:ZW P Γ){l:Loc}{E:Nat}(hI:Inv P B g σ a w):Inv P B g (ZgR Γ l E σ) a w:=by
 cases l with
 | t t=>exact Zq1 hΓ hI
 | b b c=>exact Zq2 hΓ hI
theorem Zfy{Γ:List (Nat×Ty)}(hΓ:ZW P Γ):∀{l:List (Loc×Nat)} {σ:St},Inv P B g σ a w→Inv P B g (Zbf Γ l σ) a w
 | [],_,h=>h
 | (t,E)::r,σ,h=>by
   unfold Zbf
   exact Zfy hΓ (Zq3 hΓ h)
def ZeX(σ τ:St):Prop:=τ.n=σ.n∧∀b,σ.n≤b→lk b τ.boxes=lk b σ.boxes
theorem Zi9{c:Bool}{σ τ:St}(h:c=true→ZeX σ τ):ZeX σ (bif c then τ else σ):=by
 cases c with
 | false=>exact ⟨rfl,fun _ _=>rfl⟩
 | true=>exact h rfl
theorem Zo9(Γ:List (Nat×Ty))(l:Loc)(E:Nat)(σ:St):ZeX σ (ZgR Γ l E σ):=by
 unfold ZgR
 split
 ·unfold Zjz Zo8
  repeat' split
  all_goals first | exact ⟨rfl,fun _ _=>rfl⟩ | exact Zi9 fun _=>⟨rfl,fun _ _=>rfl⟩
 ·unfold Zj0
  repeat' split
  all_goals first | exact ⟨rfl,fun _ _=>rfl⟩ | skip
  refine Zi9 fun hn=>⟨rfl,fun b' hb'=>?_⟩
  have hn:=Qm_ hn
  show lk b' (_::σ.boxes)=_
  rw[Zs,if_neg (by omega)]
theorem Zbs(Γ:List (Nat×Ty)):∀(l:List (Loc×Nat)) (σ:St),ZeX σ (Zbf Γ l σ)
 | [],_=>⟨rfl,fun _ _=>rfl⟩
 | (t,E)::r,σ=>by
   have h1:=Zo9 Γ t E σ
   have h2:=Zbs Γ r (ZgR Γ t E σ)
   exact ⟨h2.1.trans h1.1,fun b hb=>(h2.2 b (by rw[h1.1];exact hb)).trans (h1.2 b hb)⟩
theorem Zuj{g':G}{w':World}{σ':St}(h0:ZeX σ τ)(h:Fr B g τ w g' σ' w'):Fr B g σ w g' σ' w':=by
 obtain ⟨h1,h2⟩:=h0
 have l1:∀k,Zac g τ k→Zac g σ k:=fun k ⟨b,cs,base,a1,a2,a3⟩=>⟨b,cs,base,by rw[←h1];exact a1,by rw[←h2 b (by rw[←h1];exact a1)];exact a2,a3⟩
 have l2:∀k off,Lent g τ k off→Lent g σ k off:=fun k off ⟨b,cs,base,a1,a2,a3⟩=>⟨b,cs,base,by rw[←h1];exact a1,by rw[←h2 b (by rw[←h1];exact a1)];exact a2,a3⟩
 exact ⟨h.os,h.tape,h.output,h.size,h.n.trans h1,fun k hk hn=>h.block k hk (fun hl=>hn (l1 k hl)),fun k off hk hn=>h.cell k off hk (fun hl=>hn (l2 k off hl)),h.frozen,fun k hk hn=>h.hw k hk (fun hl=>hn (l1 k hl)),
  fun b cs hn hb=>by obtain ⟨cs0,q1,q2,q3⟩:=h.par b cs (by rw[h1];exact hn) hb;exact ⟨cs0,by rw[←h2 b hn];exact q1,q2,q3⟩,h.ext⟩
theorem Zsu{g0:G}{w0:World}{σ0:St}(h0:ZeX σ τ)(h:Fr B g0 σ0 w0 g σ w):Fr B g0 σ0 w0 g τ w:=
 ⟨h.os,h.tape,h.output,h.size,h0.1.trans h.n,h.block,h.cell,h.frozen,h.hw,fun b cs hn hb=>h.par b cs hn (by rw[←h0.2 b (by rw[h.n];exact hn)];exact hb),h.ext⟩
end
def Wk(P:Program)(σ τ:St):Prop:=∀B g a w,Inv P B g σ a w→Inv P B g τ a w∧(∀g' σ' w',Fr B g τ w g' σ' w'→Fr B g σ w g' σ' w')∧∀B0 g0 σ0 w0,Fr B0 g0 σ0 w0 g σ w→Fr B0 g0 σ0 w0 g τ w
theorem ZuN{P:Program}{σ τ:St}(h:Sub τ σ):Wk P σ τ:=fun _ _ _ _ hI=>⟨JN hI h,fun _ _ _ hf=>Zkd hf h,fun _ _ _ _ hf=>Zf6 hf h⟩
theorem Zuk{P:Program}{Γ:List (Nat×Ty)}(hΓ:ZW P Γ)(l:List (Loc×Nat))(σ:St):Wk P σ (Zbf Γ l σ):=fun _ _ _ _ hI=>
 ⟨Zfy hΓ hI,fun _ _ _ hf=>Zuj (Zbs Γ l σ) hf,fun _ _ _ _ hf=>Zsu (Zbs Γ l σ) hf⟩
theorem Wk.trans{P:Program}{σ τ ρ:St}(h:Wk P σ τ)(h':Wk P τ ρ):Wk P σ ρ:=fun B g a w hI=>by
 obtain ⟨i1,l1,r1⟩:=h B g a w hI
 obtain ⟨i2,l2,r2⟩:=h' B g a w i1
 exact ⟨i2,fun _ _ _ hf=>l1 _ _ _ (l2 _ _ _ hf),fun _ _ _ _ hf=>r2 _ _ _ _ (r1 _ _ _ _ hf)⟩
theorem Zul{P:Program}{c:Code}{σ τ σ':St}{e:Ex}(hs:Wk P σ τ)(h:Tri P c τ e σ'):Tri P c σ e σ':=fun B g a w hI=>
 wp_mono (h B g a w (hs B g a w hI).1) fun _ _ _ ⟨h1,g',h2,h3⟩=>⟨h1,g',h2,(hs B g a w hI).2.1 _ _ _ h3⟩
theorem Zum{P:Program}{c:Code}{σ τ σ':St}{e:Ex}(hs:Wk P σ' τ)(h:Tri P c σ e σ'):Tri P c σ e τ:=fun B g a w hI=>
 wp_mono (h B g a w hI) fun _ a' w' ⟨h1,g',h2,h3⟩=>⟨h1,g',(hs B g' a' w' h2).1,(hs B g' a' w' h2).2.2 _ _ _ _ h3⟩
theorem Zsv{P:Program}{c:Code}{n:Nat}{σ τ σ':St}{e:Ex}(hs:Wk P σ' τ)(h:Ja P n c σ e σ'):Ja P n c σ e τ:=fun B g a w hI=>
 Zck (fun _ a' w' ⟨h1,g',h2,h3⟩=>⟨h1,g',(hs B g' a' w' h2).1,(hs B g' a' w' h2).2.2 _ _ _ _ h3⟩) n a w (h B g a w hI)
structure KpH where
 k:Kp
 h:List (Loc×Nat)
def Wf(Γ:List (Nat×Ty))(k:KpH)(σ:St):Option St:=Zo7 k.k (Zbf Γ k.h σ)
theorem JS{P:Program}{Γ:List (Nat×Ty)}(hΓ:ZW P Γ){k:KpH}{σ τ:St}(h:Wf Γ k σ=some τ):Wk P σ τ:=(Zuk hΓ k.h σ).trans (ZuN (Zq0 h))
def kpH(Γ:List (Nat×Ty))(k ke kr:KpH)(e:Ex)(σ:St):Option St:=match e with
 | .normal=>Wf Γ k σ
 | .ret=>Wf Γ kr σ
 | _=>Wf Γ ke σ
theorem Zq4{P:Program}{Γ:List (Nat×Ty)}(hΓ:ZW P Γ){k ke kr:KpH}{e:Ex}{σ τ:St}(h:kpH Γ k ke kr e σ=some τ):Wk P σ τ:=by
 cases e<;>exact JS hΓ h
def sxH(E:Env)(C:ZJ)(CP:Yg)(CI:Yc)(G:Gx)(LS:List (Nat×LSum))(n:Nat)(b:Code)(k ke kr:KpH)(σ:St)(Q:Ex→Option St→Prop):Prop:=
 Zdg (clean (Wp b) σ) fun σ=>Yv E.Γ (RSym E C) (Zah E C CP CI G) LS n none b σ fun e σ1=>Q e (kpH E.Γ k ke kr e σ1)
theorem ZQ{P:Program}{E:Env}(hE:EnvOk P E){C:ZJ}(hC:CSOk P C){CP:Yg}(hP:CSPOk P CP){CI:Yc}(hI:CSIOk P CI){G:Gx}(hG:OwOk P C G){LS:List (Nat×LSum)}{b:Code}(hL:∀b'∈ZB b,∀S,lk (YS b') LS=some S→Yq P b' S){n:Nat}
 {X:Type} (H:X→St) (inv:X→Prop) (fin:X→Ex→St→Prop) (μ:X→Nat) (k ke kr:KpH)
 (step:∀x,inv x→sxH E C CP CI G LS n b k ke kr (H x) fun e o=>
   (e= .normal∧∃y,o=some (H y)∧inv y∧μ y < μ x∧∀e s,fin y e s→fin x e s)∨(e≠ .normal∧∃τ,o=some τ∧fin x e τ)):
 ∀x,inv x→∃e σ',fin x e σ'∧∃m,Ja P m b (H x) e σ':=by
 have key:∀j x,μ x < j→inv x→∃e σ',fin x e σ'∧∃m,Ja P m b (H x) e σ':=by
  intro j
  induction j with
  | zero=>intro x hx;omega
  | succ j ih=>
    intro x hx hi
    have hs:=step x hi
    unfold sxH at hs
    rw[Zbe] at hs
    obtain ⟨e,σ1,h1,h2⟩:=Zuh hE hC hP hI hG hL hs
    have h3:=Wq h2
    rcases h1 with ⟨rfl,y,hy,iy,my,fy⟩ | ⟨hne,τ,ht,hf⟩
    ·obtain ⟨e',σ',f1,m,f2⟩:=ih y (by omega) iy
     exact ⟨e',σ',fy _ _ f1,m+1,Zgn (Zum (Zq4 hE.Γ hy) h3) f2⟩
    ·exact ⟨e,τ,hf,1,Zsv (Zq4 hE.Γ ht) (Zkf hne h3)⟩
 exact fun x hi=>key (μ x+1) x (by omega) hi
theorem Jc{P:Program}{Γ:List (Nat×Ty)}(hΓ:ZW P Γ){b:Code}{S:LSum}{X:Type}{H:X→St}{inv:X→Prop}{fin:X→Ex→St→Prop}(h:∀x,inv x→∃e σ',fin x e σ'∧∃m,Ja P m b (H x) e σ')(k:KpH)
 (hS:∀σ K,S σ K→∃x,Wf Γ k σ=some (H x)∧inv x∧∀e σ',fin x e σ'→K e σ'):Yq P b S:=fun σ K hs=>by
 obtain ⟨x,h1,h2,h3⟩:=hS σ K hs
 obtain ⟨e,σ',f1,m,f2⟩:=h x h2
 exact ⟨e,σ',h3 e σ' f1,Zul (JS hΓ h1) (Zf8 f2)⟩
end Go.Ev
namespace Go.Men
open Go.Ev
theorem Zc{b:Bool}{X Y:Prop}(h:b=true→X)(h':b=false→Y):(bif b then X else Y):=by
 cases b
 ·exact h' rfl
 ·exact h rfl
def eOr(a b:Ent):Ent:=fun args=>match a args with
 | some r=>some r
 | none=>b args
theorem Zem{P:Program}{f:Nat}{a b:Ent}(ha:Zk P f a)(hb:Zk P f b):Zk P f (eOr a b):=fun args r ps h hp=>by
 unfold eOr at h
 split at h
 ·rename_i q hq
  have:=Qa_ h
  subst this
  exact ha _ _ _ hq hp
 ·exact hb _ _ _ h hp
def Ze{α:Type}(d:List PV→α)(xs:List (List PV)):List α:=xs.map d
theorem Wt{α:Type}(d:List PV→α)(e:α→List PV)(h:∀x,d (e x)=x)(l:List α):Ze d (l.map e)=l:=by
 unfold Ze
 rw[List.map_map]
 conv=>rhs;rw[←List.map_id l]
 exact List.map_congr_left fun x _=>h x
structure Iv where
 lo:Int
 hi:Int
 no:Bool
 deriving DecidableEq
def Iv.enc(a:Iv):List PV:=[.v (.int .i64 a.lo),.v (.int .i64 a.hi),.v (.bool a.no)]
def Iv.dec(p:List PV):Iv:=⟨Zd (p.headD .nil),Zd (p.tail.headD .nil),Zz (p.tail.tail.headD .nil)⟩
structure V where
 x:Iv
 y:Iv
 z:Iv
 deriving DecidableEq
def V.enc(a:V):List PV:=[.v (.int .i64 a.x.lo),.v (.int .i64 a.x.hi),.v (.bool a.x.no),.v (.int .i64 a.y.lo),.v (.int .i64 a.y.hi),.v (.bool a.y.no),.v (.int .i64 a.z.lo),.v (.int .i64 a.z.hi),.v (.bool a.z.no)]
structure Ray where
 o:V
 d:V
 deriving DecidableEq
def Ray.enc(r:Ray):List PV:=[.v (.int .i64 r.o.x.lo),.v (.int .i64 r.o.x.hi),.v (.bool r.o.x.no),.v (.int .i64 r.o.y.lo),.v (.int .i64 r.o.y.hi),.v (.bool r.o.y.no),.v (.int .i64 r.o.z.lo),.v (.int .i64 r.o.z.hi),.v (.bool r.o.z.no),
 .v (.int .i64 r.d.x.lo),.v (.int .i64 r.d.x.hi),.v (.bool r.d.x.no),.v (.int .i64 r.d.y.lo),.v (.int .i64 r.d.y.hi),.v (.bool r.d.y.no),.v (.int .i64 r.d.z.lo),.v (.int .i64 r.d.z.hi),.v (.bool r.d.z.no)]
structure Dec where
 c:Int
 scale:Int
 deriving DecidableEq
def Dec.enc(a:Dec):List PV:=[.v (.int .i64 a.c),.v (.int .i64 a.scale)]
structure A3 where
 a:Int
 b:Int
 c:Int
 deriving DecidableEq
def A3.enc(x:A3):List PV:=[.v (.int .i64 x.a),.v (.int .i64 x.b),.v (.int .i64 x.c)]
structure A6 where
 a:Int
 b:Int
 c:Int
 d:Int
 e:Int
 f:Int
def A6.enc(x:A6):List PV:=[.v (.int .i64 x.a),.v (.int .i64 x.b),.v (.int .i64 x.c),.v (.int .i64 x.d),.v (.int .i64 x.e),.v (.int .i64 x.f)]
structure RawRay where
 x:Int
 y:Int
 u:Int
 w:Int
 wide:Int
 lean:Int
def RawRay.enc(r:RawRay):List PV:=[.v (.int .i64 r.x),.v (.int .i64 r.y),.v (.int .i64 r.u),.v (.int .i64 r.w),.v (.int .i64 r.wide),.v (.int .i64 r.lean)]
structure Shape where
 kind:Int
 x:Dec
 y:Dec
 z:Dec
 r:Dec
 glow:A3
def Shape.enc(s:Shape):List PV:=[.v (.int .i64 s.kind),.v (.int .i64 s.x.c),.v (.int .i64 s.x.scale),.v (.int .i64 s.y.c),.v (.int .i64 s.y.scale),.v (.int .i64 s.z.c),.v (.int .i64 s.z.scale),.v (.int .i64 s.r.c),.v (.int .i64 s.r.scale),.v (.int .i64 s.glow.a),.v (.int .i64 s.glow.b),.v (.int .i64 s.glow.c)]
def Shape.dec(p:List PV):Shape:=⟨Zd (p.headD .nil),⟨Zd (p.tail.headD .nil),Zd (p.tail.tail.headD .nil)⟩,⟨Zd (p.tail.tail.tail.headD .nil),Zd (p.tail.tail.tail.tail.headD .nil)⟩,⟨Zd (p.tail.tail.tail.tail.tail.headD .nil),Zd (p.tail.tail.tail.tail.tail.tail.headD .nil)⟩,⟨Zd (p.tail.tail.tail.tail.tail.tail.tail.headD .nil),Zd (p.tail.tail.tail.tail.tail.tail.tail.tail.headD .nil)⟩,⟨Zd (p.tail.tail.tail.tail.tail.tail.tail.tail.tail.headD .nil),Zd (p.tail.tail.tail.tail.tail.tail.tail.tail.tail.tail.headD .nil),Zd (p.tail.tail.tail.tail.tail.tail.tail.tail.tail.tail.tail.headD .nil)⟩⟩
structure I where
 n:Int
def I.enc(a:I):List PV:=[.v (.int .i64 a.n)]
def I.dec(p:List PV):I:=⟨Zd (p.headD .nil)⟩
def Fit(n:Int):Prop:= -9223372036854775808≤n∧n≤9223372036854775807
theorem Zg{n:Int}(h:Fit n):IntKind.i64.wrap n=n:=by
 obtain ⟨h1,h2⟩:=h
 simp[IntKind.wrap,IntKind.bits,IntKind.signed]
 split<;>omega
theorem Zdh{b:Int}(hb:b≠0):(b < 0∧b.sign= -1)∨(0 < b∧b.sign=1):=by
 rcases Int.lt_or_gt_of_ne hb with h | h
 ·exact .inl ⟨h,Int.sign_eq_neg_one_of_neg h⟩
 ·exact .inr ⟨h,Int.sign_eq_one_of_pos h⟩
theorem Zun{a b:Int}(hb:b≠0)(hm:a.tmod b≠0)(h:(decide (a < 0)==decide (b < 0))=false):a.tdiv b - 1=a.fdiv b:=by
 have hd:¬b∣a:=fun hd=>hm (Int.tmod_eq_zero_of_dvd hd)
 rw[Int.fdiv_eq_tdiv,if_neg hd]
 have ha:a≠0:=fun e=>hd (e▸Int.dvd_zero b)
 have hs:=Zdh hb
 by_cases h1:a < 0<;>by_cases h2:b < 0<;>simp[h1,h2] at h
 ·rw[if_neg (by omega)];omega
 ·rw[if_pos (by omega),if_neg (by omega)]
theorem Znz{a b:Int}(hb:b≠0)(h:a.tmod b=0∨(decide (a < 0)==decide (b < 0))=true):a.tdiv b=a.fdiv b:=by
 rw[Int.fdiv_eq_tdiv]
 by_cases hd:b∣a
 ·rw[if_pos hd];omega
 ·rw[if_neg hd]
  have hm:a.tmod b≠0:=fun e=>hd (Int.dvd_of_tmod_eq_zero e)
  have ha:a≠0:=fun e=>hd (e▸Int.dvd_zero b)
  have h:=h.resolve_left hm
  have hs:=Zdh hb
  by_cases h1:a < 0<;>by_cases h2:b < 0<;>simp[h1,h2] at h
  ·rw[if_neg (by omega)];split<;>omega
  ·rw[if_pos (by omega),if_pos (by omega)];omega
theorem Zdi{a b:Int}(h: -4611686018427387904≤a∧a≤4611686018427387904): -4611686018427387904≤a.tdiv b∧a.tdiv b≤4611686018427387904:=by
 have:=Int.natAbs_tdiv_le_natAbs a b
 omega
theorem ZfD{a b:Int}(h: -4611686018427387904≤a∧a≤4611686018427387904): -4611686018427387905≤a.fdiv b∧a.fdiv b≤4611686018427387905:=by
 have:=Zdi (b:=b) h
 by_cases hb:b=0
 ·subst hb;simp
 ·have hs:=Zdh hb
  rw[Int.fdiv_eq_tdiv]
  split
  ·omega
  ·split<;>split<;>omega
def inB(n:Int):Bool:=decide (-1073741824≤n)&&decide (n≤1073741824)
theorem Yb{n:Int}:inB n=true↔ -1073741824≤n∧n≤1073741824:=by simp[inB]
def right(a:Iv):Bool:= !a.no&&(inB a.lo&&(inB a.hi&&decide (a.lo≤a.hi)))
def none':Iv:=⟨0,0,true⟩
def of(lo hi:Int):Iv:=bif right ⟨lo,hi,false⟩ then ⟨lo,hi,false⟩ else none'
def point(n:Int):Iv:=of n n
def whole(n:Int):Iv:=bif inB n then point (n *65536) else none'
def floor(a b:Int):Int:=a.fdiv b
def up1(a b:Int):Int:=if a % b=0 then a.fdiv b else a.fdiv b+1
def rounded(a b:Int)(up:Bool):Int×Bool:=
 let q:=bif up then up1 a b else a.fdiv b
 bif inB q then (q,true) else (0,false)
def told(n:Int):Int×Bool:=bif inB n then (n,true) else (0,false)
def mul(a b:Int)(up:Bool):Int×Bool:=bif inB a&&inB b then rounded (a *b) 65536 up else (0,false)
def div(a b:Int)(up:Bool):Int×Bool:=bif inB a&&(inB b&&decide (b≠0)) then rounded (a *65536) b up else (0,false)
def both(a b:Iv):Bool:=right a&&right b
def neg(a:Iv):Iv:=bif right a then of (-a.hi) (-a.lo) else none'
def add(a b:Iv):Iv:=bif both a b then of (a.lo+b.lo) (a.hi+b.hi) else none'
def sub(a b:Iv):Iv:=add a (neg b)
def has(a:Iv)(n:Int):Bool:=right a&&(decide (a.lo≤n)&&decide (n≤a.hi))
theorem Zbt{a:Iv}(h:right a=true):a.no=false∧(-1073741824≤a.lo∧a.lo≤1073741824)∧(-1073741824≤a.hi∧a.hi≤1073741824)∧a.lo≤a.hi:=by
 simpa [right,inB] using h
theorem ZoA{lo hi:Int}(h1:inB lo=true)(h2:inB hi=true)(h3:lo≤hi):of lo hi=⟨lo,hi,false⟩:=by
 simp[of,right,h1,h2,h3]
theorem ZiA{a b:Int}:a.tmod b=0↔a % b=0:=by
 rw[←Int.dvd_iff_tmod_eq_zero,←Int.dvd_iff_emod_eq_zero]
theorem ZeY{a b:Int}(ha:inB a=true)(hb:inB b=true): -1152921504606846976≤a *b∧a *b≤1152921504606846976:=by
 rw[Yb] at ha hb
 have h1:(a *b).natAbs≤1073741824 *1073741824:=by
  rw[Int.natAbs_mul]
  exact Nat.mul_le_mul (by omega) (by omega)
 omega
def ends(f:Int→Int→Bool→Int×Bool)(a b:Iv):Iv:=
 bif ((f a.lo b.lo false).2&&(f a.lo b.lo true).2)&&(((f a.lo b.hi false).2&&(f a.lo b.hi true).2)&&(((f a.hi b.lo false).2&&(f a.hi b.lo true).2)&&((f a.hi b.hi false).2&&(f a.hi b.hi true).2))) then
  of (min (min (f a.lo b.lo false).1 (f a.lo b.hi false).1) (min (f a.hi b.lo false).1 (f a.hi b.hi false).1)) (max (max (f a.lo b.lo true).1 (f a.lo b.hi true).1) (max (f a.hi b.lo true).1 (f a.hi b.hi true).1))
 else none'
def YI(a b:Iv):Iv:=bif both a b then ends mul a b else none'
def Y5(a b:Iv):Iv:=bif both a b&& !(has b 0) then ends div a b else none'
def Good(f:Int→Int→Bool→Int×Bool):Prop:=∀x y,(f x y false).2=true→(f x y true).2=true→inB (f x y false).1=true∧inB (f x y true).1=true∧(f x y false).1≤(f x y true).1
theorem ZuO(a b:Int):a.fdiv b≤up1 a b:=by unfold up1;split<;>omega
theorem Zen{a b:Int}(h1:(rounded a b false).2=true)(h2:(rounded a b true).2=true):inB (rounded a b false).1=true∧inB (rounded a b true).1=true∧(rounded a b false).1≤(rounded a b true).1:=by
 have:=ZuO a b
 unfold rounded at *
 simp only[Qb_,Qd_] at *
 cases e1:inB (a.fdiv b)<;>cases e2:inB (up1 a b)<;>simp_all
theorem Zsw:Good mul:=by
 intro x y h1 h2
 unfold mul at *
 cases e:(inB x&&inB y) with
 | false=>simp[e] at h1
 | true=>simp only[e,Qb_] at *;exact Zen h1 h2
theorem Zsx:Good div:=by
 intro x y h1 h2
 unfold div at *
 cases e:(inB x&&(inB y&&decide (y≠0))) with
 | false=>rw[e] at h1;simp at h1
 | true=>simp only[e,Qb_] at *;exact Zen h1 h2
def ch1(p q:Int)(e:Iv):Iv:=of (List.foldl imin e.lo [p]) (List.foldl imax e.hi [q])
theorem Z1(x y:Int):imin x y=min x y:=by unfold imin;split<;>omega
theorem Zv(x y:Int):imax x y=max x y:=by unfold imax;split<;>omega
theorem ZgS{p q l h:Int}(h1:inB p=true)(h2:inB q=true)(h3:inB l=true)(h4:inB h=true)(h5:p≤q)(h6:l≤h):ch1 p q ⟨l,h,false⟩=⟨min l p,max h q,false⟩:=by
 rw[Yb] at *
 simp only[ch1,List.foldl,Z1,Zv]
 exact ZoA (Yb.2 (by omega)) (Yb.2 (by omega)) (by omega)
theorem ZgT{f:Int→Int→Bool→Int×Bool}(g:Good f){a b:Iv}(h1:(f a.lo b.lo false).2=true)(h2:(f a.lo b.lo true).2=true)(h3:(f a.lo b.hi false).2=true)(h4:(f a.lo b.hi true).2=true)(h5:(f a.hi b.lo false).2=true)(h6:(f a.hi b.lo true).2=true)(h7:(f a.hi b.hi false).2=true)(h8:(f a.hi b.hi true).2=true):
 ch1 (f a.hi b.hi false).1 (f a.hi b.hi true).1 (ch1 (f a.hi b.lo false).1 (f a.hi b.lo true).1 (ch1 (f a.lo b.hi false).1 (f a.lo b.hi true).1 (ch1 (f a.lo b.lo false).1 (f a.lo b.lo true).1 (of (f a.lo b.lo false).1 (f a.lo b.lo true).1))))=ends f a b:=by
 obtain ⟨a1,a2,a3⟩:=g _ _ h1 h2
 obtain ⟨b1,b2,b3⟩:=g _ _ h3 h4
 obtain ⟨c1,c2,c3⟩:=g _ _ h5 h6
 obtain ⟨d1,d2,d3⟩:=g _ _ h7 h8
 simp only[ends,h1,h2,h3,h4,h5,h6,h7,h8,QZ_,Qb_]
 generalize (f a.lo b.lo false).1=p1 at *
 generalize (f a.lo b.lo true).1=q1 at *
 generalize (f a.lo b.hi false).1=p2 at *
 generalize (f a.lo b.hi true).1=q2 at *
 generalize (f a.hi b.lo false).1=p3 at *
 generalize (f a.hi b.lo true).1=q3 at *
 generalize (f a.hi b.hi false).1=p4 at *
 generalize (f a.hi b.hi true).1=q4 at *
 rw[ZoA a1 a2 a3,ZgS a1 a2 a1 a2 a3 a3]
 rw[Yb] at *
 rw[ZgS (Yb.2 b1) (Yb.2 b2) (Yb.2 (by omega)) (Yb.2 (by omega)) b3 (by omega),
  ZgS (Yb.2 c1) (Yb.2 c2) (Yb.2 (by omega)) (Yb.2 (by omega)) c3 (by omega),
  ZgS (Yb.2 d1) (Yb.2 d2) (Yb.2 (by omega)) (Yb.2 (by omega)) d3 (by omega)]
 rw[ZoA (Yb.2 (by omega)) (Yb.2 (by omega)) (by omega)]
 simp only[Iv.mk.injEq,and_true]
 omega
theorem Zn0{f:Int→Int→Bool→Int×Bool}{a b:Iv}(h:(f a.lo b.lo false).2=false∨(f a.lo b.lo true).2=false∨(f a.lo b.hi false).2=false∨(f a.lo b.hi true).2=false∨(f a.hi b.lo false).2=false∨(f a.hi b.lo true).2=false∨(f a.hi b.hi false).2=false∨(f a.hi b.hi true).2=false):none'=ends f a b:=by
 unfold ends
 rcases h with h | h | h | h | h | h | h | h<;>simp[h]
def far(a:Iv):Int:=max (-a.lo) a.hi
def near(a:Iv):Int:=max (max a.lo (-a.hi)) 0
def sqr(a:Iv):Iv:=bif right a&&(mul (far a) (far a) true).2 then of (mul (near a) (near a) false).1 (mul (far a) (far a) true).1 else none'
def times(a:Iv)(k:Int):Iv:=bif right a&&inB k then of (min (k *a.lo) (k *a.hi)) (max (k *a.lo) (k *a.hi)) else none'
def Y6:Nat→Int→Int→Int
 | 0,_,r=>r
 | k+1,n,r=>if (r+2 ^ k)* (r+2 ^ k)≤n then Y6 k n (r+2 ^ k) else Y6 k n r
def root(a:Int)(up:Bool):Int×Bool:=bif inB a&&decide (0≤a) then
    (bif up&&decide (Y6 24 (a *65536) 0 *Y6 24 (a *65536) 0 < a *65536) then (Y6 24 (a *65536) 0+1,true) else (Y6 24 (a *65536) 0,true))
 else (0,false)
def Zbu(a:Iv):Iv:=bif right a&&decide (0≤a.lo) then of (root a.lo false).1 (root a.hi true).1 else none'
def ZvS(a b c:Iv):Iv×Int:=
 let d:=sub (sqr b) (YI a c)
 bif d.no then (none',0) else bif decide (d.hi < 0) then (none',2) else bif decide (d.lo < 0) then (none',0) else
  let t:=Y5 c (sub (Zbu d) b)
  bif t.no then (none',0) else (t,1)
def Zwq(a b:V):V:=⟨sub a.x b.x,sub a.y b.y,sub a.z b.z⟩
def dot(a b:V):Iv:=add (add (YI a.x b.x) (YI a.y b.y)) (YI a.z b.z)
def ZuP(a:V):Iv:=add (add (sqr a.x) (sqr a.y)) (sqr a.z)
def ZL(d:Dec):Bool:=decide (d.c≥ -100000000000)&&(decide (d.c≤100000000000)&&(decide (d.scale≥0)&&(decide (d.scale≤6)&&(d.scale==0||d.c.tmod 10 !=0))))
def ZK(n:Int):Int:=10 ^ n.toNat
def Z0(d:Dec):Iv:=bif ZL d then of (floor (d.c *65536) (ZK d.scale)) (-(floor (-(d.c *65536)) (ZK d.scale))) else none'
def within(n low high:Int):Int:=max low (min high n)
theorem ZgU{i:Int}(h:0≤i):ZK (i+1)=ZK i *10:=by
 unfold ZK
 rw[show (i+1).toNat=i.toNat+1 by omega,Int.pow_succ]
theorem ZbV(i:Int):1≤ZK i:=by
 unfold ZK
 have:0 < (10:Int) ^ i.toNat:=Int.pow_pos (by omega)
 omega
theorem ZgV{i j:Int}(h:i≤j):ZK i≤ZK j:=by
 unfold ZK
 have:=Nat.pow_le_pow_right (n:=10) (by omega) (show i.toNat≤j.toNat by omega)
 exact_mod_cast this
theorem Zsy{i:Int}(h:i≤18):ZK i≤1000000000000000000:=ZgV (j:=18) h
theorem Xv{n:Int}(h: -9223372036854775807≤n∧n≤9223372036854775807):IntKind.i64.wrap (0 - n)= -n:=by
 rw[Zg (by constructor<;>omega)];omega
theorem ZfE(n:Int):∀(k:Nat) (r:Int),r≤Y6 k n r∧Y6 k n r < r+2 ^ k
 | 0,r=>by simp[Y6];omega
 | k+1,r=>by
   have h:(2:Int) ^ (k+1)=2 ^ k+2 ^ k:=by rw[Int.pow_succ];omega
   have hp:(0:Int) < 2 ^ k:=Int.pow_pos (by omega)
   unfold Y6
   split
   ·have:=ZfE n k (r+2 ^ k);omega
   ·have:=ZfE n k r;omega
theorem Zsz{n:Int}(h:n < 281474976710656):Y6 25 n 0=Y6 24 n 0:=by
 conv=>lhs;unfold Y6
 rw[if_neg (by simp;omega)]
theorem ZkT{n:Int}:0≤Y6 24 n 0∧Y6 24 n 0 < 16777216:=by
 have:=ZfE n 24 0
 simp at this
 omega
theorem Zn1{n:Int}:Fit (Y6 24 n 0 *Y6 24 n 0):=by
 have:=ZkT (n:=n)
 generalize Y6 24 n 0=r at *
 have h1:0≤r *r:=Int.mul_nonneg this.1 this.1
 have h2:r *r≤16777216 *16777216:=Int.mul_le_mul (by omega) (by omega) this.1 (by omega)
 constructor<;>omega
theorem ZkU{b:Int}(h:0≤b):(2:Int) ^ (b+1).toNat=2 ^ b.toNat+2 ^ b.toNat:=by
 rw[show (b+1).toNat=b.toNat+1 by omega,Int.pow_succ];omega
theorem ZuQ{x:Int}(h:0≤x∧x≤33554432):Fit (x *x):=by
 have h1:0≤x *x:=Int.mul_nonneg h.1 h.1
 have h2:x *x≤33554432 *33554432:=Int.mul_le_mul (by omega) (by omega) h.1 (by omega)
 constructor<;>omega
theorem ZuR{r b:Int}(hb:0≤b∧b≤30)(hr:0≤r∧r < 4294967296)(hd:(2:Int) ^ (b.toNat+1)∣r):
 IntKind.i64.wrap ((BitVec.ofInt IntKind.i64.bits r||| BitVec.ofInt IntKind.i64.bits (IntKind.i64.wrap (1 *2 ^ min b.toNat IntKind.i64.bits))).toNat:Int)=r+2 ^ b.toNat:=by
 obtain ⟨m,hm⟩:=Int.eq_ofNat_of_zero_le hr.1
 obtain ⟨k,hk⟩:=Int.eq_ofNat_of_zero_le hb.1
 subst hm;subst hk
 have hk30:k≤30:=by omega
 have hm32:m < 4294967296:=by omega
 have hp:2 ^ k≤2 ^ 30:=Nat.pow_le_pow_right (by omega) hk30
 have e1:min (Int.toNat (k:Int)) IntKind.i64.bits=k:=by simp[IntKind.bits];omega
 have hp30:(2:Nat) ^ 30=1073741824:=by decide
 have e2:IntKind.i64.wrap (1 *2 ^ k)=((2 ^ k:Nat):Int):=by
  have h2:(1:Int)*2 ^ k=((2 ^ k:Nat):Int):=by simp
  rw[h2]
  generalize (2 ^ k:Nat)=t at *
  exact Zg (by constructor<;>omega)
 rw[e1,e2]
 have hd':2 ^ (k+1)∣m:=by
  have:((2 ^ (k+1):Nat):Int)∣(m:Int):=by simpa using hd
  exact Int.ofNat_dvd.1 this
 obtain ⟨c,hc⟩:=hd'
 have e3:(BitVec.ofInt IntKind.i64.bits (m:Int)||| BitVec.ofInt IntKind.i64.bits ((2 ^ k:Nat):Int)).toNat=m+2 ^ k:=by
  rw[BitVec.toNat_or,BitVec.ofInt_natCast,BitVec.ofInt_natCast,BitVec.toNat_ofNat,BitVec.toNat_ofNat]
  rw[Nat.mod_eq_of_lt (show m < 2 ^ IntKind.i64.bits by simp only[IntKind.bits];omega),Nat.mod_eq_of_lt (show 2 ^ k < 2 ^ IntKind.i64.bits by simp only[IntKind.bits];omega)]
  have h2:2 ^ k < 2 ^ (k+1):=Nat.pow_lt_pow_right (by omega) (by omega)
  have:=Nat.shiftLeft_add_eq_or_of_lt h2 c
  rw[Nat.shiftLeft_eq,Nat.mul_comm,←hc] at this
  exact this.symm
 rw[e3,Zg (by generalize (2 ^ k:Nat)=t at *;constructor<;>omega)]
 simp
theorem Zib{r bit:Int}(h0:0≤bit)(a1:bit≤24)(a3:0≤r∧r+2 ^ (bit+1).toNat≤33554432)(a4:(2:Int) ^ (bit+1).toNat∣r):
 IntKind.i64.wrap (BitVec.ofInt (64:Nat) r||| BitVec.ofInt (64:Nat) (IntKind.i64.wrap (1 *2 ^ min bit.toNat (64:Nat)))).toNat=r+2 ^ bit.toNat:=by
 have h4:=ZkU h0
 have hp:(0:Int) < 2 ^ bit.toNat:=Int.pow_pos (by omega)
 rw[h4] at a3
 exact ZuR (r:=r) (b:=bit) (by omega) (by omega) (by rw[show bit.toNat+1=(bit+1).toNat by omega];exact a4)
theorem ZaS{r bit:Int}(h0:0≤bit)(a3:0≤r∧r+2 ^ (bit+1).toNat≤33554432):
 (bit - 1+1).toNat=bit.toNat∧(bit+1).toNat=bit.toNat+1∧(0:Int) < 2 ^ bit.toNat∧(2:Int) ^ (bit+1).toNat=2 ^ bit.toNat+2 ^ bit.toNat∧Fit ((r+2 ^ bit.toNat)* (r+2 ^ bit.toNat))∧(0≤r∧r+2 ^ bit.toNat+2 ^ bit.toNat≤33554432):=by
 have h4:=ZkU h0
 have hp:(0:Int) < 2 ^ bit.toNat:=Int.pow_pos (by omega)
 rw[h4] at a3
 exact ⟨by omega,by omega,hp,h4,ZuQ (by omega),by omega⟩
theorem Wb{d:Dec}(h:ZL d=true):(-100000000000≤d.c∧d.c≤100000000000)∧(0≤d.scale∧d.scale≤6):=by
 simp[ZL] at h
 omega
def pick(n m:Int):Int:=n % m
theorem Jk{n m:Int}(h:0 < m):0≤pick n m∧pick n m < m:=⟨Int.emod_nonneg n (by omega),Int.emod_lt_of_pos n h⟩
theorem Zn2{n m:Int}(h:0 < m):pick n m=if n.tmod m < 0 then n.tmod m+m else n.tmod m:=by
 have h1:=Jk (n:=n) h
 unfold pick at *
 rw[Int.tmod_eq_emod]
 split<;>split<;>omega
theorem Zuo{n m:Int}(h:0 < m): -m < n.tmod m∧n.tmod m < m:=by
 have h1:=Jk (n:=n) h
 unfold pick at h1
 rw[Int.tmod_eq_emod]
 split<;>omega
def w64(n:Int):Int:=IntKind.i64.wrap n
def wide(x w:Int):Iv:=⟨within x (-1073741824) 1073741824,min 1073741824 (within x (-1073741824) 1073741824+w),false⟩
def Zdj(d:Dec):Bool:=d.c==0&&d.scale==0
def meet(s:Shape)(r:Ray):Iv×Int:=
 bif s.kind==1 then
  let o:=Zwq r.o ⟨Z0 s.x,Z0 s.y,Z0 s.z⟩
  ZvS (ZuP r.d) (dot o r.d) (sub (ZuP o) (sqr (Z0 s.r)))
 else bif s.kind==2 then
  let t:=Y5 (sub (Z0 s.z) r.o.z) r.d.z
  bif t.no then (none',0) else (t,1)
 else (none',0)
def hit(s:Shape)(r:Ray):Iv×Int:=
 bif !((meet s r).2==1) then (none',(meet s r).2) else bif decide ((meet s r).1.hi≤0) then (none',2) else bif decide ((meet s r).1.lo≤0) then (none',0) else ((meet s r).1,1)
theorem Xl(l:List Shape):Ze Shape.dec (l.map Shape.enc)=l:=Wt _ _ (fun _=>rfl) l
theorem dI(l:List I):Ze I.dec (l.map I.enc)=l:=Wt _ _ (fun _=>rfl) l
theorem dIv(l:List Iv):Ze Iv.dec (l.map Iv.enc)=l:=Wt _ _ (fun _=>rfl) l
def YT{α:Type}(p:α→Bool):List α→Int→Int
 | [],_=> -1
 | x::r,i=>bif p x then i else YT p r (i+1)
theorem ZeZ{α:Type}{p:α→Bool}:∀{l:List α} {i:Int},l.any p=false→YT p l i= -1
 | [],_,_=>rfl
 | x::r,i,h=>by
   simp only[QU_,Ka_] at h
   simp only[YT,h.1,Qd_]
   exact ZeZ h.2
theorem Zfa{α:Type}{p:α→Bool}:∀{l:List α} {i:Int},0≤i→decide (YT p l i≥0)=l.any p
 | [],_,_=>by simp[YT]
 | x::r,i,h=>by
   cases e:p x with
   | true=>simp[YT,e];exact h
   | false=>simpa [YT,e] using Zfa (p:=p) (l:=r) (i:=i+1) (by omega)
theorem Yi{α:Type}{l:List α}{i:Int}(h0:0≤i)(h:i < l.length):∃x r,l.drop i.toNat=x::r∧l.drop (i+1).toNat=r∧l[i.toNat]?=some x:=by
 have hl:i.toNat < l.length:=by omega
 refine ⟨l[i.toNat],l.drop (i.toNat+1),Kw_ hl,by rw[show (i+1).toNat=i.toNat+1 by omega],by simp[hl]⟩
theorem Yt{α:Type}{e:α→List PV}{l:List α}{n:Nat}{x:α}(h:l[n]?=some x):(l.map e).getD n []=e x:=by
 rw[Q7_,Q6_,h];rfl
def hdec:Nat→Int→Int→Dec
 | 0,c,s=>⟨c,s⟩
 | k+1,c,s=>bif decide (s > 0)&&c.tmod 10==0 then hdec k (IntKind.i64.wrap (c.tdiv 10)) (IntKind.i64.wrap (s - 1)) else ⟨c,s⟩
theorem Zu{α:Type}{e:α→List PV}{z:List PV}(h:∀x,Yx z (e x)=e x){l:List α}{i:Int}(h0:0≤i)(h1:i < l.length):0≤i∧(l.map e)[i.toNat]?=some (Yx z ((l.map e).getD i.toNat [])):=by
 obtain ⟨x,r,_,_,hx⟩:=Yi h0 h1
 refine ⟨h0, ?_⟩
 rw[Yt hx,Q6_,hx,h]
 rfl
theorem ZuS(l:List I)(k:Nat):Zd (((l.map I.enc).getD k []).headD .nil)=(l.getD k ⟨0⟩).n:=by
 rw[Q7_,Q6_,Q7_]
 cases l[k]?<;>rfl
theorem Zq5{c s:Int}(h:0 < s)(hs:s≤18)(hc:c.tmod 10=0):hdec s.toNat c s=hdec (IntKind.i64.wrap (s - 1)).toNat (IntKind.i64.wrap (c.tdiv 10)) (IntKind.i64.wrap (s - 1)):=by
 have e:(IntKind.i64.wrap (s - 1))=s - 1:=Zg (by constructor<;>omega)
 rw[e]
 obtain ⟨k,hk⟩:∃k,s.toNat=k+1:=⟨s.toNat - 1,by omega⟩
 have hk2:(s - 1).toNat=k:=by omega
 rw[hk,hk2]
 conv=>lhs;unfold hdec
 rw[e,show (decide (s > 0)&&c.tmod 10==0)=true by simp[h,hc]]
 rfl
theorem ZkV{c s:Int}(h:¬(s > 0∧c.tmod 10=0)):hdec s.toNat c s=⟨c,s⟩:=by
 by_cases hs:s > 0
 ·obtain ⟨k,hk⟩:∃k,s.toNat=k+1:=⟨s.toNat - 1,by omega⟩
  rw[hk]
  unfold hdec
  have hc:(c.tmod 10==0)=false:=by simp;intro e;exact h ⟨hs,e⟩
  rw[hc,Qn_];rfl
 ·have:s.toNat=0:=by omega
  rw[this];rfl
theorem YL{α:Type}{e:α→List PV}{n:Nat}(h:∀x,(e x).length=n)(l:List α):Lens n (l.map e):=fun y hy=>by
 obtain ⟨x,_,rfl⟩:=Ks_.1 hy
 exact h x
theorem YM{n:Nat}{l:List (List PV)}{x:List PV}(h:Lens n l)(hx:x.length=n):Lens n (l++[x]):=fun y hy=>by
 rcases Kt_.1 hy with h' | h'
 ·exact h y h'
 ·rw[List.mem_singleton.1 h'];exact hx
def ZgW(r:Ray):List Shape→Int→Int→Iv→List Iv→Int×Iv×List Iv
 | [],_,b,a,all=>(b,a,all)
 | s::l,k,b,a,all=>
   bif (hit s r).2==2 then ZgW r l (k+1) b a all
   else bif decide (b < 0)||decide ((hit s r).1.hi < a.hi) then ZgW r l (k+1) k (hit s r).1 (all++[(hit s r).1])
   else ZgW r l (k+1) b a (all++[(hit s r).1])
def unsure(r:Ray)(l:List Shape):Bool:=l.any (fun s=>(hit s r).2==0)
def behind(a:Iv):List Iv→Int
 | []=>0
 | t::l=>bif decide (a.hi < t.lo) then behind a l+1 else behind a l
def nearest(l:List Shape)(r:Ray):Int×Iv×Int:=
 bif unsure r l then (-1,none',0) else
  let g:=ZgW r l 0 (-1) none' []
  bif decide (g.1 < 0) then (-1,none',2)
  else bif decide (behind g.2.1 g.2.2+1 < g.2.2.length) then (-1,none',0) else (g.1,g.2.1,1)
theorem ZmX{cs vs:List PV}{o:Nat}(h:o+vs.length≤cs.length):(lay cs o vs).length=cs.length:=by
 unfold lay
 simp only[Qx_,K0_,K7_]
 omega
structure Surf where
 stop:Bool
 bent:Bool
 curve:Iv
 conic:Iv
 a4:Iv
 a6:Iv
 pos:Iv
 open2:Iv
 ratio:Iv
def Surf.enc(x:Surf):List PV:=[.v (.bool x.stop),.v (.bool x.bent),.v (.int .i64 x.curve.lo),.v (.int .i64 x.curve.hi),.v (.bool x.curve.no),.v (.int .i64 x.conic.lo),.v (.int .i64 x.conic.hi),.v (.bool x.conic.no),.v (.int .i64 x.a4.lo),.v (.int .i64 x.a4.hi),.v (.bool x.a4.no),.v (.int .i64 x.a6.lo),.v (.int .i64 x.a6.hi),.v (.bool x.a6.no),.v (.int .i64 x.pos.lo),.v (.int .i64 x.pos.hi),.v (.bool x.pos.no),.v (.int .i64 x.open2.lo),.v (.int .i64 x.open2.hi),.v (.bool x.open2.no),.v (.int .i64 x.ratio.lo),.v (.int .i64 x.ratio.hi),.v (.bool x.ratio.no)]
def Surf.dec(p:List PV):Surf:=⟨Zz (p.headD .nil),Zz (p.tail.headD .nil),⟨Zd (p.tail.tail.headD .nil),Zd (p.tail.tail.tail.headD .nil),Zz (p.tail.tail.tail.tail.headD .nil)⟩,⟨Zd (p.tail.tail.tail.tail.tail.headD .nil),Zd (p.tail.tail.tail.tail.tail.tail.headD .nil),Zz (p.tail.tail.tail.tail.tail.tail.tail.headD .nil)⟩,⟨Zd (p.tail.tail.tail.tail.tail.tail.tail.tail.headD .nil),Zd (p.tail.tail.tail.tail.tail.tail.tail.tail.tail.headD .nil),Zz (p.tail.tail.tail.tail.tail.tail.tail.tail.tail.tail.headD .nil)⟩,⟨Zd (p.tail.tail.tail.tail.tail.tail.tail.tail.tail.tail.tail.headD .nil),Zd (p.tail.tail.tail.tail.tail.tail.tail.tail.tail.tail.tail.tail.headD .nil),Zz (p.tail.tail.tail.tail.tail.tail.tail.tail.tail.tail.tail.tail.tail.headD .nil)⟩,⟨Zd (p.tail.tail.tail.tail.tail.tail.tail.tail.tail.tail.tail.tail.tail.tail.headD .nil),Zd (p.tail.tail.tail.tail.tail.tail.tail.tail.tail.tail.tail.tail.tail.tail.tail.headD .nil),Zz (p.tail.tail.tail.tail.tail.tail.tail.tail.tail.tail.tail.tail.tail.tail.tail.tail.headD .nil)⟩,⟨Zd (p.tail.tail.tail.tail.tail.tail.tail.tail.tail.tail.tail.tail.tail.tail.tail.tail.tail.headD .nil),Zd (p.tail.tail.tail.tail.tail.tail.tail.tail.tail.tail.tail.tail.tail.tail.tail.tail.tail.tail.headD .nil),Zz (p.tail.tail.tail.tail.tail.tail.tail.tail.tail.tail.tail.tail.tail.tail.tail.tail.tail.tail.tail.headD .nil)⟩,⟨Zd (p.tail.tail.tail.tail.tail.tail.tail.tail.tail.tail.tail.tail.tail.tail.tail.tail.tail.tail.tail.tail.headD .nil),Zd (p.tail.tail.tail.tail.tail.tail.tail.tail.tail.tail.tail.tail.tail.tail.tail.tail.tail.tail.tail.tail.tail.headD .nil),Zz (p.tail.tail.tail.tail.tail.tail.tail.tail.tail.tail.tail.tail.tail.tail.tail.tail.tail.tail.tail.tail.tail.tail.headD .nil)⟩⟩
theorem Xc(l:List Surf):Ze Surf.dec (l.map Surf.enc)=l:=Wt _ _ (fun _=>rfl) l
structure SysM where
 surfs:List Surf
 op:Iv
def SysM.enc(x:SysM):List PV:=[.lst (x.surfs.map Surf.enc),.v (.int .i64 x.op.lo),.v (.int .i64 x.op.hi),.v (.bool x.op.no)]
def SysM.dec(p:List PV):SysM:=⟨(Ze Surf.dec (J1 (p.headD .nil))),⟨Zd (p.tail.headD .nil),Zd (p.tail.tail.headD .nil),Zz (p.tail.tail.tail.headD .nil)⟩⟩
-- SysM: with lists
structure TrRes where
 kind:Int
 pos:Int
 r:Ray
def TrRes.enc(x:TrRes):List PV:=[.v (.int .i64 x.kind),.v (.int .i64 x.pos),.v (.int .i64 x.r.o.x.lo),.v (.int .i64 x.r.o.x.hi),.v (.bool x.r.o.x.no),.v (.int .i64 x.r.o.y.lo),.v (.int .i64 x.r.o.y.hi),.v (.bool x.r.o.y.no),.v (.int .i64 x.r.o.z.lo),.v (.int .i64 x.r.o.z.hi),.v (.bool x.r.o.z.no),.v (.int .i64 x.r.d.x.lo),.v (.int .i64 x.r.d.x.hi),.v (.bool x.r.d.x.no),.v (.int .i64 x.r.d.y.lo),.v (.int .i64 x.r.d.y.hi),.v (.bool x.r.d.y.no),.v (.int .i64 x.r.d.z.lo),.v (.int .i64 x.r.d.z.hi),.v (.bool x.r.d.z.no)]
def TrRes.dec(p:List PV):TrRes:=⟨Zd (p.headD .nil),Zd (p.tail.headD .nil),⟨⟨⟨Zd (p.tail.tail.headD .nil),Zd (p.tail.tail.tail.headD .nil),Zz (p.tail.tail.tail.tail.headD .nil)⟩,⟨Zd (p.tail.tail.tail.tail.tail.headD .nil),Zd (p.tail.tail.tail.tail.tail.tail.headD .nil),Zz (p.tail.tail.tail.tail.tail.tail.tail.headD .nil)⟩,⟨Zd (p.tail.tail.tail.tail.tail.tail.tail.tail.headD .nil),Zd (p.tail.tail.tail.tail.tail.tail.tail.tail.tail.headD .nil),Zz (p.tail.tail.tail.tail.tail.tail.tail.tail.tail.tail.headD .nil)⟩⟩,⟨⟨Zd (p.tail.tail.tail.tail.tail.tail.tail.tail.tail.tail.tail.headD .nil),Zd (p.tail.tail.tail.tail.tail.tail.tail.tail.tail.tail.tail.tail.headD .nil),Zz (p.tail.tail.tail.tail.tail.tail.tail.tail.tail.tail.tail.tail.tail.headD .nil)⟩,⟨Zd (p.tail.tail.tail.tail.tail.tail.tail.tail.tail.tail.tail.tail.tail.tail.headD .nil),Zd (p.tail.tail.tail.tail.tail.tail.tail.tail.tail.tail.tail.tail.tail.tail.tail.headD .nil),Zz (p.tail.tail.tail.tail.tail.tail.tail.tail.tail.tail.tail.tail.tail.tail.tail.tail.headD .nil)⟩,⟨Zd (p.tail.tail.tail.tail.tail.tail.tail.tail.tail.tail.tail.tail.tail.tail.tail.tail.tail.headD .nil),Zd (p.tail.tail.tail.tail.tail.tail.tail.tail.tail.tail.tail.tail.tail.tail.tail.tail.tail.tail.headD .nil),Zz (p.tail.tail.tail.tail.tail.tail.tail.tail.tail.tail.tail.tail.tail.tail.tail.tail.tail.tail.tail.headD .nil)⟩⟩⟩⟩
structure G3 where
 a:Dec
 b:Dec
 c:Dec
def G3.enc(x:G3):List PV:=[.v (.int .i64 x.a.c),.v (.int .i64 x.a.scale),.v (.int .i64 x.b.c),.v (.int .i64 x.b.scale),.v (.int .i64 x.c.c),.v (.int .i64 x.c.scale)]
def G3.dec(p:List PV):G3:=⟨⟨Zd (p.headD .nil),Zd (p.tail.headD .nil)⟩,⟨Zd (p.tail.tail.headD .nil),Zd (p.tail.tail.tail.headD .nil)⟩,⟨Zd (p.tail.tail.tail.tail.headD .nil),Zd (p.tail.tail.tail.tail.tail.headD .nil)⟩⟩
structure Glass where
 name:List UInt8
 b:G3
 c:G3
def Glass.enc(x:Glass):List PV:=[.str x.name,.v (.int .i64 x.b.a.c),.v (.int .i64 x.b.a.scale),.v (.int .i64 x.b.b.c),.v (.int .i64 x.b.b.scale),.v (.int .i64 x.b.c.c),.v (.int .i64 x.b.c.scale),.v (.int .i64 x.c.a.c),.v (.int .i64 x.c.a.scale),.v (.int .i64 x.c.b.c),.v (.int .i64 x.c.b.scale),.v (.int .i64 x.c.c.c),.v (.int .i64 x.c.c.scale)]
def Glass.dec(p:List PV):Glass:=⟨We (p.headD .nil),⟨⟨Zd (p.tail.headD .nil),Zd (p.tail.tail.headD .nil)⟩,⟨Zd (p.tail.tail.tail.headD .nil),Zd (p.tail.tail.tail.tail.headD .nil)⟩,⟨Zd (p.tail.tail.tail.tail.tail.headD .nil),Zd (p.tail.tail.tail.tail.tail.tail.headD .nil)⟩⟩,⟨⟨Zd (p.tail.tail.tail.tail.tail.tail.tail.headD .nil),Zd (p.tail.tail.tail.tail.tail.tail.tail.tail.headD .nil)⟩,⟨Zd (p.tail.tail.tail.tail.tail.tail.tail.tail.tail.headD .nil),Zd (p.tail.tail.tail.tail.tail.tail.tail.tail.tail.tail.headD .nil)⟩,⟨Zd (p.tail.tail.tail.tail.tail.tail.tail.tail.tail.tail.tail.headD .nil),Zd (p.tail.tail.tail.tail.tail.tail.tail.tail.tail.tail.tail.tail.headD .nil)⟩⟩⟩
theorem Zp(l:List Glass):Ze Glass.dec (l.map Glass.enc)=l:=Wt _ _ (fun _=>rfl) l
structure Face where
 stop:Bool
 radius:Dec
 aperture:Dec
 thick:Dec
 conic:Dec
 a4:Dec
 a6:Dec
 glass:List UInt8
def Face.enc(x:Face):List PV:=[.v (.bool x.stop),.v (.int .i64 x.radius.c),.v (.int .i64 x.radius.scale),.v (.int .i64 x.aperture.c),.v (.int .i64 x.aperture.scale),.v (.int .i64 x.thick.c),.v (.int .i64 x.thick.scale),.v (.int .i64 x.conic.c),.v (.int .i64 x.conic.scale),.v (.int .i64 x.a4.c),.v (.int .i64 x.a4.scale),.v (.int .i64 x.a6.c),.v (.int .i64 x.a6.scale),.str x.glass]
def Face.dec(p:List PV):Face:=⟨Zz (p.headD .nil),⟨Zd (p.tail.headD .nil),Zd (p.tail.tail.headD .nil)⟩,⟨Zd (p.tail.tail.tail.headD .nil),Zd (p.tail.tail.tail.tail.headD .nil)⟩,⟨Zd (p.tail.tail.tail.tail.tail.headD .nil),Zd (p.tail.tail.tail.tail.tail.tail.headD .nil)⟩,⟨Zd (p.tail.tail.tail.tail.tail.tail.tail.headD .nil),Zd (p.tail.tail.tail.tail.tail.tail.tail.tail.headD .nil)⟩,⟨Zd (p.tail.tail.tail.tail.tail.tail.tail.tail.tail.headD .nil),Zd (p.tail.tail.tail.tail.tail.tail.tail.tail.tail.tail.headD .nil)⟩,⟨Zd (p.tail.tail.tail.tail.tail.tail.tail.tail.tail.tail.tail.headD .nil),Zd (p.tail.tail.tail.tail.tail.tail.tail.tail.tail.tail.tail.tail.headD .nil)⟩,We (p.tail.tail.tail.tail.tail.tail.tail.tail.tail.tail.tail.tail.tail.headD .nil)⟩
theorem Z9(l:List Face):Ze Face.dec (l.map Face.enc)=l:=Wt _ _ (fun _=>rfl) l
structure LensM where
 name:List UInt8
 back:Dec
 faces:List Face
def LensM.enc(x:LensM):List PV:=[.str x.name,.v (.int .i64 x.back.c),.v (.int .i64 x.back.scale),.lst (x.faces.map Face.enc)]
def LensM.dec(p:List PV):LensM:=⟨We (p.headD .nil),⟨Zd (p.tail.headD .nil),Zd (p.tail.tail.headD .nil)⟩,(Ze Face.dec (J1 (p.tail.tail.tail.headD .nil)))⟩
-- LensM: with lists
structure RawFace where
 kind:Int
 r:Int
 a:Int
 t:Int
 g:Int
 k:Int
def RawFace.enc(x:RawFace):List PV:=[.v (.int .i64 x.kind),.v (.int .i64 x.r),.v (.int .i64 x.a),.v (.int .i64 x.t),.v (.int .i64 x.g),.v (.int .i64 x.k)]
def RawFace.dec(p:List PV):RawFace:=⟨Zd (p.headD .nil),Zd (p.tail.headD .nil),Zd (p.tail.tail.headD .nil),Zd (p.tail.tail.tail.headD .nil),Zd (p.tail.tail.tail.tail.headD .nil),Zd (p.tail.tail.tail.tail.tail.headD .nil)⟩
theorem Xj(l:List RawFace):Ze RawFace.dec (l.map RawFace.enc)=l:=Wt _ _ (fun _=>rfl) l
structure Pixel where
 lo:A3
 hi:A3
 lost:Int
def Pixel.enc(x:Pixel):List PV:=[.v (.int .i64 x.lo.a),.v (.int .i64 x.lo.b),.v (.int .i64 x.lo.c),.v (.int .i64 x.hi.a),.v (.int .i64 x.hi.b),.v (.int .i64 x.hi.c),.v (.int .i64 x.lost)]
def Pixel.dec(p:List PV):Pixel:=⟨⟨Zd (p.headD .nil),Zd (p.tail.headD .nil),Zd (p.tail.tail.headD .nil)⟩,⟨Zd (p.tail.tail.tail.headD .nil),Zd (p.tail.tail.tail.tail.headD .nil),Zd (p.tail.tail.tail.tail.tail.headD .nil)⟩,Zd (p.tail.tail.tail.tail.tail.tail.headD .nil)⟩
structure Card where
 efl:Iv
 bfl:Iv
 plane:Iv
 number:Iv
def Card.enc(x:Card):List PV:=[.v (.int .i64 x.efl.lo),.v (.int .i64 x.efl.hi),.v (.bool x.efl.no),.v (.int .i64 x.bfl.lo),.v (.int .i64 x.bfl.hi),.v (.bool x.bfl.no),.v (.int .i64 x.plane.lo),.v (.int .i64 x.plane.hi),.v (.bool x.plane.no),.v (.int .i64 x.number.lo),.v (.int .i64 x.number.hi),.v (.bool x.number.no)]
def Card.dec(p:List PV):Card:=⟨⟨Zd (p.headD .nil),Zd (p.tail.headD .nil),Zz (p.tail.tail.headD .nil)⟩,⟨Zd (p.tail.tail.tail.headD .nil),Zd (p.tail.tail.tail.tail.headD .nil),Zz (p.tail.tail.tail.tail.tail.headD .nil)⟩,⟨Zd (p.tail.tail.tail.tail.tail.tail.headD .nil),Zd (p.tail.tail.tail.tail.tail.tail.tail.headD .nil),Zz (p.tail.tail.tail.tail.tail.tail.tail.tail.headD .nil)⟩,⟨Zd (p.tail.tail.tail.tail.tail.tail.tail.tail.tail.headD .nil),Zd (p.tail.tail.tail.tail.tail.tail.tail.tail.tail.tail.headD .nil),Zz (p.tail.tail.tail.tail.tail.tail.tail.tail.tail.tail.tail.headD .nil)⟩⟩
structure FnM where
 poly:List Iv
 s:Surf
 r:Ray
def FnM.enc(x:FnM):List PV:=[.lst (x.poly.map Iv.enc),.v (.bool true),.v (.bool x.s.stop),.v (.bool x.s.bent),.v (.int .i64 x.s.curve.lo),.v (.int .i64 x.s.curve.hi),.v (.bool x.s.curve.no),.v (.int .i64 x.s.conic.lo),.v (.int .i64 x.s.conic.hi),.v (.bool x.s.conic.no),.v (.int .i64 x.s.a4.lo),.v (.int .i64 x.s.a4.hi),.v (.bool x.s.a4.no),.v (.int .i64 x.s.a6.lo),.v (.int .i64 x.s.a6.hi),.v (.bool x.s.a6.no),.v (.int .i64 x.s.pos.lo),.v (.int .i64 x.s.pos.hi),.v (.bool x.s.pos.no),.v (.int .i64 x.s.open2.lo),.v (.int .i64 x.s.open2.hi),.v (.bool x.s.open2.no),.v (.int .i64 x.s.ratio.lo),.v (.int .i64 x.s.ratio.hi),.v (.bool x.s.ratio.no),.v (.int .i64 x.r.o.x.lo),.v (.int .i64 x.r.o.x.hi),.v (.bool x.r.o.x.no),.v (.int .i64 x.r.o.y.lo),.v (.int .i64 x.r.o.y.hi),.v (.bool x.r.o.y.no),.v (.int .i64 x.r.o.z.lo),.v (.int .i64 x.r.o.z.hi),.v (.bool x.r.o.z.no),.v (.int .i64 x.r.d.x.lo),.v (.int .i64 x.r.d.x.hi),.v (.bool x.r.d.x.no),.v (.int .i64 x.r.d.y.lo),.v (.int .i64 x.r.d.y.hi),.v (.bool x.r.d.y.no),.v (.int .i64 x.r.d.z.lo),.v (.int .i64 x.r.d.z.hi),.v (.bool x.r.d.z.no)]
def FnM.dec(p:List PV):FnM:=⟨(Ze Iv.dec (J1 (p.headD .nil))),⟨Zz (p.tail.tail.headD .nil),Zz (p.tail.tail.tail.headD .nil),⟨Zd (p.tail.tail.tail.tail.headD .nil),Zd (p.tail.tail.tail.tail.tail.headD .nil),Zz (p.tail.tail.tail.tail.tail.tail.headD .nil)⟩,⟨Zd (p.tail.tail.tail.tail.tail.tail.tail.headD .nil),Zd (p.tail.tail.tail.tail.tail.tail.tail.tail.headD .nil),Zz (p.tail.tail.tail.tail.tail.tail.tail.tail.tail.headD .nil)⟩,⟨Zd (p.tail.tail.tail.tail.tail.tail.tail.tail.tail.tail.headD .nil),Zd (p.tail.tail.tail.tail.tail.tail.tail.tail.tail.tail.tail.headD .nil),Zz (p.tail.tail.tail.tail.tail.tail.tail.tail.tail.tail.tail.tail.headD .nil)⟩,⟨Zd (p.tail.tail.tail.tail.tail.tail.tail.tail.tail.tail.tail.tail.tail.headD .nil),Zd (p.tail.tail.tail.tail.tail.tail.tail.tail.tail.tail.tail.tail.tail.tail.headD .nil),Zz (p.tail.tail.tail.tail.tail.tail.tail.tail.tail.tail.tail.tail.tail.tail.tail.headD .nil)⟩,⟨Zd (p.tail.tail.tail.tail.tail.tail.tail.tail.tail.tail.tail.tail.tail.tail.tail.tail.headD .nil),Zd (p.tail.tail.tail.tail.tail.tail.tail.tail.tail.tail.tail.tail.tail.tail.tail.tail.tail.headD .nil),Zz (p.tail.tail.tail.tail.tail.tail.tail.tail.tail.tail.tail.tail.tail.tail.tail.tail.tail.tail.headD .nil)⟩,⟨Zd (p.tail.tail.tail.tail.tail.tail.tail.tail.tail.tail.tail.tail.tail.tail.tail.tail.tail.tail.tail.headD .nil),Zd (p.tail.tail.tail.tail.tail.tail.tail.tail.tail.tail.tail.tail.tail.tail.tail.tail.tail.tail.tail.tail.headD .nil),Zz (p.tail.tail.tail.tail.tail.tail.tail.tail.tail.tail.tail.tail.tail.tail.tail.tail.tail.tail.tail.tail.tail.headD .nil)⟩,⟨Zd (p.tail.tail.tail.tail.tail.tail.tail.tail.tail.tail.tail.tail.tail.tail.tail.tail.tail.tail.tail.tail.tail.tail.headD .nil),Zd (p.tail.tail.tail.tail.tail.tail.tail.tail.tail.tail.tail.tail.tail.tail.tail.tail.tail.tail.tail.tail.tail.tail.tail.headD .nil),Zz (p.tail.tail.tail.tail.tail.tail.tail.tail.tail.tail.tail.tail.tail.tail.tail.tail.tail.tail.tail.tail.tail.tail.tail.tail.headD .nil)⟩⟩,⟨⟨⟨Zd (p.tail.tail.tail.tail.tail.tail.tail.tail.tail.tail.tail.tail.tail.tail.tail.tail.tail.tail.tail.tail.tail.tail.tail.tail.tail.headD .nil),Zd (p.tail.tail.tail.tail.tail.tail.tail.tail.tail.tail.tail.tail.tail.tail.tail.tail.tail.tail.tail.tail.tail.tail.tail.tail.tail.tail.headD .nil),Zz (p.tail.tail.tail.tail.tail.tail.tail.tail.tail.tail.tail.tail.tail.tail.tail.tail.tail.tail.tail.tail.tail.tail.tail.tail.tail.tail.tail.headD .nil)⟩,⟨Zd (p.tail.tail.tail.tail.tail.tail.tail.tail.tail.tail.tail.tail.tail.tail.tail.tail.tail.tail.tail.tail.tail.tail.tail.tail.tail.tail.tail.tail.headD .nil),Zd (p.tail.tail.tail.tail.tail.tail.tail.tail.tail.tail.tail.tail.tail.tail.tail.tail.tail.tail.tail.tail.tail.tail.tail.tail.tail.tail.tail.tail.tail.headD .nil),Zz (p.tail.tail.tail.tail.tail.tail.tail.tail.tail.tail.tail.tail.tail.tail.tail.tail.tail.tail.tail.tail.tail.tail.tail.tail.tail.tail.tail.tail.tail.tail.headD .nil)⟩,⟨Zd (p.tail.tail.tail.tail.tail.tail.tail.tail.tail.tail.tail.tail.tail.tail.tail.tail.tail.tail.tail.tail.tail.tail.tail.tail.tail.tail.tail.tail.tail.tail.tail.headD .nil),Zd (p.tail.tail.tail.tail.tail.tail.tail.tail.tail.tail.tail.tail.tail.tail.tail.tail.tail.tail.tail.tail.tail.tail.tail.tail.tail.tail.tail.tail.tail.tail.tail.tail.headD .nil),Zz (p.tail.tail.tail.tail.tail.tail.tail.tail.tail.tail.tail.tail.tail.tail.tail.tail.tail.tail.tail.tail.tail.tail.tail.tail.tail.tail.tail.tail.tail.tail.tail.tail.tail.headD .nil)⟩⟩,⟨⟨Zd (p.tail.tail.tail.tail.tail.tail.tail.tail.tail.tail.tail.tail.tail.tail.tail.tail.tail.tail.tail.tail.tail.tail.tail.tail.tail.tail.tail.tail.tail.tail.tail.tail.tail.tail.headD .nil),Zd (p.tail.tail.tail.tail.tail.tail.tail.tail.tail.tail.tail.tail.tail.tail.tail.tail.tail.tail.tail.tail.tail.tail.tail.tail.tail.tail.tail.tail.tail.tail.tail.tail.tail.tail.tail.headD .nil),Zz (p.tail.tail.tail.tail.tail.tail.tail.tail.tail.tail.tail.tail.tail.tail.tail.tail.tail.tail.tail.tail.tail.tail.tail.tail.tail.tail.tail.tail.tail.tail.tail.tail.tail.tail.tail.tail.headD .nil)⟩,⟨Zd (p.tail.tail.tail.tail.tail.tail.tail.tail.tail.tail.tail.tail.tail.tail.tail.tail.tail.tail.tail.tail.tail.tail.tail.tail.tail.tail.tail.tail.tail.tail.tail.tail.tail.tail.tail.tail.tail.headD .nil),Zd (p.tail.tail.tail.tail.tail.tail.tail.tail.tail.tail.tail.tail.tail.tail.tail.tail.tail.tail.tail.tail.tail.tail.tail.tail.tail.tail.tail.tail.tail.tail.tail.tail.tail.tail.tail.tail.tail.tail.headD .nil),Zz (p.tail.tail.tail.tail.tail.tail.tail.tail.tail.tail.tail.tail.tail.tail.tail.tail.tail.tail.tail.tail.tail.tail.tail.tail.tail.tail.tail.tail.tail.tail.tail.tail.tail.tail.tail.tail.tail.tail.tail.headD .nil)⟩,⟨Zd (p.tail.tail.tail.tail.tail.tail.tail.tail.tail.tail.tail.tail.tail.tail.tail.tail.tail.tail.tail.tail.tail.tail.tail.tail.tail.tail.tail.tail.tail.tail.tail.tail.tail.tail.tail.tail.tail.tail.tail.tail.headD .nil),Zd (p.tail.tail.tail.tail.tail.tail.tail.tail.tail.tail.tail.tail.tail.tail.tail.tail.tail.tail.tail.tail.tail.tail.tail.tail.tail.tail.tail.tail.tail.tail.tail.tail.tail.tail.tail.tail.tail.tail.tail.tail.tail.headD .nil),Zz (p.tail.tail.tail.tail.tail.tail.tail.tail.tail.tail.tail.tail.tail.tail.tail.tail.tail.tail.tail.tail.tail.tail.tail.tail.tail.tail.tail.tail.tail.tail.tail.tail.tail.tail.tail.tail.tail.tail.tail.tail.tail.tail.headD .nil)⟩⟩⟩⟩
-- FnM: with lists
structure Pair where
 x:Int
 y:Int
def Pair.enc(x:Pair):List PV:=[.v (.int .i64 x.x),.v (.int .i64 x.y)]
def Pair.dec(p:List PV):Pair:=⟨Zd (p.headD .nil),Zd (p.tail.headD .nil)⟩
structure S3 where
 a:SysM
 b:SysM
 c:SysM
def S3.enc(x:S3):List PV:=[.lst (x.a.surfs.map Surf.enc),.v (.int .i64 x.a.op.lo),.v (.int .i64 x.a.op.hi),.v (.bool x.a.op.no),.lst (x.b.surfs.map Surf.enc),.v (.int .i64 x.b.op.lo),.v (.int .i64 x.b.op.hi),.v (.bool x.b.op.no),.lst (x.c.surfs.map Surf.enc),.v (.int .i64 x.c.op.lo),.v (.int .i64 x.c.op.hi),.v (.bool x.c.op.no)]
def S3.dec(p:List PV):S3:=⟨⟨(Ze Surf.dec (J1 (p.headD .nil))),⟨Zd (p.tail.headD .nil),Zd (p.tail.tail.headD .nil),Zz (p.tail.tail.tail.headD .nil)⟩⟩,⟨(Ze Surf.dec (J1 (p.tail.tail.tail.tail.headD .nil))),⟨Zd (p.tail.tail.tail.tail.tail.headD .nil),Zd (p.tail.tail.tail.tail.tail.tail.headD .nil),Zz (p.tail.tail.tail.tail.tail.tail.tail.headD .nil)⟩⟩,⟨(Ze Surf.dec (J1 (p.tail.tail.tail.tail.tail.tail.tail.tail.headD .nil))),⟨Zd (p.tail.tail.tail.tail.tail.tail.tail.tail.tail.headD .nil),Zd (p.tail.tail.tail.tail.tail.tail.tail.tail.tail.tail.headD .nil),Zz (p.tail.tail.tail.tail.tail.tail.tail.tail.tail.tail.tail.headD .nil)⟩⟩⟩
-- S3: with lists
structure Cx where
 re:Nat
 im:Nat
def Cx.enc(z:Cx):List PV:=[.v (.complex .f64 z.re z.im)]
def Cx.dec(l:List PV):Cx:=⟨Zoy (l.headD .nil),Zoz (l.headD .nil)⟩
def Ray.dec(p:List PV):Ray:=⟨⟨⟨Zd (p.headD .nil),Zd (p.tail.headD .nil),Zz (p.tail.tail.headD .nil)⟩,⟨Zd (p.tail.tail.tail.headD .nil),Zd (p.tail.tail.tail.tail.headD .nil),Zz (p.tail.tail.tail.tail.tail.headD .nil)⟩,⟨Zd (p.tail.tail.tail.tail.tail.tail.headD .nil),Zd (p.tail.tail.tail.tail.tail.tail.tail.headD .nil),Zz (p.tail.tail.tail.tail.tail.tail.tail.tail.headD .nil)⟩⟩,⟨⟨Zd ((p.drop 9).headD .nil),Zd ((p.drop 10).headD .nil),Zz ((p.drop 11).headD .nil)⟩,⟨Zd ((p.drop 12).headD .nil),Zd ((p.drop 13).headD .nil),Zz ((p.drop 14).headD .nil)⟩,⟨Zd ((p.drop 15).headD .nil),Zd ((p.drop 16).headD .nil),Zz ((p.drop 17).headD .nil)⟩⟩⟩
def noV:V:=⟨none',none',none'⟩
def Yf(x y:Int):Cx:=⟨FloatKind.f64.nearest x,FloatKind.f64.nearest y⟩
def ZgX:Iv:=⟨0,0,false⟩
open Go
def XE(c:Int):Bool:=(decide (97≤c)&&decide (c≤122))||(decide (65≤c)&&decide (c≤90))
def YV(c:Int):Bool:=decide (48≤c)&&decide (c≤57)
def Z7(c:Int):Bool:=XE c||(YV c||(c==45||c==95))
def WI:Nat→Nat→List UInt8
 | 0,_=>[]
 | f+1,n=>bif decide (n < 10) then [UInt8.ofNat (48+n)] else WI f (n / 10)++[UInt8.ofNat (48+n % 10)]
def digits(n:Int):List UInt8:=bif decide (n < 0) then 45::WI 19 (-n).toNat else WI 19 n.toNat
theorem ZfF:∀(f n:Nat),(WI f n).length≤f
 | 0,n=>Q2_ _
 | f+1,n=>by
   unfold WI
   cases decide (n < 10)<;>simp only[Qb_,Qd_,Qx_,Qs_,Q1_]
   ·have:=ZfF f (n / 10);omega
   ·omega
theorem Zs0:∀(f n:Nat),1≤(WI (f+1) n).length
 | f,n=>by
   unfold WI
   cases decide (n < 10)<;>simp only[Qb_,Qd_,Qx_,Qs_,Q1_]<;>omega
theorem Yy(n:Int):1≤(digits n).length∧(digits n).length≤20:=by
 unfold digits
 cases decide (n < 0)<;>simp only[Qb_,Qd_,Qs_]
 ·exact ⟨Zs0 18 _,Nat.le_succ_of_le (ZfF _ _)⟩
 ·exact ⟨by omega,by have:=ZfF 19 (-n).toNat;omega⟩
def Yz(d:Dec):Int:=max d.c (-d.c)
def headD(d:Dec):Int:=(Yz d).tdiv (ZK d.scale)
def Wg(d:Dec):Int:=(Yz d).tmod (ZK d.scale)+ZK d.scale
def ZoB(d:Dec)(s:List UInt8):List UInt8:=bif decide (d.c < 0) then 45::s else s
def ZkW(d:Dec)(s:List UInt8):List UInt8:=bif decide (d.scale > 0) then s++[46]++(digits (Wg d)).drop 1 else s
def Jd(d:Dec):List UInt8:=bif ZL d then (bif decide (headD d > 99999) then [] else ZkW d (ZoB d (digits (headD d)))) else []
def printable(d:Dec):Bool:=ZL d&& !decide (headD d > 99999)
theorem ZkX(d:Dec):(!(Jd d==[]))=printable d:=by
 unfold printable Jd ZkW ZoB
 cases ZL d<;>simp only[Qb_,Qd_]
 ·rfl
 ·have h1:=Yy (headD d)
  cases decide (headD d > 99999)<;>simp only[Qb_,Qd_]
  ·show (!_)=true
   rw[Qi_,K8_]
   intro e
   have:=Kj_ List.length e
   revert this
   cases decide (d.c < 0)<;>cases decide (d.scale > 0)<;>simp only[Qb_,Qd_,Qx_,Qs_,Q1_]<;>omega
  ·rfl
theorem Zn3{i:Int}(h:i≤6):ZK i≤1000000:=ZgV (j:=6) h
theorem ZiB{d:Dec}(h:ZL d=true):List.foldl imax d.c [IntKind.i64.wrap (0 - d.c)]=Yz d∧IntKind.i64.wrap (headD d)=headD d∧IntKind.i64.wrap (Wg d)=Wg d∧(0≤headD d∧headD d≤100000000000)∧(1≤Wg d∧Wg d≤2000000)∧(1≤ZK d.scale∧ZK d.scale≤1000000)∧(0≤d.scale∧d.scale≤6):=by
 obtain ⟨h1,h2⟩:=Wb h
 have p1:=ZbV d.scale
 have p2:=Zn3 (i:=d.scale) h2.2
 have ha:0≤Yz d∧Yz d≤100000000000:=by unfold Yz;omega
 have hq:0≤headD d∧headD d≤100000000000:=by
  unfold headD
  rw[Int.tdiv_eq_ediv_of_nonneg ha.1]
  refine ⟨Int.ediv_nonneg ha.1 (by omega),Int.le_trans (Int.ediv_le_self _ ha.1) ha.2⟩
 have hr:1≤Wg d∧Wg d≤2000000:=by
  unfold Wg
  rw[Int.tmod_eq_emod_of_nonneg ha.1]
  have:=Int.emod_nonneg (Yz d) (show ZK d.scale≠0 by omega)
  have:=Int.emod_lt_of_pos (Yz d) (show 0 < ZK d.scale by omega)
  omega
 refine ⟨?_,Zg (by constructor<;>omega),Zg (by constructor<;>omega),hq,hr,⟨p1,p2⟩,h2⟩
 rw[Xv (by constructor<;>omega)]
 simp only[List.foldl,Zv]
 rfl
theorem Zdk{d:Dec}(h:ZL d=true):IntKind.i64.wrap (6 - d.scale)=6 - d.scale∧(0≤6 - d.scale∧6 - d.scale≤18)∧IntKind.i64.wrap (d.c *ZK (6 - d.scale))=d.c *ZK (6 - d.scale):=by
 obtain ⟨h1,h2⟩:=Wb h
 have p1:=ZbV (6 - d.scale)
 have p2:=Zn3 (i:=6 - d.scale) (by omega)
 refine ⟨Zg (by constructor<;>omega),by omega,Zg ?_⟩
 have a1:d.c *ZK (6 - d.scale)≤100000000000 *ZK (6 - d.scale):=Int.mul_le_mul_of_nonneg_right h1.2 (by omega)
 have a2: -100000000000 *ZK (6 - d.scale)≤d.c *ZK (6 - d.scale):=Int.mul_le_mul_of_nonneg_right h1.1 (by omega)
 constructor<;>omega
def Ztt(d:Dec):Dec:=⟨max d.c (w64 (0 - d.c)),d.scale⟩
def Y9(a b:Dec):Bool:=ZL a&&(ZL b&&decide (a.c *ZK (6 - a.scale) < b.c *ZK (6 - b.scale)))
def Z8:Dec:=⟨0,0⟩
def Zq6:G3:=⟨Z8,Z8,Z8⟩
def Za2:Glass:=⟨[],Zq6,Zq6⟩
def ZV:List Glass→List UInt8→Glass×Bool
 | [],_=>(Za2,false)
 | g::l,n=>bif g.name==n then (g,true) else ZV l n
def Zdl:List UInt8:=[97,105,114]
def ZbW(b c:Dec)(l:Iv):Iv:=Y5 (YI (Z0 b) l) (sub l (Z0 c))
def Zc9(g:Glass)(w:Iv):Iv:=bif g.name==Zdl then point 65536 else Zbu (add (add (add (point 65536) (ZbW g.b.a g.c.a (sqr w))) (ZbW g.b.b g.c.b (sqr w))) (ZbW g.b.c g.c.c (sqr w)))
def Zo(k:Int):Iv:=bif k==0 then Z0 ⟨5876,4⟩ else bif k==1 then Z0 ⟨4861,4⟩ else bif k==2 then Z0 ⟨6563,4⟩ else none'
theorem Zeo{f n:Nat}(h:10≤n):WI (f+1) n=WI f (n / 10)++[UInt8.ofNat (48+n % 10)]:=by
 conv=>lhs;unfold WI
 rw[QQ_ (by omega)];rfl
theorem Zbv{f n:Nat}(h:n < 10):WI (f+1) n=[UInt8.ofNat (48+n)]:=by
 unfold WI
 rw[QH_ h];rfl
theorem ZbX:∀(f n:Nat),n < 10 ^ (f+1)→WI (f+2) n=WI (f+1) n
 | 0,n,h=>by rw[Zbv (by simpa using h),Zbv (by simpa using h)]
 | f+1,n,h=>by
   by_cases hn:n < 10
   ·rw[Zbv hn,Zbv hn]
   ·have hn':n / 10 < 10 ^ (f+1):=by
     refine Nat.div_lt_of_lt_mul ?_
     rw[Nat.mul_comm,←Nat.pow_succ];exact h
    have e1:=Zeo (f:=f+2) (show 10≤n by omega)
    have e2:=Zeo (f:=f+1) (show 10≤n by omega)
    rw[ZbX f (n / 10) hn',←e2] at e1
    exact e1
theorem WQ{n:Int}(h:10≤n)(h2:n≤1000000000000000000):digits n=digits (n / 10)++[UInt8.ofNat (48+(n % 10).toNat)]:=by
 unfold digits
 rw[QQ_ (by omega),QQ_ (by omega)]
 simp only[Qd_]
 rw[Zeo (f:=18) (by omega),show (n / 10).toNat=n.toNat / 10 by omega,show (n % 10).toNat=n.toNat % 10 by omega]
 rw[←ZbX 17 (n.toNat / 10) (by omega)]
theorem ZaT{n:Int}(h0:0≤n)(h:n < 10):digits n=[UInt8.ofNat (48+n.toNat)]:=by
 unfold digits
 rw[QQ_ (by omega),Qd_,Zbv (by omega)]
theorem ZoC{n:Int}(h:n < 0):digits n=45::digits (-n):=by
 unfold digits
 rw[QH_ h,QQ_ (by omega)];rfl
theorem Zn4{m:Int}(h0:0≤m)(h:m < 10):(bif decide ((0:Int)≤IntKind.u8.wrap (IntKind.i64.wrap (48+m)))&&decide (IntKind.u8.wrap (IntKind.i64.wrap (48+m)) < 256) then some [UInt8.ofNat (IntKind.u8.wrap (IntKind.i64.wrap (48+m))).toNat] else none)=some [UInt8.ofNat (48+m.toNat)]:=by
 have h1:IntKind.i64.wrap (48+m)=48+m:=Zg (by constructor<;>omega)
 have h2:IntKind.u8.wrap (48+m)=48+m:=by
  have:m=0∨m=1∨m=2∨m=3∨m=4∨m=5∨m=6∨m=7∨m=8∨m=9:=by omega
  rcases this with rfl | rfl | rfl | rfl | rfl | rfl | rfl | rfl | rfl | rfl<;>decide
 rw[h1,h2,QH_ (by omega),QH_ (by omega)]
 show some [UInt8.ofNat (48+m).toNat]=_
 rw[show (48+m).toNat=48+m.toNat by omega]
theorem Zep:∀{l:List Glass} {n:List UInt8},(ZV l n).2=false→ZV l n=(Za2,false)
 | [],_,_=>rfl
 | g::l,n,h=>by
   revert h
   unfold ZV
   cases g.name==n
   ·exact Zep
   ·intro h;exact absurd h (by simp)
def XS(l:List Face):Bool:=l.any fun f=> !f.stop
def Zn5(f:Face):Iv:=bif f.radius.c !=0 then Y5 (point 65536) (Z0 f.radius) else point 0
def ZkY(f:Face)(g:List Glass)(w:Iv):Iv:=bif f.glass==Zdl then point 65536 else Zc9 (ZV g f.glass).1 w
def Zfb(f:Face)(g:List Glass)(w ix:Iv):Iv:=bif f.stop then point 65536 else Y5 ix (ZkY f g w)
def Zeq(f:Face)(g:List Glass)(w ix:Iv):Iv:=bif f.stop then ix else ZkY f g w
def Zs1:Face:=⟨false,Z8,Z8,Z8,Z8,Z8,Z8,[]⟩
def Ztu(l:LensM):Face:=l.faces.headD Zs1
def Zic:SysM:=⟨[],ZgX⟩
def Zn6(f:RawFace):Dec:=bif decide (pick f.r 7 > 0) then (bif pick (w64 (f.r.tdiv 7)) 2==0 then hdec 1 (w64 (-150 - pick f.r 900)) 1 else hdec 1 (w64 (150+pick f.r 900)) 1) else Z8
def ZiC(f:RawFace):Dec:=bif pick f.k 6==3 then hdec 1 (w64 (pick (w64 (f.k.tdiv 6)) 30 - 15)) 1 else Z8
def Zq7(f:RawFace):Dec:=bif pick f.k 6==3 then Z8 else bif pick f.k 6==4 then hdec 2 (w64 (pick (w64 (f.k.tdiv 6)) 400 - 200)) 2 else bif pick f.k 6==5 then hdec 2 (w64 (pick (w64 (f.k.tdiv 6)) 400 - 200)) 2 else Z8
def Zq8(f:RawFace):Dec:=bif pick f.k 6==3 then Z8 else bif pick f.k 6==4 then Z8 else bif pick f.k 6==5 then hdec 1 (w64 (pick (w64 (f.k.tdiv 12)) 400 - 200)) 1 else Z8
def ZvT(f:RawFace)(g:List Glass):Int:=pick f.g (w64 (g.length+2))
def Zup(g:List Glass)(k:Int):Glass:=g.getD k.toNat Za2
def ZiD(f:RawFace)(g:List Glass):List UInt8:=bif decide (pick f.g (IntKind.i64.wrap ((g.length:Int)+2)) < (g.length:Int)) then (g.getD (pick f.g (IntKind.i64.wrap ((g.length:Int)+2))).toNat Za2).name else Zdl
def ZkZ(f:RawFace):Dec:=hdec 1 (w64 (30+pick f.a 70)) 1
def Zla(f:RawFace):Dec:=hdec 1 (pick f.t 80) 1
def JT(f:RawFace)(i:Int)(g:List Glass):Face:=bif pick f.kind 6==5&&decide (i > 0) then ⟨true,Z8,ZkZ f,Zla f,Z8,Z8,Z8,[]⟩ else ⟨false,Zn6 f,ZkZ f,Zla f,ZiC f,Zq7 f,Zq8 f,ZiD f g⟩
def Xw(g:List Glass)(most:Int):List RawFace→Int→List Face→List Face
 | [],_,out=>out
 | f::l,i,out=>bif decide ((out.length:Int) < most) then Xw g most l (i+1) (out++[JT f i g]) else out
def Zq9:List UInt8:=[99,114,111,119,110]
def ZuT:List UInt8:=[102,108,105,110,116]
def ZqA:Face:=⟨false,⟨40,0⟩,⟨8,0⟩,⟨3,0⟩,Z8,Z8,Z8,Zq9⟩
def Zer(l:List Face):List Face:=bif l.length==0|| !XS l then l++[ZqA] else l
def Ye(back:Int)(l:List RawFace)(g:List Glass)(most:Int):LensM:=
 ⟨120::digits (pick back 100),hdec 1 (w64 (200+pick back 600)) 1,Zer (Xw g most l 0 [])⟩
def ZgY(l:List I)(i:Int):Glass:=
 ⟨103::digits i,⟨hdec 5 (pick (l.getD i.toNat ⟨0⟩).n 200000) 5,hdec 5 (pick (w64 ((l.getD i.toNat ⟨0⟩).n.tdiv 7)) 50000) 5,Z8⟩,
   ⟨hdec 5 (pick (w64 ((l.getD i.toNat ⟨0⟩).n.tdiv 11)) 3000) 5,hdec 5 (pick (w64 ((l.getD i.toNat ⟨0⟩).n.tdiv 13)) 9000) 5,hdec 3 (w64 (pick (w64 ((l.getD i.toNat ⟨0⟩).n.tdiv 17)) 200000 - 1000)) 3⟩⟩
def ZuU:Glass:=⟨Zq9,⟨⟨103961,5⟩,⟨23179,5⟩,⟨101047,5⟩⟩,⟨⟨6,3⟩,⟨2002,5⟩,⟨1035607,4⟩⟩⟩
def ZuV:Glass:=⟨ZuT,⟨⟨17376,4⟩,⟨31375,5⟩,⟨189878,5⟩⟩,⟨⟨1319,5⟩,⟨6231,5⟩,⟨1552363,4⟩⟩⟩
def Zbw:Nat→List I→Int→List Glass
 | 0,_,_=>[]
 | k+1,l,i=>bif decide (i < l.length)&&decide (i < 3) then ZgY l i::Zbw k l (i+1) else []
def Z3(l:List I):List Glass:=[ZuU,ZuV]++Zbw 3 l 0
theorem Zs2(g:List Glass)(k:Nat):We (((g.map Glass.enc).getD k []).headD .nil)=(g.getD k Za2).name:=by
 rw[Q7_,Q6_,Q7_]
 cases g[k]?<;>rfl
theorem Zlb:∀(k:Nat) (l:List I) (i:Int),(Zbw k l i).length≤k
 | 0,_,_=>Q2_ _
 | k+1,l,i=>by
   unfold Zbw
   cases decide (i < l.length)&&decide (i < 3)<;>simp only[Qb_,Qd_,Qs_,Q1_]
   ·omega
   ·have:=Zlb k l (i+1);omega
theorem ZgZ(l:List I):2≤(Z3 l).length∧(Z3 l).length≤5:=by
 have:=Zlb 3 l 0
 simp only[Z3,Qx_,Qs_,Q1_];omega
theorem ZaU(g:List Glass)(most:Int):∀(l:List RawFace) (i:Int) (out:List Face),((Xw g most l i out).length:Int)≤max (out.length:Int) most
 | [],_,out=>by simp only[Xw];omega
 | f::l,i,out=>by
   unfold Xw
   by_cases h:(out.length:Int) < most
   ·rw[QH_ h,Qb_]
    have:=ZaU g most l (i+1) (out++[JT f i g])
    simp only[Qx_,Qs_,Q1_] at this
    omega
   ·rw[QQ_ h,Qd_];omega
theorem Zlc(back:Int)(l:List RawFace)(g:List Glass)(most:Int)(h:0≤most):((Ye back l g most).faces.length:Int)≤most+1:=by
 have:=ZaU g most l 0 []
 simp only[Q1_] at this
 unfold Ye Zer
 simp only
 cases (Xw g most l 0 []).length==0|| !XS (Xw g most l 0 [])<;>simp only[Qb_,Qd_,Qx_,Qs_,Q1_]<;>omega
theorem ZiE(k:Nat)(l:List I)(i:Int):Zbw (k+1) l i=bif decide (i < l.length)&&decide (i < 3) then ZgY l i::Zbw k l (i+1) else []:=rfl
theorem Zfz(g:List Glass)(most:Int)(f:RawFace)(l:List RawFace)(i:Int)(out:List Face):Xw g most (f::l) i out=bif decide ((out.length:Int) < most) then Xw g most l (i+1) (out++[JT f i g]) else out:=rfl
structure Bld where
 txt:List UInt8
def unbytes(l:List (List PV)):List UInt8:=l.map fun x=>UInt8.ofNat (Zd (x.headD .nil)).toNat
def Bld.enc(x:Bld):List PV:=[.bld true,.lst (XO x.txt)]
def Bld.dec(p:List PV):Bld:=⟨unbytes (J1 (p.tail.headD .nil))⟩
theorem Zes:∀(f n:Nat),digs f n=WI f n
 | 0,_=>rfl
 | f+1,n=>by
   unfold digs WI
   rw[Zes f (n / 10)]
   cases hb:Nat.blt n 10 with
   | true=>
     have h:n < 10:=Qm_ hb
     rw[QH_ h]
   | false=>
     have h:¬n < 10:=fun h=>by
      have h2:Nat.blt n 10=true:=QF_ h
      rw[h2] at hb;exact absurd hb (by simp)
     rw[QQ_ h]
theorem ZmD{n:Int}(h: -1000000000000000000≤n∧n≤1000000000000000000):ZhS [.v (.int .i64 n)]=some (.str (digits n)):=by
 cases n with
 | ofNat m=>
   have hm:(m:Int)≤1000000000000000000:=h.2
   have hb:Nat.blt m 9223372036854775808=true:=QF_ (by omega)
   show (bif Nat.blt m 9223372036854775808 then some (PV.str (digs 20 m)) else none)=_
   rw[hb,Qb_,Zes,ZbX 18 m (by omega)]
   unfold digits
   rw[QQ_ (show ¬(Int.ofNat m < 0) from fun h=>absurd h (by simp))];rfl
 | negSucc m=>
   have hm: -1000000000000000000≤Int.negSucc m:=h.1
   have hb:Nat.blt m 9223372036854775808=true:=QF_ (by omega)
   show (bif Nat.blt m 9223372036854775808 then some (PV.str (45::digs 20 (m+1))) else none)=_
   rw[hb,Qb_,Zes,ZbX 18 (m+1) (by omega)]
   unfold digits
   rw[QH_ (by omega:Int.negSucc m < 0)];rfl
structure Tok where
 kind:Int
 text:List UInt8
 pos:Cx
def Tok.enc(x:Tok):List PV:=[.v (.int .i64 x.kind),.str x.text,.v (.complex .f64 x.pos.re x.pos.im)]
def Tok.dec(p:List PV):Tok:=⟨Zd (p.headD .nil),We (p.tail.headD .nil),(⟨Zoy (p.tail.tail.headD .nil),Zoz (p.tail.tail.headD .nil)⟩:Cx)⟩
theorem Zwr(l:List Tok):Ze Tok.dec (l.map Tok.enc)=l:=Wt _ _ (fun _=>rfl) l
structure Rd where
 t:List (List PV)
 g:List (List PV)
 pos:Cx
 e:Int
def Rd.enc(x:Rd):List PV:=[.lst x.t,.lst x.g,.v (.complex .f64 x.pos.re x.pos.im),.v (.int .i64 x.e)]
def Rd.dec(p:List PV):Rd:=⟨J1 (p.headD .nil),J1 (p.tail.headD .nil),(⟨Zoy (p.tail.tail.headD .nil),Zoz (p.tail.tail.headD .nil)⟩:Cx),Zd (p.tail.tail.tail.headD .nil)⟩
structure GL where
 g:List Glass
def GL.enc(x:GL):List PV:=[.lst (x.g.map Glass.enc)]
def GL.dec(p:List PV):GL:=⟨(Ze Glass.dec (J1 (p.headD .nil)))⟩
-- GL: with lists
def XY:Cx:=⟨0,0⟩
def ZqB:List UInt8:=[45]
def figB:List UInt8:=[48,49,50,51,52,53,54,55,56,57]
def Zha(s c:List UInt8):List UInt8:=Lib.trimS s c
def J2(s c:List UInt8):List UInt8:=Lib.trimRightS s c
def Zid(s:List UInt8)(n:Int):List UInt8:=Lib.repeatL s n.toNat
def ixM(c:Int)(s:List UInt8):Int:=ixB c.toNat.toUInt8 s 0
def X5(b:UInt8):Bool:=YV (b.toNat:Int)
def Zn(c:Int):Bool:=YV c||c==46
def YX(c:Int):Bool:= !(c==10)
def Wu(s p:List UInt8):Bool:=decide ((s.length:Int)≥p.length)&&s.take p.length==p
def ZH(s p:List UInt8):List UInt8×Bool:=bif Wu s p then (s.drop p.length,true) else (s,false)
def ZG(s:List UInt8):List UInt8×List UInt8×Bool:=bif decide (ixM 46 s≥0) then (s.take (ixM 46 s).toNat,s.drop (ixM 46 s+1).toNat,true) else (s,[],false)
def figs(s:List UInt8)(n:Int):Bool:= !(s==[])&&(decide ((s.length:Int)≤n)&&(Zha s figB==[]))
def Zaj(s:List UInt8):Int:=(Lib.atoi s).getD 0
def Zld(s:List UInt8):Prop:=s.length≤18∧Lib.atoi s=some (Zaj s)
def Zet(s:List UInt8):List UInt8:=J2 s [48]
def ZbY(s:List UInt8):List UInt8:=(ZH s ZqB).1
def J3(s:List UInt8):List UInt8:=(ZG (ZbY s)).1
def WA(s:List UInt8):List UInt8:=Zet (ZG (ZbY s)).2.1
def Zcq(s:List UInt8):Int:=Zaj (J3 s++WA s)
def ZbZ(s:List UInt8):Bool:=figs (J3 s) 5&&(!(ZG (ZbY s)).2.2||figs (ZG (ZbY s)).2.1 6)
def Xr(s:List UInt8):Dec×Bool:=
 bif ZbZ s then (bif (ZH s ZqB).2 then (bif Zcq s==0 then (Z8,false) else (⟨-Zcq s,(WA s).length⟩,true)) else (⟨Zcq s,(WA s).length⟩,true)) else (Z8,false)
def Zi(p:Int→Bool)(s:List UInt8)(k:Int):Int:=k+((s.drop k.toNat).takeWhile fun b=>p (b.toNat:Int)).length
def Xd(k line beg:Int):Cx:=Yf line (k - beg+1)
def YH(s:List UInt8)(k:Int):Int:=((s.getD k.toNat 0).toNat:Int)
def WJ(s:List UInt8)(a b:Int):List UInt8:=(s.drop a.toNat).take (b.toNat - a.toNat)
def Zeu(sm:Bool)(h:Cx)(out:List Tok):List Tok:=bif sm then out++[⟨3,[],h⟩] else out
def X1(s:List UInt8):Nat→Int→Int→Int→Bool→List Tok→List Tok×Cx×Int
 | 0,_,_,_,_,_=>([],XY,0)
 | f+1,k,line,beg,sm,out=>
   bif k==(s.length:Int) then (Zeu sm (Xd k line beg) out,XY,0)
   else bif YH s k==10 then X1 s f (k+1) (line+1) (k+1) false (Zeu sm (Xd k line beg) out)
   else bif YH s k==32||YH s k==9 then X1 s f (k+1) line beg sm out
   else bif YH s k==35 then X1 s f (Zi YX s (k+1)) line beg sm out
   else bif XE (YH s k) then (bif decide (Zi Z7 s (k+1) - k > 20) then ([],Xd k line beg,3) else X1 s f (Zi Z7 s (k+1)) line beg true (out++[⟨1,WJ s k (Zi Z7 s (k+1)),Xd k line beg⟩]))
   else bif YV (YH s k)||YH s k==45 then (bif (Xr (WJ s k (Zi Zn s (k+1)))).2 then X1 s f (Zi Zn s (k+1)) line beg true (out++[⟨2,WJ s k (Zi Zn s (k+1)),Xd k line beg⟩]) else ([],Xd k line beg,2))
   else ([],Xd k line beg,2)
def tokens(s:List UInt8):List Tok×Cx×Int:=bif decide ((s.length:Int) > 4000) then ([],XY,3) else X1 s (s.length+1) 0 1 0 false []
theorem Zhb(s:List UInt8)(f:Nat)(k line beg:Int)(sm:Bool)(out:List Tok):X1 s (f+1) k line beg sm out=
 bif k==(s.length:Int) then (Zeu sm (Xd k line beg) out,XY,0)
 else bif YH s k==10 then X1 s f (k+1) (line+1) (k+1) false (Zeu sm (Xd k line beg) out)
 else bif YH s k==32||YH s k==9 then X1 s f (k+1) line beg sm out
 else bif YH s k==35 then X1 s f (Zi YX s (k+1)) line beg sm out
 else bif XE (YH s k) then (bif decide (Zi Z7 s (k+1) - k > 20) then ([],Xd k line beg,3) else X1 s f (Zi Z7 s (k+1)) line beg true (out++[⟨1,WJ s k (Zi Z7 s (k+1)),Xd k line beg⟩]))
 else bif YV (YH s k)||YH s k==45 then (bif (Xr (WJ s k (Zi Zn s (k+1)))).2 then X1 s f (Zi Zn s (k+1)) line beg true (out++[⟨2,WJ s k (Zi Zn s (k+1)),Xd k line beg⟩]) else ([],Xd k line beg,2))
 else ([],Xd k line beg,2):=rfl
def ZcA(s:List UInt8):Bool:=(tokens s).2.2==0&&(((tokens s).1.length:Int)==2&&(((tokens s).1.headD ⟨0,[],XY⟩).kind==1&&((tokens s).1.headD ⟨0,[],XY⟩).text==s))
theorem JU(p:Int→Bool){s:List UInt8}{k:Int}(h0:0≤k)(h1:k≤s.length):k≤Zi p s k∧Zi p s k≤s.length:=by
 unfold Zi
 have:=(List.takeWhile_sublist (fun b:UInt8=>p (b.toNat:Int)) (l:=s.drop k.toNat)).length_le
 rw[K7_] at this
 omega
theorem Zdm{p:Int→Bool}{s:List UInt8}{k:Int}(h0:0≤k)(h1:k < s.length)(h:p (YH s k)=true):Zi p s k=Zi p s (k+1):=by
 obtain ⟨x,t,e1,e2,e3⟩:=Yi (l:=s) h0 h1
 unfold Zi
 have eb:s.getD k.toNat 0=x:=by rw[Q7_,e3];rfl
 unfold YH at h
 rw[eb] at h
 rw[e1,e2,List.takeWhile_cons,h,if_pos rfl,Qs_]
 omega
theorem Zdn{p:Int→Bool}{s:List UInt8}{k:Int}(h0:0≤k)(h1:k < s.length)(h:p (YH s k)=false):Zi p s k=k:=by
 obtain ⟨x,t,e1,e2,e3⟩:=Yi (l:=s) h0 h1
 unfold Zi
 have eb:s.getD k.toNat 0=x:=by rw[Q7_,e3];rfl
 unfold YH at h
 rw[eb] at h
 rw[e1,List.takeWhile_cons,h]
 simp
theorem Zev{p:Int→Bool}{s:List UInt8}{k:Int}(h1:(s.length:Int)≤k):Zi p s k=k:=by
 unfold Zi
 rw[Q0_ (by omega)]
 simp
theorem Zs3:∀(s:List UInt8),(Zha s figB==[])=s.all X5:=by
 have hd:∀b:UInt8,figB.contains b=X5 b:=fun b=>by
  have:=(by decide+kernel:∀n:Fin 256,figB.contains (UInt8.ofNat n.val)=X5 (UInt8.ofNat n.val)) ⟨b.toNat,b.toNat_lt⟩
  simpa using this
 have hw:∀(p:UInt8→Bool) (l:List UInt8),(l.dropWhile p==[])=l.all p:=fun p l=>by
  induction l with
  | nil=>rfl
  | cons a l ih=>
    rw[List.dropWhile_cons,List.all_cons]
    cases p a
    ·rfl
    ·simpa using ih
 intro s
 unfold Zha Lib.trimS Lib.trimLeftS Lib.trimRightS
 rw[hw]
 have e:(fun x=>figB.contains x)=X5:=funext hd
 rw[e]
 rw[List.all_reverse]
 cases h:s.all X5 with
 | true=>
   rw[QK_] at h ⊢
   exact fun x hx=>h x (List.mem_reverse.1 (List.dropWhile_sublist _ |>.subset hx))
 | false=>
   have:s.reverse.all X5=false:=by rw[List.all_reverse];exact h
   rw[←hw] at this
   cases hl:s.reverse.dropWhile X5 with
   | nil=>rw[hl] at this;exact absurd this (by simp)
   | cons a l=>
     have ha:X5 a=false:=by
      have:=List.head?_dropWhile_not X5 s.reverse
      rw[hl] at this
      simpa using this
     rw[List.all_cons,ha];rfl
theorem Zuq(s:List UInt8)(n:Int):figs s n=(!(s==[])&&(decide ((s.length:Int)≤n)&&s.all X5)):=by unfold figs;rw[Zs3]
def ZoD(acc:Nat)(s:List UInt8):Nat:=s.foldl (fun n b=>n *10+(b.toNat - 48)) acc
theorem Zf0:∀(s:List UInt8) (acc:Nat),s.all X5=true→Lib.decFrom acc s=some (ZoD acc s)
 | [],_,_=>rfl
 | b::s,acc,h=>by
   rw[List.all_cons,Qh_] at h
   have hb:48≤b.toNat∧b.toNat≤57:=by
    have:=h.1
    unfold X5 YV at this
    simp only[Qh_,Qc_] at this
    omega
   unfold Lib.decFrom Lib.digitVal
   rw[if_pos hb]
   exact Zf0 s _ h.2
theorem Zs4{s:List UInt8}(h0:s≠[])(h:s.all X5=true):Lib.atoi s=some ((ZoD 0 s:Nat):Int):=by
 cases s with
 | nil=>exact absurd rfl h0
 | cons b s=>
   have h1:=h
   rw[List.all_cons,Qh_] at h
   have hb:48≤b.toNat∧b.toNat≤57:=by
    have:=h.1
    unfold X5 YV at this
    simp only[Qh_,Qc_] at this
    omega
   have n1:(b==45)=false:=by
    rw[K8_];intro e;subst e;exact absurd hb (by decide)
   have n2:(b==43)=false:=by
    rw[K8_];intro e;subst e;exact absurd hb (by decide)
   simp only[Lib.atoi,Lib.decNat,n1,n2,K4_,Kv_,List.isEmpty_cons]
   rw[Zf0 _ _ h1];rfl
theorem ZiF{s:List UInt8}(h0:s≠[])(h:s.all X5=true):Lib.atoi s=some (Zaj s)∧Zaj s=(ZoD 0 s:Nat):=by
 have:=Zs4 h0 h
 unfold Zaj
 rw[this]
 exact ⟨rfl,rfl⟩
theorem ZqC(s:List UInt8):(Zet s).length≤s.length:=by
 unfold Zet J2 Lib.trimRightS
 have:=(List.dropWhile_sublist ([48].contains ·) (l:=s.reverse)).length_le
 rw[List.length_reverse] at this ⊢
 exact this
theorem ZqD{s:List UInt8}(h:s.all X5=true):(Zet s).all X5=true:=by
 rw[QK_] at h ⊢
 intro x hx
 unfold Zet J2 Lib.trimRightS at hx
 exact h x (List.mem_reverse.1 ((List.dropWhile_sublist _).subset (List.mem_reverse.1 hx)))
theorem Zn7{s:List UInt8}{n:Int}(h:figs s n=true):s≠[]∧(s.length:Int)≤n∧s.all X5=true:=by
 rw[Zuq] at h
 simp only[Qh_,Qi_,K8_,Qc_] at h
 exact h
theorem ZqE(c:UInt8):∀(l:List UInt8) (k:Nat),ixB c l k= -1∨((k:Int)≤ixB c l k∧ixB c l k < k+l.length)
 | [],_=> .inl rfl
 | b::l,k=>by
   unfold ixB
   cases Nat.beq b.toNat c.toNat with
   | true=>exact .inr ⟨Int.le_refl _,by simp only[Qb_,Qs_];show (k:Int) < _;omega⟩
   | false=>
     simp only[Qd_]
     rcases ZqE c l (k+1) with h | ⟨h1,h2⟩
     ·exact .inl h
     ·exact .inr ⟨by omega,by simp only[Qs_];omega⟩
theorem ZqF(s:List UInt8):ixM 46 s= -1∨(0≤ixM 46 s∧ixM 46 s < s.length):=by
 have:=ZqE 46 s 0
 unfold ixM
 rw[show (46:Int).toNat.toUInt8=46 from rfl]
 omega
theorem ZqG(s:List UInt8):(ZG s).1.length≤s.length∧(ZG s).2.1.length≤s.length:=by
 unfold ZG
 cases decide (ixM 46 s≥0)<;>simp only[Qb_,Qd_,K0_,K7_,Q1_]<;>omega
theorem ZoE(s p:List UInt8):(ZH s p).1.length≤s.length:=by
 unfold ZH
 cases Wu s p<;>simp only[Qb_,Qd_,K7_]<;>omega
theorem Zf1{s:List UInt8}(h:ZbZ s=true):J3 s++WA s≠[]∧(J3 s++WA s).all X5=true∧(J3 s++WA s).length≤11∧(WA s).length≤6∧(J3 s).length≤5:=by
 unfold ZbZ at h
 simp only[Qh_,Kn_,Qi_] at h
 obtain ⟨h1,h2⟩:=h
 obtain ⟨a1,a2,a3⟩:=Zn7 h1
 have hr:(ZG (ZbY s)).2.1.all X5=true∧(ZG (ZbY s)).2.1.length≤6:=by
  rcases h2 with h2 | h2
  ·have:(ZG (ZbY s)).2.1=[]:=by
    revert h2
    unfold ZG
    cases decide (ixM 46 (ZbY s)≥0)<;>simp
   rw[this];exact ⟨rfl,by simp⟩
  ·obtain ⟨_,b2,b3⟩:=Zn7 h2
   exact ⟨b3,by omega⟩
 have h6:(WA s).length≤6:=QT_ (ZqC _) hr.2
 refine ⟨fun e=>a1 (List.append_eq_nil_iff.1 e).1, ?_, ?_,h6,by omega⟩
 ·rw[List.all_append,a3];exact ZqD hr.1
 ·rw[Qx_];omega
theorem Zn8:∀(s:List UInt8) (acc m:Nat),s.all X5=true→acc < 10 ^ m→ZoD acc s < 10 ^ (m+s.length)
 | [],_,_,_,h=>h
 | b::s,acc,m,h,ha=>by
   rw[List.all_cons,Qh_] at h
   have hb:b.toNat - 48≤9:=by
    have:=h.1
    unfold X5 YV at this
    simp only[Qh_,Qc_] at this
    omega
   have:=Zn8 s (acc *10+(b.toNat - 48)) (m+1) h.2 (by rw[Nat.pow_succ];omega)
   rw[Qs_,show m+(s.length+1)=m+1+s.length by omega]
   exact this
theorem Zur{s:List UInt8}(h:ZbZ s=true):0≤Zcq s∧Zcq s < 100000000000:=by
 obtain ⟨h1,h2,h3,_⟩:=Zf1 h
 obtain ⟨_,e⟩:=ZiF h1 h2
 unfold Zcq
 rw[e]
 have hb:=Zn8 (J3 s++WA s) 0 0 h2 (by decide)
 have:10 ^ (0+(J3 s++WA s).length)≤10 ^ 11:=Nat.pow_le_pow_right (by decide) (by omega)
 omega
theorem ZoF(s:List UInt8):Xr s=bif ZbZ s then (bif (ZH s [45]).2 then (bif Zcq s==0 then (Z8,false) else (⟨-Zcq s,(WA s).length⟩,true)) else (⟨Zcq s,(WA s).length⟩,true)) else (Z8,false):=rfl
theorem Zle(s:List UInt8):ZbZ s=(figs (ZG (ZH s [45]).1).1 5&&(!(ZG (ZH s [45]).1).2.2||figs (ZG (ZH s [45]).1).2.1 6)):=rfl
theorem Ztv{s:List UInt8}(h:ZbZ s=true):Zld ((ZG (ZH s [45]).1).1++J2 (ZG (ZH s [45]).1).2.1 [48])∧(ZG (ZH s [45]).1).1.length+(J2 (ZG (ZH s [45]).1).2.1 [48]).length≤9223372036854775807:=by
 obtain ⟨h1,h2,h3,h4,h5⟩:=Zf1 h
 refine ⟨⟨QT_ h3 (by decide),(ZiF h1 h2).1⟩, ?_⟩
 show (J3 s).length+(WA s).length≤_
 omega
def tk(r:Rd):Tok:=Tok.dec (r.t.getD 0 [])
def Zie:Tok:=⟨0,[],XY⟩
def ZoG(r:Rd)(a:Cx)(e:Int):Rd:=bif r.e==0 then ⟨r.t,r.g,a,e⟩ else r
def Zj1(r:Rd)(k:Int):Tok×Rd:=
 bif r.e==0 then (bif (r.t.length:Int)==0 then (Zie,ZoG r XY 2) else bif (tk r).kind==k then (tk r,⟨r.t.drop 1,r.g,r.pos,r.e⟩) else (Zie,ZoG r (tk r).pos 2)) else (Zie,r)
def ZoH(a b:Dec):Bool:=(Ztt a).c==0|| !Y9 (Ztt a) b
def Zhc(n:List UInt8)(g:List Glass):Bool:=(ZV g n).2||n==Zdl
def ZuW:List UInt8:=[108,101,110,115]
def rd1(r:Rd):Rd:=bif (Zj1 r 1).1.text==ZuW then (Zj1 r 1).2 else ZoG (Zj1 r 1).2 (Zj1 r 1).1.pos 2
def WR(d:Dec):Bool:=printable d&&Y9 Z8 d
def ZoI(f:Face):Bool:=Zdj f.radius&&(Zdj f.conic&&(Zdj f.a4&&(Zdj f.a6&&f.glass==[])))
def ZR(f:Face)(g:List Glass):Bool:=WR f.aperture&&(printable f.thick&&(!Y9 f.thick Z8&&(bif f.stop then ZoI f else printable f.radius&&(ZoH f.radius f.aperture&&(printable f.conic&&(printable f.a4&&(printable f.a6&&(ZcA f.glass&&Zhc f.glass g))))))))
def XT(l:LensM)(g:List Glass):Bool:=ZcA l.name&&(WR l.back&&(decide (l.faces.length≤12)&&(XS l.faces&& !(l.faces.any fun f=> !ZR f g))))
def JV(a:Int)(sc:Nat):List UInt8:=Lib.repeatL [48] (max 0 ((sc:Int)+1 - (digits a).length)).toNat++digits a
theorem Zs5(n:Nat):Lib.repeatL [48] n++[48]=Lib.repeatL [48] (n+1):=by
 induction n with
 | zero=>rfl
 | succ n ih=>
   show ([48]++Lib.repeatL [48] n)++[48]=[48]++Lib.repeatL [48] (n+1)
   rw[QB_,ih]
theorem ZqH{a:Int}:JV a 0=digits a:=by
 have:=(Yy a).1
 unfold JV
 rw[show (max 0 (((0:Nat):Int)+1 - (digits a).length)).toNat=0 by omega];rfl
theorem ZqI{a:Int}(h0:0≤a)(h1:a≤1000000000000000000)(sc:Nat):JV a (sc+1)=JV (a / 10) sc++[UInt8.ofNat (48+(a % 10).toNat)]:=by
 unfold JV
 by_cases h:a < 10
 ·rw[ZaT h0 h,show a / 10=0 by omega,show a % 10=a by omega,show digits 0=[48] from rfl]
  simp only[Qs_,Q1_]
  rw[show (max 0 (((sc+1:Nat):Int)+1 - ((0+1:Nat):Int))).toNat=sc+1 by omega,show (max 0 ((sc:Int)+1 - ((0+1:Nat):Int))).toNat=sc by omega]
  rw[Zs5]
 ·rw[WQ (by omega) h1,Qx_,Qs_,Q1_,←QB_]
  rw[show (max 0 (((sc+1:Nat):Int)+1 - (((digits (a / 10)).length+(0+1):Nat):Int))).toNat=(max 0 ((sc:Int)+1 - (digits (a / 10)).length)).toNat by omega]
theorem Zlf(n:Nat):(0:Int) < 10 ^ n:=Int.pow_pos (by decide)
theorem Zus{a b q r:Int}(hb:0 < b)(h:a=b *q+r)(h1:0≤r)(h2:r < b):a / b=q∧a % b=r:=by
 subst h
 constructor
 ·rw[Int.add_comm,Int.add_mul_ediv_left _ _ (by omega),Int.ediv_eq_zero_of_lt h1 h2,Int.zero_add]
 ·rw[Int.add_comm,Int.add_mul_emod_self_left,Int.emod_eq_of_lt h1 h2]
theorem Zf2:∀(sc:Nat) (a:Int),0≤a→a≤100000000000→sc≤6→
 JV a sc=digits (a / 10 ^ sc)++(digits (a % 10 ^ sc+10 ^ sc)).drop 1∧(digits (a % 10 ^ sc+10 ^ sc)).length=sc+1
 | 0,a,h0,h1,_=>by
   rw[ZqH,Int.pow_zero,Int.ediv_one,Int.emod_one]
   exact ⟨by rw[show (digits (0+1)).drop 1=[] from rfl,QI_],rfl⟩
 | sc+1,a,h0,h1,h6=>by
   obtain ⟨e1,e2⟩:=Zf2 sc (a / 10) (by omega) (by omega) (by omega)
   have hp:=Zlf sc
   have hpb:(10:Int) ^ sc≤100000:=by
    have:(10:Int) ^ sc≤10 ^ 5:=by exact_mod_cast Nat.pow_le_pow_right (by decide:0 < 10) (by omega:sc≤5)
    exact this
   have hb:=Int.emod_nonneg (a / 10) (show (10:Int) ^ sc≠0 by omega)
   have hb2:=Int.emod_lt_of_pos (a / 10) hp
   have hu:a / 10 ^ (sc+1)=a / 10 / 10 ^ sc∧a % 10 ^ (sc+1)=10 * (a / 10 % 10 ^ sc)+a % 10:=by
    refine Zus (by rw[Int.pow_succ];omega) ?_ (by omega) (by rw[Int.pow_succ];omega)
    have e:=Int.mul_ediv_add_emod (a / 10) (10 ^ sc)
    rw[Int.pow_succ]
    generalize (10:Int) ^ sc=p at *
    generalize a / 10 / p=Q at *
    have:p *10 *Q=10 * (p *Q):=by rw[Int.mul_comm p 10,Int.mul_assoc]
    rw[this]
    generalize p *Q=z at *
    omega
   have hm:=hu.2
   have hq:=hu.1
   have hN:a % 10 ^ (sc+1)+10 ^ (sc+1)=10 * (a / 10 % 10 ^ sc+10 ^ sc)+a % 10:=by rw[hm,Int.pow_succ];omega
   have hd:digits (a % 10 ^ (sc+1)+10 ^ (sc+1))=digits (a / 10 % 10 ^ sc+10 ^ sc)++[UInt8.ofNat (48+(a % 10).toNat)]:=by
    rw[hN,WQ (by omega) (by omega)]
    rw[show (10 * (a / 10 % 10 ^ sc+10 ^ sc)+a % 10) / 10=a / 10 % 10 ^ sc+10 ^ sc by omega,show (10 * (a / 10 % 10 ^ sc+10 ^ sc)+a % 10) % 10=a % 10 by omega]
   rw[ZqI h0 (by omega),e1,hd,hq]
   refine ⟨?_,by rw[Qx_,e2];rfl⟩
   rw[List.drop_append_of_le_length (by omega),QB_]
theorem ZiG:∀(k:Nat) (n:Int),0≤n→n≤1000000000000000000→((digits n).length≤k+1↔n < 10 ^ (k+1))
 | 0,n,h0,h1=>by
   by_cases h:n < 10
   ·rw[ZaT h0 h];simp;omega
   ·rw[WQ (by omega) h1,Qx_]
    have:=(Yy (n / 10)).1
    simp only[Qs_,Q1_]
    constructor
    ·intro h';omega
    ·intro h';exact absurd (show n < 10 from h') h
 | k+1,n,h0,h1=>by
   by_cases h:n < 10
   ·rw[ZaT h0 h]
    have:(10:Int) ^ (k+1+1)=10 ^ k *100:=by rw[Int.pow_succ,Int.pow_succ];omega
    have:=Zlf k
    simp only[Qs_,Q1_]
    omega
   ·rw[WQ (by omega) h1,Qx_,Qs_,Q1_]
    have ih:=ZiG k (n / 10) (by omega) (by omega)
    have:(10:Int) ^ (k+1+1)=10 ^ (k+1)*10:=Int.pow_succ _ _
    omega
theorem Zew{d:Dec}(h:ZL d=true):JV (Yz d) d.scale.toNat=digits (headD d)++(digits (Wg d)).drop 1∧((digits (Wg d)).drop 1).length=d.scale.toNat∧decide (((digits (headD d)).length:Int) > 5)=decide (headD d > 99999):=by
 obtain ⟨b1,b2⟩:=Wb h
 have ha:0≤Yz d∧Yz d≤100000000000:=by unfold Yz;omega
 have f:=ZiB h
 obtain ⟨t1,t2⟩:=Zf2 d.scale.toNat (Yz d) ha.1 ha.2 (by omega)
 have e1:Yz d / 10 ^ d.scale.toNat=headD d:=by unfold headD ZK;rw[Int.tdiv_eq_ediv_of_nonneg ha.1]
 have e2:Yz d % 10 ^ d.scale.toNat+10 ^ d.scale.toNat=Wg d:=by unfold Wg ZK;rw[Int.tmod_eq_emod_of_nonneg ha.1]
 rw[e1,e2] at t1
 rw[e2] at t2
 refine ⟨t1,by rw[K7_,t2];omega, ?_⟩
 have:=ZiG 4 (headD d) (by omega) (by omega)
 rw[show ((10:Int) ^ (4+1))=100000 from rfl] at this
 by_cases hc:headD d > 99999
 ·rw[QH_ hc,QH_ (by omega)]
 ·rw[QQ_ hc,QQ_ (by omega)]
def PD(d:Dec):List UInt8:=JV (Yz d) d.scale.toNat
def Zfc(d:Dec):List UInt8:=(digits (Wg d)).drop 1
theorem Zut(n:Nat):(Lib.repeatL [48] n).length=n:=by
 induction n with
 | zero=>rfl
 | succ n ih=>show ([48]++Lib.repeatL [48] n).length=_;rw[Qx_,ih];simp;omega
theorem Zlg{d:Dec}(h:ZL d=true):List.foldl imax d.c [IntKind.i64.wrap (0 - d.c)]=Yz d∧
 List.foldl imax 0 [IntKind.i64.wrap (IntKind.i64.wrap (d.scale+1) - ((digits (Yz d)).length:Int))]=max 0 (d.scale+1 - (digits (Yz d)).length)∧
 Zid [48] (max 0 (d.scale+1 - (digits (Yz d)).length))++digits (Yz d)=PD d∧
 IntKind.i64.wrap (((PD d).length:Int) - d.scale)=(digits (headD d)).length∧List.take (((digits (headD d)).length:Int)).toNat (PD d)=digits (headD d)∧List.drop (((digits (headD d)).length:Int)).toNat (PD d)=Zfc d:=by
 obtain ⟨b1,b2⟩:=Wb h
 have f:=ZiB h
 have l1:=Yy (Yz d)
 have l2:=Yy (headD d)
 obtain ⟨p1,p2,_⟩:=Zew h
 have w1:IntKind.i64.wrap (d.scale+1)=d.scale+1:=Zg (by constructor<;>omega)
 have hl:((PD d).length:Int)=(digits (headD d)).length+d.scale:=by
  show ((JV (Yz d) d.scale.toNat).length:Int)=_
  rw[p1,Qx_,p2];omega
 refine ⟨f.1, ?_, ?_, ?_, ?_, ?_⟩
 ·rw[w1,Zg (by constructor<;>omega)]
  simp only[List.foldl,Zv]
 ·unfold PD JV Zid
  rw[show ((d.scale.toNat:Nat):Int)=d.scale by omega]
 ·rw[hl,Zg (by constructor<;>omega)];omega
 ·show List.take _ (JV (Yz d) d.scale.toNat)=_
  rw[p1,Int.toNat_natCast,List.take_left]
 ·show List.drop _ (JV (Yz d) d.scale.toNat)=_
  rw[p1,Int.toNat_natCast,List.drop_left];rfl
theorem ZqJ{d:Dec}(h:ZL d=true):(digits (Yz d)).length≤20∧(digits (headD d)).length≤20∧((PD d).length:Int)=(digits (headD d)).length+d.scale∧((Zfc d).length:Int)=d.scale∧(0≤d.scale∧d.scale≤6)∧(Yz d≤100000000000∧0≤Yz d)∧1≤(digits (Yz d)).length∧1≤(digits (headD d)).length:=by
 obtain ⟨b1,b2⟩:=Wb h
 have l1:=Yy (Yz d)
 have l2:=Yy (headD d)
 obtain ⟨p1,p2,_⟩:=Zew h
 refine ⟨l1.2,l2.2, ?_, ?_,b2,by unfold Yz;omega,l1.1,l2.1⟩
 ·show ((JV (Yz d) d.scale.toNat).length:Int)=_
  rw[p1,Qx_,p2];omega
 ·show (((digits (Wg d)).drop 1).length:Int)=_
  rw[p2];omega
theorem Zuu{d:Dec}(h:ZL d=true):(!(Zfc d==[]))=decide (d.scale > 0):=by
 have:=(ZqJ h).2.2.2.1
 by_cases hs:d.scale > 0
 ·rw[QH_ hs,Qi_,K8_]
  intro e;rw[e] at this;simp at this;omega
 ·have e:Zfc d=[]:=QM_ (by omega)
  rw[QQ_ hs,e];rfl
theorem ZmE{d:Dec}(h:ZL d=true):Jd d=bif decide (((digits (headD d)).length:Int) > 5) then [] else (bif !(Zfc d==[]) then (bif decide (d.c < 0) then [45]++digits (headD d) else digits (headD d))++[46]++Zfc d else (bif decide (d.c < 0) then [45]++digits (headD d) else digits (headD d))):=by
 rw[Zuu h,(Zew h).2.2]
 unfold Jd ZkW ZoB
 rw[h];rfl
theorem ZuX(l:List Tok):Zd (((l.map Tok.enc).getD 0 []).headD .nil)=(l.headD ⟨0,[],XY⟩).kind∧We (((l.map Tok.enc).getD 0 []).tail.headD .nil)=(l.headD ⟨0,[],XY⟩).text:=by
 cases l<;>exact ⟨rfl,rfl⟩
theorem Zca(x:GL):GL.dec (GL.enc x)=x:=by
 show (⟨Ze Glass.dec (x.g.map Glass.enc)⟩:GL)=x
 rw[Zp]
def XI(s:Surf):Bool:=s.curve.no||(s.conic.no||(s.a4.no||(s.a6.no||(s.pos.no||(s.open2.no||s.ratio.no)))))
def Zbx(n:List UInt8)(g:List Glass)(w:Iv):Iv:=bif n==Zdl then point 65536 else Zc9 (ZV g n).1 w
def Ztw(f:Face):Bool:= !(f.a4.c==0)|| !(f.a6.c==0)
def Zcb(f:Face)(pos ratio:Iv):Surf:=⟨f.stop,Ztw f,Zn5 f,add (point 65536) (Z0 f.conic),Z0 f.a4,Z0 f.a6,pos,sqr (Z0 f.aperture),ratio⟩
def pGo(g:List Glass)(w:Iv):List Face→Iv→Iv→List Surf
 | [],_,_=>[]
 | f::l,pos,ix=>Zcb f pos (Zfb f g w ix)::pGo g w l (add pos (Z0 f.thick)) (Zeq f g w ix)
def Xs(l:LensM)(g:List Glass)(w:Iv):SysM:=⟨pGo g w l.faces (Z0 l.back) (point 65536),Z0 (Ztu l).aperture⟩
def Zy(l:LensM)(g:List Glass)(w:Iv):SysM×Int:=bif XT l g then (bif (Xs l g w).surfs.any XI then (Zic,6) else bif (Xs l g w).op.no then (Zic,6) else (Xs l g w,0)) else (Zic,1)
theorem Zn9(g:List Glass)(w:Iv):∀(l:List Face) (p q:Iv),(pGo g w l p q).length=l.length
 | [],_,_=>rfl
 | f::l,p,q=>by simp only[pGo,Qs_,Zn9 g w l]
theorem Zcc{l:LensM}{g:List Glass}(h:XT l g=true):(∃f t,l.faces=f::t)∧l.faces.length≤12:=by
 unfold XT at h
 simp only[Qh_,Qc_] at h
 refine ⟨?_,h.2.2.1⟩
 cases hf:l.faces with
 | nil=>rw[hf] at h;exact absurd h.2.2.2.1 (by decide)
 | cons f t=>exact ⟨f,t,rfl⟩
end Go.Men
namespace Go.Ev
abbrev U2{T0 T1 R:Type}(f:T0→T1→R)(x:T0×T1):R:=f x.1 x.2
abbrev V2{T0 T1 R:Type}(f:T0→T1→R)(x:T0×T1×Unit):R:=match x with | (a0,a1,_)=>f a0 a1
def cv2{T0 T1:Type}(x:T0×T1×Unit):T0×T1:=(x.1,x.2.1)
abbrev U3{T0 T1 T2 R:Type}(f:T0→T1→T2→R)(x:T0×T1×T2):R:=f x.1 x.2.1 x.2.2
abbrev V3{T0 T1 T2 R:Type}(f:T0→T1→T2→R)(x:T0×T1×T2×Unit):R:=match x with | (a0,a1,a2,_)=>f a0 a1 a2
def cv3{T0 T1 T2:Type}(x:T0×T1×T2×Unit):T0×T1×T2:=(x.1,x.2.1,x.2.2.1)
abbrev U4{T0 T1 T2 T3 R:Type}(f:T0→T1→T2→T3→R)(x:T0×T1×T2×T3):R:=f x.1 x.2.1 x.2.2.1 x.2.2.2
abbrev V4{T0 T1 T2 T3 R:Type}(f:T0→T1→T2→T3→R)(x:T0×T1×T2×T3×Unit):R:=match x with | (a0,a1,a2,a3,_)=>f a0 a1 a2 a3
def cv4{T0 T1 T2 T3:Type}(x:T0×T1×T2×T3×Unit):T0×T1×T2×T3:=(x.1,x.2.1,x.2.2.1,x.2.2.2.1)
abbrev U5{T0 T1 T2 T3 T4 R:Type}(f:T0→T1→T2→T3→T4→R)(x:T0×T1×T2×T3×T4):R:=f x.1 x.2.1 x.2.2.1 x.2.2.2.1 x.2.2.2.2
abbrev V5{T0 T1 T2 T3 T4 R:Type}(f:T0→T1→T2→T3→T4→R)(x:T0×T1×T2×T3×T4×Unit):R:=match x with | (a0,a1,a2,a3,a4,_)=>f a0 a1 a2 a3 a4
def cv5{T0 T1 T2 T3 T4:Type}(x:T0×T1×T2×T3×T4×Unit):T0×T1×T2×T3×T4:=(x.1,x.2.1,x.2.2.1,x.2.2.2.1,x.2.2.2.2.1)
abbrev U6{T0 T1 T2 T3 T4 T5 R:Type}(f:T0→T1→T2→T3→T4→T5→R)(x:T0×T1×T2×T3×T4×T5):R:=f x.1 x.2.1 x.2.2.1 x.2.2.2.1 x.2.2.2.2.1 x.2.2.2.2.2
abbrev V6{T0 T1 T2 T3 T4 T5 R:Type}(f:T0→T1→T2→T3→T4→T5→R)(x:T0×T1×T2×T3×T4×T5×Unit):R:=match x with | (a0,a1,a2,a3,a4,a5,_)=>f a0 a1 a2 a3 a4 a5
def cv6{T0 T1 T2 T3 T4 T5:Type}(x:T0×T1×T2×T3×T4×T5×Unit):T0×T1×T2×T3×T4×T5:=(x.1,x.2.1,x.2.2.1,x.2.2.2.1,x.2.2.2.2.1,x.2.2.2.2.2.1)
abbrev U8{T0 T1 T2 T3 T4 T5 T6 T7 R:Type}(f:T0→T1→T2→T3→T4→T5→T6→T7→R)(x:T0×T1×T2×T3×T4×T5×T6×T7):R:=f x.1 x.2.1 x.2.2.1 x.2.2.2.1 x.2.2.2.2.1 x.2.2.2.2.2.1 x.2.2.2.2.2.2.1 x.2.2.2.2.2.2.2
abbrev V8{T0 T1 T2 T3 T4 T5 T6 T7 R:Type}(f:T0→T1→T2→T3→T4→T5→T6→T7→R)(x:T0×T1×T2×T3×T4×T5×T6×T7×Unit):R:=match x with | (a0,a1,a2,a3,a4,a5,a6,a7,_)=>f a0 a1 a2 a3 a4 a5 a6 a7
def cv8{T0 T1 T2 T3 T4 T5 T6 T7:Type}(x:T0×T1×T2×T3×T4×T5×T6×T7×Unit):T0×T1×T2×T3×T4×T5×T6×T7:=(x.1,x.2.1,x.2.2.1,x.2.2.2.1,x.2.2.2.2.1,x.2.2.2.2.2.1,x.2.2.2.2.2.2.1,x.2.2.2.2.2.2.2.1)
abbrev U9{T0 T1 T2 T3 T4 T5 T6 T7 T8 R:Type}(f:T0→T1→T2→T3→T4→T5→T6→T7→T8→R)(x:T0×T1×T2×T3×T4×T5×T6×T7×T8):R:=f x.1 x.2.1 x.2.2.1 x.2.2.2.1 x.2.2.2.2.1 x.2.2.2.2.2.1 x.2.2.2.2.2.2.1 x.2.2.2.2.2.2.2.1 x.2.2.2.2.2.2.2.2
abbrev V9{T0 T1 T2 T3 T4 T5 T6 T7 T8 R:Type}(f:T0→T1→T2→T3→T4→T5→T6→T7→T8→R)(x:T0×T1×T2×T3×T4×T5×T6×T7×T8×Unit):R:=match x with | (a0,a1,a2,a3,a4,a5,a6,a7,a8,_)=>f a0 a1 a2 a3 a4 a5 a6 a7 a8
def cv9{T0 T1 T2 T3 T4 T5 T6 T7 T8:Type}(x:T0×T1×T2×T3×T4×T5×T6×T7×T8×Unit):T0×T1×T2×T3×T4×T5×T6×T7×T8:=(x.1,x.2.1,x.2.2.1,x.2.2.2.1,x.2.2.2.2.1,x.2.2.2.2.2.1,x.2.2.2.2.2.2.1,x.2.2.2.2.2.2.2.1,x.2.2.2.2.2.2.2.2.1)
end Go.Ev
namespace Go.Men
open Go Go.Ev
structure Cd(α:Type) where
 enc:α→PV
 get:PV→Option (α×List Prop)
 ok:∀v a ps,get v=some (a,ps)→ZX ps→v=enc a
def Zif(P:Program)(f:Nat)(pre:List PV)(k:List PV→List Prop→Option (PV×List Prop)):Prop:=∀l ps r qs,k l ps=some (r,qs)→ZX qs→ZX ps∧Con P f (pre++l) r
def EA{α:Type}(c:Cd α)(k:α→List PV→List Prop→Option (PV×List Prop)):List PV→List Prop→Option (PV×List Prop)
 | x::r,ps=>match c.get x with
   | some (a,p)=>k a r (ps++p)
   | none=>none
 | [],_=>none
def EZ(v:PV)(c:List Prop):List PV→List Prop→Option (PV×List Prop)
 | [],ps=>some (v,ps++c)
 | _,_=>none
theorem ZuY{α:Type}{c:Cd α}{k:α→List PV→List Prop→Option (PV×List Prop)}{l:List PV}{ps qs:List Prop}{r:PV}(h:EA c k l ps=some (r,qs)):∃x t a p,l=x::t∧c.get x=some (a,p)∧k a t (ps++p)=some (r,qs):=by
 cases l with
 | nil=>cases h
 | cons x t=>
   cases hg:c.get x with
   | none=>simp only[EA,hg] at h;cases h
   | some y=>simp only[EA,hg] at h;exact ⟨x,t,y.1,y.2,rfl,hg,h⟩
theorem Zh{P:Program}{f:Nat}{α:Type}{c:Cd α}{pre:List PV}{k:α→List PV→List Prop→Option (PV×List Prop)}(h:∀a,Zif P f (pre++[c.enc a]) (k a)):Zif P f pre (EA c k):=fun l ps r qs hk hq=>by
 obtain ⟨x,t,a,p,rfl,hg,hk⟩:=ZuY hk
 obtain ⟨h1,h2⟩:=h a _ _ _ _ hk hq
 obtain ⟨h3,h4⟩:=Ws h1
 rw[←c.ok _ _ _ hg h4,QB_] at h2
 exact ⟨h3,h2⟩
theorem Zlh{v r:PV}{c ps qs:List Prop}{l:List PV}(h:EZ v c l ps=some (r,qs))(hq:ZX qs):l=[]∧r=v∧ZX ps∧ZX c:=by
 cases l with
 | nil=>cases h;exact ⟨rfl,rfl,Ws hq⟩
 | cons x t=>cases h
theorem EZ0{P:Program}{f:Nat}{pre:List PV}{v:PV}(h:Con P f pre v):Zif P f pre (EZ v []):=fun l ps r qs hk hq=>by
 obtain ⟨rfl,rfl,h1,_⟩:=Zlh hk hq
 exact ⟨h1,by rw[QI_];exact h⟩
theorem EZ1{P:Program}{f:Nat}{pre:List PV}{v:PV}{p:Prop}(h:p→Con P f pre v):Zif P f pre (EZ v [p]):=fun l ps r qs hk hq=>by
 obtain ⟨rfl,rfl,h1,h2⟩:=Zlh hk hq
 exact ⟨h1,by rw[QI_];exact h (h2 _ Qv_)⟩
theorem EZ2{P:Program}{f:Nat}{pre:List PV}{v:PV}{p q:Prop}(h:p→q→Con P f pre v):Zif P f pre (EZ v [p,q]):=fun l ps r qs hk hq=>by
 obtain ⟨rfl,rfl,h1,h2⟩:=Zlh hk hq
 exact ⟨h1,by rw[QI_];exact h (h2 _ (by simp)) (h2 _ (by simp))⟩
theorem Zm{P:Program}{f:Nat}{k:List PV→List Prop→Option (PV×List Prop)}(h:Zif P f [] k):Zk P f (fun l=>k l []):=fun args r ps hk hp=>(h _ _ _ _ hk hp).2
def cI:Cd Int:=⟨fun n=> .v (.int .i64 n),fun v=>match v with | .v (.int .i64 n)=>some (n,[]) | _=>none,fun v a ps h _=>by split at h<;>cases h;rfl⟩
def cU:Cd Int:=⟨fun n=> .v (.int .u8 n),fun v=>match v with | .v (.int .u8 n)=>some (n,[]) | _=>none,fun v a ps h _=>by split at h<;>cases h;rfl⟩
def cB:Cd Bool:=⟨fun n=> .v (.bool n),fun v=>match v with | .v (.bool n)=>some (n,[]) | _=>none,fun v a ps h _=>by split at h<;>cases h;rfl⟩
def cS:Cd (List UInt8):=⟨fun n=> .str n,fun v=>match v with | .str n=>some (n,[]) | _=>none,fun v a ps h _=>by split at h<;>cases h;rfl⟩
def cL{α:Type}(e:α→List PV)(d:List PV→α):Cd (List α):=⟨fun l=> .lst (l.map e),fun v=>match v with | .lst xs=>some (Ze d xs,[xs=(Ze d xs).map e]) | _=>none,fun v a ps h hp=>by
 split at h<;>cases h
 exact Kj_ PV.lst (hp _ Qv_)⟩
def cG{α:Type}(e:α→List PV)(d:List PV→α):Cd α:=⟨fun x=> .agg (e x),fun v=>match v with | .agg xs=>some (d xs,[xs=e (d xs)]) | _=>none,fun v a ps h hp=>by
 split at h<;>cases h
 exact Kj_ PV.agg (hp _ Qv_)⟩
def cP{α:Type}(e:α→List PV)(d:List PV→α):Cd α:=⟨fun x=> .lptr (e x) 0,fun v=>match v with | .lptr xs 0=>some (d xs,[xs=e (d xs)]) | _=>none,fun v a ps h hp=>by
 split at h<;>cases h
 exact Kj_ (PV.lptr · 0) (hp _ Qv_)⟩
def cT{α:Type}(e:α→List PV)(g:List PV→Option α)(ok:∀l a,g l=some a→l=e a):Cd α:=⟨fun x=> .agg (e x),fun v=>match v with | .agg xs=>(match g xs with | some a=>some (a,[]) | none=>none) | _=>none,fun v a ps h _=>by
 split at h
 ·split at h
  ·rename_i xs b hb
   cases h
   exact Kj_ PV.agg (ok _ _ hb)
  ·cases h
 ·cases h⟩
def gIv:List PV→Option Iv | [.v (.int .i64 a),.v (.int .i64 b),.v (.bool c)]=>some ⟨a,b,c⟩ | _=>none
theorem Zby(l:List PV)(a:Iv)(h:gIv l=some a):l=Iv.enc a:=by unfold gIv at h;split at h<;>cases h;rfl
def cIv:Cd Iv:=cT Iv.enc gIv Zby
def Zli:List PV→Option Dec | [.v (.int .i64 a),.v (.int .i64 b)]=>some ⟨a,b⟩ | _=>none
theorem Zig(l:List PV)(a:Dec)(h:Zli l=some a):l=Dec.enc a:=by unfold Zli at h;split at h<;>cases h;rfl
def Zcr:Cd Dec:=cT Dec.enc Zli Zig
def vI(n:Int):PV:= .v (.int .i64 n)
def vB(b:Bool):PV:= .v (.bool b)
def pI(n:Int):AV:= .p (.v (.int .i64 n))
structure FD(β:Type) where
 t:β→List (Nat×AV)
 b:β→List (Nat×List PV)
 g:List (Nat×AV)→List (Nat×List PV)→Option (β×List Prop)
 ok:∀ts bs x ps,g ts bs=some (x,ps)→ZX ps→ts=t x∧bs=b x
def fZ:FD Unit:=⟨fun _=>[],fun _=>[],fun ts bs=>match ts,bs with | [],[]=>some ((),[]) | _,_=>none,fun ts bs x ps h _=>by split at h<;>cases h;exact ⟨rfl,rfl⟩⟩
theorem fx{β α:Type}{o:Option (β×List Prop)}{p ps:List Prop}{a:α}{x:α×β}(h:(match o with | some (y,q)=>some ((a,y),p++q) | none=>none)=some (x,ps))(hp:ZX ps):x.1=a∧ZX p∧∃q,o=some (x.2,q)∧ZX q:=by
 cases o with
 | none=>cases h
 | some y=>
   cases h
   exact ⟨rfl,(Ws hp).1,y.2,rfl,(Ws hp).2⟩
def fT{α β:Type}(i:Nat)(c:Cd α)(r:FD β):FD (α×β):=⟨fun y=>(i,.p (c.enc y.1))::r.t y.2,fun y=>r.b y.2,fun ts bs=>match ts with
 | (j,.p v)::ts=>bif Nat.beq j i then (match c.get v with
   | some (a,p)=>(match r.g ts bs with | some (y,q)=>some ((a,y),p++q) | none=>none)
   | none=>none) else none
 | _=>none,fun ts bs x ps h hp=>by
 split at h
 ·rename_i j v ts
  cases hb:Nat.beq j i with
  | false=>rw[hb] at h;cases h
  | true=>
    rw[hb,Qb_] at h
    split at h
    ·rename_i a p hg
     obtain ⟨h1,h2,q,h3,h4⟩:=fx h hp
     obtain ⟨k1,k2⟩:=r.ok _ _ _ _ h3 h4
     rw[c.ok _ _ _ hg h2,h1,k1,k2,Qj_ hb]
     exact ⟨rfl,rfl⟩
    ·cases h
 ·cases h⟩
def fP{β:Type}(i n off:Nat)(r:FD β):FD β:=⟨fun y=>(i,.ptr n off)::r.t y,r.b,fun ts bs=>match ts with
 | (j,.ptr m o)::ts=>bif Nat.beq j i&&(Nat.beq m n&&Nat.beq o off) then r.g ts bs else none
 | _=>none,fun ts bs x ps h hp=>by
 split at h
 ·rename_i j m o ts
  cases hb:(Nat.beq j i&&(Nat.beq m n&&Nat.beq o off)) with
  | false=>rw[hb] at h;cases h
  | true=>
    rw[hb,Qb_] at h
    simp only[Qh_] at hb
    obtain ⟨k1,k2⟩:=r.ok _ _ _ _ h hp
    rw[k1,k2,Qj_ hb.1,Qj_ hb.2.1,Qj_ hb.2.2]
    exact ⟨rfl,rfl⟩
 ·cases h⟩
def fB{α β:Type}(i:Nat)(e:α→List PV)(d:List PV→α)(r:FD β):FD (α×β):=⟨fun y=>r.t y.2,fun y=>(i,e y.1)::r.b y.2,fun ts bs=>match bs with
 | (j,v)::bs=>bif Nat.beq j i then (match r.g ts bs with | some (y,q)=>some ((d v,y),[v=e (d v)]++q) | none=>none) else none
 | _=>none,fun ts bs x ps h hp=>by
 split at h
 ·rename_i j v bs
  cases hb:Nat.beq j i with
  | false=>rw[hb] at h;cases h
  | true=>
    rw[hb,Qb_] at h
    obtain ⟨h1,h2,q,h3,h4⟩:=fx h hp
    obtain ⟨k1,k2⟩:=r.ok _ _ _ _ h3 h4
    have h5:v=e (d v):=h2 _ Qv_
    rw[h1,←h5,k1,k2,Qj_ hb]
    exact ⟨rfl,rfl⟩
 ·cases h⟩
def fb{α β:Type}(i:Nat)(e:α→List PV)(gc:List PV→Option α)(ok:∀l a,gc l=some a→l=e a)(r:FD β):FD (α×β):=⟨fun y=>r.t y.2,fun y=>(i,e y.1)::r.b y.2,fun ts bs=>match bs with
 | (j,v)::bs=>bif Nat.beq j i then (match gc v with
   | some a=>(match r.g ts bs with | some (y,q)=>some ((a,y),[]++q) | none=>none)
   | none=>none) else none
 | _=>none,fun ts bs x ps h hp=>by
 split at h
 ·rename_i j v bs
  cases hb:Nat.beq j i with
  | false=>rw[hb] at h;cases h
  | true=>
    rw[hb,Qb_] at h
    split at h
    ·rename_i a hg
     obtain ⟨h1,h2,q,h3,h4⟩:=fx h hp
     obtain ⟨k1,k2⟩:=r.ok _ _ _ _ h3 h4
     rw[h1,ok _ _ hg,k1,k2,Qj_ hb]
     exact ⟨rfl,rfl⟩
    ·cases h
 ·cases h⟩
def nsB:List Nat→List Nat→Bool
 | [],[]=>true
 | a::r,b::s=>Nat.beq a b&&nsB r s
 | _,_=>false
theorem ZqK:∀{l m:List Nat},nsB l m=true→l=m
 | [],[],_=>rfl
 | a::r,b::s,h=>by
   simp only[nsB,Qh_] at h
   rw[Qj_ h.1,ZqK h.2]
 | [],_::_,h=>by cases h
 | _::_,[],h=>by cases h
def owB:List (Ev.Loc×Nat)→List (Ev.Loc×Nat)→Bool
 | [],[]=>true
 | (a,x)::r,(b,y)::s=>(a.eq b&&Nat.beq x y)&&owB r s
 | _,_=>false
theorem ZqL:∀{l m:List (Ev.Loc×Nat)},owB l m=true→l=m
 | [],[],_=>rfl
 | (a,x)::r,(b,y)::s,h=>by
   simp only[owB,Qh_] at h
   rw[Loc.eq_iff.1 h.1.1,Qj_ h.1.2,ZqL h.2]
 | [],_::_,h=>by cases h
 | _::_,[],h=>by cases h
def LSg{β:Type}(Γ:List (Nat×Ty))(n:Nat)(fd:FD β)(ro:List Nat)(ow:List (Ev.Loc×Nat))(k:KpH)(I:β→Prop)(F:β→(Ex→St→Prop)→Prop):LSum:=fun σ K=>match Wf Γ k σ with
 | some ⟨n',ts,bs,ro',ow',[]⟩=>bif Nat.beq n' n&&(nsB ro' ro&&owB ow' ow) then (match fd.g ts bs with
   | some (y,ps)=>alls (ps++[I y]) (F y K)
   | none=>False) else False
 | _=>False
theorem lsG{P:Program}{β X:Type}{Γ:List (Nat×Ty)}{b:Code}{n:Nat}{fd:FD β}{ro:List Nat}{ow:List (Ev.Loc×Nat)}{k:KpH}{I:β→Prop}{F:β→(Ex→St→Prop)→Prop}(hΓ:ZW P Γ){H:X→St}{inv:X→Prop}{fin:X→Ex→St→Prop}(h:∀x,inv x→∃e σ',fin x e σ'∧∃m,Ja P m b (H x) e σ')
 (cv:β→X) (hH:∀y,(⟨n,fd.t y,fd.b y,ro,ow,[]⟩:St)=H (cv y)) (hI:∀y,I y→inv (cv y)) (hF:∀y K e s,F y K→fin (cv y) e s→K e s):Yq P b (LSg Γ n fd ro ow k I F):=by
 refine Jc hΓ h k fun σ K hS=>?_
 unfold LSg at hS
 split at hS
 ·rename_i n' ts bs ro' ow' hk
  cases hb:(Nat.beq n' n&&(nsB ro' ro&&owB ow' ow)) with
  | false=>rw[hb] at hS;exact hS.elim
  | true=>
    rw[hb,Qb_] at hS
    simp only[Qh_] at hb
    split at hS
    ·rename_i y ps hg
     obtain ⟨h1,h2⟩:=Xi hS
     obtain ⟨h3,h4⟩:=Ws h1
     obtain ⟨k1,k2⟩:=fd.ok _ _ _ _ hg h3
     refine ⟨cv y, ?_,hI y (h4 _ Qv_),fun e s=>hF y K e s h2⟩
     rw[hk,←hH,k1,k2,Qj_ hb.1,ZqK hb.2.1,ZqL hb.2.2]
    ·exact hS.elim
 ·exact hS.elim
theorem fE{K:Ex→St→Prop}{a e:Ex}{b s:St}(h:K a b)(f:e=a∧s=b):K e s:=by obtain ⟨rfl,rfl⟩:=f;exact h
theorem fC{c:Bool}{A B p q R:Prop}(h:bif c then A else B)(f:(c=true∧p)∨(c=false∧q))(ha:A→p→R)(hb:B→q→R):R:=by
 rcases f with ⟨rfl,f⟩ | ⟨rfl,f⟩
 ·exact ha h f
 ·exact hb h f
theorem sxT{α:Type}{A:α→Prop}(T:α→Prop)(e:∀Q,A Q=T Q){Q:α}(h:T Q):A Q:=(e Q).mpr h
def Qn(X r:PV):Prop:=nz r=X
theorem ZfG{P:Program}{E:Env}(hE:EnvOk P E){C:ZJ}(hC:CSOk P C){CP:Yg}(hP:CSPOk P CP){CI:Yc}(hI:CSIOk P CI){G:Gx}(hG:OwOk P C G){LS:List (Nat×LSum)}{f:Nat}{fn:Func}(hf:lk f E.fns=some fn)(hL:Yd P LS fn){n:Nat}{args:List PV}{X:PV}
 (h:sxF E C CP CI G LS n fn args (Qn X)):Con P f args X:=Zny hE hC hP hI hG hf hL h
def kr0:KpH:=⟨⟨[],[],[]⟩,[]⟩
def eIv(x:Iv):List PV:=[vI x.lo,vI x.hi,vB x.no]
def Zih(x:Dec):List PV:=[vI x.c,vI x.scale]
def Zbz(x:Glass):List PV:=[PV.str x.name,vI x.b.a.c,vI x.b.a.scale,vI x.b.b.c,vI x.b.b.scale,vI x.b.c.c,vI x.b.c.scale,vI x.c.a.c,vI x.c.a.scale,vI x.c.b.c,vI x.c.b.scale,vI x.c.c.c,vI x.c.c.scale]
def Ztx(x:Face):List PV:=[vB x.stop,vI x.radius.c,vI x.radius.scale,vI x.aperture.c,vI x.aperture.scale,vI x.thick.c,vI x.thick.scale,vI x.conic.c,vI x.conic.scale,vI x.a4.c,vI x.a4.scale,vI x.a6.c,vI x.a6.scale,PV.str x.glass]
def Z5(x:LensM):List PV:=[PV.str x.name,vI x.back.c,vI x.back.scale,PV.lst (List.map Face.enc x.faces)]
def Zfd(x:Card):List PV:=[vI x.efl.lo,vI x.efl.hi,vB x.efl.no,vI x.bfl.lo,vI x.bfl.hi,vB x.bfl.no,vI x.plane.lo,vI x.plane.hi,vB x.plane.no,vI x.number.lo,vI x.number.hi,vB x.number.no]
def pxU(f:Surf)(y u:Iv):Iv:=bif f.stop then u else sub (YI f.ratio u) (YI (YI y f.curve) (sub (point 65536) f.ratio))
def pxY(f:Surf)(l:List Surf)(y u:Iv):Iv:=match l with | []=>y | g::_=>add y (YI u (sub g.pos f.pos))
def ZaK:List Surf→Iv→Iv→Iv×Iv
 | [],y,u=>(y,u)
 | f::l,y,u=>ZaK l (pxY f l y (pxU f y u)) (pxU f y u)
def pxC(op y u:Iv):Card:=⟨neg (Y5 (point 65536) u),neg (Y5 y u),sub (neg (Y5 y u)) (neg (Y5 (point 65536) u)),Y5 (neg (Y5 (point 65536) u)) (times op 2)⟩
def parax(s:SysM):Card:=pxC s.op (ZaK s.surfs (point 65536) (point 0)).1 (ZaK s.surfs (point 65536) (point 0)).2
def X6(f:Iv→SysM×Int):List Iv→Int
 | []=>0
 | w::t=>bif (f w).2 !=0 then (f w).2 else X6 f t
def X7(f:Iv→SysM×Int)(w:Iv):Iv:=(parax (f w).1).bfl
def J4(f:Iv→SysM×Int)(ws:List Iv):List Iv×Int:=bif X6 f ws==0 then (ws.map (X7 f),0) else ([],X6 f ws)
def Yu(l:LensM)(g:List Glass)(ws:List Iv):List Iv×Int:=J4 (fun w=>Zy l g w) ws
def Zlj(f:Iv→SysM×Int):Iv×Int:=bif (J4 f [Zo 1,Zo 2]).2==0 then (sub (X7 f (Zo 1)) (X7 f (Zo 2)),0) else (ZgX,(J4 f [Zo 1,Zo 2]).2)
def ZaV(l:LensM)(g:List Glass):Iv×Int:=Zlj (fun w=>Zy l g w)
theorem XU(l:LensM)(g:List Glass)(w:Iv):(Zy l g w).1.surfs.length≤12:=by
 unfold Zy
 cases h:XT l g<;>simp only[Qb_,Qd_]
 ·exact Kx_ _
 ·cases (Xs l g w).surfs.any XI<;>simp only[Qb_,Qd_]
  ·cases (Xs l g w).op.no<;>simp only[Qb_,Qd_]
   ·show (pGo _ _ _ _ _).length≤12
    rw[Zn9];exact (Zcc h).2
   ·exact Kx_ _
  ·exact Kx_ _
theorem Zii(f:Iv→SysM×Int)(a b:Iv)(h:((J4 f [a,b]).2==0)=true):J4 f [a,b]=([X7 f a,X7 f b],0):=by
 unfold J4 at h ⊢
 cases hc:X6 f [a,b]==0 with
 | true=>rfl
 | false=>rw[hc] at h;simp only[Qd_] at h;rw[hc] at h;cases h
theorem Zdo(f:Iv→SysM×Int)(w:Iv)(t:List Iv):X6 f (w::t)=bif (f w).2 !=0 then (f w).2 else X6 f t:=rfl
theorem ZnA(f:Iv→SysM×Int)(w:Iv)(t:List Iv)(h:((f w).2 !=0)=true):(X6 f (w::t)==0)=false:=by
 rw[Zdo,h]
 simpa using h
def Xn:Nat→List I→Int→List Iv
 | 0,_,_=>[]
 | k+1,l,i=>bif decide (i < l.length)&&decide (i < 8) then Zo (pick (l.getD i.toNat ⟨0⟩).n 3)::Xn k l (i+1) else []
theorem Zdp(k:Nat)(l:List I)(i:Int):Xn (k+1) l i=bif decide (i < l.length)&&decide (i < 8) then Zo (pick (l.getD i.toNat ⟨0⟩).n 3)::Xn k l (i+1) else []:=rfl
theorem ZqM(k:Nat):∀(l:List I) (i:Int),(Xn k l i).length≤k:=by
 induction k with
 | zero=>intro l i;exact Kx_ _
 | succ k ih=>
   intro l i
   rw[Zdp]
   cases decide (i < l.length)&&decide (i < 8) with
   | true=>simp only[Qb_,Qs_];exact Nat.succ_le_succ (ih l (i+1))
   | false=>exact Kx_ _
theorem Zuv(f:Iv→SysM×Int)(ws:List Iv)(h:(X6 f ws==0)=true):J4 f ws=(ws.map (X7 f),0):=by
 unfold J4;rw[h];rfl
theorem Zb0{l:LensM}{g:List Glass}(h:((Yu l g [Zo 1,Zo 2]).2 !=0)=false):Yu l g [Zo 1,Zo 2]=([X7 (fun w=>Zy l g w) (Zo 1),X7 (fun w=>Zy l g w) (Zo 2)],0)∧ZaV l g=(sub (X7 (fun w=>Zy l g w) (Zo 1)) (X7 (fun w=>Zy l g w) (Zo 2)),0):=by
 have hz:((Yu l g [Zo 1,Zo 2]).2==0)=true:=by simpa using h
 refine ⟨Zii (fun w=>Zy l g w) (Zo 1) (Zo 2) hz, ?_⟩
 unfold ZaV Zlj
 rw[show (J4 (fun w=>Zy l g w) [Zo 1,Zo 2])=Yu l g [Zo 1,Zo 2] from rfl,hz];rfl
theorem ZqN(l:LensM)(g:List Glass):(ZaV l g).2=(Yu l g [Zo 1,Zo 2]).2:=by
 cases h:((Yu l g [Zo 1,Zo 2]).2 !=0) with
 | false=>rw[(Zb0 h).1,(Zb0 h).2]
 | true=>
   have hz:((Yu l g [Zo 1,Zo 2]).2==0)=false:=by simpa using h
   unfold ZaV Zlj
   rw[show (J4 (fun w=>Zy l g w) [Zo 1,Zo 2])=Yu l g [Zo 1,Zo 2] from rfl,hz];rfl
end Go.Men
namespace Go.Ev
open Go.RowKit
end Go.Ev
namespace Go.Proofs.YtgfgjabeooohhaaGreatDoor
open Go.Ev
def Xe:List (Nat×Ty):=[
 (48,⟨1,3,24,[.v (Go.Value.int (Go.IntKind.i64) 0),.v (Go.Value.int (Go.IntKind.i64) 0),.v (Go.Value.bool false)],[(0,3),(1,3),(2,4)],0,0⟩),
 (25,⟨1,2,16,[.v (Go.Value.int (Go.IntKind.i64) 0),.v (Go.Value.int (Go.IntKind.i64) 0)],[(0,3),(1,3)],0,0⟩),
 (3,⟨0,1,8,[.v (Go.Value.int (Go.IntKind.i64) 0)],[],0,0⟩),
 (32,⟨1,14,120,[.v (Go.Value.bool false),.v (Go.Value.int (Go.IntKind.i64) 0),.v (Go.Value.int (Go.IntKind.i64) 0),.v (Go.Value.int (Go.IntKind.i64) 0),.v (Go.Value.int (Go.IntKind.i64) 0),.v (Go.Value.int (Go.IntKind.i64) 0),.v (Go.Value.int (Go.IntKind.i64) 0),.v (Go.Value.int (Go.IntKind.i64) 0),.v (Go.Value.int (Go.IntKind.i64) 0),.v (Go.Value.int (Go.IntKind.i64) 0),.v (Go.Value.int (Go.IntKind.i64) 0),.v (Go.Value.int (Go.IntKind.i64) 0),.v (Go.Value.int (Go.IntKind.i64) 0),.str []],[(0,4),(1,25),(3,25),(5,25),(7,25),(9,25),(11,25),(13,9)],0,0⟩),
 (36,⟨1,4,56,[.str [],.v (Go.Value.int (Go.IntKind.i64) 0),.v (Go.Value.int (Go.IntKind.i64) 0),.nil],[(0,9),(1,25),(3,34)],0,0⟩),
 (9,⟨4,1,16,[.str []],[],0,0⟩),
 (57,⟨1,4,48,[.nil,.v (Go.Value.int (Go.IntKind.i64) 0),.v (Go.Value.int (Go.IntKind.i64) 0),.v (Go.Value.bool false)],[(0,55),(1,48)],0,0⟩),
 (34,⟨3,1,24,[.nil],[],32,0⟩),
 (75,⟨1,23,176,[.v (Go.Value.bool false),.v (Go.Value.bool false),.v (Go.Value.int (Go.IntKind.i64) 0),.v (Go.Value.int (Go.IntKind.i64) 0),.v (Go.Value.bool false),.v (Go.Value.int (Go.IntKind.i64) 0),.v (Go.Value.int (Go.IntKind.i64) 0),.v (Go.Value.bool false),.v (Go.Value.int (Go.IntKind.i64) 0),.v (Go.Value.int (Go.IntKind.i64) 0),.v (Go.Value.bool false),.v (Go.Value.int (Go.IntKind.i64) 0),.v (Go.Value.int (Go.IntKind.i64) 0),.v (Go.Value.bool false),.v (Go.Value.int (Go.IntKind.i64) 0),.v (Go.Value.int (Go.IntKind.i64) 0),.v (Go.Value.bool false),.v (Go.Value.int (Go.IntKind.i64) 0),.v (Go.Value.int (Go.IntKind.i64) 0),.v (Go.Value.bool false),.v (Go.Value.int (Go.IntKind.i64) 0),.v (Go.Value.int (Go.IntKind.i64) 0),.v (Go.Value.bool false)],[(0,4),(1,4),(2,48),(5,48),(8,48),(11,48),(14,48),(17,48),(20,48)],0,0⟩),
 (55,⟨3,1,24,[.nil],[],75,0⟩),
 (30,⟨1,13,112,[.str [],.v (Go.Value.int (Go.IntKind.i64) 0),.v (Go.Value.int (Go.IntKind.i64) 0),.v (Go.Value.int (Go.IntKind.i64) 0),.v (Go.Value.int (Go.IntKind.i64) 0),.v (Go.Value.int (Go.IntKind.i64) 0),.v (Go.Value.int (Go.IntKind.i64) 0),.v (Go.Value.int (Go.IntKind.i64) 0),.v (Go.Value.int (Go.IntKind.i64) 0),.v (Go.Value.int (Go.IntKind.i64) 0),.v (Go.Value.int (Go.IntKind.i64) 0),.v (Go.Value.int (Go.IntKind.i64) 0),.v (Go.Value.int (Go.IntKind.i64) 0)],[(0,9),(1,28),(7,28)],0,0⟩),
 (92,⟨1,3,40,[.v (Go.Value.int (Go.IntKind.i64) 0),.str [],.v (Go.Value.complex (Go.FloatKind.f64) 0 0)],[(0,3),(1,9),(2,37)],0,0⟩),
 (46,⟨3,1,24,[.nil],[],48,0⟩),
 (85,⟨3,1,24,[.nil],[],92,0⟩),
 (22,⟨3,1,24,[.nil],[],30,0⟩),
 (44,⟨3,1,24,[.nil],[],3,0⟩),
 (90,⟨1,4,72,[.nil,.nil,.v (Go.Value.complex (Go.FloatKind.f64) 0 0),.v (Go.Value.int (Go.IntKind.i64) 0)],[(0,85),(1,22),(2,37),(3,38)],0,0⟩),
 (4,⟨0,1,1,[.v (Go.Value.bool false)],[],0,0⟩),
 (28,⟨2,6,48,[.v (Go.Value.int (Go.IntKind.i64) 0),.v (Go.Value.int (Go.IntKind.i64) 0),.v (Go.Value.int (Go.IntKind.i64) 0),.v (Go.Value.int (Go.IntKind.i64) 0),.v (Go.Value.int (Go.IntKind.i64) 0),.v (Go.Value.int (Go.IntKind.i64) 0)],[],25,3⟩),
 (98,⟨1,6,48,[.v (Go.Value.int (Go.IntKind.i64) 0),.v (Go.Value.int (Go.IntKind.i64) 0),.v (Go.Value.int (Go.IntKind.i64) 0),.v (Go.Value.int (Go.IntKind.i64) 0),.v (Go.Value.int (Go.IntKind.i64) 0),.v (Go.Value.int (Go.IntKind.i64) 0)],[(0,3),(1,3),(2,3),(3,3),(4,3),(5,3)],0,0⟩),
 (101,⟨1,12,96,[.v (Go.Value.int (Go.IntKind.i64) 0),.v (Go.Value.int (Go.IntKind.i64) 0),.v (Go.Value.bool false),.v (Go.Value.int (Go.IntKind.i64) 0),.v (Go.Value.int (Go.IntKind.i64) 0),.v (Go.Value.bool false),.v (Go.Value.int (Go.IntKind.i64) 0),.v (Go.Value.int (Go.IntKind.i64) 0),.v (Go.Value.bool false),.v (Go.Value.int (Go.IntKind.i64) 0),.v (Go.Value.int (Go.IntKind.i64) 0),.v (Go.Value.bool false)],[(0,48),(3,48),(6,48),(9,48)],0,0⟩),
 (37,⟨0,1,16,[.v (Go.Value.complex (Go.FloatKind.f64) 0 0)],[],0,0⟩),
 (118,⟨3,1,24,[.nil],[],25,0⟩),
 (111,⟨3,1,24,[.nil],[],5,0⟩),
 (38,⟨0,1,8,[.v (Go.Value.int (Go.IntKind.i64) 0)],[],0,0⟩),
 (62,⟨1,12,96,[.v (Go.Value.int (Go.IntKind.i64) 0),.v (Go.Value.int (Go.IntKind.i64) 0),.v (Go.Value.bool false),.v (Go.Value.int (Go.IntKind.i64) 0),.v (Go.Value.int (Go.IntKind.i64) 0),.v (Go.Value.bool false),.v (Go.Value.int (Go.IntKind.i64) 0),.v (Go.Value.int (Go.IntKind.i64) 0),.v (Go.Value.bool false),.v (Go.Value.int (Go.IntKind.i64) 0),.v (Go.Value.int (Go.IntKind.i64) 0),.v (Go.Value.bool false)],[(0,48),(3,48),(6,48),(9,48)],0,0⟩),
 (5,⟨0,1,1,[.v (Go.Value.int (Go.IntKind.u8) 0)],[],0,0⟩),
 (119,⟨2,3,48,[.str [],.str [],.str []],[],9,3⟩),
 (166,⟨2,2,16,[.v (Go.Value.int (Go.IntKind.i64) 0),.v (Go.Value.int (Go.IntKind.i64) 0)],[],3,2⟩),
 (157,⟨0,1,8,[.v (Go.Value.float (Go.FloatKind.f64) 0)],[],0,0⟩),
 (113,⟨1,2,32,[.v (Go.Value.pointer none),.nil],[(0,110),(1,111)],0,0⟩),
 (189,⟨0,1,4,[.v (Go.Value.int (Go.IntKind.u32) 0)],[],0,0⟩),
 (43,⟨3,1,24,[.nil],[],98,0⟩),
 (170,⟨0,1,8,[.v (Go.Value.int (Go.IntKind.u64) 0)],[],0,0⟩),
 (110,⟨0,1,8,[.v (Go.Value.pointer none)],[],0,0⟩)]
theorem Zs6:ZW Tryz.prog Xe:=
 Z2 (by kernel_rfl)<|
 Z2 (by kernel_rfl)<|
 Z2 (by kernel_rfl)<|
 Z2 (by kernel_rfl)<|
 Z2 (by kernel_rfl)<|
 Z2 (by kernel_rfl)<|
 Z2 (by kernel_rfl)<|
 Z2 (by kernel_rfl)<|
 Z2 (by kernel_rfl)<|
 Z2 (by kernel_rfl)<|
 Z2 (by kernel_rfl)<|
 Z2 (by kernel_rfl)<|
 Z2 (by kernel_rfl)<|
 Z2 (by kernel_rfl)<|
 Z2 (by kernel_rfl)<|
 Z2 (by kernel_rfl)<|
 Z2 (by kernel_rfl)<|
 Z2 (by kernel_rfl)<|
 Z2 (by kernel_rfl)<|
 Z2 (by kernel_rfl)<|
 Z2 (by kernel_rfl)<|
 Z2 (by kernel_rfl)<|
 Z2 (by kernel_rfl)<|
 Z2 (by kernel_rfl)<|
 Z2 (by kernel_rfl)<|
 Z2 (by kernel_rfl)<|
 Z2 (by kernel_rfl)<|
 Z2 (by kernel_rfl)<|
 Z2 (by kernel_rfl)<|
 Z2 (by kernel_rfl)<|
 Z2 (by kernel_rfl)<|
 Z2 (by kernel_rfl)<|
 Z2 (by kernel_rfl)<|
 Z2 (by kernel_rfl)<|
 Z2 (by kernel_rfl)<|
 ZrY
noncomputable def Zty:List (Nat×Func):=[(3,Tryz.f3),(4,Tryz.f4),(5,Tryz.f5),(6,Tryz.f6),(7,Tryz.f7),(8,Tryz.f8),(9,Tryz.f9),(10,Tryz.f10),(12,Tryz.f12),(11,Tryz.f11),(13,Tryz.f13),(14,Tryz.f14),(15,Tryz.f15),(16,Tryz.f16),(17,Tryz.f17),(18,Tryz.f18),(19,Tryz.f19),(20,Tryz.f20),(21,Tryz.f21),(22,Tryz.f22),(23,Tryz.f23),(25,Tryz.f25),(24,Tryz.f24),(26,Tryz.f26),(27,Tryz.f27),(28,Tryz.f28),(29,Tryz.f29),(30,Tryz.f30),(32,Tryz.f32),(31,Tryz.f31),(33,Tryz.f33),(34,Tryz.f34),(35,Tryz.f35),(38,Tryz.f38),(37,Tryz.f37),(36,Tryz.f36),(39,Tryz.f39),(40,Tryz.f40),(41,Tryz.f41),(42,Tryz.f42),(43,Tryz.f43),(44,Tryz.f44),(45,Tryz.f45),(46,Tryz.f46),(47,Tryz.f47),(48,Tryz.f48),(49,Tryz.f49),(50,Tryz.f50),(51,Tryz.f51),(52,Tryz.f52),(53,Tryz.f53),(54,Tryz.f54),(55,Tryz.f55),(56,Tryz.f56),(57,Tryz.f57),(58,Tryz.f58),(65,Tryz.f65),(59,Tryz.f59),(60,Tryz.f60),(61,Tryz.f61),(62,Tryz.f62),(63,Tryz.f63),(64,Tryz.f64),(66,Tryz.f66),(67,Tryz.f67),(68,Tryz.f68),(70,Tryz.f70),(69,Tryz.f69),(71,Tryz.f71),(73,Tryz.f73),(75,Tryz.f75),(74,Tryz.f74),(77,Tryz.f77),(78,Tryz.f78),(79,Tryz.f79),(81,Tryz.f81),(82,Tryz.f82),(80,Tryz.f80),(83,Tryz.f83),(84,Tryz.f84),(85,Tryz.f85),(86,Tryz.f86),(87,Tryz.f87),(88,Tryz.f88),(89,Tryz.f89),(90,Tryz.f90),(91,Tryz.f91),(92,Tryz.f92),(93,Tryz.f93),(94,Tryz.f94),(95,Tryz.f95),(96,Tryz.f96),(97,Tryz.f97),(98,Tryz.f98),(99,Tryz.f99),(100,Tryz.f100),(101,Tryz.f101),(102,Tryz.f102),(103,Tryz.f103),(104,Tryz.f104),(105,Tryz.f105),(106,Tryz.f106),(107,Tryz.f107),(108,Tryz.f108),(109,Tryz.f109),(110,Tryz.f110),(111,Tryz.f111),(112,Tryz.f112),(113,Tryz.f113),(114,Tryz.f114),(115,Tryz.f115),(116,Tryz.f116),(117,Tryz.f117),(118,Tryz.f118),(119,Tryz.f119),(120,Tryz.f120),(121,Tryz.f121),(122,Tryz.f122),(123,Tryz.f123),(124,Tryz.f124),(125,Tryz.f125),(126,Tryz.f126),(76,Tryz.f76),(130,Tryz.f130),(131,Tryz.f131),(136,Tryz.f136),(137,Tryz.f137),(138,Tryz.f138),(135,Tryz.f135),(140,Tryz.f140),(141,Tryz.f141),(142,Tryz.f142),(143,Tryz.f143),(144,Tryz.f144),(145,Tryz.f145),(146,Tryz.f146),(147,Tryz.f147),(148,Tryz.f148),(149,Tryz.f149),(150,Tryz.f150),(151,Tryz.f151),(152,Tryz.f152),(133,Tryz.f133),(134,Tryz.f134),(155,Tryz.f155),(132,Tryz.f132),(156,Tryz.f156),(157,Tryz.f157),(158,Tryz.f158),(165,Tryz.f165),(139,Tryz.f139),(166,Tryz.f166),(167,Tryz.f167),(169,Tryz.f169),(168,Tryz.f168),(170,Tryz.f170),(171,Tryz.f171),(172,Tryz.f172),(173,Tryz.f173),(174,Tryz.f174),(182,Tryz.f182),(188,Tryz.f188),(186,Tryz.f186),(189,Tryz.f189),(206,Tryz.f206),(208,Tryz.f208),(209,Tryz.f209),(222,Tryz.f222)]
theorem Zs7:Zjv Tryz.prog Zty:=
 Za Tryz.func3 Tryz.call3<|
 Za Tryz.func4 Tryz.call4<|
 Za Tryz.func5 Tryz.call5<|
 Za Tryz.func6 Tryz.call6<|
 Za Tryz.func7 Tryz.call7<|
 Za Tryz.func8 Tryz.call8<|
 Za Tryz.func9 Tryz.call9<|
 Za Tryz.func10 Tryz.call10<|
 Za Tryz.func12 Tryz.call12<|
 Za Tryz.func11 Tryz.call11<|
 Za Tryz.func13 Tryz.call13<|
 Za Tryz.func14 Tryz.call14<|
 Za Tryz.func15 Tryz.call15<|
 Za Tryz.func16 Tryz.call16<|
 Za Tryz.func17 Tryz.call17<|
 Za Tryz.func18 Tryz.call18<|
 Za Tryz.func19 Tryz.call19<|
 Za Tryz.func20 Tryz.call20<|
 Za Tryz.func21 Tryz.call21<|
 Za Tryz.func22 Tryz.call22<|
 Za Tryz.func23 Tryz.call23<|
 Za Tryz.func25 Tryz.call25<|
 Za Tryz.func24 Tryz.call24<|
 Za Tryz.func26 Tryz.call26<|
 Za Tryz.func27 Tryz.call27<|
 Za Tryz.func28 Tryz.call28<|
 Za Tryz.func29 Tryz.call29<|
 Za Tryz.func30 Tryz.call30<|
 Za Tryz.func32 Tryz.call32<|
 Za Tryz.func31 Tryz.call31<|
 Za Tryz.func33 Tryz.call33<|
 Za Tryz.func34 Tryz.call34<|
 Za Tryz.func35 Tryz.call35<|
 Za Tryz.func38 Tryz.call38<|
 Za Tryz.func37 Tryz.call37<|
 Za Tryz.func36 Tryz.call36<|
 Za Tryz.func39 Tryz.call39<|
 Za Tryz.func40 Tryz.call40<|
 Za Tryz.func41 Tryz.call41<|
 Za Tryz.func42 Tryz.call42<|
 Za Tryz.func43 Tryz.call43<|
 Za Tryz.func44 Tryz.call44<|
 Za Tryz.func45 Tryz.call45<|
 Za Tryz.func46 Tryz.call46<|
 Za Tryz.func47 Tryz.call47<|
 Za Tryz.func48 Tryz.call48<|
 Za Tryz.func49 Tryz.call49<|
 Za Tryz.func50 Tryz.call50<|
 Za Tryz.func51 Tryz.call51<|
 Za Tryz.func52 Tryz.call52<|
 Za Tryz.func53 Tryz.call53<|
 Za Tryz.func54 Tryz.call54<|
 Za Tryz.func55 Tryz.call55<|
 Za Tryz.func56 Tryz.call56<|
 Za Tryz.func57 Tryz.call57<|
 Za Tryz.func58 Tryz.call58<|
 Za Tryz.func65 Tryz.call65<|
 Za Tryz.func59 Tryz.call59<|
 Za Tryz.func60 Tryz.call60<|
 Za Tryz.func61 Tryz.call61<|
 Za Tryz.func62 Tryz.call62<|
 Za Tryz.func63 Tryz.call63<|
 Za Tryz.func64 Tryz.call64<|
 Za Tryz.func66 Tryz.call66<|
 Za Tryz.func67 Tryz.call67<|
 Za Tryz.func68 Tryz.call68<|
 Za Tryz.func70 Tryz.call70<|
 Za Tryz.func69 Tryz.call69<|
 Za Tryz.func71 Tryz.call71<|
 Za Tryz.func73 Tryz.call73<|
 Za Tryz.func75 Tryz.call75<|
 Za Tryz.func74 Tryz.call74<|
 Za Tryz.func77 Tryz.call77<|
 Za Tryz.func78 Tryz.call78<|
 Za Tryz.func79 Tryz.call79<|
 Za Tryz.func81 Tryz.call81<|
 Za Tryz.func82 Tryz.call82<|
 Za Tryz.func80 Tryz.call80<|
 Za Tryz.func83 Tryz.call83<|
 Za Tryz.func84 Tryz.call84<|
 Za Tryz.func85 Tryz.call85<|
 Za Tryz.func86 Tryz.call86<|
 Za Tryz.func87 Tryz.call87<|
 Za Tryz.func88 Tryz.call88<|
 Za Tryz.func89 Tryz.call89<|
 Za Tryz.func90 Tryz.call90<|
 Za Tryz.func91 Tryz.call91<|
 Za Tryz.func92 Tryz.call92<|
 Za Tryz.func93 Tryz.call93<|
 Za Tryz.func94 Tryz.call94<|
 Za Tryz.func95 Tryz.call95<|
 Za Tryz.func96 Tryz.call96<|
 Za Tryz.func97 Tryz.call97<|
 Za Tryz.func98 Tryz.call98<|
 Za Tryz.func99 Tryz.call99<|
 Za Tryz.func100 Tryz.call100<|
 Za Tryz.func101 Tryz.call101<|
 Za Tryz.func102 Tryz.call102<|
 Za Tryz.func103 Tryz.call103<|
 Za Tryz.func104 Tryz.call104<|
 Za Tryz.func105 Tryz.call105<|
 Za Tryz.func106 Tryz.call106<|
 Za Tryz.func107 Tryz.call107<|
 Za Tryz.func108 Tryz.call108<|
 Za Tryz.func109 Tryz.call109<|
 Za Tryz.func110 Tryz.call110<|
 Za Tryz.func111 Tryz.call111<|
 Za Tryz.func112 Tryz.call112<|
 Za Tryz.func113 Tryz.call113<|
 Za Tryz.func114 Tryz.call114<|
 Za Tryz.func115 Tryz.call115<|
 Za Tryz.func116 Tryz.call116<|
 Za Tryz.func117 Tryz.call117<|
 Za Tryz.func118 Tryz.call118<|
 Za Tryz.func119 Tryz.call119<|
 Za Tryz.func120 Tryz.call120<|
 Za Tryz.func121 Tryz.call121<|
 Za Tryz.func122 Tryz.call122<|
 Za Tryz.func123 Tryz.call123<|
 Za Tryz.func124 Tryz.call124<|
 Za Tryz.func125 Tryz.call125<|
 Za Tryz.func126 Tryz.call126<|
 Za Tryz.func76 Tryz.call76<|
 Za Tryz.func130 Tryz.call130<|
 Za Tryz.func131 Tryz.call131<|
 Za Tryz.func136 Tryz.call136<|
 Za Tryz.func137 Tryz.call137<|
 Za Tryz.func138 Tryz.call138<|
 Za Tryz.func135 Tryz.call135<|
 Za Tryz.func140 Tryz.call140<|
 Za Tryz.func141 Tryz.call141<|
 Za Tryz.func142 Tryz.call142<|
 Za Tryz.func143 Tryz.call143<|
 Za Tryz.func144 Tryz.call144<|
 Za Tryz.func145 Tryz.call145<|
 Za Tryz.func146 Tryz.call146<|
 Za Tryz.func147 Tryz.call147<|
 Za Tryz.func148 Tryz.call148<|
 Za Tryz.func149 Tryz.call149<|
 Za Tryz.func150 Tryz.call150<|
 Za Tryz.func151 Tryz.call151<|
 Za Tryz.func152 Tryz.call152<|
 Za Tryz.func133 Tryz.call133<|
 Za Tryz.func134 Tryz.call134<|
 Za Tryz.func155 Tryz.call155<|
 Za Tryz.func132 Tryz.call132<|
 Za Tryz.func156 Tryz.call156<|
 Za Tryz.func157 Tryz.call157<|
 Za Tryz.func158 Tryz.call158<|
 Za Tryz.func165 Tryz.call165<|
 Za Tryz.func139 Tryz.call139<|
 Za Tryz.func166 Tryz.call166<|
 Za Tryz.func167 Tryz.call167<|
 Za Tryz.func169 Tryz.call169<|
 Za Tryz.func168 Tryz.call168<|
 Za Tryz.func170 Tryz.call170<|
 Za Tryz.func171 Tryz.call171<|
 Za Tryz.func172 Tryz.call172<|
 Za Tryz.func173 Tryz.call173<|
 Za Tryz.func174 Tryz.call174<|
 Za Tryz.func182 Tryz.call182<|
 Za Tryz.func188 Tryz.call188<|
 Za Tryz.func186 Tryz.call186<|
 Za Tryz.func189 Tryz.call189<|
 Za Tryz.func206 Tryz.call206<|
 Za Tryz.func208 Tryz.call208<|
 Za Tryz.func209 Tryz.call209<|
 Za Tryz.func222 Tryz.call222<|
 Zqb
def Ztz:List (Nat×List Nat):=[(25,[0,0]),(32,[1,0,0,0,0,0,0,0,0,0,0,0,0,2]),(48,[0,0,1]),(75,[1,1,0,0,1,0,0,1,0,0,1,0,0,1,0,0,1,0,0,1,0,0,1])]
theorem Zs8:Zjw Tryz.prog Ztz:=
 ZaR (ZbS (d:=8) (by kernel_rfl) (by kernel_rfl) (fun w=>by simp[isAgg,run_underlying Tryz.underlying25]) (i:=(Tryz.prog.info? 25).get (by kernel_rfl)) (by kernel_rfl) (by kernel_rfl) (by kernel_rfl))<|
 ZaR (ZbS (d:=8) (by kernel_rfl) (by kernel_rfl) (fun w=>by simp[isAgg,run_underlying Tryz.underlying32]) (i:=(Tryz.prog.info? 32).get (by kernel_rfl)) (by kernel_rfl) (by kernel_rfl) (by kernel_rfl))<|
 ZaR (ZbS (d:=8) (by kernel_rfl) (by kernel_rfl) (fun w=>by simp[isAgg,run_underlying Tryz.underlying48]) (i:=(Tryz.prog.info? 48).get (by kernel_rfl)) (by kernel_rfl) (by kernel_rfl) (by kernel_rfl))<|
 ZaR (ZbS (d:=8) (by kernel_rfl) (by kernel_rfl) (fun w=>by simp[isAgg,run_underlying Tryz.underlying75]) (i:=(Tryz.prog.info? 75).get (by kernel_rfl)) (by kernel_rfl) (by kernel_rfl) (by kernel_rfl))<|
 Zqc
def ZqO:List (Nat×IntKind):=[(3,Go.IntKind.i64),(5,Go.IntKind.u8),(170,Go.IntKind.u64),(189,Go.IntKind.u32)]
theorem ZqP:Zg4 Tryz.prog ZqO:=
 Zag Tryz.underlying3<|
 Zag Tryz.underlying5<|
 Zag Tryz.underlying170<|
 Zag Tryz.underlying189<|
 Zoc
def ZqQ:List (Nat×FloatKind):=[(157,Go.FloatKind.f64)]
theorem ZqR:Zg9 Tryz.prog ZqQ:=
 Zm7 Tryz.underlying157<|
 Zoi
theorem ZqS:Zqh Tryz.prog []:=
 Zoj
noncomputable def Zt0:Nat→List PV→Option PV:=fun _ _=>none
theorem Zs9:Ztn Tryz.prog Zt0:=Zqi
noncomputable def evEnv:Env:=⟨Xe,Ztz,[4],ZqO,ZqQ,[],Zty,[49,50,51,52,107,109,110,155],[],Zt0,[69],[127],[(72,5)],[]⟩
theorem ZsA:Zjx Tryz.prog [127]:=
 Zon (ZtX (ρ:=Tryz.lays105_ren) {Tryz.lays105 with} Tryz.Builder_Extra_105.toX72 rfl Tryz.call127)<|
 Zqn
theorem ZqT:ZeT Tryz.prog [(72,5)]:=
 ZkG (Zqm (ρ:=Tryz.lays105_ren) {Tryz.lays105 with} Tryz.Builder_Extra_105 Tryz.call72)<|
 Zm8
theorem ZoJ:∀T,has T [4]=true→Tryz.prog.underlying T=some .bool:=by
 intro T h
 have h:=YE.1 h
 simp only[Q9_,List.not_mem_nil,or_false] at h
 subst h;exact Tryz.underlying4
theorem Zx:EnvOk Tryz.prog evEnv:=⟨Zs6,by kernel_rfl,Zs8,ZoJ,ZqP,ZqR,ZqS,Zs9,ZsA,ZqT,Zs7⟩
end Go.Proofs.YtgfgjabeooohhaaGreatDoor
namespace Go.Men
open Go.Ev Go.Proofs Go.Proofs.YtgfgjabeooohhaaGreatDoor
def e86:Ent:=fun l_=>EA cI (fun n=>EZ (.v (.bool (inB n))) []) l_ []
def e40:Ent:=fun l_=>EA cIv (fun a=>EZ (.v (.bool (right a))) []) l_ []
def e65:Ent:=fun l_=>EZ (.agg (Iv.enc none')) [] l_ []
def e84:Ent:=fun l_=>EA cI (fun lo=>EA cI (fun hi=>EZ (.agg (Iv.enc (of lo hi))) [])) l_ []
def e60:Ent:=fun l_=>EA cI (fun n=>EZ (.agg (Iv.enc (point n))) []) l_ []
def Zws:Ent:=fun l_=>EA cI (fun a=>EA cI (fun b=>EZ (.v (.int .i64 (floor a b))) [-4611686018427387904≤a∧a≤4611686018427387904])) l_ []
def e85:Ent:=fun l_=>EA cIv (fun a=>EA cIv (fun b=>EZ (.v (.bool (both a b))) [])) l_ []
def e67:Ent:=fun l_=>EA cIv (fun a=>EZ (.agg (Iv.enc (neg a))) []) l_ []
def e37:Ent:=fun l_=>EA cIv (fun a=>EA cIv (fun b=>EZ (.agg (Iv.enc (add a b))) [])) l_ []
def e27:Ent:=fun l_=>EA cIv (fun a=>EA cIv (fun b=>EZ (.agg (Iv.enc (sub a b))) [])) l_ []
def Zwt:Ent:=fun l_=>EA cIv (fun a=>EA cI (fun n=>EZ (.v (.bool (has a n))) [])) l_ []
def Zwu:Ent:=fun l_=>EA cI (fun a=>EA cI (fun b=>EA cB (fun up=>EZ (.tup [.v (.int .i64 ((rounded a b up).1)),.v (.bool ((rounded a b up).2))]) [-4611686018427387904≤a∧a≤4611686018427387904,b≠0]))) l_ []
def Zwv:Ent:=fun l_=>EA cI (fun a=>EA cI (fun b=>EA cB (fun up=>EZ (.tup [.v (.int .i64 ((mul a b up).1)),.v (.bool ((mul a b up).2))]) []))) l_ []
def Zww:Ent:=fun l_=>EA cI (fun a=>EA cI (fun b=>EA cB (fun up=>EZ (.tup [.v (.int .i64 ((div a b up).1)),.v (.bool ((div a b up).2))]) []))) l_ []
def Zij:Ent
 | [.fn 126 [],.agg [.v (.int .i64 p1),.v (.int .i64 p2),.v (.bool p3)],.agg [.v (.int .i64 p4),.v (.int .i64 p5),.v (.bool p6)]]=>some (.agg (Iv.enc (ends mul (⟨p1,p2,p3⟩:Iv) (⟨p4,p5,p6⟩:Iv))),[])
 | _=>none
def Zik:Ent
 | [.fn 123 [],.agg [.v (.int .i64 p1),.v (.int .i64 p2),.v (.bool p3)],.agg [.v (.int .i64 p4),.v (.int .i64 p5),.v (.bool p6)]]=>some (.agg (Iv.enc (ends div (⟨p1,p2,p3⟩:Iv) (⟨p4,p5,p6⟩:Iv))),[])
 | _=>none
def Zwx:Ent:=eOr Zij (Zik)
def Zwy:Ent:=fun l_=>EA cI (fun a=>EA cB (fun up=>EZ (.tup [.v (.int .i64 ((root a up).1)),.v (.bool ((root a up).2))]) [])) l_ []
def Zwz:Ent:=fun l_=>EA cI (fun n=>EZ (.v (.int .i64 (ZK n))) [0≤n∧n≤18]) l_ []
def e66:Ent:=fun l_=>EA cIv (fun a=>EA cIv (fun b=>EZ (.agg (Iv.enc (YI a b))) [])) l_ []
def e63:Ent:=fun l_=>EA cIv (fun a=>EA cIv (fun b=>EZ (.agg (Iv.enc (Y5 a b))) [])) l_ []
def Zw0:Ent:=fun l_=>EA cIv (fun a=>EZ (.agg (Iv.enc (sqr a))) []) l_ []
def e68:Ent:=fun l_=>EA cIv (fun a=>EA cI (fun k=>EZ (.agg (Iv.enc (times a k))) [])) l_ []
def Zw1:Ent:=fun l_=>EA cIv (fun a=>EZ (.agg (Iv.enc (Zbu a))) []) l_ []
def Zw2:Ent:=fun l_=>EA Zcr (fun d=>EZ (.v (.bool (ZL d))) []) l_ []
def e59:Ent:=fun l_=>EA Zcr (fun d=>EZ (.agg (Iv.enc (Z0 d))) []) l_ []
def e12:Ent:=fun l_=>EA cI (fun n=>EA cI (fun m=>EZ (.v (.int .i64 (pick n m))) [0 < m∧m≤4611686018427387904])) l_ []
def e11:Ent:=fun l_=>EA cI (fun c=>EA cI (fun scale=>EZ (.agg (Dec.enc (hdec scale.toNat c scale))) [0≤scale∧scale≤18])) l_ []
def e45:Ent:=fun l_=>EA cI (fun n=>EZ (.str (digits n)) [-1000000000000000000≤n∧n≤1000000000000000000]) l_ []
def e53:Ent:=fun l_=>EA (cL Face.enc Face.dec) (fun l=>EZ (.v (.bool (XS l))) [l.length≤140737488355328]) l_ []
def e10:Ent:=fun l_=>EA (cL I.enc I.dec) (fun l=>EZ (.lst ((Z3 l).map Glass.enc)) [l.length≤140737488355328]) l_ []
def e16:Ent:=fun l_=>EA cI (fun back=>EA (cL RawFace.enc RawFace.dec) (fun l=>EA (cL Glass.enc Glass.dec) (fun g=>EA cI (fun most=>EZ (.agg (LensM.enc (Ye back l g most))) [l.length≤140737488355328∧g.length≤1000∧most≤1000])))) l_ []
def Zw3:Ent:=fun l_=>EA cS (fun s=>EA cS (fun c=>EZ (.str (Zha s c)) [s.length≤4000000000∧c.length≤4000000000,WO c=true])) l_ []
def Zw4:Ent:=fun l_=>EA cS (fun s=>EA cS (fun c=>EZ (.str (J2 s c)) [s.length≤4000000000∧c.length≤4000000000,WO c=true])) l_ []
def Zw5:Ent:=fun l_=>EA cS (fun s=>EZ (.tup [.v (.int .i64 ((Zaj s,()).1)),.v .nilIface]) [Zld s]) l_ []
def Zw6:Ent:=fun l_=>EA cS (fun s=>EA cI (fun n=>EZ (.str (Zid s n)) [0≤n∧n≤4000000000∧s.length *n.toNat≤4000000000])) l_ []
def Zw7:Ent:=fun l_=>EA cS (fun s=>EA cU (fun c=>EZ (.v (.int .i64 (ixM c s))) [])) l_ []
def Zw8:Ent:=fun l_=>EA cI (fun n=>EZ (.str (digits n)) [-1000000000000000000≤n∧n≤1000000000000000000]) l_ []
def Zw9:Ent:=fun l_=>EA cS (fun s=>EA cU (fun c=>EZ (.v (.int .i64 (ixM c s))) [])) l_ []
def ZwA:Ent:=fun l_=>EA cS (fun s=>EA cS (fun p=>EZ (.v (.bool (Wu s p))) [])) l_ []
def ZwB:Ent:=fun l_=>EA cS (fun s=>EA cS (fun p=>EZ (.tup [.str ((ZH s p).1),.v (.bool ((ZH s p).2))]) [])) l_ []
def ZwC:Ent:=fun l_=>EA cS (fun s=>EA cS (fun p=>EZ (.tup [.str ((ZH s p).1),.v (.bool ((ZH s p).2))]) [])) l_ []
def ZuZ:Ent
 | [.str p1,.str [46]]=>some (.v (.int .i64 (ixM 46 p1)),[])
 | _=>none
def Zva:Ent
 | [.str p1,.str [46]]=>some (.tup [.str ((ZG p1).1),.str ((ZG p1).2.1),.v (.bool ((ZG p1).2.2))],[p1.length≤4000000000])
 | _=>none
def Zvb:Ent
 | [.str p1,.str [46]]=>some (.tup [.str ((ZG p1).1),.str ((ZG p1).2.1),.v (.bool ((ZG p1).2.2))],[p1.length≤4000000000])
 | _=>none
def ZwD:Ent:=fun l_=>EA cS (fun s=>EA cI (fun n=>EZ (.v (.bool (figs s n))) [s.length≤4000000000])) l_ []
def Zvc:Ent:=fun l_=>EA cU (fun c=>EZ (.v (.bool (XE c))) []) l_ []
def Zvd:Ent:=fun l_=>EA cU (fun c=>EZ (.v (.bool (YV c))) []) l_ []
def Zve:Ent:=fun l_=>EA cU (fun c=>EZ (.v (.bool (Z7 c))) []) l_ []
def Zvf:Ent:=fun l_=>EA cU (fun c=>EZ (.v (.bool (Zn c))) []) l_ []
def Zvg:Ent:=fun l_=>EA cU (fun c=>EZ (.v (.bool (YX c))) []) l_ []
def e99:Ent:=fun l_=>EA cI (fun a=>EA cI (fun b=>EZ (.v (.complex .f64 (Yf a b).re (Yf a b).im)) [])) l_ []
def ZfH:Ent
 | [.str p1,.v (.int .i64 p2),.fn 103 []]=>some (.v (.int .i64 (Zi YX p1 (p2+1))),[0≤p2∧p2 < p1.length∧p1.length≤4000])
 | _=>none
def Zex:Ent
 | [.str p1,.v (.int .i64 p2),.fn 104 []]=>some (.v (.int .i64 (Zi Z7 p1 (p2+1))),[0≤p2∧p2 < p1.length∧p1.length≤4000])
 | _=>none
def ZfI:Ent
 | [.str p1,.v (.int .i64 p2),.fn 105 []]=>some (.v (.int .i64 (Zi Zn p1 (p2+1))),[0≤p2∧p2 < p1.length∧p1.length≤4000])
 | _=>none
def Zvh:Ent:=eOr ZfH (eOr Zex (ZfI))
def Zvi:Ent:=fun l_=>EA cS (fun s=>EZ (.tup [.agg (Dec.enc ((Xr s).1)),.v (.bool ((Xr s).2))]) [s.length≤4000]) l_ []
def e48:Ent:=fun l_=>EA cS (fun s=>EZ (.tup [.lst (((tokens s).1).map Tok.enc),.v (.complex .f64 ((tokens s).2.1).re ((tokens s).2.1).im),.v (.int .i64 ((tokens s).2.2))]) []) l_ []
def ZwE:Ent:=fun l_=>EA Zcr (fun a=>EA Zcr (fun b=>EZ (.v (.bool (Y9 a b))) [])) l_ []
def e70:Ent:=fun l_=>EA Zcr (fun d=>EZ (.str (Jd d)) []) l_ []
def e71:Ent:=fun l_=>EZ (.agg (Dec.enc Z8)) [] l_ []
def ZwF:Ent:=fun l_=>EA Zcr (fun d=>EZ (.v (.bool (printable d))) []) l_ []
def e79:Ent:=fun l_=>EA Zcr (fun d=>EZ (.v (.bool (WR d))) []) l_ []
def ZwG:Ent:=fun l_=>EA Zcr (fun d=>EZ (.v (.bool (Y9 d Z8))) []) l_ []
def ZwH:Ent:=fun l_=>EA Zcr (fun a=>EA Zcr (fun b=>EZ (.v (.bool (ZoH a b))) [])) l_ []
def e78:Ent:=fun l_=>EA cS (fun s=>EZ (.v (.bool (ZcA s))) []) l_ []
def ZwI:Ent:=fun l_=>EA (cL Glass.enc Glass.dec) (fun l=>EA cS (fun n=>EZ (.tup [.agg (Glass.enc ((ZV l n).1)),.v (.bool ((ZV l n).2))]) [l.length≤140737488355328])) l_ []
def ZwJ:Ent:=fun l_=>EA cS (fun n=>EA (cL Glass.enc Glass.dec) (fun g=>EZ (.v (.bool (Zhc n g))) [g.length≤140737488355328])) l_ []
def e76:Ent:=fun l_=>EA (cG Face.enc Face.dec) (fun f=>EA (cL Glass.enc Glass.dec) (fun g=>EZ (.v (.bool (ZR f g))) [g.length≤140737488355328])) l_ []
def e75:Ent:=fun l_=>EA (cG Face.enc Face.dec) (fun f=>EA (cP GL.enc GL.dec) (fun g=>EZ (.v (.bool (!ZR f g.g))) [g.g.length≤140737488355328])) l_ []
def e77:Ent:=fun l_=>EA (cG Face.enc Face.dec) (fun f=>EZ (.v (.bool (!f.stop))) []) l_ []
def Zlk:Ent
 | [.lst p1,.fn 75 [.lptr p2 0]]=>some (.v (.int .i64 (YT (fun f=> !ZR f (GL.dec p2).g) (Ze Face.dec p1) 0)),[p1=(Ze Face.dec p1).map Face.enc,p2=GL.enc (GL.dec p2),(Ze Face.dec p1).length≤140737488355328∧(GL.dec p2).g.length≤140737488355328])
 | _=>none
def Zll:Ent
 | [.lst p1,.fn 77 []]=>some (.v (.int .i64 (YT (fun f=> !f.stop) (Ze Face.dec p1) 0)),[p1=(Ze Face.dec p1).map Face.enc,(Ze Face.dec p1).length≤140737488355328])
 | _=>none
def ZwK:Ent:=eOr Zlk (Zll)
def Zlm:Ent
 | [.lst p1,.fn 75 [.lptr p2 0]]=>some (.v (.bool ((Ze Face.dec p1).any (fun f=> !ZR f (GL.dec p2).g))),[p1=(Ze Face.dec p1).map Face.enc,p2=GL.enc (GL.dec p2),(Ze Face.dec p1).length≤140737488355328∧(GL.dec p2).g.length≤140737488355328])
 | _=>none
def Zln:Ent
 | [.lst p1,.fn 77 []]=>some (.v (.bool ((Ze Face.dec p1).any (fun f=> !f.stop))),[p1=(Ze Face.dec p1).map Face.enc,(Ze Face.dec p1).length≤140737488355328])
 | _=>none
def e74:Ent:=eOr Zlm (Zln)
def e30:Ent:=fun l_=>EA (cG LensM.enc LensM.dec) (fun l=>EA (cL Glass.enc Glass.dec) (fun g=>EZ (.v (.bool (XT l g))) [g.length≤140737488355328∧l.faces.length≤140737488355328])) l_ []
def e25:Ent:=fun l_=>EA cI (fun k=>EZ (.agg (Iv.enc (Zo k))) []) l_ []
def ZwL:Ent:=fun l_=>EA (cG Glass.enc Glass.dec) (fun g=>EA cIv (fun w=>EZ (.agg (Iv.enc (Zc9 g w))) [])) l_ []
def e62:Ent:=fun l_=>EA cS (fun n=>EA (cL Glass.enc Glass.dec) (fun g=>EA cIv (fun w=>EZ (.agg (Iv.enc (Zbx n g w))) [g.length≤140737488355328]))) l_ []
def e61:Ent:=fun l_=>EA (cG Face.enc Face.dec) (fun f=>EZ (.agg (Surf.enc (Zcb f ZgX (point 65536)))) []) l_ []
def Zvj:Ent:=fun l_=>EA cIv (fun a=>EZ (.v (.bool a.no)) []) l_ []
def Zvk:Ent
 | [.lst p1,.fn 125 []]=>some (.v (.int .i64 (YT (fun f=>f.no) (Ze Iv.dec p1) 0)),[p1=(Ze Iv.dec p1).map Iv.enc,(Ze Iv.dec p1).length≤140737488355328])
 | _=>none
def Zvl:Ent
 | [.lst p1,.fn 125 []]=>some (.v (.bool ((Ze Iv.dec p1).any (fun f=>f.no))),[p1=(Ze Iv.dec p1).map Iv.enc,(Ze Iv.dec p1).length≤140737488355328])
 | _=>none
def e64:Ent:=fun l_=>EA (cG Surf.enc Surf.dec) (fun s=>EZ (.v (.bool (XI s))) []) l_ []
def e24:Ent:=fun l_=>EA (cG LensM.enc LensM.dec) (fun l=>EA (cL Glass.enc Glass.dec) (fun g=>EA cIv (fun w=>EZ (.tup [.agg (SysM.enc ((Zy l g w).1)),.v (.int .i64 ((Zy l g w).2))]) [g.length≤140737488355328∧l.faces.length≤140737488355328]))) l_ []
def e9:Ent:=fun l_=>EA cI (fun back=>EA (cL RawFace.enc RawFace.dec) (fun l=>EA (cL I.enc I.dec) (fun raw=>EA cI (fun a=>EA cI (fun b=>EA cI (fun lack=>EA cB (fun tame=>EZ (.v (.bool true)) [l.length≤140737488355328∧raw.length≤140737488355328]))))))) l_ []
def e26:Ent:=fun l_=>EA (cG SysM.enc SysM.dec) (fun s=>EZ (.agg (Card.enc (parax s))) [s.surfs.length≤1000]) l_ []
def e19:Ent:=fun l_=>EA (cG LensM.enc LensM.dec) (fun l=>EA (cL Glass.enc Glass.dec) (fun g=>EA (cL Iv.enc Iv.dec) (fun ws=>EZ (.tup [.lst (((Yu l g ws).1).map Iv.enc),.v (.int .i64 ((Yu l g ws).2))]) [g.length≤140737488355328∧l.faces.length≤140737488355328∧ws.length≤1000000]))) l_ []
def e21:Ent:=fun l_=>EA (cG LensM.enc LensM.dec) (fun l=>EA (cL Glass.enc Glass.dec) (fun g=>EZ (.tup [.agg (Iv.enc ((ZaV l g).1)),.v (.int .i64 ((ZaV l g).2))]) [g.length≤140737488355328∧l.faces.length≤140737488355328])) l_ []
def e23:Ent:=fun l_=>EZ (.v (.bool true)) [] l_ []
def e4:Ent:=fun l_=>EA cI (fun back=>EA (cL RawFace.enc RawFace.dec) (fun l=>EA (cL I.enc I.dec) (fun raw=>EA (cL I.enc I.dec) (fun waves=>EA cI (fun lack=>EZ (.v (.bool true)) [l.length≤140737488355328∧raw.length≤140737488355328∧waves.length≤140737488355328]))))) l_ []
def e5:Ent:=fun l_=>EA cI (fun back=>EA (cL RawFace.enc RawFace.dec) (fun l=>EA (cL I.enc I.dec) (fun order=>EZ (.v (.bool true)) [l.length≤140737488355328∧order.length≤140737488355328]))) l_ []
theorem cf0{C:ZJ}(hC:CSOk Tryz.prog C){f:Nat}{fn:Func}(hf:lk f evEnv.fns=some fn){args:List PV}{X:PV}(h:sxF evEnv C Zei Zej noG [] 2000 fn args (Qn X)):Con Tryz.prog f args X:=ZfG Zx hC ZZ Ya Yl hf Zfx h
theorem cfL{C:ZJ}(hC:CSOk Tryz.prog C){f:Nat}{fn:Func}{LS:List (Nat×LSum)}(hL:Yd Tryz.prog LS fn)(hf:lk f evEnv.fns=some fn){args:List PV}{X:PV}(h:sxF evEnv C Zei Zej noG LS 2000 fn args (Qn X)):Con Tryz.prog f args X:=ZfG Zx hC ZZ Ya Yl hf hL h
abbrev ZfJ(R_:Type):=Int→Int→Int→Bool→R_
def ZsB:ZfJ St:=fun bit n r up=>⟨44,[(8,pI bit),(6,pI n),(7,pI r),(1,.p (vB up))],[],[],[],[]⟩
def Zlo:KpH:=⟨⟨[8,6,7,1],[],[]⟩,[]⟩
def ZqU:KpH:=⟨⟨[7,6,1],[],[]⟩,[]⟩
abbrev ZqV:KpH:=kr0
def Zb1:ZfJ St:=fun bit n r up=>⟨44,[(7,.p (.v (.int .i64 (Y6 (bit+1).toNat n r)))),(6,.p (.v (.int .i64 n))),(1,.p (.v (.bool up)))],[],[],[],[]⟩
def JW:ZfJ Prop:=fun bit n r up=>(-1≤bit∧bit≤24)∧(0≤n∧n≤140737488355328)∧(0≤r∧r+2 ^ (bit+1).toNat≤33554432)∧((2:Int) ^ (bit+1).toNat∣r)
def Zlp:LSum:=LSg Xe 44 (fT 8 cI<|fT 6 cI<|fT 7 cI<|fT 1 cB<|fZ) [] [] Zlo (V4 JW) fun y K=>K (.exit 0) (V4 Zb1 y)
abbrev Zey(R_:Type):=Int→Int→Int→R_
def ZqW:Zey St:=fun i out n=>⟨11,[(5,pI i),(3,pI out),(4,pI n)],[],[],[],[]⟩
def ZiH:KpH:=⟨⟨[5,3,4],[],[]⟩,[]⟩
def ZoK:KpH:=⟨⟨[3],[],[]⟩,[]⟩
abbrev ZoL:KpH:=kr0
def ZiI:Zey St:=fun i out n=>⟨11,[(3,.p (.v (.int .i64 (ZK n))))],[],[],[],[]⟩
def Za3:Zey Prop:=fun i out n=>(0≤i)∧(i≤n)∧(n≤18)∧(out=ZK i)
def ZiJ:LSum:=LSg Xe 11 (fT 5 cI<|fT 3 cI<|fT 4 cI<|fZ) [] [] ZiH (V3 Za3) fun y K=>K (.exit 0) (V3 ZiI y)
abbrev ZfK(R_:Type):=Dec→Dec→R_
def ZsC:ZfK St:=fun d z=>⟨27,[(5,.ptr 5 0),(4,.ptr 4 0)],[(5,Dec.enc d),(4,Dec.enc z)],[],[],[]⟩
def Zlq:KpH:=⟨⟨[5,4],[5,4],[]⟩,[]⟩
def ZqX:KpH:=⟨⟨[4,5],[4,5],[]⟩,[]⟩
abbrev ZqY:KpH:=kr0
def Zb2:ZfK St:=fun d z=>⟨27,[(4,.ptr 4 0),(5,.ptr 5 0)],[(4,[.v (.int .i64 z.c),.v (.int .i64 z.scale)]),(5,[.v (.int .i64 ((hdec d.scale.toNat d.c d.scale).c)),.v (.int .i64 ((hdec d.scale.toNat d.c d.scale).scale))])],[],[],[]⟩
def Zb3:ZfK Prop:=fun d z=>(0≤d.scale∧d.scale≤18)
def Zlr:LSum:=LSg Xe 27 (fP 5 5 0<|fP 4 4 0<|fb 5 Dec.enc Zli Zig<|fb 4 Dec.enc Zli Zig<|fZ) [] [] Zlq (V2 Zb3) fun y K=>K (.exit 0) (V2 Zb2 y)
abbrev Za4(R_:Type):=Int→(List Face)→R_
def ZqZ:Za4 St:=fun i l=>⟨16,[(3,pI i),(0,.p (.lst (l.map Face.enc)))],[],[],[],[]⟩
def ZiK:KpH:=⟨⟨[3,0],[],[]⟩,[]⟩
def ZoM:KpH:=⟨⟨[],[],[]⟩,[]⟩
def ZoN:KpH:=⟨⟨[2],[],[]⟩,[]⟩
def Zez:Za4 St:=fun i l=>⟨16,[],[],[],[],[]⟩
def Ze0:Za4 St:=fun i l=>⟨16,[(2,.p (.v (.bool true)))],[],[],[],[]⟩
def Jl:Za4 Prop:=fun i l=>(0≤i∧i≤l.length∧l.length≤140737488355328)
def Jm:Za4 Bool:=fun i l=>XS (l.drop i.toNat)
def ZiL:LSum:=LSg Xe 16 (fT 3 cI<|fT 0 (cL Face.enc Face.dec)<|fZ) [] [] ZiK (V2 Jl) fun y K=>bif V2 Jm y then K .ret (V2 Ze0 y) else K (.exit 0) (V2 Zez y)
abbrev J5(R_:Type):=Int→(List Glass)→(List I)→R_
def Zcd:J5 St:=fun i out l=>⟨80,[(4,pI i),(3,.p (.lst (out.map Glass.enc))),(0,.p (.lst (l.map I.enc)))],[],[],[(.t 3,30)],[]⟩
def Zce:KpH:=⟨⟨[4,3,0],[],[.t 3]⟩,[(.t 3,30)]⟩
def ZfL:KpH:=⟨⟨[3],[],[]⟩,[]⟩
abbrev ZfM:KpH:=kr0
def Wh:J5 St:=fun i out l=>⟨80,[(3,.p (.lst ((out++Zbw (3 - i).toNat l i).map Glass.enc)))],[],[],[],[]⟩
def Xf:J5 Prop:=fun i out l=>(0≤i∧i≤3∧l.length≤140737488355328∧(out.length:Int)=i+2)
def J6:LSum:=LSg Xe 80 (fT 4 cI<|fT 3 (cL Glass.enc Glass.dec)<|fT 0 (cL I.enc I.dec)<|fZ) [] [(.t 3,30)] Zce (V3 Xf) fun y K=>K (.exit 0) (V3 Wh y)
abbrev Zb4(R_:Type):=Int→(List Glass)→(List RawFace)→Int→LensM→LensM→R_
def Ze1:Zb4 St:=fun i g l most u z=>⟨166,[(10,pI i),(9,.ptr 9 0),(2,.p (.lst (g.map Glass.enc))),(1,.p (.lst (l.map RawFace.enc))),(8,.ptr 8 0),(3,pI most)],[(9,LensM.enc u),(8,LensM.enc z)],[],[(.b 9 3,32),(.b 8 3,32)],[]⟩
def Ze2:KpH:=⟨⟨[10,9,2,1,8,3],[9,8],[.b 9 3,.b 8 3]⟩,[(.b 9 3,32),(.b 8 3,32)]⟩
def Zjf:KpH:=⟨⟨[8,9],[8,9],[.b 9 3]⟩,[(.b 9 3,32)]⟩
abbrev Zjg:KpH:=kr0
def Wv:Zb4 St:=fun i g l most u z=>⟨166,[(8,.ptr 8 0),(9,.ptr 9 0)],[(8,LensM.enc z),(9,LensM.enc (⟨u.name,u.back,Xw g most (l.drop i.toNat) i u.faces⟩))],[],[(.b 9 3,32)],[]⟩
def Ww:Zb4 Prop:=fun i g l most u z=>(0≤i∧i≤l.length∧l.length≤140737488355328∧g.length≤1000∧most≤1000∧(u.faces.length:Int)≤1000)
def Ze3:LSum:=LSg Xe 166 (fT 10 cI<|fP 9 9 0<|fT 2 (cL Glass.enc Glass.dec)<|fT 1 (cL RawFace.enc RawFace.dec)<|fP 8 8 0<|fT 3 cI<|fB 9 LensM.enc LensM.dec<|fB 8 LensM.enc LensM.dec<|fZ) [] [(.b 9 3,32),(.b 8 3,32)] Ze2 (V6 Ww) fun y K=>K (.exit 0) (V6 Wv y)
abbrev Zdq(R_:Type):=Int→(List UInt8)→R_
def ZoO:Zdq St:=fun i s=>⟨24,[(7,pI i),(0,.p (.str s)),(2,.p (.fn 103 []))],[],[],[],[]⟩
def Zdr:KpH:=⟨⟨[7,0,2],[],[]⟩,[]⟩
def ZmF:KpH:=⟨⟨[7],[],[]⟩,[]⟩
abbrev ZmG:KpH:=kr0
def J7:Zdq St:=fun i s=>⟨24,[(7,.p (.v (.int .i64 (Zi YX s i))))],[],[],[],[]⟩
def WB:Zdq Prop:=fun i s=>(0≤i∧i≤s.length∧s.length≤4000)
def Zds:LSum:=fun σ K=>match Wf Xe Zdr σ with
 | some ⟨24,[(7,.p (.v (.int .i64 p1))),(0,.p (.str p2)),(2,.p (.fn 103 []))],[],[],[],[]⟩=>alls [WB p1 p2] (K (.exit 0) (J7 p1 p2))
 | _=>False
abbrev Zcs(R_:Type):=Int→(List UInt8)→R_
def ZmH:Zcs St:=fun i s=>⟨24,[(7,pI i),(0,.p (.str s)),(2,.p (.fn 104 []))],[],[],[],[]⟩
def Zct:KpH:=⟨⟨[7,0,2],[],[]⟩,[]⟩
def Zls:KpH:=⟨⟨[7],[],[]⟩,[]⟩
abbrev Zlt:KpH:=kr0
def WS:Zcs St:=fun i s=>⟨24,[(7,.p (.v (.int .i64 (Zi Z7 s i))))],[],[],[],[]⟩
def Wc:Zcs Prop:=fun i s=>(0≤i∧i≤s.length∧s.length≤4000)
def Zcu:LSum:=fun σ K=>match Wf Xe Zct σ with
 | some ⟨24,[(7,.p (.v (.int .i64 p1))),(0,.p (.str p2)),(2,.p (.fn 104 []))],[],[],[],[]⟩=>alls [Wc p1 p2] (K (.exit 0) (WS p1 p2))
 | _=>False
abbrev Zdt(R_:Type):=Int→(List UInt8)→R_
def ZoP:Zdt St:=fun i s=>⟨24,[(7,pI i),(0,.p (.str s)),(2,.p (.fn 105 []))],[],[],[],[]⟩
def Zdu:KpH:=⟨⟨[7,0,2],[],[]⟩,[]⟩
def ZmI:KpH:=⟨⟨[7],[],[]⟩,[]⟩
abbrev ZmJ:KpH:=kr0
def J8:Zdt St:=fun i s=>⟨24,[(7,.p (.v (.int .i64 (Zi Zn s i))))],[],[],[],[]⟩
def WC:Zdt Prop:=fun i s=>(0≤i∧i≤s.length∧s.length≤4000)
def Zdv:LSum:=fun σ K=>match Wf Xe Zdu σ with
 | some ⟨24,[(7,.p (.v (.int .i64 p1))),(0,.p (.str p2)),(2,.p (.fn 105 []))],[],[],[],[]⟩=>alls [WC p1 p2] (K (.exit 0) (J8 p1 p2))
 | _=>False
abbrev Za5(R_:Type):=Int→(List Glass)→(List UInt8)→Int→Glass→R_
def Zra:Za5 St:=fun i l n m z=>⟨21,[(4,.ptr 4 0),(10,pI i),(8,.p (.lst (l.map Glass.enc))),(1,.p (.str n)),(9,pI m)],[(4,Glass.enc z)],[],[],[]⟩
def ZiM:KpH:=⟨⟨[4,10,8,1,9],[4],[]⟩,[]⟩
def ZoQ:KpH:=⟨⟨[4],[4],[]⟩,[]⟩
def ZoR:KpH:=⟨⟨[4,5],[4],[]⟩,[]⟩
def Ze4:Za5 St:=fun i l n m z=>⟨21,[(4,.ptr 4 0)],[(4,Glass.enc z)],[],[],[]⟩
def Ze5:Za5 St:=fun i l n m z=>⟨21,[(4,.ptr 4 0),(5,.p (.v (.bool true)))],[(4,Glass.enc ((ZV (l.drop i.toNat) n).1))],[],[],[]⟩
def Jn:Za5 Prop:=fun i l n m z=>(0≤i∧i≤l.length∧l.length≤140737488355328∧m=l.length)
def Jo:Za5 Bool:=fun i l n m z=>(ZV (l.drop i.toNat) n).2
def ZiN:LSum:=LSg Xe 21 (fP 4 4 0<|fT 10 cI<|fT 8 (cL Glass.enc Glass.dec)<|fT 1 cS<|fT 9 cI<|fB 4 Glass.enc Glass.dec<|fZ) [] [] ZiM (V5 Jn) fun y K=>bif V5 Jo y then K .ret (V5 Ze5 y) else K (.exit 0) (V5 Ze4 y)
abbrev Zb5(R_:Type):=Int→(List Face)→GL→Int→R_
def Zlu:Zb5 St:=fun i l g m=>⟨19,[(8,pI i),(0,.p (.lst (l.map Face.enc))),(1,.p (.fn 75 [.lptr (GL.enc g) 0])),(7,pI m)],[],[],[],[]⟩
def ZfN:KpH:=⟨⟨[8,0,1,7],[],[]⟩,[]⟩
def Zrb:KpH:=⟨⟨[],[],[]⟩,[]⟩
def Zrc:KpH:=⟨⟨[4],[],[]⟩,[]⟩
def ZfO:Zb5 St:=fun i l g m=>⟨19,[],[],[],[],[]⟩
def Zdw:Zb5 St:=fun i l g m=>⟨19,[(4,.p (.v (.int .i64 (YT (fun f=> !ZR f g.g) (l.drop i.toNat) i))))],[],[],[],[]⟩
def JX:Zb5 Prop:=fun i l g m=>(0≤i∧i≤l.length∧m=l.length∧m≤140737488355328∧g.g.length≤140737488355328)
def Wx:Zb5 Bool:=fun i l g m=>(l.drop i.toNat).any (fun f=> !ZR f g.g)
def ZfP:LSum:=fun σ K=>match Wf Xe ZfN σ with
 | some ⟨19,[(8,.p (.v (.int .i64 p1))),(0,.p (.lst p2)),(1,.p (.fn 75 [.lptr p3 0])),(7,.p (.v (.int .i64 p4)))],[],[],[],[]⟩=>alls [p2=(Ze Face.dec p2).map Face.enc,p3=GL.enc (GL.dec p3),JX p1 (Ze Face.dec p2) (GL.dec p3) p4] (bif Wx p1 (Ze Face.dec p2) (GL.dec p3) p4 then K .ret (Zdw p1 (Ze Face.dec p2) (GL.dec p3) p4) else (K (.exit 0) (ZfO p1 (Ze Face.dec p2) (GL.dec p3) p4)))
 | _=>False
abbrev Zb6(R_:Type):=Int→(List Face)→Int→R_
def Zlv:Zb6 St:=fun i l m=>⟨19,[(8,pI i),(0,.p (.lst (l.map Face.enc))),(1,.p (.fn 77 [])),(7,pI m)],[],[],[],[]⟩
def ZfQ:KpH:=⟨⟨[8,0,1,7],[],[]⟩,[]⟩
def Zrd:KpH:=⟨⟨[],[],[]⟩,[]⟩
def Zre:KpH:=⟨⟨[4],[],[]⟩,[]⟩
def ZfR:Zb6 St:=fun i l m=>⟨19,[],[],[],[],[]⟩
def Zdx:Zb6 St:=fun i l m=>⟨19,[(4,.p (.v (.int .i64 (YT (fun f=> !f.stop) (l.drop i.toNat) i))))],[],[],[],[]⟩
def JY:Zb6 Prop:=fun i l m=>(0≤i∧i≤l.length∧m=l.length∧m≤140737488355328)
def Wy:Zb6 Bool:=fun i l m=>(l.drop i.toNat).any (fun f=> !f.stop)
def ZfS:LSum:=fun σ K=>match Wf Xe ZfQ σ with
 | some ⟨19,[(8,.p (.v (.int .i64 p1))),(0,.p (.lst p2)),(1,.p (.fn 77 [])),(7,.p (.v (.int .i64 p3)))],[],[],[],[]⟩=>alls [p2=(Ze Face.dec p2).map Face.enc,JY p1 (Ze Face.dec p2) p3] (bif Wy p1 (Ze Face.dec p2) p3 then K .ret (Zdx p1 (Ze Face.dec p2) p3) else (K (.exit 0) (ZfR p1 (Ze Face.dec p2) p3)))
 | _=>False
abbrev Zb7(R_:Type):=Int→(List Iv)→Int→R_
def Zlw:Zb7 St:=fun i l m=>⟨19,[(8,pI i),(0,.p (.lst (l.map Iv.enc))),(1,.p (.fn 125 [])),(7,pI m)],[],[],[],[]⟩
def ZfT:KpH:=⟨⟨[8,0,1,7],[],[]⟩,[]⟩
def Zrf:KpH:=⟨⟨[],[],[]⟩,[]⟩
def Zrg:KpH:=⟨⟨[4],[],[]⟩,[]⟩
def ZfU:Zb7 St:=fun i l m=>⟨19,[],[],[],[],[]⟩
def Zdy:Zb7 St:=fun i l m=>⟨19,[(4,.p (.v (.int .i64 (YT (fun f=>f.no) (l.drop i.toNat) i))))],[],[],[],[]⟩
def JZ:Zb7 Prop:=fun i l m=>(0≤i∧i≤l.length∧m=l.length∧m≤140737488355328)
def Wz:Zb7 Bool:=fun i l m=>(l.drop i.toNat).any (fun f=>f.no)
def ZfV:LSum:=fun σ K=>match Wf Xe ZfT σ with
 | some ⟨19,[(8,.p (.v (.int .i64 p1))),(0,.p (.lst p2)),(1,.p (.fn 125 [])),(7,.p (.v (.int .i64 p3)))],[],[],[],[]⟩=>alls [p2=(Ze Iv.dec p2).map Iv.enc,JZ p1 (Ze Iv.dec p2) p3] (bif Wz p1 (Ze Iv.dec p2) p3 then K .ret (Zdy p1 (Ze Iv.dec p2) p3) else (K (.exit 0) (ZfU p1 (Ze Iv.dec p2) p3)))
 | _=>False
abbrev J9(R_:Type):=Int→(List Face)→Int→(List Glass)→SysM→Iv→Iv→Iv→SysM→R_
def Zhd:J9 St:=fun i fs m g s pos ix w z=>⟨75,[(34,pI i),(32,.p (.lst (fs.map Face.enc))),(33,pI m),(9,.ptr 9 0),(10,.ptr 10 0),(8,.ptr 8 0),(5,.ptr 5 0),(6,.ptr 6 0),(1,.p (.lst (g.map Glass.enc)))],[(8,SysM.enc s),(10,Iv.enc pos),(9,Iv.enc ix),(5,Iv.enc w),(6,SysM.enc z)],[],[(.b 8 0,75),(.b 6 0,75)],[]⟩
def Zhe:KpH:=⟨⟨[34,32,33,9,10,8,5,6,1],[8,10,9,5,6],[.b 8 0,.b 6 0]⟩,[(.b 8 0,75),(.b 6 0,75)]⟩
def ZmK:KpH:=⟨⟨[6,8],[6,8],[]⟩,[]⟩
def ZmL:KpH:=⟨⟨[6,7],[6],[]⟩,[]⟩
def ZaW:J9 St:=fun i fs m g s pos ix w z=>⟨75,[(6,.ptr 6 0),(8,.ptr 8 0)],[(6,SysM.enc z),(8,SysM.enc (⟨s.surfs++pGo g w (fs.drop i.toNat) pos ix,s.op⟩))],[],[],[]⟩
def Zhf:J9 St:=fun i fs m g s pos ix w z=>⟨75,[(6,.ptr 6 0),(7,.p (.v (.int .i64 (6))))],[(6,[.nil,.v (.int .i64 0),.v (.int .i64 0),.v (.bool false)])],[],[],[]⟩
def JA:J9 Prop:=fun i fs m g s pos ix w z=>(0≤i∧i≤fs.length∧m=fs.length∧fs.length≤12∧g.length≤140737488355328∧(s.surfs.length:Int)=i)
def XV:J9 Bool:=fun i fs m g s pos ix w z=>(pGo g w (fs.drop i.toNat) pos ix).any XI
def Zhg:LSum:=LSg Xe 75 (fT 34 cI<|fT 32 (cL Face.enc Face.dec)<|fT 33 cI<|fP 9 9 0<|fP 10 10 0<|fP 8 8 0<|fP 5 5 0<|fP 6 6 0<|fT 1 (cL Glass.enc Glass.dec)<|fB 8 SysM.enc SysM.dec<|fb 10 Iv.enc gIv Zby<|fb 9 Iv.enc gIv Zby<|fb 5 Iv.enc gIv Zby<|fB 6 SysM.enc SysM.dec<|fZ) [] [(.b 8 0,75),(.b 6 0,75)] Zhe (V9 JA) fun y K=>bif V9 XV y then K .ret (V9 Zhf y) else K (.exit 0) (V9 ZaW y)
abbrev Ze6(R_:Type):=Int→(List Surf)→Int→SysM→Iv→Iv→Iv→Card→R_
def Zrh:Ze6 St:=fun i ss m s y u one z=>⟨78,[(16,pI i),(14,.p (.lst (ss.map Surf.enc))),(15,pI m),(1,.ptr 1 0),(4,.ptr 4 0),(5,.ptr 5 0),(3,.ptr 3 0),(2,.ptr 2 0)],[(1,SysM.enc s),(4,Iv.enc y),(5,Iv.enc u),(3,Iv.enc one),(2,Card.enc z)],[],[],[]⟩
def ZiO:KpH:=⟨⟨[16,14,15,1,4,5,3,2],[1,4,5,3,2],[]⟩,[]⟩
def ZoS:KpH:=⟨⟨[2,1,5,4,3],[2,1,5,4,3],[]⟩,[]⟩
abbrev ZoT:KpH:=kr0
def Za6:Ze6 St:=fun i ss m s y u one z=>⟨78,[(2,.ptr 2 0),(1,.ptr 1 0),(5,.ptr 5 0),(4,.ptr 4 0),(3,.ptr 3 0)],[(2,Card.enc z),(1,SysM.enc s),(5,[.v (.int .i64 (((ZaK (s.surfs.drop i.toNat) y u).2).lo)),.v (.int .i64 (((ZaK (s.surfs.drop i.toNat) y u).2).hi)),.v (.bool (((ZaK (s.surfs.drop i.toNat) y u).2).no))]),(4,[.v (.int .i64 (((ZaK (s.surfs.drop i.toNat) y u).1).lo)),.v (.int .i64 (((ZaK (s.surfs.drop i.toNat) y u).1).hi)),.v (.bool (((ZaK (s.surfs.drop i.toNat) y u).1).no))]),(3,[.v (.int .i64 one.lo),.v (.int .i64 one.hi),.v (.bool one.no)])],[],[],[]⟩
def W0:Ze6 Prop:=fun i ss m s y u one z=>(0≤i∧i≤s.surfs.length∧s.surfs.length≤1000∧one=point 65536∧m=s.surfs.length∧ss=s.surfs)
def ZiP:LSum:=LSg Xe 78 (fT 16 cI<|fT 14 (cL Surf.enc Surf.dec)<|fT 15 cI<|fP 1 1 0<|fP 4 4 0<|fP 5 5 0<|fP 3 3 0<|fP 2 2 0<|fB 1 SysM.enc SysM.dec<|fb 4 Iv.enc gIv Zby<|fb 5 Iv.enc gIv Zby<|fb 3 Iv.enc gIv Zby<|fB 2 Card.enc Card.dec<|fZ) [] [] ZiO (V8 W0) fun y K=>K (.exit 0) (V8 Za6 y)
abbrev Za7(R_:Type):=Int→(List Iv)→(List Glass)→(List Iv)→Int→LensM→R_
def ZiQ:Za7 St:=fun i out g ws m l=>⟨37,[(15,pI i),(8,.p (.lst (out.map Iv.enc))),(1,.p (.lst (g.map Glass.enc))),(3,.ptr 3 0),(13,.p (.lst (ws.map Iv.enc))),(14,pI m)],[(3,LensM.enc l)],[],[(.t 8,48)],[]⟩
def ZiR:KpH:=⟨⟨[15,8,1,3,13,14],[3],[.t 8]⟩,[(.t 8,48)]⟩
def ZoU:KpH:=⟨⟨[8],[],[]⟩,[]⟩
def ZoV:KpH:=⟨⟨[6,7],[],[]⟩,[]⟩
def Zcf:Za7 St:=fun i out g ws m l=>⟨37,[(8,.p (.lst ((out++(ws.drop i.toNat).map (X7 (fun w=>Zy l g w))).map Iv.enc)))],[],[],[],[]⟩
def Zcg:Za7 St:=fun i out g ws m l=>⟨37,[(6,.p .nil),(7,.p (.v (.int .i64 (X6 (fun w=>Zy l g w) (ws.drop i.toNat)))))],[],[],[],[]⟩
def Za8:Za7 Prop:=fun i out g ws m l=>(0≤i∧i≤ws.length∧m=ws.length∧ws.length≤1000000∧g.length≤140737488355328∧l.faces.length≤140737488355328∧(out.length:Int)=i)
def W1:Za7 Bool:=fun i out g ws m l=>(!(X6 (fun w=>Zy l g w) (ws.drop i.toNat)==0))
def ZiS:LSum:=LSg Xe 37 (fT 15 cI<|fT 8 (cL Iv.enc Iv.dec)<|fT 1 (cL Glass.enc Glass.dec)<|fP 3 3 0<|fT 13 (cL Iv.enc Iv.dec)<|fT 14 cI<|fB 3 LensM.enc LensM.dec<|fZ) [] [(.t 8,48)] ZiR (V6 Za8) fun y K=>bif V6 W1 y then K .ret (V6 Zcg y) else K (.exit 0) (V6 Zcf y)
abbrev W2(R_:Type):=Int→(List Iv)→(List Iv)→(List Glass)→(List I)→LensM→R_
def Ze7:W2 St:=fun i want w g order xl=>⟨137,[(11,pI i),(10,.p (.lst (want.map Iv.enc))),(9,.p (.lst (w.map Iv.enc))),(7,.p (.lst (g.map Glass.enc))),(8,.ptr 8 0),(2,.p (.lst (order.map I.enc)))],[(8,LensM.enc xl)],[],[(.t 10,48),(.t 9,48)],[]⟩
def Ze8:KpH:=⟨⟨[11,10,9,7,8,2],[8],[.t 10,.t 9]⟩,[(.t 10,48),(.t 9,48)]⟩
def Zjh:KpH:=⟨⟨[10,7,8,9],[8],[]⟩,[]⟩
def Zji:KpH:=⟨⟨[6],[],[]⟩,[]⟩
def JB:W2 St:=fun i want w g order xl=>⟨137,[(10,.p (.lst ((want++(Xn (8 - i).toNat order i).map (X7 (fun v=>Zy xl g v))).map Iv.enc))),(7,.p (.lst (g.map Glass.enc))),(8,.ptr 8 0),(9,.p (.lst ((w++Xn (8 - i).toNat order i).map Iv.enc)))],[(8,LensM.enc xl)],[],[],[]⟩
def JC:W2 St:=fun i want w g order xl=>⟨137,[(6,.p (.v (.bool true)))],[],[],[],[]⟩
def XP:W2 Prop:=fun i want w g order xl=>(0≤i∧i≤8∧order.length≤140737488355328∧g.length≤1000∧xl.faces.length≤1000∧(want.length:Int)≤i∧(w.length:Int)≤i)
def Xx:W2 Bool:=fun i want w g order xl=>(!(X6 (fun v=>Zy xl g v) (Xn (8 - i).toNat order i)==0))
def Ze9:LSum:=LSg Xe 137 (fT 11 cI<|fT 10 (cL Iv.enc Iv.dec)<|fT 9 (cL Iv.enc Iv.dec)<|fT 7 (cL Glass.enc Glass.dec)<|fP 8 8 0<|fT 2 (cL I.enc I.dec)<|fB 8 LensM.enc LensM.dec<|fZ) [] [(.t 10,48),(.t 9,48)] Ze8 (V6 XP) fun y K=>bif V6 Xx y then K .ret (V6 JC y) else K (.exit 0) (V6 JB y)
abbrev ZaL(R_:Type):=Int→(List Iv)→(List Iv)→(List Glass)→Int→LensM→R_
def Zjj:ZaL St:=fun i b a g m xl=>⟨137,[(86,pI i),(10,.p (.lst (b.map Iv.enc))),(15,.p (.lst (a.map Iv.enc))),(7,.p (.lst (g.map Glass.enc))),(8,.ptr 8 0),(85,pI m)],[(8,LensM.enc xl)],[],[],[]⟩
def Zd9:KpH:=⟨⟨[86,10,15,7,8,85],[8],[]⟩,[]⟩
def Zil:KpH:=⟨⟨[7,8],[8],[]⟩,[]⟩
abbrev Zim:KpH:=kr0
def ZdA:ZaL St:=fun i b a g m xl=>⟨137,[(7,.p (.lst (g.map Glass.enc))),(8,.ptr 8 0)],[(8,LensM.enc xl)],[],[],[]⟩
def XF:ZaL Prop:=fun i b a g m xl=>(0≤i∧i≤a.length∧m=a.length∧a.length≤1000000∧b=a)
def ZdB:LSum:=LSg Xe 137 (fT 86 cI<|fT 10 (cL Iv.enc Iv.dec)<|fT 15 (cL Iv.enc Iv.dec)<|fT 7 (cL Glass.enc Glass.dec)<|fP 8 8 0<|fT 85 cI<|fB 8 LensM.enc LensM.dec<|fZ) [] [] Zd9 (V6 XF) fun y K=>K (.exit 2) (V6 ZdA y)
theorem Zfe:Zk Tryz.prog 86 e86:=Zm<|Zh fun n=>EZ0<|by
 refine cf0 Zf (fn:=Tryz.f86) rfl ?_
 refine sxT (fun Q=>(bif decide (n≥(-1073741824:Int)) then Q (vB (decide (n≤(1073741824:Int)))) else Q (vB false))) (fun _=>by kernel_rfl) ?_
 delta Qn vB
 refine Zc (fun h0=>?_) (fun h0=>?_)
 all_goals (try simp only[Qi_,Qf_,bne] at *)
 all_goals (simp only[inB,Z1,Zv,List.foldl,Qr_,Qp_,Ql_,Qn_,Q5_,Q4_,Qw_,Q3_,Qu_,Qt_,Qb_,Qd_,QD_,Q8_, *];first | rfl | (simp only[nz,nzA,nz1,QE_,QN_,Iv.enc,V.enc,Ray.enc, *];first | done | rfl))
theorem Zri(a:Iv):Con Tryz.prog 40 [.agg (Iv.enc a)] (.v (.bool (right a))):=by
 refine cf0 (Zb Zfe<|Zf) (fn:=Tryz.f40) rfl ?_
 refine sxT (fun Q=>(bif !a.no then (bif inB a.lo then (bif inB a.hi then Q (vB (decide (a.lo≤a.hi))) else Q (vB false)) else Q (vB false)) else Q (vB false))) (fun _=>by kernel_rfl) ?_
 delta Qn vB
 refine Zc (fun h0=>Zc (fun h1=>Zc (fun h2=>?_) (fun h2=>?_)) (fun h1=>?_)) (fun h0=>?_)
 all_goals (try simp only[Qi_,Qf_,bne] at *)
 all_goals (simp only[right,Z1,Zv,List.foldl,Qr_,Qp_,Ql_,Qn_,Q5_,Q4_,Qw_,Q3_,Qu_,Qt_,Qb_,Qd_,QD_,Q8_, *];first | rfl | (simp only[nz,nzA,nz1,QE_,QN_,Iv.enc,V.enc,Ray.enc, *];first | done | rfl))
theorem Zch:Zk Tryz.prog 40 e40:=Zm<|Zh fun a=>EZ0<|Zri a
theorem ZsD:Con Tryz.prog 65 [] (.agg (Iv.enc none')):=by
 refine cf0 Zf (fn:=Tryz.f65) rfl ?_
 refine sxT (fun Q=>Q (PV.agg [vI 0,vI 0,vB true])) (fun _=>by kernel_rfl) ?_
 delta Qn vI vB
 refine ?_
 all_goals (try simp only[Qi_,Qf_,bne] at *)
 all_goals rfl
theorem WY:Zk Tryz.prog 65 e65:=Zm<|EZ0<|ZsD
theorem ZaX:Zk Tryz.prog 84 e84:=Zm<|Zh fun lo=>Zh fun hi=>EZ0<|by
 refine cf0 (Zb Zch<|Zb WY<|Zf) (fn:=Tryz.f84) rfl ?_
 refine sxT (fun Q=>(bif !right (Iv.mk lo hi false) then Q (PV.agg [vI 0,vI 0,vB true]) else Q (PV.agg [vI lo,vI hi,vB false]))) (fun _=>by kernel_rfl) ?_
 delta Qn vI vB
 refine Zc (fun h0=>?_) (fun h0=>?_)
 all_goals (try simp only[Qi_,Qf_,bne] at *)
 all_goals (simp only[of,Z1,Zv,List.foldl,Qr_,Qp_,Ql_,Qn_,Q5_,Q4_,Qw_,Q3_,Qu_,Qt_,Qb_,Qd_,QD_,Q8_, *];first | rfl | (simp only[nz,nzA,nz1,QE_,QN_,Iv.enc,V.enc,Ray.enc, *];first | done | rfl))
theorem Zhh:Zk Tryz.prog 60 e60:=Zm<|Zh fun n=>EZ0<|by
 refine cf0 (Zb ZaX<|Zf) (fn:=Tryz.f60) rfl ?_
 refine sxT (fun Q=>Q (PV.agg (eIv (of n n)))) (fun _=>by kernel_rfl) ?_
 delta Qn eIv vI vB
 refine ?_
 all_goals (try simp only[Qi_,Qf_,bne] at *)
 all_goals rfl
theorem Zrj:Zk Tryz.prog 117 Zws:=Zm<|Zh fun a=>Zh fun b=>EZ1 fun hp0=>by
 refine cf0 Zf (fn:=Tryz.f117) rfl ?_
 refine sxT (fun Q=>(bif b==(0:Int) then Q (vI 0) else ((b≠(0:Int))∧((b≠(0:Int))∧(bif a.tmod b !=(0:Int) then (bif !decide (a < (0:Int))==decide (b < (0:Int)) then Q (vI (IntKind.i64.wrap (IntKind.i64.wrap (a.tdiv b) - (1:Int)))) else Q (vI (IntKind.i64.wrap (a.tdiv b)))) else Q (vI (IntKind.i64.wrap (a.tdiv b)))))))) (fun _=>by kernel_rfl) ?_
 delta Qn vI
 refine Zc (fun h0=>?_) (fun h0=>⟨?r1,⟨?r0,Zc (fun h1=>Zc (fun h2=>?_) (fun h2=>?_)) (fun h1=>?_)⟩⟩)
 case r0|r1=>first | rfl | (simp only[Xl,dI,dIv];omega) | (simp[Ze,chunk];done) | (simp only[Xl,dI,dIv];done) | (exact Zu (fun _=>rfl) (by omega) (by omega)) | (simp only[Qc_,Qk_] at *;exact Zu (fun _=>rfl) (by omega) (by omega)) | assumption | trivial | (simp_all;done) | omega
 ·simp_all[nz,nzA,floor]
 ·have hw:IntKind.i64.wrap (a.tdiv b)=a.tdiv b:=Zg (by have:=Zdi (b:=b) hp0;constructor<;>omega)
  have hb:b≠0:=by simpa using h0
  have e:=Zun hb (by simpa using h1) (by simpa using h2)
  have hf:=ZfD (b:=b) hp0
  rw[hw,e,Zg (by constructor<;>omega)];rfl
 ·have hw:IntKind.i64.wrap (a.tdiv b)=a.tdiv b:=Zg (by have:=Zdi (b:=b) hp0;constructor<;>omega)
  have hb:b≠0:=by simpa using h0
  have e:=Znz hb (.inr (by simpa using h2))
  rw[hw,e];rfl
 ·have hw:IntKind.i64.wrap (a.tdiv b)=a.tdiv b:=Zg (by have:=Zdi (b:=b) hp0;constructor<;>omega)
  have hb:b≠0:=by simpa using h0
  have e:=Znz hb (.inl (by simpa using h1))
  rw[hw,e];rfl
theorem ZoW:Zk Tryz.prog 85 e85:=Zm<|Zh fun a=>Zh fun b=>EZ0<|by
 refine cf0 (Zb Zch<|Zf) (fn:=Tryz.f85) rfl ?_
 refine sxT (fun Q=>(bif right a then Q (vB (right b)) else Q (vB false))) (fun _=>by kernel_rfl) ?_
 delta Qn vB
 refine Zc (fun h0=>?_) (fun h0=>?_)
 all_goals (try simp only[Qi_,Qf_,bne] at *)
 all_goals (simp only[both,Z1,Zv,List.foldl,Qr_,Qp_,Ql_,Qn_,Q5_,Q4_,Qw_,Q3_,Qu_,Qt_,Qb_,Qd_,QD_,Q8_, *];first | rfl | (simp only[nz,nzA,nz1,QE_,QN_,Iv.enc,V.enc,Ray.enc, *];first | done | rfl))
theorem Zt1:Zk Tryz.prog 67 e67:=Zm<|Zh fun a=>EZ0<|by
 refine cf0 (Zb Zch<|Zb WY<|Zb ZaX<|Zf) (fn:=Tryz.f67) rfl ?_
 refine sxT (fun Q=>(bif !right a then Q (PV.agg [vI 0,vI 0,vB true]) else Q (PV.agg (eIv (of (IntKind.i64.wrap ((0:Int) - a.hi)) (IntKind.i64.wrap ((0:Int) - a.lo))))))) (fun _=>by kernel_rfl) ?_
 delta Qn eIv vI vB
 refine Zc (fun h0=>?_) (fun h0=>?_)
 ·simp_all[nz,nzA,nz1,neg,none',Iv.enc]
 ·simp only[Qf_] at h0
  have ha:=Zbt h0
  rw[Zg (by constructor<;>omega),Zg (by constructor<;>omega)]
  simp[nz,nzA,nz1,neg,h0,Iv.enc]
theorem Zuw(a:Iv)(b:Iv):Con Tryz.prog 37 [.agg (Iv.enc a),.agg (Iv.enc b)] (.agg (Iv.enc (add a b))):=by
 refine cf0 (Zb ZoW<|Zb WY<|Zb ZaX<|Zf) (fn:=Tryz.f37) rfl ?_
 refine sxT (fun Q=>(bif !both a b then Q (PV.agg [vI 0,vI 0,vB true]) else Q (PV.agg (eIv (of (IntKind.i64.wrap (a.lo+b.lo)) (IntKind.i64.wrap (a.hi+b.hi))))))) (fun _=>by kernel_rfl) ?_
 delta Qn eIv vI vB
 refine Zc (fun h0=>?_) (fun h0=>?_)
 ·simp_all[nz,nzA,nz1,add,none',Iv.enc]
 ·simp only[Qf_] at h0
  have hb:=Bool.and_eq_true_iff.1 (show (right a&&right b)=true from h0)
  have ha:=Zbt hb.1
  have hb:=Zbt hb.2
  rw[Zg (by constructor<;>omega),Zg (by constructor<;>omega)]
  simp[nz,nzA,nz1,add,h0,Iv.enc]
theorem Zhi:Zk Tryz.prog 37 e37:=Zm<|Zh fun a=>Zh fun b=>EZ0<|Zuw a b
theorem Zj2:Zk Tryz.prog 27 e27:=Zm<|Zh fun a=>Zh fun b=>EZ0<|by
 refine cf0 (Zb Zt1<|Zb Zhi<|Zf) (fn:=Tryz.f27) rfl ?_
 refine sxT (fun Q=>Q (PV.agg (eIv (add a (neg b))))) (fun _=>by kernel_rfl) ?_
 delta Qn eIv vI vB
 refine ?_
 all_goals (try simp only[Qi_,Qf_,bne] at *)
 all_goals rfl
theorem Zvm:Zk Tryz.prog 121 Zwt:=Zm<|Zh fun a=>Zh fun n=>EZ0<|by
 refine cf0 (Zb Zch<|Zf) (fn:=Tryz.f121) rfl ?_
 refine sxT (fun Q=>(bif right a then (bif decide (a.lo≤n) then Q (vB (decide (n≤a.hi))) else Q (vB false)) else Q (vB false))) (fun _=>by kernel_rfl) ?_
 delta Qn vB
 refine Zc (fun h0=>Zc (fun h1=>?_) (fun h1=>?_)) (fun h0=>?_)
 all_goals (try simp only[Qi_,Qf_,bne] at *)
 all_goals (simp only[has,Z1,Zv,List.foldl,Qr_,Qp_,Ql_,Qn_,Q5_,Q4_,Qw_,Q3_,Qu_,Qt_,Qb_,Qd_,QD_,Q8_, *];first | rfl | (simp only[nz,nzA,nz1,QE_,QN_,Iv.enc,V.enc,Ray.enc, *];first | done | rfl))
theorem Zrk:Zk Tryz.prog 157 Zwu:=Zm<|Zh fun a=>Zh fun b=>Zh fun up=>EZ2 fun hp0 hp1=>by
 refine cf0 (Zb Zrj<|Zb Zfe<|Zf) (fn:=Tryz.f157) rfl ?_
 refine sxT (fun Q=>(((-4611686018427387904:Int)≤a∧a≤(4611686018427387904:Int))∧(bif up then ((b≠(0:Int))∧(bif a.tmod b !=(0:Int) then (bif !inB (IntKind.i64.wrap (floor a b+(1:Int))) then Q (PV.tup [vI 0,vB false]) else Q (PV.tup [vI (IntKind.i64.wrap (floor a b+(1:Int))),vB true])) else (bif !inB (floor a b) then Q (PV.tup [vI 0,vB false]) else Q (PV.tup [vI (floor a b),vB true])))) else (bif !inB (floor a b) then Q (PV.tup [vI 0,vB false]) else Q (PV.tup [vI (floor a b),vB true]))))) (fun _=>by kernel_rfl) ?_
 delta Qn vI vB
 refine ⟨?r1,Zc (fun h0=>⟨?r0,Zc (fun h1=>Zc (fun h2=>?_) (fun h2=>?_)) (fun h1=>Zc (fun h2=>?_) (fun h2=>?_))⟩) (fun h0=>Zc (fun h1=>?_) (fun h1=>?_))⟩
 case r0|r1=>first | rfl | (simp only[Xl,dI,dIv];omega) | (simp[Ze,chunk];done) | (simp only[Xl,dI,dIv];done) | (exact Zu (fun _=>rfl) (by omega) (by omega)) | (simp only[Qc_,Qk_] at *;exact Zu (fun _=>rfl) (by omega) (by omega)) | assumption | trivial | (simp_all;done) | omega
 all_goals have hf:=ZfD (b:=b) hp0
 all_goals try have hm:a % b≠0:=by rw[bne_iff_ne,Ne,ZiA] at h1;exact h1
 all_goals try have hm:a % b=0:=by rw[bne_eq_false_iff_eq,ZiA] at h1;exact h1
 all_goals try rw[Zg (show Fit (floor a b+1) by unfold floor;constructor<;>omega)] at *
 all_goals simp_all[nz,nzA,rounded,up1,floor]
theorem Zlx:Zk Tryz.prog 126 Zwv:=Zm<|Zh fun a=>Zh fun b=>Zh fun up=>EZ0<|by
 refine cf0 (Zb Zfe<|Zb Zrk<|Zf) (fn:=Tryz.f126) rfl ?_
 refine sxT (fun Q=>(bif !inB a then Q (PV.tup [vI 0,vB false]) else (bif !inB b then Q (PV.tup [vI 0,vB false]) else (((-4611686018427387904:Int)≤IntKind.i64.wrap (a *b)∧IntKind.i64.wrap (a *b)≤(4611686018427387904:Int))∧(((65536:Int)≠(0:Int))∧Q (PV.tup [vI (rounded (IntKind.i64.wrap (a *b)) (65536:Int) up).fst,vB (rounded (IntKind.i64.wrap (a *b)) (65536:Int) up).snd])))))) (fun _=>by kernel_rfl) ?_
 delta Qn vI vB
 refine Zc (fun h0=>?_) (fun h0=>Zc (fun h1=>?_) (fun h1=>⟨?_,⟨?_, ?_⟩⟩))
 ·simp_all[nz,nzA,mul]
 ·simp_all[nz,nzA,mul]
 all_goals simp only[Qf_] at h0 h1
 all_goals have hw:IntKind.i64.wrap (a *b)=a *b:=Zg (by have:=ZeY h0 h1;constructor<;>omega)
 ·rw[hw];have:=ZeY h0 h1;omega
 ·simp
 ·simp[nz,nzA,mul,hw,h0,h1]
theorem Zrl:Zk Tryz.prog 123 Zww:=Zm<|Zh fun a=>Zh fun b=>Zh fun up=>EZ0<|by
 refine cf0 (Zb Zfe<|Zb Zrk<|Zf) (fn:=Tryz.f123) rfl ?_
 refine sxT (fun Q=>(bif !inB a then Q (PV.tup [vI 0,vB false]) else (bif !inB b then Q (PV.tup [vI 0,vB false]) else (bif b==(0:Int) then Q (PV.tup [vI 0,vB false]) else (((-4611686018427387904:Int)≤IntKind.i64.wrap (a * (65536:Int))∧IntKind.i64.wrap (a * (65536:Int))≤(4611686018427387904:Int))∧((b≠(0:Int))∧Q (PV.tup [vI (rounded (IntKind.i64.wrap (a * (65536:Int))) b up).fst,vB (rounded (IntKind.i64.wrap (a * (65536:Int))) b up).snd]))))))) (fun _=>by kernel_rfl) ?_
 delta Qn vI vB
 refine Zc (fun h0=>?_) (fun h0=>Zc (fun h1=>?_) (fun h1=>Zc (fun h2=>?_) (fun h2=>⟨?_,⟨?_, ?_⟩⟩)))
 ·simp_all[nz,nzA,div]
 ·simp_all[nz,nzA,div]
 ·simp_all[nz,nzA,div]
 all_goals simp only[Qf_] at h0 h1
 all_goals have ha:=Yb.1 h0
 all_goals have hw:IntKind.i64.wrap (a *65536)=a *65536:=Zg (by constructor<;>omega)
 ·rw[hw];omega
 ·simpa using h2
 ·simp_all[nz,nzA,div]
def ZsE(a:Iv)(b:Iv):=of (List.foldl imin (of (mul a.lo b.lo false).fst (mul a.lo b.lo true).fst).lo [(mul a.lo b.lo false).fst]) (List.foldl imax (of (mul a.lo b.lo false).fst (mul a.lo b.lo true).fst).hi [(mul a.lo b.lo true).fst])
def ZsF(a:Iv)(b:Iv):=of (List.foldl imin (ZsE a b).lo [(mul a.lo b.hi false).fst]) (List.foldl imax (ZsE a b).hi [(mul a.lo b.hi true).fst])
def Zdz:=PV.agg [vI 0,vI 0,vB true]
def ZsG(a:Iv)(b:Iv):=of (List.foldl imin (ZsF a b).lo [(mul a.hi b.lo false).fst]) (List.foldl imax (ZsF a b).hi [(mul a.hi b.lo true).fst])
theorem Zrm(a:Iv)(b:Iv):Con Tryz.prog 122 [.fn 126 [],.agg (Iv.enc a),.agg (Iv.enc b)] (.agg (Iv.enc (ends mul a b))):=by
 refine cf0 (Zb WY<|Zb ZaX<|Zb Zlx<|Zf) (fn:=Tryz.f122) rfl ?_
 refine sxT (fun Q=>(bif !(mul a.lo b.lo false).snd then Q Zdz else (bif !(mul a.lo b.lo true).snd then Q Zdz else (bif !(mul a.lo b.hi false).snd then Q Zdz else (bif !(mul a.lo b.hi true).snd then Q Zdz else (bif !(mul a.hi b.lo false).snd then Q Zdz else (bif !(mul a.hi b.lo true).snd then Q Zdz else (bif !(mul a.hi b.hi false).snd then Q Zdz else (bif !(mul a.hi b.hi true).snd then Q Zdz else Q (PV.agg (eIv (of (List.foldl imin (ZsG a b).lo [(mul a.hi b.hi false).fst]) (List.foldl imax (ZsG a b).hi [(mul a.hi b.hi true).fst]))))))))))))) (fun _=>by kernel_rfl) ?_
 delta Qn ZsF ZsE Zdz ZsG eIv vI vB
 refine Zc (fun h0=>?_) (fun h0=>Zc (fun h1=>?_) (fun h1=>Zc (fun h2=>?_) (fun h2=>Zc (fun h3=>?_) (fun h3=>Zc (fun h4=>?_) (fun h4=>Zc (fun h5=>?_) (fun h5=>Zc (fun h6=>?_) (fun h6=>Zc (fun h7=>?_) (fun h7=>?_))))))))
 all_goals simp only[Qi_,Qf_] at *
 all_goals first | exact Kj_ (fun e=>PV.agg (Iv.enc e)) (Zn0 (by simp[*])) | exact Kj_ (fun e=>PV.agg (Iv.enc e)) (ZgT Zsw h0 h1 h2 h3 h4 h5 h6 h7)
theorem Zrn:Zk Tryz.prog 122 Zij:=by
 intro args r ps h hp
 unfold Zij at h
 split at h
 ·rename_i p1 p2 p3 p4 p5 p6
  cases (Qa_ h)
  exact Zrm (⟨p1,p2,p3⟩:Iv) (⟨p4,p5,p6⟩:Iv)
 ·exact absurd h (by simp)
def ZsH(a:Iv)(b:Iv):=of (List.foldl imin (of (div a.lo b.lo false).fst (div a.lo b.lo true).fst).lo [(div a.lo b.lo false).fst]) (List.foldl imax (of (div a.lo b.lo false).fst (div a.lo b.lo true).fst).hi [(div a.lo b.lo true).fst])
def ZsI(a:Iv)(b:Iv):=of (List.foldl imin (ZsH a b).lo [(div a.lo b.hi false).fst]) (List.foldl imax (ZsH a b).hi [(div a.lo b.hi true).fst])
def Zd0:=PV.agg [vI 0,vI 0,vB true]
def ZsJ(a:Iv)(b:Iv):=of (List.foldl imin (ZsI a b).lo [(div a.hi b.lo false).fst]) (List.foldl imax (ZsI a b).hi [(div a.hi b.lo true).fst])
theorem Zro(a:Iv)(b:Iv):Con Tryz.prog 122 [.fn 123 [],.agg (Iv.enc a),.agg (Iv.enc b)] (.agg (Iv.enc (ends div a b))):=by
 refine cf0 (Zb WY<|Zb ZaX<|Zb Zrl<|Zf) (fn:=Tryz.f122) rfl ?_
 refine sxT (fun Q=>(bif !(div a.lo b.lo false).snd then Q Zd0 else (bif !(div a.lo b.lo true).snd then Q Zd0 else (bif !(div a.lo b.hi false).snd then Q Zd0 else (bif !(div a.lo b.hi true).snd then Q Zd0 else (bif !(div a.hi b.lo false).snd then Q Zd0 else (bif !(div a.hi b.lo true).snd then Q Zd0 else (bif !(div a.hi b.hi false).snd then Q Zd0 else (bif !(div a.hi b.hi true).snd then Q Zd0 else Q (PV.agg (eIv (of (List.foldl imin (ZsJ a b).lo [(div a.hi b.hi false).fst]) (List.foldl imax (ZsJ a b).hi [(div a.hi b.hi true).fst]))))))))))))) (fun _=>by kernel_rfl) ?_
 delta Qn ZsI ZsH Zd0 ZsJ eIv vI vB
 refine Zc (fun h0=>?_) (fun h0=>Zc (fun h1=>?_) (fun h1=>Zc (fun h2=>?_) (fun h2=>Zc (fun h3=>?_) (fun h3=>Zc (fun h4=>?_) (fun h4=>Zc (fun h5=>?_) (fun h5=>Zc (fun h6=>?_) (fun h6=>Zc (fun h7=>?_) (fun h7=>?_))))))))
 all_goals simp only[Qi_,Qf_] at *
 all_goals first | exact Kj_ (fun e=>PV.agg (Iv.enc e)) (Zn0 (by simp[*])) | exact Kj_ (fun e=>PV.agg (Iv.enc e)) (ZgT Zsx h0 h1 h2 h3 h4 h5 h6 h7)
theorem Zrp:Zk Tryz.prog 122 Zik:=by
 intro args r ps h hp
 unfold Zik at h
 split at h
 ·rename_i p1 p2 p3 p4 p5 p6
  cases (Qa_ h)
  exact Zro (⟨p1,p2,p3⟩:Iv) (⟨p4,p5,p6⟩:Iv)
 ·exact absurd h (by simp)
theorem Zrq:Zk Tryz.prog 122 Zwx:=Zem Zrn (Zrp)
def Zvn:=Xb [(86,e86)]
def ZoX(bit:Int)(r:Int):=BitVec.ofInt (64:Nat) r||| BitVec.ofInt (64:Nat) (IntKind.i64.wrap ((1:Int)* (2:Int) ^ min bit.toNat (64:Nat)))
theorem ZnB:CSOk Tryz.prog Zvn:=Zb Zfe<|Zf
theorem Zrr:Yq Tryz.prog (ZE Tryz.f182 0) Zlp:=by
 refine lsG Zx.Γ (ZQ Zx ZnB ZZ Ya Yl (LS:=[]) (Y8 (l:=[]) (by kernel_rfl) ZC) (n:=2000) (U4 ZsB) (U4 JW) (fun x e s=>(e= .exit 0∧s=U4 Zb1 x)) (fun x=>(x.1+1).toNat) Zlo ZqU ZqV (fun x hx=>?_)) cv4 (fun _=>rfl) (fun _ h=>h) (fun _ _ _ _ h f=>fE h f)
 ·obtain ⟨bit,n,r,up⟩:=x
  simp only[U4,JW] at hx
  refine sxT (fun Q=>(bif decide (bit≥(0:Int)) then (((0:Int)≤bit)∧(bif decide (IntKind.i64.wrap (IntKind.i64.wrap ↑(ZoX bit r).toNat *IntKind.i64.wrap ↑(ZoX bit r).toNat)≤n) then Q (Ex.normal) (some ⟨44,[(8,AV.p (vI (IntKind.i64.wrap (bit - (1:Int))))),(6,pI n),(7,AV.p (vI (IntKind.i64.wrap ↑(ZoX bit r).toNat))),(1,AV.p (vB up))],[],[],[],[]⟩) else Q (Ex.normal) (some ⟨44,[(8,AV.p (vI (IntKind.i64.wrap (bit - (1:Int))))),(6,pI n),(7,pI r),(1,AV.p (vB up))],[],[],[],[]⟩))) else Q (Ex.exit (0:Nat)) (some ⟨44,[(7,pI r),(6,pI n),(1,AV.p (vB up))],[],[],[],[]⟩))) (fun _=>by kernel_rfl) ?_
  delta ZoX vI vB pI
  refine Zc (fun h0=>⟨?r0,Zc (fun h1=> .inl ⟨rfl,(IntKind.i64.wrap (bit - (1:Int)),n,IntKind.i64.wrap ↑(BitVec.ofInt (64:Nat) r||| BitVec.ofInt (64:Nat) (IntKind.i64.wrap ((1:Int)* (2:Int) ^ min bit.toNat (64:Nat)))).toNat,up),rfl, ?_, ?_, ?_⟩) (fun h1=> .inl ⟨rfl,(IntKind.i64.wrap (bit - (1:Int)),n,r,up),rfl, ?_, ?_, ?_⟩)⟩) (fun h0=> .inr ⟨by simp,_,rfl, ?_⟩)
  case r0=>first | rfl | (simp only[Xl,dI,dIv];omega) | (simp[Ze,chunk];done) | (simp only[Xl,dI,dIv];done) | (exact Zu (fun _=>rfl) (by omega) (by omega)) | (simp only[Qc_,Qk_] at *;exact Zu (fun _=>rfl) (by omega) (by omega)) | assumption | trivial | (simp_all;done) | omega
  all_goals try dsimp only[U4]
  all_goals obtain ⟨a1,a2,a3,a4⟩:=hx
  all_goals simp only[Qc_,Qe_] at h0
  ·have hm:=Zib h0 a1.2 a3 a4
   obtain ⟨k1,k2,k3,k4,k5,k6⟩:=ZaS h0 a3
   simp only[hm,Zg k5,Qc_] at h1
   simp only[U4,hm,Zg (show Fit (bit - 1) by constructor<;>omega),JW,k1]
   exact ⟨by omega,a2,by omega,Int.dvd_add (Int.dvd_trans ⟨2,by rw[k4];omega⟩ a4) (Int.dvd_refl _)⟩
  ·simp only[Zg (show Fit (bit - 1) by constructor<;>omega)];omega
  ·have hm:=Zib h0 a1.2 a3 a4
   obtain ⟨k1,k2,k3,k4,k5,k6⟩:=ZaS h0 a3
   simp only[hm,Zg k5,Qc_] at h1
   simp only[U4,hm,Zg (show Fit (bit - 1) by constructor<;>omega),Zb1,k1,k2]
   intro e s h
   unfold Y6
   rw[if_pos h1]
   exact h
  ·obtain ⟨k1,k2,k3,k4,k5,k6⟩:=ZaS h0 a3
   simp only[U4,Zg (show Fit (bit - 1) by constructor<;>omega),JW,k1]
   exact ⟨by omega,a2,by omega,Int.dvd_trans ⟨2,by rw[k4];omega⟩ a4⟩
  ·simp only[Zg (show Fit (bit - 1) by constructor<;>omega)];omega
  ·have hm:=Zib h0 a1.2 a3 a4
   obtain ⟨k1,k2,k3,k4,k5,k6⟩:=ZaS h0 a3
   simp only[hm,Zg k5,Qe_] at h1
   simp only[U4,Zg (show Fit (bit - 1) by constructor<;>omega),Zb1,k1,k2]
   intro e s h
   unfold Y6
   rw[if_neg h1]
   exact h
  ·have:(bit+1).toNat=0:=by omega
   exact ⟨rfl,by simp only[U4,Zb1];rw[this];rfl⟩
theorem ZsK:Yd Tryz.prog [(6,Zlp)] Tryz.f182:=Yh (l:=[ZE Tryz.f182 0]) (by kernel_rfl) (Yr (i:=6) (by kernel_rfl) rfl Zrr (ZC))
def ZfW(a:Int):=IntKind.i64.wrap (a * (65536:Int))
theorem Zvo:Zk Tryz.prog 182 Zwy:=Zm<|Zh fun a=>Zh fun up=>EZ0<|by
 refine cfL ZnB ZsK rfl ?_
 refine sxT (fun Q=>(bif decide (a < (0:Int)) then Q (PV.tup [vI 0,vB false]) else (bif !inB a then Q (PV.tup [vI 0,vB false]) else ((JW (24:Int) (ZfW a) (0:Int) up)∧(bif up then (bif decide (IntKind.i64.wrap (Y6 (25:Nat) (ZfW a) (0:Int)*Y6 (25:Nat) (ZfW a) (0:Int)) < IntKind.i64.wrap (a * (65536:Int))) then Q (PV.tup [vI (IntKind.i64.wrap (Y6 (25:Nat) (ZfW a) (0:Int)+(1:Int))),vB true]) else Q (PV.tup [vI (Y6 (25:Nat) (ZfW a) (0:Int)),vB true])) else Q (PV.tup [vI (Y6 (25:Nat) (ZfW a) (0:Int)),vB true])))))) (fun _=>by kernel_rfl) ?_
 delta Qn ZfW vI vB
 refine Zc (fun h0=>?_) (fun h0=>Zc (fun h1=>?_) (fun h1=>⟨?_,Zc (fun h2=>Zc (fun h3=>?_) (fun h3=>?_)) (fun h2=>?_)⟩))
 ·simp only[Qc_] at h0
  have:decide (0≤a)=false:=by simp;omega
  simp only[root,this,Qn_,Qd_];rfl
 ·simp_all[nz,nzA,root]
 all_goals simp only[Qf_,Qe_,Yb] at h0 h1
 all_goals try rw[Zg (show Fit (a *65536) by constructor<;>omega)] at *
 ·exact ⟨by omega,by omega,by simp,by simp⟩
 all_goals rw[Zsz (by omega)] at *
 all_goals have hf:=ZkT (n:=a *65536)
 all_goals have hb:inB a=true:=Yb.2 h1
 all_goals have h00:decide (0≤a)=true:=by simp;omega
 ·rw[Zg Zn1] at h3
  rw[Zg (by constructor<;>omega)]
  simp only[root,hb,h2,h3,h00,QZ_,Qb_];rfl
 ·rw[Zg Zn1] at h3
  simp only[root,hb,h2,h3,h00,QZ_,Qb_,Qd_,Qn_];rfl
 ·simp only[root,hb,h2,h00,QZ_,Qb_,Qd_,Ql_];rfl
theorem Zly:CSOk Tryz.prog (Xb []):=Zf
theorem ZoY:Yq Tryz.prog (ZE Tryz.f116 0) ZiJ:=by
 refine lsG Zx.Γ (ZQ Zx Zly ZZ Ya Yl (LS:=[]) (Y8 (l:=[]) (by kernel_rfl) ZC) (n:=2000) (U3 ZqW) (U3 Za3) (fun x e s=>(e= .exit 0∧s=U3 ZiI x)) (fun x=>(x.2.2 - x.1).toNat) ZiH ZoK ZoL (fun x hx=>?_)) cv3 (fun _=>rfl) (fun _ h=>h) (fun _ _ _ _ h f=>fE h f)
 ·obtain ⟨i,out,n⟩:=x
  simp only[U3,Za3] at hx
  refine sxT (fun Q=>(bif decide (i < n) then Q (Ex.normal) (some ⟨11,[(5,AV.p (vI (IntKind.i64.wrap (i+(1:Int))))),(3,AV.p (vI (IntKind.i64.wrap (out * (10:Int))))),(4,pI n)],[],[],[],[]⟩) else Q (Ex.exit (0:Nat)) (some ⟨11,[(3,pI out)],[],[],[],[]⟩))) (fun _=>by kernel_rfl) ?_
  delta vI pI
  refine Zc (fun h0=> .inl ⟨rfl,(IntKind.i64.wrap (i+(1:Int)),IntKind.i64.wrap (out * (10:Int)),n),rfl, ?_, ?_, ?_⟩) (fun h0=> .inr ⟨by simp,_,rfl, ?_⟩)
  all_goals try dsimp only[U3]
  all_goals obtain ⟨a1,a2,a3,a4⟩:=hx
  all_goals simp only[Qc_,Qe_] at h0
  ·have hw:IntKind.i64.wrap (i+1)=i+1:=Zg (by constructor<;>omega)
   have h1:=ZbV i
   have h2:=Zsy (i:=i+1) (by omega)
   rw[ZgU a1] at h2
   rw[hw,Zg (by constructor<;>omega)]
   simp only[U3,Za3]
   exact ⟨by omega,by omega,a3,by rw[a4,ZgU a1]⟩
  ·show (n - IntKind.i64.wrap (i+1)).toNat < (n - i).toNat
   rw[Zg (by constructor<;>omega)];omega
  ·exact fun e s h=>h
  ·have:i=n:=by omega
   subst this
   exact ⟨rfl,by rw[a4];rfl⟩
theorem Zrs:Yd Tryz.prog [(4,ZiJ)] Tryz.f116:=Yh (l:=[ZE Tryz.f116 0]) (by kernel_rfl) (Yr (i:=4) (by kernel_rfl) rfl ZoY (ZC))
theorem Zrt:Zk Tryz.prog 116 Zwz:=Zm<|Zh fun n=>EZ1 fun hp0=>by
 refine cfL Zly Zrs rfl ?_
 refine sxT (fun Q=>((Za3 (0:Int) (1:Int) n)∧Q (vI (ZK n)))) (fun _=>by kernel_rfl) ?_
 delta Qn vI
 refine ⟨?_, ?_⟩
 ·exact ⟨by omega,hp0.1,hp0.2,rfl⟩
 ·rfl
theorem Zru(a:Iv)(b:Iv):Con Tryz.prog 66 [.agg (Iv.enc a),.agg (Iv.enc b)] (.agg (Iv.enc (YI a b))):=by
 refine cf0 (Zb ZoW<|Zb WY<|Zb Zrq<|Zb Zlx<|Zf) (fn:=Tryz.f66) rfl ?_
 refine sxT (fun Q=>(bif !both a b then Q (PV.agg [vI 0,vI 0,vB true]) else Q (PV.agg (eIv (ends mul a b))))) (fun _=>by kernel_rfl) ?_
 delta Qn eIv vI vB
 refine Zc (fun h0=>?_) (fun h0=>?_)
 all_goals (try simp only[Qi_,Qf_,bne] at *)
 all_goals (simp only[YI,Z1,Zv,List.foldl,Qr_,Qp_,Ql_,Qn_,Q5_,Q4_,Qw_,Q3_,Qu_,Qt_,Qb_,Qd_,QD_,Q8_, *];first | rfl | (simp only[nz,nzA,nz1,QE_,QN_,Iv.enc,V.enc,Ray.enc, *];first | done | rfl))
theorem Zt2:Zk Tryz.prog 66 e66:=Zm<|Zh fun a=>Zh fun b=>EZ0<|Zru a b
theorem Zj3:Zk Tryz.prog 63 e63:=Zm<|Zh fun a=>Zh fun b=>EZ0<|by
 refine cf0 (Zb ZoW<|Zb Zvm<|Zb WY<|Zb Zrq<|Zb Zrl<|Zf) (fn:=Tryz.f63) rfl ?_
 refine sxT (fun Q=>(bif !both a b then Q (PV.agg [vI 0,vI 0,vB true]) else (bif Men.has b (0:Int) then Q (PV.agg [vI 0,vI 0,vB true]) else Q (PV.agg (eIv (ends div a b)))))) (fun _=>by kernel_rfl) ?_
 delta Qn eIv vI vB
 refine Zc (fun h0=>?_) (fun h0=>Zc (fun h1=>?_) (fun h1=>?_))
 all_goals (try simp only[Qi_,Qf_,bne] at *)
 all_goals (simp only[Y5,Z1,Zv,List.foldl,Qr_,Qp_,Ql_,Qn_,Q5_,Q4_,Qw_,Q3_,Qu_,Qt_,Qb_,Qd_,QD_,Q8_, *];first | rfl | (simp only[nz,nzA,nz1,QE_,QN_,Iv.enc,V.enc,Ray.enc, *];first | done | rfl))
def Zlz(a:Iv):=List.foldl imax (IntKind.i64.wrap ((0:Int) - a.lo)) [a.hi]
def ZsL(a:Iv):=List.foldl imax a.lo [IntKind.i64.wrap ((0:Int) - a.hi),(0:Int)]
theorem Zrv:Zk Tryz.prog 118 Zw0:=Zm<|Zh fun a=>EZ0<|by
 refine cf0 (Zb Zch<|Zb WY<|Zb Zlx<|Zb ZaX<|Zf) (fn:=Tryz.f118) rfl ?_
 refine sxT (fun Q=>(bif !right a then Q (PV.agg [vI 0,vI 0,vB true]) else (bif !(mul (Zlz a) (Zlz a) true).snd then Q (PV.agg [vI 0,vI 0,vB true]) else Q (PV.agg (eIv (of (mul (ZsL a) (ZsL a) false).fst (mul (Zlz a) (Zlz a) true).fst)))))) (fun _=>by kernel_rfl) ?_
 delta Qn Zlz ZsL eIv vI vB
 refine Zc (fun h0=>?_) (fun h0=>Zc (fun h1=>?_) (fun h1=>?_))
 all_goals simp only[Qi_,Qf_,List.foldl,Zv,Z1] at *
 ·simp[nz,nzA,nz1,sqr,h0,none',Iv.enc]
 all_goals have ha:=Zbt h0
 all_goals rw[Xv (n:=a.lo) (by omega)] at *
 all_goals try rw[Xv (n:=a.hi) (by omega)]
 ·simp[nz,nzA,nz1,sqr,h0,far,h1,none',Iv.enc]
 ·simp[nz,nzA,nz1,sqr,h0,far,near,h1,Iv.enc]
theorem ZvU:Zk Tryz.prog 68 e68:=Zm<|Zh fun a=>Zh fun k=>EZ0<|by
 refine cf0 (Zb Zch<|Zb Zfe<|Zb WY<|Zb ZaX<|Zf) (fn:=Tryz.f68) rfl ?_
 refine sxT (fun Q=>(bif !right a then Q (PV.agg [vI 0,vI 0,vB true]) else (bif !inB k then Q (PV.agg [vI 0,vI 0,vB true]) else Q (PV.agg (eIv (of (List.foldl imin (IntKind.i64.wrap (k *a.lo)) [IntKind.i64.wrap (k *a.hi)]) (List.foldl imax (IntKind.i64.wrap (k *a.lo)) [IntKind.i64.wrap (k *a.hi)]))))))) (fun _=>by kernel_rfl) ?_
 delta Qn eIv vI vB
 refine Zc (fun h0=>?_) (fun h0=>Zc (fun h1=>?_) (fun h1=>?_))
 all_goals (try simp only[Qi_,Qf_] at *)
 ·simp only[times,h0,Ql_,Qd_];rfl
 ·simp only[times,h0,h1,Qn_,Qd_];rfl
 ·obtain ⟨b1,b2,b3,b4⟩:=Zbt h0
  have m1:=ZeY h1 (Yb.2 b2)
  have m2:=ZeY h1 (Yb.2 b3)
  simp only[times,h0,h1,QZ_,Qb_,List.foldl,Z1,Zv,Zg (show Fit (k *a.lo) by constructor<;>omega),Zg (show Fit (k *a.hi) by constructor<;>omega)];rfl
theorem Zvp:Zk Tryz.prog 156 Zw1:=Zm<|Zh fun a=>EZ0<|by
 refine cf0 (Zb Zch<|Zb WY<|Zb Zvo<|Zb ZaX<|Zf) (fn:=Tryz.f156) rfl ?_
 refine sxT (fun Q=>(bif !right a then Q (PV.agg [vI 0,vI 0,vB true]) else (bif decide (a.lo < (0:Int)) then Q (PV.agg [vI 0,vI 0,vB true]) else Q (PV.agg (eIv (of (root a.lo false).fst (root a.hi true).fst)))))) (fun _=>by kernel_rfl) ?_
 delta Qn eIv vI vB
 refine Zc (fun h0=>?_) (fun h0=>Zc (fun h1=>?_) (fun h1=>?_))
 all_goals (try simp only[Qi_,Qf_,bne] at *)
 all_goals first | (simp only[Zbu,Z1,Zv,List.foldl,Qr_,Qp_,Ql_,Qn_,Q5_,Q4_,Qw_,Q3_,Qu_,Qt_,Qb_,Qd_,QD_,Q8_, *];first | rfl | (simp only[nz,nzA,nz1,QE_,QN_,Iv.enc,V.enc,Ray.enc, *];first | done | rfl)) | (simp_all[nz,nzA,nz1,Iv.enc,V.enc,Ray.enc,Dec.enc,Shape.enc,none',told,K2_,Zbu];done) | (simp_all[nz,nzA,nz1,Iv.enc,V.enc,Ray.enc,Dec.enc,Shape.enc,none',told,K2_,Zbu];(repeat' split)<;>(first | rfl | (exfalso;omega) | (simp_all;done) | omega))
theorem Zl0:Zk Tryz.prog 115 Zw2:=Zm<|Zh fun d=>EZ0<|by
 refine cf0 Zf (fn:=Tryz.f115) rfl ?_
 refine sxT (fun Q=>(bif decide (d.c≥(-100000000000:Int)) then (bif decide (d.c≤(100000000000:Int)) then (bif decide (d.scale≥(0:Int)) then (bif decide (d.scale≤(6:Int)) then (bif d.scale==(0:Int) then Q (vB true) else (((10:Int)≠(0:Int))∧Q (vB (d.c.tmod (10:Int)!=(0:Int))))) else Q (vB false)) else Q (vB false)) else Q (vB false)) else Q (vB false))) (fun _=>by kernel_rfl) ?_
 delta Qn vB
 refine Zc (fun h0=>Zc (fun h1=>Zc (fun h2=>Zc (fun h3=>Zc (fun h4=>?_) (fun h4=>⟨?r0, ?_⟩)) (fun h3=>?_)) (fun h2=>?_)) (fun h1=>?_)) (fun h0=>?_)
 case r0=>first | rfl | (simp only[Xl,dI,dIv];omega) | (simp[Ze,chunk];done) | (simp only[Xl,dI,dIv];done) | (exact Zu (fun _=>rfl) (by omega) (by omega)) | (simp only[Qc_,Qk_] at *;exact Zu (fun _=>rfl) (by omega) (by omega)) | assumption | trivial | (simp_all;done) | omega
 all_goals (try simp only[Qi_,Qf_,bne] at *)
 all_goals (simp only[ZL,Z1,Zv,List.foldl,Qr_,Qp_,Ql_,Qn_,Q5_,Q4_,Qw_,Q3_,Qu_,Qt_,Qb_,Qd_,QD_,Q8_, *];first | rfl | (simp only[nz,nzA,nz1,QE_,QN_,Iv.enc,V.enc,Ray.enc, *];first | done | rfl))
def ZoZ(d:Dec):=(0:Int) - IntKind.i64.wrap (d.c * (65536:Int))
theorem Zj4:Zk Tryz.prog 59 e59:=Zm<|Zh fun d=>EZ0<|by
 refine cf0 (Zb Zl0<|Zb WY<|Zb Zrt<|Zb Zrj<|Zb ZaX<|Zf) (fn:=Tryz.f59) rfl ?_
 refine sxT (fun Q=>(bif !ZL d then Q (PV.agg [vI 0,vI 0,vB true]) else (((0:Int)≤d.scale∧d.scale≤(18:Int))∧(((-4611686018427387904:Int)≤IntKind.i64.wrap (d.c * (65536:Int))∧IntKind.i64.wrap (d.c * (65536:Int))≤(4611686018427387904:Int))∧(((-4611686018427387904:Int)≤IntKind.i64.wrap (ZoZ d)∧IntKind.i64.wrap (ZoZ d)≤(4611686018427387904:Int))∧Q (PV.agg (eIv (of (floor (IntKind.i64.wrap (d.c * (65536:Int))) (ZK d.scale)) (IntKind.i64.wrap ((0:Int) - floor (IntKind.i64.wrap (ZoZ d)) (ZK d.scale))))))))))) (fun _=>by kernel_rfl) ?_
 delta Qn ZoZ eIv vI vB
 refine Zc (fun h0=>?_) (fun h0=>⟨?_,⟨?_,⟨?_, ?_⟩⟩⟩)
 ·simp only[Qi_] at h0
  simp[nz,nzA,nz1,Z0,h0,none',Iv.enc]
 all_goals simp only[Qf_] at h0
 all_goals have hd:=Wb h0
 all_goals have hw:IntKind.i64.wrap (d.c *65536)=d.c *65536:=Zg (by constructor<;>omega)
 all_goals have hp:=ZbV d.scale
 all_goals try rw[hw]
 all_goals try rw[Xv (n:=d.c *65536) (by omega)]
 ·omega
 ·omega
 ·omega
 ·have hf:=ZfD (a:= -(d.c *65536)) (b:=ZK d.scale) (by omega)
  have e:floor (-(d.c *65536)) (ZK d.scale)=(-(d.c *65536)).fdiv (ZK d.scale):=rfl
  rw[Xv (n:=floor (-(d.c *65536)) (ZK d.scale)) (by rw[e];omega)]
  simp[nz,nzA,nz1,Z0,h0,Iv.enc]
theorem Zpa:Zk Tryz.prog 12 e12:=Zm<|Zh fun n=>Zh fun m=>EZ1 fun hp0=>by
 refine cf0 Zf (fn:=Tryz.f12) rfl ?_
 refine sxT (fun Q=>((m≠(0:Int))∧(bif decide (n.tmod m < (0:Int)) then Q (vI (IntKind.i64.wrap (n.tmod m+m))) else Q (vI (n.tmod m))))) (fun _=>by kernel_rfl) ?_
 delta Qn vI
 refine ⟨?r0,Zc (fun h0=>?_) (fun h0=>?_)⟩
 case r0=>first | rfl | (simp only[Xl,dI,dIv];omega) | (simp[Ze,chunk];done) | (simp only[Xl,dI,dIv];done) | (exact Zu (fun _=>rfl) (by omega) (by omega)) | (simp only[Qc_,Qk_] at *;exact Zu (fun _=>rfl) (by omega) (by omega)) | assumption | trivial | (simp_all;done) | omega
 all_goals simp only[Qc_,Qe_] at h0
 all_goals have hb:=Zuo (n:=n) hp0.1
 ·rw[Zg (by constructor<;>omega)]
  simp[nz,nzA,Zn2 hp0.1,h0]
 ·simp[nz,nzA,Zn2 hp0.1,h0]
def ZsM(d:Dec)(z:Dec):Option St:=some ⟨27,[(4,AV.ptr 4 0),(5,AV.ptr 5 0)],[(4,(Zih z)),(5,(Zih d))],[],[],[]⟩
theorem ZnC:CSOk Tryz.prog (Xb []):=Zf
theorem Zrw:Yq Tryz.prog (ZE Tryz.f11 0) Zlr:=by
 refine lsG Zx.Γ (ZQ Zx ZnC ZZ Ya Yl (LS:=[]) (Y8 (l:=[]) (by kernel_rfl) ZC) (n:=2000) (U2 ZsC) (U2 Zb3) (fun x e s=>(e= .exit 0∧s=U2 Zb2 x)) (fun x=>x.1.scale.toNat) Zlq ZqX ZqY (fun x hx=>?_)) cv2 (fun _=>rfl) (fun _ h=>h) (fun _ _ _ _ h f=>fE h f)
 ·obtain ⟨d,z⟩:=x
  simp only[U2,Zb3] at hx
  refine sxT (fun Q=>(bif decide (d.scale > (0:Int)) then (((10:Int)≠(0:Int))∧(bif d.c.tmod (10:Int)==(0:Int) then (((10:Int)≠(0:Int))∧Q (Ex.normal) (some ⟨27,[(5,AV.ptr 5 0),(4,AV.ptr 4 0)],[(5,[vI (IntKind.i64.wrap (d.c.tdiv (10:Int))),vI (IntKind.i64.wrap (d.scale - (1:Int)))]),(4,(Zih z))],[],[],[]⟩)) else Q (Ex.exit (0:Nat)) (ZsM d z))) else Q (Ex.exit (0:Nat)) (ZsM d z))) (fun _=>by kernel_rfl) ?_
  delta ZsM Zih vI vB
  refine Zc (fun h0=>⟨?r1,Zc (fun h1=>⟨?r0,.inl ⟨rfl,(⟨IntKind.i64.wrap (d.c.tdiv (10:Int)),IntKind.i64.wrap (d.scale - (1:Int))⟩,z),rfl, ?_, ?_, ?_⟩⟩) (fun h1=> .inr ⟨by simp,_,rfl, ?_⟩)⟩) (fun h0=> .inr ⟨by simp,_,rfl, ?_⟩)
  case r0|r1=>first | rfl | (simp only[Xl,dI,dIv];omega) | (simp[Ze,chunk];done) | (simp only[Xl,dI,dIv];done) | (exact Zu (fun _=>rfl) (by omega) (by omega)) | (simp only[Qc_,Qk_] at *;exact Zu (fun _=>rfl) (by omega) (by omega)) | assumption | trivial | (simp_all;done) | omega
  all_goals try dsimp only[U2]
  all_goals (try simp only[Qc_,Qe_] at h0)
  ·rw[Zg (show Fit (d.scale - 1) by constructor<;>omega)];simp only[U2,Zb3];omega
  ·show (IntKind.i64.wrap (d.scale - 1)).toNat < d.scale.toNat
   rw[Zg (by constructor<;>omega)];omega
  ·simp only[beq_iff_eq] at h1
   simp only[U2,Zb2]
   rw[Zq5 h0 hx.2 h1]
   exact fun e s h=>h
  ·simp only[K8_] at h1
   exact ⟨rfl,by simp only[U2,Zb2];rw[ZkV (fun h=>h1 h.2)]⟩
  ·exact ⟨rfl,by simp only[U2,Zb2];rw[ZkV (fun h=>h0 h.1)]⟩
theorem ZsN:Yd Tryz.prog [(3,Zlr)] Tryz.f11:=Yh (l:=[ZE Tryz.f11 0]) (by kernel_rfl) (Yr (i:=3) (by kernel_rfl) rfl Zrw (ZC))
theorem Zt3:Zk Tryz.prog 11 e11:=Zm<|Zh fun c=>Zh fun scale=>EZ1 fun hp0=>by
 refine cfL ZnC ZsN rfl ?_
 refine sxT (fun Q=>((Zb3 (Dec.mk c scale) (Dec.mk (0:Int) (0:Int)))∧Q (PV.agg (Zih (hdec scale.toNat c scale))))) (fun _=>by kernel_rfl) ?_
 delta Qn Zih vI vB
 refine ⟨?_, ?_⟩
 ·exact hp0
 ·rfl
end Go.Men
namespace Go.Men
open Go Go.Ev
def Zl1(k:Int):Ent
 | [.v (.int .i64 p1)]=>some (.str (digits p1),[0≤p1∧p1 < k])
 | _=>none
open Go.Proofs Go.Proofs.YtgfgjabeooohhaaGreatDoor
theorem Zvq(k:Int)(n:Int)(Q:PV→Prop):sxF evEnv (Xb [(45,Zl1 k)]) Zei Zej noG [] 2000 Tryz.f45 [.v (.int .i64 n)] Q=(bif decide (n < (0:Int)) then (((0:Int)≤IntKind.i64.wrap ((0:Int) - n)∧IntKind.i64.wrap ((0:Int) - n) < k)∧(((1:Nat)+(digits (IntKind.i64.wrap ((0:Int) - n))).length≤(9223372036854775807:Nat))∧Q (.str ([(45:UInt8)]++digits (IntKind.i64.wrap ((0:Int) - n)))))) else (bif decide (n < (10:Int)) then (((bif decide ((0:Int)≤IntKind.u8.wrap (IntKind.i64.wrap ((48:Int)+n)))&&decide (IntKind.u8.wrap (IntKind.i64.wrap ((48:Int)+n)) < (256:Int)) then some [UInt8.ofNat (IntKind.u8.wrap (IntKind.i64.wrap ((48:Int)+n))).toNat] else none)=some ((bif decide ((0:Int)≤IntKind.u8.wrap (IntKind.i64.wrap ((48:Int)+n)))&&decide (IntKind.u8.wrap (IntKind.i64.wrap ((48:Int)+n)) < (256:Int)) then some [UInt8.ofNat (IntKind.u8.wrap (IntKind.i64.wrap ((48:Int)+n))).toNat] else none).getD []))∧Q (.str ((bif decide ((0:Int)≤IntKind.u8.wrap (IntKind.i64.wrap ((48:Int)+n)))&&decide (IntKind.u8.wrap (IntKind.i64.wrap ((48:Int)+n)) < (256:Int)) then some [UInt8.ofNat (IntKind.u8.wrap (IntKind.i64.wrap ((48:Int)+n))).toNat] else none).getD []))) else (((10:Int)≠(0:Int))∧(((0:Int)≤IntKind.i64.wrap (n.tdiv (10:Int))∧IntKind.i64.wrap (n.tdiv (10:Int)) < k)∧(((10:Int)≠(0:Int))∧(((bif decide ((0:Int)≤IntKind.u8.wrap (IntKind.i64.wrap ((48:Int)+n.tmod (10:Int))))&&decide (IntKind.u8.wrap (IntKind.i64.wrap ((48:Int)+n.tmod (10:Int))) < (256:Int)) then some [UInt8.ofNat (IntKind.u8.wrap (IntKind.i64.wrap ((48:Int)+n.tmod (10:Int)))).toNat] else none)=some ((bif decide ((0:Int)≤IntKind.u8.wrap (IntKind.i64.wrap ((48:Int)+n.tmod (10:Int))))&&decide (IntKind.u8.wrap (IntKind.i64.wrap ((48:Int)+n.tmod (10:Int))) < (256:Int)) then some [UInt8.ofNat (IntKind.u8.wrap (IntKind.i64.wrap ((48:Int)+n.tmod (10:Int)))).toNat] else none).getD []))∧(((digits (IntKind.i64.wrap (n.tdiv (10:Int)))).length+((bif decide ((0:Int)≤IntKind.u8.wrap (IntKind.i64.wrap ((48:Int)+n.tmod (10:Int))))&&decide (IntKind.u8.wrap (IntKind.i64.wrap ((48:Int)+n.tmod (10:Int))) < (256:Int)) then some [UInt8.ofNat (IntKind.u8.wrap (IntKind.i64.wrap ((48:Int)+n.tmod (10:Int)))).toNat] else none).getD []).length≤(9223372036854775807:Nat))∧Q (.str (digits (IntKind.i64.wrap (n.tdiv (10:Int)))++(bif decide ((0:Int)≤IntKind.u8.wrap (IntKind.i64.wrap ((48:Int)+n.tmod (10:Int))))&&decide (IntKind.u8.wrap (IntKind.i64.wrap ((48:Int)+n.tmod (10:Int))) < (256:Int)) then some [UInt8.ofNat (IntKind.u8.wrap (IntKind.i64.wrap ((48:Int)+n.tmod (10:Int)))).toNat] else none).getD []))))))))):=by kernel_rfl
theorem Zrx{k:Int}(h:∀n:Int,0≤n→n < k→Con Tryz.prog 45 [.v (.int .i64 n)] (.str (digits n))):Zk Tryz.prog 45 (Zl1 k):=by
 intro args r ps h1 hp
 unfold Zl1 at h1
 split at h1
 ·cases Qa_ h1
  have:=hp _ Qv_
  exact h _ this.1 this.2
 ·exact absurd h1 (by simp)
theorem Zl2{k:Int}(h:∀n:Int,0≤n→n < k→Con Tryz.prog 45 [.v (.int .i64 n)] (.str (digits n))){n:Int}(h1: -1000000000000000000≤n∧n≤1000000000000000000)(h2:n < 0→ -n < k)(h3:10≤n→n / 10 < k):Con Tryz.prog 45 [.v (.int .i64 n)] (.str (digits n)):=by
 refine Zny Zx (Zb (Zrx h) Zf) ZZ Ya Yl (n:=2000) (LS:=[]) (fn:=Tryz.f45) rfl Zfx ?_
 rw[Zvq]
 refine Zc (fun h0=>?_) (fun h0=>Zc (fun h4=>?_) (fun h4=>?_))
 ·have h0:=Qy_ h0
  have hb:=Yy (-n)
  rw[Xv (by constructor<;>omega)]
  refine ⟨⟨by omega,h2 h0⟩,by omega, ?_⟩
  rw[ZoC h0];rfl
 ·have h0:=of_decide_eq_false h0
  have h4:=Qy_ h4
  rw[Zn4 (by omega) h4,ZaT (by omega) h4]
  exact ⟨rfl,rfl⟩
 ·have h4:=of_decide_eq_false h4
  have e1:n.tdiv 10=n / 10:=Int.tdiv_eq_ediv_of_nonneg (by omega)
  have e2:n.tmod 10=n % 10:=Int.tmod_eq_emod_of_nonneg (by omega)
  have hb:=Yy (n / 10)
  rw[e1,e2,Zg (by constructor<;>omega),Zn4 (by omega) (by omega),WQ (by omega) h1.2]
  exact ⟨by decide,⟨by omega,h3 (by omega)⟩,by decide,rfl,by show (digits (n / 10)).length+1≤_;omega,rfl⟩
theorem Zl3:∀(k:Nat) (n:Int),0≤n→n < k→n≤1000000000000000000→Con Tryz.prog 45 [.v (.int .i64 n)] (.str (digits n))
 | 0,n,h0,h,_=>by omega
 | k+1,n,h0,h,hb=>by
   refine Zl2 (k:=min (k:Int) 1000000000000000001) (fun m a b=>Zl3 k m a (by omega) (by omega)) (by omega) (by omega) (fun h1=>?_)
   omega
theorem Zpb(n:Int)(h: -1000000000000000000≤n∧n≤1000000000000000000):Con Tryz.prog 45 [.v (.int .i64 n)] (.str (digits n)):=
 Zl2 (k:=1000000000000000001) (fun m a b=>Zl3 (m.toNat+1) m a (by omega) (by omega)) h (by omega) (by omega)
theorem Zt4:Zk Tryz.prog 45 e45:=Zm<|Zh fun n=>EZ1 fun h=>Zpb n h
end Go.Men
namespace Go.Men
open Go.Ev Go.Proofs Go.Proofs.YtgfgjabeooohhaaGreatDoor
theorem Zl4:CSOk Tryz.prog (Xb []):=Zf
theorem Zpc:Yq Tryz.prog (ZE Tryz.f53 0) ZiL:=by
 refine lsG Zx.Γ (ZQ Zx Zl4 ZZ Ya Yl (LS:=[]) (Y8 (l:=[]) (by kernel_rfl) ZC) (n:=2000) (U2 ZqZ) (U2 Jl) (fun x e s=>((U2 Jm x=true∧e= .ret∧s=U2 Ze0 x)∨(U2 Jm x=false∧e= .exit 0∧s=U2 Zez x))) (fun x=>(x.2.length - x.1).toNat) ZiK ZoM ZoN (fun x hx=>?_)) cv2 (fun _=>rfl) (fun _ h=>h) (fun _ _ _ _ h f=>fC h f fE fE)
 ·obtain ⟨i,l⟩:=x
  simp only[U2,Jl] at hx
  refine sxT (fun Q=>(bif decide (i < ↑(List.map Face.enc l).length) then (((0:Int)≤i∧(List.map Face.enc l)[i.toNat]?=some (Yx [vB false,vI 0,vI 0,vI 0,vI 0,vI 0,vI 0,vI 0,vI 0,vI 0,vI 0,vI 0,vI 0,PV.str []] ((List.map Face.enc l).getD i.toNat [])))∧(bif !Zz (((List.map Face.enc l).getD i.toNat []).headD PV.nil) then Q (Ex.ret) (some ⟨16,[(2,AV.p (vB true))],[],[],[],[]⟩) else Q (Ex.normal) (some ⟨16,[(3,AV.p (vI (IntKind.i64.wrap (i+(1:Int))))),(0,AV.p (PV.lst (List.map Face.enc l)))],[],[],[],[]⟩))) else Q (Ex.exit (0:Nat)) (some ⟨16,[],[],[],[],[]⟩))) (fun _=>by kernel_rfl) ?_
  delta vI vB
  refine Zc (fun h0=>⟨?r0,Zc (fun h1=> .inr ⟨by simp,_,rfl, ?_⟩) (fun h1=> .inl ⟨rfl,(IntKind.i64.wrap (i+(1:Int)),l),rfl, ?_, ?_, ?_⟩)⟩) (fun h0=> .inr ⟨by simp,_,rfl, ?_⟩)
  case r0=>first | rfl | (rw[Z9];done) | (obtain ⟨a1,a2,a3⟩:=hx;simp only[Qk_,Qc_] at h0;exact Zu (fun _=>rfl) (by omega) (by omega))
  all_goals try dsimp only[U2]
  all_goals (obtain ⟨a1,a2,a3⟩:=hx;try simp only[Qk_,Qc_,Qe_] at h0)
  all_goals first | (have hk:i < l.length:=h0;obtain ⟨x,t,e1,e2,e3⟩:=Yi (l:=l) a1 (by omega);simp only[Yt e3] at *;have en:XS (l.drop i.toNat)=(!x.stop||XS t):=(by rw[e1];rfl)) | skip
  all_goals try rw[Zg (show Fit (i+1) by constructor<;>omega)]
  all_goals try simp only[U2,Jl,Jm,Ze0,Zez]
  ·change (!x.stop)=true at h1
   exact .inl ⟨by rw[en,h1];rfl,by trivial,by trivial⟩
  ·exact ⟨by omega,by omega,a3⟩
  ·omega
  ·change (!x.stop)=false at h1
   rw[en,e2,h1];exact fun e s h=>h
  ·exact .inr ⟨by rw[Q0_ (by omega)];rfl,by trivial,by trivial⟩
theorem Zry:Yd Tryz.prog [(3,ZiL)] Tryz.f53:=Yh (l:=[ZE Tryz.f53 0]) (by kernel_rfl) (Yr (i:=3) (by kernel_rfl) rfl Zpc (ZC))
theorem ZvV:Zk Tryz.prog 53 e53:=Zm<|Zh fun l=>EZ1 fun hp0=>by
 refine cfL Zl4 Zry rfl ?_
 refine sxT (fun Q=>((List.map Face.enc l=List.map Face.enc (Ze Face.dec (List.map Face.enc l)))∧((Jl (0:Int) (Ze Face.dec (List.map Face.enc l)))∧(bif Jm (0:Int) (Ze Face.dec (List.map Face.enc l)) then Q (vB true) else Q (vB false))))) (fun _=>by kernel_rfl) ?_
 delta Qn vB
 refine ⟨?r0,⟨?_,Zc (fun h0=>?_) (fun h0=>?_)⟩⟩
 case r0=>first | rfl | (rw[Z9];done) | (obtain ⟨a1,a2,a3⟩:=hx;simp only[Qk_,Qc_] at h0;exact Zu (fun _=>rfl) (by omega) (by omega))
 all_goals simp only[Jl,Jm,Z9,QO_,QG_] at *
 ·exact ⟨by omega,by omega,hp0⟩
 ·rw[h0];rfl
 ·rw[h0];rfl
def Zjk:=Xb [(11,e11),(45,e45),(12,e12)]
def Zd1(i:Int)(l:List I):=Zd (((List.map I.enc l).getD i.toNat []).headD PV.nil)
def Zpd(i:Int)(l:List I):=hdec (5:Nat) (pick (IntKind.i64.wrap ((Zd1 i l).tdiv (7:Int))) (50000:Int)) (5:Int)
def Zpe(i:Int)(l:List I):=hdec (5:Nat) (pick (IntKind.i64.wrap ((Zd1 i l).tdiv (11:Int))) (3000:Int)) (5:Int)
def Zpf(i:Int)(l:List I):=hdec (5:Nat) (pick (IntKind.i64.wrap ((Zd1 i l).tdiv (13:Int))) (9000:Int)) (5:Int)
def Zpg(i:Int)(l:List I):=hdec (3:Nat) (IntKind.i64.wrap (pick (IntKind.i64.wrap ((Zd1 i l).tdiv (17:Int))) (200000:Int) - (1000:Int))) (3:Int)
def Zph(i:Int)(out:List Glass)(l:List I):=List.map Glass.enc out++[[PV.str ([(103:UInt8)]++digits i),vI (hdec (5:Nat) (pick (Zd1 i l) (200000:Int)) (5:Int)).c,vI (hdec (5:Nat) (pick (Zd1 i l) (200000:Int)) (5:Int)).scale,vI (Zpd i l).c,vI (Zpd i l).scale,vI 0,vI 0,vI (Zpe i l).c,vI (Zpe i l).scale,vI (Zpf i l).c,vI (Zpf i l).scale,vI (Zpg i l).c,vI (Zpg i l).scale]]
def Zff(i:Int)(l:List I):=(0:Int)≤i∧(List.map I.enc l)[i.toNat]?=some (Yx [vI 0] ((List.map I.enc l).getD i.toNat []))
def Zhj:=(0:Int)≤(5:Int)∧(5:Int)≤(18:Int)
def Zpi:=(0:Int) < (200000:Int)∧(200000:Int)≤(4611686018427387904:Int)
theorem ZcB:CSOk Tryz.prog Zjk:=Zb Zt3<|Zb Zt4<|Zb Zpa<|Zf
theorem ZfX:Yq Tryz.prog (ZE Tryz.f10 0) J6:=by
 refine lsG Zx.Γ (ZQ Zx ZcB ZZ Ya (Znx (G:=(Gx.mk [] [] [] [] [23])) (Znw) (ZkQ)) (LS:=[]) (Y8 (l:=[]) (by kernel_rfl) ZC) (n:=2000) (U3 Zcd) (U3 Xf) (fun x e s=>(e= .exit 0∧s=U3 Wh x)) (fun x=>(3 - x.1).toNat) Zce ZfL ZfM (fun x hx=>?_)) cv3 (fun _=>rfl) (fun _ h=>h) (fun _ _ _ _ h f=>fE h f)
 ·obtain ⟨i,out,l⟩:=x
  simp only[U3,Xf] at hx
  refine sxT (fun Q=>(bif decide (i < ↑(List.map I.enc l).length) then (bif decide (i < (3:Int)) then (((-1000000000000000000:Int)≤i∧i≤(1000000000000000000:Int))∧(((1:Nat)+(digits i).length≤(9223372036854775807:Nat))∧((Zff i l)∧(Zpi∧(Zhj∧((Zff i l)∧(((7:Int)≠(0:Int))∧(((0:Int) < (50000:Int)∧(50000:Int)≤(4611686018427387904:Int))∧(Zhj∧((Zff i l)∧(((11:Int)≠(0:Int))∧(((0:Int) < (3000:Int)∧(3000:Int)≤(4611686018427387904:Int))∧(Zhj∧((Zff i l)∧(((13:Int)≠(0:Int))∧(((0:Int) < (9000:Int)∧(9000:Int)≤(4611686018427387904:Int))∧(Zhj∧((Zff i l)∧(((17:Int)≠(0:Int))∧(Zpi∧(((0:Int)≤(3:Int)∧(3:Int)≤(18:Int))∧(((0:Nat) < (1:Nat)∧((List.map Glass.enc out).length+(1:Nat))* (112:Nat)≤(140737488355328:Nat)∧Lens (13:Nat) (Zph i out l))∧Q (Ex.normal) (some ⟨80,[(4,AV.p (vI (IntKind.i64.wrap (i+(1:Int))))),(3,AV.p (PV.lst (Zph i out l))),(0,AV.p (PV.lst (List.map I.enc l)))],[],[],[(Loc.t (nat_lit 3),nat_lit 30)],[]⟩))))))))))))))))))))))) else Q (Ex.exit (0:Nat)) (some ⟨80,[(3,AV.p (PV.lst (List.map Glass.enc out)))],[],[],[],[]⟩)) else Q (Ex.exit (0:Nat)) (some ⟨80,[(3,AV.p (PV.lst (List.map Glass.enc out)))],[],[],[],[]⟩))) (fun _=>by kernel_rfl) ?_
  delta Zph Zd1 Zff Zhj Zpg Zpi Zpd Zpe Zpf vI
  refine Zc (fun h0=>Zc (fun h1=>⟨?r21,⟨?r20,⟨?r19,⟨?r18,⟨?r17,⟨?r16,⟨?r15,⟨?r14,⟨?r13,⟨?r12,⟨?r11,⟨?r10,⟨?r9,⟨?r8,⟨?r7,⟨?r6,⟨?r5,⟨?r4,⟨?r3,⟨?r2,⟨?r1,⟨?r0, ?_⟩⟩⟩⟩⟩⟩⟩⟩⟩⟩⟩⟩⟩⟩⟩⟩⟩⟩⟩⟩⟩⟩) (fun h1=>?_)) (fun h0=>?_)
  case r0|r1|r2|r3|r4|r5|r6|r7|r8|r9|r10|r11|r12|r13|r14|r15|r16|r17|r18|r19|r20|r21=>first | rfl | omega | (rw[dI];done) | (obtain ⟨a1,a2,a3,a4⟩:=hx;simp only[Qk_,Qc_] at *;first | omega | exact Zu (fun _=>rfl) (by omega) (by omega) | exact ⟨by decide,by omega,YM (YL (e:=Glass.enc) (fun _=>rfl) _) rfl⟩ | (have:=Yy i;omega))
  all_goals (obtain ⟨a1,a2,a3,a4⟩:=hx;(try simp only[ZuS,Qk_] at *))
  all_goals (try simp only[Qc_,Qe_] at h0)
  all_goals (try simp only[Qc_,Qe_] at h1)
  all_goals first
   | (have hw:IntKind.i64.wrap (i+1)=i+1:=Zg (by constructor<;>omega)
      have eb:Zbw (3 - i).toNat l i=ZgY l i::Zbw (3 - (i+1)).toNat l (i+1):=(by rw[show (3 - i).toNat=(3 - (i+1)).toNat+1 by omega];rw[ZiE,QH_ h0,QH_ h1];rfl)
      refine .inl ⟨by trivial,(IntKind.i64.wrap (i+1),out++[ZgY l i],l), ?_, ?_, ?_, ?_⟩
      ·simp only[U3,Zcd,QR_,QE_,QN_];rfl
      ·simp only[U3,Xf,hw,Qx_,Qs_,Q1_];exact ⟨by omega,by omega,a3,by omega⟩
      ·simp only[hw];omega
      ·intro e s' h;refine ⟨h.1,h.2.trans ?_⟩;unfold U3 Wh;(try dsimp only);rw[hw,eb];simp only[List.append_assoc,List.cons_append,List.nil_append])
   | (have eb:Zbw (3 - i).toNat l i=[]:=(by
       by_cases hi:i < 3
       ·rw[show (3 - i).toNat=(3 - (i+1)).toNat+1 by omega];rw[ZiE,show (decide (i < (l.length:Int))&&decide (i < 3))=false by simp;omega];rfl
       ·rw[show (3 - i).toNat=0 by omega];rfl)
      exact .inr ⟨by simp,_,rfl,by trivial,by unfold U3 Wh;(try dsimp only);(rw[eb,List.append_nil])<;>rfl⟩)
theorem Zhk:Yd Tryz.prog [(4,J6)] Tryz.f10:=Yh (l:=[ZE Tryz.f10 0]) (by kernel_rfl) (Yr (i:=4) (by kernel_rfl) rfl ZfX (ZC))
def ZeA:=[[PV.str [(99:UInt8),(114:UInt8),(111:UInt8),(119:UInt8),(110:UInt8)],vI 103961,vI 5,vI 23179,vI 5,vI 101047,vI 5,vI 6,vI 3,vI 2002,vI 5,vI 1035607,vI 4],[PV.str [(102:UInt8),(108:UInt8),(105:UInt8),(110:UInt8),(116:UInt8)],vI 17376,vI 4,vI 31375,vI 5,vI 189878,vI 5,vI 1319,vI 5,vI 6231,vI 5,vI 1552363,vI 4]]
def W3:=(0:Int)≤(5:Int)∧(5:Int)≤(18:Int)
def Zl5:=(0:Int)≤(4:Int)∧(4:Int)≤(18:Int)
theorem Zt5:Zk Tryz.prog 10 e10:=Zm<|Zh fun l=>EZ1 fun hp0=>by
 refine ZfG Zx ZcB ZZ Ya (Znx (G:=(Gx.mk [] [] [] [] [23])) (Znw) (ZkQ)) (n:=2000) (LS:=[(4,J6)]) (fn:=Tryz.f10) rfl Zhk ?_
 refine sxT (fun Q=>(W3∧(W3∧(W3∧(W3∧(W3∧(Zl5∧(W3∧(W3∧(W3∧(W3∧(W3∧(Zl5∧((ZeA=List.map Glass.enc (Ze Glass.dec ZeA))∧((List.map I.enc l=List.map I.enc (Ze I.dec (List.map I.enc l)))∧((Xf (0:Int) (Ze Glass.dec ZeA) (Ze I.dec (List.map I.enc l)))∧Q (PV.lst (List.map Glass.enc (Ze Glass.dec ZeA++Zbw (3:Nat) (Ze I.dec (List.map I.enc l)) (0:Int)))))))))))))))))))) (fun _=>by kernel_rfl) ?_
 delta Qn ZeA W3 Zl5 vI
 refine ⟨?r13,⟨?r12,⟨?r11,⟨?r10,⟨?r9,⟨?r8,⟨?r7,⟨?r6,⟨?r5,⟨?r4,⟨?r3,⟨?r2,⟨?r1,⟨?r0,⟨?_, ?_⟩⟩⟩⟩⟩⟩⟩⟩⟩⟩⟩⟩⟩⟩⟩
 case r0|r1|r2|r3|r4|r5|r6|r7|r8|r9|r10|r11|r12|r13=>first | rfl | omega | (rw[dI];done) | (obtain ⟨a1,a2,a3,a4⟩:=hx;simp only[Qk_,Qc_] at *;first | omega | exact Zu (fun _=>rfl) (by omega) (by omega) | exact ⟨by decide,by omega,YM (YL (e:=Glass.enc) (fun _=>rfl) _) rfl⟩ | (have:=Yy i;omega))
 ·simp only[Xf,dI];exact ⟨by omega,by omega,hp0,rfl⟩
 ·simp only[dI];rfl
end Go.Men
