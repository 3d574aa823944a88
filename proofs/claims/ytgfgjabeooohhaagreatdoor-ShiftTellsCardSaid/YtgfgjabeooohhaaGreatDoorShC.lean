/- A logic of frames, its evaluator for values known in part, and what the functions that the law reaches are shown to do: written for this claim. Part C. -/
import Derived.Test.YtgfgjabeooohhaaGreatDoorShB
import Derived.Test.YtgfgjabeooohhaaGreatDoorChecked
import Derived.Test.YtgfgjabeooohhaaGreatDoorShelf
import Derived.KernelRfl
set_option linter.all false
set_option maxRecDepth 100000
namespace Go.Ev
open Go.RowKit
abbrev Y0:=Nat→List PV→List PV→Option (PV×List PV×List Prop)
abbrev Yx:=Nat→St→List AV→Option (PV×St×List Prop)
open Classical in
noncomputable def CHP(C:Y0):Zjv:=fun f cs args=>match C f cs args with
 | some (r,cs',ps)=>if Ys ps then some (r,cs') else none
 | none=>none
open Classical in
noncomputable def CHI(C:Yx):Zfo:=fun f σ args=>match C f σ args with
 | some (r,σ',ps)=>if Ys ps then some (r,σ') else none
 | none=>none
def CSPOk(P:Program)(C:Y0):Prop:=∀f cs args r cs' ps,C f cs args=some (r,cs',ps)→Ys ps→ZnF P f cs args r cs'
def CSIOk(P:Program)(C:Yx):Prop:=∀f σ args r σ' ps,C f σ args=some (r,σ',ps)→Ys ps→ZyO P f σ args r σ'
theorem Z04{P:Program}{C:Y0}(h:CSPOk P C):Zrz P (CHP C):=fun f cs args r cs' hr=>by
 unfold CHP at hr
 split at hr
 ·rename_i r' cs2 ps h1
  split at hr
  ·rename_i hp
   have:=Qa_ hr
   cases this
   exact h _ _ _ _ _ _ h1 hp
  ·cases hr
 ·cases hr
theorem Z05{P:Program}{C:Yx}(h:CSIOk P C):Zla P (CHI C):=fun f σ args r σ' hr=>by
 unfold CHI at hr
 split at hr
 ·rename_i r' cs2 ps h1
  split at hr
  ·rename_i hp
   have:=Qa_ hr
   cases this
   exact h _ _ _ _ _ _ h1 hp
  ·cases hr
 ·cases hr
def noT(x:Option St):Option (St×List Prop):=match x with
 | some σ=>some (σ,[])
 | none=>none
def Zcb(E:Env)(C:ZZ)(j:Nat)(σ:St)(o:Oper):Option (St×List Prop):=
 match ZsK E C j σ o with
 | some (r,ps)=>match o.dst with
   | some d=>some (XD σ d r,ps)
   | none=>bif Yp r.box then some (σ,ps) else none
 | none=>none
def Z06:List Obl→Option Prop
 | [.pr p]=>some p
 | _=>none
def Zvs(C:Yx)(σ:St)(o:Oper)(fid:Nat)(args:List Operand):Option (St×List Prop):=
 match XZ (opd σ) args with
 | some l=>bif l.all (ZnP σ.boxes)&&Ze2 σ.boxes then
    match C fid σ l with
    | some (r,σ1,ps)=>match o.dst with
      | some d=>bif Nat.blt d σ1.n then some (put σ1 d (.p r),ps) else none
      | none=>some (σ1,ps)
    | none=>none
   else none
 | none=>none
def Zvt(xs:List (List PV)):List UInt8:=(bytesOf xs).getD []
def Zxy(σ:St)(e:TypeId)(dst:Option Nat)(x:Operand):Option (St×List Prop):=
 match opd σ x,dst with
 | some (.ptr b off),some d=>match lk b σ.boxes with
   | some (.bld _::y::_)=>bif Nat.beq off 0&&Nat.blt d σ.n then
     match y with
     | .nil=>some (put σ d (.p (.str [])),[])
     | .lst xs=>match lkL (.b b 1) σ.own with
       | some E=>bif Nat.beq E e then some (put (Yv σ (.b b 1)) d (.p (.str (Zvt xs))),[∃c l,bytesOf xs=some (c::l)]) else none
       | none=>none
     | _=>none
     else none
   | _=>none
 | _,_=>none
theorem Zxz{σ σ':St}{e:TypeId}{dst:Option Nat}{x:Operand}{ps:List Prop}(h:Zxy σ e dst x=some (σ',ps))(hp:Ys ps):Zgu σ e dst x=some σ':=by
 unfold Zxy at h
 unfold Zgu
 split at h
 ·rename_i b off d hx
  simp only[hx]
  split at h
  ·rename_i u y r hb
   simp only[hb]
   cases hc:(Nat.beq off 0&&Nat.blt d σ.n) with
   | false=>rw[hc] at h;cases h
   | true=>
     rw[hc] at h
     simp only[Qb_] at h ⊢
     split at h
     ·cases Qa_ h;rfl
     ·rename_i xs
      split at h
      ·rename_i E hE
       cases he:Nat.beq E e with
       | false=>rw[he] at h;cases h
       | true=>
         rw[he] at h
         cases Qa_ h
         obtain ⟨c,l,hl⟩:∃c l,bytesOf xs=some (c::l):=hp _ Qv_
         simp only[hl,hE,he,Qb_,Zvt,Ks_]
      ·cases h
     ·cases h
  ·cases h
 ·cases h
def ZyV(E:Env)(C:ZZ)(CP:Y0)(CI:Yx)(j:Nat)(σ:St)(o:Oper)(f:Operand)(args:List Operand):Option (St×List Prop):=
 match f with
 | .func fid=>bif has fid E.wr then
    match args with
    | p::rest=>match opd σ p,XZ (opd σ) rest with
      | some (.ptr b off),some l=>match lk b σ.boxes,Xz σ.boxes l with
        | some cs,some (xs,_)=>match CP fid (cs.drop off) xs with
          | some (r,cs',ps)=>match Ze1 σ o.dst f args [.callp 0 [] [] r cs'] with
            | some (σ',_,_)=>bif Nat.beq cs'.length (cs.length - off) then some (σ',ps) else none
            | none=>none
          | none=>none
        | _,_=>none
      | _,_=>none
    | []=>none
   else bif has fid E.inl then Zvs CI σ o fid args
   else bif has fid E.cc then (match args with | [x]=>noT (Zsq σ o.dst x) | _=>none)
   else match lk fid E.bst with
   | some e=>(match args with | [x]=>Zxy σ e o.dst x | _=>none)
   | none=>Zcb E C j σ o
 | _=>Zcb E C j σ o
def apS(E:Env)(σ:St)(d:Nat)(x y:Operand)(t u:TypeId):Option (St×List Prop):=
 match lk t E.Γ,Z3 σ x,Z3 σ y with
 | some ty,some xv,some (.str l)=>bif YH E u&&Nat.beq ty.kd 3 then
    match lk ty.elem E.Γ with
    | some ety=>bif Nat.beq ety.size 1&&Nat.beq ety.bytes 1 then
      match xv,x with
      | .nil,_=>some (Ja (put σ d (.p (.lst (WE l)))) d ty.elem,[0+l.length≤140737488355328])
      | .lst xs,.tmp t1=>
        match lkL (match lk t1 σ.al with | some l=>l | none=> .t t1) σ.own with
        | some E'=>bif Nat.beq E' ty.elem then some (Ja (put (Yv σ (match lk t1 σ.al with | some l=>l | none=> .t t1)) d (.p (.lst (xs++WE l)))) d ty.elem,[xs.length+l.length≤140737488355328∧Lens 1 xs]) else none
        | none=>none
      | _,_=>none
      else none
    | none=>none
   else none
 | _,_,_=>none
theorem ZzK{E:Env}{σ σ':St}{d:Nat}{x y:Operand}{t u:TypeId}{ps:List Prop}(h:apS E σ d x y t u=some (σ',ps))(hp:Ys ps):ZbX E σ d x y t u=some σ':=by
 unfold apS at h
 unfold ZbX
 split at h
 ·rename_i ty xv l hty hx hy
  simp only[hty,hx,hy]
  cases hb:(YH E u&&Nat.beq ty.kd 3) with
  | false=>rw[hb] at h;cases h
  | true=>
    rw[hb] at h
    simp only[Qb_] at h ⊢
    split at h
    ·rename_i ety hety
     simp only[hety]
     cases hb2:(Nat.beq ety.size 1&&Nat.beq ety.bytes 1) with
     | false=>rw[hb2] at h;cases h
     | true=>
       rw[hb2] at h
       simp only[Qb_] at h ⊢
       split at h
       ·cases Qa_ h
        have h1:0+l.length≤140737488355328:=hp _ Qv_
        simp only[QF_ h1,Qb_]
       ·rename_i xs t1
        have fin:∀{L:Loc},(match lkL L σ.own with
         | some E'=>bif Nat.beq E' ty.elem then some (Ja (put (Yv σ L) d (.p (.lst (xs++WE l)))) d ty.elem,[xs.length+l.length≤140737488355328∧Lens 1 xs]) else none
         | none=>none)=some (σ',ps)→(match lkL L σ.own with
         | some E'=>bif Nat.beq E' ty.elem&&Nat.ble (xs.length+l.length) 140737488355328&&Wx 1 xs then some (Ja (put (Yv σ L) d (.p (.lst (xs++WE l)))) d ty.elem) else none
         | none=>none)=some σ':=by
         intro L h
         split at h
         ·rename_i E' hE
          cases hb3:Nat.beq E' ty.elem with
          | false=>rw[hb3] at h;cases h
          | true=>
            rw[hb3] at h
            cases Qa_ h
            obtain ⟨h1,h2⟩:xs.length+l.length≤140737488355328∧Lens 1 xs:=hp _ Qv_
            have h3:Wx 1 xs=true:=QK_.2 fun x hx=>by simpa using h2 x hx
            simp only[hE,hb3,QF_ h1,h3,QZ_,Qb_]
         ·cases h
        cases hal:lk t1 σ.al with
        | none=>simp only[hal] at h ⊢;exact fin h
        | some l2=>simp only[hal] at h ⊢;exact fin h
       ·cases h
    ·cases h
 ·cases h
def TSym(E:Env)(C:ZZ)(CP:Y0)(CI:Yx)(j:Nat)(σ:St)(o:Oper):Option (St×List Prop):=
 match o.op with
 | .store T p x=>match o.dst with
   | none=>bif ZyT σ p then Zo8 E.Γ σ T p x else match Wn E.Γ σ T p x with
     | some σ'=>some (σ',[])
     | none=>none
   | some _=>none
 | .buildSlice T n ps=>bif has T E.sla&&Nat.beq n 0 then
    match o.dst,ps.toList with
    | some d,[]=>noT (ZmO E σ d T)
    | _,_=>none
   else Zcb E C j σ o
 | .call ⟨.builtin .append,args,ats⟩=>match args.toList,ats.toList,o.dst with
   | [x,y],[t,t'],some d=>bif has t E.sla&&isE σ x then noT (Zh5 E σ d x y t t') else bif Nat.beq t t' then (bif Nat.blt d σ.n then
       match Jt E.Γ σ d x y t t' [.pr True] with
       | some (σ',_,ob)=>match Z06 ob with
         | some p=>some (σ',[p])
         | none=>none
       | none=>none
     else none) else bif Nat.blt d σ.n then apS E σ d x y t t' else none
   | _,_,_=>none
 | .slice T x none none none=>match o.dst with
   | some d=>bif Nat.blt d σ.n then noT (ZeZ E.Γ σ d T x) else none
   | none=>none
 | .call ⟨.value f,args,_⟩=>ZyV E C CP CI j σ o f args.toList
 | .alloc T=>bif Nat.beq T ZaC then noT (Zgv E ZjC j σ o T) else Zcb E C j σ o
 | _=>Zcb E C j σ o
section
variable {P:Program}{σ:St}{o:Oper}
theorem Ze7{x:Option St}{r:St}{ps:List Prop}(h:noT x=some (r,ps)):x=some r∧ps=[]:=by
 unfold noT at h
 split at h
 ·have:=Qa_ h
  cases this
  exact ⟨rfl,rfl⟩
 ·cases h
theorem ZsL{E:Env}{C:ZZ}{j:Nat}{σ':St}{ps:List Prop}(h:Zcb E C j σ o=some (σ',ps))(hp:Ys ps):Zac E (CH C) j σ o=some σ':=by
 unfold Zcb at h
 unfold Zac
 split at h
 ·rename_i r q hr
  split at h
  ·rename_i d hd
   have:=Qa_ h
   cases this
   simp only[ZyU j σ o r _ hr hp,hd]
  ·rename_i hd
   cases hb:Yp r.box with
   | false=>rw[hb] at h;cases h
   | true=>
     rw[hb] at h
     have:=Qa_ h
     cases this
     simp only[ZyU j σ o r _ hr hp,hd,hb,Qb_]
 ·cases h
theorem Z07{Γ:List (Nat×Ty)}{d:Nat}{x y:Operand}{t t':TypeId}{σ':St}{os ob:List Obl}{p:Prop}(h:Jt Γ σ d x y t t' [.pr True]=some (σ',os,ob))(ho:Z06 ob=some p)(hp:p):Za5 Γ σ x y t=true:=by
 have lens:∀{n:Nat} {l:List (List PV)},Lens n l→Wx n l=true:=fun hl=>QK_.2 fun x hx=>by simpa using hl x hx
 have blt:∀{a b:Nat},a < b→Nat.blt a b=true:=fun h=>QF_ h
 unfold Jt at h
 unfold Za5
 split at h
 ·rename_i ty xv ys _ os' hty hx hy he
  simp only[hty,hx,hy]
  cases hb:(Nat.beq t t'&&Nat.beq ty.kd 3) with
  | false=>rw[hb] at h;cases h
  | true=>
    rw[hb] at h
    simp only[Qb_] at h
    split at h
    ·rename_i ety hety
     cases hb2:(Nat.beq ety.size 0||Nat.beq ety.bytes 0) with
     | true=>rw[hb2] at h;cases h
     | false=>
       rw[hb2] at h
       simp only[Qd_] at h
       split at h
       ·have:=Qa_ h
        cases this
        cases ho
        simp only[hety,blt hp.1,QF_ hp.2.1,lens hp.2.2,QZ_]
       ·rename_i xs t1
        split at h
        ·rename_i E1 hE1
         cases hb3:Nat.beq E1 ty.elem with
         | false=>simp only[hb3] at h;cases h
         | true=>
           simp only[hb3] at h
           have:=Qa_ h
           cases this
           cases ho
           simp only[hety,blt hp.1,QF_ hp.2.1,lens hp.2.2,QZ_]
        ·cases h
       ·cases h
    ·cases h
 ·cases h
theorem ZzL{E:Env}{C:ZZ}{CP:Y0}{CI:Yx}:TSub (TSym E C CP CI) (TT E (CH C) (CHP CP) (CHI CI)):=by
 intro j σ o σ' ps h hp
 have hQ:∀{o:Oper},Zcb E C j σ o=some (σ',ps)→Zac E (CH C) j σ o=some σ':=fun h=>ZsL h hp
 obtain ⟨dst,op,type,pos,after,guard⟩:=o
 unfold TSym at h
 cases op with
 | store T p x=>
   cases dst with
   | some d=>cases h
   | none=>
     simp only at h
     cases hb:ZyT σ p with
     | true=>
       rw[hb,Qb_] at h
       simp only[TT,Zvo h hp]
     | false=>
       rw[hb,Qd_] at h
       split at h
       ·rename_i σ2 h2
        have:=Qa_ h
        cases this
        simp only[TT,h2]
       ·cases h
 | buildSlice T n q=>
   simp only at h
   simp only[TT]
   cases hb:(has T E.sla&&Nat.beq n 0) with
   | false=>rw[hb] at h;exact hQ h
   | true=>
     rw[hb] at h
     simp only[Qb_] at h ⊢
     split at h
     ·rename_i d hd hps
      simp only[hps]
      exact (Ze7 h).1
     ·cases h
 | slice T x lo hi mx=>
   cases lo with
   | some l=>exact hQ h
   | none=>cases hi with
     | some l=>exact hQ h
     | none=>cases mx with
       | some l=>exact hQ h
       | none=>
         cases dst with
         | none=>cases h
         | some d=>
           simp only at h
           simp only[TT]
           cases hb:Nat.blt d σ.n with
           | false=>rw[hb] at h;cases h
           | true=>rw[hb] at h;exact (Ze7 h).1
 | alloc T=>
   simp only at h
   simp only[TT,Zgv]
   cases hb:Nat.beq T ZaC with
   | false=>rw[hb] at h;exact hQ h
   | true=>
     rw[hb] at h
     have h1:=(Ze7 h).1
     simp only[Zgv,hb,Qb_] at h1
     exact h1
 | call c=>
   obtain ⟨callee,args,ats⟩:=c
   cases callee with
   | value f=>
     simp only at h
     simp only[TT]
     unfold ZyV at h
     unfold Zss
     split at h
     ·rename_i fid
      simp only
      cases hb:has fid E.wr with
      | true=>
        rw[hb] at h
        simp only[Qb_] at h ⊢
        split at h
        ·rename_i p rest hargs
         split at h
         ·rename_i b off l hop hl
          split at h
          ·rename_i cs xs c hcs hxs
           split at h
           ·rename_i r cs' q hcp
            split at h
            ·rename_i σ1 _ _ h1
             cases hb2:Nat.beq cs'.length (cs.length - off) with
             | false=>rw[hb2] at h;cases h
             | true=>
               rw[hb2] at h
               have:=Qa_ h
               cases this
               have hch:CHP CP fid (cs.drop off) xs=some (r,cs'):=by
                unfold CHP
                rw[hcp]
                simp only[hp,Kw_]
               simp only[hargs,hop,hl,hcs,hxs,hch]
               rw[hargs] at h1
               simp only[h1,hb2,Qb_]
            ·cases h
           ·cases h
          ·cases h
         ·cases h
        ·cases h
      | false=>
        rw[hb] at h
        simp only[Qd_] at h ⊢
        cases hb2:has fid E.inl with
        | true=>
          rw[hb2] at h
          simp only[Qb_] at h ⊢
          unfold Zvs at h
          unfold ZmP
          split at h
          ·rename_i l hl
           simp only[hl]
           cases hb3:(l.all (ZnP σ.boxes)&&Ze2 σ.boxes) with
           | false=>rw[hb3] at h;cases h
           | true=>
             rw[hb3] at h
             simp only[Qb_] at h ⊢
             split at h
             ·rename_i r σ1 q hci
              have hch:Ys q→CHI CI fid σ l=some (r,σ1):=by
               intro hq
               unfold CHI
               rw[hci]
               simp only[hq,Kw_]
              cases dst with
              | some d=>
                simp only at h ⊢
                cases hb4:Nat.blt d σ1.n with
                | false=>rw[hb4] at h;cases h
                | true=>
                  rw[hb4] at h
                  have:=Qa_ h
                  cases this
                  simp only[hch hp,hb4,Qb_]
              | none=>
                simp only at h ⊢
                have:=Qa_ h
                cases this
                simp only[hch hp]
             ·cases h
          ·cases h
        | false=>
          rw[hb2] at h
          simp only[Qd_] at h ⊢
          cases hb3:has fid E.cc with
          | true=>
            rw[hb3] at h
            simp only[Qb_] at h ⊢
            split at h
            ·rename_i x hx
             simp only[hx]
             exact (Ze7 h).1
            ·cases h
          | false=>
            rw[hb3] at h
            simp only[Qd_] at h ⊢
            split at h
            ·rename_i e he
             simp only[he]
             split at h
             ·rename_i x hx
              simp only[hx]
              exact Zxz h hp
             ·cases h
            ·rename_i he
             simp only[he]
             exact hQ h
     ·rename_i hne
      split
      ·rename_i fid;exact (hne fid rfl).elim
      ·exact hQ h
   | builtin b=>
     cases b with
     | append=>
       simp only at h
       simp only[TT]
       split at h
       ·rename_i x y t t' d hargs hats
        simp only[hargs,hats]
        cases hb:(has t E.sla&&isE σ x) with
        | true=>
          rw[hb] at h
          exact (Ze7 h).1
        | false=>
          rw[hb] at h
          simp only[Qd_] at h ⊢
          cases hb2:Nat.beq t t' with
          | true=>
            rw[hb2] at h
            simp only[Qb_] at h ⊢
            cases hb3:Nat.blt d σ.n with
            | false=>rw[hb3] at h;cases h
            | true=>
              rw[hb3] at h
              simp only[Qb_] at h
              split at h
              ·rename_i σ1 os1 ob1 h1
               split at h
               ·rename_i p hpr
                have:=Qa_ h
                cases this
                simp only[Z07 h1 hpr (one hp),QZ_,Qb_,h1]
               ·cases h
              ·cases h
          | false=>
            rw[hb2] at h
            simp only[Qd_] at h ⊢
            cases hb3:Nat.blt d σ.n with
            | false=>rw[hb3] at h;cases h
            | true=>rw[hb3] at h;exact ZzK h hp
       ·cases h
     | _=>exact hQ h
   | _=>exact hQ h
 | _=>exact hQ h
end
structure Gx where
 pb:List (Nat×List Nat)
 cb:List Nat
 ow:List (Nat×Nat)
 nf:List Nat
 ob:List Nat
def noG:Gx:=⟨[],[],[],[],[]⟩
structure HdOk(cs:List PV):Prop where
 h:Xi cs=true
def Zx0(d:Nat)(σ:St):Option (St×List Prop):=match lk d σ.tmps with
 | some (.sl b off n s)=>match lk b σ.boxes with
   | some cs=>bif Nat.blt d σ.n&&Nat.beq off 0 then
      some ({σ with tmps:=(d,.p (.lst (chunk s n cs)))::σ.tmps,ro:=b::σ.ro},[cs.length=n *s∧HdOk cs])
     else none
   | none=>none
 | some _=>some (σ,[])
 | none=>none
def ZjF:List Nat→St→Option (St×List Prop)
 | [],σ=>some (σ,[])
 | d::r,σ=>match Zx0 d σ with
   | some (σ1,ps)=>match ZjF r σ1 with
     | some (σ2,qs)=>some (σ2,ps++qs)
     | none=>none
   | none=>none
theorem Jx{l l':List Prop}(h:Ys (l++l')):Ys l∧Ys l':=⟨fun p hp=>h p (Kg_ _ hp),fun p hp=>h p (Kq_ _ hp)⟩
section
variable {P:Program}{B:Nat}{g:G}{σ σ':St}{a:Act}{w:World}
theorem Zx1(hI:Inv P B g σ a w){d:Nat}{x:PV}(hd:d < σ.n)(hr:Rep g.hw w (a.tmps.getD d undef) x):Inv P B g {σ with tmps:=(d,.p x)::σ.tmps} a w:=by
 have lkc:∀t' v,lk t' ((d,AV.p x)::σ.tmps)=some v→(t'=d∧v= .p x)∨lk t' σ.tmps=some v:=by
  intro t' v h
  rw[Zz] at h
  split at h
  ·rename_i e
   exact .inl ⟨e,(Qa_ h).symm⟩
  ·exact .inr h
 refine ⟨hI.size,hI.defers,fun t' v h=>?_,fun t' b off h=>?_,fun t' f bs h=>?_,hI.box,hI.inj,hI.hwlt,hI.base,hI.glob,hI.own,hI.ownt,hI.owninj,hI.al,hI.alt,fun t' b off n s h=>?_,hI.ref⟩
 ·rcases lkc t' v h with ⟨rfl,rfl⟩ | h
  ·exact ⟨hd,hr⟩
  ·exact hI.tmp t' v h
 ·rcases lkc t' _ h with ⟨_,e⟩ | h
  ·cases e
  ·exact hI.ptr t' b off h
 ·rcases lkc t' _ h with ⟨_,e⟩ | h
  ·cases e
  ·exact hI.fnp t' f bs h
 ·rcases lkc t' _ h with ⟨_,e⟩ | h
  ·cases e
  ·exact hI.sl t' b off n s h
theorem Zx2{d:Nat}{ps:List Prop}(h:Zx0 d σ=some (σ',ps))(hp:Ys ps)(hI:Inv P B g σ a w):∃g',Inv P B g' σ' a w∧Fr B g σ w g' σ' w:=by
 unfold Zx0 at h
 split at h
 ·rename_i b off n s hd
  split at h
  ·rename_i cs hcs
   cases hb:(Nat.blt d σ.n&&Nat.beq off 0) with
   | false=>rw[hb] at h;cases h
   | true=>
     rw[hb] at h
     cases Qa_ h
     obtain ⟨p1,p2⟩:=hp _ Qv_
     rw[Qh_] at hb
     have e0:=Qj_ hb.2
     subst e0
     have hdn:d < σ.n:=Qm_ hb.1
     obtain ⟨k,base,cap,h1,h2,h3⟩:=(hI.tmp d _ hd).2
     obtain ⟨i1,f1⟩:=Zjc hI hcs h1
     obtain ⟨k',base',hk',hlt,hok,_⟩:=i1.box b cs hcs
     have hk2:g.β b=some (k',base'):=hk'
     rw[h1] at hk2
     cases Qa_ hk2
     have hrep:Rep (fun j=>if j=k then max (g.hw j) (base+cs.length) else g.hw j) w (.slice (some ⟨k,base+0,none⟩) n cap) (.lst (chunk s n cs)):=by
      refine ZfL p1 hok.cells p2.h h2 ?_
      simp only[Kw_]
      omega
     refine ⟨_,Zx1 i1 hdn (by rw[h3];exact hrep),⟨f1.os,f1.tape,f1.output,f1.size,f1.n,f1.block,f1.cell,f1.frozen,f1.hw,f1.par,f1.ext⟩⟩
  ·cases h
 ·cases Qa_ h
  exact ⟨g,hI,Fr.refl⟩
 ·cases h
theorem ZjG:∀{l:List Nat} {σ σ':St} {g:G} {ps:List Prop},ZjF l σ=some (σ',ps)→Ys ps→Inv P B g σ a w→∃g',Inv P B g' σ' a w∧Fr B g σ w g' σ' w
 | [],σ,σ',g,ps,h,_,hI=>by
   cases Qa_ h
   exact ⟨g,hI,Fr.refl⟩
 | d::r,σ,σ',g,ps,h,hp,hI=>by
   unfold ZjF at h
   split at h
   ·rename_i σ1 ps1 h1
    split at h
    ·rename_i σ2 qs h2
     cases Qa_ h
     obtain ⟨q1,q2⟩:=Jx hp
     obtain ⟨g1,i1,f1⟩:=Zx2 h1 q1 hI
     obtain ⟨g2,i2,f2⟩:=ZjG h2 q2 i1
     exact ⟨g2,i2,f1.trans f2⟩
    ·cases h
   ·cases h
theorem ZqD(hI:Inv P B g σ a w){f:FuncId}{vals:List Value}{xs:List PV}{E:TypeId}{r:PV}(hc:Zli P f xs E r)(ha:ArgsRep g.hw w vals xs){d:Nat}(hd:d < σ.n):
 CallRes P f vals.toArray w fun v w'=>∃g',Inv P B g' {put σ d (.p r) with own:=(.t d,E)::σ.own.filter fun (l,_)=> !(l.eq (.t d))} (a.put (some d) v) w'∧Fr B g σ w g' {put σ d (.p r) with own:=(.t d,E)::σ.own.filter fun (l,_)=> !(l.eq (.t d))} w':=by
 refine (hc _ w vals hI.hwlt hI.glob.1 ha).mono fun v w' ⟨hw',q,hr,ho⟩=>?_
 obtain ⟨i1,f1⟩:=Ze0 hI q
 have i2:=WD i1 hd hr
 have hsz:(a.put (some d) v).tmps.getD d undef=v:=by
  have hs:=hI.size
  show (a.tmps.setIfInBounds d v).getD d undef=v
  simp[Array.getD,hs,hd]
 have hlt:∀k,v.ownBlock=some k→w.heap.size≤k:=fun k hk=>(Yq (g:=⟨g.β,hw'⟩) ho k hk).2
 refine ⟨⟨g.β,hw'⟩,ZdF i2 hd hsz ⟨ho.choose,ho.choose_spec.choose,ho.choose_spec.choose_spec.choose,ho.choose_spec.choose_spec.choose_spec.1, ?_,ho.choose_spec.choose_spec.choose_spec.2.2⟩ ?_ ?_,⟨f1.os,f1.tape,f1.output,f1.size,f1.n,f1.block,f1.cell,f1.frozen,f1.hw,f1.par,f1.ext⟩⟩
 ·have h2:=ho.choose_spec.choose_spec.choose_spec.2.1
  refine ⟨h2.1, ?_⟩
  rcases h2.2 with h | ⟨gb,cap,cur,e1,e2,r⟩
  ·exact .inl h
  ·exact .inr ⟨gb,cap,cur,e1,QT_ hI.base e2,r⟩
 ·intro k hk b cs base hb e
  obtain ⟨k',base',e1,e2,_⟩:=hI.box b cs hb
  have e:g.β b=some (k,base):=e
  rw[e] at e1
  cases Qa_ e1
  have:=hlt k hk
  omega
 ·intro l E' val' k hl hloc hk hk2
  have hl':lkL l σ.own=some E'∧l≠ .t d:=by
   have hl:lkL l (σ.own.filter fun (l,_)=> !(l.eq (.t d)))=some E':=hl
   rw[Yl (fun l'=> !(l'.eq (.t d)))] at hl
   split at hl
   ·rename_i hn
    refine ⟨hl,fun e=>?_⟩
    subst e
    rw[Loc.eq_iff.2 rfl] at hn
    cases hn
   ·cases hl
  obtain ⟨val0,q1,q2,_⟩:=i1.own l E' hl'.1
  have hv0:val0=val':=by
   cases l with
   | t t=>
     have q1:a.tmps.getD t undef=val0:=q1
     have hloc:(a.tmps.setIfInBounds d v).getD t undef=val':=hloc
     have ne:d≠t:=fun e=>hl'.2 (by rw[e])
     rw[←q1,←hloc]
     simp only[QA_,K5_]
     simp[ne]
   | b b c=>
     obtain ⟨k1,b1,e1,e2⟩:=q1
     obtain ⟨k2,b2,e3,e4⟩:=hloc
     rw[e1] at e3
     cases Qa_ e3
     exact Qa_ (e2.symm.trans e4)
  subst hv0
  have h0:=hI.own l E' hl'.1
  obtain ⟨val1,r1,r2,_⟩:=h0
  have hv1:val1=val0:=by
   cases l with
   | t t=>exact r1.symm.trans q1
   | b b c=>
     obtain ⟨k1,b1,e1,e2⟩:=r1
     obtain ⟨k2,b2,e3,e4⟩:=q1
     have e3:g.β b=some (k2,b2):=e3
     rw[e1] at e3
     cases Qa_ e3
     obtain ⟨c1,hc1⟩:=hI.ownt _ E' hl'.1
     obtain ⟨k3,b3,e5,e6,_⟩:=hI.box b c1 hc1
     rw[e1] at e5
     cases Qa_ e5
     rw[q.cell k1 _ e6] at e4
     exact Qa_ (e2.symm.trans e4)
  subst hv1
  have:=(Yq r2 k hk2).1
  have:=hlt k hk
  omega
end
def Zo9(E:Env)(C:ZZ)(G:Gx)(σ:St)(d fid:Nat)(args:List Operand):Option (St×List Prop):=
 match lk fid G.ow,XZ (opd σ) args with
 | some T,some l=>match Xz σ.boxes l with
   | some (xs,c)=>match c with
     | true=>none
     | false=>match C fid xs with
       | some (r,ps)=>match Nat.blt d σ.n with
         | false=>none
         | true=>match has d G.cb with
           | true=>match r,lk T E.Γ with
             | .lst rows,some ety=>bif Yp (lk d σ.boxes) then
                some (put {σ with boxes:=(d,rows.flatten)::σ.boxes} d (.sl d 0 rows.length ety.size),ps++[rows≠[]∧Lens ety.size rows∧∀x∈rows,∀y∈x,flat y=true])
               else none
             | _,_=>none
           | false=>some ({put σ d (.p r) with own:=(.t d,T)::σ.own.filter fun (l,_)=> !(l.eq (.t d))},ps)
       | none=>none
   | none=>none
 | _,_=>none
def ZsM(G:Gx)(σ:St)(op:BinOp)(T:TypeId)(x:Operand)(d:Nat):Option (St×List Prop):=
 match has T G.nf&&Nat.blt d σ.n with
 | false=>none
 | true=>match op,opd σ x with
   | .eql,some (.p (.fn _ _))=>some (put σ d (.p (.v (.bool false))),[])
   | .eql,some (.fnp _ _)=>some (put σ d (.p (.v (.bool false))),[])
   | .neq,some (.p (.fn _ _))=>some (put σ d (.p (.v (.bool true))),[])
   | .neq,some (.fnp _ _)=>some (put σ d (.p (.v (.bool true))),[])
   | _,_=>none
def bsO(E:Env)(σ:St)(T n:Nat)(ps:List (Nat×Operand))(d:Nat):Option (St×List Prop):=
 match XZ (fun (i,x)=>match Z3 σ x with | some v=>some (i,v) | none=>none) ps with
 | some l=>match WC E.Γ T n l,lk T E.Γ with
   | some (.lst xs),some ty=>bif Nat.blt d σ.n then some (Ja (put σ d (.p (.lst xs))) d ty.elem,[]) else none
   | _,_=>none
 | none=>none
def mkB(E:Env)(σ:St)(T:TypeId)(l c:Operand)(d:Nat):Option (St×List Prop):=
 match lk T E.Γ,Z3 σ l,Z3 σ c with
 | some ty,some (.v (.int _ n)),some (.v (.int _ m))=>bif Nat.beq ty.kd 3&&(Nat.blt d σ.n&&Yp (lk d σ.boxes)) then
    match lk ty.elem E.Γ with
    | some ety=>bif Nat.beq ety.size 0||(!(Nat.beq ety.zero.length ety.size)|| !(ety.zero.all flat)) then none
      else some (put {σ with boxes:=(d,reps n.toNat ety.zero)::σ.boxes} d (.sl d 0 n.toNat ety.size),[n=m,0≤n,n.toNat *ety.size < 16777216,n.toNat *ety.bytes < 16777216])
    | none=>none
   else none
 | _,_,_=>none
def ZoA:Operand→Bool
 | .const .nilFunc=>true
 | _=>false
def ZmT(E:Env)(C:ZZ)(CP:Y0)(CI:Yx)(G:Gx)(j:Nat)(σ:St)(o:Oper):Option (St×List Prop):=
 match o.op,o.dst with
 | .call ⟨.value (.func fid),args,_⟩,some d=>(match Wo (lk fid G.ow) with
   | true=>Zo9 E C G σ d fid args.toList
   | false=>TSym E C CP CI j σ o)
 | .binOp op T x y _,some d=>(match ZoA y with
   | true=>ZsM G σ op T x d
   | false=>TSym E C CP CI j σ o)
 | .buildSlice T n ps,some d=>(match has d G.ob with
   | true=>bsO E σ T n ps.toList d
   | false=>TSym E C CP CI j σ o)
 | .makeSlice T l c,some d=>(match has d G.cb with
   | true=>mkB E σ T l c d
   | false=>TSym E C CP CI j σ o)
 | _,_=>TSym E C CP CI j σ o
def ZbC(E:Env)(C:ZZ)(CP:Y0)(CI:Yx)(G:Gx)(j:Nat)(σ:St)(o:Oper):Option (St×List Prop):=
 match (match o.dst with | some d=>lk d G.pb | none=>none) with
 | some l=>match ZjF l σ with
   | some (σ1,ps)=>match ZmT E C CP CI G j σ1 o with
     | some (σ2,qs)=>some (σ2,ps++qs)
     | none=>none
   | none=>none
 | none=>ZmT E C CP CI G j σ o
structure OwOk(P:Program)(C:ZZ)(G:Gx):Prop where
 o:∀f T,lk f G.ow=some T→∀args r ps,C f args=some (r,ps)→Ys ps→Zli P f args T r
 nf:∀T,has T G.nf=true→∃a b c,P.underlying T=some (.func a b c)
theorem ZoB{P:Program}:∀T,has T []=true→∃a b c,P.underlying T=some (.func a b c):=fun T h=>absurd h (by simp[has])
theorem ZQ{P:Program}{C:ZZ}:OwOk P C noG:=⟨fun f T h=>by simp[noG,lk] at h,ZoB⟩
open Classical in
noncomputable def TG0(E:Env)(C:ZZ)(CP:Y0)(CI:Yx)(G:Gx)(j:Nat)(σ:St)(o:Oper):Option St:=match ZbC E C CP CI G j σ o with
 | some (σ',ps)=>if Ys ps then some σ' else none
 | none=>none
section
variable {P:Program}{B:Nat}{g:G}{σ:St}{a:Act}{w:World}{o:Oper}
theorem Zvu(hI:Inv P B g σ a w){l:List AV}{vals:List Value}(hl:vals.length=l.length)(hv:∀(j:Nat) (v:Value) (av:AV),vals[j]?=some v→l[j]?=some av→RepA g w v av)
 {xs:List PV} (hh:Xz σ.boxes l=some (xs,false)):ArgsRep g.hw w vals xs:=by
 obtain ⟨e1,e2⟩:=Zaa hh
 have getl:∀{j:Nat} {v:Value},vals[j]?=some v→∃av,l[j]?=some av:=by
  intro j v hj
  have:j < l.length:=by have:=(Qo_.1 hj).1;omega
  exact ⟨_,Qg_ this⟩
 refine ⟨by omega,fun j x y hx hy=>?_⟩
 obtain ⟨av,hav⟩:=getl hx
 obtain ⟨d,h3,h4⟩:=e2 j av y hav hy
 have hd:=h4 rfl
 subst hd
 have hr:=hv j x av hx hav
 cases av with
 | p z=>
   have:=Qa_ h3
   cases this
   exact Zbo hr
 | ptr b off=>
   unfold hand at h3
   split at h3
   ·rename_i e;cases e
   ·split at h3
    ·rename_i cs0 _
     cases hd:Xi cs0<;>rw[hd] at h3<;>cases h3
    ·cases h3
   ·rename_i e;cases e
   ·rename_i e;cases e
 | sl b off n s=>
   unfold hand at h3
   split at h3
   ·rename_i e;cases e
   ·rename_i e;cases e
   ·rename_i e;cases e
   ·cases h3
 | fnp f bs=>
   unfold hand at h3
   split at h3
   ·rename_i e;cases e
   ·rename_i e;cases e
   ·split at h3
    ·cases h3
    ·cases h3
   ·rename_i e;cases e
theorem ZoC{y:PV}(h:flat y=true):XC y=none:=by cases y<;>first | rfl | exact absurd h (by simp[flat])
theorem ZqE{E:Env}(hE:EnvOk P E){C:ZZ}{G:Gx}(hG:OwOk P C G)(hI:Inv P B g σ a w){fid d:Nat}{args:Array Operand}{ats:Array TypeId}{σ':St}{ps:List Prop}(hop:o.op= .call ⟨.value (.func fid),args,ats⟩)(hd:o.dst=some d)
 (h:Zo9 E C G σ d fid args.toList=some (σ',ps)) (hp:Ys ps):Goes P B g σ a w o σ':=by
 unfold Zo9 at h
 split at h
 ·rename_i T l hT hl
  split at h
  ·rename_i xs c hx
   split at h
   ·cases h
   ·split at h
    ·rename_i r qs hc
     split at h
     ·cases h
     ·rename_i hdn
      have hdn:d < σ.n:=Qm_ hdn
      obtain ⟨e1,e2⟩:=Zey hI hl
      have ha:=Zvu hI e1 e2 hx
      have key:∀{σ2:St} {K:Value→World→Prop},CallRes P fid (args.toList.map a.eval).toArray w K→(∀v w',K v w'→∃g',Inv P B g' σ2 (a.put o.dst v) w'∧Fr B g σ w g' σ2 w')→Goes P B g σ a w o σ2:=by
       intro σ2 K hcall hnext
       refine ZaH (hcall.mono hnext) (fun res hres=>?_)
       have e:args.map a.eval=(args.toList.map a.eval).toArray:=by apply QW_;simp
       have hfv:a.eval (.func fid)= .func (.func fid) #[] #[]:=rfl
       unfold execOp
       rw[hop]
       simp only[resolve,Deferred.ofValue,hfv,pure_bind,invoke,e]
       rw[←hres]
       congr 2
       simp
      split at h
      ·split at h
       ·rename_i rows ety hety
        cases hb:Yp (lk d σ.boxes) with
        | false=>rw[hb] at h;cases h
        | true=>
          rw[hb] at h
          cases Qa_ h
          obtain ⟨q1,q2⟩:=Jx hp
          obtain ⟨r1,r2,r3⟩:=q2 _ Qv_
          have hdb:lk d σ.boxes=none:=by
           cases hh:lk d σ.boxes with
           | none=>rfl
           | some c=>rw[hh] at hb;exact absurd hb (by simp[Yp])
          obtain ⟨i,z,hi,_,hsz,_⟩:=(ZS (hE.Γ _ _ hety)).info
          have hcon:=ZzJ (hG.o _ _ hT _ _ _ hc q1) hi (by rw[←hsz];exact r2) r1 r3
          refine key (ZqC (s:=ety.size) hI hcon ha hdn hdb (fun y hy=>?_)) (fun v w' hk=>by rw[hd];exact hk)
          obtain ⟨x,hx1,hx2⟩:=List.mem_flatten.1 hy
          exact ZoC (r3 x hx1 y hx2)
       ·cases h
      ·cases Qa_ h
       exact key (ZqD hI (hG.o _ _ hT _ _ _ hc hp) ha hdn) (fun v w' hk=>by rw[hd];exact hk)
    ·cases h
  ·cases h
 ·cases h
theorem ZsN{C:ZZ}{G:Gx}(hG:OwOk P C G)(hI:Inv P B g σ a w){op:BinOp}{T yT:TypeId}{x y:Operand}{d:Nat}{σ':St}{ps:List Prop}(hop:o.op= .binOp op T x y yT)(hy:ZoA y=true)(hd:o.dst=some d)
 (h:ZsM G σ op T x d=some (σ',ps)):Goes P B g σ a w o σ':=by
 unfold ZsM at h
 have hyc:y= .const .nilFunc:=by
  unfold ZoA at hy
  split at hy
  ·rfl
  ·cases hy
 subst hyc
 split at h
 ·cases h
 ·rename_i hb
  rw[Qh_] at hb
  obtain ⟨ta,tb,tc,hu⟩:=hG.nf T hb.1
  have hdn:d < σ.n:=Qm_ hb.2
  have fin:∀(b:Bool),(∃f vs,a.eval x= .func f #[] vs)→(op= .eql∧b=false∨op= .neq∧b=true)→σ'=put σ d (.p (.v (.bool b)))→Goes P B g σ a w o σ':=by
   intro b ⟨f,vs,hx⟩ hbo hσ
   subst hσ
   refine .inl ⟨.bool b,w, ?_,g,by rw[hd];exact WD hI hdn (.v _ rfl),⟨rfl,rfl,rfl,Q2_ _,rfl,fun _ _ _=>rfl,fun _ _ _ _=>rfl,fun _ _ _=>rfl,fun _ _ _=>rfl,fun _ cs' _ h=>⟨cs',h,rfl,rfl⟩,Ext.refl _ _⟩⟩
   have he:(Op.equal T (.func f #[] vs) .nilFunc).run P w= .ok false w:=by
    show (Op.equalIn 10000 T (.func f #[] vs) .nilFunc).run P w= .ok false w
    unfold Op.equalIn
    simp only[Sem.run_bind,run_underlying hu,Result.andThen_ok]
    rfl
   unfold execOp
   rw[hop]
   have e2:a.eval (.const .nilFunc)= .nilFunc:=rfl
   simp only[hx,e2]
   refine ZY ?_
   rcases hbo with ⟨rfl,rfl⟩ | ⟨rfl,rfl⟩<;>simp[eqGuard,binOp,he]
  have rp:∀{f:Nat} {cs:List PV},opd σ x=some (.p (.fn f cs))→∃f vs,a.eval x= .func f #[] vs:=fun hx=>by
   have hr:Rep g.hw w (a.eval x) (.fn _ _):=ZL hI hx
   generalize a.eval x=v at hr
   cases hr with
   | fn f vs cs _ _=>exact ⟨_,_,rfl⟩
  have rf:∀{f:Nat} {bs:List Nat},opd σ x=some (.fnp f bs)→∃f vs,a.eval x= .func f #[] vs:=fun hx=>by
   obtain ⟨vs,h1,_⟩:=ZL hI hx
   exact ⟨_,_,h1⟩
  split at h
  ·rename_i hx;cases Qa_ h;exact fin _ (rp hx) (.inl ⟨rfl,rfl⟩) rfl
  ·rename_i hx;cases Qa_ h;exact fin _ (rf hx) (.inl ⟨rfl,rfl⟩) rfl
  ·rename_i hx;cases Qa_ h;exact fin _ (rp hx) (.inr ⟨rfl,rfl⟩) rfl
  ·rename_i hx;cases Qa_ h;exact fin _ (rf hx) (.inr ⟨rfl,rfl⟩) rfl
  ·cases h
theorem ZzM{Γ:List (Nat×Ty)}(hΓ:Yr P Γ){hw:Nat→Nat}{T:TypeId}{n:Nat}{ps:List (Nat×PV)}{xs:List (List PV)}{ty:Ty}(h:WC Γ T n ps=some (.lst xs))(hty:lk T Γ=some ty)(hl0:∀k,w.heap.size≤k→hw k=0)
 {vs:List (Nat×Value)} (hl:vs.length=ps.length) (hr:∀(j:Nat) (v:Nat×Value) (p:Nat×PV),vs[j]?=some v→ps[j]?=some p→v.1=p.1∧Rep hw w v.2 p.2):
 ∃i out,P.info? ty.elem=some i∧n *i.size < 16777216∧i.size≠0∧(out:List Value).length=n *i.size∧(Instr.buildSlice T n vs.toArray).run P w= .ok (.slice (some ⟨w.heap.size,0,none⟩) n n) (w.alloc (.cells out.toArray ty.elem))∧
  Qt hw w (fun k=>if k=w.heap.size then n *i.size else hw k) (w.alloc (.cells out.toArray ty.elem))∧Rep (fun k=>if k=w.heap.size then n *i.size else hw k) (w.alloc (.cells out.toArray ty.elem)) (.slice (some ⟨w.heap.size,0,none⟩) n n) (.lst xs):=by
 unfold WC at h
 split at h
 ·rename_i sz by_ zc fs e m hty2
  rw[hty] at hty2
  cases Qa_ hty2
  have hT:=ZS (hΓ T _ hty)
  obtain ⟨_,hk3,_⟩:=Y4 hT
  have hu:=hk3 rfl
  simp only at hu
  split at h
  ·rename_i ety hety
   have hET:=ZS (hΓ _ _ hety)
   cases hb:(Nat.beq ety.size 0||Nat.ble 16777216 (n *ety.size)|| !(Nat.beq ety.zero.length ety.size)) with
   | true=>rw[hb] at h;cases h
   | false=>
     rw[hb] at h
     simp only[Qd_] at h
     simp only[Ka_,Qf_] at hb
     obtain ⟨⟨hb1,hb2⟩,hb3⟩:=hb
     have hs0:ety.size≠0:=fun h0=>by rw[h0] at hb1;exact absurd hb1 (by decide)
     have hn:n *ety.size < 16777216:=by
      rcases Kh_ (n *ety.size) 16777216 with h | h
      ·exact h
      ·rw[QF_ h] at hb2;cases hb2
     split at h
     ·rename_i cs hcs
      have:=Qa_ h
      injection this with this
      subst this
      obtain ⟨z,hz,hzc,h1,hzs⟩:=Wm hET w
      rw[hzc] at hcs
      obtain ⟨out,f1,f2,f3⟩:=ZaF (hw:=hw) (w:=w) (pl:=fun i=>some (i *ety.size,ety.size)) (fun i q hq=>hq) ps vs (Xp n z.cells.toList) _ cs (ZcW h1 n) hl hr hcs
      have hol:out.length=n *ety.size:=by rw[f3,ZdE];simp[hzs]
      obtain ⟨i,z',hi,_,hsz,_⟩:=hET.info
      refine ⟨i,out,hi,by rw[←hsz];exact hn,by rw[←hsz];exact hs0,by rw[←hsz];exact hol, ?_,ZeW hl0 (fun k hk=>by simp[hk]) _,by
       rw[←hsz]
       have:=ZeX hl0 f2 (rest:=[]) (n:=n) (s:=ety.size) (cap:=n) (by rw[←f2.len,hol]) (Q2_ _) e
       rw[QI_] at this
       exact this⟩
      have hnot:¬(n *ety.size > 2 ^ 24):=by omega
      unfold Instr.buildSlice
      simp only[Sem.run_bind,run_underlying hu,Result.andThen_ok,Ym hET,hnot,Kx_]
      by_cases h0:n *ety.size=0
      ·have hn0:n=0:=by
        rcases Nat.mul_eq_zero.1 h0 with h | h
        ·exact h
        ·exact absurd h hs0
       subst hn0
       have f1':Instr.fill (fun i=>some (i *ety.size,ety.size)) #[] vs=some out.toArray:=f1
       have e0:(Array.range 0).map (fun i=>(#[]:Array Value)[i % (#[]:Array Value).size]!)=#[]:=by apply QW_;simp
       simp only[Nat.zero_mul,Kw_,pure_bind,e0]
       rw[f1']
       rfl
      ·have hzp:0 < z.cells.size:=by omega
       have e1:=Zc7 hzp n
       rw[hzs] at e1
       simp only[h0,Kx_,Sem.run_bind,hz,Result.andThen_ok,Sem.run_pure,hzs,e1]
       have f1':Instr.fill (fun i=>some (i *ety.size,ety.size)) (Xp n z.cells.toList).toArray vs=some out.toArray:=f1
       rw[f1']
       simp[newRow]
     ·cases h
  ·cases h
 ·cases h
theorem Zx3{E:Env}(hE:EnvOk P E)(hI:Inv P B g σ a w){T:TypeId}{n:Nat}{ps:Array (Nat×Operand)}{d:Nat}{σ':St}{qs:List Prop}(hop:o.op= .buildSlice T n ps)(hdst:o.dst=some d)(h:bsO E σ T n ps.toList d=some (σ',qs)):Goes P B g σ a w o σ':=by
 unfold bsO at h
 split at h
 ·rename_i l hl
  split at h
  ·rename_i xs ty hv hty
   cases hb:Nat.blt d σ.n with
   | false=>rw[hb] at h;cases h
   | true=>
     rw[hb] at h
     cases Qa_ h
     have hd:d < σ.n:=Qm_ hb
     obtain ⟨e1,e2⟩:=Zip hI hl
     obtain ⟨i,out,hi,hn,hs0,hol,hrun,q,hrep⟩:=ZzM (w:=w) hE.Γ hv hty hI.hwlt e1 e2
     have hown:OwnV P B (fun k=>if k=w.heap.size then n *i.size else g.hw k) (w.alloc (.cells out.toArray ty.elem)) ty.elem (.slice (some ⟨w.heap.size,0,none⟩) n n):=by
      have hnm:n≤maxLen:=by
       have:n *1≤n *i.size:=Nat.mul_le_mul_left _ (by omega)
       have:(16777216:Nat)≤maxLen:=by simp only[maxLen];omega
       omega
      refine ⟨i,n,out,hi,⟨hol,.inr ⟨w.heap.size,n,out.toArray,rfl,hI.base,heap_alloc_new w _,Q2_ _,hnm,by simpa using hol,by simp[←hol]⟩⟩,fun k hk=>?_⟩
      have:k=w.heap.size:=by simp[Value.ownBlock] at hk;exact hk.symm
      simp[this]
     have:=JI (v:= .slice none 0 0) (own':=σ.own) hI hd (fun k hk=>absurd hk (by simp[Value.ownBlock])) (fun k hk=>absurd hk (by simp[Value.ownBlock])) (fun _ _ h=>h) (fun _ _ _ j _ _ hk=>absurd hk (by simp[Value.ownBlock])) q.grew hrep hown (.inr (fun k hk=>by simp[Value.ownBlock] at hk;omega))
     refine .inl ⟨_,_, ?_,by rw[hdst];exact ⟨_,this⟩⟩
     unfold execOp
     rw[hop]
     simp only
     rw[Zgd]
     exact ZY hrun
  ·cases h
 ·cases h
theorem Zx4{n:Nat}{z:List PV}{y:PV}(h:y∈reps n z):y∈z:=by
 induction n with
 | zero=>cases h
 | succ n ih=>
   rcases Kv_.1 h with h | h
   ·exact h
   ·exact ih h
theorem Zx5{E:Env}(hE:EnvOk P E)(hI:Inv P B g σ a w){T:TypeId}{l c:Operand}{d:Nat}{σ':St}{ps:List Prop}(hop:o.op= .makeSlice T l c)(hdst:o.dst=some d)(h:mkB E σ T l c d=some (σ',ps))(hp:Ys ps):Goes P B g σ a w o σ':=by
 unfold mkB at h
 split at h
 ·rename_i ty k n k' m hty hl hc
  cases hb:(Nat.beq ty.kd 3&&(Nat.blt d σ.n&&Yp (lk d σ.boxes))) with
  | false=>rw[hb] at h;cases h
  | true=>
    rw[hb] at h
    simp only[Qb_] at h
    simp only[Qh_] at hb
    obtain ⟨b1,b2,b3⟩:=hb
    have hkd:=Qj_ b1
    have hd:d < σ.n:=Qm_ b2
    have hdb:lk d σ.boxes=none:=by
     cases hh:lk d σ.boxes with
     | none=>rfl
     | some c=>rw[hh] at b3;exact absurd b3 (by simp[Yp])
    split at h
    ·rename_i ety hety
     cases hb:(Nat.beq ety.size 0||(!(Nat.beq ety.zero.length ety.size)|| !(ety.zero.all flat))) with
     | true=>rw[hb] at h;cases h
     | false=>
       rw[hb] at h
       cases Qa_ h
       simp only[Ka_,Qf_] at hb
       obtain ⟨c1,c2,c3⟩:=hb
       have e1:n=m:=hp _ Qv_
       have e2:0≤n:=hp _ (Qq_ _ Qv_)
       have hn1:n.toNat *ety.size < 16777216:=hp _ (Qq_ _ (Qq_ _ Qv_))
       have hn2:n.toNat *ety.bytes < 16777216:=hp _ (Qq_ _ (Qq_ _ (Qq_ _ Qv_)))
       subst e1
       have hs0:ety.size≠0:=fun h0=>by rw[h0] at c1;exact absurd c1 (by decide)
       have hET:=ZS (hE.Γ _ _ hety)
       obtain ⟨i,z,hi,hz,s1,s2,s3,s4,s5⟩:=hET.info
       obtain ⟨_,hk3,_⟩:=Y4 (ZS (hE.Γ _ _ hty))
       have hu:=hk3 hkd
       have rl:=ZB (Z1 hI hl)
       have rc:=ZB (Z1 hI hc)
       have hnn:(n.toNat:Int)=n:=Int.toNat_of_nonneg e2
       have hle:n.toNat≤n.toNat *ety.size:=Nat.le_mul_of_pos_right _ (by omega)
       have hrun:=run_makeSlice (P:=P) w T ty.elem i z hu hi hz k k' n n e2 (Int.le_refl _) (by rw[←s1];omega) (by rw[←s2,←hnn,←Int.natCast_mul,Nat.mul_comm];omega) (by omega)
       have hcells:madeCells z.cells (n.toNat *i.size)=(Xp n.toNat z.cells.toList).toArray:=by
        rw[←s5]
        exact Zc7 (by rw[s5,←s1];omega) n.toNat
       rw[hcells] at hrun
       have hlen:(Xp n.toNat z.cells.toList).length=n.toNat *i.size:=by rw[ZdE];simp[s5]
       have hmx:n.toNat≤maxLen:=by
        have:(16777216:Nat)≤maxLen:=by simp only[maxLen];omega
        omega
       have q:Qt g.hw w g.hw (w.alloc (.cells (Xp n.toNat z.cells.toList).toArray ty.elem)):=⟨(Below.refl _ _).alloc (Q2_ _) _,fun _ _=>rfl,fun k hk=>hI.hwlt k (by simp at hk;omega)⟩
       obtain ⟨i1,f1⟩:=Ze0 hI q
       have hrow:=World.ownsRow_lit (e:=ty.elem) (base:=B) (size:=i.size) w (Xp n.toNat z.cells.toList).toArray n.toNat hI.base hmx (by simpa using hlen)
       have hbx:∀(β:Nat→Option (Nat×Nat)) (hw2:Nat→Nat),BoxOk ⟨β,hw2⟩ (w.alloc (.cells (Xp n.toNat z.cells.toList).toArray ty.elem)) w.heap.size 0 (reps n.toNat ety.zero):=fun β hw2=>⟨fun j y hj=>by
        have hc:=ZcW (hw:=hw2) (w:=w.alloc (.cells (Xp n.toNat z.cells.toList).toArray ty.elem)) s4 n.toNat
        rw[←s3] at hc
        have hjl:j < (Xp n.toNat z.cells.toList).length:=by rw[hc.len];exact (Qo_.1 hj).1
        have hv:=Qg_ hjl
        refine ⟨_, ?_,hc.one _ (Qz_ hv), ?_,.rep (hc.rep j _ y hv hj)⟩
        ·rw[QP_,hrow.cellAt j (by rw[←hlen];exact hjl)];exact hv
        ·rw[QP_];exact hrow.frozenAt j⟩
       have hnb:∀b cs base,lk b σ.boxes=some cs→g.β b≠some (w.heap.size,base):=by
        intro b cs base hb e
        obtain ⟨k',base',e1,e2,_⟩:=hI.box b cs hb
        rw[e] at e1
        cases Qa_ e1
        omega
       have hno:∀l E val,lkL l σ.own=some E→LocIs g a (w.alloc (.cells (Xp n.toNat z.cells.toList).toArray ty.elem)) l val→val.ownBlock≠some w.heap.size:=by
        intro l E val hl hloc e
        obtain ⟨val0,q1,q2,_⟩:=hI.own l E hl
        have:val0=val:=by
         cases l with
         | t t=>exact q1.symm.trans hloc
         | b b c=>
           obtain ⟨k1,b1,e1,e2⟩:=q1
           obtain ⟨k2,b2,e3,e4⟩:=hloc
           rw[e1] at e3
           cases Qa_ e3
           obtain ⟨c1,hc1⟩:=hI.ownt _ E hl
           obtain ⟨k3,b3,e5,e6,_⟩:=hI.box b c1 hc1
           rw[e1] at e5
           cases Qa_ e5
           rw[q.cell k1 _ e6] at e4
           exact Qa_ (e2.symm.trans e4)
        subst this
        have:=(Yq q2 _ e).1
        omega
       obtain ⟨i2,f2⟩:=Zop i1 (n:=n.toNat) (s:=ety.size) (cap:=n.toNat) hd hdb (by simp) hI.base (hI.hwlt _ (Q2_ _)) (Q2_ _) hnb hno (hbx _ _) (fun y hy b' hb'=>by
        rw[ZoC (QK_.1 c3 y (Zx4 hy))] at hb';cases hb')
       refine .inl ⟨_,_, ?_,_,by rw[hdst];exact i2,f1.trans f2⟩
       unfold execOp
       rw[hop]
       simp only[rl,rc]
       exact ZY hrun
    ·cases h
 ·cases h
theorem ZjH{E:Env}(hE:EnvOk P E){C:ZZ}(hC:CSOk P C){CP:Y0}(hP:CSPOk P CP){CI:Yx}(hJ:CSIOk P CI){G:Gx}(hG:OwOk P C G){j:Nat}{σ':St}{ps:List Prop}
 (h:ZmT E C CP CI G j σ o=some (σ',ps)) (hp:Ys ps) (hI:Inv P B g σ a w):Goes P B g σ a w o σ':=by
 have hT:∀{σ':St} {ps:List Prop},TSym E C CP CI j σ o=some (σ',ps)→Ys ps→Goes P B g σ a w o σ':=fun h hp=>Z1X hE (ZjB hC) (Z04 hP) (Z05 hJ) j σ o _ (ZzL _ _ _ _ _ h hp) B g a w hI
 unfold ZmT at h
 split at h
 ·rename_i fid args ats d hop hd
  split at h
  ·exact ZqE hE hG hI hop hd h hp
  ·exact hT h hp
 ·rename_i op T x y yT d hop hd
  split at h
  ·rename_i hy
   exact ZsN hG hI hop hy hd h
  ·exact hT h hp
 ·rename_i T n ps d hop hd
  split at h
  ·exact Zx3 hE hI hop hd h
  ·exact hT h hp
 ·rename_i T l c d hop hd
  split at h
  ·exact Zx5 hE hI hop hd h hp
  ·exact hT h hp
 ·exact hT h hp
theorem ZsO{E:Env}(hE:EnvOk P E){C:ZZ}(hC:CSOk P C){CP:Y0}(hP:CSPOk P CP){CI:Yx}(hJ:CSIOk P CI){G:Gx}(hG:OwOk P C G){j:Nat}{σ':St}{ps:List Prop}
 (h:ZbC E C CP CI G j σ o=some (σ',ps)) (hp:Ys ps) (hI:Inv P B g σ a w):Goes P B g σ a w o σ':=by
 unfold ZbC at h
 split at h
 ·split at h
  ·rename_i σ1 ps1 h1
   split at h
   ·rename_i σ2 qs h2
    cases Qa_ h
    obtain ⟨q1,q2⟩:=Jx hp
    obtain ⟨g1,i1,f1⟩:=ZjG h1 q1 hI
    exact (ZjH hE hC hP hJ hG h2 q2 i1).mono fun v w' ⟨g',k1,k2⟩=>⟨g',k1,f1.trans k2⟩
   ·cases h
  ·cases h
 ·exact ZjH hE hC hP hJ hG h hp hI
theorem ZhA{E:Env}{C:ZZ}{CP:Y0}{CI:Yx}{G:Gx}:TSub (ZbC E C CP CI G) (TG0 E C CP CI G):=fun j σ o σ' ps h hp=>by
 unfold TG0
 rw[h]
 simp only[hp,Kw_]
theorem ZjI{E:Env}(hE:EnvOk P E){C:ZZ}(hC:CSOk P C){CP:Y0}(hP:CSPOk P CP){CI:Yx}(hJ:CSIOk P CI){G:Gx}(hG:OwOk P C G):∀j σ o σ',TG0 E C CP CI G j σ o=some σ'→∀B g a w,Inv P B g σ a w→Goes P B g σ a w o σ':=by
 intro j σ o σ' h B g a w hI
 unfold TG0 at h
 split at h
 ·rename_i σ2 ps h2
  split at h
  ·rename_i hp
   cases Qa_ h
   exact ZsO hE hC hP hJ hG h2 hp hI
  ·cases h
 ·cases h
end
def ZbD(E:Env)(l:List ResultVar)(Q:PV→Prop)(e:Ex)(σ:St):Prop:=
 bif Zjj e then (match ZdI E.Γ σ l with
  | some r=>Q (ZmJ r)
  | none=>False) else False
def sxF(E:Env)(C:ZZ)(CP:Y0)(CI:Yx)(G:Gx)(LS:List (Nat×LSum))(n:Nat)(fn:Func)(args:List PV)(Q:PV→Prop):Prop:=
 match fn.body with
 | some c=>bif Nat.ble args.length fn.ntmps then
    Zo3 (XM fn.ntmps args) fun σ=>YM E.Γ (RSym E C) (ZbC E C CP CI G) LS n none c σ (ZbD E fn.results.toList Q)
   else False
 | none=>False
def ZN(P:Program)(LS:List (Nat×LSum))(fn:Func):Prop:=∀c,fn.body=some c→∀b∈ZH c,∀S,lk (X2 b) LS=some S→Yo P b S
theorem Zig{P:Program}{fn:Func}:ZN P [] fn:=fun c _ b _ S h=>by simp[lk] at h
theorem Z08{P:Program}{E:Env}(hE:EnvOk P E){C:ZZ}(hC:CSOk P C){CP:Y0}(hP:CSPOk P CP){CI:Yx}(hI:CSIOk P CI){G:Gx}(hG:OwOk P C G){LS:List (Nat×LSum)}{f:Nat}{fn:Func}(hf:lk f E.fns=some fn)(hL:ZN P LS fn){n:Nat}{args:List PV}{Q:PV→Prop}
 (h:sxF E C CP CI G LS n fn args Q):∃r,Q r∧Con P f args r:=by
 obtain ⟨k1,k2⟩:=hE.fns f fn hf
 unfold sxF at h
 split at h
 ·rename_i c hc
  cases hb:Nat.ble args.length fn.ntmps with
  | false=>rw[hb] at h;exact h.elim
  | true=>
    rw[hb] at h
    simp only[Qb_,Zlg] at h
    obtain ⟨e,σ',h1,h2,_⟩:=(ZaN hE.Γ hE.mixed ZjD (Zgw hE (ZjB hC)) ZhA (ZjI hE hC hP hI hG) n).1 c _ _ (hL c hc) h
    unfold ZbD at h1
    cases ho:Zjj e with
    | false=>rw[ho] at h1;exact h1.elim
    | true=>
      rw[ho] at h1
      simp only[Qb_] at h1
      split at h1
      ·rename_i r hr
       exact ⟨_,h1,ZuQ hE.Γ k2 k1 hc hb h2 ho hr⟩
      ·exact h1.elim
 ·exact h.elim
theorem ZzN{P:Program}{E:Env}(hE:EnvOk P E){C:ZZ}(hC:CSOk P C){CP:Y0}(hP:CSPOk P CP){CI:Yx}(hI:CSIOk P CI){G:Gx}(hG:OwOk P C G){LS:List (Nat×LSum)}{b:Code}(hL:∀b'∈ZH b,∀S,lk (X2 b') LS=some S→Yo P b' S){n:Nat}{σ:St}{K:Ex→St→Prop}
 (h:YM E.Γ (RSym E C) (ZbC E C CP CI G) LS n none b σ K):∃e σ',K e σ'∧Tri P b σ e σ':=by
 obtain ⟨e,σ',h1,h2,_⟩:=(ZaN hE.Γ hE.mixed ZjD (Zgw hE (ZjB hC)) ZhA (ZjI hE hC hP hI hG) n).1 b _ _ hL h
 exact ⟨e,σ',h1,h2⟩
def nz1:PV→PV
 | .nil=> .lst []
 | x=>x
def nzA:PV→PV
 | .nil=> .lst []
 | .agg cs=> .agg (cs.map nz1)
 | x=>x
def nz:PV→PV
 | .tup vs=> .tup (vs.map nzA)
 | x=>nzA x
section
variable {P:Program}{hw:Nat→Nat}{w:World}
theorem ZzO{v:Value}{x:PV}(h:Rep hw w v x):Rep hw w v (nz1 x):=by
 cases h<;>first | exact .lnil | (constructor<;>assumption)
theorem Zlj{v:Value}{x:PV}(h:Rep hw w v x):Rep hw w v (nzA x):=by
 cases x with
 | nil=>cases h;exact .lnil
 | agg cs=>
   cases h with
   | agg vs _ hl hr h1=>
     refine .agg vs _ (by simpa using hl) (fun j a b ha hb=>?_) h1
     rw[Q6_] at hb
     cases hc:cs[j]? with
     | none=>rw[hc] at hb;cases hb
     | some c=>
       rw[hc] at hb
       have:=Qa_ hb
       subst this
       exact ZzO (hr j a c ha hc)
 | _=>exact h
theorem Z09{v:Value}{x:PV}(h:Rep hw w v x):Rep hw w v (nz x):=by
 cases x with
 | tup vs=>
   cases h with
   | tup us _ hl hr=>
     refine .tup us _ (by simpa using hl) (fun j a b ha hb=>?_)
     rw[Q6_] at hb
     cases hc:vs[j]? with
     | none=>rw[hc] at hb;cases hb
     | some c=>
       rw[hc] at hb
       have:=Qa_ hb
       subst this
       exact Zlj (hr j a c ha hc)
 | _=>exact Zlj h
theorem ZrC{vals:List Value}{args:List PV}(h:ArgsRep hw w vals args):ArgsRep hw w vals (args.map nzA):=by
 refine ⟨by simpa using h.len,fun j a b ha hb=>?_⟩
 rw[Q6_] at hb
 cases hc:args[j]? with
 | none=>rw[hc] at hb;cases hb
 | some c=>
   rw[hc] at hb
   have:=Qa_ hb
   subst this
   exact Zlj (h.rep j a c ha hc)
end
theorem Zvv{P:Program}{f:FuncId}{args:List PV}{r:PV}(h:Con P f args r):Con P f args (nz r):=fun hw w vals hl hg ha=>
 (h hw w vals hl hg ha).mono fun _ _ ⟨hw',q,hr⟩=>⟨hw',q,Z09 hr⟩
theorem Zx6{P:Program}{f:FuncId}{args:List PV}{r:PV}(h:Con P f (args.map nzA) r):Con P f args r:=fun hw w vals hl hg ha=>h hw w vals hl hg (ZrC ha)
abbrev Ent:=List PV→Option (PV×List Prop)
def YN(l:List (Nat×Ent)):ZZ:=fun f args=>match lk f l with
 | some g=>g (args.map nzA)
 | none=>none
def Zj(P:Program)(f:Nat)(g:Ent):Prop:=∀args r ps,g args=some (r,ps)→Ys ps→Con P f args r
theorem Zh{P:Program}:CSOk P (YN []):=fun f args r ps h=>by simp[YN,lk] at h
theorem Zb{P:Program}{f:Nat}{g:Ent}{l:List (Nat×Ent)}(h:Zj P f g)(hl:CSOk P (YN l)):CSOk P (YN ((f,g)::l)):=fun f' args r ps he hp=>by
 unfold YN at he
 rw[Zz] at he
 by_cases e:f'=f
 ·rw[if_pos e] at he
  subst e
  exact Zx6 (h _ _ _ he hp)
 ·rw[if_neg e] at he
  exact hl f' args r ps he hp
def Z2A(P:Program)(f:Nat)(g:Ent)(T:Nat):Prop:=∀args r ps,g args=some (r,ps)→Ys ps→Zli P f args T r
theorem Zvw{P:Program}{f:FuncId}{args:List PV}{T:Nat}{r:PV}(h:Zli P f (args.map nzA) T r):Zli P f args T r:=fun hw w vals hl hg ha=>h hw w vals hl hg (ZrC ha)
def OwL(P:Program)(l:List (Nat×Ent))(ow:List (Nat×Nat)):Prop:=∀f T,lk f ow=some T→∀g,lk f l=some g→Z2A P f g T
theorem ZrD{P:Program}{l:List (Nat×Ent)}:OwL P l []:=fun f T h=>by simp[lk] at h
theorem ZrE{P:Program}{l:List (Nat×Ent)}{G:Gx}(h:OwL P l G.ow)(hn:∀T,has T G.nf=true→∃a b c,P.underlying T=some (.func a b c)):OwOk P (YN l) G:=⟨fun f T h1 args r ps h2 hp=>by
 unfold YN at h2
 split at h2
 ·rename_i g hg
  exact Zvw (h f T h1 g hg _ _ _ h2 hp)
 ·exact absurd h2 (by simp),hn⟩
def Zg2:Y0:=fun _ _ _=>none
def Zg3:Yx:=fun _ _ _=>none
theorem ZJ{P:Program}:CSPOk P Zg2:=fun _ _ _ _ _ _ h=>absurd h (by simp[Zg2])
theorem ZK{P:Program}:CSIOk P Zg3:=fun _ _ _ _ _ _ h=>absurd h (by simp[Zg3])
theorem ZrF{P:Program}{E:Env}(hE:EnvOk P E){C:ZZ}(hC:CSOk P C){CP:Y0}(hP:CSPOk P CP){CI:Yx}(hI:CSIOk P CI){G:Gx}(hG:OwOk P C G){LS:List (Nat×LSum)}{f:Nat}{fn:Func}(hf:lk f E.fns=some fn)(hL:ZN P LS fn){n:Nat}{args:List PV}{X:PV}
 (h:sxF E C CP CI G LS n fn args (fun r=>nz r=X)):Con P f args X:=by
 obtain ⟨r,hr,hc⟩:=Z08 hE hC hP hI hG hf hL h
 rw[←hr]
 exact Zvv hc
def JJ{α:Type}(l:List (Nat×α)):List Nat→List (Nat×α)
 | []=>[]
 | t::r=>match lk t l with
   | some v=>(t,v)::JJ l r
   | none=>JJ l r
def ZdP(l:List (Loc×Nat)):List Loc→List (Loc×Nat)
 | []=>[]
 | t::r=>match lkL t l with
   | some v=>(t,v)::ZdP l r
   | none=>ZdP l r
theorem ZdQ{α:Type}{l:List (Nat×α)}{t:Nat}{v:α}:∀{ks:List Nat},lk t (JJ l ks)=some v→lk t l=some v
 | [],h=>by simp[JJ,lk] at h
 | k::r,h=>by
   unfold JJ at h
   split at h
   ·rename_i v' hv
    rw[Zz] at h
    split at h
    ·rename_i e
     subst e
     rw[hv];exact h
    ·exact ZdQ h
   ·exact ZdQ h
theorem Zvx{a b:Loc}(h:a.eq b=true):a=b:=by
 cases a<;>cases b<;>simp only[Loc.eq,Qh_] at h
 ·rw[Qj_ h]
 ·cases h
 ·cases h
 ·rw[Qj_ h.1,Qj_ h.2]
theorem Zg4{l:List (Loc×Nat)}{t:Loc}{v:Nat}:∀{ks:List Loc},lkL t (ZdP l ks)=some v→lkL t l=some v
 | [],h=>by simp[ZdP,lkL] at h
 | k::r,h=>by
   unfold ZdP at h
   split at h
   ·rename_i v' hv
    unfold lkL at h
    cases hb:t.eq k with
    | true=>
      rw[hb] at h
      rw[Zvx hb,hv]
      exact h
    | false=>
      rw[hb] at h
      exact Zg4 h
   ·exact Zg4 h
structure Kp where
 t:List Nat
 b:List Nat
 o:List Loc
def ZjJ(bx:List (Nat×List PV))(b:Nat):Bool:=Wo (lk b bx)
def okS(τ:St):Bool:=
 τ.tmps.all (fun (_,v)=>(Wp v).all (ZjJ τ.boxes))&&(τ.own.all (fun (l,_)=>match l with | .t _=>true | .b b _=>ZjJ τ.boxes b)&&τ.boxes.all (fun (_,cs)=>(JZ cs).all (ZjJ τ.boxes)))
def ZsP(k:Kp)(σ:St):Option St:=
 bif okS ⟨σ.n,JJ σ.tmps k.t,JJ σ.boxes k.b,σ.ro,ZdP σ.own k.o,[]⟩ then some ⟨σ.n,JJ σ.tmps k.t,JJ σ.boxes k.b,σ.ro,ZdP σ.own k.o,[]⟩ else none
theorem Zg5{bx:List (Nat×List PV)}{b:Nat}(h:ZjJ bx b=true):∃cs,lk b bx=some cs:=by
 unfold ZjJ at h
 cases hb:lk b bx with
 | none=>rw[hb] at h;exact absurd h (by simp[Wo])
 | some cs=>exact ⟨cs,rfl⟩
theorem Zlk{α:Type}{t:Nat}{v:α}:∀{l:List (Nat×α)},lk t l=some v→(t,v)∈l
 | [],h=>by simp[lk] at h
 | (t',v')::r,h=>by
   rw[Zz] at h
   split at h
   ·rename_i e
    subst e
    have:=Qa_ h
    subst this
    exact Qv_ ..
   ·exact Qq_ _ (Zlk h)
theorem ZoD{t:Loc}{v:Nat}:∀{l:List (Loc×Nat)},lkL t l=some v→(t,v)∈l
 | [],h=>by simp[lkL] at h
 | (t',v')::r,h=>by
   unfold lkL at h
   cases hb:t.eq t' with
   | true=>
     rw[hb] at h
     have:=Qa_ h
     subst this
     rw[Zvx hb]
     exact Qv_ ..
   | false=>rw[hb] at h;exact Qq_ _ (ZoD h)
theorem Zvy{k:Kp}{σ τ:St}(h:ZsP k σ=some τ):Sub τ σ:=by
 unfold ZsP at h
 cases hb:okS ⟨σ.n,JJ σ.tmps k.t,JJ σ.boxes k.b,σ.ro,ZdP σ.own k.o,[]⟩ with
 | false=>rw[hb] at h;cases h
 | true=>
   rw[hb] at h
   have:=Qa_ h
   subst this
   simp only[okS,Qh_] at hb
   obtain ⟨h1,h2,h3⟩:=hb
   have tm:∀t v,lk t (JJ σ.tmps k.t)=some v→∀b∈Wp v,∃cs,lk b (JJ σ.boxes k.b)=some cs:=fun t v ht b hm=>
    Zg5 (QK_.1 (QK_.1 h1 _ (Zlk ht)) b hm)
   refine ⟨rfl,fun t v ht=>ZdQ ht,fun b cs hb=>ZdQ hb,fun b hm=>hm,fun t b off ht=>tm t _ ht b (by simp[Wp]),fun t f bs ht b hm=>tm t _ ht b hm,fun l E hl=>Zg4 hl,fun b c E hl=>?_,fun t l hm=>absurd hm (by simp),fun t b c hm=>absurd hm (by simp),fun t b off n s ht=>tm t _ ht b (by simp[Wp]),fun b cs hb y hy b' hb'=>?_⟩
   ·exact Zg5 (QK_.1 h2 _ (ZoD hl))
   ·exact Zg5 (QK_.1 (QK_.1 h3 _ (Zlk hb)) b' (ZaE hy hb'))
def Z6(fn:Func)(i:Nat):Code:=match fn.body with
 | some c=>(ZH c).getD i .skip
 | none=> .skip
def LsA(P:Program)(LS:List (Nat×LSum)):List Code→Prop
 | []=>True
 | b::r=>(∀S,lk (X2 b) LS=some S→Yo P b S)∧LsA P LS r
theorem Z0{P:Program}{LS:List (Nat×LSum)}:LsA P LS []:=trivial
theorem ZR{P:Program}{LS:List (Nat×LSum)}{b:Code}{r:List Code}{i:Nat}{S:LSum}(hi:X2 b=i)(hl:lk i LS=some S)(h:Yo P b S)(hr:LsA P LS r):LsA P LS (b::r):=
 ⟨fun S' h'=>by rw[hi,hl] at h';have:=Qa_ h';subst this;exact h,hr⟩
theorem Zll{P:Program}{LS:List (Nat×LSum)}:∀{l:List Code},LsA P LS l→∀b∈l,∀S,lk (X2 b) LS=some S→Yo P b S
 | [],_,b,hb,_,_=>absurd hb (by simp)
 | c::r,h,b,hb,S,hS=>by
   rcases Q9_.1 hb with e | hb
   ·subst e;exact h.1 S hS
   ·exact Zll h.2 b hb S hS
theorem Yh{P:Program}{LS:List (Nat×LSum)}{c:Code}{l:List Code}(he:ZH c=l)(h:LsA P LS l):∀b∈ZH c,∀S,lk (X2 b) LS=some S→Yo P b S:=by
 rw[he];exact Zll h
theorem ZI{P:Program}{LS:List (Nat×LSum)}{fn:Func}{l:List Code}(he:(match fn.body with | some c=>ZH c | none=>[])=l)(h:LsA P LS l):ZN P LS fn:=fun c hc b hm S hl=>by
 rw[hc] at he
 simp only at he
 rw[he] at hm
 exact Zll h b hm S hl
def ZsQ(Γ:List (Nat×Ty))(t E:Nat)(σ:St):St:=match lk t σ.tmps,lk E Γ with
 | some (.p .nil),some _=>{σ with tmps:=(t,.p (.lst []))::σ.tmps,own:=(.t t,E)::σ.own}
 | _,_=>σ
def ZmU(Γ:List (Nat×Ty))(t E:Nat)(σ:St):St:=match lk t σ.tmps with
 | some (.p .nil)=>ZsQ Γ t E σ
 | _=>match lk t σ.al with
   | some l=>match lkL l σ.own with
     | some E'=>bif Nat.beq E E'&&Nat.blt t σ.n then {σ with own:=(.t t,E)::σ.own.filter fun (l',_)=> !(l'.eq l)} else σ
     | none=>σ
   | none=>σ
def ZmV(Γ:List (Nat×Ty))(b c E:Nat)(σ:St):St:=match lk b σ.boxes,lk E Γ with
 | some cs,some _=>match cs[c]? with
   | some .nil=>bif Nat.blt b σ.n then {σ with boxes:=(b,cs.set c (.lst []))::σ.boxes,own:=(.b b c,E)::σ.own} else σ
   | _=>σ
 | _,_=>σ
def ZjK(Γ:List (Nat×Ty))(l:Loc)(E:Nat)(σ:St):St:=match l with
 | .t t=>ZmU Γ t E σ
 | .b b c=>ZmV Γ b c E σ
def ZcS(Γ:List (Nat×Ty)):List (Loc×Nat)→St→St
 | [],σ=>σ
 | (l,E)::r,σ=>ZcS Γ r (ZjK Γ l E σ)
section
variable {P:Program}{B:Nat}{g:G}{σ τ:St}{a:Act}{w:World}
theorem Zx7{Γ:List (Nat×Ty)}(hΓ:Yr P Γ){t E:Nat}(hI:Inv P B g σ a w):Inv P B g (ZsQ Γ t E σ) a w:=by
 unfold ZsQ
 split
 ·rename_i ety ht hE
  obtain ⟨hlt,hrep⟩:=hI.tmp t _ ht
  have hval:a.tmps.getD t undef= .slice none 0 0:=by
   have hrep:Rep g.hw w (a.tmps.getD t undef) .nil:=hrep
   generalize a.tmps.getD t undef=v at hrep
   cases hrep;rfl
  obtain ⟨i,z,hi,_⟩:=(ZS (hΓ _ _ hE)).info
  have hown:OwnV P B g.hw w E (.slice none 0 0):=⟨i,0,[],hi,World.ownsRow_nil _ _ _ _,fun k hk=>absurd hk (by simp[Value.ownBlock])⟩
  have h1:=ZdF hI hlt hval hown (fun k hk=>absurd hk (by simp[Value.ownBlock])) (fun l E' val' k _ _ hk=>absurd hk (by simp[Value.ownBlock]))
  have lkc:∀t' v,lk t' ((t,AV.p (.lst []))::σ.tmps)=some v→(t'=t∧v= .p (.lst []))∨lk t' σ.tmps=some v:=by
   intro t' v h
   rw[Zz] at h
   split at h
   ·rename_i e
    exact .inl ⟨e,(Qa_ h).symm⟩
   ·exact .inr h
  refine ⟨h1.size,h1.defers,fun t' v h=>?_,fun t' b off h=>?_,fun t' f bs h=>?_,h1.box,h1.inj,h1.hwlt,h1.base,h1.glob,h1.own,h1.ownt,h1.owninj,h1.al,h1.alt,fun t' b off n s h=>?_,h1.ref⟩
  ·rcases lkc t' v h with ⟨rfl,rfl⟩ | h
   ·exact ⟨hlt,by show Rep g.hw w _ (.lst []);rw[hval];exact .lnil⟩
   ·exact hI.tmp t' v h
  ·rcases lkc t' _ h with ⟨_,e⟩ | h
   ·cases e
   ·exact hI.ptr t' b off h
  ·rcases lkc t' _ h with ⟨_,e⟩ | h
   ·cases e
   ·exact hI.fnp t' f bs h
  ·rcases lkc t' _ h with ⟨_,e⟩ | h
   ·cases e
   ·exact hI.sl t' b off n s h
 ·exact hI
theorem Zvz{Γ:List (Nat×Ty)}(hΓ:Yr P Γ){t E:Nat}(hI:Inv P B g σ a w):Inv P B g (ZmU Γ t E σ) a w:=by
 unfold ZmU
 split
 ·exact Zx7 hΓ hI
 ·split
  ·rename_i l hl
   split
   ·rename_i E' hE
    cases hb:(Nat.beq E E'&&Nat.blt t σ.n) with
    | false=>exact hI
    | true=>
      rw[Qh_] at hb
      have e1:=Qj_ hb.1
      subst e1
      have hlt:t < σ.n:=Qm_ hb.2
      have hal:=hI.al t l (ZbO hl)
      obtain ⟨val,v1,v2,v3⟩:=hI.own l E hE
      have hv:a.tmps.getD t undef=val:=Za3 hal v1
      have hf:∀l2 E2,lkL l2 (σ.own.filter fun (l',_)=> !(l'.eq l))=some E2→l2≠l∧lkL l2 σ.own=some E2:=by
       intro l2 E2 h
       rw[Yl (fun l'=> !(l'.eq l))] at h
       split at h
       ·rename_i hn
        refine ⟨fun e=>?_,h⟩
        subst e
        rw[Loc.eq_iff.2 rfl] at hn
        cases hn
       ·cases h
      have base:Inv P B g {σ with own:=σ.own.filter fun (l',_)=> !(l'.eq l)} a w:=
       ⟨hI.size,hI.defers,hI.tmp,hI.ptr,hI.fnp,hI.box,hI.inj,hI.hwlt,hI.base,hI.glob,fun l2 E2 h=>hI.own l2 E2 (hf l2 E2 h).2,fun l2 E2 h=>hI.ownt l2 E2 (hf l2 E2 h).2,
        fun l2 l3 E2 E3 x y k h2 h3=>hI.owninj l2 l3 E2 E3 x y k (hf l2 E2 h2).2 (hf l3 E3 h3).2,hI.al,hI.alt,hI.sl,hI.ref⟩
      refine ZdF base hlt hv v2 v3 (fun l2 E2 val2 k h2 hloc hk hk2=>?_)
      exact (hf l2 E2 h2).1 (hI.owninj l2 l E2 E val2 val k (hf l2 E2 h2).2 hE hloc v1 hk2 hk)
   ·exact hI
  ·exact hI
theorem Zv0{Γ:List (Nat×Ty)}(hΓ:Yr P Γ){b c E:Nat}(hI:Inv P B g σ a w):Inv P B g (ZmV Γ b c E σ) a w:=by
 unfold ZmV
 split
 ·rename_i cs ety hb hE
  split
  ·rename_i hc
   cases hn:Nat.blt b σ.n with
   | false=>exact hI
   | true=>
     obtain ⟨k0,base0,hk0,hlt0,hok0,hh0,hB0⟩:=hI.box b cs hb
     have hlen:c < cs.length:=(Qo_.1 hc).1
     obtain ⟨v0,q1,q2,q3,q4⟩:=hok0.cell c .nil hc
     have hv0:v0= .slice none 0 0:=by
      have h:=q4.plain rfl
      cases h;rfl
     subst hv0
     obtain ⟨i,z,hi,_⟩:=(ZS (hΓ _ _ hE)).info
     have hown:OwnV P B g.hw w E (.slice none 0 0):=⟨i,0,[],hi,World.ownsRow_nil _ _ _ _,fun k hk=>absurd hk (by simp[Value.ownBlock])⟩
     have lkc:∀b' cs',lk b' ((b,cs.set c (.lst []))::σ.boxes)=some cs'→(b'=b∧cs'=cs.set c (.lst []))∨lk b' σ.boxes=some cs':=by
      intro b' cs' h
      rw[Zz] at h
      split at h
      ·rename_i e
       exact .inl ⟨e,(Qa_ h).symm⟩
      ·exact .inr h
     have lkm:∀b',(∃cs',lk b' σ.boxes=some cs')→∃cs',lk b' ((b,cs.set c (.lst []))::σ.boxes)=some cs':=by
      intro b' ⟨cs',h⟩
      rw[Zz]
      split
      ·exact ⟨_,rfl⟩
      ·exact ⟨cs',h⟩
     have lkb:∀b' cs',lk b' ((b,cs.set c (.lst []))::σ.boxes)=some cs'→∃cs0,lk b' σ.boxes=some cs0:=by
      intro b' cs' h
      rcases lkc b' cs' h with ⟨rfl,_⟩ | h
      ·exact ⟨_,hb⟩
      ·exact ⟨_,h⟩
     have lko:∀l E',lkL l ((Loc.b b c,E)::σ.own)=some E'→(l= .b b c∧E'=E)∨(l≠ .b b c∧lkL l σ.own=some E'):=by
      intro l E' hl
      rw[W7] at hl
      split at hl
      ·rename_i e;exact .inl ⟨e,(Qa_ hl).symm⟩
      ·rename_i e;exact .inr ⟨e,hl⟩
     have nob:∀{v:Value},LocIs g a w (.b b c) v→v.ownBlock=none:=by
      intro v h
      obtain ⟨k1,b1,e1,e2⟩:=h
      rw[hk0] at e1
      cases Qa_ e1
      rw[q1] at e2
      cases Qa_ e2
      rfl
     refine ⟨hI.size,hI.defers,hI.tmp,fun t b' off h=>lkm b' (hI.ptr t b' off h),fun t f bs h b' hb'=>lkm b' (hI.fnp t f bs h b' hb'), ?_, ?_,hI.hwlt,hI.base,hI.glob, ?_, ?_, ?_,hI.al,fun t b' c' h=>lkm b' (hI.alt t b' c' h),fun t b' off n s h=>lkm b' (hI.sl t b' off n s h), ?_⟩
     ·intro b' cs' h
      rcases lkc b' cs' h with ⟨rfl,rfl⟩ | h
      ·refine ⟨k0,base0,hk0,hlt0,⟨fun j y hy=>?_⟩,hh0,hB0⟩
       rw[List.getElem?_set] at hy
       split at hy
       ·rename_i e
        subst e
        have hy:some (PV.lst [])=some y:=by simpa [hlen] using hy
        cases Qa_ hy
        exact ⟨_,q1,q2,q3,.rep .lnil⟩
       ·exact hok0.cell j y hy
      ·exact hI.box b' cs' h
     ·intro b1 b2 c1 c2 k x y h1 h2
      obtain ⟨d1,h1⟩:=lkb _ _ h1
      obtain ⟨d2,h2⟩:=lkb _ _ h2
      exact hI.inj b1 b2 d1 d2 k x y h1 h2
     ·intro l E' hl
      rcases lko l E' hl with ⟨rfl,rfl⟩ | ⟨_,hl⟩
      ·exact ⟨.slice none 0 0,⟨k0,base0,hk0,q1⟩,hown,fun k hk=>absurd hk (by simp[Value.ownBlock])⟩
      ·obtain ⟨val,v1,v2,v3⟩:=hI.own l E' hl
       refine ⟨val,v1,v2,fun k hk b' cs' base h=>?_⟩
       obtain ⟨d1,h⟩:=lkb _ _ h
       exact v3 k hk b' d1 base h
     ·intro l E' hl
      rcases lko l E' hl with ⟨rfl,rfl⟩ | ⟨_,hl⟩
      ·exact lkm b ⟨cs,hb⟩
      ·have:=hI.ownt l E' hl
       cases l with
       | t t=>exact this
       | b b1 c1=>exact lkm b1 this
     ·intro l l' E1 E2 v1 v2 k hl hl' h1 h2 h3 h4
      rcases lko l E1 hl with ⟨rfl,rfl⟩ | ⟨hne,hq⟩<;>rcases lko l' E2 hl' with ⟨rfl,rfl⟩ | ⟨hne',hq'⟩
      ·rfl
      ·rw[nob h1] at h3;cases h3
      ·rw[nob h2] at h4;cases h4
      ·exact hI.owninj l l' E1 E2 v1 v2 k hq hq' h1 h2 h3 h4
     ·intro b' cs' h y hy b2 hr
      rcases lkc b' cs' h with ⟨rfl,rfl⟩ | h
      ·rcases List.mem_or_eq_of_mem_set hy with hy | rfl
       ·exact lkm b2 (hI.ref b' cs hb y hy b2 hr)
       ·exact absurd hr (by simp[XC])
      ·exact lkm b2 (hI.ref b' cs' h y hy b2 hr)
  ·exact hI
 ·exact hI
theorem Zv1{Γ:List (Nat×Ty)}(hΓ:Yr P Γ){l:Loc}{E:Nat}(hI:Inv P B g σ a w):Inv P B g (ZjK Γ l E σ) a w:=by
 cases l with
 | t t=>exact Zvz hΓ hI
 | b b c=>exact Zv0 hΓ hI
theorem Zih{Γ:List (Nat×Ty)}(hΓ:Yr P Γ):∀{l:List (Loc×Nat)} {σ:St},Inv P B g σ a w→Inv P B g (ZcS Γ l σ) a w
 | [],_,h=>h
 | (t,E)::r,σ,h=>by
   unfold ZcS
   exact Zih hΓ (Zv1 hΓ h)
def ZhB(σ τ:St):Prop:=τ.n=σ.n∧∀b,σ.n≤b→lk b τ.boxes=lk b σ.boxes
theorem ZlT{c:Bool}{σ τ:St}(h:c=true→ZhB σ τ):ZhB σ (bif c then τ else σ):=by
 cases c with
 | false=>exact ⟨rfl,fun _ _=>rfl⟩
 | true=>exact h rfl
theorem ZsR(Γ:List (Nat×Ty))(l:Loc)(E:Nat)(σ:St):ZhB σ (ZjK Γ l E σ):=by
 unfold ZjK
 split
 ·unfold ZmU ZsQ
  repeat' split
  all_goals first | exact ⟨rfl,fun _ _=>rfl⟩ | exact ZlT fun _=>⟨rfl,fun _ _=>rfl⟩
 ·unfold ZmV
  repeat' split
  all_goals first | exact ⟨rfl,fun _ _=>rfl⟩ | skip
  refine ZlT fun hn=>⟨rfl,fun b' hb'=>?_⟩
  have hn:=Qm_ hn
  show lk b' (_::σ.boxes)=_
  rw[Zz,if_neg (by omega)]
theorem Zdg(Γ:List (Nat×Ty)):∀(l:List (Loc×Nat)) (σ:St),ZhB σ (ZcS Γ l σ)
 | [],_=>⟨rfl,fun _ _=>rfl⟩
 | (t,E)::r,σ=>by
   have h1:=ZsR Γ t E σ
   have h2:=Zdg Γ r (ZjK Γ t E σ)
   exact ⟨h2.1.trans h1.1,fun b hb=>(h2.2 b (by rw[h1.1];exact hb)).trans (h1.2 b hb)⟩
theorem ZzP{g':G}{w':World}{σ':St}(h0:ZhB σ τ)(h:Fr B g τ w g' σ' w'):Fr B g σ w g' σ' w':=by
 obtain ⟨h1,h2⟩:=h0
 have l1:∀k,Zb7 g τ k→Zb7 g σ k:=fun k ⟨b,cs,base,a1,a2,a3⟩=>⟨b,cs,base,by rw[←h1];exact a1,by rw[←h2 b (by rw[←h1];exact a1)];exact a2,a3⟩
 have l2:∀k off,Lent g τ k off→Lent g σ k off:=fun k off ⟨b,cs,base,a1,a2,a3⟩=>⟨b,cs,base,by rw[←h1];exact a1,by rw[←h2 b (by rw[←h1];exact a1)];exact a2,a3⟩
 exact ⟨h.os,h.tape,h.output,h.size,h.n.trans h1,fun k hk hn=>h.block k hk (fun hl=>hn (l1 k hl)),fun k off hk hn=>h.cell k off hk (fun hl=>hn (l2 k off hl)),h.frozen,fun k hk hn=>h.hw k hk (fun hl=>hn (l1 k hl)),
  fun b cs hn hb=>by obtain ⟨cs0,q1,q2,q3⟩:=h.par b cs (by rw[h1];exact hn) hb;exact ⟨cs0,by rw[←h2 b hn];exact q1,q2,q3⟩,h.ext⟩
theorem Zx8{g0:G}{w0:World}{σ0:St}(h0:ZhB σ τ)(h:Fr B g0 σ0 w0 g σ w):Fr B g0 σ0 w0 g τ w:=
 ⟨h.os,h.tape,h.output,h.size,h0.1.trans h.n,h.block,h.cell,h.frozen,h.hw,fun b cs hn hb=>h.par b cs hn (by rw[←h0.2 b (by rw[h.n];exact hn)];exact hb),h.ext⟩
end
def Wk(P:Program)(σ τ:St):Prop:=∀B g a w,Inv P B g σ a w→Inv P B g τ a w∧(∀g' σ' w',Fr B g τ w g' σ' w'→Fr B g σ w g' σ' w')∧∀B0 g0 σ0 w0,Fr B0 g0 σ0 w0 g σ w→Fr B0 g0 σ0 w0 g τ w
theorem Z0A{P:Program}{σ τ:St}(h:Sub τ σ):Wk P σ τ:=fun _ _ _ _ hI=>⟨Zbs hI h,fun _ _ _ hf=>ZnO hf h,fun _ _ _ _ hf=>Ziq hf h⟩
theorem ZzQ{P:Program}{Γ:List (Nat×Ty)}(hΓ:Yr P Γ)(l:List (Loc×Nat))(σ:St):Wk P σ (ZcS Γ l σ):=fun _ _ _ _ hI=>
 ⟨Zih hΓ hI,fun _ _ _ hf=>ZzP (Zdg Γ l σ) hf,fun _ _ _ _ hf=>Zx8 (Zdg Γ l σ) hf⟩
theorem Wk.trans{P:Program}{σ τ ρ:St}(h:Wk P σ τ)(h':Wk P τ ρ):Wk P σ ρ:=fun B g a w hI=>by
 obtain ⟨i1,l1,r1⟩:=h B g a w hI
 obtain ⟨i2,l2,r2⟩:=h' B g a w i1
 exact ⟨i2,fun _ _ _ hf=>l1 _ _ _ (l2 _ _ _ hf),fun _ _ _ _ hf=>r2 _ _ _ _ (r1 _ _ _ _ hf)⟩
theorem ZzR{P:Program}{c:Code}{σ τ σ':St}{e:Ex}(hs:Wk P σ τ)(h:Tri P c τ e σ'):Tri P c σ e σ':=fun B g a w hI=>
 wp_mono (h B g a w (hs B g a w hI).1) fun _ _ _ ⟨h1,g',h2,h3⟩=>⟨h1,g',h2,(hs B g a w hI).2.1 _ _ _ h3⟩
theorem ZzS{P:Program}{c:Code}{σ τ σ':St}{e:Ex}(hs:Wk P σ' τ)(h:Tri P c σ e σ'):Tri P c σ e τ:=fun B g a w hI=>
 wp_mono (h B g a w hI) fun _ a' w' ⟨h1,g',h2,h3⟩=>⟨h1,g',(hs B g' a' w' h2).1,(hs B g' a' w' h2).2.2 _ _ _ _ h3⟩
theorem Zx9{P:Program}{c:Code}{n:Nat}{σ τ σ':St}{e:Ex}(hs:Wk P σ' τ)(h:Zav P n c σ e σ'):Zav P n c σ e τ:=fun B g a w hI=>
 Zej (fun _ a' w' ⟨h1,g',h2,h3⟩=>⟨h1,g',(hs B g' a' w' h2).1,(hs B g' a' w' h2).2.2 _ _ _ _ h3⟩) n a w (h B g a w hI)
structure KpH where
 k:Kp
 h:List (Loc×Nat)
def Jj(Γ:List (Nat×Ty))(k:KpH)(σ:St):Option St:=ZsP k.k (ZcS Γ k.h σ)
theorem Zbx{P:Program}{Γ:List (Nat×Ty)}(hΓ:Yr P Γ){k:KpH}{σ τ:St}(h:Jj Γ k σ=some τ):Wk P σ τ:=(ZzQ hΓ k.h σ).trans (Z0A (Zvy h))
def kpH(Γ:List (Nat×Ty))(k ke kr:KpH)(e:Ex)(σ:St):Option St:=match e with
 | .normal=>Jj Γ k σ
 | .ret=>Jj Γ kr σ
 | _=>Jj Γ ke σ
theorem Zv2{P:Program}{Γ:List (Nat×Ty)}(hΓ:Yr P Γ){k ke kr:KpH}{e:Ex}{σ τ:St}(h:kpH Γ k ke kr e σ=some τ):Wk P σ τ:=by
 cases e<;>exact Zbx hΓ h
def sxH(E:Env)(C:ZZ)(CP:Y0)(CI:Yx)(G:Gx)(LS:List (Nat×LSum))(n:Nat)(b:Code)(k ke kr:KpH)(σ:St)(Q:Ex→Option St→Prop):Prop:=
 Zfr (clean (Ju b) σ) fun σ=>YM E.Γ (RSym E C) (ZbC E C CP CI G) LS n none b σ fun e σ1=>Q e (kpH E.Γ k ke kr e σ1)
theorem ZD{P:Program}{E:Env}(hE:EnvOk P E){C:ZZ}(hC:CSOk P C){CP:Y0}(hP:CSPOk P CP){CI:Yx}(hI:CSIOk P CI){G:Gx}(hG:OwOk P C G){LS:List (Nat×LSum)}{b:Code}(hL:∀b'∈ZH b,∀S,lk (X2 b') LS=some S→Yo P b' S){n:Nat}
 {X:Type} (H:X→St) (inv:X→Prop) (fin:X→Ex→St→Prop) (μ:X→Nat) (k ke kr:KpH)
 (step:∀x,inv x→sxH E C CP CI G LS n b k ke kr (H x) fun e o=>
   (e= .normal∧∃y,o=some (H y)∧inv y∧μ y < μ x∧∀e s,fin y e s→fin x e s)∨(e≠ .normal∧∃τ,o=some τ∧fin x e τ)):
 ∀x,inv x→∃e σ',fin x e σ'∧∃m,Zav P m b (H x) e σ':=by
 have key:∀j x,μ x < j→inv x→∃e σ',fin x e σ'∧∃m,Zav P m b (H x) e σ':=by
  intro j
  induction j with
  | zero=>intro x hx;omega
  | succ j ih=>
    intro x hx hi
    have hs:=step x hi
    unfold sxH at hs
    rw[ZcR] at hs
    obtain ⟨e,σ1,h1,h2⟩:=ZzN hE hC hP hI hG hL hs
    have h3:=Jv h2
    rcases h1 with ⟨rfl,y,hy,iy,my,fy⟩ | ⟨hne,τ,ht,hf⟩
    ·obtain ⟨e',σ',f1,m,f2⟩:=ih y (by omega) iy
     exact ⟨e',σ',fy _ _ f1,m+1,Zjg (ZzS (Zv2 hE.Γ hy) h3) f2⟩
    ·exact ⟨e,τ,hf,1,Zx9 (Zv2 hE.Γ ht) (ZnQ hne h3)⟩
 exact fun x hi=>key (μ x+1) x (by omega) hi
theorem Zax{P:Program}{Γ:List (Nat×Ty)}(hΓ:Yr P Γ){b:Code}{S:LSum}{X:Type}{H:X→St}{inv:X→Prop}{fin:X→Ex→St→Prop}(h:∀x,inv x→∃e σ',fin x e σ'∧∃m,Zav P m b (H x) e σ')(k:KpH)
 (hS:∀σ K,S σ K→∃x,Jj Γ k σ=some (H x)∧inv x∧∀e σ',fin x e σ'→K e σ'):Yo P b S:=fun σ K hs=>by
 obtain ⟨x,h1,h2,h3⟩:=hS σ K hs
 obtain ⟨e,σ',f1,m,f2⟩:=h x h2
 exact ⟨e,σ',h3 e σ' f1,ZzR (Zbx hΓ h1) (Zis f2)⟩
end Go.Ev
namespace Go.Men
open Go.Ev
theorem Za{b:Bool}{X Y:Prop}(h:b=true→X)(h':b=false→Y):(bif b then X else Y):=by
 cases b
 ·exact h' rfl
 ·exact h rfl
def eOr(a b:Ent):Ent:=fun args=>match a args with
 | some r=>some r
 | none=>b args
theorem Ze8{P:Program}{f:Nat}{a b:Ent}(ha:Zj P f a)(hb:Zj P f b):Zj P f (eOr a b):=fun args r ps h hp=>by
 unfold eOr at h
 split at h
 ·rename_i q hq
  have:=Qa_ h
  subst this
  exact ha _ _ _ hq hp
 ·exact hb _ _ _ h hp
def Zf{α:Type}(d:List PV→α)(xs:List (List PV)):List α:=xs.map d
theorem Jy{α:Type}(d:List PV→α)(e:α→List PV)(h:∀x,d (e x)=x)(l:List α):Zf d (l.map e)=l:=by
 unfold Zf
 rw[List.map_map]
 conv=>rhs;rw[←List.map_id l]
 exact List.map_congr_left fun x _=>h x
structure Iv where
 lo:Int
 hi:Int
 no:Bool
 deriving DecidableEq
def Iv.enc(a:Iv):List PV:=[.v (.int .i64 a.lo),.v (.int .i64 a.hi),.v (.bool a.no)]
def Iv.dec(p:List PV):Iv:=⟨Zd (p.headD .nil),Zd (p.tail.headD .nil),Zv (p.tail.tail.headD .nil)⟩
structure V where
 x:Iv
 y:Iv
 z:Iv
 deriving DecidableEq
def V.enc(a:V):List PV:=[.v (.int .i64 a.x.lo),.v (.int .i64 a.x.hi),.v (.bool a.x.no),.v (.int .i64 a.y.lo),.v (.int .i64 a.y.hi),.v (.bool a.y.no),.v (.int .i64 a.z.lo),.v (.int .i64 a.z.hi),.v (.bool a.z.no)]
structure Ray where
 o:V
 d:V
 deriving DecidableEq
def Ray.enc(r:Ray):List PV:=[.v (.int .i64 r.o.x.lo),.v (.int .i64 r.o.x.hi),.v (.bool r.o.x.no),.v (.int .i64 r.o.y.lo),.v (.int .i64 r.o.y.hi),.v (.bool r.o.y.no),.v (.int .i64 r.o.z.lo),.v (.int .i64 r.o.z.hi),.v (.bool r.o.z.no),
 .v (.int .i64 r.d.x.lo),.v (.int .i64 r.d.x.hi),.v (.bool r.d.x.no),.v (.int .i64 r.d.y.lo),.v (.int .i64 r.d.y.hi),.v (.bool r.d.y.no),.v (.int .i64 r.d.z.lo),.v (.int .i64 r.d.z.hi),.v (.bool r.d.z.no)]
structure Dec where
 c:Int
 scale:Int
 deriving DecidableEq
def Dec.enc(a:Dec):List PV:=[.v (.int .i64 a.c),.v (.int .i64 a.scale)]
structure A3 where
 a:Int
 b:Int
 c:Int
 deriving DecidableEq
def A3.enc(x:A3):List PV:=[.v (.int .i64 x.a),.v (.int .i64 x.b),.v (.int .i64 x.c)]
structure A6 where
 a:Int
 b:Int
 c:Int
 d:Int
 e:Int
 f:Int
def A6.enc(x:A6):List PV:=[.v (.int .i64 x.a),.v (.int .i64 x.b),.v (.int .i64 x.c),.v (.int .i64 x.d),.v (.int .i64 x.e),.v (.int .i64 x.f)]
structure RawRay where
 x:Int
 y:Int
 u:Int
 w:Int
 wide:Int
 lean:Int
def RawRay.enc(r:RawRay):List PV:=[.v (.int .i64 r.x),.v (.int .i64 r.y),.v (.int .i64 r.u),.v (.int .i64 r.w),.v (.int .i64 r.wide),.v (.int .i64 r.lean)]
structure Shape where
 kind:Int
 x:Dec
 y:Dec
 z:Dec
 r:Dec
 glow:A3
def Shape.enc(s:Shape):List PV:=[.v (.int .i64 s.kind),.v (.int .i64 s.x.c),.v (.int .i64 s.x.scale),.v (.int .i64 s.y.c),.v (.int .i64 s.y.scale),.v (.int .i64 s.z.c),.v (.int .i64 s.z.scale),.v (.int .i64 s.r.c),.v (.int .i64 s.r.scale),.v (.int .i64 s.glow.a),.v (.int .i64 s.glow.b),.v (.int .i64 s.glow.c)]
def Shape.dec(p:List PV):Shape:=⟨Zd (p.headD .nil),⟨Zd (p.tail.headD .nil),Zd (p.tail.tail.headD .nil)⟩,⟨Zd (p.tail.tail.tail.headD .nil),Zd (p.tail.tail.tail.tail.headD .nil)⟩,⟨Zd (p.tail.tail.tail.tail.tail.headD .nil),Zd (p.tail.tail.tail.tail.tail.tail.headD .nil)⟩,⟨Zd (p.tail.tail.tail.tail.tail.tail.tail.headD .nil),Zd (p.tail.tail.tail.tail.tail.tail.tail.tail.headD .nil)⟩,⟨Zd (p.tail.tail.tail.tail.tail.tail.tail.tail.tail.headD .nil),Zd (p.tail.tail.tail.tail.tail.tail.tail.tail.tail.tail.headD .nil),Zd (p.tail.tail.tail.tail.tail.tail.tail.tail.tail.tail.tail.headD .nil)⟩⟩
structure I where
 n:Int
def I.enc(a:I):List PV:=[.v (.int .i64 a.n)]
def I.dec(p:List PV):I:=⟨Zd (p.headD .nil)⟩
def Fit(n:Int):Prop:= -9223372036854775808≤n∧n≤9223372036854775807
theorem Ze{n:Int}(h:Fit n):IntKind.i64.wrap n=n:=by
 obtain ⟨h1,h2⟩:=h
 simp[IntKind.wrap,IntKind.bits,IntKind.signed]
 split<;>omega
theorem Zfs{b:Int}(hb:b≠0):(b < 0∧b.sign= -1)∨(0 < b∧b.sign=1):=by
 rcases Int.lt_or_gt_of_ne hb with h | h
 ·exact .inl ⟨h,Int.sign_eq_neg_one_of_neg h⟩
 ·exact .inr ⟨h,Int.sign_eq_one_of_pos h⟩
theorem ZrG{a b:Int}(hb:b≠0)(hm:a.tmod b≠0)(h:(decide (a < 0)==decide (b < 0))=false):a.tdiv b - 1=a.fdiv b:=by
 have hd:¬b∣a:=fun hd=>hm (Int.tmod_eq_zero_of_dvd hd)
 rw[Int.fdiv_eq_tdiv,if_neg hd]
 have ha:a≠0:=fun e=>hd (e▸Int.dvd_zero b)
 have hs:=Zfs hb
 by_cases h1:a < 0<;>by_cases h2:b < 0<;>simp[h1,h2] at h
 ·rw[if_neg (by omega)];omega
 ·rw[if_pos (by omega),if_neg (by omega)]
theorem ZhC{a b:Int}(hb:b≠0)(h:a.tmod b=0∨(decide (a < 0)==decide (b < 0))=true):a.tdiv b=a.fdiv b:=by
 rw[Int.fdiv_eq_tdiv]
 by_cases hd:b∣a
 ·rw[if_pos hd];omega
 ·rw[if_neg hd]
  have hm:a.tmod b≠0:=fun e=>hd (Int.dvd_of_tmod_eq_zero e)
  have ha:a≠0:=fun e=>hd (e▸Int.dvd_zero b)
  have h:=h.resolve_left hm
  have hs:=Zfs hb
  by_cases h1:a < 0<;>by_cases h2:b < 0<;>simp[h1,h2] at h
  ·rw[if_neg (by omega)];split<;>omega
  ·rw[if_pos (by omega),if_pos (by omega)];omega
theorem Zay{a b:Int}(h: -4611686018427387904≤a∧a≤4611686018427387904): -4611686018427387904≤a.tdiv b∧a.tdiv b≤4611686018427387904:=by
 have:=Int.natAbs_tdiv_le_natAbs a b
 omega
theorem Zdh{a b:Int}(h: -4611686018427387904≤a∧a≤4611686018427387904): -4611686018427387905≤a.fdiv b∧a.fdiv b≤4611686018427387905:=by
 have:=Zay (b:=b) h
 by_cases hb:b=0
 ·subst hb;simp
 ·have hs:=Zfs hb
  rw[Int.fdiv_eq_tdiv]
  split
  ·omega
  ·split<;>split<;>omega
def inB(n:Int):Bool:=decide (-1073741824≤n)&&decide (n≤1073741824)
theorem ZO{n:Int}:inB n=true↔ -1073741824≤n∧n≤1073741824:=by simp[inB]
def right(a:Iv):Bool:= !a.no&&(inB a.lo&&(inB a.hi&&decide (a.lo≤a.hi)))
def none':Iv:=⟨0,0,true⟩
def of(lo hi:Int):Iv:=bif right ⟨lo,hi,false⟩ then ⟨lo,hi,false⟩ else none'
def point(n:Int):Iv:=of n n
def whole(n:Int):Iv:=bif inB n then point (n *65536) else none'
def floor(a b:Int):Int:=a.fdiv b
def up1(a b:Int):Int:=if a % b=0 then a.fdiv b else a.fdiv b+1
def rounded(a b:Int)(up:Bool):Int×Bool:=
 let q:=bif up then up1 a b else a.fdiv b
 bif inB q then (q,true) else (0,false)
def told(n:Int):Int×Bool:=bif inB n then (n,true) else (0,false)
def mul(a b:Int)(up:Bool):Int×Bool:=bif inB a&&inB b then rounded (a *b) 65536 up else (0,false)
def div(a b:Int)(up:Bool):Int×Bool:=bif inB a&&(inB b&&decide (b≠0)) then rounded (a *65536) b up else (0,false)
def both(a b:Iv):Bool:=right a&&right b
def neg(a:Iv):Iv:=bif right a then of (-a.hi) (-a.lo) else none'
def add(a b:Iv):Iv:=bif both a b then of (a.lo+b.lo) (a.hi+b.hi) else none'
def sub(a b:Iv):Iv:=add a (neg b)
def has(a:Iv)(n:Int):Bool:=right a&&(decide (a.lo≤n)&&decide (n≤a.hi))
theorem Xr{a:Iv}(h:right a=true):a.no=false∧(-1073741824≤a.lo∧a.lo≤1073741824)∧(-1073741824≤a.hi∧a.hi≤1073741824)∧a.lo≤a.hi:=by
 simpa [right,inB] using h
theorem ZoE{a:Iv}(h:a.no=false)(h1: -1073741824≤a.lo)(h2:a.hi≤1073741824)(h3:a.lo≤a.hi):right a=true:=by
 simp[right,inB,h];omega
theorem Zv3{b:Iv}(h:right b=true):neg b=⟨-b.hi,-b.lo,false⟩:=by
 have hb:=Xr h
 have:right ⟨-b.hi,-b.lo,false⟩=true:=ZoE rfl (by simp;omega) (by simp;omega) (by simp;omega)
 simp[neg,of,h,this]
theorem Zv4(b:Iv):right (neg b)=right b:=by
 cases h:right b with
 | true=>
   have hb:=Xr h
   rw[Zv3 h]
   exact ZoE rfl (by simp;omega) (by simp;omega) (by simp;omega)
 | false=>simp[neg,h];rfl
theorem Z0B(a b:Iv):sub a b=bif both a b then of (a.lo - b.hi) (a.hi - b.lo) else none':=by
 unfold sub add both
 rw[Zv4]
 cases h:right b with
 | true=>simp[Zv3 h,Int.sub_eq_add_neg]
 | false=>simp
theorem ZoF{a b:Int}(h:a.tmod b≠0):decide (a.tmod b < 0)=decide (a < 0):=by
 by_cases ha:a < 0
 ·have:=Int.tmod_nonneg b (a:= -a) (by omega)
  rw[Int.neg_tmod] at this
  simp[ha];omega
 ·have:=Int.tmod_nonneg b (a:=a) (by omega)
  simp[ha];omega
theorem ZsS{lo hi:Int}(h1:inB lo=true)(h2:inB hi=true)(h3:lo≤hi):of lo hi=⟨lo,hi,false⟩:=by
 simp[of,right,h1,h2,h3]
theorem ZlU{a b:Int}:a.tmod b=0↔a % b=0:=by
 rw[←Int.dvd_iff_tmod_eq_zero,←Int.dvd_iff_emod_eq_zero]
theorem ZoG{a b:Int}(hb:b≠0):a.fdiv b *b=a↔a % b=0:=by
 rw[←Int.dvd_iff_emod_eq_zero]
 constructor
 ·intro h;exact ⟨a.fdiv b,by rw[Int.mul_comm];exact h.symm⟩
 ·rintro ⟨c,rfl⟩
  rw[Int.mul_comm b c,Int.mul_fdiv_cancel _ hb]
theorem Zg6{a b:Int}(hl:0 < b):a - b < a.fdiv b *b∧a.fdiv b *b≤a:=by
 have h1:=Int.fmod_add_fdiv_mul a b
 have h2:=Int.fmod_nonneg_of_pos a hl
 have h3:=Int.fmod_lt_of_pos a hl
 omega
theorem ZoH{a b:Int}(hb:b≠0)(ha: -4611686018427387904≤a∧a≤4611686018427387904)(h: -4611686018427387904≤b∧b≤4611686018427387904):Fit (a.fdiv b *b):=by
 rcases Int.lt_or_gt_of_ne hb with hl | hl
 ·have h1:=Zg6 (a:= -a) (b:= -b) (by omega)
  rw[Int.neg_fdiv_neg,Int.mul_neg] at h1
  constructor<;>omega
 ·have h1:=Zg6 (a:=a) hl
  constructor<;>omega
theorem Za6{a b:Int}(ha:inB a=true)(hb:inB b=true): -1152921504606846976≤a *b∧a *b≤1152921504606846976:=by
 rw[ZO] at ha hb
 have h1:(a *b).natAbs≤1073741824 *1073741824:=by
  rw[Int.natAbs_mul]
  exact Nat.mul_le_mul (by omega) (by omega)
 omega
def ends(f:Int→Int→Bool→Int×Bool)(a b:Iv):Iv:=
 bif ((f a.lo b.lo false).2&&(f a.lo b.lo true).2)&&(((f a.lo b.hi false).2&&(f a.lo b.hi true).2)&&(((f a.hi b.lo false).2&&(f a.hi b.lo true).2)&&((f a.hi b.hi false).2&&(f a.hi b.hi true).2))) then
  of (min (min (f a.lo b.lo false).1 (f a.lo b.hi false).1) (min (f a.hi b.lo false).1 (f a.hi b.hi false).1)) (max (max (f a.lo b.lo true).1 (f a.lo b.hi true).1) (max (f a.hi b.lo true).1 (f a.hi b.hi true).1))
 else none'
def Ye(a b:Iv):Iv:=bif both a b then ends mul a b else none'
def Z8(a b:Iv):Iv:=bif both a b&& !(has b 0) then ends div a b else none'
def Good(f:Int→Int→Bool→Int×Bool):Prop:=∀x y,(f x y false).2=true→(f x y true).2=true→inB (f x y false).1=true∧inB (f x y true).1=true∧(f x y false).1≤(f x y true).1
theorem Z0C(a b:Int):a.fdiv b≤up1 a b:=by unfold up1;split<;>omega
theorem Zg7{a b:Int}(h1:(rounded a b false).2=true)(h2:(rounded a b true).2=true):inB (rounded a b false).1=true∧inB (rounded a b true).1=true∧(rounded a b false).1≤(rounded a b true).1:=by
 have:=Z0C a b
 unfold rounded at *
 simp only[Qb_,Qd_] at *
 cases e1:inB (a.fdiv b)<;>cases e2:inB (up1 a b)<;>simp_all
theorem ZxA:Good mul:=by
 intro x y h1 h2
 unfold mul at *
 cases e:(inB x&&inB y) with
 | false=>simp[e] at h1
 | true=>simp only[e,Qb_] at *;exact Zg7 h1 h2
theorem ZxB:Good div:=by
 intro x y h1 h2
 unfold div at *
 cases e:(inB x&&(inB y&&decide (y≠0))) with
 | false=>rw[e] at h1;simp at h1
 | true=>simp only[e,Qb_] at *;exact Zg7 h1 h2
def ch1(p q:Int)(e:Iv):Iv:=of (List.foldl imin e.lo [p]) (List.foldl imax e.hi [q])
theorem Zt(x y:Int):imin x y=min x y:=by unfold imin;split<;>omega
theorem Zs(x y:Int):imax x y=max x y:=by unfold imax;split<;>omega
theorem ZjL{p q l h:Int}(h1:inB p=true)(h2:inB q=true)(h3:inB l=true)(h4:inB h=true)(h5:p≤q)(h6:l≤h):ch1 p q ⟨l,h,false⟩=⟨min l p,max h q,false⟩:=by
 rw[ZO] at *
 simp only[ch1,List.foldl,Zt,Zs]
 exact ZsS (ZO.2 (by omega)) (ZO.2 (by omega)) (by omega)
theorem ZjM{f:Int→Int→Bool→Int×Bool}(g:Good f){a b:Iv}(h1:(f a.lo b.lo false).2=true)(h2:(f a.lo b.lo true).2=true)(h3:(f a.lo b.hi false).2=true)(h4:(f a.lo b.hi true).2=true)(h5:(f a.hi b.lo false).2=true)(h6:(f a.hi b.lo true).2=true)(h7:(f a.hi b.hi false).2=true)(h8:(f a.hi b.hi true).2=true):
 ch1 (f a.hi b.hi false).1 (f a.hi b.hi true).1 (ch1 (f a.hi b.lo false).1 (f a.hi b.lo true).1 (ch1 (f a.lo b.hi false).1 (f a.lo b.hi true).1 (ch1 (f a.lo b.lo false).1 (f a.lo b.lo true).1 (of (f a.lo b.lo false).1 (f a.lo b.lo true).1))))=ends f a b:=by
 obtain ⟨a1,a2,a3⟩:=g _ _ h1 h2
 obtain ⟨b1,b2,b3⟩:=g _ _ h3 h4
 obtain ⟨c1,c2,c3⟩:=g _ _ h5 h6
 obtain ⟨d1,d2,d3⟩:=g _ _ h7 h8
 simp only[ends,h1,h2,h3,h4,h5,h6,h7,h8,QZ_,Qb_]
 generalize (f a.lo b.lo false).1=p1 at *
 generalize (f a.lo b.lo true).1=q1 at *
 generalize (f a.lo b.hi false).1=p2 at *
 generalize (f a.lo b.hi true).1=q2 at *
 generalize (f a.hi b.lo false).1=p3 at *
 generalize (f a.hi b.lo true).1=q3 at *
 generalize (f a.hi b.hi false).1=p4 at *
 generalize (f a.hi b.hi true).1=q4 at *
 rw[ZsS a1 a2 a3,ZjL a1 a2 a1 a2 a3 a3]
 rw[ZO] at *
 rw[ZjL (ZO.2 b1) (ZO.2 b2) (ZO.2 (by omega)) (ZO.2 (by omega)) b3 (by omega),
  ZjL (ZO.2 c1) (ZO.2 c2) (ZO.2 (by omega)) (ZO.2 (by omega)) c3 (by omega),
  ZjL (ZO.2 d1) (ZO.2 d2) (ZO.2 (by omega)) (ZO.2 (by omega)) d3 (by omega)]
 rw[ZsS (ZO.2 (by omega)) (ZO.2 (by omega)) (by omega)]
 simp only[Iv.mk.injEq,and_true]
 omega
theorem ZhD{f:Int→Int→Bool→Int×Bool}{a b:Iv}(h:(f a.lo b.lo false).2=false∨(f a.lo b.lo true).2=false∨(f a.lo b.hi false).2=false∨(f a.lo b.hi true).2=false∨(f a.hi b.lo false).2=false∨(f a.hi b.lo true).2=false∨(f a.hi b.hi false).2=false∨(f a.hi b.hi true).2=false):none'=ends f a b:=by
 unfold ends
 rcases h with h | h | h | h | h | h | h | h<;>simp[h]
theorem ZrH{f:Int→Int→Bool→Int×Bool}{a b:Iv}{x y:Int}(h1:(f a.lo b.lo false).2=true)(h2:(f a.lo b.lo true).2=true)(h3:(f a.lo b.hi false).2=true)(h4:(f a.lo b.hi true).2=true)(h5:(f a.hi b.lo false).2=true)(h6:(f a.hi b.lo true).2=true)(h7:(f a.hi b.hi false).2=true)(h8:(f a.hi b.hi true).2=true)
 (hx:x=min (min (f a.lo b.lo false).1 (f a.lo b.hi false).1) (min (f a.hi b.lo false).1 (f a.hi b.hi false).1)) (hy:y=max (max (f a.lo b.lo true).1 (f a.lo b.hi true).1) (max (f a.hi b.lo true).1 (f a.hi b.hi true).1)):of x y=ends f a b:=by
 subst hx;subst hy
 simp only[ends,h1,h2,h3,h4,h5,h6,h7,h8,QZ_,Qb_]
def far(a:Iv):Int:=max (-a.lo) a.hi
def near(a:Iv):Int:=max (max a.lo (-a.hi)) 0
def sqr(a:Iv):Iv:=bif right a&&(mul (far a) (far a) true).2 then of (mul (near a) (near a) false).1 (mul (far a) (far a) true).1 else none'
def times(a:Iv)(k:Int):Iv:=bif right a&&inB k then of (min (k *a.lo) (k *a.hi)) (max (k *a.lo) (k *a.hi)) else none'
def ZP:Nat→Int→Int→Int
 | 0,_,r=>r
 | k+1,n,r=>if (r+2 ^ k)* (r+2 ^ k)≤n then ZP k n (r+2 ^ k) else ZP k n r
def root(a:Int)(up:Bool):Int×Bool:=bif inB a&&decide (0≤a) then
    (bif up&&decide (ZP 24 (a *65536) 0 *ZP 24 (a *65536) 0 < a *65536) then (ZP 24 (a *65536) 0+1,true) else (ZP 24 (a *65536) 0,true))
 else (0,false)
def Wz(a:Iv):Iv:=bif right a&&decide (0≤a.lo) then of (root a.lo false).1 (root a.hi true).1 else none'
def Z2b(a b c:Iv):Iv×Int:=
 let d:=sub (sqr b) (Ye a c)
 bif d.no then (none',0) else bif decide (d.hi < 0) then (none',2) else bif decide (d.lo < 0) then (none',0) else
  let t:=Z8 c (sub (Wz d) b)
  bif t.no then (none',0) else (t,1)
def Z2B(a b:V):V:=⟨sub a.x b.x,sub a.y b.y,sub a.z b.z⟩
def dot(a b:V):Iv:=add (add (Ye a.x b.x) (Ye a.y b.y)) (Ye a.z b.z)
def Z0D(a:V):Iv:=add (add (sqr a.x) (sqr a.y)) (sqr a.z)
def ZA(d:Dec):Bool:=decide (d.c≥ -100000000000)&&(decide (d.c≤100000000000)&&(decide (d.scale≥0)&&(decide (d.scale≤6)&&(d.scale==0||d.c.tmod 10 !=0))))
def Z2(n:Int):Int:=10 ^ n.toNat
def Zg(d:Dec):Iv:=bif ZA d then of (floor (d.c *65536) (Z2 d.scale)) (-(floor (-(d.c *65536)) (Z2 d.scale))) else none'
def within(n low high:Int):Int:=max low (min high n)
theorem Zft{i:Int}(h:0≤i):Z2 (i+1)=Z2 i *10:=by
 unfold Z2
 rw[show (i+1).toNat=i.toNat+1 by omega,Int.pow_succ]
theorem Jz(i:Int):1≤Z2 i:=by
 unfold Z2
 have:0 < (10:Int) ^ i.toNat:=Int.pow_pos (by omega)
 omega
theorem ZjN{i j:Int}(h:i≤j):Z2 i≤Z2 j:=by
 unfold Z2
 have:=Nat.pow_le_pow_right (n:=10) (by omega) (show i.toNat≤j.toNat by omega)
 exact_mod_cast this
theorem Zix{i:Int}(h:i≤18):Z2 i≤1000000000000000000:=ZjN (j:=18) h
theorem Xa{n:Int}(h: -9223372036854775807≤n∧n≤9223372036854775807):IntKind.i64.wrap (0 - n)= -n:=by
 rw[Ze (by constructor<;>omega)];omega
theorem ZoI{a b:Int}(hb:0 < b): -(floor (-a) b)=up1 a b:=by
 unfold floor up1
 have h1:=Int.fdiv_eq_ediv_of_nonneg (-a) (Int.le_of_lt hb)
 have h2:=Int.fdiv_eq_ediv_of_nonneg a (Int.le_of_lt hb)
 rw[h1,h2,Int.neg_ediv]
 by_cases h:b∣a
 ·rw[if_pos h,if_pos (Int.emod_eq_zero_of_dvd h)];omega
 ·rw[if_neg h,if_neg (fun e=>h (Int.dvd_of_emod_eq_zero e)),Int.sign_eq_one_of_pos hb];omega
theorem Ziy(n:Int):∀(k:Nat) (r:Int),r≤ZP k n r∧ZP k n r < r+2 ^ k
 | 0,r=>by simp[ZP];omega
 | k+1,r=>by
   have h:(2:Int) ^ (k+1)=2 ^ k+2 ^ k:=by rw[Int.pow_succ];omega
   have hp:(0:Int) < 2 ^ k:=Int.pow_pos (by omega)
   unfold ZP
   split
   ·have:=Ziy n k (r+2 ^ k);omega
   ·have:=Ziy n k r;omega
theorem ZxC{n:Int}(h:n < 281474976710656):ZP 25 n 0=ZP 24 n 0:=by
 conv=>lhs;unfold ZP
 rw[if_neg (by simp;omega)]
theorem Ziz{n:Int}:0≤ZP 24 n 0∧ZP 24 n 0 < 16777216:=by
 have:=Ziy n 24 0
 simp at this
 omega
theorem ZhE{n:Int}:Fit (ZP 24 n 0 *ZP 24 n 0):=by
 have:=Ziz (n:=n)
 generalize ZP 24 n 0=r at *
 have h1:0≤r *r:=Int.mul_nonneg this.1 this.1
 have h2:r *r≤16777216 *16777216:=Int.mul_le_mul (by omega) (by omega) this.1 (by omega)
 constructor<;>omega
theorem ZoJ{b:Int}(h:0≤b):(2:Int) ^ (b+1).toNat=2 ^ b.toNat+2 ^ b.toNat:=by
 rw[show (b+1).toNat=b.toNat+1 by omega,Int.pow_succ];omega
theorem Z0E{x:Int}(h:0≤x∧x≤33554432):Fit (x *x):=by
 have h1:0≤x *x:=Int.mul_nonneg h.1 h.1
 have h2:x *x≤33554432 *33554432:=Int.mul_le_mul (by omega) (by omega) h.1 (by omega)
 constructor<;>omega
theorem Z0F{r b:Int}(hb:0≤b∧b≤30)(hr:0≤r∧r < 4294967296)(hd:(2:Int) ^ (b.toNat+1)∣r):
 IntKind.i64.wrap ((BitVec.ofInt IntKind.i64.bits r||| BitVec.ofInt IntKind.i64.bits (IntKind.i64.wrap (1 *2 ^ min b.toNat IntKind.i64.bits))).toNat:Int)=r+2 ^ b.toNat:=by
 obtain ⟨m,hm⟩:=Int.eq_ofNat_of_zero_le hr.1
 obtain ⟨k,hk⟩:=Int.eq_ofNat_of_zero_le hb.1
 subst hm;subst hk
 have hk30:k≤30:=by omega
 have hm32:m < 4294967296:=by omega
 have hp:2 ^ k≤2 ^ 30:=Nat.pow_le_pow_right (by omega) hk30
 have e1:min (Int.toNat (k:Int)) IntKind.i64.bits=k:=by simp[IntKind.bits];omega
 have hp30:(2:Nat) ^ 30=1073741824:=by decide
 have e2:IntKind.i64.wrap (1 *2 ^ k)=((2 ^ k:Nat):Int):=by
  have h2:(1:Int)*2 ^ k=((2 ^ k:Nat):Int):=by simp
  rw[h2]
  generalize (2 ^ k:Nat)=t at *
  exact Ze (by constructor<;>omega)
 rw[e1,e2]
 have hd':2 ^ (k+1)∣m:=by
  have:((2 ^ (k+1):Nat):Int)∣(m:Int):=by simpa using hd
  exact Int.ofNat_dvd.1 this
 obtain ⟨c,hc⟩:=hd'
 have e3:(BitVec.ofInt IntKind.i64.bits (m:Int)||| BitVec.ofInt IntKind.i64.bits ((2 ^ k:Nat):Int)).toNat=m+2 ^ k:=by
  rw[BitVec.toNat_or,BitVec.ofInt_natCast,BitVec.ofInt_natCast,BitVec.toNat_ofNat,BitVec.toNat_ofNat]
  rw[Nat.mod_eq_of_lt (show m < 2 ^ IntKind.i64.bits by simp only[IntKind.bits];omega),Nat.mod_eq_of_lt (show 2 ^ k < 2 ^ IntKind.i64.bits by simp only[IntKind.bits];omega)]
  have h2:2 ^ k < 2 ^ (k+1):=Nat.pow_lt_pow_right (by omega) (by omega)
  have:=Nat.shiftLeft_add_eq_or_of_lt h2 c
  rw[Nat.shiftLeft_eq,Nat.mul_comm,←hc] at this
  exact this.symm
 rw[e3,Ze (by generalize (2 ^ k:Nat)=t at *;constructor<;>omega)]
 simp
theorem Zlm{r bit:Int}(h0:0≤bit)(a1:bit≤24)(a3:0≤r∧r+2 ^ (bit+1).toNat≤33554432)(a4:(2:Int) ^ (bit+1).toNat∣r):
 IntKind.i64.wrap (BitVec.ofInt (64:Nat) r||| BitVec.ofInt (64:Nat) (IntKind.i64.wrap (1 *2 ^ min bit.toNat (64:Nat)))).toNat=r+2 ^ bit.toNat:=by
 have h4:=ZoJ h0
 have hp:(0:Int) < 2 ^ bit.toNat:=Int.pow_pos (by omega)
 rw[h4] at a3
 exact Z0F (r:=r) (b:=bit) (by omega) (by omega) (by rw[show bit.toNat+1=(bit+1).toNat by omega];exact a4)
theorem XO{r bit:Int}(h0:0≤bit)(a3:0≤r∧r+2 ^ (bit+1).toNat≤33554432):
 (bit - 1+1).toNat=bit.toNat∧(bit+1).toNat=bit.toNat+1∧(0:Int) < 2 ^ bit.toNat∧(2:Int) ^ (bit+1).toNat=2 ^ bit.toNat+2 ^ bit.toNat∧Fit ((r+2 ^ bit.toNat)* (r+2 ^ bit.toNat))∧(0≤r∧r+2 ^ bit.toNat+2 ^ bit.toNat≤33554432):=by
 have h4:=ZoJ h0
 have hp:(0:Int) < 2 ^ bit.toNat:=Int.pow_pos (by omega)
 rw[h4] at a3
 exact ⟨by omega,by omega,hp,h4,Z0E (by omega),by omega⟩
theorem Zln{r bit:Int}(h0:0≤bit)(a1:bit≤24)(a3:0≤r∧r+2 ^ (bit+1).toNat≤33554432):IntKind.i64.wrap (1 *2 ^ min bit.toNat (64:Nat))=2 ^ bit.toNat:=by
 obtain ⟨k1,k2,k3,k4,k5,k6⟩:=XO h0 a3
 rw[show min bit.toNat 64=bit.toNat by omega,Int.one_mul]
 exact Ze (by constructor<;>omega)
theorem Zi0(n:Int):∀(k:Nat) (r:Int),r *r≤n→ZP k n r *ZP k n r≤n
 | 0,r,h=>h
 | k+1,r,h=>by
   unfold ZP
   split
   ·exact Zi0 n k _ (by assumption)
   ·exact Zi0 n k _ h
theorem ZxD{n:Int}(h:0≤n):ZP 24 n 0 *ZP 24 n 0≤n:=Zi0 n 24 0 (by simpa using h)
theorem ZbE(l h:Int):right (of l h)= !(of l h).no:=by
 unfold of
 cases e:right ⟨l,h,false⟩ with
 | true=>simp[e]
 | false=>simp;rfl
theorem Ws:right none'= !none'.no:=rfl
theorem Jk{c:Bool}{x y:Iv}(hx:right x= !x.no)(hy:right y= !y.no):right (bif c then x else y)= !(bif c then x else y).no:=by cases c<;>assumption
theorem ZaP(a b:Iv):right (add a b)= !(add a b).no:=Jk (ZbE _ _) Ws
theorem Zg8(a:Iv):right (neg a)= !(neg a).no:=Jk (ZbE _ _) Ws
theorem Ze9(a b:Iv):right (sub a b)= !(sub a b).no:=ZaP _ _
theorem ZrI(f:Int→Int→Bool→Int×Bool)(a b:Iv):right (ends f a b)= !(ends f a b).no:=Jk (ZbE _ _) Ws
theorem Zdi(a b:Iv):right (Ye a b)= !(Ye a b).no:=Jk (ZrI _ _ _) Ws
theorem Zaz(a b:Iv):right (Z8 a b)= !(Z8 a b).no:=Jk (ZrI _ _ _) Ws
theorem ZeA(a:Iv):right (sqr a)= !(sqr a).no:=Jk (ZbE _ _) Ws
theorem Zcc(a:Iv):right (Wz a)= !(Wz a).no:=Jk (ZbE _ _) Ws
theorem WO(d:Dec):right (Zg d)= !(Zg d).no:=Jk (ZbE _ _) Ws
theorem J0(n:Int):right (point n)= !(point n).no:=ZbE _ _
theorem Zdj(n:Int):right (whole n)= !(whole n).no:=Jk (J0 _) Ws
theorem XV{d:Dec}(h:ZA d=true):(-100000000000≤d.c∧d.c≤100000000000)∧(0≤d.scale∧d.scale≤6):=by
 simp[ZA] at h
 omega
def pick(n m:Int):Int:=n % m
theorem YE{n m:Int}(h:0 < m):0≤pick n m∧pick n m < m:=⟨Int.emod_nonneg n (by omega),Int.emod_lt_of_pos n h⟩
theorem ZrJ{n m:Int}(h:0 < m):pick n m=if n.tmod m < 0 then n.tmod m+m else n.tmod m:=by
 have h1:=YE (n:=n) h
 unfold pick at *
 rw[Int.tmod_eq_emod]
 split<;>split<;>omega
theorem ZzT{n m:Int}(h:0 < m): -m < n.tmod m∧n.tmod m < m:=by
 have h1:=YE (n:=n) h
 unfold pick at h1
 rw[Int.tmod_eq_emod]
 split<;>omega
def w64(n:Int):Int:=IntKind.i64.wrap n
def num(n:Int):Int:=
 let k:=pick n 9
 let m:=IntKind.i64.wrap (n.tdiv 9)
 bif k==0 then n else bif k==1 then (pick m 201 - 100)*65536 else bif k==2 then pick m 9 - 4 else bif k==3 then pick m 2147483657 - 1073741824 - 4 else pick m 2621440 - 1310720
def wide(x w:Int):Iv:=⟨within x (-1073741824) 1073741824,min 1073741824 (within x (-1073741824) 1073741824+w),false⟩
def ZeB(n w:Int):Iv:=
 let k:=pick w 12
 bif k==0 then ⟨num n,num (IntKind.i64.wrap (w.tdiv 12)),false⟩ else bif k==1 then ⟨num n,num n,pick (IntKind.i64.wrap (w.tdiv 12)) 5==4⟩ else bif k==2||k==3 then ⟨num n,num n,false⟩ else wide (num n) (pick (IntKind.i64.wrap (w.tdiv 12)) 9000)
def Yf(d:Dec):Bool:=d.c==0&&d.scale==0
def meet(s:Shape)(r:Ray):Iv×Int:=
 bif s.kind==1 then
  let o:=Z2B r.o ⟨Zg s.x,Zg s.y,Zg s.z⟩
  Z2b (Z0D r.d) (dot o r.d) (sub (Z0D o) (sqr (Zg s.r)))
 else bif s.kind==2 then
  let t:=Z8 (sub (Zg s.z) r.o.z) r.d.z
  bif t.no then (none',0) else (t,1)
 else (none',0)
def hit(s:Shape)(r:Ray):Iv×Int:=
 bif !((meet s r).2==1) then (none',(meet s r).2) else bif decide ((meet s r).1.hi≤0) then (none',2) else bif decide ((meet s r).1.lo≤0) then (none',0) else ((meet s r).1,1)
theorem YI(l:List Shape):Zf Shape.dec (l.map Shape.enc)=l:=Jy _ _ (fun _=>rfl) l
theorem dI(l:List I):Zf I.dec (l.map I.enc)=l:=Jy _ _ (fun _=>rfl) l
theorem dIv(l:List Iv):Zf Iv.dec (l.map Iv.enc)=l:=Jy _ _ (fun _=>rfl) l
def X3{α:Type}(p:α→Bool):List α→Int→Int
 | [],_=> -1
 | x::r,i=>bif p x then i else X3 p r (i+1)
theorem ZhF{α:Type}{p:α→Bool}:∀{l:List α} {i:Int},l.any p=false→X3 p l i= -1
 | [],_,_=>rfl
 | x::r,i,h=>by
   simp only[QU_,Ka_] at h
   simp only[X3,h.1,Qd_]
   exact ZhF h.2
theorem ZhG{α:Type}{p:α→Bool}:∀{l:List α} {i:Int},0≤i→decide (X3 p l i≥0)=l.any p
 | [],_,_=>by simp[X3]
 | x::r,i,h=>by
   cases e:p x with
   | true=>simp[X3,e];exact h
   | false=>simpa [X3,e] using ZhG (p:=p) (l:=r) (i:=i+1) (by omega)
theorem ZM{α:Type}{l:List α}{i:Int}(h0:0≤i)(h:i < l.length):∃x r,l.drop i.toNat=x::r∧l.drop (i+1).toNat=r∧l[i.toNat]?=some x:=by
 have hl:i.toNat < l.length:=by omega
 refine ⟨l[i.toNat],l.drop (i.toNat+1),Ky_ hl,by rw[show (i+1).toNat=i.toNat+1 by omega],by simp[hl]⟩
theorem ZV{α:Type}{e:α→List PV}{l:List α}{n:Nat}{x:α}(h:l[n]?=some x):(l.map e).getD n []=e x:=by
 rw[Q7_,Q6_,h];rfl
def hdec:Nat→Int→Int→Dec
 | 0,c,s=>⟨c,s⟩
 | k+1,c,s=>bif decide (s > 0)&&c.tmod 10==0 then hdec k (IntKind.i64.wrap (c.tdiv 10)) (IntKind.i64.wrap (s - 1)) else ⟨c,s⟩
theorem Zp{α:Type}{e:α→List PV}{z:List PV}(h:∀x,Yt z (e x)=e x){l:List α}{i:Int}(h0:0≤i)(h1:i < l.length):0≤i∧(l.map e)[i.toNat]?=some (Yt z ((l.map e).getD i.toNat [])):=by
 obtain ⟨x,r,_,_,hx⟩:=ZM h0 h1
 refine ⟨h0, ?_⟩
 rw[ZV hx,Q6_,hx,h]
 rfl
theorem Z0G(l:List I)(k:Nat):Zd (((l.map I.enc).getD k []).headD .nil)=(l.getD k ⟨0⟩).n:=by
 rw[Q7_,Q6_,Q7_]
 cases l[k]?<;>rfl
theorem Zv5{c s:Int}(h:0 < s)(hs:s≤18)(hc:c.tmod 10=0):hdec s.toNat c s=hdec (IntKind.i64.wrap (s - 1)).toNat (IntKind.i64.wrap (c.tdiv 10)) (IntKind.i64.wrap (s - 1)):=by
 have e:(IntKind.i64.wrap (s - 1))=s - 1:=Ze (by constructor<;>omega)
 rw[e]
 obtain ⟨k,hk⟩:∃k,s.toNat=k+1:=⟨s.toNat - 1,by omega⟩
 have hk2:(s - 1).toNat=k:=by omega
 rw[hk,hk2]
 conv=>lhs;unfold hdec
 rw[e,show (decide (s > 0)&&c.tmod 10==0)=true by simp[h,hc]]
 rfl
theorem ZoK{c s:Int}(h:¬(s > 0∧c.tmod 10=0)):hdec s.toNat c s=⟨c,s⟩:=by
 by_cases hs:s > 0
 ·obtain ⟨k,hk⟩:∃k,s.toNat=k+1:=⟨s.toNat - 1,by omega⟩
  rw[hk]
  unfold hdec
  have hc:(c.tmod 10==0)=false:=by simp;intro e;exact h ⟨hs,e⟩
  rw[hc,Qn_];rfl
 ·have:s.toNat=0:=by omega
  rw[this];rfl
theorem Yg{α:Type}{e:α→List PV}{n:Nat}(h:∀x,(e x).length=n)(l:List α):Lens n (l.map e):=fun y hy=>by
 obtain ⟨x,_,rfl⟩:=Ku_.1 hy
 exact h x
theorem Yu{n:Nat}{l:List (List PV)}{x:List PV}(h:Lens n l)(hx:x.length=n):Lens n (l++[x]):=fun y hy=>by
 rcases Kv_.1 hy with h' | h'
 ·exact h y h'
 ·rw[List.mem_singleton.1 h'];exact hx
def ZjO(r:Ray):List Shape→Int→Int→Iv→List Iv→Int×Iv×List Iv
 | [],_,b,a,all=>(b,a,all)
 | s::l,k,b,a,all=>
   bif (hit s r).2==2 then ZjO r l (k+1) b a all
   else bif decide (b < 0)||decide ((hit s r).1.hi < a.hi) then ZjO r l (k+1) k (hit s r).1 (all++[(hit s r).1])
   else ZjO r l (k+1) b a (all++[(hit s r).1])
def unsure(r:Ray)(l:List Shape):Bool:=l.any (fun s=>(hit s r).2==0)
def behind(a:Iv):List Iv→Int
 | []=>0
 | t::l=>bif decide (a.hi < t.lo) then behind a l+1 else behind a l
def nearest(l:List Shape)(r:Ray):Int×Iv×Int:=
 bif unsure r l then (-1,none',0) else
  let g:=ZjO r l 0 (-1) none' []
  bif decide (g.1 < 0) then (-1,none',2)
  else bif decide (behind g.2.1 g.2.2+1 < g.2.2.length) then (-1,none',0) else (g.1,g.2.1,1)
theorem Zro{cs vs:List PV}{o:Nat}(h:o+vs.length≤cs.length):(lay cs o vs).length=cs.length:=by
 unfold lay
 simp only[Qx_,K2_,K9_]
 omega
structure Surf where
 stop:Bool
 bent:Bool
 curve:Iv
 conic:Iv
 a4:Iv
 a6:Iv
 pos:Iv
 open2:Iv
 ratio:Iv
def Surf.enc(x:Surf):List PV:=[.v (.bool x.stop),.v (.bool x.bent),.v (.int .i64 x.curve.lo),.v (.int .i64 x.curve.hi),.v (.bool x.curve.no),.v (.int .i64 x.conic.lo),.v (.int .i64 x.conic.hi),.v (.bool x.conic.no),.v (.int .i64 x.a4.lo),.v (.int .i64 x.a4.hi),.v (.bool x.a4.no),.v (.int .i64 x.a6.lo),.v (.int .i64 x.a6.hi),.v (.bool x.a6.no),.v (.int .i64 x.pos.lo),.v (.int .i64 x.pos.hi),.v (.bool x.pos.no),.v (.int .i64 x.open2.lo),.v (.int .i64 x.open2.hi),.v (.bool x.open2.no),.v (.int .i64 x.ratio.lo),.v (.int .i64 x.ratio.hi),.v (.bool x.ratio.no)]
def Surf.dec(p:List PV):Surf:=⟨Zv (p.headD .nil),Zv (p.tail.headD .nil),⟨Zd (p.tail.tail.headD .nil),Zd (p.tail.tail.tail.headD .nil),Zv (p.tail.tail.tail.tail.headD .nil)⟩,⟨Zd (p.tail.tail.tail.tail.tail.headD .nil),Zd (p.tail.tail.tail.tail.tail.tail.headD .nil),Zv (p.tail.tail.tail.tail.tail.tail.tail.headD .nil)⟩,⟨Zd (p.tail.tail.tail.tail.tail.tail.tail.tail.headD .nil),Zd (p.tail.tail.tail.tail.tail.tail.tail.tail.tail.headD .nil),Zv (p.tail.tail.tail.tail.tail.tail.tail.tail.tail.tail.headD .nil)⟩,⟨Zd (p.tail.tail.tail.tail.tail.tail.tail.tail.tail.tail.tail.headD .nil),Zd (p.tail.tail.tail.tail.tail.tail.tail.tail.tail.tail.tail.tail.headD .nil),Zv (p.tail.tail.tail.tail.tail.tail.tail.tail.tail.tail.tail.tail.tail.headD .nil)⟩,⟨Zd (p.tail.tail.tail.tail.tail.tail.tail.tail.tail.tail.tail.tail.tail.tail.headD .nil),Zd (p.tail.tail.tail.tail.tail.tail.tail.tail.tail.tail.tail.tail.tail.tail.tail.headD .nil),Zv (p.tail.tail.tail.tail.tail.tail.tail.tail.tail.tail.tail.tail.tail.tail.tail.tail.headD .nil)⟩,⟨Zd (p.tail.tail.tail.tail.tail.tail.tail.tail.tail.tail.tail.tail.tail.tail.tail.tail.tail.headD .nil),Zd (p.tail.tail.tail.tail.tail.tail.tail.tail.tail.tail.tail.tail.tail.tail.tail.tail.tail.tail.headD .nil),Zv (p.tail.tail.tail.tail.tail.tail.tail.tail.tail.tail.tail.tail.tail.tail.tail.tail.tail.tail.tail.headD .nil)⟩,⟨Zd (p.tail.tail.tail.tail.tail.tail.tail.tail.tail.tail.tail.tail.tail.tail.tail.tail.tail.tail.tail.tail.headD .nil),Zd (p.tail.tail.tail.tail.tail.tail.tail.tail.tail.tail.tail.tail.tail.tail.tail.tail.tail.tail.tail.tail.tail.headD .nil),Zv (p.tail.tail.tail.tail.tail.tail.tail.tail.tail.tail.tail.tail.tail.tail.tail.tail.tail.tail.tail.tail.tail.tail.headD .nil)⟩⟩
theorem Yi(l:List Surf):Zf Surf.dec (l.map Surf.enc)=l:=Jy _ _ (fun _=>rfl) l
structure SysM where
 surfs:List Surf
 op:Iv
def SysM.enc(x:SysM):List PV:=[.lst (x.surfs.map Surf.enc),.v (.int .i64 x.op.lo),.v (.int .i64 x.op.hi),.v (.bool x.op.no)]
def SysM.dec(p:List PV):SysM:=⟨(Zf Surf.dec (ZaO (p.headD .nil))),⟨Zd (p.tail.headD .nil),Zd (p.tail.tail.headD .nil),Zv (p.tail.tail.tail.headD .nil)⟩⟩
-- SysM: with lists
structure TrRes where
 kind:Int
 pos:Int
 r:Ray
def TrRes.enc(x:TrRes):List PV:=[.v (.int .i64 x.kind),.v (.int .i64 x.pos),.v (.int .i64 x.r.o.x.lo),.v (.int .i64 x.r.o.x.hi),.v (.bool x.r.o.x.no),.v (.int .i64 x.r.o.y.lo),.v (.int .i64 x.r.o.y.hi),.v (.bool x.r.o.y.no),.v (.int .i64 x.r.o.z.lo),.v (.int .i64 x.r.o.z.hi),.v (.bool x.r.o.z.no),.v (.int .i64 x.r.d.x.lo),.v (.int .i64 x.r.d.x.hi),.v (.bool x.r.d.x.no),.v (.int .i64 x.r.d.y.lo),.v (.int .i64 x.r.d.y.hi),.v (.bool x.r.d.y.no),.v (.int .i64 x.r.d.z.lo),.v (.int .i64 x.r.d.z.hi),.v (.bool x.r.d.z.no)]
def TrRes.dec(p:List PV):TrRes:=⟨Zd (p.headD .nil),Zd (p.tail.headD .nil),⟨⟨⟨Zd (p.tail.tail.headD .nil),Zd (p.tail.tail.tail.headD .nil),Zv (p.tail.tail.tail.tail.headD .nil)⟩,⟨Zd (p.tail.tail.tail.tail.tail.headD .nil),Zd (p.tail.tail.tail.tail.tail.tail.headD .nil),Zv (p.tail.tail.tail.tail.tail.tail.tail.headD .nil)⟩,⟨Zd (p.tail.tail.tail.tail.tail.tail.tail.tail.headD .nil),Zd (p.tail.tail.tail.tail.tail.tail.tail.tail.tail.headD .nil),Zv (p.tail.tail.tail.tail.tail.tail.tail.tail.tail.tail.headD .nil)⟩⟩,⟨⟨Zd (p.tail.tail.tail.tail.tail.tail.tail.tail.tail.tail.tail.headD .nil),Zd (p.tail.tail.tail.tail.tail.tail.tail.tail.tail.tail.tail.tail.headD .nil),Zv (p.tail.tail.tail.tail.tail.tail.tail.tail.tail.tail.tail.tail.tail.headD .nil)⟩,⟨Zd (p.tail.tail.tail.tail.tail.tail.tail.tail.tail.tail.tail.tail.tail.tail.headD .nil),Zd (p.tail.tail.tail.tail.tail.tail.tail.tail.tail.tail.tail.tail.tail.tail.tail.headD .nil),Zv (p.tail.tail.tail.tail.tail.tail.tail.tail.tail.tail.tail.tail.tail.tail.tail.tail.headD .nil)⟩,⟨Zd (p.tail.tail.tail.tail.tail.tail.tail.tail.tail.tail.tail.tail.tail.tail.tail.tail.tail.headD .nil),Zd (p.tail.tail.tail.tail.tail.tail.tail.tail.tail.tail.tail.tail.tail.tail.tail.tail.tail.tail.headD .nil),Zv (p.tail.tail.tail.tail.tail.tail.tail.tail.tail.tail.tail.tail.tail.tail.tail.tail.tail.tail.tail.headD .nil)⟩⟩⟩⟩
structure G3 where
 a:Dec
 b:Dec
 c:Dec
def G3.enc(x:G3):List PV:=[.v (.int .i64 x.a.c),.v (.int .i64 x.a.scale),.v (.int .i64 x.b.c),.v (.int .i64 x.b.scale),.v (.int .i64 x.c.c),.v (.int .i64 x.c.scale)]
def G3.dec(p:List PV):G3:=⟨⟨Zd (p.headD .nil),Zd (p.tail.headD .nil)⟩,⟨Zd (p.tail.tail.headD .nil),Zd (p.tail.tail.tail.headD .nil)⟩,⟨Zd (p.tail.tail.tail.tail.headD .nil),Zd (p.tail.tail.tail.tail.tail.headD .nil)⟩⟩
structure Glass where
 name:List UInt8
 b:G3
 c:G3
def Glass.enc(x:Glass):List PV:=[.str x.name,.v (.int .i64 x.b.a.c),.v (.int .i64 x.b.a.scale),.v (.int .i64 x.b.b.c),.v (.int .i64 x.b.b.scale),.v (.int .i64 x.b.c.c),.v (.int .i64 x.b.c.scale),.v (.int .i64 x.c.a.c),.v (.int .i64 x.c.a.scale),.v (.int .i64 x.c.b.c),.v (.int .i64 x.c.b.scale),.v (.int .i64 x.c.c.c),.v (.int .i64 x.c.c.scale)]
def Glass.dec(p:List PV):Glass:=⟨Wf (p.headD .nil),⟨⟨Zd (p.tail.headD .nil),Zd (p.tail.tail.headD .nil)⟩,⟨Zd (p.tail.tail.tail.headD .nil),Zd (p.tail.tail.tail.tail.headD .nil)⟩,⟨Zd (p.tail.tail.tail.tail.tail.headD .nil),Zd (p.tail.tail.tail.tail.tail.tail.headD .nil)⟩⟩,⟨⟨Zd (p.tail.tail.tail.tail.tail.tail.tail.headD .nil),Zd (p.tail.tail.tail.tail.tail.tail.tail.tail.headD .nil)⟩,⟨Zd (p.tail.tail.tail.tail.tail.tail.tail.tail.tail.headD .nil),Zd (p.tail.tail.tail.tail.tail.tail.tail.tail.tail.tail.headD .nil)⟩,⟨Zd (p.tail.tail.tail.tail.tail.tail.tail.tail.tail.tail.tail.headD .nil),Zd (p.tail.tail.tail.tail.tail.tail.tail.tail.tail.tail.tail.tail.headD .nil)⟩⟩⟩
theorem Zm(l:List Glass):Zf Glass.dec (l.map Glass.enc)=l:=Jy _ _ (fun _=>rfl) l
structure Face where
 stop:Bool
 radius:Dec
 aperture:Dec
 thick:Dec
 conic:Dec
 a4:Dec
 a6:Dec
 glass:List UInt8
def Face.enc(x:Face):List PV:=[.v (.bool x.stop),.v (.int .i64 x.radius.c),.v (.int .i64 x.radius.scale),.v (.int .i64 x.aperture.c),.v (.int .i64 x.aperture.scale),.v (.int .i64 x.thick.c),.v (.int .i64 x.thick.scale),.v (.int .i64 x.conic.c),.v (.int .i64 x.conic.scale),.v (.int .i64 x.a4.c),.v (.int .i64 x.a4.scale),.v (.int .i64 x.a6.c),.v (.int .i64 x.a6.scale),.str x.glass]
def Face.dec(p:List PV):Face:=⟨Zv (p.headD .nil),⟨Zd (p.tail.headD .nil),Zd (p.tail.tail.headD .nil)⟩,⟨Zd (p.tail.tail.tail.headD .nil),Zd (p.tail.tail.tail.tail.headD .nil)⟩,⟨Zd (p.tail.tail.tail.tail.tail.headD .nil),Zd (p.tail.tail.tail.tail.tail.tail.headD .nil)⟩,⟨Zd (p.tail.tail.tail.tail.tail.tail.tail.headD .nil),Zd (p.tail.tail.tail.tail.tail.tail.tail.tail.headD .nil)⟩,⟨Zd (p.tail.tail.tail.tail.tail.tail.tail.tail.tail.headD .nil),Zd (p.tail.tail.tail.tail.tail.tail.tail.tail.tail.tail.headD .nil)⟩,⟨Zd (p.tail.tail.tail.tail.tail.tail.tail.tail.tail.tail.tail.headD .nil),Zd (p.tail.tail.tail.tail.tail.tail.tail.tail.tail.tail.tail.tail.headD .nil)⟩,Wf (p.tail.tail.tail.tail.tail.tail.tail.tail.tail.tail.tail.tail.tail.headD .nil)⟩
theorem Z4(l:List Face):Zf Face.dec (l.map Face.enc)=l:=Jy _ _ (fun _=>rfl) l
structure LensM where
 name:List UInt8
 back:Dec
 faces:List Face
def LensM.enc(x:LensM):List PV:=[.str x.name,.v (.int .i64 x.back.c),.v (.int .i64 x.back.scale),.lst (x.faces.map Face.enc)]
def LensM.dec(p:List PV):LensM:=⟨Wf (p.headD .nil),⟨Zd (p.tail.headD .nil),Zd (p.tail.tail.headD .nil)⟩,(Zf Face.dec (ZaO (p.tail.tail.tail.headD .nil)))⟩
-- LensM: with lists
structure RawFace where
 kind:Int
 r:Int
 a:Int
 t:Int
 g:Int
 k:Int
def RawFace.enc(x:RawFace):List PV:=[.v (.int .i64 x.kind),.v (.int .i64 x.r),.v (.int .i64 x.a),.v (.int .i64 x.t),.v (.int .i64 x.g),.v (.int .i64 x.k)]
def RawFace.dec(p:List PV):RawFace:=⟨Zd (p.headD .nil),Zd (p.tail.headD .nil),Zd (p.tail.tail.headD .nil),Zd (p.tail.tail.tail.headD .nil),Zd (p.tail.tail.tail.tail.headD .nil),Zd (p.tail.tail.tail.tail.tail.headD .nil)⟩
theorem WP(l:List RawFace):Zf RawFace.dec (l.map RawFace.enc)=l:=Jy _ _ (fun _=>rfl) l
structure Pixel where
 lo:A3
 hi:A3
 lost:Int
def Pixel.enc(x:Pixel):List PV:=[.v (.int .i64 x.lo.a),.v (.int .i64 x.lo.b),.v (.int .i64 x.lo.c),.v (.int .i64 x.hi.a),.v (.int .i64 x.hi.b),.v (.int .i64 x.hi.c),.v (.int .i64 x.lost)]
def Pixel.dec(p:List PV):Pixel:=⟨⟨Zd (p.headD .nil),Zd (p.tail.headD .nil),Zd (p.tail.tail.headD .nil)⟩,⟨Zd (p.tail.tail.tail.headD .nil),Zd (p.tail.tail.tail.tail.headD .nil),Zd (p.tail.tail.tail.tail.tail.headD .nil)⟩,Zd (p.tail.tail.tail.tail.tail.tail.headD .nil)⟩
structure Card where
 efl:Iv
 bfl:Iv
 plane:Iv
 number:Iv
def Card.enc(x:Card):List PV:=[.v (.int .i64 x.efl.lo),.v (.int .i64 x.efl.hi),.v (.bool x.efl.no),.v (.int .i64 x.bfl.lo),.v (.int .i64 x.bfl.hi),.v (.bool x.bfl.no),.v (.int .i64 x.plane.lo),.v (.int .i64 x.plane.hi),.v (.bool x.plane.no),.v (.int .i64 x.number.lo),.v (.int .i64 x.number.hi),.v (.bool x.number.no)]
def Card.dec(p:List PV):Card:=⟨⟨Zd (p.headD .nil),Zd (p.tail.headD .nil),Zv (p.tail.tail.headD .nil)⟩,⟨Zd (p.tail.tail.tail.headD .nil),Zd (p.tail.tail.tail.tail.headD .nil),Zv (p.tail.tail.tail.tail.tail.headD .nil)⟩,⟨Zd (p.tail.tail.tail.tail.tail.tail.headD .nil),Zd (p.tail.tail.tail.tail.tail.tail.tail.headD .nil),Zv (p.tail.tail.tail.tail.tail.tail.tail.tail.headD .nil)⟩,⟨Zd (p.tail.tail.tail.tail.tail.tail.tail.tail.tail.headD .nil),Zd (p.tail.tail.tail.tail.tail.tail.tail.tail.tail.tail.headD .nil),Zv (p.tail.tail.tail.tail.tail.tail.tail.tail.tail.tail.tail.headD .nil)⟩⟩
structure FnM where
 poly:List Iv
 s:Surf
 r:Ray
def FnM.enc(x:FnM):List PV:=[.lst (x.poly.map Iv.enc),.v (.bool true),.v (.bool x.s.stop),.v (.bool x.s.bent),.v (.int .i64 x.s.curve.lo),.v (.int .i64 x.s.curve.hi),.v (.bool x.s.curve.no),.v (.int .i64 x.s.conic.lo),.v (.int .i64 x.s.conic.hi),.v (.bool x.s.conic.no),.v (.int .i64 x.s.a4.lo),.v (.int .i64 x.s.a4.hi),.v (.bool x.s.a4.no),.v (.int .i64 x.s.a6.lo),.v (.int .i64 x.s.a6.hi),.v (.bool x.s.a6.no),.v (.int .i64 x.s.pos.lo),.v (.int .i64 x.s.pos.hi),.v (.bool x.s.pos.no),.v (.int .i64 x.s.open2.lo),.v (.int .i64 x.s.open2.hi),.v (.bool x.s.open2.no),.v (.int .i64 x.s.ratio.lo),.v (.int .i64 x.s.ratio.hi),.v (.bool x.s.ratio.no),.v (.int .i64 x.r.o.x.lo),.v (.int .i64 x.r.o.x.hi),.v (.bool x.r.o.x.no),.v (.int .i64 x.r.o.y.lo),.v (.int .i64 x.r.o.y.hi),.v (.bool x.r.o.y.no),.v (.int .i64 x.r.o.z.lo),.v (.int .i64 x.r.o.z.hi),.v (.bool x.r.o.z.no),.v (.int .i64 x.r.d.x.lo),.v (.int .i64 x.r.d.x.hi),.v (.bool x.r.d.x.no),.v (.int .i64 x.r.d.y.lo),.v (.int .i64 x.r.d.y.hi),.v (.bool x.r.d.y.no),.v (.int .i64 x.r.d.z.lo),.v (.int .i64 x.r.d.z.hi),.v (.bool x.r.d.z.no)]
def FnM.dec(p:List PV):FnM:=⟨(Zf Iv.dec (ZaO (p.headD .nil))),⟨Zv (p.tail.tail.headD .nil),Zv (p.tail.tail.tail.headD .nil),⟨Zd (p.tail.tail.tail.tail.headD .nil),Zd (p.tail.tail.tail.tail.tail.headD .nil),Zv (p.tail.tail.tail.tail.tail.tail.headD .nil)⟩,⟨Zd (p.tail.tail.tail.tail.tail.tail.tail.headD .nil),Zd (p.tail.tail.tail.tail.tail.tail.tail.tail.headD .nil),Zv (p.tail.tail.tail.tail.tail.tail.tail.tail.tail.headD .nil)⟩,⟨Zd (p.tail.tail.tail.tail.tail.tail.tail.tail.tail.tail.headD .nil),Zd (p.tail.tail.tail.tail.tail.tail.tail.tail.tail.tail.tail.headD .nil),Zv (p.tail.tail.tail.tail.tail.tail.tail.tail.tail.tail.tail.tail.headD .nil)⟩,⟨Zd (p.tail.tail.tail.tail.tail.tail.tail.tail.tail.tail.tail.tail.tail.headD .nil),Zd (p.tail.tail.tail.tail.tail.tail.tail.tail.tail.tail.tail.tail.tail.tail.headD .nil),Zv (p.tail.tail.tail.tail.tail.tail.tail.tail.tail.tail.tail.tail.tail.tail.tail.headD .nil)⟩,⟨Zd (p.tail.tail.tail.tail.tail.tail.tail.tail.tail.tail.tail.tail.tail.tail.tail.tail.headD .nil),Zd (p.tail.tail.tail.tail.tail.tail.tail.tail.tail.tail.tail.tail.tail.tail.tail.tail.tail.headD .nil),Zv (p.tail.tail.tail.tail.tail.tail.tail.tail.tail.tail.tail.tail.tail.tail.tail.tail.tail.tail.headD .nil)⟩,⟨Zd (p.tail.tail.tail.tail.tail.tail.tail.tail.tail.tail.tail.tail.tail.tail.tail.tail.tail.tail.tail.headD .nil),Zd (p.tail.tail.tail.tail.tail.tail.tail.tail.tail.tail.tail.tail.tail.tail.tail.tail.tail.tail.tail.tail.headD .nil),Zv (p.tail.tail.tail.tail.tail.tail.tail.tail.tail.tail.tail.tail.tail.tail.tail.tail.tail.tail.tail.tail.tail.headD .nil)⟩,⟨Zd (p.tail.tail.tail.tail.tail.tail.tail.tail.tail.tail.tail.tail.tail.tail.tail.tail.tail.tail.tail.tail.tail.tail.headD .nil),Zd (p.tail.tail.tail.tail.tail.tail.tail.tail.tail.tail.tail.tail.tail.tail.tail.tail.tail.tail.tail.tail.tail.tail.tail.headD .nil),Zv (p.tail.tail.tail.tail.tail.tail.tail.tail.tail.tail.tail.tail.tail.tail.tail.tail.tail.tail.tail.tail.tail.tail.tail.tail.headD .nil)⟩⟩,⟨⟨⟨Zd (p.tail.tail.tail.tail.tail.tail.tail.tail.tail.tail.tail.tail.tail.tail.tail.tail.tail.tail.tail.tail.tail.tail.tail.tail.tail.headD .nil),Zd (p.tail.tail.tail.tail.tail.tail.tail.tail.tail.tail.tail.tail.tail.tail.tail.tail.tail.tail.tail.tail.tail.tail.tail.tail.tail.tail.headD .nil),Zv (p.tail.tail.tail.tail.tail.tail.tail.tail.tail.tail.tail.tail.tail.tail.tail.tail.tail.tail.tail.tail.tail.tail.tail.tail.tail.tail.tail.headD .nil)⟩,⟨Zd (p.tail.tail.tail.tail.tail.tail.tail.tail.tail.tail.tail.tail.tail.tail.tail.tail.tail.tail.tail.tail.tail.tail.tail.tail.tail.tail.tail.tail.headD .nil),Zd (p.tail.tail.tail.tail.tail.tail.tail.tail.tail.tail.tail.tail.tail.tail.tail.tail.tail.tail.tail.tail.tail.tail.tail.tail.tail.tail.tail.tail.tail.headD .nil),Zv (p.tail.tail.tail.tail.tail.tail.tail.tail.tail.tail.tail.tail.tail.tail.tail.tail.tail.tail.tail.tail.tail.tail.tail.tail.tail.tail.tail.tail.tail.tail.headD .nil)⟩,⟨Zd (p.tail.tail.tail.tail.tail.tail.tail.tail.tail.tail.tail.tail.tail.tail.tail.tail.tail.tail.tail.tail.tail.tail.tail.tail.tail.tail.tail.tail.tail.tail.tail.headD .nil),Zd (p.tail.tail.tail.tail.tail.tail.tail.tail.tail.tail.tail.tail.tail.tail.tail.tail.tail.tail.tail.tail.tail.tail.tail.tail.tail.tail.tail.tail.tail.tail.tail.tail.headD .nil),Zv (p.tail.tail.tail.tail.tail.tail.tail.tail.tail.tail.tail.tail.tail.tail.tail.tail.tail.tail.tail.tail.tail.tail.tail.tail.tail.tail.tail.tail.tail.tail.tail.tail.tail.headD .nil)⟩⟩,⟨⟨Zd (p.tail.tail.tail.tail.tail.tail.tail.tail.tail.tail.tail.tail.tail.tail.tail.tail.tail.tail.tail.tail.tail.tail.tail.tail.tail.tail.tail.tail.tail.tail.tail.tail.tail.tail.headD .nil),Zd (p.tail.tail.tail.tail.tail.tail.tail.tail.tail.tail.tail.tail.tail.tail.tail.tail.tail.tail.tail.tail.tail.tail.tail.tail.tail.tail.tail.tail.tail.tail.tail.tail.tail.tail.tail.headD .nil),Zv (p.tail.tail.tail.tail.tail.tail.tail.tail.tail.tail.tail.tail.tail.tail.tail.tail.tail.tail.tail.tail.tail.tail.tail.tail.tail.tail.tail.tail.tail.tail.tail.tail.tail.tail.tail.tail.headD .nil)⟩,⟨Zd (p.tail.tail.tail.tail.tail.tail.tail.tail.tail.tail.tail.tail.tail.tail.tail.tail.tail.tail.tail.tail.tail.tail.tail.tail.tail.tail.tail.tail.tail.tail.tail.tail.tail.tail.tail.tail.tail.headD .nil),Zd (p.tail.tail.tail.tail.tail.tail.tail.tail.tail.tail.tail.tail.tail.tail.tail.tail.tail.tail.tail.tail.tail.tail.tail.tail.tail.tail.tail.tail.tail.tail.tail.tail.tail.tail.tail.tail.tail.tail.headD .nil),Zv (p.tail.tail.tail.tail.tail.tail.tail.tail.tail.tail.tail.tail.tail.tail.tail.tail.tail.tail.tail.tail.tail.tail.tail.tail.tail.tail.tail.tail.tail.tail.tail.tail.tail.tail.tail.tail.tail.tail.tail.headD .nil)⟩,⟨Zd (p.tail.tail.tail.tail.tail.tail.tail.tail.tail.tail.tail.tail.tail.tail.tail.tail.tail.tail.tail.tail.tail.tail.tail.tail.tail.tail.tail.tail.tail.tail.tail.tail.tail.tail.tail.tail.tail.tail.tail.tail.headD .nil),Zd (p.tail.tail.tail.tail.tail.tail.tail.tail.tail.tail.tail.tail.tail.tail.tail.tail.tail.tail.tail.tail.tail.tail.tail.tail.tail.tail.tail.tail.tail.tail.tail.tail.tail.tail.tail.tail.tail.tail.tail.tail.tail.headD .nil),Zv (p.tail.tail.tail.tail.tail.tail.tail.tail.tail.tail.tail.tail.tail.tail.tail.tail.tail.tail.tail.tail.tail.tail.tail.tail.tail.tail.tail.tail.tail.tail.tail.tail.tail.tail.tail.tail.tail.tail.tail.tail.tail.tail.headD .nil)⟩⟩⟩⟩
-- FnM: with lists
structure Pair where
 x:Int
 y:Int
def Pair.enc(x:Pair):List PV:=[.v (.int .i64 x.x),.v (.int .i64 x.y)]
def Pair.dec(p:List PV):Pair:=⟨Zd (p.headD .nil),Zd (p.tail.headD .nil)⟩
structure S3 where
 a:SysM
 b:SysM
 c:SysM
def S3.enc(x:S3):List PV:=[.lst (x.a.surfs.map Surf.enc),.v (.int .i64 x.a.op.lo),.v (.int .i64 x.a.op.hi),.v (.bool x.a.op.no),.lst (x.b.surfs.map Surf.enc),.v (.int .i64 x.b.op.lo),.v (.int .i64 x.b.op.hi),.v (.bool x.b.op.no),.lst (x.c.surfs.map Surf.enc),.v (.int .i64 x.c.op.lo),.v (.int .i64 x.c.op.hi),.v (.bool x.c.op.no)]
def S3.dec(p:List PV):S3:=⟨⟨(Zf Surf.dec (ZaO (p.headD .nil))),⟨Zd (p.tail.headD .nil),Zd (p.tail.tail.headD .nil),Zv (p.tail.tail.tail.headD .nil)⟩⟩,⟨(Zf Surf.dec (ZaO (p.tail.tail.tail.tail.headD .nil))),⟨Zd (p.tail.tail.tail.tail.tail.headD .nil),Zd (p.tail.tail.tail.tail.tail.tail.headD .nil),Zv (p.tail.tail.tail.tail.tail.tail.tail.headD .nil)⟩⟩,⟨(Zf Surf.dec (ZaO (p.tail.tail.tail.tail.tail.tail.tail.tail.headD .nil))),⟨Zd (p.tail.tail.tail.tail.tail.tail.tail.tail.tail.headD .nil),Zd (p.tail.tail.tail.tail.tail.tail.tail.tail.tail.tail.headD .nil),Zv (p.tail.tail.tail.tail.tail.tail.tail.tail.tail.tail.tail.headD .nil)⟩⟩⟩
-- S3: with lists
structure Cx where
 re:Nat
 im:Nat
def Cx.enc(z:Cx):List PV:=[.v (.complex .f64 z.re z.im)]
def Cx.dec(l:List PV):Cx:=⟨ZsG (l.headD .nil),ZsH (l.headD .nil)⟩
def Ray.dec(p:List PV):Ray:=⟨⟨⟨Zd (p.headD .nil),Zd (p.tail.headD .nil),Zv (p.tail.tail.headD .nil)⟩,⟨Zd (p.tail.tail.tail.headD .nil),Zd (p.tail.tail.tail.tail.headD .nil),Zv (p.tail.tail.tail.tail.tail.headD .nil)⟩,⟨Zd (p.tail.tail.tail.tail.tail.tail.headD .nil),Zd (p.tail.tail.tail.tail.tail.tail.tail.headD .nil),Zv (p.tail.tail.tail.tail.tail.tail.tail.tail.headD .nil)⟩⟩,⟨⟨Zd ((p.drop 9).headD .nil),Zd ((p.drop 10).headD .nil),Zv ((p.drop 11).headD .nil)⟩,⟨Zd ((p.drop 12).headD .nil),Zd ((p.drop 13).headD .nil),Zv ((p.drop 14).headD .nil)⟩,⟨Zd ((p.drop 15).headD .nil),Zd ((p.drop 16).headD .nil),Zv ((p.drop 17).headD .nil)⟩⟩⟩
def ZyW(a:Iv):Int:=bif right a then floor (a.lo+a.hi) 2 else 0
def Zv6(a b:Iv):Iv:=bif both a b then of (max a.lo b.lo) (min a.hi b.hi) else none'
def Zv7(a b:Iv):Iv:=bif both a b then of (min a.lo b.lo) (max a.hi b.hi) else none'
def noV:V:=⟨none',none',none'⟩
def Z0H(f:Iv→Iv×Iv)(t:Iv):Iv:=sub (point (ZyW t)) (Z8 (f (point (ZyW t))).1 (f t).2)
def Yz(x y:Int):Cx:=⟨FloatKind.f64.nearest x,FloatKind.f64.nearest y⟩
def ZjP:Iv:=⟨0,0,false⟩
theorem ZeC(a b:Iv):right (Zv6 a b)= !(Zv6 a b).no:=Jk (ZbE _ _) Ws
theorem ZeD(a b:Iv):right (Zv7 a b)= !(Zv7 a b).no:=Jk (ZbE _ _) Ws
theorem Zdk(a:Iv)(k:Int):right (times a k)= !(times a k).no:=Jk (ZbE _ _) Ws
theorem Zg9(a b:V):right (dot a b)= !(dot a b).no:=ZaP _ _
theorem ZeE(f:Iv→Iv×Iv)(t:Iv):right (Z0H f t)= !(Z0H f t).no:=Ze9 _ _
open Go
def Y3(c:Int):Bool:=(decide (97≤c)&&decide (c≤122))||(decide (65≤c)&&decide (c≤90))
def Xb(c:Int):Bool:=decide (48≤c)&&decide (c≤57)
def Z5(c:Int):Bool:=Y3 c||(Xb c||(c==45||c==95))
def Zfu(b:UInt8):Bool:=Z5 (b.toNat:Int)
def Yy(s:List UInt8):Bool:=decide (1≤s.length)&&(decide (s.length≤20)&&(Y3 ((s.getD 0 0).toNat:Int)&&s.all Zfu))
def JW:Nat→Nat→List UInt8
 | 0,_=>[]
 | f+1,n=>bif decide (n < 10) then [UInt8.ofNat (48+n)] else JW f (n / 10)++[UInt8.ofNat (48+n % 10)]
def digits(n:Int):List UInt8:=bif decide (n < 0) then 45::JW 19 (-n).toNat else JW 19 n.toNat
theorem Zi1:∀(f n:Nat),(JW f n).length≤f
 | 0,n=>Q2_ _
 | f+1,n=>by
   unfold JW
   cases decide (n < 10)<;>simp only[Qb_,Qd_,Qx_,Qs_,Q1_]
   ·have:=Zi1 f (n / 10);omega
   ·omega
theorem ZxE:∀(f n:Nat),1≤(JW (f+1) n).length
 | f,n=>by
   unfold JW
   cases decide (n < 10)<;>simp only[Qb_,Qd_,Qx_,Qs_,Q1_]<;>omega
theorem Y5(n:Int):1≤(digits n).length∧(digits n).length≤20:=by
 unfold digits
 cases decide (n < 0)<;>simp only[Qb_,Qd_,Qs_]
 ·exact ⟨ZxE 18 _,Nat.le_succ_of_le (Zi1 _ _)⟩
 ·exact ⟨by omega,by have:=Zi1 19 (-n).toNat;omega⟩
def YA(d:Dec):Int:=max d.c (-d.c)
def headD(d:Dec):Int:=(YA d).tdiv (Z2 d.scale)
def W0(d:Dec):Int:=(YA d).tmod (Z2 d.scale)+Z2 d.scale
def ZmW(d:Dec)(s:List UInt8):List UInt8:=bif decide (d.c < 0) then 45::s else s
def ZjQ(d:Dec)(s:List UInt8):List UInt8:=bif decide (d.scale > 0) then s++[46]++(digits (W0 d)).drop 1 else s
def Wb(d:Dec):List UInt8:=bif ZA d then (bif decide (headD d > 99999) then [] else ZjQ d (ZmW d (digits (headD d)))) else []
def printable(d:Dec):Bool:=ZA d&& !decide (headD d > 99999)
theorem ZgA(d:Dec):(!(Wb d==[]))=printable d:=by
 unfold printable Wb ZjQ ZmW
 cases ZA d<;>simp only[Qb_,Qd_]
 ·rfl
 ·have h1:=Y5 (headD d)
  cases decide (headD d > 99999)<;>simp only[Qb_,Qd_]
  ·show (!_)=true
   rw[Qi_,KA_]
   intro e
   have:=Kk_ List.length e
   revert this
   cases decide (d.c < 0)<;>cases decide (d.scale > 0)<;>simp only[Qb_,Qd_,Qx_,Qs_,Q1_]<;>omega
  ·rfl
theorem ZrK{i:Int}(h:i≤6):Z2 i≤1000000:=ZjN (j:=6) h
theorem ZdR{d:Dec}(h:ZA d=true):List.foldl imax d.c [IntKind.i64.wrap (0 - d.c)]=YA d∧IntKind.i64.wrap (headD d)=headD d∧IntKind.i64.wrap (W0 d)=W0 d∧(0≤headD d∧headD d≤100000000000)∧(1≤W0 d∧W0 d≤2000000)∧(1≤Z2 d.scale∧Z2 d.scale≤1000000)∧(0≤d.scale∧d.scale≤6):=by
 obtain ⟨h1,h2⟩:=XV h
 have p1:=Jz d.scale
 have p2:=ZrK (i:=d.scale) h2.2
 have ha:0≤YA d∧YA d≤100000000000:=by unfold YA;omega
 have hq:0≤headD d∧headD d≤100000000000:=by
  unfold headD
  rw[Int.tdiv_eq_ediv_of_nonneg ha.1]
  refine ⟨Int.ediv_nonneg ha.1 (by omega),Int.le_trans (Int.ediv_le_self _ ha.1) ha.2⟩
 have hr:1≤W0 d∧W0 d≤2000000:=by
  unfold W0
  rw[Int.tmod_eq_emod_of_nonneg ha.1]
  have:=Int.emod_nonneg (YA d) (show Z2 d.scale≠0 by omega)
  have:=Int.emod_lt_of_pos (YA d) (show 0 < Z2 d.scale by omega)
  omega
 refine ⟨?_,Ze (by constructor<;>omega),Ze (by constructor<;>omega),hq,hr,⟨p1,p2⟩,h2⟩
 rw[Xa (by constructor<;>omega)]
 simp only[List.foldl,Zs]
 rfl
theorem ZgB{d:Dec}(h:printable d=true):(-100000000000≤d.c∧d.c≤100000000000)∧(0≤d.scale∧d.scale≤6):=by
 unfold printable at h
 rw[Qh_] at h
 exact XV h.1
theorem J1{d:Dec}(h:ZA d=true):IntKind.i64.wrap (6 - d.scale)=6 - d.scale∧(0≤6 - d.scale∧6 - d.scale≤18)∧IntKind.i64.wrap (d.c *Z2 (6 - d.scale))=d.c *Z2 (6 - d.scale):=by
 obtain ⟨h1,h2⟩:=XV h
 have p1:=Jz (6 - d.scale)
 have p2:=ZrK (i:=6 - d.scale) (by omega)
 refine ⟨Ze (by constructor<;>omega),by omega,Ze ?_⟩
 have a1:d.c *Z2 (6 - d.scale)≤100000000000 *Z2 (6 - d.scale):=Kr_ h1.2 (by omega)
 have a2: -100000000000 *Z2 (6 - d.scale)≤d.c *Z2 (6 - d.scale):=Kr_ h1.1 (by omega)
 constructor<;>omega
def ZcA(d:Dec):Dec:=⟨max d.c (w64 (0 - d.c)),d.scale⟩
def Ya(a b:Dec):Bool:=ZA a&&(ZA b&&decide (a.c *Z2 (6 - a.scale) < b.c *Z2 (6 - b.scale)))
def zeroDec:Dec:=⟨0,0⟩
def Zv8:G3:=⟨zeroDec,zeroDec,zeroDec⟩
def Zcd:Glass:=⟨[],Zv8,Zv8⟩
def ZC:List Glass→List UInt8→Glass×Bool
 | [],_=>(Zcd,false)
 | g::l,n=>bif g.name==n then (g,true) else ZC l n
def JX:List UInt8:=[97,105,114]
def Zce(b c:Dec)(l:Iv):Iv:=Z8 (Ye (Zg b) l) (sub l (Zg c))
def W1(g:Glass)(w:Iv):Iv:=bif g.name==JX then point 65536 else Wz (add (add (add (point 65536) (Zce g.b.a g.c.a (sqr w))) (Zce g.b.b g.c.b (sqr w))) (Zce g.b.c g.c.c (sqr w)))
def Zy(k:Int):Iv:=bif k==0 then Zg ⟨5876,4⟩ else bif k==1 then Zg ⟨4861,4⟩ else bif k==2 then Zg ⟨6563,4⟩ else none'
theorem ZgC{f n:Nat}(h:10≤n):JW (f+1) n=JW f (n / 10)++[UInt8.ofNat (48+n % 10)]:=by
 conv=>lhs;unfold JW
 rw[QQ_ (by omega)];rfl
theorem Zdl{f n:Nat}(h:n < 10):JW (f+1) n=[UInt8.ofNat (48+n)]:=by
 unfold JW
 rw[QH_ h];rfl
theorem ZdS:∀(f n:Nat),n < 10 ^ (f+1)→JW (f+2) n=JW (f+1) n
 | 0,n,h=>by rw[Zdl (by simpa using h),Zdl (by simpa using h)]
 | f+1,n,h=>by
   by_cases hn:n < 10
   ·rw[Zdl hn,Zdl hn]
   ·have hn':n / 10 < 10 ^ (f+1):=by
     refine Nat.div_lt_of_lt_mul ?_
     rw[Nat.mul_comm,←Nat.pow_succ];exact h
    have e1:=ZgC (f:=f+2) (show 10≤n by omega)
    have e2:=ZgC (f:=f+1) (show 10≤n by omega)
    rw[ZdS f (n / 10) hn',←e2] at e1
    exact e1
theorem Zaf{n:Int}(h:10≤n)(h2:n≤1000000000000000000):digits n=digits (n / 10)++[UInt8.ofNat (48+(n % 10).toNat)]:=by
 unfold digits
 rw[QQ_ (by omega),QQ_ (by omega)]
 simp only[Qd_]
 rw[ZgC (f:=18) (by omega),show (n / 10).toNat=n.toNat / 10 by omega,show (n % 10).toNat=n.toNat % 10 by omega]
 rw[←ZdS 17 (n.toNat / 10) (by omega)]
theorem ZcB{n:Int}(h0:0≤n)(h:n < 10):digits n=[UInt8.ofNat (48+n.toNat)]:=by
 unfold digits
 rw[QQ_ (by omega),Qd_,Zdl (by omega)]
theorem ZsT{n:Int}(h:n < 0):digits n=45::digits (-n):=by
 unfold digits
 rw[QH_ h,QQ_ (by omega)];rfl
theorem ZrL{m:Int}(h0:0≤m)(h:m < 10):(bif decide ((0:Int)≤IntKind.u8.wrap (IntKind.i64.wrap (48+m)))&&decide (IntKind.u8.wrap (IntKind.i64.wrap (48+m)) < 256) then some [UInt8.ofNat (IntKind.u8.wrap (IntKind.i64.wrap (48+m))).toNat] else none)=some [UInt8.ofNat (48+m.toNat)]:=by
 have h1:IntKind.i64.wrap (48+m)=48+m:=Ze (by constructor<;>omega)
 have h2:IntKind.u8.wrap (48+m)=48+m:=by
  have:m=0∨m=1∨m=2∨m=3∨m=4∨m=5∨m=6∨m=7∨m=8∨m=9:=by omega
  rcases this with rfl | rfl | rfl | rfl | rfl | rfl | rfl | rfl | rfl | rfl<;>decide
 rw[h1,h2,QH_ (by omega),QH_ (by omega)]
 show some [UInt8.ofNat (48+m).toNat]=_
 rw[show (48+m).toNat=48+m.toNat by omega]
theorem Zdm:∀{l:List Glass} {n:List UInt8},(ZC l n).2=false→ZC l n=(Zcd,false)
 | [],_,_=>rfl
 | g::l,n,h=>by
   revert h
   unfold ZC
   cases g.name==n
   ·exact Zdm
   ·intro h;exact absurd h (by simp)
def YF(f:Face)(g:List Glass):Bool:=
 printable f.aperture&&(decide (f.aperture.c > 0)&&(printable f.thick&&(!decide (f.thick.c < 0)&&
  (bif f.stop then Yf f.radius&&(Yf f.conic&&(Yf f.a4&&(Yf f.a6&&f.glass==[])))
   else printable f.radius&&(printable f.conic&&(printable f.a4&&(printable f.a6&&(Yy f.glass&&(((ZC g f.glass).2||f.glass==JX)&&(f.radius.c==0|| !Ya (ZcA f.radius) f.aperture))))))))))
def YO(l:List Face):Bool:=l.any fun f=> !f.stop
def Xm(l:LensM)(g:List Glass):Bool:=Yy l.name&&(printable l.back&&(decide (l.back.c > 0)&&(decide (l.faces.length≤12)&&(l.faces.all (YF · g)&&YO l.faces))))
def YG(x:Surf):Bool:=right x.curve&&(right x.conic&&(right x.a4&&(right x.a6&&(right x.pos&&(right x.open2&&right x.ratio)))))
def WQ(s:SysM):Bool:=s.surfs.all YG&&right s.op
def ZcT(f:Face):Iv:=bif f.radius.c !=0 then Z8 (point 65536) (Zg f.radius) else point 0
def Zi2(f:Face)(g:List Glass)(w:Iv):Iv:=bif f.glass==JX then point 65536 else W1 (ZC g f.glass).1 w
def Zag(f:Face)(pos ratio:Iv):Surf:=⟨f.stop,!Yf f.a4|| !Yf f.a6,ZcT f,add (point 65536) (Zg f.conic),Zg f.a4,Zg f.a6,pos,sqr (Zg f.aperture),ratio⟩
def X0(f:Face)(g:List Glass)(w ix:Iv):Iv:=bif f.stop then point 65536 else Z8 ix (Zi2 f g w)
def ZaQ(f:Face)(g:List Glass)(w ix:Iv):Iv:=bif f.stop then ix else Zi2 f g w
def YZ(g:List Glass)(w:Iv):List Face→Iv→Iv→List Surf
 | [],_,_=>[]
 | f::l,pos,ix=>Zag f pos (X0 f g w ix)::YZ g w l (add pos (Zg f.thick)) (ZaQ f g w ix)
def ZxF:Face:=⟨false,zeroDec,zeroDec,zeroDec,zeroDec,zeroDec,zeroDec,[]⟩
def ZmX(l:LensM):Face:=l.faces.headD ZxF
def ZeF:SysM:=⟨[],ZjP⟩
def Wc(l:LensM)(g:List Glass)(w:Iv):SysM:=⟨YZ g w l.faces (Zg l.back) (point 65536),Zg (ZmX l).aperture⟩
def Yb(l:LensM)(g:List Glass)(w:Iv):SysM×Int:=bif Xm l g then (bif WQ (Wc l g w) then (Wc l g w,0) else (ZeF,6)) else (ZeF,1)
def ZrM(f:RawFace):Dec:=bif decide (pick f.r 7 > 0) then (bif pick (w64 (f.r.tdiv 7)) 2==0 then hdec 1 (w64 (-150 - pick f.r 900)) 1 else hdec 1 (w64 (150+pick f.r 900)) 1) else zeroDec
def ZlV(f:RawFace):Dec:=bif pick f.k 6==3 then hdec 1 (w64 (pick (w64 (f.k.tdiv 6)) 30 - 15)) 1 else zeroDec
def Zv9(f:RawFace):Dec:=bif pick f.k 6==3 then zeroDec else bif pick f.k 6==4 then hdec 2 (w64 (pick (w64 (f.k.tdiv 6)) 400 - 200)) 2 else bif pick f.k 6==5 then hdec 2 (w64 (pick (w64 (f.k.tdiv 6)) 400 - 200)) 2 else zeroDec
def ZvA(f:RawFace):Dec:=bif pick f.k 6==3 then zeroDec else bif pick f.k 6==4 then zeroDec else bif pick f.k 6==5 then hdec 1 (w64 (pick (w64 (f.k.tdiv 12)) 400 - 200)) 1 else zeroDec
def Z2c(f:RawFace)(g:List Glass):Int:=pick f.g (w64 (g.length+2))
def ZzU(g:List Glass)(k:Int):Glass:=g.getD k.toNat Zcd
def ZdT(f:RawFace)(g:List Glass):List UInt8:=bif decide (pick f.g (IntKind.i64.wrap ((g.length:Int)+2)) < (g.length:Int)) then (g.getD (pick f.g (IntKind.i64.wrap ((g.length:Int)+2))).toNat Zcd).name else JX
def ZoL(f:RawFace):Dec:=hdec 1 (w64 (30+pick f.a 70)) 1
def ZoM(f:RawFace):Dec:=hdec 1 (pick f.t 80) 1
def J2(f:RawFace)(i:Int)(g:List Glass):Face:=bif pick f.kind 6==5&&decide (i > 0) then ⟨true,zeroDec,ZoL f,ZoM f,zeroDec,zeroDec,zeroDec,[]⟩ else ⟨false,ZrM f,ZoL f,ZoM f,ZlV f,Zv9 f,ZvA f,ZdT f g⟩
def X6(g:List Glass)(most:Int):List RawFace→Int→List Face→List Face
 | [],_,out=>out
 | f::l,i,out=>bif decide ((out.length:Int) < most) then X6 g most l (i+1) (out++[J2 f i g]) else out
def ZvB:List UInt8:=[99,114,111,119,110]
def Z0I:List UInt8:=[102,108,105,110,116]
def ZvC:Face:=⟨false,⟨40,0⟩,⟨8,0⟩,⟨3,0⟩,zeroDec,zeroDec,zeroDec,ZvB⟩
def ZdU(l:List Face):List Face:=bif l.length==0|| !YO l then l++[ZvC] else l
def YP(back:Int)(l:List RawFace)(g:List Glass)(most:Int):LensM:=
 ⟨120::digits (pick back 100),hdec 1 (w64 (200+pick back 600)) 1,ZdU (X6 g most l 0 [])⟩
def ZjR(l:List I)(i:Int):Glass:=
 ⟨103::digits i,⟨hdec 5 (pick (l.getD i.toNat ⟨0⟩).n 200000) 5,hdec 5 (pick (w64 ((l.getD i.toNat ⟨0⟩).n.tdiv 7)) 50000) 5,zeroDec⟩,
   ⟨hdec 5 (pick (w64 ((l.getD i.toNat ⟨0⟩).n.tdiv 11)) 3000) 5,hdec 5 (pick (w64 ((l.getD i.toNat ⟨0⟩).n.tdiv 13)) 9000) 5,hdec 3 (w64 (pick (w64 ((l.getD i.toNat ⟨0⟩).n.tdiv 17)) 200000 - 1000)) 3⟩⟩
def Z0J:Glass:=⟨ZvB,⟨⟨103961,5⟩,⟨23179,5⟩,⟨101047,5⟩⟩,⟨⟨6,3⟩,⟨2002,5⟩,⟨1035607,4⟩⟩⟩
def Z0K:Glass:=⟨Z0I,⟨⟨17376,4⟩,⟨31375,5⟩,⟨189878,5⟩⟩,⟨⟨1319,5⟩,⟨6231,5⟩,⟨1552363,4⟩⟩⟩
def Zby:Nat→List I→Int→List Glass
 | 0,_,_=>[]
 | k+1,l,i=>bif decide (i < l.length)&&decide (i < 3) then ZjR l i::Zby k l (i+1) else []
def ZT(l:List I):List Glass:=[Z0J,Z0K]++Zby 3 l 0
theorem WF{l:LensM}{g:List Glass}(h:Xm l g=true):(∃f t,l.faces=f::t)∧l.faces.length≤12:=by
 unfold Xm at h
 simp only[Qh_,Qc_] at h
 refine ⟨?_,h.2.2.2.1⟩
 cases hf:l.faces with
 | nil=>rw[hf] at h;exact absurd h.2.2.2.2.2 (by decide)
 | cons f t=>exact ⟨f,t,rfl⟩
theorem ZbF(g:List Glass)(w:Iv):∀(l:List Face) (p q:Iv),(YZ g w l p q).length=l.length
 | [],_,_=>rfl
 | f::l,p,q=>by simp only[YZ,Qs_,ZbF g w l]
theorem ZxG(g:List Glass)(k:Nat):Wf (((g.map Glass.enc).getD k []).headD .nil)=(g.getD k Zcd).name:=by
 rw[Q7_,Q6_,Q7_]
 cases g[k]?<;>rfl
theorem ZoN:∀(k:Nat) (l:List I) (i:Int),(Zby k l i).length≤k
 | 0,_,_=>Q2_ _
 | k+1,l,i=>by
   unfold Zby
   cases decide (i < l.length)&&decide (i < 3)<;>simp only[Qb_,Qd_,Qs_,Q1_]
   ·omega
   ·have:=ZoN k l (i+1);omega
theorem ZdV(l:List I):2≤(ZT l).length∧(ZT l).length≤5:=by
 have:=ZoN 3 l 0
 simp only[ZT,Qx_,Qs_,Q1_];omega
theorem ZcC(g:List Glass)(most:Int):∀(l:List RawFace) (i:Int) (out:List Face),((X6 g most l i out).length:Int)≤max (out.length:Int) most
 | [],_,out=>by simp only[X6];omega
 | f::l,i,out=>by
   unfold X6
   by_cases h:(out.length:Int) < most
   ·rw[QH_ h,Qb_]
    have:=ZcC g most l (i+1) (out++[J2 f i g])
    simp only[Qx_,Qs_,Q1_] at this
    omega
   ·rw[QQ_ h,Qd_];omega
theorem ZoO(back:Int)(l:List RawFace)(g:List Glass)(most:Int)(h:0≤most):((YP back l g most).faces.length:Int)≤most+1:=by
 have:=ZcC g most l 0 []
 simp only[Q1_] at this
 unfold YP ZdU
 simp only
 cases (X6 g most l 0 []).length==0|| !YO (X6 g most l 0 [])<;>simp only[Qb_,Qd_,Qx_,Qs_,Q1_]<;>omega
theorem ZgD(k:Nat)(l:List I)(i:Int):Zby (k+1) l i=bif decide (i < l.length)&&decide (i < 3) then ZjR l i::Zby k l (i+1) else []:=rfl
theorem Zep(g:List Glass)(most:Int)(f:RawFace)(l:List RawFace)(i:Int)(out:List Face):X6 g most (f::l) i out=bif decide ((out.length:Int) < most) then X6 g most l (i+1) (out++[J2 f i g]) else out:=rfl
structure Bld where
 txt:List UInt8
def unbytes(l:List (List PV)):List UInt8:=l.map fun x=>UInt8.ofNat (Zd (x.headD .nil)).toNat
def Bld.enc(x:Bld):List PV:=[.bld true,.lst (WE x.txt)]
def Bld.dec(p:List PV):Bld:=⟨unbytes (ZaO (p.tail.headD .nil))⟩
theorem ZgE:∀(f n:Nat),digs f n=JW f n
 | 0,_=>rfl
 | f+1,n=>by
   unfold digs JW
   rw[ZgE f (n / 10)]
   cases hb:Nat.blt n 10 with
   | true=>
     have h:n < 10:=Qm_ hb
     rw[QH_ h]
   | false=>
     have h:¬n < 10:=fun h=>by
      have h2:Nat.blt n 10=true:=QF_ h
      rw[h2] at hb;exact absurd hb (by simp)
     rw[QQ_ h]
theorem ZqF{n:Int}(h: -1000000000000000000≤n∧n≤1000000000000000000):Zld [.v (.int .i64 n)]=some (.str (digits n)):=by
 cases n with
 | ofNat m=>
   have hm:(m:Int)≤1000000000000000000:=h.2
   have hb:Nat.blt m 9223372036854775808=true:=QF_ (by omega)
   show (bif Nat.blt m 9223372036854775808 then some (PV.str (digs 20 m)) else none)=_
   rw[hb,Qb_,ZgE,ZdS 18 m (by omega)]
   unfold digits
   rw[QQ_ (show ¬(Int.ofNat m < 0) from fun h=>absurd h (by simp))];rfl
 | negSucc m=>
   have hm: -1000000000000000000≤Int.negSucc m:=h.1
   have hb:Nat.blt m 9223372036854775808=true:=QF_ (by omega)
   show (bif Nat.blt m 9223372036854775808 then some (PV.str (45::digs 20 (m+1))) else none)=_
   rw[hb,Qb_,ZgE,ZdS 18 (m+1) (by omega)]
   unfold digits
   rw[QH_ (by omega:Int.negSucc m < 0)];rfl
theorem ZcD(l:LensM)(g:List Glass)(w:Iv):(Yb l g w).1.surfs.length≤12:=by
 unfold Yb
 cases h:Xm l g<;>simp only[Qb_,Qd_]
 ·exact Kz_ _
 ·cases WQ (Wc l g w)<;>simp only[Qb_,Qd_]
  ·exact Kz_ _
  ·unfold Wc
   simp only[ZbF]
   exact (WF h).2
structure Tok where
 kind:Int
 text:List UInt8
 pos:Cx
def Tok.enc(x:Tok):List PV:=[.v (.int .i64 x.kind),.str x.text,.v (.complex .f64 x.pos.re x.pos.im)]
def Tok.dec(p:List PV):Tok:=⟨Zd (p.headD .nil),Wf (p.tail.headD .nil),(⟨ZsG (p.tail.tail.headD .nil),ZsH (p.tail.tail.headD .nil)⟩:Cx)⟩
theorem Z2C(l:List Tok):Zf Tok.dec (l.map Tok.enc)=l:=Jy _ _ (fun _=>rfl) l
structure Rd where
 t:List (List PV)
 g:List (List PV)
 pos:Cx
 e:Int
def Rd.enc(x:Rd):List PV:=[.lst x.t,.lst x.g,.v (.complex .f64 x.pos.re x.pos.im),.v (.int .i64 x.e)]
def Rd.dec(p:List PV):Rd:=⟨ZaO (p.headD .nil),ZaO (p.tail.headD .nil),(⟨ZsG (p.tail.tail.headD .nil),ZsH (p.tail.tail.headD .nil)⟩:Cx),Zd (p.tail.tail.tail.headD .nil)⟩
structure GL where
 g:List Glass
def GL.enc(x:GL):List PV:=[.lst (x.g.map Glass.enc)]
def GL.dec(p:List PV):GL:=⟨(Zf Glass.dec (ZaO (p.headD .nil)))⟩
-- GL: with lists
def WG:Cx:=⟨0,0⟩
def ZvD:List UInt8:=[45]
def figB:List UInt8:=[48,49,50,51,52,53,54,55,56,57]
def ZjS(s c:List UInt8):List UInt8:=Lib.trimS s c
def ZaR(s c:List UInt8):List UInt8:=Lib.trimRightS s c
def Zlo(s:List UInt8)(n:Int):List UInt8:=Lib.repeatL s n.toNat
def ixM(c:Int)(s:List UInt8):Int:=ixB c.toNat.toUInt8 s 0
def Wl(b:UInt8):Bool:=Xb (b.toNat:Int)
def Zu(c:Int):Bool:=Xb c||c==46
def XA(c:Int):Bool:= !(c==10)
def J3(s p:List UInt8):Bool:=decide ((s.length:Int)≥p.length)&&s.take p.length==p
def ZW(s p:List UInt8):List UInt8×Bool:=bif J3 s p then (s.drop p.length,true) else (s,false)
def ZU(s:List UInt8):List UInt8×List UInt8×Bool:=bif decide (ixM 46 s≥0) then (s.take (ixM 46 s).toNat,s.drop (ixM 46 s+1).toNat,true) else (s,[],false)
def figs(s:List UInt8)(n:Int):Bool:= !(s==[])&&(decide ((s.length:Int)≤n)&&(ZjS s figB==[]))
def ZbG(s:List UInt8):Int:=(Lib.atoi s).getD 0
def ZoP(s:List UInt8):Prop:=s.length≤18∧Lib.atoi s=some (ZbG s)
def ZgF(s:List UInt8):List UInt8:=ZaR s [48]
def ZdW(s:List UInt8):List UInt8:=(ZW s ZvD).1
def ZaS(s:List UInt8):List UInt8:=(ZU (ZdW s)).1
def JK(s:List UInt8):List UInt8:=ZgF (ZU (ZdW s)).2.1
def Zeq(s:List UInt8):Int:=ZbG (ZaS s++JK s)
def ZdX(s:List UInt8):Bool:=figs (ZaS s) 5&&(!(ZU (ZdW s)).2.2||figs (ZU (ZdW s)).2.1 6)
def XY(s:List UInt8):Dec×Bool:=
 bif ZdX s then (bif (ZW s ZvD).2 then (bif Zeq s==0 then (zeroDec,false) else (⟨-Zeq s,(JK s).length⟩,true)) else (⟨Zeq s,(JK s).length⟩,true)) else (zeroDec,false)
def Zl(p:Int→Bool)(s:List UInt8)(k:Int):Int:=k+((s.drop k.toNat).takeWhile fun b=>p (b.toNat:Int)).length
def X5(k line beg:Int):Cx:=Yz line (k - beg+1)
def Xc(s:List UInt8)(k:Int):Int:=((s.getD k.toNat 0).toNat:Int)
def Ji(s:List UInt8)(a b:Int):List UInt8:=(s.drop a.toNat).take (b.toNat - a.toNat)
def ZgG(sm:Bool)(h:Cx)(out:List Tok):List Tok:=bif sm then out++[⟨3,[],h⟩] else out
def Wg(s:List UInt8):Nat→Int→Int→Int→Bool→List Tok→List Tok×Cx×Int
 | 0,_,_,_,_,_=>([],WG,0)
 | f+1,k,line,beg,sm,out=>
   bif k==(s.length:Int) then (ZgG sm (X5 k line beg) out,WG,0)
   else bif Xc s k==10 then Wg s f (k+1) (line+1) (k+1) false (ZgG sm (X5 k line beg) out)
   else bif Xc s k==32||Xc s k==9 then Wg s f (k+1) line beg sm out
   else bif Xc s k==35 then Wg s f (Zl XA s (k+1)) line beg sm out
   else bif Y3 (Xc s k) then (bif decide (Zl Z5 s (k+1) - k > 20) then ([],X5 k line beg,3) else Wg s f (Zl Z5 s (k+1)) line beg true (out++[⟨1,Ji s k (Zl Z5 s (k+1)),X5 k line beg⟩]))
   else bif Xb (Xc s k)||Xc s k==45 then (bif (XY (Ji s k (Zl Zu s (k+1)))).2 then Wg s f (Zl Zu s (k+1)) line beg true (out++[⟨2,Ji s k (Zl Zu s (k+1)),X5 k line beg⟩]) else ([],X5 k line beg,2))
   else ([],X5 k line beg,2)
def tokens(s:List UInt8):List Tok×Cx×Int:=bif decide ((s.length:Int) > 4000) then ([],WG,3) else Wg s (s.length+1) 0 1 0 false []
theorem ZcE(s:List UInt8)(f:Nat)(k line beg:Int)(sm:Bool)(out:List Tok):Wg s (f+1) k line beg sm out=
 bif k==(s.length:Int) then (ZgG sm (X5 k line beg) out,WG,0)
 else bif Xc s k==10 then Wg s f (k+1) (line+1) (k+1) false (ZgG sm (X5 k line beg) out)
 else bif Xc s k==32||Xc s k==9 then Wg s f (k+1) line beg sm out
 else bif Xc s k==35 then Wg s f (Zl XA s (k+1)) line beg sm out
 else bif Y3 (Xc s k) then (bif decide (Zl Z5 s (k+1) - k > 20) then ([],X5 k line beg,3) else Wg s f (Zl Z5 s (k+1)) line beg true (out++[⟨1,Ji s k (Zl Z5 s (k+1)),X5 k line beg⟩]))
 else bif Xb (Xc s k)||Xc s k==45 then (bif (XY (Ji s k (Zl Zu s (k+1)))).2 then Wg s f (Zl Zu s (k+1)) line beg true (out++[⟨2,Ji s k (Zl Zu s (k+1)),X5 k line beg⟩]) else ([],X5 k line beg,2))
 else ([],X5 k line beg,2):=rfl
def Zcf(s:List UInt8):Bool:=(tokens s).2.2==0&&(((tokens s).1.length:Int)==2&&(((tokens s).1.headD ⟨0,[],WG⟩).kind==1&&((tokens s).1.headD ⟨0,[],WG⟩).text==s))
theorem ZfN{α:Type}{p:α→Bool}:∀{l:List α},l.all p=true→l.takeWhile p=l
 | [],_=>rfl
 | a::l,h=>by
   rw[List.all_cons,Qh_] at h
   rw[List.takeWhile_cons,h.1,if_pos rfl,ZfN h.2]
theorem Zbz(p:Int→Bool){s:List UInt8}{k:Int}(h0:0≤k)(h1:k≤s.length):k≤Zl p s k∧Zl p s k≤s.length:=by
 unfold Zl
 have:=(List.takeWhile_sublist (fun b:UInt8=>p (b.toNat:Int)) (l:=s.drop k.toNat)).length_le
 rw[K9_] at this
 omega
theorem Zfv{p:Int→Bool}{s:List UInt8}{k:Int}(h0:0≤k)(h1:k < s.length)(h:p (Xc s k)=true):Zl p s k=Zl p s (k+1):=by
 obtain ⟨x,t,e1,e2,e3⟩:=ZM (l:=s) h0 h1
 unfold Zl
 have eb:s.getD k.toNat 0=x:=by rw[Q7_,e3];rfl
 unfold Xc at h
 rw[eb] at h
 rw[e1,e2,List.takeWhile_cons,h,if_pos rfl,Qs_]
 omega
theorem Zfw{p:Int→Bool}{s:List UInt8}{k:Int}(h0:0≤k)(h1:k < s.length)(h:p (Xc s k)=false):Zl p s k=k:=by
 obtain ⟨x,t,e1,e2,e3⟩:=ZM (l:=s) h0 h1
 unfold Zl
 have eb:s.getD k.toNat 0=x:=by rw[Q7_,e3];rfl
 unfold Xc at h
 rw[eb] at h
 rw[e1,List.takeWhile_cons,h]
 simp
theorem ZgH{p:Int→Bool}{s:List UInt8}{k:Int}(h1:(s.length:Int)≤k):Zl p s k=k:=by
 unfold Zl
 rw[Q0_ (by omega)]
 simp
theorem ZxH:∀(s:List UInt8),(ZjS s figB==[])=s.all Wl:=by
 have hd:∀b:UInt8,figB.contains b=Wl b:=fun b=>by
  have:=(by decide+kernel:∀n:Fin 256,figB.contains (UInt8.ofNat n.val)=Wl (UInt8.ofNat n.val)) ⟨b.toNat,b.toNat_lt⟩
  simpa using this
 have hw:∀(p:UInt8→Bool) (l:List UInt8),(l.dropWhile p==[])=l.all p:=fun p l=>by
  induction l with
  | nil=>rfl
  | cons a l ih=>
    rw[List.dropWhile_cons,List.all_cons]
    cases p a
    ·rfl
    ·simpa using ih
 intro s
 unfold ZjS Lib.trimS Lib.trimLeftS Lib.trimRightS
 rw[hw]
 have e:(fun x=>figB.contains x)=Wl:=funext hd
 rw[e]
 rw[List.all_reverse]
 cases h:s.all Wl with
 | true=>
   rw[QK_] at h ⊢
   exact fun x hx=>h x (List.mem_reverse.1 (List.dropWhile_sublist _ |>.subset hx))
 | false=>
   have:s.reverse.all Wl=false:=by rw[List.all_reverse];exact h
   rw[←hw] at this
   cases hl:s.reverse.dropWhile Wl with
   | nil=>rw[hl] at this;exact absurd this (by simp)
   | cons a l=>
     have ha:Wl a=false:=by
      have:=List.head?_dropWhile_not Wl s.reverse
      rw[hl] at this
      simpa using this
     rw[List.all_cons,ha];rfl
theorem ZzV(s:List UInt8)(n:Int):figs s n=(!(s==[])&&(decide ((s.length:Int)≤n)&&s.all Wl)):=by unfold figs;rw[ZxH]
def ZsU(acc:Nat)(s:List UInt8):Nat:=s.foldl (fun n b=>n *10+(b.toNat - 48)) acc
theorem Zii:∀(s:List UInt8) (acc:Nat),s.all Wl=true→Lib.decFrom acc s=some (ZsU acc s)
 | [],_,_=>rfl
 | b::s,acc,h=>by
   rw[List.all_cons,Qh_] at h
   have hb:48≤b.toNat∧b.toNat≤57:=by
    have:=h.1
    unfold Wl Xb at this
    simp only[Qh_,Qc_] at this
    omega
   unfold Lib.decFrom Lib.digitVal
   rw[if_pos hb]
   exact Zii s _ h.2
theorem ZxI{s:List UInt8}(h0:s≠[])(h:s.all Wl=true):Lib.atoi s=some ((ZsU 0 s:Nat):Int):=by
 cases s with
 | nil=>exact absurd rfl h0
 | cons b s=>
   have h1:=h
   rw[List.all_cons,Qh_] at h
   have hb:48≤b.toNat∧b.toNat≤57:=by
    have:=h.1
    unfold Wl Xb at this
    simp only[Qh_,Qc_] at this
    omega
   have n1:(b==45)=false:=by
    rw[KA_];intro e;subst e;exact absurd hb (by decide)
   have n2:(b==43)=false:=by
    rw[KA_];intro e;subst e;exact absurd hb (by decide)
   simp only[Lib.atoi,Lib.decNat,n1,n2,K6_,Kx_,List.isEmpty_cons]
   rw[Zii _ _ h1];rfl
theorem ZlW{s:List UInt8}(h0:s≠[])(h:s.all Wl=true):Lib.atoi s=some (ZbG s)∧ZbG s=(ZsU 0 s:Nat):=by
 have:=ZxI h0 h
 unfold ZbG
 rw[this]
 exact ⟨rfl,rfl⟩
theorem ZvE(s:List UInt8):(ZgF s).length≤s.length:=by
 unfold ZgF ZaR Lib.trimRightS
 have:=(List.dropWhile_sublist ([48].contains ·) (l:=s.reverse)).length_le
 rw[List.length_reverse] at this ⊢
 exact this
theorem ZvF{s:List UInt8}(h:s.all Wl=true):(ZgF s).all Wl=true:=by
 rw[QK_] at h ⊢
 intro x hx
 unfold ZgF ZaR Lib.trimRightS at hx
 exact h x (List.mem_reverse.1 ((List.dropWhile_sublist _).subset (List.mem_reverse.1 hx)))
theorem ZrN{s:List UInt8}{n:Int}(h:figs s n=true):s≠[]∧(s.length:Int)≤n∧s.all Wl=true:=by
 rw[ZzV] at h
 simp only[Qh_,Qi_,KA_,Qc_] at h
 exact h
theorem ZvG(c:UInt8):∀(l:List UInt8) (k:Nat),ixB c l k= -1∨((k:Int)≤ixB c l k∧ixB c l k < k+l.length)
 | [],_=> .inl rfl
 | b::l,k=>by
   unfold ixB
   cases Nat.beq b.toNat c.toNat with
   | true=>exact .inr ⟨Int.le_refl _,by simp only[Qb_,Qs_];show (k:Int) < _;omega⟩
   | false=>
     simp only[Qd_]
     rcases ZvG c l (k+1) with h | ⟨h1,h2⟩
     ·exact .inl h
     ·exact .inr ⟨by omega,by simp only[Qs_];omega⟩
theorem ZvH(s:List UInt8):ixM 46 s= -1∨(0≤ixM 46 s∧ixM 46 s < s.length):=by
 have:=ZvG 46 s 0
 unfold ixM
 rw[show (46:Int).toNat.toUInt8=46 from rfl]
 omega
theorem ZvI(s:List UInt8):(ZU s).1.length≤s.length∧(ZU s).2.1.length≤s.length:=by
 unfold ZU
 cases decide (ixM 46 s≥0)<;>simp only[Qb_,Qd_,K2_,K9_,Q1_]<;>omega
theorem ZsV(s p:List UInt8):(ZW s p).1.length≤s.length:=by
 unfold ZW
 cases J3 s p<;>simp only[Qb_,Qd_,K9_]<;>omega
theorem Zij{s:List UInt8}(h:ZdX s=true):ZaS s++JK s≠[]∧(ZaS s++JK s).all Wl=true∧(ZaS s++JK s).length≤11∧(JK s).length≤6∧(ZaS s).length≤5:=by
 unfold ZdX at h
 simp only[Qh_,Ko_,Qi_] at h
 obtain ⟨h1,h2⟩:=h
 obtain ⟨a1,a2,a3⟩:=ZrN h1
 have hr:(ZU (ZdW s)).2.1.all Wl=true∧(ZU (ZdW s)).2.1.length≤6:=by
  rcases h2 with h2 | h2
  ·have:(ZU (ZdW s)).2.1=[]:=by
    revert h2
    unfold ZU
    cases decide (ixM 46 (ZdW s)≥0)<;>simp
   rw[this];exact ⟨rfl,by simp⟩
  ·obtain ⟨_,b2,b3⟩:=ZrN h2
   exact ⟨b3,by omega⟩
 have h6:(JK s).length≤6:=QT_ (ZvE _) hr.2
 refine ⟨fun e=>a1 (List.append_eq_nil_iff.1 e).1, ?_, ?_,h6,by omega⟩
 ·rw[List.all_append,a3];exact ZvF hr.1
 ·rw[Qx_];omega
theorem ZrO:∀(s:List UInt8) (acc m:Nat),s.all Wl=true→acc < 10 ^ m→ZsU acc s < 10 ^ (m+s.length)
 | [],_,_,_,h=>h
 | b::s,acc,m,h,ha=>by
   rw[List.all_cons,Qh_] at h
   have hb:b.toNat - 48≤9:=by
    have:=h.1
    unfold Wl Xb at this
    simp only[Qh_,Qc_] at this
    omega
   have:=ZrO s (acc *10+(b.toNat - 48)) (m+1) h.2 (by rw[Nat.pow_succ];omega)
   rw[Qs_,show m+(s.length+1)=m+1+s.length by omega]
   exact this
theorem ZzW{s:List UInt8}(h:ZdX s=true):0≤Zeq s∧Zeq s < 100000000000:=by
 obtain ⟨h1,h2,h3,_⟩:=Zij h
 obtain ⟨_,e⟩:=ZlW h1 h2
 unfold Zeq
 rw[e]
 have hb:=ZrO (ZaS s++JK s) 0 0 h2 (by decide)
 have:10 ^ (0+(ZaS s++JK s).length)≤10 ^ 11:=Nat.pow_le_pow_right (by decide) (by omega)
 omega
theorem ZsW(s:List UInt8):XY s=bif ZdX s then (bif (ZW s [45]).2 then (bif Zeq s==0 then (zeroDec,false) else (⟨-Zeq s,(JK s).length⟩,true)) else (⟨Zeq s,(JK s).length⟩,true)) else (zeroDec,false):=rfl
theorem ZoQ(s:List UInt8):ZdX s=(figs (ZU (ZW s [45]).1).1 5&&(!(ZU (ZW s [45]).1).2.2||figs (ZU (ZW s [45]).1).2.1 6)):=rfl
theorem ZyX{s:List UInt8}(h:ZdX s=true):ZoP ((ZU (ZW s [45]).1).1++ZaR (ZU (ZW s [45]).1).2.1 [48])∧(ZU (ZW s [45]).1).1.length+(ZaR (ZU (ZW s [45]).1).2.1 [48]).length≤9223372036854775807:=by
 obtain ⟨h1,h2,h3,h4,h5⟩:=Zij h
 refine ⟨⟨QT_ h3 (by decide),(ZlW h1 h2).1⟩, ?_⟩
 show (ZaS s).length+(JK s).length≤_
 omega
def tk(r:Rd):Tok:=Tok.dec (r.t.getD 0 [])
def Zlp:Tok:=⟨0,[],WG⟩
def ZsX(r:Rd)(a:Cx)(e:Int):Rd:=bif r.e==0 then ⟨r.t,r.g,a,e⟩ else r
def ZmY(r:Rd)(k:Int):Tok×Rd:=
 bif r.e==0 then (bif (r.t.length:Int)==0 then (Zlp,ZsX r WG 2) else bif (tk r).kind==k then (tk r,⟨r.t.drop 1,r.g,r.pos,r.e⟩) else (Zlp,ZsX r (tk r).pos 2)) else (Zlp,r)
def ZjT(a b:Dec):Bool:=(ZcA a).c==0|| !Ya (ZcA a) b
def ZgI(n:List UInt8)(g:List Glass):Bool:=(ZC g n).2||n==JX
def Z0L:List UInt8:=[108,101,110,115]
def rd1(r:Rd):Rd:=bif (ZmY r 1).1.text==Z0L then (ZmY r 1).2 else ZsX (ZmY r 1).2 (ZmY r 1).1.pos 2
def Jc(d:Dec):Bool:=printable d&&Ya zeroDec d
def ZsY(f:Face):Bool:=Yf f.radius&&(Yf f.conic&&(Yf f.a4&&(Yf f.a6&&f.glass==[])))
def Yc(f:Face)(g:List Glass):Bool:=Jc f.aperture&&(printable f.thick&&(!Ya f.thick zeroDec&&(bif f.stop then ZsY f else printable f.radius&&(ZjT f.radius f.aperture&&(printable f.conic&&(printable f.a4&&(printable f.a6&&(Zcf f.glass&&ZgI f.glass g))))))))
def XP(l:LensM)(g:List Glass):Bool:=Zcf l.name&&(Jc l.back&&(decide (l.faces.length≤12)&&(YO l.faces&& !(l.faces.any fun f=> !Yc f g))))
def Zb0(a:Int)(sc:Nat):List UInt8:=Lib.repeatL [48] (max 0 ((sc:Int)+1 - (digits a).length)).toNat++digits a
theorem ZxJ(n:Nat):Lib.repeatL [48] n++[48]=Lib.repeatL [48] (n+1):=by
 induction n with
 | zero=>rfl
 | succ n ih=>
   show ([48]++Lib.repeatL [48] n)++[48]=[48]++Lib.repeatL [48] (n+1)
   rw[QB_,ih]
theorem ZvJ{a:Int}:Zb0 a 0=digits a:=by
 have:=(Y5 a).1
 unfold Zb0
 rw[show (max 0 (((0:Nat):Int)+1 - (digits a).length)).toNat=0 by omega];rfl
theorem ZvK{a:Int}(h0:0≤a)(h1:a≤1000000000000000000)(sc:Nat):Zb0 a (sc+1)=Zb0 (a / 10) sc++[UInt8.ofNat (48+(a % 10).toNat)]:=by
 unfold Zb0
 by_cases h:a < 10
 ·rw[ZcB h0 h,show a / 10=0 by omega,show a % 10=a by omega,show digits 0=[48] from rfl]
  simp only[Qs_,Q1_]
  rw[show (max 0 (((sc+1:Nat):Int)+1 - ((0+1:Nat):Int))).toNat=sc+1 by omega,show (max 0 ((sc:Int)+1 - ((0+1:Nat):Int))).toNat=sc by omega]
  rw[ZxJ]
 ·rw[Zaf (by omega) h1,Qx_,Qs_,Q1_,←QB_]
  rw[show (max 0 (((sc+1:Nat):Int)+1 - (((digits (a / 10)).length+(0+1):Nat):Int))).toNat=(max 0 ((sc:Int)+1 - (digits (a / 10)).length)).toNat by omega]
theorem ZoR(n:Nat):(0:Int) < 10 ^ n:=Int.pow_pos (by decide)
theorem ZzX{a b q r:Int}(hb:0 < b)(h:a=b *q+r)(h1:0≤r)(h2:r < b):a / b=q∧a % b=r:=by
 subst h
 constructor
 ·rw[Int.add_comm,Int.add_mul_ediv_left _ _ (by omega),Int.ediv_eq_zero_of_lt h1 h2,Int.zero_add]
 ·rw[Int.add_comm,Int.add_mul_emod_self_left,Int.emod_eq_of_lt h1 h2]
theorem Zik:∀(sc:Nat) (a:Int),0≤a→a≤100000000000→sc≤6→
 Zb0 a sc=digits (a / 10 ^ sc)++(digits (a % 10 ^ sc+10 ^ sc)).drop 1∧(digits (a % 10 ^ sc+10 ^ sc)).length=sc+1
 | 0,a,h0,h1,_=>by
   rw[ZvJ,Int.pow_zero,Int.ediv_one,Int.emod_one]
   exact ⟨by rw[show (digits (0+1)).drop 1=[] from rfl,QI_],rfl⟩
 | sc+1,a,h0,h1,h6=>by
   obtain ⟨e1,e2⟩:=Zik sc (a / 10) (by omega) (by omega) (by omega)
   have hp:=ZoR sc
   have hpb:(10:Int) ^ sc≤100000:=by
    have:(10:Int) ^ sc≤10 ^ 5:=by exact_mod_cast Nat.pow_le_pow_right (by decide:0 < 10) (by omega:sc≤5)
    exact this
   have hb:=Int.emod_nonneg (a / 10) (show (10:Int) ^ sc≠0 by omega)
   have hb2:=Int.emod_lt_of_pos (a / 10) hp
   have hu:a / 10 ^ (sc+1)=a / 10 / 10 ^ sc∧a % 10 ^ (sc+1)=10 * (a / 10 % 10 ^ sc)+a % 10:=by
    refine ZzX (by rw[Int.pow_succ];omega) ?_ (by omega) (by rw[Int.pow_succ];omega)
    have e:=Int.mul_ediv_add_emod (a / 10) (10 ^ sc)
    rw[Int.pow_succ]
    generalize (10:Int) ^ sc=p at *
    generalize a / 10 / p=Q at *
    have:p *10 *Q=10 * (p *Q):=by rw[Int.mul_comm p 10,Int.mul_assoc]
    rw[this]
    generalize p *Q=z at *
    omega
   have hm:=hu.2
   have hq:=hu.1
   have hN:a % 10 ^ (sc+1)+10 ^ (sc+1)=10 * (a / 10 % 10 ^ sc+10 ^ sc)+a % 10:=by rw[hm,Int.pow_succ];omega
   have hd:digits (a % 10 ^ (sc+1)+10 ^ (sc+1))=digits (a / 10 % 10 ^ sc+10 ^ sc)++[UInt8.ofNat (48+(a % 10).toNat)]:=by
    rw[hN,Zaf (by omega) (by omega)]
    rw[show (10 * (a / 10 % 10 ^ sc+10 ^ sc)+a % 10) / 10=a / 10 % 10 ^ sc+10 ^ sc by omega,show (10 * (a / 10 % 10 ^ sc+10 ^ sc)+a % 10) % 10=a % 10 by omega]
   rw[ZvK h0 (by omega),e1,hd,hq]
   refine ⟨?_,by rw[Qx_,e2];rfl⟩
   rw[List.drop_append_of_le_length (by omega),QB_]
theorem ZlX:∀(k:Nat) (n:Int),0≤n→n≤1000000000000000000→((digits n).length≤k+1↔n < 10 ^ (k+1))
 | 0,n,h0,h1=>by
   by_cases h:n < 10
   ·rw[ZcB h0 h];simp;omega
   ·rw[Zaf (by omega) h1,Qx_]
    have:=(Y5 (n / 10)).1
    simp only[Qs_,Q1_]
    constructor
    ·intro h';omega
    ·intro h';exact absurd (show n < 10 from h') h
 | k+1,n,h0,h1=>by
   by_cases h:n < 10
   ·rw[ZcB h0 h]
    have:(10:Int) ^ (k+1+1)=10 ^ k *100:=by rw[Int.pow_succ,Int.pow_succ];omega
    have:=ZoR k
    simp only[Qs_,Q1_]
    omega
   ·rw[Zaf (by omega) h1,Qx_,Qs_,Q1_]
    have ih:=ZlX k (n / 10) (by omega) (by omega)
    have:(10:Int) ^ (k+1+1)=10 ^ (k+1)*10:=Int.pow_succ _ _
    omega
theorem ZgJ{d:Dec}(h:ZA d=true):Zb0 (YA d) d.scale.toNat=digits (headD d)++(digits (W0 d)).drop 1∧((digits (W0 d)).drop 1).length=d.scale.toNat∧decide (((digits (headD d)).length:Int) > 5)=decide (headD d > 99999):=by
 obtain ⟨b1,b2⟩:=XV h
 have ha:0≤YA d∧YA d≤100000000000:=by unfold YA;omega
 have f:=ZdR h
 obtain ⟨t1,t2⟩:=Zik d.scale.toNat (YA d) ha.1 ha.2 (by omega)
 have e1:YA d / 10 ^ d.scale.toNat=headD d:=by unfold headD Z2;rw[Int.tdiv_eq_ediv_of_nonneg ha.1]
 have e2:YA d % 10 ^ d.scale.toNat+10 ^ d.scale.toNat=W0 d:=by unfold W0 Z2;rw[Int.tmod_eq_emod_of_nonneg ha.1]
 rw[e1,e2] at t1
 rw[e2] at t2
 refine ⟨t1,by rw[K9_,t2];omega, ?_⟩
 have:=ZlX 4 (headD d) (by omega) (by omega)
 rw[show ((10:Int) ^ (4+1))=100000 from rfl] at this
 by_cases hc:headD d > 99999
 ·rw[QH_ hc,QH_ (by omega)]
 ·rw[QQ_ hc,QQ_ (by omega)]
def PD(d:Dec):List UInt8:=Zb0 (YA d) d.scale.toNat
def ZhH(d:Dec):List UInt8:=(digits (W0 d)).drop 1
theorem ZzY(n:Nat):(Lib.repeatL [48] n).length=n:=by
 induction n with
 | zero=>rfl
 | succ n ih=>show ([48]++Lib.repeatL [48] n).length=_;rw[Qx_,ih];simp;omega
theorem ZoS{d:Dec}(h:ZA d=true):List.foldl imax d.c [IntKind.i64.wrap (0 - d.c)]=YA d∧
 List.foldl imax 0 [IntKind.i64.wrap (IntKind.i64.wrap (d.scale+1) - ((digits (YA d)).length:Int))]=max 0 (d.scale+1 - (digits (YA d)).length)∧
 Zlo [48] (max 0 (d.scale+1 - (digits (YA d)).length))++digits (YA d)=PD d∧
 IntKind.i64.wrap (((PD d).length:Int) - d.scale)=(digits (headD d)).length∧List.take (((digits (headD d)).length:Int)).toNat (PD d)=digits (headD d)∧List.drop (((digits (headD d)).length:Int)).toNat (PD d)=ZhH d:=by
 obtain ⟨b1,b2⟩:=XV h
 have f:=ZdR h
 have l1:=Y5 (YA d)
 have l2:=Y5 (headD d)
 obtain ⟨p1,p2,_⟩:=ZgJ h
 have w1:IntKind.i64.wrap (d.scale+1)=d.scale+1:=Ze (by constructor<;>omega)
 have hl:((PD d).length:Int)=(digits (headD d)).length+d.scale:=by
  show ((Zb0 (YA d) d.scale.toNat).length:Int)=_
  rw[p1,Qx_,p2];omega
 refine ⟨f.1, ?_, ?_, ?_, ?_, ?_⟩
 ·rw[w1,Ze (by constructor<;>omega)]
  simp only[List.foldl,Zs]
 ·unfold PD Zb0 Zlo
  rw[show ((d.scale.toNat:Nat):Int)=d.scale by omega]
 ·rw[hl,Ze (by constructor<;>omega)];omega
 ·show List.take _ (Zb0 (YA d) d.scale.toNat)=_
  rw[p1,Int.toNat_natCast,List.take_left]
 ·show List.drop _ (Zb0 (YA d) d.scale.toNat)=_
  rw[p1,Int.toNat_natCast,List.drop_left];rfl
theorem ZvL{d:Dec}(h:ZA d=true):(digits (YA d)).length≤20∧(digits (headD d)).length≤20∧((PD d).length:Int)=(digits (headD d)).length+d.scale∧((ZhH d).length:Int)=d.scale∧(0≤d.scale∧d.scale≤6)∧(YA d≤100000000000∧0≤YA d)∧1≤(digits (YA d)).length∧1≤(digits (headD d)).length:=by
 obtain ⟨b1,b2⟩:=XV h
 have l1:=Y5 (YA d)
 have l2:=Y5 (headD d)
 obtain ⟨p1,p2,_⟩:=ZgJ h
 refine ⟨l1.2,l2.2, ?_, ?_,b2,by unfold YA;omega,l1.1,l2.1⟩
 ·show ((Zb0 (YA d) d.scale.toNat).length:Int)=_
  rw[p1,Qx_,p2];omega
 ·show (((digits (W0 d)).drop 1).length:Int)=_
  rw[p2];omega
theorem ZzZ{d:Dec}(h:ZA d=true):(!(ZhH d==[]))=decide (d.scale > 0):=by
 have:=(ZvL h).2.2.2.1
 by_cases hs:d.scale > 0
 ·rw[QH_ hs,Qi_,KA_]
  intro e;rw[e] at this;simp at this;omega
 ·have e:ZhH d=[]:=QM_ (by omega)
  rw[QQ_ hs,e];rfl
theorem ZqG{d:Dec}(h:ZA d=true):Wb d=bif decide (((digits (headD d)).length:Int) > 5) then [] else (bif !(ZhH d==[]) then (bif decide (d.c < 0) then [45]++digits (headD d) else digits (headD d))++[46]++ZhH d else (bif decide (d.c < 0) then [45]++digits (headD d) else digits (headD d))):=by
 rw[ZzZ h,(ZgJ h).2.2]
 unfold Wb ZjQ ZmW
 rw[h];rfl
theorem Z0M(l:List Tok):Zd (((l.map Tok.enc).getD 0 []).headD .nil)=(l.headD ⟨0,[],WG⟩).kind∧Wf (((l.map Tok.enc).getD 0 []).tail.headD .nil)=(l.headD ⟨0,[],WG⟩).text:=by
 cases l<;>exact ⟨rfl,rfl⟩
theorem ZdY(x:GL):GL.dec (GL.enc x)=x:=by
 show (⟨Zf Glass.dec (x.g.map Glass.enc)⟩:GL)=x
 rw[Zm]
def Xn(s:Surf):Bool:=s.curve.no||(s.conic.no||(s.a4.no||(s.a6.no||(s.pos.no||(s.open2.no||s.ratio.no)))))
def Zdn(n:List UInt8)(g:List Glass)(w:Iv):Iv:=bif n==JX then point 65536 else W1 (ZC g n).1 w
theorem ZxK(f:Face):right (ZcT f)= !(ZcT f).no:=Jk (Zaz _ _) (J0 _)
theorem ZxL(f:Face)(g:List Glass)(w ix:Iv):right (X0 f g w ix)= !(X0 f g w ix).no:=Jk (J0 _) (Zaz _ _)
theorem ZsZ(f:Face)(g:List Glass)(w pos ix:Iv)(h:right pos= !pos.no):Xn (Zag f pos (X0 f g w ix))= !YG (Zag f pos (X0 f g w ix)):=by
 have e1:right (add (point 65536) (Zg f.conic))= !(add (point 65536) (Zg f.conic)).no:=ZaP _ _
 have e2:right (Zg f.a4)= !(Zg f.a4).no:=WO _
 have e3:right (Zg f.a6)= !(Zg f.a6).no:=WO _
 have e4:right (sqr (Zg f.aperture))= !(sqr (Zg f.aperture)).no:=ZeA _
 unfold Xn YG Zag
 simp only[ZxK,ZxL,e1,e2,e3,e4,h,Bool.not_and,Ke_]
def ZmZ(f:Face):Bool:= !(f.a4.c==0)|| !(f.a6.c==0)
def ZaT(f:Face)(pos ratio:Iv):Surf:=⟨f.stop,ZmZ f,ZcT f,add (point 65536) (Zg f.conic),Zg f.a4,Zg f.a6,pos,sqr (Zg f.aperture),ratio⟩
def pGo(g:List Glass)(w:Iv):List Face→Iv→Iv→List Surf
 | [],_,_=>[]
 | f::l,pos,ix=>ZaT f pos (X0 f g w ix)::pGo g w l (add pos (Zg f.thick)) (ZaQ f g w ix)
def X8(l:LensM)(g:List Glass)(w:Iv):SysM:=⟨pGo g w l.faces (Zg l.back) (point 65536),Zg (ZmX l).aperture⟩
def ZX(l:LensM)(g:List Glass)(w:Iv):SysM×Int:=bif XP l g then (bif (X8 l g w).surfs.any Xn then (ZeF,6) else bif (X8 l g w).op.no then (ZeF,6) else (X8 l g w,0)) else (ZeF,1)
theorem ZrP(g:List Glass)(w:Iv):∀(l:List Face) (p q:Iv),(pGo g w l p q).length=l.length
 | [],_,_=>rfl
 | f::l,p,q=>by simp only[pGo,Qs_,ZrP g w l]
theorem ZdZ{l:LensM}{g:List Glass}(h:XP l g=true):(∃f t,l.faces=f::t)∧l.faces.length≤12:=by
 unfold XP at h
 simp only[Qh_,Qc_] at h
 refine ⟨?_,h.2.2.1⟩
 cases hf:l.faces with
 | nil=>rw[hf] at h;exact absurd h.2.2.2.1 (by decide)
 | cons f t=>exact ⟨f,t,rfl⟩
end Go.Men
namespace Go.Ev
abbrev U2{T0 T1 R:Type}(f:T0→T1→R)(x:T0×T1):R:=f x.1 x.2
abbrev V2{T0 T1 R:Type}(f:T0→T1→R)(x:T0×T1×Unit):R:=match x with | (a0,a1,_)=>f a0 a1
def cv2{T0 T1:Type}(x:T0×T1×Unit):T0×T1:=(x.1,x.2.1)
abbrev U3{T0 T1 T2 R:Type}(f:T0→T1→T2→R)(x:T0×T1×T2):R:=f x.1 x.2.1 x.2.2
abbrev V3{T0 T1 T2 R:Type}(f:T0→T1→T2→R)(x:T0×T1×T2×Unit):R:=match x with | (a0,a1,a2,_)=>f a0 a1 a2
def cv3{T0 T1 T2:Type}(x:T0×T1×T2×Unit):T0×T1×T2:=(x.1,x.2.1,x.2.2.1)
abbrev U4{T0 T1 T2 T3 R:Type}(f:T0→T1→T2→T3→R)(x:T0×T1×T2×T3):R:=f x.1 x.2.1 x.2.2.1 x.2.2.2
abbrev V4{T0 T1 T2 T3 R:Type}(f:T0→T1→T2→T3→R)(x:T0×T1×T2×T3×Unit):R:=match x with | (a0,a1,a2,a3,_)=>f a0 a1 a2 a3
def cv4{T0 T1 T2 T3:Type}(x:T0×T1×T2×T3×Unit):T0×T1×T2×T3:=(x.1,x.2.1,x.2.2.1,x.2.2.2.1)
abbrev U5{T0 T1 T2 T3 T4 R:Type}(f:T0→T1→T2→T3→T4→R)(x:T0×T1×T2×T3×T4):R:=f x.1 x.2.1 x.2.2.1 x.2.2.2.1 x.2.2.2.2
abbrev V5{T0 T1 T2 T3 T4 R:Type}(f:T0→T1→T2→T3→T4→R)(x:T0×T1×T2×T3×T4×Unit):R:=match x with | (a0,a1,a2,a3,a4,_)=>f a0 a1 a2 a3 a4
def cv5{T0 T1 T2 T3 T4:Type}(x:T0×T1×T2×T3×T4×Unit):T0×T1×T2×T3×T4:=(x.1,x.2.1,x.2.2.1,x.2.2.2.1,x.2.2.2.2.1)
abbrev U6{T0 T1 T2 T3 T4 T5 R:Type}(f:T0→T1→T2→T3→T4→T5→R)(x:T0×T1×T2×T3×T4×T5):R:=f x.1 x.2.1 x.2.2.1 x.2.2.2.1 x.2.2.2.2.1 x.2.2.2.2.2
abbrev V6{T0 T1 T2 T3 T4 T5 R:Type}(f:T0→T1→T2→T3→T4→T5→R)(x:T0×T1×T2×T3×T4×T5×Unit):R:=match x with | (a0,a1,a2,a3,a4,a5,_)=>f a0 a1 a2 a3 a4 a5
def cv6{T0 T1 T2 T3 T4 T5:Type}(x:T0×T1×T2×T3×T4×T5×Unit):T0×T1×T2×T3×T4×T5:=(x.1,x.2.1,x.2.2.1,x.2.2.2.1,x.2.2.2.2.1,x.2.2.2.2.2.1)
abbrev U8{T0 T1 T2 T3 T4 T5 T6 T7 R:Type}(f:T0→T1→T2→T3→T4→T5→T6→T7→R)(x:T0×T1×T2×T3×T4×T5×T6×T7):R:=f x.1 x.2.1 x.2.2.1 x.2.2.2.1 x.2.2.2.2.1 x.2.2.2.2.2.1 x.2.2.2.2.2.2.1 x.2.2.2.2.2.2.2
abbrev V8{T0 T1 T2 T3 T4 T5 T6 T7 R:Type}(f:T0→T1→T2→T3→T4→T5→T6→T7→R)(x:T0×T1×T2×T3×T4×T5×T6×T7×Unit):R:=match x with | (a0,a1,a2,a3,a4,a5,a6,a7,_)=>f a0 a1 a2 a3 a4 a5 a6 a7
def cv8{T0 T1 T2 T3 T4 T5 T6 T7:Type}(x:T0×T1×T2×T3×T4×T5×T6×T7×Unit):T0×T1×T2×T3×T4×T5×T6×T7:=(x.1,x.2.1,x.2.2.1,x.2.2.2.1,x.2.2.2.2.1,x.2.2.2.2.2.1,x.2.2.2.2.2.2.1,x.2.2.2.2.2.2.2.1)
abbrev U9{T0 T1 T2 T3 T4 T5 T6 T7 T8 R:Type}(f:T0→T1→T2→T3→T4→T5→T6→T7→T8→R)(x:T0×T1×T2×T3×T4×T5×T6×T7×T8):R:=f x.1 x.2.1 x.2.2.1 x.2.2.2.1 x.2.2.2.2.1 x.2.2.2.2.2.1 x.2.2.2.2.2.2.1 x.2.2.2.2.2.2.2.1 x.2.2.2.2.2.2.2.2
abbrev V9{T0 T1 T2 T3 T4 T5 T6 T7 T8 R:Type}(f:T0→T1→T2→T3→T4→T5→T6→T7→T8→R)(x:T0×T1×T2×T3×T4×T5×T6×T7×T8×Unit):R:=match x with | (a0,a1,a2,a3,a4,a5,a6,a7,a8,_)=>f a0 a1 a2 a3 a4 a5 a6 a7 a8
def cv9{T0 T1 T2 T3 T4 T5 T6 T7 T8:Type}(x:T0×T1×T2×T3×T4×T5×T6×T7×T8×Unit):T0×T1×T2×T3×T4×T5×T6×T7×T8:=(x.1,x.2.1,x.2.2.1,x.2.2.2.1,x.2.2.2.2.1,x.2.2.2.2.2.1,x.2.2.2.2.2.2.1,x.2.2.2.2.2.2.2.1,x.2.2.2.2.2.2.2.2.1)
end Go.Ev
namespace Go.Men
open Go Go.Ev
structure Cd(α:Type) where
 enc:α→PV
 get:PV→Option (α×List Prop)
 ok:∀v a ps,get v=some (a,ps)→Ys ps→v=enc a
def Zi3(P:Program)(f:Nat)(pre:List PV)(k:List PV→List Prop→Option (PV×List Prop)):Prop:=∀l ps r qs,k l ps=some (r,qs)→Ys qs→Ys ps∧Con P f (pre++l) r
def EA{α:Type}(c:Cd α)(k:α→List PV→List Prop→Option (PV×List Prop)):List PV→List Prop→Option (PV×List Prop)
 | x::r,ps=>match c.get x with
   | some (a,p)=>k a r (ps++p)
   | none=>none
 | [],_=>none
def EZ(v:PV)(c:List Prop):List PV→List Prop→Option (PV×List Prop)
 | [],ps=>some (v,ps++c)
 | _,_=>none
theorem Z0N{α:Type}{c:Cd α}{k:α→List PV→List Prop→Option (PV×List Prop)}{l:List PV}{ps qs:List Prop}{r:PV}(h:EA c k l ps=some (r,qs)):∃x t a p,l=x::t∧c.get x=some (a,p)∧k a t (ps++p)=some (r,qs):=by
 cases l with
 | nil=>cases h
 | cons x t=>
   cases hg:c.get x with
   | none=>simp only[EA,hg] at h;cases h
   | some y=>simp only[EA,hg] at h;exact ⟨x,t,y.1,y.2,rfl,hg,h⟩
theorem Zi{P:Program}{f:Nat}{α:Type}{c:Cd α}{pre:List PV}{k:α→List PV→List Prop→Option (PV×List Prop)}(h:∀a,Zi3 P f (pre++[c.enc a]) (k a)):Zi3 P f pre (EA c k):=fun l ps r qs hk hq=>by
 obtain ⟨x,t,a,p,rfl,hg,hk⟩:=Z0N hk
 obtain ⟨h1,h2⟩:=h a _ _ _ _ hk hq
 obtain ⟨h3,h4⟩:=Jx h1
 rw[←c.ok _ _ _ hg h4,QB_] at h2
 exact ⟨h3,h2⟩
theorem ZjU{v r:PV}{c ps qs:List Prop}{l:List PV}(h:EZ v c l ps=some (r,qs))(hq:Ys qs):l=[]∧r=v∧Ys ps∧Ys c:=by
 cases l with
 | nil=>cases h;exact ⟨rfl,rfl,Jx hq⟩
 | cons x t=>cases h
theorem EZ0{P:Program}{f:Nat}{pre:List PV}{v:PV}(h:Con P f pre v):Zi3 P f pre (EZ v []):=fun l ps r qs hk hq=>by
 obtain ⟨rfl,rfl,h1,_⟩:=ZjU hk hq
 exact ⟨h1,by rw[QI_];exact h⟩
theorem EZ1{P:Program}{f:Nat}{pre:List PV}{v:PV}{p:Prop}(h:p→Con P f pre v):Zi3 P f pre (EZ v [p]):=fun l ps r qs hk hq=>by
 obtain ⟨rfl,rfl,h1,h2⟩:=ZjU hk hq
 exact ⟨h1,by rw[QI_];exact h (h2 _ Qv_)⟩
theorem EZ2{P:Program}{f:Nat}{pre:List PV}{v:PV}{p q:Prop}(h:p→q→Con P f pre v):Zi3 P f pre (EZ v [p,q]):=fun l ps r qs hk hq=>by
 obtain ⟨rfl,rfl,h1,h2⟩:=ZjU hk hq
 exact ⟨h1,by rw[QI_];exact h (h2 _ (by simp)) (h2 _ (by simp))⟩
theorem EZ3{P:Program}{f:Nat}{pre:List PV}{v:PV}{p q s:Prop}(h:p→q→s→Con P f pre v):Zi3 P f pre (EZ v [p,q,s]):=fun l ps r qs hk hq=>by
 obtain ⟨rfl,rfl,h1,h2⟩:=ZjU hk hq
 exact ⟨h1,by rw[QI_];exact h (h2 _ (by simp)) (h2 _ (by simp)) (h2 _ (by simp))⟩
theorem Zk{P:Program}{f:Nat}{k:List PV→List Prop→Option (PV×List Prop)}(h:Zi3 P f [] k):Zj P f (fun l=>k l []):=fun args r ps hk hp=>(h _ _ _ _ hk hp).2
def cI:Cd Int:=⟨fun n=> .v (.int .i64 n),fun v=>match v with | .v (.int .i64 n)=>some (n,[]) | _=>none,fun v a ps h _=>by split at h<;>cases h;rfl⟩
def cU:Cd Int:=⟨fun n=> .v (.int .u8 n),fun v=>match v with | .v (.int .u8 n)=>some (n,[]) | _=>none,fun v a ps h _=>by split at h<;>cases h;rfl⟩
def cB:Cd Bool:=⟨fun n=> .v (.bool n),fun v=>match v with | .v (.bool n)=>some (n,[]) | _=>none,fun v a ps h _=>by split at h<;>cases h;rfl⟩
def cS:Cd (List UInt8):=⟨fun n=> .str n,fun v=>match v with | .str n=>some (n,[]) | _=>none,fun v a ps h _=>by split at h<;>cases h;rfl⟩
def cL{α:Type}(e:α→List PV)(d:List PV→α):Cd (List α):=⟨fun l=> .lst (l.map e),fun v=>match v with | .lst xs=>some (Zf d xs,[xs=(Zf d xs).map e]) | _=>none,fun v a ps h hp=>by
 split at h<;>cases h
 exact Kk_ PV.lst (hp _ Qv_)⟩
def cG{α:Type}(e:α→List PV)(d:List PV→α):Cd α:=⟨fun x=> .agg (e x),fun v=>match v with | .agg xs=>some (d xs,[xs=e (d xs)]) | _=>none,fun v a ps h hp=>by
 split at h<;>cases h
 exact Kk_ PV.agg (hp _ Qv_)⟩
def cP{α:Type}(e:α→List PV)(d:List PV→α):Cd α:=⟨fun x=> .lptr (e x) 0,fun v=>match v with | .lptr xs 0=>some (d xs,[xs=e (d xs)]) | _=>none,fun v a ps h hp=>by
 split at h<;>cases h
 exact Kk_ (PV.lptr · 0) (hp _ Qv_)⟩
def cT{α:Type}(e:α→List PV)(g:List PV→Option α)(ok:∀l a,g l=some a→l=e a):Cd α:=⟨fun x=> .agg (e x),fun v=>match v with | .agg xs=>(match g xs with | some a=>some (a,[]) | none=>none) | _=>none,fun v a ps h _=>by
 split at h
 ·split at h
  ·rename_i xs b hb
   cases h
   exact Kk_ PV.agg (ok _ _ hb)
  ·cases h
 ·cases h⟩
def gIv:List PV→Option Iv | [.v (.int .i64 a),.v (.int .i64 b),.v (.bool c)]=>some ⟨a,b,c⟩ | _=>none
theorem W2(l:List PV)(a:Iv)(h:gIv l=some a):l=Iv.enc a:=by unfold gIv at h;split at h<;>cases h;rfl
def cIv:Cd Iv:=cT Iv.enc gIv W2
def ZoT:List PV→Option Dec | [.v (.int .i64 a),.v (.int .i64 b)]=>some ⟨a,b⟩ | _=>none
theorem Zlq(l:List PV)(a:Dec)(h:ZoT l=some a):l=Dec.enc a:=by unfold ZoT at h;split at h<;>cases h;rfl
def WR:Cd Dec:=cT Dec.enc ZoT Zlq
def vI(n:Int):PV:= .v (.int .i64 n)
def vB(b:Bool):PV:= .v (.bool b)
def pI(n:Int):AV:= .p (.v (.int .i64 n))
structure FD(β:Type) where
 t:β→List (Nat×AV)
 b:β→List (Nat×List PV)
 g:List (Nat×AV)→List (Nat×List PV)→Option (β×List Prop)
 ok:∀ts bs x ps,g ts bs=some (x,ps)→Ys ps→ts=t x∧bs=b x
def fZ:FD Unit:=⟨fun _=>[],fun _=>[],fun ts bs=>match ts,bs with | [],[]=>some ((),[]) | _,_=>none,fun ts bs x ps h _=>by split at h<;>cases h;exact ⟨rfl,rfl⟩⟩
theorem fx{β α:Type}{o:Option (β×List Prop)}{p ps:List Prop}{a:α}{x:α×β}(h:(match o with | some (y,q)=>some ((a,y),p++q) | none=>none)=some (x,ps))(hp:Ys ps):x.1=a∧Ys p∧∃q,o=some (x.2,q)∧Ys q:=by
 cases o with
 | none=>cases h
 | some y=>
   cases h
   exact ⟨rfl,(Jx hp).1,y.2,rfl,(Jx hp).2⟩
def fT{α β:Type}(i:Nat)(c:Cd α)(r:FD β):FD (α×β):=⟨fun y=>(i,.p (c.enc y.1))::r.t y.2,fun y=>r.b y.2,fun ts bs=>match ts with
 | (j,.p v)::ts=>bif Nat.beq j i then (match c.get v with
   | some (a,p)=>(match r.g ts bs with | some (y,q)=>some ((a,y),p++q) | none=>none)
   | none=>none) else none
 | _=>none,fun ts bs x ps h hp=>by
 split at h
 ·rename_i j v ts
  cases hb:Nat.beq j i with
  | false=>rw[hb] at h;cases h
  | true=>
    rw[hb,Qb_] at h
    split at h
    ·rename_i a p hg
     obtain ⟨h1,h2,q,h3,h4⟩:=fx h hp
     obtain ⟨k1,k2⟩:=r.ok _ _ _ _ h3 h4
     rw[c.ok _ _ _ hg h2,h1,k1,k2,Qj_ hb]
     exact ⟨rfl,rfl⟩
    ·cases h
 ·cases h⟩
def fP{β:Type}(i n off:Nat)(r:FD β):FD β:=⟨fun y=>(i,.ptr n off)::r.t y,r.b,fun ts bs=>match ts with
 | (j,.ptr m o)::ts=>bif Nat.beq j i&&(Nat.beq m n&&Nat.beq o off) then r.g ts bs else none
 | _=>none,fun ts bs x ps h hp=>by
 split at h
 ·rename_i j m o ts
  cases hb:(Nat.beq j i&&(Nat.beq m n&&Nat.beq o off)) with
  | false=>rw[hb] at h;cases h
  | true=>
    rw[hb,Qb_] at h
    simp only[Qh_] at hb
    obtain ⟨k1,k2⟩:=r.ok _ _ _ _ h hp
    rw[k1,k2,Qj_ hb.1,Qj_ hb.2.1,Qj_ hb.2.2]
    exact ⟨rfl,rfl⟩
 ·cases h⟩
def fB{α β:Type}(i:Nat)(e:α→List PV)(d:List PV→α)(r:FD β):FD (α×β):=⟨fun y=>r.t y.2,fun y=>(i,e y.1)::r.b y.2,fun ts bs=>match bs with
 | (j,v)::bs=>bif Nat.beq j i then (match r.g ts bs with | some (y,q)=>some ((d v,y),[v=e (d v)]++q) | none=>none) else none
 | _=>none,fun ts bs x ps h hp=>by
 split at h
 ·rename_i j v bs
  cases hb:Nat.beq j i with
  | false=>rw[hb] at h;cases h
  | true=>
    rw[hb,Qb_] at h
    obtain ⟨h1,h2,q,h3,h4⟩:=fx h hp
    obtain ⟨k1,k2⟩:=r.ok _ _ _ _ h3 h4
    have h5:v=e (d v):=h2 _ Qv_
    rw[h1,←h5,k1,k2,Qj_ hb]
    exact ⟨rfl,rfl⟩
 ·cases h⟩
def fb{α β:Type}(i:Nat)(e:α→List PV)(gc:List PV→Option α)(ok:∀l a,gc l=some a→l=e a)(r:FD β):FD (α×β):=⟨fun y=>r.t y.2,fun y=>(i,e y.1)::r.b y.2,fun ts bs=>match bs with
 | (j,v)::bs=>bif Nat.beq j i then (match gc v with
   | some a=>(match r.g ts bs with | some (y,q)=>some ((a,y),[]++q) | none=>none)
   | none=>none) else none
 | _=>none,fun ts bs x ps h hp=>by
 split at h
 ·rename_i j v bs
  cases hb:Nat.beq j i with
  | false=>rw[hb] at h;cases h
  | true=>
    rw[hb,Qb_] at h
    split at h
    ·rename_i a hg
     obtain ⟨h1,h2,q,h3,h4⟩:=fx h hp
     obtain ⟨k1,k2⟩:=r.ok _ _ _ _ h3 h4
     rw[h1,ok _ _ hg,k1,k2,Qj_ hb]
     exact ⟨rfl,rfl⟩
    ·cases h
 ·cases h⟩
def nsB:List Nat→List Nat→Bool
 | [],[]=>true
 | a::r,b::s=>Nat.beq a b&&nsB r s
 | _,_=>false
theorem ZvM:∀{l m:List Nat},nsB l m=true→l=m
 | [],[],_=>rfl
 | a::r,b::s,h=>by
   simp only[nsB,Qh_] at h
   rw[Qj_ h.1,ZvM h.2]
 | [],_::_,h=>by cases h
 | _::_,[],h=>by cases h
def owB:List (Ev.Loc×Nat)→List (Ev.Loc×Nat)→Bool
 | [],[]=>true
 | (a,x)::r,(b,y)::s=>(a.eq b&&Nat.beq x y)&&owB r s
 | _,_=>false
theorem ZvN:∀{l m:List (Ev.Loc×Nat)},owB l m=true→l=m
 | [],[],_=>rfl
 | (a,x)::r,(b,y)::s,h=>by
   simp only[owB,Qh_] at h
   rw[Loc.eq_iff.1 h.1.1,Qj_ h.1.2,ZvN h.2]
 | [],_::_,h=>by cases h
 | _::_,[],h=>by cases h
def LSg{β:Type}(Γ:List (Nat×Ty))(n:Nat)(fd:FD β)(ro:List Nat)(ow:List (Ev.Loc×Nat))(k:KpH)(I:β→Prop)(F:β→(Ex→St→Prop)→Prop):LSum:=fun σ K=>match Jj Γ k σ with
 | some ⟨n',ts,bs,ro',ow',[]⟩=>bif Nat.beq n' n&&(nsB ro' ro&&owB ow' ow) then (match fd.g ts bs with
   | some (y,ps)=>alls (ps++[I y]) (F y K)
   | none=>False) else False
 | _=>False
theorem lsG{P:Program}{β X:Type}{Γ:List (Nat×Ty)}{b:Code}{n:Nat}{fd:FD β}{ro:List Nat}{ow:List (Ev.Loc×Nat)}{k:KpH}{I:β→Prop}{F:β→(Ex→St→Prop)→Prop}(hΓ:Yr P Γ){H:X→St}{inv:X→Prop}{fin:X→Ex→St→Prop}(h:∀x,inv x→∃e σ',fin x e σ'∧∃m,Zav P m b (H x) e σ')
 (cv:β→X) (hH:∀y,(⟨n,fd.t y,fd.b y,ro,ow,[]⟩:St)=H (cv y)) (hI:∀y,I y→inv (cv y)) (hF:∀y K e s,F y K→fin (cv y) e s→K e s):Yo P b (LSg Γ n fd ro ow k I F):=by
 refine Zax hΓ h k fun σ K hS=>?_
 unfold LSg at hS
 split at hS
 ·rename_i n' ts bs ro' ow' hk
  cases hb:(Nat.beq n' n&&(nsB ro' ro&&owB ow' ow)) with
  | false=>rw[hb] at hS;exact hS.elim
  | true=>
    rw[hb,Qb_] at hS
    simp only[Qh_] at hb
    split at hS
    ·rename_i y ps hg
     obtain ⟨h1,h2⟩:=XJ hS
     obtain ⟨h3,h4⟩:=Jx h1
     obtain ⟨k1,k2⟩:=fd.ok _ _ _ _ hg h3
     refine ⟨cv y, ?_,hI y (h4 _ Qv_),fun e s=>hF y K e s h2⟩
     rw[hk,←hH,k1,k2,Qj_ hb.1,ZvM hb.2.1,ZvN hb.2.2]
    ·exact hS.elim
 ·exact hS.elim
theorem fE{K:Ex→St→Prop}{a e:Ex}{b s:St}(h:K a b)(f:e=a∧s=b):K e s:=by obtain ⟨rfl,rfl⟩:=f;exact h
theorem fC{c:Bool}{A B p q R:Prop}(h:bif c then A else B)(f:(c=true∧p)∨(c=false∧q))(ha:A→p→R)(hb:B→q→R):R:=by
 rcases f with ⟨rfl,f⟩ | ⟨rfl,f⟩
 ·exact ha h f
 ·exact hb h f
theorem sxT{α:Type}{A:α→Prop}(T:α→Prop)(e:∀Q,A Q=T Q){Q:α}(h:T Q):A Q:=(e Q).mpr h
def Qn(X r:PV):Prop:=nz r=X
theorem Zi4{P:Program}{E:Env}(hE:EnvOk P E){C:ZZ}(hC:CSOk P C){CP:Y0}(hP:CSPOk P CP){CI:Yx}(hI:CSIOk P CI){G:Gx}(hG:OwOk P C G){LS:List (Nat×LSum)}{f:Nat}{fn:Func}(hf:lk f E.fns=some fn)(hL:ZN P LS fn){n:Nat}{args:List PV}{X:PV}
 (h:sxF E C CP CI G LS n fn args (Qn X)):Con P f args X:=ZrF hE hC hP hI hG hf hL h
def kr0:KpH:=⟨⟨[],[],[]⟩,[]⟩
def eIv(x:Iv):List PV:=[vI x.lo,vI x.hi,vB x.no]
def Zlr(x:Dec):List PV:=[vI x.c,vI x.scale]
def W3(x:Glass):List PV:=[PV.str x.name,vI x.b.a.c,vI x.b.a.scale,vI x.b.b.c,vI x.b.b.scale,vI x.b.c.c,vI x.b.c.scale,vI x.c.a.c,vI x.c.a.scale,vI x.c.b.c,vI x.c.b.scale,vI x.c.c.c,vI x.c.c.scale]
def ZyY(x:Face):List PV:=[vB x.stop,vI x.radius.c,vI x.radius.scale,vI x.aperture.c,vI x.aperture.scale,vI x.thick.c,vI x.thick.scale,vI x.conic.c,vI x.conic.scale,vI x.a4.c,vI x.a4.scale,vI x.a6.c,vI x.a6.scale,PV.str x.glass]
def Zq(x:LensM):List PV:=[PV.str x.name,vI x.back.c,vI x.back.scale,PV.lst (List.map Face.enc x.faces)]
def Zan(x:Card):List PV:=[vI x.efl.lo,vI x.efl.hi,vB x.efl.no,vI x.bfl.lo,vI x.bfl.hi,vB x.bfl.no,vI x.plane.lo,vI x.plane.hi,vB x.plane.no,vI x.number.lo,vI x.number.hi,vB x.number.no]
def pxU(f:Surf)(y u:Iv):Iv:=bif f.stop then u else sub (Ye f.ratio u) (Ye (Ye y f.curve) (sub (point 65536) f.ratio))
def pxY(f:Surf)(l:List Surf)(y u:Iv):Iv:=match l with | []=>y | g::_=>add y (Ye u (sub g.pos f.pos))
def W8:List Surf→Iv→Iv→Iv×Iv
 | [],y,u=>(y,u)
 | f::l,y,u=>W8 l (pxY f l y (pxU f y u)) (pxU f y u)
def pxC(op y u:Iv):Card:=⟨neg (Z8 (point 65536) u),neg (Z8 y u),sub (neg (Z8 y u)) (neg (Z8 (point 65536) u)),Z8 (neg (Z8 (point 65536) u)) (times op 2)⟩
def parax(s:SysM):Card:=pxC s.op (W8 s.surfs (point 65536) (point 0)).1 (W8 s.surfs (point 65536) (point 0)).2
def XE(f:Iv→SysM×Int):List Iv→Int
 | []=>0
 | w::t=>bif (f w).2 !=0 then (f w).2 else XE f t
def Zdo(f:Iv→SysM×Int)(w:Iv):Iv:=(parax (f w).1).bfl
def J4(f:Iv→SysM×Int)(ws:List Iv):List Iv×Int:=bif XE f ws==0 then (ws.map (Zdo f),0) else ([],XE f ws)
def YJ(l:LensM)(g:List Glass)(ws:List Iv):List Iv×Int:=J4 (fun w=>ZX l g w) ws
def YK(l:LensM)(g:List Glass)(ws:List Iv):List Iv×Int:=J4 (fun w=>Yb l g w) ws
def Zls(f:Iv→SysM×Int):Iv×Int:=bif (J4 f [Zy 1,Zy 2]).2==0 then (sub (Zdo f (Zy 1)) (Zdo f (Zy 2)),0) else (ZjP,(J4 f [Zy 1,Zy 2]).2)
def Jl(l:LensM)(g:List Glass):Iv×Int:=Zls (fun w=>ZX l g w)
def W4(l:LensM)(g:List Glass):Iv×Int:=Zls (fun w=>Yb l g w)
theorem ZcF(l:LensM)(g:List Glass)(w:Iv):(ZX l g w).1.surfs.length≤12:=by
 unfold ZX
 cases h:XP l g<;>simp only[Qb_,Qd_]
 ·exact Kz_ _
 ·cases (X8 l g w).surfs.any Xn<;>simp only[Qb_,Qd_]
  ·cases (X8 l g w).op.no<;>simp only[Qb_,Qd_]
   ·show (pGo _ _ _ _ _).length≤12
    rw[ZrP];exact (ZdZ h).2
   ·exact Kz_ _
  ·exact Kz_ _
theorem ZhI(f:Iv→SysM×Int)(a b:Iv)(h:((J4 f [a,b]).2==0)=true):J4 f [a,b]=([Zdo f a,Zdo f b],0):=by
 unfold J4 at h ⊢
 cases hc:XE f [a,b]==0 with
 | true=>rfl
 | false=>rw[hc] at h;simp only[Qd_] at h;rw[hc] at h;cases h
theorem Zdp(f:Iv→SysM×Int)(w:Iv)(t:List Iv):XE f (w::t)=bif (f w).2 !=0 then (f w).2 else XE f t:=rfl
theorem ZrQ(f:Iv→SysM×Int)(w:Iv)(t:List Iv)(h:((f w).2 !=0)=true):(XE f (w::t)==0)=false:=by
 rw[Zdp,h]
 simpa using h
def ZjV(a b:Int):Iv:=bif a.tmod 11==10 then ZeB a b else wide (IntKind.i64.wrap (20000+pick a 40000)) (pick b 300)
def Jg:Nat→List I→Int→List Iv
 | 0,_,_=>[]
 | k+1,l,i=>bif decide (i+1 < l.length)&&decide (i < 10) then ZjV (l.getD i.toNat ⟨0⟩).n (l.getD (i+1).toNat ⟨0⟩).n::Jg k l (i+2) else []
theorem Zdq(k:Nat)(l:List I)(i:Int):Jg (k+1) l i=bif decide (i+1 < l.length)&&decide (i < 10) then ZjV (l.getD i.toNat ⟨0⟩).n (l.getD (i+1).toNat ⟨0⟩).n::Jg k l (i+2) else []:=rfl
theorem ZbH(k:Nat):∀(l:List I) (i:Int),(Jg k l i).length≤k:=by
 induction k with
 | zero=>intro l i;exact Kz_ _
 | succ k ih=>
   intro l i
   rw[Zdq]
   cases decide (i+1 < l.length)&&decide (i < 10) with
   | true=>simp only[Qb_,Qs_];exact Nat.succ_le_succ (ih l (i+2))
   | false=>exact Kz_ _
theorem ZxM(f:Iv→SysM×Int)(ws:List Iv):(J4 f ws).1.length≤ws.length:=by
 unfold J4
 cases XE f ws==0 with
 | true=>simp only[Qb_,Qk_];exact Q2_ _
 | false=>exact Kz_ _
end Go.Men
namespace Go.Ev
open Go.RowKit
end Go.Ev
namespace Go.Proofs.YtgfgjabeooohhaaGreatDoor
open Go.Ev
def YL:List (Nat×Ty):=[
 (48,⟨1,3,24,[.v (Go.Value.int (Go.IntKind.i64) 0),.v (Go.Value.int (Go.IntKind.i64) 0),.v (Go.Value.bool false)],[(0,3),(1,3),(2,4)],0,0⟩),
 (25,⟨1,2,16,[.v (Go.Value.int (Go.IntKind.i64) 0),.v (Go.Value.int (Go.IntKind.i64) 0)],[(0,3),(1,3)],0,0⟩),
 (3,⟨0,1,8,[.v (Go.Value.int (Go.IntKind.i64) 0)],[],0,0⟩),
 (32,⟨1,14,120,[.v (Go.Value.bool false),.v (Go.Value.int (Go.IntKind.i64) 0),.v (Go.Value.int (Go.IntKind.i64) 0),.v (Go.Value.int (Go.IntKind.i64) 0),.v (Go.Value.int (Go.IntKind.i64) 0),.v (Go.Value.int (Go.IntKind.i64) 0),.v (Go.Value.int (Go.IntKind.i64) 0),.v (Go.Value.int (Go.IntKind.i64) 0),.v (Go.Value.int (Go.IntKind.i64) 0),.v (Go.Value.int (Go.IntKind.i64) 0),.v (Go.Value.int (Go.IntKind.i64) 0),.v (Go.Value.int (Go.IntKind.i64) 0),.v (Go.Value.int (Go.IntKind.i64) 0),.str []],[(0,4),(1,25),(3,25),(5,25),(7,25),(9,25),(11,25),(13,9)],0,0⟩),
 (36,⟨1,4,56,[.str [],.v (Go.Value.int (Go.IntKind.i64) 0),.v (Go.Value.int (Go.IntKind.i64) 0),.nil],[(0,9),(1,25),(3,34)],0,0⟩),
 (9,⟨4,1,16,[.str []],[],0,0⟩),
 (57,⟨1,4,48,[.nil,.v (Go.Value.int (Go.IntKind.i64) 0),.v (Go.Value.int (Go.IntKind.i64) 0),.v (Go.Value.bool false)],[(0,55),(1,48)],0,0⟩),
 (34,⟨3,1,24,[.nil],[],32,0⟩),
 (75,⟨1,23,176,[.v (Go.Value.bool false),.v (Go.Value.bool false),.v (Go.Value.int (Go.IntKind.i64) 0),.v (Go.Value.int (Go.IntKind.i64) 0),.v (Go.Value.bool false),.v (Go.Value.int (Go.IntKind.i64) 0),.v (Go.Value.int (Go.IntKind.i64) 0),.v (Go.Value.bool false),.v (Go.Value.int (Go.IntKind.i64) 0),.v (Go.Value.int (Go.IntKind.i64) 0),.v (Go.Value.bool false),.v (Go.Value.int (Go.IntKind.i64) 0),.v (Go.Value.int (Go.IntKind.i64) 0),.v (Go.Value.bool false),.v (Go.Value.int (Go.IntKind.i64) 0),.v (Go.Value.int (Go.IntKind.i64) 0),.v (Go.Value.bool false),.v (Go.Value.int (Go.IntKind.i64) 0),.v (Go.Value.int (Go.IntKind.i64) 0),.v (Go.Value.bool false),.v (Go.Value.int (Go.IntKind.i64) 0),.v (Go.Value.int (Go.IntKind.i64) 0),.v (Go.Value.bool false)],[(0,4),(1,4),(2,48),(5,48),(8,48),(11,48),(14,48),(17,48),(20,48)],0,0⟩),
 (55,⟨3,1,24,[.nil],[],75,0⟩),
 (30,⟨1,13,112,[.str [],.v (Go.Value.int (Go.IntKind.i64) 0),.v (Go.Value.int (Go.IntKind.i64) 0),.v (Go.Value.int (Go.IntKind.i64) 0),.v (Go.Value.int (Go.IntKind.i64) 0),.v (Go.Value.int (Go.IntKind.i64) 0),.v (Go.Value.int (Go.IntKind.i64) 0),.v (Go.Value.int (Go.IntKind.i64) 0),.v (Go.Value.int (Go.IntKind.i64) 0),.v (Go.Value.int (Go.IntKind.i64) 0),.v (Go.Value.int (Go.IntKind.i64) 0),.v (Go.Value.int (Go.IntKind.i64) 0),.v (Go.Value.int (Go.IntKind.i64) 0)],[(0,9),(1,28),(7,28)],0,0⟩),
 (92,⟨1,3,40,[.v (Go.Value.int (Go.IntKind.i64) 0),.str [],.v (Go.Value.complex (Go.FloatKind.f64) 0 0)],[(0,3),(1,9),(2,37)],0,0⟩),
 (46,⟨3,1,24,[.nil],[],48,0⟩),
 (85,⟨3,1,24,[.nil],[],92,0⟩),
 (22,⟨3,1,24,[.nil],[],30,0⟩),
 (44,⟨3,1,24,[.nil],[],3,0⟩),
 (90,⟨1,4,72,[.nil,.nil,.v (Go.Value.complex (Go.FloatKind.f64) 0 0),.v (Go.Value.int (Go.IntKind.i64) 0)],[(0,85),(1,22),(2,37),(3,38)],0,0⟩),
 (4,⟨0,1,1,[.v (Go.Value.bool false)],[],0,0⟩),
 (28,⟨2,6,48,[.v (Go.Value.int (Go.IntKind.i64) 0),.v (Go.Value.int (Go.IntKind.i64) 0),.v (Go.Value.int (Go.IntKind.i64) 0),.v (Go.Value.int (Go.IntKind.i64) 0),.v (Go.Value.int (Go.IntKind.i64) 0),.v (Go.Value.int (Go.IntKind.i64) 0)],[],25,3⟩),
 (98,⟨1,6,48,[.v (Go.Value.int (Go.IntKind.i64) 0),.v (Go.Value.int (Go.IntKind.i64) 0),.v (Go.Value.int (Go.IntKind.i64) 0),.v (Go.Value.int (Go.IntKind.i64) 0),.v (Go.Value.int (Go.IntKind.i64) 0),.v (Go.Value.int (Go.IntKind.i64) 0)],[(0,3),(1,3),(2,3),(3,3),(4,3),(5,3)],0,0⟩),
 (101,⟨1,12,96,[.v (Go.Value.int (Go.IntKind.i64) 0),.v (Go.Value.int (Go.IntKind.i64) 0),.v (Go.Value.bool false),.v (Go.Value.int (Go.IntKind.i64) 0),.v (Go.Value.int (Go.IntKind.i64) 0),.v (Go.Value.bool false),.v (Go.Value.int (Go.IntKind.i64) 0),.v (Go.Value.int (Go.IntKind.i64) 0),.v (Go.Value.bool false),.v (Go.Value.int (Go.IntKind.i64) 0),.v (Go.Value.int (Go.IntKind.i64) 0),.v (Go.Value.bool false)],[(0,48),(3,48),(6,48),(9,48)],0,0⟩),
 (37,⟨0,1,16,[.v (Go.Value.complex (Go.FloatKind.f64) 0 0)],[],0,0⟩),
 (118,⟨3,1,24,[.nil],[],25,0⟩),
 (111,⟨3,1,24,[.nil],[],5,0⟩),
 (38,⟨0,1,8,[.v (Go.Value.int (Go.IntKind.i64) 0)],[],0,0⟩),
 (62,⟨1,12,96,[.v (Go.Value.int (Go.IntKind.i64) 0),.v (Go.Value.int (Go.IntKind.i64) 0),.v (Go.Value.bool false),.v (Go.Value.int (Go.IntKind.i64) 0),.v (Go.Value.int (Go.IntKind.i64) 0),.v (Go.Value.bool false),.v (Go.Value.int (Go.IntKind.i64) 0),.v (Go.Value.int (Go.IntKind.i64) 0),.v (Go.Value.bool false),.v (Go.Value.int (Go.IntKind.i64) 0),.v (Go.Value.int (Go.IntKind.i64) 0),.v (Go.Value.bool false)],[(0,48),(3,48),(6,48),(9,48)],0,0⟩),
 (5,⟨0,1,1,[.v (Go.Value.int (Go.IntKind.u8) 0)],[],0,0⟩),
 (119,⟨2,3,48,[.str [],.str [],.str []],[],9,3⟩),
 (166,⟨2,2,16,[.v (Go.Value.int (Go.IntKind.i64) 0),.v (Go.Value.int (Go.IntKind.i64) 0)],[],3,2⟩),
 (157,⟨0,1,8,[.v (Go.Value.float (Go.FloatKind.f64) 0)],[],0,0⟩),
 (113,⟨1,2,32,[.v (Go.Value.pointer none),.nil],[(0,110),(1,111)],0,0⟩),
 (189,⟨0,1,4,[.v (Go.Value.int (Go.IntKind.u32) 0)],[],0,0⟩),
 (43,⟨3,1,24,[.nil],[],98,0⟩),
 (170,⟨0,1,8,[.v (Go.Value.int (Go.IntKind.u64) 0)],[],0,0⟩),
 (110,⟨0,1,8,[.v (Go.Value.pointer none)],[],0,0⟩)]
theorem ZxN:Yr Tryz.prog YL:=
 Z7 (by kernel_rfl)<|
 Z7 (by kernel_rfl)<|
 Z7 (by kernel_rfl)<|
 Z7 (by kernel_rfl)<|
 Z7 (by kernel_rfl)<|
 Z7 (by kernel_rfl)<|
 Z7 (by kernel_rfl)<|
 Z7 (by kernel_rfl)<|
 Z7 (by kernel_rfl)<|
 Z7 (by kernel_rfl)<|
 Z7 (by kernel_rfl)<|
 Z7 (by kernel_rfl)<|
 Z7 (by kernel_rfl)<|
 Z7 (by kernel_rfl)<|
 Z7 (by kernel_rfl)<|
 Z7 (by kernel_rfl)<|
 Z7 (by kernel_rfl)<|
 Z7 (by kernel_rfl)<|
 Z7 (by kernel_rfl)<|
 Z7 (by kernel_rfl)<|
 Z7 (by kernel_rfl)<|
 Z7 (by kernel_rfl)<|
 Z7 (by kernel_rfl)<|
 Z7 (by kernel_rfl)<|
 Z7 (by kernel_rfl)<|
 Z7 (by kernel_rfl)<|
 Z7 (by kernel_rfl)<|
 Z7 (by kernel_rfl)<|
 Z7 (by kernel_rfl)<|
 Z7 (by kernel_rfl)<|
 Z7 (by kernel_rfl)<|
 Z7 (by kernel_rfl)<|
 Z7 (by kernel_rfl)<|
 Z7 (by kernel_rfl)<|
 Z7 (by kernel_rfl)<|
 Zxm
noncomputable def ZyZ:List (Nat×Func):=[(3,Tryz.f3),(4,Tryz.f4),(5,Tryz.f5),(6,Tryz.f6),(7,Tryz.f7),(8,Tryz.f8),(9,Tryz.f9),(10,Tryz.f10),(12,Tryz.f12),(11,Tryz.f11),(13,Tryz.f13),(14,Tryz.f14),(15,Tryz.f15),(16,Tryz.f16),(17,Tryz.f17),(18,Tryz.f18),(19,Tryz.f19),(20,Tryz.f20),(21,Tryz.f21),(22,Tryz.f22),(23,Tryz.f23),(25,Tryz.f25),(24,Tryz.f24),(26,Tryz.f26),(27,Tryz.f27),(28,Tryz.f28),(29,Tryz.f29),(30,Tryz.f30),(32,Tryz.f32),(31,Tryz.f31),(33,Tryz.f33),(34,Tryz.f34),(35,Tryz.f35),(38,Tryz.f38),(37,Tryz.f37),(36,Tryz.f36),(39,Tryz.f39),(40,Tryz.f40),(41,Tryz.f41),(42,Tryz.f42),(43,Tryz.f43),(44,Tryz.f44),(45,Tryz.f45),(46,Tryz.f46),(47,Tryz.f47),(48,Tryz.f48),(49,Tryz.f49),(50,Tryz.f50),(51,Tryz.f51),(52,Tryz.f52),(53,Tryz.f53),(54,Tryz.f54),(55,Tryz.f55),(56,Tryz.f56),(57,Tryz.f57),(58,Tryz.f58),(65,Tryz.f65),(59,Tryz.f59),(60,Tryz.f60),(61,Tryz.f61),(62,Tryz.f62),(63,Tryz.f63),(64,Tryz.f64),(66,Tryz.f66),(67,Tryz.f67),(68,Tryz.f68),(70,Tryz.f70),(69,Tryz.f69),(71,Tryz.f71),(73,Tryz.f73),(75,Tryz.f75),(74,Tryz.f74),(77,Tryz.f77),(78,Tryz.f78),(79,Tryz.f79),(81,Tryz.f81),(82,Tryz.f82),(80,Tryz.f80),(83,Tryz.f83),(84,Tryz.f84),(85,Tryz.f85),(86,Tryz.f86),(87,Tryz.f87),(88,Tryz.f88),(89,Tryz.f89),(90,Tryz.f90),(91,Tryz.f91),(92,Tryz.f92),(93,Tryz.f93),(94,Tryz.f94),(95,Tryz.f95),(96,Tryz.f96),(97,Tryz.f97),(98,Tryz.f98),(99,Tryz.f99),(100,Tryz.f100),(101,Tryz.f101),(102,Tryz.f102),(103,Tryz.f103),(104,Tryz.f104),(105,Tryz.f105),(106,Tryz.f106),(107,Tryz.f107),(108,Tryz.f108),(109,Tryz.f109),(110,Tryz.f110),(111,Tryz.f111),(112,Tryz.f112),(113,Tryz.f113),(114,Tryz.f114),(115,Tryz.f115),(116,Tryz.f116),(117,Tryz.f117),(118,Tryz.f118),(119,Tryz.f119),(120,Tryz.f120),(121,Tryz.f121),(122,Tryz.f122),(123,Tryz.f123),(124,Tryz.f124),(125,Tryz.f125),(126,Tryz.f126),(76,Tryz.f76),(130,Tryz.f130),(131,Tryz.f131),(136,Tryz.f136),(137,Tryz.f137),(138,Tryz.f138),(135,Tryz.f135),(140,Tryz.f140),(141,Tryz.f141),(142,Tryz.f142),(143,Tryz.f143),(144,Tryz.f144),(145,Tryz.f145),(146,Tryz.f146),(147,Tryz.f147),(148,Tryz.f148),(149,Tryz.f149),(150,Tryz.f150),(151,Tryz.f151),(152,Tryz.f152),(133,Tryz.f133),(134,Tryz.f134),(155,Tryz.f155),(132,Tryz.f132),(156,Tryz.f156),(157,Tryz.f157),(158,Tryz.f158),(165,Tryz.f165),(139,Tryz.f139),(166,Tryz.f166),(167,Tryz.f167),(169,Tryz.f169),(168,Tryz.f168),(170,Tryz.f170),(171,Tryz.f171),(172,Tryz.f172),(173,Tryz.f173),(174,Tryz.f174),(182,Tryz.f182),(188,Tryz.f188),(186,Tryz.f186),(189,Tryz.f189),(206,Tryz.f206),(208,Tryz.f208),(209,Tryz.f209),(222,Tryz.f222)]
theorem ZxO:ZmQ Tryz.prog ZyZ:=
 Zc Tryz.func3 Tryz.call3<|
 Zc Tryz.func4 Tryz.call4<|
 Zc Tryz.func5 Tryz.call5<|
 Zc Tryz.func6 Tryz.call6<|
 Zc Tryz.func7 Tryz.call7<|
 Zc Tryz.func8 Tryz.call8<|
 Zc Tryz.func9 Tryz.call9<|
 Zc Tryz.func10 Tryz.call10<|
 Zc Tryz.func12 Tryz.call12<|
 Zc Tryz.func11 Tryz.call11<|
 Zc Tryz.func13 Tryz.call13<|
 Zc Tryz.func14 Tryz.call14<|
 Zc Tryz.func15 Tryz.call15<|
 Zc Tryz.func16 Tryz.call16<|
 Zc Tryz.func17 Tryz.call17<|
 Zc Tryz.func18 Tryz.call18<|
 Zc Tryz.func19 Tryz.call19<|
 Zc Tryz.func20 Tryz.call20<|
 Zc Tryz.func21 Tryz.call21<|
 Zc Tryz.func22 Tryz.call22<|
 Zc Tryz.func23 Tryz.call23<|
 Zc Tryz.func25 Tryz.call25<|
 Zc Tryz.func24 Tryz.call24<|
 Zc Tryz.func26 Tryz.call26<|
 Zc Tryz.func27 Tryz.call27<|
 Zc Tryz.func28 Tryz.call28<|
 Zc Tryz.func29 Tryz.call29<|
 Zc Tryz.func30 Tryz.call30<|
 Zc Tryz.func32 Tryz.call32<|
 Zc Tryz.func31 Tryz.call31<|
 Zc Tryz.func33 Tryz.call33<|
 Zc Tryz.func34 Tryz.call34<|
 Zc Tryz.func35 Tryz.call35<|
 Zc Tryz.func38 Tryz.call38<|
 Zc Tryz.func37 Tryz.call37<|
 Zc Tryz.func36 Tryz.call36<|
 Zc Tryz.func39 Tryz.call39<|
 Zc Tryz.func40 Tryz.call40<|
 Zc Tryz.func41 Tryz.call41<|
 Zc Tryz.func42 Tryz.call42<|
 Zc Tryz.func43 Tryz.call43<|
 Zc Tryz.func44 Tryz.call44<|
 Zc Tryz.func45 Tryz.call45<|
 Zc Tryz.func46 Tryz.call46<|
 Zc Tryz.func47 Tryz.call47<|
 Zc Tryz.func48 Tryz.call48<|
 Zc Tryz.func49 Tryz.call49<|
 Zc Tryz.func50 Tryz.call50<|
 Zc Tryz.func51 Tryz.call51<|
 Zc Tryz.func52 Tryz.call52<|
 Zc Tryz.func53 Tryz.call53<|
 Zc Tryz.func54 Tryz.call54<|
 Zc Tryz.func55 Tryz.call55<|
 Zc Tryz.func56 Tryz.call56<|
 Zc Tryz.func57 Tryz.call57<|
 Zc Tryz.func58 Tryz.call58<|
 Zc Tryz.func65 Tryz.call65<|
 Zc Tryz.func59 Tryz.call59<|
 Zc Tryz.func60 Tryz.call60<|
 Zc Tryz.func61 Tryz.call61<|
 Zc Tryz.func62 Tryz.call62<|
 Zc Tryz.func63 Tryz.call63<|
 Zc Tryz.func64 Tryz.call64<|
 Zc Tryz.func66 Tryz.call66<|
 Zc Tryz.func67 Tryz.call67<|
 Zc Tryz.func68 Tryz.call68<|
 Zc Tryz.func70 Tryz.call70<|
 Zc Tryz.func69 Tryz.call69<|
 Zc Tryz.func71 Tryz.call71<|
 Zc Tryz.func73 Tryz.call73<|
 Zc Tryz.func75 Tryz.call75<|
 Zc Tryz.func74 Tryz.call74<|
 Zc Tryz.func77 Tryz.call77<|
 Zc Tryz.func78 Tryz.call78<|
 Zc Tryz.func79 Tryz.call79<|
 Zc Tryz.func81 Tryz.call81<|
 Zc Tryz.func82 Tryz.call82<|
 Zc Tryz.func80 Tryz.call80<|
 Zc Tryz.func83 Tryz.call83<|
 Zc Tryz.func84 Tryz.call84<|
 Zc Tryz.func85 Tryz.call85<|
 Zc Tryz.func86 Tryz.call86<|
 Zc Tryz.func87 Tryz.call87<|
 Zc Tryz.func88 Tryz.call88<|
 Zc Tryz.func89 Tryz.call89<|
 Zc Tryz.func90 Tryz.call90<|
 Zc Tryz.func91 Tryz.call91<|
 Zc Tryz.func92 Tryz.call92<|
 Zc Tryz.func93 Tryz.call93<|
 Zc Tryz.func94 Tryz.call94<|
 Zc Tryz.func95 Tryz.call95<|
 Zc Tryz.func96 Tryz.call96<|
 Zc Tryz.func97 Tryz.call97<|
 Zc Tryz.func98 Tryz.call98<|
 Zc Tryz.func99 Tryz.call99<|
 Zc Tryz.func100 Tryz.call100<|
 Zc Tryz.func101 Tryz.call101<|
 Zc Tryz.func102 Tryz.call102<|
 Zc Tryz.func103 Tryz.call103<|
 Zc Tryz.func104 Tryz.call104<|
 Zc Tryz.func105 Tryz.call105<|
 Zc Tryz.func106 Tryz.call106<|
 Zc Tryz.func107 Tryz.call107<|
 Zc Tryz.func108 Tryz.call108<|
 Zc Tryz.func109 Tryz.call109<|
 Zc Tryz.func110 Tryz.call110<|
 Zc Tryz.func111 Tryz.call111<|
 Zc Tryz.func112 Tryz.call112<|
 Zc Tryz.func113 Tryz.call113<|
 Zc Tryz.func114 Tryz.call114<|
 Zc Tryz.func115 Tryz.call115<|
 Zc Tryz.func116 Tryz.call116<|
 Zc Tryz.func117 Tryz.call117<|
 Zc Tryz.func118 Tryz.call118<|
 Zc Tryz.func119 Tryz.call119<|
 Zc Tryz.func120 Tryz.call120<|
 Zc Tryz.func121 Tryz.call121<|
 Zc Tryz.func122 Tryz.call122<|
 Zc Tryz.func123 Tryz.call123<|
 Zc Tryz.func124 Tryz.call124<|
 Zc Tryz.func125 Tryz.call125<|
 Zc Tryz.func126 Tryz.call126<|
 Zc Tryz.func76 Tryz.call76<|
 Zc Tryz.func130 Tryz.call130<|
 Zc Tryz.func131 Tryz.call131<|
 Zc Tryz.func136 Tryz.call136<|
 Zc Tryz.func137 Tryz.call137<|
 Zc Tryz.func138 Tryz.call138<|
 Zc Tryz.func135 Tryz.call135<|
 Zc Tryz.func140 Tryz.call140<|
 Zc Tryz.func141 Tryz.call141<|
 Zc Tryz.func142 Tryz.call142<|
 Zc Tryz.func143 Tryz.call143<|
 Zc Tryz.func144 Tryz.call144<|
 Zc Tryz.func145 Tryz.call145<|
 Zc Tryz.func146 Tryz.call146<|
 Zc Tryz.func147 Tryz.call147<|
 Zc Tryz.func148 Tryz.call148<|
 Zc Tryz.func149 Tryz.call149<|
 Zc Tryz.func150 Tryz.call150<|
 Zc Tryz.func151 Tryz.call151<|
 Zc Tryz.func152 Tryz.call152<|
 Zc Tryz.func133 Tryz.call133<|
 Zc Tryz.func134 Tryz.call134<|
 Zc Tryz.func155 Tryz.call155<|
 Zc Tryz.func132 Tryz.call132<|
 Zc Tryz.func156 Tryz.call156<|
 Zc Tryz.func157 Tryz.call157<|
 Zc Tryz.func158 Tryz.call158<|
 Zc Tryz.func165 Tryz.call165<|
 Zc Tryz.func139 Tryz.call139<|
 Zc Tryz.func166 Tryz.call166<|
 Zc Tryz.func167 Tryz.call167<|
 Zc Tryz.func169 Tryz.call169<|
 Zc Tryz.func168 Tryz.call168<|
 Zc Tryz.func170 Tryz.call170<|
 Zc Tryz.func171 Tryz.call171<|
 Zc Tryz.func172 Tryz.call172<|
 Zc Tryz.func173 Tryz.call173<|
 Zc Tryz.func174 Tryz.call174<|
 Zc Tryz.func182 Tryz.call182<|
 Zc Tryz.func188 Tryz.call188<|
 Zc Tryz.func186 Tryz.call186<|
 Zc Tryz.func189 Tryz.call189<|
 Zc Tryz.func206 Tryz.call206<|
 Zc Tryz.func208 Tryz.call208<|
 Zc Tryz.func209 Tryz.call209<|
 Zc Tryz.func222 Tryz.call222<|
 ZuZ
def Zza:List (Nat×List Nat):=[(25,[0,0]),(32,[1,0,0,0,0,0,0,0,0,0,0,0,0,2]),(48,[0,0,1]),(75,[1,1,0,0,1,0,0,1,0,0,1,0,0,1,0,0,1,0,0,1,0,0,1])]
theorem ZxP:ZmR Tryz.prog Zza:=
 Zc9 (ZdO (d:=8) (by kernel_rfl) (by kernel_rfl) (fun w=>by simp[isAgg,run_underlying Tryz.underlying25]) (i:=(Tryz.prog.info? 25).get (by kernel_rfl)) (by kernel_rfl) (by kernel_rfl) (by kernel_rfl))<|
 Zc9 (ZdO (d:=8) (by kernel_rfl) (by kernel_rfl) (fun w=>by simp[isAgg,run_underlying Tryz.underlying32]) (i:=(Tryz.prog.info? 32).get (by kernel_rfl)) (by kernel_rfl) (by kernel_rfl) (by kernel_rfl))<|
 Zc9 (ZdO (d:=8) (by kernel_rfl) (by kernel_rfl) (fun w=>by simp[isAgg,run_underlying Tryz.underlying48]) (i:=(Tryz.prog.info? 48).get (by kernel_rfl)) (by kernel_rfl) (by kernel_rfl) (by kernel_rfl))<|
 Zc9 (ZdO (d:=8) (by kernel_rfl) (by kernel_rfl) (fun w=>by simp[isAgg,run_underlying Tryz.underlying75]) (i:=(Tryz.prog.info? 75).get (by kernel_rfl)) (by kernel_rfl) (by kernel_rfl) (by kernel_rfl))<|
 Zva
def ZvO:List (Nat×IntKind):=[(3,Go.IntKind.i64),(5,Go.IntKind.u8),(170,Go.IntKind.u64),(189,Go.IntKind.u32)]
theorem ZvP:Zjx Tryz.prog ZvO:=
 ZbB Tryz.underlying3<|
 ZbB Tryz.underlying5<|
 ZbB Tryz.underlying170<|
 ZbB Tryz.underlying189<|
 Zsu
def ZvQ:List (Nat×FloatKind):=[(157,Go.FloatKind.f64)]
theorem ZvR:Zj2 Tryz.prog ZvQ:=
 Zq9 Tryz.underlying157<|
 Zs0
theorem ZvS:Zvf Tryz.prog []:=
 Zs1
noncomputable def Zzb:Nat→List PV→Option PV:=fun _ _=>none
theorem ZxQ:ZyQ Tryz.prog Zzb:=Zvg
noncomputable def evEnv:Env:=⟨YL,Zza,[4],ZvO,ZvQ,[],ZyZ,[49,50,51,52,107,109,110,155],[],Zzb,[69],[127],[(72,5)],[]⟩
theorem ZxR:ZmS Tryz.prog [127]:=
 Zs5 (ZzD (ρ:=Tryz.lays105_ren) {Tryz.lays105 with} Tryz.Builder_Extra_105.toX72 rfl Tryz.call127)<|
 Zvl
theorem ZvT:Zh7 Tryz.prog [(72,5)]:=
 Zo1 (Zvk (ρ:=Tryz.lays105_ren) {Tryz.lays105 with} Tryz.Builder_Extra_105 Tryz.call72)<|
 ZqA
theorem Zta:∀T,has T [4]=true→Tryz.prog.underlying T=some .bool:=by
 intro T h
 have h:=Xj.1 h
 simp only[Q9_,List.not_mem_nil,or_false] at h
 subst h;exact Tryz.underlying4
theorem Zo:EnvOk Tryz.prog evEnv:=⟨ZxN,by kernel_rfl,ZxP,Zta,ZvP,ZvR,ZvS,ZxQ,ZxR,ZvT,ZxO⟩
end Go.Proofs.YtgfgjabeooohhaaGreatDoor
namespace Go.Men
open Go.Ev Go.Proofs Go.Proofs.YtgfgjabeooohhaaGreatDoor
def e86:Ent:=fun l_=>EA cI (fun n=>EZ (.v (.bool (inB n))) []) l_ []
def Z0O:Ent:=fun l_=>EA cI (fun n=>EZ (.v (.bool (inB n))) []) l_ []
def e40:Ent:=fun l_=>EA cIv (fun a=>EZ (.v (.bool (right a))) []) l_ []
def e83:Ent:=fun l_=>EA cIv (fun a=>EZ (.v (.bool (right a))) []) l_ []
def e65:Ent:=fun l_=>EZ (.agg (Iv.enc none')) [] l_ []
def e98:Ent:=fun l_=>EZ (.agg (Iv.enc none')) [] l_ []
def e84:Ent:=fun l_=>EA cI (fun lo=>EA cI (fun hi=>EZ (.agg (Iv.enc (of lo hi))) [])) l_ []
def Z2D:Ent:=fun l_=>EA cI (fun lo=>EA cI (fun hi=>EZ (.agg (Iv.enc (of lo hi))) [])) l_ []
def e60:Ent:=fun l_=>EA cI (fun n=>EZ (.agg (Iv.enc (point n))) []) l_ []
def e88:Ent:=fun l_=>EA cI (fun n=>EZ (.agg (Iv.enc (point n))) []) l_ []
def Z2E:Ent:=fun l_=>EA cI (fun a=>EA cI (fun b=>EZ (.v (.int .i64 (floor a b))) [-4611686018427387904≤a∧a≤4611686018427387904])) l_ []
def Z2F:Ent:=fun l_=>EA cI (fun a=>EA cI (fun b=>EZ (.v (.int .i64 (floor a b))) [-4611686018427387904≤a∧a≤4611686018427387904])) l_ []
def e85:Ent:=fun l_=>EA cIv (fun a=>EA cIv (fun b=>EZ (.v (.bool (both a b))) [])) l_ []
def e67:Ent:=fun l_=>EA cIv (fun a=>EZ (.agg (Iv.enc (neg a))) []) l_ []
def Z0P:Ent:=fun l_=>EA cIv (fun a=>EZ (.agg (Iv.enc (neg a))) []) l_ []
def e37:Ent:=fun l_=>EA cIv (fun a=>EA cIv (fun b=>EZ (.agg (Iv.enc (add a b))) [])) l_ []
def e91:Ent:=fun l_=>EA cIv (fun a=>EA cIv (fun b=>EZ (.agg (Iv.enc (add a b))) [])) l_ []
def e27:Ent:=fun l_=>EA cIv (fun a=>EA cIv (fun b=>EZ (.agg (Iv.enc (sub a b))) [])) l_ []
def e58:Ent:=fun l_=>EA cIv (fun a=>EA cIv (fun b=>EZ (.agg (Iv.enc (sub a b))) [])) l_ []
def Z2G:Ent:=fun l_=>EA cIv (fun a=>EA cI (fun n=>EZ (.v (.bool (has a n))) [])) l_ []
def Z2H:Ent:=fun l_=>EA cI (fun a=>EA cI (fun b=>EA cB (fun up=>EZ (.tup [.v (.int .i64 ((rounded a b up).1)),.v (.bool ((rounded a b up).2))]) [-4611686018427387904≤a∧a≤4611686018427387904,b≠0]))) l_ []
def Z2I:Ent:=fun l_=>EA cI (fun a=>EA cI (fun b=>EZ (.v (.int .i64 (up1 a b))) [-4611686018427387904≤a∧a≤4611686018427387904,-4611686018427387904≤b∧b≤4611686018427387904,b≠0])) l_ []
def Z0Q:Ent:=fun l_=>EA cI (fun n=>EZ (.tup [.v (.int .i64 ((told n).1)),.v (.bool ((told n).2))]) []) l_ []
def Z2J:Ent:=fun l_=>EA cI (fun a=>EA cI (fun b=>EA cB (fun up=>EZ (.tup [.v (.int .i64 ((mul a b up).1)),.v (.bool ((mul a b up).2))]) []))) l_ []
def Z2K:Ent:=fun l_=>EA cI (fun a=>EA cI (fun b=>EA cB (fun up=>EZ (.tup [.v (.int .i64 ((mul a b up).1)),.v (.bool ((mul a b up).2))]) []))) l_ []
def Z2L:Ent:=fun l_=>EA cI (fun a=>EA cI (fun b=>EA cB (fun up=>EZ (.tup [.v (.int .i64 ((div a b up).1)),.v (.bool ((div a b up).2))]) []))) l_ []
def Z2M:Ent:=fun l_=>EA cI (fun a=>EA cI (fun b=>EA cB (fun up=>EZ (.tup [.v (.int .i64 ((div a b up).1)),.v (.bool ((div a b up).2))]) []))) l_ []
def Zlt:Ent
 | [.fn 126 [],.agg [.v (.int .i64 p1),.v (.int .i64 p2),.v (.bool p3)],.agg [.v (.int .i64 p4),.v (.int .i64 p5),.v (.bool p6)]]=>some (.agg (Iv.enc (ends mul (⟨p1,p2,p3⟩:Iv) (⟨p4,p5,p6⟩:Iv))),[])
 | _=>none
def Zlu:Ent
 | [.fn 123 [],.agg [.v (.int .i64 p1),.v (.int .i64 p2),.v (.bool p3)],.agg [.v (.int .i64 p4),.v (.int .i64 p5),.v (.bool p6)]]=>some (.agg (Iv.enc (ends div (⟨p1,p2,p3⟩:Iv) (⟨p4,p5,p6⟩:Iv))),[])
 | _=>none
def Z2N:Ent:=eOr Zlt (Zlu)
def Zi5:Ent
 | [.agg [.v (.int .i64 p1),.v (.int .i64 p2),.v (.bool p3)],.agg [.v (.int .i64 p4),.v (.int .i64 p5),.v (.bool p6)],.v (.bool false)]=>some (.agg (Iv.enc (ends mul (⟨p1,p2,p3⟩:Iv) (⟨p4,p5,p6⟩:Iv))),[])
 | _=>none
def Zi6:Ent
 | [.agg [.v (.int .i64 p1),.v (.int .i64 p2),.v (.bool p3)],.agg [.v (.int .i64 p4),.v (.int .i64 p5),.v (.bool p6)],.v (.bool true)]=>some (.agg (Iv.enc (ends div (⟨p1,p2,p3⟩:Iv) (⟨p4,p5,p6⟩:Iv))),[])
 | _=>none
def Z2O:Ent:=eOr Zi5 (Zi6)
def Z2P:Ent:=fun l_=>EA cI (fun a=>EA cB (fun up=>EZ (.tup [.v (.int .i64 ((root a up).1)),.v (.bool ((root a up).2))]) [])) l_ []
def Z2Q:Ent:=fun l_=>EA cI (fun a=>EA cB (fun up=>EZ (.tup [.v (.int .i64 ((root a up).1)),.v (.bool ((root a up).2))]) [])) l_ []
def Z2R:Ent:=fun l_=>EA cI (fun n=>EZ (.v (.int .i64 (Z2 n))) [0≤n∧n≤18]) l_ []
def e47:Ent:=fun l_=>EA cI (fun n=>EZ (.v (.int .i64 (Z2 n))) [0≤n∧n≤18]) l_ []
def e66:Ent:=fun l_=>EA cIv (fun a=>EA cIv (fun b=>EZ (.agg (Iv.enc (Ye a b))) [])) l_ []
def Z0R:Ent:=fun l_=>EA cIv (fun a=>EA cIv (fun b=>EZ (.agg (Iv.enc (Ye a b))) [])) l_ []
def e63:Ent:=fun l_=>EA cIv (fun a=>EA cIv (fun b=>EZ (.agg (Iv.enc (Z8 a b))) [])) l_ []
def e93:Ent:=fun l_=>EA cIv (fun a=>EA cIv (fun b=>EZ (.agg (Iv.enc (Z8 a b))) [])) l_ []
def Z2S:Ent:=fun l_=>EA cIv (fun a=>EZ (.agg (Iv.enc (sqr a))) []) l_ []
def e92:Ent:=fun l_=>EA cIv (fun a=>EZ (.agg (Iv.enc (sqr a))) []) l_ []
def e68:Ent:=fun l_=>EA cIv (fun a=>EA cI (fun k=>EZ (.agg (Iv.enc (times a k))) [])) l_ []
def Z0S:Ent:=fun l_=>EA cIv (fun a=>EA cI (fun k=>EZ (.agg (Iv.enc (times a k))) [])) l_ []
def Z2T:Ent:=fun l_=>EA cIv (fun a=>EZ (.agg (Iv.enc (Wz a))) []) l_ []
def Z2U:Ent:=fun l_=>EA cIv (fun a=>EZ (.agg (Iv.enc (Wz a))) []) l_ []
def Z2V:Ent:=fun l_=>EA WR (fun d=>EZ (.v (.bool (ZA d))) []) l_ []
def e46:Ent:=fun l_=>EA WR (fun d=>EZ (.v (.bool (ZA d))) []) l_ []
def e59:Ent:=fun l_=>EA WR (fun d=>EZ (.agg (Iv.enc (Zg d))) []) l_ []
def e89:Ent:=fun l_=>EA WR (fun d=>EZ (.agg (Iv.enc (Zg d))) []) l_ []
def e54:Ent:=fun l_=>EA cI (fun n=>EA cI (fun low=>EA cI (fun high=>EZ (.v (.int .i64 (within n low high))) []))) l_ []
def e12:Ent:=fun l_=>EA cI (fun n=>EA cI (fun m=>EZ (.v (.int .i64 (pick n m))) [0 < m∧m≤4611686018427387904])) l_ []
def e55:Ent:=fun l_=>EA cI (fun n=>EZ (.v (.int .i64 (num n))) []) l_ []
def e17:Ent:=fun l_=>EA cI (fun x=>EA cI (fun w=>EZ (.agg (Iv.enc (wide x w))) [0≤w∧w≤1073741824])) l_ []
def e18:Ent:=fun l_=>EA cI (fun n=>EA cI (fun w=>EZ (.agg (Iv.enc (ZeB n w))) [])) l_ []
def e11:Ent:=fun l_=>EA cI (fun c=>EA cI (fun scale=>EZ (.agg (Dec.enc (hdec scale.toNat c scale))) [0≤scale∧scale≤18])) l_ []
def Z0T:Ent:=fun l_=>EA cU (fun c=>EZ (.v (.bool (Y3 c))) []) l_ []
def Z2W:Ent:=fun l_=>EA cU (fun c=>EZ (.v (.bool (Xb c))) []) l_ []
def Z0U:Ent:=fun l_=>EA cU (fun c=>EZ (.v (.bool (Z5 c))) []) l_ []
def Z0V:Ent:=fun l_=>EA cS (fun s=>EZ (.v (.bool (Yy s))) []) l_ []
def e45:Ent:=fun l_=>EA cI (fun n=>EZ (.str (digits n)) [-1000000000000000000≤n∧n≤1000000000000000000]) l_ []
def e13:Ent:=fun l_=>EA WR (fun d=>EZ (.str (Wb d)) []) l_ []
def Z0W:Ent:=fun l_=>EA WR (fun d=>EZ (.v (.bool (printable d))) []) l_ []
def Z0X:Ent:=fun l_=>EA WR (fun d=>EZ (.v (.bool (decide (d.c > 0)))) []) l_ []
def e90:Ent:=fun l_=>EA WR (fun d=>EZ (.v (.bool (Yf d))) []) l_ []
def Z2X:Ent:=fun l_=>EA WR (fun d=>EZ (.agg (Dec.enc (ZcA d))) []) l_ []
def Z2Y:Ent:=fun l_=>EA WR (fun a=>EA WR (fun b=>EZ (.v (.bool (Ya a b))) [])) l_ []
def e94:Ent:=fun l_=>EA (cL Glass.enc Glass.dec) (fun l=>EA cS (fun n=>EZ (.tup [.agg (Glass.enc ((ZC l n).1)),.v (.bool ((ZC l n).2))]) [l.length≤140737488355328])) l_ []
def e95:Ent:=fun l_=>EA (cG Glass.enc Glass.dec) (fun g=>EA cIv (fun w=>EZ (.agg (Iv.enc (W1 g w))) [])) l_ []
def e57:Ent:=fun l_=>EA cI (fun k=>EZ (.agg (Iv.enc (Zy k))) []) l_ []
def e53:Ent:=fun l_=>EA (cL Face.enc Face.dec) (fun l=>EZ (.v (.bool (YO l))) [l.length≤140737488355328]) l_ []
def Z0Y:Ent:=fun l_=>EA (cG Face.enc Face.dec) (fun f=>EA (cL Glass.enc Glass.dec) (fun g=>EZ (.v (.bool (YF f g))) [g.length≤140737488355328])) l_ []
def e87:Ent:=fun l_=>EA (cG LensM.enc LensM.dec) (fun l=>EA (cL Glass.enc Glass.dec) (fun g=>EZ (.v (.bool (Xm l g))) [g.length≤140737488355328])) l_ []
def e96:Ent:=fun l_=>EA (cG SysM.enc SysM.dec) (fun s=>EZ (.v (.bool (WQ s))) [s.surfs.length≤140737488355328]) l_ []
def e41:Ent:=fun l_=>EA (cG LensM.enc LensM.dec) (fun l=>EA (cL Glass.enc Glass.dec) (fun g=>EA cIv (fun w=>EZ (.tup [.agg (SysM.enc ((Yb l g w).1)),.v (.int .i64 ((Yb l g w).2))]) [g.length≤140737488355328]))) l_ []
def e10:Ent:=fun l_=>EA (cL I.enc I.dec) (fun l=>EZ (.lst ((ZT l).map Glass.enc)) [l.length≤140737488355328]) l_ []
def e16:Ent:=fun l_=>EA cI (fun back=>EA (cL RawFace.enc RawFace.dec) (fun l=>EA (cL Glass.enc Glass.dec) (fun g=>EA cI (fun most=>EZ (.agg (LensM.enc (YP back l g most))) [l.length≤140737488355328∧g.length≤1000∧most≤1000])))) l_ []
def Z2Z:Ent:=fun l_=>EA cS (fun s=>EA cS (fun c=>EZ (.str (ZjS s c)) [s.length≤4000000000∧c.length≤4000000000,Zad c=true])) l_ []
def Z3a:Ent:=fun l_=>EA cS (fun s=>EA cS (fun c=>EZ (.str (ZaR s c)) [s.length≤4000000000∧c.length≤4000000000,Zad c=true])) l_ []
def Z3b:Ent:=fun l_=>EA cS (fun s=>EZ (.tup [.v (.int .i64 ((ZbG s,()).1)),.v .nilIface]) [ZoP s]) l_ []
def Z3c:Ent:=fun l_=>EA cS (fun s=>EA cI (fun n=>EZ (.str (Zlo s n)) [0≤n∧n≤4000000000∧s.length *n.toNat≤4000000000])) l_ []
def Z3d:Ent:=fun l_=>EA cS (fun s=>EA cU (fun c=>EZ (.v (.int .i64 (ixM c s))) [])) l_ []
def Z3e:Ent:=fun l_=>EA cI (fun n=>EZ (.str (digits n)) [-1000000000000000000≤n∧n≤1000000000000000000]) l_ []
def Z3f:Ent:=fun l_=>EA cS (fun s=>EA cU (fun c=>EZ (.v (.int .i64 (ixM c s))) [])) l_ []
def Z3g:Ent:=fun l_=>EA cS (fun s=>EA cS (fun p=>EZ (.v (.bool (J3 s p))) [])) l_ []
def Z3h:Ent:=fun l_=>EA cS (fun s=>EA cS (fun p=>EZ (.tup [.str ((ZW s p).1),.v (.bool ((ZW s p).2))]) [])) l_ []
def Z3i:Ent:=fun l_=>EA cS (fun s=>EA cS (fun p=>EZ (.tup [.str ((ZW s p).1),.v (.bool ((ZW s p).2))]) [])) l_ []
def Z0Z:Ent
 | [.str p1,.str [46]]=>some (.v (.int .i64 (ixM 46 p1)),[])
 | _=>none
def Z1a:Ent
 | [.str p1,.str [46]]=>some (.tup [.str ((ZU p1).1),.str ((ZU p1).2.1),.v (.bool ((ZU p1).2.2))],[p1.length≤4000000000])
 | _=>none
def Z1b:Ent
 | [.str p1,.str [46]]=>some (.tup [.str ((ZU p1).1),.str ((ZU p1).2.1),.v (.bool ((ZU p1).2.2))],[p1.length≤4000000000])
 | _=>none
def Z3j:Ent:=fun l_=>EA cS (fun s=>EA cI (fun n=>EZ (.v (.bool (figs s n))) [s.length≤4000000000])) l_ []
def Z1c:Ent:=fun l_=>EA cU (fun c=>EZ (.v (.bool (Y3 c))) []) l_ []
def Z1d:Ent:=fun l_=>EA cU (fun c=>EZ (.v (.bool (Xb c))) []) l_ []
def Z1e:Ent:=fun l_=>EA cU (fun c=>EZ (.v (.bool (Z5 c))) []) l_ []
def Z1f:Ent:=fun l_=>EA cU (fun c=>EZ (.v (.bool (Zu c))) []) l_ []
def Z1g:Ent:=fun l_=>EA cU (fun c=>EZ (.v (.bool (XA c))) []) l_ []
def e99:Ent:=fun l_=>EA cI (fun a=>EA cI (fun b=>EZ (.v (.complex .f64 (Yz a b).re (Yz a b).im)) [])) l_ []
def Zi7:Ent
 | [.str p1,.v (.int .i64 p2),.fn 103 []]=>some (.v (.int .i64 (Zl XA p1 (p2+1))),[0≤p2∧p2 < p1.length∧p1.length≤4000])
 | _=>none
def ZgK:Ent
 | [.str p1,.v (.int .i64 p2),.fn 104 []]=>some (.v (.int .i64 (Zl Z5 p1 (p2+1))),[0≤p2∧p2 < p1.length∧p1.length≤4000])
 | _=>none
def Zi8:Ent
 | [.str p1,.v (.int .i64 p2),.fn 105 []]=>some (.v (.int .i64 (Zl Zu p1 (p2+1))),[0≤p2∧p2 < p1.length∧p1.length≤4000])
 | _=>none
def Z1h:Ent:=eOr Zi7 (eOr ZgK (Zi8))
def Z1i:Ent:=fun l_=>EA cS (fun s=>EZ (.tup [.agg (Dec.enc ((XY s).1)),.v (.bool ((XY s).2))]) [s.length≤4000]) l_ []
def e48:Ent:=fun l_=>EA cS (fun s=>EZ (.tup [.lst (((tokens s).1).map Tok.enc),.v (.complex .f64 ((tokens s).2.1).re ((tokens s).2.1).im),.v (.int .i64 ((tokens s).2.2))]) []) l_ []
def Z3k:Ent:=fun l_=>EA WR (fun a=>EA WR (fun b=>EZ (.v (.bool (Ya a b))) [])) l_ []
def e70:Ent:=fun l_=>EA WR (fun d=>EZ (.str (Wb d)) []) l_ []
def e71:Ent:=fun l_=>EZ (.agg (Dec.enc zeroDec)) [] l_ []
def Z3l:Ent:=fun l_=>EA WR (fun d=>EZ (.v (.bool (printable d))) []) l_ []
def e79:Ent:=fun l_=>EA WR (fun d=>EZ (.v (.bool (Jc d))) []) l_ []
def Z3m:Ent:=fun l_=>EA WR (fun d=>EZ (.v (.bool (Ya d zeroDec))) []) l_ []
def Z3n:Ent:=fun l_=>EA WR (fun a=>EA WR (fun b=>EZ (.v (.bool (ZjT a b))) [])) l_ []
def e78:Ent:=fun l_=>EA cS (fun s=>EZ (.v (.bool (Zcf s))) []) l_ []
def Z3o:Ent:=fun l_=>EA (cL Glass.enc Glass.dec) (fun l=>EA cS (fun n=>EZ (.tup [.agg (Glass.enc ((ZC l n).1)),.v (.bool ((ZC l n).2))]) [l.length≤140737488355328])) l_ []
def Z3p:Ent:=fun l_=>EA cS (fun n=>EA (cL Glass.enc Glass.dec) (fun g=>EZ (.v (.bool (ZgI n g))) [g.length≤140737488355328])) l_ []
def e76:Ent:=fun l_=>EA (cG Face.enc Face.dec) (fun f=>EA (cL Glass.enc Glass.dec) (fun g=>EZ (.v (.bool (Yc f g))) [g.length≤140737488355328])) l_ []
def e75:Ent:=fun l_=>EA (cG Face.enc Face.dec) (fun f=>EA (cP GL.enc GL.dec) (fun g=>EZ (.v (.bool (!Yc f g.g))) [g.g.length≤140737488355328])) l_ []
def e77:Ent:=fun l_=>EA (cG Face.enc Face.dec) (fun f=>EZ (.v (.bool (!f.stop))) []) l_ []
def ZoU:Ent
 | [.lst p1,.fn 75 [.lptr p2 0]]=>some (.v (.int .i64 (X3 (fun f=> !Yc f (GL.dec p2).g) (Zf Face.dec p1) 0)),[p1=(Zf Face.dec p1).map Face.enc,p2=GL.enc (GL.dec p2),(Zf Face.dec p1).length≤140737488355328∧(GL.dec p2).g.length≤140737488355328])
 | _=>none
def ZoV:Ent
 | [.lst p1,.fn 77 []]=>some (.v (.int .i64 (X3 (fun f=> !f.stop) (Zf Face.dec p1) 0)),[p1=(Zf Face.dec p1).map Face.enc,(Zf Face.dec p1).length≤140737488355328])
 | _=>none
def Z3q:Ent:=eOr ZoU (ZoV)
def ZoW:Ent
 | [.lst p1,.fn 75 [.lptr p2 0]]=>some (.v (.bool ((Zf Face.dec p1).any (fun f=> !Yc f (GL.dec p2).g))),[p1=(Zf Face.dec p1).map Face.enc,p2=GL.enc (GL.dec p2),(Zf Face.dec p1).length≤140737488355328∧(GL.dec p2).g.length≤140737488355328])
 | _=>none
def ZoX:Ent
 | [.lst p1,.fn 77 []]=>some (.v (.bool ((Zf Face.dec p1).any (fun f=> !f.stop))),[p1=(Zf Face.dec p1).map Face.enc,(Zf Face.dec p1).length≤140737488355328])
 | _=>none
def e74:Ent:=eOr ZoW (ZoX)
def e30:Ent:=fun l_=>EA (cG LensM.enc LensM.dec) (fun l=>EA (cL Glass.enc Glass.dec) (fun g=>EZ (.v (.bool (XP l g))) [g.length≤140737488355328∧l.faces.length≤140737488355328])) l_ []
def e25:Ent:=fun l_=>EA cI (fun k=>EZ (.agg (Iv.enc (Zy k))) []) l_ []
def Z3r:Ent:=fun l_=>EA (cG Glass.enc Glass.dec) (fun g=>EA cIv (fun w=>EZ (.agg (Iv.enc (W1 g w))) [])) l_ []
def e62:Ent:=fun l_=>EA cS (fun n=>EA (cL Glass.enc Glass.dec) (fun g=>EA cIv (fun w=>EZ (.agg (Iv.enc (Zdn n g w))) [g.length≤140737488355328]))) l_ []
def e61:Ent:=fun l_=>EA (cG Face.enc Face.dec) (fun f=>EZ (.agg (Surf.enc (ZaT f ZjP (point 65536)))) []) l_ []
def Z1j:Ent:=fun l_=>EA cIv (fun a=>EZ (.v (.bool a.no)) []) l_ []
def Z1k:Ent
 | [.lst p1,.fn 125 []]=>some (.v (.int .i64 (X3 (fun f=>f.no) (Zf Iv.dec p1) 0)),[p1=(Zf Iv.dec p1).map Iv.enc,(Zf Iv.dec p1).length≤140737488355328])
 | _=>none
def Z1l:Ent
 | [.lst p1,.fn 125 []]=>some (.v (.bool ((Zf Iv.dec p1).any (fun f=>f.no))),[p1=(Zf Iv.dec p1).map Iv.enc,(Zf Iv.dec p1).length≤140737488355328])
 | _=>none
def e64:Ent:=fun l_=>EA (cG Surf.enc Surf.dec) (fun s=>EZ (.v (.bool (Xn s))) []) l_ []
def e24:Ent:=fun l_=>EA (cG LensM.enc LensM.dec) (fun l=>EA (cL Glass.enc Glass.dec) (fun g=>EA cIv (fun w=>EZ (.tup [.agg (SysM.enc ((ZX l g w).1)),.v (.int .i64 ((ZX l g w).2))]) [g.length≤140737488355328∧l.faces.length≤140737488355328]))) l_ []
def e9:Ent:=fun l_=>EA cI (fun back=>EA (cL RawFace.enc RawFace.dec) (fun l=>EA (cL I.enc I.dec) (fun raw=>EA cI (fun a=>EA cI (fun b=>EA cI (fun lack=>EA cB (fun tame=>EZ (.v (.bool true)) [l.length≤140737488355328∧raw.length≤140737488355328]))))))) l_ []
def e26:Ent:=fun l_=>EA (cG SysM.enc SysM.dec) (fun s=>EZ (.agg (Card.enc (parax s))) [s.surfs.length≤1000]) l_ []
def e56:Ent:=fun l_=>EA (cG SysM.enc SysM.dec) (fun s=>EZ (.agg (Card.enc (parax s))) [s.surfs.length≤1000]) l_ []
def e19:Ent:=fun l_=>EA (cG LensM.enc LensM.dec) (fun l=>EA (cL Glass.enc Glass.dec) (fun g=>EA (cL Iv.enc Iv.dec) (fun ws=>EZ (.tup [.lst (((YJ l g ws).1).map Iv.enc),.v (.int .i64 ((YJ l g ws).2))]) [g.length≤140737488355328∧l.faces.length≤140737488355328∧ws.length≤1000000]))) l_ []
def e20:Ent:=fun l_=>EA (cG LensM.enc LensM.dec) (fun l=>EA (cL Glass.enc Glass.dec) (fun g=>EA (cL Iv.enc Iv.dec) (fun ws=>EZ (.tup [.lst (((YK l g ws).1).map Iv.enc),.v (.int .i64 ((YK l g ws).2))]) [g.length≤140737488355328∧l.faces.length≤140737488355328∧ws.length≤1000000]))) l_ []
def e21:Ent:=fun l_=>EA (cG LensM.enc LensM.dec) (fun l=>EA (cL Glass.enc Glass.dec) (fun g=>EZ (.tup [.agg (Iv.enc ((Jl l g).1)),.v (.int .i64 ((Jl l g).2))]) [g.length≤140737488355328∧l.faces.length≤140737488355328])) l_ []
def e22:Ent:=fun l_=>EA (cG LensM.enc LensM.dec) (fun l=>EA (cL Glass.enc Glass.dec) (fun g=>EZ (.tup [.agg (Iv.enc ((W4 l g).1)),.v (.int .i64 ((W4 l g).2))]) [g.length≤140737488355328∧l.faces.length≤140737488355328])) l_ []
def e23:Ent:=fun l_=>EZ (.v (.bool true)) [] l_ []
def e4:Ent:=fun l_=>EA cI (fun back=>EA (cL RawFace.enc RawFace.dec) (fun l=>EA (cL I.enc I.dec) (fun raw=>EA (cL I.enc I.dec) (fun waves=>EA cI (fun lack=>EZ (.v (.bool true)) [l.length≤140737488355328∧raw.length≤140737488355328∧waves.length≤140737488355328]))))) l_ []
theorem cf0{C:ZZ}(hC:CSOk Tryz.prog C){f:Nat}{fn:Func}(hf:lk f evEnv.fns=some fn){args:List PV}{X:PV}(h:sxF evEnv C Zg2 Zg3 noG [] 2000 fn args (Qn X)):Con Tryz.prog f args X:=Zi4 Zo hC ZJ ZK ZQ hf Zig h
theorem cfL{C:ZZ}(hC:CSOk Tryz.prog C){f:Nat}{fn:Func}{LS:List (Nat×LSum)}(hL:ZN Tryz.prog LS fn)(hf:lk f evEnv.fns=some fn){args:List PV}{X:PV}(h:sxF evEnv C Zg2 Zg3 noG LS 2000 fn args (Qn X)):Con Tryz.prog f args X:=Zi4 Zo hC ZJ ZK ZQ hf hL h
abbrev Zi9(R_:Type):=Int→Int→Int→Bool→R_
def ZxS:Zi9 St:=fun bit n r up=>⟨44,[(8,pI bit),(6,pI n),(7,pI r),(1,.p (vB up))],[],[],[],[]⟩
def ZoY:KpH:=⟨⟨[8,6,7,1],[],[]⟩,[]⟩
def ZvU:KpH:=⟨⟨[7,6,1],[],[]⟩,[]⟩
abbrev ZvV:KpH:=kr0
def Zdr:Zi9 St:=fun bit n r up=>⟨44,[(7,.p (.v (.int .i64 (ZP (bit+1).toNat n r)))),(6,.p (.v (.int .i64 n))),(1,.p (.v (.bool up)))],[],[],[],[]⟩
def Zb1:Zi9 Prop:=fun bit n r up=>(-1≤bit∧bit≤24)∧(0≤n∧n≤140737488355328)∧(0≤r∧r+2 ^ (bit+1).toNat≤33554432)∧((2:Int) ^ (bit+1).toNat∣r)
def ZoZ:LSum:=LSg YL 44 (fT 8 cI<|fT 6 cI<|fT 7 cI<|fT 1 cB<|fZ) [] [] ZoY (V4 Zb1) fun y K=>K (.exit 0) (V4 Zdr y)
abbrev ZgL(R_:Type):=Int→Int→Int→Bool→R_
def ZvW:ZgL St:=fun bit n r up=>⟨48,[(8,pI bit),(6,pI n),(7,pI r),(1,.p (vB up))],[],[],[],[]⟩
def ZlY:KpH:=⟨⟨[8,6,7,1],[],[]⟩,[]⟩
def Ztb:KpH:=⟨⟨[7,6,1],[],[]⟩,[]⟩
abbrev Ztc:KpH:=kr0
def Zcg:ZgL St:=fun bit n r up=>⟨48,[(7,.p (.v (.int .i64 (ZP (bit+1).toNat n r)))),(6,.p (.v (.int .i64 n))),(1,.p (.v (.bool up)))],[],[],[],[]⟩
def Za7:ZgL Prop:=fun bit n r up=>(-1≤bit∧bit≤24)∧(0≤n∧n≤140737488355328)∧(0≤r∧r+2 ^ (bit+1).toNat≤33554432)
def ZlZ:LSum:=LSg YL 48 (fT 8 cI<|fT 6 cI<|fT 7 cI<|fT 1 cB<|fZ) [] [] ZlY (V4 Za7) fun y K=>K (.exit 0) (V4 Zcg y)
abbrev ZgM(R_:Type):=Int→Int→Int→R_
def ZvX:ZgM St:=fun i out n=>⟨11,[(5,pI i),(3,pI out),(4,pI n)],[],[],[],[]⟩
def Zma:KpH:=⟨⟨[5,3,4],[],[]⟩,[]⟩
def Ztd:KpH:=⟨⟨[3],[],[]⟩,[]⟩
abbrev Zte:KpH:=kr0
def Zmb:ZgM St:=fun i out n=>⟨11,[(3,.p (.v (.int .i64 (Z2 n))))],[],[],[],[]⟩
def Zch:ZgM Prop:=fun i out n=>(0≤i)∧(i≤n)∧(n≤18)∧(out=Z2 i)
def Zmc:LSum:=LSg YL 11 (fT 5 cI<|fT 3 cI<|fT 4 cI<|fZ) [] [] Zma (V3 Zch) fun y K=>K (.exit 0) (V3 Zmb y)
abbrev Zlv(R_:Type):=Int→Int→R_
def Z0a:Zlv St:=fun k out=>⟨11,[(0,pI k),(3,pI out)],[],[],[],[]⟩
def ZrR:KpH:=⟨⟨[0,3],[],[]⟩,[]⟩
def ZxT:KpH:=⟨⟨[3],[],[]⟩,[]⟩
abbrev ZxU:KpH:=kr0
def ZhJ:Zlv St:=fun k out=>⟨11,[(3,.p (.v (.int .i64 (out *Z2 k))))],[],[],[],[]⟩
def ZhK:Zlv Prop:=fun k out=>(0≤k∧k≤18)∧(1≤out∧out *Z2 k≤1000000000000000000)
def ZrS:LSum:=LSg YL 11 (fT 0 cI<|fT 3 cI<|fZ) [] [] ZrR (V2 ZhK) fun y K=>K (.exit 0) (V2 ZhJ y)
abbrev ZiA(R_:Type):=Dec→Dec→R_
def ZxV:ZiA St:=fun d z=>⟨27,[(5,.ptr 5 0),(4,.ptr 4 0)],[(5,Dec.enc d),(4,Dec.enc z)],[],[],[]⟩
def Zpa:KpH:=⟨⟨[5,4],[5,4],[]⟩,[]⟩
def ZvY:KpH:=⟨⟨[4,5],[4,5],[]⟩,[]⟩
abbrev ZvZ:KpH:=kr0
def Zds:ZiA St:=fun d z=>⟨27,[(4,.ptr 4 0),(5,.ptr 5 0)],[(4,[.v (.int .i64 z.c),.v (.int .i64 z.scale)]),(5,[.v (.int .i64 ((hdec d.scale.toNat d.c d.scale).c)),.v (.int .i64 ((hdec d.scale.toNat d.c d.scale).scale))])],[],[],[]⟩
def Zdt:ZiA Prop:=fun d z=>(0≤d.scale∧d.scale≤18)
def Zpb:LSum:=LSg YL 27 (fP 5 5 0<|fP 4 4 0<|fb 5 Dec.enc ZoT Zlq<|fb 4 Dec.enc ZoT Zlq<|fZ) [] [] Zpa (V2 Zdt) fun y K=>K (.exit 0) (V2 Zds y)
abbrev ZaU(R_:Type):=Int→(List UInt8)→R_
def Ztf:ZaU St:=fun i s=>⟨29,[(3,pI i),(0,.p (.str s))],[],[],[],[]⟩
def ZjW:KpH:=⟨⟨[3,0],[],[]⟩,[]⟩
def ZqH:KpH:=⟨⟨[],[],[]⟩,[]⟩
def ZqI:KpH:=⟨⟨[2],[],[]⟩,[]⟩
def Zfx:ZaU St:=fun i s=>⟨29,[],[],[],[],[]⟩
def Zfy:ZaU St:=fun i s=>⟨29,[(2,.p (.v (.bool false)))],[],[],[],[]⟩
def JL:ZaU Prop:=fun i s=>(0≤i∧i≤s.length∧s.length≤20)
def WS:ZaU Bool:=fun i s=> !((s.drop i.toNat).all Zfu)
def ZjX:LSum:=LSg YL 29 (fT 3 cI<|fT 0 cS<|fZ) [] [] ZjW (V2 JL) fun y K=>bif V2 WS y then K .ret (V2 Zfy y) else K (.exit 0) (V2 Zfx y)
abbrev Jd(R_:Type):=Int→(List Glass)→(List UInt8)→Glass→R_
def Zm4:Jd St:=fun i l n z=>⟨25,[(4,.ptr 4 0),(6,pI i),(0,.p (.lst (l.map Glass.enc))),(1,.p (.str n))],[(4,Glass.enc z)],[],[],[]⟩
def ZfO:KpH:=⟨⟨[4,6,0,1],[4],[]⟩,[]⟩
def Zlw:KpH:=⟨⟨[4],[4],[]⟩,[]⟩
def Zlx:KpH:=⟨⟨[4,5],[4],[]⟩,[]⟩
def Zcz:Jd St:=fun i l n z=>⟨25,[(4,.ptr 4 0)],[(4,Glass.enc z)],[],[],[]⟩
def Zc0:Jd St:=fun i l n z=>⟨25,[(4,.ptr 4 0),(5,.p (.v (.bool true)))],[(4,Glass.enc ((ZC (l.drop i.toNat) n).1))],[],[],[]⟩
def Wt:Jd Prop:=fun i l n z=>(0≤i∧i≤l.length∧l.length≤140737488355328)
def Wu:Jd Bool:=fun i l n z=>(ZC (l.drop i.toNat) n).2
def ZfP:LSum:=LSg YL 25 (fP 4 4 0<|fT 6 cI<|fT 0 (cL Glass.enc Glass.dec)<|fT 1 cS<|fB 4 Glass.enc Glass.dec<|fZ) [] [] ZfO (V4 Wt) fun y K=>bif V4 Wu y then K .ret (V4 Zc0 y) else K (.exit 0) (V4 Zcz y)
abbrev Zci(R_:Type):=Int→(List Face)→R_
def Zwa:Zci St:=fun i l=>⟨16,[(3,pI i),(0,.p (.lst (l.map Face.enc)))],[],[],[],[]⟩
def Zmd:KpH:=⟨⟨[3,0],[],[]⟩,[]⟩
def Ztg:KpH:=⟨⟨[],[],[]⟩,[]⟩
def Zth:KpH:=⟨⟨[2],[],[]⟩,[]⟩
def ZgN:Zci St:=fun i l=>⟨16,[],[],[],[],[]⟩
def ZgO:Zci St:=fun i l=>⟨16,[(2,.p (.v (.bool true)))],[],[],[],[]⟩
def Za8:Zci Prop:=fun i l=>(0≤i∧i≤l.length∧l.length≤140737488355328)
def Za9:Zci Bool:=fun i l=>YO (l.drop i.toNat)
def Zme:LSum:=LSg YL 16 (fT 3 cI<|fT 0 (cL Face.enc Face.dec)<|fZ) [] [] Zmd (V2 Za8) fun y K=>bif V2 Za9 y then K .ret (V2 ZgO y) else K (.exit 0) (V2 ZgN y)
abbrev Je(R_:Type):=Int→Bool→(List Glass)→LensM→R_
def Zm5:Je St:=fun i sm g l=>⟨55,[(6,pI i),(2,.ptr 2 0),(5,.p (vB sm)),(1,.p (.lst (g.map Glass.enc)))],[(2,LensM.enc l)],[],[],[]⟩
def ZfQ:KpH:=⟨⟨[6,2,5,1],[2],[]⟩,[]⟩
def Zly:KpH:=⟨⟨[5],[],[]⟩,[]⟩
def Zlz:KpH:=⟨⟨[4],[],[]⟩,[]⟩
def Zc1:Je St:=fun i sm g l=>⟨55,[(5,.p (.v (.bool (sm||YO (l.faces.drop i.toNat)))))],[],[],[],[]⟩
def Zc2:Je St:=fun i sm g l=>⟨55,[(4,.p (.v (.bool false)))],[],[],[],[]⟩
def Wv:Je Prop:=fun i sm g l=>(0≤i∧i≤l.faces.length∧l.faces.length≤12∧g.length≤140737488355328)
def Ww:Je Bool:=fun i sm g l=> !((l.faces.drop i.toNat).all (YF · g))
def ZfR:LSum:=LSg YL 55 (fT 6 cI<|fP 2 2 0<|fT 5 cB<|fT 1 (cL Glass.enc Glass.dec)<|fB 2 LensM.enc LensM.dec<|fZ) [] [] ZfQ (V4 Wv) fun y K=>bif V4 Ww y then K .ret (V4 Zc2 y) else K (.exit 0) (V4 Zc1 y)
abbrev J5(R_:Type):=Int→SysM→R_
def Zpc:J5 St:=fun i s=>⟨60,[(3,pI i),(1,.ptr 1 0)],[(1,SysM.enc s)],[],[],[]⟩
def ZgP:KpH:=⟨⟨[3,1],[1],[]⟩,[]⟩
def Zm6:KpH:=⟨⟨[1],[1],[]⟩,[]⟩
def Zm7:KpH:=⟨⟨[2],[],[]⟩,[]⟩
def Zdu:J5 St:=fun i s=>⟨60,[(1,.ptr 1 0)],[(1,SysM.enc s)],[],[],[]⟩
def Zdv:J5 St:=fun i s=>⟨60,[(2,.p (.v (.bool false)))],[],[],[],[]⟩
def WH:J5 Prop:=fun i s=>(0≤i∧i≤s.surfs.length∧s.surfs.length≤140737488355328)
def WI:J5 Bool:=fun i s=> !((s.surfs.drop i.toNat).all YG)
def ZgQ:LSum:=LSg YL 60 (fT 3 cI<|fP 1 1 0<|fB 1 SysM.enc SysM.dec<|fZ) [] [] ZgP (V2 WH) fun y K=>bif V2 WI y then K .ret (V2 Zdv y) else K (.exit 0) (V2 Zdu y)
abbrev Zfz(R_:Type):=Int→(List Glass)→SysM→Iv→Iv→Iv→Iv→LensM→SysM→R_
def ZjY:Zfz St:=fun i g s pos ix w one l z=>⟨126,[(12,pI i),(9,.ptr 9 0),(10,.ptr 10 0),(11,.ptr 11 0),(5,.ptr 5 0),(1,.p (.lst (g.map Glass.enc))),(8,.ptr 8 0),(3,.ptr 3 0),(6,.ptr 6 0)],[(9,SysM.enc s),(10,Iv.enc pos),(11,Iv.enc ix),(5,Iv.enc w),(8,Iv.enc one),(3,LensM.enc l),(6,SysM.enc z)],[],[(.b 9 0,75),(.b 6 0,75)],[]⟩
def ZjZ:KpH:=⟨⟨[12,9,10,11,5,1,8,3,6],[9,10,11,5,8,3,6],[.b 9 0,.b 6 0]⟩,[(.b 9 0,75),(.b 6 0,75)]⟩
def ZqJ:KpH:=⟨⟨[6,9],[6,9],[]⟩,[]⟩
abbrev ZqK:KpH:=kr0
def ZcG:Zfz St:=fun i g s pos ix w one l z=>⟨126,[(6,.ptr 6 0),(9,.ptr 9 0)],[(6,SysM.enc z),(9,SysM.enc (⟨s.surfs++YZ g w (l.faces.drop i.toNat) pos ix,s.op⟩))],[],[],[]⟩
def ZaV:Zfz Prop:=fun i g s pos ix w one l z=>(0≤i∧i≤l.faces.length∧l.faces.length≤12∧g.length≤140737488355328∧(s.surfs.length:Int)=i)∧(one=point 65536)
def Zka:LSum:=LSg YL 126 (fT 12 cI<|fP 9 9 0<|fP 10 10 0<|fP 11 11 0<|fP 5 5 0<|fT 1 (cL Glass.enc Glass.dec)<|fP 8 8 0<|fP 3 3 0<|fP 6 6 0<|fB 9 SysM.enc SysM.dec<|fb 10 Iv.enc gIv W2<|fb 11 Iv.enc gIv W2<|fb 5 Iv.enc gIv W2<|fb 8 Iv.enc gIv W2<|fB 3 LensM.enc LensM.dec<|fB 6 SysM.enc SysM.dec<|fZ) [] [(.b 9 0,75),(.b 6 0,75)] ZjZ (V9 ZaV) fun y K=>K (.exit 0) (V9 ZcG y)
abbrev ZaW(R_:Type):=Int→(List Glass)→(List I)→R_
def Zea:ZaW St:=fun i out l=>⟨80,[(4,pI i),(3,.p (.lst (out.map Glass.enc))),(0,.p (.lst (l.map I.enc)))],[],[],[(.t 3,30)],[]⟩
def Zeb:KpH:=⟨⟨[4,3,0],[],[.t 3]⟩,[(.t 3,30)]⟩
def ZiB:KpH:=⟨⟨[3],[],[]⟩,[]⟩
abbrev ZiC:KpH:=kr0
def Jm:ZaW St:=fun i out l=>⟨80,[(3,.p (.lst ((out++Zby (3 - i).toNat l i).map Glass.enc)))],[],[],[],[]⟩
def XF:ZaW Prop:=fun i out l=>(0≤i∧i≤3∧l.length≤140737488355328∧(out.length:Int)=i+2)
def ZaX:LSum:=LSg YL 80 (fT 4 cI<|fT 3 (cL Glass.enc Glass.dec)<|fT 0 (cL I.enc I.dec)<|fZ) [] [(.t 3,30)] Zeb (V3 XF) fun y K=>K (.exit 0) (V3 Jm y)
abbrev Zdw(R_:Type):=Int→(List Glass)→(List RawFace)→Int→LensM→LensM→R_
def ZgR:Zdw St:=fun i g l most u z=>⟨166,[(10,pI i),(9,.ptr 9 0),(2,.p (.lst (g.map Glass.enc))),(1,.p (.lst (l.map RawFace.enc))),(8,.ptr 8 0),(3,pI most)],[(9,LensM.enc u),(8,LensM.enc z)],[],[(.b 9 3,32),(.b 8 3,32)],[]⟩
def ZgS:KpH:=⟨⟨[10,9,2,1,8,3],[9,8],[.b 9 3,.b 8 3]⟩,[(.b 9 3,32),(.b 8 3,32)]⟩
def Zm8:KpH:=⟨⟨[8,9],[8,9],[.b 9 3]⟩,[(.b 9 3,32)]⟩
abbrev Zm9:KpH:=kr0
def J6:Zdw St:=fun i g l most u z=>⟨166,[(8,.ptr 8 0),(9,.ptr 9 0)],[(8,LensM.enc z),(9,LensM.enc (⟨u.name,u.back,X6 g most (l.drop i.toNat) i u.faces⟩))],[],[(.b 9 3,32)],[]⟩
def J7:Zdw Prop:=fun i g l most u z=>(0≤i∧i≤l.length∧l.length≤140737488355328∧g.length≤1000∧most≤1000∧(u.faces.length:Int)≤1000)
def ZgT:LSum:=LSg YL 166 (fT 10 cI<|fP 9 9 0<|fT 2 (cL Glass.enc Glass.dec)<|fT 1 (cL RawFace.enc RawFace.dec)<|fP 8 8 0<|fT 3 cI<|fB 9 LensM.enc LensM.dec<|fB 8 LensM.enc LensM.dec<|fZ) [] [(.b 9 3,32),(.b 8 3,32)] ZgS (V6 J7) fun y K=>K (.exit 0) (V6 J6 y)
abbrev Zf0(R_:Type):=Int→(List UInt8)→R_
def Zti:Zf0 St:=fun i s=>⟨24,[(7,pI i),(0,.p (.str s)),(2,.p (.fn 103 []))],[],[],[],[]⟩
def Zf1:KpH:=⟨⟨[7,0,2],[],[]⟩,[]⟩
def ZqL:KpH:=⟨⟨[7],[],[]⟩,[]⟩
abbrev ZqM:KpH:=kr0
def ZaY:Zf0 St:=fun i s=>⟨24,[(7,.p (.v (.int .i64 (Zl XA s i))))],[],[],[],[]⟩
def JM:Zf0 Prop:=fun i s=>(0≤i∧i≤s.length∧s.length≤4000)
def Zf2:LSum:=fun σ K=>match Jj YL Zf1 σ with
 | some ⟨24,[(7,.p (.v (.int .i64 p1))),(0,.p (.str p2)),(2,.p (.fn 103 []))],[],[],[],[]⟩=>alls [JM p1 p2] (K (.exit 0) (ZaY p1 p2))
 | _=>False
abbrev Zer(R_:Type):=Int→(List UInt8)→R_
def ZqN:Zer St:=fun i s=>⟨24,[(7,pI i),(0,.p (.str s)),(2,.p (.fn 104 []))],[],[],[],[]⟩
def Zes:KpH:=⟨⟨[7,0,2],[],[]⟩,[]⟩
def Zpd:KpH:=⟨⟨[7],[],[]⟩,[]⟩
abbrev Zpe:KpH:=kr0
def Zah:Zer St:=fun i s=>⟨24,[(7,.p (.v (.int .i64 (Zl Z5 s i))))],[],[],[],[]⟩
def Jh:Zer Prop:=fun i s=>(0≤i∧i≤s.length∧s.length≤4000)
def Zet:LSum:=fun σ K=>match Jj YL Zes σ with
 | some ⟨24,[(7,.p (.v (.int .i64 p1))),(0,.p (.str p2)),(2,.p (.fn 104 []))],[],[],[],[]⟩=>alls [Jh p1 p2] (K (.exit 0) (Zah p1 p2))
 | _=>False
abbrev Zf3(R_:Type):=Int→(List UInt8)→R_
def Ztj:Zf3 St:=fun i s=>⟨24,[(7,pI i),(0,.p (.str s)),(2,.p (.fn 105 []))],[],[],[],[]⟩
def Zf4:KpH:=⟨⟨[7,0,2],[],[]⟩,[]⟩
def ZqO:KpH:=⟨⟨[7],[],[]⟩,[]⟩
abbrev ZqP:KpH:=kr0
def ZaZ:Zf3 St:=fun i s=>⟨24,[(7,.p (.v (.int .i64 (Zl Zu s i))))],[],[],[],[]⟩
def JN:Zf3 Prop:=fun i s=>(0≤i∧i≤s.length∧s.length≤4000)
def Zf5:LSum:=fun σ K=>match Jj YL Zf4 σ with
 | some ⟨24,[(7,.p (.v (.int .i64 p1))),(0,.p (.str p2)),(2,.p (.fn 105 []))],[],[],[],[]⟩=>alls [JN p1 p2] (K (.exit 0) (ZaZ p1 p2))
 | _=>False
abbrev Zcj(R_:Type):=Int→(List Glass)→(List UInt8)→Int→Glass→R_
def Zwb:Zcj St:=fun i l n m z=>⟨21,[(4,.ptr 4 0),(10,pI i),(8,.p (.lst (l.map Glass.enc))),(1,.p (.str n)),(9,pI m)],[(4,Glass.enc z)],[],[],[]⟩
def Zmf:KpH:=⟨⟨[4,10,8,1,9],[4],[]⟩,[]⟩
def Ztk:KpH:=⟨⟨[4],[4],[]⟩,[]⟩
def Ztl:KpH:=⟨⟨[4,5],[4],[]⟩,[]⟩
def ZgU:Zcj St:=fun i l n m z=>⟨21,[(4,.ptr 4 0)],[(4,Glass.enc z)],[],[],[]⟩
def ZgV:Zcj St:=fun i l n m z=>⟨21,[(4,.ptr 4 0),(5,.p (.v (.bool true)))],[(4,Glass.enc ((ZC (l.drop i.toNat) n).1))],[],[],[]⟩
def ZaA:Zcj Prop:=fun i l n m z=>(0≤i∧i≤l.length∧l.length≤140737488355328∧m=l.length)
def ZaB:Zcj Bool:=fun i l n m z=>(ZC (l.drop i.toNat) n).2
def Zmg:LSum:=LSg YL 21 (fP 4 4 0<|fT 10 cI<|fT 8 (cL Glass.enc Glass.dec)<|fT 1 cS<|fT 9 cI<|fB 4 Glass.enc Glass.dec<|fZ) [] [] Zmf (V5 ZaA) fun y K=>bif V5 ZaB y then K .ret (V5 ZgV y) else K (.exit 0) (V5 ZgU y)
abbrev Zdx(R_:Type):=Int→(List Face)→GL→Int→R_
def Zpf:Zdx St:=fun i l g m=>⟨19,[(8,pI i),(0,.p (.lst (l.map Face.enc))),(1,.p (.fn 75 [.lptr (GL.enc g) 0])),(7,pI m)],[],[],[],[]⟩
def ZiD:KpH:=⟨⟨[8,0,1,7],[],[]⟩,[]⟩
def Zwc:KpH:=⟨⟨[],[],[]⟩,[]⟩
def Zwd:KpH:=⟨⟨[4],[],[]⟩,[]⟩
def ZiE:Zdx St:=fun i l g m=>⟨19,[],[],[],[],[]⟩
def Zf6:Zdx St:=fun i l g m=>⟨19,[(4,.p (.v (.int .i64 (X3 (fun f=> !Yc f g.g) (l.drop i.toNat) i))))],[],[],[],[]⟩
def Zb2:Zdx Prop:=fun i l g m=>(0≤i∧i≤l.length∧m=l.length∧m≤140737488355328∧g.g.length≤140737488355328)
def J8:Zdx Bool:=fun i l g m=>(l.drop i.toNat).any (fun f=> !Yc f g.g)
def ZiF:LSum:=fun σ K=>match Jj YL ZiD σ with
 | some ⟨19,[(8,.p (.v (.int .i64 p1))),(0,.p (.lst p2)),(1,.p (.fn 75 [.lptr p3 0])),(7,.p (.v (.int .i64 p4)))],[],[],[],[]⟩=>alls [p2=(Zf Face.dec p2).map Face.enc,p3=GL.enc (GL.dec p3),Zb2 p1 (Zf Face.dec p2) (GL.dec p3) p4] (bif J8 p1 (Zf Face.dec p2) (GL.dec p3) p4 then K .ret (Zf6 p1 (Zf Face.dec p2) (GL.dec p3) p4) else (K (.exit 0) (ZiE p1 (Zf Face.dec p2) (GL.dec p3) p4)))
 | _=>False
abbrev Zdy(R_:Type):=Int→(List Face)→Int→R_
def Zpg:Zdy St:=fun i l m=>⟨19,[(8,pI i),(0,.p (.lst (l.map Face.enc))),(1,.p (.fn 77 [])),(7,pI m)],[],[],[],[]⟩
def ZiG:KpH:=⟨⟨[8,0,1,7],[],[]⟩,[]⟩
def Zwe:KpH:=⟨⟨[],[],[]⟩,[]⟩
def Zwf:KpH:=⟨⟨[4],[],[]⟩,[]⟩
def ZiH:Zdy St:=fun i l m=>⟨19,[],[],[],[],[]⟩
def Zf7:Zdy St:=fun i l m=>⟨19,[(4,.p (.v (.int .i64 (X3 (fun f=> !f.stop) (l.drop i.toNat) i))))],[],[],[],[]⟩
def Zb3:Zdy Prop:=fun i l m=>(0≤i∧i≤l.length∧m=l.length∧m≤140737488355328)
def J9:Zdy Bool:=fun i l m=>(l.drop i.toNat).any (fun f=> !f.stop)
def ZiI:LSum:=fun σ K=>match Jj YL ZiG σ with
 | some ⟨19,[(8,.p (.v (.int .i64 p1))),(0,.p (.lst p2)),(1,.p (.fn 77 [])),(7,.p (.v (.int .i64 p3)))],[],[],[],[]⟩=>alls [p2=(Zf Face.dec p2).map Face.enc,Zb3 p1 (Zf Face.dec p2) p3] (bif J9 p1 (Zf Face.dec p2) p3 then K .ret (Zf7 p1 (Zf Face.dec p2) p3) else (K (.exit 0) (ZiH p1 (Zf Face.dec p2) p3)))
 | _=>False
abbrev Zdz(R_:Type):=Int→(List Iv)→Int→R_
def Zph:Zdz St:=fun i l m=>⟨19,[(8,pI i),(0,.p (.lst (l.map Iv.enc))),(1,.p (.fn 125 [])),(7,pI m)],[],[],[],[]⟩
def ZiJ:KpH:=⟨⟨[8,0,1,7],[],[]⟩,[]⟩
def Zwg:KpH:=⟨⟨[],[],[]⟩,[]⟩
def Zwh:KpH:=⟨⟨[4],[],[]⟩,[]⟩
def ZiK:Zdz St:=fun i l m=>⟨19,[],[],[],[],[]⟩
def Zf8:Zdz St:=fun i l m=>⟨19,[(4,.p (.v (.int .i64 (X3 (fun f=>f.no) (l.drop i.toNat) i))))],[],[],[],[]⟩
def Zb4:Zdz Prop:=fun i l m=>(0≤i∧i≤l.length∧m=l.length∧m≤140737488355328)
def JA:Zdz Bool:=fun i l m=>(l.drop i.toNat).any (fun f=>f.no)
def ZiL:LSum:=fun σ K=>match Jj YL ZiJ σ with
 | some ⟨19,[(8,.p (.v (.int .i64 p1))),(0,.p (.lst p2)),(1,.p (.fn 125 [])),(7,.p (.v (.int .i64 p3)))],[],[],[],[]⟩=>alls [p2=(Zf Iv.dec p2).map Iv.enc,Zb4 p1 (Zf Iv.dec p2) p3] (bif JA p1 (Zf Iv.dec p2) p3 then K .ret (Zf8 p1 (Zf Iv.dec p2) p3) else (K (.exit 0) (ZiK p1 (Zf Iv.dec p2) p3)))
 | _=>False
abbrev Zba(R_:Type):=Int→(List Face)→Int→(List Glass)→SysM→Iv→Iv→Iv→SysM→R_
def Zkb:Zba St:=fun i fs m g s pos ix w z=>⟨75,[(34,pI i),(32,.p (.lst (fs.map Face.enc))),(33,pI m),(9,.ptr 9 0),(10,.ptr 10 0),(8,.ptr 8 0),(5,.ptr 5 0),(6,.ptr 6 0),(1,.p (.lst (g.map Glass.enc)))],[(8,SysM.enc s),(10,Iv.enc pos),(9,Iv.enc ix),(5,Iv.enc w),(6,SysM.enc z)],[],[(.b 8 0,75),(.b 6 0,75)],[]⟩
def Zkc:KpH:=⟨⟨[34,32,33,9,10,8,5,6,1],[8,10,9,5,6],[.b 8 0,.b 6 0]⟩,[(.b 8 0,75),(.b 6 0,75)]⟩
def ZqQ:KpH:=⟨⟨[6,8],[6,8],[]⟩,[]⟩
def ZqR:KpH:=⟨⟨[6,7],[6],[]⟩,[]⟩
def ZcH:Zba St:=fun i fs m g s pos ix w z=>⟨75,[(6,.ptr 6 0),(8,.ptr 8 0)],[(6,SysM.enc z),(8,SysM.enc (⟨s.surfs++pGo g w (fs.drop i.toNat) pos ix,s.op⟩))],[],[],[]⟩
def Zkd:Zba St:=fun i fs m g s pos ix w z=>⟨75,[(6,.ptr 6 0),(7,.p (.v (.int .i64 (6))))],[(6,[.nil,.v (.int .i64 0),.v (.int .i64 0),.v (.bool false)])],[],[],[]⟩
def Zbb:Zba Prop:=fun i fs m g s pos ix w z=>(0≤i∧i≤fs.length∧m=fs.length∧fs.length≤12∧g.length≤140737488355328∧(s.surfs.length:Int)=i)
def WT:Zba Bool:=fun i fs m g s pos ix w z=>(pGo g w (fs.drop i.toNat) pos ix).any Xn
def Zke:LSum:=LSg YL 75 (fT 34 cI<|fT 32 (cL Face.enc Face.dec)<|fT 33 cI<|fP 9 9 0<|fP 10 10 0<|fP 8 8 0<|fP 5 5 0<|fP 6 6 0<|fT 1 (cL Glass.enc Glass.dec)<|fB 8 SysM.enc SysM.dec<|fb 10 Iv.enc gIv W2<|fb 9 Iv.enc gIv W2<|fb 5 Iv.enc gIv W2<|fB 6 SysM.enc SysM.dec<|fZ) [] [(.b 8 0,75),(.b 6 0,75)] Zkc (V9 Zbb) fun y K=>bif V9 WT y then K .ret (V9 Zkd y) else K (.exit 0) (V9 ZcH y)
abbrev ZgW(R_:Type):=Int→(List Surf)→Int→SysM→Iv→Iv→Iv→Card→R_
def Zwi:ZgW St:=fun i ss m s y u one z=>⟨78,[(16,pI i),(14,.p (.lst (ss.map Surf.enc))),(15,pI m),(1,.ptr 1 0),(4,.ptr 4 0),(5,.ptr 5 0),(3,.ptr 3 0),(2,.ptr 2 0)],[(1,SysM.enc s),(4,Iv.enc y),(5,Iv.enc u),(3,Iv.enc one),(2,Card.enc z)],[],[],[]⟩
def Zmh:KpH:=⟨⟨[16,14,15,1,4,5,3,2],[1,4,5,3,2],[]⟩,[]⟩
def Ztm:KpH:=⟨⟨[2,1,5,4,3],[2,1,5,4,3],[]⟩,[]⟩
abbrev Ztn:KpH:=kr0
def Zck:ZgW St:=fun i ss m s y u one z=>⟨78,[(2,.ptr 2 0),(1,.ptr 1 0),(5,.ptr 5 0),(4,.ptr 4 0),(3,.ptr 3 0)],[(2,Card.enc z),(1,SysM.enc s),(5,[.v (.int .i64 (((W8 (s.surfs.drop i.toNat) y u).2).lo)),.v (.int .i64 (((W8 (s.surfs.drop i.toNat) y u).2).hi)),.v (.bool (((W8 (s.surfs.drop i.toNat) y u).2).no))]),(4,[.v (.int .i64 (((W8 (s.surfs.drop i.toNat) y u).1).lo)),.v (.int .i64 (((W8 (s.surfs.drop i.toNat) y u).1).hi)),.v (.bool (((W8 (s.surfs.drop i.toNat) y u).1).no))]),(3,[.v (.int .i64 one.lo),.v (.int .i64 one.hi),.v (.bool one.no)])],[],[],[]⟩
def JB:ZgW Prop:=fun i ss m s y u one z=>(0≤i∧i≤s.surfs.length∧s.surfs.length≤1000∧one=point 65536∧m=s.surfs.length∧ss=s.surfs)
def Zmi:LSum:=LSg YL 78 (fT 16 cI<|fT 14 (cL Surf.enc Surf.dec)<|fT 15 cI<|fP 1 1 0<|fP 4 4 0<|fP 5 5 0<|fP 3 3 0<|fP 2 2 0<|fB 1 SysM.enc SysM.dec<|fb 4 Iv.enc gIv W2<|fb 5 Iv.enc gIv W2<|fb 3 Iv.enc gIv W2<|fB 2 Card.enc Card.dec<|fZ) [] [] Zmh (V8 JB) fun y K=>K (.exit 0) (V8 Zck y)
abbrev Zf9(R_:Type):=Int→SysM→Iv→Iv→Iv→Card→R_
def Zto:Zf9 St:=fun i s y u one z=>⟨84,[(6,pI i),(1,.ptr 1 0),(4,.ptr 4 0),(5,.ptr 5 0),(3,.ptr 3 0),(2,.ptr 2 0)],[(1,SysM.enc s),(4,Iv.enc y),(5,Iv.enc u),(3,Iv.enc one),(2,Card.enc z)],[],[],[]⟩
def Zkf:KpH:=⟨⟨[6,1,4,5,3,2],[1,4,5,3,2],[]⟩,[]⟩
def ZqS:KpH:=⟨⟨[2,1,5,4,3],[2,1,5,4,3],[]⟩,[]⟩
abbrev ZqT:KpH:=kr0
def Zbc:Zf9 St:=fun i s y u one z=>⟨84,[(2,.ptr 2 0),(1,.ptr 1 0),(5,.ptr 5 0),(4,.ptr 4 0),(3,.ptr 3 0)],[(2,Card.enc z),(1,SysM.enc s),(5,[.v (.int .i64 (((W8 (s.surfs.drop i.toNat) y u).2).lo)),.v (.int .i64 (((W8 (s.surfs.drop i.toNat) y u).2).hi)),.v (.bool (((W8 (s.surfs.drop i.toNat) y u).2).no))]),(4,[.v (.int .i64 (((W8 (s.surfs.drop i.toNat) y u).1).lo)),.v (.int .i64 (((W8 (s.surfs.drop i.toNat) y u).1).hi)),.v (.bool (((W8 (s.surfs.drop i.toNat) y u).1).no))]),(3,[.v (.int .i64 one.lo),.v (.int .i64 one.hi),.v (.bool one.no)])],[],[],[]⟩
def WU:Zf9 Prop:=fun i s y u one z=>(0≤i∧i≤s.surfs.length∧s.surfs.length≤1000∧one=point 65536)
def Zkg:LSum:=LSg YL 84 (fT 6 cI<|fP 1 1 0<|fP 4 4 0<|fP 5 5 0<|fP 3 3 0<|fP 2 2 0<|fB 1 SysM.enc SysM.dec<|fb 4 Iv.enc gIv W2<|fb 5 Iv.enc gIv W2<|fb 3 Iv.enc gIv W2<|fB 2 Card.enc Card.dec<|fZ) [] [] Zkf (V6 WU) fun y K=>K (.exit 0) (V6 Zbc y)
abbrev Zcl(R_:Type):=Int→(List Iv)→(List Glass)→(List Iv)→Int→LensM→R_
def Zmj:Zcl St:=fun i out g ws m l=>⟨37,[(15,pI i),(8,.p (.lst (out.map Iv.enc))),(1,.p (.lst (g.map Glass.enc))),(3,.ptr 3 0),(13,.p (.lst (ws.map Iv.enc))),(14,pI m)],[(3,LensM.enc l)],[],[(.t 8,48)],[]⟩
def Zmk:KpH:=⟨⟨[15,8,1,3,13,14],[3],[.t 8]⟩,[(.t 8,48)]⟩
def Ztp:KpH:=⟨⟨[8],[],[]⟩,[]⟩
def Ztq:KpH:=⟨⟨[6,7],[],[]⟩,[]⟩
def Zec:Zcl St:=fun i out g ws m l=>⟨37,[(8,.p (.lst ((out++(ws.drop i.toNat).map (Zdo (fun w=>ZX l g w))).map Iv.enc)))],[],[],[],[]⟩
def Zed:Zcl St:=fun i out g ws m l=>⟨37,[(6,.p .nil),(7,.p (.v (.int .i64 (XE (fun w=>ZX l g w) (ws.drop i.toNat)))))],[],[],[],[]⟩
def Zcm:Zcl Prop:=fun i out g ws m l=>(0≤i∧i≤ws.length∧m=ws.length∧ws.length≤1000000∧g.length≤140737488355328∧l.faces.length≤140737488355328∧(out.length:Int)=i)
def JC:Zcl Bool:=fun i out g ws m l=>(!(XE (fun w=>ZX l g w) (ws.drop i.toNat)==0))
def Zml:LSum:=LSg YL 37 (fT 15 cI<|fT 8 (cL Iv.enc Iv.dec)<|fT 1 (cL Glass.enc Glass.dec)<|fP 3 3 0<|fT 13 (cL Iv.enc Iv.dec)<|fT 14 cI<|fB 3 LensM.enc LensM.dec<|fZ) [] [(.t 8,48)] Zmk (V6 Zcm) fun y K=>bif V6 JC y then K .ret (V6 Zed y) else K (.exit 0) (V6 Zec y)
abbrev Zbd(R_:Type):=Int→(List Iv)→(List Iv)→(List Glass)→LensM→R_
def Zkh:Zbd St:=fun i out ws g l=>⟨38,[(9,pI i),(8,.p (.lst (out.map Iv.enc))),(2,.p (.lst (ws.map Iv.enc))),(1,.p (.lst (g.map Glass.enc))),(3,.ptr 3 0)],[(3,LensM.enc l)],[],[(.t 8,48)],[]⟩
def Zki:KpH:=⟨⟨[9,8,2,1,3],[3],[.t 8]⟩,[(.t 8,48)]⟩
def ZqU:KpH:=⟨⟨[8],[],[]⟩,[]⟩
def ZqV:KpH:=⟨⟨[6,7],[],[]⟩,[]⟩
def ZcI:Zbd St:=fun i out ws g l=>⟨38,[(8,.p (.lst ((out++(ws.drop i.toNat).map (Zdo (fun w=>Yb l g w))).map Iv.enc)))],[],[],[],[]⟩
def ZcJ:Zbd St:=fun i out ws g l=>⟨38,[(6,.p .nil),(7,.p (.v (.int .i64 (XE (fun w=>Yb l g w) (ws.drop i.toNat)))))],[],[],[],[]⟩
def Zbe:Zbd Prop:=fun i out ws g l=>(0≤i∧i≤ws.length∧ws.length≤1000000∧g.length≤140737488355328∧l.faces.length≤140737488355328∧(out.length:Int)=i)
def WV:Zbd Bool:=fun i out ws g l=>(!(XE (fun w=>Yb l g w) (ws.drop i.toNat)==0))
def Zkj:LSum:=LSg YL 38 (fT 9 cI<|fT 8 (cL Iv.enc Iv.dec)<|fT 2 (cL Iv.enc Iv.dec)<|fT 1 (cL Glass.enc Glass.dec)<|fP 3 3 0<|fB 3 LensM.enc LensM.dec<|fZ) [] [(.t 8,48)] Zki (V5 Zbe) fun y K=>bif V5 WV y then K .ret (V5 ZcJ y) else K (.exit 0) (V5 ZcI y)
abbrev Zc3(R_:Type):=Int→(List Iv)→(List I)→(List Glass)→LensM→R_
def ZfS:Zc3 St:=fun i out waves g xl=>⟨145,[(14,pI i),(13,.p (.lst (out.map Iv.enc))),(3,.p (.lst (waves.map I.enc))),(11,.p (.lst (g.map Glass.enc))),(12,.ptr 12 0)],[(12,LensM.enc xl)],[],[(.t 13,48)],[]⟩
def ZfT:KpH:=⟨⟨[14,13,3,11,12],[12],[.t 13]⟩,[(.t 13,48)]⟩
def Zl0:KpH:=⟨⟨[11,12,13],[12],[]⟩,[]⟩
abbrev Zl1:KpH:=kr0
def Zao:Zc3 St:=fun i out waves g xl=>⟨145,[(11,.p (.lst (g.map Glass.enc))),(12,.ptr 12 0),(13,.p (.lst ((out++Jg ((11 - i) / 2).toNat waves i).map Iv.enc)))],[(12,LensM.enc xl)],[],[],[]⟩
def XK:Zc3 Prop:=fun i out waves g xl=>(0≤i∧i≤11∧waves.length≤140737488355328∧(out.length:Int)≤i)
def ZfU:LSum:=LSg YL 145 (fT 14 cI<|fT 13 (cL Iv.enc Iv.dec)<|fT 3 (cL I.enc I.dec)<|fT 11 (cL Glass.enc Glass.dec)<|fP 12 12 0<|fB 12 LensM.enc LensM.dec<|fZ) [] [(.t 13,48)] ZfT (V5 XK) fun y K=>K (.exit 0) (V5 Zao y)
abbrev Zb5(R_:Type):=Int→(List Iv)→(List Iv)→Int→R_
def Zl2:Zb5 St:=fun i b a m=>⟨145,[(132,pI i),(18,.p (.lst (b.map Iv.enc))),(16,.p (.lst (a.map Iv.enc))),(131,pI m)],[],[],[],[]⟩
def ZeG:KpH:=⟨⟨[132,18,16,131],[],[]⟩,[]⟩
def Zkk:KpH:=⟨⟨[],[],[]⟩,[]⟩
abbrev Zkl:KpH:=kr0
def ZeH:Zb5 St:=fun i b a m=>⟨145,[],[],[],[],[]⟩
def X9:Zb5 Prop:=fun i b a m=>(0≤i∧i≤a.length∧m=a.length∧a.length≤1000000∧b=a)
def ZeI:LSum:=LSg YL 145 (fT 132 cI<|fT 18 (cL Iv.enc Iv.dec)<|fT 16 (cL Iv.enc Iv.dec)<|fT 131 cI<|fZ) [] [] ZeG (V4 X9) fun y K=>K (.exit 2) (V4 ZeH y)
theorem ZhL:Zj Tryz.prog 86 e86:=Zk<|Zi fun n=>EZ0<|by
 refine cf0 Zh (fn:=Tryz.f86) rfl ?_
 refine sxT (fun Q=>(bif decide (n≥(-1073741824:Int)) then Q (vB (decide (n≤(1073741824:Int)))) else Q (vB false))) (fun _=>by kernel_rfl) ?_
 delta Qn vB
 refine Za (fun h0=>?_) (fun h0=>?_)
 all_goals (try simp only[Qi_,Qf_,bne] at *)
 all_goals (simp only[inB,Zt,Zs,List.foldl,Qr_,Qp_,Ql_,Qn_,Q5_,Q4_,Qw_,Q3_,Qu_,Qt_,Qb_,Qd_,QD_,Q8_, *];first | rfl | (simp only[nz,nzA,nz1,QE_,QN_,Iv.enc,V.enc,Ray.enc, *];first | done | rfl))
theorem ZeJ:Zj Tryz.prog 140 Z0O:=Zk<|Zi fun n=>EZ0<|by
 refine cf0 Zh (fn:=Tryz.f140) rfl ?_
 refine sxT (fun Q=>(bif decide (n≥(-1073741824:Int)) then Q (vB (decide (n≤(1073741824:Int)))) else Q (vB false))) (fun _=>by kernel_rfl) ?_
 delta Qn vB
 refine Za (fun h0=>?_) (fun h0=>?_)
 all_goals (try simp only[Qi_,Qf_,bne] at *)
 all_goals (simp only[inB,Zt,Zs,List.foldl,Qr_,Qp_,Ql_,Qn_,Q5_,Q4_,Qw_,Q3_,Qu_,Qt_,Qb_,Qd_,QD_,Q8_, *];first | rfl | (simp only[nz,nzA,nz1,QE_,QN_,Iv.enc,V.enc,Ray.enc, *];first | done | rfl))
theorem Zwj(a:Iv):Con Tryz.prog 40 [.agg (Iv.enc a)] (.v (.bool (right a))):=by
 refine cf0 (Zb ZhL<|Zh) (fn:=Tryz.f40) rfl ?_
 refine sxT (fun Q=>(bif !a.no then (bif inB a.lo then (bif inB a.hi then Q (vB (decide (a.lo≤a.hi))) else Q (vB false)) else Q (vB false)) else Q (vB false))) (fun _=>by kernel_rfl) ?_
 delta Qn vB
 refine Za (fun h0=>Za (fun h1=>Za (fun h2=>?_) (fun h2=>?_)) (fun h1=>?_)) (fun h0=>?_)
 all_goals (try simp only[Qi_,Qf_,bne] at *)
 all_goals (simp only[right,Zt,Zs,List.foldl,Qr_,Qp_,Ql_,Qn_,Q5_,Q4_,Qw_,Q3_,Qu_,Qt_,Qb_,Qd_,QD_,Q8_, *];first | rfl | (simp only[nz,nzA,nz1,QE_,QN_,Iv.enc,V.enc,Ray.enc, *];first | done | rfl))
theorem Zee:Zj Tryz.prog 40 e40:=Zk<|Zi fun a=>EZ0<|Zwj a
theorem ZbI:Zj Tryz.prog 83 e83:=Zk<|Zi fun a=>EZ0<|by
 refine cf0 (Zb ZeJ<|Zh) (fn:=Tryz.f83) rfl ?_
 refine sxT (fun Q=>(bif !a.no then (bif inB a.lo then (bif inB a.hi then Q (vB (decide (a.lo≤a.hi))) else Q (vB false)) else Q (vB false)) else Q (vB false))) (fun _=>by kernel_rfl) ?_
 delta Qn vB
 refine Za (fun h0=>Za (fun h1=>Za (fun h2=>?_) (fun h2=>?_)) (fun h1=>?_)) (fun h0=>?_)
 all_goals (try simp only[Qi_,Qf_,bne] at *)
 all_goals (simp only[right,Zt,Zs,List.foldl,Qr_,Qp_,Ql_,Qn_,Q5_,Q4_,Qw_,Q3_,Qu_,Qt_,Qb_,Qd_,QD_,Q8_, *];first | rfl | (simp only[nz,nzA,nz1,QE_,QN_,Iv.enc,V.enc,Ray.enc, *];first | done | rfl))
theorem ZxW:Con Tryz.prog 65 [] (.agg (Iv.enc none')):=by
 refine cf0 Zh (fn:=Tryz.f65) rfl ?_
 refine sxT (fun Q=>Q (PV.agg [vI 0,vI 0,vB true])) (fun _=>by kernel_rfl) ?_
 delta Qn vI vB
 refine ?_
 all_goals (try simp only[Qi_,Qf_,bne] at *)
 all_goals rfl
theorem Zap:Zj Tryz.prog 65 e65:=Zk<|EZ0<|ZxW
theorem JO:Zj Tryz.prog 98 e98:=Zk<|EZ0<|by
 refine cf0 Zh (fn:=Tryz.f98) rfl ?_
 refine sxT (fun Q=>Q (PV.agg [vI 0,vI 0,vB true])) (fun _=>by kernel_rfl) ?_
 delta Qn vI vB
 refine ?_
 all_goals (try simp only[Qi_,Qf_,bne] at *)
 all_goals rfl
theorem ZcK:Zj Tryz.prog 84 e84:=Zk<|Zi fun lo=>Zi fun hi=>EZ0<|by
 refine cf0 (Zb Zee<|Zb Zap<|Zh) (fn:=Tryz.f84) rfl ?_
 refine sxT (fun Q=>(bif !right (Iv.mk lo hi false) then Q (PV.agg [vI 0,vI 0,vB true]) else Q (PV.agg [vI lo,vI hi,vB false]))) (fun _=>by kernel_rfl) ?_
 delta Qn vI vB
 refine Za (fun h0=>?_) (fun h0=>?_)
 all_goals (try simp only[Qi_,Qf_,bne] at *)
 all_goals (simp only[of,Zt,Zs,List.foldl,Qr_,Qp_,Ql_,Qn_,Q5_,Q4_,Qw_,Q3_,Qu_,Qt_,Qb_,Qd_,QD_,Q8_, *];first | rfl | (simp only[nz,nzA,nz1,QE_,QN_,Iv.enc,V.enc,Ray.enc, *];first | done | rfl))
theorem Zai:Zj Tryz.prog 114 Z2D:=Zk<|Zi fun lo=>Zi fun hi=>EZ0<|by
 refine cf0 (Zb ZbI<|Zb JO<|Zh) (fn:=Tryz.f114) rfl ?_
 refine sxT (fun Q=>(bif !right (Iv.mk lo hi false) then Q (PV.agg [vI 0,vI 0,vB true]) else Q (PV.agg [vI lo,vI hi,vB false]))) (fun _=>by kernel_rfl) ?_
 delta Qn vI vB
 refine Za (fun h0=>?_) (fun h0=>?_)
 all_goals (try simp only[Qi_,Qf_,bne] at *)
 all_goals (simp only[of,Zt,Zs,List.foldl,Qr_,Qp_,Ql_,Qn_,Q5_,Q4_,Qw_,Q3_,Qu_,Qt_,Qb_,Qd_,QD_,Q8_, *];first | rfl | (simp only[nz,nzA,nz1,QE_,QN_,Iv.enc,V.enc,Ray.enc, *];first | done | rfl))
theorem Zkm:Zj Tryz.prog 60 e60:=Zk<|Zi fun n=>EZ0<|by
 refine cf0 (Zb ZcK<|Zh) (fn:=Tryz.f60) rfl ?_
 refine sxT (fun Q=>Q (PV.agg (eIv (of n n)))) (fun _=>by kernel_rfl) ?_
 delta Qn eIv vI vB
 refine ?_
 all_goals (try simp only[Qi_,Qf_,bne] at *)
 all_goals rfl
theorem Ztr:Zj Tryz.prog 88 e88:=Zk<|Zi fun n=>EZ0<|by
 refine cf0 (Zb Zai<|Zh) (fn:=Tryz.f88) rfl ?_
 refine sxT (fun Q=>Q (PV.agg (eIv (of n n)))) (fun _=>by kernel_rfl) ?_
 delta Qn eIv vI vB
 refine ?_
 all_goals (try simp only[Qi_,Qf_,bne] at *)
 all_goals rfl
theorem Zwk:Zj Tryz.prog 117 Z2E:=Zk<|Zi fun a=>Zi fun b=>EZ1 fun hp0=>by
 refine cf0 Zh (fn:=Tryz.f117) rfl ?_
 refine sxT (fun Q=>(bif b==(0:Int) then Q (vI 0) else ((b≠(0:Int))∧((b≠(0:Int))∧(bif a.tmod b !=(0:Int) then (bif !decide (a < (0:Int))==decide (b < (0:Int)) then Q (vI (IntKind.i64.wrap (IntKind.i64.wrap (a.tdiv b) - (1:Int)))) else Q (vI (IntKind.i64.wrap (a.tdiv b)))) else Q (vI (IntKind.i64.wrap (a.tdiv b)))))))) (fun _=>by kernel_rfl) ?_
 delta Qn vI
 refine Za (fun h0=>?_) (fun h0=>⟨?r1,⟨?r0,Za (fun h1=>Za (fun h2=>?_) (fun h2=>?_)) (fun h1=>?_)⟩⟩)
 case r0|r1=>first | rfl | (simp only[YI,dI,dIv];omega) | (simp[Zf,chunk];done) | (simp only[YI,dI,dIv];done) | (exact Zp (fun _=>rfl) (by omega) (by omega)) | (simp only[Qc_,Qk_] at *;exact Zp (fun _=>rfl) (by omega) (by omega)) | assumption | trivial | (simp_all;done) | omega
 ·simp_all[nz,nzA,floor]
 ·have hw:IntKind.i64.wrap (a.tdiv b)=a.tdiv b:=Ze (by have:=Zay (b:=b) hp0;constructor<;>omega)
  have hb:b≠0:=by simpa using h0
  have e:=ZrG hb (by simpa using h1) (by simpa using h2)
  have hf:=Zdh (b:=b) hp0
  rw[hw,e,Ze (by constructor<;>omega)];rfl
 ·have hw:IntKind.i64.wrap (a.tdiv b)=a.tdiv b:=Ze (by have:=Zay (b:=b) hp0;constructor<;>omega)
  have hb:b≠0:=by simpa using h0
  have e:=ZhC hb (.inr (by simpa using h2))
  rw[hw,e];rfl
 ·have hw:IntKind.i64.wrap (a.tdiv b)=a.tdiv b:=Ze (by have:=Zay (b:=b) hp0;constructor<;>omega)
  have hb:b≠0:=by simpa using h0
  have e:=ZhC hb (.inl (by simpa using h1))
  rw[hw,e];rfl
theorem Zkn:Zj Tryz.prog 145 Z2F:=Zk<|Zi fun a=>Zi fun b=>EZ1 fun hp0=>by
 refine cf0 Zh (fn:=Tryz.f145) rfl ?_
 refine sxT (fun Q=>(bif b==(0:Int) then Q (vI 0) else ((b≠(0:Int))∧((b≠(0:Int))∧(bif a.tmod b !=(0:Int) then (bif !decide (a.tmod b < (0:Int))==decide (b < (0:Int)) then Q (vI (IntKind.i64.wrap (IntKind.i64.wrap (a.tdiv b) - (1:Int)))) else Q (vI (IntKind.i64.wrap (a.tdiv b)))) else Q (vI (IntKind.i64.wrap (a.tdiv b)))))))) (fun _=>by kernel_rfl) ?_
 delta Qn vI
 refine Za (fun h0=>?_) (fun h0=>⟨?r1,⟨?r0,Za (fun h1=>Za (fun h2=>?_) (fun h2=>?_)) (fun h1=>?_)⟩⟩)
 case r0|r1=>first | rfl | (simp only[YI,dI,dIv];omega) | (simp[Zf,chunk];done) | (simp only[YI,dI,dIv];done) | (exact Zp (fun _=>rfl) (by omega) (by omega)) | (simp only[Qc_,Qk_] at *;exact Zp (fun _=>rfl) (by omega) (by omega)) | assumption | trivial | (simp_all;done) | omega
 ·simp_all[nz,nzA,floor]
 ·have hw:IntKind.i64.wrap (a.tdiv b)=a.tdiv b:=Ze (by have:=Zay (b:=b) hp0;constructor<;>omega)
  have hb:b≠0:=by simpa using h0
  rw[ZoF (by simpa using h1)] at h2
  have e:=ZrG hb (by simpa using h1) (by simpa using h2)
  have hf:=Zdh (b:=b) hp0
  rw[hw,e,Ze (by constructor<;>omega)];rfl
 ·have hw:IntKind.i64.wrap (a.tdiv b)=a.tdiv b:=Ze (by have:=Zay (b:=b) hp0;constructor<;>omega)
  have hb:b≠0:=by simpa using h0
  rw[ZoF (by simpa using h1)] at h2
  have e:=ZhC hb (.inr (by simpa using h2))
  rw[hw,e];rfl
 ·have hw:IntKind.i64.wrap (a.tdiv b)=a.tdiv b:=Ze (by have:=Zay (b:=b) hp0;constructor<;>omega)
  have hb:b≠0:=by simpa using h0
  have e:=ZhC hb (.inl (by simpa using h1))
  rw[hw,e];rfl
theorem Zts:Zj Tryz.prog 85 e85:=Zk<|Zi fun a=>Zi fun b=>EZ0<|by
 refine cf0 (Zb Zee<|Zh) (fn:=Tryz.f85) rfl ?_
 refine sxT (fun Q=>(bif right a then Q (vB (right b)) else Q (vB false))) (fun _=>by kernel_rfl) ?_
 delta Qn vB
 refine Za (fun h0=>?_) (fun h0=>?_)
 all_goals (try simp only[Qi_,Qf_,bne] at *)
 all_goals (simp only[both,Zt,Zs,List.foldl,Qr_,Qp_,Ql_,Qn_,Q5_,Q4_,Qw_,Q3_,Qu_,Qt_,Qb_,Qd_,QD_,Q8_, *];first | rfl | (simp only[nz,nzA,nz1,QE_,QN_,Iv.enc,V.enc,Ray.enc, *];first | done | rfl))
theorem Zzc:Zj Tryz.prog 67 e67:=Zk<|Zi fun a=>EZ0<|by
 refine cf0 (Zb Zee<|Zb Zap<|Zb ZcK<|Zh) (fn:=Tryz.f67) rfl ?_
 refine sxT (fun Q=>(bif !right a then Q (PV.agg [vI 0,vI 0,vB true]) else Q (PV.agg (eIv (of (IntKind.i64.wrap ((0:Int) - a.hi)) (IntKind.i64.wrap ((0:Int) - a.lo))))))) (fun _=>by kernel_rfl) ?_
 delta Qn eIv vI vB
 refine Za (fun h0=>?_) (fun h0=>?_)
 ·simp_all[nz,nzA,nz1,neg,none',Iv.enc]
 ·simp only[Qf_] at h0
  have ha:=Xr h0
  rw[Ze (by constructor<;>omega),Ze (by constructor<;>omega)]
  simp[nz,nzA,nz1,neg,h0,Iv.enc]
theorem Z1m:Zj Tryz.prog 112 Z0P:=Zk<|Zi fun a=>EZ0<|by
 refine cf0 (Zb ZbI<|Zb JO<|Zb Zai<|Zh) (fn:=Tryz.f112) rfl ?_
 refine sxT (fun Q=>(bif !right a then Q (PV.agg [vI 0,vI 0,vB true]) else Q (PV.agg (eIv (of (IntKind.i64.wrap ((0:Int) - a.hi)) (IntKind.i64.wrap ((0:Int) - a.lo))))))) (fun _=>by kernel_rfl) ?_
 delta Qn eIv vI vB
 refine Za (fun h0=>?_) (fun h0=>?_)
 ·simp_all[nz,nzA,nz1,neg,none',Iv.enc]
 ·simp only[Qf_] at h0
  have ha:=Xr h0
  rw[Ze (by constructor<;>omega),Ze (by constructor<;>omega)]
  simp[nz,nzA,nz1,neg,h0,Iv.enc]
theorem Z0b(a:Iv)(b:Iv):Con Tryz.prog 37 [.agg (Iv.enc a),.agg (Iv.enc b)] (.agg (Iv.enc (add a b))):=by
 refine cf0 (Zb Zts<|Zb Zap<|Zb ZcK<|Zh) (fn:=Tryz.f37) rfl ?_
 refine sxT (fun Q=>(bif !both a b then Q (PV.agg [vI 0,vI 0,vB true]) else Q (PV.agg (eIv (of (IntKind.i64.wrap (a.lo+b.lo)) (IntKind.i64.wrap (a.hi+b.hi))))))) (fun _=>by kernel_rfl) ?_
 delta Qn eIv vI vB
 refine Za (fun h0=>?_) (fun h0=>?_)
 ·simp_all[nz,nzA,nz1,add,none',Iv.enc]
 ·simp only[Qf_] at h0
  have hb:=Bool.and_eq_true_iff.1 (show (right a&&right b)=true from h0)
  have ha:=Xr hb.1
  have hb:=Xr hb.2
  rw[Ze (by constructor<;>omega),Ze (by constructor<;>omega)]
  simp[nz,nzA,nz1,add,h0,Iv.enc]
theorem Zko:Zj Tryz.prog 37 e37:=Zk<|Zi fun a=>Zi fun b=>EZ0<|Z0b a b
theorem Ztt:Zj Tryz.prog 91 e91:=Zk<|Zi fun a=>Zi fun b=>EZ0<|by
 refine cf0 (Zb ZbI<|Zb JO<|Zb Zai<|Zh) (fn:=Tryz.f91) rfl ?_
 refine sxT (fun Q=>(bif !right a then Q (PV.agg [vI 0,vI 0,vB true]) else (bif !right b then Q (PV.agg [vI 0,vI 0,vB true]) else Q (PV.agg (eIv (of (IntKind.i64.wrap (a.lo+b.lo)) (IntKind.i64.wrap (a.hi+b.hi)))))))) (fun _=>by kernel_rfl) ?_
 delta Qn eIv vI vB
 refine Za (fun h0=>?_) (fun h0=>Za (fun h1=>?_) (fun h1=>?_))
 ·simp_all[nz,nzA,nz1,add,both,none',Iv.enc]
 ·simp_all[nz,nzA,nz1,add,both,none',Iv.enc]
 ·simp only[Qf_] at h0 h1
  have ha:=Xr h0
  have hb:=Xr h1
  rw[Ze (by constructor<;>omega),Ze (by constructor<;>omega)]
  simp[nz,nzA,nz1,add,both,h0,h1,Iv.enc]
theorem Ztu:Zj Tryz.prog 27 e27:=Zk<|Zi fun a=>Zi fun b=>EZ0<|by
 refine cf0 (Zb Zzc<|Zb Zko<|Zh) (fn:=Tryz.f27) rfl ?_
 refine sxT (fun Q=>Q (PV.agg (eIv (add a (neg b))))) (fun _=>by kernel_rfl) ?_
 delta Qn eIv vI vB
 refine ?_
 all_goals (try simp only[Qi_,Qf_,bne] at *)
 all_goals rfl
theorem Ztv:Zj Tryz.prog 58 e58:=Zk<|Zi fun a=>Zi fun b=>EZ0<|by
 refine cf0 (Zb ZbI<|Zb JO<|Zb Zai<|Zh) (fn:=Tryz.f58) rfl ?_
 refine sxT (fun Q=>(bif !right a then Q (PV.agg [vI 0,vI 0,vB true]) else (bif !right b then Q (PV.agg [vI 0,vI 0,vB true]) else Q (PV.agg (eIv (of (IntKind.i64.wrap (a.lo - b.hi)) (IntKind.i64.wrap (a.hi - b.lo)))))))) (fun _=>by kernel_rfl) ?_
 delta Qn eIv vI vB
 refine Za (fun h0=>?_) (fun h0=>Za (fun h1=>?_) (fun h1=>?_))
 all_goals rw[Z0B]
 ·simp_all[nz,nzA,nz1,both,none',Iv.enc]
 ·simp_all[nz,nzA,nz1,both,none',Iv.enc]
 ·simp only[Qf_] at h0 h1
  have ha:=Xr h0
  have hb:=Xr h1
  rw[Ze (by constructor<;>omega),Ze (by constructor<;>omega)]
  simp[nz,nzA,nz1,both,h0,h1,Iv.enc]
theorem Z1n:Zj Tryz.prog 121 Z2G:=Zk<|Zi fun a=>Zi fun n=>EZ0<|by
 refine cf0 (Zb Zee<|Zh) (fn:=Tryz.f121) rfl ?_
 refine sxT (fun Q=>(bif right a then (bif decide (a.lo≤n) then Q (vB (decide (n≤a.hi))) else Q (vB false)) else Q (vB false))) (fun _=>by kernel_rfl) ?_
 delta Qn vB
 refine Za (fun h0=>Za (fun h1=>?_) (fun h1=>?_)) (fun h0=>?_)
 all_goals (try simp only[Qi_,Qf_,bne] at *)
 all_goals (simp only[has,Zt,Zs,List.foldl,Qr_,Qp_,Ql_,Qn_,Q5_,Q4_,Qw_,Q3_,Qu_,Qt_,Qb_,Qd_,QD_,Q8_, *];first | rfl | (simp only[nz,nzA,nz1,QE_,QN_,Iv.enc,V.enc,Ray.enc, *];first | done | rfl))
theorem Zwl:Zj Tryz.prog 157 Z2H:=Zk<|Zi fun a=>Zi fun b=>Zi fun up=>EZ2 fun hp0 hp1=>by
 refine cf0 (Zb Zwk<|Zb ZhL<|Zh) (fn:=Tryz.f157) rfl ?_
 refine sxT (fun Q=>(((-4611686018427387904:Int)≤a∧a≤(4611686018427387904:Int))∧(bif up then ((b≠(0:Int))∧(bif a.tmod b !=(0:Int) then (bif !inB (IntKind.i64.wrap (floor a b+(1:Int))) then Q (PV.tup [vI 0,vB false]) else Q (PV.tup [vI (IntKind.i64.wrap (floor a b+(1:Int))),vB true])) else (bif !inB (floor a b) then Q (PV.tup [vI 0,vB false]) else Q (PV.tup [vI (floor a b),vB true])))) else (bif !inB (floor a b) then Q (PV.tup [vI 0,vB false]) else Q (PV.tup [vI (floor a b),vB true]))))) (fun _=>by kernel_rfl) ?_
 delta Qn vI vB
 refine ⟨?r1,Za (fun h0=>⟨?r0,Za (fun h1=>Za (fun h2=>?_) (fun h2=>?_)) (fun h1=>Za (fun h2=>?_) (fun h2=>?_))⟩) (fun h0=>Za (fun h1=>?_) (fun h1=>?_))⟩
 case r0|r1=>first | rfl | (simp only[YI,dI,dIv];omega) | (simp[Zf,chunk];done) | (simp only[YI,dI,dIv];done) | (exact Zp (fun _=>rfl) (by omega) (by omega)) | (simp only[Qc_,Qk_] at *;exact Zp (fun _=>rfl) (by omega) (by omega)) | assumption | trivial | (simp_all;done) | omega
 all_goals have hf:=Zdh (b:=b) hp0
 all_goals try have hm:a % b≠0:=by rw[bne_iff_ne,Ne,ZlU] at h1;exact h1
 all_goals try have hm:a % b=0:=by rw[bne_eq_false_iff_eq,ZlU] at h1;exact h1
 all_goals try rw[Ze (show Fit (floor a b+1) by unfold floor;constructor<;>omega)] at *
 all_goals simp_all[nz,nzA,rounded,up1,floor]
theorem Zpi:Zj Tryz.prog 146 Z2I:=Zk<|Zi fun a=>Zi fun b=>EZ3 fun hp0 hp1 hp2=>by
 refine cf0 (Zb Zkn<|Zh) (fn:=Tryz.f146) rfl ?_
 refine sxT (fun Q=>(((-4611686018427387904:Int)≤a∧a≤(4611686018427387904:Int))∧(bif IntKind.i64.wrap (floor a b *b)!=a then Q (vI (IntKind.i64.wrap (floor a b+(1:Int)))) else Q (vI (floor a b))))) (fun _=>by kernel_rfl) ?_
 delta Qn vI
 refine ⟨?r0,Za (fun h0=>?_) (fun h0=>?_)⟩
 case r0=>first | rfl | (simp only[YI,dI,dIv];omega) | (simp[Zf,chunk];done) | (simp only[YI,dI,dIv];done) | (exact Zp (fun _=>rfl) (by omega) (by omega)) | (simp only[Qc_,Qk_] at *;exact Zp (fun _=>rfl) (by omega) (by omega)) | assumption | trivial | (simp_all;done) | omega
 all_goals have hf:=Zdh (b:=b) hp0
 all_goals rw[Ze (show Fit (floor a b *b) from ZoH hp2 hp0 hp1)] at h0
 ·have hm:¬a % b=0:=by rw[bne_iff_ne,Ne,floor,ZoG hp2] at h0;exact h0
  rw[Ze (show Fit (floor a b+1) by unfold floor;constructor<;>omega)]
  simp[nz,nzA,up1,floor,hm]
 ·have hm:a % b=0:=by rw[bne_eq_false_iff_eq,floor,ZoG hp2] at h0;exact h0
  simp[nz,nzA,up1,floor,hm]
theorem Zpj:Zj Tryz.prog 170 Z0Q:=Zk<|Zi fun n=>EZ0<|by
 refine cf0 (Zb ZeJ<|Zh) (fn:=Tryz.f170) rfl ?_
 refine sxT (fun Q=>(bif !inB n then Q (PV.tup [vI 0,vB false]) else Q (PV.tup [vI n,vB true]))) (fun _=>by kernel_rfl) ?_
 delta Qn vI vB
 refine Za (fun h0=>?_) (fun h0=>?_)
 all_goals (try simp only[Qi_,Qf_,bne] at *)
 all_goals (simp only[told,Zt,Zs,List.foldl,Qr_,Qp_,Ql_,Qn_,Q5_,Q4_,Qw_,Q3_,Qu_,Qt_,Qb_,Qd_,QD_,Q8_, *];first | rfl | (simp only[nz,nzA,nz1,QE_,QN_,Iv.enc,V.enc,Ray.enc, *];first | done | rfl))
theorem Zpk:Zj Tryz.prog 126 Z2J:=Zk<|Zi fun a=>Zi fun b=>Zi fun up=>EZ0<|by
 refine cf0 (Zb ZhL<|Zb Zwl<|Zh) (fn:=Tryz.f126) rfl ?_
 refine sxT (fun Q=>(bif !inB a then Q (PV.tup [vI 0,vB false]) else (bif !inB b then Q (PV.tup [vI 0,vB false]) else (((-4611686018427387904:Int)≤IntKind.i64.wrap (a *b)∧IntKind.i64.wrap (a *b)≤(4611686018427387904:Int))∧(((65536:Int)≠(0:Int))∧Q (PV.tup [vI (rounded (IntKind.i64.wrap (a *b)) (65536:Int) up).fst,vB (rounded (IntKind.i64.wrap (a *b)) (65536:Int) up).snd])))))) (fun _=>by kernel_rfl) ?_
 delta Qn vI vB
 refine Za (fun h0=>?_) (fun h0=>Za (fun h1=>?_) (fun h1=>⟨?_,⟨?_, ?_⟩⟩))
 ·simp_all[nz,nzA,mul]
 ·simp_all[nz,nzA,mul]
 all_goals simp only[Qf_] at h0 h1
 all_goals have hw:IntKind.i64.wrap (a *b)=a *b:=Ze (by have:=Za6 h0 h1;constructor<;>omega)
 ·rw[hw];have:=Za6 h0 h1;omega
 ·simp
 ·simp[nz,nzA,mul,hw,h0,h1]
def ZxX(a:Int)(b:Int):=(-4611686018427387904:Int)≤IntKind.i64.wrap (a *b)∧IntKind.i64.wrap (a *b)≤(4611686018427387904:Int)
theorem Zpl:Zj Tryz.prog 147 Z2K:=Zk<|Zi fun a=>Zi fun b=>Zi fun up=>EZ0<|by
 refine cf0 (Zb ZeJ<|Zb Zpi<|Zb Zpj<|Zb Zkn<|Zh) (fn:=Tryz.f147) rfl ?_
 refine sxT (fun Q=>(bif !inB a then Q (PV.tup [vI 0,vB false]) else (bif !inB b then Q (PV.tup [vI 0,vB false]) else (bif up then ((ZxX a b)∧(((-4611686018427387904:Int)≤(65536:Int)∧(65536:Int)≤(4611686018427387904:Int))∧(((65536:Int)≠(0:Int))∧Q (PV.tup [vI (told (up1 (IntKind.i64.wrap (a *b)) (65536:Int))).fst,vB (told (up1 (IntKind.i64.wrap (a *b)) (65536:Int))).snd])))) else ((ZxX a b)∧Q (PV.tup [vI (told (floor (IntKind.i64.wrap (a *b)) (65536:Int))).fst,vB (told (floor (IntKind.i64.wrap (a *b)) (65536:Int))).snd])))))) (fun _=>by kernel_rfl) ?_
 delta Qn ZxX vI vB
 refine Za (fun h0=>?_) (fun h0=>Za (fun h1=>?_) (fun h1=>Za (fun h2=>⟨?_,⟨?_,⟨?_, ?_⟩⟩⟩) (fun h2=>⟨?_, ?_⟩)))
 ·simp_all[nz,nzA,mul]
 ·simp_all[nz,nzA,mul]
 all_goals simp only[Qf_] at h0 h1
 all_goals have hw:IntKind.i64.wrap (a *b)=a *b:=Ze (by have:=Za6 h0 h1;constructor<;>omega)
 all_goals have hm:=Za6 h0 h1
 ·rw[hw];omega
 ·simp
 ·simp
 ·simp[nz,nzA,mul,rounded,told,hw,h0,h1,h2]
 ·rw[hw];omega
 ·simp[nz,nzA,mul,rounded,told,floor,hw,h0,h1,h2]
theorem Zwm:Zj Tryz.prog 123 Z2L:=Zk<|Zi fun a=>Zi fun b=>Zi fun up=>EZ0<|by
 refine cf0 (Zb ZhL<|Zb Zwl<|Zh) (fn:=Tryz.f123) rfl ?_
 refine sxT (fun Q=>(bif !inB a then Q (PV.tup [vI 0,vB false]) else (bif !inB b then Q (PV.tup [vI 0,vB false]) else (bif b==(0:Int) then Q (PV.tup [vI 0,vB false]) else (((-4611686018427387904:Int)≤IntKind.i64.wrap (a * (65536:Int))∧IntKind.i64.wrap (a * (65536:Int))≤(4611686018427387904:Int))∧((b≠(0:Int))∧Q (PV.tup [vI (rounded (IntKind.i64.wrap (a * (65536:Int))) b up).fst,vB (rounded (IntKind.i64.wrap (a * (65536:Int))) b up).snd]))))))) (fun _=>by kernel_rfl) ?_
 delta Qn vI vB
 refine Za (fun h0=>?_) (fun h0=>Za (fun h1=>?_) (fun h1=>Za (fun h2=>?_) (fun h2=>⟨?_,⟨?_, ?_⟩⟩)))
 ·simp_all[nz,nzA,div]
 ·simp_all[nz,nzA,div]
 ·simp_all[nz,nzA,div]
 all_goals simp only[Qf_] at h0 h1
 all_goals have ha:=ZO.1 h0
 all_goals have hw:IntKind.i64.wrap (a *65536)=a *65536:=Ze (by constructor<;>omega)
 ·rw[hw];omega
 ·simpa using h2
 ·simp_all[nz,nzA,div]
def ZxY(a:Int):=(-4611686018427387904:Int)≤IntKind.i64.wrap (a * (65536:Int))∧IntKind.i64.wrap (a * (65536:Int))≤(4611686018427387904:Int)
def Zpm(a:Int):=IntKind.i64.wrap (a * (65536:Int))
theorem Zwn:Zj Tryz.prog 171 Z2M:=Zk<|Zi fun a=>Zi fun b=>Zi fun up=>EZ0<|by
 refine cf0 (Zb ZeJ<|Zb Zpi<|Zb Zpj<|Zb Zkn<|Zh) (fn:=Tryz.f171) rfl ?_
 refine sxT (fun Q=>(bif !inB a then Q (PV.tup [vI 0,vB false]) else (bif !inB b then Q (PV.tup [vI 0,vB false]) else (bif b==(0:Int) then Q (PV.tup [vI 0,vB false]) else (bif up then ((ZxY a)∧(((-4611686018427387904:Int)≤b∧b≤(4611686018427387904:Int))∧((b≠(0:Int))∧Q (PV.tup [vI (told (up1 (Zpm a) b)).fst,vB (told (up1 (Zpm a) b)).snd])))) else ((ZxY a)∧Q (PV.tup [vI (told (floor (Zpm a) b)).fst,vB (told (floor (Zpm a) b)).snd]))))))) (fun _=>by kernel_rfl) ?_
 delta Qn ZxY Zpm vI vB
 refine Za (fun h0=>?_) (fun h0=>Za (fun h1=>?_) (fun h1=>Za (fun h2=>?_) (fun h2=>Za (fun h3=>⟨?_,⟨?_,⟨?_, ?_⟩⟩⟩) (fun h3=>⟨?_, ?_⟩))))
 ·simp_all[nz,nzA,div]
 ·simp_all[nz,nzA,div]
 ·simp_all[nz,nzA,div]
 all_goals simp only[Qf_] at h0 h1
 all_goals have ha:=ZO.1 h0
 all_goals have hb:=ZO.1 h1
 all_goals have hw:IntKind.i64.wrap (a *65536)=a *65536:=Ze (by constructor<;>omega)
 ·rw[hw];omega
 ·omega
 ·simpa using h2
 ·simp_all[nz,nzA,div,rounded,told]
 ·rw[hw];omega
 ·simp_all[nz,nzA,div,rounded,told,floor]
def ZxZ(a:Iv)(b:Iv):=of (List.foldl imin (of (mul a.lo b.lo false).fst (mul a.lo b.lo true).fst).lo [(mul a.lo b.lo false).fst]) (List.foldl imax (of (mul a.lo b.lo false).fst (mul a.lo b.lo true).fst).hi [(mul a.lo b.lo true).fst])
def Zya(a:Iv)(b:Iv):=of (List.foldl imin (ZxZ a b).lo [(mul a.lo b.hi false).fst]) (List.foldl imax (ZxZ a b).hi [(mul a.lo b.hi true).fst])
def ZfA:=PV.agg [vI 0,vI 0,vB true]
def Zyb(a:Iv)(b:Iv):=of (List.foldl imin (Zya a b).lo [(mul a.hi b.lo false).fst]) (List.foldl imax (Zya a b).hi [(mul a.hi b.lo true).fst])
theorem Zwo(a:Iv)(b:Iv):Con Tryz.prog 122 [.fn 126 [],.agg (Iv.enc a),.agg (Iv.enc b)] (.agg (Iv.enc (ends mul a b))):=by
 refine cf0 (Zb Zap<|Zb ZcK<|Zb Zpk<|Zh) (fn:=Tryz.f122) rfl ?_
 refine sxT (fun Q=>(bif !(mul a.lo b.lo false).snd then Q ZfA else (bif !(mul a.lo b.lo true).snd then Q ZfA else (bif !(mul a.lo b.hi false).snd then Q ZfA else (bif !(mul a.lo b.hi true).snd then Q ZfA else (bif !(mul a.hi b.lo false).snd then Q ZfA else (bif !(mul a.hi b.lo true).snd then Q ZfA else (bif !(mul a.hi b.hi false).snd then Q ZfA else (bif !(mul a.hi b.hi true).snd then Q ZfA else Q (PV.agg (eIv (of (List.foldl imin (Zyb a b).lo [(mul a.hi b.hi false).fst]) (List.foldl imax (Zyb a b).hi [(mul a.hi b.hi true).fst]))))))))))))) (fun _=>by kernel_rfl) ?_
 delta Qn Zya ZxZ ZfA Zyb eIv vI vB
 refine Za (fun h0=>?_) (fun h0=>Za (fun h1=>?_) (fun h1=>Za (fun h2=>?_) (fun h2=>Za (fun h3=>?_) (fun h3=>Za (fun h4=>?_) (fun h4=>Za (fun h5=>?_) (fun h5=>Za (fun h6=>?_) (fun h6=>Za (fun h7=>?_) (fun h7=>?_))))))))
 all_goals simp only[Qi_,Qf_] at *
 all_goals first | exact Kk_ (fun e=>PV.agg (Iv.enc e)) (ZhD (by simp[*])) | exact Kk_ (fun e=>PV.agg (Iv.enc e)) (ZjM ZxA h0 h1 h2 h3 h4 h5 h6 h7)
theorem Zwp:Zj Tryz.prog 122 Zlt:=by
 intro args r ps h hp
 unfold Zlt at h
 split at h
 ·rename_i p1 p2 p3 p4 p5 p6
  cases (Qa_ h)
  exact Zwo (⟨p1,p2,p3⟩:Iv) (⟨p4,p5,p6⟩:Iv)
 ·exact absurd h (by simp)
def Zyc(a:Iv)(b:Iv):=of (List.foldl imin (of (div a.lo b.lo false).fst (div a.lo b.lo true).fst).lo [(div a.lo b.lo false).fst]) (List.foldl imax (of (div a.lo b.lo false).fst (div a.lo b.lo true).fst).hi [(div a.lo b.lo true).fst])
def Zyd(a:Iv)(b:Iv):=of (List.foldl imin (Zyc a b).lo [(div a.lo b.hi false).fst]) (List.foldl imax (Zyc a b).hi [(div a.lo b.hi true).fst])
def ZfB:=PV.agg [vI 0,vI 0,vB true]
def Zye(a:Iv)(b:Iv):=of (List.foldl imin (Zyd a b).lo [(div a.hi b.lo false).fst]) (List.foldl imax (Zyd a b).hi [(div a.hi b.lo true).fst])
theorem Zwq(a:Iv)(b:Iv):Con Tryz.prog 122 [.fn 123 [],.agg (Iv.enc a),.agg (Iv.enc b)] (.agg (Iv.enc (ends div a b))):=by
 refine cf0 (Zb Zap<|Zb ZcK<|Zb Zwm<|Zh) (fn:=Tryz.f122) rfl ?_
 refine sxT (fun Q=>(bif !(div a.lo b.lo false).snd then Q ZfB else (bif !(div a.lo b.lo true).snd then Q ZfB else (bif !(div a.lo b.hi false).snd then Q ZfB else (bif !(div a.lo b.hi true).snd then Q ZfB else (bif !(div a.hi b.lo false).snd then Q ZfB else (bif !(div a.hi b.lo true).snd then Q ZfB else (bif !(div a.hi b.hi false).snd then Q ZfB else (bif !(div a.hi b.hi true).snd then Q ZfB else Q (PV.agg (eIv (of (List.foldl imin (Zye a b).lo [(div a.hi b.hi false).fst]) (List.foldl imax (Zye a b).hi [(div a.hi b.hi true).fst]))))))))))))) (fun _=>by kernel_rfl) ?_
 delta Qn Zyd Zyc ZfB Zye eIv vI vB
 refine Za (fun h0=>?_) (fun h0=>Za (fun h1=>?_) (fun h1=>Za (fun h2=>?_) (fun h2=>Za (fun h3=>?_) (fun h3=>Za (fun h4=>?_) (fun h4=>Za (fun h5=>?_) (fun h5=>Za (fun h6=>?_) (fun h6=>Za (fun h7=>?_) (fun h7=>?_))))))))
 all_goals simp only[Qi_,Qf_] at *
 all_goals first | exact Kk_ (fun e=>PV.agg (Iv.enc e)) (ZhD (by simp[*])) | exact Kk_ (fun e=>PV.agg (Iv.enc e)) (ZjM ZxB h0 h1 h2 h3 h4 h5 h6 h7)
theorem Zwr:Zj Tryz.prog 122 Zlu:=by
 intro args r ps h hp
 unfold Zlu at h
 split at h
 ·rename_i p1 p2 p3 p4 p5 p6
  cases (Qa_ h)
  exact Zwq (⟨p1,p2,p3⟩:Iv) (⟨p4,p5,p6⟩:Iv)
 ·exact absurd h (by simp)
theorem Zws:Zj Tryz.prog 122 Z2N:=Ze8 Zwp (Zwr)
def Y6:=(2:Int)≠(0:Int)
def Xs(a:Iv)(b:Iv):=mul a.hi b.hi false
def Y7:=PV.agg [vI 0,vI 0,vB true]
def YW(a:Iv)(b:Iv):=mul a.hi b.hi true
def W9(a:Iv)(b:Iv):=mul a.lo b.hi false
def XQ(a:Iv)(b:Iv):=mul a.lo b.hi true
def Zna(a:Iv)(b:Iv):=PV.agg (eIv (of (Xs a b).fst (YW a b).fst))
def Znb(a:Iv)(b:Iv)(Q:PV→Prop):Prop:=bif decide ((YW a b).fst > (XQ a b).fst) then Q (Zna a b) else Q (PV.agg (eIv (of (Xs a b).fst (XQ a b).fst)))
def Znc(a:Iv)(b:Iv):=PV.agg (eIv (of (W9 a b).fst (YW a b).fst))
def Zyf(a:Iv)(b:Iv)(Q:PV→Prop):Prop:=Y6∧(Y6∧(bif !(Xs a b).snd then Q Y7 else (bif !(YW a b).snd then Q Y7 else (bif decide ((Xs a b).fst < (W9 a b).fst) then (Znb a b Q) else (bif decide ((YW a b).fst > (XQ a b).fst) then Q (Znc a b) else Q (PV.agg (eIv (of (W9 a b).fst (XQ a b).fst))))))))
def WW(a:Iv)(b:Iv):=mul a.hi b.lo true
def Znd(a:Iv)(b:Iv)(Q:PV→Prop):Prop:=bif decide ((YW a b).fst > (WW a b).fst) then Q (Zna a b) else Q (PV.agg (eIv (of (Xs a b).fst (WW a b).fst)))
def Ztw(a:Iv)(b:Iv)(Q:PV→Prop):Prop:=bif decide ((XQ a b).fst > (WW a b).fst) then (Zyf a b Q) else (Y6∧(Y6∧(bif !(Xs a b).snd then Q Y7 else (bif !(YW a b).snd then Q Y7 else (bif decide ((Xs a b).fst < (W9 a b).fst) then (Znd a b Q) else (bif decide ((YW a b).fst > (WW a b).fst) then Q (Znc a b) else Q (PV.agg (eIv (of (W9 a b).fst (WW a b).fst)))))))))
def WX(a:Iv)(b:Iv):=mul a.lo b.lo true
def Zne(a:Iv)(b:Iv)(Q:PV→Prop):Prop:=bif decide ((YW a b).fst > (WX a b).fst) then Q (Zna a b) else Q (PV.agg (eIv (of (Xs a b).fst (WX a b).fst)))
def Ztx(a:Iv)(b:Iv)(Q:PV→Prop):Prop:=bif decide ((XQ a b).fst > (WX a b).fst) then (Zyf a b Q) else (Y6∧(Y6∧(bif !(Xs a b).snd then Q Y7 else (bif !(YW a b).snd then Q Y7 else (bif decide ((Xs a b).fst < (W9 a b).fst) then (Zne a b Q) else (bif decide ((YW a b).fst > (WX a b).fst) then Q (Znc a b) else Q (PV.agg (eIv (of (W9 a b).fst (WX a b).fst)))))))))
def Zaq(a:Iv)(b:Iv):=mul a.hi b.lo false
def Znf(a:Iv)(b:Iv):=PV.agg (eIv (of (Zaq a b).fst (YW a b).fst))
def Zty(a:Iv)(b:Iv)(Q:PV→Prop):Prop:=Y6∧(Y6∧(bif !(Xs a b).snd then Q Y7 else (bif !(YW a b).snd then Q Y7 else (bif decide ((Xs a b).fst < (Zaq a b).fst) then (Znb a b Q) else (bif decide ((YW a b).fst > (XQ a b).fst) then Q (Znf a b) else Q (PV.agg (eIv (of (Zaq a b).fst (XQ a b).fst))))))))
def Zar(a:Iv)(b:Iv):=mul a.lo b.lo false
def Zng(a:Iv)(b:Iv):=PV.agg (eIv (of (Zar a b).fst (YW a b).fst))
def Ztz(a:Iv)(b:Iv)(Q:PV→Prop):Prop:=Y6∧(Y6∧(bif !(Xs a b).snd then Q Y7 else (bif !(YW a b).snd then Q Y7 else (bif decide ((Xs a b).fst < (Zar a b).fst) then (Znb a b Q) else (bif decide ((YW a b).fst > (XQ a b).fst) then Q (Zng a b) else Q (PV.agg (eIv (of (Zar a b).fst (XQ a b).fst))))))))
theorem Zt0(a:Iv)(b:Iv):Con Tryz.prog 148 [.agg (Iv.enc a),.agg (Iv.enc b),.v (.bool false)] (.agg (Iv.enc (ends mul a b))):=by
 refine cf0 (Zb Zpl<|Zb Zwn<|Zb JO<|Zb Zai<|Zh) (fn:=Tryz.f148) rfl ?_
 refine sxT (fun Q=>(Y6∧(Y6∧(bif !(Zar a b).snd then Q Y7 else (bif !(WX a b).snd then Q Y7 else (Y6∧(Y6∧(bif !(Zaq a b).snd then Q Y7 else (bif !(WW a b).snd then Q Y7 else (bif decide ((Zaq a b).fst < (Zar a b).fst) then (bif decide ((WW a b).fst > (WX a b).fst) then (Y6∧(Y6∧(bif !(W9 a b).snd then Q Y7 else (bif !(XQ a b).snd then Q Y7 else (bif decide ((W9 a b).fst < (Zaq a b).fst) then (Ztw a b Q) else (bif decide ((XQ a b).fst > (WW a b).fst) then (Zty a b Q) else (Y6∧(Y6∧(bif !(Xs a b).snd then Q Y7 else (bif !(YW a b).snd then Q Y7 else (bif decide ((Xs a b).fst < (Zaq a b).fst) then (Znd a b Q) else (bif decide ((YW a b).fst > (WW a b).fst) then Q (Znf a b) else Q (PV.agg (eIv (of (Zaq a b).fst (WW a b).fst))))))))))))))) else (Y6∧(Y6∧(bif !(W9 a b).snd then Q Y7 else (bif !(XQ a b).snd then Q Y7 else (bif decide ((W9 a b).fst < (Zaq a b).fst) then (Ztx a b Q) else (bif decide ((XQ a b).fst > (WX a b).fst) then (Zty a b Q) else (Y6∧(Y6∧(bif !(Xs a b).snd then Q Y7 else (bif !(YW a b).snd then Q Y7 else (bif decide ((Xs a b).fst < (Zaq a b).fst) then (Zne a b Q) else (bif decide ((YW a b).fst > (WX a b).fst) then Q (Znf a b) else Q (PV.agg (eIv (of (Zaq a b).fst (WX a b).fst)))))))))))))))) else (bif decide ((WW a b).fst > (WX a b).fst) then (Y6∧(Y6∧(bif !(W9 a b).snd then Q Y7 else (bif !(XQ a b).snd then Q Y7 else (bif decide ((W9 a b).fst < (Zar a b).fst) then (Ztw a b Q) else (bif decide ((XQ a b).fst > (WW a b).fst) then (Ztz a b Q) else (Y6∧(Y6∧(bif !(Xs a b).snd then Q Y7 else (bif !(YW a b).snd then Q Y7 else (bif decide ((Xs a b).fst < (Zar a b).fst) then (Znd a b Q) else (bif decide ((YW a b).fst > (WW a b).fst) then Q (Zng a b) else Q (PV.agg (eIv (of (Zar a b).fst (WW a b).fst))))))))))))))) else (Y6∧(Y6∧(bif !(W9 a b).snd then Q Y7 else (bif !(XQ a b).snd then Q Y7 else (bif decide ((W9 a b).fst < (Zar a b).fst) then (Ztx a b Q) else (bif decide ((XQ a b).fst > (WX a b).fst) then (Ztz a b Q) else (Y6∧(Y6∧(bif !(Xs a b).snd then Q Y7 else (bif !(YW a b).snd then Q Y7 else (bif decide ((Xs a b).fst < (Zar a b).fst) then (Zne a b Q) else (bif decide ((YW a b).fst > (WX a b).fst) then Q (Zng a b) else Q (PV.agg (eIv (of (Zar a b).fst (WX a b).fst)))))))))))))))))))))))))) (fun _=>by kernel_rfl) ?_
 delta Qn Zyf Y7 Znb Ztw Ztx Y6 YW Zty Ztz Znd Zne Xs W9 XQ Zar Zaq WX WW Znf Zng Znc Zna eIv vI vB
 refine ⟨?r43,⟨?r42,Za (fun h0=>?_) (fun h0=>Za (fun h1=>?_) (fun h1=>⟨?r41,⟨?r40,Za (fun h2=>?_) (fun h2=>Za (fun h3=>?_) (fun h3=>Za (fun h4=>Za (fun h5=>⟨?r9,⟨?r8,Za (fun h6=>?_) (fun h6=>Za (fun h7=>?_) (fun h7=>Za (fun h8=>Za (fun h9=>⟨?r1,⟨?r0,Za (fun h10=>?_) (fun h10=>Za (fun h11=>?_) (fun h11=>Za (fun h12=>Za (fun h13=>?_) (fun h13=>?_)) (fun h12=>Za (fun h13=>?_) (fun h13=>?_))))⟩⟩) (fun h9=>⟨?r3,⟨?r2,Za (fun h10=>?_) (fun h10=>Za (fun h11=>?_) (fun h11=>Za (fun h12=>Za (fun h13=>?_) (fun h13=>?_)) (fun h12=>Za (fun h13=>?_) (fun h13=>?_))))⟩⟩)) (fun h8=>Za (fun h9=>⟨?r5,⟨?r4,Za (fun h10=>?_) (fun h10=>Za (fun h11=>?_) (fun h11=>Za (fun h12=>Za (fun h13=>?_) (fun h13=>?_)) (fun h12=>Za (fun h13=>?_) (fun h13=>?_))))⟩⟩) (fun h9=>⟨?r7,⟨?r6,Za (fun h10=>?_) (fun h10=>Za (fun h11=>?_) (fun h11=>Za (fun h12=>Za (fun h13=>?_) (fun h13=>?_)) (fun h12=>Za (fun h13=>?_) (fun h13=>?_))))⟩⟩))))⟩⟩) (fun h5=>⟨?r19,⟨?r18,Za (fun h6=>?_) (fun h6=>Za (fun h7=>?_) (fun h7=>Za (fun h8=>Za (fun h9=>⟨?r11,⟨?r10,Za (fun h10=>?_) (fun h10=>Za (fun h11=>?_) (fun h11=>Za (fun h12=>Za (fun h13=>?_) (fun h13=>?_)) (fun h12=>Za (fun h13=>?_) (fun h13=>?_))))⟩⟩) (fun h9=>⟨?r13,⟨?r12,Za (fun h10=>?_) (fun h10=>Za (fun h11=>?_) (fun h11=>Za (fun h12=>Za (fun h13=>?_) (fun h13=>?_)) (fun h12=>Za (fun h13=>?_) (fun h13=>?_))))⟩⟩)) (fun h8=>Za (fun h9=>⟨?r15,⟨?r14,Za (fun h10=>?_) (fun h10=>Za (fun h11=>?_) (fun h11=>Za (fun h12=>Za (fun h13=>?_) (fun h13=>?_)) (fun h12=>Za (fun h13=>?_) (fun h13=>?_))))⟩⟩) (fun h9=>⟨?r17,⟨?r16,Za (fun h10=>?_) (fun h10=>Za (fun h11=>?_) (fun h11=>Za (fun h12=>Za (fun h13=>?_) (fun h13=>?_)) (fun h12=>Za (fun h13=>?_) (fun h13=>?_))))⟩⟩))))⟩⟩)) (fun h4=>Za (fun h5=>⟨?r29,⟨?r28,Za (fun h6=>?_) (fun h6=>Za (fun h7=>?_) (fun h7=>Za (fun h8=>Za (fun h9=>⟨?r21,⟨?r20,Za (fun h10=>?_) (fun h10=>Za (fun h11=>?_) (fun h11=>Za (fun h12=>Za (fun h13=>?_) (fun h13=>?_)) (fun h12=>Za (fun h13=>?_) (fun h13=>?_))))⟩⟩) (fun h9=>⟨?r23,⟨?r22,Za (fun h10=>?_) (fun h10=>Za (fun h11=>?_) (fun h11=>Za (fun h12=>Za (fun h13=>?_) (fun h13=>?_)) (fun h12=>Za (fun h13=>?_) (fun h13=>?_))))⟩⟩)) (fun h8=>Za (fun h9=>⟨?r25,⟨?r24,Za (fun h10=>?_) (fun h10=>Za (fun h11=>?_) (fun h11=>Za (fun h12=>Za (fun h13=>?_) (fun h13=>?_)) (fun h12=>Za (fun h13=>?_) (fun h13=>?_))))⟩⟩) (fun h9=>⟨?r27,⟨?r26,Za (fun h10=>?_) (fun h10=>Za (fun h11=>?_) (fun h11=>Za (fun h12=>Za (fun h13=>?_) (fun h13=>?_)) (fun h12=>Za (fun h13=>?_) (fun h13=>?_))))⟩⟩))))⟩⟩) (fun h5=>⟨?r39,⟨?r38,Za (fun h6=>?_) (fun h6=>Za (fun h7=>?_) (fun h7=>Za (fun h8=>Za (fun h9=>⟨?r31,⟨?r30,Za (fun h10=>?_) (fun h10=>Za (fun h11=>?_) (fun h11=>Za (fun h12=>Za (fun h13=>?_) (fun h13=>?_)) (fun h12=>Za (fun h13=>?_) (fun h13=>?_))))⟩⟩) (fun h9=>⟨?r33,⟨?r32,Za (fun h10=>?_) (fun h10=>Za (fun h11=>?_) (fun h11=>Za (fun h12=>Za (fun h13=>?_) (fun h13=>?_)) (fun h12=>Za (fun h13=>?_) (fun h13=>?_))))⟩⟩)) (fun h8=>Za (fun h9=>⟨?r35,⟨?r34,Za (fun h10=>?_) (fun h10=>Za (fun h11=>?_) (fun h11=>Za (fun h12=>Za (fun h13=>?_) (fun h13=>?_)) (fun h12=>Za (fun h13=>?_) (fun h13=>?_))))⟩⟩) (fun h9=>⟨?r37,⟨?r36,Za (fun h10=>?_) (fun h10=>Za (fun h11=>?_) (fun h11=>Za (fun h12=>Za (fun h13=>?_) (fun h13=>?_)) (fun h12=>Za (fun h13=>?_) (fun h13=>?_))))⟩⟩))))⟩⟩))))⟩⟩))⟩⟩
 case r0|r1|r2|r3|r4|r5|r6|r7|r8|r9|r10|r11|r12|r13|r14|r15|r16|r17|r18|r19|r20|r21|r22|r23|r24|r25|r26|r27|r28|r29|r30|r31|r32|r33|r34|r35|r36|r37|r38|r39|r40|r41|r42|r43=>decide
 all_goals simp only[Qi_,Qf_,Qc_,Qe_] at *
 all_goals first | exact Kk_ (fun e=>PV.agg (Iv.enc e)) (ZhD (by simp[*])) | exact Kk_ (fun e=>PV.agg (Iv.enc e)) (ZrH h0 h1 h6 h7 h2 h3 h10 h11 (by omega) (by omega))
theorem Zt1:Zj Tryz.prog 148 Zi5:=by
 intro args r ps h hp
 unfold Zi5 at h
 split at h
 ·rename_i p1 p2 p3 p4 p5 p6
  cases (Qa_ h)
  exact Zt0 (⟨p1,p2,p3⟩:Iv) (⟨p4,p5,p6⟩:Iv)
 ·exact absurd h (by simp)
def Y8:=(2:Int)≠(0:Int)
def Xt(a:Iv)(b:Iv):=div a.hi b.hi false
def Y9:=PV.agg [vI 0,vI 0,vB true]
def YX(a:Iv)(b:Iv):=div a.hi b.hi true
def WA(a:Iv)(b:Iv):=div a.lo b.hi false
def XR(a:Iv)(b:Iv):=div a.lo b.hi true
def Znh(a:Iv)(b:Iv):=PV.agg (eIv (of (Xt a b).fst (YX a b).fst))
def Zni(a:Iv)(b:Iv)(Q:PV→Prop):Prop:=bif decide ((YX a b).fst > (XR a b).fst) then Q (Znh a b) else Q (PV.agg (eIv (of (Xt a b).fst (XR a b).fst)))
def Znj(a:Iv)(b:Iv):=PV.agg (eIv (of (WA a b).fst (YX a b).fst))
def Zt2(a:Iv)(b:Iv)(Q:PV→Prop):Prop:=Y8∧(Y8∧(bif !(Xt a b).snd then Q Y9 else (bif !(YX a b).snd then Q Y9 else (bif decide ((Xt a b).fst < (WA a b).fst) then (Zni a b Q) else (bif decide ((YX a b).fst > (XR a b).fst) then Q (Znj a b) else Q (PV.agg (eIv (of (WA a b).fst (XR a b).fst))))))))
def WY(a:Iv)(b:Iv):=div a.hi b.lo true
def Znk(a:Iv)(b:Iv)(Q:PV→Prop):Prop:=bif decide ((YX a b).fst > (WY a b).fst) then Q (Znh a b) else Q (PV.agg (eIv (of (Xt a b).fst (WY a b).fst)))
def Zt3(a:Iv)(b:Iv)(Q:PV→Prop):Prop:=bif decide ((XR a b).fst > (WY a b).fst) then (Zt2 a b Q) else (Y8∧(Y8∧(bif !(Xt a b).snd then Q Y9 else (bif !(YX a b).snd then Q Y9 else (bif decide ((Xt a b).fst < (WA a b).fst) then (Znk a b Q) else (bif decide ((YX a b).fst > (WY a b).fst) then Q (Znj a b) else Q (PV.agg (eIv (of (WA a b).fst (WY a b).fst)))))))))
def WZ(a:Iv)(b:Iv):=div a.lo b.lo true
def Znl(a:Iv)(b:Iv)(Q:PV→Prop):Prop:=bif decide ((YX a b).fst > (WZ a b).fst) then Q (Znh a b) else Q (PV.agg (eIv (of (Xt a b).fst (WZ a b).fst)))
def Zt4(a:Iv)(b:Iv)(Q:PV→Prop):Prop:=bif decide ((XR a b).fst > (WZ a b).fst) then (Zt2 a b Q) else (Y8∧(Y8∧(bif !(Xt a b).snd then Q Y9 else (bif !(YX a b).snd then Q Y9 else (bif decide ((Xt a b).fst < (WA a b).fst) then (Znl a b Q) else (bif decide ((YX a b).fst > (WZ a b).fst) then Q (Znj a b) else Q (PV.agg (eIv (of (WA a b).fst (WZ a b).fst)))))))))
def Zas(a:Iv)(b:Iv):=div a.hi b.lo false
def Znm(a:Iv)(b:Iv):=PV.agg (eIv (of (Zas a b).fst (YX a b).fst))
def Zt5(a:Iv)(b:Iv)(Q:PV→Prop):Prop:=Y8∧(Y8∧(bif !(Xt a b).snd then Q Y9 else (bif !(YX a b).snd then Q Y9 else (bif decide ((Xt a b).fst < (Zas a b).fst) then (Zni a b Q) else (bif decide ((YX a b).fst > (XR a b).fst) then Q (Znm a b) else Q (PV.agg (eIv (of (Zas a b).fst (XR a b).fst))))))))
def Zat(a:Iv)(b:Iv):=div a.lo b.lo false
def Znn(a:Iv)(b:Iv):=PV.agg (eIv (of (Zat a b).fst (YX a b).fst))
def Zt6(a:Iv)(b:Iv)(Q:PV→Prop):Prop:=Y8∧(Y8∧(bif !(Xt a b).snd then Q Y9 else (bif !(YX a b).snd then Q Y9 else (bif decide ((Xt a b).fst < (Zat a b).fst) then (Zni a b Q) else (bif decide ((YX a b).fst > (XR a b).fst) then Q (Znn a b) else Q (PV.agg (eIv (of (Zat a b).fst (XR a b).fst))))))))
theorem Zt7(a:Iv)(b:Iv):Con Tryz.prog 148 [.agg (Iv.enc a),.agg (Iv.enc b),.v (.bool true)] (.agg (Iv.enc (ends div a b))):=by
 refine cf0 (Zb Zpl<|Zb Zwn<|Zb JO<|Zb Zai<|Zh) (fn:=Tryz.f148) rfl ?_
 refine sxT (fun Q=>(Y8∧(Y8∧(bif !(Zat a b).snd then Q Y9 else (bif !(WZ a b).snd then Q Y9 else (Y8∧(Y8∧(bif !(Zas a b).snd then Q Y9 else (bif !(WY a b).snd then Q Y9 else (bif decide ((Zas a b).fst < (Zat a b).fst) then (bif decide ((WY a b).fst > (WZ a b).fst) then (Y8∧(Y8∧(bif !(WA a b).snd then Q Y9 else (bif !(XR a b).snd then Q Y9 else (bif decide ((WA a b).fst < (Zas a b).fst) then (Zt3 a b Q) else (bif decide ((XR a b).fst > (WY a b).fst) then (Zt5 a b Q) else (Y8∧(Y8∧(bif !(Xt a b).snd then Q Y9 else (bif !(YX a b).snd then Q Y9 else (bif decide ((Xt a b).fst < (Zas a b).fst) then (Znk a b Q) else (bif decide ((YX a b).fst > (WY a b).fst) then Q (Znm a b) else Q (PV.agg (eIv (of (Zas a b).fst (WY a b).fst))))))))))))))) else (Y8∧(Y8∧(bif !(WA a b).snd then Q Y9 else (bif !(XR a b).snd then Q Y9 else (bif decide ((WA a b).fst < (Zas a b).fst) then (Zt4 a b Q) else (bif decide ((XR a b).fst > (WZ a b).fst) then (Zt5 a b Q) else (Y8∧(Y8∧(bif !(Xt a b).snd then Q Y9 else (bif !(YX a b).snd then Q Y9 else (bif decide ((Xt a b).fst < (Zas a b).fst) then (Znl a b Q) else (bif decide ((YX a b).fst > (WZ a b).fst) then Q (Znm a b) else Q (PV.agg (eIv (of (Zas a b).fst (WZ a b).fst)))))))))))))))) else (bif decide ((WY a b).fst > (WZ a b).fst) then (Y8∧(Y8∧(bif !(WA a b).snd then Q Y9 else (bif !(XR a b).snd then Q Y9 else (bif decide ((WA a b).fst < (Zat a b).fst) then (Zt3 a b Q) else (bif decide ((XR a b).fst > (WY a b).fst) then (Zt6 a b Q) else (Y8∧(Y8∧(bif !(Xt a b).snd then Q Y9 else (bif !(YX a b).snd then Q Y9 else (bif decide ((Xt a b).fst < (Zat a b).fst) then (Znk a b Q) else (bif decide ((YX a b).fst > (WY a b).fst) then Q (Znn a b) else Q (PV.agg (eIv (of (Zat a b).fst (WY a b).fst))))))))))))))) else (Y8∧(Y8∧(bif !(WA a b).snd then Q Y9 else (bif !(XR a b).snd then Q Y9 else (bif decide ((WA a b).fst < (Zat a b).fst) then (Zt4 a b Q) else (bif decide ((XR a b).fst > (WZ a b).fst) then (Zt6 a b Q) else (Y8∧(Y8∧(bif !(Xt a b).snd then Q Y9 else (bif !(YX a b).snd then Q Y9 else (bif decide ((Xt a b).fst < (Zat a b).fst) then (Znl a b Q) else (bif decide ((YX a b).fst > (WZ a b).fst) then Q (Znn a b) else Q (PV.agg (eIv (of (Zat a b).fst (WZ a b).fst)))))))))))))))))))))))))) (fun _=>by kernel_rfl) ?_
 delta Qn Zt2 Y9 Zni Zt3 Zt4 Y8 YX Zt5 Zt6 Znk Znl Xt WA XR Zat Zas WZ WY Znm Znn Znj Znh eIv vI vB
 refine ⟨?r43,⟨?r42,Za (fun h0=>?_) (fun h0=>Za (fun h1=>?_) (fun h1=>⟨?r41,⟨?r40,Za (fun h2=>?_) (fun h2=>Za (fun h3=>?_) (fun h3=>Za (fun h4=>Za (fun h5=>⟨?r9,⟨?r8,Za (fun h6=>?_) (fun h6=>Za (fun h7=>?_) (fun h7=>Za (fun h8=>Za (fun h9=>⟨?r1,⟨?r0,Za (fun h10=>?_) (fun h10=>Za (fun h11=>?_) (fun h11=>Za (fun h12=>Za (fun h13=>?_) (fun h13=>?_)) (fun h12=>Za (fun h13=>?_) (fun h13=>?_))))⟩⟩) (fun h9=>⟨?r3,⟨?r2,Za (fun h10=>?_) (fun h10=>Za (fun h11=>?_) (fun h11=>Za (fun h12=>Za (fun h13=>?_) (fun h13=>?_)) (fun h12=>Za (fun h13=>?_) (fun h13=>?_))))⟩⟩)) (fun h8=>Za (fun h9=>⟨?r5,⟨?r4,Za (fun h10=>?_) (fun h10=>Za (fun h11=>?_) (fun h11=>Za (fun h12=>Za (fun h13=>?_) (fun h13=>?_)) (fun h12=>Za (fun h13=>?_) (fun h13=>?_))))⟩⟩) (fun h9=>⟨?r7,⟨?r6,Za (fun h10=>?_) (fun h10=>Za (fun h11=>?_) (fun h11=>Za (fun h12=>Za (fun h13=>?_) (fun h13=>?_)) (fun h12=>Za (fun h13=>?_) (fun h13=>?_))))⟩⟩))))⟩⟩) (fun h5=>⟨?r19,⟨?r18,Za (fun h6=>?_) (fun h6=>Za (fun h7=>?_) (fun h7=>Za (fun h8=>Za (fun h9=>⟨?r11,⟨?r10,Za (fun h10=>?_) (fun h10=>Za (fun h11=>?_) (fun h11=>Za (fun h12=>Za (fun h13=>?_) (fun h13=>?_)) (fun h12=>Za (fun h13=>?_) (fun h13=>?_))))⟩⟩) (fun h9=>⟨?r13,⟨?r12,Za (fun h10=>?_) (fun h10=>Za (fun h11=>?_) (fun h11=>Za (fun h12=>Za (fun h13=>?_) (fun h13=>?_)) (fun h12=>Za (fun h13=>?_) (fun h13=>?_))))⟩⟩)) (fun h8=>Za (fun h9=>⟨?r15,⟨?r14,Za (fun h10=>?_) (fun h10=>Za (fun h11=>?_) (fun h11=>Za (fun h12=>Za (fun h13=>?_) (fun h13=>?_)) (fun h12=>Za (fun h13=>?_) (fun h13=>?_))))⟩⟩) (fun h9=>⟨?r17,⟨?r16,Za (fun h10=>?_) (fun h10=>Za (fun h11=>?_) (fun h11=>Za (fun h12=>Za (fun h13=>?_) (fun h13=>?_)) (fun h12=>Za (fun h13=>?_) (fun h13=>?_))))⟩⟩))))⟩⟩)) (fun h4=>Za (fun h5=>⟨?r29,⟨?r28,Za (fun h6=>?_) (fun h6=>Za (fun h7=>?_) (fun h7=>Za (fun h8=>Za (fun h9=>⟨?r21,⟨?r20,Za (fun h10=>?_) (fun h10=>Za (fun h11=>?_) (fun h11=>Za (fun h12=>Za (fun h13=>?_) (fun h13=>?_)) (fun h12=>Za (fun h13=>?_) (fun h13=>?_))))⟩⟩) (fun h9=>⟨?r23,⟨?r22,Za (fun h10=>?_) (fun h10=>Za (fun h11=>?_) (fun h11=>Za (fun h12=>Za (fun h13=>?_) (fun h13=>?_)) (fun h12=>Za (fun h13=>?_) (fun h13=>?_))))⟩⟩)) (fun h8=>Za (fun h9=>⟨?r25,⟨?r24,Za (fun h10=>?_) (fun h10=>Za (fun h11=>?_) (fun h11=>Za (fun h12=>Za (fun h13=>?_) (fun h13=>?_)) (fun h12=>Za (fun h13=>?_) (fun h13=>?_))))⟩⟩) (fun h9=>⟨?r27,⟨?r26,Za (fun h10=>?_) (fun h10=>Za (fun h11=>?_) (fun h11=>Za (fun h12=>Za (fun h13=>?_) (fun h13=>?_)) (fun h12=>Za (fun h13=>?_) (fun h13=>?_))))⟩⟩))))⟩⟩) (fun h5=>⟨?r39,⟨?r38,Za (fun h6=>?_) (fun h6=>Za (fun h7=>?_) (fun h7=>Za (fun h8=>Za (fun h9=>⟨?r31,⟨?r30,Za (fun h10=>?_) (fun h10=>Za (fun h11=>?_) (fun h11=>Za (fun h12=>Za (fun h13=>?_) (fun h13=>?_)) (fun h12=>Za (fun h13=>?_) (fun h13=>?_))))⟩⟩) (fun h9=>⟨?r33,⟨?r32,Za (fun h10=>?_) (fun h10=>Za (fun h11=>?_) (fun h11=>Za (fun h12=>Za (fun h13=>?_) (fun h13=>?_)) (fun h12=>Za (fun h13=>?_) (fun h13=>?_))))⟩⟩)) (fun h8=>Za (fun h9=>⟨?r35,⟨?r34,Za (fun h10=>?_) (fun h10=>Za (fun h11=>?_) (fun h11=>Za (fun h12=>Za (fun h13=>?_) (fun h13=>?_)) (fun h12=>Za (fun h13=>?_) (fun h13=>?_))))⟩⟩) (fun h9=>⟨?r37,⟨?r36,Za (fun h10=>?_) (fun h10=>Za (fun h11=>?_) (fun h11=>Za (fun h12=>Za (fun h13=>?_) (fun h13=>?_)) (fun h12=>Za (fun h13=>?_) (fun h13=>?_))))⟩⟩))))⟩⟩))))⟩⟩))⟩⟩
 case r0|r1|r2|r3|r4|r5|r6|r7|r8|r9|r10|r11|r12|r13|r14|r15|r16|r17|r18|r19|r20|r21|r22|r23|r24|r25|r26|r27|r28|r29|r30|r31|r32|r33|r34|r35|r36|r37|r38|r39|r40|r41|r42|r43=>decide
 all_goals simp only[Qi_,Qf_,Qc_,Qe_] at *
 all_goals first | exact Kk_ (fun e=>PV.agg (Iv.enc e)) (ZhD (by simp[*])) | exact Kk_ (fun e=>PV.agg (Iv.enc e)) (ZrH h0 h1 h6 h7 h2 h3 h10 h11 (by omega) (by omega))
theorem Zt8:Zj Tryz.prog 148 Zi6:=by
 intro args r ps h hp
 unfold Zi6 at h
 split at h
 ·rename_i p1 p2 p3 p4 p5 p6
  cases (Qa_ h)
  exact Zt7 (⟨p1,p2,p3⟩:Iv) (⟨p4,p5,p6⟩:Iv)
 ·exact absurd h (by simp)
theorem Zwt:Zj Tryz.prog 148 Z2O:=Ze8 Zt1 (Zt8)
end Go.Men
