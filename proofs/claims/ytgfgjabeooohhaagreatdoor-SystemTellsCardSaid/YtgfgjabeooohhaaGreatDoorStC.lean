/- A logic of frames, its evaluator for values known in part, and what the functions that the law reaches are shown to do: written for this claim. Part C. -/
import Derived.Test.YtgfgjabeooohhaaGreatDoorStB
import Derived.Test.YtgfgjabeooohhaaGreatDoorChecked
import Derived.Test.YtgfgjabeooohhaaGreatDoorShelf
set_option linter.all false
set_option maxRecDepth 100000
namespace Go.Ev
open Go.RowKit
def alls:List Prop→Prop→Prop
 | [],X=>X
 | p::r,X=>p∧alls r X
def Yi(l:List Prop):Prop:=∀p∈l,p
theorem XH:∀{l:List Prop} {X:Prop},alls l X→Yi l∧X
 | [],_,h=>⟨fun _ h=>absurd h (by simp),h⟩
 | p::r,_,h=>⟨fun q hq=>by rcases Q9_.1 hq with e | hq;exact e▸h.1;exact (XH h.2).1 q hq,(XH h.2).2⟩
section forces
universe u
variable {α:Sort u}
def Zs3(v:Value)(k:Value→α):α:=match v with
 | .int kd i=>k (.int kd i)
 | .bool b=>k (.bool b)
 | .complex kd a b=>k (.complex kd a b)
 | .float kd a=>k (.float kd a)
 | x=>k x
theorem Zln(v:Value)(k:Value→α):Zs3 v k=k v:=by cases v<;>rfl
def Zs4(x:PV)(k:PV→α):α:=match x with
 | .v x=>Zs3 x fun x=>k (.v x)
 | x=>k x
theorem Zxf(x:PV)(k:PV→α):Zs4 x k=k x:=by cases x<;>simp only[Zs4,Zln]
def ZbZ:List PV→(List PV→α)→α
 | [],k=>k []
 | x::r,k=>Zs4 x fun x=>ZbZ r fun r=>k (x::r)
theorem Zca:∀(l:List PV) (k:List PV→α),ZbZ l k=k l
 | [],_=>rfl
 | x::r,k=>by simp only[ZbZ,Zxf];rw[Zca r]
def Zs5(x:PV)(k:PV→α):α:=match x with
 | .v x=>Zs3 x fun x=>k (.v x)
 | .agg cs=>ZbZ cs fun cs=>k (.agg cs)
 | x=>k x
theorem Zxg(x:PV)(k:PV→α):Zs5 x k=k x:=by cases x<;>simp only[Zs5,Zln,Zca]
def ZjA:List PV→(List PV→α)→α
 | [],k=>k []
 | x::r,k=>Zs5 x fun x=>ZjA r fun r=>k (x::r)
theorem ZlY:∀(l:List PV) (k:List PV→α),ZjA l k=k l
 | [],_=>rfl
 | x::r,k=>by simp only[ZjA,Zxg];rw[ZlY r]
def sPV(x:PV)(k:PV→α):α:=match x with
 | .v x=>Zs3 x fun x=>k (.v x)
 | .agg cs=>ZbZ cs fun cs=>k (.agg cs)
 | .tup cs=>ZjA cs fun cs=>k (.tup cs)
 | .lptr cs off=>ZbZ cs fun cs=>k (.lptr cs off)
 | .bld u=>fB u fun u=>k (.bld u)
 | .bp b off=>fN b fun b=>fN off fun off=>k (.bp b off)
 | .bs b off n s=>fN b fun b=>fN off fun off=>fN n fun n=>fN s fun s=>k (.bs b off n s)
 | .str l=>k (.str l)
 | .nil=>k .nil
 | .lst xs=>k (.lst xs)
 | .fn f cs=>fN f fun f=>k (.fn f cs)
theorem Z04(x:PV)(k:PV→α):sPV x k=k x:=by cases x<;>simp only[sPV,Zln,Zca,ZlY,ZW,ZmT]
def sAV(a:AV)(k:AV→α):α:=match a with
 | .p x=>sPV x fun x=>k (.p x)
 | .ptr b off=>fN b fun b=>k (.ptr b off)
 | .fnp f bs=>fN f fun f=>fNs bs fun bs=>k (.fnp f bs)
 | .sl b off n s=>fN b fun b=>fN s fun s=>k (.sl b off n s)
theorem Zou(x:AV)(k:AV→α):sAV x k=k x:=by cases x<;>simp only[sAV,Z04,ZW,Jt]
def Zs6:List (Nat×AV)→(List (Nat×AV)→α)→α
 | [],k=>k []
 | (t,v)::r,k=>fN t fun t=>sAV v fun v=>Zs6 r fun r=>k ((t,v)::r)
theorem Zrz:∀(l:List (Nat×AV)) (k:List (Nat×AV)→α),Zs6 l k=k l
 | [],_=>rfl
 | (t,v)::r,k=>by simp only[Zs6,ZW,Zou];rw[Zrz r]
def slB:List (Nat×AV)→List Nat
 | []=>[]
 | (_,v)::r=>match v with
   | .sl b _ _ _=>b::slB r
   | _=>slB r
def ZhC(sk:Bool)(l:List PV)(k:List PV→α):α:=bif sk then k l else ZbZ l k
theorem ZjB(sk:Bool)(l:List PV)(k:List PV→α):ZhC sk l k=k l:=by cases sk<;>simp only[ZhC,Qb_,Qd_,Zca]
def Zs7(sk:List Nat):List (Nat×List PV)→(List (Nat×List PV)→α)→α
 | [],k=>k []
 | (t,v)::r,k=>fN t fun t=>ZhC (has t sk) v fun v=>Zs7 sk r fun r=>k ((t,v)::r)
theorem Zr0(sk:List Nat):∀(l:List (Nat×List PV)) (k:List (Nat×List PV)→α),Zs7 sk l k=k l
 | [],_=>rfl
 | (t,v)::r,k=>by simp only[Zs7,ZW,ZjB];rw[Zr0 sk r]
def Zxh(l:List (Nat×AV))(k:List (Nat×AV)→α):α:=match l with
 | []=>k []
 | (t,v)::r=>fN t fun t=>sAV v fun v=>Zft r fun r=>k ((t,v)::r)
theorem ZzD(l:List (Nat×AV))(k:List (Nat×AV)→α):Zxh l k=k l:=by
 cases l<;>simp only[Zxh,ZW,Zou,ZcQ]
def Zxi(sk:List Nat)(l:List (Nat×List PV))(k:List (Nat×List PV)→α):α:=match l with
 | []=>k []
 | (t,v)::r=>fN t fun t=>ZhC (has t sk) v fun v=>Zft r fun r=>k ((t,v)::r)
theorem ZzE(sk:List Nat)(l:List (Nat×List PV))(k:List (Nat×List PV)→α):Zxi sk l k=k l:=by
 cases l<;>simp only[Zxi,ZW,ZjB,ZcQ]
def Zov(σ:St)(k:St→α):α:=match σ with
 | ⟨n,tm,bx,ro,ow,al⟩=>fN n fun n=>Zs6 tm fun tm=>Zs7 (slB tm) bx fun bx=>fNs ro fun ro=>fOw ow fun ow=>fAl al fun al=>k ⟨n,tm,bx,ro,ow,al⟩
theorem Zlo(σ:St)(k:St→α):Zov σ k=k σ:=by cases σ;simp only[Zov,ZW,Zrz,Zr0,Jt,ZbX,ZbY]
def Zxj(a:AV)(k:AV→α):α:=match a with
 | .ptr b off=>fN b fun b=>k (.ptr b off)
 | .sl b off n s=>fN b fun b=>fN s fun s=>k (.sl b off n s)
 | .p x=>Zok (.p x) k
 | .fnp f bs=>Zok (.fnp f bs) k
theorem ZzF(a:AV)(k:AV→α):Zxj a k=k a:=by cases a<;>simp only[Zxj,ZW,Zrq]
def Zs8:List (Nat×AV)→(List (Nat×AV)→α)→α
 | [],k=>k []
 | (t,v)::r,k=>fN t fun t=>Zxj v fun v=>Zs8 r fun r=>k ((t,v)::r)
theorem Zr1:∀(l:List (Nat×AV)) (k:List (Nat×AV)→α),Zs8 l k=k l
 | [],_=>rfl
 | (t,v)::r,k=>by simp only[Zs8,ZW,ZzF];rw[Zr1 r]
def Zfv(σ:St)(k:St→α):α:=match σ with
 | ⟨n,tm,bx,ro,ow,al⟩=>fN n fun n=>Zs8 tm fun tm=>Zom bx fun bx=>fNs ro fun ro=>fOw ow fun ow=>fAl al fun al=>k ⟨n,tm,bx,ro,ow,al⟩
theorem ZcR(σ:St)(k:St→α):Zfv σ k=k σ:=by cases σ;simp only[Zfv,ZW,Zr1,Zlg,Jt,ZbX,ZbY]
def Zs9(mem:Bool)(σ:St)(k:St→α):α:=match σ with
 | ⟨n,tm,bx,ro,ow,al⟩=>fN n fun n=>Zxh tm fun tm=>(bif mem then Zxi (slB tm) bx else Zft bx) fun bx=>Zft ro fun ro=>fOw ow fun ow=>fAl al fun al=>k ⟨n,tm,bx,ro,ow,al⟩
theorem Zr2(mem:Bool)(σ:St)(k:St→α):Zs9 mem σ k=k σ:=by
 cases σ;cases mem<;>simp only[Zs9,ZW,ZzD,Qb_,Qd_,ZzE,ZcQ,ZbX,ZbY]
def sEn(e:En)(k:En→α):α:=match e with
 | ⟨i,tm,bx,ln⟩=>fN i fun i=>
   (match tm with
    | none=>fun (k:Option (Nat×AV)→α)=>k none
    | some (t,v)=>fun k=>fN t fun t=>sAV v fun v=>k (some (t,v))) fun tm=>
   (match bx with
    | none=>fun (k:Option (Nat×List PV)→α)=>k none
    | some (t,v)=>fun k=>fN t fun t=>ZbZ v fun v=>k (some (t,v))) fun bx=>
   (match ln with
    | none=>fun (k:Option (Nat×Loc)→α)=>k none
    | some (t,v)=>fun k=>fN t fun t=>Zld v fun v=>k (some (t,v))) fun ln=>k ⟨i,tm,bx,ln⟩
theorem Z05(e:En)(k:En→α):sEn e k=k e:=by
 obtain ⟨i,tm,bx,ln⟩:=e
 rcases tm with _ | ⟨t,v⟩<;>rcases bx with _ | ⟨b,cs⟩<;>rcases ln with _ | ⟨l,x⟩<;>simp only[sEn,ZW,Zou,Zca,Zh8]
end forces
abbrev RSy:=Nat→St→Oper→Option (Res×List Prop)
abbrev TSy:=Nat→St→Oper→Option (St×List Prop)
def Z06(ops:List Oper)(j:Nat):Bool:=ops.any fun o=>match o.guard with
 | some (i,_)=>Nat.beq i j
 | none=>false
def Zow(gd:Bool)(e:En)(K:En→Prop):Prop:=match gd with
 | false=>K e
 | true=>match e with
   | ⟨i,some (d,.p (.v (.bool h))),bx,ln⟩=>(match h with
     | true=>K ⟨i,some (d,.p (.v (.bool true))),bx,ln⟩
     | false=>K ⟨i,some (d,.p (.v (.bool false))),bx,ln⟩)
   | e=>K e
theorem ZsA{gd:Bool}{e:En}{K:En→Prop}(h:Zow gd e K):K e:=by
 cases gd with
 | false=>exact h
 | true=>
   unfold Zow at h
   simp only at h
   split at h
   ·split at h<;>exact h
   ·exact h
def Zox(gd:Bool)(σ:St)(K:St→Prop):Prop:=match gd with
 | false=>K σ
 | true=>match σ with
   | ⟨n,(d,.p (.v (.bool h)))::r,bx,ro,ow,al⟩=>(match h with
     | true=>K ⟨n,(d,.p (.v (.bool true)))::r,bx,ro,ow,al⟩
     | false=>K ⟨n,(d,.p (.v (.bool false)))::r,bx,ro,ow,al⟩)
   | σ=>K σ
theorem ZsB{gd:Bool}{σ:St}{K:St→Prop}(h:Zox gd σ K):K σ:=by
 cases gd with
 | false=>exact h
 | true=>
   unfold Zox at h
   simp only at h
   split at h
   ·split at h<;>exact h
   ·exact h
def ZjC(σ:St)(ops:List Oper)(o:Oper)(run skip:Prop):Prop:=
 match Za9 σ ops o with
 | some true=>run
 | some false=>skip
 | none=>False
theorem ZjD{σ:St}{ops:List Oper}{o:Oper}{run skip:Prop}(h:ZjC σ ops o run skip):(Za9 σ ops o=some true∧run)∨(Za9 σ ops o=some false∧skip):=by
 unfold ZjC at h
 split at h
 ·exact .inl ⟨by assumption,h⟩
 ·exact .inr ⟨by assumption,h⟩
 ·exact h.elim
def Zdi(T:TSy)(ops:List Oper):List Oper→Nat→St→(St→Prop)→Prop
 | [],_,σ,K=>K σ
 | o::r,j,σ,K=>ZjC σ ops o
    (match T j σ o with
     | some (σ1,ps)=>alls ps (Zs9 (ZyF o.op) σ1 fun σ1=>Zox (Z06 ops j) σ1 fun σ1=>Zdi T ops r (j+1) σ1 K)
     | none=>False)
    (match o.dst with
     | some d=>Zs9 false (Zc4 σ d) fun σ=>Zdi T ops r (j+1) σ K
     | none=>Zdi T ops r (j+1) σ K)
def TSub(T:TSy)(T0:Nat→St→Oper→Option St):Prop:=∀j σ o σ1 ps,T j σ o=some (σ1,ps)→Yi ps→T0 j σ o=some σ1
def RSub(R:RSy)(R0:Nat→St→Oper→Option Res):Prop:=∀j τ o r ps,R j τ o=some (r,ps)→Yi ps→R0 j τ o=some r
theorem ZaS{T:TSy}{T0:Nat→St→Oper→Option St}(hT:TSub T T0){ops:List Oper}{K:St→Prop}:∀{l:List Oper} {j:Nat} {σ:St},Zdi T ops l j σ K→∃σ',K σ'∧tails T0 ops l j σ=some σ'
 | [],j,σ,h=>⟨σ,h,rfl⟩
 | o::r,j,σ,h=>by
   unfold Zdi at h
   unfold tails
   rcases ZjD h with ⟨hg,h⟩ | ⟨hg,h⟩
   ·rw[hg]
    split at h
    ·rename_i σ1 ps h1
     obtain ⟨h2,h3⟩:=XH h
     rw[Zr2] at h3
     obtain ⟨σ',h4,h5⟩:=ZaS hT (ZsB h3)
     exact ⟨σ',h4,by simp only[hT _ _ _ _ _ h1 h2];exact h5⟩
    ·exact h.elim
   ·rw[hg]
    split at h
    ·rename_i d hd
     rw[Zr2] at h
     obtain ⟨σ',h4,h5⟩:=ZaS hT h
     exact ⟨σ',h4,by simp only[hd];exact h5⟩
    ·rename_i hd
     obtain ⟨σ',h4,h5⟩:=ZaS hT h
     exact ⟨σ',h4,by simp only[hd];exact h5⟩
def Zlp(Γ:List (Nat×Ty))(R:RSy)(ops:List Oper)(cls:List Nat)(ws:List (Nat×Nat))(D Src:List Nat)(β:St)(A:List En)(j:Nat)(o:Oper)(K:En→Prop):Prop:=
 Zfv (tau ws cls A β j (ZZ cls j) (ZcO ops o)) fun τ=>
 ZjC τ ops o
  (match o.op,o.dst with
   | .store T p x,none=>match Wr Γ τ T p x with
     | some σ'=>match σ'.boxes with
       | (b,cs)::_=>bif JX j b ws&&Zjr Src x then K ⟨j,none,some (b,cs),none⟩ else False
       | []=>False
     | none=>False
   | _,some d=>match R j τ o with
     | some (r,ps)=>alls ps (match r.box with
       | none=>K ⟨j,some (d,r.av),none,JY D ws d r.link⟩
       | some cs=>bif JX j d ws&&Yf (lk d β.boxes)&&ws.all (fun (s,b)=> !(Nat.beq b d)||Nat.ble j s) then K ⟨j,some (d,r.av),some (d,cs),JY D ws d r.link⟩ else False)
     | none=>False
   | _,none=>match R j τ o with
     | some (r,ps)=>alls ps (bif Yf r.box then K ⟨j,none,none,none⟩ else False)
     | none=>False)
  (K ⟨j,skE τ.n o.dst,none,none⟩)
theorem Zq1{Γ:List (Nat×Ty)}{R:RSy}{R0:Nat→St→Oper→Option Res}(hR:RSub R R0){ops:List Oper}{cls:List Nat}{ws:List (Nat×Nat)}{D Src:List Nat}{β:St}{A:List En}{j:Nat}{o:Oper}{K:En→Prop}
 (h:Zlp Γ R ops cls ws D Src β A j o K):∃e,K e∧ZaQ Γ R0 ops cls ws D Src β A j o=some e:=by
 unfold Zlp at h
 rw[ZcR] at h
 unfold ZaQ
 simp only
 generalize tau ws cls A β j (ZZ cls j) (ZcO ops o)=τ at h ⊢
 have key1:∀(o:Oper) (d:Nat),(match R j τ o with
      | some (r,ps)=>alls ps (match r.box with
        | none=>K ⟨j,some (d,r.av),none,JY D ws d r.link⟩
        | some cs=>bif JX j d ws&&Yf (lk d β.boxes)&&ws.all (fun (s,b)=> !(Nat.beq b d)||Nat.ble j s) then K ⟨j,some (d,r.av),some (d,cs),JY D ws d r.link⟩ else False)
      | none=>False)→∃e,K e∧(match R0 j τ o with
  | some r=>match r.box with
    | none=>some (⟨j,some (d,r.av),none,JY D ws d r.link⟩:En)
    | some cs=>bif JX j d ws&&Yf (lk d β.boxes)&&ws.all (fun (s,b)=> !(Nat.beq b d)||Nat.ble j s) then some ⟨j,some (d,r.av),some (d,cs),JY D ws d r.link⟩ else none
  | none=>none)=some e:=by
  intro o d h
  split at h
  ·rename_i r ps h1
   obtain ⟨h2,h3⟩:=XH h
   have hr:=hR _ _ _ _ _ h1 h2
   simp only[hr]
   split at h3
   ·exact ⟨_,h3,rfl⟩
   ·rename_i cs hbx
    cases hb:(JX j d ws&&Yf (lk d β.boxes)&&ws.all (fun (s,b)=> !(Nat.beq b d)||Nat.ble j s)) with
    | false=>rw[hb] at h3;exact h3.elim
    | true=>
      rw[hb] at h3
      exact ⟨_,h3,rfl⟩
  ·exact h.elim
 have key0:∀(o:Oper),(match R j τ o with
      | some (r,ps)=>alls ps (bif Yf r.box then K ⟨j,none,none,none⟩ else False)
      | none=>False)→∃e,K e∧(match R0 j τ o with
  | some r=>bif Yf r.box then some (⟨j,none,none,none⟩:En) else none
  | none=>none)=some e:=by
  intro o h
  split at h
  ·rename_i r ps h1
   obtain ⟨h2,h3⟩:=XH h
   have hr:=hR _ _ _ _ _ h1 h2
   simp only[hr]
   cases hb:Yf r.box with
   | false=>rw[hb] at h3;exact h3.elim
   | true=>
     rw[hb] at h3
     exact ⟨_,h3,rfl⟩
  ·exact h.elim
 rcases ZjD h with ⟨hg,h⟩ | ⟨hg,h⟩
 ·simp only[hg]
  clear hg
  obtain ⟨dst,op,type,pos,after,guard⟩:=o
  cases op with
  | store T p x=>
    cases dst with
    | some d=>exact key1 _ d h
    | none=>
      simp only at h ⊢
      split at h
      ·rename_i σ' hs
       simp only[hs]
       split at h
       ·rename_i b cs _ hbx
        simp only[hbx]
        cases hb:(JX j b ws&&Zjr Src x) with
        | false=>rw[hb] at h;exact h.elim
        | true=>
          rw[hb] at h
          exact ⟨_,h,rfl⟩
       ·exact h.elim
      ·exact h.elim
  | _=>
    cases dst with
    | some d=>exact key1 _ d h
    | none=>exact key0 _ h
 ·simp only[hg]
  exact ⟨_,h,rfl⟩
def ZjE(Γ:List (Nat×Ty))(R:RSy)(ops:List Oper)(cls:List Nat)(ws:List (Nat×Nat))(D Src:List Nat)(β:St):List Oper→Nat→List En→(List En→Prop)→Prop
 | [],_,A,K=>K A
 | o::r,j,A,K=>Zlp Γ R ops cls ws D Src β A j o fun e=>sEn e fun e=>Zow (Z06 ops j) e fun e=>ZjE Γ R ops cls ws D Src β r (j+1) (e::A) K
theorem ZjF{Γ:List (Nat×Ty)}{R:RSy}{R0:Nat→St→Oper→Option Res}(hR:RSub R R0){ops:List Oper}{cls:List Nat}{ws:List (Nat×Nat)}{D Src:List Nat}{β:St}{K:List En→Prop}:∀{l:List Oper} {j:Nat} {A:List En},
 ZjE Γ R ops cls ws D Src β l j A K→∃A',K A'∧frees Γ R0 ops cls ws D Src β l j A=some A'
 | [],j,A,h=>⟨A,h,rfl⟩
 | o::r,j,A,h=>by
   unfold ZjE at h
   obtain ⟨e,h1,h2⟩:=Zq1 hR h
   rw[Z05] at h1
   obtain ⟨A',h3,h4⟩:=ZjF hR (ZsA h1)
   exact ⟨A',h3,by unfold frees;rw[h2];exact h4⟩
def Zr3(Γ:List (Nat×Ty))(R:RSy)(T:TSy)(ops:List Oper)(σ:St)(ws:List (Nat×Nat))(K:St→Prop):Prop:=
 fNs (Zaq ops []) fun cls=>fN (Xm cls ops.length) fun k=>fNs (YI (ops.take k)) fun D=>fNs (Js (ops.take k)) fun Src=>fWs ws fun ws=>
 bif ZbR ops 0&&Zaf D&&ZnL cls ws then
  Zfv (Zae D Src ws σ) fun β=>ZjE Γ R ops cls ws D Src β (ops.take k) 0 [] fun A=>Zfv (Zc5 β A) fun σ=>Zdi T ops (ops.drop k) k σ K
 else False
def Zoy(Γ:List (Nat×Ty))(R:RSy)(T:TSy)(ops:Array Oper)(d:Bool)(σ:St)(K:St→Prop):Prop:=
 match d with
 | true=>let l:=ops.toList
   Zr3 Γ R T l σ (Zfi l σ (l.take (Xm (Zaq l []) l.length)) 0) K
 | false=>Zdi T ops.toList ops.toList 0 σ K
theorem ZsC{Γ:List (Nat×Ty)}{R:RSy}{R0:Nat→St→Oper→Option Res}(hR:RSub R R0){T:TSy}{T0:Nat→St→Oper→Option St}(hT:TSub T T0){ops:Array Oper}{d:Bool}{σ:St}{K:St→Prop}
 (h:Zoy Γ R T ops d σ K):∃σ',K σ'∧ZdN Γ R0 T0 ops d σ=some σ':=by
 cases d with
 | false=>exact ZaS hT h
 | true=>
   simp only[Zoy,Zr3,Jt,ZW,Zoo,ZcR] at h
   simp only[ZdN,Ze8]
   cases hb:(ZbR ops.toList 0&&Zaf (YI (ops.toList.take (Xm (Zaq ops.toList []) ops.toList.length)))&&ZnL (Zaq ops.toList []) (Zfi ops.toList σ (ops.toList.take (Xm (Zaq ops.toList []) ops.toList.length)) 0)) with
   | false=>rw[hb] at h;exact h.elim
   | true=>
     rw[hb] at h
     simp only[Qb_] at h ⊢
     obtain ⟨A,h1,h2⟩:=ZjF hR h
     obtain ⟨σ',h3,h4⟩:=ZaS hT h1
     exact ⟨σ',h3,by rw[h2];exact h4⟩
def X1:Code→Nat
 | .region id _ _=>id+1
 | .seq x y=>match X1 x with
   | 0=>X1 y
   | k=>k
 | .cond _ x y=>match X1 x with
   | 0=>X1 y
   | k=>k
 | .block _ c=>X1 c
 | .loop c=>X1 c
 | .scope c=>X1 c
 | _=>0
def ZD:Code→List Code
 | .seq x y=>ZD x++ZD y
 | .cond _ x y=>ZD x++ZD y
 | .block _ c=>ZD c
 | .loop c=>c::ZD c
 | .scope c=>ZD c
 | _=>[]
theorem Zai:∀{s:Code} {l:Nat} {rest:Code},findLabel s l=some rest→∀b∈ZD rest,b∈ZD s
 | .seq x y,l,rest,h,b,hb=>by
   unfold findLabel at h
   split at h
   ·rename_i r1 h1
    have:=Qa_ h
    subst this
    simp only[ZD,Kv_] at hb ⊢
    rcases hb with hb | hb
    ·exact .inl (Zai h1 b hb)
    ·exact .inr hb
   ·simp only[ZD,Kv_]
    exact .inr (Zai h b hb)
 | .label k,l,rest,h,b,hb=>by
   unfold findLabel at h
   split at h
   ·have:=Qa_ h
    subst this
    exact absurd hb (by simp[ZD])
   ·cases h
 | .skip,_,_,h,_,_=>absurd h (by simp[findLabel])
 | .region _ _ _,_,_,h,_,_=>absurd h (by simp[findLabel])
 | .cond _ _ _,_,_,h,_,_=>absurd h (by simp[findLabel])
 | .block _ _,_,_,h,_,_=>absurd h (by simp[findLabel])
 | .loop _,_,_,h,_,_=>absurd h (by simp[findLabel])
 | .rangeFunc _ _ _ _,_,_,h,_,_=>absurd h (by simp[findLabel])
 | .exit _,_,_,h,_,_=>absurd h (by simp[findLabel])
 | .scope _,_,_,h,_,_=>absurd h (by simp[findLabel])
 | .goto _,_,_,h,_,_=>absurd h (by simp[findLabel])
 | .ret,_,_,h,_,_=>absurd h (by simp[findLabel])
 | .refuse _,_,_,h,_,_=>absurd h (by simp[findLabel])
abbrev LSum:=St→(Ex→St→Prop)→Prop
def Yl(P:Program)(b:Code)(S:LSum):Prop:=∀σ K,S σ K→∃e σ',K e σ'∧Tri P (.loop b) σ e σ'
def YJ(Γ:List (Nat×Ty))(R:RSy)(T:TSy)(LS:List (Nat×LSum)):Nat→Option Code→Code→St→(Ex→St→Prop)→Prop
 | 0,_,_,_,_=>False
 | n+1,some s,c,σ,K=>Zfv (clean (XX s) σ) fun σ=>YJ Γ R T LS n none c σ fun e σ1=>match e with
   | .goto l=>match findLabel s l with
     | some rest=>YJ Γ R T LS n (some s) rest σ1 K
     | none=>K (.goto l) σ1
   | e=>K e σ1
 | n+1,none,c,σ,K=>match c with
   | .scope s=>YJ Γ R T LS n (some s) s σ K
   | .skip=>K .normal σ
   | .label _=>K .normal σ
   | .exit i=>K (.exit i) σ
   | .goto i=>K (.goto i) σ
   | .ret=>K .ret σ
   | .region _ ops d=>Zoy Γ R T ops d σ fun σ'=>K .normal σ'
   | .seq x y=>YJ Γ R T LS n none x σ fun e σ1=>match e with
     | .normal=>YJ Γ R T LS n none y σ1 K
     | e=>K e σ1
   | .cond c x y=>match Z0 σ c with
     | some (.v (.bool b))=>(match b with
       | true=>YJ Γ R T LS n none x σ K
       | false=>YJ Γ R T LS n none y σ K)
     | _=>False
   | .block id c=>YJ Γ R T LS n none c σ fun e σ1=>match e with
     | .exit i=>(match Nat.beq i id with
       | true=>K .normal σ1
       | false=>K (.exit i) σ1)
     | e=>K e σ1
   | .loop c=>match lk (X1 c) LS with
     | some S=>S σ fun e σ1=>Zov σ1 fun σ1=>K e σ1
     | none=>Zfv (clean (XX c) σ) fun σ=>YJ Γ R T LS n none c σ fun e σ1=>match e with
       | .normal=>YJ Γ R T LS n none (.loop c) σ1 K
       | e=>K e σ1
   | _=>False
section
variable {P:Program}{B:Nat}{g:G}{σ τ:St}{a:Act}{w:World}
theorem ZaT{Γ:List (Nat×Ty)}(hΓ:Ye P Γ)(hm:P.follows .mixedOrders=true){R:RSy}{R0:Nat→St→Oper→Option Res}(hRS:RSub R R0)(hR:∀j τ o r,R0 j τ o=some r→XU P τ o r)
 {T:TSy} {T0:Nat→St→Oper→Option St} (hTS:TSub T T0) (hT:∀j σ o σ',T0 j σ o=some σ'→∀B g a w,Inv P B g σ a w→Goes P B g σ a w o σ') {LS:List (Nat×LSum)}:
 ∀(n:Nat),(∀(c:Code) (σ:St) (K:Ex→St→Prop),(∀b∈ZD c,∀S,lk (X1 b) LS=some S→Yl P b S)→YJ Γ R T LS n none c σ K→∃e σ',K e σ'∧Tri P c σ e σ'∧∀b,c= .loop b→lk (X1 b) LS=none→∃k,Jr P k b σ e σ')∧
  ∀(s c:Code) (σ:St) (K:Ex→St→Prop),(∀b∈ZD s,∀S,lk (X1 b) LS=some S→Yl P b S)→(∀b∈ZD c,∀S,lk (X1 b) LS=some S→Yl P b S)→YJ Γ R T LS n (some s) c σ K→∃e σ',K e σ'∧∃k,XL P s k c σ e σ':=by
 intro n
 induction n with
 | zero=>exact ⟨fun c σ K _ h=>h.elim,fun s c σ K _ _ h=>h.elim⟩
 | succ n ih=>
   refine ⟨?_,fun s c σ K hs hc h=>?_⟩
   rotate_left
   ·simp only[YJ,ZcR] at h
    obtain ⟨e,σ1,h1,h2,_⟩:=ih.1 _ _ _ hc h
    have out:(∀l,e≠ .goto l)→K e σ1→∃e σ',K e σ'∧∃k,XL P s k c σ e σ':=fun hne hk=>⟨e,σ1,hk,1,Ziy hne (XC h2)⟩
    cases e with
    | goto l=>
      simp only at h1
      split at h1
      ·rename_i rest hf
       obtain ⟨e',σ',k1,k,k2⟩:=ih.2 s rest σ1 K hs (fun b hb=>hs b (Zai hf b hb)) h1
       exact ⟨e',σ',k1,k+1,ZbP (XC h2) hf k2⟩
      ·rename_i hf
       exact ⟨_,σ1,h1,1,ZuA hf (XC h2)⟩
    | normal=>exact out (fun l=>by simp) h1
    | exit i=>exact out (fun l=>by simp) h1
    | ret=>exact out (fun l=>by simp) h1
   intro c σ K hl h
   cases c with
   | skip=>exact ⟨_,_,h,fun B g a w hI=>wp_skip ⟨trivial,g,hI,Fr.refl⟩,fun b hb=>absurd hb (by simp)⟩
   | label l=>exact ⟨_,_,h,fun B g a w hI=>wp_label ⟨trivial,g,hI,Fr.refl⟩,fun b hb=>absurd hb (by simp)⟩
   | exit i=>exact ⟨_,_,h,fun B g a w hI=>wp_exit ⟨rfl,g,hI,Fr.refl⟩,fun b hb=>absurd hb (by simp)⟩
   | goto i=>exact ⟨_,_,h,fun B g a w hI=>wp_goto ⟨rfl,g,hI,Fr.refl⟩,fun b hb=>absurd hb (by simp)⟩
   | ret=>exact ⟨_,_,h,fun B g a w hI=>wp_ret ⟨trivial,g,hI,Fr.refl⟩,fun b hb=>absurd hb (by simp)⟩
   | region id ops d=>
     obtain ⟨σ',h1,h2⟩:=ZsC hRS hTS (K:=fun σ'=>K .normal σ') h
     exact ⟨_,_,h1,Zep hΓ hm hR hT h2,fun b hb=>absurd hb (by simp)⟩
   | seq x y=>
     simp only[YJ] at h
     obtain ⟨e,σ1,h1,h2,_⟩:=ih.1 x σ _ (fun b hb=>hl b (by simp[ZD,hb])) h
     have out:e≠ .normal→K e σ1→∃e σ',K e σ'∧Tri P (.seq x y) σ e σ'∧∀b,Code.seq x y= .loop b→lk (X1 b) LS=none→∃k,Jr P k b σ e σ':=fun hne hk=>⟨e,σ1,hk,Zig hne h2,fun b hb=>absurd hb (by simp)⟩
     cases e with
     | normal=>
       obtain ⟨e',σ',k1,k2,_⟩:=ih.1 y σ1 _ (fun b hb=>hl b (by simp[ZD,hb])) h1
       exact ⟨e',σ',k1,ZkQ h2 k2,fun b hb=>absurd hb (by simp)⟩
     | exit i=>exact out (by simp) h1
     | goto l=>exact out (by simp) h1
     | ret=>exact out (by simp) h1
   | cond c x y=>
     simp only[YJ] at h
     split at h
     ·rename_i b hb
      cases b with
      | true=>
        obtain ⟨e,σ1,h1,h2,_⟩:=ih.1 x σ _ (fun b hb=>hl b (by simp[ZD,hb])) h
        exact ⟨e,σ1,h1,Zfb hb h2,fun b hb=>absurd hb (by simp)⟩
      | false=>
        obtain ⟨e,σ1,h1,h2,_⟩:=ih.1 y σ _ (fun b hb=>hl b (by simp[ZD,hb])) h
        exact ⟨e,σ1,h1,Zfb hb h2,fun b hb=>absurd hb (by simp)⟩
     ·exact h.elim
   | block id c=>
     simp only[YJ] at h
     obtain ⟨e,σ1,h1,h2,_⟩:=ih.1 c σ _ hl h
     cases e with
     | exit i=>
       have ht:=Ze6 (id:=id) h2
       simp only at h1
       cases hb:Nat.beq i id with
       | true=>rw[hb] at h1 ht;exact ⟨_,_,h1,ht,fun b hb=>absurd hb (by simp)⟩
       | false=>rw[hb] at h1 ht;exact ⟨_,_,h1,ht,fun b hb=>absurd hb (by simp)⟩
     | normal=>exact ⟨_,_,h1,ZdK h2 (fun i=>by simp),fun b hb=>absurd hb (by simp)⟩
     | goto l=>exact ⟨_,_,h1,ZdK h2 (fun i=>by simp),fun b hb=>absurd hb (by simp)⟩
     | ret=>exact ⟨_,_,h1,ZdK h2 (fun i=>by simp),fun b hb=>absurd hb (by simp)⟩
   | loop c=>
     simp only[YJ] at h
     split at h
     ·rename_i S hS
      obtain ⟨e,σ1,h1,h2⟩:=hl c (by simp[ZD]) S hS _ _ h
      rw[Zlo] at h1
      exact ⟨e,σ1,h1,h2,fun b hb hn=>by cases hb;rw[hS] at hn;cases hn⟩
     ·rename_i hS
      rw[ZcR] at h
      obtain ⟨e,σ1,h1,h2,_⟩:=ih.1 c _ _ (fun b hb=>hl b (by simp[ZD,hb])) h
      have out:e≠ .normal→K e σ1→∃e σ',K e σ'∧Tri P (.loop c) σ e σ'∧∀b,Code.loop c= .loop b→lk (X1 b) LS=none→∃k,Jr P k b σ e σ':=fun hne hk=>
       have ht:Jr P 1 c σ e σ1:=Zix hne (XC h2)
       ⟨e,σ1,hk,Zfa ht,fun b hb _=>by cases hb;exact ⟨1,ht⟩⟩
      cases e with
      | normal=>
        obtain ⟨e',σ',k1,_,k3⟩:=ih.1 (.loop c) σ1 K hl h1
        obtain ⟨k,k4⟩:=k3 c rfl hS
        have ht:Jr P (k+1) c σ e' σ':=ZeZ (XC h2) k4
        exact ⟨e',σ',k1,Zfa ht,fun b hb _=>by cases hb;exact ⟨k+1,ht⟩⟩
      | exit i=>exact out (by simp) h1
      | goto l=>exact out (by simp) h1
      | ret=>exact out (by simp) h1
   | scope c=>
     simp only[YJ] at h
     obtain ⟨e,σ',h1,k,h2⟩:=ih.2 c c σ K hl hl h
     exact ⟨e,σ',h1,Zgg h2,fun b hb=>absurd hb (by simp)⟩
   | rangeFunc f ps q c=>exact (show False from h).elim
   | refuse w=>exact (show False from h).elim
end
def Zd:PV→Int
 | .v (.int _ n)=>n
 | _=>0
def Zl:PV→Bool
 | .v (.bool b)=>b
 | _=>false
def Wh:PV→List UInt8
 | .str l=>l
 | _=>[]
def ZaU:PV→List (List PV)
 | .lst l=>l
 | _=>[]
def ZsD:PV→Nat
 | .v (.complex _ a _)=>a
 | _=>0
def ZsE:PV→Nat
 | .v (.complex _ _ b)=>b
 | _=>0
def Z2D(z p:PV):PV:=match z with
 | .v (.int k _)=> .v (.int k (Zd p))
 | .v (.bool _)=> .v (.bool (Zl p))
 | .v (.complex k _ _)=> .v (.complex k (ZsD p) (ZsE p))
 | .str _=> .str (Wh p)
 | .nil=> .lst (ZaU p)
 | _=>p
def YK:List PV→List PV→List PV
 | [],_=>[]
 | z::zs,ps=>Z2D z (ps.headD .nil)::YK zs ps.tail
def Zxk(op:BinOp)(x y:Value):Option (Value×List Prop):=
 match x,y with
 | .float k a,.float k' b=>bif decide (k=k') then (match op with
   | .eql=>some (.bool (k.format.order a b==some .eq),[])
   | .neq=>some (.bool (k.format.order a b !=some .eq),[])
   | .lss=>some (.bool (k.format.order a b==some .lt),[])
   | .leq=>some (.bool (k.format.order a b==some .lt||k.format.order a b==some .eq),[])
   | .gtr=>some (.bool (k.format.order a b==some .gt),[])
   | .geq=>some (.bool (k.format.order a b==some .gt||k.format.order a b==some .eq),[])
   | .add=>some (.float k ((k.format.add a b).getD 0),[k.format.add a b=some ((k.format.add a b).getD 0)])
   | .sub=>some (.float k ((k.format.sub a b).getD 0),[k.format.sub a b=some ((k.format.sub a b).getD 0)])
   | .mul=>some (.float k ((k.format.mul a b).getD 0),[k.format.mul a b=some ((k.format.mul a b).getD 0)])
   | _=>none) else none
 | .complex k a b,.complex k' c d=>bif decide (k=k') then (match op with
   | .eql=>some (.bool (k.format.order a c==some .eq&&k.format.order b d==some .eq),[])
   | .neq=>some (.bool (!(k.format.order a c==some .eq&&k.format.order b d==some .eq)),[])
   | .add=>some (.complex k ((k.format.add a c).getD 0) ((k.format.add b d).getD 0),[k.format.add a c=some ((k.format.add a c).getD 0),k.format.add b d=some ((k.format.add b d).getD 0)])
   | .sub=>some (.complex k ((k.format.sub a c).getD 0) ((k.format.sub b d).getD 0),[k.format.sub a c=some ((k.format.sub a c).getD 0),k.format.sub b d=some ((k.format.sub b d).getD 0)])
   | _=>none) else none
 | _,_=>none
def noP(x:Option PV):Option (PV×List Prop):=match x with
 | some r=>some (r,[])
 | none=>none
def ZsF(op:BinOp)(k:IntKind)(a b:Int):Option (PV×List Prop):=
 match op with
 | .quo=>some (.v (.int k (k.wrap (a.tdiv b))),[b≠0])
 | .rem=>some (.v (.int k (a.tmod b)),[b≠0])
 | .shl=>some (.v (.int k (k.wrap (a *2 ^ min b.toNat k.bits))),[0≤b])
 | .shr=>some (.v (.int k (a.fdiv (2 ^ min b.toNat k.bits))),[0≤b])
 | op=>match ZmN op k a b with
   | some r=>some (r,[])
   | none=>noP (ZrS op k a b)
def Zxl(E:Env)(op:BinOp)(T:TypeId)(x y:PV):Option (PV×List Prop):=
 match x,y with
 | .v (.int k a),.v (.int k' b)=>match op with
   | .shl=>ZsF .shl k a b
   | .shr=>ZsF .shr k a b
   | op=>bif decide (k=k') then ZsF op k a b else none
 | .v (.bool a),.v (.bool b)=>bif has T E.bools then noP (Zjy op a b) else none
 | .agg xs,.agg ys=>match lk T E.eqs with
   | some sh=>match Zq sh xs ys with
     | some b=>match op with
       | .eql=>some (.v (.bool b),[])
       | .neq=>some (.v (.bool (!b)),[])
       | _=>none
     | none=>none
   | none=>none
 | .v a,.v b=>match Zxk op a b with
   | some (r,ps)=>some (.v r,ps)
   | none=>none
 | .str a,.str b=>match op with
   | .add=>some (.str (a++b),[a.length+b.length≤9223372036854775807])
   | .eql=>some (.v (.bool (a==b)),[])
   | .neq=>some (.v (.bool (!(a==b))),[])
   | _=>none
 | _,_=>none
def ZuX(Γ:List (Nat×Ty))(T:TypeId)(x i:PV):Option (PV×List Prop):=
 match lk T Γ,i with
 | some ty,.v (.int _ n)=>match ty.kd,x with
   | 4,.str l=>some (.v (.int .u8 ((l.getD n.toNat 0).toNat:Int)),[0≤n∧n < l.length])
   | 2,.agg cs=>match lk ty.elem Γ with
     | some ety=>bif Nat.beq cs.length (ty.len *ety.size)&& !(Nat.beq ety.size 0) then
        (match rd ety (YK ety.zero ((chunk ety.size ty.len cs).getD n.toNat [])) 0 with
        | some r=>bif Nat.beq (YK ety.zero ((chunk ety.size ty.len cs).getD n.toNat [])).length ety.size then some (r,[0≤n∧(chunk ety.size ty.len cs)[n.toNat]?=some (YK ety.zero ((chunk ety.size ty.len cs).getD n.toNat []))]) else none
        | none=>none)
       else none
     | none=>none
   | _,_=>none
 | _,_=>none
def ZjG(Γ:List (Nat×Ty))(T:TypeId)(x:AV)(i:PV):Option (AV×List Prop):=
 match lk T Γ,i with
 | some ty,.v (.int _ n)=>match ty.kd,x with
   | 3,.p (.lst xs)=>match lk ty.elem Γ with
     | some ety=>bif Nat.beq (YK ety.zero (xs.getD n.toNat [])).length ety.size&& !(Nat.beq ety.size 0) then some (.p (.lptr (YK ety.zero (xs.getD n.toNat [])) 0),[0≤n∧xs[n.toNat]?=some (YK ety.zero (xs.getD n.toNat []))]) else none
     | none=>none
   | 2,.ptr b off=>match lk ty.elem Γ with
     | some ety=>some (.ptr b (off+n.toNat *ety.size),[0≤n∧n < ty.len])
     | none=>none
   | 2,.p (.lptr cs off)=>match lk ty.elem Γ with
     | some ety=>some (.p (.lptr cs (off+n.toNat *ety.size)),[0≤n∧n < ty.len])
     | none=>none
   | _,_=>none
 | _,_=>none
def Zg3(Γ:List (Nat×Ty))(T:TypeId)(x:PV)(lo hi:Option PV):Option (PV×List Prop):=
 match lk T Γ with
 | some ty=>match ty.kd,x,lo,hi with
   | 4,.str l,some (.v (.int _ a)),some (.v (.int _ b))=>some (.str ((l.drop a.toNat).take (b.toNat - a.toNat)),[0≤a∧a≤b∧b≤l.length])
   | 4,.str l,some (.v (.int _ a)),none=>some (.str (l.drop a.toNat),[0≤a∧a≤l.length])
   | 4,.str l,none,some (.v (.int _ b))=>some (.str (l.take b.toNat),[0≤b∧b≤l.length])
   | 3,.lst l,lo,hi=>match lk ty.elem Γ,lo,hi with
     | some ety,some (.v (.int _ a)),some (.v (.int _ b))=>some (.lst ((l.drop a.toNat).take (b.toNat - a.toNat)),[0≤a∧a≤b∧b≤l.length∧Lens ety.size l])
     | some ety,some (.v (.int _ a)),none=>some (.lst (l.drop a.toNat),[0≤a∧a≤l.length∧Lens ety.size l])
     | some ety,none,some (.v (.int _ b))=>some (.lst (l.take b.toNat),[0≤b∧b≤l.length∧Lens ety.size l])
     | _,_,_=>none
   | _,_,_,_=>none
 | none=>none
def Zoz(E:Env)(S T:TypeId)(x:PV):Option (PV×List Prop):=
 match x with
 | .v (.int _ n)=>noP (ZnW E S T n)
 | .v (.float s b)=>match lk T E.ints,lk S E.flts with
   | some k,some _=>some (.v (.int k (((s.decode b).toInt .zero).getD 0)),[(s.decode b).toInt .zero=some (((s.decode b).toInt .zero).getD 0),k.min≤((s.decode b).toInt .zero).getD 0,((s.decode b).toInt .zero).getD 0≤k.max])
   | _,_=>none
 | .lst xs=>bif Wt E S&&YG E T then some (.str ((bytesOf xs).getD []),[bytesOf xs=some ((bytesOf xs).getD [])]) else none
 | .nil=>bif Wt E S&&YG E T then some (.str [],[]) else none
 | .str l=>bif YG E S&&YG E T then some (.str l,[]) else none
 | _=>none
def ZyH(Γ:List (Nat×Ty))(T:TypeId)(l c:PV):Option (PV×List Prop):=
 match lk T Γ,l,c with
 | some ty,.v (.int _ n),.v (.int _ m)=>bif Nat.beq ty.kd 3 then
    match lk ty.elem Γ with
    | some ety=>bif Nat.beq ety.size 0|| !(Nat.beq ety.zero.length ety.size) then none else some (.lst (chunk ety.size n.toNat (reps n.toNat ety.zero)),[n=m,0≤n,n.toNat *ety.size < 16777216,n.toNat *ety.bytes < 16777216])
    | none=>none
   else none
 | _,_,_=>none
abbrev ZP:=Nat→List PV→Option (PV×List Prop)
open Classical in
noncomputable def CH(C:ZP):Xn:=fun f args=>match C f args with
 | some (r,ps)=>if Yi ps then some r else none
 | none=>none
def CSOk(P:Program)(C:ZP):Prop:=∀f args r ps,C f args=some (r,ps)→Yi ps→Con P f args r
theorem ZjH{P:Program}{C:ZP}(h:CSOk P C):ZbU P (CH C):=fun f args r hr=>by
 unfold CH at hr
 split at hr
 ·rename_i r' ps h1
  split at hr
  ·rename_i hp
   have:=Qa_ hr
   subst this
   exact h _ _ _ _ h1 hp
  ·cases hr
 ·cases hr
def ZyI(C:ZP)(σ:St)(f:Operand)(args:List Operand):Option (PV×List Prop):=
 match opd σ f,XW (opd σ) args with
 | some (.p (.fn g cs)),some l=>match Xx σ.boxes l with
   | some (xs,c)=>match C g (xs++cs) with
     | some (r,ps)=>bif !c||flat r then some (r,ps) else none
     | none=>none
   | none=>none
 | some (.fnp g bs),some l=>match Xx σ.boxes l,Zc1 σ.boxes bs with
   | some (xs,_),some cs=>match C g (xs++cs) with
     | some (r,ps)=>bif flat r then some (r,ps) else none
     | none=>none
   | _,_=>none
 | _,_=>none
def W2(σ:St)(o:Oper)(x:Option (PV×List Prop)):Option (Res×List Prop):=
 match o.dst,x with
 | some d,some (x,ps)=>bif Nat.blt d σ.n then some (⟨.p x,none,none⟩,ps) else none
 | _,_=>none
def noR(x:Option Res):Option (Res×List Prop):=match x with
 | some r=>some (r,[])
 | none=>none
def ZjI:Xn:=fun _ _=>none
def RSym(E:Env)(C:ZP)(j:Nat)(σ:St)(o:Oper):Option (Res×List Prop):=
 match o.op with
 | .binOp op T x y _=>match ZnZ y with
   | true=>noR (RR E ZjI j σ o)
   | false=>match Z0 σ x,Z0 σ y with
     | some a,some b=>W2 σ o (Zxl E op T a b)
     | _,_=>none
 | .pick c x y=>match Z0 σ c,Z0 σ x,Z0 σ y with
   | some (.v (.bool true)),some a,_=>W2 σ o (some (a,[]))
   | some (.v (.bool false)),_,some b=>W2 σ o (some (b,[]))
   | _,_,_=>none
 | .index T x i=>match Z0 σ x,Z0 σ i with
   | some (.agg _),some _=>noR (RR E ZjI j σ o)
   | some a,some j=>W2 σ o (ZuX E.Γ T a j)
   | _,_=>none
 | .indexAddr T x i=>match opd σ x,Z0 σ i,o.dst with
   | some a,some j,some d=>match ZjG E.Γ T a j with
     | some (r,ps)=>bif Nat.blt d σ.n then some (⟨r,none,none⟩,ps) else none
     | none=>none
   | _,_,_=>none
 | .slice T x lo hi none=>match Z0 σ x with
   | some a=>match lo,hi with
     | none,none=>none
     | some l,none=>match Z0 σ l with | some l=>W2 σ o (Zg3 E.Γ T a (some l) none) | none=>none
     | none,some h=>match Z0 σ h with | some h=>W2 σ o (Zg3 E.Γ T a none (some h)) | none=>none
     | some l,some h=>match Z0 σ l,Z0 σ h with | some l,some h=>W2 σ o (Zg3 E.Γ T a (some l) (some h)) | _,_=>none
   | none=>none
 | .slice _ _ _ _ (some _)=>none
 | .convert S T x=>match Z0 σ x with
   | some (.str l)=>match Zjz E S T l with
     | some r=>W2 σ o (some (r,[]))
     | none=>W2 σ o (Zoz E S T (.str l))
   | some a=>W2 σ o (Zoz E S T a)
   | none=>none
 | .makeSlice T l c=>match Z0 σ l,Z0 σ c with
   | some l,some c=>W2 σ o (ZyH E.Γ T l c)
   | _,_=>none
 | .call ⟨.value f,args,_⟩=>W2 σ o (ZyI C σ f args.toList)
 | _=>noR (RR E ZjI j σ o)
section
variable {P:Program}{σ:St}{o:Oper}
theorem Xc{x:Option (PV×List Prop)}{r:Res}{ps:List Prop}(h:W2 σ o x=some (r,ps)):∃d y,o.dst=some d∧x=some (y,ps)∧Nat.blt d σ.n=true∧r=⟨.p y,none,none⟩:=by
 unfold W2 at h
 split at h
 ·rename_i d y q hd
  cases hb:Nat.blt d σ.n with
  | false=>rw[hb] at h;cases h
  | true=>
    rw[hb] at h
    have:=Qa_ h
    cases this
    exact ⟨d,y,hd,rfl,hb,rfl⟩
 ·cases h
theorem Xo{E:Env}{call:Xn}{os ob:List Obl}{d:Nat}{r:Res}(h1:Wg E call σ o=some os)(h2:Zo E.Γ σ o os=some (r,[],ob))(hd:o.dst=some d)(hb:Nat.blt d σ.n=true)(hl:Zgd d r.link=true):
 RRgen E call σ o=some r:=by
 unfold RRgen
 rw[h1]
 simp only[JH,h2,hd]
 have:rewr d r []=some (r,[],[]):=rfl
 rw[this]
 simp only[hb,hl,QZ_,Qb_]
theorem Zxm{op:BinOp}{x y r:Value}{ps:List Prop}(h:Zxk op x y=some (r,ps))(hp:Yi ps):ZnV op x y=some r:=by
 unfold Zxk at h
 unfold ZnV
 split at h
 ·rename_i k a k' b
  try simp only
  cases hk:decide (k=k') with
  | false=>rw[hk] at h;cases h
  | true=>
    rw[hk] at h
    simp only[Qb_] at h ⊢
    cases op<;>first
     | (have:=Qa_ h;cases this;rfl)
     | (have:=Qa_ h;cases this
        have hq:=hp _ (Qv_ ..)
        rw[hq]
        simp)
     | cases h
 ·rename_i k a b k' c d
  try simp only
  cases hk:decide (k=k') with
  | false=>rw[hk] at h;cases h
  | true=>
    rw[hk] at h
    simp only[Qb_] at h ⊢
    cases op<;>first
     | (have:=Qa_ h;cases this;rfl)
     | (have:=Qa_ h;cases this
        have hq:=hp _ (Qv_ ..)
        have hq2:=hp _ (Qq_ _ (Qv_ ..))
        rw[hq,hq2]
        simp)
     | cases h
 ·cases h
theorem one{p:Prop}{l:List Prop}(h:Yi (p::l)):p:=h _ (Qv_ ..)
theorem ZuY{E:Env}{op:BinOp}{T:TypeId}{x y r:PV}{ps:List Prop}(h:Zxl E op T x y=some (r,ps))(hp:Yi ps):
 ∃os ob,Xg E op T x y=some os∧YO op T x y os=some (r,[],ob):=by
 unfold Zxl at h
 split at h
 ·rename_i k a k' b
  split at h
  ·have:=Qa_ h;cases this
   have hb:decide (0≤b)=true:=by simpa using one hp
   exact ⟨[.pr True],_,by simp[Xg,hb],by simp[YO];rfl⟩
  ·have:=Qa_ h;cases this
   have hb:decide (0≤b)=true:=by simpa using one hp
   exact ⟨[.pr True],_,by simp[Xg,hb],by simp[YO];rfl⟩
  rename_i n1 n2
  cases hk:decide (k=k') with
  | false=>rw[hk] at h;cases h
  | true=>
    rw[hk] at h
    simp only[Qb_] at h
    have ek:=Qy_ hk
    subst ek
    cases op with
    | shl=>exact (n1 rfl).elim
    | shr=>exact (n2 rfl).elim
    | quo=>
      have:=Qa_ h;cases this
      have hb:(b==0)=false:=by simpa using one hp
      exact ⟨[.pr True],_,by simp[Xg,hb],by simp[YO];rfl⟩
    | rem=>
      have:=Qa_ h;cases this
      have hb:(b==0)=false:=by simpa using one hp
      exact ⟨[.pr True],_,by simp[Xg,hb],by simp[YO];rfl⟩
    | _=>
      simp only[ZsF] at h
      split at h
      ·rename_i r0 hr0
       have:=Qa_ h;cases this
       exact ⟨[.bin _ T (.v (.int k a)) (.v (.int k b)) r],_,by simp only[Xg,hr0,QD_,Qb_];rfl,by simp only[YO];rfl⟩
      ·rename_i hr0
       unfold noP at h
       split at h
       ·rename_i r0 hr1
        have:=Qa_ h;cases this
        exact ⟨[],[],by simp only[Xg,hr0],by simp only[YO,QD_,Qb_,hr1]⟩
       ·cases h
 ·rename_i a b
  cases hb:has T E.bools with
  | false=>rw[hb] at h;cases h
  | true=>
    rw[hb] at h
    simp only[Qb_] at h
    cases hr:Zjy op a b with
    | none=>rw[hr] at h;exact absurd h (by simp[noP])
    | some r0=>
      rw[hr] at h
      have:=Qa_ h;cases this
      exact ⟨[.bin op T (.v (.bool a)) (.v (.bool b)) r],_,by simp only[Xg,hb,hr,Qb_],by simp only[YO];rfl⟩
 ·rename_i xs ys
  split at h
  ·rename_i sh hsh
   split at h
   ·rename_i b hb
    split at h
    ·have:=Qa_ h;cases this
     exact ⟨[.bin .eql T (.agg xs) (.agg ys) (.v (.bool b))],_,by simp only[Xg,hsh,hb],by simp only[YO];rfl⟩
    ·have:=Qa_ h;cases this
     exact ⟨[.bin .neq T (.agg xs) (.agg ys) (.v (.bool (!b)))],_,by simp only[Xg,hsh,hb],by simp only[YO];rfl⟩
    ·cases h
   ·cases h
  ·cases h
 ·rename_i a b h1 h2
  split at h
  ·rename_i r0 q hr
   have:=Qa_ h;cases this
   have hf:=Zxm hr hp
   refine ⟨[.bin op T (.v a) (.v b) (.v r0)],_, ?_,by simp[YO];rfl⟩
   unfold Xg
   split
   ·rename_i k a' k' b' e1 e2;cases e1;cases e2;exact (h1 _ _ _ _ rfl rfl).elim
   ·rename_i a' b' e1 e2;cases e1;cases e2;exact (h2 _ _ rfl rfl).elim
   ·rename_i e1 e2;cases e1
   ·rename_i a' b' _ _ e1 e2;cases e1;cases e2;rw[hf]
   ·rename_i e1 e2;cases e1
   ·rename_i _ _ hh _;exact (hh _ _ rfl rfl).elim
  ·cases h
 ·rename_i a b
  split at h
  ·have:=Qa_ h;cases this
   have hb:Nat.ble (a.length+b.length) 9223372036854775807=true:=by simpa using one hp
   exact ⟨[.pr True],_,by simp[Xg,hb],by simp[YO];rfl⟩
  ·have:=Qa_ h;cases this
   exact ⟨[],[],by simp[Xg],by simp[YO]⟩
  ·have:=Qa_ h;cases this
   exact ⟨[],[],by simp[Xg],by simp[YO]⟩
  ·cases h
 ·cases h
end
section
variable {P:Program}{σ:St}{o:Oper}
theorem ZhD{x:Option Res}{r:Res}{ps:List Prop}(h:noR x=some (r,ps)):x=some r∧ps=[]:=by
 unfold noR at h
 split at h
 ·have:=Qa_ h
  cases this
  exact ⟨rfl,rfl⟩
 ·cases h
theorem ZzG{E:Env}{C:ZP}:RSub (RSym E C) (RR E (CH C)):=by
 intro j τ o r ps h hp
 obtain ⟨dst,op,type,pos,after,guard⟩:=o
 unfold RSym at h
 cases op with
 | binOp op T x y yT=>
   simp only at h
   split at h
   ·rename_i hn
    obtain ⟨h1,_⟩:=ZhD h
    simp only[RR,hn] at h1 ⊢
    exact h1
   ·rename_i hn
    split at h
    ·rename_i a b ha hb
     obtain ⟨d,y0,hd,hs,hlt,rfl⟩:=Xc h
     simp only at hd
     subst hd
     obtain ⟨os,ob,h1,h2⟩:=ZuY hs hp
     simp only[RR,hn]
     exact Xo (os:=os) (ob:=ob) (by simp only[Wg,ha,hb,h1]) (by simp only[Zo,ha,hb,h2]) rfl hlt rfl
    ·cases h
 | pick c x y=>
   simp only at h
   split at h
   ·rename_i a hc hx
    obtain ⟨d,y0,hd,hs,hlt,rfl⟩:=Xc h
    simp only at hd
    subst hd
    cases hs
    simp only[RR]
    exact Xo (os:=[]) (ob:=[]) (by simp only[Wg]) (by simp only[Zo,hc,hx]) rfl hlt rfl
   ·rename_i a hc hx
    obtain ⟨d,y0,hd,hs,hlt,rfl⟩:=Xc h
    simp only at hd
    subst hd
    cases hs
    simp only[RR]
    exact Xo (os:=[]) (ob:=[]) (by simp only[Wg]) (by simp only[Zo,hc,hx]) rfl hlt rfl
   ·cases h
 | index T x i=>
   simp only at h
   split at h
   ·exact (ZhD h).1
   ·rename_i a b hna ha hb
    obtain ⟨d,y0,hd,hs,hlt,rfl⟩:=Xc h
    simp only at hd
    subst hd
    simp only[RR]
    unfold ZuX at hs
    split at hs
    ·rename_i ty k n hty
     split at hs
     ·rename_i l hk
      have:=Qa_ hs
      cases this
      have hq:=one hp
      exact Xo (os:=[.pr True]) (ob:=_) (by simp only[Wg,ha,hb,ZdP,hty,hk];simp[hq.1,hq.2]) (by simp only[Zo,ha,hb,Zbp,hty,hk];rfl) rfl hlt rfl
     ·rename_i cs hk
      split at hs
      ·rename_i ety hety
       generalize hy:YK ety.zero ((chunk ety.size ty.len cs).getD n.toNat [])=y at hs
       cases hb2:(Nat.beq cs.length (ty.len *ety.size)&& !(Nat.beq ety.size 0)) with
       | false=>rw[hb2] at hs;cases hs
       | true=>
         rw[hb2] at hs
         simp only[Qb_] at hs
         split at hs
         ·rename_i r0 hr0
          cases hb3:Nat.beq y.length ety.size with
          | false=>rw[hb3] at hs;cases hs
          | true=>
            rw[hb3] at hs
            have:=Qa_ hs
            cases this
            have hq:=one hp
            exact Xo (os:=[.idx [] 0 y]) (ob:=_) (by simp only[Wg,ha,hb,ZdP,hty,hk,hety,hq.2];simp[hq.1]) (by simp only[Zo,ha,hb,Zbp,hty,hk,hety,hb2,Qb_,hr0,hb3];rfl) rfl hlt rfl
         ·cases hs
      ·cases hs
     ·cases hs
    ·cases hs
   ·cases h
 | indexAddr T x i=>
   simp only at h
   split at h
   ·rename_i a b d ha hb
    split at h
    ·rename_i r0 q hs
     cases hlt:Nat.blt d τ.n with
     | false=>rw[hlt] at h;cases h
     | true=>
       rw[hlt] at h
       have:=Qa_ h
       cases this
       simp only[RR]
       unfold ZjG at hs
       split at hs
       ·rename_i ty k n hty
        split at hs
        ·rename_i xs hk
         split at hs
         ·rename_i ety hety
          generalize hy:YK ety.zero (xs.getD n.toNat [])=y at hs
          cases hb2:(Nat.beq y.length ety.size&& !(Nat.beq ety.size 0)) with
          | false=>rw[hb2] at hs;cases hs
          | true=>
            rw[hb2] at hs
            have:=Qa_ hs
            cases this
            have hq:=one hp
            exact Xo (os:=[.idx [] 0 y]) (ob:=_) (by simp only[Wg,ha,hb,WZ,hty,hk,hq.2];simp[hq.1]) (by simp only[Zo,ha,hb,hty,hk,hety,hb2,Qb_];rfl) rfl hlt rfl
         ·cases hs
        ·rename_i b0 off hk
         split at hs
         ·rename_i ety hety
          have:=Qa_ hs
          cases this
          have hq:=one hp
          exact Xo (os:=[.pr True]) (ob:=_) (by simp only[Wg,ha,hb,WZ,hty,hk];simp[hq.1,hq.2]) (by simp only[Zo,ha,hb,hty,hk,hety];rfl) rfl hlt rfl
         ·cases hs
        ·rename_i cs off hk
         split at hs
         ·rename_i ety hety
          have:=Qa_ hs
          cases this
          have hq:=one hp
          exact Xo (os:=[.pr True]) (ob:=_) (by simp only[Wg,ha,hb,WZ,hty,hk];simp[hq.1,hq.2]) (by simp only[Zo,ha,hb,hty,hk,hety];rfl) rfl hlt rfl
         ·cases hs
        ·cases hs
       ·cases hs
    ·cases h
   ·cases h
 | slice T x lo hi mx=>
   have key:∀(a:PV) (l h':Option PV) (y0:PV),Zg3 E.Γ T a l h'=some (y0,ps)→∃ob,X0 E.Γ T a l h'=some [.pr True]∧YN E.Γ T a l h' [.pr True]=some (y0,[],ob):=by
    intro a l h' y0 hs
    have lens:∀{n:Nat} {l:List (List PV)},Lens n l→W0 n l=true:=fun hl=>QK_.2 fun x hx=>by simpa using hl x hx
    unfold Zg3 at hs
    split at hs
    ·rename_i ty hty
     split at hs
     ·rename_i hk
      have:=Qa_ hs;cases this
      have hq:=one hp
      exact ⟨_,by simp only[X0,hty,hk];simp[hq.1,hq.2],by simp only[YN,hty,hk];rfl⟩
     ·rename_i hk
      have:=Qa_ hs;cases this
      have hq:=one hp
      exact ⟨_,by simp only[X0,hty,hk];simp[hq.1,hq.2],by simp only[YN,hty,hk];rfl⟩
     ·rename_i hk
      have:=Qa_ hs;cases this
      have hq:=one hp
      exact ⟨_,by simp only[X0,hty,hk];simp[hq.1,hq.2],by simp only[YN,hty,hk];rfl⟩
     ·rename_i l0 hk
      split at hs
      ·rename_i ety hety
       have:=Qa_ hs;cases this
       have hq:=one hp
       exact ⟨_,by simp only[X0,hty,hk,hety];simp[hq.1,hq.2.1,hq.2.2.1,lens hq.2.2.2],by simp only[YN,hty,hk,hety];rfl⟩
      ·rename_i ety hety
       have:=Qa_ hs;cases this
       have hq:=one hp
       exact ⟨_,by simp only[X0,hty,hk,hety];simp[hq.1,hq.2.1,lens hq.2.2],by simp only[YN,hty,hk,hety];rfl⟩
      ·rename_i ety hety
       have:=Qa_ hs;cases this
       have hq:=one hp
       exact ⟨_,by simp only[X0,hty,hk,hety];simp[hq.1,hq.2.1,lens hq.2.2],by simp only[YN,hty,hk,hety];rfl⟩
      ·cases hs
     ·cases hs
    ·cases hs
   cases mx with
   | some m=>cases h
   | none=>
     simp only at h
     split at h
     ·rename_i a ha
      simp only[RR]
      split at h
      ·cases h
      ·rename_i l
       split at h
       ·rename_i pl hl
        obtain ⟨d,y0,hd,hs,hlt,rfl⟩:=Xc h
        simp only at hd;subst hd
        obtain ⟨ob,h1,h2⟩:=key _ _ _ _ hs
        exact Xo (os:=[.pr True]) (ob:=ob) (by simp only[Wg,ha,hl,h1]) (by simp only[Zo,ha,hl,h2]) rfl hlt rfl
       ·cases h
      ·rename_i l
       split at h
       ·rename_i pl hl
        obtain ⟨d,y0,hd,hs,hlt,rfl⟩:=Xc h
        simp only at hd;subst hd
        obtain ⟨ob,h1,h2⟩:=key _ _ _ _ hs
        exact Xo (os:=[.pr True]) (ob:=ob) (by simp only[Wg,ha,hl,h1]) (by simp only[Zo,ha,hl,h2]) rfl hlt rfl
       ·cases h
      ·rename_i l m
       split at h
       ·rename_i pl pm hl hm
        obtain ⟨d,y0,hd,hs,hlt,rfl⟩:=Xc h
        simp only at hd;subst hd
        obtain ⟨ob,h1,h2⟩:=key _ _ _ _ hs
        exact Xo (os:=[.pr True]) (ob:=ob) (by simp only[Wg,ha,hl,hm,h1]) (by simp only[Zo,ha,hl,hm,h2]) rfl hlt rfl
       ·cases h
     ·cases h
 | convert S T x=>
   have key:∀(a y0:PV),Zoz E S T a=some (y0,ps)→Ze9 E S T a=some y0:=by
    intro a y0 hs
    unfold Zoz at hs
    unfold Ze9
    split at hs
    ·unfold noP at hs
     split at hs
     ·rename_i r0 hr0
      have:=Qa_ hs;cases this
      simp only[hr0]
     ·cases hs
    ·rename_i s b
     split at hs
     ·rename_i k s0 hk hs0
      have:=Qa_ hs;cases this
      have h1:=one hp
      have h2:=hp _ (Qq_ _ (Qv_ ..))
      have h3:=hp _ (Qq_ _ (Qq_ _ (Qv_ ..)))
      simp only[ZnX,hk,hs0]
      generalize ((s.decode b).toInt .zero).getD 0=z at h1 h2 h3
      rw[h1]
      simp[h2,h3]
     ·cases hs
    ·rename_i xs
     cases hb:(Wt E S&&YG E T) with
     | false=>rw[hb] at hs;cases hs
     | true=>
       rw[hb] at hs
       have:=Qa_ hs;cases this
       have h1:=one hp
       generalize (bytesOf xs).getD []=z at h1
       simp only[ZnY,hb,Qb_,h1]
    ·cases hb:(Wt E S&&YG E T) with
     | false=>rw[hb] at hs;cases hs
     | true=>
       rw[hb] at hs
       have:=Qa_ hs;cases this
       simp only[hb,Qb_]
    ·cases hb:(YG E S&&YG E T) with
     | false=>rw[hb] at hs;cases hs
     | true=>
       rw[hb] at hs
       have:=Qa_ hs;cases this
       simp only[hb,Qb_]
    ·cases hs
   have gen:∀(a y0:PV) (d:Nat),Z0 τ x=some a→Zoz E S T a=some (y0,ps)→Nat.blt d τ.n=true→RRgen E (CH C) τ ⟨some d,.convert S T x,type,pos,after,guard⟩=some ⟨.p y0,none,none⟩:=by
    intro a y0 d ha hs hlt
    exact Xo (os:=[.cvt S T a y0]) (ob:=_) (by simp only[Wg,ha,key a y0 hs]) (by simp only[Zo,ha];rfl) rfl hlt rfl
   simp only at h
   split at h
   ·rename_i l hx
    split at h
    ·rename_i r0 hr0
     obtain ⟨d,y0,hd,hs,hlt,rfl⟩:=Xc h
     simp only at hd;subst hd
     cases hs
     simp only[RR,hx,hr0,Zdb,hlt,Qb_]
    ·rename_i hr0
     obtain ⟨d,y0,hd,hs,hlt,rfl⟩:=Xc h
     simp only at hd;subst hd
     simp only[RR,hx,hr0]
     exact gen _ _ _ hx hs hlt
   ·rename_i a hne hx
    obtain ⟨d,y0,hd,hs,hlt,rfl⟩:=Xc h
    simp only at hd;subst hd
    unfold RR
    simp only
    split
    ·rename_i l hl
     rw[hx] at hl
     exact (hne l (Qa_ hl)).elim
    ·exact gen _ _ _ hx hs hlt
   ·cases h
 | makeSlice T l c=>
   simp only at h
   split at h
   ·rename_i pl pc hl hc
    obtain ⟨d,y0,hd,hs,hlt,rfl⟩:=Xc h
    simp only at hd;subst hd
    simp only[RR,hl,hc]
    unfold ZyH at hs
    split at hs
    ·rename_i ty k n k' m hty
     cases hk:Nat.beq ty.kd 3 with
     | false=>rw[hk] at hs;cases hs
     | true=>
       rw[hk] at hs
       simp only[Qb_] at hs
       split at hs
       ·rename_i ety hety
        cases hb:(Nat.beq ety.size 0|| !(Nat.beq ety.zero.length ety.size)) with
        | true=>rw[hb] at hs;cases hs
        | false=>
          rw[hb] at hs
          have:=Qa_ hs;cases this
          have h1:=one hp
          subst h1
          have h2:=hp _ (Qq_ _ (Qv_ ..))
          have h3:=hp _ (Qq_ _ (Qq_ _ (Qv_ ..)))
          have h4:=hp _ (Qq_ _ (Qq_ _ (Qq_ _ (Qv_ ..))))
          rw[Ka_] at hb
          have e3:Nat.ble 16777216 (n.toNat *ety.size)=false:=by
           cases hh:Nat.ble 16777216 (n.toNat *ety.size) with
           | false=>rfl
           | true=>have:=Qm_ hh;omega
          have e4:Nat.ble 16777216 (n.toNat *ety.bytes)=false:=by
           cases hh:Nat.ble 16777216 (n.toNat *ety.bytes) with
           | false=>rfl
           | true=>have:=Qm_ hh;omega
          simp only[Zdb,ZmO,hty,hk,hety,hb.1,hb.2,e3,e4,h2,QD_,QZ_,Qb_,Bool.or_self,Qd_,hlt]
       ·cases hs
    ·cases hs
   ·cases h
 | call c=>
   obtain ⟨callee,args,ats⟩:=c
   cases callee with
   | value f=>
     simp only at h
     obtain ⟨d,y0,hd,hs,hlt,rfl⟩:=Xc h
     simp only at hd;subst hd
     simp only[RR]
     have ch:∀g xs,C g xs=some (y0,ps)→CH C g xs=some y0:=by
      intro g xs hg
      unfold CH
      rw[hg]
      simp only[hp,Kw_]
     unfold ZyI at hs
     split at hs
     ·rename_i g0 cs l hf hl
      split at hs
      ·rename_i xs c hh
       split at hs
       ·rename_i r0 q hr0
        cases hb:(!c||flat r0) with
        | false=>rw[hb] at hs;cases hs
        | true=>
          rw[hb] at hs
          have:=Qa_ hs;cases this
          exact Xo (os:=[.call 0 [] y0]) (ob:=_) (by simp only[Wg,Zfl,hf,hl,hh,ch _ _ hr0]) (by simp only[Zo,hf,hl,hh,hb,Qb_];rfl) rfl hlt rfl
       ·cases hs
      ·cases hs
     ·rename_i g0 bs l hf hl
      split at hs
      ·rename_i xs c cs hh hcs
       split at hs
       ·rename_i r0 q hr0
        cases hb:flat r0 with
        | false=>rw[hb] at hs;cases hs
        | true=>
          rw[hb] at hs
          have:=Qa_ hs;cases this
          exact Xo (os:=[.call 0 [] y0]) (ob:=_) (by simp only[Wg,Zfl,hf,hl,hh,hcs,ch _ _ hr0]) (by simp only[Zo,hf,hl,hh,hcs,hb,Qb_];rfl) rfl hlt rfl
       ·cases hs
      ·cases hs
     ·cases hs
   | _=>
     obtain ⟨h1,_⟩:=ZhD h
     exact h1
 | _=>
   obtain ⟨h1,_⟩:=ZhD h
   exact h1
theorem ZjJ{E:Env}{C:ZP}:RSub (RSym E C) (RR2 E (CH C)):=fun j τ o r ps h hp=>by
 unfold RR2
 rw[ZzG j τ o r ps h hp]
end
def Zo0(Γ:List (Nat×Ty))(σ:St)(T:TypeId)(p x:Operand):Option (St×List Prop):=
 match opd σ p,Z0 σ x,lk T Γ with
 | some (.ptr b off),some v,some ty=>match lk b σ.boxes with
   | some cs=>bif Nat.beq v.cells.length ty.size&& !(Nat.beq ty.size 0)&& !(has b σ.ro) then
      match x with
      | .tmp t=>match lkL (.t t) σ.own with
        | some E=>some (YQ (Yj σ (.t t)) b off v.cells cs [(.b b off,E)],[off+ty.size≤cs.length])
        | none=>some (YQ σ b off v.cells cs [],[off+ty.size≤cs.length])
      | _=>some (YQ σ b off v.cells cs [],[off+ty.size≤cs.length])
     else none
   | none=>none
 | _,_,_=>none
theorem ZuZ{Γ:List (Nat×Ty)}{σ:St}{T:TypeId}{p x:Operand}{σ':St}{ps:List Prop}(h:Zo0 Γ σ T p x=some (σ',ps))(hp:Yi ps):Wr Γ σ T p x=some σ':=by
 unfold Zo0 at h
 unfold Wr
 split at h
 ·rename_i b off v ty h1 h2 h3
  simp only[h1,h2,h3]
  split at h
  ·rename_i cs h4
   simp only[h4]
   cases hb:(Nat.beq v.cells.length ty.size&& !(Nat.beq ty.size 0)&& !(has b σ.ro)) with
   | false=>rw[hb] at h;cases h
   | true=>
     rw[hb,Qb_] at h
     have key:off+ty.size≤cs.length→(Nat.beq v.cells.length ty.size&&Nat.ble (off+ty.size) cs.length&& !(Nat.beq ty.size 0)&& !(has b σ.ro))=true:=by
      intro hle
      simp only[Qh_] at hb ⊢
      exact ⟨⟨⟨hb.1.1,QF_ hle⟩,hb.1.2⟩,hb.2⟩
     have fin:∀{s0:St},some (s0,[off+ty.size≤cs.length])=some (σ',ps)→off+ty.size≤cs.length∧s0=σ':=by
      intro s0 e
      have e:=Qa_ e
      have e1:=Kk_ Prod.fst e
      have e2:=Kk_ Prod.snd e
      simp only at e1 e2
      subst e2
      exact ⟨hp _ Qv_,e1⟩
     split at h
     ·split at h
      ·rename_i t E h5
       obtain ⟨f1,f2⟩:=fin h
       rw[key f1,Qb_]
       simp only[h5,f2]
      ·rename_i t h5
       obtain ⟨f1,f2⟩:=fin h
       rw[key f1,Qb_]
       simp only[h5,f2]
     ·rename_i hx
      obtain ⟨f1,f2⟩:=fin h
      rw[key f1,Qb_]
      split
      ·rename_i t
       exact absurd rfl (hx t)
      ·rw[f2]
  ·cases h
 ·cases h
def ZjK(E:Env)(σ:St)(o:Oper):Option (Res×List Prop):=
 match o.dst,o.op with
 | some d,.indexAddr T x i=>match lk T E.Γ,opd σ x,Z0 σ i with
   | some ty,some (.sl b off n s),some (.v (.int _ m))=>match lk ty.elem E.Γ with
     | some ety=>bif Nat.blt d σ.n&&Nat.beq ty.kd 3&&Nat.beq ety.size s then some (⟨.ptr b (off+m.toNat *s),none,none⟩,[0≤m∧m < n]) else none
     | none=>none
   | _,_,_=>none
 | _,_=>none
theorem Zva{E:Env}{σ:St}{o:Oper}{r:Res}{ps:List Prop}(h:ZjK E σ o=some (r,ps))(hp:Yi ps):RRA E σ o=some r:=by
 obtain ⟨dst,op,type,pos,after,guard⟩:=o
 unfold ZjK at h
 split at h
 ·rename_i d T x i hd ho
  simp only at hd ho
  subst hd;subst ho
  split at h
  ·rename_i ty b off n s k m h1 h2 h3
   split at h
   ·rename_i ety h4
    cases hb:(Nat.blt d σ.n&&Nat.beq ty.kd 3&&Nat.beq ety.size s) with
    | false=>rw[hb] at h;cases h
    | true=>
      rw[hb] at h
      have h:=Qa_ h
      have e1:=Kk_ Prod.fst h
      have e2:=Kk_ Prod.snd h
      simp only at e1 e2
      subst e2;subst e1
      have hm:=hp _ Qv_
      simp only[Qh_] at hb
      unfold RRA
      simp only[h1,h2,h3,h4,hb.1.1,hb.1.2,hb.2,QH_ hm.1,QH_ hm.2,Qb_,QZ_]
   ·cases h
  ·cases h
 ·cases h
theorem Z1W{E:Env}{call:Xn}{j:Nat}{σ:St}{dst:Option Tmp}{T:TypeId}{x i:Operand}{ty':TypeId}{pos:String}{after:Array Edge}{gd:Option (Nat×Bool)}{b off n s:Nat}(h:opd σ x=some (.sl b off n s)):
 RR E call j σ ⟨dst,.indexAddr T x i,ty',pos,after,gd⟩=none:=by
 simp only[RR,RRgen]
 split
 ·rename_i os hos
  have:JH E.Γ σ ⟨dst,.indexAddr T x i,ty',pos,after,gd⟩ os=none:=by
   unfold JH
   have e:Zo E.Γ σ ⟨dst,.indexAddr T x i,ty',pos,after,gd⟩ os=none:=by
    simp only[Zo,h]
    cases lk T E.Γ with
    | none=>rfl
    | some t=>cases Z0 σ i with
      | none=>rfl
      | some y=>
        split
        ·rename_i h1 h2 h3
         cases h2
         split<;>simp_all
        ·rfl
   rw[e]
  rw[this]
 ·rfl
theorem Zvb{E:Env}{call:Xn}{j:Nat}{σ:St}{o:Oper}{r:Res}{ps:List Prop}(h:ZjK E σ o=some (r,ps))(hp:Yi ps):RR2 E call j σ o=some r:=by
 have h2:=Zva h hp
 obtain ⟨dst,op,type,pos,after,guard⟩:=o
 unfold ZjK at h
 split at h
 ·rename_i d T x i hd ho
  simp only at hd ho
  subst hd;subst ho
  split at h
  ·rename_i ty b off n s k m h1 h3 h4
   unfold RR2
   rw[Z1W h3]
   exact h2
  ·cases h
 ·cases h
def ZsG(E:Env)(σ:St)(o:Oper):Option (Res×List Prop):=
 match o.op with
 | .call ⟨.builtin .len,args,_⟩=>match args.toList with
   | [x]=>match opd σ x with
     | some (.sl _ _ _ _)=>match RRA E σ o with
       | some r=>some (r,[])
       | none=>none
     | _=>none
   | _=>none
 | _=>none
theorem Zvc{E:Env}{call:Xn}{j:Nat}{σ:St}{o:Oper}{r:Res}{ps:List Prop}(h:ZsG E σ o=some (r,ps)):RR2 E call j σ o=some r:=by
 obtain ⟨dst,op,type,pos,after,guard⟩:=o
 unfold ZsG at h
 split at h
 ·rename_i args ats ho
  simp only at ho
  subst ho
  split at h
  ·rename_i x hx
   split at h
   ·rename_i b off n s h1
    split at h
    ·rename_i r' h2
     have h:=Qa_ h
     have e1:=Kk_ Prod.fst h
     simp only at e1
     subst e1
     have hr:RR E call j σ ⟨dst,.call ⟨.builtin .len,args,ats⟩,type,pos,after,guard⟩=none:=by
      have hm:XW (Z0 σ) args.toList=none:=by
       rw[hx]
       simp only[XW,Z0,h1]
      simp only[RR,RRgen]
      split
      ·rename_i os hos
       have:JH E.Γ σ ⟨dst,.call ⟨.builtin .len,args,ats⟩,type,pos,after,guard⟩ os=none:=by
        unfold JH
        have e:Zo E.Γ σ ⟨dst,.call ⟨.builtin .len,args,ats⟩,type,pos,after,guard⟩ os=none:=by
         simp only[Zo,hm]
        rw[e]
       rw[this]
      ·rfl
     unfold RR2
     rw[hr]
     exact h2
    ·cases h
   ·cases h
  ·cases h
 ·cases h
def ZsH(E:Env)(C:ZP)(j:Nat)(σ:St)(o:Oper):Option (Res×List Prop):=
 match ZjK E σ o with
 | some r=>some r
 | none=>match ZsG E σ o with
   | some r=>some r
   | none=>RSym E C j σ o
def ZyJ(σ:St)(p:Operand):Bool:=match opd σ p with
 | some (.ptr b _)=>σ.tmps.any fun (_,v)=>match v with | .sl b' _ _ _=>Nat.beq b' b | _=>false
 | _=>false
theorem ZyK{E:Env}{C:ZP}:RSub (ZsH E C) (RR2 E (CH C)):=by
 intro j τ o r ps h hp
 unfold ZsH at h
 split at h
 ·rename_i q hq
  cases Qa_ h
  exact Zvb hq hp
 ·split at h
  ·rename_i q hq
   cases Qa_ h
   exact Zvc hq
  ·exact ZjJ j τ o r ps h hp
variable {P:Program}
def Zlq(P:Program)(f:FuncId)(args:List PV)(E:TypeId)(r:PV):Prop:=
 ∀(hw:Nat→Nat) (w:World) (vals:List Value),(∀k,w.heap.size≤k→hw k=0)→GlobOk hw w→ArgsRep hw w vals args→
  CallRes P f vals.toArray w fun v w'=>∃hw',Qt hw w hw' w'∧Rep hw' w' v r∧OwnV P w.heap.size hw' w' E v
theorem ZzH{hw:Nat→Nat}{w:World}{v:Value}{xs:List (List PV)}{B:Nat}{E:TypeId}{i:TypeInfo}(hi:P.info? E=some i)(h:Rep hw w v (.lst xs))(ho:OwnV P B hw w E v)(hs:Lens i.size xs)(hx:xs≠[])(hflat:∀x∈xs,∀y∈x,flat y=true):
 ∃k cap,v= .slice (some ⟨k,0,none⟩) xs.length cap∧B≤k∧k < w.heap.size∧xs.length≤cap∧∀(β:Nat→Option (Nat×Nat)) (hw':Nat→Nat),BoxOk ⟨β,hw'⟩ w k 0 xs.flatten:=by
 obtain ⟨i',n,xv,e1,hown,_⟩:=ho
 rw[hi] at e1
 cases Qa_ e1
 obtain ⟨hn,hc⟩:=ZbN h hown hs
 subst hn
 rcases hown.2 with ⟨_,h0⟩ | ⟨k,cap,cur,rfl,hB,hb,hcap,_,_,_⟩
 ·exact absurd (QM_ h0) hx
 ·refine ⟨k,cap,rfl,hB,(QL_.1 hb).1,hcap,fun β hw'=>⟨fun j y hj=>?_⟩⟩
  obtain ⟨a,b,x,h4,h5,h6⟩:=Zfs hs hj
  obtain ⟨u,h7,h8,h9⟩:=hc a b x y h4 h5
  refine ⟨u, ?_,h8,hown.frozenAt _,.rep (ZnA (hflat x (Qz_ h4) y (Qz_ h5)) h9)⟩
  have:=hown.cells (g:=k) rfl (a *i.size+b) u h7
  rw[Addr.add_lit] at this
  rw[h6]
  exact this
def Z07(P:Program)(f:FuncId)(args:List PV)(n:Nat)(cs:List PV):Prop:=
 ∀(hw:Nat→Nat) (w:World) (vals:List Value),(∀k,w.heap.size≤k→hw k=0)→GlobOk hw w→ArgsRep hw w vals args→
  CallRes P f vals.toArray w fun v w'=>∃hw' k cap,Qt hw w hw' w'∧v= .slice (some ⟨k,0,none⟩) n cap∧w.heap.size≤k∧k < w'.heap.size∧n≤cap∧hw' k=0∧∀(β:Nat→Option (Nat×Nat)) (hw2:Nat→Nat),BoxOk ⟨β,hw2⟩ w' k 0 cs
theorem ZzI{f:FuncId}{args:List PV}{E:TypeId}{xs:List (List PV)}{i:TypeInfo}(h:Zlq P f args E (.lst xs))(hi:P.info? E=some i)(hs:Lens i.size xs)(hx:xs≠[])(hflat:∀x∈xs,∀y∈x,flat y=true):Z07 P f args xs.length xs.flatten:=by
 intro hw w vals hl hgl ha
 refine (h hw w vals hl hgl ha).mono fun v w' ⟨hw',q,hr,ho⟩=>?_
 obtain ⟨k,cap,h1,h2,h3,h4,h5⟩:=ZzH hi hr ho hs hx hflat
 refine ⟨fun j=>if j=k then 0 else hw' j,k,cap,⟨q.below,fun j hj=>?_,fun j hj=>?_⟩,h1,h2,h3,h4,by simp,h5⟩
 ·show (if j=k then 0 else hw' j)=hw j
  rw[if_neg (by omega)]
  exact q.hw j hj
 ·show (if j=k then 0 else hw' j)=0
  rw[if_neg (by omega)]
  exact q.hwlt j hj
theorem Zq2{B:Nat}{g:G}{σ:St}{a:Act}{w:World}(hI:Inv P B g σ a w){f:FuncId}{vals:List Value}{xs:List PV}{n:Nat}{cs:List PV}(hc:Z07 P f xs n cs)(ha:ArgsRep g.hw w vals xs)
 {d s:Nat} (hd:d < σ.n) (hdb:lk d σ.boxes=none) (hrf:∀y∈cs,Xf y=none):
 CallRes P f vals.toArray w fun v w'=>∃g',Inv P B g' (put {σ with boxes:=(d,cs)::σ.boxes} d (.sl d 0 n s)) (a.put (some d) v) w'∧Fr B g σ w g' (put {σ with boxes:=(d,cs)::σ.boxes} d (.sl d 0 n s)) w':=by
 refine (hc _ w vals hI.hwlt hI.glob.1 ha).mono fun v w' ⟨hw',k,cap,q,hv,h1,h2,h3,h4,h5⟩=>?_
 obtain ⟨i1,f1⟩:=Ze4 hI q
 subst hv
 have hnb:∀b cs base,lk b σ.boxes=some cs→g.β b≠some (k,base):=by
  intro b cs base hb e
  obtain ⟨k',base',e1,e2,_⟩:=hI.box b cs hb
  rw[e] at e1
  cases Qa_ e1
  omega
 have hno:∀l E val,lkL l σ.own=some E→LocIs ⟨g.β,hw'⟩ a w' l val→val.ownBlock≠some k:=by
  intro l E val hl hloc e
  obtain ⟨val0,q1,q2,_⟩:=hI.own l E hl
  have:val0=val:=by
   cases l with
   | t t=>exact q1.symm.trans hloc
   | b b c=>
     obtain ⟨k1,b1,e1,e2⟩:=q1
     obtain ⟨k2,b2,e3,e4⟩:=hloc
     have e3:g.β b=some (k2,b2):=e3
     rw[e1] at e3
     cases Qa_ e3
     obtain ⟨c1,hc1⟩:=hI.ownt _ E hl
     obtain ⟨k3,b3,e5,e6,_⟩:=hI.box b c1 hc1
     rw[e1] at e5
     cases Qa_ e5
     rw[q.cell k1 _ e6] at e4
     exact Qa_ (e2.symm.trans e4)
  subst this
  have:=(Yh q2 k e).1
  omega
 obtain ⟨i2,f2⟩:=Zof i1 (s:=s) hd hdb h2 (QT_ hI.base h1) h4 h3 hnb hno (h5 _ _) (fun y hy b' hb'=>by rw[hrf y hy] at hb';cases hb')
 exact ⟨_,i2,f1.trans f2⟩
abbrev Ys:=Nat→List PV→List PV→Option (PV×List PV×List Prop)
abbrev Yn:=Nat→St→List AV→Option (PV×St×List Prop)
open Classical in
noncomputable def CHP(C:Ys):Zh6:=fun f cs args=>match C f cs args with
 | some (r,cs',ps)=>if Yi ps then some (r,cs') else none
 | none=>none
open Classical in
noncomputable def CHI(C:Yn):ZdS:=fun f σ args=>match C f σ args with
 | some (r,σ',ps)=>if Yi ps then some (r,σ') else none
 | none=>none
def CSPOk(P:Program)(C:Ys):Prop:=∀f cs args r cs' ps,C f cs args=some (r,cs',ps)→Yi ps→ZkN P f cs args r cs'
def CSIOk(P:Program)(C:Yn):Prop:=∀f σ args r σ' ps,C f σ args=some (r,σ',ps)→Yi ps→Zsg P f σ args r σ'
theorem Z08{P:Program}{C:Ys}(h:CSPOk P C):Zlc P (CHP C):=fun f cs args r cs' hr=>by
 unfold CHP at hr
 split at hr
 ·rename_i r' cs2 ps h1
  split at hr
  ·rename_i hp
   have:=Qa_ hr
   cases this
   exact h _ _ _ _ _ _ h1 hp
  ·cases hr
 ·cases hr
theorem Z09{P:Program}{C:Yn}(h:CSIOk P C):Zh7 P (CHI C):=fun f σ args r σ' hr=>by
 unfold CHI at hr
 split at hr
 ·rename_i r' cs2 ps h1
  split at hr
  ·rename_i hp
   have:=Qa_ hr
   cases this
   exact h _ _ _ _ _ _ h1 hp
  ·cases hr
 ·cases hr
def noT(x:Option St):Option (St×List Prop):=match x with
 | some σ=>some (σ,[])
 | none=>none
def Zcb(E:Env)(C:ZP)(j:Nat)(σ:St)(o:Oper):Option (St×List Prop):=
 match ZsH E C j σ o with
 | some (r,ps)=>match o.dst with
   | some d=>some (XA σ d r,ps)
   | none=>bif Yf r.box then some (σ,ps) else none
 | none=>none
def Z0A:List Obl→Option Prop
 | [.pr p]=>some p
 | _=>none
def Zvd(C:Yn)(σ:St)(o:Oper)(fid:Nat)(args:List Operand):Option (St×List Prop):=
 match XW (opd σ) args with
 | some l=>bif l.all (Zbu σ.boxes)&&WF σ.boxes then
    match C fid σ l with
    | some (r,σ1,ps)=>match o.dst with
      | some d=>bif Nat.blt d σ1.n then some (put σ1 d (.p r),ps) else none
      | none=>some (σ1,ps)
    | none=>none
   else none
 | none=>none
def Zve(xs:List (List PV)):List UInt8:=(bytesOf xs).getD []
def Zxn(σ:St)(e:TypeId)(dst:Option Nat)(x:Operand):Option (St×List Prop):=
 match opd σ x,dst with
 | some (.ptr b off),some d=>match lk b σ.boxes with
   | some (.bld _::y::_)=>bif Nat.beq off 0&&Nat.blt d σ.n then
     match y with
     | .nil=>some (put σ d (.p (.str [])),[])
     | .lst xs=>match lkL (.b b 1) σ.own with
       | some E=>bif Nat.beq E e then some (put (Yj σ (.b b 1)) d (.p (.str (Zve xs))),[∃c l,bytesOf xs=some (c::l)]) else none
       | none=>none
     | _=>none
     else none
   | _=>none
 | _,_=>none
theorem Zxo{σ σ':St}{e:TypeId}{dst:Option Nat}{x:Operand}{ps:List Prop}(h:Zxn σ e dst x=some (σ',ps))(hp:Yi ps):Zgs σ e dst x=some σ':=by
 unfold Zxn at h
 unfold Zgs
 split at h
 ·rename_i b off d hx
  simp only[hx]
  split at h
  ·rename_i u y r hb
   simp only[hb]
   cases hc:(Nat.beq off 0&&Nat.blt d σ.n) with
   | false=>rw[hc] at h;cases h
   | true=>
     rw[hc] at h
     simp only[Qb_] at h ⊢
     split at h
     ·cases Qa_ h;rfl
     ·rename_i xs
      split at h
      ·rename_i E hE
       cases he:Nat.beq E e with
       | false=>rw[he] at h;cases h
       | true=>
         rw[he] at h
         cases Qa_ h
         obtain ⟨c,l,hl⟩:∃c l,bytesOf xs=some (c::l):=hp _ Qv_
         simp only[hl,hE,he,Qb_,Zve,Ks_]
      ·cases h
     ·cases h
  ·cases h
 ·cases h
def ZyL(E:Env)(C:ZP)(CP:Ys)(CI:Yn)(j:Nat)(σ:St)(o:Oper)(f:Operand)(args:List Operand):Option (St×List Prop):=
 match f with
 | .func fid=>bif has fid E.wr then
    match args with
    | p::rest=>match opd σ p,XW (opd σ) rest with
      | some (.ptr b off),some l=>match lk b σ.boxes,Xx σ.boxes l with
        | some cs,some (xs,_)=>match CP fid (cs.drop off) xs with
          | some (r,cs',ps)=>match Ze5 σ o.dst f args [.callp 0 [] [] r cs'] with
            | some (σ',_,_)=>bif Nat.beq cs'.length (cs.length - off) then some (σ',ps) else none
            | none=>none
          | none=>none
        | _,_=>none
      | _,_=>none
    | []=>none
   else bif has fid E.inl then Zvd CI σ o fid args
   else bif has fid E.cc then (match args with | [x]=>noT (Zsh σ o.dst x) | _=>none)
   else match lk fid E.bst with
   | some e=>(match args with | [x]=>Zxn σ e o.dst x | _=>none)
   | none=>Zcb E C j σ o
 | _=>Zcb E C j σ o
def apS(E:Env)(σ:St)(d:Nat)(x y:Operand)(t u:TypeId):Option (St×List Prop):=
 match lk t E.Γ,Z0 σ x,Z0 σ y with
 | some ty,some xv,some (.str l)=>bif YG E u&&Nat.beq ty.kd 3 then
    match lk ty.elem E.Γ with
    | some ety=>bif Nat.beq ety.size 1&&Nat.beq ety.bytes 1 then
      match xv,x with
      | .nil,_=>some (WY (put σ d (.p (.lst (WG l)))) d ty.elem,[0+l.length≤140737488355328])
      | .lst xs,.tmp t1=>
        match lkL (match lk t1 σ.al with | some l=>l | none=> .t t1) σ.own with
        | some E'=>bif Nat.beq E' ty.elem then some (WY (put (Yj σ (match lk t1 σ.al with | some l=>l | none=> .t t1)) d (.p (.lst (xs++WG l)))) d ty.elem,[xs.length+l.length≤140737488355328∧Lens 1 xs]) else none
        | none=>none
      | _,_=>none
      else none
    | none=>none
   else none
 | _,_,_=>none
theorem ZzJ{E:Env}{σ σ':St}{d:Nat}{x y:Operand}{t u:TypeId}{ps:List Prop}(h:apS E σ d x y t u=some (σ',ps))(hp:Yi ps):ZbV E σ d x y t u=some σ':=by
 unfold apS at h
 unfold ZbV
 split at h
 ·rename_i ty xv l hty hx hy
  simp only[hty,hx,hy]
  cases hb:(YG E u&&Nat.beq ty.kd 3) with
  | false=>rw[hb] at h;cases h
  | true=>
    rw[hb] at h
    simp only[Qb_] at h ⊢
    split at h
    ·rename_i ety hety
     simp only[hety]
     cases hb2:(Nat.beq ety.size 1&&Nat.beq ety.bytes 1) with
     | false=>rw[hb2] at h;cases h
     | true=>
       rw[hb2] at h
       simp only[Qb_] at h ⊢
       split at h
       ·cases Qa_ h
        have h1:0+l.length≤140737488355328:=hp _ Qv_
        simp only[QF_ h1,Qb_]
       ·rename_i xs t1
        have fin:∀{L:Loc},(match lkL L σ.own with
         | some E'=>bif Nat.beq E' ty.elem then some (WY (put (Yj σ L) d (.p (.lst (xs++WG l)))) d ty.elem,[xs.length+l.length≤140737488355328∧Lens 1 xs]) else none
         | none=>none)=some (σ',ps)→(match lkL L σ.own with
         | some E'=>bif Nat.beq E' ty.elem&&Nat.ble (xs.length+l.length) 140737488355328&&W0 1 xs then some (WY (put (Yj σ L) d (.p (.lst (xs++WG l)))) d ty.elem) else none
         | none=>none)=some σ':=by
         intro L h
         split at h
         ·rename_i E' hE
          cases hb3:Nat.beq E' ty.elem with
          | false=>rw[hb3] at h;cases h
          | true=>
            rw[hb3] at h
            cases Qa_ h
            obtain ⟨h1,h2⟩:xs.length+l.length≤140737488355328∧Lens 1 xs:=hp _ Qv_
            have h3:W0 1 xs=true:=QK_.2 fun x hx=>by simpa using h2 x hx
            simp only[hE,hb3,QF_ h1,h3,QZ_,Qb_]
         ·cases h
        cases hal:lk t1 σ.al with
        | none=>simp only[hal] at h ⊢;exact fin h
        | some l2=>simp only[hal] at h ⊢;exact fin h
       ·cases h
    ·cases h
 ·cases h
def TSym(E:Env)(C:ZP)(CP:Ys)(CI:Yn)(j:Nat)(σ:St)(o:Oper):Option (St×List Prop):=
 match o.op with
 | .store T p x=>match o.dst with
   | none=>bif ZyJ σ p then Zo0 E.Γ σ T p x else match Wr E.Γ σ T p x with
     | some σ'=>some (σ',[])
     | none=>none
   | some _=>none
 | .buildSlice T n ps=>bif has T E.sla&&Nat.beq n 0 then
    match o.dst,ps.toList with
    | some d,[]=>noT (ZmP E σ d T)
    | _,_=>none
   else Zcb E C j σ o
 | .call ⟨.builtin .append,args,ats⟩=>match args.toList,ats.toList,o.dst with
   | [x,y],[t,t'],some d=>bif has t E.sla&&isE σ x then noT (Zh5 E σ d x y t t') else bif Nat.beq t t' then (bif Nat.blt d σ.n then
       match Jq E.Γ σ d x y t t' [.pr True] with
       | some (σ',_,ob)=>match Z0A ob with
         | some p=>some (σ',[p])
         | none=>none
       | none=>none
     else none) else bif Nat.blt d σ.n then apS E σ d x y t t' else none
   | _,_,_=>none
 | .slice T x none none none=>match o.dst with
   | some d=>bif Nat.blt d σ.n then noT (ZeX E.Γ σ d T x) else none
   | none=>none
 | .call ⟨.value f,args,_⟩=>ZyL E C CP CI j σ o f args.toList
 | .alloc T=>bif Nat.beq T ZaI then noT (Zgt E ZjI j σ o T) else Zcb E C j σ o
 | _=>Zcb E C j σ o
section
variable {P:Program}{σ:St}{o:Oper}
theorem ZeB{x:Option St}{r:St}{ps:List Prop}(h:noT x=some (r,ps)):x=some r∧ps=[]:=by
 unfold noT at h
 split at h
 ·have:=Qa_ h
  cases this
  exact ⟨rfl,rfl⟩
 ·cases h
theorem ZsI{E:Env}{C:ZP}{j:Nat}{σ':St}{ps:List Prop}(h:Zcb E C j σ o=some (σ',ps))(hp:Yi ps):Zag E (CH C) j σ o=some σ':=by
 unfold Zcb at h
 unfold Zag
 split at h
 ·rename_i r q hr
  split at h
  ·rename_i d hd
   have:=Qa_ h
   cases this
   simp only[ZyK j σ o r _ hr hp,hd]
  ·rename_i hd
   cases hb:Yf r.box with
   | false=>rw[hb] at h;cases h
   | true=>
     rw[hb] at h
     have:=Qa_ h
     cases this
     simp only[ZyK j σ o r _ hr hp,hd,hb,Qb_]
 ·cases h
theorem Z0B{Γ:List (Nat×Ty)}{d:Nat}{x y:Operand}{t t':TypeId}{σ':St}{os ob:List Obl}{p:Prop}(h:Jq Γ σ d x y t t' [.pr True]=some (σ',os,ob))(ho:Z0A ob=some p)(hp:p):ZaB Γ σ x y t=true:=by
 have lens:∀{n:Nat} {l:List (List PV)},Lens n l→W0 n l=true:=fun hl=>QK_.2 fun x hx=>by simpa using hl x hx
 have blt:∀{a b:Nat},a < b→Nat.blt a b=true:=fun h=>QF_ h
 unfold Jq at h
 unfold ZaB
 split at h
 ·rename_i ty xv ys _ os' hty hx hy he
  simp only[hty,hx,hy]
  cases hb:(Nat.beq t t'&&Nat.beq ty.kd 3) with
  | false=>rw[hb] at h;cases h
  | true=>
    rw[hb] at h
    simp only[Qb_] at h
    split at h
    ·rename_i ety hety
     cases hb2:(Nat.beq ety.size 0||Nat.beq ety.bytes 0) with
     | true=>rw[hb2] at h;cases h
     | false=>
       rw[hb2] at h
       simp only[Qd_] at h
       split at h
       ·have:=Qa_ h
        cases this
        cases ho
        simp only[hety,blt hp.1,QF_ hp.2.1,lens hp.2.2,QZ_]
       ·rename_i xs t1
        split at h
        ·rename_i E1 hE1
         cases hb3:Nat.beq E1 ty.elem with
         | false=>simp only[hb3] at h;cases h
         | true=>
           simp only[hb3] at h
           have:=Qa_ h
           cases this
           cases ho
           simp only[hety,blt hp.1,QF_ hp.2.1,lens hp.2.2,QZ_]
        ·cases h
       ·cases h
    ·cases h
 ·cases h
theorem ZzK{E:Env}{C:ZP}{CP:Ys}{CI:Yn}:TSub (TSym E C CP CI) (TT E (CH C) (CHP CP) (CHI CI)):=by
 intro j σ o σ' ps h hp
 have hQ:∀{o:Oper},Zcb E C j σ o=some (σ',ps)→Zag E (CH C) j σ o=some σ':=fun h=>ZsI h hp
 obtain ⟨dst,op,type,pos,after,guard⟩:=o
 unfold TSym at h
 cases op with
 | store T p x=>
   cases dst with
   | some d=>cases h
   | none=>
     simp only at h
     cases hb:ZyJ σ p with
     | true=>
       rw[hb,Qb_] at h
       simp only[TT,ZuZ h hp]
     | false=>
       rw[hb,Qd_] at h
       split at h
       ·rename_i σ2 h2
        have:=Qa_ h
        cases this
        simp only[TT,h2]
       ·cases h
 | buildSlice T n q=>
   simp only at h
   simp only[TT]
   cases hb:(has T E.sla&&Nat.beq n 0) with
   | false=>rw[hb] at h;exact hQ h
   | true=>
     rw[hb] at h
     simp only[Qb_] at h ⊢
     split at h
     ·rename_i d hd hps
      simp only[hps]
      exact (ZeB h).1
     ·cases h
 | slice T x lo hi mx=>
   cases lo with
   | some l=>exact hQ h
   | none=>cases hi with
     | some l=>exact hQ h
     | none=>cases mx with
       | some l=>exact hQ h
       | none=>
         cases dst with
         | none=>cases h
         | some d=>
           simp only at h
           simp only[TT]
           cases hb:Nat.blt d σ.n with
           | false=>rw[hb] at h;cases h
           | true=>rw[hb] at h;exact (ZeB h).1
 | alloc T=>
   simp only at h
   simp only[TT,Zgt]
   cases hb:Nat.beq T ZaI with
   | false=>rw[hb] at h;exact hQ h
   | true=>
     rw[hb] at h
     have h1:=(ZeB h).1
     simp only[Zgt,hb,Qb_] at h1
     exact h1
 | call c=>
   obtain ⟨callee,args,ats⟩:=c
   cases callee with
   | value f=>
     simp only at h
     simp only[TT]
     unfold ZyL at h
     unfold Zsj
     split at h
     ·rename_i fid
      simp only
      cases hb:has fid E.wr with
      | true=>
        rw[hb] at h
        simp only[Qb_] at h ⊢
        split at h
        ·rename_i p rest hargs
         split at h
         ·rename_i b off l hop hl
          split at h
          ·rename_i cs xs c hcs hxs
           split at h
           ·rename_i r cs' q hcp
            split at h
            ·rename_i σ1 _ _ h1
             cases hb2:Nat.beq cs'.length (cs.length - off) with
             | false=>rw[hb2] at h;cases h
             | true=>
               rw[hb2] at h
               have:=Qa_ h
               cases this
               have hch:CHP CP fid (cs.drop off) xs=some (r,cs'):=by
                unfold CHP
                rw[hcp]
                simp only[hp,Kw_]
               simp only[hargs,hop,hl,hcs,hxs,hch]
               rw[hargs] at h1
               simp only[h1,hb2,Qb_]
            ·cases h
           ·cases h
          ·cases h
         ·cases h
        ·cases h
      | false=>
        rw[hb] at h
        simp only[Qd_] at h ⊢
        cases hb2:has fid E.inl with
        | true=>
          rw[hb2] at h
          simp only[Qb_] at h ⊢
          unfold Zvd at h
          unfold ZmQ
          split at h
          ·rename_i l hl
           simp only[hl]
           cases hb3:(l.all (Zbu σ.boxes)&&WF σ.boxes) with
           | false=>rw[hb3] at h;cases h
           | true=>
             rw[hb3] at h
             simp only[Qb_] at h ⊢
             split at h
             ·rename_i r σ1 q hci
              have hch:Yi q→CHI CI fid σ l=some (r,σ1):=by
               intro hq
               unfold CHI
               rw[hci]
               simp only[hq,Kw_]
              cases dst with
              | some d=>
                simp only at h ⊢
                cases hb4:Nat.blt d σ1.n with
                | false=>rw[hb4] at h;cases h
                | true=>
                  rw[hb4] at h
                  have:=Qa_ h
                  cases this
                  simp only[hch hp,hb4,Qb_]
              | none=>
                simp only at h ⊢
                have:=Qa_ h
                cases this
                simp only[hch hp]
             ·cases h
          ·cases h
        | false=>
          rw[hb2] at h
          simp only[Qd_] at h ⊢
          cases hb3:has fid E.cc with
          | true=>
            rw[hb3] at h
            simp only[Qb_] at h ⊢
            split at h
            ·rename_i x hx
             simp only[hx]
             exact (ZeB h).1
            ·cases h
          | false=>
            rw[hb3] at h
            simp only[Qd_] at h ⊢
            split at h
            ·rename_i e he
             simp only[he]
             split at h
             ·rename_i x hx
              simp only[hx]
              exact Zxo h hp
             ·cases h
            ·rename_i he
             simp only[he]
             exact hQ h
     ·rename_i hne
      split
      ·rename_i fid;exact (hne fid rfl).elim
      ·exact hQ h
   | builtin b=>
     cases b with
     | append=>
       simp only at h
       simp only[TT]
       split at h
       ·rename_i x y t t' d hargs hats
        simp only[hargs,hats]
        cases hb:(has t E.sla&&isE σ x) with
        | true=>
          rw[hb] at h
          exact (ZeB h).1
        | false=>
          rw[hb] at h
          simp only[Qd_] at h ⊢
          cases hb2:Nat.beq t t' with
          | true=>
            rw[hb2] at h
            simp only[Qb_] at h ⊢
            cases hb3:Nat.blt d σ.n with
            | false=>rw[hb3] at h;cases h
            | true=>
              rw[hb3] at h
              simp only[Qb_] at h
              split at h
              ·rename_i σ1 os1 ob1 h1
               split at h
               ·rename_i p hpr
                have:=Qa_ h
                cases this
                simp only[Z0B h1 hpr (one hp),QZ_,Qb_,h1]
               ·cases h
              ·cases h
          | false=>
            rw[hb2] at h
            simp only[Qd_] at h ⊢
            cases hb3:Nat.blt d σ.n with
            | false=>rw[hb3] at h;cases h
            | true=>rw[hb3] at h;exact ZzJ h hp
       ·cases h
     | _=>exact hQ h
   | _=>exact hQ h
 | _=>exact hQ h
end
structure Gx where
 pb:List (Nat×List Nat)
 cb:List Nat
 ow:List (Nat×Nat)
 nf:List Nat
 ob:List Nat
def noG:Gx:=⟨[],[],[],[],[]⟩
structure HdOk(cs:List PV):Prop where
 h:Yx cs=true
def Zxp(d:Nat)(σ:St):Option (St×List Prop):=match lk d σ.tmps with
 | some (.sl b off n s)=>match lk b σ.boxes with
   | some cs=>bif Nat.blt d σ.n&&Nat.beq off 0 then
      some ({σ with tmps:=(d,.p (.lst (chunk s n cs)))::σ.tmps,ro:=b::σ.ro},[cs.length=n *s∧HdOk cs])
     else none
   | none=>none
 | some _=>some (σ,[])
 | none=>none
def ZjL:List Nat→St→Option (St×List Prop)
 | [],σ=>some (σ,[])
 | d::r,σ=>match Zxp d σ with
   | some (σ1,ps)=>match ZjL r σ1 with
     | some (σ2,qs)=>some (σ2,ps++qs)
     | none=>none
   | none=>none
theorem Jv{l l':List Prop}(h:Yi (l++l')):Yi l∧Yi l':=⟨fun p hp=>h p (Kg_ _ hp),fun p hp=>h p (Kq_ _ hp)⟩
section
variable {P:Program}{B:Nat}{g:G}{σ σ':St}{a:Act}{w:World}
theorem Zxq(hI:Inv P B g σ a w){d:Nat}{x:PV}(hd:d < σ.n)(hr:Rep g.hw w (a.tmps.getD d undef) x):Inv P B g {σ with tmps:=(d,.p x)::σ.tmps} a w:=by
 have lkc:∀t' v,lk t' ((d,AV.p x)::σ.tmps)=some v→(t'=d∧v= .p x)∨lk t' σ.tmps=some v:=by
  intro t' v h
  rw[Zn] at h
  split at h
  ·rename_i e
   exact .inl ⟨e,(Qa_ h).symm⟩
  ·exact .inr h
 refine ⟨hI.size,hI.defers,fun t' v h=>?_,fun t' b off h=>?_,fun t' f bs h=>?_,hI.box,hI.inj,hI.hwlt,hI.base,hI.glob,hI.own,hI.ownt,hI.owninj,hI.al,hI.alt,fun t' b off n s h=>?_,hI.ref⟩
 ·rcases lkc t' v h with ⟨rfl,rfl⟩ | h
  ·exact ⟨hd,hr⟩
  ·exact hI.tmp t' v h
 ·rcases lkc t' _ h with ⟨_,e⟩ | h
  ·cases e
  ·exact hI.ptr t' b off h
 ·rcases lkc t' _ h with ⟨_,e⟩ | h
  ·cases e
  ·exact hI.fnp t' f bs h
 ·rcases lkc t' _ h with ⟨_,e⟩ | h
  ·cases e
  ·exact hI.sl t' b off n s h
theorem Zxr{d:Nat}{ps:List Prop}(h:Zxp d σ=some (σ',ps))(hp:Yi ps)(hI:Inv P B g σ a w):∃g',Inv P B g' σ' a w∧Fr B g σ w g' σ' w:=by
 unfold Zxp at h
 split at h
 ·rename_i b off n s hd
  split at h
  ·rename_i cs hcs
   cases hb:(Nat.blt d σ.n&&Nat.beq off 0) with
   | false=>rw[hb] at h;cases h
   | true=>
     rw[hb] at h
     cases Qa_ h
     obtain ⟨p1,p2⟩:=hp _ Qv_
     rw[Qh_] at hb
     have e0:=Qj_ hb.2
     subst e0
     have hdn:d < σ.n:=Qm_ hb.1
     obtain ⟨k,base,cap,h1,h2,h3⟩:=(hI.tmp d _ hd).2
     obtain ⟨i1,f1⟩:=ZeW hI hcs h1
     obtain ⟨k',base',hk',hlt,hok,_⟩:=i1.box b cs hcs
     have hk2:g.β b=some (k',base'):=hk'
     rw[h1] at hk2
     cases Qa_ hk2
     have hrep:Rep (fun j=>if j=k then max (g.hw j) (base+cs.length) else g.hw j) w (.slice (some ⟨k,base+0,none⟩) n cap) (.lst (chunk s n cs)):=by
      refine Zct p1 hok.cells p2.h h2 ?_
      simp only[Kw_]
      omega
     refine ⟨_,Zxq i1 hdn (by rw[h3];exact hrep),⟨f1.os,f1.tape,f1.output,f1.size,f1.n,f1.block,f1.cell,f1.frozen,f1.hw,f1.par,f1.ext⟩⟩
  ·cases h
 ·cases Qa_ h
  exact ⟨g,hI,Fr.refl⟩
 ·cases h
theorem ZjM:∀{l:List Nat} {σ σ':St} {g:G} {ps:List Prop},ZjL l σ=some (σ',ps)→Yi ps→Inv P B g σ a w→∃g',Inv P B g' σ' a w∧Fr B g σ w g' σ' w
 | [],σ,σ',g,ps,h,_,hI=>by
   cases Qa_ h
   exact ⟨g,hI,Fr.refl⟩
 | d::r,σ,σ',g,ps,h,hp,hI=>by
   unfold ZjL at h
   split at h
   ·rename_i σ1 ps1 h1
    split at h
    ·rename_i σ2 qs h2
     cases Qa_ h
     obtain ⟨q1,q2⟩:=Jv hp
     obtain ⟨g1,i1,f1⟩:=Zxr h1 q1 hI
     obtain ⟨g2,i2,f2⟩:=ZjM h2 q2 i1
     exact ⟨g2,i2,f1.trans f2⟩
    ·cases h
   ·cases h
theorem Zq3(hI:Inv P B g σ a w){f:FuncId}{vals:List Value}{xs:List PV}{E:TypeId}{r:PV}(hc:Zlq P f xs E r)(ha:ArgsRep g.hw w vals xs){d:Nat}(hd:d < σ.n):
 CallRes P f vals.toArray w fun v w'=>∃g',Inv P B g' {put σ d (.p r) with own:=(.t d,E)::σ.own.filter fun (l,_)=> !(l.eq (.t d))} (a.put (some d) v) w'∧Fr B g σ w g' {put σ d (.p r) with own:=(.t d,E)::σ.own.filter fun (l,_)=> !(l.eq (.t d))} w':=by
 refine (hc _ w vals hI.hwlt hI.glob.1 ha).mono fun v w' ⟨hw',q,hr,ho⟩=>?_
 obtain ⟨i1,f1⟩:=Ze4 hI q
 have i2:=WE i1 hd hr
 have hsz:(a.put (some d) v).tmps.getD d undef=v:=by
  have hs:=hI.size
  show (a.tmps.setIfInBounds d v).getD d undef=v
  simp[Array.getD,hs,hd]
 have hlt:∀k,v.ownBlock=some k→w.heap.size≤k:=fun k hk=>(Yh (g:=⟨g.β,hw'⟩) ho k hk).2
 refine ⟨⟨g.β,hw'⟩,ZdJ i2 hd hsz ⟨ho.choose,ho.choose_spec.choose,ho.choose_spec.choose_spec.choose,ho.choose_spec.choose_spec.choose_spec.1, ?_,ho.choose_spec.choose_spec.choose_spec.2.2⟩ ?_ ?_,⟨f1.os,f1.tape,f1.output,f1.size,f1.n,f1.block,f1.cell,f1.frozen,f1.hw,f1.par,f1.ext⟩⟩
 ·have h2:=ho.choose_spec.choose_spec.choose_spec.2.1
  refine ⟨h2.1, ?_⟩
  rcases h2.2 with h | ⟨gb,cap,cur,e1,e2,r⟩
  ·exact .inl h
  ·exact .inr ⟨gb,cap,cur,e1,QT_ hI.base e2,r⟩
 ·intro k hk b cs base hb e
  obtain ⟨k',base',e1,e2,_⟩:=hI.box b cs hb
  have e:g.β b=some (k,base):=e
  rw[e] at e1
  cases Qa_ e1
  have:=hlt k hk
  omega
 ·intro l E' val' k hl hloc hk hk2
  have hl':lkL l σ.own=some E'∧l≠ .t d:=by
   have hl:lkL l (σ.own.filter fun (l,_)=> !(l.eq (.t d)))=some E':=hl
   rw[Yb (fun l'=> !(l'.eq (.t d)))] at hl
   split at hl
   ·rename_i hn
    refine ⟨hl,fun e=>?_⟩
    subst e
    rw[Loc.eq_iff.2 rfl] at hn
    cases hn
   ·cases hl
  obtain ⟨val0,q1,q2,_⟩:=i1.own l E' hl'.1
  have hv0:val0=val':=by
   cases l with
   | t t=>
     have q1:a.tmps.getD t undef=val0:=q1
     have hloc:(a.tmps.setIfInBounds d v).getD t undef=val':=hloc
     have ne:d≠t:=fun e=>hl'.2 (by rw[e])
     rw[←q1,←hloc]
     simp only[QA_,K5_]
     simp[ne]
   | b b c=>
     obtain ⟨k1,b1,e1,e2⟩:=q1
     obtain ⟨k2,b2,e3,e4⟩:=hloc
     rw[e1] at e3
     cases Qa_ e3
     exact Qa_ (e2.symm.trans e4)
  subst hv0
  have h0:=hI.own l E' hl'.1
  obtain ⟨val1,r1,r2,_⟩:=h0
  have hv1:val1=val0:=by
   cases l with
   | t t=>exact r1.symm.trans q1
   | b b c=>
     obtain ⟨k1,b1,e1,e2⟩:=r1
     obtain ⟨k2,b2,e3,e4⟩:=q1
     have e3:g.β b=some (k2,b2):=e3
     rw[e1] at e3
     cases Qa_ e3
     obtain ⟨c1,hc1⟩:=hI.ownt _ E' hl'.1
     obtain ⟨k3,b3,e5,e6,_⟩:=hI.box b c1 hc1
     rw[e1] at e5
     cases Qa_ e5
     rw[q.cell k1 _ e6] at e4
     exact Qa_ (e2.symm.trans e4)
  subst hv1
  have:=(Yh r2 k hk2).1
  have:=hlt k hk
  omega
end
def Zo1(E:Env)(C:ZP)(G:Gx)(σ:St)(d fid:Nat)(args:List Operand):Option (St×List Prop):=
 match lk fid G.ow,XW (opd σ) args with
 | some T,some l=>match Xx σ.boxes l with
   | some (xs,c)=>match c with
     | true=>none
     | false=>match C fid xs with
       | some (r,ps)=>match Nat.blt d σ.n with
         | false=>none
         | true=>match has d G.cb with
           | true=>match r,lk T E.Γ with
             | .lst rows,some ety=>bif Yf (lk d σ.boxes) then
                some (put {σ with boxes:=(d,rows.flatten)::σ.boxes} d (.sl d 0 rows.length ety.size),ps++[rows≠[]∧Lens ety.size rows∧∀x∈rows,∀y∈x,flat y=true])
               else none
             | _,_=>none
           | false=>some ({put σ d (.p r) with own:=(.t d,T)::σ.own.filter fun (l,_)=> !(l.eq (.t d))},ps)
       | none=>none
   | none=>none
 | _,_=>none
def ZsJ(G:Gx)(σ:St)(op:BinOp)(T:TypeId)(x:Operand)(d:Nat):Option (St×List Prop):=
 match has T G.nf&&Nat.blt d σ.n with
 | false=>none
 | true=>match op,opd σ x with
   | .eql,some (.p (.fn _ _))=>some (put σ d (.p (.v (.bool false))),[])
   | .eql,some (.fnp _ _)=>some (put σ d (.p (.v (.bool false))),[])
   | .neq,some (.p (.fn _ _))=>some (put σ d (.p (.v (.bool true))),[])
   | .neq,some (.fnp _ _)=>some (put σ d (.p (.v (.bool true))),[])
   | _,_=>none
def bsO(E:Env)(σ:St)(T n:Nat)(ps:List (Nat×Operand))(d:Nat):Option (St×List Prop):=
 match XW (fun (i,x)=>match Z0 σ x with | some v=>some (i,v) | none=>none) ps with
 | some l=>match WD E.Γ T n l,lk T E.Γ with
   | some (.lst xs),some ty=>bif Nat.blt d σ.n then some (WY (put σ d (.p (.lst xs))) d ty.elem,[]) else none
   | _,_=>none
 | none=>none
def mkB(E:Env)(σ:St)(T:TypeId)(l c:Operand)(d:Nat):Option (St×List Prop):=
 match lk T E.Γ,Z0 σ l,Z0 σ c with
 | some ty,some (.v (.int _ n)),some (.v (.int _ m))=>bif Nat.beq ty.kd 3&&(Nat.blt d σ.n&&Yf (lk d σ.boxes)) then
    match lk ty.elem E.Γ with
    | some ety=>bif Nat.beq ety.size 0||(!(Nat.beq ety.zero.length ety.size)|| !(ety.zero.all flat)) then none
      else some (put {σ with boxes:=(d,reps n.toNat ety.zero)::σ.boxes} d (.sl d 0 n.toNat ety.size),[n=m,0≤n,n.toNat *ety.size < 16777216,n.toNat *ety.bytes < 16777216])
    | none=>none
   else none
 | _,_,_=>none
def Zo2:Operand→Bool
 | .const .nilFunc=>true
 | _=>false
def ZmW(E:Env)(C:ZP)(CP:Ys)(CI:Yn)(G:Gx)(j:Nat)(σ:St)(o:Oper):Option (St×List Prop):=
 match o.op,o.dst with
 | .call ⟨.value (.func fid),args,_⟩,some d=>(match XE (lk fid G.ow) with
   | true=>Zo1 E C G σ d fid args.toList
   | false=>TSym E C CP CI j σ o)
 | .binOp op T x y _,some d=>(match Zo2 y with
   | true=>ZsJ G σ op T x d
   | false=>TSym E C CP CI j σ o)
 | .buildSlice T n ps,some d=>(match has d G.ob with
   | true=>bsO E σ T n ps.toList d
   | false=>TSym E C CP CI j σ o)
 | .makeSlice T l c,some d=>(match has d G.cb with
   | true=>mkB E σ T l c d
   | false=>TSym E C CP CI j σ o)
 | _,_=>TSym E C CP CI j σ o
def ZbB(E:Env)(C:ZP)(CP:Ys)(CI:Yn)(G:Gx)(j:Nat)(σ:St)(o:Oper):Option (St×List Prop):=
 match (match o.dst with | some d=>lk d G.pb | none=>none) with
 | some l=>match ZjL l σ with
   | some (σ1,ps)=>match ZmW E C CP CI G j σ1 o with
     | some (σ2,qs)=>some (σ2,ps++qs)
     | none=>none
   | none=>none
 | none=>ZmW E C CP CI G j σ o
structure OwOk(P:Program)(C:ZP)(G:Gx):Prop where
 o:∀f T,lk f G.ow=some T→∀args r ps,C f args=some (r,ps)→Yi ps→Zlq P f args T r
 nf:∀T,has T G.nf=true→∃a b c,P.underlying T=some (.func a b c)
theorem Zo3{P:Program}:∀T,has T []=true→∃a b c,P.underlying T=some (.func a b c):=fun T h=>absurd h (by simp[has])
theorem ZX{P:Program}{C:ZP}:OwOk P C noG:=⟨fun f T h=>by simp[noG,lk] at h,Zo3⟩
open Classical in
noncomputable def TG0(E:Env)(C:ZP)(CP:Ys)(CI:Yn)(G:Gx)(j:Nat)(σ:St)(o:Oper):Option St:=match ZbB E C CP CI G j σ o with
 | some (σ',ps)=>if Yi ps then some σ' else none
 | none=>none
section
variable {P:Program}{B:Nat}{g:G}{σ:St}{a:Act}{w:World}{o:Oper}
theorem Zvf(hI:Inv P B g σ a w){l:List AV}{vals:List Value}(hl:vals.length=l.length)(hv:∀(j:Nat) (v:Value) (av:AV),vals[j]?=some v→l[j]?=some av→RepA g w v av)
 {xs:List PV} (hh:Xx σ.boxes l=some (xs,false)):ArgsRep g.hw w vals xs:=by
 obtain ⟨e1,e2⟩:=Zac hh
 have getl:∀{j:Nat} {v:Value},vals[j]?=some v→∃av,l[j]?=some av:=by
  intro j v hj
  have:j < l.length:=by have:=(Qo_.1 hj).1;omega
  exact ⟨_,Qg_ this⟩
 refine ⟨by omega,fun j x y hx hy=>?_⟩
 obtain ⟨av,hav⟩:=getl hx
 obtain ⟨d,h3,h4⟩:=e2 j av y hav hy
 have hd:=h4 rfl
 subst hd
 have hr:=hv j x av hx hav
 cases av with
 | p z=>
   have:=Qa_ h3
   cases this
   exact Zbq hr
 | ptr b off=>
   unfold hand at h3
   split at h3
   ·rename_i e;cases e
   ·split at h3
    ·rename_i cs0 _
     cases hd:Yx cs0<;>rw[hd] at h3<;>cases h3
    ·cases h3
   ·rename_i e;cases e
   ·rename_i e;cases e
 | sl b off n s=>
   unfold hand at h3
   split at h3
   ·rename_i e;cases e
   ·rename_i e;cases e
   ·rename_i e;cases e
   ·cases h3
 | fnp f bs=>
   unfold hand at h3
   split at h3
   ·rename_i e;cases e
   ·rename_i e;cases e
   ·split at h3
    ·cases h3
    ·cases h3
   ·rename_i e;cases e
theorem Zo4{y:PV}(h:flat y=true):Xf y=none:=by cases y<;>first | rfl | exact absurd h (by simp[flat])
theorem Zq4{E:Env}(hE:EnvOk P E){C:ZP}{G:Gx}(hG:OwOk P C G)(hI:Inv P B g σ a w){fid d:Nat}{args:Array Operand}{ats:Array TypeId}{σ':St}{ps:List Prop}(hop:o.op= .call ⟨.value (.func fid),args,ats⟩)(hd:o.dst=some d)
 (h:Zo1 E C G σ d fid args.toList=some (σ',ps)) (hp:Yi ps):Goes P B g σ a w o σ':=by
 unfold Zo1 at h
 split at h
 ·rename_i T l hT hl
  split at h
  ·rename_i xs c hx
   split at h
   ·cases h
   ·split at h
    ·rename_i r qs hc
     split at h
     ·cases h
     ·rename_i hdn
      have hdn:d < σ.n:=Qm_ hdn
      obtain ⟨e1,e2⟩:=Ze2 hI hl
      have ha:=Zvf hI e1 e2 hx
      have key:∀{σ2:St} {K:Value→World→Prop},CallRes P fid (args.toList.map a.eval).toArray w K→(∀v w',K v w'→∃g',Inv P B g' σ2 (a.put o.dst v) w'∧Fr B g σ w g' σ2 w')→Goes P B g σ a w o σ2:=by
       intro σ2 K hcall hnext
       refine ZaM (hcall.mono hnext) (fun res hres=>?_)
       have e:args.map a.eval=(args.toList.map a.eval).toArray:=by apply QW_;simp
       have hfv:a.eval (.func fid)= .func (.func fid) #[] #[]:=rfl
       unfold execOp
       rw[hop]
       simp only[resolve,Deferred.ofValue,hfv,pure_bind,invoke,e]
       rw[←hres]
       congr 2
       simp
      split at h
      ·split at h
       ·rename_i rows ety hety
        cases hb:Yf (lk d σ.boxes) with
        | false=>rw[hb] at h;cases h
        | true=>
          rw[hb] at h
          cases Qa_ h
          obtain ⟨q1,q2⟩:=Jv hp
          obtain ⟨r1,r2,r3⟩:=q2 _ Qv_
          have hdb:lk d σ.boxes=none:=by
           cases hh:lk d σ.boxes with
           | none=>rfl
           | some c=>rw[hh] at hb;exact absurd hb (by simp[Yf])
          obtain ⟨i,z,hi,_,hsz,_⟩:=(ZJ (hE.Γ _ _ hety)).info
          have hcon:=ZzI (hG.o _ _ hT _ _ _ hc q1) hi (by rw[←hsz];exact r2) r1 r3
          refine key (Zq2 (s:=ety.size) hI hcon ha hdn hdb (fun y hy=>?_)) (fun v w' hk=>by rw[hd];exact hk)
          obtain ⟨x,hx1,hx2⟩:=List.mem_flatten.1 hy
          exact Zo4 (r3 x hx1 y hx2)
       ·cases h
      ·cases Qa_ h
       exact key (Zq3 hI (hG.o _ _ hT _ _ _ hc hp) ha hdn) (fun v w' hk=>by rw[hd];exact hk)
    ·cases h
  ·cases h
 ·cases h
theorem ZsK{C:ZP}{G:Gx}(hG:OwOk P C G)(hI:Inv P B g σ a w){op:BinOp}{T yT:TypeId}{x y:Operand}{d:Nat}{σ':St}{ps:List Prop}(hop:o.op= .binOp op T x y yT)(hy:Zo2 y=true)(hd:o.dst=some d)
 (h:ZsJ G σ op T x d=some (σ',ps)):Goes P B g σ a w o σ':=by
 unfold ZsJ at h
 have hyc:y= .const .nilFunc:=by
  unfold Zo2 at hy
  split at hy
  ·rfl
  ·cases hy
 subst hyc
 split at h
 ·cases h
 ·rename_i hb
  rw[Qh_] at hb
  obtain ⟨ta,tb,tc,hu⟩:=hG.nf T hb.1
  have hdn:d < σ.n:=Qm_ hb.2
  have fin:∀(b:Bool),(∃f vs,a.eval x= .func f #[] vs)→(op= .eql∧b=false∨op= .neq∧b=true)→σ'=put σ d (.p (.v (.bool b)))→Goes P B g σ a w o σ':=by
   intro b ⟨f,vs,hx⟩ hbo hσ
   subst hσ
   refine .inl ⟨.bool b,w, ?_,g,by rw[hd];exact WE hI hdn (.v _ rfl),⟨rfl,rfl,rfl,Q2_ _,rfl,fun _ _ _=>rfl,fun _ _ _ _=>rfl,fun _ _ _=>rfl,fun _ _ _=>rfl,fun _ cs' _ h=>⟨cs',h,rfl,rfl⟩,Ext.refl _ _⟩⟩
   have he:(Op.equal T (.func f #[] vs) .nilFunc).run P w= .ok false w:=by
    show (Op.equalIn 10000 T (.func f #[] vs) .nilFunc).run P w= .ok false w
    unfold Op.equalIn
    simp only[Sem.run_bind,run_underlying hu,Result.andThen_ok]
    rfl
   unfold execOp
   rw[hop]
   have e2:a.eval (.const .nilFunc)= .nilFunc:=rfl
   simp only[hx,e2]
   refine ZO ?_
   rcases hbo with ⟨rfl,rfl⟩ | ⟨rfl,rfl⟩<;>simp[eqGuard,binOp,he]
  have rp:∀{f:Nat} {cs:List PV},opd σ x=some (.p (.fn f cs))→∃f vs,a.eval x= .func f #[] vs:=fun hx=>by
   have hr:Rep g.hw w (a.eval x) (.fn _ _):=ZG hI hx
   generalize a.eval x=v at hr
   cases hr with
   | fn f vs cs _ _=>exact ⟨_,_,rfl⟩
  have rf:∀{f:Nat} {bs:List Nat},opd σ x=some (.fnp f bs)→∃f vs,a.eval x= .func f #[] vs:=fun hx=>by
   obtain ⟨vs,h1,_⟩:=ZG hI hx
   exact ⟨_,_,h1⟩
  split at h
  ·rename_i hx;cases Qa_ h;exact fin _ (rp hx) (.inl ⟨rfl,rfl⟩) rfl
  ·rename_i hx;cases Qa_ h;exact fin _ (rf hx) (.inl ⟨rfl,rfl⟩) rfl
  ·rename_i hx;cases Qa_ h;exact fin _ (rp hx) (.inr ⟨rfl,rfl⟩) rfl
  ·rename_i hx;cases Qa_ h;exact fin _ (rf hx) (.inr ⟨rfl,rfl⟩) rfl
  ·cases h
theorem ZzL{Γ:List (Nat×Ty)}(hΓ:Ye P Γ){hw:Nat→Nat}{T:TypeId}{n:Nat}{ps:List (Nat×PV)}{xs:List (List PV)}{ty:Ty}(h:WD Γ T n ps=some (.lst xs))(hty:lk T Γ=some ty)(hl0:∀k,w.heap.size≤k→hw k=0)
 {vs:List (Nat×Value)} (hl:vs.length=ps.length) (hr:∀(j:Nat) (v:Nat×Value) (p:Nat×PV),vs[j]?=some v→ps[j]?=some p→v.1=p.1∧Rep hw w v.2 p.2):
 ∃i out,P.info? ty.elem=some i∧n *i.size < 16777216∧i.size≠0∧(out:List Value).length=n *i.size∧(Instr.buildSlice T n vs.toArray).run P w= .ok (.slice (some ⟨w.heap.size,0,none⟩) n n) (w.alloc (.cells out.toArray ty.elem))∧
  Qt hw w (fun k=>if k=w.heap.size then n *i.size else hw k) (w.alloc (.cells out.toArray ty.elem))∧Rep (fun k=>if k=w.heap.size then n *i.size else hw k) (w.alloc (.cells out.toArray ty.elem)) (.slice (some ⟨w.heap.size,0,none⟩) n n) (.lst xs):=by
 unfold WD at h
 split at h
 ·rename_i sz by_ zc fs e m hty2
  rw[hty] at hty2
  cases Qa_ hty2
  have hT:=ZJ (hΓ T _ hty)
  obtain ⟨_,hk3,_⟩:=Yz hT
  have hu:=hk3 rfl
  simp only at hu
  split at h
  ·rename_i ety hety
   have hET:=ZJ (hΓ _ _ hety)
   cases hb:(Nat.beq ety.size 0||Nat.ble 16777216 (n *ety.size)|| !(Nat.beq ety.zero.length ety.size)) with
   | true=>rw[hb] at h;cases h
   | false=>
     rw[hb] at h
     simp only[Qd_] at h
     simp only[Ka_,Qf_] at hb
     obtain ⟨⟨hb1,hb2⟩,hb3⟩:=hb
     have hs0:ety.size≠0:=fun h0=>by rw[h0] at hb1;exact absurd hb1 (by decide)
     have hn:n *ety.size < 16777216:=by
      rcases Kh_ (n *ety.size) 16777216 with h | h
      ·exact h
      ·rw[QF_ h] at hb2;cases hb2
     split at h
     ·rename_i cs hcs
      have:=Qa_ h
      injection this with this
      subst this
      obtain ⟨z,hz,hzc,h1,hzs⟩:=Wq hET w
      rw[hzc] at hcs
      obtain ⟨out,f1,f2,f3⟩:=ZaK (hw:=hw) (w:=w) (pl:=fun i=>some (i *ety.size,ety.size)) (fun i q hq=>hq) ps vs (Xl n z.cells.toList) _ cs (ZcW h1 n) hl hr hcs
      have hol:out.length=n *ety.size:=by rw[f3,ZdI];simp[hzs]
      obtain ⟨i,z',hi,_,hsz,_⟩:=hET.info
      refine ⟨i,out,hi,by rw[←hsz];exact hn,by rw[←hsz];exact hs0,by rw[←hsz];exact hol, ?_,ZeT hl0 (fun k hk=>by simp[hk]) _,by
       rw[←hsz]
       have:=ZeU hl0 f2 (rest:=[]) (n:=n) (s:=ety.size) (cap:=n) (by rw[←f2.len,hol]) (Q2_ _) e
       rw[QI_] at this
       exact this⟩
      have hnot:¬(n *ety.size > 2 ^ 24):=by omega
      unfold Instr.buildSlice
      simp only[Sem.run_bind,run_underlying hu,Result.andThen_ok,Yc hET,hnot,Kx_]
      by_cases h0:n *ety.size=0
      ·have hn0:n=0:=by
        rcases Nat.mul_eq_zero.1 h0 with h | h
        ·exact h
        ·exact absurd h hs0
       subst hn0
       have f1':Instr.fill (fun i=>some (i *ety.size,ety.size)) #[] vs=some out.toArray:=f1
       have e0:(Array.range 0).map (fun i=>(#[]:Array Value)[i % (#[]:Array Value).size]!)=#[]:=by apply QW_;simp
       simp only[Nat.zero_mul,Kw_,pure_bind,e0]
       rw[f1']
       rfl
      ·have hzp:0 < z.cells.size:=by omega
       have e1:=Zc3 hzp n
       rw[hzs] at e1
       simp only[h0,Kx_,Sem.run_bind,hz,Result.andThen_ok,Sem.run_pure,hzs,e1]
       have f1':Instr.fill (fun i=>some (i *ety.size,ety.size)) (Xl n z.cells.toList).toArray vs=some out.toArray:=f1
       rw[f1']
       simp[newRow]
     ·cases h
  ·cases h
 ·cases h
theorem Zxs{E:Env}(hE:EnvOk P E)(hI:Inv P B g σ a w){T:TypeId}{n:Nat}{ps:Array (Nat×Operand)}{d:Nat}{σ':St}{qs:List Prop}(hop:o.op= .buildSlice T n ps)(hdst:o.dst=some d)(h:bsO E σ T n ps.toList d=some (σ',qs)):Goes P B g σ a w o σ':=by
 unfold bsO at h
 split at h
 ·rename_i l hl
  split at h
  ·rename_i xs ty hv hty
   cases hb:Nat.blt d σ.n with
   | false=>rw[hb] at h;cases h
   | true=>
     rw[hb] at h
     cases Qa_ h
     have hd:d < σ.n:=Qm_ hb
     obtain ⟨e1,e2⟩:=Ziu hI hl
     obtain ⟨i,out,hi,hn,hs0,hol,hrun,q,hrep⟩:=ZzL (w:=w) hE.Γ hv hty hI.hwlt e1 e2
     have hown:OwnV P B (fun k=>if k=w.heap.size then n *i.size else g.hw k) (w.alloc (.cells out.toArray ty.elem)) ty.elem (.slice (some ⟨w.heap.size,0,none⟩) n n):=by
      have hnm:n≤maxLen:=by
       have:n *1≤n *i.size:=Nat.mul_le_mul_left _ (by omega)
       have:(16777216:Nat)≤maxLen:=by simp only[maxLen];omega
       omega
      refine ⟨i,n,out,hi,⟨hol,.inr ⟨w.heap.size,n,out.toArray,rfl,hI.base,heap_alloc_new w _,Q2_ _,hnm,by simpa using hol,by simp[←hol]⟩⟩,fun k hk=>?_⟩
      have:k=w.heap.size:=by simp[Value.ownBlock] at hk;exact hk.symm
      simp[this]
     have:=JI (v:= .slice none 0 0) (own':=σ.own) hI hd (fun k hk=>absurd hk (by simp[Value.ownBlock])) (fun k hk=>absurd hk (by simp[Value.ownBlock])) (fun _ _ h=>h) (fun _ _ _ j _ _ hk=>absurd hk (by simp[Value.ownBlock])) q.grew hrep hown (.inr (fun k hk=>by simp[Value.ownBlock] at hk;omega))
     refine .inl ⟨_,_, ?_,by rw[hdst];exact ⟨_,this⟩⟩
     unfold execOp
     rw[hop]
     simp only
     rw[Zgb]
     exact ZO hrun
  ·cases h
 ·cases h
theorem Zxt{n:Nat}{z:List PV}{y:PV}(h:y∈reps n z):y∈z:=by
 induction n with
 | zero=>cases h
 | succ n ih=>
   rcases Kv_.1 h with h | h
   ·exact h
   ·exact ih h
theorem Zxu{E:Env}(hE:EnvOk P E)(hI:Inv P B g σ a w){T:TypeId}{l c:Operand}{d:Nat}{σ':St}{ps:List Prop}(hop:o.op= .makeSlice T l c)(hdst:o.dst=some d)(h:mkB E σ T l c d=some (σ',ps))(hp:Yi ps):Goes P B g σ a w o σ':=by
 unfold mkB at h
 split at h
 ·rename_i ty k n k' m hty hl hc
  cases hb:(Nat.beq ty.kd 3&&(Nat.blt d σ.n&&Yf (lk d σ.boxes))) with
  | false=>rw[hb] at h;cases h
  | true=>
    rw[hb] at h
    simp only[Qb_] at h
    simp only[Qh_] at hb
    obtain ⟨b1,b2,b3⟩:=hb
    have hkd:=Qj_ b1
    have hd:d < σ.n:=Qm_ b2
    have hdb:lk d σ.boxes=none:=by
     cases hh:lk d σ.boxes with
     | none=>rfl
     | some c=>rw[hh] at b3;exact absurd b3 (by simp[Yf])
    split at h
    ·rename_i ety hety
     cases hb:(Nat.beq ety.size 0||(!(Nat.beq ety.zero.length ety.size)|| !(ety.zero.all flat))) with
     | true=>rw[hb] at h;cases h
     | false=>
       rw[hb] at h
       cases Qa_ h
       simp only[Ka_,Qf_] at hb
       obtain ⟨c1,c2,c3⟩:=hb
       have e1:n=m:=hp _ Qv_
       have e2:0≤n:=hp _ (Qq_ _ Qv_)
       have hn1:n.toNat *ety.size < 16777216:=hp _ (Qq_ _ (Qq_ _ Qv_))
       have hn2:n.toNat *ety.bytes < 16777216:=hp _ (Qq_ _ (Qq_ _ (Qq_ _ Qv_)))
       subst e1
       have hs0:ety.size≠0:=fun h0=>by rw[h0] at c1;exact absurd c1 (by decide)
       have hET:=ZJ (hE.Γ _ _ hety)
       obtain ⟨i,z,hi,hz,s1,s2,s3,s4,s5⟩:=hET.info
       obtain ⟨_,hk3,_⟩:=Yz (ZJ (hE.Γ _ _ hty))
       have hu:=hk3 hkd
       have rl:=Z7 (Zy hI hl)
       have rc:=Z7 (Zy hI hc)
       have hnn:(n.toNat:Int)=n:=Int.toNat_of_nonneg e2
       have hle:n.toNat≤n.toNat *ety.size:=Nat.le_mul_of_pos_right _ (by omega)
       have hrun:=run_makeSlice (P:=P) w T ty.elem i z hu hi hz k k' n n e2 (Int.le_refl _) (by rw[←s1];omega) (by rw[←s2,←hnn,←Int.natCast_mul,Nat.mul_comm];omega) (by omega)
       have hcells:madeCells z.cells (n.toNat *i.size)=(Xl n.toNat z.cells.toList).toArray:=by
        rw[←s5]
        exact Zc3 (by rw[s5,←s1];omega) n.toNat
       rw[hcells] at hrun
       have hlen:(Xl n.toNat z.cells.toList).length=n.toNat *i.size:=by rw[ZdI];simp[s5]
       have hmx:n.toNat≤maxLen:=by
        have:(16777216:Nat)≤maxLen:=by simp only[maxLen];omega
        omega
       have q:Qt g.hw w g.hw (w.alloc (.cells (Xl n.toNat z.cells.toList).toArray ty.elem)):=⟨(Below.refl _ _).alloc (Q2_ _) _,fun _ _=>rfl,fun k hk=>hI.hwlt k (by simp at hk;omega)⟩
       obtain ⟨i1,f1⟩:=Ze4 hI q
       have hrow:=World.ownsRow_lit (e:=ty.elem) (base:=B) (size:=i.size) w (Xl n.toNat z.cells.toList).toArray n.toNat hI.base hmx (by simpa using hlen)
       have hbx:∀(β:Nat→Option (Nat×Nat)) (hw2:Nat→Nat),BoxOk ⟨β,hw2⟩ (w.alloc (.cells (Xl n.toNat z.cells.toList).toArray ty.elem)) w.heap.size 0 (reps n.toNat ety.zero):=fun β hw2=>⟨fun j y hj=>by
        have hc:=ZcW (hw:=hw2) (w:=w.alloc (.cells (Xl n.toNat z.cells.toList).toArray ty.elem)) s4 n.toNat
        rw[←s3] at hc
        have hjl:j < (Xl n.toNat z.cells.toList).length:=by rw[hc.len];exact (Qo_.1 hj).1
        have hv:=Qg_ hjl
        refine ⟨_, ?_,hc.one _ (Qz_ hv), ?_,.rep (hc.rep j _ y hv hj)⟩
        ·rw[QP_,hrow.cellAt j (by rw[←hlen];exact hjl)];exact hv
        ·rw[QP_];exact hrow.frozenAt j⟩
       have hnb:∀b cs base,lk b σ.boxes=some cs→g.β b≠some (w.heap.size,base):=by
        intro b cs base hb e
        obtain ⟨k',base',e1,e2,_⟩:=hI.box b cs hb
        rw[e] at e1
        cases Qa_ e1
        omega
       have hno:∀l E val,lkL l σ.own=some E→LocIs g a (w.alloc (.cells (Xl n.toNat z.cells.toList).toArray ty.elem)) l val→val.ownBlock≠some w.heap.size:=by
        intro l E val hl hloc e
        obtain ⟨val0,q1,q2,_⟩:=hI.own l E hl
        have:val0=val:=by
         cases l with
         | t t=>exact q1.symm.trans hloc
         | b b c=>
           obtain ⟨k1,b1,e1,e2⟩:=q1
           obtain ⟨k2,b2,e3,e4⟩:=hloc
           rw[e1] at e3
           cases Qa_ e3
           obtain ⟨c1,hc1⟩:=hI.ownt _ E hl
           obtain ⟨k3,b3,e5,e6,_⟩:=hI.box b c1 hc1
           rw[e1] at e5
           cases Qa_ e5
           rw[q.cell k1 _ e6] at e4
           exact Qa_ (e2.symm.trans e4)
        subst this
        have:=(Yh q2 _ e).1
        omega
       obtain ⟨i2,f2⟩:=Zof i1 (n:=n.toNat) (s:=ety.size) (cap:=n.toNat) hd hdb (by simp) hI.base (hI.hwlt _ (Q2_ _)) (Q2_ _) hnb hno (hbx _ _) (fun y hy b' hb'=>by
        rw[Zo4 (QK_.1 c3 y (Zxt hy))] at hb';cases hb')
       refine .inl ⟨_,_, ?_,_,by rw[hdst];exact i2,f1.trans f2⟩
       unfold execOp
       rw[hop]
       simp only[rl,rc]
       exact ZO hrun
    ·cases h
 ·cases h
theorem ZjN{E:Env}(hE:EnvOk P E){C:ZP}(hC:CSOk P C){CP:Ys}(hP:CSPOk P CP){CI:Yn}(hJ:CSIOk P CI){G:Gx}(hG:OwOk P C G){j:Nat}{σ':St}{ps:List Prop}
 (h:ZmW E C CP CI G j σ o=some (σ',ps)) (hp:Yi ps) (hI:Inv P B g σ a w):Goes P B g σ a w o σ':=by
 have hT:∀{σ':St} {ps:List Prop},TSym E C CP CI j σ o=some (σ',ps)→Yi ps→Goes P B g σ a w o σ':=fun h hp=>ZyE hE (ZjH hC) (Z08 hP) (Z09 hJ) j σ o _ (ZzK _ _ _ _ _ h hp) B g a w hI
 unfold ZmW at h
 split at h
 ·rename_i fid args ats d hop hd
  split at h
  ·exact Zq4 hE hG hI hop hd h hp
  ·exact hT h hp
 ·rename_i op T x y yT d hop hd
  split at h
  ·rename_i hy
   exact ZsK hG hI hop hy hd h
  ·exact hT h hp
 ·rename_i T n ps d hop hd
  split at h
  ·exact Zxs hE hI hop hd h
  ·exact hT h hp
 ·rename_i T l c d hop hd
  split at h
  ·exact Zxu hE hI hop hd h hp
  ·exact hT h hp
 ·exact hT h hp
theorem ZsL{E:Env}(hE:EnvOk P E){C:ZP}(hC:CSOk P C){CP:Ys}(hP:CSPOk P CP){CI:Yn}(hJ:CSIOk P CI){G:Gx}(hG:OwOk P C G){j:Nat}{σ':St}{ps:List Prop}
 (h:ZbB E C CP CI G j σ o=some (σ',ps)) (hp:Yi ps) (hI:Inv P B g σ a w):Goes P B g σ a w o σ':=by
 unfold ZbB at h
 split at h
 ·split at h
  ·rename_i σ1 ps1 h1
   split at h
   ·rename_i σ2 qs h2
    cases Qa_ h
    obtain ⟨q1,q2⟩:=Jv hp
    obtain ⟨g1,i1,f1⟩:=ZjM h1 q1 hI
    exact (ZjN hE hC hP hJ hG h2 q2 i1).mono fun v w' ⟨g',k1,k2⟩=>⟨g',k1,f1.trans k2⟩
   ·cases h
  ·cases h
 ·exact ZjN hE hC hP hJ hG h hp hI
theorem ZhE{E:Env}{C:ZP}{CP:Ys}{CI:Yn}{G:Gx}:TSub (ZbB E C CP CI G) (TG0 E C CP CI G):=fun j σ o σ' ps h hp=>by
 unfold TG0
 rw[h]
 simp only[hp,Kw_]
theorem ZjO{E:Env}(hE:EnvOk P E){C:ZP}(hC:CSOk P C){CP:Ys}(hP:CSPOk P CP){CI:Yn}(hJ:CSIOk P CI){G:Gx}(hG:OwOk P C G):∀j σ o σ',TG0 E C CP CI G j σ o=some σ'→∀B g a w,Inv P B g σ a w→Goes P B g σ a w o σ':=by
 intro j σ o σ' h B g a w hI
 unfold TG0 at h
 split at h
 ·rename_i σ2 ps h2
  split at h
  ·rename_i hp
   cases Qa_ h
   exact ZsL hE hC hP hJ hG h2 hp hI
  ·cases h
 ·cases h
end
def ZbC(E:Env)(l:List ResultVar)(Q:PV→Prop)(e:Ex)(σ:St):Prop:=
 bif WO e then (match JJ E.Γ σ l with
  | some r=>Q (ZaO r)
  | none=>False) else False
def sxF(E:Env)(C:ZP)(CP:Ys)(CI:Yn)(G:Gx)(LS:List (Nat×LSum))(n:Nat)(fn:Func)(args:List PV)(Q:PV→Prop):Prop:=
 match fn.body with
 | some c=>bif Nat.ble args.length fn.ntmps then
    Zov (XB fn.ntmps args) fun σ=>YJ E.Γ (RSym E C) (ZbB E C CP CI G) LS n none c σ (ZbC E fn.results.toList Q)
   else False
 | none=>False
def ZQ(P:Program)(LS:List (Nat×LSum))(fn:Func):Prop:=∀c,fn.body=some c→∀b∈ZD c,∀S,lk (X1 b) LS=some S→Yl P b S
theorem Zil{P:Program}{fn:Func}:ZQ P [] fn:=fun c _ b _ S h=>by simp[lk] at h
theorem Z0C{P:Program}{E:Env}(hE:EnvOk P E){C:ZP}(hC:CSOk P C){CP:Ys}(hP:CSPOk P CP){CI:Yn}(hI:CSIOk P CI){G:Gx}(hG:OwOk P C G){LS:List (Nat×LSum)}{f:Nat}{fn:Func}(hf:lk f E.fns=some fn)(hL:ZQ P LS fn){n:Nat}{args:List PV}{Q:PV→Prop}
 (h:sxF E C CP CI G LS n fn args Q):∃r,Q r∧Con P f args r:=by
 obtain ⟨k1,k2⟩:=hE.fns f fn hf
 unfold sxF at h
 split at h
 ·rename_i c hc
  cases hb:Nat.ble args.length fn.ntmps with
  | false=>rw[hb] at h;exact h.elim
  | true=>
    rw[hb] at h
    simp only[Qb_,Zlo] at h
    obtain ⟨e,σ',h1,h2,_⟩:=(ZaT hE.Γ hE.mixed ZjJ (ZeA hE (ZjH hC)) ZhE (ZjO hE hC hP hI hG) n).1 c _ _ (hL c hc) h
    unfold ZbC at h1
    cases ho:WO e with
    | false=>rw[ho] at h1;exact h1.elim
    | true=>
      rw[ho] at h1
      simp only[Qb_] at h1
      split at h1
      ·rename_i r hr
       exact ⟨_,h1,ZnH hE.Γ k2 k1 hc hb h2 ho hr⟩
      ·exact h1.elim
 ·exact h.elim
theorem ZzM{P:Program}{E:Env}(hE:EnvOk P E){C:ZP}(hC:CSOk P C){CP:Ys}(hP:CSPOk P CP){CI:Yn}(hI:CSIOk P CI){G:Gx}(hG:OwOk P C G){LS:List (Nat×LSum)}{b:Code}(hL:∀b'∈ZD b,∀S,lk (X1 b') LS=some S→Yl P b' S){n:Nat}{σ:St}{K:Ex→St→Prop}
 (h:YJ E.Γ (RSym E C) (ZbB E C CP CI G) LS n none b σ K):∃e σ',K e σ'∧Tri P b σ e σ':=by
 obtain ⟨e,σ',h1,h2,_⟩:=(ZaT hE.Γ hE.mixed ZjJ (ZeA hE (ZjH hC)) ZhE (ZjO hE hC hP hI hG) n).1 b _ _ hL h
 exact ⟨e,σ',h1,h2⟩
def nz1:PV→PV
 | .nil=> .lst []
 | x=>x
def nzA:PV→PV
 | .nil=> .lst []
 | .agg cs=> .agg (cs.map nz1)
 | x=>x
def nz:PV→PV
 | .tup vs=> .tup (vs.map nzA)
 | x=>nzA x
section
variable {P:Program}{hw:Nat→Nat}{w:World}
theorem ZzN{v:Value}{x:PV}(h:Rep hw w v x):Rep hw w v (nz1 x):=by
 cases h<;>first | exact .lnil | (constructor<;>assumption)
theorem Zlr{v:Value}{x:PV}(h:Rep hw w v x):Rep hw w v (nzA x):=by
 cases x with
 | nil=>cases h;exact .lnil
 | agg cs=>
   cases h with
   | agg vs _ hl hr h1=>
     refine .agg vs _ (by simpa using hl) (fun j a b ha hb=>?_) h1
     rw[Q6_] at hb
     cases hc:cs[j]? with
     | none=>rw[hc] at hb;cases hb
     | some c=>
       rw[hc] at hb
       have:=Qa_ hb
       subst this
       exact ZzN (hr j a c ha hc)
 | _=>exact h
theorem Z0D{v:Value}{x:PV}(h:Rep hw w v x):Rep hw w v (nz x):=by
 cases x with
 | tup vs=>
   cases h with
   | tup us _ hl hr=>
     refine .tup us _ (by simpa using hl) (fun j a b ha hb=>?_)
     rw[Q6_] at hb
     cases hc:vs[j]? with
     | none=>rw[hc] at hb;cases hb
     | some c=>
       rw[hc] at hb
       have:=Qa_ hb
       subst this
       exact Zlr (hr j a c ha hc)
 | _=>exact Zlr h
theorem Zr4{vals:List Value}{args:List PV}(h:ArgsRep hw w vals args):ArgsRep hw w vals (args.map nzA):=by
 refine ⟨by simpa using h.len,fun j a b ha hb=>?_⟩
 rw[Q6_] at hb
 cases hc:args[j]? with
 | none=>rw[hc] at hb;cases hb
 | some c=>
   rw[hc] at hb
   have:=Qa_ hb
   subst this
   exact Zlr (h.rep j a c ha hc)
end
theorem Zvg{P:Program}{f:FuncId}{args:List PV}{r:PV}(h:Con P f args r):Con P f args (nz r):=fun hw w vals hl hg ha=>
 (h hw w vals hl hg ha).mono fun _ _ ⟨hw',q,hr⟩=>⟨hw',q,Z0D hr⟩
theorem Zxv{P:Program}{f:FuncId}{args:List PV}{r:PV}(h:Con P f (args.map nzA) r):Con P f args r:=fun hw w vals hl hg ha=>h hw w vals hl hg (Zr4 ha)
abbrev Ent:=List PV→Option (PV×List Prop)
def YY(l:List (Nat×Ent)):ZP:=fun f args=>match lk f l with
 | some g=>g (args.map nzA)
 | none=>none
def Zj(P:Program)(f:Nat)(g:Ent):Prop:=∀args r ps,g args=some (r,ps)→Yi ps→Con P f args r
theorem Zg{P:Program}:CSOk P (YY []):=fun f args r ps h=>by simp[YY,lk] at h
theorem Zb{P:Program}{f:Nat}{g:Ent}{l:List (Nat×Ent)}(h:Zj P f g)(hl:CSOk P (YY l)):CSOk P (YY ((f,g)::l)):=fun f' args r ps he hp=>by
 unfold YY at he
 rw[Zn] at he
 by_cases e:f'=f
 ·rw[if_pos e] at he
  subst e
  exact Zxv (h _ _ _ he hp)
 ·rw[if_neg e] at he
  exact hl f' args r ps he hp
def Z2E(P:Program)(f:Nat)(g:Ent)(T:Nat):Prop:=∀args r ps,g args=some (r,ps)→Yi ps→Zlq P f args T r
theorem Zvh{P:Program}{f:FuncId}{args:List PV}{T:Nat}{r:PV}(h:Zlq P f (args.map nzA) T r):Zlq P f args T r:=fun hw w vals hl hg ha=>h hw w vals hl hg (Zr4 ha)
def OwL(P:Program)(l:List (Nat×Ent))(ow:List (Nat×Nat)):Prop:=∀f T,lk f ow=some T→∀g,lk f l=some g→Z2E P f g T
theorem Zr5{P:Program}{l:List (Nat×Ent)}:OwL P l []:=fun f T h=>by simp[lk] at h
theorem Zr6{P:Program}{l:List (Nat×Ent)}{G:Gx}(h:OwL P l G.ow)(hn:∀T,has T G.nf=true→∃a b c,P.underlying T=some (.func a b c)):OwOk P (YY l) G:=⟨fun f T h1 args r ps h2 hp=>by
 unfold YY at h2
 split at h2
 ·rename_i g hg
  exact Zvh (h f T h1 g hg _ _ _ h2 hp)
 ·exact absurd h2 (by simp),hn⟩
def Zg4:Ys:=fun _ _ _=>none
def Zg5:Yn:=fun _ _ _=>none
theorem ZR{P:Program}:CSPOk P Zg4:=fun _ _ _ _ _ _ h=>absurd h (by simp[Zg4])
theorem ZS{P:Program}:CSIOk P Zg5:=fun _ _ _ _ _ _ h=>absurd h (by simp[Zg5])
theorem Zr7{P:Program}{E:Env}(hE:EnvOk P E){C:ZP}(hC:CSOk P C){CP:Ys}(hP:CSPOk P CP){CI:Yn}(hI:CSIOk P CI){G:Gx}(hG:OwOk P C G){LS:List (Nat×LSum)}{f:Nat}{fn:Func}(hf:lk f E.fns=some fn)(hL:ZQ P LS fn){n:Nat}{args:List PV}{X:PV}
 (h:sxF E C CP CI G LS n fn args (fun r=>nz r=X)):Con P f args X:=by
 obtain ⟨r,hr,hc⟩:=Z0C hE hC hP hI hG hf hL h
 rw[←hr]
 exact Zvg hc
def JL{α:Type}(l:List (Nat×α)):List Nat→List (Nat×α)
 | []=>[]
 | t::r=>match lk t l with
   | some v=>(t,v)::JL l r
   | none=>JL l r
def ZdU(l:List (Loc×Nat)):List Loc→List (Loc×Nat)
 | []=>[]
 | t::r=>match lkL t l with
   | some v=>(t,v)::ZdU l r
   | none=>ZdU l r
theorem ZdV{α:Type}{l:List (Nat×α)}{t:Nat}{v:α}:∀{ks:List Nat},lk t (JL l ks)=some v→lk t l=some v
 | [],h=>by simp[JL,lk] at h
 | k::r,h=>by
   unfold JL at h
   split at h
   ·rename_i v' hv
    rw[Zn] at h
    split at h
    ·rename_i e
     subst e
     rw[hv];exact h
    ·exact ZdV h
   ·exact ZdV h
theorem Zvi{a b:Loc}(h:a.eq b=true):a=b:=by
 cases a<;>cases b<;>simp only[Loc.eq,Qh_] at h
 ·rw[Qj_ h]
 ·cases h
 ·cases h
 ·rw[Qj_ h.1,Qj_ h.2]
theorem Zg6{l:List (Loc×Nat)}{t:Loc}{v:Nat}:∀{ks:List Loc},lkL t (ZdU l ks)=some v→lkL t l=some v
 | [],h=>by simp[ZdU,lkL] at h
 | k::r,h=>by
   unfold ZdU at h
   split at h
   ·rename_i v' hv
    unfold lkL at h
    cases hb:t.eq k with
    | true=>
      rw[hb] at h
      rw[Zvi hb,hv]
      exact h
    | false=>
      rw[hb] at h
      exact Zg6 h
   ·exact Zg6 h
structure Kp where
 t:List Nat
 b:List Nat
 o:List Loc
def ZjP(bx:List (Nat×List PV))(b:Nat):Bool:=XE (lk b bx)
def okS(τ:St):Bool:=
 τ.tmps.all (fun (_,v)=>(Ws v).all (ZjP τ.boxes))&&(τ.own.all (fun (l,_)=>match l with | .t _=>true | .b b _=>ZjP τ.boxes b)&&τ.boxes.all (fun (_,cs)=>(Zab cs).all (ZjP τ.boxes)))
def ZsM(k:Kp)(σ:St):Option St:=
 bif okS ⟨σ.n,JL σ.tmps k.t,JL σ.boxes k.b,σ.ro,ZdU σ.own k.o,[]⟩ then some ⟨σ.n,JL σ.tmps k.t,JL σ.boxes k.b,σ.ro,ZdU σ.own k.o,[]⟩ else none
theorem Zg7{bx:List (Nat×List PV)}{b:Nat}(h:ZjP bx b=true):∃cs,lk b bx=some cs:=by
 unfold ZjP at h
 cases hb:lk b bx with
 | none=>rw[hb] at h;exact absurd h (by simp[XE])
 | some cs=>exact ⟨cs,rfl⟩
theorem Zls{α:Type}{t:Nat}{v:α}:∀{l:List (Nat×α)},lk t l=some v→(t,v)∈l
 | [],h=>by simp[lk] at h
 | (t',v')::r,h=>by
   rw[Zn] at h
   split at h
   ·rename_i e
    subst e
    have:=Qa_ h
    subst this
    exact Qv_ ..
   ·exact Qq_ _ (Zls h)
theorem Zo5{t:Loc}{v:Nat}:∀{l:List (Loc×Nat)},lkL t l=some v→(t,v)∈l
 | [],h=>by simp[lkL] at h
 | (t',v')::r,h=>by
   unfold lkL at h
   cases hb:t.eq t' with
   | true=>
     rw[hb] at h
     have:=Qa_ h
     subst this
     rw[Zvi hb]
     exact Qv_ ..
   | false=>rw[hb] at h;exact Qq_ _ (Zo5 h)
theorem Zvj{k:Kp}{σ τ:St}(h:ZsM k σ=some τ):Sub τ σ:=by
 unfold ZsM at h
 cases hb:okS ⟨σ.n,JL σ.tmps k.t,JL σ.boxes k.b,σ.ro,ZdU σ.own k.o,[]⟩ with
 | false=>rw[hb] at h;cases h
 | true=>
   rw[hb] at h
   have:=Qa_ h
   subst this
   simp only[okS,Qh_] at hb
   obtain ⟨h1,h2,h3⟩:=hb
   have tm:∀t v,lk t (JL σ.tmps k.t)=some v→∀b∈Ws v,∃cs,lk b (JL σ.boxes k.b)=some cs:=fun t v ht b hm=>
    Zg7 (QK_.1 (QK_.1 h1 _ (Zls ht)) b hm)
   refine ⟨rfl,fun t v ht=>ZdV ht,fun b cs hb=>ZdV hb,fun b hm=>hm,fun t b off ht=>tm t _ ht b (by simp[Ws]),fun t f bs ht b hm=>tm t _ ht b hm,fun l E hl=>Zg6 hl,fun b c E hl=>?_,fun t l hm=>absurd hm (by simp),fun t b c hm=>absurd hm (by simp),fun t b off n s ht=>tm t _ ht b (by simp[Ws]),fun b cs hb y hy b' hb'=>?_⟩
   ·exact Zg7 (QK_.1 h2 _ (Zo5 hl))
   ·exact Zg7 (QK_.1 (QK_.1 h3 _ (Zls hb)) b' (JD hy hb'))
def Z9(fn:Func)(i:Nat):Code:=match fn.body with
 | some c=>(ZD c).getD i .skip
 | none=> .skip
def LsA(P:Program)(LS:List (Nat×LSum)):List Code→Prop
 | []=>True
 | b::r=>(∀S,lk (X1 b) LS=some S→Yl P b S)∧LsA P LS r
theorem Z2{P:Program}{LS:List (Nat×LSum)}:LsA P LS []:=trivial
theorem Ya{P:Program}{LS:List (Nat×LSum)}{b:Code}{r:List Code}{i:Nat}{S:LSum}(hi:X1 b=i)(hl:lk i LS=some S)(h:Yl P b S)(hr:LsA P LS r):LsA P LS (b::r):=
 ⟨fun S' h'=>by rw[hi,hl] at h';have:=Qa_ h';subst this;exact h,hr⟩
theorem Zlt{P:Program}{LS:List (Nat×LSum)}:∀{l:List Code},LsA P LS l→∀b∈l,∀S,lk (X1 b) LS=some S→Yl P b S
 | [],_,b,hb,_,_=>absurd hb (by simp)
 | c::r,h,b,hb,S,hS=>by
   rcases Q9_.1 hb with e | hb
   ·subst e;exact h.1 S hS
   ·exact Zlt h.2 b hb S hS
theorem Yo{P:Program}{LS:List (Nat×LSum)}{c:Code}{l:List Code}(he:ZD c=l)(h:LsA P LS l):∀b∈ZD c,∀S,lk (X1 b) LS=some S→Yl P b S:=by
 rw[he];exact Zlt h
theorem ZM{P:Program}{LS:List (Nat×LSum)}{fn:Func}{l:List Code}(he:(match fn.body with | some c=>ZD c | none=>[])=l)(h:LsA P LS l):ZQ P LS fn:=fun c hc b hm S hl=>by
 rw[hc] at he
 simp only at he
 rw[he] at hm
 exact Zlt h b hm S hl
def ZsN(Γ:List (Nat×Ty))(t E:Nat)(σ:St):St:=match lk t σ.tmps,lk E Γ with
 | some (.p .nil),some _=>{σ with tmps:=(t,.p (.lst []))::σ.tmps,own:=(.t t,E)::σ.own}
 | _,_=>σ
def ZmX(Γ:List (Nat×Ty))(t E:Nat)(σ:St):St:=match lk t σ.tmps with
 | some (.p .nil)=>ZsN Γ t E σ
 | _=>match lk t σ.al with
   | some l=>match lkL l σ.own with
     | some E'=>bif Nat.beq E E'&&Nat.blt t σ.n then {σ with own:=(.t t,E)::σ.own.filter fun (l',_)=> !(l'.eq l)} else σ
     | none=>σ
   | none=>σ
def ZmY(Γ:List (Nat×Ty))(b c E:Nat)(σ:St):St:=match lk b σ.boxes,lk E Γ with
 | some cs,some _=>match cs[c]? with
   | some .nil=>bif Nat.blt b σ.n then {σ with boxes:=(b,cs.set c (.lst []))::σ.boxes,own:=(.b b c,E)::σ.own} else σ
   | _=>σ
 | _,_=>σ
def ZjQ(Γ:List (Nat×Ty))(l:Loc)(E:Nat)(σ:St):St:=match l with
 | .t t=>ZmX Γ t E σ
 | .b b c=>ZmY Γ b c E σ
def ZcS(Γ:List (Nat×Ty)):List (Loc×Nat)→St→St
 | [],σ=>σ
 | (l,E)::r,σ=>ZcS Γ r (ZjQ Γ l E σ)
section
variable {P:Program}{B:Nat}{g:G}{σ τ:St}{a:Act}{w:World}
theorem Zxw{Γ:List (Nat×Ty)}(hΓ:Ye P Γ){t E:Nat}(hI:Inv P B g σ a w):Inv P B g (ZsN Γ t E σ) a w:=by
 unfold ZsN
 split
 ·rename_i ety ht hE
  obtain ⟨hlt,hrep⟩:=hI.tmp t _ ht
  have hval:a.tmps.getD t undef= .slice none 0 0:=by
   have hrep:Rep g.hw w (a.tmps.getD t undef) .nil:=hrep
   generalize a.tmps.getD t undef=v at hrep
   cases hrep;rfl
  obtain ⟨i,z,hi,_⟩:=(ZJ (hΓ _ _ hE)).info
  have hown:OwnV P B g.hw w E (.slice none 0 0):=⟨i,0,[],hi,World.ownsRow_nil _ _ _ _,fun k hk=>absurd hk (by simp[Value.ownBlock])⟩
  have h1:=ZdJ hI hlt hval hown (fun k hk=>absurd hk (by simp[Value.ownBlock])) (fun l E' val' k _ _ hk=>absurd hk (by simp[Value.ownBlock]))
  have lkc:∀t' v,lk t' ((t,AV.p (.lst []))::σ.tmps)=some v→(t'=t∧v= .p (.lst []))∨lk t' σ.tmps=some v:=by
   intro t' v h
   rw[Zn] at h
   split at h
   ·rename_i e
    exact .inl ⟨e,(Qa_ h).symm⟩
   ·exact .inr h
  refine ⟨h1.size,h1.defers,fun t' v h=>?_,fun t' b off h=>?_,fun t' f bs h=>?_,h1.box,h1.inj,h1.hwlt,h1.base,h1.glob,h1.own,h1.ownt,h1.owninj,h1.al,h1.alt,fun t' b off n s h=>?_,h1.ref⟩
  ·rcases lkc t' v h with ⟨rfl,rfl⟩ | h
   ·exact ⟨hlt,by show Rep g.hw w _ (.lst []);rw[hval];exact .lnil⟩
   ·exact hI.tmp t' v h
  ·rcases lkc t' _ h with ⟨_,e⟩ | h
   ·cases e
   ·exact hI.ptr t' b off h
  ·rcases lkc t' _ h with ⟨_,e⟩ | h
   ·cases e
   ·exact hI.fnp t' f bs h
  ·rcases lkc t' _ h with ⟨_,e⟩ | h
   ·cases e
   ·exact hI.sl t' b off n s h
 ·exact hI
theorem Zvk{Γ:List (Nat×Ty)}(hΓ:Ye P Γ){t E:Nat}(hI:Inv P B g σ a w):Inv P B g (ZmX Γ t E σ) a w:=by
 unfold ZmX
 split
 ·exact Zxw hΓ hI
 ·split
  ·rename_i l hl
   split
   ·rename_i E' hE
    cases hb:(Nat.beq E E'&&Nat.blt t σ.n) with
    | false=>exact hI
    | true=>
      rw[Qh_] at hb
      have e1:=Qj_ hb.1
      subst e1
      have hlt:t < σ.n:=Qm_ hb.2
      have hal:=hI.al t l (ZbL hl)
      obtain ⟨val,v1,v2,v3⟩:=hI.own l E hE
      have hv:a.tmps.getD t undef=val:=Za8 hal v1
      have hf:∀l2 E2,lkL l2 (σ.own.filter fun (l',_)=> !(l'.eq l))=some E2→l2≠l∧lkL l2 σ.own=some E2:=by
       intro l2 E2 h
       rw[Yb (fun l'=> !(l'.eq l))] at h
       split at h
       ·rename_i hn
        refine ⟨fun e=>?_,h⟩
        subst e
        rw[Loc.eq_iff.2 rfl] at hn
        cases hn
       ·cases h
      have base:Inv P B g {σ with own:=σ.own.filter fun (l',_)=> !(l'.eq l)} a w:=
       ⟨hI.size,hI.defers,hI.tmp,hI.ptr,hI.fnp,hI.box,hI.inj,hI.hwlt,hI.base,hI.glob,fun l2 E2 h=>hI.own l2 E2 (hf l2 E2 h).2,fun l2 E2 h=>hI.ownt l2 E2 (hf l2 E2 h).2,
        fun l2 l3 E2 E3 x y k h2 h3=>hI.owninj l2 l3 E2 E3 x y k (hf l2 E2 h2).2 (hf l3 E3 h3).2,hI.al,hI.alt,hI.sl,hI.ref⟩
      refine ZdJ base hlt hv v2 v3 (fun l2 E2 val2 k h2 hloc hk hk2=>?_)
      exact (hf l2 E2 h2).1 (hI.owninj l2 l E2 E val2 val k (hf l2 E2 h2).2 hE hloc v1 hk2 hk)
   ·exact hI
  ·exact hI
theorem Zvl{Γ:List (Nat×Ty)}(hΓ:Ye P Γ){b c E:Nat}(hI:Inv P B g σ a w):Inv P B g (ZmY Γ b c E σ) a w:=by
 unfold ZmY
 split
 ·rename_i cs ety hb hE
  split
  ·rename_i hc
   cases hn:Nat.blt b σ.n with
   | false=>exact hI
   | true=>
     obtain ⟨k0,base0,hk0,hlt0,hok0,hh0,hB0⟩:=hI.box b cs hb
     have hlen:c < cs.length:=(Qo_.1 hc).1
     obtain ⟨v0,q1,q2,q3,q4⟩:=hok0.cell c .nil hc
     have hv0:v0= .slice none 0 0:=by
      have h:=q4.plain rfl
      cases h;rfl
     subst hv0
     obtain ⟨i,z,hi,_⟩:=(ZJ (hΓ _ _ hE)).info
     have hown:OwnV P B g.hw w E (.slice none 0 0):=⟨i,0,[],hi,World.ownsRow_nil _ _ _ _,fun k hk=>absurd hk (by simp[Value.ownBlock])⟩
     have lkc:∀b' cs',lk b' ((b,cs.set c (.lst []))::σ.boxes)=some cs'→(b'=b∧cs'=cs.set c (.lst []))∨lk b' σ.boxes=some cs':=by
      intro b' cs' h
      rw[Zn] at h
      split at h
      ·rename_i e
       exact .inl ⟨e,(Qa_ h).symm⟩
      ·exact .inr h
     have lkm:∀b',(∃cs',lk b' σ.boxes=some cs')→∃cs',lk b' ((b,cs.set c (.lst []))::σ.boxes)=some cs':=by
      intro b' ⟨cs',h⟩
      rw[Zn]
      split
      ·exact ⟨_,rfl⟩
      ·exact ⟨cs',h⟩
     have lkb:∀b' cs',lk b' ((b,cs.set c (.lst []))::σ.boxes)=some cs'→∃cs0,lk b' σ.boxes=some cs0:=by
      intro b' cs' h
      rcases lkc b' cs' h with ⟨rfl,_⟩ | h
      ·exact ⟨_,hb⟩
      ·exact ⟨_,h⟩
     have lko:∀l E',lkL l ((Loc.b b c,E)::σ.own)=some E'→(l= .b b c∧E'=E)∨(l≠ .b b c∧lkL l σ.own=some E'):=by
      intro l E' hl
      rw[Yy] at hl
      split at hl
      ·rename_i e;exact .inl ⟨e,(Qa_ hl).symm⟩
      ·rename_i e;exact .inr ⟨e,hl⟩
     have nob:∀{v:Value},LocIs g a w (.b b c) v→v.ownBlock=none:=by
      intro v h
      obtain ⟨k1,b1,e1,e2⟩:=h
      rw[hk0] at e1
      cases Qa_ e1
      rw[q1] at e2
      cases Qa_ e2
      rfl
     refine ⟨hI.size,hI.defers,hI.tmp,fun t b' off h=>lkm b' (hI.ptr t b' off h),fun t f bs h b' hb'=>lkm b' (hI.fnp t f bs h b' hb'), ?_, ?_,hI.hwlt,hI.base,hI.glob, ?_, ?_, ?_,hI.al,fun t b' c' h=>lkm b' (hI.alt t b' c' h),fun t b' off n s h=>lkm b' (hI.sl t b' off n s h), ?_⟩
     ·intro b' cs' h
      rcases lkc b' cs' h with ⟨rfl,rfl⟩ | h
      ·refine ⟨k0,base0,hk0,hlt0,⟨fun j y hy=>?_⟩,hh0,hB0⟩
       rw[List.getElem?_set] at hy
       split at hy
       ·rename_i e
        subst e
        have hy:some (PV.lst [])=some y:=by simpa [hlen] using hy
        cases Qa_ hy
        exact ⟨_,q1,q2,q3,.rep .lnil⟩
       ·exact hok0.cell j y hy
      ·exact hI.box b' cs' h
     ·intro b1 b2 c1 c2 k x y h1 h2
      obtain ⟨d1,h1⟩:=lkb _ _ h1
      obtain ⟨d2,h2⟩:=lkb _ _ h2
      exact hI.inj b1 b2 d1 d2 k x y h1 h2
     ·intro l E' hl
      rcases lko l E' hl with ⟨rfl,rfl⟩ | ⟨_,hl⟩
      ·exact ⟨.slice none 0 0,⟨k0,base0,hk0,q1⟩,hown,fun k hk=>absurd hk (by simp[Value.ownBlock])⟩
      ·obtain ⟨val,v1,v2,v3⟩:=hI.own l E' hl
       refine ⟨val,v1,v2,fun k hk b' cs' base h=>?_⟩
       obtain ⟨d1,h⟩:=lkb _ _ h
       exact v3 k hk b' d1 base h
     ·intro l E' hl
      rcases lko l E' hl with ⟨rfl,rfl⟩ | ⟨_,hl⟩
      ·exact lkm b ⟨cs,hb⟩
      ·have:=hI.ownt l E' hl
       cases l with
       | t t=>exact this
       | b b1 c1=>exact lkm b1 this
     ·intro l l' E1 E2 v1 v2 k hl hl' h1 h2 h3 h4
      rcases lko l E1 hl with ⟨rfl,rfl⟩ | ⟨hne,hq⟩<;>rcases lko l' E2 hl' with ⟨rfl,rfl⟩ | ⟨hne',hq'⟩
      ·rfl
      ·rw[nob h1] at h3;cases h3
      ·rw[nob h2] at h4;cases h4
      ·exact hI.owninj l l' E1 E2 v1 v2 k hq hq' h1 h2 h3 h4
     ·intro b' cs' h y hy b2 hr
      rcases lkc b' cs' h with ⟨rfl,rfl⟩ | h
      ·rcases List.mem_or_eq_of_mem_set hy with hy | rfl
       ·exact lkm b2 (hI.ref b' cs hb y hy b2 hr)
       ·exact absurd hr (by simp[Xf])
      ·exact lkm b2 (hI.ref b' cs' h y hy b2 hr)
  ·exact hI
 ·exact hI
theorem Zvm{Γ:List (Nat×Ty)}(hΓ:Ye P Γ){l:Loc}{E:Nat}(hI:Inv P B g σ a w):Inv P B g (ZjQ Γ l E σ) a w:=by
 cases l with
 | t t=>exact Zvk hΓ hI
 | b b c=>exact Zvl hΓ hI
theorem Zim{Γ:List (Nat×Ty)}(hΓ:Ye P Γ):∀{l:List (Loc×Nat)} {σ:St},Inv P B g σ a w→Inv P B g (ZcS Γ l σ) a w
 | [],_,h=>h
 | (t,E)::r,σ,h=>by
   unfold ZcS
   exact Zim hΓ (Zvm hΓ h)
def ZhF(σ τ:St):Prop:=τ.n=σ.n∧∀b,σ.n≤b→lk b τ.boxes=lk b σ.boxes
theorem ZlZ{c:Bool}{σ τ:St}(h:c=true→ZhF σ τ):ZhF σ (bif c then τ else σ):=by
 cases c with
 | false=>exact ⟨rfl,fun _ _=>rfl⟩
 | true=>exact h rfl
theorem ZsO(Γ:List (Nat×Ty))(l:Loc)(E:Nat)(σ:St):ZhF σ (ZjQ Γ l E σ):=by
 unfold ZjQ
 split
 ·unfold ZmX ZsN
  repeat' split
  all_goals first | exact ⟨rfl,fun _ _=>rfl⟩ | exact ZlZ fun _=>⟨rfl,fun _ _=>rfl⟩
 ·unfold ZmY
  repeat' split
  all_goals first | exact ⟨rfl,fun _ _=>rfl⟩ | skip
  refine ZlZ fun hn=>⟨rfl,fun b' hb'=>?_⟩
  have hn:=Qm_ hn
  show lk b' (_::σ.boxes)=_
  rw[Zn,if_neg (by omega)]
theorem Zdj(Γ:List (Nat×Ty)):∀(l:List (Loc×Nat)) (σ:St),ZhF σ (ZcS Γ l σ)
 | [],_=>⟨rfl,fun _ _=>rfl⟩
 | (t,E)::r,σ=>by
   have h1:=ZsO Γ t E σ
   have h2:=Zdj Γ r (ZjQ Γ t E σ)
   exact ⟨h2.1.trans h1.1,fun b hb=>(h2.2 b (by rw[h1.1];exact hb)).trans (h1.2 b hb)⟩
theorem ZzO{g':G}{w':World}{σ':St}(h0:ZhF σ τ)(h:Fr B g τ w g' σ' w'):Fr B g σ w g' σ' w':=by
 obtain ⟨h1,h2⟩:=h0
 have l1:∀k,JE g τ k→JE g σ k:=fun k ⟨b,cs,base,a1,a2,a3⟩=>⟨b,cs,base,by rw[←h1];exact a1,by rw[←h2 b (by rw[←h1];exact a1)];exact a2,a3⟩
 have l2:∀k off,Lent g τ k off→Lent g σ k off:=fun k off ⟨b,cs,base,a1,a2,a3⟩=>⟨b,cs,base,by rw[←h1];exact a1,by rw[←h2 b (by rw[←h1];exact a1)];exact a2,a3⟩
 exact ⟨h.os,h.tape,h.output,h.size,h.n.trans h1,fun k hk hn=>h.block k hk (fun hl=>hn (l1 k hl)),fun k off hk hn=>h.cell k off hk (fun hl=>hn (l2 k off hl)),h.frozen,fun k hk hn=>h.hw k hk (fun hl=>hn (l1 k hl)),
  fun b cs hn hb=>by obtain ⟨cs0,q1,q2,q3⟩:=h.par b cs (by rw[h1];exact hn) hb;exact ⟨cs0,by rw[←h2 b hn];exact q1,q2,q3⟩,h.ext⟩
theorem Zxx{g0:G}{w0:World}{σ0:St}(h0:ZhF σ τ)(h:Fr B g0 σ0 w0 g σ w):Fr B g0 σ0 w0 g τ w:=
 ⟨h.os,h.tape,h.output,h.size,h0.1.trans h.n,h.block,h.cell,h.frozen,h.hw,fun b cs hn hb=>h.par b cs hn (by rw[←h0.2 b (by rw[h.n];exact hn)];exact hb),h.ext⟩
end
def Wk(P:Program)(σ τ:St):Prop:=∀B g a w,Inv P B g σ a w→Inv P B g τ a w∧(∀g' σ' w',Fr B g τ w g' σ' w'→Fr B g σ w g' σ' w')∧∀B0 g0 σ0 w0,Fr B0 g0 σ0 w0 g σ w→Fr B0 g0 σ0 w0 g τ w
theorem Z0E{P:Program}{σ τ:St}(h:Sub τ σ):Wk P σ τ:=fun _ _ _ _ hI=>⟨Zbt hI h,fun _ _ _ hf=>ZnG hf h,fun _ _ _ _ hf=>Ziv hf h⟩
theorem ZzP{P:Program}{Γ:List (Nat×Ty)}(hΓ:Ye P Γ)(l:List (Loc×Nat))(σ:St):Wk P σ (ZcS Γ l σ):=fun _ _ _ _ hI=>
 ⟨Zim hΓ hI,fun _ _ _ hf=>ZzO (Zdj Γ l σ) hf,fun _ _ _ _ hf=>Zxx (Zdj Γ l σ) hf⟩
theorem Wk.trans{P:Program}{σ τ ρ:St}(h:Wk P σ τ)(h':Wk P τ ρ):Wk P σ ρ:=fun B g a w hI=>by
 obtain ⟨i1,l1,r1⟩:=h B g a w hI
 obtain ⟨i2,l2,r2⟩:=h' B g a w i1
 exact ⟨i2,fun _ _ _ hf=>l1 _ _ _ (l2 _ _ _ hf),fun _ _ _ _ hf=>r2 _ _ _ _ (r1 _ _ _ _ hf)⟩
theorem ZzQ{P:Program}{c:Code}{σ τ σ':St}{e:Ex}(hs:Wk P σ τ)(h:Tri P c τ e σ'):Tri P c σ e σ':=fun B g a w hI=>
 wp_mono (h B g a w (hs B g a w hI).1) fun _ _ _ ⟨h1,g',h2,h3⟩=>⟨h1,g',h2,(hs B g a w hI).2.1 _ _ _ h3⟩
theorem ZzR{P:Program}{c:Code}{σ τ σ':St}{e:Ex}(hs:Wk P σ' τ)(h:Tri P c σ e σ'):Tri P c σ e τ:=fun B g a w hI=>
 wp_mono (h B g a w hI) fun _ a' w' ⟨h1,g',h2,h3⟩=>⟨h1,g',(hs B g' a' w' h2).1,(hs B g' a' w' h2).2.2 _ _ _ _ h3⟩
theorem Zxy{P:Program}{c:Code}{n:Nat}{σ τ σ':St}{e:Ex}(hs:Wk P σ' τ)(h:Jr P n c σ e σ'):Jr P n c σ e τ:=fun B g a w hI=>
 Zel (fun _ a' w' ⟨h1,g',h2,h3⟩=>⟨h1,g',(hs B g' a' w' h2).1,(hs B g' a' w' h2).2.2 _ _ _ _ h3⟩) n a w (h B g a w hI)
structure KpH where
 k:Kp
 h:List (Loc×Nat)
def Jh(Γ:List (Nat×Ty))(k:KpH)(σ:St):Option St:=ZsM k.k (ZcS Γ k.h σ)
theorem Zbz{P:Program}{Γ:List (Nat×Ty)}(hΓ:Ye P Γ){k:KpH}{σ τ:St}(h:Jh Γ k σ=some τ):Wk P σ τ:=(ZzP hΓ k.h σ).trans (Z0E (Zvj h))
def kpH(Γ:List (Nat×Ty))(k ke kr:KpH)(e:Ex)(σ:St):Option St:=match e with
 | .normal=>Jh Γ k σ
 | .ret=>Jh Γ kr σ
 | _=>Jh Γ ke σ
theorem Zvn{P:Program}{Γ:List (Nat×Ty)}(hΓ:Ye P Γ){k ke kr:KpH}{e:Ex}{σ τ:St}(h:kpH Γ k ke kr e σ=some τ):Wk P σ τ:=by
 cases e<;>exact Zbz hΓ h
def sxH(E:Env)(C:ZP)(CP:Ys)(CI:Yn)(G:Gx)(LS:List (Nat×LSum))(n:Nat)(b:Code)(k ke kr:KpH)(σ:St)(Q:Ex→Option St→Prop):Prop:=
 Zfv (clean (XX b) σ) fun σ=>YJ E.Γ (RSym E C) (ZbB E C CP CI G) LS n none b σ fun e σ1=>Q e (kpH E.Γ k ke kr e σ1)
theorem ZF{P:Program}{E:Env}(hE:EnvOk P E){C:ZP}(hC:CSOk P C){CP:Ys}(hP:CSPOk P CP){CI:Yn}(hI:CSIOk P CI){G:Gx}(hG:OwOk P C G){LS:List (Nat×LSum)}{b:Code}(hL:∀b'∈ZD b,∀S,lk (X1 b') LS=some S→Yl P b' S){n:Nat}
 {X:Type} (H:X→St) (inv:X→Prop) (fin:X→Ex→St→Prop) (μ:X→Nat) (k ke kr:KpH)
 (step:∀x,inv x→sxH E C CP CI G LS n b k ke kr (H x) fun e o=>
   (e= .normal∧∃y,o=some (H y)∧inv y∧μ y < μ x∧∀e s,fin y e s→fin x e s)∨(e≠ .normal∧∃τ,o=some τ∧fin x e τ)):
 ∀x,inv x→∃e σ',fin x e σ'∧∃m,Jr P m b (H x) e σ':=by
 have key:∀j x,μ x < j→inv x→∃e σ',fin x e σ'∧∃m,Jr P m b (H x) e σ':=by
  intro j
  induction j with
  | zero=>intro x hx;omega
  | succ j ih=>
    intro x hx hi
    have hs:=step x hi
    unfold sxH at hs
    rw[ZcR] at hs
    obtain ⟨e,σ1,h1,h2⟩:=ZzM hE hC hP hI hG hL hs
    have h3:=XC h2
    rcases h1 with ⟨rfl,y,hy,iy,my,fy⟩ | ⟨hne,τ,ht,hf⟩
    ·obtain ⟨e',σ',f1,m,f2⟩:=ih y (by omega) iy
     exact ⟨e',σ',fy _ _ f1,m+1,ZeZ (ZzR (Zvn hE.Γ hy) h3) f2⟩
    ·exact ⟨e,τ,hf,1,Zxy (Zvn hE.Γ ht) (Zix hne h3)⟩
 exact fun x hi=>key (μ x+1) x (by omega) hi
theorem Za0{P:Program}{Γ:List (Nat×Ty)}(hΓ:Ye P Γ){b:Code}{S:LSum}{X:Type}{H:X→St}{inv:X→Prop}{fin:X→Ex→St→Prop}(h:∀x,inv x→∃e σ',fin x e σ'∧∃m,Jr P m b (H x) e σ')(k:KpH)
 (hS:∀σ K,S σ K→∃x,Jh Γ k σ=some (H x)∧inv x∧∀e σ',fin x e σ'→K e σ'):Yl P b S:=fun σ K hs=>by
 obtain ⟨x,h1,h2,h3⟩:=hS σ K hs
 obtain ⟨e,σ',f1,m,f2⟩:=h x h2
 exact ⟨e,σ',h3 e σ' f1,ZzQ (Zbz hΓ h1) (Zfa f2)⟩
end Go.Ev
namespace Go.Men
open Go.Ev
theorem Za{b:Bool}{X Y:Prop}(h:b=true→X)(h':b=false→Y):(bif b then X else Y):=by
 cases b
 ·exact h' rfl
 ·exact h rfl
def eOr(a b:Ent):Ent:=fun args=>match a args with
 | some r=>some r
 | none=>b args
theorem ZeC{P:Program}{f:Nat}{a b:Ent}(ha:Zj P f a)(hb:Zj P f b):Zj P f (eOr a b):=fun args r ps h hp=>by
 unfold eOr at h
 split at h
 ·rename_i q hq
  have:=Qa_ h
  subst this
  exact ha _ _ _ hq hp
 ·exact hb _ _ _ h hp
def Zi{α:Type}(d:List PV→α)(xs:List (List PV)):List α:=xs.map d
theorem Jw{α:Type}(d:List PV→α)(e:α→List PV)(h:∀x,d (e x)=x)(l:List α):Zi d (l.map e)=l:=by
 unfold Zi
 rw[List.map_map]
 conv=>rhs;rw[←List.map_id l]
 exact List.map_congr_left fun x _=>h x
structure Iv where
 lo:Int
 hi:Int
 no:Bool
 deriving DecidableEq
def Iv.enc(a:Iv):List PV:=[.v (.int .i64 a.lo),.v (.int .i64 a.hi),.v (.bool a.no)]
def Iv.dec(p:List PV):Iv:=⟨Zd (p.headD .nil),Zd (p.tail.headD .nil),Zl (p.tail.tail.headD .nil)⟩
structure V where
 x:Iv
 y:Iv
 z:Iv
 deriving DecidableEq
def V.enc(a:V):List PV:=[.v (.int .i64 a.x.lo),.v (.int .i64 a.x.hi),.v (.bool a.x.no),.v (.int .i64 a.y.lo),.v (.int .i64 a.y.hi),.v (.bool a.y.no),.v (.int .i64 a.z.lo),.v (.int .i64 a.z.hi),.v (.bool a.z.no)]
structure Ray where
 o:V
 d:V
 deriving DecidableEq
def Ray.enc(r:Ray):List PV:=[.v (.int .i64 r.o.x.lo),.v (.int .i64 r.o.x.hi),.v (.bool r.o.x.no),.v (.int .i64 r.o.y.lo),.v (.int .i64 r.o.y.hi),.v (.bool r.o.y.no),.v (.int .i64 r.o.z.lo),.v (.int .i64 r.o.z.hi),.v (.bool r.o.z.no),
 .v (.int .i64 r.d.x.lo),.v (.int .i64 r.d.x.hi),.v (.bool r.d.x.no),.v (.int .i64 r.d.y.lo),.v (.int .i64 r.d.y.hi),.v (.bool r.d.y.no),.v (.int .i64 r.d.z.lo),.v (.int .i64 r.d.z.hi),.v (.bool r.d.z.no)]
structure Dec where
 c:Int
 scale:Int
 deriving DecidableEq
def Dec.enc(a:Dec):List PV:=[.v (.int .i64 a.c),.v (.int .i64 a.scale)]
structure A3 where
 a:Int
 b:Int
 c:Int
 deriving DecidableEq
def A3.enc(x:A3):List PV:=[.v (.int .i64 x.a),.v (.int .i64 x.b),.v (.int .i64 x.c)]
structure A6 where
 a:Int
 b:Int
 c:Int
 d:Int
 e:Int
 f:Int
def A6.enc(x:A6):List PV:=[.v (.int .i64 x.a),.v (.int .i64 x.b),.v (.int .i64 x.c),.v (.int .i64 x.d),.v (.int .i64 x.e),.v (.int .i64 x.f)]
structure RawRay where
 x:Int
 y:Int
 u:Int
 w:Int
 wide:Int
 lean:Int
def RawRay.enc(r:RawRay):List PV:=[.v (.int .i64 r.x),.v (.int .i64 r.y),.v (.int .i64 r.u),.v (.int .i64 r.w),.v (.int .i64 r.wide),.v (.int .i64 r.lean)]
structure Shape where
 kind:Int
 x:Dec
 y:Dec
 z:Dec
 r:Dec
 glow:A3
def Shape.enc(s:Shape):List PV:=[.v (.int .i64 s.kind),.v (.int .i64 s.x.c),.v (.int .i64 s.x.scale),.v (.int .i64 s.y.c),.v (.int .i64 s.y.scale),.v (.int .i64 s.z.c),.v (.int .i64 s.z.scale),.v (.int .i64 s.r.c),.v (.int .i64 s.r.scale),.v (.int .i64 s.glow.a),.v (.int .i64 s.glow.b),.v (.int .i64 s.glow.c)]
def Shape.dec(p:List PV):Shape:=⟨Zd (p.headD .nil),⟨Zd (p.tail.headD .nil),Zd (p.tail.tail.headD .nil)⟩,⟨Zd (p.tail.tail.tail.headD .nil),Zd (p.tail.tail.tail.tail.headD .nil)⟩,⟨Zd (p.tail.tail.tail.tail.tail.headD .nil),Zd (p.tail.tail.tail.tail.tail.tail.headD .nil)⟩,⟨Zd (p.tail.tail.tail.tail.tail.tail.tail.headD .nil),Zd (p.tail.tail.tail.tail.tail.tail.tail.tail.headD .nil)⟩,⟨Zd (p.tail.tail.tail.tail.tail.tail.tail.tail.tail.headD .nil),Zd (p.tail.tail.tail.tail.tail.tail.tail.tail.tail.tail.headD .nil),Zd (p.tail.tail.tail.tail.tail.tail.tail.tail.tail.tail.tail.headD .nil)⟩⟩
structure I where
 n:Int
def I.enc(a:I):List PV:=[.v (.int .i64 a.n)]
def I.dec(p:List PV):I:=⟨Zd (p.headD .nil)⟩
def Fit(n:Int):Prop:= -9223372036854775808≤n∧n≤9223372036854775807
theorem Zf{n:Int}(h:Fit n):IntKind.i64.wrap n=n:=by
 obtain ⟨h1,h2⟩:=h
 simp[IntKind.wrap,IntKind.bits,IntKind.signed]
 split<;>omega
theorem Zfw{b:Int}(hb:b≠0):(b < 0∧b.sign= -1)∨(0 < b∧b.sign=1):=by
 rcases Int.lt_or_gt_of_ne hb with h | h
 ·exact .inl ⟨h,Int.sign_eq_neg_one_of_neg h⟩
 ·exact .inr ⟨h,Int.sign_eq_one_of_pos h⟩
theorem Zr8{a b:Int}(hb:b≠0)(hm:a.tmod b≠0)(h:(decide (a < 0)==decide (b < 0))=false):a.tdiv b - 1=a.fdiv b:=by
 have hd:¬b∣a:=fun hd=>hm (Int.tmod_eq_zero_of_dvd hd)
 rw[Int.fdiv_eq_tdiv,if_neg hd]
 have ha:a≠0:=fun e=>hd (e▸Int.dvd_zero b)
 have hs:=Zfw hb
 by_cases h1:a < 0<;>by_cases h2:b < 0<;>simp[h1,h2] at h
 ·rw[if_neg (by omega)];omega
 ·rw[if_pos (by omega),if_neg (by omega)]
theorem ZhG{a b:Int}(hb:b≠0)(h:a.tmod b=0∨(decide (a < 0)==decide (b < 0))=true):a.tdiv b=a.fdiv b:=by
 rw[Int.fdiv_eq_tdiv]
 by_cases hd:b∣a
 ·rw[if_pos hd];omega
 ·rw[if_neg hd]
  have hm:a.tmod b≠0:=fun e=>hd (Int.dvd_of_tmod_eq_zero e)
  have ha:a≠0:=fun e=>hd (e▸Int.dvd_zero b)
  have h:=h.resolve_left hm
  have hs:=Zfw hb
  by_cases h1:a < 0<;>by_cases h2:b < 0<;>simp[h1,h2] at h
  ·rw[if_neg (by omega)];split<;>omega
  ·rw[if_pos (by omega),if_pos (by omega)];omega
theorem Za1{a b:Int}(h: -4611686018427387904≤a∧a≤4611686018427387904): -4611686018427387904≤a.tdiv b∧a.tdiv b≤4611686018427387904:=by
 have:=Int.natAbs_tdiv_le_natAbs a b
 omega
theorem Zdk{a b:Int}(h: -4611686018427387904≤a∧a≤4611686018427387904): -4611686018427387905≤a.fdiv b∧a.fdiv b≤4611686018427387905:=by
 have:=Za1 (b:=b) h
 by_cases hb:b=0
 ·subst hb;simp
 ·have hs:=Zfw hb
  rw[Int.fdiv_eq_tdiv]
  split
  ·omega
  ·split<;>split<;>omega
def inB(n:Int):Bool:=decide (-1073741824≤n)&&decide (n≤1073741824)
theorem ZL{n:Int}:inB n=true↔ -1073741824≤n∧n≤1073741824:=by simp[inB]
def right(a:Iv):Bool:= !a.no&&(inB a.lo&&(inB a.hi&&decide (a.lo≤a.hi)))
def none':Iv:=⟨0,0,true⟩
def of(lo hi:Int):Iv:=bif right ⟨lo,hi,false⟩ then ⟨lo,hi,false⟩ else none'
def point(n:Int):Iv:=of n n
def whole(n:Int):Iv:=bif inB n then point (n *65536) else none'
def floor(a b:Int):Int:=a.fdiv b
def up1(a b:Int):Int:=if a % b=0 then a.fdiv b else a.fdiv b+1
def rounded(a b:Int)(up:Bool):Int×Bool:=
 let q:=bif up then up1 a b else a.fdiv b
 bif inB q then (q,true) else (0,false)
def told(n:Int):Int×Bool:=bif inB n then (n,true) else (0,false)
def mul(a b:Int)(up:Bool):Int×Bool:=bif inB a&&inB b then rounded (a *b) 65536 up else (0,false)
def div(a b:Int)(up:Bool):Int×Bool:=bif inB a&&(inB b&&decide (b≠0)) then rounded (a *65536) b up else (0,false)
def both(a b:Iv):Bool:=right a&&right b
def neg(a:Iv):Iv:=bif right a then of (-a.hi) (-a.lo) else none'
def add(a b:Iv):Iv:=bif both a b then of (a.lo+b.lo) (a.hi+b.hi) else none'
def sub(a b:Iv):Iv:=add a (neg b)
def has(a:Iv)(n:Int):Bool:=right a&&(decide (a.lo≤n)&&decide (n≤a.hi))
theorem XY{a:Iv}(h:right a=true):a.no=false∧(-1073741824≤a.lo∧a.lo≤1073741824)∧(-1073741824≤a.hi∧a.hi≤1073741824)∧a.lo≤a.hi:=by
 simpa [right,inB] using h
theorem Zo6{a:Iv}(h:a.no=false)(h1: -1073741824≤a.lo)(h2:a.hi≤1073741824)(h3:a.lo≤a.hi):right a=true:=by
 simp[right,inB,h];omega
theorem Zvo{b:Iv}(h:right b=true):neg b=⟨-b.hi,-b.lo,false⟩:=by
 have hb:=XY h
 have:right ⟨-b.hi,-b.lo,false⟩=true:=Zo6 rfl (by simp;omega) (by simp;omega) (by simp;omega)
 simp[neg,of,h,this]
theorem Zvp(b:Iv):right (neg b)=right b:=by
 cases h:right b with
 | true=>
   have hb:=XY h
   rw[Zvo h]
   exact Zo6 rfl (by simp;omega) (by simp;omega) (by simp;omega)
 | false=>simp[neg,h];rfl
theorem Z0F(a b:Iv):sub a b=bif both a b then of (a.lo - b.hi) (a.hi - b.lo) else none':=by
 unfold sub add both
 rw[Zvp]
 cases h:right b with
 | true=>simp[Zvo h,Int.sub_eq_add_neg]
 | false=>simp
theorem Zo7{a b:Int}(h:a.tmod b≠0):decide (a.tmod b < 0)=decide (a < 0):=by
 by_cases ha:a < 0
 ·have:=Int.tmod_nonneg b (a:= -a) (by omega)
  rw[Int.neg_tmod] at this
  simp[ha];omega
 ·have:=Int.tmod_nonneg b (a:=a) (by omega)
  simp[ha];omega
theorem ZsP{lo hi:Int}(h1:inB lo=true)(h2:inB hi=true)(h3:lo≤hi):of lo hi=⟨lo,hi,false⟩:=by
 simp[of,right,h1,h2,h3]
theorem Zma{a b:Int}:a.tmod b=0↔a % b=0:=by
 rw[←Int.dvd_iff_tmod_eq_zero,←Int.dvd_iff_emod_eq_zero]
theorem Zo8{a b:Int}(hb:b≠0):a.fdiv b *b=a↔a % b=0:=by
 rw[←Int.dvd_iff_emod_eq_zero]
 constructor
 ·intro h;exact ⟨a.fdiv b,by rw[Int.mul_comm];exact h.symm⟩
 ·rintro ⟨c,rfl⟩
  rw[Int.mul_comm b c,Int.mul_fdiv_cancel _ hb]
theorem Zg8{a b:Int}(hl:0 < b):a - b < a.fdiv b *b∧a.fdiv b *b≤a:=by
 have h1:=Int.fmod_add_fdiv_mul a b
 have h2:=Int.fmod_nonneg_of_pos a hl
 have h3:=Int.fmod_lt_of_pos a hl
 omega
theorem Zo9{a b:Int}(hb:b≠0)(ha: -4611686018427387904≤a∧a≤4611686018427387904)(h: -4611686018427387904≤b∧b≤4611686018427387904):Fit (a.fdiv b *b):=by
 rcases Int.lt_or_gt_of_ne hb with hl | hl
 ·have h1:=Zg8 (a:= -a) (b:= -b) (by omega)
  rw[Int.neg_fdiv_neg,Int.mul_neg] at h1
  constructor<;>omega
 ·have h1:=Zg8 (a:=a) hl
  constructor<;>omega
theorem ZhH{a b:Int}(ha:inB a=true)(hb:inB b=true): -1152921504606846976≤a *b∧a *b≤1152921504606846976:=by
 rw[ZL] at ha hb
 have h1:(a *b).natAbs≤1073741824 *1073741824:=by
  rw[Int.natAbs_mul]
  exact Nat.mul_le_mul (by omega) (by omega)
 omega
def ends(f:Int→Int→Bool→Int×Bool)(a b:Iv):Iv:=
 bif ((f a.lo b.lo false).2&&(f a.lo b.lo true).2)&&(((f a.lo b.hi false).2&&(f a.lo b.hi true).2)&&(((f a.hi b.lo false).2&&(f a.hi b.lo true).2)&&((f a.hi b.hi false).2&&(f a.hi b.hi true).2))) then
  of (min (min (f a.lo b.lo false).1 (f a.lo b.hi false).1) (min (f a.hi b.lo false).1 (f a.hi b.hi false).1)) (max (max (f a.lo b.lo true).1 (f a.lo b.hi true).1) (max (f a.hi b.lo true).1 (f a.hi b.hi true).1))
 else none'
def Wi(a b:Iv):Iv:=bif both a b then ends mul a b else none'
def ZE(a b:Iv):Iv:=bif both a b&& !(has b 0) then ends div a b else none'
def Good(f:Int→Int→Bool→Int×Bool):Prop:=∀x y,(f x y false).2=true→(f x y true).2=true→inB (f x y false).1=true∧inB (f x y true).1=true∧(f x y false).1≤(f x y true).1
theorem Z0G(a b:Int):a.fdiv b≤up1 a b:=by unfold up1;split<;>omega
theorem Zg9{a b:Int}(h1:(rounded a b false).2=true)(h2:(rounded a b true).2=true):inB (rounded a b false).1=true∧inB (rounded a b true).1=true∧(rounded a b false).1≤(rounded a b true).1:=by
 have:=Z0G a b
 unfold rounded at *
 simp only[Qb_,Qd_] at *
 cases e1:inB (a.fdiv b)<;>cases e2:inB (up1 a b)<;>simp_all
theorem Zxz:Good mul:=by
 intro x y h1 h2
 unfold mul at *
 cases e:(inB x&&inB y) with
 | false=>simp[e] at h1
 | true=>simp only[e,Qb_] at *;exact Zg9 h1 h2
theorem Zx0:Good div:=by
 intro x y h1 h2
 unfold div at *
 cases e:(inB x&&(inB y&&decide (y≠0))) with
 | false=>rw[e] at h1;simp at h1
 | true=>simp only[e,Qb_] at *;exact Zg9 h1 h2
def ch1(p q:Int)(e:Iv):Iv:=of (List.foldl imin e.lo [p]) (List.foldl imax e.hi [q])
theorem Zu(x y:Int):imin x y=min x y:=by unfold imin;split<;>omega
theorem Zr(x y:Int):imax x y=max x y:=by unfold imax;split<;>omega
theorem ZjR{p q l h:Int}(h1:inB p=true)(h2:inB q=true)(h3:inB l=true)(h4:inB h=true)(h5:p≤q)(h6:l≤h):ch1 p q ⟨l,h,false⟩=⟨min l p,max h q,false⟩:=by
 rw[ZL] at *
 simp only[ch1,List.foldl,Zu,Zr]
 exact ZsP (ZL.2 (by omega)) (ZL.2 (by omega)) (by omega)
theorem ZjS{f:Int→Int→Bool→Int×Bool}(g:Good f){a b:Iv}(h1:(f a.lo b.lo false).2=true)(h2:(f a.lo b.lo true).2=true)(h3:(f a.lo b.hi false).2=true)(h4:(f a.lo b.hi true).2=true)(h5:(f a.hi b.lo false).2=true)(h6:(f a.hi b.lo true).2=true)(h7:(f a.hi b.hi false).2=true)(h8:(f a.hi b.hi true).2=true):
 ch1 (f a.hi b.hi false).1 (f a.hi b.hi true).1 (ch1 (f a.hi b.lo false).1 (f a.hi b.lo true).1 (ch1 (f a.lo b.hi false).1 (f a.lo b.hi true).1 (ch1 (f a.lo b.lo false).1 (f a.lo b.lo true).1 (of (f a.lo b.lo false).1 (f a.lo b.lo true).1))))=ends f a b:=by
 obtain ⟨a1,a2,a3⟩:=g _ _ h1 h2
 obtain ⟨b1,b2,b3⟩:=g _ _ h3 h4
 obtain ⟨c1,c2,c3⟩:=g _ _ h5 h6
 obtain ⟨d1,d2,d3⟩:=g _ _ h7 h8
 simp only[ends,h1,h2,h3,h4,h5,h6,h7,h8,QZ_,Qb_]
 generalize (f a.lo b.lo false).1=p1 at *
 generalize (f a.lo b.lo true).1=q1 at *
 generalize (f a.lo b.hi false).1=p2 at *
 generalize (f a.lo b.hi true).1=q2 at *
 generalize (f a.hi b.lo false).1=p3 at *
 generalize (f a.hi b.lo true).1=q3 at *
 generalize (f a.hi b.hi false).1=p4 at *
 generalize (f a.hi b.hi true).1=q4 at *
 rw[ZsP a1 a2 a3,ZjR a1 a2 a1 a2 a3 a3]
 rw[ZL] at *
 rw[ZjR (ZL.2 b1) (ZL.2 b2) (ZL.2 (by omega)) (ZL.2 (by omega)) b3 (by omega),
  ZjR (ZL.2 c1) (ZL.2 c2) (ZL.2 (by omega)) (ZL.2 (by omega)) c3 (by omega),
  ZjR (ZL.2 d1) (ZL.2 d2) (ZL.2 (by omega)) (ZL.2 (by omega)) d3 (by omega)]
 rw[ZsP (ZL.2 (by omega)) (ZL.2 (by omega)) (by omega)]
 simp only[Iv.mk.injEq,and_true]
 omega
theorem ZhI{f:Int→Int→Bool→Int×Bool}{a b:Iv}(h:(f a.lo b.lo false).2=false∨(f a.lo b.lo true).2=false∨(f a.lo b.hi false).2=false∨(f a.lo b.hi true).2=false∨(f a.hi b.lo false).2=false∨(f a.hi b.lo true).2=false∨(f a.hi b.hi false).2=false∨(f a.hi b.hi true).2=false):none'=ends f a b:=by
 unfold ends
 rcases h with h | h | h | h | h | h | h | h<;>simp[h]
theorem Zr9{f:Int→Int→Bool→Int×Bool}{a b:Iv}{x y:Int}(h1:(f a.lo b.lo false).2=true)(h2:(f a.lo b.lo true).2=true)(h3:(f a.lo b.hi false).2=true)(h4:(f a.lo b.hi true).2=true)(h5:(f a.hi b.lo false).2=true)(h6:(f a.hi b.lo true).2=true)(h7:(f a.hi b.hi false).2=true)(h8:(f a.hi b.hi true).2=true)
 (hx:x=min (min (f a.lo b.lo false).1 (f a.lo b.hi false).1) (min (f a.hi b.lo false).1 (f a.hi b.hi false).1)) (hy:y=max (max (f a.lo b.lo true).1 (f a.lo b.hi true).1) (max (f a.hi b.lo true).1 (f a.hi b.hi true).1)):of x y=ends f a b:=by
 subst hx;subst hy
 simp only[ends,h1,h2,h3,h4,h5,h6,h7,h8,QZ_,Qb_]
def far(a:Iv):Int:=max (-a.lo) a.hi
def near(a:Iv):Int:=max (max a.lo (-a.hi)) 0
def sqr(a:Iv):Iv:=bif right a&&(mul (far a) (far a) true).2 then of (mul (near a) (near a) false).1 (mul (far a) (far a) true).1 else none'
def times(a:Iv)(k:Int):Iv:=bif right a&&inB k then of (min (k *a.lo) (k *a.hi)) (max (k *a.lo) (k *a.hi)) else none'
def ZH:Nat→Int→Int→Int
 | 0,_,r=>r
 | k+1,n,r=>if (r+2 ^ k)* (r+2 ^ k)≤n then ZH k n (r+2 ^ k) else ZH k n r
def root(a:Int)(up:Bool):Int×Bool:=bif inB a&&decide (0≤a) then
    (bif up&&decide (ZH 24 (a *65536) 0 *ZH 24 (a *65536) 0 < a *65536) then (ZH 24 (a *65536) 0+1,true) else (ZH 24 (a *65536) 0,true))
 else (0,false)
def W3(a:Iv):Iv:=bif right a&&decide (0≤a.lo) then of (root a.lo false).1 (root a.hi true).1 else none'
def Z1X(a b c:Iv):Iv×Int:=
 let d:=sub (sqr b) (Wi a c)
 bif d.no then (none',0) else bif decide (d.hi < 0) then (none',2) else bif decide (d.lo < 0) then (none',0) else
  let t:=ZE c (sub (W3 d) b)
  bif t.no then (none',0) else (t,1)
def Z2F(a b:V):V:=⟨sub a.x b.x,sub a.y b.y,sub a.z b.z⟩
def dot(a b:V):Iv:=add (add (Wi a.x b.x) (Wi a.y b.y)) (Wi a.z b.z)
def Z0H(a:V):Iv:=add (add (sqr a.x) (sqr a.y)) (sqr a.z)
def Z6(d:Dec):Bool:=decide (d.c≥ -100000000000)&&(decide (d.c≤100000000000)&&(decide (d.scale≥0)&&(decide (d.scale≤6)&&(d.scale==0||d.c.tmod 10 !=0))))
def Zz(n:Int):Int:=10 ^ n.toNat
def Ze(d:Dec):Iv:=bif Z6 d then of (floor (d.c *65536) (Zz d.scale)) (-(floor (-(d.c *65536)) (Zz d.scale))) else none'
def within(n low high:Int):Int:=max low (min high n)
theorem Zfx{i:Int}(h:0≤i):Zz (i+1)=Zz i *10:=by
 unfold Zz
 rw[show (i+1).toNat=i.toNat+1 by omega,Int.pow_succ]
theorem Jx(i:Int):1≤Zz i:=by
 unfold Zz
 have:0 < (10:Int) ^ i.toNat:=Int.pow_pos (by omega)
 omega
theorem ZjT{i j:Int}(h:i≤j):Zz i≤Zz j:=by
 unfold Zz
 have:=Nat.pow_le_pow_right (n:=10) (by omega) (show i.toNat≤j.toNat by omega)
 exact_mod_cast this
theorem Zi7{i:Int}(h:i≤18):Zz i≤1000000000000000000:=ZjT (j:=18) h
theorem YZ{n:Int}(h: -9223372036854775807≤n∧n≤9223372036854775807):IntKind.i64.wrap (0 - n)= -n:=by
 rw[Zf (by constructor<;>omega)];omega
theorem ZoA{a b:Int}(hb:0 < b): -(floor (-a) b)=up1 a b:=by
 unfold floor up1
 have h1:=Int.fdiv_eq_ediv_of_nonneg (-a) (Int.le_of_lt hb)
 have h2:=Int.fdiv_eq_ediv_of_nonneg a (Int.le_of_lt hb)
 rw[h1,h2,Int.neg_ediv]
 by_cases h:b∣a
 ·rw[if_pos h,if_pos (Int.emod_eq_zero_of_dvd h)];omega
 ·rw[if_neg h,if_neg (fun e=>h (Int.dvd_of_emod_eq_zero e)),Int.sign_eq_one_of_pos hb];omega
theorem Zi8(n:Int):∀(k:Nat) (r:Int),r≤ZH k n r∧ZH k n r < r+2 ^ k
 | 0,r=>by simp[ZH];omega
 | k+1,r=>by
   have h:(2:Int) ^ (k+1)=2 ^ k+2 ^ k:=by rw[Int.pow_succ];omega
   have hp:(0:Int) < 2 ^ k:=Int.pow_pos (by omega)
   unfold ZH
   split
   ·have:=Zi8 n k (r+2 ^ k);omega
   ·have:=Zi8 n k r;omega
theorem Zx1{n:Int}(h:n < 281474976710656):ZH 25 n 0=ZH 24 n 0:=by
 conv=>lhs;unfold ZH
 rw[if_neg (by simp;omega)]
theorem Zi9{n:Int}:0≤ZH 24 n 0∧ZH 24 n 0 < 16777216:=by
 have:=Zi8 n 24 0
 simp at this
 omega
theorem ZhJ{n:Int}:Fit (ZH 24 n 0 *ZH 24 n 0):=by
 have:=Zi9 (n:=n)
 generalize ZH 24 n 0=r at *
 have h1:0≤r *r:=Int.mul_nonneg this.1 this.1
 have h2:r *r≤16777216 *16777216:=Int.mul_le_mul (by omega) (by omega) this.1 (by omega)
 constructor<;>omega
theorem ZoB{b:Int}(h:0≤b):(2:Int) ^ (b+1).toNat=2 ^ b.toNat+2 ^ b.toNat:=by
 rw[show (b+1).toNat=b.toNat+1 by omega,Int.pow_succ];omega
theorem Z0I{x:Int}(h:0≤x∧x≤33554432):Fit (x *x):=by
 have h1:0≤x *x:=Int.mul_nonneg h.1 h.1
 have h2:x *x≤33554432 *33554432:=Int.mul_le_mul (by omega) (by omega) h.1 (by omega)
 constructor<;>omega
theorem Z0J{r b:Int}(hb:0≤b∧b≤30)(hr:0≤r∧r < 4294967296)(hd:(2:Int) ^ (b.toNat+1)∣r):
 IntKind.i64.wrap ((BitVec.ofInt IntKind.i64.bits r||| BitVec.ofInt IntKind.i64.bits (IntKind.i64.wrap (1 *2 ^ min b.toNat IntKind.i64.bits))).toNat:Int)=r+2 ^ b.toNat:=by
 obtain ⟨m,hm⟩:=Int.eq_ofNat_of_zero_le hr.1
 obtain ⟨k,hk⟩:=Int.eq_ofNat_of_zero_le hb.1
 subst hm;subst hk
 have hk30:k≤30:=by omega
 have hm32:m < 4294967296:=by omega
 have hp:2 ^ k≤2 ^ 30:=Nat.pow_le_pow_right (by omega) hk30
 have e1:min (Int.toNat (k:Int)) IntKind.i64.bits=k:=by simp[IntKind.bits];omega
 have hp30:(2:Nat) ^ 30=1073741824:=by decide
 have e2:IntKind.i64.wrap (1 *2 ^ k)=((2 ^ k:Nat):Int):=by
  have h2:(1:Int)*2 ^ k=((2 ^ k:Nat):Int):=by simp
  rw[h2]
  generalize (2 ^ k:Nat)=t at *
  exact Zf (by constructor<;>omega)
 rw[e1,e2]
 have hd':2 ^ (k+1)∣m:=by
  have:((2 ^ (k+1):Nat):Int)∣(m:Int):=by simpa using hd
  exact Int.ofNat_dvd.1 this
 obtain ⟨c,hc⟩:=hd'
 have e3:(BitVec.ofInt IntKind.i64.bits (m:Int)||| BitVec.ofInt IntKind.i64.bits ((2 ^ k:Nat):Int)).toNat=m+2 ^ k:=by
  rw[BitVec.toNat_or,BitVec.ofInt_natCast,BitVec.ofInt_natCast,BitVec.toNat_ofNat,BitVec.toNat_ofNat]
  rw[Nat.mod_eq_of_lt (show m < 2 ^ IntKind.i64.bits by simp only[IntKind.bits];omega),Nat.mod_eq_of_lt (show 2 ^ k < 2 ^ IntKind.i64.bits by simp only[IntKind.bits];omega)]
  have h2:2 ^ k < 2 ^ (k+1):=Nat.pow_lt_pow_right (by omega) (by omega)
  have:=Nat.shiftLeft_add_eq_or_of_lt h2 c
  rw[Nat.shiftLeft_eq,Nat.mul_comm,←hc] at this
  exact this.symm
 rw[e3,Zf (by generalize (2 ^ k:Nat)=t at *;constructor<;>omega)]
 simp
theorem Zlu{r bit:Int}(h0:0≤bit)(a1:bit≤24)(a3:0≤r∧r+2 ^ (bit+1).toNat≤33554432)(a4:(2:Int) ^ (bit+1).toNat∣r):
 IntKind.i64.wrap (BitVec.ofInt (64:Nat) r||| BitVec.ofInt (64:Nat) (IntKind.i64.wrap (1 *2 ^ min bit.toNat (64:Nat)))).toNat=r+2 ^ bit.toNat:=by
 have h4:=ZoB h0
 have hp:(0:Int) < 2 ^ bit.toNat:=Int.pow_pos (by omega)
 rw[h4] at a3
 exact Z0J (r:=r) (b:=bit) (by omega) (by omega) (by rw[show bit.toNat+1=(bit+1).toNat by omega];exact a4)
theorem XM{r bit:Int}(h0:0≤bit)(a3:0≤r∧r+2 ^ (bit+1).toNat≤33554432):
 (bit - 1+1).toNat=bit.toNat∧(bit+1).toNat=bit.toNat+1∧(0:Int) < 2 ^ bit.toNat∧(2:Int) ^ (bit+1).toNat=2 ^ bit.toNat+2 ^ bit.toNat∧Fit ((r+2 ^ bit.toNat)* (r+2 ^ bit.toNat))∧(0≤r∧r+2 ^ bit.toNat+2 ^ bit.toNat≤33554432):=by
 have h4:=ZoB h0
 have hp:(0:Int) < 2 ^ bit.toNat:=Int.pow_pos (by omega)
 rw[h4] at a3
 exact ⟨by omega,by omega,hp,h4,Z0I (by omega),by omega⟩
theorem Zlv{r bit:Int}(h0:0≤bit)(a1:bit≤24)(a3:0≤r∧r+2 ^ (bit+1).toNat≤33554432):IntKind.i64.wrap (1 *2 ^ min bit.toNat (64:Nat))=2 ^ bit.toNat:=by
 obtain ⟨k1,k2,k3,k4,k5,k6⟩:=XM h0 a3
 rw[show min bit.toNat 64=bit.toNat by omega,Int.one_mul]
 exact Zf (by constructor<;>omega)
theorem ZiA(n:Int):∀(k:Nat) (r:Int),r *r≤n→ZH k n r *ZH k n r≤n
 | 0,r,h=>h
 | k+1,r,h=>by
   unfold ZH
   split
   ·exact ZiA n k _ (by assumption)
   ·exact ZiA n k _ h
theorem Zx2{n:Int}(h:0≤n):ZH 24 n 0 *ZH 24 n 0≤n:=ZiA n 24 0 (by simpa using h)
theorem ZbD(l h:Int):right (of l h)= !(of l h).no:=by
 unfold of
 cases e:right ⟨l,h,false⟩ with
 | true=>simp[e]
 | false=>simp;rfl
theorem Wu:right none'= !none'.no:=rfl
theorem Ji{c:Bool}{x y:Iv}(hx:right x= !x.no)(hy:right y= !y.no):right (bif c then x else y)= !(bif c then x else y).no:=by cases c<;>assumption
theorem ZaV(a b:Iv):right (add a b)= !(add a b).no:=Ji (ZbD _ _) Wu
theorem ZgA(a:Iv):right (neg a)= !(neg a).no:=Ji (ZbD _ _) Wu
theorem ZeD(a b:Iv):right (sub a b)= !(sub a b).no:=ZaV _ _
theorem ZrA(f:Int→Int→Bool→Int×Bool)(a b:Iv):right (ends f a b)= !(ends f a b).no:=Ji (ZbD _ _) Wu
theorem Zdl(a b:Iv):right (Wi a b)= !(Wi a b).no:=Ji (ZrA _ _ _) Wu
theorem Za2(a b:Iv):right (ZE a b)= !(ZE a b).no:=Ji (ZrA _ _ _) Wu
theorem ZeE(a:Iv):right (sqr a)= !(sqr a).no:=Ji (ZbD _ _) Wu
theorem Zcc(a:Iv):right (W3 a)= !(W3 a).no:=Ji (ZbD _ _) Wu
theorem WP(d:Dec):right (Ze d)= !(Ze d).no:=Ji (ZbD _ _) Wu
theorem Jy(n:Int):right (point n)= !(point n).no:=ZbD _ _
theorem Zdm(n:Int):right (whole n)= !(whole n).no:=Ji (Jy _) Wu
theorem XS{d:Dec}(h:Z6 d=true):(-100000000000≤d.c∧d.c≤100000000000)∧(0≤d.scale∧d.scale≤6):=by
 simp[Z6] at h
 omega
def pick(n m:Int):Int:=n % m
theorem Xy{n m:Int}(h:0 < m):0≤pick n m∧pick n m < m:=⟨Int.emod_nonneg n (by omega),Int.emod_lt_of_pos n h⟩
theorem ZrB{n m:Int}(h:0 < m):pick n m=if n.tmod m < 0 then n.tmod m+m else n.tmod m:=by
 have h1:=Xy (n:=n) h
 unfold pick at *
 rw[Int.tmod_eq_emod]
 split<;>split<;>omega
theorem ZzS{n m:Int}(h:0 < m): -m < n.tmod m∧n.tmod m < m:=by
 have h1:=Xy (n:=n) h
 unfold pick at h1
 rw[Int.tmod_eq_emod]
 split<;>omega
def w64(n:Int):Int:=IntKind.i64.wrap n
def num(n:Int):Int:=
 let k:=pick n 9
 let m:=IntKind.i64.wrap (n.tdiv 9)
 bif k==0 then n else bif k==1 then (pick m 201 - 100)*65536 else bif k==2 then pick m 9 - 4 else bif k==3 then pick m 2147483657 - 1073741824 - 4 else pick m 2621440 - 1310720
def wide(x w:Int):Iv:=⟨within x (-1073741824) 1073741824,min 1073741824 (within x (-1073741824) 1073741824+w),false⟩
def ZeF(n w:Int):Iv:=
 let k:=pick w 12
 bif k==0 then ⟨num n,num (IntKind.i64.wrap (w.tdiv 12)),false⟩ else bif k==1 then ⟨num n,num n,pick (IntKind.i64.wrap (w.tdiv 12)) 5==4⟩ else bif k==2||k==3 then ⟨num n,num n,false⟩ else wide (num n) (pick (IntKind.i64.wrap (w.tdiv 12)) 9000)
def ZV(d:Dec):Bool:=d.c==0&&d.scale==0
def meet(s:Shape)(r:Ray):Iv×Int:=
 bif s.kind==1 then
  let o:=Z2F r.o ⟨Ze s.x,Ze s.y,Ze s.z⟩
  Z1X (Z0H r.d) (dot o r.d) (sub (Z0H o) (sqr (Ze s.r)))
 else bif s.kind==2 then
  let t:=ZE (sub (Ze s.z) r.o.z) r.d.z
  bif t.no then (none',0) else (t,1)
 else (none',0)
def hit(s:Shape)(r:Ray):Iv×Int:=
 bif !((meet s r).2==1) then (none',(meet s r).2) else bif decide ((meet s r).1.hi≤0) then (none',2) else bif decide ((meet s r).1.lo≤0) then (none',0) else ((meet s r).1,1)
theorem YH(l:List Shape):Zi Shape.dec (l.map Shape.enc)=l:=Jw _ _ (fun _=>rfl) l
theorem dI(l:List I):Zi I.dec (l.map I.enc)=l:=Jw _ _ (fun _=>rfl) l
theorem dIv(l:List Iv):Zi Iv.dec (l.map Iv.enc)=l:=Jw _ _ (fun _=>rfl) l
def X2{α:Type}(p:α→Bool):List α→Int→Int
 | [],_=> -1
 | x::r,i=>bif p x then i else X2 p r (i+1)
theorem ZhK{α:Type}{p:α→Bool}:∀{l:List α} {i:Int},l.any p=false→X2 p l i= -1
 | [],_,_=>rfl
 | x::r,i,h=>by
   simp only[QU_,Ka_] at h
   simp only[X2,h.1,Qd_]
   exact ZhK h.2
theorem ZhL{α:Type}{p:α→Bool}:∀{l:List α} {i:Int},0≤i→decide (X2 p l i≥0)=l.any p
 | [],_,_=>by simp[X2]
 | x::r,i,h=>by
   cases e:p x with
   | true=>simp[X2,e];exact h
   | false=>simpa [X2,e] using ZhL (p:=p) (l:=r) (i:=i+1) (by omega)
theorem Yg{α:Type}{l:List α}{i:Int}(h0:0≤i)(h:i < l.length):∃x r,l.drop i.toNat=x::r∧l.drop (i+1).toNat=r∧l[i.toNat]?=some x:=by
 have hl:i.toNat < l.length:=by omega
 refine ⟨l[i.toNat],l.drop (i.toNat+1),Ky_ hl,by rw[show (i+1).toNat=i.toNat+1 by omega],by simp[hl]⟩
theorem Yp{α:Type}{e:α→List PV}{l:List α}{n:Nat}{x:α}(h:l[n]?=some x):(l.map e).getD n []=e x:=by
 rw[Q7_,Q6_,h];rfl
def hdec:Nat→Int→Int→Dec
 | 0,c,s=>⟨c,s⟩
 | k+1,c,s=>bif decide (s > 0)&&c.tmod 10==0 then hdec k (IntKind.i64.wrap (c.tdiv 10)) (IntKind.i64.wrap (s - 1)) else ⟨c,s⟩
theorem Zv{α:Type}{e:α→List PV}{z:List PV}(h:∀x,YK z (e x)=e x){l:List α}{i:Int}(h0:0≤i)(h1:i < l.length):0≤i∧(l.map e)[i.toNat]?=some (YK z ((l.map e).getD i.toNat [])):=by
 obtain ⟨x,r,_,_,hx⟩:=Yg h0 h1
 refine ⟨h0, ?_⟩
 rw[Yp hx,Q6_,hx,h]
 rfl
theorem Z2G(l:List I)(k:Nat):Zd (((l.map I.enc).getD k []).headD .nil)=(l.getD k ⟨0⟩).n:=by
 rw[Q7_,Q6_,Q7_]
 cases l[k]?<;>rfl
theorem Zvq{c s:Int}(h:0 < s)(hs:s≤18)(hc:c.tmod 10=0):hdec s.toNat c s=hdec (IntKind.i64.wrap (s - 1)).toNat (IntKind.i64.wrap (c.tdiv 10)) (IntKind.i64.wrap (s - 1)):=by
 have e:(IntKind.i64.wrap (s - 1))=s - 1:=Zf (by constructor<;>omega)
 rw[e]
 obtain ⟨k,hk⟩:∃k,s.toNat=k+1:=⟨s.toNat - 1,by omega⟩
 have hk2:(s - 1).toNat=k:=by omega
 rw[hk,hk2]
 conv=>lhs;unfold hdec
 rw[e,show (decide (s > 0)&&c.tmod 10==0)=true by simp[h,hc]]
 rfl
theorem ZoC{c s:Int}(h:¬(s > 0∧c.tmod 10=0)):hdec s.toNat c s=⟨c,s⟩:=by
 by_cases hs:s > 0
 ·obtain ⟨k,hk⟩:∃k,s.toNat=k+1:=⟨s.toNat - 1,by omega⟩
  rw[hk]
  unfold hdec
  have hc:(c.tmod 10==0)=false:=by simp;intro e;exact h ⟨hs,e⟩
  rw[hc,Qn_];rfl
 ·have:s.toNat=0:=by omega
  rw[this];rfl
theorem XI{α:Type}{e:α→List PV}{n:Nat}(h:∀x,(e x).length=n)(l:List α):Lens n (l.map e):=fun y hy=>by
 obtain ⟨x,_,rfl⟩:=Ku_.1 hy
 exact h x
theorem XZ{n:Nat}{l:List (List PV)}{x:List PV}(h:Lens n l)(hx:x.length=n):Lens n (l++[x]):=fun y hy=>by
 rcases Kv_.1 hy with h' | h'
 ·exact h y h'
 ·rw[List.mem_singleton.1 h'];exact hx
def ZjU(r:Ray):List Shape→Int→Int→Iv→List Iv→Int×Iv×List Iv
 | [],_,b,a,all=>(b,a,all)
 | s::l,k,b,a,all=>
   bif (hit s r).2==2 then ZjU r l (k+1) b a all
   else bif decide (b < 0)||decide ((hit s r).1.hi < a.hi) then ZjU r l (k+1) k (hit s r).1 (all++[(hit s r).1])
   else ZjU r l (k+1) b a (all++[(hit s r).1])
def unsure(r:Ray)(l:List Shape):Bool:=l.any (fun s=>(hit s r).2==0)
def behind(a:Iv):List Iv→Int
 | []=>0
 | t::l=>bif decide (a.hi < t.lo) then behind a l+1 else behind a l
def nearest(l:List Shape)(r:Ray):Int×Iv×Int:=
 bif unsure r l then (-1,none',0) else
  let g:=ZjU r l 0 (-1) none' []
  bif decide (g.1 < 0) then (-1,none',2)
  else bif decide (behind g.2.1 g.2.2+1 < g.2.2.length) then (-1,none',0) else (g.1,g.2.1,1)
theorem Zra{cs vs:List PV}{o:Nat}(h:o+vs.length≤cs.length):(lay cs o vs).length=cs.length:=by
 unfold lay
 simp only[Qx_,K2_,K9_]
 omega
structure Surf where
 stop:Bool
 bent:Bool
 curve:Iv
 conic:Iv
 a4:Iv
 a6:Iv
 pos:Iv
 open2:Iv
 ratio:Iv
def Surf.enc(x:Surf):List PV:=[.v (.bool x.stop),.v (.bool x.bent),.v (.int .i64 x.curve.lo),.v (.int .i64 x.curve.hi),.v (.bool x.curve.no),.v (.int .i64 x.conic.lo),.v (.int .i64 x.conic.hi),.v (.bool x.conic.no),.v (.int .i64 x.a4.lo),.v (.int .i64 x.a4.hi),.v (.bool x.a4.no),.v (.int .i64 x.a6.lo),.v (.int .i64 x.a6.hi),.v (.bool x.a6.no),.v (.int .i64 x.pos.lo),.v (.int .i64 x.pos.hi),.v (.bool x.pos.no),.v (.int .i64 x.open2.lo),.v (.int .i64 x.open2.hi),.v (.bool x.open2.no),.v (.int .i64 x.ratio.lo),.v (.int .i64 x.ratio.hi),.v (.bool x.ratio.no)]
def Surf.dec(p:List PV):Surf:=⟨Zl (p.headD .nil),Zl (p.tail.headD .nil),⟨Zd (p.tail.tail.headD .nil),Zd (p.tail.tail.tail.headD .nil),Zl (p.tail.tail.tail.tail.headD .nil)⟩,⟨Zd (p.tail.tail.tail.tail.tail.headD .nil),Zd (p.tail.tail.tail.tail.tail.tail.headD .nil),Zl (p.tail.tail.tail.tail.tail.tail.tail.headD .nil)⟩,⟨Zd (p.tail.tail.tail.tail.tail.tail.tail.tail.headD .nil),Zd (p.tail.tail.tail.tail.tail.tail.tail.tail.tail.headD .nil),Zl (p.tail.tail.tail.tail.tail.tail.tail.tail.tail.tail.headD .nil)⟩,⟨Zd (p.tail.tail.tail.tail.tail.tail.tail.tail.tail.tail.tail.headD .nil),Zd (p.tail.tail.tail.tail.tail.tail.tail.tail.tail.tail.tail.tail.headD .nil),Zl (p.tail.tail.tail.tail.tail.tail.tail.tail.tail.tail.tail.tail.tail.headD .nil)⟩,⟨Zd (p.tail.tail.tail.tail.tail.tail.tail.tail.tail.tail.tail.tail.tail.tail.headD .nil),Zd (p.tail.tail.tail.tail.tail.tail.tail.tail.tail.tail.tail.tail.tail.tail.tail.headD .nil),Zl (p.tail.tail.tail.tail.tail.tail.tail.tail.tail.tail.tail.tail.tail.tail.tail.tail.headD .nil)⟩,⟨Zd (p.tail.tail.tail.tail.tail.tail.tail.tail.tail.tail.tail.tail.tail.tail.tail.tail.tail.headD .nil),Zd (p.tail.tail.tail.tail.tail.tail.tail.tail.tail.tail.tail.tail.tail.tail.tail.tail.tail.tail.headD .nil),Zl (p.tail.tail.tail.tail.tail.tail.tail.tail.tail.tail.tail.tail.tail.tail.tail.tail.tail.tail.tail.headD .nil)⟩,⟨Zd (p.tail.tail.tail.tail.tail.tail.tail.tail.tail.tail.tail.tail.tail.tail.tail.tail.tail.tail.tail.tail.headD .nil),Zd (p.tail.tail.tail.tail.tail.tail.tail.tail.tail.tail.tail.tail.tail.tail.tail.tail.tail.tail.tail.tail.tail.headD .nil),Zl (p.tail.tail.tail.tail.tail.tail.tail.tail.tail.tail.tail.tail.tail.tail.tail.tail.tail.tail.tail.tail.tail.tail.headD .nil)⟩⟩
theorem YS(l:List Surf):Zi Surf.dec (l.map Surf.enc)=l:=Jw _ _ (fun _=>rfl) l
structure SysM where
 surfs:List Surf
 op:Iv
def SysM.enc(x:SysM):List PV:=[.lst (x.surfs.map Surf.enc),.v (.int .i64 x.op.lo),.v (.int .i64 x.op.hi),.v (.bool x.op.no)]
def SysM.dec(p:List PV):SysM:=⟨(Zi Surf.dec (ZaU (p.headD .nil))),⟨Zd (p.tail.headD .nil),Zd (p.tail.tail.headD .nil),Zl (p.tail.tail.tail.headD .nil)⟩⟩
-- SysM: with lists
structure TrRes where
 kind:Int
 pos:Int
 r:Ray
def TrRes.enc(x:TrRes):List PV:=[.v (.int .i64 x.kind),.v (.int .i64 x.pos),.v (.int .i64 x.r.o.x.lo),.v (.int .i64 x.r.o.x.hi),.v (.bool x.r.o.x.no),.v (.int .i64 x.r.o.y.lo),.v (.int .i64 x.r.o.y.hi),.v (.bool x.r.o.y.no),.v (.int .i64 x.r.o.z.lo),.v (.int .i64 x.r.o.z.hi),.v (.bool x.r.o.z.no),.v (.int .i64 x.r.d.x.lo),.v (.int .i64 x.r.d.x.hi),.v (.bool x.r.d.x.no),.v (.int .i64 x.r.d.y.lo),.v (.int .i64 x.r.d.y.hi),.v (.bool x.r.d.y.no),.v (.int .i64 x.r.d.z.lo),.v (.int .i64 x.r.d.z.hi),.v (.bool x.r.d.z.no)]
def TrRes.dec(p:List PV):TrRes:=⟨Zd (p.headD .nil),Zd (p.tail.headD .nil),⟨⟨⟨Zd (p.tail.tail.headD .nil),Zd (p.tail.tail.tail.headD .nil),Zl (p.tail.tail.tail.tail.headD .nil)⟩,⟨Zd (p.tail.tail.tail.tail.tail.headD .nil),Zd (p.tail.tail.tail.tail.tail.tail.headD .nil),Zl (p.tail.tail.tail.tail.tail.tail.tail.headD .nil)⟩,⟨Zd (p.tail.tail.tail.tail.tail.tail.tail.tail.headD .nil),Zd (p.tail.tail.tail.tail.tail.tail.tail.tail.tail.headD .nil),Zl (p.tail.tail.tail.tail.tail.tail.tail.tail.tail.tail.headD .nil)⟩⟩,⟨⟨Zd (p.tail.tail.tail.tail.tail.tail.tail.tail.tail.tail.tail.headD .nil),Zd (p.tail.tail.tail.tail.tail.tail.tail.tail.tail.tail.tail.tail.headD .nil),Zl (p.tail.tail.tail.tail.tail.tail.tail.tail.tail.tail.tail.tail.tail.headD .nil)⟩,⟨Zd (p.tail.tail.tail.tail.tail.tail.tail.tail.tail.tail.tail.tail.tail.tail.headD .nil),Zd (p.tail.tail.tail.tail.tail.tail.tail.tail.tail.tail.tail.tail.tail.tail.tail.headD .nil),Zl (p.tail.tail.tail.tail.tail.tail.tail.tail.tail.tail.tail.tail.tail.tail.tail.tail.headD .nil)⟩,⟨Zd (p.tail.tail.tail.tail.tail.tail.tail.tail.tail.tail.tail.tail.tail.tail.tail.tail.tail.headD .nil),Zd (p.tail.tail.tail.tail.tail.tail.tail.tail.tail.tail.tail.tail.tail.tail.tail.tail.tail.tail.headD .nil),Zl (p.tail.tail.tail.tail.tail.tail.tail.tail.tail.tail.tail.tail.tail.tail.tail.tail.tail.tail.tail.headD .nil)⟩⟩⟩⟩
structure G3 where
 a:Dec
 b:Dec
 c:Dec
def G3.enc(x:G3):List PV:=[.v (.int .i64 x.a.c),.v (.int .i64 x.a.scale),.v (.int .i64 x.b.c),.v (.int .i64 x.b.scale),.v (.int .i64 x.c.c),.v (.int .i64 x.c.scale)]
def G3.dec(p:List PV):G3:=⟨⟨Zd (p.headD .nil),Zd (p.tail.headD .nil)⟩,⟨Zd (p.tail.tail.headD .nil),Zd (p.tail.tail.tail.headD .nil)⟩,⟨Zd (p.tail.tail.tail.tail.headD .nil),Zd (p.tail.tail.tail.tail.tail.headD .nil)⟩⟩
structure Glass where
 name:List UInt8
 b:G3
 c:G3
def Glass.enc(x:Glass):List PV:=[.str x.name,.v (.int .i64 x.b.a.c),.v (.int .i64 x.b.a.scale),.v (.int .i64 x.b.b.c),.v (.int .i64 x.b.b.scale),.v (.int .i64 x.b.c.c),.v (.int .i64 x.b.c.scale),.v (.int .i64 x.c.a.c),.v (.int .i64 x.c.a.scale),.v (.int .i64 x.c.b.c),.v (.int .i64 x.c.b.scale),.v (.int .i64 x.c.c.c),.v (.int .i64 x.c.c.scale)]
def Glass.dec(p:List PV):Glass:=⟨Wh (p.headD .nil),⟨⟨Zd (p.tail.headD .nil),Zd (p.tail.tail.headD .nil)⟩,⟨Zd (p.tail.tail.tail.headD .nil),Zd (p.tail.tail.tail.tail.headD .nil)⟩,⟨Zd (p.tail.tail.tail.tail.tail.headD .nil),Zd (p.tail.tail.tail.tail.tail.tail.headD .nil)⟩⟩,⟨⟨Zd (p.tail.tail.tail.tail.tail.tail.tail.headD .nil),Zd (p.tail.tail.tail.tail.tail.tail.tail.tail.headD .nil)⟩,⟨Zd (p.tail.tail.tail.tail.tail.tail.tail.tail.tail.headD .nil),Zd (p.tail.tail.tail.tail.tail.tail.tail.tail.tail.tail.headD .nil)⟩,⟨Zd (p.tail.tail.tail.tail.tail.tail.tail.tail.tail.tail.tail.headD .nil),Zd (p.tail.tail.tail.tail.tail.tail.tail.tail.tail.tail.tail.tail.headD .nil)⟩⟩⟩
theorem Zp(l:List Glass):Zi Glass.dec (l.map Glass.enc)=l:=Jw _ _ (fun _=>rfl) l
structure Face where
 stop:Bool
 radius:Dec
 aperture:Dec
 thick:Dec
 conic:Dec
 a4:Dec
 a6:Dec
 glass:List UInt8
def Face.enc(x:Face):List PV:=[.v (.bool x.stop),.v (.int .i64 x.radius.c),.v (.int .i64 x.radius.scale),.v (.int .i64 x.aperture.c),.v (.int .i64 x.aperture.scale),.v (.int .i64 x.thick.c),.v (.int .i64 x.thick.scale),.v (.int .i64 x.conic.c),.v (.int .i64 x.conic.scale),.v (.int .i64 x.a4.c),.v (.int .i64 x.a4.scale),.v (.int .i64 x.a6.c),.v (.int .i64 x.a6.scale),.str x.glass]
def Face.dec(p:List PV):Face:=⟨Zl (p.headD .nil),⟨Zd (p.tail.headD .nil),Zd (p.tail.tail.headD .nil)⟩,⟨Zd (p.tail.tail.tail.headD .nil),Zd (p.tail.tail.tail.tail.headD .nil)⟩,⟨Zd (p.tail.tail.tail.tail.tail.headD .nil),Zd (p.tail.tail.tail.tail.tail.tail.headD .nil)⟩,⟨Zd (p.tail.tail.tail.tail.tail.tail.tail.headD .nil),Zd (p.tail.tail.tail.tail.tail.tail.tail.tail.headD .nil)⟩,⟨Zd (p.tail.tail.tail.tail.tail.tail.tail.tail.tail.headD .nil),Zd (p.tail.tail.tail.tail.tail.tail.tail.tail.tail.tail.headD .nil)⟩,⟨Zd (p.tail.tail.tail.tail.tail.tail.tail.tail.tail.tail.tail.headD .nil),Zd (p.tail.tail.tail.tail.tail.tail.tail.tail.tail.tail.tail.tail.headD .nil)⟩,Wh (p.tail.tail.tail.tail.tail.tail.tail.tail.tail.tail.tail.tail.tail.headD .nil)⟩
theorem ZI(l:List Face):Zi Face.dec (l.map Face.enc)=l:=Jw _ _ (fun _=>rfl) l
structure LensM where
 name:List UInt8
 back:Dec
 faces:List Face
def LensM.enc(x:LensM):List PV:=[.str x.name,.v (.int .i64 x.back.c),.v (.int .i64 x.back.scale),.lst (x.faces.map Face.enc)]
def LensM.dec(p:List PV):LensM:=⟨Wh (p.headD .nil),⟨Zd (p.tail.headD .nil),Zd (p.tail.tail.headD .nil)⟩,(Zi Face.dec (ZaU (p.tail.tail.tail.headD .nil)))⟩
-- LensM: with lists
structure RawFace where
 kind:Int
 r:Int
 a:Int
 t:Int
 g:Int
 k:Int
def RawFace.enc(x:RawFace):List PV:=[.v (.int .i64 x.kind),.v (.int .i64 x.r),.v (.int .i64 x.a),.v (.int .i64 x.t),.v (.int .i64 x.g),.v (.int .i64 x.k)]
def RawFace.dec(p:List PV):RawFace:=⟨Zd (p.headD .nil),Zd (p.tail.headD .nil),Zd (p.tail.tail.headD .nil),Zd (p.tail.tail.tail.headD .nil),Zd (p.tail.tail.tail.tail.headD .nil),Zd (p.tail.tail.tail.tail.tail.headD .nil)⟩
theorem Za3(l:List RawFace):Zi RawFace.dec (l.map RawFace.enc)=l:=Jw _ _ (fun _=>rfl) l
structure Pixel where
 lo:A3
 hi:A3
 lost:Int
def Pixel.enc(x:Pixel):List PV:=[.v (.int .i64 x.lo.a),.v (.int .i64 x.lo.b),.v (.int .i64 x.lo.c),.v (.int .i64 x.hi.a),.v (.int .i64 x.hi.b),.v (.int .i64 x.hi.c),.v (.int .i64 x.lost)]
def Pixel.dec(p:List PV):Pixel:=⟨⟨Zd (p.headD .nil),Zd (p.tail.headD .nil),Zd (p.tail.tail.headD .nil)⟩,⟨Zd (p.tail.tail.tail.headD .nil),Zd (p.tail.tail.tail.tail.headD .nil),Zd (p.tail.tail.tail.tail.tail.headD .nil)⟩,Zd (p.tail.tail.tail.tail.tail.tail.headD .nil)⟩
structure Card where
 efl:Iv
 bfl:Iv
 plane:Iv
 number:Iv
def Card.enc(x:Card):List PV:=[.v (.int .i64 x.efl.lo),.v (.int .i64 x.efl.hi),.v (.bool x.efl.no),.v (.int .i64 x.bfl.lo),.v (.int .i64 x.bfl.hi),.v (.bool x.bfl.no),.v (.int .i64 x.plane.lo),.v (.int .i64 x.plane.hi),.v (.bool x.plane.no),.v (.int .i64 x.number.lo),.v (.int .i64 x.number.hi),.v (.bool x.number.no)]
def Card.dec(p:List PV):Card:=⟨⟨Zd (p.headD .nil),Zd (p.tail.headD .nil),Zl (p.tail.tail.headD .nil)⟩,⟨Zd (p.tail.tail.tail.headD .nil),Zd (p.tail.tail.tail.tail.headD .nil),Zl (p.tail.tail.tail.tail.tail.headD .nil)⟩,⟨Zd (p.tail.tail.tail.tail.tail.tail.headD .nil),Zd (p.tail.tail.tail.tail.tail.tail.tail.headD .nil),Zl (p.tail.tail.tail.tail.tail.tail.tail.tail.headD .nil)⟩,⟨Zd (p.tail.tail.tail.tail.tail.tail.tail.tail.tail.headD .nil),Zd (p.tail.tail.tail.tail.tail.tail.tail.tail.tail.tail.headD .nil),Zl (p.tail.tail.tail.tail.tail.tail.tail.tail.tail.tail.tail.headD .nil)⟩⟩
structure FnM where
 poly:List Iv
 s:Surf
 r:Ray
def FnM.enc(x:FnM):List PV:=[.lst (x.poly.map Iv.enc),.v (.bool true),.v (.bool x.s.stop),.v (.bool x.s.bent),.v (.int .i64 x.s.curve.lo),.v (.int .i64 x.s.curve.hi),.v (.bool x.s.curve.no),.v (.int .i64 x.s.conic.lo),.v (.int .i64 x.s.conic.hi),.v (.bool x.s.conic.no),.v (.int .i64 x.s.a4.lo),.v (.int .i64 x.s.a4.hi),.v (.bool x.s.a4.no),.v (.int .i64 x.s.a6.lo),.v (.int .i64 x.s.a6.hi),.v (.bool x.s.a6.no),.v (.int .i64 x.s.pos.lo),.v (.int .i64 x.s.pos.hi),.v (.bool x.s.pos.no),.v (.int .i64 x.s.open2.lo),.v (.int .i64 x.s.open2.hi),.v (.bool x.s.open2.no),.v (.int .i64 x.s.ratio.lo),.v (.int .i64 x.s.ratio.hi),.v (.bool x.s.ratio.no),.v (.int .i64 x.r.o.x.lo),.v (.int .i64 x.r.o.x.hi),.v (.bool x.r.o.x.no),.v (.int .i64 x.r.o.y.lo),.v (.int .i64 x.r.o.y.hi),.v (.bool x.r.o.y.no),.v (.int .i64 x.r.o.z.lo),.v (.int .i64 x.r.o.z.hi),.v (.bool x.r.o.z.no),.v (.int .i64 x.r.d.x.lo),.v (.int .i64 x.r.d.x.hi),.v (.bool x.r.d.x.no),.v (.int .i64 x.r.d.y.lo),.v (.int .i64 x.r.d.y.hi),.v (.bool x.r.d.y.no),.v (.int .i64 x.r.d.z.lo),.v (.int .i64 x.r.d.z.hi),.v (.bool x.r.d.z.no)]
def FnM.dec(p:List PV):FnM:=⟨(Zi Iv.dec (ZaU (p.headD .nil))),⟨Zl (p.tail.tail.headD .nil),Zl (p.tail.tail.tail.headD .nil),⟨Zd (p.tail.tail.tail.tail.headD .nil),Zd (p.tail.tail.tail.tail.tail.headD .nil),Zl (p.tail.tail.tail.tail.tail.tail.headD .nil)⟩,⟨Zd (p.tail.tail.tail.tail.tail.tail.tail.headD .nil),Zd (p.tail.tail.tail.tail.tail.tail.tail.tail.headD .nil),Zl (p.tail.tail.tail.tail.tail.tail.tail.tail.tail.headD .nil)⟩,⟨Zd (p.tail.tail.tail.tail.tail.tail.tail.tail.tail.tail.headD .nil),Zd (p.tail.tail.tail.tail.tail.tail.tail.tail.tail.tail.tail.headD .nil),Zl (p.tail.tail.tail.tail.tail.tail.tail.tail.tail.tail.tail.tail.headD .nil)⟩,⟨Zd (p.tail.tail.tail.tail.tail.tail.tail.tail.tail.tail.tail.tail.tail.headD .nil),Zd (p.tail.tail.tail.tail.tail.tail.tail.tail.tail.tail.tail.tail.tail.tail.headD .nil),Zl (p.tail.tail.tail.tail.tail.tail.tail.tail.tail.tail.tail.tail.tail.tail.tail.headD .nil)⟩,⟨Zd (p.tail.tail.tail.tail.tail.tail.tail.tail.tail.tail.tail.tail.tail.tail.tail.tail.headD .nil),Zd (p.tail.tail.tail.tail.tail.tail.tail.tail.tail.tail.tail.tail.tail.tail.tail.tail.tail.headD .nil),Zl (p.tail.tail.tail.tail.tail.tail.tail.tail.tail.tail.tail.tail.tail.tail.tail.tail.tail.tail.headD .nil)⟩,⟨Zd (p.tail.tail.tail.tail.tail.tail.tail.tail.tail.tail.tail.tail.tail.tail.tail.tail.tail.tail.tail.headD .nil),Zd (p.tail.tail.tail.tail.tail.tail.tail.tail.tail.tail.tail.tail.tail.tail.tail.tail.tail.tail.tail.tail.headD .nil),Zl (p.tail.tail.tail.tail.tail.tail.tail.tail.tail.tail.tail.tail.tail.tail.tail.tail.tail.tail.tail.tail.tail.headD .nil)⟩,⟨Zd (p.tail.tail.tail.tail.tail.tail.tail.tail.tail.tail.tail.tail.tail.tail.tail.tail.tail.tail.tail.tail.tail.tail.headD .nil),Zd (p.tail.tail.tail.tail.tail.tail.tail.tail.tail.tail.tail.tail.tail.tail.tail.tail.tail.tail.tail.tail.tail.tail.tail.headD .nil),Zl (p.tail.tail.tail.tail.tail.tail.tail.tail.tail.tail.tail.tail.tail.tail.tail.tail.tail.tail.tail.tail.tail.tail.tail.tail.headD .nil)⟩⟩,⟨⟨⟨Zd (p.tail.tail.tail.tail.tail.tail.tail.tail.tail.tail.tail.tail.tail.tail.tail.tail.tail.tail.tail.tail.tail.tail.tail.tail.tail.headD .nil),Zd (p.tail.tail.tail.tail.tail.tail.tail.tail.tail.tail.tail.tail.tail.tail.tail.tail.tail.tail.tail.tail.tail.tail.tail.tail.tail.tail.headD .nil),Zl (p.tail.tail.tail.tail.tail.tail.tail.tail.tail.tail.tail.tail.tail.tail.tail.tail.tail.tail.tail.tail.tail.tail.tail.tail.tail.tail.tail.headD .nil)⟩,⟨Zd (p.tail.tail.tail.tail.tail.tail.tail.tail.tail.tail.tail.tail.tail.tail.tail.tail.tail.tail.tail.tail.tail.tail.tail.tail.tail.tail.tail.tail.headD .nil),Zd (p.tail.tail.tail.tail.tail.tail.tail.tail.tail.tail.tail.tail.tail.tail.tail.tail.tail.tail.tail.tail.tail.tail.tail.tail.tail.tail.tail.tail.tail.headD .nil),Zl (p.tail.tail.tail.tail.tail.tail.tail.tail.tail.tail.tail.tail.tail.tail.tail.tail.tail.tail.tail.tail.tail.tail.tail.tail.tail.tail.tail.tail.tail.tail.headD .nil)⟩,⟨Zd (p.tail.tail.tail.tail.tail.tail.tail.tail.tail.tail.tail.tail.tail.tail.tail.tail.tail.tail.tail.tail.tail.tail.tail.tail.tail.tail.tail.tail.tail.tail.tail.headD .nil),Zd (p.tail.tail.tail.tail.tail.tail.tail.tail.tail.tail.tail.tail.tail.tail.tail.tail.tail.tail.tail.tail.tail.tail.tail.tail.tail.tail.tail.tail.tail.tail.tail.tail.headD .nil),Zl (p.tail.tail.tail.tail.tail.tail.tail.tail.tail.tail.tail.tail.tail.tail.tail.tail.tail.tail.tail.tail.tail.tail.tail.tail.tail.tail.tail.tail.tail.tail.tail.tail.tail.headD .nil)⟩⟩,⟨⟨Zd (p.tail.tail.tail.tail.tail.tail.tail.tail.tail.tail.tail.tail.tail.tail.tail.tail.tail.tail.tail.tail.tail.tail.tail.tail.tail.tail.tail.tail.tail.tail.tail.tail.tail.tail.headD .nil),Zd (p.tail.tail.tail.tail.tail.tail.tail.tail.tail.tail.tail.tail.tail.tail.tail.tail.tail.tail.tail.tail.tail.tail.tail.tail.tail.tail.tail.tail.tail.tail.tail.tail.tail.tail.tail.headD .nil),Zl (p.tail.tail.tail.tail.tail.tail.tail.tail.tail.tail.tail.tail.tail.tail.tail.tail.tail.tail.tail.tail.tail.tail.tail.tail.tail.tail.tail.tail.tail.tail.tail.tail.tail.tail.tail.tail.headD .nil)⟩,⟨Zd (p.tail.tail.tail.tail.tail.tail.tail.tail.tail.tail.tail.tail.tail.tail.tail.tail.tail.tail.tail.tail.tail.tail.tail.tail.tail.tail.tail.tail.tail.tail.tail.tail.tail.tail.tail.tail.tail.headD .nil),Zd (p.tail.tail.tail.tail.tail.tail.tail.tail.tail.tail.tail.tail.tail.tail.tail.tail.tail.tail.tail.tail.tail.tail.tail.tail.tail.tail.tail.tail.tail.tail.tail.tail.tail.tail.tail.tail.tail.tail.headD .nil),Zl (p.tail.tail.tail.tail.tail.tail.tail.tail.tail.tail.tail.tail.tail.tail.tail.tail.tail.tail.tail.tail.tail.tail.tail.tail.tail.tail.tail.tail.tail.tail.tail.tail.tail.tail.tail.tail.tail.tail.tail.headD .nil)⟩,⟨Zd (p.tail.tail.tail.tail.tail.tail.tail.tail.tail.tail.tail.tail.tail.tail.tail.tail.tail.tail.tail.tail.tail.tail.tail.tail.tail.tail.tail.tail.tail.tail.tail.tail.tail.tail.tail.tail.tail.tail.tail.tail.headD .nil),Zd (p.tail.tail.tail.tail.tail.tail.tail.tail.tail.tail.tail.tail.tail.tail.tail.tail.tail.tail.tail.tail.tail.tail.tail.tail.tail.tail.tail.tail.tail.tail.tail.tail.tail.tail.tail.tail.tail.tail.tail.tail.tail.headD .nil),Zl (p.tail.tail.tail.tail.tail.tail.tail.tail.tail.tail.tail.tail.tail.tail.tail.tail.tail.tail.tail.tail.tail.tail.tail.tail.tail.tail.tail.tail.tail.tail.tail.tail.tail.tail.tail.tail.tail.tail.tail.tail.tail.tail.headD .nil)⟩⟩⟩⟩
-- FnM: with lists
structure Pair where
 x:Int
 y:Int
def Pair.enc(x:Pair):List PV:=[.v (.int .i64 x.x),.v (.int .i64 x.y)]
def Pair.dec(p:List PV):Pair:=⟨Zd (p.headD .nil),Zd (p.tail.headD .nil)⟩
structure S3 where
 a:SysM
 b:SysM
 c:SysM
def S3.enc(x:S3):List PV:=[.lst (x.a.surfs.map Surf.enc),.v (.int .i64 x.a.op.lo),.v (.int .i64 x.a.op.hi),.v (.bool x.a.op.no),.lst (x.b.surfs.map Surf.enc),.v (.int .i64 x.b.op.lo),.v (.int .i64 x.b.op.hi),.v (.bool x.b.op.no),.lst (x.c.surfs.map Surf.enc),.v (.int .i64 x.c.op.lo),.v (.int .i64 x.c.op.hi),.v (.bool x.c.op.no)]
def S3.dec(p:List PV):S3:=⟨⟨(Zi Surf.dec (ZaU (p.headD .nil))),⟨Zd (p.tail.headD .nil),Zd (p.tail.tail.headD .nil),Zl (p.tail.tail.tail.headD .nil)⟩⟩,⟨(Zi Surf.dec (ZaU (p.tail.tail.tail.tail.headD .nil))),⟨Zd (p.tail.tail.tail.tail.tail.headD .nil),Zd (p.tail.tail.tail.tail.tail.tail.headD .nil),Zl (p.tail.tail.tail.tail.tail.tail.tail.headD .nil)⟩⟩,⟨(Zi Surf.dec (ZaU (p.tail.tail.tail.tail.tail.tail.tail.tail.headD .nil))),⟨Zd (p.tail.tail.tail.tail.tail.tail.tail.tail.tail.headD .nil),Zd (p.tail.tail.tail.tail.tail.tail.tail.tail.tail.tail.headD .nil),Zl (p.tail.tail.tail.tail.tail.tail.tail.tail.tail.tail.tail.headD .nil)⟩⟩⟩
-- S3: with lists
structure Cx where
 re:Nat
 im:Nat
def Cx.enc(z:Cx):List PV:=[.v (.complex .f64 z.re z.im)]
def Cx.dec(l:List PV):Cx:=⟨ZsD (l.headD .nil),ZsE (l.headD .nil)⟩
def Ray.dec(p:List PV):Ray:=⟨⟨⟨Zd (p.headD .nil),Zd (p.tail.headD .nil),Zl (p.tail.tail.headD .nil)⟩,⟨Zd (p.tail.tail.tail.headD .nil),Zd (p.tail.tail.tail.tail.headD .nil),Zl (p.tail.tail.tail.tail.tail.headD .nil)⟩,⟨Zd (p.tail.tail.tail.tail.tail.tail.headD .nil),Zd (p.tail.tail.tail.tail.tail.tail.tail.headD .nil),Zl (p.tail.tail.tail.tail.tail.tail.tail.tail.headD .nil)⟩⟩,⟨⟨Zd ((p.drop 9).headD .nil),Zd ((p.drop 10).headD .nil),Zl ((p.drop 11).headD .nil)⟩,⟨Zd ((p.drop 12).headD .nil),Zd ((p.drop 13).headD .nil),Zl ((p.drop 14).headD .nil)⟩,⟨Zd ((p.drop 15).headD .nil),Zd ((p.drop 16).headD .nil),Zl ((p.drop 17).headD .nil)⟩⟩⟩
def ZyM(a:Iv):Int:=bif right a then floor (a.lo+a.hi) 2 else 0
def Zvr(a b:Iv):Iv:=bif both a b then of (max a.lo b.lo) (min a.hi b.hi) else none'
def Zvs(a b:Iv):Iv:=bif both a b then of (min a.lo b.lo) (max a.hi b.hi) else none'
def noV:V:=⟨none',none',none'⟩
def Z0K(f:Iv→Iv×Iv)(t:Iv):Iv:=sub (point (ZyM t)) (ZE (f (point (ZyM t))).1 (f t).2)
def Yr(x y:Int):Cx:=⟨FloatKind.f64.nearest x,FloatKind.f64.nearest y⟩
def Zaj:Iv:=⟨0,0,false⟩
theorem ZeG(a b:Iv):right (Zvr a b)= !(Zvr a b).no:=Ji (ZbD _ _) Wu
theorem ZeH(a b:Iv):right (Zvs a b)= !(Zvs a b).no:=Ji (ZbD _ _) Wu
theorem Zdn(a:Iv)(k:Int):right (times a k)= !(times a k).no:=Ji (ZbD _ _) Wu
theorem ZgB(a b:V):right (dot a b)= !(dot a b).no:=ZaV _ _
theorem ZeI(f:Iv→Iv×Iv)(t:Iv):right (Z0K f t)= !(Z0K f t).no:=ZeD _ _
open Go
def Yw(c:Int):Bool:=(decide (97≤c)&&decide (c≤122))||(decide (65≤c)&&decide (c≤90))
def Xa(c:Int):Bool:=decide (48≤c)&&decide (c≤57)
def Z1(c:Int):Bool:=Yw c||(Xa c||(c==45||c==95))
def Zfy(b:UInt8):Bool:=Z1 (b.toNat:Int)
def Yq(s:List UInt8):Bool:=decide (1≤s.length)&&(decide (s.length≤20)&&(Yw ((s.getD 0 0).toNat:Int)&&s.all Zfy))
def JZ:Nat→Nat→List UInt8
 | 0,_=>[]
 | f+1,n=>bif decide (n < 10) then [UInt8.ofNat (48+n)] else JZ f (n / 10)++[UInt8.ofNat (48+n % 10)]
def digits(n:Int):List UInt8:=bif decide (n < 0) then 45::JZ 19 (-n).toNat else JZ 19 n.toNat
theorem ZiB:∀(f n:Nat),(JZ f n).length≤f
 | 0,n=>Q2_ _
 | f+1,n=>by
   unfold JZ
   cases decide (n < 10)<;>simp only[Qb_,Qd_,Qx_,Qs_,Q1_]
   ·have:=ZiB f (n / 10);omega
   ·omega
theorem Zx3:∀(f n:Nat),1≤(JZ (f+1) n).length
 | f,n=>by
   unfold JZ
   cases decide (n < 10)<;>simp only[Qb_,Qd_,Qx_,Qs_,Q1_]<;>omega
theorem Y0(n:Int):1≤(digits n).length∧(digits n).length≤20:=by
 unfold digits
 cases decide (n < 0)<;>simp only[Qb_,Qd_,Qs_]
 ·exact ⟨Zx3 18 _,Nat.le_succ_of_le (ZiB _ _)⟩
 ·exact ⟨by omega,by have:=ZiB 19 (-n).toNat;omega⟩
def Y5(d:Dec):Int:=max d.c (-d.c)
def headD(d:Dec):Int:=(Y5 d).tdiv (Zz d.scale)
def W4(d:Dec):Int:=(Y5 d).tmod (Zz d.scale)+Zz d.scale
def ZmZ(d:Dec)(s:List UInt8):List UInt8:=bif decide (d.c < 0) then 45::s else s
def ZjV(d:Dec)(s:List UInt8):List UInt8:=bif decide (d.scale > 0) then s++[46]++(digits (W4 d)).drop 1 else s
def Wa(d:Dec):List UInt8:=bif Z6 d then (bif decide (headD d > 99999) then [] else ZjV d (ZmZ d (digits (headD d)))) else []
def printable(d:Dec):Bool:=Z6 d&& !decide (headD d > 99999)
theorem ZgC(d:Dec):(!(Wa d==[]))=printable d:=by
 unfold printable Wa ZjV ZmZ
 cases Z6 d<;>simp only[Qb_,Qd_]
 ·rfl
 ·have h1:=Y0 (headD d)
  cases decide (headD d > 99999)<;>simp only[Qb_,Qd_]
  ·show (!_)=true
   rw[Qi_,KA_]
   intro e
   have:=Kk_ List.length e
   revert this
   cases decide (d.c < 0)<;>cases decide (d.scale > 0)<;>simp only[Qb_,Qd_,Qx_,Qs_,Q1_]<;>omega
  ·rfl
theorem ZrC{i:Int}(h:i≤6):Zz i≤1000000:=ZjT (j:=6) h
theorem ZdW{d:Dec}(h:Z6 d=true):List.foldl imax d.c [IntKind.i64.wrap (0 - d.c)]=Y5 d∧IntKind.i64.wrap (headD d)=headD d∧IntKind.i64.wrap (W4 d)=W4 d∧(0≤headD d∧headD d≤100000000000)∧(1≤W4 d∧W4 d≤2000000)∧(1≤Zz d.scale∧Zz d.scale≤1000000)∧(0≤d.scale∧d.scale≤6):=by
 obtain ⟨h1,h2⟩:=XS h
 have p1:=Jx d.scale
 have p2:=ZrC (i:=d.scale) h2.2
 have ha:0≤Y5 d∧Y5 d≤100000000000:=by unfold Y5;omega
 have hq:0≤headD d∧headD d≤100000000000:=by
  unfold headD
  rw[Int.tdiv_eq_ediv_of_nonneg ha.1]
  refine ⟨Int.ediv_nonneg ha.1 (by omega),Int.le_trans (Int.ediv_le_self _ ha.1) ha.2⟩
 have hr:1≤W4 d∧W4 d≤2000000:=by
  unfold W4
  rw[Int.tmod_eq_emod_of_nonneg ha.1]
  have:=Int.emod_nonneg (Y5 d) (show Zz d.scale≠0 by omega)
  have:=Int.emod_lt_of_pos (Y5 d) (show 0 < Zz d.scale by omega)
  omega
 refine ⟨?_,Zf (by constructor<;>omega),Zf (by constructor<;>omega),hq,hr,⟨p1,p2⟩,h2⟩
 rw[YZ (by constructor<;>omega)]
 simp only[List.foldl,Zr]
 rfl
theorem ZgD{d:Dec}(h:printable d=true):(-100000000000≤d.c∧d.c≤100000000000)∧(0≤d.scale∧d.scale≤6):=by
 unfold printable at h
 rw[Qh_] at h
 exact XS h.1
theorem Jz{d:Dec}(h:Z6 d=true):IntKind.i64.wrap (6 - d.scale)=6 - d.scale∧(0≤6 - d.scale∧6 - d.scale≤18)∧IntKind.i64.wrap (d.c *Zz (6 - d.scale))=d.c *Zz (6 - d.scale):=by
 obtain ⟨h1,h2⟩:=XS h
 have p1:=Jx (6 - d.scale)
 have p2:=ZrC (i:=6 - d.scale) (by omega)
 refine ⟨Zf (by constructor<;>omega),by omega,Zf ?_⟩
 have a1:d.c *Zz (6 - d.scale)≤100000000000 *Zz (6 - d.scale):=Kr_ h1.2 (by omega)
 have a2: -100000000000 *Zz (6 - d.scale)≤d.c *Zz (6 - d.scale):=Kr_ h1.1 (by omega)
 constructor<;>omega
def ZcA(d:Dec):Dec:=⟨max d.c (w64 (0 - d.c)),d.scale⟩
def ZT(a b:Dec):Bool:=Z6 a&&(Z6 b&&decide (a.c *Zz (6 - a.scale) < b.c *Zz (6 - b.scale)))
def zeroDec:Dec:=⟨0,0⟩
def Zvt:G3:=⟨zeroDec,zeroDec,zeroDec⟩
def Zcd:Glass:=⟨[],Zvt,Zvt⟩
def Z8:List Glass→List UInt8→Glass×Bool
 | [],_=>(Zcd,false)
 | g::l,n=>bif g.name==n then (g,true) else Z8 l n
def Jf:List UInt8:=[97,105,114]
def Zce(b c:Dec)(l:Iv):Iv:=ZE (Wi (Ze b) l) (sub l (Ze c))
def W5(g:Glass)(w:Iv):Iv:=bif g.name==Jf then point 65536 else W3 (add (add (add (point 65536) (Zce g.b.a g.c.a (sqr w))) (Zce g.b.b g.c.b (sqr w))) (Zce g.b.c g.c.c (sqr w)))
theorem ZgE{f n:Nat}(h:10≤n):JZ (f+1) n=JZ f (n / 10)++[UInt8.ofNat (48+n % 10)]:=by
 conv=>lhs;unfold JZ
 rw[QQ_ (by omega)];rfl
theorem Zdo{f n:Nat}(h:n < 10):JZ (f+1) n=[UInt8.ofNat (48+n)]:=by
 unfold JZ
 rw[QH_ h];rfl
theorem ZdX:∀(f n:Nat),n < 10 ^ (f+1)→JZ (f+2) n=JZ (f+1) n
 | 0,n,h=>by rw[Zdo (by simpa using h),Zdo (by simpa using h)]
 | f+1,n,h=>by
   by_cases hn:n < 10
   ·rw[Zdo hn,Zdo hn]
   ·have hn':n / 10 < 10 ^ (f+1):=by
     refine Nat.div_lt_of_lt_mul ?_
     rw[Nat.mul_comm,←Nat.pow_succ];exact h
    have e1:=ZgE (f:=f+2) (show 10≤n by omega)
    have e2:=ZgE (f:=f+1) (show 10≤n by omega)
    rw[ZdX f (n / 10) hn',←e2] at e1
    exact e1
theorem Zak{n:Int}(h:10≤n)(h2:n≤1000000000000000000):digits n=digits (n / 10)++[UInt8.ofNat (48+(n % 10).toNat)]:=by
 unfold digits
 rw[QQ_ (by omega),QQ_ (by omega)]
 simp only[Qd_]
 rw[ZgE (f:=18) (by omega),show (n / 10).toNat=n.toNat / 10 by omega,show (n % 10).toNat=n.toNat % 10 by omega]
 rw[←ZdX 17 (n.toNat / 10) (by omega)]
theorem ZcB{n:Int}(h0:0≤n)(h:n < 10):digits n=[UInt8.ofNat (48+n.toNat)]:=by
 unfold digits
 rw[QQ_ (by omega),Qd_,Zdo (by omega)]
theorem ZsQ{n:Int}(h:n < 0):digits n=45::digits (-n):=by
 unfold digits
 rw[QH_ h,QQ_ (by omega)];rfl
theorem ZrD{m:Int}(h0:0≤m)(h:m < 10):(bif decide ((0:Int)≤IntKind.u8.wrap (IntKind.i64.wrap (48+m)))&&decide (IntKind.u8.wrap (IntKind.i64.wrap (48+m)) < 256) then some [UInt8.ofNat (IntKind.u8.wrap (IntKind.i64.wrap (48+m))).toNat] else none)=some [UInt8.ofNat (48+m.toNat)]:=by
 have h1:IntKind.i64.wrap (48+m)=48+m:=Zf (by constructor<;>omega)
 have h2:IntKind.u8.wrap (48+m)=48+m:=by
  have:m=0∨m=1∨m=2∨m=3∨m=4∨m=5∨m=6∨m=7∨m=8∨m=9:=by omega
  rcases this with rfl | rfl | rfl | rfl | rfl | rfl | rfl | rfl | rfl | rfl<;>decide
 rw[h1,h2,QH_ (by omega),QH_ (by omega)]
 show some [UInt8.ofNat (48+m).toNat]=_
 rw[show (48+m).toNat=48+m.toNat by omega]
theorem Zdp:∀{l:List Glass} {n:List UInt8},(Z8 l n).2=false→Z8 l n=(Zcd,false)
 | [],_,_=>rfl
 | g::l,n,h=>by
   revert h
   unfold Z8
   cases g.name==n
   ·exact Zdp
   ·intro h;exact absurd h (by simp)
def YE(f:Face)(g:List Glass):Bool:=
 printable f.aperture&&(decide (f.aperture.c > 0)&&(printable f.thick&&(!decide (f.thick.c < 0)&&
  (bif f.stop then ZV f.radius&&(ZV f.conic&&(ZV f.a4&&(ZV f.a6&&f.glass==[])))
   else printable f.radius&&(printable f.conic&&(printable f.a4&&(printable f.a6&&(Yq f.glass&&(((Z8 g f.glass).2||f.glass==Jf)&&(f.radius.c==0|| !ZT (ZcA f.radius) f.aperture))))))))))
def YL(l:List Face):Bool:=l.any fun f=> !f.stop
def Xj(l:LensM)(g:List Glass):Bool:=Yq l.name&&(printable l.back&&(decide (l.back.c > 0)&&(decide (l.faces.length≤12)&&(l.faces.all (YE · g)&&YL l.faces))))
def YF(x:Surf):Bool:=right x.curve&&(right x.conic&&(right x.a4&&(right x.a6&&(right x.pos&&(right x.open2&&right x.ratio)))))
def WQ(s:SysM):Bool:=s.surfs.all YF&&right s.op
def ZcT(f:Face):Iv:=bif f.radius.c !=0 then ZE (point 65536) (Ze f.radius) else point 0
def ZiC(f:Face)(g:List Glass)(w:Iv):Iv:=bif f.glass==Jf then point 65536 else W5 (Z8 g f.glass).1 w
def Zal(f:Face)(pos ratio:Iv):Surf:=⟨f.stop,!ZV f.a4|| !ZV f.a6,ZcT f,add (point 65536) (Ze f.conic),Ze f.a4,Ze f.a6,pos,sqr (Ze f.aperture),ratio⟩
def Xz(f:Face)(g:List Glass)(w ix:Iv):Iv:=bif f.stop then point 65536 else ZE ix (ZiC f g w)
def ZaW(f:Face)(g:List Glass)(w ix:Iv):Iv:=bif f.stop then ix else ZiC f g w
def YX(g:List Glass)(w:Iv):List Face→Iv→Iv→List Surf
 | [],_,_=>[]
 | f::l,pos,ix=>Zal f pos (Xz f g w ix)::YX g w l (add pos (Ze f.thick)) (ZaW f g w ix)
def Zx4:Face:=⟨false,zeroDec,zeroDec,zeroDec,zeroDec,zeroDec,zeroDec,[]⟩
def Zna(l:LensM):Face:=l.faces.headD Zx4
def ZeJ:SysM:=⟨[],Zaj⟩
def Wb(l:LensM)(g:List Glass)(w:Iv):SysM:=⟨YX g w l.faces (Ze l.back) (point 65536),Ze (Zna l).aperture⟩
def XJ(l:LensM)(g:List Glass)(w:Iv):SysM×Int:=bif Xj l g then (bif WQ (Wb l g w) then (Wb l g w,0) else (ZeJ,6)) else (ZeJ,1)
def ZrE(f:RawFace):Dec:=bif decide (pick f.r 7 > 0) then (bif pick (w64 (f.r.tdiv 7)) 2==0 then hdec 1 (w64 (-150 - pick f.r 900)) 1 else hdec 1 (w64 (150+pick f.r 900)) 1) else zeroDec
def Zmb(f:RawFace):Dec:=bif pick f.k 6==3 then hdec 1 (w64 (pick (w64 (f.k.tdiv 6)) 30 - 15)) 1 else zeroDec
def Zvu(f:RawFace):Dec:=bif pick f.k 6==3 then zeroDec else bif pick f.k 6==4 then hdec 2 (w64 (pick (w64 (f.k.tdiv 6)) 400 - 200)) 2 else bif pick f.k 6==5 then hdec 2 (w64 (pick (w64 (f.k.tdiv 6)) 400 - 200)) 2 else zeroDec
def Zvv(f:RawFace):Dec:=bif pick f.k 6==3 then zeroDec else bif pick f.k 6==4 then zeroDec else bif pick f.k 6==5 then hdec 1 (w64 (pick (w64 (f.k.tdiv 12)) 400 - 200)) 1 else zeroDec
def Z1Y(f:RawFace)(g:List Glass):Int:=pick f.g (w64 (g.length+2))
def ZzT(g:List Glass)(k:Int):Glass:=g.getD k.toNat Zcd
def ZdY(f:RawFace)(g:List Glass):List UInt8:=bif decide (pick f.g (IntKind.i64.wrap ((g.length:Int)+2)) < (g.length:Int)) then (g.getD (pick f.g (IntKind.i64.wrap ((g.length:Int)+2))).toNat Zcd).name else Jf
def ZoD(f:RawFace):Dec:=hdec 1 (w64 (30+pick f.a 70)) 1
def ZoE(f:RawFace):Dec:=hdec 1 (pick f.t 80) 1
def J0(f:RawFace)(i:Int)(g:List Glass):Face:=bif pick f.kind 6==5&&decide (i > 0) then ⟨true,zeroDec,ZoD f,ZoE f,zeroDec,zeroDec,zeroDec,[]⟩ else ⟨false,ZrE f,ZoD f,ZoE f,Zmb f,Zvu f,Zvv f,ZdY f g⟩
def X4(g:List Glass)(most:Int):List RawFace→Int→List Face→List Face
 | [],_,out=>out
 | f::l,i,out=>bif decide ((out.length:Int) < most) then X4 g most l (i+1) (out++[J0 f i g]) else out
def Zvw:List UInt8:=[99,114,111,119,110]
def Z0L:List UInt8:=[102,108,105,110,116]
def Zvx:Face:=⟨false,⟨40,0⟩,⟨8,0⟩,⟨3,0⟩,zeroDec,zeroDec,zeroDec,Zvw⟩
def ZdZ(l:List Face):List Face:=bif l.length==0|| !YL l then l++[Zvx] else l
def Wc(back:Int)(l:List RawFace)(g:List Glass)(most:Int):LensM:=
 ⟨120::digits (pick back 100),hdec 1 (w64 (200+pick back 600)) 1,ZdZ (X4 g most l 0 [])⟩
def ZjW(l:List I)(i:Int):Glass:=
 ⟨103::digits i,⟨hdec 5 (pick (l.getD i.toNat ⟨0⟩).n 200000) 5,hdec 5 (pick (w64 ((l.getD i.toNat ⟨0⟩).n.tdiv 7)) 50000) 5,zeroDec⟩,
   ⟨hdec 5 (pick (w64 ((l.getD i.toNat ⟨0⟩).n.tdiv 11)) 3000) 5,hdec 5 (pick (w64 ((l.getD i.toNat ⟨0⟩).n.tdiv 13)) 9000) 5,hdec 3 (w64 (pick (w64 ((l.getD i.toNat ⟨0⟩).n.tdiv 17)) 200000 - 1000)) 3⟩⟩
def Z0M:Glass:=⟨Zvw,⟨⟨103961,5⟩,⟨23179,5⟩,⟨101047,5⟩⟩,⟨⟨6,3⟩,⟨2002,5⟩,⟨1035607,4⟩⟩⟩
def Z0N:Glass:=⟨Z0L,⟨⟨17376,4⟩,⟨31375,5⟩,⟨189878,5⟩⟩,⟨⟨1319,5⟩,⟨6231,5⟩,⟨1552363,4⟩⟩⟩
def Zb0:Nat→List I→Int→List Glass
 | 0,_,_=>[]
 | k+1,l,i=>bif decide (i < l.length)&&decide (i < 3) then ZjW l i::Zb0 k l (i+1) else []
def YM(l:List I):List Glass:=[Z0M,Z0N]++Zb0 3 l 0
theorem WH{l:LensM}{g:List Glass}(h:Xj l g=true):(∃f t,l.faces=f::t)∧l.faces.length≤12:=by
 unfold Xj at h
 simp only[Qh_,Qc_] at h
 refine ⟨?_,h.2.2.2.1⟩
 cases hf:l.faces with
 | nil=>rw[hf] at h;exact absurd h.2.2.2.2.2 (by decide)
 | cons f t=>exact ⟨f,t,rfl⟩
theorem ZbE(g:List Glass)(w:Iv):∀(l:List Face) (p q:Iv),(YX g w l p q).length=l.length
 | [],_,_=>rfl
 | f::l,p,q=>by simp only[YX,Qs_,ZbE g w l]
theorem Zx5(g:List Glass)(k:Nat):Wh (((g.map Glass.enc).getD k []).headD .nil)=(g.getD k Zcd).name:=by
 rw[Q7_,Q6_,Q7_]
 cases g[k]?<;>rfl
theorem ZoF:∀(k:Nat) (l:List I) (i:Int),(Zb0 k l i).length≤k
 | 0,_,_=>Q2_ _
 | k+1,l,i=>by
   unfold Zb0
   cases decide (i < l.length)&&decide (i < 3)<;>simp only[Qb_,Qd_,Qs_,Q1_]
   ·omega
   ·have:=ZoF k l (i+1);omega
theorem Zea(l:List I):2≤(YM l).length∧(YM l).length≤5:=by
 have:=ZoF 3 l 0
 simp only[YM,Qx_,Qs_,Q1_];omega
theorem ZcC(g:List Glass)(most:Int):∀(l:List RawFace) (i:Int) (out:List Face),((X4 g most l i out).length:Int)≤max (out.length:Int) most
 | [],_,out=>by simp only[X4];omega
 | f::l,i,out=>by
   unfold X4
   by_cases h:(out.length:Int) < most
   ·rw[QH_ h,Qb_]
    have:=ZcC g most l (i+1) (out++[J0 f i g])
    simp only[Qx_,Qs_,Q1_] at this
    omega
   ·rw[QQ_ h,Qd_];omega
theorem ZoG(back:Int)(l:List RawFace)(g:List Glass)(most:Int)(h:0≤most):((Wc back l g most).faces.length:Int)≤most+1:=by
 have:=ZcC g most l 0 []
 simp only[Q1_] at this
 unfold Wc ZdZ
 simp only
 cases (X4 g most l 0 []).length==0|| !YL (X4 g most l 0 [])<;>simp only[Qb_,Qd_,Qx_,Qs_,Q1_]<;>omega
theorem ZgF(k:Nat)(l:List I)(i:Int):Zb0 (k+1) l i=bif decide (i < l.length)&&decide (i < 3) then ZjW l i::Zb0 k l (i+1) else []:=rfl
theorem Zet(g:List Glass)(most:Int)(f:RawFace)(l:List RawFace)(i:Int)(out:List Face):X4 g most (f::l) i out=bif decide ((out.length:Int) < most) then X4 g most l (i+1) (out++[J0 f i g]) else out:=rfl
structure Bld where
 txt:List UInt8
def unbytes(l:List (List PV)):List UInt8:=l.map fun x=>UInt8.ofNat (Zd (x.headD .nil)).toNat
def Bld.enc(x:Bld):List PV:=[.bld true,.lst (WG x.txt)]
def Bld.dec(p:List PV):Bld:=⟨unbytes (ZaU (p.tail.headD .nil))⟩
theorem ZgG:∀(f n:Nat),digs f n=JZ f n
 | 0,_=>rfl
 | f+1,n=>by
   unfold digs JZ
   rw[ZgG f (n / 10)]
   cases hb:Nat.blt n 10 with
   | true=>
     have h:n < 10:=Qm_ hb
     rw[QH_ h]
   | false=>
     have h:¬n < 10:=fun h=>by
      have h2:Nat.blt n 10=true:=QF_ h
      rw[h2] at hb;exact absurd hb (by simp)
     rw[QQ_ h]
theorem Zq5{n:Int}(h: -1000000000000000000≤n∧n≤1000000000000000000):Zlk [.v (.int .i64 n)]=some (.str (digits n)):=by
 cases n with
 | ofNat m=>
   have hm:(m:Int)≤1000000000000000000:=h.2
   have hb:Nat.blt m 9223372036854775808=true:=QF_ (by omega)
   show (bif Nat.blt m 9223372036854775808 then some (PV.str (digs 20 m)) else none)=_
   rw[hb,Qb_,ZgG,ZdX 18 m (by omega)]
   unfold digits
   rw[QQ_ (show ¬(Int.ofNat m < 0) from fun h=>absurd h (by simp))];rfl
 | negSucc m=>
   have hm: -1000000000000000000≤Int.negSucc m:=h.1
   have hb:Nat.blt m 9223372036854775808=true:=QF_ (by omega)
   show (bif Nat.blt m 9223372036854775808 then some (PV.str (45::digs 20 (m+1))) else none)=_
   rw[hb,Qb_,ZgG,ZdX 18 (m+1) (by omega)]
   unfold digits
   rw[QH_ (by omega:Int.negSucc m < 0)];rfl
theorem ZsR(l:LensM)(g:List Glass)(w:Iv):(XJ l g w).1.surfs.length≤12:=by
 unfold XJ
 cases h:Xj l g<;>simp only[Qb_,Qd_]
 ·exact Kz_ _
 ·cases WQ (Wb l g w)<;>simp only[Qb_,Qd_]
  ·exact Kz_ _
  ·unfold Wb
   simp only[ZbE]
   exact (WH h).2
theorem ZzU{α:Type}[BEq α][ReflBEq α]{a:α}(h:(a==a)=false):False:=by rw[beq_self_eq_true] at h;exact absurd h (by decide)
structure Tok where
 kind:Int
 text:List UInt8
 pos:Cx
def Tok.enc(x:Tok):List PV:=[.v (.int .i64 x.kind),.str x.text,.v (.complex .f64 x.pos.re x.pos.im)]
def Tok.dec(p:List PV):Tok:=⟨Zd (p.headD .nil),Wh (p.tail.headD .nil),(⟨ZsD (p.tail.tail.headD .nil),ZsE (p.tail.tail.headD .nil)⟩:Cx)⟩
theorem Z2H(l:List Tok):Zi Tok.dec (l.map Tok.enc)=l:=Jw _ _ (fun _=>rfl) l
structure Rd where
 t:List (List PV)
 g:List (List PV)
 pos:Cx
 e:Int
def Rd.enc(x:Rd):List PV:=[.lst x.t,.lst x.g,.v (.complex .f64 x.pos.re x.pos.im),.v (.int .i64 x.e)]
def Rd.dec(p:List PV):Rd:=⟨ZaU (p.headD .nil),ZaU (p.tail.headD .nil),(⟨ZsD (p.tail.tail.headD .nil),ZsE (p.tail.tail.headD .nil)⟩:Cx),Zd (p.tail.tail.tail.headD .nil)⟩
structure GL where
 g:List Glass
def GL.enc(x:GL):List PV:=[.lst (x.g.map Glass.enc)]
def GL.dec(p:List PV):GL:=⟨(Zi Glass.dec (ZaU (p.headD .nil)))⟩
-- GL: with lists
def XD:Cx:=⟨0,0⟩
def Zvy:List UInt8:=[45]
def figB:List UInt8:=[48,49,50,51,52,53,54,55,56,57]
def ZjX(s c:List UInt8):List UInt8:=Lib.trimS s c
def ZaX(s c:List UInt8):List UInt8:=Lib.trimRightS s c
def Zlw(s:List UInt8)(n:Int):List UInt8:=Lib.repeatL s n.toNat
def ixM(c:Int)(s:List UInt8):Int:=ixB c.toNat.toUInt8 s 0
def Wp(b:UInt8):Bool:=Xa (b.toNat:Int)
def Zt(c:Int):Bool:=Xa c||c==46
def X7(c:Int):Bool:= !(c==10)
def J1(s p:List UInt8):Bool:=decide ((s.length:Int)≥p.length)&&s.take p.length==p
def ZN(s p:List UInt8):List UInt8×Bool:=bif J1 s p then (s.drop p.length,true) else (s,false)
def ZK(s:List UInt8):List UInt8×List UInt8×Bool:=bif decide (ixM 46 s≥0) then (s.take (ixM 46 s).toNat,s.drop (ixM 46 s+1).toNat,true) else (s,[],false)
def figs(s:List UInt8)(n:Int):Bool:= !(s==[])&&(decide ((s.length:Int)≤n)&&(ZjX s figB==[]))
def ZbF(s:List UInt8):Int:=(Lib.atoi s).getD 0
def ZoH(s:List UInt8):Prop:=s.length≤18∧Lib.atoi s=some (ZbF s)
def ZgH(s:List UInt8):List UInt8:=ZaX s [48]
def Zeb(s:List UInt8):List UInt8:=(ZN s Zvy).1
def ZaY(s:List UInt8):List UInt8:=(ZK (Zeb s)).1
def JM(s:List UInt8):List UInt8:=ZgH (ZK (Zeb s)).2.1
def Zeu(s:List UInt8):Int:=ZbF (ZaY s++JM s)
def Zec(s:List UInt8):Bool:=figs (ZaY s) 5&&(!(ZK (Zeb s)).2.2||figs (ZK (Zeb s)).2.1 6)
def X6(s:List UInt8):Dec×Bool:=
 bif Zec s then (bif (ZN s Zvy).2 then (bif Zeu s==0 then (zeroDec,false) else (⟨-Zeu s,(JM s).length⟩,true)) else (⟨Zeu s,(JM s).length⟩,true)) else (zeroDec,false)
def Zm(p:Int→Bool)(s:List UInt8)(k:Int):Int:=k+((s.drop k.toNat).takeWhile fun b=>p (b.toNat:Int)).length
def X3(k line beg:Int):Cx:=Yr line (k - beg+1)
def Xb(s:List UInt8)(k:Int):Int:=((s.getD k.toNat 0).toNat:Int)
def Jg(s:List UInt8)(a b:Int):List UInt8:=(s.drop a.toNat).take (b.toNat - a.toNat)
def ZgI(sm:Bool)(h:Cx)(out:List Tok):List Tok:=bif sm then out++[⟨3,[],h⟩] else out
def Wj(s:List UInt8):Nat→Int→Int→Int→Bool→List Tok→List Tok×Cx×Int
 | 0,_,_,_,_,_=>([],XD,0)
 | f+1,k,line,beg,sm,out=>
   bif k==(s.length:Int) then (ZgI sm (X3 k line beg) out,XD,0)
   else bif Xb s k==10 then Wj s f (k+1) (line+1) (k+1) false (ZgI sm (X3 k line beg) out)
   else bif Xb s k==32||Xb s k==9 then Wj s f (k+1) line beg sm out
   else bif Xb s k==35 then Wj s f (Zm X7 s (k+1)) line beg sm out
   else bif Yw (Xb s k) then (bif decide (Zm Z1 s (k+1) - k > 20) then ([],X3 k line beg,3) else Wj s f (Zm Z1 s (k+1)) line beg true (out++[⟨1,Jg s k (Zm Z1 s (k+1)),X3 k line beg⟩]))
   else bif Xa (Xb s k)||Xb s k==45 then (bif (X6 (Jg s k (Zm Zt s (k+1)))).2 then Wj s f (Zm Zt s (k+1)) line beg true (out++[⟨2,Jg s k (Zm Zt s (k+1)),X3 k line beg⟩]) else ([],X3 k line beg,2))
   else ([],X3 k line beg,2)
def tokens(s:List UInt8):List Tok×Cx×Int:=bif decide ((s.length:Int) > 4000) then ([],XD,3) else Wj s (s.length+1) 0 1 0 false []
theorem ZcD(s:List UInt8)(f:Nat)(k line beg:Int)(sm:Bool)(out:List Tok):Wj s (f+1) k line beg sm out=
 bif k==(s.length:Int) then (ZgI sm (X3 k line beg) out,XD,0)
 else bif Xb s k==10 then Wj s f (k+1) (line+1) (k+1) false (ZgI sm (X3 k line beg) out)
 else bif Xb s k==32||Xb s k==9 then Wj s f (k+1) line beg sm out
 else bif Xb s k==35 then Wj s f (Zm X7 s (k+1)) line beg sm out
 else bif Yw (Xb s k) then (bif decide (Zm Z1 s (k+1) - k > 20) then ([],X3 k line beg,3) else Wj s f (Zm Z1 s (k+1)) line beg true (out++[⟨1,Jg s k (Zm Z1 s (k+1)),X3 k line beg⟩]))
 else bif Xa (Xb s k)||Xb s k==45 then (bif (X6 (Jg s k (Zm Zt s (k+1)))).2 then Wj s f (Zm Zt s (k+1)) line beg true (out++[⟨2,Jg s k (Zm Zt s (k+1)),X3 k line beg⟩]) else ([],X3 k line beg,2))
 else ([],X3 k line beg,2):=rfl
def Zcf(s:List UInt8):Bool:=(tokens s).2.2==0&&(((tokens s).1.length:Int)==2&&(((tokens s).1.headD ⟨0,[],XD⟩).kind==1&&((tokens s).1.headD ⟨0,[],XD⟩).text==s))
theorem ZfP{α:Type}{p:α→Bool}:∀{l:List α},l.all p=true→l.takeWhile p=l
 | [],_=>rfl
 | a::l,h=>by
   rw[List.all_cons,Qh_] at h
   rw[List.takeWhile_cons,h.1,if_pos rfl,ZfP h.2]
theorem Zb1(p:Int→Bool){s:List UInt8}{k:Int}(h0:0≤k)(h1:k≤s.length):k≤Zm p s k∧Zm p s k≤s.length:=by
 unfold Zm
 have:=(List.takeWhile_sublist (fun b:UInt8=>p (b.toNat:Int)) (l:=s.drop k.toNat)).length_le
 rw[K9_] at this
 omega
theorem Zfz{p:Int→Bool}{s:List UInt8}{k:Int}(h0:0≤k)(h1:k < s.length)(h:p (Xb s k)=true):Zm p s k=Zm p s (k+1):=by
 obtain ⟨x,t,e1,e2,e3⟩:=Yg (l:=s) h0 h1
 unfold Zm
 have eb:s.getD k.toNat 0=x:=by rw[Q7_,e3];rfl
 unfold Xb at h
 rw[eb] at h
 rw[e1,e2,List.takeWhile_cons,h,if_pos rfl,Qs_]
 omega
theorem Zf0{p:Int→Bool}{s:List UInt8}{k:Int}(h0:0≤k)(h1:k < s.length)(h:p (Xb s k)=false):Zm p s k=k:=by
 obtain ⟨x,t,e1,e2,e3⟩:=Yg (l:=s) h0 h1
 unfold Zm
 have eb:s.getD k.toNat 0=x:=by rw[Q7_,e3];rfl
 unfold Xb at h
 rw[eb] at h
 rw[e1,List.takeWhile_cons,h]
 simp
theorem ZgJ{p:Int→Bool}{s:List UInt8}{k:Int}(h1:(s.length:Int)≤k):Zm p s k=k:=by
 unfold Zm
 rw[Q0_ (by omega)]
 simp
theorem Zx6:∀(s:List UInt8),(ZjX s figB==[])=s.all Wp:=by
 have hd:∀b:UInt8,figB.contains b=Wp b:=fun b=>by
  have:=(by decide+kernel:∀n:Fin 256,figB.contains (UInt8.ofNat n.val)=Wp (UInt8.ofNat n.val)) ⟨b.toNat,b.toNat_lt⟩
  simpa using this
 have hw:∀(p:UInt8→Bool) (l:List UInt8),(l.dropWhile p==[])=l.all p:=fun p l=>by
  induction l with
  | nil=>rfl
  | cons a l ih=>
    rw[List.dropWhile_cons,List.all_cons]
    cases p a
    ·rfl
    ·simpa using ih
 intro s
 unfold ZjX Lib.trimS Lib.trimLeftS Lib.trimRightS
 rw[hw]
 have e:(fun x=>figB.contains x)=Wp:=funext hd
 rw[e]
 rw[List.all_reverse]
 cases h:s.all Wp with
 | true=>
   rw[QK_] at h ⊢
   exact fun x hx=>h x (List.mem_reverse.1 (List.dropWhile_sublist _ |>.subset hx))
 | false=>
   have:s.reverse.all Wp=false:=by rw[List.all_reverse];exact h
   rw[←hw] at this
   cases hl:s.reverse.dropWhile Wp with
   | nil=>rw[hl] at this;exact absurd this (by simp)
   | cons a l=>
     have ha:Wp a=false:=by
      have:=List.head?_dropWhile_not Wp s.reverse
      rw[hl] at this
      simpa using this
     rw[List.all_cons,ha];rfl
theorem ZzV(s:List UInt8)(n:Int):figs s n=(!(s==[])&&(decide ((s.length:Int)≤n)&&s.all Wp)):=by unfold figs;rw[Zx6]
def ZsS(acc:Nat)(s:List UInt8):Nat:=s.foldl (fun n b=>n *10+(b.toNat - 48)) acc
theorem Zin:∀(s:List UInt8) (acc:Nat),s.all Wp=true→Lib.decFrom acc s=some (ZsS acc s)
 | [],_,_=>rfl
 | b::s,acc,h=>by
   rw[List.all_cons,Qh_] at h
   have hb:48≤b.toNat∧b.toNat≤57:=by
    have:=h.1
    unfold Wp Xa at this
    simp only[Qh_,Qc_] at this
    omega
   unfold Lib.decFrom Lib.digitVal
   rw[if_pos hb]
   exact Zin s _ h.2
theorem Zx7{s:List UInt8}(h0:s≠[])(h:s.all Wp=true):Lib.atoi s=some ((ZsS 0 s:Nat):Int):=by
 cases s with
 | nil=>exact absurd rfl h0
 | cons b s=>
   have h1:=h
   rw[List.all_cons,Qh_] at h
   have hb:48≤b.toNat∧b.toNat≤57:=by
    have:=h.1
    unfold Wp Xa at this
    simp only[Qh_,Qc_] at this
    omega
   have n1:(b==45)=false:=by
    rw[KA_];intro e;subst e;exact absurd hb (by decide)
   have n2:(b==43)=false:=by
    rw[KA_];intro e;subst e;exact absurd hb (by decide)
   simp only[Lib.atoi,Lib.decNat,n1,n2,K6_,Kx_,List.isEmpty_cons]
   rw[Zin _ _ h1];rfl
theorem Zmc{s:List UInt8}(h0:s≠[])(h:s.all Wp=true):Lib.atoi s=some (ZbF s)∧ZbF s=(ZsS 0 s:Nat):=by
 have:=Zx7 h0 h
 unfold ZbF
 rw[this]
 exact ⟨rfl,rfl⟩
theorem Zvz(s:List UInt8):(ZgH s).length≤s.length:=by
 unfold ZgH ZaX Lib.trimRightS
 have:=(List.dropWhile_sublist ([48].contains ·) (l:=s.reverse)).length_le
 rw[List.length_reverse] at this ⊢
 exact this
theorem Zv0{s:List UInt8}(h:s.all Wp=true):(ZgH s).all Wp=true:=by
 rw[QK_] at h ⊢
 intro x hx
 unfold ZgH ZaX Lib.trimRightS at hx
 exact h x (List.mem_reverse.1 ((List.dropWhile_sublist _).subset (List.mem_reverse.1 hx)))
theorem ZrF{s:List UInt8}{n:Int}(h:figs s n=true):s≠[]∧(s.length:Int)≤n∧s.all Wp=true:=by
 rw[ZzV] at h
 simp only[Qh_,Qi_,KA_,Qc_] at h
 exact h
theorem Zv1(c:UInt8):∀(l:List UInt8) (k:Nat),ixB c l k= -1∨((k:Int)≤ixB c l k∧ixB c l k < k+l.length)
 | [],_=> .inl rfl
 | b::l,k=>by
   unfold ixB
   cases Nat.beq b.toNat c.toNat with
   | true=>exact .inr ⟨Int.le_refl _,by simp only[Qb_,Qs_];show (k:Int) < _;omega⟩
   | false=>
     simp only[Qd_]
     rcases Zv1 c l (k+1) with h | ⟨h1,h2⟩
     ·exact .inl h
     ·exact .inr ⟨by omega,by simp only[Qs_];omega⟩
theorem Zv2(s:List UInt8):ixM 46 s= -1∨(0≤ixM 46 s∧ixM 46 s < s.length):=by
 have:=Zv1 46 s 0
 unfold ixM
 rw[show (46:Int).toNat.toUInt8=46 from rfl]
 omega
theorem Zv3(s:List UInt8):(ZK s).1.length≤s.length∧(ZK s).2.1.length≤s.length:=by
 unfold ZK
 cases decide (ixM 46 s≥0)<;>simp only[Qb_,Qd_,K2_,K9_,Q1_]<;>omega
theorem ZsT(s p:List UInt8):(ZN s p).1.length≤s.length:=by
 unfold ZN
 cases J1 s p<;>simp only[Qb_,Qd_,K9_]<;>omega
theorem Zio{s:List UInt8}(h:Zec s=true):ZaY s++JM s≠[]∧(ZaY s++JM s).all Wp=true∧(ZaY s++JM s).length≤11∧(JM s).length≤6∧(ZaY s).length≤5:=by
 unfold Zec at h
 simp only[Qh_,Ko_,Qi_] at h
 obtain ⟨h1,h2⟩:=h
 obtain ⟨a1,a2,a3⟩:=ZrF h1
 have hr:(ZK (Zeb s)).2.1.all Wp=true∧(ZK (Zeb s)).2.1.length≤6:=by
  rcases h2 with h2 | h2
  ·have:(ZK (Zeb s)).2.1=[]:=by
    revert h2
    unfold ZK
    cases decide (ixM 46 (Zeb s)≥0)<;>simp
   rw[this];exact ⟨rfl,by simp⟩
  ·obtain ⟨_,b2,b3⟩:=ZrF h2
   exact ⟨b3,by omega⟩
 have h6:(JM s).length≤6:=QT_ (Zvz _) hr.2
 refine ⟨fun e=>a1 (List.append_eq_nil_iff.1 e).1, ?_, ?_,h6,by omega⟩
 ·rw[List.all_append,a3];exact Zv0 hr.1
 ·rw[Qx_];omega
theorem ZrG:∀(s:List UInt8) (acc m:Nat),s.all Wp=true→acc < 10 ^ m→ZsS acc s < 10 ^ (m+s.length)
 | [],_,_,_,h=>h
 | b::s,acc,m,h,ha=>by
   rw[List.all_cons,Qh_] at h
   have hb:b.toNat - 48≤9:=by
    have:=h.1
    unfold Wp Xa at this
    simp only[Qh_,Qc_] at this
    omega
   have:=ZrG s (acc *10+(b.toNat - 48)) (m+1) h.2 (by rw[Nat.pow_succ];omega)
   rw[Qs_,show m+(s.length+1)=m+1+s.length by omega]
   exact this
theorem ZzW{s:List UInt8}(h:Zec s=true):0≤Zeu s∧Zeu s < 100000000000:=by
 obtain ⟨h1,h2,h3,_⟩:=Zio h
 obtain ⟨_,e⟩:=Zmc h1 h2
 unfold Zeu
 rw[e]
 have hb:=ZrG (ZaY s++JM s) 0 0 h2 (by decide)
 have:10 ^ (0+(ZaY s++JM s).length)≤10 ^ 11:=Nat.pow_le_pow_right (by decide) (by omega)
 omega
theorem ZsU(s:List UInt8):X6 s=bif Zec s then (bif (ZN s [45]).2 then (bif Zeu s==0 then (zeroDec,false) else (⟨-Zeu s,(JM s).length⟩,true)) else (⟨Zeu s,(JM s).length⟩,true)) else (zeroDec,false):=rfl
theorem ZoI(s:List UInt8):Zec s=(figs (ZK (ZN s [45]).1).1 5&&(!(ZK (ZN s [45]).1).2.2||figs (ZK (ZN s [45]).1).2.1 6)):=rfl
theorem ZyN{s:List UInt8}(h:Zec s=true):ZoH ((ZK (ZN s [45]).1).1++ZaX (ZK (ZN s [45]).1).2.1 [48])∧(ZK (ZN s [45]).1).1.length+(ZaX (ZK (ZN s [45]).1).2.1 [48]).length≤9223372036854775807:=by
 obtain ⟨h1,h2,h3,h4,h5⟩:=Zio h
 refine ⟨⟨QT_ h3 (by decide),(Zmc h1 h2).1⟩, ?_⟩
 show (ZaY s).length+(JM s).length≤_
 omega
def tk(r:Rd):Tok:=Tok.dec (r.t.getD 0 [])
def Zlx:Tok:=⟨0,[],XD⟩
def ZsV(r:Rd)(a:Cx)(e:Int):Rd:=bif r.e==0 then ⟨r.t,r.g,a,e⟩ else r
def Znb(r:Rd)(k:Int):Tok×Rd:=
 bif r.e==0 then (bif (r.t.length:Int)==0 then (Zlx,ZsV r XD 2) else bif (tk r).kind==k then (tk r,⟨r.t.drop 1,r.g,r.pos,r.e⟩) else (Zlx,ZsV r (tk r).pos 2)) else (Zlx,r)
def ZjY(a b:Dec):Bool:=(ZcA a).c==0|| !ZT (ZcA a) b
def ZgK(n:List UInt8)(g:List Glass):Bool:=(Z8 g n).2||n==Jf
def Z0O:List UInt8:=[108,101,110,115]
def rd1(r:Rd):Rd:=bif (Znb r 1).1.text==Z0O then (Znb r 1).2 else ZsV (Znb r 1).2 (Znb r 1).1.pos 2
def Ja(d:Dec):Bool:=printable d&&ZT zeroDec d
def ZsW(f:Face):Bool:=ZV f.radius&&(ZV f.conic&&(ZV f.a4&&(ZV f.a6&&f.glass==[])))
def ZU(f:Face)(g:List Glass):Bool:=Ja f.aperture&&(printable f.thick&&(!ZT f.thick zeroDec&&(bif f.stop then ZsW f else printable f.radius&&(ZjY f.radius f.aperture&&(printable f.conic&&(printable f.a4&&(printable f.a6&&(Zcf f.glass&&ZgK f.glass g))))))))
def W6(l:LensM)(g:List Glass):Bool:=Zcf l.name&&(Ja l.back&&(decide (l.faces.length≤12)&&(YL l.faces&& !(l.faces.any fun f=> !ZU f g))))
def Zb2(a:Int)(sc:Nat):List UInt8:=Lib.repeatL [48] (max 0 ((sc:Int)+1 - (digits a).length)).toNat++digits a
theorem Zx8(n:Nat):Lib.repeatL [48] n++[48]=Lib.repeatL [48] (n+1):=by
 induction n with
 | zero=>rfl
 | succ n ih=>
   show ([48]++Lib.repeatL [48] n)++[48]=[48]++Lib.repeatL [48] (n+1)
   rw[QB_,ih]
theorem Zv4{a:Int}:Zb2 a 0=digits a:=by
 have:=(Y0 a).1
 unfold Zb2
 rw[show (max 0 (((0:Nat):Int)+1 - (digits a).length)).toNat=0 by omega];rfl
theorem Zv5{a:Int}(h0:0≤a)(h1:a≤1000000000000000000)(sc:Nat):Zb2 a (sc+1)=Zb2 (a / 10) sc++[UInt8.ofNat (48+(a % 10).toNat)]:=by
 unfold Zb2
 by_cases h:a < 10
 ·rw[ZcB h0 h,show a / 10=0 by omega,show a % 10=a by omega,show digits 0=[48] from rfl]
  simp only[Qs_,Q1_]
  rw[show (max 0 (((sc+1:Nat):Int)+1 - ((0+1:Nat):Int))).toNat=sc+1 by omega,show (max 0 ((sc:Int)+1 - ((0+1:Nat):Int))).toNat=sc by omega]
  rw[Zx8]
 ·rw[Zak (by omega) h1,Qx_,Qs_,Q1_,←QB_]
  rw[show (max 0 (((sc+1:Nat):Int)+1 - (((digits (a / 10)).length+(0+1):Nat):Int))).toNat=(max 0 ((sc:Int)+1 - (digits (a / 10)).length)).toNat by omega]
theorem ZoJ(n:Nat):(0:Int) < 10 ^ n:=Int.pow_pos (by decide)
theorem ZzX{a b q r:Int}(hb:0 < b)(h:a=b *q+r)(h1:0≤r)(h2:r < b):a / b=q∧a % b=r:=by
 subst h
 constructor
 ·rw[Int.add_comm,Int.add_mul_ediv_left _ _ (by omega),Int.ediv_eq_zero_of_lt h1 h2,Int.zero_add]
 ·rw[Int.add_comm,Int.add_mul_emod_self_left,Int.emod_eq_of_lt h1 h2]
theorem Zip:∀(sc:Nat) (a:Int),0≤a→a≤100000000000→sc≤6→
 Zb2 a sc=digits (a / 10 ^ sc)++(digits (a % 10 ^ sc+10 ^ sc)).drop 1∧(digits (a % 10 ^ sc+10 ^ sc)).length=sc+1
 | 0,a,h0,h1,_=>by
   rw[Zv4,Int.pow_zero,Int.ediv_one,Int.emod_one]
   exact ⟨by rw[show (digits (0+1)).drop 1=[] from rfl,QI_],rfl⟩
 | sc+1,a,h0,h1,h6=>by
   obtain ⟨e1,e2⟩:=Zip sc (a / 10) (by omega) (by omega) (by omega)
   have hp:=ZoJ sc
   have hpb:(10:Int) ^ sc≤100000:=by
    have:(10:Int) ^ sc≤10 ^ 5:=by exact_mod_cast Nat.pow_le_pow_right (by decide:0 < 10) (by omega:sc≤5)
    exact this
   have hb:=Int.emod_nonneg (a / 10) (show (10:Int) ^ sc≠0 by omega)
   have hb2:=Int.emod_lt_of_pos (a / 10) hp
   have hu:a / 10 ^ (sc+1)=a / 10 / 10 ^ sc∧a % 10 ^ (sc+1)=10 * (a / 10 % 10 ^ sc)+a % 10:=by
    refine ZzX (by rw[Int.pow_succ];omega) ?_ (by omega) (by rw[Int.pow_succ];omega)
    have e:=Int.mul_ediv_add_emod (a / 10) (10 ^ sc)
    rw[Int.pow_succ]
    generalize (10:Int) ^ sc=p at *
    generalize a / 10 / p=Q at *
    have:p *10 *Q=10 * (p *Q):=by rw[Int.mul_comm p 10,Int.mul_assoc]
    rw[this]
    generalize p *Q=z at *
    omega
   have hm:=hu.2
   have hq:=hu.1
   have hN:a % 10 ^ (sc+1)+10 ^ (sc+1)=10 * (a / 10 % 10 ^ sc+10 ^ sc)+a % 10:=by rw[hm,Int.pow_succ];omega
   have hd:digits (a % 10 ^ (sc+1)+10 ^ (sc+1))=digits (a / 10 % 10 ^ sc+10 ^ sc)++[UInt8.ofNat (48+(a % 10).toNat)]:=by
    rw[hN,Zak (by omega) (by omega)]
    rw[show (10 * (a / 10 % 10 ^ sc+10 ^ sc)+a % 10) / 10=a / 10 % 10 ^ sc+10 ^ sc by omega,show (10 * (a / 10 % 10 ^ sc+10 ^ sc)+a % 10) % 10=a % 10 by omega]
   rw[Zv5 h0 (by omega),e1,hd,hq]
   refine ⟨?_,by rw[Qx_,e2];rfl⟩
   rw[List.drop_append_of_le_length (by omega),QB_]
theorem Zmd:∀(k:Nat) (n:Int),0≤n→n≤1000000000000000000→((digits n).length≤k+1↔n < 10 ^ (k+1))
 | 0,n,h0,h1=>by
   by_cases h:n < 10
   ·rw[ZcB h0 h];simp;omega
   ·rw[Zak (by omega) h1,Qx_]
    have:=(Y0 (n / 10)).1
    simp only[Qs_,Q1_]
    constructor
    ·intro h';omega
    ·intro h';exact absurd (show n < 10 from h') h
 | k+1,n,h0,h1=>by
   by_cases h:n < 10
   ·rw[ZcB h0 h]
    have:(10:Int) ^ (k+1+1)=10 ^ k *100:=by rw[Int.pow_succ,Int.pow_succ];omega
    have:=ZoJ k
    simp only[Qs_,Q1_]
    omega
   ·rw[Zak (by omega) h1,Qx_,Qs_,Q1_]
    have ih:=Zmd k (n / 10) (by omega) (by omega)
    have:(10:Int) ^ (k+1+1)=10 ^ (k+1)*10:=Int.pow_succ _ _
    omega
theorem ZgL{d:Dec}(h:Z6 d=true):Zb2 (Y5 d) d.scale.toNat=digits (headD d)++(digits (W4 d)).drop 1∧((digits (W4 d)).drop 1).length=d.scale.toNat∧decide (((digits (headD d)).length:Int) > 5)=decide (headD d > 99999):=by
 obtain ⟨b1,b2⟩:=XS h
 have ha:0≤Y5 d∧Y5 d≤100000000000:=by unfold Y5;omega
 have f:=ZdW h
 obtain ⟨t1,t2⟩:=Zip d.scale.toNat (Y5 d) ha.1 ha.2 (by omega)
 have e1:Y5 d / 10 ^ d.scale.toNat=headD d:=by unfold headD Zz;rw[Int.tdiv_eq_ediv_of_nonneg ha.1]
 have e2:Y5 d % 10 ^ d.scale.toNat+10 ^ d.scale.toNat=W4 d:=by unfold W4 Zz;rw[Int.tmod_eq_emod_of_nonneg ha.1]
 rw[e1,e2] at t1
 rw[e2] at t2
 refine ⟨t1,by rw[K9_,t2];omega, ?_⟩
 have:=Zmd 4 (headD d) (by omega) (by omega)
 rw[show ((10:Int) ^ (4+1))=100000 from rfl] at this
 by_cases hc:headD d > 99999
 ·rw[QH_ hc,QH_ (by omega)]
 ·rw[QQ_ hc,QQ_ (by omega)]
def PD(d:Dec):List UInt8:=Zb2 (Y5 d) d.scale.toNat
def ZhM(d:Dec):List UInt8:=(digits (W4 d)).drop 1
theorem ZzY(n:Nat):(Lib.repeatL [48] n).length=n:=by
 induction n with
 | zero=>rfl
 | succ n ih=>show ([48]++Lib.repeatL [48] n).length=_;rw[Qx_,ih];simp;omega
theorem ZoK{d:Dec}(h:Z6 d=true):List.foldl imax d.c [IntKind.i64.wrap (0 - d.c)]=Y5 d∧
 List.foldl imax 0 [IntKind.i64.wrap (IntKind.i64.wrap (d.scale+1) - ((digits (Y5 d)).length:Int))]=max 0 (d.scale+1 - (digits (Y5 d)).length)∧
 Zlw [48] (max 0 (d.scale+1 - (digits (Y5 d)).length))++digits (Y5 d)=PD d∧
 IntKind.i64.wrap (((PD d).length:Int) - d.scale)=(digits (headD d)).length∧List.take (((digits (headD d)).length:Int)).toNat (PD d)=digits (headD d)∧List.drop (((digits (headD d)).length:Int)).toNat (PD d)=ZhM d:=by
 obtain ⟨b1,b2⟩:=XS h
 have f:=ZdW h
 have l1:=Y0 (Y5 d)
 have l2:=Y0 (headD d)
 obtain ⟨p1,p2,_⟩:=ZgL h
 have w1:IntKind.i64.wrap (d.scale+1)=d.scale+1:=Zf (by constructor<;>omega)
 have hl:((PD d).length:Int)=(digits (headD d)).length+d.scale:=by
  show ((Zb2 (Y5 d) d.scale.toNat).length:Int)=_
  rw[p1,Qx_,p2];omega
 refine ⟨f.1, ?_, ?_, ?_, ?_, ?_⟩
 ·rw[w1,Zf (by constructor<;>omega)]
  simp only[List.foldl,Zr]
 ·unfold PD Zb2 Zlw
  rw[show ((d.scale.toNat:Nat):Int)=d.scale by omega]
 ·rw[hl,Zf (by constructor<;>omega)];omega
 ·show List.take _ (Zb2 (Y5 d) d.scale.toNat)=_
  rw[p1,Int.toNat_natCast,List.take_left]
 ·show List.drop _ (Zb2 (Y5 d) d.scale.toNat)=_
  rw[p1,Int.toNat_natCast,List.drop_left];rfl
theorem Zv6{d:Dec}(h:Z6 d=true):(digits (Y5 d)).length≤20∧(digits (headD d)).length≤20∧((PD d).length:Int)=(digits (headD d)).length+d.scale∧((ZhM d).length:Int)=d.scale∧(0≤d.scale∧d.scale≤6)∧(Y5 d≤100000000000∧0≤Y5 d)∧1≤(digits (Y5 d)).length∧1≤(digits (headD d)).length:=by
 obtain ⟨b1,b2⟩:=XS h
 have l1:=Y0 (Y5 d)
 have l2:=Y0 (headD d)
 obtain ⟨p1,p2,_⟩:=ZgL h
 refine ⟨l1.2,l2.2, ?_, ?_,b2,by unfold Y5;omega,l1.1,l2.1⟩
 ·show ((Zb2 (Y5 d) d.scale.toNat).length:Int)=_
  rw[p1,Qx_,p2];omega
 ·show (((digits (W4 d)).drop 1).length:Int)=_
  rw[p2];omega
theorem ZzZ{d:Dec}(h:Z6 d=true):(!(ZhM d==[]))=decide (d.scale > 0):=by
 have:=(Zv6 h).2.2.2.1
 by_cases hs:d.scale > 0
 ·rw[QH_ hs,Qi_,KA_]
  intro e;rw[e] at this;simp at this;omega
 ·have e:ZhM d=[]:=QM_ (by omega)
  rw[QQ_ hs,e];rfl
theorem Zq6{d:Dec}(h:Z6 d=true):Wa d=bif decide (((digits (headD d)).length:Int) > 5) then [] else (bif !(ZhM d==[]) then (bif decide (d.c < 0) then [45]++digits (headD d) else digits (headD d))++[46]++ZhM d else (bif decide (d.c < 0) then [45]++digits (headD d) else digits (headD d))):=by
 rw[ZzZ h,(ZgL h).2.2]
 unfold Wa ZjV ZmZ
 rw[h];rfl
theorem Z0P(l:List Tok):Zd (((l.map Tok.enc).getD 0 []).headD .nil)=(l.headD ⟨0,[],XD⟩).kind∧Wh (((l.map Tok.enc).getD 0 []).tail.headD .nil)=(l.headD ⟨0,[],XD⟩).text:=by
 cases l<;>exact ⟨rfl,rfl⟩
theorem Zed(x:GL):GL.dec (GL.enc x)=x:=by
 show (⟨Zi Glass.dec (x.g.map Glass.enc)⟩:GL)=x
 rw[Zp]
def Xp(s:Surf):Bool:=s.curve.no||(s.conic.no||(s.a4.no||(s.a6.no||(s.pos.no||(s.open2.no||s.ratio.no)))))
def ZiD:Surf:=⟨false,false,Zaj,Zaj,Zaj,Zaj,Zaj,Zaj,Zaj⟩
def YC(s:SysM):Iv:=bif (s.surfs.length:Int)==0 then none' else (s.surfs.getD ((s.surfs.length:Int) - 1).toNat ZiD).pos
def Zdq(n:List UInt8)(g:List Glass)(w:Iv):Iv:=bif n==Jf then point 65536 else W5 (Z8 g n).1 w
theorem Zx9(f:Face):right (ZcT f)= !(ZcT f).no:=Ji (Za2 _ _) (Jy _)
theorem ZxA(f:Face)(g:List Glass)(w ix:Iv):right (Xz f g w ix)= !(Xz f g w ix).no:=Ji (Jy _) (Za2 _ _)
theorem ZsX(f:Face)(g:List Glass)(w pos ix:Iv)(h:right pos= !pos.no):Xp (Zal f pos (Xz f g w ix))= !YF (Zal f pos (Xz f g w ix)):=by
 have e1:right (add (point 65536) (Ze f.conic))= !(add (point 65536) (Ze f.conic)).no:=ZaV _ _
 have e2:right (Ze f.a4)= !(Ze f.a4).no:=WP _
 have e3:right (Ze f.a6)= !(Ze f.a6).no:=WP _
 have e4:right (sqr (Ze f.aperture))= !(sqr (Ze f.aperture)).no:=ZeE _
 unfold Xp YF Zal
 simp only[Zx9,ZxA,e1,e2,e3,e4,h,Bool.not_and,Ke_]
def Znc(f:Face):Bool:= !(f.a4.c==0)|| !(f.a6.c==0)
def ZaZ(f:Face)(pos ratio:Iv):Surf:=⟨f.stop,Znc f,ZcT f,add (point 65536) (Ze f.conic),Ze f.a4,Ze f.a6,pos,sqr (Ze f.aperture),ratio⟩
def pGo(g:List Glass)(w:Iv):List Face→Iv→Iv→List Surf
 | [],_,_=>[]
 | f::l,pos,ix=>ZaZ f pos (Xz f g w ix)::pGo g w l (add pos (Ze f.thick)) (ZaW f g w ix)
def XV(l:LensM)(g:List Glass)(w:Iv):SysM:=⟨pGo g w l.faces (Ze l.back) (point 65536),Ze (Zna l).aperture⟩
def Wd(l:LensM)(g:List Glass)(w:Iv):SysM×Int:=bif W6 l g then (bif (XV l g w).surfs.any Xp then (ZeJ,6) else bif (XV l g w).op.no then (ZeJ,6) else (XV l g w,0)) else (ZeJ,1)
theorem ZgM{l:LensM}{g:List Glass}(h:W6 l g=true):(∃f t,l.faces=f::t)∧l.faces.length≤12:=by
 unfold W6 at h
 simp only[Qh_,Qc_] at h
 refine ⟨?_,h.2.2.1⟩
 cases hf:l.faces with
 | nil=>rw[hf] at h;exact absurd h.2.2.2.1 (by decide)
 | cons f t=>exact ⟨f,t,rfl⟩
def Zdr:List UInt8:=[108,101,110,115,32,97,32,52,48,10,102,97,99,101,32,48,32,53,32,49,32,97,105,114,10,102,97,99,101,32,50,48,32,52,32,50,32,97,105,114]
def lens13:LensM:=⟨[97],⟨40,0⟩,[⟨false,⟨0,0⟩,⟨5,0⟩,⟨1,0⟩,⟨0,0⟩,⟨0,0⟩,⟨0,0⟩,Jf⟩,⟨false,⟨20,0⟩,⟨4,0⟩,⟨2,0⟩,⟨0,0⟩,⟨0,0⟩,⟨0,0⟩,Jf⟩]⟩
end Go.Men
namespace Go.Ev
abbrev U2{T0 T1 R:Type}(f:T0→T1→R)(x:T0×T1):R:=f x.1 x.2
abbrev V2{T0 T1 R:Type}(f:T0→T1→R)(x:T0×T1×Unit):R:=match x with | (a0,a1,_)=>f a0 a1
def cv2{T0 T1:Type}(x:T0×T1×Unit):T0×T1:=(x.1,x.2.1)
abbrev U3{T0 T1 T2 R:Type}(f:T0→T1→T2→R)(x:T0×T1×T2):R:=f x.1 x.2.1 x.2.2
abbrev V3{T0 T1 T2 R:Type}(f:T0→T1→T2→R)(x:T0×T1×T2×Unit):R:=match x with | (a0,a1,a2,_)=>f a0 a1 a2
def cv3{T0 T1 T2:Type}(x:T0×T1×T2×Unit):T0×T1×T2:=(x.1,x.2.1,x.2.2.1)
abbrev U4{T0 T1 T2 T3 R:Type}(f:T0→T1→T2→T3→R)(x:T0×T1×T2×T3):R:=f x.1 x.2.1 x.2.2.1 x.2.2.2
abbrev V4{T0 T1 T2 T3 R:Type}(f:T0→T1→T2→T3→R)(x:T0×T1×T2×T3×Unit):R:=match x with | (a0,a1,a2,a3,_)=>f a0 a1 a2 a3
def cv4{T0 T1 T2 T3:Type}(x:T0×T1×T2×T3×Unit):T0×T1×T2×T3:=(x.1,x.2.1,x.2.2.1,x.2.2.2.1)
abbrev U5{T0 T1 T2 T3 T4 R:Type}(f:T0→T1→T2→T3→T4→R)(x:T0×T1×T2×T3×T4):R:=f x.1 x.2.1 x.2.2.1 x.2.2.2.1 x.2.2.2.2
abbrev V5{T0 T1 T2 T3 T4 R:Type}(f:T0→T1→T2→T3→T4→R)(x:T0×T1×T2×T3×T4×Unit):R:=match x with | (a0,a1,a2,a3,a4,_)=>f a0 a1 a2 a3 a4
def cv5{T0 T1 T2 T3 T4:Type}(x:T0×T1×T2×T3×T4×Unit):T0×T1×T2×T3×T4:=(x.1,x.2.1,x.2.2.1,x.2.2.2.1,x.2.2.2.2.1)
abbrev U6{T0 T1 T2 T3 T4 T5 R:Type}(f:T0→T1→T2→T3→T4→T5→R)(x:T0×T1×T2×T3×T4×T5):R:=f x.1 x.2.1 x.2.2.1 x.2.2.2.1 x.2.2.2.2.1 x.2.2.2.2.2
abbrev V6{T0 T1 T2 T3 T4 T5 R:Type}(f:T0→T1→T2→T3→T4→T5→R)(x:T0×T1×T2×T3×T4×T5×Unit):R:=match x with | (a0,a1,a2,a3,a4,a5,_)=>f a0 a1 a2 a3 a4 a5
def cv6{T0 T1 T2 T3 T4 T5:Type}(x:T0×T1×T2×T3×T4×T5×Unit):T0×T1×T2×T3×T4×T5:=(x.1,x.2.1,x.2.2.1,x.2.2.2.1,x.2.2.2.2.1,x.2.2.2.2.2.1)
abbrev U9{T0 T1 T2 T3 T4 T5 T6 T7 T8 R:Type}(f:T0→T1→T2→T3→T4→T5→T6→T7→T8→R)(x:T0×T1×T2×T3×T4×T5×T6×T7×T8):R:=f x.1 x.2.1 x.2.2.1 x.2.2.2.1 x.2.2.2.2.1 x.2.2.2.2.2.1 x.2.2.2.2.2.2.1 x.2.2.2.2.2.2.2.1 x.2.2.2.2.2.2.2.2
abbrev V9{T0 T1 T2 T3 T4 T5 T6 T7 T8 R:Type}(f:T0→T1→T2→T3→T4→T5→T6→T7→T8→R)(x:T0×T1×T2×T3×T4×T5×T6×T7×T8×Unit):R:=match x with | (a0,a1,a2,a3,a4,a5,a6,a7,a8,_)=>f a0 a1 a2 a3 a4 a5 a6 a7 a8
def cv9{T0 T1 T2 T3 T4 T5 T6 T7 T8:Type}(x:T0×T1×T2×T3×T4×T5×T6×T7×T8×Unit):T0×T1×T2×T3×T4×T5×T6×T7×T8:=(x.1,x.2.1,x.2.2.1,x.2.2.2.1,x.2.2.2.2.1,x.2.2.2.2.2.1,x.2.2.2.2.2.2.1,x.2.2.2.2.2.2.2.1,x.2.2.2.2.2.2.2.2.1)
end Go.Ev
namespace Go.Men
open Go Go.Ev
structure Cd(α:Type) where
 enc:α→PV
 get:PV→Option (α×List Prop)
 ok:∀v a ps,get v=some (a,ps)→Yi ps→v=enc a
def ZiE(P:Program)(f:Nat)(pre:List PV)(k:List PV→List Prop→Option (PV×List Prop)):Prop:=∀l ps r qs,k l ps=some (r,qs)→Yi qs→Yi ps∧Con P f (pre++l) r
def EA{α:Type}(c:Cd α)(k:α→List PV→List Prop→Option (PV×List Prop)):List PV→List Prop→Option (PV×List Prop)
 | x::r,ps=>match c.get x with
   | some (a,p)=>k a r (ps++p)
   | none=>none
 | [],_=>none
def EZ(v:PV)(c:List Prop):List PV→List Prop→Option (PV×List Prop)
 | [],ps=>some (v,ps++c)
 | _,_=>none
theorem Z0Q{α:Type}{c:Cd α}{k:α→List PV→List Prop→Option (PV×List Prop)}{l:List PV}{ps qs:List Prop}{r:PV}(h:EA c k l ps=some (r,qs)):∃x t a p,l=x::t∧c.get x=some (a,p)∧k a t (ps++p)=some (r,qs):=by
 cases l with
 | nil=>cases h
 | cons x t=>
   cases hg:c.get x with
   | none=>simp only[EA,hg] at h;cases h
   | some y=>simp only[EA,hg] at h;exact ⟨x,t,y.1,y.2,rfl,hg,h⟩
theorem Zh{P:Program}{f:Nat}{α:Type}{c:Cd α}{pre:List PV}{k:α→List PV→List Prop→Option (PV×List Prop)}(h:∀a,ZiE P f (pre++[c.enc a]) (k a)):ZiE P f pre (EA c k):=fun l ps r qs hk hq=>by
 obtain ⟨x,t,a,p,rfl,hg,hk⟩:=Z0Q hk
 obtain ⟨h1,h2⟩:=h a _ _ _ _ hk hq
 obtain ⟨h3,h4⟩:=Jv h1
 rw[←c.ok _ _ _ hg h4,QB_] at h2
 exact ⟨h3,h2⟩
theorem ZjZ{v r:PV}{c ps qs:List Prop}{l:List PV}(h:EZ v c l ps=some (r,qs))(hq:Yi qs):l=[]∧r=v∧Yi ps∧Yi c:=by
 cases l with
 | nil=>cases h;exact ⟨rfl,rfl,Jv hq⟩
 | cons x t=>cases h
theorem EZ0{P:Program}{f:Nat}{pre:List PV}{v:PV}(h:Con P f pre v):ZiE P f pre (EZ v []):=fun l ps r qs hk hq=>by
 obtain ⟨rfl,rfl,h1,_⟩:=ZjZ hk hq
 exact ⟨h1,by rw[QI_];exact h⟩
theorem EZ1{P:Program}{f:Nat}{pre:List PV}{v:PV}{p:Prop}(h:p→Con P f pre v):ZiE P f pre (EZ v [p]):=fun l ps r qs hk hq=>by
 obtain ⟨rfl,rfl,h1,h2⟩:=ZjZ hk hq
 exact ⟨h1,by rw[QI_];exact h (h2 _ Qv_)⟩
theorem EZ2{P:Program}{f:Nat}{pre:List PV}{v:PV}{p q:Prop}(h:p→q→Con P f pre v):ZiE P f pre (EZ v [p,q]):=fun l ps r qs hk hq=>by
 obtain ⟨rfl,rfl,h1,h2⟩:=ZjZ hk hq
 exact ⟨h1,by rw[QI_];exact h (h2 _ (by simp)) (h2 _ (by simp))⟩
theorem EZ3{P:Program}{f:Nat}{pre:List PV}{v:PV}{p q s:Prop}(h:p→q→s→Con P f pre v):ZiE P f pre (EZ v [p,q,s]):=fun l ps r qs hk hq=>by
 obtain ⟨rfl,rfl,h1,h2⟩:=ZjZ hk hq
 exact ⟨h1,by rw[QI_];exact h (h2 _ (by simp)) (h2 _ (by simp)) (h2 _ (by simp))⟩
theorem Zk{P:Program}{f:Nat}{k:List PV→List Prop→Option (PV×List Prop)}(h:ZiE P f [] k):Zj P f (fun l=>k l []):=fun args r ps hk hp=>(h _ _ _ _ hk hp).2
def cI:Cd Int:=⟨fun n=> .v (.int .i64 n),fun v=>match v with | .v (.int .i64 n)=>some (n,[]) | _=>none,fun v a ps h _=>by split at h<;>cases h;rfl⟩
def cU:Cd Int:=⟨fun n=> .v (.int .u8 n),fun v=>match v with | .v (.int .u8 n)=>some (n,[]) | _=>none,fun v a ps h _=>by split at h<;>cases h;rfl⟩
def cB:Cd Bool:=⟨fun n=> .v (.bool n),fun v=>match v with | .v (.bool n)=>some (n,[]) | _=>none,fun v a ps h _=>by split at h<;>cases h;rfl⟩
def cS:Cd (List UInt8):=⟨fun n=> .str n,fun v=>match v with | .str n=>some (n,[]) | _=>none,fun v a ps h _=>by split at h<;>cases h;rfl⟩
def cL{α:Type}(e:α→List PV)(d:List PV→α):Cd (List α):=⟨fun l=> .lst (l.map e),fun v=>match v with | .lst xs=>some (Zi d xs,[xs=(Zi d xs).map e]) | _=>none,fun v a ps h hp=>by
 split at h<;>cases h
 exact Kk_ PV.lst (hp _ Qv_)⟩
def cG{α:Type}(e:α→List PV)(d:List PV→α):Cd α:=⟨fun x=> .agg (e x),fun v=>match v with | .agg xs=>some (d xs,[xs=e (d xs)]) | _=>none,fun v a ps h hp=>by
 split at h<;>cases h
 exact Kk_ PV.agg (hp _ Qv_)⟩
def cP{α:Type}(e:α→List PV)(d:List PV→α):Cd α:=⟨fun x=> .lptr (e x) 0,fun v=>match v with | .lptr xs 0=>some (d xs,[xs=e (d xs)]) | _=>none,fun v a ps h hp=>by
 split at h<;>cases h
 exact Kk_ (PV.lptr · 0) (hp _ Qv_)⟩
def cT{α:Type}(e:α→List PV)(g:List PV→Option α)(ok:∀l a,g l=some a→l=e a):Cd α:=⟨fun x=> .agg (e x),fun v=>match v with | .agg xs=>(match g xs with | some a=>some (a,[]) | none=>none) | _=>none,fun v a ps h _=>by
 split at h
 ·split at h
  ·rename_i xs b hb
   cases h
   exact Kk_ PV.agg (ok _ _ hb)
  ·cases h
 ·cases h⟩
def gIv:List PV→Option Iv | [.v (.int .i64 a),.v (.int .i64 b),.v (.bool c)]=>some ⟨a,b,c⟩ | _=>none
theorem Zcg(l:List PV)(a:Iv)(h:gIv l=some a):l=Iv.enc a:=by unfold gIv at h;split at h<;>cases h;rfl
def cIv:Cd Iv:=cT Iv.enc gIv Zcg
def ZoL:List PV→Option Dec | [.v (.int .i64 a),.v (.int .i64 b)]=>some ⟨a,b⟩ | _=>none
theorem Zly(l:List PV)(a:Dec)(h:ZoL l=some a):l=Dec.enc a:=by unfold ZoL at h;split at h<;>cases h;rfl
def WR:Cd Dec:=cT Dec.enc ZoL Zly
def vI(n:Int):PV:= .v (.int .i64 n)
def vB(b:Bool):PV:= .v (.bool b)
def pI(n:Int):AV:= .p (.v (.int .i64 n))
structure FD(β:Type) where
 t:β→List (Nat×AV)
 b:β→List (Nat×List PV)
 g:List (Nat×AV)→List (Nat×List PV)→Option (β×List Prop)
 ok:∀ts bs x ps,g ts bs=some (x,ps)→Yi ps→ts=t x∧bs=b x
def fZ:FD Unit:=⟨fun _=>[],fun _=>[],fun ts bs=>match ts,bs with | [],[]=>some ((),[]) | _,_=>none,fun ts bs x ps h _=>by split at h<;>cases h;exact ⟨rfl,rfl⟩⟩
theorem fx{β α:Type}{o:Option (β×List Prop)}{p ps:List Prop}{a:α}{x:α×β}(h:(match o with | some (y,q)=>some ((a,y),p++q) | none=>none)=some (x,ps))(hp:Yi ps):x.1=a∧Yi p∧∃q,o=some (x.2,q)∧Yi q:=by
 cases o with
 | none=>cases h
 | some y=>
   cases h
   exact ⟨rfl,(Jv hp).1,y.2,rfl,(Jv hp).2⟩
def fT{α β:Type}(i:Nat)(c:Cd α)(r:FD β):FD (α×β):=⟨fun y=>(i,.p (c.enc y.1))::r.t y.2,fun y=>r.b y.2,fun ts bs=>match ts with
 | (j,.p v)::ts=>bif Nat.beq j i then (match c.get v with
   | some (a,p)=>(match r.g ts bs with | some (y,q)=>some ((a,y),p++q) | none=>none)
   | none=>none) else none
 | _=>none,fun ts bs x ps h hp=>by
 split at h
 ·rename_i j v ts
  cases hb:Nat.beq j i with
  | false=>rw[hb] at h;cases h
  | true=>
    rw[hb,Qb_] at h
    split at h
    ·rename_i a p hg
     obtain ⟨h1,h2,q,h3,h4⟩:=fx h hp
     obtain ⟨k1,k2⟩:=r.ok _ _ _ _ h3 h4
     rw[c.ok _ _ _ hg h2,h1,k1,k2,Qj_ hb]
     exact ⟨rfl,rfl⟩
    ·cases h
 ·cases h⟩
def fP{β:Type}(i n off:Nat)(r:FD β):FD β:=⟨fun y=>(i,.ptr n off)::r.t y,r.b,fun ts bs=>match ts with
 | (j,.ptr m o)::ts=>bif Nat.beq j i&&(Nat.beq m n&&Nat.beq o off) then r.g ts bs else none
 | _=>none,fun ts bs x ps h hp=>by
 split at h
 ·rename_i j m o ts
  cases hb:(Nat.beq j i&&(Nat.beq m n&&Nat.beq o off)) with
  | false=>rw[hb] at h;cases h
  | true=>
    rw[hb,Qb_] at h
    simp only[Qh_] at hb
    obtain ⟨k1,k2⟩:=r.ok _ _ _ _ h hp
    rw[k1,k2,Qj_ hb.1,Qj_ hb.2.1,Qj_ hb.2.2]
    exact ⟨rfl,rfl⟩
 ·cases h⟩
def fB{α β:Type}(i:Nat)(e:α→List PV)(d:List PV→α)(r:FD β):FD (α×β):=⟨fun y=>r.t y.2,fun y=>(i,e y.1)::r.b y.2,fun ts bs=>match bs with
 | (j,v)::bs=>bif Nat.beq j i then (match r.g ts bs with | some (y,q)=>some ((d v,y),[v=e (d v)]++q) | none=>none) else none
 | _=>none,fun ts bs x ps h hp=>by
 split at h
 ·rename_i j v bs
  cases hb:Nat.beq j i with
  | false=>rw[hb] at h;cases h
  | true=>
    rw[hb,Qb_] at h
    obtain ⟨h1,h2,q,h3,h4⟩:=fx h hp
    obtain ⟨k1,k2⟩:=r.ok _ _ _ _ h3 h4
    have h5:v=e (d v):=h2 _ Qv_
    rw[h1,←h5,k1,k2,Qj_ hb]
    exact ⟨rfl,rfl⟩
 ·cases h⟩
def fb{α β:Type}(i:Nat)(e:α→List PV)(gc:List PV→Option α)(ok:∀l a,gc l=some a→l=e a)(r:FD β):FD (α×β):=⟨fun y=>r.t y.2,fun y=>(i,e y.1)::r.b y.2,fun ts bs=>match bs with
 | (j,v)::bs=>bif Nat.beq j i then (match gc v with
   | some a=>(match r.g ts bs with | some (y,q)=>some ((a,y),[]++q) | none=>none)
   | none=>none) else none
 | _=>none,fun ts bs x ps h hp=>by
 split at h
 ·rename_i j v bs
  cases hb:Nat.beq j i with
  | false=>rw[hb] at h;cases h
  | true=>
    rw[hb,Qb_] at h
    split at h
    ·rename_i a hg
     obtain ⟨h1,h2,q,h3,h4⟩:=fx h hp
     obtain ⟨k1,k2⟩:=r.ok _ _ _ _ h3 h4
     rw[h1,ok _ _ hg,k1,k2,Qj_ hb]
     exact ⟨rfl,rfl⟩
    ·cases h
 ·cases h⟩
def nsB:List Nat→List Nat→Bool
 | [],[]=>true
 | a::r,b::s=>Nat.beq a b&&nsB r s
 | _,_=>false
theorem Zv7:∀{l m:List Nat},nsB l m=true→l=m
 | [],[],_=>rfl
 | a::r,b::s,h=>by
   simp only[nsB,Qh_] at h
   rw[Qj_ h.1,Zv7 h.2]
 | [],_::_,h=>by cases h
 | _::_,[],h=>by cases h
def owB:List (Ev.Loc×Nat)→List (Ev.Loc×Nat)→Bool
 | [],[]=>true
 | (a,x)::r,(b,y)::s=>(a.eq b&&Nat.beq x y)&&owB r s
 | _,_=>false
theorem Zv8:∀{l m:List (Ev.Loc×Nat)},owB l m=true→l=m
 | [],[],_=>rfl
 | (a,x)::r,(b,y)::s,h=>by
   simp only[owB,Qh_] at h
   rw[Loc.eq_iff.1 h.1.1,Qj_ h.1.2,Zv8 h.2]
 | [],_::_,h=>by cases h
 | _::_,[],h=>by cases h
def LSg{β:Type}(Γ:List (Nat×Ty))(n:Nat)(fd:FD β)(ro:List Nat)(ow:List (Ev.Loc×Nat))(k:KpH)(I:β→Prop)(F:β→(Ex→St→Prop)→Prop):LSum:=fun σ K=>match Jh Γ k σ with
 | some ⟨n',ts,bs,ro',ow',[]⟩=>bif Nat.beq n' n&&(nsB ro' ro&&owB ow' ow) then (match fd.g ts bs with
   | some (y,ps)=>alls (ps++[I y]) (F y K)
   | none=>False) else False
 | _=>False
theorem lsG{P:Program}{β X:Type}{Γ:List (Nat×Ty)}{b:Code}{n:Nat}{fd:FD β}{ro:List Nat}{ow:List (Ev.Loc×Nat)}{k:KpH}{I:β→Prop}{F:β→(Ex→St→Prop)→Prop}(hΓ:Ye P Γ){H:X→St}{inv:X→Prop}{fin:X→Ex→St→Prop}(h:∀x,inv x→∃e σ',fin x e σ'∧∃m,Jr P m b (H x) e σ')
 (cv:β→X) (hH:∀y,(⟨n,fd.t y,fd.b y,ro,ow,[]⟩:St)=H (cv y)) (hI:∀y,I y→inv (cv y)) (hF:∀y K e s,F y K→fin (cv y) e s→K e s):Yl P b (LSg Γ n fd ro ow k I F):=by
 refine Za0 hΓ h k fun σ K hS=>?_
 unfold LSg at hS
 split at hS
 ·rename_i n' ts bs ro' ow' hk
  cases hb:(Nat.beq n' n&&(nsB ro' ro&&owB ow' ow)) with
  | false=>rw[hb] at hS;exact hS.elim
  | true=>
    rw[hb,Qb_] at hS
    simp only[Qh_] at hb
    split at hS
    ·rename_i y ps hg
     obtain ⟨h1,h2⟩:=XH hS
     obtain ⟨h3,h4⟩:=Jv h1
     obtain ⟨k1,k2⟩:=fd.ok _ _ _ _ hg h3
     refine ⟨cv y, ?_,hI y (h4 _ Qv_),fun e s=>hF y K e s h2⟩
     rw[hk,←hH,k1,k2,Qj_ hb.1,Zv7 hb.2.1,Zv8 hb.2.2]
    ·exact hS.elim
 ·exact hS.elim
theorem fE{K:Ex→St→Prop}{a e:Ex}{b s:St}(h:K a b)(f:e=a∧s=b):K e s:=by obtain ⟨rfl,rfl⟩:=f;exact h
theorem fC{c:Bool}{A B p q R:Prop}(h:bif c then A else B)(f:(c=true∧p)∨(c=false∧q))(ha:A→p→R)(hb:B→q→R):R:=by
 rcases f with ⟨rfl,f⟩ | ⟨rfl,f⟩
 ·exact ha h f
 ·exact hb h f
theorem sxT{α:Type}{A:α→Prop}(T:α→Prop)(e:∀Q,A Q=T Q){Q:α}(h:T Q):A Q:=(e Q).mpr h
def Qn(X r:PV):Prop:=nz r=X
theorem ZiF{P:Program}{E:Env}(hE:EnvOk P E){C:ZP}(hC:CSOk P C){CP:Ys}(hP:CSPOk P CP){CI:Yn}(hI:CSIOk P CI){G:Gx}(hG:OwOk P C G){LS:List (Nat×LSum)}{f:Nat}{fn:Func}(hf:lk f E.fns=some fn)(hL:ZQ P LS fn){n:Nat}{args:List PV}{X:PV}
 (h:sxF E C CP CI G LS n fn args (Qn X)):Con P f args X:=Zr7 hE hC hP hI hG hf hL h
def kr0:KpH:=⟨⟨[],[],[]⟩,[]⟩
def eIv(x:Iv):List PV:=[vI x.lo,vI x.hi,vB x.no]
def Zlz(x:Dec):List PV:=[vI x.c,vI x.scale]
def W7(x:Glass):List PV:=[PV.str x.name,vI x.b.a.c,vI x.b.a.scale,vI x.b.b.c,vI x.b.b.scale,vI x.b.c.c,vI x.b.c.scale,vI x.c.a.c,vI x.c.a.scale,vI x.c.b.c,vI x.c.b.scale,vI x.c.c.c,vI x.c.c.scale]
def ZyO(x:Face):List PV:=[vB x.stop,vI x.radius.c,vI x.radius.scale,vI x.aperture.c,vI x.aperture.scale,vI x.thick.c,vI x.thick.scale,vI x.conic.c,vI x.conic.scale,vI x.a4.c,vI x.a4.scale,vI x.a6.c,vI x.a6.scale,PV.str x.glass]
def Z4(x:LensM):List PV:=[PV.str x.name,vI x.back.c,vI x.back.scale,PV.lst (List.map Face.enc x.faces)]
end Go.Men
namespace Go.Ev
open Go.RowKit
end Go.Ev
namespace Go.Proofs.YtgfgjabeooohhaaGreatDoor
open Go.Ev
def Xd:List (Nat×Ty):=[
 (48,⟨1,3,24,[.v (Go.Value.int (Go.IntKind.i64) 0),.v (Go.Value.int (Go.IntKind.i64) 0),.v (Go.Value.bool false)],[(0,3),(1,3),(2,4)],0,0⟩),
 (25,⟨1,2,16,[.v (Go.Value.int (Go.IntKind.i64) 0),.v (Go.Value.int (Go.IntKind.i64) 0)],[(0,3),(1,3)],0,0⟩),
 (3,⟨0,1,8,[.v (Go.Value.int (Go.IntKind.i64) 0)],[],0,0⟩),
 (32,⟨1,14,120,[.v (Go.Value.bool false),.v (Go.Value.int (Go.IntKind.i64) 0),.v (Go.Value.int (Go.IntKind.i64) 0),.v (Go.Value.int (Go.IntKind.i64) 0),.v (Go.Value.int (Go.IntKind.i64) 0),.v (Go.Value.int (Go.IntKind.i64) 0),.v (Go.Value.int (Go.IntKind.i64) 0),.v (Go.Value.int (Go.IntKind.i64) 0),.v (Go.Value.int (Go.IntKind.i64) 0),.v (Go.Value.int (Go.IntKind.i64) 0),.v (Go.Value.int (Go.IntKind.i64) 0),.v (Go.Value.int (Go.IntKind.i64) 0),.v (Go.Value.int (Go.IntKind.i64) 0),.str []],[(0,4),(1,25),(3,25),(5,25),(7,25),(9,25),(11,25),(13,9)],0,0⟩),
 (36,⟨1,4,56,[.str [],.v (Go.Value.int (Go.IntKind.i64) 0),.v (Go.Value.int (Go.IntKind.i64) 0),.nil],[(0,9),(1,25),(3,34)],0,0⟩),
 (9,⟨4,1,16,[.str []],[],0,0⟩),
 (57,⟨1,4,48,[.nil,.v (Go.Value.int (Go.IntKind.i64) 0),.v (Go.Value.int (Go.IntKind.i64) 0),.v (Go.Value.bool false)],[(0,55),(1,48)],0,0⟩),
 (34,⟨3,1,24,[.nil],[],32,0⟩),
 (75,⟨1,23,176,[.v (Go.Value.bool false),.v (Go.Value.bool false),.v (Go.Value.int (Go.IntKind.i64) 0),.v (Go.Value.int (Go.IntKind.i64) 0),.v (Go.Value.bool false),.v (Go.Value.int (Go.IntKind.i64) 0),.v (Go.Value.int (Go.IntKind.i64) 0),.v (Go.Value.bool false),.v (Go.Value.int (Go.IntKind.i64) 0),.v (Go.Value.int (Go.IntKind.i64) 0),.v (Go.Value.bool false),.v (Go.Value.int (Go.IntKind.i64) 0),.v (Go.Value.int (Go.IntKind.i64) 0),.v (Go.Value.bool false),.v (Go.Value.int (Go.IntKind.i64) 0),.v (Go.Value.int (Go.IntKind.i64) 0),.v (Go.Value.bool false),.v (Go.Value.int (Go.IntKind.i64) 0),.v (Go.Value.int (Go.IntKind.i64) 0),.v (Go.Value.bool false),.v (Go.Value.int (Go.IntKind.i64) 0),.v (Go.Value.int (Go.IntKind.i64) 0),.v (Go.Value.bool false)],[(0,4),(1,4),(2,48),(5,48),(8,48),(11,48),(14,48),(17,48),(20,48)],0,0⟩),
 (55,⟨3,1,24,[.nil],[],75,0⟩),
 (30,⟨1,13,112,[.str [],.v (Go.Value.int (Go.IntKind.i64) 0),.v (Go.Value.int (Go.IntKind.i64) 0),.v (Go.Value.int (Go.IntKind.i64) 0),.v (Go.Value.int (Go.IntKind.i64) 0),.v (Go.Value.int (Go.IntKind.i64) 0),.v (Go.Value.int (Go.IntKind.i64) 0),.v (Go.Value.int (Go.IntKind.i64) 0),.v (Go.Value.int (Go.IntKind.i64) 0),.v (Go.Value.int (Go.IntKind.i64) 0),.v (Go.Value.int (Go.IntKind.i64) 0),.v (Go.Value.int (Go.IntKind.i64) 0),.v (Go.Value.int (Go.IntKind.i64) 0)],[(0,9),(1,28),(7,28)],0,0⟩),
 (92,⟨1,3,40,[.v (Go.Value.int (Go.IntKind.i64) 0),.str [],.v (Go.Value.complex (Go.FloatKind.f64) 0 0)],[(0,3),(1,9),(2,37)],0,0⟩),
 (46,⟨3,1,24,[.nil],[],48,0⟩),
 (85,⟨3,1,24,[.nil],[],92,0⟩),
 (22,⟨3,1,24,[.nil],[],30,0⟩),
 (44,⟨3,1,24,[.nil],[],3,0⟩),
 (90,⟨1,4,72,[.nil,.nil,.v (Go.Value.complex (Go.FloatKind.f64) 0 0),.v (Go.Value.int (Go.IntKind.i64) 0)],[(0,85),(1,22),(2,37),(3,38)],0,0⟩),
 (4,⟨0,1,1,[.v (Go.Value.bool false)],[],0,0⟩),
 (28,⟨2,6,48,[.v (Go.Value.int (Go.IntKind.i64) 0),.v (Go.Value.int (Go.IntKind.i64) 0),.v (Go.Value.int (Go.IntKind.i64) 0),.v (Go.Value.int (Go.IntKind.i64) 0),.v (Go.Value.int (Go.IntKind.i64) 0),.v (Go.Value.int (Go.IntKind.i64) 0)],[],25,3⟩),
 (98,⟨1,6,48,[.v (Go.Value.int (Go.IntKind.i64) 0),.v (Go.Value.int (Go.IntKind.i64) 0),.v (Go.Value.int (Go.IntKind.i64) 0),.v (Go.Value.int (Go.IntKind.i64) 0),.v (Go.Value.int (Go.IntKind.i64) 0),.v (Go.Value.int (Go.IntKind.i64) 0)],[(0,3),(1,3),(2,3),(3,3),(4,3),(5,3)],0,0⟩),
 (101,⟨1,12,96,[.v (Go.Value.int (Go.IntKind.i64) 0),.v (Go.Value.int (Go.IntKind.i64) 0),.v (Go.Value.bool false),.v (Go.Value.int (Go.IntKind.i64) 0),.v (Go.Value.int (Go.IntKind.i64) 0),.v (Go.Value.bool false),.v (Go.Value.int (Go.IntKind.i64) 0),.v (Go.Value.int (Go.IntKind.i64) 0),.v (Go.Value.bool false),.v (Go.Value.int (Go.IntKind.i64) 0),.v (Go.Value.int (Go.IntKind.i64) 0),.v (Go.Value.bool false)],[(0,48),(3,48),(6,48),(9,48)],0,0⟩),
 (37,⟨0,1,16,[.v (Go.Value.complex (Go.FloatKind.f64) 0 0)],[],0,0⟩),
 (118,⟨3,1,24,[.nil],[],25,0⟩),
 (111,⟨3,1,24,[.nil],[],5,0⟩),
 (38,⟨0,1,8,[.v (Go.Value.int (Go.IntKind.i64) 0)],[],0,0⟩),
 (62,⟨1,12,96,[.v (Go.Value.int (Go.IntKind.i64) 0),.v (Go.Value.int (Go.IntKind.i64) 0),.v (Go.Value.bool false),.v (Go.Value.int (Go.IntKind.i64) 0),.v (Go.Value.int (Go.IntKind.i64) 0),.v (Go.Value.bool false),.v (Go.Value.int (Go.IntKind.i64) 0),.v (Go.Value.int (Go.IntKind.i64) 0),.v (Go.Value.bool false),.v (Go.Value.int (Go.IntKind.i64) 0),.v (Go.Value.int (Go.IntKind.i64) 0),.v (Go.Value.bool false)],[(0,48),(3,48),(6,48),(9,48)],0,0⟩),
 (5,⟨0,1,1,[.v (Go.Value.int (Go.IntKind.u8) 0)],[],0,0⟩),
 (119,⟨2,3,48,[.str [],.str [],.str []],[],9,3⟩),
 (166,⟨2,2,16,[.v (Go.Value.int (Go.IntKind.i64) 0),.v (Go.Value.int (Go.IntKind.i64) 0)],[],3,2⟩),
 (157,⟨0,1,8,[.v (Go.Value.float (Go.FloatKind.f64) 0)],[],0,0⟩),
 (113,⟨1,2,32,[.v (Go.Value.pointer none),.nil],[(0,110),(1,111)],0,0⟩),
 (189,⟨0,1,4,[.v (Go.Value.int (Go.IntKind.u32) 0)],[],0,0⟩),
 (43,⟨3,1,24,[.nil],[],98,0⟩),
 (170,⟨0,1,8,[.v (Go.Value.int (Go.IntKind.u64) 0)],[],0,0⟩),
 (110,⟨0,1,8,[.v (Go.Value.pointer none)],[],0,0⟩)]
theorem ZxB:Ye Tryz.prog Xd:=
 Z3 (by kernel_rfl)<|
 Z3 (by kernel_rfl)<|
 Z3 (by kernel_rfl)<|
 Z3 (by kernel_rfl)<|
 Z3 (by kernel_rfl)<|
 Z3 (by kernel_rfl)<|
 Z3 (by kernel_rfl)<|
 Z3 (by kernel_rfl)<|
 Z3 (by kernel_rfl)<|
 Z3 (by kernel_rfl)<|
 Z3 (by kernel_rfl)<|
 Z3 (by kernel_rfl)<|
 Z3 (by kernel_rfl)<|
 Z3 (by kernel_rfl)<|
 Z3 (by kernel_rfl)<|
 Z3 (by kernel_rfl)<|
 Z3 (by kernel_rfl)<|
 Z3 (by kernel_rfl)<|
 Z3 (by kernel_rfl)<|
 Z3 (by kernel_rfl)<|
 Z3 (by kernel_rfl)<|
 Z3 (by kernel_rfl)<|
 Z3 (by kernel_rfl)<|
 Z3 (by kernel_rfl)<|
 Z3 (by kernel_rfl)<|
 Z3 (by kernel_rfl)<|
 Z3 (by kernel_rfl)<|
 Z3 (by kernel_rfl)<|
 Z3 (by kernel_rfl)<|
 Z3 (by kernel_rfl)<|
 Z3 (by kernel_rfl)<|
 Z3 (by kernel_rfl)<|
 Z3 (by kernel_rfl)<|
 Z3 (by kernel_rfl)<|
 Z3 (by kernel_rfl)<|
 ZwY
noncomputable def ZyP:List (Nat×Func):=[(3,Tryz.f3),(4,Tryz.f4),(5,Tryz.f5),(6,Tryz.f6),(7,Tryz.f7),(8,Tryz.f8),(9,Tryz.f9),(10,Tryz.f10),(12,Tryz.f12),(11,Tryz.f11),(13,Tryz.f13),(14,Tryz.f14),(15,Tryz.f15),(16,Tryz.f16),(17,Tryz.f17),(18,Tryz.f18),(19,Tryz.f19),(20,Tryz.f20),(21,Tryz.f21),(22,Tryz.f22),(23,Tryz.f23),(25,Tryz.f25),(24,Tryz.f24),(26,Tryz.f26),(27,Tryz.f27),(28,Tryz.f28),(29,Tryz.f29),(30,Tryz.f30),(32,Tryz.f32),(31,Tryz.f31),(33,Tryz.f33),(34,Tryz.f34),(35,Tryz.f35),(38,Tryz.f38),(37,Tryz.f37),(36,Tryz.f36),(39,Tryz.f39),(40,Tryz.f40),(41,Tryz.f41),(42,Tryz.f42),(43,Tryz.f43),(44,Tryz.f44),(45,Tryz.f45),(46,Tryz.f46),(47,Tryz.f47),(48,Tryz.f48),(49,Tryz.f49),(50,Tryz.f50),(51,Tryz.f51),(52,Tryz.f52),(53,Tryz.f53),(54,Tryz.f54),(55,Tryz.f55),(56,Tryz.f56),(57,Tryz.f57),(58,Tryz.f58),(65,Tryz.f65),(59,Tryz.f59),(60,Tryz.f60),(61,Tryz.f61),(62,Tryz.f62),(63,Tryz.f63),(64,Tryz.f64),(66,Tryz.f66),(67,Tryz.f67),(68,Tryz.f68),(70,Tryz.f70),(69,Tryz.f69),(71,Tryz.f71),(73,Tryz.f73),(75,Tryz.f75),(74,Tryz.f74),(77,Tryz.f77),(78,Tryz.f78),(79,Tryz.f79),(81,Tryz.f81),(82,Tryz.f82),(80,Tryz.f80),(83,Tryz.f83),(84,Tryz.f84),(85,Tryz.f85),(86,Tryz.f86),(87,Tryz.f87),(88,Tryz.f88),(89,Tryz.f89),(90,Tryz.f90),(91,Tryz.f91),(92,Tryz.f92),(93,Tryz.f93),(94,Tryz.f94),(95,Tryz.f95),(96,Tryz.f96),(97,Tryz.f97),(98,Tryz.f98),(99,Tryz.f99),(100,Tryz.f100),(101,Tryz.f101),(102,Tryz.f102),(103,Tryz.f103),(104,Tryz.f104),(105,Tryz.f105),(106,Tryz.f106),(107,Tryz.f107),(108,Tryz.f108),(109,Tryz.f109),(110,Tryz.f110),(111,Tryz.f111),(112,Tryz.f112),(113,Tryz.f113),(114,Tryz.f114),(115,Tryz.f115),(116,Tryz.f116),(117,Tryz.f117),(118,Tryz.f118),(119,Tryz.f119),(120,Tryz.f120),(121,Tryz.f121),(122,Tryz.f122),(123,Tryz.f123),(124,Tryz.f124),(125,Tryz.f125),(126,Tryz.f126),(76,Tryz.f76),(130,Tryz.f130),(131,Tryz.f131),(136,Tryz.f136),(137,Tryz.f137),(138,Tryz.f138),(135,Tryz.f135),(140,Tryz.f140),(141,Tryz.f141),(142,Tryz.f142),(143,Tryz.f143),(144,Tryz.f144),(145,Tryz.f145),(146,Tryz.f146),(147,Tryz.f147),(148,Tryz.f148),(149,Tryz.f149),(150,Tryz.f150),(151,Tryz.f151),(152,Tryz.f152),(133,Tryz.f133),(134,Tryz.f134),(155,Tryz.f155),(132,Tryz.f132),(156,Tryz.f156),(157,Tryz.f157),(158,Tryz.f158),(165,Tryz.f165),(139,Tryz.f139),(166,Tryz.f166),(167,Tryz.f167),(169,Tryz.f169),(168,Tryz.f168),(170,Tryz.f170),(171,Tryz.f171),(172,Tryz.f172),(173,Tryz.f173),(174,Tryz.f174),(182,Tryz.f182),(188,Tryz.f188),(186,Tryz.f186),(189,Tryz.f189),(206,Tryz.f206),(208,Tryz.f208),(209,Tryz.f209),(222,Tryz.f222)]
theorem ZxC:ZmR Tryz.prog ZyP:=
 Zc Tryz.func3 Tryz.call3<|
 Zc Tryz.func4 Tryz.call4<|
 Zc Tryz.func5 Tryz.call5<|
 Zc Tryz.func6 Tryz.call6<|
 Zc Tryz.func7 Tryz.call7<|
 Zc Tryz.func8 Tryz.call8<|
 Zc Tryz.func9 Tryz.call9<|
 Zc Tryz.func10 Tryz.call10<|
 Zc Tryz.func12 Tryz.call12<|
 Zc Tryz.func11 Tryz.call11<|
 Zc Tryz.func13 Tryz.call13<|
 Zc Tryz.func14 Tryz.call14<|
 Zc Tryz.func15 Tryz.call15<|
 Zc Tryz.func16 Tryz.call16<|
 Zc Tryz.func17 Tryz.call17<|
 Zc Tryz.func18 Tryz.call18<|
 Zc Tryz.func19 Tryz.call19<|
 Zc Tryz.func20 Tryz.call20<|
 Zc Tryz.func21 Tryz.call21<|
 Zc Tryz.func22 Tryz.call22<|
 Zc Tryz.func23 Tryz.call23<|
 Zc Tryz.func25 Tryz.call25<|
 Zc Tryz.func24 Tryz.call24<|
 Zc Tryz.func26 Tryz.call26<|
 Zc Tryz.func27 Tryz.call27<|
 Zc Tryz.func28 Tryz.call28<|
 Zc Tryz.func29 Tryz.call29<|
 Zc Tryz.func30 Tryz.call30<|
 Zc Tryz.func32 Tryz.call32<|
 Zc Tryz.func31 Tryz.call31<|
 Zc Tryz.func33 Tryz.call33<|
 Zc Tryz.func34 Tryz.call34<|
 Zc Tryz.func35 Tryz.call35<|
 Zc Tryz.func38 Tryz.call38<|
 Zc Tryz.func37 Tryz.call37<|
 Zc Tryz.func36 Tryz.call36<|
 Zc Tryz.func39 Tryz.call39<|
 Zc Tryz.func40 Tryz.call40<|
 Zc Tryz.func41 Tryz.call41<|
 Zc Tryz.func42 Tryz.call42<|
 Zc Tryz.func43 Tryz.call43<|
 Zc Tryz.func44 Tryz.call44<|
 Zc Tryz.func45 Tryz.call45<|
 Zc Tryz.func46 Tryz.call46<|
 Zc Tryz.func47 Tryz.call47<|
 Zc Tryz.func48 Tryz.call48<|
 Zc Tryz.func49 Tryz.call49<|
 Zc Tryz.func50 Tryz.call50<|
 Zc Tryz.func51 Tryz.call51<|
 Zc Tryz.func52 Tryz.call52<|
 Zc Tryz.func53 Tryz.call53<|
 Zc Tryz.func54 Tryz.call54<|
 Zc Tryz.func55 Tryz.call55<|
 Zc Tryz.func56 Tryz.call56<|
 Zc Tryz.func57 Tryz.call57<|
 Zc Tryz.func58 Tryz.call58<|
 Zc Tryz.func65 Tryz.call65<|
 Zc Tryz.func59 Tryz.call59<|
 Zc Tryz.func60 Tryz.call60<|
 Zc Tryz.func61 Tryz.call61<|
 Zc Tryz.func62 Tryz.call62<|
 Zc Tryz.func63 Tryz.call63<|
 Zc Tryz.func64 Tryz.call64<|
 Zc Tryz.func66 Tryz.call66<|
 Zc Tryz.func67 Tryz.call67<|
 Zc Tryz.func68 Tryz.call68<|
 Zc Tryz.func70 Tryz.call70<|
 Zc Tryz.func69 Tryz.call69<|
 Zc Tryz.func71 Tryz.call71<|
 Zc Tryz.func73 Tryz.call73<|
 Zc Tryz.func75 Tryz.call75<|
 Zc Tryz.func74 Tryz.call74<|
 Zc Tryz.func77 Tryz.call77<|
 Zc Tryz.func78 Tryz.call78<|
 Zc Tryz.func79 Tryz.call79<|
 Zc Tryz.func81 Tryz.call81<|
 Zc Tryz.func82 Tryz.call82<|
 Zc Tryz.func80 Tryz.call80<|
 Zc Tryz.func83 Tryz.call83<|
 Zc Tryz.func84 Tryz.call84<|
 Zc Tryz.func85 Tryz.call85<|
 Zc Tryz.func86 Tryz.call86<|
 Zc Tryz.func87 Tryz.call87<|
 Zc Tryz.func88 Tryz.call88<|
 Zc Tryz.func89 Tryz.call89<|
 Zc Tryz.func90 Tryz.call90<|
 Zc Tryz.func91 Tryz.call91<|
 Zc Tryz.func92 Tryz.call92<|
 Zc Tryz.func93 Tryz.call93<|
 Zc Tryz.func94 Tryz.call94<|
 Zc Tryz.func95 Tryz.call95<|
 Zc Tryz.func96 Tryz.call96<|
 Zc Tryz.func97 Tryz.call97<|
 Zc Tryz.func98 Tryz.call98<|
 Zc Tryz.func99 Tryz.call99<|
 Zc Tryz.func100 Tryz.call100<|
 Zc Tryz.func101 Tryz.call101<|
 Zc Tryz.func102 Tryz.call102<|
 Zc Tryz.func103 Tryz.call103<|
 Zc Tryz.func104 Tryz.call104<|
 Zc Tryz.func105 Tryz.call105<|
 Zc Tryz.func106 Tryz.call106<|
 Zc Tryz.func107 Tryz.call107<|
 Zc Tryz.func108 Tryz.call108<|
 Zc Tryz.func109 Tryz.call109<|
 Zc Tryz.func110 Tryz.call110<|
 Zc Tryz.func111 Tryz.call111<|
 Zc Tryz.func112 Tryz.call112<|
 Zc Tryz.func113 Tryz.call113<|
 Zc Tryz.func114 Tryz.call114<|
 Zc Tryz.func115 Tryz.call115<|
 Zc Tryz.func116 Tryz.call116<|
 Zc Tryz.func117 Tryz.call117<|
 Zc Tryz.func118 Tryz.call118<|
 Zc Tryz.func119 Tryz.call119<|
 Zc Tryz.func120 Tryz.call120<|
 Zc Tryz.func121 Tryz.call121<|
 Zc Tryz.func122 Tryz.call122<|
 Zc Tryz.func123 Tryz.call123<|
 Zc Tryz.func124 Tryz.call124<|
 Zc Tryz.func125 Tryz.call125<|
 Zc Tryz.func126 Tryz.call126<|
 Zc Tryz.func76 Tryz.call76<|
 Zc Tryz.func130 Tryz.call130<|
 Zc Tryz.func131 Tryz.call131<|
 Zc Tryz.func136 Tryz.call136<|
 Zc Tryz.func137 Tryz.call137<|
 Zc Tryz.func138 Tryz.call138<|
 Zc Tryz.func135 Tryz.call135<|
 Zc Tryz.func140 Tryz.call140<|
 Zc Tryz.func141 Tryz.call141<|
 Zc Tryz.func142 Tryz.call142<|
 Zc Tryz.func143 Tryz.call143<|
 Zc Tryz.func144 Tryz.call144<|
 Zc Tryz.func145 Tryz.call145<|
 Zc Tryz.func146 Tryz.call146<|
 Zc Tryz.func147 Tryz.call147<|
 Zc Tryz.func148 Tryz.call148<|
 Zc Tryz.func149 Tryz.call149<|
 Zc Tryz.func150 Tryz.call150<|
 Zc Tryz.func151 Tryz.call151<|
 Zc Tryz.func152 Tryz.call152<|
 Zc Tryz.func133 Tryz.call133<|
 Zc Tryz.func134 Tryz.call134<|
 Zc Tryz.func155 Tryz.call155<|
 Zc Tryz.func132 Tryz.call132<|
 Zc Tryz.func156 Tryz.call156<|
 Zc Tryz.func157 Tryz.call157<|
 Zc Tryz.func158 Tryz.call158<|
 Zc Tryz.func165 Tryz.call165<|
 Zc Tryz.func139 Tryz.call139<|
 Zc Tryz.func166 Tryz.call166<|
 Zc Tryz.func167 Tryz.call167<|
 Zc Tryz.func169 Tryz.call169<|
 Zc Tryz.func168 Tryz.call168<|
 Zc Tryz.func170 Tryz.call170<|
 Zc Tryz.func171 Tryz.call171<|
 Zc Tryz.func172 Tryz.call172<|
 Zc Tryz.func173 Tryz.call173<|
 Zc Tryz.func174 Tryz.call174<|
 Zc Tryz.func182 Tryz.call182<|
 Zc Tryz.func188 Tryz.call188<|
 Zc Tryz.func186 Tryz.call186<|
 Zc Tryz.func189 Tryz.call189<|
 Zc Tryz.func206 Tryz.call206<|
 Zc Tryz.func208 Tryz.call208<|
 Zc Tryz.func209 Tryz.call209<|
 Zc Tryz.func222 Tryz.call222<|
 ZuJ
def ZyQ:List (Nat×List Nat):=[(25,[0,0]),(32,[1,0,0,0,0,0,0,0,0,0,0,0,0,2]),(48,[0,0,1]),(75,[1,1,0,0,1,0,0,1,0,0,1,0,0,1,0,0,1,0,0,1,0,0,1])]
theorem ZxD:ZmS Tryz.prog ZyQ:=
 Zc8 (ZdT (d:=8) (by kernel_rfl) (by kernel_rfl) (fun w=>by simp[isAgg,run_underlying Tryz.underlying25]) (i:=(Tryz.prog.info? 25).get (by kernel_rfl)) (by kernel_rfl) (by kernel_rfl) (by kernel_rfl))<|
 Zc8 (ZdT (d:=8) (by kernel_rfl) (by kernel_rfl) (fun w=>by simp[isAgg,run_underlying Tryz.underlying32]) (i:=(Tryz.prog.info? 32).get (by kernel_rfl)) (by kernel_rfl) (by kernel_rfl) (by kernel_rfl))<|
 Zc8 (ZdT (d:=8) (by kernel_rfl) (by kernel_rfl) (fun w=>by simp[isAgg,run_underlying Tryz.underlying48]) (i:=(Tryz.prog.info? 48).get (by kernel_rfl)) (by kernel_rfl) (by kernel_rfl) (by kernel_rfl))<|
 Zc8 (ZdT (d:=8) (by kernel_rfl) (by kernel_rfl) (fun w=>by simp[isAgg,run_underlying Tryz.underlying75]) (i:=(Tryz.prog.info? 75).get (by kernel_rfl)) (by kernel_rfl) (by kernel_rfl) (by kernel_rfl))<|
 ZuK
def Zv9:List (Nat×IntKind):=[(3,Go.IntKind.i64),(5,Go.IntKind.u8),(170,Go.IntKind.u64),(189,Go.IntKind.u32)]
theorem ZvA:Zj2 Tryz.prog Zv9:=
 ZbA Tryz.underlying3<|
 ZbA Tryz.underlying5<|
 ZbA Tryz.underlying170<|
 ZbA Tryz.underlying189<|
 Zsl
def ZvB:List (Nat×FloatKind):=[(157,Go.FloatKind.f64)]
theorem ZvC:Zj8 Tryz.prog ZvB:=
 Zqz Tryz.underlying157<|
 Zsx
theorem ZvD:ZuQ Tryz.prog []:=
 Zsy
noncomputable def ZyR:Nat→List PV→Option PV:=fun _ _=>none
theorem ZxE:ZyG Tryz.prog ZyR:=ZuR
noncomputable def evEnv:Env:=⟨Xd,ZyQ,[4],Zv9,ZvB,[],ZyP,[49,50,51,52,107,109,110,155],[],ZyR,[69],[127],[(72,5)],[]⟩
theorem ZxF:ZmV Tryz.prog [127]:=
 Zs2 (ZzC (ρ:=Tryz.lays105_ren) {Tryz.lays105 with} Tryz.Builder_Extra_105.toX72 rfl Tryz.call127)<|
 ZuW
theorem ZvE:ZhB Tryz.prog [(72,5)]:=
 Zot (ZuV (ρ:=Tryz.lays105_ren) {Tryz.lays105 with} Tryz.Builder_Extra_105 Tryz.call72)<|
 Zq0
theorem ZsY:∀T,has T [4]=true→Tryz.prog.underlying T=some .bool:=by
 intro T h
 have h:=YW.1 h
 simp only[Q9_,List.not_mem_nil,or_false] at h
 subst h;exact Tryz.underlying4
theorem Zs:EnvOk Tryz.prog evEnv:=⟨ZxB,by kernel_rfl,ZxD,ZsY,ZvA,ZvC,ZvD,ZxE,ZxF,ZvE,ZxC⟩
end Go.Proofs.YtgfgjabeooohhaaGreatDoor
namespace Go.Men
open Go.Ev Go.Proofs Go.Proofs.YtgfgjabeooohhaaGreatDoor
def e86:Ent:=fun l_=>EA cI (fun n=>EZ (.v (.bool (inB n))) []) l_ []
def Z0R:Ent:=fun l_=>EA cI (fun n=>EZ (.v (.bool (inB n))) []) l_ []
def e40:Ent:=fun l_=>EA cIv (fun a=>EZ (.v (.bool (right a))) []) l_ []
def e83:Ent:=fun l_=>EA cIv (fun a=>EZ (.v (.bool (right a))) []) l_ []
def e65:Ent:=fun l_=>EZ (.agg (Iv.enc none')) [] l_ []
def e98:Ent:=fun l_=>EZ (.agg (Iv.enc none')) [] l_ []
def e84:Ent:=fun l_=>EA cI (fun lo=>EA cI (fun hi=>EZ (.agg (Iv.enc (of lo hi))) [])) l_ []
def Z2I:Ent:=fun l_=>EA cI (fun lo=>EA cI (fun hi=>EZ (.agg (Iv.enc (of lo hi))) [])) l_ []
def e60:Ent:=fun l_=>EA cI (fun n=>EZ (.agg (Iv.enc (point n))) []) l_ []
def e88:Ent:=fun l_=>EA cI (fun n=>EZ (.agg (Iv.enc (point n))) []) l_ []
def e38:Ent:=fun l_=>EA cI (fun n=>EZ (.agg (Iv.enc (whole n))) []) l_ []
def Z2J:Ent:=fun l_=>EA cI (fun a=>EA cI (fun b=>EZ (.v (.int .i64 (floor a b))) [-4611686018427387904≤a∧a≤4611686018427387904])) l_ []
def Z2K:Ent:=fun l_=>EA cI (fun a=>EA cI (fun b=>EZ (.v (.int .i64 (floor a b))) [-4611686018427387904≤a∧a≤4611686018427387904])) l_ []
def e85:Ent:=fun l_=>EA cIv (fun a=>EA cIv (fun b=>EZ (.v (.bool (both a b))) [])) l_ []
def e67:Ent:=fun l_=>EA cIv (fun a=>EZ (.agg (Iv.enc (neg a))) []) l_ []
def e37:Ent:=fun l_=>EA cIv (fun a=>EA cIv (fun b=>EZ (.agg (Iv.enc (add a b))) [])) l_ []
def e91:Ent:=fun l_=>EA cIv (fun a=>EA cIv (fun b=>EZ (.agg (Iv.enc (add a b))) [])) l_ []
def e27:Ent:=fun l_=>EA cIv (fun a=>EA cIv (fun b=>EZ (.agg (Iv.enc (sub a b))) [])) l_ []
def e58:Ent:=fun l_=>EA cIv (fun a=>EA cIv (fun b=>EZ (.agg (Iv.enc (sub a b))) [])) l_ []
def Z2L:Ent:=fun l_=>EA cIv (fun a=>EA cI (fun n=>EZ (.v (.bool (has a n))) [])) l_ []
def Z2M:Ent:=fun l_=>EA cI (fun a=>EA cI (fun b=>EA cB (fun up=>EZ (.tup [.v (.int .i64 ((rounded a b up).1)),.v (.bool ((rounded a b up).2))]) [-4611686018427387904≤a∧a≤4611686018427387904,b≠0]))) l_ []
def Z2N:Ent:=fun l_=>EA cI (fun a=>EA cI (fun b=>EZ (.v (.int .i64 (up1 a b))) [-4611686018427387904≤a∧a≤4611686018427387904,-4611686018427387904≤b∧b≤4611686018427387904,b≠0])) l_ []
def Z0S:Ent:=fun l_=>EA cI (fun n=>EZ (.tup [.v (.int .i64 ((told n).1)),.v (.bool ((told n).2))]) []) l_ []
def Z2O:Ent:=fun l_=>EA cI (fun a=>EA cI (fun b=>EA cB (fun up=>EZ (.tup [.v (.int .i64 ((mul a b up).1)),.v (.bool ((mul a b up).2))]) []))) l_ []
def Z2P:Ent:=fun l_=>EA cI (fun a=>EA cI (fun b=>EA cB (fun up=>EZ (.tup [.v (.int .i64 ((mul a b up).1)),.v (.bool ((mul a b up).2))]) []))) l_ []
def Z2Q:Ent:=fun l_=>EA cI (fun a=>EA cI (fun b=>EA cB (fun up=>EZ (.tup [.v (.int .i64 ((div a b up).1)),.v (.bool ((div a b up).2))]) []))) l_ []
def Z2R:Ent:=fun l_=>EA cI (fun a=>EA cI (fun b=>EA cB (fun up=>EZ (.tup [.v (.int .i64 ((div a b up).1)),.v (.bool ((div a b up).2))]) []))) l_ []
def Zl0:Ent
 | [.fn 126 [],.agg [.v (.int .i64 p1),.v (.int .i64 p2),.v (.bool p3)],.agg [.v (.int .i64 p4),.v (.int .i64 p5),.v (.bool p6)]]=>some (.agg (Iv.enc (ends mul (⟨p1,p2,p3⟩:Iv) (⟨p4,p5,p6⟩:Iv))),[])
 | _=>none
def Zl1:Ent
 | [.fn 123 [],.agg [.v (.int .i64 p1),.v (.int .i64 p2),.v (.bool p3)],.agg [.v (.int .i64 p4),.v (.int .i64 p5),.v (.bool p6)]]=>some (.agg (Iv.enc (ends div (⟨p1,p2,p3⟩:Iv) (⟨p4,p5,p6⟩:Iv))),[])
 | _=>none
def Z2S:Ent:=eOr Zl0 (Zl1)
def ZiG:Ent
 | [.agg [.v (.int .i64 p1),.v (.int .i64 p2),.v (.bool p3)],.agg [.v (.int .i64 p4),.v (.int .i64 p5),.v (.bool p6)],.v (.bool false)]=>some (.agg (Iv.enc (ends mul (⟨p1,p2,p3⟩:Iv) (⟨p4,p5,p6⟩:Iv))),[])
 | _=>none
def ZiH:Ent
 | [.agg [.v (.int .i64 p1),.v (.int .i64 p2),.v (.bool p3)],.agg [.v (.int .i64 p4),.v (.int .i64 p5),.v (.bool p6)],.v (.bool true)]=>some (.agg (Iv.enc (ends div (⟨p1,p2,p3⟩:Iv) (⟨p4,p5,p6⟩:Iv))),[])
 | _=>none
def Z2T:Ent:=eOr ZiG (ZiH)
def Z2U:Ent:=fun l_=>EA cI (fun a=>EA cB (fun up=>EZ (.tup [.v (.int .i64 ((root a up).1)),.v (.bool ((root a up).2))]) [])) l_ []
def Z2V:Ent:=fun l_=>EA cI (fun a=>EA cB (fun up=>EZ (.tup [.v (.int .i64 ((root a up).1)),.v (.bool ((root a up).2))]) [])) l_ []
def Z2W:Ent:=fun l_=>EA cI (fun n=>EZ (.v (.int .i64 (Zz n))) [0≤n∧n≤18]) l_ []
def e47:Ent:=fun l_=>EA cI (fun n=>EZ (.v (.int .i64 (Zz n))) [0≤n∧n≤18]) l_ []
def e66:Ent:=fun l_=>EA cIv (fun a=>EA cIv (fun b=>EZ (.agg (Iv.enc (Wi a b))) [])) l_ []
def Z2X:Ent:=fun l_=>EA cIv (fun a=>EA cIv (fun b=>EZ (.agg (Iv.enc (Wi a b))) [])) l_ []
def e63:Ent:=fun l_=>EA cIv (fun a=>EA cIv (fun b=>EZ (.agg (Iv.enc (ZE a b))) [])) l_ []
def e93:Ent:=fun l_=>EA cIv (fun a=>EA cIv (fun b=>EZ (.agg (Iv.enc (ZE a b))) [])) l_ []
def Z2Y:Ent:=fun l_=>EA cIv (fun a=>EZ (.agg (Iv.enc (sqr a))) []) l_ []
def e92:Ent:=fun l_=>EA cIv (fun a=>EZ (.agg (Iv.enc (sqr a))) []) l_ []
def Z2Z:Ent:=fun l_=>EA cIv (fun a=>EZ (.agg (Iv.enc (W3 a))) []) l_ []
def Z3a:Ent:=fun l_=>EA cIv (fun a=>EZ (.agg (Iv.enc (W3 a))) []) l_ []
def Z3b:Ent:=fun l_=>EA WR (fun d=>EZ (.v (.bool (Z6 d))) []) l_ []
def e46:Ent:=fun l_=>EA WR (fun d=>EZ (.v (.bool (Z6 d))) []) l_ []
def e59:Ent:=fun l_=>EA WR (fun d=>EZ (.agg (Iv.enc (Ze d))) []) l_ []
def e89:Ent:=fun l_=>EA WR (fun d=>EZ (.agg (Iv.enc (Ze d))) []) l_ []
def e54:Ent:=fun l_=>EA cI (fun n=>EA cI (fun low=>EA cI (fun high=>EZ (.v (.int .i64 (within n low high))) []))) l_ []
def e12:Ent:=fun l_=>EA cI (fun n=>EA cI (fun m=>EZ (.v (.int .i64 (pick n m))) [0 < m∧m≤4611686018427387904])) l_ []
def e55:Ent:=fun l_=>EA cI (fun n=>EZ (.v (.int .i64 (num n))) []) l_ []
def e17:Ent:=fun l_=>EA cI (fun x=>EA cI (fun w=>EZ (.agg (Iv.enc (wide x w))) [0≤w∧w≤1073741824])) l_ []
def e18:Ent:=fun l_=>EA cI (fun n=>EA cI (fun w=>EZ (.agg (Iv.enc (ZeF n w))) [])) l_ []
def e11:Ent:=fun l_=>EA cI (fun c=>EA cI (fun scale=>EZ (.agg (Dec.enc (hdec scale.toNat c scale))) [0≤scale∧scale≤18])) l_ []
def Z0T:Ent:=fun l_=>EA cU (fun c=>EZ (.v (.bool (Yw c))) []) l_ []
def Z3c:Ent:=fun l_=>EA cU (fun c=>EZ (.v (.bool (Xa c))) []) l_ []
def Z0U:Ent:=fun l_=>EA cU (fun c=>EZ (.v (.bool (Z1 c))) []) l_ []
def Z0V:Ent:=fun l_=>EA cS (fun s=>EZ (.v (.bool (Yq s))) []) l_ []
def e45:Ent:=fun l_=>EA cI (fun n=>EZ (.str (digits n)) [-1000000000000000000≤n∧n≤1000000000000000000]) l_ []
def e13:Ent:=fun l_=>EA WR (fun d=>EZ (.str (Wa d)) []) l_ []
def Z0W:Ent:=fun l_=>EA WR (fun d=>EZ (.v (.bool (printable d))) []) l_ []
def Z0X:Ent:=fun l_=>EA WR (fun d=>EZ (.v (.bool (decide (d.c > 0)))) []) l_ []
def e90:Ent:=fun l_=>EA WR (fun d=>EZ (.v (.bool (ZV d))) []) l_ []
def Z3d:Ent:=fun l_=>EA WR (fun d=>EZ (.agg (Dec.enc (ZcA d))) []) l_ []
def Z3e:Ent:=fun l_=>EA WR (fun a=>EA WR (fun b=>EZ (.v (.bool (ZT a b))) [])) l_ []
def e94:Ent:=fun l_=>EA (cL Glass.enc Glass.dec) (fun l=>EA cS (fun n=>EZ (.tup [.agg (Glass.enc ((Z8 l n).1)),.v (.bool ((Z8 l n).2))]) [l.length≤140737488355328])) l_ []
def e95:Ent:=fun l_=>EA (cG Glass.enc Glass.dec) (fun g=>EA cIv (fun w=>EZ (.agg (Iv.enc (W5 g w))) [])) l_ []
def e53:Ent:=fun l_=>EA (cL Face.enc Face.dec) (fun l=>EZ (.v (.bool (YL l))) [l.length≤140737488355328]) l_ []
def Z0Y:Ent:=fun l_=>EA (cG Face.enc Face.dec) (fun f=>EA (cL Glass.enc Glass.dec) (fun g=>EZ (.v (.bool (YE f g))) [g.length≤140737488355328])) l_ []
def e87:Ent:=fun l_=>EA (cG LensM.enc LensM.dec) (fun l=>EA (cL Glass.enc Glass.dec) (fun g=>EZ (.v (.bool (Xj l g))) [g.length≤140737488355328])) l_ []
def e96:Ent:=fun l_=>EA (cG SysM.enc SysM.dec) (fun s=>EZ (.v (.bool (WQ s))) [s.surfs.length≤140737488355328]) l_ []
def e41:Ent:=fun l_=>EA (cG LensM.enc LensM.dec) (fun l=>EA (cL Glass.enc Glass.dec) (fun g=>EA cIv (fun w=>EZ (.tup [.agg (SysM.enc ((XJ l g w).1)),.v (.int .i64 ((XJ l g w).2))]) [g.length≤140737488355328]))) l_ []
def e10:Ent:=fun l_=>EA (cL I.enc I.dec) (fun l=>EZ (.lst ((YM l).map Glass.enc)) [l.length≤140737488355328]) l_ []
def e16:Ent:=fun l_=>EA cI (fun back=>EA (cL RawFace.enc RawFace.dec) (fun l=>EA (cL Glass.enc Glass.dec) (fun g=>EA cI (fun most=>EZ (.agg (LensM.enc (Wc back l g most))) [l.length≤140737488355328∧g.length≤1000∧most≤1000])))) l_ []
def Z3f:Ent:=fun l_=>EA cS (fun s=>EA cS (fun c=>EZ (.str (ZjX s c)) [s.length≤4000000000∧c.length≤4000000000,Zah c=true])) l_ []
def Z3g:Ent:=fun l_=>EA cS (fun s=>EA cS (fun c=>EZ (.str (ZaX s c)) [s.length≤4000000000∧c.length≤4000000000,Zah c=true])) l_ []
def Z3h:Ent:=fun l_=>EA cS (fun s=>EZ (.tup [.v (.int .i64 ((ZbF s,()).1)),.v .nilIface]) [ZoH s]) l_ []
def Z3i:Ent:=fun l_=>EA cS (fun s=>EA cI (fun n=>EZ (.str (Zlw s n)) [0≤n∧n≤4000000000∧s.length *n.toNat≤4000000000])) l_ []
def Z3j:Ent:=fun l_=>EA cS (fun s=>EA cU (fun c=>EZ (.v (.int .i64 (ixM c s))) [])) l_ []
def Z3k:Ent:=fun l_=>EA cI (fun n=>EZ (.str (digits n)) [-1000000000000000000≤n∧n≤1000000000000000000]) l_ []
def Z3l:Ent:=fun l_=>EA cS (fun s=>EA cU (fun c=>EZ (.v (.int .i64 (ixM c s))) [])) l_ []
def Z3m:Ent:=fun l_=>EA cS (fun s=>EA cS (fun p=>EZ (.v (.bool (J1 s p))) [])) l_ []
def Z3n:Ent:=fun l_=>EA cS (fun s=>EA cS (fun p=>EZ (.tup [.str ((ZN s p).1),.v (.bool ((ZN s p).2))]) [])) l_ []
def Z3o:Ent:=fun l_=>EA cS (fun s=>EA cS (fun p=>EZ (.tup [.str ((ZN s p).1),.v (.bool ((ZN s p).2))]) [])) l_ []
def Z0Z:Ent
 | [.str p1,.str [46]]=>some (.v (.int .i64 (ixM 46 p1)),[])
 | _=>none
def Z1a:Ent
 | [.str p1,.str [46]]=>some (.tup [.str ((ZK p1).1),.str ((ZK p1).2.1),.v (.bool ((ZK p1).2.2))],[p1.length≤4000000000])
 | _=>none
def Z1b:Ent
 | [.str p1,.str [46]]=>some (.tup [.str ((ZK p1).1),.str ((ZK p1).2.1),.v (.bool ((ZK p1).2.2))],[p1.length≤4000000000])
 | _=>none
def Z3p:Ent:=fun l_=>EA cS (fun s=>EA cI (fun n=>EZ (.v (.bool (figs s n))) [s.length≤4000000000])) l_ []
def Z1c:Ent:=fun l_=>EA cU (fun c=>EZ (.v (.bool (Yw c))) []) l_ []
def Z1d:Ent:=fun l_=>EA cU (fun c=>EZ (.v (.bool (Xa c))) []) l_ []
def Z1e:Ent:=fun l_=>EA cU (fun c=>EZ (.v (.bool (Z1 c))) []) l_ []
def Z1f:Ent:=fun l_=>EA cU (fun c=>EZ (.v (.bool (Zt c))) []) l_ []
def Z1g:Ent:=fun l_=>EA cU (fun c=>EZ (.v (.bool (X7 c))) []) l_ []
def e99:Ent:=fun l_=>EA cI (fun a=>EA cI (fun b=>EZ (.v (.complex .f64 (Yr a b).re (Yr a b).im)) [])) l_ []
def ZiI:Ent
 | [.str p1,.v (.int .i64 p2),.fn 103 []]=>some (.v (.int .i64 (Zm X7 p1 (p2+1))),[0≤p2∧p2 < p1.length∧p1.length≤4000])
 | _=>none
def ZgN:Ent
 | [.str p1,.v (.int .i64 p2),.fn 104 []]=>some (.v (.int .i64 (Zm Z1 p1 (p2+1))),[0≤p2∧p2 < p1.length∧p1.length≤4000])
 | _=>none
def ZiJ:Ent
 | [.str p1,.v (.int .i64 p2),.fn 105 []]=>some (.v (.int .i64 (Zm Zt p1 (p2+1))),[0≤p2∧p2 < p1.length∧p1.length≤4000])
 | _=>none
def Z1h:Ent:=eOr ZiI (eOr ZgN (ZiJ))
def Z1i:Ent:=fun l_=>EA cS (fun s=>EZ (.tup [.agg (Dec.enc ((X6 s).1)),.v (.bool ((X6 s).2))]) [s.length≤4000]) l_ []
def e48:Ent:=fun l_=>EA cS (fun s=>EZ (.tup [.lst (((tokens s).1).map Tok.enc),.v (.complex .f64 ((tokens s).2.1).re ((tokens s).2.1).im),.v (.int .i64 ((tokens s).2.2))]) []) l_ []
def Z3q:Ent:=fun l_=>EA WR (fun a=>EA WR (fun b=>EZ (.v (.bool (ZT a b))) [])) l_ []
def e70:Ent:=fun l_=>EA WR (fun d=>EZ (.str (Wa d)) []) l_ []
def e71:Ent:=fun l_=>EZ (.agg (Dec.enc zeroDec)) [] l_ []
def Z3r:Ent:=fun l_=>EA WR (fun d=>EZ (.v (.bool (printable d))) []) l_ []
def e79:Ent:=fun l_=>EA WR (fun d=>EZ (.v (.bool (Ja d))) []) l_ []
def Z3s:Ent:=fun l_=>EA WR (fun d=>EZ (.v (.bool (ZT d zeroDec))) []) l_ []
def Z3t:Ent:=fun l_=>EA WR (fun a=>EA WR (fun b=>EZ (.v (.bool (ZjY a b))) [])) l_ []
def e78:Ent:=fun l_=>EA cS (fun s=>EZ (.v (.bool (Zcf s))) []) l_ []
def Z3u:Ent:=fun l_=>EA (cL Glass.enc Glass.dec) (fun l=>EA cS (fun n=>EZ (.tup [.agg (Glass.enc ((Z8 l n).1)),.v (.bool ((Z8 l n).2))]) [l.length≤140737488355328])) l_ []
def Z3v:Ent:=fun l_=>EA cS (fun n=>EA (cL Glass.enc Glass.dec) (fun g=>EZ (.v (.bool (ZgK n g))) [g.length≤140737488355328])) l_ []
def e76:Ent:=fun l_=>EA (cG Face.enc Face.dec) (fun f=>EA (cL Glass.enc Glass.dec) (fun g=>EZ (.v (.bool (ZU f g))) [g.length≤140737488355328])) l_ []
def e75:Ent:=fun l_=>EA (cG Face.enc Face.dec) (fun f=>EA (cP GL.enc GL.dec) (fun g=>EZ (.v (.bool (!ZU f g.g))) [g.g.length≤140737488355328])) l_ []
def e77:Ent:=fun l_=>EA (cG Face.enc Face.dec) (fun f=>EZ (.v (.bool (!f.stop))) []) l_ []
def ZoM:Ent
 | [.lst p1,.fn 75 [.lptr p2 0]]=>some (.v (.int .i64 (X2 (fun f=> !ZU f (GL.dec p2).g) (Zi Face.dec p1) 0)),[p1=(Zi Face.dec p1).map Face.enc,p2=GL.enc (GL.dec p2),(Zi Face.dec p1).length≤140737488355328∧(GL.dec p2).g.length≤140737488355328])
 | _=>none
def ZoN:Ent
 | [.lst p1,.fn 77 []]=>some (.v (.int .i64 (X2 (fun f=> !f.stop) (Zi Face.dec p1) 0)),[p1=(Zi Face.dec p1).map Face.enc,(Zi Face.dec p1).length≤140737488355328])
 | _=>none
def Z3w:Ent:=eOr ZoM (ZoN)
def ZoO:Ent
 | [.lst p1,.fn 75 [.lptr p2 0]]=>some (.v (.bool ((Zi Face.dec p1).any (fun f=> !ZU f (GL.dec p2).g))),[p1=(Zi Face.dec p1).map Face.enc,p2=GL.enc (GL.dec p2),(Zi Face.dec p1).length≤140737488355328∧(GL.dec p2).g.length≤140737488355328])
 | _=>none
def ZoP:Ent
 | [.lst p1,.fn 77 []]=>some (.v (.bool ((Zi Face.dec p1).any (fun f=> !f.stop))),[p1=(Zi Face.dec p1).map Face.enc,(Zi Face.dec p1).length≤140737488355328])
 | _=>none
def e74:Ent:=eOr ZoO (ZoP)
def e30:Ent:=fun l_=>EA (cG LensM.enc LensM.dec) (fun l=>EA (cL Glass.enc Glass.dec) (fun g=>EZ (.v (.bool (W6 l g))) [g.length≤140737488355328∧l.faces.length≤140737488355328])) l_ []
def Z3x:Ent:=fun l_=>EA (cG Glass.enc Glass.dec) (fun g=>EA cIv (fun w=>EZ (.agg (Iv.enc (W5 g w))) [])) l_ []
def e62:Ent:=fun l_=>EA cS (fun n=>EA (cL Glass.enc Glass.dec) (fun g=>EA cIv (fun w=>EZ (.agg (Iv.enc (Zdq n g w))) [g.length≤140737488355328]))) l_ []
def e61:Ent:=fun l_=>EA (cG Face.enc Face.dec) (fun f=>EZ (.agg (Surf.enc (ZaZ f Zaj (point 65536)))) []) l_ []
def Z1j:Ent:=fun l_=>EA cIv (fun a=>EZ (.v (.bool a.no)) []) l_ []
def Z1k:Ent
 | [.lst p1,.fn 125 []]=>some (.v (.int .i64 (X2 (fun f=>f.no) (Zi Iv.dec p1) 0)),[p1=(Zi Iv.dec p1).map Iv.enc,(Zi Iv.dec p1).length≤140737488355328])
 | _=>none
def Z1l:Ent
 | [.lst p1,.fn 125 []]=>some (.v (.bool ((Zi Iv.dec p1).any (fun f=>f.no))),[p1=(Zi Iv.dec p1).map Iv.enc,(Zi Iv.dec p1).length≤140737488355328])
 | _=>none
def e64:Ent:=fun l_=>EA (cG Surf.enc Surf.dec) (fun s=>EZ (.v (.bool (Xp s))) []) l_ []
def e39:Ent:=fun l_=>EA (cG SysM.enc SysM.dec) (fun s=>EZ (.agg (Iv.enc (YC s))) [s.surfs.length≤1000]) l_ []
def e44:Ent:=fun l_=>EA (cG SysM.enc SysM.dec) (fun s=>EZ (.agg (Iv.enc (YC s))) [s.surfs.length≤1000]) l_ []
def e24:Ent:=fun l_=>EA (cG LensM.enc LensM.dec) (fun l=>EA (cL Glass.enc Glass.dec) (fun g=>EA cIv (fun w=>EZ (.tup [.agg (SysM.enc ((Wd l g w).1)),.v (.int .i64 ((Wd l g w).2))]) [g.length≤140737488355328∧l.faces.length≤140737488355328]))) l_ []
def e97:Ent:=fun l_=>EA (cL Surf.enc Surf.dec) (fun a=>EA (cL Surf.enc Surf.dec) (fun b=>EZ (.v (.bool true)) [b=a∧a.length≤1000])) l_ []
def e43:Ent:=fun l_=>EA (cG SysM.enc SysM.dec) (fun a=>EA (cG SysM.enc SysM.dec) (fun b=>EZ (.v (.bool true)) [b=a∧a.surfs.length≤1000])) l_ []
def e42:Ent:=fun l_=>EA (cG SysM.enc SysM.dec) (fun a=>EA (cG SysM.enc SysM.dec) (fun b=>EZ (.v (.bool true)) [b=a∧a.surfs.length≤1000])) l_ []
def e14:Ent:=fun l_=>EA cS (fun s=>EA (cL Glass.enc Glass.dec) (fun g=>EZ (.tup [.agg (LensM.enc ((lens13,XD,0).1)),.v (.complex .f64 ((lens13,XD,0).2.1).re ((lens13,XD,0).2.1).im),.v (.int .i64 ((lens13,XD,0).2.2))]) [s=Zdr∧g=[]])) l_ []
def e34:Ent:=fun l_=>EZ (.v (.bool true)) [] l_ []
def e9:Ent:=fun l_=>EA cI (fun back=>EA (cL RawFace.enc RawFace.dec) (fun l=>EA (cL I.enc I.dec) (fun raw=>EA cI (fun a=>EA cI (fun b=>EA cI (fun lack=>EA cB (fun tame=>EZ (.v (.bool true)) [l.length≤140737488355328∧raw.length≤140737488355328]))))))) l_ []
theorem cf0{C:ZP}(hC:CSOk Tryz.prog C){f:Nat}{fn:Func}(hf:lk f evEnv.fns=some fn){args:List PV}{X:PV}(h:sxF evEnv C Zg4 Zg5 noG [] 2000 fn args (Qn X)):Con Tryz.prog f args X:=ZiF Zs hC ZR ZS ZX hf Zil h
theorem cfL{C:ZP}(hC:CSOk Tryz.prog C){f:Nat}{fn:Func}{LS:List (Nat×LSum)}(hL:ZQ Tryz.prog LS fn)(hf:lk f evEnv.fns=some fn){args:List PV}{X:PV}(h:sxF evEnv C Zg4 Zg5 noG LS 2000 fn args (Qn X)):Con Tryz.prog f args X:=ZiF Zs hC ZR ZS ZX hf hL h
abbrev ZiK(R_:Type):=Int→Int→Int→Bool→R_
def ZxG:ZiK St:=fun bit n r up=>⟨44,[(8,pI bit),(6,pI n),(7,pI r),(1,.p (vB up))],[],[],[],[]⟩
def ZoQ:KpH:=⟨⟨[8,6,7,1],[],[]⟩,[]⟩
def ZvF:KpH:=⟨⟨[7,6,1],[],[]⟩,[]⟩
abbrev ZvG:KpH:=kr0
def Zds:ZiK St:=fun bit n r up=>⟨44,[(7,.p (.v (.int .i64 (ZH (bit+1).toNat n r)))),(6,.p (.v (.int .i64 n))),(1,.p (.v (.bool up)))],[],[],[],[]⟩
def Zb3:ZiK Prop:=fun bit n r up=>(-1≤bit∧bit≤24)∧(0≤n∧n≤140737488355328)∧(0≤r∧r+2 ^ (bit+1).toNat≤33554432)∧((2:Int) ^ (bit+1).toNat∣r)
def ZoR:LSum:=LSg Xd 44 (fT 8 cI<|fT 6 cI<|fT 7 cI<|fT 1 cB<|fZ) [] [] ZoQ (V4 Zb3) fun y K=>K (.exit 0) (V4 Zds y)
abbrev ZgO(R_:Type):=Int→Int→Int→Bool→R_
def ZvH:ZgO St:=fun bit n r up=>⟨48,[(8,pI bit),(6,pI n),(7,pI r),(1,.p (vB up))],[],[],[],[]⟩
def Zme:KpH:=⟨⟨[8,6,7,1],[],[]⟩,[]⟩
def ZsZ:KpH:=⟨⟨[7,6,1],[],[]⟩,[]⟩
abbrev Zta:KpH:=kr0
def Zch:ZgO St:=fun bit n r up=>⟨48,[(7,.p (.v (.int .i64 (ZH (bit+1).toNat n r)))),(6,.p (.v (.int .i64 n))),(1,.p (.v (.bool up)))],[],[],[],[]⟩
def ZaC:ZgO Prop:=fun bit n r up=>(-1≤bit∧bit≤24)∧(0≤n∧n≤140737488355328)∧(0≤r∧r+2 ^ (bit+1).toNat≤33554432)
def Zmf:LSum:=LSg Xd 48 (fT 8 cI<|fT 6 cI<|fT 7 cI<|fT 1 cB<|fZ) [] [] Zme (V4 ZaC) fun y K=>K (.exit 0) (V4 Zch y)
abbrev ZgP(R_:Type):=Int→Int→Int→R_
def ZvI:ZgP St:=fun i out n=>⟨11,[(5,pI i),(3,pI out),(4,pI n)],[],[],[],[]⟩
def Zmg:KpH:=⟨⟨[5,3,4],[],[]⟩,[]⟩
def Ztb:KpH:=⟨⟨[3],[],[]⟩,[]⟩
abbrev Ztc:KpH:=kr0
def Zmh:ZgP St:=fun i out n=>⟨11,[(3,.p (.v (.int .i64 (Zz n))))],[],[],[],[]⟩
def Zci:ZgP Prop:=fun i out n=>(0≤i)∧(i≤n)∧(n≤18)∧(out=Zz i)
def Zmi:LSum:=LSg Xd 11 (fT 5 cI<|fT 3 cI<|fT 4 cI<|fZ) [] [] Zmg (V3 Zci) fun y K=>K (.exit 0) (V3 Zmh y)
abbrev Zl2(R_:Type):=Int→Int→R_
def Z0a:Zl2 St:=fun k out=>⟨11,[(0,pI k),(3,pI out)],[],[],[],[]⟩
def ZrH:KpH:=⟨⟨[0,3],[],[]⟩,[]⟩
def ZxH:KpH:=⟨⟨[3],[],[]⟩,[]⟩
abbrev ZxI:KpH:=kr0
def ZhN:Zl2 St:=fun k out=>⟨11,[(3,.p (.v (.int .i64 (out *Zz k))))],[],[],[],[]⟩
def ZhO:Zl2 Prop:=fun k out=>(0≤k∧k≤18)∧(1≤out∧out *Zz k≤1000000000000000000)
def ZrI:LSum:=LSg Xd 11 (fT 0 cI<|fT 3 cI<|fZ) [] [] ZrH (V2 ZhO) fun y K=>K (.exit 0) (V2 ZhN y)
abbrev ZiL(R_:Type):=Dec→Dec→R_
def ZxJ:ZiL St:=fun d z=>⟨27,[(5,.ptr 5 0),(4,.ptr 4 0)],[(5,Dec.enc d),(4,Dec.enc z)],[],[],[]⟩
def ZoS:KpH:=⟨⟨[5,4],[5,4],[]⟩,[]⟩
def ZvJ:KpH:=⟨⟨[4,5],[4,5],[]⟩,[]⟩
abbrev ZvK:KpH:=kr0
def Zdt:ZiL St:=fun d z=>⟨27,[(4,.ptr 4 0),(5,.ptr 5 0)],[(4,[.v (.int .i64 z.c),.v (.int .i64 z.scale)]),(5,[.v (.int .i64 ((hdec d.scale.toNat d.c d.scale).c)),.v (.int .i64 ((hdec d.scale.toNat d.c d.scale).scale))])],[],[],[]⟩
def Zdu:ZiL Prop:=fun d z=>(0≤d.scale∧d.scale≤18)
def ZoT:LSum:=LSg Xd 27 (fP 5 5 0<|fP 4 4 0<|fb 5 Dec.enc ZoL Zly<|fb 4 Dec.enc ZoL Zly<|fZ) [] [] ZoS (V2 Zdu) fun y K=>K (.exit 0) (V2 Zdt y)
abbrev Zba(R_:Type):=Int→(List UInt8)→R_
def Ztd:Zba St:=fun i s=>⟨29,[(3,pI i),(0,.p (.str s))],[],[],[],[]⟩
def Zka:KpH:=⟨⟨[3,0],[],[]⟩,[]⟩
def Zq7:KpH:=⟨⟨[],[],[]⟩,[]⟩
def Zq8:KpH:=⟨⟨[2],[],[]⟩,[]⟩
def Zf1:Zba St:=fun i s=>⟨29,[],[],[],[],[]⟩
def Zf2:Zba St:=fun i s=>⟨29,[(2,.p (.v (.bool false)))],[],[],[],[]⟩
def JN:Zba Prop:=fun i s=>(0≤i∧i≤s.length∧s.length≤20)
def WS:Zba Bool:=fun i s=> !((s.drop i.toNat).all Zfy)
def Zkb:LSum:=LSg Xd 29 (fT 3 cI<|fT 0 cS<|fZ) [] [] Zka (V2 JN) fun y K=>bif V2 WS y then K .ret (V2 Zf2 y) else K (.exit 0) (V2 Zf1 y)
abbrev Jb(R_:Type):=Int→(List Glass)→(List UInt8)→Glass→R_
def Zm9:Jb St:=fun i l n z=>⟨25,[(4,.ptr 4 0),(6,pI i),(0,.p (.lst (l.map Glass.enc))),(1,.p (.str n))],[(4,Glass.enc z)],[],[],[]⟩
def ZfQ:KpH:=⟨⟨[4,6,0,1],[4],[]⟩,[]⟩
def Zl3:KpH:=⟨⟨[4],[4],[]⟩,[]⟩
def Zl4:KpH:=⟨⟨[4,5],[4],[]⟩,[]⟩
def Zcw:Jb St:=fun i l n z=>⟨25,[(4,.ptr 4 0)],[(4,Glass.enc z)],[],[],[]⟩
def Zcx:Jb St:=fun i l n z=>⟨25,[(4,.ptr 4 0),(5,.p (.v (.bool true)))],[(4,Glass.enc ((Z8 (l.drop i.toNat) n).1))],[],[],[]⟩
def Wv:Jb Prop:=fun i l n z=>(0≤i∧i≤l.length∧l.length≤140737488355328)
def Ww:Jb Bool:=fun i l n z=>(Z8 (l.drop i.toNat) n).2
def ZfR:LSum:=LSg Xd 25 (fP 4 4 0<|fT 6 cI<|fT 0 (cL Glass.enc Glass.dec)<|fT 1 cS<|fB 4 Glass.enc Glass.dec<|fZ) [] [] ZfQ (V4 Wv) fun y K=>bif V4 Ww y then K .ret (V4 Zcx y) else K (.exit 0) (V4 Zcw y)
abbrev Zcj(R_:Type):=Int→(List Face)→R_
def ZvL:Zcj St:=fun i l=>⟨16,[(3,pI i),(0,.p (.lst (l.map Face.enc)))],[],[],[],[]⟩
def Zmj:KpH:=⟨⟨[3,0],[],[]⟩,[]⟩
def Zte:KpH:=⟨⟨[],[],[]⟩,[]⟩
def Ztf:KpH:=⟨⟨[2],[],[]⟩,[]⟩
def ZgQ:Zcj St:=fun i l=>⟨16,[],[],[],[],[]⟩
def ZgR:Zcj St:=fun i l=>⟨16,[(2,.p (.v (.bool true)))],[],[],[],[]⟩
def ZaD:Zcj Prop:=fun i l=>(0≤i∧i≤l.length∧l.length≤140737488355328)
def ZaE:Zcj Bool:=fun i l=>YL (l.drop i.toNat)
def Zmk:LSum:=LSg Xd 16 (fT 3 cI<|fT 0 (cL Face.enc Face.dec)<|fZ) [] [] Zmj (V2 ZaD) fun y K=>bif V2 ZaE y then K .ret (V2 ZgR y) else K (.exit 0) (V2 ZgQ y)
abbrev Jc(R_:Type):=Int→Bool→(List Glass)→LensM→R_
def ZmA:Jc St:=fun i sm g l=>⟨55,[(6,pI i),(2,.ptr 2 0),(5,.p (vB sm)),(1,.p (.lst (g.map Glass.enc)))],[(2,LensM.enc l)],[],[],[]⟩
def ZfS:KpH:=⟨⟨[6,2,5,1],[2],[]⟩,[]⟩
def Zl5:KpH:=⟨⟨[5],[],[]⟩,[]⟩
def Zl6:KpH:=⟨⟨[4],[],[]⟩,[]⟩
def Zcy:Jc St:=fun i sm g l=>⟨55,[(5,.p (.v (.bool (sm||YL (l.faces.drop i.toNat)))))],[],[],[],[]⟩
def Zcz:Jc St:=fun i sm g l=>⟨55,[(4,.p (.v (.bool false)))],[],[],[],[]⟩
def Wx:Jc Prop:=fun i sm g l=>(0≤i∧i≤l.faces.length∧l.faces.length≤12∧g.length≤140737488355328)
def Wy:Jc Bool:=fun i sm g l=> !((l.faces.drop i.toNat).all (YE · g))
def ZfT:LSum:=LSg Xd 55 (fT 6 cI<|fP 2 2 0<|fT 5 cB<|fT 1 (cL Glass.enc Glass.dec)<|fB 2 LensM.enc LensM.dec<|fZ) [] [] ZfS (V4 Wx) fun y K=>bif V4 Wy y then K .ret (V4 Zcz y) else K (.exit 0) (V4 Zcy y)
abbrev J2(R_:Type):=Int→SysM→R_
def ZoU:J2 St:=fun i s=>⟨60,[(3,pI i),(1,.ptr 1 0)],[(1,SysM.enc s)],[],[],[]⟩
def ZgS:KpH:=⟨⟨[3,1],[1],[]⟩,[]⟩
def ZmB:KpH:=⟨⟨[1],[1],[]⟩,[]⟩
def ZmC:KpH:=⟨⟨[2],[],[]⟩,[]⟩
def Zdv:J2 St:=fun i s=>⟨60,[(1,.ptr 1 0)],[(1,SysM.enc s)],[],[],[]⟩
def Zdw:J2 St:=fun i s=>⟨60,[(2,.p (.v (.bool false)))],[],[],[],[]⟩
def WI:J2 Prop:=fun i s=>(0≤i∧i≤s.surfs.length∧s.surfs.length≤140737488355328)
def WJ:J2 Bool:=fun i s=> !((s.surfs.drop i.toNat).all YF)
def ZgT:LSum:=LSg Xd 60 (fT 3 cI<|fP 1 1 0<|fB 1 SysM.enc SysM.dec<|fZ) [] [] ZgS (V2 WI) fun y K=>bif V2 WJ y then K .ret (V2 Zdw y) else K (.exit 0) (V2 Zdv y)
abbrev Zf3(R_:Type):=Int→(List Glass)→SysM→Iv→Iv→Iv→Iv→LensM→SysM→R_
def Zkc:Zf3 St:=fun i g s pos ix w one l z=>⟨126,[(12,pI i),(9,.ptr 9 0),(10,.ptr 10 0),(11,.ptr 11 0),(5,.ptr 5 0),(1,.p (.lst (g.map Glass.enc))),(8,.ptr 8 0),(3,.ptr 3 0),(6,.ptr 6 0)],[(9,SysM.enc s),(10,Iv.enc pos),(11,Iv.enc ix),(5,Iv.enc w),(8,Iv.enc one),(3,LensM.enc l),(6,SysM.enc z)],[],[(.b 9 0,75),(.b 6 0,75)],[]⟩
def Zkd:KpH:=⟨⟨[12,9,10,11,5,1,8,3,6],[9,10,11,5,8,3,6],[.b 9 0,.b 6 0]⟩,[(.b 9 0,75),(.b 6 0,75)]⟩
def Zq9:KpH:=⟨⟨[6,9],[6,9],[]⟩,[]⟩
abbrev ZqA:KpH:=kr0
def ZcE:Zf3 St:=fun i g s pos ix w one l z=>⟨126,[(6,.ptr 6 0),(9,.ptr 9 0)],[(6,SysM.enc z),(9,SysM.enc (⟨s.surfs++YX g w (l.faces.drop i.toNat) pos ix,s.op⟩))],[],[],[]⟩
def Zbb:Zf3 Prop:=fun i g s pos ix w one l z=>(0≤i∧i≤l.faces.length∧l.faces.length≤12∧g.length≤140737488355328∧(s.surfs.length:Int)=i)∧(one=point 65536)
def Zke:LSum:=LSg Xd 126 (fT 12 cI<|fP 9 9 0<|fP 10 10 0<|fP 11 11 0<|fP 5 5 0<|fT 1 (cL Glass.enc Glass.dec)<|fP 8 8 0<|fP 3 3 0<|fP 6 6 0<|fB 9 SysM.enc SysM.dec<|fb 10 Iv.enc gIv Zcg<|fb 11 Iv.enc gIv Zcg<|fb 5 Iv.enc gIv Zcg<|fb 8 Iv.enc gIv Zcg<|fB 3 LensM.enc LensM.dec<|fB 6 SysM.enc SysM.dec<|fZ) [] [(.b 9 0,75),(.b 6 0,75)] Zkd (V9 Zbb) fun y K=>K (.exit 0) (V9 ZcE y)
abbrev Zbc(R_:Type):=Int→(List Glass)→(List I)→R_
def Zee:Zbc St:=fun i out l=>⟨80,[(4,pI i),(3,.p (.lst (out.map Glass.enc))),(0,.p (.lst (l.map I.enc)))],[],[],[(.t 3,30)],[]⟩
def Zef:KpH:=⟨⟨[4,3,0],[],[.t 3]⟩,[(.t 3,30)]⟩
def ZiM:KpH:=⟨⟨[3],[],[]⟩,[]⟩
abbrev ZiN:KpH:=kr0
def Jj:Zbc St:=fun i out l=>⟨80,[(3,.p (.lst ((out++Zb0 (3 - i).toNat l i).map Glass.enc)))],[],[],[],[]⟩
def XF:Zbc Prop:=fun i out l=>(0≤i∧i≤3∧l.length≤140737488355328∧(out.length:Int)=i+2)
def Zbd:LSum:=LSg Xd 80 (fT 4 cI<|fT 3 (cL Glass.enc Glass.dec)<|fT 0 (cL I.enc I.dec)<|fZ) [] [(.t 3,30)] Zef (V3 XF) fun y K=>K (.exit 0) (V3 Jj y)
abbrev Zdx(R_:Type):=Int→(List Glass)→(List RawFace)→Int→LensM→LensM→R_
def ZgU:Zdx St:=fun i g l most u z=>⟨166,[(10,pI i),(9,.ptr 9 0),(2,.p (.lst (g.map Glass.enc))),(1,.p (.lst (l.map RawFace.enc))),(8,.ptr 8 0),(3,pI most)],[(9,LensM.enc u),(8,LensM.enc z)],[],[(.b 9 3,32),(.b 8 3,32)],[]⟩
def ZgV:KpH:=⟨⟨[10,9,2,1,8,3],[9,8],[.b 9 3,.b 8 3]⟩,[(.b 9 3,32),(.b 8 3,32)]⟩
def ZmD:KpH:=⟨⟨[8,9],[8,9],[.b 9 3]⟩,[(.b 9 3,32)]⟩
abbrev ZmE:KpH:=kr0
def J3:Zdx St:=fun i g l most u z=>⟨166,[(8,.ptr 8 0),(9,.ptr 9 0)],[(8,LensM.enc z),(9,LensM.enc (⟨u.name,u.back,X4 g most (l.drop i.toNat) i u.faces⟩))],[],[(.b 9 3,32)],[]⟩
def J4:Zdx Prop:=fun i g l most u z=>(0≤i∧i≤l.length∧l.length≤140737488355328∧g.length≤1000∧most≤1000∧(u.faces.length:Int)≤1000)
def ZgW:LSum:=LSg Xd 166 (fT 10 cI<|fP 9 9 0<|fT 2 (cL Glass.enc Glass.dec)<|fT 1 (cL RawFace.enc RawFace.dec)<|fP 8 8 0<|fT 3 cI<|fB 9 LensM.enc LensM.dec<|fB 8 LensM.enc LensM.dec<|fZ) [] [(.b 9 3,32),(.b 8 3,32)] ZgV (V6 J4) fun y K=>K (.exit 0) (V6 J3 y)
abbrev Zf4(R_:Type):=Int→(List UInt8)→R_
def Ztg:Zf4 St:=fun i s=>⟨24,[(7,pI i),(0,.p (.str s)),(2,.p (.fn 103 []))],[],[],[],[]⟩
def Zf5:KpH:=⟨⟨[7,0,2],[],[]⟩,[]⟩
def ZqB:KpH:=⟨⟨[7],[],[]⟩,[]⟩
abbrev ZqC:KpH:=kr0
def Zbe:Zf4 St:=fun i s=>⟨24,[(7,.p (.v (.int .i64 (Zm X7 s i))))],[],[],[],[]⟩
def JO:Zf4 Prop:=fun i s=>(0≤i∧i≤s.length∧s.length≤4000)
def Zf6:LSum:=fun σ K=>match Jh Xd Zf5 σ with
 | some ⟨24,[(7,.p (.v (.int .i64 p1))),(0,.p (.str p2)),(2,.p (.fn 103 []))],[],[],[],[]⟩=>alls [JO p1 p2] (K (.exit 0) (Zbe p1 p2))
 | _=>False
abbrev Zev(R_:Type):=Int→(List UInt8)→R_
def ZqD:Zev St:=fun i s=>⟨24,[(7,pI i),(0,.p (.str s)),(2,.p (.fn 104 []))],[],[],[],[]⟩
def Zew:KpH:=⟨⟨[7,0,2],[],[]⟩,[]⟩
def ZoV:KpH:=⟨⟨[7],[],[]⟩,[]⟩
abbrev ZoW:KpH:=kr0
def Zam:Zev St:=fun i s=>⟨24,[(7,.p (.v (.int .i64 (Zm Z1 s i))))],[],[],[],[]⟩
def Je:Zev Prop:=fun i s=>(0≤i∧i≤s.length∧s.length≤4000)
def Zex:LSum:=fun σ K=>match Jh Xd Zew σ with
 | some ⟨24,[(7,.p (.v (.int .i64 p1))),(0,.p (.str p2)),(2,.p (.fn 104 []))],[],[],[],[]⟩=>alls [Je p1 p2] (K (.exit 0) (Zam p1 p2))
 | _=>False
abbrev Zf7(R_:Type):=Int→(List UInt8)→R_
def Zth:Zf7 St:=fun i s=>⟨24,[(7,pI i),(0,.p (.str s)),(2,.p (.fn 105 []))],[],[],[],[]⟩
def Zf8:KpH:=⟨⟨[7,0,2],[],[]⟩,[]⟩
def ZqE:KpH:=⟨⟨[7],[],[]⟩,[]⟩
abbrev ZqF:KpH:=kr0
def Zbf:Zf7 St:=fun i s=>⟨24,[(7,.p (.v (.int .i64 (Zm Zt s i))))],[],[],[],[]⟩
def JP:Zf7 Prop:=fun i s=>(0≤i∧i≤s.length∧s.length≤4000)
def Zf9:LSum:=fun σ K=>match Jh Xd Zf8 σ with
 | some ⟨24,[(7,.p (.v (.int .i64 p1))),(0,.p (.str p2)),(2,.p (.fn 105 []))],[],[],[],[]⟩=>alls [JP p1 p2] (K (.exit 0) (Zbf p1 p2))
 | _=>False
abbrev Zck(R_:Type):=Int→(List Glass)→(List UInt8)→Int→Glass→R_
def ZvM:Zck St:=fun i l n m z=>⟨21,[(4,.ptr 4 0),(10,pI i),(8,.p (.lst (l.map Glass.enc))),(1,.p (.str n)),(9,pI m)],[(4,Glass.enc z)],[],[],[]⟩
def Zml:KpH:=⟨⟨[4,10,8,1,9],[4],[]⟩,[]⟩
def Zti:KpH:=⟨⟨[4],[4],[]⟩,[]⟩
def Ztj:KpH:=⟨⟨[4,5],[4],[]⟩,[]⟩
def ZgX:Zck St:=fun i l n m z=>⟨21,[(4,.ptr 4 0)],[(4,Glass.enc z)],[],[],[]⟩
def ZgY:Zck St:=fun i l n m z=>⟨21,[(4,.ptr 4 0),(5,.p (.v (.bool true)))],[(4,Glass.enc ((Z8 (l.drop i.toNat) n).1))],[],[],[]⟩
def ZaF:Zck Prop:=fun i l n m z=>(0≤i∧i≤l.length∧l.length≤140737488355328∧m=l.length)
def ZaG:Zck Bool:=fun i l n m z=>(Z8 (l.drop i.toNat) n).2
def Zmm:LSum:=LSg Xd 21 (fP 4 4 0<|fT 10 cI<|fT 8 (cL Glass.enc Glass.dec)<|fT 1 cS<|fT 9 cI<|fB 4 Glass.enc Glass.dec<|fZ) [] [] Zml (V5 ZaF) fun y K=>bif V5 ZaG y then K .ret (V5 ZgY y) else K (.exit 0) (V5 ZgX y)
abbrev Zdy(R_:Type):=Int→(List Face)→GL→Int→R_
def ZoX:Zdy St:=fun i l g m=>⟨19,[(8,pI i),(0,.p (.lst (l.map Face.enc))),(1,.p (.fn 75 [.lptr (GL.enc g) 0])),(7,pI m)],[],[],[],[]⟩
def ZiO:KpH:=⟨⟨[8,0,1,7],[],[]⟩,[]⟩
def ZvN:KpH:=⟨⟨[],[],[]⟩,[]⟩
def ZvO:KpH:=⟨⟨[4],[],[]⟩,[]⟩
def ZiP:Zdy St:=fun i l g m=>⟨19,[],[],[],[],[]⟩
def ZfA:Zdy St:=fun i l g m=>⟨19,[(4,.p (.v (.int .i64 (X2 (fun f=> !ZU f g.g) (l.drop i.toNat) i))))],[],[],[],[]⟩
def Zb4:Zdy Prop:=fun i l g m=>(0≤i∧i≤l.length∧m=l.length∧m≤140737488355328∧g.g.length≤140737488355328)
def J5:Zdy Bool:=fun i l g m=>(l.drop i.toNat).any (fun f=> !ZU f g.g)
def ZiQ:LSum:=fun σ K=>match Jh Xd ZiO σ with
 | some ⟨19,[(8,.p (.v (.int .i64 p1))),(0,.p (.lst p2)),(1,.p (.fn 75 [.lptr p3 0])),(7,.p (.v (.int .i64 p4)))],[],[],[],[]⟩=>alls [p2=(Zi Face.dec p2).map Face.enc,p3=GL.enc (GL.dec p3),Zb4 p1 (Zi Face.dec p2) (GL.dec p3) p4] (bif J5 p1 (Zi Face.dec p2) (GL.dec p3) p4 then K .ret (ZfA p1 (Zi Face.dec p2) (GL.dec p3) p4) else (K (.exit 0) (ZiP p1 (Zi Face.dec p2) (GL.dec p3) p4)))
 | _=>False
abbrev Zdz(R_:Type):=Int→(List Face)→Int→R_
def ZoY:Zdz St:=fun i l m=>⟨19,[(8,pI i),(0,.p (.lst (l.map Face.enc))),(1,.p (.fn 77 [])),(7,pI m)],[],[],[],[]⟩
def ZiR:KpH:=⟨⟨[8,0,1,7],[],[]⟩,[]⟩
def ZvP:KpH:=⟨⟨[],[],[]⟩,[]⟩
def ZvQ:KpH:=⟨⟨[4],[],[]⟩,[]⟩
def ZiS:Zdz St:=fun i l m=>⟨19,[],[],[],[],[]⟩
def ZfB:Zdz St:=fun i l m=>⟨19,[(4,.p (.v (.int .i64 (X2 (fun f=> !f.stop) (l.drop i.toNat) i))))],[],[],[],[]⟩
def Zb5:Zdz Prop:=fun i l m=>(0≤i∧i≤l.length∧m=l.length∧m≤140737488355328)
def J6:Zdz Bool:=fun i l m=>(l.drop i.toNat).any (fun f=> !f.stop)
def ZiT:LSum:=fun σ K=>match Jh Xd ZiR σ with
 | some ⟨19,[(8,.p (.v (.int .i64 p1))),(0,.p (.lst p2)),(1,.p (.fn 77 [])),(7,.p (.v (.int .i64 p3)))],[],[],[],[]⟩=>alls [p2=(Zi Face.dec p2).map Face.enc,Zb5 p1 (Zi Face.dec p2) p3] (bif J6 p1 (Zi Face.dec p2) p3 then K .ret (ZfB p1 (Zi Face.dec p2) p3) else (K (.exit 0) (ZiS p1 (Zi Face.dec p2) p3)))
 | _=>False
abbrev Zd0(R_:Type):=Int→(List Iv)→Int→R_
def ZoZ:Zd0 St:=fun i l m=>⟨19,[(8,pI i),(0,.p (.lst (l.map Iv.enc))),(1,.p (.fn 125 [])),(7,pI m)],[],[],[],[]⟩
def ZiU:KpH:=⟨⟨[8,0,1,7],[],[]⟩,[]⟩
def ZvR:KpH:=⟨⟨[],[],[]⟩,[]⟩
def ZvS:KpH:=⟨⟨[4],[],[]⟩,[]⟩
def ZiV:Zd0 St:=fun i l m=>⟨19,[],[],[],[],[]⟩
def ZfC:Zd0 St:=fun i l m=>⟨19,[(4,.p (.v (.int .i64 (X2 (fun f=>f.no) (l.drop i.toNat) i))))],[],[],[],[]⟩
def Zb6:Zd0 Prop:=fun i l m=>(0≤i∧i≤l.length∧m=l.length∧m≤140737488355328)
def J7:Zd0 Bool:=fun i l m=>(l.drop i.toNat).any (fun f=>f.no)
def ZiW:LSum:=fun σ K=>match Jh Xd ZiU σ with
 | some ⟨19,[(8,.p (.v (.int .i64 p1))),(0,.p (.lst p2)),(1,.p (.fn 125 [])),(7,.p (.v (.int .i64 p3)))],[],[],[],[]⟩=>alls [p2=(Zi Iv.dec p2).map Iv.enc,Zb6 p1 (Zi Iv.dec p2) p3] (bif J7 p1 (Zi Iv.dec p2) p3 then K .ret (ZfC p1 (Zi Iv.dec p2) p3) else (K (.exit 0) (ZiV p1 (Zi Iv.dec p2) p3)))
 | _=>False
abbrev Zbg(R_:Type):=Int→(List Face)→Int→(List Glass)→SysM→Iv→Iv→Iv→SysM→R_
def Zkf:Zbg St:=fun i fs m g s pos ix w z=>⟨75,[(34,pI i),(32,.p (.lst (fs.map Face.enc))),(33,pI m),(9,.ptr 9 0),(10,.ptr 10 0),(8,.ptr 8 0),(5,.ptr 5 0),(6,.ptr 6 0),(1,.p (.lst (g.map Glass.enc)))],[(8,SysM.enc s),(10,Iv.enc pos),(9,Iv.enc ix),(5,Iv.enc w),(6,SysM.enc z)],[],[(.b 8 0,75),(.b 6 0,75)],[]⟩
def Zkg:KpH:=⟨⟨[34,32,33,9,10,8,5,6,1],[8,10,9,5,6],[.b 8 0,.b 6 0]⟩,[(.b 8 0,75),(.b 6 0,75)]⟩
def ZqG:KpH:=⟨⟨[6,8],[6,8],[]⟩,[]⟩
def ZqH:KpH:=⟨⟨[6,7],[6],[]⟩,[]⟩
def ZcF:Zbg St:=fun i fs m g s pos ix w z=>⟨75,[(6,.ptr 6 0),(8,.ptr 8 0)],[(6,SysM.enc z),(8,SysM.enc (⟨s.surfs++pGo g w (fs.drop i.toNat) pos ix,s.op⟩))],[],[],[]⟩
def Zkh:Zbg St:=fun i fs m g s pos ix w z=>⟨75,[(6,.ptr 6 0),(7,.p (.v (.int .i64 (6))))],[(6,[.nil,.v (.int .i64 0),.v (.int .i64 0),.v (.bool false)])],[],[],[]⟩
def Zbh:Zbg Prop:=fun i fs m g s pos ix w z=>(0≤i∧i≤fs.length∧m=fs.length∧fs.length≤12∧g.length≤140737488355328∧(s.surfs.length:Int)=i)
def WT:Zbg Bool:=fun i fs m g s pos ix w z=>(pGo g w (fs.drop i.toNat) pos ix).any Xp
def Zki:LSum:=LSg Xd 75 (fT 34 cI<|fT 32 (cL Face.enc Face.dec)<|fT 33 cI<|fP 9 9 0<|fP 10 10 0<|fP 8 8 0<|fP 5 5 0<|fP 6 6 0<|fT 1 (cL Glass.enc Glass.dec)<|fB 8 SysM.enc SysM.dec<|fb 10 Iv.enc gIv Zcg<|fb 9 Iv.enc gIv Zcg<|fb 5 Iv.enc gIv Zcg<|fB 6 SysM.enc SysM.dec<|fZ) [] [(.b 8 0,75),(.b 6 0,75)] Zkg (V9 Zbh) fun y K=>bif V9 WT y then K .ret (V9 Zkh y) else K (.exit 0) (V9 ZcF y)
abbrev ZfD(R_:Type):=Int→(List Surf)→(List Surf)→Int→R_
def Ztk:ZfD St:=fun i b a n=>⟨26,[(13,pI i),(1,.p (.lst (b.map Surf.enc))),(0,.p (.lst (a.map Surf.enc))),(12,pI n)],[],[],[],[]⟩
def Zkj:KpH:=⟨⟨[13,1,0,12],[],[]⟩,[]⟩
def ZqI:KpH:=⟨⟨[],[],[]⟩,[]⟩
abbrev ZqJ:KpH:=kr0
def Zkk:ZfD St:=fun i b a n=>⟨26,[],[],[],[],[]⟩
def JQ:ZfD Prop:=fun i b a n=>(0≤i∧i≤a.length∧n=a.length∧a.length≤1000∧b=a)
def Zkl:LSum:=LSg Xd 26 (fT 13 cI<|fT 1 (cL Surf.enc Surf.dec)<|fT 0 (cL Surf.enc Surf.dec)<|fT 12 cI<|fZ) [] [] Zkj (V4 JQ) fun y K=>K (.exit 0) (V4 Zkk y)
abbrev ZgZ(R_:Type):=Int→SysM→SysM→R_
def ZvT:ZgZ St:=fun i b a=>⟨38,[(5,pI i),(3,.ptr 3 0),(2,.ptr 2 0)],[(3,SysM.enc b),(2,SysM.enc a)],[],[],[]⟩
def Zmn:KpH:=⟨⟨[5,3,2],[3,2],[]⟩,[]⟩
def Ztl:KpH:=⟨⟨[],[],[]⟩,[]⟩
abbrev Ztm:KpH:=kr0
def Zmo:ZgZ St:=fun i b a=>⟨38,[],[],[],[],[]⟩
def ZaH:ZgZ Prop:=fun i b a=>(0≤i∧i≤a.surfs.length∧a.surfs.length≤1000∧b=a)
def Zmp:LSum:=LSg Xd 38 (fT 5 cI<|fP 3 3 0<|fP 2 2 0<|fB 3 SysM.enc SysM.dec<|fB 2 SysM.enc SysM.dec<|fZ) [] [] Zmn (V3 ZaH) fun y K=>K (.exit 0) (V3 Zmo y)
end Go.Men
