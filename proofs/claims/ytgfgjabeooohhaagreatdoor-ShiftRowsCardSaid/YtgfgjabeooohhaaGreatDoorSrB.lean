/- A logic of frames, its evaluator for values known in part, and what the functions that the law reaches are shown to do: written for this claim. Part B. -/
import Derived.Test.YtgfgjabeooohhaaGreatDoorSrA
import Derived.Laws.StructEq
import Derived.Laws.MakeOwn
import Derived.Laws.Cover2
import Derived.Laws.IdiomStrings
import Derived.Lib.AppendStr
import Derived.ProofKit
import Derived.OpenShut
import Derived.ChangeKeysEq
import Derived.Lib.SlTrimSet
import Derived.Lib.Repeat
import Derived.Lib.ItoaNum
import Derived.Lib.Atoi
import Derived.Lib.Bytealg
import Derived.Laws.StandIn
import Derived.Lib.LaidTab
import Derived.Deep.DeepHandedRow
import Derived.Shelf.Strings.Builder1
set_option linter.all false
set_option maxRecDepth 100000
namespace Go.Ev
open Go.RowKit
def ZhK(m:Nat):Nat→Bool
 | 0=>true
 | i+1=>bit m i&&ZhK m i
def Xh(cls:List Nat):Nat→Nat
 | 0=>0
 | n+1=>bif ZhK (ZN cls n) n then Xh cls n else n+1
def Zbk:List Oper→Nat→Bool
 | [],_=>true
 | o::r,j=>(deps o).all (fun i=>Nat.blt i j)&&Zbk r (j+1)
def Y0:List Oper→List Nat
 | []=>[]
 | o::r=>match o.dst with
   | some d=>d::Y0 r
   | none=>Y0 r
def WM:List Oper→List Nat
 | []=>[]
 | o::r=>match o.op with
   | .store _ _ (.tmp t)=>t::WM r
   | _=>WM r
def Jx:List Nat→Bool
 | []=>true
 | x::r=> !(has x r)&&Jx r
def ZnQ(cls:List Nat)(ws:List (Nat×Nat)):Bool:=
 ws.all fun (s,b)=>ws.all fun (s',b')=> !(Nat.beq b b')|| !(Nat.blt s s')||bit (ZN cls s') s
def Zkl:List En→List (Nat×AV)→List (Nat×AV)
 | [],l=>l
 | e::r,l=>match e.tm with
   | some x=>x::Zkl r l
   | none=>Zkl r l
def ZhL:List En→List (Nat×List PV)→List (Nat×List PV)
 | [],l=>l
 | e::r,l=>match e.bx with
   | some x=>x::ZhL r l
   | none=>ZhL r l
def Zkm:List En→List (Nat×Loc)→List (Nat×Loc)
 | [],l=>l
 | e::r,l=>match e.ln with
   | some x=>x::Zkm r l
   | none=>Zkm r l
def ZbO(β:St)(A:List En):St:={β with tmps:=Zkl A β.tmps,boxes:=ZhL A β.boxes,al:=Zkm A β.al}
def tails(T:Nat→St→Oper→Option St)(ops:List Oper):List Oper→Nat→St→Option St
 | [],_,σ=>some σ
 | o::r,j,σ=>match JM σ ops o with
   | some true=>match T j σ o with
     | some σ1=>tails T ops r (j+1) σ1
     | none=>none
   | some false=>match o.dst with
     | some d=>tails T ops r (j+1) (ZbK σ d)
     | none=>tails T ops r (j+1) σ
   | none=>none
def Zgv(Γ:List (Nat×Ty))(R:Nat→St→Oper→Option Res)(T:Nat→St→Oper→Option St)(ops:List Oper)(σ:St)(ws:List (Nat×Nat)):Option St:=
 let cls:=Zaf ops []
 let k:=Xh cls ops.length
 let fr:=ops.take k
 let D:=Y0 fr
 let Src:=WM fr
 bif Zbk ops 0&&Jx D&&ZnQ cls ws then
  match frees Γ R ops cls ws D Src (Jw D Src ws σ) fr 0 [] with
  | some A=>tails T ops (ops.drop k) k (ZbO (Jw D Src ws σ) A)
  | none=>none
 else none
section
variable {P:Program}{B:Nat}{g:G}{σ β ρ τ:St}{a:Act}{w:World}
theorem Zbl(x y i:Nat):bit (Nat.lor x y) i=(bit x i||bit y i):=Nat.testBit_or x y i
theorem ZcR(i:Nat):bit 0 i=false:=Nat.zero_testBit i
theorem Znc{j i:Nat}(h:bit (Nat.shiftLeft 1 j) i=true):i=j:=by
 have:Nat.testBit (1 <<< j) i=true:=h
 rw[Nat.testBit_shiftLeft] at this
 simp only[Qh_,Qc_] at this
 obtain ⟨h1,h2⟩:=this
 have:=Nat.testBit_one_eq_true_iff_self_eq_zero.1 h2
 omega
theorem Zkn{acc:List Nat}{i:Nat}:∀{ds:List Nat},bit (ZhJ acc ds) i=true→∃d∈ds,i=d∨bit (ZN acc d) i=true
 | [],h=>by rw[show ZhJ acc []=0 from rfl,ZcR] at h;cases h
 | d::r,h=>by
   unfold ZhJ at h
   rw[Zbl,Zbl,Kn_,Kn_] at h
   rcases h with (h | h) | h
   ·exact ⟨d,by simp,.inl (Znc h)⟩
   ·exact ⟨d,by simp,.inr h⟩
   ·obtain ⟨d',h1,h2⟩:=Zkn h
    exact ⟨d',Qq_ _ h1,h2⟩
theorem Zfu(x:Nat):∀(acc:List Nat) (i:Nat),ZN (acc++[x]) i=if i < acc.length then ZN acc i else if i=acc.length then x else 0
 | [],0=>rfl
 | [],i+1=>by simp[ZN]
 | y::r,0=>by simp[ZN]
 | y::r,i+1=>by simp[ZN,Zfu x r i]
theorem Znd:∀(acc:List Nat) (i:Nat),acc.length≤i→ZN acc i=0
 | [],_,_=>rfl
 | _::r,0,h=>by simp at h
 | _::r,i+1,h=>Znd r i (by simpa using h)
theorem Zgw{S:Nat→Prop}{ops:List Oper}(hS:∀j o,ops[j]?=some o→S j→∀i∈deps o,S i):∀(l:List Oper) (acc:List Nat) (pre:List Oper),ops=pre++l→acc.length=pre.length→
 (∀j o,pre[j]?=some o→(∀i∈deps o,S i)→∀i,bit (ZN acc j) i=true→S i)→∀j o,ops[j]?=some o→(∀i∈deps o,S i)→∀i,bit (ZN (Zaf l acc) j) i=true→S i
 | [],acc,pre,he,_,hp,j,o,ho,hd,i,hi=>hp j o (by simpa [he] using ho) hd i hi
 | o0::l,acc,pre,he,hl,hp,j,o,ho,hd,i,hi=>by
   refine Zgw hS l (acc++[ZhJ acc (deps o0)]) (pre++[o0]) (by simp[he]) (by simp[hl]) (fun j' o' ho' hd' i' hi'=>?_) j o ho hd i hi
   rw[Zfu] at hi'
   split at hi'
   ·rename_i hlt
    rw[QV_ (by omega)] at ho'
    exact hp j' o' ho' hd' i' hi'
   ·split at hi'
    ·rename_i _ e
     have:(pre++[o0])[j']?=some o0:=by rw[e,hl];simp
     rw[this] at ho'
     have:=Qa_ ho'
     subst this
     obtain ⟨d,h1,h2⟩:=Zkn hi'
     have hSd:=hd' d h1
     rcases h2 with rfl | h2
     ·exact hSd
     ·by_cases hdl:d < acc.length
      ·have hpd:pre[d]?=some pre[d]:=Qg_ (by omega)
       exact hp d _ hpd (hS d pre[d] (by rw[he,QV_ (by omega)];exact hpd) hSd) i' h2
      ·rw[Znd _ _ (by omega),ZcR] at h2
       cases h2
    ·rw[ZcR] at hi';cases hi'
theorem Zko{m:Nat}:∀{j:Nat},ZhK m j=true→∀i,i < j→bit m i=true
 | 0,_,i,h=>by omega
 | j+1,h,i,hi=>by
   unfold ZhK at h
   rw[Qh_] at h
   by_cases e:i=j
   ·rw[e];exact h.1
   ·exact Zko h.2 i (by omega)
theorem Zfv{cls:List Nat}:∀{n:Nat},Xh cls n≤n
 | 0=>Q2_ _
 | n+1=>by
   unfold Xh
   cases ZhK (ZN cls n) n with
   | true=>exact Nat.le_succ_of_le Zfv
   | false=>exact Q2_ _
theorem Jy{cls:List Nat}:∀{n:Nat},∀j,Xh cls n≤j→j < n→∀i,i < j→bit (ZN cls j) i=true
 | 0,j,_,h=>by omega
 | n+1,j,hk,hj=>by
   unfold Xh at hk
   cases hb:ZhK (ZN cls n) n with
   | true=>
     rw[hb] at hk
     by_cases e:j=n
     ·subst e;exact Zko hb
     ·exact Jy j hk (by omega)
   | false=>
     rw[hb] at hk
     simp only[Qd_] at hk
     omega
theorem Zgx:∀{l:List Oper} {k:Nat},Zbk l k=true→∀j o,l[j]?=some o→∀i∈deps o,i < k+j
 | [],_,_,j,o,h=>by simp at h
 | o0::r,k,h,j,o,ho=>by
   unfold Zbk at h
   rw[Qh_] at h
   cases j with
   | zero=>
     simp at ho
     subst ho
     intro i hi
     exact Qm_ (QK_.1 h.1 i hi)
   | succ j=>
     intro i hi
     have:=Zgx h.2 j o (by simpa using ho) i hi
     omega
theorem ZcS{d:Nat}:∀{l:List Oper} {j:Nat} {o:Oper},l[j]?=some o→o.dst=some d→d∈Y0 l
 | [],j,o,h,_=>by simp at h
 | o0::r,j,o,h,hd=>by
   unfold Y0
   cases j with
   | zero=>
     simp at h
     subst h
     rw[hd]
     simp
   | succ j=>
     have:=ZcS (l:=r) (j:=j) (by simpa using h) hd
     split
     ·exact Qq_ _ this
     ·exact this
theorem Zkp{d:Nat}:∀{l:List Oper},Jx (Y0 l)=true→∀{i j:Nat} {o o':Oper},l[i]?=some o→l[j]?=some o'→o.dst=some d→o'.dst=some d→i=j
 | [],_,i,j,o,o',h,_,_,_=>by simp at h
 | o0::r,hn,i,j,o,o',h,h',hd,hd'=>by
   unfold Y0 at hn
   have tl:Jx (Y0 r)=true:=by
    split at hn
    ·unfold Jx at hn;rw[Qh_] at hn;exact hn.2
    ·exact hn
   have hd0:o0.dst=some d→d∉Y0 r:=by
    intro e hm
    rw[e] at hn
    simp only[Jx,Qh_,Qi_] at hn
    rw[YE.2 hm] at hn
    exact absurd hn.1 (by simp)
   cases i with
   | zero=>
     cases j with
     | zero=>rfl
     | succ j=>
       simp at h
       subst h
       exact absurd (ZcS (l:=r) (j:=j) (by simpa using h') hd') (hd0 hd)
   | succ i=>
     cases j with
     | zero=>
       simp at h'
       subst h'
       exact absurd (ZcS (l:=r) (j:=i) (by simpa using h) hd) (hd0 hd')
     | succ j=>
       have e:i=j:=Zkp tl (by simpa using h) (by simpa using h') hd hd'
       rw[e]
theorem Zi2{Γ:List (Nat×Ty)}{R:Nat→St→Oper→Option Res}{ops:List Oper}{cls:List Nat}{ws:List (Nat×Nat)}{D Src:List Nat}{A:List En}{j:Nat}{o:Oper}{e:En}
 (h:Zau Γ R ops cls ws D Src β A j o=some e):e.i=j∧(∀t v,e.tm=some (t,v)→o.dst=some t)∧(∀t l,e.ln=some (t,l)→o.dst=some t∧Y4 D ws l=true)∧∀b cs,e.bx=some (b,cs)→(j,b)∈ws:=by
 have lnok:∀{d:Nat} {x:Option Loc} {t:Nat} {l:Loc},WH D ws d x=some (t,l)→t=d∧Y4 D ws l=true:=by
  intro d x t l hl
  cases x with
  | none=>exact absurd hl (by simp[WH])
  | some l'=>
    simp only[WH] at hl
    cases hk:Y4 D ws l' with
    | false=>rw[hk] at hl;cases hl
    | true=>
      rw[hk] at hl
      have:=Qa_ hl
      cases this
      exact ⟨rfl,hk⟩
 have nil:(⟨j,none,none,none⟩:En).i=j∧(∀t v,(⟨j,none,none,none⟩:En).tm=some (t,v)→o.dst=some t)∧(∀t l,(⟨j,none,none,none⟩:En).ln=some (t,l)→o.dst=some t∧Y4 D ws l=true)∧∀b cs,(⟨j,none,none,none⟩:En).bx=some (b,cs)→(j,b)∈ws:=
  ⟨rfl,fun _ _ h=>absurd h (by simp),fun _ _ h=>absurd h (by simp),fun _ _ h=>absurd h (by simp)⟩
 unfold Zau at h
 simp only at h
 split at h
 ·cases h
 ·have:=Qa_ h
  subst this
  refine ⟨rfl,fun t v hv=>?_,fun _ _ h=>absurd h (by simp),fun _ _ h=>absurd h (by simp)⟩
  cases hd:o.dst with
  | none=>rw[hd] at hv;exact absurd hv (by simp[skE])
  | some d=>
    rw[hd] at hv
    simp only[skE] at hv
    revert hv
    cases Nat.blt d (tau ws cls A β j (ZN cls j) (Zbc ops o)).n with
    | false=>exact fun hv=>absurd hv (by simp)
    | true=>exact fun hv=>by cases Qa_ hv;rfl
 ·split at h
  ·split at h
   ·split at h
    ·rename_i b cs l hbx
     cases hb:(WG j b ws&&Zgs Src _) with
     | false=>rw[hb] at h;cases h
     | true=>
       rw[hb] at h
       have:=Qa_ h
       subst this
       rw[Qh_] at hb
       exact ⟨rfl,fun _ _ h=>absurd h (by simp),fun _ _ h=>absurd h (by simp),fun b' cs' h'=>by have:=Qa_ h';cases this;exact JO.1 hb.1⟩
    ·cases h
   ·cases h
  ·rename_i d hd
   split at h
   ·rename_i r hr
    split at h
    ·have:=Qa_ h
     subst this
     exact ⟨rfl,fun t v ht=>by have:=Qa_ ht;cases this;exact hd,fun t l hl=>by obtain ⟨rfl,h2⟩:=lnok hl;exact ⟨hd,h2⟩,fun _ _ h=>absurd h (by simp)⟩
    ·rename_i cs hbx
     cases hb:(WG j d ws&&ZT (lk d β.boxes)&&ws.all (fun (s,b)=> !(Nat.beq b d)||Nat.ble j s)) with
     | false=>rw[hb] at h;cases h
     | true=>
       rw[hb] at h
       have:=Qa_ h
       subst this
       simp only[Qh_] at hb
       exact ⟨rfl,fun t v ht=>by have:=Qa_ ht;cases this;exact hd,fun t l hl=>by obtain ⟨rfl,h2⟩:=lnok hl;exact ⟨hd,h2⟩,fun b' cs' h'=>by have:=Qa_ h';cases this;exact JO.1 hb.1.1⟩
   ·cases h
  ·split at h
   ·rename_i r hr
    cases hb:ZT r.box with
    | false=>rw[hb] at h;cases h
    | true=>rw[hb] at h;have:=Qa_ h;subst this;exact nil
   ·cases h
theorem Zi3{Γ:List (Nat×Ty)}{R:Nat→St→Oper→Option Res}{ops:List Oper}{cls:List Nat}{ws:List (Nat×Nat)}{D Src:List Nat}:∀{l:List Oper} {j0:Nat} {A0 A:List En},frees Γ R ops cls ws D Src β l j0 A0=some A→
 Desc A0→(∀e∈A0,e.i < j0)→Desc A∧(∀e∈A0,e∈A)∧(∀e∈A,e∈A0∨(j0≤e.i∧∃o,l[e.i - j0]?=some o))∧
  ∀j o,l[j]?=some o→∃e∈A,e.i=j0+j∧∃A',Zau Γ R ops cls ws D Src β A' (j0+j) o=some e∧Desc A'∧(∀e'∈A',e'∈A)∧∀e'∈A,e'.i < j0+j→e'∈A'
 | [],j0,A0,A,h,hd,hi=>by
   have:=Qa_ h
   subst this
   exact ⟨hd,fun _ h=>h,fun e he=> .inl he,fun j o h=>by simp at h⟩
 | o::r,j0,A0,A,h,hd,hi=>by
   unfold frees at h
   split at h
   ·rename_i e he
    have hej:=(Zi2 he).1
    obtain ⟨h1,h2,h3,h4⟩:=Zi3 h (A0:=e::A0) ⟨fun e' he'=>by rw[hej];exact hi e' he',hd⟩ (fun e' he'=>by
     rcases Q9_.1 he' with rfl | he'
     ·omega
     ·have:=hi e' he';omega)
    refine ⟨h1,fun e' he'=>h2 e' (Qq_ _ he'),fun e' he'=>?_,fun j o' ho'=>?_⟩
    ·rcases h3 e' he' with h5 | ⟨h5,o2,h6⟩
     ·rcases Q9_.1 h5 with rfl | h5
      ·exact .inr ⟨by omega,o,by simp[hej]⟩
      ·exact .inl h5
     ·refine .inr ⟨by omega,o2, ?_⟩
      rw[show e'.i - j0=(e'.i - (j0+1))+1 by omega]
      simpa using h6
    ·cases j with
     | zero=>
       simp at ho'
       subst ho'
       refine ⟨e,h2 e (by simp),hej,A0,he,hd,fun e' he'=>h2 e' (Qq_ _ he'),fun e' he' hlt=>?_⟩
       rcases h3 e' he' with h5 | ⟨h5,_⟩
       ·rcases Q9_.1 h5 with rfl | h5
        ·omega
        ·exact h5
       ·omega
     | succ j=>
       obtain ⟨e2,q1,q2,A',q3,q4,q5,q6⟩:=h4 j o' (by simpa using ho')
       have ee:j0+1+j=j0+(j+1):=by omega
       rw[ee] at q2 q3 q6
       exact ⟨e2,q1,q2,A',q3,q4,q5,q6⟩
   ·cases h
theorem Desc.uniq:∀{A:List En},Desc A→∀{e e':En},e∈A→e'∈A→e.i=e'.i→e=e'
 | [],_,e,e',h,_,_=>by simp at h
 | x::r,hd,e,e',h,h',hi=>by
   rcases Q9_.1 h with h1 | h1
   ·rcases Q9_.1 h' with h2 | h2
    ·rw[h1,h2]
    ·have:=hd.1 e' h2;rw[h1] at hi;omega
   ·rcases Q9_.1 h' with h2 | h2
    ·have:=hd.1 e h1;rw[h2] at hi;omega
    ·exact hd.2.uniq h1 h2 hi
theorem ZrR{A:List En}{l:List (Nat×AV)}{t:Nat}{v:AV}(h:lk t (Zkl A l)=some v):(∃e∈A,e.tm=some (t,v))∨lk t l=some v:=by
 induction A with
 | nil=>exact .inr h
 | cons e r ih=>
   unfold Zkl at h
   split at h
   ·rename_i x hx
    obtain ⟨t',v'⟩:=x
    rw[Zs] at h
    split at h
    ·rename_i e1
     have:=Qa_ h
     subst this;subst e1
     exact .inl ⟨e,by simp,hx⟩
    ·rcases ih h with ⟨e',h1,h2⟩ | h1
     ·exact .inl ⟨e',Qq_ _ h1,h2⟩
     ·exact .inr h1
   ·rcases ih h with ⟨e',h1,h2⟩ | h1
    ·exact .inl ⟨e',Qq_ _ h1,h2⟩
    ·exact .inr h1
theorem ZrS{A:List En}{l:List (Nat×Loc)}{x:Nat×Loc}(h:x∈Zkm A l):(∃e∈A,e.ln=some x)∨x∈l:=by
 induction A with
 | nil=>exact .inr h
 | cons e r ih=>
   unfold Zkm at h
   split at h
   ·rename_i y hy
    rcases Q9_.1 h with rfl | h
    ·exact .inl ⟨e,by simp,hy⟩
    ·rcases ih h with ⟨e',h1,h2⟩ | h1
     ·exact .inl ⟨e',Qq_ _ h1,h2⟩
     ·exact .inr h1
   ·rcases ih h with ⟨e',h1,h2⟩ | h1
    ·exact .inl ⟨e',Qq_ _ h1,h2⟩
    ·exact .inr h1
theorem ZrT{A:List En}{l:List (Nat×List PV)}{b:Nat}(hd:Desc A):(∃e∈A,∃cs,e.bx=some (b,cs)∧lk b (ZhL A l)=some cs∧∀e'∈A,∀cs',e'.bx=some (b,cs')→e'.i≤e.i)∨((∀e∈A,∀cs,e.bx≠some (b,cs))∧lk b (ZhL A l)=lk b l):=by
 induction A with
 | nil=>exact .inr ⟨fun e he=>by simp at he,rfl⟩
 | cons e r ih=>
   unfold ZhL
   split
   ·rename_i x hx
    obtain ⟨b',cs⟩:=x
    by_cases e1:b=b'
    ·subst e1
     refine .inl ⟨e,by simp,cs,hx,by rw[Zs,if_pos rfl],fun e' he' cs' _=>?_⟩
     rcases Q9_.1 he' with rfl | he'
     ·exact Q2_ _
     ·exact Nat.le_of_lt (hd.1 e' he')
    ·rw[Zs,if_neg e1]
     rcases ih hd.2 with ⟨e',h1,cs',h2,h3,h4⟩ | ⟨h1,h2⟩
     ·refine .inl ⟨e',Qq_ _ h1,cs',h2,h3,fun e2 he2 cs2 hb2=>?_⟩
      rcases Q9_.1 he2 with rfl | he2
      ·rw[hx] at hb2;have:=Qa_ hb2;cases this;exact absurd rfl e1
      ·exact h4 e2 he2 cs2 hb2
     ·refine .inr ⟨fun e2 he2 cs2 hb2=>?_,h2⟩
      rcases Q9_.1 he2 with rfl | he2
      ·rw[hx] at hb2;have:=Qa_ hb2;cases this;exact absurd rfl e1
      ·exact h1 e2 he2 cs2 hb2
   ·rename_i hx
    rcases ih hd.2 with ⟨e',h1,cs',h2,h3,h4⟩ | ⟨h1,h2⟩
    ·refine .inl ⟨e',Qq_ _ h1,cs',h2,h3,fun e2 he2 cs2 hb2=>?_⟩
     rcases Q9_.1 he2 with rfl | he2
     ·rw[hx] at hb2;cases hb2
     ·exact h4 e2 he2 cs2 hb2
    ·refine .inr ⟨fun e2 he2 cs2 hb2=>?_,h2⟩
     rcases Q9_.1 he2 with rfl | he2
     ·rw[hx] at hb2;cases hb2
     ·exact h1 e2 he2 cs2 hb2
theorem Zne{A:List En}{S:Nat→Prop}(hR:RI β A S ρ)(hS:∀e∈A,S e.i)(hd:Desc A)(hI:Inv P B g ρ a w):Sub (ZbO β A) ρ:=by
 have bxs:∀b,lk b (ZbO β A).boxes=lk b ρ.boxes:=by
  intro b
  rcases ZrT (A:=A) (l:=β.boxes) (b:=b) hd with ⟨e,h1,cs,h2,h3,h4⟩ | ⟨h1,h2⟩
  ·rw[hR.bx e h1 (hS e h1) b cs h2 (fun e' he' cs' hcs' _=>h4 e' he' cs' hcs')]
   exact h3
  ·rw[hR.bx0 b (fun e he cs hcs=>absurd hcs (h1 e he cs))]
   exact h2
 have tms:∀t v,lk t (ZbO β A).tmps=some v→lk t ρ.tmps=some v:=by
  intro t v h
  rcases ZrR h with ⟨e,h1,h2⟩ | h1
  ·exact hR.tm e h1 (hS e h1) t v h2
  ·exact hR.tm0 t v h1
 have als:∀t l,(t,l)∈(ZbO β A).al→(t,l)∈ρ.al:=by
  intro t l h
  rcases ZrS h with ⟨e,h1,h2⟩ | h1
  ·exact hR.ln e h1 (hS e h1) t l h2
  ·exact hR.al0 t l h1
 exact ⟨hR.n,tms,fun b cs h=>by rw[←bxs];exact h,fun b hb=>by rw[←hR.ro] at hb;exact hb,fun t b off h=>by rw[bxs];exact hI.ptr t b off (tms _ _ h),fun t f bs h b hb=>by rw[bxs];exact hI.fnp t f bs (tms _ _ h) b hb,hR.own0,
  fun b c E h=>by rw[bxs];exact hI.ownt (.b b c) E (hR.own0 _ _ h),als,fun t b c h=>by rw[bxs];exact hI.alt t b c (als _ _ h),fun t b off n s h=>by rw[bxs];exact hI.sl t b off n s (tms _ _ h),fun b cs h y hy b' hb'=>by rw[bxs] at h ⊢;exact hI.ref b cs h y hy b' hb'⟩
theorem ZrU{D Src:List Nat}{ws:List (Nat×Nat)}{A:List En}:RI (Jw D Src ws σ) A (fun _=>False) σ:=
 ⟨rfl,rfl,fun _ _ h=>h.elim,fun t v h=>by
   rw[show (Jw D Src ws σ).tmps=σ.tmps.filter fun (t,_)=> !(has t D) from rfl,Zar (fun t=> !(has t D))] at h
   split at h
   ·exact h
   ·exact absurd h (by simp),fun _ _ h=>h.elim,fun _ _=>rfl,fun _ _ h=>h.elim,fun t l h=>(QY_.1 h).1,fun l E h=>by
   rw[show (Jw D Src ws σ).own=σ.own.filter fun (l,_)=>Y4 D ws l&&Y4 Src [] l from rfl,ZO (fun l=>Y4 D ws l&&Y4 Src [] l)] at h
   split at h
   ·exact h
   ·cases h⟩
end
section
variable {P:Program}{B:Nat}{g:G}{σ β ρ τ:St}{a:Act}{w:World}
def L(listed:Array Bool)(i:Nat):Prop:=listed.getD i false=true
theorem ZaQ{listed:Array Bool}{j:Nat}(hj:j < listed.size)(i:Nat):L (listed.setIfInBounds j true) i↔L listed i∨i=j:=by
 unfold L
 rw[QA_,QA_,K3_]
 by_cases e:j=i
 ·subst e;simp[hj]
 ·simp[e,Ne.symm e]
theorem Ztk{listed:Array Bool}{j:Nat}(h:listed.getD j true=false):¬L listed j∧j < listed.size:=by
 have hlt:j < listed.size:=by
  rcases Kg_ j listed.size with h1 | h1
  ·exact h1
  ·rw[QA_,Array.getElem?_eq_none h1] at h;simp at h
 refine ⟨fun hl=>?_,hlt⟩
 unfold L at hl
 rw[QA_,QC_ hlt] at h hl
 simp at h hl
 rw[h] at hl
 cases hl
theorem Zkq{listed:Array Bool}{j:Nat}(h:¬L listed j)(hlt:j < listed.size):listed.getD j true=false:=by
 unfold L at h
 rw[QA_,QC_ hlt] at *
 simpa using h
noncomputable def cnt(listed:Array Bool):Nat→Nat
 | 0=>0
 | i+1=>cnt listed i+(if listed.getD i false=true then 0 else 1)
theorem ZpU(listed:Array Bool):∀k,cnt listed k≤k
 | 0=>Q2_ _
 | k+1=>by have:=ZpU listed k;unfold cnt;split<;>omega
theorem JP{listed:Array Bool}:∀{k},cnt listed k=0→∀i,i < k→L listed i
 | 0,_,i,h=>by omega
 | k+1,h,i,hi=>by
   unfold cnt at h
   split at h
   ·by_cases e:i=k
    ·subst e;assumption
    ·exact JP (by omega) i (by omega)
   ·omega
theorem Znf{listed:Array Bool}:∀{k},cnt listed k≠0→∃i,i < k∧¬L listed i∧∀m,m < i→L listed m
 | 0,h=>absurd rfl h
 | k+1,h=>by
   by_cases e:cnt listed k=0
   ·refine ⟨k,by omega,fun hl=>?_,JP e⟩
    unfold cnt at h
    have hl':listed.getD k false=true:=hl
    rw[e,if_pos hl'] at h
    exact h rfl
   ·obtain ⟨i,h1,h2,h3⟩:=Znf e
    exact ⟨i,by omega,h2,h3⟩
theorem Zgy{listed:Array Bool}{j:Nat}(hj:j < listed.size):∀{k},k≤j→cnt (listed.setIfInBounds j true) k=cnt listed k
 | 0,_=>rfl
 | k+1,h=>by
   have e:((listed.setIfInBounds j true).getD k false=true)=(listed.getD k false=true):=propext (by
    have:=ZaQ hj k
    unfold L at this
    rw[this]
    exact ⟨fun h=>h.resolve_right (by omega),.inl⟩)
   unfold cnt
   rw[Zgy hj (by omega)]
   simp only[e]
theorem Zng{listed:Array Bool}{j:Nat}(hj:j < listed.size)(hn:¬L listed j):∀{k},j < k→cnt (listed.setIfInBounds j true) k+1=cnt listed k
 | 0,h=>by omega
 | k+1,h=>by
   unfold cnt
   by_cases e:j=k
   ·subst e
    have h1:(listed.setIfInBounds j true).getD j false=true:=(ZaQ hj j).2 (.inr rfl)
    have h2:¬listed.getD j false=true:=hn
    rw[Zgy hj (Q2_ _),if_pos h1,if_neg h2]
   ·have e2:((listed.setIfInBounds j true).getD k false=true)=(listed.getD k false=true):=propext (by
     have:=ZaQ hj k
     unfold L at this
     rw[this]
     exact ⟨fun h=>h.resolve_right (Ne.symm e),.inl⟩)
    have:=Zng hj hn (k:=k) (by omega)
    simp only[e2]
    omega
theorem Zfw{T:Nat→St→Oper→Option St}(hT:∀j σ o σ',T j σ o=some σ'→∀B g a w,Inv P B g σ a w→Goes P B g σ a w o σ'){ops:Array Oper}{k:Nat}
 (hdeps:∀j o,ops.toList[j]?=some o→∀i∈deps o,i < j) (hfull:∀j,k≤j→j < ops.size→∀{listed:Array Bool},(∀o,ops[j]?=some o→∀e∈o.after,Region.binds .any e=true→L listed e.on)→(∀s,L listed s→∀o,ops.toList[s]?=some o→∀i∈deps o,L listed i)→∀i,i < j→L listed i)
 {Q:Exit→Act→World→Prop} {σ':St}:∀(fuel m:Nat) (listed:Array Bool) (σ:St) (g:G) (a:Act) (w:World),Inv P B g σ a w→listed.size=ops.size→k≤m→m≤ops.size→(∀i,L listed i↔i < m)→ops.size - m≤fuel→tails T ops.toList (ops.toList.drop m) m σ=some σ'→
 (∀a' w',Post P B g σ w σ' a' w'→Q .normal a' w')→wpAny P .any ops Q fuel listed a w:=by
 have nord:∀(m:Nat) (listed:Array Bool),k≤m→m≤ops.size→(∀i,L listed i↔i < m)→∀j,j∈Region.ready .any ops listed→j=m∧m < ops.size:=by
  intro m listed hkm hmn hL j hj
  obtain ⟨h1,o,h2,h3⟩:=mem_ready.1 hj
  obtain ⟨h4,_⟩:=Ztk h1
  have hjm:¬j < m:=fun h=>h4 ((hL j).2 h)
  have hjn:j < ops.size:=(QL_.1 h2).1
  by_cases e:j=m
  ·exact ⟨e,by omega⟩
  ·have:=hfull j (by omega) hjn (listed:=listed) (fun o' ho' e he hb=>by rw[h2] at ho';cases ho';exact h3 e he hb)
    (fun s hs o' ho' i hi=>(hL i).2 (by have:=hdeps s o' ho' i hi;have:=(hL s).1 hs;omega)) m (by omega)
   have:=(hL m).1 this
   omega
 have rdy:∀(m:Nat) (listed:Array Bool),listed.size=ops.size→m < ops.size→(∀i,L listed i↔i < m)→m∈Region.ready .any ops listed:=by
  intro m listed hsz hm hL
  have ho:ops[m]?=some ops[m]:=QC_ hm
  refine mem_ready.2 ⟨Zkq (fun h=>by have:=(hL m).1 h;omega) (by omega),ops[m],ho,fun e he hb=>(hL e.on).2 ?_⟩
  refine hdeps m ops[m] (by rw[QX_];exact ho) e.on ?_
  unfold deps
  exact Ks_.2 ⟨e,QY_.2 ⟨by simpa using he,hb⟩,rfl⟩
 intro fuel
 induction fuel with
 | zero=>
   intro m listed σ g a w hI hsz hkm hmn hL hf ht hQ
   have:m=ops.size:=by omega
   subst this
   refine ⟨List.eq_nil_iff_forall_not_mem.2 fun j hj=>?_, ?_⟩
   ·have:=(nord _ listed hkm hmn hL j hj).2;omega
   ·rw[Q0_ (by simp)] at ht
    have:=Qa_ ht
    subst this
    exact hQ a w ⟨g,hI,Fr.refl⟩
 | succ fuel ih=>
   intro m listed σ g a w hI hsz hkm hmn hL hf ht hQ
   by_cases hm:m < ops.size
   ·refine ⟨fun hnil=>?_,fun j hj=>?_⟩
    ·have:=rdy m listed hsz hm hL
     rw[hnil] at this
     cases this
    ·obtain ⟨rfl,_⟩:=nord m listed hkm hmn hL j hj
     have ho:ops[j]?=some ops[j]:=QC_ hm
     have hdrop:ops.toList.drop j=ops[j]::ops.toList.drop (j+1):=by
      rw[Kw_ (by simpa using hm)]
      simp
     rw[hdrop] at ht
     have next:∀(σ1:St) (g1:G) (a1:Act) (w1:World),Inv P B g1 σ1 a1 w1→Fr B g σ w g1 σ1 w1→tails T ops.toList (ops.toList.drop (j+1)) (j+1) σ1=some σ'→wpAny P .any ops Q fuel (listed.setIfInBounds j true) a1 w1:=by
      intro σ1 g1 a1 w1 i1 f1 h1
      refine ih (j+1) _ σ1 g1 a1 w1 i1 (by simp[hsz]) (by omega) (by omega) (fun i=>?_) (by omega) h1 (fun a' w' hp=>hQ a' w' (hp.trans f1))
      rw[ZaQ (by omega),hL i]
      omega
     unfold wpOp
     rw[ho]
     simp only
     unfold tails at ht
     split at ht
     ·rename_i hg
      split at ht
      ·rename_i σ1 h1
       rw[Wa hI hg,if_pos rfl]
       exact .inl ((hT _ _ _ _ h1 B g a w hI).wp fun v w1 ⟨g1,i1,f1⟩=>next σ1 g1 _ w1 i1 f1 ht)
      ·cases ht
     ·rename_i hg
      rw[Wa hI hg,if_neg (by simp)]
      split at ht
      ·rename_i d hd
       rw[hd]
       exact next _ g _ w (ZdN hI d) (Zf7 d) ht
      ·rename_i hd
       rw[hd]
       exact next _ g _ w hI Fr.refl ht
     ·cases ht
   ·have:m=ops.size:=by omega
    subst this
    refine ⟨fun _=>?_,fun j hj=>?_⟩
    ·rw[Q0_ (by simp)] at ht
     have:=Qa_ ht
     subst this
     exact hQ a w ⟨g,hI,Fr.refl⟩
    ·have:=(nord _ listed hkm hmn hL j hj).2;omega
theorem Zkr{Γ:List (Nat×Ty)}(hΓ:ZW P Γ)(hm:P.follows .mixedOrders=true){R:Nat→St→Oper→Option Res}(hR:∀j τ o r,R j τ o=some r→XC P τ o r)
 {T:Nat→St→Oper→Option St} (hT:∀j σ o σ',T j σ o=some σ'→∀B g a w,Inv P B g σ a w→Goes P B g σ a w o σ') {ops:Array Oper} {ws:List (Nat×Nat)} {σ':St} (h:Zgv Γ R T ops.toList σ ws=some σ') {id:Nat}:Tri P (.region id ops true) σ .normal σ':=by
 intro B g a w hI
 refine wp_region_any hm ?_
 have hq:Qt g.hw w g.hw {w with drawn:=w.drawn+1}:=⟨⟨rfl,rfl,rfl,Q2_ _,fun _ _=>rfl⟩,fun _ _=>rfl,hI.hwlt⟩
 obtain ⟨hI0,hF0⟩:=Zc1 hI hq
 generalize ({w with drawn:=w.drawn+1}:World)=w0 at *
 unfold Zgv at h
 simp only at h
 generalize hclsd:Zaf ops.toList []=cls at *
 generalize hk:Xh cls ops.toList.length=k at *
 cases hb:(Zbk ops.toList 0&&Jx (Y0 (ops.toList.take k))&&ZnQ cls ws) with
 | false=>rw[hb] at h;cases h
 | true=>
   rw[hb] at h
   simp only[Qb_] at h
   simp only[Qh_] at hb
   obtain ⟨⟨hb1,hb2⟩,hb3⟩:=hb
   have hkn:k≤ops.size:=by rw[←hk];have:=Zfv (cls:=cls) (n:=ops.toList.length);simpa using this
   have hdeps:∀j o,ops.toList[j]?=some o→∀i∈deps o,i < j:=fun j o ho i hi=>by have:=Zgx hb1 j o ho i hi;omega
   have spec:∀{S:Nat→Prop},(∀j o,ops.toList[j]?=some o→S j→∀i∈deps o,S i)→∀j o,ops.toList[j]?=some o→(∀i∈deps o,S i)→∀i,bit (ZN cls j) i=true→S i:=by
    intro S hS j o ho hd i hi
    rw[←hclsd] at hi
    exact Zgw hS ops.toList [] [] rfl rfl (fun j o ho=>by simp at ho) j o ho hd i hi
   have hlow:∀j o,ops.toList[j]?=some o→∀i,bit (ZN cls j) i=true→i < j:=fun j o ho i hi=>
    spec (S:=fun i=>i < j) (fun j' o' ho' hj' i' hi'=>by have:=hdeps j' o' ho' i' hi';omega) j o ho (hdeps j o ho) i hi
   have mdep:∀{o:Oper} {i:Nat},i∈deps o→∃e∈o.after,Region.binds .any e=true∧e.on=i:=by
    intro o i hi
    unfold deps at hi
    obtain ⟨e,he,rfl⟩:=Ks_.1 hi
    obtain ⟨h1,h2⟩:=QY_.1 he
    exact ⟨e,by simpa using h1,h2,rfl⟩
   have hord:∀s s' b,(s,b)∈ws→(s',b)∈ws→s < s'→bit (ZN cls s') s=true:=by
    intro s s' b h1 h2 hlt
    have:=QK_.1 (QK_.1 hb3 _ h1) _ h2
    simp only[Kn_,Qi_] at this
    rcases this with (h3 | h3) | h3
    ·simp at h3
    ·have:Nat.blt s s'=true:=QF_ hlt
     rw[this] at h3;cases h3
    ·exact h3
   split at h
   ·rename_i A hA
    generalize hβ:Jw (Y0 (ops.toList.take k)) (WM (ops.toList.take k)) ws σ=β at *
    obtain ⟨hdesc,_,hA3,hA4⟩:=Zi3 hA trivial (fun e he=>by simp at he)
    have hops:∀j o,ops.toList[j]?=some o→j < k→(ops.toList.take k)[j]?=some o:=fun j o ho hj=>by rw[Kk_,if_pos hj];exact ho
    have hAk:∀e∈A,e.i < k∧∃o,ops.toList[e.i]?=some o:=by
     intro e he
     rcases hA3 e he with h1 | ⟨_,o,h2⟩
     ·simp at h1
     ·rw[Nat.sub_zero,Kk_] at h2
      split at h2
      ·exact ⟨by assumption,o,h2⟩
      ·cases h2
    -- each entry was made by its operation
    have hmk:∀e∈A,∃o,ops.toList[e.i]?=some o∧(∀t v,e.tm=some (t,v)→o.dst=some t)∧(∀t l,e.ln=some (t,l)→o.dst=some t∧Y4 (Y0 (ops.toList.take k)) ws l=true)∧∀b cs,e.bx=some (b,cs)→(e.i,b)∈ws:=by
     intro e he
     obtain ⟨h1,o,h2⟩:=hAk e he
     obtain ⟨e',q1,q2,A',q3,_⟩:=hA4 e.i o (hops _ _ h2 h1)
     have:e'=e:=hdesc.uniq q1 he (by omega)
     subst this
     obtain ⟨r1,r2,r3,r4⟩:=Zi2 q3
     rw[←r1] at r4
     exact ⟨o,h2,r2,r3,r4⟩
    let dOf:Nat→Option Nat:=fun i=>(ops.toList[i]?).bind (·.dst)
    have dof:∀{i o},ops.toList[i]?=some o→dOf i=o.dst:=fun ho=>by simp only[dOf,ho,Option.bind_some]
    -- the frame is built in whatever order
    have key:∀(fuel:Nat) (listed:Array Bool) (ρ:St) (g1:G) (a1:Act) (w1:World),Inv P B g1 ρ a1 w1→Fr B ⟨g.β,g.hw⟩ σ w0 g1 ρ w1→listed.size=ops.size→RI β A (L listed) ρ→(∀s,L listed s→∀o,ops.toList[s]?=some o→∀i∈deps o,L listed i)→(∀i,L listed i→i < k)→
     cnt listed k+(ops.size - k)≤fuel→wpAny P .any ops (fun ex a' w'=>ZhG .normal ex∧∃g',Inv P B g' σ' a' w'∧Fr B g σ w g' σ' w') fuel listed a1 w1:=by
     intro fuel
     induction fuel with
     | zero=>
       intro listed ρ g1 a1 w1 hI1 hF1 hsz hRI hcl hlk hf
       have hS:∀e∈A,L listed e.i:=fun e he=>JP (k:=k) (by omega) e.i (hAk e he).1
       have hsub:=Zne hRI hS hdesc hI1
       refine Zfw (k:=k) (B:=B) (σ':=σ') hT hdeps ?_ 0 k listed (ZbO β A) g1 a1 w1 (JN hI1 hsub) hsz (Q2_ _) hkn (fun i=>⟨hlk i,JP (by omega) i⟩) (by omega) h (fun a' w' hp=>?_)
       ·intro j hj hjn listed' h1 h2 i hi
        have ho:ops.toList[j]?=some ops[j]:=by rw[QX_];exact QC_ hjn
        refine spec (fun s o hso hs=>h2 s hs o hso) j _ ho (fun d hd=>?_) i ?_
        ·obtain ⟨e,e1,e2,rfl⟩:=mdep hd
         exact h1 _ (QC_ hjn) e e1 e2
        ·exact Jy (cls:=cls) (n:=ops.toList.length) j (by omega) (by simpa using hjn) i hi
       ·obtain ⟨g2,i2,f2⟩:=hp
        exact ⟨trivial,g2,i2,hF0.trans ((Zf6 hF1 hsub).trans f2)⟩
     | succ fuel ih=>
       intro listed ρ g1 a1 w1 hI1 hF1 hsz hRI hcl hlk hf
       by_cases hc:cnt listed k=0
       ·have hS:∀e∈A,L listed e.i:=fun e he=>JP hc e.i (hAk e he).1
        have hsub:=Zne hRI hS hdesc hI1
        refine Zfw (k:=k) (B:=B) (σ':=σ') hT hdeps ?_ (fuel+1) k listed (ZbO β A) g1 a1 w1 (JN hI1 hsub) hsz (Q2_ _) hkn (fun i=>⟨hlk i,JP hc i⟩) (by omega) h (fun a' w' hp=>?_)
        ·intro j hj hjn listed' h1 h2 i hi
         have ho:ops.toList[j]?=some ops[j]:=by rw[QX_];exact QC_ hjn
         refine spec (fun s o hso hs=>h2 s hs o hso) j _ ho (fun d hd=>?_) i ?_
         ·obtain ⟨e,e1,e2,rfl⟩:=mdep hd
          exact h1 _ (QC_ hjn) e e1 e2
         ·exact Jy (cls:=cls) (n:=ops.toList.length) j (by omega) (by simpa using hjn) i hi
        ·obtain ⟨g2,i2,f2⟩:=hp
         exact ⟨trivial,g2,i2,hF0.trans ((Zf6 hF1 hsub).trans f2)⟩
       ·obtain ⟨i0,p1,p2,p3⟩:=Znf hc
        refine ⟨fun hnil=>?_,fun j hj=>?_⟩
        ·have hi0:i0 < ops.size:=by omega
         have ho:ops[i0]?=some ops[i0]:=QC_ hi0
         have:i0∈Region.ready .any ops listed:=mem_ready.2 ⟨Zkq p2 (by omega),ops[i0],ho,fun e he hb=>p3 e.on (hdeps i0 ops[i0] (by rw[QX_];exact ho) e.on (Ks_.2 ⟨e,QY_.2 ⟨by simpa using he,hb⟩,rfl⟩))⟩
         rw[hnil] at this
         cases this
        ·obtain ⟨q1,o,q2,q3⟩:=mem_ready.1 hj
         obtain ⟨q4,q5⟩:=Ztk q1
         have hjn:j < ops.size:=(QL_.1 q2).1
         have ho:ops.toList[j]?=some o:=by rw[QX_];exact q2
         have hdl:∀i∈deps o,L listed i:=fun i hi=>by obtain ⟨e,e1,e2,rfl⟩:=mdep hi;exact q3 e e1 e2
         have hbits:∀i,bit (ZN cls j) i=true→L listed i:=spec (fun s o' hso hs=>hcl s hs o' hso) j o ho hdl
         have hjk:j < k:=by
          rcases Kg_ j k with h1 | h1
          ·exact h1
          ·exact absurd (hbits i0 (Jy (cls:=cls) (n:=ops.toList.length) j (by omega) (by simpa using hjn) i0 (by omega))) p2
         obtain ⟨e,r1,r2,A',r3,r4,r5,r6⟩:=hA4 j o (hops j o ho hjk)
         rw[QP_] at r2 r3 r6
         have hclb:∀s,L listed s→∀i,bit (ZN cls s) i=true→L listed i:=by
          intro s hs i hi
          have hsl:s < ops.size:=by have:=hlk s hs;omega
          have hso:ops.toList[s]?=some ops[s]:=by rw[QX_];exact QC_ hsl
          exact spec (fun s o' hso hs=>hcl s hs o' hso) s _ hso (hcl s hs _ hso) i hi
         have hsub:=ZtO (ws:=ws) (cls:=cls) (A:=A') (j:=j) hRI r5 r4 hbits q4 hclb (fun e he b cs hbx=>by obtain ⟨o',_,_,_,hh⟩:=hmk e he;exact hh b cs hbx) (fun e he hbit=>r6 e he (hlow j o ho _ hbit)) (Zbc ops.toList o)
         unfold wpOp
         rw[q2]
         simp only
         have hdOfD:∀i d,dOf i=some d→L listed i∨i=e.i→d∈Y0 (ops.toList.take k):=by
          intro i d hd hi
          have hik:i < k:=by
           rcases hi with hi | hi
           ·exact hlk i hi
           ·omega
          have hin:i < ops.size:=by omega
          have hio:ops.toList[i]?=some ops[i]:=by rw[QX_];exact QC_ hin
          rw[dof hio] at hd
          exact ZcS (hops i _ hio hik) hd
         refine (fun hh=>?_) (Zm0 hΓ hR r3 hI1 hsub hRI.ro (fun d hd hn hmin=>?_) (Q:=fun ex a' w'=>ZhG .normal ex∧∃g',Inv P B g' σ' a' w'∧Fr B g σ w g' σ' w') (K:=wpAny P .any ops (fun ex a' w'=>ZhG .normal ex∧∃g',Inv P B g' σ' a' w'∧Fr B g σ w g' σ' w') fuel (listed.setIfInBounds j true)) (fun ρ' a' w' hp hst=>?_))
         ·split
          ·rename_i hw;rw[if_pos hw] at hh;exact .inl hh
          ·rename_i hw;rw[if_neg hw] at hh;exact hh
         ·rw[hRI.bx0 d (fun e' he' cs hcs hS'=>?_)]
          ·exact hn
          ·obtain ⟨o',_,_,_,hh⟩:=hmk e' he'
           have hmem:=hh d cs hcs
           have h1:=hmin e'.i hmem
           have h2:e'.i≠j:=fun ee=>by rw[ee] at hS';exact q4 hS'
           exact q4 (hclb e'.i hS' j (hord j e'.i d hd hmem (by omega)))
         ·obtain ⟨g2,i2,f2⟩:=hp
          rw[←dof ho,←r2] at hst
          have hri:=RI.step (A:=A) (S:=L listed) (dOf:=dOf) (D:=Y0 (ops.toList.take k)) (Src:=WM (ops.toList.take k)) (ws:=ws) (cls:=cls) hRI hst (by rw[r2];exact q4) (fun e' he' hi=>hdesc.uniq he' r1 hi) hclb hdOfD
           (fun i hi d hd hd'=>by
             have hik:=hlk i hi
             have hin:i < ops.size:=by omega
             have hio:ops.toList[i]?=some ops[i]:=by rw[QX_];exact QC_ hin
             rw[dof hio] at hd
             rw[r2,dof ho] at hd'
             have:=Zkp hb2 (hops i _ hio hik) (hops j _ ho hjk) hd hd'
             rw[this] at hi
             exact q4 hi)
           (fun e' he' t v ht=>by obtain ⟨o',h1,h2,_⟩:=hmk e' he';rw[dof h1];exact h2 t v ht)
           (fun e' he' t l hl=>by obtain ⟨o',h1,_,h2,_⟩:=hmk e' he';rw[dof h1];exact h2 t l hl)
           (fun e' he' b cs hbx=>by obtain ⟨o',_,_,_,h2⟩:=hmk e' he';exact h2 b cs hbx) r1 hord
           (fun t v ht hm=>by
             rw[←hβ] at ht
             rw[show (Jw (Y0 (ops.toList.take k)) (WM (ops.toList.take k)) ws σ).tmps=σ.tmps.filter fun (t,_)=> !(has t (Y0 (ops.toList.take k))) from rfl,Zar (fun t=> !(has t (Y0 (ops.toList.take k)))),YE.2 hm] at ht
             cases ht)
           (fun t l hm=>by
             rw[←hβ] at hm
             have:=(QY_.1 hm).2
             simp only[Qh_,Qi_] at this
             exact ⟨fun hD=>by rw[YE.2 hD] at this;exact absurd this.1 (by simp),this.2⟩)
           (fun l E hl=>by
             rw[←hβ] at hl
             rw[show (Jw (Y0 (ops.toList.take k)) (WM (ops.toList.take k)) ws σ).own=σ.own.filter fun (l,_)=>Y4 (Y0 (ops.toList.take k)) ws l&&Y4 (WM (ops.toList.take k)) [] l from rfl,ZO (fun l=>Y4 (Y0 (ops.toList.take k)) ws l&&Y4 (WM (ops.toList.take k)) [] l)] at hl
             split at hl
             ·rename_i hkp;rw[Qh_] at hkp;exact hkp
             ·cases hl)
          have hSS:(fun i=>L listed i∨i=e.i)=L (listed.setIfInBounds j true):=by
           funext i
           rw[r2]
           exact propext (ZaQ q5 i).symm
          rw[hSS] at hri
          refine ih _ ρ' g2 a' w' i2 (hF1.trans f2) (by simp[hsz]) hri (fun s hs o' ho' i hi=>?_) (fun i hi=>?_) ?_
          ·rcases (ZaQ q5 s).1 hs with hs | hs
           ·exact (ZaQ q5 i).2 (.inl (hcl s hs o' ho' i hi))
           ·subst hs
            rw[ho] at ho'
            cases ho'
            exact (ZaQ q5 i).2 (.inl (hdl i hi))
          ·rcases (ZaQ q5 i).1 hi with hi | hi
           ·exact hlk i hi
           ·omega
          ·have:=Zng q5 q4 hjk
           omega
    refine key ops.size _ σ ⟨g.β,g.hw⟩ a w0 hI0 Fr.refl (by simp) ?_ (fun s hs=>?_) (fun i hi=>?_) ?_
    ·have hno:L (Array.replicate ops.size false)=fun _=>False:=by
      funext i
      refine propext ⟨fun hl=>?_,False.elim⟩
      unfold L at hl
      rw[QA_,Array.getElem?_replicate] at hl
      split at hl<;>simp at hl
     rw[hno,←hβ]
     exact ZrU
    ·unfold L at hs
     rw[QA_,Array.getElem?_replicate] at hs
     split at hs<;>simp at hs
    ·unfold L at hi
     rw[QA_,Array.getElem?_replicate] at hi
     split at hi<;>simp at hi
    ·have:=ZpU (Array.replicate ops.size false) k
     omega
   ·cases h
end
section
variable {P:Program}{B:Nat}{g:G}{σ:St}{a:Act}{w:World}{o:Oper}
end
def ZcT(N:List Nat):AV→Bool
 | .p _=>true
 | .ptr b _=> !(has b N)
 | .fnp _ bs=>bs.all fun b=> !(has b N)
 | .sl b _ _ _=> !(has b N)
def ZdW(N:List Nat):List (Nat×AV)→Nat→List (Nat×AV)
 | [],_=>[]
 | (t,v)::r,s=>bif bit s t then ZdW N r s else bif ZcT N v then (t,v)::ZdW N r (Nat.lor s (Nat.shiftLeft 1 t)) else ZdW N r (Nat.lor s (Nat.shiftLeft 1 t))
def JQ(N:List Nat):List (Nat×List PV)→Nat→List (Nat×List PV)
 | [],_=>[]
 | (b,v)::r,s=>bif bit s b then JQ N r s else bif has b N then JQ N r (Nat.lor s (Nat.shiftLeft 1 b)) else (b,v)::JQ N r (Nat.lor s (Nat.shiftLeft 1 b))
def Zav(N:List Nat):Loc→Bool
 | .t _=>true
 | .b b _=> !(has b N)
def Zaw(N:List Nat)(σ:St):St:=
 {σ with tmps:=ZdW N σ.tmps 0,boxes:=JQ N σ.boxes 0,own:=σ.own.filter fun (l,_)=>Zav N l,al:=σ.al.filter fun (_,l)=>Zav N l}
def spB:List (Nat×List PV)→List (Nat×List Nat)
 | []=>[]
 | (b,cs)::r=>match WK cs with
   | []=>spB r
   | l=>(b,l)::spB r
def Zcm{α:Type}(b:Nat):List (Nat×α)→Bool
 | []=>false
 | (b',_)::r=>Nat.beq b b'||Zcm b r
def Zcn(N:List Nat)(sp:List (Nat×List Nat)):List (Nat×List Nat)→List Nat
 | []=>[]
 | (b,l)::r=>bif l.any (fun b'=>has b' N||Zcm b' sp) then b::Zcn N sp r else Zcn N sp r
def clean(N:List Nat)(σ:St):St:=match spB σ.boxes with
 | []=>Zaw N σ
 | sp=>Zaw (Zcn N sp sp++N) σ
def Zbd:List Oper→List Nat
 | []=>[]
 | o::r=>match o.op,o.dst with
   | .alloc _,some d=>d::Zbd r
   | .box _ _,some d=>d::Zbd r
   | .buildSlice _ _ _,some d=>d::Zbd r
   | .call ⟨.builtin .append,_,_⟩,some d=>d::Zbd r
   | _,_=>Zbd r
def Wp:Code→List Nat
 | .region _ ops _=>Zbd ops.toList
 | .seq x y=>Wp x++Wp y
 | .cond _ x y=>Wp x++Wp y
 | .block _ c=>Wp c
 | .loop c=>Wp c
 | .scope c=>Wp c
 | _=>[]
def ZeQ(ops:List Oper)(σ:St):Nat→Operand→Option Nat
 | 0,_=>none
 | n+1,.tmp t=>match ops.find? (fun o=>match o.dst with | some d=>Nat.beq d t | none=>false) with
   | some o=>match o.op with
     | .alloc _=>some t
     | .box _ _=>some t
     | .fieldAddr _ p _=>ZeQ ops σ n p
     | .indexAddr _ p _=>ZeQ ops σ n p
     | .nilCheck p=>ZeQ ops σ n p
     | .move p=>ZeQ ops σ n p
     | .assign p=>ZeQ ops σ n p
     | _=>none
   | none=>match lk t σ.tmps with
     | some (.ptr b _)=>some b
     | _=>none
 | _,_=>none
def ZdX(ops:List Oper)(σ:St):List Oper→Nat→List (Nat×Nat)
 | [],_=>[]
 | o::r,j=>match o.op,o.dst with
   | .alloc _,some d=>(j,d)::ZdX ops σ r (j+1)
   | .box _ _,some d=>(j,d)::ZdX ops σ r (j+1)
   | .store _ p _,_=>match ZeQ ops σ 20 p with
     | some b=>(j,b)::ZdX ops σ r (j+1)
     | none=>ZdX ops σ r (j+1)
   | _,_=>ZdX ops σ r (j+1)
def ZnR(Γ:List (Nat×Ty))(R:Nat→St→Oper→Option Res)(T:Nat→St→Oper→Option St)(ops:Array Oper)(d:Bool)(σ:St):Option St:=
 match d with
 | true=>Zgv Γ R T ops.toList σ (ZdX ops.toList σ (ops.toList.take (Xh (Zaf ops.toList []) ops.toList.length)) 0)
 | false=>tails T ops.toList ops.toList 0 σ
section
variable {P:Program}{B:Nat}{g:G}{σ τ:St}{a:Act}{w:World}
theorem Zks{N:List Nat}{t:Nat}{v:AV}:∀{l:List (Nat×AV)} {s:Nat},lk t (ZdW N l s)=some v→bit s t=false∧lk t l=some v∧ZcT N v=true
 | [],s,h=>by simp[ZdW,lk] at h
 | (t0,v0)::r,s,h=>by
   unfold ZdW at h
   have go:∀{s'},(∀i,bit s i=true→bit s' i=true)→bit s' t0=true→lk t (ZdW N r s')=some v→bit s t=false∧lk t ((t0,v0)::r)=some v∧ZcT N v=true:=by
    intro s' hs h0 h
    obtain ⟨h1,h2,h3⟩:=Zks h
    have hne:t≠t0:=fun e=>by rw[e,h0] at h1;cases h1
    refine ⟨?_,by rw[Zs,if_neg hne];exact h2,h3⟩
    cases hb:bit s t with
    | false=>rfl
    | true=>rw[hs t hb] at h1;cases h1
   have up:∀i,bit s i=true→bit (Nat.lor s (Nat.shiftLeft 1 t0)) i=true:=fun i hi=>by rw[Zbl,hi];rfl
   have up0:bit (Nat.lor s (Nat.shiftLeft 1 t0)) t0=true:=by
    rw[Zbl]
    have:bit (Nat.shiftLeft 1 t0) t0=true:=by
     show Nat.testBit (1 <<< t0) t0=true
     rw[Nat.testBit_shiftLeft];simp
    rw[this];simp
   cases hb:bit s t0 with
   | true=>
     rw[hb] at h
     exact go (fun _ h=>h) hb h
   | false=>
     rw[hb] at h
     simp only[Qd_] at h
     cases ho:ZcT N v0 with
     | true=>
       rw[ho] at h
       simp only[Qb_,Zs] at h
       split at h
       ·rename_i e
        have:=Qa_ h
        subst this;subst e
        exact ⟨hb,by rw[Zs,if_pos rfl],ho⟩
       ·exact go up up0 h
     | false=>
       rw[ho] at h
       exact go up up0 h
theorem ZfA{N:List Nat}{t:Nat}{v:List PV}:∀{l:List (Nat×List PV)} {s:Nat},lk t (JQ N l s)=some v→bit s t=false∧lk t l=some v
 | [],s,h=>by simp[JQ,lk] at h
 | (t0,v0)::r,s,h=>by
   unfold JQ at h
   have go:∀{s'},(∀i,bit s i=true→bit s' i=true)→bit s' t0=true→lk t (JQ N r s')=some v→bit s t=false∧lk t ((t0,v0)::r)=some v:=by
    intro s' hs h0 h
    obtain ⟨h1,h2⟩:=ZfA h
    have hne:t≠t0:=fun e=>by rw[e,h0] at h1;cases h1
    refine ⟨?_,by rw[Zs,if_neg hne];exact h2⟩
    cases hb:bit s t with
    | false=>rfl
    | true=>rw[hs t hb] at h1;cases h1
   have up:∀i,bit s i=true→bit (Nat.lor s (Nat.shiftLeft 1 t0)) i=true:=fun i hi=>by rw[Zbl,hi];rfl
   have up0:bit (Nat.lor s (Nat.shiftLeft 1 t0)) t0=true:=by
    rw[Zbl]
    have:bit (Nat.shiftLeft 1 t0) t0=true:=by
     show Nat.testBit (1 <<< t0) t0=true
     rw[Nat.testBit_shiftLeft];simp
    rw[this];simp
   cases hb:bit s t0 with
   | true=>
     rw[hb] at h
     exact go (fun _ h=>h) hb h
   | false=>
     rw[hb] at h
     simp only[Qd_] at h
     cases ho:has t0 N with
     | true=>
       rw[ho] at h
       exact go up up0 h
     | false=>
       rw[ho] at h
       simp only[Qd_,Zs] at h
       split at h
       ·rename_i e
        have:=Qa_ h
        subst this;subst e
        exact ⟨hb,by rw[Zs,if_pos rfl]⟩
       ·exact go up up0 h
theorem ZcU{N:List Nat}{t:Nat}{v:List PV}:∀{l:List (Nat×List PV)} {s:Nat},lk t (JQ N l s)=some v→has t N=false
 | [],s,h=>by simp[JQ,lk] at h
 | (t0,v0)::r,s,h=>by
   unfold JQ at h
   cases hb:bit s t0 with
   | true=>rw[hb] at h;exact ZcU h
   | false=>
     rw[hb] at h
     simp only[Qd_] at h
     cases ho:has t0 N with
     | true=>rw[ho] at h;exact ZcU h
     | false=>
       rw[ho] at h
       simp only[Qd_] at h
       rw[Zs] at h
       split at h
       ·rename_i e;rw[e];exact ho
       ·exact ZcU h
theorem ZcV{N:List Nat}{t:Nat}{v:List PV}(hN:has t N=false):∀{l:List (Nat×List PV)} {s:Nat},bit s t=false→lk t l=some v→∃v',lk t (JQ N l s)=some v'
 | [],s,_,h=>by simp[lk] at h
 | (t0,v0)::r,s,hs,h=>by
   have keep:∀{t1},t≠t1→bit (Nat.lor s (Nat.shiftLeft 1 t1)) t=false:=by
    intro t1 hne
    rw[Zbl,hs]
    cases hb:bit (Nat.shiftLeft 1 t1) t with
    | false=>rfl
    | true=>exact absurd (Znc hb) hne
   unfold JQ
   by_cases e:t=t0
   ·subst e
    rw[hs,hN]
    simp only[Qd_,Zs,Ku_]
    exact ⟨v0,rfl⟩
   ·rw[Zs,if_neg e] at h
    cases hb:bit s t0 with
    | true=>exact ZcV hN hs h
    | false=>
      simp only[Qd_]
      cases ho:has t0 N with
      | true=>exact ZcV hN (keep e) h
      | false=>
        simp only[Qd_,Zs,if_neg e]
        exact ZcV hN (keep e) h
theorem Zgz{N:List Nat}(hI:Inv P B g σ a w)(hcl:∀b cs,lk b σ.boxes=some cs→has b N=false→∀y∈cs,∀b',YZ y=some b'→has b' N=false):Sub (Zaw N σ) σ:=by
 have tm:∀t v,lk t (Zaw N σ).tmps=some v→lk t σ.tmps=some v∧ZcT N v=true:=fun t v h=>(Zks h).2
 have bx:∀b,has b N=false→(∃cs,lk b σ.boxes=some cs)→∃cs,lk b (Zaw N σ).boxes=some cs:=fun b hb ⟨cs,h⟩=>ZcV hb (ZcR b) h
 have ow:∀l E,lkL l (Zaw N σ).own=some E→lkL l σ.own=some E∧Zav N l=true:=by
  intro l E h
  rw[show (Zaw N σ).own=σ.own.filter fun (l,_)=>Zav N l from rfl,ZO (Zav N)] at h
  split at h
  ·exact ⟨h,by assumption⟩
  ·cases h
 have al:∀t l,(t,l)∈(Zaw N σ).al→(t,l)∈σ.al∧Zav N l=true:=fun t l h=>QY_.1 h
 refine ⟨rfl,fun t v h=>(tm t v h).1,fun b cs h=>(ZfA h).2,fun _ h=>h,fun t b off h=>?_,fun t f bs h b hb=>?_,fun l E h=>(ow l E h).1,fun b c E h=>?_,fun t l h=>(al t l h).1,fun t b c h=>?_,fun t b off n s h=>?_,fun b cs h y hy b' hb'=>?_⟩
 ·obtain ⟨h1,h2⟩:=tm t _ h
  exact bx b (by simpa [ZcT] using h2) (hI.ptr t b off h1)
 ·obtain ⟨h1,h2⟩:=tm t _ h
  exact bx b (by simpa using QK_.1 h2 b hb) (hI.fnp t f bs h1 b hb)
 ·obtain ⟨h1,h2⟩:=ow _ E h
  exact bx b (by simpa [Zav] using h2) (hI.ownt (.b b c) E h1)
 ·obtain ⟨h1,h2⟩:=al t _ h
  exact bx b (by simpa [Zav] using h2) (hI.alt t b c h1)
 ·obtain ⟨h1,h2⟩:=tm t _ h
  exact bx b (by simpa [ZcT] using h2) (hI.sl t b off n s h1)
 ·have h1:=ZcU h
  have h2:=(ZfA h).2
  exact bx b' (hcl b cs h2 h1 y hy b' hb') (hI.ref b cs h2 y hy b' hb')
theorem ZhM:∀{l:List (Nat×List PV)} {b:Nat} {cs:List PV},lk b l=some cs→∀{y:PV},y∈cs→∀{b':Nat},YZ y=some b'→∃rs,(b,rs)∈spB l∧b'∈rs
 | [],b,cs,h,_,_,_,_=>by simp[lk] at h
 | (b1,c1)::r,b,cs,h,y,hy,b',hb'=>by
   rw[Zs] at h
   split at h
   ·rename_i e
    have:=Qa_ h
    subst this;subst e
    have hm:=Jr hy hb'
    unfold spB
    split
    ·rename_i hn;rw[hn] at hm;cases hm
    ·exact ⟨_,Qv_ ..,hm⟩
   ·obtain ⟨rs,h1,h2⟩:=ZhM h hy hb'
    unfold spB
    split
    ·exact ⟨rs,h1,h2⟩
    ·exact ⟨rs,Qq_ _ h1,h2⟩
theorem Znh{α:Type}{b:Nat}:∀{l:List (Nat×α)} {x:α},(b,x)∈l→Zcm b l=true
 | [],_,h=>by simp at h
 | (b',z)::r,x,h=>by
   unfold Zcm
   rcases Q9_.1 h with e | h
   ·cases e;simp
   ·rw[Znh h,Q5_]
theorem ZfB{N:List Nat}{sp:List (Nat×List Nat)}:∀{l:List (Nat×List Nat)} {b:Nat},b∈Zcn N sp l→∃rs,(b,rs)∈l
 | [],_,h=>by simp[Zcn] at h
 | (b1,l1)::r,b,h=>by
   unfold Zcn at h
   cases hb:l1.any (fun b'=>has b' N||Zcm b' sp) with
   | false=>rw[hb] at h;obtain ⟨rs,h⟩:=ZfB h;exact ⟨rs,Qq_ _ h⟩
   | true=>
     rw[hb] at h
     rcases Q9_.1 h with e | h
     ·subst e;exact ⟨l1,Qv_ ..⟩
     ·obtain ⟨rs,h⟩:=ZfB h;exact ⟨rs,Qq_ _ h⟩
theorem ZhN{N:List Nat}{sp:List (Nat×List Nat)}:∀{l:List (Nat×List Nat)} {b b':Nat} {rs:List Nat},(b,rs)∈l→b'∈rs→(has b' N||Zcm b' sp)=true→b∈Zcn N sp l
 | [],_,_,_,h,_,_=>by simp at h
 | (b1,l1)::r,b,b',rs,h,hm,hx=>by
   unfold Zcn
   rcases Q9_.1 h with e | h
   ·obtain ⟨rfl,rfl⟩:=Prod.mk.inj e
    have:rs.any (fun b'=>has b' N||Zcm b' sp)=true:=List.any_eq_true.2 ⟨b',hm,hx⟩
    rw[this]
    exact Qv_ ..
   ·cases l1.any (fun b'=>has b' N||Zcm b' sp) with
    | false=>exact ZhN h hm hx
    | true=>exact Qq_ _ (ZhN h hm hx)
theorem Zi4{N:List Nat}(hI:Inv P B g σ a w):Sub (clean N σ) σ:=by
 unfold clean
 cases hsp:spB σ.boxes with
 | nil=>
   refine Zgz hI (fun b cs h _ y hy b' hb'=>?_)
   obtain ⟨rs,h1,_⟩:=ZhM h hy hb'
   rw[hsp] at h1
   cases h1
 | cons s1 r1=>
   simp only
   rw[←hsp]
   refine Zgz hI (fun b cs h hb y hy b' hb'=>?_)
   obtain ⟨rs,h1,h2⟩:=ZhM h hy hb'
   have hbn:b∉Zcn N (spB σ.boxes) (spB σ.boxes):=fun hm=>by
    rw[YE.2 (Kf_ _ hm)] at hb
    cases hb
   have h3:(has b' N||Zcm b' (spB σ.boxes))=false:=by
    cases hx:(has b' N||Zcm b' (spB σ.boxes)) with
    | false=>rfl
    | true=>exact absurd (ZhN h1 h2 hx) hbn
   rw[Ka_] at h3
   cases hq:has b' (Zcn N (spB σ.boxes) (spB σ.boxes)++N) with
   | false=>rfl
   | true=>
     rcases Kt_.1 (YE.1 hq) with hm | hm
     ·obtain ⟨rs',hm'⟩:=ZfB hm
      rw[Znh hm'] at h3
      exact absurd h3.2 (by simp)
     ·rw[YE.2 hm] at h3
      exact absurd h3.1 (by simp)
theorem Wq{N:List Nat}{c:Code}{e:Ex}{σ':St}(h:Tri P c (clean N σ) e σ'):Tri P c σ e σ':=fun B g a w hI=>
 wp_mono (h B g a w (JN hI (Zi4 hI))) fun _ _ _ ⟨h1,g',h2,h3⟩=>⟨h1,g',h2,Zkd h3 (Zi4 hI)⟩
theorem ZbP{T:Nat→St→Oper→Option St}(hT:∀j σ o σ',T j σ o=some σ'→∀B g a w,Inv P B g σ a w→Goes P B g σ a w o σ'){ops:Array Oper}{Q:Exit→Act→World→Prop}:
 ∀{l:List Oper} {j:Nat} {σ σ':St} {g:G} {a:Act} {w:World},Inv P B g σ a w→tails T ops.toList l j σ=some σ'→(∀a' w',Post P B g σ w σ' a' w'→Q .normal a' w')→wpList P ops Q l a w
 | [],j,σ,σ',g,a,w,hI,h,hQ=>by
   have:=Qa_ h
   subst this
   exact hQ a w ⟨g,hI,Fr.refl⟩
 | o::r,j,σ,σ',g,a,w,hI,h,hQ=>by
   unfold tails at h
   refine wpList_step fun K hK=>?_
   split at h
   ·rename_i hg
    split at h
    ·rename_i σ1 h1
     rw[Wa hI hg,if_pos rfl]
     exact (hT _ _ _ _ h1 B g a w hI).wp fun v w1 ⟨g1,i1,f1⟩=>hK _ _ (ZbP hT i1 h fun a' w' hp=>hQ a' w' (hp.trans f1))
    ·cases h
   ·rename_i hg
    rw[Wa hI hg,if_neg (by simp)]
    split at h
    ·rename_i d hd
     rw[hd]
     exact hK _ _ (ZbP hT (ZdN hI d) h fun a' w' hp=>hQ a' w' (hp.trans (Zf7 d)))
    ·rename_i hd
     rw[hd]
     exact hK _ _ (ZbP hT hI h hQ)
   ·cases h
theorem Zm1{Γ:List (Nat×Ty)}(hΓ:ZW P Γ)(hm:P.follows .mixedOrders=true){R:Nat→St→Oper→Option Res}(hR:∀j τ o r,R j τ o=some r→XC P τ o r)
 {T:Nat→St→Oper→Option St} (hT:∀j σ o σ',T j σ o=some σ'→∀B g a w,Inv P B g σ a w→Goes P B g σ a w o σ') {id:Nat} {ops:Array Oper} {d:Bool} {σ':St} (h:ZnR Γ R T ops d σ=some σ'):Tri P (.region id ops d) σ .normal σ':=by
 cases d with
 | true=>exact Zkr hΓ hm hR hT h
 | false=>exact fun B g a w hI=>wp_region_list (ZbP hT hI h fun a' w' hp=>⟨trivial,hp⟩)
end
def Zl:List Nat→List PV→List PV→Option Bool
 | [],[],[]=>some true
 | 0::sh,.v (.int k a)::r,.v (.int k' b)::s=>bif decide (k=k') then (match Zl sh r s with | some c=>some (a==b&&c) | none=>none) else none
 | 1::sh,.v (.bool a)::r,.v (.bool b)::s=>match Zl sh r s with | some c=>some (a==b&&c) | none=>none
 | 2::sh,.str a::r,.str b::s=>match Zl sh r s with | some c=>some (a==b&&c) | none=>none
 | 3::sh,.v (.complex k a b)::r,.v (.complex k' a' b')::s=>bif decide (k=k') then (match Zl sh r s with | some c=>some (Op.floatEq k a a'&&Op.floatEq k b b'&&c) | none=>none) else none
 | _,_,_=>none
def Zkt(P:Program)(T:TypeId)(sh:List Nat):Prop:=
 P.eqGuardType P.depth T=false∧∀hw w vs ws xs ys b,ArgsRep hw w vs xs→ArgsRep hw w ws ys→Zl sh xs ys=some b→(Op.equalIn 10000 T (.agg vs.toArray) (.agg ws.toArray)).run P w= .ok b w
def CCOk(P:Program)(f:FuncId):Prop:=
 (∀args w,(callFunc f args).run P w= .ok (.enter f args) w)∧
 (∀(b:Nat) (w:World),w.cell? ⟨b,0,none⟩=some (.pointer none)→w.shape? b=some (Jp,2)→w.frozen? ⟨b,0,none⟩=false→
   Calls P f #[.pointer (some ⟨b,0,none⟩)] w fun e w'=>e= .returned (.tuple #[])∧w'=w.setCell ⟨b,0,none⟩ (.pointer (some ⟨b,0,none⟩)))∧
 (∀(b:Nat) (w:World),w.cell? ⟨b,0,none⟩=some (.pointer (some ⟨b,0,none⟩))→Calls P f #[.pointer (some ⟨b,0,none⟩)] w fun e w'=>e= .returned (.tuple #[])∧w'=w)
def ZdY(P:Program)(f:FuncId)(e:TypeId):Prop:=
 (∀args w,(callFunc f args).run P w= .ok (.enter f args) w)∧
 (∀(b g cap cells:Nat) (l:List UInt8) (w:World),w.cell? ⟨b,1,none⟩=some (.slice (some ⟨g,0,none⟩) l.length cap)→w.shape? g=some (e,cells)→l≠[]→l.length≤cap→l.length≤cells→l.length≤maxLen→
   (∀(j:Nat) (x:UInt8),l[j]?=some x→w.cell? ⟨g,j,none⟩=some (.int .u8 x.toNat))→
   Calls P f #[.pointer (some ⟨b,0,none⟩)] w fun e w'=>e= .returned (.string ⟨l.toArray⟩)∧w'=w.drew.freeze ⟨g,0,none⟩ l.length)∧
 (∀(b:Nat) (w:World),w.cell? ⟨b,1,none⟩=some (.slice none 0 0)→Calls P f #[.pointer (some ⟨b,0,none⟩)] w fun e w'=>e= .returned (.string ⟨#[]⟩)∧w'=w.drew)
structure Env where
 Γ:List (Nat×Ty)
 eqs:List (Nat×List Nat)
 bools:List Nat
 ints:List (Nat×IntKind)
 flts:List (Nat×FloatKind)
 ifcs:List Nat
 fns:List (Nat×Func)
 wr:List Nat
 libs:List Nat
 lib:Nat→List PV→Option PV
 inl:List Nat
 cc:List Nat
 bst:List (Nat×Nat)
 sla:List Nat
structure EnvOk(P:Program)(E:Env):Prop where
 Γ:ZW P E.Γ
 mixed:P.follows .mixedOrders=true
 eqs:∀T sh,lk T E.eqs=some sh→Zkt P T sh
 bools:∀T,has T E.bools=true→P.underlying T=some .bool
 ints:∀T k,lk T E.ints=some k→P.underlying T=some (.int k)
 flts:∀T k,lk T E.flts=some k→P.underlying T=some (.float k)
 ifcs:∀T,has T E.ifcs=true→∃ms,P.underlying T=some (.interface ms)
 lib:∀f args r,E.lib f args=some r→Con P f args r
 cc:∀f,has f E.cc=true→CCOk P f
 bst:∀f e,lk f E.bst=some e→ZdY P f e∧∃i,P.info? e=some i∧i.size=1
 fns:∀f fn,lk f E.fns=some fn→P.funcs[f]?=some fn∧∀args w,(callFunc f args).run P w= .ok (.enter f args) w
def Zjr(op:BinOp)(k:IntKind)(a b:Int):Option PV:=
 match op with
 | .and=>some (.v (.int k (k.wrap (BitVec.ofInt k.bits a&&& BitVec.ofInt k.bits b).toNat)))
 | .or=>some (.v (.int k (k.wrap (BitVec.ofInt k.bits a||| BitVec.ofInt k.bits b).toNat)))
 | .xor=>some (.v (.int k (k.wrap (BitVec.ofInt k.bits a ^^^ BitVec.ofInt k.bits b).toNat)))
 | .andNot=>some (.v (.int k (k.wrap (BitVec.ofInt k.bits a&&& ~~~(BitVec.ofInt k.bits b)).toNat)))
 | _=>none
def Zg0(op:BinOp)(a b:Bool):Option PV:=
 match op with
 | .eql=>some (.v (.bool (a==b)))
 | .neq=>some (.v (.bool (!(a==b))))
 | _=>none
def Zku(op:BinOp)(x y:Value):Option Value:=
 match x,y with
 | .float k a,.float k' b=>bif decide (k=k') then (match op with
   | .eql=>some (.bool (k.format.order a b==some .eq))
   | .neq=>some (.bool (k.format.order a b !=some .eq))
   | .lss=>some (.bool (k.format.order a b==some .lt))
   | .leq=>some (.bool (k.format.order a b==some .lt||k.format.order a b==some .eq))
   | .gtr=>some (.bool (k.format.order a b==some .gt))
   | .geq=>some (.bool (k.format.order a b==some .gt||k.format.order a b==some .eq))
   | .add=>match k.format.add a b with | some r=>some (.float k r) | none=>none
   | .sub=>match k.format.sub a b with | some r=>some (.float k r) | none=>none
   | .mul=>match k.format.mul a b with | some r=>some (.float k r) | none=>none
   | _=>none) else none
 | .complex k a b,.complex k' c d=>bif decide (k=k') then (match op with
   | .eql=>some (.bool (k.format.order a c==some .eq&&k.format.order b d==some .eq))
   | .neq=>some (.bool (!(k.format.order a c==some .eq&&k.format.order b d==some .eq)))
   | .add=>match k.format.add a c,k.format.add b d with | some r,some s=>some (.complex k r s) | _,_=>none
   | .sub=>match k.format.sub a c,k.format.sub b d with | some r,some s=>some (.complex k r s) | _,_=>none
   | _=>none) else none
 | _,_=>none
def YF(E:Env)(op:BinOp)(T:TypeId)(x y:PV):Option (List Obl):=
 match x,y with
 | .v (.int k a),.v (.int k' b)=>match op with
   | .quo=>bif b==0 then none else some [.pr True]
   | .rem=>bif b==0 then none else some [.pr True]
   | .shl=>bif decide (0≤b) then some [.pr True] else none
   | .shr=>bif decide (0≤b) then some [.pr True] else none
   | op=>match Zjr op k a b with
     | some r=>bif decide (k=k') then some [.bin op T x y r] else none
     | none=>some []
 | .v (.bool a),.v (.bool b)=>bif has T E.bools then (match Zg0 op a b with | some r=>some [.bin op T x y r] | none=>none) else none
 | .agg xs,.agg ys=>match lk T E.eqs with
   | some sh=>match Zl sh xs ys with
     | some b=>match op with
       | .eql=>some [.bin op T x y (.v (.bool b))]
       | .neq=>some [.bin op T x y (.v (.bool (!b)))]
       | _=>none
     | none=>none
   | none=>none
 | .v a,.v b=>match Zku op a b with
   | some r=>some [.bin op T x y (.v r)]
   | none=>none
 | .str a,.str b=>match op with
   | .add=>bif Nat.ble (a.length+b.length) 9223372036854775807 then some [.pr True] else none
   | _=>some []
 | _,_=>none
section
variable {P:Program}
theorem Zbm:ZM P []:=fun o h=>by simp at h
theorem Z4{o:Obl}(h:o.holds P):ZM P [o]:=fun o' h'=>by simp at h';subst h';exact h
theorem ZnS{op:BinOp}{T:TypeId}{k:IntKind}{a b:Int}{r:PV}(h:Zjr op k a b=some r):(Obl.bin op T (.v (.int k a)) (.v (.int k b)) r).holds P:=by
 intro hw w vx vy ox oy hx hy
 rw[Z6 hx,Z6 hy,eqGuard_at_int]
 cases op<;>simp only[Zjr,Option.some.injEq,reduceCtorEq] at h<;>(subst h;exact ⟨_,by simp[binOp,Op.intBits],.v _ rfl⟩)
theorem ZnT{op:BinOp}{T:TypeId}{a b:Bool}{r:PV}(hT:P.underlying T=some .bool)(h:Zg0 op a b=some r):(Obl.bin op T (.v (.bool a)) (.v (.bool b)) r).holds P:=by
 intro hw w vx vy ox oy hx hy
 rw[Z6 hx,Z6 hy]
 have hg:(eqGuard op T ox oy (.bool a) (.bool b)).run P w= .ok () w:=by cases op<;>simp[eqGuard]
 have he:(Op.equal T (.bool a) (.bool b)).run P w= .ok (a==b) w:=run_equalIn_bool' w 9999 T a b hT
 cases op<;>simp only[Zg0,Option.some.injEq,reduceCtorEq] at h
 ·subst h
  exact ⟨.bool (a==b),by rw[Sem.run_bind,hg,Result.andThen_ok];simp[binOp,he],.v _ rfl⟩
 ·subst h
  exact ⟨.bool (!(a==b)),by rw[Sem.run_bind,hg,Result.andThen_ok];simp[binOp,he],.v _ rfl⟩
theorem ZpV{op:BinOp}{T:TypeId}{a b r:Value}(h:Zku op a b=some r):(Obl.bin op T (.v a) (.v b) (.v r)).holds P:=by
 intro hw w vx vy ox oy hx hy
 rw[Z6 hx,Z6 hy]
 unfold Zku at h
 split at h
 ·rename_i k a k' b
  cases hk:decide (k=k') with
  | false=>rw[hk] at h;cases h
  | true=>
    rw[hk] at h
    have:=Qy_ hk
    subst this
    have hg:(eqGuard op T ox oy (.float k a) (.float k b)).run P w= .ok () w:=by cases op<;>simp[eqGuard]
    rw[Sem.run_bind,hg,Result.andThen_ok]
    simp only[Qb_] at h
    split at h
    all_goals first
     | (have:=Qa_ h;subst this;exact ⟨_,by simp[binOp,Op.floatCmp],.v _ rfl⟩)
     | (split at h
        ·rename_i r0 hr0
         have:=Qa_ h;subst this
         exact ⟨_,by simp[binOp,Op.floatArith,hr0],.v _ rfl⟩
        ·cases h)
     | cases h
 ·rename_i k a b k' c d
  cases hk:decide (k=k') with
  | false=>rw[hk] at h;cases h
  | true=>
    rw[hk] at h
    have:=Qy_ hk
    subst this
    have hg:(eqGuard op T ox oy (.complex k a b) (.complex k c d)).run P w= .ok () w:=by cases op<;>simp[eqGuard]
    rw[Sem.run_bind,hg,Result.andThen_ok]
    simp only[Qb_] at h
    split at h
    all_goals first
     | (have:=Qa_ h;subst this;exact ⟨_,by simp[binOp,Op.complexOp,Op.Complex.cmp,Op.floatCmp,asBool],.v _ rfl⟩)
     | (split at h
        ·rename_i r0 s0 hr0 hs0
         have:=Qa_ h;subst this
         exact ⟨_,by simp[binOp,Op.complexOp,Op.Complex.arith,Op.floatArith,hr0,hs0],.v _ rfl⟩
        ·cases h)
     | cases h
 ·cases h
theorem ZpW{T:TypeId}{sh:List Nat}{xs ys:List PV}{b:Bool}(hE:Zkt P T sh)(h:Zl sh xs ys=some b):
 (Obl.bin .eql T (.agg xs) (.agg ys) (.v (.bool b))).holds P∧(Obl.bin .neq T (.agg xs) (.agg ys) (.v (.bool (!b)))).holds P:=by
 constructor
 ·intro hw w vx vy ox oy hx hy
  obtain ⟨vs,rfl,hv⟩:=Wl hx
  obtain ⟨ws,rfl,hu⟩:=Wl hy
  have:=hE.2 hw w vs ws xs ys b ⟨hv.len,hv.rep⟩ ⟨hu.len,hu.rep⟩ h
  exact ⟨.bool b,by rw[Sem.run_bind,run_eqGuard_agg w _ _ _ _ _ _ hE.1,Result.andThen_ok,run_eql_struct,this,Result.andThen_ok],.v _ rfl⟩
 ·intro hw w vx vy ox oy hx hy
  obtain ⟨vs,rfl,hv⟩:=Wl hx
  obtain ⟨ws,rfl,hu⟩:=Wl hy
  have:=hE.2 hw w vs ws xs ys b ⟨hv.len,hv.rep⟩ ⟨hu.len,hu.rep⟩ h
  exact ⟨.bool (!b),by rw[Sem.run_bind,run_eqGuard_agg w _ _ _ _ _ _ hE.1,Result.andThen_ok,run_neq_struct,this,Result.andThen_ok],.v _ rfl⟩
theorem Zi5{op:BinOp}{T:TypeId}{x y:PV}{os' ob:List Obl}{r:PV}(h:Y1 op T x y []=some (r,os',ob)):os'=[]∧ob=[]:=by
 unfold Y1 at h
 split at h
 ·rename_i e;cases e
 ·split at h
  all_goals first
   | (have:=Qa_ h;cases this;exact ⟨rfl,rfl⟩)
   | (cases h;done)
   | skip
  rename_i k a k' b _ _ _ _
  cases hk:decide (k=k') with
  | false=>rw[hk] at h;cases h
  | true=>
    rw[hk] at h
    simp only[Qb_] at h
    split at h
    ·have:=Qa_ h;cases this;exact ⟨rfl,rfl⟩
    ·cases h
theorem ZnU{E:Env}(hE:EnvOk P E){op:BinOp}{T:TypeId}{x y:PV}{os os' ob:List Obl}{r:PV}(h:YF E op T x y=some os)(h':Y1 op T x y os=some (r,os',ob)):os'=[]∧ZM P ob:=by
 have binC:∀{r0:PV},os=[.bin op T x y r0]→(Obl.bin op T x y r0).holds P→os'=[]∧ZM P ob:=by
  intro r0 e ho
  subst e
  unfold Y1 at h'
  have:=Qa_ h'
  cases this
  exact ⟨rfl,Z4 ho⟩
 unfold YF at h
 split at h
 ·rename_i k a k' b
  split at h
  ·cases hb:(b==0) with
   | true=>rw[hb] at h;cases h
   | false=>
     rw[hb] at h
     have:=Qa_ h
     subst this
     simp only[Y1] at h'
     cases hk:decide (k=k') with
     | false=>rw[hk] at h';cases h'
     | true=>
       rw[hk] at h'
       have:=Qa_ h'
       cases this
       exact ⟨rfl,Z4 (show b≠0 from by simpa using hb)⟩
  ·cases hb:(b==0) with
   | true=>rw[hb] at h;cases h
   | false=>
     rw[hb] at h
     have:=Qa_ h
     subst this
     simp only[Y1] at h'
     cases hk:decide (k=k') with
     | false=>rw[hk] at h';cases h'
     | true=>
       rw[hk] at h'
       have:=Qa_ h'
       cases this
       exact ⟨rfl,Z4 (show b≠0 from by simpa using hb)⟩
  ·cases hb:decide (0≤b) with
   | false=>rw[hb] at h;cases h
   | true=>
     rw[hb] at h
     have:=Qa_ h
     subst this
     simp only[Y1] at h'
     have:=Qa_ h'
     cases this
     exact ⟨rfl,Z4 (show 0≤b from Qy_ hb)⟩
  ·cases hb:decide (0≤b) with
   | false=>rw[hb] at h;cases h
   | true=>
     rw[hb] at h
     have:=Qa_ h
     subst this
     simp only[Y1] at h'
     have:=Qa_ h'
     cases this
     exact ⟨rfl,Z4 (show 0≤b from Qy_ hb)⟩
  ·split at h
   ·rename_i r0 hr0
    cases hk:decide (k=k') with
    | false=>rw[hk] at h;cases h
    | true=>
      rw[hk] at h
      have:=Qa_ h
      have hkk:=Qy_ hk
      subst hkk
      exact binC this.symm (ZnS hr0)
   ·have:=Qa_ h
    subst this
    obtain ⟨h1,h2⟩:=Zi5 h'
    subst h2
    exact ⟨h1,Zbm⟩
 ·rename_i a b
  cases hb:has T E.bools with
  | false=>rw[hb] at h;cases h
  | true=>
    rw[hb] at h
    simp only[Qb_] at h
    split at h
    ·rename_i r0 hr0
     exact binC (Qa_ h).symm (ZnT (hE.bools T hb) hr0)
    ·cases h
 ·rename_i xs ys
  split at h
  ·rename_i sh hsh
   split at h
   ·rename_i b hb
    obtain ⟨h1,h2⟩:=ZpW (hE.eqs T sh hsh) hb
    split at h
    ·exact binC (Qa_ h).symm h1
    ·exact binC (Qa_ h).symm h2
    ·cases h
   ·cases h
  ·cases h
 ·rename_i a b _ _
  split at h
  ·rename_i r0 hr0
   exact binC (Qa_ h).symm (ZpV hr0)
  ·cases h
 ·rename_i a b
  split at h
  ·cases hb:Nat.ble (a.length+b.length) 9223372036854775807 with
   | false=>rw[hb] at h;cases h
   | true=>
     rw[hb] at h
     have:=Qa_ h
     subst this
     simp only[Y1] at h'
     have:=Qa_ h'
     cases this
     exact ⟨rfl,Z4 (show a.length+b.length≤9223372036854775807 from Qm_ hb)⟩
  ·have:=Qa_ h
   subst this
   obtain ⟨h1,h2⟩:=Zi5 h'
   subst h2
   exact ⟨h1,Zbm⟩
 ·cases h
end
abbrev YU:=Nat→List PV→Option PV
def ZbQ(Γ:List (Nat×Ty))(T:TypeId)(x i:PV):Option (List Obl):=
 match lk T Γ,i with
 | some ty,.v (.int _ n)=>match ty.kd,x with
   | 4,.str l=>bif decide (0≤n)&&decide (n < l.length) then some [.pr True] else none
   | 2,.agg cs=>match lk ty.elem Γ with
     | some ety=>match (chunk ety.size ty.len cs)[n.toNat]? with
       | some y=>bif decide (0≤n) then some [.idx [] 0 y] else none
       | none=>none
     | none=>none
   | _,_=>none
 | _,_=>none
def XX(Γ:List (Nat×Ty))(T:TypeId)(x:AV)(i:PV):Option (List Obl):=
 match lk T Γ,i with
 | some ty,.v (.int _ n)=>match ty.kd,x with
   | 3,.p (.lst xs)=>match xs[n.toNat]? with
     | some y=>bif decide (0≤n) then some [.idx [] 0 y] else none
     | none=>none
   | 2,_=>bif decide (0≤n)&&decide (n < ty.len) then some [.pr True] else none
   | _,_=>none
 | _,_=>none
def XG(n:Nat)(l:List (List PV)):Bool:=l.all fun x=>Nat.beq x.length n
def YR(Γ:List (Nat×Ty))(T:TypeId)(x:PV)(lo hi:Option PV):Option (List Obl):=
 match lk T Γ with
 | some ty=>match ty.kd,x,lo,hi with
   | 4,.str l,some (.v (.int _ a)),some (.v (.int _ b))=>bif decide (0≤a)&&decide (a≤b)&&decide (b≤l.length) then some [.pr True] else none
   | 4,.str l,some (.v (.int _ a)),none=>bif decide (0≤a)&&decide (a≤l.length) then some [.pr True] else none
   | 4,.str l,none,some (.v (.int _ b))=>bif decide (0≤b)&&decide (b≤l.length) then some [.pr True] else none
   | 3,.lst l,lo,hi=>match lk ty.elem Γ,lo,hi with
     | some ety,some (.v (.int _ a)),some (.v (.int _ b))=>bif decide (0≤a)&&decide (a≤b)&&decide (b≤l.length)&&XG ety.size l then some [.pr True] else none
     | some ety,some (.v (.int _ a)),none=>bif decide (0≤a)&&decide (a≤l.length)&&XG ety.size l then some [.pr True] else none
     | some ety,none,some (.v (.int _ b))=>bif decide (0≤b)&&decide (b≤l.length)&&XG ety.size l then some [.pr True] else none
     | _,_,_=>none
   | _,_,_,_=>none
 | none=>none
def bytesOf:List (List PV)→Option (List UInt8)
 | []=>some []
 | [.v (.int .u8 n)]::r=>bif decide (0≤n)&&decide (n < 256) then (match bytesOf r with | some l=>some (UInt8.ofNat n.toNat::l) | none=>none) else none
 | _=>none
def XD(E:Env)(S:TypeId):Bool:=
 match lk S E.Γ with
 | some ty=>Nat.beq ty.kd 3&&(match lk ty.elem E.ints with | some .u8=>true | _=>false)
 | none=>false
def Ys(E:Env)(S:TypeId):Bool:=
 match lk S E.Γ with
 | some ty=>Nat.beq ty.kd 4
 | none=>false
def Zkv(E:Env)(S T:TypeId)(n:Int):Option PV:=
 match lk S E.ints with
 | some _=>match lk T E.ints with
   | some k=>some (.v (.int k (k.wrap n)))
   | none=>match lk T E.flts with
     | some k=>some (.v (.float k (k.nearest n)))
     | none=>none
 | none=>none
def Zkw(E:Env)(S T:TypeId)(s:FloatKind)(b:Nat):Option PV:=
 match lk T E.ints,lk S E.flts with
 | some k,some _=>match (s.decode b).toInt .zero with
   | some n=>bif decide (k.min≤n)&&decide (n≤k.max) then some (.v (.int k n)) else none
   | none=>none
 | _,_=>none
def Zkx(E:Env)(S T:TypeId)(xs:List (List PV)):Option PV:=
 bif XD E S&&Ys E T then (match bytesOf xs with | some l=>some (.str l) | none=>none) else none
def Zc5(E:Env)(S T:TypeId)(x:PV):Option PV:=
 match x with
 | .v (.int _ n)=>Zkv E S T n
 | .v (.float s b)=>Zkw E S T s b
 | .lst xs=>Zkx E S T xs
 | .nil=>bif XD E S&&Ys E T then some (.str []) else none
 | .str l=>bif Ys E S&&Ys E T then some (.str l) else none
 | _=>none
def ZhO(b:Builtin)(xs:List PV):Option PV:=
 match b,xs with
 | .complex,[.v (.float k a),.v (.float k' c)]=>bif decide (k=k') then some (.v (.complex k a c)) else none
 | .real,[.v (.complex k a _)]=>some (.v (.float k a))
 | .imag,[.v (.complex k _ b)]=>some (.v (.float k b))
 | _,_=>none
def ZcW(call:YU)(σ:St)(f:Operand)(args:List Operand):Option PV:=
 match opd σ f,Xt (opd σ) args with
 | some (.p (.fn g cs)),some l=>match YQ σ.boxes l with
   | some (xs,_)=>call g (xs++cs)
   | none=>none
 | some (.fnp g bs),some l=>match YQ σ.boxes l,ZaN σ.boxes bs with
   | some (xs,_),some cs=>call g (xs++cs)
   | _,_=>none
 | _,_=>none
def X0(E:Env)(call:YU)(σ:St)(o:Oper):Option (List Obl):=
 match o.op with
 | .call ⟨.value f,args,_⟩=>match ZcW call σ f args.toList with
   | some r=>some [.call 0 [] r]
   | none=>none
 | .binOp op T x y _=>match Zw σ x,Zw σ y with
   | some a,some b=>YF E op T a b
   | _,_=>none
 | .index T x i=>match Zw σ x,Zw σ i with
   | some a,some j=>ZbQ E.Γ T a j
   | _,_=>none
 | .indexAddr T x i=>match opd σ x,Zw σ i with
   | some a,some j=>XX E.Γ T a j
   | _,_=>none
 | .slice T x lo hi none=>match Zw σ x with
   | some a=>match lo,hi with
     | none,none=>none
     | some l,none=>match Zw σ l with | some l=>YR E.Γ T a (some l) none | none=>none
     | none,some h=>match Zw σ h with | some h=>YR E.Γ T a none (some h) | none=>none
     | some l,some h=>match Zw σ l,Zw σ h with | some l,some h=>YR E.Γ T a (some l) (some h) | _,_=>none
   | none=>none
 | .slice _ _ _ _ (some _)=>none
 | .convert S T x=>match Zw σ x with
   | some a=>match Zc5 E S T a with
     | some r=>some [.cvt S T a r]
     | none=>none
   | none=>none
 | .call ⟨.builtin b,args,ats⟩=>match Xt (Zw σ) args.toList with
   | some xs=>match ZhO b xs with
     | some r=>some [.blt b ats o.type xs r]
     | none=>some []
   | none=>none
 | _=>some []
def Zjs(Γ:List (Nat×Ty))(T:TypeId)(l c:PV):Option PV:=
 match lk T Γ,l,c with
 | some ty,.v (.int _ n),.v (.int _ m)=>bif decide (n=m)&&decide (0≤n)&&Nat.beq ty.kd 3 then
    match lk ty.elem Γ with
    | some ety=>bif Nat.beq ety.size 0||Nat.ble 16777216 (n.toNat *ety.size)||Nat.ble 16777216 (n.toNat *ety.bytes)|| !(Nat.beq ety.zero.length ety.size) then none else some (.lst (chunk ety.size n.toNat (reps n.toNat ety.zero)))
    | none=>none
   else none
 | _,_,_=>none
def Zg1(E:Env)(S T:TypeId)(l:List UInt8):Option PV:=
 bif Ys E S&&XD E T then some (.lst (l.map fun b=>[.v (.int .u8 b.toNat)])) else none
def Zky:Operand→Bool
 | .const .nilIface=>true
 | _=>false
def Zkz(E:Env)(op:BinOp)(T:TypeId)(x:PV):Option PV:=
 match op,x with
 | .eql,.v .nilIface=>bif has T E.ifcs then some (.v (.bool true)) else none
 | .neq,.v .nilIface=>bif has T E.ifcs then some (.v (.bool false)) else none
 | _,_=>none
def RRgen(E:Env)(call:YU)(σ:St)(o:Oper):Option Res:=
 match X0 E call σ o with
 | some os=>match W7 E.Γ σ o os with
   | some (r,_,_)=>some r
   | none=>none
 | none=>none
def Zbn(σ:St)(o:Oper)(x:Option PV):Option Res:=
 match o.dst,x with
 | some d,some x=>bif Nat.blt d σ.n then some ⟨.p x,none,none⟩ else none
 | _,_=>none
def RR(E:Env)(call:YU)(_:Nat)(σ:St)(o:Oper):Option Res:=
 match o.op with
 | .makeSlice T l c=>match Zw σ l,Zw σ c with
   | some l,some c=>Zbn σ o (Zjs E.Γ T l c)
   | _,_=>none
 | .convert S T x=>match Zw σ x with
   | some (.str l)=>match Zg1 E S T l with
     | some r=>Zbn σ o (some r)
     | none=>RRgen E call σ o
   | _=>RRgen E call σ o
 | .binOp op T x y _=>match Zky y with
   | true=>match Zw σ x with
     | some a=>Zbn σ o (Zkz E op T a)
     | none=>none
   | false=>RRgen E call σ o
 | _=>RRgen E call σ o
section
variable {P:Program}{B:Nat}{g:G}{σ τ:St}{a:Act}{w:World}{o:Oper}
theorem ZrV{op:UnOp}{x:PV}{os' ob:List Obl}{r:PV}(h:ZjR op x []=some (r,os',ob)):os'=[]∧ob=[]:=by
 unfold ZjR at h
 split at h
 ·rename_i e;cases e
 ·split at h
  all_goals first
   | (have:=Qa_ h;cases this;exact ⟨rfl,rfl⟩)
   | (cases h;done)
theorem Zjd{Γ:List (Nat×Ty)}{b:Builtin}{ats:Array TypeId}{T:TypeId}{xs:List PV}{os' ob:List Obl}{r:PV}(h:Jf Γ b ats T xs []=some (r,os',ob)):os'=[]∧ob=[]:=by
 unfold Jf at h
 split at h
 ·rename_i e;cases e
 ·repeat' split at h
  all_goals first
   | (have:=Qa_ h;cases this;exact ⟨rfl,rfl⟩)
   | (cases h;done)
theorem ZnV{Γ:List (Nat×Ty)}{os' ob:List Obl}{r:Res}(h:Zj Γ σ o []=some (r,os',ob))(h1:∀op T x y yT,o.op≠ .binOp op T x y yT)(h2:∀f args ats,o.op≠ .call ⟨.value f,args,ats⟩)(h3:∀T x i,o.op≠ .index T x i)(h4:∀T x i,o.op≠ .indexAddr T x i)(h5:∀T x lo hi mx,o.op≠ .slice T x lo hi mx):os'=[]∧ob=[]:=by
 have val:∀{q:Option PV},(match q with | some x=>some ((⟨.p x,none,none⟩:Res),([]:List Obl),([]:List Obl)) | none=>none)=some (r,os',ob)→os'=[]∧ob=[]:=by
  intro q h
  split at h
  ·have:=Qa_ h;cases this;exact ⟨rfl,rfl⟩
  ·cases h
 have out:∀{q:Out PV},(∀x o1 o2,q=some (x,o1,o2)→o1=[]∧o2=[])→(match q with | some (x,os,ob)=>some ((⟨.p x,none,none⟩:Res),os,ob) | none=>none)=some (r,os',ob)→os'=[]∧ob=[]:=by
  intro q hq h
  obtain ⟨x,h1,_⟩:=Y2 h
  exact hq x _ _ h1
 obtain ⟨dst,op,type,pos,after,guard⟩:=o
 cases op with
 | binOp op T x y yT=>exact absurd rfl (h1 op T x y yT)
 | index T x i=>exact absurd rfl (h3 T x i)
 | indexAddr T x i=>exact absurd rfl (h4 T x i)
 | slice T x lo hi mx=>exact absurd rfl (h5 T x lo hi mx)
 | call c=>
   obtain ⟨callee,args,ats⟩:=c
   cases callee with
   | value f=>exact absurd rfl (h2 f args ats)
   | builtin b=>
     simp only[Zj] at h
     split at h
     ·exact out (fun x o1 o2 hq=>Zjd hq) h
     ·cases h
   | invoke r m=>exact absurd h (by simp[Zj])
 | unOp op T x=>
   simp only[Zj] at h
   split at h
   ·exact out (fun x o1 o2 hq=>ZrV hq) h
   ·cases h
 | convert S T x=>
   simp only[Zj] at h
   split at h
   ·rename_i e;cases e
   ·cases h
 | pick c x y=>simp only[Zj] at h;split at h<;>first | exact val h | cases h
 | build T ps=>simp only[Zj] at h;split at h<;>first | exact val h | cases h
 | buildSlice T n ps=>simp only[Zj] at h;split at h<;>first | exact val h | cases h
 | field T x f=>simp only[Zj] at h;split at h<;>first | exact val h | cases h
 | extract x i=>simp only[Zj] at h;split at h<;>first | exact val h | cases h
 | makeFunc fn first caps=>
   cases fn with
   | func f=>
     simp only[Zj] at h
     split at h
     ·split at h
      ·cases hb:Nat.beq first.size 0 with
       | false=>rw[hb] at h;cases h
       | true=>rw[hb] at h;have:=Qa_ h;cases this;exact ⟨rfl,rfl⟩
      ·cases h
     ·cases h
   | _=>exact absurd h (by simp[Zj])
 | _=>
   first
    | (simp only[Zj] at h;(repeat' split at h);all_goals first | (have:=Qa_ h;cases this;exact ⟨rfl,rfl⟩) | (cases h;done))
    | exact absurd h (by simp[Zj])
theorem Jb{n:Nat}{l:List (List PV)}(h:XG n l=true):Lens n l:=fun x hx=>Qj_ (QK_.1 h x hx)
theorem Zbo{Γ:List (Nat×Ty)}{T:TypeId}{x:PV}{lo hi:Option PV}{os os' ob:List Obl}{r:PV}(h:YR Γ T x lo hi=some os)(h':Yw Γ T x lo hi os=some (r,os',ob)):os'=[]∧ZM P ob:=by
 unfold YR at h
 split at h
 ·rename_i ty hty
  split at h
  ·rename_i l k a k' b hk
   cases hb:(decide (0≤a)&&decide (a≤b)&&decide (b≤l.length)) with
   | false=>rw[hb] at h;cases h
   | true=>
     rw[hb] at h
     have:=Qa_ h
     subst this
     simp only[Qh_] at hb
     simp only[Yw,hty,hk] at h'
     have:=Qa_ h'
     cases this
     exact ⟨rfl,Z4 (show 0≤a∧a≤b∧b≤l.length from ⟨Qy_ hb.1.1,Qy_ hb.1.2,Qy_ hb.2⟩)⟩
  ·rename_i l k a hk
   cases hb:(decide (0≤a)&&decide (a≤l.length)) with
   | false=>rw[hb] at h;cases h
   | true=>
     rw[hb] at h
     have:=Qa_ h
     subst this
     simp only[Qh_] at hb
     simp only[Yw,hty,hk] at h'
     have:=Qa_ h'
     cases this
     exact ⟨rfl,Z4 (show 0≤a∧a≤l.length from ⟨Qy_ hb.1,Qy_ hb.2⟩)⟩
  ·rename_i l k b hk
   cases hb:(decide (0≤b)&&decide (b≤l.length)) with
   | false=>rw[hb] at h;cases h
   | true=>
     rw[hb] at h
     have:=Qa_ h
     subst this
     simp only[Qh_] at hb
     simp only[Yw,hty,hk] at h'
     have:=Qa_ h'
     cases this
     exact ⟨rfl,Z4 (show 0≤b∧b≤l.length from ⟨Qy_ hb.1,Qy_ hb.2⟩)⟩
  ·rename_i l hk
   split at h
   ·rename_i ety k a k' b hety
    cases hb:(decide (0≤a)&&decide (a≤b)&&decide (b≤l.length)&&XG ety.size l) with
    | false=>rw[hb] at h;cases h
    | true=>
      rw[hb] at h
      have:=Qa_ h
      subst this
      simp only[Qh_] at hb
      simp only[Yw,hty,hk,hety] at h'
      have:=Qa_ h'
      cases this
      exact ⟨rfl,Z4 (show 0≤a∧a≤b∧b≤l.length∧Lens ety.size l from ⟨Qy_ hb.1.1.1,Qy_ hb.1.1.2,Qy_ hb.1.2,Jb hb.2⟩)⟩
   ·rename_i ety k a hety
    cases hb:(decide (0≤a)&&decide (a≤l.length)&&XG ety.size l) with
    | false=>rw[hb] at h;cases h
    | true=>
      rw[hb] at h
      have:=Qa_ h
      subst this
      simp only[Qh_] at hb
      simp only[Yw,hty,hk,hety] at h'
      have:=Qa_ h'
      cases this
      exact ⟨rfl,Z4 (show 0≤a∧a≤l.length∧Lens ety.size l from ⟨Qy_ hb.1.1,Qy_ hb.1.2,Jb hb.2⟩)⟩
   ·rename_i ety k b hety
    cases hb:(decide (0≤b)&&decide (b≤l.length)&&XG ety.size l) with
    | false=>rw[hb] at h;cases h
    | true=>
      rw[hb] at h
      have:=Qa_ h
      subst this
      simp only[Qh_] at hb
      simp only[Yw,hty,hk,hety] at h'
      have:=Qa_ h'
      cases this
      exact ⟨rfl,Z4 (show 0≤b∧b≤l.length∧Lens ety.size l from ⟨Qy_ hb.1.1,Qy_ hb.1.2,Jb hb.2⟩)⟩
   ·cases h
  ·cases h
 ·cases h
theorem ZcX{E:Env}(hE:EnvOk P E){S:TypeId}(h:XD E S=true):∃e,P.underlying S=some (.slice e)∧P.underlying e=some (.int .u8):=by
 unfold XD at h
 split at h
 ·rename_i ty hty
  rw[Qh_] at h
  obtain ⟨_,hk3,_⟩:=Ym (ZF (hE.Γ _ _ hty))
  refine ⟨ty.elem,hk3 (Qj_ h.1), ?_⟩
  have h2:=h.2
  split at h2
  ·rename_i hu;exact hE.ints _ _ hu
  ·cases h2
 ·cases h
theorem Ji{E:Env}(hE:EnvOk P E){S:TypeId}(h:Ys E S=true):P.underlying S=some .string:=by
 unfold Ys at h
 split at h
 ·rename_i ty hty
  exact (Ym (ZF (hE.Γ _ _ hty))).2.2 (Qj_ h)
 ·cases h
theorem Zco:∀{xs:List (List PV)} {l:List UInt8},bytesOf xs=some l→l.length=xs.length∧∀(j:Nat) (hj:j < l.length),xs[j]?=some [.v (.int .u8 (l[j].toNat:Int))]
 | [],l,h=>by
   have:=Qa_ h
   subst this
   exact ⟨rfl,fun j hj=>by simp at hj⟩
 | x::r,l,h=>by
   unfold bytesOf at h
   split at h
   ·rename_i e;cases e
   ·rename_i n r' e
    cases e
    cases hb:(decide (0≤n)&&decide (n < 256)) with
    | false=>rw[hb] at h;cases h
    | true=>
      rw[hb] at h
      simp only[Qb_] at h
      rw[Qh_] at hb
      have h0:=Qy_ hb.1
      have h1:=Qy_ hb.2
      split at h
      ·rename_i l' hl'
       have:=Qa_ h
       subst this
       obtain ⟨e1,e2⟩:=Zco hl'
       refine ⟨by simp[e1],fun j hj=>?_⟩
       cases j with
       | zero=>
         have:((UInt8.ofNat n.toNat).toNat:Int)=n:=by
          rw[UInt8.toNat_ofNat']
          omega
         simp only[List.getElem?_cons_zero,List.getElem_cons_zero,this]
       | succ j=>
         simp only[List.getElem?_cons_succ,List.getElem_cons_succ]
         exact e2 j (by simpa using hj)
      ·cases h
   ·cases h
theorem ZnW{E:Env}(hE:EnvOk P E){S T:TypeId}{x r:PV}(h:Zc5 E S T x=some r):(Obl.cvt S T x r).holds P:=by
 unfold Zc5 at h
 split at h
 ·rename_i k n
  unfold Zkv at h
  split at h
  ·rename_i k2 hS
   have e2:=hE.ints S k2 hS
   split at h
   ·rename_i k1 hT
    have:=Qa_ h
    subst this
    intro hw w vx hx
    rw[Z6 hx]
    have e1:=hE.ints T k1 hT
    have e3:P.intKind T=k1:=by simp[Program.intKind,e1]
    exact ⟨.int k1 (k1.wrap n),by rw[run_convert_int w S T k n (by rw[e2];rfl) (by rw[e3];exact e1),e3],.v _ rfl⟩
   ·split at h
    ·rename_i k1 hT
     have:=Qa_ h
     subst this
     intro hw w vx hx
     rw[Z6 hx]
     exact ⟨_,run_convert_int_float w S T k k1 n (by rw[e2];rfl) (hE.flts T k1 hT),.v _ rfl⟩
    ·cases h
  ·cases h
 ·rename_i s b
  unfold Zkw at h
  split at h
  ·rename_i k k2 hT hS
   split at h
   ·rename_i n hn
    cases hb:(decide (k.min≤n)&&decide (n≤k.max)) with
    | false=>rw[hb] at h;cases h
    | true=>
      rw[hb] at h
      have:=Qa_ h
      subst this
      rw[Qh_] at hb
      have hr:k.min≤n∧n≤k.max:=⟨Qy_ hb.1,Qy_ hb.2⟩
      intro hw w vx hx
      rw[Z6 hx]
      refine ⟨.int k n, ?_,.v _ rfl⟩
      have e1:=hE.ints T k hT
      have e2:=hE.flts S k2 hS
      have e3:(convert S T (.float s b)).run P w=(Conv.floatToInt s b k).run P w:=by simp[convert,run_underlying e1,run_underlying e2]
      rw[e3]
      simp[Conv.floatToInt,hn,hr]
   ·cases h
  ·cases h
 ·rename_i xs
  unfold Zkx at h
  cases hb:(XD E S&&Ys E T) with
  | false=>rw[hb] at h;cases h
  | true=>
    rw[hb] at h
    simp only[Qb_] at h
    rw[Qh_] at hb
    obtain ⟨e,hS,he⟩:=ZcX hE hb.1
    have hT:=Ji hE hb.2
    split at h
    ·rename_i l hl
     have:=Qa_ h
     subst this
     obtain ⟨h1,h2⟩:=Zco hl
     intro hw w vx hx
     generalize hq:(PV.lst xs)=q at *
     cases hx with
     | lnil=>
       cases hq
       cases hl
       refine ⟨.string ⟨([]:List UInt8).toArray⟩, ?_,.str []⟩
       rw[run_convert_bytes_string w S T e none 0 0 hS he hT]
       rfl
     | lst xs' blk off cap s c hcap hlen hc hr h1' hh=>
       cases hq
       refine ⟨.string ⟨l.toArray⟩, ?_,.str l⟩
       rw[←h1]
       refine run_convert_bytes_back w S T e ⟨blk,off,none⟩ cap l hS he hT fun j hj=>?_
       have hx:=h2 j hj
       have hs:s=1:=(hlen j _ hx).symm
       subst hs
       have:=hc j 0 (by omega) (by omega)
       rw[Addr.add_lit]
       simp only[Nat.mul_one,Nat.add_zero] at this
       rw[this]
       have:=hr j 0 _ _ hx rfl
       rw[Z6 this]
     | _=>cases hq
    ·cases h
 ·cases hb:(XD E S&&Ys E T) with
  | false=>rw[hb] at h;cases h
  | true=>
    rw[hb] at h
    have:=Qa_ h
    subst this
    rw[Qh_] at hb
    obtain ⟨e,hS,he⟩:=ZcX hE hb.1
    have hT:=Ji hE hb.2
    intro hw w vx hx
    cases hx
    refine ⟨.string ⟨([]:List UInt8).toArray⟩, ?_,.str []⟩
    rw[run_convert_bytes_string w S T e none 0 0 hS he hT]
    rfl
 ·rename_i l
  cases hb:(Ys E S&&Ys E T) with
  | false=>rw[hb] at h;cases h
  | true=>
    rw[hb] at h
    have:=Qa_ h
    subst this
    rw[Qh_] at hb
    intro hw w vx hx
    rw[Yp hx]
    exact ⟨.string ⟨l.toArray⟩,by simp[convert,run_underlying (Ji hE hb.1),run_underlying (Ji hE hb.2)],.str l⟩
 ·cases h
theorem ZcY{hw:Nat→Nat}{w:World}{vals:List Value}{x:PV}(h:ArgsRep hw w vals [x]):∃v,vals=[v]∧Rep hw w v x:=by
 have hl:=h.len
 cases vals with
 | nil=>simp at hl
 | cons v r=>cases r with
   | nil=>exact ⟨v,rfl,h.rep 0 v x rfl rfl⟩
   | cons _ _=>simp at hl
theorem ZcZ{hw:Nat→Nat}{w:World}{vals:List Value}{x y:PV}(h:ArgsRep hw w vals [x,y]):∃v u,vals=[v,u]∧Rep hw w v x∧Rep hw w u y:=by
 have hl:=h.len
 cases vals with
 | nil=>simp at hl
 | cons v r=>cases r with
   | nil=>simp at hl
   | cons u r=>cases r with
     | nil=>exact ⟨v,u,rfl,h.rep 0 v x rfl rfl,h.rep 1 u y rfl rfl⟩
     | cons _ _=>simp at hl
theorem ZnX{b:Builtin}{ats:Array TypeId}{T:TypeId}{xs:List PV}{r:PV}(h:ZhO b xs=some r):(Obl.blt b ats T xs r).holds P:=by
 intro hw w vals cs hx
 unfold ZhO at h
 split at h
 ·rename_i k a k' c
  cases hk:decide (k=k') with
  | false=>rw[hk] at h;cases h
  | true=>
    rw[hk] at h
    have:=Qy_ hk
    subst this
    have:=Qa_ h
    subst this
    obtain ⟨v,u,rfl,h1,h2⟩:=ZcZ hx
    rw[Z6 h1,Z6 h2]
    have e:Builtin.complex_ ats T #[.float k a,.float k c]=pure (.complex k a c):=if_pos rfl
    refine ⟨.complex k a c, ?_,.v _ rfl⟩
    show (do pure (Next.value (←Builtin.complex_ ats T #[.float k a,.float k c])):Sem Next).run P w=_
    rw[e]
    rfl
 ·have:=Qa_ h
  subst this
  obtain ⟨v,rfl,h1⟩:=ZcY hx
  rw[Z6 h1]
  exact ⟨_,rfl,.v _ rfl⟩
 ·have:=Qa_ h
  subst this
  obtain ⟨v,rfl,h1⟩:=ZcY hx
  rw[Z6 h1]
  exact ⟨_,rfl,.v _ rfl⟩
 ·cases h
def Zbp(P:Program)(call:YU):Prop:=∀f args r,call f args=some r→Con P f args r
theorem ZrW{E:Env}(hE:EnvOk P E){call:YU}(hC:Zbp P call){os os' ob:List Obl}{r:Res}(h:X0 E call σ o=some os)(h':Zj E.Γ σ o os=some (r,os',ob)):os'=[]∧ZM P ob:=by
 have nil:os=[]→(∀op T x y yT,o.op≠ .binOp op T x y yT)→(∀f args ats,o.op≠ .call ⟨.value f,args,ats⟩)→(∀T x i,o.op≠ .index T x i)→(∀T x i,o.op≠ .indexAddr T x i)→(∀T x lo hi mx,o.op≠ .slice T x lo hi mx)→os'=[]∧ZM P ob:=by
  intro e h1 h2 h3 h4 h5
  subst e
  obtain ⟨q1,q2⟩:=ZnV h' h1 h2 h3 h4 h5
  subst q2
  exact ⟨q1,Zbm⟩
 unfold X0 at h
 split at h
 ·rename_i f args ats hop
  split at h
  ·rename_i r0 hr0
   have:=Qa_ h
   subst this
   obtain ⟨dst,op,type,pos,after,guard⟩:=o
   simp only at hop
   subst hop
   simp only[Zj] at h'
   unfold ZcW at hr0
   split at hr0
   ·rename_i g0 cs l hf hl
    rw[hf,hl] at h'
    simp only at h'
    split at hr0
    ·rename_i xs c hh
     rw[hh] at h'
     simp only at h'
     cases hb:(!c||flat r0) with
     | false=>rw[hb] at h';cases h'
     | true=>
       rw[hb] at h'
       have:=Qa_ h'
       cases this
       exact ⟨rfl,Z4 (hC _ _ _ hr0)⟩
    ·cases hr0
   ·rename_i g0 bs l hf hl
    rw[hf,hl] at h'
    simp only at h'
    split at hr0
    ·rename_i xs c cs hh hbs
     rw[hh,hbs] at h'
     simp only at h'
     cases hb:flat r0 with
     | false=>rw[hb] at h';cases h'
     | true=>
       rw[hb] at h'
       have:=Qa_ h'
       cases this
       exact ⟨rfl,Z4 (hC _ _ _ hr0)⟩
    ·cases hr0
   ·cases hr0
  ·cases h
 ·rename_i op T x y yT hop
  split at h
  ·rename_i u v hu hv
   obtain ⟨dst,op',type,pos,after,guard⟩:=o
   simp only at hop
   subst hop
   simp only[Zj,hu,hv] at h'
   obtain ⟨q,h1,_⟩:=Y2 h'
   exact ZnU hE h h1
  ·cases h
 ·rename_i T x i hop
  split at h
  ·rename_i u v hu hv
   obtain ⟨dst,op',type,pos,after,guard⟩:=o
   simp only at hop
   subst hop
   simp only[Zj,hu,hv] at h'
   obtain ⟨q,h1,_⟩:=Y2 h'
   unfold ZbQ at h
   split at h
   ·rename_i ty k n hty
    split at h
    ·rename_i l hk
     cases hb:(decide (0≤n)&&decide (n < l.length)) with
     | false=>rw[hb] at h;cases h
     | true=>
       rw[hb] at h
       have:=Qa_ h
       subst this
       rw[Qh_] at hb
       unfold JI at h1
       simp only[hty,hk] at h1
       have:=Qa_ h1
       cases this
       exact ⟨rfl,Z4 (show 0≤n∧n < l.length from ⟨Qy_ hb.1,Qy_ hb.2⟩)⟩
    ·rename_i cs hk
     split at h
     ·rename_i ety hety
      split at h
      ·rename_i y hy
       cases hb:decide (0≤n) with
       | false=>rw[hb] at h;cases h
       | true=>
         rw[hb] at h
         have:=Qa_ h
         subst this
         unfold JI at h1
         simp only[hty,hk,hety] at h1
         cases hb2:(Nat.beq cs.length (ty.len *ety.size)&& !(Nat.beq ety.size 0)) with
         | false=>rw[hb2] at h1;cases h1
         | true=>
           rw[hb2] at h1
           simp only[Qb_] at h1
           split at h1
           ·cases hb3:Nat.beq y.length ety.size with
            | false=>rw[hb3] at h1;cases h1
            | true=>
              rw[hb3] at h1
              have:=Qa_ h1
              cases this
              exact ⟨rfl,Z4 (show 0≤n∧(chunk ety.size ty.len cs)[n.toNat]?=some y from ⟨Qy_ hb,hy⟩)⟩
           ·cases h1
      ·cases h
     ·cases h
    ·cases h
   ·cases h
  ·cases h
 ·rename_i T x i hop
  split at h
  ·rename_i u v hu hv
   obtain ⟨dst,op',type,pos,after,guard⟩:=o
   simp only at hop
   subst hop
   unfold XX at h
   split at h
   ·rename_i ty k n hty
    simp only[Zj,hty,hu,hv] at h'
    split at h
    ·rename_i xs hk
     split at h
     ·rename_i y hy
      cases hb:decide (0≤n) with
      | false=>rw[hb] at h;cases h
      | true=>
        rw[hb] at h
        have:=Qa_ h
        subst this
        simp only[hk] at h'
        split at h'
        ·rename_i ety xs' i' y' os2 hety heq
         cases heq
         cases hb2:(Nat.beq y.length ety.size&& !(Nat.beq ety.size 0)) with
         | false=>rw[hb2] at h';cases h'
         | true=>
           rw[hb2] at h'
           have:=Qa_ h'
           cases this
           exact ⟨rfl,Z4 (show 0≤n∧xs[n.toNat]?=some y from ⟨Qy_ hb,hy⟩)⟩
        ·cases h'
     ·cases h
    ·rename_i hk
     cases hb:(decide (0≤n)&&decide (n < ty.len)) with
     | false=>rw[hb] at h;cases h
     | true=>
       rw[hb] at h
       have:=Qa_ h
       subst this
       rw[Qh_] at hb
       have hp:0≤n∧n < ty.len:=⟨Qy_ hb.1,Qy_ hb.2⟩
       simp only[hk] at h'
       split at h'
       ·rename_i e;cases e
       ·split at h'
        ·rename_i e;cases e;have:=Qa_ h';cases this;exact ⟨rfl,Z4 hp⟩
        ·cases h'
       ·split at h'
        ·rename_i e;cases e;have:=Qa_ h';cases this;exact ⟨rfl,Z4 hp⟩
        ·cases h'
       ·cases h'
    ·cases h
   ·cases h
  ·cases h
 ·rename_i T x lo hi hop
  obtain ⟨dst,op',type,pos,after,guard⟩:=o
  simp only at hop
  subst hop
  simp only[Zj] at h'
  split at h
  ·rename_i u hu
   rw[hu] at h'
   simp only at h'
   split at h
   ·cases h
   ·rename_i l
    split at h
    ·rename_i lv hlv
     simp only[hlv] at h'
     obtain ⟨q,h1,_⟩:=Y2 h'
     exact Zbo h h1
    ·cases h
   ·rename_i hh
    split at h
    ·rename_i hv hhv
     simp only[hhv] at h'
     obtain ⟨q,h1,_⟩:=Y2 h'
     exact Zbo h h1
    ·cases h
   ·rename_i l hh
    split at h
    ·rename_i lv hv hlv hhv
     simp only[hlv,hhv] at h'
     obtain ⟨q,h1,_⟩:=Y2 h'
     exact Zbo h h1
    ·cases h
  ·cases h
 ·cases h
 ·rename_i S T x hop
  obtain ⟨dst,op',type,pos,after,guard⟩:=o
  simp only at hop
  subst hop
  simp only[Zj] at h'
  split at h
  ·rename_i u hu
   rw[hu] at h'
   split at h
   ·rename_i r0 hr0
    have:=Qa_ h
    subst this
    simp only at h'
    have:=Qa_ h'
    cases this
    exact ⟨rfl,Z4 (ZnW hE hr0)⟩
   ·cases h
  ·cases h
 ·rename_i b args ats hop
  split at h
  ·rename_i xs hxs
   split at h
   ·rename_i r0 hr0
    have:=Qa_ h
    subst this
    obtain ⟨dst,op',type,pos,after,guard⟩:=o
    simp only at hop
    subst hop
    simp only[Zj,hxs,Jf] at h'
    have:=Qa_ h'
    cases this
    exact ⟨rfl,Z4 (ZnX hr0)⟩
   ·exact nil (Qa_ h).symm (fun op T x y yT e=>by rw[hop] at e;cases e) (fun f args ats e=>by rw[hop] at e;cases e) (fun T x i e=>by rw[hop] at e;cases e) (fun T x i e=>by rw[hop] at e;cases e) (fun T x lo hi mx e=>by rw[hop] at e;cases e)
  ·cases h
 ·rename_i q1 q2 q3 q4 q5 q6 q7 q8
  exact nil (Qa_ h).symm (fun op T x y yT e=>q2 op T x y yT e) (fun f args ats e=>q1 f args ats e) (fun T x i e=>q3 T x i e) (fun T x i e=>q4 T x i e) (fun T x lo hi mx e=>by
   cases mx with
   | none=>exact q5 T x lo hi e
   | some m=>exact q6 T x lo hi m e)
theorem Zm2{Γ:List (Nat×Ty)}(hΓ:ZW P Γ){hw:Nat→Nat}(hl0:∀k,w.heap.size≤k→hw k=0){T:TypeId}{l c x:PV}(h:Zjs Γ T l c=some x){vl vc:Value}(hl:Rep hw w vl l)(hc:Rep hw w vc c):
 ∃v w' hw',(Instr.makeSlice T vl vc).run P w= .ok v w'∧Qt hw w hw' w'∧Rep hw' w' v x:=by
 unfold Zjs at h
 split at h
 ·rename_i ty k n k' m hty
  cases hb:(decide (n=m)&&decide (0≤n)&&Nat.beq ty.kd 3) with
  | false=>rw[hb] at h;cases h
  | true=>
    rw[hb] at h
    simp only[Qb_] at h
    simp only[Qh_] at hb
    obtain ⟨⟨b1,b2⟩,b3⟩:=hb
    have e1:=Qy_ b1
    have e2:=Qy_ b2
    have hkd:=Qj_ b3
    subst e1
    split at h
    ·rename_i ety hety
     cases hb:(Nat.beq ety.size 0||Nat.ble 16777216 (n.toNat *ety.size)||Nat.ble 16777216 (n.toNat *ety.bytes)|| !(Nat.beq ety.zero.length ety.size)) with
     | true=>rw[hb] at h;cases h
     | false=>
       rw[hb] at h
       have:=Qa_ h
       subst this
       simp only[Ka_,Qf_] at hb
       obtain ⟨⟨⟨c1,c2⟩,c3⟩,c4⟩:=hb
       have hs0:ety.size≠0:=fun h0=>by rw[h0] at c1;exact absurd c1 (by decide)
       have hn1:n.toNat *ety.size < 16777216:=by
        rcases Kg_ (n.toNat *ety.size) 16777216 with h | h
        ·exact h
        ·rw[QF_ h] at c2;cases c2
       have hn2:n.toNat *ety.bytes < 16777216:=by
        rcases Kg_ (n.toNat *ety.bytes) 16777216 with h | h
        ·exact h
        ·rw[QF_ h] at c3;cases c3
       have hET:=ZF (hΓ _ _ hety)
       obtain ⟨i,z,hi,hz,s1,s2,s3,s4,s5⟩:=hET.info
       obtain ⟨_,hk3,_⟩:=Ym (ZF (hΓ _ _ hty))
       have hu:=hk3 hkd
       rw[Z6 hl,Z6 hc]
       have hnn:(n.toNat:Int)=n:=Int.toNat_of_nonneg e2
       have hle:n.toNat≤n.toNat *ety.size:=Nat.le_mul_of_pos_right _ (by omega)
       have hrun:=run_makeSlice (P:=P) w T ty.elem i z hu hi hz k k' n n e2 (Int.le_refl _) (by rw[←s1];omega) (by rw[←s2,←hnn,←Int.natCast_mul,Nat.mul_comm];omega) (by omega)
       have hcells:madeCells z.cells (n.toNat *i.size)=(YJ n.toNat z.cells.toList++[]).toArray:=by
        rw[QI_,←s5]
        exact ZaP (by rw[s5,←s1];omega) n.toNat
       rw[hcells] at hrun
       have hlen:(reps n.toNat ety.zero).length=n.toNat *ety.size:=by rw[ZrI,Qj_ c4]
       refine ⟨_,_,fun k=>if k=w.heap.size then n.toNat *ety.size else hw k,hrun,ZcL hl0 (fun k hk=>by simp[hk]) _, ?_⟩
       refine ZcM hl0 ?_ hlen (Q2_ _) ty.elem
       rw[s3]
       exact Zbi s4 n.toNat
    ·cases h
 ·cases h
theorem Zm3{E:Env}(hE:EnvOk P E){hw:Nat→Nat}(hl0:∀k,w.heap.size≤k→hw k=0){S T:TypeId}{l:List UInt8}{x:PV}(h:Zg1 E S T l=some x):
 ∃v w' hw',(convert S T (.string ⟨l.toArray⟩)).run P w= .ok v w'∧Qt hw w hw' w'∧Rep hw' w' v x:=by
 unfold Zg1 at h
 cases hb:(Ys E S&&XD E T) with
 | false=>rw[hb] at h;cases h
 | true=>
   rw[hb] at h
   have:=Qa_ h
   subst this
   rw[Qh_] at hb
   obtain ⟨e,hT,he⟩:=ZcX hE hb.2
   have hrun:=run_bytes_of_string (P:=P) w S T e ⟨l.toArray⟩ (Ji hE hb.1) hT he
   have hsz:(⟨l.toArray⟩:ByteArray).size=l.length:=by show l.toArray.size=_;simp
   rw[hsz] at hrun
   refine ⟨_,_,fun k=>if k=w.heap.size then l.length else hw k,hrun,⟨((Below.refl _ _).drew).alloc (Q2_ _) _,fun k hk=>if_neg (by omega),fun k hk=>?_⟩, ?_⟩
   ·have:w.heap.size < k:=by
     have h2:w.heap.size+1≤k:=by simpa using hk
     omega
    exact (if_neg (by omega)).trans (hl0 k (by omega))
   ·have key:=fun j=>World.cell?_alloc_mark w.drew (bytesRow ⟨l.toArray⟩ (grownCap w l.length 0 e)) e ((bytesRow ⟨l.toArray⟩ (grownCap w l.length 0 e)).size,(bytesRow ⟨l.toArray⟩ (grownCap w l.length 0 e)).size+1) j
    have hget:∀j,(hj:j < l.length)→(bytesRow ⟨l.toArray⟩ (grownCap w l.length 0 e))[j]?=some (.int .u8 (l[j].toNat:Int)):=by
     intro j hj
     unfold bytesRow
     rw[K6_ (by simpa using hj)]
     simp[hj]
    have hlen:(l.map fun b=>[PV.v (.int .u8 b.toNat)]).length=l.length:=by simp
    have:=Rep.lst (hw:=fun k=>if k=w.heap.size then l.length else hw k) (w:=w.drew.alloc (.cells (bytesRow ⟨l.toArray⟩ (grownCap w l.length 0 e)) e ((bytesRow ⟨l.toArray⟩ (grownCap w l.length 0 e)).size,(bytesRow ⟨l.toArray⟩ (grownCap w l.length 0 e)).size+1)))
     (l.map fun b=>[PV.v (.int .u8 b.toNat)]) w.heap.size 0 (grownCap w l.length 0 e) 1 (fun i _=> .int .u8 ((l.getD i 0).toNat:Int)) (by rw[hlen];exact grownCap_ge _ _ _ _) (fun i x hx=>?_) (fun i j hi hj=>?_) (fun i j x y hx hy=>?_) (fun i j _ _=>rfl) (by rw[hlen];simp)
    ·rw[hlen] at this;exact this
    ·rw[Q6_] at hx
     cases hq:l[i]? with
     | none=>rw[hq] at hx;cases hx
     | some q=>rw[hq] at hx;have:=Qa_ hx;subst this;rfl
    ·rw[hlen] at hi
     have hj0:j=0:=by omega
     subst hj0
     rw[Nat.mul_one,QP_,Nat.add_zero]
     refine (key i).trans ?_
     rw[hget i hi]
     simp[hi]
    ·rw[Q6_] at hx
     cases hq:l[i]? with
     | none=>rw[hq] at hx;cases hx
     | some q=>
       rw[hq] at hx
       have:=Qa_ hx
       subst this
       cases j with
       | zero=>
         have:=Qa_ hy
         subst this
         have:l.getD i 0=q:=by simp[hq]
         rw[this]
         exact .v _ rfl
       | succ j=>simp at hy
theorem ZbR(d:Nat){T:TypeId}{ms:Array (String×TypeId)}(hu:P.underlying T=some (.interface ms)):(Op.equalIn (d+1) T .nilIface .nilIface).run P w= .ok true w:=by
 simp[Op.equalIn,run_underlying hu]
theorem ZpX{E:Env}(hE:EnvOk P E){op:BinOp}{T:TypeId}{x r:PV}(h:Zkz E op T x=some r){hw:Nat→Nat}{vx:Value}(hx:Rep hw w vx x)(ox:Operand):
 ∃v,(do eqGuard op T ox (.const .nilIface) vx .nilIface;binOp op T vx .nilIface:Sem Value).run P w= .ok v w∧Rep hw w v r:=by
 unfold Zkz at h
 split at h
 ·cases hb:has T E.ifcs with
  | false=>rw[hb] at h;cases h
  | true=>
    rw[hb] at h
    have:=Qa_ h
    subst this
    obtain ⟨ms,hu⟩:=hE.ifcs T hb
    rw[Z6 hx]
    have he:(Op.equal T .nilIface .nilIface).run P w= .ok true w:=by
     exact ZbR 9999 hu
    exact ⟨.bool true,by simp[eqGuard,binOp,he],.v _ rfl⟩
 ·cases hb:has T E.ifcs with
  | false=>rw[hb] at h;cases h
  | true=>
    rw[hb] at h
    have:=Qa_ h
    subst this
    obtain ⟨ms,hu⟩:=hE.ifcs T hb
    rw[Z6 hx]
    have he:(Op.equal T .nilIface .nilIface).run P w= .ok true w:=by
     exact ZbR 9999 hu
    exact ⟨.bool false,by simp[eqGuard,binOp,he],.v _ rfl⟩
 ·cases h
theorem Zda{o:Oper}{x:Option PV}{r:Res}(h:Zbn σ o x=some r):∃d y,o.dst=some d∧x=some y∧d < σ.n∧r=⟨.p y,none,none⟩:=by
 unfold Zbn at h
 split at h
 ·rename_i d y hd
  cases hb:Nat.blt d σ.n with
  | false=>rw[hb] at h;cases h
  | true=>
    rw[hb] at h
    exact ⟨d,y,hd,rfl,Qm_ hb,(Qa_ h).symm⟩
 ·cases h
theorem Zdb{E:Env}(hE:EnvOk P E){call:YU}(hC:Zbp P call):∀τ o r,RRgen E call τ o=some r→XC P τ o r:=by
 intro τ o r h B g a w hI
 unfold RRgen at h
 split at h
 ·rename_i os hos
  split at h
  ·rename_i r0 os' ob hq
   have:=Qa_ h
   subst this
   refine Zmv hE.Γ hI hq ?_
   unfold W7 at hq
   split at hq
   ·rename_i r1 os1 ob1 h1
    obtain ⟨e1,e2⟩:=ZrW hE hC hos h1
    subst e1
    split at hq
    ·rename_i d hd
     split at hq
     ·rename_i r2 os2 ob2 h2
      cases hb:(Nat.blt d τ.n&&ZdL d r2.link) with
      | false=>rw[hb] at hq;cases hq
      | true=>
        rw[hb] at hq
        have:=Qa_ hq
        cases this
        have hob:ob2=[]:=by
         have e:rewr d r1 []=some (r1,[],[]):=rfl
         rw[e] at h2
         have:=Qa_ h2
         cases this
         rfl
        rw[hob,QI_]
        exact e2
     ·cases hq
    ·have:=Qa_ hq
     cases this
     exact e2
   ·cases hq
  ·cases h
 ·cases h
theorem ZvN{E:Env}(hE:EnvOk P E){call:YU}(hC:Zbp P call):∀j τ o r,RR E call j τ o=some r→XC P τ o r:=by
 intro j τ o r h
 have fin:∀{y:PV} {d:Nat},o.dst=some d→d < τ.n→(∀B g a w,Inv P B g τ a w→∃v w' hw',(execOp a.eval o).run P w= .ok (.value v) w'∧Qt g.hw w hw' w'∧Rep hw' w' v y)→XC P τ o ⟨.p y,none,none⟩:=by
  intro y d hd hlt hrun B g a w hI
  refine ⟨?_,fun d' hd'=>?_⟩
  ·obtain ⟨v,w',hw',h1,h2,h3⟩:=hrun B g a w hI
   exact .inl ⟨v,w',h1,⟨g.β,hw'⟩,h2,h3,fun _=>rfl,fun _ h=>absurd h (by simp),fun _ h=>absurd h (by simp),fun _=>⟨fun _ _ h=>absurd h (by simp),fun _ _ h=>absurd h (by simp),fun _ _ _ _ h=>absurd h (by simp)⟩⟩
  ·rw[hd] at hd'
   have:=Qa_ hd'
   subst this
   exact ⟨hlt,fun l h=>absurd h (by simp)⟩
 unfold RR at h
 split at h
 ·rename_i T l c hop
  split at h
  ·rename_i pl pc hl hc
   obtain ⟨d,y,hd,hx,hlt,rfl⟩:=Zda h
   refine fin hd hlt fun B g a w hI=>?_
   obtain ⟨v,w',hw',h1,h2,h3⟩:=Zm2 hE.Γ hI.hwlt hx (Zt hI hl) (Zt hI hc)
   refine ⟨v,w',hw', ?_,h2,h3⟩
   unfold execOp
   rw[hop]
   exact ZI h1
  ·cases h
 ·rename_i S T x hop
  split at h
  ·rename_i l hx
   split at h
   ·rename_i r0 hr0
    obtain ⟨d,y,hd,hy,hlt,rfl⟩:=Zda h
    cases hy
    refine fin hd hlt fun B g a w hI=>?_
    obtain ⟨v,w',hw',h1,h2,h3⟩:=Zm3 hE hI.hwlt hr0
    refine ⟨v,w',hw', ?_,h2,h3⟩
    have h1':(convert S T (a.eval x)).run P w= .ok v w':=by rw[Yp (Zt hI hx)];exact h1
    unfold execOp
    rw[hop]
    exact ZI h1'
   ·exact Zdb hE hC τ o r h
  ·exact Zdb hE hC τ o r h
 ·rename_i op T x y yT hop
  split at h
  ·rename_i hn
   split at h
   ·rename_i u hu
    obtain ⟨d,q,hd,hq,hlt,rfl⟩:=Zda h
    have hyc:y= .const .nilIface:=by
     unfold Zky at hn
     split at hn
     ·rfl
     ·cases hn
    refine fin hd hlt fun B g a w hI=>?_
    obtain ⟨v,h1,h2⟩:=ZpX (P:=P) (w:=w) hE hq (Zt hI hu) x
    refine ⟨v,w,g.hw, ?_,Qt.refl hI.hwlt,h2⟩
    unfold execOp
    rw[hop,hyc]
    exact ZI h1
   ·cases h
  ·exact Zdb hE hC τ o r h
 ·exact Zdb hE hC τ o r h
end
section
variable {P:Program}{B:Nat}{g:G}{σ:St}{a:Act}{w:World}
def Ztl(P:Program)(f:FuncId)(σ:St)(args:List AV)(r:PV)(σ':St):Prop:=
 ∀B g a w (vals:List Value),Inv P B g σ a w→vals.length=args.length→(∀(j:Nat) (v:Value) (av:AV),vals[j]?=some v→args[j]?=some av→RepA g w v av)→(∀av∈args,Zke σ.boxes av=true)→Zc3 σ.boxes=true→
  CallRes P f vals.toArray w fun v w'=>∃g',Inv P B g' σ' a w'∧Fr B g σ w g' σ' w'∧Rep g'.hw w' v r
end
def XO(l:List UInt8):List (List PV):=l.map fun b=>[.v (.int .u8 b.toNat)]
section
variable {P:Program}{w:World}
theorem Zk0{base:Nat}{t u ty e:TypeId}{i:TypeInfo}{z:Value}(ht:P.underlying t=some (.slice e))(hu:P.underlying u=some .string)(hi:P.info? e=some i)(hz:i.zero=some z)(hzs:z.cells.size=1)(hs1:i.size=1)(hby:i.bytes=1)
 {v:Value} {n:Nat} {xs:List Value} (hown:w.ownsRow base e 1 v n xs) (s:ByteArray) (h63:n+s.size≤maxLen) (hbytes:n+s.size≤140737488355328) (hbase:base≤w.heap.size):
 ∃v' w',(Builtin.append_ #[t,u] ty #[v,.string s]).run P w= .ok v' w'∧w'.ownsRow base e 1 v' (n+s.size) (xs++Lib.strCells s)∧w.grownBy w' v.ownBlock∧
  (v'.ownBlock=v.ownBlock∨∀k,v'.ownBlock=some k→w.heap.size≤k)∧(∀k off,v.ownBlock=some k→off < n→w'.cell? ⟨k,off,none⟩=w.cell? ⟨k,off,none⟩)∧(∀k off,w'.frozen? ⟨k,off,none⟩=w.frozen? ⟨k,off,none⟩):=by
 have hfr:∀(A:Array Value) (k off:Nat),(w.drew.alloc (.cells A e)).frozen? ⟨k,off,none⟩=w.frozen? ⟨k,off,none⟩:=by
  intro A k off
  by_cases hk:k=w.heap.size
  ·subst hk
   have h1:=World.frozen?_alloc_new w.drew A e off
   simp only[World.size_drew] at h1
   rw[h1]
   simp[World.frozen?]
  ·exact World.frozen?_alloc_old w.drew _ ⟨k,off,none⟩ (by simpa using hk)
 have hsmall:n+s.size≤9223372036854775807:=by simp only[maxLen] at h63;omega
 have hxl:xs.length=n:=by simpa using hown.1
 have hlen:(xs++Lib.strCells s).length=(n+s.size)*1:=by rw[Qx_,hxl,Lib.strCells_length,Nat.mul_one]
 have grown:∀(old:Nat),old < n+s.size→∀(row:Option Nat),
  (w.drew.alloc (.cells (xs.toArray++(Lib.strCells s).toArray++Builtin.zeroCells z.cells (grownCap w (n+s.size) old e - (n+s.size))) e)).ownsRow base e 1
    (.slice (some ⟨w.heap.size,0,none⟩) (n+s.size) (grownCap w (n+s.size) old e)) (n+s.size) (xs++Lib.strCells s)∧
  w.grownBy (w.drew.alloc (.cells (xs.toArray++(Lib.strCells s).toArray++Builtin.zeroCells z.cells (grownCap w (n+s.size) old e - (n+s.size))) e)) row:=by
  intro old ho row
  have hge:=grownCap_ge w (n+s.size) old e
  have hcm:grownCap w (n+s.size) old e≤maxLen:=grownCap_le_maxLen w (n+s.size) old e h63
  refine ⟨⟨hlen,.inr ⟨w.heap.size,_,_,rfl,hbase,heap_alloc_new w.drew _,hge,hcm, ?_, ?_⟩⟩,⟨rfl,rfl,rfl,by simp,fun k hk _=>heap_alloc_old w.drew _ (by simpa using hk)⟩⟩
  ·simp only[Array.size_append,List.size_toArray,size_zeroCells,hzs,hxl,Lib.strCells_length]
   omega
  ·simp only[Array.toList_append,QB_]
   rw[←QB_,←hlen]
   exact List.take_left
 rcases hown.2 with ⟨rfl,rfl⟩ | ⟨g,cap,cur,rfl,hbg,hg,hnc,hcm,hcs,htake⟩
 ·have hx:xs=[]:=QM_ hxl
  subst hx
  by_cases hm:s.size=0
  ·have hn:Lib.strCells s=[]:=QM_ (by rw[Lib.strCells_length];exact hm)
   refine ⟨.slice none 0 0,w, ?_,by rw[hm,hn];exact World.ownsRow_nil w base e 1,⟨rfl,rfl,rfl,Q2_ _,fun _ _ _=>rfl⟩,.inl rfl,fun _ _ _ _=>rfl,fun _ _=>rfl⟩
   have hf:=Lib.run_firstCells_string (P:=P) w 1 s
   rw[hm] at hf
   simp[Builtin.append_,run_underlying ht,run_underlying hu,sizeOf,typeInfo,hi,hs1,Builtin.lenOf,hm,hf]
  ·have hr:=run_append_nil_string (P:=P) w t u ty e i z ht hu hi hz s (by omega) (by omega) (by rw[hby];omega)
   have hgr:=grown 0 (by omega) (Value.ownBlock (.slice none 0 0))
   simp only[QP_,QJ_,Array.empty_append] at hgr ⊢
   have e1:(s.data.map fun b=>Value.int .u8 b.toNat)=(Lib.strCells s).toArray:=by
    apply QW_
    simp[Lib.strCells]
   rw[e1] at hr
   exact ⟨_,_,hr,hgr.1,hgr.2,.inr (fun k hk=>by simp[Value.ownBlock] at hk;omega),fun k off hk=>by simp[Value.ownBlock] at hk,fun k off=>hfr _ k off⟩
 ·by_cases hroom:n+s.size≤cap
  ·have hcs':cur.size=cap:=by simpa using hcs
   have hr:=Lib.run_append_room_string (P:=P) w t u ty e i ht hu hi hs1 g n cap cur hg s hroom (by omega)
   have ho:(w.setRow g (cur.toList.take n++Lib.strCells s++cur.toList.drop (n+s.size)).toArray).ownsRow base e 1 (.slice (some ⟨g,0,none⟩) (n+s.size) cap) (n+s.size) (xs++Lib.strCells s):=by
    refine ⟨hlen,.inr ⟨g,cap,_,rfl,hbg,setRow_heap w g cur _ e _ hg,hroom,hcm, ?_, ?_⟩⟩
    ·simp only[List.size_toArray,Qx_,K0_,K7_,Array.length_toList,Lib.strCells_length]
     omega
    ·have ht':cur.toList.take n=xs:=by simpa using htake
     rw[ht',←hlen]
     exact List.take_left
   refine ⟨_,_,hr,ho,⟨rfl,rfl,rfl,by simp,fun k _ hk=>setRow_other w g k _ (fun e=>hk (by simp[Value.ownBlock,e]))⟩,.inl rfl,fun k off hk hoff=>?_,fun k off=>?_⟩
   ·have hx:off < xs.length:=by rw[hxl];exact hoff
    have c1:=hown.cells hk off xs[off] (Qg_ hx)
    have c2:=ho.cells (g:=k) hk off xs[off] (by rw[QV_ hx];exact Qg_ hx)
    rw[Addr.add_lit] at c1 c2
    simp only[QP_] at c1 c2
    rw[c1,c2]
   ·by_cases hk:k=g
    ·subst hk
     have h2:=setRow_heap w k cur (cur.toList.take n++Lib.strCells s++cur.toList.drop (n+s.size)).toArray e (0,0) hg
     simp only[World.frozen?,h2,hg]
    ·have h2:=setRow_other w g k (cur.toList.take n++Lib.strCells s++cur.toList.drop (n+s.size)).toArray (fun e=>hk e)
     unfold World.frozen?
     rw[h2]
  ·have holds:∀j u,xs[j]?=some u→w.cell? ((⟨g,0,none⟩:Addr).add j)=some u:=hown.cells (g:=g) rfl
   have hr:=Lib.run_append_grow_string (P:=P) w t u ty e i z ht hu hi hz ⟨g,0,none⟩ n cap xs (by rw[hs1];simpa using hxl) holds s (by omega) (by omega) (by rw[hby];exact growslice_fits (by omega) (by omega))
   have hgr:=grown cap (by omega) (Value.ownBlock (.slice (some ⟨g,0,none⟩) n cap))
   refine ⟨_,_,hr,hgr.1,hgr.2,.inr (fun k hk=>by simp[Value.ownBlock] at hk;omega),fun k off hk _=>?_,fun k off=>hfr _ k off⟩
   have:k=g:=by simp[Value.ownBlock] at hk;exact hk.symm
   subst this
   have hlt:k < w.heap.size:=(QL_.1 hg).1
   exact World.cell?_alloc_old w.drew _ ⟨k,off,none⟩ (by simp;omega)
end
section
variable {P:Program}{B:Nat}{g:G}{σ:St}{a:Act}{w:World}{o:Oper}
theorem ZdZ{Γ:List (Nat×Ty)}(hΓ:ZW P Γ)(hI:Inv P B g σ a w){t u:TypeId}{ty ety:Ty}(hty:lk t Γ=some ty)(hk:ty.kd=3)(hety:lk ty.elem Γ=some ety)(hs1:ety.size=1)(hb1:ety.bytes=1)(hu:P.underlying u=some .string)
 {v:Value} {xs:List (List PV)} {l:List UInt8} (hv:Rep g.hw w v (.lst xs)) (ho:OwnV P B g.hw w ty.elem v) (hbytes:xs.length+l.length≤140737488355328) (hl:Lens 1 xs) (T:TypeId):
 ∃v' w' hw',(Builtin.append_ #[t,u] T #[v,.string ⟨l.toArray⟩]).run P w= .ok v' w'∧Grew g w hw' w' v.ownBlock∧Rep hw' w' v' (.lst (xs++XO l))∧OwnV P B hw' w' ty.elem v'∧(v'.ownBlock=v.ownBlock∨∀k,v'.ownBlock=some k→w.heap.size≤k):=by
 have hET:=ZF (hΓ _ _ hety)
 obtain ⟨i,z,hi,hz,e1,e2,_,_,hzs⟩:=hET.info
 obtain ⟨_,hk3,_⟩:=Ym (ZF (hΓ _ _ hty))
 have ht:=hk3 hk
 obtain ⟨i',n,xv,hi',hown,hfr⟩:=ho
 rw[hi] at hi'
 have:=Qa_ hi'
 subst this
 have i1:i.size=1:=e1.symm.trans hs1
 have i2:i.bytes=1:=e2.symm.trans hb1
 rw[i1] at hown hfr hzs
 obtain ⟨rfl,hcx⟩:=Zaq hv hown hl
 have hsz:(⟨l.toArray⟩:ByteArray).size=l.length:=by show l.toArray.size=_;simp
 obtain ⟨v',w',hr,how,hg,hblk,hst,hfz⟩:=Zk0 (ty:=T) ht hu hi hz hzs i1 i2 hown ⟨l.toArray⟩ (by rw[hsz];simp only[maxLen];omega) (by rw[hsz];exact hbytes) hI.base
 rw[hsz] at how
 have nlt:∀k,v'.ownBlock=some k→k < w'.heap.size:=fun k hk=>(how.lt k hk).2
 let hw':Nat→Nat:=fun k=>if v'.ownBlock=some k then (xs.length+l.length)*1 else g.hw k
 have hgrew:Grew g w hw' w' v.ownBlock:=by
  refine ⟨hg.os,hg.tape,hg.output,hg.size,hg.block,fun j off hj hoff=>hst j off hj ?_,fun j hj hne=>?_,fun j hj he=>?_,fun j hj=>?_⟩
  ·rw[hfr j hj] at hoff;omega
  ·have:v'.ownBlock≠some j:=fun e=>by
    rcases hblk with h | h
    ·rw[h] at e;exact hne e.symm
    ·have:=h j e;omega
   simp only[hw',this,Kv_]
  ·by_cases e:v'.ownBlock=some j
   ·simp only[hw',e,Ku_]
    rw[hfr j he]
    omega
   ·simp only[hw',e,Kv_];exact Q2_ _
  ·have:v'.ownBlock≠some j:=fun e=>by have:=nlt j e;omega
   simp only[hw',this,Kv_]
   exact hI.hwlt j (QT_ hg.size hj)
 have hx:=hgrew.ext hI.hwlt
 have hbl:(XO l).length=l.length:=by simp[XO]
 have hlen:(xs++XO l).length=xs.length+l.length:=by rw[Qx_,hbl]
 have hl':Lens 1 (xs++XO l):=by
  intro x hx
  rcases Kt_.1 hx with h | h
  ·exact hl x h
  ·obtain ⟨b,_,rfl⟩:=Ks_.1 h
   rfl
 refine ⟨v',w',hw',hr,hgrew,ZmY (by rw[hlen];exact how) hl' (fun k hk=>by rw[hlen];simp only[hw',hk,Ku_];exact Q2_ _) (fun p q x y hx' hy'=>?_),⟨i,_,_,hi,by rw[i1];exact how,fun k hk=>by simp only[hw',hk,Ku_];rw[i1]⟩,hblk⟩
 have hq:q < 1:=by rw[←hl' x (Qz_ hx')];exact (Qo_.1 hy').1
 rw[Ky_] at hx'
 split at hx'
 ·obtain ⟨u,h1,h2,h3⟩:=hcx p q x y hx' hy'
  have:=(Qo_.1 h1).1
  exact ⟨u,by rw[QV_ this];exact h1,h2,h3.mono hx⟩
 ·rename_i hp
  unfold XO at hx'
  rw[Q6_] at hx'
  cases hb:l[p - xs.length]? with
  | none=>rw[hb] at hx';cases hx'
  | some b=>
    rw[hb] at hx'
    have:=Qa_ hx'
    subst this
    have hq0:q=0:=by omega
    subst hq0
    have:=Qa_ hy'
    subst this
    refine ⟨.int .u8 b.toNat, ?_,rfl,.v _ rfl⟩
    have hxl:xv.length=xs.length:=by simpa using hown.1
    rw[Kl_ (by omega)]
    have e:p *1+0 - xv.length=p - xs.length:=by omega
    rw[e]
    simp[Lib.strCells,hb]
def Zax(E:Env)(σ:St)(d:Nat)(x y:Operand)(t u:TypeId):Option St:=
 match lk t E.Γ,Zw σ x,Zw σ y with
 | some ty,some xv,some (.str l)=>bif Ys E u&&Nat.beq ty.kd 3 then
    match lk ty.elem E.Γ with
    | some ety=>bif Nat.beq ety.size 1&&Nat.beq ety.bytes 1 then
      match xv,x with
      | .nil,_=>bif Nat.ble (0+l.length) 140737488355328 then some (XW (put σ d (.p (.lst (XO l)))) d ty.elem) else none
      | .lst xs,.tmp t1=>
        let l':=match lk t1 σ.al with | some l=>l | none=> .t t1
        match lkL l' σ.own with
        | some E'=>bif Nat.beq E' ty.elem&&Nat.ble (xs.length+l.length) 140737488355328&&XG 1 xs then some (XW (put (ZY σ l') d (.p (.lst (xs++XO l)))) d ty.elem) else none
        | none=>none
      | _,_=>none
      else none
    | none=>none
   else none
 | _,_,_=>none
theorem Zk1{E:Env}(hE:EnvOk P E)(hI:Inv P B g σ a w){args:Array Operand}{ats:Array TypeId}{x y:Operand}{t u:TypeId}{d:Nat}(hop:o.op= .call ⟨.builtin .append,args,ats⟩)(hargs:args.toList=[x,y])(hats:ats.toList=[t,u])
 (hdst:o.dst=some d) (hd:d < σ.n) {σ':St} (h:Zax E σ d x y t u=some σ'):Goes P B g σ a w o σ':=by
 have ea:args=#[x,y]:=by apply QW_;simpa using hargs
 have et:ats=#[t,u]:=by apply QW_;simpa using hats
 subst ea;subst et
 unfold Zax at h
 split at h
 ·rename_i ty xv l hty hx hy
  cases hb:(Ys E u&&Nat.beq ty.kd 3) with
  | false=>rw[hb] at h;cases h
  | true=>
    rw[hb] at h
    simp only[Qb_] at h
    rw[Qh_] at hb
    have hu:=Ji hE hb.1
    have hkd:=Qj_ hb.2
    split at h
    ·rename_i ety hety
     cases hb2:(Nat.beq ety.size 1&&Nat.beq ety.bytes 1) with
     | false=>rw[hb2] at h;cases h
     | true=>
       rw[hb2] at h
       simp only[Qb_] at h
       rw[Qh_] at hb2
       have s1:=Qj_ hb2.1
       have b1:=Qj_ hb2.2
       have hrx:=Zt hI hx
       have hry:=Yp (Zt hI hy)
       have fin:∀(v':Value) (w':World) (σ2:St),(Builtin.append_ #[t,u] o.type #[a.eval x,.string ⟨l.toArray⟩]).run P w= .ok v' w'→(∃g',Inv P B g' σ2 (a.put (some d) v') w'∧Fr B g σ w g' σ2 w')→Goes P B g σ a w o σ2:=by
        intro v' w' σ2 hrun hinv
        refine .inl ⟨v',w', ?_,by rw[hdst];exact hinv⟩
        unfold execOp
        rw[hop]
        simp only[resolve,pure_bind,invoke]
        rw[show (#[x,y]:Array Operand).map a.eval=#[a.eval x,a.eval y] from by simp,hry]
        exact ZI hrun
       split at h
       ·cases hb3:Nat.ble (0+l.length) 140737488355328 with
        | false=>rw[hb3] at h;cases h
        | true=>
          rw[hb3] at h
          have:=Qa_ h
          subst this
          have hn:a.eval x= .slice none 0 0:=by generalize a.eval x=v at *;cases hrx;rfl
          obtain ⟨i,z,hi,_⟩:=(ZF (hE.Γ _ _ hety)).info
          have hov:OwnV P B g.hw w ty.elem (.slice none 0 0):=⟨i,0,[],hi,World.ownsRow_nil _ _ _ _,fun k hk=>absurd hk (by simp[Value.ownBlock])⟩
          obtain ⟨v',w',hw',r1,r2,r3,r4,r5⟩:=ZdZ (xs:=[]) hE.Γ hI hty hkd hety s1 b1 hu .lnil hov (Qm_ hb3) (fun x hx=>by simp at hx) o.type
          rw[←hn] at r1
          have:=W8 (v:= .slice none 0 0) (own':=σ.own) hI hd (fun k hk=>absurd hk (by simp[Value.ownBlock])) (fun k hk=>absurd hk (by simp[Value.ownBlock])) (fun _ _ h=>h) (fun _ _ _ j _ _ hk=>absurd hk (by simp[Value.ownBlock])) r2 r3 r4 r5
          exact fin v' w' _ r1 ⟨_,this⟩
       ·rename_i xs t1
        split at h
        ·rename_i E' hE'
         cases hb3:(Nat.beq E' ty.elem&&Nat.ble (xs.length+l.length) 140737488355328&&XG 1 xs) with
         | false=>rw[hb3] at h;cases h
         | true=>
           rw[hb3] at h
           have:=Qa_ h
           subst this
           simp only[Qh_] at hb3
           have hEe:=Qj_ hb3.1.1
           subst hEe
           obtain ⟨val,hl,hov,hbx⟩:=hI.own _ ty.elem hE'
           have hlv:LocIs g a w (match lk t1 σ.al with | some l=>l | none=> .t t1) (a.eval (.tmp t1)):=by
            split
            ·rename_i l hl;exact hI.al _ _ (Zao hl)
            ·rfl
           have hv:=Jh hl hlv
           subst hv
           obtain ⟨v',w',hw',r1,r2,r3,r4,r5⟩:=ZdZ hE.Γ hI hty hkd hety s1 b1 hu hrx hov (Qm_ hb3.1.2) (Jb hb3.2) o.type
           have:=W8 (own':=(ZY σ (match lk t1 σ.al with | some l=>l | none=> .t t1)).own) hI hd (fun k hk=>by have:=ZU hov k hk;exact ⟨this.2,this.1⟩) hbx (fun l E h=>(YW h).2)
            (fun l E' val' j hl' hloc hj hj'=>(YW hl').1 (hI.owninj l _ E' ty.elem val' _ j (YW hl').2 hE' hloc hl hj' hj)) r2 r3 r4 r5
           exact fin v' w' _ r1 ⟨_,this⟩
        ·cases h
       ·cases h
    ·cases h
 ·cases h
end
def Zwl(σ:St)(b:Nat)(u:Bool)(r:List PV):St:=match u with
 | true=>σ
 | false=>Y3 σ b 0 [.bld true] (.bld false::r) []
def ZnY(σ:St)(dst:Option Nat)(x:Operand):Option St:=
 match opd σ x,dst with
 | some (.ptr b off),some d=>match lk b σ.boxes with
   | some (.bld u::r)=>bif Nat.beq off 0&& !(has b σ.ro)&&Nat.blt d σ.n then some (put (Zwl σ b u r) d (.p (.tup []))) else none
   | _=>none
 | _,_=>none
def Zea(σ:St)(e:TypeId)(dst:Option Nat)(x:Operand):Option St:=
 match opd σ x,dst with
 | some (.ptr b off),some d=>match lk b σ.boxes with
   | some (.bld _::y::_)=>bif Nat.beq off 0&&Nat.blt d σ.n then
     match y with
     | .nil=>some (put σ d (.p (.str [])))
     | .lst xs=>match bytesOf xs,lkL (.b b 1) σ.own with
       | some (c::l),some E=>bif Nat.beq E e then some (put (ZY σ (.b b 1)) d (.p (.str (c::l)))) else none
       | _,_=>none
     | _=>none
     else none
   | _=>none
 | _,_=>none
section
variable {P:Program}{B:Nat}{g:G}{σ:St}{a:Act}{w:World}{o:Oper}
theorem Ztm{f:Operand}{args:Array Operand}{ats:Array TypeId}{x:Operand}{fid:FuncId}(hop:o.op= .call ⟨.value f,args,ats⟩)(hargs:args.toList=[x])(hf:f= .func fid){w:World}{v:Value}(hx:a.eval x=v)
 (he:∀args w,(callFunc fid args).run P w= .ok (.enter fid args) w):(execOp a.eval o).run P w= .ok (.enter fid #[v]) w:=by
 have e:args.map a.eval=#[v]:=by apply QW_;rw[Array.toList_map,hargs];simp[hx]
 subst hf
 have hfv:a.eval (.func fid)= .func (.func fid) #[] #[]:=rfl
 unfold execOp
 rw[hop]
 simp only[resolve,Deferred.ofValue,hfv,pure_bind,invoke,e]
 rw[←he]
 congr 2
theorem ZtP{E:FuncId}(hcc:CCOk P E)(hI:Inv P B g σ a w){args:Array Operand}{ats:Array TypeId}{x:Operand}{σ':St}(hop:o.op= .call ⟨.value (.func E),args,ats⟩)(hargs:args.toList=[x])
 (h:ZnY σ o.dst x=some σ'):Goes P B g σ a w o σ':=by
 unfold ZnY at h
 split at h
 ·rename_i b off d hx hd
  split at h
  ·rename_i u r hb
   cases hc:(Nat.beq off 0&& !(has b σ.ro)&&Nat.blt d σ.n) with
   | false=>rw[hc] at h;cases h
   | true=>
     rw[hc] at h
     have:=Qa_ h
     subst this
     simp only[Qh_,Qi_] at hc
     obtain ⟨⟨h1,h2⟩,h3⟩:=hc
     have hoff:=Qj_ h1
     subst hoff
     have hlt:d < σ.n:=Qm_ h3
     have hro:b∉σ.ro:=fun hm=>by rw[YE.2 hm] at h2;cases h2
     obtain ⟨k,base,hk,hkl,hok,hhw,hB⟩:=hI.box b _ hb
     obtain ⟨k',base',hk',hpv⟩:=ZD hI hx
     rw[hk] at hk'
     have:=Qa_ hk'
     cases this
     obtain ⟨v,c1,c2,c3,c4⟩:=hok.cell 0 (.bld u) rfl
     cases c4 with
     | rep h=>cases h
     | bld _ h0 hs hv=>
       have hb0:base=0:=by omega
       subst hb0
       rw[QP_] at c1 c3
       rw[QP_] at hpv
       have hent:=Ztm hop hargs rfl (w:=w) hpv hcc.1
       cases u with
       | true=>
         rw[hv] at c1
         refine JL hd (.inr (.inr ⟨E,_,w,hent,(hcc.2.2 k w c1).mono fun e w' ⟨he,hw'⟩=>⟨_,he,g, ?_⟩⟩))
         subst hw'
         exact ⟨XN hI hlt (x:= .tup []) (.tup _ [] rfl (fun j x y hx=>by simp at hx)),⟨rfl,rfl,rfl,Q2_ _,rfl,fun _ _ _=>rfl,fun _ _ _ _=>rfl,fun _ _ _=>rfl,fun _ _ _=>rfl,fun _ cs' _ h=>⟨cs',h,rfl,rfl⟩,Ext.refl _ _⟩⟩
       | false=>
         rw[hv] at c1
         refine JL hd (.inr (.inr ⟨E,_,w,hent,(hcc.2.1 k w c1 hs c3).mono fun e w' ⟨he,hw'⟩=>⟨_,he,⟨g.β,g.hw⟩, ?_⟩⟩))
         have hset:w.setCell ⟨k,0,none⟩ (.pointer (some ⟨k,0,none⟩))=w.setCells k 0 [.pointer (some ⟨k,0,none⟩)]:=rfl
         rw[hset] at hw'
         subst hw'
         have hturn:Turned g w g.hw (w.setCells k 0 [.pointer (some ⟨k,0,none⟩)]) k (0+0) 1:=by
          obtain ⟨r1,r2,r3⟩:=WV k [.pointer (some ⟨k,0,none⟩)] 0 w
          refine ⟨r1,r2,r3,by rw[Xg];exact Q2_ _,fun j _ hj=>WU k _ _ w j hj,fun off' ho=>World.cell?_setCells_out k _ _ w _ (fun _ _=>?_),fun off'=>World.frozen?_setCells k _ _ w _,fun _ _=>rfl,fun j hj=>hI.hwlt j (by rw[Xg] at hj;exact hj)⟩
          simp only[Qs_,Q1_]
          omega
         have hshape:(w.setCells k 0 [.pointer (some ⟨k,0,none⟩)]).shape? k=w.shape? k:=W5 k k _ _ w
         have hnew:BoxOk ⟨g.β,g.hw⟩ (w.setCells k 0 [.pointer (some ⟨k,0,none⟩)]) k (0+0) [.bld true]:=by
          refine ⟨fun j y hy=>?_⟩
          have hj:j=0:=by have:=(Qo_.1 hy).1;simp at this;exact this
          subst hj
          have:=Qa_ hy
          subst this
          refine ⟨.pointer (some ⟨k,0,none⟩),World.cell?_setCells_in k [.pointer (some ⟨k,0,none⟩)] 0 w (fun i hi=>?_) 0 (by simp),rfl, ?_,.bld true rfl (hshape.trans hs) rfl⟩
          ·have:i=0:=by simp at hi;exact hi
           subst this
           simp[c1]
          ·rw[World.frozen?_setCells];exact c3
         obtain ⟨q1,q2⟩:=Zap hI hb hro hk (by simp) hturn hnew (.inr hshape) (fun y hy b' hb'=>by rw[List.mem_singleton.1 hy] at hb';exact absurd hb' (by simp[YZ])) (own':=[]) (fun l E hl=>by simp[lkL] at hl) (fun l l' E E' hl=>by simp[lkL] at hl)
         exact ⟨XN q1 (show d < σ.n from hlt) (x:= .tup []) (.tup _ [] rfl (fun j x y hx=>by simp at hx)),⟨q2.os,q2.tape,q2.output,q2.size,q2.n,q2.block,q2.cell,q2.frozen,q2.hw,q2.par,q2.ext⟩⟩
  ·cases h
 ·cases h
theorem ZpY{g:G}{w:World}(hl:∀k,w.heap.size≤k→g.hw k=0):Grew g w g.hw w.drew none:=
 ⟨rfl,rfl,rfl,Q2_ _,fun _ _ _=>rfl,fun _ _ h=>absurd h (by simp),fun _ _ _=>rfl,fun _ _ h=>absurd h (by simp),hl⟩
theorem Zm4(w:World)(p:Addr)(n:Nat)(k off:Nat):(w.freeze p n).cell? ⟨k,off,none⟩=w.cell? ⟨k,off,none⟩:=by
 unfold World.freeze
 split
 ·rfl
 ·unfold World.cell?
  simp only[Array.getElem?_modify]
  by_cases hk:p.block=k
  ·subst hk
   simp only[Ku_]
   cases w.heap[p.block]? with
   | none=>rfl
   | some ob=>cases ob<;>rfl
  ·simp only[hk,Kv_]
theorem Zm5{g:G}{w:World}(hl:∀k,w.heap.size≤k→g.hw k=0)(gb n:Nat):Grew g w g.hw (w.drew.freeze ⟨gb,0,none⟩ n) (some gb):=by
 have hsz:(w.drew.freeze ⟨gb,0,none⟩ n).heap.size=w.heap.size:=by
  unfold World.freeze
  split
  ·rfl
  ·simp
 refine ⟨?_, ?_, ?_,by rw[hsz];exact Q2_ _,fun j _ hj=>?_,fun j off _ _=>(Zm4 w.drew _ n j off).trans rfl,fun _ _ _=>rfl,fun _ _ _=>Q2_ _,fun j hj=>hl j (by rw[hsz] at hj;exact hj)⟩
 ·unfold World.freeze;split<;>rfl
 ·unfold World.freeze;split<;>rfl
 ·unfold World.freeze;split<;>rfl
 ·unfold World.freeze
  split
  ·rfl
  ·simp only[Array.getElem?_modify]
   rw[if_neg (fun e=>hj (by rw[←e]))]
   rfl
theorem ZpZ{f:FuncId}{e:TypeId}(hf:ZdY P f e)(hty:∃i,P.info? e=some i∧i.size=1)(hI:Inv P B g σ a w){args:Array Operand}{ats:Array TypeId}{x:Operand}{σ':St}(hop:o.op= .call ⟨.value (.func f),args,ats⟩)(hargs:args.toList=[x])
 (h:Zea σ e o.dst x=some σ'):Goes P B g σ a w o σ':=by
 unfold Zea at h
 split at h
 ·rename_i b off d hx hd
  split at h
  ·rename_i u y r hb
   cases hc:(Nat.beq off 0&&Nat.blt d σ.n) with
   | false=>rw[hc] at h;cases h
   | true=>
     rw[hc] at h
     simp only[Qb_] at h
     rw[Qh_] at hc
     have hoff:=Qj_ hc.1
     subst hoff
     have hlt:d < σ.n:=Qm_ hc.2
     obtain ⟨k,base,hk,hkl,hok,hhw,hB⟩:=hI.box b _ hb
     obtain ⟨k',base',hk',hpv⟩:=ZD hI hx
     rw[hk] at hk'
     have:=Qa_ hk'
     cases this
     obtain ⟨_,_,_,_,c4⟩:=hok.cell 0 (.bld u) rfl
     have hb0:base=0:=by
      cases c4 with
      | rep h=>cases h
      | bld _ h0 _ _=>omega
     subst hb0
     rw[QP_] at hpv
     have hent:=Ztm hop hargs rfl (w:=w) hpv hf.1
     obtain ⟨v,c1,_,_,c5⟩:=hok.cell 1 y rfl
     rw[QP_] at c1
     split at h
     ·have:=Qa_ h
      subst this
      have hv:v= .slice none 0 0:=by cases c5.plain rfl;rfl
      subst hv
      refine JL hd (.inr (.inr ⟨f,_,w,hent,(hf.2.2 k w c1).mono fun e w' ⟨he,hw'⟩=>⟨_,he,g, ?_⟩⟩))
      subst hw'
      obtain ⟨q1,q2⟩:=JK hI (ZpY hI.hwlt) (fun j h=>absurd h (by simp)) (fun j h=>absurd h (by simp)) (own':=σ.own) (fun _ _ h=>h) (fun _ _ _ _ _ _ h=>absurd h (by simp))
      exact ⟨XN q1 (show d < σ.n from hlt) (x:= .str []) (.str []),⟨q2.os,q2.tape,q2.output,q2.size,q2.n,q2.block,q2.cell,q2.frozen,q2.hw,q2.par,q2.ext⟩⟩
     ·rename_i xs
      have hr:=c5.plain rfl
      split at h
      ·rename_i c l E hbs hE
       cases hb2:Nat.beq E e with
       | false=>rw[hb2] at h;cases h
       | true=>
         rw[hb2] at h
         have:=Qa_ h
         subst this
         have hEe:=Qj_ hb2
         subst hEe
         obtain ⟨e1,e2⟩:=Zco hbs
         obtain ⟨val,hl,⟨i,n,xv,hi,how,hfr⟩,hbx⟩:=hI.own _ _ hE
         obtain ⟨i',hi',hs1⟩:=hty
         rw[hi] at hi'
         have:=Qa_ hi'
         subst this
         rw[hs1] at how
         have hval:val=v:=by
          obtain ⟨k2,base2,h4,h5⟩:=hl
          rw[hk] at h4
          cases h4
          rw[QP_,c1] at h5
          exact (Qa_ h5).symm
         subst hval
         have hlens:Lens 1 xs:=by
          intro z hz
          obtain ⟨j,hj,rfl⟩:=Km_ hz
          have:=e2 j (by rw[e1];exact hj)
          rw[Qg_ hj] at this
          rw[Qa_ this]
          rfl
         obtain ⟨rfl,hcx⟩:=Zaq hr how hlens
         rcases how.2 with ⟨rfl,h0⟩ | ⟨gb,cap,cur,rfl,hg,hh,r1,r2,r3,r4⟩
         ·exact absurd e1 (by rw[h0];simp)
         ·have hcell:∀(j:Nat) (z:UInt8),(c::l)[j]?=some z→w.cell? ⟨gb,j,none⟩=some (.int .u8 z.toNat):=by
           intro j z hz
           have hj:=(Qo_.1 hz).1
           have h6:=e2 j hj
           have hz':(c::l)[j]=z:=(Qo_.1 hz).2
           rw[hz'] at h6
           obtain ⟨q,h7,h8,h9⟩:=hcx j 0 _ _ h6 rfl
           have:=how.cells (g:=gb) rfl j q (by simpa using h7)
           rw[Addr.add_lit,QP_] at this
           rw[this,Z6 h9]
          have hshape:w.shape? gb=some (E,cur.size):=by simp[World.shape?,hh]
          rw[←e1] at c1
          refine JL hd (.inr (.inr ⟨f,_,w,hent,(hf.2.1 k gb cap cur.size (c::l) w c1 hshape (by simp) (by rw[e1];exact r1) (by rw[e1,r3];omega) (by rw[e1];omega) hcell).mono fun e w' ⟨he,hw'⟩=>⟨_,he,g, ?_⟩⟩))
          subst hw'
          obtain ⟨q1,q2⟩:=JK hI (Zm5 hI.hwlt gb (c::l).length) (fun j h b cs base hb'=>hbx j (by simpa [Value.ownBlock] using h) b cs base hb') (fun j h=>by have:=Qa_ h;subst this;exact hg) (own':=(ZY σ (.b b 1)).own) (fun l E h=>(YW h).2)
           (fun l' E' val' j hl' hloc hj=>fun hj'=>(YW hl').1 (hI.owninj l' _ E' E val' _ j (YW hl').2 hE hloc hl hj' (by simpa [Value.ownBlock] using hj)))
          exact ⟨XN q1 (show d < σ.n from hlt) (x:= .str (c::l)) (.str (c::l)),⟨q2.os,q2.tape,q2.output,q2.size,q2.n,q2.block,q2.cell,q2.frozen,q2.hw,q2.par,q2.ext⟩⟩
      ·cases h
     ·cases h
  ·cases h
 ·cases h
def Zk2(E:Env)(σ:St)(dst:Option Nat):Option Res:=
 match lk Jp E.Γ,dst with
 | some ty,some d=>match ty.zero,lk d σ.boxes with
   | [.v (.pointer none),.nil],none=>bif Nat.blt d σ.n then some ⟨.ptr d 0,some [.bld false,.nil],none⟩ else none
   | _,_=>none
 | _,_=>none
theorem Zqa{E:Env}(hE:EnvOk P E){r:Res}(hop:o.op= .alloc Jp)(h:Zk2 E σ o.dst=some r):XC P σ o r:=by
 unfold Zk2 at h
 split at h
 ·rename_i ty d hty hd
  split at h
  ·rename_i hz0 hn
   cases hb:Nat.blt d σ.n with
   | false=>rw[hb] at h;cases h
   | true=>
     rw[hb] at h
     have:=Qa_ h
     subst this
     have hlt:d < σ.n:=Qm_ hb
     intro B g a w hI
     refine ⟨?_,fun d' hd'=>?_⟩
     ·obtain ⟨z,hz,hzc,h1,_⟩:=X8 (ZF (hE.Γ _ ty hty)) w
      have hc:CellsRep g.hw w z.cells.toList ty.zero:=by rw[hzc];exact CellsRep.zero h1
      rw[hz0] at hc
      have hcl:z.cells.toList=[.pointer none,.slice none 0 0]:=by
       have hlen:z.cells.toList.length=2:=hc.len
       have g0:=Qg_ (l:=z.cells.toList) (i:=0) (by omega)
       have g1:=Qg_ (l:=z.cells.toList) (i:=1) (by omega)
       have r0:=Z6 (hc.rep 0 _ _ g0 rfl)
       have r1:=hc.rep 1 _ _ g1 rfl
       have r1':z.cells.toList[1]= .slice none 0 0:=by
        generalize z.cells.toList[1]=q at *
        cases r1;rfl
       apply List.ext_getElem?
       intro j
       match j with
       | 0=>rw[g0,r0];rfl
       | 1=>rw[g1,r1'];rfl
       | j+2=>rw[Ke_ (by omega)];rfl
      have hrun:(execOp a.eval o).run P w= .ok (.value (.pointer (some ⟨w.heap.size,0,none⟩))) (w.alloc (.cells #[.pointer none,.slice none 0 0] Jp)):=by
       have e:z.cells=#[.pointer none,.slice none 0 0]:=by apply QW_;rw[hcl]
       simp[execOp,hop,Instr.alloc,hz,newVar,newRow,e]
      have q:Qt g.hw w g.hw (w.alloc (.cells #[.pointer none,.slice none 0 0] Jp)):=
       ⟨(Below.refl _ _).alloc (Q2_ _) _,fun _ _=>rfl,fun k hk=>hI.hwlt k (by simp at hk;omega)⟩
      refine .inl ⟨_,_,hrun,⟨fun b=>if b=d then some (w.heap.size,0) else g.β b,g.hw⟩,⟨q,⟨w.heap.size,0,by simp,rfl⟩,fun h=>absurd h (by simp), ?_,fun _ h=>absurd h (by simp),fun h=>absurd h (by simp)⟩⟩
      intro cs' e
      have:=Qa_ e
      subst this
      refine ⟨d,w.heap.size,hd,hn,rfl,fun b hb=>by simp[hb],by simp,Q2_ _,by simp,⟨fun j y hy=>?_⟩,hI.hwlt _ (Q2_ _),fun y hy=>by simp only[Q9_,List.not_mem_nil,or_false] at hy;rcases hy with e | e<;>(rw[e];rfl)⟩
      have hsh:(w.alloc (.cells #[.pointer none,.slice none 0 0] Jp)).shape? w.heap.size=some (Jp,2):=by
       have:=heap_alloc_new w (.cells #[.pointer none,.slice none 0 0] Jp)
       simp only[World.shape?,this]
       rfl
      match j,hy with
      | 0,hy=>
        have:=Qa_ hy
        subst this
        refine ⟨.pointer none, ?_,rfl, ?_,.bld false rfl hsh rfl⟩
        ·rw[QP_,World.cell?_alloc_new];rfl
        ·rw[QP_,World.frozen?_alloc_new]
      | 1,hy=>
        have:=Qa_ hy
        subst this
        refine ⟨.slice none 0 0, ?_,rfl, ?_,.rep .nil⟩
        ·rw[World.cell?_alloc_new];rfl
        ·rw[World.frozen?_alloc_new]
      | j+2,hy=>simp at hy
     ·rw[hd] at hd'
      have:=Qa_ hd'
      subst this
      exact ⟨hlt,fun l h=>absurd h (by simp)⟩
  ·cases h
 ·cases h
end
def Zk3:AV→Option PV
 | .ptr b o=>some (.bp b o)
 | .sl b o n s=>some (.bs b o n s)
 | _=>none
def ZfC(Γ:List (Nat×Ty))(σ:St)(T:TypeId)(p x:Operand):Option St:=
 match opd σ p,opd σ x,lk T Γ with
 | some (.ptr b off),some av,some ty=>match lk b σ.boxes,Zk3 av with
   | some cs,some y=>bif Nat.beq ty.size 1&&Nat.ble (off+1) cs.length&& !(has b σ.ro) then some (Y3 σ b off [y] cs []) else none
   | _,_=>none
 | _,_,_=>none
def Zjt(E:Env)(σ:St)(d:Nat)(T:TypeId):Option St:=
 match lk T E.Γ with
 | some ty=>bif Nat.beq ty.kd 3&&Nat.blt d σ.n then match lk ty.elem E.Γ with
   | some ety=>bif Nat.beq ety.size 0 then none else some (XW (put σ d (.p (.lst []))) d ty.elem)
   | none=>none
   else none
 | none=>none
def ZeR(E:Env)(σ:St)(d:Nat)(x y:Operand)(t t':TypeId):Option St:=
 match lk t E.Γ,x,Zw σ x,Zw σ y with
 | some ty,.tmp t1,some (.lst []),some (.lst ys)=>match lk ty.elem E.Γ with
   | some ety=>bif Nat.beq t t'&&Nat.beq ty.kd 3&& !(Nat.beq ety.size 0)&& !(Nat.beq ety.bytes 0)&&Nat.blt 0 ys.length&&Nat.ble ((0+ys.length)*ety.bytes) 140737488355328&&XG ety.size ys&&ZT (lk d σ.boxes)&&Nat.blt d σ.n then
     let l:=match lk t1 σ.al with | some l=>l | none=> .t t1
     match lkL l σ.own with
     | some E'=>bif Nat.beq E' ty.elem then some (put {ZY σ l with boxes:=(d,ys.flatten)::σ.boxes} d (.sl d 0 ys.length ety.size)) else none
     | none=>none
     else none
   | none=>none
 | _,_,_,_=>none
def RRA(E:Env)(σ:St)(o:Oper):Option Res:=
 match o.dst with
 | some d=>bif Nat.blt d σ.n then
   match o.op with
   | .load T x=>match opd σ x,lk T E.Γ with
     | some (.ptr b off),some ty=>bif Nat.beq ty.size 1&& !ty.agg then match lk b σ.boxes with
       | some cs=>match cs[off]? with
         | some (.bs b' o n s)=>some ⟨.sl b' o n s,none,none⟩
         | some (.bp b' o)=>some ⟨.ptr b' o,none,none⟩
         | _=>none
       | none=>none
       else none
     | _,_=>none
   | .indexAddr T x i=>match lk T E.Γ,opd σ x,Zw σ i with
     | some ty,some (.sl b off n s),some (.v (.int _ m))=>match lk ty.elem E.Γ with
       | some ety=>bif Nat.beq ty.kd 3&&Nat.beq ety.size s&&decide (0≤m)&&decide (m < n) then some ⟨.ptr b (off+m.toNat *s),none,none⟩ else none
       | none=>none
     | _,_,_=>none
   | .call ⟨.builtin .len,args,ats⟩=>match args.toList,ats.toList with
     | [x],[t]=>match opd σ x,lk t E.Γ with
       | some (.sl _ _ n _),some ty=>bif Nat.beq ty.kd 3 then some ⟨.p (.v (.int .i64 n)),none,none⟩ else none
       | _,_=>none
     | _,_=>none
   | _=>none
   else none
 | none=>none
theorem Zdc{α:Type}{s:Nat}:∀{ys:List (List α)} (_:∀x∈ys,x.length=s) {p:Nat} {y:α},ys.flatten[p]?=some y→∃i j x,ys[i]?=some x∧x[j]?=some y∧p=i *s+j
 | [],_,p,y,h=>by simp at h
 | x::r,hs,p,y,h=>by
   have hx:=hs x (Qv_ ..)
   rw[List.flatten_cons,Ky_] at h
   split at h
   ·exact ⟨0,p,x,rfl,h,by omega⟩
   ·rename_i hp
    obtain ⟨i,j,x',h1,h2,h3⟩:=Zdc (fun z hz=>hs z (Qq_ _ hz)) h
    refine ⟨i+1,j,x',by simpa using h1,h2, ?_⟩
    rw[Ko_]
    omega
section
variable {P:Program}{B:Nat}{g:G}{σ:St}{a:Act}{w:World}{o:Oper}
theorem Zk4(hI:Inv P B g σ a w){d:Nat}(hd:d < σ.n)(hdb:lk d σ.boxes=none){k n s cap:Nat}{cs:List PV}(hk:k < w.heap.size)(hB:B≤k)(h0:g.hw k=0)(hcap:n≤cap)
 (hnb:∀b cs base,lk b σ.boxes=some cs→g.β b≠some (k,base)) (hno:∀l E val,lkL l σ.own=some E→LocIs g a w l val→val.ownBlock≠some k)
 (hbx:BoxOk ⟨fun b=>if b=d then some (k,0) else g.β b,g.hw⟩ w k 0 cs) (hrf:∀y∈cs,∀b',YZ y=some b'→∃c,lk b' σ.boxes=some c):
 Inv P B ⟨fun b=>if b=d then some (k,0) else g.β b,g.hw⟩ (put {σ with boxes:=(d,cs)::σ.boxes} d (.sl d 0 n s)) (a.put (some d) (.slice (some ⟨k,0,none⟩) n cap)) w∧
 Fr B g σ w ⟨fun b=>if b=d then some (k,0) else g.β b,g.hw⟩ (put {σ with boxes:=(d,cs)::σ.boxes} d (.sl d 0 n s)) w:=by
 have ne:∀b,(∃c,lk b σ.boxes=some c)→b≠d:=by
  rintro b ⟨c,h⟩ e
  rw[e,hdb] at h
  cases h
 have be:∀b,(∃c,lk b σ.boxes=some c)→(if b=d then some (k,0) else g.β b)=g.β b:=fun b h=>if_neg (ne b h)
 have bx:∀b c,lk b ((d,cs)::σ.boxes)=some c→(b=d∧c=cs)∨lk b σ.boxes=some c:=by
  intro b c h
  rw[Zs] at h
  split at h
  ·rename_i e;exact .inl ⟨e,(Qa_ h).symm⟩
  ·exact .inr h
 have isb:∀b,(∃c,lk b σ.boxes=some c)→∃c,lk b ((d,cs)::σ.boxes)=some c:=by
  rintro b ⟨c,h⟩
  rw[Zs]
  split
  ·exact ⟨cs,rfl⟩
  ·exact ⟨c,h⟩
 have loc:∀l val,l≠ .t d→(∀b c,l= .b b c→∃c,lk b σ.boxes=some c)→(LocIs ⟨fun b=>if b=d then some (k,0) else g.β b,g.hw⟩ (a.put (some d) (.slice (some ⟨k,0,none⟩) n cap)) w l val↔LocIs g a w l val):=by
  intro l val hl hb
  cases l with
  | t t=>
    have hne:t≠d:=fun e=>hl (by rw[e])
    show (a.tmps.setIfInBounds d _).getD t undef=val↔a.tmps.getD t undef=val
    rw[Xq hne]
  | b b c=>
    show (∃k1 base,(if b=d then some (k,0) else g.β b)=some (k1,base)∧_)↔∃k1 base,g.β b=some (k1,base)∧_
    rw[be b (hb b c rfl)]
 have ownl:∀l E,lkL l (put {σ with boxes:=(d,cs)::σ.boxes} d (.sl d 0 n s)).own=some E→l≠ .t d∧lkL l σ.own=some E:=fun l E h=>ZmZ (σ:={σ with boxes:=(d,cs)::σ.boxes}) h
 have ownb:∀l E,lkL l σ.own=some E→∀b c,l= .b b c→∃c,lk b σ.boxes=some c:=fun l E h b c e=>by
  have:=hI.ownt l E h
  subst e
  exact this
 have tm:∀t v,lk t ((d,AV.sl d 0 n s)::σ.tmps)=some v→(t=d∧v= .sl d 0 n s)∨(t≠d∧lk t σ.tmps=some v):=by
  intro t v h
  rw[Zs] at h
  split at h
  ·rename_i e;exact .inl ⟨e,(Qa_ h).symm⟩
  ·rename_i e;exact .inr ⟨e,h⟩
 have als:∀t l,(t,l)∈(put {σ with boxes:=(d,cs)::σ.boxes} d (.sl d 0 n s)).al→(t,l)∈σ.al∧t≠d∧l≠ .t d:=by
  intro t l h
  obtain ⟨h1,h2⟩:=QY_.1 h
  simp only[Qh_,Qi_] at h2
  refine ⟨h1,fun e=>?_,fun e=>?_⟩
  ·rw[e] at h2;simp at h2
  ·rw[e,Loc.eq_iff.2 rfl] at h2;exact absurd h2.2 (by simp)
 refine ⟨⟨?_,hI.defers,fun t v ht=>?_,fun t b off ht=>?_,fun t f bs ht b hb=>?_,fun b c h=>?_,fun b b' c c' k1 base base' h1 h2 h3 h4=>?_,hI.hwlt,hI.base,hI.glob,fun l E h=>?_,fun l E h=>?_,fun l l' E E' v v' k1 h1 h2 h3 h4 h5 h6=>?_,fun t l h=>?_,fun t b c h=>?_,fun t b off m s' ht=>?_,fun b c h y hy b' hb'=>?_⟩, ?_⟩
 ·show (a.tmps.setIfInBounds d _).size=σ.n
  simp[hI.size]
 ·rcases tm t v ht with ⟨rfl,rfl⟩ | ⟨hne,ht⟩
  ·refine ⟨hd,k,0,cap,by simp,hcap, ?_⟩
   show (a.tmps.setIfInBounds t _).getD t undef=_
   rw[ZaH (by rw[hI.size];exact hd)]
  ·obtain ⟨h1,h2⟩:=hI.tmp t v ht
   refine ⟨h1, ?_⟩
   show RepA _ w ((a.tmps.setIfInBounds d _).getD t undef) v
   rw[Xq hne]
   refine RepA.mono (g:=g) (g':=⟨fun b=>if b=d then some (k,0) else g.β b,g.hw⟩) (Ext.refl _ _) (fun b=>?_) (fun b off n' s' e=>be b (hI.sl t b off n' s' (by rw[ht,e]))) h2
   cases v with
   | p x=>exact .inl ⟨fun _=>by simp,fun _ _=>by simp⟩
   | sl b' off n' s'=>exact .inl ⟨fun _=>by simp,fun _ _=>by simp⟩
   | ptr b' off=>
     by_cases e:b=b'
     ·subst e;exact .inr (be b (hI.ptr t b off ht))
     ·exact .inl ⟨fun off'=>by simp;intro e';exact absurd e'.symm e,fun _ _=>by simp⟩
   | fnp f bs=>
     by_cases e:b∈bs
     ·exact .inr (be b (hI.fnp t f bs ht b e))
     ·exact .inl ⟨fun _=>by simp,fun f' bs' e'=>by cases e';exact e⟩
 ·rcases tm t _ ht with ⟨_,e⟩ | ⟨_,ht⟩
  ·cases e
  ·exact isb b (hI.ptr t b off ht)
 ·rcases tm t _ ht with ⟨_,e⟩ | ⟨_,ht⟩
  ·cases e
  ·exact isb b (hI.fnp t f bs ht b hb)
 ·rcases bx b c h with ⟨rfl,rfl⟩ | h
  ·exact ⟨k,0,by simp,hk,hbx,fun _=>h0,fun _=>hB⟩
  ·obtain ⟨k1,base,q1,q2,q3,q4,q5⟩:=hI.box b c h
   refine ⟨k1,base,(be b ⟨c,h⟩).trans q1,q2, ?_,q4,q5⟩
   exact ⟨fun j y hy=>let ⟨v,r1,r2,r3,r4⟩:=q3.cell j y hy;⟨v,r1,r2,r3,r4.mono (Ext.refl _ _) rfl (fun b' hb'=>be b' (hI.ref b c h y (Qz_ hy) b' hb'))⟩⟩
 ·have h3':(if b=d then some (k,0) else g.β b)=some (k1,base):=h3
  have h4':(if b'=d then some (k,0) else g.β b')=some (k1,base'):=h4
  rcases bx b c h1 with ⟨e1,_⟩ | q1<;>rcases bx b' c' h2 with ⟨e2,_⟩ | q2
  ·rw[e1,e2]
  ·rw[if_pos e1] at h3'
   rw[be b' ⟨c',q2⟩] at h4'
   cases h3'
   exact absurd h4' (hnb b' c' base' q2)
  ·rw[if_pos e2] at h4'
   rw[be b ⟨c,q1⟩] at h3'
   cases h4'
   exact absurd h3' (hnb b c base q1)
  ·rw[be b ⟨c,q1⟩] at h3'
   rw[be b' ⟨c',q2⟩] at h4'
   exact hI.inj b b' c c' k1 base base' q1 q2 h3' h4'
 ·obtain ⟨hl,ho⟩:=ownl l E h
  obtain ⟨val,q1,q2,q3⟩:=hI.own l E ho
  refine ⟨val,(loc l val hl (ownb l E ho)).2 q1,q2,fun k1 hk1 b c base hb=>?_⟩
  rcases bx b c hb with ⟨rfl,rfl⟩ | hb
  ·simp only[Ku_]
   intro e
   cases e
   exact hno l E val ho q1 hk1
  ·show (if b=d then some (k,0) else g.β b)≠some (k1,base)
   rw[be b ⟨c,hb⟩]
   exact q3 k1 hk1 b c base hb
 ·obtain ⟨hl,h⟩:=ownl l E h
  have:=hI.ownt l E h
  cases l with
  | t t=>exact this
  | b b c=>exact isb b this
 ·obtain ⟨hl1,h1⟩:=ownl l E h1
  obtain ⟨hl2,h2⟩:=ownl l' E' h2
  exact hI.owninj l l' E E' v v' k1 h1 h2 ((loc l v hl1 (ownb l E h1)).1 h3) ((loc l' v' hl2 (ownb l' E' h2)).1 h4) h5 h6
 ·obtain ⟨h1,h2,h3⟩:=als t l h
  show LocIs _ _ w l ((a.tmps.setIfInBounds d _).getD t undef)
  rw[Xq h2]
  exact (loc l _ h3 (fun b c e=>by subst e;exact hI.alt t b c h1)).2 (hI.al t l h1)
 ·exact isb b (hI.alt t b c (als t _ h).1)
 ·rcases tm t _ ht with ⟨_,e⟩ | ⟨_,ht⟩
  ·cases e
   exact ⟨cs,by show lk d ((d,cs)::σ.boxes)=_;rw[Zs,if_pos rfl]⟩
  ·exact isb b (hI.sl t b off m s' ht)
 ·rcases bx b c h with ⟨rfl,rfl⟩ | h
  ·exact isb b' (hrf y hy b' hb')
  ·exact isb b' (hI.ref b c h y hy b' hb')
 ·refine ⟨rfl,rfl,rfl,Q2_ _,rfl,fun _ _ _=>rfl,fun _ _ _ _=>rfl,fun _ _ _=>rfl,fun _ _ _=>rfl,fun b c hb h=>?_,Ext.refl _ _⟩
  rcases bx b c h with ⟨rfl,rfl⟩ | h
  ·omega
  ·exact ⟨c,h,rfl,be b ⟨c,h⟩⟩
theorem ZtQ{T e:TypeId}{ety:Ty}(hu:P.underlying T=some (.slice e))(hE:TyIs P e ety):(Instr.buildSlice T 0 #[]).run P w= .ok (.slice (some ⟨w.heap.size,0,none⟩) 0 0) (w.alloc (.cells #[] e)):=by
 have e0:(Array.range 0).map (fun i=>(#[]:Array Value)[i % (#[]:Array Value).size]!)=#[]:=by apply QW_;simp
 unfold Instr.buildSlice
 simp only[Sem.run_bind,run_underlying hu,Result.andThen_ok,ZP hE,Nat.zero_mul,Ku_,pure_bind,e0]
 rfl
theorem ZrX{E:Env}(hE:EnvOk P E)(hI:Inv P B g σ a w){T:TypeId}{ps:Array (Nat×Operand)}{d:Nat}{σ':St}(hop:o.op= .buildSlice T 0 ps)(hps:ps.toList=[])(hdst:o.dst=some d)(h:Zjt E σ d T=some σ'):Goes P B g σ a w o σ':=by
 have eps:ps=#[]:=by apply QW_;simpa using hps
 subst eps
 unfold Zjt at h
 split at h
 ·rename_i ty hty
  cases hb:(Nat.beq ty.kd 3&&Nat.blt d σ.n) with
  | false=>rw[hb] at h;cases h
  | true=>
    rw[hb] at h
    simp only[Qb_] at h
    rw[Qh_] at hb
    have hd:d < σ.n:=Qm_ hb.2
    split at h
    ·rename_i ety hety
     cases hs:Nat.beq ety.size 0 with
     | true=>rw[hs] at h;cases h
     | false=>
       rw[hs] at h
       have:=Qa_ h
       subst this
       obtain ⟨_,hk3,_⟩:=Ym (ZF (hE.Γ _ _ hty))
       have hu:=hk3 (Qj_ hb.1)
       have hET:=ZF (hE.Γ _ _ hety)
       obtain ⟨i,z,hi,hz,e1,_⟩:=hET.info
       have hrun:=ZtQ (w:=w) hu hET
       have q:Qt g.hw w g.hw (w.alloc (.cells #[] ty.elem)):=⟨(Below.refl _ _).alloc (Q2_ _) _,fun _ _=>rfl,fun k hk=>hI.hwlt k (by simp at hk;omega)⟩
       have hrep:Rep g.hw (w.alloc (.cells #[] ty.elem)) (.slice (some ⟨w.heap.size,0,none⟩) 0 0) (.lst []):=
        .lst [] w.heap.size 0 0 0 (fun _ _=>undef) (Q2_ _) (fun i x hx=>by simp at hx) (fun i j hi'=>by simp at hi') (fun i j x y hx=>by simp at hx) (fun i j hi'=>by simp at hi') (by simp)
       have hown:OwnV P B g.hw (w.alloc (.cells #[] ty.elem)) ty.elem (.slice (some ⟨w.heap.size,0,none⟩) 0 0):=
        ⟨i,0,[],hi,⟨by simp,.inr ⟨w.heap.size,0,#[],rfl,hI.base,heap_alloc_new w _,Q2_ _,Kx_ _,by simp,by simp⟩⟩,fun k hk=>by
          have:k=w.heap.size:=by simp[Value.ownBlock] at hk;exact hk.symm
          rw[this,hI.hwlt _ (Q2_ _),Nat.zero_mul]⟩
       have:=W8 (v:= .slice none 0 0) (own':=σ.own) hI hd (fun k hk=>absurd hk (by simp[Value.ownBlock])) (fun k hk=>absurd hk (by simp[Value.ownBlock])) (fun _ _ h=>h) (fun _ _ _ j _ _ hk=>absurd hk (by simp[Value.ownBlock])) q.grew hrep hown (.inr (fun k hk=>by simp[Value.ownBlock] at hk;omega))
       refine .inl ⟨_,_, ?_,by rw[hdst];exact ⟨_,this⟩⟩
       unfold execOp
       rw[hop]
       simp only[List.map_toArray,QN_]
       exact ZI hrun
    ·cases h
 ·cases h
theorem Zm6{Γ:List (Nat×Ty)}(hΓ:ZW P Γ)(hI:Inv P B g σ a w){T:TypeId}{p x:Operand}{σ':St}(hop:o.op= .store T p x)(hd:o.dst=none)(h:ZfC Γ σ T p x=some σ'):Goes P B g σ a w o σ':=by
 unfold ZfC at h
 split at h
 ·rename_i b off av ty hp hv hty
  split at h
  ·rename_i cs y hcs hy
   cases hb:(Nat.beq ty.size 1&&Nat.ble (off+1) cs.length&& !(has b σ.ro)) with
   | false=>rw[hb] at h;cases h
   | true=>
     rw[hb] at h
     have:=Qa_ h
     subst this
     simp only[Qh_,Qi_] at hb
     have e3:=Qj_ hb.1.1
     have e2:=Qm_ hb.1.2
     have hro:b∉σ.ro:=fun hm=>by rw[YE.2 hm] at hb;exact absurd hb.2 (by simp)
     obtain ⟨k,base,hk,hpv⟩:=ZD hI hp
     obtain ⟨k',base',hk',hlt,hok,hhw,hB⟩:=hI.box b cs hcs
     rw[hk] at hk'
     have:=Qa_ hk'
     cases this
     have hT:=ZF (hΓ T ty hty)
     have hrep:=ZD hI hv
     have hcell:(a.eval x).cells=#[a.eval x]∧(a.eval x).oneCell'=true∧(∀w',RepB g.β g.hw w' k (base+off) 0 (a.eval x) y)∧∀b',YZ y=some b'→∃c,lk b' σ.boxes=some c:=by
      have hbx:∀t,x= .tmp t→lk t σ.tmps=some av:=fun t e=>by subst e;exact hv
      cases av with
      | p z=>exact absurd hy (by simp[Zk3])
      | fnp f bs=>exact absurd hy (by simp[Zk3])
      | ptr b2 o2=>
        have:=Qa_ hy
        subst this
        obtain ⟨k2,base2,h1,h2⟩:=hrep
        refine ⟨by rw[h2];rfl,by rw[h2];rfl,fun w'=> .bp b2 o2 ⟨k2,base2,h1,h2⟩,fun b' hb'=>?_⟩
        have:=Qa_ hb'
        subst this
        exact Zc0 hI hv
      | sl b2 o2 n2 s2=>
        have:=Qa_ hy
        subst this
        obtain ⟨k2,base2,cap,h1,h2,h3⟩:=hrep
        refine ⟨by rw[h3];rfl,by rw[h3];rfl,fun w'=> .bs b2 o2 n2 s2 ⟨k2,base2,cap,h1,h2,h3⟩,fun b' hb'=>?_⟩
        have:=Qa_ hb'
        subst this
        cases x with
        | tmp t=>exact hI.sl t b2 o2 n2 s2 hv
        | const c=>simp only[opd] at hv;split at hv<;>cases hv
        | global _=>simp only[opd] at hv;split at hv<;>cases hv
        | func _=>exact absurd hv (by simp[opd])
     obtain ⟨c1,c2,c3,c4⟩:=hcell
     obtain ⟨u,u1,_,u3,_⟩:=hok.cell off cs[off] (Qg_ (by omega))
     have hrun:=run_storeCells_cells (P:=P) k (base+off) [a.eval x] 0 w (fun j hj=>by have:j=0:=by simp at hj;exact hj
                                                                                      subst this;simp[u1]) (fun j hj=>by have:j=0:=by simp at hj;exact hj
                                                                                                                         subst this;simpa using u3) (fun z hz=>by rw[List.mem_singleton.1 hz];exact c2)
     simp only[Nat.add_zero] at hrun
     have hturn:Turned g w g.hw (w.setCells k (base+off) [a.eval x]) k (base+off) 1:=by
      obtain ⟨r1,r2,r3⟩:=WV k [a.eval x] (base+off) w
      refine ⟨r1,r2,r3,by rw[Xg];exact Q2_ _,fun j _ hj=>WU k _ _ w j hj,fun off' ho=>World.cell?_setCells_out k _ _ w _ (fun _ _=>?_),fun off'=>World.frozen?_setCells k _ _ w _,fun _ _=>rfl,fun j hj=>hI.hwlt j (by rw[Xg] at hj;exact hj)⟩
      simp only[Qs_,Q1_]
      omega
     have hshape:(w.setCells k (base+off) [a.eval x]).shape? k=w.shape? k:=W5 k k _ _ w
     have hnew:BoxOk ⟨g.β,g.hw⟩ (w.setCells k (base+off) [a.eval x]) k (base+off) [y]:=by
      refine ⟨fun j z hz=>?_⟩
      have hj:j=0:=by have:=(Qo_.1 hz).1;simp at this;exact this
      subst hj
      have:=Qa_ hz
      subst this
      refine ⟨a.eval x,World.cell?_setCells_in k [a.eval x] (base+off) w (fun i hi=>?_) 0 (by simp),c2, ?_,c3 _⟩
      ·have:i=0:=by simp at hi;exact hi
       subst this
       simp[u1]
      ·rw[World.frozen?_setCells];exact u3
     obtain ⟨q1,q2⟩:=Zap hI hcs hro hk (by simp;omega) hturn hnew (.inr hshape) (fun z hz b' hb'=>c4 b' (by rw[←List.mem_singleton.1 hz];exact hb')) (own':=[]) (fun l E hl=>by simp[lkL] at hl) (fun l l' E E' hl=>by simp[lkL] at hl)
     refine .inr (.inl ⟨undef,_,rfl, ?_,⟨g.β,g.hw⟩,by rw[hd];exact q1,q2⟩)
     unfold execOp
     rw[hop]
     simp[Instr.storeAt,Instr.sureAddr,hpv,storeVar,c1,e3,ZP hT,hrun]
  ·cases h
 ·cases h
theorem Zu7(hI:Inv P B g σ a w){x:Operand}{b off n s:Nat}(h:opd σ x=some (.sl b off n s)):∃cs,lk b σ.boxes=some cs:=by
 cases x with
 | tmp t=>exact hI.sl t b off n s h
 | const v=>simp only[opd] at h;split at h<;>cases h
 | global _=>simp only[opd] at h;split at h<;>cases h
 | func _=>exact absurd h (by simp[opd])
theorem ZnZ{E:Env}(hE:EnvOk P E)(hI:Inv P B g σ a w){args:Array Operand}{ats:Array TypeId}{x y:Operand}{t t':TypeId}{d:Nat}(hop:o.op= .call ⟨.builtin .append,args,ats⟩)(hargs:args.toList=[x,y])(hats:ats.toList=[t,t'])
 (hdst:o.dst=some d) {σ':St} (h:ZeR E σ d x y t t'=some σ'):Goes P B g σ a w o σ':=by
 have ea:args=#[x,y]:=by apply QW_;simpa using hargs
 have et:ats=#[t,t']:=by apply QW_;simpa using hats
 subst ea;subst et
 unfold ZeR at h
 split at h
 ·rename_i ty t1 ys hty hx hy
  split at h
  ·rename_i ety hety
   cases hb:(Nat.beq t t'&&Nat.beq ty.kd 3&& !(Nat.beq ety.size 0)&& !(Nat.beq ety.bytes 0)&&Nat.blt 0 ys.length&&Nat.ble ((0+ys.length)*ety.bytes) 140737488355328&&XG ety.size ys&&ZT (lk d σ.boxes)&&Nat.blt d σ.n) with
   | false=>rw[hb] at h;cases h
   | true=>
     rw[hb] at h
     simp only[Qb_] at h
     simp only[Qh_,Qi_] at hb
     obtain ⟨⟨⟨⟨⟨⟨⟨⟨b1,b2⟩,b3⟩,b4⟩,b5⟩,b6⟩,b7⟩,b8⟩,b9⟩:=hb
     have htt:=Qj_ b1
     subst htt
     have hkd:=Qj_ b2
     have s0:ety.size≠0:=fun e=>by rw[e] at b3;exact absurd b3 (by decide)
     have hb0:ety.bytes≠0:=fun e=>by rw[e] at b4;exact absurd b4 (by decide)
     have h0:0 < ys.length:=Qm_ b5
     have hbytes:=Qm_ b6
     have hlens:=Jb b7
     have hd:d < σ.n:=Qm_ b9
     have hdb:lk d σ.boxes=none:=by
      cases hq:lk d σ.boxes with
      | none=>rfl
      | some c=>rw[hq] at b8;exact absurd b8 (by simp[ZT])
     split at h
     ·rename_i E' hE'
      cases hb3:Nat.beq E' ty.elem with
      | false=>rw[hb3] at h;cases h
      | true=>
        rw[hb3] at h
        have:=Qa_ h
        subst this
        have hEe:=Qj_ hb3
        subst hEe
        obtain ⟨val,hl,hov,hbx⟩:=hI.own _ ty.elem hE'
        have hlv:LocIs g a w (match lk t1 σ.al with | some l=>l | none=> .t t1) (a.eval (.tmp t1)):=by
         split
         ·rename_i l hl;exact hI.al _ _ (Zao hl)
         ·rfl
        have hv:=Jh hl hlv
        subst hv
        have hrx:Rep g.hw w (a.eval (.tmp t1)) (.lst []):=Zt hI (by assumption)
        have hry:Rep g.hw w (a.eval y) (.lst ys):=Zt hI (by assumption)
        have hET:=ZF (hE.Γ _ _ hety)
        obtain ⟨i,z,hi,hz,e1,e2,_,_,hzs⟩:=hET.info
        obtain ⟨_,hk3,_⟩:=Ym (ZF (hE.Γ _ _ hty))
        have hu:=hk3 hkd
        obtain ⟨i',n,xv,hi',hown,hfr⟩:=hov
        rw[hi] at hi'
        have:=Qa_ hi'
        subst this
        rw[e1] at s0 hlens
        rw[e2] at hb0 hbytes
        obtain ⟨hn0,_⟩:=Zaq hrx hown (fun x hx=>by simp at hx)
        simp only[Q1_] at hn0
        subst hn0
        obtain ⟨blk,off,cap,hvy,news,n1,n2,n3,n4⟩:=Zgk hry h0 hlens
        have hsum:ys.length≤140737488355328:=by
         have:=Nat.le_mul_of_pos_right ys.length (m:=i.bytes) (by omega)
         rw[QP_] at hbytes
         omega
        obtain ⟨v',w',hr,how,hg,hblk,hst,hfz⟩:=Zfr (ty:=o.type) hu hi hz hzs (by omega) hown (m:=ys.length) (c:=cap) n1 n2 n3 (by simp only[maxLen];omega) hbytes hI.base
        have hxv:xv=[]:=QM_ (by have:=hown.1;omega)
        rw[hxv,QJ_,QP_] at how
        have hgrew:Grew g w g.hw w' (a.eval (.tmp t1)).ownBlock:=by
         refine ⟨hg.os,hg.tape,hg.output,hg.size,hg.block,fun j off hj hoff=>?_,fun _ _ _=>rfl,fun _ _ _=>Q2_ _,fun j hj=>hI.hwlt j (QT_ hg.size hj)⟩
         rw[hfr j hj] at hoff
         omega
        have hx':=hgrew.ext hI.hwlt
        have hlt0:=ZU (hI.own _ _ hE').choose_spec.2.1
        rcases how.2 with ⟨_,hz0⟩ | ⟨gb,cap',cur,hv',hgB,hgh,r1,r2,r3,r4⟩
        ·omega
        ·subst hv'
         have hgl:gb < w'.heap.size:=(QL_.1 hgh).1
         have hb':some gb=(a.eval (.tmp t1)).ownBlock∨w.heap.size≤gb:=by
          rcases hblk with h | h
          ·exact .inl h
          ·exact .inr (h gb rfl)
         obtain ⟨h1,f1⟩:=JK hI hgrew (fun j hj b cs base hbb=>hbx j hj b cs base hbb) (fun j hj=>by
          rcases hown.2 with ⟨hv0,_⟩ | ⟨g0,c0,cu0,hv0,hB0,_⟩
          ·rw[hv0] at hj;exact absurd hj (by simp[Value.ownBlock])
          ·rw[hv0] at hj;have:j=g0:=by simp[Value.ownBlock] at hj;exact hj.symm
           rw[this];exact hB0) (own':=(ZY σ (match lk t1 σ.al with | some l=>l | none=> .t t1)).own) (fun l E h=>(YW h).2)
          (fun l E2 val2 j hl2 hloc hj hj'=>(YW hl2).1 (hI.owninj l _ E2 ty.elem val2 _ j (YW hl2).2 hE' hloc hl hj' hj))
         have hw0:g.hw gb=0:=by
          rcases hb' with h | h
          ·rw[hfr gb h.symm,Nat.zero_mul]
          ·exact hI.hwlt gb h
         have c1:∀b cs base,lk b σ.boxes=some cs→g.β b≠some (gb,base):=by
          intro b cs base hbb
          rcases hb' with h | h
          ·exact hbx gb h.symm b cs base hbb
          ·intro e
           obtain ⟨k2,base2,q1,q2,_⟩:=hI.box b cs hbb
           have e':g.β b=some (gb,base):=e
           rw[q1] at e'
           cases e'
           omega
         have c2:∀l E2 val2,lkL l (ZY σ (match lk t1 σ.al with | some l=>l | none=> .t t1)).own=some E2→LocIs ⟨g.β,g.hw⟩ a w' l val2→val2.ownBlock≠some gb:=by
          intro l E2 val2 hl2 hloc
          obtain ⟨hne,hl3⟩:=YW hl2
          obtain ⟨val0,q1,q2,q3⟩:=hI.own l E2 hl3
          have hbx2:∀b c,l= .b b c→∃cs,lk b σ.boxes=some cs:=fun b c e=>by have:=hI.ownt l E2 hl3;subst e;exact this
          have q4:=Zkc hI hgrew (fun j hj b cs base hbb=>hbx j hj b cs base hbb) hbx2 q1
          have:=Jh q4 hloc
          subst this
          intro e
          rcases hb' with h | h
          ·exact hne (hI.owninj l _ E2 ty.elem val0 _ gb hl3 hE' q1 hl e h.symm)
          ·have:=(ZU q2 gb e).1
           omega
         have c3:BoxOk ⟨fun b=>if b=d then some (gb,0) else g.β b,g.hw⟩ w' gb 0 ys.flatten:=by
          refine ⟨fun p q hpq=>?_⟩
          obtain ⟨i1,j1,x1,h4,h5,h6⟩:=Zdc hlens hpq
          obtain ⟨u,h7,h8⟩:=n4 i1 j1 x1 q h4 h5
          have hc:=how.cells (g:=gb) rfl (i1 *i.size+j1) u h7
          rw[Addr.add_lit] at hc
          refine ⟨u,by rw[h6];exact hc,n3 u (Qz_ h7),by simp[World.frozen?,hgh],.rep (h8.mono hx')⟩
         have c4:∀q∈ys.flatten,∀b',YZ q=some b'→∃c,lk b' σ.boxes=some c:=by
          intro q hq b' hb2
          obtain ⟨p,hp,rfl⟩:=Km_ hq
          obtain ⟨i1,j1,x1,h4,h5,_⟩:=Zdc hlens (Qg_ hp)
          obtain ⟨u,_,h8⟩:=n4 i1 j1 x1 _ h4 h5
          rw[ZhE h8] at hb2
          cases hb2
         obtain ⟨h2,f2⟩:=Zk4 h1 (d:=d) (k:=gb) (n:=ys.length) (s:=ety.size) (cap:=cap') (cs:=ys.flatten) hd hdb hgl hgB hw0 r1 c1 c2 c3 c4
         refine .inl ⟨_,w', ?_,by rw[hdst];exact ⟨_,h2,f1.trans f2⟩⟩
         unfold execOp
         rw[hop]
         simp only[resolve,pure_bind,invoke]
         rw[show (#[Operand.tmp t1,y]:Array Operand).map a.eval=#[a.eval (.tmp t1),a.eval y] from by simp,hvy]
         exact ZI hr
     ·cases h
  ·cases h
 ·cases h
theorem Zu8{E:Env}(hE:EnvOk P E){r:Res}(h:RRA E σ o=some r):XC P σ o r:=by
 unfold RRA at h
 split at h
 ·rename_i d hd
  cases hb:Nat.blt d σ.n with
  | false=>rw[hb] at h;cases h
  | true=>
    rw[hb] at h
    simp only[Qb_] at h
    have hlt:d < σ.n:=Qm_ hb
    have fin:∀{av:AV},r=⟨av,none,none⟩→(∀B g a w,Inv P B g σ a w→∃v,(execOp a.eval o).run P w= .ok (.value v) w∧RepA g w v av∧((∀b off,av= .ptr b off→∃cs,lk b σ.boxes=some cs)∧(∀f bs,av= .fnp f bs→∀b∈bs,∃cs,lk b σ.boxes=some cs)∧(∀b off n s,av= .sl b off n s→∃cs,lk b σ.boxes=some cs)))→XC P σ o r:=by
     intro av hr hrun B g a w hI
     subst hr
     obtain ⟨v,h1,h2,h3⟩:=hrun B g a w hI
     refine ⟨here hI h1 h2 (fun _ h=>absurd h (by simp)) h3,fun d' hd'=>?_⟩
     rw[hd] at hd'
     have:=Qa_ hd'
     subst this
     exact ⟨hlt,fun l h=>absurd h (by simp)⟩
    split at h
    ·rename_i T x hop
     split at h
     ·rename_i b off ty hx hty
      cases hc:(Nat.beq ty.size 1&& !ty.agg) with
      | false=>rw[hc] at h;cases h
      | true=>
        rw[hc] at h
        simp only[Qb_] at h
        rw[Qh_] at hc
        split at h
        ·rename_i cs hcs
         have ld:∀{y:PV} {av:AV},cs[off]?=some y→(∀(g:G) (w:World) (k base j:Nat) (v:Value),RepB g.β g.hw w k base j v y→RepA g w v av)→(∀b',YZ y=some b'→((∀b off,av= .ptr b off→∃cs,lk b σ.boxes=some cs)∧(∀f bs,av= .fnp f bs→∀b∈bs,∃cs,lk b σ.boxes=some cs)∧(∀b off n s,av= .sl b off n s→∃cs,lk b σ.boxes=some cs))∨∀c,lk b' σ.boxes≠some c)→(∃b',YZ y=some b')→r=⟨av,none,none⟩→XC P σ o r:=by
          intro y av hy hra hex hrf hr
          refine fin hr fun B g a w hI=>?_
          obtain ⟨k,base,hk,hpv⟩:=ZD hI hx
          obtain ⟨k',base',hk',_,hok,_⟩:=hI.box b cs hcs
          rw[hk] at hk'
          have:=Qa_ hk'
          cases this
          obtain ⟨v,c1,c2,_,c4⟩:=hok.cell off y hy
          obtain ⟨b',hb'⟩:=hrf
          refine ⟨v, ?_,hra g w k base off v c4, ?_⟩
          ·have hag:ty.agg=false:=by simpa using hc.2
           simp only[execOp,hop,hpv]
           refine ZI ?_
           simp only[Instr.loadAt,Instr.sureAddr,pure_bind]
           unfold loadVar
           rw[Sem.run_bind,Zam (ZF (hE.Γ T ty hty)) w,Result.andThen_ok,hag]
           simp[c1]
          ·rcases hex b' hb' with h | h
           ·exact h
           ·obtain ⟨c,hc'⟩:=hI.ref b cs hcs y (Qz_ hy) b' hb'
            exact absurd hc' (h c)
         split at h
         ·rename_i b2 o2 n2 s2 hy
          have:=Qa_ h
          subst this
          refine ld hy (av:= .sl b2 o2 n2 s2) (fun g w k base j v hb=>?_) (fun b' hb'=>?_) ⟨b2,rfl⟩ rfl
          ·cases hb with
           | rep h=>cases h
           | bs _ _ _ _ h=>exact h
          ·have:=Qa_ hb'
           subst this
           by_cases hq:∃c,lk b2 σ.boxes=some c
           ·exact .inl ⟨fun _ _ h=>absurd h (by simp),fun _ _ h=>absurd h (by simp),fun b off n s h=>by cases h;exact hq⟩
           ·exact .inr fun c hc=>hq ⟨c,hc⟩
         ·rename_i b2 o2 hy
          have:=Qa_ h
          subst this
          refine ld hy (av:= .ptr b2 o2) (fun g w k base j v hb=>?_) (fun b' hb'=>?_) ⟨b2,rfl⟩ rfl
          ·cases hb with
           | rep h=>cases h
           | bp _ _ h=>exact h
          ·have:=Qa_ hb'
           subst this
           by_cases hq:∃c,lk b2 σ.boxes=some c
           ·exact .inl ⟨fun b off h=>by cases h;exact hq,fun _ _ h=>absurd h (by simp),fun _ _ _ _ h=>absurd h (by simp)⟩
           ·exact .inr fun c hc=>hq ⟨c,hc⟩
         ·cases h
        ·cases h
     ·cases h
    ·rename_i T x i hop
     split at h
     ·rename_i ty b off n s kk m hty hx hi
      split at h
      ·rename_i ety hety
       cases hc:(Nat.beq ty.kd 3&&Nat.beq ety.size s&&decide (0≤m)&&decide (m < n)) with
       | false=>rw[hc] at h;cases h
       | true=>
         rw[hc] at h
         have:=Qa_ h
         subst this
         simp only[Qh_] at hc
         obtain ⟨⟨⟨c1,c2⟩,c3⟩,c4⟩:=hc
         have hs:=Qj_ c2
         have q1:=Qy_ c3
         have q2:=Qy_ c4
         subst hs
         refine fin rfl fun B g a w hI=>?_
         obtain ⟨k,base,cap,hk,hcap,hpv⟩:=ZD hI hx
         have hiv:=Z6 (Zt hI hi)
         obtain ⟨_,hk3,_⟩:=Ym (ZF (hE.Γ _ _ hty))
         have hu:=hk3 (Qj_ c1)
         refine ⟨.pointer (some ⟨k,base+(off+m.toNat *ety.size),none⟩), ?_,⟨k,base,hk,rfl⟩,fun b' off' e=>by cases e;exact Zu7 hI hx,fun _ _ h=>absurd h (by simp),fun _ _ _ _ h=>absurd h (by simp)⟩
         simp only[execOp,hop,hpv,hiv]
         refine ZI ?_
         have hc1:(0:Int)≤m∧m < (n:Int):=⟨q1,q2⟩
         simp[Instr.indexAt,asIntOf,run_underlying hu,hc1,ZP (ZF (hE.Γ _ _ hety)),Addr.add_lit,Kr_]
      ·cases h
     ·cases h
    ·rename_i args ats hop
     split at h
     ·rename_i x t hargs hats
      split at h
      ·rename_i b off n s ty hx hty
       cases hk0:Nat.beq ty.kd 3 with
       | false=>rw[hk0] at h;cases h
       | true=>
       rw[hk0] at h
       have:=Qa_ h
       subst this
       obtain ⟨_,hk3,_⟩:=Ym (ZF (hE.Γ _ _ hty))
       have hu:=hk3 (Qj_ hk0)
       refine fin rfl fun B g a w hI=>?_
       obtain ⟨k,base,cap,hk,hcap,hpv⟩:=ZD hI hx
       refine ⟨.int .i64 n, ?_,.v _ rfl,fun _ _ h=>absurd h (by simp),fun _ _ h=>absurd h (by simp),fun _ _ _ _ h=>absurd h (by simp)⟩
       have ea:args=#[x]:=by apply QW_;simpa using hargs
       have et:ats=#[t]:=by apply QW_;simpa using hats
       subst ea;subst et
       unfold execOp
       rw[hop]
       simp only[resolve,pure_bind,invoke]
       rw[show (#[x]:Array Operand).map a.eval=#[a.eval x] from by simp,hpv]
       exact ZI (by simp[Builtin.len_,run_underlying hu,goInt])
      ·cases h
     ·cases h
    ·cases h
 ·cases h
end
abbrev Zg2:=Nat→List PV→List PV→Option (PV×List PV)
abbrev Zdd:=Nat→St→List AV→Option (PV×St)
def Jj(Γ:List (Nat×Ty))(σ:St)(x y:Operand)(t:TypeId):Bool:=
 match lk t Γ,Zw σ x,Zw σ y with
 | some ty,some xv,some (.lst ys)=>match lk ty.elem Γ with
   | some ety=>match xv with
     | .nil=>Nat.blt 0 ys.length&&Nat.ble ((0+ys.length)*ety.bytes) 140737488355328&&XG ety.size ys
     | .lst xs=>Nat.blt 0 ys.length&&Nat.ble ((xs.length+ys.length)*ety.bytes) 140737488355328&&XG ety.size (xs++ys)
     | _=>false
   | none=>false
 | _,_,_=>false
def RR2(E:Env)(call:YU)(j:Nat)(σ:St)(o:Oper):Option Res:=
 match RR E call j σ o with
 | some r=>some r
 | none=>RRA E σ o
def WN(E:Env)(call:YU)(j:Nat)(σ:St)(o:Oper):Option St:=
 match RR2 E call j σ o with
 | some r=>match o.dst with
   | some d=>some (Xa σ d r)
   | none=>bif ZT r.box then some σ else none
 | none=>none
def Zju(calli:Zdd)(σ:St)(o:Oper)(fid:Nat)(args:List Operand):Option St:=
 match Xt (opd σ) args with
 | some l=>bif l.all (Zke σ.boxes)&&Zc3 σ.boxes then
    match calli fid σ l with
    | some (r,σ1)=>match o.dst with
      | some d=>bif Nat.blt d σ1.n then some (put σ1 d (.p r)) else none
      | none=>some σ1
    | none=>none
   else none
 | none=>none
def Zoa(E:Env)(call:YU)(callp:Zg2)(calli:Zdd)(j:Nat)(σ:St)(o:Oper)(f:Operand)(args:List Operand):Option St:=
 match f with
 | .func fid=>bif has fid E.wr then
    match args with
    | p::rest=>match opd σ p,Xt (opd σ) rest with
      | some (.ptr b off),some l=>match lk b σ.boxes,YQ σ.boxes l with
        | some cs,some (xs,_)=>match callp fid (cs.drop off) xs with
          | some (r,cs')=>match Zc2 σ o.dst f args [.callp 0 [] [] r cs'] with
            | some (σ',_,_)=>bif Nat.beq cs'.length (cs.length - off) then some σ' else none
            | none=>none
          | none=>none
        | _,_=>none
      | _,_=>none
    | []=>none
   else bif has fid E.inl then Zju calli σ o fid args
   else bif has fid E.cc then (match args with | [x]=>ZnY σ o.dst x | _=>none)
   else match lk fid E.bst with
   | some e=>(match args with | [x]=>Zea σ e o.dst x | _=>none)
   | none=>WN E call j σ o
 | _=>WN E call j σ o
def Zeb(E:Env)(call:YU)(j:Nat)(σ:St)(o:Oper)(T:TypeId):Option St:=
 bif Nat.beq T Jp then
  match Zk2 E σ o.dst,o.dst with
  | some r,some d=>some (Xa σ d r)
  | _,_=>none
 else WN E call j σ o
def isE(σ:St)(x:Operand):Bool:=match Zw σ x with
 | some (.lst [])=>true
 | _=>false
def TT(E:Env)(call:YU)(callp:Zg2)(calli:Zdd)(j:Nat)(σ:St)(o:Oper):Option St:=
 match o.op with
 | .store T p x=>match o.dst with
   | none=>match X9 E.Γ σ T p x with
     | some σ'=>some σ'
     | none=>ZfC E.Γ σ T p x
   | some _=>none
 | .buildSlice T n ps=>bif has T E.sla&&Nat.beq n 0 then
    match o.dst,ps.toList with
    | some d,[]=>Zjt E σ d T
    | _,_=>none
   else WN E call j σ o
 | .call ⟨.builtin .append,args,ats⟩=>match args.toList,ats.toList,o.dst with
   | [x,y],[t,t'],some d=>bif has t E.sla&&isE σ x then ZeR E σ d x y t t' else bif Nat.beq t t' then (bif Nat.blt d σ.n&&Jj E.Γ σ x y t then
       match Wo E.Γ σ d x y t t' [.pr True] with
       | some (σ',_,_)=>some σ'
       | none=>none
     else none) else bif Nat.blt d σ.n then Zax E σ d x y t t' else none
   | _,_,_=>none
 | .slice T x none none none=>match o.dst with
   | some d=>bif Nat.blt d σ.n then ZcO E.Γ σ d T x else none
   | none=>none
 | .call ⟨.value f,args,_⟩=>Zoa E call callp calli j σ o f args.toList
 | .alloc T=>Zeb E call j σ o T
 | _=>WN E call j σ o
section
variable {P:Program}{B:Nat}{g:G}{σ τ:St}{a:Act}{w:World}{o:Oper}
def Zni(P:Program)(callp:Zg2):Prop:=∀f cs args r cs',callp f cs args=some (r,cs')→ZjU P f cs args r cs'
def ZhP(P:Program)(calli:Zdd):Prop:=∀f σ args r σ',calli f σ args=some (r,σ')→Ztl P f σ args r σ'
theorem Zec{E:Env}(hE:EnvOk P E){call:YU}(hC:Zbp P call):∀j τ o r,RR2 E call j τ o=some r→XC P τ o r:=by
 intro j τ o r h
 unfold RR2 at h
 split at h
 ·rename_i r' h1
  have:=Qa_ h
  subst this
  exact ZvN hE hC j τ o r' h1
 ·exact Zu8 hE h
theorem Zay{E:Env}(hE:EnvOk P E){call:YU}(hC:Zbp P call){j:Nat}{σ':St}(h:WN E call j σ o=some σ')(hI:Inv P B g σ a w):Goes P B g σ a w o σ':=by
 unfold WN at h
 split at h
 ·rename_i r hr
  obtain ⟨q1,q2⟩:=Zec hE hC j σ o r hr B g a w hI
  split at h
  ·rename_i d hd
   have:=Qa_ h
   subst this
   obtain ⟨q3,q4⟩:=q2 d hd
   refine JL hd (q1.mono fun v w' ⟨g',hp⟩=>⟨g',ZaO hI hp hd q3 q4,ZdM hI hp q3⟩)
  ·rename_i hd
   cases hb:ZT r.box with
   | false=>rw[hb] at h;cases h
   | true=>
     rw[hb] at h
     have:=Qa_ h
     subst this
     have hbx:r.box=none:=by
      cases hr:r.box with
      | none=>rfl
      | some cs=>rw[hr] at hb;exact absurd hb (by simp[ZT])
     refine JL hd (q1.mono fun v w' ⟨g',hp⟩=>?_)
     obtain ⟨k1,k2⟩:=Zc1 hI hp.qt
     have:=hp.noBox hbx
     obtain ⟨β',hw'⟩:=g'
     have this:β'=g.β:=this
     subst this
     exact ⟨_,k1,k2⟩
 ·cases h
theorem Zk5{Γ:List (Nat×Ty)}{x y:Operand}{t t':TypeId}{d:Nat}{os' ob:List Obl}{σ':St}(hc:Jj Γ σ x y t=true)(h:Wo Γ σ d x y t t' [.pr True]=some (σ',os',ob)):ZM P ob:=by
 unfold Jj at hc
 unfold Wo at h
 split at hc
 ·rename_i ty xv ys hty hx hy
  rw[hty,hx,hy] at h
  simp only at h
  split at hc
  ·rename_i ety hety
   cases hb:(Nat.beq t t'&&Nat.beq ty.kd 3) with
   | false=>rw[hb] at h;cases h
   | true=>
     rw[hb] at h
     simp only[Qb_,hety] at h
     cases hb2:(Nat.beq ety.size 0||Nat.beq ety.bytes 0) with
     | true=>rw[hb2] at h;cases h
     | false=>
       rw[hb2] at h
       simp only[Qd_] at h
       split at hc
       ·have:=Qa_ h
        cases this
        simp only[Qh_] at hc
        exact Z4 (show 0 < ys.length∧(0+ys.length)*ety.bytes≤140737488355328∧Lens ety.size ys from ⟨Qm_ hc.1.1,Qm_ hc.1.2,Jb hc.2⟩)
       ·rename_i xs
        simp only[Qh_] at hc
        cases x with
        | tmp t1=>
          simp only at h
          split at h
          ·rename_i E hE
           cases hb3:Nat.beq E ty.elem with
           | false=>rw[hb3] at h;cases h
           | true=>
             rw[hb3] at h
             have:=Qa_ h
             cases this
             exact Z4 (show 0 < ys.length∧(xs.length+ys.length)*ety.bytes≤140737488355328∧Lens ety.size (xs++ys) from ⟨Qm_ hc.1.1,Qm_ hc.1.2,Jb hc.2⟩)
          ·cases h
        | const _=>cases h
        | global _=>cases h
        | func _=>cases h
       ·cases hc
  ·cases hc
 ·cases hc
theorem Zob{calli:Zdd}(hJ:ZhP P calli)(hI:Inv P B g σ a w){fid:FuncId}{args:Array Operand}{ats:Array TypeId}{σ':St}(hop:o.op= .call ⟨.value (.func fid),args,ats⟩)
 (h:Zju calli σ o fid args.toList=some σ'):Goes P B g σ a w o σ':=by
 unfold Zju at h
 split at h
 ·rename_i l hl
  cases hb:(l.all (Zke σ.boxes)&&Zc3 σ.boxes) with
  | false=>rw[hb] at h;cases h
  | true=>
    rw[hb] at h
    simp only[Qb_] at h
    rw[Qh_] at hb
    split at h
    ·rename_i r σ1 hc
     obtain ⟨e1,e2⟩:=Zcz hI hl
     have hcall:=hJ fid σ l r σ1 hc B g a w (args.toList.map a.eval) hI (by simpa using e1) e2 (fun av hav=>QK_.1 hb.1 av hav) hb.2
     have key:∀σ2:St,(∀v w' g',Inv P B g' σ1 a w'→Fr B g σ w g' σ1 w'→Rep g'.hw w' v r→Inv P B g' σ2 (a.put o.dst v) w'∧Fr B g σ w g' σ2 w')→Goes P B g σ a w o σ2:=by
      intro σ2 hnext
      refine Ju (hcall.mono fun v w' ⟨g',q1,q2,q3⟩=>⟨g',hnext v w' g' q1 q2 q3⟩) (fun res hres=>?_)
      have e:args.map a.eval=(args.toList.map a.eval).toArray:=by apply QW_;simp
      have hfv:a.eval (.func fid)= .func (.func fid) #[] #[]:=rfl
      unfold execOp
      rw[hop]
      simp only[resolve,Deferred.ofValue,hfv,pure_bind,invoke,e]
      rw[←hres]
      congr 2
      simp
     split at h
     ·rename_i d hd
      cases hb2:Nat.blt d σ1.n with
      | false=>rw[hb2] at h;cases h
      | true=>
        rw[hb2] at h
        have:=Qa_ h
        subst this
        refine key _ fun v w' g' q1 q2 q3=>⟨by rw[hd];exact XN q1 (show d < σ1.n from Qm_ hb2) q3,⟨q2.os,q2.tape,q2.output,q2.size,q2.n,q2.block,q2.cell,q2.frozen,q2.hw,q2.par,q2.ext⟩⟩
     ·rename_i hd
      have:=Qa_ h
      subst this
      exact key _ fun v w' g' q1 q2 _=>⟨by rw[hd];exact q1,q2⟩
    ·cases h
 ·cases h
theorem ZvO{E:Env}(hE:EnvOk P E){call:YU}(hC:Zbp P call){callp:Zg2}(hP:Zni P callp){calli:Zdd}(hJ:ZhP P calli):∀j σ o σ',TT E call callp calli j σ o=some σ'→∀B g a w,Inv P B g σ a w→Goes P B g σ a w o σ':=by
 intro j σ o σ' h B g a w hI
 unfold TT at h
 split at h
 ·rename_i T p x hop
  split at h
  ·rename_i hd
   split at h
   ·rename_i σ2 h2
    have:=Qa_ h
    subst this
    exact Zgl hE.Γ hI hop hd h2
   ·exact Zm6 hE.Γ hI hop hd h
  ·cases h
 ·rename_i T n ps hop
  cases hb:(has T E.sla&&Nat.beq n 0) with
  | false=>rw[hb] at h;exact Zay hE hC h hI
  | true=>
    rw[hb] at h
    simp only[Qb_] at h
    rw[Qh_] at hb
    have hn:=Qj_ hb.2
    subst hn
    split at h
    ·rename_i d hd hps
     exact ZrX hE hI hop hps hd h
    ·cases h
 ·rename_i args ats hop
  split at h
  ·rename_i x y t t' d hargs hats hdst
   cases hsl:(has t E.sla&&isE σ x) with
   | true=>
     rw[hsl] at h
     exact ZnZ hE hI hop hargs hats hdst h
   | false=>
   rw[hsl] at h
   simp only[Qd_] at h
   cases htt:Nat.beq t t' with
   | false=>
     rw[htt] at h
     simp only[Qd_] at h
     cases hb:Nat.blt d σ.n with
     | false=>rw[hb] at h;cases h
     | true=>
       rw[hb] at h
       exact Zk1 hE hI hop hargs hats hdst (Qm_ hb) h
   | true=>
   rw[htt] at h
   simp only[Qb_] at h
   cases hb:(Nat.blt d σ.n&&Jj E.Γ σ x y t) with
   | false=>rw[hb] at h;cases h
   | true=>
     rw[hb] at h
     simp only[Qb_] at h
     rw[Qh_] at hb
     split at h
     ·rename_i σ1 os1 ob1 h1
      have:=Qa_ h
      subst this
      exact Zmw hE.Γ hI hop hargs hats hdst (Qm_ hb.1) h1 (Zk5 hb.2 h1)
     ·cases h
  ·cases h
 ·rename_i T x hop
  split at h
  ·rename_i d hd
   cases hb:Nat.blt d σ.n with
   | false=>rw[hb] at h;cases h
   | true=>
     rw[hb] at h
     exact Zmx hE.Γ hI hop hd (Qm_ hb) h
  ·cases h
 ·rename_i f args ats hop
  unfold Zoa at h
  split at h
  ·rename_i fid
   cases hb:has fid E.wr with
   | false=>
     rw[hb] at h
     simp only[Qd_] at h
     cases hb2:has fid E.inl with
     | true=>
       rw[hb2] at h
       exact Zob hJ hI hop h
     | false=>
       rw[hb2] at h
       simp only[Qd_] at h
       cases hb3:has fid E.cc with
       | true=>
         rw[hb3] at h
         simp only[Qb_] at h
         split at h
         ·rename_i x hx
          exact ZtP (hE.cc fid hb3) hI hop hx h
         ·cases h
       | false=>
         rw[hb3] at h
         simp only[Qd_] at h
         split at h
         ·rename_i e he
          split at h
          ·rename_i x hx
           exact ZpZ (hE.bst fid e he).1 (hE.bst fid e he).2 hI hop hx h
          ·cases h
         ·exact Zay hE hC h hI
   | true=>
     rw[hb] at h
     simp only[Qb_] at h
     split at h
     ·rename_i p rest hargs
      split at h
      ·rename_i b off l hp hl
       split at h
       ·rename_i cs xs c hcs hxs
        split at h
        ·rename_i r cs' hcall
         split at h
         ·rename_i σ1 os1 ob1 h1
          cases hb2:Nat.beq cs'.length (cs.length - off) with
          | false=>rw[hb2] at h;cases h
          | true=>
            rw[hb2] at h
            have:=Qa_ h
            subst this
            have hlen:=Qj_ hb2
            refine ZnN hI hop h1 ?_
            rw[hargs] at h1
            unfold Zc2 at h1
            rw[show opd σ (.func fid)=some (.p (.fn fid [])) from rfl] at h1
            simp only[hp,hl,hcs,hxs] at h1
            have hob:ob1=[.callp fid ((cs.drop off).take cs'.length) xs r cs']:=by
             cases c with
             | true=>cases h1
             | false=>
               simp only at h1
               cases hb3:(Nat.ble (off+cs'.length) cs.length&& !(has b σ.ro)&&YD cs&&YD cs') with
               | false=>rw[hb3] at h1;cases h1
               | true=>
                 rw[hb3] at h1
                 simp only[Qb_] at h1
                 split at h1
                 ·have:=Qa_ h1;cases this;rfl
                 ·rename_i d _
                  cases hb4:Nat.blt d σ.n with
                  | false=>rw[hb4] at h1;cases h1
                  | true=>rw[hb4] at h1;have:=Qa_ h1;cases this;rfl
            subst hob
            refine Z4 ?_
            have e:(cs.drop off).take cs'.length=cs.drop off:=by rw[Kh_ (by simp[hlen])]
            show ZjU P fid ((cs.drop off).take cs'.length) xs r cs'
            rw[e]
            exact hP _ _ _ _ _ hcall
         ·cases h
        ·cases h
       ·cases h
      ·cases h
     ·cases h
  ·exact Zay hE hC h hI
 ·rename_i T hop
  unfold Zeb at h
  cases hb:Nat.beq T Jp with
  | false=>rw[hb] at h;exact Zay hE hC h hI
  | true=>
    rw[hb] at h
    simp only[Qb_] at h
    have hT:=Qj_ hb
    subst hT
    split at h
    ·rename_i r d hr hd
     have:=Qa_ h
     subst this
     obtain ⟨q1,q2⟩:=Zqa hE hop hr B g a w hI
     obtain ⟨q3,q4⟩:=q2 d hd
     exact JL hd (q1.mono fun v w' ⟨g',hp⟩=>⟨g',ZaO hI hp hd q3 q4,ZdM hI hp q3⟩)
    ·cases h
 ·exact Zay hE hC h hI
end
def Zk6:TypeDesc→Bool
 | .struct _=>false
 | .array _ _=>false
 | _=>true
section
variable {P:Program}
theorem Zg3{T:TypeId}{d:TypeDesc}(hu:P.underlying T=some d)(hd:Zk6 d=true){xs:List Value}{i:Nat}{v:Value}(hx:xs[i]?=some v)(w:World):(part T xs.toArray i).run P w= .ok v w:=by
 cases d<;>first | (cases hd;done) | simp[part,isAgg,run_underlying hu,hx]
theorem ZrY:ZW P []:=fun T ty h=>by simp[lk] at h
theorem Z2{T:TypeId}{ty:Ty}{Γ:List (Nat×Ty)}(h:ZnH P T=some ty)(hr:ZW P Γ):ZW P ((T,ty)::Γ):=fun T' ty' h'=>by
 rw[Zs] at h'
 split at h'
 ·rename_i e
  have:=Qa_ h'
  subst this;subst e
  exact h
 ·exact hr T' ty' h'
def Zjv(P:Program)(l:List (Nat×Func)):Prop:=∀f fn,lk f l=some fn→P.funcs[f]?=some fn∧∀args w,(callFunc f args).run P w= .ok (.enter f args) w
theorem Zqb:Zjv P []:=fun f fn h=>by simp[lk] at h
theorem Za{f:Nat}{fn:Func}{l:List (Nat×Func)}(h:P.funcs[f]?=some fn)(hc:∀args w,(callFunc f args).run P w= .ok (.enter f args) w)(hr:Zjv P l):Zjv P ((f,fn)::l):=fun f' fn' h'=>by
 rw[Zs] at h'
 split at h'
 ·rename_i e
  have:=Qa_ h'
  subst this;subst e
  exact ⟨h,hc⟩
 ·exact hr f' fn' h'
def Zjw(P:Program)(l:List (Nat×List Nat)):Prop:=∀T sh,lk T l=some sh→Zkt P T sh
theorem Zqc:Zjw P []:=fun T sh h=>by simp[lk] at h
theorem ZaR{T:Nat}{sh:List Nat}{l:List (Nat×List Nat)}(h:Zkt P T sh)(hr:Zjw P l):Zjw P ((T,sh)::l):=fun T' sh' h'=>by
 rw[Zs] at h'
 split at h'
 ·rename_i e
  have:=Qa_ h'
  subst this;subst e
  exact h
 ·exact hr T' sh' h'
def Zg4(P:Program)(l:List (Nat×IntKind)):Prop:=∀T k,lk T l=some k→P.underlying T=some (.int k)
theorem Zoc:Zg4 P []:=fun T k h=>by simp[lk] at h
theorem Zag{T:Nat}{k:IntKind}{l:List (Nat×IntKind)}(h:P.underlying T=some (.int k))(hr:Zg4 P l):Zg4 P ((T,k)::l):=fun T' k' h'=>by
 rw[Zs] at h'
 split at h'
 ·rename_i e
  have:=Qa_ h'
  subst this;subst e
  exact h
 ·exact hr T' k' h'
theorem Zqd{w:World}{M:Nat}(h:∀x cs,lk x Zab=some cs→∃arr t fr,w.heap[x]?=some (.cells arr t fr)∧(∀v∈arr.toList,v.oneCell'=true)∧cs=arr.toList.map cv∧0 < arr.size∧arr.size≤M):GlobOk (fun k=>if k < w.heap.size then M else 0) w:=by
 intro x cs hx
 obtain ⟨arr,t,fr,h1,h2,rfl,h3,h4⟩:=h x cs hx
 have hlt:x < w.heap.size:=(QL_.1 h1).1
 have hcell:∀j v,arr.toList[j]?=some v→w.cell? ⟨x,j,none⟩=some v:=fun j v hj=>by
  simp only[World.cell?,h1]
  simpa using hj
 refine ⟨?_,by simpa using h3,arr,t,fr,h1,by simp⟩
 refine .lptr (arr.toList.map cv) x 0 0 (fun j=>arr.toList.getD j undef) (fun j hj=>?_) (fun j y hy=>?_) (fun j hj=>?_) (by simp[hlt,h4])
 ·have hj':j < arr.toList.length:=by simpa using hj
  rw[QP_]
  refine (hcell j arr.toList[j] (Qg_ hj')).trans ?_
  rw[Q7_,Qg_ hj']
  rfl
 ·rw[Q6_] at hy
  cases hv:arr.toList[j]? with
  | none=>rw[hv] at hy;cases hy
  | some v=>
    rw[hv] at hy
    have:=Qa_ hy
    subst this
    have:arr.toList.getD j undef=v:=by rw[Q7_,hv];rfl
    rw[this]
    exact Zgb _ _ _ (h2 v (Qz_ hv))
 ·have hj':j < arr.toList.length:=by simpa using hj
  have:arr.toList.getD j undef=arr.toList[j]:=by rw[Q7_,Qg_ hj'];rfl
  rw[this]
  exact h2 _ (K1_ hj')
theorem Zod{W W':World}(h:Below W.heap.size W W')(may:MemPlace→Prop):W.keptBut W' may:=
 ⟨h.os,h.output,fun i hi=>by rw[h.block i hi];exact (World.keptBut_refl W may).2.2 i hi⟩
open Go.ChangeShapes Go.WideShapes in
theorem Zje{H:Type}{enc:TypeId×Value→H}{f:Func}{s:ChangeSpec}{apart fresh handsOn again:Bool}{W W':World}{args:Array Value}{v:Value}{ds gs:List (DataW H)}{before pa pv:List MemPlace}
 (hW:DataW.Whole enc P f.params.toList s.vars apart W args.toList ds gs before)
 (hres:∀(b:Nat) (sp:Nat→Bool) (hd:Bool),DataW.TrodAll enc P W' b sp hd f.resultTypes.toList (v.resultList f.resultTypes.size) (s.fn H (ds++gs)).results [])
 (hargs:∀sp:Nat→Bool,(∀p∈before,sp p.block=true)→DataW.TrodAll enc P W' 0 sp true f.params.toList args.toList (s.fn H (ds++gs)).args pa)
 (hvars:∀sp:Nat→Bool,(∀p∈before,sp p.block=true)→DataW.TrodVars enc P W' sp s.vars (s.fn H (ds++gs)).vars pv)
 (hps:before=pa++pv) (hb:Below W.heap.size W W')
 (hok:∀(j:Nat) (t:TypeId) (r:Value),f.resultTypes[j]?=some t→(v.resultList f.resultTypes.size)[j]?=some r→Value.okWide P W' .any 0 t r):
 s.post enc P f apart fresh handsOn again W args v W':=by
 have hold:∀p∈before,(fun b=>decide (b < W.heap.size)) p.block=true:=fun p hp=>by simpa using hW.lt p hp
 have hlt:=hW.lt
 refine ⟨ds,gs,before,[],pa,pv,hW,hres _ _ _,hargs _ hold,hvars _ hold,World.keptBut_mono (fun p hp=>⟨hp, ?_⟩) (Zod hb (·∈before)),fun _=>?_⟩
 ·rw[hps,Kt_] at hp
  exact Or.inr hp
 ·obtain ⟨_,_,_,_,_,hz,hn⟩:=hW
  refine ⟨hok,_,_,([]++pa)++pv,⟨[]++pa,pv,trodAll_append (hargs _ (fun _ _=>rfl)) (hres _ _ _),hvars _ (fun _ _=>rfl),rfl, ?_, ?_⟩, ?_⟩
  ·intro b off hp
   have hp':MemPlace.cell b off∈before:=by rw[hps];simpa using hp
   rw[hb.frozen (p:=⟨b,off,none⟩) (hlt _ hp')]
   exact hz b off hp'
  ·intro ha
   have:=hn ha
   rw[hps] at this
   simpa using this
  ·intro p hp _
   rw[hps]
   simpa using hp
end
section force
universe u
variable {α:Sort u}
def fN(n:Nat)(k:Nat→α):α:=match n with
 | 0=>k 0
 | m+1=>k (Nat.succ m)
def fI(i:Int)(k:Int→α):α:=match i with
 | .ofNat n=>fN n fun n=>k (.ofNat n)
 | .negSucc n=>fN n fun n=>k (.negSucc n)
def fB(b:Bool)(k:Bool→α):α:=match b with
 | true=>k true
 | false=>k false
def ZrZ(v:Value)(k:Value→α):α:=match v with
 | .int kd i=>fI i fun i=>k (.int kd i)
 | .bool b=>fB b fun b=>k (.bool b)
 | x=>k x
def Zoe:List UInt8→(List UInt8→α)→α
 | [],k=>k []
 | x::r,k=>Zoe r fun r=>k (x::r)
theorem YA(n:Nat)(k:Nat→α):fN n k=k n:=by cases n<;>rfl
theorem ZvP(n:Int)(k:Int→α):fI n k=k n:=by cases n<;>simp only[fI,YA]
theorem Zof(n:Bool)(k:Bool→α):fB n k=k n:=by cases n<;>rfl
theorem ZtR(v:Value)(k:Value→α):ZrZ v k=k v:=by cases v<;>simp only[ZrZ,ZvP,Zof]
theorem Znj:∀(l:List UInt8) (k:List UInt8→α),Zoe l k=k l
 | [],_=>rfl
 | x::r,k=>by simp only[Zoe];rw[Znj r]
mutual
def fPV:PV→(PV→α)→α
 | .v x,k=>ZrZ x fun x=>k (.v x)
 | .str l,k=>Zoe l fun l=>k (.str l)
 | .nil,k=>k .nil
 | .lst xs,k=>Zk7 xs fun xs=>k (.lst xs)
 | .lptr cs off,k=>fPL cs fun cs=>fN off fun off=>k (.lptr cs off)
 | .agg cs,k=>fPL cs fun cs=>k (.agg cs)
 | .tup cs,k=>fPL cs fun cs=>k (.tup cs)
 | .fn f cs,k=>fPL cs fun cs=>fN f fun f=>k (.fn f cs)
 | .bld u,k=>fB u fun u=>k (.bld u)
 | .bp b off,k=>fN b fun b=>fN off fun off=>k (.bp b off)
 | .bs b off n s,k=>fN b fun b=>fN off fun off=>fN n fun n=>fN s fun s=>k (.bs b off n s)
def fPL:List PV→(List PV→α)→α
 | [],k=>k []
 | x::r,k=>fPV x fun x=>fPL r fun r=>k (x::r)
def Zk7:List (List PV)→(List (List PV)→α)→α
 | [],k=>k []
 | x::r,k=>fPL x fun x=>Zk7 r fun r=>k (x::r)
end
mutual
theorem Zu9:∀(x:PV) (k:PV→α),fPV x k=k x
 | .v x,k=>by simp only[fPV,ZtR]
 | .str l,k=>by simp only[fPV,Znj]
 | .nil,k=>by simp only[fPV]
 | .lst xs,k=>by simp only[fPV];rw[Znk xs]
 | .lptr cs off,k=>by simp only[fPV,YA];rw[Zc6 cs]
 | .agg cs,k=>by simp only[fPV];rw[Zc6 cs]
 | .tup cs,k=>by simp only[fPV];rw[Zc6 cs]
 | .fn f cs,k=>by simp only[fPV,YA];rw[Zc6 cs]
 | .bld u,k=>by simp only[fPV,Zof]
 | .bp b off,k=>by simp only[fPV,YA]
 | .bs b off n s,k=>by simp only[fPV,YA]
theorem Zc6:∀(x:List PV) (k:List PV→α),fPL x k=k x
 | [],k=>by simp only[fPL]
 | x::r,k=>by simp only[fPL];rw[Zu9 x,Zc6 r]
theorem Znk:∀(x:List (List PV)) (k:List (List PV)→α),Zk7 x k=k x
 | [],k=>by simp only[Zk7]
 | x::r,k=>by simp only[Zk7];rw[Zc6 x,Znk r]
end
def fNs:List Nat→(List Nat→α)→α
 | [],k=>k []
 | x::r,k=>fN x fun x=>fNs r fun r=>k (x::r)
theorem Zc7:∀(l:List Nat) (k:List Nat→α),fNs l k=k l
 | [],_=>rfl
 | x::r,k=>by simp only[fNs,YA];rw[Zc7 r]
def Zk8(a:Loc)(k:Loc→α):α:=match a with
 | .t t=>fN t fun t=>k (.t t)
 | .b b c=>fN b fun b=>fN c fun c=>k (.b b c)
theorem ZhQ(a:Loc)(k:Loc→α):Zk8 a k=k a:=by cases a<;>simp only[Zk8,YA]
def Zk9{β:Type}(l:List β)(k:List β→α):α:=match l with
 | []=>k []
 | x::r=>k (x::r)
theorem ZhR{β:Type}(l:List β)(k:List β→α):Zk9 l k=k l:=by cases l<;>rfl
def fOw:List (Loc×Nat)→(List (Loc×Nat)→α)→α
 | [],k=>k []
 | (t,v)::r,k=>Zk8 t fun t=>fN v fun v=>fOw r fun r=>k ((t,v)::r)
theorem Zg5:∀(l:List (Loc×Nat)) (k:List (Loc×Nat)→α),fOw l k=k l
 | [],_=>rfl
 | (t,v)::r,k=>by simp only[fOw,YA,ZhQ];rw[Zg5 r]
def fAl:List (Nat×Loc)→(List (Nat×Loc)→α)→α
 | [],k=>k []
 | (t,v)::r,k=>fN t fun t=>Zk8 v fun v=>fAl r fun r=>k ((t,v)::r)
theorem Zg6:∀(l:List (Nat×Loc)) (k:List (Nat×Loc)→α),fAl l k=k l
 | [],_=>rfl
 | (t,v)::r,k=>by simp only[fAl,YA,ZhQ];rw[Zg6 r]
def Zog(a:AV)(k:AV→α):α:=match a with
 | .p x=>k (.p x)
 | .ptr b off=>fN b fun b=>fN off fun off=>k (.ptr b off)
 | .fnp f bs=>fN f fun f=>fNs bs fun bs=>k (.fnp f bs)
 | .sl b off n s=>fN b fun b=>fN off fun off=>fN n fun n=>fN s fun s=>k (.sl b off n s)
theorem ZtS(a:AV)(k:AV→α):Zog a k=k a:=by cases a<;>simp only[Zog,YA,Zc7]
def Zoh:List (Nat×List PV)→(List (Nat×List PV)→α)→α
 | [],k=>k []
 | (t,v)::r,k=>fN t fun t=>Zoh r fun r=>k ((t,v)::r)
theorem Znl:∀(l:List (Nat×List PV)) (k:List (Nat×List PV)→α),Zoh l k=k l
 | [],_=>rfl
 | (t,v)::r,k=>by simp only[Zoh,YA];rw[Znl r]
end force
def ZvQ:Op→Bool
 | .alloc _=>true
 | .box _ _=>true
 | .store _ _ _=>true
 | .call _=>true
 | _=>false
def fWs{α:Sort _}:List (Nat×Nat)→(List (Nat×Nat)→α)→α
 | [],k=>k []
 | (x,y)::r,k=>fN x fun x=>fN y fun y=>fWs r fun r=>k ((x,y)::r)
theorem Zqe{α:Sort _}:∀(l:List (Nat×Nat)) (k:List (Nat×Nat)→α),fWs l k=k l
 | [],_=>rfl
 | (x,y)::r,k=>by simp only[fWs,YA];rw[Zqe r]
def vEq:Value→Value→Bool
 | .int k a,.int k' b=>decide (k=k')&&decide (a=b)
 | .bool a,.bool b=>a==b
 | _,_=>false
def sEq:List UInt8→List UInt8→Bool
 | [],[]=>true
 | a::r,b::s=>Nat.beq a.toNat b.toNat&&sEq r s
 | _,_=>false
mutual
def JR:PV→PV→Bool
 | .v x,y=>match y with | .v y=>vEq x y | _=>false
 | .str l,y=>match y with | .str m=>sEq l m | _=>false
 | .nil,y=>match y with | .nil=>true | _=>false
 | .lst xs,y=>match y with | .lst ys=>Zed xs ys | _=>false
 | .agg xs,y=>match y with | .agg ys=>Zde xs ys | _=>false
 | .tup xs,y=>match y with | .tup ys=>Zde xs ys | _=>false
 | .lptr _ _,_=>false
 | .fn _ _,_=>false
 | .bld _,_=>false
 | .bp _ _,_=>false
 | .bs _ _ _ _,_=>false
def Zde:List PV→List PV→Bool
 | [],l=>match l with | []=>true | _=>false
 | x::r,l=>match l with | y::s=>JR x y&&Zde r s | []=>false
def Zed:List (List PV)→List (List PV)→Bool
 | [],l=>match l with | []=>true | _=>false
 | x::r,l=>match l with | y::s=>Zde x y&&Zed r s | []=>false
end
theorem ZuA{x y:Value}(h:vEq x y=true):x=y:=by
 unfold vEq at h
 split at h
 ·rw[Qh_] at h;rw[Qy_ h.1,Qy_ h.2]
 ·simp at h;rw[h]
 ·cases h
theorem Zqf:∀{x y:List UInt8},sEq x y=true→x=y
 | [],[],_=>rfl
 | a::r,b::s,h=>by
   unfold sEq at h
   rw[Qh_] at h
   rw[UInt8.toNat_inj.1 (Qj_ h.1),Zqf h.2]
 | [],_::_,h=>by simp[sEq] at h
 | _::_,[],h=>by simp[sEq] at h
mutual
theorem ZtT:∀(x y:PV),JR x y=true→x=y
 | .v x,y,h=>by
   simp only[JR] at h
   split at h
   ·rw[ZuA h]
   ·cases h
 | .str l,y,h=>by
   simp only[JR] at h
   split at h
   ·rw[Zqf h]
   ·cases h
 | .nil,y,h=>by
   simp only[JR] at h
   split at h
   ·rfl
   ·cases h
 | .lst xs,y,h=>by
   simp only[JR] at h
   split at h
   ·rw[Zi6 xs _ h]
   ·cases h
 | .agg xs,y,h=>by
   simp only[JR] at h
   split at h
   ·rw[Zdf xs _ h]
   ·cases h
 | .tup xs,y,h=>by
   simp only[JR] at h
   split at h
   ·rw[Zdf xs _ h]
   ·cases h
 | .lptr _ _,_,h=>by simp only[JR] at h;cases h
 | .fn _ _,_,h=>by simp only[JR] at h;cases h
 | .bld _,_,h=>by simp only[JR] at h;cases h
 | .bp _ _,_,h=>by simp only[JR] at h;cases h
 | .bs _ _ _ _,_,h=>by simp only[JR] at h;cases h
theorem Zdf:∀(x y:List PV),Zde x y=true→x=y
 | [],y,h=>by
   simp only[Zde] at h
   split at h
   ·rfl
   ·cases h
 | x::r,l,h=>by
   simp only[Zde] at h
   split at h
   ·rename_i y s
    rw[Qh_] at h
    rw[ZtT x y h.1,Zdf r s h.2]
   ·cases h
theorem Zi6:∀(x y:List (List PV)),Zed x y=true→x=y
 | [],y,h=>by
   simp only[Zed] at h
   split at h
   ·rfl
   ·cases h
 | x::r,l,h=>by
   simp only[Zed] at h
   split at h
   ·rename_i y s
    rw[Qh_] at h
    rw[Zdf x y h.1,Zi6 r s h.2]
   ·cases h
end
abbrev Tab:=List (Nat×List PV×PV)
def shF(P:Program)(g:TypeId→List Nat→Bool):List Field→Nat→List Nat→Bool
 | [],_,sh=>sh.isEmpty
 | f::fs,i,sh=>(f.name != "_")&&Nat.beq f.offset i&&(match P.info? f.type with
   | some inf=>Nat.ble inf.size sh.length&&g f.type (sh.take inf.size)&&shF P g fs (i+inf.size) (sh.drop inf.size)
   | none=>false)
def shA(g:List Nat→Bool)(s:Nat):Nat→List Nat→Bool
 | 0,sh=>sh.isEmpty
 | n+1,sh=>Nat.ble s sh.length&&g (sh.take s)&&shA g s n (sh.drop s)
def shB(P:Program):Nat→TypeId→List Nat→Bool
 | 0,_,_=>false
 | d+1,T,sh=>match P.underlying T with
   | some (.int _)=>(match sh with | [0]=>true | _=>false)
   | some .bool=>(match sh with | [1]=>true | _=>false)
   | some .string=>(match sh with | [2]=>true | _=>false)
   | some (.complex _)=>(match sh with | [3]=>true | _=>false)
   | some (.struct fs)=>(match P.info? T with | some i=>Nat.beq i.size sh.length | none=>false)&& !(P.stoodInHeld T)&&shF P (shB P d) fs.toList 0 sh
   | some (.array n e)=>(match P.info? T,P.info? e with | some i,some j=>Nat.beq i.size sh.length&&shA (shB P d e) j.size n sh | _,_=>false)
   | _=>false
section
variable {P:Program}{hw:Nat→Nat}{w:World}
theorem Zcp:∀{sh:List Nat} {xs ys:List PV} {b:Bool},Zl sh xs ys=some b→xs.length=sh.length∧ys.length=sh.length:=by
 intro sh
 induction sh with
 | nil=>
   intro xs ys b h
   cases xs<;>cases ys<;>simp[Zl] at h
   exact ⟨rfl,rfl⟩
 | cons s sh ih=>
   intro xs ys b h
   unfold Zl at h
   split at h
   ·rename_i e;cases e
   ·rename_i e
    cases e
    split at h
    ·rename_i c hc
     obtain ⟨h1,h2⟩:=ih hc
     exact ⟨by simp[h1],by simp[h2]⟩
    ·exact absurd h (by rw[Bool.cond_self];simp)
   ·rename_i e
    cases e
    split at h
    ·rename_i c hc
     obtain ⟨h1,h2⟩:=ih hc
     exact ⟨by simp[h1],by simp[h2]⟩
    ·cases h
   ·rename_i e
    cases e
    split at h
    ·rename_i c hc
     obtain ⟨h1,h2⟩:=ih hc
     exact ⟨by simp[h1],by simp[h2]⟩
    ·cases h
   ·rename_i e
    cases e
    split at h
    ·rename_i c hc
     obtain ⟨h1,h2⟩:=ih hc
     exact ⟨by simp[h1],by simp[h2]⟩
    ·exact absurd h (by rw[Bool.cond_self];simp)
   ·cases h
theorem ZkA{s:Nat}{sh:List Nat}{x y:PV}{r q:List PV}{b:Bool}(h:Zl (s::sh) (x::r) (y::q)=some b):∃b1 b2,Zl [s] [x] [y]=some b1∧Zl sh r q=some b2∧b=(b1&&b2):=by
 unfold Zl at h
 split at h
 ·rename_i e;cases e
 ·rename_i sh' k a r' k' a' r'' e1 e2 e3
  cases e1;cases e2;cases e3
  cases hk:decide (k=k') with
  | false=>rw[hk] at h;cases h
  | true=>
    rw[hk] at h
    simp only[Qb_] at h
    split at h
    ·rename_i c hc
     exact ⟨a==a',c,by simp[Zl,hk],hc,(Qa_ h).symm⟩
    ·cases h
 ·rename_i sh' a r' a' r'' e1 e2 e3
  cases e1;cases e2;cases e3
  split at h
  ·rename_i c hc
   exact ⟨a==a',c,by simp[Zl],hc,(Qa_ h).symm⟩
  ·cases h
 ·rename_i sh' a r' a' r'' e1 e2 e3
  cases e1;cases e2;cases e3
  split at h
  ·rename_i c hc
   exact ⟨a==a',c,by simp[Zl],hc,(Qa_ h).symm⟩
  ·cases h
 ·rename_i sh' k a b0 r' k' a' b' r'' e1 e2 e3
  cases e1;cases e2;cases e3
  cases hk:decide (k=k') with
  | false=>rw[hk] at h;cases h
  | true=>
    rw[hk] at h
    simp only[Qb_] at h
    split at h
    ·rename_i c hc
     exact ⟨Op.floatEq k a a'&&Op.floatEq k b0 b',c,by simp[Zl,hk],hc,(Qa_ h).symm⟩
    ·cases h
 ·cases h
theorem ZkB{s:Nat}{sh:List Nat}{x y:PV}{r q:List PV}{b1 b2:Bool}(h1:Zl [s] [x] [y]=some b1)(h2:Zl sh r q=some b2):Zl (s::sh) (x::r) (y::q)=some (b1&&b2):=by
 unfold Zl at h1
 split at h1
 ·rename_i e _ _;cases e
 ·rename_i sh' k a r' k' a' r'' e1 e2 e3
  cases e1;cases e2;cases e3
  cases hk:decide (k=k') with
  | false=>rw[hk] at h1;cases h1
  | true=>
    rw[hk] at h1
    simp only[Qb_,Zl] at h1
    have:=Qa_ h1
    simp only[Qr_] at this
    subst this
    simp[Zl,hk,h2]
 ·rename_i sh' a r' a' r'' e1 e2 e3
  cases e1;cases e2;cases e3
  simp only[Zl] at h1
  have:=Qa_ h1
  simp only[Qr_] at this
  subst this
  simp[Zl,h2]
 ·rename_i sh' a r' a' r'' e1 e2 e3
  cases e1;cases e2;cases e3
  simp only[Zl] at h1
  have:=Qa_ h1
  simp only[Qr_] at this
  subst this
  simp[Zl,h2]
 ·rename_i sh' k a b0 r' k' a' b' r'' e1 e2 e3
  cases e1;cases e2;cases e3
  cases hk:decide (k=k') with
  | false=>rw[hk] at h1;cases h1
  | true=>
    rw[hk] at h1
    simp only[Qb_,Zl] at h1
    have:=Qa_ h1
    simp only[Qr_] at this
    subst this
    simp[Zl,hk,h2]
 ·cases h1
theorem ZaJ:∀{n:Nat} {sh:List Nat} {xs ys:List PV} {b:Bool},n≤sh.length→Zl sh xs ys=some b→
 ∃b1 b2,Zl (sh.take n) (xs.take n) (ys.take n)=some b1∧Zl (sh.drop n) (xs.drop n) (ys.drop n)=some b2∧b=(b1&&b2)
 | 0,sh,xs,ys,b,_,h=>⟨true,b,by simp[Zl],by simpa using h,by simp⟩
 | n+1,[],xs,ys,b,hn,_=>by simp at hn
 | n+1,s::sh,xs,ys,b,hn,h=>by
   obtain ⟨hx,hy⟩:=Zcp h
   cases xs with
   | nil=>simp at hx
   | cons x r=>
     cases ys with
     | nil=>simp at hy
     | cons y q=>
       obtain ⟨b1,b2,h1,h2,rfl⟩:=ZkA h
       obtain ⟨c1,c2,h3,h4,rfl⟩:=ZaJ (n:=n) (by simpa using hn) h2
       refine ⟨b1&&c1,c2, ?_,by simpa using h4,by rw[Bool.and_assoc]⟩
       simp only[List.take_succ_cons]
       exact ZkB h1 h3
theorem ArgsRep.seg{vs:List Value}{xs:List PV}(h:ArgsRep hw w vs xs)(off n:Nat):ArgsRep hw w ((vs.drop off).take n) ((xs.drop off).take n):=
 ⟨by simp[h.len],fun j x y hx hy=>by
   rw[Kk_] at hx hy
   split at hx
   ·rename_i hj
    rw[if_pos hj] at hy
    rw[Kd_] at hx hy
    exact h.rep _ x y hx hy
   ·cases hx⟩
def Zg7(P:Program)(D:Nat)(T:TypeId)(sh:List Nat):Prop:=
 ∀(hw:Nat→Nat) (w:World) (vs us:List Value) (xs ys:List PV) (off:Nat) (b:Bool),ArgsRep hw w vs xs→ArgsRep hw w us ys→Zl sh ((xs.drop off).take sh.length) ((ys.drop off).take sh.length)=some b→
  ∃p q,(part T vs.toArray off).run P w= .ok p w∧(part T us.toArray off).run P w= .ok q w∧(Op.equalIn D T p q).run P w= .ok b w
theorem Zd8{D:Nat}{g:TypeId→List Nat→Bool}(hg:∀T sh,g T sh=true→Zg7 P D T sh){vs us:List Value}{xs ys:List PV}(hx:ArgsRep hw w vs xs)(hy:ArgsRep hw w us ys):
 ∀{fs:List Field} {sh:List Nat} {i:Nat} {b:Bool},shF P g fs i sh=true→Zl sh (xs.drop i) (ys.drop i)=some b→(Op.eqFields D vs.toArray us.toArray fs).run P w= .ok b w
 | [],sh,i,b,hs,h=>by
   unfold shF at hs
   cases sh with
   | cons _ _=>simp at hs
   | nil=>
     generalize xs.drop i=l at *
     generalize ys.drop i=m at *
     cases l<;>cases m<;>simp[Zl] at h
     subst h
     simp[Op.eqFields]
 | f::fs,sh,i,b,hs,h=>by
   unfold shF at hs
   simp only[Qh_] at hs
   obtain ⟨⟨h1,h2⟩,h3⟩:=hs
   have hname:f.name≠ "_":=by simpa using h1
   have hoff:=Qj_ h2
   split at h3
   ·rename_i inf hinf
    simp only[Qh_] at h3
    obtain ⟨⟨h4,h5⟩,h6⟩:=h3
    have hle:=Qm_ h4
    obtain ⟨b1,b2,e1,e2,rfl⟩:=ZaJ hle h
    have hl:(sh.take inf.size).length=inf.size:=by simp;omega
    obtain ⟨p,q,p1,p2,p3⟩:=hg _ _ h5 hw w vs us xs ys i b1 hx hy (by rw[hl];exact e1)
    rw[List.drop_drop,List.drop_drop] at e2
    unfold Op.eqFields
    rw[if_pos hname,hoff]
    simp only[Sem.run_bind,p1,p2,p3,Result.andThen_ok]
    cases b1 with
    | false=>rfl
    | true=>
      simp only[Qu_,K4_,Kv_]
      rw[Zd8 hg hx hy h6 e2]
      rfl
   ·cases h3
theorem Zee{D:Nat}{T:TypeId}{s:Nat}{g:List Nat→Bool}(hg:∀sh,g sh=true→Zg7 P D T sh){vs us:List Value}{xs ys:List PV}(hx:ArgsRep hw w vs xs)(hy:ArgsRep hw w us ys):
 ∀{n:Nat} {sh:List Nat} {i:Nat} {b:Bool},shA g s n sh=true→Zl sh (xs.drop (i *s)) (ys.drop (i *s))=some b→(Op.eqItems D T s vs.toArray us.toArray (List.range' i n)).run P w= .ok b w
 | 0,sh,i,b,hs,h=>by
   unfold shA at hs
   cases sh with
   | cons _ _=>simp at hs
   | nil=>
     generalize xs.drop (i *s)=l at *
     generalize ys.drop (i *s)=m at *
     cases l<;>cases m<;>simp[Zl] at h
     subst h
     simp[Op.eqItems]
 | n+1,sh,i,b,hs,h=>by
   unfold shA at hs
   simp only[Qh_] at hs
   obtain ⟨⟨h4,h5⟩,h6⟩:=hs
   have hle:=Qm_ h4
   obtain ⟨b1,b2,e1,e2,rfl⟩:=ZaJ hle h
   have hl:(sh.take s).length=s:=by simp;omega
   obtain ⟨p,q,p1,p2,p3⟩:=hg _ h5 hw w vs us xs ys (i *s) b1 hx hy (by rw[hl];exact e1)
   rw[List.drop_drop,List.drop_drop] at e2
   rw[List.range'_succ]
   unfold Op.eqItems
   simp only[Sem.run_bind,p1,p2,p3,Result.andThen_ok]
   cases b1 with
   | false=>rfl
   | true=>
     simp only[Qu_,K4_,Kv_]
     rw[Zee hg hx hy (i:=i+1) h6 (by rw[Ko_];exact e2)]
     rfl
theorem Zbq{T:TypeId}{i:TypeInfo}(hi:P.info? T=some i)(ha:(isAgg T).run P w= .ok true w)(vs:List Value)(off:Nat):(part T vs.toArray off).run P w= .ok (.agg ((vs.drop off).take i.size).toArray) w:=by
 unfold part
 have hs:(sizeOf T).run P w= .ok i.size w:=by simp[sizeOf,typeInfo,hi]
 rw[Sem.run_bind,ha,Result.andThen_ok,if_pos rfl,Sem.run_bind,hs,Result.andThen_ok]
 have e:vs.toArray.extract off (off+i.size)=((vs.drop off).take i.size).toArray:=by
  apply QW_
  simp[Nat.add_sub_cancel_left]
 rw[e]
 rfl
theorem ZtU{x y:PV}{b:Bool}(h:Zl [0] [x] [y]=some b):∃k a a',x= .v (.int k a)∧y= .v (.int k a')∧(a==a')=b:=by
 cases x with
 | v vx=>cases vx with
   | int k a=>cases y with
     | v vy=>cases vy with
       | int k' a'=>
         simp only[Zl,Qr_] at h
         cases hk:decide (k=k') with
         | false=>rw[hk] at h;cases h
         | true=>
           rw[hk] at h
           have:=Qy_ hk
           subst this
           exact ⟨k,a,a',rfl,rfl,Qa_ h⟩
       | _=>simp[Zl] at h
     | _=>simp[Zl] at h
   | _=>simp[Zl] at h
 | _=>simp[Zl] at h
theorem Zsa{x y:PV}{b:Bool}(h:Zl [1] [x] [y]=some b):∃a a',x= .v (.bool a)∧y= .v (.bool a')∧(a==a')=b:=by
 cases x with
 | v vx=>cases vx with
   | bool a=>cases y with
     | v vy=>cases vy with
       | bool a'=>
         simp only[Zl,Qr_] at h
         exact ⟨a,a',rfl,rfl,Qa_ h⟩
       | _=>simp[Zl] at h
     | _=>simp[Zl] at h
   | _=>simp[Zl] at h
 | _=>simp[Zl] at h
theorem ZtV{x y:PV}{b:Bool}(h:Zl [2] [x] [y]=some b):∃a a',x= .str a∧y= .str a'∧(a==a')=b:=by
 cases x with
 | str a=>cases y with
   | str a'=>
     simp only[Zl,Qr_] at h
     exact ⟨a,a',rfl,rfl,Qa_ h⟩
   | _=>simp[Zl] at h
 | _=>simp[Zl] at h
theorem ZuB{x y:PV}{b:Bool}(h:Zl [3] [x] [y]=some b):∃k a c a' c',x= .v (.complex k a c)∧y= .v (.complex k a' c')∧(Op.floatEq k a a'&&Op.floatEq k c c')=b:=by
 cases x with
 | v vx=>cases vx with
   | complex k a c=>cases y with
     | v vy=>cases vy with
       | complex k' a' c'=>
         simp only[Zl,Qr_] at h
         cases hk:decide (k=k') with
         | false=>rw[hk] at h;cases h
         | true=>
           rw[hk] at h
           have:=Qy_ hk
           subst this
           exact ⟨k,a,c,a',c',rfl,rfl,Qa_ h⟩
       | _=>simp[Zl] at h
     | _=>simp[Zl] at h
   | _=>simp[Zl] at h
 | _=>simp[Zl] at h
theorem Znm:∀(d:Nat) (T:TypeId) (sh:List Nat),shB P d T sh=true→∀D,d≤D→Zg7 P D T sh
 | 0,T,sh,h,_,_=>by simp[shB] at h
 | d+1,T,sh,h,D,hD=>by
   intro hw w vs us xs ys off b hx hy he
   obtain ⟨D,rfl⟩:∃D',D=D'+1:=⟨D - 1,by omega⟩
   have ih:∀T sh,shB P d T sh=true→Zg7 P D T sh:=fun T sh hs=>Znm d T sh hs D (by omega)
   have one:∀{s:Nat} {ds:TypeDesc},sh=[s]→P.underlying T=some ds→Zk6 ds=true→∃p q x y,vs[off]?=some p∧us[off]?=some q∧Rep hw w p x∧Rep hw w q y∧Zl [s] [x] [y]=some b∧(part T vs.toArray off).run P w= .ok p w∧(part T us.toArray off).run P w= .ok q w:=by
    intro s ds e hu hp
    subst e
    obtain ⟨l1,l2⟩:=Zcp he
    simp only[List.length_singleton] at l1 l2 he
    have g1:off < xs.length:=by simp at l1;omega
    have g2:off < ys.length:=by simp at l2;omega
    have k1:off < vs.length:=by rw[hx.len];exact g1
    have k2:off < us.length:=by rw[hy.len];exact g2
    have t1:(xs.drop off).take 1=[xs[off]]:=by rw[Kw_ g1];rfl
    have t2:(ys.drop off).take 1=[ys[off]]:=by rw[Kw_ g2];rfl
    rw[t1,t2] at he
    exact ⟨vs[off],us[off],xs[off],ys[off],Qg_ k1,Qg_ k2,hx.rep off _ _ (Qg_ k1) (Qg_ g1),hy.rep off _ _ (Qg_ k2) (Qg_ g2),he,
     Zg3 hu hp (Qg_ k1) w,Zg3 hu hp (Qg_ k2) w⟩
   unfold shB at h
   split at h
   ·rename_i k0 hu
    split at h
    ·obtain ⟨p,q,x,y,_,_,r1,r2,e,p1,p2⟩:=one rfl hu rfl
     obtain ⟨k,c,c',rfl,rfl,rfl⟩:=ZtU e
     exact ⟨p,q,p1,p2,by rw[Z6 r1,Z6 r2,run_equalIn_int w D T k k0 c c' hu]⟩
    ·cases h
   ·rename_i hu
    split at h
    ·obtain ⟨p,q,x,y,_,_,r1,r2,e,p1,p2⟩:=one rfl hu rfl
     obtain ⟨c,c',rfl,rfl,rfl⟩:=Zsa e
     exact ⟨p,q,p1,p2,by rw[Z6 r1,Z6 r2,run_equalIn_bool' w D T c c' hu]⟩
    ·cases h
   ·rename_i hu
    split at h
    ·obtain ⟨p,q,x,y,_,_,r1,r2,e,p1,p2⟩:=one rfl hu rfl
     obtain ⟨c,c',rfl,rfl,rfl⟩:=ZtV e
     exact ⟨p,q,p1,p2,by rw[Yp r1,Yp r2,run_equalIn_string w D T _ _ hu,ZjV]⟩
    ·cases h
   ·rename_i k0 hu
    split at h
    ·obtain ⟨p,q,x,y,_,_,r1,r2,e,p1,p2⟩:=one rfl hu rfl
     obtain ⟨k,c1,c2,c1',c2',rfl,rfl,rfl⟩:=ZuB e
     exact ⟨p,q,p1,p2,by rw[Z6 r1,Z6 r2];simp[Op.equalIn,run_underlying hu]⟩
    ·cases h
   ·rename_i fs hu
    simp only[Qh_,Qi_] at h
    obtain ⟨⟨h1,h2⟩,h3⟩:=h
    split at h1
    ·rename_i i hi
     have hsz:=Qj_ h1
     have ha:(isAgg T).run P w= .ok true w:=by simp[isAgg,run_underlying hu]
     have hf:P.fieldsOf T=fs:=by simp[Program.fieldsOf,hu]
     refine ⟨_,_,Zbq hi ha vs off,Zbq hi ha us off, ?_⟩
     rw[run_equalIn_struct w D T _ _ (by rw[hf];exact hu) h2,hf]
     refine Zd8 (hw:=hw) ih (hx.seg off i.size) (hy.seg off i.size) h3 ?_
     simp only[QG_]
     rw[hsz]
     exact he
    ·cases h1
   ·rename_i n e0 hu
    split at h
    ·rename_i i j hi hj
     rw[Qh_] at h
     have hsz:=Qj_ h.1
     have ha:(isAgg T).run P w= .ok true w:=by simp[isAgg,run_underlying hu]
     refine ⟨_,_,Zbq hi ha vs off,Zbq hi ha us off, ?_⟩
     have hc:P.cellsOf e0=j.size:=by simp[Program.cellsOf,hj]
     rw[run_equalIn_array w D _ _ hu hj,hc,List.range_eq_range']
     refine Zee (hw:=hw) (fun sh hs=>ih e0 sh hs) (hx.seg off i.size) (hy.seg off i.size) h.2 ?_
     simp only[Nat.zero_mul,QG_]
     rw[hsz]
     exact he
    ·cases h
   ·cases h
theorem ZbS{T:TypeId}{sh:List Nat}(hg:P.eqGuardType P.depth T=false){d:Nat}(hd:Nat.ble d 10000=true)(ha:∀w,(isAgg T).run P w= .ok true w){i:TypeInfo}(hi:P.info? T=some i)(hn:i.size=sh.length)(hs:shB P d T sh=true):Zkt P T sh:=
 ⟨hg,fun hw w vs us xs ys b hx hy h=>by
   obtain ⟨l1,l2⟩:=Zcp h
   obtain ⟨p,q,p1,p2,p3⟩:=Znm d T sh hs 10000 (Qm_ hd) hw w vs us xs ys 0 b hx hy (by
    simp only[QG_]
    rw[Kh_ (by omega),Kh_ (by omega)]
    exact h)
   rw[Zbq hi (ha w)] at p1 p2
   simp only[QG_] at p1 p2
   rw[Kh_ (by rw[hx.len];omega)] at p1
   rw[Kh_ (by rw[hy.len];omega)] at p2
   injection p1 with p1 _
   injection p2 with p2 _
   subst p1;subst p2
   exact p3⟩
end
def YG(n:Nat)(l:List UInt8):Bool:=Nat.ble l.length n
def WO(l:List UInt8):Bool:=l.all fun b=>Nat.blt b.toNat 128
def Znn:List PV→Option PV
 | [.str s,.str c]=>bif YG 4000000000 s&&YG 4000000000 c&&WO c then some (.str (Lib.trimS s c)) else none
 | _=>none
def Zef:List PV→Option PV
 | [.str s,.str c]=>bif YG 4000000000 s&&YG 4000000000 c&&WO c then some (.str (Lib.trimRightS s c)) else none
 | _=>none
def Zi7:List PV→Option PV
 | [.str s,.v (.int .i64 (.ofNat n))]=>bif Nat.ble n 4000000000&&Nat.ble (s.length *n) 4000000000 then some (.str (Lib.repeatL s n)) else none
 | _=>none
def digs:Nat→Nat→List UInt8
 | 0,_=>[]
 | k+1,u=>bif Nat.blt u 10 then [UInt8.ofNat (48+u)] else digs k (u / 10)++[UInt8.ofNat (48+u % 10)]
def ZhS:List PV→Option PV
 | [.v (.int .i64 (.ofNat n))]=>bif Nat.blt n 9223372036854775808 then some (.str (digs 20 n)) else none
 | [.v (.int .i64 (.negSucc n))]=>bif Nat.blt n 9223372036854775808 then some (.str (45::digs 20 (n+1))) else none
 | _=>none
def Zno:List PV→Option PV
 | [.str s]=>bif YG 18 s then (match Lib.atoi s with | some n=>some (.tup [.v (.int .i64 n),.v .nilIface]) | none=>none) else none
 | _=>none
def ixB(c:UInt8):List UInt8→Nat→Int
 | [],_=> -1
 | b::l,k=>bif Nat.beq b.toNat c.toNat then .ofNat k else ixB c l (k+1)
def Zeg:List PV→Option PV
 | [.str s,.v (.int .u8 c)]=>some (.v (.int .i64 (ixB c.toNat.toUInt8 s 0)))
 | _=>none
section
variable {P:Program}
theorem Zqg(c:UInt8):∀(l:List UInt8) (k:Nat),ixB c l k=if Lib.indexByte l c= -1 then -1 else Lib.indexByte l c+k
 | [],k=>rfl
 | b::l,k=>by
   unfold ixB Lib.indexByte
   cases hb:Nat.beq b.toNat c.toNat with
   | true=>
     have:b=c:=UInt8.toNat_inj.1 (Qj_ hb)
     subst this
     simp
   | false=>
     have hne:(b==c)=false:=by
      rw[K8_]
      intro e
      subst e
      simp at hb
     rw[hne,Qd_,Zqg c l (k+1)]
     have:=Lib.indexByte_ge l c
     by_cases h:Lib.indexByte l c= -1
     ·simp[h]
     ·have h1:(Lib.indexByte l c== -1)=false:=K8_.2 h
      rw[if_neg h,h1]
      simp only[K4_,Kv_]
      rw[if_neg (by omega)]
      omega
theorem Zsb{hw:Nat→Nat}{w:World}(hg:GlobOk hw w){x:Nat}{vs:List Value}(hx:lk x Zab=some (vs.map PV.v)){name:String}(hn:P.globalNamed name=some x):w.var? P name=some vs.toArray:=by
 obtain ⟨hr,_,arr,t,fr,e,hs⟩:=hg x _ hx
 obtain ⟨k,base,hp,hc⟩:=ZcI hr
 injection hp with hp
 injection hp with hp
 injection hp with e1 e2
 subst e1
 have hb:base=0:=by omega
 subst hb
 have:arr=vs.toArray:=by
  apply QW_
  apply List.ext_getElem?
  intro j
  by_cases hj:j < vs.length
  ·obtain ⟨v,h1,_,h3⟩:=hc j (.v vs[j]) (by simp[hj])
   simp only[World.cell?,e,QP_] at h1
   rw[Z6 (h3 rfl)] at h1
   simp only[QX_,Qg_ hj]
   exact h1
  ·have h1:arr.size≤j:=by rw[hs];simp;omega
   rw[Ke_ (by simpa using h1),Ke_ (by simpa using hj)]
 subst this
 simp only[World.var?,hn,Option.bind_some,e]
theorem Zg8{f:FuncId}(hx:∀args w,(callFunc f args).run P w=((Extern.BytealgIndexByte.indexByte args).run P w).andThen fun v w'=> .ok (.value v) w'):
 ∀args r,Zeg args=some r→Con P f args r:=by
 intro args r hr
 unfold Zeg at hr
 split at hr
 ·rename_i s c
  have:=Qa_ hr
  subst this
  intro hw w vals hl _ ha
  obtain ⟨v,u,rfl,h1,h2⟩:=ZcZ ha
  rw[Yp h1,Z6 h2]
  have e:ixB c.toNat.toUInt8 s 0=Lib.indexByte s c.toNat.toUInt8:=by
   rw[Zqg]
   split
   ·rename_i h;exact h.symm
   ·simp
  rw[e]
  refine .inl ⟨_,w, ?_,hw,Qt.refl hl,.v _ rfl⟩
  rw[hx]
  have:=Lib.run_indexByteString (P:=P) ⟨s.toArray⟩ c w
  rw[this]
  rfl
 ·cases hr
def Zg9(P:Program)(l:List (Nat×FloatKind)):Prop:=∀T k,lk T l=some k→P.underlying T=some (.float k)
theorem Zoi:Zg9 P []:=fun T k h=>by simp[lk] at h
theorem Zm7{T:TypeId}{k:FloatKind}{l:List (Nat×FloatKind)}(h:P.underlying T=some (.float k))(hr:Zg9 P l):Zg9 P ((T,k)::l):=fun T' k' h'=>by
 rw[Zs] at h'
 split at h'
 ·rename_i e
  have:=Qa_ h'
  subst this;subst e
  exact h
 ·exact hr T' k' h'
def Zqh(P:Program)(l:List Nat):Prop:=∀T,has T l=true→∃ms,P.underlying T=some (.interface ms)
theorem Zoj:Zqh P []:=fun T h=>by simp[has] at h
def Ztn(P:Program)(lib:Nat→List PV→Option PV):Prop:=∀f args r,lib f args=some r→Con P f args r
theorem Zqi:Ztn P (fun _ _=>none):=fun f args r h=>absurd h (by simp)
theorem Wr{f:FuncId}{args:List PV}{r:PV}(vals:List Value)(v:Value)(hv:∀hw w l,ArgsRep hw w l args→l=vals)(hr:∀hw w,Rep hw w v r)
 (hc:∀args w,(callFunc f args).run P w= .ok (.enter f args) w) (h:∀hw w,GlobOk hw w→Calls P f vals.toArray w fun e w'=>e= .returned v∧Below w.heap.size w w'):Con P f args r:=by
 intro hw w l hl hgl ha
 have:=hv hw w l ha
 subst this
 refine .inr ⟨f,hc _ _,(h hw w hgl).mono fun e w' ⟨he,hb⟩=>⟨v,he,fun k=>if k < w.heap.size then hw k else 0,⟨hb,fun k hk=>by simp[hk],fun k hk=>?_⟩,hr _ _⟩⟩
 have:=hb.size
 have:¬k < w.heap.size:=by omega
 simp[this]
theorem Zwm{hw:Nat→Nat}{w:World}{s:List UInt8}{l:List Value}(h:ArgsRep hw w l [.str s]):l=[.string ⟨s.toArray⟩]:=by
 obtain ⟨v,rfl,h1⟩:=ZcY h
 rw[Yp h1]
theorem Zwn{hw:Nat→Nat}{w:World}{s c:List UInt8}{l:List Value}(h:ArgsRep hw w l [.str s,.str c]):l=[.string ⟨s.toArray⟩,.string ⟨c.toArray⟩]:=by
 obtain ⟨v,u,rfl,h1,h2⟩:=ZcZ h
 rw[Yp h1,Yp h2]
theorem ZuC{hw:Nat→Nat}{w:World}{x:Value}{l:List Value}(h:ArgsRep hw w l [.v x]):l=[x]:=by
 obtain ⟨v,rfl,h1⟩:=ZcY h
 rw[Z6 h1]
theorem ZtW{hw:Nat→Nat}{w:World}{s:List UInt8}{x:Value}{l:List Value}(h:ArgsRep hw w l [.str s,.v x]):l=[.string ⟨s.toArray⟩,x]:=by
 obtain ⟨v,u,rfl,h1,h2⟩:=ZcZ h
 rw[Yp h1,Z6 h2]
theorem ZeS(l:List UInt8):(⟨l.toArray⟩:ByteArray).size=l.length:=by show l.toArray.size=_;simp
theorem Zqj{c:List UInt8}(h:WO c=true):∀(j:Nat) b,c[j]?=some b→b.toNat < 128:=fun j b hb=>by
 have:=QK_.1 h b (Qz_ hb)
 exact Qm_ this
theorem Znp{f:FuncId}{g:List UInt8→List UInt8→List UInt8}(hc:∀args w,(callFunc f args).run P w= .ok (.enter f args) w)
 (h:∀(s c:ByteArray) (w:World),s.size≤9223372036854775807→c.size < 4294967281→(∀(j:Nat) b,c.data.toList[j]?=some b→b.toNat < 128)→
   Calls P f #[.string s,.string c] w fun e w'=>e= .returned (.string ⟨(g s.data.toList c.data.toList).toArray⟩)∧Below w.heap.size w w') {s c:List UInt8}
 (hb:(YG 4000000000 s&&YG 4000000000 c&&WO c)=true):Con P f [.str s,.str c] (.str (g s c)):=by
 simp only[Qh_] at hb
 obtain ⟨⟨h1,h2⟩,h3⟩:=hb
 have h1:=Qm_ h1
 have h2:=Qm_ h2
 exact Wr [.string ⟨s.toArray⟩,.string ⟨c.toArray⟩] (.string ⟨(g s c).toArray⟩) (fun _ _ _ ha=>Zwn ha) (fun _ _=> .str _) hc fun _ w _=>
  h ⟨s.toArray⟩ ⟨c.toArray⟩ w (by rw[ZeS];omega) (by rw[ZeS];omega) (by simpa using Zqj h3)
theorem Zok{f:FuncId}(hc:∀args w,(callFunc f args).run P w= .ok (.enter f args) w)
 (h:∀(s c:ByteArray) (w:World),s.size≤9223372036854775807→c.size < 4294967281→(∀(j:Nat) b,c.data.toList[j]?=some b→b.toNat < 128)→
   Calls P f #[.string s,.string c] w fun e w'=>e= .returned (.string ⟨(Lib.trimS s.data.toList c.data.toList).toArray⟩)∧Below w.heap.size w w'):
 ∀args r,Znn args=some r→Con P f args r:=by
 intro args r hr
 unfold Znn at hr
 split at hr
 ·rename_i s c
  cases hb:(YG 4000000000 s&&YG 4000000000 c&&WO c) with
  | false=>rw[hb] at hr;cases hr
  | true=>
    rw[hb] at hr
    have:=Qa_ hr
    subst this
    exact Znp hc h hb
 ·cases hr
theorem ZgA{f:FuncId}(hc:∀args w,(callFunc f args).run P w= .ok (.enter f args) w)
 (h:∀(s c:ByteArray) (w:World),s.size≤9223372036854775807→c.size < 4294967281→(∀(j:Nat) b,c.data.toList[j]?=some b→b.toNat < 128)→
   Calls P f #[.string s,.string c] w fun e w'=>e= .returned (.string ⟨(Lib.trimRightS s.data.toList c.data.toList).toArray⟩)∧Below w.heap.size w w'):
 ∀args r,Zef args=some r→Con P f args r:=by
 intro args r hr
 unfold Zef at hr
 split at hr
 ·rename_i s c
  cases hb:(YG 4000000000 s&&YG 4000000000 c&&WO c) with
  | false=>rw[hb] at hr;cases hr
  | true=>
    rw[hb] at hr
    have:=Qa_ hr
    subst this
    exact Znp hc h hb
 ·cases hr
theorem ZkC{f:FuncId}(hc:∀args w,(callFunc f args).run P w= .ok (.enter f args) w)
 (h:∀(s:ByteArray) (c:Nat) (w:World),c≤9223372036854775807→s.size *c≤140737488355328→
   Calls P f #[.string s,.int .i64 c] w fun e w'=>e= .returned (.string ⟨(Lib.repeatL s.data.toList c).toArray⟩)∧Below w.heap.size w w'):
 ∀args r,Zi7 args=some r→Con P f args r:=by
 intro args r hr
 unfold Zi7 at hr
 split at hr
 ·rename_i s n
  cases hb:(Nat.ble n 4000000000&&Nat.ble (s.length *n) 4000000000) with
  | false=>rw[hb] at hr;cases hr
  | true=>
    rw[hb] at hr
    have:=Qa_ hr
    subst this
    rw[Qh_] at hb
    have h1:=Qm_ hb.1
    have h2:=Qm_ hb.2
    exact Wr [.string ⟨s.toArray⟩,.int .i64 (.ofNat n)] (.string ⟨(Lib.repeatL s n).toArray⟩) (fun _ _ _ ha=>ZtW ha) (fun _ _=> .str _) hc fun _ w _=>
     h ⟨s.toArray⟩ n w (by omega) (by rw[ZeS];omega)
 ·cases hr
theorem ZhT:∀(k u:Nat),u < 10 ^ k→0 < k→digs k u=Lib.decDigits u
 | 0,u,h,h0=>absurd h0 (by omega)
 | k+1,u,h,_=>by
   rw[Lib.decDigits]
   unfold digs
   by_cases hu:u < 10
   ·have:Nat.blt u 10=true:=QF_ hu
    rw[this,dif_pos hu]
    rfl
   ·have hf:Nat.blt u 10=false:=by
     cases hb:Nat.blt u 10 with
     | false=>rfl
     | true=>exact absurd (Qm_ hb) hu
    rw[hf,dif_neg hu]
    cases k with
    | zero=>simp at h;omega
    | succ k=>
      have:u / 10 < 10 ^ (k+1):=by
       rw[Nat.div_lt_iff_lt_mul (by omega)]
       rw[Nat.pow_succ] at h
       exact h
      rw[ZhT (k+1) (u / 10) this (by omega)]
      rfl
theorem Zol{f:FuncId}(hc:∀args w,(callFunc f args).run P w= .ok (.enter f args) w)
 (h:∀(n:Int) (hw:Nat→Nat) (w:World),-9223372036854775808≤n→n≤9223372036854775807→GlobOk hw w→
   Calls P f #[.int .i64 n] w fun e w'=>e= .returned (.string ⟨(Lib.itoa n).toArray⟩)∧Below w.heap.size w w'):
 ∀args r,ZhS args=some r→Con P f args r:=by
 intro args r hr
 unfold ZhS at hr
 split at hr
 ·rename_i n
  cases hb:Nat.blt n 9223372036854775808 with
  | false=>rw[hb] at hr;cases hr
  | true=>
    rw[hb] at hr
    have:=Qa_ hr
    subst this
    have h1:n < 9223372036854775808:=Qm_ hb
    have e:digs 20 n=Lib.itoa (.ofNat n):=by
     rw[ZhT 20 n (by omega) (by omega)]
     simp[Lib.itoa]
    rw[e]
    exact Wr [.int .i64 (.ofNat n)] (.string ⟨(Lib.itoa (.ofNat n)).toArray⟩) (fun _ _ _ ha=>ZuC ha) (fun _ _=> .str _) hc fun hw w hg=>
     h (.ofNat n) hw w (Int.le_trans (by decide) (Int.natCast_nonneg n)) (show (n:Int)≤9223372036854775807 by omega) hg
 ·rename_i n
  cases hb:Nat.blt n 9223372036854775808 with
  | false=>rw[hb] at hr;cases hr
  | true=>
    rw[hb] at hr
    have:=Qa_ hr
    subst this
    have h1:n < 9223372036854775808:=Qm_ hb
    have e:45::digs 20 (n+1)=Lib.itoa (.negSucc n):=by
     rw[ZhT 20 (n+1) (by omega) (by omega)]
     simp[Lib.itoa]
    rw[e]
    exact Wr [.int .i64 (.negSucc n)] (.string ⟨(Lib.itoa (.negSucc n)).toArray⟩) (fun _ _ _ ha=>ZuC ha) (fun _ _=> .str _) hc fun hw w hg=>
     h (.negSucc n) hw w (by omega) (by omega) hg
 ·cases hr
theorem Zom{f:FuncId}(hc:∀args w,(callFunc f args).run P w= .ok (.enter f args) w)
 (h:∀(s:ByteArray) (n:Int) (w:World),s.size≤18→Lib.atoi s.data.toList=some n→
   Calls P f #[.string s] w fun e w'=>e= .returned (.tuple #[.int .i64 n,.nilIface])∧Below w.heap.size w w'):
 ∀args r,Zno args=some r→Con P f args r:=by
 intro args r hr
 unfold Zno at hr
 split at hr
 ·rename_i s
  cases hb:YG 18 s with
  | false=>rw[hb] at hr;cases hr
  | true=>
    rw[hb] at hr
    simp only[Qb_] at hr
    split at hr
    ·rename_i n hn
     have:=Qa_ hr
     subst this
     refine Wr [.string ⟨s.toArray⟩] (.tuple #[.int .i64 n,.nilIface]) (fun _ _ _ ha=>Zwm ha) (fun _ _=>?_) hc fun _ w _=>
      h ⟨s.toArray⟩ n w (by rw[ZeS];exact Qm_ hb) hn
     exact .tup [.int .i64 n,.nilIface] _ rfl fun j x y hx hy=>by
      cases j with
      | zero=>cases hx;cases hy;exact .v _ rfl
      | succ j=>cases j with
        | zero=>cases hx;cases hy;exact .v _ rfl
        | succ j=>simp at hx
    ·cases hr
 ·cases hr
end
section
variable {P:Program}{W:World}
theorem ZkD:∀{l:List (String×DataW Unit)},(∃ps,DataW.LaidVars P W l ps)→∀{n:String} {d:DataW Unit},(n,d)∈l→
 ∃g t cs fuel p,P.globalNamed n=some g∧(P.globals[g]?).map (·.type)=some t∧W.var? P n=some cs∧DataW.trod (fun _=>()) P W 0 (fun _=>true) false fuel t cs.toList=some (d,p)
 | [],_,n,d,hm=>by simp at hm
 | (n0,d0)::r,⟨ps,h⟩,n,d,hm=>by
   obtain ⟨g',t',cs,fuel,p,q,hg',ht',hvar,hd,hr,_⟩:=h
   rcases Q9_.1 hm with e | hm
   ·cases e
    exact ⟨g',t',cs,fuel,p,hg',ht',hvar,hd⟩
   ·exact ZkD ⟨q,hr⟩ hm
theorem ZkE{n:String}{g:Nat}{cs:Array Value}(hg:P.globalNamed n=some g)(h:W.var? P n=some cs):∃t fr,W.heap[g]?=some (.cells cs t fr):=by
 simp only[World.var?,hg,Option.bind_some] at h
 split at h
 ·rename_i c t fr hc
  cases h
  exact ⟨t,fr,hc⟩
 ·cases h
theorem ZkF{l:List (String×DataW Unit)}(h:∃ps,DataW.LaidVars P W l ps){n:String}{k:IntKind}{zs:List Int}(hm:(n,Lib.tabData k zs)∈l){g:Nat}{t e:TypeId}{m:Nat}
 (hg:P.globalNamed n=some g) (hty:(P.globals[g]?).map (·.type)=some t) (ht:P.underlying t=some (.array m e)) (he:P.underlying e=some (.int k)) (hce:P.cellsOf e=1) (hct:P.cellsOf t=m):
 ∃t fr,W.heap[g]?=some (.cells (zs.map fun z=>Value.int k z).toArray t fr):=by
 obtain ⟨g',t',cs,fuel,p,hg',ht',hvar,hd⟩:=ZkD h hm
 obtain rfl:=Qa_ (hg.symm.trans hg')
 obtain rfl:=Qa_ (hty.symm.trans ht')
 have:=Lib.cells_of_tab ht he hce hct hd
 have e2:cs=(zs.map fun z=>Value.int k z).toArray:=by
  apply QW_
  simpa using this
 subst e2
 exact ZkE hg hvar
end
open Go Go.Shelf Go.Proofs
section
variable {P:Program}{ρ:Ren}
theorem ZtX(L:Lays.n240 P ρ)(X:Builder.X72 P ρ)(he:ρ.t 72=Jp)(hc:∀args w,(callFunc (ρ.f 240) args).run P w= .ok (.enter (ρ.f 240) args) w):CCOk P (ρ.f 240):=
 ⟨hc,fun b w h0 hs hf=>Any.Builder_copyCheck_fresh L X b w h0 (by rw[he];exact hs) hf,fun b w h0=>Any.Builder_copyCheck_used L X b w h0⟩
set_option maxHeartbeats 1000000 in
set_option maxRecDepth 100000 in
theorem Zqk(L:Lays.n169 P ρ)(X:Builder.Extra P ρ)(b g cap cells:Nat)(l:List UInt8)(w:World)(c0:w.cell? ⟨b,1,none⟩=some (.slice (some ⟨g,0,none⟩) l.length cap))(hsh:w.shape? g=some (ρ.t 5,cells))(h0:l≠[])(hnc:l.length≤cap)(hn:l.length≤cells)(hm:l.length≤maxLen)
 (hcell:∀(j:Nat) (x:UInt8),l[j]?=some x→w.cell? ⟨g,j,none⟩=some (.int .u8 x.toNat)):
 Calls P (ρ.f 169) #[.pointer (some ⟨b,0,none⟩)] w fun e w'=>e= .returned (.string ⟨l.toArray⟩)∧w'=w.drew.freeze ⟨g,0,none⟩ l.length:=by
 have hl0:l.length≠0:=by simpa using h0
 have c1:w.drew.cell? ⟨b,1,none⟩=some (.slice (some ⟨g,0,none⟩) l.length cap):=c0
 have hSD:(Builtin.unsafeSliceData_ #[(ρ.t 37)] (ρ.t 127) #[.slice (some ⟨g,0,none⟩) l.length cap]).run P w.drew= .ok (.pointer (some ⟨g,0,none⟩)) w.drew:=
  Lib.run_unsafeSliceData_row _ _ _ _ _ _ (by omega)
 have hUS:(Builtin.unsafeString_ #[(ρ.t 127),(ρ.t 3)] (ρ.t 9) #[.pointer (some ⟨g,0,none⟩),.int .i64 l.length]).run P w.drew= .ok (.string ⟨l.toArray⟩) (w.drew.freeze ⟨g,0,none⟩ l.length):=by
  refine Lib.run_unsafeString_row w.drew (ρ.t 127) (ρ.t 3) (ρ.t 9) (ρ.t 5) L.t127 X.cellsByte g cells hsh l h0 hn (by unfold maxLen at hm;omega) ?_
  intro j x hx
  rw[Addr.add_lit,QP_]
  exact hcell j x hx
 have mixed:=L.mixed
 have t72:=L.t72;have a72:=L.a72;have z72:=L.z72;have v72:=L.v72;have u72:=run_underlying L.t72
 have t70:=L.t70;have a70:=L.a70;have z70:=L.z70;have v70:=L.v70;have u70:=run_underlying L.t70
 have t37:=L.t37;have a37:=L.a37;have z37:=L.z37;have v37:=L.v37;have u37:=run_underlying L.t37
 have t127:=L.t127;have a127:=L.a127;have z127:=L.z127;have v127:=L.v127;have u127:=run_underlying L.t127
 have t3:=L.t3;have a3:=L.a3;have z3:=L.z3;have v3:=L.v3;have u3:=run_underlying L.t3
 have t9:=L.t9;have a9:=L.a9;have z9:=L.z9;have v9:=L.v9;have u9:=run_underlying L.t9
 have t5:=X.t5;have a5:=X.a5;have z5:=X.z5;have v5:=X.v5;have u5:=run_underlying X.t5
 go_enter L.f169,Body.n169_ntmps ρ
 go_wp2
 go_region_o
 all_goals (go_wp2;go_ret;exact ⟨rfl,rfl⟩)
set_option maxHeartbeats 2000000 in
set_option maxRecDepth 100000 in
theorem Zql(L:Lays.n169 P ρ)(X:Builder.Extra P ρ)(b:Nat)(w:World)(c0:w.cell? ⟨b,1,none⟩=some (.slice none 0 0)):
 Calls P (ρ.f 169) #[.pointer (some ⟨b,0,none⟩)] w fun e w'=>e= .returned (.string ⟨#[]⟩)∧w'=w.drew:=by
 have hUS:=Any.unsafeString_none L X
 have c1:w.drew.cell? ⟨b,1,none⟩=some (.slice none 0 0):=c0
 have hSD:(Builtin.unsafeSliceData_ #[(ρ.t 37)] (ρ.t 127) #[.slice none 0 0]).run P w.drew= .ok (.pointer none) w.drew:=rfl
 have mixed:=L.mixed
 have t72:=L.t72;have a72:=L.a72;have z72:=L.z72;have v72:=L.v72;have u72:=run_underlying L.t72
 have t70:=L.t70;have a70:=L.a70;have z70:=L.z70;have v70:=L.v70;have u70:=run_underlying L.t70
 have t37:=L.t37;have a37:=L.a37;have z37:=L.z37;have v37:=L.v37;have u37:=run_underlying L.t37
 have t127:=L.t127;have a127:=L.a127;have z127:=L.z127;have v127:=L.v127;have u127:=run_underlying L.t127
 have t3:=L.t3;have a3:=L.a3;have z3:=L.z3;have v3:=L.v3;have u3:=run_underlying L.t3
 have t9:=L.t9;have a9:=L.a9;have z9:=L.z9;have v9:=L.v9;have u9:=run_underlying L.t9
 have t5:=X.t5;have a5:=X.a5;have z5:=X.z5;have v5:=X.v5;have u5:=run_underlying X.t5
 go_enter L.f169,Body.n169_ntmps ρ
 go_wp2
 go_region_o
 all_goals (go_wp2;go_ret;exact ⟨rfl,rfl⟩)
theorem Zqm(L:Lays.n169 P ρ)(X:Builder.Extra P ρ)(hc:∀args w,(callFunc (ρ.f 169) args).run P w= .ok (.enter (ρ.f 169) args) w):ZdY P (ρ.f 169) (ρ.t 5)∧∃i,P.info? (ρ.t 5)=some i∧i.size=1:=by
 obtain ⟨i0,hi,_,hz1,_⟩:=info_parts X.infoByte
 exact ⟨⟨hc,Zqk L X,Zql L X⟩,i0,hi,hz1⟩
def Zjx(P:Program)(l:List Nat):Prop:=∀f,has f l=true→CCOk P f
theorem Zqn:Zjx P []:=fun f h=>by simp[has] at h
theorem Zon{f:Nat}{l:List Nat}(h:CCOk P f)(hr:Zjx P l):Zjx P (f::l):=fun f' h'=>by
 rcases Q9_.1 (YE.1 h') with e | hm
 ·rw[e];exact h
 ·exact hr f' (YE.2 hm)
def ZeT(P:Program)(l:List (Nat×Nat)):Prop:=∀f e,lk f l=some e→ZdY P f e∧∃i,P.info? e=some i∧i.size=1
theorem Zm8:ZeT P []:=fun f e h=>by simp[lk] at h
theorem ZkG{f e:Nat}{l:List (Nat×Nat)}(h:ZdY P f e∧∃i,P.info? e=some i∧i.size=1)(hr:ZeT P l):ZeT P ((f,e)::l):=fun f' e' h'=>by
 rw[Zs] at h'
 split at h'
 ·rename_i hf
  have:=Qa_ h'
  subst this;subst hf
  exact h
 ·exact hr f' e' h'
end
end Go.Ev
namespace Go.Ev
open Go.RowKit
section
variable {P:Program}
end
def alls:List Prop→Prop→Prop
 | [],X=>X
 | p::r,X=>p∧alls r X
def ZX(l:List Prop):Prop:=∀p∈l,p
theorem Xi:∀{l:List Prop} {X:Prop},alls l X→ZX l∧X
 | [],_,h=>⟨fun _ h=>absurd h (by simp),h⟩
 | p::r,_,h=>⟨fun q hq=>by rcases Q9_.1 hq with e | hq;exact e▸h.1;exact (Xi h.2).1 q hq,(Xi h.2).2⟩
section forces
universe u
variable {α:Sort u}
def Zoo(v:Value)(k:Value→α):α:=match v with
 | .int kd i=>k (.int kd i)
 | .bool b=>k (.bool b)
 | .complex kd a b=>k (.complex kd a b)
 | .float kd a=>k (.float kd a)
 | x=>k x
theorem ZhU(v:Value)(k:Value→α):Zoo v k=k v:=by cases v<;>rfl
def Zop(x:PV)(k:PV→α):α:=match x with
 | .v x=>Zoo x fun x=>k (.v x)
 | x=>k x
theorem Zsc(x:PV)(k:PV→α):Zop x k=k x:=by cases x<;>simp only[Zop,ZhU]
def Zaz:List PV→(List PV→α)→α
 | [],k=>k []
 | x::r,k=>Zop x fun x=>Zaz r fun r=>k (x::r)
theorem Za0:∀(l:List PV) (k:List PV→α),Zaz l k=k l
 | [],_=>rfl
 | x::r,k=>by simp only[Zaz,Zsc];rw[Za0 r]
def Zoq(x:PV)(k:PV→α):α:=match x with
 | .v x=>Zoo x fun x=>k (.v x)
 | .agg cs=>Zaz cs fun cs=>k (.agg cs)
 | x=>k x
theorem Zsd(x:PV)(k:PV→α):Zoq x k=k x:=by cases x<;>simp only[Zoq,ZhU,Za0]
def ZgB:List PV→(List PV→α)→α
 | [],k=>k []
 | x::r,k=>Zoq x fun x=>ZgB r fun r=>k (x::r)
theorem Zi8:∀(l:List PV) (k:List PV→α),ZgB l k=k l
 | [],_=>rfl
 | x::r,k=>by simp only[ZgB,Zsd];rw[Zi8 r]
def sPV(x:PV)(k:PV→α):α:=match x with
 | .v x=>Zoo x fun x=>k (.v x)
 | .agg cs=>Zaz cs fun cs=>k (.agg cs)
 | .tup cs=>ZgB cs fun cs=>k (.tup cs)
 | .lptr cs off=>Zaz cs fun cs=>k (.lptr cs off)
 | .bld u=>fB u fun u=>k (.bld u)
 | .bp b off=>fN b fun b=>fN off fun off=>k (.bp b off)
 | .bs b off n s=>fN b fun b=>fN off fun off=>fN n fun n=>fN s fun s=>k (.bs b off n s)
 | .str l=>k (.str l)
 | .nil=>k .nil
 | .lst xs=>k (.lst xs)
 | .fn f cs=>fN f fun f=>k (.fn f cs)
theorem ZuD(x:PV)(k:PV→α):sPV x k=k x:=by cases x<;>simp only[sPV,ZhU,Za0,Zi8,YA,Zof]
def sAV(a:AV)(k:AV→α):α:=match a with
 | .p x=>sPV x fun x=>k (.p x)
 | .ptr b off=>fN b fun b=>k (.ptr b off)
 | .fnp f bs=>fN f fun f=>fNs bs fun bs=>k (.fnp f bs)
 | .sl b off n s=>fN b fun b=>fN s fun s=>k (.sl b off n s)
theorem ZkH(x:AV)(k:AV→α):sAV x k=k x:=by cases x<;>simp only[sAV,ZuD,YA,Zc7]
def Zor:List (Nat×AV)→(List (Nat×AV)→α)→α
 | [],k=>k []
 | (t,v)::r,k=>fN t fun t=>sAV v fun v=>Zor r fun r=>k ((t,v)::r)
theorem Znq:∀(l:List (Nat×AV)) (k:List (Nat×AV)→α),Zor l k=k l
 | [],_=>rfl
 | (t,v)::r,k=>by simp only[Zor,YA,ZkH];rw[Znq r]
def slB:List (Nat×AV)→List Nat
 | []=>[]
 | (_,v)::r=>match v with
   | .sl b _ _ _=>b::slB r
   | _=>slB r
def ZeU(sk:Bool)(l:List PV)(k:List PV→α):α:=bif sk then k l else Zaz l k
theorem ZgC(sk:Bool)(l:List PV)(k:List PV→α):ZeU sk l k=k l:=by cases sk<;>simp only[ZeU,Qb_,Qd_,Za0]
def Zos(sk:List Nat):List (Nat×List PV)→(List (Nat×List PV)→α)→α
 | [],k=>k []
 | (t,v)::r,k=>fN t fun t=>ZeU (has t sk) v fun v=>Zos sk r fun r=>k ((t,v)::r)
theorem Znr(sk:List Nat):∀(l:List (Nat×List PV)) (k:List (Nat×List PV)→α),Zos sk l k=k l
 | [],_=>rfl
 | (t,v)::r,k=>by simp only[Zos,YA,ZgC];rw[Znr sk r]
def Zse(l:List (Nat×AV))(k:List (Nat×AV)→α):α:=match l with
 | []=>k []
 | (t,v)::r=>fN t fun t=>sAV v fun v=>Zk9 r fun r=>k ((t,v)::r)
theorem ZtY(l:List (Nat×AV))(k:List (Nat×AV)→α):Zse l k=k l:=by
 cases l<;>simp only[Zse,YA,ZkH,ZhR]
def Zsf(sk:List Nat)(l:List (Nat×List PV))(k:List (Nat×List PV)→α):α:=match l with
 | []=>k []
 | (t,v)::r=>fN t fun t=>ZeU (has t sk) v fun v=>Zk9 r fun r=>k ((t,v)::r)
theorem ZtZ(sk:List Nat)(l:List (Nat×List PV))(k:List (Nat×List PV)→α):Zsf sk l k=k l:=by
 cases l<;>simp only[Zsf,YA,ZgC,ZhR]
def ZkI(σ:St)(k:St→α):α:=match σ with
 | ⟨n,tm,bx,ro,ow,al⟩=>fN n fun n=>Zor tm fun tm=>Zos (slB tm) bx fun bx=>fNs ro fun ro=>fOw ow fun ow=>fAl al fun al=>k ⟨n,tm,bx,ro,ow,al⟩
theorem ZhV(σ:St)(k:St→α):ZkI σ k=k σ:=by cases σ;simp only[ZkI,YA,Znq,Znr,Zc7,Zg5,Zg6]
def Zsg(a:AV)(k:AV→α):α:=match a with
 | .ptr b off=>fN b fun b=>k (.ptr b off)
 | .sl b off n s=>fN b fun b=>fN s fun s=>k (.sl b off n s)
 | .p x=>Zog (.p x) k
 | .fnp f bs=>Zog (.fnp f bs) k
theorem Zua(a:AV)(k:AV→α):Zsg a k=k a:=by cases a<;>simp only[Zsg,YA,ZtS]
def Zot:List (Nat×AV)→(List (Nat×AV)→α)→α
 | [],k=>k []
 | (t,v)::r,k=>fN t fun t=>Zsg v fun v=>Zot r fun r=>k ((t,v)::r)
theorem Zns:∀(l:List (Nat×AV)) (k:List (Nat×AV)→α),Zot l k=k l
 | [],_=>rfl
 | (t,v)::r,k=>by simp only[Zot,YA,Zua];rw[Zns r]
def Zdg(σ:St)(k:St→α):α:=match σ with
 | ⟨n,tm,bx,ro,ow,al⟩=>fN n fun n=>Zot tm fun tm=>Zoh bx fun bx=>fNs ro fun ro=>fOw ow fun ow=>fAl al fun al=>k ⟨n,tm,bx,ro,ow,al⟩
theorem Zbe(σ:St)(k:St→α):Zdg σ k=k σ:=by cases σ;simp only[Zdg,YA,Zns,Znl,Zc7,Zg5,Zg6]
def Zou(mem:Bool)(σ:St)(k:St→α):α:=match σ with
 | ⟨n,tm,bx,ro,ow,al⟩=>fN n fun n=>Zse tm fun tm=>(bif mem then Zsf (slB tm) bx else Zk9 bx) fun bx=>Zk9 ro fun ro=>fOw ow fun ow=>fAl al fun al=>k ⟨n,tm,bx,ro,ow,al⟩
theorem Znt(mem:Bool)(σ:St)(k:St→α):Zou mem σ k=k σ:=by
 cases σ;cases mem<;>simp only[Zou,YA,ZtY,Qb_,Qd_,ZtZ,ZhR,Zg5,Zg6]
def sEn(e:En)(k:En→α):α:=match e with
 | ⟨i,tm,bx,ln⟩=>fN i fun i=>
   (match tm with
    | none=>fun (k:Option (Nat×AV)→α)=>k none
    | some (t,v)=>fun k=>fN t fun t=>sAV v fun v=>k (some (t,v))) fun tm=>
   (match bx with
    | none=>fun (k:Option (Nat×List PV)→α)=>k none
    | some (t,v)=>fun k=>fN t fun t=>Zaz v fun v=>k (some (t,v))) fun bx=>
   (match ln with
    | none=>fun (k:Option (Nat×Loc)→α)=>k none
    | some (t,v)=>fun k=>fN t fun t=>Zk8 v fun v=>k (some (t,v))) fun ln=>k ⟨i,tm,bx,ln⟩
theorem ZuE(e:En)(k:En→α):sEn e k=k e:=by
 obtain ⟨i,tm,bx,ln⟩:=e
 rcases tm with _ | ⟨t,v⟩<;>rcases bx with _ | ⟨b,cs⟩<;>rcases ln with _ | ⟨l,x⟩<;>simp only[sEn,YA,ZkH,Za0,ZhQ]
end forces
abbrev RSy:=Nat→St→Oper→Option (Res×List Prop)
abbrev TSy:=Nat→St→Oper→Option (St×List Prop)
def ZuF(ops:List Oper)(j:Nat):Bool:=ops.any fun o=>match o.guard with
 | some (i,_)=>Nat.beq i j
 | none=>false
def ZkJ(gd:Bool)(e:En)(K:En→Prop):Prop:=match gd with
 | false=>K e
 | true=>match e with
   | ⟨i,some (d,.p (.v (.bool h))),bx,ln⟩=>(match h with
     | true=>K ⟨i,some (d,.p (.v (.bool true))),bx,ln⟩
     | false=>K ⟨i,some (d,.p (.v (.bool false))),bx,ln⟩)
   | e=>K e
theorem Zov{gd:Bool}{e:En}{K:En→Prop}(h:ZkJ gd e K):K e:=by
 cases gd with
 | false=>exact h
 | true=>
   unfold ZkJ at h
   simp only at h
   split at h
   ·split at h<;>exact h
   ·exact h
def ZkK(gd:Bool)(σ:St)(K:St→Prop):Prop:=match gd with
 | false=>K σ
 | true=>match σ with
   | ⟨n,(d,.p (.v (.bool h)))::r,bx,ro,ow,al⟩=>(match h with
     | true=>K ⟨n,(d,.p (.v (.bool true)))::r,bx,ro,ow,al⟩
     | false=>K ⟨n,(d,.p (.v (.bool false)))::r,bx,ro,ow,al⟩)
   | σ=>K σ
theorem Zow{gd:Bool}{σ:St}{K:St→Prop}(h:ZkK gd σ K):K σ:=by
 cases gd with
 | false=>exact h
 | true=>
   unfold ZkK at h
   simp only at h
   split at h
   ·split at h<;>exact h
   ·exact h
def ZgD(σ:St)(ops:List Oper)(o:Oper)(run skip:Prop):Prop:=
 match JM σ ops o with
 | some true=>run
 | some false=>skip
 | none=>False
theorem ZgE{σ:St}{ops:List Oper}{o:Oper}{run skip:Prop}(h:ZgD σ ops o run skip):(JM σ ops o=some true∧run)∨(JM σ ops o=some false∧skip):=by
 unfold ZgD at h
 split at h
 ·exact .inl ⟨by assumption,h⟩
 ·exact .inr ⟨by assumption,h⟩
 ·exact h.elim
def Zbr(T:TSy)(ops:List Oper):List Oper→Nat→St→(St→Prop)→Prop
 | [],_,σ,K=>K σ
 | o::r,j,σ,K=>ZgD σ ops o
    (match T j σ o with
     | some (σ1,ps)=>alls ps (Zou (ZvQ o.op) σ1 fun σ1=>ZkK (ZuF ops j) σ1 fun σ1=>Zbr T ops r (j+1) σ1 K)
     | none=>False)
    (match o.dst with
     | some d=>Zou false (ZbK σ d) fun σ=>Zbr T ops r (j+1) σ K
     | none=>Zbr T ops r (j+1) σ K)
def TSub(T:TSy)(T0:Nat→St→Oper→Option St):Prop:=∀j σ o σ1 ps,T j σ o=some (σ1,ps)→ZX ps→T0 j σ o=some σ1
def RSub(R:RSy)(R0:Nat→St→Oper→Option Res):Prop:=∀j τ o r ps,R j τ o=some (r,ps)→ZX ps→R0 j τ o=some r
theorem Jz{T:TSy}{T0:Nat→St→Oper→Option St}(hT:TSub T T0){ops:List Oper}{K:St→Prop}:∀{l:List Oper} {j:Nat} {σ:St},Zbr T ops l j σ K→∃σ',K σ'∧tails T0 ops l j σ=some σ'
 | [],j,σ,h=>⟨σ,h,rfl⟩
 | o::r,j,σ,h=>by
   unfold Zbr at h
   unfold tails
   rcases ZgE h with ⟨hg,h⟩ | ⟨hg,h⟩
   ·rw[hg]
    split at h
    ·rename_i σ1 ps h1
     obtain ⟨h2,h3⟩:=Xi h
     rw[Znt] at h3
     obtain ⟨σ',h4,h5⟩:=Jz hT (Zow h3)
     exact ⟨σ',h4,by simp only[hT _ _ _ _ _ h1 h2];exact h5⟩
    ·exact h.elim
   ·rw[hg]
    split at h
    ·rename_i d hd
     rw[Znt] at h
     obtain ⟨σ',h4,h5⟩:=Jz hT h
     exact ⟨σ',h4,by simp only[hd];exact h5⟩
    ·rename_i hd
     obtain ⟨σ',h4,h5⟩:=Jz hT h
     exact ⟨σ',h4,by simp only[hd];exact h5⟩
def ZhW(Γ:List (Nat×Ty))(R:RSy)(ops:List Oper)(cls:List Nat)(ws:List (Nat×Nat))(D Src:List Nat)(β:St)(A:List En)(j:Nat)(o:Oper)(K:En→Prop):Prop:=
 Zdg (tau ws cls A β j (ZN cls j) (Zbc ops o)) fun τ=>
 ZgD τ ops o
  (match o.op,o.dst with
   | .store T p x,none=>match X9 Γ τ T p x with
     | some σ'=>match σ'.boxes with
       | (b,cs)::_=>bif WG j b ws&&Zgs Src x then K ⟨j,none,some (b,cs),none⟩ else False
       | []=>False
     | none=>False
   | _,some d=>match R j τ o with
     | some (r,ps)=>alls ps (match r.box with
       | none=>K ⟨j,some (d,r.av),none,WH D ws d r.link⟩
       | some cs=>bif WG j d ws&&ZT (lk d β.boxes)&&ws.all (fun (s,b)=> !(Nat.beq b d)||Nat.ble j s) then K ⟨j,some (d,r.av),some (d,cs),WH D ws d r.link⟩ else False)
     | none=>False
   | _,none=>match R j τ o with
     | some (r,ps)=>alls ps (bif ZT r.box then K ⟨j,none,none,none⟩ else False)
     | none=>False)
  (K ⟨j,skE τ.n o.dst,none,none⟩)
theorem Zm9{Γ:List (Nat×Ty)}{R:RSy}{R0:Nat→St→Oper→Option Res}(hR:RSub R R0){ops:List Oper}{cls:List Nat}{ws:List (Nat×Nat)}{D Src:List Nat}{β:St}{A:List En}{j:Nat}{o:Oper}{K:En→Prop}
 (h:ZhW Γ R ops cls ws D Src β A j o K):∃e,K e∧Zau Γ R0 ops cls ws D Src β A j o=some e:=by
 unfold ZhW at h
 rw[Zbe] at h
 unfold Zau
 simp only
 generalize tau ws cls A β j (ZN cls j) (Zbc ops o)=τ at h ⊢
 have key1:∀(o:Oper) (d:Nat),(match R j τ o with
      | some (r,ps)=>alls ps (match r.box with
        | none=>K ⟨j,some (d,r.av),none,WH D ws d r.link⟩
        | some cs=>bif WG j d ws&&ZT (lk d β.boxes)&&ws.all (fun (s,b)=> !(Nat.beq b d)||Nat.ble j s) then K ⟨j,some (d,r.av),some (d,cs),WH D ws d r.link⟩ else False)
      | none=>False)→∃e,K e∧(match R0 j τ o with
  | some r=>match r.box with
    | none=>some (⟨j,some (d,r.av),none,WH D ws d r.link⟩:En)
    | some cs=>bif WG j d ws&&ZT (lk d β.boxes)&&ws.all (fun (s,b)=> !(Nat.beq b d)||Nat.ble j s) then some ⟨j,some (d,r.av),some (d,cs),WH D ws d r.link⟩ else none
  | none=>none)=some e:=by
  intro o d h
  split at h
  ·rename_i r ps h1
   obtain ⟨h2,h3⟩:=Xi h
   have hr:=hR _ _ _ _ _ h1 h2
   simp only[hr]
   split at h3
   ·exact ⟨_,h3,rfl⟩
   ·rename_i cs hbx
    cases hb:(WG j d ws&&ZT (lk d β.boxes)&&ws.all (fun (s,b)=> !(Nat.beq b d)||Nat.ble j s)) with
    | false=>rw[hb] at h3;exact h3.elim
    | true=>
      rw[hb] at h3
      exact ⟨_,h3,rfl⟩
  ·exact h.elim
 have key0:∀(o:Oper),(match R j τ o with
      | some (r,ps)=>alls ps (bif ZT r.box then K ⟨j,none,none,none⟩ else False)
      | none=>False)→∃e,K e∧(match R0 j τ o with
  | some r=>bif ZT r.box then some (⟨j,none,none,none⟩:En) else none
  | none=>none)=some e:=by
  intro o h
  split at h
  ·rename_i r ps h1
   obtain ⟨h2,h3⟩:=Xi h
   have hr:=hR _ _ _ _ _ h1 h2
   simp only[hr]
   cases hb:ZT r.box with
   | false=>rw[hb] at h3;exact h3.elim
   | true=>
     rw[hb] at h3
     exact ⟨_,h3,rfl⟩
  ·exact h.elim
 rcases ZgE h with ⟨hg,h⟩ | ⟨hg,h⟩
 ·simp only[hg]
  clear hg
  obtain ⟨dst,op,type,pos,after,guard⟩:=o
  cases op with
  | store T p x=>
    cases dst with
    | some d=>exact key1 _ d h
    | none=>
      simp only at h ⊢
      split at h
      ·rename_i σ' hs
       simp only[hs]
       split at h
       ·rename_i b cs _ hbx
        simp only[hbx]
        cases hb:(WG j b ws&&Zgs Src x) with
        | false=>rw[hb] at h;exact h.elim
        | true=>
          rw[hb] at h
          exact ⟨_,h,rfl⟩
       ·exact h.elim
      ·exact h.elim
  | _=>
    cases dst with
    | some d=>exact key1 _ d h
    | none=>exact key0 _ h
 ·simp only[hg]
  exact ⟨_,h,rfl⟩
def ZgF(Γ:List (Nat×Ty))(R:RSy)(ops:List Oper)(cls:List Nat)(ws:List (Nat×Nat))(D Src:List Nat)(β:St):List Oper→Nat→List En→(List En→Prop)→Prop
 | [],_,A,K=>K A
 | o::r,j,A,K=>ZhW Γ R ops cls ws D Src β A j o fun e=>sEn e fun e=>ZkJ (ZuF ops j) e fun e=>ZgF Γ R ops cls ws D Src β r (j+1) (e::A) K
theorem ZgG{Γ:List (Nat×Ty)}{R:RSy}{R0:Nat→St→Oper→Option Res}(hR:RSub R R0){ops:List Oper}{cls:List Nat}{ws:List (Nat×Nat)}{D Src:List Nat}{β:St}{K:List En→Prop}:∀{l:List Oper} {j:Nat} {A:List En},
 ZgF Γ R ops cls ws D Src β l j A K→∃A',K A'∧frees Γ R0 ops cls ws D Src β l j A=some A'
 | [],j,A,h=>⟨A,h,rfl⟩
 | o::r,j,A,h=>by
   unfold ZgF at h
   obtain ⟨e,h1,h2⟩:=Zm9 hR h
   rw[ZuE] at h1
   obtain ⟨A',h3,h4⟩:=ZgG hR (Zov h1)
   exact ⟨A',h3,by unfold frees;rw[h2];exact h4⟩
def Znu(Γ:List (Nat×Ty))(R:RSy)(T:TSy)(ops:List Oper)(σ:St)(ws:List (Nat×Nat))(K:St→Prop):Prop:=
 fNs (Zaf ops []) fun cls=>fN (Xh cls ops.length) fun k=>fNs (Y0 (ops.take k)) fun D=>fNs (WM (ops.take k)) fun Src=>fWs ws fun ws=>
 bif Zbk ops 0&&Jx D&&ZnQ cls ws then
  Zdg (Jw D Src ws σ) fun β=>ZgF Γ R ops cls ws D Src β (ops.take k) 0 [] fun A=>Zdg (ZbO β A) fun σ=>Zbr T ops (ops.drop k) k σ K
 else False
def ZkL(Γ:List (Nat×Ty))(R:RSy)(T:TSy)(ops:Array Oper)(d:Bool)(σ:St)(K:St→Prop):Prop:=
 match d with
 | true=>let l:=ops.toList
   Znu Γ R T l σ (ZdX l σ (l.take (Xh (Zaf l []) l.length)) 0) K
 | false=>Zbr T ops.toList ops.toList 0 σ K
theorem Zox{Γ:List (Nat×Ty)}{R:RSy}{R0:Nat→St→Oper→Option Res}(hR:RSub R R0){T:TSy}{T0:Nat→St→Oper→Option St}(hT:TSub T T0){ops:Array Oper}{d:Bool}{σ:St}{K:St→Prop}
 (h:ZkL Γ R T ops d σ K):∃σ',K σ'∧ZnR Γ R0 T0 ops d σ=some σ':=by
 cases d with
 | false=>exact Jz hT h
 | true=>
   simp only[ZkL,Znu,Zc7,YA,Zqe,Zbe] at h
   simp only[ZnR,Zgv]
   cases hb:(Zbk ops.toList 0&&Jx (Y0 (ops.toList.take (Xh (Zaf ops.toList []) ops.toList.length)))&&ZnQ (Zaf ops.toList []) (ZdX ops.toList σ (ops.toList.take (Xh (Zaf ops.toList []) ops.toList.length)) 0)) with
   | false=>rw[hb] at h;exact h.elim
   | true=>
     rw[hb] at h
     simp only[Qb_] at h ⊢
     obtain ⟨A,h1,h2⟩:=ZgG hR h
     obtain ⟨σ',h3,h4⟩:=Jz hT h1
     exact ⟨σ',h3,by rw[h2];exact h4⟩
def YS:Code→Nat
 | .region id _ _=>id+1
 | .seq x y=>match YS x with
   | 0=>YS y
   | k=>k
 | .cond _ x y=>match YS x with
   | 0=>YS y
   | k=>k
 | .block _ c=>YS c
 | .loop c=>YS c
 | .scope c=>YS c
 | _=>0
def ZB:Code→List Code
 | .seq x y=>ZB x++ZB y
 | .cond _ x y=>ZB x++ZB y
 | .block _ c=>ZB c
 | .loop c=>c::ZB c
 | .scope c=>ZB c
 | _=>[]
theorem WP:∀{s:Code} {l:Nat} {rest:Code},findLabel s l=some rest→∀b∈ZB rest,b∈ZB s
 | .seq x y,l,rest,h,b,hb=>by
   unfold findLabel at h
   split at h
   ·rename_i r1 h1
    have:=Qa_ h
    subst this
    simp only[ZB,Kt_] at hb ⊢
    rcases hb with hb | hb
    ·exact .inl (WP h1 b hb)
    ·exact .inr hb
   ·simp only[ZB,Kt_]
    exact .inr (WP h b hb)
 | .label k,l,rest,h,b,hb=>by
   unfold findLabel at h
   split at h
   ·have:=Qa_ h
    subst this
    exact absurd hb (by simp[ZB])
   ·cases h
 | .skip,_,_,h,_,_=>absurd h (by simp[findLabel])
 | .region _ _ _,_,_,h,_,_=>absurd h (by simp[findLabel])
 | .cond _ _ _,_,_,h,_,_=>absurd h (by simp[findLabel])
 | .block _ _,_,_,h,_,_=>absurd h (by simp[findLabel])
 | .loop _,_,_,h,_,_=>absurd h (by simp[findLabel])
 | .rangeFunc _ _ _ _,_,_,h,_,_=>absurd h (by simp[findLabel])
 | .exit _,_,_,h,_,_=>absurd h (by simp[findLabel])
 | .scope _,_,_,h,_,_=>absurd h (by simp[findLabel])
 | .goto _,_,_,h,_,_=>absurd h (by simp[findLabel])
 | .ret,_,_,h,_,_=>absurd h (by simp[findLabel])
 | .refuse _,_,_,h,_,_=>absurd h (by simp[findLabel])
abbrev LSum:=St→(Ex→St→Prop)→Prop
def Yq(P:Program)(b:Code)(S:LSum):Prop:=∀σ K,S σ K→∃e σ',K e σ'∧Tri P (.loop b) σ e σ'
def Yv(Γ:List (Nat×Ty))(R:RSy)(T:TSy)(LS:List (Nat×LSum)):Nat→Option Code→Code→St→(Ex→St→Prop)→Prop
 | 0,_,_,_,_=>False
 | n+1,some s,c,σ,K=>Zdg (clean (Wp s) σ) fun σ=>Yv Γ R T LS n none c σ fun e σ1=>match e with
   | .goto l=>match findLabel s l with
     | some rest=>Yv Γ R T LS n (some s) rest σ1 K
     | none=>K (.goto l) σ1
   | e=>K e σ1
 | n+1,none,c,σ,K=>match c with
   | .scope s=>Yv Γ R T LS n (some s) s σ K
   | .skip=>K .normal σ
   | .label _=>K .normal σ
   | .exit i=>K (.exit i) σ
   | .goto i=>K (.goto i) σ
   | .ret=>K .ret σ
   | .region _ ops d=>ZkL Γ R T ops d σ fun σ'=>K .normal σ'
   | .seq x y=>Yv Γ R T LS n none x σ fun e σ1=>match e with
     | .normal=>Yv Γ R T LS n none y σ1 K
     | e=>K e σ1
   | .cond c x y=>match Zw σ c with
     | some (.v (.bool b))=>(match b with
       | true=>Yv Γ R T LS n none x σ K
       | false=>Yv Γ R T LS n none y σ K)
     | _=>False
   | .block id c=>Yv Γ R T LS n none c σ fun e σ1=>match e with
     | .exit i=>(match Nat.beq i id with
       | true=>K .normal σ1
       | false=>K (.exit i) σ1)
     | e=>K e σ1
   | .loop c=>match lk (YS c) LS with
     | some S=>S σ fun e σ1=>ZkI σ1 fun σ1=>K e σ1
     | none=>Zdg (clean (Wp c) σ) fun σ=>Yv Γ R T LS n none c σ fun e σ1=>match e with
       | .normal=>Yv Γ R T LS n none (.loop c) σ1 K
       | e=>K e σ1
   | _=>False
section
variable {P:Program}{B:Nat}{g:G}{σ τ:St}{a:Act}{w:World}
theorem J0{Γ:List (Nat×Ty)}(hΓ:ZW P Γ)(hm:P.follows .mixedOrders=true){R:RSy}{R0:Nat→St→Oper→Option Res}(hRS:RSub R R0)(hR:∀j τ o r,R0 j τ o=some r→XC P τ o r)
 {T:TSy} {T0:Nat→St→Oper→Option St} (hTS:TSub T T0) (hT:∀j σ o σ',T0 j σ o=some σ'→∀B g a w,Inv P B g σ a w→Goes P B g σ a w o σ') {LS:List (Nat×LSum)}:
 ∀(n:Nat),(∀(c:Code) (σ:St) (K:Ex→St→Prop),(∀b∈ZB c,∀S,lk (YS b) LS=some S→Yq P b S)→Yv Γ R T LS n none c σ K→∃e σ',K e σ'∧Tri P c σ e σ'∧∀b,c= .loop b→lk (YS b) LS=none→∃k,Ja P k b σ e σ')∧
  ∀(s c:Code) (σ:St) (K:Ex→St→Prop),(∀b∈ZB s,∀S,lk (YS b) LS=some S→Yq P b S)→(∀b∈ZB c,∀S,lk (YS b) LS=some S→Yq P b S)→Yv Γ R T LS n (some s) c σ K→∃e σ',K e σ'∧∃k,Xu P s k c σ e σ':=by
 intro n
 induction n with
 | zero=>exact ⟨fun c σ K _ h=>h.elim,fun s c σ K _ _ h=>h.elim⟩
 | succ n ih=>
   refine ⟨?_,fun s c σ K hs hc h=>?_⟩
   rotate_left
   ·simp only[Yv,Zbe] at h
    obtain ⟨e,σ1,h1,h2,_⟩:=ih.1 _ _ _ hc h
    have out:(∀l,e≠ .goto l)→K e σ1→∃e σ',K e σ'∧∃k,Xu P s k c σ e σ':=fun hne hk=>⟨e,σ1,hk,1,Zkg hne (Wq h2)⟩
    cases e with
    | goto l=>
      simp only at h1
      split at h1
      ·rename_i rest hf
       obtain ⟨e',σ',k1,k,k2⟩:=ih.2 s rest σ1 K hs (fun b hb=>hs b (WP hf b hb)) h1
       exact ⟨e',σ',k1,k+1,ZbL (Wq h2) hf k2⟩
      ·rename_i hf
       exact ⟨_,σ1,h1,1,ZpR hf (Wq h2)⟩
    | normal=>exact out (fun l=>by simp) h1
    | exit i=>exact out (fun l=>by simp) h1
    | ret=>exact out (fun l=>by simp) h1
   intro c σ K hl h
   cases c with
   | skip=>exact ⟨_,_,h,fun B g a w hI=>wp_skip ⟨trivial,g,hI,Fr.refl⟩,fun b hb=>absurd hb (by simp)⟩
   | label l=>exact ⟨_,_,h,fun B g a w hI=>wp_label ⟨trivial,g,hI,Fr.refl⟩,fun b hb=>absurd hb (by simp)⟩
   | exit i=>exact ⟨_,_,h,fun B g a w hI=>wp_exit ⟨rfl,g,hI,Fr.refl⟩,fun b hb=>absurd hb (by simp)⟩
   | goto i=>exact ⟨_,_,h,fun B g a w hI=>wp_goto ⟨rfl,g,hI,Fr.refl⟩,fun b hb=>absurd hb (by simp)⟩
   | ret=>exact ⟨_,_,h,fun B g a w hI=>wp_ret ⟨trivial,g,hI,Fr.refl⟩,fun b hb=>absurd hb (by simp)⟩
   | region id ops d=>
     obtain ⟨σ',h1,h2⟩:=Zox hRS hTS (K:=fun σ'=>K .normal σ') h
     exact ⟨_,_,h1,Zm1 hΓ hm hR hT h2,fun b hb=>absurd hb (by simp)⟩
   | seq x y=>
     simp only[Yv] at h
     obtain ⟨e,σ1,h1,h2,_⟩:=ih.1 x σ _ (fun b hb=>hl b (by simp[ZB,hb])) h
     have out:e≠ .normal→K e σ1→∃e σ',K e σ'∧Tri P (.seq x y) σ e σ'∧∀b,Code.seq x y= .loop b→lk (YS b) LS=none→∃k,Ja P k b σ e σ':=fun hne hk=>⟨e,σ1,hk,Zmz hne h2,fun b hb=>absurd hb (by simp)⟩
     cases e with
     | normal=>
       obtain ⟨e',σ',k1,k2,_⟩:=ih.1 y σ1 _ (fun b hb=>hl b (by simp[ZB,hb])) h1
       exact ⟨e',σ',k1,Zna h2 k2,fun b hb=>absurd hb (by simp)⟩
     | exit i=>exact out (by simp) h1
     | goto l=>exact out (by simp) h1
     | ret=>exact out (by simp) h1
   | cond c x y=>
     simp only[Yv] at h
     split at h
     ·rename_i b hb
      cases b with
      | true=>
        obtain ⟨e,σ1,h1,h2,_⟩:=ih.1 x σ _ (fun b hb=>hl b (by simp[ZB,hb])) h
        exact ⟨e,σ1,h1,Zkh hb h2,fun b hb=>absurd hb (by simp)⟩
      | false=>
        obtain ⟨e,σ1,h1,h2,_⟩:=ih.1 y σ _ (fun b hb=>hl b (by simp[ZB,hb])) h
        exact ⟨e,σ1,h1,Zkh hb h2,fun b hb=>absurd hb (by simp)⟩
     ·exact h.elim
   | block id c=>
     simp only[Yv] at h
     obtain ⟨e,σ1,h1,h2,_⟩:=ih.1 c σ _ hl h
     cases e with
     | exit i=>
       have ht:=ZhI (id:=id) h2
       simp only at h1
       cases hb:Nat.beq i id with
       | true=>rw[hb] at h1 ht;exact ⟨_,_,h1,ht,fun b hb=>absurd hb (by simp)⟩
       | false=>rw[hb] at h1 ht;exact ⟨_,_,h1,ht,fun b hb=>absurd hb (by simp)⟩
     | normal=>exact ⟨_,_,h1,ZdO h2 (fun i=>by simp),fun b hb=>absurd hb (by simp)⟩
     | goto l=>exact ⟨_,_,h1,ZdO h2 (fun i=>by simp),fun b hb=>absurd hb (by simp)⟩
     | ret=>exact ⟨_,_,h1,ZdO h2 (fun i=>by simp),fun b hb=>absurd hb (by simp)⟩
   | loop c=>
     simp only[Yv] at h
     split at h
     ·rename_i S hS
      obtain ⟨e,σ1,h1,h2⟩:=hl c (by simp[ZB]) S hS _ _ h
      rw[ZhV] at h1
      exact ⟨e,σ1,h1,h2,fun b hb hn=>by cases hb;rw[hS] at hn;cases hn⟩
     ·rename_i hS
      rw[Zbe] at h
      obtain ⟨e,σ1,h1,h2,_⟩:=ih.1 c _ _ (fun b hb=>hl b (by simp[ZB,hb])) h
      have out:e≠ .normal→K e σ1→∃e σ',K e σ'∧Tri P (.loop c) σ e σ'∧∀b,Code.loop c= .loop b→lk (YS b) LS=none→∃k,Ja P k b σ e σ':=fun hne hk=>
       have ht:Ja P 1 c σ e σ1:=Zkf hne (Wq h2)
       ⟨e,σ1,hk,Zf8 ht,fun b hb _=>by cases hb;exact ⟨1,ht⟩⟩
      cases e with
      | normal=>
        obtain ⟨e',σ',k1,_,k3⟩:=ih.1 (.loop c) σ1 K hl h1
        obtain ⟨k,k4⟩:=k3 c rfl hS
        have ht:Ja P (k+1) c σ e' σ':=Zgn (Wq h2) k4
        exact ⟨e',σ',k1,Zf8 ht,fun b hb _=>by cases hb;exact ⟨k+1,ht⟩⟩
      | exit i=>exact out (by simp) h1
      | goto l=>exact out (by simp) h1
      | ret=>exact out (by simp) h1
   | scope c=>
     simp only[Yv] at h
     obtain ⟨e,σ',h1,k,h2⟩:=ih.2 c c σ K hl hl h
     exact ⟨e,σ',h1,Ziz h2,fun b hb=>absurd hb (by simp)⟩
   | rangeFunc f ps q c=>exact (show False from h).elim
   | refuse w=>exact (show False from h).elim
end
def Zd:PV→Int
 | .v (.int _ n)=>n
 | _=>0
def Zz:PV→Bool
 | .v (.bool b)=>b
 | _=>false
def We:PV→List UInt8
 | .str l=>l
 | _=>[]
def J1:PV→List (List PV)
 | .lst l=>l
 | _=>[]
def Zoy:PV→Nat
 | .v (.complex _ a _)=>a
 | _=>0
def Zoz:PV→Nat
 | .v (.complex _ _ b)=>b
 | _=>0
def Zwo(z p:PV):PV:=match z with
 | .v (.int k _)=> .v (.int k (Zd p))
 | .v (.bool _)=> .v (.bool (Zz p))
 | .v (.complex k _ _)=> .v (.complex k (Zoy p) (Zoz p))
 | .str _=> .str (We p)
 | .nil=> .lst (J1 p)
 | _=>p
def Yx:List PV→List PV→List PV
 | [],_=>[]
 | z::zs,ps=>Zwo z (ps.headD .nil)::Yx zs ps.tail
def Zsh(op:BinOp)(x y:Value):Option (Value×List Prop):=
 match x,y with
 | .float k a,.float k' b=>bif decide (k=k') then (match op with
   | .eql=>some (.bool (k.format.order a b==some .eq),[])
   | .neq=>some (.bool (k.format.order a b !=some .eq),[])
   | .lss=>some (.bool (k.format.order a b==some .lt),[])
   | .leq=>some (.bool (k.format.order a b==some .lt||k.format.order a b==some .eq),[])
   | .gtr=>some (.bool (k.format.order a b==some .gt),[])
   | .geq=>some (.bool (k.format.order a b==some .gt||k.format.order a b==some .eq),[])
   | .add=>some (.float k ((k.format.add a b).getD 0),[k.format.add a b=some ((k.format.add a b).getD 0)])
   | .sub=>some (.float k ((k.format.sub a b).getD 0),[k.format.sub a b=some ((k.format.sub a b).getD 0)])
   | .mul=>some (.float k ((k.format.mul a b).getD 0),[k.format.mul a b=some ((k.format.mul a b).getD 0)])
   | _=>none) else none
 | .complex k a b,.complex k' c d=>bif decide (k=k') then (match op with
   | .eql=>some (.bool (k.format.order a c==some .eq&&k.format.order b d==some .eq),[])
   | .neq=>some (.bool (!(k.format.order a c==some .eq&&k.format.order b d==some .eq)),[])
   | .add=>some (.complex k ((k.format.add a c).getD 0) ((k.format.add b d).getD 0),[k.format.add a c=some ((k.format.add a c).getD 0),k.format.add b d=some ((k.format.add b d).getD 0)])
   | .sub=>some (.complex k ((k.format.sub a c).getD 0) ((k.format.sub b d).getD 0),[k.format.sub a c=some ((k.format.sub a c).getD 0),k.format.sub b d=some ((k.format.sub b d).getD 0)])
   | _=>none) else none
 | _,_=>none
def noP(x:Option PV):Option (PV×List Prop):=match x with
 | some r=>some (r,[])
 | none=>none
def Zo0(op:BinOp)(k:IntKind)(a b:Int):Option (PV×List Prop):=
 match op with
 | .quo=>some (.v (.int k (k.wrap (a.tdiv b))),[b≠0])
 | .rem=>some (.v (.int k (a.tmod b)),[b≠0])
 | .shl=>some (.v (.int k (k.wrap (a *2 ^ min b.toNat k.bits))),[0≤b])
 | .shr=>some (.v (.int k (a.fdiv (2 ^ min b.toNat k.bits))),[0≤b])
 | op=>match Zjr op k a b with
   | some r=>some (r,[])
   | none=>noP (ZnI op k a b)
def Zsi(E:Env)(op:BinOp)(T:TypeId)(x y:PV):Option (PV×List Prop):=
 match x,y with
 | .v (.int k a),.v (.int k' b)=>match op with
   | .shl=>Zo0 .shl k a b
   | .shr=>Zo0 .shr k a b
   | op=>bif decide (k=k') then Zo0 op k a b else none
 | .v (.bool a),.v (.bool b)=>bif has T E.bools then noP (Zg0 op a b) else none
 | .agg xs,.agg ys=>match lk T E.eqs with
   | some sh=>match Zl sh xs ys with
     | some b=>match op with
       | .eql=>some (.v (.bool b),[])
       | .neq=>some (.v (.bool (!b)),[])
       | _=>none
     | none=>none
   | none=>none
 | .v a,.v b=>match Zsh op a b with
   | some (r,ps)=>some (.v r,ps)
   | none=>none
 | .str a,.str b=>match op with
   | .add=>some (.str (a++b),[a.length+b.length≤9223372036854775807])
   | .eql=>some (.v (.bool (a==b)),[])
   | .neq=>some (.v (.bool (!(a==b))),[])
   | _=>none
 | _,_=>none
def Zqo(Γ:List (Nat×Ty))(T:TypeId)(x i:PV):Option (PV×List Prop):=
 match lk T Γ,i with
 | some ty,.v (.int _ n)=>match ty.kd,x with
   | 4,.str l=>some (.v (.int .u8 ((l.getD n.toNat 0).toNat:Int)),[0≤n∧n < l.length])
   | 2,.agg cs=>match lk ty.elem Γ with
     | some ety=>bif Nat.beq cs.length (ty.len *ety.size)&& !(Nat.beq ety.size 0) then
        (match rd ety (Yx ety.zero ((chunk ety.size ty.len cs).getD n.toNat [])) 0 with
        | some r=>bif Nat.beq (Yx ety.zero ((chunk ety.size ty.len cs).getD n.toNat [])).length ety.size then some (r,[0≤n∧(chunk ety.size ty.len cs)[n.toNat]?=some (Yx ety.zero ((chunk ety.size ty.len cs).getD n.toNat []))]) else none
        | none=>none)
       else none
     | none=>none
   | _,_=>none
 | _,_=>none
def ZgH(Γ:List (Nat×Ty))(T:TypeId)(x:AV)(i:PV):Option (AV×List Prop):=
 match lk T Γ,i with
 | some ty,.v (.int _ n)=>match ty.kd,x with
   | 3,.p (.lst xs)=>match lk ty.elem Γ with
     | some ety=>bif Nat.beq (Yx ety.zero (xs.getD n.toNat [])).length ety.size&& !(Nat.beq ety.size 0) then some (.p (.lptr (Yx ety.zero (xs.getD n.toNat [])) 0),[0≤n∧xs[n.toNat]?=some (Yx ety.zero (xs.getD n.toNat []))]) else none
     | none=>none
   | 2,.ptr b off=>match lk ty.elem Γ with
     | some ety=>some (.ptr b (off+n.toNat *ety.size),[0≤n∧n < ty.len])
     | none=>none
   | 2,.p (.lptr cs off)=>match lk ty.elem Γ with
     | some ety=>some (.p (.lptr cs (off+n.toNat *ety.size)),[0≤n∧n < ty.len])
     | none=>none
   | _,_=>none
 | _,_=>none
def Zeh(Γ:List (Nat×Ty))(T:TypeId)(x:PV)(lo hi:Option PV):Option (PV×List Prop):=
 match lk T Γ with
 | some ty=>match ty.kd,x,lo,hi with
   | 4,.str l,some (.v (.int _ a)),some (.v (.int _ b))=>some (.str ((l.drop a.toNat).take (b.toNat - a.toNat)),[0≤a∧a≤b∧b≤l.length])
   | 4,.str l,some (.v (.int _ a)),none=>some (.str (l.drop a.toNat),[0≤a∧a≤l.length])
   | 4,.str l,none,some (.v (.int _ b))=>some (.str (l.take b.toNat),[0≤b∧b≤l.length])
   | 3,.lst l,lo,hi=>match lk ty.elem Γ,lo,hi with
     | some ety,some (.v (.int _ a)),some (.v (.int _ b))=>some (.lst ((l.drop a.toNat).take (b.toNat - a.toNat)),[0≤a∧a≤b∧b≤l.length∧Lens ety.size l])
     | some ety,some (.v (.int _ a)),none=>some (.lst (l.drop a.toNat),[0≤a∧a≤l.length∧Lens ety.size l])
     | some ety,none,some (.v (.int _ b))=>some (.lst (l.take b.toNat),[0≤b∧b≤l.length∧Lens ety.size l])
     | _,_,_=>none
   | _,_,_,_=>none
 | none=>none
def ZkM(E:Env)(S T:TypeId)(x:PV):Option (PV×List Prop):=
 match x with
 | .v (.int _ n)=>noP (Zkv E S T n)
 | .v (.float s b)=>match lk T E.ints,lk S E.flts with
   | some k,some _=>some (.v (.int k (((s.decode b).toInt .zero).getD 0)),[(s.decode b).toInt .zero=some (((s.decode b).toInt .zero).getD 0),k.min≤((s.decode b).toInt .zero).getD 0,((s.decode b).toInt .zero).getD 0≤k.max])
   | _,_=>none
 | .lst xs=>bif XD E S&&Ys E T then some (.str ((bytesOf xs).getD []),[bytesOf xs=some ((bytesOf xs).getD [])]) else none
 | .nil=>bif XD E S&&Ys E T then some (.str [],[]) else none
 | .str l=>bif Ys E S&&Ys E T then some (.str l,[]) else none
 | _=>none
def Zto(Γ:List (Nat×Ty))(T:TypeId)(l c:PV):Option (PV×List Prop):=
 match lk T Γ,l,c with
 | some ty,.v (.int _ n),.v (.int _ m)=>bif Nat.beq ty.kd 3 then
    match lk ty.elem Γ with
    | some ety=>bif Nat.beq ety.size 0|| !(Nat.beq ety.zero.length ety.size) then none else some (.lst (chunk ety.size n.toNat (reps n.toNat ety.zero)),[n=m,0≤n,n.toNat *ety.size < 16777216,n.toNat *ety.bytes < 16777216])
    | none=>none
   else none
 | _,_,_=>none
abbrev ZJ:=Nat→List PV→Option (PV×List Prop)
open Classical in
noncomputable def CH(C:ZJ):YU:=fun f args=>match C f args with
 | some (r,ps)=>if ZX ps then some r else none
 | none=>none
def CSOk(P:Program)(C:ZJ):Prop:=∀f args r ps,C f args=some (r,ps)→ZX ps→Con P f args r
theorem ZgI{P:Program}{C:ZJ}(h:CSOk P C):Zbp P (CH C):=fun f args r hr=>by
 unfold CH at hr
 split at hr
 ·rename_i r' ps h1
  split at hr
  ·rename_i hp
   have:=Qa_ hr
   subst this
   exact h _ _ _ _ h1 hp
  ·cases hr
 ·cases hr
def Ztp(C:ZJ)(σ:St)(f:Operand)(args:List Operand):Option (PV×List Prop):=
 match opd σ f,Xt (opd σ) args with
 | some (.p (.fn g cs)),some l=>match YQ σ.boxes l with
   | some (xs,c)=>match C g (xs++cs) with
     | some (r,ps)=>bif !c||flat r then some (r,ps) else none
     | none=>none
   | none=>none
 | some (.fnp g bs),some l=>match YQ σ.boxes l,ZaN σ.boxes bs with
   | some (xs,_),some cs=>match C g (xs++cs) with
     | some (r,ps)=>bif flat r then some (r,ps) else none
     | none=>none
   | _,_=>none
 | _,_=>none
def XH(σ:St)(o:Oper)(x:Option (PV×List Prop)):Option (Res×List Prop):=
 match o.dst,x with
 | some d,some (x,ps)=>bif Nat.blt d σ.n then some (⟨.p x,none,none⟩,ps) else none
 | _,_=>none
def noR(x:Option Res):Option (Res×List Prop):=match x with
 | some r=>some (r,[])
 | none=>none
def ZgJ:YU:=fun _ _=>none
def RSym(E:Env)(C:ZJ)(j:Nat)(σ:St)(o:Oper):Option (Res×List Prop):=
 match o.op with
 | .binOp op T x y _=>match Zky y with
   | true=>noR (RR E ZgJ j σ o)
   | false=>match Zw σ x,Zw σ y with
     | some a,some b=>XH σ o (Zsi E op T a b)
     | _,_=>none
 | .pick c x y=>match Zw σ c,Zw σ x,Zw σ y with
   | some (.v (.bool true)),some a,_=>XH σ o (some (a,[]))
   | some (.v (.bool false)),_,some b=>XH σ o (some (b,[]))
   | _,_,_=>none
 | .index T x i=>match Zw σ x,Zw σ i with
   | some (.agg _),some _=>noR (RR E ZgJ j σ o)
   | some a,some j=>XH σ o (Zqo E.Γ T a j)
   | _,_=>none
 | .indexAddr T x i=>match opd σ x,Zw σ i,o.dst with
   | some a,some j,some d=>match ZgH E.Γ T a j with
     | some (r,ps)=>bif Nat.blt d σ.n then some (⟨r,none,none⟩,ps) else none
     | none=>none
   | _,_,_=>none
 | .slice T x lo hi none=>match Zw σ x with
   | some a=>match lo,hi with
     | none,none=>none
     | some l,none=>match Zw σ l with | some l=>XH σ o (Zeh E.Γ T a (some l) none) | none=>none
     | none,some h=>match Zw σ h with | some h=>XH σ o (Zeh E.Γ T a none (some h)) | none=>none
     | some l,some h=>match Zw σ l,Zw σ h with | some l,some h=>XH σ o (Zeh E.Γ T a (some l) (some h)) | _,_=>none
   | none=>none
 | .slice _ _ _ _ (some _)=>none
 | .convert S T x=>match Zw σ x with
   | some (.str l)=>match Zg1 E S T l with
     | some r=>XH σ o (some (r,[]))
     | none=>XH σ o (ZkM E S T (.str l))
   | some a=>XH σ o (ZkM E S T a)
   | none=>none
 | .makeSlice T l c=>match Zw σ l,Zw σ c with
   | some l,some c=>XH σ o (Zto E.Γ T l c)
   | _,_=>none
 | .call ⟨.value f,args,_⟩=>XH σ o (Ztp C σ f args.toList)
 | _=>noR (RR E ZgJ j σ o)
section
variable {P:Program}{σ:St}{o:Oper}
theorem YB{x:Option (PV×List Prop)}{r:Res}{ps:List Prop}(h:XH σ o x=some (r,ps)):∃d y,o.dst=some d∧x=some (y,ps)∧Nat.blt d σ.n=true∧r=⟨.p y,none,none⟩:=by
 unfold XH at h
 split at h
 ·rename_i d y q hd
  cases hb:Nat.blt d σ.n with
  | false=>rw[hb] at h;cases h
  | true=>
    rw[hb] at h
    have:=Qa_ h
    cases this
    exact ⟨d,y,hd,rfl,hb,rfl⟩
 ·cases h
theorem YK{E:Env}{call:YU}{os ob:List Obl}{d:Nat}{r:Res}(h1:X0 E call σ o=some os)(h2:Zj E.Γ σ o os=some (r,[],ob))(hd:o.dst=some d)(hb:Nat.blt d σ.n=true)(hl:ZdL d r.link=true):
 RRgen E call σ o=some r:=by
 unfold RRgen
 rw[h1]
 simp only[W7,h2,hd]
 have:rewr d r []=some (r,[],[]):=rfl
 rw[this]
 simp only[hb,hl,QZ_,Qb_]
theorem Zsj{op:BinOp}{x y r:Value}{ps:List Prop}(h:Zsh op x y=some (r,ps))(hp:ZX ps):Zku op x y=some r:=by
 unfold Zsh at h
 unfold Zku
 split at h
 ·rename_i k a k' b
  try simp only
  cases hk:decide (k=k') with
  | false=>rw[hk] at h;cases h
  | true=>
    rw[hk] at h
    simp only[Qb_] at h ⊢
    cases op<;>first
     | (have:=Qa_ h;cases this;rfl)
     | (have:=Qa_ h;cases this
        have hq:=hp _ (Qv_ ..)
        rw[hq]
        simp)
     | cases h
 ·rename_i k a b k' c d
  try simp only
  cases hk:decide (k=k') with
  | false=>rw[hk] at h;cases h
  | true=>
    rw[hk] at h
    simp only[Qb_] at h ⊢
    cases op<;>first
     | (have:=Qa_ h;cases this;rfl)
     | (have:=Qa_ h;cases this
        have hq:=hp _ (Qv_ ..)
        have hq2:=hp _ (Qq_ _ (Qv_ ..))
        rw[hq,hq2]
        simp)
     | cases h
 ·cases h
theorem one{p:Prop}{l:List Prop}(h:ZX (p::l)):p:=h _ (Qv_ ..)
theorem Zqp{E:Env}{op:BinOp}{T:TypeId}{x y r:PV}{ps:List Prop}(h:Zsi E op T x y=some (r,ps))(hp:ZX ps):
 ∃os ob,YF E op T x y=some os∧Y1 op T x y os=some (r,[],ob):=by
 unfold Zsi at h
 split at h
 ·rename_i k a k' b
  split at h
  ·have:=Qa_ h;cases this
   have hb:decide (0≤b)=true:=by simpa using one hp
   exact ⟨[.pr True],_,by simp[YF,hb],by simp[Y1];rfl⟩
  ·have:=Qa_ h;cases this
   have hb:decide (0≤b)=true:=by simpa using one hp
   exact ⟨[.pr True],_,by simp[YF,hb],by simp[Y1];rfl⟩
  rename_i n1 n2
  cases hk:decide (k=k') with
  | false=>rw[hk] at h;cases h
  | true=>
    rw[hk] at h
    simp only[Qb_] at h
    have ek:=Qy_ hk
    subst ek
    cases op with
    | shl=>exact (n1 rfl).elim
    | shr=>exact (n2 rfl).elim
    | quo=>
      have:=Qa_ h;cases this
      have hb:(b==0)=false:=by simpa using one hp
      exact ⟨[.pr True],_,by simp[YF,hb],by simp[Y1];rfl⟩
    | rem=>
      have:=Qa_ h;cases this
      have hb:(b==0)=false:=by simpa using one hp
      exact ⟨[.pr True],_,by simp[YF,hb],by simp[Y1];rfl⟩
    | _=>
      simp only[Zo0] at h
      split at h
      ·rename_i r0 hr0
       have:=Qa_ h;cases this
       exact ⟨[.bin _ T (.v (.int k a)) (.v (.int k b)) r],_,by simp only[YF,hr0,QD_,Qb_];rfl,by simp only[Y1];rfl⟩
      ·rename_i hr0
       unfold noP at h
       split at h
       ·rename_i r0 hr1
        have:=Qa_ h;cases this
        exact ⟨[],[],by simp only[YF,hr0],by simp only[Y1,QD_,Qb_,hr1]⟩
       ·cases h
 ·rename_i a b
  cases hb:has T E.bools with
  | false=>rw[hb] at h;cases h
  | true=>
    rw[hb] at h
    simp only[Qb_] at h
    cases hr:Zg0 op a b with
    | none=>rw[hr] at h;exact absurd h (by simp[noP])
    | some r0=>
      rw[hr] at h
      have:=Qa_ h;cases this
      exact ⟨[.bin op T (.v (.bool a)) (.v (.bool b)) r],_,by simp only[YF,hb,hr,Qb_],by simp only[Y1];rfl⟩
 ·rename_i xs ys
  split at h
  ·rename_i sh hsh
   split at h
   ·rename_i b hb
    split at h
    ·have:=Qa_ h;cases this
     exact ⟨[.bin .eql T (.agg xs) (.agg ys) (.v (.bool b))],_,by simp only[YF,hsh,hb],by simp only[Y1];rfl⟩
    ·have:=Qa_ h;cases this
     exact ⟨[.bin .neq T (.agg xs) (.agg ys) (.v (.bool (!b)))],_,by simp only[YF,hsh,hb],by simp only[Y1];rfl⟩
    ·cases h
   ·cases h
  ·cases h
 ·rename_i a b h1 h2
  split at h
  ·rename_i r0 q hr
   have:=Qa_ h;cases this
   have hf:=Zsj hr hp
   refine ⟨[.bin op T (.v a) (.v b) (.v r0)],_, ?_,by simp[Y1];rfl⟩
   unfold YF
   split
   ·rename_i k a' k' b' e1 e2;cases e1;cases e2;exact (h1 _ _ _ _ rfl rfl).elim
   ·rename_i a' b' e1 e2;cases e1;cases e2;exact (h2 _ _ rfl rfl).elim
   ·rename_i e1 e2;cases e1
   ·rename_i a' b' _ _ e1 e2;cases e1;cases e2;rw[hf]
   ·rename_i e1 e2;cases e1
   ·rename_i _ _ hh _;exact (hh _ _ rfl rfl).elim
  ·cases h
 ·rename_i a b
  split at h
  ·have:=Qa_ h;cases this
   have hb:Nat.ble (a.length+b.length) 9223372036854775807=true:=by simpa using one hp
   exact ⟨[.pr True],_,by simp[YF,hb],by simp[Y1];rfl⟩
  ·have:=Qa_ h;cases this
   exact ⟨[],[],by simp[YF],by simp[Y1]⟩
  ·have:=Qa_ h;cases this
   exact ⟨[],[],by simp[YF],by simp[Y1]⟩
  ·cases h
 ·cases h
end
section
variable {P:Program}{σ:St}{o:Oper}
theorem ZeV{x:Option Res}{r:Res}{ps:List Prop}(h:noR x=some (r,ps)):x=some r∧ps=[]:=by
 unfold noR at h
 split at h
 ·have:=Qa_ h
  cases this
  exact ⟨rfl,rfl⟩
 ·cases h
theorem Zub{E:Env}{C:ZJ}:RSub (RSym E C) (RR E (CH C)):=by
 intro j τ o r ps h hp
 obtain ⟨dst,op,type,pos,after,guard⟩:=o
 unfold RSym at h
 cases op with
 | binOp op T x y yT=>
   simp only at h
   split at h
   ·rename_i hn
    obtain ⟨h1,_⟩:=ZeV h
    simp only[RR,hn] at h1 ⊢
    exact h1
   ·rename_i hn
    split at h
    ·rename_i a b ha hb
     obtain ⟨d,y0,hd,hs,hlt,rfl⟩:=YB h
     simp only at hd
     subst hd
     obtain ⟨os,ob,h1,h2⟩:=Zqp hs hp
     simp only[RR,hn]
     exact YK (os:=os) (ob:=ob) (by simp only[X0,ha,hb,h1]) (by simp only[Zj,ha,hb,h2]) rfl hlt rfl
    ·cases h
 | pick c x y=>
   simp only at h
   split at h
   ·rename_i a hc hx
    obtain ⟨d,y0,hd,hs,hlt,rfl⟩:=YB h
    simp only at hd
    subst hd
    cases hs
    simp only[RR]
    exact YK (os:=[]) (ob:=[]) (by simp only[X0]) (by simp only[Zj,hc,hx]) rfl hlt rfl
   ·rename_i a hc hx
    obtain ⟨d,y0,hd,hs,hlt,rfl⟩:=YB h
    simp only at hd
    subst hd
    cases hs
    simp only[RR]
    exact YK (os:=[]) (ob:=[]) (by simp only[X0]) (by simp only[Zj,hc,hx]) rfl hlt rfl
   ·cases h
 | index T x i=>
   simp only at h
   split at h
   ·exact (ZeV h).1
   ·rename_i a b hna ha hb
    obtain ⟨d,y0,hd,hs,hlt,rfl⟩:=YB h
    simp only at hd
    subst hd
    simp only[RR]
    unfold Zqo at hs
    split at hs
    ·rename_i ty k n hty
     split at hs
     ·rename_i l hk
      have:=Qa_ hs
      cases this
      have hq:=one hp
      exact YK (os:=[.pr True]) (ob:=_) (by simp only[X0,ha,hb,ZbQ,hty,hk];simp[hq.1,hq.2]) (by simp only[Zj,ha,hb,JI,hty,hk];rfl) rfl hlt rfl
     ·rename_i cs hk
      split at hs
      ·rename_i ety hety
       generalize hy:Yx ety.zero ((chunk ety.size ty.len cs).getD n.toNat [])=y at hs
       cases hb2:(Nat.beq cs.length (ty.len *ety.size)&& !(Nat.beq ety.size 0)) with
       | false=>rw[hb2] at hs;cases hs
       | true=>
         rw[hb2] at hs
         simp only[Qb_] at hs
         split at hs
         ·rename_i r0 hr0
          cases hb3:Nat.beq y.length ety.size with
          | false=>rw[hb3] at hs;cases hs
          | true=>
            rw[hb3] at hs
            have:=Qa_ hs
            cases this
            have hq:=one hp
            exact YK (os:=[.idx [] 0 y]) (ob:=_) (by simp only[X0,ha,hb,ZbQ,hty,hk,hety,hq.2];simp[hq.1]) (by simp only[Zj,ha,hb,JI,hty,hk,hety,hb2,Qb_,hr0,hb3];rfl) rfl hlt rfl
         ·cases hs
      ·cases hs
     ·cases hs
    ·cases hs
   ·cases h
 | indexAddr T x i=>
   simp only at h
   split at h
   ·rename_i a b d ha hb
    split at h
    ·rename_i r0 q hs
     cases hlt:Nat.blt d τ.n with
     | false=>rw[hlt] at h;cases h
     | true=>
       rw[hlt] at h
       have:=Qa_ h
       cases this
       simp only[RR]
       unfold ZgH at hs
       split at hs
       ·rename_i ty k n hty
        split at hs
        ·rename_i xs hk
         split at hs
         ·rename_i ety hety
          generalize hy:Yx ety.zero (xs.getD n.toNat [])=y at hs
          cases hb2:(Nat.beq y.length ety.size&& !(Nat.beq ety.size 0)) with
          | false=>rw[hb2] at hs;cases hs
          | true=>
            rw[hb2] at hs
            have:=Qa_ hs
            cases this
            have hq:=one hp
            exact YK (os:=[.idx [] 0 y]) (ob:=_) (by simp only[X0,ha,hb,XX,hty,hk,hq.2];simp[hq.1]) (by simp only[Zj,ha,hb,hty,hk,hety,hb2,Qb_];rfl) rfl hlt rfl
         ·cases hs
        ·rename_i b0 off hk
         split at hs
         ·rename_i ety hety
          have:=Qa_ hs
          cases this
          have hq:=one hp
          exact YK (os:=[.pr True]) (ob:=_) (by simp only[X0,ha,hb,XX,hty,hk];simp[hq.1,hq.2]) (by simp only[Zj,ha,hb,hty,hk,hety];rfl) rfl hlt rfl
         ·cases hs
        ·rename_i cs off hk
         split at hs
         ·rename_i ety hety
          have:=Qa_ hs
          cases this
          have hq:=one hp
          exact YK (os:=[.pr True]) (ob:=_) (by simp only[X0,ha,hb,XX,hty,hk];simp[hq.1,hq.2]) (by simp only[Zj,ha,hb,hty,hk,hety];rfl) rfl hlt rfl
         ·cases hs
        ·cases hs
       ·cases hs
    ·cases h
   ·cases h
 | slice T x lo hi mx=>
   have key:∀(a:PV) (l h':Option PV) (y0:PV),Zeh E.Γ T a l h'=some (y0,ps)→∃ob,YR E.Γ T a l h'=some [.pr True]∧Yw E.Γ T a l h' [.pr True]=some (y0,[],ob):=by
    intro a l h' y0 hs
    have lens:∀{n:Nat} {l:List (List PV)},Lens n l→XG n l=true:=fun hl=>QK_.2 fun x hx=>by simpa using hl x hx
    unfold Zeh at hs
    split at hs
    ·rename_i ty hty
     split at hs
     ·rename_i hk
      have:=Qa_ hs;cases this
      have hq:=one hp
      exact ⟨_,by simp only[YR,hty,hk];simp[hq.1,hq.2],by simp only[Yw,hty,hk];rfl⟩
     ·rename_i hk
      have:=Qa_ hs;cases this
      have hq:=one hp
      exact ⟨_,by simp only[YR,hty,hk];simp[hq.1,hq.2],by simp only[Yw,hty,hk];rfl⟩
     ·rename_i hk
      have:=Qa_ hs;cases this
      have hq:=one hp
      exact ⟨_,by simp only[YR,hty,hk];simp[hq.1,hq.2],by simp only[Yw,hty,hk];rfl⟩
     ·rename_i l0 hk
      split at hs
      ·rename_i ety hety
       have:=Qa_ hs;cases this
       have hq:=one hp
       exact ⟨_,by simp only[YR,hty,hk,hety];simp[hq.1,hq.2.1,hq.2.2.1,lens hq.2.2.2],by simp only[Yw,hty,hk,hety];rfl⟩
      ·rename_i ety hety
       have:=Qa_ hs;cases this
       have hq:=one hp
       exact ⟨_,by simp only[YR,hty,hk,hety];simp[hq.1,hq.2.1,lens hq.2.2],by simp only[Yw,hty,hk,hety];rfl⟩
      ·rename_i ety hety
       have:=Qa_ hs;cases this
       have hq:=one hp
       exact ⟨_,by simp only[YR,hty,hk,hety];simp[hq.1,hq.2.1,lens hq.2.2],by simp only[Yw,hty,hk,hety];rfl⟩
      ·cases hs
     ·cases hs
    ·cases hs
   cases mx with
   | some m=>cases h
   | none=>
     simp only at h
     split at h
     ·rename_i a ha
      simp only[RR]
      split at h
      ·cases h
      ·rename_i l
       split at h
       ·rename_i pl hl
        obtain ⟨d,y0,hd,hs,hlt,rfl⟩:=YB h
        simp only at hd;subst hd
        obtain ⟨ob,h1,h2⟩:=key _ _ _ _ hs
        exact YK (os:=[.pr True]) (ob:=ob) (by simp only[X0,ha,hl,h1]) (by simp only[Zj,ha,hl,h2]) rfl hlt rfl
       ·cases h
      ·rename_i l
       split at h
       ·rename_i pl hl
        obtain ⟨d,y0,hd,hs,hlt,rfl⟩:=YB h
        simp only at hd;subst hd
        obtain ⟨ob,h1,h2⟩:=key _ _ _ _ hs
        exact YK (os:=[.pr True]) (ob:=ob) (by simp only[X0,ha,hl,h1]) (by simp only[Zj,ha,hl,h2]) rfl hlt rfl
       ·cases h
      ·rename_i l m
       split at h
       ·rename_i pl pm hl hm
        obtain ⟨d,y0,hd,hs,hlt,rfl⟩:=YB h
        simp only at hd;subst hd
        obtain ⟨ob,h1,h2⟩:=key _ _ _ _ hs
        exact YK (os:=[.pr True]) (ob:=ob) (by simp only[X0,ha,hl,hm,h1]) (by simp only[Zj,ha,hl,hm,h2]) rfl hlt rfl
       ·cases h
     ·cases h
 | convert S T x=>
   have key:∀(a y0:PV),ZkM E S T a=some (y0,ps)→Zc5 E S T a=some y0:=by
    intro a y0 hs
    unfold ZkM at hs
    unfold Zc5
    split at hs
    ·unfold noP at hs
     split at hs
     ·rename_i r0 hr0
      have:=Qa_ hs;cases this
      simp only[hr0]
     ·cases hs
    ·rename_i s b
     split at hs
     ·rename_i k s0 hk hs0
      have:=Qa_ hs;cases this
      have h1:=one hp
      have h2:=hp _ (Qq_ _ (Qv_ ..))
      have h3:=hp _ (Qq_ _ (Qq_ _ (Qv_ ..)))
      simp only[Zkw,hk,hs0]
      generalize ((s.decode b).toInt .zero).getD 0=z at h1 h2 h3
      rw[h1]
      simp[h2,h3]
     ·cases hs
    ·rename_i xs
     cases hb:(XD E S&&Ys E T) with
     | false=>rw[hb] at hs;cases hs
     | true=>
       rw[hb] at hs
       have:=Qa_ hs;cases this
       have h1:=one hp
       generalize (bytesOf xs).getD []=z at h1
       simp only[Zkx,hb,Qb_,h1]
    ·cases hb:(XD E S&&Ys E T) with
     | false=>rw[hb] at hs;cases hs
     | true=>
       rw[hb] at hs
       have:=Qa_ hs;cases this
       simp only[hb,Qb_]
    ·cases hb:(Ys E S&&Ys E T) with
     | false=>rw[hb] at hs;cases hs
     | true=>
       rw[hb] at hs
       have:=Qa_ hs;cases this
       simp only[hb,Qb_]
    ·cases hs
   have gen:∀(a y0:PV) (d:Nat),Zw τ x=some a→ZkM E S T a=some (y0,ps)→Nat.blt d τ.n=true→RRgen E (CH C) τ ⟨some d,.convert S T x,type,pos,after,guard⟩=some ⟨.p y0,none,none⟩:=by
    intro a y0 d ha hs hlt
    exact YK (os:=[.cvt S T a y0]) (ob:=_) (by simp only[X0,ha,key a y0 hs]) (by simp only[Zj,ha];rfl) rfl hlt rfl
   simp only at h
   split at h
   ·rename_i l hx
    split at h
    ·rename_i r0 hr0
     obtain ⟨d,y0,hd,hs,hlt,rfl⟩:=YB h
     simp only at hd;subst hd
     cases hs
     simp only[RR,hx,hr0,Zbn,hlt,Qb_]
    ·rename_i hr0
     obtain ⟨d,y0,hd,hs,hlt,rfl⟩:=YB h
     simp only at hd;subst hd
     simp only[RR,hx,hr0]
     exact gen _ _ _ hx hs hlt
   ·rename_i a hne hx
    obtain ⟨d,y0,hd,hs,hlt,rfl⟩:=YB h
    simp only at hd;subst hd
    unfold RR
    simp only
    split
    ·rename_i l hl
     rw[hx] at hl
     exact (hne l (Qa_ hl)).elim
    ·exact gen _ _ _ hx hs hlt
   ·cases h
 | makeSlice T l c=>
   simp only at h
   split at h
   ·rename_i pl pc hl hc
    obtain ⟨d,y0,hd,hs,hlt,rfl⟩:=YB h
    simp only at hd;subst hd
    simp only[RR,hl,hc]
    unfold Zto at hs
    split at hs
    ·rename_i ty k n k' m hty
     cases hk:Nat.beq ty.kd 3 with
     | false=>rw[hk] at hs;cases hs
     | true=>
       rw[hk] at hs
       simp only[Qb_] at hs
       split at hs
       ·rename_i ety hety
        cases hb:(Nat.beq ety.size 0|| !(Nat.beq ety.zero.length ety.size)) with
        | true=>rw[hb] at hs;cases hs
        | false=>
          rw[hb] at hs
          have:=Qa_ hs;cases this
          have h1:=one hp
          subst h1
          have h2:=hp _ (Qq_ _ (Qv_ ..))
          have h3:=hp _ (Qq_ _ (Qq_ _ (Qv_ ..)))
          have h4:=hp _ (Qq_ _ (Qq_ _ (Qq_ _ (Qv_ ..))))
          rw[Ka_] at hb
          have e3:Nat.ble 16777216 (n.toNat *ety.size)=false:=by
           cases hh:Nat.ble 16777216 (n.toNat *ety.size) with
           | false=>rfl
           | true=>have:=Qm_ hh;omega
          have e4:Nat.ble 16777216 (n.toNat *ety.bytes)=false:=by
           cases hh:Nat.ble 16777216 (n.toNat *ety.bytes) with
           | false=>rfl
           | true=>have:=Qm_ hh;omega
          simp only[Zbn,Zjs,hty,hk,hety,hb.1,hb.2,e3,e4,h2,QD_,QZ_,Qb_,Bool.or_self,Qd_,hlt]
       ·cases hs
    ·cases hs
   ·cases h
 | call c=>
   obtain ⟨callee,args,ats⟩:=c
   cases callee with
   | value f=>
     simp only at h
     obtain ⟨d,y0,hd,hs,hlt,rfl⟩:=YB h
     simp only at hd;subst hd
     simp only[RR]
     have ch:∀g xs,C g xs=some (y0,ps)→CH C g xs=some y0:=by
      intro g xs hg
      unfold CH
      rw[hg]
      simp only[hp,Ku_]
     unfold Ztp at hs
     split at hs
     ·rename_i g0 cs l hf hl
      split at hs
      ·rename_i xs c hh
       split at hs
       ·rename_i r0 q hr0
        cases hb:(!c||flat r0) with
        | false=>rw[hb] at hs;cases hs
        | true=>
          rw[hb] at hs
          have:=Qa_ hs;cases this
          exact YK (os:=[.call 0 [] y0]) (ob:=_) (by simp only[X0,ZcW,hf,hl,hh,ch _ _ hr0]) (by simp only[Zj,hf,hl,hh,hb,Qb_];rfl) rfl hlt rfl
       ·cases hs
      ·cases hs
     ·rename_i g0 bs l hf hl
      split at hs
      ·rename_i xs c cs hh hcs
       split at hs
       ·rename_i r0 q hr0
        cases hb:flat r0 with
        | false=>rw[hb] at hs;cases hs
        | true=>
          rw[hb] at hs
          have:=Qa_ hs;cases this
          exact YK (os:=[.call 0 [] y0]) (ob:=_) (by simp only[X0,ZcW,hf,hl,hh,hcs,ch _ _ hr0]) (by simp only[Zj,hf,hl,hh,hcs,hb,Qb_];rfl) rfl hlt rfl
       ·cases hs
      ·cases hs
     ·cases hs
   | _=>
     obtain ⟨h1,_⟩:=ZeV h
     exact h1
 | _=>
   obtain ⟨h1,_⟩:=ZeV h
   exact h1
theorem ZgK{E:Env}{C:ZJ}:RSub (RSym E C) (RR2 E (CH C)):=fun j τ o r ps h hp=>by
 unfold RR2
 rw[Zub j τ o r ps h hp]
end
def ZkN(Γ:List (Nat×Ty))(σ:St)(T:TypeId)(p x:Operand):Option (St×List Prop):=
 match opd σ p,Zw σ x,lk T Γ with
 | some (.ptr b off),some v,some ty=>match lk b σ.boxes with
   | some cs=>bif Nat.beq v.cells.length ty.size&& !(Nat.beq ty.size 0)&& !(has b σ.ro) then
      match x with
      | .tmp t=>match lkL (.t t) σ.own with
        | some E=>some (Y3 (ZY σ (.t t)) b off v.cells cs [(.b b off,E)],[off+ty.size≤cs.length])
        | none=>some (Y3 σ b off v.cells cs [],[off+ty.size≤cs.length])
      | _=>some (Y3 σ b off v.cells cs [],[off+ty.size≤cs.length])
     else none
   | none=>none
 | _,_,_=>none
theorem Zqq{Γ:List (Nat×Ty)}{σ:St}{T:TypeId}{p x:Operand}{σ':St}{ps:List Prop}(h:ZkN Γ σ T p x=some (σ',ps))(hp:ZX ps):X9 Γ σ T p x=some σ':=by
 unfold ZkN at h
 unfold X9
 split at h
 ·rename_i b off v ty h1 h2 h3
  simp only[h1,h2,h3]
  split at h
  ·rename_i cs h4
   simp only[h4]
   cases hb:(Nat.beq v.cells.length ty.size&& !(Nat.beq ty.size 0)&& !(has b σ.ro)) with
   | false=>rw[hb] at h;cases h
   | true=>
     rw[hb,Qb_] at h
     have key:off+ty.size≤cs.length→(Nat.beq v.cells.length ty.size&&Nat.ble (off+ty.size) cs.length&& !(Nat.beq ty.size 0)&& !(has b σ.ro))=true:=by
      intro hle
      simp only[Qh_] at hb ⊢
      exact ⟨⟨⟨hb.1.1,QF_ hle⟩,hb.1.2⟩,hb.2⟩
     have fin:∀{s0:St},some (s0,[off+ty.size≤cs.length])=some (σ',ps)→off+ty.size≤cs.length∧s0=σ':=by
      intro s0 e
      have e:=Qa_ e
      have e1:=Kj_ Prod.fst e
      have e2:=Kj_ Prod.snd e
      simp only at e1 e2
      subst e2
      exact ⟨hp _ Qv_,e1⟩
     split at h
     ·split at h
      ·rename_i t E h5
       obtain ⟨f1,f2⟩:=fin h
       rw[key f1,Qb_]
       simp only[h5,f2]
      ·rename_i t h5
       obtain ⟨f1,f2⟩:=fin h
       rw[key f1,Qb_]
       simp only[h5,f2]
     ·rename_i hx
      obtain ⟨f1,f2⟩:=fin h
      rw[key f1,Qb_]
      split
      ·rename_i t
       exact absurd rfl (hx t)
      ·rw[f2]
  ·cases h
 ·cases h
def ZgL(E:Env)(σ:St)(o:Oper):Option (Res×List Prop):=
 match o.dst,o.op with
 | some d,.indexAddr T x i=>match lk T E.Γ,opd σ x,Zw σ i with
   | some ty,some (.sl b off n s),some (.v (.int _ m))=>match lk ty.elem E.Γ with
     | some ety=>bif Nat.blt d σ.n&&Nat.beq ty.kd 3&&Nat.beq ety.size s then some (⟨.ptr b (off+m.toNat *s),none,none⟩,[0≤m∧m < n]) else none
     | none=>none
   | _,_,_=>none
 | _,_=>none
theorem Zqr{E:Env}{σ:St}{o:Oper}{r:Res}{ps:List Prop}(h:ZgL E σ o=some (r,ps))(hp:ZX ps):RRA E σ o=some r:=by
 obtain ⟨dst,op,type,pos,after,guard⟩:=o
 unfold ZgL at h
 split at h
 ·rename_i d T x i hd ho
  simp only at hd ho
  subst hd;subst ho
  split at h
  ·rename_i ty b off n s k m h1 h2 h3
   split at h
   ·rename_i ety h4
    cases hb:(Nat.blt d σ.n&&Nat.beq ty.kd 3&&Nat.beq ety.size s) with
    | false=>rw[hb] at h;cases h
    | true=>
      rw[hb] at h
      have h:=Qa_ h
      have e1:=Kj_ Prod.fst h
      have e2:=Kj_ Prod.snd h
      simp only at e1 e2
      subst e2;subst e1
      have hm:=hp _ Qv_
      simp only[Qh_] at hb
      unfold RRA
      simp only[h1,h2,h3,h4,hb.1.1,hb.1.2,hb.2,QH_ hm.1,QH_ hm.2,Qb_,QZ_]
   ·cases h
  ·cases h
 ·cases h
theorem ZvR{E:Env}{call:YU}{j:Nat}{σ:St}{dst:Option Tmp}{T:TypeId}{x i:Operand}{ty':TypeId}{pos:String}{after:Array Edge}{gd:Option (Nat×Bool)}{b off n s:Nat}(h:opd σ x=some (.sl b off n s)):
 RR E call j σ ⟨dst,.indexAddr T x i,ty',pos,after,gd⟩=none:=by
 simp only[RR,RRgen]
 split
 ·rename_i os hos
  have:W7 E.Γ σ ⟨dst,.indexAddr T x i,ty',pos,after,gd⟩ os=none:=by
   unfold W7
   have e:Zj E.Γ σ ⟨dst,.indexAddr T x i,ty',pos,after,gd⟩ os=none:=by
    simp only[Zj,h]
    cases lk T E.Γ with
    | none=>rfl
    | some t=>cases Zw σ i with
      | none=>rfl
      | some y=>
        split
        ·rename_i h1 h2 h3
         cases h2
         split<;>simp_all
        ·rfl
   rw[e]
  rw[this]
 ·rfl
theorem Zqs{E:Env}{call:YU}{j:Nat}{σ:St}{o:Oper}{r:Res}{ps:List Prop}(h:ZgL E σ o=some (r,ps))(hp:ZX ps):RR2 E call j σ o=some r:=by
 have h2:=Zqr h hp
 obtain ⟨dst,op,type,pos,after,guard⟩:=o
 unfold ZgL at h
 split at h
 ·rename_i d T x i hd ho
  simp only at hd ho
  subst hd;subst ho
  split at h
  ·rename_i ty b off n s k m h1 h3 h4
   unfold RR2
   rw[ZvR h3]
   exact h2
  ·cases h
 ·cases h
def Zo1(E:Env)(σ:St)(o:Oper):Option (Res×List Prop):=
 match o.op with
 | .call ⟨.builtin .len,args,_⟩=>match args.toList with
   | [x]=>match opd σ x with
     | some (.sl _ _ _ _)=>match RRA E σ o with
       | some r=>some (r,[])
       | none=>none
     | _=>none
   | _=>none
 | _=>none
theorem Zqt{E:Env}{call:YU}{j:Nat}{σ:St}{o:Oper}{r:Res}{ps:List Prop}(h:Zo1 E σ o=some (r,ps)):RR2 E call j σ o=some r:=by
 obtain ⟨dst,op,type,pos,after,guard⟩:=o
 unfold Zo1 at h
 split at h
 ·rename_i args ats ho
  simp only at ho
  subst ho
  split at h
  ·rename_i x hx
   split at h
   ·rename_i b off n s h1
    split at h
    ·rename_i r' h2
     have h:=Qa_ h
     have e1:=Kj_ Prod.fst h
     simp only at e1
     subst e1
     have hr:RR E call j σ ⟨dst,.call ⟨.builtin .len,args,ats⟩,type,pos,after,guard⟩=none:=by
      have hm:Xt (Zw σ) args.toList=none:=by
       rw[hx]
       simp only[Xt,Zw,h1]
      simp only[RR,RRgen]
      split
      ·rename_i os hos
       have:W7 E.Γ σ ⟨dst,.call ⟨.builtin .len,args,ats⟩,type,pos,after,guard⟩ os=none:=by
        unfold W7
        have e:Zj E.Γ σ ⟨dst,.call ⟨.builtin .len,args,ats⟩,type,pos,after,guard⟩ os=none:=by
         simp only[Zj,hm]
        rw[e]
       rw[this]
      ·rfl
     unfold RR2
     rw[hr]
     exact h2
    ·cases h
   ·cases h
  ·cases h
 ·cases h
def Zo2(E:Env)(C:ZJ)(j:Nat)(σ:St)(o:Oper):Option (Res×List Prop):=
 match ZgL E σ o with
 | some r=>some r
 | none=>match Zo1 E σ o with
   | some r=>some r
   | none=>RSym E C j σ o
def Ztq(σ:St)(p:Operand):Bool:=match opd σ p with
 | some (.ptr b _)=>σ.tmps.any fun (_,v)=>match v with | .sl b' _ _ _=>Nat.beq b' b | _=>false
 | _=>false
theorem Ztr{E:Env}{C:ZJ}:RSub (Zo2 E C) (RR2 E (CH C)):=by
 intro j τ o r ps h hp
 unfold Zo2 at h
 split at h
 ·rename_i q hq
  cases Qa_ h
  exact Zqs hq hp
 ·split at h
  ·rename_i q hq
   cases Qa_ h
   exact Zqt hq
  ·exact ZgK j τ o r ps h hp
variable {P:Program}
def ZhX(P:Program)(f:FuncId)(args:List PV)(E:TypeId)(r:PV):Prop:=
 ∀(hw:Nat→Nat) (w:World) (vals:List Value),(∀k,w.heap.size≤k→hw k=0)→GlobOk hw w→ArgsRep hw w vals args→
  CallRes P f vals.toArray w fun v w'=>∃hw',Qt hw w hw' w'∧Rep hw' w' v r∧OwnV P w.heap.size hw' w' E v
theorem Zuc{hw:Nat→Nat}{w:World}{v:Value}{xs:List (List PV)}{B:Nat}{E:TypeId}{i:TypeInfo}(hi:P.info? E=some i)(h:Rep hw w v (.lst xs))(ho:OwnV P B hw w E v)(hs:Lens i.size xs)(hx:xs≠[])(hflat:∀x∈xs,∀y∈x,flat y=true):
 ∃k cap,v= .slice (some ⟨k,0,none⟩) xs.length cap∧B≤k∧k < w.heap.size∧xs.length≤cap∧∀(β:Nat→Option (Nat×Nat)) (hw':Nat→Nat),BoxOk ⟨β,hw'⟩ w k 0 xs.flatten:=by
 obtain ⟨i',n,xv,e1,hown,_⟩:=ho
 rw[hi] at e1
 cases Qa_ e1
 obtain ⟨hn,hc⟩:=Zaq h hown hs
 subst hn
 rcases hown.2 with ⟨_,h0⟩ | ⟨k,cap,cur,rfl,hB,hb,hcap,_,_,_⟩
 ·exact absurd (QM_ h0) hx
 ·refine ⟨k,cap,rfl,hB,(QL_.1 hb).1,hcap,fun β hw'=>⟨fun j y hj=>?_⟩⟩
  obtain ⟨a,b,x,h4,h5,h6⟩:=Zdc hs hj
  obtain ⟨u,h7,h8,h9⟩:=hc a b x y h4 h5
  refine ⟨u, ?_,h8,hown.frozenAt _,.rep (ZjX (hflat x (Qz_ h4) y (Qz_ h5)) h9)⟩
  have:=hown.cells (g:=k) rfl (a *i.size+b) u h7
  rw[Addr.add_lit] at this
  rw[h6]
  exact this
def ZuG(P:Program)(f:FuncId)(args:List PV)(n:Nat)(cs:List PV):Prop:=
 ∀(hw:Nat→Nat) (w:World) (vals:List Value),(∀k,w.heap.size≤k→hw k=0)→GlobOk hw w→ArgsRep hw w vals args→
  CallRes P f vals.toArray w fun v w'=>∃hw' k cap,Qt hw w hw' w'∧v= .slice (some ⟨k,0,none⟩) n cap∧w.heap.size≤k∧k < w'.heap.size∧n≤cap∧hw' k=0∧∀(β:Nat→Option (Nat×Nat)) (hw2:Nat→Nat),BoxOk ⟨β,hw2⟩ w' k 0 cs
theorem Zud{f:FuncId}{args:List PV}{E:TypeId}{xs:List (List PV)}{i:TypeInfo}(h:ZhX P f args E (.lst xs))(hi:P.info? E=some i)(hs:Lens i.size xs)(hx:xs≠[])(hflat:∀x∈xs,∀y∈x,flat y=true):ZuG P f args xs.length xs.flatten:=by
 intro hw w vals hl hgl ha
 refine (h hw w vals hl hgl ha).mono fun v w' ⟨hw',q,hr,ho⟩=>?_
 obtain ⟨k,cap,h1,h2,h3,h4,h5⟩:=Zuc hi hr ho hs hx hflat
 refine ⟨fun j=>if j=k then 0 else hw' j,k,cap,⟨q.below,fun j hj=>?_,fun j hj=>?_⟩,h1,h2,h3,h4,by simp,h5⟩
 ·show (if j=k then 0 else hw' j)=hw j
  rw[if_neg (by omega)]
  exact q.hw j hj
 ·show (if j=k then 0 else hw' j)=0
  rw[if_neg (by omega)]
  exact q.hwlt j hj
theorem ZmA{B:Nat}{g:G}{σ:St}{a:Act}{w:World}(hI:Inv P B g σ a w){f:FuncId}{vals:List Value}{xs:List PV}{n:Nat}{cs:List PV}(hc:ZuG P f xs n cs)(ha:ArgsRep g.hw w vals xs)
 {d s:Nat} (hd:d < σ.n) (hdb:lk d σ.boxes=none) (hrf:∀y∈cs,YZ y=none):
 CallRes P f vals.toArray w fun v w'=>∃g',Inv P B g' (put {σ with boxes:=(d,cs)::σ.boxes} d (.sl d 0 n s)) (a.put (some d) v) w'∧Fr B g σ w g' (put {σ with boxes:=(d,cs)::σ.boxes} d (.sl d 0 n s)) w':=by
 refine (hc _ w vals hI.hwlt hI.glob.1 ha).mono fun v w' ⟨hw',k,cap,q,hv,h1,h2,h3,h4,h5⟩=>?_
 obtain ⟨i1,f1⟩:=Zc1 hI q
 subst hv
 have hnb:∀b cs base,lk b σ.boxes=some cs→g.β b≠some (k,base):=by
  intro b cs base hb e
  obtain ⟨k',base',e1,e2,_⟩:=hI.box b cs hb
  rw[e] at e1
  cases Qa_ e1
  omega
 have hno:∀l E val,lkL l σ.own=some E→LocIs ⟨g.β,hw'⟩ a w' l val→val.ownBlock≠some k:=by
  intro l E val hl hloc e
  obtain ⟨val0,q1,q2,_⟩:=hI.own l E hl
  have:val0=val:=by
   cases l with
   | t t=>exact q1.symm.trans hloc
   | b b c=>
     obtain ⟨k1,b1,e1,e2⟩:=q1
     obtain ⟨k2,b2,e3,e4⟩:=hloc
     have e3:g.β b=some (k2,b2):=e3
     rw[e1] at e3
     cases Qa_ e3
     obtain ⟨c1,hc1⟩:=hI.ownt _ E hl
     obtain ⟨k3,b3,e5,e6,_⟩:=hI.box b c1 hc1
     rw[e1] at e5
     cases Qa_ e5
     rw[q.cell k1 _ e6] at e4
     exact Qa_ (e2.symm.trans e4)
  subst this
  have:=(ZU q2 k e).1
  omega
 obtain ⟨i2,f2⟩:=Zk4 i1 (s:=s) hd hdb h2 (QT_ hI.base h1) h4 h3 hnb hno (h5 _ _) (fun y hy b' hb'=>by rw[hrf y hy] at hb';cases hb')
 exact ⟨_,i2,f1.trans f2⟩
end Go.Ev
