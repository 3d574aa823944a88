/- A logic of frames, its evaluator for values known in part, and what the functions that the law reaches are shown to do: written for this claim. Part B. -/
import Derived.Test.YtgfgjabeooohhaaGreatDoorStA
import Derived.Laws.StructEq
import Derived.Laws.MakeOwn
import Derived.Laws.Cover2
import Derived.Laws.IdiomStrings
import Derived.Lib.AppendStr
import Derived.ProofKit
import Derived.OpenShut
import Derived.ChangeKeysEq
import Derived.Lib.SlTrimSet
import Derived.Lib.Repeat
import Derived.Lib.ItoaNum
import Derived.Lib.Atoi
import Derived.Lib.Bytealg
import Derived.Laws.StandIn
import Derived.Lib.LaidTab
import Derived.Deep.DeepHandedRow
import Derived.Shelf.Strings.Builder1
set_option linter.all false
set_option maxRecDepth 100000
namespace Go.Ev
open Go.RowKit
def ZkT(m:Nat):Nat→Bool
 | 0=>true
 | i+1=>bit m i&&ZkT m i
def Xm(cls:List Nat):Nat→Nat
 | 0=>0
 | n+1=>bif ZkT (ZZ cls n) n then Xm cls n else n+1
def ZbR:List Oper→Nat→Bool
 | [],_=>true
 | o::r,j=>(deps o).all (fun i=>Nat.blt i j)&&ZbR r (j+1)
def YI:List Oper→List Nat
 | []=>[]
 | o::r=>match o.dst with
   | some d=>d::YI r
   | none=>YI r
def Js:List Oper→List Nat
 | []=>[]
 | o::r=>match o.op with
   | .store _ _ (.tmp t)=>t::Js r
   | _=>Js r
def Zaf:List Nat→Bool
 | []=>true
 | x::r=> !(has x r)&&Zaf r
def ZnL(cls:List Nat)(ws:List (Nat×Nat)):Bool:=
 ws.all fun (s,b)=>ws.all fun (s',b')=> !(Nat.beq b b')|| !(Nat.blt s s')||bit (ZZ cls s') s
def ZnM:List En→List (Nat×AV)→List (Nat×AV)
 | [],l=>l
 | e::r,l=>match e.tm with
   | some x=>x::ZnM r l
   | none=>ZnM r l
def ZkU:List En→List (Nat×List PV)→List (Nat×List PV)
 | [],l=>l
 | e::r,l=>match e.bx with
   | some x=>x::ZkU r l
   | none=>ZkU r l
def ZnN:List En→List (Nat×Loc)→List (Nat×Loc)
 | [],l=>l
 | e::r,l=>match e.ln with
   | some x=>x::ZnN r l
   | none=>ZnN r l
def Zc5(β:St)(A:List En):St:={β with tmps:=ZnM A β.tmps,boxes:=ZkU A β.boxes,al:=ZnN A β.al}
def tails(T:Nat→St→Oper→Option St)(ops:List Oper):List Oper→Nat→St→Option St
 | [],_,σ=>some σ
 | o::r,j,σ=>match Za9 σ ops o with
   | some true=>match T j σ o with
     | some σ1=>tails T ops r (j+1) σ1
     | none=>none
   | some false=>match o.dst with
     | some d=>tails T ops r (j+1) (Zc4 σ d)
     | none=>tails T ops r (j+1) σ
   | none=>none
def Ze8(Γ:List (Nat×Ty))(R:Nat→St→Oper→Option Res)(T:Nat→St→Oper→Option St)(ops:List Oper)(σ:St)(ws:List (Nat×Nat)):Option St:=
 let cls:=Zaq ops []
 let k:=Xm cls ops.length
 let fr:=ops.take k
 let D:=YI fr
 let Src:=Js fr
 bif ZbR ops 0&&Zaf D&&ZnL cls ws then
  match frees Γ R ops cls ws D Src (Zae D Src ws σ) fr 0 [] with
  | some A=>tails T ops (ops.drop k) k (Zc5 (Zae D Src ws σ) A)
  | none=>none
 else none
section
variable {P:Program}{B:Nat}{g:G}{σ β ρ τ:St}{a:Act}{w:World}
theorem ZcY(x y i:Nat):bit (Nat.lor x y) i=(bit x i||bit y i):=Nat.testBit_or x y i
theorem Zfe(i:Nat):bit 0 i=false:=Nat.zero_testBit i
theorem Zre{j i:Nat}(h:bit (Nat.shiftLeft 1 j) i=true):i=j:=by
 have:Nat.testBit (1 <<< j) i=true:=h
 rw[Nat.testBit_shiftLeft] at this
 simp only[Qh_,Qc_] at this
 obtain ⟨h1,h2⟩:=this
 have:=Nat.testBit_one_eq_true_iff_self_eq_zero.1 h2
 omega
theorem ZnO{acc:List Nat}{i:Nat}:∀{ds:List Nat},bit (ZkS acc ds) i=true→∃d∈ds,i=d∨bit (ZZ acc d) i=true
 | [],h=>by rw[show ZkS acc []=0 from rfl,Zfe] at h;cases h
 | d::r,h=>by
   unfold ZkS at h
   rw[ZcY,ZcY,Ko_,Ko_] at h
   rcases h with (h | h) | h
   ·exact ⟨d,by simp,.inl (Zre h)⟩
   ·exact ⟨d,by simp,.inr h⟩
   ·obtain ⟨d',h1,h2⟩:=ZnO h
    exact ⟨d',Qq_ _ h1,h2⟩
theorem Zih(x:Nat):∀(acc:List Nat) (i:Nat),ZZ (acc++[x]) i=if i < acc.length then ZZ acc i else if i=acc.length then x else 0
 | [],0=>rfl
 | [],i+1=>by simp[ZZ]
 | y::r,0=>by simp[ZZ]
 | y::r,i+1=>by simp[ZZ,Zih x r i]
theorem Zrf:∀(acc:List Nat) (i:Nat),acc.length≤i→ZZ acc i=0
 | [],_,_=>rfl
 | _::r,0,h=>by simp at h
 | _::r,i+1,h=>Zrf r i (by simpa using h)
theorem Zju{S:Nat→Prop}{ops:List Oper}(hS:∀j o,ops[j]?=some o→S j→∀i∈deps o,S i):∀(l:List Oper) (acc:List Nat) (pre:List Oper),ops=pre++l→acc.length=pre.length→
 (∀j o,pre[j]?=some o→(∀i∈deps o,S i)→∀i,bit (ZZ acc j) i=true→S i)→∀j o,ops[j]?=some o→(∀i∈deps o,S i)→∀i,bit (ZZ (Zaq l acc) j) i=true→S i
 | [],acc,pre,he,_,hp,j,o,ho,hd,i,hi=>hp j o (by simpa [he] using ho) hd i hi
 | o0::l,acc,pre,he,hl,hp,j,o,ho,hd,i,hi=>by
   refine Zju hS l (acc++[ZkS acc (deps o0)]) (pre++[o0]) (by simp[he]) (by simp[hl]) (fun j' o' ho' hd' i' hi'=>?_) j o ho hd i hi
   rw[Zih] at hi'
   split at hi'
   ·rename_i hlt
    rw[QV_ (by omega)] at ho'
    exact hp j' o' ho' hd' i' hi'
   ·split at hi'
    ·rename_i _ e
     have:(pre++[o0])[j']?=some o0:=by rw[e,hl];simp
     rw[this] at ho'
     have:=Qa_ ho'
     subst this
     obtain ⟨d,h1,h2⟩:=ZnO hi'
     have hSd:=hd' d h1
     rcases h2 with rfl | h2
     ·exact hSd
     ·by_cases hdl:d < acc.length
      ·have hpd:pre[d]?=some pre[d]:=Qg_ (by omega)
       exact hp d _ hpd (hS d pre[d] (by rw[he,QV_ (by omega)];exact hpd) hSd) i' h2
      ·rw[Zrf _ _ (by omega),Zfe] at h2
       cases h2
    ·rw[Zfe] at hi';cases hi'
theorem ZnP{m:Nat}:∀{j:Nat},ZkT m j=true→∀i,i < j→bit m i=true
 | 0,_,i,h=>by omega
 | j+1,h,i,hi=>by
   unfold ZkT at h
   rw[Qh_] at h
   by_cases e:i=j
   ·rw[e];exact h.1
   ·exact ZnP h.2 i (by omega)
theorem Zii{cls:List Nat}:∀{n:Nat},Xm cls n≤n
 | 0=>Q2_ _
 | n+1=>by
   unfold Xm
   cases ZkT (ZZ cls n) n with
   | true=>exact Nat.le_succ_of_le Zii
   | false=>exact Q2_ _
theorem ZaR{cls:List Nat}:∀{n:Nat},∀j,Xm cls n≤j→j < n→∀i,i < j→bit (ZZ cls j) i=true
 | 0,j,_,h=>by omega
 | n+1,j,hk,hj=>by
   unfold Xm at hk
   cases hb:ZkT (ZZ cls n) n with
   | true=>
     rw[hb] at hk
     by_cases e:j=n
     ·subst e;exact ZnP hb
     ·exact ZaR j hk (by omega)
   | false=>
     rw[hb] at hk
     simp only[Qd_] at hk
     omega
theorem Zjv:∀{l:List Oper} {k:Nat},ZbR l k=true→∀j o,l[j]?=some o→∀i∈deps o,i < k+j
 | [],_,_,j,o,h=>by simp at h
 | o0::r,k,h,j,o,ho=>by
   unfold ZbR at h
   rw[Qh_] at h
   cases j with
   | zero=>
     simp at ho
     subst ho
     intro i hi
     exact Qm_ (QK_.1 h.1 i hi)
   | succ j=>
     intro i hi
     have:=Zjv h.2 j o (by simpa using ho) i hi
     omega
theorem Zff{d:Nat}:∀{l:List Oper} {j:Nat} {o:Oper},l[j]?=some o→o.dst=some d→d∈YI l
 | [],j,o,h,_=>by simp at h
 | o0::r,j,o,h,hd=>by
   unfold YI
   cases j with
   | zero=>
     simp at h
     subst h
     rw[hd]
     simp
   | succ j=>
     have:=Zff (l:=r) (j:=j) (by simpa using h) hd
     split
     ·exact Qq_ _ this
     ·exact this
theorem ZnQ{d:Nat}:∀{l:List Oper},Zaf (YI l)=true→∀{i j:Nat} {o o':Oper},l[i]?=some o→l[j]?=some o'→o.dst=some d→o'.dst=some d→i=j
 | [],_,i,j,o,o',h,_,_,_=>by simp at h
 | o0::r,hn,i,j,o,o',h,h',hd,hd'=>by
   unfold YI at hn
   have tl:Zaf (YI r)=true:=by
    split at hn
    ·unfold Zaf at hn;rw[Qh_] at hn;exact hn.2
    ·exact hn
   have hd0:o0.dst=some d→d∉YI r:=by
    intro e hm
    rw[e] at hn
    simp only[Zaf,Qh_,Qi_] at hn
    rw[YW.2 hm] at hn
    exact absurd hn.1 (by simp)
   cases i with
   | zero=>
     cases j with
     | zero=>rfl
     | succ j=>
       simp at h
       subst h
       exact absurd (Zff (l:=r) (j:=j) (by simpa using h') hd') (hd0 hd)
   | succ i=>
     cases j with
     | zero=>
       simp at h'
       subst h'
       exact absurd (Zff (l:=r) (j:=i) (by simpa using h) hd) (hd0 hd')
     | succ j=>
       have e:i=j:=ZnQ tl (by simpa using h) (by simpa using h') hd hd'
       rw[e]
theorem ZlP{Γ:List (Nat×Ty)}{R:Nat→St→Oper→Option Res}{ops:List Oper}{cls:List Nat}{ws:List (Nat×Nat)}{D Src:List Nat}{A:List En}{j:Nat}{o:Oper}{e:En}
 (h:ZaQ Γ R ops cls ws D Src β A j o=some e):e.i=j∧(∀t v,e.tm=some (t,v)→o.dst=some t)∧(∀t l,e.ln=some (t,l)→o.dst=some t∧YR D ws l=true)∧∀b cs,e.bx=some (b,cs)→(j,b)∈ws:=by
 have lnok:∀{d:Nat} {x:Option Loc} {t:Nat} {l:Loc},JY D ws d x=some (t,l)→t=d∧YR D ws l=true:=by
  intro d x t l hl
  cases x with
  | none=>exact absurd hl (by simp[JY])
  | some l'=>
    simp only[JY] at hl
    cases hk:YR D ws l' with
    | false=>rw[hk] at hl;cases hl
    | true=>
      rw[hk] at hl
      have:=Qa_ hl
      cases this
      exact ⟨rfl,hk⟩
 have nil:(⟨j,none,none,none⟩:En).i=j∧(∀t v,(⟨j,none,none,none⟩:En).tm=some (t,v)→o.dst=some t)∧(∀t l,(⟨j,none,none,none⟩:En).ln=some (t,l)→o.dst=some t∧YR D ws l=true)∧∀b cs,(⟨j,none,none,none⟩:En).bx=some (b,cs)→(j,b)∈ws:=
  ⟨rfl,fun _ _ h=>absurd h (by simp),fun _ _ h=>absurd h (by simp),fun _ _ h=>absurd h (by simp)⟩
 unfold ZaQ at h
 simp only at h
 split at h
 ·cases h
 ·have:=Qa_ h
  subst this
  refine ⟨rfl,fun t v hv=>?_,fun _ _ h=>absurd h (by simp),fun _ _ h=>absurd h (by simp)⟩
  cases hd:o.dst with
  | none=>rw[hd] at hv;exact absurd hv (by simp[skE])
  | some d=>
    rw[hd] at hv
    simp only[skE] at hv
    revert hv
    cases Nat.blt d (tau ws cls A β j (ZZ cls j) (ZcO ops o)).n with
    | false=>exact fun hv=>absurd hv (by simp)
    | true=>exact fun hv=>by cases Qa_ hv;rfl
 ·split at h
  ·split at h
   ·split at h
    ·rename_i b cs l hbx
     cases hb:(JX j b ws&&Zjr Src _) with
     | false=>rw[hb] at h;cases h
     | true=>
       rw[hb] at h
       have:=Qa_ h
       subst this
       rw[Qh_] at hb
       exact ⟨rfl,fun _ _ h=>absurd h (by simp),fun _ _ h=>absurd h (by simp),fun b' cs' h'=>by have:=Qa_ h';cases this;exact Zbv.1 hb.1⟩
    ·cases h
   ·cases h
  ·rename_i d hd
   split at h
   ·rename_i r hr
    split at h
    ·have:=Qa_ h
     subst this
     exact ⟨rfl,fun t v ht=>by have:=Qa_ ht;cases this;exact hd,fun t l hl=>by obtain ⟨rfl,h2⟩:=lnok hl;exact ⟨hd,h2⟩,fun _ _ h=>absurd h (by simp)⟩
    ·rename_i cs hbx
     cases hb:(JX j d ws&&Yf (lk d β.boxes)&&ws.all (fun (s,b)=> !(Nat.beq b d)||Nat.ble j s)) with
     | false=>rw[hb] at h;cases h
     | true=>
       rw[hb] at h
       have:=Qa_ h
       subst this
       simp only[Qh_] at hb
       exact ⟨rfl,fun t v ht=>by have:=Qa_ ht;cases this;exact hd,fun t l hl=>by obtain ⟨rfl,h2⟩:=lnok hl;exact ⟨hd,h2⟩,fun b' cs' h'=>by have:=Qa_ h';cases this;exact Zbv.1 hb.1.1⟩
   ·cases h
  ·split at h
   ·rename_i r hr
    cases hb:Yf r.box with
    | false=>rw[hb] at h;cases h
    | true=>rw[hb] at h;have:=Qa_ h;subst this;exact nil
   ·cases h
theorem ZlQ{Γ:List (Nat×Ty)}{R:Nat→St→Oper→Option Res}{ops:List Oper}{cls:List Nat}{ws:List (Nat×Nat)}{D Src:List Nat}:∀{l:List Oper} {j0:Nat} {A0 A:List En},frees Γ R ops cls ws D Src β l j0 A0=some A→
 Desc A0→(∀e∈A0,e.i < j0)→Desc A∧(∀e∈A0,e∈A)∧(∀e∈A,e∈A0∨(j0≤e.i∧∃o,l[e.i - j0]?=some o))∧
  ∀j o,l[j]?=some o→∃e∈A,e.i=j0+j∧∃A',ZaQ Γ R ops cls ws D Src β A' (j0+j) o=some e∧Desc A'∧(∀e'∈A',e'∈A)∧∀e'∈A,e'.i < j0+j→e'∈A'
 | [],j0,A0,A,h,hd,hi=>by
   have:=Qa_ h
   subst this
   exact ⟨hd,fun _ h=>h,fun e he=> .inl he,fun j o h=>by simp at h⟩
 | o::r,j0,A0,A,h,hd,hi=>by
   unfold frees at h
   split at h
   ·rename_i e he
    have hej:=(ZlP he).1
    obtain ⟨h1,h2,h3,h4⟩:=ZlQ h (A0:=e::A0) ⟨fun e' he'=>by rw[hej];exact hi e' he',hd⟩ (fun e' he'=>by
     rcases Q9_.1 he' with rfl | he'
     ·omega
     ·have:=hi e' he';omega)
    refine ⟨h1,fun e' he'=>h2 e' (Qq_ _ he'),fun e' he'=>?_,fun j o' ho'=>?_⟩
    ·rcases h3 e' he' with h5 | ⟨h5,o2,h6⟩
     ·rcases Q9_.1 h5 with rfl | h5
      ·exact .inr ⟨by omega,o,by simp[hej]⟩
      ·exact .inl h5
     ·refine .inr ⟨by omega,o2, ?_⟩
      rw[show e'.i - j0=(e'.i - (j0+1))+1 by omega]
      simpa using h6
    ·cases j with
     | zero=>
       simp at ho'
       subst ho'
       refine ⟨e,h2 e (by simp),hej,A0,he,hd,fun e' he'=>h2 e' (Qq_ _ he'),fun e' he' hlt=>?_⟩
       rcases h3 e' he' with h5 | ⟨h5,_⟩
       ·rcases Q9_.1 h5 with rfl | h5
        ·omega
        ·exact h5
       ·omega
     | succ j=>
       obtain ⟨e2,q1,q2,A',q3,q4,q5,q6⟩:=h4 j o' (by simpa using ho')
       have ee:j0+1+j=j0+(j+1):=by omega
       rw[ee] at q2 q3 q6
       exact ⟨e2,q1,q2,A',q3,q4,q5,q6⟩
   ·cases h
theorem Desc.uniq:∀{A:List En},Desc A→∀{e e':En},e∈A→e'∈A→e.i=e'.i→e=e'
 | [],_,e,e',h,_,_=>by simp at h
 | x::r,hd,e,e',h,h',hi=>by
   rcases Q9_.1 h with h1 | h1
   ·rcases Q9_.1 h' with h2 | h2
    ·rw[h1,h2]
    ·have:=hd.1 e' h2;rw[h1] at hi;omega
   ·rcases Q9_.1 h' with h2 | h2
    ·have:=hd.1 e h1;rw[h2] at hi;omega
    ·exact hd.2.uniq h1 h2 hi
theorem ZwP{A:List En}{l:List (Nat×AV)}{t:Nat}{v:AV}(h:lk t (ZnM A l)=some v):(∃e∈A,e.tm=some (t,v))∨lk t l=some v:=by
 induction A with
 | nil=>exact .inr h
 | cons e r ih=>
   unfold ZnM at h
   split at h
   ·rename_i x hx
    obtain ⟨t',v'⟩:=x
    rw[Zn] at h
    split at h
    ·rename_i e1
     have:=Qa_ h
     subst this;subst e1
     exact .inl ⟨e,by simp,hx⟩
    ·rcases ih h with ⟨e',h1,h2⟩ | h1
     ·exact .inl ⟨e',Qq_ _ h1,h2⟩
     ·exact .inr h1
   ·rcases ih h with ⟨e',h1,h2⟩ | h1
    ·exact .inl ⟨e',Qq_ _ h1,h2⟩
    ·exact .inr h1
theorem ZwQ{A:List En}{l:List (Nat×Loc)}{x:Nat×Loc}(h:x∈ZnN A l):(∃e∈A,e.ln=some x)∨x∈l:=by
 induction A with
 | nil=>exact .inr h
 | cons e r ih=>
   unfold ZnN at h
   split at h
   ·rename_i y hy
    rcases Q9_.1 h with rfl | h
    ·exact .inl ⟨e,by simp,hy⟩
    ·rcases ih h with ⟨e',h1,h2⟩ | h1
     ·exact .inl ⟨e',Qq_ _ h1,h2⟩
     ·exact .inr h1
   ·rcases ih h with ⟨e',h1,h2⟩ | h1
    ·exact .inl ⟨e',Qq_ _ h1,h2⟩
    ·exact .inr h1
theorem ZwR{A:List En}{l:List (Nat×List PV)}{b:Nat}(hd:Desc A):(∃e∈A,∃cs,e.bx=some (b,cs)∧lk b (ZkU A l)=some cs∧∀e'∈A,∀cs',e'.bx=some (b,cs')→e'.i≤e.i)∨((∀e∈A,∀cs,e.bx≠some (b,cs))∧lk b (ZkU A l)=lk b l):=by
 induction A with
 | nil=>exact .inr ⟨fun e he=>by simp at he,rfl⟩
 | cons e r ih=>
   unfold ZkU
   split
   ·rename_i x hx
    obtain ⟨b',cs⟩:=x
    by_cases e1:b=b'
    ·subst e1
     refine .inl ⟨e,by simp,cs,hx,by rw[Zn,if_pos rfl],fun e' he' cs' _=>?_⟩
     rcases Q9_.1 he' with rfl | he'
     ·exact Q2_ _
     ·exact Nat.le_of_lt (hd.1 e' he')
    ·rw[Zn,if_neg e1]
     rcases ih hd.2 with ⟨e',h1,cs',h2,h3,h4⟩ | ⟨h1,h2⟩
     ·refine .inl ⟨e',Qq_ _ h1,cs',h2,h3,fun e2 he2 cs2 hb2=>?_⟩
      rcases Q9_.1 he2 with rfl | he2
      ·rw[hx] at hb2;have:=Qa_ hb2;cases this;exact absurd rfl e1
      ·exact h4 e2 he2 cs2 hb2
     ·refine .inr ⟨fun e2 he2 cs2 hb2=>?_,h2⟩
      rcases Q9_.1 he2 with rfl | he2
      ·rw[hx] at hb2;have:=Qa_ hb2;cases this;exact absurd rfl e1
      ·exact h1 e2 he2 cs2 hb2
   ·rename_i hx
    rcases ih hd.2 with ⟨e',h1,cs',h2,h3,h4⟩ | ⟨h1,h2⟩
    ·refine .inl ⟨e',Qq_ _ h1,cs',h2,h3,fun e2 he2 cs2 hb2=>?_⟩
     rcases Q9_.1 he2 with rfl | he2
     ·rw[hx] at hb2;cases hb2
     ·exact h4 e2 he2 cs2 hb2
    ·refine .inr ⟨fun e2 he2 cs2 hb2=>?_,h2⟩
     rcases Q9_.1 he2 with rfl | he2
     ·rw[hx] at hb2;cases hb2
     ·exact h1 e2 he2 cs2 hb2
theorem Zrg{A:List En}{S:Nat→Prop}(hR:RI β A S ρ)(hS:∀e∈A,S e.i)(hd:Desc A)(hI:Inv P B g ρ a w):Sub (Zc5 β A) ρ:=by
 have bxs:∀b,lk b (Zc5 β A).boxes=lk b ρ.boxes:=by
  intro b
  rcases ZwR (A:=A) (l:=β.boxes) (b:=b) hd with ⟨e,h1,cs,h2,h3,h4⟩ | ⟨h1,h2⟩
  ·rw[hR.bx e h1 (hS e h1) b cs h2 (fun e' he' cs' hcs' _=>h4 e' he' cs' hcs')]
   exact h3
  ·rw[hR.bx0 b (fun e he cs hcs=>absurd hcs (h1 e he cs))]
   exact h2
 have tms:∀t v,lk t (Zc5 β A).tmps=some v→lk t ρ.tmps=some v:=by
  intro t v h
  rcases ZwP h with ⟨e,h1,h2⟩ | h1
  ·exact hR.tm e h1 (hS e h1) t v h2
  ·exact hR.tm0 t v h1
 have als:∀t l,(t,l)∈(Zc5 β A).al→(t,l)∈ρ.al:=by
  intro t l h
  rcases ZwQ h with ⟨e,h1,h2⟩ | h1
  ·exact hR.ln e h1 (hS e h1) t l h2
  ·exact hR.al0 t l h1
 exact ⟨hR.n,tms,fun b cs h=>by rw[←bxs];exact h,fun b hb=>by rw[←hR.ro] at hb;exact hb,fun t b off h=>by rw[bxs];exact hI.ptr t b off (tms _ _ h),fun t f bs h b hb=>by rw[bxs];exact hI.fnp t f bs (tms _ _ h) b hb,hR.own0,
  fun b c E h=>by rw[bxs];exact hI.ownt (.b b c) E (hR.own0 _ _ h),als,fun t b c h=>by rw[bxs];exact hI.alt t b c (als _ _ h),fun t b off n s h=>by rw[bxs];exact hI.sl t b off n s (tms _ _ h),fun b cs h y hy b' hb'=>by rw[bxs] at h ⊢;exact hI.ref b cs h y hy b' hb'⟩
theorem ZwS{D Src:List Nat}{ws:List (Nat×Nat)}{A:List En}:RI (Zae D Src ws σ) A (fun _=>False) σ:=
 ⟨rfl,rfl,fun _ _ h=>h.elim,fun t v h=>by
   rw[show (Zae D Src ws σ).tmps=σ.tmps.filter fun (t,_)=> !(has t D) from rfl,ZbO (fun t=> !(has t D))] at h
   split at h
   ·exact h
   ·exact absurd h (by simp),fun _ _ h=>h.elim,fun _ _=>rfl,fun _ _ h=>h.elim,fun t l h=>(QY_.1 h).1,fun l E h=>by
   rw[show (Zae D Src ws σ).own=σ.own.filter fun (l,_)=>YR D ws l&&YR Src [] l from rfl,Yb (fun l=>YR D ws l&&YR Src [] l)] at h
   split at h
   ·exact h
   ·cases h⟩
end
section
variable {P:Program}{B:Nat}{g:G}{σ β ρ τ:St}{a:Act}{w:World}
def L(listed:Array Bool)(i:Nat):Prop:=listed.getD i false=true
theorem Zc6{listed:Array Bool}{j:Nat}(hj:j < listed.size)(i:Nat):L (listed.setIfInBounds j true) i↔L listed i∨i=j:=by
 unfold L
 rw[QA_,QA_,K5_]
 by_cases e:j=i
 ·subst e;simp[hj]
 ·simp[e,Ne.symm e]
theorem ZyC{listed:Array Bool}{j:Nat}(h:listed.getD j true=false):¬L listed j∧j < listed.size:=by
 have hlt:j < listed.size:=by
  rcases Kh_ j listed.size with h1 | h1
  ·exact h1
  ·rw[QA_,Array.getElem?_eq_none h1] at h;simp at h
 refine ⟨fun hl=>?_,hlt⟩
 unfold L at hl
 rw[QA_,QC_ hlt] at h hl
 simp at h hl
 rw[h] at hl
 cases hl
theorem ZnR{listed:Array Bool}{j:Nat}(h:¬L listed j)(hlt:j < listed.size):listed.getD j true=false:=by
 unfold L at h
 rw[QA_,QC_ hlt] at *
 simpa using h
noncomputable def cnt(listed:Array Bool):Nat→Nat
 | 0=>0
 | i+1=>cnt listed i+(if listed.getD i false=true then 0 else 1)
theorem ZuC(listed:Array Bool):∀k,cnt listed k≤k
 | 0=>Q2_ _
 | k+1=>by have:=ZuC listed k;unfold cnt;split<;>omega
theorem Zbw{listed:Array Bool}:∀{k},cnt listed k=0→∀i,i < k→L listed i
 | 0,_,i,h=>by omega
 | k+1,h,i,hi=>by
   unfold cnt at h
   split at h
   ·by_cases e:i=k
    ·subst e;assumption
    ·exact Zbw (by omega) i (by omega)
   ·omega
theorem Zrh{listed:Array Bool}:∀{k},cnt listed k≠0→∃i,i < k∧¬L listed i∧∀m,m < i→L listed m
 | 0,h=>absurd rfl h
 | k+1,h=>by
   by_cases e:cnt listed k=0
   ·refine ⟨k,by omega,fun hl=>?_,Zbw e⟩
    unfold cnt at h
    have hl':listed.getD k false=true:=hl
    rw[e,if_pos hl'] at h
    exact h rfl
   ·obtain ⟨i,h1,h2,h3⟩:=Zrh e
    exact ⟨i,by omega,h2,h3⟩
theorem Zjw{listed:Array Bool}{j:Nat}(hj:j < listed.size):∀{k},k≤j→cnt (listed.setIfInBounds j true) k=cnt listed k
 | 0,_=>rfl
 | k+1,h=>by
   have e:((listed.setIfInBounds j true).getD k false=true)=(listed.getD k false=true):=propext (by
    have:=Zc6 hj k
    unfold L at this
    rw[this]
    exact ⟨fun h=>h.resolve_right (by omega),.inl⟩)
   unfold cnt
   rw[Zjw hj (by omega)]
   simp only[e]
theorem Zri{listed:Array Bool}{j:Nat}(hj:j < listed.size)(hn:¬L listed j):∀{k},j < k→cnt (listed.setIfInBounds j true) k+1=cnt listed k
 | 0,h=>by omega
 | k+1,h=>by
   unfold cnt
   by_cases e:j=k
   ·subst e
    have h1:(listed.setIfInBounds j true).getD j false=true:=(Zc6 hj j).2 (.inr rfl)
    have h2:¬listed.getD j false=true:=hn
    rw[Zjw hj (Q2_ _),if_pos h1,if_neg h2]
   ·have e2:((listed.setIfInBounds j true).getD k false=true)=(listed.getD k false=true):=propext (by
     have:=Zc6 hj k
     unfold L at this
     rw[this]
     exact ⟨fun h=>h.resolve_right (Ne.symm e),.inl⟩)
    have:=Zri hj hn (k:=k) (by omega)
    simp only[e2]
    omega
theorem Zij{T:Nat→St→Oper→Option St}(hT:∀j σ o σ',T j σ o=some σ'→∀B g a w,Inv P B g σ a w→Goes P B g σ a w o σ'){ops:Array Oper}{k:Nat}
 (hdeps:∀j o,ops.toList[j]?=some o→∀i∈deps o,i < j) (hfull:∀j,k≤j→j < ops.size→∀{listed:Array Bool},(∀o,ops[j]?=some o→∀e∈o.after,Region.binds .any e=true→L listed e.on)→(∀s,L listed s→∀o,ops.toList[s]?=some o→∀i∈deps o,L listed i)→∀i,i < j→L listed i)
 {Q:Exit→Act→World→Prop} {σ':St}:∀(fuel m:Nat) (listed:Array Bool) (σ:St) (g:G) (a:Act) (w:World),Inv P B g σ a w→listed.size=ops.size→k≤m→m≤ops.size→(∀i,L listed i↔i < m)→ops.size - m≤fuel→tails T ops.toList (ops.toList.drop m) m σ=some σ'→
 (∀a' w',Post P B g σ w σ' a' w'→Q .normal a' w')→wpAny P .any ops Q fuel listed a w:=by
 have nord:∀(m:Nat) (listed:Array Bool),k≤m→m≤ops.size→(∀i,L listed i↔i < m)→∀j,j∈Region.ready .any ops listed→j=m∧m < ops.size:=by
  intro m listed hkm hmn hL j hj
  obtain ⟨h1,o,h2,h3⟩:=mem_ready.1 hj
  obtain ⟨h4,_⟩:=ZyC h1
  have hjm:¬j < m:=fun h=>h4 ((hL j).2 h)
  have hjn:j < ops.size:=(QL_.1 h2).1
  by_cases e:j=m
  ·exact ⟨e,by omega⟩
  ·have:=hfull j (by omega) hjn (listed:=listed) (fun o' ho' e he hb=>by rw[h2] at ho';cases ho';exact h3 e he hb)
    (fun s hs o' ho' i hi=>(hL i).2 (by have:=hdeps s o' ho' i hi;have:=(hL s).1 hs;omega)) m (by omega)
   have:=(hL m).1 this
   omega
 have rdy:∀(m:Nat) (listed:Array Bool),listed.size=ops.size→m < ops.size→(∀i,L listed i↔i < m)→m∈Region.ready .any ops listed:=by
  intro m listed hsz hm hL
  have ho:ops[m]?=some ops[m]:=QC_ hm
  refine mem_ready.2 ⟨ZnR (fun h=>by have:=(hL m).1 h;omega) (by omega),ops[m],ho,fun e he hb=>(hL e.on).2 ?_⟩
  refine hdeps m ops[m] (by rw[QX_];exact ho) e.on ?_
  unfold deps
  exact Ku_.2 ⟨e,QY_.2 ⟨by simpa using he,hb⟩,rfl⟩
 intro fuel
 induction fuel with
 | zero=>
   intro m listed σ g a w hI hsz hkm hmn hL hf ht hQ
   have:m=ops.size:=by omega
   subst this
   refine ⟨List.eq_nil_iff_forall_not_mem.2 fun j hj=>?_, ?_⟩
   ·have:=(nord _ listed hkm hmn hL j hj).2;omega
   ·rw[Q0_ (by simp)] at ht
    have:=Qa_ ht
    subst this
    exact hQ a w ⟨g,hI,Fr.refl⟩
 | succ fuel ih=>
   intro m listed σ g a w hI hsz hkm hmn hL hf ht hQ
   by_cases hm:m < ops.size
   ·refine ⟨fun hnil=>?_,fun j hj=>?_⟩
    ·have:=rdy m listed hsz hm hL
     rw[hnil] at this
     cases this
    ·obtain ⟨rfl,_⟩:=nord m listed hkm hmn hL j hj
     have ho:ops[j]?=some ops[j]:=QC_ hm
     have hdrop:ops.toList.drop j=ops[j]::ops.toList.drop (j+1):=by
      rw[Ky_ (by simpa using hm)]
      simp
     rw[hdrop] at ht
     have next:∀(σ1:St) (g1:G) (a1:Act) (w1:World),Inv P B g1 σ1 a1 w1→Fr B g σ w g1 σ1 w1→tails T ops.toList (ops.toList.drop (j+1)) (j+1) σ1=some σ'→wpAny P .any ops Q fuel (listed.setIfInBounds j true) a1 w1:=by
      intro σ1 g1 a1 w1 i1 f1 h1
      refine ih (j+1) _ σ1 g1 a1 w1 i1 (by simp[hsz]) (by omega) (by omega) (fun i=>?_) (by omega) h1 (fun a' w' hp=>hQ a' w' (hp.trans f1))
      rw[Zc6 (by omega),hL i]
      omega
     unfold wpOp
     rw[ho]
     simp only
     unfold tails at ht
     split at ht
     ·rename_i hg
      split at ht
      ·rename_i σ1 h1
       rw[Jd hI hg,if_pos rfl]
       exact .inl ((hT _ _ _ _ h1 B g a w hI).wp fun v w1 ⟨g1,i1,f1⟩=>next σ1 g1 _ w1 i1 f1 ht)
      ·cases ht
     ·rename_i hg
      rw[Jd hI hg,if_neg (by simp)]
      split at ht
      ·rename_i d hd
       rw[hd]
       exact next _ g _ w (Zgf hI d) (Ziw d) ht
      ·rename_i hd
       rw[hd]
       exact next _ g _ w hI Fr.refl ht
     ·cases ht
   ·have:m=ops.size:=by omega
    subst this
    refine ⟨fun _=>?_,fun j hj=>?_⟩
    ·rw[Q0_ (by simp)] at ht
     have:=Qa_ ht
     subst this
     exact hQ a w ⟨g,hI,Fr.refl⟩
    ·have:=(nord _ listed hkm hmn hL j hj).2;omega
theorem ZnS{Γ:List (Nat×Ty)}(hΓ:Ye P Γ)(hm:P.follows .mixedOrders=true){R:Nat→St→Oper→Option Res}(hR:∀j τ o r,R j τ o=some r→XU P τ o r)
 {T:Nat→St→Oper→Option St} (hT:∀j σ o σ',T j σ o=some σ'→∀B g a w,Inv P B g σ a w→Goes P B g σ a w o σ') {ops:Array Oper} {ws:List (Nat×Nat)} {σ':St} (h:Ze8 Γ R T ops.toList σ ws=some σ') {id:Nat}:Tri P (.region id ops true) σ .normal σ':=by
 intro B g a w hI
 refine wp_region_any hm ?_
 have hq:Qt g.hw w g.hw {w with drawn:=w.drawn+1}:=⟨⟨rfl,rfl,rfl,Q2_ _,fun _ _=>rfl⟩,fun _ _=>rfl,hI.hwlt⟩
 obtain ⟨hI0,hF0⟩:=Ze4 hI hq
 generalize ({w with drawn:=w.drawn+1}:World)=w0 at *
 unfold Ze8 at h
 simp only at h
 generalize hclsd:Zaq ops.toList []=cls at *
 generalize hk:Xm cls ops.toList.length=k at *
 cases hb:(ZbR ops.toList 0&&Zaf (YI (ops.toList.take k))&&ZnL cls ws) with
 | false=>rw[hb] at h;cases h
 | true=>
   rw[hb] at h
   simp only[Qb_] at h
   simp only[Qh_] at hb
   obtain ⟨⟨hb1,hb2⟩,hb3⟩:=hb
   have hkn:k≤ops.size:=by rw[←hk];have:=Zii (cls:=cls) (n:=ops.toList.length);simpa using this
   have hdeps:∀j o,ops.toList[j]?=some o→∀i∈deps o,i < j:=fun j o ho i hi=>by have:=Zjv hb1 j o ho i hi;omega
   have spec:∀{S:Nat→Prop},(∀j o,ops.toList[j]?=some o→S j→∀i∈deps o,S i)→∀j o,ops.toList[j]?=some o→(∀i∈deps o,S i)→∀i,bit (ZZ cls j) i=true→S i:=by
    intro S hS j o ho hd i hi
    rw[←hclsd] at hi
    exact Zju hS ops.toList [] [] rfl rfl (fun j o ho=>by simp at ho) j o ho hd i hi
   have hlow:∀j o,ops.toList[j]?=some o→∀i,bit (ZZ cls j) i=true→i < j:=fun j o ho i hi=>
    spec (S:=fun i=>i < j) (fun j' o' ho' hj' i' hi'=>by have:=hdeps j' o' ho' i' hi';omega) j o ho (hdeps j o ho) i hi
   have mdep:∀{o:Oper} {i:Nat},i∈deps o→∃e∈o.after,Region.binds .any e=true∧e.on=i:=by
    intro o i hi
    unfold deps at hi
    obtain ⟨e,he,rfl⟩:=Ku_.1 hi
    obtain ⟨h1,h2⟩:=QY_.1 he
    exact ⟨e,by simpa using h1,h2,rfl⟩
   have hord:∀s s' b,(s,b)∈ws→(s',b)∈ws→s < s'→bit (ZZ cls s') s=true:=by
    intro s s' b h1 h2 hlt
    have:=QK_.1 (QK_.1 hb3 _ h1) _ h2
    simp only[Ko_,Qi_] at this
    rcases this with (h3 | h3) | h3
    ·simp at h3
    ·have:Nat.blt s s'=true:=QF_ hlt
     rw[this] at h3;cases h3
    ·exact h3
   split at h
   ·rename_i A hA
    generalize hβ:Zae (YI (ops.toList.take k)) (Js (ops.toList.take k)) ws σ=β at *
    obtain ⟨hdesc,_,hA3,hA4⟩:=ZlQ hA trivial (fun e he=>by simp at he)
    have hops:∀j o,ops.toList[j]?=some o→j < k→(ops.toList.take k)[j]?=some o:=fun j o ho hj=>by rw[Kl_,if_pos hj];exact ho
    have hAk:∀e∈A,e.i < k∧∃o,ops.toList[e.i]?=some o:=by
     intro e he
     rcases hA3 e he with h1 | ⟨_,o,h2⟩
     ·simp at h1
     ·rw[Nat.sub_zero,Kl_] at h2
      split at h2
      ·exact ⟨by assumption,o,h2⟩
      ·cases h2
    -- each entry was made by its operation
    have hmk:∀e∈A,∃o,ops.toList[e.i]?=some o∧(∀t v,e.tm=some (t,v)→o.dst=some t)∧(∀t l,e.ln=some (t,l)→o.dst=some t∧YR (YI (ops.toList.take k)) ws l=true)∧∀b cs,e.bx=some (b,cs)→(e.i,b)∈ws:=by
     intro e he
     obtain ⟨h1,o,h2⟩:=hAk e he
     obtain ⟨e',q1,q2,A',q3,_⟩:=hA4 e.i o (hops _ _ h2 h1)
     have:e'=e:=hdesc.uniq q1 he (by omega)
     subst this
     obtain ⟨r1,r2,r3,r4⟩:=ZlP q3
     rw[←r1] at r4
     exact ⟨o,h2,r2,r3,r4⟩
    let dOf:Nat→Option Nat:=fun i=>(ops.toList[i]?).bind (·.dst)
    have dof:∀{i o},ops.toList[i]?=some o→dOf i=o.dst:=fun ho=>by simp only[dOf,ho,Option.bind_some]
    -- the frame is built in whatever order
    have key:∀(fuel:Nat) (listed:Array Bool) (ρ:St) (g1:G) (a1:Act) (w1:World),Inv P B g1 ρ a1 w1→Fr B ⟨g.β,g.hw⟩ σ w0 g1 ρ w1→listed.size=ops.size→RI β A (L listed) ρ→(∀s,L listed s→∀o,ops.toList[s]?=some o→∀i∈deps o,L listed i)→(∀i,L listed i→i < k)→
     cnt listed k+(ops.size - k)≤fuel→wpAny P .any ops (fun ex a' w'=>ZkO .normal ex∧∃g',Inv P B g' σ' a' w'∧Fr B g σ w g' σ' w') fuel listed a1 w1:=by
     intro fuel
     induction fuel with
     | zero=>
       intro listed ρ g1 a1 w1 hI1 hF1 hsz hRI hcl hlk hf
       have hS:∀e∈A,L listed e.i:=fun e he=>Zbw (k:=k) (by omega) e.i (hAk e he).1
       have hsub:=Zrg hRI hS hdesc hI1
       refine Zij (k:=k) (B:=B) (σ':=σ') hT hdeps ?_ 0 k listed (Zc5 β A) g1 a1 w1 (Zbt hI1 hsub) hsz (Q2_ _) hkn (fun i=>⟨hlk i,Zbw (by omega) i⟩) (by omega) h (fun a' w' hp=>?_)
       ·intro j hj hjn listed' h1 h2 i hi
        have ho:ops.toList[j]?=some ops[j]:=by rw[QX_];exact QC_ hjn
        refine spec (fun s o hso hs=>h2 s hs o hso) j _ ho (fun d hd=>?_) i ?_
        ·obtain ⟨e,e1,e2,rfl⟩:=mdep hd
         exact h1 _ (QC_ hjn) e e1 e2
        ·exact ZaR (cls:=cls) (n:=ops.toList.length) j (by omega) (by simpa using hjn) i hi
       ·obtain ⟨g2,i2,f2⟩:=hp
        exact ⟨trivial,g2,i2,hF0.trans ((Ziv hF1 hsub).trans f2)⟩
     | succ fuel ih=>
       intro listed ρ g1 a1 w1 hI1 hF1 hsz hRI hcl hlk hf
       by_cases hc:cnt listed k=0
       ·have hS:∀e∈A,L listed e.i:=fun e he=>Zbw hc e.i (hAk e he).1
        have hsub:=Zrg hRI hS hdesc hI1
        refine Zij (k:=k) (B:=B) (σ':=σ') hT hdeps ?_ (fuel+1) k listed (Zc5 β A) g1 a1 w1 (Zbt hI1 hsub) hsz (Q2_ _) hkn (fun i=>⟨hlk i,Zbw hc i⟩) (by omega) h (fun a' w' hp=>?_)
        ·intro j hj hjn listed' h1 h2 i hi
         have ho:ops.toList[j]?=some ops[j]:=by rw[QX_];exact QC_ hjn
         refine spec (fun s o hso hs=>h2 s hs o hso) j _ ho (fun d hd=>?_) i ?_
         ·obtain ⟨e,e1,e2,rfl⟩:=mdep hd
          exact h1 _ (QC_ hjn) e e1 e2
         ·exact ZaR (cls:=cls) (n:=ops.toList.length) j (by omega) (by simpa using hjn) i hi
        ·obtain ⟨g2,i2,f2⟩:=hp
         exact ⟨trivial,g2,i2,hF0.trans ((Ziv hF1 hsub).trans f2)⟩
       ·obtain ⟨i0,p1,p2,p3⟩:=Zrh hc
        refine ⟨fun hnil=>?_,fun j hj=>?_⟩
        ·have hi0:i0 < ops.size:=by omega
         have ho:ops[i0]?=some ops[i0]:=QC_ hi0
         have:i0∈Region.ready .any ops listed:=mem_ready.2 ⟨ZnR p2 (by omega),ops[i0],ho,fun e he hb=>p3 e.on (hdeps i0 ops[i0] (by rw[QX_];exact ho) e.on (Ku_.2 ⟨e,QY_.2 ⟨by simpa using he,hb⟩,rfl⟩))⟩
         rw[hnil] at this
         cases this
        ·obtain ⟨q1,o,q2,q3⟩:=mem_ready.1 hj
         obtain ⟨q4,q5⟩:=ZyC q1
         have hjn:j < ops.size:=(QL_.1 q2).1
         have ho:ops.toList[j]?=some o:=by rw[QX_];exact q2
         have hdl:∀i∈deps o,L listed i:=fun i hi=>by obtain ⟨e,e1,e2,rfl⟩:=mdep hi;exact q3 e e1 e2
         have hbits:∀i,bit (ZZ cls j) i=true→L listed i:=spec (fun s o' hso hs=>hcl s hs o' hso) j o ho hdl
         have hjk:j < k:=by
          rcases Kh_ j k with h1 | h1
          ·exact h1
          ·exact absurd (hbits i0 (ZaR (cls:=cls) (n:=ops.toList.length) j (by omega) (by simpa using hjn) i0 (by omega))) p2
         obtain ⟨e,r1,r2,A',r3,r4,r5,r6⟩:=hA4 j o (hops j o ho hjk)
         rw[QP_] at r2 r3 r6
         have hclb:∀s,L listed s→∀i,bit (ZZ cls s) i=true→L listed i:=by
          intro s hs i hi
          have hsl:s < ops.size:=by have:=hlk s hs;omega
          have hso:ops.toList[s]?=some ops[s]:=by rw[QX_];exact QC_ hsl
          exact spec (fun s o' hso hs=>hcl s hs o' hso) s _ hso (hcl s hs _ hso) i hi
         have hsub:=Zzt (ws:=ws) (cls:=cls) (A:=A') (j:=j) hRI r5 r4 hbits q4 hclb (fun e he b cs hbx=>by obtain ⟨o',_,_,_,hh⟩:=hmk e he;exact hh b cs hbx) (fun e he hbit=>r6 e he (hlow j o ho _ hbit)) (ZcO ops.toList o)
         unfold wpOp
         rw[q2]
         simp only
         have hdOfD:∀i d,dOf i=some d→L listed i∨i=e.i→d∈YI (ops.toList.take k):=by
          intro i d hd hi
          have hik:i < k:=by
           rcases hi with hi | hi
           ·exact hlk i hi
           ·omega
          have hin:i < ops.size:=by omega
          have hio:ops.toList[i]?=some ops[i]:=by rw[QX_];exact QC_ hin
          rw[dof hio] at hd
          exact Zff (hops i _ hio hik) hd
         refine (fun hh=>?_) (Zqt hΓ hR r3 hI1 hsub hRI.ro (fun d hd hn hmin=>?_) (Q:=fun ex a' w'=>ZkO .normal ex∧∃g',Inv P B g' σ' a' w'∧Fr B g σ w g' σ' w') (K:=wpAny P .any ops (fun ex a' w'=>ZkO .normal ex∧∃g',Inv P B g' σ' a' w'∧Fr B g σ w g' σ' w') fuel (listed.setIfInBounds j true)) (fun ρ' a' w' hp hst=>?_))
         ·split
          ·rename_i hw;rw[if_pos hw] at hh;exact .inl hh
          ·rename_i hw;rw[if_neg hw] at hh;exact hh
         ·rw[hRI.bx0 d (fun e' he' cs hcs hS'=>?_)]
          ·exact hn
          ·obtain ⟨o',_,_,_,hh⟩:=hmk e' he'
           have hmem:=hh d cs hcs
           have h1:=hmin e'.i hmem
           have h2:e'.i≠j:=fun ee=>by rw[ee] at hS';exact q4 hS'
           exact q4 (hclb e'.i hS' j (hord j e'.i d hd hmem (by omega)))
         ·obtain ⟨g2,i2,f2⟩:=hp
          rw[←dof ho,←r2] at hst
          have hri:=RI.step (A:=A) (S:=L listed) (dOf:=dOf) (D:=YI (ops.toList.take k)) (Src:=Js (ops.toList.take k)) (ws:=ws) (cls:=cls) hRI hst (by rw[r2];exact q4) (fun e' he' hi=>hdesc.uniq he' r1 hi) hclb hdOfD
           (fun i hi d hd hd'=>by
             have hik:=hlk i hi
             have hin:i < ops.size:=by omega
             have hio:ops.toList[i]?=some ops[i]:=by rw[QX_];exact QC_ hin
             rw[dof hio] at hd
             rw[r2,dof ho] at hd'
             have:=ZnQ hb2 (hops i _ hio hik) (hops j _ ho hjk) hd hd'
             rw[this] at hi
             exact q4 hi)
           (fun e' he' t v ht=>by obtain ⟨o',h1,h2,_⟩:=hmk e' he';rw[dof h1];exact h2 t v ht)
           (fun e' he' t l hl=>by obtain ⟨o',h1,_,h2,_⟩:=hmk e' he';rw[dof h1];exact h2 t l hl)
           (fun e' he' b cs hbx=>by obtain ⟨o',_,_,_,h2⟩:=hmk e' he';exact h2 b cs hbx) r1 hord
           (fun t v ht hm=>by
             rw[←hβ] at ht
             rw[show (Zae (YI (ops.toList.take k)) (Js (ops.toList.take k)) ws σ).tmps=σ.tmps.filter fun (t,_)=> !(has t (YI (ops.toList.take k))) from rfl,ZbO (fun t=> !(has t (YI (ops.toList.take k)))),YW.2 hm] at ht
             cases ht)
           (fun t l hm=>by
             rw[←hβ] at hm
             have:=(QY_.1 hm).2
             simp only[Qh_,Qi_] at this
             exact ⟨fun hD=>by rw[YW.2 hD] at this;exact absurd this.1 (by simp),this.2⟩)
           (fun l E hl=>by
             rw[←hβ] at hl
             rw[show (Zae (YI (ops.toList.take k)) (Js (ops.toList.take k)) ws σ).own=σ.own.filter fun (l,_)=>YR (YI (ops.toList.take k)) ws l&&YR (Js (ops.toList.take k)) [] l from rfl,Yb (fun l=>YR (YI (ops.toList.take k)) ws l&&YR (Js (ops.toList.take k)) [] l)] at hl
             split at hl
             ·rename_i hkp;rw[Qh_] at hkp;exact hkp
             ·cases hl)
          have hSS:(fun i=>L listed i∨i=e.i)=L (listed.setIfInBounds j true):=by
           funext i
           rw[r2]
           exact propext (Zc6 q5 i).symm
          rw[hSS] at hri
          refine ih _ ρ' g2 a' w' i2 (hF1.trans f2) (by simp[hsz]) hri (fun s hs o' ho' i hi=>?_) (fun i hi=>?_) ?_
          ·rcases (Zc6 q5 s).1 hs with hs | hs
           ·exact (Zc6 q5 i).2 (.inl (hcl s hs o' ho' i hi))
           ·subst hs
            rw[ho] at ho'
            cases ho'
            exact (Zc6 q5 i).2 (.inl (hdl i hi))
          ·rcases (Zc6 q5 i).1 hi with hi | hi
           ·exact hlk i hi
           ·omega
          ·have:=Zri q5 q4 hjk
           omega
    refine key ops.size _ σ ⟨g.β,g.hw⟩ a w0 hI0 Fr.refl (by simp) ?_ (fun s hs=>?_) (fun i hi=>?_) ?_
    ·have hno:L (Array.replicate ops.size false)=fun _=>False:=by
      funext i
      refine propext ⟨fun hl=>?_,False.elim⟩
      unfold L at hl
      rw[QA_,Array.getElem?_replicate] at hl
      split at hl<;>simp at hl
     rw[hno,←hβ]
     exact ZwS
    ·unfold L at hs
     rw[QA_,Array.getElem?_replicate] at hs
     split at hs<;>simp at hs
    ·unfold L at hi
     rw[QA_,Array.getElem?_replicate] at hi
     split at hi<;>simp at hi
    ·have:=ZuC (Array.replicate ops.size false) k
     omega
   ·cases h
end
def Zrj:List PV→Nat→Option Nat
 | [],_=>none
 | x::r,j=>match x with
   | .bs _ _ _ _=>some j
   | _=>Zrj r (j+1)
def ZwT(σ:St)(b j:Nat)(cs:List PV):Option St:=
 match cs[j]? with
 | some (.bs d off n s)=>match lk d σ.boxes with
   | some ds=>bif Nat.ble (off+n *s) ds.length&&Yx ((ds.drop off).take (n *s)) then
      some {σ with ro:=d::σ.ro,boxes:=(b,cs.set j (.lst (chunk s n ((ds.drop off).take (n *s)))))::σ.boxes}
     else none
   | none=>none
 | _=>none
def Zfg(σ:St):List (Nat×List PV)→Option St
 | []=>none
 | (b,_)::r=>match lk b σ.boxes with
   | some cs=>match Zrj cs 0 with
     | some j=>match ZwT σ b j cs with
       | some σ1=>some σ1
       | none=>Zfg σ r
     | none=>Zfg σ r
   | none=>Zfg σ r
def pub:Nat→St→Option St
 | 0,_=>none
 | k+1,σ=>match Zfg σ σ.boxes with
   | some σ1=>match pub k σ1 with
     | some σ2=>some σ2
     | none=>some σ1
   | none=>none
section
variable {P:Program}{B:Nat}{g:G}{σ:St}{a:Act}{w:World}{o:Oper}
theorem Zzu(hI:Inv P B g σ a w){b:Nat}{cs cs':List PV}(hb:lk b σ.boxes=some cs)(hl:cs.length=cs'.length)(h:∀k base,g.β b=some (k,base)→BoxOk g w k base cs')
 (hr:∀y∈cs',∀b',Xf y=some b'→∃c,lk b' σ.boxes=some c):Inv P B g {σ with boxes:=(b,cs')::σ.boxes} a w∧Fr B g σ w g {σ with boxes:=(b,cs')::σ.boxes} w:=by
 have bx:∀b2 c2,lk b2 ((b,cs')::σ.boxes)=some c2→∃c1,lk b2 σ.boxes=some c1∧c1.length=c2.length:=by
  intro b2 c2 h2
  rw[Zn] at h2
  split at h2
  ·rename_i e
   subst e
   have:=Qa_ h2
   subst this
   exact ⟨cs,hb,hl⟩
  ·exact ⟨c2,h2,rfl⟩
 have isb:∀b2,(∃c,lk b2 σ.boxes=some c)→∃c,lk b2 ((b,cs')::σ.boxes)=some c:=by
  rintro b2 ⟨c,h2⟩
  rw[Zn]
  split
  ·exact ⟨cs',rfl⟩
  ·exact ⟨c,h2⟩
 refine ⟨⟨hI.size,hI.defers,hI.tmp,fun t b2 off ht=>isb b2 (hI.ptr t b2 off ht),fun t f bs ht b2 hb2=>isb b2 (hI.fnp t f bs ht b2 hb2),fun b2 c2 h2=>?_,fun b1 b2 c1 c2 k base base' h1 h2 h3 h4=>?_,hI.hwlt,hI.base,hI.glob,fun l E hlo=>?_,fun l E hlo=>?_,hI.owninj,hI.al,fun t b2 c hm=>isb b2 (hI.alt t b2 c hm),fun t b2 off n s ht=>isb b2 (hI.sl t b2 off n s ht),fun b2 c2 h2 y hy b' hb'=>?_⟩,
  ⟨rfl,rfl,rfl,Q2_ _,rfl,fun _ _ _=>rfl,fun _ _ _ _=>rfl,fun _ _ _=>rfl,fun _ _ _=>rfl,fun b2 c2 _ h2=>by obtain ⟨c1,e1,e2⟩:=bx b2 c2 h2;exact ⟨c1,e1,e2,rfl⟩,Ext.refl _ _⟩⟩
 ·have h2':=h2
  change lk b2 ((b,cs')::σ.boxes)=some c2 at h2'
  rw[Zn] at h2'
  split at h2'
  ·rename_i e
   subst e
   have:=Qa_ h2'
   subst this
   obtain ⟨k,base,q1,q2,_,q4,q5⟩:=hI.box b2 cs hb
   exact ⟨k,base,q1,q2,h k base q1,q4,q5⟩
  ·exact hI.box b2 c2 h2'
 ·obtain ⟨d1,e1,_⟩:=bx b1 c1 h1
  obtain ⟨d2,e2,_⟩:=bx b2 c2 h2
  exact hI.inj b1 b2 d1 d2 k base base' e1 e2 h3 h4
 ·obtain ⟨val,h1,h2,h3⟩:=hI.own l E hlo
  exact ⟨val,h1,h2,fun k hk b2 c2 base h4=>by obtain ⟨c1,e1,_⟩:=bx b2 c2 h4;exact h3 k hk b2 c1 base e1⟩
 ·have:=hI.ownt l E hlo
  cases l with
  | t t=>exact this
  | b b2 c=>exact isb b2 this
 ·have h2':=h2
  change lk b2 ((b,cs')::σ.boxes)=some c2 at h2'
  rw[Zn] at h2'
  split at h2'
  ·have:=Qa_ h2'
   subst this
   exact isb b' (hr y hy b' hb')
  ·exact isb b' (hI.ref b2 c2 h2' y hy b' hb')
theorem ZwU(hI:Inv P B g σ a w){b j:Nat}{cs:List PV}(hb:lk b σ.boxes=some cs){σ1:St}(h:ZwT σ b j cs=some σ1):∃g1,Inv P B g1 σ1 a w∧Fr B g σ w g1 σ1 w:=by
 unfold ZwT at h
 split at h
 ·rename_i d off n s hj
  split at h
  ·rename_i ds hd
   cases hc:(Nat.ble (off+n *s) ds.length&&Yx ((ds.drop off).take (n *s))) with
   | false=>rw[hc] at h;cases h
   | true=>
     rw[hc] at h
     have:=Qa_ h
     subst this
     rw[Qh_] at hc
     have hle:=Qm_ hc.1
     obtain ⟨k,base,hk,hlt,hok,_⟩:=hI.box d ds hd
     obtain ⟨h1,f1⟩:=ZeW hI hd hk
     have hlt':j < cs.length:=(Qo_.1 hj).1
     have hlen:((ds.drop off).take (n *s)).length=n *s:=by rw[K2_,K9_];omega
     have c1:∀k2 base2,(⟨g.β,fun j=>if j=k then max (g.hw j) (base+ds.length) else g.hw j⟩:G).β b=some (k2,base2)→BoxOk ⟨g.β,fun j=>if j=k then max (g.hw j) (base+ds.length) else g.hw j⟩ w k2 base2 (cs.set j (.lst (chunk s n ((ds.drop off).take (n *s))))):=by
      intro k2 base2 hk2
      obtain ⟨k3,base3,q1,_,q3,_⟩:=h1.box b cs hb
      rw[q1] at hk2
      have:=Qa_ hk2
      cases this
      refine ⟨fun i y hy=>?_⟩
      rw[List.getElem?_set] at hy
      split at hy
      ·rename_i e
       subst e
       have:=Qa_ hy
       subst this
       obtain ⟨v,r1,r2,r3,r4⟩:=q3.cell j _ hj
       refine ⟨v,r1,r2,r3,.rep ?_⟩
       cases r4 with
       | rep h=>cases h
       | bs _ _ _ _ h=>
         obtain ⟨k4,base4,cap,s1,s2,s3⟩:=h
         have s1':g.β d=some (k4,base4):=s1
         rw[hk] at s1'
         cases s1'
         rw[s3]
         obtain ⟨k5,base5,t1,_,t3,_⟩:=h1.box d ds hd
         have t1':g.β d=some (k5,base5):=t1
         rw[hk] at t1'
         cases t1'
         exact Zct hlen t3.part.cells hc.2 s2 (by simp only[Kw_];omega)
      ·exact q3.cell i y hy
     have c2:∀y∈cs.set j (.lst (chunk s n ((ds.drop off).take (n *s)))),∀b',Xf y=some b'→∃c,lk b' σ.boxes=some c:=by
      intro y hy b' hb'
      obtain ⟨i,hi,rfl⟩:=Kn_ hy
      have hy':=Qg_ hi
      rw[List.getElem?_set] at hy'
      split at hy'
      ·rename_i e
       subst e
       rw[←Qa_ hy'] at hb'
       exact absurd hb' (by simp[Xf])
      ·exact hI.ref b cs hb _ (Qz_ hy') b' hb'
     obtain ⟨h2,f2⟩:=Zzu h1 (b:=b) (cs:=cs) (cs':=cs.set j (.lst (chunk s n ((ds.drop off).take (n *s))))) hb (by simp) c1 c2
     exact ⟨_,h2,f1.trans f2⟩
  ·cases h
 ·cases h
theorem ZdM(hI:Inv P B g σ a w):∀{l:List (Nat×List PV)} {σ1:St},Zfg σ l=some σ1→∃g1,Inv P B g1 σ1 a w∧Fr B g σ w g1 σ1 w
 | [],σ1,h=>by simp[Zfg] at h
 | (b,_)::r,σ1,h=>by
   unfold Zfg at h
   split at h
   ·rename_i cs hcs
    split at h
    ·split at h
     ·rename_i σ2 h2
      have:=Qa_ h
      subst this
      exact ZwU hI hcs h2
     ·exact ZdM hI h
    ·exact ZdM hI h
   ·exact ZdM hI h
theorem Zrk:∀{k:Nat} {g:G} {σ σ1:St},Inv P B g σ a w→pub k σ=some σ1→∃g1,Inv P B g1 σ1 a w∧Fr B g σ w g1 σ1 w
 | 0,g,σ,σ1,_,h=>by simp[pub] at h
 | k+1,g,σ,σ1,hI,h=>by
   unfold pub at h
   split at h
   ·rename_i σ2 h2
    obtain ⟨g2,i2,f2⟩:=ZdM hI h2
    split at h
    ·rename_i σ3 h3
     have:=Qa_ h
     subst this
     obtain ⟨g3,i3,f3⟩:=Zrk i2 h3
     exact ⟨g3,i3,f2.trans f3⟩
    ·have:=Qa_ h
     subst this
     exact ⟨g2,i2,f2⟩
   ·cases h
theorem Zzv{k:Nat}{c:Code}{e:Ex}{σ1 σ':St}(hp:pub k σ=some σ1)(h:Tri P c σ1 e σ'):Tri P c σ e σ':=fun B g a w hI=>by
 obtain ⟨g1,i1,f1⟩:=Zrk hI hp
 exact wp_mono (h B g1 a w i1) fun _ _ _ ⟨h1,g',h2,h3⟩=>⟨h1,g',h2,f1.trans h3⟩
end
def Zfh(N:List Nat):AV→Bool
 | .p _=>true
 | .ptr b _=> !(has b N)
 | .fnp _ bs=>bs.all fun b=> !(has b N)
 | .sl b _ _ _=> !(has b N)
def Zgo(N:List Nat):List (Nat×AV)→Nat→List (Nat×AV)
 | [],_=>[]
 | (t,v)::r,s=>bif bit s t then Zgo N r s else bif Zfh N v then (t,v)::Zgo N r (Nat.lor s (Nat.shiftLeft 1 t)) else Zgo N r (Nat.lor s (Nat.shiftLeft 1 t))
def Zbx(N:List Nat):List (Nat×List PV)→Nat→List (Nat×List PV)
 | [],_=>[]
 | (b,v)::r,s=>bif bit s b then Zbx N r s else bif has b N then Zbx N r (Nat.lor s (Nat.shiftLeft 1 b)) else (b,v)::Zbx N r (Nat.lor s (Nat.shiftLeft 1 b))
def ZbS(N:List Nat):Loc→Bool
 | .t _=>true
 | .b b _=> !(has b N)
def ZbT(N:List Nat)(σ:St):St:=
 {σ with tmps:=Zgo N σ.tmps 0,boxes:=Zbx N σ.boxes 0,own:=σ.own.filter fun (l,_)=>ZbS N l,al:=σ.al.filter fun (_,l)=>ZbS N l}
def spB:List (Nat×List PV)→List (Nat×List Nat)
 | []=>[]
 | (b,cs)::r=>match Zab cs with
   | []=>spB r
   | l=>(b,l)::spB r
def Zen{α:Type}(b:Nat):List (Nat×α)→Bool
 | []=>false
 | (b',_)::r=>Nat.beq b b'||Zen b r
def Zeo(N:List Nat)(sp:List (Nat×List Nat)):List (Nat×List Nat)→List Nat
 | []=>[]
 | (b,l)::r=>bif l.any (fun b'=>has b' N||Zen b' sp) then b::Zeo N sp r else Zeo N sp r
def clean(N:List Nat)(σ:St):St:=match spB σ.boxes with
 | []=>ZbT N σ
 | sp=>ZbT (Zeo N sp sp++N) σ
def ZcP:List Oper→List Nat
 | []=>[]
 | o::r=>match o.op,o.dst with
   | .alloc _,some d=>d::ZcP r
   | .box _ _,some d=>d::ZcP r
   | .buildSlice _ _ _,some d=>d::ZcP r
   | .call ⟨.builtin .append,_,_⟩,some d=>d::ZcP r
   | _,_=>ZcP r
def XX:Code→List Nat
 | .region _ ops _=>ZcP ops.toList
 | .seq x y=>XX x++XX y
 | .cond _ x y=>XX x++XX y
 | .block _ c=>XX c
 | .loop c=>XX c
 | .scope c=>XX c
 | _=>[]
def Zh3(ops:List Oper)(σ:St):Nat→Operand→Option Nat
 | 0,_=>none
 | n+1,.tmp t=>match ops.find? (fun o=>match o.dst with | some d=>Nat.beq d t | none=>false) with
   | some o=>match o.op with
     | .alloc _=>some t
     | .box _ _=>some t
     | .fieldAddr _ p _=>Zh3 ops σ n p
     | .indexAddr _ p _=>Zh3 ops σ n p
     | .nilCheck p=>Zh3 ops σ n p
     | .move p=>Zh3 ops σ n p
     | .assign p=>Zh3 ops σ n p
     | _=>none
   | none=>match lk t σ.tmps with
     | some (.ptr b _)=>some b
     | _=>none
 | _,_=>none
def Zfi(ops:List Oper)(σ:St):List Oper→Nat→List (Nat×Nat)
 | [],_=>[]
 | o::r,j=>match o.op,o.dst with
   | .alloc _,some d=>(j,d)::Zfi ops σ r (j+1)
   | .box _ _,some d=>(j,d)::Zfi ops σ r (j+1)
   | .store _ p _,_=>match Zh3 ops σ 20 p with
     | some b=>(j,b)::Zfi ops σ r (j+1)
     | none=>Zfi ops σ r (j+1)
   | _,_=>Zfi ops σ r (j+1)
def ZdN(Γ:List (Nat×Ty))(R:Nat→St→Oper→Option Res)(T:Nat→St→Oper→Option St)(ops:Array Oper)(d:Bool)(σ:St):Option St:=
 match d with
 | true=>Ze8 Γ R T ops.toList σ (Zfi ops.toList σ (ops.toList.take (Xm (Zaq ops.toList []) ops.toList.length)) 0)
 | false=>tails T ops.toList ops.toList 0 σ
def Ym(Γ:List (Nat×Ty))(R:Nat→St→Oper→Option Res)(T:Nat→St→Oper→Option St):Nat→Option Code→Code→St→Option (Ex×St)
 | 0,_,_,_=>none
 | n+1,some s,c,σ=>match Ym Γ R T n none c (clean (XX s) σ) with
   | some (.goto l,σ1)=>match findLabel s l with
     | some rest=>Ym Γ R T n (some s) rest σ1
     | none=>none
   | r=>r
 | n+1,none,c,σ=>match c with
   | .scope s=>Ym Γ R T n (some s) s σ
   | .skip=>some (.normal,σ)
   | .label _=>some (.normal,σ)
   | .exit i=>some (.exit i,σ)
   | .goto i=>some (.goto i,σ)
   | .ret=>some (.ret,σ)
   | .region _ ops d=>match ZdN Γ R T ops d σ with
     | some σ'=>some (.normal,σ')
     | none=>match pub 8 σ with
       | some σ1=>match ZdN Γ R T ops d σ1 with
         | some σ'=>some (.normal,σ')
         | none=>none
       | none=>none
   | .seq x y=>match Ym Γ R T n none x σ with
     | some (.normal,σ1)=>Ym Γ R T n none y σ1
     | r=>r
   | .cond c x y=>match Z0 σ c with
     | some (.v (.bool true))=>Ym Γ R T n none x σ
     | some (.v (.bool false))=>Ym Γ R T n none y σ
     | _=>none
   | .block id c=>match Ym Γ R T n none c σ with
     | some (.exit i,σ1)=>some (bif Nat.beq i id then .normal else .exit i,σ1)
     | r=>r
   | .loop c=>match Ym Γ R T n none c (clean (XX c) σ) with
     | some (.normal,σ1)=>Ym Γ R T n none (.loop c) σ1
     | r=>r
   | _=>none
section
variable {P:Program}{B:Nat}{g:G}{σ τ:St}{a:Act}{w:World}
theorem ZnT{N:List Nat}{t:Nat}{v:AV}:∀{l:List (Nat×AV)} {s:Nat},lk t (Zgo N l s)=some v→bit s t=false∧lk t l=some v∧Zfh N v=true
 | [],s,h=>by simp[Zgo,lk] at h
 | (t0,v0)::r,s,h=>by
   unfold Zgo at h
   have go:∀{s'},(∀i,bit s i=true→bit s' i=true)→bit s' t0=true→lk t (Zgo N r s')=some v→bit s t=false∧lk t ((t0,v0)::r)=some v∧Zfh N v=true:=by
    intro s' hs h0 h
    obtain ⟨h1,h2,h3⟩:=ZnT h
    have hne:t≠t0:=fun e=>by rw[e,h0] at h1;cases h1
    refine ⟨?_,by rw[Zn,if_neg hne];exact h2,h3⟩
    cases hb:bit s t with
    | false=>rfl
    | true=>rw[hs t hb] at h1;cases h1
   have up:∀i,bit s i=true→bit (Nat.lor s (Nat.shiftLeft 1 t0)) i=true:=fun i hi=>by rw[ZcY,hi];rfl
   have up0:bit (Nat.lor s (Nat.shiftLeft 1 t0)) t0=true:=by
    rw[ZcY]
    have:bit (Nat.shiftLeft 1 t0) t0=true:=by
     show Nat.testBit (1 <<< t0) t0=true
     rw[Nat.testBit_shiftLeft];simp
    rw[this];simp
   cases hb:bit s t0 with
   | true=>
     rw[hb] at h
     exact go (fun _ h=>h) hb h
   | false=>
     rw[hb] at h
     simp only[Qd_] at h
     cases ho:Zfh N v0 with
     | true=>
       rw[ho] at h
       simp only[Qb_,Zn] at h
       split at h
       ·rename_i e
        have:=Qa_ h
        subst this;subst e
        exact ⟨hb,by rw[Zn,if_pos rfl],ho⟩
       ·exact go up up0 h
     | false=>
       rw[ho] at h
       exact go up up0 h
theorem Zi0{N:List Nat}{t:Nat}{v:List PV}:∀{l:List (Nat×List PV)} {s:Nat},lk t (Zbx N l s)=some v→bit s t=false∧lk t l=some v
 | [],s,h=>by simp[Zbx,lk] at h
 | (t0,v0)::r,s,h=>by
   unfold Zbx at h
   have go:∀{s'},(∀i,bit s i=true→bit s' i=true)→bit s' t0=true→lk t (Zbx N r s')=some v→bit s t=false∧lk t ((t0,v0)::r)=some v:=by
    intro s' hs h0 h
    obtain ⟨h1,h2⟩:=Zi0 h
    have hne:t≠t0:=fun e=>by rw[e,h0] at h1;cases h1
    refine ⟨?_,by rw[Zn,if_neg hne];exact h2⟩
    cases hb:bit s t with
    | false=>rfl
    | true=>rw[hs t hb] at h1;cases h1
   have up:∀i,bit s i=true→bit (Nat.lor s (Nat.shiftLeft 1 t0)) i=true:=fun i hi=>by rw[ZcY,hi];rfl
   have up0:bit (Nat.lor s (Nat.shiftLeft 1 t0)) t0=true:=by
    rw[ZcY]
    have:bit (Nat.shiftLeft 1 t0) t0=true:=by
     show Nat.testBit (1 <<< t0) t0=true
     rw[Nat.testBit_shiftLeft];simp
    rw[this];simp
   cases hb:bit s t0 with
   | true=>
     rw[hb] at h
     exact go (fun _ h=>h) hb h
   | false=>
     rw[hb] at h
     simp only[Qd_] at h
     cases ho:has t0 N with
     | true=>
       rw[ho] at h
       exact go up up0 h
     | false=>
       rw[ho] at h
       simp only[Qd_,Zn] at h
       split at h
       ·rename_i e
        have:=Qa_ h
        subst this;subst e
        exact ⟨hb,by rw[Zn,if_pos rfl]⟩
       ·exact go up up0 h
theorem Zfj{N:List Nat}{t:Nat}{v:List PV}:∀{l:List (Nat×List PV)} {s:Nat},lk t (Zbx N l s)=some v→has t N=false
 | [],s,h=>by simp[Zbx,lk] at h
 | (t0,v0)::r,s,h=>by
   unfold Zbx at h
   cases hb:bit s t0 with
   | true=>rw[hb] at h;exact Zfj h
   | false=>
     rw[hb] at h
     simp only[Qd_] at h
     cases ho:has t0 N with
     | true=>rw[ho] at h;exact Zfj h
     | false=>
       rw[ho] at h
       simp only[Qd_] at h
       rw[Zn] at h
       split at h
       ·rename_i e;rw[e];exact ho
       ·exact Zfj h
theorem Zfk{N:List Nat}{t:Nat}{v:List PV}(hN:has t N=false):∀{l:List (Nat×List PV)} {s:Nat},bit s t=false→lk t l=some v→∃v',lk t (Zbx N l s)=some v'
 | [],s,_,h=>by simp[lk] at h
 | (t0,v0)::r,s,hs,h=>by
   have keep:∀{t1},t≠t1→bit (Nat.lor s (Nat.shiftLeft 1 t1)) t=false:=by
    intro t1 hne
    rw[ZcY,hs]
    cases hb:bit (Nat.shiftLeft 1 t1) t with
    | false=>rfl
    | true=>exact absurd (Zre hb) hne
   unfold Zbx
   by_cases e:t=t0
   ·subst e
    rw[hs,hN]
    simp only[Qd_,Zn,Kw_]
    exact ⟨v0,rfl⟩
   ·rw[Zn,if_neg e] at h
    cases hb:bit s t0 with
    | true=>exact Zfk hN hs h
    | false=>
      simp only[Qd_]
      cases ho:has t0 N with
      | true=>exact Zfk hN (keep e) h
      | false=>
        simp only[Qd_,Zn,if_neg e]
        exact Zfk hN (keep e) h
theorem Zjx{N:List Nat}(hI:Inv P B g σ a w)(hcl:∀b cs,lk b σ.boxes=some cs→has b N=false→∀y∈cs,∀b',Xf y=some b'→has b' N=false):Sub (ZbT N σ) σ:=by
 have tm:∀t v,lk t (ZbT N σ).tmps=some v→lk t σ.tmps=some v∧Zfh N v=true:=fun t v h=>(ZnT h).2
 have bx:∀b,has b N=false→(∃cs,lk b σ.boxes=some cs)→∃cs,lk b (ZbT N σ).boxes=some cs:=fun b hb ⟨cs,h⟩=>Zfk hb (Zfe b) h
 have ow:∀l E,lkL l (ZbT N σ).own=some E→lkL l σ.own=some E∧ZbS N l=true:=by
  intro l E h
  rw[show (ZbT N σ).own=σ.own.filter fun (l,_)=>ZbS N l from rfl,Yb (ZbS N)] at h
  split at h
  ·exact ⟨h,by assumption⟩
  ·cases h
 have al:∀t l,(t,l)∈(ZbT N σ).al→(t,l)∈σ.al∧ZbS N l=true:=fun t l h=>QY_.1 h
 refine ⟨rfl,fun t v h=>(tm t v h).1,fun b cs h=>(Zi0 h).2,fun _ h=>h,fun t b off h=>?_,fun t f bs h b hb=>?_,fun l E h=>(ow l E h).1,fun b c E h=>?_,fun t l h=>(al t l h).1,fun t b c h=>?_,fun t b off n s h=>?_,fun b cs h y hy b' hb'=>?_⟩
 ·obtain ⟨h1,h2⟩:=tm t _ h
  exact bx b (by simpa [Zfh] using h2) (hI.ptr t b off h1)
 ·obtain ⟨h1,h2⟩:=tm t _ h
  exact bx b (by simpa using QK_.1 h2 b hb) (hI.fnp t f bs h1 b hb)
 ·obtain ⟨h1,h2⟩:=ow _ E h
  exact bx b (by simpa [ZbS] using h2) (hI.ownt (.b b c) E h1)
 ·obtain ⟨h1,h2⟩:=al t _ h
  exact bx b (by simpa [ZbS] using h2) (hI.alt t b c h1)
 ·obtain ⟨h1,h2⟩:=tm t _ h
  exact bx b (by simpa [Zfh] using h2) (hI.sl t b off n s h1)
 ·have h1:=Zfj h
  have h2:=(Zi0 h).2
  exact bx b' (hcl b cs h2 h1 y hy b' hb') (hI.ref b cs h2 y hy b' hb')
theorem ZkV:∀{l:List (Nat×List PV)} {b:Nat} {cs:List PV},lk b l=some cs→∀{y:PV},y∈cs→∀{b':Nat},Xf y=some b'→∃rs,(b,rs)∈spB l∧b'∈rs
 | [],b,cs,h,_,_,_,_=>by simp[lk] at h
 | (b1,c1)::r,b,cs,h,y,hy,b',hb'=>by
   rw[Zn] at h
   split at h
   ·rename_i e
    have:=Qa_ h
    subst this;subst e
    have hm:=JD hy hb'
    unfold spB
    split
    ·rename_i hn;rw[hn] at hm;cases hm
    ·exact ⟨_,Qv_ ..,hm⟩
   ·obtain ⟨rs,h1,h2⟩:=ZkV h hy hb'
    unfold spB
    split
    ·exact ⟨rs,h1,h2⟩
    ·exact ⟨rs,Qq_ _ h1,h2⟩
theorem Zrl{α:Type}{b:Nat}:∀{l:List (Nat×α)} {x:α},(b,x)∈l→Zen b l=true
 | [],_,h=>by simp at h
 | (b',z)::r,x,h=>by
   unfold Zen
   rcases Q9_.1 h with e | h
   ·cases e;simp
   ·rw[Zrl h,Q5_]
theorem Zi1{N:List Nat}{sp:List (Nat×List Nat)}:∀{l:List (Nat×List Nat)} {b:Nat},b∈Zeo N sp l→∃rs,(b,rs)∈l
 | [],_,h=>by simp[Zeo] at h
 | (b1,l1)::r,b,h=>by
   unfold Zeo at h
   cases hb:l1.any (fun b'=>has b' N||Zen b' sp) with
   | false=>rw[hb] at h;obtain ⟨rs,h⟩:=Zi1 h;exact ⟨rs,Qq_ _ h⟩
   | true=>
     rw[hb] at h
     rcases Q9_.1 h with e | h
     ·subst e;exact ⟨l1,Qv_ ..⟩
     ·obtain ⟨rs,h⟩:=Zi1 h;exact ⟨rs,Qq_ _ h⟩
theorem ZkW{N:List Nat}{sp:List (Nat×List Nat)}:∀{l:List (Nat×List Nat)} {b b':Nat} {rs:List Nat},(b,rs)∈l→b'∈rs→(has b' N||Zen b' sp)=true→b∈Zeo N sp l
 | [],_,_,_,h,_,_=>by simp at h
 | (b1,l1)::r,b,b',rs,h,hm,hx=>by
   unfold Zeo
   rcases Q9_.1 h with e | h
   ·obtain ⟨rfl,rfl⟩:=Prod.mk.inj e
    have:rs.any (fun b'=>has b' N||Zen b' sp)=true:=List.any_eq_true.2 ⟨b',hm,hx⟩
    rw[this]
    exact Qv_ ..
   ·cases l1.any (fun b'=>has b' N||Zen b' sp) with
    | false=>exact ZkW h hm hx
    | true=>exact Qq_ _ (ZkW h hm hx)
theorem ZlR{N:List Nat}(hI:Inv P B g σ a w):Sub (clean N σ) σ:=by
 unfold clean
 cases hsp:spB σ.boxes with
 | nil=>
   refine Zjx hI (fun b cs h _ y hy b' hb'=>?_)
   obtain ⟨rs,h1,_⟩:=ZkV h hy hb'
   rw[hsp] at h1
   cases h1
 | cons s1 r1=>
   simp only
   rw[←hsp]
   refine Zjx hI (fun b cs h hb y hy b' hb'=>?_)
   obtain ⟨rs,h1,h2⟩:=ZkV h hy hb'
   have hbn:b∉Zeo N (spB σ.boxes) (spB σ.boxes):=fun hm=>by
    rw[YW.2 (Kg_ _ hm)] at hb
    cases hb
   have h3:(has b' N||Zen b' (spB σ.boxes))=false:=by
    cases hx:(has b' N||Zen b' (spB σ.boxes)) with
    | false=>rfl
    | true=>exact absurd (ZkW h1 h2 hx) hbn
   rw[Ka_] at h3
   cases hq:has b' (Zeo N (spB σ.boxes) (spB σ.boxes)++N) with
   | false=>rfl
   | true=>
     rcases Kv_.1 (YW.1 hq) with hm | hm
     ·obtain ⟨rs',hm'⟩:=Zi1 hm
      rw[Zrl hm'] at h3
      exact absurd h3.2 (by simp)
     ·rw[YW.2 hm] at h3
      exact absurd h3.1 (by simp)
theorem XC{N:List Nat}{c:Code}{e:Ex}{σ':St}(h:Tri P c (clean N σ) e σ'):Tri P c σ e σ':=fun B g a w hI=>
 wp_mono (h B g a w (Zbt hI (ZlR hI))) fun _ _ _ ⟨h1,g',h2,h3⟩=>⟨h1,g',h2,ZnG h3 (ZlR hI)⟩
theorem ZdO{T:Nat→St→Oper→Option St}(hT:∀j σ o σ',T j σ o=some σ'→∀B g a w,Inv P B g σ a w→Goes P B g σ a w o σ'){ops:Array Oper}{Q:Exit→Act→World→Prop}:
 ∀{l:List Oper} {j:Nat} {σ σ':St} {g:G} {a:Act} {w:World},Inv P B g σ a w→tails T ops.toList l j σ=some σ'→(∀a' w',Post P B g σ w σ' a' w'→Q .normal a' w')→wpList P ops Q l a w
 | [],j,σ,σ',g,a,w,hI,h,hQ=>by
   have:=Qa_ h
   subst this
   exact hQ a w ⟨g,hI,Fr.refl⟩
 | o::r,j,σ,σ',g,a,w,hI,h,hQ=>by
   unfold tails at h
   refine wpList_step fun K hK=>?_
   split at h
   ·rename_i hg
    split at h
    ·rename_i σ1 h1
     rw[Jd hI hg,if_pos rfl]
     exact (hT _ _ _ _ h1 B g a w hI).wp fun v w1 ⟨g1,i1,f1⟩=>hK _ _ (ZdO hT i1 h fun a' w' hp=>hQ a' w' (hp.trans f1))
    ·cases h
   ·rename_i hg
    rw[Jd hI hg,if_neg (by simp)]
    split at h
    ·rename_i d hd
     rw[hd]
     exact hK _ _ (ZdO hT (Zgf hI d) h fun a' w' hp=>hQ a' w' (hp.trans (Ziw d)))
    ·rename_i hd
     rw[hd]
     exact hK _ _ (ZdO hT hI h hQ)
   ·cases h
theorem Zep{Γ:List (Nat×Ty)}(hΓ:Ye P Γ)(hm:P.follows .mixedOrders=true){R:Nat→St→Oper→Option Res}(hR:∀j τ o r,R j τ o=some r→XU P τ o r)
 {T:Nat→St→Oper→Option St} (hT:∀j σ o σ',T j σ o=some σ'→∀B g a w,Inv P B g σ a w→Goes P B g σ a w o σ') {id:Nat} {ops:Array Oper} {d:Bool} {σ':St} (h:ZdN Γ R T ops d σ=some σ'):Tri P (.region id ops d) σ .normal σ':=by
 cases d with
 | true=>exact ZnS hΓ hm hR hT h
 | false=>exact fun B g a w hI=>wp_region_list (ZdO hT hI h fun a' w' hp=>⟨trivial,hp⟩)
theorem ZcZ{Γ:List (Nat×Ty)}(hΓ:Ye P Γ)(hm:P.follows .mixedOrders=true){R:Nat→St→Oper→Option Res}(hR:∀j τ o r,R j τ o=some r→XU P τ o r)
 {T:Nat→St→Oper→Option St} (hT:∀j σ o σ',T j σ o=some σ'→∀B g a w,Inv P B g σ a w→Goes P B g σ a w o σ'):
 ∀(n:Nat),(∀(c:Code) (σ σ':St) (e:Ex),Ym Γ R T n none c σ=some (e,σ')→Tri P c σ e σ'∧∀b,c= .loop b→∃k,Jr P k b σ e σ')∧∀(s c:Code) (σ σ':St) (e:Ex),Ym Γ R T n (some s) c σ=some (e,σ')→∃k,XL P s k c σ e σ':=by
 intro n
 induction n with
 | zero=>exact ⟨fun c σ σ' e h=>absurd h (by simp[Ym]),fun s c σ σ' e h=>absurd h (by simp[Ym])⟩
 | succ n ih=>
   have one:∀c σ σ' e,Ym Γ R T n none c σ=some (e,σ')→Tri P c σ e σ':=fun c σ σ' e h=>(ih.1 c σ σ' e h).1
   refine ⟨?_,fun s c σ σ' e h=>?_⟩
   rotate_left
   ·simp only[Ym] at h
    split at h
    ·rename_i l σ1 h1
     split at h
     ·rename_i rest hf
      obtain ⟨k,hk⟩:=ih.2 s rest σ1 σ' e h
      exact ⟨k+1,ZbP (XC (one _ _ _ _ h1)) hf hk⟩
     ·cases h
    ·rename_i r hr
     refine ⟨1,Ziy (fun l he=>?_) (XC (one _ _ _ _ h))⟩
     subst he
     exact hr l σ' h
   intro c σ σ' e h
   cases c with
   | skip=>refine ⟨?_,fun b hb=>absurd hb (by simp)⟩;have:=Qa_ h;cases this;exact fun B g a w hI=>wp_skip ⟨trivial,g,hI,Fr.refl⟩
   | label l=>refine ⟨?_,fun b hb=>absurd hb (by simp)⟩;have:=Qa_ h;cases this;exact fun B g a w hI=>wp_label ⟨trivial,g,hI,Fr.refl⟩
   | exit i=>refine ⟨?_,fun b hb=>absurd hb (by simp)⟩;have:=Qa_ h;cases this;exact fun B g a w hI=>wp_exit ⟨rfl,g,hI,Fr.refl⟩
   | goto i=>refine ⟨?_,fun b hb=>absurd hb (by simp)⟩;have:=Qa_ h;cases this;exact fun B g a w hI=>wp_goto ⟨rfl,g,hI,Fr.refl⟩
   | ret=>refine ⟨?_,fun b hb=>absurd hb (by simp)⟩;have:=Qa_ h;cases this;exact fun B g a w hI=>wp_ret ⟨trivial,g,hI,Fr.refl⟩
   | region id ops d=>
     refine ⟨?_,fun b hb=>absurd hb (by simp)⟩
     simp only[Ym] at h
     split at h
     ·rename_i σ1 h1
      have:=Qa_ h
      cases this
      exact Zep hΓ hm hR hT h1
     ·split at h
      ·rename_i σ1 hp
       split at h
       ·rename_i σ2 h1
        have:=Qa_ h
        cases this
        exact Zzv hp (Zep hΓ hm hR hT h1)
       ·cases h
      ·cases h
   | seq x y=>
     refine ⟨?_,fun b hb=>absurd hb (by simp)⟩
     simp only[Ym] at h
     split at h
     ·rename_i σ1 h1
      exact ZkQ (one _ _ _ _ h1) (one _ _ _ _ h)
     ·rename_i r hr
      refine Zig (fun he=>?_) (one _ _ _ _ h)
      subst he
      exact hr σ' h
   | cond c x y=>
     refine ⟨?_,fun b hb=>absurd hb (by simp)⟩
     simp only[Ym] at h
     split at h
     ·rename_i hc;exact Zfb hc (one _ _ _ _ h)
     ·rename_i hc;exact Zfb hc (one _ _ _ _ h)
     ·cases h
   | block id c=>
     refine ⟨?_,fun b hb=>absurd hb (by simp)⟩
     simp only[Ym] at h
     split at h
     ·rename_i i σ1 h1
      have:=Qa_ h
      cases this
      exact Ze6 (one _ _ _ _ h1)
     ·rename_i r hr
      refine ZdK (one _ _ _ _ h) (fun i he=>?_)
      subst he
      exact hr i σ' h
   | loop c=>
     have hl:∃k,Jr P k c σ e σ':=by
      simp only[Ym] at h
      split at h
      ·rename_i σ1 h1
       obtain ⟨k,hk⟩:=(ih.1 _ _ _ _ h).2 c rfl
       exact ⟨k+1,ZeZ (XC (one _ _ _ _ h1)) hk⟩
      ·rename_i r hr
       refine ⟨1,Zix (fun he=>?_) (XC (one _ _ _ _ h))⟩
       subst he
       exact hr σ' h
     refine ⟨?_,fun b hb=>by cases hb;exact hl⟩
     obtain ⟨k,hk⟩:=hl
     exact Zfa hk
   | scope c=>
     refine ⟨?_,fun b hb=>absurd hb (by simp)⟩
     simp only[Ym] at h
     obtain ⟨k,hk⟩:=ih.2 c c σ σ' e h
     exact Zgg hk
   | _=>exact absurd h (by simp[Ym])
end
def Zq:List Nat→List PV→List PV→Option Bool
 | [],[],[]=>some true
 | 0::sh,.v (.int k a)::r,.v (.int k' b)::s=>bif decide (k=k') then (match Zq sh r s with | some c=>some (a==b&&c) | none=>none) else none
 | 1::sh,.v (.bool a)::r,.v (.bool b)::s=>match Zq sh r s with | some c=>some (a==b&&c) | none=>none
 | 2::sh,.str a::r,.str b::s=>match Zq sh r s with | some c=>some (a==b&&c) | none=>none
 | 3::sh,.v (.complex k a b)::r,.v (.complex k' a' b')::s=>bif decide (k=k') then (match Zq sh r s with | some c=>some (Op.floatEq k a a'&&Op.floatEq k b b'&&c) | none=>none) else none
 | _,_,_=>none
def ZnU(P:Program)(T:TypeId)(sh:List Nat):Prop:=
 P.eqGuardType P.depth T=false∧∀hw w vs ws xs ys b,ArgsRep hw w vs xs→ArgsRep hw w ws ys→Zq sh xs ys=some b→(Op.equalIn 10000 T (.agg vs.toArray) (.agg ws.toArray)).run P w= .ok b w
def CCOk(P:Program)(f:FuncId):Prop:=
 (∀args w,(callFunc f args).run P w= .ok (.enter f args) w)∧
 (∀(b:Nat) (w:World),w.cell? ⟨b,0,none⟩=some (.pointer none)→w.shape? b=some (ZaI,2)→w.frozen? ⟨b,0,none⟩=false→
   Calls P f #[.pointer (some ⟨b,0,none⟩)] w fun e w'=>e= .returned (.tuple #[])∧w'=w.setCell ⟨b,0,none⟩ (.pointer (some ⟨b,0,none⟩)))∧
 (∀(b:Nat) (w:World),w.cell? ⟨b,0,none⟩=some (.pointer (some ⟨b,0,none⟩))→Calls P f #[.pointer (some ⟨b,0,none⟩)] w fun e w'=>e= .returned (.tuple #[])∧w'=w)
def Zgp(P:Program)(f:FuncId)(e:TypeId):Prop:=
 (∀args w,(callFunc f args).run P w= .ok (.enter f args) w)∧
 (∀(b g cap cells:Nat) (l:List UInt8) (w:World),w.cell? ⟨b,1,none⟩=some (.slice (some ⟨g,0,none⟩) l.length cap)→w.shape? g=some (e,cells)→l≠[]→l.length≤cap→l.length≤cells→l.length≤maxLen→
   (∀(j:Nat) (x:UInt8),l[j]?=some x→w.cell? ⟨g,j,none⟩=some (.int .u8 x.toNat))→
   Calls P f #[.pointer (some ⟨b,0,none⟩)] w fun e w'=>e= .returned (.string ⟨l.toArray⟩)∧w'=w.drew.freeze ⟨g,0,none⟩ l.length)∧
 (∀(b:Nat) (w:World),w.cell? ⟨b,1,none⟩=some (.slice none 0 0)→Calls P f #[.pointer (some ⟨b,0,none⟩)] w fun e w'=>e= .returned (.string ⟨#[]⟩)∧w'=w.drew)
structure Env where
 Γ:List (Nat×Ty)
 eqs:List (Nat×List Nat)
 bools:List Nat
 ints:List (Nat×IntKind)
 flts:List (Nat×FloatKind)
 ifcs:List Nat
 fns:List (Nat×Func)
 wr:List Nat
 libs:List Nat
 lib:Nat→List PV→Option PV
 inl:List Nat
 cc:List Nat
 bst:List (Nat×Nat)
 sla:List Nat
structure EnvOk(P:Program)(E:Env):Prop where
 Γ:Ye P E.Γ
 mixed:P.follows .mixedOrders=true
 eqs:∀T sh,lk T E.eqs=some sh→ZnU P T sh
 bools:∀T,has T E.bools=true→P.underlying T=some .bool
 ints:∀T k,lk T E.ints=some k→P.underlying T=some (.int k)
 flts:∀T k,lk T E.flts=some k→P.underlying T=some (.float k)
 ifcs:∀T,has T E.ifcs=true→∃ms,P.underlying T=some (.interface ms)
 lib:∀f args r,E.lib f args=some r→Con P f args r
 cc:∀f,has f E.cc=true→CCOk P f
 bst:∀f e,lk f E.bst=some e→Zgp P f e∧∃i,P.info? e=some i∧i.size=1
 fns:∀f fn,lk f E.fns=some fn→P.funcs[f]?=some fn∧∀args w,(callFunc f args).run P w= .ok (.enter f args) w
def ZmN(op:BinOp)(k:IntKind)(a b:Int):Option PV:=
 match op with
 | .and=>some (.v (.int k (k.wrap (BitVec.ofInt k.bits a&&& BitVec.ofInt k.bits b).toNat)))
 | .or=>some (.v (.int k (k.wrap (BitVec.ofInt k.bits a||| BitVec.ofInt k.bits b).toNat)))
 | .xor=>some (.v (.int k (k.wrap (BitVec.ofInt k.bits a ^^^ BitVec.ofInt k.bits b).toNat)))
 | .andNot=>some (.v (.int k (k.wrap (BitVec.ofInt k.bits a&&& ~~~(BitVec.ofInt k.bits b)).toNat)))
 | _=>none
def Zjy(op:BinOp)(a b:Bool):Option PV:=
 match op with
 | .eql=>some (.v (.bool (a==b)))
 | .neq=>some (.v (.bool (!(a==b))))
 | _=>none
def ZnV(op:BinOp)(x y:Value):Option Value:=
 match x,y with
 | .float k a,.float k' b=>bif decide (k=k') then (match op with
   | .eql=>some (.bool (k.format.order a b==some .eq))
   | .neq=>some (.bool (k.format.order a b !=some .eq))
   | .lss=>some (.bool (k.format.order a b==some .lt))
   | .leq=>some (.bool (k.format.order a b==some .lt||k.format.order a b==some .eq))
   | .gtr=>some (.bool (k.format.order a b==some .gt))
   | .geq=>some (.bool (k.format.order a b==some .gt||k.format.order a b==some .eq))
   | .add=>match k.format.add a b with | some r=>some (.float k r) | none=>none
   | .sub=>match k.format.sub a b with | some r=>some (.float k r) | none=>none
   | .mul=>match k.format.mul a b with | some r=>some (.float k r) | none=>none
   | _=>none) else none
 | .complex k a b,.complex k' c d=>bif decide (k=k') then (match op with
   | .eql=>some (.bool (k.format.order a c==some .eq&&k.format.order b d==some .eq))
   | .neq=>some (.bool (!(k.format.order a c==some .eq&&k.format.order b d==some .eq)))
   | .add=>match k.format.add a c,k.format.add b d with | some r,some s=>some (.complex k r s) | _,_=>none
   | .sub=>match k.format.sub a c,k.format.sub b d with | some r,some s=>some (.complex k r s) | _,_=>none
   | _=>none) else none
 | _,_=>none
def Xg(E:Env)(op:BinOp)(T:TypeId)(x y:PV):Option (List Obl):=
 match x,y with
 | .v (.int k a),.v (.int k' b)=>match op with
   | .quo=>bif b==0 then none else some [.pr True]
   | .rem=>bif b==0 then none else some [.pr True]
   | .shl=>bif decide (0≤b) then some [.pr True] else none
   | .shr=>bif decide (0≤b) then some [.pr True] else none
   | op=>match ZmN op k a b with
     | some r=>bif decide (k=k') then some [.bin op T x y r] else none
     | none=>some []
 | .v (.bool a),.v (.bool b)=>bif has T E.bools then (match Zjy op a b with | some r=>some [.bin op T x y r] | none=>none) else none
 | .agg xs,.agg ys=>match lk T E.eqs with
   | some sh=>match Zq sh xs ys with
     | some b=>match op with
       | .eql=>some [.bin op T x y (.v (.bool b))]
       | .neq=>some [.bin op T x y (.v (.bool (!b)))]
       | _=>none
     | none=>none
   | none=>none
 | .v a,.v b=>match ZnV op a b with
   | some r=>some [.bin op T x y (.v r)]
   | none=>none
 | .str a,.str b=>match op with
   | .add=>bif Nat.ble (a.length+b.length) 9223372036854775807 then some [.pr True] else none
   | _=>some []
 | _,_=>none
section
variable {P:Program}
theorem Zda:ZY P []:=fun o h=>by simp at h
theorem Z5{o:Obl}(h:o.holds P):ZY P [o]:=fun o' h'=>by simp at h';subst h';exact h
theorem Zsa{op:BinOp}{T:TypeId}{k:IntKind}{a b:Int}{r:PV}(h:ZmN op k a b=some r):(Obl.bin op T (.v (.int k a)) (.v (.int k b)) r).holds P:=by
 intro hw w vx vy ox oy hx hy
 rw[Z7 hx,Z7 hy,eqGuard_at_int]
 cases op<;>simp only[ZmN,Option.some.injEq,reduceCtorEq] at h<;>(subst h;exact ⟨_,by simp[binOp,Op.intBits],.v _ rfl⟩)
theorem Zsb{op:BinOp}{T:TypeId}{a b:Bool}{r:PV}(hT:P.underlying T=some .bool)(h:Zjy op a b=some r):(Obl.bin op T (.v (.bool a)) (.v (.bool b)) r).holds P:=by
 intro hw w vx vy ox oy hx hy
 rw[Z7 hx,Z7 hy]
 have hg:(eqGuard op T ox oy (.bool a) (.bool b)).run P w= .ok () w:=by cases op<;>simp[eqGuard]
 have he:(Op.equal T (.bool a) (.bool b)).run P w= .ok (a==b) w:=run_equalIn_bool' w 9999 T a b hT
 cases op<;>simp only[Zjy,Option.some.injEq,reduceCtorEq] at h
 ·subst h
  exact ⟨.bool (a==b),by rw[Sem.run_bind,hg,Result.andThen_ok];simp[binOp,he],.v _ rfl⟩
 ·subst h
  exact ⟨.bool (!(a==b)),by rw[Sem.run_bind,hg,Result.andThen_ok];simp[binOp,he],.v _ rfl⟩
theorem ZuD{op:BinOp}{T:TypeId}{a b r:Value}(h:ZnV op a b=some r):(Obl.bin op T (.v a) (.v b) (.v r)).holds P:=by
 intro hw w vx vy ox oy hx hy
 rw[Z7 hx,Z7 hy]
 unfold ZnV at h
 split at h
 ·rename_i k a k' b
  cases hk:decide (k=k') with
  | false=>rw[hk] at h;cases h
  | true=>
    rw[hk] at h
    have:=Qy_ hk
    subst this
    have hg:(eqGuard op T ox oy (.float k a) (.float k b)).run P w= .ok () w:=by cases op<;>simp[eqGuard]
    rw[Sem.run_bind,hg,Result.andThen_ok]
    simp only[Qb_] at h
    split at h
    all_goals first
     | (have:=Qa_ h;subst this;exact ⟨_,by simp[binOp,Op.floatCmp],.v _ rfl⟩)
     | (split at h
        ·rename_i r0 hr0
         have:=Qa_ h;subst this
         exact ⟨_,by simp[binOp,Op.floatArith,hr0],.v _ rfl⟩
        ·cases h)
     | cases h
 ·rename_i k a b k' c d
  cases hk:decide (k=k') with
  | false=>rw[hk] at h;cases h
  | true=>
    rw[hk] at h
    have:=Qy_ hk
    subst this
    have hg:(eqGuard op T ox oy (.complex k a b) (.complex k c d)).run P w= .ok () w:=by cases op<;>simp[eqGuard]
    rw[Sem.run_bind,hg,Result.andThen_ok]
    simp only[Qb_] at h
    split at h
    all_goals first
     | (have:=Qa_ h;subst this;exact ⟨_,by simp[binOp,Op.complexOp,Op.Complex.cmp,Op.floatCmp,asBool],.v _ rfl⟩)
     | (split at h
        ·rename_i r0 s0 hr0 hs0
         have:=Qa_ h;subst this
         exact ⟨_,by simp[binOp,Op.complexOp,Op.Complex.arith,Op.floatArith,hr0,hs0],.v _ rfl⟩
        ·cases h)
     | cases h
 ·cases h
theorem ZuE{T:TypeId}{sh:List Nat}{xs ys:List PV}{b:Bool}(hE:ZnU P T sh)(h:Zq sh xs ys=some b):
 (Obl.bin .eql T (.agg xs) (.agg ys) (.v (.bool b))).holds P∧(Obl.bin .neq T (.agg xs) (.agg ys) (.v (.bool (!b)))).holds P:=by
 constructor
 ·intro hw w vx vy ox oy hx hy
  obtain ⟨vs,rfl,hv⟩:=Jn hx
  obtain ⟨ws,rfl,hu⟩:=Jn hy
  have:=hE.2 hw w vs ws xs ys b ⟨hv.len,hv.rep⟩ ⟨hu.len,hu.rep⟩ h
  exact ⟨.bool b,by rw[Sem.run_bind,run_eqGuard_agg w _ _ _ _ _ _ hE.1,Result.andThen_ok,run_eql_struct,this,Result.andThen_ok],.v _ rfl⟩
 ·intro hw w vx vy ox oy hx hy
  obtain ⟨vs,rfl,hv⟩:=Jn hx
  obtain ⟨ws,rfl,hu⟩:=Jn hy
  have:=hE.2 hw w vs ws xs ys b ⟨hv.len,hv.rep⟩ ⟨hu.len,hu.rep⟩ h
  exact ⟨.bool (!b),by rw[Sem.run_bind,run_eqGuard_agg w _ _ _ _ _ _ hE.1,Result.andThen_ok,run_neq_struct,this,Result.andThen_ok],.v _ rfl⟩
theorem ZlS{op:BinOp}{T:TypeId}{x y:PV}{os' ob:List Obl}{r:PV}(h:YO op T x y []=some (r,os',ob)):os'=[]∧ob=[]:=by
 unfold YO at h
 split at h
 ·rename_i e;cases e
 ·split at h
  all_goals first
   | (have:=Qa_ h;cases this;exact ⟨rfl,rfl⟩)
   | (cases h;done)
   | skip
  rename_i k a k' b _ _ _ _
  cases hk:decide (k=k') with
  | false=>rw[hk] at h;cases h
  | true=>
    rw[hk] at h
    simp only[Qb_] at h
    split at h
    ·have:=Qa_ h;cases this;exact ⟨rfl,rfl⟩
    ·cases h
theorem Zsc{E:Env}(hE:EnvOk P E){op:BinOp}{T:TypeId}{x y:PV}{os os' ob:List Obl}{r:PV}(h:Xg E op T x y=some os)(h':YO op T x y os=some (r,os',ob)):os'=[]∧ZY P ob:=by
 have binC:∀{r0:PV},os=[.bin op T x y r0]→(Obl.bin op T x y r0).holds P→os'=[]∧ZY P ob:=by
  intro r0 e ho
  subst e
  unfold YO at h'
  have:=Qa_ h'
  cases this
  exact ⟨rfl,Z5 ho⟩
 unfold Xg at h
 split at h
 ·rename_i k a k' b
  split at h
  ·cases hb:(b==0) with
   | true=>rw[hb] at h;cases h
   | false=>
     rw[hb] at h
     have:=Qa_ h
     subst this
     simp only[YO] at h'
     cases hk:decide (k=k') with
     | false=>rw[hk] at h';cases h'
     | true=>
       rw[hk] at h'
       have:=Qa_ h'
       cases this
       exact ⟨rfl,Z5 (show b≠0 from by simpa using hb)⟩
  ·cases hb:(b==0) with
   | true=>rw[hb] at h;cases h
   | false=>
     rw[hb] at h
     have:=Qa_ h
     subst this
     simp only[YO] at h'
     cases hk:decide (k=k') with
     | false=>rw[hk] at h';cases h'
     | true=>
       rw[hk] at h'
       have:=Qa_ h'
       cases this
       exact ⟨rfl,Z5 (show b≠0 from by simpa using hb)⟩
  ·cases hb:decide (0≤b) with
   | false=>rw[hb] at h;cases h
   | true=>
     rw[hb] at h
     have:=Qa_ h
     subst this
     simp only[YO] at h'
     have:=Qa_ h'
     cases this
     exact ⟨rfl,Z5 (show 0≤b from Qy_ hb)⟩
  ·cases hb:decide (0≤b) with
   | false=>rw[hb] at h;cases h
   | true=>
     rw[hb] at h
     have:=Qa_ h
     subst this
     simp only[YO] at h'
     have:=Qa_ h'
     cases this
     exact ⟨rfl,Z5 (show 0≤b from Qy_ hb)⟩
  ·split at h
   ·rename_i r0 hr0
    cases hk:decide (k=k') with
    | false=>rw[hk] at h;cases h
    | true=>
      rw[hk] at h
      have:=Qa_ h
      have hkk:=Qy_ hk
      subst hkk
      exact binC this.symm (Zsa hr0)
   ·have:=Qa_ h
    subst this
    obtain ⟨h1,h2⟩:=ZlS h'
    subst h2
    exact ⟨h1,Zda⟩
 ·rename_i a b
  cases hb:has T E.bools with
  | false=>rw[hb] at h;cases h
  | true=>
    rw[hb] at h
    simp only[Qb_] at h
    split at h
    ·rename_i r0 hr0
     exact binC (Qa_ h).symm (Zsb (hE.bools T hb) hr0)
    ·cases h
 ·rename_i xs ys
  split at h
  ·rename_i sh hsh
   split at h
   ·rename_i b hb
    obtain ⟨h1,h2⟩:=ZuE (hE.eqs T sh hsh) hb
    split at h
    ·exact binC (Qa_ h).symm h1
    ·exact binC (Qa_ h).symm h2
    ·cases h
   ·cases h
  ·cases h
 ·rename_i a b _ _
  split at h
  ·rename_i r0 hr0
   exact binC (Qa_ h).symm (ZuD hr0)
  ·cases h
 ·rename_i a b
  split at h
  ·cases hb:Nat.ble (a.length+b.length) 9223372036854775807 with
   | false=>rw[hb] at h;cases h
   | true=>
     rw[hb] at h
     have:=Qa_ h
     subst this
     simp only[YO] at h'
     have:=Qa_ h'
     cases this
     exact ⟨rfl,Z5 (show a.length+b.length≤9223372036854775807 from Qm_ hb)⟩
  ·have:=Qa_ h
   subst this
   obtain ⟨h1,h2⟩:=ZlS h'
   subst h2
   exact ⟨h1,Zda⟩
 ·cases h
end
abbrev Xn:=Nat→List PV→Option PV
def ZdP(Γ:List (Nat×Ty))(T:TypeId)(x i:PV):Option (List Obl):=
 match lk T Γ,i with
 | some ty,.v (.int _ n)=>match ty.kd,x with
   | 4,.str l=>bif decide (0≤n)&&decide (n < l.length) then some [.pr True] else none
   | 2,.agg cs=>match lk ty.elem Γ with
     | some ety=>match (chunk ety.size ty.len cs)[n.toNat]? with
       | some y=>bif decide (0≤n) then some [.idx [] 0 y] else none
       | none=>none
     | none=>none
   | _,_=>none
 | _,_=>none
def WZ(Γ:List (Nat×Ty))(T:TypeId)(x:AV)(i:PV):Option (List Obl):=
 match lk T Γ,i with
 | some ty,.v (.int _ n)=>match ty.kd,x with
   | 3,.p (.lst xs)=>match xs[n.toNat]? with
     | some y=>bif decide (0≤n) then some [.idx [] 0 y] else none
     | none=>none
   | 2,_=>bif decide (0≤n)&&decide (n < ty.len) then some [.pr True] else none
   | _,_=>none
 | _,_=>none
def W0(n:Nat)(l:List (List PV)):Bool:=l.all fun x=>Nat.beq x.length n
def X0(Γ:List (Nat×Ty))(T:TypeId)(x:PV)(lo hi:Option PV):Option (List Obl):=
 match lk T Γ with
 | some ty=>match ty.kd,x,lo,hi with
   | 4,.str l,some (.v (.int _ a)),some (.v (.int _ b))=>bif decide (0≤a)&&decide (a≤b)&&decide (b≤l.length) then some [.pr True] else none
   | 4,.str l,some (.v (.int _ a)),none=>bif decide (0≤a)&&decide (a≤l.length) then some [.pr True] else none
   | 4,.str l,none,some (.v (.int _ b))=>bif decide (0≤b)&&decide (b≤l.length) then some [.pr True] else none
   | 3,.lst l,lo,hi=>match lk ty.elem Γ,lo,hi with
     | some ety,some (.v (.int _ a)),some (.v (.int _ b))=>bif decide (0≤a)&&decide (a≤b)&&decide (b≤l.length)&&W0 ety.size l then some [.pr True] else none
     | some ety,some (.v (.int _ a)),none=>bif decide (0≤a)&&decide (a≤l.length)&&W0 ety.size l then some [.pr True] else none
     | some ety,none,some (.v (.int _ b))=>bif decide (0≤b)&&decide (b≤l.length)&&W0 ety.size l then some [.pr True] else none
     | _,_,_=>none
   | _,_,_,_=>none
 | none=>none
def bytesOf:List (List PV)→Option (List UInt8)
 | []=>some []
 | [.v (.int .u8 n)]::r=>bif decide (0≤n)&&decide (n < 256) then (match bytesOf r with | some l=>some (UInt8.ofNat n.toNat::l) | none=>none) else none
 | _=>none
def Wt(E:Env)(S:TypeId):Bool:=
 match lk S E.Γ with
 | some ty=>Nat.beq ty.kd 3&&(match lk ty.elem E.ints with | some .u8=>true | _=>false)
 | none=>false
def YG(E:Env)(S:TypeId):Bool:=
 match lk S E.Γ with
 | some ty=>Nat.beq ty.kd 4
 | none=>false
def ZnW(E:Env)(S T:TypeId)(n:Int):Option PV:=
 match lk S E.ints with
 | some _=>match lk T E.ints with
   | some k=>some (.v (.int k (k.wrap n)))
   | none=>match lk T E.flts with
     | some k=>some (.v (.float k (k.nearest n)))
     | none=>none
 | none=>none
def ZnX(E:Env)(S T:TypeId)(s:FloatKind)(b:Nat):Option PV:=
 match lk T E.ints,lk S E.flts with
 | some k,some _=>match (s.decode b).toInt .zero with
   | some n=>bif decide (k.min≤n)&&decide (n≤k.max) then some (.v (.int k n)) else none
   | none=>none
 | _,_=>none
def ZnY(E:Env)(S T:TypeId)(xs:List (List PV)):Option PV:=
 bif Wt E S&&YG E T then (match bytesOf xs with | some l=>some (.str l) | none=>none) else none
def Ze9(E:Env)(S T:TypeId)(x:PV):Option PV:=
 match x with
 | .v (.int _ n)=>ZnW E S T n
 | .v (.float s b)=>ZnX E S T s b
 | .lst xs=>ZnY E S T xs
 | .nil=>bif Wt E S&&YG E T then some (.str []) else none
 | .str l=>bif YG E S&&YG E T then some (.str l) else none
 | _=>none
def ZkX(b:Builtin)(xs:List PV):Option PV:=
 match b,xs with
 | .complex,[.v (.float k a),.v (.float k' c)]=>bif decide (k=k') then some (.v (.complex k a c)) else none
 | .real,[.v (.complex k a _)]=>some (.v (.float k a))
 | .imag,[.v (.complex k _ b)]=>some (.v (.float k b))
 | _,_=>none
def Zfl(call:Xn)(σ:St)(f:Operand)(args:List Operand):Option PV:=
 match opd σ f,XW (opd σ) args with
 | some (.p (.fn g cs)),some l=>match Xx σ.boxes l with
   | some (xs,_)=>call g (xs++cs)
   | none=>none
 | some (.fnp g bs),some l=>match Xx σ.boxes l,Zc1 σ.boxes bs with
   | some (xs,_),some cs=>call g (xs++cs)
   | _,_=>none
 | _,_=>none
def Wg(E:Env)(call:Xn)(σ:St)(o:Oper):Option (List Obl):=
 match o.op with
 | .call ⟨.value f,args,_⟩=>match Zfl call σ f args.toList with
   | some r=>some [.call 0 [] r]
   | none=>none
 | .binOp op T x y _=>match Z0 σ x,Z0 σ y with
   | some a,some b=>Xg E op T a b
   | _,_=>none
 | .index T x i=>match Z0 σ x,Z0 σ i with
   | some a,some j=>ZdP E.Γ T a j
   | _,_=>none
 | .indexAddr T x i=>match opd σ x,Z0 σ i with
   | some a,some j=>WZ E.Γ T a j
   | _,_=>none
 | .slice T x lo hi none=>match Z0 σ x with
   | some a=>match lo,hi with
     | none,none=>none
     | some l,none=>match Z0 σ l with | some l=>X0 E.Γ T a (some l) none | none=>none
     | none,some h=>match Z0 σ h with | some h=>X0 E.Γ T a none (some h) | none=>none
     | some l,some h=>match Z0 σ l,Z0 σ h with | some l,some h=>X0 E.Γ T a (some l) (some h) | _,_=>none
   | none=>none
 | .slice _ _ _ _ (some _)=>none
 | .convert S T x=>match Z0 σ x with
   | some a=>match Ze9 E S T a with
     | some r=>some [.cvt S T a r]
     | none=>none
   | none=>none
 | .call ⟨.builtin b,args,ats⟩=>match XW (Z0 σ) args.toList with
   | some xs=>match ZkX b xs with
     | some r=>some [.blt b ats o.type xs r]
     | none=>some []
   | none=>none
 | _=>some []
def ZmO(Γ:List (Nat×Ty))(T:TypeId)(l c:PV):Option PV:=
 match lk T Γ,l,c with
 | some ty,.v (.int _ n),.v (.int _ m)=>bif decide (n=m)&&decide (0≤n)&&Nat.beq ty.kd 3 then
    match lk ty.elem Γ with
    | some ety=>bif Nat.beq ety.size 0||Nat.ble 16777216 (n.toNat *ety.size)||Nat.ble 16777216 (n.toNat *ety.bytes)|| !(Nat.beq ety.zero.length ety.size) then none else some (.lst (chunk ety.size n.toNat (reps n.toNat ety.zero)))
    | none=>none
   else none
 | _,_,_=>none
def Zjz(E:Env)(S T:TypeId)(l:List UInt8):Option PV:=
 bif YG E S&&Wt E T then some (.lst (l.map fun b=>[.v (.int .u8 b.toNat)])) else none
def ZnZ:Operand→Bool
 | .const .nilIface=>true
 | _=>false
def Zoa(E:Env)(op:BinOp)(T:TypeId)(x:PV):Option PV:=
 match op,x with
 | .eql,.v .nilIface=>bif has T E.ifcs then some (.v (.bool true)) else none
 | .neq,.v .nilIface=>bif has T E.ifcs then some (.v (.bool false)) else none
 | _,_=>none
def RRgen(E:Env)(call:Xn)(σ:St)(o:Oper):Option Res:=
 match Wg E call σ o with
 | some os=>match JH E.Γ σ o os with
   | some (r,_,_)=>some r
   | none=>none
 | none=>none
def Zdb(σ:St)(o:Oper)(x:Option PV):Option Res:=
 match o.dst,x with
 | some d,some x=>bif Nat.blt d σ.n then some ⟨.p x,none,none⟩ else none
 | _,_=>none
def RR(E:Env)(call:Xn)(_:Nat)(σ:St)(o:Oper):Option Res:=
 match o.op with
 | .makeSlice T l c=>match Z0 σ l,Z0 σ c with
   | some l,some c=>Zdb σ o (ZmO E.Γ T l c)
   | _,_=>none
 | .convert S T x=>match Z0 σ x with
   | some (.str l)=>match Zjz E S T l with
     | some r=>Zdb σ o (some r)
     | none=>RRgen E call σ o
   | _=>RRgen E call σ o
 | .binOp op T x y _=>match ZnZ y with
   | true=>match Z0 σ x with
     | some a=>Zdb σ o (Zoa E op T a)
     | none=>none
   | false=>RRgen E call σ o
 | _=>RRgen E call σ o
section
variable {P:Program}{B:Nat}{g:G}{σ τ:St}{a:Act}{w:World}{o:Oper}
theorem ZwV{op:UnOp}{x:PV}{os' ob:List Obl}{r:PV}(h:Zn5 op x []=some (r,os',ob)):os'=[]∧ob=[]:=by
 unfold Zn5 at h
 split at h
 ·rename_i e;cases e
 ·split at h
  all_goals first
   | (have:=Qa_ h;cases this;exact ⟨rfl,rfl⟩)
   | (cases h;done)
theorem Zm6{Γ:List (Nat×Ty)}{b:Builtin}{ats:Array TypeId}{T:TypeId}{xs:List PV}{os' ob:List Obl}{r:PV}(h:Za6 Γ b ats T xs []=some (r,os',ob)):os'=[]∧ob=[]:=by
 unfold Za6 at h
 split at h
 ·rename_i e;cases e
 ·repeat' split at h
  all_goals first
   | (have:=Qa_ h;cases this;exact ⟨rfl,rfl⟩)
   | (cases h;done)
theorem Zsd{Γ:List (Nat×Ty)}{os' ob:List Obl}{r:Res}(h:Zo Γ σ o []=some (r,os',ob))(h1:∀op T x y yT,o.op≠ .binOp op T x y yT)(h2:∀f args ats,o.op≠ .call ⟨.value f,args,ats⟩)(h3:∀T x i,o.op≠ .index T x i)(h4:∀T x i,o.op≠ .indexAddr T x i)(h5:∀T x lo hi mx,o.op≠ .slice T x lo hi mx):os'=[]∧ob=[]:=by
 have val:∀{q:Option PV},(match q with | some x=>some ((⟨.p x,none,none⟩:Res),([]:List Obl),([]:List Obl)) | none=>none)=some (r,os',ob)→os'=[]∧ob=[]:=by
  intro q h
  split at h
  ·have:=Qa_ h;cases this;exact ⟨rfl,rfl⟩
  ·cases h
 have out:∀{q:Out PV},(∀x o1 o2,q=some (x,o1,o2)→o1=[]∧o2=[])→(match q with | some (x,os,ob)=>some ((⟨.p x,none,none⟩:Res),os,ob) | none=>none)=some (r,os',ob)→os'=[]∧ob=[]:=by
  intro q hq h
  obtain ⟨x,h1,_⟩:=YP h
  exact hq x _ _ h1
 obtain ⟨dst,op,type,pos,after,guard⟩:=o
 cases op with
 | binOp op T x y yT=>exact absurd rfl (h1 op T x y yT)
 | index T x i=>exact absurd rfl (h3 T x i)
 | indexAddr T x i=>exact absurd rfl (h4 T x i)
 | slice T x lo hi mx=>exact absurd rfl (h5 T x lo hi mx)
 | call c=>
   obtain ⟨callee,args,ats⟩:=c
   cases callee with
   | value f=>exact absurd rfl (h2 f args ats)
   | builtin b=>
     simp only[Zo] at h
     split at h
     ·exact out (fun x o1 o2 hq=>Zm6 hq) h
     ·cases h
   | invoke r m=>exact absurd h (by simp[Zo])
 | unOp op T x=>
   simp only[Zo] at h
   split at h
   ·exact out (fun x o1 o2 hq=>ZwV hq) h
   ·cases h
 | convert S T x=>
   simp only[Zo] at h
   split at h
   ·rename_i e;cases e
   ·cases h
 | pick c x y=>simp only[Zo] at h;split at h<;>first | exact val h | cases h
 | build T ps=>simp only[Zo] at h;split at h<;>first | exact val h | cases h
 | buildSlice T n ps=>simp only[Zo] at h;split at h<;>first | exact val h | cases h
 | field T x f=>simp only[Zo] at h;split at h<;>first | exact val h | cases h
 | extract x i=>simp only[Zo] at h;split at h<;>first | exact val h | cases h
 | makeFunc fn first caps=>
   cases fn with
   | func f=>
     simp only[Zo] at h
     split at h
     ·split at h
      ·cases hb:Nat.beq first.size 0 with
       | false=>rw[hb] at h;cases h
       | true=>rw[hb] at h;have:=Qa_ h;cases this;exact ⟨rfl,rfl⟩
      ·cases h
     ·cases h
   | _=>exact absurd h (by simp[Zo])
 | _=>
   first
    | (simp only[Zo] at h;(repeat' split at h);all_goals first | (have:=Qa_ h;cases this;exact ⟨rfl,rfl⟩) | (cases h;done))
    | exact absurd h (by simp[Zo])
theorem Zay{n:Nat}{l:List (List PV)}(h:W0 n l=true):Lens n l:=fun x hx=>Qj_ (QK_.1 h x hx)
theorem Zdc{Γ:List (Nat×Ty)}{T:TypeId}{x:PV}{lo hi:Option PV}{os os' ob:List Obl}{r:PV}(h:X0 Γ T x lo hi=some os)(h':YN Γ T x lo hi os=some (r,os',ob)):os'=[]∧ZY P ob:=by
 unfold X0 at h
 split at h
 ·rename_i ty hty
  split at h
  ·rename_i l k a k' b hk
   cases hb:(decide (0≤a)&&decide (a≤b)&&decide (b≤l.length)) with
   | false=>rw[hb] at h;cases h
   | true=>
     rw[hb] at h
     have:=Qa_ h
     subst this
     simp only[Qh_] at hb
     simp only[YN,hty,hk] at h'
     have:=Qa_ h'
     cases this
     exact ⟨rfl,Z5 (show 0≤a∧a≤b∧b≤l.length from ⟨Qy_ hb.1.1,Qy_ hb.1.2,Qy_ hb.2⟩)⟩
  ·rename_i l k a hk
   cases hb:(decide (0≤a)&&decide (a≤l.length)) with
   | false=>rw[hb] at h;cases h
   | true=>
     rw[hb] at h
     have:=Qa_ h
     subst this
     simp only[Qh_] at hb
     simp only[YN,hty,hk] at h'
     have:=Qa_ h'
     cases this
     exact ⟨rfl,Z5 (show 0≤a∧a≤l.length from ⟨Qy_ hb.1,Qy_ hb.2⟩)⟩
  ·rename_i l k b hk
   cases hb:(decide (0≤b)&&decide (b≤l.length)) with
   | false=>rw[hb] at h;cases h
   | true=>
     rw[hb] at h
     have:=Qa_ h
     subst this
     simp only[Qh_] at hb
     simp only[YN,hty,hk] at h'
     have:=Qa_ h'
     cases this
     exact ⟨rfl,Z5 (show 0≤b∧b≤l.length from ⟨Qy_ hb.1,Qy_ hb.2⟩)⟩
  ·rename_i l hk
   split at h
   ·rename_i ety k a k' b hety
    cases hb:(decide (0≤a)&&decide (a≤b)&&decide (b≤l.length)&&W0 ety.size l) with
    | false=>rw[hb] at h;cases h
    | true=>
      rw[hb] at h
      have:=Qa_ h
      subst this
      simp only[Qh_] at hb
      simp only[YN,hty,hk,hety] at h'
      have:=Qa_ h'
      cases this
      exact ⟨rfl,Z5 (show 0≤a∧a≤b∧b≤l.length∧Lens ety.size l from ⟨Qy_ hb.1.1.1,Qy_ hb.1.1.2,Qy_ hb.1.2,Zay hb.2⟩)⟩
   ·rename_i ety k a hety
    cases hb:(decide (0≤a)&&decide (a≤l.length)&&W0 ety.size l) with
    | false=>rw[hb] at h;cases h
    | true=>
      rw[hb] at h
      have:=Qa_ h
      subst this
      simp only[Qh_] at hb
      simp only[YN,hty,hk,hety] at h'
      have:=Qa_ h'
      cases this
      exact ⟨rfl,Z5 (show 0≤a∧a≤l.length∧Lens ety.size l from ⟨Qy_ hb.1.1,Qy_ hb.1.2,Zay hb.2⟩)⟩
   ·rename_i ety k b hety
    cases hb:(decide (0≤b)&&decide (b≤l.length)&&W0 ety.size l) with
    | false=>rw[hb] at h;cases h
    | true=>
      rw[hb] at h
      have:=Qa_ h
      subst this
      simp only[Qh_] at hb
      simp only[YN,hty,hk,hety] at h'
      have:=Qa_ h'
      cases this
      exact ⟨rfl,Z5 (show 0≤b∧b≤l.length∧Lens ety.size l from ⟨Qy_ hb.1.1,Qy_ hb.1.2,Zay hb.2⟩)⟩
   ·cases h
  ·cases h
 ·cases h
theorem Zfm{E:Env}(hE:EnvOk P E){S:TypeId}(h:Wt E S=true):∃e,P.underlying S=some (.slice e)∧P.underlying e=some (.int .u8):=by
 unfold Wt at h
 split at h
 ·rename_i ty hty
  rw[Qh_] at h
  obtain ⟨_,hk3,_⟩:=Yz (ZJ (hE.Γ _ _ hty))
  refine ⟨ty.elem,hk3 (Qj_ h.1), ?_⟩
  have h2:=h.2
  split at h2
  ·rename_i hu;exact hE.ints _ _ hu
  ·cases h2
 ·cases h
theorem ZaA{E:Env}(hE:EnvOk P E){S:TypeId}(h:YG E S=true):P.underlying S=some .string:=by
 unfold YG at h
 split at h
 ·rename_i ty hty
  exact (Yz (ZJ (hE.Γ _ _ hty))).2.2 (Qj_ h)
 ·cases h
theorem Zeq:∀{xs:List (List PV)} {l:List UInt8},bytesOf xs=some l→l.length=xs.length∧∀(j:Nat) (hj:j < l.length),xs[j]?=some [.v (.int .u8 (l[j].toNat:Int))]
 | [],l,h=>by
   have:=Qa_ h
   subst this
   exact ⟨rfl,fun j hj=>by simp at hj⟩
 | x::r,l,h=>by
   unfold bytesOf at h
   split at h
   ·rename_i e;cases e
   ·rename_i n r' e
    cases e
    cases hb:(decide (0≤n)&&decide (n < 256)) with
    | false=>rw[hb] at h;cases h
    | true=>
      rw[hb] at h
      simp only[Qb_] at h
      rw[Qh_] at hb
      have h0:=Qy_ hb.1
      have h1:=Qy_ hb.2
      split at h
      ·rename_i l' hl'
       have:=Qa_ h
       subst this
       obtain ⟨e1,e2⟩:=Zeq hl'
       refine ⟨by simp[e1],fun j hj=>?_⟩
       cases j with
       | zero=>
         have:((UInt8.ofNat n.toNat).toNat:Int)=n:=by
          rw[UInt8.toNat_ofNat']
          omega
         simp only[List.getElem?_cons_zero,List.getElem_cons_zero,this]
       | succ j=>
         simp only[List.getElem?_cons_succ,List.getElem_cons_succ]
         exact e2 j (by simpa using hj)
      ·cases h
   ·cases h
theorem Zse{E:Env}(hE:EnvOk P E){S T:TypeId}{x r:PV}(h:Ze9 E S T x=some r):(Obl.cvt S T x r).holds P:=by
 unfold Ze9 at h
 split at h
 ·rename_i k n
  unfold ZnW at h
  split at h
  ·rename_i k2 hS
   have e2:=hE.ints S k2 hS
   split at h
   ·rename_i k1 hT
    have:=Qa_ h
    subst this
    intro hw w vx hx
    rw[Z7 hx]
    have e1:=hE.ints T k1 hT
    have e3:P.intKind T=k1:=by simp[Program.intKind,e1]
    exact ⟨.int k1 (k1.wrap n),by rw[run_convert_int w S T k n (by rw[e2];rfl) (by rw[e3];exact e1),e3],.v _ rfl⟩
   ·split at h
    ·rename_i k1 hT
     have:=Qa_ h
     subst this
     intro hw w vx hx
     rw[Z7 hx]
     exact ⟨_,run_convert_int_float w S T k k1 n (by rw[e2];rfl) (hE.flts T k1 hT),.v _ rfl⟩
    ·cases h
  ·cases h
 ·rename_i s b
  unfold ZnX at h
  split at h
  ·rename_i k k2 hT hS
   split at h
   ·rename_i n hn
    cases hb:(decide (k.min≤n)&&decide (n≤k.max)) with
    | false=>rw[hb] at h;cases h
    | true=>
      rw[hb] at h
      have:=Qa_ h
      subst this
      rw[Qh_] at hb
      have hr:k.min≤n∧n≤k.max:=⟨Qy_ hb.1,Qy_ hb.2⟩
      intro hw w vx hx
      rw[Z7 hx]
      refine ⟨.int k n, ?_,.v _ rfl⟩
      have e1:=hE.ints T k hT
      have e2:=hE.flts S k2 hS
      have e3:(convert S T (.float s b)).run P w=(Conv.floatToInt s b k).run P w:=by simp[convert,run_underlying e1,run_underlying e2]
      rw[e3]
      simp[Conv.floatToInt,hn,hr]
   ·cases h
  ·cases h
 ·rename_i xs
  unfold ZnY at h
  cases hb:(Wt E S&&YG E T) with
  | false=>rw[hb] at h;cases h
  | true=>
    rw[hb] at h
    simp only[Qb_] at h
    rw[Qh_] at hb
    obtain ⟨e,hS,he⟩:=Zfm hE hb.1
    have hT:=ZaA hE hb.2
    split at h
    ·rename_i l hl
     have:=Qa_ h
     subst this
     obtain ⟨h1,h2⟩:=Zeq hl
     intro hw w vx hx
     generalize hq:(PV.lst xs)=q at *
     cases hx with
     | lnil=>
       cases hq
       cases hl
       refine ⟨.string ⟨([]:List UInt8).toArray⟩, ?_,.str []⟩
       rw[run_convert_bytes_string w S T e none 0 0 hS he hT]
       rfl
     | lst xs' blk off cap s c hcap hlen hc hr h1' hh=>
       cases hq
       refine ⟨.string ⟨l.toArray⟩, ?_,.str l⟩
       rw[←h1]
       refine run_convert_bytes_back w S T e ⟨blk,off,none⟩ cap l hS he hT fun j hj=>?_
       have hx:=h2 j hj
       have hs:s=1:=(hlen j _ hx).symm
       subst hs
       have:=hc j 0 (by omega) (by omega)
       rw[Addr.add_lit]
       simp only[Nat.mul_one,Nat.add_zero] at this
       rw[this]
       have:=hr j 0 _ _ hx rfl
       rw[Z7 this]
     | _=>cases hq
    ·cases h
 ·cases hb:(Wt E S&&YG E T) with
  | false=>rw[hb] at h;cases h
  | true=>
    rw[hb] at h
    have:=Qa_ h
    subst this
    rw[Qh_] at hb
    obtain ⟨e,hS,he⟩:=Zfm hE hb.1
    have hT:=ZaA hE hb.2
    intro hw w vx hx
    cases hx
    refine ⟨.string ⟨([]:List UInt8).toArray⟩, ?_,.str []⟩
    rw[run_convert_bytes_string w S T e none 0 0 hS he hT]
    rfl
 ·rename_i l
  cases hb:(YG E S&&YG E T) with
  | false=>rw[hb] at h;cases h
  | true=>
    rw[hb] at h
    have:=Qa_ h
    subst this
    rw[Qh_] at hb
    intro hw w vx hx
    rw[YD hx]
    exact ⟨.string ⟨l.toArray⟩,by simp[convert,run_underlying (ZaA hE hb.1),run_underlying (ZaA hE hb.2)],.str l⟩
 ·cases h
theorem Zfn{hw:Nat→Nat}{w:World}{vals:List Value}{x:PV}(h:ArgsRep hw w vals [x]):∃v,vals=[v]∧Rep hw w v x:=by
 have hl:=h.len
 cases vals with
 | nil=>simp at hl
 | cons v r=>cases r with
   | nil=>exact ⟨v,rfl,h.rep 0 v x rfl rfl⟩
   | cons _ _=>simp at hl
theorem Zfo{hw:Nat→Nat}{w:World}{vals:List Value}{x y:PV}(h:ArgsRep hw w vals [x,y]):∃v u,vals=[v,u]∧Rep hw w v x∧Rep hw w u y:=by
 have hl:=h.len
 cases vals with
 | nil=>simp at hl
 | cons v r=>cases r with
   | nil=>simp at hl
   | cons u r=>cases r with
     | nil=>exact ⟨v,u,rfl,h.rep 0 v x rfl rfl,h.rep 1 u y rfl rfl⟩
     | cons _ _=>simp at hl
theorem Zsf{b:Builtin}{ats:Array TypeId}{T:TypeId}{xs:List PV}{r:PV}(h:ZkX b xs=some r):(Obl.blt b ats T xs r).holds P:=by
 intro hw w vals cs hx
 unfold ZkX at h
 split at h
 ·rename_i k a k' c
  cases hk:decide (k=k') with
  | false=>rw[hk] at h;cases h
  | true=>
    rw[hk] at h
    have:=Qy_ hk
    subst this
    have:=Qa_ h
    subst this
    obtain ⟨v,u,rfl,h1,h2⟩:=Zfo hx
    rw[Z7 h1,Z7 h2]
    have e:Builtin.complex_ ats T #[.float k a,.float k c]=pure (.complex k a c):=if_pos rfl
    refine ⟨.complex k a c, ?_,.v _ rfl⟩
    show (do pure (Next.value (←Builtin.complex_ ats T #[.float k a,.float k c])):Sem Next).run P w=_
    rw[e]
    rfl
 ·have:=Qa_ h
  subst this
  obtain ⟨v,rfl,h1⟩:=Zfn hx
  rw[Z7 h1]
  exact ⟨_,rfl,.v _ rfl⟩
 ·have:=Qa_ h
  subst this
  obtain ⟨v,rfl,h1⟩:=Zfn hx
  rw[Z7 h1]
  exact ⟨_,rfl,.v _ rfl⟩
 ·cases h
def ZbU(P:Program)(call:Xn):Prop:=∀f args r,call f args=some r→Con P f args r
theorem ZwW{E:Env}(hE:EnvOk P E){call:Xn}(hC:ZbU P call){os os' ob:List Obl}{r:Res}(h:Wg E call σ o=some os)(h':Zo E.Γ σ o os=some (r,os',ob)):os'=[]∧ZY P ob:=by
 have nil:os=[]→(∀op T x y yT,o.op≠ .binOp op T x y yT)→(∀f args ats,o.op≠ .call ⟨.value f,args,ats⟩)→(∀T x i,o.op≠ .index T x i)→(∀T x i,o.op≠ .indexAddr T x i)→(∀T x lo hi mx,o.op≠ .slice T x lo hi mx)→os'=[]∧ZY P ob:=by
  intro e h1 h2 h3 h4 h5
  subst e
  obtain ⟨q1,q2⟩:=Zsd h' h1 h2 h3 h4 h5
  subst q2
  exact ⟨q1,Zda⟩
 unfold Wg at h
 split at h
 ·rename_i f args ats hop
  split at h
  ·rename_i r0 hr0
   have:=Qa_ h
   subst this
   obtain ⟨dst,op,type,pos,after,guard⟩:=o
   simp only at hop
   subst hop
   simp only[Zo] at h'
   unfold Zfl at hr0
   split at hr0
   ·rename_i g0 cs l hf hl
    rw[hf,hl] at h'
    simp only at h'
    split at hr0
    ·rename_i xs c hh
     rw[hh] at h'
     simp only at h'
     cases hb:(!c||flat r0) with
     | false=>rw[hb] at h';cases h'
     | true=>
       rw[hb] at h'
       have:=Qa_ h'
       cases this
       exact ⟨rfl,Z5 (hC _ _ _ hr0)⟩
    ·cases hr0
   ·rename_i g0 bs l hf hl
    rw[hf,hl] at h'
    simp only at h'
    split at hr0
    ·rename_i xs c cs hh hbs
     rw[hh,hbs] at h'
     simp only at h'
     cases hb:flat r0 with
     | false=>rw[hb] at h';cases h'
     | true=>
       rw[hb] at h'
       have:=Qa_ h'
       cases this
       exact ⟨rfl,Z5 (hC _ _ _ hr0)⟩
    ·cases hr0
   ·cases hr0
  ·cases h
 ·rename_i op T x y yT hop
  split at h
  ·rename_i u v hu hv
   obtain ⟨dst,op',type,pos,after,guard⟩:=o
   simp only at hop
   subst hop
   simp only[Zo,hu,hv] at h'
   obtain ⟨q,h1,_⟩:=YP h'
   exact Zsc hE h h1
  ·cases h
 ·rename_i T x i hop
  split at h
  ·rename_i u v hu hv
   obtain ⟨dst,op',type,pos,after,guard⟩:=o
   simp only at hop
   subst hop
   simp only[Zo,hu,hv] at h'
   obtain ⟨q,h1,_⟩:=YP h'
   unfold ZdP at h
   split at h
   ·rename_i ty k n hty
    split at h
    ·rename_i l hk
     cases hb:(decide (0≤n)&&decide (n < l.length)) with
     | false=>rw[hb] at h;cases h
     | true=>
       rw[hb] at h
       have:=Qa_ h
       subst this
       rw[Qh_] at hb
       unfold Zbp at h1
       simp only[hty,hk] at h1
       have:=Qa_ h1
       cases this
       exact ⟨rfl,Z5 (show 0≤n∧n < l.length from ⟨Qy_ hb.1,Qy_ hb.2⟩)⟩
    ·rename_i cs hk
     split at h
     ·rename_i ety hety
      split at h
      ·rename_i y hy
       cases hb:decide (0≤n) with
       | false=>rw[hb] at h;cases h
       | true=>
         rw[hb] at h
         have:=Qa_ h
         subst this
         unfold Zbp at h1
         simp only[hty,hk,hety] at h1
         cases hb2:(Nat.beq cs.length (ty.len *ety.size)&& !(Nat.beq ety.size 0)) with
         | false=>rw[hb2] at h1;cases h1
         | true=>
           rw[hb2] at h1
           simp only[Qb_] at h1
           split at h1
           ·cases hb3:Nat.beq y.length ety.size with
            | false=>rw[hb3] at h1;cases h1
            | true=>
              rw[hb3] at h1
              have:=Qa_ h1
              cases this
              exact ⟨rfl,Z5 (show 0≤n∧(chunk ety.size ty.len cs)[n.toNat]?=some y from ⟨Qy_ hb,hy⟩)⟩
           ·cases h1
      ·cases h
     ·cases h
    ·cases h
   ·cases h
  ·cases h
 ·rename_i T x i hop
  split at h
  ·rename_i u v hu hv
   obtain ⟨dst,op',type,pos,after,guard⟩:=o
   simp only at hop
   subst hop
   unfold WZ at h
   split at h
   ·rename_i ty k n hty
    simp only[Zo,hty,hu,hv] at h'
    split at h
    ·rename_i xs hk
     split at h
     ·rename_i y hy
      cases hb:decide (0≤n) with
      | false=>rw[hb] at h;cases h
      | true=>
        rw[hb] at h
        have:=Qa_ h
        subst this
        simp only[hk] at h'
        split at h'
        ·rename_i ety xs' i' y' os2 hety heq
         cases heq
         cases hb2:(Nat.beq y.length ety.size&& !(Nat.beq ety.size 0)) with
         | false=>rw[hb2] at h';cases h'
         | true=>
           rw[hb2] at h'
           have:=Qa_ h'
           cases this
           exact ⟨rfl,Z5 (show 0≤n∧xs[n.toNat]?=some y from ⟨Qy_ hb,hy⟩)⟩
        ·cases h'
     ·cases h
    ·rename_i hk
     cases hb:(decide (0≤n)&&decide (n < ty.len)) with
     | false=>rw[hb] at h;cases h
     | true=>
       rw[hb] at h
       have:=Qa_ h
       subst this
       rw[Qh_] at hb
       have hp:0≤n∧n < ty.len:=⟨Qy_ hb.1,Qy_ hb.2⟩
       simp only[hk] at h'
       split at h'
       ·rename_i e;cases e
       ·split at h'
        ·rename_i e;cases e;have:=Qa_ h';cases this;exact ⟨rfl,Z5 hp⟩
        ·cases h'
       ·split at h'
        ·rename_i e;cases e;have:=Qa_ h';cases this;exact ⟨rfl,Z5 hp⟩
        ·cases h'
       ·cases h'
    ·cases h
   ·cases h
  ·cases h
 ·rename_i T x lo hi hop
  obtain ⟨dst,op',type,pos,after,guard⟩:=o
  simp only at hop
  subst hop
  simp only[Zo] at h'
  split at h
  ·rename_i u hu
   rw[hu] at h'
   simp only at h'
   split at h
   ·cases h
   ·rename_i l
    split at h
    ·rename_i lv hlv
     simp only[hlv] at h'
     obtain ⟨q,h1,_⟩:=YP h'
     exact Zdc h h1
    ·cases h
   ·rename_i hh
    split at h
    ·rename_i hv hhv
     simp only[hhv] at h'
     obtain ⟨q,h1,_⟩:=YP h'
     exact Zdc h h1
    ·cases h
   ·rename_i l hh
    split at h
    ·rename_i lv hv hlv hhv
     simp only[hlv,hhv] at h'
     obtain ⟨q,h1,_⟩:=YP h'
     exact Zdc h h1
    ·cases h
  ·cases h
 ·cases h
 ·rename_i S T x hop
  obtain ⟨dst,op',type,pos,after,guard⟩:=o
  simp only at hop
  subst hop
  simp only[Zo] at h'
  split at h
  ·rename_i u hu
   rw[hu] at h'
   split at h
   ·rename_i r0 hr0
    have:=Qa_ h
    subst this
    simp only at h'
    have:=Qa_ h'
    cases this
    exact ⟨rfl,Z5 (Zse hE hr0)⟩
   ·cases h
  ·cases h
 ·rename_i b args ats hop
  split at h
  ·rename_i xs hxs
   split at h
   ·rename_i r0 hr0
    have:=Qa_ h
    subst this
    obtain ⟨dst,op',type,pos,after,guard⟩:=o
    simp only at hop
    subst hop
    simp only[Zo,hxs,Za6] at h'
    have:=Qa_ h'
    cases this
    exact ⟨rfl,Z5 (Zsf hr0)⟩
   ·exact nil (Qa_ h).symm (fun op T x y yT e=>by rw[hop] at e;cases e) (fun f args ats e=>by rw[hop] at e;cases e) (fun T x i e=>by rw[hop] at e;cases e) (fun T x i e=>by rw[hop] at e;cases e) (fun T x lo hi mx e=>by rw[hop] at e;cases e)
  ·cases h
 ·rename_i q1 q2 q3 q4 q5 q6 q7 q8
  exact nil (Qa_ h).symm (fun op T x y yT e=>q2 op T x y yT e) (fun f args ats e=>q1 f args ats e) (fun T x i e=>q3 T x i e) (fun T x i e=>q4 T x i e) (fun T x lo hi mx e=>by
   cases mx with
   | none=>exact q5 T x lo hi e
   | some m=>exact q6 T x lo hi m e)
theorem Zqu{Γ:List (Nat×Ty)}(hΓ:Ye P Γ){hw:Nat→Nat}(hl0:∀k,w.heap.size≤k→hw k=0){T:TypeId}{l c x:PV}(h:ZmO Γ T l c=some x){vl vc:Value}(hl:Rep hw w vl l)(hc:Rep hw w vc c):
 ∃v w' hw',(Instr.makeSlice T vl vc).run P w= .ok v w'∧Qt hw w hw' w'∧Rep hw' w' v x:=by
 unfold ZmO at h
 split at h
 ·rename_i ty k n k' m hty
  cases hb:(decide (n=m)&&decide (0≤n)&&Nat.beq ty.kd 3) with
  | false=>rw[hb] at h;cases h
  | true=>
    rw[hb] at h
    simp only[Qb_] at h
    simp only[Qh_] at hb
    obtain ⟨⟨b1,b2⟩,b3⟩:=hb
    have e1:=Qy_ b1
    have e2:=Qy_ b2
    have hkd:=Qj_ b3
    subst e1
    split at h
    ·rename_i ety hety
     cases hb:(Nat.beq ety.size 0||Nat.ble 16777216 (n.toNat *ety.size)||Nat.ble 16777216 (n.toNat *ety.bytes)|| !(Nat.beq ety.zero.length ety.size)) with
     | true=>rw[hb] at h;cases h
     | false=>
       rw[hb] at h
       have:=Qa_ h
       subst this
       simp only[Ka_,Qf_] at hb
       obtain ⟨⟨⟨c1,c2⟩,c3⟩,c4⟩:=hb
       have hs0:ety.size≠0:=fun h0=>by rw[h0] at c1;exact absurd c1 (by decide)
       have hn1:n.toNat *ety.size < 16777216:=by
        rcases Kh_ (n.toNat *ety.size) 16777216 with h | h
        ·exact h
        ·rw[QF_ h] at c2;cases c2
       have hn2:n.toNat *ety.bytes < 16777216:=by
        rcases Kh_ (n.toNat *ety.bytes) 16777216 with h | h
        ·exact h
        ·rw[QF_ h] at c3;cases c3
       have hET:=ZJ (hΓ _ _ hety)
       obtain ⟨i,z,hi,hz,s1,s2,s3,s4,s5⟩:=hET.info
       obtain ⟨_,hk3,_⟩:=Yz (ZJ (hΓ _ _ hty))
       have hu:=hk3 hkd
       rw[Z7 hl,Z7 hc]
       have hnn:(n.toNat:Int)=n:=Int.toNat_of_nonneg e2
       have hle:n.toNat≤n.toNat *ety.size:=Nat.le_mul_of_pos_right _ (by omega)
       have hrun:=run_makeSlice (P:=P) w T ty.elem i z hu hi hz k k' n n e2 (Int.le_refl _) (by rw[←s1];omega) (by rw[←s2,←hnn,←Int.natCast_mul,Nat.mul_comm];omega) (by omega)
       have hcells:madeCells z.cells (n.toNat *i.size)=(Xl n.toNat z.cells.toList++[]).toArray:=by
        rw[QI_,←s5]
        exact Zc3 (by rw[s5,←s1];omega) n.toNat
       rw[hcells] at hrun
       have hlen:(reps n.toNat ety.zero).length=n.toNat *ety.size:=by rw[ZwG,Qj_ c4]
       refine ⟨_,_,fun k=>if k=w.heap.size then n.toNat *ety.size else hw k,hrun,ZeT hl0 (fun k hk=>by simp[hk]) _, ?_⟩
       refine ZeU hl0 ?_ hlen (Q2_ _) ty.elem
       rw[s3]
       exact ZcW s4 n.toNat
    ·cases h
 ·cases h
theorem Zqv{E:Env}(hE:EnvOk P E){hw:Nat→Nat}(hl0:∀k,w.heap.size≤k→hw k=0){S T:TypeId}{l:List UInt8}{x:PV}(h:Zjz E S T l=some x):
 ∃v w' hw',(convert S T (.string ⟨l.toArray⟩)).run P w= .ok v w'∧Qt hw w hw' w'∧Rep hw' w' v x:=by
 unfold Zjz at h
 cases hb:(YG E S&&Wt E T) with
 | false=>rw[hb] at h;cases h
 | true=>
   rw[hb] at h
   have:=Qa_ h
   subst this
   rw[Qh_] at hb
   obtain ⟨e,hT,he⟩:=Zfm hE hb.2
   have hrun:=run_bytes_of_string (P:=P) w S T e ⟨l.toArray⟩ (ZaA hE hb.1) hT he
   have hsz:(⟨l.toArray⟩:ByteArray).size=l.length:=by show l.toArray.size=_;simp
   rw[hsz] at hrun
   refine ⟨_,_,fun k=>if k=w.heap.size then l.length else hw k,hrun,⟨((Below.refl _ _).drew).alloc (Q2_ _) _,fun k hk=>if_neg (by omega),fun k hk=>?_⟩, ?_⟩
   ·have:w.heap.size < k:=by
     have h2:w.heap.size+1≤k:=by simpa using hk
     omega
    exact (if_neg (by omega)).trans (hl0 k (by omega))
   ·have key:=fun j=>World.cell?_alloc_mark w.drew (bytesRow ⟨l.toArray⟩ (grownCap w l.length 0 e)) e ((bytesRow ⟨l.toArray⟩ (grownCap w l.length 0 e)).size,(bytesRow ⟨l.toArray⟩ (grownCap w l.length 0 e)).size+1) j
    have hget:∀j,(hj:j < l.length)→(bytesRow ⟨l.toArray⟩ (grownCap w l.length 0 e))[j]?=some (.int .u8 (l[j].toNat:Int)):=by
     intro j hj
     unfold bytesRow
     rw[K8_ (by simpa using hj)]
     simp[hj]
    have hlen:(l.map fun b=>[PV.v (.int .u8 b.toNat)]).length=l.length:=by simp
    have:=Rep.lst (hw:=fun k=>if k=w.heap.size then l.length else hw k) (w:=w.drew.alloc (.cells (bytesRow ⟨l.toArray⟩ (grownCap w l.length 0 e)) e ((bytesRow ⟨l.toArray⟩ (grownCap w l.length 0 e)).size,(bytesRow ⟨l.toArray⟩ (grownCap w l.length 0 e)).size+1)))
     (l.map fun b=>[PV.v (.int .u8 b.toNat)]) w.heap.size 0 (grownCap w l.length 0 e) 1 (fun i _=> .int .u8 ((l.getD i 0).toNat:Int)) (by rw[hlen];exact grownCap_ge _ _ _ _) (fun i x hx=>?_) (fun i j hi hj=>?_) (fun i j x y hx hy=>?_) (fun i j _ _=>rfl) (by rw[hlen];simp)
    ·rw[hlen] at this;exact this
    ·rw[Q6_] at hx
     cases hq:l[i]? with
     | none=>rw[hq] at hx;cases hx
     | some q=>rw[hq] at hx;have:=Qa_ hx;subst this;rfl
    ·rw[hlen] at hi
     have hj0:j=0:=by omega
     subst hj0
     rw[Nat.mul_one,QP_,Nat.add_zero]
     refine (key i).trans ?_
     rw[hget i hi]
     simp[hi]
    ·rw[Q6_] at hx
     cases hq:l[i]? with
     | none=>rw[hq] at hx;cases hx
     | some q=>
       rw[hq] at hx
       have:=Qa_ hx
       subst this
       cases j with
       | zero=>
         have:=Qa_ hy
         subst this
         have:l.getD i 0=q:=by simp[hq]
         rw[this]
         exact .v _ rfl
       | succ j=>simp at hy
theorem ZdQ(d:Nat){T:TypeId}{ms:Array (String×TypeId)}(hu:P.underlying T=some (.interface ms)):(Op.equalIn (d+1) T .nilIface .nilIface).run P w= .ok true w:=by
 simp[Op.equalIn,run_underlying hu]
theorem ZuF{E:Env}(hE:EnvOk P E){op:BinOp}{T:TypeId}{x r:PV}(h:Zoa E op T x=some r){hw:Nat→Nat}{vx:Value}(hx:Rep hw w vx x)(ox:Operand):
 ∃v,(do eqGuard op T ox (.const .nilIface) vx .nilIface;binOp op T vx .nilIface:Sem Value).run P w= .ok v w∧Rep hw w v r:=by
 unfold Zoa at h
 split at h
 ·cases hb:has T E.ifcs with
  | false=>rw[hb] at h;cases h
  | true=>
    rw[hb] at h
    have:=Qa_ h
    subst this
    obtain ⟨ms,hu⟩:=hE.ifcs T hb
    rw[Z7 hx]
    have he:(Op.equal T .nilIface .nilIface).run P w= .ok true w:=by
     exact ZdQ 9999 hu
    exact ⟨.bool true,by simp[eqGuard,binOp,he],.v _ rfl⟩
 ·cases hb:has T E.ifcs with
  | false=>rw[hb] at h;cases h
  | true=>
    rw[hb] at h
    have:=Qa_ h
    subst this
    obtain ⟨ms,hu⟩:=hE.ifcs T hb
    rw[Z7 hx]
    have he:(Op.equal T .nilIface .nilIface).run P w= .ok true w:=by
     exact ZdQ 9999 hu
    exact ⟨.bool false,by simp[eqGuard,binOp,he],.v _ rfl⟩
 ·cases h
theorem Zfp{o:Oper}{x:Option PV}{r:Res}(h:Zdb σ o x=some r):∃d y,o.dst=some d∧x=some y∧d < σ.n∧r=⟨.p y,none,none⟩:=by
 unfold Zdb at h
 split at h
 ·rename_i d y hd
  cases hb:Nat.blt d σ.n with
  | false=>rw[hb] at h;cases h
  | true=>
    rw[hb] at h
    exact ⟨d,y,hd,rfl,Qm_ hb,(Qa_ h).symm⟩
 ·cases h
theorem Zfq{E:Env}(hE:EnvOk P E){call:Xn}(hC:ZbU P call):∀τ o r,RRgen E call τ o=some r→XU P τ o r:=by
 intro τ o r h B g a w hI
 unfold RRgen at h
 split at h
 ·rename_i os hos
  split at h
  ·rename_i r0 os' ob hq
   have:=Qa_ h
   subst this
   refine Zqp hE.Γ hI hq ?_
   unfold JH at hq
   split at hq
   ·rename_i r1 os1 ob1 h1
    obtain ⟨e1,e2⟩:=ZwW hE hC hos h1
    subst e1
    split at hq
    ·rename_i d hd
     split at hq
     ·rename_i r2 os2 ob2 h2
      cases hb:(Nat.blt d τ.n&&Zgd d r2.link) with
      | false=>rw[hb] at hq;cases hq
      | true=>
        rw[hb] at hq
        have:=Qa_ hq
        cases this
        have hob:ob2=[]:=by
         have e:rewr d r1 []=some (r1,[],[]):=rfl
         rw[e] at h2
         have:=Qa_ h2
         cases this
         rfl
        rw[hob,QI_]
        exact e2
     ·cases hq
    ·have:=Qa_ hq
     cases this
     exact e2
   ·cases hq
  ·cases h
 ·cases h
theorem Z1U{E:Env}(hE:EnvOk P E){call:Xn}(hC:ZbU P call):∀j τ o r,RR E call j τ o=some r→XU P τ o r:=by
 intro j τ o r h
 have fin:∀{y:PV} {d:Nat},o.dst=some d→d < τ.n→(∀B g a w,Inv P B g τ a w→∃v w' hw',(execOp a.eval o).run P w= .ok (.value v) w'∧Qt g.hw w hw' w'∧Rep hw' w' v y)→XU P τ o ⟨.p y,none,none⟩:=by
  intro y d hd hlt hrun B g a w hI
  refine ⟨?_,fun d' hd'=>?_⟩
  ·obtain ⟨v,w',hw',h1,h2,h3⟩:=hrun B g a w hI
   exact .inl ⟨v,w',h1,⟨g.β,hw'⟩,h2,h3,fun _=>rfl,fun _ h=>absurd h (by simp),fun _ h=>absurd h (by simp),fun _=>⟨fun _ _ h=>absurd h (by simp),fun _ _ h=>absurd h (by simp),fun _ _ _ _ h=>absurd h (by simp)⟩⟩
  ·rw[hd] at hd'
   have:=Qa_ hd'
   subst this
   exact ⟨hlt,fun l h=>absurd h (by simp)⟩
 unfold RR at h
 split at h
 ·rename_i T l c hop
  split at h
  ·rename_i pl pc hl hc
   obtain ⟨d,y,hd,hx,hlt,rfl⟩:=Zfp h
   refine fin hd hlt fun B g a w hI=>?_
   obtain ⟨v,w',hw',h1,h2,h3⟩:=Zqu hE.Γ hI.hwlt hx (Zy hI hl) (Zy hI hc)
   refine ⟨v,w',hw', ?_,h2,h3⟩
   unfold execOp
   rw[hop]
   exact ZO h1
  ·cases h
 ·rename_i S T x hop
  split at h
  ·rename_i l hx
   split at h
   ·rename_i r0 hr0
    obtain ⟨d,y,hd,hy,hlt,rfl⟩:=Zfp h
    cases hy
    refine fin hd hlt fun B g a w hI=>?_
    obtain ⟨v,w',hw',h1,h2,h3⟩:=Zqv hE hI.hwlt hr0
    refine ⟨v,w',hw', ?_,h2,h3⟩
    have h1':(convert S T (a.eval x)).run P w= .ok v w':=by rw[YD (Zy hI hx)];exact h1
    unfold execOp
    rw[hop]
    exact ZO h1'
   ·exact Zfq hE hC τ o r h
  ·exact Zfq hE hC τ o r h
 ·rename_i op T x y yT hop
  split at h
  ·rename_i hn
   split at h
   ·rename_i u hu
    obtain ⟨d,q,hd,hq,hlt,rfl⟩:=Zfp h
    have hyc:y= .const .nilIface:=by
     unfold ZnZ at hn
     split at hn
     ·rfl
     ·cases hn
    refine fin hd hlt fun B g a w hI=>?_
    obtain ⟨v,h1,h2⟩:=ZuF (P:=P) (w:=w) hE hq (Zy hI hu) x
    refine ⟨v,w,g.hw, ?_,Qt.refl hI.hwlt,h2⟩
    unfold execOp
    rw[hop,hyc]
    exact ZO h1
   ·cases h
  ·exact Zfq hE hC τ o r h
 ·exact Zfq hE hC τ o r h
end
def Zaz(n:Nat):AV→AV
 | .p x=> .p x
 | .ptr b off=> .ptr (b+n) off
 | .fnp f bs=> .fnp f (bs.map fun b=>b+n)
 | .sl b off m s=> .sl (b+n) off m s
def Zj0:Nat→List AV→List (Nat×AV)
 | _,[]=>[]
 | i,x::r=>(i,x)::Zj0 (i+1) r
def Zgq(n:Nat):List (Nat×List PV)→List (Nat×List PV)
 | []=>[]
 | (b,cs)::r=>(b+n,cs)::Zgq n r
def shO(n:Nat):List (Loc×Nat)→List (Loc×Nat)
 | []=>[]
 | (.b b c,E)::r=>(.b (b+n) c,E)::shO n r
 | (.t _,_)::r=>shO n r
def W9(n:Nat)(σ:St)(args:List AV):St:=⟨n,Zj0 0 (args.map (Zaz n)),Zgq n σ.boxes,σ.ro.map (fun b=>b+n),shO n σ.own,[]⟩
def Zer(n:Nat):List (Nat×List PV)→List (Nat×List PV)
 | []=>[]
 | (b,cs)::r=>bif Nat.ble n b then (b - n,cs)::Zer n r else Zer n r
def bkR(n:Nat):List Nat→List Nat
 | []=>[]
 | b::r=>bif Nat.ble n b then (b - n)::bkR n r else bkR n r
def bkO(n:Nat):List (Loc×Nat)→List (Loc×Nat)
 | []=>[]
 | (.b b c,E)::r=>bif Nat.ble n b then (.b (b - n) c,E)::bkO n r else bkO n r
 | (.t _,_)::r=>bkO n r
def JK(n:Nat)(σ σc:St):St:=
 {σ with boxes:=Zer n σc.boxes,ro:=bkR n σc.ro,own:=bkO n σc.own,al:=[]}
theorem ZkY(n:Nat):∀(l:List (Nat×List PV)) (k:Nat),lk (k+n) (Zgq n l)=lk k l
 | [],_=>rfl
 | (b,cs)::r,k=>by
   unfold Zgq
   rw[Zn,Zn,ZkY n r k]
   by_cases h:k=b
   ·subst h;simp
   ·rw[if_neg (by omega),if_neg h]
theorem Zc7{n:Nat}:∀{l:List (Nat×List PV)} {k:Nat} {cs:List PV},lk k (Zgq n l)=some cs→n≤k∧lk (k - n) l=some cs
 | [],k,cs,h=>by simp[Zgq,lk] at h
 | (b,c)::r,k,cs,h=>by
   unfold Zgq at h
   rw[Zn] at h
   split at h
   ·rename_i e
    subst e
    refine ⟨by omega, ?_⟩
    rw[Zn,if_pos (by omega)]
    exact h
   ·rename_i hne
    obtain ⟨h1,h2⟩:=Zc7 h
    refine ⟨h1, ?_⟩
    rw[Zn,if_neg (by omega)]
    exact h2
theorem ZkZ(n:Nat):∀(l:List (Nat×List PV)) (k:Nat),lk k (Zer n l)=lk (k+n) l
 | [],_=>rfl
 | (b,cs)::r,k=>by
   unfold Zer
   cases hb:Nat.ble n b with
   | true=>
     have hb:=Qm_ hb
     rw[Qb_,Zn,Zn,ZkZ n r k]
     by_cases h:k+n=b
     ·rw[if_pos (by omega),if_pos h]
     ·rw[if_neg (by omega),if_neg h]
   | false=>
     rw[Qd_,Zn,ZkZ n r k]
     have:¬n≤b:=fun h=>by rw[QF_ h] at hb;cases hb
     rw[if_neg (by omega)]
theorem Zla{n b:Nat}:∀{l:List Nat},b+n∈l→b∈bkR n l
 | [],h=>by simp at h
 | x::r,h=>by
   unfold bkR
   rcases Q9_.1 h with e | h
   ·subst e
    rw[QF_ (by omega),Qb_]
    have:b+n - n=b:=by omega
    rw[this]
    exact Qv_ ..
   ·cases hb:Nat.ble n x with
    | true=>rw[Qb_];exact Qq_ _ (Zla h)
    | false=>rw[Qd_];exact Zla h
theorem Zlb(n b c:Nat):∀(l:List (Loc×Nat)),lkL (.b (b+n) c) (shO n l)=lkL (.b b c) l
 | []=>rfl
 | (.b b' c',E)::r=>by
   unfold shO
   rw[Yy,Yy,Zlb n b c r]
   by_cases h:(Loc.b b c)= .b b' c'
   ·cases h;simp
   ·rw[if_neg h,if_neg (fun e=>h (by injection e with e1 e2;subst e2;congr 1;omega))]
 | (.t t,E)::r=>by
   unfold shO
   rw[Yy,if_neg (by simp),Zlb n b c r]
theorem Zfr{n:Nat}:∀{l:List (Loc×Nat)} {k:Loc} {E:Nat},lkL k (shO n l)=some E→∃b c,k= .b (b+n) c
 | [],k,E,h=>by simp[shO,lkL] at h
 | (.b b' c',E')::r,k,E,h=>by
   unfold shO at h
   rw[Yy] at h
   split at h
   ·rename_i e;exact ⟨b',c',e⟩
   ·exact Zfr h
 | (.t t,E')::r,k,E,h=>by
   unfold shO at h
   exact Zfr h
theorem Zh4(n b c:Nat):∀(l:List (Loc×Nat)),lkL (.b b c) (bkO n l)=lkL (.b (b+n) c) l
 | []=>rfl
 | (.b b' c',E)::r=>by
   unfold bkO
   cases hb:Nat.ble n b' with
   | true=>
     have hb:=Qm_ hb
     rw[Qb_,Yy,Yy,Zh4 n b c r]
     by_cases h:(Loc.b (b+n) c)= .b b' c'
     ·rw[if_pos h,if_pos (by injection h with e1 e2;subst e2;congr 1;omega)]
     ·rw[if_neg h,if_neg (fun e=>h (by injection e with e1 e2;subst e2;congr 1;omega))]
   | false=>
     have:¬n≤b':=fun h=>by rw[QF_ h] at hb;cases hb
     rw[Qd_,Yy,Zh4 n b c r,if_neg (fun e=>by injection e;omega)]
 | (.t t,E)::r=>by
   unfold bkO
   rw[Yy,if_neg (by simp),Zh4 n b c r]
theorem ZdR(n t:Nat):∀(l:List (Loc×Nat)),lkL (.t t) (bkO n l)=none
 | []=>rfl
 | (.b b' c',E)::r=>by
   unfold bkO
   cases Nat.ble n b' with
   | true=>rw[Qb_,Yy,if_neg (by simp),ZdR n t r]
   | false=>rw[Qd_,ZdR n t r]
 | (.t t',E)::r=>by
   unfold bkO
   exact ZdR n t r
theorem ZlT:∀{l:List AV} {i t:Nat} {v:AV},lk t (Zj0 i l)=some v→∃j,t=i+j∧l[j]?=some v
 | [],i,t,v,h=>by simp[Zj0,lk] at h
 | x::r,i,t,v,h=>by
   unfold Zj0 at h
   rw[Zn] at h
   split at h
   ·rename_i e
    exact ⟨0,by omega,h⟩
   ·obtain ⟨j,h1,h2⟩:=ZlT h
    exact ⟨j+1,by omega,h2⟩
section
variable {P:Program}{B:Nat}{g:G}{σ:St}{a:Act}{w:World}
theorem Zzw{n:Nat}{v:Value}{av:AV}(h:RepA g w v av):RepA ⟨fun b=>if n≤b then g.β (b - n) else none,g.hw⟩ w v (Zaz n av):=by
 have hb:∀b,(if n≤b+n then g.β (b+n - n) else none)=g.β b:=fun b=>by rw[if_pos (by omega)];congr 1;omega
 cases av with
 | p x=>exact h
 | ptr b off=>
   obtain ⟨k,base,h1,h2⟩:=h
   exact ⟨k,base,(hb b).trans h1,h2⟩
 | fnp f bs=>
   obtain ⟨vs,h1,h2,h3⟩:=h
   refine ⟨vs,h1,by simp[h2],fun j v b hv hbj=>?_⟩
   rw[Q6_] at hbj
   cases hq:bs[j]? with
   | none=>rw[hq] at hbj;cases hbj
   | some b0=>
     rw[hq] at hbj
     have:=Qa_ hbj
     subst this
     obtain ⟨k,base,h4,h5⟩:=h3 j v b0 hv hq
     exact ⟨k,base,(hb b0).trans h4,h5⟩
 | sl b off m s=>
   obtain ⟨k,base,cap,h1,h2⟩:=h
   exact ⟨k,base,cap,(hb b).trans h1,h2⟩
def Zsg(P:Program)(f:FuncId)(σ:St)(args:List AV)(r:PV)(σ':St):Prop:=
 ∀B g a w (vals:List Value),Inv P B g σ a w→vals.length=args.length→(∀(j:Nat) (v:Value) (av:AV),vals[j]?=some v→args[j]?=some av→RepA g w v av)→(∀av∈args,Zbu σ.boxes av=true)→WF σ.boxes=true→
  CallRes P f vals.toArray w fun v w'=>∃g',Inv P B g' σ' a w'∧Fr B g σ w g' σ' w'∧Rep g'.hw w' v r
theorem Zi2{bx:List (Nat×List PV)}{b off:Nat}(h:Zbu bx (.ptr b off)=true):∃cs,lk b bx=some cs:=by
 simp only[Zbu] at h
 cases hb:lk b bx with
 | none=>rw[hb] at h;exact absurd h (by simp[XE])
 | some cs=>exact ⟨cs,rfl⟩
theorem Zi3{bx:List (Nat×List PV)}{f:FuncId}{bs:List Nat}(h:Zbu bx (.fnp f bs)=true):∀b∈bs,∃cs,lk b bx=some cs:=by
 simp only[Zbu] at h
 intro b hb
 have:=QK_.1 h b hb
 cases hq:lk b bx with
 | none=>rw[hq] at this;exact absurd this (by simp[XE])
 | some cs=>exact ⟨cs,rfl⟩
theorem Zzx{n:Nat}{args:List AV}{vals:List Value}(hI:Inv P B g σ a w)(hl:vals.length=args.length)(hv:∀(j:Nat) (v:Value) (av:AV),vals[j]?=some v→args[j]?=some av→RepA g w v av)
 (hin:∀av∈args,Zbu σ.boxes av=true) (hnr:WF σ.boxes=true) (hn:args.length≤n):
 Inv P B ⟨fun b=>if n≤b then g.β (b - n) else none,g.hw⟩ (W9 n σ args) {tmps:=vals.toArray++Array.replicate (n - vals.toArray.size) undef,defers:=[]} w:=by
 have bx:∀b cs,lk b (W9 n σ args).boxes=some cs→n≤b∧lk (b - n) σ.boxes=some cs:=fun b cs h=>Zc7 h
 have bxi:∀b cs,lk b σ.boxes=some cs→lk (b+n) (W9 n σ args).boxes=some cs:=fun b cs h=>(ZkY n _ b).trans h
 have be:∀b,n≤b→(if n≤b then g.β (b - n) else none)=g.β (b - n):=fun b h=>if_pos h
 have beq':∀b,(if n≤b+n then g.β (b+n - n) else none)=g.β b:=fun b=>by rw[if_pos (by omega)];congr 1;omega
 have tm:∀t v,lk t (W9 n σ args).tmps=some v→∃av,args[t]?=some av∧v=Zaz n av:=by
  intro t v h
  obtain ⟨j,h1,h2⟩:=ZlT h
  rw[Q6_] at h2
  cases hq:args[j]? with
  | none=>rw[hq] at h2;cases h2
  | some av=>
    rw[hq] at h2
    rw[QP_] at h1
    subst h1
    exact ⟨av,hq,(Qa_ h2).symm⟩
 have ow:∀l E,lkL l (W9 n σ args).own=some E→∃b c,l= .b (b+n) c∧lkL (.b b c) σ.own=some E:=by
  intro l E h
  obtain ⟨b,c,rfl⟩:=Zfr h
  exact ⟨b,c,rfl,(Zlb n b c _).symm.trans h⟩
 have loc:∀b c val,LocIs ⟨fun b=>if n≤b then g.β (b - n) else none,g.hw⟩ {tmps:=vals.toArray++Array.replicate (n - vals.toArray.size) undef,defers:=[]} w (.b (b+n) c) val↔LocIs g a w (.b b c) val:=by
  intro b c val
  constructor
  ·rintro ⟨k,base,h1,h2⟩
   exact ⟨k,base,(beq' b).symm.trans h1,h2⟩
  ·rintro ⟨k,base,h1,h2⟩
   exact ⟨k,base,(beq' b).trans h1,h2⟩
 refine ⟨by simp[W9];omega,rfl,fun t v ht=>?_,fun t b off ht=>?_,fun t f bs ht=>?_,fun b cs h=>?_,fun b b' cs cs' k base base' h1 h2 h3 h4=>?_,hI.hwlt,hI.base,hI.glob,fun l E hl'=>?_,fun l E hl'=>?_,fun l l' E E' v v' k hl1 hl2 h1 h2 h3 h4=>?_,fun t l h=>absurd h (by simp[W9]),fun t b c h=>absurd h (by simp[W9]),fun t b off m s ht=>?_,fun b cs h y hy b' hb'=>(ZaN hnr (bx b cs h).2 y hy b' hb').elim⟩
 ·obtain ⟨av,h1,rfl⟩:=tm t v ht
  have hj:=(Qo_.1 h1).1
  refine ⟨by simp only[W9];omega, ?_⟩
  have hvt:=Qg_ (l:=vals) (i:=t) (by omega)
  rw[Zhy hvt]
  exact Zzw (hv t _ av hvt h1)
 ·obtain ⟨av,h1,h2⟩:=tm t _ ht
  cases av with
  | p x=>simp[Zaz] at h2
  | ptr b0 off0=>
    simp only[Zaz,AV.ptr.injEq] at h2
    obtain ⟨cs,hcs⟩:=Zi2 (hin _ (Qz_ h1))
    rw[h2.1]
    exact ⟨cs,bxi b0 cs hcs⟩
  | fnp f bs=>simp[Zaz] at h2
  | sl b off m s=>simp[Zaz] at h2
 ·obtain ⟨av,h1,h2⟩:=tm t _ ht
  cases av with
  | p x=>simp[Zaz] at h2
  | ptr b0 off0=>simp[Zaz] at h2
  | fnp f0 bs0=>
    simp only[Zaz,AV.fnp.injEq] at h2
    intro b hb
    rw[h2.2] at hb
    obtain ⟨b0,hb0,rfl⟩:=Ku_.1 hb
    obtain ⟨cs,hcs⟩:=Zi3 (hin _ (Qz_ h1)) b0 hb0
    exact ⟨cs,bxi b0 cs hcs⟩
  | sl b off m s=>simp[Zaz] at h2
 ·obtain ⟨h1,h2⟩:=bx b cs h
  obtain ⟨k,base,q1,q2,q3,q4,_⟩:=hI.box _ cs h2
  refine ⟨k,base,(be b h1).trans q1,q2,q3.noref (ZaN hnr h2) _,fun hr=>q4 fun hm=>hr ?_,fun hlt=>absurd hlt (by simp only[W9];omega)⟩
  have:b=(b - n)+n:=by omega
  rw[this]
  exact Ku_.2 ⟨b - n,hm,rfl⟩
 ·obtain ⟨e1,e2⟩:=bx b cs h1
  obtain ⟨e3,e4⟩:=bx b' cs' h2
  have:=hI.inj (b - n) (b' - n) cs cs' k base base' e2 e4 ((be b e1).symm.trans h3) ((be b' e3).symm.trans h4)
  omega
 ·obtain ⟨b,c,rfl,h1⟩:=ow l E hl'
  obtain ⟨val,q1,q2,q3⟩:=hI.own _ E h1
  refine ⟨val,(loc b c val).2 q1,q2,fun k hk b' cs base hb' hbe=>?_⟩
  obtain ⟨e1,e2⟩:=bx b' cs hb'
  exact q3 k hk (b' - n) cs base e2 ((be b' e1).symm.trans hbe)
 ·obtain ⟨b,c,rfl,h1⟩:=ow l E hl'
  obtain ⟨cs,hcs⟩:=hI.ownt _ E h1
  exact ⟨cs,bxi b cs hcs⟩
 ·obtain ⟨b,c,rfl,e1⟩:=ow l E hl1
  obtain ⟨b',c',rfl,e2⟩:=ow l' E' hl2
  have:=hI.owninj _ _ E E' v v' k e1 e2 ((loc b c v).1 h1) ((loc b' c' v').1 h2) h3 h4
  injection this with e3 e4
  subst e3;subst e4
  rfl
 ·obtain ⟨av,h1,h2⟩:=tm t _ ht
  cases av with
  | p x=>simp[Zaz] at h2
  | ptr b0 off0=>simp[Zaz] at h2
  | fnp f bs=>simp[Zaz] at h2
  | sl b0 off0 m0 s0=>
    simp only[Zaz,AV.sl.injEq] at h2
    obtain ⟨cs,hcs⟩:=Zad.1 (hin _ (Qz_ h1))
    rw[h2.1]
    exact ⟨cs,bxi b0 cs hcs⟩
theorem Zzy{n:Nat}{args:List AV}{σc:St}{g2:G}{ac':Act}{w':World}(hI:Inv P B g σ a w)(h2:Inv P B g2 σc ac' w')
 (hF:Fr B ⟨fun b=>if n≤b then g.β (b - n) else none,g.hw⟩ (W9 n σ args) w g2 σc w') (hall:ZeY (Zer n σc.boxes) σ.tmps=true) (hnr:WF σc.boxes=true):
 Inv P B ⟨fun b=>g2.β (b+n),g2.hw⟩ (JK n σ σc) a w'∧Fr B g σ w ⟨fun b=>g2.β (b+n),g2.hw⟩ (JK n σ σc) w':=by
 have bx:∀b,lk b (JK n σ σc).boxes=lk (b+n) σc.boxes:=fun b=>ZkZ n _ b
 have hn:(W9 n σ args).n=n:=rfl
 have old:∀b cs',lk b (JK n σ σc).boxes=some cs'→∃cs,lk b σ.boxes=some cs∧cs.length=cs'.length∧g2.β (b+n)=g.β b:=by
  intro b cs' h
  rw[bx] at h
  obtain ⟨cs,e1,e2,e3⟩:=hF.par (b+n) cs' (by rw[hn];omega) h
  have e1:lk (b+n) (Zgq n σ.boxes)=some cs:=e1
  rw[ZkY] at e1
  refine ⟨cs,e1,e2,e3.trans ?_⟩
  show (if n≤b+n then g.β (b+n - n) else none)=g.β b
  rw[if_pos (by omega)]
  congr 1
  omega
 have tm:∀t v,lk t (JK n σ σc).tmps=some v→lk t σ.tmps=some v∧Zbu (Zer n σc.boxes) v=true:=fun t v h=>⟨h,ZlM hall t v h⟩
 have ow:∀l E,lkL l (JK n σ σc).own=some E→∃b c,l= .b b c∧lkL (.b (b+n) c) σc.own=some E:=by
  intro l E h
  cases l with
  | t t=>rw[show lkL (.t t) (JK n σ σc).own=none from ZdR n t _] at h;cases h
  | b b c=>exact ⟨b,c,rfl,(Zh4 n b c _).symm.trans h⟩
 have loc:∀b c val,LocIs ⟨fun b=>g2.β (b+n),g2.hw⟩ a w' (.b b c) val↔LocIs g2 ac' w' (.b (b+n) c) val:=fun b c val=>Iff.rfl
 refine ⟨⟨hI.size,hI.defers,fun t v ht=>?_,fun t b off ht=>?_,fun t f bs ht=>?_,fun b cs h=>?_,fun b b' cs cs' k base base' h1 h2' h3 h4=>?_,h2.hwlt,h2.base,h2.glob,fun l E hl'=>?_,fun l E hl'=>?_,fun l l' E E' v v' k hl1 hl2 h1 h2' h3 h4=>?_,fun t l h=>absurd h (by simp[JK]),fun t b c h=>absurd h (by simp[JK]),fun t b off m s ht=>Zad.1 (tm t _ ht).2,fun b cs h y hy b' hb'=>by rw[bx] at h;exact (ZaN hnr h y hy b' hb').elim⟩, ?_⟩
 ·obtain ⟨h1,hin⟩:=tm t v ht
  obtain ⟨q1,q2⟩:=hI.tmp t v h1
  refine ⟨q1, ?_⟩
  cases v with
  | p x=>exact Rep.mono hF.ext q2
  | ptr b off=>
    obtain ⟨cs,hcs⟩:=Zi2 hin
    obtain ⟨_,_,_,e⟩:=old b cs hcs
    obtain ⟨k,base,e1,e2⟩:=q2
    exact ⟨k,base,e.trans e1,e2⟩
  | fnp f bs=>
    obtain ⟨vs,e1,e2,e3⟩:=q2
    refine ⟨vs,e1,e2,fun j v b hv hb=>?_⟩
    obtain ⟨cs,hcs⟩:=Zi3 hin b (Qz_ hb)
    obtain ⟨_,_,_,e⟩:=old b cs hcs
    obtain ⟨k,base,e4,e5⟩:=e3 j v b hv hb
    exact ⟨k,base,e.trans e4,e5⟩
  | sl b off m s=>
    obtain ⟨cs,hcs⟩:=Zad.1 hin
    obtain ⟨_,_,_,e⟩:=old b cs hcs
    obtain ⟨k,base,cap,e1,e2⟩:=q2
    exact ⟨k,base,cap,e.trans e1,e2⟩
 ·exact Zi2 (tm t _ ht).2
 ·exact Zi3 (tm t _ ht).2
 ·obtain ⟨cs0,e1,e2,e3⟩:=old b cs h
  rw[bx] at h
  obtain ⟨k,base,q1,q2,q3,q4,_⟩:=h2.box _ cs h
  obtain ⟨k',base',p1,p2,p3,p4,p5⟩:=hI.box b cs0 e1
  have:(k',base')=(k,base):=Qa_ (p1.symm.trans (e3.symm.trans q1))
  cases this
  exact ⟨_,_,q1,q2,q3.noref (ZaN hnr h) _,fun hr=>q4 fun hm=>hr (Zla hm),p5⟩
 ·rw[bx] at h1 h2'
  have:=h2.inj _ _ cs cs' k base base' h1 h2' h3 h4
  omega
 ·obtain ⟨b,c,rfl,h1⟩:=ow l E hl'
  obtain ⟨val,q1,q2,q3⟩:=h2.own _ E h1
  refine ⟨val,q1,q2,fun k hk b' cs base hb'=>?_⟩
  rw[bx] at hb'
  exact q3 k hk _ cs base hb'
 ·obtain ⟨b,c,rfl,h1⟩:=ow l E hl'
  obtain ⟨cs,hcs⟩:=h2.ownt _ E h1
  exact ⟨cs,(bx b).trans hcs⟩
 ·obtain ⟨b,c,rfl,e1⟩:=ow l E hl1
  obtain ⟨b',c',rfl,e2⟩:=ow l' E' hl2
  have:=h2.owninj _ _ E E' v v' k e1 e2 h1 h2' h3 h4
  injection this with e3 e4
  have:b=b':=by omega
  subst this;subst e4
  rfl
 ·have lent:∀k,k < B→JE ⟨fun b=>if n≤b then g.β (b - n) else none,g.hw⟩ (W9 n σ args) k→JE g σ k:=by
   rintro k hk ⟨b,cs,base,hb,h1,h3⟩
   obtain ⟨e1,e2⟩:=Zc7 h1
   have h3:(if n≤b then g.β (b - n) else none)=some (k,base):=h3
   rw[if_pos e1] at h3
   rcases Kh_ (b - n) σ.n with hlt | hge
   ·obtain ⟨k',base',q1,_,_,_,q5⟩:=hI.box _ cs e2
    rw[h3] at q1
    cases q1
    have:=q5 hlt
    omega
   ·exact ⟨b - n,cs,base,hge,e2,h3⟩
  have lent2:∀k off,k < B→Lent ⟨fun b=>if n≤b then g.β (b - n) else none,g.hw⟩ (W9 n σ args) k off→Lent g σ k off:=by
   rintro k off hk ⟨b,cs,base,hb,h1,h3,h4,h5⟩
   obtain ⟨e1,e2⟩:=Zc7 h1
   have h3:(if n≤b then g.β (b - n) else none)=some (k,base):=h3
   rw[if_pos e1] at h3
   rcases Kh_ (b - n) σ.n with hlt | hge
   ·obtain ⟨k',base',q1,_,_,_,q5⟩:=hI.box _ cs e2
    rw[h3] at q1
    cases q1
    have:=q5 hlt
    omega
   ·exact ⟨b - n,cs,base,hge,e2,h3,h4,h5⟩
  exact ⟨hF.os,hF.tape,hF.output,hF.size,rfl,fun k hk hnl=>hF.block k hk fun hl=>hnl (lent k hk hl),fun k off hk hnl=>hF.cell k off hk fun hl=>hnl (lent2 k off hk hl),hF.frozen,fun k hk hnl=>hF.hw k hk fun hl=>hnl (lent k hk hl),
   fun b cs' _ hb=>old b cs' hb,hF.ext⟩
theorem Z0w{Γ:List (Nat×Ty)}(hΓ:Ye P Γ){f:FuncId}{fn:Func}{c:Code}(hcall:∀args w,(callFunc f args).run P w= .ok (.enter f args) w)(hf:P.funcs[f]?=some fn)(hb:fn.body=some c)
 {args:List AV} (hn:Nat.ble args.length fn.ntmps=true) {e:Ex} {σc:St} (ht:Tri P c (W9 fn.ntmps σ args) e σc) (he:WO e=true) {r:List PV} (hr:JJ Γ σc fn.results.toList=some r) (hall:ZeY (Zer fn.ntmps σc.boxes) σ.tmps=true) (hnr:WF σc.boxes=true):Zsg P f σ args (ZaO r) (JK fn.ntmps σ σc):=by
 intro B g a w vals hI hl hv hin hn0
 refine .inr ⟨f,hcall _ _,calls_of_wp hf hb (wp_mono (ht _ _ _ w (Zzx hI hl hv hin hn0 (Qm_ hn))) fun ex a' w' ⟨hx,g',hI',hF⟩=>?_)⟩
 have key:a'.defers=[]∧∃v,(results fn a'.tmps).run P w'= .ok v w'∧∃v0,Ending.returned v= .returned v0∧∃g'',Inv P B g'' (JK fn.ntmps σ σc) a w'∧Fr B g σ w g'' (JK fn.ntmps σ σc) w'∧Rep g''.hw w' v0 (ZaO r):=by
  obtain ⟨v,h1,h2⟩:=ZkR hΓ hI' hr
  obtain ⟨h3,h4⟩:=Zzy hI hI' hF hall hnr
  exact ⟨hI'.defers,v,h1,v,rfl,_,h3,h4,h2⟩
 cases ex<;>first | exact key | (cases e<;>first | exact hx.elim | exact absurd he (by simp[WO]))
end
def WG(l:List UInt8):List (List PV):=l.map fun b=>[.v (.int .u8 b.toNat)]
section
variable {P:Program}{w:World}
theorem Zob{base:Nat}{t u ty e:TypeId}{i:TypeInfo}{z:Value}(ht:P.underlying t=some (.slice e))(hu:P.underlying u=some .string)(hi:P.info? e=some i)(hz:i.zero=some z)(hzs:z.cells.size=1)(hs1:i.size=1)(hby:i.bytes=1)
 {v:Value} {n:Nat} {xs:List Value} (hown:w.ownsRow base e 1 v n xs) (s:ByteArray) (h63:n+s.size≤maxLen) (hbytes:n+s.size≤140737488355328) (hbase:base≤w.heap.size):
 ∃v' w',(Builtin.append_ #[t,u] ty #[v,.string s]).run P w= .ok v' w'∧w'.ownsRow base e 1 v' (n+s.size) (xs++Lib.strCells s)∧w.grownBy w' v.ownBlock∧
  (v'.ownBlock=v.ownBlock∨∀k,v'.ownBlock=some k→w.heap.size≤k)∧(∀k off,v.ownBlock=some k→off < n→w'.cell? ⟨k,off,none⟩=w.cell? ⟨k,off,none⟩)∧(∀k off,w'.frozen? ⟨k,off,none⟩=w.frozen? ⟨k,off,none⟩):=by
 have hfr:∀(A:Array Value) (k off:Nat),(w.drew.alloc (.cells A e)).frozen? ⟨k,off,none⟩=w.frozen? ⟨k,off,none⟩:=by
  intro A k off
  by_cases hk:k=w.heap.size
  ·subst hk
   have h1:=World.frozen?_alloc_new w.drew A e off
   simp only[World.size_drew] at h1
   rw[h1]
   simp[World.frozen?]
  ·exact World.frozen?_alloc_old w.drew _ ⟨k,off,none⟩ (by simpa using hk)
 have hsmall:n+s.size≤9223372036854775807:=by simp only[maxLen] at h63;omega
 have hxl:xs.length=n:=by simpa using hown.1
 have hlen:(xs++Lib.strCells s).length=(n+s.size)*1:=by rw[Qx_,hxl,Lib.strCells_length,Nat.mul_one]
 have grown:∀(old:Nat),old < n+s.size→∀(row:Option Nat),
  (w.drew.alloc (.cells (xs.toArray++(Lib.strCells s).toArray++Builtin.zeroCells z.cells (grownCap w (n+s.size) old e - (n+s.size))) e)).ownsRow base e 1
    (.slice (some ⟨w.heap.size,0,none⟩) (n+s.size) (grownCap w (n+s.size) old e)) (n+s.size) (xs++Lib.strCells s)∧
  w.grownBy (w.drew.alloc (.cells (xs.toArray++(Lib.strCells s).toArray++Builtin.zeroCells z.cells (grownCap w (n+s.size) old e - (n+s.size))) e)) row:=by
  intro old ho row
  have hge:=grownCap_ge w (n+s.size) old e
  have hcm:grownCap w (n+s.size) old e≤maxLen:=grownCap_le_maxLen w (n+s.size) old e h63
  refine ⟨⟨hlen,.inr ⟨w.heap.size,_,_,rfl,hbase,heap_alloc_new w.drew _,hge,hcm, ?_, ?_⟩⟩,⟨rfl,rfl,rfl,by simp,fun k hk _=>heap_alloc_old w.drew _ (by simpa using hk)⟩⟩
  ·simp only[Array.size_append,List.size_toArray,size_zeroCells,hzs,hxl,Lib.strCells_length]
   omega
  ·simp only[Array.toList_append,QB_]
   rw[←QB_,←hlen]
   exact List.take_left
 rcases hown.2 with ⟨rfl,rfl⟩ | ⟨g,cap,cur,rfl,hbg,hg,hnc,hcm,hcs,htake⟩
 ·have hx:xs=[]:=QM_ hxl
  subst hx
  by_cases hm:s.size=0
  ·have hn:Lib.strCells s=[]:=QM_ (by rw[Lib.strCells_length];exact hm)
   refine ⟨.slice none 0 0,w, ?_,by rw[hm,hn];exact World.ownsRow_nil w base e 1,⟨rfl,rfl,rfl,Q2_ _,fun _ _ _=>rfl⟩,.inl rfl,fun _ _ _ _=>rfl,fun _ _=>rfl⟩
   have hf:=Lib.run_firstCells_string (P:=P) w 1 s
   rw[hm] at hf
   simp[Builtin.append_,run_underlying ht,run_underlying hu,sizeOf,typeInfo,hi,hs1,Builtin.lenOf,hm,hf]
  ·have hr:=run_append_nil_string (P:=P) w t u ty e i z ht hu hi hz s (by omega) (by omega) (by rw[hby];omega)
   have hgr:=grown 0 (by omega) (Value.ownBlock (.slice none 0 0))
   simp only[QP_,QJ_,Array.empty_append] at hgr ⊢
   have e1:(s.data.map fun b=>Value.int .u8 b.toNat)=(Lib.strCells s).toArray:=by
    apply QW_
    simp[Lib.strCells]
   rw[e1] at hr
   exact ⟨_,_,hr,hgr.1,hgr.2,.inr (fun k hk=>by simp[Value.ownBlock] at hk;omega),fun k off hk=>by simp[Value.ownBlock] at hk,fun k off=>hfr _ k off⟩
 ·by_cases hroom:n+s.size≤cap
  ·have hcs':cur.size=cap:=by simpa using hcs
   have hr:=Lib.run_append_room_string (P:=P) w t u ty e i ht hu hi hs1 g n cap cur hg s hroom (by omega)
   have ho:(w.setRow g (cur.toList.take n++Lib.strCells s++cur.toList.drop (n+s.size)).toArray).ownsRow base e 1 (.slice (some ⟨g,0,none⟩) (n+s.size) cap) (n+s.size) (xs++Lib.strCells s):=by
    refine ⟨hlen,.inr ⟨g,cap,_,rfl,hbg,setRow_heap w g cur _ e _ hg,hroom,hcm, ?_, ?_⟩⟩
    ·simp only[List.size_toArray,Qx_,K2_,K9_,Array.length_toList,Lib.strCells_length]
     omega
    ·have ht':cur.toList.take n=xs:=by simpa using htake
     rw[ht',←hlen]
     exact List.take_left
   refine ⟨_,_,hr,ho,⟨rfl,rfl,rfl,by simp,fun k _ hk=>setRow_other w g k _ (fun e=>hk (by simp[Value.ownBlock,e]))⟩,.inl rfl,fun k off hk hoff=>?_,fun k off=>?_⟩
   ·have hx:off < xs.length:=by rw[hxl];exact hoff
    have c1:=hown.cells hk off xs[off] (Qg_ hx)
    have c2:=ho.cells (g:=k) hk off xs[off] (by rw[QV_ hx];exact Qg_ hx)
    rw[Addr.add_lit] at c1 c2
    simp only[QP_] at c1 c2
    rw[c1,c2]
   ·by_cases hk:k=g
    ·subst hk
     have h2:=setRow_heap w k cur (cur.toList.take n++Lib.strCells s++cur.toList.drop (n+s.size)).toArray e (0,0) hg
     simp only[World.frozen?,h2,hg]
    ·have h2:=setRow_other w g k (cur.toList.take n++Lib.strCells s++cur.toList.drop (n+s.size)).toArray (fun e=>hk e)
     unfold World.frozen?
     rw[h2]
  ·have holds:∀j u,xs[j]?=some u→w.cell? ((⟨g,0,none⟩:Addr).add j)=some u:=hown.cells (g:=g) rfl
   have hr:=Lib.run_append_grow_string (P:=P) w t u ty e i z ht hu hi hz ⟨g,0,none⟩ n cap xs (by rw[hs1];simpa using hxl) holds s (by omega) (by omega) (by rw[hby];exact growslice_fits (by omega) (by omega))
   have hgr:=grown cap (by omega) (Value.ownBlock (.slice (some ⟨g,0,none⟩) n cap))
   refine ⟨_,_,hr,hgr.1,hgr.2,.inr (fun k hk=>by simp[Value.ownBlock] at hk;omega),fun k off hk _=>?_,fun k off=>hfr _ k off⟩
   have:k=g:=by simp[Value.ownBlock] at hk;exact hk.symm
   subst this
   have hlt:k < w.heap.size:=(QL_.1 hg).1
   exact World.cell?_alloc_old w.drew _ ⟨k,off,none⟩ (by simp;omega)
end
section
variable {P:Program}{B:Nat}{g:G}{σ:St}{a:Act}{w:World}{o:Oper}
theorem Zgr{Γ:List (Nat×Ty)}(hΓ:Ye P Γ)(hI:Inv P B g σ a w){t u:TypeId}{ty ety:Ty}(hty:lk t Γ=some ty)(hk:ty.kd=3)(hety:lk ty.elem Γ=some ety)(hs1:ety.size=1)(hb1:ety.bytes=1)(hu:P.underlying u=some .string)
 {v:Value} {xs:List (List PV)} {l:List UInt8} (hv:Rep g.hw w v (.lst xs)) (ho:OwnV P B g.hw w ty.elem v) (hbytes:xs.length+l.length≤140737488355328) (hl:Lens 1 xs) (T:TypeId):
 ∃v' w' hw',(Builtin.append_ #[t,u] T #[v,.string ⟨l.toArray⟩]).run P w= .ok v' w'∧Grew g w hw' w' v.ownBlock∧Rep hw' w' v' (.lst (xs++WG l))∧OwnV P B hw' w' ty.elem v'∧(v'.ownBlock=v.ownBlock∨∀k,v'.ownBlock=some k→w.heap.size≤k):=by
 have hET:=ZJ (hΓ _ _ hety)
 obtain ⟨i,z,hi,hz,e1,e2,_,_,hzs⟩:=hET.info
 obtain ⟨_,hk3,_⟩:=Yz (ZJ (hΓ _ _ hty))
 have ht:=hk3 hk
 obtain ⟨i',n,xv,hi',hown,hfr⟩:=ho
 rw[hi] at hi'
 have:=Qa_ hi'
 subst this
 have i1:i.size=1:=e1.symm.trans hs1
 have i2:i.bytes=1:=e2.symm.trans hb1
 rw[i1] at hown hfr hzs
 obtain ⟨rfl,hcx⟩:=ZbN hv hown hl
 have hsz:(⟨l.toArray⟩:ByteArray).size=l.length:=by show l.toArray.size=_;simp
 obtain ⟨v',w',hr,how,hg,hblk,hst,hfz⟩:=Zob (ty:=T) ht hu hi hz hzs i1 i2 hown ⟨l.toArray⟩ (by rw[hsz];simp only[maxLen];omega) (by rw[hsz];exact hbytes) hI.base
 rw[hsz] at how
 have nlt:∀k,v'.ownBlock=some k→k < w'.heap.size:=fun k hk=>(how.lt k hk).2
 let hw':Nat→Nat:=fun k=>if v'.ownBlock=some k then (xs.length+l.length)*1 else g.hw k
 have hgrew:Grew g w hw' w' v.ownBlock:=by
  refine ⟨hg.os,hg.tape,hg.output,hg.size,hg.block,fun j off hj hoff=>hst j off hj ?_,fun j hj hne=>?_,fun j hj he=>?_,fun j hj=>?_⟩
  ·rw[hfr j hj] at hoff;omega
  ·have:v'.ownBlock≠some j:=fun e=>by
    rcases hblk with h | h
    ·rw[h] at e;exact hne e.symm
    ·have:=h j e;omega
   simp only[hw',this,Kx_]
  ·by_cases e:v'.ownBlock=some j
   ·simp only[hw',e,Kw_]
    rw[hfr j he]
    omega
   ·simp only[hw',e,Kx_];exact Q2_ _
  ·have:v'.ownBlock≠some j:=fun e=>by have:=nlt j e;omega
   simp only[hw',this,Kx_]
   exact hI.hwlt j (QT_ hg.size hj)
 have hx:=hgrew.ext hI.hwlt
 have hbl:(WG l).length=l.length:=by simp[WG]
 have hlen:(xs++WG l).length=xs.length+l.length:=by rw[Qx_,hbl]
 have hl':Lens 1 (xs++WG l):=by
  intro x hx
  rcases Kv_.1 hx with h | h
  ·exact hl x h
  ·obtain ⟨b,_,rfl⟩:=Ku_.1 h
   rfl
 refine ⟨v',w',hw',hr,hgrew,Zrb (by rw[hlen];exact how) hl' (fun k hk=>by rw[hlen];simp only[hw',hk,Kw_];exact Q2_ _) (fun p q x y hx' hy'=>?_),⟨i,_,_,hi,by rw[i1];exact how,fun k hk=>by simp only[hw',hk,Kw_];rw[i1]⟩,hblk⟩
 have hq:q < 1:=by rw[←hl' x (Qz_ hx')];exact (Qo_.1 hy').1
 rw[K0_] at hx'
 split at hx'
 ·obtain ⟨u,h1,h2,h3⟩:=hcx p q x y hx' hy'
  have:=(Qo_.1 h1).1
  exact ⟨u,by rw[QV_ this];exact h1,h2,h3.mono hx⟩
 ·rename_i hp
  unfold WG at hx'
  rw[Q6_] at hx'
  cases hb:l[p - xs.length]? with
  | none=>rw[hb] at hx';cases hx'
  | some b=>
    rw[hb] at hx'
    have:=Qa_ hx'
    subst this
    have hq0:q=0:=by omega
    subst hq0
    have:=Qa_ hy'
    subst this
    refine ⟨.int .u8 b.toNat, ?_,rfl,.v _ rfl⟩
    have hxl:xv.length=xs.length:=by simpa using hown.1
    rw[Km_ (by omega)]
    have e:p *1+0 - xv.length=p - xs.length:=by omega
    rw[e]
    simp[Lib.strCells,hb]
def ZbV(E:Env)(σ:St)(d:Nat)(x y:Operand)(t u:TypeId):Option St:=
 match lk t E.Γ,Z0 σ x,Z0 σ y with
 | some ty,some xv,some (.str l)=>bif YG E u&&Nat.beq ty.kd 3 then
    match lk ty.elem E.Γ with
    | some ety=>bif Nat.beq ety.size 1&&Nat.beq ety.bytes 1 then
      match xv,x with
      | .nil,_=>bif Nat.ble (0+l.length) 140737488355328 then some (WY (put σ d (.p (.lst (WG l)))) d ty.elem) else none
      | .lst xs,.tmp t1=>
        let l':=match lk t1 σ.al with | some l=>l | none=> .t t1
        match lkL l' σ.own with
        | some E'=>bif Nat.beq E' ty.elem&&Nat.ble (xs.length+l.length) 140737488355328&&W0 1 xs then some (WY (put (Yj σ l') d (.p (.lst (xs++WG l)))) d ty.elem) else none
        | none=>none
      | _,_=>none
      else none
    | none=>none
   else none
 | _,_,_=>none
theorem Zoc{E:Env}(hE:EnvOk P E)(hI:Inv P B g σ a w){args:Array Operand}{ats:Array TypeId}{x y:Operand}{t u:TypeId}{d:Nat}(hop:o.op= .call ⟨.builtin .append,args,ats⟩)(hargs:args.toList=[x,y])(hats:ats.toList=[t,u])
 (hdst:o.dst=some d) (hd:d < σ.n) {σ':St} (h:ZbV E σ d x y t u=some σ'):Goes P B g σ a w o σ':=by
 have ea:args=#[x,y]:=by apply QW_;simpa using hargs
 have et:ats=#[t,u]:=by apply QW_;simpa using hats
 subst ea;subst et
 unfold ZbV at h
 split at h
 ·rename_i ty xv l hty hx hy
  cases hb:(YG E u&&Nat.beq ty.kd 3) with
  | false=>rw[hb] at h;cases h
  | true=>
    rw[hb] at h
    simp only[Qb_] at h
    rw[Qh_] at hb
    have hu:=ZaA hE hb.1
    have hkd:=Qj_ hb.2
    split at h
    ·rename_i ety hety
     cases hb2:(Nat.beq ety.size 1&&Nat.beq ety.bytes 1) with
     | false=>rw[hb2] at h;cases h
     | true=>
       rw[hb2] at h
       simp only[Qb_] at h
       rw[Qh_] at hb2
       have s1:=Qj_ hb2.1
       have b1:=Qj_ hb2.2
       have hrx:=Zy hI hx
       have hry:=YD (Zy hI hy)
       have fin:∀(v':Value) (w':World) (σ2:St),(Builtin.append_ #[t,u] o.type #[a.eval x,.string ⟨l.toArray⟩]).run P w= .ok v' w'→(∃g',Inv P B g' σ2 (a.put (some d) v') w'∧Fr B g σ w g' σ2 w')→Goes P B g σ a w o σ2:=by
        intro v' w' σ2 hrun hinv
        refine .inl ⟨v',w', ?_,by rw[hdst];exact hinv⟩
        unfold execOp
        rw[hop]
        simp only[resolve,pure_bind,invoke]
        rw[show (#[x,y]:Array Operand).map a.eval=#[a.eval x,a.eval y] from by simp,hry]
        exact ZO hrun
       split at h
       ·cases hb3:Nat.ble (0+l.length) 140737488355328 with
        | false=>rw[hb3] at h;cases h
        | true=>
          rw[hb3] at h
          have:=Qa_ h
          subst this
          have hn:a.eval x= .slice none 0 0:=by generalize a.eval x=v at *;cases hrx;rfl
          obtain ⟨i,z,hi,_⟩:=(ZJ (hE.Γ _ _ hety)).info
          have hov:OwnV P B g.hw w ty.elem (.slice none 0 0):=⟨i,0,[],hi,World.ownsRow_nil _ _ _ _,fun k hk=>absurd hk (by simp[Value.ownBlock])⟩
          obtain ⟨v',w',hw',r1,r2,r3,r4,r5⟩:=Zgr (xs:=[]) hE.Γ hI hty hkd hety s1 b1 hu .lnil hov (Qm_ hb3) (fun x hx=>by simp at hx) o.type
          rw[←hn] at r1
          have:=JI (v:= .slice none 0 0) (own':=σ.own) hI hd (fun k hk=>absurd hk (by simp[Value.ownBlock])) (fun k hk=>absurd hk (by simp[Value.ownBlock])) (fun _ _ h=>h) (fun _ _ _ j _ _ hk=>absurd hk (by simp[Value.ownBlock])) r2 r3 r4 r5
          exact fin v' w' _ r1 ⟨_,this⟩
       ·rename_i xs t1
        split at h
        ·rename_i E' hE'
         cases hb3:(Nat.beq E' ty.elem&&Nat.ble (xs.length+l.length) 140737488355328&&W0 1 xs) with
         | false=>rw[hb3] at h;cases h
         | true=>
           rw[hb3] at h
           have:=Qa_ h
           subst this
           simp only[Qh_] at hb3
           have hEe:=Qj_ hb3.1.1
           subst hEe
           obtain ⟨val,hl,hov,hbx⟩:=hI.own _ ty.elem hE'
           have hlv:LocIs g a w (match lk t1 σ.al with | some l=>l | none=> .t t1) (a.eval (.tmp t1)):=by
            split
            ·rename_i l hl;exact hI.al _ _ (ZbL hl)
            ·rfl
           have hv:=Za8 hl hlv
           subst hv
           obtain ⟨v',w',hw',r1,r2,r3,r4,r5⟩:=Zgr hE.Γ hI hty hkd hety s1 b1 hu hrx hov (Qm_ hb3.1.2) (Zay hb3.2) o.type
           have:=JI (own':=(Yj σ (match lk t1 σ.al with | some l=>l | none=> .t t1)).own) hI hd (fun k hk=>by have:=Yh hov k hk;exact ⟨this.2,this.1⟩) hbx (fun l E h=>(X5 h).2)
            (fun l E' val' j hl' hloc hj hj'=>(X5 hl').1 (hI.owninj l _ E' ty.elem val' _ j (X5 hl').2 hE' hloc hl hj' hj)) r2 r3 r4 r5
           exact fin v' w' _ r1 ⟨_,this⟩
        ·cases h
       ·cases h
    ·cases h
 ·cases h
end
def Z2A(σ:St)(b:Nat)(u:Bool)(r:List PV):St:=match u with
 | true=>σ
 | false=>YQ σ b 0 [.bld true] (.bld false::r) []
def Zsh(σ:St)(dst:Option Nat)(x:Operand):Option St:=
 match opd σ x,dst with
 | some (.ptr b off),some d=>match lk b σ.boxes with
   | some (.bld u::r)=>bif Nat.beq off 0&& !(has b σ.ro)&&Nat.blt d σ.n then some (put (Z2A σ b u r) d (.p (.tup []))) else none
   | _=>none
 | _,_=>none
def Zgs(σ:St)(e:TypeId)(dst:Option Nat)(x:Operand):Option St:=
 match opd σ x,dst with
 | some (.ptr b off),some d=>match lk b σ.boxes with
   | some (.bld _::y::_)=>bif Nat.beq off 0&&Nat.blt d σ.n then
     match y with
     | .nil=>some (put σ d (.p (.str [])))
     | .lst xs=>match bytesOf xs,lkL (.b b 1) σ.own with
       | some (c::l),some E=>bif Nat.beq E e then some (put (Yj σ (.b b 1)) d (.p (.str (c::l)))) else none
       | _,_=>none
     | _=>none
     else none
   | _=>none
 | _,_=>none
section
variable {P:Program}{B:Nat}{g:G}{σ:St}{a:Act}{w:World}{o:Oper}
theorem ZyD{f:Operand}{args:Array Operand}{ats:Array TypeId}{x:Operand}{fid:FuncId}(hop:o.op= .call ⟨.value f,args,ats⟩)(hargs:args.toList=[x])(hf:f= .func fid){w:World}{v:Value}(hx:a.eval x=v)
 (he:∀args w,(callFunc fid args).run P w= .ok (.enter fid args) w):(execOp a.eval o).run P w= .ok (.enter fid #[v]) w:=by
 have e:args.map a.eval=#[v]:=by apply QW_;rw[Array.toList_map,hargs];simp[hx]
 subst hf
 have hfv:a.eval (.func fid)= .func (.func fid) #[] #[]:=rfl
 unfold execOp
 rw[hop]
 simp only[resolve,Deferred.ofValue,hfv,pure_bind,invoke,e]
 rw[←he]
 congr 2
theorem Zzz{E:FuncId}(hcc:CCOk P E)(hI:Inv P B g σ a w){args:Array Operand}{ats:Array TypeId}{x:Operand}{σ':St}(hop:o.op= .call ⟨.value (.func E),args,ats⟩)(hargs:args.toList=[x])
 (h:Zsh σ o.dst x=some σ'):Goes P B g σ a w o σ':=by
 unfold Zsh at h
 split at h
 ·rename_i b off d hx hd
  split at h
  ·rename_i u r hb
   cases hc:(Nat.beq off 0&& !(has b σ.ro)&&Nat.blt d σ.n) with
   | false=>rw[hc] at h;cases h
   | true=>
     rw[hc] at h
     have:=Qa_ h
     subst this
     simp only[Qh_,Qi_] at hc
     obtain ⟨⟨h1,h2⟩,h3⟩:=hc
     have hoff:=Qj_ h1
     subst hoff
     have hlt:d < σ.n:=Qm_ h3
     have hro:b∉σ.ro:=fun hm=>by rw[YW.2 hm] at h2;cases h2
     obtain ⟨k,base,hk,hkl,hok,hhw,hB⟩:=hI.box b _ hb
     obtain ⟨k',base',hk',hpv⟩:=ZG hI hx
     rw[hk] at hk'
     have:=Qa_ hk'
     cases this
     obtain ⟨v,c1,c2,c3,c4⟩:=hok.cell 0 (.bld u) rfl
     cases c4 with
     | rep h=>cases h
     | bld _ h0 hs hv=>
       have hb0:base=0:=by omega
       subst hb0
       rw[QP_] at c1 c3
       rw[QP_] at hpv
       have hent:=ZyD hop hargs rfl (w:=w) hpv hcc.1
       cases u with
       | true=>
         rw[hv] at c1
         refine Zbs hd (.inr (.inr ⟨E,_,w,hent,(hcc.2.2 k w c1).mono fun e w' ⟨he,hw'⟩=>⟨_,he,g, ?_⟩⟩))
         subst hw'
         exact ⟨WE hI hlt (x:= .tup []) (.tup _ [] rfl (fun j x y hx=>by simp at hx)),⟨rfl,rfl,rfl,Q2_ _,rfl,fun _ _ _=>rfl,fun _ _ _ _=>rfl,fun _ _ _=>rfl,fun _ _ _=>rfl,fun _ cs' _ h=>⟨cs',h,rfl,rfl⟩,Ext.refl _ _⟩⟩
       | false=>
         rw[hv] at c1
         refine Zbs hd (.inr (.inr ⟨E,_,w,hent,(hcc.2.1 k w c1 hs c3).mono fun e w' ⟨he,hw'⟩=>⟨_,he,⟨g.β,g.hw⟩, ?_⟩⟩))
         have hset:w.setCell ⟨k,0,none⟩ (.pointer (some ⟨k,0,none⟩))=w.setCells k 0 [.pointer (some ⟨k,0,none⟩)]:=rfl
         rw[hset] at hw'
         subst hw'
         have hturn:Turned g w g.hw (w.setCells k 0 [.pointer (some ⟨k,0,none⟩)]) k (0+0) 1:=by
          obtain ⟨r1,r2,r3⟩:=Zao k [.pointer (some ⟨k,0,none⟩)] 0 w
          refine ⟨r1,r2,r3,by rw[XG];exact Q2_ _,fun j _ hj=>Zan k _ _ w j hj,fun off' ho=>World.cell?_setCells_out k _ _ w _ (fun _ _=>?_),fun off'=>World.frozen?_setCells k _ _ w _,fun _ _=>rfl,fun j hj=>hI.hwlt j (by rw[XG] at hj;exact hj)⟩
          simp only[Qs_,Q1_]
          omega
         have hshape:(w.setCells k 0 [.pointer (some ⟨k,0,none⟩)]).shape? k=w.shape? k:=JF k k _ _ w
         have hnew:BoxOk ⟨g.β,g.hw⟩ (w.setCells k 0 [.pointer (some ⟨k,0,none⟩)]) k (0+0) [.bld true]:=by
          refine ⟨fun j y hy=>?_⟩
          have hj:j=0:=by have:=(Qo_.1 hy).1;simp at this;exact this
          subst hj
          have:=Qa_ hy
          subst this
          refine ⟨.pointer (some ⟨k,0,none⟩),World.cell?_setCells_in k [.pointer (some ⟨k,0,none⟩)] 0 w (fun i hi=>?_) 0 (by simp),rfl, ?_,.bld true rfl (hshape.trans hs) rfl⟩
          ·have:i=0:=by simp at hi;exact hi
           subst this
           simp[c1]
          ·rw[World.frozen?_setCells];exact c3
         obtain ⟨q1,q2⟩:=ZbM hI hb hro hk (by simp) hturn hnew (.inr hshape) (fun y hy b' hb'=>by rw[List.mem_singleton.1 hy] at hb';exact absurd hb' (by simp[Xf])) (own':=[]) (fun l E hl=>by simp[lkL] at hl) (fun l l' E E' hl=>by simp[lkL] at hl)
         exact ⟨WE q1 (show d < σ.n from hlt) (x:= .tup []) (.tup _ [] rfl (fun j x y hx=>by simp at hx)),⟨q2.os,q2.tape,q2.output,q2.size,q2.n,q2.block,q2.cell,q2.frozen,q2.hw,q2.par,q2.ext⟩⟩
  ·cases h
 ·cases h
theorem ZuG{g:G}{w:World}(hl:∀k,w.heap.size≤k→g.hw k=0):Grew g w g.hw w.drew none:=
 ⟨rfl,rfl,rfl,Q2_ _,fun _ _ _=>rfl,fun _ _ h=>absurd h (by simp),fun _ _ _=>rfl,fun _ _ h=>absurd h (by simp),hl⟩
theorem Zqw(w:World)(p:Addr)(n:Nat)(k off:Nat):(w.freeze p n).cell? ⟨k,off,none⟩=w.cell? ⟨k,off,none⟩:=by
 unfold World.freeze
 split
 ·rfl
 ·unfold World.cell?
  simp only[Array.getElem?_modify]
  by_cases hk:p.block=k
  ·subst hk
   simp only[Kw_]
   cases w.heap[p.block]? with
   | none=>rfl
   | some ob=>cases ob<;>rfl
  ·simp only[hk,Kx_]
theorem Zqx{g:G}{w:World}(hl:∀k,w.heap.size≤k→g.hw k=0)(gb n:Nat):Grew g w g.hw (w.drew.freeze ⟨gb,0,none⟩ n) (some gb):=by
 have hsz:(w.drew.freeze ⟨gb,0,none⟩ n).heap.size=w.heap.size:=by
  unfold World.freeze
  split
  ·rfl
  ·simp
 refine ⟨?_, ?_, ?_,by rw[hsz];exact Q2_ _,fun j _ hj=>?_,fun j off _ _=>(Zqw w.drew _ n j off).trans rfl,fun _ _ _=>rfl,fun _ _ _=>Q2_ _,fun j hj=>hl j (by rw[hsz] at hj;exact hj)⟩
 ·unfold World.freeze;split<;>rfl
 ·unfold World.freeze;split<;>rfl
 ·unfold World.freeze;split<;>rfl
 ·unfold World.freeze
  split
  ·rfl
  ·simp only[Array.getElem?_modify]
   rw[if_neg (fun e=>hj (by rw[←e]))]
   rfl
theorem ZuH{f:FuncId}{e:TypeId}(hf:Zgp P f e)(hty:∃i,P.info? e=some i∧i.size=1)(hI:Inv P B g σ a w){args:Array Operand}{ats:Array TypeId}{x:Operand}{σ':St}(hop:o.op= .call ⟨.value (.func f),args,ats⟩)(hargs:args.toList=[x])
 (h:Zgs σ e o.dst x=some σ'):Goes P B g σ a w o σ':=by
 unfold Zgs at h
 split at h
 ·rename_i b off d hx hd
  split at h
  ·rename_i u y r hb
   cases hc:(Nat.beq off 0&&Nat.blt d σ.n) with
   | false=>rw[hc] at h;cases h
   | true=>
     rw[hc] at h
     simp only[Qb_] at h
     rw[Qh_] at hc
     have hoff:=Qj_ hc.1
     subst hoff
     have hlt:d < σ.n:=Qm_ hc.2
     obtain ⟨k,base,hk,hkl,hok,hhw,hB⟩:=hI.box b _ hb
     obtain ⟨k',base',hk',hpv⟩:=ZG hI hx
     rw[hk] at hk'
     have:=Qa_ hk'
     cases this
     obtain ⟨_,_,_,_,c4⟩:=hok.cell 0 (.bld u) rfl
     have hb0:base=0:=by
      cases c4 with
      | rep h=>cases h
      | bld _ h0 _ _=>omega
     subst hb0
     rw[QP_] at hpv
     have hent:=ZyD hop hargs rfl (w:=w) hpv hf.1
     obtain ⟨v,c1,_,_,c5⟩:=hok.cell 1 y rfl
     rw[QP_] at c1
     split at h
     ·have:=Qa_ h
      subst this
      have hv:v= .slice none 0 0:=by cases c5.plain rfl;rfl
      subst hv
      refine Zbs hd (.inr (.inr ⟨f,_,w,hent,(hf.2.2 k w c1).mono fun e w' ⟨he,hw'⟩=>⟨_,he,g, ?_⟩⟩))
      subst hw'
      obtain ⟨q1,q2⟩:=Zbr hI (ZuG hI.hwlt) (fun j h=>absurd h (by simp)) (fun j h=>absurd h (by simp)) (own':=σ.own) (fun _ _ h=>h) (fun _ _ _ _ _ _ h=>absurd h (by simp))
      exact ⟨WE q1 (show d < σ.n from hlt) (x:= .str []) (.str []),⟨q2.os,q2.tape,q2.output,q2.size,q2.n,q2.block,q2.cell,q2.frozen,q2.hw,q2.par,q2.ext⟩⟩
     ·rename_i xs
      have hr:=c5.plain rfl
      split at h
      ·rename_i c l E hbs hE
       cases hb2:Nat.beq E e with
       | false=>rw[hb2] at h;cases h
       | true=>
         rw[hb2] at h
         have:=Qa_ h
         subst this
         have hEe:=Qj_ hb2
         subst hEe
         obtain ⟨e1,e2⟩:=Zeq hbs
         obtain ⟨val,hl,⟨i,n,xv,hi,how,hfr⟩,hbx⟩:=hI.own _ _ hE
         obtain ⟨i',hi',hs1⟩:=hty
         rw[hi] at hi'
         have:=Qa_ hi'
         subst this
         rw[hs1] at how
         have hval:val=v:=by
          obtain ⟨k2,base2,h4,h5⟩:=hl
          rw[hk] at h4
          cases h4
          rw[QP_,c1] at h5
          exact (Qa_ h5).symm
         subst hval
         have hlens:Lens 1 xs:=by
          intro z hz
          obtain ⟨j,hj,rfl⟩:=Kn_ hz
          have:=e2 j (by rw[e1];exact hj)
          rw[Qg_ hj] at this
          rw[Qa_ this]
          rfl
         obtain ⟨rfl,hcx⟩:=ZbN hr how hlens
         rcases how.2 with ⟨rfl,h0⟩ | ⟨gb,cap,cur,rfl,hg,hh,r1,r2,r3,r4⟩
         ·exact absurd e1 (by rw[h0];simp)
         ·have hcell:∀(j:Nat) (z:UInt8),(c::l)[j]?=some z→w.cell? ⟨gb,j,none⟩=some (.int .u8 z.toNat):=by
           intro j z hz
           have hj:=(Qo_.1 hz).1
           have h6:=e2 j hj
           have hz':(c::l)[j]=z:=(Qo_.1 hz).2
           rw[hz'] at h6
           obtain ⟨q,h7,h8,h9⟩:=hcx j 0 _ _ h6 rfl
           have:=how.cells (g:=gb) rfl j q (by simpa using h7)
           rw[Addr.add_lit,QP_] at this
           rw[this,Z7 h9]
          have hshape:w.shape? gb=some (E,cur.size):=by simp[World.shape?,hh]
          rw[←e1] at c1
          refine Zbs hd (.inr (.inr ⟨f,_,w,hent,(hf.2.1 k gb cap cur.size (c::l) w c1 hshape (by simp) (by rw[e1];exact r1) (by rw[e1,r3];omega) (by rw[e1];omega) hcell).mono fun e w' ⟨he,hw'⟩=>⟨_,he,g, ?_⟩⟩))
          subst hw'
          obtain ⟨q1,q2⟩:=Zbr hI (Zqx hI.hwlt gb (c::l).length) (fun j h b cs base hb'=>hbx j (by simpa [Value.ownBlock] using h) b cs base hb') (fun j h=>by have:=Qa_ h;subst this;exact hg) (own':=(Yj σ (.b b 1)).own) (fun l E h=>(X5 h).2)
           (fun l' E' val' j hl' hloc hj=>fun hj'=>(X5 hl').1 (hI.owninj l' _ E' E val' _ j (X5 hl').2 hE hloc hl hj' (by simpa [Value.ownBlock] using hj)))
          exact ⟨WE q1 (show d < σ.n from hlt) (x:= .str (c::l)) (.str (c::l)),⟨q2.os,q2.tape,q2.output,q2.size,q2.n,q2.block,q2.cell,q2.frozen,q2.hw,q2.par,q2.ext⟩⟩
      ·cases h
     ·cases h
  ·cases h
 ·cases h
def Zod(E:Env)(σ:St)(dst:Option Nat):Option Res:=
 match lk ZaI E.Γ,dst with
 | some ty,some d=>match ty.zero,lk d σ.boxes with
   | [.v (.pointer none),.nil],none=>bif Nat.blt d σ.n then some ⟨.ptr d 0,some [.bld false,.nil],none⟩ else none
   | _,_=>none
 | _,_=>none
theorem ZuI{E:Env}(hE:EnvOk P E){r:Res}(hop:o.op= .alloc ZaI)(h:Zod E σ o.dst=some r):XU P σ o r:=by
 unfold Zod at h
 split at h
 ·rename_i ty d hty hd
  split at h
  ·rename_i hz0 hn
   cases hb:Nat.blt d σ.n with
   | false=>rw[hb] at h;cases h
   | true=>
     rw[hb] at h
     have:=Qa_ h
     subst this
     have hlt:d < σ.n:=Qm_ hb
     intro B g a w hI
     refine ⟨?_,fun d' hd'=>?_⟩
     ·obtain ⟨z,hz,hzc,h1,_⟩:=Wq (ZJ (hE.Γ _ ty hty)) w
      have hc:CellsRep g.hw w z.cells.toList ty.zero:=by rw[hzc];exact CellsRep.zero h1
      rw[hz0] at hc
      have hcl:z.cells.toList=[.pointer none,.slice none 0 0]:=by
       have hlen:z.cells.toList.length=2:=hc.len
       have g0:=Qg_ (l:=z.cells.toList) (i:=0) (by omega)
       have g1:=Qg_ (l:=z.cells.toList) (i:=1) (by omega)
       have r0:=Z7 (hc.rep 0 _ _ g0 rfl)
       have r1:=hc.rep 1 _ _ g1 rfl
       have r1':z.cells.toList[1]= .slice none 0 0:=by
        generalize z.cells.toList[1]=q at *
        cases r1;rfl
       apply List.ext_getElem?
       intro j
       match j with
       | 0=>rw[g0,r0];rfl
       | 1=>rw[g1,r1'];rfl
       | j+2=>rw[Kf_ (by omega)];rfl
      have hrun:(execOp a.eval o).run P w= .ok (.value (.pointer (some ⟨w.heap.size,0,none⟩))) (w.alloc (.cells #[.pointer none,.slice none 0 0] ZaI)):=by
       have e:z.cells=#[.pointer none,.slice none 0 0]:=by apply QW_;rw[hcl]
       simp[execOp,hop,Instr.alloc,hz,newVar,newRow,e]
      have q:Qt g.hw w g.hw (w.alloc (.cells #[.pointer none,.slice none 0 0] ZaI)):=
       ⟨(Below.refl _ _).alloc (Q2_ _) _,fun _ _=>rfl,fun k hk=>hI.hwlt k (by simp at hk;omega)⟩
      refine .inl ⟨_,_,hrun,⟨fun b=>if b=d then some (w.heap.size,0) else g.β b,g.hw⟩,⟨q,⟨w.heap.size,0,by simp,rfl⟩,fun h=>absurd h (by simp), ?_,fun _ h=>absurd h (by simp),fun h=>absurd h (by simp)⟩⟩
      intro cs' e
      have:=Qa_ e
      subst this
      refine ⟨d,w.heap.size,hd,hn,rfl,fun b hb=>by simp[hb],by simp,Q2_ _,by simp,⟨fun j y hy=>?_⟩,hI.hwlt _ (Q2_ _),fun y hy=>by simp only[Q9_,List.not_mem_nil,or_false] at hy;rcases hy with e | e<;>(rw[e];rfl)⟩
      have hsh:(w.alloc (.cells #[.pointer none,.slice none 0 0] ZaI)).shape? w.heap.size=some (ZaI,2):=by
       have:=heap_alloc_new w (.cells #[.pointer none,.slice none 0 0] ZaI)
       simp only[World.shape?,this]
       rfl
      match j,hy with
      | 0,hy=>
        have:=Qa_ hy
        subst this
        refine ⟨.pointer none, ?_,rfl, ?_,.bld false rfl hsh rfl⟩
        ·rw[QP_,World.cell?_alloc_new];rfl
        ·rw[QP_,World.frozen?_alloc_new]
      | 1,hy=>
        have:=Qa_ hy
        subst this
        refine ⟨.slice none 0 0, ?_,rfl, ?_,.rep .nil⟩
        ·rw[World.cell?_alloc_new];rfl
        ·rw[World.frozen?_alloc_new]
      | j+2,hy=>simp at hy
     ·rw[hd] at hd'
      have:=Qa_ hd'
      subst this
      exact ⟨hlt,fun l h=>absurd h (by simp)⟩
  ·cases h
 ·cases h
end
def Zoe:AV→Option PV
 | .ptr b o=>some (.bp b o)
 | .sl b o n s=>some (.bs b o n s)
 | _=>none
def Zi4(Γ:List (Nat×Ty))(σ:St)(T:TypeId)(p x:Operand):Option St:=
 match opd σ p,opd σ x,lk T Γ with
 | some (.ptr b off),some av,some ty=>match lk b σ.boxes,Zoe av with
   | some cs,some y=>bif Nat.beq ty.size 1&&Nat.ble (off+1) cs.length&& !(has b σ.ro) then some (YQ σ b off [y] cs []) else none
   | _,_=>none
 | _,_,_=>none
def ZmP(E:Env)(σ:St)(d:Nat)(T:TypeId):Option St:=
 match lk T E.Γ with
 | some ty=>bif Nat.beq ty.kd 3&&Nat.blt d σ.n then match lk ty.elem E.Γ with
   | some ety=>bif Nat.beq ety.size 0 then none else some (WY (put σ d (.p (.lst []))) d ty.elem)
   | none=>none
   else none
 | none=>none
def Zh5(E:Env)(σ:St)(d:Nat)(x y:Operand)(t t':TypeId):Option St:=
 match lk t E.Γ,x,Z0 σ x,Z0 σ y with
 | some ty,.tmp t1,some (.lst []),some (.lst ys)=>match lk ty.elem E.Γ with
   | some ety=>bif Nat.beq t t'&&Nat.beq ty.kd 3&& !(Nat.beq ety.size 0)&& !(Nat.beq ety.bytes 0)&&Nat.blt 0 ys.length&&Nat.ble ((0+ys.length)*ety.bytes) 140737488355328&&W0 ety.size ys&&Yf (lk d σ.boxes)&&Nat.blt d σ.n then
     let l:=match lk t1 σ.al with | some l=>l | none=> .t t1
     match lkL l σ.own with
     | some E'=>bif Nat.beq E' ty.elem then some (put {Yj σ l with boxes:=(d,ys.flatten)::σ.boxes} d (.sl d 0 ys.length ety.size)) else none
     | none=>none
     else none
   | none=>none
 | _,_,_,_=>none
def RRA(E:Env)(σ:St)(o:Oper):Option Res:=
 match o.dst with
 | some d=>bif Nat.blt d σ.n then
   match o.op with
   | .load T x=>match opd σ x,lk T E.Γ with
     | some (.ptr b off),some ty=>bif Nat.beq ty.size 1&& !ty.agg then match lk b σ.boxes with
       | some cs=>match cs[off]? with
         | some (.bs b' o n s)=>some ⟨.sl b' o n s,none,none⟩
         | some (.bp b' o)=>some ⟨.ptr b' o,none,none⟩
         | _=>none
       | none=>none
       else none
     | _,_=>none
   | .indexAddr T x i=>match lk T E.Γ,opd σ x,Z0 σ i with
     | some ty,some (.sl b off n s),some (.v (.int _ m))=>match lk ty.elem E.Γ with
       | some ety=>bif Nat.beq ty.kd 3&&Nat.beq ety.size s&&decide (0≤m)&&decide (m < n) then some ⟨.ptr b (off+m.toNat *s),none,none⟩ else none
       | none=>none
     | _,_,_=>none
   | .call ⟨.builtin .len,args,ats⟩=>match args.toList,ats.toList with
     | [x],[t]=>match opd σ x,lk t E.Γ with
       | some (.sl _ _ n _),some ty=>bif Nat.beq ty.kd 3 then some ⟨.p (.v (.int .i64 n)),none,none⟩ else none
       | _,_=>none
     | _,_=>none
   | _=>none
   else none
 | none=>none
theorem Zfs{α:Type}{s:Nat}:∀{ys:List (List α)} (_:∀x∈ys,x.length=s) {p:Nat} {y:α},ys.flatten[p]?=some y→∃i j x,ys[i]?=some x∧x[j]?=some y∧p=i *s+j
 | [],_,p,y,h=>by simp at h
 | x::r,hs,p,y,h=>by
   have hx:=hs x (Qv_ ..)
   rw[List.flatten_cons,K0_] at h
   split at h
   ·exact ⟨0,p,x,rfl,h,by omega⟩
   ·rename_i hp
    obtain ⟨i,j,x',h1,h2,h3⟩:=Zfs (fun z hz=>hs z (Qq_ _ hz)) h
    refine ⟨i+1,j,x',by simpa using h1,h2, ?_⟩
    rw[Kp_]
    omega
section
variable {P:Program}{B:Nat}{g:G}{σ:St}{a:Act}{w:World}{o:Oper}
theorem Zof(hI:Inv P B g σ a w){d:Nat}(hd:d < σ.n)(hdb:lk d σ.boxes=none){k n s cap:Nat}{cs:List PV}(hk:k < w.heap.size)(hB:B≤k)(h0:g.hw k=0)(hcap:n≤cap)
 (hnb:∀b cs base,lk b σ.boxes=some cs→g.β b≠some (k,base)) (hno:∀l E val,lkL l σ.own=some E→LocIs g a w l val→val.ownBlock≠some k)
 (hbx:BoxOk ⟨fun b=>if b=d then some (k,0) else g.β b,g.hw⟩ w k 0 cs) (hrf:∀y∈cs,∀b',Xf y=some b'→∃c,lk b' σ.boxes=some c):
 Inv P B ⟨fun b=>if b=d then some (k,0) else g.β b,g.hw⟩ (put {σ with boxes:=(d,cs)::σ.boxes} d (.sl d 0 n s)) (a.put (some d) (.slice (some ⟨k,0,none⟩) n cap)) w∧
 Fr B g σ w ⟨fun b=>if b=d then some (k,0) else g.β b,g.hw⟩ (put {σ with boxes:=(d,cs)::σ.boxes} d (.sl d 0 n s)) w:=by
 have ne:∀b,(∃c,lk b σ.boxes=some c)→b≠d:=by
  rintro b ⟨c,h⟩ e
  rw[e,hdb] at h
  cases h
 have be:∀b,(∃c,lk b σ.boxes=some c)→(if b=d then some (k,0) else g.β b)=g.β b:=fun b h=>if_neg (ne b h)
 have bx:∀b c,lk b ((d,cs)::σ.boxes)=some c→(b=d∧c=cs)∨lk b σ.boxes=some c:=by
  intro b c h
  rw[Zn] at h
  split at h
  ·rename_i e;exact .inl ⟨e,(Qa_ h).symm⟩
  ·exact .inr h
 have isb:∀b,(∃c,lk b σ.boxes=some c)→∃c,lk b ((d,cs)::σ.boxes)=some c:=by
  rintro b ⟨c,h⟩
  rw[Zn]
  split
  ·exact ⟨cs,rfl⟩
  ·exact ⟨c,h⟩
 have loc:∀l val,l≠ .t d→(∀b c,l= .b b c→∃c,lk b σ.boxes=some c)→(LocIs ⟨fun b=>if b=d then some (k,0) else g.β b,g.hw⟩ (a.put (some d) (.slice (some ⟨k,0,none⟩) n cap)) w l val↔LocIs g a w l val):=by
  intro l val hl hb
  cases l with
  | t t=>
    have hne:t≠d:=fun e=>hl (by rw[e])
    show (a.tmps.setIfInBounds d _).getD t undef=val↔a.tmps.getD t undef=val
    rw[XT hne]
  | b b c=>
    show (∃k1 base,(if b=d then some (k,0) else g.β b)=some (k1,base)∧_)↔∃k1 base,g.β b=some (k1,base)∧_
    rw[be b (hb b c rfl)]
 have ownl:∀l E,lkL l (put {σ with boxes:=(d,cs)::σ.boxes} d (.sl d 0 n s)).own=some E→l≠ .t d∧lkL l σ.own=some E:=fun l E h=>Zrc (σ:={σ with boxes:=(d,cs)::σ.boxes}) h
 have ownb:∀l E,lkL l σ.own=some E→∀b c,l= .b b c→∃c,lk b σ.boxes=some c:=fun l E h b c e=>by
  have:=hI.ownt l E h
  subst e
  exact this
 have tm:∀t v,lk t ((d,AV.sl d 0 n s)::σ.tmps)=some v→(t=d∧v= .sl d 0 n s)∨(t≠d∧lk t σ.tmps=some v):=by
  intro t v h
  rw[Zn] at h
  split at h
  ·rename_i e;exact .inl ⟨e,(Qa_ h).symm⟩
  ·rename_i e;exact .inr ⟨e,h⟩
 have als:∀t l,(t,l)∈(put {σ with boxes:=(d,cs)::σ.boxes} d (.sl d 0 n s)).al→(t,l)∈σ.al∧t≠d∧l≠ .t d:=by
  intro t l h
  obtain ⟨h1,h2⟩:=QY_.1 h
  simp only[Qh_,Qi_] at h2
  refine ⟨h1,fun e=>?_,fun e=>?_⟩
  ·rw[e] at h2;simp at h2
  ·rw[e,Loc.eq_iff.2 rfl] at h2;exact absurd h2.2 (by simp)
 refine ⟨⟨?_,hI.defers,fun t v ht=>?_,fun t b off ht=>?_,fun t f bs ht b hb=>?_,fun b c h=>?_,fun b b' c c' k1 base base' h1 h2 h3 h4=>?_,hI.hwlt,hI.base,hI.glob,fun l E h=>?_,fun l E h=>?_,fun l l' E E' v v' k1 h1 h2 h3 h4 h5 h6=>?_,fun t l h=>?_,fun t b c h=>?_,fun t b off m s' ht=>?_,fun b c h y hy b' hb'=>?_⟩, ?_⟩
 ·show (a.tmps.setIfInBounds d _).size=σ.n
  simp[hI.size]
 ·rcases tm t v ht with ⟨rfl,rfl⟩ | ⟨hne,ht⟩
  ·refine ⟨hd,k,0,cap,by simp,hcap, ?_⟩
   show (a.tmps.setIfInBounds t _).getD t undef=_
   rw[Zcs (by rw[hI.size];exact hd)]
  ·obtain ⟨h1,h2⟩:=hI.tmp t v ht
   refine ⟨h1, ?_⟩
   show RepA _ w ((a.tmps.setIfInBounds d _).getD t undef) v
   rw[XT hne]
   refine RepA.mono (g:=g) (g':=⟨fun b=>if b=d then some (k,0) else g.β b,g.hw⟩) (Ext.refl _ _) (fun b=>?_) (fun b off n' s' e=>be b (hI.sl t b off n' s' (by rw[ht,e]))) h2
   cases v with
   | p x=>exact .inl ⟨fun _=>by simp,fun _ _=>by simp⟩
   | sl b' off n' s'=>exact .inl ⟨fun _=>by simp,fun _ _=>by simp⟩
   | ptr b' off=>
     by_cases e:b=b'
     ·subst e;exact .inr (be b (hI.ptr t b off ht))
     ·exact .inl ⟨fun off'=>by simp;intro e';exact absurd e'.symm e,fun _ _=>by simp⟩
   | fnp f bs=>
     by_cases e:b∈bs
     ·exact .inr (be b (hI.fnp t f bs ht b e))
     ·exact .inl ⟨fun _=>by simp,fun f' bs' e'=>by cases e';exact e⟩
 ·rcases tm t _ ht with ⟨_,e⟩ | ⟨_,ht⟩
  ·cases e
  ·exact isb b (hI.ptr t b off ht)
 ·rcases tm t _ ht with ⟨_,e⟩ | ⟨_,ht⟩
  ·cases e
  ·exact isb b (hI.fnp t f bs ht b hb)
 ·rcases bx b c h with ⟨rfl,rfl⟩ | h
  ·exact ⟨k,0,by simp,hk,hbx,fun _=>h0,fun _=>hB⟩
  ·obtain ⟨k1,base,q1,q2,q3,q4,q5⟩:=hI.box b c h
   refine ⟨k1,base,(be b ⟨c,h⟩).trans q1,q2, ?_,q4,q5⟩
   exact ⟨fun j y hy=>let ⟨v,r1,r2,r3,r4⟩:=q3.cell j y hy;⟨v,r1,r2,r3,r4.mono (Ext.refl _ _) rfl (fun b' hb'=>be b' (hI.ref b c h y (Qz_ hy) b' hb'))⟩⟩
 ·have h3':(if b=d then some (k,0) else g.β b)=some (k1,base):=h3
  have h4':(if b'=d then some (k,0) else g.β b')=some (k1,base'):=h4
  rcases bx b c h1 with ⟨e1,_⟩ | q1<;>rcases bx b' c' h2 with ⟨e2,_⟩ | q2
  ·rw[e1,e2]
  ·rw[if_pos e1] at h3'
   rw[be b' ⟨c',q2⟩] at h4'
   cases h3'
   exact absurd h4' (hnb b' c' base' q2)
  ·rw[if_pos e2] at h4'
   rw[be b ⟨c,q1⟩] at h3'
   cases h4'
   exact absurd h3' (hnb b c base q1)
  ·rw[be b ⟨c,q1⟩] at h3'
   rw[be b' ⟨c',q2⟩] at h4'
   exact hI.inj b b' c c' k1 base base' q1 q2 h3' h4'
 ·obtain ⟨hl,ho⟩:=ownl l E h
  obtain ⟨val,q1,q2,q3⟩:=hI.own l E ho
  refine ⟨val,(loc l val hl (ownb l E ho)).2 q1,q2,fun k1 hk1 b c base hb=>?_⟩
  rcases bx b c hb with ⟨rfl,rfl⟩ | hb
  ·simp only[Kw_]
   intro e
   cases e
   exact hno l E val ho q1 hk1
  ·show (if b=d then some (k,0) else g.β b)≠some (k1,base)
   rw[be b ⟨c,hb⟩]
   exact q3 k1 hk1 b c base hb
 ·obtain ⟨hl,h⟩:=ownl l E h
  have:=hI.ownt l E h
  cases l with
  | t t=>exact this
  | b b c=>exact isb b this
 ·obtain ⟨hl1,h1⟩:=ownl l E h1
  obtain ⟨hl2,h2⟩:=ownl l' E' h2
  exact hI.owninj l l' E E' v v' k1 h1 h2 ((loc l v hl1 (ownb l E h1)).1 h3) ((loc l' v' hl2 (ownb l' E' h2)).1 h4) h5 h6
 ·obtain ⟨h1,h2,h3⟩:=als t l h
  show LocIs _ _ w l ((a.tmps.setIfInBounds d _).getD t undef)
  rw[XT h2]
  exact (loc l _ h3 (fun b c e=>by subst e;exact hI.alt t b c h1)).2 (hI.al t l h1)
 ·exact isb b (hI.alt t b c (als t _ h).1)
 ·rcases tm t _ ht with ⟨_,e⟩ | ⟨_,ht⟩
  ·cases e
   exact ⟨cs,by show lk d ((d,cs)::σ.boxes)=_;rw[Zn,if_pos rfl]⟩
  ·exact isb b (hI.sl t b off m s' ht)
 ·rcases bx b c h with ⟨rfl,rfl⟩ | h
  ·exact isb b' (hrf y hy b' hb')
  ·exact isb b' (hI.ref b c h y hy b' hb')
 ·refine ⟨rfl,rfl,rfl,Q2_ _,rfl,fun _ _ _=>rfl,fun _ _ _ _=>rfl,fun _ _ _=>rfl,fun _ _ _=>rfl,fun b c hb h=>?_,Ext.refl _ _⟩
  rcases bx b c h with ⟨rfl,rfl⟩ | h
  ·omega
  ·exact ⟨c,h,rfl,be b ⟨c,h⟩⟩
theorem Zz0{T e:TypeId}{ety:Ty}(hu:P.underlying T=some (.slice e))(hE:TyIs P e ety):(Instr.buildSlice T 0 #[]).run P w= .ok (.slice (some ⟨w.heap.size,0,none⟩) 0 0) (w.alloc (.cells #[] e)):=by
 have e0:(Array.range 0).map (fun i=>(#[]:Array Value)[i % (#[]:Array Value).size]!)=#[]:=by apply QW_;simp
 unfold Instr.buildSlice
 simp only[Sem.run_bind,run_underlying hu,Result.andThen_ok,Yc hE,Nat.zero_mul,Kw_,pure_bind,e0]
 rfl
theorem ZwX{E:Env}(hE:EnvOk P E)(hI:Inv P B g σ a w){T:TypeId}{ps:Array (Nat×Operand)}{d:Nat}{σ':St}(hop:o.op= .buildSlice T 0 ps)(hps:ps.toList=[])(hdst:o.dst=some d)(h:ZmP E σ d T=some σ'):Goes P B g σ a w o σ':=by
 have eps:ps=#[]:=by apply QW_;simpa using hps
 subst eps
 unfold ZmP at h
 split at h
 ·rename_i ty hty
  cases hb:(Nat.beq ty.kd 3&&Nat.blt d σ.n) with
  | false=>rw[hb] at h;cases h
  | true=>
    rw[hb] at h
    simp only[Qb_] at h
    rw[Qh_] at hb
    have hd:d < σ.n:=Qm_ hb.2
    split at h
    ·rename_i ety hety
     cases hs:Nat.beq ety.size 0 with
     | true=>rw[hs] at h;cases h
     | false=>
       rw[hs] at h
       have:=Qa_ h
       subst this
       obtain ⟨_,hk3,_⟩:=Yz (ZJ (hE.Γ _ _ hty))
       have hu:=hk3 (Qj_ hb.1)
       have hET:=ZJ (hE.Γ _ _ hety)
       obtain ⟨i,z,hi,hz,e1,_⟩:=hET.info
       have hrun:=Zz0 (w:=w) hu hET
       have q:Qt g.hw w g.hw (w.alloc (.cells #[] ty.elem)):=⟨(Below.refl _ _).alloc (Q2_ _) _,fun _ _=>rfl,fun k hk=>hI.hwlt k (by simp at hk;omega)⟩
       have hrep:Rep g.hw (w.alloc (.cells #[] ty.elem)) (.slice (some ⟨w.heap.size,0,none⟩) 0 0) (.lst []):=
        .lst [] w.heap.size 0 0 0 (fun _ _=>undef) (Q2_ _) (fun i x hx=>by simp at hx) (fun i j hi'=>by simp at hi') (fun i j x y hx=>by simp at hx) (fun i j hi'=>by simp at hi') (by simp)
       have hown:OwnV P B g.hw (w.alloc (.cells #[] ty.elem)) ty.elem (.slice (some ⟨w.heap.size,0,none⟩) 0 0):=
        ⟨i,0,[],hi,⟨by simp,.inr ⟨w.heap.size,0,#[],rfl,hI.base,heap_alloc_new w _,Q2_ _,Kz_ _,by simp,by simp⟩⟩,fun k hk=>by
          have:k=w.heap.size:=by simp[Value.ownBlock] at hk;exact hk.symm
          rw[this,hI.hwlt _ (Q2_ _),Nat.zero_mul]⟩
       have:=JI (v:= .slice none 0 0) (own':=σ.own) hI hd (fun k hk=>absurd hk (by simp[Value.ownBlock])) (fun k hk=>absurd hk (by simp[Value.ownBlock])) (fun _ _ h=>h) (fun _ _ _ j _ _ hk=>absurd hk (by simp[Value.ownBlock])) q.grew hrep hown (.inr (fun k hk=>by simp[Value.ownBlock] at hk;omega))
       refine .inl ⟨_,_, ?_,by rw[hdst];exact ⟨_,this⟩⟩
       unfold execOp
       rw[hop]
       simp only[List.map_toArray,QN_]
       exact ZO hrun
    ·cases h
 ·cases h
theorem Zqy{Γ:List (Nat×Ty)}(hΓ:Ye P Γ)(hI:Inv P B g σ a w){T:TypeId}{p x:Operand}{σ':St}(hop:o.op= .store T p x)(hd:o.dst=none)(h:Zi4 Γ σ T p x=some σ'):Goes P B g σ a w o σ':=by
 unfold Zi4 at h
 split at h
 ·rename_i b off av ty hp hv hty
  split at h
  ·rename_i cs y hcs hy
   cases hb:(Nat.beq ty.size 1&&Nat.ble (off+1) cs.length&& !(has b σ.ro)) with
   | false=>rw[hb] at h;cases h
   | true=>
     rw[hb] at h
     have:=Qa_ h
     subst this
     simp only[Qh_,Qi_] at hb
     have e3:=Qj_ hb.1.1
     have e2:=Qm_ hb.1.2
     have hro:b∉σ.ro:=fun hm=>by rw[YW.2 hm] at hb;exact absurd hb.2 (by simp)
     obtain ⟨k,base,hk,hpv⟩:=ZG hI hp
     obtain ⟨k',base',hk',hlt,hok,hhw,hB⟩:=hI.box b cs hcs
     rw[hk] at hk'
     have:=Qa_ hk'
     cases this
     have hT:=ZJ (hΓ T ty hty)
     have hrep:=ZG hI hv
     have hcell:(a.eval x).cells=#[a.eval x]∧(a.eval x).oneCell'=true∧(∀w',RepB g.β g.hw w' k (base+off) 0 (a.eval x) y)∧∀b',Xf y=some b'→∃c,lk b' σ.boxes=some c:=by
      have hbx:∀t,x= .tmp t→lk t σ.tmps=some av:=fun t e=>by subst e;exact hv
      cases av with
      | p z=>exact absurd hy (by simp[Zoe])
      | fnp f bs=>exact absurd hy (by simp[Zoe])
      | ptr b2 o2=>
        have:=Qa_ hy
        subst this
        obtain ⟨k2,base2,h1,h2⟩:=hrep
        refine ⟨by rw[h2];rfl,by rw[h2];rfl,fun w'=> .bp b2 o2 ⟨k2,base2,h1,h2⟩,fun b' hb'=>?_⟩
        have:=Qa_ hb'
        subst this
        exact Ze3 hI hv
      | sl b2 o2 n2 s2=>
        have:=Qa_ hy
        subst this
        obtain ⟨k2,base2,cap,h1,h2,h3⟩:=hrep
        refine ⟨by rw[h3];rfl,by rw[h3];rfl,fun w'=> .bs b2 o2 n2 s2 ⟨k2,base2,cap,h1,h2,h3⟩,fun b' hb'=>?_⟩
        have:=Qa_ hb'
        subst this
        cases x with
        | tmp t=>exact hI.sl t b2 o2 n2 s2 hv
        | const c=>simp only[opd] at hv;split at hv<;>cases hv
        | global _=>simp only[opd] at hv;split at hv<;>cases hv
        | func _=>exact absurd hv (by simp[opd])
     obtain ⟨c1,c2,c3,c4⟩:=hcell
     obtain ⟨u,u1,_,u3,_⟩:=hok.cell off cs[off] (Qg_ (by omega))
     have hrun:=run_storeCells_cells (P:=P) k (base+off) [a.eval x] 0 w (fun j hj=>by have:j=0:=by simp at hj;exact hj
                                                                                      subst this;simp[u1]) (fun j hj=>by have:j=0:=by simp at hj;exact hj
                                                                                                                         subst this;simpa using u3) (fun z hz=>by rw[List.mem_singleton.1 hz];exact c2)
     simp only[Nat.add_zero] at hrun
     have hturn:Turned g w g.hw (w.setCells k (base+off) [a.eval x]) k (base+off) 1:=by
      obtain ⟨r1,r2,r3⟩:=Zao k [a.eval x] (base+off) w
      refine ⟨r1,r2,r3,by rw[XG];exact Q2_ _,fun j _ hj=>Zan k _ _ w j hj,fun off' ho=>World.cell?_setCells_out k _ _ w _ (fun _ _=>?_),fun off'=>World.frozen?_setCells k _ _ w _,fun _ _=>rfl,fun j hj=>hI.hwlt j (by rw[XG] at hj;exact hj)⟩
      simp only[Qs_,Q1_]
      omega
     have hshape:(w.setCells k (base+off) [a.eval x]).shape? k=w.shape? k:=JF k k _ _ w
     have hnew:BoxOk ⟨g.β,g.hw⟩ (w.setCells k (base+off) [a.eval x]) k (base+off) [y]:=by
      refine ⟨fun j z hz=>?_⟩
      have hj:j=0:=by have:=(Qo_.1 hz).1;simp at this;exact this
      subst hj
      have:=Qa_ hz
      subst this
      refine ⟨a.eval x,World.cell?_setCells_in k [a.eval x] (base+off) w (fun i hi=>?_) 0 (by simp),c2, ?_,c3 _⟩
      ·have:i=0:=by simp at hi;exact hi
       subst this
       simp[u1]
      ·rw[World.frozen?_setCells];exact u3
     obtain ⟨q1,q2⟩:=ZbM hI hcs hro hk (by simp;omega) hturn hnew (.inr hshape) (fun z hz b' hb'=>c4 b' (by rw[←List.mem_singleton.1 hz];exact hb')) (own':=[]) (fun l E hl=>by simp[lkL] at hl) (fun l l' E E' hl=>by simp[lkL] at hl)
     refine .inr (.inl ⟨undef,_,rfl, ?_,⟨g.β,g.hw⟩,by rw[hd];exact q1,q2⟩)
     unfold execOp
     rw[hop]
     simp[Instr.storeAt,Instr.sureAddr,hpv,storeVar,c1,e3,Yc hT,hrun]
  ·cases h
 ·cases h
theorem Z0x(hI:Inv P B g σ a w){x:Operand}{b off n s:Nat}(h:opd σ x=some (.sl b off n s)):∃cs,lk b σ.boxes=some cs:=by
 cases x with
 | tmp t=>exact hI.sl t b off n s h
 | const v=>simp only[opd] at h;split at h<;>cases h
 | global _=>simp only[opd] at h;split at h<;>cases h
 | func _=>exact absurd h (by simp[opd])
theorem Zsi{E:Env}(hE:EnvOk P E)(hI:Inv P B g σ a w){args:Array Operand}{ats:Array TypeId}{x y:Operand}{t t':TypeId}{d:Nat}(hop:o.op= .call ⟨.builtin .append,args,ats⟩)(hargs:args.toList=[x,y])(hats:ats.toList=[t,t'])
 (hdst:o.dst=some d) {σ':St} (h:Zh5 E σ d x y t t'=some σ'):Goes P B g σ a w o σ':=by
 have ea:args=#[x,y]:=by apply QW_;simpa using hargs
 have et:ats=#[t,t']:=by apply QW_;simpa using hats
 subst ea;subst et
 unfold Zh5 at h
 split at h
 ·rename_i ty t1 ys hty hx hy
  split at h
  ·rename_i ety hety
   cases hb:(Nat.beq t t'&&Nat.beq ty.kd 3&& !(Nat.beq ety.size 0)&& !(Nat.beq ety.bytes 0)&&Nat.blt 0 ys.length&&Nat.ble ((0+ys.length)*ety.bytes) 140737488355328&&W0 ety.size ys&&Yf (lk d σ.boxes)&&Nat.blt d σ.n) with
   | false=>rw[hb] at h;cases h
   | true=>
     rw[hb] at h
     simp only[Qb_] at h
     simp only[Qh_,Qi_] at hb
     obtain ⟨⟨⟨⟨⟨⟨⟨⟨b1,b2⟩,b3⟩,b4⟩,b5⟩,b6⟩,b7⟩,b8⟩,b9⟩:=hb
     have htt:=Qj_ b1
     subst htt
     have hkd:=Qj_ b2
     have s0:ety.size≠0:=fun e=>by rw[e] at b3;exact absurd b3 (by decide)
     have hb0:ety.bytes≠0:=fun e=>by rw[e] at b4;exact absurd b4 (by decide)
     have h0:0 < ys.length:=Qm_ b5
     have hbytes:=Qm_ b6
     have hlens:=Zay b7
     have hd:d < σ.n:=Qm_ b9
     have hdb:lk d σ.boxes=none:=by
      cases hq:lk d σ.boxes with
      | none=>rfl
      | some c=>rw[hq] at b8;exact absurd b8 (by simp[Yf])
     split at h
     ·rename_i E' hE'
      cases hb3:Nat.beq E' ty.elem with
      | false=>rw[hb3] at h;cases h
      | true=>
        rw[hb3] at h
        have:=Qa_ h
        subst this
        have hEe:=Qj_ hb3
        subst hEe
        obtain ⟨val,hl,hov,hbx⟩:=hI.own _ ty.elem hE'
        have hlv:LocIs g a w (match lk t1 σ.al with | some l=>l | none=> .t t1) (a.eval (.tmp t1)):=by
         split
         ·rename_i l hl;exact hI.al _ _ (ZbL hl)
         ·rfl
        have hv:=Za8 hl hlv
        subst hv
        have hrx:Rep g.hw w (a.eval (.tmp t1)) (.lst []):=Zy hI (by assumption)
        have hry:Rep g.hw w (a.eval y) (.lst ys):=Zy hI (by assumption)
        have hET:=ZJ (hE.Γ _ _ hety)
        obtain ⟨i,z,hi,hz,e1,e2,_,_,hzs⟩:=hET.info
        obtain ⟨_,hk3,_⟩:=Yz (ZJ (hE.Γ _ _ hty))
        have hu:=hk3 hkd
        obtain ⟨i',n,xv,hi',hown,hfr⟩:=hov
        rw[hi] at hi'
        have:=Qa_ hi'
        subst this
        rw[e1] at s0 hlens
        rw[e2] at hb0 hbytes
        obtain ⟨hn0,_⟩:=ZbN hrx hown (fun x hx=>by simp at hx)
        simp only[Q1_] at hn0
        subst hn0
        obtain ⟨blk,off,cap,hvy,news,n1,n2,n3,n4⟩:=Zjm hry h0 hlens
        have hsum:ys.length≤140737488355328:=by
         have:=Nat.le_mul_of_pos_right ys.length (m:=i.bytes) (by omega)
         rw[QP_] at hbytes
         omega
        obtain ⟨v',w',hr,how,hg,hblk,hst,hfz⟩:=Zie (ty:=o.type) hu hi hz hzs (by omega) hown (m:=ys.length) (c:=cap) n1 n2 n3 (by simp only[maxLen];omega) hbytes hI.base
        have hxv:xv=[]:=QM_ (by have:=hown.1;omega)
        rw[hxv,QJ_,QP_] at how
        have hgrew:Grew g w g.hw w' (a.eval (.tmp t1)).ownBlock:=by
         refine ⟨hg.os,hg.tape,hg.output,hg.size,hg.block,fun j off hj hoff=>?_,fun _ _ _=>rfl,fun _ _ _=>Q2_ _,fun j hj=>hI.hwlt j (QT_ hg.size hj)⟩
         rw[hfr j hj] at hoff
         omega
        have hx':=hgrew.ext hI.hwlt
        have hlt0:=Yh (hI.own _ _ hE').choose_spec.2.1
        rcases how.2 with ⟨_,hz0⟩ | ⟨gb,cap',cur,hv',hgB,hgh,r1,r2,r3,r4⟩
        ·omega
        ·subst hv'
         have hgl:gb < w'.heap.size:=(QL_.1 hgh).1
         have hb':some gb=(a.eval (.tmp t1)).ownBlock∨w.heap.size≤gb:=by
          rcases hblk with h | h
          ·exact .inl h
          ·exact .inr (h gb rfl)
         obtain ⟨h1,f1⟩:=Zbr hI hgrew (fun j hj b cs base hbb=>hbx j hj b cs base hbb) (fun j hj=>by
          rcases hown.2 with ⟨hv0,_⟩ | ⟨g0,c0,cu0,hv0,hB0,_⟩
          ·rw[hv0] at hj;exact absurd hj (by simp[Value.ownBlock])
          ·rw[hv0] at hj;have:j=g0:=by simp[Value.ownBlock] at hj;exact hj.symm
           rw[this];exact hB0) (own':=(Yj σ (match lk t1 σ.al with | some l=>l | none=> .t t1)).own) (fun l E h=>(X5 h).2)
          (fun l E2 val2 j hl2 hloc hj hj'=>(X5 hl2).1 (hI.owninj l _ E2 ty.elem val2 _ j (X5 hl2).2 hE' hloc hl hj' hj))
         have hw0:g.hw gb=0:=by
          rcases hb' with h | h
          ·rw[hfr gb h.symm,Nat.zero_mul]
          ·exact hI.hwlt gb h
         have c1:∀b cs base,lk b σ.boxes=some cs→g.β b≠some (gb,base):=by
          intro b cs base hbb
          rcases hb' with h | h
          ·exact hbx gb h.symm b cs base hbb
          ·intro e
           obtain ⟨k2,base2,q1,q2,_⟩:=hI.box b cs hbb
           have e':g.β b=some (gb,base):=e
           rw[q1] at e'
           cases e'
           omega
         have c2:∀l E2 val2,lkL l (Yj σ (match lk t1 σ.al with | some l=>l | none=> .t t1)).own=some E2→LocIs ⟨g.β,g.hw⟩ a w' l val2→val2.ownBlock≠some gb:=by
          intro l E2 val2 hl2 hloc
          obtain ⟨hne,hl3⟩:=X5 hl2
          obtain ⟨val0,q1,q2,q3⟩:=hI.own l E2 hl3
          have hbx2:∀b c,l= .b b c→∃cs,lk b σ.boxes=some cs:=fun b c e=>by have:=hI.ownt l E2 hl3;subst e;exact this
          have q4:=ZnF hI hgrew (fun j hj b cs base hbb=>hbx j hj b cs base hbb) hbx2 q1
          have:=Za8 q4 hloc
          subst this
          intro e
          rcases hb' with h | h
          ·exact hne (hI.owninj l _ E2 ty.elem val0 _ gb hl3 hE' q1 hl e h.symm)
          ·have:=(Yh q2 gb e).1
           omega
         have c3:BoxOk ⟨fun b=>if b=d then some (gb,0) else g.β b,g.hw⟩ w' gb 0 ys.flatten:=by
          refine ⟨fun p q hpq=>?_⟩
          obtain ⟨i1,j1,x1,h4,h5,h6⟩:=Zfs hlens hpq
          obtain ⟨u,h7,h8⟩:=n4 i1 j1 x1 q h4 h5
          have hc:=how.cells (g:=gb) rfl (i1 *i.size+j1) u h7
          rw[Addr.add_lit] at hc
          refine ⟨u,by rw[h6];exact hc,n3 u (Qz_ h7),by simp[World.frozen?,hgh],.rep (h8.mono hx')⟩
         have c4:∀q∈ys.flatten,∀b',Xf q=some b'→∃c,lk b' σ.boxes=some c:=by
          intro q hq b' hb2
          obtain ⟨p,hp,rfl⟩:=Kn_ hq
          obtain ⟨i1,j1,x1,h4,h5,_⟩:=Zfs hlens (Qg_ hp)
          obtain ⟨u,_,h8⟩:=n4 i1 j1 x1 _ h4 h5
          rw[ZkL h8] at hb2
          cases hb2
         obtain ⟨h2,f2⟩:=Zof h1 (d:=d) (k:=gb) (n:=ys.length) (s:=ety.size) (cap:=cap') (cs:=ys.flatten) hd hdb hgl hgB hw0 r1 c1 c2 c3 c4
         refine .inl ⟨_,w', ?_,by rw[hdst];exact ⟨_,h2,f1.trans f2⟩⟩
         unfold execOp
         rw[hop]
         simp only[resolve,pure_bind,invoke]
         rw[show (#[Operand.tmp t1,y]:Array Operand).map a.eval=#[a.eval (.tmp t1),a.eval y] from by simp,hvy]
         exact ZO hr
     ·cases h
  ·cases h
 ·cases h
theorem Z0y{E:Env}(hE:EnvOk P E){r:Res}(h:RRA E σ o=some r):XU P σ o r:=by
 unfold RRA at h
 split at h
 ·rename_i d hd
  cases hb:Nat.blt d σ.n with
  | false=>rw[hb] at h;cases h
  | true=>
    rw[hb] at h
    simp only[Qb_] at h
    have hlt:d < σ.n:=Qm_ hb
    have fin:∀{av:AV},r=⟨av,none,none⟩→(∀B g a w,Inv P B g σ a w→∃v,(execOp a.eval o).run P w= .ok (.value v) w∧RepA g w v av∧((∀b off,av= .ptr b off→∃cs,lk b σ.boxes=some cs)∧(∀f bs,av= .fnp f bs→∀b∈bs,∃cs,lk b σ.boxes=some cs)∧(∀b off n s,av= .sl b off n s→∃cs,lk b σ.boxes=some cs)))→XU P σ o r:=by
     intro av hr hrun B g a w hI
     subst hr
     obtain ⟨v,h1,h2,h3⟩:=hrun B g a w hI
     refine ⟨here hI h1 h2 (fun _ h=>absurd h (by simp)) h3,fun d' hd'=>?_⟩
     rw[hd] at hd'
     have:=Qa_ hd'
     subst this
     exact ⟨hlt,fun l h=>absurd h (by simp)⟩
    split at h
    ·rename_i T x hop
     split at h
     ·rename_i b off ty hx hty
      cases hc:(Nat.beq ty.size 1&& !ty.agg) with
      | false=>rw[hc] at h;cases h
      | true=>
        rw[hc] at h
        simp only[Qb_] at h
        rw[Qh_] at hc
        split at h
        ·rename_i cs hcs
         have ld:∀{y:PV} {av:AV},cs[off]?=some y→(∀(g:G) (w:World) (k base j:Nat) (v:Value),RepB g.β g.hw w k base j v y→RepA g w v av)→(∀b',Xf y=some b'→((∀b off,av= .ptr b off→∃cs,lk b σ.boxes=some cs)∧(∀f bs,av= .fnp f bs→∀b∈bs,∃cs,lk b σ.boxes=some cs)∧(∀b off n s,av= .sl b off n s→∃cs,lk b σ.boxes=some cs))∨∀c,lk b' σ.boxes≠some c)→(∃b',Xf y=some b')→r=⟨av,none,none⟩→XU P σ o r:=by
          intro y av hy hra hex hrf hr
          refine fin hr fun B g a w hI=>?_
          obtain ⟨k,base,hk,hpv⟩:=ZG hI hx
          obtain ⟨k',base',hk',_,hok,_⟩:=hI.box b cs hcs
          rw[hk] at hk'
          have:=Qa_ hk'
          cases this
          obtain ⟨v,c1,c2,_,c4⟩:=hok.cell off y hy
          obtain ⟨b',hb'⟩:=hrf
          refine ⟨v, ?_,hra g w k base off v c4, ?_⟩
          ·have hag:ty.agg=false:=by simpa using hc.2
           simp only[execOp,hop,hpv]
           refine ZO ?_
           simp only[Instr.loadAt,Instr.sureAddr,pure_bind]
           unfold loadVar
           rw[Sem.run_bind,ZbJ (ZJ (hE.Γ T ty hty)) w,Result.andThen_ok,hag]
           simp[c1]
          ·rcases hex b' hb' with h | h
           ·exact h
           ·obtain ⟨c,hc'⟩:=hI.ref b cs hcs y (Qz_ hy) b' hb'
            exact absurd hc' (h c)
         split at h
         ·rename_i b2 o2 n2 s2 hy
          have:=Qa_ h
          subst this
          refine ld hy (av:= .sl b2 o2 n2 s2) (fun g w k base j v hb=>?_) (fun b' hb'=>?_) ⟨b2,rfl⟩ rfl
          ·cases hb with
           | rep h=>cases h
           | bs _ _ _ _ h=>exact h
          ·have:=Qa_ hb'
           subst this
           by_cases hq:∃c,lk b2 σ.boxes=some c
           ·exact .inl ⟨fun _ _ h=>absurd h (by simp),fun _ _ h=>absurd h (by simp),fun b off n s h=>by cases h;exact hq⟩
           ·exact .inr fun c hc=>hq ⟨c,hc⟩
         ·rename_i b2 o2 hy
          have:=Qa_ h
          subst this
          refine ld hy (av:= .ptr b2 o2) (fun g w k base j v hb=>?_) (fun b' hb'=>?_) ⟨b2,rfl⟩ rfl
          ·cases hb with
           | rep h=>cases h
           | bp _ _ h=>exact h
          ·have:=Qa_ hb'
           subst this
           by_cases hq:∃c,lk b2 σ.boxes=some c
           ·exact .inl ⟨fun b off h=>by cases h;exact hq,fun _ _ h=>absurd h (by simp),fun _ _ _ _ h=>absurd h (by simp)⟩
           ·exact .inr fun c hc=>hq ⟨c,hc⟩
         ·cases h
        ·cases h
     ·cases h
    ·rename_i T x i hop
     split at h
     ·rename_i ty b off n s kk m hty hx hi
      split at h
      ·rename_i ety hety
       cases hc:(Nat.beq ty.kd 3&&Nat.beq ety.size s&&decide (0≤m)&&decide (m < n)) with
       | false=>rw[hc] at h;cases h
       | true=>
         rw[hc] at h
         have:=Qa_ h
         subst this
         simp only[Qh_] at hc
         obtain ⟨⟨⟨c1,c2⟩,c3⟩,c4⟩:=hc
         have hs:=Qj_ c2
         have q1:=Qy_ c3
         have q2:=Qy_ c4
         subst hs
         refine fin rfl fun B g a w hI=>?_
         obtain ⟨k,base,cap,hk,hcap,hpv⟩:=ZG hI hx
         have hiv:=Z7 (Zy hI hi)
         obtain ⟨_,hk3,_⟩:=Yz (ZJ (hE.Γ _ _ hty))
         have hu:=hk3 (Qj_ c1)
         refine ⟨.pointer (some ⟨k,base+(off+m.toNat *ety.size),none⟩), ?_,⟨k,base,hk,rfl⟩,fun b' off' e=>by cases e;exact Z0x hI hx,fun _ _ h=>absurd h (by simp),fun _ _ _ _ h=>absurd h (by simp)⟩
         simp only[execOp,hop,hpv,hiv]
         refine ZO ?_
         have hc1:(0:Int)≤m∧m < (n:Int):=⟨q1,q2⟩
         simp[Instr.indexAt,asIntOf,run_underlying hu,hc1,Yc (ZJ (hE.Γ _ _ hety)),Addr.add_lit,Kt_]
      ·cases h
     ·cases h
    ·rename_i args ats hop
     split at h
     ·rename_i x t hargs hats
      split at h
      ·rename_i b off n s ty hx hty
       cases hk0:Nat.beq ty.kd 3 with
       | false=>rw[hk0] at h;cases h
       | true=>
       rw[hk0] at h
       have:=Qa_ h
       subst this
       obtain ⟨_,hk3,_⟩:=Yz (ZJ (hE.Γ _ _ hty))
       have hu:=hk3 (Qj_ hk0)
       refine fin rfl fun B g a w hI=>?_
       obtain ⟨k,base,cap,hk,hcap,hpv⟩:=ZG hI hx
       refine ⟨.int .i64 n, ?_,.v _ rfl,fun _ _ h=>absurd h (by simp),fun _ _ h=>absurd h (by simp),fun _ _ _ _ h=>absurd h (by simp)⟩
       have ea:args=#[x]:=by apply QW_;simpa using hargs
       have et:ats=#[t]:=by apply QW_;simpa using hats
       subst ea;subst et
       unfold execOp
       rw[hop]
       simp only[resolve,pure_bind,invoke]
       rw[show (#[x]:Array Operand).map a.eval=#[a.eval x] from by simp,hpv]
       exact ZO (by simp[Builtin.len_,run_underlying hu,goInt])
      ·cases h
     ·cases h
    ·cases h
 ·cases h
end
abbrev Zh6:=Nat→List PV→List PV→Option (PV×List PV)
abbrev ZdS:=Nat→St→List AV→Option (PV×St)
def ZaB(Γ:List (Nat×Ty))(σ:St)(x y:Operand)(t:TypeId):Bool:=
 match lk t Γ,Z0 σ x,Z0 σ y with
 | some ty,some xv,some (.lst ys)=>match lk ty.elem Γ with
   | some ety=>match xv with
     | .nil=>Nat.blt 0 ys.length&&Nat.ble ((0+ys.length)*ety.bytes) 140737488355328&&W0 ety.size ys
     | .lst xs=>Nat.blt 0 ys.length&&Nat.ble ((xs.length+ys.length)*ety.bytes) 140737488355328&&W0 ety.size (xs++ys)
     | _=>false
   | none=>false
 | _,_,_=>false
def RR2(E:Env)(call:Xn)(j:Nat)(σ:St)(o:Oper):Option Res:=
 match RR E call j σ o with
 | some r=>some r
 | none=>RRA E σ o
def Zag(E:Env)(call:Xn)(j:Nat)(σ:St)(o:Oper):Option St:=
 match RR2 E call j σ o with
 | some r=>match o.dst with
   | some d=>some (XA σ d r)
   | none=>bif Yf r.box then some σ else none
 | none=>none
def ZmQ(calli:ZdS)(σ:St)(o:Oper)(fid:Nat)(args:List Operand):Option St:=
 match XW (opd σ) args with
 | some l=>bif l.all (Zbu σ.boxes)&&WF σ.boxes then
    match calli fid σ l with
    | some (r,σ1)=>match o.dst with
      | some d=>bif Nat.blt d σ1.n then some (put σ1 d (.p r)) else none
      | none=>some σ1
    | none=>none
   else none
 | none=>none
def Zsj(E:Env)(call:Xn)(callp:Zh6)(calli:ZdS)(j:Nat)(σ:St)(o:Oper)(f:Operand)(args:List Operand):Option St:=
 match f with
 | .func fid=>bif has fid E.wr then
    match args with
    | p::rest=>match opd σ p,XW (opd σ) rest with
      | some (.ptr b off),some l=>match lk b σ.boxes,Xx σ.boxes l with
        | some cs,some (xs,_)=>match callp fid (cs.drop off) xs with
          | some (r,cs')=>match Ze5 σ o.dst f args [.callp 0 [] [] r cs'] with
            | some (σ',_,_)=>bif Nat.beq cs'.length (cs.length - off) then some σ' else none
            | none=>none
          | none=>none
        | _,_=>none
      | _,_=>none
    | []=>none
   else bif has fid E.inl then ZmQ calli σ o fid args
   else bif has fid E.cc then (match args with | [x]=>Zsh σ o.dst x | _=>none)
   else match lk fid E.bst with
   | some e=>(match args with | [x]=>Zgs σ e o.dst x | _=>none)
   | none=>Zag E call j σ o
 | _=>Zag E call j σ o
def Zgt(E:Env)(call:Xn)(j:Nat)(σ:St)(o:Oper)(T:TypeId):Option St:=
 bif Nat.beq T ZaI then
  match Zod E σ o.dst,o.dst with
  | some r,some d=>some (XA σ d r)
  | _,_=>none
 else Zag E call j σ o
def isE(σ:St)(x:Operand):Bool:=match Z0 σ x with
 | some (.lst [])=>true
 | _=>false
def TT(E:Env)(call:Xn)(callp:Zh6)(calli:ZdS)(j:Nat)(σ:St)(o:Oper):Option St:=
 match o.op with
 | .store T p x=>match o.dst with
   | none=>match Wr E.Γ σ T p x with
     | some σ'=>some σ'
     | none=>Zi4 E.Γ σ T p x
   | some _=>none
 | .buildSlice T n ps=>bif has T E.sla&&Nat.beq n 0 then
    match o.dst,ps.toList with
    | some d,[]=>ZmP E σ d T
    | _,_=>none
   else Zag E call j σ o
 | .call ⟨.builtin .append,args,ats⟩=>match args.toList,ats.toList,o.dst with
   | [x,y],[t,t'],some d=>bif has t E.sla&&isE σ x then Zh5 E σ d x y t t' else bif Nat.beq t t' then (bif Nat.blt d σ.n&&ZaB E.Γ σ x y t then
       match Jq E.Γ σ d x y t t' [.pr True] with
       | some (σ',_,_)=>some σ'
       | none=>none
     else none) else bif Nat.blt d σ.n then ZbV E σ d x y t t' else none
   | _,_,_=>none
 | .slice T x none none none=>match o.dst with
   | some d=>bif Nat.blt d σ.n then ZeX E.Γ σ d T x else none
   | none=>none
 | .call ⟨.value f,args,_⟩=>Zsj E call callp calli j σ o f args.toList
 | .alloc T=>Zgt E call j σ o T
 | _=>Zag E call j σ o
section
variable {P:Program}{B:Nat}{g:G}{σ τ:St}{a:Act}{w:World}{o:Oper}
def Zlc(P:Program)(callp:Zh6):Prop:=∀f cs args r cs',callp f cs args=some (r,cs')→ZkN P f cs args r cs'
def Zh7(P:Program)(calli:ZdS):Prop:=∀f σ args r σ',calli f σ args=some (r,σ')→Zsg P f σ args r σ'
theorem ZeA{E:Env}(hE:EnvOk P E){call:Xn}(hC:ZbU P call):∀j τ o r,RR2 E call j τ o=some r→XU P τ o r:=by
 intro j τ o r h
 unfold RR2 at h
 split at h
 ·rename_i r' h1
  have:=Qa_ h
  subst this
  exact Z1U hE hC j τ o r' h1
 ·exact Z0y hE h
theorem ZbW{E:Env}(hE:EnvOk P E){call:Xn}(hC:ZbU P call){j:Nat}{σ':St}(h:Zag E call j σ o=some σ')(hI:Inv P B g σ a w):Goes P B g σ a w o σ':=by
 unfold Zag at h
 split at h
 ·rename_i r hr
  obtain ⟨q1,q2⟩:=ZeA hE hC j σ o r hr B g a w hI
  split at h
  ·rename_i d hd
   have:=Qa_ h
   subst this
   obtain ⟨q3,q4⟩:=q2 d hd
   refine Zbs hd (q1.mono fun v w' ⟨g',hp⟩=>⟨g',Zc2 hI hp hd q3 q4,Zge hI hp q3⟩)
  ·rename_i hd
   cases hb:Yf r.box with
   | false=>rw[hb] at h;cases h
   | true=>
     rw[hb] at h
     have:=Qa_ h
     subst this
     have hbx:r.box=none:=by
      cases hr:r.box with
      | none=>rfl
      | some cs=>rw[hr] at hb;exact absurd hb (by simp[Yf])
     refine Zbs hd (q1.mono fun v w' ⟨g',hp⟩=>?_)
     obtain ⟨k1,k2⟩:=Ze4 hI hp.qt
     have:=hp.noBox hbx
     obtain ⟨β',hw'⟩:=g'
     have this:β'=g.β:=this
     subst this
     exact ⟨_,k1,k2⟩
 ·cases h
theorem Zog{Γ:List (Nat×Ty)}{x y:Operand}{t t':TypeId}{d:Nat}{os' ob:List Obl}{σ':St}(hc:ZaB Γ σ x y t=true)(h:Jq Γ σ d x y t t' [.pr True]=some (σ',os',ob)):ZY P ob:=by
 unfold ZaB at hc
 unfold Jq at h
 split at hc
 ·rename_i ty xv ys hty hx hy
  rw[hty,hx,hy] at h
  simp only at h
  split at hc
  ·rename_i ety hety
   cases hb:(Nat.beq t t'&&Nat.beq ty.kd 3) with
   | false=>rw[hb] at h;cases h
   | true=>
     rw[hb] at h
     simp only[Qb_,hety] at h
     cases hb2:(Nat.beq ety.size 0||Nat.beq ety.bytes 0) with
     | true=>rw[hb2] at h;cases h
     | false=>
       rw[hb2] at h
       simp only[Qd_] at h
       split at hc
       ·have:=Qa_ h
        cases this
        simp only[Qh_] at hc
        exact Z5 (show 0 < ys.length∧(0+ys.length)*ety.bytes≤140737488355328∧Lens ety.size ys from ⟨Qm_ hc.1.1,Qm_ hc.1.2,Zay hc.2⟩)
       ·rename_i xs
        simp only[Qh_] at hc
        cases x with
        | tmp t1=>
          simp only at h
          split at h
          ·rename_i E hE
           cases hb3:Nat.beq E ty.elem with
           | false=>rw[hb3] at h;cases h
           | true=>
             rw[hb3] at h
             have:=Qa_ h
             cases this
             exact Z5 (show 0 < ys.length∧(xs.length+ys.length)*ety.bytes≤140737488355328∧Lens ety.size (xs++ys) from ⟨Qm_ hc.1.1,Qm_ hc.1.2,Zay hc.2⟩)
          ·cases h
        | const _=>cases h
        | global _=>cases h
        | func _=>cases h
       ·cases hc
  ·cases hc
 ·cases hc
theorem Zsk{calli:ZdS}(hJ:Zh7 P calli)(hI:Inv P B g σ a w){fid:FuncId}{args:Array Operand}{ats:Array TypeId}{σ':St}(hop:o.op= .call ⟨.value (.func fid),args,ats⟩)
 (h:ZmQ calli σ o fid args.toList=some σ'):Goes P B g σ a w o σ':=by
 unfold ZmQ at h
 split at h
 ·rename_i l hl
  cases hb:(l.all (Zbu σ.boxes)&&WF σ.boxes) with
  | false=>rw[hb] at h;cases h
  | true=>
    rw[hb] at h
    simp only[Qb_] at h
    rw[Qh_] at hb
    split at h
    ·rename_i r σ1 hc
     obtain ⟨e1,e2⟩:=Ze2 hI hl
     have hcall:=hJ fid σ l r σ1 hc B g a w (args.toList.map a.eval) hI (by simpa using e1) e2 (fun av hav=>QK_.1 hb.1 av hav) hb.2
     have key:∀σ2:St,(∀v w' g',Inv P B g' σ1 a w'→Fr B g σ w g' σ1 w'→Rep g'.hw w' v r→Inv P B g' σ2 (a.put o.dst v) w'∧Fr B g σ w g' σ2 w')→Goes P B g σ a w o σ2:=by
      intro σ2 hnext
      refine ZaM (hcall.mono fun v w' ⟨g',q1,q2,q3⟩=>⟨g',hnext v w' g' q1 q2 q3⟩) (fun res hres=>?_)
      have e:args.map a.eval=(args.toList.map a.eval).toArray:=by apply QW_;simp
      have hfv:a.eval (.func fid)= .func (.func fid) #[] #[]:=rfl
      unfold execOp
      rw[hop]
      simp only[resolve,Deferred.ofValue,hfv,pure_bind,invoke,e]
      rw[←hres]
      congr 2
      simp
     split at h
     ·rename_i d hd
      cases hb2:Nat.blt d σ1.n with
      | false=>rw[hb2] at h;cases h
      | true=>
        rw[hb2] at h
        have:=Qa_ h
        subst this
        refine key _ fun v w' g' q1 q2 q3=>⟨by rw[hd];exact WE q1 (show d < σ1.n from Qm_ hb2) q3,⟨q2.os,q2.tape,q2.output,q2.size,q2.n,q2.block,q2.cell,q2.frozen,q2.hw,q2.par,q2.ext⟩⟩
     ·rename_i hd
      have:=Qa_ h
      subst this
      exact key _ fun v w' g' q1 q2 _=>⟨by rw[hd];exact q1,q2⟩
    ·cases h
 ·cases h
theorem ZyE{E:Env}(hE:EnvOk P E){call:Xn}(hC:ZbU P call){callp:Zh6}(hP:Zlc P callp){calli:ZdS}(hJ:Zh7 P calli):∀j σ o σ',TT E call callp calli j σ o=some σ'→∀B g a w,Inv P B g σ a w→Goes P B g σ a w o σ':=by
 intro j σ o σ' h B g a w hI
 unfold TT at h
 split at h
 ·rename_i T p x hop
  split at h
  ·rename_i hd
   split at h
   ·rename_i σ2 h2
    have:=Qa_ h
    subst this
    exact Zjn hE.Γ hI hop hd h2
   ·exact Zqy hE.Γ hI hop hd h
  ·cases h
 ·rename_i T n ps hop
  cases hb:(has T E.sla&&Nat.beq n 0) with
  | false=>rw[hb] at h;exact ZbW hE hC h hI
  | true=>
    rw[hb] at h
    simp only[Qb_] at h
    rw[Qh_] at hb
    have hn:=Qj_ hb.2
    subst hn
    split at h
    ·rename_i d hd hps
     exact ZwX hE hI hop hps hd h
    ·cases h
 ·rename_i args ats hop
  split at h
  ·rename_i x y t t' d hargs hats hdst
   cases hsl:(has t E.sla&&isE σ x) with
   | true=>
     rw[hsl] at h
     exact Zsi hE hI hop hargs hats hdst h
   | false=>
   rw[hsl] at h
   simp only[Qd_] at h
   cases htt:Nat.beq t t' with
   | false=>
     rw[htt] at h
     simp only[Qd_] at h
     cases hb:Nat.blt d σ.n with
     | false=>rw[hb] at h;cases h
     | true=>
       rw[hb] at h
       exact Zoc hE hI hop hargs hats hdst (Qm_ hb) h
   | true=>
   rw[htt] at h
   simp only[Qb_] at h
   cases hb:(Nat.blt d σ.n&&ZaB E.Γ σ x y t) with
   | false=>rw[hb] at h;cases h
   | true=>
     rw[hb] at h
     simp only[Qb_] at h
     rw[Qh_] at hb
     split at h
     ·rename_i σ1 os1 ob1 h1
      have:=Qa_ h
      subst this
      exact Zqq hE.Γ hI hop hargs hats hdst (Qm_ hb.1) h1 (Zog hb.2 h1)
     ·cases h
  ·cases h
 ·rename_i T x hop
  split at h
  ·rename_i d hd
   cases hb:Nat.blt d σ.n with
   | false=>rw[hb] at h;cases h
   | true=>
     rw[hb] at h
     exact Zqr hE.Γ hI hop hd (Qm_ hb) h
  ·cases h
 ·rename_i f args ats hop
  unfold Zsj at h
  split at h
  ·rename_i fid
   cases hb:has fid E.wr with
   | false=>
     rw[hb] at h
     simp only[Qd_] at h
     cases hb2:has fid E.inl with
     | true=>
       rw[hb2] at h
       exact Zsk hJ hI hop h
     | false=>
       rw[hb2] at h
       simp only[Qd_] at h
       cases hb3:has fid E.cc with
       | true=>
         rw[hb3] at h
         simp only[Qb_] at h
         split at h
         ·rename_i x hx
          exact Zzz (hE.cc fid hb3) hI hop hx h
         ·cases h
       | false=>
         rw[hb3] at h
         simp only[Qd_] at h
         split at h
         ·rename_i e he
          split at h
          ·rename_i x hx
           exact ZuH (hE.bst fid e he).1 (hE.bst fid e he).2 hI hop hx h
          ·cases h
         ·exact ZbW hE hC h hI
   | true=>
     rw[hb] at h
     simp only[Qb_] at h
     split at h
     ·rename_i p rest hargs
      split at h
      ·rename_i b off l hp hl
       split at h
       ·rename_i cs xs c hcs hxs
        split at h
        ·rename_i r cs' hcall
         split at h
         ·rename_i σ1 os1 ob1 h1
          cases hb2:Nat.beq cs'.length (cs.length - off) with
          | false=>rw[hb2] at h;cases h
          | true=>
            rw[hb2] at h
            have:=Qa_ h
            subst this
            have hlen:=Qj_ hb2
            refine ZrX hI hop h1 ?_
            rw[hargs] at h1
            unfold Ze5 at h1
            rw[show opd σ (.func fid)=some (.p (.fn fid [])) from rfl] at h1
            simp only[hp,hl,hcs,hxs] at h1
            have hob:ob1=[.callp fid ((cs.drop off).take cs'.length) xs r cs']:=by
             cases c with
             | true=>cases h1
             | false=>
               simp only at h1
               cases hb3:(Nat.ble (off+cs'.length) cs.length&& !(has b σ.ro)&&Yx cs&&Yx cs') with
               | false=>rw[hb3] at h1;cases h1
               | true=>
                 rw[hb3] at h1
                 simp only[Qb_] at h1
                 split at h1
                 ·have:=Qa_ h1;cases this;rfl
                 ·rename_i d _
                  cases hb4:Nat.blt d σ.n with
                  | false=>rw[hb4] at h1;cases h1
                  | true=>rw[hb4] at h1;have:=Qa_ h1;cases this;rfl
            subst hob
            refine Z5 ?_
            have e:(cs.drop off).take cs'.length=cs.drop off:=by rw[Ki_ (by simp[hlen])]
            show ZkN P fid ((cs.drop off).take cs'.length) xs r cs'
            rw[e]
            exact hP _ _ _ _ _ hcall
         ·cases h
        ·cases h
       ·cases h
      ·cases h
     ·cases h
  ·exact ZbW hE hC h hI
 ·rename_i T hop
  unfold Zgt at h
  cases hb:Nat.beq T ZaI with
  | false=>rw[hb] at h;exact ZbW hE hC h hI
  | true=>
    rw[hb] at h
    simp only[Qb_] at h
    have hT:=Qj_ hb
    subst hT
    split at h
    ·rename_i r d hr hd
     have:=Qa_ h
     subst this
     obtain ⟨q1,q2⟩:=ZuI hE hop hr B g a w hI
     obtain ⟨q3,q4⟩:=q2 d hd
     exact Zbs hd (q1.mono fun v w' ⟨g',hp⟩=>⟨g',Zc2 hI hp hd q3 q4,Zge hI hp q3⟩)
    ·cases h
 ·exact ZbW hE hC h hI
end
def Zoh:TypeDesc→Bool
 | .struct _=>false
 | .array _ _=>false
 | _=>true
section
variable {P:Program}
theorem Zj1{T:TypeId}{d:TypeDesc}(hu:P.underlying T=some d)(hd:Zoh d=true){xs:List Value}{i:Nat}{v:Value}(hx:xs[i]?=some v)(w:World):(part T xs.toArray i).run P w= .ok v w:=by
 cases d<;>first | (cases hd;done) | simp[part,isAgg,run_underlying hu,hx]
theorem ZwY:Ye P []:=fun T ty h=>by simp[lk] at h
theorem Z3{T:TypeId}{ty:Ty}{Γ:List (Nat×Ty)}(h:ZrR P T=some ty)(hr:Ye P Γ):Ye P ((T,ty)::Γ):=fun T' ty' h'=>by
 rw[Zn] at h'
 split at h'
 ·rename_i e
  have:=Qa_ h'
  subst this;subst e
  exact h
 ·exact hr T' ty' h'
def ZmR(P:Program)(l:List (Nat×Func)):Prop:=∀f fn,lk f l=some fn→P.funcs[f]?=some fn∧∀args w,(callFunc f args).run P w= .ok (.enter f args) w
theorem ZuJ:ZmR P []:=fun f fn h=>by simp[lk] at h
theorem Zc{f:Nat}{fn:Func}{l:List (Nat×Func)}(h:P.funcs[f]?=some fn)(hc:∀args w,(callFunc f args).run P w= .ok (.enter f args) w)(hr:ZmR P l):ZmR P ((f,fn)::l):=fun f' fn' h'=>by
 rw[Zn] at h'
 split at h'
 ·rename_i e
  have:=Qa_ h'
  subst this;subst e
  exact ⟨h,hc⟩
 ·exact hr f' fn' h'
def ZmS(P:Program)(l:List (Nat×List Nat)):Prop:=∀T sh,lk T l=some sh→ZnU P T sh
theorem ZuK:ZmS P []:=fun T sh h=>by simp[lk] at h
theorem Zc8{T:Nat}{sh:List Nat}{l:List (Nat×List Nat)}(h:ZnU P T sh)(hr:ZmS P l):ZmS P ((T,sh)::l):=fun T' sh' h'=>by
 rw[Zn] at h'
 split at h'
 ·rename_i e
  have:=Qa_ h'
  subst this;subst e
  exact h
 ·exact hr T' sh' h'
def Zj2(P:Program)(l:List (Nat×IntKind)):Prop:=∀T k,lk T l=some k→P.underlying T=some (.int k)
theorem Zsl:Zj2 P []:=fun T k h=>by simp[lk] at h
theorem ZbA{T:Nat}{k:IntKind}{l:List (Nat×IntKind)}(h:P.underlying T=some (.int k))(hr:Zj2 P l):Zj2 P ((T,k)::l):=fun T' k' h'=>by
 rw[Zn] at h'
 split at h'
 ·rename_i e
  have:=Qa_ h'
  subst this;subst e
  exact h
 ·exact hr T' k' h'
theorem ZuL{w:World}{M:Nat}(h:∀x cs,lk x Zb7=some cs→∃arr t fr,w.heap[x]?=some (.cells arr t fr)∧(∀v∈arr.toList,v.oneCell'=true)∧cs=arr.toList.map cv∧0 < arr.size∧arr.size≤M):GlobOk (fun k=>if k < w.heap.size then M else 0) w:=by
 intro x cs hx
 obtain ⟨arr,t,fr,h1,h2,rfl,h3,h4⟩:=h x cs hx
 have hlt:x < w.heap.size:=(QL_.1 h1).1
 have hcell:∀j v,arr.toList[j]?=some v→w.cell? ⟨x,j,none⟩=some v:=fun j v hj=>by
  simp only[World.cell?,h1]
  simpa using hj
 refine ⟨?_,by simpa using h3,arr,t,fr,h1,by simp⟩
 refine .lptr (arr.toList.map cv) x 0 0 (fun j=>arr.toList.getD j undef) (fun j hj=>?_) (fun j y hy=>?_) (fun j hj=>?_) (by simp[hlt,h4])
 ·have hj':j < arr.toList.length:=by simpa using hj
  rw[QP_]
  refine (hcell j arr.toList[j] (Qg_ hj')).trans ?_
  rw[Q7_,Qg_ hj']
  rfl
 ·rw[Q6_] at hy
  cases hv:arr.toList[j]? with
  | none=>rw[hv] at hy;cases hy
  | some v=>
    rw[hv] at hy
    have:=Qa_ hy
    subst this
    have:arr.toList.getD j undef=v:=by rw[Q7_,hv];rfl
    rw[this]
    exact Zje _ _ _ (h2 v (Qz_ hv))
 ·have hj':j < arr.toList.length:=by simpa using hj
  have:arr.toList.getD j undef=arr.toList[j]:=by rw[Q7_,Qg_ hj'];rfl
  rw[this]
  exact h2 _ (K3_ hj')
theorem Zsm{W W':World}(h:Below W.heap.size W W')(may:MemPlace→Prop):W.keptBut W' may:=
 ⟨h.os,h.output,fun i hi=>by rw[h.block i hi];exact (World.keptBut_refl W may).2.2 i hi⟩
open Go.ChangeShapes Go.WideShapes in
theorem Zm7{H:Type}{enc:TypeId×Value→H}{f:Func}{s:ChangeSpec}{apart fresh handsOn again:Bool}{W W':World}{args:Array Value}{v:Value}{ds gs:List (DataW H)}{before pa pv:List MemPlace}
 (hW:DataW.Whole enc P f.params.toList s.vars apart W args.toList ds gs before)
 (hres:∀(b:Nat) (sp:Nat→Bool) (hd:Bool),DataW.TrodAll enc P W' b sp hd f.resultTypes.toList (v.resultList f.resultTypes.size) (s.fn H (ds++gs)).results [])
 (hargs:∀sp:Nat→Bool,(∀p∈before,sp p.block=true)→DataW.TrodAll enc P W' 0 sp true f.params.toList args.toList (s.fn H (ds++gs)).args pa)
 (hvars:∀sp:Nat→Bool,(∀p∈before,sp p.block=true)→DataW.TrodVars enc P W' sp s.vars (s.fn H (ds++gs)).vars pv)
 (hps:before=pa++pv) (hb:Below W.heap.size W W')
 (hok:∀(j:Nat) (t:TypeId) (r:Value),f.resultTypes[j]?=some t→(v.resultList f.resultTypes.size)[j]?=some r→Value.okWide P W' .any 0 t r):
 s.post enc P f apart fresh handsOn again W args v W':=by
 have hold:∀p∈before,(fun b=>decide (b < W.heap.size)) p.block=true:=fun p hp=>by simpa using hW.lt p hp
 have hlt:=hW.lt
 refine ⟨ds,gs,before,[],pa,pv,hW,hres _ _ _,hargs _ hold,hvars _ hold,World.keptBut_mono (fun p hp=>⟨hp, ?_⟩) (Zsm hb (·∈before)),fun _=>?_⟩
 ·rw[hps,Kv_] at hp
  exact Or.inr hp
 ·obtain ⟨_,_,_,_,_,hz,hn⟩:=hW
  refine ⟨hok,_,_,([]++pa)++pv,⟨[]++pa,pv,trodAll_append (hargs _ (fun _ _=>rfl)) (hres _ _ _),hvars _ (fun _ _=>rfl),rfl, ?_, ?_⟩, ?_⟩
  ·intro b off hp
   have hp':MemPlace.cell b off∈before:=by rw[hps];simpa using hp
   rw[hb.frozen (p:=⟨b,off,none⟩) (hlt _ hp')]
   exact hz b off hp'
  ·intro ha
   have:=hn ha
   rw[hps] at this
   simpa using this
  ·intro p hp _
   rw[hps]
   simpa using hp
end
section force
universe u
variable {α:Sort u}
def fN(n:Nat)(k:Nat→α):α:=match n with
 | 0=>k 0
 | m+1=>k (Nat.succ m)
def fI(i:Int)(k:Int→α):α:=match i with
 | .ofNat n=>fN n fun n=>k (.ofNat n)
 | .negSucc n=>fN n fun n=>k (.negSucc n)
def fB(b:Bool)(k:Bool→α):α:=match b with
 | true=>k true
 | false=>k false
def Zsn(v:Value)(k:Value→α):α:=match v with
 | .int kd i=>fI i fun i=>k (.int kd i)
 | .bool b=>fB b fun b=>k (.bool b)
 | x=>k x
def Zso:List UInt8→(List UInt8→α)→α
 | [],k=>k []
 | x::r,k=>Zso r fun r=>k (x::r)
theorem ZW(n:Nat)(k:Nat→α):fN n k=k n:=by cases n<;>rfl
theorem Z1V(n:Int)(k:Int→α):fI n k=k n:=by cases n<;>simp only[fI,ZW]
theorem ZmT(n:Bool)(k:Bool→α):fB n k=k n:=by cases n<;>rfl
theorem Zrm(v:Value)(k:Value→α):Zsn v k=k v:=by cases v<;>simp only[Zsn,Z1V,ZmT]
theorem Zrn:∀(l:List UInt8) (k:List UInt8→α),Zso l k=k l
 | [],_=>rfl
 | x::r,k=>by simp only[Zso];rw[Zrn r]
mutual
def fPV:PV→(PV→α)→α
 | .v x,k=>Zsn x fun x=>k (.v x)
 | .str l,k=>Zso l fun l=>k (.str l)
 | .nil,k=>k .nil
 | .lst xs,k=>Zoi xs fun xs=>k (.lst xs)
 | .lptr cs off,k=>fPL cs fun cs=>fN off fun off=>k (.lptr cs off)
 | .agg cs,k=>fPL cs fun cs=>k (.agg cs)
 | .tup cs,k=>fPL cs fun cs=>k (.tup cs)
 | .fn f cs,k=>fPL cs fun cs=>fN f fun f=>k (.fn f cs)
 | .bld u,k=>fB u fun u=>k (.bld u)
 | .bp b off,k=>fN b fun b=>fN off fun off=>k (.bp b off)
 | .bs b off n s,k=>fN b fun b=>fN off fun off=>fN n fun n=>fN s fun s=>k (.bs b off n s)
def fPL:List PV→(List PV→α)→α
 | [],k=>k []
 | x::r,k=>fPV x fun x=>fPL r fun r=>k (x::r)
def Zoi:List (List PV)→(List (List PV)→α)→α
 | [],k=>k []
 | x::r,k=>fPL x fun x=>Zoi r fun r=>k (x::r)
end
mutual
theorem Zgu:∀(x:PV) (k:PV→α),fPV x k=k x
 | .v x,k=>by simp only[fPV,Zrm]
 | .str l,k=>by simp only[fPV,Zrn]
 | .nil,k=>by simp only[fPV]
 | .lst xs,k=>by simp only[fPV];rw[Zro xs]
 | .lptr cs off,k=>by simp only[fPV,ZW];rw[Zdd cs]
 | .agg cs,k=>by simp only[fPV];rw[Zdd cs]
 | .tup cs,k=>by simp only[fPV];rw[Zdd cs]
 | .fn f cs,k=>by simp only[fPV,ZW];rw[Zdd cs]
 | .bld u,k=>by simp only[fPV,ZmT]
 | .bp b off,k=>by simp only[fPV,ZW]
 | .bs b off n s,k=>by simp only[fPV,ZW]
theorem Zdd:∀(x:List PV) (k:List PV→α),fPL x k=k x
 | [],k=>by simp only[fPL]
 | x::r,k=>by simp only[fPL];rw[Zgu x,Zdd r]
theorem Zro:∀(x:List (List PV)) (k:List (List PV)→α),Zoi x k=k x
 | [],k=>by simp only[Zoi]
 | x::r,k=>by simp only[Zoi];rw[Zdd x,Zro r]
end
def fNs:List Nat→(List Nat→α)→α
 | [],k=>k []
 | x::r,k=>fN x fun x=>fNs r fun r=>k (x::r)
theorem Jt:∀(l:List Nat) (k:List Nat→α),fNs l k=k l
 | [],_=>rfl
 | x::r,k=>by simp only[fNs,ZW];rw[Jt r]
def Zld(a:Loc)(k:Loc→α):α:=match a with
 | .t t=>fN t fun t=>k (.t t)
 | .b b c=>fN b fun b=>fN c fun c=>k (.b b c)
theorem Zh8(a:Loc)(k:Loc→α):Zld a k=k a:=by cases a<;>simp only[Zld,ZW]
def Zft{β:Type}(l:List β)(k:List β→α):α:=match l with
 | []=>k []
 | x::r=>k (x::r)
theorem ZcQ{β:Type}(l:List β)(k:List β→α):Zft l k=k l:=by cases l<;>rfl
def fOw:List (Loc×Nat)→(List (Loc×Nat)→α)→α
 | [],k=>k []
 | (t,v)::r,k=>Zld t fun t=>fN v fun v=>fOw r fun r=>k ((t,v)::r)
theorem ZbX:∀(l:List (Loc×Nat)) (k:List (Loc×Nat)→α),fOw l k=k l
 | [],_=>rfl
 | (t,v)::r,k=>by simp only[fOw,ZW,Zh8];rw[ZbX r]
def fAl:List (Nat×Loc)→(List (Nat×Loc)→α)→α
 | [],k=>k []
 | (t,v)::r,k=>fN t fun t=>Zld v fun v=>fAl r fun r=>k ((t,v)::r)
theorem ZbY:∀(l:List (Nat×Loc)) (k:List (Nat×Loc)→α),fAl l k=k l
 | [],_=>rfl
 | (t,v)::r,k=>by simp only[fAl,ZW,Zh8];rw[ZbY r]
def fSp{β:Type}:List β→(List β→α)→α
 | [],k=>k []
 | x::r,k=>fSp r fun r=>k (x::r)
theorem Zde{β:Type}:∀(l:List β) (k:List β→α),fSp l k=k l
 | [],_=>rfl
 | x::r,k=>by simp only[fSp];rw[Zde r]
def Zsp(x:PV)(k:PV→α):α:=match x with
 | .v x=>Zsn x fun x=>k (.v x)
 | .agg cs=>fSp cs fun cs=>k (.agg cs)
 | .tup cs=>fSp cs fun cs=>k (.tup cs)
 | .lptr cs off=>fN off fun off=>k (.lptr cs off)
 | .bld u=>fB u fun u=>k (.bld u)
 | .bp b off=>fN b fun b=>fN off fun off=>k (.bp b off)
 | .bs b off n s=>fN b fun b=>fN off fun off=>fN n fun n=>fN s fun s=>k (.bs b off n s)
 | .str l=>k (.str l)
 | .nil=>k .nil
 | .lst xs=>k (.lst xs)
 | .fn f cs=>fN f fun f=>k (.fn f cs)
theorem Zrp(x:PV)(k:PV→α):Zsp x k=k x:=by cases x<;>simp only[Zsp,Zrm,Zde,ZW,ZmT]
def ZwZ(x:PV)(k:PV→α):α:=match x with
 | .str l=>fSp l fun l=>k (.str l)
 | .lst xs=>fSp xs fun xs=>k (.lst xs)
 | x=>Zsp x k
theorem Zz1(x:PV)(k:PV→α):ZwZ x k=k x:=by cases x<;>simp only[ZwZ,Zde,Zrp]
def Z0z(m:Nat)(x:PV)(k:PV→α):α:=match m with
 | 0=>Zsp x k
 | 1=>ZwZ x k
 | _=>fPV x k
theorem Zz2(m:Nat)(x:PV)(k:PV→α):Z0z m x k=k x:=by
 match m with
 | 0=>exact Zrp x k
 | 1=>exact Zz1 x k
 | n+2=>exact Zgu x k
def Zoj(m:Nat)(a:AV)(k:AV→α):α:=match a with
 | .p x=>Z0z m x fun x=>k (.p x)
 | .ptr b off=>fN b fun b=>fN off fun off=>k (.ptr b off)
 | .fnp f bs=>fN f fun f=>fNs bs fun bs=>k (.fnp f bs)
 | .sl b off n s=>fN b fun b=>fN off fun off=>fN n fun n=>fN s fun s=>k (.sl b off n s)
theorem Zle(m:Nat)(a:AV)(k:AV→α):Zoj m a k=k a:=by cases a<;>simp only[Zoj,Zz2,ZW,Jt]
def Zok(a:AV)(k:AV→α):α:=match a with
 | .p x=>k (.p x)
 | .ptr b off=>fN b fun b=>fN off fun off=>k (.ptr b off)
 | .fnp f bs=>fN f fun f=>fNs bs fun bs=>k (.fnp f bs)
 | .sl b off n s=>fN b fun b=>fN off fun off=>fN n fun n=>fN s fun s=>k (.sl b off n s)
theorem Zrq(a:AV)(k:AV→α):Zok a k=k a:=by cases a<;>simp only[Zok,ZW,Jt]
def Zsq:List (Nat×AV)→(List (Nat×AV)→α)→α
 | [],k=>k []
 | (t,v)::r,k=>fN t fun t=>Zok v fun v=>Zsq r fun r=>k ((t,v)::r)
theorem Zrr:∀(l:List (Nat×AV)) (k:List (Nat×AV)→α),Zsq l k=k l
 | [],_=>rfl
 | (t,v)::r,k=>by simp only[Zsq,ZW,Zrq];rw[Zrr r]
def Zol:List (Nat×AV)→(List (Nat×AV)→α)→α
 | [],k=>k []
 | (t,v)::r,k=>fN t fun t=>Zoj 0 v fun v=>Zol r fun r=>k ((t,v)::r)
theorem Zlf:∀(l:List (Nat×AV)) (k:List (Nat×AV)→α),Zol l k=k l
 | [],_=>rfl
 | (t,v)::r,k=>by simp only[Zol,ZW,Zle];rw[Zlf r]
def Zxa(m:Nat)(l:List (Nat×AV))(k:List (Nat×AV)→α):α:=match l with
 | []=>k []
 | (t,v)::r=>fN t fun t=>Zoj m v fun v=>Zft r fun r=>k ((t,v)::r)
theorem Zz3(m:Nat)(l:List (Nat×AV))(k:List (Nat×AV)→α):Zxa m l k=k l:=by
 match l with
 | []=>rfl
 | (t,v)::r=>simp only[Zxa,ZW,Zle,ZcQ]
def Zom:List (Nat×List PV)→(List (Nat×List PV)→α)→α
 | [],k=>k []
 | (t,v)::r,k=>fN t fun t=>Zom r fun r=>k ((t,v)::r)
theorem Zlg:∀(l:List (Nat×List PV)) (k:List (Nat×List PV)→α),Zom l k=k l
 | [],_=>rfl
 | (t,v)::r,k=>by simp only[Zom,ZW];rw[Zlg r]
def Zsr:List (Nat×List PV)→(List (Nat×List PV)→α)→α
 | [],k=>k []
 | (t,v)::r,k=>fN t fun t=>fSp v fun v=>Zsr r fun r=>k ((t,v)::r)
theorem Zrs:∀(l:List (Nat×List PV)) (k:List (Nat×List PV)→α),Zsr l k=k l
 | [],_=>rfl
 | (t,v)::r,k=>by simp only[Zsr,ZW,Zde];rw[Zrs r]
def Zxb(l:List (Nat×List PV))(k:List (Nat×List PV)→α):α:=match l with
 | []=>k []
 | (t,v)::r=>fN t fun t=>fSp v fun v=>Zft r fun r=>k ((t,v)::r)
theorem Zz4(l:List (Nat×List PV))(k:List (Nat×List PV)→α):Zxb l k=k l:=by
 match l with
 | []=>rfl
 | (t,v)::r=>simp only[Zxb,ZW,Zde,ZcQ]
def Zi5(σ:St)(k:St→α):α:=match σ with
 | ⟨n,tm,bx,ro,ow,al⟩=>fN n fun n=>Zsq tm fun tm=>Zom bx fun bx=>fNs ro fun ro=>fOw ow fun ow=>fAl al fun al=>k ⟨n,tm,bx,ro,ow,al⟩
theorem Zh9(σ:St)(k:St→α):Zi5 σ k=k σ:=by cases σ;simp only[Zi5,ZW,Zrr,Zlg,Jt,ZbX,ZbY]
def Zon(σ:St)(k:St→α):α:=match σ with
 | ⟨n,tm,bx,ro,ow,al⟩=>fN n fun n=>Zol tm fun tm=>Zsr bx fun bx=>fNs ro fun ro=>fOw ow fun ow=>fAl al fun al=>k ⟨n,tm,bx,ro,ow,al⟩
theorem Zlh(σ:St)(k:St→α):Zon σ k=k σ:=by cases σ;simp only[Zon,ZW,Zlf,Zrs,Jt,ZbX,ZbY]
def Zss:List (Nat×List PV)→(List (Nat×List PV)→α)→α
 | [],k=>k []
 | (t,v)::r,k=>fN t fun t=>fPL v fun v=>Zss r fun r=>k ((t,v)::r)
theorem Zrt:∀(l:List (Nat×List PV)) (k:List (Nat×List PV)→α),Zss l k=k l
 | [],_=>rfl
 | (t,v)::r,k=>by simp only[Zss,ZW,Zdd];rw[Zrt r]
def Zxc(σ:St)(k:St→α):α:=match σ with
 | ⟨n,tm,bx,ro,ow,al⟩=>fN n fun n=>Zol tm fun tm=>Zss bx fun bx=>fNs ro fun ro=>fOw ow fun ow=>fAl al fun al=>k ⟨n,tm,bx,ro,ow,al⟩
theorem Zz5(σ:St)(k:St→α):Zxc σ k=k σ:=by cases σ;simp only[Zxc,ZW,Zlf,Zrt,Jt,ZbX,ZbY]
def Zst(m:Nat)(mem:Bool)(σ:St)(k:St→α):α:=match σ with
 | ⟨n,tm,bx,ro,ow,al⟩=>fN n fun n=>Zxa m tm fun tm=>(bif mem then Zxb bx else Zft bx) fun bx=>Zft ro fun ro=>fOw ow fun ow=>fAl al fun al=>k ⟨n,tm,bx,ro,ow,al⟩
theorem Zz6(m:Nat)(mem:Bool)(σ:St)(k:St→α):Zst m mem σ k=k σ:=by
 cases σ;cases mem<;>simp only[Zst,ZW,Zz3,Qb_,Qd_,Zz4,ZcQ,ZbX,ZbY]
def fEn(m:Nat)(e:En)(k:En→α):α:=match e with
 | ⟨i,tm,bx,ln⟩=>fN i fun i=>
   (match tm with
    | none=>fun (k:Option (Nat×AV)→α)=>k none
    | some (t,v)=>fun k=>fN t fun t=>Zoj m v fun v=>k (some (t,v))) fun tm=>
   (match bx with
    | none=>fun (k:Option (Nat×List PV)→α)=>k none
    | some (t,v)=>fun k=>fN t fun t=>fSp v fun v=>k (some (t,v))) fun bx=>
   (match ln with
    | none=>fun (k:Option (Nat×Loc)→α)=>k none
    | some (t,v)=>fun k=>fN t fun t=>Zld v fun v=>k (some (t,v))) fun ln=>k ⟨i,tm,bx,ln⟩
theorem Z00(m:Nat)(e:En)(k:En→α):fEn m e k=k e:=by
 obtain ⟨i,tm,bx,ln⟩:=e
 rcases tm with _ | ⟨t,v⟩<;>rcases bx with _ | ⟨b,cs⟩<;>rcases ln with _ | ⟨l,x⟩<;>simp only[fEn,ZW,Zle,Zde,Zh8]
end force
def ZyF:Op→Bool
 | .alloc _=>true
 | .box _ _=>true
 | .store _ _ _=>true
 | .call _=>true
 | _=>false
def ZuM:Op→Nat
 | .move _=>0
 | .assign _=>0
 | .load _ _=>0
 | .store _ _ _=>0
 | .extract _ _=>0
 | .field _ _ _=>0
 | .index _ _ _=>0
 | .indexAddr _ _ _=>0
 | .fieldAddr _ _ _=>0
 | .nilCheck _=>0
 | .pick _ _ _=>0
 | .unOp _ _ _=>0
 | .alloc _=>0
 | .box _ _=>0
 | .build _ _=>0
 | .binOp _ _ _ _ _=>1
 | .slice _ _ _ _ _=>1
 | .call ⟨.builtin .append,_,_⟩=>1
 | .call ⟨.value _,_,_⟩=>0
 | _=>2
def Zdf(T:Nat→St→Oper→Option St)(ops:List Oper):List Oper→Nat→St→Option St
 | [],_,σ=>some σ
 | o::r,j,σ=>match Za9 σ ops o with
   | some true=>match T j σ o with
     | some σ1=>Zst (ZuM o.op) (ZyF o.op) σ1 fun σ1=>Zdf T ops r (j+1) σ1
     | none=>none
   | some false=>match o.dst with
     | some d=>Zst 0 false (Zc4 σ d) fun σ=>Zdf T ops r (j+1) σ
     | none=>Zdf T ops r (j+1) σ
   | none=>none
theorem Zgv(T:Nat→St→Oper→Option St)(ops:List Oper):∀l j σ,Zdf T ops l j σ=tails T ops l j σ
 | [],_,_=>rfl
 | o::r,j,σ=>by
   unfold Zdf tails
   simp only[Zz6,Zgv T ops r]<;>rfl
def Zj3(Γ:List (Nat×Ty))(R:Nat→St→Oper→Option Res)(ops:List Oper)(cls:List Nat)(ws:List (Nat×Nat))(D Src:List Nat)(β:St):List Oper→Nat→List En→Option (List En)
 | [],_,A=>some A
 | o::r,j,A=>match ZaQ Γ R ops cls ws D Src β A j o with
   | some e=>fEn (ZuM o.op) e fun e=>Zj3 Γ R ops cls ws D Src β r (j+1) (e::A)
   | none=>none
theorem ZlU{Γ:List (Nat×Ty)}{R:Nat→St→Oper→Option Res}{ops:List Oper}{cls:List Nat}{ws:List (Nat×Nat)}{D Src:List Nat}{β:St}:∀l j A,Zj3 Γ R ops cls ws D Src β l j A=frees Γ R ops cls ws D Src β l j A
 | [],_,_=>rfl
 | o::r,j,A=>by
   unfold Zj3 frees
   simp only[Z00,ZlU r]<;>rfl
def fWs{α:Sort _}:List (Nat×Nat)→(List (Nat×Nat)→α)→α
 | [],k=>k []
 | (x,y)::r,k=>fN x fun x=>fN y fun y=>fWs r fun r=>k ((x,y)::r)
theorem Zoo{α:Sort _}:∀(l:List (Nat×Nat)) (k:List (Nat×Nat)→α),fWs l k=k l
 | [],_=>rfl
 | (x,y)::r,k=>by simp only[fWs,ZW];rw[Zoo r]
def Zli(Γ:List (Nat×Ty))(R:Nat→St→Oper→Option Res)(T:Nat→St→Oper→Option St)(ops:List Oper)(σ:St)(ws:List (Nat×Nat)):Option St:=
 fNs (Zaq ops []) fun cls=>fN (Xm cls ops.length) fun k=>fNs (YI (ops.take k)) fun D=>fNs (Js (ops.take k)) fun Src=>fWs ws fun ws=>
 bif ZbR ops 0&&Zaf D&&ZnL cls ws then
  Zi5 (Zae D Src ws σ) fun β=>
  match Zj3 Γ R ops cls ws D Src β (ops.take k) 0 [] with
  | some A=>Zi5 (Zc5 β A) fun σ=>Zdf T ops (ops.drop k) k σ
  | none=>none
 else none
theorem Zsu{Γ:List (Nat×Ty)}{R:Nat→St→Oper→Option Res}{T:Nat→St→Oper→Option St}{ops:List Oper}{σ:St}{ws:List (Nat×Nat)}:Zli Γ R T ops σ ws=Ze8 Γ R T ops σ ws:=by
 unfold Zli Ze8
 simp only[Jt,ZW,Zoo,Zh9,ZlU,Zgv]<;>rfl
def Zgw(Γ:List (Nat×Ty))(R:Nat→St→Oper→Option Res)(T:Nat→St→Oper→Option St)(ops:Array Oper)(d:Bool)(σ:St):Option St:=
 match d with
 | true=>let l:=ops.toList
   Zli Γ R T l σ (Zfi l σ (l.take (Xm (Zaq l []) l.length)) 0)
 | false=>Zdf T ops.toList ops.toList 0 σ
theorem ZuN{Γ:List (Nat×Ty)}{R:Nat→St→Oper→Option Res}{T:Nat→St→Oper→Option St}{ops:Array Oper}{d:Bool}{σ:St}:Zgw Γ R T ops d σ=ZdN Γ R T ops d σ:=by
 cases d
 ·simp only[Zgw,ZdN,Zgv]
 ·simp only[Zgw,ZdN,Zsu]
def Xh(Γ:List (Nat×Ty))(R:Nat→St→Oper→Option Res)(T:Nat→St→Oper→Option St):Nat→Option Code→Code→St→Option (Ex×St)
 | 0,_,_,_=>none
 | n+1,some s,c,σ=>match Zi5 (clean (XX s) σ) fun σ=>Xh Γ R T n none c σ with
   | some (.goto l,σ1)=>match findLabel s l with
     | some rest=>Xh Γ R T n (some s) rest σ1
     | none=>none
   | r=>r
 | n+1,none,c,σ=>match c with
   | .scope s=>Xh Γ R T n (some s) s σ
   | .skip=>some (.normal,σ)
   | .label _=>some (.normal,σ)
   | .exit i=>some (.exit i,σ)
   | .goto i=>some (.goto i,σ)
   | .ret=>some (.ret,σ)
   | .region _ ops d=>match Zgw Γ R T ops d σ with
     | some σ'=>some (.normal,σ')
     | none=>match pub 8 σ with
       | some σ1=>Zxc σ1 fun σ1=>match Zgw Γ R T ops d σ1 with
         | some σ'=>some (.normal,σ')
         | none=>none
       | none=>none
   | .seq x y=>match Xh Γ R T n none x σ with
     | some (.normal,σ1)=>Xh Γ R T n none y σ1
     | r=>r
   | .cond c x y=>match Z0 σ c with
     | some (.v (.bool true))=>Xh Γ R T n none x σ
     | some (.v (.bool false))=>Xh Γ R T n none y σ
     | _=>none
   | .block id c=>match Xh Γ R T n none c σ with
     | some (.exit i,σ1)=>some (bif Nat.beq i id then .normal else .exit i,σ1)
     | r=>r
   | .loop c=>match Zi5 (clean (XX c) σ) fun σ=>Xh Γ R T n none c σ with
     | some (.normal,σ1)=>Xh Γ R T n none (.loop c) σ1
     | r=>r
   | _=>none
theorem Zfu{Γ:List (Nat×Ty)}{R:Nat→St→Oper→Option Res}{T:Nat→St→Oper→Option St}:∀n s c σ,Xh Γ R T n s c σ=Ym Γ R T n s c σ:=by
 intro n
 induction n with
 | zero=>intro s c σ;simp only[Xh,Ym]
 | succ n ih=>
   intro s c σ
   cases s with
   | some s=>simp only[Xh,Ym,Zh9,ih]<;>rfl
   | none=>cases c<;>simp only[Xh,Ym,Zh9,Zz5,ih,ZuN]<;>rfl
def Zsv(x:Option PV):Option PV:=match x with
 | some r=>fPV r fun r=>some r
 | none=>none
theorem Zz7(x:Option PV):Zsv x=x:=by cases x<;>simp only[Zsv,Zgu]
def vEq:Value→Value→Bool
 | .int k a,.int k' b=>decide (k=k')&&decide (a=b)
 | .bool a,.bool b=>a==b
 | _,_=>false
def sEq:List UInt8→List UInt8→Bool
 | [],[]=>true
 | a::r,b::s=>Nat.beq a.toNat b.toNat&&sEq r s
 | _,_=>false
mutual
def Zby:PV→PV→Bool
 | .v x,y=>match y with | .v y=>vEq x y | _=>false
 | .str l,y=>match y with | .str m=>sEq l m | _=>false
 | .nil,y=>match y with | .nil=>true | _=>false
 | .lst xs,y=>match y with | .lst ys=>Zgx xs ys | _=>false
 | .agg xs,y=>match y with | .agg ys=>Zc9 xs ys | _=>false
 | .tup xs,y=>match y with | .tup ys=>Zc9 xs ys | _=>false
 | .lptr _ _,_=>false
 | .fn _ _,_=>false
 | .bld _,_=>false
 | .bp _ _,_=>false
 | .bs _ _ _ _,_=>false
def Zc9:List PV→List PV→Bool
 | [],l=>match l with | []=>true | _=>false
 | x::r,l=>match l with | y::s=>Zby x y&&Zc9 r s | []=>false
def Zgx:List (List PV)→List (List PV)→Bool
 | [],l=>match l with | []=>true | _=>false
 | x::r,l=>match l with | y::s=>Zc9 x y&&Zgx r s | []=>false
end
theorem Z01{x y:Value}(h:vEq x y=true):x=y:=by
 unfold vEq at h
 split at h
 ·rw[Qh_] at h;rw[Qy_ h.1,Qy_ h.2]
 ·simp at h;rw[h]
 ·cases h
theorem ZuO:∀{x y:List UInt8},sEq x y=true→x=y
 | [],[],_=>rfl
 | a::r,b::s,h=>by
   unfold sEq at h
   rw[Qh_] at h
   rw[UInt8.toNat_inj.1 (Qj_ h.1),ZuO h.2]
 | [],_::_,h=>by simp[sEq] at h
 | _::_,[],h=>by simp[sEq] at h
mutual
theorem Zz8:∀(x y:PV),Zby x y=true→x=y
 | .v x,y,h=>by
   simp only[Zby] at h
   split at h
   ·rw[Z01 h]
   ·cases h
 | .str l,y,h=>by
   simp only[Zby] at h
   split at h
   ·rw[ZuO h]
   ·cases h
 | .nil,y,h=>by
   simp only[Zby] at h
   split at h
   ·rfl
   ·cases h
 | .lst xs,y,h=>by
   simp only[Zby] at h
   split at h
   ·rw[ZlV xs _ h]
   ·cases h
 | .agg xs,y,h=>by
   simp only[Zby] at h
   split at h
   ·rw[Zdg xs _ h]
   ·cases h
 | .tup xs,y,h=>by
   simp only[Zby] at h
   split at h
   ·rw[Zdg xs _ h]
   ·cases h
 | .lptr _ _,_,h=>by simp only[Zby] at h;cases h
 | .fn _ _,_,h=>by simp only[Zby] at h;cases h
 | .bld _,_,h=>by simp only[Zby] at h;cases h
 | .bp _ _,_,h=>by simp only[Zby] at h;cases h
 | .bs _ _ _ _,_,h=>by simp only[Zby] at h;cases h
theorem Zdg:∀(x y:List PV),Zc9 x y=true→x=y
 | [],y,h=>by
   simp only[Zc9] at h
   split at h
   ·rfl
   ·cases h
 | x::r,l,h=>by
   simp only[Zc9] at h
   split at h
   ·rename_i y s
    rw[Qh_] at h
    rw[Zz8 x y h.1,Zdg r s h.2]
   ·cases h
theorem ZlV:∀(x y:List (List PV)),Zgx x y=true→x=y
 | [],y,h=>by
   simp only[Zgx] at h
   split at h
   ·rfl
   ·cases h
 | x::r,l,h=>by
   simp only[Zgx] at h
   split at h
   ·rename_i y s
    rw[Qh_] at h
    rw[Zdg x y h.1,ZlV r s h.2]
   ·cases h
end
abbrev Tab:=List (Nat×List PV×PV)
def Zj4(f:Nat)(args:List PV):Tab→Option PV
 | []=>none
 | (g,zs,r)::t=>bif Nat.beq f g&&Zc9 args zs then some r else Zj4 f args t
def ZmU(P:Program)(t:Tab):Prop:=∀f args r,Zj4 f args t=some r→Con P f args r
theorem ZlW{P:Program}:ZmU P []:=fun f args r h=>by simp[Zj4] at h
theorem W1{P:Program}{f:Nat}{args:List PV}{r:PV}{t:Tab}(h:Con P f args r)(ht:ZmU P t):ZmU P ((f,args,r)::t):=fun g zs q hq=>by
 unfold Zj4 at hq
 cases hb:(Nat.beq g f&&Zc9 zs args) with
 | false=>rw[hb] at hq;exact ht g zs q hq
 | true=>
   rw[hb] at hq
   have:=Qa_ hq
   subst this
   rw[Qh_] at hb
   rw[Qj_ hb.1,Zdg _ _ hb.2]
   exact h
abbrev Zlj:=List (Nat×Tab)
def Zj5(f:Nat)(args:List PV)(t:Zlj):Option PV:=match lk f t with
 | some l=>Zj4 f args l
 | none=>none
def Zgy(P:Program)(t:Zlj):Prop:=∀f args r,Zj5 f args t=some r→Con P f args r
theorem Zsw{P:Program}:Zgy P []:=fun f args r h=>by simp[Zj5,lk] at h
theorem Zik{P:Program}{f:Nat}{l:Tab}{t:Zlj}(h:ZmU P l)(ht:Zgy P t):Zgy P ((f,l)::t):=fun g zs q hq=>by
 unfold Zj5 at hq
 rw[Zn] at hq
 by_cases e:g=f
 ·rw[if_pos e] at hq
  exact h _ _ _ hq
 ·rw[if_neg e] at hq
  exact ht _ _ _ hq
def Wo(E:Env)(tab:Zlj)(n:Nat):Nat→Xn×Zh6×ZdS
 | 0=>(fun _ _=>none,fun _ _ _=>none,fun _ _ _=>none)
 | d+1=>
   (fun f args=>bif has f E.libs then Zsv (E.lib f args) else match Zj5 f args tab with
     | some r=>some r
     | none=>match lk f E.fns with
     | some fn=>match fn.body with
       | some c=>bif Nat.ble args.length fn.ntmps then
          match Zon (XB fn.ntmps args) fun σ=>Xh E.Γ (RR2 E (Wo E tab n d).1) (TT E (Wo E tab n d).1 (Wo E tab n d).2.1 (Wo E tab n d).2.2) n none c σ with
          | some (e,σ')=>bif WO e then
             match JJ E.Γ σ' fn.results.toList with
             | some r=>Zsv (some (ZaO r))
             | none=>none
            else none
          | none=>none
         else none
       | none=>none
     | none=>none,
    fun f cs args=>match lk f E.fns with
     | some fn=>match fn.body with
       | some c=>bif Nat.ble (args.length+1) fn.ntmps then
          match Zon (Yv fn.ntmps cs args) fun σ=>Xh E.Γ (RR2 E (Wo E tab n d).1) (TT E (Wo E tab n d).1 (Wo E tab n d).2.1 (Wo E tab n d).2.2) n none c σ with
          | some (e,σ')=>bif WO e&& !(has fn.ntmps σ'.ro) then
             match JJ E.Γ σ' fn.results.toList,lk fn.ntmps σ'.boxes with
             | some r,some cs'=>bif Yx cs&&Yx cs' then fSp cs' fun cs'=>fPV (ZaO r) fun r=>some (r,cs') else none
             | _,_=>none
            else none
          | none=>none
         else none
       | none=>none
     | none=>none,
    fun f σ args=>match lk f E.fns with
     | some fn=>match fn.body with
       | some c=>bif Nat.ble args.length fn.ntmps then
          match Zon (W9 fn.ntmps σ args) fun σ=>Xh E.Γ (RR2 E (Wo E tab n d).1) (TT E (Wo E tab n d).1 (Wo E tab n d).2.1 (Wo E tab n d).2.2) n none c σ with
          | some (e,σc)=>bif WO e&&(ZeY (Zer fn.ntmps σc.boxes) σ.tmps&&WF σc.boxes) then
             match JJ E.Γ σc fn.results.toList with
             | some r=>Zi5 (JK fn.ntmps σ σc) fun σ'=>fPV (ZaO r) fun r=>some (r,σ')
             | none=>none
            else none
          | none=>none
         else none
       | none=>none
     | none=>none)
theorem Zru{P:Program}{E:Env}(hE:EnvOk P E){tab:Zlj}(ht:Zgy P tab)(n:Nat):∀d,ZbU P (Wo E tab n d).1∧Zlc P (Wo E tab n d).2.1∧Zh7 P (Wo E tab n d).2.2
 | 0=>⟨fun f args r h=>absurd h (by simp[Wo]),fun f cs args r cs' h=>absurd h (by simp[Wo]),fun f σ args r σ' h=>absurd h (by simp[Wo])⟩
 | d+1=>by
   obtain ⟨h1,h2,h3⟩:=Zru hE ht n d
   have hR:=ZeA hE h1
   have hT:=ZyE hE h1 h2 h3
   refine ⟨fun f args r h=>?_,fun f cs args r cs' h=>?_,fun f σ args r σ' h=>?_⟩
   ·simp only[Wo,Zlh,Zfu,Zz7] at h
    cases hlib:has f E.libs with
    | true=>rw[hlib] at h;exact hE.lib f args r h
    | false=>
    rw[hlib] at h
    simp only[Qd_] at h
    split at h
    ·rename_i r0 hr0
     have:=Qa_ h
     subst this
     exact ht _ _ _ hr0
    ·split at h
     ·rename_i fn hfn
      obtain ⟨k1,k2⟩:=hE.fns f fn hfn
      split at h
      ·rename_i c hc
       cases hb:Nat.ble args.length fn.ntmps with
       | false=>rw[hb] at h;cases h
       | true=>
         rw[hb] at h
         simp only[Qb_] at h
         split at h
         ·rename_i e σ' he
          cases ho:WO e with
          | false=>rw[ho] at h;cases h
          | true=>
            rw[ho] at h
            simp only[Qb_] at h
            split at h
            ·rename_i r0 hr
             have:=Qa_ h
             subst this
             exact ZnH hE.Γ k2 k1 hc hb ((ZcZ hE.Γ hE.mixed hR hT n).1 c _ _ _ he).1 ho hr
            ·cases h
         ·cases h
      ·cases h
     ·cases h
   ·simp only[Wo,Zlh,Zfu,Zde,Zgu] at h
    split at h
    ·rename_i fn hfn
     obtain ⟨k1,k2⟩:=hE.fns f fn hfn
     split at h
     ·rename_i c hc
      cases hb:Nat.ble (args.length+1) fn.ntmps with
      | false=>rw[hb] at h;cases h
      | true=>
        rw[hb] at h
        simp only[Qb_] at h
        split at h
        ·rename_i e σ' he
         cases ho:(WO e&& !(has fn.ntmps σ'.ro)) with
         | false=>rw[ho] at h;cases h
         | true=>
           rw[ho] at h
           simp only[Qb_] at h
           rw[Qh_] at ho
           split at h
           ·rename_i r0 cs0 hr hcs
            cases hd:(Yx cs&&Yx cs0) with
            | false=>rw[hd] at h;cases h
            | true=>
              rw[hd] at h
              rw[Qh_] at hd
              have:=Qa_ h
              cases this
              exact Zzs hE.Γ k2 k1 hc hb ((ZcZ hE.Γ hE.mixed hR hT n).1 c _ _ _ he).1 ho.1 hr hcs (by simpa using ho.2) hd.1 hd.2
           ·cases h
        ·cases h
     ·cases h
    ·cases h
   ·simp only[Wo,Zlh,Zh9,Zfu,Zgu] at h
    split at h
    ·rename_i fn hfn
     obtain ⟨k1,k2⟩:=hE.fns f fn hfn
     split at h
     ·rename_i c hc
      cases hb:Nat.ble args.length fn.ntmps with
      | false=>rw[hb] at h;cases h
      | true=>
        rw[hb] at h
        simp only[Qb_] at h
        split at h
        ·rename_i e σc he
         cases ho:(WO e&&(ZeY (Zer fn.ntmps σc.boxes) σ.tmps&&WF σc.boxes)) with
         | false=>rw[ho] at h;cases h
         | true=>
           rw[ho] at h
           simp only[Qb_] at h
           rw[Qh_,Qh_] at ho
           split at h
           ·rename_i r0 hr
            have:=Qa_ h
            cases this
            exact Z0w hE.Γ k2 k1 hc hb ((ZcZ hE.Γ hE.mixed hR hT n).1 c _ _ _ he).1 ho.1 hr ho.2.1 ho.2.2
           ·cases h
        ·cases h
     ·cases h
    ·cases h
def shF(P:Program)(g:TypeId→List Nat→Bool):List Field→Nat→List Nat→Bool
 | [],_,sh=>sh.isEmpty
 | f::fs,i,sh=>(f.name != "_")&&Nat.beq f.offset i&&(match P.info? f.type with
   | some inf=>Nat.ble inf.size sh.length&&g f.type (sh.take inf.size)&&shF P g fs (i+inf.size) (sh.drop inf.size)
   | none=>false)
def shA(g:List Nat→Bool)(s:Nat):Nat→List Nat→Bool
 | 0,sh=>sh.isEmpty
 | n+1,sh=>Nat.ble s sh.length&&g (sh.take s)&&shA g s n (sh.drop s)
def shB(P:Program):Nat→TypeId→List Nat→Bool
 | 0,_,_=>false
 | d+1,T,sh=>match P.underlying T with
   | some (.int _)=>(match sh with | [0]=>true | _=>false)
   | some .bool=>(match sh with | [1]=>true | _=>false)
   | some .string=>(match sh with | [2]=>true | _=>false)
   | some (.complex _)=>(match sh with | [3]=>true | _=>false)
   | some (.struct fs)=>(match P.info? T with | some i=>Nat.beq i.size sh.length | none=>false)&& !(P.stoodInHeld T)&&shF P (shB P d) fs.toList 0 sh
   | some (.array n e)=>(match P.info? T,P.info? e with | some i,some j=>Nat.beq i.size sh.length&&shA (shB P d e) j.size n sh | _,_=>false)
   | _=>false
section
variable {P:Program}{hw:Nat→Nat}{w:World}
theorem Zes:∀{sh:List Nat} {xs ys:List PV} {b:Bool},Zq sh xs ys=some b→xs.length=sh.length∧ys.length=sh.length:=by
 intro sh
 induction sh with
 | nil=>
   intro xs ys b h
   cases xs<;>cases ys<;>simp[Zq] at h
   exact ⟨rfl,rfl⟩
 | cons s sh ih=>
   intro xs ys b h
   unfold Zq at h
   split at h
   ·rename_i e;cases e
   ·rename_i e
    cases e
    split at h
    ·rename_i c hc
     obtain ⟨h1,h2⟩:=ih hc
     exact ⟨by simp[h1],by simp[h2]⟩
    ·exact absurd h (by rw[Bool.cond_self];simp)
   ·rename_i e
    cases e
    split at h
    ·rename_i c hc
     obtain ⟨h1,h2⟩:=ih hc
     exact ⟨by simp[h1],by simp[h2]⟩
    ·cases h
   ·rename_i e
    cases e
    split at h
    ·rename_i c hc
     obtain ⟨h1,h2⟩:=ih hc
     exact ⟨by simp[h1],by simp[h2]⟩
    ·cases h
   ·rename_i e
    cases e
    split at h
    ·rename_i c hc
     obtain ⟨h1,h2⟩:=ih hc
     exact ⟨by simp[h1],by simp[h2]⟩
    ·exact absurd h (by rw[Bool.cond_self];simp)
   ·cases h
theorem Zop{s:Nat}{sh:List Nat}{x y:PV}{r q:List PV}{b:Bool}(h:Zq (s::sh) (x::r) (y::q)=some b):∃b1 b2,Zq [s] [x] [y]=some b1∧Zq sh r q=some b2∧b=(b1&&b2):=by
 unfold Zq at h
 split at h
 ·rename_i e;cases e
 ·rename_i sh' k a r' k' a' r'' e1 e2 e3
  cases e1;cases e2;cases e3
  cases hk:decide (k=k') with
  | false=>rw[hk] at h;cases h
  | true=>
    rw[hk] at h
    simp only[Qb_] at h
    split at h
    ·rename_i c hc
     exact ⟨a==a',c,by simp[Zq,hk],hc,(Qa_ h).symm⟩
    ·cases h
 ·rename_i sh' a r' a' r'' e1 e2 e3
  cases e1;cases e2;cases e3
  split at h
  ·rename_i c hc
   exact ⟨a==a',c,by simp[Zq],hc,(Qa_ h).symm⟩
  ·cases h
 ·rename_i sh' a r' a' r'' e1 e2 e3
  cases e1;cases e2;cases e3
  split at h
  ·rename_i c hc
   exact ⟨a==a',c,by simp[Zq],hc,(Qa_ h).symm⟩
  ·cases h
 ·rename_i sh' k a b0 r' k' a' b' r'' e1 e2 e3
  cases e1;cases e2;cases e3
  cases hk:decide (k=k') with
  | false=>rw[hk] at h;cases h
  | true=>
    rw[hk] at h
    simp only[Qb_] at h
    split at h
    ·rename_i c hc
     exact ⟨Op.floatEq k a a'&&Op.floatEq k b0 b',c,by simp[Zq,hk],hc,(Qa_ h).symm⟩
    ·cases h
 ·cases h
theorem Zoq{s:Nat}{sh:List Nat}{x y:PV}{r q:List PV}{b1 b2:Bool}(h1:Zq [s] [x] [y]=some b1)(h2:Zq sh r q=some b2):Zq (s::sh) (x::r) (y::q)=some (b1&&b2):=by
 unfold Zq at h1
 split at h1
 ·rename_i e _ _;cases e
 ·rename_i sh' k a r' k' a' r'' e1 e2 e3
  cases e1;cases e2;cases e3
  cases hk:decide (k=k') with
  | false=>rw[hk] at h1;cases h1
  | true=>
    rw[hk] at h1
    simp only[Qb_,Zq] at h1
    have:=Qa_ h1
    simp only[Qr_] at this
    subst this
    simp[Zq,hk,h2]
 ·rename_i sh' a r' a' r'' e1 e2 e3
  cases e1;cases e2;cases e3
  simp only[Zq] at h1
  have:=Qa_ h1
  simp only[Qr_] at this
  subst this
  simp[Zq,h2]
 ·rename_i sh' a r' a' r'' e1 e2 e3
  cases e1;cases e2;cases e3
  simp only[Zq] at h1
  have:=Qa_ h1
  simp only[Qr_] at this
  subst this
  simp[Zq,h2]
 ·rename_i sh' k a b0 r' k' a' b' r'' e1 e2 e3
  cases e1;cases e2;cases e3
  cases hk:decide (k=k') with
  | false=>rw[hk] at h1;cases h1
  | true=>
    rw[hk] at h1
    simp only[Qb_,Zq] at h1
    have:=Qa_ h1
    simp only[Qr_] at this
    subst this
    simp[Zq,hk,h2]
 ·cases h1
theorem Zcv:∀{n:Nat} {sh:List Nat} {xs ys:List PV} {b:Bool},n≤sh.length→Zq sh xs ys=some b→
 ∃b1 b2,Zq (sh.take n) (xs.take n) (ys.take n)=some b1∧Zq (sh.drop n) (xs.drop n) (ys.drop n)=some b2∧b=(b1&&b2)
 | 0,sh,xs,ys,b,_,h=>⟨true,b,by simp[Zq],by simpa using h,by simp⟩
 | n+1,[],xs,ys,b,hn,_=>by simp at hn
 | n+1,s::sh,xs,ys,b,hn,h=>by
   obtain ⟨hx,hy⟩:=Zes h
   cases xs with
   | nil=>simp at hx
   | cons x r=>
     cases ys with
     | nil=>simp at hy
     | cons y q=>
       obtain ⟨b1,b2,h1,h2,rfl⟩:=Zop h
       obtain ⟨c1,c2,h3,h4,rfl⟩:=Zcv (n:=n) (by simpa using hn) h2
       refine ⟨b1&&c1,c2, ?_,by simpa using h4,by rw[Bool.and_assoc]⟩
       simp only[List.take_succ_cons]
       exact Zoq h1 h3
theorem ArgsRep.seg{vs:List Value}{xs:List PV}(h:ArgsRep hw w vs xs)(off n:Nat):ArgsRep hw w ((vs.drop off).take n) ((xs.drop off).take n):=
 ⟨by simp[h.len],fun j x y hx hy=>by
   rw[Kl_] at hx hy
   split at hx
   ·rename_i hj
    rw[if_pos hj] at hy
    rw[Kd_] at hx hy
    exact h.rep _ x y hx hy
   ·cases hx⟩
def Zj6(P:Program)(D:Nat)(T:TypeId)(sh:List Nat):Prop:=
 ∀(hw:Nat→Nat) (w:World) (vs us:List Value) (xs ys:List PV) (off:Nat) (b:Bool),ArgsRep hw w vs xs→ArgsRep hw w us ys→Zq sh ((xs.drop off).take sh.length) ((ys.drop off).take sh.length)=some b→
  ∃p q,(part T vs.toArray off).run P w= .ok p w∧(part T us.toArray off).run P w= .ok q w∧(Op.equalIn D T p q).run P w= .ok b w
theorem ZfO{D:Nat}{g:TypeId→List Nat→Bool}(hg:∀T sh,g T sh=true→Zj6 P D T sh){vs us:List Value}{xs ys:List PV}(hx:ArgsRep hw w vs xs)(hy:ArgsRep hw w us ys):
 ∀{fs:List Field} {sh:List Nat} {i:Nat} {b:Bool},shF P g fs i sh=true→Zq sh (xs.drop i) (ys.drop i)=some b→(Op.eqFields D vs.toArray us.toArray fs).run P w= .ok b w
 | [],sh,i,b,hs,h=>by
   unfold shF at hs
   cases sh with
   | cons _ _=>simp at hs
   | nil=>
     generalize xs.drop i=l at *
     generalize ys.drop i=m at *
     cases l<;>cases m<;>simp[Zq] at h
     subst h
     simp[Op.eqFields]
 | f::fs,sh,i,b,hs,h=>by
   unfold shF at hs
   simp only[Qh_] at hs
   obtain ⟨⟨h1,h2⟩,h3⟩:=hs
   have hname:f.name≠ "_":=by simpa using h1
   have hoff:=Qj_ h2
   split at h3
   ·rename_i inf hinf
    simp only[Qh_] at h3
    obtain ⟨⟨h4,h5⟩,h6⟩:=h3
    have hle:=Qm_ h4
    obtain ⟨b1,b2,e1,e2,rfl⟩:=Zcv hle h
    have hl:(sh.take inf.size).length=inf.size:=by simp;omega
    obtain ⟨p,q,p1,p2,p3⟩:=hg _ _ h5 hw w vs us xs ys i b1 hx hy (by rw[hl];exact e1)
    rw[List.drop_drop,List.drop_drop] at e2
    unfold Op.eqFields
    rw[if_pos hname,hoff]
    simp only[Sem.run_bind,p1,p2,p3,Result.andThen_ok]
    cases b1 with
    | false=>rfl
    | true=>
      simp only[Qu_,K6_,Kx_]
      rw[ZfO hg hx hy h6 e2]
      rfl
   ·cases h3
theorem Zgz{D:Nat}{T:TypeId}{s:Nat}{g:List Nat→Bool}(hg:∀sh,g sh=true→Zj6 P D T sh){vs us:List Value}{xs ys:List PV}(hx:ArgsRep hw w vs xs)(hy:ArgsRep hw w us ys):
 ∀{n:Nat} {sh:List Nat} {i:Nat} {b:Bool},shA g s n sh=true→Zq sh (xs.drop (i *s)) (ys.drop (i *s))=some b→(Op.eqItems D T s vs.toArray us.toArray (List.range' i n)).run P w= .ok b w
 | 0,sh,i,b,hs,h=>by
   unfold shA at hs
   cases sh with
   | cons _ _=>simp at hs
   | nil=>
     generalize xs.drop (i *s)=l at *
     generalize ys.drop (i *s)=m at *
     cases l<;>cases m<;>simp[Zq] at h
     subst h
     simp[Op.eqItems]
 | n+1,sh,i,b,hs,h=>by
   unfold shA at hs
   simp only[Qh_] at hs
   obtain ⟨⟨h4,h5⟩,h6⟩:=hs
   have hle:=Qm_ h4
   obtain ⟨b1,b2,e1,e2,rfl⟩:=Zcv hle h
   have hl:(sh.take s).length=s:=by simp;omega
   obtain ⟨p,q,p1,p2,p3⟩:=hg _ h5 hw w vs us xs ys (i *s) b1 hx hy (by rw[hl];exact e1)
   rw[List.drop_drop,List.drop_drop] at e2
   rw[List.range'_succ]
   unfold Op.eqItems
   simp only[Sem.run_bind,p1,p2,p3,Result.andThen_ok]
   cases b1 with
   | false=>rfl
   | true=>
     simp only[Qu_,K6_,Kx_]
     rw[Zgz hg hx hy (i:=i+1) h6 (by rw[Kp_];exact e2)]
     rfl
theorem Zdh{T:TypeId}{i:TypeInfo}(hi:P.info? T=some i)(ha:(isAgg T).run P w= .ok true w)(vs:List Value)(off:Nat):(part T vs.toArray off).run P w= .ok (.agg ((vs.drop off).take i.size).toArray) w:=by
 unfold part
 have hs:(sizeOf T).run P w= .ok i.size w:=by simp[sizeOf,typeInfo,hi]
 rw[Sem.run_bind,ha,Result.andThen_ok,if_pos rfl,Sem.run_bind,hs,Result.andThen_ok]
 have e:vs.toArray.extract off (off+i.size)=((vs.drop off).take i.size).toArray:=by
  apply QW_
  simp[Nat.add_sub_cancel_left]
 rw[e]
 rfl
theorem Zz9{x y:PV}{b:Bool}(h:Zq [0] [x] [y]=some b):∃k a a',x= .v (.int k a)∧y= .v (.int k a')∧(a==a')=b:=by
 cases x with
 | v vx=>cases vx with
   | int k a=>cases y with
     | v vy=>cases vy with
       | int k' a'=>
         simp only[Zq,Qr_] at h
         cases hk:decide (k=k') with
         | false=>rw[hk] at h;cases h
         | true=>
           rw[hk] at h
           have:=Qy_ hk
           subst this
           exact ⟨k,a,a',rfl,rfl,Qa_ h⟩
       | _=>simp[Zq] at h
     | _=>simp[Zq] at h
   | _=>simp[Zq] at h
 | _=>simp[Zq] at h
theorem Zxd{x y:PV}{b:Bool}(h:Zq [1] [x] [y]=some b):∃a a',x= .v (.bool a)∧y= .v (.bool a')∧(a==a')=b:=by
 cases x with
 | v vx=>cases vx with
   | bool a=>cases y with
     | v vy=>cases vy with
       | bool a'=>
         simp only[Zq,Qr_] at h
         exact ⟨a,a',rfl,rfl,Qa_ h⟩
       | _=>simp[Zq] at h
     | _=>simp[Zq] at h
   | _=>simp[Zq] at h
 | _=>simp[Zq] at h
theorem ZzA{x y:PV}{b:Bool}(h:Zq [2] [x] [y]=some b):∃a a',x= .str a∧y= .str a'∧(a==a')=b:=by
 cases x with
 | str a=>cases y with
   | str a'=>
     simp only[Zq,Qr_] at h
     exact ⟨a,a',rfl,rfl,Qa_ h⟩
   | _=>simp[Zq] at h
 | _=>simp[Zq] at h
theorem Z02{x y:PV}{b:Bool}(h:Zq [3] [x] [y]=some b):∃k a c a' c',x= .v (.complex k a c)∧y= .v (.complex k a' c')∧(Op.floatEq k a a'&&Op.floatEq k c c')=b:=by
 cases x with
 | v vx=>cases vx with
   | complex k a c=>cases y with
     | v vy=>cases vy with
       | complex k' a' c'=>
         simp only[Zq,Qr_] at h
         cases hk:decide (k=k') with
         | false=>rw[hk] at h;cases h
         | true=>
           rw[hk] at h
           have:=Qy_ hk
           subst this
           exact ⟨k,a,c,a',c',rfl,rfl,Qa_ h⟩
       | _=>simp[Zq] at h
     | _=>simp[Zq] at h
   | _=>simp[Zq] at h
 | _=>simp[Zq] at h
theorem Zrv:∀(d:Nat) (T:TypeId) (sh:List Nat),shB P d T sh=true→∀D,d≤D→Zj6 P D T sh
 | 0,T,sh,h,_,_=>by simp[shB] at h
 | d+1,T,sh,h,D,hD=>by
   intro hw w vs us xs ys off b hx hy he
   obtain ⟨D,rfl⟩:∃D',D=D'+1:=⟨D - 1,by omega⟩
   have ih:∀T sh,shB P d T sh=true→Zj6 P D T sh:=fun T sh hs=>Zrv d T sh hs D (by omega)
   have one:∀{s:Nat} {ds:TypeDesc},sh=[s]→P.underlying T=some ds→Zoh ds=true→∃p q x y,vs[off]?=some p∧us[off]?=some q∧Rep hw w p x∧Rep hw w q y∧Zq [s] [x] [y]=some b∧(part T vs.toArray off).run P w= .ok p w∧(part T us.toArray off).run P w= .ok q w:=by
    intro s ds e hu hp
    subst e
    obtain ⟨l1,l2⟩:=Zes he
    simp only[List.length_singleton] at l1 l2 he
    have g1:off < xs.length:=by simp at l1;omega
    have g2:off < ys.length:=by simp at l2;omega
    have k1:off < vs.length:=by rw[hx.len];exact g1
    have k2:off < us.length:=by rw[hy.len];exact g2
    have t1:(xs.drop off).take 1=[xs[off]]:=by rw[Ky_ g1];rfl
    have t2:(ys.drop off).take 1=[ys[off]]:=by rw[Ky_ g2];rfl
    rw[t1,t2] at he
    exact ⟨vs[off],us[off],xs[off],ys[off],Qg_ k1,Qg_ k2,hx.rep off _ _ (Qg_ k1) (Qg_ g1),hy.rep off _ _ (Qg_ k2) (Qg_ g2),he,
     Zj1 hu hp (Qg_ k1) w,Zj1 hu hp (Qg_ k2) w⟩
   unfold shB at h
   split at h
   ·rename_i k0 hu
    split at h
    ·obtain ⟨p,q,x,y,_,_,r1,r2,e,p1,p2⟩:=one rfl hu rfl
     obtain ⟨k,c,c',rfl,rfl,rfl⟩:=Zz9 e
     exact ⟨p,q,p1,p2,by rw[Z7 r1,Z7 r2,run_equalIn_int w D T k k0 c c' hu]⟩
    ·cases h
   ·rename_i hu
    split at h
    ·obtain ⟨p,q,x,y,_,_,r1,r2,e,p1,p2⟩:=one rfl hu rfl
     obtain ⟨c,c',rfl,rfl,rfl⟩:=Zxd e
     exact ⟨p,q,p1,p2,by rw[Z7 r1,Z7 r2,run_equalIn_bool' w D T c c' hu]⟩
    ·cases h
   ·rename_i hu
    split at h
    ·obtain ⟨p,q,x,y,_,_,r1,r2,e,p1,p2⟩:=one rfl hu rfl
     obtain ⟨c,c',rfl,rfl,rfl⟩:=ZzA e
     exact ⟨p,q,p1,p2,by rw[YD r1,YD r2,run_equalIn_string w D T _ _ hu,Zn8]⟩
    ·cases h
   ·rename_i k0 hu
    split at h
    ·obtain ⟨p,q,x,y,_,_,r1,r2,e,p1,p2⟩:=one rfl hu rfl
     obtain ⟨k,c1,c2,c1',c2',rfl,rfl,rfl⟩:=Z02 e
     exact ⟨p,q,p1,p2,by rw[Z7 r1,Z7 r2];simp[Op.equalIn,run_underlying hu]⟩
    ·cases h
   ·rename_i fs hu
    simp only[Qh_,Qi_] at h
    obtain ⟨⟨h1,h2⟩,h3⟩:=h
    split at h1
    ·rename_i i hi
     have hsz:=Qj_ h1
     have ha:(isAgg T).run P w= .ok true w:=by simp[isAgg,run_underlying hu]
     have hf:P.fieldsOf T=fs:=by simp[Program.fieldsOf,hu]
     refine ⟨_,_,Zdh hi ha vs off,Zdh hi ha us off, ?_⟩
     rw[run_equalIn_struct w D T _ _ (by rw[hf];exact hu) h2,hf]
     refine ZfO (hw:=hw) ih (hx.seg off i.size) (hy.seg off i.size) h3 ?_
     simp only[QG_]
     rw[hsz]
     exact he
    ·cases h1
   ·rename_i n e0 hu
    split at h
    ·rename_i i j hi hj
     rw[Qh_] at h
     have hsz:=Qj_ h.1
     have ha:(isAgg T).run P w= .ok true w:=by simp[isAgg,run_underlying hu]
     refine ⟨_,_,Zdh hi ha vs off,Zdh hi ha us off, ?_⟩
     have hc:P.cellsOf e0=j.size:=by simp[Program.cellsOf,hj]
     rw[run_equalIn_array w D _ _ hu hj,hc,List.range_eq_range']
     refine Zgz (hw:=hw) (fun sh hs=>ih e0 sh hs) (hx.seg off i.size) (hy.seg off i.size) h.2 ?_
     simp only[Nat.zero_mul,QG_]
     rw[hsz]
     exact he
    ·cases h
   ·cases h
theorem ZdT{T:TypeId}{sh:List Nat}(hg:P.eqGuardType P.depth T=false){d:Nat}(hd:Nat.ble d 10000=true)(ha:∀w,(isAgg T).run P w= .ok true w){i:TypeInfo}(hi:P.info? T=some i)(hn:i.size=sh.length)(hs:shB P d T sh=true):ZnU P T sh:=
 ⟨hg,fun hw w vs us xs ys b hx hy h=>by
   obtain ⟨l1,l2⟩:=Zes h
   obtain ⟨p,q,p1,p2,p3⟩:=Zrv d T sh hs 10000 (Qm_ hd) hw w vs us xs ys 0 b hx hy (by
    simp only[QG_]
    rw[Ki_ (by omega),Ki_ (by omega)]
    exact h)
   rw[Zdh hi (ha w)] at p1 p2
   simp only[QG_] at p1 p2
   rw[Ki_ (by rw[hx.len];omega)] at p1
   rw[Ki_ (by rw[hy.len];omega)] at p2
   injection p1 with p1 _
   injection p2 with p2 _
   subst p1;subst p2
   exact p3⟩
end
def Xi(n:Nat)(l:List UInt8):Bool:=Nat.ble l.length n
def Zah(l:List UInt8):Bool:=l.all fun b=>Nat.blt b.toNat 128
def Zrw:List PV→Option PV
 | [.str s,.str c]=>bif Xi 4000000000 s&&Xi 4000000000 c&&Zah c then some (.str (Lib.trimS s c)) else none
 | _=>none
def Zg0:List PV→Option PV
 | [.str s,.str c]=>bif Xi 4000000000 s&&Xi 4000000000 c&&Zah c then some (.str (Lib.trimRightS s c)) else none
 | _=>none
def ZlX:List PV→Option PV
 | [.str s,.v (.int .i64 (.ofNat n))]=>bif Nat.ble n 4000000000&&Nat.ble (s.length *n) 4000000000 then some (.str (Lib.repeatL s n)) else none
 | _=>none
def digs:Nat→Nat→List UInt8
 | 0,_=>[]
 | k+1,u=>bif Nat.blt u 10 then [UInt8.ofNat (48+u)] else digs k (u / 10)++[UInt8.ofNat (48+u % 10)]
def Zlk:List PV→Option PV
 | [.v (.int .i64 (.ofNat n))]=>bif Nat.blt n 9223372036854775808 then some (.str (digs 20 n)) else none
 | [.v (.int .i64 (.negSucc n))]=>bif Nat.blt n 9223372036854775808 then some (.str (45::digs 20 (n+1))) else none
 | _=>none
def Zrx:List PV→Option PV
 | [.str s]=>bif Xi 18 s then (match Lib.atoi s with | some n=>some (.tup [.v (.int .i64 n),.v .nilIface]) | none=>none) else none
 | _=>none
def ixB(c:UInt8):List UInt8→Nat→Int
 | [],_=> -1
 | b::l,k=>bif Nat.beq b.toNat c.toNat then .ofNat k else ixB c l (k+1)
def Zg1:List PV→Option PV
 | [.str s,.v (.int .u8 c)]=>some (.v (.int .i64 (ixB c.toNat.toUInt8 s 0)))
 | _=>none
section
variable {P:Program}
theorem ZuP(c:UInt8):∀(l:List UInt8) (k:Nat),ixB c l k=if Lib.indexByte l c= -1 then -1 else Lib.indexByte l c+k
 | [],k=>rfl
 | b::l,k=>by
   unfold ixB Lib.indexByte
   cases hb:Nat.beq b.toNat c.toNat with
   | true=>
     have:b=c:=UInt8.toNat_inj.1 (Qj_ hb)
     subst this
     simp
   | false=>
     have hne:(b==c)=false:=by
      rw[KA_]
      intro e
      subst e
      simp at hb
     rw[hne,Qd_,ZuP c l (k+1)]
     have:=Lib.indexByte_ge l c
     by_cases h:Lib.indexByte l c= -1
     ·simp[h]
     ·have h1:(Lib.indexByte l c== -1)=false:=KA_.2 h
      rw[if_neg h,h1]
      simp only[K6_,Kx_]
      rw[if_neg (by omega)]
      omega
theorem Zxe{hw:Nat→Nat}{w:World}(hg:GlobOk hw w){x:Nat}{vs:List Value}(hx:lk x Zb7=some (vs.map PV.v)){name:String}(hn:P.globalNamed name=some x):w.var? P name=some vs.toArray:=by
 obtain ⟨hr,_,arr,t,fr,e,hs⟩:=hg x _ hx
 obtain ⟨k,base,hp,hc⟩:=ZeQ hr
 injection hp with hp
 injection hp with hp
 injection hp with e1 e2
 subst e1
 have hb:base=0:=by omega
 subst hb
 have:arr=vs.toArray:=by
  apply QW_
  apply List.ext_getElem?
  intro j
  by_cases hj:j < vs.length
  ·obtain ⟨v,h1,_,h3⟩:=hc j (.v vs[j]) (by simp[hj])
   simp only[World.cell?,e,QP_] at h1
   rw[Z7 (h3 rfl)] at h1
   simp only[QX_,Qg_ hj]
   exact h1
  ·have h1:arr.size≤j:=by rw[hs];simp;omega
   rw[Kf_ (by simpa using h1),Kf_ (by simpa using hj)]
 subst this
 simp only[World.var?,hn,Option.bind_some,e]
theorem Zj7{f:FuncId}(hx:∀args w,(callFunc f args).run P w=((Extern.BytealgIndexByte.indexByte args).run P w).andThen fun v w'=> .ok (.value v) w'):
 ∀args r,Zg1 args=some r→Con P f args r:=by
 intro args r hr
 unfold Zg1 at hr
 split at hr
 ·rename_i s c
  have:=Qa_ hr
  subst this
  intro hw w vals hl _ ha
  obtain ⟨v,u,rfl,h1,h2⟩:=Zfo ha
  rw[YD h1,Z7 h2]
  have e:ixB c.toNat.toUInt8 s 0=Lib.indexByte s c.toNat.toUInt8:=by
   rw[ZuP]
   split
   ·rename_i h;exact h.symm
   ·simp
  rw[e]
  refine .inl ⟨_,w, ?_,hw,Qt.refl hl,.v _ rfl⟩
  rw[hx]
  have:=Lib.run_indexByteString (P:=P) ⟨s.toArray⟩ c w
  rw[this]
  rfl
 ·cases hr
def Zj8(P:Program)(l:List (Nat×FloatKind)):Prop:=∀T k,lk T l=some k→P.underlying T=some (.float k)
theorem Zsx:Zj8 P []:=fun T k h=>by simp[lk] at h
theorem Zqz{T:TypeId}{k:FloatKind}{l:List (Nat×FloatKind)}(h:P.underlying T=some (.float k))(hr:Zj8 P l):Zj8 P ((T,k)::l):=fun T' k' h'=>by
 rw[Zn] at h'
 split at h'
 ·rename_i e
  have:=Qa_ h'
  subst this;subst e
  exact h
 ·exact hr T' k' h'
def ZuQ(P:Program)(l:List Nat):Prop:=∀T,has T l=true→∃ms,P.underlying T=some (.interface ms)
theorem Zsy:ZuQ P []:=fun T h=>by simp[has] at h
def ZyG(P:Program)(lib:Nat→List PV→Option PV):Prop:=∀f args r,lib f args=some r→Con P f args r
theorem ZuR:ZyG P (fun _ _=>none):=fun f args r h=>absurd h (by simp)
theorem Ju{f:FuncId}{args:List PV}{r:PV}(vals:List Value)(v:Value)(hv:∀hw w l,ArgsRep hw w l args→l=vals)(hr:∀hw w,Rep hw w v r)
 (hc:∀args w,(callFunc f args).run P w= .ok (.enter f args) w) (h:∀hw w,GlobOk hw w→Calls P f vals.toArray w fun e w'=>e= .returned v∧Below w.heap.size w w'):Con P f args r:=by
 intro hw w l hl hgl ha
 have:=hv hw w l ha
 subst this
 refine .inr ⟨f,hc _ _,(h hw w hgl).mono fun e w' ⟨he,hb⟩=>⟨v,he,fun k=>if k < w.heap.size then hw k else 0,⟨hb,fun k hk=>by simp[hk],fun k hk=>?_⟩,hr _ _⟩⟩
 have:=hb.size
 have:¬k < w.heap.size:=by omega
 simp[this]
theorem Z2B{hw:Nat→Nat}{w:World}{s:List UInt8}{l:List Value}(h:ArgsRep hw w l [.str s]):l=[.string ⟨s.toArray⟩]:=by
 obtain ⟨v,rfl,h1⟩:=Zfn h
 rw[YD h1]
theorem Z2C{hw:Nat→Nat}{w:World}{s c:List UInt8}{l:List Value}(h:ArgsRep hw w l [.str s,.str c]):l=[.string ⟨s.toArray⟩,.string ⟨c.toArray⟩]:=by
 obtain ⟨v,u,rfl,h1,h2⟩:=Zfo h
 rw[YD h1,YD h2]
theorem Z03{hw:Nat→Nat}{w:World}{x:Value}{l:List Value}(h:ArgsRep hw w l [.v x]):l=[x]:=by
 obtain ⟨v,rfl,h1⟩:=Zfn h
 rw[Z7 h1]
theorem ZzB{hw:Nat→Nat}{w:World}{s:List UInt8}{x:Value}{l:List Value}(h:ArgsRep hw w l [.str s,.v x]):l=[.string ⟨s.toArray⟩,x]:=by
 obtain ⟨v,u,rfl,h1,h2⟩:=Zfo h
 rw[YD h1,Z7 h2]
theorem ZhA(l:List UInt8):(⟨l.toArray⟩:ByteArray).size=l.length:=by show l.toArray.size=_;simp
theorem ZuS{c:List UInt8}(h:Zah c=true):∀(j:Nat) b,c[j]?=some b→b.toNat < 128:=fun j b hb=>by
 have:=QK_.1 h b (Qz_ hb)
 exact Qm_ this
theorem Zry{f:FuncId}{g:List UInt8→List UInt8→List UInt8}(hc:∀args w,(callFunc f args).run P w= .ok (.enter f args) w)
 (h:∀(s c:ByteArray) (w:World),s.size≤9223372036854775807→c.size < 4294967281→(∀(j:Nat) b,c.data.toList[j]?=some b→b.toNat < 128)→
   Calls P f #[.string s,.string c] w fun e w'=>e= .returned (.string ⟨(g s.data.toList c.data.toList).toArray⟩)∧Below w.heap.size w w') {s c:List UInt8}
 (hb:(Xi 4000000000 s&&Xi 4000000000 c&&Zah c)=true):Con P f [.str s,.str c] (.str (g s c)):=by
 simp only[Qh_] at hb
 obtain ⟨⟨h1,h2⟩,h3⟩:=hb
 have h1:=Qm_ h1
 have h2:=Qm_ h2
 exact Ju [.string ⟨s.toArray⟩,.string ⟨c.toArray⟩] (.string ⟨(g s c).toArray⟩) (fun _ _ _ ha=>Z2C ha) (fun _ _=> .str _) hc fun _ w _=>
  h ⟨s.toArray⟩ ⟨c.toArray⟩ w (by rw[ZhA];omega) (by rw[ZhA];omega) (by simpa using ZuS h3)
theorem Zsz{f:FuncId}(hc:∀args w,(callFunc f args).run P w= .ok (.enter f args) w)
 (h:∀(s c:ByteArray) (w:World),s.size≤9223372036854775807→c.size < 4294967281→(∀(j:Nat) b,c.data.toList[j]?=some b→b.toNat < 128)→
   Calls P f #[.string s,.string c] w fun e w'=>e= .returned (.string ⟨(Lib.trimS s.data.toList c.data.toList).toArray⟩)∧Below w.heap.size w w'):
 ∀args r,Zrw args=some r→Con P f args r:=by
 intro args r hr
 unfold Zrw at hr
 split at hr
 ·rename_i s c
  cases hb:(Xi 4000000000 s&&Xi 4000000000 c&&Zah c) with
  | false=>rw[hb] at hr;cases hr
  | true=>
    rw[hb] at hr
    have:=Qa_ hr
    subst this
    exact Zry hc h hb
 ·cases hr
theorem Zj9{f:FuncId}(hc:∀args w,(callFunc f args).run P w= .ok (.enter f args) w)
 (h:∀(s c:ByteArray) (w:World),s.size≤9223372036854775807→c.size < 4294967281→(∀(j:Nat) b,c.data.toList[j]?=some b→b.toNat < 128)→
   Calls P f #[.string s,.string c] w fun e w'=>e= .returned (.string ⟨(Lib.trimRightS s.data.toList c.data.toList).toArray⟩)∧Below w.heap.size w w'):
 ∀args r,Zg0 args=some r→Con P f args r:=by
 intro args r hr
 unfold Zg0 at hr
 split at hr
 ·rename_i s c
  cases hb:(Xi 4000000000 s&&Xi 4000000000 c&&Zah c) with
  | false=>rw[hb] at hr;cases hr
  | true=>
    rw[hb] at hr
    have:=Qa_ hr
    subst this
    exact Zry hc h hb
 ·cases hr
theorem Zor{f:FuncId}(hc:∀args w,(callFunc f args).run P w= .ok (.enter f args) w)
 (h:∀(s:ByteArray) (c:Nat) (w:World),c≤9223372036854775807→s.size *c≤140737488355328→
   Calls P f #[.string s,.int .i64 c] w fun e w'=>e= .returned (.string ⟨(Lib.repeatL s.data.toList c).toArray⟩)∧Below w.heap.size w w'):
 ∀args r,ZlX args=some r→Con P f args r:=by
 intro args r hr
 unfold ZlX at hr
 split at hr
 ·rename_i s n
  cases hb:(Nat.ble n 4000000000&&Nat.ble (s.length *n) 4000000000) with
  | false=>rw[hb] at hr;cases hr
  | true=>
    rw[hb] at hr
    have:=Qa_ hr
    subst this
    rw[Qh_] at hb
    have h1:=Qm_ hb.1
    have h2:=Qm_ hb.2
    exact Ju [.string ⟨s.toArray⟩,.int .i64 (.ofNat n)] (.string ⟨(Lib.repeatL s n).toArray⟩) (fun _ _ _ ha=>ZzB ha) (fun _ _=> .str _) hc fun _ w _=>
     h ⟨s.toArray⟩ n w (by omega) (by rw[ZhA];omega)
 ·cases hr
theorem Zll:∀(k u:Nat),u < 10 ^ k→0 < k→digs k u=Lib.decDigits u
 | 0,u,h,h0=>absurd h0 (by omega)
 | k+1,u,h,_=>by
   rw[Lib.decDigits]
   unfold digs
   by_cases hu:u < 10
   ·have:Nat.blt u 10=true:=QF_ hu
    rw[this,dif_pos hu]
    rfl
   ·have hf:Nat.blt u 10=false:=by
     cases hb:Nat.blt u 10 with
     | false=>rfl
     | true=>exact absurd (Qm_ hb) hu
    rw[hf,dif_neg hu]
    cases k with
    | zero=>simp at h;omega
    | succ k=>
      have:u / 10 < 10 ^ (k+1):=by
       rw[Nat.div_lt_iff_lt_mul (by omega)]
       rw[Nat.pow_succ] at h
       exact h
      rw[Zll (k+1) (u / 10) this (by omega)]
      rfl
theorem Zs0{f:FuncId}(hc:∀args w,(callFunc f args).run P w= .ok (.enter f args) w)
 (h:∀(n:Int) (hw:Nat→Nat) (w:World),-9223372036854775808≤n→n≤9223372036854775807→GlobOk hw w→
   Calls P f #[.int .i64 n] w fun e w'=>e= .returned (.string ⟨(Lib.itoa n).toArray⟩)∧Below w.heap.size w w'):
 ∀args r,Zlk args=some r→Con P f args r:=by
 intro args r hr
 unfold Zlk at hr
 split at hr
 ·rename_i n
  cases hb:Nat.blt n 9223372036854775808 with
  | false=>rw[hb] at hr;cases hr
  | true=>
    rw[hb] at hr
    have:=Qa_ hr
    subst this
    have h1:n < 9223372036854775808:=Qm_ hb
    have e:digs 20 n=Lib.itoa (.ofNat n):=by
     rw[Zll 20 n (by omega) (by omega)]
     simp[Lib.itoa]
    rw[e]
    exact Ju [.int .i64 (.ofNat n)] (.string ⟨(Lib.itoa (.ofNat n)).toArray⟩) (fun _ _ _ ha=>Z03 ha) (fun _ _=> .str _) hc fun hw w hg=>
     h (.ofNat n) hw w (Int.le_trans (by decide) (Int.natCast_nonneg n)) (show (n:Int)≤9223372036854775807 by omega) hg
 ·rename_i n
  cases hb:Nat.blt n 9223372036854775808 with
  | false=>rw[hb] at hr;cases hr
  | true=>
    rw[hb] at hr
    have:=Qa_ hr
    subst this
    have h1:n < 9223372036854775808:=Qm_ hb
    have e:45::digs 20 (n+1)=Lib.itoa (.negSucc n):=by
     rw[Zll 20 (n+1) (by omega) (by omega)]
     simp[Lib.itoa]
    rw[e]
    exact Ju [.int .i64 (.negSucc n)] (.string ⟨(Lib.itoa (.negSucc n)).toArray⟩) (fun _ _ _ ha=>Z03 ha) (fun _ _=> .str _) hc fun hw w hg=>
     h (.negSucc n) hw w (by omega) (by omega) hg
 ·cases hr
theorem Zs1{f:FuncId}(hc:∀args w,(callFunc f args).run P w= .ok (.enter f args) w)
 (h:∀(s:ByteArray) (n:Int) (w:World),s.size≤18→Lib.atoi s.data.toList=some n→
   Calls P f #[.string s] w fun e w'=>e= .returned (.tuple #[.int .i64 n,.nilIface])∧Below w.heap.size w w'):
 ∀args r,Zrx args=some r→Con P f args r:=by
 intro args r hr
 unfold Zrx at hr
 split at hr
 ·rename_i s
  cases hb:Xi 18 s with
  | false=>rw[hb] at hr;cases hr
  | true=>
    rw[hb] at hr
    simp only[Qb_] at hr
    split at hr
    ·rename_i n hn
     have:=Qa_ hr
     subst this
     refine Ju [.string ⟨s.toArray⟩] (.tuple #[.int .i64 n,.nilIface]) (fun _ _ _ ha=>Z2B ha) (fun _ _=>?_) hc fun _ w _=>
      h ⟨s.toArray⟩ n w (by rw[ZhA];exact Qm_ hb) hn
     exact .tup [.int .i64 n,.nilIface] _ rfl fun j x y hx hy=>by
      cases j with
      | zero=>cases hx;cases hy;exact .v _ rfl
      | succ j=>cases j with
        | zero=>cases hx;cases hy;exact .v _ rfl
        | succ j=>simp at hx
    ·cases hr
 ·cases hr
end
section
variable {P:Program}{W:World}
theorem Zi6:∀{l:List (String×DataW Unit)},(∃ps,DataW.LaidVars P W l ps)→∀{n:String} {d:DataW Unit},(n,d)∈l→
 ∃g t cs fuel p,P.globalNamed n=some g∧(P.globals[g]?).map (·.type)=some t∧W.var? P n=some cs∧DataW.trod (fun _=>()) P W 0 (fun _=>true) false fuel t cs.toList=some (d,p)
 | [],_,n,d,hm=>by simp at hm
 | (n0,d0)::r,⟨ps,h⟩,n,d,hm=>by
   obtain ⟨g',t',cs,fuel,p,q,hg',ht',hvar,hd,hr,_⟩:=h
   rcases Q9_.1 hm with e | hm
   ·cases e
    exact ⟨g',t',cs,fuel,p,hg',ht',hvar,hd⟩
   ·exact Zi6 ⟨q,hr⟩ hm
theorem Zlm{w:World}{sp:Nat→Bool}{fuel:Nat}{t e:TypeId}{n:Nat}{cs:List Value}{zs:List (List UInt8)}{p:List MemPlace}
 (ht:P.underlying t=some (.array n e)) (he:P.underlying e=some .string) (hce:P.cellsOf e=1) (hct:P.cellsOf t=n)
 (h:DataW.trod (fun _=>()) P w 0 sp false fuel t cs=some (.agg (zs.map fun z=> .lit (.string z)),p)):cs=zs.map fun z=>Value.string ⟨z.toArray⟩:=by
 cases fuel with
 | zero=>simp[DataW.trod] at h
 | succ fuel=>
   simp only[DataW.trod,ht,hce,hct,Nat.mul_one] at h
   split at h
   ·rename_i hl
    obtain ⟨xs,hm,hx⟩:=Option.map_eq_some_iff.1 h
    have hxs:xs.map (·.1)=zs.map fun z=>(DataW.lit (.string z):DataW Unit):=by
     have:=Kk_ Prod.fst hx
     simpa using this
    have hxl:xs.length=n:=by simpa using Lib.mapM_length hm
    have hzl:zs.length=n:=by
     have:=Kk_ List.length hxs
     simp at this
     omega
    apply List.ext_getElem?
    intro i
    by_cases hi:i < n
    ·obtain ⟨b,hb,hf⟩:=Lib.mapM_at hm i i (by simp[hi])
     obtain ⟨s,hc,rfl,_⟩:=DataW.trod_string he hf
     have h1:cs[i]?=some (.string s):=by
      have:=Kk_ (·[0]?) hc
      simpa [Kl_,Kd_] using this
     have h2:(xs.map (·.1))[i]?=some (DataW.lit (.string s.data.toList):DataW Unit):=by simp[hb]
     rw[hxs] at h2
     simp only[Q6_,Option.map_eq_some_iff,DataW.lit.injEq,Lit.string.injEq] at h2
     obtain ⟨z',hz',e'⟩:=h2
     have:s=⟨z'.toArray⟩:=by
      obtain ⟨⟨l⟩⟩:=s
      simp at e'
      rw[e']
     rw[h1,Q6_,hz',this]
     rfl
    ·rw[Kf_ (by omega),Kf_ (by simp;omega)]
   ·cases h
theorem Zg2{n:String}{g:Nat}{cs:Array Value}(hg:P.globalNamed n=some g)(h:W.var? P n=some cs):∃t fr,W.heap[g]?=some (.cells cs t fr):=by
 simp only[World.var?,hg,Option.bind_some] at h
 split at h
 ·rename_i c t fr hc
  cases h
  exact ⟨t,fr,hc⟩
 ·cases h
theorem Zos{l:List (String×DataW Unit)}(h:∃ps,DataW.LaidVars P W l ps){n:String}{k:IntKind}{zs:List Int}(hm:(n,Lib.tabData k zs)∈l){g:Nat}{t e:TypeId}{m:Nat}
 (hg:P.globalNamed n=some g) (hty:(P.globals[g]?).map (·.type)=some t) (ht:P.underlying t=some (.array m e)) (he:P.underlying e=some (.int k)) (hce:P.cellsOf e=1) (hct:P.cellsOf t=m):
 ∃t fr,W.heap[g]?=some (.cells (zs.map fun z=>Value.int k z).toArray t fr):=by
 obtain ⟨g',t',cs,fuel,p,hg',ht',hvar,hd⟩:=Zi6 h hm
 obtain rfl:=Qa_ (hg.symm.trans hg')
 obtain rfl:=Qa_ (hty.symm.trans ht')
 have:=Lib.cells_of_tab ht he hce hct hd
 have e2:cs=(zs.map fun z=>Value.int k z).toArray:=by
  apply QW_
  simpa using this
 subst e2
 exact Zg2 hg hvar
theorem Zm8{l:List (String×DataW Unit)}(h:∃ps,DataW.LaidVars P W l ps){n:String}{zs:List (List UInt8)}(hm:(n,(.agg (zs.map fun z=> .lit (.string z)):DataW Unit))∈l){g:Nat}{t e:TypeId}{m:Nat}
 (hg:P.globalNamed n=some g) (hty:(P.globals[g]?).map (·.type)=some t) (ht:P.underlying t=some (.array m e)) (he:P.underlying e=some .string) (hce:P.cellsOf e=1) (hct:P.cellsOf t=m):
 ∃t fr,W.heap[g]?=some (.cells (zs.map fun z=>Value.string ⟨z.toArray⟩).toArray t fr):=by
 obtain ⟨g',t',cs,fuel,p,hg',ht',hvar,hd⟩:=Zi6 h hm
 obtain rfl:=Qa_ (hg.symm.trans hg')
 obtain rfl:=Qa_ (hty.symm.trans ht')
 have:=Zlm ht he hce hct hd
 have e2:cs=(zs.map fun z=>Value.string ⟨z.toArray⟩).toArray:=by
  apply QW_
  simpa using this
 subst e2
 exact Zg2 hg hvar
end
open Go Go.Shelf Go.Proofs
section
variable {P:Program}{ρ:Ren}
theorem ZzC(L:Lays.n240 P ρ)(X:Builder.X72 P ρ)(he:ρ.t 72=ZaI)(hc:∀args w,(callFunc (ρ.f 240) args).run P w= .ok (.enter (ρ.f 240) args) w):CCOk P (ρ.f 240):=
 ⟨hc,fun b w h0 hs hf=>Any.Builder_copyCheck_fresh L X b w h0 (by rw[he];exact hs) hf,fun b w h0=>Any.Builder_copyCheck_used L X b w h0⟩
set_option maxHeartbeats 1000000 in
set_option maxRecDepth 100000 in
theorem ZuT(L:Lays.n169 P ρ)(X:Builder.Extra P ρ)(b g cap cells:Nat)(l:List UInt8)(w:World)(c0:w.cell? ⟨b,1,none⟩=some (.slice (some ⟨g,0,none⟩) l.length cap))(hsh:w.shape? g=some (ρ.t 5,cells))(h0:l≠[])(hnc:l.length≤cap)(hn:l.length≤cells)(hm:l.length≤maxLen)
 (hcell:∀(j:Nat) (x:UInt8),l[j]?=some x→w.cell? ⟨g,j,none⟩=some (.int .u8 x.toNat)):
 Calls P (ρ.f 169) #[.pointer (some ⟨b,0,none⟩)] w fun e w'=>e= .returned (.string ⟨l.toArray⟩)∧w'=w.drew.freeze ⟨g,0,none⟩ l.length:=by
 have hl0:l.length≠0:=by simpa using h0
 have c1:w.drew.cell? ⟨b,1,none⟩=some (.slice (some ⟨g,0,none⟩) l.length cap):=c0
 have hSD:(Builtin.unsafeSliceData_ #[(ρ.t 37)] (ρ.t 127) #[.slice (some ⟨g,0,none⟩) l.length cap]).run P w.drew= .ok (.pointer (some ⟨g,0,none⟩)) w.drew:=
  Lib.run_unsafeSliceData_row _ _ _ _ _ _ (by omega)
 have hUS:(Builtin.unsafeString_ #[(ρ.t 127),(ρ.t 3)] (ρ.t 9) #[.pointer (some ⟨g,0,none⟩),.int .i64 l.length]).run P w.drew= .ok (.string ⟨l.toArray⟩) (w.drew.freeze ⟨g,0,none⟩ l.length):=by
  refine Lib.run_unsafeString_row w.drew (ρ.t 127) (ρ.t 3) (ρ.t 9) (ρ.t 5) L.t127 X.cellsByte g cells hsh l h0 hn (by unfold maxLen at hm;omega) ?_
  intro j x hx
  rw[Addr.add_lit,QP_]
  exact hcell j x hx
 have mixed:=L.mixed
 have t72:=L.t72;have a72:=L.a72;have z72:=L.z72;have v72:=L.v72;have u72:=run_underlying L.t72
 have t70:=L.t70;have a70:=L.a70;have z70:=L.z70;have v70:=L.v70;have u70:=run_underlying L.t70
 have t37:=L.t37;have a37:=L.a37;have z37:=L.z37;have v37:=L.v37;have u37:=run_underlying L.t37
 have t127:=L.t127;have a127:=L.a127;have z127:=L.z127;have v127:=L.v127;have u127:=run_underlying L.t127
 have t3:=L.t3;have a3:=L.a3;have z3:=L.z3;have v3:=L.v3;have u3:=run_underlying L.t3
 have t9:=L.t9;have a9:=L.a9;have z9:=L.z9;have v9:=L.v9;have u9:=run_underlying L.t9
 have t5:=X.t5;have a5:=X.a5;have z5:=X.z5;have v5:=X.v5;have u5:=run_underlying X.t5
 go_enter L.f169,Body.n169_ntmps ρ
 go_wp2
 go_region_o
 all_goals (go_wp2;go_ret;exact ⟨rfl,rfl⟩)
set_option maxHeartbeats 2000000 in
set_option maxRecDepth 100000 in
theorem ZuU(L:Lays.n169 P ρ)(X:Builder.Extra P ρ)(b:Nat)(w:World)(c0:w.cell? ⟨b,1,none⟩=some (.slice none 0 0)):
 Calls P (ρ.f 169) #[.pointer (some ⟨b,0,none⟩)] w fun e w'=>e= .returned (.string ⟨#[]⟩)∧w'=w.drew:=by
 have hUS:=Any.unsafeString_none L X
 have c1:w.drew.cell? ⟨b,1,none⟩=some (.slice none 0 0):=c0
 have hSD:(Builtin.unsafeSliceData_ #[(ρ.t 37)] (ρ.t 127) #[.slice none 0 0]).run P w.drew= .ok (.pointer none) w.drew:=rfl
 have mixed:=L.mixed
 have t72:=L.t72;have a72:=L.a72;have z72:=L.z72;have v72:=L.v72;have u72:=run_underlying L.t72
 have t70:=L.t70;have a70:=L.a70;have z70:=L.z70;have v70:=L.v70;have u70:=run_underlying L.t70
 have t37:=L.t37;have a37:=L.a37;have z37:=L.z37;have v37:=L.v37;have u37:=run_underlying L.t37
 have t127:=L.t127;have a127:=L.a127;have z127:=L.z127;have v127:=L.v127;have u127:=run_underlying L.t127
 have t3:=L.t3;have a3:=L.a3;have z3:=L.z3;have v3:=L.v3;have u3:=run_underlying L.t3
 have t9:=L.t9;have a9:=L.a9;have z9:=L.z9;have v9:=L.v9;have u9:=run_underlying L.t9
 have t5:=X.t5;have a5:=X.a5;have z5:=X.z5;have v5:=X.v5;have u5:=run_underlying X.t5
 go_enter L.f169,Body.n169_ntmps ρ
 go_wp2
 go_region_o
 all_goals (go_wp2;go_ret;exact ⟨rfl,rfl⟩)
theorem ZuV(L:Lays.n169 P ρ)(X:Builder.Extra P ρ)(hc:∀args w,(callFunc (ρ.f 169) args).run P w= .ok (.enter (ρ.f 169) args) w):Zgp P (ρ.f 169) (ρ.t 5)∧∃i,P.info? (ρ.t 5)=some i∧i.size=1:=by
 obtain ⟨i0,hi,_,hz1,_⟩:=info_parts X.infoByte
 exact ⟨⟨hc,ZuT L X,ZuU L X⟩,i0,hi,hz1⟩
def ZmV(P:Program)(l:List Nat):Prop:=∀f,has f l=true→CCOk P f
theorem ZuW:ZmV P []:=fun f h=>by simp[has] at h
theorem Zs2{f:Nat}{l:List Nat}(h:CCOk P f)(hr:ZmV P l):ZmV P (f::l):=fun f' h'=>by
 rcases Q9_.1 (YW.1 h') with e | hm
 ·rw[e];exact h
 ·exact hr f' (YW.2 hm)
def ZhB(P:Program)(l:List (Nat×Nat)):Prop:=∀f e,lk f l=some e→Zgp P f e∧∃i,P.info? e=some i∧i.size=1
theorem Zq0:ZhB P []:=fun f e h=>by simp[lk] at h
theorem Zot{f e:Nat}{l:List (Nat×Nat)}(h:Zgp P f e∧∃i,P.info? e=some i∧i.size=1)(hr:ZhB P l):ZhB P ((f,e)::l):=fun f' e' h'=>by
 rw[Zn] at h'
 split at h'
 ·rename_i hf
  have:=Qa_ h'
  subst this;subst hf
  exact h
 ·exact hr f' e' h'
end
end Go.Ev
namespace Go.Ev
open Go.RowKit
section
variable {P:Program}
end
end Go.Ev
