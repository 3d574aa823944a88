/- A logic of frames, its evaluator for values known in part, and what the functions that the law reaches are shown to do: written for this claim. Part B. -/
import Derived.Test.YtfeldacghdcghaaGreatDoorFtA
import Derived.Laws.StructEq
import Derived.Laws.MakeOwn
import Derived.Laws.Cover2
import Derived.Laws.IdiomStrings
import Derived.Lib.AppendStr
import Derived.ProofKit
import Derived.OpenShut
import Derived.ChangeKeysEq
import Derived.Lib.SlTrimSet
import Derived.Lib.Repeat
import Derived.Lib.ItoaNum
import Derived.Lib.Atoi
import Derived.Lib.Bytealg
import Derived.Laws.StandIn
import Derived.Lib.LaidTab
import Derived.Deep.DeepHandedRow
import Derived.Shelf.Strings.Builder1
set_option linter.all false
set_option maxRecDepth 100000
namespace Go.Ev
open Go.RowKit
def Zrn(m:Nat):Nat→Bool
 | 0=>true
 | i+1=>bit m i&&Zrn m i
def Wi(cls:List Nat):Nat→Nat
 | 0=>0
 | n+1=>bif Zrn (Yq cls n) n then Wi cls n else n+1
def ZfO:List Oper→Nat→Bool
 | [],_=>true
 | o::r,j=>(deps o).all (fun i=>Nat.blt i j)&&ZfO r (j+1)
def Xh:List Oper→List Nat
 | []=>[]
 | o::r=>match o.dst with
   | some d=>d::Xh r
   | none=>Xh r
def Zbv:List Oper→List Nat
 | []=>[]
 | o::r=>match o.op with
   | .store _ _ (.tmp t)=>t::Zbv r
   | _=>Zbv r
def ZcI:List Nat→Bool
 | []=>true
 | x::r=> !(has x r)&&ZcI r
def Z0U(cls:List Nat)(ws:List (Nat×Nat)):Bool:=
 ws.all fun (s,b)=>ws.all fun (s',b')=> !(Nat.beq b b')|| !(Nat.blt s s')||bit (Yq cls s') s
def Zvg:List En→List (Nat×AV)→List (Nat×AV)
 | [],l=>l
 | e::r,l=>match e.tm with
   | some x=>x::Zvg r l
   | none=>Zvg r l
def Zro:List En→List (Nat×List PV)→List (Nat×List PV)
 | [],l=>l
 | e::r,l=>match e.bx with
   | some x=>x::Zro r l
   | none=>Zro r l
def Zvh:List En→List (Nat×Loc)→List (Nat×Loc)
 | [],l=>l
 | e::r,l=>match e.ln with
   | some x=>x::Zvh r l
   | none=>Zvh r l
def Zhb(β:St)(A:List En):St:={β with tmps:=Zvg A β.tmps,boxes:=Zro A β.boxes,al:=Zvh A β.al}
def tails(T:Nat→St→Oper→Option St)(ops:List Oper):List Oper→Nat→St→Option St
 | [],_,σ=>some σ
 | o::r,j,σ=>match Zco σ ops o with
   | some true=>match T j σ o with
     | some σ1=>tails T ops r (j+1) σ1
     | none=>none
   | some false=>match o.dst with
     | some d=>tails T ops r (j+1) (Zfn σ d)
     | none=>tails T ops r (j+1) σ
   | none=>none
def ZoI(Γ:List (Nat×Ty))(R:Nat→St→Oper→Option Res)(T:Nat→St→Oper→Option St)(ops:List Oper)(σ:St)(ws:List (Nat×Nat)):Option St:=
 let cls:=Zea ops []
 let k:=Wi cls ops.length
 let fr:=ops.take k
 let D:=Xh fr
 let Src:=Zbv fr
 bif ZfO ops 0&&ZcI D&&Z0U cls ws then
  match frees Γ R ops cls ws D Src (ZcH D Src ws σ) fr 0 [] with
  | some A=>tails T ops (ops.drop k) k (Zhb (ZcH D Src ws σ) A)
  | none=>none
 else none
section
variable {P:Program}{B:Nat}{g:G}{σ β ρ τ:St}{a:Act}{w:World}
theorem ZfP(x y i:Nat):bit (Nat.lor x y) i=(bit x i||bit y i):=Nat.testBit_or x y i
theorem ZiV(i:Nat):bit 0 i=false:=Nat.zero_testBit i
theorem ZzY{j i:Nat}(h:bit (Nat.shiftLeft 1 j) i=true):i=j:=by
 have:Nat.testBit (1 <<< j) i=true:=h
 rw[Nat.testBit_shiftLeft] at this
 simp only[Qh_,Qc_] at this
 obtain ⟨h1,h2⟩:=this
 have:=Nat.testBit_one_eq_true_iff_self_eq_zero.1 h2
 omega
theorem Zvi{acc:List Nat}{i:Nat}:∀{ds:List Nat},bit (Zrm acc ds) i=true→∃d∈ds,i=d∨bit (Yq acc d) i=true
 | [],h=>by rw[show Zrm acc []=0 from rfl,ZiV] at h;cases h
 | d::r,h=>by
   unfold Zrm at h
   rw[ZfP,ZfP,Kp_,Kp_] at h
   rcases h with (h | h) | h
   ·exact ⟨d,by simp,.inl (ZzY h)⟩
   ·exact ⟨d,by simp,.inr h⟩
   ·obtain ⟨d',h1,h2⟩:=Zvi h
    exact ⟨d',Qq_ _ h1,h2⟩
theorem Znt(x:Nat):∀(acc:List Nat) (i:Nat),Yq (acc++[x]) i=if i < acc.length then Yq acc i else if i=acc.length then x else 0
 | [],0=>rfl
 | [],i+1=>by simp[Yq]
 | y::r,0=>by simp[Yq]
 | y::r,i+1=>by simp[Yq,Znt x r i]
theorem ZzZ:∀(acc:List Nat) (i:Nat),acc.length≤i→Yq acc i=0
 | [],_,_=>rfl
 | _::r,0,h=>by simp at h
 | _::r,i+1,h=>ZzZ r i (by simpa using h)
theorem ZoJ{S:Nat→Prop}{ops:List Oper}(hS:∀j o,ops[j]?=some o→S j→∀i∈deps o,S i):∀(l:List Oper) (acc:List Nat) (pre:List Oper),ops=pre++l→acc.length=pre.length→
 (∀j o,pre[j]?=some o→(∀i∈deps o,S i)→∀i,bit (Yq acc j) i=true→S i)→∀j o,ops[j]?=some o→(∀i∈deps o,S i)→∀i,bit (Yq (Zea l acc) j) i=true→S i
 | [],acc,pre,he,_,hp,j,o,ho,hd,i,hi=>hp j o (by simpa [he] using ho) hd i hi
 | o0::l,acc,pre,he,hl,hp,j,o,ho,hd,i,hi=>by
   refine ZoJ hS l (acc++[Zrm acc (deps o0)]) (pre++[o0]) (by simp[he]) (by simp[hl]) (fun j' o' ho' hd' i' hi'=>?_) j o ho hd i hi
   rw[Znt] at hi'
   split at hi'
   ·rename_i hlt
    rw[QV_ (by omega)] at ho'
    exact hp j' o' ho' hd' i' hi'
   ·split at hi'
    ·rename_i _ e
     have:(pre++[o0])[j']?=some o0:=by rw[e,hl];simp
     rw[this] at ho'
     have:=Qa_ ho'
     subst this
     obtain ⟨d,h1,h2⟩:=Zvi hi'
     have hSd:=hd' d h1
     rcases h2 with rfl | h2
     ·exact hSd
     ·by_cases hdl:d < acc.length
      ·have hpd:pre[d]?=some pre[d]:=Qg_ (by omega)
       exact hp d _ hpd (hS d pre[d] (by rw[he,QV_ (by omega)];exact hpd) hSd) i' h2
      ·rw[ZzZ _ _ (by omega),ZiV] at h2
       cases h2
    ·rw[ZiV] at hi';cases hi'
theorem Zvj{m:Nat}:∀{j:Nat},Zrn m j=true→∀i,i < j→bit m i=true
 | 0,_,i,h=>by omega
 | j+1,h,i,hi=>by
   unfold Zrn at h
   rw[Qh_] at h
   by_cases e:i=j
   ·rw[e];exact h.1
   ·exact Zvj h.2 i (by omega)
theorem Znu{cls:List Nat}:∀{n:Nat},Wi cls n≤n
 | 0=>Q2_ _
 | n+1=>by
   unfold Wi
   cases Zrn (Yq cls n) n with
   | true=>exact Nat.le_succ_of_le Znu
   | false=>exact Q2_ _
theorem ZcJ{cls:List Nat}:∀{n:Nat},∀j,Wi cls n≤j→j < n→∀i,i < j→bit (Yq cls j) i=true
 | 0,j,_,h=>by omega
 | n+1,j,hk,hj=>by
   unfold Wi at hk
   cases hb:Zrn (Yq cls n) n with
   | true=>
     rw[hb] at hk
     by_cases e:j=n
     ·subst e;exact Zvj hb
     ·exact ZcJ j hk (by omega)
   | false=>
     rw[hb] at hk
     simp only[Qd_] at hk
     omega
theorem ZoK:∀{l:List Oper} {k:Nat},ZfO l k=true→∀j o,l[j]?=some o→∀i∈deps o,i < k+j
 | [],_,_,j,o,h=>by simp at h
 | o0::r,k,h,j,o,ho=>by
   unfold ZfO at h
   rw[Qh_] at h
   cases j with
   | zero=>
     simp at ho
     subst ho
     intro i hi
     exact Qm_ (QK_.1 h.1 i hi)
   | succ j=>
     intro i hi
     have:=ZoK h.2 j o (by simpa using ho) i hi
     omega
theorem ZiW{d:Nat}:∀{l:List Oper} {j:Nat} {o:Oper},l[j]?=some o→o.dst=some d→d∈Xh l
 | [],j,o,h,_=>by simp at h
 | o0::r,j,o,h,hd=>by
   unfold Xh
   cases j with
   | zero=>
     simp at h
     subst h
     rw[hd]
     simp
   | succ j=>
     have:=ZiW (l:=r) (j:=j) (by simpa using h) hd
     split
     ·exact Qq_ _ this
     ·exact this
theorem Zvk{d:Nat}:∀{l:List Oper},ZcI (Xh l)=true→∀{i j:Nat} {o o':Oper},l[i]?=some o→l[j]?=some o'→o.dst=some d→o'.dst=some d→i=j
 | [],_,i,j,o,o',h,_,_,_=>by simp at h
 | o0::r,hn,i,j,o,o',h,h',hd,hd'=>by
   unfold Xh at hn
   have tl:ZcI (Xh r)=true:=by
    split at hn
    ·unfold ZcI at hn;rw[Qh_] at hn;exact hn.2
    ·exact hn
   have hd0:o0.dst=some d→d∉Xh r:=by
    intro e hm
    rw[e] at hn
    simp only[ZcI,Qh_,Qi_] at hn
    rw[YY.2 hm] at hn
    exact absurd hn.1 (by simp)
   cases i with
   | zero=>
     cases j with
     | zero=>rfl
     | succ j=>
       simp at h
       subst h
       exact absurd (ZiW (l:=r) (j:=j) (by simpa using h') hd') (hd0 hd)
   | succ i=>
     cases j with
     | zero=>
       simp at h'
       subst h'
       exact absurd (ZiW (l:=r) (j:=i) (by simpa using h) hd) (hd0 hd')
     | succ j=>
       have e:i=j:=Zvk tl (by simpa using h) (by simpa using h') hd hd'
       rw[e]
theorem Zsw{Γ:List (Nat×Ty)}{R:Nat→St→Oper→Option Res}{ops:List Oper}{cls:List Nat}{ws:List (Nat×Nat)}{D Src:List Nat}{A:List En}{j:Nat}{o:Oper}{e:En}
 (h:Ze0 Γ R ops cls ws D Src β A j o=some e):e.i=j∧(∀t v,e.tm=some (t,v)→o.dst=some t)∧(∀t l,e.ln=some (t,l)→o.dst=some t∧Xo D ws l=true)∧∀b cs,e.bx=some (b,cs)→(j,b)∈ws:=by
 have lnok:∀{d:Nat} {x:Option Loc} {t:Nat} {l:Loc},Zbo D ws d x=some (t,l)→t=d∧Xo D ws l=true:=by
  intro d x t l hl
  cases x with
  | none=>exact absurd hl (by simp[Zbo])
  | some l'=>
    simp only[Zbo] at hl
    cases hk:Xo D ws l' with
    | false=>rw[hk] at hl;cases hl
    | true=>
      rw[hk] at hl
      have:=Qa_ hl
      cases this
      exact ⟨rfl,hk⟩
 have nil:(⟨j,none,none,none⟩:En).i=j∧(∀t v,(⟨j,none,none,none⟩:En).tm=some (t,v)→o.dst=some t)∧(∀t l,(⟨j,none,none,none⟩:En).ln=some (t,l)→o.dst=some t∧Xo D ws l=true)∧∀b cs,(⟨j,none,none,none⟩:En).bx=some (b,cs)→(j,b)∈ws:=
  ⟨rfl,fun _ _ h=>absurd h (by simp),fun _ _ h=>absurd h (by simp),fun _ _ h=>absurd h (by simp)⟩
 unfold Ze0 at h
 simp only at h
 split at h
 ·cases h
 ·have:=Qa_ h
  subst this
  refine ⟨rfl,fun t v hv=>?_,fun _ _ h=>absurd h (by simp),fun _ _ h=>absurd h (by simp)⟩
  cases hd:o.dst with
  | none=>rw[hd] at hv;exact absurd hv (by simp[skE])
  | some d=>
    rw[hd] at hv
    simp only[skE] at hv
    revert hv
    cases Nat.blt d (tau ws cls A β j (Yq cls j) (ZfD ops o)).n with
    | false=>exact fun hv=>absurd hv (by simp)
    | true=>exact fun hv=>by cases Qa_ hv;rfl
 ·split at h
  ·split at h
   ·split at h
    ·rename_i b cs l hbx
     cases hb:(Zbn j b ws&&ZoF Src _) with
     | false=>rw[hb] at h;cases h
     | true=>
       rw[hb] at h
       have:=Qa_ h
       subst this
       rw[Qh_] at hb
       exact ⟨rfl,fun _ _ h=>absurd h (by simp),fun _ _ h=>absurd h (by simp),fun b' cs' h'=>by have:=Qa_ h';cases this;exact ZdG.1 hb.1⟩
    ·cases h
   ·cases h
  ·rename_i d hd
   split at h
   ·rename_i r hr
    split at h
    ·have:=Qa_ h
     subst this
     exact ⟨rfl,fun t v ht=>by have:=Qa_ ht;cases this;exact hd,fun t l hl=>by obtain ⟨rfl,h2⟩:=lnok hl;exact ⟨hd,h2⟩,fun _ _ h=>absurd h (by simp)⟩
    ·rename_i cs hbx
     cases hb:(Zbn j d ws&&Y8 (lk d β.boxes)&&ws.all (fun (s,b)=> !(Nat.beq b d)||Nat.ble j s)) with
     | false=>rw[hb] at h;cases h
     | true=>
       rw[hb] at h
       have:=Qa_ h
       subst this
       simp only[Qh_] at hb
       exact ⟨rfl,fun t v ht=>by have:=Qa_ ht;cases this;exact hd,fun t l hl=>by obtain ⟨rfl,h2⟩:=lnok hl;exact ⟨hd,h2⟩,fun b' cs' h'=>by have:=Qa_ h';cases this;exact ZdG.1 hb.1.1⟩
   ·cases h
  ·split at h
   ·rename_i r hr
    cases hb:Y8 r.box with
    | false=>rw[hb] at h;cases h
    | true=>rw[hb] at h;have:=Qa_ h;subst this;exact nil
   ·cases h
theorem Zsx{Γ:List (Nat×Ty)}{R:Nat→St→Oper→Option Res}{ops:List Oper}{cls:List Nat}{ws:List (Nat×Nat)}{D Src:List Nat}:∀{l:List Oper} {j0:Nat} {A0 A:List En},frees Γ R ops cls ws D Src β l j0 A0=some A→
 Desc A0→(∀e∈A0,e.i < j0)→Desc A∧(∀e∈A0,e∈A)∧(∀e∈A,e∈A0∨(j0≤e.i∧∃o,l[e.i - j0]?=some o))∧
  ∀j o,l[j]?=some o→∃e∈A,e.i=j0+j∧∃A',Ze0 Γ R ops cls ws D Src β A' (j0+j) o=some e∧Desc A'∧(∀e'∈A',e'∈A)∧∀e'∈A,e'.i < j0+j→e'∈A'
 | [],j0,A0,A,h,hd,hi=>by
   have:=Qa_ h
   subst this
   exact ⟨hd,fun _ h=>h,fun e he=> .inl he,fun j o h=>by simp at h⟩
 | o::r,j0,A0,A,h,hd,hi=>by
   unfold frees at h
   split at h
   ·rename_i e he
    have hej:=(Zsw he).1
    obtain ⟨h1,h2,h3,h4⟩:=Zsx h (A0:=e::A0) ⟨fun e' he'=>by rw[hej];exact hi e' he',hd⟩ (fun e' he'=>by
     rcases Q9_.1 he' with rfl | he'
     ·omega
     ·have:=hi e' he';omega)
    refine ⟨h1,fun e' he'=>h2 e' (Qq_ _ he'),fun e' he'=>?_,fun j o' ho'=>?_⟩
    ·rcases h3 e' he' with h5 | ⟨h5,o2,h6⟩
     ·rcases Q9_.1 h5 with rfl | h5
      ·exact .inr ⟨by omega,o,by simp[hej]⟩
      ·exact .inl h5
     ·refine .inr ⟨by omega,o2, ?_⟩
      rw[show e'.i - j0=(e'.i - (j0+1))+1 by omega]
      simpa using h6
    ·cases j with
     | zero=>
       simp at ho'
       subst ho'
       refine ⟨e,h2 e (by simp),hej,A0,he,hd,fun e' he'=>h2 e' (Qq_ _ he'),fun e' he' hlt=>?_⟩
       rcases h3 e' he' with h5 | ⟨h5,_⟩
       ·rcases Q9_.1 h5 with rfl | h5
        ·omega
        ·exact h5
       ·omega
     | succ j=>
       obtain ⟨e2,q1,q2,A',q3,q4,q5,q6⟩:=h4 j o' (by simpa using ho')
       have ee:j0+1+j=j0+(j+1):=by omega
       rw[ee] at q2 q3 q6
       exact ⟨e2,q1,q2,A',q3,q4,q5,q6⟩
   ·cases h
theorem Desc.uniq:∀{A:List En},Desc A→∀{e e':En},e∈A→e'∈A→e.i=e'.i→e=e'
 | [],_,e,e',h,_,_=>by simp at h
 | x::r,hd,e,e',h,h',hi=>by
   rcases Q9_.1 h with h1 | h1
   ·rcases Q9_.1 h' with h2 | h2
    ·rw[h1,h2]
    ·have:=hd.1 e' h2;rw[h1] at hi;omega
   ·rcases Q9_.1 h' with h2 | h2
    ·have:=hd.1 e h1;rw[h2] at hi;omega
    ·exact hd.2.uniq h1 h2 hi
theorem Z6U{A:List En}{l:List (Nat×AV)}{t:Nat}{v:AV}(h:lk t (Zvg A l)=some v):(∃e∈A,e.tm=some (t,v))∨lk t l=some v:=by
 induction A with
 | nil=>exact .inr h
 | cons e r ih=>
   unfold Zvg at h
   split at h
   ·rename_i x hx
    obtain ⟨t',v'⟩:=x
    rw[Zq] at h
    split at h
    ·rename_i e1
     have:=Qa_ h
     subst this;subst e1
     exact .inl ⟨e,by simp,hx⟩
    ·rcases ih h with ⟨e',h1,h2⟩ | h1
     ·exact .inl ⟨e',Qq_ _ h1,h2⟩
     ·exact .inr h1
   ·rcases ih h with ⟨e',h1,h2⟩ | h1
    ·exact .inl ⟨e',Qq_ _ h1,h2⟩
    ·exact .inr h1
theorem Z6V{A:List En}{l:List (Nat×Loc)}{x:Nat×Loc}(h:x∈Zvh A l):(∃e∈A,e.ln=some x)∨x∈l:=by
 induction A with
 | nil=>exact .inr h
 | cons e r ih=>
   unfold Zvh at h
   split at h
   ·rename_i y hy
    rcases Q9_.1 h with rfl | h
    ·exact .inl ⟨e,by simp,hy⟩
    ·rcases ih h with ⟨e',h1,h2⟩ | h1
     ·exact .inl ⟨e',Qq_ _ h1,h2⟩
     ·exact .inr h1
   ·rcases ih h with ⟨e',h1,h2⟩ | h1
    ·exact .inl ⟨e',Qq_ _ h1,h2⟩
    ·exact .inr h1
theorem Z6W{A:List En}{l:List (Nat×List PV)}{b:Nat}(hd:Desc A):(∃e∈A,∃cs,e.bx=some (b,cs)∧lk b (Zro A l)=some cs∧∀e'∈A,∀cs',e'.bx=some (b,cs')→e'.i≤e.i)∨((∀e∈A,∀cs,e.bx≠some (b,cs))∧lk b (Zro A l)=lk b l):=by
 induction A with
 | nil=>exact .inr ⟨fun e he=>by simp at he,rfl⟩
 | cons e r ih=>
   unfold Zro
   split
   ·rename_i x hx
    obtain ⟨b',cs⟩:=x
    by_cases e1:b=b'
    ·subst e1
     refine .inl ⟨e,by simp,cs,hx,by rw[Zq,if_pos rfl],fun e' he' cs' _=>?_⟩
     rcases Q9_.1 he' with rfl | he'
     ·exact Q2_ _
     ·exact Nat.le_of_lt (hd.1 e' he')
    ·rw[Zq,if_neg e1]
     rcases ih hd.2 with ⟨e',h1,cs',h2,h3,h4⟩ | ⟨h1,h2⟩
     ·refine .inl ⟨e',Qq_ _ h1,cs',h2,h3,fun e2 he2 cs2 hb2=>?_⟩
      rcases Q9_.1 he2 with rfl | he2
      ·rw[hx] at hb2;have:=Qa_ hb2;cases this;exact absurd rfl e1
      ·exact h4 e2 he2 cs2 hb2
     ·refine .inr ⟨fun e2 he2 cs2 hb2=>?_,h2⟩
      rcases Q9_.1 he2 with rfl | he2
      ·rw[hx] at hb2;have:=Qa_ hb2;cases this;exact absurd rfl e1
      ·exact h1 e2 he2 cs2 hb2
   ·rename_i hx
    rcases ih hd.2 with ⟨e',h1,cs',h2,h3,h4⟩ | ⟨h1,h2⟩
    ·refine .inl ⟨e',Qq_ _ h1,cs',h2,h3,fun e2 he2 cs2 hb2=>?_⟩
     rcases Q9_.1 he2 with rfl | he2
     ·rw[hx] at hb2;cases hb2
     ·exact h4 e2 he2 cs2 hb2
    ·refine .inr ⟨fun e2 he2 cs2 hb2=>?_,h2⟩
     rcases Q9_.1 he2 with rfl | he2
     ·rw[hx] at hb2;cases hb2
     ·exact h1 e2 he2 cs2 hb2
theorem Z0a{A:List En}{S:Nat→Prop}(hR:RI β A S ρ)(hS:∀e∈A,S e.i)(hd:Desc A)(hI:Inv P B g ρ a w):Sub (Zhb β A) ρ:=by
 have bxs:∀b,lk b (Zhb β A).boxes=lk b ρ.boxes:=by
  intro b
  rcases Z6W (A:=A) (l:=β.boxes) (b:=b) hd with ⟨e,h1,cs,h2,h3,h4⟩ | ⟨h1,h2⟩
  ·rw[hR.bx e h1 (hS e h1) b cs h2 (fun e' he' cs' hcs' _=>h4 e' he' cs' hcs')]
   exact h3
  ·rw[hR.bx0 b (fun e he cs hcs=>absurd hcs (h1 e he cs))]
   exact h2
 have tms:∀t v,lk t (Zhb β A).tmps=some v→lk t ρ.tmps=some v:=by
  intro t v h
  rcases Z6U h with ⟨e,h1,h2⟩ | h1
  ·exact hR.tm e h1 (hS e h1) t v h2
  ·exact hR.tm0 t v h1
 have als:∀t l,(t,l)∈(Zhb β A).al→(t,l)∈ρ.al:=by
  intro t l h
  rcases Z6V h with ⟨e,h1,h2⟩ | h1
  ·exact hR.ln e h1 (hS e h1) t l h2
  ·exact hR.al0 t l h1
 exact ⟨hR.n,tms,fun b cs h=>by rw[←bxs];exact h,fun b hb=>by rw[←hR.ro] at hb;exact hb,fun t b off h=>by rw[bxs];exact hI.ptr t b off (tms _ _ h),fun t f bs h b hb=>by rw[bxs];exact hI.fnp t f bs (tms _ _ h) b hb,hR.own0,
  fun b c E h=>by rw[bxs];exact hI.ownt (.b b c) E (hR.own0 _ _ h),als,fun t b c h=>by rw[bxs];exact hI.alt t b c (als _ _ h),fun t b off n s h=>by rw[bxs];exact hI.sl t b off n s (tms _ _ h),fun b cs h y hy b' hb'=>by rw[bxs] at h ⊢;exact hI.ref b cs h y hy b' hb'⟩
theorem Z6X{D Src:List Nat}{ws:List (Nat×Nat)}{A:List En}:RI (ZcH D Src ws σ) A (fun _=>False) σ:=
 ⟨rfl,rfl,fun _ _ h=>h.elim,fun t v h=>by
   rw[show (ZcH D Src ws σ).tmps=σ.tmps.filter fun (t,_)=> !(has t D) from rfl,Zey (fun t=> !(has t D))] at h
   split at h
   ·exact h
   ·exact absurd h (by simp),fun _ _ h=>h.elim,fun _ _=>rfl,fun _ _ h=>h.elim,fun t l h=>(QY_.1 h).1,fun l E h=>by
   rw[show (ZcH D Src ws σ).own=σ.own.filter fun (l,_)=>Xo D ws l&&Xo Src [] l from rfl,Yr (fun l=>Xo D ws l&&Xo Src [] l)] at h
   split at h
   ·exact h
   ·cases h⟩
end
section
variable {P:Program}{B:Nat}{g:G}{σ β ρ τ:St}{a:Act}{w:World}
def L(listed:Array Bool)(i:Nat):Prop:=listed.getD i false=true
theorem Zfo{listed:Array Bool}{j:Nat}(hj:j < listed.size)(i:Nat):L (listed.setIfInBounds j true) i↔L listed i∨i=j:=by
 unfold L
 rw[QA_,QA_,K7_]
 by_cases e:j=i
 ·subst e;simp[hj]
 ·simp[e,Ne.symm e]
theorem Z8F{listed:Array Bool}{j:Nat}(h:listed.getD j true=false):¬L listed j∧j < listed.size:=by
 have hlt:j < listed.size:=by
  rcases Ki_ j listed.size with h1 | h1
  ·exact h1
  ·rw[QA_,Array.getElem?_eq_none h1] at h;simp at h
 refine ⟨fun hl=>?_,hlt⟩
 unfold L at hl
 rw[QA_,QC_ hlt] at h hl
 simp at h hl
 rw[h] at hl
 cases hl
theorem Zvl{listed:Array Bool}{j:Nat}(h:¬L listed j)(hlt:j < listed.size):listed.getD j true=false:=by
 unfold L at h
 rw[QA_,QC_ hlt] at *
 simpa using h
noncomputable def cnt(listed:Array Bool):Nat→Nat
 | 0=>0
 | i+1=>cnt listed i+(if listed.getD i false=true then 0 else 1)
theorem Z40(listed:Array Bool):∀k,cnt listed k≤k
 | 0=>Q2_ _
 | k+1=>by have:=Z40 listed k;unfold cnt;split<;>omega
theorem ZdH{listed:Array Bool}:∀{k},cnt listed k=0→∀i,i < k→L listed i
 | 0,_,i,h=>by omega
 | k+1,h,i,hi=>by
   unfold cnt at h
   split at h
   ·by_cases e:i=k
    ·subst e;assumption
    ·exact ZdH (by omega) i (by omega)
   ·omega
theorem Z0b{listed:Array Bool}:∀{k},cnt listed k≠0→∃i,i < k∧¬L listed i∧∀m,m < i→L listed m
 | 0,h=>absurd rfl h
 | k+1,h=>by
   by_cases e:cnt listed k=0
   ·refine ⟨k,by omega,fun hl=>?_,ZdH e⟩
    unfold cnt at h
    have hl':listed.getD k false=true:=hl
    rw[e,if_pos hl'] at h
    exact h rfl
   ·obtain ⟨i,h1,h2,h3⟩:=Z0b e
    exact ⟨i,by omega,h2,h3⟩
theorem ZoL{listed:Array Bool}{j:Nat}(hj:j < listed.size):∀{k},k≤j→cnt (listed.setIfInBounds j true) k=cnt listed k
 | 0,_=>rfl
 | k+1,h=>by
   have e:((listed.setIfInBounds j true).getD k false=true)=(listed.getD k false=true):=propext (by
    have:=Zfo hj k
    unfold L at this
    rw[this]
    exact ⟨fun h=>h.resolve_right (by omega),.inl⟩)
   unfold cnt
   rw[ZoL hj (by omega)]
   simp only[e]
theorem Z0c{listed:Array Bool}{j:Nat}(hj:j < listed.size)(hn:¬L listed j):∀{k},j < k→cnt (listed.setIfInBounds j true) k+1=cnt listed k
 | 0,h=>by omega
 | k+1,h=>by
   unfold cnt
   by_cases e:j=k
   ·subst e
    have h1:(listed.setIfInBounds j true).getD j false=true:=(Zfo hj j).2 (.inr rfl)
    have h2:¬listed.getD j false=true:=hn
    rw[ZoL hj (Q2_ _),if_pos h1,if_neg h2]
   ·have e2:((listed.setIfInBounds j true).getD k false=true)=(listed.getD k false=true):=propext (by
     have:=Zfo hj k
     unfold L at this
     rw[this]
     exact ⟨fun h=>h.resolve_right (Ne.symm e),.inl⟩)
    have:=Z0c hj hn (k:=k) (by omega)
    simp only[e2]
    omega
theorem Znv{T:Nat→St→Oper→Option St}(hT:∀j σ o σ',T j σ o=some σ'→∀B g a w,Inv P B g σ a w→Goes P B g σ a w o σ'){ops:Array Oper}{k:Nat}
 (hdeps:∀j o,ops.toList[j]?=some o→∀i∈deps o,i < j) (hfull:∀j,k≤j→j < ops.size→∀{listed:Array Bool},(∀o,ops[j]?=some o→∀e∈o.after,Region.binds .any e=true→L listed e.on)→(∀s,L listed s→∀o,ops.toList[s]?=some o→∀i∈deps o,L listed i)→∀i,i < j→L listed i)
 {Q:Exit→Act→World→Prop} {σ':St}:∀(fuel m:Nat) (listed:Array Bool) (σ:St) (g:G) (a:Act) (w:World),Inv P B g σ a w→listed.size=ops.size→k≤m→m≤ops.size→(∀i,L listed i↔i < m)→ops.size - m≤fuel→tails T ops.toList (ops.toList.drop m) m σ=some σ'→
 (∀a' w',Post P B g σ w σ' a' w'→Q .normal a' w')→wpAny P .any ops Q fuel listed a w:=by
 have nord:∀(m:Nat) (listed:Array Bool),k≤m→m≤ops.size→(∀i,L listed i↔i < m)→∀j,j∈Region.ready .any ops listed→j=m∧m < ops.size:=by
  intro m listed hkm hmn hL j hj
  obtain ⟨h1,o,h2,h3⟩:=mem_ready.1 hj
  obtain ⟨h4,_⟩:=Z8F h1
  have hjm:¬j < m:=fun h=>h4 ((hL j).2 h)
  have hjn:j < ops.size:=(QL_.1 h2).1
  by_cases e:j=m
  ·exact ⟨e,by omega⟩
  ·have:=hfull j (by omega) hjn (listed:=listed) (fun o' ho' e he hb=>by rw[h2] at ho';cases ho';exact h3 e he hb)
    (fun s hs o' ho' i hi=>(hL i).2 (by have:=hdeps s o' ho' i hi;have:=(hL s).1 hs;omega)) m (by omega)
   have:=(hL m).1 this
   omega
 have rdy:∀(m:Nat) (listed:Array Bool),listed.size=ops.size→m < ops.size→(∀i,L listed i↔i < m)→m∈Region.ready .any ops listed:=by
  intro m listed hsz hm hL
  have ho:ops[m]?=some ops[m]:=QC_ hm
  refine mem_ready.2 ⟨Zvl (fun h=>by have:=(hL m).1 h;omega) (by omega),ops[m],ho,fun e he hb=>(hL e.on).2 ?_⟩
  refine hdeps m ops[m] (by rw[QX_];exact ho) e.on ?_
  unfold deps
  exact Kv_.2 ⟨e,QY_.2 ⟨by simpa using he,hb⟩,rfl⟩
 intro fuel
 induction fuel with
 | zero=>
   intro m listed σ g a w hI hsz hkm hmn hL hf ht hQ
   have:m=ops.size:=by omega
   subst this
   refine ⟨List.eq_nil_iff_forall_not_mem.2 fun j hj=>?_, ?_⟩
   ·have:=(nord _ listed hkm hmn hL j hj).2;omega
   ·rw[Q0_ (by simp)] at ht
    have:=Qa_ ht
    subst this
    exact hQ a w ⟨g,hI,Fr.refl⟩
 | succ fuel ih=>
   intro m listed σ g a w hI hsz hkm hmn hL hf ht hQ
   by_cases hm:m < ops.size
   ·refine ⟨fun hnil=>?_,fun j hj=>?_⟩
    ·have:=rdy m listed hsz hm hL
     rw[hnil] at this
     cases this
    ·obtain ⟨rfl,_⟩:=nord m listed hkm hmn hL j hj
     have ho:ops[j]?=some ops[j]:=QC_ hm
     have hdrop:ops.toList.drop j=ops[j]::ops.toList.drop (j+1):=by
      rw[K0_ (by simpa using hm)]
      simp
     rw[hdrop] at ht
     have next:∀(σ1:St) (g1:G) (a1:Act) (w1:World),Inv P B g1 σ1 a1 w1→Fr B g σ w g1 σ1 w1→tails T ops.toList (ops.toList.drop (j+1)) (j+1) σ1=some σ'→wpAny P .any ops Q fuel (listed.setIfInBounds j true) a1 w1:=by
      intro σ1 g1 a1 w1 i1 f1 h1
      refine ih (j+1) _ σ1 g1 a1 w1 i1 (by simp[hsz]) (by omega) (by omega) (fun i=>?_) (by omega) h1 (fun a' w' hp=>hQ a' w' (hp.trans f1))
      rw[Zfo (by omega),hL i]
      omega
     unfold wpOp
     rw[ho]
     simp only
     unfold tails at ht
     split at ht
     ·rename_i hg
      split at ht
      ·rename_i σ1 h1
       rw[Zai hI hg,if_pos rfl]
       exact .inl ((hT _ _ _ _ h1 B g a w hI).wp fun v w1 ⟨g1,i1,f1⟩=>next σ1 g1 _ w1 i1 f1 ht)
      ·cases ht
     ·rename_i hg
      rw[Zai hI hg,if_neg (by simp)]
      split at ht
      ·rename_i d hd
       rw[hd]
       exact next _ g _ w (Zk3 hI d) (ZnC d) ht
      ·rename_i hd
       rw[hd]
       exact next _ g _ w hI Fr.refl ht
     ·cases ht
   ·have:m=ops.size:=by omega
    subst this
    refine ⟨fun _=>?_,fun j hj=>?_⟩
    ·rw[Q0_ (by simp)] at ht
     have:=Qa_ ht
     subst this
     exact hQ a w ⟨g,hI,Fr.refl⟩
    ·have:=(nord _ listed hkm hmn hL j hj).2;omega
theorem Zvm{Γ:List (Nat×Ty)}(hΓ:Yo P Γ)(hm:P.follows .mixedOrders=true){R:Nat→St→Oper→Option Res}(hR:∀j τ o r,R j τ o=some r→W4 P τ o r)
 {T:Nat→St→Oper→Option St} (hT:∀j σ o σ',T j σ o=some σ'→∀B g a w,Inv P B g σ a w→Goes P B g σ a w o σ') {ops:Array Oper} {ws:List (Nat×Nat)} {σ':St} (h:ZoI Γ R T ops.toList σ ws=some σ') {id:Nat}:Tri P (.region id ops true) σ .normal σ':=by
 intro B g a w hI
 refine wp_region_any hm ?_
 have hq:Qt g.hw w g.hw {w with drawn:=w.drawn+1}:=⟨⟨rfl,rfl,rfl,Q2_ _,fun _ _=>rfl⟩,fun _ _=>rfl,hI.hwlt⟩
 obtain ⟨hI0,hF0⟩:=Zk0 hI hq
 generalize ({w with drawn:=w.drawn+1}:World)=w0 at *
 unfold ZoI at h
 simp only at h
 generalize hclsd:Zea ops.toList []=cls at *
 generalize hk:Wi cls ops.toList.length=k at *
 cases hb:(ZfO ops.toList 0&&ZcI (Xh (ops.toList.take k))&&Z0U cls ws) with
 | false=>rw[hb] at h;cases h
 | true=>
   rw[hb] at h
   simp only[Qb_] at h
   simp only[Qh_] at hb
   obtain ⟨⟨hb1,hb2⟩,hb3⟩:=hb
   have hkn:k≤ops.size:=by rw[←hk];have:=Znu (cls:=cls) (n:=ops.toList.length);simpa using this
   have hdeps:∀j o,ops.toList[j]?=some o→∀i∈deps o,i < j:=fun j o ho i hi=>by have:=ZoK hb1 j o ho i hi;omega
   have spec:∀{S:Nat→Prop},(∀j o,ops.toList[j]?=some o→S j→∀i∈deps o,S i)→∀j o,ops.toList[j]?=some o→(∀i∈deps o,S i)→∀i,bit (Yq cls j) i=true→S i:=by
    intro S hS j o ho hd i hi
    rw[←hclsd] at hi
    exact ZoJ hS ops.toList [] [] rfl rfl (fun j o ho=>by simp at ho) j o ho hd i hi
   have hlow:∀j o,ops.toList[j]?=some o→∀i,bit (Yq cls j) i=true→i < j:=fun j o ho i hi=>
    spec (S:=fun i=>i < j) (fun j' o' ho' hj' i' hi'=>by have:=hdeps j' o' ho' i' hi';omega) j o ho (hdeps j o ho) i hi
   have mdep:∀{o:Oper} {i:Nat},i∈deps o→∃e∈o.after,Region.binds .any e=true∧e.on=i:=by
    intro o i hi
    unfold deps at hi
    obtain ⟨e,he,rfl⟩:=Kv_.1 hi
    obtain ⟨h1,h2⟩:=QY_.1 he
    exact ⟨e,by simpa using h1,h2,rfl⟩
   have hord:∀s s' b,(s,b)∈ws→(s',b)∈ws→s < s'→bit (Yq cls s') s=true:=by
    intro s s' b h1 h2 hlt
    have:=QK_.1 (QK_.1 hb3 _ h1) _ h2
    simp only[Kp_,Qi_] at this
    rcases this with (h3 | h3) | h3
    ·simp at h3
    ·have:Nat.blt s s'=true:=QF_ hlt
     rw[this] at h3;cases h3
    ·exact h3
   split at h
   ·rename_i A hA
    generalize hβ:ZcH (Xh (ops.toList.take k)) (Zbv (ops.toList.take k)) ws σ=β at *
    obtain ⟨hdesc,_,hA3,hA4⟩:=Zsx hA trivial (fun e he=>by simp at he)
    have hops:∀j o,ops.toList[j]?=some o→j < k→(ops.toList.take k)[j]?=some o:=fun j o ho hj=>by rw[Km_,if_pos hj];exact ho
    have hAk:∀e∈A,e.i < k∧∃o,ops.toList[e.i]?=some o:=by
     intro e he
     rcases hA3 e he with h1 | ⟨_,o,h2⟩
     ·simp at h1
     ·rw[Nat.sub_zero,Km_] at h2
      split at h2
      ·exact ⟨by assumption,o,h2⟩
      ·cases h2
    -- each entry was made by its operation
    have hmk:∀e∈A,∃o,ops.toList[e.i]?=some o∧(∀t v,e.tm=some (t,v)→o.dst=some t)∧(∀t l,e.ln=some (t,l)→o.dst=some t∧Xo (Xh (ops.toList.take k)) ws l=true)∧∀b cs,e.bx=some (b,cs)→(e.i,b)∈ws:=by
     intro e he
     obtain ⟨h1,o,h2⟩:=hAk e he
     obtain ⟨e',q1,q2,A',q3,_⟩:=hA4 e.i o (hops _ _ h2 h1)
     have:e'=e:=hdesc.uniq q1 he (by omega)
     subst this
     obtain ⟨r1,r2,r3,r4⟩:=Zsw q3
     rw[←r1] at r4
     exact ⟨o,h2,r2,r3,r4⟩
    let dOf:Nat→Option Nat:=fun i=>(ops.toList[i]?).bind (·.dst)
    have dof:∀{i o},ops.toList[i]?=some o→dOf i=o.dst:=fun ho=>by simp only[dOf,ho,Option.bind_some]
    -- the frame is built in whatever order
    have key:∀(fuel:Nat) (listed:Array Bool) (ρ:St) (g1:G) (a1:Act) (w1:World),Inv P B g1 ρ a1 w1→Fr B ⟨g.β,g.hw⟩ σ w0 g1 ρ w1→listed.size=ops.size→RI β A (L listed) ρ→(∀s,L listed s→∀o,ops.toList[s]?=some o→∀i∈deps o,L listed i)→(∀i,L listed i→i < k)→
     cnt listed k+(ops.size - k)≤fuel→wpAny P .any ops (fun ex a' w'=>Zrk .normal ex∧∃g',Inv P B g' σ' a' w'∧Fr B g σ w g' σ' w') fuel listed a1 w1:=by
     intro fuel
     induction fuel with
     | zero=>
       intro listed ρ g1 a1 w1 hI1 hF1 hsz hRI hcl hlk hf
       have hS:∀e∈A,L listed e.i:=fun e he=>ZdH (k:=k) (by omega) e.i (hAk e he).1
       have hsub:=Z0a hRI hS hdesc hI1
       refine Znv (k:=k) (B:=B) (σ':=σ') hT hdeps ?_ 0 k listed (Zhb β A) g1 a1 w1 (ZdE hI1 hsub) hsz (Q2_ _) hkn (fun i=>⟨hlk i,ZdH (by omega) i⟩) (by omega) h (fun a' w' hp=>?_)
       ·intro j hj hjn listed' h1 h2 i hi
        have ho:ops.toList[j]?=some ops[j]:=by rw[QX_];exact QC_ hjn
        refine spec (fun s o hso hs=>h2 s hs o hso) j _ ho (fun d hd=>?_) i ?_
        ·obtain ⟨e,e1,e2,rfl⟩:=mdep hd
         exact h1 _ (QC_ hjn) e e1 e2
        ·exact ZcJ (cls:=cls) (n:=ops.toList.length) j (by omega) (by simpa using hjn) i hi
       ·obtain ⟨g2,i2,f2⟩:=hp
        exact ⟨trivial,g2,i2,hF0.trans ((ZnB hF1 hsub).trans f2)⟩
     | succ fuel ih=>
       intro listed ρ g1 a1 w1 hI1 hF1 hsz hRI hcl hlk hf
       by_cases hc:cnt listed k=0
       ·have hS:∀e∈A,L listed e.i:=fun e he=>ZdH hc e.i (hAk e he).1
        have hsub:=Z0a hRI hS hdesc hI1
        refine Znv (k:=k) (B:=B) (σ':=σ') hT hdeps ?_ (fuel+1) k listed (Zhb β A) g1 a1 w1 (ZdE hI1 hsub) hsz (Q2_ _) hkn (fun i=>⟨hlk i,ZdH hc i⟩) (by omega) h (fun a' w' hp=>?_)
        ·intro j hj hjn listed' h1 h2 i hi
         have ho:ops.toList[j]?=some ops[j]:=by rw[QX_];exact QC_ hjn
         refine spec (fun s o hso hs=>h2 s hs o hso) j _ ho (fun d hd=>?_) i ?_
         ·obtain ⟨e,e1,e2,rfl⟩:=mdep hd
          exact h1 _ (QC_ hjn) e e1 e2
         ·exact ZcJ (cls:=cls) (n:=ops.toList.length) j (by omega) (by simpa using hjn) i hi
        ·obtain ⟨g2,i2,f2⟩:=hp
         exact ⟨trivial,g2,i2,hF0.trans ((ZnB hF1 hsub).trans f2)⟩
       ·obtain ⟨i0,p1,p2,p3⟩:=Z0b hc
        refine ⟨fun hnil=>?_,fun j hj=>?_⟩
        ·have hi0:i0 < ops.size:=by omega
         have ho:ops[i0]?=some ops[i0]:=QC_ hi0
         have:i0∈Region.ready .any ops listed:=mem_ready.2 ⟨Zvl p2 (by omega),ops[i0],ho,fun e he hb=>p3 e.on (hdeps i0 ops[i0] (by rw[QX_];exact ho) e.on (Kv_.2 ⟨e,QY_.2 ⟨by simpa using he,hb⟩,rfl⟩))⟩
         rw[hnil] at this
         cases this
        ·obtain ⟨q1,o,q2,q3⟩:=mem_ready.1 hj
         obtain ⟨q4,q5⟩:=Z8F q1
         have hjn:j < ops.size:=(QL_.1 q2).1
         have ho:ops.toList[j]?=some o:=by rw[QX_];exact q2
         have hdl:∀i∈deps o,L listed i:=fun i hi=>by obtain ⟨e,e1,e2,rfl⟩:=mdep hi;exact q3 e e1 e2
         have hbits:∀i,bit (Yq cls j) i=true→L listed i:=spec (fun s o' hso hs=>hcl s hs o' hso) j o ho hdl
         have hjk:j < k:=by
          rcases Ki_ j k with h1 | h1
          ·exact h1
          ·exact absurd (hbits i0 (ZcJ (cls:=cls) (n:=ops.toList.length) j (by omega) (by simpa using hjn) i0 (by omega))) p2
         obtain ⟨e,r1,r2,A',r3,r4,r5,r6⟩:=hA4 j o (hops j o ho hjk)
         rw[QP_] at r2 r3 r6
         have hclb:∀s,L listed s→∀i,bit (Yq cls s) i=true→L listed i:=by
          intro s hs i hi
          have hsl:s < ops.size:=by have:=hlk s hs;omega
          have hso:ops.toList[s]?=some ops[s]:=by rw[QX_];exact QC_ hsl
          exact spec (fun s o' hso hs=>hcl s hs o' hso) s _ hso (hcl s hs _ hso) i hi
         have hsub:=Z9p (ws:=ws) (cls:=cls) (A:=A') (j:=j) hRI r5 r4 hbits q4 hclb (fun e he b cs hbx=>by obtain ⟨o',_,_,_,hh⟩:=hmk e he;exact hh b cs hbx) (fun e he hbit=>r6 e he (hlow j o ho _ hbit)) (ZfD ops.toList o)
         unfold wpOp
         rw[q2]
         simp only
         have hdOfD:∀i d,dOf i=some d→L listed i∨i=e.i→d∈Xh (ops.toList.take k):=by
          intro i d hd hi
          have hik:i < k:=by
           rcases hi with hi | hi
           ·exact hlk i hi
           ·omega
          have hin:i < ops.size:=by omega
          have hio:ops.toList[i]?=some ops[i]:=by rw[QX_];exact QC_ hin
          rw[dof hio] at hd
          exact ZiW (hops i _ hio hik) hd
         refine (fun hh=>?_) (ZyX hΓ hR r3 hI1 hsub hRI.ro (fun d hd hn hmin=>?_) (Q:=fun ex a' w'=>Zrk .normal ex∧∃g',Inv P B g' σ' a' w'∧Fr B g σ w g' σ' w') (K:=wpAny P .any ops (fun ex a' w'=>Zrk .normal ex∧∃g',Inv P B g' σ' a' w'∧Fr B g σ w g' σ' w') fuel (listed.setIfInBounds j true)) (fun ρ' a' w' hp hst=>?_))
         ·split
          ·rename_i hw;rw[if_pos hw] at hh;exact .inl hh
          ·rename_i hw;rw[if_neg hw] at hh;exact hh
         ·rw[hRI.bx0 d (fun e' he' cs hcs hS'=>?_)]
          ·exact hn
          ·obtain ⟨o',_,_,_,hh⟩:=hmk e' he'
           have hmem:=hh d cs hcs
           have h1:=hmin e'.i hmem
           have h2:e'.i≠j:=fun ee=>by rw[ee] at hS';exact q4 hS'
           exact q4 (hclb e'.i hS' j (hord j e'.i d hd hmem (by omega)))
         ·obtain ⟨g2,i2,f2⟩:=hp
          rw[←dof ho,←r2] at hst
          have hri:=RI.step (A:=A) (S:=L listed) (dOf:=dOf) (D:=Xh (ops.toList.take k)) (Src:=Zbv (ops.toList.take k)) (ws:=ws) (cls:=cls) hRI hst (by rw[r2];exact q4) (fun e' he' hi=>hdesc.uniq he' r1 hi) hclb hdOfD
           (fun i hi d hd hd'=>by
             have hik:=hlk i hi
             have hin:i < ops.size:=by omega
             have hio:ops.toList[i]?=some ops[i]:=by rw[QX_];exact QC_ hin
             rw[dof hio] at hd
             rw[r2,dof ho] at hd'
             have:=Zvk hb2 (hops i _ hio hik) (hops j _ ho hjk) hd hd'
             rw[this] at hi
             exact q4 hi)
           (fun e' he' t v ht=>by obtain ⟨o',h1,h2,_⟩:=hmk e' he';rw[dof h1];exact h2 t v ht)
           (fun e' he' t l hl=>by obtain ⟨o',h1,_,h2,_⟩:=hmk e' he';rw[dof h1];exact h2 t l hl)
           (fun e' he' b cs hbx=>by obtain ⟨o',_,_,_,h2⟩:=hmk e' he';exact h2 b cs hbx) r1 hord
           (fun t v ht hm=>by
             rw[←hβ] at ht
             rw[show (ZcH (Xh (ops.toList.take k)) (Zbv (ops.toList.take k)) ws σ).tmps=σ.tmps.filter fun (t,_)=> !(has t (Xh (ops.toList.take k))) from rfl,Zey (fun t=> !(has t (Xh (ops.toList.take k)))),YY.2 hm] at ht
             cases ht)
           (fun t l hm=>by
             rw[←hβ] at hm
             have:=(QY_.1 hm).2
             simp only[Qh_,Qi_] at this
             exact ⟨fun hD=>by rw[YY.2 hD] at this;exact absurd this.1 (by simp),this.2⟩)
           (fun l E hl=>by
             rw[←hβ] at hl
             rw[show (ZcH (Xh (ops.toList.take k)) (Zbv (ops.toList.take k)) ws σ).own=σ.own.filter fun (l,_)=>Xo (Xh (ops.toList.take k)) ws l&&Xo (Zbv (ops.toList.take k)) [] l from rfl,Yr (fun l=>Xo (Xh (ops.toList.take k)) ws l&&Xo (Zbv (ops.toList.take k)) [] l)] at hl
             split at hl
             ·rename_i hkp;rw[Qh_] at hkp;exact hkp
             ·cases hl)
          have hSS:(fun i=>L listed i∨i=e.i)=L (listed.setIfInBounds j true):=by
           funext i
           rw[r2]
           exact propext (Zfo q5 i).symm
          rw[hSS] at hri
          refine ih _ ρ' g2 a' w' i2 (hF1.trans f2) (by simp[hsz]) hri (fun s hs o' ho' i hi=>?_) (fun i hi=>?_) ?_
          ·rcases (Zfo q5 s).1 hs with hs | hs
           ·exact (Zfo q5 i).2 (.inl (hcl s hs o' ho' i hi))
           ·subst hs
            rw[ho] at ho'
            cases ho'
            exact (Zfo q5 i).2 (.inl (hdl i hi))
          ·rcases (Zfo q5 i).1 hi with hi | hi
           ·exact hlk i hi
           ·omega
          ·have:=Z0c q5 q4 hjk
           omega
    refine key ops.size _ σ ⟨g.β,g.hw⟩ a w0 hI0 Fr.refl (by simp) ?_ (fun s hs=>?_) (fun i hi=>?_) ?_
    ·have hno:L (Array.replicate ops.size false)=fun _=>False:=by
      funext i
      refine propext ⟨fun hl=>?_,False.elim⟩
      unfold L at hl
      rw[QA_,Array.getElem?_replicate] at hl
      split at hl<;>simp at hl
     rw[hno,←hβ]
     exact Z6X
    ·unfold L at hs
     rw[QA_,Array.getElem?_replicate] at hs
     split at hs<;>simp at hs
    ·unfold L at hi
     rw[QA_,Array.getElem?_replicate] at hi
     split at hi<;>simp at hi
    ·have:=Z40 (Array.replicate ops.size false) k
     omega
   ·cases h
end
def Z0d:List PV→Nat→Option Nat
 | [],_=>none
 | x::r,j=>match x with
   | .bs _ _ _ _=>some j
   | _=>Z0d r (j+1)
def Z6Y(σ:St)(b j:Nat)(cs:List PV):Option St:=
 match cs[j]? with
 | some (.bs d off n s)=>match lk d σ.boxes with
   | some ds=>bif Nat.ble (off+n *s) ds.length&&YJ ((ds.drop off).take (n *s)) then
      some {σ with ro:=d::σ.ro,boxes:=(b,cs.set j (.lst (chunk s n ((ds.drop off).take (n *s)))))::σ.boxes}
     else none
   | none=>none
 | _=>none
def ZiX(σ:St):List (Nat×List PV)→Option St
 | []=>none
 | (b,_)::r=>match lk b σ.boxes with
   | some cs=>match Z0d cs 0 with
     | some j=>match Z6Y σ b j cs with
       | some σ1=>some σ1
       | none=>ZiX σ r
     | none=>ZiX σ r
   | none=>ZiX σ r
def pub:Nat→St→Option St
 | 0,_=>none
 | k+1,σ=>match ZiX σ σ.boxes with
   | some σ1=>match pub k σ1 with
     | some σ2=>some σ2
     | none=>some σ1
   | none=>none
section
variable {P:Program}{B:Nat}{g:G}{σ:St}{a:Act}{w:World}{o:Oper}
theorem Z9q(hI:Inv P B g σ a w){b:Nat}{cs cs':List PV}(hb:lk b σ.boxes=some cs)(hl:cs.length=cs'.length)(h:∀k base,g.β b=some (k,base)→BoxOk g w k base cs')
 (hr:∀y∈cs',∀b',Xz y=some b'→∃c,lk b' σ.boxes=some c):Inv P B g {σ with boxes:=(b,cs')::σ.boxes} a w∧Fr B g σ w g {σ with boxes:=(b,cs')::σ.boxes} w:=by
 have bx:∀b2 c2,lk b2 ((b,cs')::σ.boxes)=some c2→∃c1,lk b2 σ.boxes=some c1∧c1.length=c2.length:=by
  intro b2 c2 h2
  rw[Zq] at h2
  split at h2
  ·rename_i e
   subst e
   have:=Qa_ h2
   subst this
   exact ⟨cs,hb,hl⟩
  ·exact ⟨c2,h2,rfl⟩
 have isb:∀b2,(∃c,lk b2 σ.boxes=some c)→∃c,lk b2 ((b,cs')::σ.boxes)=some c:=by
  rintro b2 ⟨c,h2⟩
  rw[Zq]
  split
  ·exact ⟨cs',rfl⟩
  ·exact ⟨c,h2⟩
 refine ⟨⟨hI.size,hI.defers,hI.tmp,fun t b2 off ht=>isb b2 (hI.ptr t b2 off ht),fun t f bs ht b2 hb2=>isb b2 (hI.fnp t f bs ht b2 hb2),fun b2 c2 h2=>?_,fun b1 b2 c1 c2 k base base' h1 h2 h3 h4=>?_,hI.hwlt,hI.base,hI.glob,fun l E hlo=>?_,fun l E hlo=>?_,hI.owninj,hI.al,fun t b2 c hm=>isb b2 (hI.alt t b2 c hm),fun t b2 off n s ht=>isb b2 (hI.sl t b2 off n s ht),fun b2 c2 h2 y hy b' hb'=>?_⟩,
  ⟨rfl,rfl,rfl,Q2_ _,rfl,fun _ _ _=>rfl,fun _ _ _ _=>rfl,fun _ _ _=>rfl,fun _ _ _=>rfl,fun b2 c2 _ h2=>by obtain ⟨c1,e1,e2⟩:=bx b2 c2 h2;exact ⟨c1,e1,e2,rfl⟩,Ext.refl _ _⟩⟩
 ·have h2':=h2
  change lk b2 ((b,cs')::σ.boxes)=some c2 at h2'
  rw[Zq] at h2'
  split at h2'
  ·rename_i e
   subst e
   have:=Qa_ h2'
   subst this
   obtain ⟨k,base,q1,q2,_,q4,q5⟩:=hI.box b2 cs hb
   exact ⟨k,base,q1,q2,h k base q1,q4,q5⟩
  ·exact hI.box b2 c2 h2'
 ·obtain ⟨d1,e1,_⟩:=bx b1 c1 h1
  obtain ⟨d2,e2,_⟩:=bx b2 c2 h2
  exact hI.inj b1 b2 d1 d2 k base base' e1 e2 h3 h4
 ·obtain ⟨val,h1,h2,h3⟩:=hI.own l E hlo
  exact ⟨val,h1,h2,fun k hk b2 c2 base h4=>by obtain ⟨c1,e1,_⟩:=bx b2 c2 h4;exact h3 k hk b2 c1 base e1⟩
 ·have:=hI.ownt l E hlo
  cases l with
  | t t=>exact this
  | b b2 c=>exact isb b2 this
 ·have h2':=h2
  change lk b2 ((b,cs')::σ.boxes)=some c2 at h2'
  rw[Zq] at h2'
  split at h2'
  ·have:=Qa_ h2'
   subst this
   exact isb b' (hr y hy b' hb')
  ·exact isb b' (hI.ref b2 c2 h2' y hy b' hb')
theorem Z6Z(hI:Inv P B g σ a w){b j:Nat}{cs:List PV}(hb:lk b σ.boxes=some cs){σ1:St}(h:Z6Y σ b j cs=some σ1):∃g1,Inv P B g1 σ1 a w∧Fr B g σ w g1 σ1 w:=by
 unfold Z6Y at h
 split at h
 ·rename_i d off n s hj
  split at h
  ·rename_i ds hd
   cases hc:(Nat.ble (off+n *s) ds.length&&YJ ((ds.drop off).take (n *s))) with
   | false=>rw[hc] at h;cases h
   | true=>
     rw[hc] at h
     have:=Qa_ h
     subst this
     rw[Qh_] at hc
     have hle:=Qm_ hc.1
     obtain ⟨k,base,hk,hlt,hok,_⟩:=hI.box d ds hd
     obtain ⟨h1,f1⟩:=ZiN hI hd hk
     have hlt':j < cs.length:=(Qo_.1 hj).1
     have hlen:((ds.drop off).take (n *s)).length=n *s:=by rw[K4_,KF_];omega
     have c1:∀k2 base2,(⟨g.β,fun j=>if j=k then max (g.hw j) (base+ds.length) else g.hw j⟩:G).β b=some (k2,base2)→BoxOk ⟨g.β,fun j=>if j=k then max (g.hw j) (base+ds.length) else g.hw j⟩ w k2 base2 (cs.set j (.lst (chunk s n ((ds.drop off).take (n *s))))):=by
      intro k2 base2 hk2
      obtain ⟨k3,base3,q1,_,q3,_⟩:=h1.box b cs hb
      rw[q1] at hk2
      have:=Qa_ hk2
      cases this
      refine ⟨fun i y hy=>?_⟩
      rw[List.getElem?_set] at hy
      split at hy
      ·rename_i e
       subst e
       have:=Qa_ hy
       subst this
       obtain ⟨v,r1,r2,r3,r4⟩:=q3.cell j _ hj
       refine ⟨v,r1,r2,r3,.rep ?_⟩
       cases r4 with
       | rep h=>cases h
       | bs _ _ _ _ h=>
         obtain ⟨k4,base4,cap,s1,s2,s3⟩:=h
         have s1':g.β d=some (k4,base4):=s1
         rw[hk] at s1'
         cases s1'
         rw[s3]
         obtain ⟨k5,base5,t1,_,t3,_⟩:=h1.box d ds hd
         have t1':g.β d=some (k5,base5):=t1
         rw[hk] at t1'
         cases t1'
         exact ZeX hlen t3.part.cells hc.2 s2 (by simp only[Kx_];omega)
      ·exact q3.cell i y hy
     have c2:∀y∈cs.set j (.lst (chunk s n ((ds.drop off).take (n *s)))),∀b',Xz y=some b'→∃c,lk b' σ.boxes=some c:=by
      intro y hy b' hb'
      obtain ⟨i,hi,rfl⟩:=Ko_ hy
      have hy':=Qg_ hi
      rw[List.getElem?_set] at hy'
      split at hy'
      ·rename_i e
       subst e
       rw[←Qa_ hy'] at hb'
       exact absurd hb' (by simp[Xz])
      ·exact hI.ref b cs hb _ (Qz_ hy') b' hb'
     obtain ⟨h2,f2⟩:=Z9q h1 (b:=b) (cs:=cs) (cs':=cs.set j (.lst (chunk s n ((ds.drop off).take (n *s))))) hb (by simp) c1 c2
     exact ⟨_,h2,f1.trans f2⟩
  ·cases h
 ·cases h
theorem Zhc(hI:Inv P B g σ a w):∀{l:List (Nat×List PV)} {σ1:St},ZiX σ l=some σ1→∃g1,Inv P B g1 σ1 a w∧Fr B g σ w g1 σ1 w
 | [],σ1,h=>by simp[ZiX] at h
 | (b,_)::r,σ1,h=>by
   unfold ZiX at h
   split at h
   ·rename_i cs hcs
    split at h
    ·split at h
     ·rename_i σ2 h2
      have:=Qa_ h
      subst this
      exact Z6Z hI hcs h2
     ·exact Zhc hI h
    ·exact Zhc hI h
   ·exact Zhc hI h
theorem Z0e:∀{k:Nat} {g:G} {σ σ1:St},Inv P B g σ a w→pub k σ=some σ1→∃g1,Inv P B g1 σ1 a w∧Fr B g σ w g1 σ1 w
 | 0,g,σ,σ1,_,h=>by simp[pub] at h
 | k+1,g,σ,σ1,hI,h=>by
   unfold pub at h
   split at h
   ·rename_i σ2 h2
    obtain ⟨g2,i2,f2⟩:=Zhc hI h2
    split at h
    ·rename_i σ3 h3
     have:=Qa_ h
     subst this
     obtain ⟨g3,i3,f3⟩:=Z0e i2 h3
     exact ⟨g3,i3,f2.trans f3⟩
    ·have:=Qa_ h
     subst this
     exact ⟨g2,i2,f2⟩
   ·cases h
theorem Z9r{k:Nat}{c:Code}{e:Ex}{σ1 σ':St}(hp:pub k σ=some σ1)(h:Tri P c σ1 e σ'):Tri P c σ e σ':=fun B g a w hI=>by
 obtain ⟨g1,i1,f1⟩:=Z0e hI hp
 exact wp_mono (h B g1 a w i1) fun _ _ _ ⟨h1,g',h2,h3⟩=>⟨h1,g',h2,f1.trans h3⟩
end
def ZiY(N:List Nat):AV→Bool
 | .p _=>true
 | .ptr b _=> !(has b N)
 | .fnp _ bs=>bs.all fun b=> !(has b N)
 | .sl b _ _ _=> !(has b N)
def ZkC(N:List Nat):List (Nat×AV)→Nat→List (Nat×AV)
 | [],_=>[]
 | (t,v)::r,s=>bif bit s t then ZkC N r s else bif ZiY N v then (t,v)::ZkC N r (Nat.lor s (Nat.shiftLeft 1 t)) else ZkC N r (Nat.lor s (Nat.shiftLeft 1 t))
def ZdI(N:List Nat):List (Nat×List PV)→Nat→List (Nat×List PV)
 | [],_=>[]
 | (b,v)::r,s=>bif bit s b then ZdI N r s else bif has b N then ZdI N r (Nat.lor s (Nat.shiftLeft 1 b)) else (b,v)::ZdI N r (Nat.lor s (Nat.shiftLeft 1 b))
def Ze1(N:List Nat):Loc→Bool
 | .t _=>true
 | .b b _=> !(has b N)
def Ze2(N:List Nat)(σ:St):St:=
 {σ with tmps:=ZkC N σ.tmps 0,boxes:=ZdI N σ.boxes 0,own:=σ.own.filter fun (l,_)=>Ze1 N l,al:=σ.al.filter fun (_,l)=>Ze1 N l}
def spB:List (Nat×List PV)→List (Nat×List Nat)
 | []=>[]
 | (b,cs)::r=>match Zbs cs with
   | []=>spB r
   | l=>(b,l)::spB r
def ZhB{α:Type}(b:Nat):List (Nat×α)→Bool
 | []=>false
 | (b',_)::r=>Nat.beq b b'||ZhB b r
def ZhC(N:List Nat)(sp:List (Nat×List Nat)):List (Nat×List Nat)→List Nat
 | []=>[]
 | (b,l)::r=>bif l.any (fun b'=>has b' N||ZhB b' sp) then b::ZhC N sp r else ZhC N sp r
def clean(N:List Nat)(σ:St):St:=match spB σ.boxes with
 | []=>Ze2 N σ
 | sp=>Ze2 (ZhC N sp sp++N) σ
def ZfE:List Oper→List Nat
 | []=>[]
 | o::r=>match o.op,o.dst with
   | .alloc _,some d=>d::ZfE r
   | .box _ _,some d=>d::ZfE r
   | .buildSlice _ _ _,some d=>d::ZfE r
   | .call ⟨.builtin .append,_,_⟩,some d=>d::ZfE r
   | _,_=>ZfE r
def JZ:Code→List Nat
 | .region _ ops _=>ZfE ops.toList
 | .seq x y=>JZ x++JZ y
 | .cond _ x y=>JZ x++JZ y
 | .block _ c=>JZ c
 | .loop c=>JZ c
 | .scope c=>JZ c
 | _=>[]
def Zm6(ops:List Oper)(σ:St):Nat→Operand→Option Nat
 | 0,_=>none
 | n+1,.tmp t=>match ops.find? (fun o=>match o.dst with | some d=>Nat.beq d t | none=>false) with
   | some o=>match o.op with
     | .alloc _=>some t
     | .box _ _=>some t
     | .fieldAddr _ p _=>Zm6 ops σ n p
     | .indexAddr _ p _=>Zm6 ops σ n p
     | .nilCheck p=>Zm6 ops σ n p
     | .move p=>Zm6 ops σ n p
     | .assign p=>Zm6 ops σ n p
     | _=>none
   | none=>match lk t σ.tmps with
     | some (.ptr b _)=>some b
     | _=>none
 | _,_=>none
def ZkD(ops:List Oper)(σ:St):List Oper→Nat→List (Nat×Nat)
 | [],_=>[]
 | o::r,j=>match o.op,o.dst with
   | .alloc _,some d=>(j,d)::ZkD ops σ r (j+1)
   | .box _ _,some d=>(j,d)::ZkD ops σ r (j+1)
   | .store _ p _,_=>match Zm6 ops σ 20 p with
     | some b=>(j,b)::ZkD ops σ r (j+1)
     | none=>ZkD ops σ r (j+1)
   | _,_=>ZkD ops σ r (j+1)
def Zm7(Γ:List (Nat×Ty))(R:Nat→St→Oper→Option Res)(T:Nat→St→Oper→Option St)(ops:Array Oper)(d:Bool)(σ:St):Option St:=
 match d with
 | true=>ZoI Γ R T ops.toList σ (ZkD ops.toList σ (ops.toList.take (Wi (Zea ops.toList []) ops.toList.length)) 0)
 | false=>tails T ops.toList ops.toList 0 σ
def YP(Γ:List (Nat×Ty))(R:Nat→St→Oper→Option Res)(T:Nat→St→Oper→Option St):Nat→Option Code→Code→St→Option (Ex×St)
 | 0,_,_,_=>none
 | n+1,some s,c,σ=>match YP Γ R T n none c (clean (JZ s) σ) with
   | some (.goto l,σ1)=>match findLabel s l with
     | some rest=>YP Γ R T n (some s) rest σ1
     | none=>none
   | r=>r
 | n+1,none,c,σ=>match c with
   | .scope s=>YP Γ R T n (some s) s σ
   | .skip=>some (.normal,σ)
   | .label _=>some (.normal,σ)
   | .exit i=>some (.exit i,σ)
   | .goto i=>some (.goto i,σ)
   | .ret=>some (.ret,σ)
   | .region _ ops d=>match Zm7 Γ R T ops d σ with
     | some σ'=>some (.normal,σ')
     | none=>match pub 8 σ with
       | some σ1=>match Zm7 Γ R T ops d σ1 with
         | some σ'=>some (.normal,σ')
         | none=>none
       | none=>none
   | .seq x y=>match YP Γ R T n none x σ with
     | some (.normal,σ1)=>YP Γ R T n none y σ1
     | r=>r
   | .cond c x y=>match ZA σ c with
     | some (.v (.bool true))=>YP Γ R T n none x σ
     | some (.v (.bool false))=>YP Γ R T n none y σ
     | _=>none
   | .block id c=>match YP Γ R T n none c σ with
     | some (.exit i,σ1)=>some (bif Nat.beq i id then .normal else .exit i,σ1)
     | r=>r
   | .loop c=>match YP Γ R T n none c (clean (JZ c) σ) with
     | some (.normal,σ1)=>YP Γ R T n none (.loop c) σ1
     | r=>r
   | _=>none
section
variable {P:Program}{B:Nat}{g:G}{σ τ:St}{a:Act}{w:World}
theorem Zvn{N:List Nat}{t:Nat}{v:AV}:∀{l:List (Nat×AV)} {s:Nat},lk t (ZkC N l s)=some v→bit s t=false∧lk t l=some v∧ZiY N v=true
 | [],s,h=>by simp[ZkC,lk] at h
 | (t0,v0)::r,s,h=>by
   unfold ZkC at h
   have go:∀{s'},(∀i,bit s i=true→bit s' i=true)→bit s' t0=true→lk t (ZkC N r s')=some v→bit s t=false∧lk t ((t0,v0)::r)=some v∧ZiY N v=true:=by
    intro s' hs h0 h
    obtain ⟨h1,h2,h3⟩:=Zvn h
    have hne:t≠t0:=fun e=>by rw[e,h0] at h1;cases h1
    refine ⟨?_,by rw[Zq,if_neg hne];exact h2,h3⟩
    cases hb:bit s t with
    | false=>rfl
    | true=>rw[hs t hb] at h1;cases h1
   have up:∀i,bit s i=true→bit (Nat.lor s (Nat.shiftLeft 1 t0)) i=true:=fun i hi=>by rw[ZfP,hi];rfl
   have up0:bit (Nat.lor s (Nat.shiftLeft 1 t0)) t0=true:=by
    rw[ZfP]
    have:bit (Nat.shiftLeft 1 t0) t0=true:=by
     show Nat.testBit (1 <<< t0) t0=true
     rw[Nat.testBit_shiftLeft];simp
    rw[this];simp
   cases hb:bit s t0 with
   | true=>
     rw[hb] at h
     exact go (fun _ h=>h) hb h
   | false=>
     rw[hb] at h
     simp only[Qd_] at h
     cases ho:ZiY N v0 with
     | true=>
       rw[ho] at h
       simp only[Qb_,Zq] at h
       split at h
       ·rename_i e
        have:=Qa_ h
        subst this;subst e
        exact ⟨hb,by rw[Zq,if_pos rfl],ho⟩
       ·exact go up up0 h
     | false=>
       rw[ho] at h
       exact go up up0 h
theorem ZnF{N:List Nat}{t:Nat}{v:List PV}:∀{l:List (Nat×List PV)} {s:Nat},lk t (ZdI N l s)=some v→bit s t=false∧lk t l=some v
 | [],s,h=>by simp[ZdI,lk] at h
 | (t0,v0)::r,s,h=>by
   unfold ZdI at h
   have go:∀{s'},(∀i,bit s i=true→bit s' i=true)→bit s' t0=true→lk t (ZdI N r s')=some v→bit s t=false∧lk t ((t0,v0)::r)=some v:=by
    intro s' hs h0 h
    obtain ⟨h1,h2⟩:=ZnF h
    have hne:t≠t0:=fun e=>by rw[e,h0] at h1;cases h1
    refine ⟨?_,by rw[Zq,if_neg hne];exact h2⟩
    cases hb:bit s t with
    | false=>rfl
    | true=>rw[hs t hb] at h1;cases h1
   have up:∀i,bit s i=true→bit (Nat.lor s (Nat.shiftLeft 1 t0)) i=true:=fun i hi=>by rw[ZfP,hi];rfl
   have up0:bit (Nat.lor s (Nat.shiftLeft 1 t0)) t0=true:=by
    rw[ZfP]
    have:bit (Nat.shiftLeft 1 t0) t0=true:=by
     show Nat.testBit (1 <<< t0) t0=true
     rw[Nat.testBit_shiftLeft];simp
    rw[this];simp
   cases hb:bit s t0 with
   | true=>
     rw[hb] at h
     exact go (fun _ h=>h) hb h
   | false=>
     rw[hb] at h
     simp only[Qd_] at h
     cases ho:has t0 N with
     | true=>
       rw[ho] at h
       exact go up up0 h
     | false=>
       rw[ho] at h
       simp only[Qd_,Zq] at h
       split at h
       ·rename_i e
        have:=Qa_ h
        subst this;subst e
        exact ⟨hb,by rw[Zq,if_pos rfl]⟩
       ·exact go up up0 h
theorem ZiZ{N:List Nat}{t:Nat}{v:List PV}:∀{l:List (Nat×List PV)} {s:Nat},lk t (ZdI N l s)=some v→has t N=false
 | [],s,h=>by simp[ZdI,lk] at h
 | (t0,v0)::r,s,h=>by
   unfold ZdI at h
   cases hb:bit s t0 with
   | true=>rw[hb] at h;exact ZiZ h
   | false=>
     rw[hb] at h
     simp only[Qd_] at h
     cases ho:has t0 N with
     | true=>rw[ho] at h;exact ZiZ h
     | false=>
       rw[ho] at h
       simp only[Qd_] at h
       rw[Zq] at h
       split at h
       ·rename_i e;rw[e];exact ho
       ·exact ZiZ h
theorem Zja{N:List Nat}{t:Nat}{v:List PV}(hN:has t N=false):∀{l:List (Nat×List PV)} {s:Nat},bit s t=false→lk t l=some v→∃v',lk t (ZdI N l s)=some v'
 | [],s,_,h=>by simp[lk] at h
 | (t0,v0)::r,s,hs,h=>by
   have keep:∀{t1},t≠t1→bit (Nat.lor s (Nat.shiftLeft 1 t1)) t=false:=by
    intro t1 hne
    rw[ZfP,hs]
    cases hb:bit (Nat.shiftLeft 1 t1) t with
    | false=>rfl
    | true=>exact absurd (ZzY hb) hne
   unfold ZdI
   by_cases e:t=t0
   ·subst e
    rw[hs,hN]
    simp only[Qd_,Zq,Kx_]
    exact ⟨v0,rfl⟩
   ·rw[Zq,if_neg e] at h
    cases hb:bit s t0 with
    | true=>exact Zja hN hs h
    | false=>
      simp only[Qd_]
      cases ho:has t0 N with
      | true=>exact Zja hN (keep e) h
      | false=>
        simp only[Qd_,Zq,if_neg e]
        exact Zja hN (keep e) h
theorem ZoM{N:List Nat}(hI:Inv P B g σ a w)(hcl:∀b cs,lk b σ.boxes=some cs→has b N=false→∀y∈cs,∀b',Xz y=some b'→has b' N=false):Sub (Ze2 N σ) σ:=by
 have tm:∀t v,lk t (Ze2 N σ).tmps=some v→lk t σ.tmps=some v∧ZiY N v=true:=fun t v h=>(Zvn h).2
 have bx:∀b,has b N=false→(∃cs,lk b σ.boxes=some cs)→∃cs,lk b (Ze2 N σ).boxes=some cs:=fun b hb ⟨cs,h⟩=>Zja hb (ZiV b) h
 have ow:∀l E,lkL l (Ze2 N σ).own=some E→lkL l σ.own=some E∧Ze1 N l=true:=by
  intro l E h
  rw[show (Ze2 N σ).own=σ.own.filter fun (l,_)=>Ze1 N l from rfl,Yr (Ze1 N)] at h
  split at h
  ·exact ⟨h,by assumption⟩
  ·cases h
 have al:∀t l,(t,l)∈(Ze2 N σ).al→(t,l)∈σ.al∧Ze1 N l=true:=fun t l h=>QY_.1 h
 refine ⟨rfl,fun t v h=>(tm t v h).1,fun b cs h=>(ZnF h).2,fun _ h=>h,fun t b off h=>?_,fun t f bs h b hb=>?_,fun l E h=>(ow l E h).1,fun b c E h=>?_,fun t l h=>(al t l h).1,fun t b c h=>?_,fun t b off n s h=>?_,fun b cs h y hy b' hb'=>?_⟩
 ·obtain ⟨h1,h2⟩:=tm t _ h
  exact bx b (by simpa [ZiY] using h2) (hI.ptr t b off h1)
 ·obtain ⟨h1,h2⟩:=tm t _ h
  exact bx b (by simpa using QK_.1 h2 b hb) (hI.fnp t f bs h1 b hb)
 ·obtain ⟨h1,h2⟩:=ow _ E h
  exact bx b (by simpa [Ze1] using h2) (hI.ownt (.b b c) E h1)
 ·obtain ⟨h1,h2⟩:=al t _ h
  exact bx b (by simpa [Ze1] using h2) (hI.alt t b c h1)
 ·obtain ⟨h1,h2⟩:=tm t _ h
  exact bx b (by simpa [ZiY] using h2) (hI.sl t b off n s h1)
 ·have h1:=ZiZ h
  have h2:=(ZnF h).2
  exact bx b' (hcl b cs h2 h1 y hy b' hb') (hI.ref b cs h2 y hy b' hb')
theorem Zrp:∀{l:List (Nat×List PV)} {b:Nat} {cs:List PV},lk b l=some cs→∀{y:PV},y∈cs→∀{b':Nat},Xz y=some b'→∃rs,(b,rs)∈spB l∧b'∈rs
 | [],b,cs,h,_,_,_,_=>by simp[lk] at h
 | (b1,c1)::r,b,cs,h,y,hy,b',hb'=>by
   rw[Zq] at h
   split at h
   ·rename_i e
    have:=Qa_ h
    subst this;subst e
    have hm:=ZaO hy hb'
    unfold spB
    split
    ·rename_i hn;rw[hn] at hm;cases hm
    ·exact ⟨_,Qv_ ..,hm⟩
   ·obtain ⟨rs,h1,h2⟩:=Zrp h hy hb'
    unfold spB
    split
    ·exact ⟨rs,h1,h2⟩
    ·exact ⟨rs,Qq_ _ h1,h2⟩
theorem Z0f{α:Type}{b:Nat}:∀{l:List (Nat×α)} {x:α},(b,x)∈l→ZhB b l=true
 | [],_,h=>by simp at h
 | (b',z)::r,x,h=>by
   unfold ZhB
   rcases Q9_.1 h with e | h
   ·cases e;simp
   ·rw[Z0f h,Q5_]
theorem ZnG{N:List Nat}{sp:List (Nat×List Nat)}:∀{l:List (Nat×List Nat)} {b:Nat},b∈ZhC N sp l→∃rs,(b,rs)∈l
 | [],_,h=>by simp[ZhC] at h
 | (b1,l1)::r,b,h=>by
   unfold ZhC at h
   cases hb:l1.any (fun b'=>has b' N||ZhB b' sp) with
   | false=>rw[hb] at h;obtain ⟨rs,h⟩:=ZnG h;exact ⟨rs,Qq_ _ h⟩
   | true=>
     rw[hb] at h
     rcases Q9_.1 h with e | h
     ·subst e;exact ⟨l1,Qv_ ..⟩
     ·obtain ⟨rs,h⟩:=ZnG h;exact ⟨rs,Qq_ _ h⟩
theorem Zrq{N:List Nat}{sp:List (Nat×List Nat)}:∀{l:List (Nat×List Nat)} {b b':Nat} {rs:List Nat},(b,rs)∈l→b'∈rs→(has b' N||ZhB b' sp)=true→b∈ZhC N sp l
 | [],_,_,_,h,_,_=>by simp at h
 | (b1,l1)::r,b,b',rs,h,hm,hx=>by
   unfold ZhC
   rcases Q9_.1 h with e | h
   ·obtain ⟨rfl,rfl⟩:=Prod.mk.inj e
    have:rs.any (fun b'=>has b' N||ZhB b' sp)=true:=List.any_eq_true.2 ⟨b',hm,hx⟩
    rw[this]
    exact Qv_ ..
   ·cases l1.any (fun b'=>has b' N||ZhB b' sp) with
    | false=>exact Zrq h hm hx
    | true=>exact Qq_ _ (Zrq h hm hx)
theorem Zsy{N:List Nat}(hI:Inv P B g σ a w):Sub (clean N σ) σ:=by
 unfold clean
 cases hsp:spB σ.boxes with
 | nil=>
   refine ZoM hI (fun b cs h _ y hy b' hb'=>?_)
   obtain ⟨rs,h1,_⟩:=Zrp h hy hb'
   rw[hsp] at h1
   cases h1
 | cons s1 r1=>
   simp only
   rw[←hsp]
   refine ZoM hI (fun b cs h hb y hy b' hb'=>?_)
   obtain ⟨rs,h1,h2⟩:=Zrp h hy hb'
   have hbn:b∉ZhC N (spB σ.boxes) (spB σ.boxes):=fun hm=>by
    rw[YY.2 (Kh_ _ hm)] at hb
    cases hb
   have h3:(has b' N||ZhB b' (spB σ.boxes))=false:=by
    cases hx:(has b' N||ZhB b' (spB σ.boxes)) with
    | false=>rfl
    | true=>exact absurd (Zrq h1 h2 hx) hbn
   rw[Ka_] at h3
   cases hq:has b' (ZhC N (spB σ.boxes) (spB σ.boxes)++N) with
   | false=>rfl
   | true=>
     rcases Kw_.1 (YY.1 hq) with hm | hm
     ·obtain ⟨rs',hm'⟩:=ZnG hm
      rw[Z0f hm'] at h3
      exact absurd h3.2 (by simp)
     ·rw[YY.2 hm] at h3
      exact absurd h3.1 (by simp)
theorem Wy{N:List Nat}{c:Code}{e:Ex}{σ':St}(h:Tri P c (clean N σ) e σ'):Tri P c σ e σ':=fun B g a w hI=>
 wp_mono (h B g a w (ZdE hI (Zsy hI))) fun _ _ _ ⟨h1,g',h2,h3⟩=>⟨h1,g',h2,Zva h3 (Zsy hI)⟩
theorem Zhd{T:Nat→St→Oper→Option St}(hT:∀j σ o σ',T j σ o=some σ'→∀B g a w,Inv P B g σ a w→Goes P B g σ a w o σ'){ops:Array Oper}{Q:Exit→Act→World→Prop}:
 ∀{l:List Oper} {j:Nat} {σ σ':St} {g:G} {a:Act} {w:World},Inv P B g σ a w→tails T ops.toList l j σ=some σ'→(∀a' w',Post P B g σ w σ' a' w'→Q .normal a' w')→wpList P ops Q l a w
 | [],j,σ,σ',g,a,w,hI,h,hQ=>by
   have:=Qa_ h
   subst this
   exact hQ a w ⟨g,hI,Fr.refl⟩
 | o::r,j,σ,σ',g,a,w,hI,h,hQ=>by
   unfold tails at h
   refine wpList_step fun K hK=>?_
   split at h
   ·rename_i hg
    split at h
    ·rename_i σ1 h1
     rw[Zai hI hg,if_pos rfl]
     exact (hT _ _ _ _ h1 B g a w hI).wp fun v w1 ⟨g1,i1,f1⟩=>hK _ _ (Zhd hT i1 h fun a' w' hp=>hQ a' w' (hp.trans f1))
    ·cases h
   ·rename_i hg
    rw[Zai hI hg,if_neg (by simp)]
    split at h
    ·rename_i d hd
     rw[hd]
     exact hK _ _ (Zhd hT (Zk3 hI d) h fun a' w' hp=>hQ a' w' (hp.trans (ZnC d)))
    ·rename_i hd
     rw[hd]
     exact hK _ _ (Zhd hT hI h hQ)
   ·cases h
theorem ZhD{Γ:List (Nat×Ty)}(hΓ:Yo P Γ)(hm:P.follows .mixedOrders=true){R:Nat→St→Oper→Option Res}(hR:∀j τ o r,R j τ o=some r→W4 P τ o r)
 {T:Nat→St→Oper→Option St} (hT:∀j σ o σ',T j σ o=some σ'→∀B g a w,Inv P B g σ a w→Goes P B g σ a w o σ') {id:Nat} {ops:Array Oper} {d:Bool} {σ':St} (h:Zm7 Γ R T ops d σ=some σ'):Tri P (.region id ops d) σ .normal σ':=by
 cases d with
 | true=>exact Zvm hΓ hm hR hT h
 | false=>exact fun B g a w hI=>wp_region_list (Zhd hT hI h fun a' w' hp=>⟨trivial,hp⟩)
theorem Zvo{Γ:List (Nat×Ty)}(hΓ:Yo P Γ)(hm:P.follows .mixedOrders=true){R:Nat→St→Oper→Option Res}(hR:∀j τ o r,R j τ o=some r→W4 P τ o r)
 {T:Nat→St→Oper→Option St} (hT:∀j σ o σ',T j σ o=some σ'→∀B g a w,Inv P B g σ a w→Goes P B g σ a w o σ'):
 ∀(n:Nat),(∀(c:Code) (σ σ':St) (e:Ex),YP Γ R T n none c σ=some (e,σ')→Tri P c σ e σ'∧∀b,c= .loop b→∃k,Zaz P k b σ e σ')∧∀(s c:Code) (σ σ':St) (e:Ex),YP Γ R T n (some s) c σ=some (e,σ')→∃k,Zk4 P s k c σ e σ':=by
 intro n
 induction n with
 | zero=>exact ⟨fun c σ σ' e h=>absurd h (by simp[YP]),fun s c σ σ' e h=>absurd h (by simp[YP])⟩
 | succ n ih=>
   have one:∀c σ σ' e,YP Γ R T n none c σ=some (e,σ')→Tri P c σ e σ':=fun c σ σ' e h=>(ih.1 c σ σ' e h).1
   refine ⟨?_,fun s c σ σ' e h=>?_⟩
   rotate_left
   ·simp only[YP] at h
    split at h
    ·rename_i l σ1 h1
     split at h
     ·rename_i rest hf
      obtain ⟨k,hk⟩:=ih.2 s rest σ1 σ' e h
      exact ⟨k+1,Zss (Wy (one _ _ _ _ h1)) hf hk⟩
     ·cases h
    ·rename_i r hr
     refine ⟨1,Zvb (fun l he=>?_) (Wy (one _ _ _ _ h))⟩
     subst he
     exact hr l σ' h
   intro c σ σ' e h
   cases c with
   | skip=>refine ⟨?_,fun b hb=>absurd hb (by simp)⟩;have:=Qa_ h;cases this;exact fun B g a w hI=>wp_skip ⟨trivial,g,hI,Fr.refl⟩
   | label l=>refine ⟨?_,fun b hb=>absurd hb (by simp)⟩;have:=Qa_ h;cases this;exact fun B g a w hI=>wp_label ⟨trivial,g,hI,Fr.refl⟩
   | exit i=>refine ⟨?_,fun b hb=>absurd hb (by simp)⟩;have:=Qa_ h;cases this;exact fun B g a w hI=>wp_exit ⟨rfl,g,hI,Fr.refl⟩
   | goto i=>refine ⟨?_,fun b hb=>absurd hb (by simp)⟩;have:=Qa_ h;cases this;exact fun B g a w hI=>wp_goto ⟨rfl,g,hI,Fr.refl⟩
   | ret=>refine ⟨?_,fun b hb=>absurd hb (by simp)⟩;have:=Qa_ h;cases this;exact fun B g a w hI=>wp_ret ⟨trivial,g,hI,Fr.refl⟩
   | region id ops d=>
     refine ⟨?_,fun b hb=>absurd hb (by simp)⟩
     simp only[YP] at h
     split at h
     ·rename_i σ1 h1
      have:=Qa_ h
      cases this
      exact ZhD hΓ hm hR hT h1
     ·split at h
      ·rename_i σ1 hp
       split at h
       ·rename_i σ2 h1
        have:=Qa_ h
        cases this
        exact Z9r hp (ZhD hΓ hm hR hT h1)
       ·cases h
      ·cases h
   | seq x y=>
     refine ⟨?_,fun b hb=>absurd hb (by simp)⟩
     simp only[YP] at h
     split at h
     ·rename_i σ1 h1
      exact ZzW (one _ _ _ _ h1) (one _ _ _ _ h)
     ·rename_i r hr
      refine Znr (fun he=>?_) (one _ _ _ _ h)
      subst he
      exact hr σ' h
   | cond c x y=>
     refine ⟨?_,fun b hb=>absurd hb (by simp)⟩
     simp only[YP] at h
     split at h
     ·rename_i hc;exact ZiS hc (one _ _ _ _ h)
     ·rename_i hc;exact ZiS hc (one _ _ _ _ h)
     ·cases h
   | block id c=>
     refine ⟨?_,fun b hb=>absurd hb (by simp)⟩
     simp only[YP] at h
     split at h
     ·rename_i i σ1 h1
      have:=Qa_ h
      cases this
      exact ZhV (one _ _ _ _ h1)
     ·rename_i r hr
      refine ZgZ (one _ _ _ _ h) (fun i he=>?_)
      subst he
      exact hr i σ' h
   | loop c=>
     have hl:∃k,Zaz P k c σ e σ':=by
      simp only[YP] at h
      split at h
      ·rename_i σ1 h1
       obtain ⟨k,hk⟩:=(ih.1 _ _ _ _ h).2 c rfl
       exact ⟨k+1,ZiQ (Wy (one _ _ _ _ h1)) hk⟩
      ·rename_i r hr
       refine ⟨1,ZnD (fun he=>?_) (Wy (one _ _ _ _ h))⟩
       subst he
       exact hr σ' h
     refine ⟨?_,fun b hb=>by cases hb;exact hl⟩
     obtain ⟨k,hk⟩:=hl
     exact ZiR hk
   | scope c=>
     refine ⟨?_,fun b hb=>absurd hb (by simp)⟩
     simp only[YP] at h
     obtain ⟨k,hk⟩:=ih.2 c c σ σ' e h
     exact Zst hk
   | _=>exact absurd h (by simp[YP])
end
def Zv:List Nat→List PV→List PV→Option Bool
 | [],[],[]=>some true
 | 0::sh,.v (.int k a)::r,.v (.int k' b)::s=>bif decide (k=k') then (match Zv sh r s with | some c=>some (a==b&&c) | none=>none) else none
 | 1::sh,.v (.bool a)::r,.v (.bool b)::s=>match Zv sh r s with | some c=>some (a==b&&c) | none=>none
 | 2::sh,.str a::r,.str b::s=>match Zv sh r s with | some c=>some (a==b&&c) | none=>none
 | 3::sh,.v (.complex k a b)::r,.v (.complex k' a' b')::s=>bif decide (k=k') then (match Zv sh r s with | some c=>some (Op.floatEq k a a'&&Op.floatEq k b b'&&c) | none=>none) else none
 | _,_,_=>none
def Zvp(P:Program)(T:TypeId)(sh:List Nat):Prop:=
 P.eqGuardType P.depth T=false∧∀hw w vs ws xs ys b,ArgsRep hw w vs xs→ArgsRep hw w ws ys→Zv sh xs ys=some b→(Op.equalIn 10000 T (.agg vs.toArray) (.agg ws.toArray)).run P w= .ok b w
def CCOk(P:Program)(f:FuncId):Prop:=
 (∀args w,(callFunc f args).run P w= .ok (.enter f args) w)∧
 (∀(b:Nat) (w:World),w.cell? ⟨b,0,none⟩=some (.pointer none)→w.shape? b=some (Zc9,2)→w.frozen? ⟨b,0,none⟩=false→
   Calls P f #[.pointer (some ⟨b,0,none⟩)] w fun e w'=>e= .returned (.tuple #[])∧w'=w.setCell ⟨b,0,none⟩ (.pointer (some ⟨b,0,none⟩)))∧
 (∀(b:Nat) (w:World),w.cell? ⟨b,0,none⟩=some (.pointer (some ⟨b,0,none⟩))→Calls P f #[.pointer (some ⟨b,0,none⟩)] w fun e w'=>e= .returned (.tuple #[])∧w'=w)
def ZkE(P:Program)(f:FuncId)(e:TypeId):Prop:=
 (∀args w,(callFunc f args).run P w= .ok (.enter f args) w)∧
 (∀(b g cap cells:Nat) (l:List UInt8) (w:World),w.cell? ⟨b,1,none⟩=some (.slice (some ⟨g,0,none⟩) l.length cap)→w.shape? g=some (e,cells)→l≠[]→l.length≤cap→l.length≤cells→l.length≤maxLen→
   (∀(j:Nat) (x:UInt8),l[j]?=some x→w.cell? ⟨g,j,none⟩=some (.int .u8 x.toNat))→
   Calls P f #[.pointer (some ⟨b,0,none⟩)] w fun e w'=>e= .returned (.string ⟨l.toArray⟩)∧w'=w.drew.freeze ⟨g,0,none⟩ l.length)∧
 (∀(b:Nat) (w:World),w.cell? ⟨b,1,none⟩=some (.slice none 0 0)→Calls P f #[.pointer (some ⟨b,0,none⟩)] w fun e w'=>e= .returned (.string ⟨#[]⟩)∧w'=w.drew)
structure Env where
 Γ:List (Nat×Ty)
 eqs:List (Nat×List Nat)
 bools:List Nat
 ints:List (Nat×IntKind)
 flts:List (Nat×FloatKind)
 ifcs:List Nat
 fns:List (Nat×Func)
 wr:List Nat
 libs:List Nat
 lib:Nat→List PV→Option PV
 inl:List Nat
 cc:List Nat
 bst:List (Nat×Nat)
 sla:List Nat
structure EnvOk(P:Program)(E:Env):Prop where
 Γ:Yo P E.Γ
 mixed:P.follows .mixedOrders=true
 eqs:∀T sh,lk T E.eqs=some sh→Zvp P T sh
 bools:∀T,has T E.bools=true→P.underlying T=some .bool
 ints:∀T k,lk T E.ints=some k→P.underlying T=some (.int k)
 flts:∀T k,lk T E.flts=some k→P.underlying T=some (.float k)
 ifcs:∀T,has T E.ifcs=true→∃ms,P.underlying T=some (.interface ms)
 lib:∀f args r,E.lib f args=some r→Con P f args r
 cc:∀f,has f E.cc=true→CCOk P f
 bst:∀f e,lk f E.bst=some e→ZkE P f e∧∃i,P.info? e=some i∧i.size=1
 fns:∀f fn,lk f E.fns=some fn→P.funcs[f]?=some fn∧∀args w,(callFunc f args).run P w= .ok (.enter f args) w
def ZtM(op:BinOp)(k:IntKind)(a b:Int):Option PV:=
 match op with
 | .and=>some (.v (.int k (k.wrap (BitVec.ofInt k.bits a&&& BitVec.ofInt k.bits b).toNat)))
 | .or=>some (.v (.int k (k.wrap (BitVec.ofInt k.bits a||| BitVec.ofInt k.bits b).toNat)))
 | .xor=>some (.v (.int k (k.wrap (BitVec.ofInt k.bits a ^^^ BitVec.ofInt k.bits b).toNat)))
 | .andNot=>some (.v (.int k (k.wrap (BitVec.ofInt k.bits a&&& ~~~(BitVec.ofInt k.bits b)).toNat)))
 | _=>none
def ZoN(op:BinOp)(a b:Bool):Option PV:=
 match op with
 | .eql=>some (.v (.bool (a==b)))
 | .neq=>some (.v (.bool (!(a==b))))
 | _=>none
def Zvq(op:BinOp)(x y:Value):Option Value:=
 match x,y with
 | .float k a,.float k' b=>bif decide (k=k') then (match op with
   | .eql=>some (.bool (k.format.order a b==some .eq))
   | .neq=>some (.bool (k.format.order a b !=some .eq))
   | .lss=>some (.bool (k.format.order a b==some .lt))
   | .leq=>some (.bool (k.format.order a b==some .lt||k.format.order a b==some .eq))
   | .gtr=>some (.bool (k.format.order a b==some .gt))
   | .geq=>some (.bool (k.format.order a b==some .gt||k.format.order a b==some .eq))
   | .add=>match k.format.add a b with | some r=>some (.float k r) | none=>none
   | .sub=>match k.format.sub a b with | some r=>some (.float k r) | none=>none
   | .mul=>match k.format.mul a b with | some r=>some (.float k r) | none=>none
   | _=>none) else none
 | .complex k a b,.complex k' c d=>bif decide (k=k') then (match op with
   | .eql=>some (.bool (k.format.order a c==some .eq&&k.format.order b d==some .eq))
   | .neq=>some (.bool (!(k.format.order a c==some .eq&&k.format.order b d==some .eq)))
   | .add=>match k.format.add a c,k.format.add b d with | some r,some s=>some (.complex k r s) | _,_=>none
   | .sub=>match k.format.sub a c,k.format.sub b d with | some r,some s=>some (.complex k r s) | _,_=>none
   | _=>none) else none
 | _,_=>none
def X1(E:Env)(op:BinOp)(T:TypeId)(x y:PV):Option (List Obl):=
 match x,y with
 | .v (.int k a),.v (.int k' b)=>match op with
   | .quo=>bif b==0 then none else some [.pr True]
   | .rem=>bif b==0 then none else some [.pr True]
   | .shl=>bif decide (0≤b) then some [.pr True] else none
   | .shr=>bif decide (0≤b) then some [.pr True] else none
   | op=>match ZtM op k a b with
     | some r=>bif decide (k=k') then some [.bin op T x y r] else none
     | none=>some []
 | .v (.bool a),.v (.bool b)=>bif has T E.bools then (match ZoN op a b with | some r=>some [.bin op T x y r] | none=>none) else none
 | .agg xs,.agg ys=>match lk T E.eqs with
   | some sh=>match Zv sh xs ys with
     | some b=>match op with
       | .eql=>some [.bin op T x y (.v (.bool b))]
       | .neq=>some [.bin op T x y (.v (.bool (!b)))]
       | _=>none
     | none=>none
   | none=>none
 | .v a,.v b=>match Zvq op a b with
   | some r=>some [.bin op T x y (.v r)]
   | none=>none
 | .str a,.str b=>match op with
   | .add=>bif Nat.ble (a.length+b.length) 9223372036854775807 then some [.pr True] else none
   | _=>some []
 | _,_=>none
section
variable {P:Program}
theorem ZfQ:Yp P []:=fun o h=>by simp at h
theorem ZN{o:Obl}(h:o.holds P):Yp P [o]:=fun o' h'=>by simp at h';subst h';exact h
theorem Z0V{op:BinOp}{T:TypeId}{k:IntKind}{a b:Int}{r:PV}(h:ZtM op k a b=some r):(Obl.bin op T (.v (.int k a)) (.v (.int k b)) r).holds P:=by
 intro hw w vx vy ox oy hx hy
 rw[ZH hx,ZH hy,eqGuard_at_int]
 cases op<;>simp only[ZtM,Option.some.injEq,reduceCtorEq] at h<;>(subst h;exact ⟨_,by simp[binOp,Op.intBits],.v _ rfl⟩)
theorem Z0W{op:BinOp}{T:TypeId}{a b:Bool}{r:PV}(hT:P.underlying T=some .bool)(h:ZoN op a b=some r):(Obl.bin op T (.v (.bool a)) (.v (.bool b)) r).holds P:=by
 intro hw w vx vy ox oy hx hy
 rw[ZH hx,ZH hy]
 have hg:(eqGuard op T ox oy (.bool a) (.bool b)).run P w= .ok () w:=by cases op<;>simp[eqGuard]
 have he:(Op.equal T (.bool a) (.bool b)).run P w= .ok (a==b) w:=run_equalIn_bool' w 9999 T a b hT
 cases op<;>simp only[ZoN,Option.some.injEq,reduceCtorEq] at h
 ·subst h
  exact ⟨.bool (a==b),by rw[Sem.run_bind,hg,Result.andThen_ok];simp[binOp,he],.v _ rfl⟩
 ·subst h
  exact ⟨.bool (!(a==b)),by rw[Sem.run_bind,hg,Result.andThen_ok];simp[binOp,he],.v _ rfl⟩
theorem Z41{op:BinOp}{T:TypeId}{a b r:Value}(h:Zvq op a b=some r):(Obl.bin op T (.v a) (.v b) (.v r)).holds P:=by
 intro hw w vx vy ox oy hx hy
 rw[ZH hx,ZH hy]
 unfold Zvq at h
 split at h
 ·rename_i k a k' b
  cases hk:decide (k=k') with
  | false=>rw[hk] at h;cases h
  | true=>
    rw[hk] at h
    have:=Qy_ hk
    subst this
    have hg:(eqGuard op T ox oy (.float k a) (.float k b)).run P w= .ok () w:=by cases op<;>simp[eqGuard]
    rw[Sem.run_bind,hg,Result.andThen_ok]
    simp only[Qb_] at h
    split at h
    all_goals first
     | (have:=Qa_ h;subst this;exact ⟨_,by simp[binOp,Op.floatCmp],.v _ rfl⟩)
     | (split at h
        ·rename_i r0 hr0
         have:=Qa_ h;subst this
         exact ⟨_,by simp[binOp,Op.floatArith,hr0],.v _ rfl⟩
        ·cases h)
     | cases h
 ·rename_i k a b k' c d
  cases hk:decide (k=k') with
  | false=>rw[hk] at h;cases h
  | true=>
    rw[hk] at h
    have:=Qy_ hk
    subst this
    have hg:(eqGuard op T ox oy (.complex k a b) (.complex k c d)).run P w= .ok () w:=by cases op<;>simp[eqGuard]
    rw[Sem.run_bind,hg,Result.andThen_ok]
    simp only[Qb_] at h
    split at h
    all_goals first
     | (have:=Qa_ h;subst this;exact ⟨_,by simp[binOp,Op.complexOp,Op.Complex.cmp,Op.floatCmp,asBool],.v _ rfl⟩)
     | (split at h
        ·rename_i r0 s0 hr0 hs0
         have:=Qa_ h;subst this
         exact ⟨_,by simp[binOp,Op.complexOp,Op.Complex.arith,Op.floatArith,hr0,hs0],.v _ rfl⟩
        ·cases h)
     | cases h
 ·cases h
theorem Z42{T:TypeId}{sh:List Nat}{xs ys:List PV}{b:Bool}(hE:Zvp P T sh)(h:Zv sh xs ys=some b):
 (Obl.bin .eql T (.agg xs) (.agg ys) (.v (.bool b))).holds P∧(Obl.bin .neq T (.agg xs) (.agg ys) (.v (.bool (!b)))).holds P:=by
 constructor
 ·intro hw w vx vy ox oy hx hy
  obtain ⟨vs,rfl,hv⟩:=Zau hx
  obtain ⟨ws,rfl,hu⟩:=Zau hy
  have:=hE.2 hw w vs ws xs ys b ⟨hv.len,hv.rep⟩ ⟨hu.len,hu.rep⟩ h
  exact ⟨.bool b,by rw[Sem.run_bind,run_eqGuard_agg w _ _ _ _ _ _ hE.1,Result.andThen_ok,run_eql_struct,this,Result.andThen_ok],.v _ rfl⟩
 ·intro hw w vx vy ox oy hx hy
  obtain ⟨vs,rfl,hv⟩:=Zau hx
  obtain ⟨ws,rfl,hu⟩:=Zau hy
  have:=hE.2 hw w vs ws xs ys b ⟨hv.len,hv.rep⟩ ⟨hu.len,hu.rep⟩ h
  exact ⟨.bool (!b),by rw[Sem.run_bind,run_eqGuard_agg w _ _ _ _ _ _ hE.1,Result.andThen_ok,run_neq_struct,this,Result.andThen_ok],.v _ rfl⟩
theorem Zsz{op:BinOp}{T:TypeId}{x y:PV}{os' ob:List Obl}{r:PV}(h:Xl op T x y []=some (r,os',ob)):os'=[]∧ob=[]:=by
 unfold Xl at h
 split at h
 ·rename_i e;cases e
 ·split at h
  all_goals first
   | (have:=Qa_ h;cases this;exact ⟨rfl,rfl⟩)
   | (cases h;done)
   | skip
  rename_i k a k' b _ _ _ _
  cases hk:decide (k=k') with
  | false=>rw[hk] at h;cases h
  | true=>
    rw[hk] at h
    simp only[Qb_] at h
    split at h
    ·have:=Qa_ h;cases this;exact ⟨rfl,rfl⟩
    ·cases h
theorem Z0X{E:Env}(hE:EnvOk P E){op:BinOp}{T:TypeId}{x y:PV}{os os' ob:List Obl}{r:PV}(h:X1 E op T x y=some os)(h':Xl op T x y os=some (r,os',ob)):os'=[]∧Yp P ob:=by
 have binC:∀{r0:PV},os=[.bin op T x y r0]→(Obl.bin op T x y r0).holds P→os'=[]∧Yp P ob:=by
  intro r0 e ho
  subst e
  unfold Xl at h'
  have:=Qa_ h'
  cases this
  exact ⟨rfl,ZN ho⟩
 unfold X1 at h
 split at h
 ·rename_i k a k' b
  split at h
  ·cases hb:(b==0) with
   | true=>rw[hb] at h;cases h
   | false=>
     rw[hb] at h
     have:=Qa_ h
     subst this
     simp only[Xl] at h'
     cases hk:decide (k=k') with
     | false=>rw[hk] at h';cases h'
     | true=>
       rw[hk] at h'
       have:=Qa_ h'
       cases this
       exact ⟨rfl,ZN (show b≠0 from by simpa using hb)⟩
  ·cases hb:(b==0) with
   | true=>rw[hb] at h;cases h
   | false=>
     rw[hb] at h
     have:=Qa_ h
     subst this
     simp only[Xl] at h'
     cases hk:decide (k=k') with
     | false=>rw[hk] at h';cases h'
     | true=>
       rw[hk] at h'
       have:=Qa_ h'
       cases this
       exact ⟨rfl,ZN (show b≠0 from by simpa using hb)⟩
  ·cases hb:decide (0≤b) with
   | false=>rw[hb] at h;cases h
   | true=>
     rw[hb] at h
     have:=Qa_ h
     subst this
     simp only[Xl] at h'
     have:=Qa_ h'
     cases this
     exact ⟨rfl,ZN (show 0≤b from Qy_ hb)⟩
  ·cases hb:decide (0≤b) with
   | false=>rw[hb] at h;cases h
   | true=>
     rw[hb] at h
     have:=Qa_ h
     subst this
     simp only[Xl] at h'
     have:=Qa_ h'
     cases this
     exact ⟨rfl,ZN (show 0≤b from Qy_ hb)⟩
  ·split at h
   ·rename_i r0 hr0
    cases hk:decide (k=k') with
    | false=>rw[hk] at h;cases h
    | true=>
      rw[hk] at h
      have:=Qa_ h
      have hkk:=Qy_ hk
      subst hkk
      exact binC this.symm (Z0V hr0)
   ·have:=Qa_ h
    subst this
    obtain ⟨h1,h2⟩:=Zsz h'
    subst h2
    exact ⟨h1,ZfQ⟩
 ·rename_i a b
  cases hb:has T E.bools with
  | false=>rw[hb] at h;cases h
  | true=>
    rw[hb] at h
    simp only[Qb_] at h
    split at h
    ·rename_i r0 hr0
     exact binC (Qa_ h).symm (Z0W (hE.bools T hb) hr0)
    ·cases h
 ·rename_i xs ys
  split at h
  ·rename_i sh hsh
   split at h
   ·rename_i b hb
    obtain ⟨h1,h2⟩:=Z42 (hE.eqs T sh hsh) hb
    split at h
    ·exact binC (Qa_ h).symm h1
    ·exact binC (Qa_ h).symm h2
    ·cases h
   ·cases h
  ·cases h
 ·rename_i a b _ _
  split at h
  ·rename_i r0 hr0
   exact binC (Qa_ h).symm (Z41 hr0)
  ·cases h
 ·rename_i a b
  split at h
  ·cases hb:Nat.ble (a.length+b.length) 9223372036854775807 with
   | false=>rw[hb] at h;cases h
   | true=>
     rw[hb] at h
     have:=Qa_ h
     subst this
     simp only[Xl] at h'
     have:=Qa_ h'
     cases this
     exact ⟨rfl,ZN (show a.length+b.length≤9223372036854775807 from Qm_ hb)⟩
  ·have:=Qa_ h
   subst this
   obtain ⟨h1,h2⟩:=Zsz h'
   subst h2
   exact ⟨h1,ZfQ⟩
 ·cases h
end
abbrev XT:=Nat→List PV→Option PV
def Zhe(Γ:List (Nat×Ty))(T:TypeId)(x i:PV):Option (List Obl):=
 match lk T Γ,i with
 | some ty,.v (.int _ n)=>match ty.kd,x with
   | 4,.str l=>bif decide (0≤n)&&decide (n < l.length) then some [.pr True] else none
   | 2,.agg cs=>match lk ty.elem Γ with
     | some ety=>match (chunk ety.size ty.len cs)[n.toNat]? with
       | some y=>bif decide (0≤n) then some [.idx [] 0 y] else none
       | none=>none
     | none=>none
   | _,_=>none
 | _,_=>none
def Zaa(Γ:List (Nat×Ty))(T:TypeId)(x:AV)(i:PV):Option (List Obl):=
 match lk T Γ,i with
 | some ty,.v (.int _ n)=>match ty.kd,x with
   | 3,.p (.lst xs)=>match xs[n.toNat]? with
     | some y=>bif decide (0≤n) then some [.idx [] 0 y] else none
     | none=>none
   | 2,_=>bif decide (0≤n)&&decide (n < ty.len) then some [.pr True] else none
   | _,_=>none
 | _,_=>none
def Jg(n:Nat)(l:List (List PV)):Bool:=l.all fun x=>Nat.beq x.length n
def XR(Γ:List (Nat×Ty))(T:TypeId)(x:PV)(lo hi:Option PV):Option (List Obl):=
 match lk T Γ with
 | some ty=>match ty.kd,x,lo,hi with
   | 4,.str l,some (.v (.int _ a)),some (.v (.int _ b))=>bif decide (0≤a)&&decide (a≤b)&&decide (b≤l.length) then some [.pr True] else none
   | 4,.str l,some (.v (.int _ a)),none=>bif decide (0≤a)&&decide (a≤l.length) then some [.pr True] else none
   | 4,.str l,none,some (.v (.int _ b))=>bif decide (0≤b)&&decide (b≤l.length) then some [.pr True] else none
   | 3,.lst l,lo,hi=>match lk ty.elem Γ,lo,hi with
     | some ety,some (.v (.int _ a)),some (.v (.int _ b))=>bif decide (0≤a)&&decide (a≤b)&&decide (b≤l.length)&&Jg ety.size l then some [.pr True] else none
     | some ety,some (.v (.int _ a)),none=>bif decide (0≤a)&&decide (a≤l.length)&&Jg ety.size l then some [.pr True] else none
     | some ety,none,some (.v (.int _ b))=>bif decide (0≤b)&&decide (b≤l.length)&&Jg ety.size l then some [.pr True] else none
     | _,_,_=>none
   | _,_,_,_=>none
 | none=>none
def bytesOf:List (List PV)→Option (List UInt8)
 | []=>some []
 | [.v (.int .u8 n)]::r=>bif decide (0≤n)&&decide (n < 256) then (match bytesOf r with | some l=>some (UInt8.ofNat n.toNat::l) | none=>none) else none
 | _=>none
def WU(E:Env)(S:TypeId):Bool:=
 match lk S E.Γ with
 | some ty=>Nat.beq ty.kd 3&&(match lk ty.elem E.ints with | some .u8=>true | _=>false)
 | none=>false
def YX(E:Env)(S:TypeId):Bool:=
 match lk S E.Γ with
 | some ty=>Nat.beq ty.kd 4
 | none=>false
def Zvr(E:Env)(S T:TypeId)(n:Int):Option PV:=
 match lk S E.ints with
 | some _=>match lk T E.ints with
   | some k=>some (.v (.int k (k.wrap n)))
   | none=>match lk T E.flts with
     | some k=>some (.v (.float k (k.nearest n)))
     | none=>none
 | none=>none
def Zvs(E:Env)(S T:TypeId)(s:FloatKind)(b:Nat):Option PV:=
 match lk T E.ints,lk S E.flts with
 | some k,some _=>match (s.decode b).toInt .zero with
   | some n=>bif decide (k.min≤n)&&decide (n≤k.max) then some (.v (.int k n)) else none
   | none=>none
 | _,_=>none
def Zvt(E:Env)(S T:TypeId)(xs:List (List PV)):Option PV:=
 bif WU E S&&YX E T then (match bytesOf xs with | some l=>some (.str l) | none=>none) else none
def ZhX(E:Env)(S T:TypeId)(x:PV):Option PV:=
 match x with
 | .v (.int _ n)=>Zvr E S T n
 | .v (.float s b)=>Zvs E S T s b
 | .lst xs=>Zvt E S T xs
 | .nil=>bif WU E S&&YX E T then some (.str []) else none
 | .str l=>bif YX E S&&YX E T then some (.str l) else none
 | _=>none
def Zrr(b:Builtin)(xs:List PV):Option PV:=
 match b,xs with
 | .complex,[.v (.float k a),.v (.float k' c)]=>bif decide (k=k') then some (.v (.complex k a c)) else none
 | .real,[.v (.complex k a _)]=>some (.v (.float k a))
 | .imag,[.v (.complex k _ b)]=>some (.v (.float k b))
 | _,_=>none
def Zjb(call:XT)(σ:St)(f:Operand)(args:List Operand):Option PV:=
 match opd σ f,W6 (opd σ) args with
 | some (.p (.fn g cs)),some l=>match XO σ.boxes l with
   | some (xs,_)=>call g (xs++cs)
   | none=>none
 | some (.fnp g bs),some l=>match XO σ.boxes l,Zfl σ.boxes bs with
   | some (xs,_),some cs=>call g (xs++cs)
   | _,_=>none
 | _,_=>none
def WM(E:Env)(call:XT)(σ:St)(o:Oper):Option (List Obl):=
 match o.op with
 | .call ⟨.value f,args,_⟩=>match Zjb call σ f args.toList with
   | some r=>some [.call 0 [] r]
   | none=>none
 | .binOp op T x y _=>match ZA σ x,ZA σ y with
   | some a,some b=>X1 E op T a b
   | _,_=>none
 | .index T x i=>match ZA σ x,ZA σ i with
   | some a,some j=>Zhe E.Γ T a j
   | _,_=>none
 | .indexAddr T x i=>match opd σ x,ZA σ i with
   | some a,some j=>Zaa E.Γ T a j
   | _,_=>none
 | .slice T x lo hi none=>match ZA σ x with
   | some a=>match lo,hi with
     | none,none=>none
     | some l,none=>match ZA σ l with | some l=>XR E.Γ T a (some l) none | none=>none
     | none,some h=>match ZA σ h with | some h=>XR E.Γ T a none (some h) | none=>none
     | some l,some h=>match ZA σ l,ZA σ h with | some l,some h=>XR E.Γ T a (some l) (some h) | _,_=>none
   | none=>none
 | .slice _ _ _ _ (some _)=>none
 | .convert S T x=>match ZA σ x with
   | some a=>match ZhX E S T a with
     | some r=>some [.cvt S T a r]
     | none=>none
   | none=>none
 | .call ⟨.builtin b,args,ats⟩=>match W6 (ZA σ) args.toList with
   | some xs=>match Zrr b xs with
     | some r=>some [.blt b ats o.type xs r]
     | none=>some []
   | none=>none
 | _=>some []
def ZtN(Γ:List (Nat×Ty))(T:TypeId)(l c:PV):Option PV:=
 match lk T Γ,l,c with
 | some ty,.v (.int _ n),.v (.int _ m)=>bif decide (n=m)&&decide (0≤n)&&Nat.beq ty.kd 3 then
    match lk ty.elem Γ with
    | some ety=>bif Nat.beq ety.size 0||Nat.ble 16777216 (n.toNat *ety.size)||Nat.ble 16777216 (n.toNat *ety.bytes)|| !(Nat.beq ety.zero.length ety.size) then none else some (.lst (chunk ety.size n.toNat (reps n.toNat ety.zero)))
    | none=>none
   else none
 | _,_,_=>none
def ZoO(E:Env)(S T:TypeId)(l:List UInt8):Option PV:=
 bif YX E S&&WU E T then some (.lst (l.map fun b=>[.v (.int .u8 b.toNat)])) else none
def Zvu:Operand→Bool
 | .const .nilIface=>true
 | _=>false
def Zvv(E:Env)(op:BinOp)(T:TypeId)(x:PV):Option PV:=
 match op,x with
 | .eql,.v .nilIface=>bif has T E.ifcs then some (.v (.bool true)) else none
 | .neq,.v .nilIface=>bif has T E.ifcs then some (.v (.bool false)) else none
 | _,_=>none
def RRgen(E:Env)(call:XT)(σ:St)(o:Oper):Option Res:=
 match WM E call σ o with
 | some os=>match ZaR E.Γ σ o os with
   | some (r,_,_)=>some r
   | none=>none
 | none=>none
def ZfR(σ:St)(o:Oper)(x:Option PV):Option Res:=
 match o.dst,x with
 | some d,some x=>bif Nat.blt d σ.n then some ⟨.p x,none,none⟩ else none
 | _,_=>none
def RR(E:Env)(call:XT)(_:Nat)(σ:St)(o:Oper):Option Res:=
 match o.op with
 | .makeSlice T l c=>match ZA σ l,ZA σ c with
   | some l,some c=>ZfR σ o (ZtN E.Γ T l c)
   | _,_=>none
 | .convert S T x=>match ZA σ x with
   | some (.str l)=>match ZoO E S T l with
     | some r=>ZfR σ o (some r)
     | none=>RRgen E call σ o
   | _=>RRgen E call σ o
 | .binOp op T x y _=>match Zvu y with
   | true=>match ZA σ x with
     | some a=>ZfR σ o (Zvv E op T a)
     | none=>none
   | false=>RRgen E call σ o
 | _=>RRgen E call σ o
section
variable {P:Program}{B:Nat}{g:G}{σ τ:St}{a:Act}{w:World}{o:Oper}
theorem Z7a{op:UnOp}{x:PV}{os' ob:List Obl}{r:PV}(h:ZuP op x []=some (r,os',ob)):os'=[]∧ob=[]:=by
 unfold ZuP at h
 split at h
 ·rename_i e;cases e
 ·split at h
  all_goals first
   | (have:=Qa_ h;cases this;exact ⟨rfl,rfl⟩)
   | (cases h;done)
theorem Ztu{Γ:List (Nat×Ty)}{b:Builtin}{ats:Array TypeId}{T:TypeId}{xs:List PV}{os' ob:List Obl}{r:PV}(h:Zcm Γ b ats T xs []=some (r,os',ob)):os'=[]∧ob=[]:=by
 unfold Zcm at h
 split at h
 ·rename_i e;cases e
 ·repeat' split at h
  all_goals first
   | (have:=Qa_ h;cases this;exact ⟨rfl,rfl⟩)
   | (cases h;done)
theorem Z0Y{Γ:List (Nat×Ty)}{os' ob:List Obl}{r:Res}(h:Zs Γ σ o []=some (r,os',ob))(h1:∀op T x y yT,o.op≠ .binOp op T x y yT)(h2:∀f args ats,o.op≠ .call ⟨.value f,args,ats⟩)(h3:∀T x i,o.op≠ .index T x i)(h4:∀T x i,o.op≠ .indexAddr T x i)(h5:∀T x lo hi mx,o.op≠ .slice T x lo hi mx):os'=[]∧ob=[]:=by
 have val:∀{q:Option PV},(match q with | some x=>some ((⟨.p x,none,none⟩:Res),([]:List Obl),([]:List Obl)) | none=>none)=some (r,os',ob)→os'=[]∧ob=[]:=by
  intro q h
  split at h
  ·have:=Qa_ h;cases this;exact ⟨rfl,rfl⟩
  ·cases h
 have out:∀{q:Out PV},(∀x o1 o2,q=some (x,o1,o2)→o1=[]∧o2=[])→(match q with | some (x,os,ob)=>some ((⟨.p x,none,none⟩:Res),os,ob) | none=>none)=some (r,os',ob)→os'=[]∧ob=[]:=by
  intro q hq h
  obtain ⟨x,h1,_⟩:=Xm h
  exact hq x _ _ h1
 obtain ⟨dst,op,type,pos,after,guard⟩:=o
 cases op with
 | binOp op T x y yT=>exact absurd rfl (h1 op T x y yT)
 | index T x i=>exact absurd rfl (h3 T x i)
 | indexAddr T x i=>exact absurd rfl (h4 T x i)
 | slice T x lo hi mx=>exact absurd rfl (h5 T x lo hi mx)
 | call c=>
   obtain ⟨callee,args,ats⟩:=c
   cases callee with
   | value f=>exact absurd rfl (h2 f args ats)
   | builtin b=>
     simp only[Zs] at h
     split at h
     ·exact out (fun x o1 o2 hq=>Ztu hq) h
     ·cases h
   | invoke r m=>exact absurd h (by simp[Zs])
 | unOp op T x=>
   simp only[Zs] at h
   split at h
   ·exact out (fun x o1 o2 hq=>Z7a hq) h
   ·cases h
 | convert S T x=>
   simp only[Zs] at h
   split at h
   ·rename_i e;cases e
   ·cases h
 | pick c x y=>simp only[Zs] at h;split at h<;>first | exact val h | cases h
 | build T ps=>simp only[Zs] at h;split at h<;>first | exact val h | cases h
 | buildSlice T n ps=>simp only[Zs] at h;split at h<;>first | exact val h | cases h
 | field T x f=>simp only[Zs] at h;split at h<;>first | exact val h | cases h
 | extract x i=>simp only[Zs] at h;split at h<;>first | exact val h | cases h
 | makeFunc fn first caps=>
   cases fn with
   | func f=>
     simp only[Zs] at h
     split at h
     ·split at h
      ·cases hb:Nat.beq first.size 0 with
       | false=>rw[hb] at h;cases h
       | true=>rw[hb] at h;have:=Qa_ h;cases this;exact ⟨rfl,rfl⟩
      ·cases h
     ·cases h
   | _=>exact absurd h (by simp[Zs])
 | _=>
   first
    | (simp only[Zs] at h;(repeat' split at h);all_goals first | (have:=Qa_ h;cases this;exact ⟨rfl,rfl⟩) | (cases h;done))
    | exact absurd h (by simp[Zs])
theorem Zcd{n:Nat}{l:List (List PV)}(h:Jg n l=true):Lens n l:=fun x hx=>Qj_ (QK_.1 h x hx)
theorem ZfS{Γ:List (Nat×Ty)}{T:TypeId}{x:PV}{lo hi:Option PV}{os os' ob:List Obl}{r:PV}(h:XR Γ T x lo hi=some os)(h':Xf Γ T x lo hi os=some (r,os',ob)):os'=[]∧Yp P ob:=by
 unfold XR at h
 split at h
 ·rename_i ty hty
  split at h
  ·rename_i l k a k' b hk
   cases hb:(decide (0≤a)&&decide (a≤b)&&decide (b≤l.length)) with
   | false=>rw[hb] at h;cases h
   | true=>
     rw[hb] at h
     have:=Qa_ h
     subst this
     simp only[Qh_] at hb
     simp only[Xf,hty,hk] at h'
     have:=Qa_ h'
     cases this
     exact ⟨rfl,ZN (show 0≤a∧a≤b∧b≤l.length from ⟨Qy_ hb.1.1,Qy_ hb.1.2,Qy_ hb.2⟩)⟩
  ·rename_i l k a hk
   cases hb:(decide (0≤a)&&decide (a≤l.length)) with
   | false=>rw[hb] at h;cases h
   | true=>
     rw[hb] at h
     have:=Qa_ h
     subst this
     simp only[Qh_] at hb
     simp only[Xf,hty,hk] at h'
     have:=Qa_ h'
     cases this
     exact ⟨rfl,ZN (show 0≤a∧a≤l.length from ⟨Qy_ hb.1,Qy_ hb.2⟩)⟩
  ·rename_i l k b hk
   cases hb:(decide (0≤b)&&decide (b≤l.length)) with
   | false=>rw[hb] at h;cases h
   | true=>
     rw[hb] at h
     have:=Qa_ h
     subst this
     simp only[Qh_] at hb
     simp only[Xf,hty,hk] at h'
     have:=Qa_ h'
     cases this
     exact ⟨rfl,ZN (show 0≤b∧b≤l.length from ⟨Qy_ hb.1,Qy_ hb.2⟩)⟩
  ·rename_i l hk
   split at h
   ·rename_i ety k a k' b hety
    cases hb:(decide (0≤a)&&decide (a≤b)&&decide (b≤l.length)&&Jg ety.size l) with
    | false=>rw[hb] at h;cases h
    | true=>
      rw[hb] at h
      have:=Qa_ h
      subst this
      simp only[Qh_] at hb
      simp only[Xf,hty,hk,hety] at h'
      have:=Qa_ h'
      cases this
      exact ⟨rfl,ZN (show 0≤a∧a≤b∧b≤l.length∧Lens ety.size l from ⟨Qy_ hb.1.1.1,Qy_ hb.1.1.2,Qy_ hb.1.2,Zcd hb.2⟩)⟩
   ·rename_i ety k a hety
    cases hb:(decide (0≤a)&&decide (a≤l.length)&&Jg ety.size l) with
    | false=>rw[hb] at h;cases h
    | true=>
      rw[hb] at h
      have:=Qa_ h
      subst this
      simp only[Qh_] at hb
      simp only[Xf,hty,hk,hety] at h'
      have:=Qa_ h'
      cases this
      exact ⟨rfl,ZN (show 0≤a∧a≤l.length∧Lens ety.size l from ⟨Qy_ hb.1.1,Qy_ hb.1.2,Zcd hb.2⟩)⟩
   ·rename_i ety k b hety
    cases hb:(decide (0≤b)&&decide (b≤l.length)&&Jg ety.size l) with
    | false=>rw[hb] at h;cases h
    | true=>
      rw[hb] at h
      have:=Qa_ h
      subst this
      simp only[Qh_] at hb
      simp only[Xf,hty,hk,hety] at h'
      have:=Qa_ h'
      cases this
      exact ⟨rfl,ZN (show 0≤b∧b≤l.length∧Lens ety.size l from ⟨Qy_ hb.1.1,Qy_ hb.1.2,Zcd hb.2⟩)⟩
   ·cases h
  ·cases h
 ·cases h
theorem Zjc{E:Env}(hE:EnvOk P E){S:TypeId}(h:WU E S=true):∃e,P.underlying S=some (.slice e)∧P.underlying e=some (.int .u8):=by
 unfold WU at h
 split at h
 ·rename_i ty hty
  rw[Qh_] at h
  obtain ⟨_,hk3,_⟩:=YW (Yg (hE.Γ _ _ hty))
  refine ⟨ty.elem,hk3 (Qj_ h.1), ?_⟩
  have h2:=h.2
  split at h2
  ·rename_i hu;exact hE.ints _ _ hu
  ·cases h2
 ·cases h
theorem Zcp{E:Env}(hE:EnvOk P E){S:TypeId}(h:YX E S=true):P.underlying S=some .string:=by
 unfold YX at h
 split at h
 ·rename_i ty hty
  exact (YW (Yg (hE.Γ _ _ hty))).2.2 (Qj_ h)
 ·cases h
theorem ZhE:∀{xs:List (List PV)} {l:List UInt8},bytesOf xs=some l→l.length=xs.length∧∀(j:Nat) (hj:j < l.length),xs[j]?=some [.v (.int .u8 (l[j].toNat:Int))]
 | [],l,h=>by
   have:=Qa_ h
   subst this
   exact ⟨rfl,fun j hj=>by simp at hj⟩
 | x::r,l,h=>by
   unfold bytesOf at h
   split at h
   ·rename_i e;cases e
   ·rename_i n r' e
    cases e
    cases hb:(decide (0≤n)&&decide (n < 256)) with
    | false=>rw[hb] at h;cases h
    | true=>
      rw[hb] at h
      simp only[Qb_] at h
      rw[Qh_] at hb
      have h0:=Qy_ hb.1
      have h1:=Qy_ hb.2
      split at h
      ·rename_i l' hl'
       have:=Qa_ h
       subst this
       obtain ⟨e1,e2⟩:=ZhE hl'
       refine ⟨by simp[e1],fun j hj=>?_⟩
       cases j with
       | zero=>
         have:((UInt8.ofNat n.toNat).toNat:Int)=n:=by
          rw[UInt8.toNat_ofNat']
          omega
         simp only[List.getElem?_cons_zero,List.getElem_cons_zero,this]
       | succ j=>
         simp only[List.getElem?_cons_succ,List.getElem_cons_succ]
         exact e2 j (by simpa using hj)
      ·cases h
   ·cases h
theorem Z0Z{E:Env}(hE:EnvOk P E){S T:TypeId}{x r:PV}(h:ZhX E S T x=some r):(Obl.cvt S T x r).holds P:=by
 unfold ZhX at h
 split at h
 ·rename_i k n
  unfold Zvr at h
  split at h
  ·rename_i k2 hS
   have e2:=hE.ints S k2 hS
   split at h
   ·rename_i k1 hT
    have:=Qa_ h
    subst this
    intro hw w vx hx
    rw[ZH hx]
    have e1:=hE.ints T k1 hT
    have e3:P.intKind T=k1:=by simp[Program.intKind,e1]
    exact ⟨.int k1 (k1.wrap n),by rw[run_convert_int w S T k n (by rw[e2];rfl) (by rw[e3];exact e1),e3],.v _ rfl⟩
   ·split at h
    ·rename_i k1 hT
     have:=Qa_ h
     subst this
     intro hw w vx hx
     rw[ZH hx]
     exact ⟨_,run_convert_int_float w S T k k1 n (by rw[e2];rfl) (hE.flts T k1 hT),.v _ rfl⟩
    ·cases h
  ·cases h
 ·rename_i s b
  unfold Zvs at h
  split at h
  ·rename_i k k2 hT hS
   split at h
   ·rename_i n hn
    cases hb:(decide (k.min≤n)&&decide (n≤k.max)) with
    | false=>rw[hb] at h;cases h
    | true=>
      rw[hb] at h
      have:=Qa_ h
      subst this
      rw[Qh_] at hb
      have hr:k.min≤n∧n≤k.max:=⟨Qy_ hb.1,Qy_ hb.2⟩
      intro hw w vx hx
      rw[ZH hx]
      refine ⟨.int k n, ?_,.v _ rfl⟩
      have e1:=hE.ints T k hT
      have e2:=hE.flts S k2 hS
      have e3:(convert S T (.float s b)).run P w=(Conv.floatToInt s b k).run P w:=by simp[convert,run_underlying e1,run_underlying e2]
      rw[e3]
      simp[Conv.floatToInt,hn,hr]
   ·cases h
  ·cases h
 ·rename_i xs
  unfold Zvt at h
  cases hb:(WU E S&&YX E T) with
  | false=>rw[hb] at h;cases h
  | true=>
    rw[hb] at h
    simp only[Qb_] at h
    rw[Qh_] at hb
    obtain ⟨e,hS,he⟩:=Zjc hE hb.1
    have hT:=Zcp hE hb.2
    split at h
    ·rename_i l hl
     have:=Qa_ h
     subst this
     obtain ⟨h1,h2⟩:=ZhE hl
     intro hw w vx hx
     generalize hq:(PV.lst xs)=q at *
     cases hx with
     | lnil=>
       cases hq
       cases hl
       refine ⟨.string ⟨([]:List UInt8).toArray⟩, ?_,.str []⟩
       rw[run_convert_bytes_string w S T e none 0 0 hS he hT]
       rfl
     | lst xs' blk off cap s c hcap hlen hc hr h1' hh=>
       cases hq
       refine ⟨.string ⟨l.toArray⟩, ?_,.str l⟩
       rw[←h1]
       refine run_convert_bytes_back w S T e ⟨blk,off,none⟩ cap l hS he hT fun j hj=>?_
       have hx:=h2 j hj
       have hs:s=1:=(hlen j _ hx).symm
       subst hs
       have:=hc j 0 (by omega) (by omega)
       rw[Addr.add_lit]
       simp only[Nat.mul_one,Nat.add_zero] at this
       rw[this]
       have:=hr j 0 _ _ hx rfl
       rw[ZH this]
     | _=>cases hq
    ·cases h
 ·cases hb:(WU E S&&YX E T) with
  | false=>rw[hb] at h;cases h
  | true=>
    rw[hb] at h
    have:=Qa_ h
    subst this
    rw[Qh_] at hb
    obtain ⟨e,hS,he⟩:=Zjc hE hb.1
    have hT:=Zcp hE hb.2
    intro hw w vx hx
    cases hx
    refine ⟨.string ⟨([]:List UInt8).toArray⟩, ?_,.str []⟩
    rw[run_convert_bytes_string w S T e none 0 0 hS he hT]
    rfl
 ·rename_i l
  cases hb:(YX E S&&YX E T) with
  | false=>rw[hb] at h;cases h
  | true=>
    rw[hb] at h
    have:=Qa_ h
    subst this
    rw[Qh_] at hb
    intro hw w vx hx
    rw[XP hx]
    exact ⟨.string ⟨l.toArray⟩,by simp[convert,run_underlying (Zcp hE hb.1),run_underlying (Zcp hE hb.2)],.str l⟩
 ·cases h
theorem Zjd{hw:Nat→Nat}{w:World}{vals:List Value}{x:PV}(h:ArgsRep hw w vals [x]):∃v,vals=[v]∧Rep hw w v x:=by
 have hl:=h.len
 cases vals with
 | nil=>simp at hl
 | cons v r=>cases r with
   | nil=>exact ⟨v,rfl,h.rep 0 v x rfl rfl⟩
   | cons _ _=>simp at hl
theorem Z7b{hw:Nat→Nat}{w:World}{vals:List Value}{x y:PV}(h:ArgsRep hw w vals [x,y]):∃v u,vals=[v,u]∧Rep hw w v x∧Rep hw w u y:=by
 have hl:=h.len
 cases vals with
 | nil=>simp at hl
 | cons v r=>cases r with
   | nil=>simp at hl
   | cons u r=>cases r with
     | nil=>exact ⟨v,u,rfl,h.rep 0 v x rfl rfl,h.rep 1 u y rfl rfl⟩
     | cons _ _=>simp at hl
theorem Z1a{b:Builtin}{ats:Array TypeId}{T:TypeId}{xs:List PV}{r:PV}(h:Zrr b xs=some r):(Obl.blt b ats T xs r).holds P:=by
 intro hw w vals cs hx
 unfold Zrr at h
 split at h
 ·rename_i k a k' c
  cases hk:decide (k=k') with
  | false=>rw[hk] at h;cases h
  | true=>
    rw[hk] at h
    have:=Qy_ hk
    subst this
    have:=Qa_ h
    subst this
    obtain ⟨v,u,rfl,h1,h2⟩:=Z7b hx
    rw[ZH h1,ZH h2]
    have e:Builtin.complex_ ats T #[.float k a,.float k c]=pure (.complex k a c):=if_pos rfl
    refine ⟨.complex k a c, ?_,.v _ rfl⟩
    show (do pure (Next.value (←Builtin.complex_ ats T #[.float k a,.float k c])):Sem Next).run P w=_
    rw[e]
    rfl
 ·have:=Qa_ h
  subst this
  obtain ⟨v,rfl,h1⟩:=Zjd hx
  rw[ZH h1]
  exact ⟨_,rfl,.v _ rfl⟩
 ·have:=Qa_ h
  subst this
  obtain ⟨v,rfl,h1⟩:=Zjd hx
  rw[ZH h1]
  exact ⟨_,rfl,.v _ rfl⟩
 ·cases h
def ZfT(P:Program)(call:XT):Prop:=∀f args r,call f args=some r→Con P f args r
theorem Z7c{E:Env}(hE:EnvOk P E){call:XT}(hC:ZfT P call){os os' ob:List Obl}{r:Res}(h:WM E call σ o=some os)(h':Zs E.Γ σ o os=some (r,os',ob)):os'=[]∧Yp P ob:=by
 have nil:os=[]→(∀op T x y yT,o.op≠ .binOp op T x y yT)→(∀f args ats,o.op≠ .call ⟨.value f,args,ats⟩)→(∀T x i,o.op≠ .index T x i)→(∀T x i,o.op≠ .indexAddr T x i)→(∀T x lo hi mx,o.op≠ .slice T x lo hi mx)→os'=[]∧Yp P ob:=by
  intro e h1 h2 h3 h4 h5
  subst e
  obtain ⟨q1,q2⟩:=Z0Y h' h1 h2 h3 h4 h5
  subst q2
  exact ⟨q1,ZfQ⟩
 unfold WM at h
 split at h
 ·rename_i f args ats hop
  split at h
  ·rename_i r0 hr0
   have:=Qa_ h
   subst this
   obtain ⟨dst,op,type,pos,after,guard⟩:=o
   simp only at hop
   subst hop
   simp only[Zs] at h'
   unfold Zjb at hr0
   split at hr0
   ·rename_i g0 cs l hf hl
    rw[hf,hl] at h'
    simp only at h'
    split at hr0
    ·rename_i xs c hh
     rw[hh] at h'
     simp only at h'
     cases hb:(!c||flat r0) with
     | false=>rw[hb] at h';cases h'
     | true=>
       rw[hb] at h'
       have:=Qa_ h'
       cases this
       exact ⟨rfl,ZN (hC _ _ _ hr0)⟩
    ·cases hr0
   ·rename_i g0 bs l hf hl
    rw[hf,hl] at h'
    simp only at h'
    split at hr0
    ·rename_i xs c cs hh hbs
     rw[hh,hbs] at h'
     simp only at h'
     cases hb:flat r0 with
     | false=>rw[hb] at h';cases h'
     | true=>
       rw[hb] at h'
       have:=Qa_ h'
       cases this
       exact ⟨rfl,ZN (hC _ _ _ hr0)⟩
    ·cases hr0
   ·cases hr0
  ·cases h
 ·rename_i op T x y yT hop
  split at h
  ·rename_i u v hu hv
   obtain ⟨dst,op',type,pos,after,guard⟩:=o
   simp only at hop
   subst hop
   simp only[Zs,hu,hv] at h'
   obtain ⟨q,h1,_⟩:=Xm h'
   exact Z0X hE h h1
  ·cases h
 ·rename_i T x i hop
  split at h
  ·rename_i u v hu hv
   obtain ⟨dst,op',type,pos,after,guard⟩:=o
   simp only at hop
   subst hop
   simp only[Zs,hu,hv] at h'
   obtain ⟨q,h1,_⟩:=Xm h'
   unfold Zhe at h
   split at h
   ·rename_i ty k n hty
    split at h
    ·rename_i l hk
     cases hb:(decide (0≤n)&&decide (n < l.length)) with
     | false=>rw[hb] at h;cases h
     | true=>
       rw[hb] at h
       have:=Qa_ h
       subst this
       rw[Qh_] at hb
       unfold ZdA at h1
       simp only[hty,hk] at h1
       have:=Qa_ h1
       cases this
       exact ⟨rfl,ZN (show 0≤n∧n < l.length from ⟨Qy_ hb.1,Qy_ hb.2⟩)⟩
    ·rename_i cs hk
     split at h
     ·rename_i ety hety
      split at h
      ·rename_i y hy
       cases hb:decide (0≤n) with
       | false=>rw[hb] at h;cases h
       | true=>
         rw[hb] at h
         have:=Qa_ h
         subst this
         unfold ZdA at h1
         simp only[hty,hk,hety] at h1
         cases hb2:(Nat.beq cs.length (ty.len *ety.size)&& !(Nat.beq ety.size 0)) with
         | false=>rw[hb2] at h1;cases h1
         | true=>
           rw[hb2] at h1
           simp only[Qb_] at h1
           split at h1
           ·cases hb3:Nat.beq y.length ety.size with
            | false=>rw[hb3] at h1;cases h1
            | true=>
              rw[hb3] at h1
              have:=Qa_ h1
              cases this
              exact ⟨rfl,ZN (show 0≤n∧(chunk ety.size ty.len cs)[n.toNat]?=some y from ⟨Qy_ hb,hy⟩)⟩
           ·cases h1
      ·cases h
     ·cases h
    ·cases h
   ·cases h
  ·cases h
 ·rename_i T x i hop
  split at h
  ·rename_i u v hu hv
   obtain ⟨dst,op',type,pos,after,guard⟩:=o
   simp only at hop
   subst hop
   unfold Zaa at h
   split at h
   ·rename_i ty k n hty
    simp only[Zs,hty,hu,hv] at h'
    split at h
    ·rename_i xs hk
     split at h
     ·rename_i y hy
      cases hb:decide (0≤n) with
      | false=>rw[hb] at h;cases h
      | true=>
        rw[hb] at h
        have:=Qa_ h
        subst this
        simp only[hk] at h'
        split at h'
        ·rename_i ety xs' i' y' os2 hety heq
         cases heq
         cases hb2:(Nat.beq y.length ety.size&& !(Nat.beq ety.size 0)) with
         | false=>rw[hb2] at h';cases h'
         | true=>
           rw[hb2] at h'
           have:=Qa_ h'
           cases this
           exact ⟨rfl,ZN (show 0≤n∧xs[n.toNat]?=some y from ⟨Qy_ hb,hy⟩)⟩
        ·cases h'
     ·cases h
    ·rename_i hk
     cases hb:(decide (0≤n)&&decide (n < ty.len)) with
     | false=>rw[hb] at h;cases h
     | true=>
       rw[hb] at h
       have:=Qa_ h
       subst this
       rw[Qh_] at hb
       have hp:0≤n∧n < ty.len:=⟨Qy_ hb.1,Qy_ hb.2⟩
       simp only[hk] at h'
       split at h'
       ·rename_i e;cases e
       ·split at h'
        ·rename_i e;cases e;have:=Qa_ h';cases this;exact ⟨rfl,ZN hp⟩
        ·cases h'
       ·split at h'
        ·rename_i e;cases e;have:=Qa_ h';cases this;exact ⟨rfl,ZN hp⟩
        ·cases h'
       ·cases h'
    ·cases h
   ·cases h
  ·cases h
 ·rename_i T x lo hi hop
  obtain ⟨dst,op',type,pos,after,guard⟩:=o
  simp only at hop
  subst hop
  simp only[Zs] at h'
  split at h
  ·rename_i u hu
   rw[hu] at h'
   simp only at h'
   split at h
   ·cases h
   ·rename_i l
    split at h
    ·rename_i lv hlv
     simp only[hlv] at h'
     obtain ⟨q,h1,_⟩:=Xm h'
     exact ZfS h h1
    ·cases h
   ·rename_i hh
    split at h
    ·rename_i hv hhv
     simp only[hhv] at h'
     obtain ⟨q,h1,_⟩:=Xm h'
     exact ZfS h h1
    ·cases h
   ·rename_i l hh
    split at h
    ·rename_i lv hv hlv hhv
     simp only[hlv,hhv] at h'
     obtain ⟨q,h1,_⟩:=Xm h'
     exact ZfS h h1
    ·cases h
  ·cases h
 ·cases h
 ·rename_i S T x hop
  obtain ⟨dst,op',type,pos,after,guard⟩:=o
  simp only at hop
  subst hop
  simp only[Zs] at h'
  split at h
  ·rename_i u hu
   rw[hu] at h'
   split at h
   ·rename_i r0 hr0
    have:=Qa_ h
    subst this
    simp only at h'
    have:=Qa_ h'
    cases this
    exact ⟨rfl,ZN (Z0Z hE hr0)⟩
   ·cases h
  ·cases h
 ·rename_i b args ats hop
  split at h
  ·rename_i xs hxs
   split at h
   ·rename_i r0 hr0
    have:=Qa_ h
    subst this
    obtain ⟨dst,op',type,pos,after,guard⟩:=o
    simp only at hop
    subst hop
    simp only[Zs,hxs,Zcm] at h'
    have:=Qa_ h'
    cases this
    exact ⟨rfl,ZN (Z1a hr0)⟩
   ·exact nil (Qa_ h).symm (fun op T x y yT e=>by rw[hop] at e;cases e) (fun f args ats e=>by rw[hop] at e;cases e) (fun T x i e=>by rw[hop] at e;cases e) (fun T x i e=>by rw[hop] at e;cases e) (fun T x lo hi mx e=>by rw[hop] at e;cases e)
  ·cases h
 ·rename_i q1 q2 q3 q4 q5 q6 q7 q8
  exact nil (Qa_ h).symm (fun op T x y yT e=>q2 op T x y yT e) (fun f args ats e=>q1 f args ats e) (fun T x i e=>q3 T x i e) (fun T x i e=>q4 T x i e) (fun T x lo hi mx e=>by
   cases mx with
   | none=>exact q5 T x lo hi e
   | some m=>exact q6 T x lo hi m e)
theorem ZyY{Γ:List (Nat×Ty)}(hΓ:Yo P Γ){hw:Nat→Nat}(hl0:∀k,w.heap.size≤k→hw k=0){T:TypeId}{l c x:PV}(h:ZtN Γ T l c=some x){vl vc:Value}(hl:Rep hw w vl l)(hc:Rep hw w vc c):
 ∃v w' hw',(Instr.makeSlice T vl vc).run P w= .ok v w'∧Qt hw w hw' w'∧Rep hw' w' v x:=by
 unfold ZtN at h
 split at h
 ·rename_i ty k n k' m hty
  cases hb:(decide (n=m)&&decide (0≤n)&&Nat.beq ty.kd 3) with
  | false=>rw[hb] at h;cases h
  | true=>
    rw[hb] at h
    simp only[Qb_] at h
    simp only[Qh_] at hb
    obtain ⟨⟨b1,b2⟩,b3⟩:=hb
    have e1:=Qy_ b1
    have e2:=Qy_ b2
    have hkd:=Qj_ b3
    subst e1
    split at h
    ·rename_i ety hety
     cases hb:(Nat.beq ety.size 0||Nat.ble 16777216 (n.toNat *ety.size)||Nat.ble 16777216 (n.toNat *ety.bytes)|| !(Nat.beq ety.zero.length ety.size)) with
     | true=>rw[hb] at h;cases h
     | false=>
       rw[hb] at h
       have:=Qa_ h
       subst this
       simp only[Ka_,Qf_] at hb
       obtain ⟨⟨⟨c1,c2⟩,c3⟩,c4⟩:=hb
       have hs0:ety.size≠0:=fun h0=>by rw[h0] at c1;exact absurd c1 (by decide)
       have hn1:n.toNat *ety.size < 16777216:=by
        rcases Ki_ (n.toNat *ety.size) 16777216 with h | h
        ·exact h
        ·rw[QF_ h] at c2;cases c2
       have hn2:n.toNat *ety.bytes < 16777216:=by
        rcases Ki_ (n.toNat *ety.bytes) 16777216 with h | h
        ·exact h
        ·rw[QF_ h] at c3;cases c3
       have hET:=Yg (hΓ _ _ hety)
       obtain ⟨i,z,hi,hz,s1,s2,s3,s4,s5⟩:=hET.info
       obtain ⟨_,hk3,_⟩:=YW (Yg (hΓ _ _ hty))
       have hu:=hk3 hkd
       rw[ZH hl,ZH hc]
       have hnn:(n.toNat:Int)=n:=Int.toNat_of_nonneg e2
       have hle:n.toNat≤n.toNat *ety.size:=Nat.le_mul_of_pos_right _ (by omega)
       have hrun:=run_makeSlice (P:=P) w T ty.elem i z hu hi hz k k' n n e2 (Kg_ _) (by rw[←s1];omega) (by rw[←s2,←hnn,←Int.natCast_mul,Nat.mul_comm];omega) (by omega)
       have hcells:madeCells z.cells (n.toNat *i.size)=(JH n.toNat z.cells.toList++[]).toArray:=by
        rw[QI_,←s5]
        exact ZiL (by rw[s5,←s1];omega) n.toNat
       rw[hcells] at hrun
       have hlen:(reps n.toNat ety.zero).length=n.toNat *ety.size:=by rw[Z6M,Qj_ c4]
       refine ⟨_,_,fun k=>if k=w.heap.size then n.toNat *ety.size else hw k,hrun,ZiI hl0 (fun k hk=>by simp[hk]) _, ?_⟩
       refine ZiJ hl0 ?_ hlen (Q2_ _) ty.elem
       rw[s3]
       exact ZiK s4 n.toNat
    ·cases h
 ·cases h
theorem ZyZ{E:Env}(hE:EnvOk P E){hw:Nat→Nat}(hl0:∀k,w.heap.size≤k→hw k=0){S T:TypeId}{l:List UInt8}{x:PV}(h:ZoO E S T l=some x):
 ∃v w' hw',(convert S T (.string ⟨l.toArray⟩)).run P w= .ok v w'∧Qt hw w hw' w'∧Rep hw' w' v x:=by
 unfold ZoO at h
 cases hb:(YX E S&&WU E T) with
 | false=>rw[hb] at h;cases h
 | true=>
   rw[hb] at h
   have:=Qa_ h
   subst this
   rw[Qh_] at hb
   obtain ⟨e,hT,he⟩:=Zjc hE hb.2
   have hrun:=run_bytes_of_string (P:=P) w S T e ⟨l.toArray⟩ (Zcp hE hb.1) hT he
   have hsz:(⟨l.toArray⟩:ByteArray).size=l.length:=by show l.toArray.size=_;simp
   rw[hsz] at hrun
   refine ⟨_,_,fun k=>if k=w.heap.size then l.length else hw k,hrun,⟨((Below.refl _ _).drew).alloc (Q2_ _) _,fun k hk=>if_neg (by omega),fun k hk=>?_⟩, ?_⟩
   ·have:w.heap.size < k:=by
     have h2:w.heap.size+1≤k:=by simpa using hk
     omega
    exact (if_neg (by omega)).trans (hl0 k (by omega))
   ·have key:=fun j=>World.cell?_alloc_mark w.drew (bytesRow ⟨l.toArray⟩ (grownCap w l.length 0 e)) e ((bytesRow ⟨l.toArray⟩ (grownCap w l.length 0 e)).size,(bytesRow ⟨l.toArray⟩ (grownCap w l.length 0 e)).size+1) j
    have hget:∀j,(hj:j < l.length)→(bytesRow ⟨l.toArray⟩ (grownCap w l.length 0 e))[j]?=some (.int .u8 (l[j].toNat:Int)):=by
     intro j hj
     unfold bytesRow
     rw[KD_ (by simpa using hj)]
     simp[hj]
    have hlen:(l.map fun b=>[PV.v (.int .u8 b.toNat)]).length=l.length:=by simp
    have:=Rep.lst (hw:=fun k=>if k=w.heap.size then l.length else hw k) (w:=w.drew.alloc (.cells (bytesRow ⟨l.toArray⟩ (grownCap w l.length 0 e)) e ((bytesRow ⟨l.toArray⟩ (grownCap w l.length 0 e)).size,(bytesRow ⟨l.toArray⟩ (grownCap w l.length 0 e)).size+1)))
     (l.map fun b=>[PV.v (.int .u8 b.toNat)]) w.heap.size 0 (grownCap w l.length 0 e) 1 (fun i _=> .int .u8 ((l.getD i 0).toNat:Int)) (by rw[hlen];exact grownCap_ge _ _ _ _) (fun i x hx=>?_) (fun i j hi hj=>?_) (fun i j x y hx hy=>?_) (fun i j _ _=>rfl) (by rw[hlen];simp)
    ·rw[hlen] at this;exact this
    ·rw[Q6_] at hx
     cases hq:l[i]? with
     | none=>rw[hq] at hx;cases hx
     | some q=>rw[hq] at hx;have:=Qa_ hx;subst this;rfl
    ·rw[hlen] at hi
     have hj0:j=0:=by omega
     subst hj0
     rw[Nat.mul_one,QP_,Nat.add_zero]
     refine (key i).trans ?_
     rw[hget i hi]
     simp[hi]
    ·rw[Q6_] at hx
     cases hq:l[i]? with
     | none=>rw[hq] at hx;cases hx
     | some q=>
       rw[hq] at hx
       have:=Qa_ hx
       subst this
       cases j with
       | zero=>
         have:=Qa_ hy
         subst this
         have:l.getD i 0=q:=by simp[hq]
         rw[this]
         exact .v _ rfl
       | succ j=>simp at hy
theorem Zhf(d:Nat){T:TypeId}{ms:Array (String×TypeId)}(hu:P.underlying T=some (.interface ms)):(Op.equalIn (d+1) T .nilIface .nilIface).run P w= .ok true w:=by
 simp[Op.equalIn,run_underlying hu]
theorem Z43{E:Env}(hE:EnvOk P E){op:BinOp}{T:TypeId}{x r:PV}(h:Zvv E op T x=some r){hw:Nat→Nat}{vx:Value}(hx:Rep hw w vx x)(ox:Operand):
 ∃v,(do eqGuard op T ox (.const .nilIface) vx .nilIface;binOp op T vx .nilIface:Sem Value).run P w= .ok v w∧Rep hw w v r:=by
 unfold Zvv at h
 split at h
 ·cases hb:has T E.ifcs with
  | false=>rw[hb] at h;cases h
  | true=>
    rw[hb] at h
    have:=Qa_ h
    subst this
    obtain ⟨ms,hu⟩:=hE.ifcs T hb
    rw[ZH hx]
    have he:(Op.equal T .nilIface .nilIface).run P w= .ok true w:=by
     exact Zhf 9999 hu
    exact ⟨.bool true,by simp[eqGuard,binOp,he],.v _ rfl⟩
 ·cases hb:has T E.ifcs with
  | false=>rw[hb] at h;cases h
  | true=>
    rw[hb] at h
    have:=Qa_ h
    subst this
    obtain ⟨ms,hu⟩:=hE.ifcs T hb
    rw[ZH hx]
    have he:(Op.equal T .nilIface .nilIface).run P w= .ok true w:=by
     exact Zhf 9999 hu
    exact ⟨.bool false,by simp[eqGuard,binOp,he],.v _ rfl⟩
 ·cases h
theorem Zje{o:Oper}{x:Option PV}{r:Res}(h:ZfR σ o x=some r):∃d y,o.dst=some d∧x=some y∧d < σ.n∧r=⟨.p y,none,none⟩:=by
 unfold ZfR at h
 split at h
 ·rename_i d y hd
  cases hb:Nat.blt d σ.n with
  | false=>rw[hb] at h;cases h
  | true=>
    rw[hb] at h
    exact ⟨d,y,hd,rfl,Qm_ hb,(Qa_ h).symm⟩
 ·cases h
theorem Zjf{E:Env}(hE:EnvOk P E){call:XT}(hC:ZfT P call):∀τ o r,RRgen E call τ o=some r→W4 P τ o r:=by
 intro τ o r h B g a w hI
 unfold RRgen at h
 split at h
 ·rename_i os hos
  split at h
  ·rename_i r0 os' ob hq
   have:=Qa_ h
   subst this
   refine ZyT hE.Γ hI hq ?_
   unfold ZaR at hq
   split at hq
   ·rename_i r1 os1 ob1 h1
    obtain ⟨e1,e2⟩:=Z7c hE hC hos h1
    subst e1
    split at hq
    ·rename_i d hd
     split at hq
     ·rename_i r2 os2 ob2 h2
      cases hb:(Nat.blt d τ.n&&Zk1 d r2.link) with
      | false=>rw[hb] at hq;cases hq
      | true=>
        rw[hb] at hq
        have:=Qa_ hq
        cases this
        have hob:ob2=[]:=by
         have e:rewr d r1 []=some (r1,[],[]):=rfl
         rw[e] at h2
         have:=Qa_ h2
         cases this
         rfl
        rw[hob,QI_]
        exact e2
     ·cases hq
    ·have:=Qa_ hq
     cases this
     exact e2
   ·cases hq
  ·cases h
 ·cases h
theorem ZCq{E:Env}(hE:EnvOk P E){call:XT}(hC:ZfT P call):∀j τ o r,RR E call j τ o=some r→W4 P τ o r:=by
 intro j τ o r h
 have fin:∀{y:PV} {d:Nat},o.dst=some d→d < τ.n→(∀B g a w,Inv P B g τ a w→∃v w' hw',(execOp a.eval o).run P w= .ok (.value v) w'∧Qt g.hw w hw' w'∧Rep hw' w' v y)→W4 P τ o ⟨.p y,none,none⟩:=by
  intro y d hd hlt hrun B g a w hI
  refine ⟨?_,fun d' hd'=>?_⟩
  ·obtain ⟨v,w',hw',h1,h2,h3⟩:=hrun B g a w hI
   exact .inl ⟨v,w',h1,⟨g.β,hw'⟩,h2,h3,fun _=>rfl,fun _ h=>absurd h (by simp),fun _ h=>absurd h (by simp),fun _=>⟨fun _ _ h=>absurd h (by simp),fun _ _ h=>absurd h (by simp),fun _ _ _ _ h=>absurd h (by simp)⟩⟩
  ·rw[hd] at hd'
   have:=Qa_ hd'
   subst this
   exact ⟨hlt,fun l h=>absurd h (by simp)⟩
 unfold RR at h
 split at h
 ·rename_i T l c hop
  split at h
  ·rename_i pl pc hl hc
   obtain ⟨d,y,hd,hx,hlt,rfl⟩:=Zje h
   refine fin hd hlt fun B g a w hI=>?_
   obtain ⟨v,w',hw',h1,h2,h3⟩:=ZyY hE.Γ hI.hwlt hx (Z9 hI hl) (Z9 hI hc)
   refine ⟨v,w',hw', ?_,h2,h3⟩
   unfold execOp
   rw[hop]
   exact Yl h1
  ·cases h
 ·rename_i S T x hop
  split at h
  ·rename_i l hx
   split at h
   ·rename_i r0 hr0
    obtain ⟨d,y,hd,hy,hlt,rfl⟩:=Zje h
    cases hy
    refine fin hd hlt fun B g a w hI=>?_
    obtain ⟨v,w',hw',h1,h2,h3⟩:=ZyZ hE hI.hwlt hr0
    refine ⟨v,w',hw', ?_,h2,h3⟩
    have h1':(convert S T (a.eval x)).run P w= .ok v w':=by rw[XP (Z9 hI hx)];exact h1
    unfold execOp
    rw[hop]
    exact Yl h1'
   ·exact Zjf hE hC τ o r h
  ·exact Zjf hE hC τ o r h
 ·rename_i op T x y yT hop
  split at h
  ·rename_i hn
   split at h
   ·rename_i u hu
    obtain ⟨d,q,hd,hq,hlt,rfl⟩:=Zje h
    have hyc:y= .const .nilIface:=by
     unfold Zvu at hn
     split at hn
     ·rfl
     ·cases hn
    refine fin hd hlt fun B g a w hI=>?_
    obtain ⟨v,h1,h2⟩:=Z43 (P:=P) (w:=w) hE hq (Z9 hI hu) x
    refine ⟨v,w,g.hw, ?_,Qt.refl hI.hwlt,h2⟩
    unfold execOp
    rw[hop,hyc]
    exact Yl h1
   ·cases h
  ·exact Zjf hE hC τ o r h
 ·exact Zjf hE hC τ o r h
end
def Zce(n:Nat):AV→AV
 | .p x=> .p x
 | .ptr b off=> .ptr (b+n) off
 | .fnp f bs=> .fnp f (bs.map fun b=>b+n)
 | .sl b off m s=> .sl (b+n) off m s
def ZoP:Nat→List AV→List (Nat×AV)
 | _,[]=>[]
 | i,x::r=>(i,x)::ZoP (i+1) r
def ZkF(n:Nat):List (Nat×List PV)→List (Nat×List PV)
 | []=>[]
 | (b,cs)::r=>(b+n,cs)::ZkF n r
def shO(n:Nat):List (Loc×Nat)→List (Loc×Nat)
 | []=>[]
 | (.b b c,E)::r=>(.b (b+n) c,E)::shO n r
 | (.t _,_)::r=>shO n r
def Jr(n:Nat)(σ:St)(args:List AV):St:=⟨n,ZoP 0 (args.map (Zce n)),ZkF n σ.boxes,σ.ro.map (fun b=>b+n),shO n σ.own,[]⟩
def ZhF(n:Nat):List (Nat×List PV)→List (Nat×List PV)
 | []=>[]
 | (b,cs)::r=>bif Nat.ble n b then (b - n,cs)::ZhF n r else ZhF n r
def bkR(n:Nat):List Nat→List Nat
 | []=>[]
 | b::r=>bif Nat.ble n b then (b - n)::bkR n r else bkR n r
def bkO(n:Nat):List (Loc×Nat)→List (Loc×Nat)
 | []=>[]
 | (.b b c,E)::r=>bif Nat.ble n b then (.b (b - n) c,E)::bkO n r else bkO n r
 | (.t _,_)::r=>bkO n r
def ZaU(n:Nat)(σ σc:St):St:=
 {σ with boxes:=ZhF n σc.boxes,ro:=bkR n σc.ro,own:=bkO n σc.own,al:=[]}
theorem Zrs(n:Nat):∀(l:List (Nat×List PV)) (k:Nat),lk (k+n) (ZkF n l)=lk k l
 | [],_=>rfl
 | (b,cs)::r,k=>by
   unfold ZkF
   rw[Zq,Zq,Zrs n r k]
   by_cases h:k=b
   ·subst h;simp
   ·rw[if_neg (by omega),if_neg h]
theorem Zfp{n:Nat}:∀{l:List (Nat×List PV)} {k:Nat} {cs:List PV},lk k (ZkF n l)=some cs→n≤k∧lk (k - n) l=some cs
 | [],k,cs,h=>by simp[ZkF,lk] at h
 | (b,c)::r,k,cs,h=>by
   unfold ZkF at h
   rw[Zq] at h
   split at h
   ·rename_i e
    subst e
    refine ⟨by omega, ?_⟩
    rw[Zq,if_pos (by omega)]
    exact h
   ·rename_i hne
    obtain ⟨h1,h2⟩:=Zfp h
    refine ⟨h1, ?_⟩
    rw[Zq,if_neg (by omega)]
    exact h2
theorem Zrt(n:Nat):∀(l:List (Nat×List PV)) (k:Nat),lk k (ZhF n l)=lk (k+n) l
 | [],_=>rfl
 | (b,cs)::r,k=>by
   unfold ZhF
   cases hb:Nat.ble n b with
   | true=>
     have hb:=Qm_ hb
     rw[Qb_,Zq,Zq,Zrt n r k]
     by_cases h:k+n=b
     ·rw[if_pos (by omega),if_pos h]
     ·rw[if_neg (by omega),if_neg h]
   | false=>
     rw[Qd_,Zq,Zrt n r k]
     have:¬n≤b:=fun h=>by rw[QF_ h] at hb;cases hb
     rw[if_neg (by omega)]
theorem Zru{n b:Nat}:∀{l:List Nat},b+n∈l→b∈bkR n l
 | [],h=>by simp at h
 | x::r,h=>by
   unfold bkR
   rcases Q9_.1 h with e | h
   ·subst e
    rw[QF_ (by omega),Qb_]
    have:b+n - n=b:=by omega
    rw[this]
    exact Qv_ ..
   ·cases hb:Nat.ble n x with
    | true=>rw[Qb_];exact Qq_ _ (Zru h)
    | false=>rw[Qd_];exact Zru h
theorem Zrv(n b c:Nat):∀(l:List (Loc×Nat)),lkL (.b (b+n) c) (shO n l)=lkL (.b b c) l
 | []=>rfl
 | (.b b' c',E)::r=>by
   unfold shO
   rw[YK,YK,Zrv n b c r]
   by_cases h:(Loc.b b c)= .b b' c'
   ·cases h;simp
   ·rw[if_neg h,if_neg (fun e=>h (by injection e with e1 e2;subst e2;congr 1;omega))]
 | (.t t,E)::r=>by
   unfold shO
   rw[YK,if_neg (by simp),Zrv n b c r]
theorem Zjg{n:Nat}:∀{l:List (Loc×Nat)} {k:Loc} {E:Nat},lkL k (shO n l)=some E→∃b c,k= .b (b+n) c
 | [],k,E,h=>by simp[shO,lkL] at h
 | (.b b' c',E')::r,k,E,h=>by
   unfold shO at h
   rw[YK] at h
   split at h
   ·rename_i e;exact ⟨b',c',e⟩
   ·exact Zjg h
 | (.t t,E')::r,k,E,h=>by
   unfold shO at h
   exact Zjg h
theorem Zm8(n b c:Nat):∀(l:List (Loc×Nat)),lkL (.b b c) (bkO n l)=lkL (.b (b+n) c) l
 | []=>rfl
 | (.b b' c',E)::r=>by
   unfold bkO
   cases hb:Nat.ble n b' with
   | true=>
     have hb:=Qm_ hb
     rw[Qb_,YK,YK,Zm8 n b c r]
     by_cases h:(Loc.b (b+n) c)= .b b' c'
     ·rw[if_pos h,if_pos (by injection h with e1 e2;subst e2;congr 1;omega)]
     ·rw[if_neg h,if_neg (fun e=>h (by injection e with e1 e2;subst e2;congr 1;omega))]
   | false=>
     have:¬n≤b':=fun h=>by rw[QF_ h] at hb;cases hb
     rw[Qd_,YK,Zm8 n b c r,if_neg (fun e=>by injection e;omega)]
 | (.t t,E)::r=>by
   unfold bkO
   rw[YK,if_neg (by simp),Zm8 n b c r]
theorem Zhg(n t:Nat):∀(l:List (Loc×Nat)),lkL (.t t) (bkO n l)=none
 | []=>rfl
 | (.b b' c',E)::r=>by
   unfold bkO
   cases Nat.ble n b' with
   | true=>rw[Qb_,YK,if_neg (by simp),Zhg n t r]
   | false=>rw[Qd_,Zhg n t r]
 | (.t t',E)::r=>by
   unfold bkO
   exact Zhg n t r
theorem Zs0:∀{l:List AV} {i t:Nat} {v:AV},lk t (ZoP i l)=some v→∃j,t=i+j∧l[j]?=some v
 | [],i,t,v,h=>by simp[ZoP,lk] at h
 | x::r,i,t,v,h=>by
   unfold ZoP at h
   rw[Zq] at h
   split at h
   ·rename_i e
    exact ⟨0,by omega,h⟩
   ·obtain ⟨j,h1,h2⟩:=Zs0 h
    exact ⟨j+1,by omega,h2⟩
section
variable {P:Program}{B:Nat}{g:G}{σ:St}{a:Act}{w:World}
theorem Z9s{n:Nat}{v:Value}{av:AV}(h:RepA g w v av):RepA ⟨fun b=>if n≤b then g.β (b - n) else none,g.hw⟩ w v (Zce n av):=by
 have hb:∀b,(if n≤b+n then g.β (b+n - n) else none)=g.β b:=fun b=>by rw[if_pos (by omega)];congr 1;omega
 cases av with
 | p x=>exact h
 | ptr b off=>
   obtain ⟨k,base,h1,h2⟩:=h
   exact ⟨k,base,(hb b).trans h1,h2⟩
 | fnp f bs=>
   obtain ⟨vs,h1,h2,h3⟩:=h
   refine ⟨vs,h1,by simp[h2],fun j v b hv hbj=>?_⟩
   rw[Q6_] at hbj
   cases hq:bs[j]? with
   | none=>rw[hq] at hbj;cases hbj
   | some b0=>
     rw[hq] at hbj
     have:=Qa_ hbj
     subst this
     obtain ⟨k,base,h4,h5⟩:=h3 j v b0 hv hq
     exact ⟨k,base,(hb b0).trans h4,h5⟩
 | sl b off m s=>
   obtain ⟨k,base,cap,h1,h2⟩:=h
   exact ⟨k,base,cap,(hb b).trans h1,h2⟩
def Z1b(P:Program)(f:FuncId)(σ:St)(args:List AV)(r:PV)(σ':St):Prop:=
 ∀B g a w (vals:List Value),Inv P B g σ a w→vals.length=args.length→(∀(j:Nat) (v:Value) (av:AV),vals[j]?=some v→args[j]?=some av→RepA g w v av)→(∀av∈args,ZdF σ.boxes av=true)→Jy σ.boxes=true→
  CallRes P f vals.toArray w fun v w'=>∃g',Inv P B g' σ' a w'∧Fr B g σ w g' σ' w'∧Rep g'.hw w' v r
theorem ZnH{bx:List (Nat×List PV)}{b off:Nat}(h:ZdF bx (.ptr b off)=true):∃cs,lk b bx=some cs:=by
 simp only[ZdF] at h
 cases hb:lk b bx with
 | none=>rw[hb] at h;exact absurd h (by simp[Wf])
 | some cs=>exact ⟨cs,rfl⟩
theorem ZnI{bx:List (Nat×List PV)}{f:FuncId}{bs:List Nat}(h:ZdF bx (.fnp f bs)=true):∀b∈bs,∃cs,lk b bx=some cs:=by
 simp only[ZdF] at h
 intro b hb
 have:=QK_.1 h b hb
 cases hq:lk b bx with
 | none=>rw[hq] at this;exact absurd this (by simp[Wf])
 | some cs=>exact ⟨cs,rfl⟩
theorem Z9t{n:Nat}{args:List AV}{vals:List Value}(hI:Inv P B g σ a w)(hl:vals.length=args.length)(hv:∀(j:Nat) (v:Value) (av:AV),vals[j]?=some v→args[j]?=some av→RepA g w v av)
 (hin:∀av∈args,ZdF σ.boxes av=true) (hnr:Jy σ.boxes=true) (hn:args.length≤n):
 Inv P B ⟨fun b=>if n≤b then g.β (b - n) else none,g.hw⟩ (Jr n σ args) {tmps:=vals.toArray++Array.replicate (n - vals.toArray.size) undef,defers:=[]} w:=by
 have bx:∀b cs,lk b (Jr n σ args).boxes=some cs→n≤b∧lk (b - n) σ.boxes=some cs:=fun b cs h=>Zfp h
 have bxi:∀b cs,lk b σ.boxes=some cs→lk (b+n) (Jr n σ args).boxes=some cs:=fun b cs h=>(Zrs n _ b).trans h
 have be:∀b,n≤b→(if n≤b then g.β (b - n) else none)=g.β (b - n):=fun b h=>if_pos h
 have beq':∀b,(if n≤b+n then g.β (b+n - n) else none)=g.β b:=fun b=>by rw[if_pos (by omega)];congr 1;omega
 have tm:∀t v,lk t (Jr n σ args).tmps=some v→∃av,args[t]?=some av∧v=Zce n av:=by
  intro t v h
  obtain ⟨j,h1,h2⟩:=Zs0 h
  rw[Q6_] at h2
  cases hq:args[j]? with
  | none=>rw[hq] at h2;cases h2
  | some av=>
    rw[hq] at h2
    rw[QP_] at h1
    subst h1
    exact ⟨av,hq,(Qa_ h2).symm⟩
 have ow:∀l E,lkL l (Jr n σ args).own=some E→∃b c,l= .b (b+n) c∧lkL (.b b c) σ.own=some E:=by
  intro l E h
  obtain ⟨b,c,rfl⟩:=Zjg h
  exact ⟨b,c,rfl,(Zrv n b c _).symm.trans h⟩
 have loc:∀b c val,LocIs ⟨fun b=>if n≤b then g.β (b - n) else none,g.hw⟩ {tmps:=vals.toArray++Array.replicate (n - vals.toArray.size) undef,defers:=[]} w (.b (b+n) c) val↔LocIs g a w (.b b c) val:=by
  intro b c val
  constructor
  ·rintro ⟨k,base,h1,h2⟩
   exact ⟨k,base,(beq' b).symm.trans h1,h2⟩
  ·rintro ⟨k,base,h1,h2⟩
   exact ⟨k,base,(beq' b).trans h1,h2⟩
 refine ⟨by simp[Jr];omega,rfl,fun t v ht=>?_,fun t b off ht=>?_,fun t f bs ht=>?_,fun b cs h=>?_,fun b b' cs cs' k base base' h1 h2 h3 h4=>?_,hI.hwlt,hI.base,hI.glob,fun l E hl'=>?_,fun l E hl'=>?_,fun l l' E E' v v' k hl1 hl2 h1 h2 h3 h4=>?_,fun t l h=>absurd h (by simp[Jr]),fun t b c h=>absurd h (by simp[Jr]),fun t b off m s ht=>?_,fun b cs h y hy b' hb'=>(ZcF hnr (bx b cs h).2 y hy b' hb').elim⟩
 ·obtain ⟨av,h1,rfl⟩:=tm t v ht
  have hj:=(Qo_.1 h1).1
  refine ⟨by simp only[Jr];omega, ?_⟩
  have hvt:=Qg_ (l:=vals) (i:=t) (by omega)
  rw[Zm0 hvt]
  exact Z9s (hv t _ av hvt h1)
 ·obtain ⟨av,h1,h2⟩:=tm t _ ht
  cases av with
  | p x=>simp[Zce] at h2
  | ptr b0 off0=>
    simp only[Zce,AV.ptr.injEq] at h2
    obtain ⟨cs,hcs⟩:=ZnH (hin _ (Qz_ h1))
    rw[h2.1]
    exact ⟨cs,bxi b0 cs hcs⟩
  | fnp f bs=>simp[Zce] at h2
  | sl b off m s=>simp[Zce] at h2
 ·obtain ⟨av,h1,h2⟩:=tm t _ ht
  cases av with
  | p x=>simp[Zce] at h2
  | ptr b0 off0=>simp[Zce] at h2
  | fnp f0 bs0=>
    simp only[Zce,AV.fnp.injEq] at h2
    intro b hb
    rw[h2.2] at hb
    obtain ⟨b0,hb0,rfl⟩:=Kv_.1 hb
    obtain ⟨cs,hcs⟩:=ZnI (hin _ (Qz_ h1)) b0 hb0
    exact ⟨cs,bxi b0 cs hcs⟩
  | sl b off m s=>simp[Zce] at h2
 ·obtain ⟨h1,h2⟩:=bx b cs h
  obtain ⟨k,base,q1,q2,q3,q4,_⟩:=hI.box _ cs h2
  refine ⟨k,base,(be b h1).trans q1,q2,q3.noref (ZcF hnr h2) _,fun hr=>q4 fun hm=>hr ?_,fun hlt=>absurd hlt (by simp only[Jr];omega)⟩
  have:b=(b - n)+n:=by omega
  rw[this]
  exact Kv_.2 ⟨b - n,hm,rfl⟩
 ·obtain ⟨e1,e2⟩:=bx b cs h1
  obtain ⟨e3,e4⟩:=bx b' cs' h2
  have:=hI.inj (b - n) (b' - n) cs cs' k base base' e2 e4 ((be b e1).symm.trans h3) ((be b' e3).symm.trans h4)
  omega
 ·obtain ⟨b,c,rfl,h1⟩:=ow l E hl'
  obtain ⟨val,q1,q2,q3⟩:=hI.own _ E h1
  refine ⟨val,(loc b c val).2 q1,q2,fun k hk b' cs base hb' hbe=>?_⟩
  obtain ⟨e1,e2⟩:=bx b' cs hb'
  exact q3 k hk (b' - n) cs base e2 ((be b' e1).symm.trans hbe)
 ·obtain ⟨b,c,rfl,h1⟩:=ow l E hl'
  obtain ⟨cs,hcs⟩:=hI.ownt _ E h1
  exact ⟨cs,bxi b cs hcs⟩
 ·obtain ⟨b,c,rfl,e1⟩:=ow l E hl1
  obtain ⟨b',c',rfl,e2⟩:=ow l' E' hl2
  have:=hI.owninj _ _ E E' v v' k e1 e2 ((loc b c v).1 h1) ((loc b' c' v').1 h2) h3 h4
  injection this with e3 e4
  subst e3;subst e4
  rfl
 ·obtain ⟨av,h1,h2⟩:=tm t _ ht
  cases av with
  | p x=>simp[Zce] at h2
  | ptr b0 off0=>simp[Zce] at h2
  | fnp f bs=>simp[Zce] at h2
  | sl b0 off0 m0 s0=>
    simp only[Zce,AV.sl.injEq] at h2
    obtain ⟨cs,hcs⟩:=Zbu.1 (hin _ (Qz_ h1))
    rw[h2.1]
    exact ⟨cs,bxi b0 cs hcs⟩
theorem Z9u{n:Nat}{args:List AV}{σc:St}{g2:G}{ac':Act}{w':World}(hI:Inv P B g σ a w)(h2:Inv P B g2 σc ac' w')
 (hF:Fr B ⟨fun b=>if n≤b then g.β (b - n) else none,g.hw⟩ (Jr n σ args) w g2 σc w') (hall:ZiP (ZhF n σc.boxes) σ.tmps=true) (hnr:Jy σc.boxes=true):
 Inv P B ⟨fun b=>g2.β (b+n),g2.hw⟩ (ZaU n σ σc) a w'∧Fr B g σ w ⟨fun b=>g2.β (b+n),g2.hw⟩ (ZaU n σ σc) w':=by
 have bx:∀b,lk b (ZaU n σ σc).boxes=lk (b+n) σc.boxes:=fun b=>Zrt n _ b
 have hn:(Jr n σ args).n=n:=rfl
 have old:∀b cs',lk b (ZaU n σ σc).boxes=some cs'→∃cs,lk b σ.boxes=some cs∧cs.length=cs'.length∧g2.β (b+n)=g.β b:=by
  intro b cs' h
  rw[bx] at h
  obtain ⟨cs,e1,e2,e3⟩:=hF.par (b+n) cs' (by rw[hn];omega) h
  have e1:lk (b+n) (ZkF n σ.boxes)=some cs:=e1
  rw[Zrs] at e1
  refine ⟨cs,e1,e2,e3.trans ?_⟩
  show (if n≤b+n then g.β (b+n - n) else none)=g.β b
  rw[if_pos (by omega)]
  congr 1
  omega
 have tm:∀t v,lk t (ZaU n σ σc).tmps=some v→lk t σ.tmps=some v∧ZdF (ZhF n σc.boxes) v=true:=fun t v h=>⟨h,Zsr hall t v h⟩
 have ow:∀l E,lkL l (ZaU n σ σc).own=some E→∃b c,l= .b b c∧lkL (.b (b+n) c) σc.own=some E:=by
  intro l E h
  cases l with
  | t t=>rw[show lkL (.t t) (ZaU n σ σc).own=none from Zhg n t _] at h;cases h
  | b b c=>exact ⟨b,c,rfl,(Zm8 n b c _).symm.trans h⟩
 have loc:∀b c val,LocIs ⟨fun b=>g2.β (b+n),g2.hw⟩ a w' (.b b c) val↔LocIs g2 ac' w' (.b (b+n) c) val:=fun b c val=>Iff.rfl
 refine ⟨⟨hI.size,hI.defers,fun t v ht=>?_,fun t b off ht=>?_,fun t f bs ht=>?_,fun b cs h=>?_,fun b b' cs cs' k base base' h1 h2' h3 h4=>?_,h2.hwlt,h2.base,h2.glob,fun l E hl'=>?_,fun l E hl'=>?_,fun l l' E E' v v' k hl1 hl2 h1 h2' h3 h4=>?_,fun t l h=>absurd h (by simp[ZaU]),fun t b c h=>absurd h (by simp[ZaU]),fun t b off m s ht=>Zbu.1 (tm t _ ht).2,fun b cs h y hy b' hb'=>by rw[bx] at h;exact (ZcF hnr h y hy b' hb').elim⟩, ?_⟩
 ·obtain ⟨h1,hin⟩:=tm t v ht
  obtain ⟨q1,q2⟩:=hI.tmp t v h1
  refine ⟨q1, ?_⟩
  cases v with
  | p x=>exact Rep.mono hF.ext q2
  | ptr b off=>
    obtain ⟨cs,hcs⟩:=ZnH hin
    obtain ⟨_,_,_,e⟩:=old b cs hcs
    obtain ⟨k,base,e1,e2⟩:=q2
    exact ⟨k,base,e.trans e1,e2⟩
  | fnp f bs=>
    obtain ⟨vs,e1,e2,e3⟩:=q2
    refine ⟨vs,e1,e2,fun j v b hv hb=>?_⟩
    obtain ⟨cs,hcs⟩:=ZnI hin b (Qz_ hb)
    obtain ⟨_,_,_,e⟩:=old b cs hcs
    obtain ⟨k,base,e4,e5⟩:=e3 j v b hv hb
    exact ⟨k,base,e.trans e4,e5⟩
  | sl b off m s=>
    obtain ⟨cs,hcs⟩:=Zbu.1 hin
    obtain ⟨_,_,_,e⟩:=old b cs hcs
    obtain ⟨k,base,cap,e1,e2⟩:=q2
    exact ⟨k,base,cap,e.trans e1,e2⟩
 ·exact ZnH (tm t _ ht).2
 ·exact ZnI (tm t _ ht).2
 ·obtain ⟨cs0,e1,e2,e3⟩:=old b cs h
  rw[bx] at h
  obtain ⟨k,base,q1,q2,q3,q4,_⟩:=h2.box _ cs h
  obtain ⟨k',base',p1,p2,p3,p4,p5⟩:=hI.box b cs0 e1
  have:(k',base')=(k,base):=Qa_ (p1.symm.trans (e3.symm.trans q1))
  cases this
  exact ⟨_,_,q1,q2,q3.noref (ZcF hnr h) _,fun hr=>q4 fun hm=>hr (Zru hm),p5⟩
 ·rw[bx] at h1 h2'
  have:=h2.inj _ _ cs cs' k base base' h1 h2' h3 h4
  omega
 ·obtain ⟨b,c,rfl,h1⟩:=ow l E hl'
  obtain ⟨val,q1,q2,q3⟩:=h2.own _ E h1
  refine ⟨val,q1,q2,fun k hk b' cs base hb'=>?_⟩
  rw[bx] at hb'
  exact q3 k hk _ cs base hb'
 ·obtain ⟨b,c,rfl,h1⟩:=ow l E hl'
  obtain ⟨cs,hcs⟩:=h2.ownt _ E h1
  exact ⟨cs,(bx b).trans hcs⟩
 ·obtain ⟨b,c,rfl,e1⟩:=ow l E hl1
  obtain ⟨b',c',rfl,e2⟩:=ow l' E' hl2
  have:=h2.owninj _ _ E E' v v' k e1 e2 h1 h2' h3 h4
  injection this with e3 e4
  have:b=b':=by omega
  subst this;subst e4
  rfl
 ·have lent:∀k,k < B→Zan ⟨fun b=>if n≤b then g.β (b - n) else none,g.hw⟩ (Jr n σ args) k→Zan g σ k:=by
   rintro k hk ⟨b,cs,base,hb,h1,h3⟩
   obtain ⟨e1,e2⟩:=Zfp h1
   have h3:(if n≤b then g.β (b - n) else none)=some (k,base):=h3
   rw[if_pos e1] at h3
   rcases Ki_ (b - n) σ.n with hlt | hge
   ·obtain ⟨k',base',q1,_,_,_,q5⟩:=hI.box _ cs e2
    rw[h3] at q1
    cases q1
    have:=q5 hlt
    omega
   ·exact ⟨b - n,cs,base,hge,e2,h3⟩
  have lent2:∀k off,k < B→Lent ⟨fun b=>if n≤b then g.β (b - n) else none,g.hw⟩ (Jr n σ args) k off→Lent g σ k off:=by
   rintro k off hk ⟨b,cs,base,hb,h1,h3,h4,h5⟩
   obtain ⟨e1,e2⟩:=Zfp h1
   have h3:(if n≤b then g.β (b - n) else none)=some (k,base):=h3
   rw[if_pos e1] at h3
   rcases Ki_ (b - n) σ.n with hlt | hge
   ·obtain ⟨k',base',q1,_,_,_,q5⟩:=hI.box _ cs e2
    rw[h3] at q1
    cases q1
    have:=q5 hlt
    omega
   ·exact ⟨b - n,cs,base,hge,e2,h3,h4,h5⟩
  exact ⟨hF.os,hF.tape,hF.output,hF.size,rfl,fun k hk hnl=>hF.block k hk fun hl=>hnl (lent k hk hl),fun k off hk hnl=>hF.cell k off hk fun hl=>hnl (lent2 k off hk hl),hF.frozen,fun k hk hnl=>hF.hw k hk fun hl=>hnl (lent k hk hl),
   fun b cs' _ hb=>old b cs' hb,hF.ext⟩
theorem ZAm{Γ:List (Nat×Ty)}(hΓ:Yo P Γ){f:FuncId}{fn:Func}{c:Code}(hcall:∀args w,(callFunc f args).run P w= .ok (.enter f args) w)(hf:P.funcs[f]?=some fn)(hb:fn.body=some c)
 {args:List AV} (hn:Nat.ble args.length fn.ntmps=true) {e:Ex} {σc:St} (ht:Tri P c (Jr fn.ntmps σ args) e σc) (he:JI e=true) {r:List PV} (hr:ZaT Γ σc fn.results.toList=some r) (hall:ZiP (ZhF fn.ntmps σc.boxes) σ.tmps=true) (hnr:Jy σc.boxes=true):Z1b P f σ args (ZbM r) (ZaU fn.ntmps σ σc):=by
 intro B g a w vals hI hl hv hin hn0
 refine .inr ⟨f,hcall _ _,calls_of_wp hf hb (wp_mono (ht _ _ _ w (Z9t hI hl hv hin hn0 (Qm_ hn))) fun ex a' w' ⟨hx,g',hI',hF⟩=>?_)⟩
 have key:a'.defers=[]∧∃v,(results fn a'.tmps).run P w'= .ok v w'∧∃v0,Ending.returned v= .returned v0∧∃g'',Inv P B g'' (ZaU fn.ntmps σ σc) a w'∧Fr B g σ w g'' (ZaU fn.ntmps σ σc) w'∧Rep g''.hw w' v0 (ZbM r):=by
  obtain ⟨v,h1,h2⟩:=Zm1 hΓ hI' hr
  obtain ⟨h3,h4⟩:=Z9u hI hI' hF hall hnr
  exact ⟨hI'.defers,v,h1,v,rfl,_,h3,h4,h2⟩
 cases ex<;>first | exact key | (cases e<;>first | exact hx.elim | exact absurd he (by simp[JI]))
end
def ZK(l:List UInt8):List (List PV):=l.map fun b=>[.v (.int .u8 b.toNat)]
section
variable {P:Program}{w:World}
theorem Zvw{base:Nat}{t u ty e:TypeId}{i:TypeInfo}{z:Value}(ht:P.underlying t=some (.slice e))(hu:P.underlying u=some .string)(hi:P.info? e=some i)(hz:i.zero=some z)(hzs:z.cells.size=1)(hs1:i.size=1)(hby:i.bytes=1)
 {v:Value} {n:Nat} {xs:List Value} (hown:w.ownsRow base e 1 v n xs) (s:ByteArray) (h63:n+s.size≤maxLen) (hbytes:n+s.size≤140737488355328) (hbase:base≤w.heap.size):
 ∃v' w',(Builtin.append_ #[t,u] ty #[v,.string s]).run P w= .ok v' w'∧w'.ownsRow base e 1 v' (n+s.size) (xs++Lib.strCells s)∧w.grownBy w' v.ownBlock∧
  (v'.ownBlock=v.ownBlock∨∀k,v'.ownBlock=some k→w.heap.size≤k)∧(∀k off,v.ownBlock=some k→off < n→w'.cell? ⟨k,off,none⟩=w.cell? ⟨k,off,none⟩)∧(∀k off,w'.frozen? ⟨k,off,none⟩=w.frozen? ⟨k,off,none⟩):=by
 have hfr:∀(A:Array Value) (k off:Nat),(w.drew.alloc (.cells A e)).frozen? ⟨k,off,none⟩=w.frozen? ⟨k,off,none⟩:=by
  intro A k off
  by_cases hk:k=w.heap.size
  ·subst hk
   have h1:=World.frozen?_alloc_new w.drew A e off
   simp only[World.size_drew] at h1
   rw[h1]
   simp[World.frozen?]
  ·exact World.frozen?_alloc_old w.drew _ ⟨k,off,none⟩ (by simpa using hk)
 have hsmall:n+s.size≤9223372036854775807:=by simp only[maxLen] at h63;omega
 have hxl:xs.length=n:=by simpa using hown.1
 have hlen:(xs++Lib.strCells s).length=(n+s.size)*1:=by rw[Qx_,hxl,Lib.strCells_length,Nat.mul_one]
 have grown:∀(old:Nat),old < n+s.size→∀(row:Option Nat),
  (w.drew.alloc (.cells (xs.toArray++(Lib.strCells s).toArray++Builtin.zeroCells z.cells (grownCap w (n+s.size) old e - (n+s.size))) e)).ownsRow base e 1
    (.slice (some ⟨w.heap.size,0,none⟩) (n+s.size) (grownCap w (n+s.size) old e)) (n+s.size) (xs++Lib.strCells s)∧
  w.grownBy (w.drew.alloc (.cells (xs.toArray++(Lib.strCells s).toArray++Builtin.zeroCells z.cells (grownCap w (n+s.size) old e - (n+s.size))) e)) row:=by
  intro old ho row
  have hge:=grownCap_ge w (n+s.size) old e
  have hcm:grownCap w (n+s.size) old e≤maxLen:=grownCap_le_maxLen w (n+s.size) old e h63
  refine ⟨⟨hlen,.inr ⟨w.heap.size,_,_,rfl,hbase,heap_alloc_new w.drew _,hge,hcm, ?_, ?_⟩⟩,⟨rfl,rfl,rfl,by simp,fun k hk _=>heap_alloc_old w.drew _ (by simpa using hk)⟩⟩
  ·simp only[Array.size_append,KB_,size_zeroCells,hzs,hxl,Lib.strCells_length]
   omega
  ·simp only[Array.toList_append,QB_]
   rw[←QB_,←hlen]
   exact List.take_left
 rcases hown.2 with ⟨rfl,rfl⟩ | ⟨g,cap,cur,rfl,hbg,hg,hnc,hcm,hcs,htake⟩
 ·have hx:xs=[]:=QM_ hxl
  subst hx
  by_cases hm:s.size=0
  ·have hn:Lib.strCells s=[]:=QM_ (by rw[Lib.strCells_length];exact hm)
   refine ⟨.slice none 0 0,w, ?_,by rw[hm,hn];exact World.ownsRow_nil w base e 1,⟨rfl,rfl,rfl,Q2_ _,fun _ _ _=>rfl⟩,.inl rfl,fun _ _ _ _=>rfl,fun _ _=>rfl⟩
   have hf:=Lib.run_firstCells_string (P:=P) w 1 s
   rw[hm] at hf
   simp[Builtin.append_,run_underlying ht,run_underlying hu,sizeOf,typeInfo,hi,hs1,Builtin.lenOf,hm,hf]
  ·have hr:=run_append_nil_string (P:=P) w t u ty e i z ht hu hi hz s (by omega) (by omega) (by rw[hby];omega)
   have hgr:=grown 0 (by omega) (Value.ownBlock (.slice none 0 0))
   simp only[QP_,QJ_,Array.empty_append] at hgr ⊢
   have e1:(s.data.map fun b=>Value.int .u8 b.toNat)=(Lib.strCells s).toArray:=by
    apply QW_
    simp[Lib.strCells]
   rw[e1] at hr
   exact ⟨_,_,hr,hgr.1,hgr.2,.inr (fun k hk=>by simp[Value.ownBlock] at hk;omega),fun k off hk=>by simp[Value.ownBlock] at hk,fun k off=>hfr _ k off⟩
 ·by_cases hroom:n+s.size≤cap
  ·have hcs':cur.size=cap:=by simpa using hcs
   have hr:=Lib.run_append_room_string (P:=P) w t u ty e i ht hu hi hs1 g n cap cur hg s hroom (by omega)
   have ho:(w.setRow g (cur.toList.take n++Lib.strCells s++cur.toList.drop (n+s.size)).toArray).ownsRow base e 1 (.slice (some ⟨g,0,none⟩) (n+s.size) cap) (n+s.size) (xs++Lib.strCells s):=by
    refine ⟨hlen,.inr ⟨g,cap,_,rfl,hbg,setRow_heap w g cur _ e _ hg,hroom,hcm, ?_, ?_⟩⟩
    ·simp only[KB_,Qx_,K4_,KF_,Array.length_toList,Lib.strCells_length]
     omega
    ·have ht':cur.toList.take n=xs:=by simpa using htake
     rw[ht',←hlen]
     exact List.take_left
   refine ⟨_,_,hr,ho,⟨rfl,rfl,rfl,by simp,fun k _ hk=>setRow_other w g k _ (fun e=>hk (by simp[Value.ownBlock,e]))⟩,.inl rfl,fun k off hk hoff=>?_,fun k off=>?_⟩
   ·have hx:off < xs.length:=by rw[hxl];exact hoff
    have c1:=hown.cells hk off xs[off] (Qg_ hx)
    have c2:=ho.cells (g:=k) hk off xs[off] (by rw[QV_ hx];exact Qg_ hx)
    rw[Addr.add_lit] at c1 c2
    simp only[QP_] at c1 c2
    rw[c1,c2]
   ·by_cases hk:k=g
    ·subst hk
     have h2:=setRow_heap w k cur (cur.toList.take n++Lib.strCells s++cur.toList.drop (n+s.size)).toArray e (0,0) hg
     simp only[World.frozen?,h2,hg]
    ·have h2:=setRow_other w g k (cur.toList.take n++Lib.strCells s++cur.toList.drop (n+s.size)).toArray (fun e=>hk e)
     unfold World.frozen?
     rw[h2]
  ·have holds:∀j u,xs[j]?=some u→w.cell? ((⟨g,0,none⟩:Addr).add j)=some u:=hown.cells (g:=g) rfl
   have hr:=Lib.run_append_grow_string (P:=P) w t u ty e i z ht hu hi hz ⟨g,0,none⟩ n cap xs (by rw[hs1];simpa using hxl) holds s (by omega) (by omega) (by rw[hby];exact growslice_fits (by omega) (by omega))
   have hgr:=grown cap (by omega) (Value.ownBlock (.slice (some ⟨g,0,none⟩) n cap))
   refine ⟨_,_,hr,hgr.1,hgr.2,.inr (fun k hk=>by simp[Value.ownBlock] at hk;omega),fun k off hk _=>?_,fun k off=>hfr _ k off⟩
   have:k=g:=by simp[Value.ownBlock] at hk;exact hk.symm
   subst this
   have hlt:k < w.heap.size:=(QL_.1 hg).1
   exact World.cell?_alloc_old w.drew _ ⟨k,off,none⟩ (by simp;omega)
end
section
variable {P:Program}{B:Nat}{g:G}{σ:St}{a:Act}{w:World}{o:Oper}
theorem ZkG{Γ:List (Nat×Ty)}(hΓ:Yo P Γ)(hI:Inv P B g σ a w){t u:TypeId}{ty ety:Ty}(hty:lk t Γ=some ty)(hk:ty.kd=3)(hety:lk ty.elem Γ=some ety)(hs1:ety.size=1)(hb1:ety.bytes=1)(hu:P.underlying u=some .string)
 {v:Value} {xs:List (List PV)} {l:List UInt8} (hv:Rep g.hw w v (.lst xs)) (ho:OwnV P B g.hw w ty.elem v) (hbytes:xs.length+l.length≤140737488355328) (hl:Lens 1 xs) (T:TypeId):
 ∃v' w' hw',(Builtin.append_ #[t,u] T #[v,.string ⟨l.toArray⟩]).run P w= .ok v' w'∧Grew g w hw' w' v.ownBlock∧Rep hw' w' v' (.lst (xs++ZK l))∧OwnV P B hw' w' ty.elem v'∧(v'.ownBlock=v.ownBlock∨∀k,v'.ownBlock=some k→w.heap.size≤k):=by
 have hET:=Yg (hΓ _ _ hety)
 obtain ⟨i,z,hi,hz,e1,e2,_,_,hzs⟩:=hET.info
 obtain ⟨_,hk3,_⟩:=YW (Yg (hΓ _ _ hty))
 have ht:=hk3 hk
 obtain ⟨i',n,xv,hi',hown,hfr⟩:=ho
 rw[hi] at hi'
 have:=Qa_ hi'
 subst this
 have i1:i.size=1:=e1.symm.trans hs1
 have i2:i.bytes=1:=e2.symm.trans hb1
 rw[i1] at hown hfr hzs
 obtain ⟨rfl,hcx⟩:=Zex hv hown hl
 have hsz:(⟨l.toArray⟩:ByteArray).size=l.length:=by show l.toArray.size=_;simp
 obtain ⟨v',w',hr,how,hg,hblk,hst,hfz⟩:=Zvw (ty:=T) ht hu hi hz hzs i1 i2 hown ⟨l.toArray⟩ (by rw[hsz];simp only[maxLen];omega) (by rw[hsz];exact hbytes) hI.base
 rw[hsz] at how
 have nlt:∀k,v'.ownBlock=some k→k < w'.heap.size:=fun k hk=>(how.lt k hk).2
 let hw':Nat→Nat:=fun k=>if v'.ownBlock=some k then (xs.length+l.length)*1 else g.hw k
 have hgrew:Grew g w hw' w' v.ownBlock:=by
  refine ⟨hg.os,hg.tape,hg.output,hg.size,hg.block,fun j off hj hoff=>hst j off hj ?_,fun j hj hne=>?_,fun j hj he=>?_,fun j hj=>?_⟩
  ·rw[hfr j hj] at hoff;omega
  ·have:v'.ownBlock≠some j:=fun e=>by
    rcases hblk with h | h
    ·rw[h] at e;exact hne e.symm
    ·have:=h j e;omega
   simp only[hw',this,Ky_]
  ·by_cases e:v'.ownBlock=some j
   ·simp only[hw',e,Kx_]
    rw[hfr j he]
    omega
   ·simp only[hw',e,Ky_];exact Q2_ _
  ·have:v'.ownBlock≠some j:=fun e=>by have:=nlt j e;omega
   simp only[hw',this,Ky_]
   exact hI.hwlt j (QT_ hg.size hj)
 have hx:=hgrew.ext hI.hwlt
 have hbl:(ZK l).length=l.length:=by simp[ZK]
 have hlen:(xs++ZK l).length=xs.length+l.length:=by rw[Qx_,hbl]
 have hl':Lens 1 (xs++ZK l):=by
  intro x hx
  rcases Kw_.1 hx with h | h
  ·exact hl x h
  ·obtain ⟨b,_,rfl⟩:=Kv_.1 h
   rfl
 refine ⟨v',w',hw',hr,hgrew,ZzU (by rw[hlen];exact how) hl' (fun k hk=>by rw[hlen];simp only[hw',hk,Kx_];exact Q2_ _) (fun p q x y hx' hy'=>?_),⟨i,_,_,hi,by rw[i1];exact how,fun k hk=>by simp only[hw',hk,Kx_];rw[i1]⟩,hblk⟩
 have hq:q < 1:=by rw[←hl' x (Qz_ hx')];exact (Qo_.1 hy').1
 rw[K2_] at hx'
 split at hx'
 ·obtain ⟨u,h1,h2,h3⟩:=hcx p q x y hx' hy'
  have:=(Qo_.1 h1).1
  exact ⟨u,by rw[QV_ this];exact h1,h2,h3.mono hx⟩
 ·rename_i hp
  unfold ZK at hx'
  rw[Q6_] at hx'
  cases hb:l[p - xs.length]? with
  | none=>rw[hb] at hx';cases hx'
  | some b=>
    rw[hb] at hx'
    have:=Qa_ hx'
    subst this
    have hq0:q=0:=by omega
    subst hq0
    have:=Qa_ hy'
    subst this
    refine ⟨.int .u8 b.toNat, ?_,rfl,.v _ rfl⟩
    have hxl:xv.length=xs.length:=by simpa using hown.1
    rw[Kn_ (by omega)]
    have e:p *1+0 - xv.length=p - xs.length:=by omega
    rw[e]
    simp[Lib.strCells,hb]
def Ze3(E:Env)(σ:St)(d:Nat)(x y:Operand)(t u:TypeId):Option St:=
 match lk t E.Γ,ZA σ x,ZA σ y with
 | some ty,some xv,some (.str l)=>bif YX E u&&Nat.beq ty.kd 3 then
    match lk ty.elem E.Γ with
    | some ety=>bif Nat.beq ety.size 1&&Nat.beq ety.bytes 1 then
      match xv,x with
      | .nil,_=>bif Nat.ble (0+l.length) 140737488355328 then some (JY (put σ d (.p (.lst (ZK l)))) d ty.elem) else none
      | .lst xs,.tmp t1=>
        let l':=match lk t1 σ.al with | some l=>l | none=> .t t1
        match lkL l' σ.own with
        | some E'=>bif Nat.beq E' ty.elem&&Nat.ble (xs.length+l.length) 140737488355328&&Jg 1 xs then some (JY (put (Y2 σ l') d (.p (.lst (xs++ZK l)))) d ty.elem) else none
        | none=>none
      | _,_=>none
      else none
    | none=>none
   else none
 | _,_,_=>none
theorem Zvx{E:Env}(hE:EnvOk P E)(hI:Inv P B g σ a w){args:Array Operand}{ats:Array TypeId}{x y:Operand}{t u:TypeId}{d:Nat}(hop:o.op= .call ⟨.builtin .append,args,ats⟩)(hargs:args.toList=[x,y])(hats:ats.toList=[t,u])
 (hdst:o.dst=some d) (hd:d < σ.n) {σ':St} (h:Ze3 E σ d x y t u=some σ'):Goes P B g σ a w o σ':=by
 have ea:args=#[x,y]:=by apply QW_;simpa using hargs
 have et:ats=#[t,u]:=by apply QW_;simpa using hats
 subst ea;subst et
 unfold Ze3 at h
 split at h
 ·rename_i ty xv l hty hx hy
  cases hb:(YX E u&&Nat.beq ty.kd 3) with
  | false=>rw[hb] at h;cases h
  | true=>
    rw[hb] at h
    simp only[Qb_] at h
    rw[Qh_] at hb
    have hu:=Zcp hE hb.1
    have hkd:=Qj_ hb.2
    split at h
    ·rename_i ety hety
     cases hb2:(Nat.beq ety.size 1&&Nat.beq ety.bytes 1) with
     | false=>rw[hb2] at h;cases h
     | true=>
       rw[hb2] at h
       simp only[Qb_] at h
       rw[Qh_] at hb2
       have s1:=Qj_ hb2.1
       have b1:=Qj_ hb2.2
       have hrx:=Z9 hI hx
       have hry:=XP (Z9 hI hy)
       have fin:∀(v':Value) (w':World) (σ2:St),(Builtin.append_ #[t,u] o.type #[a.eval x,.string ⟨l.toArray⟩]).run P w= .ok v' w'→(∃g',Inv P B g' σ2 (a.put (some d) v') w'∧Fr B g σ w g' σ2 w')→Goes P B g σ a w o σ2:=by
        intro v' w' σ2 hrun hinv
        refine .inl ⟨v',w', ?_,by rw[hdst];exact hinv⟩
        unfold execOp
        rw[hop]
        simp only[resolve,pure_bind,invoke]
        rw[show (#[x,y]:Array Operand).map a.eval=#[a.eval x,a.eval y] from by simp,hry]
        exact Yl hrun
       split at h
       ·cases hb3:Nat.ble (0+l.length) 140737488355328 with
        | false=>rw[hb3] at h;cases h
        | true=>
          rw[hb3] at h
          have:=Qa_ h
          subst this
          have hn:a.eval x= .slice none 0 0:=by generalize a.eval x=v at *;cases hrx;rfl
          obtain ⟨i,z,hi,_⟩:=(Yg (hE.Γ _ _ hety)).info
          have hov:OwnV P B g.hw w ty.elem (.slice none 0 0):=⟨i,0,[],hi,World.ownsRow_nil _ _ _ _,fun k hk=>absurd hk (by simp[Value.ownBlock])⟩
          obtain ⟨v',w',hw',r1,r2,r3,r4,r5⟩:=ZkG (xs:=[]) hE.Γ hI hty hkd hety s1 b1 hu .lnil hov (Qm_ hb3) (fun x hx=>by simp at hx) o.type
          rw[←hn] at r1
          have:=ZaS (v:= .slice none 0 0) (own':=σ.own) hI hd (fun k hk=>absurd hk (by simp[Value.ownBlock])) (fun k hk=>absurd hk (by simp[Value.ownBlock])) (fun _ _ h=>h) (fun _ _ _ j _ _ hk=>absurd hk (by simp[Value.ownBlock])) r2 r3 r4 r5
          exact fin v' w' _ r1 ⟨_,this⟩
       ·rename_i xs t1
        split at h
        ·rename_i E' hE'
         cases hb3:(Nat.beq E' ty.elem&&Nat.ble (xs.length+l.length) 140737488355328&&Jg 1 xs) with
         | false=>rw[hb3] at h;cases h
         | true=>
           rw[hb3] at h
           have:=Qa_ h
           subst this
           simp only[Qh_] at hb3
           have hEe:=Qj_ hb3.1.1
           subst hEe
           obtain ⟨val,hl,hov,hbx⟩:=hI.own _ ty.elem hE'
           have hlv:LocIs g a w (match lk t1 σ.al with | some l=>l | none=> .t t1) (a.eval (.tmp t1)):=by
            split
            ·rename_i l hl;exact hI.al _ _ (ZcE hl)
            ·rfl
           have hv:=Zay hl hlv
           subst hv
           obtain ⟨v',w',hw',r1,r2,r3,r4,r5⟩:=ZkG hE.Γ hI hty hkd hety s1 b1 hu hrx hov (Qm_ hb3.1.2) (Zcd hb3.2) o.type
           have:=ZaS (own':=(Y2 σ (match lk t1 σ.al with | some l=>l | none=> .t t1)).own) hI hd (fun k hk=>by have:=Y7 hov k hk;exact ⟨this.2,this.1⟩) hbx (fun l E h=>(XX h).2)
            (fun l E' val' j hl' hloc hj hj'=>(XX hl').1 (hI.owninj l _ E' ty.elem val' _ j (XX hl').2 hE' hloc hl hj' hj)) r2 r3 r4 r5
           exact fin v' w' _ r1 ⟨_,this⟩
        ·cases h
       ·cases h
    ·cases h
 ·cases h
end
def ZDf(σ:St)(b:Nat)(u:Bool)(r:List PV):St:=match u with
 | true=>σ
 | false=>Xn σ b 0 [.bld true] (.bld false::r) []
def Z1c(σ:St)(dst:Option Nat)(x:Operand):Option St:=
 match opd σ x,dst with
 | some (.ptr b off),some d=>match lk b σ.boxes with
   | some (.bld u::r)=>bif Nat.beq off 0&& !(has b σ.ro)&&Nat.blt d σ.n then some (put (ZDf σ b u r) d (.p (.tup []))) else none
   | _=>none
 | _,_=>none
def ZkH(σ:St)(e:TypeId)(dst:Option Nat)(x:Operand):Option St:=
 match opd σ x,dst with
 | some (.ptr b off),some d=>match lk b σ.boxes with
   | some (.bld _::y::_)=>bif Nat.beq off 0&&Nat.blt d σ.n then
     match y with
     | .nil=>some (put σ d (.p (.str [])))
     | .lst xs=>match bytesOf xs,lkL (.b b 1) σ.own with
       | some (c::l),some E=>bif Nat.beq E e then some (put (Y2 σ (.b b 1)) d (.p (.str (c::l)))) else none
       | _,_=>none
     | _=>none
     else none
   | _=>none
 | _,_=>none
section
variable {P:Program}{B:Nat}{g:G}{σ:St}{a:Act}{w:World}{o:Oper}
theorem Z8G{f:Operand}{args:Array Operand}{ats:Array TypeId}{x:Operand}{fid:FuncId}(hop:o.op= .call ⟨.value f,args,ats⟩)(hargs:args.toList=[x])(hf:f= .func fid){w:World}{v:Value}(hx:a.eval x=v)
 (he:∀args w,(callFunc fid args).run P w= .ok (.enter fid args) w):(execOp a.eval o).run P w= .ok (.enter fid #[v]) w:=by
 have e:args.map a.eval=#[v]:=by apply QW_;rw[Array.toList_map,hargs];simp[hx]
 subst hf
 have hfv:a.eval (.func fid)= .func (.func fid) #[] #[]:=rfl
 unfold execOp
 rw[hop]
 simp only[resolve,Deferred.ofValue,hfv,pure_bind,invoke,e]
 rw[←he]
 congr 2
theorem Z9v{E:FuncId}(hcc:CCOk P E)(hI:Inv P B g σ a w){args:Array Operand}{ats:Array TypeId}{x:Operand}{σ':St}(hop:o.op= .call ⟨.value (.func E),args,ats⟩)(hargs:args.toList=[x])
 (h:Z1c σ o.dst x=some σ'):Goes P B g σ a w o σ':=by
 unfold Z1c at h
 split at h
 ·rename_i b off d hx hd
  split at h
  ·rename_i u r hb
   cases hc:(Nat.beq off 0&& !(has b σ.ro)&&Nat.blt d σ.n) with
   | false=>rw[hc] at h;cases h
   | true=>
     rw[hc] at h
     have:=Qa_ h
     subst this
     simp only[Qh_,Qi_] at hc
     obtain ⟨⟨h1,h2⟩,h3⟩:=hc
     have hoff:=Qj_ h1
     subst hoff
     have hlt:d < σ.n:=Qm_ h3
     have hro:b∉σ.ro:=fun hm=>by rw[YY.2 hm] at h2;cases h2
     obtain ⟨k,base,hk,hkl,hok,hhw,hB⟩:=hI.box b _ hb
     obtain ⟨k',base',hk',hpv⟩:=ZY hI hx
     rw[hk] at hk'
     have:=Qa_ hk'
     cases this
     obtain ⟨v,c1,c2,c3,c4⟩:=hok.cell 0 (.bld u) rfl
     cases c4 with
     | rep h=>cases h
     | bld _ h0 hs hv=>
       have hb0:base=0:=by omega
       subst hb0
       rw[QP_] at c1 c3
       rw[QP_] at hpv
       have hent:=Z8G hop hargs rfl (w:=w) hpv hcc.1
       cases u with
       | true=>
         rw[hv] at c1
         refine ZdD hd (.inr (.inr ⟨E,_,w,hent,(hcc.2.2 k w c1).mono fun e w' ⟨he,hw'⟩=>⟨_,he,g, ?_⟩⟩))
         subst hw'
         exact ⟨Jw hI hlt (x:= .tup []) (.tup _ [] rfl (fun j x y hx=>by simp at hx)),⟨rfl,rfl,rfl,Q2_ _,rfl,fun _ _ _=>rfl,fun _ _ _ _=>rfl,fun _ _ _=>rfl,fun _ _ _=>rfl,fun _ cs' _ h=>⟨cs',h,rfl,rfl⟩,Ext.refl _ _⟩⟩
       | false=>
         rw[hv] at c1
         refine ZdD hd (.inr (.inr ⟨E,_,w,hent,(hcc.2.1 k w c1 hs c3).mono fun e w' ⟨he,hw'⟩=>⟨_,he,⟨g.β,g.hw⟩, ?_⟩⟩))
         have hset:w.setCell ⟨k,0,none⟩ (.pointer (some ⟨k,0,none⟩))=w.setCells k 0 [.pointer (some ⟨k,0,none⟩)]:=rfl
         rw[hset] at hw'
         subst hw'
         have hturn:Turned g w g.hw (w.setCells k 0 [.pointer (some ⟨k,0,none⟩)]) k (0+0) 1:=by
          obtain ⟨r1,r2,r3⟩:=ZbK k [.pointer (some ⟨k,0,none⟩)] 0 w
          refine ⟨r1,r2,r3,by rw[Wh];exact Q2_ _,fun j _ hj=>ZbJ k _ _ w j hj,fun off' ho=>World.cell?_setCells_out k _ _ w _ (fun _ _=>?_),fun off'=>World.frozen?_setCells k _ _ w _,fun _ _=>rfl,fun j hj=>hI.hwlt j (by rw[Wh] at hj;exact hj)⟩
          simp only[Qs_,Q1_]
          omega
         have hshape:(w.setCells k 0 [.pointer (some ⟨k,0,none⟩)]).shape? k=w.shape? k:=ZaP k k _ _ w
         have hnew:BoxOk ⟨g.β,g.hw⟩ (w.setCells k 0 [.pointer (some ⟨k,0,none⟩)]) k (0+0) [.bld true]:=by
          refine ⟨fun j y hy=>?_⟩
          have hj:j=0:=by have:=(Qo_.1 hy).1;simp at this;exact this
          subst hj
          have:=Qa_ hy
          subst this
          refine ⟨.pointer (some ⟨k,0,none⟩),World.cell?_setCells_in k [.pointer (some ⟨k,0,none⟩)] 0 w (fun i hi=>?_) 0 (by simp),rfl, ?_,.bld true rfl (hshape.trans hs) rfl⟩
          ·have:i=0:=by simp at hi;exact hi
           subst this
           simp[c1]
          ·rw[World.frozen?_setCells];exact c3
         obtain ⟨q1,q2⟩:=Zew hI hb hro hk (by simp) hturn hnew (.inr hshape) (fun y hy b' hb'=>by rw[List.mem_singleton.1 hy] at hb';exact absurd hb' (by simp[Xz])) (own':=[]) (fun l E hl=>by simp[lkL] at hl) (fun l l' E E' hl=>by simp[lkL] at hl)
         exact ⟨Jw q1 (show d < σ.n from hlt) (x:= .tup []) (.tup _ [] rfl (fun j x y hx=>by simp at hx)),⟨q2.os,q2.tape,q2.output,q2.size,q2.n,q2.block,q2.cell,q2.frozen,q2.hw,q2.par,q2.ext⟩⟩
  ·cases h
 ·cases h
theorem Z44{g:G}{w:World}(hl:∀k,w.heap.size≤k→g.hw k=0):Grew g w g.hw w.drew none:=
 ⟨rfl,rfl,rfl,Q2_ _,fun _ _ _=>rfl,fun _ _ h=>absurd h (by simp),fun _ _ _=>rfl,fun _ _ h=>absurd h (by simp),hl⟩
theorem Zza(w:World)(p:Addr)(n:Nat)(k off:Nat):(w.freeze p n).cell? ⟨k,off,none⟩=w.cell? ⟨k,off,none⟩:=by
 unfold World.freeze
 split
 ·rfl
 ·unfold World.cell?
  simp only[Array.getElem?_modify]
  by_cases hk:p.block=k
  ·subst hk
   simp only[Kx_]
   cases w.heap[p.block]? with
   | none=>rfl
   | some ob=>cases ob<;>rfl
  ·simp only[hk,Ky_]
theorem Zzb{g:G}{w:World}(hl:∀k,w.heap.size≤k→g.hw k=0)(gb n:Nat):Grew g w g.hw (w.drew.freeze ⟨gb,0,none⟩ n) (some gb):=by
 have hsz:(w.drew.freeze ⟨gb,0,none⟩ n).heap.size=w.heap.size:=by
  unfold World.freeze
  split
  ·rfl
  ·simp
 refine ⟨?_, ?_, ?_,by rw[hsz];exact Q2_ _,fun j _ hj=>?_,fun j off _ _=>(Zza w.drew _ n j off).trans rfl,fun _ _ _=>rfl,fun _ _ _=>Q2_ _,fun j hj=>hl j (by rw[hsz] at hj;exact hj)⟩
 ·unfold World.freeze;split<;>rfl
 ·unfold World.freeze;split<;>rfl
 ·unfold World.freeze;split<;>rfl
 ·unfold World.freeze
  split
  ·rfl
  ·simp only[Array.getElem?_modify]
   rw[if_neg (fun e=>hj (by rw[←e]))]
   rfl
theorem Z45{f:FuncId}{e:TypeId}(hf:ZkE P f e)(hty:∃i,P.info? e=some i∧i.size=1)(hI:Inv P B g σ a w){args:Array Operand}{ats:Array TypeId}{x:Operand}{σ':St}(hop:o.op= .call ⟨.value (.func f),args,ats⟩)(hargs:args.toList=[x])
 (h:ZkH σ e o.dst x=some σ'):Goes P B g σ a w o σ':=by
 unfold ZkH at h
 split at h
 ·rename_i b off d hx hd
  split at h
  ·rename_i u y r hb
   cases hc:(Nat.beq off 0&&Nat.blt d σ.n) with
   | false=>rw[hc] at h;cases h
   | true=>
     rw[hc] at h
     simp only[Qb_] at h
     rw[Qh_] at hc
     have hoff:=Qj_ hc.1
     subst hoff
     have hlt:d < σ.n:=Qm_ hc.2
     obtain ⟨k,base,hk,hkl,hok,hhw,hB⟩:=hI.box b _ hb
     obtain ⟨k',base',hk',hpv⟩:=ZY hI hx
     rw[hk] at hk'
     have:=Qa_ hk'
     cases this
     obtain ⟨_,_,_,_,c4⟩:=hok.cell 0 (.bld u) rfl
     have hb0:base=0:=by
      cases c4 with
      | rep h=>cases h
      | bld _ h0 _ _=>omega
     subst hb0
     rw[QP_] at hpv
     have hent:=Z8G hop hargs rfl (w:=w) hpv hf.1
     obtain ⟨v,c1,_,_,c5⟩:=hok.cell 1 y rfl
     rw[QP_] at c1
     split at h
     ·have:=Qa_ h
      subst this
      have hv:v= .slice none 0 0:=by cases c5.plain rfl;rfl
      subst hv
      refine ZdD hd (.inr (.inr ⟨f,_,w,hent,(hf.2.2 k w c1).mono fun e w' ⟨he,hw'⟩=>⟨_,he,g, ?_⟩⟩))
      subst hw'
      obtain ⟨q1,q2⟩:=ZdC hI (Z44 hI.hwlt) (fun j h=>absurd h (by simp)) (fun j h=>absurd h (by simp)) (own':=σ.own) (fun _ _ h=>h) (fun _ _ _ _ _ _ h=>absurd h (by simp))
      exact ⟨Jw q1 (show d < σ.n from hlt) (x:= .str []) (.str []),⟨q2.os,q2.tape,q2.output,q2.size,q2.n,q2.block,q2.cell,q2.frozen,q2.hw,q2.par,q2.ext⟩⟩
     ·rename_i xs
      have hr:=c5.plain rfl
      split at h
      ·rename_i c l E hbs hE
       cases hb2:Nat.beq E e with
       | false=>rw[hb2] at h;cases h
       | true=>
         rw[hb2] at h
         have:=Qa_ h
         subst this
         have hEe:=Qj_ hb2
         subst hEe
         obtain ⟨e1,e2⟩:=ZhE hbs
         obtain ⟨val,hl,⟨i,n,xv,hi,how,hfr⟩,hbx⟩:=hI.own _ _ hE
         obtain ⟨i',hi',hs1⟩:=hty
         rw[hi] at hi'
         have:=Qa_ hi'
         subst this
         rw[hs1] at how
         have hval:val=v:=by
          obtain ⟨k2,base2,h4,h5⟩:=hl
          rw[hk] at h4
          cases h4
          rw[QP_,c1] at h5
          exact (Qa_ h5).symm
         subst hval
         have hlens:Lens 1 xs:=by
          intro z hz
          obtain ⟨j,hj,rfl⟩:=Ko_ hz
          have:=e2 j (by rw[e1];exact hj)
          rw[Qg_ hj] at this
          rw[Qa_ this]
          rfl
         obtain ⟨rfl,hcx⟩:=Zex hr how hlens
         rcases how.2 with ⟨rfl,h0⟩ | ⟨gb,cap,cur,rfl,hg,hh,r1,r2,r3,r4⟩
         ·exact absurd e1 (by rw[h0];simp)
         ·have hcell:∀(j:Nat) (z:UInt8),(c::l)[j]?=some z→w.cell? ⟨gb,j,none⟩=some (.int .u8 z.toNat):=by
           intro j z hz
           have hj:=(Qo_.1 hz).1
           have h6:=e2 j hj
           have hz':(c::l)[j]=z:=(Qo_.1 hz).2
           rw[hz'] at h6
           obtain ⟨q,h7,h8,h9⟩:=hcx j 0 _ _ h6 rfl
           have:=how.cells (g:=gb) rfl j q (by simpa using h7)
           rw[Addr.add_lit,QP_] at this
           rw[this,ZH h9]
          have hshape:w.shape? gb=some (E,cur.size):=by simp[World.shape?,hh]
          rw[←e1] at c1
          refine ZdD hd (.inr (.inr ⟨f,_,w,hent,(hf.2.1 k gb cap cur.size (c::l) w c1 hshape (by simp) (by rw[e1];exact r1) (by rw[e1,r3];omega) (by rw[e1];omega) hcell).mono fun e w' ⟨he,hw'⟩=>⟨_,he,g, ?_⟩⟩))
          subst hw'
          obtain ⟨q1,q2⟩:=ZdC hI (Zzb hI.hwlt gb (c::l).length) (fun j h b cs base hb'=>hbx j (by simpa [Value.ownBlock] using h) b cs base hb') (fun j h=>by have:=Qa_ h;subst this;exact hg) (own':=(Y2 σ (.b b 1)).own) (fun l E h=>(XX h).2)
           (fun l' E' val' j hl' hloc hj=>fun hj'=>(XX hl').1 (hI.owninj l' _ E' E val' _ j (XX hl').2 hE hloc hl hj' (by simpa [Value.ownBlock] using hj)))
          exact ⟨Jw q1 (show d < σ.n from hlt) (x:= .str (c::l)) (.str (c::l)),⟨q2.os,q2.tape,q2.output,q2.size,q2.n,q2.block,q2.cell,q2.frozen,q2.hw,q2.par,q2.ext⟩⟩
      ·cases h
     ·cases h
  ·cases h
 ·cases h
def Zvy(E:Env)(σ:St)(dst:Option Nat):Option Res:=
 match lk Zc9 E.Γ,dst with
 | some ty,some d=>match ty.zero,lk d σ.boxes with
   | [.v (.pointer none),.nil],none=>bif Nat.blt d σ.n then some ⟨.ptr d 0,some [.bld false,.nil],none⟩ else none
   | _,_=>none
 | _,_=>none
theorem Z46{E:Env}(hE:EnvOk P E){r:Res}(hop:o.op= .alloc Zc9)(h:Zvy E σ o.dst=some r):W4 P σ o r:=by
 unfold Zvy at h
 split at h
 ·rename_i ty d hty hd
  split at h
  ·rename_i hz0 hn
   cases hb:Nat.blt d σ.n with
   | false=>rw[hb] at h;cases h
   | true=>
     rw[hb] at h
     have:=Qa_ h
     subst this
     have hlt:d < σ.n:=Qm_ hb
     intro B g a w hI
     refine ⟨?_,fun d' hd'=>?_⟩
     ·obtain ⟨z,hz,hzc,h1,_⟩:=WR (Yg (hE.Γ _ ty hty)) w
      have hc:CellsRep g.hw w z.cells.toList ty.zero:=by rw[hzc];exact CellsRep.zero h1
      rw[hz0] at hc
      have hcl:z.cells.toList=[.pointer none,.slice none 0 0]:=by
       have hlen:z.cells.toList.length=2:=hc.len
       have g0:=Qg_ (l:=z.cells.toList) (i:=0) (by omega)
       have g1:=Qg_ (l:=z.cells.toList) (i:=1) (by omega)
       have r0:=ZH (hc.rep 0 _ _ g0 rfl)
       have r1:=hc.rep 1 _ _ g1 rfl
       have r1':z.cells.toList[1]= .slice none 0 0:=by
        generalize z.cells.toList[1]=q at *
        cases r1;rfl
       apply List.ext_getElem?
       intro j
       match j with
       | 0=>rw[g0,r0];rfl
       | 1=>rw[g1,r1'];rfl
       | j+2=>rw[Kf_ (by omega)];rfl
      have hrun:(execOp a.eval o).run P w= .ok (.value (.pointer (some ⟨w.heap.size,0,none⟩))) (w.alloc (.cells #[.pointer none,.slice none 0 0] Zc9)):=by
       have e:z.cells=#[.pointer none,.slice none 0 0]:=by apply QW_;rw[hcl]
       simp[execOp,hop,Instr.alloc,hz,newVar,newRow,e]
      have q:Qt g.hw w g.hw (w.alloc (.cells #[.pointer none,.slice none 0 0] Zc9)):=
       ⟨(Below.refl _ _).alloc (Q2_ _) _,fun _ _=>rfl,fun k hk=>hI.hwlt k (by simp at hk;omega)⟩
      refine .inl ⟨_,_,hrun,⟨fun b=>if b=d then some (w.heap.size,0) else g.β b,g.hw⟩,⟨q,⟨w.heap.size,0,by simp,rfl⟩,fun h=>absurd h (by simp), ?_,fun _ h=>absurd h (by simp),fun h=>absurd h (by simp)⟩⟩
      intro cs' e
      have:=Qa_ e
      subst this
      refine ⟨d,w.heap.size,hd,hn,rfl,fun b hb=>by simp[hb],by simp,Q2_ _,by simp,⟨fun j y hy=>?_⟩,hI.hwlt _ (Q2_ _),fun y hy=>by simp only[Q9_,List.not_mem_nil,or_false] at hy;rcases hy with e | e<;>(rw[e];rfl)⟩
      have hsh:(w.alloc (.cells #[.pointer none,.slice none 0 0] Zc9)).shape? w.heap.size=some (Zc9,2):=by
       have:=heap_alloc_new w (.cells #[.pointer none,.slice none 0 0] Zc9)
       simp only[World.shape?,this]
       rfl
      match j,hy with
      | 0,hy=>
        have:=Qa_ hy
        subst this
        refine ⟨.pointer none, ?_,rfl, ?_,.bld false rfl hsh rfl⟩
        ·rw[QP_,World.cell?_alloc_new];rfl
        ·rw[QP_,World.frozen?_alloc_new]
      | 1,hy=>
        have:=Qa_ hy
        subst this
        refine ⟨.slice none 0 0, ?_,rfl, ?_,.rep .nil⟩
        ·rw[World.cell?_alloc_new];rfl
        ·rw[World.frozen?_alloc_new]
      | j+2,hy=>simp at hy
     ·rw[hd] at hd'
      have:=Qa_ hd'
      subst this
      exact ⟨hlt,fun l h=>absurd h (by simp)⟩
  ·cases h
 ·cases h
end
def Zvz:AV→Option PV
 | .ptr b o=>some (.bp b o)
 | .sl b o n s=>some (.bs b o n s)
 | _=>none
def ZnJ(Γ:List (Nat×Ty))(σ:St)(T:TypeId)(p x:Operand):Option St:=
 match opd σ p,opd σ x,lk T Γ with
 | some (.ptr b off),some av,some ty=>match lk b σ.boxes,Zvz av with
   | some cs,some y=>bif Nat.beq ty.size 1&&Nat.ble (off+1) cs.length&& !(has b σ.ro) then some (Xn σ b off [y] cs []) else none
   | _,_=>none
 | _,_,_=>none
def ZtO(E:Env)(σ:St)(d:Nat)(T:TypeId):Option St:=
 match lk T E.Γ with
 | some ty=>bif Nat.beq ty.kd 3&&Nat.blt d σ.n then match lk ty.elem E.Γ with
   | some ety=>bif Nat.beq ety.size 0 then none else some (JY (put σ d (.p (.lst []))) d ty.elem)
   | none=>none
   else none
 | none=>none
def Zm9(E:Env)(σ:St)(d:Nat)(x y:Operand)(t t':TypeId):Option St:=
 match lk t E.Γ,x,ZA σ x,ZA σ y with
 | some ty,.tmp t1,some (.lst []),some (.lst ys)=>match lk ty.elem E.Γ with
   | some ety=>bif Nat.beq t t'&&Nat.beq ty.kd 3&& !(Nat.beq ety.size 0)&& !(Nat.beq ety.bytes 0)&&Nat.blt 0 ys.length&&Nat.ble ((0+ys.length)*ety.bytes) 140737488355328&&Jg ety.size ys&&Y8 (lk d σ.boxes)&&Nat.blt d σ.n then
     let l:=match lk t1 σ.al with | some l=>l | none=> .t t1
     match lkL l σ.own with
     | some E'=>bif Nat.beq E' ty.elem then some (put {Y2 σ l with boxes:=(d,ys.flatten)::σ.boxes} d (.sl d 0 ys.length ety.size)) else none
     | none=>none
     else none
   | none=>none
 | _,_,_,_=>none
def RRA(E:Env)(σ:St)(o:Oper):Option Res:=
 match o.dst with
 | some d=>bif Nat.blt d σ.n then
   match o.op with
   | .load T x=>match opd σ x,lk T E.Γ with
     | some (.ptr b off),some ty=>bif Nat.beq ty.size 1&& !ty.agg then match lk b σ.boxes with
       | some cs=>match cs[off]? with
         | some (.bs b' o n s)=>some ⟨.sl b' o n s,none,none⟩
         | some (.bp b' o)=>some ⟨.ptr b' o,none,none⟩
         | _=>none
       | none=>none
       else none
     | _,_=>none
   | .indexAddr T x i=>match lk T E.Γ,opd σ x,ZA σ i with
     | some ty,some (.sl b off n s),some (.v (.int _ m))=>match lk ty.elem E.Γ with
       | some ety=>bif Nat.beq ty.kd 3&&Nat.beq ety.size s&&decide (0≤m)&&decide (m < n) then some ⟨.ptr b (off+m.toNat *s),none,none⟩ else none
       | none=>none
     | _,_,_=>none
   | .call ⟨.builtin .len,args,ats⟩=>match args.toList,ats.toList with
     | [x],[t]=>match opd σ x,lk t E.Γ with
       | some (.sl _ _ n _),some ty=>bif Nat.beq ty.kd 3 then some ⟨.p (.v (.int .i64 n)),none,none⟩ else none
       | _,_=>none
     | _,_=>none
   | _=>none
   else none
 | none=>none
theorem Zjh{α:Type}{s:Nat}:∀{ys:List (List α)} (_:∀x∈ys,x.length=s) {p:Nat} {y:α},ys.flatten[p]?=some y→∃i j x,ys[i]?=some x∧x[j]?=some y∧p=i *s+j
 | [],_,p,y,h=>by simp at h
 | x::r,hs,p,y,h=>by
   have hx:=hs x (Qv_ ..)
   rw[List.flatten_cons,K2_] at h
   split at h
   ·exact ⟨0,p,x,rfl,h,by omega⟩
   ·rename_i hp
    obtain ⟨i,j,x',h1,h2,h3⟩:=Zjh (fun z hz=>hs z (Qq_ _ hz)) h
    refine ⟨i+1,j,x',by simpa using h1,h2, ?_⟩
    rw[Kq_]
    omega
section
variable {P:Program}{B:Nat}{g:G}{σ:St}{a:Act}{w:World}{o:Oper}
theorem Z47(hI:Inv P B g σ a w){d:Nat}(hd:d < σ.n)(hdb:lk d σ.boxes=none){k n s cap:Nat}{cs:List PV}(hk:k < w.heap.size)(hB:B≤k)(h0:g.hw k=0)(hcap:n≤cap)
 (hnb:∀b cs base,lk b σ.boxes=some cs→g.β b≠some (k,base)) (hno:∀l E val,lkL l σ.own=some E→LocIs g a w l val→val.ownBlock≠some k)
 (hbx:BoxOk ⟨fun b=>if b=d then some (k,0) else g.β b,g.hw⟩ w k 0 cs) (hrf:∀y∈cs,∀b',Xz y=some b'→∃c,lk b' σ.boxes=some c):
 Inv P B ⟨fun b=>if b=d then some (k,0) else g.β b,g.hw⟩ (put {σ with boxes:=(d,cs)::σ.boxes} d (.sl d 0 n s)) (a.put (some d) (.slice (some ⟨k,0,none⟩) n cap)) w∧
 Fr B g σ w ⟨fun b=>if b=d then some (k,0) else g.β b,g.hw⟩ (put {σ with boxes:=(d,cs)::σ.boxes} d (.sl d 0 n s)) w:=by
 have ne:∀b,(∃c,lk b σ.boxes=some c)→b≠d:=by
  rintro b ⟨c,h⟩ e
  rw[e,hdb] at h
  cases h
 have be:∀b,(∃c,lk b σ.boxes=some c)→(if b=d then some (k,0) else g.β b)=g.β b:=fun b h=>if_neg (ne b h)
 have bx:∀b c,lk b ((d,cs)::σ.boxes)=some c→(b=d∧c=cs)∨lk b σ.boxes=some c:=by
  intro b c h
  rw[Zq] at h
  split at h
  ·rename_i e;exact .inl ⟨e,(Qa_ h).symm⟩
  ·exact .inr h
 have isb:∀b,(∃c,lk b σ.boxes=some c)→∃c,lk b ((d,cs)::σ.boxes)=some c:=by
  rintro b ⟨c,h⟩
  rw[Zq]
  split
  ·exact ⟨cs,rfl⟩
  ·exact ⟨c,h⟩
 have loc:∀l val,l≠ .t d→(∀b c,l= .b b c→∃c,lk b σ.boxes=some c)→(LocIs ⟨fun b=>if b=d then some (k,0) else g.β b,g.hw⟩ (a.put (some d) (.slice (some ⟨k,0,none⟩) n cap)) w l val↔LocIs g a w l val):=by
  intro l val hl hb
  cases l with
  | t t=>
    have hne:t≠d:=fun e=>hl (by rw[e])
    show (a.tmps.setIfInBounds d _).getD t undef=val↔a.tmps.getD t undef=val
    rw[W0 hne]
  | b b c=>
    show (∃k1 base,(if b=d then some (k,0) else g.β b)=some (k1,base)∧_)↔∃k1 base,g.β b=some (k1,base)∧_
    rw[be b (hb b c rfl)]
 have ownl:∀l E,lkL l (put {σ with boxes:=(d,cs)::σ.boxes} d (.sl d 0 n s)).own=some E→l≠ .t d∧lkL l σ.own=some E:=fun l E h=>ZzV (σ:={σ with boxes:=(d,cs)::σ.boxes}) h
 have ownb:∀l E,lkL l σ.own=some E→∀b c,l= .b b c→∃c,lk b σ.boxes=some c:=fun l E h b c e=>by
  have:=hI.ownt l E h
  subst e
  exact this
 have tm:∀t v,lk t ((d,AV.sl d 0 n s)::σ.tmps)=some v→(t=d∧v= .sl d 0 n s)∨(t≠d∧lk t σ.tmps=some v):=by
  intro t v h
  rw[Zq] at h
  split at h
  ·rename_i e;exact .inl ⟨e,(Qa_ h).symm⟩
  ·rename_i e;exact .inr ⟨e,h⟩
 have als:∀t l,(t,l)∈(put {σ with boxes:=(d,cs)::σ.boxes} d (.sl d 0 n s)).al→(t,l)∈σ.al∧t≠d∧l≠ .t d:=by
  intro t l h
  obtain ⟨h1,h2⟩:=QY_.1 h
  simp only[Qh_,Qi_] at h2
  refine ⟨h1,fun e=>?_,fun e=>?_⟩
  ·rw[e] at h2;simp at h2
  ·rw[e,Loc.eq_iff.2 rfl] at h2;exact absurd h2.2 (by simp)
 refine ⟨⟨?_,hI.defers,fun t v ht=>?_,fun t b off ht=>?_,fun t f bs ht b hb=>?_,fun b c h=>?_,fun b b' c c' k1 base base' h1 h2 h3 h4=>?_,hI.hwlt,hI.base,hI.glob,fun l E h=>?_,fun l E h=>?_,fun l l' E E' v v' k1 h1 h2 h3 h4 h5 h6=>?_,fun t l h=>?_,fun t b c h=>?_,fun t b off m s' ht=>?_,fun b c h y hy b' hb'=>?_⟩, ?_⟩
 ·show (a.tmps.setIfInBounds d _).size=σ.n
  simp[hI.size]
 ·rcases tm t v ht with ⟨rfl,rfl⟩ | ⟨hne,ht⟩
  ·refine ⟨hd,k,0,cap,by simp,hcap, ?_⟩
   show (a.tmps.setIfInBounds t _).getD t undef=_
   rw[ZeW (by rw[hI.size];exact hd)]
  ·obtain ⟨h1,h2⟩:=hI.tmp t v ht
   refine ⟨h1, ?_⟩
   show RepA _ w ((a.tmps.setIfInBounds d _).getD t undef) v
   rw[W0 hne]
   refine RepA.mono (g:=g) (g':=⟨fun b=>if b=d then some (k,0) else g.β b,g.hw⟩) (Ext.refl _ _) (fun b=>?_) (fun b off n' s' e=>be b (hI.sl t b off n' s' (by rw[ht,e]))) h2
   cases v with
   | p x=>exact .inl ⟨fun _=>by simp,fun _ _=>by simp⟩
   | sl b' off n' s'=>exact .inl ⟨fun _=>by simp,fun _ _=>by simp⟩
   | ptr b' off=>
     by_cases e:b=b'
     ·subst e;exact .inr (be b (hI.ptr t b off ht))
     ·exact .inl ⟨fun off'=>by simp;intro e';exact absurd e'.symm e,fun _ _=>by simp⟩
   | fnp f bs=>
     by_cases e:b∈bs
     ·exact .inr (be b (hI.fnp t f bs ht b e))
     ·exact .inl ⟨fun _=>by simp,fun f' bs' e'=>by cases e';exact e⟩
 ·rcases tm t _ ht with ⟨_,e⟩ | ⟨_,ht⟩
  ·cases e
  ·exact isb b (hI.ptr t b off ht)
 ·rcases tm t _ ht with ⟨_,e⟩ | ⟨_,ht⟩
  ·cases e
  ·exact isb b (hI.fnp t f bs ht b hb)
 ·rcases bx b c h with ⟨rfl,rfl⟩ | h
  ·exact ⟨k,0,by simp,hk,hbx,fun _=>h0,fun _=>hB⟩
  ·obtain ⟨k1,base,q1,q2,q3,q4,q5⟩:=hI.box b c h
   refine ⟨k1,base,(be b ⟨c,h⟩).trans q1,q2, ?_,q4,q5⟩
   exact ⟨fun j y hy=>let ⟨v,r1,r2,r3,r4⟩:=q3.cell j y hy;⟨v,r1,r2,r3,r4.mono (Ext.refl _ _) rfl (fun b' hb'=>be b' (hI.ref b c h y (Qz_ hy) b' hb'))⟩⟩
 ·have h3':(if b=d then some (k,0) else g.β b)=some (k1,base):=h3
  have h4':(if b'=d then some (k,0) else g.β b')=some (k1,base'):=h4
  rcases bx b c h1 with ⟨e1,_⟩ | q1<;>rcases bx b' c' h2 with ⟨e2,_⟩ | q2
  ·rw[e1,e2]
  ·rw[if_pos e1] at h3'
   rw[be b' ⟨c',q2⟩] at h4'
   cases h3'
   exact absurd h4' (hnb b' c' base' q2)
  ·rw[if_pos e2] at h4'
   rw[be b ⟨c,q1⟩] at h3'
   cases h4'
   exact absurd h3' (hnb b c base q1)
  ·rw[be b ⟨c,q1⟩] at h3'
   rw[be b' ⟨c',q2⟩] at h4'
   exact hI.inj b b' c c' k1 base base' q1 q2 h3' h4'
 ·obtain ⟨hl,ho⟩:=ownl l E h
  obtain ⟨val,q1,q2,q3⟩:=hI.own l E ho
  refine ⟨val,(loc l val hl (ownb l E ho)).2 q1,q2,fun k1 hk1 b c base hb=>?_⟩
  rcases bx b c hb with ⟨rfl,rfl⟩ | hb
  ·simp only[Kx_]
   intro e
   cases e
   exact hno l E val ho q1 hk1
  ·show (if b=d then some (k,0) else g.β b)≠some (k1,base)
   rw[be b ⟨c,hb⟩]
   exact q3 k1 hk1 b c base hb
 ·obtain ⟨hl,h⟩:=ownl l E h
  have:=hI.ownt l E h
  cases l with
  | t t=>exact this
  | b b c=>exact isb b this
 ·obtain ⟨hl1,h1⟩:=ownl l E h1
  obtain ⟨hl2,h2⟩:=ownl l' E' h2
  exact hI.owninj l l' E E' v v' k1 h1 h2 ((loc l v hl1 (ownb l E h1)).1 h3) ((loc l' v' hl2 (ownb l' E' h2)).1 h4) h5 h6
 ·obtain ⟨h1,h2,h3⟩:=als t l h
  show LocIs _ _ w l ((a.tmps.setIfInBounds d _).getD t undef)
  rw[W0 h2]
  exact (loc l _ h3 (fun b c e=>by subst e;exact hI.alt t b c h1)).2 (hI.al t l h1)
 ·exact isb b (hI.alt t b c (als t _ h).1)
 ·rcases tm t _ ht with ⟨_,e⟩ | ⟨_,ht⟩
  ·cases e
   exact ⟨cs,by show lk d ((d,cs)::σ.boxes)=_;rw[Zq,if_pos rfl]⟩
  ·exact isb b (hI.sl t b off m s' ht)
 ·rcases bx b c h with ⟨rfl,rfl⟩ | h
  ·exact isb b' (hrf y hy b' hb')
  ·exact isb b' (hI.ref b c h y hy b' hb')
 ·refine ⟨rfl,rfl,rfl,Q2_ _,rfl,fun _ _ _=>rfl,fun _ _ _ _=>rfl,fun _ _ _=>rfl,fun _ _ _=>rfl,fun b c hb h=>?_,Ext.refl _ _⟩
  rcases bx b c h with ⟨rfl,rfl⟩ | h
  ·omega
  ·exact ⟨c,h,rfl,be b ⟨c,h⟩⟩
theorem Z9w{T e:TypeId}{ety:Ty}(hu:P.underlying T=some (.slice e))(hE:TyIs P e ety):(Instr.buildSlice T 0 #[]).run P w= .ok (.slice (some ⟨w.heap.size,0,none⟩) 0 0) (w.alloc (.cells #[] e)):=by
 have e0:(Array.range 0).map (fun i=>(#[]:Array Value)[i % (#[]:Array Value).size]!)=#[]:=by apply QW_;simp
 unfold Instr.buildSlice
 simp only[Sem.run_bind,run_underlying hu,Result.andThen_ok,Ys hE,Nat.zero_mul,Kx_,pure_bind,e0]
 rfl
theorem Z7d{E:Env}(hE:EnvOk P E)(hI:Inv P B g σ a w){T:TypeId}{ps:Array (Nat×Operand)}{d:Nat}{σ':St}(hop:o.op= .buildSlice T 0 ps)(hps:ps.toList=[])(hdst:o.dst=some d)(h:ZtO E σ d T=some σ'):Goes P B g σ a w o σ':=by
 have eps:ps=#[]:=by apply QW_;simpa using hps
 subst eps
 unfold ZtO at h
 split at h
 ·rename_i ty hty
  cases hb:(Nat.beq ty.kd 3&&Nat.blt d σ.n) with
  | false=>rw[hb] at h;cases h
  | true=>
    rw[hb] at h
    simp only[Qb_] at h
    rw[Qh_] at hb
    have hd:d < σ.n:=Qm_ hb.2
    split at h
    ·rename_i ety hety
     cases hs:Nat.beq ety.size 0 with
     | true=>rw[hs] at h;cases h
     | false=>
       rw[hs] at h
       have:=Qa_ h
       subst this
       obtain ⟨_,hk3,_⟩:=YW (Yg (hE.Γ _ _ hty))
       have hu:=hk3 (Qj_ hb.1)
       have hET:=Yg (hE.Γ _ _ hety)
       obtain ⟨i,z,hi,hz,e1,_⟩:=hET.info
       have hrun:=Z9w (w:=w) hu hET
       have q:Qt g.hw w g.hw (w.alloc (.cells #[] ty.elem)):=⟨(Below.refl _ _).alloc (Q2_ _) _,fun _ _=>rfl,fun k hk=>hI.hwlt k (by simp at hk;omega)⟩
       have hrep:Rep g.hw (w.alloc (.cells #[] ty.elem)) (.slice (some ⟨w.heap.size,0,none⟩) 0 0) (.lst []):=
        .lst [] w.heap.size 0 0 0 (fun _ _=>undef) (Q2_ _) (fun i x hx=>by simp at hx) (fun i j hi'=>by simp at hi') (fun i j x y hx=>by simp at hx) (fun i j hi'=>by simp at hi') (by simp)
       have hown:OwnV P B g.hw (w.alloc (.cells #[] ty.elem)) ty.elem (.slice (some ⟨w.heap.size,0,none⟩) 0 0):=
        ⟨i,0,[],hi,⟨by simp,.inr ⟨w.heap.size,0,#[],rfl,hI.base,heap_alloc_new w _,Q2_ _,K1_ _,by simp,by simp⟩⟩,fun k hk=>by
          have:k=w.heap.size:=by simp[Value.ownBlock] at hk;exact hk.symm
          rw[this,hI.hwlt _ (Q2_ _),Nat.zero_mul]⟩
       have:=ZaS (v:= .slice none 0 0) (own':=σ.own) hI hd (fun k hk=>absurd hk (by simp[Value.ownBlock])) (fun k hk=>absurd hk (by simp[Value.ownBlock])) (fun _ _ h=>h) (fun _ _ _ j _ _ hk=>absurd hk (by simp[Value.ownBlock])) q.grew hrep hown (.inr (fun k hk=>by simp[Value.ownBlock] at hk;omega))
       refine .inl ⟨_,_, ?_,by rw[hdst];exact ⟨_,this⟩⟩
       unfold execOp
       rw[hop]
       simp only[List.map_toArray,QN_]
       exact Yl hrun
    ·cases h
 ·cases h
theorem Zzc{Γ:List (Nat×Ty)}(hΓ:Yo P Γ)(hI:Inv P B g σ a w){T:TypeId}{p x:Operand}{σ':St}(hop:o.op= .store T p x)(hd:o.dst=none)(h:ZnJ Γ σ T p x=some σ'):Goes P B g σ a w o σ':=by
 unfold ZnJ at h
 split at h
 ·rename_i b off av ty hp hv hty
  split at h
  ·rename_i cs y hcs hy
   cases hb:(Nat.beq ty.size 1&&Nat.ble (off+1) cs.length&& !(has b σ.ro)) with
   | false=>rw[hb] at h;cases h
   | true=>
     rw[hb] at h
     have:=Qa_ h
     subst this
     simp only[Qh_,Qi_] at hb
     have e3:=Qj_ hb.1.1
     have e2:=Qm_ hb.1.2
     have hro:b∉σ.ro:=fun hm=>by rw[YY.2 hm] at hb;exact absurd hb.2 (by simp)
     obtain ⟨k,base,hk,hpv⟩:=ZY hI hp
     obtain ⟨k',base',hk',hlt,hok,hhw,hB⟩:=hI.box b cs hcs
     rw[hk] at hk'
     have:=Qa_ hk'
     cases this
     have hT:=Yg (hΓ T ty hty)
     have hrep:=ZY hI hv
     have hcell:(a.eval x).cells=#[a.eval x]∧(a.eval x).oneCell'=true∧(∀w',RepB g.β g.hw w' k (base+off) 0 (a.eval x) y)∧∀b',Xz y=some b'→∃c,lk b' σ.boxes=some c:=by
      have hbx:∀t,x= .tmp t→lk t σ.tmps=some av:=fun t e=>by subst e;exact hv
      cases av with
      | p z=>exact absurd hy (by simp[Zvz])
      | fnp f bs=>exact absurd hy (by simp[Zvz])
      | ptr b2 o2=>
        have:=Qa_ hy
        subst this
        obtain ⟨k2,base2,h1,h2⟩:=hrep
        refine ⟨by rw[h2];rfl,by rw[h2];rfl,fun w'=> .bp b2 o2 ⟨k2,base2,h1,h2⟩,fun b' hb'=>?_⟩
        have:=Qa_ hb'
        subst this
        exact ZhT hI hv
      | sl b2 o2 n2 s2=>
        have:=Qa_ hy
        subst this
        obtain ⟨k2,base2,cap,h1,h2,h3⟩:=hrep
        refine ⟨by rw[h3];rfl,by rw[h3];rfl,fun w'=> .bs b2 o2 n2 s2 ⟨k2,base2,cap,h1,h2,h3⟩,fun b' hb'=>?_⟩
        have:=Qa_ hb'
        subst this
        cases x with
        | tmp t=>exact hI.sl t b2 o2 n2 s2 hv
        | const c=>simp only[opd] at hv;split at hv<;>cases hv
        | global _=>simp only[opd] at hv;split at hv<;>cases hv
        | func _=>exact absurd hv (by simp[opd])
     obtain ⟨c1,c2,c3,c4⟩:=hcell
     obtain ⟨u,u1,_,u3,_⟩:=hok.cell off cs[off] (Qg_ (by omega))
     have hrun:=run_storeCells_cells (P:=P) k (base+off) [a.eval x] 0 w (fun j hj=>by have:j=0:=by simp at hj;exact hj
                                                                                      subst this;simp[u1]) (fun j hj=>by have:j=0:=by simp at hj;exact hj
                                                                                                                         subst this;simpa using u3) (fun z hz=>by rw[List.mem_singleton.1 hz];exact c2)
     simp only[Nat.add_zero] at hrun
     have hturn:Turned g w g.hw (w.setCells k (base+off) [a.eval x]) k (base+off) 1:=by
      obtain ⟨r1,r2,r3⟩:=ZbK k [a.eval x] (base+off) w
      refine ⟨r1,r2,r3,by rw[Wh];exact Q2_ _,fun j _ hj=>ZbJ k _ _ w j hj,fun off' ho=>World.cell?_setCells_out k _ _ w _ (fun _ _=>?_),fun off'=>World.frozen?_setCells k _ _ w _,fun _ _=>rfl,fun j hj=>hI.hwlt j (by rw[Wh] at hj;exact hj)⟩
      simp only[Qs_,Q1_]
      omega
     have hshape:(w.setCells k (base+off) [a.eval x]).shape? k=w.shape? k:=ZaP k k _ _ w
     have hnew:BoxOk ⟨g.β,g.hw⟩ (w.setCells k (base+off) [a.eval x]) k (base+off) [y]:=by
      refine ⟨fun j z hz=>?_⟩
      have hj:j=0:=by have:=(Qo_.1 hz).1;simp at this;exact this
      subst hj
      have:=Qa_ hz
      subst this
      refine ⟨a.eval x,World.cell?_setCells_in k [a.eval x] (base+off) w (fun i hi=>?_) 0 (by simp),c2, ?_,c3 _⟩
      ·have:i=0:=by simp at hi;exact hi
       subst this
       simp[u1]
      ·rw[World.frozen?_setCells];exact u3
     obtain ⟨q1,q2⟩:=Zew hI hcs hro hk (by simp;omega) hturn hnew (.inr hshape) (fun z hz b' hb'=>c4 b' (by rw[←List.mem_singleton.1 hz];exact hb')) (own':=[]) (fun l E hl=>by simp[lkL] at hl) (fun l l' E E' hl=>by simp[lkL] at hl)
     refine .inr (.inl ⟨undef,_,rfl, ?_,⟨g.β,g.hw⟩,by rw[hd];exact q1,q2⟩)
     unfold execOp
     rw[hop]
     simp[Instr.storeAt,Instr.sureAddr,hpv,storeVar,c1,e3,Ys hT,hrun]
  ·cases h
 ·cases h
theorem ZAn(hI:Inv P B g σ a w){x:Operand}{b off n s:Nat}(h:opd σ x=some (.sl b off n s)):∃cs,lk b σ.boxes=some cs:=by
 cases x with
 | tmp t=>exact hI.sl t b off n s h
 | const v=>simp only[opd] at h;split at h<;>cases h
 | global _=>simp only[opd] at h;split at h<;>cases h
 | func _=>exact absurd h (by simp[opd])
theorem Z1d{E:Env}(hE:EnvOk P E)(hI:Inv P B g σ a w){args:Array Operand}{ats:Array TypeId}{x y:Operand}{t t':TypeId}{d:Nat}(hop:o.op= .call ⟨.builtin .append,args,ats⟩)(hargs:args.toList=[x,y])(hats:ats.toList=[t,t'])
 (hdst:o.dst=some d) {σ':St} (h:Zm9 E σ d x y t t'=some σ'):Goes P B g σ a w o σ':=by
 have ea:args=#[x,y]:=by apply QW_;simpa using hargs
 have et:ats=#[t,t']:=by apply QW_;simpa using hats
 subst ea;subst et
 unfold Zm9 at h
 split at h
 ·rename_i ty t1 ys hty hx hy
  split at h
  ·rename_i ety hety
   cases hb:(Nat.beq t t'&&Nat.beq ty.kd 3&& !(Nat.beq ety.size 0)&& !(Nat.beq ety.bytes 0)&&Nat.blt 0 ys.length&&Nat.ble ((0+ys.length)*ety.bytes) 140737488355328&&Jg ety.size ys&&Y8 (lk d σ.boxes)&&Nat.blt d σ.n) with
   | false=>rw[hb] at h;cases h
   | true=>
     rw[hb] at h
     simp only[Qb_] at h
     simp only[Qh_,Qi_] at hb
     obtain ⟨⟨⟨⟨⟨⟨⟨⟨b1,b2⟩,b3⟩,b4⟩,b5⟩,b6⟩,b7⟩,b8⟩,b9⟩:=hb
     have htt:=Qj_ b1
     subst htt
     have hkd:=Qj_ b2
     have s0:ety.size≠0:=fun e=>by rw[e] at b3;exact absurd b3 (by decide)
     have hb0:ety.bytes≠0:=fun e=>by rw[e] at b4;exact absurd b4 (by decide)
     have h0:0 < ys.length:=Qm_ b5
     have hbytes:=Qm_ b6
     have hlens:=Zcd b7
     have hd:d < σ.n:=Qm_ b9
     have hdb:lk d σ.boxes=none:=by
      cases hq:lk d σ.boxes with
      | none=>rfl
      | some c=>rw[hq] at b8;exact absurd b8 (by simp[Y8])
     split at h
     ·rename_i E' hE'
      cases hb3:Nat.beq E' ty.elem with
      | false=>rw[hb3] at h;cases h
      | true=>
        rw[hb3] at h
        have:=Qa_ h
        subst this
        have hEe:=Qj_ hb3
        subst hEe
        obtain ⟨val,hl,hov,hbx⟩:=hI.own _ ty.elem hE'
        have hlv:LocIs g a w (match lk t1 σ.al with | some l=>l | none=> .t t1) (a.eval (.tmp t1)):=by
         split
         ·rename_i l hl;exact hI.al _ _ (ZcE hl)
         ·rfl
        have hv:=Zay hl hlv
        subst hv
        have hrx:Rep g.hw w (a.eval (.tmp t1)) (.lst []):=Z9 hI (by assumption)
        have hry:Rep g.hw w (a.eval y) (.lst ys):=Z9 hI (by assumption)
        have hET:=Yg (hE.Γ _ _ hety)
        obtain ⟨i,z,hi,hz,e1,e2,_,_,hzs⟩:=hET.info
        obtain ⟨_,hk3,_⟩:=YW (Yg (hE.Γ _ _ hty))
        have hu:=hk3 hkd
        obtain ⟨i',n,xv,hi',hown,hfr⟩:=hov
        rw[hi] at hi'
        have:=Qa_ hi'
        subst this
        rw[e1] at s0 hlens
        rw[e2] at hb0 hbytes
        obtain ⟨hn0,_⟩:=Zex hrx hown (fun x hx=>by simp at hx)
        simp only[Q1_] at hn0
        subst hn0
        obtain ⟨blk,off,cap,hvy,news,n1,n2,n3,n4⟩:=ZoA hry h0 hlens
        have hsum:ys.length≤140737488355328:=by
         have:=Nat.le_mul_of_pos_right ys.length (m:=i.bytes) (by omega)
         rw[QP_] at hbytes
         omega
        obtain ⟨v',w',hr,how,hg,hblk,hst,hfz⟩:=Znp (ty:=o.type) hu hi hz hzs (by omega) hown (m:=ys.length) (c:=cap) n1 n2 n3 (by simp only[maxLen];omega) hbytes hI.base
        have hxv:xv=[]:=QM_ (by have:=hown.1;omega)
        rw[hxv,QJ_,QP_] at how
        have hgrew:Grew g w g.hw w' (a.eval (.tmp t1)).ownBlock:=by
         refine ⟨hg.os,hg.tape,hg.output,hg.size,hg.block,fun j off hj hoff=>?_,fun _ _ _=>rfl,fun _ _ _=>Q2_ _,fun j hj=>hI.hwlt j (QT_ hg.size hj)⟩
         rw[hfr j hj] at hoff
         omega
        have hx':=hgrew.ext hI.hwlt
        have hlt0:=Y7 (hI.own _ _ hE').choose_spec.2.1
        rcases how.2 with ⟨_,hz0⟩ | ⟨gb,cap',cur,hv',hgB,hgh,r1,r2,r3,r4⟩
        ·omega
        ·subst hv'
         have hgl:gb < w'.heap.size:=(QL_.1 hgh).1
         have hb':some gb=(a.eval (.tmp t1)).ownBlock∨w.heap.size≤gb:=by
          rcases hblk with h | h
          ·exact .inl h
          ·exact .inr (h gb rfl)
         obtain ⟨h1,f1⟩:=ZdC hI hgrew (fun j hj b cs base hbb=>hbx j hj b cs base hbb) (fun j hj=>by
          rcases hown.2 with ⟨hv0,_⟩ | ⟨g0,c0,cu0,hv0,hB0,_⟩
          ·rw[hv0] at hj;exact absurd hj (by simp[Value.ownBlock])
          ·rw[hv0] at hj;have:j=g0:=by simp[Value.ownBlock] at hj;exact hj.symm
           rw[this];exact hB0) (own':=(Y2 σ (match lk t1 σ.al with | some l=>l | none=> .t t1)).own) (fun l E h=>(XX h).2)
          (fun l E2 val2 j hl2 hloc hj hj'=>(XX hl2).1 (hI.owninj l _ E2 ty.elem val2 _ j (XX hl2).2 hE' hloc hl hj' hj))
         have hw0:g.hw gb=0:=by
          rcases hb' with h | h
          ·rw[hfr gb h.symm,Nat.zero_mul]
          ·exact hI.hwlt gb h
         have c1:∀b cs base,lk b σ.boxes=some cs→g.β b≠some (gb,base):=by
          intro b cs base hbb
          rcases hb' with h | h
          ·exact hbx gb h.symm b cs base hbb
          ·intro e
           obtain ⟨k2,base2,q1,q2,_⟩:=hI.box b cs hbb
           have e':g.β b=some (gb,base):=e
           rw[q1] at e'
           cases e'
           omega
         have c2:∀l E2 val2,lkL l (Y2 σ (match lk t1 σ.al with | some l=>l | none=> .t t1)).own=some E2→LocIs ⟨g.β,g.hw⟩ a w' l val2→val2.ownBlock≠some gb:=by
          intro l E2 val2 hl2 hloc
          obtain ⟨hne,hl3⟩:=XX hl2
          obtain ⟨val0,q1,q2,q3⟩:=hI.own l E2 hl3
          have hbx2:∀b c,l= .b b c→∃cs,lk b σ.boxes=some cs:=fun b c e=>by have:=hI.ownt l E2 hl3;subst e;exact this
          have q4:=ZuZ hI hgrew (fun j hj b cs base hbb=>hbx j hj b cs base hbb) hbx2 q1
          have:=Zay q4 hloc
          subst this
          intro e
          rcases hb' with h | h
          ·exact hne (hI.owninj l _ E2 ty.elem val0 _ gb hl3 hE' q1 hl e h.symm)
          ·have:=(Y7 q2 gb e).1
           omega
         have c3:BoxOk ⟨fun b=>if b=d then some (gb,0) else g.β b,g.hw⟩ w' gb 0 ys.flatten:=by
          refine ⟨fun p q hpq=>?_⟩
          obtain ⟨i1,j1,x1,h4,h5,h6⟩:=Zjh hlens hpq
          obtain ⟨u,h7,h8⟩:=n4 i1 j1 x1 q h4 h5
          have hc:=how.cells (g:=gb) rfl (i1 *i.size+j1) u h7
          rw[Addr.add_lit] at hc
          refine ⟨u,by rw[h6];exact hc,n3 u (Qz_ h7),by simp[World.frozen?,hgh],.rep (h8.mono hx')⟩
         have c4:∀q∈ys.flatten,∀b',Xz q=some b'→∃c,lk b' σ.boxes=some c:=by
          intro q hq b' hb2
          obtain ⟨p,hp,rfl⟩:=Ko_ hq
          obtain ⟨i1,j1,x1,h4,h5,_⟩:=Zjh hlens (Qg_ hp)
          obtain ⟨u,_,h8⟩:=n4 i1 j1 x1 _ h4 h5
          rw[Zri h8] at hb2
          cases hb2
         obtain ⟨h2,f2⟩:=Z47 h1 (d:=d) (k:=gb) (n:=ys.length) (s:=ety.size) (cap:=cap') (cs:=ys.flatten) hd hdb hgl hgB hw0 r1 c1 c2 c3 c4
         refine .inl ⟨_,w', ?_,by rw[hdst];exact ⟨_,h2,f1.trans f2⟩⟩
         unfold execOp
         rw[hop]
         simp only[resolve,pure_bind,invoke]
         rw[show (#[Operand.tmp t1,y]:Array Operand).map a.eval=#[a.eval (.tmp t1),a.eval y] from by simp,hvy]
         exact Yl hr
     ·cases h
  ·cases h
 ·cases h
theorem ZAo{E:Env}(hE:EnvOk P E){r:Res}(h:RRA E σ o=some r):W4 P σ o r:=by
 unfold RRA at h
 split at h
 ·rename_i d hd
  cases hb:Nat.blt d σ.n with
  | false=>rw[hb] at h;cases h
  | true=>
    rw[hb] at h
    simp only[Qb_] at h
    have hlt:d < σ.n:=Qm_ hb
    have fin:∀{av:AV},r=⟨av,none,none⟩→(∀B g a w,Inv P B g σ a w→∃v,(execOp a.eval o).run P w= .ok (.value v) w∧RepA g w v av∧((∀b off,av= .ptr b off→∃cs,lk b σ.boxes=some cs)∧(∀f bs,av= .fnp f bs→∀b∈bs,∃cs,lk b σ.boxes=some cs)∧(∀b off n s,av= .sl b off n s→∃cs,lk b σ.boxes=some cs)))→W4 P σ o r:=by
     intro av hr hrun B g a w hI
     subst hr
     obtain ⟨v,h1,h2,h3⟩:=hrun B g a w hI
     refine ⟨here hI h1 h2 (fun _ h=>absurd h (by simp)) h3,fun d' hd'=>?_⟩
     rw[hd] at hd'
     have:=Qa_ hd'
     subst this
     exact ⟨hlt,fun l h=>absurd h (by simp)⟩
    split at h
    ·rename_i T x hop
     split at h
     ·rename_i b off ty hx hty
      cases hc:(Nat.beq ty.size 1&& !ty.agg) with
      | false=>rw[hc] at h;cases h
      | true=>
        rw[hc] at h
        simp only[Qb_] at h
        rw[Qh_] at hc
        split at h
        ·rename_i cs hcs
         have ld:∀{y:PV} {av:AV},cs[off]?=some y→(∀(g:G) (w:World) (k base j:Nat) (v:Value),RepB g.β g.hw w k base j v y→RepA g w v av)→(∀b',Xz y=some b'→((∀b off,av= .ptr b off→∃cs,lk b σ.boxes=some cs)∧(∀f bs,av= .fnp f bs→∀b∈bs,∃cs,lk b σ.boxes=some cs)∧(∀b off n s,av= .sl b off n s→∃cs,lk b σ.boxes=some cs))∨∀c,lk b' σ.boxes≠some c)→(∃b',Xz y=some b')→r=⟨av,none,none⟩→W4 P σ o r:=by
          intro y av hy hra hex hrf hr
          refine fin hr fun B g a w hI=>?_
          obtain ⟨k,base,hk,hpv⟩:=ZY hI hx
          obtain ⟨k',base',hk',_,hok,_⟩:=hI.box b cs hcs
          rw[hk] at hk'
          have:=Qa_ hk'
          cases this
          obtain ⟨v,c1,c2,_,c4⟩:=hok.cell off y hy
          obtain ⟨b',hb'⟩:=hrf
          refine ⟨v, ?_,hra g w k base off v c4, ?_⟩
          ·have hag:ty.agg=false:=by simpa using hc.2
           simp only[execOp,hop,hpv]
           refine Yl ?_
           simp only[Instr.loadAt,Instr.sureAddr,pure_bind]
           unfold loadVar
           rw[Sem.run_bind,Zeu (Yg (hE.Γ T ty hty)) w,Result.andThen_ok,hag]
           simp[c1]
          ·rcases hex b' hb' with h | h
           ·exact h
           ·obtain ⟨c,hc'⟩:=hI.ref b cs hcs y (Qz_ hy) b' hb'
            exact absurd hc' (h c)
         split at h
         ·rename_i b2 o2 n2 s2 hy
          have:=Qa_ h
          subst this
          refine ld hy (av:= .sl b2 o2 n2 s2) (fun g w k base j v hb=>?_) (fun b' hb'=>?_) ⟨b2,rfl⟩ rfl
          ·cases hb with
           | rep h=>cases h
           | bs _ _ _ _ h=>exact h
          ·have:=Qa_ hb'
           subst this
           by_cases hq:∃c,lk b2 σ.boxes=some c
           ·exact .inl ⟨fun _ _ h=>absurd h (by simp),fun _ _ h=>absurd h (by simp),fun b off n s h=>by cases h;exact hq⟩
           ·exact .inr fun c hc=>hq ⟨c,hc⟩
         ·rename_i b2 o2 hy
          have:=Qa_ h
          subst this
          refine ld hy (av:= .ptr b2 o2) (fun g w k base j v hb=>?_) (fun b' hb'=>?_) ⟨b2,rfl⟩ rfl
          ·cases hb with
           | rep h=>cases h
           | bp _ _ h=>exact h
          ·have:=Qa_ hb'
           subst this
           by_cases hq:∃c,lk b2 σ.boxes=some c
           ·exact .inl ⟨fun b off h=>by cases h;exact hq,fun _ _ h=>absurd h (by simp),fun _ _ _ _ h=>absurd h (by simp)⟩
           ·exact .inr fun c hc=>hq ⟨c,hc⟩
         ·cases h
        ·cases h
     ·cases h
    ·rename_i T x i hop
     split at h
     ·rename_i ty b off n s kk m hty hx hi
      split at h
      ·rename_i ety hety
       cases hc:(Nat.beq ty.kd 3&&Nat.beq ety.size s&&decide (0≤m)&&decide (m < n)) with
       | false=>rw[hc] at h;cases h
       | true=>
         rw[hc] at h
         have:=Qa_ h
         subst this
         simp only[Qh_] at hc
         obtain ⟨⟨⟨c1,c2⟩,c3⟩,c4⟩:=hc
         have hs:=Qj_ c2
         have q1:=Qy_ c3
         have q2:=Qy_ c4
         subst hs
         refine fin rfl fun B g a w hI=>?_
         obtain ⟨k,base,cap,hk,hcap,hpv⟩:=ZY hI hx
         have hiv:=ZH (Z9 hI hi)
         obtain ⟨_,hk3,_⟩:=YW (Yg (hE.Γ _ _ hty))
         have hu:=hk3 (Qj_ c1)
         refine ⟨.pointer (some ⟨k,base+(off+m.toNat *ety.size),none⟩), ?_,⟨k,base,hk,rfl⟩,fun b' off' e=>by cases e;exact ZAn hI hx,fun _ _ h=>absurd h (by simp),fun _ _ _ _ h=>absurd h (by simp)⟩
         simp only[execOp,hop,hpv,hiv]
         refine Yl ?_
         have hc1:(0:Int)≤m∧m < (n:Int):=⟨q1,q2⟩
         simp[Instr.indexAt,asIntOf,run_underlying hu,hc1,Ys (Yg (hE.Γ _ _ hety)),Addr.add_lit,Ku_]
      ·cases h
     ·cases h
    ·rename_i args ats hop
     split at h
     ·rename_i x t hargs hats
      split at h
      ·rename_i b off n s ty hx hty
       cases hk0:Nat.beq ty.kd 3 with
       | false=>rw[hk0] at h;cases h
       | true=>
       rw[hk0] at h
       have:=Qa_ h
       subst this
       obtain ⟨_,hk3,_⟩:=YW (Yg (hE.Γ _ _ hty))
       have hu:=hk3 (Qj_ hk0)
       refine fin rfl fun B g a w hI=>?_
       obtain ⟨k,base,cap,hk,hcap,hpv⟩:=ZY hI hx
       refine ⟨.int .i64 n, ?_,.v _ rfl,fun _ _ h=>absurd h (by simp),fun _ _ h=>absurd h (by simp),fun _ _ _ _ h=>absurd h (by simp)⟩
       have ea:args=#[x]:=by apply QW_;simpa using hargs
       have et:ats=#[t]:=by apply QW_;simpa using hats
       subst ea;subst et
       unfold execOp
       rw[hop]
       simp only[resolve,pure_bind,invoke]
       rw[show (#[x]:Array Operand).map a.eval=#[a.eval x] from by simp,hpv]
       exact Yl (by simp[Builtin.len_,run_underlying hu,goInt])
      ·cases h
     ·cases h
    ·cases h
 ·cases h
end
abbrev ZoQ:=Nat→List PV→List PV→Option (PV×List PV)
abbrev Zji:=Nat→St→List AV→Option (PV×St)
def Zcq(Γ:List (Nat×Ty))(σ:St)(x y:Operand)(t:TypeId):Bool:=
 match lk t Γ,ZA σ x,ZA σ y with
 | some ty,some xv,some (.lst ys)=>match lk ty.elem Γ with
   | some ety=>match xv with
     | .nil=>Nat.blt 0 ys.length&&Nat.ble ((0+ys.length)*ety.bytes) 140737488355328&&Jg ety.size ys
     | .lst xs=>Nat.blt 0 ys.length&&Nat.ble ((xs.length+ys.length)*ety.bytes) 140737488355328&&Jg ety.size (xs++ys)
     | _=>false
   | none=>false
 | _,_,_=>false
def RR2(E:Env)(call:XT)(j:Nat)(σ:St)(o:Oper):Option Res:=
 match RR E call j σ o with
 | some r=>some r
 | none=>RRA E σ o
def Zbw(E:Env)(call:XT)(j:Nat)(σ:St)(o:Oper):Option St:=
 match RR2 E call j σ o with
 | some r=>match o.dst with
   | some d=>some (Wd σ d r)
   | none=>bif Y8 r.box then some σ else none
 | none=>none
def ZtP(calli:Zji)(σ:St)(o:Oper)(fid:Nat)(args:List Operand):Option St:=
 match W6 (opd σ) args with
 | some l=>bif l.all (ZdF σ.boxes)&&Jy σ.boxes then
    match calli fid σ l with
    | some (r,σ1)=>match o.dst with
      | some d=>bif Nat.blt d σ1.n then some (put σ1 d (.p r)) else none
      | none=>some σ1
    | none=>none
   else none
 | none=>none
def Z1e(E:Env)(call:XT)(callp:ZoQ)(calli:Zji)(j:Nat)(σ:St)(o:Oper)(f:Operand)(args:List Operand):Option St:=
 match f with
 | .func fid=>bif has fid E.wr then
    match args with
    | p::rest=>match opd σ p,W6 (opd σ) rest with
      | some (.ptr b off),some l=>match lk b σ.boxes,XO σ.boxes l with
        | some cs,some (xs,_)=>match callp fid (cs.drop off) xs with
          | some (r,cs')=>match ZhU σ o.dst f args [.callp 0 [] [] r cs'] with
            | some (σ',_,_)=>bif Nat.beq cs'.length (cs.length - off) then some σ' else none
            | none=>none
          | none=>none
        | _,_=>none
      | _,_=>none
    | []=>none
   else bif has fid E.inl then ZtP calli σ o fid args
   else bif has fid E.cc then (match args with | [x]=>Z1c σ o.dst x | _=>none)
   else match lk fid E.bst with
   | some e=>(match args with | [x]=>ZkH σ e o.dst x | _=>none)
   | none=>Zbw E call j σ o
 | _=>Zbw E call j σ o
def ZkI(E:Env)(call:XT)(j:Nat)(σ:St)(o:Oper)(T:TypeId):Option St:=
 bif Nat.beq T Zc9 then
  match Zvy E σ o.dst,o.dst with
  | some r,some d=>some (Wd σ d r)
  | _,_=>none
 else Zbw E call j σ o
def isE(σ:St)(x:Operand):Bool:=match ZA σ x with
 | some (.lst [])=>true
 | _=>false
def TT(E:Env)(call:XT)(callp:ZoQ)(calli:Zji)(j:Nat)(σ:St)(o:Oper):Option St:=
 match o.op with
 | .store T p x=>match o.dst with
   | none=>match WS E.Γ σ T p x with
     | some σ'=>some σ'
     | none=>ZnJ E.Γ σ T p x
   | some _=>none
 | .buildSlice T n ps=>bif has T E.sla&&Nat.beq n 0 then
    match o.dst,ps.toList with
    | some d,[]=>ZtO E σ d T
    | _,_=>none
   else Zbw E call j σ o
 | .call ⟨.builtin .append,args,ats⟩=>match args.toList,ats.toList,o.dst with
   | [x,y],[t,t'],some d=>bif has t E.sla&&isE σ x then Zm9 E σ d x y t t' else bif Nat.beq t t' then (bif Nat.blt d σ.n&&Zcq E.Γ σ x y t then
       match Zax E.Γ σ d x y t t' [.pr True] with
       | some (σ',_,_)=>some σ'
       | none=>none
     else none) else bif Nat.blt d σ.n then Ze3 E σ d x y t t' else none
   | _,_,_=>none
 | .slice T x none none none=>match o.dst with
   | some d=>bif Nat.blt d σ.n then ZiO E.Γ σ d T x else none
   | none=>none
 | .call ⟨.value f,args,_⟩=>Z1e E call callp calli j σ o f args.toList
 | .alloc T=>ZkI E call j σ o T
 | _=>Zbw E call j σ o
section
variable {P:Program}{B:Nat}{g:G}{σ τ:St}{a:Act}{w:World}{o:Oper}
def Z0g(P:Program)(callp:ZoQ):Prop:=∀f cs args r cs',callp f cs args=some (r,cs')→ZfK P f cs args r cs'
def Zrw(P:Program)(calli:Zji):Prop:=∀f σ args r σ',calli f σ args=some (r,σ')→Z1b P f σ args r σ'
theorem ZkJ{E:Env}(hE:EnvOk P E){call:XT}(hC:ZfT P call):∀j τ o r,RR2 E call j τ o=some r→W4 P τ o r:=by
 intro j τ o r h
 unfold RR2 at h
 split at h
 ·rename_i r' h1
  have:=Qa_ h
  subst this
  exact ZCq hE hC j τ o r' h1
 ·exact ZAo hE h
theorem Ze4{E:Env}(hE:EnvOk P E){call:XT}(hC:ZfT P call){j:Nat}{σ':St}(h:Zbw E call j σ o=some σ')(hI:Inv P B g σ a w):Goes P B g σ a w o σ':=by
 unfold Zbw at h
 split at h
 ·rename_i r hr
  obtain ⟨q1,q2⟩:=ZkJ hE hC j σ o r hr B g a w hI
  split at h
  ·rename_i d hd
   have:=Qa_ h
   subst this
   obtain ⟨q3,q4⟩:=q2 d hd
   refine ZdD hd (q1.mono fun v w' ⟨g',hp⟩=>⟨g',Zfm hI hp hd q3 q4,Zk2 hI hp q3⟩)
  ·rename_i hd
   cases hb:Y8 r.box with
   | false=>rw[hb] at h;cases h
   | true=>
     rw[hb] at h
     have:=Qa_ h
     subst this
     have hbx:r.box=none:=by
      cases hr:r.box with
      | none=>rfl
      | some cs=>rw[hr] at hb;exact absurd hb (by simp[Y8])
     refine ZdD hd (q1.mono fun v w' ⟨g',hp⟩=>?_)
     obtain ⟨k1,k2⟩:=Zk0 hI hp.qt
     have:=hp.noBox hbx
     obtain ⟨β',hw'⟩:=g'
     have this:β'=g.β:=this
     subst this
     exact ⟨_,k1,k2⟩
 ·cases h
theorem Zv0{Γ:List (Nat×Ty)}{x y:Operand}{t t':TypeId}{d:Nat}{os' ob:List Obl}{σ':St}(hc:Zcq Γ σ x y t=true)(h:Zax Γ σ d x y t t' [.pr True]=some (σ',os',ob)):Yp P ob:=by
 unfold Zcq at hc
 unfold Zax at h
 split at hc
 ·rename_i ty xv ys hty hx hy
  rw[hty,hx,hy] at h
  simp only at h
  split at hc
  ·rename_i ety hety
   cases hb:(Nat.beq t t'&&Nat.beq ty.kd 3) with
   | false=>rw[hb] at h;cases h
   | true=>
     rw[hb] at h
     simp only[Qb_,hety] at h
     cases hb2:(Nat.beq ety.size 0||Nat.beq ety.bytes 0) with
     | true=>rw[hb2] at h;cases h
     | false=>
       rw[hb2] at h
       simp only[Qd_] at h
       split at hc
       ·have:=Qa_ h
        cases this
        simp only[Qh_] at hc
        exact ZN (show 0 < ys.length∧(0+ys.length)*ety.bytes≤140737488355328∧Lens ety.size ys from ⟨Qm_ hc.1.1,Qm_ hc.1.2,Zcd hc.2⟩)
       ·rename_i xs
        simp only[Qh_] at hc
        cases x with
        | tmp t1=>
          simp only at h
          split at h
          ·rename_i E hE
           cases hb3:Nat.beq E ty.elem with
           | false=>rw[hb3] at h;cases h
           | true=>
             rw[hb3] at h
             have:=Qa_ h
             cases this
             exact ZN (show 0 < ys.length∧(xs.length+ys.length)*ety.bytes≤140737488355328∧Lens ety.size (xs++ys) from ⟨Qm_ hc.1.1,Qm_ hc.1.2,Zcd hc.2⟩)
          ·cases h
        | const _=>cases h
        | global _=>cases h
        | func _=>cases h
       ·cases hc
  ·cases hc
 ·cases hc
theorem Z1f{calli:Zji}(hJ:Zrw P calli)(hI:Inv P B g σ a w){fid:FuncId}{args:Array Operand}{ats:Array TypeId}{σ':St}(hop:o.op= .call ⟨.value (.func fid),args,ats⟩)
 (h:ZtP calli σ o fid args.toList=some σ'):Goes P B g σ a w o σ':=by
 unfold ZtP at h
 split at h
 ·rename_i l hl
  cases hb:(l.all (ZdF σ.boxes)&&Jy σ.boxes) with
  | false=>rw[hb] at h;cases h
  | true=>
    rw[hb] at h
    simp only[Qb_] at h
    rw[Qh_] at hb
    split at h
    ·rename_i r σ1 hc
     obtain ⟨e1,e2⟩:=ZhS hI hl
     have hcall:=hJ fid σ l r σ1 hc B g a w (args.toList.map a.eval) hI (by simpa using e1) e2 (fun av hav=>QK_.1 hb.1 av hav) hb.2
     have key:∀σ2:St,(∀v w' g',Inv P B g' σ1 a w'→Fr B g σ w g' σ1 w'→Rep g'.hw w' v r→Inv P B g' σ2 (a.put o.dst v) w'∧Fr B g σ w g' σ2 w')→Goes P B g σ a w o σ2:=by
      intro σ2 hnext
      refine ZcD (hcall.mono fun v w' ⟨g',q1,q2,q3⟩=>⟨g',hnext v w' g' q1 q2 q3⟩) (fun res hres=>?_)
      have e:args.map a.eval=(args.toList.map a.eval).toArray:=by apply QW_;simp
      have hfv:a.eval (.func fid)= .func (.func fid) #[] #[]:=rfl
      unfold execOp
      rw[hop]
      simp only[resolve,Deferred.ofValue,hfv,pure_bind,invoke,e]
      rw[←hres]
      congr 2
      simp
     split at h
     ·rename_i d hd
      cases hb2:Nat.blt d σ1.n with
      | false=>rw[hb2] at h;cases h
      | true=>
        rw[hb2] at h
        have:=Qa_ h
        subst this
        refine key _ fun v w' g' q1 q2 q3=>⟨by rw[hd];exact Jw q1 (show d < σ1.n from Qm_ hb2) q3,⟨q2.os,q2.tape,q2.output,q2.size,q2.n,q2.block,q2.cell,q2.frozen,q2.hw,q2.par,q2.ext⟩⟩
     ·rename_i hd
      have:=Qa_ h
      subst this
      exact key _ fun v w' g' q1 q2 _=>⟨by rw[hd];exact q1,q2⟩
    ·cases h
 ·cases h
theorem Z8H{E:Env}(hE:EnvOk P E){call:XT}(hC:ZfT P call){callp:ZoQ}(hP:Z0g P callp){calli:Zji}(hJ:Zrw P calli):∀j σ o σ',TT E call callp calli j σ o=some σ'→∀B g a w,Inv P B g σ a w→Goes P B g σ a w o σ':=by
 intro j σ o σ' h B g a w hI
 unfold TT at h
 split at h
 ·rename_i T p x hop
  split at h
  ·rename_i hd
   split at h
   ·rename_i σ2 h2
    have:=Qa_ h
    subst this
    exact ZoB hE.Γ hI hop hd h2
   ·exact Zzc hE.Γ hI hop hd h
  ·cases h
 ·rename_i T n ps hop
  cases hb:(has T E.sla&&Nat.beq n 0) with
  | false=>rw[hb] at h;exact Ze4 hE hC h hI
  | true=>
    rw[hb] at h
    simp only[Qb_] at h
    rw[Qh_] at hb
    have hn:=Qj_ hb.2
    subst hn
    split at h
    ·rename_i d hd hps
     exact Z7d hE hI hop hps hd h
    ·cases h
 ·rename_i args ats hop
  split at h
  ·rename_i x y t t' d hargs hats hdst
   cases hsl:(has t E.sla&&isE σ x) with
   | true=>
     rw[hsl] at h
     exact Z1d hE hI hop hargs hats hdst h
   | false=>
   rw[hsl] at h
   simp only[Qd_] at h
   cases htt:Nat.beq t t' with
   | false=>
     rw[htt] at h
     simp only[Qd_] at h
     cases hb:Nat.blt d σ.n with
     | false=>rw[hb] at h;cases h
     | true=>
       rw[hb] at h
       exact Zvx hE hI hop hargs hats hdst (Qm_ hb) h
   | true=>
   rw[htt] at h
   simp only[Qb_] at h
   cases hb:(Nat.blt d σ.n&&Zcq E.Γ σ x y t) with
   | false=>rw[hb] at h;cases h
   | true=>
     rw[hb] at h
     simp only[Qb_] at h
     rw[Qh_] at hb
     split at h
     ·rename_i σ1 os1 ob1 h1
      have:=Qa_ h
      subst this
      exact ZyU hE.Γ hI hop hargs hats hdst (Qm_ hb.1) h1 (Zv0 hb.2 h1)
     ·cases h
  ·cases h
 ·rename_i T x hop
  split at h
  ·rename_i d hd
   cases hb:Nat.blt d σ.n with
   | false=>rw[hb] at h;cases h
   | true=>
     rw[hb] at h
     exact ZyV hE.Γ hI hop hd (Qm_ hb) h
  ·cases h
 ·rename_i f args ats hop
  unfold Z1e at h
  split at h
  ·rename_i fid
   cases hb:has fid E.wr with
   | false=>
     rw[hb] at h
     simp only[Qd_] at h
     cases hb2:has fid E.inl with
     | true=>
       rw[hb2] at h
       exact Z1f hJ hI hop h
     | false=>
       rw[hb2] at h
       simp only[Qd_] at h
       cases hb3:has fid E.cc with
       | true=>
         rw[hb3] at h
         simp only[Qb_] at h
         split at h
         ·rename_i x hx
          exact Z9v (hE.cc fid hb3) hI hop hx h
         ·cases h
       | false=>
         rw[hb3] at h
         simp only[Qd_] at h
         split at h
         ·rename_i e he
          split at h
          ·rename_i x hx
           exact Z45 (hE.bst fid e he).1 (hE.bst fid e he).2 hI hop hx h
          ·cases h
         ·exact Ze4 hE hC h hI
   | true=>
     rw[hb] at h
     simp only[Qb_] at h
     split at h
     ·rename_i p rest hargs
      split at h
      ·rename_i b off l hp hl
       split at h
       ·rename_i cs xs c hcs hxs
        split at h
        ·rename_i r cs' hcall
         split at h
         ·rename_i σ1 os1 ob1 h1
          cases hb2:Nat.beq cs'.length (cs.length - off) with
          | false=>rw[hb2] at h;cases h
          | true=>
            rw[hb2] at h
            have:=Qa_ h
            subst this
            have hlen:=Qj_ hb2
            refine Z0R hI hop h1 ?_
            rw[hargs] at h1
            unfold ZhU at h1
            rw[show opd σ (.func fid)=some (.p (.fn fid [])) from rfl] at h1
            simp only[hp,hl,hcs,hxs] at h1
            have hob:ob1=[.callp fid ((cs.drop off).take cs'.length) xs r cs']:=by
             cases c with
             | true=>cases h1
             | false=>
               simp only at h1
               cases hb3:(Nat.ble (off+cs'.length) cs.length&& !(has b σ.ro)&&YJ cs&&YJ cs') with
               | false=>rw[hb3] at h1;cases h1
               | true=>
                 rw[hb3] at h1
                 simp only[Qb_] at h1
                 split at h1
                 ·have:=Qa_ h1;cases this;rfl
                 ·rename_i d _
                  cases hb4:Nat.blt d σ.n with
                  | false=>rw[hb4] at h1;cases h1
                  | true=>rw[hb4] at h1;have:=Qa_ h1;cases this;rfl
            subst hob
            refine ZN ?_
            have e:(cs.drop off).take cs'.length=cs.drop off:=by rw[Kj_ (by simp[hlen])]
            show ZfK P fid ((cs.drop off).take cs'.length) xs r cs'
            rw[e]
            exact hP _ _ _ _ _ hcall
         ·cases h
        ·cases h
       ·cases h
      ·cases h
     ·cases h
  ·exact Ze4 hE hC h hI
 ·rename_i T hop
  unfold ZkI at h
  cases hb:Nat.beq T Zc9 with
  | false=>rw[hb] at h;exact Ze4 hE hC h hI
  | true=>
    rw[hb] at h
    simp only[Qb_] at h
    have hT:=Qj_ hb
    subst hT
    split at h
    ·rename_i r d hr hd
     have:=Qa_ h
     subst this
     obtain ⟨q1,q2⟩:=Z46 hE hop hr B g a w hI
     obtain ⟨q3,q4⟩:=q2 d hd
     exact ZdD hd (q1.mono fun v w' ⟨g',hp⟩=>⟨g',Zfm hI hp hd q3 q4,Zk2 hI hp q3⟩)
    ·cases h
 ·exact Ze4 hE hC h hI
end
def Zv1:TypeDesc→Bool
 | .struct _=>false
 | .array _ _=>false
 | _=>true
section
variable {P:Program}
theorem ZoR{T:TypeId}{d:TypeDesc}(hu:P.underlying T=some d)(hd:Zv1 d=true){xs:List Value}{i:Nat}{v:Value}(hx:xs[i]?=some v)(w:World):(part T xs.toArray i).run P w= .ok v w:=by
 cases d<;>first | (cases hd;done) | simp[part,isAgg,run_underlying hu,hx]
theorem Z7e:Yo P []:=fun T ty h=>by simp[lk] at h
theorem Zy{T:TypeId}{ty:Ty}{Γ:List (Nat×Ty)}(h:Z0K P T=some ty)(hr:Yo P Γ):Yo P ((T,ty)::Γ):=fun T' ty' h'=>by
 rw[Zq] at h'
 split at h'
 ·rename_i e
  have:=Qa_ h'
  subst this;subst e
  exact h
 ·exact hr T' ty' h'
def ZtQ(P:Program)(l:List (Nat×Func)):Prop:=∀f fn,lk f l=some fn→P.funcs[f]?=some fn∧∀args w,(callFunc f args).run P w= .ok (.enter f args) w
theorem Z48:ZtQ P []:=fun f fn h=>by simp[lk] at h
theorem Zd{f:Nat}{fn:Func}{l:List (Nat×Func)}(h:P.funcs[f]?=some fn)(hc:∀args w,(callFunc f args).run P w= .ok (.enter f args) w)(hr:ZtQ P l):ZtQ P ((f,fn)::l):=fun f' fn' h'=>by
 rw[Zq] at h'
 split at h'
 ·rename_i e
  have:=Qa_ h'
  subst this;subst e
  exact ⟨h,hc⟩
 ·exact hr f' fn' h'
def ZtR(P:Program)(l:List (Nat×List Nat)):Prop:=∀T sh,lk T l=some sh→Zvp P T sh
theorem Z49:ZtR P []:=fun T sh h=>by simp[lk] at h
theorem Zjj{T:Nat}{sh:List Nat}{l:List (Nat×List Nat)}(h:Zvp P T sh)(hr:ZtR P l):ZtR P ((T,sh)::l):=fun T' sh' h'=>by
 rw[Zq] at h'
 split at h'
 ·rename_i e
  have:=Qa_ h'
  subst this;subst e
  exact h
 ·exact hr T' sh' h'
def ZoS(P:Program)(l:List (Nat×IntKind)):Prop:=∀T k,lk T l=some k→P.underlying T=some (.int k)
theorem Z1g:ZoS P []:=fun T k h=>by simp[lk] at h
theorem Zeb{T:Nat}{k:IntKind}{l:List (Nat×IntKind)}(h:P.underlying T=some (.int k))(hr:ZoS P l):ZoS P ((T,k)::l):=fun T' k' h'=>by
 rw[Zq] at h'
 split at h'
 ·rename_i e
  have:=Qa_ h'
  subst this;subst e
  exact h
 ·exact hr T' k' h'
theorem Z4A{w:World}{M:Nat}(h:∀x cs,lk x ZdY=some cs→∃arr t fr,w.heap[x]?=some (.cells arr t fr)∧(∀v∈arr.toList,v.oneCell'=true)∧cs=arr.toList.map cv∧0 < arr.size∧arr.size≤M):GlobOk (fun k=>if k < w.heap.size then M else 0) w:=by
 intro x cs hx
 obtain ⟨arr,t,fr,h1,h2,rfl,h3,h4⟩:=h x cs hx
 have hlt:x < w.heap.size:=(QL_.1 h1).1
 have hcell:∀j v,arr.toList[j]?=some v→w.cell? ⟨x,j,none⟩=some v:=fun j v hj=>by
  simp only[World.cell?,h1]
  simpa using hj
 refine ⟨?_,by simpa using h3,arr,t,fr,h1,by simp⟩
 refine .lptr (arr.toList.map cv) x 0 0 (fun j=>arr.toList.getD j undef) (fun j hj=>?_) (fun j y hy=>?_) (fun j hj=>?_) (by simp[hlt,h4])
 ·have hj':j < arr.toList.length:=by simpa using hj
  rw[QP_]
  refine (hcell j arr.toList[j] (Qg_ hj')).trans ?_
  rw[Q7_,Qg_ hj']
  rfl
 ·rw[Q6_] at hy
  cases hv:arr.toList[j]? with
  | none=>rw[hv] at hy;cases hy
  | some v=>
    rw[hv] at hy
    have:=Qa_ hy
    subst this
    have:arr.toList.getD j undef=v:=by rw[Q7_,hv];rfl
    rw[this]
    exact Zo2 _ _ _ (h2 v (Qz_ hv))
 ·have hj':j < arr.toList.length:=by simpa using hj
  have:arr.toList.getD j undef=arr.toList[j]:=by rw[Q7_,Qg_ hj'];rfl
  rw[this]
  exact h2 _ (K5_ hj')
theorem Z1h{W W':World}(h:Below W.heap.size W W')(may:MemPlace→Prop):W.keptBut W' may:=
 ⟨h.os,h.output,fun i hi=>by rw[h.block i hi];exact (World.keptBut_refl W may).2.2 i hi⟩
open Go.ChangeShapes Go.WideShapes in
theorem Ztv{H:Type}{enc:TypeId×Value→H}{f:Func}{s:ChangeSpec}{apart fresh handsOn again:Bool}{W W':World}{args:Array Value}{v:Value}{ds gs:List (DataW H)}{before pa pv:List MemPlace}
 (hW:DataW.Whole enc P f.params.toList s.vars apart W args.toList ds gs before)
 (hres:∀(b:Nat) (sp:Nat→Bool) (hd:Bool),DataW.TrodAll enc P W' b sp hd f.resultTypes.toList (v.resultList f.resultTypes.size) (s.fn H (ds++gs)).results [])
 (hargs:∀sp:Nat→Bool,(∀p∈before,sp p.block=true)→DataW.TrodAll enc P W' 0 sp true f.params.toList args.toList (s.fn H (ds++gs)).args pa)
 (hvars:∀sp:Nat→Bool,(∀p∈before,sp p.block=true)→DataW.TrodVars enc P W' sp s.vars (s.fn H (ds++gs)).vars pv)
 (hps:before=pa++pv) (hb:Below W.heap.size W W')
 (hok:∀(j:Nat) (t:TypeId) (r:Value),f.resultTypes[j]?=some t→(v.resultList f.resultTypes.size)[j]?=some r→Value.okWide P W' .any 0 t r):
 s.post enc P f apart fresh handsOn again W args v W':=by
 have hold:∀p∈before,(fun b=>decide (b < W.heap.size)) p.block=true:=fun p hp=>by simpa using hW.lt p hp
 have hlt:=hW.lt
 refine ⟨ds,gs,before,[],pa,pv,hW,hres _ _ _,hargs _ hold,hvars _ hold,World.keptBut_mono (fun p hp=>⟨hp, ?_⟩) (Z1h hb (·∈before)),fun _=>?_⟩
 ·rw[hps,Kw_] at hp
  exact Or.inr hp
 ·obtain ⟨_,_,_,_,_,hz,hn⟩:=hW
  refine ⟨hok,_,_,([]++pa)++pv,⟨[]++pa,pv,trodAll_append (hargs _ (fun _ _=>rfl)) (hres _ _ _),hvars _ (fun _ _=>rfl),rfl, ?_, ?_⟩, ?_⟩
  ·intro b off hp
   have hp':MemPlace.cell b off∈before:=by rw[hps];simpa using hp
   rw[hb.frozen (p:=⟨b,off,none⟩) (hlt _ hp')]
   exact hz b off hp'
  ·intro ha
   have:=hn ha
   rw[hps] at this
   simpa using this
  ·intro p hp _
   rw[hps]
   simpa using hp
end
section force
universe u
variable {α:Sort u}
def fN(n:Nat)(k:Nat→α):α:=match n with
 | 0=>k 0
 | m+1=>k (Nat.succ m)
def fI(i:Int)(k:Int→α):α:=match i with
 | .ofNat n=>fN n fun n=>k (.ofNat n)
 | .negSucc n=>fN n fun n=>k (.negSucc n)
def fB(b:Bool)(k:Bool→α):α:=match b with
 | true=>k true
 | false=>k false
def Z7f(v:Value)(k:Value→α):α:=match v with
 | .int kd i=>fI i fun i=>k (.int kd i)
 | .bool b=>fB b fun b=>k (.bool b)
 | x=>k x
def Z1i:List UInt8→(List UInt8→α)→α
 | [],k=>k []
 | x::r,k=>Z1i r fun r=>k (x::r)
theorem Xv(n:Nat)(k:Nat→α):fN n k=k n:=by cases n<;>rfl
theorem ZCr(n:Int)(k:Int→α):fI n k=k n:=by cases n<;>simp only[fI,Xv]
theorem Z1j(n:Bool)(k:Bool→α):fB n k=k n:=by cases n<;>rfl
theorem Z9x(v:Value)(k:Value→α):Z7f v k=k v:=by cases v<;>simp only[Z7f,ZCr,Z1j]
theorem Z0h:∀(l:List UInt8) (k:List UInt8→α),Z1i l k=k l
 | [],_=>rfl
 | x::r,k=>by simp only[Z1i];rw[Z0h r]
mutual
def fPV:PV→(PV→α)→α
 | .v x,k=>Z7f x fun x=>k (.v x)
 | .str l,k=>Z1i l fun l=>k (.str l)
 | .nil,k=>k .nil
 | .lst xs,k=>Zv2 xs fun xs=>k (.lst xs)
 | .lptr cs off,k=>fPL cs fun cs=>fN off fun off=>k (.lptr cs off)
 | .agg cs,k=>fPL cs fun cs=>k (.agg cs)
 | .tup cs,k=>fPL cs fun cs=>k (.tup cs)
 | .fn f cs,k=>fPL cs fun cs=>fN f fun f=>k (.fn f cs)
 | .bld u,k=>fB u fun u=>k (.bld u)
 | .bp b off,k=>fN b fun b=>fN off fun off=>k (.bp b off)
 | .bs b off n s,k=>fN b fun b=>fN off fun off=>fN n fun n=>fN s fun s=>k (.bs b off n s)
def fPL:List PV→(List PV→α)→α
 | [],k=>k []
 | x::r,k=>fPV x fun x=>fPL r fun r=>k (x::r)
def Zv2:List (List PV)→(List (List PV)→α)→α
 | [],k=>k []
 | x::r,k=>fPL x fun x=>Zv2 r fun r=>k (x::r)
end
mutual
theorem ZAp:∀(x:PV) (k:PV→α),fPV x k=k x
 | .v x,k=>by simp only[fPV,Z9x]
 | .str l,k=>by simp only[fPV,Z0h]
 | .nil,k=>by simp only[fPV]
 | .lst xs,k=>by simp only[fPV];rw[Z0i xs]
 | .lptr cs off,k=>by simp only[fPV,Xv];rw[ZhY cs]
 | .agg cs,k=>by simp only[fPV];rw[ZhY cs]
 | .tup cs,k=>by simp only[fPV];rw[ZhY cs]
 | .fn f cs,k=>by simp only[fPV,Xv];rw[ZhY cs]
 | .bld u,k=>by simp only[fPV,Z1j]
 | .bp b off,k=>by simp only[fPV,Xv]
 | .bs b off n s,k=>by simp only[fPV,Xv]
theorem ZhY:∀(x:List PV) (k:List PV→α),fPL x k=k x
 | [],k=>by simp only[fPL]
 | x::r,k=>by simp only[fPL];rw[ZAp x,ZhY r]
theorem Z0i:∀(x:List (List PV)) (k:List (List PV)→α),Zv2 x k=k x
 | [],k=>by simp only[Zv2]
 | x::r,k=>by simp only[Zv2];rw[ZhY x,Z0i r]
end
def fNs:List Nat→(List Nat→α)→α
 | [],k=>k []
 | x::r,k=>fN x fun x=>fNs r fun r=>k (x::r)
theorem ZhZ:∀(l:List Nat) (k:List Nat→α),fNs l k=k l
 | [],_=>rfl
 | x::r,k=>by simp only[fNs,Xv];rw[ZhZ r]
def Zv3(a:Loc)(k:Loc→α):α:=match a with
 | .t t=>fN t fun t=>k (.t t)
 | .b b c=>fN b fun b=>fN c fun c=>k (.b b c)
theorem Zrx(a:Loc)(k:Loc→α):Zv3 a k=k a:=by cases a<;>simp only[Zv3,Xv]
def Zv4{β:Type}(l:List β)(k:List β→α):α:=match l with
 | []=>k []
 | x::r=>k (x::r)
theorem Zry{β:Type}(l:List β)(k:List β→α):Zv4 l k=k l:=by cases l<;>rfl
def fOw:List (Loc×Nat)→(List (Loc×Nat)→α)→α
 | [],k=>k []
 | (t,v)::r,k=>Zv3 t fun t=>fN v fun v=>fOw r fun r=>k ((t,v)::r)
theorem ZoT:∀(l:List (Loc×Nat)) (k:List (Loc×Nat)→α),fOw l k=k l
 | [],_=>rfl
 | (t,v)::r,k=>by simp only[fOw,Xv,Zrx];rw[ZoT r]
def fAl:List (Nat×Loc)→(List (Nat×Loc)→α)→α
 | [],k=>k []
 | (t,v)::r,k=>fN t fun t=>Zv3 v fun v=>fAl r fun r=>k ((t,v)::r)
theorem ZoU:∀(l:List (Nat×Loc)) (k:List (Nat×Loc)→α),fAl l k=k l
 | [],_=>rfl
 | (t,v)::r,k=>by simp only[fAl,Xv,Zrx];rw[ZoU r]
def Z1k(a:AV)(k:AV→α):α:=match a with
 | .p x=>k (.p x)
 | .ptr b off=>fN b fun b=>fN off fun off=>k (.ptr b off)
 | .fnp f bs=>fN f fun f=>fNs bs fun bs=>k (.fnp f bs)
 | .sl b off n s=>fN b fun b=>fN off fun off=>fN n fun n=>fN s fun s=>k (.sl b off n s)
theorem Z9y(a:AV)(k:AV→α):Z1k a k=k a:=by cases a<;>simp only[Z1k,Xv,ZhZ]
def Z1l:List (Nat×List PV)→(List (Nat×List PV)→α)→α
 | [],k=>k []
 | (t,v)::r,k=>fN t fun t=>Z1l r fun r=>k ((t,v)::r)
theorem Z0j:∀(l:List (Nat×List PV)) (k:List (Nat×List PV)→α),Z1l l k=k l
 | [],_=>rfl
 | (t,v)::r,k=>by simp only[Z1l,Xv];rw[Z0j r]
end force
def ZCs:Op→Bool
 | .alloc _=>true
 | .box _ _=>true
 | .store _ _ _=>true
 | .call _=>true
 | _=>false
def fWs{α:Sort _}:List (Nat×Nat)→(List (Nat×Nat)→α)→α
 | [],k=>k []
 | (x,y)::r,k=>fN x fun x=>fN y fun y=>fWs r fun r=>k ((x,y)::r)
theorem Z4B{α:Sort _}:∀(l:List (Nat×Nat)) (k:List (Nat×Nat)→α),fWs l k=k l
 | [],_=>rfl
 | (x,y)::r,k=>by simp only[fWs,Xv];rw[Z4B r]
def vEq:Value→Value→Bool
 | .int k a,.int k' b=>decide (k=k')&&decide (a=b)
 | .bool a,.bool b=>a==b
 | _,_=>false
def sEq:List UInt8→List UInt8→Bool
 | [],[]=>true
 | a::r,b::s=>Nat.beq a.toNat b.toNat&&sEq r s
 | _,_=>false
mutual
def ZdJ:PV→PV→Bool
 | .v x,y=>match y with | .v y=>vEq x y | _=>false
 | .str l,y=>match y with | .str m=>sEq l m | _=>false
 | .nil,y=>match y with | .nil=>true | _=>false
 | .lst xs,y=>match y with | .lst ys=>ZkK xs ys | _=>false
 | .agg xs,y=>match y with | .agg ys=>Zjk xs ys | _=>false
 | .tup xs,y=>match y with | .tup ys=>Zjk xs ys | _=>false
 | .lptr _ _,_=>false
 | .fn _ _,_=>false
 | .bld _,_=>false
 | .bp _ _,_=>false
 | .bs _ _ _ _,_=>false
def Zjk:List PV→List PV→Bool
 | [],l=>match l with | []=>true | _=>false
 | x::r,l=>match l with | y::s=>ZdJ x y&&Zjk r s | []=>false
def ZkK:List (List PV)→List (List PV)→Bool
 | [],l=>match l with | []=>true | _=>false
 | x::r,l=>match l with | y::s=>Zjk x y&&ZkK r s | []=>false
end
theorem ZAq{x y:Value}(h:vEq x y=true):x=y:=by
 unfold vEq at h
 split at h
 ·rw[Qh_] at h;rw[Qy_ h.1,Qy_ h.2]
 ·simp at h;rw[h]
 ·cases h
theorem Z4C:∀{x y:List UInt8},sEq x y=true→x=y
 | [],[],_=>rfl
 | a::r,b::s,h=>by
   unfold sEq at h
   rw[Qh_] at h
   rw[UInt8.toNat_inj.1 (Qj_ h.1),Z4C h.2]
 | [],_::_,h=>by simp[sEq] at h
 | _::_,[],h=>by simp[sEq] at h
mutual
theorem Z9z:∀(x y:PV),ZdJ x y=true→x=y
 | .v x,y,h=>by
   simp only[ZdJ] at h
   split at h
   ·rw[ZAq h]
   ·cases h
 | .str l,y,h=>by
   simp only[ZdJ] at h
   split at h
   ·rw[Z4C h]
   ·cases h
 | .nil,y,h=>by
   simp only[ZdJ] at h
   split at h
   ·rfl
   ·cases h
 | .lst xs,y,h=>by
   simp only[ZdJ] at h
   split at h
   ·rw[Zs1 xs _ h]
   ·cases h
 | .agg xs,y,h=>by
   simp only[ZdJ] at h
   split at h
   ·rw[Zjl xs _ h]
   ·cases h
 | .tup xs,y,h=>by
   simp only[ZdJ] at h
   split at h
   ·rw[Zjl xs _ h]
   ·cases h
 | .lptr _ _,_,h=>by simp only[ZdJ] at h;cases h
 | .fn _ _,_,h=>by simp only[ZdJ] at h;cases h
 | .bld _,_,h=>by simp only[ZdJ] at h;cases h
 | .bp _ _,_,h=>by simp only[ZdJ] at h;cases h
 | .bs _ _ _ _,_,h=>by simp only[ZdJ] at h;cases h
theorem Zjl:∀(x y:List PV),Zjk x y=true→x=y
 | [],y,h=>by
   simp only[Zjk] at h
   split at h
   ·rfl
   ·cases h
 | x::r,l,h=>by
   simp only[Zjk] at h
   split at h
   ·rename_i y s
    rw[Qh_] at h
    rw[Z9z x y h.1,Zjl r s h.2]
   ·cases h
theorem Zs1:∀(x y:List (List PV)),ZkK x y=true→x=y
 | [],y,h=>by
   simp only[ZkK] at h
   split at h
   ·rfl
   ·cases h
 | x::r,l,h=>by
   simp only[ZkK] at h
   split at h
   ·rename_i y s
    rw[Qh_] at h
    rw[Zjl x y h.1,Zs1 r s h.2]
   ·cases h
end
abbrev Tab:=List (Nat×List PV×PV)
def shF(P:Program)(g:TypeId→List Nat→Bool):List Field→Nat→List Nat→Bool
 | [],_,sh=>sh.isEmpty
 | f::fs,i,sh=>(f.name != "_")&&Nat.beq f.offset i&&(match P.info? f.type with
   | some inf=>Nat.ble inf.size sh.length&&g f.type (sh.take inf.size)&&shF P g fs (i+inf.size) (sh.drop inf.size)
   | none=>false)
def shA(g:List Nat→Bool)(s:Nat):Nat→List Nat→Bool
 | 0,sh=>sh.isEmpty
 | n+1,sh=>Nat.ble s sh.length&&g (sh.take s)&&shA g s n (sh.drop s)
def shB(P:Program):Nat→TypeId→List Nat→Bool
 | 0,_,_=>false
 | d+1,T,sh=>match P.underlying T with
   | some (.int _)=>(match sh with | [0]=>true | _=>false)
   | some .bool=>(match sh with | [1]=>true | _=>false)
   | some .string=>(match sh with | [2]=>true | _=>false)
   | some (.complex _)=>(match sh with | [3]=>true | _=>false)
   | some (.struct fs)=>(match P.info? T with | some i=>Nat.beq i.size sh.length | none=>false)&& !(P.stoodInHeld T)&&shF P (shB P d) fs.toList 0 sh
   | some (.array n e)=>(match P.info? T,P.info? e with | some i,some j=>Nat.beq i.size sh.length&&shA (shB P d e) j.size n sh | _,_=>false)
   | _=>false
section
variable {P:Program}{hw:Nat→Nat}{w:World}
theorem ZhG:∀{sh:List Nat} {xs ys:List PV} {b:Bool},Zv sh xs ys=some b→xs.length=sh.length∧ys.length=sh.length:=by
 intro sh
 induction sh with
 | nil=>
   intro xs ys b h
   cases xs<;>cases ys<;>simp[Zv] at h
   exact ⟨rfl,rfl⟩
 | cons s sh ih=>
   intro xs ys b h
   unfold Zv at h
   split at h
   ·rename_i e;cases e
   ·rename_i e
    cases e
    split at h
    ·rename_i c hc
     obtain ⟨h1,h2⟩:=ih hc
     exact ⟨by simp[h1],by simp[h2]⟩
    ·exact absurd h (by rw[Bool.cond_self];simp)
   ·rename_i e
    cases e
    split at h
    ·rename_i c hc
     obtain ⟨h1,h2⟩:=ih hc
     exact ⟨by simp[h1],by simp[h2]⟩
    ·cases h
   ·rename_i e
    cases e
    split at h
    ·rename_i c hc
     obtain ⟨h1,h2⟩:=ih hc
     exact ⟨by simp[h1],by simp[h2]⟩
    ·cases h
   ·rename_i e
    cases e
    split at h
    ·rename_i c hc
     obtain ⟨h1,h2⟩:=ih hc
     exact ⟨by simp[h1],by simp[h2]⟩
    ·exact absurd h (by rw[Bool.cond_self];simp)
   ·cases h
theorem Zv5{s:Nat}{sh:List Nat}{x y:PV}{r q:List PV}{b:Bool}(h:Zv (s::sh) (x::r) (y::q)=some b):∃b1 b2,Zv [s] [x] [y]=some b1∧Zv sh r q=some b2∧b=(b1&&b2):=by
 unfold Zv at h
 split at h
 ·rename_i e;cases e
 ·rename_i sh' k a r' k' a' r'' e1 e2 e3
  cases e1;cases e2;cases e3
  cases hk:decide (k=k') with
  | false=>rw[hk] at h;cases h
  | true=>
    rw[hk] at h
    simp only[Qb_] at h
    split at h
    ·rename_i c hc
     exact ⟨a==a',c,by simp[Zv,hk],hc,(Qa_ h).symm⟩
    ·cases h
 ·rename_i sh' a r' a' r'' e1 e2 e3
  cases e1;cases e2;cases e3
  split at h
  ·rename_i c hc
   exact ⟨a==a',c,by simp[Zv],hc,(Qa_ h).symm⟩
  ·cases h
 ·rename_i sh' a r' a' r'' e1 e2 e3
  cases e1;cases e2;cases e3
  split at h
  ·rename_i c hc
   exact ⟨a==a',c,by simp[Zv],hc,(Qa_ h).symm⟩
  ·cases h
 ·rename_i sh' k a b0 r' k' a' b' r'' e1 e2 e3
  cases e1;cases e2;cases e3
  cases hk:decide (k=k') with
  | false=>rw[hk] at h;cases h
  | true=>
    rw[hk] at h
    simp only[Qb_] at h
    split at h
    ·rename_i c hc
     exact ⟨Op.floatEq k a a'&&Op.floatEq k b0 b',c,by simp[Zv,hk],hc,(Qa_ h).symm⟩
    ·cases h
 ·cases h
theorem Zv6{s:Nat}{sh:List Nat}{x y:PV}{r q:List PV}{b1 b2:Bool}(h1:Zv [s] [x] [y]=some b1)(h2:Zv sh r q=some b2):Zv (s::sh) (x::r) (y::q)=some (b1&&b2):=by
 unfold Zv at h1
 split at h1
 ·rename_i e _ _;cases e
 ·rename_i sh' k a r' k' a' r'' e1 e2 e3
  cases e1;cases e2;cases e3
  cases hk:decide (k=k') with
  | false=>rw[hk] at h1;cases h1
  | true=>
    rw[hk] at h1
    simp only[Qb_,Zv] at h1
    have:=Qa_ h1
    simp only[Qr_] at this
    subst this
    simp[Zv,hk,h2]
 ·rename_i sh' a r' a' r'' e1 e2 e3
  cases e1;cases e2;cases e3
  simp only[Zv] at h1
  have:=Qa_ h1
  simp only[Qr_] at this
  subst this
  simp[Zv,h2]
 ·rename_i sh' a r' a' r'' e1 e2 e3
  cases e1;cases e2;cases e3
  simp only[Zv] at h1
  have:=Qa_ h1
  simp only[Qr_] at this
  subst this
  simp[Zv,h2]
 ·rename_i sh' k a b0 r' k' a' b' r'' e1 e2 e3
  cases e1;cases e2;cases e3
  cases hk:decide (k=k') with
  | false=>rw[hk] at h1;cases h1
  | true=>
    rw[hk] at h1
    simp only[Qb_,Zv] at h1
    have:=Qa_ h1
    simp only[Qr_] at this
    subst this
    simp[Zv,hk,h2]
 ·cases h1
theorem ZeZ:∀{n:Nat} {sh:List Nat} {xs ys:List PV} {b:Bool},n≤sh.length→Zv sh xs ys=some b→
 ∃b1 b2,Zv (sh.take n) (xs.take n) (ys.take n)=some b1∧Zv (sh.drop n) (xs.drop n) (ys.drop n)=some b2∧b=(b1&&b2)
 | 0,sh,xs,ys,b,_,h=>⟨true,b,by simp[Zv],by simpa using h,by simp⟩
 | n+1,[],xs,ys,b,hn,_=>by simp at hn
 | n+1,s::sh,xs,ys,b,hn,h=>by
   obtain ⟨hx,hy⟩:=ZhG h
   cases xs with
   | nil=>simp at hx
   | cons x r=>
     cases ys with
     | nil=>simp at hy
     | cons y q=>
       obtain ⟨b1,b2,h1,h2,rfl⟩:=Zv5 h
       obtain ⟨c1,c2,h3,h4,rfl⟩:=ZeZ (n:=n) (by simpa using hn) h2
       refine ⟨b1&&c1,c2, ?_,by simpa using h4,by rw[Bool.and_assoc]⟩
       simp only[List.take_succ_cons]
       exact Zv6 h1 h3
theorem ArgsRep.seg{vs:List Value}{xs:List PV}(h:ArgsRep hw w vs xs)(off n:Nat):ArgsRep hw w ((vs.drop off).take n) ((xs.drop off).take n):=
 ⟨by simp[h.len],fun j x y hx hy=>by
   rw[Km_] at hx hy
   split at hx
   ·rename_i hj
    rw[if_pos hj] at hy
    rw[Kd_] at hx hy
    exact h.rep _ x y hx hy
   ·cases hx⟩
def ZoV(P:Program)(D:Nat)(T:TypeId)(sh:List Nat):Prop:=
 ∀(hw:Nat→Nat) (w:World) (vs us:List Value) (xs ys:List PV) (off:Nat) (b:Bool),ArgsRep hw w vs xs→ArgsRep hw w us ys→Zv sh ((xs.drop off).take sh.length) ((ys.drop off).take sh.length)=some b→
  ∃p q,(part T vs.toArray off).run P w= .ok p w∧(part T us.toArray off).run P w= .ok q w∧(Op.equalIn D T p q).run P w= .ok b w
theorem Zkc{D:Nat}{g:TypeId→List Nat→Bool}(hg:∀T sh,g T sh=true→ZoV P D T sh){vs us:List Value}{xs ys:List PV}(hx:ArgsRep hw w vs xs)(hy:ArgsRep hw w us ys):
 ∀{fs:List Field} {sh:List Nat} {i:Nat} {b:Bool},shF P g fs i sh=true→Zv sh (xs.drop i) (ys.drop i)=some b→(Op.eqFields D vs.toArray us.toArray fs).run P w= .ok b w
 | [],sh,i,b,hs,h=>by
   unfold shF at hs
   cases sh with
   | cons _ _=>simp at hs
   | nil=>
     generalize xs.drop i=l at *
     generalize ys.drop i=m at *
     cases l<;>cases m<;>simp[Zv] at h
     subst h
     simp[Op.eqFields]
 | f::fs,sh,i,b,hs,h=>by
   unfold shF at hs
   simp only[Qh_] at hs
   obtain ⟨⟨h1,h2⟩,h3⟩:=hs
   have hname:f.name≠ "_":=by simpa using h1
   have hoff:=Qj_ h2
   split at h3
   ·rename_i inf hinf
    simp only[Qh_] at h3
    obtain ⟨⟨h4,h5⟩,h6⟩:=h3
    have hle:=Qm_ h4
    obtain ⟨b1,b2,e1,e2,rfl⟩:=ZeZ hle h
    have hl:(sh.take inf.size).length=inf.size:=by simp;omega
    obtain ⟨p,q,p1,p2,p3⟩:=hg _ _ h5 hw w vs us xs ys i b1 hx hy (by rw[hl];exact e1)
    rw[List.drop_drop,List.drop_drop] at e2
    unfold Op.eqFields
    rw[if_pos hname,hoff]
    simp only[Sem.run_bind,p1,p2,p3,Result.andThen_ok]
    cases b1 with
    | false=>rfl
    | true=>
      simp only[Qu_,K8_,Ky_]
      rw[Zkc hg hx hy h6 e2]
      rfl
   ·cases h3
theorem ZkL{D:Nat}{T:TypeId}{s:Nat}{g:List Nat→Bool}(hg:∀sh,g sh=true→ZoV P D T sh){vs us:List Value}{xs ys:List PV}(hx:ArgsRep hw w vs xs)(hy:ArgsRep hw w us ys):
 ∀{n:Nat} {sh:List Nat} {i:Nat} {b:Bool},shA g s n sh=true→Zv sh (xs.drop (i *s)) (ys.drop (i *s))=some b→(Op.eqItems D T s vs.toArray us.toArray (List.range' i n)).run P w= .ok b w
 | 0,sh,i,b,hs,h=>by
   unfold shA at hs
   cases sh with
   | cons _ _=>simp at hs
   | nil=>
     generalize xs.drop (i *s)=l at *
     generalize ys.drop (i *s)=m at *
     cases l<;>cases m<;>simp[Zv] at h
     subst h
     simp[Op.eqItems]
 | n+1,sh,i,b,hs,h=>by
   unfold shA at hs
   simp only[Qh_] at hs
   obtain ⟨⟨h4,h5⟩,h6⟩:=hs
   have hle:=Qm_ h4
   obtain ⟨b1,b2,e1,e2,rfl⟩:=ZeZ hle h
   have hl:(sh.take s).length=s:=by simp;omega
   obtain ⟨p,q,p1,p2,p3⟩:=hg _ h5 hw w vs us xs ys (i *s) b1 hx hy (by rw[hl];exact e1)
   rw[List.drop_drop,List.drop_drop] at e2
   rw[List.range'_succ]
   unfold Op.eqItems
   simp only[Sem.run_bind,p1,p2,p3,Result.andThen_ok]
   cases b1 with
   | false=>rfl
   | true=>
     simp only[Qu_,K8_,Ky_]
     rw[ZkL hg hx hy (i:=i+1) h6 (by rw[Kq_];exact e2)]
     rfl
theorem ZfU{T:TypeId}{i:TypeInfo}(hi:P.info? T=some i)(ha:(isAgg T).run P w= .ok true w)(vs:List Value)(off:Nat):(part T vs.toArray off).run P w= .ok (.agg ((vs.drop off).take i.size).toArray) w:=by
 unfold part
 have hs:(sizeOf T).run P w= .ok i.size w:=by simp[sizeOf,typeInfo,hi]
 rw[Sem.run_bind,ha,Result.andThen_ok,if_pos rfl,Sem.run_bind,hs,Result.andThen_ok]
 have e:vs.toArray.extract off (off+i.size)=((vs.drop off).take i.size).toArray:=by
  apply QW_
  simp[Nat.add_sub_cancel_left]
 rw[e]
 rfl
theorem Z90{x y:PV}{b:Bool}(h:Zv [0] [x] [y]=some b):∃k a a',x= .v (.int k a)∧y= .v (.int k a')∧(a==a')=b:=by
 cases x with
 | v vx=>cases vx with
   | int k a=>cases y with
     | v vy=>cases vy with
       | int k' a'=>
         simp only[Zv,Qr_] at h
         cases hk:decide (k=k') with
         | false=>rw[hk] at h;cases h
         | true=>
           rw[hk] at h
           have:=Qy_ hk
           subst this
           exact ⟨k,a,a',rfl,rfl,Qa_ h⟩
       | _=>simp[Zv] at h
     | _=>simp[Zv] at h
   | _=>simp[Zv] at h
 | _=>simp[Zv] at h
theorem Z7g{x y:PV}{b:Bool}(h:Zv [1] [x] [y]=some b):∃a a',x= .v (.bool a)∧y= .v (.bool a')∧(a==a')=b:=by
 cases x with
 | v vx=>cases vx with
   | bool a=>cases y with
     | v vy=>cases vy with
       | bool a'=>
         simp only[Zv,Qr_] at h
         exact ⟨a,a',rfl,rfl,Qa_ h⟩
       | _=>simp[Zv] at h
     | _=>simp[Zv] at h
   | _=>simp[Zv] at h
 | _=>simp[Zv] at h
theorem Z91{x y:PV}{b:Bool}(h:Zv [2] [x] [y]=some b):∃a a',x= .str a∧y= .str a'∧(a==a')=b:=by
 cases x with
 | str a=>cases y with
   | str a'=>
     simp only[Zv,Qr_] at h
     exact ⟨a,a',rfl,rfl,Qa_ h⟩
   | _=>simp[Zv] at h
 | _=>simp[Zv] at h
theorem ZAr{x y:PV}{b:Bool}(h:Zv [3] [x] [y]=some b):∃k a c a' c',x= .v (.complex k a c)∧y= .v (.complex k a' c')∧(Op.floatEq k a a'&&Op.floatEq k c c')=b:=by
 cases x with
 | v vx=>cases vx with
   | complex k a c=>cases y with
     | v vy=>cases vy with
       | complex k' a' c'=>
         simp only[Zv,Qr_] at h
         cases hk:decide (k=k') with
         | false=>rw[hk] at h;cases h
         | true=>
           rw[hk] at h
           have:=Qy_ hk
           subst this
           exact ⟨k,a,c,a',c',rfl,rfl,Qa_ h⟩
       | _=>simp[Zv] at h
     | _=>simp[Zv] at h
   | _=>simp[Zv] at h
 | _=>simp[Zv] at h
theorem Z0k:∀(d:Nat) (T:TypeId) (sh:List Nat),shB P d T sh=true→∀D,d≤D→ZoV P D T sh
 | 0,T,sh,h,_,_=>by simp[shB] at h
 | d+1,T,sh,h,D,hD=>by
   intro hw w vs us xs ys off b hx hy he
   obtain ⟨D,rfl⟩:∃D',D=D'+1:=⟨D - 1,by omega⟩
   have ih:∀T sh,shB P d T sh=true→ZoV P D T sh:=fun T sh hs=>Z0k d T sh hs D (by omega)
   have one:∀{s:Nat} {ds:TypeDesc},sh=[s]→P.underlying T=some ds→Zv1 ds=true→∃p q x y,vs[off]?=some p∧us[off]?=some q∧Rep hw w p x∧Rep hw w q y∧Zv [s] [x] [y]=some b∧(part T vs.toArray off).run P w= .ok p w∧(part T us.toArray off).run P w= .ok q w:=by
    intro s ds e hu hp
    subst e
    obtain ⟨l1,l2⟩:=ZhG he
    simp only[List.length_singleton] at l1 l2 he
    have g1:off < xs.length:=by simp at l1;omega
    have g2:off < ys.length:=by simp at l2;omega
    have k1:off < vs.length:=by rw[hx.len];exact g1
    have k2:off < us.length:=by rw[hy.len];exact g2
    have t1:(xs.drop off).take 1=[xs[off]]:=by rw[K0_ g1];rfl
    have t2:(ys.drop off).take 1=[ys[off]]:=by rw[K0_ g2];rfl
    rw[t1,t2] at he
    exact ⟨vs[off],us[off],xs[off],ys[off],Qg_ k1,Qg_ k2,hx.rep off _ _ (Qg_ k1) (Qg_ g1),hy.rep off _ _ (Qg_ k2) (Qg_ g2),he,
     ZoR hu hp (Qg_ k1) w,ZoR hu hp (Qg_ k2) w⟩
   unfold shB at h
   split at h
   ·rename_i k0 hu
    split at h
    ·obtain ⟨p,q,x,y,_,_,r1,r2,e,p1,p2⟩:=one rfl hu rfl
     obtain ⟨k,c,c',rfl,rfl,rfl⟩:=Z90 e
     exact ⟨p,q,p1,p2,by rw[ZH r1,ZH r2,run_equalIn_int w D T k k0 c c' hu]⟩
    ·cases h
   ·rename_i hu
    split at h
    ·obtain ⟨p,q,x,y,_,_,r1,r2,e,p1,p2⟩:=one rfl hu rfl
     obtain ⟨c,c',rfl,rfl,rfl⟩:=Z7g e
     exact ⟨p,q,p1,p2,by rw[ZH r1,ZH r2,run_equalIn_bool' w D T c c' hu]⟩
    ·cases h
   ·rename_i hu
    split at h
    ·obtain ⟨p,q,x,y,_,_,r1,r2,e,p1,p2⟩:=one rfl hu rfl
     obtain ⟨c,c',rfl,rfl,rfl⟩:=Z91 e
     exact ⟨p,q,p1,p2,by rw[XP r1,XP r2,run_equalIn_string w D T _ _ hu,ZuS]⟩
    ·cases h
   ·rename_i k0 hu
    split at h
    ·obtain ⟨p,q,x,y,_,_,r1,r2,e,p1,p2⟩:=one rfl hu rfl
     obtain ⟨k,c1,c2,c1',c2',rfl,rfl,rfl⟩:=ZAr e
     exact ⟨p,q,p1,p2,by rw[ZH r1,ZH r2];simp[Op.equalIn,run_underlying hu]⟩
    ·cases h
   ·rename_i fs hu
    simp only[Qh_,Qi_] at h
    obtain ⟨⟨h1,h2⟩,h3⟩:=h
    split at h1
    ·rename_i i hi
     have hsz:=Qj_ h1
     have ha:(isAgg T).run P w= .ok true w:=by simp[isAgg,run_underlying hu]
     have hf:P.fieldsOf T=fs:=by simp[Program.fieldsOf,hu]
     refine ⟨_,_,ZfU hi ha vs off,ZfU hi ha us off, ?_⟩
     rw[run_equalIn_struct w D T _ _ (by rw[hf];exact hu) h2,hf]
     refine Zkc (hw:=hw) ih (hx.seg off i.size) (hy.seg off i.size) h3 ?_
     simp only[QG_]
     rw[hsz]
     exact he
    ·cases h1
   ·rename_i n e0 hu
    split at h
    ·rename_i i j hi hj
     rw[Qh_] at h
     have hsz:=Qj_ h.1
     have ha:(isAgg T).run P w= .ok true w:=by simp[isAgg,run_underlying hu]
     refine ⟨_,_,ZfU hi ha vs off,ZfU hi ha us off, ?_⟩
     have hc:P.cellsOf e0=j.size:=by simp[Program.cellsOf,hj]
     rw[run_equalIn_array w D _ _ hu hj,hc,List.range_eq_range']
     refine ZkL (hw:=hw) (fun sh hs=>ih e0 sh hs) (hx.seg off i.size) (hy.seg off i.size) h.2 ?_
     simp only[Nat.zero_mul,QG_]
     rw[hsz]
     exact he
    ·cases h
   ·cases h
theorem ZkM{T:TypeId}{sh:List Nat}(hg:P.eqGuardType P.depth T=false){d:Nat}(hd:Nat.ble d 10000=true)(ha:∀w,(isAgg T).run P w= .ok true w){i:TypeInfo}(hi:P.info? T=some i)(hn:i.size=sh.length)(hs:shB P d T sh=true):Zvp P T sh:=
 ⟨hg,fun hw w vs us xs ys b hx hy h=>by
   obtain ⟨l1,l2⟩:=ZhG h
   obtain ⟨p,q,p1,p2,p3⟩:=Z0k d T sh hs 10000 (Qm_ hd) hw w vs us xs ys 0 b hx hy (by
    simp only[QG_]
    rw[Kj_ (by omega),Kj_ (by omega)]
    exact h)
   rw[ZfU hi (ha w)] at p1 p2
   simp only[QG_] at p1 p2
   rw[Kj_ (by rw[hx.len];omega)] at p1
   rw[Kj_ (by rw[hy.len];omega)] at p2
   injection p1 with p1 _
   injection p2 with p2 _
   subst p1;subst p2
   exact p3⟩
end
def digs:Nat→Nat→List UInt8
 | 0,_=>[]
 | k+1,u=>bif Nat.blt u 10 then [UInt8.ofNat (48+u)] else digs k (u / 10)++[UInt8.ofNat (48+u % 10)]
def Zrz:List PV→Option PV
 | [.v (.int .i64 (.ofNat n))]=>bif Nat.blt n 9223372036854775808 then some (.str (digs 20 n)) else none
 | [.v (.int .i64 (.negSucc n))]=>bif Nat.blt n 9223372036854775808 then some (.str (45::digs 20 (n+1))) else none
 | _=>none
section
variable {P:Program}
theorem Z7h{hw:Nat→Nat}{w:World}(hg:GlobOk hw w){x:Nat}{vs:List Value}(hx:lk x ZdY=some (vs.map PV.v)){name:String}(hn:P.globalNamed name=some x):w.var? P name=some vs.toArray:=by
 obtain ⟨hr,_,arr,t,fr,e,hs⟩:=hg x _ hx
 obtain ⟨k,base,hp,hc⟩:=ZiF hr
 injection hp with hp
 injection hp with hp
 injection hp with e1 e2
 subst e1
 have hb:base=0:=by omega
 subst hb
 have:arr=vs.toArray:=by
  apply QW_
  apply List.ext_getElem?
  intro j
  by_cases hj:j < vs.length
  ·obtain ⟨v,h1,_,h3⟩:=hc j (.v vs[j]) (by simp[hj])
   simp only[World.cell?,e,QP_] at h1
   rw[ZH (h3 rfl)] at h1
   simp only[QX_,Qg_ hj]
   exact h1
  ·have h1:arr.size≤j:=by rw[hs];simp;omega
   rw[Kf_ (by simpa using h1),Kf_ (by simpa using hj)]
 subst this
 simp only[World.var?,hn,Option.bind_some,e]
def ZoW(P:Program)(l:List (Nat×FloatKind)):Prop:=∀T k,lk T l=some k→P.underlying T=some (.float k)
theorem Z1m:ZoW P []:=fun T k h=>by simp[lk] at h
theorem Zzd{T:TypeId}{k:FloatKind}{l:List (Nat×FloatKind)}(h:P.underlying T=some (.float k))(hr:ZoW P l):ZoW P ((T,k)::l):=fun T' k' h'=>by
 rw[Zq] at h'
 split at h'
 ·rename_i e
  have:=Qa_ h'
  subst this;subst e
  exact h
 ·exact hr T' k' h'
def Z4D(P:Program)(l:List Nat):Prop:=∀T,has T l=true→∃ms,P.underlying T=some (.interface ms)
theorem Z1n:Z4D P []:=fun T h=>by simp[has] at h
def Z8I(P:Program)(lib:Nat→List PV→Option PV):Prop:=∀f args r,lib f args=some r→Con P f args r
theorem Z4E:Z8I P (fun _ _=>none):=fun f args r h=>absurd h (by simp)
theorem ZkN{f:FuncId}{args:List PV}{r:PV}(vals:List Value)(v:Value)(hv:∀hw w l,ArgsRep hw w l args→l=vals)(hr:∀hw w,Rep hw w v r)
 (hc:∀args w,(callFunc f args).run P w= .ok (.enter f args) w) (h:∀hw w,GlobOk hw w→Calls P f vals.toArray w fun e w'=>e= .returned v∧Below w.heap.size w w'):Con P f args r:=by
 intro hw w l hl hgl ha
 have:=hv hw w l ha
 subst this
 refine .inr ⟨f,hc _ _,(h hw w hgl).mono fun e w' ⟨he,hb⟩=>⟨v,he,fun k=>if k < w.heap.size then hw k else 0,⟨hb,fun k hk=>by simp[hk],fun k hk=>?_⟩,hr _ _⟩⟩
 have:=hb.size
 have:¬k < w.heap.size:=by omega
 simp[this]
theorem ZAs{hw:Nat→Nat}{w:World}{x:Value}{l:List Value}(h:ArgsRep hw w l [.v x]):l=[x]:=by
 obtain ⟨v,rfl,h1⟩:=Zjd h
 rw[ZH h1]
theorem Zr0:∀(k u:Nat),u < 10 ^ k→0 < k→digs k u=Lib.decDigits u
 | 0,u,h,h0=>absurd h0 (by omega)
 | k+1,u,h,_=>by
   rw[Lib.decDigits]
   unfold digs
   by_cases hu:u < 10
   ·have:Nat.blt u 10=true:=QF_ hu
    rw[this,dif_pos hu]
    rfl
   ·have hf:Nat.blt u 10=false:=by
     cases hb:Nat.blt u 10 with
     | false=>rfl
     | true=>exact absurd (Qm_ hb) hu
    rw[hf,dif_neg hu]
    cases k with
    | zero=>simp at h;omega
    | succ k=>
      have:u / 10 < 10 ^ (k+1):=by
       rw[Nat.div_lt_iff_lt_mul (by omega)]
       rw[Nat.pow_succ] at h
       exact h
      rw[Zr0 (k+1) (u / 10) this (by omega)]
      rfl
theorem Z1o{f:FuncId}(hc:∀args w,(callFunc f args).run P w= .ok (.enter f args) w)
 (h:∀(n:Int) (hw:Nat→Nat) (w:World),-9223372036854775808≤n→n≤9223372036854775807→GlobOk hw w→
   Calls P f #[.int .i64 n] w fun e w'=>e= .returned (.string ⟨(Lib.itoa n).toArray⟩)∧Below w.heap.size w w'):
 ∀args r,Zrz args=some r→Con P f args r:=by
 intro args r hr
 unfold Zrz at hr
 split at hr
 ·rename_i n
  cases hb:Nat.blt n 9223372036854775808 with
  | false=>rw[hb] at hr;cases hr
  | true=>
    rw[hb] at hr
    have:=Qa_ hr
    subst this
    have h1:n < 9223372036854775808:=Qm_ hb
    have e:digs 20 n=Lib.itoa (.ofNat n):=by
     rw[Zr0 20 n (by omega) (by omega)]
     simp[Lib.itoa]
    rw[e]
    exact ZkN [.int .i64 (.ofNat n)] (.string ⟨(Lib.itoa (.ofNat n)).toArray⟩) (fun _ _ _ ha=>ZAs ha) (fun _ _=> .str _) hc fun hw w hg=>
     h (.ofNat n) hw w (Int.le_trans (by decide) (Int.natCast_nonneg n)) (show (n:Int)≤9223372036854775807 by omega) hg
 ·rename_i n
  cases hb:Nat.blt n 9223372036854775808 with
  | false=>rw[hb] at hr;cases hr
  | true=>
    rw[hb] at hr
    have:=Qa_ hr
    subst this
    have h1:n < 9223372036854775808:=Qm_ hb
    have e:45::digs 20 (n+1)=Lib.itoa (.negSucc n):=by
     rw[Zr0 20 (n+1) (by omega) (by omega)]
     simp[Lib.itoa]
    rw[e]
    exact ZkN [.int .i64 (.negSucc n)] (.string ⟨(Lib.itoa (.negSucc n)).toArray⟩) (fun _ _ _ ha=>ZAs ha) (fun _ _=> .str _) hc fun hw w hg=>
     h (.negSucc n) hw w (by omega) (by omega) hg
 ·cases hr
end
section
variable {P:Program}{W:World}
theorem Zv7:∀{l:List (String×DataW Unit)},(∃ps,DataW.LaidVars P W l ps)→∀{n:String} {d:DataW Unit},(n,d)∈l→
 ∃g t cs fuel p,P.globalNamed n=some g∧(P.globals[g]?).map (·.type)=some t∧W.var? P n=some cs∧DataW.trod (fun _=>()) P W 0 (fun _=>true) false fuel t cs.toList=some (d,p)
 | [],_,n,d,hm=>by simp at hm
 | (n0,d0)::r,⟨ps,h⟩,n,d,hm=>by
   obtain ⟨g',t',cs,fuel,p,q,hg',ht',hvar,hd,hr,_⟩:=h
   rcases Q9_.1 hm with e | hm
   ·cases e
    exact ⟨g',t',cs,fuel,p,hg',ht',hvar,hd⟩
   ·exact Zv7 ⟨q,hr⟩ hm
theorem Zv8{n:String}{g:Nat}{cs:Array Value}(hg:P.globalNamed n=some g)(h:W.var? P n=some cs):∃t fr,W.heap[g]?=some (.cells cs t fr):=by
 simp only[World.var?,hg,Option.bind_some] at h
 split at h
 ·rename_i c t fr hc
  cases h
  exact ⟨t,fr,hc⟩
 ·cases h
theorem Zv9{l:List (String×DataW Unit)}(h:∃ps,DataW.LaidVars P W l ps){n:String}{k:IntKind}{zs:List Int}(hm:(n,Lib.tabData k zs)∈l){g:Nat}{t e:TypeId}{m:Nat}
 (hg:P.globalNamed n=some g) (hty:(P.globals[g]?).map (·.type)=some t) (ht:P.underlying t=some (.array m e)) (he:P.underlying e=some (.int k)) (hce:P.cellsOf e=1) (hct:P.cellsOf t=m):
 ∃t fr,W.heap[g]?=some (.cells (zs.map fun z=>Value.int k z).toArray t fr):=by
 obtain ⟨g',t',cs,fuel,p,hg',ht',hvar,hd⟩:=Zv7 h hm
 obtain rfl:=Qa_ (hg.symm.trans hg')
 obtain rfl:=Qa_ (hty.symm.trans ht')
 have:=Lib.cells_of_tab ht he hce hct hd
 have e2:cs=(zs.map fun z=>Value.int k z).toArray:=by
  apply QW_
  simpa using this
 subst e2
 exact Zv8 hg hvar
end
open Go Go.Shelf Go.Proofs
section
variable {P:Program}{ρ:Ren}
theorem Z92(L:Lays.n240 P ρ)(X:Builder.X72 P ρ)(he:ρ.t 72=Zc9)(hc:∀args w,(callFunc (ρ.f 240) args).run P w= .ok (.enter (ρ.f 240) args) w):CCOk P (ρ.f 240):=
 ⟨hc,fun b w h0 hs hf=>Any.Builder_copyCheck_fresh L X b w h0 (by rw[he];exact hs) hf,fun b w h0=>Any.Builder_copyCheck_used L X b w h0⟩
set_option maxHeartbeats 1000000 in
set_option maxRecDepth 100000 in
theorem Z4F(L:Lays.n169 P ρ)(X:Builder.Extra P ρ)(b g cap cells:Nat)(l:List UInt8)(w:World)(c0:w.cell? ⟨b,1,none⟩=some (.slice (some ⟨g,0,none⟩) l.length cap))(hsh:w.shape? g=some (ρ.t 5,cells))(h0:l≠[])(hnc:l.length≤cap)(hn:l.length≤cells)(hm:l.length≤maxLen)
 (hcell:∀(j:Nat) (x:UInt8),l[j]?=some x→w.cell? ⟨g,j,none⟩=some (.int .u8 x.toNat)):
 Calls P (ρ.f 169) #[.pointer (some ⟨b,0,none⟩)] w fun e w'=>e= .returned (.string ⟨l.toArray⟩)∧w'=w.drew.freeze ⟨g,0,none⟩ l.length:=by
 have hl0:l.length≠0:=by simpa using h0
 have c1:w.drew.cell? ⟨b,1,none⟩=some (.slice (some ⟨g,0,none⟩) l.length cap):=c0
 have hSD:(Builtin.unsafeSliceData_ #[(ρ.t 37)] (ρ.t 127) #[.slice (some ⟨g,0,none⟩) l.length cap]).run P w.drew= .ok (.pointer (some ⟨g,0,none⟩)) w.drew:=
  Lib.run_unsafeSliceData_row _ _ _ _ _ _ (by omega)
 have hUS:(Builtin.unsafeString_ #[(ρ.t 127),(ρ.t 3)] (ρ.t 9) #[.pointer (some ⟨g,0,none⟩),.int .i64 l.length]).run P w.drew= .ok (.string ⟨l.toArray⟩) (w.drew.freeze ⟨g,0,none⟩ l.length):=by
  refine Lib.run_unsafeString_row w.drew (ρ.t 127) (ρ.t 3) (ρ.t 9) (ρ.t 5) L.t127 X.cellsByte g cells hsh l h0 hn (by unfold maxLen at hm;omega) ?_
  intro j x hx
  rw[Addr.add_lit,QP_]
  exact hcell j x hx
 have mixed:=L.mixed
 have t72:=L.t72;have a72:=L.a72;have z72:=L.z72;have v72:=L.v72;have u72:=run_underlying L.t72
 have t70:=L.t70;have a70:=L.a70;have z70:=L.z70;have v70:=L.v70;have u70:=run_underlying L.t70
 have t37:=L.t37;have a37:=L.a37;have z37:=L.z37;have v37:=L.v37;have u37:=run_underlying L.t37
 have t127:=L.t127;have a127:=L.a127;have z127:=L.z127;have v127:=L.v127;have u127:=run_underlying L.t127
 have t3:=L.t3;have a3:=L.a3;have z3:=L.z3;have v3:=L.v3;have u3:=run_underlying L.t3
 have t9:=L.t9;have a9:=L.a9;have z9:=L.z9;have v9:=L.v9;have u9:=run_underlying L.t9
 have t5:=X.t5;have a5:=X.a5;have z5:=X.z5;have v5:=X.v5;have u5:=run_underlying X.t5
 go_enter L.f169,Body.n169_ntmps ρ
 go_wp2
 go_region_o
 all_goals (go_wp2;go_ret;exact ⟨rfl,rfl⟩)
set_option maxHeartbeats 2000000 in
set_option maxRecDepth 100000 in
theorem Z4G(L:Lays.n169 P ρ)(X:Builder.Extra P ρ)(b:Nat)(w:World)(c0:w.cell? ⟨b,1,none⟩=some (.slice none 0 0)):
 Calls P (ρ.f 169) #[.pointer (some ⟨b,0,none⟩)] w fun e w'=>e= .returned (.string ⟨#[]⟩)∧w'=w.drew:=by
 have hUS:=Any.unsafeString_none L X
 have c1:w.drew.cell? ⟨b,1,none⟩=some (.slice none 0 0):=c0
 have hSD:(Builtin.unsafeSliceData_ #[(ρ.t 37)] (ρ.t 127) #[.slice none 0 0]).run P w.drew= .ok (.pointer none) w.drew:=rfl
 have mixed:=L.mixed
 have t72:=L.t72;have a72:=L.a72;have z72:=L.z72;have v72:=L.v72;have u72:=run_underlying L.t72
 have t70:=L.t70;have a70:=L.a70;have z70:=L.z70;have v70:=L.v70;have u70:=run_underlying L.t70
 have t37:=L.t37;have a37:=L.a37;have z37:=L.z37;have v37:=L.v37;have u37:=run_underlying L.t37
 have t127:=L.t127;have a127:=L.a127;have z127:=L.z127;have v127:=L.v127;have u127:=run_underlying L.t127
 have t3:=L.t3;have a3:=L.a3;have z3:=L.z3;have v3:=L.v3;have u3:=run_underlying L.t3
 have t9:=L.t9;have a9:=L.a9;have z9:=L.z9;have v9:=L.v9;have u9:=run_underlying L.t9
 have t5:=X.t5;have a5:=X.a5;have z5:=X.z5;have v5:=X.v5;have u5:=run_underlying X.t5
 go_enter L.f169,Body.n169_ntmps ρ
 go_wp2
 go_region_o
 all_goals (go_wp2;go_ret;exact ⟨rfl,rfl⟩)
theorem Z4H(L:Lays.n169 P ρ)(X:Builder.Extra P ρ)(hc:∀args w,(callFunc (ρ.f 169) args).run P w= .ok (.enter (ρ.f 169) args) w):ZkE P (ρ.f 169) (ρ.t 5)∧∃i,P.info? (ρ.t 5)=some i∧i.size=1:=by
 obtain ⟨i0,hi,_,hz1,_⟩:=info_parts X.infoByte
 exact ⟨⟨hc,Z4F L X,Z4G L X⟩,i0,hi,hz1⟩
def ZtS(P:Program)(l:List Nat):Prop:=∀f,has f l=true→CCOk P f
theorem Z4I:ZtS P []:=fun f h=>by simp[has] at h
theorem Z1p{f:Nat}{l:List Nat}(h:CCOk P f)(hr:ZtS P l):ZtS P (f::l):=fun f' h'=>by
 rcases Q9_.1 (YY.1 h') with e | hm
 ·rw[e];exact h
 ·exact hr f' (YY.2 hm)
def ZmA(P:Program)(l:List (Nat×Nat)):Prop:=∀f e,lk f l=some e→ZkE P f e∧∃i,P.info? e=some i∧i.size=1
theorem Zze:ZmA P []:=fun f e h=>by simp[lk] at h
theorem ZvA{f e:Nat}{l:List (Nat×Nat)}(h:ZkE P f e∧∃i,P.info? e=some i∧i.size=1)(hr:ZmA P l):ZmA P ((f,e)::l):=fun f' e' h'=>by
 rw[Zq] at h'
 split at h'
 ·rename_i hf
  have:=Qa_ h'
  subst this;subst hf
  exact h
 ·exact hr f' e' h'
end
end Go.Ev
namespace Go.Ev
open Go.RowKit
section
variable {P:Program}
def Zjm:List PV→Option PV
 | [.v (.float .f64 x)]=>match FloatKind.f64.decode x with
   | .nan _ _=>none
   | d=>some (.v (.float .f64 (FloatKind.f64.encode (d.integral .zero))))
 | _=>none
theorem Zzf{f:FuncId}(hx:∀args w,(callFunc f args).run P w=((Extern.MathFloor.toIntegral "math.archTrunc" .zero args).run P w).andThen fun v w'=> .ok (.value v) w'):
 ∀args r,Zjm args=some r→Con P f args r:=by
 intro args r hr
 unfold Zjm at hr
 split at hr
 ·rename_i x
  intro hw w vals hl _ ha
  obtain ⟨v,rfl,h1⟩:=Zjd ha
  rw[ZH h1]
  split at hr
  ·cases hr
  ·rename_i d hd hn
   have:=Qa_ hr
   subst this
   refine .inl ⟨_,w, ?_,hw,Qt.refl hl,.v _ rfl⟩
   rw[hx]
   have:(Extern.MathFloor.toIntegral "math.archTrunc" .zero #[.float .f64 x]).run P w= .ok (.float .f64 (FloatKind.f64.encode ((FloatKind.f64.decode x).integral .zero))) w:=by
    show ((match FloatKind.f64.decode x with
     | .nan s t=>
       if FloatKind.f64.format.quiet t=t then pure (Value.float .f64 x) else do
       let kept ←choose (.extern "math.Floor,Ceil,Trunc,RoundToEven.signallingNaN kept" 2)
       pure (.float .f64 (if kept==1 then x else FloatKind.f64.encode (.nan s (FloatKind.f64.format.quiet t))))
     | d=>pure (.float .f64 (FloatKind.f64.encode (d.integral .zero))):Sem Value)).run P w=_
    split
    ·rename_i s t h;exact absurd h (hn s t)
    ·rfl
   rw[show ([Value.float .f64 x]:List Value).toArray=#[.float .f64 x] from rfl,this]
   rfl
 ·cases hr
end
def alls:List Prop→Prop→Prop
 | [],X=>X
 | p::r,X=>p∧alls r X
def Yx(l:List Prop):Prop:=∀p∈l,p
theorem W8:∀{l:List Prop} {X:Prop},alls l X→Yx l∧X
 | [],_,h=>⟨fun _ h=>absurd h (by simp),h⟩
 | p::r,_,h=>⟨fun q hq=>by rcases Q9_.1 hq with e | hq;exact e▸h.1;exact (W8 h.2).1 q hq,(W8 h.2).2⟩
section forces
universe u
variable {α:Sort u}
def Z1q(v:Value)(k:Value→α):α:=match v with
 | .int kd i=>k (.int kd i)
 | .bool b=>k (.bool b)
 | .complex kd a b=>k (.complex kd a b)
 | .float kd a=>k (.float kd a)
 | x=>k x
theorem Zr1(v:Value)(k:Value→α):Z1q v k=k v:=by cases v<;>rfl
def Z1r(x:PV)(k:PV→α):α:=match x with
 | .v x=>Z1q x fun x=>k (.v x)
 | x=>k x
theorem Z7i(x:PV)(k:PV→α):Z1r x k=k x:=by cases x<;>simp only[Z1r,Zr1]
def ZcK:List PV→(List PV→α)→α
 | [],k=>k []
 | x::r,k=>Z1r x fun x=>ZcK r fun r=>k (x::r)
theorem Zcr:∀(l:List PV) (k:List PV→α),ZcK l k=k l
 | [],_=>rfl
 | x::r,k=>by simp only[ZcK,Z7i];rw[Zcr r]
def Z1s(x:PV)(k:PV→α):α:=match x with
 | .v x=>Z1q x fun x=>k (.v x)
 | .agg cs=>ZcK cs fun cs=>k (.agg cs)
 | x=>k x
theorem Z7j(x:PV)(k:PV→α):Z1s x k=k x:=by cases x<;>simp only[Z1s,Zr1,Zcr]
def ZoX:List PV→(List PV→α)→α
 | [],k=>k []
 | x::r,k=>Z1s x fun x=>ZoX r fun r=>k (x::r)
theorem Zs2:∀(l:List PV) (k:List PV→α),ZoX l k=k l
 | [],_=>rfl
 | x::r,k=>by simp only[ZoX,Z7j];rw[Zs2 r]
def sPV(x:PV)(k:PV→α):α:=match x with
 | .v x=>Z1q x fun x=>k (.v x)
 | .agg cs=>ZcK cs fun cs=>k (.agg cs)
 | .tup cs=>ZoX cs fun cs=>k (.tup cs)
 | .lptr cs off=>ZcK cs fun cs=>k (.lptr cs off)
 | .bld u=>fB u fun u=>k (.bld u)
 | .bp b off=>fN b fun b=>fN off fun off=>k (.bp b off)
 | .bs b off n s=>fN b fun b=>fN off fun off=>fN n fun n=>fN s fun s=>k (.bs b off n s)
 | .str l=>k (.str l)
 | .nil=>k .nil
 | .lst xs=>k (.lst xs)
 | .fn f cs=>fN f fun f=>k (.fn f cs)
theorem ZAt(x:PV)(k:PV→α):sPV x k=k x:=by cases x<;>simp only[sPV,Zr1,Zcr,Zs2,Xv,Z1j]
def sAV(a:AV)(k:AV→α):α:=match a with
 | .p x=>sPV x fun x=>k (.p x)
 | .ptr b off=>fN b fun b=>k (.ptr b off)
 | .fnp f bs=>fN f fun f=>fNs bs fun bs=>k (.fnp f bs)
 | .sl b off n s=>fN b fun b=>fN s fun s=>k (.sl b off n s)
theorem ZvB(x:AV)(k:AV→α):sAV x k=k x:=by cases x<;>simp only[sAV,ZAt,Xv,ZhZ]
def Z1t:List (Nat×AV)→(List (Nat×AV)→α)→α
 | [],k=>k []
 | (t,v)::r,k=>fN t fun t=>sAV v fun v=>Z1t r fun r=>k ((t,v)::r)
theorem Z0l:∀(l:List (Nat×AV)) (k:List (Nat×AV)→α),Z1t l k=k l
 | [],_=>rfl
 | (t,v)::r,k=>by simp only[Z1t,Xv,ZvB];rw[Z0l r]
def slB:List (Nat×AV)→List Nat
 | []=>[]
 | (_,v)::r=>match v with
   | .sl b _ _ _=>b::slB r
   | _=>slB r
def ZmB(sk:Bool)(l:List PV)(k:List PV→α):α:=bif sk then k l else ZcK l k
theorem ZoY(sk:Bool)(l:List PV)(k:List PV→α):ZmB sk l k=k l:=by cases sk<;>simp only[ZmB,Qb_,Qd_,Zcr]
def Z1u(sk:List Nat):List (Nat×List PV)→(List (Nat×List PV)→α)→α
 | [],k=>k []
 | (t,v)::r,k=>fN t fun t=>ZmB (has t sk) v fun v=>Z1u sk r fun r=>k ((t,v)::r)
theorem Z0m(sk:List Nat):∀(l:List (Nat×List PV)) (k:List (Nat×List PV)→α),Z1u sk l k=k l
 | [],_=>rfl
 | (t,v)::r,k=>by simp only[Z1u,Xv,ZoY];rw[Z0m sk r]
def Z7k(l:List (Nat×AV))(k:List (Nat×AV)→α):α:=match l with
 | []=>k []
 | (t,v)::r=>fN t fun t=>sAV v fun v=>Zv4 r fun r=>k ((t,v)::r)
theorem Z93(l:List (Nat×AV))(k:List (Nat×AV)→α):Z7k l k=k l:=by
 cases l<;>simp only[Z7k,Xv,ZvB,Zry]
def Z7l(sk:List Nat)(l:List (Nat×List PV))(k:List (Nat×List PV)→α):α:=match l with
 | []=>k []
 | (t,v)::r=>fN t fun t=>ZmB (has t sk) v fun v=>Zv4 r fun r=>k ((t,v)::r)
theorem Z94(sk:List Nat)(l:List (Nat×List PV))(k:List (Nat×List PV)→α):Z7l sk l k=k l:=by
 cases l<;>simp only[Z7l,Xv,ZoY,Zry]
def Zr2(σ:St)(k:St→α):α:=match σ with
 | ⟨n,tm,bx,ro,ow,al⟩=>fN n fun n=>Z1t tm fun tm=>Z1u (slB tm) bx fun bx=>fNs ro fun ro=>fOw ow fun ow=>fAl al fun al=>k ⟨n,tm,bx,ro,ow,al⟩
theorem ZmC(σ:St)(k:St→α):Zr2 σ k=k σ:=by cases σ;simp only[Zr2,Xv,Z0l,Z0m,ZhZ,ZoT,ZoU]
def Z7m(a:AV)(k:AV→α):α:=match a with
 | .ptr b off=>fN b fun b=>k (.ptr b off)
 | .sl b off n s=>fN b fun b=>fN s fun s=>k (.sl b off n s)
 | .p x=>Z1k (.p x) k
 | .fnp f bs=>Z1k (.fnp f bs) k
theorem Z95(a:AV)(k:AV→α):Z7m a k=k a:=by cases a<;>simp only[Z7m,Xv,Z9y]
def Z1v:List (Nat×AV)→(List (Nat×AV)→α)→α
 | [],k=>k []
 | (t,v)::r,k=>fN t fun t=>Z7m v fun v=>Z1v r fun r=>k ((t,v)::r)
theorem Z0n:∀(l:List (Nat×AV)) (k:List (Nat×AV)→α),Z1v l k=k l
 | [],_=>rfl
 | (t,v)::r,k=>by simp only[Z1v,Xv,Z95];rw[Z0n r]
def ZkO(σ:St)(k:St→α):α:=match σ with
 | ⟨n,tm,bx,ro,ow,al⟩=>fN n fun n=>Z1v tm fun tm=>Z1l bx fun bx=>fNs ro fun ro=>fOw ow fun ow=>fAl al fun al=>k ⟨n,tm,bx,ro,ow,al⟩
theorem Zia(σ:St)(k:St→α):ZkO σ k=k σ:=by cases σ;simp only[ZkO,Xv,Z0n,Z0j,ZhZ,ZoT,ZoU]
def Z1w(mem:Bool)(σ:St)(k:St→α):α:=match σ with
 | ⟨n,tm,bx,ro,ow,al⟩=>fN n fun n=>Z7k tm fun tm=>(bif mem then Z7l (slB tm) bx else Zv4 bx) fun bx=>Zv4 ro fun ro=>fOw ow fun ow=>fAl al fun al=>k ⟨n,tm,bx,ro,ow,al⟩
theorem Z0o(mem:Bool)(σ:St)(k:St→α):Z1w mem σ k=k σ:=by
 cases σ;cases mem<;>simp only[Z1w,Xv,Z93,Qb_,Qd_,Z94,Zry,ZoT,ZoU]
def sEn(e:En)(k:En→α):α:=match e with
 | ⟨i,tm,bx,ln⟩=>fN i fun i=>
   (match tm with
    | none=>fun (k:Option (Nat×AV)→α)=>k none
    | some (t,v)=>fun k=>fN t fun t=>sAV v fun v=>k (some (t,v))) fun tm=>
   (match bx with
    | none=>fun (k:Option (Nat×List PV)→α)=>k none
    | some (t,v)=>fun k=>fN t fun t=>ZcK v fun v=>k (some (t,v))) fun bx=>
   (match ln with
    | none=>fun (k:Option (Nat×Loc)→α)=>k none
    | some (t,v)=>fun k=>fN t fun t=>Zv3 v fun v=>k (some (t,v))) fun ln=>k ⟨i,tm,bx,ln⟩
theorem ZAu(e:En)(k:En→α):sEn e k=k e:=by
 obtain ⟨i,tm,bx,ln⟩:=e
 rcases tm with _ | ⟨t,v⟩<;>rcases bx with _ | ⟨b,cs⟩<;>rcases ln with _ | ⟨l,x⟩<;>simp only[sEn,Xv,ZvB,Zcr,Zrx]
end forces
abbrev RSy:=Nat→St→Oper→Option (Res×List Prop)
abbrev TSy:=Nat→St→Oper→Option (St×List Prop)
def ZAv(ops:List Oper)(j:Nat):Bool:=ops.any fun o=>match o.guard with
 | some (i,_)=>Nat.beq i j
 | none=>false
def ZvC(gd:Bool)(e:En)(K:En→Prop):Prop:=match gd with
 | false=>K e
 | true=>match e with
   | ⟨i,some (d,.p (.v (.bool h))),bx,ln⟩=>(match h with
     | true=>K ⟨i,some (d,.p (.v (.bool true))),bx,ln⟩
     | false=>K ⟨i,some (d,.p (.v (.bool false))),bx,ln⟩)
   | e=>K e
theorem Z1x{gd:Bool}{e:En}{K:En→Prop}(h:ZvC gd e K):K e:=by
 cases gd with
 | false=>exact h
 | true=>
   unfold ZvC at h
   simp only at h
   split at h
   ·split at h<;>exact h
   ·exact h
def ZvD(gd:Bool)(σ:St)(K:St→Prop):Prop:=match gd with
 | false=>K σ
 | true=>match σ with
   | ⟨n,(d,.p (.v (.bool h)))::r,bx,ro,ow,al⟩=>(match h with
     | true=>K ⟨n,(d,.p (.v (.bool true)))::r,bx,ro,ow,al⟩
     | false=>K ⟨n,(d,.p (.v (.bool false)))::r,bx,ro,ow,al⟩)
   | σ=>K σ
theorem Z1y{gd:Bool}{σ:St}{K:St→Prop}(h:ZvD gd σ K):K σ:=by
 cases gd with
 | false=>exact h
 | true=>
   unfold ZvD at h
   simp only at h
   split at h
   ·split at h<;>exact h
   ·exact h
def ZoZ(σ:St)(ops:List Oper)(o:Oper)(run skip:Prop):Prop:=
 match Zco σ ops o with
 | some true=>run
 | some false=>skip
 | none=>False
theorem Zpa{σ:St}{ops:List Oper}{o:Oper}{run skip:Prop}(h:ZoZ σ ops o run skip):(Zco σ ops o=some true∧run)∨(Zco σ ops o=some false∧skip):=by
 unfold ZoZ at h
 split at h
 ·exact .inl ⟨by assumption,h⟩
 ·exact .inr ⟨by assumption,h⟩
 ·exact h.elim
def ZfV(T:TSy)(ops:List Oper):List Oper→Nat→St→(St→Prop)→Prop
 | [],_,σ,K=>K σ
 | o::r,j,σ,K=>ZoZ σ ops o
    (match T j σ o with
     | some (σ1,ps)=>alls ps (Z1w (ZCs o.op) σ1 fun σ1=>ZvD (ZAv ops j) σ1 fun σ1=>ZfV T ops r (j+1) σ1 K)
     | none=>False)
    (match o.dst with
     | some d=>Z1w false (Zfn σ d) fun σ=>ZfV T ops r (j+1) σ K
     | none=>ZfV T ops r (j+1) σ K)
def TSub(T:TSy)(T0:Nat→St→Oper→Option St):Prop:=∀j σ o σ1 ps,T j σ o=some (σ1,ps)→Yx ps→T0 j σ o=some σ1
def RSub(R:RSy)(R0:Nat→St→Oper→Option Res):Prop:=∀j τ o r ps,R j τ o=some (r,ps)→Yx ps→R0 j τ o=some r
theorem ZcL{T:TSy}{T0:Nat→St→Oper→Option St}(hT:TSub T T0){ops:List Oper}{K:St→Prop}:∀{l:List Oper} {j:Nat} {σ:St},ZfV T ops l j σ K→∃σ',K σ'∧tails T0 ops l j σ=some σ'
 | [],j,σ,h=>⟨σ,h,rfl⟩
 | o::r,j,σ,h=>by
   unfold ZfV at h
   unfold tails
   rcases Zpa h with ⟨hg,h⟩ | ⟨hg,h⟩
   ·rw[hg]
    split at h
    ·rename_i σ1 ps h1
     obtain ⟨h2,h3⟩:=W8 h
     rw[Z0o] at h3
     obtain ⟨σ',h4,h5⟩:=ZcL hT (Z1y h3)
     exact ⟨σ',h4,by simp only[hT _ _ _ _ _ h1 h2];exact h5⟩
    ·exact h.elim
   ·rw[hg]
    split at h
    ·rename_i d hd
     rw[Z0o] at h
     obtain ⟨σ',h4,h5⟩:=ZcL hT h
     exact ⟨σ',h4,by simp only[hd];exact h5⟩
    ·rename_i hd
     obtain ⟨σ',h4,h5⟩:=ZcL hT h
     exact ⟨σ',h4,by simp only[hd];exact h5⟩
def Zr3(Γ:List (Nat×Ty))(R:RSy)(ops:List Oper)(cls:List Nat)(ws:List (Nat×Nat))(D Src:List Nat)(β:St)(A:List En)(j:Nat)(o:Oper)(K:En→Prop):Prop:=
 ZkO (tau ws cls A β j (Yq cls j) (ZfD ops o)) fun τ=>
 ZoZ τ ops o
  (match o.op,o.dst with
   | .store T p x,none=>match WS Γ τ T p x with
     | some σ'=>match σ'.boxes with
       | (b,cs)::_=>bif Zbn j b ws&&ZoF Src x then K ⟨j,none,some (b,cs),none⟩ else False
       | []=>False
     | none=>False
   | _,some d=>match R j τ o with
     | some (r,ps)=>alls ps (match r.box with
       | none=>K ⟨j,some (d,r.av),none,Zbo D ws d r.link⟩
       | some cs=>bif Zbn j d ws&&Y8 (lk d β.boxes)&&ws.all (fun (s,b)=> !(Nat.beq b d)||Nat.ble j s) then K ⟨j,some (d,r.av),some (d,cs),Zbo D ws d r.link⟩ else False)
     | none=>False
   | _,none=>match R j τ o with
     | some (r,ps)=>alls ps (bif Y8 r.box then K ⟨j,none,none,none⟩ else False)
     | none=>False)
  (K ⟨j,skE τ.n o.dst,none,none⟩)
theorem Zzg{Γ:List (Nat×Ty)}{R:RSy}{R0:Nat→St→Oper→Option Res}(hR:RSub R R0){ops:List Oper}{cls:List Nat}{ws:List (Nat×Nat)}{D Src:List Nat}{β:St}{A:List En}{j:Nat}{o:Oper}{K:En→Prop}
 (h:Zr3 Γ R ops cls ws D Src β A j o K):∃e,K e∧Ze0 Γ R0 ops cls ws D Src β A j o=some e:=by
 unfold Zr3 at h
 rw[Zia] at h
 unfold Ze0
 simp only
 generalize tau ws cls A β j (Yq cls j) (ZfD ops o)=τ at h ⊢
 have key1:∀(o:Oper) (d:Nat),(match R j τ o with
      | some (r,ps)=>alls ps (match r.box with
        | none=>K ⟨j,some (d,r.av),none,Zbo D ws d r.link⟩
        | some cs=>bif Zbn j d ws&&Y8 (lk d β.boxes)&&ws.all (fun (s,b)=> !(Nat.beq b d)||Nat.ble j s) then K ⟨j,some (d,r.av),some (d,cs),Zbo D ws d r.link⟩ else False)
      | none=>False)→∃e,K e∧(match R0 j τ o with
  | some r=>match r.box with
    | none=>some (⟨j,some (d,r.av),none,Zbo D ws d r.link⟩:En)
    | some cs=>bif Zbn j d ws&&Y8 (lk d β.boxes)&&ws.all (fun (s,b)=> !(Nat.beq b d)||Nat.ble j s) then some ⟨j,some (d,r.av),some (d,cs),Zbo D ws d r.link⟩ else none
  | none=>none)=some e:=by
  intro o d h
  split at h
  ·rename_i r ps h1
   obtain ⟨h2,h3⟩:=W8 h
   have hr:=hR _ _ _ _ _ h1 h2
   simp only[hr]
   split at h3
   ·exact ⟨_,h3,rfl⟩
   ·rename_i cs hbx
    cases hb:(Zbn j d ws&&Y8 (lk d β.boxes)&&ws.all (fun (s,b)=> !(Nat.beq b d)||Nat.ble j s)) with
    | false=>rw[hb] at h3;exact h3.elim
    | true=>
      rw[hb] at h3
      exact ⟨_,h3,rfl⟩
  ·exact h.elim
 have key0:∀(o:Oper),(match R j τ o with
      | some (r,ps)=>alls ps (bif Y8 r.box then K ⟨j,none,none,none⟩ else False)
      | none=>False)→∃e,K e∧(match R0 j τ o with
  | some r=>bif Y8 r.box then some (⟨j,none,none,none⟩:En) else none
  | none=>none)=some e:=by
  intro o h
  split at h
  ·rename_i r ps h1
   obtain ⟨h2,h3⟩:=W8 h
   have hr:=hR _ _ _ _ _ h1 h2
   simp only[hr]
   cases hb:Y8 r.box with
   | false=>rw[hb] at h3;exact h3.elim
   | true=>
     rw[hb] at h3
     exact ⟨_,h3,rfl⟩
  ·exact h.elim
 rcases Zpa h with ⟨hg,h⟩ | ⟨hg,h⟩
 ·simp only[hg]
  clear hg
  obtain ⟨dst,op,type,pos,after,guard⟩:=o
  cases op with
  | store T p x=>
    cases dst with
    | some d=>exact key1 _ d h
    | none=>
      simp only at h ⊢
      split at h
      ·rename_i σ' hs
       simp only[hs]
       split at h
       ·rename_i b cs _ hbx
        simp only[hbx]
        cases hb:(Zbn j b ws&&ZoF Src x) with
        | false=>rw[hb] at h;exact h.elim
        | true=>
          rw[hb] at h
          exact ⟨_,h,rfl⟩
       ·exact h.elim
      ·exact h.elim
  | _=>
    cases dst with
    | some d=>exact key1 _ d h
    | none=>exact key0 _ h
 ·simp only[hg]
  exact ⟨_,h,rfl⟩
def Zpb(Γ:List (Nat×Ty))(R:RSy)(ops:List Oper)(cls:List Nat)(ws:List (Nat×Nat))(D Src:List Nat)(β:St):List Oper→Nat→List En→(List En→Prop)→Prop
 | [],_,A,K=>K A
 | o::r,j,A,K=>Zr3 Γ R ops cls ws D Src β A j o fun e=>sEn e fun e=>ZvC (ZAv ops j) e fun e=>Zpb Γ R ops cls ws D Src β r (j+1) (e::A) K
theorem Zpc{Γ:List (Nat×Ty)}{R:RSy}{R0:Nat→St→Oper→Option Res}(hR:RSub R R0){ops:List Oper}{cls:List Nat}{ws:List (Nat×Nat)}{D Src:List Nat}{β:St}{K:List En→Prop}:∀{l:List Oper} {j:Nat} {A:List En},
 Zpb Γ R ops cls ws D Src β l j A K→∃A',K A'∧frees Γ R0 ops cls ws D Src β l j A=some A'
 | [],j,A,h=>⟨A,h,rfl⟩
 | o::r,j,A,h=>by
   unfold Zpb at h
   obtain ⟨e,h1,h2⟩:=Zzg hR h
   rw[ZAu] at h1
   obtain ⟨A',h3,h4⟩:=Zpc hR (Z1x h1)
   exact ⟨A',h3,by unfold frees;rw[h2];exact h4⟩
def Z0p(Γ:List (Nat×Ty))(R:RSy)(T:TSy)(ops:List Oper)(σ:St)(ws:List (Nat×Nat))(K:St→Prop):Prop:=
 fNs (Zea ops []) fun cls=>fN (Wi cls ops.length) fun k=>fNs (Xh (ops.take k)) fun D=>fNs (Zbv (ops.take k)) fun Src=>fWs ws fun ws=>
 bif ZfO ops 0&&ZcI D&&Z0U cls ws then
  ZkO (ZcH D Src ws σ) fun β=>Zpb Γ R ops cls ws D Src β (ops.take k) 0 [] fun A=>ZkO (Zhb β A) fun σ=>ZfV T ops (ops.drop k) k σ K
 else False
def ZvE(Γ:List (Nat×Ty))(R:RSy)(T:TSy)(ops:Array Oper)(d:Bool)(σ:St)(K:St→Prop):Prop:=
 match d with
 | true=>let l:=ops.toList
   Z0p Γ R T l σ (ZkD l σ (l.take (Wi (Zea l []) l.length)) 0) K
 | false=>ZfV T ops.toList ops.toList 0 σ K
theorem Z1z{Γ:List (Nat×Ty)}{R:RSy}{R0:Nat→St→Oper→Option Res}(hR:RSub R R0){T:TSy}{T0:Nat→St→Oper→Option St}(hT:TSub T T0){ops:Array Oper}{d:Bool}{σ:St}{K:St→Prop}
 (h:ZvE Γ R T ops d σ K):∃σ',K σ'∧Zm7 Γ R0 T0 ops d σ=some σ':=by
 cases d with
 | false=>exact ZcL hT h
 | true=>
   simp only[ZvE,Z0p,ZhZ,Xv,Z4B,Zia] at h
   simp only[Zm7,ZoI]
   cases hb:(ZfO ops.toList 0&&ZcI (Xh (ops.toList.take (Wi (Zea ops.toList []) ops.toList.length)))&&Z0U (Zea ops.toList []) (ZkD ops.toList σ (ops.toList.take (Wi (Zea ops.toList []) ops.toList.length)) 0)) with
   | false=>rw[hb] at h;exact h.elim
   | true=>
     rw[hb] at h
     simp only[Qb_] at h ⊢
     obtain ⟨A,h1,h2⟩:=Zpc hR h
     obtain ⟨σ',h3,h4⟩:=ZcL hT h1
     exact ⟨σ',h3,by rw[h2];exact h4⟩
def WP:Code→Nat
 | .region id _ _=>id+1
 | .seq x y=>match WP x with
   | 0=>WP y
   | k=>k
 | .cond _ x y=>match WP x with
   | 0=>WP y
   | k=>k
 | .block _ c=>WP c
 | .loop c=>WP c
 | .scope c=>WP c
 | _=>0
def Ym:Code→List Code
 | .seq x y=>Ym x++Ym y
 | .cond _ x y=>Ym x++Ym y
 | .block _ c=>Ym c
 | .loop c=>c::Ym c
 | .scope c=>Ym c
 | _=>[]
theorem ZhH:∀{s:Code} {l:Nat} {rest:Code},findLabel s l=some rest→∀b∈Ym rest,b∈Ym s
 | .seq x y,l,rest,h,b,hb=>by
   unfold findLabel at h
   split at h
   ·rename_i r1 h1
    have:=Qa_ h
    subst this
    simp only[Ym,Kw_] at hb ⊢
    rcases hb with hb | hb
    ·exact .inl (ZhH h1 b hb)
    ·exact .inr hb
   ·simp only[Ym,Kw_]
    exact .inr (ZhH h b hb)
 | .label k,l,rest,h,b,hb=>by
   unfold findLabel at h
   split at h
   ·have:=Qa_ h
    subst this
    exact absurd hb (by simp[Ym])
   ·cases h
 | .skip,_,_,h,_,_=>absurd h (by simp[findLabel])
 | .region _ _ _,_,_,h,_,_=>absurd h (by simp[findLabel])
 | .cond _ _ _,_,_,h,_,_=>absurd h (by simp[findLabel])
 | .block _ _,_,_,h,_,_=>absurd h (by simp[findLabel])
 | .loop _,_,_,h,_,_=>absurd h (by simp[findLabel])
 | .rangeFunc _ _ _ _,_,_,h,_,_=>absurd h (by simp[findLabel])
 | .exit _,_,_,h,_,_=>absurd h (by simp[findLabel])
 | .scope _,_,_,h,_,_=>absurd h (by simp[findLabel])
 | .goto _,_,_,h,_,_=>absurd h (by simp[findLabel])
 | .ret,_,_,h,_,_=>absurd h (by simp[findLabel])
 | .refuse _,_,_,h,_,_=>absurd h (by simp[findLabel])
abbrev LSum:=St→(Ex→St→Prop)→Prop
def Ye(P:Program)(b:Code)(S:LSum):Prop:=∀σ K,S σ K→∃e σ',K e σ'∧Tri P (.loop b) σ e σ'
def YZ(Γ:List (Nat×Ty))(R:RSy)(T:TSy)(LS:List (Nat×LSum)):Nat→Option Code→Code→St→(Ex→St→Prop)→Prop
 | 0,_,_,_,_=>False
 | n+1,some s,c,σ,K=>ZkO (clean (JZ s) σ) fun σ=>YZ Γ R T LS n none c σ fun e σ1=>match e with
   | .goto l=>match findLabel s l with
     | some rest=>YZ Γ R T LS n (some s) rest σ1 K
     | none=>K (.goto l) σ1
   | e=>K e σ1
 | n+1,none,c,σ,K=>match c with
   | .scope s=>YZ Γ R T LS n (some s) s σ K
   | .skip=>K .normal σ
   | .label _=>K .normal σ
   | .exit i=>K (.exit i) σ
   | .goto i=>K (.goto i) σ
   | .ret=>K .ret σ
   | .region _ ops d=>ZvE Γ R T ops d σ fun σ'=>K .normal σ'
   | .seq x y=>YZ Γ R T LS n none x σ fun e σ1=>match e with
     | .normal=>YZ Γ R T LS n none y σ1 K
     | e=>K e σ1
   | .cond c x y=>match ZA σ c with
     | some (.v (.bool b))=>(match b with
       | true=>YZ Γ R T LS n none x σ K
       | false=>YZ Γ R T LS n none y σ K)
     | _=>False
   | .block id c=>YZ Γ R T LS n none c σ fun e σ1=>match e with
     | .exit i=>(match Nat.beq i id with
       | true=>K .normal σ1
       | false=>K (.exit i) σ1)
     | e=>K e σ1
   | .loop c=>match lk (WP c) LS with
     | some S=>S σ fun e σ1=>Zr2 σ1 fun σ1=>K e σ1
     | none=>ZkO (clean (JZ c) σ) fun σ=>YZ Γ R T LS n none c σ fun e σ1=>match e with
       | .normal=>YZ Γ R T LS n none (.loop c) σ1 K
       | e=>K e σ1
   | _=>False
section
variable {P:Program}{B:Nat}{g:G}{σ τ:St}{a:Act}{w:World}
theorem ZcM{Γ:List (Nat×Ty)}(hΓ:Yo P Γ)(hm:P.follows .mixedOrders=true){R:RSy}{R0:Nat→St→Oper→Option Res}(hRS:RSub R R0)(hR:∀j τ o r,R0 j τ o=some r→W4 P τ o r)
 {T:TSy} {T0:Nat→St→Oper→Option St} (hTS:TSub T T0) (hT:∀j σ o σ',T0 j σ o=some σ'→∀B g a w,Inv P B g σ a w→Goes P B g σ a w o σ') {LS:List (Nat×LSum)}:
 ∀(n:Nat),(∀(c:Code) (σ:St) (K:Ex→St→Prop),(∀b∈Ym c,∀S,lk (WP b) LS=some S→Ye P b S)→YZ Γ R T LS n none c σ K→∃e σ',K e σ'∧Tri P c σ e σ'∧∀b,c= .loop b→lk (WP b) LS=none→∃k,Zaz P k b σ e σ')∧
  ∀(s c:Code) (σ:St) (K:Ex→St→Prop),(∀b∈Ym s,∀S,lk (WP b) LS=some S→Ye P b S)→(∀b∈Ym c,∀S,lk (WP b) LS=some S→Ye P b S)→YZ Γ R T LS n (some s) c σ K→∃e σ',K e σ'∧∃k,Zk4 P s k c σ e σ':=by
 intro n
 induction n with
 | zero=>exact ⟨fun c σ K _ h=>h.elim,fun s c σ K _ _ h=>h.elim⟩
 | succ n ih=>
   refine ⟨?_,fun s c σ K hs hc h=>?_⟩
   rotate_left
   ·simp only[YZ,Zia] at h
    obtain ⟨e,σ1,h1,h2,_⟩:=ih.1 _ _ _ hc h
    have out:(∀l,e≠ .goto l)→K e σ1→∃e σ',K e σ'∧∃k,Zk4 P s k c σ e σ':=fun hne hk=>⟨e,σ1,hk,1,Zvb hne (Wy h2)⟩
    cases e with
    | goto l=>
      simp only at h1
      split at h1
      ·rename_i rest hf
       obtain ⟨e',σ',k1,k,k2⟩:=ih.2 s rest σ1 K hs (fun b hb=>hs b (ZhH hf b hb)) h1
       exact ⟨e',σ',k1,k+1,Zss (Wy h2) hf k2⟩
      ·rename_i hf
       exact ⟨_,σ1,h1,1,Z4y hf (Wy h2)⟩
    | normal=>exact out (fun l=>by simp) h1
    | exit i=>exact out (fun l=>by simp) h1
    | ret=>exact out (fun l=>by simp) h1
   intro c σ K hl h
   cases c with
   | skip=>exact ⟨_,_,h,fun B g a w hI=>wp_skip ⟨trivial,g,hI,Fr.refl⟩,fun b hb=>absurd hb (by simp)⟩
   | label l=>exact ⟨_,_,h,fun B g a w hI=>wp_label ⟨trivial,g,hI,Fr.refl⟩,fun b hb=>absurd hb (by simp)⟩
   | exit i=>exact ⟨_,_,h,fun B g a w hI=>wp_exit ⟨rfl,g,hI,Fr.refl⟩,fun b hb=>absurd hb (by simp)⟩
   | goto i=>exact ⟨_,_,h,fun B g a w hI=>wp_goto ⟨rfl,g,hI,Fr.refl⟩,fun b hb=>absurd hb (by simp)⟩
   | ret=>exact ⟨_,_,h,fun B g a w hI=>wp_ret ⟨trivial,g,hI,Fr.refl⟩,fun b hb=>absurd hb (by simp)⟩
   | region id ops d=>
     obtain ⟨σ',h1,h2⟩:=Z1z hRS hTS (K:=fun σ'=>K .normal σ') h
     exact ⟨_,_,h1,ZhD hΓ hm hR hT h2,fun b hb=>absurd hb (by simp)⟩
   | seq x y=>
     simp only[YZ] at h
     obtain ⟨e,σ1,h1,h2,_⟩:=ih.1 x σ _ (fun b hb=>hl b (by simp[Ym,hb])) h
     have out:e≠ .normal→K e σ1→∃e σ',K e σ'∧Tri P (.seq x y) σ e σ'∧∀b,Code.seq x y= .loop b→lk (WP b) LS=none→∃k,Zaz P k b σ e σ':=fun hne hk=>⟨e,σ1,hk,Znr hne h2,fun b hb=>absurd hb (by simp)⟩
     cases e with
     | normal=>
       obtain ⟨e',σ',k1,k2,_⟩:=ih.1 y σ1 _ (fun b hb=>hl b (by simp[Ym,hb])) h1
       exact ⟨e',σ',k1,ZzW h2 k2,fun b hb=>absurd hb (by simp)⟩
     | exit i=>exact out (by simp) h1
     | goto l=>exact out (by simp) h1
     | ret=>exact out (by simp) h1
   | cond c x y=>
     simp only[YZ] at h
     split at h
     ·rename_i b hb
      cases b with
      | true=>
        obtain ⟨e,σ1,h1,h2,_⟩:=ih.1 x σ _ (fun b hb=>hl b (by simp[Ym,hb])) h
        exact ⟨e,σ1,h1,ZiS hb h2,fun b hb=>absurd hb (by simp)⟩
      | false=>
        obtain ⟨e,σ1,h1,h2,_⟩:=ih.1 y σ _ (fun b hb=>hl b (by simp[Ym,hb])) h
        exact ⟨e,σ1,h1,ZiS hb h2,fun b hb=>absurd hb (by simp)⟩
     ·exact h.elim
   | block id c=>
     simp only[YZ] at h
     obtain ⟨e,σ1,h1,h2,_⟩:=ih.1 c σ _ hl h
     cases e with
     | exit i=>
       have ht:=ZhV (id:=id) h2
       simp only at h1
       cases hb:Nat.beq i id with
       | true=>rw[hb] at h1 ht;exact ⟨_,_,h1,ht,fun b hb=>absurd hb (by simp)⟩
       | false=>rw[hb] at h1 ht;exact ⟨_,_,h1,ht,fun b hb=>absurd hb (by simp)⟩
     | normal=>exact ⟨_,_,h1,ZgZ h2 (fun i=>by simp),fun b hb=>absurd hb (by simp)⟩
     | goto l=>exact ⟨_,_,h1,ZgZ h2 (fun i=>by simp),fun b hb=>absurd hb (by simp)⟩
     | ret=>exact ⟨_,_,h1,ZgZ h2 (fun i=>by simp),fun b hb=>absurd hb (by simp)⟩
   | loop c=>
     simp only[YZ] at h
     split at h
     ·rename_i S hS
      obtain ⟨e,σ1,h1,h2⟩:=hl c (by simp[Ym]) S hS _ _ h
      rw[ZmC] at h1
      exact ⟨e,σ1,h1,h2,fun b hb hn=>by cases hb;rw[hS] at hn;cases hn⟩
     ·rename_i hS
      rw[Zia] at h
      obtain ⟨e,σ1,h1,h2,_⟩:=ih.1 c _ _ (fun b hb=>hl b (by simp[Ym,hb])) h
      have out:e≠ .normal→K e σ1→∃e σ',K e σ'∧Tri P (.loop c) σ e σ'∧∀b,Code.loop c= .loop b→lk (WP b) LS=none→∃k,Zaz P k b σ e σ':=fun hne hk=>
       have ht:Zaz P 1 c σ e σ1:=ZnD hne (Wy h2)
       ⟨e,σ1,hk,ZiR ht,fun b hb _=>by cases hb;exact ⟨1,ht⟩⟩
      cases e with
      | normal=>
        obtain ⟨e',σ',k1,_,k3⟩:=ih.1 (.loop c) σ1 K hl h1
        obtain ⟨k,k4⟩:=k3 c rfl hS
        have ht:Zaz P (k+1) c σ e' σ':=ZiQ (Wy h2) k4
        exact ⟨e',σ',k1,ZiR ht,fun b hb _=>by cases hb;exact ⟨k+1,ht⟩⟩
      | exit i=>exact out (by simp) h1
      | goto l=>exact out (by simp) h1
      | ret=>exact out (by simp) h1
   | scope c=>
     simp only[YZ] at h
     obtain ⟨e,σ',h1,k,h2⟩:=ih.2 c c σ K hl hl h
     exact ⟨e,σ',h1,Zst h2,fun b hb=>absurd hb (by simp)⟩
   | rangeFunc f ps q c=>exact (show False from h).elim
   | refuse w=>exact (show False from h).elim
end
def intOf:PV→Int
 | .v (.int _ n)=>n
 | _=>0
def Zt:PV→Bool
 | .v (.bool b)=>b
 | _=>false
def ZcN:PV→List UInt8
 | .str l=>l
 | _=>[]
def ZbO:PV→List (List PV)
 | .lst l=>l
 | _=>[]
def Zr4:PV→Nat
 | .v (.complex _ a _)=>a
 | _=>0
def Zr5:PV→Nat
 | .v (.complex _ _ b)=>b
 | _=>0
def ZDg(z p:PV):PV:=match z with
 | .v (.int k _)=> .v (.int k (intOf p))
 | .v (.bool _)=> .v (.bool (Zt p))
 | .v (.complex k _ _)=> .v (.complex k (Zr4 p) (Zr5 p))
 | .str _=> .str (ZcN p)
 | .nil=> .lst (ZbO p)
 | _=>p
def ZJ:List PV→List PV→List PV
 | [],_=>[]
 | z::zs,ps=>ZDg z (ps.headD .nil)::ZJ zs ps.tail
def Z7n(op:BinOp)(x y:Value):Option (Value×List Prop):=
 match x,y with
 | .float k a,.float k' b=>bif decide (k=k') then (match op with
   | .eql=>some (.bool (k.format.order a b==some .eq),[])
   | .neq=>some (.bool (k.format.order a b !=some .eq),[])
   | .lss=>some (.bool (k.format.order a b==some .lt),[])
   | .leq=>some (.bool (k.format.order a b==some .lt||k.format.order a b==some .eq),[])
   | .gtr=>some (.bool (k.format.order a b==some .gt),[])
   | .geq=>some (.bool (k.format.order a b==some .gt||k.format.order a b==some .eq),[])
   | .add=>some (.float k ((k.format.add a b).getD 0),[k.format.add a b=some ((k.format.add a b).getD 0)])
   | .sub=>some (.float k ((k.format.sub a b).getD 0),[k.format.sub a b=some ((k.format.sub a b).getD 0)])
   | .mul=>some (.float k ((k.format.mul a b).getD 0),[k.format.mul a b=some ((k.format.mul a b).getD 0)])
   | _=>none) else none
 | .complex k a b,.complex k' c d=>bif decide (k=k') then (match op with
   | .eql=>some (.bool (k.format.order a c==some .eq&&k.format.order b d==some .eq),[])
   | .neq=>some (.bool (!(k.format.order a c==some .eq&&k.format.order b d==some .eq)),[])
   | .add=>some (.complex k ((k.format.add a c).getD 0) ((k.format.add b d).getD 0),[k.format.add a c=some ((k.format.add a c).getD 0),k.format.add b d=some ((k.format.add b d).getD 0)])
   | .sub=>some (.complex k ((k.format.sub a c).getD 0) ((k.format.sub b d).getD 0),[k.format.sub a c=some ((k.format.sub a c).getD 0),k.format.sub b d=some ((k.format.sub b d).getD 0)])
   | _=>none) else none
 | _,_=>none
def noP(x:Option PV):Option (PV×List Prop):=match x with
 | some r=>some (r,[])
 | none=>none
def Z10(op:BinOp)(k:IntKind)(a b:Int):Option (PV×List Prop):=
 match op with
 | .quo=>some (.v (.int k (k.wrap (a.tdiv b))),[b≠0])
 | .rem=>some (.v (.int k (a.tmod b)),[b≠0])
 | .shl=>some (.v (.int k (k.wrap (a *2 ^ min b.toNat k.bits))),[0≤b])
 | .shr=>some (.v (.int k (a.fdiv (2 ^ min b.toNat k.bits))),[0≤b])
 | op=>match ZtM op k a b with
   | some r=>some (r,[])
   | none=>noP (Z0L op k a b)
def Z7o(E:Env)(op:BinOp)(T:TypeId)(x y:PV):Option (PV×List Prop):=
 match x,y with
 | .v (.int k a),.v (.int k' b)=>match op with
   | .shl=>Z10 .shl k a b
   | .shr=>Z10 .shr k a b
   | op=>bif decide (k=k') then Z10 op k a b else none
 | .v (.bool a),.v (.bool b)=>bif has T E.bools then noP (ZoN op a b) else none
 | .agg xs,.agg ys=>match lk T E.eqs with
   | some sh=>match Zv sh xs ys with
     | some b=>match op with
       | .eql=>some (.v (.bool b),[])
       | .neq=>some (.v (.bool (!b)),[])
       | _=>none
     | none=>none
   | none=>none
 | .v a,.v b=>match Z7n op a b with
   | some (r,ps)=>some (.v r,ps)
   | none=>none
 | .str a,.str b=>match op with
   | .add=>some (.str (a++b),[a.length+b.length≤9223372036854775807])
   | .eql=>some (.v (.bool (a==b)),[])
   | .neq=>some (.v (.bool (!(a==b))),[])
   | _=>none
 | _,_=>none
def Z4J(Γ:List (Nat×Ty))(T:TypeId)(x i:PV):Option (PV×List Prop):=
 match lk T Γ,i with
 | some ty,.v (.int _ n)=>match ty.kd,x with
   | 4,.str l=>some (.v (.int .u8 ((l.getD n.toNat 0).toNat:Int)),[0≤n∧n < l.length])
   | 2,.agg cs=>match lk ty.elem Γ with
     | some ety=>bif Nat.beq cs.length (ty.len *ety.size)&& !(Nat.beq ety.size 0) then
        (match rd ety (ZJ ety.zero ((chunk ety.size ty.len cs).getD n.toNat [])) 0 with
        | some r=>bif Nat.beq (ZJ ety.zero ((chunk ety.size ty.len cs).getD n.toNat [])).length ety.size then some (r,[0≤n∧(chunk ety.size ty.len cs)[n.toNat]?=some (ZJ ety.zero ((chunk ety.size ty.len cs).getD n.toNat []))]) else none
        | none=>none)
       else none
     | none=>none
   | _,_=>none
 | _,_=>none
def Zpd(Γ:List (Nat×Ty))(T:TypeId)(x:AV)(i:PV):Option (AV×List Prop):=
 match lk T Γ,i with
 | some ty,.v (.int _ n)=>match ty.kd,x with
   | 3,.p (.lst xs)=>match lk ty.elem Γ with
     | some ety=>bif Nat.beq (ZJ ety.zero (xs.getD n.toNat [])).length ety.size&& !(Nat.beq ety.size 0) then some (.p (.lptr (ZJ ety.zero (xs.getD n.toNat [])) 0),[0≤n∧xs[n.toNat]?=some (ZJ ety.zero (xs.getD n.toNat []))]) else none
     | none=>none
   | 2,.ptr b off=>match lk ty.elem Γ with
     | some ety=>some (.ptr b (off+n.toNat *ety.size),[0≤n∧n < ty.len])
     | none=>none
   | 2,.p (.lptr cs off)=>match lk ty.elem Γ with
     | some ety=>some (.p (.lptr cs (off+n.toNat *ety.size)),[0≤n∧n < ty.len])
     | none=>none
   | _,_=>none
 | _,_=>none
def ZkP(Γ:List (Nat×Ty))(T:TypeId)(x:PV)(lo hi:Option PV):Option (PV×List Prop):=
 match lk T Γ with
 | some ty=>match ty.kd,x,lo,hi with
   | 4,.str l,some (.v (.int _ a)),some (.v (.int _ b))=>some (.str ((l.drop a.toNat).take (b.toNat - a.toNat)),[0≤a∧a≤b∧b≤l.length])
   | 4,.str l,some (.v (.int _ a)),none=>some (.str (l.drop a.toNat),[0≤a∧a≤l.length])
   | 4,.str l,none,some (.v (.int _ b))=>some (.str (l.take b.toNat),[0≤b∧b≤l.length])
   | 3,.lst l,lo,hi=>match lk ty.elem Γ,lo,hi with
     | some ety,some (.v (.int _ a)),some (.v (.int _ b))=>some (.lst ((l.drop a.toNat).take (b.toNat - a.toNat)),[0≤a∧a≤b∧b≤l.length∧Lens ety.size l])
     | some ety,some (.v (.int _ a)),none=>some (.lst (l.drop a.toNat),[0≤a∧a≤l.length∧Lens ety.size l])
     | some ety,none,some (.v (.int _ b))=>some (.lst (l.take b.toNat),[0≤b∧b≤l.length∧Lens ety.size l])
     | _,_,_=>none
   | _,_,_,_=>none
 | none=>none
def ZvF(E:Env)(S T:TypeId)(x:PV):Option (PV×List Prop):=
 match x with
 | .v (.int _ n)=>noP (Zvr E S T n)
 | .v (.float s b)=>match lk T E.ints,lk S E.flts with
   | some k,some _=>some (.v (.int k (((s.decode b).toInt .zero).getD 0)),[(s.decode b).toInt .zero=some (((s.decode b).toInt .zero).getD 0),k.min≤((s.decode b).toInt .zero).getD 0,((s.decode b).toInt .zero).getD 0≤k.max])
   | _,_=>none
 | .lst xs=>bif WU E S&&YX E T then some (.str ((bytesOf xs).getD []),[bytesOf xs=some ((bytesOf xs).getD [])]) else none
 | .nil=>bif WU E S&&YX E T then some (.str [],[]) else none
 | .str l=>bif YX E S&&YX E T then some (.str l,[]) else none
 | _=>none
def Z8J(Γ:List (Nat×Ty))(T:TypeId)(l c:PV):Option (PV×List Prop):=
 match lk T Γ,l,c with
 | some ty,.v (.int _ n),.v (.int _ m)=>bif Nat.beq ty.kd 3 then
    match lk ty.elem Γ with
    | some ety=>bif Nat.beq ety.size 0|| !(Nat.beq ety.zero.length ety.size) then none else some (.lst (chunk ety.size n.toNat (reps n.toNat ety.zero)),[n=m,0≤n,n.toNat *ety.size < 16777216,n.toNat *ety.bytes < 16777216])
    | none=>none
   else none
 | _,_,_=>none
abbrev Yb:=Nat→List PV→Option (PV×List Prop)
open Classical in
noncomputable def CH(C:Yb):XT:=fun f args=>match C f args with
 | some (r,ps)=>if Yx ps then some r else none
 | none=>none
def CSOk(P:Program)(C:Yb):Prop:=∀f args r ps,C f args=some (r,ps)→Yx ps→Con P f args r
theorem ZmD{P:Program}{C:Yb}(h:CSOk P C):ZfT P (CH C):=fun f args r hr=>by
 unfold CH at hr
 split at hr
 ·rename_i r' ps h1
  split at hr
  ·rename_i hp
   have:=Qa_ hr
   subst this
   exact h _ _ _ _ h1 hp
  ·cases hr
 ·cases hr
def Z8K(C:Yb)(σ:St)(f:Operand)(args:List Operand):Option (PV×List Prop):=
 match opd σ f,W6 (opd σ) args with
 | some (.p (.fn g cs)),some l=>match XO σ.boxes l with
   | some (xs,c)=>match C g (xs++cs) with
     | some (r,ps)=>bif !c||flat r then some (r,ps) else none
     | none=>none
   | none=>none
 | some (.fnp g bs),some l=>match XO σ.boxes l,Zfl σ.boxes bs with
   | some (xs,_),some cs=>match C g (xs++cs) with
     | some (r,ps)=>bif flat r then some (r,ps) else none
     | none=>none
   | _,_=>none
 | _,_=>none
def Jh(σ:St)(o:Oper)(x:Option (PV×List Prop)):Option (Res×List Prop):=
 match o.dst,x with
 | some d,some (x,ps)=>bif Nat.blt d σ.n then some (⟨.p x,none,none⟩,ps) else none
 | _,_=>none
def noR(x:Option Res):Option (Res×List Prop):=match x with
 | some r=>some (r,[])
 | none=>none
def Zpe:XT:=fun _ _=>none
def RSym(E:Env)(C:Yb)(j:Nat)(σ:St)(o:Oper):Option (Res×List Prop):=
 match o.op with
 | .binOp op T x y _=>match Zvu y with
   | true=>noR (RR E Zpe j σ o)
   | false=>match ZA σ x,ZA σ y with
     | some a,some b=>Jh σ o (Z7o E op T a b)
     | _,_=>none
 | .pick c x y=>match ZA σ c,ZA σ x,ZA σ y with
   | some (.v (.bool true)),some a,_=>Jh σ o (some (a,[]))
   | some (.v (.bool false)),_,some b=>Jh σ o (some (b,[]))
   | _,_,_=>none
 | .index T x i=>match ZA σ x,ZA σ i with
   | some (.agg _),some _=>noR (RR E Zpe j σ o)
   | some a,some j=>Jh σ o (Z4J E.Γ T a j)
   | _,_=>none
 | .indexAddr T x i=>match opd σ x,ZA σ i,o.dst with
   | some a,some j,some d=>match Zpd E.Γ T a j with
     | some (r,ps)=>bif Nat.blt d σ.n then some (⟨r,none,none⟩,ps) else none
     | none=>none
   | _,_,_=>none
 | .slice T x lo hi none=>match ZA σ x with
   | some a=>match lo,hi with
     | none,none=>none
     | some l,none=>match ZA σ l with | some l=>Jh σ o (ZkP E.Γ T a (some l) none) | none=>none
     | none,some h=>match ZA σ h with | some h=>Jh σ o (ZkP E.Γ T a none (some h)) | none=>none
     | some l,some h=>match ZA σ l,ZA σ h with | some l,some h=>Jh σ o (ZkP E.Γ T a (some l) (some h)) | _,_=>none
   | none=>none
 | .slice _ _ _ _ (some _)=>none
 | .convert S T x=>match ZA σ x with
   | some (.str l)=>match ZoO E S T l with
     | some r=>Jh σ o (some (r,[]))
     | none=>Jh σ o (ZvF E S T (.str l))
   | some a=>Jh σ o (ZvF E S T a)
   | none=>none
 | .makeSlice T l c=>match ZA σ l,ZA σ c with
   | some l,some c=>Jh σ o (Z8J E.Γ T l c)
   | _,_=>none
 | .call ⟨.value f,args,_⟩=>Jh σ o (Z8K C σ f args.toList)
 | _=>noR (RR E Zpe j σ o)
section
variable {P:Program}{σ:St}{o:Oper}
theorem Xw{x:Option (PV×List Prop)}{r:Res}{ps:List Prop}(h:Jh σ o x=some (r,ps)):∃d y,o.dst=some d∧x=some (y,ps)∧Nat.blt d σ.n=true∧r=⟨.p y,none,none⟩:=by
 unfold Jh at h
 split at h
 ·rename_i d y q hd
  cases hb:Nat.blt d σ.n with
  | false=>rw[hb] at h;cases h
  | true=>
    rw[hb] at h
    have:=Qa_ h
    cases this
    exact ⟨d,y,hd,rfl,hb,rfl⟩
 ·cases h
theorem X7{E:Env}{call:XT}{os ob:List Obl}{d:Nat}{r:Res}(h1:WM E call σ o=some os)(h2:Zs E.Γ σ o os=some (r,[],ob))(hd:o.dst=some d)(hb:Nat.blt d σ.n=true)(hl:Zk1 d r.link=true):
 RRgen E call σ o=some r:=by
 unfold RRgen
 rw[h1]
 simp only[ZaR,h2,hd]
 have:rewr d r []=some (r,[],[]):=rfl
 rw[this]
 simp only[hb,hl,QZ_,Qb_]
theorem Z7p{op:BinOp}{x y r:Value}{ps:List Prop}(h:Z7n op x y=some (r,ps))(hp:Yx ps):Zvq op x y=some r:=by
 unfold Z7n at h
 unfold Zvq
 split at h
 ·rename_i k a k' b
  try simp only
  cases hk:decide (k=k') with
  | false=>rw[hk] at h;cases h
  | true=>
    rw[hk] at h
    simp only[Qb_] at h ⊢
    cases op<;>first
     | (have:=Qa_ h;cases this;rfl)
     | (have:=Qa_ h;cases this
        have hq:=hp _ (Qv_ ..)
        rw[hq]
        simp)
     | cases h
 ·rename_i k a b k' c d
  try simp only
  cases hk:decide (k=k') with
  | false=>rw[hk] at h;cases h
  | true=>
    rw[hk] at h
    simp only[Qb_] at h ⊢
    cases op<;>first
     | (have:=Qa_ h;cases this;rfl)
     | (have:=Qa_ h;cases this
        have hq:=hp _ (Qv_ ..)
        have hq2:=hp _ (Qq_ _ (Qv_ ..))
        rw[hq,hq2]
        simp)
     | cases h
 ·cases h
theorem one{p:Prop}{l:List Prop}(h:Yx (p::l)):p:=h _ (Qv_ ..)
theorem Z4K{E:Env}{op:BinOp}{T:TypeId}{x y r:PV}{ps:List Prop}(h:Z7o E op T x y=some (r,ps))(hp:Yx ps):
 ∃os ob,X1 E op T x y=some os∧Xl op T x y os=some (r,[],ob):=by
 unfold Z7o at h
 split at h
 ·rename_i k a k' b
  split at h
  ·have:=Qa_ h;cases this
   have hb:decide (0≤b)=true:=by simpa using one hp
   exact ⟨[.pr True],_,by simp[X1,hb],by simp[Xl];rfl⟩
  ·have:=Qa_ h;cases this
   have hb:decide (0≤b)=true:=by simpa using one hp
   exact ⟨[.pr True],_,by simp[X1,hb],by simp[Xl];rfl⟩
  rename_i n1 n2
  cases hk:decide (k=k') with
  | false=>rw[hk] at h;cases h
  | true=>
    rw[hk] at h
    simp only[Qb_] at h
    have ek:=Qy_ hk
    subst ek
    cases op with
    | shl=>exact (n1 rfl).elim
    | shr=>exact (n2 rfl).elim
    | quo=>
      have:=Qa_ h;cases this
      have hb:(b==0)=false:=by simpa using one hp
      exact ⟨[.pr True],_,by simp[X1,hb],by simp[Xl];rfl⟩
    | rem=>
      have:=Qa_ h;cases this
      have hb:(b==0)=false:=by simpa using one hp
      exact ⟨[.pr True],_,by simp[X1,hb],by simp[Xl];rfl⟩
    | _=>
      simp only[Z10] at h
      split at h
      ·rename_i r0 hr0
       have:=Qa_ h;cases this
       exact ⟨[.bin _ T (.v (.int k a)) (.v (.int k b)) r],_,by simp only[X1,hr0,QD_,Qb_];rfl,by simp only[Xl];rfl⟩
      ·rename_i hr0
       unfold noP at h
       split at h
       ·rename_i r0 hr1
        have:=Qa_ h;cases this
        exact ⟨[],[],by simp only[X1,hr0],by simp only[Xl,QD_,Qb_,hr1]⟩
       ·cases h
 ·rename_i a b
  cases hb:has T E.bools with
  | false=>rw[hb] at h;cases h
  | true=>
    rw[hb] at h
    simp only[Qb_] at h
    cases hr:ZoN op a b with
    | none=>rw[hr] at h;exact absurd h (by simp[noP])
    | some r0=>
      rw[hr] at h
      have:=Qa_ h;cases this
      exact ⟨[.bin op T (.v (.bool a)) (.v (.bool b)) r],_,by simp only[X1,hb,hr,Qb_],by simp only[Xl];rfl⟩
 ·rename_i xs ys
  split at h
  ·rename_i sh hsh
   split at h
   ·rename_i b hb
    split at h
    ·have:=Qa_ h;cases this
     exact ⟨[.bin .eql T (.agg xs) (.agg ys) (.v (.bool b))],_,by simp only[X1,hsh,hb],by simp only[Xl];rfl⟩
    ·have:=Qa_ h;cases this
     exact ⟨[.bin .neq T (.agg xs) (.agg ys) (.v (.bool (!b)))],_,by simp only[X1,hsh,hb],by simp only[Xl];rfl⟩
    ·cases h
   ·cases h
  ·cases h
 ·rename_i a b h1 h2
  split at h
  ·rename_i r0 q hr
   have:=Qa_ h;cases this
   have hf:=Z7p hr hp
   refine ⟨[.bin op T (.v a) (.v b) (.v r0)],_, ?_,by simp[Xl];rfl⟩
   unfold X1
   split
   ·rename_i k a' k' b' e1 e2;cases e1;cases e2;exact (h1 _ _ _ _ rfl rfl).elim
   ·rename_i a' b' e1 e2;cases e1;cases e2;exact (h2 _ _ rfl rfl).elim
   ·rename_i e1 e2;cases e1
   ·rename_i a' b' _ _ e1 e2;cases e1;cases e2;rw[hf]
   ·rename_i e1 e2;cases e1
   ·rename_i _ _ hh _;exact (hh _ _ rfl rfl).elim
  ·cases h
 ·rename_i a b
  split at h
  ·have:=Qa_ h;cases this
   have hb:Nat.ble (a.length+b.length) 9223372036854775807=true:=by simpa using one hp
   exact ⟨[.pr True],_,by simp[X1,hb],by simp[Xl];rfl⟩
  ·have:=Qa_ h;cases this
   exact ⟨[],[],by simp[X1],by simp[Xl]⟩
  ·have:=Qa_ h;cases this
   exact ⟨[],[],by simp[X1],by simp[Xl]⟩
  ·cases h
 ·cases h
end
end Go.Ev
