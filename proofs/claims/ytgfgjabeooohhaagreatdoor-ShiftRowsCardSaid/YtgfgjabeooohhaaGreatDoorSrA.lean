/- A logic of frames, its evaluator for values known in part, and what the functions that the law reaches are shown to do: written for this claim. Part A. -/
import Derived.WalkKit
import Derived.Below
import Derived.Laws.AppendOwn
import Derived.Laws.IdiomCopy
import Derived.KernelRfl
import Derived.LoopN
import Derived.Scope
import Derived.Orders
set_option linter.all false
set_option maxRecDepth 100000
namespace Go.Ev
abbrev Qa_:=@Option.some.inj
abbrev Qb_:=@cond_true
abbrev Qc_:=@decide_eq_true_eq
abbrev Qd_:=@cond_false
abbrev Qe_:=@decide_eq_false_iff_not
abbrev Qf_:=@Bool.not_eq_false'
abbrev Qg_:=@List.getElem?_eq_getElem
abbrev Qh_:=@Bool.and_eq_true
abbrev Qi_:=@Bool.not_eq_true'
abbrev Qj_:=@Nat.eq_of_beq_eq_true
abbrev Qk_:=@List.length_map
abbrev Ql_:=@Bool.false_and
abbrev Qm_:=@Nat.le_of_ble_eq_true
abbrev Qn_:=@Bool.and_false
abbrev Qo_:=@List.getElem?_eq_some_iff
abbrev Qp_:=@Bool.true_and
abbrev Qq_:=@List.mem_cons_of_mem
abbrev Qr_:=@Bool.and_true
abbrev Qs_:=@List.length_cons
abbrev Qt_:=@Bool.not_false
abbrev Qu_:=@Bool.not_true
abbrev Qv_:=@List.mem_cons_self
abbrev Qw_:=@Bool.false_or
abbrev Qx_:=@List.length_append
abbrev Qy_:=@of_decide_eq_true
abbrev Qz_:=@List.mem_of_getElem?
abbrev Q0_:=@List.drop_eq_nil_of_le
abbrev Q1_:=@List.length_nil
abbrev Q2_:=@Nat.le_refl
abbrev Q3_:=@Bool.or_false
abbrev Q4_:=@Bool.true_or
abbrev Q5_:=@Bool.or_true
abbrev Q6_:=@List.getElem?_map
abbrev Q7_:=@List.getD_eq_getElem?_getD
abbrev Q8_:=@decide_false
abbrev Q9_:=@List.mem_cons
abbrev QA_:=@Array.getD_eq_getD_getElem?
abbrev QB_:=@List.append_assoc
abbrev QC_:=@Array.getElem?_eq_getElem
abbrev QD_:=@decide_true
abbrev QE_:=@List.map_cons
abbrev QF_:=@Nat.ble_eq_true_of_le
abbrev QG_:=@List.drop_zero
abbrev QH_:=@decide_eq_true
abbrev QI_:=@List.append_nil
abbrev QJ_:=@List.nil_append
abbrev QK_:=@List.all_eq_true
abbrev QL_:=@Array.getElem?_eq_some_iff
abbrev QM_:=@List.eq_nil_of_length_eq_zero
abbrev QN_:=@List.map_nil
abbrev QO_:=@Int.toNat_zero
abbrev QP_:=@Nat.zero_add
abbrev QQ_:=@decide_eq_false
abbrev QR_:=@List.map_append
abbrev QS_:=@List.cons_append
abbrev QT_:=@Nat.le_trans
abbrev QU_:=@List.any_cons
abbrev QV_:=@List.getElem?_append_left
abbrev QW_:=@Array.ext'
abbrev QX_:=@Array.getElem?_toList
abbrev QY_:=@List.mem_filter
abbrev QZ_:=@Bool.and_self
abbrev Ka_:=@Bool.or_eq_false_iff
abbrev Kb_:=@Nat.mul_le_mul_right
abbrev Kc_:=@Nat.lt_of_lt_of_le
abbrev Kd_:=@List.getElem?_drop
abbrev Ke_:=@List.getElem?_eq_none
abbrev Kf_:=@List.mem_append_left
abbrev Kg_:=@Nat.lt_or_ge
abbrev Kh_:=@List.take_of_length_le
abbrev Ki_:=@List.getElem?_take_of_lt
abbrev Kj_:=@congrArg
abbrev Kk_:=@List.getElem?_take
abbrev Kl_:=@List.getElem?_append_right
abbrev Km_:=@List.getElem_of_mem
abbrev Kn_:=@Bool.or_eq_true
abbrev Ko_:=@Nat.succ_mul
abbrev Kp_:=@List.mem_append_right
abbrev Kq_:=@Option.getD_some
abbrev Kr_:=@Nat.add_assoc
abbrev Ks_:=@List.mem_map
abbrev Kt_:=@List.mem_append
abbrev Ku_:=@if_true
abbrev Kv_:=@if_false
abbrev Kw_:=@List.drop_eq_getElem_cons
abbrev Kx_:=@Nat.zero_le
abbrev Ky_:=@List.getElem?_append
abbrev Kz_:=@List.getElem?_range
abbrev K0_:=@List.length_take
abbrev K1_:=@List.getElem_mem
abbrev K2_:=@Bool.cond_decide
abbrev K3_:=@Array.getElem?_setIfInBounds
abbrev K4_:=@Bool.false_eq_true
abbrev K5_:=@Option.map_some
abbrev K6_:=@Array.getElem?_append_left
abbrev K7_:=@List.length_drop
abbrev K8_:=@beq_eq_false_iff_ne
open Go.RowKit
inductive PV where
 | v (x:Value)
 | str (l:List UInt8)
 | nil
 | lst (xs:List (List PV))
 | lptr (cs:List PV) (off:Nat)
 | agg (cs:List PV)
 | tup (vs:List PV)
 | fn (f:FuncId) (caps:List PV)
 | bld (used:Bool)
 | bp (b off:Nat)
 | bs (b off n s:Nat)
inductive Rep (hw:Nat→Nat) (w:World):Value→PV→Prop
 | v (x:Value) (h1:x.oneCell'=true):Rep hw w x (.v x)
 | str (l:List UInt8):Rep hw w (.string ⟨l.toArray⟩) (.str l)
 | nil:Rep hw w (.slice none 0 0) .nil
 | lnil:Rep hw w (.slice none 0 0) (.lst [])
 | lst (xs:List (List PV)) (blk off cap s:Nat) (c:Nat→Nat→Value)
    (hcap:xs.length≤cap)
    (hlen:∀(i:Nat) (x:List PV),xs[i]?=some x→x.length=s)
    (hc:∀i j,i < xs.length→j < s→w.cell? ⟨blk,off+(i *s+j),none⟩=some (c i j))
    (hr:∀(i j:Nat) (x:List PV) (y:PV),xs[i]?=some x→x[j]?=some y→Rep hw w (c i j) y)
    (h1:∀i j,i < xs.length→j < s→(c i j).oneCell'=true)
    (hh:off+xs.length *s≤hw blk):Rep hw w (.slice (some ⟨blk,off,none⟩) xs.length cap) (.lst xs)
 | lptr (cs:List PV) (blk base off:Nat) (c:Nat→Value)
    (hc:∀j,j < cs.length→w.cell? ⟨blk,base+j,none⟩=some (c j))
    (hr:∀(j:Nat) (y:PV),cs[j]?=some y→Rep hw w (c j) y)
    (h1:∀j,j < cs.length→(c j).oneCell'=true)
    (hh:base+cs.length≤hw blk):Rep hw w (.pointer (some ⟨blk,base+off,none⟩)) (.lptr cs off)
 | agg (vs:List Value) (cs:List PV) (hl:vs.length=cs.length)
    (hr:∀(j:Nat) (x:Value) (y:PV),vs[j]?=some x→cs[j]?=some y→Rep hw w x y)
    (h1:∀x∈vs,x.oneCell'=true):Rep hw w (.agg vs.toArray) (.agg cs)
 | tup (vs:List Value) (cs:List PV) (hl:vs.length=cs.length)
    (hr:∀(j:Nat) (x:Value) (y:PV),vs[j]?=some x→cs[j]?=some y→Rep hw w x y):Rep hw w (.tuple vs.toArray) (.tup cs)
 | fn (f:FuncId) (vs:List Value) (cs:List PV) (hl:vs.length=cs.length)
    (hr:∀(j:Nat) (x:Value) (y:PV),vs[j]?=some x→cs[j]?=some y→Rep hw w x y):Rep hw w (.func (.func f) #[] vs.toArray) (.fn f cs)
structure Ext(hw:Nat→Nat)(w:World)(hw':Nat→Nat)(w':World):Prop where
 cell:∀k off,off < hw k→w'.cell? ⟨k,off,none⟩=w.cell? ⟨k,off,none⟩
 hw:∀k,hw k≤hw' k
theorem Ext.refl(hw:Nat→Nat)(w:World):Ext hw w hw w:=⟨fun _ _ _=>rfl,fun _=>Q2_ _⟩
theorem Ext.trans{h1 h2 h3:Nat→Nat}{a b c:World}(x:Ext h1 a h2 b)(y:Ext h2 b h3 c):Ext h1 a h3 c:=
 ⟨fun k off h=>(y.cell k off (Kc_ h (x.hw k))).trans (x.cell k off h),fun k=>QT_ (x.hw k) (y.hw k)⟩
theorem ZdD{i j n s off:Nat}(hi:i < n)(hj:j < s):off+(i *s+j) < off+n *s:=by
 have:(i+1)*s≤n *s:=Kb_ s hi
 rw[Ko_] at this
 omega
theorem Rep.mono{hw hw':Nat→Nat}{w w':World}(x:Ext hw w hw' w'){val:Value}{p:PV}(h:Rep hw w val p):Rep hw' w' val p:=by
 induction h with
 | v y h1=>exact .v y h1
 | str l=>exact .str l
 | nil=>exact .nil
 | lnil=>exact .lnil
 | lst xs blk off cap s c hcap hlen hc hr h1 hh ih=>
   exact .lst xs blk off cap s c hcap hlen (fun i j hi hj=>(x.cell _ _ (Kc_ (ZdD hi hj) hh)).trans (hc i j hi hj)) ih h1 (QT_ hh (x.hw _))
 | lptr cs blk base off c hc hr h1 hh ih=>
   exact .lptr cs blk base off c (fun j hj=>(x.cell _ _ (by omega)).trans (hc j hj)) ih h1 (QT_ hh (x.hw _))
 | agg vs cs hl hr h1 ih=>exact .agg vs cs hl ih h1
 | tup vs cs hl hr ih=>exact .tup vs cs hl ih
 | fn f vs cs hl hr ih=>exact .fn f vs cs hl ih
inductive AV where
 | p (x:PV)
 | ptr (b off:Nat)
 | fnp (f:FuncId) (caps:List Nat)
 | sl (b off n s:Nat)
inductive Loc where
 | t (t:Nat)
 | b (b c:Nat)
 deriving DecidableEq
structure St where
 n:Nat
 tmps:List (Nat×AV)
 boxes:List (Nat×List PV)
 ro:List Nat
 own:List (Loc×Nat)
 al:List (Nat×Loc)
def lk{α:Type}(k:Nat):List (Nat×α)→Option α
 | []=>none
 | (k',x)::r=>bif Nat.beq k k' then some x else lk k r
def Jp:Nat:=113
def ZaM:PV→Bool
 | .bld _=>true
 | .bp _ _=>true
 | .bs _ _ _ _=>true
 | _=>false
def YD:List PV→Bool
 | []=>true
 | x::r=>match x with
   | .bld _=>false
   | .bp _ _=>false
   | .bs _ _ _ _=>false
   | _=>YD r
def YZ:PV→Option Nat
 | .bp b _=>some b
 | .bs b _ _ _=>some b
 | _=>none
def WK:List PV→List Nat
 | []=>[]
 | x::r=>match x with
   | .bp b _=>b::WK r
   | .bs b _ _ _=>b::WK r
   | _=>WK r
def Zab:List (Nat×List PV):=[(4,[.v (.int .u64 1),.v (.int .u64 10),.v (.int .u64 100),.v (.int .u64 1000),.v (.int .u64 10000),.v (.int .u64 100000),.v (.int .u64 1000000),.v (.int .u64 10000000),.v (.int .u64 100000000),.v (.int .u64 1000000000),.v (.int .u64 10000000000),.v (.int .u64 100000000000),.v (.int .u64 1000000000000),.v (.int .u64 10000000000000),.v (.int .u64 100000000000000),.v (.int .u64 1000000000000000),.v (.int .u64 10000000000000000),.v (.int .u64 100000000000000000),.v (.int .u64 1000000000000000000),.v (.int .u64 10000000000000000000)])]
def GlobOk(hw:Nat→Nat)(w:World):Prop:=∀x cs,lk x Zab=some cs→Rep hw w (.pointer (some ⟨x,0,none⟩)) (.lptr cs 0)∧0 < cs.length∧∃arr t fr,w.heap[x]?=some (.cells arr t fr)∧arr.size=cs.length
theorem GlobOk.mono{hw hw':Nat→Nat}{w w':World}(x:Ext hw w hw' w')(hk:∀y cs,lk y Zab=some cs→w'.heap[y]?=w.heap[y]?)(h:GlobOk hw w):GlobOk hw' w':=fun y cs hy=>
 ⟨(h y cs hy).1.mono x,(h y cs hy).2.1,by rw[hk y cs hy];exact (h y cs hy).2.2⟩
theorem GlobOk.lt{hw:Nat→Nat}{w:World}(h:GlobOk hw w){y:Nat}{cs:List PV}(hy:lk y Zab=some cs):y < w.heap.size:=by
 obtain ⟨_,_,arr,t,fr,e,_⟩:=h y cs hy
 exact (QL_.1 e).1
theorem GlobOk.pos{hw:Nat→Nat}{w:World}(h:GlobOk hw w){y:Nat}{cs:List PV}(hy:lk y Zab=some cs):0 < hw y:=by
 obtain ⟨hr,h0,_⟩:=h y cs hy
 generalize hv:Value.pointer (some ⟨y,0,none⟩)=v at hr
 generalize hq:PV.lptr cs 0=q at hr
 cases hr with
 | lptr cs' blk base off c hc hr h1 hh=>
   injection hv with hv
   injection hv with hv
   injection hv with e1 e2
   injection hq with e3 e4
   subst e1;subst e3
   omega
 | _=>cases hq
def GlobIn(B:Nat)(hw:Nat→Nat)(w:World):Prop:=GlobOk hw w∧∀x cs,lk x Zab=some cs→x < B
theorem GlobIn.mono{B:Nat}{hw hw':Nat→Nat}{w w':World}(x:Ext hw w hw' w')(hk:∀y cs,lk y Zab=some cs→w'.heap[y]?=w.heap[y]?)(h:GlobIn B hw w):GlobIn B hw' w':=⟨h.1.mono x hk,h.2⟩
def Loc.eq:Loc→Loc→Bool
 | .t x,.t y=>Nat.beq x y
 | .b x c,.b y d=>Nat.beq x y&&Nat.beq c d
 | _,_=>false
def lkL{α:Type}(k:Loc):List (Loc×α)→Option α
 | []=>none
 | (k',x)::r=>bif k.eq k' then some x else lkL k r
structure Ty where
 kd:Nat
 size:Nat
 bytes:Nat
 zero:List PV
 fields:List (Nat×Nat)
 elem:Nat
 len:Nat
def cv:Value→PV
 | .string b=> .str b.data.toList
 | .slice none 0 0=> .nil
 | x=> .v x
def cvO:Value→Option PV
 | .agg cs=>bif cs.toList.all Value.oneCell' then some (.agg (cs.toList.map cv)) else none
 | .tuple _=>none
 | x=>some (cv x)
def Ty.agg(t:Ty):Bool:=Nat.beq t.kd 1||Nat.beq t.kd 2
def ZdE(kd:Nat)(i:TypeInfo)(z:Value)(fs:List (Nat×Nat))(e n:Nat):Option Ty:=
 bif z.cells.toList.all Value.oneCell'&&Nat.beq z.cells.size i.size then some ⟨kd,i.size,i.bytes,z.cells.toList.map cv,fs,e,n⟩ else none
def ZnH(P:Program)(T:TypeId):Option Ty:=
 match P.info? T with
 | none=>none
 | some i=>match i.zero with
   | none=>none
   | some z=>match P.underlying T with
     | some (.struct fs)=>ZdE 1 i z (fs.toList.map fun f=>(f.offset,f.type)) 0 0
     | some (.array n e)=>ZdE 2 i z [] e n
     | some (.slice e)=>ZdE 3 i z [] e 0
     | some .string=>ZdE 4 i z [] 0 0
     | some _=>ZdE 0 i z [] 0 0
     | none=>none
def ZW(P:Program)(Γ:List (Nat×Ty)):Prop:=∀T ty,lk T Γ=some ty→ZnH P T=some ty
end Go.Ev
namespace Go.Ev
inductive Ex where
 | normal
 | exit (id:Nat)
 | goto (l:Nat)
 | ret
inductive Obl where
 | call (f:FuncId) (args:List PV) (r:PV)
 | callp (f:FuncId) (cs:List PV) (args:List PV) (r:PV) (cs':List PV)
 | rb (d:Nat) (b v:Bool)
 | re (d:Nat) (a b:PV)
 | idx (xs:List (List PV)) (i:Int) (x:List PV)
 | pr (p:Prop)
 | bin (op:BinOp) (T:TypeId) (x y r:PV)
 | cvt (S T:TypeId) (x r:PV)
 | un (op:UnOp) (x r:PV)
 | blt (b:Builtin) (ats:Array TypeId) (T:TypeId) (args:List PV) (r:PV)
 | tri (kd:Nat) (c:Code) (σ:St) (e:Ex) (σ':St)
 | dk (k:Nat)
def chunk(s:Nat):Nat→List PV→List (List PV)
 | 0,_=>[]
 | n+1,l=>l.take s::chunk s n (l.drop s)
def rd1:Option PV→Option PV
 | some (.bld _)=>none
 | some (.bp _ _)=>none
 | some (.bs _ _ _ _)=>none
 | x=>x
def rd(ty:Ty)(cs:List PV)(off:Nat):Option PV:=
 bif Nat.ble (off+ty.size) cs.length then (bif ty.agg then (bif YD ((cs.drop off).take ty.size) then some (.agg ((cs.drop off).take ty.size)) else none) else bif Nat.beq ty.size 1 then rd1 cs[off]? else none) else none
def PV.cells:PV→List PV
 | .agg cs=>cs
 | .tup _=>[]
 | x=>[x]
def norm(x:PV):PV:=x
def Zga:PV→Bool
 | .v _=>true
 | .str _=>true
 | _=>false
def flat:PV→Bool
 | .v _=>true
 | .str _=>true
 | .agg cs=>cs.all Zga
 | .tup vs=>vs.all fun | .v _=>true | .str _=>true | .agg cs=>cs.all Zga | _=>false
 | _=>false
def put(σ:St)(d:Nat)(a:AV):St:=
 {σ with tmps:=(d,a)::σ.tmps,
         own:=σ.own.filter fun (l,_)=> !(l.eq (.t d)),
         al:=σ.al.filter fun (t,l)=> !(Nat.beq t d)&& !(l.eq (.t d))}
def opd(σ:St):Operand→Option AV
 | .tmp t=>lk t σ.tmps
 | .const v=>match cvO v with | some x=>some (.p x) | none=>none
 | .func f=>some (.p (.fn f []))
 | .global x=>match lk x Zab with | some cs=>some (.p (.lptr cs 0)) | none=>none
def Zw(σ:St)(x:Operand):Option PV:=
 match opd σ x with
 | some (.p x)=>some x
 | _=>none
def Zcx(Γ:List (Nat×Ty))(bx:List (Nat×List PV))(T:TypeId):AV→Option PV
 | .ptr b off=>match lk T Γ,lk b bx with
   | some ty,some cs=>rd ty cs off
   | _,_=>none
 | .p (.lptr cs off)=>match lk T Γ with
   | some ty=>rd ty cs off
   | none=>none
 | _=>none
def Zba(Γ:List (Nat×Ty))(T:TypeId)(f:Nat):Option (Nat×Ty):=
 match lk T Γ with
 | some ⟨1,_,_,_,fs,_,_⟩=>match fs[f]? with
   | some (off,ft)=>match lk ft Γ with
     | some fty=>bif Nat.beq fty.size 0 then none else some (off,fty)
     | none=>none
   | none=>none
 | _=>none
def Zci(Γ:List (Nat×Ty))(T:TypeId)(f:Nat)(a:AV):Option AV:=
 match Zba Γ T f with
 | some (off,_)=>match a with
   | .ptr b o=>some (.ptr b (o+off))
   | .p (.lptr cs o)=>some (.p (.lptr cs (o+off)))
   | _=>none
 | none=>none
def lay(cells:List PV)(off:Nat)(x:List PV):List PV:=cells.take off++(x++cells.drop (off+x.length))
def ZeL(place:Nat→Option (Nat×Nat))(cells:List PV):List (Nat×PV)→Option (List PV)
 | []=>some cells
 | (i,x)::r=>match place i with
   | none=>none
   | some (off,size)=>bif Nat.beq x.cells.length size&&Nat.ble (off+size) cells.length&& !(Nat.beq size 0) then ZeL place (lay cells off x.cells) r else none
def szs(Γ:List (Nat×Ty)):List (Nat×Nat)→Option (List (Nat×Nat))
 | []=>some []
 | (off,t)::r=>match lk t Γ,szs Γ r with
   | some ty,some l=>some ((off,ty.size)::l)
   | _,_=>none
def ZhD(Γ:List (Nat×Ty))(T:TypeId)(ps:List (Nat×PV)):Option PV:=
 match lk T Γ with
 | some ⟨1,_,_,z,fs,_,_⟩=>match szs Γ fs with
   | some pl=>match ZeL (fun i=>pl[i]?) z ps with
     | some cs=>some (.agg cs)
     | none=>none
   | none=>none
 | some ⟨2,_,_,z,_,e,_⟩=>match lk e Γ with
   | some ety=>match ZeL (fun i=>some (i *ety.size,ety.size)) z ps with
     | some cs=>some (.agg cs)
     | none=>none
   | none=>none
 | _=>none
def reps:Nat→List PV→List PV
 | 0,_=>[]
 | n+1,z=>z++reps n z
def XM(Γ:List (Nat×Ty))(T:TypeId)(n:Nat)(ps:List (Nat×PV)):Option PV:=
 match lk T Γ with
 | some ⟨3,_,_,_,_,e,_⟩=>match lk e Γ with
   | some ety=>bif Nat.beq ety.size 0||Nat.ble 16777216 (n *ety.size)|| !(Nat.beq ety.zero.length ety.size) then none else
     match ZeL (fun i=>some (i *ety.size,ety.size)) (reps n ety.zero) ps with
     | some cs=>some (.lst (chunk ety.size n cs))
     | none=>none
   | none=>none
 | _=>none
def Xt{α β:Type}(f:α→Option β):List α→Option (List β)
 | []=>some []
 | x::r=>match f x,Xt f r with
   | some y,some l=>some (y::l)
   | _,_=>none
def ZnI(op:BinOp)(k:IntKind)(a b:Int):Option PV:=
 match op with
 | .add=>some (.v (.int k (k.wrap (a+b))))
 | .sub=>some (.v (.int k (k.wrap (a - b))))
 | .mul=>some (.v (.int k (k.wrap (a *b))))
 | .eql=>some (.v (.bool (a==b)))
 | .neq=>some (.v (.bool (a !=b)))
 | .lss=>some (.v (.bool (decide (a < b))))
 | .leq=>some (.v (.bool (decide (a≤b))))
 | .gtr=>some (.v (.bool (decide (a > b))))
 | .geq=>some (.v (.bool (decide (a≥b))))
 | _=>none
abbrev Out(α:Type):=Option (α×List Obl×List Obl)
def Y1(op:BinOp)(T:TypeId)(x y:PV)(os:List Obl):Out PV:=
 match os with
 | .bin _ _ _ _ r::os=>some (r,os,[.bin op T x y r])
 | os=>
   match op,x,y with
   | .quo,.v (.int k a),.v (.int k' b)=>match os with
     | .pr _::os=>bif decide (k=k') then some (.v (.int k (k.wrap (a.tdiv b))),os,[.pr (b≠0)]) else none
     | _=>none
   | .rem,.v (.int k a),.v (.int k' b)=>match os with
     | .pr _::os=>bif decide (k=k') then some (.v (.int k (a.tmod b)),os,[.pr (b≠0)]) else none
     | _=>none
   | .shl,.v (.int k a),.v (.int _ b)=>match os with
     | .pr _::os=>some (.v (.int k (k.wrap (a *2 ^ min b.toNat k.bits))),os,[.pr (0≤b)])
     | _=>none
   | .shr,.v (.int k a),.v (.int _ b)=>match os with
     | .pr _::os=>some (.v (.int k (a.fdiv (2 ^ min b.toNat k.bits))),os,[.pr (0≤b)])
     | _=>none
   | op,.v (.int k a),.v (.int k' b)=>bif decide (k=k') then (match ZnI op k a b with | some r=>some (r,os,[]) | none=>none) else none
   | .add,.str a,.str b=>match os with
     | .pr _::os=>some (.str (a++b),os,[.pr (a.length+b.length≤9223372036854775807)])
     | _=>none
   | .eql,.str a,.str b=>some (.v (.bool (a==b)),os,[])
   | .neq,.str a,.str b=>some (.v (.bool (!(a==b))),os,[])
   | _,_,_=>none
def ZjR(op:UnOp)(x:PV)(os:List Obl):Out PV:=
 match os with
 | .un _ _ r::os=>some (r,os,[.un op x r])
 | os=>match op,x with
   | .not,.v (.bool b)=>some (.v (.bool (!b)),os,[])
   | .neg,.v (.int k n)=>some (.v (.int k (k.wrap (0 - n))),os,[])
   | .neg,.v (.float k n)=>some (.v (.float k (Op.negFloat k n)),os,[])
   | _,_=>none
def imax(x y:Int):Int:=if y > x then y else x
def imin(x y:Int):Int:=if y < x then y else x
def ZdF(k:IntKind):List PV→Option (List Int)
 | []=>some []
 | .v (.int k' n)::r=>bif decide (k=k') then (match ZdF k r with | some l=>some (n::l) | none=>none) else none
 | _=>none
def Jf(Γ:List (Nat×Ty))(b:Builtin)(ats:Array TypeId)(T:TypeId)(xs:List PV)(os:List Obl):Out PV:=
 match os with
 | .blt _ _ _ _ r::os=>some (r,os,[.blt b ats T xs r])
 | os=>match b,xs with
   | .len,[x]=>match ats.toList with
     | [t]=>match lk t Γ with
       | some ty=>match ty.kd,x with
         | 4,.str l=>some (.v (.int .i64 l.length),os,[])
         | 3,.lst l=>some (.v (.int .i64 l.length),os,[])
         | 3,.nil=>some (.v (.int .i64 0),os,[])
         | 2,_=>some (.v (.int .i64 ty.len),os,[])
         | _,_=>none
       | none=>none
     | _=>none
   | .max,.v (.int k n)::r=>match ZdF k r with
     | some l=>some (.v (.int k (l.foldl imax n)),os,[])
     | none=>none
   | .min,.v (.int k n)::r=>match ZdF k r with
     | some l=>some (.v (.int k (l.foldl imin n)),os,[])
     | none=>none
   | _,_=>none
def Lens(n:Nat)(l:List (List PV)):Prop:=∀x∈l,x.length=n
def Yw(Γ:List (Nat×Ty))(T:TypeId)(x:PV)(lo hi:Option PV)(os:List Obl):Out PV:=
 match lk T Γ,os with
 | some ty,.pr _::os=>match ty.kd,x,lo,hi with
   | 4,.str l,some (.v (.int _ a)),some (.v (.int _ b))=>some (.str ((l.drop a.toNat).take (b.toNat - a.toNat)),os,[.pr (0≤a∧a≤b∧b≤l.length)])
   | 4,.str l,some (.v (.int _ a)),none=>some (.str (l.drop a.toNat),os,[.pr (0≤a∧a≤l.length)])
   | 4,.str l,none,some (.v (.int _ b))=>some (.str (l.take b.toNat),os,[.pr (0≤b∧b≤l.length)])
   | 3,.lst l,lo,hi=>match lk ty.elem Γ,lo,hi with
     | some ety,some (.v (.int _ a)),some (.v (.int _ b))=>some (.lst ((l.drop a.toNat).take (b.toNat - a.toNat)),os,[.pr (0≤a∧a≤b∧b≤l.length∧Lens ety.size l)])
     | some ety,some (.v (.int _ a)),none=>some (.lst (l.drop a.toNat),os,[.pr (0≤a∧a≤l.length∧Lens ety.size l)])
     | some ety,none,some (.v (.int _ b))=>some (.lst (l.take b.toNat),os,[.pr (0≤b∧b≤l.length∧Lens ety.size l)])
     | _,_,_=>none
   | _,_,_,_=>none
 | _,_=>none
def JI(Γ:List (Nat×Ty))(T:TypeId)(x:PV)(i:PV)(os:List Obl):Out PV:=
 match lk T Γ,i with
 | some ty,.v (.int _ n)=>match ty.kd,x,os with
   | 4,.str l,.pr _::os=>some (.v (.int .u8 ((l.getD n.toNat 0).toNat:Int)),os,[.pr (0≤n∧n < l.length)])
   | 2,.agg cs,.idx _ _ y::os=>match lk ty.elem Γ with
     | some ety=>bif Nat.beq cs.length (ty.len *ety.size)&& !(Nat.beq ety.size 0) then
        (match rd ety y 0 with
        | some r=>bif Nat.beq y.length ety.size then some (r,os,[.idx (chunk ety.size ty.len cs) n y]) else none
        | none=>none)
       else none
     | none=>none
   | _,_,_=>none
 | _,_=>none
def ZaN(bx:List (Nat×List PV)):List Nat→Option (List PV)
 | []=>some []
 | b::r=>match lk b bx,ZaN bx r with
   | some cs,some l=>bif YD cs then some (.lptr cs 0::l) else none
   | _,_=>none
def hand(bx:List (Nat×List PV)):AV→Option (PV×Bool)
 | .p x=>some (norm x,false)
 | .ptr b off=>match lk b bx with
   | some cs=>bif YD cs then some (.lptr cs off,true) else none
   | none=>none
 | .fnp f bs=>match ZaN bx bs with
   | some l=>some (.fn f l,true)
   | none=>none
 | .sl _ _ _ _=>none
def YQ(bx:List (Nat×List PV)):List AV→Option (List PV×Bool)
 | []=>some ([],false)
 | a::r=>match hand bx a,YQ bx r with
   | some (x,c),some (l,d)=>some (x::l,c||d)
   | _,_=>none
def Zbb:List AV→Option (List Nat)
 | []=>some []
 | .ptr b off::r=>bif Nat.beq off 0 then (match Zbb r with | some l=>some (b::l) | none=>none) else none
 | _=>none
structure Res where
 av:AV
 box:Option (List PV):=none
 link:Option Loc:=none
def Wj(σ:St)(x:PV)(l:Loc):Option Loc:=
 match x with
 | .lst _=>match l with
   | .t t=>match lk t σ.al with
     | some l'=>some l'
     | none=>some l
   | l=>some l
 | .nil=>some l
 | _=>none
def Jq(σ:St)(v:PV):Operand→Option Loc
 | .tmp t=>Wj σ v (.t t)
 | _=>none
def Zal(σ:St)(x:PV):AV→Option Loc
 | .ptr b off=>Wj σ x (.b b off)
 | _=>none
def Zj(Γ:List (Nat×Ty))(σ:St)(o:Oper)(os:List Obl):Out Res:=
 let val (r:Option PV):Out Res:=match r with | some x=>some (⟨.p x,none,none⟩,os,[]) | none=>none
 let out (r:Out PV):Out Res:=match r with | some (x,os,ob)=>some (⟨.p x,none,none⟩,os,ob) | none=>none
 match o.op with
 | .move x | .assign x=>match opd σ x with
   | some (.p v)=>some (⟨.p v,none,Jq σ v x⟩,os,[])
   | some a=>some (⟨a,none,none⟩,os,[])
   | none=>none
 | .pick c a b=>match Zw σ c with
   | some (.v (.bool true))=>val (Zw σ a)
   | some (.v (.bool false))=>val (Zw σ b)
   | _=>none
 | .alloc T=>match lk T Γ,o.dst with
   | some ty,some d=>match lk d σ.boxes with
     | none=>some (⟨.ptr d 0,some ty.zero,none⟩,os,[])
     | some _=>none
   | _,_=>none
 | .box _ x=>match Zw σ x,o.dst with
   | some v,some d=>match lk d σ.boxes with
     | none=>some (⟨.ptr d 0,some v.cells,none⟩,os,[])
     | some _=>none
   | _,_=>none
 | .build T ps=>match Xt (fun (i,x)=>match Zw σ x with | some v=>some (i,v) | none=>none) ps.toList with
   | some l=>val (ZhD Γ T l)
   | none=>none
 | .buildSlice T n ps=>match Xt (fun (i,x)=>match Zw σ x with | some v=>some (i,v) | none=>none) ps.toList with
   | some l=>val (XM Γ T n l)
   | none=>none
 | .load T p=>match opd σ p with
   | some a=>match Zcx Γ σ.boxes T a with
     | some x=>some (⟨.p x,none,Zal σ x a⟩,os,[])
     | none=>none
   | none=>none
 | .fieldAddr T p f=>match opd σ p with
   | some a=>match Zci Γ T f a with
     | some a'=>some (⟨a',none,none⟩,os,[])
     | none=>none
   | none=>none
 | .field T x f=>match Zw σ x,Zba Γ T f with
   | some (.agg cs),some (off,fty)=>val (rd fty cs off)
   | _,_=>none
 | .nilCheck x=>match opd σ x with
   | some (.ptr b off)=>some (⟨.ptr b off,none,none⟩,os,[])
   | some (.p (.lptr cs off))=>some (⟨.p (.lptr cs off),none,none⟩,os,[])
   | some (.p (.fn f cs))=>some (⟨.p (.fn f cs),none,none⟩,os,[])
   | _=>none
 | .binOp op T x y _=>match Zw σ x,Zw σ y with
   | some a,some b=>out (Y1 op T a b os)
   | _,_=>none
 | .unOp op _ x=>match Zw σ x with
   | some a=>out (ZjR op a os)
   | none=>none
 | .convert S T x=>match Zw σ x,os with
   | some a,.cvt _ _ _ r::os=>some (⟨.p r,none,none⟩,os,[.cvt S T a r])
   | _,_=>none
 | .extract x i=>match Zw σ x with
   | some (.tup vs)=>val vs[i]?
   | _=>none
 | .slice T x lo hi none=>match Zw σ x with
   | some a=>match lo,hi with
     | none,none=>none
     | some l,none=>match Zw σ l with | some l=>out (Yw Γ T a (some l) none os) | none=>none
     | none,some h=>match Zw σ h with | some h=>out (Yw Γ T a none (some h) os) | none=>none
     | some l,some h=>match Zw σ l,Zw σ h with | some l,some h=>out (Yw Γ T a (some l) (some h) os) | _,_=>none
   | none=>none
 | .index T x i=>match Zw σ x,Zw σ i with
   | some a,some j=>out (JI Γ T a j os)
   | _,_=>none
 | .indexAddr T x i=>match lk T Γ,opd σ x,Zw σ i with
   | some ty,some a,some (.v (.int _ n))=>match ty.kd,a with
     | 3,.p (.lst xs)=>match lk ty.elem Γ,os with
       | some ety,.idx _ _ y::os=>bif Nat.beq y.length ety.size&& !(Nat.beq ety.size 0) then some (⟨.p (.lptr y 0),none,none⟩,os,[.idx xs n y]) else none
       | _,_=>none
     | 2,.ptr b off=>match lk ty.elem Γ,os with
       | some ety,.pr _::os=>some (⟨.ptr b (off+n.toNat *ety.size),none,none⟩,os,[.pr (0≤n∧n < ty.len)])
       | _,_=>none
     | 2,.p (.lptr cs off)=>match lk ty.elem Γ,os with
       | some ety,.pr _::os=>some (⟨.p (.lptr cs (off+n.toNat *ety.size)),none,none⟩,os,[.pr (0≤n∧n < ty.len)])
       | _,_=>none
     | _,_=>none
   | _,_,_=>none
 | .makeFunc (.func f) first caps=>match Xt (opd σ) caps.toList with
   | some l=>match Zbb l with
     | some bs=>bif Nat.beq first.size 0 then some (⟨.fnp f bs,none,none⟩,os,[]) else none
     | none=>none
   | none=>none
 | .call ⟨.builtin b,args,ats⟩=>match Xt (Zw σ) args.toList with
   | some xs=>out (Jf Γ b ats o.type xs os)
   | none=>none
 | .call ⟨.value f,args,_⟩=>match opd σ f,Xt (opd σ) args.toList,os with
   | some (.p (.fn g cs)),some l,.call _ _ r::os=>match YQ σ.boxes l with
     | some (xs,c)=>bif !c||flat r then some (⟨.p r,none,none⟩,os,[.call g (xs++cs) r]) else none
     | none=>none
   | some (.fnp g bs),some l,.call _ _ r::os=>match YQ σ.boxes l,ZaN σ.boxes bs with
     | some (xs,_),some cs=>bif flat r then some (⟨.p r,none,none⟩,os,[.call g (xs++cs) r]) else none
     | _,_=>none
   | _,_,_=>none
 | _=>none
def rewr(d:Nat)(r:Res)(os:List Obl):Option (Res×List Obl×List Obl):=
 match os,r with
 | .rb d' _ v::os',⟨.p (.v (.bool h)),bx,l⟩=>bif Nat.beq d d' then some (⟨.p (.v (.bool v)),bx,l⟩,os',[.rb d h v]) else some (r,os,[])
 | .re d' _ y::os',⟨.p x,bx,l⟩=>bif Nat.beq d d' then some (⟨.p y,bx,l⟩,os',[.re d x y]) else some (r,os,[])
 | _,_=>some (r,os,[])
def Xa(σ:St)(d:Nat)(r:Res):St:=
 let σ':=put σ d r.av
 {σ' with boxes:=(match r.box with | some cs=>(d,cs)::σ'.boxes | none=>σ'.boxes),
          al:=(match r.link with | some l=>(d,l)::σ'.al | none=>σ'.al)}
open Go.RowKit
structure G where
 β:Nat→Option (Nat×Nat)
 hw:Nat→Nat
def RepA(g:G)(w:World)(val:Value):AV→Prop
 | .p x=>Rep g.hw w val x
 | .ptr b off=>∃k base,g.β b=some (k,base)∧val= .pointer (some ⟨k,base+off,none⟩)
 | .fnp f bs=>∃vs:List Value,val= .func (.func f) #[] vs.toArray∧vs.length=bs.length∧
    ∀(j:Nat) (v:Value) (b:Nat),vs[j]?=some v→bs[j]?=some b→∃k base,g.β b=some (k,base)∧v= .pointer (some ⟨k,base,none⟩)
 | .sl b off n _=>∃k base cap,g.β b=some (k,base)∧n≤cap∧val= .slice (some ⟨k,base+off,none⟩) n cap
def LocIs(g:G)(a:Act)(w:World):Loc→Value→Prop
 | .t t,val=>a.tmps.getD t undef=val
 | .b b c,val=>∃k base,g.β b=some (k,base)∧w.cell? ⟨k,base+c,none⟩=some val
def OwnV(P:Program)(B:Nat)(hw:Nat→Nat)(w:World)(E:TypeId)(val:Value):Prop:=
 ∃i n xs,P.info? E=some i∧w.ownsRow B E i.size val n xs∧∀k,val.ownBlock=some k→hw k=n *i.size
inductive RepB (β:Nat→Option (Nat×Nat)) (hw:Nat→Nat) (w:World) (k base j:Nat) (v:Value):PV→Prop where
 | rep {y:PV} (h:Rep hw w v y):RepB β hw w k base j v y
 | bld (u:Bool) (h0:base+j=0) (hs:w.shape? k=some (Jp,2)) (hv:v=if u then .pointer (some ⟨k,0,none⟩) else .pointer none):RepB β hw w k base j v (.bld u)
 | bp (b off:Nat) (h:∃k' base',β b=some (k',base')∧v= .pointer (some ⟨k',base'+off,none⟩)):RepB β hw w k base j v (.bp b off)
 | bs (b off n s:Nat) (h:∃k' base' cap,β b=some (k',base')∧n≤cap∧v= .slice (some ⟨k',base'+off,none⟩) n cap):RepB β hw w k base j v (.bs b off n s)
structure BoxOk(g:G)(w:World)(k base:Nat)(cs:List PV):Prop where
 cell:∀(j:Nat) (y:PV),cs[j]?=some y→∃v,w.cell? ⟨k,base+j,none⟩=some v∧v.oneCell'=true∧w.frozen? ⟨k,base+j,none⟩=false∧RepB g.β g.hw w k base j v y
structure Inv(P:Program)(B:Nat)(g:G)(σ:St)(a:Act)(w:World):Prop where
 size:a.tmps.size=σ.n
 defers:a.defers=[]
 tmp:∀t v,lk t σ.tmps=some v→t < σ.n∧RepA g w (a.tmps.getD t undef) v
 ptr:∀t b off,lk t σ.tmps=some (.ptr b off)→∃cs,lk b σ.boxes=some cs
 fnp:∀t f bs,lk t σ.tmps=some (.fnp f bs)→∀b∈bs,∃cs,lk b σ.boxes=some cs
 box:∀b cs,lk b σ.boxes=some cs→∃k base,g.β b=some (k,base)∧k < w.heap.size∧BoxOk g w k base cs∧(b∉σ.ro→g.hw k=0)∧(b < σ.n→B≤k)
 inj:∀b b' cs cs' k base base',lk b σ.boxes=some cs→lk b' σ.boxes=some cs'→g.β b=some (k,base)→g.β b'=some (k,base')→b=b'
 hwlt:∀k,w.heap.size≤k→g.hw k=0
 base:B≤w.heap.size
 glob:GlobIn B g.hw w
 own:∀l E,lkL l σ.own=some E→∃val,LocIs g a w l val∧OwnV P B g.hw w E val∧
  ∀k,val.ownBlock=some k→∀b cs base,lk b σ.boxes=some cs→g.β b≠some (k,base)
 ownt:∀l E,lkL l σ.own=some E→match l with | .t t=>t < σ.n | .b b _=>∃cs,lk b σ.boxes=some cs
 owninj:∀l l' E E' val val' k,lkL l σ.own=some E→lkL l' σ.own=some E'→LocIs g a w l val→LocIs g a w l' val'→val.ownBlock=some k→val'.ownBlock=some k→l=l'
 al:∀t l,(t,l)∈σ.al→LocIs g a w l (a.tmps.getD t undef)
 alt:∀t b c,(t,.b b c)∈σ.al→∃cs,lk b σ.boxes=some cs
 sl:∀t b off n s,lk t σ.tmps=some (.sl b off n s)→∃cs,lk b σ.boxes=some cs
 ref:∀b cs,lk b σ.boxes=some cs→∀y∈cs,∀b',YZ y=some b'→∃cs',lk b' σ.boxes=some cs'
structure Qt(h:Nat→Nat)(w:World)(h':Nat→Nat)(w':World):Prop where
 below:Below w.heap.size w w'
 hw:∀k,k < w.heap.size→h' k=h k
 hwlt:∀k,w'.heap.size≤k→h' k=0
theorem Qt.refl{h:Nat→Nat}{w:World}(hl:∀k,w.heap.size≤k→h k=0):Qt h w h w:=⟨Below.refl _ _,fun _ _=>rfl,hl⟩
theorem Qt.cell{h h':Nat→Nat}{w w':World}(q:Qt h w h' w')(k off:Nat)(hk:k < w.heap.size):w'.cell? ⟨k,off,none⟩=w.cell? ⟨k,off,none⟩:=
 q.below.cell (p:=⟨k,off,none⟩) hk
theorem Qt.frozen{h h':Nat→Nat}{w w':World}(q:Qt h w h' w')(k off:Nat)(hk:k < w.heap.size):w'.frozen? ⟨k,off,none⟩=w.frozen? ⟨k,off,none⟩:=
 q.below.frozen (p:=⟨k,off,none⟩) hk
theorem Qt.ext{h h':Nat→Nat}{w w':World}(hl:∀k,w.heap.size≤k→h k=0)(q:Qt h w h' w'):Ext h w h' w':=by
 refine ⟨fun k off hh=>?_,fun k=>?_⟩
 ·by_cases hk:k < w.heap.size
  ·exact q.cell k off hk
  ·rw[hl k (by omega)] at hh;omega
 ·by_cases hk:k < w.heap.size
  ·rw[q.hw k hk];exact Q2_ _
  ·rw[hl k (by omega)];omega
theorem Qt.trans{h1 h2 h3:Nat→Nat}{a b c:World}(p:Qt h1 a h2 b)(q:Qt h2 b h3 c):Qt h1 a h3 c:=
 ⟨p.below.trans (q.below.mono p.below.size),fun k hk=>(q.hw k (Kc_ hk p.below.size)).trans (p.hw k hk),q.hwlt⟩
theorem RepB.mono{β β':Nat→Option (Nat×Nat)}{hw hw':Nat→Nat}{w w':World}(hx:Ext hw w hw' w'){k base j:Nat}{v:Value}{y:PV}(hs:w'.shape? k=w.shape? k)(hβ:∀b,YZ y=some b→β' b=β b)(h:RepB β hw w k base j v y):RepB β' hw' w' k base j v y:=by
 cases h with
 | rep h=>exact .rep (h.mono hx)
 | bld u h0 h1 hv=>exact .bld u h0 (hs.trans h1) hv
 | bp b off h=>obtain ⟨k',base',h1,h2⟩:=h;exact .bp b off ⟨k',base',(hβ b rfl).trans h1,h2⟩
 | bs b off n s h=>obtain ⟨k',base',cap,h1,h2⟩:=h;exact .bs b off n s ⟨k',base',cap,(hβ b rfl).trans h1,h2⟩
theorem RepB.plain{β:Nat→Option (Nat×Nat)}{hw:Nat→Nat}{w:World}{k base j:Nat}{v:Value}{y:PV}(h:RepB β hw w k base j v y)(hn:ZaM y=false):Rep hw w v y:=by
 cases h with
 | rep h=>exact h
 | bld u h0 _ _=>exact absurd hn (by simp[ZaM])
 | bp _ _ _=>exact absurd hn (by simp[ZaM])
 | bs _ _ _ _ _=>exact absurd hn (by simp[ZaM])
theorem RepB.at{β:Nat→Option (Nat×Nat)}{hw:Nat→Nat}{w:World}{k base j base' j':Nat}{v:Value}{y:PV}(h:RepB β hw w k base j v y)(e:base+j=base'+j'):RepB β hw w k base' j' v y:=by
 cases h with
 | rep h=>exact .rep h
 | bld u h0 h1 hv=>exact .bld u (by omega) h1 hv
 | bp b off h=>exact .bp b off h
 | bs b off n s h=>exact .bs b off n s h
theorem ZhE{hw:Nat→Nat}{w:World}{v:Value}{y:PV}(h:Rep hw w v y):YZ y=none:=by cases h<;>rfl
theorem Zcj{w w':World}{k:Nat}(h:w'.heap[k]?=w.heap[k]?):w'.shape? k=w.shape? k:=by simp[World.shape?,h]
theorem WZ:∀{cs:List PV} (_:YD cs=true) {j:Nat} {y:PV} (_:cs[j]?=some y),ZaM y=false
 | [],_,j,y,hy=>by simp at hy
 | x::r,h,j,y,hy=>by
   cases j with
   | zero=>
     have:=Qa_ hy
     subst this
     cases x<;>first | rfl | exact absurd h (by simp[YD])
   | succ j=>
     refine WZ (cs:=r) ?_ (j:=j) (by simpa using hy)
     cases x<;>first | exact h | exact absurd h (by simp[YD])
theorem Jr:∀{cs:List PV} {y:PV} {b:Nat},y∈cs→YZ y=some b→b∈WK cs
 | [],_,_,h,_=>by simp at h
 | x::r,y,b,h,hb=>by
   rcases Q9_.1 h with e | h
   ·subst e
    cases y with
    | bp c off=>have:=Qa_ hb;subst this;exact Qv_ ..
    | bs c off n s=>have:=Qa_ hb;subst this;exact Qv_ ..
    | _=>exact absurd hb (by simp[YZ])
   ·have:=Jr h hb
    cases x<;>first | exact this | exact Qq_ _ this
theorem ZpI{y:PV}(h:ZaM y=false):YZ y=none:=by cases y<;>first | rfl | exact absurd h (by simp[ZaM])
theorem Zu5{cs:List PV}(h:YD cs=true){y:PV}(hy:y∈cs):YZ y=none:=by
 obtain ⟨j,hj,rfl⟩:=Km_ hy
 exact ZpI (WZ h (Qg_ hj))
theorem BoxOk.mono{g g':G}{w w':World}{k base:Nat}{cs:List PV}(hx:Ext g.hw w g'.hw w')(hc:∀off,w'.cell? ⟨k,off,none⟩=w.cell? ⟨k,off,none⟩)(hf:∀off,w'.frozen? ⟨k,off,none⟩=w.frozen? ⟨k,off,none⟩)
 (hs:w'.shape? k=w.shape? k) (hβ:∀y∈cs,∀b,YZ y=some b→g'.β b=g.β b) (h:BoxOk g w k base cs):BoxOk g' w' k base cs:=
 ⟨fun j y hy=>let ⟨v,h1,h2,h3,h4⟩:=h.cell j y hy;⟨v,(hc _).trans h1,h2,(hf _).trans h3,h4.mono hx hs (hβ y (Qz_ hy))⟩⟩
theorem BoxOk.plain{g:G}{w:World}{k base:Nat}{cs:List PV}(h:BoxOk g w k base cs)(hd:YD cs=true)(β':Nat→Option (Nat×Nat)):BoxOk ⟨β',g.hw⟩ w k base cs:=
 ⟨fun j y hy=>let ⟨v,h1,h2,h3,h4⟩:=h.cell j y hy;⟨v,h1,h2,h3,.rep (h4.plain (WZ hd hy))⟩⟩
theorem RepA.mono{g g':G}{w w':World}(hx:Ext g.hw w g'.hw w'){val:Value}{x:AV}(hb:∀b,(∀off,x≠ .ptr b off)∧(∀f bs,x= .fnp f bs→b∉bs)∨g'.β b=g.β b)(hs:∀b off n s,x= .sl b off n s→g'.β b=g.β b)(h:RepA g w val x):RepA g' w' val x:=by
 cases x with
 | p x=>exact Rep.mono hx h
 | ptr b off=>
   obtain ⟨k,base,h1,h2⟩:=h
   rcases hb b with ⟨hn,_⟩ | he
   ·exact absurd rfl (hn off)
   ·exact ⟨k,base,he.trans h1,h2⟩
 | fnp f bs=>
   obtain ⟨vs,h1,h2,h3⟩:=h
   refine ⟨vs,h1,h2,fun j v b hv hb'=>?_⟩
   obtain ⟨k,base,h4,h5⟩:=h3 j v b hv hb'
   rcases hb b with ⟨_,hn⟩ | he
   ·exact absurd (Qz_ hb') (hn f bs rfl)
   ·exact ⟨k,base,he.trans h4,h5⟩
 | sl b off n s=>
   obtain ⟨k,base,cap,h1,h2⟩:=h
   exact ⟨k,base,cap,(hs b off n s rfl).trans h1,h2⟩
theorem OwnV.mono{P:Program}{B:Nat}{hw hw':Nat→Nat}{w w':World}{E:TypeId}{val:Value}(hb:∀k,val.ownBlock=some k→w'.heap[k]?=w.heap[k]?∧hw' k=hw k)(h:OwnV P B hw w E val):OwnV P B hw' w' E val:=by
 obtain ⟨i,n,xs,hi,ho,hf⟩:=h
 refine ⟨i,n,xs,hi,⟨ho.1, ?_⟩,fun k hk=>(hb k hk).2.trans (hf k hk)⟩
 rcases ho.2 with h | ⟨gb,cap,cur,rfl,hg,hh,r⟩
 ·exact Or.inl h
 ·exact Or.inr ⟨gb,cap,cur,rfl,hg,by rw[(hb gb rfl).1];exact hh,r⟩
theorem Zs{α:Type}(k k':Nat)(x:α)(l:List (Nat×α)):lk k ((k',x)::l)=if k=k' then some x else lk k l:=by
 simp only[lk]
 by_cases h:k=k'
 ·subst h;simp
 ·have:Nat.beq k k'=false:=by
   cases hh:Nat.beq k k' with
   | true=>exact absurd (Qj_ hh) h
   | false=>rfl
  simp[this,h]
theorem Loc.eq_iff{a b:Loc}:a.eq b=true↔a=b:=by
 cases a<;>cases b<;>simp[Loc.eq]
theorem XJ{α:Type}(k k':Loc)(x:α)(l:List (Loc×α)):lkL k ((k',x)::l)=if k=k' then some x else lkL k l:=by
 simp only[lkL]
 by_cases h:k=k'
 ·subst h;simp[Loc.eq_iff.2 rfl]
 ·have:k.eq k'=false:=by
   cases hh:k.eq k' with
   | true=>exact absurd (Loc.eq_iff.1 hh) h
   | false=>rfl
  simp[this,h]
theorem ZO{α:Type}(p:Loc→Bool)(l:List (Loc×α))(k:Loc):lkL k (l.filter fun (x,_)=>p x)=if p k=true then lkL k l else none:=by
 induction l with
 | nil=>simp[lkL]
 | cons hd tl ih=>
   obtain ⟨k',x⟩:=hd
   by_cases hp:p k'=true
   ·rw[List.filter_cons_of_pos (by simpa using hp),XJ,XJ,ih]
    by_cases hk:k=k'
    ·subst hk;simp[hp]
    ·simp[hk]
   ·rw[List.filter_cons_of_neg (by simpa using hp),ih,XJ]
    by_cases hk:k=k'
    ·subst hk;simp[hp]
    ·simp[hk]
theorem ZtE{kd:Nat}{i:TypeInfo}{z:Value}{fs:List (Nat×Nat)}{e n:Nat}{ty:Ty}(h:ZdE kd i z fs e n=some ty):
 ty=⟨kd,i.size,i.bytes,z.cells.toList.map cv,fs,e,n⟩∧(∀x∈z.cells.toList,x.oneCell'=true)∧z.cells.size=i.size:=by
 unfold ZdE at h
 cases hb:(z.cells.toList.all Value.oneCell'&&Nat.beq z.cells.size i.size) with
 | false=>rw[hb] at h;cases h
 | true=>
   rw[hb] at h
   rw[Qh_] at hb
   exact ⟨(Qa_ h).symm,QK_.1 hb.1,Qj_ hb.2⟩
structure TyIs(P:Program)(T:TypeId)(ty:Ty):Prop where
 info:∃i z,P.info? T=some i∧i.zero=some z∧ty.size=i.size∧ty.bytes=i.bytes∧ty.zero=z.cells.toList.map cv∧(∀x∈z.cells.toList,x.oneCell'=true)∧z.cells.size=i.size
 under:(ty.kd=1∧∃fs,P.underlying T=some (.struct fs)∧ty.fields=fs.toList.map fun f=>(f.offset,f.type))∨
  (ty.kd=2∧P.underlying T=some (.array ty.len ty.elem))∨
  (ty.kd=3∧P.underlying T=some (.slice ty.elem))∨
  (ty.kd=4∧P.underlying T=some .string)∨
  (ty.kd=0∧∃d,P.underlying T=some d∧(match d with | .struct _ | .array _ _=>false | _=>true)=true)
theorem ZF{P:Program}{T:TypeId}{ty:Ty}(h:ZnH P T=some ty):TyIs P T ty:=by
 unfold ZnH at h
 cases hi:P.info? T with
 | none=>rw[hi] at h;cases h
 | some i=>
   rw[hi] at h
   simp only at h
   cases hz:i.zero with
   | none=>rw[hz] at h;cases h
   | some z=>
     rw[hz] at h
     simp only at h
     have mk:∀{kd fs e n},ZdE kd i z fs e n=some ty→(ty.kd=kd∧ty.fields=fs∧ty.elem=e∧ty.len=n)∧
      ∃i z,P.info? T=some i∧i.zero=some z∧ty.size=i.size∧ty.bytes=i.bytes∧ty.zero=z.cells.toList.map cv∧(∀x∈z.cells.toList,x.oneCell'=true)∧z.cells.size=i.size:=by
      intro kd fs e n hm
      obtain ⟨he,h1,h2⟩:=ZtE hm
      subst he
      exact ⟨⟨rfl,rfl,rfl,rfl⟩,i,z,hi,hz,rfl,rfl,rfl,h1,h2⟩
     cases hu:P.underlying T with
     | none=>rw[hu] at h;cases h
     | some d=>
       rw[hu] at h
       cases d with
       | struct fs=>obtain ⟨⟨h1,h2,h3,h4⟩,h5⟩:=mk h;exact ⟨h5,.inl ⟨h1,fs,hu,h2⟩⟩
       | array n e=>obtain ⟨⟨h1,h2,h3,h4⟩,h5⟩:=mk h;exact ⟨h5,.inr (.inl ⟨h1,by rw[h3,h4];exact hu⟩)⟩
       | slice e=>obtain ⟨⟨h1,h2,h3,h4⟩,h5⟩:=mk h;exact ⟨h5,.inr (.inr (.inl ⟨h1,by rw[h3];exact hu⟩))⟩
       | string=>obtain ⟨⟨h1,h2,h3,h4⟩,h5⟩:=mk h;exact ⟨h5,.inr (.inr (.inr (.inl ⟨h1,hu⟩)))⟩
       | _=>obtain ⟨⟨h1,h2,h3,h4⟩,h5⟩:=mk h;exact ⟨h5,.inr (.inr (.inr (.inr ⟨h1,_,hu,rfl⟩)))⟩
theorem ZP{P:Program}{T:TypeId}{ty:Ty}(h:TyIs P T ty)(w:World):(sizeOf T).run P w= .ok ty.size w:=by
 obtain ⟨i,z,hi,_,hs,_⟩:=h.info
 simp[sizeOf,typeInfo,hi,hs]
theorem ZdG{ty:Ty}{n:Nat}(h:ty.kd=n):ty.agg=(Nat.beq n 1||Nat.beq n 2):=by unfold Ty.agg;rw[h]
theorem Zam{P:Program}{T:TypeId}{ty:Ty}(h:TyIs P T ty)(w:World):(isAgg T).run P w= .ok ty.agg w:=by
 unfold isAgg
 rcases h.under with ⟨hk,fs,hu,_⟩ | ⟨hk,hu⟩ | ⟨hk,hu⟩ | ⟨hk,hu⟩ | ⟨hk,d,hu,hd⟩
 ·rw[Sem.run_bind,run_underlying hu w,ZdG hk];rfl
 ·rw[Sem.run_bind,run_underlying hu w,ZdG hk];rfl
 ·rw[Sem.run_bind,run_underlying hu w,ZdG hk];rfl
 ·rw[Sem.run_bind,run_underlying hu w,ZdG hk];rfl
 ·rw[Sem.run_bind,run_underlying hu w,ZdG hk]
  cases d<;>first | (simp at hd;done) | rfl
theorem X8{P:Program}{T:TypeId}{ty:Ty}(h:TyIs P T ty)(w:World):
 ∃z:Value,(zeroValue T).run P w= .ok z w∧ty.zero=z.cells.toList.map cv∧(∀x∈z.cells.toList,x.oneCell'=true)∧z.cells.size=ty.size:=by
 obtain ⟨i,z,hi,hz,hs,_,h1,h2,h3⟩:=h.info
 exact ⟨z,by simp[zeroValue,typeInfo,hi,hz],h1,h2,by rw[hs,h3]⟩
theorem Zgb(hw:Nat→Nat)(w:World)(v:Value)(h:v.oneCell'=true):Rep hw w v (cv v):=by
 unfold cv
 split
 ·rename_i b
  have:b=⟨b.data.toList.toArray⟩:=by simp
  have hr:=Rep.str (hw:=hw) (w:=w) b.data.toList
  rw[←this] at hr
  exact hr
 ·exact .nil
 ·exact .v _ h
theorem ZtF{hw:Nat→Nat}{w:World}{v:Value}{x:PV}(h:cvO v=some x):Rep hw w v x:=by
 unfold cvO at h
 split at h
 ·rename_i cs
  cases hb:cs.toList.all Value.oneCell' with
  | false=>rw[hb] at h;cases h
  | true=>
    rw[hb] at h
    have h1:=QK_.1 hb
    have:=Qa_ h
    subst this
    have e:(Value.agg cs)= .agg cs.toList.toArray:=by simp
    rw[e]
    refine .agg cs.toList _ (by simp) (fun j x y hx hy=>?_) h1
    rw[Q6_,hx] at hy
    simp at hy
    subst hy
    exact Zgb hw w x (h1 x (Qz_ hx))
 ·cases h
 ·rename_i h1 h2
  have:=Qa_ h
  subst this
  refine Zgb hw w v ?_
  cases v<;>first | rfl | exact absurd rfl (h1 _) | exact absurd rfl (h2 _)
theorem ZD{P:Program}{B:Nat}{g:G}{σ:St}{a:Act}{w:World}(hI:Inv P B g σ a w){x:Operand}{av:AV}(h:opd σ x=some av):RepA g w (a.eval x) av:=by
 cases x with
 | tmp t=>exact (hI.tmp t av h).2
 | const v=>
   simp only[opd] at h
   cases hc:cvO v with
   | none=>rw[hc] at h;cases h
   | some y=>
     rw[hc] at h
     have:=Qa_ h
     subst this
     exact ZtF hc
 | global y=>
   simp only[opd] at h
   split at h
   ·rename_i cs hcs
    have:=Qa_ h
    subst this
    exact (hI.glob.1 y cs hcs).1
   ·cases h
 | func f=>
   have:=Qa_ h
   subst this
   show Rep g.hw w (.func (.func f) #[] #[]) (.fn f [])
   exact .fn f [] [] rfl (fun j x y hx=>by simp at hx)
theorem ZjS{σ:St}{x:Operand}{v:PV}(h:Zw σ x=some v):opd σ x=some (.p v):=by
 unfold Zw at h
 split at h
 ·rename_i y hy;have:=Qa_ h;subst this;exact hy
 ·cases h
theorem Zt{P:Program}{B:Nat}{g:G}{σ:St}{a:Act}{w:World}(hI:Inv P B g σ a w){x:Operand}{v:PV}(h:Zw σ x=some v):Rep g.hw w (a.eval x) v:=
 ZD hI (ZjS h)
def Zcy(hw:Nat→Nat)(w:World)(k base:Nat)(cs:List PV):Prop:=
 ∀(j:Nat) (y:PV),cs[j]?=some y→∃v,w.cell? ⟨k,base+j,none⟩=some v∧v.oneCell'=true∧(ZaM y=false→Rep hw w v y)
theorem ZhF{o:Option PV}{x:PV}(h:rd1 o=some x):o=some x∧ZaM x=false:=by
 unfold rd1 at h
 split at h
 ·cases h
 ·cases h
 ·cases h
 ·rename_i h1 h2 h3
  subst h
  refine ⟨rfl, ?_⟩
  cases x<;>first | rfl | exact absurd rfl (h1 _) | exact absurd rfl (h2 _ _) | exact absurd rfl (h3 _ _ _ _)
theorem ZjT{P:Program}{T:TypeId}{ty:Ty}(hT:TyIs P T ty){hw:Nat→Nat}{w:World}{k base:Nat}{cs:List PV}(hc:Zcy hw w k base cs){off:Nat}{x:PV}(h:rd ty cs off=some x):
 ∃v,(loadVar T ⟨k,base+off,none⟩).run P w= .ok v w∧Rep hw w v x:=by
 unfold rd at h
 cases hb:Nat.ble (off+ty.size) cs.length with
 | false=>rw[hb] at h;cases h
 | true=>
   rw[hb] at h
   have hle:=Qm_ hb
   simp only[Qb_] at h
   cases ha:ty.agg with
   | true=>
     rw[ha] at h
     simp only[Qb_] at h
     cases hd:YD ((cs.drop off).take ty.size) with
     | false=>rw[hd] at h;cases h
     | true=>
     rw[hd] at h
     have:=Qa_ h
     subst this
     have hcell:∀j,j < ty.size→∃v,w.cell? ⟨k,base+off+j,none⟩=some v∧v.oneCell'=true∧∀y,cs[off+j]?=some y→Rep hw w v y:=by
      intro j hj
      have hlt:off+j < cs.length:=by omega
      obtain ⟨v,h1,h2,h3⟩:=hc (off+j) cs[off+j] (Qg_ hlt)
      refine ⟨v,by rw[Kr_];exact h1,h2,fun y hy=>?_⟩
      rw[Qg_ hlt] at hy
      have:=Qa_ hy
      subst this
      refine h3 (WZ hd (j:=j) ?_)
      rw[Ki_ hj,Kd_]
      exact Qg_ hlt
     let f:Nat→Value:=fun j=>(w.cell? ⟨k,base+off+j,none⟩).getD undef
     have hf:∀j,j < ty.size→w.cell? ((⟨k,base+off,none⟩:Addr).add j)=some (f j):=by
      intro j hj
      obtain ⟨v,h1,_⟩:=hcell j hj
      rw[Addr.add_lit]
      simp only[f,h1,Kq_]
     refine ⟨.agg ((List.range ty.size).map f).toArray, ?_, ?_⟩
     ·unfold loadVar
      rw[Sem.run_bind,Zam hT w,Result.andThen_ok,ha]
      simp only[Ku_]
      rw[Sem.run_bind,ZP hT w,Result.andThen_ok,Sem.run_bind,run_loadCells w _ ty.size f hf,Result.andThen_ok]
      rfl
     ·refine .agg _ _ (by simp;omega) (fun j u y hu hy=>?_) (fun u hu=>?_)
      ·rw[Q6_] at hu
       by_cases hj:j < ty.size
       ·rw[Kz_ hj] at hu
        simp at hu
        subst hu
        rw[Ki_ hj,Kd_] at hy
        obtain ⟨v,h1,_,h3⟩:=hcell j hj
        simp only[f,h1,Kq_]
        exact h3 y hy
       ·rw[Ke_ (by simp;omega)] at hu
        cases hu
      ·rw[Ks_] at hu
       obtain ⟨j,hj,rfl⟩:=hu
       obtain ⟨v,h1,h2,_⟩:=hcell j (List.mem_range.1 hj)
       simp only[f,h1,Kq_]
       exact h2
   | false=>
     rw[ha] at h
     simp only[Qd_] at h
     cases hb1:Nat.beq ty.size 1 with
     | false=>rw[hb1] at h;cases h
     | true=>
       rw[hb1] at h
       simp only[Qb_] at h
       obtain ⟨h,hx⟩:=ZhF h
       obtain ⟨v,h1,_,h3⟩:=hc off x h
       refine ⟨v, ?_,h3 hx⟩
       unfold loadVar
       rw[Sem.run_bind,Zam hT w,Result.andThen_ok,ha]
       simp[h1]
theorem BoxOk.cells{g:G}{w:World}{k base:Nat}{cs:List PV}(h:BoxOk g w k base cs):Zcy g.hw w k base cs:=
 fun j y hy=>let ⟨v,h1,h2,_,h4⟩:=h.cell j y hy;⟨v,h1,h2,h4.plain⟩
theorem ZcI{hw:Nat→Nat}{w:World}{val:Value}{cs:List PV}{off:Nat}(h:Rep hw w val (.lptr cs off)):∃k base,val= .pointer (some ⟨k,base+off,none⟩)∧Zcy hw w k base cs:=by
 cases h with
 | lptr cs blk base off c hc hr h1 hh=>
   refine ⟨blk,base,rfl,fun j y hy=>?_⟩
   have hj:j < cs.length:=(Qo_.1 hy).1
   exact ⟨c j,hc j hj,h1 j hj,fun _=>hr j y hy⟩
theorem Zgc{P:Program}{Γ:List (Nat×Ty)}(hΓ:ZW P Γ){B:Nat}{g:G}{σ:St}{a:Act}{w:World}(hI:Inv P B g σ a w){T:TypeId}{av:AV}{x:PV}{val:Value}
 (h:Zcx Γ σ.boxes T av=some x) (hv:RepA g w val av):∃v,(Instr.loadAt T val).run P w= .ok v w∧Rep g.hw w v x:=by
 unfold Zcx at h
 split at h
 ·rename_i b off
  split at h
  ·rename_i ty cs hty hcs
   obtain ⟨k,base,hb,rfl⟩:=hv
   obtain ⟨k',base',hb',_,hok,_⟩:=hI.box b cs hcs
   rw[hb] at hb'
   have:=Qa_ hb'
   cases this
   obtain ⟨v,h1,h2⟩:=ZjT (ZF (hΓ T ty hty)) hok.cells h
   exact ⟨v,by simp[Instr.loadAt,Instr.sureAddr,h1],h2⟩
  ·cases h
 ·rename_i cs off
  split at h
  ·rename_i ty hty
   obtain ⟨k,base,rfl,hc⟩:=ZcI hv
   obtain ⟨v,h1,h2⟩:=ZjT (ZF (hΓ T ty hty)) hc h
   exact ⟨v,by simp[Instr.loadAt,Instr.sureAddr,h1],h2⟩
  ·cases h
 ·cases h
theorem Zgd{P:Program}{T:TypeId}{ty:Ty}(hT:TyIs P T ty){hw:Nat→Nat}{w:World}{vs:List Value}{cs:List PV}(hl:vs.length=cs.length)
 (hr:∀(j:Nat) (x:Value) (y:PV),vs[j]?=some x→cs[j]?=some y→Rep hw w x y) (h1:∀x∈vs,x.oneCell'=true) {off:Nat} {x:PV} (h:rd ty cs off=some x):
 ∃v,(part T vs.toArray off).run P w= .ok v w∧Rep hw w v x:=by
 unfold rd at h
 cases hb:Nat.ble (off+ty.size) cs.length with
 | false=>rw[hb] at h;cases h
 | true=>
   rw[hb] at h
   have hle:=Qm_ hb
   simp only[Qb_] at h
   unfold part
   rw[Sem.run_bind,Zam hT w,Result.andThen_ok]
   cases ha:ty.agg with
   | true=>
     rw[ha] at h
     simp only[Qb_] at h
     cases hd:YD ((cs.drop off).take ty.size) with
     | false=>rw[hd] at h;cases h
     | true=>
     rw[hd] at h
     have:=Qa_ h
     subst this
     simp only[Ku_]
     rw[Sem.run_bind,ZP hT w,Result.andThen_ok]
     refine ⟨.agg ((vs.drop off).take ty.size).toArray, ?_,.agg _ _ (by simp;omega) (fun j u y hu hy=>?_) (fun u hu=>h1 u (List.mem_of_mem_drop (List.mem_of_mem_take hu)))⟩
     ·have e:vs.toArray.extract off (off+ty.size)=((vs.drop off).take ty.size).toArray:=by
       apply QW_
       simp[Nat.add_sub_cancel_left]
      rw[e]
      rfl
     ·by_cases hj:j < ty.size
      ·rw[Ki_ hj,Kd_] at hu hy
       exact hr _ _ _ hu hy
      ·rw[Ke_ (by simp;omega)] at hu
       cases hu
   | false=>
     rw[ha] at h
     simp only[Qd_] at h
     cases hb1:Nat.beq ty.size 1 with
     | false=>rw[hb1] at h;cases h
     | true=>
       rw[hb1] at h
       simp only[Qb_] at h
       obtain ⟨h,_⟩:=ZhF h
       have hlt:off < vs.length:=by have:=(Qo_.1 h).1;omega
       refine ⟨vs[off], ?_,hr off _ x (Qg_ hlt) h⟩
       simp[hlt]
structure CellsRep(hw:Nat→Nat)(w:World)(vs:List Value)(cs:List PV):Prop where
 len:vs.length=cs.length
 rep:∀(j:Nat) (x:Value) (y:PV),vs[j]?=some x→cs[j]?=some y→Rep hw w x y
 one:∀x∈vs,x.oneCell'=true
theorem Rep.cellsRep{hw:Nat→Nat}{w:World}{v:Value}{x:PV}(h:Rep hw w v x)(hx:x.cells≠[]):CellsRep hw w v.cells.toList x.cells:=by
 have one:∀(v:Value) (x:PV),Rep hw w v x→v.oneCell'=true→CellsRep hw w [v] [x]:=fun v x h h1=>
  ⟨rfl,fun j a b ha hb=>by
    cases j with
    | zero=>simp at ha hb;subst ha;subst hb;exact h
    | succ j=>simp at ha,fun a ha=>by simp at ha;subst ha;exact h1⟩
 cases h with
 | v _ h1=>
   have:v.cells=#[v]:=by cases v<;>first | rfl | (simp[Value.oneCell'] at h1)
   simp only[PV.cells,this]
   exact one _ _ (.v v h1) h1
 | str l=>exact one _ _ (.str l) rfl
 | nil=>exact one _ _ .nil rfl
 | lnil=>exact one _ _ .lnil rfl
 | lst xs blk off cap s c hcap hlen hc hr h1 hh=>exact one _ _ (.lst xs blk off cap s c hcap hlen hc hr h1 hh) rfl
 | lptr cs blk base off c hc hr h1 hh=>exact one _ _ (.lptr cs blk base off c hc hr h1 hh) rfl
 | agg vs cs hl hr h1=>exact ⟨by simpa [Value.cells,PV.cells] using hl,by simpa [Value.cells,PV.cells] using hr,by simpa [Value.cells] using h1⟩
 | tup vs cs hl hr=>simp[PV.cells] at hx
 | fn f vs cs hl hr=>exact one _ _ (.fn f vs cs hl hr) rfl
theorem CellsRep.mono{hw hw':Nat→Nat}{w w':World}(x:Ext hw w hw' w'){vs:List Value}{cs:List PV}(h:CellsRep hw w vs cs):CellsRep hw' w' vs cs:=
 ⟨h.len,fun j a b ha hb=>(h.rep j a b ha hb).mono x,h.one⟩
theorem CellsRep.zero{hw:Nat→Nat}{w:World}{vs:List Value}(h:∀x∈vs,x.oneCell'=true):CellsRep hw w vs (vs.map cv):=
 ⟨by simp,fun j x y hx hy=>by
   rw[Q6_,hx] at hy
   simp at hy
   subst hy
   exact Zgb hw w x (h x (Qz_ hx)),h⟩
theorem CellsRep.append{hw:Nat→Nat}{w:World}{vs vs':List Value}{cs cs':List PV}(h:CellsRep hw w vs cs)(h':CellsRep hw w vs' cs'):CellsRep hw w (vs++vs') (cs++cs'):=
 ⟨by simp[h.len,h'.len],fun j x y hx hy=>by
   rw[Ky_] at hx hy
   rw[h.len] at hx
   split at hx
   ·rename_i hj;rw[if_pos hj] at hy;exact h.rep j x y hx hy
   ·rename_i hj;rw[if_neg hj] at hy;exact h'.rep _ x y hx hy,fun x hx=>by
   rcases Kt_.1 hx with hx | hx
   ·exact h.one x hx
   ·exact h'.one x hx⟩
theorem CellsRep.take{hw:Nat→Nat}{w:World}{vs:List Value}{cs:List PV}(h:CellsRep hw w vs cs)(n:Nat):CellsRep hw w (vs.take n) (cs.take n):=
 ⟨by simp[h.len],fun j x y hx hy=>by
   rw[Kk_] at hx hy
   split at hx
   ·rename_i hj;rw[if_pos hj] at hy;exact h.rep j x y hx hy
   ·exact absurd hx (by simp),fun x hx=>h.one x (List.mem_of_mem_take hx)⟩
theorem CellsRep.drop{hw:Nat→Nat}{w:World}{vs:List Value}{cs:List PV}(h:CellsRep hw w vs cs)(n:Nat):CellsRep hw w (vs.drop n) (cs.drop n):=
 ⟨by simp[h.len],fun j x y hx hy=>by
   rw[Kd_] at hx hy
   exact h.rep _ x y hx hy,fun x hx=>h.one x (List.mem_of_mem_drop hx)⟩
theorem CellsRep.agg{hw:Nat→Nat}{w:World}{vs:List Value}{cs:List PV}(h:CellsRep hw w vs cs):Rep hw w (.agg vs.toArray) (.agg cs):= .agg vs cs h.len h.rep h.one
theorem Wl{hw:Nat→Nat}{w:World}{v:Value}{cs:List PV}(h:Rep hw w v (.agg cs)):∃vs,v= .agg vs.toArray∧CellsRep hw w vs cs:=by
 cases h with
 | agg vs cs hl hr h1=>exact ⟨vs,rfl,hl,hr,h1⟩
theorem Ziq(off:Nat):∀(xs:List Value) (k:Nat) (arr:Array Value),off+k+xs.length≤arr.size→
 ((xs.zipIdx k).foldl (fun cs (x:Value×Nat)=>cs.setIfInBounds (off+x.2) x.1) arr).toList=arr.toList.take (off+k)++xs++arr.toList.drop (off+k+xs.length)
 | [],k,arr,_=>by simp
 | v::r,k,arr,h=>by
   have ih:=Ziq off r (k+1) (arr.setIfInBounds (off+k) v) (by simp at h ⊢;omega)
   simp only[List.zipIdx_cons,List.foldl_cons,ih,Array.toList_setIfInBounds]
   have e:=list_seg_step arr.toList (off+k) v r (by simp at h ⊢;omega)
   simp only[Qs_]
   rw[←e]
   rfl
theorem Js{hw:Nat→Nat}{w:World}{pl pl':Nat→Option (Nat×Nat)}(hpl:∀i x,pl' i=some x→pl i=some x):
 ∀(ps:List (Nat×PV)) (vs:List (Nat×Value)) (cells:List Value) (cs:List PV) (r:List PV),CellsRep hw w cells cs→
  vs.length=ps.length→(∀(j:Nat) (v:Nat×Value) (p:Nat×PV),vs[j]?=some v→ps[j]?=some p→v.1=p.1∧Rep hw w v.2 p.2)→
  ZeL pl' cs ps=some r→∃out:List Value,Instr.fill pl cells.toArray vs=some out.toArray∧CellsRep hw w out r∧out.length=cells.length
 | [],[],cells,cs,r,hc,_,_,h=>by
   have:=Qa_ h
   subst this
   exact ⟨cells,rfl,hc,rfl⟩
 | (i,x)::ps,(i',v)::vs,cells,cs,r,hc,hl,hr,h=>by
   obtain ⟨hi,hv⟩:=hr 0 (i',v) (i,x) rfl rfl
   simp only at hi hv
   subst hi
   unfold ZeL at h
   cases hp:pl' i' with
   | none=>rw[hp] at h;cases h
   | some q=>
     obtain ⟨off,size⟩:=q
     rw[hp] at h
     simp only at h
     cases hb:(Nat.beq x.cells.length size&&Nat.ble (off+size) cs.length&& !(Nat.beq size 0)) with
     | false=>rw[hb] at h;cases h
     | true=>
       rw[hb] at h
       simp only[Qb_] at h
       simp only[Qh_,Qi_] at hb
       obtain ⟨⟨hb1,hb2⟩,hb3⟩:=hb
       have e1:=Qj_ hb1
       have e2:=Qm_ hb2
       have e3:size≠0:=fun h0=>by rw[h0] at hb3;exact absurd hb3 (by decide)
       have hvc:=hv.cellsRep (by intro h0;rw[h0] at e1;exact e3 e1.symm)
       have hsz:v.cells.size=size:=by have:=hvc.len;rw[e1] at this;simpa using this
       have hlen:cells.length=cs.length:=hc.len
       have hfold:(Array.foldl (fun cs (x:Value×Nat)=>cs.setIfInBounds (off+x.2) x.1) cells.toArray v.cells.zipIdx)=
        (cells.take off++v.cells.toList++cells.drop (off+v.cells.toList.length)).toArray:=by
        apply QW_
        rw[←Array.foldl_toList]
        have:=Ziq off v.cells.toList 0 cells.toArray (by simp;omega)
        simpa using this
       have hnew:CellsRep hw w (cells.take off++v.cells.toList++cells.drop (off+v.cells.toList.length)) (lay cs off x.cells):=by
        unfold lay
        rw[QB_]
        refine (hc.take off).append (hvc.append ?_)
        rw[hvc.len]
        exact hc.drop _
       have hnl:(cells.take off++v.cells.toList++cells.drop (off+v.cells.toList.length)).length=cells.length:=by
        simp
        omega
       obtain ⟨out,h1,h2,h3⟩:=Js hpl ps vs _ _ r hnew (by simpa using hl) (fun j a b ha hb=>hr (j+1) a b ha hb) h
       refine ⟨out, ?_,h2,by rw[h3,hnl]⟩
       unfold Instr.fill
       rw[hpl _ _ hp]
       simp only[hsz]
       have:¬(off+size > cells.toArray.size):=by simp;omega
       simp only[ne_eq,not_true_eq_false,Q8_,Qw_,this]
       rw[hfold]
       exact h1
 | [],_::_,_,_,_,_,hl,_,_=>by simp at hl
 | _::_,[],_,_,_,_,hl,_,_=>by simp at hl
structure ArgsRep(hw:Nat→Nat)(w:World)(vs:List Value)(cs:List PV):Prop where
 len:vs.length=cs.length
 rep:∀(j:Nat) (x:Value) (y:PV),vs[j]?=some x→cs[j]?=some y→Rep hw w x y
def CallRes(P:Program)(f:FuncId)(vals:Array Value)(w:World)(K:Value→World→Prop):Prop:=
 (∃v w',(callFunc f vals).run P w= .ok (.value v) w'∧K v w')∨
 (∃f',(callFunc f vals).run P w= .ok (.enter f' vals) w∧Calls P f' vals w fun e w'=>∃v,e= .returned v∧K v w')
theorem CallRes.mono{P:Program}{f:FuncId}{vals:Array Value}{w:World}{K K':Value→World→Prop}(h:CallRes P f vals w K)(hk:∀v w',K v w'→K' v w'):CallRes P f vals w K':=by
 rcases h with ⟨v,w',h1,h2⟩ | ⟨f',h1,h2⟩
 ·exact .inl ⟨v,w',h1,hk _ _ h2⟩
 ·exact .inr ⟨f',h1,h2.mono fun e w' ⟨v,he,hv⟩=>⟨v,he,hk _ _ hv⟩⟩
def Con(P:Program)(f:FuncId)(args:List PV)(r:PV):Prop:=
 ∀(hw:Nat→Nat) (w:World) (vals:List Value),(∀k,w.heap.size≤k→hw k=0)→GlobOk hw w→ArgsRep hw w vals args→
  CallRes P f vals.toArray w fun v w'=>∃hw',Qt hw w hw' w'∧Rep hw' w' v r
def ZjU(P:Program)(f:FuncId)(cs:List PV)(args:List PV)(r:PV)(cs':List PV):Prop:=
 ∀(g:G) (w:World) (k base:Nat) (vals:List Value),(∀k,w.heap.size≤k→g.hw k=0)→GlobOk g.hw w→ArgsRep g.hw w vals args→k < w.heap.size→BoxOk g w k base cs→g.hw k=0→
  CallRes P f (.pointer (some ⟨k,base,none⟩)::vals).toArray w fun v w'=>∃hw',
   w'.os=w.os∧w'.tape=w.tape∧w'.output=w.output∧w.heap.size≤w'.heap.size∧
   (∀j,j < w.heap.size→j≠k→w'.heap[j]?=w.heap[j]?)∧
   (∀off,¬(base≤off∧off < base+cs.length)→w'.cell? ⟨k,off,none⟩=w.cell? ⟨k,off,none⟩)∧
   (∀off,w'.frozen? ⟨k,off,none⟩=w.frozen? ⟨k,off,none⟩)∧
   (∀j,j < w.heap.size→hw' j=g.hw j)∧(∀j,w'.heap.size≤j→hw' j=0)∧
   BoxOk ⟨g.β,hw'⟩ w' k base cs'∧cs'.length=cs.length∧Rep hw' w' v r
def OpRes(P:Program)(o:Oper)(a:Act)(w:World)(K:Value→World→Prop):Prop:=
 (∃v w',(execOp a.eval o).run P w= .ok (.value v) w'∧K v w')∨
 (∃v w',v=undef∧(execOp a.eval o).run P w= .ok .skip w'∧K v w')∨
 (∃f args w',(execOp a.eval o).run P w= .ok (.enter f args) w'∧Calls P f args w' fun e w''=>∃v,e= .returned v∧K v w'')
theorem OpRes.wp{P:Program}{o:Oper}{a:Act}{w:World}{K:Value→World→Prop}(h:OpRes P o a w K){next:Act→World→Prop}{Q:Exit→Act→World→Prop}
 (hn:∀v w',K v w'→next (a.put o.dst v) w'):o.wp P a w next Q:=by
 unfold Oper.wp
 rcases h with ⟨v,w',h1,h2⟩ | ⟨v,w',rfl,h1,h2⟩ | ⟨f,args,w',h1,h2⟩
 ·rw[h1,Oper.upon_value];exact hn _ _ h2
 ·rw[h1,Oper.upon_skip];exact hn _ _ h2
 ·rw[h1,Oper.upon_enter]
  refine h2.mono fun e w'' ⟨v,he,hv⟩=>?_
  subst he
  exact hn _ _ hv
theorem OpRes.mono{P:Program}{o:Oper}{a:Act}{w:World}{K K':Value→World→Prop}(h:OpRes P o a w K)(hk:∀v w',K v w'→K' v w'):OpRes P o a w K':=by
 rcases h with ⟨v,w',h1,h2⟩ | ⟨v,w',h0,h1,h2⟩ | ⟨f,args,w',h1,h2⟩
 ·exact .inl ⟨v,w',h1,hk _ _ h2⟩
 ·exact .inr (.inl ⟨v,w',h0,h1,hk _ _ h2⟩)
 ·exact .inr (.inr ⟨f,args,w',h1,h2.mono fun e w'' ⟨v,he,hv⟩=>⟨v,he,hk _ _ hv⟩⟩)
def ZhG:Ex→Exit→Prop
 | .normal,.normal=>True
 | .exit i,.exit j=>i=j
 | .goto i,.goto j=>i=j
 | .ret,.ret=>True
 | _,_=>False
def Lent(g:G)(σ:St)(k off:Nat):Prop:=
 ∃b cs base,σ.n≤b∧lk b σ.boxes=some cs∧g.β b=some (k,base)∧base≤off∧off < base+cs.length
def Zac(g:G)(σ:St)(k:Nat):Prop:=∃b cs base,σ.n≤b∧lk b σ.boxes=some cs∧g.β b=some (k,base)
structure Fr(B:Nat)(g:G)(σ:St)(w:World)(g':G)(σ':St)(w':World):Prop where
 os:w'.os=w.os
 tape:w'.tape=w.tape
 output:w'.output=w.output
 size:w.heap.size≤w'.heap.size
 n:σ'.n=σ.n
 block:∀k,k < B→¬Zac g σ k→w'.heap[k]?=w.heap[k]?
 cell:∀k off,k < B→¬Lent g σ k off→w'.cell? ⟨k,off,none⟩=w.cell? ⟨k,off,none⟩
 frozen:∀k off,k < B→w'.frozen? ⟨k,off,none⟩=w.frozen? ⟨k,off,none⟩
 hw:∀k,k < B→¬Zac g σ k→g'.hw k=g.hw k
 par:∀b cs',σ.n≤b→lk b σ'.boxes=some cs'→∃cs,lk b σ.boxes=some cs∧cs.length=cs'.length∧g'.β b=g.β b
 ext:Ext g.hw w g'.hw w'
theorem Fr.refl{B:Nat}{g:G}{σ:St}{w:World}:Fr B g σ w g σ w:=
 ⟨rfl,rfl,rfl,Q2_ _,rfl,fun _ _ _=>rfl,fun _ _ _ _=>rfl,fun _ _ _=>rfl,fun _ _ _=>rfl,fun _ cs' _ h=>⟨cs',h,rfl,rfl⟩,Ext.refl _ _⟩
theorem Fr.lent{B:Nat}{g g':G}{σ σ':St}{w w':World}(h:Fr B g σ w g' σ' w'){k off:Nat}(hl:Lent g' σ' k off):Lent g σ k off:=by
 obtain ⟨b,cs,base,hn,hb,hk,h1,h2⟩:=hl
 rw[h.n] at hn
 obtain ⟨cs0,e1,e2,e3⟩:=h.par b cs hn hb
 exact ⟨b,cs0,base,hn,e1,by rw[←e3];exact hk,h1,by omega⟩
theorem Fr.lentB{B:Nat}{g g':G}{σ σ':St}{w w':World}(h:Fr B g σ w g' σ' w'){k:Nat}(hl:Zac g' σ' k):Zac g σ k:=by
 obtain ⟨b,cs,base,hn,hb,hk⟩:=hl
 rw[h.n] at hn
 obtain ⟨cs0,e1,e2,e3⟩:=h.par b cs hn hb
 exact ⟨b,cs0,base,hn,e1,by rw[←e3];exact hk⟩
theorem Fr.trans{B:Nat}{g1 g2 g3:G}{σ1 σ2 σ3:St}{w1 w2 w3:World}(h:Fr B g1 σ1 w1 g2 σ2 w2)(h':Fr B g2 σ2 w2 g3 σ3 w3):Fr B g1 σ1 w1 g3 σ3 w3:=
 ⟨h'.os.trans h.os,h'.tape.trans h.tape,h'.output.trans h.output,QT_ h.size h'.size,h'.n.trans h.n,
  fun k hk hn=>(h'.block k hk (fun hl=>hn (h.lentB hl))).trans (h.block k hk hn),
  fun k off hk hn=>(h'.cell k off hk (fun hl=>hn (h.lent hl))).trans (h.cell k off hk hn),
  fun k off hk=>(h'.frozen k off hk).trans (h.frozen k off hk),
  fun k hk hn=>(h'.hw k hk (fun hl=>hn (h.lentB hl))).trans (h.hw k hk hn),
  fun b cs hn hb=>by
   obtain ⟨cs2,e1,e2,e3⟩:=h'.par b cs (by rw[h.n];exact hn) hb
   obtain ⟨cs1,f1,f2,f3⟩:=h.par b cs2 hn e1
   exact ⟨cs1,f1,f2.trans e2,e3.trans f3⟩,h.ext.trans h'.ext⟩
theorem Fr.of_qt{B:Nat}{g g':G}{σ σ':St}{w w':World}(hl:∀k,w.heap.size≤k→g.hw k=0)(hB:B≤w.heap.size)(q:Qt g.hw w g'.hw w')(hn:σ'.n=σ.n)
 (hp:∀b cs',σ.n≤b→lk b σ'.boxes=some cs'→∃cs,lk b σ.boxes=some cs∧cs.length=cs'.length∧g'.β b=g.β b):Fr B g σ w g' σ' w':=
 ⟨q.below.os,q.below.tape,q.below.output,q.below.size,hn,fun k hk _=>q.below.block k (by omega),fun k off hk _=>q.cell k off (by omega),fun k off hk=>q.frozen k off (by omega),
  fun k hk _=>q.hw k (by omega),hp,q.ext hl⟩
def Tri(P:Program)(c:Code)(σ:St)(e:Ex)(σ':St):Prop:=
 ∀B g a w,Inv P B g σ a w→c.wp P (fun ex a' w'=>ZhG e ex∧∃g',Inv P B g' σ' a' w'∧Fr B g σ w g' σ' w') a w
def Obl.holds(P:Program):Obl→Prop
 | .call f args r=>Con P f args r
 | .callp f cs args r cs'=>ZjU P f cs args r cs'
 | .rb _ b v=>b=v
 | .re _ a b=>a=b
 | .idx xs i x=>0≤i∧xs[i.toNat]?=some x
 | .pr p=>p
 | .bin op T x y r=>∀hw w vx vy ox oy,Rep hw w vx x→Rep hw w vy y→∃v,(do eqGuard op T ox oy vx vy;binOp op T vx vy:Sem Value).run P w= .ok v w∧Rep hw w v r
 | .cvt S T x r=>∀hw w vx,Rep hw w vx x→∃v,(convert S T vx).run P w= .ok v w∧Rep hw w v r
 | .un op x r=>∀hw w vx,Rep hw w vx x→∃v,(Op.unary op vx).run P w= .ok v w∧Rep hw w v r
 | .blt b ats T args r=>∀hw w vals cs,ArgsRep hw w vals args→∃v,(builtin b ats T cs vals.toArray).run P w= .ok (.value v) w∧Rep hw w v r
 | .tri _ c σ e σ'=>Tri P c σ e σ'
 | .dk _=>True
def ZM(P:Program)(l:List Obl):Prop:=∀o∈l,o.holds P
section
variable {P:Program}{hw:Nat→Nat}{w:World}
theorem Z6{v:Value}{x:Value}(h:Rep hw w v (.v x)):v=x:=by cases h;rfl
theorem Yp{v:Value}{l:List UInt8}(h:Rep hw w v (.str l)):v= .string ⟨l.toArray⟩:=by cases h;rfl
theorem ZtG{op:BinOp}{k:IntKind}{a b:Int}{r:PV}(h:ZnI op k a b=some r)(T:TypeId)(ox oy:Operand):
 ∃v,(do eqGuard op T ox oy (.int k a) (.int k b);binOp op T (.int k a) (.int k b):Sem Value).run P w= .ok v w∧Rep hw w v r:=by
 rw[eqGuard_at_int]
 cases op<;>simp only[ZnI,Option.some.injEq,reduceCtorEq] at h<;>(subst h;exact ⟨_,by simp[binOp,Op.intArith,Op.intCmp],.v _ rfl⟩)
theorem ZjV(x y:List UInt8):((⟨x.toArray⟩:ByteArray).toList==(⟨y.toArray⟩:ByteArray).toList)=(x==y):=by rw[ByteArray.toList_mk,ByteArray.toList_mk]
theorem Zmr{op:BinOp}{T:TypeId}{x y:PV}{os os' ob:List Obl}{r:PV}(h:Y1 op T x y os=some (r,os',ob))(ho:ZM P ob){vx vy:Value}(hx:Rep hw w vx x)(hy:Rep hw w vy y)(ox oy:Operand):
 ∃v,(do eqGuard op T ox oy vx vy;binOp op T vx vy:Sem Value).run P w= .ok v w∧Rep hw w v r:=by
 unfold Y1 at h
 split at h
 ·rename_i r' os''
  injection h with h
  injection h with h1 h2
  injection h2 with h2 h3
  subst h1;subst h3
  exact ho (.bin op T x y r') (by simp) hw w vx vy ox oy hx hy
 ·split at h
  ·rename_i k a k' b
   split at h
   ·rename_i p os2
    cases hk:decide (k=k') with
    | false=>rw[hk] at h;cases h
    | true=>
      rw[hk] at h
      injection h with h
      injection h with h1 h2
      injection h2 with h2 h3
      subst h1;subst h3
      have hkk:=Qy_ hk
      subst hkk
      have hb:b≠0:=ho (.pr (b≠0)) (by simp)
      rw[Z6 hx,Z6 hy,eqGuard_at_int]
      exact ⟨_,by simp[binOp,Op.intDiv,hb],.v _ rfl⟩
   ·cases h
  ·rename_i k a k' b
   split at h
   ·rename_i p os2
    cases hk:decide (k=k') with
    | false=>rw[hk] at h;cases h
    | true=>
      rw[hk] at h
      injection h with h
      injection h with h1 h2
      injection h2 with h2 h3
      subst h1;subst h3
      have hkk:=Qy_ hk
      subst hkk
      have hb:b≠0:=ho (.pr (b≠0)) (by simp)
      rw[Z6 hx,Z6 hy,eqGuard_at_int]
      exact ⟨_,by simp[binOp,Op.intDiv,hb],.v _ rfl⟩
   ·cases h
  ·rename_i k a k' b
   split at h
   ·rename_i p os2
    injection h with h
    injection h with h1 h2
    injection h2 with h2 h3
    subst h1;subst h3
    have hb:0≤b:=ho (.pr (0≤b)) (by simp)
    have hb':¬b < 0:=by omega
    rw[Z6 hx,Z6 hy,eqGuard_at_int]
    exact ⟨_,by simp[binOp,Op.shift,hb'],.v _ rfl⟩
   ·cases h
  ·rename_i k a k' b
   split at h
   ·rename_i p os2
    injection h with h
    injection h with h1 h2
    injection h2 with h2 h3
    subst h1;subst h3
    have hb:0≤b:=ho (.pr (0≤b)) (by simp)
    have hb':¬b < 0:=by omega
    rw[Z6 hx,Z6 hy,eqGuard_at_int]
    exact ⟨_,by simp[binOp,Op.shift,hb'],.v _ rfl⟩
   ·cases h
  ·rename_i k a k' b _ _ _ _
   cases hk:decide (k=k') with
   | false=>rw[hk] at h;cases h
   | true=>
     rw[hk] at h
     simp only[Qb_] at h
     split at h
     ·rename_i r' hr
      injection h with h
      injection h with h1 h2
      injection h2 with h2 h3
      subst h1;subst h3
      have hkk:=Qy_ hk
      subst hkk
      rw[Z6 hx,Z6 hy]
      exact ZtG hr T ox oy
     ·cases h
  ·rename_i a b
   split at h
   ·rename_i p os2
    injection h with h
    injection h with h1 h2
    injection h2 with h2 h3
    subst h1;subst h3
    have hb:a.length+b.length≤9223372036854775807:=ho (.pr (a.length+b.length≤9223372036854775807)) (by simp)
    rw[Yp hx,Yp hy,eqGuard_at_string]
    refine ⟨.string ⟨(a++b).toArray⟩, ?_,.str _⟩
    rw[Sem.run_bind,Sem.run_pure,Result.andThen_ok,binOp_string_add,run_string_add_sum _ _ _ (by show a.toArray.size+b.toArray.size≤_;simpa using hb),ByteArray.mk_append_mk]
   ·cases h
  ·rename_i a b
   injection h with h
   injection h with h1 h2
   injection h2 with h2 h3
   subst h1;subst h3
   rw[Yp hx,Yp hy,eqGuard_at_string]
   exact ⟨_,by rw[Sem.run_bind,Sem.run_pure,Result.andThen_ok,binOp_string_eql,ZjV];rfl,.v _ rfl⟩
  ·rename_i a b
   injection h with h
   injection h with h1 h2
   injection h2 with h2 h3
   subst h1;subst h3
   rw[Yp hx,Yp hy,eqGuard_at_string]
   exact ⟨_,by rw[Sem.run_bind,Sem.run_pure,Result.andThen_ok,binOp_string_neq,ZjV];rfl,.v _ rfl⟩
  ·cases h
theorem ZnJ{op:UnOp}{x:PV}{os os' ob:List Obl}{r:PV}(h:ZjR op x os=some (r,os',ob))(ho:ZM P ob){vx:Value}(hx:Rep hw w vx x):
 ∃v,(Op.unary op vx).run P w= .ok v w∧Rep hw w v r:=by
 unfold ZjR at h
 split at h
 ·rename_i r' os''
  injection h with h
  injection h with h1 h2
  injection h2 with h2 h3
  subst h1;subst h3
  exact ho (.un op x r') (by simp) hw w vx hx
 ·split at h
  ·injection h with h
   injection h with h1 h2
   injection h2 with h2 h3
   subst h1;subst h3
   rw[Z6 hx]
   exact ⟨_,rfl,.v _ rfl⟩
  ·injection h with h
   injection h with h1 h2
   injection h2 with h2 h3
   subst h1;subst h3
   rw[Z6 hx]
   exact ⟨_,rfl,.v _ rfl⟩
  ·injection h with h
   injection h with h1 h2
   injection h2 with h2 h3
   subst h1;subst h3
   rw[Z6 hx]
   exact ⟨_,rfl,.v _ rfl⟩
  ·cases h
end
section
variable {P:Program}{hw:Nat→Nat}{w:World}
theorem ZvM{vals:List Value}{x:PV}(h:ArgsRep hw w vals [x]):∃v,vals=[v]∧Rep hw w v x:=by
 obtain ⟨hl,hr⟩:=h
 match vals,hl with
 | [v],_=>exact ⟨v,rfl,hr 0 v x rfl rfl⟩
theorem Zf4{vals:List Value}{x:PV}{xs:List PV}(h:ArgsRep hw w vals (x::xs)):∃v vs,vals=v::vs∧Rep hw w v x∧ArgsRep hw w vs xs:=by
 obtain ⟨hl,hr⟩:=h
 match vals,hl with
 | v::vs,hl=>exact ⟨v,vs,rfl,hr 0 v x rfl rfl,⟨by simpa using hl,fun j a b ha hb=>hr (j+1) a b ha hb⟩⟩
theorem Zbg{k:IntKind}:∀{r:List PV} {l:List Int} {vals:List Value},ZdF k r=some l→ArgsRep hw w vals r→vals=l.map (.int k)
 | [],l,vals,h,ha=>by
   have:=Qa_ h
   subst this
   have:=ha.len
   simpa using this
 | x::r,l,vals,h,ha=>by
   unfold ZdF at h
   split at h
   ·rename_i heq;cases heq
   ·rename_i k' n r' heq
    injection heq with e1 e2
    subst e1;subst e2
    cases hk:decide (k=k') with
    | false=>rw[hk] at h;cases h
    | true=>
      rw[hk] at h
      have hkk:=Qy_ hk
      subst hkk
      simp only[Qb_] at h
      split at h
      ·rename_i l' hl
       have:=Qa_ h
       subst this
       obtain ⟨v,vs,rfl,hv,hvs⟩:=Zf4 ha
       rw[Z6 hv,Zbg hl hvs]
       rfl
      ·cases h
   ·cases h
theorem Zir(k:IntKind):∀(l:List Int) (n:Int),(List.foldlM Builtin.max2 (Value.int k n) (l.map (.int k))).run P w= .ok (.int k (l.foldl imax n)) w
 | [],n=>rfl
 | m::l,n=>by
   have:=Zir k l (imax n m)
   simp only[QE_,List.foldlM_cons,List.foldl_cons,Sem.run_bind]
   simp only[Builtin.max2,Sem.run_pure,Result.andThen_ok]
   exact this
theorem Zis(k:IntKind):∀(l:List Int) (n:Int),(List.foldlM Builtin.min2 (Value.int k n) (l.map (.int k))).run P w= .ok (.int k (l.foldl imin n)) w
 | [],n=>rfl
 | m::l,n=>by
   have:=Zis k l (imin n m)
   simp only[QE_,List.foldlM_cons,List.foldl_cons,Sem.run_bind]
   simp only[Builtin.min2,Sem.run_pure,Result.andThen_ok]
   exact this
theorem ZtH{v:Value}{xs:List (List PV)}(h:Rep hw w v (.lst xs)):∃a cap,v= .slice a xs.length cap:=by
 cases h with
 | lnil=>exact ⟨none,0,rfl⟩
 | lst xs blk off cap s c hcap hlen hc hr h1 hh=>exact ⟨_,cap,rfl⟩
theorem Ym{T:TypeId}{ty:Ty}(h:TyIs P T ty):(ty.kd=2→P.underlying T=some (.array ty.len ty.elem))∧(ty.kd=3→P.underlying T=some (.slice ty.elem))∧(ty.kd=4→P.underlying T=some .string):=by
 rcases h.under with ⟨hk,_⟩ | ⟨hk,hu⟩ | ⟨hk,hu⟩ | ⟨hk,hu⟩ | ⟨hk,_⟩<;>simp_all
theorem kd1{T:TypeId}{ty:Ty}(h:TyIs P T ty)(hk:ty.kd=1):∃fs,P.underlying T=some (.struct fs)∧ty.fields=fs.toList.map fun f=>(f.offset,f.type):=by
 rcases h.under with ⟨_,h⟩ | ⟨hk',_⟩ | ⟨hk',_⟩ | ⟨hk',_⟩ | ⟨hk',_⟩
 ·exact h
 all_goals (rw[hk] at hk';exact absurd hk' (by decide))
theorem Zge{Γ:List (Nat×Ty)}(hΓ:ZW P Γ){b:Builtin}{ats:Array TypeId}{T:TypeId}{xs:List PV}{os os' ob:List Obl}{r:PV}
 (h:Jf Γ b ats T xs os=some (r,os',ob)) (ho:ZM P ob) {vals:List Value} (ha:ArgsRep hw w vals xs) (cs:Array Bool):
 ∃v,(builtin b ats T cs vals.toArray).run P w= .ok (.value v) w∧Rep hw w v r:=by
 unfold Jf at h
 split at h
 ·rename_i r' os''
  injection h with h
  injection h with h1 h2
  injection h2 with h2 h3
  subst h1;subst h3
  exact ho (.blt b ats T xs r') (by simp) hw w vals cs ha
 ·split at h
  ·rename_i x
   obtain ⟨v,rfl,hv⟩:=ZvM ha
   split at h
   ·rename_i t hat
    have hat':ats=#[t]:=by rw[←Array.toArray_toList (xs:=ats),hat]
    subst hat'
    split at h
    ·rename_i ty hty
     have hT:=ZF (hΓ t ty hty)
     obtain ⟨hk2,hk3,hk4⟩:=Ym hT
     have done:∀(n:Int),(Builtin.len_ #[t] T #[v]).run P w= .ok (goInt n) w→some (PV.v (Value.int .i64 n),os,([]:List Obl))=some (r,os',ob)→
      ∃v_1,(builtin .len #[t] T cs [v].toArray).run P w= .ok (.value v_1) w∧Rep hw w v_1 r:=by
      intro n hn he
      injection he with he
      injection he with h1 h2
      subst h1
      exact ⟨goInt n,by simp[builtin,hn],.v _ rfl⟩
     split at h
     ·rename_i l hk
      refine done _ ?_ h
      rw[Yp hv]
      simp[Builtin.len_,run_underlying (hk4 hk),ByteArray.size_mk']
     ·rename_i l hk
      refine done _ ?_ h
      obtain ⟨a,cap,rfl⟩:=ZtH hv
      simp[Builtin.len_,run_underlying (hk3 hk)]
     ·rename_i hk
      refine done _ ?_ h
      cases hv
      simp[Builtin.len_,run_underlying (hk3 hk)]
     ·rename_i hk
      refine done _ ?_ h
      simp[Builtin.len_,run_underlying (hk2 hk)]
     ·cases h
    ·cases h
   ·cases h
  ·rename_i k n r'
   split at h
   ·rename_i l hl
    injection h with h
    injection h with h1 h2
    subst h1
    obtain ⟨v,vs,rfl,hv,hvs⟩:=Zf4 ha
    rw[Z6 hv,Zbg hl hvs]
    refine ⟨_, ?_,.v _ rfl⟩
    simp[builtin,Builtin.max_,Zir]
   ·cases h
  ·rename_i k n r'
   split at h
   ·rename_i l hl
    injection h with h
    injection h with h1 h2
    subst h1
    obtain ⟨v,vs,rfl,hv,hvs⟩:=Zf4 ha
    rw[Z6 hv,Zbg hl hvs]
    refine ⟨_, ?_,.v _ rfl⟩
    simp[builtin,Builtin.min_,Zis]
   ·cases h
  ·cases h
theorem ZcJ{v:Value}{xs:List (List PV)}(h:Rep hw w v (.lst xs)){ety:Nat}{i j:Nat}(hij:i≤j)(hj:j≤xs.length)(hs:∀(k:Nat) (x:List PV),xs[k]?=some x→x.length=ety):
 ∃a len cap,v= .slice a len cap∧len=xs.length∧j≤cap∧Rep hw w (sliced a i j cap ety) (.lst ((xs.drop i).take (j - i))):=by
 cases h with
 | lnil=>
   have hj0:j=0:=by simpa using hj
   subst hj0
   have hi0:i=0:=by omega
   subst hi0
   exact ⟨none,0,0,rfl,rfl,Q2_ _,by simpa [sliced] using (Rep.lnil:Rep hw w _ _)⟩
 | lst xs blk off cap s c hcap hlen hc hr h1 hh=>
   refine ⟨_,_,cap,rfl,rfl,by omega, ?_⟩
   have hlen':((xs.drop i).take (j - i)).length=j - i:=by simp;omega
   by_cases hx:xs.length=0
   ·have hn:xs=[]:=QM_ hx
    subst hn
    have hj0:j=0:=by simpa using hj
    subst hj0
    have hi0:i=0:=by omega
    subst hi0
    unfold sliced
    have key:=Rep.lst (hw:=hw) (w:=w) [] blk off cap s c (Kx_ _) hlen (fun i j hi=>by simp at hi) hr (fun i j hi=>by simp at hi) hh
    by_cases hcz:cap=0
    ·subst hcz;simpa using key
    ·have:¬cap=0:=hcz
     simpa [this,Addr.add] using key
   ·have hse:s=ety:=by
     have h0:0 < xs.length:=by omega
     have:=hlen 0 xs[0] (Qg_ h0)
     rw[←this,hs 0 xs[0] (Qg_ h0)]
    subst hse
    have getk:∀(k:Nat) (x:List PV),((xs.drop i).take (j - i))[k]?=some x→xs[i+k]?=some x∧k < j - i:=by
     intro k x hk
     rw[Kk_] at hk
     split at hk
     ·rename_i hlt;rw[Kd_] at hk;exact ⟨hk,hlt⟩
     ·cases hk
    unfold sliced
    by_cases hci:cap=i
    ·have hij':i=j:=by omega
     have e0:j - i=0:=by omega
     have key:=Rep.lst (hw:=hw) (w:=w) [] blk off 0 s c (Q2_ _) (fun k x hk=>by simp at hk) (fun k q hk=>by simp at hk) (fun k q x y hk=>by simp at hk) (fun k q hk=>by simp at hk) (by simp;exact QT_ (Nat.le_add_right _ _) hh)
     rw[e0]
     subst hci
     simpa using key
    ·rw[if_neg hci,K5_,Addr.add_lit]
     have key:=Rep.lst (hw:=hw) (w:=w) ((xs.drop i).take (j - i)) blk (off+i *s) (cap - i) s (fun k q=>c (i+k) q) (by rw[hlen'];omega)
      (fun k x hk=>hlen _ x (getk k x hk).1)
      (fun k q hk hq=>by
        rw[hlen'] at hk
        have:=hc (i+k) q (by omega) hq
        rw[Nat.add_mul] at this
        rw[show off+i *s+(k *s+q)=off+(i *s+k *s+q) by omega]
        exact this)
      (fun k q x y hk hq=>hr (i+k) q x y (getk k x hk).1 hq)
      (fun k q hk hq=>h1 (i+k) q (by rw[hlen'] at hk;omega) hq)
      (by
        rw[hlen']
        have:i *s+(j - i)*s=j *s:=by rw[←Nat.add_mul];congr 1;omega
        have h2:j *s≤xs.length *s:=Kb_ s hj
        omega)
     rw[hlen'] at key
     exact key
theorem ZtI{T e:TypeId}(h:P.underlying T=some (.slice e)):P.elem T=e:=by simp[Program.elem,h]
end
section
variable {P:Program}{hw:Nat→Nat}{w:World}
theorem ZdH{T:TypeId}(hT:P.underlying T=some .string)(l:List UInt8)(a b:Nat){lo hi:Option Value}
 (h:(Instr.sliceBounds false l.length l.length lo hi none).run P w= .ok (a,b,l.length) w):
 (Instr.sliceAt T (.string ⟨l.toArray⟩) lo hi none).run P w= .ok (.string ⟨((l.drop a).take (b - a)).toArray⟩) w:=by
 rw[run_sliceAt_string _ _ _ _ _ _ hT]
 have hs:(⟨l.toArray⟩:ByteArray).size=l.length:=by show l.toArray.size=_;simp
 simp only[Instr.slice,Sem.run_bind,run_underlying hT,Result.andThen_ok,Option.isSome_none,K4_,Kv_,hs,h,Sem.run_pure]
 rw[ByteArray.extract_mk]
def ZpJ(hw:Nat→Nat)(w:World):Option PV→Option Value→Prop
 | none,none=>True
 | some p,some q=>Rep hw w q p
 | _,_=>False
theorem ZaG{Γ:List (Nat×Ty)}(hΓ:ZW P Γ){T:TypeId}{x:PV}{lo hi:Option PV}{os os' ob:List Obl}{r:PV}
 (h:Yw Γ T x lo hi os=some (r,os',ob)) (ho:ZM P ob) {v:Value} {vlo vhi:Option Value} (hv:Rep hw w v x)
 (hlo:ZpJ hw w lo vlo) (hhi:ZpJ hw w hi vhi):
 ∃u,(Instr.sliceAt T v vlo vhi none).run P w= .ok u w∧Rep hw w u r:=by
 unfold Yw at h
 split at h
 ·rename_i ty p os2 hty
  have hT:=ZF (hΓ T ty hty)
  obtain ⟨hk2,hk3,hk4⟩:=Ym hT
  have lov:∀{k:IntKind} {n:Int},lo=some (.v (.int k n))→vlo=some (.int k n):=by
   intro k n e
   subst e
   cases vlo with
   | none=>exact hlo.elim
   | some q=>rw[Z6 hlo]
  have lon:lo=none→vlo=none:=by
   intro e
   subst e
   cases vlo with
   | none=>rfl
   | some q=>exact hlo.elim
  have hiv:∀{k:IntKind} {n:Int},hi=some (.v (.int k n))→vhi=some (.int k n):=by
   intro k n e
   subst e
   cases vhi with
   | none=>exact hhi.elim
   | some q=>rw[Z6 hhi]
  have hin:hi=none→vhi=none:=by
   intro e
   subst e
   cases vhi with
   | none=>rfl
   | some q=>exact hhi.elim
  split at h
  ·rename_i l k a k' b hk
   injection h with h
   injection h with h1 h2
   injection h2 with h2 h3
   subst h1;subst h3
   obtain ⟨q1,q2,q3⟩:0≤a∧a≤b∧b≤l.length:=ho (.pr _) (by simp)
   rw[Yp hv,lov rfl,hiv rfl]
   refine ⟨_,ZdH (hk4 hk) l a.toNat b.toNat ?_,.str _⟩
   have eb:(b.toNat:Int)=b:=Int.toNat_of_nonneg (by omega)
   have hb0:0≤b:=by omega
   simp[Instr.sliceBounds,run_sliceBound, *]
  ·rename_i l k a hk
   injection h with h
   injection h with h1 h2
   injection h2 with h2 h3
   subst h1;subst h3
   obtain ⟨q1,q2⟩:0≤a∧a≤l.length:=ho (.pr _) (by simp)
   rw[Yp hv,lov rfl,hin rfl]
   have hs:=ZdH (P:=P) (w:=w) (hk4 hk) l a.toNat l.length (lo:=some (.int k a)) (hi:=none) (by simp[Instr.sliceBounds,run_sliceBound, *])
   have e:(l.drop a.toNat).take (l.length - a.toNat)=l.drop a.toNat:=Kh_ (by simp)
   rw[e] at hs
   exact ⟨_,hs,.str _⟩
  ·rename_i l k b hk
   injection h with h
   injection h with h1 h2
   injection h2 with h2 h3
   subst h1;subst h3
   obtain ⟨q1,q2⟩:0≤b∧b≤l.length:=ho (.pr _) (by simp)
   rw[Yp hv,lon rfl,hiv rfl]
   exact ⟨_,ZdH (hk4 hk) l 0 b.toNat (by simp[Instr.sliceBounds,run_sliceBound, *]),.str _⟩
  ·rename_i lo hi l hk
   have hu:=hk3 hk
   have he:=ZtI hu
   split at h
   ·rename_i ety k a k' b hety
    injection h with h
    injection h with h1 h2
    injection h2 with h2 h3
    subst h1;subst h3
    obtain ⟨q1,q2,q3,q4⟩:0≤a∧a≤b∧b≤l.length∧Lens ety.size l:=ho (.pr _) (by simp)
    obtain ⟨ad,len,cap,rfl,rfl,hcap,hrep⟩:=ZcJ (i:=a.toNat) (j:=b.toNat) (ety:=ety.size) hv (by omega) (by omega) (fun k x hx=>q4 x (Qz_ hx))
    rw[lov rfl,hiv rfl,run_sliceAt_slice _ _ _ _ _ _ (by rw[he];exact hu),run_slice_lh _ _ _ _ _ (by rw[he];exact hu) _ _ _ _ q1 q2 (by omega),he,ZP (ZF (hΓ _ _ hety))]
    exact ⟨_,rfl,hrep⟩
   ·rename_i ety k a hety
    injection h with h
    injection h with h1 h2
    injection h2 with h2 h3
    subst h1;subst h3
    obtain ⟨q1,q2,q4⟩:0≤a∧a≤l.length∧Lens ety.size l:=ho (.pr _) (by simp)
    obtain ⟨ad,len,cap,rfl,rfl,hcap,hrep⟩:=ZcJ (i:=a.toNat) (j:=l.length) (ety:=ety.size) hv (by omega) (by omega) (fun k x hx=>q4 x (Qz_ hx))
    have e:(l.drop a.toNat).take (l.length - a.toNat)=l.drop a.toNat:=Kh_ (by simp)
    rw[e] at hrep
    rw[lov rfl,hin rfl,run_sliceAt_slice _ _ _ _ _ _ (by rw[he];exact hu),run_slice_l _ _ _ _ _ (by rw[he];exact hu) _ _ q1 q2,he,ZP (ZF (hΓ _ _ hety))]
    exact ⟨_,rfl,hrep⟩
   ·rename_i ety k b hety
    injection h with h
    injection h with h1 h2
    injection h2 with h2 h3
    subst h1;subst h3
    obtain ⟨q1,q2,q4⟩:0≤b∧b≤l.length∧Lens ety.size l:=ho (.pr _) (by simp)
    obtain ⟨ad,len,cap,rfl,rfl,hcap,hrep⟩:=ZcJ (i:=0) (j:=b.toNat) (ety:=ety.size) hv (by omega) (by omega) (fun k x hx=>q4 x (Qz_ hx))
    rw[lon rfl,hiv rfl,run_sliceAt_slice _ _ _ _ _ _ (by rw[he];exact hu),run_slice_h _ _ _ _ _ (by rw[he];exact hu) _ _ q1 (by omega),he,ZP (ZF (hΓ _ _ hety))]
    exact ⟨_,rfl,by simpa using hrep⟩
   ·cases h
  ·cases h
 ·cases h
theorem Jg(s:Nat):∀(n:Nat) (l:List PV) (i:Nat) (x:List PV),(chunk s n l)[i]?=some x→i < n∧x=(l.drop (i *s)).take s
 | 0,l,i,x,h=>by simp[chunk] at h
 | n+1,l,0,x,h=>by simp[chunk] at h;exact ⟨by omega,by simp[h]⟩
 | n+1,l,i+1,x,h=>by
   simp only[chunk,List.getElem?_cons_succ] at h
   obtain ⟨h1,h2⟩:=Jg s n (l.drop s) i x h
   refine ⟨by omega, ?_⟩
   rw[h2,List.drop_drop]
   congr 2
   rw[Ko_];omega
theorem Wm(s:Nat):∀(n:Nat) (l:List PV),(chunk s n l).length=n
 | 0,_=>rfl
 | n+1,l=>by simp[chunk,Wm s n]
theorem ZrH{T:TypeId}{ty:Ty}(hT:TyIs P T ty){vs:List Value}{cs:List PV}(hc:CellsRep hw w vs cs){off:Nat}(hle:off+ty.size≤cs.length){x:PV}(h:rd ty ((cs.drop off).take ty.size) 0=some x):
 ∃v,(part T vs.toArray off).run P w= .ok v w∧Rep hw w v x:=by
 refine Zgd hT hc.len hc.rep hc.one (off:=off) ?_
 unfold rd at h ⊢
 have e1:Nat.ble (0+ty.size) ((cs.drop off).take ty.size).length=true:=by simp;omega
 have e2:Nat.ble (off+ty.size) cs.length=true:=by simpa using hle
 rw[e1] at h
 rw[e2]
 simp only[Qb_] at h ⊢
 cases ha:ty.agg with
 | true=>
   rw[ha] at h
   simp only[Qb_,QG_,List.take_take,Nat.min_self] at h ⊢
   exact h
 | false=>
   rw[ha] at h
   simp only[Qd_] at h ⊢
   cases hb:Nat.beq ty.size 1 with
   | false=>rw[hb] at h;cases h
   | true=>
     rw[hb] at h
     have h1:=Qj_ hb
     simp only[Qb_,h1] at h ⊢
     simpa using h
theorem ZiZ{Γ:List (Nat×Ty)}(hΓ:ZW P Γ){T:TypeId}{x i:PV}{os os' ob:List Obl}{r:PV}
 (h:JI Γ T x i os=some (r,os',ob)) (ho:ZM P ob) {v j:Value} (hv:Rep hw w v x) (hj:Rep hw w j i):
 ∃u,(Instr.index T v j).run P w= .ok u w∧Rep hw w u r:=by
 unfold JI at h
 split at h
 ·rename_i ty k n hty
  have hT:=ZF (hΓ T ty hty)
  obtain ⟨hk2,hk3,hk4⟩:=Ym hT
  rw[Z6 hj]
  split at h
  ·rename_i l p os2 hk
   injection h with h
   injection h with h1 h2
   injection h2 with h2 h3
   subst h1;subst h3
   obtain ⟨q1,q2⟩:0≤n∧n < l.length:=ho (.pr _) (by simp)
   rw[Yp hv,run_index_string _ _ _ _ _ (hk4 hk)]
   have hs:(⟨l.toArray⟩:ByteArray).size=l.length:=by show l.toArray.size=_;simp
   rw[dif_pos ⟨q1,by rw[hs];exact q2⟩]
   refine ⟨_,rfl, ?_⟩
   have e:((⟨l.toArray⟩:ByteArray)[n.toNat]'(by rw[hs];omega))=l.getD n.toNat 0:=by
    show l.toArray[n.toNat]'_=_
    have:n.toNat < l.length:=by omega
    simp[this]
   rw[e]
   exact .v _ rfl
  ·rename_i cs xs m y os2 hk
   split at h
   ·rename_i ety hety
    cases hb:(Nat.beq cs.length (ty.len *ety.size)&& !(Nat.beq ety.size 0)) with
    | false=>rw[hb] at h;cases h
    | true=>
      rw[hb] at h
      simp only[Qb_] at h
      rw[Qh_] at hb
      have hl:=Qj_ hb.1
      split at h
      ·rename_i r' hr
       cases hb2:Nat.beq y.length ety.size with
       | false=>rw[hb2] at h;cases h
       | true=>
         rw[hb2] at h
         simp only[Qb_] at h
         injection h with h
         injection h with h1 h2
         injection h2 with h2 h3
         subst h1;subst h3
         obtain ⟨q1,q2⟩:0≤n∧(chunk ety.size ty.len cs)[n.toNat]?=some y:=ho (.idx _ _ _) (by simp)
         obtain ⟨c1,c2⟩:=Jg _ _ _ _ _ q2
         obtain ⟨vs,rfl,hc⟩:=Wl hv
         have hle:n.toNat *ety.size+ety.size≤cs.length:=by
          rw[hl,←Ko_]
          exact Kb_ _ c1
         have hET:=ZF (hΓ _ _ hety)
         subst c2
         obtain ⟨u,h1,h2⟩:=ZrH hET hc hle hr
         have hn:n < ty.len:=by omega
         exact ⟨u,by simp[Instr.index,asIntOf,run_underlying (hk2 hk),q1,hn,ZP hET,h1],h2⟩
      ·cases h
   ·cases h
  ·cases h
 ·cases h
theorem Zgf{Γ:List (Nat×Ty)}(hΓ:ZW P Γ){T:TypeId}{f off:Nat}{fty:Ty}(h:Zba Γ T f=some (off,fty)):
 ∃fs fd,P.underlying T=some (.struct fs)∧fs[f]?=some fd∧fd.offset=off∧TyIs P fd.type fty∧fty.size≠0:=by
 unfold Zba at h
 split at h
 ·rename_i sz by_ z fs e n hty
  obtain ⟨fs',hu,hf⟩:=kd1 (ZF (hΓ T _ hty)) rfl
  split at h
  ·rename_i o ft hfs
   split at h
   ·rename_i fty' hft
    cases hb:Nat.beq fty'.size 0 with
    | true=>rw[hb] at h;cases h
    | false=>
      rw[hb] at h
      simp only[Qd_] at h
      injection h with h
      injection h with h1 h2
      subst h1;subst h2
      simp only at hf
      rw[hf,Q6_] at hfs
      cases hg:fs'.toList[f]? with
      | none=>rw[hg] at hfs;cases hfs
      | some fd=>
        rw[hg] at hfs
        simp only[K5_,Option.some.injEq,Prod.mk.injEq] at hfs
        refine ⟨fs',fd,hu,by simpa using hg,hfs.1, ?_,fun h0=>by rw[h0] at hb;exact absurd hb (by decide)⟩
        rw[hfs.2]
        exact ZF (hΓ _ _ hft)
   ·cases h
  ·cases h
 ·cases h
theorem Zms{Γ:List (Nat×Ty)}(hΓ:ZW P Γ){T:TypeId}{f off:Nat}{fty:Ty}(h:Zba Γ T f=some (off,fty)){v:Value}{cs:List PV}(hv:Rep hw w v (.agg cs)){x:PV}(hr:rd fty cs off=some x):
 ∃u,(Instr.field T v f).run P w= .ok u w∧Rep hw w u x:=by
 obtain ⟨fs,fd,hu,hf,ho,hT,_⟩:=Zgf hΓ h
 obtain ⟨vs,rfl,hc⟩:=Wl hv
 obtain ⟨u,h1,h2⟩:=Zgd hT hc.len hc.rep hc.one hr
 refine ⟨u, ?_,h2⟩
 simp[Instr.field,run_underlying hu,hf,asAgg,ho,h1]
theorem Zd6{Γ:List (Nat×Ty)}(hΓ:ZW P Γ){T:TypeId}{f off:Nat}{fty:Ty}(h:Zba Γ T f=some (off,fty))(k b:Nat):
 (Instr.fieldAt T (.pointer (some ⟨k,b,none⟩)) f).run P w= .ok (.pointer (some ⟨k,b+off,none⟩)) w:=by
 obtain ⟨fs,fd,hu,hf,ho,hT,hz⟩:=Zgf hΓ h
 simp[Instr.fieldAt,run_underlying hu,hf,Instr.sureAddr,fieldPlace,ZP hT,hz,ho,Addr.add_lit]
end
structure PRes(g:G)(σ:St)(a:Act)(w:World)(o:Oper)(res:Res)(v:Value)(w':World)(g':G):Prop where
 qt:Qt g.hw w g'.hw w'
 rep:RepA g' w' v res.av
 noBox:res.box=none→g'.β=g.β
 box:∀cs,res.box=some cs→∃d k,o.dst=some d∧lk d σ.boxes=none∧res.av= .ptr d 0∧(∀b,b≠d→g'.β b=g.β b)∧g'.β d=some (k,0)∧
  w.heap.size≤k∧k < w'.heap.size∧BoxOk g' w' k 0 cs∧g'.hw k=0∧∀y∈cs,YZ y=none
 link:∀l,res.link=some l→LocIs g a w l v
 ptr:res.box=none→(∀b off,res.av= .ptr b off→∃cs,lk b σ.boxes=some cs)∧(∀f bs,res.av= .fnp f bs→∀b∈bs,∃cs,lk b σ.boxes=some cs)∧(∀b off n s,res.av= .sl b off n s→∃cs,lk b σ.boxes=some cs)
section
variable {P:Program}{B:Nat}{g g':G}{σ:St}{a:Act}{w w':World}{o:Oper}{res:Res}{v:Value}
theorem PRes.beta(h:PRes g σ a w o res v w' g'){b:Nat}(hb:∃cs,lk b σ.boxes=some cs):g'.β b=g.β b:=by
 cases hx:res.box with
 | none=>rw[h.noBox hx]
 | some cs=>
   obtain ⟨d,k,_,hn,_,hoth,_⟩:=h.box cs hx
   obtain ⟨cs',hb⟩:=hb
   exact hoth b (fun e=>by rw[e,hn] at hb;cases hb)
theorem ZaH{arr:Array Value}{d:Nat}(h:d < arr.size)(v:Value):(arr.setIfInBounds d v).getD d undef=v:=by
 simp[h]
theorem Xq{arr:Array Value}{d t:Nat}(h:t≠d)(v:Value):(arr.setIfInBounds d v).getD t undef=arr.getD t undef:=by
 simp only[QA_,K3_]
 rw[if_neg (fun e=>h e.symm)]
theorem LocIs.go(hI:Inv P B g σ a w)(h:PRes g σ a w o res v w' g'){d:Nat}{l:Loc}(hl:∀t,l= .t t→t≠d)(hb:∀b c,l= .b b c→∃cs,lk b σ.boxes=some cs){val:Value}:
 LocIs g' (a.put (some d) v) w' l val↔LocIs g a w l val:=by
 cases l with
 | t t=>
   show (a.tmps.setIfInBounds d v).getD t undef=val↔_
   rw[Xq (hl t rfl)]
   rfl
 | b b c=>
   obtain ⟨cs,hcs⟩:=hb b c rfl
   obtain ⟨k,base,hk,hlt,_⟩:=hI.box b cs hcs
   show (∃k base,g'.β b=some (k,base)∧w'.cell? ⟨k,base+c,none⟩=some val)↔∃k base,g.β b=some (k,base)∧w.cell? ⟨k,base+c,none⟩=some val
   rw[h.beta ⟨cs,hcs⟩]
   constructor
   ·rintro ⟨k',base',h1,h2⟩
    rw[hk] at h1
    have:=Qa_ h1
    cases this
    exact ⟨k,base,hk,by rw[←h.qt.cell k _ hlt];exact h2⟩
   ·rintro ⟨k',base',h1,h2⟩
    rw[hk] at h1
    have:=Qa_ h1
    cases this
    exact ⟨k,base,hk,by rw[h.qt.cell k _ hlt];exact h2⟩
theorem ZU{E:TypeId}{val:Value}(h:OwnV P B g.hw w E val):∀k,val.ownBlock=some k→k < w.heap.size∧B≤k:=by
 obtain ⟨i,n,xs,_,ho,_⟩:=h
 intro k hk
 have:=ho.lt k hk
 exact ⟨this.2,this.1⟩
theorem OwnV.qt(q:Qt g.hw w g'.hw w'){E:TypeId}{val:Value}(h:OwnV P B g.hw w E val):OwnV P B g'.hw w' E val:=
 h.mono fun k hk=>⟨q.below.block k (ZU h k hk).1,q.hw k (ZU h k hk).1⟩
theorem Jt{d:Nat}(b:Nat):lk b (Xa σ d res).boxes=(match res.box with | some cs=>if b=d then some cs else lk b σ.boxes | none=>lk b σ.boxes):=by
 unfold Xa
 cases res.box with
 | none=>rfl
 | some cs=>exact Zs b d cs σ.boxes
theorem Zad{d:Nat}(t:Nat):lk t (Xa σ d res).tmps=if t=d then some res.av else lk t σ.tmps:=Zs t d res.av σ.tmps
theorem ZcK{d:Nat}(l:Loc):lkL l (Xa σ d res).own=if l= .t d then none else lkL l σ.own:=by
 show lkL l (σ.own.filter fun (l,_)=> !(l.eq (.t d)))=_
 rw[ZO (fun l=> !(l.eq (.t d)))]
 by_cases h:l= .t d
 ·subst h;simp[Loc.eq_iff.2 rfl]
 ·have:l.eq (.t d)=false:=by
   cases hh:l.eq (.t d) with
   | true=>exact absurd (Loc.eq_iff.1 hh) h
   | false=>rfl
  simp[this,h]
theorem Zit{d:Nat}{t:Nat}{l:Loc}(h:(t,l)∈(Xa σ d res).al):(t=d∧res.link=some l)∨(t≠d∧l≠ .t d∧(t,l)∈σ.al):=by
 have old:∀{t l},(t,l)∈σ.al.filter (fun (t,l)=> !(Nat.beq t d)&& !(l.eq (.t d)))→t≠d∧l≠ .t d∧(t,l)∈σ.al:=by
  intro t l hm
  rw[QY_] at hm
  obtain ⟨h1,h2⟩:=hm
  simp only[Qh_,Qi_] at h2
  refine ⟨fun e=>by rw[e] at h2;simp at h2,fun e=>by rw[e,Loc.eq_iff.2 rfl] at h2;simp at h2,h1⟩
 unfold Xa at h
 cases hl:res.link with
 | none=>rw[hl] at h;exact .inr (old h)
 | some l'=>
   rw[hl] at h
   rcases Q9_.1 h with h | h
   ·cases h;exact .inl ⟨rfl,rfl⟩
   ·exact .inr (old h)
theorem ZaO(hI:Inv P B g σ a w)(h:PRes g σ a w o res v w' g'){d:Nat}(ho:o.dst=some d)(hd:d < σ.n)(hlk:∀l,res.link=some l→l≠ .t d∧∀b c,l= .b b c→∃cs,lk b σ.boxes=some cs):
 Inv P B g' (Xa σ d res) (a.put (some d) v) w':=by
 have hx:=h.qt.ext hI.hwlt
 have hnew:∀cs,res.box=some cs→∃k,lk d σ.boxes=none∧res.av= .ptr d 0∧g'.β d=some (k,0)∧w.heap.size≤k∧k < w'.heap.size∧BoxOk g' w' k 0 cs∧g'.hw k=0∧∀y∈cs,YZ y=none:=by
  intro cs hc
  obtain ⟨d',k,h1,h2,h3,h4,h5,h6,h7,h8,h9,h10⟩:=h.box cs hc
  rw[ho] at h1
  have:=Qa_ h1
  subst this
  exact ⟨k,h2,h3,h5,h6,h7,h8,h9,h10⟩
 have oldbox:∀b cs,lk b σ.boxes=some cs→lk b (Xa σ d res).boxes=some cs:=by
  intro b cs hb
  rw[Jt]
  cases hr:res.box with
  | none=>exact hb
  | some cs'=>
    obtain ⟨k,hn,_⟩:=hnew cs' hr
    have:b≠d:=fun e=>by rw[e,hn] at hb;cases hb
    simp[this,hb]
 have boxcase:∀b cs,lk b (Xa σ d res).boxes=some cs→lk b σ.boxes=some cs∨(b=d∧res.box=some cs):=by
  intro b cs hb
  rw[Jt] at hb
  cases hr:res.box with
  | none=>rw[hr] at hb;exact .inl hb
  | some cs'=>
    rw[hr] at hb
    simp only at hb
    split at hb
    ·rename_i e;exact .inr ⟨e,hb⟩
    ·exact .inl hb
 have locs:∀l E,lkL l σ.own=some E→∀b c,l= .b b c→∃cs,lk b σ.boxes=some cs:=by
  intro l E hl b c e
  have:=hI.ownt l E hl
  subst e
  exact this
 refine ⟨?_,hI.defers, ?_, ?_, ?_, ?_, ?_,h.qt.hwlt,QT_ hI.base h.qt.below.size,hI.glob.mono hx (fun _ _ hy=>h.qt.below.block _ (hI.glob.1.lt hy)), ?_, ?_, ?_, ?_, ?_, ?_, ?_⟩
 ·show (a.tmps.setIfInBounds d v).size=σ.n
  simp[hI.size]
 ·intro t av ht
  rw[Zad] at ht
  split at ht
  ·rename_i e
   subst e
   have:=Qa_ ht
   subst this
   refine ⟨hd, ?_⟩
   show RepA g' w' ((a.tmps.setIfInBounds t v).getD t undef) res.av
   rw[ZaH (by rw[hI.size];exact hd)]
   exact h.rep
  ·rename_i hne
   obtain ⟨h1,h2⟩:=hI.tmp t av ht
   refine ⟨h1, ?_⟩
   show RepA g' w' ((a.tmps.setIfInBounds d v).getD t undef) av
   rw[Xq hne]
   refine h2.mono hx (fun b=>?_) (fun b off n s e=>by subst e;exact h.beta (hI.sl t b off n s ht))
   cases av with
   | p x=>exact .inl ⟨fun _=>by simp,fun _ _=>by simp⟩
   | ptr b' off=>
     by_cases e:b=b'
     ·subst e;exact .inr (h.beta (hI.ptr t b off ht))
     ·exact .inl ⟨fun off'=>by simp;intro e';exact absurd e'.symm e,fun _ _=>by simp⟩
   | sl b' off n s=>exact .inl ⟨fun _=>by simp,fun _ _=>by simp⟩
   | fnp f bs=>
     by_cases e:b∈bs
     ·exact .inr (h.beta (hI.fnp t f bs ht b e))
     ·exact .inl ⟨fun _=>by simp,fun f' bs' e'=>by cases e';exact e⟩
 ·intro t b off ht
  rw[Zad] at ht
  split at ht
  ·have:=Qa_ ht
   cases hr:res.box with
   | none=>
     obtain ⟨cs,hcs⟩:=(h.ptr hr).1 b off this
     exact ⟨cs,oldbox b cs hcs⟩
   | some cs=>
     obtain ⟨k,_,h3,_⟩:=hnew cs hr
     rw[h3] at this
     cases this
     exact ⟨cs,by rw[Jt,hr];simp⟩
  ·obtain ⟨cs,hcs⟩:=hI.ptr t b off ht
   exact ⟨cs,oldbox b cs hcs⟩
 ·intro t f bs ht b hb
  rw[Zad] at ht
  split at ht
  ·have:=Qa_ ht
   cases hr:res.box with
   | none=>
     obtain ⟨cs,hcs⟩:=(h.ptr hr).2.1 f bs this b hb
     exact ⟨cs,oldbox b cs hcs⟩
   | some cs=>
     obtain ⟨k,_,h3,_⟩:=hnew cs hr
     rw[h3] at this
     cases this
  ·obtain ⟨cs,hcs⟩:=hI.fnp t f bs ht b hb
   exact ⟨cs,oldbox b cs hcs⟩
 ·intro b cs hb
  rcases boxcase b cs hb with hb | ⟨rfl,hr⟩
  ·obtain ⟨k,base,h1,h2,h3,h4,h5⟩:=hI.box b cs hb
   exact ⟨k,base,by rw[h.beta ⟨cs,hb⟩];exact h1,Kc_ h2 h.qt.below.size,h3.mono hx (fun off=>h.qt.cell k off h2) (fun off=>h.qt.frozen k off h2) (Zcj (h.qt.below.block k h2)) (fun y hy b' hb'=>h.beta (hI.ref b cs hb y hy b' hb')),
    fun hro=>by rw[h.qt.hw k h2];exact h4 hro,h5⟩
  ·obtain ⟨k,_,_,h5,h6,h7,h8,h9⟩:=hnew cs hr
   exact ⟨k,0,h5,h7,h8,fun _=>h9.1,fun _=>QT_ hI.base h6⟩
 ·intro b b' cs cs' k base base' hb hb' h1 h2
  rcases boxcase b cs hb with hq | ⟨hbd,hr⟩<;>rcases boxcase b' cs' hb' with hq' | ⟨hbd',hr'⟩
  ·rw[h.beta ⟨cs,hq⟩] at h1
   rw[h.beta ⟨cs',hq'⟩] at h2
   exact hI.inj b b' cs cs' k base base' hq hq' h1 h2
  ·subst hbd'
   obtain ⟨k',_,_,h5,h6,_⟩:=hnew cs' hr'
   rw[h5] at h2
   have e1:=Qa_ h2
   cases e1
   rw[h.beta ⟨cs,hq⟩] at h1
   obtain ⟨k2,base2,h3,h4,_⟩:=hI.box b cs hq
   rw[h1] at h3
   have e2:=Qa_ h3
   cases e2
   omega
  ·subst hbd
   obtain ⟨k',_,_,h5,h6,_⟩:=hnew cs hr
   rw[h5] at h1
   have e1:=Qa_ h1
   cases e1
   rw[h.beta ⟨cs',hq'⟩] at h2
   obtain ⟨k2,base2,h3,h4,_⟩:=hI.box b' cs' hq'
   rw[h2] at h3
   have e2:=Qa_ h3
   cases e2
   omega
  ·rw[hbd,hbd']
 ·intro l E hl
  rw[ZcK] at hl
  split at hl
  ·cases hl
  ·rename_i hne
   obtain ⟨val,h1,h2,h3⟩:=hI.own l E hl
   refine ⟨val,(LocIs.go hI h (fun t e=>fun e'=>hne (by rw[e,e'])) (locs l E hl)).2 h1,h2.qt h.qt,fun k hk b cs base hb=>?_⟩
   rcases boxcase b cs hb with hb | ⟨rfl,hr⟩
   ·rw[h.beta ⟨cs,hb⟩];exact h3 k hk b cs base hb
   ·obtain ⟨k',_,_,h5,h6,_⟩:=hnew cs hr
    rw[h5]
    intro e
    have:=Qa_ e
    cases this
    have:=(ZU h2 k hk).1
    omega
 ·intro l E hl
  rw[ZcK] at hl
  split at hl
  ·cases hl
  ·have:=hI.ownt l E hl
   cases l with
   | t t=>exact this
   | b b c=>obtain ⟨cs,hcs⟩:=this;exact ⟨cs,oldbox b cs hcs⟩
 ·intro l l' E E' val val' k hl hl' h1 h2 h3 h4
  rw[ZcK] at hl hl'
  split at hl
  ·cases hl
  ·rename_i hne
   split at hl'
   ·cases hl'
   ·rename_i hne'
    exact hI.owninj l l' E E' val val' k hl hl' ((LocIs.go hI h (fun t e=>fun e'=>hne (by rw[e,e'])) (locs l E hl)).1 h1) ((LocIs.go hI h (fun t e=>fun e'=>hne' (by rw[e,e'])) (locs l' E' hl')).1 h2) h3 h4
 ·intro t l hm
  rcases Zit hm with ⟨rfl,hr⟩ | ⟨hne,hne',hm⟩
  ·obtain ⟨q1,q2⟩:=hlk l hr
   show LocIs g' (a.put (some t) v) w' l ((a.tmps.setIfInBounds t v).getD t undef)
   rw[ZaH (by rw[hI.size];exact hd)]
   exact (LocIs.go hI h (fun t' e=>fun e'=>q1 (by rw[e,e'])) q2).2 (h.link l hr)
  ·show LocIs g' (a.put (some d) v) w' l ((a.tmps.setIfInBounds d v).getD t undef)
   rw[Xq hne]
   exact (LocIs.go hI h (fun t' e=>fun e'=>hne' (by rw[e,e'])) (fun b c e=>by subst e;exact hI.alt t b c hm)).2 (hI.al t l hm)
 ·intro t b c hm
  rcases Zit hm with ⟨_,hr⟩ | ⟨_,_,hm⟩
  ·obtain ⟨cs,hcs⟩:=(hlk _ hr).2 b c rfl
   exact ⟨cs,oldbox b cs hcs⟩
  ·obtain ⟨cs,hcs⟩:=hI.alt t b c hm
   exact ⟨cs,oldbox b cs hcs⟩
 ·intro t b off n s ht
  rw[Zad] at ht
  split at ht
  ·have:=Qa_ ht
   cases hr:res.box with
   | none=>
     obtain ⟨cs,hcs⟩:=(h.ptr hr).2.2 b off n s this
     exact ⟨cs,oldbox b cs hcs⟩
   | some cs=>
     obtain ⟨k,_,h3,_⟩:=hnew cs hr
     rw[h3] at this
     cases this
  ·obtain ⟨cs,hcs⟩:=hI.sl t b off n s ht
   exact ⟨cs,oldbox b cs hcs⟩
 ·intro b cs hb y hy b' hb'
  rcases boxcase b cs hb with hq | ⟨_,hr⟩
  ·obtain ⟨cs',hcs'⟩:=hI.ref b cs hq y hy b' hb'
   exact ⟨cs',oldbox b' cs' hcs'⟩
  ·obtain ⟨_,_,_,_,_,_,_,_,h10⟩:=hnew cs hr
   rw[h10 y hy] at hb'
   cases hb'
end
section
variable {P:Program}{B:Nat}{g:G}{σ:St}{a:Act}{w:World}{o:Oper}
theorem here(hI:Inv P B g σ a w){v:Value}{av:AV}{link:Option Loc}(hr:(execOp a.eval o).run P w= .ok (.value v) w)(hrep:RepA g w v av)(hlink:∀l,link=some l→LocIs g a w l v)
 (hp:(∀b off,av= .ptr b off→∃cs,lk b σ.boxes=some cs)∧(∀f bs,av= .fnp f bs→∀b∈bs,∃cs,lk b σ.boxes=some cs)∧(∀b off n s,av= .sl b off n s→∃cs,lk b σ.boxes=some cs)):
 OpRes P o a w fun v w'=>∃g',PRes g σ a w o ⟨av,none,link⟩ v w' g':=
 .inl ⟨v,w,hr,g,⟨Qt.refl hI.hwlt,hrep,fun _=>rfl,fun _ h=>absurd h (by simp),hlink,fun _=>hp⟩⟩
theorem Xz(hI:Inv P B g σ a w){v:Value}{x:PV}(hr:(execOp a.eval o).run P w= .ok (.value v) w)(hrep:Rep g.hw w v x):
 OpRes P o a w fun v w'=>∃g',PRes g σ a w o ⟨.p x,none,none⟩ v w' g':=
 here hI hr hrep (fun _ h=>absurd h (by simp)) ⟨fun _ _ h=>absurd h (by simp),fun _ _ h=>absurd h (by simp),fun _ _ _ _ h=>absurd h (by simp)⟩
theorem ZpK(hI:Inv P B g σ a w){d:Nat}(ho:o.dst=some d)(hd:lk d σ.boxes=none){T:TypeId}{vs:List Value}{cs:List PV}(hc:CellsRep g.hw w vs cs∨cs=[])
 (hr:(execOp a.eval o).run P w= .ok (.value (.pointer (some ⟨w.heap.size,0,none⟩))) (w.alloc (.cells vs.toArray T))):
 OpRes P o a w fun v w'=>∃g',PRes g σ a w o ⟨.ptr d 0,some cs,none⟩ v w' g':=by
 have q:Qt g.hw w g.hw (w.alloc (.cells vs.toArray T)):=
  ⟨(Below.refl _ _).alloc (Q2_ _) _,fun _ _=>rfl,fun k hk=>hI.hwlt k (by simp at hk;omega)⟩
 refine .inl ⟨_,_,hr,⟨fun b=>if b=d then some (w.heap.size,0) else g.β b,g.hw⟩,⟨q,⟨w.heap.size,0,by simp,rfl⟩,fun h=>absurd h (by simp), ?_,fun _ h=>absurd h (by simp),fun h=>absurd h (by simp)⟩⟩
 intro cs' e
 have:=Qa_ e
 subst this
 refine ⟨d,w.heap.size,ho,hd,rfl,fun b hb=>by simp[hb],by simp,Q2_ _,by simp,⟨fun j y hy=>?_⟩,hI.hwlt _ (Q2_ _),fun y hy=>?_⟩
 rotate_left
 ·obtain ⟨j,hj,rfl⟩:=Km_ hy
  rcases hc with hc | hc
  ·exact ZhE (hc.rep j _ _ (Qg_ (l:=vs) (i:=j) (by rw[hc.len];exact hj)) (Qg_ hj))
  ·subst hc;simp at hj
 rcases hc with hc | hc
 ·have hj:j < vs.length:=by rw[hc.len];exact (Qo_.1 hy).1
  refine ⟨vs[j], ?_,hc.one _ (K1_ hj), ?_,.rep ((hc.rep j vs[j] y (Qg_ hj) hy).mono (q.ext hI.hwlt))⟩
  ·rw[QP_,World.cell?_alloc_new];simp[hj]
  ·rw[QP_,World.frozen?_alloc_new]
 ·subst hc;simp at hy
theorem Zbh{α β:Type}{f:α→Option β}:∀{l:List α} {r:List β},Xt f l=some r→l.length=r.length∧∀(j:Nat) (x:α) (y:β),l[j]?=some x→r[j]?=some y→f x=some y
 | [],r,h=>by have:=Qa_ h;subst this;exact ⟨rfl,fun j x y hx=>by simp at hx⟩
 | x::l,r,h=>by
   unfold Xt at h
   split at h
   ·rename_i y r' h1 h2
    have:=Qa_ h
    subst this
    obtain ⟨e1,e2⟩:=Zbh h2
    refine ⟨by simp[e1],fun j u v hu hv=>?_⟩
    cases j with
    | zero=>simp at hu hv;subst hu;subst hv;exact h1
    | succ j=>exact e2 j u v (by simpa using hu) (by simpa using hv)
   ·cases h
theorem ZmV{Γ:List (Nat×Ty)}:∀{fs:List (Nat×Nat)} {r:List (Nat×Nat)},szs Γ fs=some r→fs.length=r.length∧∀(j:Nat) (x y:Nat×Nat),fs[j]?=some x→r[j]?=some y→∃ty,lk x.2 Γ=some ty∧y=(x.1,ty.size)
 | [],r,h=>by have:=Qa_ h;subst this;exact ⟨rfl,fun j x y hx=>by simp at hx⟩
 | (off,t)::fs,r,h=>by
   unfold szs at h
   split at h
   ·rename_i ty r' h1 h2
    have:=Qa_ h
    subst this
    obtain ⟨e1,e2⟩:=ZmV h2
    refine ⟨by simp[e1],fun j u v hu hv=>?_⟩
    cases j with
    | zero=>simp at hu hv;subst hu;subst hv;exact ⟨ty,h1,rfl⟩
    | succ j=>exact e2 j u v (by simpa using hu) (by simpa using hv)
   ·cases h
theorem ZjW{α β:Type}(f:α→Sem β)(gf:α→β):∀(l:List α) (w:World),(∀x∈l,(f x).run P w= .ok (gf x) w)→(l.mapM f).run P w= .ok (l.map gf) w
 | [],w,_=>by simp
 | x::l,w,h=>by
   simp only[List.mapM_cons,Sem.run_bind,h x (by simp),Result.andThen_ok,ZjW f gf l w (fun y hy=>h y (by simp[hy])),Sem.run_pure,QE_]
theorem Zja{Γ:List (Nat×Ty)}(hΓ:ZW P Γ){hw:Nat→Nat}{T:TypeId}{ps:List (Nat×PV)}{x:PV}(h:ZhD Γ T ps=some x){vs:List (Nat×Value)}(hl:vs.length=ps.length)
 (hr:∀(j:Nat) (v:Nat×Value) (p:Nat×PV),vs[j]?=some v→ps[j]?=some p→v.1=p.1∧Rep hw w v.2 p.2):
 ∃v,(Instr.build T vs.toArray).run P w= .ok v w∧Rep hw w v x:=by
 unfold ZhD at h
 split at h
 ·rename_i sz by_ zc fs e n hty
  have hT:=ZF (hΓ T _ hty)
  obtain ⟨fs',hu,hf⟩:=kd1 hT rfl
  obtain ⟨z,hz,hzc,h1,_⟩:=X8 hT w
  split at h
  ·rename_i pl hpl
   split at h
   ·rename_i cs hcs
    have:=Qa_ h
    subst this
    obtain ⟨e1,e2⟩:=ZmV hpl
    simp only at hf hzc
    have hfl:fs.length=fs'.size:=by rw[hf];simp
    have hszf:∀fd∈fs'.toList,∃fty,TyIs P fd.type fty:=by
     intro fd hfd
     obtain ⟨j,hj⟩:=List.getElem?_of_mem hfd
     have hj':fs[j]?=some (fd.offset,fd.type):=by rw[hf,Q6_,hj];rfl
     have hlt:j < pl.length:=by rw[←e1];exact (Qo_.1 hj').1
     obtain ⟨fty,hfty,_⟩:=e2 j _ pl[j] hj' (Qg_ hlt)
     exact ⟨fty,ZF (hΓ _ _ hfty)⟩
    let sz:Field→Nat:=fun fd=>((P.info? fd.type).map (·.size)).getD 0
    have hsz:∀fd fty,TyIs P fd.type fty→sz fd=fty.size:=by
     intro fd fty ht
     obtain ⟨i,z,hi,_,hs,_⟩:=ht.info
     simp only[sz,hi,hs,K5_,Kq_]
    have hmap:(fs'.mapM (m:=Sem) fun f=>do pure (f.offset,←sizeOf f.type)).run P w= .ok (fs'.map fun fd=>(fd.offset,sz fd)) w:=by
     rw[Array.mapM_eq_mapM_toList,Sem.run_map,ZjW _ (fun fd=>(fd.offset,sz fd)) _ w (fun fd hfd=>?_),Result.andThen_ok]
     ·congr 1
      apply QW_
      simp
     ·obtain ⟨fty,hft⟩:=hszf fd hfd
      simp[ZP hft,hsz fd fty hft]
    have hpl':∀(i:Nat) (q:Nat×Nat),pl[i]?=some q→(fs'.map fun fd=>(fd.offset,sz fd))[i]?=some q:=by
     intro i q hq
     have hlt:i < fs.length:=by rw[e1];exact (Qo_.1 hq).1
     obtain ⟨fty,hfty,hqe⟩:=e2 i fs[i] q (Qg_ hlt) hq
     have hlt':i < fs'.size:=by omega
     have hfi:fs[i]=(fs'[i].offset,fs'[i].type):=by simp[hf]
     rw[hfi] at hfty hqe
     simp only[Array.getElem?_map,QC_ hlt',K5_]
     rw[hqe,hsz _ _ (ZF (hΓ _ _ hfty))]
    rw[hzc] at hcs
    obtain ⟨out,f1,f2,_⟩:=Js (hw:=hw) (w:=w) hpl' ps vs z.cells.toList _ cs (CellsRep.zero h1) hl hr hcs
    refine ⟨.agg out.toArray, ?_,f2.agg⟩
    unfold Instr.build
    have f1':Instr.fill (fun x=>(fs'.map fun fd=>(fd.offset,sz fd))[x]?) z.cells vs=some out.toArray:=by
     rw[Array.toArray_toList] at f1
     exact f1
    simp only[Sem.run_bind,hz,Result.andThen_ok,run_underlying hu,hmap]
    rw[f1']
    rfl
   ·cases h
  ·cases h
 ·rename_i sz by_ zc fs e n hty
  have hT:=ZF (hΓ T _ hty)
  obtain ⟨hk2,_,_⟩:=Ym hT
  have hu:=hk2 rfl
  obtain ⟨z,hz,hzc,h1,_⟩:=X8 hT w
  split at h
  ·rename_i ety hety
   split at h
   ·rename_i cs hcs
    have:=Qa_ h
    subst this
    simp only at hu hzc
    rw[hzc] at hcs
    obtain ⟨out,f1,f2,_⟩:=Js (hw:=hw) (w:=w) (pl:=fun i=>some (i *ety.size,ety.size)) (fun i q hq=>hq) ps vs z.cells.toList _ cs (CellsRep.zero h1) hl hr hcs
    refine ⟨.agg out.toArray, ?_,f2.agg⟩
    have f1':Instr.fill (fun i=>some (i *ety.size,ety.size)) z.cells vs=some out.toArray:=by simpa using f1
    unfold Instr.build
    simp[hz,run_underlying hu,ZP (ZF (hΓ _ _ hety)),f1']
   ·cases h
  ·cases h
 ·cases h
end
section
variable {P:Program}{B:Nat}{g:G}{σ:St}{a:Act}{w:World}{o:Oper}
theorem ZcL{hw hw':Nat→Nat}{w:World}(hl:∀k,w.heap.size≤k→hw k=0)(hh:∀k,k≠w.heap.size→hw' k=hw k)(ob:Obj):Qt hw w hw' (w.alloc ob):=
 ⟨(Below.refl _ _).alloc (Q2_ _) _,fun k hk=>hh k (by omega),fun k hk=>by rw[hh k (by simp at hk;omega)];exact hl k (by simp at hk;omega)⟩
theorem ZcM{hw:Nat→Nat}{w:World}(hl:∀k,w.heap.size≤k→hw k=0){vs rest:List Value}{cs:List PV}(hc:CellsRep hw w vs cs){n s cap:Nat}(hn:cs.length=n *s)(hcap:n≤cap)(E:TypeId):
 Rep (fun k=>if k=w.heap.size then n *s else hw k) (w.alloc (.cells (vs++rest).toArray E)) (.slice (some ⟨w.heap.size,0,none⟩) n cap) (.lst (chunk s n cs)):=by
 have q:Qt hw w (fun k=>if k=w.heap.size then n *s else hw k) (w.alloc (.cells (vs++rest).toArray E)):=ZcL hl (fun k hk=>by simp[hk]) _
 have hx:=q.ext hl
 have getv:∀i j,i < n→j < s→i *s+j < vs.length:=by
  intro i j hi hj
  rw[hc.len,hn]
  have:=ZdD (off:=0) hi hj
  omega
 have key:=Rep.lst (hw:=fun k=>if k=w.heap.size then n *s else hw k) (w:=w.alloc (.cells (vs++rest).toArray E)) (chunk s n cs) w.heap.size 0 cap s (fun i j=>vs.getD (i *s+j) undef)
  (by rw[Wm];exact hcap)
  (fun i x hx=>by
    obtain ⟨h1,h2⟩:=Jg _ _ _ _ _ hx
    rw[h2]
    have:(i+1)*s≤n *s:=Kb_ s h1
    rw[Ko_] at this
    simp;omega)
  (fun i j hi hj=>by
    rw[Wm] at hi
    have:=getv i j hi hj
    rw[QP_,World.cell?_alloc_new]
    simp[QV_ this,this])
  (fun i j x y hx' hy=>by
    obtain ⟨h1,h2⟩:=Jg _ _ _ _ _ hx'
    subst h2
    rw[Kk_] at hy
    split at hy
    ·rename_i hj
     rw[Kd_] at hy
     have:=getv i j h1 hj
     simp only[Q7_,Qg_ this,Kq_]
     exact (hc.rep _ _ y (Qg_ this) hy).mono hx
    ·cases hy)
  (fun i j hi hj=>by
    rw[Wm] at hi
    have:=getv i j hi hj
    simp only[Q7_,Qg_ this,Kq_]
    exact hc.one _ (K1_ this))
  (by rw[Wm];simp)
 rw[Wm] at key
 exact key
theorem ZrI(n:Nat)(z:List PV):(reps n z).length=n *z.length:=by
 induction n with
 | zero=>simp[reps]
 | succ n ih=>simp[reps,ih,Ko_];omega
def YJ:Nat→List Value→List Value
 | 0,_=>[]
 | n+1,z=>z++YJ n z
theorem Zbi{hw:Nat→Nat}{w:World}{vs:List Value}(h1:∀x∈vs,x.oneCell'=true):∀n,CellsRep hw w (YJ n vs) (reps n (vs.map cv))
 | 0=>⟨rfl,fun j x y hx=>by simp[YJ] at hx,fun x hx=>by simp[YJ] at hx⟩
 | n+1=>(CellsRep.zero h1).append (Zbi h1 n)
theorem ZbI(n:Nat)(z:List Value):(YJ n z).length=n *z.length:=by
 induction n with
 | zero=>simp[YJ]
 | succ n ih=>simp[YJ,ih,Ko_];omega
theorem Ziu(z:List Value)(hz:0 < z.length):∀(n j:Nat),j < n *z.length→(YJ n z)[j]?=z[j % z.length]?
 | 0,j,h=>by simp at h
 | n+1,j,h=>by
   simp only[YJ]
   by_cases hj:j < z.length
   ·rw[QV_ hj,Nat.mod_eq_of_lt hj]
   ·have hge:z.length≤j:=by omega
    rw[Kl_ hge,Ziu z hz n (j - z.length) (by rw[Ko_] at h;omega),←Nat.mod_eq_sub_mod hge]
theorem ZaP{z:Array Value}(hz:0 < z.size)(n:Nat):((Array.range (n *z.size)).map fun i=>z[i % z.size]!)=(YJ n z.toList).toArray:=by
 apply QW_
 apply List.ext_getElem?
 intro j
 simp only[Array.toList_map,Array.toList_range,Q6_]
 by_cases hj:j < n *z.size
 ·rw[Kz_ hj,Ziu z.toList (by simpa using hz) n j (by simpa using hj)]
  have hm:j % z.size < z.size:=Nat.mod_lt _ hz
  simp[hm]
 ·rw[Ke_ (by simp;omega),Ke_ (by rw[ZbI];simp;omega)]
  rfl
theorem ZdI{Γ:List (Nat×Ty)}(hΓ:ZW P Γ){hw:Nat→Nat}{T:TypeId}{n:Nat}{ps:List (Nat×PV)}{x:PV}(h:XM Γ T n ps=some x)(hl0:∀k,w.heap.size≤k→hw k=0)
 {vs:List (Nat×Value)} (hl:vs.length=ps.length) (hr:∀(j:Nat) (v:Nat×Value) (p:Nat×PV),vs[j]?=some v→ps[j]?=some p→v.1=p.1∧Rep hw w v.2 p.2):
 ∃v w' hw',(Instr.buildSlice T n vs.toArray).run P w= .ok v w'∧Qt hw w hw' w'∧Rep hw' w' v x:=by
 unfold XM at h
 split at h
 ·rename_i sz by_ zc fs e m hty
  have hT:=ZF (hΓ T _ hty)
  obtain ⟨_,hk3,_⟩:=Ym hT
  have hu:=hk3 rfl
  simp only at hu
  split at h
  ·rename_i ety hety
   have hET:=ZF (hΓ _ _ hety)
   cases hb:(Nat.beq ety.size 0||Nat.ble 16777216 (n *ety.size)|| !(Nat.beq ety.zero.length ety.size)) with
   | true=>rw[hb] at h;cases h
   | false=>
     rw[hb] at h
     simp only[Qd_] at h
     simp only[Ka_,Qf_] at hb
     obtain ⟨⟨hb1,hb2⟩,hb3⟩:=hb
     have hs0:ety.size≠0:=fun h0=>by rw[h0] at hb1;exact absurd hb1 (by decide)
     have hn:n *ety.size < 16777216:=by
      rcases Kg_ (n *ety.size) 16777216 with h | h
      ·exact h
      ·rw[QF_ h] at hb2;cases hb2
     split at h
     ·rename_i cs hcs
      have:=Qa_ h
      subst this
      obtain ⟨z,hz,hzc,h1,hzs⟩:=X8 hET w
      rw[hzc] at hcs
      obtain ⟨out,f1,f2,f3⟩:=Js (hw:=hw) (w:=w) (pl:=fun i=>some (i *ety.size,ety.size)) (fun i q hq=>hq) ps vs (YJ n z.cells.toList) _ cs (Zbi h1 n) hl hr hcs
      have hol:out.length=n *ety.size:=by rw[f3,ZbI];simp[hzs]
      refine ⟨_,w.alloc (.cells out.toArray e),fun k=>if k=w.heap.size then n *ety.size else hw k, ?_,ZcL hl0 (fun k hk=>by simp[hk]) _,by
       have:=ZcM hl0 f2 (rest:=[]) (n:=n) (s:=ety.size) (cap:=n) (by rw[←f2.len,hol]) (Q2_ _) e
       rw[QI_] at this
       exact this⟩
      have hnot:¬(n *ety.size > 2 ^ 24):=by omega
      unfold Instr.buildSlice
      simp only[Sem.run_bind,run_underlying hu,Result.andThen_ok,ZP hET,hnot,Kv_]
      by_cases h0:n *ety.size=0
      ·have hn0:n=0:=by
        rcases Nat.mul_eq_zero.1 h0 with h | h
        ·exact h
        ·exact absurd h hs0
       subst hn0
       have f1':Instr.fill (fun i=>some (i *ety.size,ety.size)) #[] vs=some out.toArray:=f1
       have e0:(Array.range 0).map (fun i=>(#[]:Array Value)[i % (#[]:Array Value).size]!)=#[]:=by apply QW_;simp
       simp only[Nat.zero_mul,Ku_,pure_bind,e0]
       rw[f1']
       rfl
      ·have hzp:0 < z.cells.size:=by omega
       have e1:=ZaP hzp n
       rw[hzs] at e1
       simp only[h0,Kv_,Sem.run_bind,hz,Result.andThen_ok,Sem.run_pure,hzs,e1]
       have f1':Instr.fill (fun i=>some (i *ety.size,ety.size)) (YJ n z.cells.toList).toArray vs=some out.toArray:=f1
       rw[f1']
       simp[newRow]
     ·cases h
  ·cases h
 ·cases h
end
section
variable {P:Program}{B:Nat}{g:G}{σ:St}{a:Act}{w:World}{o:Oper}
theorem Zan{h1 h2:Nat→Nat}{w1 w2:World}{v:Value}{x:PV}(hf:Zga x=true)(h:Rep h1 w1 v x):Rep h2 w2 v x:=by
 cases h with
 | v _ h1=>exact .v v h1
 | str l=>exact .str l
 | _=>simp[Zga] at hf
theorem Zfp{h1 h2:Nat→Nat}{w1 w2:World}{v:Value}{cs:List PV}(hf:cs.all Zga=true)(h:Rep h1 w1 v (.agg cs)):Rep h2 w2 v (.agg cs):=by
 obtain ⟨vs,rfl,hc⟩:=Wl h
 exact .agg vs cs hc.len (fun j x y hx hy=>Zan (QK_.1 hf y (Qz_ hy)) (hc.rep j x y hx hy)) hc.one
theorem ZjX{h1 h2:Nat→Nat}{w1 w2:World}{v:Value}{x:PV}(hf:flat x=true)(h:Rep h1 w1 v x):Rep h2 w2 v x:=by
 cases x with
 | v y=>exact Zan rfl h
 | str l=>exact Zan rfl h
 | agg cs=>exact Zfp hf h
 | tup vs=>
   cases h with
   | tup vv cs hl hr=>
     refine .tup vv vs hl (fun j x y hx hy=>?_)
     have hy':=QK_.1 hf y (Qz_ hy)
     have hr':=hr j x y hx hy
     cases y with
     | v z=>exact Zan rfl hr'
     | str l=>exact Zan rfl hr'
     | agg cs=>exact Zfp hy' hr'
     | _=>simp at hy'
 | nil=>simp[flat] at hf
 | lst xs=>simp[flat] at hf
 | lptr cs off=>simp[flat] at hf
 | fn f cs=>simp[flat] at hf
 | bld u=>simp[flat] at hf
 | bp _ _=>simp[flat] at hf
 | bs _ _ _ _=>simp[flat] at hf
theorem JJ{hw:Nat→Nat}{w:World}{v:Value}{x:PV}(h:Rep hw w v x):Rep hw w v (norm x):=h
def cover(g:G):List (Nat×List PV)→Nat
 | []=>0
 | (b,cs)::r=>(match g.β b with | some (_,base)=>base+cs.length | none=>0)+cover g r
theorem ZjY{g:G}:∀{bx:List (Nat×List PV)} {b:Nat} {cs:List PV} {k base:Nat},lk b bx=some cs→g.β b=some (k,base)→base+cs.length≤cover g bx
 | [],_,_,_,_,h,_=>by simp[lk] at h
 | (b',cs')::r,b,cs,k,base,h,hb=>by
   rw[Zs] at h
   unfold cover
   split at h
   ·rename_i e
    have:=Qa_ h
    subst this;subst e
    rw[hb]
    simp only
    omega
   ·have:=ZjY h hb
    omega
theorem ZjZ{N:Nat}(hI:Inv P B g σ a w)(hN:cover g σ.boxes≤N){b off:Nat}{cs:List PV}(hb:lk b σ.boxes=some cs)(hd:YD cs=true){v:Value}(hv:RepA g w v (.ptr b off)):
 Rep (fun k=>if k < w.heap.size then g.hw k+N else 0) w v (.lptr cs off):=by
 obtain ⟨k,base,hk,rfl⟩:=hv
 obtain ⟨k',base',hk',hlt,hok,_⟩:=hI.box b cs hb
 rw[hk] at hk'
 have:=Qa_ hk'
 cases this
 have hx:Ext g.hw w (fun k=>if k < w.heap.size then g.hw k+N else 0) w:=⟨fun _ _ _=>rfl,fun j=>by
  by_cases hj:j < w.heap.size
  ·simp[hj]
  ·rw[hI.hwlt j (by omega)];exact Kx_ _⟩
 have hcell:∀j,j < cs.length→∃v,w.cell? ⟨k,base+j,none⟩=some v∧v.oneCell'=true∧∀y,cs[j]?=some y→Rep g.hw w v y:=by
  intro j hj
  obtain ⟨v,h1,h2,_,h4⟩:=hok.cell j cs[j] (Qg_ hj)
  refine ⟨v,h1,h2,fun y hy=>?_⟩
  rw[Qg_ hj] at hy
  have:=Qa_ hy
  subst this
  exact h4.plain (WZ hd (Qg_ hj))
 refine .lptr cs k base off (fun j=>(w.cell? ⟨k,base+j,none⟩).getD undef) (fun j hj=>?_) (fun j y hy=>?_) (fun j hj=>?_) ?_
 ·obtain ⟨v,h1,_⟩:=hcell j hj;rw[h1];rfl
 ·have hj:=(Qo_.1 hy).1
  obtain ⟨v,h1,_,h3⟩:=hcell j hj
  rw[h1]
  exact (h3 y hy).mono hx
 ·obtain ⟨v,h1,h2,_⟩:=hcell j hj;rw[h1];exact h2
 ·simp only[hlt,Ku_]
  have:=ZjY (bx:=σ.boxes) hb hk
  omega
theorem Ziv:∀{bx:List (Nat×List PV)} {bs:List Nat} {l:List PV},ZaN bx bs=some l→bs.length=l.length∧∀(j b:Nat) (y:PV),bs[j]?=some b→l[j]?=some y→∃cs,lk b bx=some cs∧YD cs=true∧y= .lptr cs 0
 | _,[],l,h=>by have:=Qa_ h;subst this;exact ⟨rfl,fun j b y hb=>by simp at hb⟩
 | bx,b::bs,l,h=>by
   unfold ZaN at h
   split at h
   ·rename_i cs l' h1 h2
    cases hd:YD cs with
    | false=>rw[hd] at h;cases h
    | true=>
    rw[hd] at h
    have:=Qa_ h
    subst this
    obtain ⟨e1,e2⟩:=Ziv h2
    refine ⟨by simp[e1],fun j c y hc hy=>?_⟩
    cases j with
    | zero=>simp at hc hy;subst hc;subst hy;exact ⟨cs,h1,hd,rfl⟩
    | succ j=>exact e2 j c y (by simpa using hc) (by simpa using hy)
   ·cases h
theorem Zka{N:Nat}(hI:Inv P B g σ a w)(hN:cover g σ.boxes≤N){bs:List Nat}{l:List PV}(h:ZaN σ.boxes bs=some l){vs:List Value}(hl:vs.length=bs.length)
 (hv:∀(j:Nat) (v:Value) (b:Nat),vs[j]?=some v→bs[j]?=some b→∃k base,g.β b=some (k,base)∧v= .pointer (some ⟨k,base,none⟩)):
 ArgsRep (fun k=>if k < w.heap.size then g.hw k+N else 0) w vs l:=by
 obtain ⟨e1,e2⟩:=Ziv h
 refine ⟨by omega,fun j x y hx hy=>?_⟩
 have hj:j < bs.length:=by have:=(Qo_.1 hx).1;omega
 obtain ⟨cs,hcs,hd,rfl⟩:=e2 j bs[j] y (Qg_ hj) hy
 obtain ⟨k,base,h1,h2⟩:=hv j x bs[j] hx (Qg_ hj)
 exact ZjZ hI hN hcs hd ⟨k,base,h1,by rw[h2];rfl⟩
theorem Zkb{N:Nat}(hI:Inv P B g σ a w)(hN:cover g σ.boxes≤N){av:AV}{x:PV}{c:Bool}(h:hand σ.boxes av=some (x,c)){v:Value}(hv:RepA g w v av):
 Rep (fun k=>if k < w.heap.size then g.hw k+N else 0) w v x:=by
 have hx:Ext g.hw w (fun k=>if k < w.heap.size then g.hw k+N else 0) w:=⟨fun _ _ _=>rfl,fun j=>by
  by_cases hj:j < w.heap.size
  ·simp[hj]
  ·rw[hI.hwlt j (by omega)];exact Kx_ _⟩
 cases av with
 | p y=>
   have:=Qa_ h
   cases this
   exact (JJ hv).mono hx
 | ptr b off=>
   unfold hand at h
   split at h
   ·rename_i e;cases e
   ·rename_i b' off' e
    cases e
    split at h
    ·rename_i cs hcs
     cases hd:YD cs with
     | false=>rw[hd] at h;cases h
     | true=>
     rw[hd] at h
     have:=Qa_ h
     cases this
     exact ZjZ hI hN hcs hd hv
    ·cases h
   ·rename_i e;cases e
   ·rename_i e;cases e
 | sl b off n s=>
   unfold hand at h
   split at h
   ·rename_i e;cases e
   ·rename_i e;cases e
   ·rename_i e;cases e
   ·cases h
 | fnp f bs=>
   unfold hand at h
   split at h
   ·rename_i e;cases e
   ·rename_i e;cases e
   ·rename_i f' bs' e
    cases e
    split at h
    ·rename_i l hl
     have:=Qa_ h
     cases this
     obtain ⟨vs,rfl,h1,h2⟩:=hv
     have:=Zka hI hN hl h1 h2
     exact .fn f vs l this.len this.rep
    ·cases h
   ·rename_i e;cases e
theorem WL:∀{bx:List (Nat×List PV)} {l:List AV} {xs:List PV} {c:Bool},YQ bx l=some (xs,c)→l.length=xs.length∧∀(j:Nat) (av:AV) (x:PV),l[j]?=some av→xs[j]?=some x→∃d,hand bx av=some (x,d)∧(c=false→d=false)
 | _,[],xs,c,h=>by have:=Qa_ h;cases this;exact ⟨rfl,fun j b y hb=>by simp at hb⟩
 | bx,av::l,xs,c,h=>by
   unfold YQ at h
   split at h
   ·rename_i x d xs' c' h1 h2
    have:=Qa_ h
    cases this
    obtain ⟨e1,e2⟩:=WL h2
    refine ⟨by simp[e1],fun j u y hu hy=>?_⟩
    cases j with
    | zero=>simp at hu hy;subst hu;subst hy;exact ⟨d,h1,fun hc=>by simp at hc;exact hc.1⟩
    | succ j=>
      obtain ⟨d',h3,h4⟩:=e2 j u y (by simpa using hu) (by simpa using hy)
      exact ⟨d',h3,fun hc=>h4 (by simp at hc;exact hc.2)⟩
   ·cases h
theorem ArgsRep.append{hw:Nat→Nat}{w:World}{vs vs':List Value}{cs cs':List PV}(h:ArgsRep hw w vs cs)(h':ArgsRep hw w vs' cs'):ArgsRep hw w (vs++vs') (cs++cs'):=
 ⟨by simp[h.len,h'.len],fun j x y hx hy=>by
   rw[Ky_] at hx hy
   rw[h.len] at hx
   split at hx
   ·rename_i hj;rw[if_pos hj] at hy;exact h.rep j x y hx hy
   ·rename_i hj;rw[if_neg hj] at hy;exact h'.rep _ x y hx hy⟩
theorem Ju{f:FuncId}{vals:Array Value}{K:Value→World→Prop}(h:CallRes P f vals w K)(hr:∀r,(callFunc f vals).run P w=r→(execOp a.eval o).run P w=r):OpRes P o a w K:=by
 rcases h with ⟨v,w',h1,h2⟩ | ⟨f',h1,h2⟩
 ·exact .inl ⟨v,w',hr _ h1,h2⟩
 ·exact .inr (.inr ⟨f',vals,w,hr _ h1,h2⟩)
theorem Zgg(hI:Inv P B g σ a w)(N:Nat):GlobOk (fun k=>if k < w.heap.size then g.hw k+N else 0) w:=
 hI.glob.1.mono ⟨fun _ _ _=>rfl,fun j=>by
   by_cases hj:j < w.heap.size
   ·simp[hj]
   ·rw[hI.hwlt j (by omega)];exact Kx_ _⟩ (fun _ _ _=>rfl)
theorem Ziw{f:FuncId}{vals:List Value}{xs:List PV}{r:PV}(hc:Con P f xs r)(hf:flat r=true){N:Nat}
 (ha:ArgsRep (fun k=>if k < w.heap.size then g.hw k+N else 0) w vals xs) (hgl:GlobOk (fun k=>if k < w.heap.size then g.hw k+N else 0) w):
 CallRes P f vals.toArray w fun v w'=>∃g',PRes g σ a w o ⟨.p r,none,none⟩ v w' g':=by
 refine (hc _ w vals (fun k hk=>by simp;omega) hgl ha).mono fun v w' ⟨hw',q,hr⟩=>?_
 refine ⟨⟨g.β,fun k=>if k < w.heap.size then g.hw k else hw' k⟩,⟨q.below,fun k hk=>by simp[hk],fun k hk=>?_⟩,ZjX hf hr,fun _=>rfl,fun _ h=>absurd h (by simp),fun _ h=>absurd h (by simp),
  fun _=>⟨fun _ _ h=>absurd h (by simp),fun _ _ h=>absurd h (by simp),fun _ _ _ _ h=>absurd h (by simp)⟩⟩
 have:=q.below.size
 have h1:¬k < w.heap.size:=by omega
 simp only[h1,Kv_]
 exact q.hwlt k hk
theorem ZrJ(hI:Inv P B g σ a w){f:FuncId}{vals:List Value}{xs:List PV}{r:PV}(hc:Con P f xs r)(ha:ArgsRep g.hw w vals xs):
 CallRes P f vals.toArray w fun v w'=>∃g',PRes g σ a w o ⟨.p r,none,none⟩ v w' g':=
 (hc _ w vals hI.hwlt hI.glob.1 ha).mono fun _ _ ⟨hw',q,hr⟩=>⟨⟨g.β,hw'⟩,q,hr,fun _=>rfl,fun _ h=>absurd h (by simp),fun _ h=>absurd h (by simp),
   fun _=>⟨fun _ _ h=>absurd h (by simp),fun _ _ h=>absurd h (by simp),fun _ _ _ _ h=>absurd h (by simp)⟩⟩
theorem ZnK(hI:Inv P B g σ a w){l:List AV}{vals:List Value}(hl:vals.length=l.length)(hv:∀(j:Nat) (v:Value) (av:AV),vals[j]?=some v→l[j]?=some av→RepA g w v av)
 {xs:List PV} {c:Bool} (hh:YQ σ.boxes l=some (xs,c)) {cs:List PV} {cvs:List Value} (hcaps:ArgsRep g.hw w cvs cs) {f:FuncId} {r:PV} (hc:Con P f (xs++cs) r) (hf:(!c||flat r)=true):
 CallRes P f (vals++cvs).toArray w fun v w'=>∃g',PRes g σ a w o ⟨.p r,none,none⟩ v w' g':=by
 obtain ⟨e1,e2⟩:=WL hh
 have getl:∀{j:Nat} {v:Value},vals[j]?=some v→∃av,l[j]?=some av:=by
  intro j v hj
  have:j < l.length:=by have:=(Qo_.1 hj).1;omega
  exact ⟨_,Qg_ this⟩
 cases c with
 | false=>
   refine ZrJ hI hc (ArgsRep.append ⟨by omega,fun j x y hx hy=>?_⟩ hcaps)
   obtain ⟨av,hav⟩:=getl hx
   obtain ⟨d,h3,h4⟩:=e2 j av y hav hy
   have hd:=h4 rfl
   subst hd
   have hr:=hv j x av hx hav
   cases av with
   | p z=>
     have:=Qa_ h3
     cases this
     exact JJ hr
   | ptr b off=>
     unfold hand at h3
     split at h3
     ·rename_i e;cases e
     ·split at h3
      ·rename_i cs0 _
       cases hd:YD cs0<;>rw[hd] at h3<;>cases h3
      ·cases h3
     ·rename_i e;cases e
     ·rename_i e;cases e
   | sl b off n s=>
     unfold hand at h3
     split at h3
     ·rename_i e;cases e
     ·rename_i e;cases e
     ·rename_i e;cases e
     ·cases h3
   | fnp f bs=>
     unfold hand at h3
     split at h3
     ·rename_i e;cases e
     ·rename_i e;cases e
     ·split at h3
      ·cases h3
      ·cases h3
     ·rename_i e;cases e
 | true=>
   have hx:Ext g.hw w (fun k=>if k < w.heap.size then g.hw k+cover g σ.boxes else 0) w:=⟨fun _ _ _=>rfl,fun j=>by
    by_cases hj:j < w.heap.size
    ·simp[hj]
    ·rw[hI.hwlt j (by omega)];exact Kx_ _⟩
   refine Ziw hc (by simpa using hf) (N:=cover g σ.boxes) (ArgsRep.append ⟨by omega,fun j x y hx hy=>?_⟩ ⟨hcaps.len,fun j x y h1 h2=>(hcaps.rep j x y h1 h2).mono hx⟩) (Zgg hI _)
   obtain ⟨av,hav⟩:=getl hx
   obtain ⟨d,h3,_⟩:=e2 j av y hav hy
   exact Zkb hI (Q2_ _) h3 (hv j x av hx hav)
theorem Zmt(hI:Inv P B g σ a w){l:List AV}{vals:List Value}(hl:vals.length=l.length)(hv:∀(j:Nat) (v:Value) (av:AV),vals[j]?=some v→l[j]?=some av→RepA g w v av)
 {xs:List PV} {c:Bool} (hh:YQ σ.boxes l=some (xs,c)) {bs:List Nat} {cs:List PV} (hb:ZaN σ.boxes bs=some cs) {cvs:List Value} (hcl:cvs.length=bs.length)
 (hcv:∀(j:Nat) (v:Value) (b:Nat),cvs[j]?=some v→bs[j]?=some b→∃k base,g.β b=some (k,base)∧v= .pointer (some ⟨k,base,none⟩)) {f:FuncId} {r:PV} (hc:Con P f (xs++cs) r) (hf:flat r=true):
 CallRes P f (vals++cvs).toArray w fun v w'=>∃g',PRes g σ a w o ⟨.p r,none,none⟩ v w' g':=by
 obtain ⟨e1,e2⟩:=WL hh
 refine Ziw hc hf (N:=cover g σ.boxes) (ArgsRep.append ⟨by omega,fun j x y hx hy=>?_⟩ (Zka hI (Q2_ _) hb hcl hcv)) (Zgg hI _)
 have hj:j < l.length:=by have:=(Qo_.1 hx).1;omega
 obtain ⟨d,h3,_⟩:=e2 j l[j] y (Qg_ hj) hy
 exact Zkb hI (Q2_ _) h3 (hv j x l[j] hx (Qg_ hj))
end
section
variable {P:Program}{B:Nat}{g:G}{σ:St}{a:Act}{w:World}{o:Oper}
theorem Zao{α:Type}{t:Nat}{x:α}:∀{l:List (Nat×α)},lk t l=some x→(t,x)∈l
 | [],h=>by simp[lk] at h
 | (k,y)::r,h=>by
   rw[Zs] at h
   split at h
   ·rename_i e;have:=Qa_ h;subst this;subst e;simp
   ·exact Qq_ _ (Zao h)
theorem ZpL(hI:Inv P B g σ a w){t:Nat}{v:PV}{l:Loc}(h:Wj σ v (.t t)=some l):LocIs g a w l (a.tmps.getD t undef):=by
 unfold Wj at h
 split at h
 ·simp only at h
  split at h
  ·rename_i l' hl
   have:=Qa_ h
   subst this
   exact hI.al t l' (Zao hl)
  ·have:=Qa_ h
   subst this
   exact rfl
 ·have:=Qa_ h
  subst this
  exact rfl
 ·cases h
theorem ZrK{v:PV}{b c:Nat}{l:Loc}(h:Wj σ v (.b b c)=some l):l= .b b c:=by
 unfold Wj at h
 split at h
 ·exact (Qa_ h).symm
 ·exact (Qa_ h).symm
 ·cases h
theorem ZpM{v:PV}{l l':Loc}(h:Wj σ v l=some l'):(∃xs,v= .lst xs)∨v= .nil:=by
 unfold Wj at h
 split at h
 ·exact .inl ⟨_,rfl⟩
 ·exact .inr rfl
 ·cases h
theorem ZtJ{ty:Ty}{cs:List PV}{off:Nat}{x:PV}(h:rd ty cs off=some x)(hx:(∃xs,x= .lst xs)∨x= .nil):cs[off]?=some x∧ty.agg=false:=by
 unfold rd at h
 cases hb:Nat.ble (off+ty.size) cs.length with
 | false=>rw[hb] at h;cases h
 | true=>
   rw[hb] at h
   simp only[Qb_] at h
   cases ha:ty.agg with
   | true=>
     rw[ha] at h
     simp only[Qb_] at h
     cases hd:YD ((cs.drop off).take ty.size) with
     | false=>rw[hd] at h;cases h
     | true=>
     rw[hd] at h
     have:=Qa_ h
     subst this
     rcases hx with ⟨xs,hx⟩ | hx<;>cases hx
   | false=>
     rw[ha] at h
     simp only[Qd_] at h
     cases hb1:Nat.beq ty.size 1 with
     | false=>rw[hb1] at h;cases h
     | true=>rw[hb1] at h;exact ⟨(ZhF h).1,rfl⟩
theorem ZtK{l:List Operand}{r:List PV}(hI:Inv P B g σ a w)(h:Xt (Zw σ) l=some r):ArgsRep g.hw w (l.map a.eval) r:=by
 obtain ⟨e1,e2⟩:=Zbh h
 refine ⟨by simp[e1],fun j x y hx hy=>?_⟩
 rw[Q6_] at hx
 cases hl:l[j]? with
 | none=>rw[hl] at hx;cases hx
 | some z=>
   rw[hl] at hx
   have:=Qa_ hx
   subst this
   exact Zt hI (e2 j z y hl hy)
theorem Zcz{l:List Operand}{r:List AV}(hI:Inv P B g σ a w)(h:Xt (opd σ) l=some r):(l.map a.eval).length=r.length∧∀(j:Nat) (v:Value) (av:AV),(l.map a.eval)[j]?=some v→r[j]?=some av→RepA g w v av:=by
 obtain ⟨e1,e2⟩:=Zbh h
 refine ⟨by simp[e1],fun j x y hx hy=>?_⟩
 rw[Q6_] at hx
 cases hl:l[j]? with
 | none=>rw[hl] at hx;cases hx
 | some z=>
   rw[hl] at hx
   have:=Qa_ hx
   subst this
   exact ZD hI (e2 j z y hl hy)
theorem Zf5{l:List (Nat×Operand)}{r:List (Nat×PV)}(hI:Inv P B g σ a w)(h:Xt (fun (x:Nat×Operand)=>match Zw σ x.2 with | some v=>some (x.1,v) | none=>none) l=some r):
 (l.map fun x=>(x.1,a.eval x.2)).length=r.length∧∀(j:Nat) (v:Nat×Value) (p:Nat×PV),(l.map fun x=>(x.1,a.eval x.2))[j]?=some v→r[j]?=some p→v.1=p.1∧Rep g.hw w v.2 p.2:=by
 obtain ⟨e1,e2⟩:=Zbh h
 refine ⟨by simp[e1],fun j x y hx hy=>?_⟩
 rw[Q6_] at hx
 cases hl:l[j]? with
 | none=>rw[hl] at hx;cases hx
 | some z=>
   rw[hl] at hx
   have:=Qa_ hx
   subst this
   have:=e2 j z y hl hy
   split at this
   ·rename_i v hv
    have:=Qa_ this
    subst this
    exact ⟨rfl,Zt hI hv⟩
   ·cases this
theorem Zfq:∀{l:List AV} {bs:List Nat},Zbb l=some bs→l.length=bs.length∧∀(j:Nat) (av:AV) (b:Nat),l[j]?=some av→bs[j]?=some b→av= .ptr b 0
 | [],bs,h=>by have:=Qa_ h;subst this;exact ⟨rfl,fun j av b h=>by simp at h⟩
 | .p x::r,bs,h=>by simp[Zbb] at h
 | .fnp f l::r,bs,h=>by simp[Zbb] at h
 | .ptr b off::r,bs,h=>by
   unfold Zbb at h
   cases hb:Nat.beq off 0 with
   | false=>rw[hb] at h;cases h
   | true=>
     rw[hb] at h
     simp only[Qb_] at h
     have:=Qj_ hb
     subst this
     split at h
     ·rename_i l hl
      have:=Qa_ h
      subst this
      obtain ⟨e1,e2⟩:=Zfq hl
      refine ⟨by simp[e1],fun j av c h1 h2=>?_⟩
      cases j with
      | zero=>simp at h1 h2;subst h1;subst h2;rfl
      | succ j=>exact e2 j av c (by simpa using h1) (by simpa using h2)
     ·cases h
abbrev Good(P:Program)(g:G)(σ:St)(a:Act)(w:World)(o:Oper)(res:Res):Prop:=OpRes P o a w fun v w'=>∃g',PRes g σ a w o res v w' g'
theorem ZI{s:Sem Value}{v:Value}{w w':World}(h:s.run P w= .ok v w'):(do pure (.value (←s)):Sem Next).run P w= .ok (.value v) w':=by
 rw[Sem.run_bind,h];rfl
theorem Zmu{T:TypeId}{ty:Ty}(hT:TyIs P T ty)(hk:ty.kd=3){w:World}{xs:List (List PV)}{hw:Nat→Nat}{v:Value}(hv:Rep hw w v (.lst xs)){n:Int}{k:IntKind}{y:List PV}{ety:Ty}(hE:TyIs P ty.elem ety)
 (h0:0≤n) (hy:xs[n.toNat]?=some y) (hl:y.length=ety.size):∃u,(Instr.indexAt T v (.int k n)).run P w= .ok u w∧Rep hw w u (.lptr y 0):=by
 obtain ⟨_,hk3,_⟩:=Ym hT
 have hu:=hk3 hk
 have hlt:n.toNat < xs.length:=(Qo_.1 hy).1
 cases hv with
 | lnil=>simp at hy
 | lst xs blk off cap s c hcap hlen hc hr h1 hh=>
   have hs:s=ety.size:=by rw[←hl];exact (hlen _ _ hy).symm
   subst hs
   refine ⟨.pointer (some ⟨blk,off+n.toNat *ety.size+0,none⟩), ?_, ?_⟩
   ·have hc1:(0:Int)≤n∧n < (xs.length:Int):=⟨h0,by omega⟩
    simp[Instr.indexAt,asIntOf,run_underlying hu,hc1,ZP hE,Addr.add_lit]
   ·refine .lptr y blk (off+n.toNat *ety.size) 0 (fun j=>c n.toNat j) (fun j hj=>?_) (fun j z hz=>hr _ _ y z hy hz) (fun j hj=>h1 _ _ hlt (by omega)) ?_
    ·rw[show off+n.toNat *ety.size+j=off+(n.toNat *ety.size+j) by omega]
     exact hc _ _ hlt (by omega)
    ·rw[hl]
     have:(n.toNat+1)*ety.size≤xs.length *ety.size:=Kb_ _ hlt
     rw[Ko_] at this
     omega
theorem Zix{T:TypeId}{ty:Ty}(hT:TyIs P T ty)(hk:ty.kd=2){w:World}{k0 b0:Nat}{n:Int}{k:IntKind}{ety:Ty}(hE:TyIs P ty.elem ety)(h0:0≤n∧n < ty.len):
 (Instr.indexAt T (.pointer (some ⟨k0,b0,none⟩)) (.int k n)).run P w= .ok (.pointer (some ⟨k0,b0+n.toNat *ety.size,none⟩)) w:=by
 obtain ⟨hk2,_,_⟩:=Ym hT
 have hu:=hk2 hk
 simp[Instr.indexAt,asIntOf,run_underlying hu,Instr.sureAddr,h0,ZP hE,Addr.add_lit]
end
section
variable {P:Program}{B:Nat}{g:G}{σ:St}{a:Act}{w:World}{o:Oper}
theorem Zgh(hI:Inv P B g σ a w){x:Operand}(hop:(execOp a.eval o).run P w= .ok (.value (a.eval x)) w){os os' ob:List Obl}{res:Res}
 (h:(match opd σ x with
   | some (.p v)=>some ((⟨.p v,none,Jq σ v x⟩:Res),os,([]:List Obl))
   | some a=>some (⟨a,none,none⟩,os,[])
   | none=>none)=some (res,os',ob)):Good P g σ a w o res:=by
 split at h
 ·rename_i v hv
  injection h with h
  injection h with h1 _
  subst h1
  refine here hI hop (ZD hI hv) (fun l hl=>?_) ⟨fun _ _ h=>absurd h (by simp),fun _ _ h=>absurd h (by simp),fun _ _ _ _ h=>absurd h (by simp)⟩
  cases x with
  | tmp t=>exact ZpL hI hl
  | const _=>exact absurd hl (by simp[Jq])
  | global _=>exact absurd hl (by simp[Jq])
  | func _=>exact absurd hl (by simp[Jq])
 ·rename_i av hav hv
  injection h with h
  injection h with h1 _
  subst h1
  refine here hI hop (ZD hI hv) (fun _ h=>absurd h (by simp)) ?_
  have ht:∃t,x= .tmp t∧lk t σ.tmps=some av∨∃y,av= .p y:=by
   cases x with
   | tmp t=>exact ⟨t,.inl ⟨rfl,hv⟩⟩
   | const v=>
     simp only[opd] at hv
     split at hv
     ·exact ⟨0,.inr ⟨_,(Qa_ hv).symm⟩⟩
     ·cases hv
   | global g=>
     simp only[opd] at hv
     split at hv
     ·exact ⟨0,.inr ⟨_,(Qa_ hv).symm⟩⟩
     ·cases hv
   | func f=>exact ⟨0,.inr ⟨_,(Qa_ hv).symm⟩⟩
  obtain ⟨t,ht⟩:=ht
  rcases ht with ⟨_,ht⟩ | ⟨y,hy⟩
  ·exact ⟨fun b off e=>by subst e;exact hI.ptr t b off ht,fun f bs e=>by subst e;exact hI.fnp t f bs ht,fun b off n s e=>by subst e;exact hI.sl t b off n s ht⟩
  ·subst hy;exact ⟨fun _ _ h=>absurd h (by simp),fun _ _ h=>absurd h (by simp),fun _ _ _ _ h=>absurd h (by simp)⟩
 ·cases h
theorem ZnL{Γ:List (Nat×Ty)}(hΓ:ZW P Γ)(hI:Inv P B g σ a w){T:TypeId}{p:Operand}(hop:∀v,(Instr.loadAt T (a.eval p)).run P w= .ok v w→(execOp a.eval o).run P w= .ok (.value v) w){os os' ob:List Obl}{res:Res}
 (h:(match opd σ p with
   | some a=>(match Zcx Γ σ.boxes T a with
     | some x=>some ((⟨.p x,none,Zal σ x a⟩:Res),os,([]:List Obl))
     | none=>none)
   | none=>none)=some (res,os',ob)):Good P g σ a w o res:=by
 split at h
 ·rename_i av hav
  split at h
  ·rename_i x hx
   injection h with h
   injection h with h1 _
   subst h1
   have hrep:=ZD hI hav
   obtain ⟨v,h1,h2⟩:=Zgc hΓ hI hx hrep
   refine here hI (hop v h1) h2 (fun l hl=>?_) ⟨fun _ _ h=>absurd h (by simp),fun _ _ h=>absurd h (by simp),fun _ _ _ _ h=>absurd h (by simp)⟩
   cases av with
   | p y=>exact absurd hl (by simp[Zal])
   | fnp f bs=>exact absurd hl (by simp[Zal])
   | sl b off n s=>exact absurd hl (by simp[Zal])
   | ptr b off=>
     have hl:Wj σ x (.b b off)=some l:=hl
     have hll:=ZpM hl
     have:=ZrK hl
     subst this
     unfold Zcx at hx
     simp only at hx
     split at hx
     ·rename_i ty cs hty hcs
      obtain ⟨hcell,hagg⟩:=ZtJ hx hll
      obtain ⟨k,base,hk,hp⟩:=hrep
      obtain ⟨k',base',hk',_,hok,_⟩:=hI.box b cs hcs
      rw[hk] at hk'
      have:=Qa_ hk'
      cases this
      obtain ⟨u,hu,_⟩:=hok.cell off x hcell
      refine ⟨k,base,hk, ?_⟩
      rw[hu]
      have hT:=ZF (hΓ T ty hty)
      have:(Instr.loadAt T (a.eval p)).run P w= .ok u w:=by
       rw[hp]
       simp only[Instr.loadAt,Instr.sureAddr,Sem.run_bind,Sem.run_pure,Result.andThen_ok]
       unfold loadVar
       rw[Sem.run_bind,Zam hT w,Result.andThen_ok,hagg]
       simp[hu]
      rw[this] at h1
      injection h1 with h1
      rw[h1]
     ·cases hx
  ·cases h
 ·cases h
theorem Zgi{Γ:List (Nat×Ty)}(hΓ:ZW P Γ)(hI:Inv P B g σ a w){T:TypeId}{p:Operand}{f:Nat}(hop:∀v,(Instr.fieldAt T (a.eval p) f).run P w= .ok v w→(execOp a.eval o).run P w= .ok (.value v) w){os os' ob:List Obl}{res:Res}
 (h:(match opd σ p with
   | some a=>(match Zci Γ T f a with
     | some a'=>some ((⟨a',none,none⟩:Res),os,([]:List Obl))
     | none=>none)
   | none=>none)=some (res,os',ob)):Good P g σ a w o res:=by
 split at h
 ·rename_i av hav
  split at h
  ·rename_i a' ha'
   injection h with h
   injection h with h1 _
   subst h1
   have hrep:=ZD hI hav
   unfold Zci at ha'
   split at ha'
   ·rename_i off fty hf
    split at ha'
    ·rename_i b o'
     have:=Qa_ ha'
     subst this
     obtain ⟨k,base,hk,hp⟩:=hrep
     refine here hI (hop _ ?_) ⟨k,base,hk,rfl⟩ (fun _ h=>absurd h (by simp)) ⟨fun b' off' e=>?_,fun _ _ h=>absurd h (by simp),fun _ _ _ _ h=>absurd h (by simp)⟩
     ·rw[hp,Zd6 hΓ hf]
      rw[Kr_]
     ·cases e
      cases p with
      | tmp t=>exact hI.ptr t b o' hav
      | const v=>simp only[opd] at hav;split at hav<;>cases hav
      | global _=>simp only[opd] at hav;split at hav<;>cases hav
      | func _=>exact absurd hav (by simp[opd])
    ·rename_i cs o'
     have:=Qa_ ha'
     subst this
     have hrep':Rep g.hw w (a.eval p) (.lptr cs o'):=hrep
     generalize hv:a.eval p=v at *
     cases hrep' with
     | lptr cs blk base off' c hc hr h1 hh=>
       refine Xz hI (v:= .pointer (some ⟨blk,base+(o'+off),none⟩)) (hop _ ?_) (.lptr cs blk base (o'+off) c hc hr h1 hh)
       rw[Zd6 hΓ hf,Kr_]
    ·cases ha'
   ·cases ha'
  ·cases h
 ·cases h
theorem Zc0(hI:Inv P B g σ a w){x:Operand}{b off:Nat}(h:opd σ x=some (.ptr b off)):∃cs,lk b σ.boxes=some cs:=by
 cases x with
 | tmp t=>exact hI.ptr t b off h
 | const v=>simp only[opd] at h;split at h<;>cases h
 | global _=>simp only[opd] at h;split at h<;>cases h
 | func _=>exact absurd h (by simp[opd])
theorem Y2{r:Out PV}{os' ob:List Obl}{res:Res}(h:(match r with | some (x,os,ob)=>some ((⟨.p x,none,none⟩:Res),os,ob) | none=>none)=some (res,os',ob)):
 ∃x,r=some (x,os',ob)∧res=⟨.p x,none,none⟩:=by
 split at h
 ·rename_i x os ob'
  injection h with h
  injection h with h1 h2
  injection h2 with h2 h3
  subst h1;subst h2;subst h3
  exact ⟨x,rfl,rfl⟩
 ·cases h
theorem Wn{r:Option PV}{os os' ob:List Obl}{res:Res}(h:(match r with | some x=>some ((⟨.p x,none,none⟩:Res),os,([]:List Obl)) | none=>none)=some (res,os',ob)):
 ∃x,r=some x∧res=⟨.p x,none,none⟩:=by
 split at h
 ·rename_i x
  injection h with h
  injection h with h1 h2
  subst h1
  exact ⟨x,rfl,rfl⟩
 ·cases h
theorem ZdJ(ps:Array (Nat×Operand))(f:Operand→Value):(ps.map fun (i,x)=>(i,f x))=(ps.toList.map fun x=>(x.1,f x.2)).toArray:=by
 apply QW_
 simp
theorem ZdK{Γ:List (Nat×Ty)}(hΓ:ZW P Γ)(hI:Inv P B g σ a w){os os' ob:List Obl}{res:Res}(h:Zj Γ σ o os=some (res,os',ob))(ho:ZM P ob):Good P g σ a w o res:=by
 obtain ⟨dst,op,type,pos,after,guard⟩:=o
 cases op with
 | move x=>exact Zgh hI (by simp[execOp]) h
 | assign x=>exact Zgh hI (by simp[execOp]) h
 | pick c x y=>
   simp only[Zj] at h
   split at h
   ·rename_i hc
    obtain ⟨v,hv,rfl⟩:=Wn h
    have:=Z6 (Zt hI hc)
    exact Xz hI (by simp[execOp,this,asBool]) (Zt hI hv)
   ·rename_i hc
    obtain ⟨v,hv,rfl⟩:=Wn h
    have:=Z6 (Zt hI hc)
    exact Xz hI (by simp[execOp,this,asBool]) (Zt hI hv)
   ·cases h
 | alloc T=>
   simp only[Zj] at h
   split at h
   ·rename_i ty d hty
    split at h
    ·rename_i hn
     injection h with h
     injection h with h1 _
     subst h1
     obtain ⟨z,hz,hzc,h1,_⟩:=X8 (ZF (hΓ T ty hty)) w
     rw[hzc]
     exact ZpK hI rfl hn (.inl (CellsRep.zero h1)) (T:=T) (by simp[execOp,Instr.alloc,hz,newVar,newRow])
    ·cases h
   ·cases h
 | box T x=>
   simp only[Zj] at h
   split at h
   ·rename_i v d hv
    split at h
    ·rename_i hn
     injection h with h
     injection h with h1 _
     subst h1
     have hr:=Zt hI hv
     refine ZpK hI rfl hn (vs:=(a.eval x).cells.toList) (T:=T) ?_ (by simp[execOp,Instr.box,newVar,newRow])
     by_cases he:v.cells=[]
     ·exact .inr he
     ·exact .inl (hr.cellsRep he)
    ·cases h
   ·cases h
 | build T ps=>
   simp only[Zj] at h
   split at h
   ·rename_i l hl
    obtain ⟨v,hv,rfl⟩:=Wn h
    obtain ⟨e1,e2⟩:=Zf5 hI hl
    obtain ⟨u,h1,h2⟩:=Zja (w:=w) hΓ hv e1 e2
    refine Xz hI ?_ h2
    simp only[execOp]
    rw[ZdJ]
    exact ZI h1
   ·cases h
 | buildSlice T n ps=>
   simp only[Zj] at h
   split at h
   ·rename_i l hl
    obtain ⟨v,hv,rfl⟩:=Wn h
    obtain ⟨e1,e2⟩:=Zf5 hI hl
    obtain ⟨u,w',hw',h1,h2,h3⟩:=ZdI (w:=w) hΓ hv hI.hwlt e1 e2
    refine .inl ⟨u,w', ?_,⟨g.β,hw'⟩,h2,h3,fun _=>rfl,fun _ h=>absurd h (by simp),fun _ h=>absurd h (by simp),fun _=>⟨fun _ _ h=>absurd h (by simp),fun _ _ h=>absurd h (by simp),fun _ _ _ _ h=>absurd h (by simp)⟩⟩
    simp only[execOp]
    rw[ZdJ]
    exact ZI h1
   ·cases h
 | load T p=>exact ZnL hΓ hI (fun v hv=>by simp only[execOp];exact ZI hv) h
 | fieldAddr T p f=>exact Zgi hΓ hI (fun v hv=>by simp only[execOp];exact ZI hv) h
 | field T x f=>
   simp only[Zj] at h
   split at h
   ·rename_i cs off fty hc hf
    obtain ⟨v,hv,rfl⟩:=Wn h
    obtain ⟨u,h1,h2⟩:=Zms (w:=w) hΓ hf (Zt hI hc) hv
    exact Xz hI (by simp only[execOp];exact ZI h1) h2
   ·cases h
 | nilCheck x=>
   simp only[Zj] at h
   split at h
   ·rename_i b off hx
    injection h with h
    injection h with h1 _
    subst h1
    have hr:=ZD hI hx
    obtain ⟨k,base,hk,hp⟩:=hr
    exact here hI (v:= .pointer (some ⟨k,base+off,none⟩)) (by simp[execOp,hp]) ⟨k,base,hk,rfl⟩ (fun _ h=>absurd h (by simp))
     ⟨fun b' off' e=>by cases e;exact Zc0 hI hx,fun _ _ h=>absurd h (by simp),fun _ _ _ _ h=>absurd h (by simp)⟩
   ·rename_i cs off hx
    injection h with h
    injection h with h1 _
    subst h1
    have hr:Rep g.hw w (a.eval x) (.lptr cs off):=ZD hI hx
    obtain ⟨k,base,hp,_⟩:=ZcI hr
    refine Xz hI (v:=a.eval x) ?_ hr
    rw[hp]
    simp[execOp,hp]
   ·rename_i f cs hx
    injection h with h
    injection h with h1 _
    subst h1
    have hr:Rep g.hw w (a.eval x) (.fn f cs):=ZD hI hx
    refine Xz hI (v:=a.eval x) ?_ hr
    generalize hv:a.eval x=v at *
    cases hr
    simp[execOp,hv]
   ·cases h
 | binOp op T x y yT=>
   simp only[Zj] at h
   split at h
   ·rename_i u v hu hv
    obtain ⟨r,hr,rfl⟩:=Y2 h
    obtain ⟨q,h1,h2⟩:=Zmr hr ho (Zt hI hu) (Zt hI hv) x y
    exact Xz hI (by simp only[execOp];exact ZI h1) h2
   ·cases h
 | unOp op T x=>
   simp only[Zj] at h
   split at h
   ·rename_i u hu
    obtain ⟨r,hr,rfl⟩:=Y2 h
    obtain ⟨q,h1,h2⟩:=ZnJ hr ho (Zt hI hu)
    exact Xz hI (by simp only[execOp];exact ZI h1) h2
   ·cases h
 | convert S T x=>
   simp only[Zj] at h
   split at h
   ·rename_i u S' T' x' r os2 hu
    injection h with h
    injection h with h1 h2
    injection h2 with h2 h3
    subst h1;subst h3
    obtain ⟨q,h1,h2⟩:=ho (.cvt S T u r) (by simp) g.hw w _ (Zt hI hu)
    exact Xz hI (by simp only[execOp];exact ZI h1) h2
   ·cases h
 | extract x i=>
   simp only[Zj] at h
   split at h
   ·rename_i vs hx
    obtain ⟨v,hv,rfl⟩:=Wn h
    have hr:=Zt hI hx
    generalize hq:a.eval x=q at *
    cases hr with
    | tup vv cs hl hrep=>
      have hi:i < vv.length:=by rw[hl];exact (Qo_.1 hv).1
      refine Xz hI (v:=vv[i]) ?_ (hrep i vv[i] v (Qg_ hi) hv)
      simp[execOp,hq,Instr.extract,hi]
   ·cases h
 | slice T x lo hi mx=>
   cases mx with
   | some m=>exact absurd h (by simp[Zj])
   | none=>
     simp only[Zj] at h
     split at h
     ·rename_i u hu
      have hru:=Zt hI hu
      split at h
      ·cases h
      ·rename_i l
       split at h
       ·rename_i lv hlv
        obtain ⟨r,hr,rfl⟩:=Y2 h
        obtain ⟨q,h1,h2⟩:=ZaG hΓ hr ho (vlo:=some (a.eval l)) (vhi:=none) hru (Zt hI hlv) trivial
        exact Xz hI (by simp only[execOp];exact ZI h1) h2
       ·cases h
      ·rename_i hh
       split at h
       ·rename_i hv hhv
        obtain ⟨r,hr,rfl⟩:=Y2 h
        obtain ⟨q,h1,h2⟩:=ZaG hΓ hr ho (vlo:=none) (vhi:=some (a.eval hh)) hru trivial (Zt hI hhv)
        exact Xz hI (by simp only[execOp];exact ZI h1) h2
       ·cases h
      ·rename_i l hh
       split at h
       ·rename_i lv hv hlv hhv
        obtain ⟨r,hr,rfl⟩:=Y2 h
        obtain ⟨q,h1,h2⟩:=ZaG hΓ hr ho (vlo:=some (a.eval l)) (vhi:=some (a.eval hh)) hru (Zt hI hlv) (Zt hI hhv)
        exact Xz hI (by simp only[execOp];exact ZI h1) h2
       ·cases h
     ·cases h
 | index T x i=>
   simp only[Zj] at h
   split at h
   ·rename_i u v hu hv
    obtain ⟨r,hr,rfl⟩:=Y2 h
    obtain ⟨q,h1,h2⟩:=ZiZ hΓ hr ho (Zt hI hu) (Zt hI hv)
    exact Xz hI (by simp only[execOp];exact ZI h1) h2
   ·cases h
 | indexAddr T x i=>
   simp only[Zj] at h
   split at h
   ·rename_i ty av k n hty hav hn
    have hT:=ZF (hΓ T ty hty)
    have hi:=Z6 (Zt hI hn)
    have hrep:=ZD hI hav
    split at h
    ·rename_i xs hk
     split at h
     ·rename_i ety xs' i' y os2 hety
      cases hb:(Nat.beq y.length ety.size&& !(Nat.beq ety.size 0)) with
      | false=>rw[hb] at h;cases h
      | true=>
        rw[hb] at h
        simp only[Qb_] at h
        injection h with h
        injection h with h1 h2
        injection h2 with h2 h3
        subst h1;subst h3
        rw[Qh_] at hb
        obtain ⟨q1,q2⟩:0≤n∧xs[n.toNat]?=some y:=ho (.idx xs n y) (by simp)
        obtain ⟨u,h1,h2⟩:=Zmu hT hk hrep (k:=k) (ZF (hΓ _ _ hety)) q1 q2 (Qj_ hb.1)
        exact Xz hI (by simp only[execOp,hi];exact ZI h1) h2
     ·cases h
    ·rename_i b off hk
     split at h
     ·rename_i ety p os2 hety
      injection h with h
      injection h with h1 h2
      injection h2 with h2 h3
      subst h1;subst h3
      have q1:0≤n∧n < ty.len:=ho (.pr _) (by simp)
      obtain ⟨k0,base,hk0,hp⟩:=hrep
      refine here hI (v:= .pointer (some ⟨k0,base+(off+n.toNat *ety.size),none⟩)) ?_ ⟨k0,base,hk0,rfl⟩ (fun _ h=>absurd h (by simp)) ⟨fun b' off' e=>by cases e;exact Zc0 hI hav,fun _ _ h=>absurd h (by simp),fun _ _ _ _ h=>absurd h (by simp)⟩
      simp only[execOp,hi,hp]
      rw[←Kr_]
      exact ZI (Zix hT hk (ZF (hΓ _ _ hety)) q1)
     ·cases h
    ·rename_i cs off hk
     split at h
     ·rename_i ety p os2 hety
      injection h with h
      injection h with h1 h2
      injection h2 with h2 h3
      subst h1;subst h3
      have q1:0≤n∧n < ty.len:=ho (.pr _) (by simp)
      have hrep':Rep g.hw w (a.eval x) (.lptr cs off):=hrep
      generalize hv:a.eval x=v at *
      cases hrep' with
      | lptr cs blk base off' c hc hr h1 hh=>
        refine Xz hI (v:= .pointer (some ⟨blk,base+(off+n.toNat *ety.size),none⟩)) ?_ (.lptr cs blk base _ c hc hr h1 hh)
        simp only[execOp,hi,hv]
        rw[←Kr_]
        exact ZI (Zix hT hk (ZF (hΓ _ _ hety)) q1)
     ·cases h
    ·cases h
   ·cases h
 | makeFunc fn first caps=>
   cases fn with
   | func f=>
     simp only[Zj] at h
     split at h
     ·rename_i l hl
      split at h
      ·rename_i bs hbs
       cases hb:Nat.beq first.size 0 with
       | false=>rw[hb] at h;cases h
       | true=>
         rw[hb] at h
         simp only[Qb_] at h
         injection h with h
         injection h with h1 _
         subst h1
         have hfe:first=#[]:=Array.eq_empty_of_size_eq_zero (Qj_ hb)
         subst hfe
         obtain ⟨e1,e2⟩:=Zcz hI hl
         obtain ⟨e3,e4⟩:=Zfq hbs
         obtain ⟨m1,m2⟩:=Zbh hl
         refine here hI (v:= .func (.func f) #[] (caps.toList.map a.eval).toArray) ?_ ⟨caps.toList.map a.eval,rfl,by omega,fun j v b hv hb'=>?_⟩ (fun _ h=>absurd h (by simp)) ⟨fun _ _ h=>absurd h (by simp),fun f' bs' e b hb'=>?_,fun _ _ _ _ h=>absurd h (by simp)⟩
         ·have:caps.map a.eval=(caps.toList.map a.eval).toArray:=by apply QW_;simp
          simp[execOp,Instr.makeFunc,this]
         ·have hj:j < l.length:=by have:=(Qo_.1 hv).1;omega
          have hav:=e4 j l[j] b (Qg_ hj) hb'
          have:=e2 j v l[j] hv (Qg_ hj)
          rw[hav] at this
          obtain ⟨k,base,h1,h2⟩:=this
          exact ⟨k,base,h1,by rw[h2];rfl⟩
         ·cases e
          obtain ⟨j,hj⟩:=List.getElem?_of_mem hb'
          have hjl:j < l.length:=by have:=(Qo_.1 hj).1;omega
          have hav:=e4 j l[j] b (Qg_ hjl) hj
          have hjc:j < caps.toList.length:=by omega
          have:=m2 j caps.toList[j] l[j] (Qg_ hjc) (Qg_ hjl)
          rw[hav] at this
          exact Zc0 hI this
      ·cases h
     ·cases h
   | _=>exact absurd h (by simp[Zj])
 | call c=>
   obtain ⟨callee,args,ats⟩:=c
   cases callee with
   | builtin b=>
     simp only[Zj] at h
     split at h
     ·rename_i xs hxs
      obtain ⟨r,hr,rfl⟩:=Y2 h
      have ha:=ZtK hI hxs
      obtain ⟨q,h1,h2⟩:=Zge (w:=w) hΓ hr ho ha (args.map fun | .const _=>true | _=>false)
      refine Xz hI ?_ h2
      have e:args.map a.eval=(args.toList.map a.eval).toArray:=by apply QW_;simp
      simp only[execOp,resolve,pure_bind,invoke,e]
      exact h1
     ·cases h
   | value f=>
     simp only[Zj] at h
     have e:args.map a.eval=(args.toList.map a.eval).toArray:=by apply QW_;simp
     split at h
     ·rename_i fid cs l f' as' r os2 hf hl
      split at h
      ·rename_i xs c hh
       cases hb:(!c||flat r) with
       | false=>rw[hb] at h;cases h
       | true=>
         rw[hb] at h
         simp only[Qb_] at h
         injection h with h
         injection h with h1 h2
         injection h2 with h2 h3
         subst h1;subst h3
         have hc:Con P fid (xs++cs) r:=ho (.call fid (xs++cs) r) (by simp)
         obtain ⟨e1,e2⟩:=Zcz hI hl
         have hrf:Rep g.hw w (a.eval f) (.fn fid cs):=ZD hI hf
         generalize hv:a.eval f=v at *
         cases hrf with
         | fn _ cv _ hcl hcr=>
           refine Ju (ZnK hI (o:=⟨dst,.call ⟨.value f,args,ats⟩,type,pos,after,guard⟩) e1 e2 hh ⟨hcl,hcr⟩ hc hb) (fun r hr=>?_)
           simp only[execOp,resolve,Deferred.ofValue,hv,pure_bind,invoke,e]
           rw[←hr]
           congr 2
           simp
      ·cases h
     ·rename_i fid bs l f' as' r os2 hf hl
      split at h
      ·rename_i xs c cs hh hbs
       cases hb:flat r with
       | false=>rw[hb] at h;cases h
       | true=>
         rw[hb] at h
         simp only[Qb_] at h
         injection h with h
         injection h with h1 h2
         injection h2 with h2 h3
         subst h1;subst h3
         have hc:Con P fid (xs++cs) r:=ho (.call fid (xs++cs) r) (by simp)
         obtain ⟨e1,e2⟩:=Zcz hI hl
         obtain ⟨cv,hv,hcl,hcv⟩:=ZD hI hf
         refine Ju (Zmt hI (o:=⟨dst,.call ⟨.value f,args,ats⟩,type,pos,after,guard⟩) e1 e2 hh hbs hcl hcv hc hb) (fun r hr=>?_)
         simp only[execOp,resolve,Deferred.ofValue,hv,pure_bind,invoke,e]
         rw[←hr]
         congr 2
         simp
      ·cases h
     ·cases h
   | invoke r m=>exact absurd h (by simp[Zj])
 | _=>exact absurd h (by simp[Zj])
end
section
variable {P:Program}{w:World}
theorem Zfr{base:Nat}{t ty e:TypeId}{i:TypeInfo}{z:Value}(ht:P.underlying t=some (.slice e))(hi:P.info? e=some i)(hz:i.zero=some z)(hzs:z.cells.size=i.size)(hsz:0 < i.size)
 {v:Value} {n:Nat} {xs:List Value} (hown:w.ownsRow base e i.size v n xs) {a:Addr} {m c:Nat} {news:List Value} (hl:news.length=m *i.size) (hnews:∀j u,news[j]?=some u→w.cell? (a.add j)=some u)
 (h1:∀u∈news,u.oneCell'=true) (h63:n+m≤maxLen) (hbytes:(n+m)*i.bytes≤140737488355328) (hbase:base≤w.heap.size):
 ∃v' w',(Builtin.append_ #[t,t] ty #[v,.slice (some a) m c]).run P w= .ok v' w'∧w'.ownsRow base e i.size v' (n+m) (xs++news)∧w.grownBy w' v.ownBlock∧
  (v'.ownBlock=v.ownBlock∨∀k,v'.ownBlock=some k→w.heap.size≤k)∧(∀k off,v.ownBlock=some k→off < n *i.size→w'.cell? ⟨k,off,none⟩=w.cell? ⟨k,off,none⟩)∧(∀k off,w'.frozen? ⟨k,off,none⟩=w.frozen? ⟨k,off,none⟩):=by
 obtain ⟨v',w',hr,ho,hg,hnil⟩:=run_append_own (P:=P) w base t ty e i z i.size i.bytes ht hi hz rfl rfl hzs hsz v n xs hown a m c news hl hnews h1 h63 hbytes hbase
 have hfr:∀(A:Array Value) (k off:Nat),(w.drew.alloc (.cells A e)).frozen? ⟨k,off,none⟩=w.frozen? ⟨k,off,none⟩:=by
  intro A k off
  by_cases hk:k=w.heap.size
  ·subst hk
   have h1:=World.frozen?_alloc_new w.drew A e off
   simp only[World.size_drew] at h1
   rw[h1]
   simp[World.frozen?]
  ·exact World.frozen?_alloc_old w.drew _ ⟨k,off,none⟩ (by simpa using hk)
 have hsmall:n+m≤9223372036854775807:=by simp only[maxLen] at h63;omega
 refine ⟨v',w',hr,ho,hg, ?_⟩
 rcases hown.2 with ⟨rfl,rfl⟩ | ⟨gb,cap,cur,rfl,hbg,hgb,hnc,hcm,hcs,htake⟩
 ·refine (and_assoc).1 ⟨?_, ?_⟩
  ·refine ⟨?_,fun k off hk=>by simp[Value.ownBlock] at hk⟩
   by_cases hm:m=0
   ·exact .inl (by rw[hnil.2 ⟨rfl,hm⟩])
   ·have hr2:=run_append_nil (P:=P) w t ty e i z ht hi hz a m c news hl hnews (by omega) (by omega) (by have hb:=hbytes;simp only[QP_] at hb;omega)
    rw[hr2] at hr
    injection hr with e1 e2
    subst e1
    exact .inr (fun k hk=>by simp[Value.ownBlock] at hk;omega)
  ·by_cases hm:m=0
   ·intro k off
    subst hm
    have hn:news=[]:=QM_ (by simpa using hl)
    subst hn
    have hr2:(Builtin.append_ #[t,t] ty #[.slice none 0 0,.slice (some a) 0 c]).run P w= .ok (.slice none 0 0) w:=by
     simp[Builtin.append_,run_underlying ht,sizeOf,typeInfo,hi,Builtin.lenOf,Builtin.firstCells,loadCells,loadCellsFrom]
    rw[hr2] at hr
    injection hr with e1 e2
    subst e2
    rfl
   ·have hr2:=run_append_nil (P:=P) w t ty e i z ht hi hz a m c news hl hnews (by omega) (by omega) (by have hb:=hbytes;simp only[QP_] at hb;omega)
    rw[hr2] at hr
    injection hr with e1 e2
    subst e2
    exact fun k off=>hfr _ k off
 ·by_cases hroom:n+m≤cap
  ·have hfit:n *i.size+news.length≤cur.size:=by rw[hl,hcs,←Nat.add_mul];exact Kb_ _ hroom
   have hr2:=run_append_room (P:=P) w t ty e i ht hi gb n cap cur hgb a m c news hl hnews h1 hroom hfit
   rw[hr2] at hr
   injection hr with e1 e2
   subst e1
   refine ⟨.inl rfl,fun k off hk hoff=>?_,fun k off=>?_⟩
   ·have hx:off < xs.length:=by rw[hown.1];exact hoff
    have c1:=hown.cells hk off xs[off] (Qg_ hx)
    have c2:=ho.cells (g:=k) hk off xs[off] (by rw[QV_ hx];exact Qg_ hx)
    rw[Addr.add_lit] at c1 c2
    simp only[QP_] at c1 c2
    rw[c1,c2]
   ·subst e2
    by_cases hk:k=gb
    ·subst hk
     have h2:=setRow_heap w k cur (cur.toList.take (n *i.size)++news++cur.toList.drop (n *i.size+news.length)).toArray e (0,0) hgb
     simp only[World.frozen?,h2,hgb]
    ·have h2:=setRow_other w gb k (cur.toList.take (n *i.size)++news++cur.toList.drop (n *i.size+news.length)).toArray (fun e=>hk e)
     unfold World.frozen?
     rw[h2]
  ·have holds:∀j u,xs[j]?=some u→w.cell? ((⟨gb,0,none⟩:Addr).add j)=some u:=hown.cells (g:=gb) rfl
   have hr2:=run_append_grow (P:=P) w t ty e i z ht hi hz ⟨gb,0,none⟩ n cap xs hown.1 holds a m c news hl hnews (by omega) (by omega) (growslice_fits (by omega) hbytes)
   rw[hr2] at hr
   injection hr with e1 e2
   subst e1
   subst e2
   refine ⟨.inr (fun k hk=>by simp[Value.ownBlock] at hk;omega),fun k off hk _=>?_,fun k off=>hfr _ k off⟩
   have:k=gb:=by simp[Value.ownBlock] at hk;exact hk.symm
   subst this
   have hlt:k < w.heap.size:=(QL_.1 hgb).1
   exact World.cell?_alloc_old w.drew _ ⟨k,off,none⟩ (by simp;omega)
end
def Xm(b off size:Nat):Loc→Bool
 | .b b' c=>Nat.beq b b'&&Nat.ble off c&&Nat.blt c (off+size)
 | _=>false
def has(b:Nat):List Nat→Bool
 | []=>false
 | x::r=>Nat.beq b x||has b r
def Y3(σ:St)(b off:Nat)(cs:List PV)(old:List PV)(own':List (Loc×Nat)):St:=
 {σ with boxes:=(b,lay old off cs)::σ.boxes,
         own:=own'++σ.own.filter fun (l,_)=> !(Xm b off cs.length l),
         al:=σ.al.filter fun (_,l)=> !(Xm b off cs.length l)}
def ZY(σ:St)(l:Loc):St:={σ with own:=σ.own.filter fun (k,_)=> !(k.eq l)}
def X9(Γ:List (Nat×Ty))(σ:St)(T:TypeId)(p x:Operand):Option St:=
 match opd σ p,Zw σ x,lk T Γ with
 | some (.ptr b off),some v,some ty=>match lk b σ.boxes with
   | some cs=>bif Nat.beq v.cells.length ty.size&&Nat.ble (off+ty.size) cs.length&& !(Nat.beq ty.size 0)&& !(has b σ.ro) then
      match x with
      | .tmp t=>match lkL (.t t) σ.own with
        | some E=>some (Y3 (ZY σ (.t t)) b off v.cells cs [(.b b off,E)])
        | none=>some (Y3 σ b off v.cells cs [])
      | _=>some (Y3 σ b off v.cells cs [])
     else none
   | none=>none
 | _,_,_=>none
section
variable {P:Program}{B:Nat}{g:G}{σ:St}{a:Act}{w:World}{o:Oper}
theorem YE{b:Nat}:∀{l:List Nat},has b l=true↔b∈l
 | []=>by simp[has]
 | x::r=>by
   unfold has
   rw[Kn_,YE,Q9_]
   constructor
   ·rintro (h | h)
    ·exact .inl (Qj_ h)
    ·exact .inr h
   ·rintro (h | h)
    ·exact .inl (by subst h;simp)
    ·exact .inr h
theorem WU(b:Nat):∀(vs:List Value) (o:Nat) (w:World) (j:Nat),j≠b→(w.setCells b o vs).heap[j]?=w.heap[j]?
 | [],_,_,_,_=>rfl
 | v::r,o,w,j,h=>by
   rw[World.setCells,WU b r (o+1) _ j h]
   exact Below.heap_setCell w ⟨b,o,none⟩ v j h
theorem Xg(b:Nat):∀(vs:List Value) (o:Nat) (w:World),(w.setCells b o vs).heap.size=w.heap.size
 | [],_,_=>rfl
 | v::r,o,w=>by rw[World.setCells,Xg b r];simp
theorem Zjb(w:World)(a:Addr)(v:Value)(k:Nat):(w.setCell a v).shape? k=w.shape? k:=by
 unfold World.shape?
 simp only[World.setCell,Array.getElem?_modify]
 by_cases h:a.block=k
 ·rw[if_pos h]
  cases w.heap[k]? with
  | none=>rfl
  | some o=>
    cases o with
    | cells c e fr=>simp only[K5_];split<;>simp
    | _=>rfl
 ·rw[if_neg h]
theorem W5(k b:Nat):∀(vs:List Value) (o:Nat) (w:World),(w.setCells b o vs).shape? k=w.shape? k
 | [],_,_=>rfl
 | v::r,o,w=>by rw[World.setCells,W5 k b r (o+1)];exact Zjb w _ _ _
theorem WV(b:Nat):∀(vs:List Value) (o:Nat) (w:World),(w.setCells b o vs).os=w.os∧(w.setCells b o vs).tape=w.tape∧(w.setCells b o vs).output=w.output
 | [],_,_=>⟨rfl,rfl,rfl⟩
 | v::r,o,w=>by
   rw[World.setCells]
   exact WV b r (o+1) (w.setCell ⟨b,o,none⟩ v)
structure Turned(g:G)(w:World)(hw':Nat→Nat)(w':World)(k lo n:Nat):Prop where
 os:w'.os=w.os
 tape:w'.tape=w.tape
 output:w'.output=w.output
 size:w.heap.size≤w'.heap.size
 block:∀j,j < w.heap.size→j≠k→w'.heap[j]?=w.heap[j]?
 cell:∀off,¬(lo≤off∧off < lo+n)→w'.cell? ⟨k,off,none⟩=w.cell? ⟨k,off,none⟩
 frozen:∀off,w'.frozen? ⟨k,off,none⟩=w.frozen? ⟨k,off,none⟩
 hw:∀j,j < w.heap.size→hw' j=g.hw j
 hwlt:∀j,w'.heap.size≤j→hw' j=0
theorem Turned.ext{hw':Nat→Nat}{w':World}{k lo n:Nat}(hl:∀k,w.heap.size≤k→g.hw k=0)(h:Turned g w hw' w' k lo n)(hk:g.hw k=0):Ext g.hw w hw' w':=by
 refine ⟨fun j off hj=>?_,fun j=>?_⟩
 ·have hlt:j < w.heap.size:=by
   rcases Kg_ j w.heap.size with h | h
   ·exact h
   ·rw[hl j h] at hj;omega
  have hne:j≠k:=fun e=>by rw[e,hk] at hj;omega
  exact World.cell?_of_block (w:=w) (a:=⟨j,off,none⟩) (h.block j hlt hne)
 ·rcases Kg_ j w.heap.size with hj | hj
  ·rw[h.hw j hj];exact Q2_ _
  ·rw[hl j hj];exact Kx_ _
theorem ZmW{cs x:List PV}{off:Nat}(h:off+x.length≤cs.length)(j:Nat):(lay cs off x)[j]?=if off≤j∧j < off+x.length then x[j - off]? else cs[j]?:=by
 unfold lay
 have ht:(cs.take off).length=off:=by simp;omega
 by_cases h1:j < off
 ·rw[QV_ (by omega),Ki_ h1,if_neg (by omega)]
 ·rw[Kl_ (by omega),ht]
  by_cases h2:j - off < x.length
  ·rw[QV_ h2,if_pos (by omega)]
  ·rw[Kl_ (by omega),Kd_,if_neg (by omega)]
   congr 1
   omega
theorem ZmX{cs x:List PV}{off:Nat}(h:off+x.length≤cs.length):(lay cs off x).length=cs.length:=by
 unfold lay;simp;omega
theorem Ziy{b off size:Nat}{l:Loc}:Xm b off size l=true↔∃c,l= .b b c∧off≤c∧c < off+size:=by
 cases l with
 | t t=>simp[Xm]
 | b b' c=>
   simp only[Xm,Qh_]
   constructor
   ·rintro ⟨⟨h1,h2⟩,h3⟩
    have e:=Qj_ h1
    subst e
    exact ⟨c,rfl,Qm_ h2,by have:=Qm_ h3;omega⟩
   ·rintro ⟨c',e,h2,h3⟩
    cases e
    exact ⟨⟨by simp,QF_ h2⟩,QF_ (by omega)⟩
theorem W6(hI:Inv P B g σ a w){hw':Nat→Nat}{w':World}{b:Nat}{cs0:List PV}{k base off n:Nat}(hb:lk b σ.boxes=some cs0)(hk:g.β b=some (k,base))(h:Turned g w hw' w' k (base+off) n)
 {l:Loc} (hl:Xm b off n l=false) (hbx:∀b' c,l= .b b' c→∃cs,lk b' σ.boxes=some cs) {val:Value}:LocIs ⟨g.β,hw'⟩ a w' l val↔LocIs g a w l val:=by
 cases l with
 | t t=>exact Iff.rfl
 | b b' c=>
   obtain ⟨cs',hcs'⟩:=hbx b' c rfl
   obtain ⟨k',base',hk',hlt,_⟩:=hI.box b' cs' hcs'
   show (∃k base,g.β b'=some (k,base)∧w'.cell? ⟨k,base+c,none⟩=some val)↔∃k base,g.β b'=some (k,base)∧w.cell? ⟨k,base+c,none⟩=some val
   have hc:w'.cell? ⟨k',base'+c,none⟩=w.cell? ⟨k',base'+c,none⟩:=by
    by_cases e:k'=k
    ·subst e
     have eb:=hI.inj b b' cs0 cs' k' base base' hb hcs' hk hk'
     subst eb
     rw[hk] at hk'
     have:=Qa_ hk'
     cases this
     refine h.cell _ (fun hr=>?_)
     have:Xm b off n (.b b c)=true:=Ziy.2 ⟨c,rfl,by omega,by omega⟩
     rw[this] at hl
     cases hl
    ·exact World.cell?_of_block (w:=w) (a:=⟨k',base'+c,none⟩) (h.block k' hlt e)
   constructor
   ·rintro ⟨k2,base2,h1,h2⟩
    rw[hk'] at h1
    have:=Qa_ h1
    cases this
    exact ⟨k',base',hk',by rw[←hc];exact h2⟩
   ·rintro ⟨k2,base2,h1,h2⟩
    rw[hk'] at h1
    have:=Qa_ h1
    cases this
    exact ⟨k',base',hk',by rw[hc];exact h2⟩
theorem ZcN{α:Type}(l:Loc):∀(x y:List (Loc×α)),lkL l (x++y)=(match lkL l x with | some e=>some e | none=>lkL l y)
 | [],y=>rfl
 | (k,e)::r,y=>by
   rw[QS_,XJ,XJ]
   split
   ·rfl
   ·exact ZcN l r y
theorem Zap(hI:Inv P B g σ a w){hw':Nat→Nat}{w':World}{b:Nat}{cs0 cs:List PV}{k base off:Nat}(hb:lk b σ.boxes=some cs0)(hro:b∉σ.ro)(hk:g.β b=some (k,base))(hle:off+cs.length≤cs0.length)
 (h:Turned g w hw' w' k (base+off) cs.length) (hnew:BoxOk ⟨g.β,hw'⟩ w' k (base+off) cs) (hs:YD cs0=true∨w'.shape? k=w.shape? k) (href:∀y∈cs,∀b',YZ y=some b'→∃cs',lk b' σ.boxes=some cs') {own':List (Loc×Nat)}
 (hown:∀l E,lkL l own'=some E→∃c val,l= .b b c∧off≤c∧c < off+cs.length∧w'.cell? ⟨k,base+c,none⟩=some val∧OwnV P B g.hw w E val∧
   (∀j,val.ownBlock=some j→∀b cs base,lk b σ.boxes=some cs→g.β b≠some (j,base))∧
   ∀l' E' val' j,lkL l' σ.own=some E'→Xm b off cs.length l'=false→LocIs g a w l' val'→val.ownBlock=some j→val'.ownBlock≠some j)
 (hown1:∀l l' E E',lkL l own'=some E→lkL l' own'=some E'→l=l'):
 Inv P B ⟨g.β,hw'⟩ (Y3 σ b off cs cs0 own') a w'∧Fr B g σ w ⟨g.β,hw'⟩ (Y3 σ b off cs cs0 own') w':=by
 obtain ⟨k',base',hk',hlt,hok,hhw,hB⟩:=hI.box b cs0 hb
 rw[hk] at hk'
 have:=Qa_ hk'
 cases this
 have hx:=h.ext hI.hwlt (hhw hro)
 have bxs:∀b',lk b' (Y3 σ b off cs cs0 own').boxes=if b'=b then some (lay cs0 off cs) else lk b' σ.boxes:=fun b'=>Zs b' b _ _
 have isbox:∀b' cs',lk b' σ.boxes=some cs'→∃c2,lk b' (Y3 σ b off cs cs0 own').boxes=some c2:=by
  intro b' cs' h'
  by_cases e:b'=b
  ·exact ⟨_,by rw[bxs,if_pos e]⟩
  ·exact ⟨cs',by rw[bxs,if_neg e];exact h'⟩
 have back:∀b' cs',lk b' (Y3 σ b off cs cs0 own').boxes=some cs'→∃cs2,lk b' σ.boxes=some cs2∧cs2.length=cs'.length:=by
  intro b' cs' h'
  rw[bxs] at h'
  split at h'
  ·rename_i e
   subst e
   have:=Qa_ h'
   subst this
   exact ⟨cs0,hb,(ZmX hle).symm⟩
  ·exact ⟨cs',h',rfl⟩
 have ownsplit:∀l E,lkL l (Y3 σ b off cs cs0 own').own=some E→lkL l own'=some E∨(Xm b off cs.length l=false∧lkL l σ.own=some E):=by
  intro l E hl
  have e:(Y3 σ b off cs cs0 own').own=own'++σ.own.filter fun (l,_)=> !(Xm b off cs.length l):=rfl
  rw[e,ZcN] at hl
  cases ho:lkL l own' with
  | some E'=>rw[ho] at hl;exact .inl hl
  | none=>
    rw[ho] at hl
    simp only at hl
    rw[ZO (fun l=> !(Xm b off cs.length l))] at hl
    split at hl
    ·rename_i h2;exact .inr ⟨by simpa using h2,hl⟩
    ·cases hl
 have ownbox:∀l E,lkL l σ.own=some E→∀b' c,l= .b b' c→∃cs,lk b' σ.boxes=some cs:=fun l E hl b' c e=>by
  have:=hI.ownt l E hl
  subst e
  exact this
 refine ⟨⟨hI.size,hI.defers, ?_, ?_, ?_, ?_, ?_,h.hwlt,QT_ hI.base h.size,hI.glob.mono hx (fun _ _ hy=>h.block _ (hI.glob.1.lt hy) (fun e=>by have:=hI.glob.1.pos hy;rw[e,hhw hro] at this;cases this)), ?_, ?_, ?_, ?_, ?_, ?_, ?_⟩, ?_⟩
 ·intro t av ht
  obtain ⟨h1,h2⟩:=hI.tmp t av ht
  exact ⟨h1,h2.mono (g':=⟨g.β,hw'⟩) hx (fun _=> .inr rfl) (fun _ _ _ _ _=>rfl)⟩
 ·intro t b' off' ht
  obtain ⟨cs',h'⟩:=hI.ptr t b' off' ht
  exact isbox b' cs' h'
 ·intro t f bs ht b' hb'
  obtain ⟨cs',h'⟩:=hI.fnp t f bs ht b' hb'
  exact isbox b' cs' h'
 ·intro b' cs' h'
  rw[bxs] at h'
  split at h'
  ·rename_i e
   subst e
   have:=Qa_ h'
   subst this
   refine ⟨k,base,hk,Kc_ hlt h.size,⟨fun j y hy=>?_⟩,fun _=>(h.hw k hlt).trans (hhw hro),hB⟩
   rw[ZmW hle] at hy
   split at hy
   ·rename_i hj
    obtain ⟨v,h1,h2,h3,h4⟩:=hnew.cell (j - off) y hy
    rw[show base+off+(j - off)=base+j by omega] at h1 h3
    exact ⟨v,h1,h2,h3,h4.at (by omega)⟩
   ·rename_i hj
    obtain ⟨v,h1,h2,h3,h4⟩:=hok.cell j y hy
    exact ⟨v,by rw[h.cell _ (by omega)];exact h1,h2,by rw[h.frozen];exact h3,hs.elim (fun hd=> .rep ((h4.plain (WZ hd hy)).mono hx)) (fun hs=>h4.mono hx hs (fun _ _=>rfl))⟩
  ·rename_i hne
   obtain ⟨k2,base2,h1,h2,h3,h4,h5⟩:=hI.box b' cs' h'
   have hkk:k2≠k:=fun e=>by
    subst e
    exact hne (hI.inj b' b cs' cs0 k2 base2 base h' hb h1 hk)
   have hbl:=h.block k2 h2 hkk
   refine ⟨k2,base2,h1,Kc_ h2 h.size, ?_,fun hr=>(h.hw k2 h2).trans (h4 hr),h5⟩
   exact BoxOk.mono (g':=⟨g.β,hw'⟩) hx (fun off=>World.cell?_of_block (w:=w) (a:=⟨k2,off,none⟩) hbl) (fun off=>World.frozen?_of_block (w:=w) (a:=⟨k2,off,none⟩) hbl) (Zcj hbl) (fun _ _ _ _=>rfl) h3
 ·intro b1 b2 cs1 cs2 k2 base1 base2 h1 h2 h3 h4
  obtain ⟨c1,e1,_⟩:=back b1 cs1 h1
  obtain ⟨c2,e2,_⟩:=back b2 cs2 h2
  exact hI.inj b1 b2 c1 c2 k2 base1 base2 e1 e2 h3 h4
 ·intro l E hl
  have ownmono:∀E val,OwnV P B g.hw w E val→(∀j,val.ownBlock=some j→∀b cs base,lk b σ.boxes=some cs→g.β b≠some (j,base))→OwnV P B hw' w' E val:=by
   intro E val ho hbl
   refine ho.mono fun j hj=>?_
   have hlt':=(ZU ho j hj).1
   exact ⟨h.block j hlt' (fun e=>by subst e;exact hbl j hj b cs0 base hb hk),h.hw j hlt'⟩
  have nobox:∀(val:Value),(∀j,val.ownBlock=some j→∀b cs base,lk b σ.boxes=some cs→g.β b≠some (j,base))→∀j,val.ownBlock=some j→∀b' cs' base',lk b' (Y3 σ b off cs cs0 own').boxes=some cs'→g.β b'≠some (j,base'):=by
   intro val hbl j hj b' cs' base' h'
   obtain ⟨c,e,_⟩:=back b' cs' h'
   exact hbl j hj b' c base' e
  rcases ownsplit l E hl with hl | ⟨hin,hl⟩
  ·obtain ⟨c,val,rfl,c1,c2,c3,c4,c5,_⟩:=hown l E hl
   exact ⟨val,⟨k,base,hk,c3⟩,ownmono E val c4 c5,nobox val c5⟩
  ·obtain ⟨val,h1,h2,h3⟩:=hI.own l E hl
   exact ⟨val,(W6 hI hb hk h hin (ownbox l E hl)).2 h1,ownmono E val h2 h3,nobox val h3⟩
 ·intro l E hl
  rcases ownsplit l E hl with hl | ⟨hin,hl⟩
  ·obtain ⟨c,val,rfl,_⟩:=hown l E hl
   exact isbox b cs0 hb
  ·have:=hI.ownt l E hl
   cases l with
   | t t=>exact this
   | b b' c=>obtain ⟨cs',h'⟩:=this;exact isbox b' cs' h'
 ·intro l l' E E' val val' j hl hl' h1 h2 h3 h4
  have fix:∀{c:Nat} {u v:Value},w'.cell? ⟨k,base+c,none⟩=some u→LocIs ⟨g.β,hw'⟩ a w' (.b b c) v→u=v:=by
   rintro c u v hu ⟨k2,base2,e1,e2⟩
   have e1:g.β b=some (k2,base2):=e1
   rw[hk] at e1
   have:=Qa_ e1
   cases this
   rw[hu] at e2
   exact Qa_ e2
  rcases ownsplit l E hl with hl | ⟨hin,hl⟩<;>rcases ownsplit l' E' hl' with hl' | ⟨hin',hl'⟩
  ·exact hown1 l l' E E' hl hl'
  ·obtain ⟨c,val2,rfl,c1,c2,c3,c4,c5,c6⟩:=hown l E hl
   have:=fix c3 h1
   subst this
   exact absurd h4 (c6 l' E' val' j hl' hin' ((W6 hI hb hk h hin' (ownbox l' E' hl')).1 h2) h3)
  ·obtain ⟨c,val2,rfl,c1,c2,c3,c4,c5,c6⟩:=hown l' E' hl'
   have:=fix c3 h2
   subst this
   exact absurd h3 (c6 l E val j hl hin ((W6 hI hb hk h hin (ownbox l E hl)).1 h1) h4)
  ·exact hI.owninj l l' E E' val val' j hl hl' ((W6 hI hb hk h hin (ownbox l E hl)).1 h1) ((W6 hI hb hk h hin' (ownbox l' E' hl')).1 h2) h3 h4
 ·intro t l hm
  have hm':(t,l)∈σ.al.filter fun (_,l)=> !(Xm b off cs.length l):=hm
  rw[QY_] at hm'
  refine (W6 hI hb hk h (by simpa using hm'.2) (fun b' c e=>?_)).2 (hI.al t l hm'.1)
  subst e
  exact hI.alt t b' c hm'.1
 ·intro t b' c hm
  have hm':(t,Loc.b b' c)∈σ.al.filter fun (_,l)=> !(Xm b off cs.length l):=hm
  rw[QY_] at hm'
  obtain ⟨cs',h'⟩:=hI.alt t b' c hm'.1
  exact isbox b' cs' h'
 ·intro t b' off' n s ht
  obtain ⟨cs',h'⟩:=hI.sl t b' off' n s ht
  exact isbox b' cs' h'
 ·intro b' cs' h' y hy b2 hb2
  have old:∀cs2,lk b' σ.boxes=some cs2→y∈cs2→∃c,lk b2 (Y3 σ b off cs cs0 own').boxes=some c:=fun cs2 h2 hy2=>by
   obtain ⟨c,hc⟩:=hI.ref b' cs2 h2 y hy2 b2 hb2
   exact isbox b2 c hc
  rw[bxs] at h'
  split at h'
  ·rename_i e
   subst e
   have:=Qa_ h'
   subst this
   obtain ⟨j,hj,rfl⟩:=Km_ hy
   have hg:=ZmW hle j
   rw[Qg_ hj] at hg
   split at hg
   ·obtain ⟨c,hc⟩:=href _ (Qz_ hg.symm) b2 hb2
    exact isbox b2 c hc
   ·exact old cs0 hb (Qz_ hg.symm)
  ·exact old cs' h' hy
 ·have lent:∀j,j < B→¬Zac g σ j→j≠k:=by
   intro j hj hn e
   subst e
   rcases Kg_ b σ.n with hbn | hbn
   ·have:=hB hbn;omega
   ·exact hn ⟨b,cs0,base,hbn,hb,hk⟩
  have hBs:=hI.base
  refine ⟨h.os,h.tape,h.output,h.size,rfl,fun j hj hn=>h.block j (by omega) (lent j hj hn),fun j off' hj hn=>?_,fun j off' hj=>?_,fun j hj hn=>h.hw j (by omega),fun b' cs' hn h'=>?_,hx⟩
  ·by_cases e:j=k
   ·subst e
    refine h.cell off' (fun hr=>hn ?_)
    rcases Kg_ b σ.n with hbn | hbn
    ·have:=hB hbn;omega
    ·exact ⟨b,cs0,base,hbn,hb,hk,by omega,by omega⟩
   ·exact World.cell?_of_block (w:=w) (a:=⟨j,off',none⟩) (h.block j (by omega) e)
  ·by_cases e:j=k
   ·subst e;exact h.frozen off'
   ·exact World.frozen?_of_block (w:=w) (a:=⟨j,off',none⟩) (h.block j (by omega) e)
  ·obtain ⟨c,e1,e2⟩:=back b' cs' h'
   exact ⟨c,e1,e2,rfl⟩
end
section
variable {P:Program}{B:Nat}{g:G}{σ:St}{a:Act}{w:World}{o:Oper}
structure Grew(g:G)(w:World)(hw':Nat→Nat)(w':World)(row:Option Nat):Prop where
 os:w'.os=w.os
 tape:w'.tape=w.tape
 output:w'.output=w.output
 size:w.heap.size≤w'.heap.size
 block:∀j,j < w.heap.size→some j≠row→w'.heap[j]?=w.heap[j]?
 cell:∀j off,row=some j→off < g.hw j→w'.cell? ⟨j,off,none⟩=w.cell? ⟨j,off,none⟩
 hw:∀j,j < w.heap.size→some j≠row→hw' j=g.hw j
 hwr:∀j,j < w.heap.size→row=some j→g.hw j≤hw' j
 hwlt:∀j,w'.heap.size≤j→hw' j=0
theorem Grew.ext{hw':Nat→Nat}{w':World}{row:Option Nat}(hl:∀k,w.heap.size≤k→g.hw k=0)(h:Grew g w hw' w' row):Ext g.hw w hw' w':=by
 refine ⟨fun j off hj=>?_,fun j=>?_⟩
 ·by_cases e:some j=row
  ·exact h.cell j off e.symm hj
  ·have hlt:j < w.heap.size:=by
    rcases Kg_ j w.heap.size with h | h
    ·exact h
    ·rw[hl j h] at hj;omega
   exact World.cell?_of_block (w:=w) (a:=⟨j,off,none⟩) (h.block j hlt e)
 ·rcases Kg_ j w.heap.size with hj | hj
  ·by_cases e:some j=row
   ·exact h.hwr j hj e.symm
   ·rw[h.hw j hj e];exact Q2_ _
  ·rw[hl j hj];exact Kx_ _
theorem JK(hI:Inv P B g σ a w){hw':Nat→Nat}{w':World}{row:Option Nat}(h:Grew g w hw' w' row)(hbox:∀j,row=some j→∀b cs base,lk b σ.boxes=some cs→g.β b≠some (j,base))(hrB:∀j,row=some j→B≤j)
 {own':List (Loc×Nat)} (hown:∀l E,lkL l own'=some E→lkL l σ.own=some E) (hfree:∀l E val j,lkL l own'=some E→LocIs g a w l val→row=some j→val.ownBlock≠some j):
 Inv P B ⟨g.β,hw'⟩ {σ with own:=own'} a w'∧Fr B g σ w ⟨g.β,hw'⟩ {σ with own:=own'} w':=by
 have hx:=h.ext hI.hwlt
 have bl:∀b cs k base,lk b σ.boxes=some cs→g.β b=some (k,base)→some k≠row:=fun b cs k base hb hk e=>hbox k e.symm b cs base hb hk
 have locs:∀l,(∀b c,l= .b b c→∃cs,lk b σ.boxes=some cs)→∀val,LocIs ⟨g.β,hw'⟩ a w' l val↔LocIs g a w l val:=by
  intro l hl val
  cases l with
  | t t=>exact Iff.rfl
  | b b c=>
    obtain ⟨cs,hcs⟩:=hl b c rfl
    obtain ⟨k,base,hk,hlt,_⟩:=hI.box b cs hcs
    have hc:w'.cell? ⟨k,base+c,none⟩=w.cell? ⟨k,base+c,none⟩:=World.cell?_of_block (w:=w) (a:=⟨k,base+c,none⟩) (h.block k hlt (bl b cs k base hcs hk))
    show (∃k base,g.β b=some (k,base)∧w'.cell? ⟨k,base+c,none⟩=some val)↔∃k base,g.β b=some (k,base)∧w.cell? ⟨k,base+c,none⟩=some val
    constructor
    ·rintro ⟨k2,base2,h1,h2⟩
     rw[hk] at h1
     have:=Qa_ h1
     cases this
     exact ⟨k,base,hk,by rw[←hc];exact h2⟩
    ·rintro ⟨k2,base2,h1,h2⟩
     rw[hk] at h1
     have:=Qa_ h1
     cases this
     exact ⟨k,base,hk,by rw[hc];exact h2⟩
 have ob:∀l E,lkL l own'=some E→∀b c,l= .b b c→∃cs,lk b σ.boxes=some cs:=fun l E hl b c e=>by
  have:=hI.ownt l E (hown l E hl)
  subst e
  exact this
 refine ⟨⟨hI.size,hI.defers, ?_,hI.ptr,hI.fnp, ?_,hI.inj,h.hwlt,QT_ hI.base h.size,hI.glob.mono hx (fun _ _ hy=>h.block _ (hI.glob.1.lt hy) (fun e=>by have:=hrB _ e.symm;have:=hI.glob.2 _ _ hy;omega)), ?_,fun l E hl=>hI.ownt l E (hown l E hl), ?_, ?_,hI.alt,hI.sl,hI.ref⟩, ?_⟩
 ·intro t av ht
  obtain ⟨h1,h2⟩:=hI.tmp t av ht
  exact ⟨h1,h2.mono (g':=⟨g.β,hw'⟩) hx (fun _=> .inr rfl) (fun _ _ _ _ _=>rfl)⟩
 ·intro b cs hb
  obtain ⟨k,base,h1,h2,h3,h4,h5⟩:=hI.box b cs hb
  have hne:=bl b cs k base hb h1
  have hbl:=h.block k h2 hne
  exact ⟨k,base,h1,Kc_ h2 h.size,BoxOk.mono (g':=⟨g.β,hw'⟩) hx (fun off=>World.cell?_of_block (w:=w) (a:=⟨k,off,none⟩) hbl) (fun off=>World.frozen?_of_block (w:=w) (a:=⟨k,off,none⟩) hbl) (Zcj hbl) (fun _ _ _ _=>rfl) h3,
   fun hr=>(h.hw k h2 hne).trans (h4 hr),h5⟩
 ·intro l E hl
  obtain ⟨val,h1,h2,h3⟩:=hI.own l E (hown l E hl)
  refine ⟨val,(locs l (ob l E hl) val).2 h1,h2.mono (fun j hj=>?_),h3⟩
  have hlt:=(ZU h2 j hj).1
  have hne:some j≠row:=fun e=>hfree l E val j hl h1 e.symm hj
  exact ⟨h.block j hlt hne,h.hw j hlt hne⟩
 ·intro l l' E E' val val' k hl hl' h1 h2 h3 h4
  exact hI.owninj l l' E E' val val' k (hown l E hl) (hown l' E' hl') ((locs l (ob l E hl) val).1 h1) ((locs l' (ob l' E' hl') val').1 h2) h3 h4
 ·intro t l hm
  exact (locs l (fun b c e=>by subst e;exact hI.alt t b c hm) _).2 (hI.al t l hm)
 ·have hBs:=hI.base
  have ne:∀j,j < B→some j≠row:=fun j hj e=>by have:=hrB j e.symm;omega
  exact ⟨h.os,h.tape,h.output,h.size,rfl,fun j hj _=>h.block j (by omega) (ne j hj),fun j off hj _=>World.cell?_of_block (w:=w) (a:=⟨j,off,none⟩) (h.block j (by omega) (ne j hj)),
   fun j off hj=>World.frozen?_of_block (w:=w) (a:=⟨j,off,none⟩) (h.block j (by omega) (ne j hj)),fun j hj _=>h.hw j (by omega) (ne j hj),fun b cs' _ hb=>⟨cs',hb,rfl,rfl⟩,hx⟩
theorem Qt.grew{hw':Nat→Nat}{w':World}(q:Qt g.hw w hw' w'):Grew g w hw' w' none:=
 ⟨q.below.os,q.below.tape,q.below.output,q.below.size,fun j hj _=>q.below.block j hj,fun _ _ h=>absurd h (by simp),fun j hj _=>q.hw j hj,fun _ _ h=>absurd h (by simp),q.hwlt⟩
theorem Zc1(hI:Inv P B g σ a w){hw':Nat→Nat}{w':World}(q:Qt g.hw w hw' w'):Inv P B ⟨g.β,hw'⟩ σ a w'∧Fr B g σ w ⟨g.β,hw'⟩ σ w':=by
 have:=JK hI q.grew (own':=σ.own) (fun _ h=>absurd h (by simp)) (fun _ h=>absurd h (by simp)) (fun _ _ h=>h) (fun _ _ _ _ _ _ h=>absurd h (by simp))
 exact this
theorem XN(hI:Inv P B g σ a w){d:Nat}(hd:d < σ.n){v:Value}{x:PV}(h:Rep g.hw w v x):Inv P B g (put σ d (.p x)) (a.put (some d) v) w:=by
 have hp:PRes g σ a w ⟨some d,.alloc 0,0, "",#[],none⟩ ⟨.p x,none,none⟩ v w g:=
  ⟨Qt.refl hI.hwlt,h,fun _=>rfl,fun _ h=>absurd h (by simp),fun _ h=>absurd h (by simp),fun _=>⟨fun _ _ h=>absurd h (by simp),fun _ _ h=>absurd h (by simp),fun _ _ _ _ h=>absurd h (by simp)⟩⟩
 exact ZaO hI hp rfl hd (fun _ h=>absurd h (by simp))
theorem ZbJ(hI:Inv P B g σ a w){d:Nat}(hd:d < σ.n){E:Nat}{val:Value}(hv:a.tmps.getD d undef=val)(ho:OwnV P B g.hw w E val)(hb:∀k,val.ownBlock=some k→∀b cs base,lk b σ.boxes=some cs→g.β b≠some (k,base))
 (hother:∀l E val' k,lkL l σ.own=some E→LocIs g a w l val'→val.ownBlock=some k→val'.ownBlock≠some k):Inv P B g {σ with own:=(.t d,E)::σ.own} a w:=by
 have lkc:∀l E',lkL l ((Loc.t d,E)::σ.own)=some E'→(l= .t d∧E'=E)∨(l≠ .t d∧lkL l σ.own=some E'):=by
  intro l E' hl
  rw[XJ] at hl
  split at hl
  ·rename_i e;exact .inl ⟨e,(Qa_ hl).symm⟩
  ·rename_i e;exact .inr ⟨e,hl⟩
 refine ⟨hI.size,hI.defers,hI.tmp,hI.ptr,hI.fnp,hI.box,hI.inj,hI.hwlt,hI.base,hI.glob, ?_, ?_, ?_,hI.al,hI.alt,hI.sl,hI.ref⟩
 ·intro l E' hl
  rcases lkc l E' hl with ⟨rfl,rfl⟩ | ⟨_,hl⟩
  ·exact ⟨val,hv,ho,hb⟩
  ·exact hI.own l E' hl
 ·intro l E' hl
  rcases lkc l E' hl with ⟨rfl,rfl⟩ | ⟨_,hl⟩
  ·exact hd
  ·exact hI.ownt l E' hl
 ·intro l l' E1 E2 v1 v2 k hl hl' h1 h2 h3 h4
  rcases lkc l E1 hl with ⟨rfl,rfl⟩ | ⟨hne,hq⟩<;>rcases lkc l' E2 hl' with ⟨rfl,rfl⟩ | ⟨hne',hq'⟩
  ·rfl
  ·have e:v1=val:=by rw[←hv];exact h1.symm
   subst e
   exact absurd h4 (hother l' E2 v2 k hq' h2 h3)
  ·have e:v2=val:=by rw[←hv];exact h2.symm
   subst e
   exact absurd h3 (hother l E1 v1 k hq h1 h4)
  ·exact hI.owninj l l' E1 E2 v1 v2 k hq hq' h1 h2 h3 h4
theorem Zgj(hI:Inv P B g σ a w){b:Nat}{cs:List PV}{k base:Nat}(hb:lk b σ.boxes=some cs)(hk:g.β b=some (k,base)):
 Inv P B ⟨g.β,fun j=>if j=k then max (g.hw j) (base+cs.length) else g.hw j⟩ {σ with ro:=b::σ.ro} a w∧Fr B g σ w ⟨g.β,fun j=>if j=k then max (g.hw j) (base+cs.length) else g.hw j⟩ {σ with ro:=b::σ.ro} w:=by
 obtain ⟨k',base',hk',hlt,hok,hhw,hB⟩:=hI.box b cs hb
 rw[hk] at hk'
 have:=Qa_ hk'
 cases this
 have hx:Ext g.hw w (fun j=>if j=k then max (g.hw j) (base+cs.length) else g.hw j) w:=⟨fun _ _ _=>rfl,fun j=>by by_cases e:j=k<;>simp[e];omega⟩
 refine ⟨⟨hI.size,hI.defers, ?_,hI.ptr,hI.fnp, ?_,hI.inj, ?_,hI.base,hI.glob.mono hx (fun _ _ _=>rfl), ?_,hI.ownt,hI.owninj,hI.al,hI.alt,hI.sl,hI.ref⟩, ?_⟩
 ·intro t av ht
  obtain ⟨h1,h2⟩:=hI.tmp t av ht
  exact ⟨h1,h2.mono (g':=⟨g.β,_⟩) hx (fun _=> .inr rfl) (fun _ _ _ _ _=>rfl)⟩
 ·intro b' cs' h'
  obtain ⟨k2,base2,h1,h2,h3,h4,h5⟩:=hI.box b' cs' h'
  refine ⟨k2,base2,h1,h2,BoxOk.mono (g':=⟨g.β,_⟩) hx (fun _=>rfl) (fun _=>rfl) rfl (fun _ _ _ _=>rfl) h3,fun hr=>?_,h5⟩
  have hne:b'≠b:=fun e=>hr (by rw[e];simp)
  have hkk:k2≠k:=fun e=>by subst e;exact hne (hI.inj b' b cs' cs k2 base2 base h' hb h1 hk)
  simp only[hkk,Kv_]
  exact h4 (fun hm=>hr (Qq_ _ hm))
 ·intro j hj
  have:j≠k:=by omega
  simp only[this,Kv_]
  exact hI.hwlt j hj
 ·intro l E hl
  obtain ⟨val,h1,h2,h3⟩:=hI.own l E hl
  refine ⟨val,h1,h2.mono (fun j hj=>⟨rfl, ?_⟩),h3⟩
  have:j≠k:=fun e=>by subst e;exact h3 j hj b cs base hb hk
  simp[this]
 ·refine ⟨rfl,rfl,rfl,Q2_ _,rfl,fun _ _ _=>rfl,fun _ _ _ _=>rfl,fun _ _ _=>rfl,fun j hj hn=>?_,fun b' cs' _ h'=>⟨cs',h',rfl,rfl⟩,hx⟩
  have:j≠k:=fun e=>by
   subst e
   rcases Kg_ b σ.n with hbn | hbn
   ·have:=hB hbn;omega
   ·exact hn ⟨b,cs,base,hbn,hb,hk⟩
  simp[this]
end
def XW(σ:St)(d E:Nat):St:={σ with own:=(.t d,E)::σ.own}
def Wo(Γ:List (Nat×Ty))(σ:St)(d:Nat)(x y:Operand)(t t':TypeId)(os:List Obl):Option (St×List Obl×List Obl):=
 match lk t Γ,Zw σ x,Zw σ y,os with
 | some ty,some xv,some (.lst ys),.pr _::os'=>bif Nat.beq t t'&&Nat.beq ty.kd 3 then
    match lk ty.elem Γ with
    | some ety=>bif Nat.beq ety.size 0||Nat.beq ety.bytes 0 then none else
      match xv,x with
      | .nil,_=>some (XW (put σ d (.p (.lst ys))) d ty.elem,os',[.pr (0 < ys.length∧(0+ys.length)*ety.bytes≤140737488355328∧Lens ety.size ys)])
      | .lst xs,.tmp t1=>
        let l:=match lk t1 σ.al with | some l=>l | none=> .t t1
        match lkL l σ.own with
        | some E=>bif Nat.beq E ty.elem then some (XW (put (ZY σ l) d (.p (.lst (xs++ys)))) d ty.elem,os',[.pr (0 < ys.length∧(xs.length+ys.length)*ety.bytes≤140737488355328∧Lens ety.size (xs++ys))]) else none
        | none=>none
      | _,_=>none
    | none=>none
   else none
 | _,_,_,_=>none
section
variable {P:Program}{B:Nat}{g:G}{σ:St}{a:Act}{w:World}{o:Oper}
theorem Zgk{hw:Nat→Nat}{w:World}{v:Value}{ys:List (List PV)}(h:Rep hw w v (.lst ys))(h0:0 < ys.length){s:Nat}(hs:Lens s ys):
 ∃blk off cap,v= .slice (some ⟨blk,off,none⟩) ys.length cap∧∃news:List Value,news.length=ys.length *s∧(∀j u,news[j]?=some u→w.cell? ((⟨blk,off,none⟩:Addr).add j)=some u)∧(∀u∈news,u.oneCell'=true)∧
  ∀i j x y,ys[i]?=some x→x[j]?=some y→∃u,news[i *s+j]?=some u∧Rep hw w u y:=by
 cases h with
 | lnil=>simp at h0
 | lst xs blk off cap s' c hcap hlen hc hr h1 hh=>
   have hss:s'=s:=by
    have:=hlen 0 ys[0] (Qg_ h0)
    rw[←this];exact hs _ (K1_ h0)
   subst hss
   by_cases hs0:s'=0
   ·subst hs0
    refine ⟨blk,off,cap,rfl,[],by simp,fun j u hu=>by simp at hu,fun u hu=>by simp at hu,fun i j x y hx hy=>?_⟩
    have:=hlen i x hx
    have hj:=(Qo_.1 hy).1
    omega
   ·refine ⟨blk,off,cap,rfl,(List.range (ys.length *s')).map fun k=>c (k / s') (k % s'),by simp,fun j u hu=>?_,fun u hu=>?_,fun i j x y hx hy=>?_⟩
    ·rw[Q6_] at hu
     by_cases hj:j < ys.length *s'
     ·rw[Kz_ hj] at hu
      simp at hu
      subst hu
      have h1:j / s' < ys.length:=Nat.div_lt_of_lt_mul (by rw[Nat.mul_comm];exact hj)
      have h2:j % s' < s':=Nat.mod_lt _ (by omega)
      have:=hc (j / s') (j % s') h1 h2
      rw[Addr.add_lit]
      rw[show off+j=off+(j / s' *s'+j % s') by rw[Nat.div_add_mod' j s']]
      exact this
     ·rw[Ke_ (by simp;omega)] at hu
      cases hu
    ·rw[Ks_] at hu
     obtain ⟨k,hk,rfl⟩:=hu
     have hk:=List.mem_range.1 hk
     exact h1 _ _ (Nat.div_lt_of_lt_mul (by rw[Nat.mul_comm];exact hk)) (Nat.mod_lt _ (by omega))
    ·have hi:=(Qo_.1 hx).1
     have hj:j < s':=by rw[←hlen i x hx];exact (Qo_.1 hy).1
     have hlt:i *s'+j < ys.length *s':=by have:=ZdD (off:=0) hi hj;omega
     refine ⟨c i j, ?_,hr i j x y hx hy⟩
     rw[Q6_,Kz_ hlt]
     simp only[K5_]
     rw[Nat.add_comm (i *s') j,Nat.add_mul_div_right _ _ (by omega),Nat.div_eq_of_lt hj,QP_,Nat.add_mul_mod_self_right,Nat.mod_eq_of_lt hj]
theorem Zaq{hw:Nat→Nat}{w:World}{v:Value}{xs:List (List PV)}(h:Rep hw w v (.lst xs)){base e s n:Nat}{xv:List Value}(ho:w.ownsRow base e s v n xv)(hs:Lens s xs):
 n=xs.length∧∀(i j:Nat) (x:List PV) (y:PV),xs[i]?=some x→x[j]?=some y→∃u,xv[i *s+j]?=some u∧u.oneCell'=true∧Rep hw w u y:=by
 cases h with
 | lnil=>
   rcases ho.2 with ⟨_,h⟩ | ⟨gb,cap,cur,hv,_⟩
   ·exact ⟨h,fun i j x y hx=>by simp at hx⟩
   ·cases hv
 | lst xs blk off cap s' c hcap hlen hc hr h1 hh=>
   rcases ho.2 with ⟨hv,_⟩ | ⟨gb,cap',cur,hv,_,_,_,_,_,_⟩
   ·cases hv
   ·injection hv with e1 e2 e3
    injection e1 with e1
    injection e1 with e1 e4
    subst e1;subst e4
    refine ⟨e2.symm,fun i j x y hx hy=>?_⟩
    have hxs:x.length=s:=hs x (Qz_ hx)
    have hss:s'=s:=by rw[←hlen i x hx];exact hxs
    subst hss
    have hi:=(Qo_.1 hx).1
    have hj:j < s':=by rw[←hxs];exact (Qo_.1 hy).1
    refine ⟨c i j, ?_,h1 i j hi hj,hr i j x y hx hy⟩
    have hlt:i *s'+j < xv.length:=by
     rw[ho.1,←e2]
     have:=ZdD (off:=0) hi hj;omega
    have hcell:=ho.cells (g:=blk) rfl (i *s'+j) xv[i *s'+j] (Qg_ hlt)
    rw[Addr.add_lit,hc i j hi hj] at hcell
    rw[Qg_ hlt]
    exact hcell.symm
theorem ZmY{hw:Nat→Nat}{w:World}{v:Value}{xs:List (List PV)}{base e s:Nat}{xv:List Value}(ho:w.ownsRow base e s v xs.length xv)(hs:Lens s xs)(hh:∀k,v.ownBlock=some k→xs.length *s≤hw k)
 (hr:∀(i j:Nat) (x:List PV) (y:PV),xs[i]?=some x→x[j]?=some y→∃u,xv[i *s+j]?=some u∧u.oneCell'=true∧Rep hw w u y):Rep hw w v (.lst xs):=by
 rcases ho.2 with ⟨rfl,h⟩ | ⟨gb,cap,cur,rfl,_,_,hc,_,_,_⟩
 ·have:xs=[]:=QM_ h
  subst this
  exact .lnil
 ·have get:∀i j,i < xs.length→j < s→∃u,xv[i *s+j]?=some u∧u.oneCell'=true∧∀x y,xs[i]?=some x→x[j]?=some y→Rep hw w u y:=by
   intro i j hi hj
   have hx:=Qg_ hi
   have hl:xs[i].length=s:=hs _ (K1_ hi)
   have hy:=Qg_ (l:=xs[i]) (i:=j) (by omega)
   obtain ⟨u,h1,h2,h3⟩:=hr i j _ _ hx hy
   refine ⟨u,h1,h2,fun x y hx' hy'=>?_⟩
   rw[hx] at hx'
   have:=Qa_ hx'
   subst this
   rw[hy] at hy'
   have:=Qa_ hy'
   subst this
   exact h3
  refine .lst xs gb 0 cap s (fun i j=>xv.getD (i *s+j) undef) hc (fun i x hx=>hs x (Qz_ hx)) (fun i j hi hj=>?_) (fun i j x y hx hy=>?_) (fun i j hi hj=>?_) (by rw[QP_];exact hh gb rfl)
  ·obtain ⟨u,h1,_⟩:=get i j hi hj
   have:=ho.cells (g:=gb) rfl _ u h1
   rw[Addr.add_lit] at this
   rw[this,Q7_,h1]
   rfl
  ·have hi:=(Qo_.1 hx).1
   have hj:j < s:=by rw[←hs x (Qz_ hx)];exact (Qo_.1 hy).1
   obtain ⟨u,h1,_,h3⟩:=get i j hi hj
   rw[Q7_,h1]
   exact h3 x y hx hy
  ·obtain ⟨u,h1,h2,_⟩:=get i j hi hj
   rw[Q7_,h1]
   exact h2
theorem Zfs{Γ:List (Nat×Ty)}(hΓ:ZW P Γ)(hI:Inv P B g σ a w){t:TypeId}{ty ety:Ty}(hty:lk t Γ=some ty)(hk:ty.kd=3)(hety:lk ty.elem Γ=some ety)(hs0:ety.size≠0)(hb0:ety.bytes≠0)
 {v vy:Value} {xs ys:List (List PV)} (hv:Rep g.hw w v (.lst xs)) (ho:OwnV P B g.hw w ty.elem v) (hy:Rep g.hw w vy (.lst ys)) (h0:0 < ys.length) (hbytes:(xs.length+ys.length)*ety.bytes≤140737488355328) (hl:Lens ety.size (xs++ys)) (T:TypeId):
 ∃v' w' hw',(Builtin.append_ #[t,t] T #[v,vy]).run P w= .ok v' w'∧Grew g w hw' w' v.ownBlock∧Rep hw' w' v' (.lst (xs++ys))∧OwnV P B hw' w' ty.elem v'∧(v'.ownBlock=v.ownBlock∨∀k,v'.ownBlock=some k→w.heap.size≤k):=by
 have hET:=ZF (hΓ _ _ hety)
 obtain ⟨i,z,hi,hz,e1,e2,_,_,hzs⟩:=hET.info
 obtain ⟨_,hk3,_⟩:=Ym (ZF (hΓ _ _ hty))
 have hu:=hk3 hk
 obtain ⟨i',n,xv,hi',hown,hfr⟩:=ho
 rw[hi] at hi'
 have:=Qa_ hi'
 subst this
 rw[e1] at hs0 hl
 rw[e2] at hb0 hbytes
 have hlx:Lens i.size xs:=fun x hx=>hl x (Kf_ _ hx)
 have hly:Lens i.size ys:=fun x hx=>hl x (Kp_ _ hx)
 obtain ⟨rfl,hcx⟩:=Zaq hv hown hlx
 obtain ⟨blk,off,cap,rfl,news,n1,n2,n3,n4⟩:=Zgk hy h0 hly
 have hsum:xs.length+ys.length≤140737488355328:=QT_ (Nat.le_mul_of_pos_right _ (by omega)) hbytes
 obtain ⟨v',w',hr,how,hg,hblk,hst,hfz⟩:=Zfr (ty:=T) hu hi hz hzs (by omega) hown n1 n2 n3 (by simp only[maxLen];omega) hbytes hI.base
 have olt:∀k,v.ownBlock=some k→k < w.heap.size:=fun k hk=>(hown.lt k hk).2
 have nlt:∀k,v'.ownBlock=some k→k < w'.heap.size:=fun k hk=>(how.lt k hk).2
 let hw':Nat→Nat:=fun k=>if v'.ownBlock=some k then (xs.length+ys.length)*i.size else g.hw k
 have hgrew:Grew g w hw' w' v.ownBlock:=by
  refine ⟨hg.os,hg.tape,hg.output,hg.size,hg.block,fun j off hj hoff=>hst j off hj ?_,fun j hj hne=>?_,fun j hj he=>?_,fun j hj=>?_⟩
  ·rw[hfr j hj] at hoff;exact hoff
  ·have:v'.ownBlock≠some j:=fun e=>by
    rcases hblk with h | h
    ·rw[h] at e;exact hne e.symm
    ·have:=h j e;omega
   simp only[hw',this,Kv_]
  ·by_cases e:v'.ownBlock=some j
   ·simp only[hw',e,Ku_]
    rw[hfr j he]
    exact Kb_ _ (Nat.le_add_right _ _)
   ·simp only[hw',e,Kv_];exact Q2_ _
  ·have:v'.ownBlock≠some j:=fun e=>by have:=nlt j e;omega
   simp only[hw',this,Kv_]
   exact hI.hwlt j (QT_ hg.size hj)
 have hx:=hgrew.ext hI.hwlt
 have hlen:(xs++ys).length=xs.length+ys.length:=Qx_
 refine ⟨v',w',hw',hr,hgrew,ZmY (by rw[hlen];exact how) hl (fun k hk=>by rw[hlen];simp only[hw',hk,Ku_];exact Q2_ _) (fun p q x y hx' hy'=>?_),⟨i,_,_,hi,how,fun k hk=>by simp only[hw',hk,Ku_]⟩,hblk⟩
 have hq:q < i.size:=by rw[←hl x (Qz_ hx')];exact (Qo_.1 hy').1
 rw[Ky_] at hx'
 split at hx'
 ·obtain ⟨u,h1,h2,h3⟩:=hcx p q x y hx' hy'
  have:=(Qo_.1 h1).1
  exact ⟨u,by rw[QV_ this];exact h1,h2,h3.mono hx⟩
 ·rename_i hp
  obtain ⟨u,h1,h3⟩:=n4 (p - xs.length) q x y hx' hy'
  have hlt:=(Qo_.1 h1).1
  refine ⟨u, ?_,n3 u (Qz_ h1),h3.mono hx⟩
  have e:p *i.size+q=xv.length+((p - xs.length)*i.size+q):=by
   rw[hown.1,←Kr_,←Nat.add_mul]
   congr 2
   omega
  rw[e,Kl_ (by omega),Nat.add_sub_cancel_left]
  exact h1
end
def Zc2(σ:St)(dst:Option Nat)(f:Operand)(args:List Operand)(os:List Obl):Option (St×List Obl×List Obl):=
 match opd σ f,args,os with
 | some (.p (.fn fid [])),p::rest,.callp _ _ _ r cs'::os'=>match opd σ p,Xt (opd σ) rest with
   | some (.ptr b off),some l=>match lk b σ.boxes,YQ σ.boxes l with
     | some cs,some (xs,false)=>bif Nat.ble (off+cs'.length) cs.length&& !(has b σ.ro)&&YD cs&&YD cs' then
        let σ1:=Y3 σ b off cs' cs []
        match dst with
        | none=>some (σ1,os',[.callp fid ((cs.drop off).take cs'.length) xs r cs'])
        | some d=>bif Nat.blt d σ.n then some (put σ1 d (.p r),os',[.callp fid ((cs.drop off).take cs'.length) xs r cs']) else none
       else none
     | _,_=>none
   | _,_=>none
 | _,_,_=>none
def ZcO(Γ:List (Nat×Ty))(σ:St)(d:Nat)(T:TypeId)(x:Operand):Option St:=
 match opd σ x,lk T Γ with
 | some (.ptr b off),some ty=>bif Nat.beq ty.kd 2&& !(Nat.beq ty.len 0) then
    match lk b σ.boxes,lk ty.elem Γ with
    | some cs,some ety=>bif Nat.ble (off+ty.len *ety.size) cs.length&&YD ((cs.drop off).take (ty.len *ety.size)) then
       some (put {σ with ro:=b::σ.ro} d (.p (.lst (chunk ety.size ty.len ((cs.drop off).take (ty.len *ety.size)))))) else none
    | _,_=>none
   else none
 | _,_=>none
def ZdL(d:Nat):Option Loc→Bool
 | some (.t t)=> !(Nat.beq t d)
 | _=>true
def ZT{α:Type}:Option α→Bool
 | none=>true
 | some _=>false
def W7(Γ:List (Nat×Ty))(σ:St)(o:Oper)(os:List Obl):Option (Res×List Obl×List Obl):=
 match Zj Γ σ o os with
 | some (r,os1,ob1)=>match o.dst with
   | some d=>match rewr d r os1 with
     | some (r',os2,ob2)=>bif Nat.blt d σ.n&&ZdL d r'.link then some (r',os2,ob1++ob2) else none
     | none=>none
   | none=>some (r,os1,ob1)
 | none=>none
section
variable {P:Program}{B:Nat}{g:G}{σ:St}{a:Act}{w:World}{o:Oper}
def Goes(P:Program)(B:Nat)(g:G)(σ:St)(a:Act)(w:World)(o:Oper)(σ':St):Prop:=
 OpRes P o a w fun v w'=>∃g',Inv P B g' σ' (a.put o.dst v) w'∧Fr B g σ w g' σ' w'
theorem Zjc{x y:List Obl}(h:ZM P (x++y)):ZM P x:=fun o ho=>h o (Kf_ _ ho)
theorem ZhH{x y:List Obl}(h:ZM P (x++y)):ZM P y:=fun o ho=>h o (Kp_ _ ho)
theorem ZnM{d:Nat}{r r':Res}{os os' ob:List Obl}(h:rewr d r os=some (r',os',ob))(ho:ZM P ob){v:Value}{w':World}{g':G}(hp:PRes g σ a w o r v w' g'):PRes g σ a w o r' v w' g':=by
 unfold rewr at h
 split at h
 ·rename_i d' b' v' os2 h' bx l
  cases hb:Nat.beq d d' with
  | false=>
    rw[hb] at h
    have:=Qa_ h
    cases this
    exact hp
  | true=>
    rw[hb] at h
    have:=Qa_ h
    cases this
    have e:h'=v':=ho (.rb d h' v') (by simp)
    subst e
    exact hp
 ·rename_i d' x' y os2 x bx l
  cases hb:Nat.beq d d' with
  | false=>
    rw[hb] at h
    have:=Qa_ h
    cases this
    exact hp
  | true=>
    rw[hb] at h
    have:=Qa_ h
    cases this
    have e:x=y:=ho (.re d x y) (by simp)
    subst e
    exact hp
 ·have:=Qa_ h
  cases this
  exact hp
theorem ZrL{Γ:List (Nat×Ty)}(hI:Inv P B g σ a w){os os' ob:List Obl}{r:Res}(h:Zj Γ σ o os=some (r,os',ob)):∀b c,r.link=some (.b b c)→∃cs,lk b σ.boxes=some cs:=by
 have lo:∀(v:PV) (l:Loc) b c,(∀b c,l= .b b c→∃cs,lk b σ.boxes=some cs)→Wj σ v l=some (.b b c)→∃cs,lk b σ.boxes=some cs:=by
  intro v l b c hl h
  unfold Wj at h
  split at h
  ·split at h
   ·split at h
    ·rename_i l' hl'
     have:=Qa_ h
     subst this
     exact hI.alt _ b c (Zao hl')
    ·exact absurd (Qa_ h) (by simp)
   ·exact hl b c (Qa_ h)
  ·exact hl b c (Qa_ h)
  ·cases h
 have no:∀{x:AV} {bx:Option (List PV)} {os1 os2 ob1 ob2:List Obl},some ((⟨x,bx,none⟩:Res),os1,ob1)=some (r,os2,ob2)→∀b c,r.link=some (.b b c)→∃cs,lk b σ.boxes=some cs:=by
  intro x bx os1 os2 ob1 ob2 h b c hl
  have:=Qa_ h
  cases this
  cases hl
 have noV:∀{q:Option PV} {os1 os2 ob2:List Obl},(match q with | some x=>some ((⟨.p x,none,none⟩:Res),os1,([]:List Obl)) | none=>none)=some (r,os2,ob2)→∀b c,r.link=some (.b b c)→∃cs,lk b σ.boxes=some cs:=by
  intro q os1 os2 ob2 h
  obtain ⟨x,_,rfl⟩:=Wn h
  exact fun b c hl=>absurd hl (by simp)
 have noO:∀{q:Out PV} {os2 ob2:List Obl},(match q with | some (x,os,ob)=>some ((⟨.p x,none,none⟩:Res),os,ob) | none=>none)=some (r,os2,ob2)→∀b c,r.link=some (.b b c)→∃cs,lk b σ.boxes=some cs:=by
  intro q os2 ob2 h
  obtain ⟨x,_,rfl⟩:=Y2 h
  exact fun b c hl=>absurd hl (by simp)
 have mv:∀{x:Operand} {os1 os2 ob2:List Obl},(match opd σ x with
  | some (.p v)=>some ((⟨.p v,none,Jq σ v x⟩:Res),os1,([]:List Obl))
  | some a=>some (⟨a,none,none⟩,os1,[])
  | none=>none)=some (r,os2,ob2)→∀b c,r.link=some (.b b c)→∃cs,lk b σ.boxes=some cs:=by
  intro x os1 os2 ob2 h b c hl
  split at h
  ·have:=Qa_ h
   cases this
   cases x with
   | tmp t=>exact lo _ (.t t) b c (fun _ _ e=>absurd e (by simp)) hl
   | const _=>exact absurd hl (by simp[Jq])
   | global _=>exact absurd hl (by simp[Jq])
   | func _=>exact absurd hl (by simp[Jq])
  ·exact no h b c hl
  ·cases h
 obtain ⟨dst,op,type,pos,after,guard⟩:=o
 cases op with
 | move x=>exact mv h
 | assign x=>exact mv h
 | load T p=>
   simp only[Zj] at h
   intro b c hl
   split at h
   ·rename_i av hav
    split at h
    ·have:=Qa_ h
     cases this
     cases av with
     | p y=>exact absurd hl (by simp[Zal])
     | fnp f bs=>exact absurd hl (by simp[Zal])
     | sl b off n s=>exact absurd hl (by simp[Zal])
     | ptr b' off=>
       refine lo _ (.b b' off) b c (fun b2 c2 e=>?_) hl
       cases e
       exact Zc0 hI hav
    ·cases h
   ·cases h
 | pick c x y=>simp only[Zj] at h;split at h<;>first | exact noV h | cases h
 | alloc T=>simp only[Zj] at h;(repeat' split at h)<;>first | exact no h | cases h
 | box T x=>simp only[Zj] at h;(repeat' split at h)<;>first | exact no h | cases h
 | build T ps=>simp only[Zj] at h;split at h<;>first | exact noV h | cases h
 | buildSlice T n ps=>simp only[Zj] at h;split at h<;>first | exact noV h | cases h
 | fieldAddr T p f=>simp only[Zj] at h;(repeat' split at h)<;>first | exact no h | cases h
 | field T x f=>simp only[Zj] at h;split at h<;>first | exact noV h | cases h
 | nilCheck x=>simp only[Zj] at h;(repeat' split at h)<;>first | exact no h | cases h
 | binOp op T x y yT=>simp only[Zj] at h;split at h<;>first | exact noO h | cases h
 | unOp op T x=>simp only[Zj] at h;split at h<;>first | exact noO h | cases h
 | convert S T x=>simp only[Zj] at h;split at h<;>first | exact no h | cases h
 | extract x i=>simp only[Zj] at h;split at h<;>first | exact noV h | cases h
 | slice T x lo hi mx=>
   cases mx with
   | some m=>exact absurd h (by simp[Zj])
   | none=>
     simp only[Zj] at h
     split at h
     ·split at h
      ·cases h
      ·split at h<;>first | exact noO h | cases h
      ·split at h<;>first | exact noO h | cases h
      ·split at h<;>first | exact noO h | cases h
     ·cases h
 | index T x i=>simp only[Zj] at h;split at h<;>first | exact noO h | cases h
 | indexAddr T x i=>
   simp only[Zj] at h
   split at h
   ·split at h
    ·split at h
     ·rename_i ety xs' i' y os2 hety
      cases hb:(Nat.beq y.length ety.size&& !(Nat.beq ety.size 0)) with
      | false=>rw[hb] at h;cases h
      | true=>rw[hb] at h;exact no h
     ·cases h
    ·split at h<;>first | exact no h | cases h
    ·split at h<;>first | exact no h | cases h
    ·cases h
   ·cases h
 | makeFunc fn first caps=>
   cases fn with
   | func f=>
     simp only[Zj] at h
     split at h
     ·split at h
      ·cases hb:Nat.beq first.size 0 with
       | false=>rw[hb] at h;cases h
       | true=>rw[hb] at h;exact no h
      ·cases h
     ·cases h
   | _=>exact absurd h (by simp[Zj])
 | call c=>
   obtain ⟨callee,args,ats⟩:=c
   cases callee with
   | builtin b=>simp only[Zj] at h;split at h<;>first | exact noO h | cases h
   | value f=>
     simp only[Zj] at h
     split at h
     ·split at h
      ·rename_i r' _ _ _ _ xs c hh
       revert h
       cases (!c||flat _) with
       | false=>intro h;cases h
       | true=>intro h;exact no h
      ·cases h
     ·split at h
      ·revert h
       cases flat _ with
       | false=>intro h;cases h
       | true=>intro h;exact no h
      ·cases h
     ·cases h
   | invoke r m=>exact absurd h (by simp[Zj])
 | _=>exact absurd h (by simp[Zj])
end
section
variable {P:Program}{B:Nat}{g:G}{σ:St}{a:Act}{w:World}{o:Oper}
theorem Zmv{Γ:List (Nat×Ty)}(hΓ:ZW P Γ)(hI:Inv P B g σ a w){os os' ob:List Obl}{r:Res}(h:W7 Γ σ o os=some (r,os',ob))(ho:ZM P ob):
 Good P g σ a w o r∧∀d,o.dst=some d→d < σ.n∧∀l,r.link=some l→l≠ .t d∧∀b c,l= .b b c→∃cs,lk b σ.boxes=some cs:=by
 unfold W7 at h
 split at h
 ·rename_i r1 os1 ob1 h1
  split at h
  ·rename_i d hd
   split at h
   ·rename_i r2 os2 ob2 h2
    cases hb:(Nat.blt d σ.n&&ZdL d r2.link) with
    | false=>rw[hb] at h;cases h
    | true=>
      rw[hb] at h
      have:=Qa_ h
      cases this
      rw[Qh_] at hb
      refine ⟨(ZdK hΓ hI h1 (Zjc ho)).mono fun v w' ⟨g',hp⟩=>⟨g',ZnM h2 (ZhH ho) hp⟩,fun d' hd'=>?_⟩
      rw[hd] at hd'
      have:=Qa_ hd'
      subst this
      refine ⟨Qm_ hb.1,fun l hl=>⟨fun e=>?_,fun b c e=>?_⟩⟩
      ·rw[hl,e] at hb
       simp[ZdL] at hb
      ·subst e
       have:r1.link=some (.b b c):=by
        unfold rewr at h2
        split at h2
        ·rename_i d' b' v' os2 h' bx l'
         cases hq:Nat.beq d d' with
         | false=>rw[hq] at h2;have:=Qa_ h2;cases this;exact hl
         | true=>rw[hq] at h2;have:=Qa_ h2;cases this;exact hl
        ·rename_i d' x' y os2 x bx l'
         cases hq:Nat.beq d d' with
         | false=>rw[hq] at h2;have:=Qa_ h2;cases this;exact hl
         | true=>rw[hq] at h2;have:=Qa_ h2;cases this;exact hl
        ·have:=Qa_ h2;cases this;exact hl
       exact ZrL hI h1 b c this
   ·cases h
  ·rename_i hd
   have:=Qa_ h
   cases this
   exact ⟨ZdK hΓ hI h1 ho,fun d hd'=>by rw[hd] at hd';cases hd'⟩
 ·cases h
theorem ZdM(hI:Inv P B g σ a w){r:Res}{v:Value}{w':World}{g':G}(hp:PRes g σ a w o r v w' g'){d:Nat}(hd:d < σ.n):Fr B g σ w g' (Xa σ d r) w':=by
 refine Fr.of_qt hI.hwlt hI.base hp.qt rfl (fun b cs' hn hb=>?_)
 have hne:b≠d:=by omega
 have:lk b σ.boxes=some cs':=by
  rw[Jt] at hb
  cases hr:r.box with
  | none=>rw[hr] at hb;exact hb
  | some cs=>rw[hr] at hb;simpa [hne] using hb
 exact ⟨cs',this,rfl,hp.beta ⟨cs',this⟩⟩
theorem Zgl{Γ:List (Nat×Ty)}(hΓ:ZW P Γ)(hI:Inv P B g σ a w){T:TypeId}{p x:Operand}{σ':St}(hop:o.op= .store T p x)(hd:o.dst=none)(h:X9 Γ σ T p x=some σ'):Goes P B g σ a w o σ':=by
 unfold X9 at h
 split at h
 ·rename_i b off v ty hp hv hty
  split at h
  ·rename_i cs hcs
   cases hb:(Nat.beq v.cells.length ty.size&&Nat.ble (off+ty.size) cs.length&& !(Nat.beq ty.size 0)&& !(has b σ.ro)) with
   | false=>rw[hb] at h;cases h
   | true=>
     rw[hb] at h
     simp only[Qb_] at h
     simp only[Qh_,Qi_] at hb
     obtain ⟨⟨⟨hb1,hb2⟩,hb3⟩,hb4⟩:=hb
     have e1:=Qj_ hb1
     have e2:=Qm_ hb2
     have e3:ty.size≠0:=fun h0=>by rw[h0] at hb3;exact absurd hb3 (by decide)
     have hro:b∉σ.ro:=fun hm=>by rw[YE.2 hm] at hb4;cases hb4
     have hrep:=Zt hI hv
     have hvc:=hrep.cellsRep (by intro h0;rw[h0] at e1;exact e3 e1.symm)
     obtain ⟨k,base,hk,hpv⟩:=ZD hI hp
     obtain ⟨k',base',hk',hlt,hok,hhw,hB⟩:=hI.box b cs hcs
     rw[hk] at hk'
     have:=Qa_ hk'
     cases this
     have hT:=ZF (hΓ T ty hty)
     have hsz:(a.eval x).cells.size=ty.size:=by have:=hvc.len;rw[e1] at this;simpa using this
     have hcell:∀j,j < (a.eval x).cells.toList.length→∃u,w.cell? ⟨k,base+off+j,none⟩=some u∧w.frozen? ⟨k,base+off+j,none⟩=false:=by
      intro j hj
      have hj':off+j < cs.length:=by simp at hj;omega
      obtain ⟨u,h1,_,h3,_⟩:=hok.cell (off+j) cs[off+j] (Qg_ hj')
      rw[←Kr_] at h1 h3
      exact ⟨u,h1,h3⟩
     have hrun:=run_storeCells_cells (P:=P) k (base+off) (a.eval x).cells.toList 0 w (fun j hj=>by obtain ⟨u,h1,_⟩:=hcell j hj;simp[h1]) (fun j hj=>by obtain ⟨u,_,h2⟩:=hcell j hj;simpa using h2) hvc.one
     simp only[Nat.add_zero] at hrun
     have hturn:Turned g w g.hw (w.setCells k (base+off) (a.eval x).cells.toList) k (base+off) v.cells.length:=by
      obtain ⟨r1,r2,r3⟩:=WV k (a.eval x).cells.toList (base+off) w
      refine ⟨r1,r2,r3,by rw[Xg];exact Q2_ _,fun j _ hj=>WU k _ _ w j hj,fun off' ho=>World.cell?_setCells_out k _ _ w _ (fun _ _=>?_),fun off'=>World.frozen?_setCells k _ _ w _,fun _ _=>rfl,fun j hj=>hI.hwlt j (by rw[Xg] at hj;exact hj)⟩
      rw[←hvc.len] at ho
      show off' < base+off∨base+off+_≤off'
      omega
     have hx:=hturn.ext hI.hwlt (hhw hro)
     have hshape:(w.setCells k (base+off) (a.eval x).cells.toList).shape? k=w.shape? k:=W5 k k _ _ w
     have hnew:BoxOk ⟨g.β,g.hw⟩ (w.setCells k (base+off) (a.eval x).cells.toList) k (base+off) v.cells:=by
      refine ⟨fun j y hy=>?_⟩
      have hj:j < (a.eval x).cells.toList.length:=by rw[hvc.len];exact (Qo_.1 hy).1
      refine ⟨(a.eval x).cells.toList[j],World.cell?_setCells_in k _ _ w (fun i hi=>by obtain ⟨u,h1,_⟩:=hcell i hi;simp[h1]) j hj,hvc.one _ (K1_ hj), ?_,.rep ((hvc.rep j _ y (Qg_ hj) hy).mono hx)⟩
      rw[World.frozen?_setCells]
      obtain ⟨u,_,h2⟩:=hcell j hj
      exact h2
     have href:∀y∈v.cells,∀b',YZ y=some b'→∃cs',lk b' σ.boxes=some cs':=fun y hy b' hb'=>by
      obtain ⟨j,hj,rfl⟩:=Km_ hy
      rw[ZhE (hvc.rep j _ _ (Qg_ (l:=(a.eval x).cells.toList) (i:=j) (by rw[hvc.len];exact hj)) (Qg_ hj))] at hb'
      cases hb'
     have hgo:∀σ2,Inv P B ⟨g.β,g.hw⟩ σ2 a (w.setCells k (base+off) (a.eval x).cells.toList)∧Fr B g σ w ⟨g.β,g.hw⟩ σ2 (w.setCells k (base+off) (a.eval x).cells.toList)→Goes P B g σ a w o σ2:=by
      intro σ2 ⟨h1,h2⟩
      refine .inr (.inl ⟨undef,w.setCells k (base+off) (a.eval x).cells.toList,rfl, ?_,⟨g.β,g.hw⟩,by rw[hd];exact h1,h2⟩)
      unfold execOp
      rw[hop]
      simp[Instr.storeAt,Instr.sureAddr,hpv,storeVar,hsz,ZP hT,hrun]
     have hle:off+v.cells.length≤cs.length:=by rw[e1];exact e2
     have plain:Goes P B g σ a w o (Y3 σ b off v.cells cs []):=
      hgo _ (Zap hI hcs hro hk hle hturn hnew (.inr hshape) href (fun l E hl=>by simp[lkL] at hl) (fun l l' E E' hl=>by simp[lkL] at hl))
     split at h
     ·rename_i t
      split at h
      ·rename_i E hE
       have:=Qa_ h
       subst this
       obtain ⟨val,hval,hown,hnb⟩:=hI.own _ E hE
       have hvv:a.tmps.getD t undef=val:=hval
       have hev:a.eval (.tmp t)=val:=hvv
       obtain ⟨i,n,xs,hi,hrow,hfr⟩:=hown
       have hone:val.oneCell'=true∧val.cells=#[val]:=by
        rcases hrow.2 with ⟨rfl,_⟩ | ⟨gb,cap,cur,rfl,_⟩<;>exact ⟨rfl,rfl⟩
       have hs1:v.cells.length=1:=by
        have:=hvc.len
        rw[hev,hone.2] at this
        simpa using this.symm
       have hI1:Inv P B ⟨g.β,g.hw⟩ (ZY σ (.t t)) a w∧Fr B g σ w ⟨g.β,g.hw⟩ (ZY σ (.t t)) w:=JK hI (Qt.grew (Qt.refl hI.hwlt)) (own':=(ZY σ (.t t)).own) (fun _ h=>absurd h (by simp)) (fun _ h=>absurd h (by simp))
        (fun l E' hl=>by
          rw[show (ZY σ (.t t)).own=σ.own.filter (fun (k,_)=> !(k.eq (.t t))) from rfl,ZO (fun k=> !(k.eq (.t t)))] at hl
          split at hl
          ·exact hl
          ·cases hl) (fun _ _ _ _ _ _ h=>absurd h (by simp))
       have:=Zap (own':=[(.b b off,E)]) hI1.1 hcs hro hk hle hturn hnew (.inr hshape) href (fun l E' hl=>by
        rw[XJ] at hl
        split at hl
        ·rename_i e
         have:=Qa_ hl
         subst this;subst e
         refine ⟨off,val,rfl,Q2_ _,by omega, ?_,⟨i,n,xs,hi,hrow,hfr⟩,hnb,fun l' E2 val' j hl' _ hloc hj hj'=>?_⟩
         ·have:=World.cell?_setCells_in k (a.eval (.tmp t)).cells.toList (base+off) w (fun i hi=>by obtain ⟨u,h1,_⟩:=hcell i hi;simp[h1]) 0 (by rw[hvc.len];omega)
          rw[Nat.add_zero] at this
          rw[this]
          congr 1
          simp[hev,hone.2]
         ·rw[show (ZY σ (.t t)).own=σ.own.filter (fun (k,_)=> !(k.eq (.t t))) from rfl,ZO (fun k=> !(k.eq (.t t)))] at hl'
          split at hl'
          ·rename_i hne
           have:=hI.owninj (.t t) l' _ E2 val val' j hE hl' hval hloc hj hj'
           rw[←this,Loc.eq_iff.2 rfl] at hne
           cases hne
          ·cases hl'
        ·simp[lkL] at hl) (fun l l' E1 E2 h1 h2=>by
        rw[XJ] at h1 h2
        split at h1
        ·split at h2
         ·rename_i e1 e2;rw[e1,e2]
         ·simp[lkL] at h2
        ·simp[lkL] at h1)
       exact hgo _ ⟨this.1,hI1.2.trans this.2⟩
      ·have:=Qa_ h
       subst this
       exact plain
     ·have:=Qa_ h
      subst this
      exact plain
  ·cases h
 ·cases h
end
section
variable {P:Program}{B:Nat}{g:G}{σ:St}{a:Act}{w:World}{o:Oper}
theorem Zkc(hI:Inv P B g σ a w){hw':Nat→Nat}{w':World}{row:Option Nat}(h:Grew g w hw' w' row)(hbox:∀j,row=some j→∀b cs base,lk b σ.boxes=some cs→g.β b≠some (j,base))
 {l:Loc} (hl:∀b c,l= .b b c→∃cs,lk b σ.boxes=some cs) {val:Value} (hv:LocIs g a w l val):LocIs ⟨g.β,hw'⟩ a w' l val:=by
 cases l with
 | t t=>exact hv
 | b b c=>
   obtain ⟨cs,hcs⟩:=hl b c rfl
   obtain ⟨k,base,h1,h2⟩:=hv
   obtain ⟨k',base',hk,hlt,_⟩:=hI.box b cs hcs
   rw[h1] at hk
   have:=Qa_ hk
   cases this
   have hc:w'.cell? ⟨k,base+c,none⟩=w.cell? ⟨k,base+c,none⟩:=World.cell?_of_block (w:=w) (a:=⟨k,base+c,none⟩) (h.block k hlt (fun e=>hbox k e.symm b cs base hcs h1))
   exact ⟨k,base,h1,by rw[hc];exact h2⟩
theorem Jh{l:Loc}{v1 v2:Value}(h1:LocIs g a w l v1)(h2:LocIs g a w l v2):v1=v2:=by
 cases l with
 | t t=>exact h1.symm.trans h2
 | b b c=>
   obtain ⟨k,base,e1,e2⟩:=h1
   obtain ⟨k',base',e3,e4⟩:=h2
   rw[e1] at e3
   have:=Qa_ e3
   cases this
   rw[e2] at e4
   exact Qa_ e4
theorem ZpN{l:Loc}{d:Nat}{v val:Value}(hl:l≠ .t d)(h:LocIs g a w l val):LocIs g (a.put (some d) v) w l val:=by
 cases l with
 | t t=>
   have hne:t≠d:=fun e=>hl (by rw[e])
   show (a.put (some d) v).tmps.getD t undef=val
   rw[←h]
   simp[Act.put,QA_,Ne.symm hne]
 | b b c=>exact h
theorem ZtL(hI:Inv P B g σ a w){d:Nat}(hd:d < σ.n){v:Value}:(a.put (some d) v).tmps.getD d undef=v:=by
 have:d < a.tmps.size:=by rw[hI.size];exact hd
 simp[Act.put,QA_,this]
theorem ZmZ{σ:St}{d:Nat}{av:AV}{l:Loc}{E:Nat}(h:lkL l (put σ d av).own=some E):l≠ .t d∧lkL l σ.own=some E:=by
 have e:(put σ d av).own=σ.own.filter fun (l,_)=> !(l.eq (.t d)):=rfl
 rw[e,ZO (fun l=> !(l.eq (.t d)))] at h
 split at h
 ·rename_i hne
  refine ⟨fun e=>?_,h⟩
  rw[e,Loc.eq_iff.2 rfl] at hne
  cases hne
 ·cases h
theorem YW{σ:St}{l l':Loc}{E:Nat}(h:lkL l (ZY σ l').own=some E):l≠l'∧lkL l σ.own=some E:=by
 have e:(ZY σ l').own=σ.own.filter fun (k,_)=> !(k.eq l'):=rfl
 rw[e,ZO (fun k=> !(k.eq l'))] at h
 split at h
 ·rename_i hne
  refine ⟨fun e=>?_,h⟩
  rw[e,Loc.eq_iff.2 rfl] at hne
  cases hne
 ·cases h
theorem W8(hI:Inv P B g σ a w){own':List (Loc×Nat)}{d:Nat}(hd:d < σ.n){E:Nat}{v v':Value}{w':World}{hw':Nat→Nat}{x:PV}
 (hlt:∀k,v.ownBlock=some k→B≤k∧k < w.heap.size) (hbox:∀k,v.ownBlock=some k→∀b cs base,lk b σ.boxes=some cs→g.β b≠some (k,base))
 (hown:∀l E,lkL l own'=some E→lkL l σ.own=some E) (hfree:∀l E val j,lkL l own'=some E→LocIs g a w l val→v.ownBlock=some j→val.ownBlock≠some j)
 (h:Grew g w hw' w' v.ownBlock) (hr:Rep hw' w' v' x) (ho:OwnV P B hw' w' E v') (hb:v'.ownBlock=v.ownBlock∨∀k,v'.ownBlock=some k→w.heap.size≤k):
 Inv P B ⟨g.β,hw'⟩ (XW (put {σ with own:=own'} d (.p x)) d E) (a.put (some d) v') w'∧Fr B g σ w ⟨g.β,hw'⟩ (XW (put {σ with own:=own'} d (.p x)) d E) w':=by
 obtain ⟨h1,h2⟩:=JK hI h hbox (fun j e=>(hlt j e).1) hown hfree
 have h3:=XN h1 (d:=d) hd hr
 refine ⟨ZbJ h3 (val:=v') hd (ZtL h1 hd) ho (fun k hk b cs base hbx hk'=>?_) (fun l E' val' k hl hloc hk hk'=>?_),⟨h2.os,h2.tape,h2.output,h2.size,h2.n,h2.block,h2.cell,h2.frozen,h2.hw,h2.par,h2.ext⟩⟩
 ·rcases hb with e | e
  ·rw[e] at hk;exact hbox k hk b cs base hbx hk'
  ·have:=e k hk
   obtain ⟨k2,base2,e1,e2,_⟩:=hI.box b cs hbx
   have hk2:g.β b=some (k,base):=hk'
   rw[e1] at hk2
   have:=Qa_ hk2
   cases this
   omega
 ·obtain ⟨hne,hl1⟩:=ZmZ hl
  have hl2:lkL l own'=some E':=hl1
  have hl3:=hown l E' hl2
  obtain ⟨val0,q1,q2,q3⟩:=hI.own l E' hl3
  have hbx:∀b c,l= .b b c→∃cs,lk b σ.boxes=some cs:=fun b c e=>by have:=hI.ownt l E' hl3;subst e;exact this
  have q4:=ZpN (v:=v') hne (Zkc hI h hbox hbx q1)
  have:=Jh q4 hloc
  subst this
  rcases hb with e | e
  ·rw[e] at hk;exact hfree l E' val0 k hl2 q1 hk hk'
  ·have:=e k hk
   have:=(ZU q2 k hk').1
   omega
theorem Zmw{Γ:List (Nat×Ty)}(hΓ:ZW P Γ)(hI:Inv P B g σ a w){args:Array Operand}{ats:Array TypeId}{x y:Operand}{t t':TypeId}{d:Nat}(hop:o.op= .call ⟨.builtin .append,args,ats⟩)(hargs:args.toList=[x,y])(hats:ats.toList=[t,t'])
 (hdst:o.dst=some d) (hd:d < σ.n) {os os' ob:List Obl} {σ':St} (h:Wo Γ σ d x y t t' os=some (σ',os',ob)) (ho:ZM P ob):Goes P B g σ a w o σ':=by
 have ea:args=#[x,y]:=by apply QW_;simpa using hargs
 have et:ats=#[t,t']:=by apply QW_;simpa using hats
 subst ea;subst et
 unfold Wo at h
 split at h
 ·rename_i ty xv ys p os1 hty hx hy
  cases hb:(Nat.beq t t'&&Nat.beq ty.kd 3) with
  | false=>rw[hb] at h;cases h
  | true=>
    rw[hb] at h
    simp only[Qb_] at h
    rw[Qh_] at hb
    have htt:=Qj_ hb.1
    subst htt
    have hkd:=Qj_ hb.2
    split at h
    ·rename_i ety hety
     cases hb2:(Nat.beq ety.size 0||Nat.beq ety.bytes 0) with
     | true=>rw[hb2] at h;cases h
     | false=>
       rw[hb2] at h
       simp only[Qd_] at h
       rw[Ka_] at hb2
       have s0:ety.size≠0:=fun e=>by rw[e] at hb2;exact absurd hb2.1 (by decide)
       have b0:ety.bytes≠0:=fun e=>by rw[e] at hb2;exact absurd hb2.2 (by decide)
       have hrx:=Zt hI hx
       have hry:=Zt hI hy
       have fin:∀(v':Value) (w':World) (σ2:St),(Builtin.append_ #[t,t] o.type #[a.eval x,a.eval y]).run P w= .ok v' w'→(∃g',Inv P B g' σ2 (a.put (some d) v') w'∧Fr B g σ w g' σ2 w')→Goes P B g σ a w o σ2:=by
        intro v' w' σ2 hrun hinv
        refine .inl ⟨v',w', ?_,by rw[hdst];exact hinv⟩
        unfold execOp
        rw[hop]
        simp only[resolve,pure_bind,invoke]
        rw[show (#[x,y]:Array Operand).map a.eval=#[a.eval x,a.eval y] from by simp]
        exact ZI hrun
       split at h
       ·have:=Qa_ h
        cases this
        obtain ⟨q1,q2,q3⟩:0 < ys.length∧(0+ys.length)*ety.bytes≤140737488355328∧Lens ety.size ys:=ho (.pr _) (by simp)
        have hn:a.eval x= .slice none 0 0:=by generalize a.eval x=v at *;cases hrx;rfl
        obtain ⟨i,z,hi,_⟩:=(ZF (hΓ _ _ hety)).info
        have hov:OwnV P B g.hw w ty.elem (.slice none 0 0):=⟨i,0,[],hi,World.ownsRow_nil _ _ _ _,fun k hk=>absurd hk (by simp[Value.ownBlock])⟩
        obtain ⟨v',w',hw',r1,r2,r3,r4,r5⟩:=Zfs (xs:=[]) hΓ hI hty hkd hety s0 b0 .lnil hov hry q1 q2 q3 o.type
        rw[←hn] at r1
        have:=W8 (v:= .slice none 0 0) (own':=σ.own) hI hd (fun k hk=>absurd hk (by simp[Value.ownBlock])) (fun k hk=>absurd hk (by simp[Value.ownBlock])) (fun _ _ h=>h) (fun _ _ _ j _ _ hk=>absurd hk (by simp[Value.ownBlock])) r2 r3 r4 r5
        exact fin v' w' _ r1 ⟨_,this⟩
       ·rename_i xs t1
        split at h
        ·rename_i E hE
         cases hb3:Nat.beq E ty.elem with
         | false=>rw[hb3] at h;cases h
         | true=>
           rw[hb3] at h
           have:=Qa_ h
           cases this
           have hEe:=Qj_ hb3
           subst hEe
           obtain ⟨q1,q2,q3⟩:0 < ys.length∧(xs.length+ys.length)*ety.bytes≤140737488355328∧Lens ety.size (xs++ys):=ho (.pr _) (by simp)
           obtain ⟨val,hl,hov,hbx⟩:=hI.own _ ty.elem hE
           have hlv:LocIs g a w (match lk t1 σ.al with | some l=>l | none=> .t t1) (a.eval (.tmp t1)):=by
            split
            ·rename_i l hl;exact hI.al _ _ (Zao hl)
            ·rfl
           have hv:=Jh hl hlv
           subst hv
           obtain ⟨v',w',hw',r1,r2,r3,r4,r5⟩:=Zfs hΓ hI hty hkd hety s0 b0 hrx hov hry q1 q2 q3 o.type
           have:=W8 (own':=(ZY σ (match lk t1 σ.al with | some l=>l | none=> .t t1)).own) hI hd (fun k hk=>by have:=ZU hov k hk;exact ⟨this.2,this.1⟩) hbx (fun l E h=>(YW h).2)
            (fun l E' val' j hl' hloc hj hj'=>(YW hl').1 (hI.owninj l _ E' ty.elem val' _ j (YW hl').2 hE hloc hl hj' hj)) r2 r3 r4 r5
           exact fin v' w' _ r1 ⟨_,this⟩
        ·cases h
       ·cases h
    ·cases h
 ·cases h
end
section
variable {P:Program}{B:Nat}{g:G}{σ:St}{a:Act}{w:World}{o:Oper}
theorem JL{σ':St}{d:Option Nat}(hd:o.dst=d)(h:OpRes P o a w fun v w'=>∃g',Inv P B g' σ' (a.put d v) w'∧Fr B g σ w g' σ' w'):Goes P B g σ a w o σ':=by
 subst hd;exact h
theorem BoxOk.part{k base off n:Nat}{cs:List PV}(h:BoxOk g w k base cs):BoxOk g w k (base+off) ((cs.drop off).take n):=by
 refine ⟨fun j y hy=>?_⟩
 rw[Kk_] at hy
 split at hy
 ·rw[Kd_] at hy
  have:=h.cell (off+j) y hy
  rw[←Kr_] at this
  obtain ⟨v,h1,h2,h3,h4⟩:=this
  exact ⟨v,h1,h2,h3,h4.at (by omega)⟩
 ·cases hy
theorem ZnN(hI:Inv P B g σ a w){f:Operand}{args:Array Operand}{ats:Array TypeId}{os os' ob:List Obl}{σ':St}(hop:o.op= .call ⟨.value f,args,ats⟩)
 (h:Zc2 σ o.dst f args.toList os=some (σ',os',ob)) (ho:ZM P ob):Goes P B g σ a w o σ':=by
 unfold Zc2 at h
 split at h
 ·rename_i fid p rest f0 cs0 as0 r cs' os1 hf hargs
  split at h
  ·rename_i b off l hp hl
   split at h
   ·rename_i cs xs hcs hxs
    cases hb:(Nat.ble (off+cs'.length) cs.length&& !(has b σ.ro)&&YD cs&&YD cs') with
    | false=>rw[hb] at h;cases h
    | true=>
      rw[hb] at h
      simp only[Qb_] at h
      simp only[Qh_,Qi_] at hb
      have hle:=Qm_ hb.1.1.1
      have hro:b∉σ.ro:=fun hm=>by rw[YE.2 hm] at hb;exact absurd hb.1.1.2 (by simp)
      obtain ⟨k,base,hk,hlt,hok,hhw,hB⟩:=hI.box b cs hcs
      obtain ⟨k',base',hk',hpv⟩:=ZD hI hp
      rw[hk] at hk'
      have:=Qa_ hk'
      cases this
      have hrf:Rep g.hw w (a.eval f) (.fn fid []):=ZD hI hf
      have hfv:a.eval f= .func (.func fid) #[] #[]:=by
       generalize a.eval f=v at *
       cases hrf with
       | fn _ vs _ hl _=>have:=QM_ hl;subst this;rfl
      obtain ⟨e1,e2⟩:=Zcz hI hl
      obtain ⟨n1,n2⟩:=WL hxs
      have hargsR:ArgsRep g.hw w (rest.map a.eval) xs:=by
       refine ⟨by simpa using e1.trans n1,fun j x y hx hy=>?_⟩
       have hj:j < l.length:=by have:=(Qo_.1 hy).1;omega
       obtain ⟨dd,h3,h4⟩:=n2 j l[j] y (Qg_ hj) hy
       have hd:=h4 rfl
       subst hd
       have hr:=e2 j x l[j] hx (Qg_ hj)
       generalize l[j]=av at *
       cases av with
       | p z=>have:=Qa_ h3;cases this;exact JJ hr
       | ptr b off=>
         unfold hand at h3
         split at h3
         ·rename_i e;cases e
         ·split at h3
          ·rename_i cs0 _
           cases hd:YD cs0<;>rw[hd] at h3<;>cases h3
          ·cases h3
         ·rename_i e;cases e
         ·rename_i e;cases e
       | sl _ _ _ _=>exact absurd h3 (by simp[hand])
       | fnp f bs=>
         unfold hand at h3
         split at h3
         ·rename_i e;cases e
         ·rename_i e;cases e
         ·split at h3<;>cases h3
         ·rename_i e;cases e
      have key:∀σ2:St,∀ob2,ob2=[Obl.callp fid ((cs.drop off).take cs'.length) xs r cs']→ZM P ob2→
       (∀v w' hw',Inv P B ⟨g.β,hw'⟩ (Y3 σ b off cs' cs []) a w'→Fr B g σ w ⟨g.β,hw'⟩ (Y3 σ b off cs' cs []) w'→Rep hw' w' v r→Inv P B ⟨g.β,hw'⟩ σ2 (a.put o.dst v) w'∧Fr B g σ w ⟨g.β,hw'⟩ σ2 w')→Goes P B g σ a w o σ2:=by
       intro σ2 ob2 hob ho2 hnext
       subst hob
       have hc:ZjU P fid ((cs.drop off).take cs'.length) xs r cs':=ho2 (.callp _ _ _ _ _) (by simp)
       have hlen:((cs.drop off).take cs'.length).length=cs'.length:=by simp;omega
       refine Ju (hc g w k (base+off) (rest.map a.eval) hI.hwlt hI.glob.1 hargsR hlt hok.part (hhw hro) |>.mono fun v w' ⟨hw',q1,q2,q3,q4,q5,q6,q7,q8,q9,q10,q11,q12⟩=>?_) (fun res hres=>?_)
       ·have ht:Turned g w hw' w' k (base+off) cs'.length:=⟨q1,q2,q3,q4,q5,by rw[hlen] at q6;exact q6,q7,q8,q9⟩
        obtain ⟨h1,h2⟩:=Zap hI hcs hro hk hle ht q10 (.inl hb.1.2) (fun y hy b' hb'=>by rw[Zu5 hb.2 hy] at hb';cases hb') (own':=[]) (fun l E hl=>by simp[lkL] at hl) (fun l l' E E' hl=>by simp[lkL] at hl)
        obtain ⟨h3,h4⟩:=hnext v w' hw' h1 h2 q12
        exact ⟨_,h3,h4⟩
       ·have e:args.map a.eval=(a.eval p::rest.map a.eval).toArray:=by apply QW_;rw[Array.toList_map,hargs];rfl
        unfold execOp
        rw[hop]
        simp only[resolve,Deferred.ofValue,hfv,pure_bind,invoke,e,hpv]
        rw[←hres]
        congr 2
        simp
      split at h
      ·rename_i hd
       have:=Qa_ h
       cases this
       exact key _ _ rfl ho (fun v w' hw' h1 h2 _=>⟨by rw[hd];exact h1,h2⟩)
      ·rename_i d hd
       cases hb4:Nat.blt d σ.n with
       | false=>rw[hb4] at h;cases h
       | true=>
         rw[hb4] at h
         have:=Qa_ h
         cases this
         refine key _ _ rfl ho (fun v w' hw' h1 h2 h3=>⟨by rw[hd];exact XN h1 (show d < σ.n from Qm_ hb4) h3, ?_⟩)
         exact ⟨h2.os,h2.tape,h2.output,h2.size,h2.n,h2.block,h2.cell,h2.frozen,h2.hw,h2.par,h2.ext⟩
   ·cases h
  ·cases h
 ·cases h
end
section
variable {P:Program}{B:Nat}{g:G}{σ:St}{a:Act}{w:World}{o:Oper}
theorem ZpO{T:TypeId}{ty ety:Ty}(hT:TyIs P T ty)(hk:ty.kd=2)(hE:TyIs P ty.elem ety)(k off:Nat)(w:World):
 (Instr.sliceAt T (.pointer (some ⟨k,off,none⟩)) none none none).run P w= .ok (.slice (some ⟨k,off,none⟩) ty.len ty.len) w:=by
 obtain ⟨hk2,_⟩:=Ym hT
 have hu:=hk2 hk
 simp[Instr.sliceAt,run_underlying hu,Instr.sureAddr,Instr.sliceBounds,ZP hE,Addr.add]
theorem Zd7{hw:Nat→Nat}{w:World}{k base n s cap:Nat}{cs:List PV}(hl:cs.length=n *s)(hc:Zcy hw w k base cs)(hd:YD cs=true)(hcap:n≤cap)(hh:base+n *s≤hw k):Rep hw w (.slice (some ⟨k,base,none⟩) n cap) (.lst (chunk s n cs)):=by
 have e:=Wm s n cs
 have hget:∀j,j < cs.length→∃v,w.cell? ⟨k,base+j,none⟩=some v∧v.oneCell'=true∧∀y,cs[j]?=some y→Rep hw w v y:=by
  intro j hj
  obtain ⟨v,h1,h2,h3⟩:=hc j cs[j] (Qg_ hj)
  refine ⟨v,h1,h2,fun y hy=>?_⟩
  rw[Qg_ hj] at hy
  have:=Qa_ hy
  subst this
  exact h3 (WZ hd (Qg_ hj))
 have idx:∀i j,i < n→j < s→i *s+j < cs.length:=fun i j hi hj=>by have:=ZdD (off:=0) hi hj;omega
 have:=Rep.lst (hw:=hw) (w:=w) (chunk s n cs) k base cap s (fun i j=>(w.cell? ⟨k,base+(i *s+j),none⟩).getD undef) (by rw[e];exact hcap) (fun i x hx=>?_) (fun i j hi hj=>?_) (fun i j x y hx hy=>?_) (fun i j hi hj=>?_) (by rw[e];exact hh)
 ·rw[e] at this;exact this
 ·obtain ⟨hi,rfl⟩:=Jg s n cs i x hx
  have:(i+1)*s≤n *s:=Kb_ s hi
  rw[Ko_] at this
  rw[K0_,K7_]
  omega
 ·rw[e] at hi
  obtain ⟨v,h1,_⟩:=hget _ (idx i j hi hj)
  rw[h1];rfl
 ·obtain ⟨hi,rfl⟩:=Jg s n cs i x hx
  rw[Kk_] at hy
  split at hy
  ·rename_i hj
   rw[Kd_] at hy
   obtain ⟨v,h1,_,h3⟩:=hget _ (idx i j hi hj)
   rw[h1]
   exact h3 y hy
  ·cases hy
 ·rw[e] at hi
  obtain ⟨v,h1,h2,_⟩:=hget _ (idx i j hi hj)
  rw[h1];exact h2
theorem ZpP{hw:Nat→Nat}{w:World}{k base n s:Nat}{cs:List PV}(hl:cs.length=n *s)(hc:Zcy hw w k base cs)(hd:YD cs=true)(hh:base+n *s≤hw k):Rep hw w (.slice (some ⟨k,base,none⟩) n n) (.lst (chunk s n cs)):=Zd7 hl hc hd (Q2_ _) hh
theorem Zmx{Γ:List (Nat×Ty)}(hΓ:ZW P Γ)(hI:Inv P B g σ a w){T:TypeId}{x:Operand}{d:Nat}(hop:o.op= .slice T x none none none)(hdst:o.dst=some d)(hd:d < σ.n){σ':St}(h:ZcO Γ σ d T x=some σ'):
 Goes P B g σ a w o σ':=by
 unfold ZcO at h
 split at h
 ·rename_i b off ty hx hty
  cases hb:(Nat.beq ty.kd 2&& !(Nat.beq ty.len 0)) with
  | false=>rw[hb] at h;cases h
  | true=>
    rw[hb] at h
    simp only[Qb_] at h
    simp only[Qh_,Qi_] at hb
    have hkd:=Qj_ hb.1
    split at h
    ·rename_i cs ety hcs hety
     cases hb2:(Nat.ble (off+ty.len *ety.size) cs.length&&YD ((cs.drop off).take (ty.len *ety.size))) with
     | false=>rw[hb2] at h;cases h
     | true=>
       rw[hb2] at h
       have:=Qa_ h
       subst this
       rw[Qh_] at hb2
       have hle:=Qm_ hb2.1
       obtain ⟨k,base,hk,hpv⟩:=ZD hI hx
       obtain ⟨h1,h2⟩:=Zgj hI hcs hk
       obtain ⟨k',base',hk',hlt,hok,_⟩:=h1.box b cs hcs
       have hk2:g.β b=some (k',base'):=hk'
       rw[hk] at hk2
       have:=Qa_ hk2
       cases this
       have hrep:Rep (fun j=>if j=k then max (g.hw j) (base+cs.length) else g.hw j) w (.slice (some ⟨k,base+off,none⟩) ty.len ty.len) (.lst (chunk ety.size ty.len ((cs.drop off).take (ty.len *ety.size)))):=by
        refine ZpP (by simp;omega) (hok.part.cells) hb2.2 ?_
        simp only[Ku_]
        omega
       refine .inl ⟨_,w, ?_,_,by rw[hdst];exact XN h1 (d:=d) hd hrep,⟨h2.os,h2.tape,h2.output,h2.size,h2.n,h2.block,h2.cell,h2.frozen,h2.hw,h2.par,h2.ext⟩⟩
       unfold execOp
       rw[hop]
       simp only[Option.map_none,hpv]
       exact ZI (ZpO (ZF (hΓ T ty hty)) hkd (ZF (hΓ _ _ hety)) k (base+off) w)
    ·cases h
 ·cases h
end
structure Sub(τ ρ:St):Prop where
 n:τ.n=ρ.n
 tmps:∀t v,lk t τ.tmps=some v→lk t ρ.tmps=some v
 boxes:∀b cs,lk b τ.boxes=some cs→lk b ρ.boxes=some cs
 ro:∀b,b∈ρ.ro→b∈τ.ro
 ptr:∀t b off,lk t τ.tmps=some (.ptr b off)→∃cs,lk b τ.boxes=some cs
 fnp:∀t f bs,lk t τ.tmps=some (.fnp f bs)→∀b∈bs,∃cs,lk b τ.boxes=some cs
 own:∀l E,lkL l τ.own=some E→lkL l ρ.own=some E
 ownb:∀b c E,lkL (.b b c) τ.own=some E→∃cs,lk b τ.boxes=some cs
 al:∀t l,(t,l)∈τ.al→(t,l)∈ρ.al
 alb:∀t b c,(t,.b b c)∈τ.al→∃cs,lk b τ.boxes=some cs
 sl:∀t b off n s,lk t τ.tmps=some (.sl b off n s)→∃cs,lk b τ.boxes=some cs
 ref:∀b cs,lk b τ.boxes=some cs→∀y∈cs,∀b',YZ y=some b'→∃cs',lk b' τ.boxes=some cs'
def WW(σ:St)(d:Nat):St:=
 {σ with tmps:=σ.tmps.filter fun (t,_)=> !(Nat.beq t d),
         own:=σ.own.filter fun (l,_)=> !(l.eq (.t d)),
         al:=σ.al.filter fun (t,l)=> !(Nat.beq t d)&& !(l.eq (.t d))}
def ZbK(σ:St)(d:Nat):St:=bif Nat.blt d σ.n then put σ d (.p (.tup [])) else WW σ d
def JM(σ:St)(ops:List Oper)(o:Oper):Option Bool:=
 match o.guard with
 | none=>some true
 | some (j,want)=>match ops[j]? with
   | some oj=>match oj.dst with
     | some d=>match lk d σ.tmps with
       | some (.p (.v (.bool b)))=>some (b==want)
       | some (.p (.tup _))=>some false
       | _=>none
     | none=>none
   | none=>none
section
variable {P:Program}{B:Nat}{g:G}{σ τ ρ:St}{a:Act}{w:World}{o:Oper}
theorem JN(hI:Inv P B g ρ a w)(h:Sub τ ρ):Inv P B g τ a w:=by
 refine ⟨hI.size.trans h.n.symm,hI.defers,fun t v ht=>?_,h.ptr,h.fnp,fun b cs hb=>?_,fun b b' cs cs' k base base' hb hb'=>hI.inj b b' cs cs' k base base' (h.boxes b cs hb) (h.boxes b' cs' hb'),hI.hwlt,hI.base,hI.glob,fun l E hl=>?_,fun l E hl=>?_,
  fun l l' E E' val val' k hl hl'=>hI.owninj l l' E E' val val' k (h.own l E hl) (h.own l' E' hl'),fun t l hm=>hI.al t l (h.al t l hm),h.alb,h.sl,h.ref⟩
 ·obtain ⟨h1,h2⟩:=hI.tmp t v (h.tmps t v ht)
  exact ⟨by rw[h.n];exact h1,h2⟩
 ·obtain ⟨k,base,h1,h2,h3,h4,h5⟩:=hI.box b cs (h.boxes b cs hb)
  exact ⟨k,base,h1,h2,h3,fun hr=>h4 (fun hm=>hr (h.ro b hm)),fun hn=>h5 (by rw[←h.n];exact hn)⟩
 ·obtain ⟨val,h1,h2,h3⟩:=hI.own l E (h.own l E hl)
  exact ⟨val,h1,h2,fun k hk b cs base hb=>h3 k hk b cs base (h.boxes b cs hb)⟩
 ·have:=hI.ownt l E (h.own l E hl)
  cases l with
  | t t=>rw[h.n];exact this
  | b b c=>exact h.ownb b c E hl
theorem Zf6{g':G}{w':World}(h:Fr B g σ w g' ρ w')(hs:Sub τ ρ):Fr B g σ w g' τ w':=
 ⟨h.os,h.tape,h.output,h.size,hs.n.trans h.n,h.block,h.cell,h.frozen,h.hw,fun b cs hn hb=>h.par b cs hn (hs.boxes b cs hb),h.ext⟩
theorem Zkd{g':G}{w':World}{σ':St}(h:Fr B g τ w g' σ' w')(hs:Sub τ ρ):Fr B g ρ w g' σ' w':=by
 have l1:∀k,Zac g τ k→Zac g ρ k:=fun k ⟨b,cs,base,h1,h2,h3⟩=>⟨b,cs,base,by rw[←hs.n];exact h1,hs.boxes b cs h2,h3⟩
 have l2:∀k off,Lent g τ k off→Lent g ρ k off:=fun k off ⟨b,cs,base,h1,h2,h3⟩=>⟨b,cs,base,by rw[←hs.n];exact h1,hs.boxes b cs h2,h3⟩
 exact ⟨h.os,h.tape,h.output,h.size,h.n.trans hs.n,fun k hk hn=>h.block k hk (fun hl=>hn (l1 k hl)),fun k off hk hn=>h.cell k off hk (fun hl=>hn (l2 k off hl)),h.frozen,fun k hk hn=>h.hw k hk (fun hl=>hn (l1 k hl)),
  fun b cs hn hb=>by obtain ⟨cs0,h1,h2,h3⟩:=h.par b cs (by rw[hs.n];exact hn) hb;exact ⟨cs0,hs.boxes b cs0 h1,h2,h3⟩,h.ext⟩
theorem Zgm{x y:Nat}(h:x≠y):Nat.beq x y=false:=by
 cases hh:Nat.beq x y with
 | true=>exact absurd (Qj_ hh) h
 | false=>rfl
theorem Zar{α:Type}(p:Nat→Bool)(l:List (Nat×α))(k:Nat):lk k (l.filter fun (x,_)=>p x)=if p k=true then lk k l else none:=by
 induction l with
 | nil=>simp[lk]
 | cons hd tl ih=>
   obtain ⟨k',x⟩:=hd
   by_cases hp:p k'=true
   ·rw[List.filter_cons_of_pos (by simpa using hp),Zs,Zs,ih]
    by_cases hk:k=k'
    ·subst hk;simp[hp]
    ·simp[hk]
   ·rw[List.filter_cons_of_neg (by simpa using hp),ih,Zs]
    by_cases hk:k=k'
    ·subst hk;simp[hp]
    ·simp[hk]
theorem ZpQ(hI:Inv P B g σ a w)(d:Nat):Sub (WW σ d) σ:=by
 have ht:∀t v,lk t (WW σ d).tmps=some v→lk t σ.tmps=some v:=by
  intro t v h
  rw[show (WW σ d).tmps=σ.tmps.filter fun (t,_)=> !(Nat.beq t d) from rfl,Zar (fun t=> !(Nat.beq t d))] at h
  split at h
  ·exact h
  ·cases h
 have ho:∀l E,lkL l (WW σ d).own=some E→lkL l σ.own=some E:=by
  intro l E h
  rw[show (WW σ d).own=σ.own.filter fun (l,_)=> !(l.eq (.t d)) from rfl,ZO (fun l=> !(l.eq (.t d)))] at h
  split at h
  ·exact h
  ·cases h
 have ha:∀t l,(t,l)∈(WW σ d).al→(t,l)∈σ.al:=fun t l h=>(QY_.1 h).1
 exact ⟨rfl,ht,fun _ _ h=>h,fun _ h=>h,fun t b off h=>hI.ptr t b off (ht _ _ h),fun t f bs h=>hI.fnp t f bs (ht _ _ h),ho,fun b c E h=>hI.ownt (.b b c) E (ho _ _ h),ha,fun t b c h=>hI.alt t b c (ha _ _ h),fun t b off n s h=>hI.sl t b off n s (ht _ _ h),hI.ref⟩
theorem Zmy(hI:Inv P B g σ a w){d:Nat}(ht:lk d σ.tmps=none)(ho:lkL (.t d) σ.own=none)(ha:∀t l,(t,l)∈σ.al→t≠d∧l≠ .t d)(v:Value):Inv P B g σ (a.put (some d) v) w:=by
 have get:∀t,t≠d→(a.put (some d) v).tmps.getD t undef=a.tmps.getD t undef:=by
  intro t hne
  simp[Act.put,QA_,Ne.symm hne]
 have loc:∀l val,l≠ .t d→(LocIs g (a.put (some d) v) w l val↔LocIs g a w l val):=by
  intro l val hl
  cases l with
  | t t=>
    have hne:t≠d:=fun e=>hl (by rw[e])
    show (a.put (some d) v).tmps.getD t undef=val↔a.tmps.getD t undef=val
    rw[get t hne]
  | b b c=>exact Iff.rfl
 have hol:∀l E,lkL l σ.own=some E→l≠ .t d:=fun l E h e=>by rw[e,ho] at h;cases h
 refine ⟨?_,hI.defers,fun t x hx=>?_,hI.ptr,hI.fnp,hI.box,hI.inj,hI.hwlt,hI.base,hI.glob,fun l E hl=>?_,hI.ownt,fun l l' E E' val val' k hl hl' h1 h2=>?_,fun t l hm=>?_,hI.alt,hI.sl,hI.ref⟩
 ·simp[Act.put];exact hI.size
 ·have hne:t≠d:=fun e=>by rw[e,ht] at hx;cases hx
  rw[get t hne]
  exact hI.tmp t x hx
 ·obtain ⟨val,h1,h2⟩:=hI.own l E hl
  exact ⟨val,(loc l val (hol l E hl)).2 h1,h2⟩
 ·exact hI.owninj l l' E E' val val' k hl hl' ((loc l val (hol l E hl)).1 h1) ((loc l' val' (hol l' E' hl')).1 h2)
 ·obtain ⟨h1,h2⟩:=ha t l hm
  rw[get t h1]
  exact (loc l _ h2).2 (hI.al t l hm)
theorem ZrM(hI:Inv P B g σ a w)(d:Nat)(v:Value):Inv P B g (WW σ d) (a.put (some d) v) w:=by
 refine Zmy (JN hI (ZpQ hI d)) ?_ ?_ (fun t l hm=>?_) v
 ·rw[show (WW σ d).tmps=σ.tmps.filter fun (t,_)=> !(Nat.beq t d) from rfl,Zar (fun t=> !(Nat.beq t d))]
  simp
 ·rw[show (WW σ d).own=σ.own.filter fun (l,_)=> !(l.eq (.t d)) from rfl,ZO (fun l=> !(l.eq (.t d)))]
  simp[Loc.eq_iff.2]
 ·have:=(QY_.1 hm).2
  simp only[Qh_,Qi_] at this
  refine ⟨fun e=>?_,fun e=>?_⟩
  ·subst e;simp at this
  ·rw[e,Loc.eq_iff.2 rfl] at this;exact absurd this.2 (by simp)
theorem Wa(hI:Inv P B g σ a w){ops:Array Oper}{b:Bool}(h:JM σ ops.toList o=some b):Region.wanted o (yielded ops a.tmps)=b:=by
 unfold JM at h
 unfold Region.wanted
 split at h
 ·rename_i hg
  rw[hg]
  exact Qa_ h
 ·rename_i j want hg
  rw[hg]
  simp only
  split at h
  ·rename_i oj hj
   split at h
   ·rename_i d hd
    split at h
    ·rename_i c hc
     have:=Qa_ h
     subst this
     obtain ⟨h1,h2⟩:=hI.tmp d _ hc
     have hv:a.tmps.getD d undef= .bool c:=Z6 h2
     have hlt:d < a.tmps.size:=by rw[hI.size];exact h1
     have hs:a.tmps[d]?=some (.bool c):=by
      rw[QA_,QC_ hlt] at hv
      rw[QC_ hlt]
      exact Kj_ some hv
     have:yielded ops a.tmps j=some c:=by
      unfold yielded
      rw[←QX_,hj]
      simp[hd,hs]
     rw[this]
     cases c<;>cases want<;>rfl
    ·rename_i vs hc
     have:=Qa_ h
     subst this
     obtain ⟨h1,h2⟩:=hI.tmp d _ hc
     have hlt:d < a.tmps.size:=by rw[hI.size];exact h1
     have h2:Rep g.hw w (a.tmps.getD d undef) (.tup vs):=h2
     have hs:a.tmps[d]?=some (a.tmps.getD d undef):=by
      rw[QA_,QC_ hlt]
      rfl
     have:yielded ops a.tmps j=none:=by
      unfold yielded
      rw[←QX_,hj]
      generalize a.tmps.getD d undef=u at *
      cases h2
      simp[hd,hs]
     rw[this]
     cases want<;>rfl
    ·cases h
   ·cases h
  ·cases h
def Post(P:Program)(B:Nat)(g:G)(σ:St)(w:World)(σ':St)(a':Act)(w':World):Prop:=∃g',Inv P B g' σ' a' w'∧Fr B g σ w g' σ' w'
theorem Post.trans{B:Nat}{g g1:G}{σ σ1 σ2:St}{w w1 w2:World}{a2:Act}(h1:Fr B g σ w g1 σ1 w1)(h2:Post P B g1 σ1 w1 σ2 a2 w2):Post P B g σ w σ2 a2 w2:=by
 obtain ⟨g2,h3,h4⟩:=h2
 exact ⟨g2,h3,h1.trans h4⟩
theorem ZdN(hI:Inv P B g σ a w)(d:Nat):Inv P B g (ZbK σ d) (a.put (some d) undef) w:=by
 unfold ZbK
 cases hb:Nat.blt d σ.n with
 | true=>exact XN hI (Qm_ hb) (.tup [] [] rfl fun j x y hx=>by simp at hx)
 | false=>exact ZrM hI d undef
theorem Zf7(d:Nat):Fr B g σ w g (ZbK σ d) w:=by
 unfold ZbK
 cases Nat.blt d σ.n<;>exact ⟨rfl,rfl,rfl,Q2_ _,rfl,fun _ _ _=>rfl,fun _ _ _ _=>rfl,fun _ _ _=>rfl,fun _ _ _=>rfl,fun _ cs' _ h=>⟨cs',h,rfl,rfl⟩,Ext.refl _ _⟩
end
def XA{α:Type}:Option α→Bool
 | some _=>true
 | none=>false
def Zke(bx:List (Nat×List PV)):AV→Bool
 | .p _=>true
 | .ptr b _=>XA (lk b bx)
 | .fnp _ bs=>bs.all fun b=>XA (lk b bx)
 | .sl b _ _ _=>XA (lk b bx)
inductive Src where
 | at (l:Loc)
 | nil
def Zc3:List (Nat×List PV)→Bool
 | []=>true
 | (_,cs)::r=>match WK cs with
   | []=>Zc3 r
   | _=>false
section
variable {P:Program}{B:Nat}{g:G}{σ τ:St}{a:Act}{w:World}
theorem Zft{α:Type}{x:Option α}:XA x=true↔∃y,x=some y:=by cases x<;>simp[XA]
end
section
variable {P:Program}{B:Nat}{g:G}{σ τ:St}{a:Act}{w:World}
theorem Zna{x y:Code}{σ1 σ2:St}{e:Ex}(h1:Tri P x σ .normal σ1)(h2:Tri P y σ1 e σ2):Tri P (.seq x y) σ e σ2:=by
 intro B g a w hI
 refine wp_seq (wp_mono (h1 B g a w hI) fun ex a1 w1 hq=>?_)
 obtain ⟨he,g1,i1,f1⟩:=hq
 cases ex<;>first | exact he.elim | skip
 exact wp_mono (h2 B g1 a1 w1 i1) fun ex' a' w' ⟨h3,g',h4,h5⟩=>⟨h3,g',h4,f1.trans h5⟩
theorem Zmz{x y:Code}{σ1:St}{e:Ex}(he:e≠ .normal)(h1:Tri P x σ e σ1):Tri P (.seq x y) σ e σ1:=by
 intro B g a w hI
 refine wp_seq (wp_mono (h1 B g a w hI) fun ex a1 w1 hq=>?_)
 cases ex<;>first | exact hq | skip
 obtain ⟨h,_⟩:=hq
 cases e<;>first | exact absurd rfl he | exact h.elim
theorem ZdO{id:Nat}{c:Code}{σ1:St}{e:Ex}(h:Tri P c σ e σ1)(hn:∀i,e≠ .exit i):Tri P (.block id c) σ e σ1:=by
 intro B g a w hI
 refine wp_block (wp_mono (h B g a w hI) fun ex a1 w1 hq=>?_)
 cases ex<;>first | exact hq | skip
 obtain ⟨h,_⟩:=hq
 cases e<;>first | exact absurd rfl (hn _) | exact h.elim
theorem ZhI{id i:Nat}{c:Code}{σ1:St}(h:Tri P c σ (.exit i) σ1):Tri P (.block id c) σ (bif Nat.beq i id then .normal else .exit i) σ1:=by
 intro B g a w hI
 refine wp_block (wp_mono (h B g a w hI) fun ex a1 w1 hq=>?_)
 cases ex<;>first | exact hq.1.elim | skip
 rename_i j
 obtain ⟨h1,h2⟩:=hq
 have:i=j:=h1
 subst this
 show (if i=id then _ else _)
 by_cases e:i=id
 ·subst e
  rw[if_pos rfl]
  have:Nat.beq i i=true:=by simp
  rw[this]
  exact ⟨trivial,h2⟩
 ·rw[if_neg e,Zgm e]
  exact ⟨rfl,h2⟩
def Ja(P:Program)(n:Nat)(c:Code)(σ:St)(e:Ex)(σ':St):Prop:=
 ∀B g a w,Inv P B g σ a w→Code.rounds P c (fun ex a' w'=>ZhG e ex∧∃g',Inv P B g' σ' a' w'∧Fr B g σ w g' σ' w') n a w
theorem Zck{c:Code}{Q Q':Exit→Act→World→Prop}(hq:∀e a w,Q e a w→Q' e a w):∀n a w,Code.rounds P c Q n a w→Code.rounds P c Q' n a w
 | 0,_,_,h=>h
 | n+1,a,w,h=>wp_mono h fun e a w q=>by
   cases e<;>first | exact Zck hq n a w q | exact hq _ _ _ q
theorem Zgn{n:Nat}{c:Code}{σ1 σ2:St}{e:Ex}(h1:Tri P c σ .normal σ1)(h2:Ja P n c σ1 e σ2):Ja P (n+1) c σ e σ2:=by
 intro B g a w hI
 refine wp_mono (h1 B g a w hI) fun ex a1 w1 hq=>?_
 obtain ⟨he,g1,i1,f1⟩:=hq
 cases ex<;>first | exact he.elim | skip
 exact Zck (fun ex' a' w' ⟨h3,g',h4,h5⟩=>⟨h3,g',h4,f1.trans h5⟩) n a1 w1 (h2 B g1 a1 w1 i1)
theorem Zkf{n:Nat}{c:Code}{σ1:St}{e:Ex}(he:e≠ .normal)(h1:Tri P c σ e σ1):Ja P (n+1) c σ e σ1:=by
 intro B g a w hI
 refine wp_mono (h1 B g a w hI) fun ex a1 w1 hq=>?_
 cases ex<;>first | exact hq | skip
 obtain ⟨h,_⟩:=hq
 cases e<;>first | exact absurd rfl he | exact h.elim
theorem Zf8{n:Nat}{c:Code}{σ1:St}{e:Ex}(h:Ja P n c σ e σ1):Tri P (.loop c) σ e σ1:=fun B g a w hI=>wp_loop_rounds n (h B g a w hI)
def Zc4(P:Program)(c:Code)(Q:Exit→Act→World→Prop):Nat→Code→Act→World→Prop
 | 0,_,_,_=>False
 | n+1,x,a,w=>x.wp P (fun e a' w'=>match e with
    | .goto l=>(∃rest,findLabel c l=some rest∧Zc4 P c Q n rest a' w')∨(findLabel c l=none∧Q (.goto l) a' w')
    | e=>Q e a' w') a w
theorem Zgo{c:Code}{Q:Exit→Act→World→Prop}(n:Nat)(h:Zc4 P c Q n c a w):(Code.scope c).wp P Q a w:=by
 intro b k cs
 have key:∀n x a w,Zc4 P c Q n x a w→∃e a' w',Q e a' w'∧Arrives P (lone (b.at a (.code x:: .inScope c::k)) cs w) b k cs e a' w':=by
  intro n
  induction n with
  | zero=>intro x a w h;exact h.elim
  | succ n ih=>
    intro x a w h
    obtain ⟨e,a₁,w₁,hq,harr⟩:=h b (.inScope c::k) cs
    cases e with
    | normal=>exact ⟨.normal,a₁,w₁,hq,Steps.trans harr (.one step_inScope)⟩
    | exit id=>exact ⟨.exit id,a₁,w₁,hq,fun k' hk=>harr k' (by simp[exitTo,hk])⟩
    | goto l=>
      rcases hq with ⟨rest,hf,hr⟩ | ⟨hf,hq⟩
      ·have hg:gotoIn l (.inScope c::k)=some (.code rest:: .inScope c::k):=by simp[gotoIn,hf]
       obtain ⟨e₂,a₂,w₂,hq₂,harr₂⟩:=ih rest a₁ w₁ hr
       exact ⟨e₂,a₂,w₂,hq₂,.of_steps (harr _ hg) harr₂⟩
      ·exact ⟨.goto l,a₁,w₁,hq,fun k' hk=>harr k' (by simp[gotoIn,hf,hk])⟩
    | ret=>exact ⟨_,a₁,w₁,hq,harr⟩
    | panic ch=>exact ⟨_,a₁,w₁,hq,harr⟩
    | outgrown=>exact ⟨_,a₁,w₁,hq,harr⟩
 obtain ⟨e,a',w',hq,harr⟩:=key n c a w h
 exact ⟨e,a',w',hq,.of_steps (.one step_scope) harr⟩
def Xu(P:Program)(c:Code)(n:Nat)(x:Code)(σ:St)(e:Ex)(σ':St):Prop:=
 ∀B g a w,Inv P B g σ a w→Zc4 P c (fun ex a' w'=>ZhG e ex∧∃g',Inv P B g' σ' a' w'∧Fr B g σ w g' σ' w') n x a w
theorem Zae{c:Code}{Q Q':Exit→Act→World→Prop}(hq:∀e a w,Q e a w→Q' e a w):∀n x a w,Zc4 P c Q n x a w→Zc4 P c Q' n x a w
 | 0,_,_,_,h=>h
 | n+1,x,a,w,h=>wp_mono h fun e a w q=>by
   cases e<;>first | exact hq _ _ _ q | (rcases q with ⟨rest,h1,h2⟩ | ⟨h1,h2⟩;exact .inl ⟨rest,h1,Zae hq n rest a w h2⟩;exact .inr ⟨h1,hq _ _ _ h2⟩)
theorem ZbL{c x rest:Code}{n l:Nat}{σ1 σ2:St}{e:Ex}(h1:Tri P x σ (.goto l) σ1)(hf:findLabel c l=some rest)(h2:Xu P c n rest σ1 e σ2):Xu P c (n+1) x σ e σ2:=by
 intro B g a w hI
 refine wp_mono (h1 B g a w hI) fun ex a1 w1 hq=>?_
 obtain ⟨he,g1,i1,f1⟩:=hq
 cases ex<;>first | exact he.elim | skip
 have he:l=_:=he
 subst he
 exact .inl ⟨rest,hf,Zae (fun ex' a' w' ⟨h3,g',h4,h5⟩=>⟨h3,g',h4,f1.trans h5⟩) n rest a1 w1 (h2 B g1 a1 w1 i1)⟩
theorem ZpR{c x:Code}{n l:Nat}{σ1:St}(hf:findLabel c l=none)(h1:Tri P x σ (.goto l) σ1):Xu P c (n+1) x σ (.goto l) σ1:=by
 intro B g a w hI
 refine wp_mono (h1 B g a w hI) fun ex a1 w1 hq=>?_
 have hk:=hq
 obtain ⟨he,_⟩:=hq
 cases ex<;>first | exact he.elim | skip
 have he:l=_:=he
 subst he
 exact .inr ⟨hf,hk⟩
theorem Zkg{c x:Code}{n:Nat}{σ1:St}{e:Ex}(he:∀l,e≠ .goto l)(h1:Tri P x σ e σ1):Xu P c (n+1) x σ e σ1:=by
 intro B g a w hI
 refine wp_mono (h1 B g a w hI) fun ex a1 w1 hq=>?_
 cases ex<;>first | exact hq | skip
 obtain ⟨h,_⟩:=hq
 cases e<;>first | exact absurd rfl (he _) | exact h.elim
theorem Ziz{c:Code}{n:Nat}{σ1:St}{e:Ex}(h:Xu P c n c σ e σ1):Tri P (.scope c) σ e σ1:=fun B g a w hI=>Zgo n (h B g a w hI)
theorem Zkh{c:Operand}{x y:Code}{b:Bool}{e:Ex}{σ1:St}(hc:Zw σ c=some (.v (.bool b)))(h:Tri P (bif b then x else y) σ e σ1):Tri P (.cond c x y) σ e σ1:=by
 intro B g a w hI
 have hv:a.eval c= .bool b:=Z6 (Zt hI hc)
 refine wp_cond hv ?_
 have:=h B g a w hI
 cases b<;>exact this
end
def Zgp:Nat→List PV→List (Nat×AV)
 | _,[]=>[]
 | i,x::r=>(i,.p x)::Zgp (i+1) r
def Xk(n:Nat)(args:List PV):St:=⟨n,Zgp 0 args,[],[],[],[]⟩
def ZbM(Γ:List (Nat×Ty))(σ:St):List ResultVar→Option (List PV)
 | []=>some []
 | .tmp t::r=>match lk t σ.tmps,ZbM Γ σ r with
   | some (.p x),some l=>some (norm x::l)
   | _,_=>none
 | .cell t T::r=>match lk t σ.tmps,ZbM Γ σ r with
   | some (.ptr b off),some l=>match Zcx Γ σ.boxes T (.ptr b off) with
     | some x=>some (norm x::l)
     | none=>none
   | _,_=>none
def Zjo:List PV→PV
 | [x]=>x
 | l=> .tup l
def Zjp(tmps:Array Value):ResultVar→Sem Value
 | .tmp t=>pure (tmps.getD t undef)
 | .cell t T=>do loadVar T (←asAddr (tmps.getD t undef))
def Zgq:Ex→Bool
 | .normal=>true
 | .ret=>true
 | _=>false
section
variable {P:Program}{B:Nat}{g:G}{σ:St}{a:Act}{w:World}
theorem Zas:∀{args:List PV} {i t:Nat} {v:AV},lk t (Zgp i args)=some v→∃j x,t=i+j∧args[j]?=some x∧v= .p x
 | [],_,_,_,h=>by simp[Zgp,lk] at h
 | x::r,i,t,v,h=>by
   rw[Zgp,Zs] at h
   split at h
   ·rename_i e
    exact ⟨0,x,by omega,rfl,(Qa_ h).symm⟩
   ·obtain ⟨j,y,h1,h2,h3⟩:=Zas h
    exact ⟨j+1,y,by omega,by simpa using h2,h3⟩
theorem ZtM{vals:List Value}{n j:Nat}{v:Value}(h:vals[j]?=some v):((vals.toArray++Array.replicate n undef:Array Value)).getD j undef=v:=by
 have hj:=(Qo_.1 h).1
 rw[QA_,K6_ (by simpa using hj)]
 simp[h]
theorem ZrN{hw:Nat→Nat}{vals:List Value}{args:List PV}{n:Nat}(hl:∀k,w.heap.size≤k→hw k=0)(hgl:GlobOk hw w)(ha:ArgsRep hw w vals args)(hn:args.length≤n):
 Inv P w.heap.size ⟨fun _=>none,hw⟩ (Xk n args) {tmps:=vals.toArray++Array.replicate (n - vals.toArray.size) undef,defers:=[]} w:=by
 have hlen:=ha.len
 refine ⟨by simp[Xk];omega,rfl,fun t v ht=>?_,fun t b off ht=>?_,fun t f bs ht=>?_,fun b cs h=>absurd h (by simp[Xk,lk]),fun b b' cs cs' k base base' h=>absurd h (by simp[Xk,lk]),hl,Q2_ _,⟨hgl,fun _ _ hy=>hgl.lt hy⟩,
  fun l E h=>absurd h (by simp[Xk,lkL]),fun l E h=>absurd h (by simp[Xk,lkL]),fun l l' E E' v v' k h=>absurd h (by simp[Xk,lkL]),fun t l h=>absurd h (by simp[Xk]),fun t b c h=>absurd h (by simp[Xk]),fun t b off n s ht=>?_,fun b cs h=>absurd h (by simp[Xk,lk])⟩
 ·obtain ⟨j,x,h1,h2,rfl⟩:=Zas ht
  have hj:=(Qo_.1 h2).1
  refine ⟨by simp only[Xk];omega, ?_⟩
  have hv:=Qg_ (l:=vals) (i:=j) (by omega)
  rw[h1,QP_,ZtM hv]
  exact ha.rep j _ x hv h2
 ·obtain ⟨j,x,h1,h2,h3⟩:=Zas ht;cases h3
 ·obtain ⟨j,x,h1,h2,h3⟩:=Zas ht;cases h3
 ·obtain ⟨j,x,h1,h2,h3⟩:=Zas ht;cases h3
theorem Zcl{Γ:List (Nat×Ty)}(hΓ:ZW P Γ)(hI:Inv P B g σ a w):∀{l:List ResultVar} {r:List PV},ZbM Γ σ l=some r→
 ∃vs:List Value,(l.mapM (Zjp a.tmps)).run P w= .ok vs w∧ArgsRep g.hw w vs r
 | [],r,h=>by
   have:=Qa_ h
   subst this
   exact ⟨[],by simp,rfl,fun j x y hx=>by simp at hx⟩
 | .tmp t::l,r,h=>by
   unfold ZbM at h
   split at h
   ·rename_i x l' h1 h2
    have:=Qa_ h
    subst this
    obtain ⟨vs,e1,e2⟩:=Zcl hΓ hI h2
    have hr:=JJ ((hI.tmp t _ h1).2:Rep g.hw w _ x)
    refine ⟨a.tmps.getD t undef::vs,by rw[List.mapM_cons,show Zjp a.tmps (.tmp t)=pure (a.tmps.getD t undef) from rfl];simp only[Sem.run_bind,Sem.run_pure,Result.andThen_ok,e1],by simp[e2.len],fun j p q hp hq=>?_⟩
    cases j with
    | zero=>exact (by cases hp;cases hq;exact hr)
    | succ j=>exact e2.rep j p q (by simpa using hp) (by simpa using hq)
   ·cases h
 | .cell t T::l,r,h=>by
   unfold ZbM at h
   split at h
   ·rename_i b off l' h1 h2
    split at h
    ·rename_i x hx
     have:=Qa_ h
     subst this
     obtain ⟨vs,e1,e2⟩:=Zcl hΓ hI h2
     obtain ⟨v,e3,e4⟩:=Zgc hΓ hI hx (hI.tmp t _ h1).2
     have hr:=JJ e4
     obtain ⟨k,base,_,hp⟩:=(hI.tmp t _ h1).2
     rw[hp] at e3
     have e5:(loadVar T ⟨k,base+off,none⟩).run P w= .ok v w:=by simpa [Instr.loadAt,Instr.sureAddr] using e3
     refine ⟨v::vs,by rw[List.mapM_cons,show Zjp a.tmps (.cell t T)=(do loadVar T (←asAddr (a.tmps.getD t undef))) from rfl,hp];simp only[asAddr,pure_bind,Sem.run_bind,Sem.run_pure,Result.andThen_ok,e5,e1],by simp[e2.len],fun j p q hp hq=>?_⟩
     cases j with
     | zero=>exact (by cases hp;cases hq;exact hr)
     | succ j=>exact e2.rep j p q (by simpa using hp) (by simpa using hq)
    ·cases h
   ·cases h
theorem ZtN{Γ:List (Nat×Ty)}(hΓ:ZW P Γ)(hI:Inv P B g σ a w){fn:Func}{r:List PV}(h:ZbM Γ σ fn.results.toList=some r):
 ∃v,(results fn a.tmps).run P w= .ok v w∧Rep g.hw w v (Zjo r):=by
 obtain ⟨vs,e1,e2⟩:=Zcl hΓ hI h
 refine ⟨if h:vs.toArray.size=1 then vs.toArray[0] else .tuple vs.toArray, ?_, ?_⟩
 ·have e:results fn a.tmps=(fn.results.mapM (Zjp a.tmps) >>=fun vs=>pure (if h:vs.size=1 then vs[0] else .tuple vs)):=by
   unfold results
   rfl
  rw[e,Array.mapM_eq_mapM_toList]
  simp only[map_eq_pure_bind,bind_assoc,pure_bind,Sem.run_bind,e1,Result.andThen_ok,Sem.run_pure]
 ·cases vs with
  | nil=>
    have:=e2.len
    have:r=[]:=QM_ (by simpa using this.symm)
    subst this
    exact .tup [] [] rfl (fun j x y hx=>by simp at hx)
  | cons v vs=>
    cases vs with
    | nil=>
      obtain ⟨x,rfl⟩:∃x,r=[x]:=by
       have:=e2.len
       cases r with
       | nil=>simp at this
       | cons x r=>cases r with
         | nil=>exact ⟨x,rfl⟩
         | cons y r=>simp at this
      exact e2.rep 0 v x rfl rfl
    | cons v' vs=>
      obtain ⟨x,y,r',rfl⟩:∃x y r',r=x::y::r':=by
       have:=e2.len
       cases r with
       | nil=>simp at this
       | cons x r=>cases r with
         | nil=>simp at this
         | cons y r=>exact ⟨x,y,r,rfl⟩
      rw[dif_neg (by simp)]
      exact .tup _ _ e2.len e2.rep
theorem ZpS{Γ:List (Nat×Ty)}(hΓ:ZW P Γ){f:FuncId}{fn:Func}{c:Code}(hcall:∀args w,(callFunc f args).run P w= .ok (.enter f args) w)(hf:P.funcs[f]?=some fn)(hb:fn.body=some c)
 {args:List PV} (hn:Nat.ble args.length fn.ntmps=true) {e:Ex} {σ':St} (ht:Tri P c (Xk fn.ntmps args) e σ') (he:Zgq e=true) {r:List PV} (hr:ZbM Γ σ' fn.results.toList=some r):Con P f args (Zjo r):=by
 intro hw w vals hl hgl ha
 refine .inr ⟨f,hcall _ _,calls_of_wp hf hb (wp_mono (ht _ _ _ w (ZrN hl hgl ha (Qm_ hn))) fun ex a' w' ⟨hx,g',hI,hF⟩=>?_)⟩
 have key:a'.defers=[]∧∃v,(results fn a'.tmps).run P w'= .ok v w'∧∃v0,Ending.returned v= .returned v0∧∃hw',Qt hw w hw' w'∧Rep hw' w' v0 (Zjo r):=by
  obtain ⟨v,h1,h2⟩:=ZtN hΓ hI hr
  have nl:∀k,¬Zac ⟨fun _=>none,hw⟩ (Xk fn.ntmps args) k:=fun k ⟨b,cs,base,_,h,_⟩=>by simp[Xk,lk] at h
  exact ⟨hI.defers,v,h1,v,rfl,g'.hw,⟨⟨hF.os,hF.tape,hF.output,hF.size,fun k hk=>hF.block k hk (nl k)⟩,fun k hk=>hF.hw k hk (nl k),hI.hwlt⟩,h2⟩
 cases ex<;>first | exact key | (cases e<;>first | exact hx.elim | exact absurd he (by simp[Zgq]))
end
structure En where
 i:Nat
 tm:Option (Nat×AV)
 bx:Option (Nat×List PV)
 ln:Option (Nat×Loc)
def deps(o:Oper):List Nat:=(o.after.toList.filter (Region.binds .any)).map (·.on)
def bit(m i:Nat):Bool:=Nat.testBit m i
def ZN:List Nat→Nat→Nat
 | [],_=>0
 | x::_,0=>x
 | _::r,n+1=>ZN r n
def ZhJ(acc:List Nat):List Nat→Nat
 | []=>0
 | i::r=>Nat.lor (Nat.lor (Nat.shiftLeft 1 i) (ZN acc i)) (ZhJ acc r)
def Zaf:List Oper→List Nat→List Nat
 | [],acc=>acc
 | o::r,acc=>Zaf r (acc++[ZhJ acc (deps o)])
def ZeM(cl:Nat)(t:Nat)(β:List (Nat×AV)):List En→Option AV
 | []=>lk t β
 | e::r=>match e.tm with
   | some (t',v)=>bif Nat.beq t t'&&bit cl e.i then some v else ZeM cl t β r
   | none=>ZeM cl t β r
def ZeN(cl:Nat)(b:Nat)(β:List (Nat×List PV)):List En→Option (List PV)
 | []=>lk b β
 | e::r=>match e.bx with
   | some (b',v)=>bif Nat.beq b b'&&bit cl e.i then some v else ZeN cl b β r
   | none=>ZeN cl b β r
def ZeO(cl:Nat)(t:Nat)(β:List (Nat×Loc)):List En→Option Loc
 | []=>lk t β
 | e::r=>match e.ln with
   | some (t',v)=>bif Nat.beq t t'&&bit cl e.i then some v else ZeO cl t β r
   | none=>ZeO cl t β r
def XB:AV→List Nat
 | .p _=>[]
 | .ptr b _=>[b]
 | .fnp _ bs=>bs
 | .sl b _ _ _=>[b]
def Ztj(ws:List (Nat×Nat))(cls:List Nat)(j cl b:Nat):Bool:=
 ws.all fun (s,b')=> !(Nat.beq b b')||bit cl s||bit (ZN cls s) j||Nat.beq s j
def WX(ws:List (Nat×Nat))(cls:List Nat)(A:List En)(β:St)(j cl b:Nat):Option (List PV):=
 bif Ztj ws cls j cl b then ZeN cl b β.boxes A else none
def ZaI(ws:List (Nat×Nat))(cls:List Nat)(A:List En)(β:St)(j cl:Nat):List Nat→List (Nat×AV)
 | []=>[]
 | t::r=>match ZeM cl t β.tmps A with
   | some v=>bif (XB v).all (fun b=>XA (WX ws cls A β j cl b)) then (t,v)::ZaI ws cls A β j cl r else ZaI ws cls A β j cl r
   | none=>ZaI ws cls A β j cl r
def Jv(ws:List (Nat×Nat))(cls:List Nat)(A:List En)(β:St)(j cl:Nat):List Nat→List (Nat×List PV)→List (Nat×List PV)
 | [],r=>r
 | b::bs,r=>match WX ws cls A β j cl b with
   | some cs=>(b,cs)::Jv ws cls A β j cl bs r
   | none=>Jv ws cls A β j cl bs r
def ZdP(ws:List (Nat×Nat))(cls:List Nat)(A:List En)(β:St)(j cl:Nat):List (Nat×AV)→List (Nat×List PV)
 | []=>[]
 | (_,v)::r=>Jv ws cls A β j cl (XB v) (ZdP ws cls A β j cl r)
def ZcP(cl:Nat)(A:List En)(β:St)(bx:List (Nat×List PV)):List Nat→List (Nat×Loc)
 | []=>[]
 | t::r=>match ZeO cl t β.al A with
   | some l=>bif (match l with | .t _=>true | .b b _=>XA (lk b bx)) then (t,l)::ZcP cl A β bx r else ZcP cl A β bx r
   | none=>ZcP cl A β bx r
def Zgr:List (Nat×List PV)→List Nat
 | []=>[]
 | (_,cs)::r=>WK cs++Zgr r
def ZeP(bx:List (Nat×List PV)):List Nat→Bool
 | []=>true
 | b::r=>match lk b bx with
   | some cs=>match WK cs with
     | []=>ZeP bx r
     | _=>false
   | none=>false
def ZrO(β:St)(tm:List (Nat×AV))(bx0 bx:List (Nat×List PV))(al0 al:List (Nat×Loc)):St:=
 match Zgr bx0 with
 | []=>⟨β.n,tm,bx0,β.ro,[],al0⟩
 | rs=>bif ZeP bx rs then ⟨β.n,tm,bx,β.ro,[],al⟩ else ⟨β.n,[],[],β.ro,[],[]⟩
def tau(ws:List (Nat×Nat))(cls:List Nat)(A:List En)(β:St)(j cl:Nat)(looks:List Nat):St:=
 let tm:=ZaI ws cls A β j cl looks
 let bx0:=ZdP ws cls A β j cl tm
 let bx:=Jv ws cls A β j cl (Zgr bx0) bx0
 ZrO β tm bx0 bx (ZcP cl A β bx0 looks) (ZcP cl A β bx looks)
section
variable {P:Program}{B:Nat}{g:G}{σ β ρ:St}{a:Act}{w:World}
structure RI(β:St)(A:List En)(S:Nat→Prop)(ρ:St):Prop where
 n:β.n=ρ.n
 ro:β.ro=ρ.ro
 tm:∀e∈A,S e.i→∀t v,e.tm=some (t,v)→lk t ρ.tmps=some v
 tm0:∀t v,lk t β.tmps=some v→lk t ρ.tmps=some v
 bx:∀e∈A,S e.i→∀b cs,e.bx=some (b,cs)→(∀e'∈A,∀cs',e'.bx=some (b,cs')→S e'.i→e'.i≤e.i)→lk b ρ.boxes=some cs
 bx0:∀b,(∀e∈A,∀cs,e.bx=some (b,cs)→¬S e.i)→lk b ρ.boxes=lk b β.boxes
 ln:∀e∈A,S e.i→∀t l,e.ln=some (t,l)→(t,l)∈ρ.al
 al0:∀t l,(t,l)∈β.al→(t,l)∈ρ.al
 own0:∀l E,lkL l β.own=some E→lkL l ρ.own=some E
theorem ZdQ{cl t:Nat}{bt:List (Nat×AV)}:∀{A:List En} {v:AV},ZeM cl t bt A=some v→(∃e∈A,bit cl e.i=true∧e.tm=some (t,v))∨lk t bt=some v
 | [],v,h=> .inr h
 | e::r,v,h=>by
   unfold ZeM at h
   split at h
   ·rename_i t' v' he
    cases hb:(Nat.beq t t'&&bit cl e.i) with
    | true=>
      rw[hb] at h
      rw[Qh_] at hb
      have e1:=Qj_ hb.1
      have:=Qa_ h
      subst this;subst e1
      exact .inl ⟨e,by simp,hb.2,he⟩
    | false=>
      rw[hb] at h
      rcases ZdQ h with ⟨e',h1,h2⟩ | h1
      ·exact .inl ⟨e',Qq_ _ h1,h2⟩
      ·exact .inr h1
   ·rcases ZdQ h with ⟨e',h1,h2⟩ | h1
    ·exact .inl ⟨e',Qq_ _ h1,h2⟩
    ·exact .inr h1
theorem ZdR{cl t:Nat}{bt:List (Nat×Loc)}:∀{A:List En} {v:Loc},ZeO cl t bt A=some v→(∃e∈A,bit cl e.i=true∧e.ln=some (t,v))∨lk t bt=some v
 | [],v,h=> .inr h
 | e::r,v,h=>by
   unfold ZeO at h
   split at h
   ·rename_i t' v' he
    cases hb:(Nat.beq t t'&&bit cl e.i) with
    | true=>
      rw[hb] at h
      rw[Qh_] at hb
      have e1:=Qj_ hb.1
      have:=Qa_ h
      subst this;subst e1
      exact .inl ⟨e,by simp,hb.2,he⟩
    | false=>
      rw[hb] at h
      rcases ZdR h with ⟨e',h1,h2⟩ | h1
      ·exact .inl ⟨e',Qq_ _ h1,h2⟩
      ·exact .inr h1
   ·rcases ZdR h with ⟨e',h1,h2⟩ | h1
    ·exact .inl ⟨e',Qq_ _ h1,h2⟩
    ·exact .inr h1
def Desc:List En→Prop
 | []=>True
 | e::r=>(∀e'∈r,e'.i < e.i)∧Desc r
theorem Zi0{cl b:Nat}{bt:List (Nat×List PV)}:∀{A:List En} {v:List PV},Desc A→ZeN cl b bt A=some v→
 (∃e∈A,bit cl e.i=true∧e.bx=some (b,v)∧∀e'∈A,∀cs,e'.bx=some (b,cs)→bit cl e'.i=true→e'.i≤e.i)∨(lk b bt=some v∧∀e∈A,∀cs,e.bx=some (b,cs)→bit cl e.i=false)
 | [],v,_,h=> .inr ⟨h,fun e he=>by simp at he⟩
 | e::r,v,hd,h=>by
   unfold ZeN at h
   have go:ZeN cl b bt r=some v→(∀cs,e.bx=some (b,cs)→bit cl e.i=false)→
    (∃e0∈e::r,bit cl e0.i=true∧e0.bx=some (b,v)∧∀e'∈e::r,∀cs,e'.bx=some (b,cs)→bit cl e'.i=true→e'.i≤e0.i)∨(lk b bt=some v∧∀e0∈e::r,∀cs,e0.bx=some (b,cs)→bit cl e0.i=false):=by
    intro h hn
    rcases Zi0 hd.2 h with ⟨e',h1,h2,h3,h4⟩ | ⟨h1,h2⟩
    ·refine .inl ⟨e',Qq_ _ h1,h2,h3,fun e'' he'' cs hcs hbit=>?_⟩
     rcases Q9_.1 he'' with rfl | he''
     ·rw[hn cs hcs] at hbit;cases hbit
     ·exact h4 e'' he'' cs hcs hbit
    ·refine .inr ⟨h1,fun e'' he'' cs hcs=>?_⟩
     rcases Q9_.1 he'' with rfl | he''
     ·exact hn cs hcs
     ·exact h2 e'' he'' cs hcs
   split at h
   ·rename_i b' v' he
    cases hb:(Nat.beq b b'&&bit cl e.i) with
    | true=>
      rw[hb] at h
      rw[Qh_] at hb
      have e1:=Qj_ hb.1
      have:=Qa_ h
      subst this;subst e1
      refine .inl ⟨e,by simp,hb.2,he,fun e' he' cs _ _=>?_⟩
      rcases Q9_.1 he' with rfl | he'
      ·exact Q2_ _
      ·exact Nat.le_of_lt (hd.1 e' he')
    | false=>
      rw[hb] at h
      refine go h (fun cs hcs=>?_)
      rw[he] at hcs
      have:=Qa_ hcs
      cases this
      cases hq:bit cl e.i with
      | false=>rfl
      | true=>rw[hq] at hb;simp at hb
   ·rename_i he
    exact go h (fun cs hcs=>by rw[he] at hcs;cases hcs)
theorem ZcQ{ws:List (Nat×Nat)}{cls:List Nat}{A:List En}{β:St}{j cl:Nat}:∀{looks:List Nat} {t:Nat} {v:AV},lk t (ZaI ws cls A β j cl looks)=some v→
 ZeM cl t β.tmps A=some v∧∀b∈XB v,∃cs,WX ws cls A β j cl b=some cs
 | [],t,v,h=>by simp[ZaI,lk] at h
 | t0::r,t,v,h=>by
   unfold ZaI at h
   split at h
   ·rename_i v0 h0
    cases hb:(XB v0).all (fun b=>XA (WX ws cls A β j cl b)) with
    | false=>rw[hb] at h;exact ZcQ h
    | true=>
      rw[hb] at h
      simp only[Qb_,Zs] at h
      split at h
      ·rename_i e
       have:=Qa_ h
       subst this;subst e
       exact ⟨h0,fun b hbm=>Zft.1 (QK_.1 hb b hbm)⟩
      ·exact ZcQ h
   ·exact ZcQ h
theorem ZbN{ws:List (Nat×Nat)}{cls:List Nat}{A:List En}{β:St}{j cl:Nat}{r:List (Nat×List PV)}(hr:∀b cs,lk b r=some cs→WX ws cls A β j cl b=some cs):∀{bs:List Nat} {b:Nat} {cs:List PV},lk b (Jv ws cls A β j cl bs r)=some cs→WX ws cls A β j cl b=some cs
 | [],b,cs,h=>hr b cs h
 | b0::bs,b,cs,h=>by
   unfold Jv at h
   split at h
   ·rename_i cs0 h0
    rw[Zs] at h
    split at h
    ·rename_i e
     have:=Qa_ h
     subst this;subst e
     exact h0
    ·exact ZbN hr h
   ·exact ZbN hr h
theorem Zat{ws:List (Nat×Nat)}{cls:List Nat}{A:List En}{β:St}{j cl:Nat}{r:List (Nat×List PV)}:∀{bs:List Nat} {b:Nat},((b∈bs∧∃cs,WX ws cls A β j cl b=some cs)∨∃cs,lk b r=some cs)→∃cs,lk b (Jv ws cls A β j cl bs r)=some cs
 | [],b,h=>by
   rcases h with ⟨h,_⟩ | h
   ·simp at h
   ·exact h
 | b0::bs,b,h=>by
   unfold Jv
   split
   ·rename_i cs0 h0
    by_cases e:b=b0
    ·exact ⟨cs0,by rw[Zs,if_pos e]⟩
    ·obtain ⟨cs,h1⟩:=Zat (bs:=bs) (b:=b) (r:=r) (ws:=ws) (cls:=cls) (A:=A) (β:=β) (j:=j) (cl:=cl) (by
      rcases h with ⟨h,h'⟩ | h
      ·rcases Q9_.1 h with h | h
       ·exact absurd h e
       ·exact .inl ⟨h,h'⟩
      ·exact .inr h)
     exact ⟨cs,by rw[Zs,if_neg e];exact h1⟩
   ·rename_i h0
    refine Zat ?_
    rcases h with ⟨h,h'⟩ | h
    ·rcases Q9_.1 h with h | h
     ·subst h;rw[h0] at h';exact absurd h' (by simp)
     ·exact .inl ⟨h,h'⟩
    ·exact .inr h
theorem Zf9{ws:List (Nat×Nat)}{cls:List Nat}{A:List En}{β:St}{j cl:Nat}:∀{l:List (Nat×AV)} {b:Nat} {cs:List PV},lk b (ZdP ws cls A β j cl l)=some cs→WX ws cls A β j cl b=some cs
 | [],b,cs,h=>by simp[ZdP,lk] at h
 | (t,v)::r,b,cs,h=>ZbN (fun b cs h=>Zf9 h) h
theorem Zki{ws:List (Nat×Nat)}{cls:List Nat}{A:List En}{β:St}{j cl:Nat}:∀{l:List (Nat×AV)} {t b:Nat} {v:AV},lk t l=some v→b∈XB v→(∃cs,WX ws cls A β j cl b=some cs)→∃cs,lk b (ZdP ws cls A β j cl l)=some cs
 | [],t,b,v,h,_,_=>by simp[lk] at h
 | (t0,v0)::r,t,b,v,h,hb,hx=>by
   rw[Zs] at h
   split at h
   ·have:=Qa_ h
    subst this
    exact Zat (.inl ⟨hb,hx⟩)
   ·exact Zat (.inr (Zki h hb hx))
theorem Zbj{cl:Nat}{A:List En}{β:St}{bx:List (Nat×List PV)}:∀{looks:List Nat} {t:Nat} {l:Loc},(t,l)∈ZcP cl A β bx looks→ZeO cl t β.al A=some l∧(∀b c,l= .b b c→∃cs,lk b bx=some cs)
 | [],t,l,h=>by simp[ZcP] at h
 | t0::r,t,l,h=>by
   unfold ZcP at h
   split at h
   ·rename_i l0 h0
    cases hb:(match l0 with | .t _=>true | .b b _=>XA (lk b bx)) with
    | false=>rw[hb] at h;exact Zbj h
    | true=>
      rw[hb] at h
      simp only[Qb_] at h
      rcases Q9_.1 h with h | h
      ·cases h
       refine ⟨h0,fun b c e=>?_⟩
       subst e
       exact Zft.1 hb
      ·exact Zbj h
   ·exact Zbj h
theorem ZdS:∀{l:List (Nat×List PV)} {b:Nat} {cs:List PV},lk b l=some cs→∀{y:PV},y∈cs→∀{b':Nat},YZ y=some b'→b'∈Zgr l
 | [],b,cs,h,_,_,_,_=>by simp[lk] at h
 | (b1,c1)::r,b,cs,h,y,hy,b',hb'=>by
   rw[Zs] at h
   split at h
   ·have:=Qa_ h
    subst this
    exact Kf_ _ (Jr hy hb')
   ·exact Kp_ _ (ZdS h hy hb')
theorem ZdT{bx:List (Nat×List PV)}:∀{l:List Nat},ZeP bx l=true→∀b∈l,(∃cs,lk b bx=some cs)∧∀cs,lk b bx=some cs→WK cs=[]
 | [],_,b,hb=>by simp at hb
 | b1::r,h,b,hb=>by
   unfold ZeP at h
   split at h
   ·rename_i cs hcs
    split at h
    ·rename_i hn
     rcases Q9_.1 hb with e | hb
     ·subst e
      exact ⟨⟨cs,hcs⟩,fun cs' h'=>by rw[hcs] at h';rw[←Qa_ h',hn]⟩
     ·exact ZdT h b hb
    ·cases h
   ·cases h
theorem ZdU{ws:List (Nat×Nat)}{cls:List Nat}{A:List En}{β:St}{j cl:Nat}{r:List (Nat×List PV)}:∀{bs:List Nat} {b:Nat} {cs:List PV},b∉bs→lk b (Jv ws cls A β j cl bs r)=some cs→lk b r=some cs
 | [],_,_,_,h=>h
 | b1::bs,b,cs,hm,h=>by
   unfold Jv at h
   have h1:b≠b1:=fun e=>hm (by rw[e];exact Qv_ ..)
   have h2:b∉bs:=fun e=>hm (Qq_ _ e)
   split at h
   ·rw[Zs,if_neg h1] at h
    exact ZdU h2 h
   ·exact ZdU h2 h
theorem Zu6(ws:List (Nat×Nat))(cls:List Nat)(A:List En)(β:St)(j cl:Nat)(looks:List Nat):(tau ws cls A β j cl looks).ro=β.ro:=by
 unfold tau ZrO
 simp only
 split
 ·rfl
 ·cases ZeP _ _<;>rfl
theorem ZtO{ws:List (Nat×Nat)}{cls:List Nat}{A A':List En}{S:Nat→Prop}{j:Nat}(hR:RI β A' S ρ)(hA:∀e∈A,e∈A')(hd:Desc A)(hcl:∀i,bit (ZN cls j) i=true→S i)(hj:¬S j)(hcls:∀s,S s→∀i,bit (ZN cls s) i=true→S i)
 (hw:∀e∈A',∀b cs,e.bx=some (b,cs)→(e.i,b)∈ws) (hA2:∀e∈A',bit (ZN cls j) e.i=true→e∈A) (looks:List Nat):Sub (tau ws cls A β j (ZN cls j) looks) ρ:=by
 have bxs:∀b cs,WX ws cls A β j (ZN cls j) b=some cs→lk b ρ.boxes=some cs:=by
  intro b cs h
  unfold WX at h
  cases hok:Ztj ws cls j (ZN cls j) b with
  | false=>rw[hok] at h;cases h
  | true=>
    rw[hok] at h
    simp only[Qb_] at h
    have hbit:∀e∈A',∀cs',e.bx=some (b,cs')→S e.i→bit (ZN cls j) e.i=true:=by
     intro e he cs' hcs hS
     have:=QK_.1 hok _ (hw e he b cs' hcs)
     simp only[Kn_,Qi_] at this
     rcases this with ((h1 | h1) | h1) | h1
     ·simp at h1
     ·exact h1
     ·exact absurd (hcls e.i hS j h1) hj
     ·have:=Qj_ h1
      rw[this] at hS
      exact absurd hS hj
    rcases Zi0 hd h with ⟨e,h1,h2,h3,h4⟩ | ⟨h1,h2⟩
    ·exact hR.bx e (hA e h1) (hcl _ h2) b cs h3 (fun e' he' cs' hcs' hS=>h4 e' (hA2 e' he' (hbit e' he' cs' hcs' hS)) cs' hcs' (hbit e' he' cs' hcs' hS))
    ·rw[hR.bx0 b (fun e he cs' hcs' hS=>?_)]
     ·exact h1
     ·have hb:=hbit e he cs' hcs' hS
      have:=h2 e (hA2 e he hb) cs' hcs'
      rw[hb] at this
      cases this
 have key:∀bx:List (Nat×List PV),(∀b cs,lk b bx=some cs→WX ws cls A β j (ZN cls j) b=some cs)→(∀b cs,lk b (ZdP ws cls A β j (ZN cls j) (ZaI ws cls A β j (ZN cls j) looks))=some cs→∃cs',lk b bx=some cs')→
  (∀b cs,lk b bx=some cs→∀y∈cs,∀b',YZ y=some b'→∃cs',lk b' bx=some cs')→Sub ⟨β.n,ZaI ws cls A β j (ZN cls j) looks,bx,β.ro,[],ZcP (ZN cls j) A β bx looks⟩ ρ:=by
  intro bx h1 h2 h3
  have tms:∀t v,lk t (ZaI ws cls A β j (ZN cls j) looks)=some v→lk t ρ.tmps=some v∧∀b∈XB v,∃cs,lk b bx=some cs:=by
   intro t v h
   obtain ⟨q1,q2⟩:=ZcQ h
   refine ⟨?_,fun b hb=>by obtain ⟨cs,hcs⟩:=Zki h hb (q2 b hb);exact h2 b cs hcs⟩
   rcases ZdQ q1 with ⟨e,e1,e2,e3⟩ | e1
   ·exact hR.tm e (hA e e1) (hcl _ e2) t v e3
   ·exact hR.tm0 t v e1
  refine ⟨hR.n,fun t v h=>(tms t v h).1,fun b cs h=>bxs b cs (h1 b cs h),fun b hb=>by rw[←hR.ro] at hb;exact hb,fun t b off h=>(tms t _ h).2 b (by simp[XB]),fun t f bs h b hb=>(tms t _ h).2 b hb,fun l E h=>absurd h (by simp[lkL]),
   fun b c E h=>absurd h (by simp[lkL]),fun t l h=>?_,fun t b c h=>(Zbj h).2 b c rfl,fun t b off n s h=>(tms t _ h).2 b (by simp[XB]),h3⟩
  rcases ZdR (Zbj h).1 with ⟨e,e1,e2,e3⟩ | e1
  ·exact hR.ln e (hA e e1) (hcl _ e2) t l e3
  ·exact hR.al0 t l (Zao e1)
 unfold tau ZrO
 simp only
 cases hrs:Zgr (ZdP ws cls A β j (ZN cls j) (ZaI ws cls A β j (ZN cls j) looks)) with
 | nil=>
   have hn:=hrs
   simp only
   refine key _ (fun b cs h=>Zf9 h) (fun b cs h=>⟨cs,h⟩) (fun b cs h y hy b' hb'=>?_)
   have:=ZdS h hy hb'
   rw[hn] at this
   cases this
 | cons r1 rs1=>
   simp only
   generalize hgrs:r1::rs1=rs at *
   cases hf:ZeP (Jv ws cls A β j (ZN cls j) rs (ZdP ws cls A β j (ZN cls j) (ZaI ws cls A β j (ZN cls j) looks))) rs with
   | false=>
     exact ⟨hR.n,fun t v h=>absurd h (by simp[lk]),fun b cs h=>absurd h (by simp[lk]),fun b hb=>by rw[←hR.ro] at hb;exact hb,fun t b off h=>absurd h (by simp[lk]),fun t f bs h=>absurd h (by simp[lk]),fun l E h=>absurd h (by simp[lkL]),
      fun b c E h=>absurd h (by simp[lkL]),fun t l h=>absurd h (by simp),fun t b c h=>absurd h (by simp),fun t b off n s h=>absurd h (by simp[lk]),fun b cs h=>absurd h (by simp[lk])⟩
   | true=>
     refine key _ (fun b cs h=>ZbN (fun b cs h=>Zf9 h) h) (fun b cs h=>Zat (.inr ⟨cs,h⟩)) (fun b cs h y hy b' hb'=>?_)
     by_cases hm:b∈rs
     ·have:=(ZdT hf b hm).2 cs h
      have h5:=Jr hy hb'
      rw[this] at h5
      cases h5
     ·have h0:=ZdU hm h
      have:=ZdS h0 hy hb'
      rw[hrs] at this
      exact (ZdT hf b' this).1
end
def WG(i b:Nat):List (Nat×Nat)→Bool
 | []=>false
 | (x,y)::r=>(Nat.beq i x&&Nat.beq b y)||WG i b r
def Zkj(b:Nat):List (Nat×Nat)→Bool
 | []=>false
 | (_,y)::r=>Nat.beq b y||Zkj b r
def Y4(D:List Nat)(ws:List (Nat×Nat)):Loc→Bool
 | .t t=> !(has t D)
 | .b b _=> !(Zkj b ws)
def Jw(D Src:List Nat)(ws:List (Nat×Nat))(σ:St):St:=
 {σ with tmps:=σ.tmps.filter fun (t,_)=> !(has t D),
         own:=σ.own.filter fun (l,_)=>Y4 D ws l&&Y4 Src [] l,
         al:=σ.al.filter fun (t,l)=> !(has t D)&&Y4 D ws l}
def Zbc(ops:List Oper)(o:Oper):List Nat:=
 (o.op.operands.toList.filterMap fun | .tmp t=>some t | _=>none)++
 (match o.guard with
  | some (g,_)=>match ops[g]? with
    | some og=>match og.dst with
      | some d=>[d]
      | none=>[]
    | none=>[]
  | none=>[])
def WH(D:List Nat)(ws:List (Nat×Nat))(d:Nat):Option Loc→Option (Nat×Loc)
 | some l=>bif Y4 D ws l then some (d,l) else none
 | none=>none
def Zgs(Src:List Nat):Operand→Bool
 | .tmp t=>has t Src
 | _=>true
def skE(n:Nat):Option Nat→Option (Nat×AV)
 | some d=>bif Nat.blt d n then some (d,.p (.tup [])) else none
 | none=>none
def Zau(Γ:List (Nat×Ty))(R:Nat→St→Oper→Option Res)(ops:List Oper)(cls:List Nat)(ws:List (Nat×Nat))(D Src:List Nat)(β:St)(A:List En)(j:Nat)(o:Oper):Option En:=
 let τ:=tau ws cls A β j (ZN cls j) (Zbc ops o)
 match JM τ ops o with
 | none=>none
 | some false=>some ⟨j,skE τ.n o.dst,none,none⟩
 | some true=>match o.op,o.dst with
   | .store T p x,none=>match X9 Γ τ T p x with
     | some σ'=>match σ'.boxes with
       | (b,cs)::_=>bif WG j b ws&&Zgs Src x then some ⟨j,none,some (b,cs),none⟩ else none
       | []=>none
     | none=>none
   | _,some d=>match R j τ o with
     | some r=>match r.box with
       | none=>some ⟨j,some (d,r.av),none,WH D ws d r.link⟩
       | some cs=>bif WG j d ws&&ZT (lk d β.boxes)&&ws.all (fun (s,b)=> !(Nat.beq b d)||Nat.ble j s) then some ⟨j,some (d,r.av),some (d,cs),WH D ws d r.link⟩ else none
     | none=>none
   | _,none=>match R j τ o with
     | some r=>bif ZT r.box then some ⟨j,none,none,none⟩ else none
     | none=>none
def frees(Γ:List (Nat×Ty))(R:Nat→St→Oper→Option Res)(ops:List Oper)(cls:List Nat)(ws:List (Nat×Nat))(D Src:List Nat)(β:St):List Oper→Nat→List En→Option (List En)
 | [],_,A=>some A
 | o::r,j,A=>match Zau Γ R ops cls ws D Src β A j o with
   | some e=>frees Γ R ops cls ws D Src β r (j+1) (e::A)
   | none=>none
def XC(P:Program)(τ:St)(o:Oper)(r:Res):Prop:=
 ∀B g a w,Inv P B g τ a w→Good P g τ a w o r∧∀d,o.dst=some d→d < τ.n∧∀l,r.link=some l→l≠ .t d∧∀b c,l= .b b c→∃cs,lk b τ.boxes=some cs
section
variable {P:Program}{B:Nat}{g:G}{σ β ρ τ:St}{a:Act}{w:World}
theorem JO{i b:Nat}:∀{ws:List (Nat×Nat)},WG i b ws=true↔(i,b)∈ws
 | []=>by simp[WG]
 | (x,y)::r=>by
   unfold WG
   rw[Kn_,JO,Qh_,Q9_]
   constructor
   ·rintro (⟨h1,h2⟩ | h)
    ·exact .inl (by rw[Qj_ h1,Qj_ h2])
    ·exact .inr h
   ·rintro (h | h)
    ·cases h;exact .inl ⟨by simp,by simp⟩
    ·exact .inr h
theorem Zkk{b:Nat}:∀{ws:List (Nat×Nat)},Zkj b ws=true↔∃i,(i,b)∈ws
 | []=>by simp[Zkj]
 | (x,y)::r=>by
   unfold Zkj
   rw[Kn_,Zkk]
   constructor
   ·rintro (h | ⟨i,h⟩)
    ·exact ⟨x,by rw[Qj_ h];simp⟩
    ·exact ⟨i,Qq_ _ h⟩
   ·rintro ⟨i,h⟩
    rcases Q9_.1 h with h | h
    ·cases h;exact .inl (by simp)
    ·exact .inr ⟨i,h⟩
theorem Znb(h:Sub τ ρ){x:Operand}{av:AV}(hx:opd τ x=some av):opd ρ x=some av:=by
 cases x with
 | tmp t=>exact h.tmps t av hx
 | const v=>exact hx
 | global _=>exact hx
 | func _=>exact hx
theorem ZrP(h:Sub τ ρ){x:Operand}{v:PV}(hx:Zw τ x=some v):Zw ρ x=some v:=by
 have:=Znb h (ZjS hx)
 unfold Zw
 rw[this]
theorem ZrQ(hs:Sub τ ρ){o:Oper}{r:Res}(h:Good P g τ a w o r)(hb:∀cs,r.box=some cs→∀d,o.dst=some d→lk d ρ.boxes=none):Good P g ρ a w o r:=
 h.mono fun v w' ⟨g',hp⟩=>⟨g',hp.qt,hp.rep,hp.noBox,fun cs hcs=>by
   obtain ⟨d,k,h1,_,h3⟩:=hp.box cs hcs
   exact ⟨d,k,h1,hb cs hcs d h1,h3⟩,hp.link,fun hn=>by
   obtain ⟨h1,h2,h2'⟩:=hp.ptr hn
   exact ⟨fun b off e=>by obtain ⟨cs,h⟩:=h1 b off e;exact ⟨cs,hs.boxes b cs h⟩,fun f bs e b hb=>by obtain ⟨cs,h⟩:=h2 f bs e b hb;exact ⟨cs,hs.boxes b cs h⟩,fun b off n s e=>by obtain ⟨cs,h⟩:=h2' b off n s e;exact ⟨cs,hs.boxes b cs h⟩⟩⟩
def Zjq(σ:St)(x:Operand)(b off:Nat)(cells cs:List PV):Option St:=
 match x with
 | .tmp t=>match lkL (.t t) σ.own with
   | some E=>some (Y3 (ZY σ (.t t)) b off cells cs [(.b b off,E)])
   | none=>some (Y3 σ b off cells cs [])
 | _=>some (Y3 σ b off cells cs [])
theorem Zgt{Γ:List (Nat×Ty)}{T:TypeId}{p x:Operand}:X9 Γ σ T p x=(match opd σ p,Zw σ x,lk T Γ with
 | some (.ptr b off),some v,some ty=>match lk b σ.boxes with
   | some cs=>bif Nat.beq v.cells.length ty.size&&Nat.ble (off+ty.size) cs.length&& !(Nat.beq ty.size 0)&& !(has b σ.ro) then Zjq σ x b off v.cells cs else none
   | none=>none
 | _,_,_=>none):=by
 unfold X9 Zjq
 rfl
theorem Zi1{x:Operand}{b off:Nat}{cells cs:List PV}:∃σ'',Zjq ρ x b off cells cs=some σ''∧σ''.boxes=(b,lay cs off cells)::ρ.boxes∧σ''.tmps=ρ.tmps∧σ''.n=ρ.n∧σ''.ro=ρ.ro∧(∀t l,(t,l)∈ρ.al→(∀c,l≠ .b b c)→(t,l)∈σ''.al)∧
 ∀l E,lkL l ρ.own=some E→(∀t,x= .tmp t→l≠ .t t)→(∀c,l≠ .b b c)→lkL l σ''.own=some E:=by
 have hin:∀l:Loc,(∀c,l≠ .b b c)→Xm b off cells.length l=false:=by
  intro l hl
  cases hi:Xm b off cells.length l with
  | false=>rfl
  | true=>obtain ⟨c,e,_⟩:=Ziy.1 hi;exact absurd e (hl c)
 have hal:∀{σ0:St} {o':List (Loc×Nat)} (_:σ0.al=ρ.al) t l,(t,l)∈ρ.al→(∀c,l≠ .b b c)→(t,l)∈(Y3 σ0 b off cells cs o').al:=by
  intro σ0 o' e t l hm hl
  refine QY_.2 ⟨by rw[e];exact hm, ?_⟩
  simp[hin l hl]
 have plain:∃σ'',some (Y3 ρ b off cells cs [])=some σ''∧σ''.boxes=(b,lay cs off cells)::ρ.boxes∧σ''.tmps=ρ.tmps∧σ''.n=ρ.n∧σ''.ro=ρ.ro∧(∀t l,(t,l)∈ρ.al→(∀c,l≠ .b b c)→(t,l)∈σ''.al)∧
  ∀l E,lkL l ρ.own=some E→(∀t,x= .tmp t→l≠ .t t)→(∀c,l≠ .b b c)→lkL l σ''.own=some E:=by
  refine ⟨_,rfl,rfl,rfl,rfl,rfl,hal rfl,fun l E hl _ hne=>?_⟩
  show lkL l ([]++ρ.own.filter fun (l,_)=> !(Xm b off cells.length l))=some E
  rw[QJ_,ZO (fun l=> !(Xm b off cells.length l)),if_pos (by simp[hin l hne])]
  exact hl
 cases x with
 | tmp t=>
   simp only[Zjq]
   cases hE:lkL (.t t) ρ.own with
   | none=>exact plain
   | some E0=>
     refine ⟨_,rfl,rfl,rfl,rfl,rfl,hal rfl,fun l E hl hsrc hne=>?_⟩
     have hne2:l≠ .b b off:=hne off
     show lkL l ([(.b b off,E0)]++(ZY ρ (.t t)).own.filter fun (l,_)=> !(Xm b off cells.length l))=some E
     rw[ZcN,XJ,if_neg hne2]
     simp only[lkL]
     rw[ZO (fun l=> !(Xm b off cells.length l)),if_pos (by simp[hin l hne])]
     show lkL l (ρ.own.filter fun (k,_)=> !(k.eq (.t t)))=some E
     rw[ZO (fun k=> !(k.eq (.t t)))]
     have:l.eq (.t t)=false:=by
      cases he:l.eq (.t t) with
      | false=>rfl
      | true=>exact absurd (Loc.eq_iff.1 he) (hsrc t rfl)
     rw[if_pos (by simp[this])]
     exact hl
 | const _=>exact plain
 | global _=>exact plain
 | func _=>exact plain
theorem ZpT{Γ:List (Nat×Ty)}(hs:Sub τ ρ)(hro:τ.ro=ρ.ro){T:TypeId}{p x:Operand}{σ':St}(h:X9 Γ τ T p x=some σ'):
 ∃σ'' b cs,X9 Γ ρ T p x=some σ''∧(∃l,σ'.boxes=(b,cs)::l)∧σ''.boxes=(b,cs)::ρ.boxes∧σ''.tmps=ρ.tmps∧σ''.n=ρ.n∧σ''.ro=ρ.ro∧(∀t l,(t,l)∈ρ.al→(∀c,l≠ .b b c)→(t,l)∈σ''.al)∧
  ∀l E,lkL l ρ.own=some E→(∀t,x= .tmp t→l≠ .t t)→(∀c,l≠ .b b c)→lkL l σ''.own=some E:=by
 rw[Zgt] at h
 split at h
 ·rename_i b off v ty hp hv hty
  split at h
  ·rename_i cs hcs
   cases hb:(Nat.beq v.cells.length ty.size&&Nat.ble (off+ty.size) cs.length&& !(Nat.beq ty.size 0)&& !(has b τ.ro)) with
   | false=>rw[hb] at h;cases h
   | true=>
     rw[hb] at h
     simp only[Qb_] at h
     obtain ⟨σ1,e1,e2,_⟩:=Zi1 (ρ:=τ) (x:=x) (b:=b) (off:=off) (cells:=v.cells) (cs:=cs)
     rw[h] at e1
     have:=Qa_ e1
     subst this
     obtain ⟨σ2,f1,f2,f3,f4,f5,f6,f7⟩:=Zi1 (ρ:=ρ) (x:=x) (b:=b) (off:=off) (cells:=v.cells) (cs:=cs)
     refine ⟨σ2,b,_, ?_,⟨_,e2⟩,f2,f3,f4,f5,f6,f7⟩
     rw[Zgt,Znb hs hp,ZrP hs hv,hty]
     simp only
     rw[hs.boxes b cs hcs,←hro]
     simp only
     rw[hb]
     exact f1
  ·cases h
 ·cases h
structure RStep(dj:Option Nat)(src:Nat→Prop)(ej:En)(keys:Nat→Prop)(ρ ρ':St):Prop where
 n:ρ'.n=ρ.n
 ro:ρ'.ro=ρ.ro
 tm:∀t,dj≠some t→lk t ρ'.tmps=lk t ρ.tmps
 tme:∀t v,ej.tm=some (t,v)→lk t ρ'.tmps=some v
 bx:∀b,(∀cs,ej.bx≠some (b,cs))→lk b ρ'.boxes=lk b ρ.boxes
 bxe:∀b cs,ej.bx=some (b,cs)→lk b ρ'.boxes=some cs
 al:∀t l,(t,l)∈ρ.al→dj≠some t→(∀t',dj=some t'→l≠ .t t')→(∀b c,l= .b b c→¬keys b)→(t,l)∈ρ'.al
 ale:∀t l,ej.ln=some (t,l)→(t,l)∈ρ'.al
 own:∀l E,lkL l ρ.own=some E→(∀t,dj=some t→l≠ .t t)→(∀t,src t→l≠ .t t)→(∀b c,l= .b b c→¬keys b)→lkL l ρ'.own=some E
theorem RI.step{A:List En}{S:Nat→Prop}{dOf:Nat→Option Nat}{D Src:List Nat}{ws:List (Nat×Nat)}{cls:List Nat}{ej:En}{ρ':St}(hR:RI β A S ρ)(hS:RStep (dOf ej.i) (fun t=>t∈Src) ej (fun b=>∃i,(i,b)∈ws) ρ ρ')
 (hj:¬S ej.i) (huniq:∀e∈A,e.i=ej.i→e=ej) (hcls:∀s,S s→∀i,bit (ZN cls s) i=true→S i)
 (hD:∀i d,dOf i=some d→S i∨i=ej.i→d∈D) (hinj:∀i,S i→∀d,dOf i=some d→dOf ej.i≠some d)
 (htm:∀e∈A,∀t v,e.tm=some (t,v)→dOf e.i=some t) (hln:∀e∈A,∀t l,e.ln=some (t,l)→dOf e.i=some t∧Y4 D ws l=true)
 (hbx:∀e∈A,∀b cs,e.bx=some (b,cs)→(e.i,b)∈ws) (hej:ej∈A) (hord:∀s s' b,(s,b)∈ws→(s',b)∈ws→s < s'→bit (ZN cls s') s=true)
 (b1:∀t v,lk t β.tmps=some v→t∉D) (b2:∀t l,(t,l)∈β.al→t∉D∧Y4 D ws l=true) (b3:∀l E,lkL l β.own=some E→Y4 D ws l=true∧Y4 Src [] l=true):
 RI β A (fun i=>S i∨i=ej.i) ρ':=by
 have kD:∀{l:Loc},Y4 D ws l=true→(∀t',dOf ej.i=some t'→l≠ .t t')∧∀b c,l= .b b c→¬∃i,(i,b)∈ws:=by
  intro l hl
  refine ⟨fun t' ht e=>?_,fun b c e hk=>?_⟩
  ·subst e
   have:=YE.2 (hD _ _ ht (.inr rfl))
   simp only[Y4,this] at hl
   cases hl
  ·subst e
   have:=Zkk.2 hk
   simp only[Y4,this] at hl
   cases hl
 refine ⟨hR.n.trans hS.n.symm,hR.ro.trans hS.ro.symm,fun e he hSe t v hv=>?_,fun t v hv=>?_,fun e he hSe b cs hb hmax=>?_,fun b hb=>?_,fun e he hSe t l hl=>?_,fun t l hl=>?_,fun l E hl=>?_⟩
 ·rcases hSe with h | h
  ·rw[hS.tm t (hinj e.i h t (htm e he t v hv))]
   exact hR.tm e he h t v hv
  ·rw[huniq e he h] at hv
   exact hS.tme t v hv
 ·rw[hS.tm t (fun hd=>b1 t v hv (hD _ _ hd (.inr rfl)))]
  exact hR.tm0 t v hv
 ·by_cases hje:e.i=ej.i
  ·rw[huniq e he hje] at hb
   exact hS.bxe b cs hb
  ·have hSi:S e.i:=hSe.resolve_right hje
   have hno:∀cs',ej.bx≠some (b,cs'):=by
    intro cs' hcs'
    have hle:=hmax ej hej cs' hcs' (.inr rfl)
    have hlt:ej.i < e.i:=by omega
    exact hj (hcls e.i hSi _ (hord ej.i e.i b (hbx ej hej b cs' hcs') (hbx e he b cs hb) hlt))
   rw[hS.bx b hno]
   exact hR.bx e he hSi b cs hb (fun e' he' cs' hcs' hS'=>hmax e' he' cs' hcs' (.inl hS'))
 ·rw[hS.bx b (fun cs hcs=>hb ej hej cs hcs (.inr rfl))]
  exact hR.bx0 b (fun e he cs hcs hSe=>hb e he cs hcs (.inl hSe))
 ·rcases hSe with h | h
  ·obtain ⟨h1,h2⟩:=hln e he t l hl
   obtain ⟨k1,k2⟩:=kD h2
   exact hS.al t l (hR.ln e he h t l hl) (hinj e.i h t h1) k1 k2
  ·rw[huniq e he h] at hl
   exact hS.ale t l hl
 ·obtain ⟨h1,h2⟩:=b2 t l hl
  obtain ⟨k1,k2⟩:=kD h2
  exact hS.al t l (hR.al0 t l hl) (fun hd=>h1 (hD _ _ hd (.inr rfl))) k1 k2
 ·obtain ⟨h1,h2⟩:=b3 l E hl
  obtain ⟨k1,k2⟩:=kD h1
  refine hS.own l E (hR.own0 l E hl) k1 (fun t ht e=>?_) k2
  subst e
  have:=YE.2 ht
  simp only[Y4,this] at h2
  cases h2
end
section
variable {P:Program}{B:Nat}{g:G}{σ β ρ τ:St}{a:Act}{w:World}
theorem ZdV{j d:Nat}{r:Res}{src:Nat→Prop}{keys:Nat→Prop}{D:List Nat}{ws:List (Nat×Nat)}:
 RStep (some d) src ⟨j,some (d,r.av),r.box.map (d,·),WH D ws d r.link⟩ keys ρ (Xa ρ d r):=by
 have tms:∀t,lk t (Xa ρ d r).tmps=if t=d then some r.av else lk t ρ.tmps:=fun t=>Zs t d _ _
 have bxs:∀b,lk b (Xa ρ d r).boxes=match r.box with | some cs=>if b=d then some cs else lk b ρ.boxes | none=>lk b ρ.boxes:=by
  intro b
  show lk b (match r.box with | some cs=>(d,cs)::ρ.boxes | none=>ρ.boxes)=_
  cases r.box with
  | none=>rfl
  | some cs=>exact Zs b d _ _
 refine ⟨rfl,rfl,fun t ht=>?_,fun t v ht=>?_,fun b hb=>?_,fun b cs hb=>?_,fun t l hm ht hl _=>?_,fun t l hl=>?_,fun l E hl hd _ _=>?_⟩
 ·rw[tms,if_neg (fun e=>ht (by rw[e]))]
 ·have:=Qa_ ht
  cases this
  rw[tms,if_pos rfl]
 ·rw[bxs]
  cases hr:r.box with
  | none=>rfl
  | some cs=>
    have:b≠d:=fun e=>hb cs (by simp[hr,e])
    simp[this]
 ·rw[bxs]
  cases hr:r.box with
  | none=>rw[hr] at hb;cases hb
  | some cs'=>
    rw[hr] at hb
    have:=Qa_ hb
    cases this
    simp
 ·have h1:(t,l)∈(put ρ d r.av).al:=by
   refine QY_.2 ⟨hm, ?_⟩
   have e1:Nat.beq t d=false:=Zgm (fun e=>ht (by rw[e]))
   have e2:l.eq (.t d)=false:=by
    cases he:l.eq (.t d) with
    | false=>rfl
    | true=>exact absurd (Loc.eq_iff.1 he) (hl d rfl)
   simp[e1,e2]
  show (t,l)∈(match r.link with | some l=>(d,l)::(put ρ d r.av).al | none=>(put ρ d r.av).al)
  cases r.link with
  | none=>exact h1
  | some l'=>exact Qq_ _ h1
 ·show (t,l)∈(match r.link with | some l=>(d,l)::(put ρ d r.av).al | none=>(put ρ d r.av).al)
  have hl':WH D ws d r.link=some (t,l):=hl
  cases hr:r.link with
  | none=>rw[hr] at hl';exact absurd hl' (by simp[WH])
  | some l'=>
    rw[hr] at hl'
    simp only[WH] at hl'
    cases hk:Y4 D ws l' with
    | false=>rw[hk] at hl';cases hl'
    | true=>
      rw[hk] at hl'
      have:=Qa_ hl'
      cases this
      exact Qv_
 ·show lkL l (ρ.own.filter fun (l,_)=> !(l.eq (.t d)))=some E
  rw[ZO (fun l=> !(l.eq (.t d)))]
  have:l.eq (.t d)=false:=by
   cases he:l.eq (.t d) with
   | false=>rfl
   | true=>exact absurd (Loc.eq_iff.1 he) (hd d rfl)
  rw[if_pos (by simp[this])]
  exact hl
theorem ZnO{j d:Nat}{src:Nat→Prop}{keys:Nat→Prop}:RStep (some d) src ⟨j,none,none,none⟩ keys ρ (WW ρ d):=by
 refine ⟨rfl,rfl,fun t ht=>?_,fun t v ht=>absurd ht (by simp),fun b _=>rfl,fun b cs hb=>absurd hb (by simp),fun t l hm ht hl _=>?_,fun t l hl=>absurd hl (by simp),fun l E hl hd _ _=>?_⟩
 ·show lk t (ρ.tmps.filter fun (t,_)=> !(Nat.beq t d))=_
  rw[Zar (fun t=> !(Nat.beq t d)),Zgm (fun e=>ht (by rw[e]))]
  simp
 ·refine QY_.2 ⟨hm, ?_⟩
  have e1:Nat.beq t d=false:=Zgm (fun e=>ht (by rw[e]))
  have e2:l.eq (.t d)=false:=by
   cases he:l.eq (.t d) with
   | false=>rfl
   | true=>exact absurd (Loc.eq_iff.1 he) (hl d rfl)
  simp[e1,e2]
 ·show lkL l (ρ.own.filter fun (l,_)=> !(l.eq (.t d)))=some E
  rw[ZO (fun l=> !(l.eq (.t d)))]
  have:l.eq (.t d)=false:=by
   cases he:l.eq (.t d) with
   | false=>rfl
   | true=>exact absurd (Loc.eq_iff.1 he) (hd d rfl)
  rw[if_pos (by simp[this])]
  exact hl
theorem ZnP{j d:Nat}{src:Nat→Prop}{keys:Nat→Prop}:RStep (some d) src ⟨j,skE ρ.n (some d),none,none⟩ keys ρ (ZbK ρ d):=by
 show RStep (some d) src ⟨j,bif Nat.blt d ρ.n then some (d,.p (.tup [])) else none,none,none⟩ keys ρ (bif Nat.blt d ρ.n then put ρ d (.p (.tup [])) else WW ρ d)
 cases Nat.blt d ρ.n with
 | false=>exact ZnO
 | true=>exact ZdV (r:=⟨.p (.tup []),none,none⟩) (D:=[]) (ws:=[])
theorem Zgu{j:Nat}{src:Nat→Prop}{keys:Nat→Prop}:RStep none src ⟨j,none,none,none⟩ keys ρ ρ:=
 ⟨rfl,rfl,fun _ _=>rfl,fun _ _ h=>absurd h (by simp),fun _ _=>rfl,fun _ _ h=>absurd h (by simp),fun _ _ h _ _ _=>h,fun _ _ h=>absurd h (by simp),fun _ _ h _ _ _=>h⟩
theorem Zm0{Γ:List (Nat×Ty)}(hΓ:ZW P Γ){R:Nat→St→Oper→Option Res}(hR:∀j τ o r,R j τ o=some r→XC P τ o r){ops:Array Oper}{cls:List Nat}{ws:List (Nat×Nat)}{D Src:List Nat}{A:List En}{j:Nat}{o:Oper}{e:En}
 (h:Zau Γ R ops.toList cls ws D Src β A j o=some e) (hI:Inv P B g ρ a w) (hs:Sub (tau ws cls A β j (ZN cls j) (Zbc ops.toList o)) ρ) (hro:β.ro=ρ.ro)
 (hfresh:∀d,(j,d)∈ws→lk d β.boxes=none→(∀s,(s,d)∈ws→j≤s)→lk d ρ.boxes=none) {Q:Exit→Act→World→Prop} {K:Act→World→Prop}
 (hK:∀ρ' a' w',Post P B g ρ w ρ' a' w'→RStep o.dst (fun t=>t∈Src) e (fun b=>∃i,(i,b)∈ws) ρ ρ'→K a' w'):
 if Region.wanted o (yielded ops a.tmps) then o.wp P a w K Q else K (a.put o.dst undef) w:=by
 have hIτ:=JN hI hs
 unfold Zau at h
 simp only at h
 split at h
 ·cases h
 ·rename_i hg
  have:=Qa_ h
  subst this
  rw[Wa hIτ hg,if_neg (by simp)]
  cases hd:o.dst with
  | none=>rw[hd] at hK;exact hK ρ _ _ ⟨g,hI,Fr.refl⟩ Zgu
  | some d=>rw[hd,hs.n] at hK;exact hK (ZbK ρ d) _ _ ⟨g,ZdN hI d,Zf7 d⟩ ZnP
 ·rename_i hg
  rw[Wa hIτ hg,if_pos rfl]
  split at h
  ·rename_i T p x hop hd
   split at h
   ·rename_i σ' hst
    split at h
    ·rename_i b cs l hbx
     cases hb:(WG j b ws&&Zgs Src x) with
     | false=>rw[hb] at h;cases h
     | true=>
       rw[hb] at h
       have:=Qa_ h
       subst this
       rw[Qh_] at hb
       obtain ⟨σ'',b',cs',e1,⟨l',e2⟩,e3,e4,e5,e6,e7,e8⟩:=ZpT hs ((Zu6 _ _ _ _ _ _ _).trans hro) hst
       rw[hbx] at e2
       have:=List.cons.inj e2
       obtain ⟨e9,_⟩:=this
       cases e9
       refine (Zgl hΓ hI hop hd e1).wp fun v w' hp=>hK σ'' _ _ hp ?_
       rw[hd]
       refine ⟨e5,e6,fun t _=>by rw[e4],fun t v ht=>absurd ht (by simp),fun b2 hb2=>?_,fun b2 cs2 hb2=>?_,fun t l hm _ _ hk=>e7 t l hm (fun c ec=>hk b c ec ⟨j,JO.1 hb.1⟩),fun t l hl=>absurd hl (by simp),
        fun l E hl _ hsrc hk=>e8 l E hl (fun t ex=>?_) (fun c ec=>hk b c ec ⟨j,JO.1 hb.1⟩)⟩
       ·rw[e3,Zs,if_neg (fun ee=>hb2 cs (by rw[ee]))]
       ·have:=Qa_ hb2
        cases this
        rw[e3,Zs,if_pos rfl]
       ·subst ex
        exact hsrc t (YE.1 hb.2)
    ·cases h
   ·cases h
  ·rename_i d hd
   split at h
   ·rename_i r hr
    obtain ⟨q1,q2⟩:=hR _ _ _ _ hr B g a w hIτ
    obtain ⟨q3,q4⟩:=q2 d hd
    have main:(∀cs,r.box=some cs→lk d ρ.boxes=none)→e=⟨j,some (d,r.av),r.box.map (d,·),WH D ws d r.link⟩→o.wp P a w K Q:=by
     intro hb he
     have hgood:=ZrQ hs q1 (fun cs hcs d' hd'=>by rw[hd] at hd';cases hd';exact hb cs hcs)
     have hlt:d < ρ.n:=by rw[←hs.n];exact q3
     refine hgood.wp fun v w' ⟨g',hp⟩=>hK (Xa ρ d r) _ _ ?_ ?_
     ·rw[hd]
      exact ⟨g',ZaO hI hp hd hlt (fun l hl=>⟨(q4 l hl).1,fun b c e=>by obtain ⟨cs,hcs⟩:=(q4 l hl).2 b c e;exact ⟨cs,hs.boxes b cs hcs⟩⟩),ZdM hI hp hlt⟩
     ·rw[hd,he]
      exact ZdV
    split at h
    ·rename_i hbx
     have:=Qa_ h
     refine main (fun cs hcs=>by rw[hbx] at hcs;cases hcs) ?_
     rw[←this,hbx]
     rfl
    ·rename_i cs hbx
     cases hb:(WG j d ws&&ZT (lk d β.boxes)&&ws.all (fun (s,b)=> !(Nat.beq b d)||Nat.ble j s)) with
     | false=>rw[hb] at h;cases h
     | true=>
       rw[hb] at h
       have:=Qa_ h
       simp only[Qh_] at hb
       refine main (fun cs' _=>hfresh d (JO.1 hb.1.1) ?_ (fun s hs'=>?_)) ?_
       ·cases hl:lk d β.boxes with
        | none=>rfl
        | some cs=>rw[hl] at hb;exact absurd hb.1.2 (by simp[ZT])
       ·have:=QK_.1 hb.2 _ hs'
        simp only[Kn_,Qi_] at this
        rcases this with h1 | h1
        ·simp at h1
        ·exact Qm_ h1
       ·rw[←this,hbx]
        rfl
   ·cases h
  ·rename_i hd _
   split at h
   ·rename_i r hr
    cases hb:ZT r.box with
    | false=>rw[hb] at h;cases h
    | true=>
      rw[hb] at h
      have:=Qa_ h
      subst this
      have hbx:r.box=none:=by
       cases hr:r.box with
       | none=>rfl
       | some cs=>rw[hr] at hb;exact absurd hb (by simp[ZT])
      obtain ⟨q1,_⟩:=hR _ _ _ _ hr B g a w hIτ
      refine q1.wp fun v w' ⟨g',hp⟩=>?_
      rw[hd] at hK ⊢
      obtain ⟨k1,k2⟩:=Zc1 hI hp.qt
      have:=hp.noBox hbx
      obtain ⟨β',hw'⟩:=g'
      have this:β'=g.β:=this
      subst this
      exact hK ρ a w' ⟨_,k1,k2⟩ Zgu
   ·cases h
end
end Go.Ev
