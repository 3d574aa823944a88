/- A logic of frames, its evaluator for values known in part, and what the functions that the law reaches are shown to do: written for this claim. Part E. -/
import Derived.Test.YtfeldacghdcghaaGreatDoorFuD
import Derived.KernelRfl
import Derived.Deep.Slices
import Derived.Carry
import Derived.OpenShut
import Derived.ChangeMaps5
import Derived.Deep.DeepHandedRow
set_option linter.all false
set_option maxRecDepth 100000
namespace Go.Men
open Go.Ev Go.Proofs Go.Proofs.YtfeldacghdcghaaGreatDoor
def Zx9:=YC [(9,e9),(14,e14),(25,e25),(79,e79)]
def rA(i:Int)(l:List RawFace):=(List.map RawFace.enc l).getD i.toNat []
def ZxA(i:Int)(l:List RawFace):=intOf ((rA i l).headD PV.nil)
def qR(i:Int)(l:List RawFace):=intOf ((rA i l).tail.headD PV.nil)
def qA(i:Int)(l:List RawFace):=intOf ((rA i l).tail.tail.headD PV.nil)
def qT(i:Int)(l:List RawFace):=intOf ((rA i l).tail.tail.tail.headD PV.nil)
def qG(i:Int)(l:List RawFace):=intOf ((rA i l).tail.tail.tail.tail.headD PV.nil)
def qK(i:Int)(l:List RawFace):=intOf ((rA i l).tail.tail.tail.tail.tail.headD PV.nil)
set_option maxHeartbeats 4000000 in
def ZbL(g:List Glass):=List.map Glass.enc g
def Zga(g:List Glass):=IntKind.i64.wrap (↑(ZbL g).length+(2:Int))
def ZsD:=(0:Int) < (7:Int)∧(7:Int)≤(4611686018427387904:Int)
def ZiR:=(0:Int) < (900:Int)∧(900:Int)≤(4611686018427387904:Int)
def Xv:=(0:Int)≤(1:Int)∧(1:Int)≤(18:Int)
def ZsE:=(0:Int) < (2:Int)∧(2:Int)≤(4611686018427387904:Int)
def ZcT:=(0:Int) < (6:Int)∧(6:Int)≤(4611686018427387904:Int)
def Xw:=(6:Int)≠(0:Int)
def Ze7:=(0:Int) < (30:Int)∧(30:Int)≤(4611686018427387904:Int)
def Y0(u:LensM):=(List.map Face.enc u.faces).length+(1:Nat)
def Xf(i:Int)(l:List RawFace):=hdec (1:Nat) (IntKind.i64.wrap ((-150:Int) - pick (qR i l) (900:Int))) (1:Int)
def Zw(i:Int)(l:List RawFace):=hdec (1:Nat) (IntKind.i64.wrap ((30:Int)+pick (qA i l) (70:Int))) (1:Int)
def Zx(i:Int)(l:List RawFace):=hdec (1:Nat) (pick (qT i l) (80:Int)) (1:Int)
def XO(i:Int)(l:List RawFace):=hdec (1:Nat) (IntKind.i64.wrap (pick (IntKind.i64.wrap ((qK i l).tdiv (6:Int))) (30:Int) - (15:Int))) (1:Int)
def Zaf(i:Int)(g:List Glass)(l:List RawFace):=Zbq (((ZbL g).getD (pick (qG i l) (Zga g)).toNat []).headD PV.nil)
def ZsF(i:Int)(g:List Glass)(l:List RawFace)(u:LensM):=List.map Face.enc u.faces++[[vB false,vI (Xf i l).c,vI (Xf i l).scale,vI (Zw i l).c,vI (Zw i l).scale,vI (Zx i l).c,vI (Zx i l).scale,vI (XO i l).c,vI (XO i l).scale,vI 0,vI 0,vI 0,vI 0,PV.str (Zaf i g l)]]
def YZ(i:Int)(g:List Glass)(l:List RawFace)(most:Int):=[(10,AV.p (vI (IntKind.i64.wrap (i+(1:Int))))),(9,AV.ptr 9 0),(2,AV.p (PV.lst (ZbL g))),(1,AV.p (PV.lst (List.map RawFace.enc l))),(8,AV.ptr 8 0),(3,pI most)]
def Y1:=[(Loc.b (nat_lit 9) (nat_lit 3),nat_lit 144),(Loc.b (nat_lit 8) (nat_lit 3),nat_lit 144)]
def Xx:=(0:Int) < (400:Int)∧(400:Int)≤(4611686018427387904:Int)
def WT:=(0:Int)≤(2:Int)∧(2:Int)≤(18:Int)
def Yg(i:Int)(l:List RawFace):=hdec (2:Nat) (IntKind.i64.wrap (pick (IntKind.i64.wrap ((qK i l).tdiv (6:Int))) (400:Int) - (200:Int))) (2:Int)
def ZsG(i:Int)(g:List Glass)(l:List RawFace)(u:LensM):=List.map Face.enc u.faces++[[vB false,vI (Xf i l).c,vI (Xf i l).scale,vI (Zw i l).c,vI (Zw i l).scale,vI (Zx i l).c,vI (Zx i l).scale,vI 0,vI 0,vI (Yg i l).c,vI (Yg i l).scale,vI 0,vI 0,PV.str (Zaf i g l)]]
def Ze8:=(12:Int)≠(0:Int)
def XP(i:Int)(l:List RawFace):=hdec (1:Nat) (IntKind.i64.wrap (pick (IntKind.i64.wrap ((qK i l).tdiv (12:Int))) (400:Int) - (200:Int))) (1:Int)
def ZsH(i:Int)(g:List Glass)(l:List RawFace)(u:LensM):=List.map Face.enc u.faces++[[vB false,vI (Xf i l).c,vI (Xf i l).scale,vI (Zw i l).c,vI (Zw i l).scale,vI (Zx i l).c,vI (Zx i l).scale,vI 0,vI 0,vI (Yg i l).c,vI (Yg i l).scale,vI (XP i l).c,vI (XP i l).scale,PV.str (Zaf i g l)]]
def ZsI(i:Int)(g:List Glass)(l:List RawFace)(u:LensM):=List.map Face.enc u.faces++[[vB false,vI (Xf i l).c,vI (Xf i l).scale,vI (Zw i l).c,vI (Zw i l).scale,vI (Zx i l).c,vI (Zx i l).scale,vI 0,vI 0,vI 0,vI 0,vI 0,vI 0,PV.str (Zaf i g l)]]
def YD(i:Int)(l:List RawFace):=hdec (1:Nat) (IntKind.i64.wrap ((150:Int)+pick (qR i l) (900:Int))) (1:Int)
def ZsJ(i:Int)(g:List Glass)(l:List RawFace)(u:LensM):=List.map Face.enc u.faces++[[vB false,vI (YD i l).c,vI (YD i l).scale,vI (Zw i l).c,vI (Zw i l).scale,vI (Zx i l).c,vI (Zx i l).scale,vI (XO i l).c,vI (XO i l).scale,vI 0,vI 0,vI 0,vI 0,PV.str (Zaf i g l)]]
def ZsK(i:Int)(g:List Glass)(l:List RawFace)(u:LensM):=List.map Face.enc u.faces++[[vB false,vI (YD i l).c,vI (YD i l).scale,vI (Zw i l).c,vI (Zw i l).scale,vI (Zx i l).c,vI (Zx i l).scale,vI 0,vI 0,vI (Yg i l).c,vI (Yg i l).scale,vI 0,vI 0,PV.str (Zaf i g l)]]
def ZsL(i:Int)(g:List Glass)(l:List RawFace)(u:LensM):=List.map Face.enc u.faces++[[vB false,vI (YD i l).c,vI (YD i l).scale,vI (Zw i l).c,vI (Zw i l).scale,vI (Zx i l).c,vI (Zx i l).scale,vI 0,vI 0,vI (Yg i l).c,vI (Yg i l).scale,vI (XP i l).c,vI (XP i l).scale,PV.str (Zaf i g l)]]
def ZsM(i:Int)(g:List Glass)(l:List RawFace)(u:LensM):=List.map Face.enc u.faces++[[vB false,vI (YD i l).c,vI (YD i l).scale,vI (Zw i l).c,vI (Zw i l).scale,vI (Zx i l).c,vI (Zx i l).scale,vI 0,vI 0,vI 0,vI 0,vI 0,vI 0,PV.str (Zaf i g l)]]
def ZsN(i:Int)(g:List Glass)(l:List RawFace)(u:LensM):=List.map Face.enc u.faces++[[vB false,vI 0,vI 0,vI (Zw i l).c,vI (Zw i l).scale,vI (Zx i l).c,vI (Zx i l).scale,vI (XO i l).c,vI (XO i l).scale,vI 0,vI 0,vI 0,vI 0,PV.str (Zaf i g l)]]
def ZsO(i:Int)(g:List Glass)(l:List RawFace)(u:LensM):=List.map Face.enc u.faces++[[vB false,vI 0,vI 0,vI (Zw i l).c,vI (Zw i l).scale,vI (Zx i l).c,vI (Zx i l).scale,vI 0,vI 0,vI (Yg i l).c,vI (Yg i l).scale,vI 0,vI 0,PV.str (Zaf i g l)]]
def ZsP(i:Int)(g:List Glass)(l:List RawFace)(u:LensM):=List.map Face.enc u.faces++[[vB false,vI 0,vI 0,vI (Zw i l).c,vI (Zw i l).scale,vI (Zx i l).c,vI (Zx i l).scale,vI 0,vI 0,vI (Yg i l).c,vI (Yg i l).scale,vI (XP i l).c,vI (XP i l).scale,PV.str (Zaf i g l)]]
def ZsQ(i:Int)(g:List Glass)(l:List RawFace)(u:LensM):=List.map Face.enc u.faces++[[vB false,vI 0,vI 0,vI (Zw i l).c,vI (Zw i l).scale,vI (Zx i l).c,vI (Zx i l).scale,vI 0,vI 0,vI 0,vI 0,vI 0,vI 0,PV.str (Zaf i g l)]]
def YE:=[(97:UInt8),(105:UInt8),(114:UInt8)]
def ZxB(i:Int)(g:List Glass)(l:List RawFace)(most:Int)(u:LensM)(z:LensM)(Q:Ex→Option St→Prop):Prop:=((0:Int) < IntKind.i64.wrap (↑(ZbL g).length+(2:Int))∧IntKind.i64.wrap (↑(ZbL g).length+(2:Int))≤(4611686018427387904:Int))∧(bif decide (pick (qG i l) (Zga g) < ↑(ZbL g).length) then (((0:Int)≤pick (qG i l) (Zga g)∧(ZbL g)[(pick (qG i l) (Zga g)).toNat]?=some (ZW [PV.str [],vI 0,vI 0,vI 0,vI 0,vI 0,vI 0,vI 0,vI 0,vI 0,vI 0,vI 0,vI 0] ((ZbL g).getD (pick (qG i l) (Zga g)).toNat [])))∧(ZsD∧(bif decide (pick (qR i l) (7:Int) > (0:Int)) then (ZiR∧(Xv∧(((7:Int)≠(0:Int))∧(ZsE∧(bif pick (IntKind.i64.wrap ((qR i l).tdiv (7:Int))) (2:Int)==(0:Int) then (ZiR∧(Xv∧(ZcT∧(bif pick (qK i l) (6:Int)==(3:Int) then (Xw∧(Ze7∧(Xv∧(((0:Nat) < (1:Nat)∧(Y0 u)* (120:Nat)≤(140737488355328:Nat)∧Lens (14:Nat) (ZsF i g l u))∧Q (Ex.normal) (some ⟨166,(YZ i g l most),[(9,[PV.str u.name,vI u.back.c,vI u.back.scale,PV.lst (ZsF i g l u)]),(8,(Zy z))],[],Y1,[]⟩))))) else (bif pick (qK i l) (6:Int)==(4:Int) then (Xw∧(Xx∧(WT∧(((0:Nat) < (1:Nat)∧(Y0 u)* (120:Nat)≤(140737488355328:Nat)∧Lens (14:Nat) (ZsG i g l u))∧Q (Ex.normal) (some ⟨166,(YZ i g l most),[(9,[PV.str u.name,vI u.back.c,vI u.back.scale,PV.lst (ZsG i g l u)]),(8,(Zy z))],[],Y1,[]⟩))))) else (bif pick (qK i l) (6:Int)==(5:Int) then (Xw∧(Xx∧(WT∧(Ze8∧(Xx∧(Xv∧(((0:Nat) < (1:Nat)∧(Y0 u)* (120:Nat)≤(140737488355328:Nat)∧Lens (14:Nat) (ZsH i g l u))∧Q (Ex.normal) (some ⟨166,(YZ i g l most),[(9,[PV.str u.name,vI u.back.c,vI u.back.scale,PV.lst (ZsH i g l u)]),(8,(Zy z))],[],Y1,[]⟩)))))))) else (((0:Nat) < (1:Nat)∧(Y0 u)* (120:Nat)≤(140737488355328:Nat)∧Lens (14:Nat) (ZsI i g l u))∧Q (Ex.normal) (some ⟨166,(YZ i g l most),[(9,[PV.str u.name,vI u.back.c,vI u.back.scale,PV.lst (ZsI i g l u)]),(8,(Zy z))],[],Y1,[]⟩)))))))) else (ZcT∧(bif pick (qK i l) (6:Int)==(3:Int) then (Xw∧(Ze7∧(Xv∧(((0:Nat) < (1:Nat)∧(Y0 u)* (120:Nat)≤(140737488355328:Nat)∧Lens (14:Nat) (ZsJ i g l u))∧Q (Ex.normal) (some ⟨166,(YZ i g l most),[(9,[PV.str u.name,vI u.back.c,vI u.back.scale,PV.lst (ZsJ i g l u)]),(8,(Zy z))],[],Y1,[]⟩))))) else (bif pick (qK i l) (6:Int)==(4:Int) then (Xw∧(Xx∧(WT∧(((0:Nat) < (1:Nat)∧(Y0 u)* (120:Nat)≤(140737488355328:Nat)∧Lens (14:Nat) (ZsK i g l u))∧Q (Ex.normal) (some ⟨166,(YZ i g l most),[(9,[PV.str u.name,vI u.back.c,vI u.back.scale,PV.lst (ZsK i g l u)]),(8,(Zy z))],[],Y1,[]⟩))))) else (bif pick (qK i l) (6:Int)==(5:Int) then (Xw∧(Xx∧(WT∧(Ze8∧(Xx∧(Xv∧(((0:Nat) < (1:Nat)∧(Y0 u)* (120:Nat)≤(140737488355328:Nat)∧Lens (14:Nat) (ZsL i g l u))∧Q (Ex.normal) (some ⟨166,(YZ i g l most),[(9,[PV.str u.name,vI u.back.c,vI u.back.scale,PV.lst (ZsL i g l u)]),(8,(Zy z))],[],Y1,[]⟩)))))))) else (((0:Nat) < (1:Nat)∧(Y0 u)* (120:Nat)≤(140737488355328:Nat)∧Lens (14:Nat) (ZsM i g l u))∧Q (Ex.normal) (some ⟨166,(YZ i g l most),[(9,[PV.str u.name,vI u.back.c,vI u.back.scale,PV.lst (ZsM i g l u)]),(8,(Zy z))],[],Y1,[]⟩))))))))))) else (ZcT∧(bif pick (qK i l) (6:Int)==(3:Int) then (Xw∧(Ze7∧(Xv∧(((0:Nat) < (1:Nat)∧(Y0 u)* (120:Nat)≤(140737488355328:Nat)∧Lens (14:Nat) (ZsN i g l u))∧Q (Ex.normal) (some ⟨166,(YZ i g l most),[(9,[PV.str u.name,vI u.back.c,vI u.back.scale,PV.lst (ZsN i g l u)]),(8,(Zy z))],[],Y1,[]⟩))))) else (bif pick (qK i l) (6:Int)==(4:Int) then (Xw∧(Xx∧(WT∧(((0:Nat) < (1:Nat)∧(Y0 u)* (120:Nat)≤(140737488355328:Nat)∧Lens (14:Nat) (ZsO i g l u))∧Q (Ex.normal) (some ⟨166,(YZ i g l most),[(9,[PV.str u.name,vI u.back.c,vI u.back.scale,PV.lst (ZsO i g l u)]),(8,(Zy z))],[],Y1,[]⟩))))) else (bif pick (qK i l) (6:Int)==(5:Int) then (Xw∧(Xx∧(WT∧(Ze8∧(Xx∧(Xv∧(((0:Nat) < (1:Nat)∧(Y0 u)* (120:Nat)≤(140737488355328:Nat)∧Lens (14:Nat) (ZsP i g l u))∧Q (Ex.normal) (some ⟨166,(YZ i g l most),[(9,[PV.str u.name,vI u.back.c,vI u.back.scale,PV.lst (ZsP i g l u)]),(8,(Zy z))],[],Y1,[]⟩)))))))) else (((0:Nat) < (1:Nat)∧(Y0 u)* (120:Nat)≤(140737488355328:Nat)∧Lens (14:Nat) (ZsQ i g l u))∧Q (Ex.normal) (some ⟨166,(YZ i g l most),[(9,[PV.str u.name,vI u.back.c,vI u.back.scale,PV.lst (ZsQ i g l u)]),(8,(Zy z))],[],Y1,[]⟩))))))))) else (ZsD∧(bif decide (pick (qR i l) (7:Int) > (0:Int)) then (ZiR∧(Xv∧(((7:Int)≠(0:Int))∧(ZsE∧(bif pick (IntKind.i64.wrap ((qR i l).tdiv (7:Int))) (2:Int)==(0:Int) then (ZiR∧(Xv∧(ZcT∧(bif pick (qK i l) (6:Int)==(3:Int) then (Xw∧(Ze7∧(Xv∧(((0:Nat) < (1:Nat)∧(Y0 u)* (120:Nat)≤(140737488355328:Nat)∧Lens (14:Nat) (List.map Face.enc u.faces++[[vB false,vI (Xf i l).c,vI (Xf i l).scale,vI (Zw i l).c,vI (Zw i l).scale,vI (Zx i l).c,vI (Zx i l).scale,vI (XO i l).c,vI (XO i l).scale,vI 0,vI 0,vI 0,vI 0,PV.str YE]]))∧Q (Ex.normal) (some ⟨166,(YZ i g l most),[(9,[PV.str u.name,vI u.back.c,vI u.back.scale,PV.lst (List.map Face.enc u.faces++[[vB false,vI (Xf i l).c,vI (Xf i l).scale,vI (Zw i l).c,vI (Zw i l).scale,vI (Zx i l).c,vI (Zx i l).scale,vI (XO i l).c,vI (XO i l).scale,vI 0,vI 0,vI 0,vI 0,PV.str (YE)]])]),(8,(Zy z))],[],Y1,[]⟩))))) else (bif pick (qK i l) (6:Int)==(4:Int) then (Xw∧(Xx∧(WT∧(((0:Nat) < (1:Nat)∧(Y0 u)* (120:Nat)≤(140737488355328:Nat)∧Lens (14:Nat) (List.map Face.enc u.faces++[[vB false,vI (Xf i l).c,vI (Xf i l).scale,vI (Zw i l).c,vI (Zw i l).scale,vI (Zx i l).c,vI (Zx i l).scale,vI 0,vI 0,vI (Yg i l).c,vI (Yg i l).scale,vI 0,vI 0,PV.str YE]]))∧Q (Ex.normal) (some ⟨166,(YZ i g l most),[(9,[PV.str u.name,vI u.back.c,vI u.back.scale,PV.lst (List.map Face.enc u.faces++[[vB false,vI (Xf i l).c,vI (Xf i l).scale,vI (Zw i l).c,vI (Zw i l).scale,vI (Zx i l).c,vI (Zx i l).scale,vI 0,vI 0,vI (Yg i l).c,vI (Yg i l).scale,vI 0,vI 0,PV.str (YE)]])]),(8,(Zy z))],[],Y1,[]⟩))))) else (bif pick (qK i l) (6:Int)==(5:Int) then (Xw∧(Xx∧(WT∧(Ze8∧(Xx∧(Xv∧(((0:Nat) < (1:Nat)∧(Y0 u)* (120:Nat)≤(140737488355328:Nat)∧Lens (14:Nat) (List.map Face.enc u.faces++[[vB false,vI (Xf i l).c,vI (Xf i l).scale,vI (Zw i l).c,vI (Zw i l).scale,vI (Zx i l).c,vI (Zx i l).scale,vI 0,vI 0,vI (Yg i l).c,vI (Yg i l).scale,vI (XP i l).c,vI (XP i l).scale,PV.str YE]]))∧Q (Ex.normal) (some ⟨166,(YZ i g l most),[(9,[PV.str u.name,vI u.back.c,vI u.back.scale,PV.lst (List.map Face.enc u.faces++[[vB false,vI (Xf i l).c,vI (Xf i l).scale,vI (Zw i l).c,vI (Zw i l).scale,vI (Zx i l).c,vI (Zx i l).scale,vI 0,vI 0,vI (Yg i l).c,vI (Yg i l).scale,vI (XP i l).c,vI (XP i l).scale,PV.str (YE)]])]),(8,(Zy z))],[],Y1,[]⟩)))))))) else (((0:Nat) < (1:Nat)∧(Y0 u)* (120:Nat)≤(140737488355328:Nat)∧Lens (14:Nat) (List.map Face.enc u.faces++[[vB false,vI (Xf i l).c,vI (Xf i l).scale,vI (Zw i l).c,vI (Zw i l).scale,vI (Zx i l).c,vI (Zx i l).scale,vI 0,vI 0,vI 0,vI 0,vI 0,vI 0,PV.str YE]]))∧Q (Ex.normal) (some ⟨166,(YZ i g l most),[(9,[PV.str u.name,vI u.back.c,vI u.back.scale,PV.lst (List.map Face.enc u.faces++[[vB false,vI (Xf i l).c,vI (Xf i l).scale,vI (Zw i l).c,vI (Zw i l).scale,vI (Zx i l).c,vI (Zx i l).scale,vI 0,vI 0,vI 0,vI 0,vI 0,vI 0,PV.str (YE)]])]),(8,(Zy z))],[],Y1,[]⟩)))))))) else (ZcT∧(bif pick (qK i l) (6:Int)==(3:Int) then (Xw∧(Ze7∧(Xv∧(((0:Nat) < (1:Nat)∧(Y0 u)* (120:Nat)≤(140737488355328:Nat)∧Lens (14:Nat) (List.map Face.enc u.faces++[[vB false,vI (YD i l).c,vI (YD i l).scale,vI (Zw i l).c,vI (Zw i l).scale,vI (Zx i l).c,vI (Zx i l).scale,vI (XO i l).c,vI (XO i l).scale,vI 0,vI 0,vI 0,vI 0,PV.str YE]]))∧Q (Ex.normal) (some ⟨166,(YZ i g l most),[(9,[PV.str u.name,vI u.back.c,vI u.back.scale,PV.lst (List.map Face.enc u.faces++[[vB false,vI (YD i l).c,vI (YD i l).scale,vI (Zw i l).c,vI (Zw i l).scale,vI (Zx i l).c,vI (Zx i l).scale,vI (XO i l).c,vI (XO i l).scale,vI 0,vI 0,vI 0,vI 0,PV.str (YE)]])]),(8,(Zy z))],[],Y1,[]⟩))))) else (bif pick (qK i l) (6:Int)==(4:Int) then (Xw∧(Xx∧(WT∧(((0:Nat) < (1:Nat)∧(Y0 u)* (120:Nat)≤(140737488355328:Nat)∧Lens (14:Nat) (List.map Face.enc u.faces++[[vB false,vI (YD i l).c,vI (YD i l).scale,vI (Zw i l).c,vI (Zw i l).scale,vI (Zx i l).c,vI (Zx i l).scale,vI 0,vI 0,vI (Yg i l).c,vI (Yg i l).scale,vI 0,vI 0,PV.str YE]]))∧Q (Ex.normal) (some ⟨166,(YZ i g l most),[(9,[PV.str u.name,vI u.back.c,vI u.back.scale,PV.lst (List.map Face.enc u.faces++[[vB false,vI (YD i l).c,vI (YD i l).scale,vI (Zw i l).c,vI (Zw i l).scale,vI (Zx i l).c,vI (Zx i l).scale,vI 0,vI 0,vI (Yg i l).c,vI (Yg i l).scale,vI 0,vI 0,PV.str (YE)]])]),(8,(Zy z))],[],Y1,[]⟩))))) else (bif pick (qK i l) (6:Int)==(5:Int) then (Xw∧(Xx∧(WT∧(Ze8∧(Xx∧(Xv∧(((0:Nat) < (1:Nat)∧(Y0 u)* (120:Nat)≤(140737488355328:Nat)∧Lens (14:Nat) (List.map Face.enc u.faces++[[vB false,vI (YD i l).c,vI (YD i l).scale,vI (Zw i l).c,vI (Zw i l).scale,vI (Zx i l).c,vI (Zx i l).scale,vI 0,vI 0,vI (Yg i l).c,vI (Yg i l).scale,vI (XP i l).c,vI (XP i l).scale,PV.str YE]]))∧Q (Ex.normal) (some ⟨166,(YZ i g l most),[(9,[PV.str u.name,vI u.back.c,vI u.back.scale,PV.lst (List.map Face.enc u.faces++[[vB false,vI (YD i l).c,vI (YD i l).scale,vI (Zw i l).c,vI (Zw i l).scale,vI (Zx i l).c,vI (Zx i l).scale,vI 0,vI 0,vI (Yg i l).c,vI (Yg i l).scale,vI (XP i l).c,vI (XP i l).scale,PV.str (YE)]])]),(8,(Zy z))],[],Y1,[]⟩)))))))) else (((0:Nat) < (1:Nat)∧(Y0 u)* (120:Nat)≤(140737488355328:Nat)∧Lens (14:Nat) (List.map Face.enc u.faces++[[vB false,vI (YD i l).c,vI (YD i l).scale,vI (Zw i l).c,vI (Zw i l).scale,vI (Zx i l).c,vI (Zx i l).scale,vI 0,vI 0,vI 0,vI 0,vI 0,vI 0,PV.str YE]]))∧Q (Ex.normal) (some ⟨166,(YZ i g l most),[(9,[PV.str u.name,vI u.back.c,vI u.back.scale,PV.lst (List.map Face.enc u.faces++[[vB false,vI (YD i l).c,vI (YD i l).scale,vI (Zw i l).c,vI (Zw i l).scale,vI (Zx i l).c,vI (Zx i l).scale,vI 0,vI 0,vI 0,vI 0,vI 0,vI 0,PV.str (YE)]])]),(8,(Zy z))],[],Y1,[]⟩))))))))))) else (ZcT∧(bif pick (qK i l) (6:Int)==(3:Int) then (Xw∧(Ze7∧(Xv∧(((0:Nat) < (1:Nat)∧(Y0 u)* (120:Nat)≤(140737488355328:Nat)∧Lens (14:Nat) (List.map Face.enc u.faces++[[vB false,vI 0,vI 0,vI (Zw i l).c,vI (Zw i l).scale,vI (Zx i l).c,vI (Zx i l).scale,vI (XO i l).c,vI (XO i l).scale,vI 0,vI 0,vI 0,vI 0,PV.str YE]]))∧Q (Ex.normal) (some ⟨166,(YZ i g l most),[(9,[PV.str u.name,vI u.back.c,vI u.back.scale,PV.lst (List.map Face.enc u.faces++[[vB false,vI 0,vI 0,vI (Zw i l).c,vI (Zw i l).scale,vI (Zx i l).c,vI (Zx i l).scale,vI (XO i l).c,vI (XO i l).scale,vI 0,vI 0,vI 0,vI 0,PV.str (YE)]])]),(8,(Zy z))],[],Y1,[]⟩))))) else (bif pick (qK i l) (6:Int)==(4:Int) then (Xw∧(Xx∧(WT∧(((0:Nat) < (1:Nat)∧(Y0 u)* (120:Nat)≤(140737488355328:Nat)∧Lens (14:Nat) (List.map Face.enc u.faces++[[vB false,vI 0,vI 0,vI (Zw i l).c,vI (Zw i l).scale,vI (Zx i l).c,vI (Zx i l).scale,vI 0,vI 0,vI (Yg i l).c,vI (Yg i l).scale,vI 0,vI 0,PV.str YE]]))∧Q (Ex.normal) (some ⟨166,(YZ i g l most),[(9,[PV.str u.name,vI u.back.c,vI u.back.scale,PV.lst (List.map Face.enc u.faces++[[vB false,vI 0,vI 0,vI (Zw i l).c,vI (Zw i l).scale,vI (Zx i l).c,vI (Zx i l).scale,vI 0,vI 0,vI (Yg i l).c,vI (Yg i l).scale,vI 0,vI 0,PV.str (YE)]])]),(8,(Zy z))],[],Y1,[]⟩))))) else (bif pick (qK i l) (6:Int)==(5:Int) then (Xw∧(Xx∧(WT∧(Ze8∧(Xx∧(Xv∧(((0:Nat) < (1:Nat)∧(Y0 u)* (120:Nat)≤(140737488355328:Nat)∧Lens (14:Nat) (List.map Face.enc u.faces++[[vB false,vI 0,vI 0,vI (Zw i l).c,vI (Zw i l).scale,vI (Zx i l).c,vI (Zx i l).scale,vI 0,vI 0,vI (Yg i l).c,vI (Yg i l).scale,vI (XP i l).c,vI (XP i l).scale,PV.str YE]]))∧Q (Ex.normal) (some ⟨166,(YZ i g l most),[(9,[PV.str u.name,vI u.back.c,vI u.back.scale,PV.lst (List.map Face.enc u.faces++[[vB false,vI 0,vI 0,vI (Zw i l).c,vI (Zw i l).scale,vI (Zx i l).c,vI (Zx i l).scale,vI 0,vI 0,vI (Yg i l).c,vI (Yg i l).scale,vI (XP i l).c,vI (XP i l).scale,PV.str (YE)]])]),(8,(Zy z))],[],Y1,[]⟩)))))))) else (((0:Nat) < (1:Nat)∧(Y0 u)* (120:Nat)≤(140737488355328:Nat)∧Lens (14:Nat) (List.map Face.enc u.faces++[[vB false,vI 0,vI 0,vI (Zw i l).c,vI (Zw i l).scale,vI (Zx i l).c,vI (Zx i l).scale,vI 0,vI 0,vI 0,vI 0,vI 0,vI 0,PV.str YE]]))∧Q (Ex.normal) (some ⟨166,(YZ i g l most),[(9,[PV.str u.name,vI u.back.c,vI u.back.scale,PV.lst (List.map Face.enc u.faces++[[vB false,vI 0,vI 0,vI (Zw i l).c,vI (Zw i l).scale,vI (Zx i l).c,vI (Zx i l).scale,vI 0,vI 0,vI 0,vI 0,vI 0,vI 0,PV.str (YE)]])]),(8,(Zy z))],[],Y1,[]⟩)))))))))
def ZsR(u:LensM)(z:LensM):Option St:=some ⟨166,[(8,AV.ptr 8 0),(9,AV.ptr 9 0)],[(8,(Zy z)),(9,(Zy u))],[],[(Loc.b (nat_lit 9) (nat_lit 3),nat_lit 144)],[]⟩
theorem Zkp:CSOk Tryz.prog Zx9:=Za ZnS<|Za Zxr<|Za Z2J<|Za Z6g<|Ze
set_option maxHeartbeats 4000000 in
theorem Zpu:Yt Tryz.prog (Zt Tryz.f51 0) Zi7:=by
 refine lsG Zl.Γ (Z6 Zl Zkp ZA Z7 ZJ (LS:=[]) (ZV (l:=[]) (by kernel_rfl) Zu) (n:=2000) (U6 Zi5) (U6 JJ) (fun x e s=>(e= .exit 0∧s=U6 JI x)) (fun x=>(x.2.2.1.length - x.1).toNat) Zi6 Zpi Zpj (fun x hx=>?_)) cv6 (fun _=>rfl) (fun _ h=>h) (fun _ _ _ _ h f=>fE h f)
 ·obtain ⟨i,g,l,most,u,z⟩:=x
  simp only[U6,JJ] at hx
  refine sxT (fun Q=>(bif decide (i < ↑(List.map RawFace.enc l).length) then (bif decide (↑(List.map Face.enc u.faces).length < most) then (((0:Int)≤i∧(List.map RawFace.enc l)[i.toNat]?=some (ZW [vI 0,vI 0,vI 0,vI 0,vI 0,vI 0] (rA i l)))∧(((0:Int) < (70:Int)∧(70:Int)≤(4611686018427387904:Int))∧(Xv∧(((0:Int) < (80:Int)∧(80:Int)≤(4611686018427387904:Int))∧(Xv∧(ZcT∧(bif pick (ZxA i l) (6:Int)==(5:Int) then (bif decide (i > (0:Int)) then (((0:Nat) < (1:Nat)∧(Y0 u)* (120:Nat)≤(140737488355328:Nat)∧Lens (14:Nat) (List.map Face.enc u.faces++[[vB true,vI 0,vI 0,vI (Zw i l).c,vI (Zw i l).scale,vI (Zx i l).c,vI (Zx i l).scale,vI 0,vI 0,vI 0,vI 0,vI 0,vI 0,PV.str []]]))∧Q (Ex.normal) (some ⟨166,(YZ i g l most),[(9,[PV.str u.name,vI u.back.c,vI u.back.scale,PV.lst (List.map Face.enc u.faces++[[vB true,vI 0,vI 0,vI (Zw i l).c,vI (Zw i l).scale,vI (Zx i l).c,vI (Zx i l).scale,vI 0,vI 0,vI 0,vI 0,vI 0,vI 0,PV.str ([])]])]),(8,(Zy z))],[],Y1,[]⟩)) else (ZxB i g l most u z Q)) else (ZxB i g l most u z Q)))))))) else Q (Ex.exit (0:Nat)) (ZsR u z)) else Q (Ex.exit (0:Nat)) (ZsR u z))) (fun _=>by kernel_rfl) ?_
  delta ZxB Zw Yg Zx YZ Zaf XP XO Xf YD Y1 Xx Y0 YE Xv WT ZcT Ze7 Xw Zga ZiR ZsL ZsH ZsJ ZsK ZsF ZsG ZsP ZsM ZsI ZsN ZsO ZsQ ZsR Ze8 ZbL ZsD ZsE Zy vI vB pI
  refine Zb (fun h0=>Zb (fun h1=>⟨?r242,⟨?r241,⟨?r240,⟨?r239,⟨?r238,⟨?r237,Zb (fun h2=>Zb (fun h3=>⟨?r0, ?_⟩) (fun h3=>⟨?r118,Zb (fun h4=>⟨?r59,⟨?r58,Zb (fun h5=>⟨?r40,⟨?r39,⟨?r38,⟨?r37,Zb (fun h6=>⟨?r19,⟨?r18,⟨?r17,Zb (fun h7=>⟨?r4,⟨?r3,⟨?r2,⟨?r1, ?_⟩⟩⟩⟩) (fun h7=>Zb (fun h8=>⟨?r8,⟨?r7,⟨?r6,⟨?r5, ?_⟩⟩⟩⟩) (fun h8=>Zb (fun h9=>⟨?r15,⟨?r14,⟨?r13,⟨?r12,⟨?r11,⟨?r10,⟨?r9, ?_⟩⟩⟩⟩⟩⟩⟩) (fun h9=>⟨?r16, ?_⟩)))⟩⟩⟩) (fun h6=>⟨?r36,Zb (fun h7=>⟨?r23,⟨?r22,⟨?r21,⟨?r20, ?_⟩⟩⟩⟩) (fun h7=>Zb (fun h8=>⟨?r27,⟨?r26,⟨?r25,⟨?r24, ?_⟩⟩⟩⟩) (fun h8=>Zb (fun h9=>⟨?r34,⟨?r33,⟨?r32,⟨?r31,⟨?r30,⟨?r29,⟨?r28, ?_⟩⟩⟩⟩⟩⟩⟩) (fun h9=>⟨?r35, ?_⟩)))⟩)⟩⟩⟩⟩) (fun h5=>⟨?r57,Zb (fun h6=>⟨?r44,⟨?r43,⟨?r42,⟨?r41, ?_⟩⟩⟩⟩) (fun h6=>Zb (fun h7=>⟨?r48,⟨?r47,⟨?r46,⟨?r45, ?_⟩⟩⟩⟩) (fun h7=>Zb (fun h8=>⟨?r55,⟨?r54,⟨?r53,⟨?r52,⟨?r51,⟨?r50,⟨?r49, ?_⟩⟩⟩⟩⟩⟩⟩) (fun h8=>⟨?r56, ?_⟩)))⟩)⟩⟩) (fun h4=>⟨?r117,Zb (fun h5=>⟨?r99,⟨?r98,⟨?r97,⟨?r96,Zb (fun h6=>⟨?r78,⟨?r77,⟨?r76,Zb (fun h7=>⟨?r63,⟨?r62,⟨?r61,⟨?r60, ?_⟩⟩⟩⟩) (fun h7=>Zb (fun h8=>⟨?r67,⟨?r66,⟨?r65,⟨?r64, ?_⟩⟩⟩⟩) (fun h8=>Zb (fun h9=>⟨?r74,⟨?r73,⟨?r72,⟨?r71,⟨?r70,⟨?r69,⟨?r68, ?_⟩⟩⟩⟩⟩⟩⟩) (fun h9=>⟨?r75, ?_⟩)))⟩⟩⟩) (fun h6=>⟨?r95,Zb (fun h7=>⟨?r82,⟨?r81,⟨?r80,⟨?r79, ?_⟩⟩⟩⟩) (fun h7=>Zb (fun h8=>⟨?r86,⟨?r85,⟨?r84,⟨?r83, ?_⟩⟩⟩⟩) (fun h8=>Zb (fun h9=>⟨?r93,⟨?r92,⟨?r91,⟨?r90,⟨?r89,⟨?r88,⟨?r87, ?_⟩⟩⟩⟩⟩⟩⟩) (fun h9=>⟨?r94, ?_⟩)))⟩)⟩⟩⟩⟩) (fun h5=>⟨?r116,Zb (fun h6=>⟨?r103,⟨?r102,⟨?r101,⟨?r100, ?_⟩⟩⟩⟩) (fun h6=>Zb (fun h7=>⟨?r107,⟨?r106,⟨?r105,⟨?r104, ?_⟩⟩⟩⟩) (fun h7=>Zb (fun h8=>⟨?r114,⟨?r113,⟨?r112,⟨?r111,⟨?r110,⟨?r109,⟨?r108, ?_⟩⟩⟩⟩⟩⟩⟩) (fun h8=>⟨?r115, ?_⟩)))⟩)⟩)⟩)) (fun h2=>⟨?r236,Zb (fun h3=>⟨?r177,⟨?r176,Zb (fun h4=>⟨?r158,⟨?r157,⟨?r156,⟨?r155,Zb (fun h5=>⟨?r137,⟨?r136,⟨?r135,Zb (fun h6=>⟨?r122,⟨?r121,⟨?r120,⟨?r119, ?_⟩⟩⟩⟩) (fun h6=>Zb (fun h7=>⟨?r126,⟨?r125,⟨?r124,⟨?r123, ?_⟩⟩⟩⟩) (fun h7=>Zb (fun h8=>⟨?r133,⟨?r132,⟨?r131,⟨?r130,⟨?r129,⟨?r128,⟨?r127, ?_⟩⟩⟩⟩⟩⟩⟩) (fun h8=>⟨?r134, ?_⟩)))⟩⟩⟩) (fun h5=>⟨?r154,Zb (fun h6=>⟨?r141,⟨?r140,⟨?r139,⟨?r138, ?_⟩⟩⟩⟩) (fun h6=>Zb (fun h7=>⟨?r145,⟨?r144,⟨?r143,⟨?r142, ?_⟩⟩⟩⟩) (fun h7=>Zb (fun h8=>⟨?r152,⟨?r151,⟨?r150,⟨?r149,⟨?r148,⟨?r147,⟨?r146, ?_⟩⟩⟩⟩⟩⟩⟩) (fun h8=>⟨?r153, ?_⟩)))⟩)⟩⟩⟩⟩) (fun h4=>⟨?r175,Zb (fun h5=>⟨?r162,⟨?r161,⟨?r160,⟨?r159, ?_⟩⟩⟩⟩) (fun h5=>Zb (fun h6=>⟨?r166,⟨?r165,⟨?r164,⟨?r163, ?_⟩⟩⟩⟩) (fun h6=>Zb (fun h7=>⟨?r173,⟨?r172,⟨?r171,⟨?r170,⟨?r169,⟨?r168,⟨?r167, ?_⟩⟩⟩⟩⟩⟩⟩) (fun h7=>⟨?r174, ?_⟩)))⟩)⟩⟩) (fun h3=>⟨?r235,Zb (fun h4=>⟨?r217,⟨?r216,⟨?r215,⟨?r214,Zb (fun h5=>⟨?r196,⟨?r195,⟨?r194,Zb (fun h6=>⟨?r181,⟨?r180,⟨?r179,⟨?r178, ?_⟩⟩⟩⟩) (fun h6=>Zb (fun h7=>⟨?r185,⟨?r184,⟨?r183,⟨?r182, ?_⟩⟩⟩⟩) (fun h7=>Zb (fun h8=>⟨?r192,⟨?r191,⟨?r190,⟨?r189,⟨?r188,⟨?r187,⟨?r186, ?_⟩⟩⟩⟩⟩⟩⟩) (fun h8=>⟨?r193, ?_⟩)))⟩⟩⟩) (fun h5=>⟨?r213,Zb (fun h6=>⟨?r200,⟨?r199,⟨?r198,⟨?r197, ?_⟩⟩⟩⟩) (fun h6=>Zb (fun h7=>⟨?r204,⟨?r203,⟨?r202,⟨?r201, ?_⟩⟩⟩⟩) (fun h7=>Zb (fun h8=>⟨?r211,⟨?r210,⟨?r209,⟨?r208,⟨?r207,⟨?r206,⟨?r205, ?_⟩⟩⟩⟩⟩⟩⟩) (fun h8=>⟨?r212, ?_⟩)))⟩)⟩⟩⟩⟩) (fun h4=>⟨?r234,Zb (fun h5=>⟨?r221,⟨?r220,⟨?r219,⟨?r218, ?_⟩⟩⟩⟩) (fun h5=>Zb (fun h6=>⟨?r225,⟨?r224,⟨?r223,⟨?r222, ?_⟩⟩⟩⟩) (fun h6=>Zb (fun h7=>⟨?r232,⟨?r231,⟨?r230,⟨?r229,⟨?r228,⟨?r227,⟨?r226, ?_⟩⟩⟩⟩⟩⟩⟩) (fun h7=>⟨?r233, ?_⟩)))⟩)⟩)⟩)⟩⟩⟩⟩⟩⟩) (fun h1=>?_)) (fun h0=>?_)
  case r0|r1|r2|r3|r4|r5|r6|r7|r8|r9|r10|r11|r12|r13|r14|r15|r16|r17|r18|r19|r20|r21|r22|r23|r24|r25|r26|r27|r28|r29|r30|r31|r32|r33|r34|r35|r36|r37|r38|r39|r40|r41|r42|r43|r44|r45|r46|r47|r48|r49|r50|r51|r52|r53|r54|r55|r56|r57|r58|r59|r60|r61|r62|r63|r64|r65|r66|r67|r68|r69|r70|r71|r72|r73|r74|r75|r76|r77|r78|r79|r80|r81|r82|r83|r84|r85|r86|r87|r88|r89|r90|r91|r92|r93|r94|r95|r96|r97|r98|r99|r100|r101|r102|r103|r104|r105|r106|r107|r108|r109|r110|r111|r112|r113|r114|r115|r116|r117|r118|r119|r120|r121|r122|r123|r124|r125|r126|r127|r128|r129|r130|r131|r132|r133|r134|r135|r136|r137|r138|r139|r140|r141|r142|r143|r144|r145|r146|r147|r148|r149|r150|r151|r152|r153|r154|r155|r156|r157|r158|r159|r160|r161|r162|r163|r164|r165|r166|r167|r168|r169|r170|r171|r172|r173|r174|r175|r176|r177|r178|r179|r180|r181|r182|r183|r184|r185|r186|r187|r188|r189|r190|r191|r192|r193|r194|r195|r196|r197|r198|r199|r200|r201|r202|r203|r204|r205|r206|r207|r208|r209|r210|r211|r212|r213|r214|r215|r216|r217|r218|r219|r220|r221|r222|r223|r224|r225|r226|r227|r228|r229|r230|r231|r232|r233|r234|r235|r236|r237|r238|r239|r240|r241|r242=>first | rfl | omega | (rw[Yv];done) | (rw[Xi];done) | (have hb:=Zdt g most l 0 [];have hd:=ZS (pick back 100);have hp:=XB (n:=back) (m:=100) (by omega);simp only[Yv,Wi,Xi,QG_,show Zd Face.dec []=[] from rfl,Qk_,Q1_] at *;skip) | (obtain ⟨a1,a2,a3,a4,a5,a6⟩:=hx;(try simp only[Qk_,Qc_] at h0);(try simp only[Qk_,Qc_] at h1);(try simp only[Qk_] at *);have hg:IntKind.i64.wrap ((g.length:Int)+2)=g.length+2:=Zf (by constructor<;>omega);first | omega | (rw[hg];omega) | exact ZH (fun _=>rfl) (by omega) (by omega) | exact ⟨by decide,by omega,Wa (XZ (e:=Face.enc) (fun _=>rfl) _) rfl⟩ | (simp only[Qc_] at h4;exact ZH (fun _=>rfl) (XB (by rw[hg];omega)).1 (by omega)) | (simp only[Qc_] at h3;exact ZH (fun _=>rfl) (XB (by rw[hg];omega)).1 (by omega)))
  all_goals (obtain ⟨a1,a2,a3,a4,a5,a6⟩:=hx;try simp only[Qk_,Qc_,Qe_] at h0)
  all_goals first | (have hk:i < l.length:=h0;obtain ⟨f,t,e1,e2,e3⟩:=Yu (l:=l) a1 (by omega);have eA:rA i l=RawFace.enc f:=Yz e3;have r0:ZxA i l=f.kind:=(by unfold ZxA;rw[eA];rfl);have r1:qR i l=f.r:=(by unfold qR;rw[eA];rfl);have r2:qA i l=f.a:=(by unfold qA;rw[eA];rfl);have r3:qT i l=f.t:=(by unfold qT;rw[eA];rfl);have r4:qG i l=f.g:=(by unfold qG;rw[eA];rfl);have r5:qK i l=f.k:=(by unfold qK;rw[eA];rfl)) | (exact .inr ⟨by simp,_,rfl,by trivial,by unfold U6 JI;(try dsimp only);rw[List.drop_eq_nil_of_le (by omega)];rfl⟩)
  all_goals (simp only[Qk_] at h1)
  all_goals first | (exact .inr ⟨by simp,_,rfl,by trivial,by unfold U6 JI;(try dsimp only);(rw[e1,Zkd,h1])<;>rfl⟩) | skip
  all_goals simp only[r0,r1,r2,r3,r4,r5,Z1q,Qk_] at *
  all_goals (have hw:IntKind.i64.wrap (i+1)=i+1:=Zf (by constructor<;>omega);have eb:Wd g most (l.drop i.toNat) i u.faces=Wd g most (l.drop (IntKind.i64.wrap (i+1)).toNat) (IntKind.i64.wrap (i+1)) (u.faces++[Zck f i g]):=(by rw[hw,e1,e2,Zkd,h1];rfl))
  all_goals
   refine .inl ⟨by trivial,(IntKind.i64.wrap (i+1),g,l,most,⟨u.name,u.back,u.faces++[Zck f i g]⟩,z), ?_, ?_, ?_, ?_⟩
   ·simp only[U6,Zi5,LensM.enc,QR_,QE_,QN_,Face.enc,Zck,ZuR,Zox,ZyO,ZyP,Zoy,Z5J,Zrz,Zr0,Z3B,w64, *,Qp_,Ql_,Qr_,Qn_,Qu_,Qt_,Q4_,Qw_,Q5_,Q3_,Qb_,Qd_]
    try rfl
   ·simp only[Qc_] at h1
    simp only[U6,JJ,hw,Qx_,Qs_,Q1_];exact ⟨by omega,by omega,a3,a4,a5,by omega⟩
   ·simp only[hw];omega
   ·intro e s' h;refine ⟨h.1,h.2.trans ?_⟩;unfold U6 JI;rw[eb]
theorem ZsS:ZF Tryz.prog [(4,Zi7)] Tryz.f51:=ZN (l:=[Zt Tryz.f51 0]) (by kernel_rfl) (ZE (i:=4) (by kernel_rfl) rfl Zpu (Zu))
def ZmG(l:List RawFace):=Zd RawFace.dec (List.map RawFace.enc l)
def ZiS(l:List RawFace)(g:List Glass)(most:Int):=Wd (Zd Glass.dec (List.map Glass.enc g)) most (List.drop (0:Nat) (ZmG l)) (0:Int) (Zd Face.dec [])
def ZmH:=(0:Int)≤(0:Int)∧(0:Int)≤(18:Int)
def Ze9(l:List RawFace)(g:List Glass)(most:Int):=List.map Face.enc (ZiS l g most)
def ZsT:=[(99:UInt8),(114:UInt8),(111:UInt8),(119:UInt8),(110:UInt8)]
def ZcU(back:Int):=hdec (1:Nat) (IntKind.i64.wrap ((200:Int)+pick back (600:Int))) (1:Int)
def ZsU(back:Int)(l:List RawFace)(g:List Glass)(most:Int)(Q:PV→Prop):Prop:=ZmH∧(ZmH∧(ZmH∧(((0:Nat) < (1:Nat)∧((Ze9 l g most).length+(1:Nat))* (120:Nat)≤(140737488355328:Nat)∧Lens (14:Nat) (List.map Face.enc (ZiS l g most)++[[vB false,vI 40,vI 0,vI 8,vI 0,vI 3,vI 0,vI 0,vI 0,vI 0,vI 0,vI 0,vI 0,PV.str ZsT]]))∧Q (PV.agg [PV.str ([(120:UInt8)]++digits (pick back (100:Int))),vI (ZcU back).c,vI (ZcU back).scale,PV.lst (List.map Face.enc (ZiS l g most)++[[vB false,vI 40,vI 0,vI 8,vI 0,vI 3,vI 0,vI 0,vI 0,vI 0,vI 0,vI 0,vI 0,PV.str (ZsT)]])]))))
def ZsV(back:Int):=LensM.mk ([(120:UInt8)]++digits (pick back (100:Int))) (ZcU back) (Zd Face.dec [])
def q25_45:=LensM.mk [] (Dec.mk (0:Int) (0:Int)) (Zd Face.dec [])
set_option maxHeartbeats 4000000 in
theorem Z6n:Zi Tryz.prog 51 e51:=Zj<|Zg fun back=>Zg fun l=>Zg fun g=>Zg fun most=>EZ1 fun hp0=>by
 refine cfL Zkp ZsS rfl ?_
 refine sxT (fun Q=>(((0:Int) < (100:Int)∧(100:Int)≤(4611686018427387904:Int))∧(((-1000000000000000000:Int)≤pick back (100:Int)∧pick back (100:Int)≤(1000000000000000000:Int))∧(((1:Nat)+(digits (pick back (100:Int))).length≤(9223372036854775807:Nat))∧(((0:Int) < (600:Int)∧(600:Int)≤(4611686018427387904:Int))∧(((0:Int)≤(1:Int)∧(1:Int)≤(18:Int))∧((List.map Glass.enc g=List.map Glass.enc (Zd Glass.dec (List.map Glass.enc g)))∧((List.map RawFace.enc l=List.map RawFace.enc (ZmG l))∧(([PV.str ([(120:UInt8)]++digits (pick back (100:Int))),vI (ZcU back).c,vI (ZcU back).scale,PV.lst []]=(ZsV back).enc)∧(([PV.str [],vI 0,vI 0,PV.lst []]=q25_45.enc)∧((JJ (0:Int) (Zd Glass.dec (List.map Glass.enc g)) (ZmG l) most (ZsV back) q25_45)∧(bif ↑(Ze9 l g most).length==(0:Int) then (ZsU back l g most Q) else ((List.map Face.enc (ZiS l g most)=List.map Face.enc (Zd Face.dec (Ze9 l g most)))∧(((Zd Face.dec (Ze9 l g most)).length≤(140737488355328:Nat))∧(bif !X4 (Zd Face.dec (Ze9 l g most)) then (ZsU back l g most Q) else Q (PV.agg [PV.str ([(120:UInt8)]++digits (pick back (100:Int))),vI (ZcU back).c,vI (ZcU back).scale,PV.lst (Ze9 l g most)])))))))))))))))) (fun _=>by kernel_rfl) ?_
 delta Qn ZiS ZsU ZcU ZmH ZsT ZsV q25_45 ZmG Ze9 vI vB
 refine ⟨?r18,⟨?r17,⟨?r16,⟨?r15,⟨?r14,⟨?r13,⟨?r12,⟨?r11,⟨?r10,⟨?_,Zb (fun h0=>⟨?r3,⟨?r2,⟨?r1,⟨?r0, ?_⟩⟩⟩⟩) (fun h0=>⟨?r9,⟨?r8,Zb (fun h1=>⟨?r7,⟨?r6,⟨?r5,⟨?r4, ?_⟩⟩⟩⟩) (fun h1=>?_)⟩⟩)⟩⟩⟩⟩⟩⟩⟩⟩⟩⟩
 case r0|r1|r2|r3|r4|r5|r6|r7|r8|r9|r10|r11|r12|r13|r14|r15|r16|r17|r18=>first | rfl | omega | (rw[Yv];done) | (rw[Xi];done) | (have hb:=Zdt g most l 0 [];have hd:=ZS (pick back 100);have hp:=XB (n:=back) (m:=100) (by omega);simp only[Yv,Wi,Xi,QG_,show Zd Face.dec []=[] from rfl,Qk_,Q1_] at *;first | done | rfl | omega | exact ⟨by decide,by omega,Wa (XZ (e:=Face.enc) (fun _=>rfl) _) rfl⟩)
 all_goals simp only[Yv,Wi,Xi,QG_,QO_,show Zd Face.dec []=[] from rfl,Qk_] at *
 ·exact ⟨by omega,by omega,hp0.1,hp0.2.1,hp0.2.2,by simp⟩
 all_goals have e0:((Wd g most l 0 []).length==0)=_:=Eq.trans (by cases hL:Wd g most l 0 []<;>simp only[Qs_,Q1_]<;>(rfl)) h0
 all_goals simp only[XG,Zih,e0,Q4_,Qw_,Qb_,Qd_]
 ·simp only[LensM.enc,QR_,QE_,QN_];rfl
 ·simp only[Qi_] at h1
  simp only[h1,Qt_,Qb_,LensM.enc,QR_,QE_,QN_];rfl
 ·simp only[Qf_] at h1
  simp only[h1,Qu_,Qd_];rfl
def ZbM(l:List RawFace):=Zd RawFace.dec (List.map RawFace.enc l)
def ZiT(raw:List I):=Zd I.dec (List.map I.enc raw)
def WU(raw:List I):=Zd Glass.dec (List.map Glass.enc (Xm (ZiT raw)))
def ZcV(back:Int)(l:List RawFace)(raw:List I)(most:Int):=LensM.mk (XG back (ZbM l) (WU raw) most).name (XG back (ZbM l) (WU raw) most).back (Zd Face.dec (List.map Face.enc (XG back (ZbM l) (WU raw) most).faces))
def ZsW(back:Int)(l:List RawFace)(raw:List I)(most:Int):=LensM.mk (ZfQ (ZcV back l raw most)).name (ZfQ (ZcV back l raw most)).back (Zd Face.dec (List.map Face.enc (ZfQ (ZcV back l raw most)).faces))
def ZiU(back:Int)(l:List RawFace)(raw:List I)(most:Int):=JB (ZsW back l raw most) (WU raw) (ZlZ (pick back (3:Int)))
def ZmI(raw:List I):=List.map Glass.enc (Xm (ZiT raw))=List.map Glass.enc (WU raw)
def ZiV(back:Int)(l:List RawFace)(raw:List I)(most:Int):=JB (ZcV back l raw most) (WU raw) (ZlZ (pick back (3:Int)))
def ZsX:=(0:Int) < (3:Int)∧(3:Int)≤(4611686018427387904:Int)
theorem Z6o:Zi Tryz.prog 22 e22:=Zj<|Zg fun back=>Zg fun l=>Zg fun raw=>Zg fun most=>Zg fun plain=>EZ1 fun hp0=>by
 refine cf0 (Za Z6l<|Za Z6n<|Za Z6k<|Za ZnS<|Za Z6f<|Za Z6j<|Ze) (fn:=Tryz.f22) rfl ?_
 refine sxT (fun Q=>((List.map I.enc raw=List.map I.enc (ZiT raw))∧(((ZiT raw).length≤(140737488355328:Nat))∧((List.map RawFace.enc l=List.map RawFace.enc (ZbM l))∧((ZmI raw)∧(((ZbM l).length≤(140737488355328:Nat)∧(WU raw).length≤(1000:Nat)∧most≤(1000:Int))∧(bif plain then (((Zy (XG back (ZbM l) (WU raw) most))=(ZcV back l raw most).enc)∧(((Zd Face.dec (List.map Face.enc (XG back (ZbM l) (WU raw) most).faces)).length≤(1000:Nat))∧(ZsX∧(((Zy (ZfQ (ZcV back l raw most)))=(ZsW back l raw most).enc)∧((ZmI raw)∧(((WU raw).length≤(140737488355328:Nat))∧Q (PV.agg [PV.lst (List.map Surf.enc (ZiU back l raw most).fst.surfs),vI (ZiU back l raw most).fst.op.lo,vI (ZiU back l raw most).fst.op.hi,vB (ZiU back l raw most).fst.op.no]))))))) else (ZsX∧(((Zy (XG back (ZbM l) (WU raw) most))=(ZcV back l raw most).enc)∧((ZmI raw)∧(((WU raw).length≤(140737488355328:Nat))∧Q (PV.agg [PV.lst (List.map Surf.enc (ZiV back l raw most).fst.surfs),vI (ZiV back l raw most).fst.op.lo,vI (ZiV back l raw most).fst.op.hi,vB (ZiV back l raw most).fst.op.no])))))))))))) (fun _=>by kernel_rfl) ?_
 delta Qn ZcV WU ZiU ZbM ZmI ZiV ZsW ZsX ZiT Zy vI vB
 refine ⟨?r14,⟨?r13,⟨?r12,⟨?r11,⟨?r10,Zb (fun h0=>⟨?r5,⟨?r4,⟨?r3,⟨?r2,⟨?r1,⟨?r0, ?_⟩⟩⟩⟩⟩⟩) (fun h0=>⟨?r9,⟨?r8,⟨?r7,⟨?r6, ?_⟩⟩⟩⟩)⟩⟩⟩⟩⟩
 case r0|r1|r2|r3|r4|r5|r6|r7|r8|r9|r10|r11|r12|r13|r14=>first | rfl | omega | (have hg:=Zme raw;have hl:=Zr2 back l (Xm raw) most hp0.2.2.1;simp only[Yv,Wi,Xi,dI,Z3,LensM.enc,SysM.enc] at *;first | done | rfl | omega)
 all_goals simp only[Yv,Wi,Xi,dI,Z3] at *
 ·subst h0;rfl
 ·subst h0;rfl
open Go
theorem ZsY:CSOk Tryz.prog (YC [(66,e66),(67,e67)]):=Za Z5X<|Za Z6c<|Ze
set_option maxRecDepth 100000 in
set_option maxHeartbeats 1000000 in
def Jj:=(0:Int)≤(0:Int)∧(0:Int) < (3:Int)
def Zc2(s:SysM):=SysM.mk (Zd Surf.dec (List.map Surf.enc s.surfs)) s.op
def ZxC(p:Pixel)(Q:PV→List PV→Prop):Prop:=Jj∧(Jj∧(Jj∧(Jj∧(Jj∧(Jj∧(Jj∧(Jj∧Q (.tup []) [.v (.int IntKind.i64 (IntKind.i64.wrap (p.lo.a+(0:Int)))),.v (.int IntKind.i64 (p.lo.b)),.v (.int IntKind.i64 (p.lo.c)),.v (.int IntKind.i64 (IntKind.i64.wrap (p.hi.a+(255:Int)))),.v (.int IntKind.i64 (p.hi.b)),.v (.int IntKind.i64 (p.hi.c)),.v (.int IntKind.i64 (IntKind.i64.wrap (p.lost+(1:Int))))])))))))
def ZjL(l:List Shape):=Zd Shape.dec (List.map Shape.enc l)
def ZxD(s:SysM):=[PV.lst (List.map Surf.enc s.surfs),vI s.op.lo,vI s.op.hi,vB s.op.no]
theorem Z3N(p:Pixel)(s:SysM)(l:List Shape)(x:Iv)(y:Iv)(z:Cx)(n:Int)(Q:PV→List PV→Prop):Zri evEnv (YC [(66,e66),(67,e67)]) ZdW ZdX noG [] 2000 Tryz.f36 (Pixel.enc p) [.agg (SysM.enc s),.lst (l.map Shape.enc),.agg (Iv.enc x),.agg (Iv.enc y),.v (.complex .f64 z.re z.im),.v (.int .i64 n),.v (.int .i64 0)] Q=(((ZxD s)=(Zc2 s).enc)∧(bif (Wb (Zc2 s) x y z n).snd then (((ZxD s)=(Zc2 s).enc)∧((List.map Shape.enc l=List.map Shape.enc (ZjL l))∧(((Zd Surf.dec (List.map Surf.enc s.surfs)).length≤(1000000:Nat)∧(ZjL l).length≤(1000000:Nat))∧(bif (Xl (Zc2 s) (ZjL l) (Wb (Zc2 s) x y z n).fst).snd.snd then (ZxC p Q) else (Jj∧(Jj∧(Jj∧(Jj∧(Jj∧(Jj∧Q (.tup []) [.v (.int IntKind.i64 (IntKind.i64.wrap (p.lo.a+(Xl (Zc2 s) (ZjL l) (Wb (Zc2 s) x y z n).fst).fst.a))),.v (.int IntKind.i64 (p.lo.b)),.v (.int IntKind.i64 (p.lo.c)),.v (.int IntKind.i64 (IntKind.i64.wrap (p.hi.a+(Xl (Zc2 s) (ZjL l) (Wb (Zc2 s) x y z n).fst).snd.fst.a))),.v (.int IntKind.i64 (p.hi.b)),.v (.int IntKind.i64 (p.hi.c)),.v (.int IntKind.i64 (p.lost))])))))))))) else (ZxC p Q))):=by kernel_rfl
theorem Z1X(p:Pixel)(s:SysM)(l:List Shape)(x:Iv)(y:Iv)(z:Cx)(n:Int)(hp0:s.surfs.length≤1000000∧l.length≤1000000):ZdJ Tryz.prog 36 (Pixel.enc p) [.agg (SysM.enc s),.lst (l.map Shape.enc),.agg (Iv.enc x),.agg (Iv.enc y),.v (.complex .f64 z.re z.im),.v (.int .i64 n),.v (.int .i64 0)] (.tup []) (Pixel.enc (Wc p (Y5 s l x y z n 0) 0)):=by
 obtain ⟨r,cs',⟨rfl,rfl⟩,h⟩:=Zn8 (f:=36) (Q:=fun r cs'=>r= .tup []∧cs'=Pixel.enc (Wc p (Y5 s l x y z n 0) 0)) Zl ZsY ZA Z7 ZJ (n:=2000) (LS:=[]) (fn:=Tryz.f36) (cs:=Pixel.enc p) (args:=[.agg (SysM.enc s),.lst (l.map Shape.enc),.agg (Iv.enc x),.agg (Iv.enc y),.v (.complex .f64 z.re z.im),.v (.int .i64 n),.v (.int .i64 0)]) rfl Zao (by
  rw[Z3N]
  delta Jj Zc2 ZxC ZjL ZxD vI vB
  refine ⟨by rw[Z3];rfl,Zb (fun h0=>⟨by rw[Z3];rfl,by rw[Zs],by rw[Z3,Zs];exact hp0,Zb (fun h1=>?_) (fun h1=>?_)⟩) (fun h0=>?_)⟩
  all_goals (try rw[Z3] at h0)
  all_goals (try rw[Z3,Zs] at h1)
  all_goals have hI:(0:Int)≤(0:Int)∧(0:Int) < (3:Int):=⟨by decide,by decide⟩
  all_goals (first | refine ⟨hI,hI,hI,hI,hI,hI,hI,hI,rfl, ?_⟩ | refine ⟨hI,hI,hI,hI,hI,hI,rfl, ?_⟩ | refine ⟨hI,hI,hI,hI,hI,hI,hI,hI,hI,hI,rfl, ?_⟩ | refine ⟨hI,hI,hI,hI,rfl, ?_⟩)
  all_goals (try rw[show (⟨s.surfs,s.op⟩:SysM)=s from rfl] at h0)
  all_goals (try rw[show (⟨s.surfs,s.op⟩:SysM)=s from rfl] at h1)
  all_goals (try rw[Z3])
  all_goals (try rw[Zs])
  ·simp only[Y5,ZaE,h0,h1,Qb_];rfl
  ·simp only[Y5,ZaE,h0,h1,Qb_,Qd_];rfl
  ·simp only[Y5,h0,Qd_];rfl)
 exact h
set_option maxRecDepth 100000 in
set_option maxHeartbeats 1000000 in
def Jk:=(0:Int)≤(1:Int)∧(1:Int) < (3:Int)
def Zc3(s:SysM):=SysM.mk (Zd Surf.dec (List.map Surf.enc s.surfs)) s.op
def ZxE(p:Pixel)(Q:PV→List PV→Prop):Prop:=Jk∧(Jk∧(Jk∧(Jk∧(Jk∧(Jk∧(Jk∧(Jk∧Q (.tup []) [.v (.int IntKind.i64 (p.lo.a)),.v (.int IntKind.i64 (IntKind.i64.wrap (p.lo.b+(0:Int)))),.v (.int IntKind.i64 (p.lo.c)),.v (.int IntKind.i64 (p.hi.a)),.v (.int IntKind.i64 (IntKind.i64.wrap (p.hi.b+(255:Int)))),.v (.int IntKind.i64 (p.hi.c)),.v (.int IntKind.i64 (IntKind.i64.wrap (p.lost+(1:Int))))])))))))
def ZjM(l:List Shape):=Zd Shape.dec (List.map Shape.enc l)
def ZsZ(s:SysM):=[PV.lst (List.map Surf.enc s.surfs),vI s.op.lo,vI s.op.hi,vB s.op.no]
theorem Z3O(p:Pixel)(s:SysM)(l:List Shape)(x:Iv)(y:Iv)(z:Cx)(n:Int)(Q:PV→List PV→Prop):Zri evEnv (YC [(66,e66),(67,e67)]) ZdW ZdX noG [] 2000 Tryz.f36 (Pixel.enc p) [.agg (SysM.enc s),.lst (l.map Shape.enc),.agg (Iv.enc x),.agg (Iv.enc y),.v (.complex .f64 z.re z.im),.v (.int .i64 n),.v (.int .i64 1)] Q=(((ZsZ s)=(Zc3 s).enc)∧(bif (Wb (Zc3 s) x y z n).snd then (((ZsZ s)=(Zc3 s).enc)∧((List.map Shape.enc l=List.map Shape.enc (ZjM l))∧(((Zd Surf.dec (List.map Surf.enc s.surfs)).length≤(1000000:Nat)∧(ZjM l).length≤(1000000:Nat))∧(bif (Xl (Zc3 s) (ZjM l) (Wb (Zc3 s) x y z n).fst).snd.snd then (ZxE p Q) else (Jk∧(Jk∧(Jk∧(Jk∧(Jk∧(Jk∧Q (.tup []) [.v (.int IntKind.i64 (p.lo.a)),.v (.int IntKind.i64 (IntKind.i64.wrap (p.lo.b+(Xl (Zc3 s) (ZjM l) (Wb (Zc3 s) x y z n).fst).fst.b))),.v (.int IntKind.i64 (p.lo.c)),.v (.int IntKind.i64 (p.hi.a)),.v (.int IntKind.i64 (IntKind.i64.wrap (p.hi.b+(Xl (Zc3 s) (ZjM l) (Wb (Zc3 s) x y z n).fst).snd.fst.b))),.v (.int IntKind.i64 (p.hi.c)),.v (.int IntKind.i64 (p.lost))])))))))))) else (ZxE p Q))):=by kernel_rfl
theorem Z1Y(p:Pixel)(s:SysM)(l:List Shape)(x:Iv)(y:Iv)(z:Cx)(n:Int)(hp0:s.surfs.length≤1000000∧l.length≤1000000):ZdJ Tryz.prog 36 (Pixel.enc p) [.agg (SysM.enc s),.lst (l.map Shape.enc),.agg (Iv.enc x),.agg (Iv.enc y),.v (.complex .f64 z.re z.im),.v (.int .i64 n),.v (.int .i64 1)] (.tup []) (Pixel.enc (Wc p (Y5 s l x y z n 1) 1)):=by
 obtain ⟨r,cs',⟨rfl,rfl⟩,h⟩:=Zn8 (f:=36) (Q:=fun r cs'=>r= .tup []∧cs'=Pixel.enc (Wc p (Y5 s l x y z n 1) 1)) Zl ZsY ZA Z7 ZJ (n:=2000) (LS:=[]) (fn:=Tryz.f36) (cs:=Pixel.enc p) (args:=[.agg (SysM.enc s),.lst (l.map Shape.enc),.agg (Iv.enc x),.agg (Iv.enc y),.v (.complex .f64 z.re z.im),.v (.int .i64 n),.v (.int .i64 1)]) rfl Zao (by
  rw[Z3O]
  delta Jk Zc3 ZxE ZjM ZsZ vI vB
  refine ⟨by rw[Z3];rfl,Zb (fun h0=>⟨by rw[Z3];rfl,by rw[Zs],by rw[Z3,Zs];exact hp0,Zb (fun h1=>?_) (fun h1=>?_)⟩) (fun h0=>?_)⟩
  all_goals (try rw[Z3] at h0)
  all_goals (try rw[Z3,Zs] at h1)
  all_goals have hI:(0:Int)≤(1:Int)∧(1:Int) < (3:Int):=⟨by decide,by decide⟩
  all_goals (first | refine ⟨hI,hI,hI,hI,hI,hI,hI,hI,rfl, ?_⟩ | refine ⟨hI,hI,hI,hI,hI,hI,rfl, ?_⟩ | refine ⟨hI,hI,hI,hI,hI,hI,hI,hI,hI,hI,rfl, ?_⟩ | refine ⟨hI,hI,hI,hI,rfl, ?_⟩)
  all_goals (try rw[show (⟨s.surfs,s.op⟩:SysM)=s from rfl] at h0)
  all_goals (try rw[show (⟨s.surfs,s.op⟩:SysM)=s from rfl] at h1)
  all_goals (try rw[Z3])
  all_goals (try rw[Zs])
  ·simp only[Y5,ZaE,h0,h1,Qb_];rfl
  ·simp only[Y5,ZaE,h0,h1,Qb_,Qd_];rfl
  ·simp only[Y5,h0,Qd_];rfl)
 exact h
set_option maxRecDepth 100000 in
set_option maxHeartbeats 1000000 in
def Wf:=(0:Int)≤(2:Int)∧(2:Int) < (3:Int)
def Zau(s:SysM):=SysM.mk (Zd Surf.dec (List.map Surf.enc s.surfs)) s.op
def Zta(p:Pixel)(Q:PV→List PV→Prop):Prop:=Wf∧(Wf∧(Wf∧(Wf∧(Wf∧(Wf∧(Wf∧(Wf∧Q (.tup []) [.v (.int IntKind.i64 (p.lo.a)),.v (.int IntKind.i64 (p.lo.b)),.v (.int IntKind.i64 (IntKind.i64.wrap (p.lo.c+(0:Int)))),.v (.int IntKind.i64 (p.hi.a)),.v (.int IntKind.i64 (p.hi.b)),.v (.int IntKind.i64 (IntKind.i64.wrap (p.hi.c+(255:Int)))),.v (.int IntKind.i64 (IntKind.i64.wrap (p.lost+(1:Int))))])))))))
def Zgb(l:List Shape):=Zd Shape.dec (List.map Shape.enc l)
def Ztb(s:SysM):=[PV.lst (List.map Surf.enc s.surfs),vI s.op.lo,vI s.op.hi,vB s.op.no]
theorem Z3P(p:Pixel)(s:SysM)(l:List Shape)(x:Iv)(y:Iv)(z:Cx)(n:Int)(Q:PV→List PV→Prop):Zri evEnv (YC [(66,e66),(67,e67)]) ZdW ZdX noG [] 2000 Tryz.f36 (Pixel.enc p) [.agg (SysM.enc s),.lst (l.map Shape.enc),.agg (Iv.enc x),.agg (Iv.enc y),.v (.complex .f64 z.re z.im),.v (.int .i64 n),.v (.int .i64 2)] Q=(((Ztb s)=(Zau s).enc)∧(bif (Wb (Zau s) x y z n).snd then (((Ztb s)=(Zau s).enc)∧((List.map Shape.enc l=List.map Shape.enc (Zgb l))∧(((Zd Surf.dec (List.map Surf.enc s.surfs)).length≤(1000000:Nat)∧(Zgb l).length≤(1000000:Nat))∧(bif (Xl (Zau s) (Zgb l) (Wb (Zau s) x y z n).fst).snd.snd then (Zta p Q) else (Wf∧(Wf∧(Wf∧(Wf∧(Wf∧(Wf∧Q (.tup []) [.v (.int IntKind.i64 (p.lo.a)),.v (.int IntKind.i64 (p.lo.b)),.v (.int IntKind.i64 (IntKind.i64.wrap (p.lo.c+(Xl (Zau s) (Zgb l) (Wb (Zau s) x y z n).fst).fst.c))),.v (.int IntKind.i64 (p.hi.a)),.v (.int IntKind.i64 (p.hi.b)),.v (.int IntKind.i64 (IntKind.i64.wrap (p.hi.c+(Xl (Zau s) (Zgb l) (Wb (Zau s) x y z n).fst).snd.fst.c))),.v (.int IntKind.i64 (p.lost))])))))))))) else (Zta p Q))):=by kernel_rfl
theorem Z1Z(p:Pixel)(s:SysM)(l:List Shape)(x:Iv)(y:Iv)(z:Cx)(n:Int)(hp0:s.surfs.length≤1000000∧l.length≤1000000):ZdJ Tryz.prog 36 (Pixel.enc p) [.agg (SysM.enc s),.lst (l.map Shape.enc),.agg (Iv.enc x),.agg (Iv.enc y),.v (.complex .f64 z.re z.im),.v (.int .i64 n),.v (.int .i64 2)] (.tup []) (Pixel.enc (Wc p (Y5 s l x y z n 2) 2)):=by
 obtain ⟨r,cs',⟨rfl,rfl⟩,h⟩:=Zn8 (f:=36) (Q:=fun r cs'=>r= .tup []∧cs'=Pixel.enc (Wc p (Y5 s l x y z n 2) 2)) Zl ZsY ZA Z7 ZJ (n:=2000) (LS:=[]) (fn:=Tryz.f36) (cs:=Pixel.enc p) (args:=[.agg (SysM.enc s),.lst (l.map Shape.enc),.agg (Iv.enc x),.agg (Iv.enc y),.v (.complex .f64 z.re z.im),.v (.int .i64 n),.v (.int .i64 2)]) rfl Zao (by
  rw[Z3P]
  delta Wf Zau Zta Zgb Ztb vI vB
  refine ⟨by rw[Z3];rfl,Zb (fun h0=>⟨by rw[Z3];rfl,by rw[Zs],by rw[Z3,Zs];exact hp0,Zb (fun h1=>?_) (fun h1=>?_)⟩) (fun h0=>?_)⟩
  all_goals (try rw[Z3] at h0)
  all_goals (try rw[Z3,Zs] at h1)
  all_goals have hI:(0:Int)≤(2:Int)∧(2:Int) < (3:Int):=⟨by decide,by decide⟩
  all_goals (first | refine ⟨hI,hI,hI,hI,hI,hI,hI,hI,rfl, ?_⟩ | refine ⟨hI,hI,hI,hI,hI,hI,rfl, ?_⟩ | refine ⟨hI,hI,hI,hI,hI,hI,hI,hI,hI,hI,rfl, ?_⟩ | refine ⟨hI,hI,hI,hI,rfl, ?_⟩)
  all_goals (try rw[show (⟨s.surfs,s.op⟩:SysM)=s from rfl] at h0)
  all_goals (try rw[show (⟨s.surfs,s.op⟩:SysM)=s from rfl] at h1)
  all_goals (try rw[Z3])
  all_goals (try rw[Zs])
  ·simp only[Y5,ZaE,h0,h1,Qb_];rfl
  ·simp only[Y5,ZaE,h0,h1,Qb_,Qd_];rfl
  ·simp only[Y5,h0,Qd_];rfl)
 exact h
end Go.Men
namespace Go.Men
open Go Go.Ev
def cpA(cs args:List PV):Option (PV×List PV×List Prop):=
 match cs,args with
 | [.v (.int .i64 p1),.v (.int .i64 p2),.v (.int .i64 p3),.v (.int .i64 p4),.v (.int .i64 p5),.v (.int .i64 p6),.v (.int .i64 p7)],
   [.agg q1,.lst q2,.agg [.v (.int .i64 x1),.v (.int .i64 x2),.v (.bool x3)],.agg [.v (.int .i64 y1),.v (.int .i64 y2),.v (.bool y3)],.v (.complex .f64 a b),.v (.int .i64 n),.v (.int .i64 c)]=>
   some (.tup [],Pixel.enc (Wc ⟨⟨p1,p2,p3⟩,⟨p4,p5,p6⟩,p7⟩ (Y5 (SysM.dec q1) (Zd Shape.dec q2) ⟨x1,x2,x3⟩ ⟨y1,y2,y3⟩ ⟨a,b⟩ n c.toNat) c.toNat),
    [q1=SysM.enc (SysM.dec q1),q2=(Zd Shape.dec q2).map Shape.enc,(SysM.dec q1).surfs.length≤1000000∧(Zd Shape.dec q2).length≤1000000,0≤c∧c < 3])
 | _,_=>none
def Z2P:Yn:=fun f cs args=>bif Nat.beq f 36 then cpA cs args else none
open Go.Proofs Go.Proofs.YtfeldacghdcghaaGreatDoor
theorem Zhk:CSPOk Tryz.prog Z2P:=by
 intro f cs args r cs' ps h hp
 unfold Z2P at h
 cases hf:Nat.beq f 36 with
 | false=>rw[hf] at h;exact absurd h (by simp)
 | true=>
   obtain rfl:=Qj_ hf
   rw[hf,Qb_] at h
   unfold cpA at h
   split at h
   ·rename_i p1 p2 p3 p4 p5 p6 p7 q1 q2 x1 x2 x3 y1 y2 y3 a b n c
    have h:=Qa_ h
    injection h with e1 h
    injection h with e2 e3
    subst e1;subst e2;subst e3
    have c1:=hp _ (Qv_ ..)
    have c2:=hp _ (Qq_ _ (Qv_ ..))
    have c3:=hp _ (Qq_ _ (Qq_ _ (Qv_ ..)))
    have c4:0≤c∧c < 3:=hp _ (Qq_ _ (Qq_ _ (Qq_ _ (Qv_ ..))))
    have key:ZdJ Tryz.prog 36 (Pixel.enc ⟨⟨p1,p2,p3⟩,⟨p4,p5,p6⟩,p7⟩) [.agg (SysM.enc (SysM.dec q1)),.lst ((Zd Shape.dec q2).map Shape.enc),.agg (Iv.enc ⟨x1,x2,x3⟩),.agg (Iv.enc ⟨y1,y2,y3⟩),.v (.complex .f64 a b),.v (.int .i64 n),.v (.int .i64 c)] (.tup [])
     (Pixel.enc (Wc ⟨⟨p1,p2,p3⟩,⟨p4,p5,p6⟩,p7⟩ (Y5 (SysM.dec q1) (Zd Shape.dec q2) ⟨x1,x2,x3⟩ ⟨y1,y2,y3⟩ ⟨a,b⟩ n c.toNat) c.toNat)):=by
     have:c=0∨c=1∨c=2:=by omega
     rcases this with rfl | rfl | rfl
     ·exact Z1X _ _ _ _ _ ⟨a,b⟩ n c3
     ·exact Z1Y _ _ _ _ _ ⟨a,b⟩ n c3
     ·exact Z1Z _ _ _ _ _ ⟨a,b⟩ n c3
    rw[←c1,←c2] at key
    exact key
   ·exact absurd h (by simp)
end Go.Men
namespace Go.Men
open Go.Ev Go.Proofs Go.Proofs.YtfeldacghdcghaaGreatDoor
theorem Z2Q:Zi Tryz.prog 27 e27:=Zj<|Zg fun z=>Zg fun n=>EZ0<|by
 refine cf0 (Za Z5W<|Ze) (fn:=Tryz.f27) rfl ?_
 refine sxT (fun Q=>Q (vB (!YO z n.n))) (fun _=>by kernel_rfl) ?_
 delta Qn vB
 refine ?_
 all_goals rfl
theorem ZxF:Zi Tryz.prog 30 e30:=Zj<|Zg fun s=>EZ0<|by
 refine cf0 Ze (fn:=Tryz.f30) rfl ?_
 refine sxT (fun Q=>Q (vB (↑(List.map Surf.enc s.surfs).length==(0:Int)))) (fun _=>by kernel_rfl) ?_
 delta Qn vB
 refine ?_
 all_goals (simp_all[nz,nzA,nz1,Iv.enc,V.enc,Ray.enc,Dec.enc,Shape.enc,none',told,K5_,Xq];done)
def Z58:=YC [(27,e27)]
theorem Zvd:CSOk Tryz.prog Z58:=Za Z2Q<|Ze
theorem Z0c:Yt Tryz.prog (Zt Tryz.f57 0) ZkU:=by
 refine Zch Zl.Γ (Z6 Zl Zvd ZA Z7 ZJ (LS:=[]) (ZV (l:=[]) (by kernel_rfl) Zu) (n:=2000) (U4 ZrH) (U4 Zew) (fun x e s=>((U4 JK x=true∧e= .ret∧s=U4 ZgX x)∨(U4 JK x=false∧e= .exit 0∧s=U4 ZkT x))) (fun x=>(x.2.2.2 - x.1).toNat) ZkS Zzt Zzu (fun x hx=>?_)) ZkS ?_
 ·obtain ⟨i,l,n,m⟩:=x
  simp only[U4,Zew] at hx
  refine sxT (fun Q=>(bif decide (i < m) then (((0:Int)≤i∧(List.map Cx.enc l)[i.toNat]?=some (ZW [PV.v (Value.complex FloatKind.f64 (0:Nat) (0:Nat))] ((List.map Cx.enc l).getD i.toNat [])))∧((n.enc=n.enc)∧(bif !YO (Cx.mk (Zk3 (((List.map Cx.enc l).getD i.toNat []).headD PV.nil)) (Zk4 (((List.map Cx.enc l).getD i.toNat []).headD PV.nil))) n.n then Q (Ex.ret) (some ⟨19,[(4,pI i)],[],[],[],[]⟩) else Q (Ex.normal) (some ⟨19,[(8,AV.p (vI (IntKind.i64.wrap (i+(1:Int))))),(0,AV.p (PV.lst (List.map Cx.enc l))),(1,AV.p (PV.fn (27:FuncId) [PV.lptr [vI n.n] 0])),(7,pI m)],[],[],[],[]⟩)))) else Q (Ex.exit (0:Nat)) (some ⟨19,[],[],[],[],[]⟩))) (fun _=>by kernel_rfl) ?_
  delta vI pI
  refine Zb (fun h0=>⟨?r1,⟨?r0,Zb (fun h1=> .inr ⟨by simp,_,rfl, ?_⟩) (fun h1=> .inl ⟨rfl,(IntKind.i64.wrap (i+(1:Int)),l,n,m),rfl, ?_, ?_, ?_⟩)⟩⟩) (fun h0=> .inr ⟨by simp,_,rfl, ?_⟩)
  case r0|r1=>first | rfl | (rw[dCx];done) | (rw[W4];done) | (simp only[dCx,W4];skip) | omega | (obtain ⟨a1,a2,a3,a4⟩:=hx;simp only[Qc_] at h0;exact ZH (fun _=>rfl) (by omega) (by omega))
  all_goals try dsimp only[U4]
  all_goals (try obtain ⟨a1,a2,a3,a4⟩:=hx)
  all_goals (try simp only[Qc_,Qe_] at h0)
  ·obtain ⟨x,r,e1,e2,e3⟩:=Yu (l:=l) a1 (by omega)
   rw[Yz e3] at h1
   refine .inl ⟨?_,rfl, ?_⟩
   ·simp only[U4,JK,e1,QU_]
    rw[show (!YO x n.n)=true from h1];rfl
   ·simp only[U4,ZgX,e1,YM]
    rw[show (!YO x n.n)=true from h1];rfl
  ·rw[Zf (by constructor<;>omega)];simp only[U4,Zew];omega
  ·show (m - IntKind.i64.wrap (i+1)).toNat < (m - i).toNat
   rw[Zf (by constructor<;>omega)];omega
  ·obtain ⟨x,r,e1,e2,e3⟩:=Yu (l:=l) a1 (by omega)
   rw[Yz e3] at h1
   have hp:(!YO x n.n)=false:=h1
   rw[Zf (by constructor<;>omega)]
   simp only[U4,JK,ZgX,ZkT,e1,e2,QU_,hp,Qw_,YM,Qd_]
   exact fun e s h=>h
  ·refine .inr ⟨?_,rfl,rfl⟩
   simp only[U4,JK]
   rw[Q0_ (by omega)];rfl
 ·intro σ K hS
  unfold ZkU at hS
  split at hS
  ·rename_i p1 p2 p3 p4 hk
   obtain ⟨hi,hK⟩:=XW hS
   refine ⟨(p1,(Zd Cx.dec p2),(I.dec p3),p4),by
    simp only[ZrH]
    rw[←(show p2=(Zd Cx.dec p2).map Cx.enc from hi _ (by simp))]
    rw[←(show p3=I.enc (I.dec p3) from hi _ (by simp))]
    exact hk,hi _ (by simp),fun e s hf=>?_⟩
   dsimp only[U4] at hf
   rcases hf with ⟨hc,rfl,rfl⟩ | ⟨hc,hf⟩
   ·rw[hc] at hK;exact hK
   ·rw[hc] at hK;obtain ⟨rfl,rfl⟩:=hf;exact hK
  ·exact hS.elim
theorem Z2a:ZF Tryz.prog [(3,ZkU)] Tryz.f57:=ZN (l:=[Zt Tryz.f57 0]) (by kernel_rfl) (ZE (i:=3) (by kernel_rfl) rfl Z0c (Zu))
def ZmJ(l:List Cx):=Zd Cx.dec (List.map Cx.enc l)
theorem Z2b(l:List Cx)(n:I)(hp0:l.length≤140737488355328):Con Tryz.prog 57 [.lst (l.map Cx.enc),.fn 27 [.lptr (I.enc n) 0]] (.v (.int .i64 (YM (fun z=> !YO z n.n) l 0))):=by
 refine cfL Zvd Z2a rfl ?_
 refine sxT (fun Q=>((List.map Cx.enc l=List.map Cx.enc (ZmJ l))∧((n.enc=n.enc)∧((Zew (0:Int) (ZmJ l) n ↑(List.map Cx.enc l).length)∧(bif JK (0:Int) (ZmJ l) n ↑(List.map Cx.enc l).length then Q (vI (YM (fun z=> !YO z (I.dec n.enc).n) (List.drop (0:Nat) (ZmJ l)) (0:Int))) else Q (vI (-1))))))) (fun _=>by kernel_rfl) ?_
 delta Qn ZmJ vI
 refine ⟨?r1,⟨?r0,⟨?_,Zb (fun h0=>?_) (fun h0=>?_)⟩⟩⟩
 case r0|r1=>first | rfl | (rw[dCx];done)
 all_goals simp only[dCx,Z45] at *
 ·exact ⟨by omega,by omega,by simp,by simp;omega⟩
 ·simp[nz,nzA]
 ·rw[ZfO (by simpa [JK] using h0)];rfl
theorem Z6p:Zi Tryz.prog 57 e57:=by
 intro args r ps h hp
 unfold e57 at h
 split at h
 ·rename_i p1 p2
  cases (Qa_ h)
  exact by
   have hq:=Z2b (Zd Cx.dec p1) (I.dec p2) (hp _ (by simp))
   rw[←(show p1=(Zd Cx.dec p1).map Cx.enc from hp _ (by simp))] at hq
   rw[←(show p2=I.enc (I.dec p2) from hp _ (by simp))] at hq
   exact hq
 ·exact absurd h (by simp)
theorem Z2c(l:List Cx)(n:I)(hp0:l.length≤140737488355328):Con Tryz.prog 26 [.lst (l.map Cx.enc),.fn 27 [.lptr (I.enc n) 0]] (.v (.bool (l.any (fun z=> !YO z n.n)))):=by
 refine cf0 (Za Z6p<|Za Z2Q<|Ze) (fn:=Tryz.f26) rfl ?_
 refine sxT (fun Q=>((List.map Cx.enc l=List.map Cx.enc (Zd Cx.dec (List.map Cx.enc l)))∧((n.enc=n.enc)∧(((Zd Cx.dec (List.map Cx.enc l)).length≤(140737488355328:Nat))∧Q (vB (decide (YM (fun z=> !YO z (I.dec n.enc).n) (Zd Cx.dec (List.map Cx.enc l)) (0:Int)≥(0:Int)))))))) (fun _=>by kernel_rfl) ?_
 delta Qn vB
 refine ⟨?r2,⟨?r1,⟨?r0, ?_⟩⟩⟩
 case r0|r1|r2=>first | rfl | (rw[dCx];done) | (rw[W4];done) | (simp only[dCx,W4];first | done | omega)
 simp only[dCx,Z45] at *
 simp only[nz,nzA]
 rw[ZfP (by omega)]
theorem Z6q:Zi Tryz.prog 26 e26:=by
 intro args r ps h hp
 unfold e26 at h
 split at h
 ·rename_i p1 p2
  cases (Qa_ h)
  exact by
   have hq:=Z2c (Zd Cx.dec p1) (I.dec p2) (hp _ (by simp))
   rw[←(show p1=(Zd Cx.dec p1).map Cx.enc from hp _ (by simp))] at hq
   rw[←(show p2=I.enc (I.dec p2) from hp _ (by simp))] at hq
   exact hq
 ·exact absurd h (by simp)
def Z59:=YC [(30,e30)]
def Zfn(i:Int)(l:List SysM):=(List.map SysM.enc l).getD i.toNat []
def ZxG(i:Int)(l:List SysM):=SysM.mk (Zd Surf.dec (Za0 ((Zfn i l).headD PV.nil))) (Iv.dec (Zfn i l).tail)
theorem Zve:CSOk Tryz.prog Z59:=Za ZxF<|Ze
theorem Z0d:Yt Tryz.prog (Zt Tryz.f58 0) ZkX:=by
 refine Zch Zl.Γ (Z6 Zl Zve ZA Z7 ZJ (LS:=[]) (ZV (l:=[]) (by kernel_rfl) Zu) (n:=2000) (U3 ZrI) (U3 Zey) (fun x e s=>((U3 JL x=true∧e= .ret∧s=U3 ZgY x)∨(U3 JL x=false∧e= .exit 0∧s=U3 ZkW x))) (fun x=>(x.2.2 - x.1).toNat) ZkV Zzv Zzw (fun x hx=>?_)) ZkV ?_
 ·obtain ⟨i,l,n⟩:=x
  simp only[U3,Zey] at hx
  refine sxT (fun Q=>(bif decide (i < n) then (((0:Int)≤i∧(List.map SysM.enc l)[i.toNat]?=some (ZW [PV.nil,vI 0,vI 0,vB false] (Zfn i l)))∧(([PV.lst (Za0 ((Zfn i l).headD PV.nil)),vI (intOf ((Zfn i l).tail.headD PV.nil)),vI (intOf ((Zfn i l).tail.tail.headD PV.nil)),vB (Zr ((Zfn i l).tail.tail.tail.headD PV.nil))]=(ZxG i l).enc)∧(bif Xq (ZxG i l) then Q (Ex.ret) (some ⟨19,[(4,pI i)],[],[],[],[]⟩) else Q (Ex.normal) (some ⟨19,[(8,AV.p (vI (IntKind.i64.wrap (i+(1:Int))))),(0,AV.p (PV.lst (List.map SysM.enc l))),(1,AV.p (PV.fn (30:FuncId) [])),(7,pI n)],[],[],[],[]⟩)))) else Q (Ex.exit (0:Nat)) (some ⟨19,[],[],[],[],[]⟩))) (fun _=>by kernel_rfl) ?_
  delta Zfn ZxG vI vB pI
  refine Zb (fun h0=>⟨?r1,⟨?r0,Zb (fun h1=> .inr ⟨by simp,_,rfl, ?_⟩) (fun h1=> .inl ⟨rfl,(IntKind.i64.wrap (i+(1:Int)),l,n),rfl, ?_, ?_, ?_⟩)⟩⟩) (fun h0=> .inr ⟨by simp,_,rfl, ?_⟩)
  case r0|r1=>first | rfl | (rw[dCx];done) | (rw[W4];done) | (simp only[dCx,W4];skip) | omega | (obtain ⟨a1,a2,a3,a4⟩:=hx;simp only[Qc_] at h0;exact ZH (fun _=>rfl) (by omega) (by omega)) | (obtain ⟨a1,a2,a3,a4⟩:=hx;simp only[Qc_] at h0;obtain ⟨x,r,e1,e2,e3⟩:=Yu (l:=l) a1 (by omega);rw[Yz e3];exact Kk_ SysM.enc (ZjA x).symm)
  all_goals try dsimp only[U3]
  all_goals (try obtain ⟨a1,a2,a3,a4⟩:=hx)
  all_goals (try simp only[Qc_,Qe_] at h0)
  ·obtain ⟨x,r,e1,e2,e3⟩:=Yu (l:=l) a1 (by omega)
   rw[Yz e3] at h1
   have hq:(⟨Zd Surf.dec (Za0 (x.enc.headD PV.nil)),Iv.dec x.enc.tail⟩:SysM)=x:=ZjA x
   rw[hq] at h1
   refine .inl ⟨?_,rfl, ?_⟩
   ·simp only[U3,JL,e1,QU_]
    rw[show Xq x=true from h1];rfl
   ·simp only[U3,ZgY,e1,YM]
    rw[show Xq x=true from h1];rfl
  ·rw[Zf (by constructor<;>omega)];simp only[U3,Zey];omega
  ·show (n - IntKind.i64.wrap (i+1)).toNat < (n - i).toNat
   rw[Zf (by constructor<;>omega)];omega
  ·obtain ⟨x,r,e1,e2,e3⟩:=Yu (l:=l) a1 (by omega)
   rw[Yz e3] at h1
   have hq:(⟨Zd Surf.dec (Za0 (x.enc.headD PV.nil)),Iv.dec x.enc.tail⟩:SysM)=x:=ZjA x
   rw[hq] at h1
   have hp:Xq x=false:=h1
   rw[Zf (by constructor<;>omega)]
   simp only[U3,JL,ZgY,ZkW,e1,e2,QU_,hp,Qw_,YM,Qd_]
   exact fun e s h=>h
  ·refine .inr ⟨?_,rfl,rfl⟩
   simp only[U3,JL]
   rw[Q0_ (by omega)];rfl
 ·intro σ K hS
  unfold ZkX at hS
  split at hS
  ·rename_i p1 p2 p3 hk
   obtain ⟨hi,hK⟩:=XW hS
   refine ⟨(p1,(Zd SysM.dec p2),p3),by
    simp only[ZrI]
    rw[←(show p2=(Zd SysM.dec p2).map SysM.enc from hi _ (by simp))]
    exact hk,hi _ (by simp),fun e s hf=>?_⟩
   dsimp only[U3] at hf
   rcases hf with ⟨hc,rfl,rfl⟩ | ⟨hc,hf⟩
   ·rw[hc] at hK;exact hK
   ·rw[hc] at hK;obtain ⟨rfl,rfl⟩:=hf;exact hK
  ·exact hS.elim
theorem Z2d:ZF Tryz.prog [(3,ZkX)] Tryz.f58:=ZN (l:=[Zt Tryz.f58 0]) (by kernel_rfl) (ZE (i:=3) (by kernel_rfl) rfl Z0d (Zu))
def ZmK(l:List SysM):=Zd SysM.dec (List.map SysM.enc l)
theorem Z2e(l:List SysM)(hp0:l.length≤140737488355328):Con Tryz.prog 58 [.lst (l.map SysM.enc),.fn 30 []] (.v (.int .i64 (YM Xq l 0))):=by
 refine cfL Zve Z2d rfl ?_
 refine sxT (fun Q=>((List.map SysM.enc l=List.map SysM.enc (ZmK l))∧((Zey (0:Int) (ZmK l) ↑(List.map SysM.enc l).length)∧(bif JL (0:Int) (ZmK l) ↑(List.map SysM.enc l).length then Q (vI (YM Xq (List.drop (0:Nat) (ZmK l)) (0:Int))) else Q (vI (-1)))))) (fun _=>by kernel_rfl) ?_
 delta Qn ZmK vI
 refine ⟨?r0,⟨?_,Zb (fun h0=>?_) (fun h0=>?_)⟩⟩
 case r0=>first | rfl | (rw[dCx];done) | (rw[W4];done)
 all_goals simp only[W4] at *
 ·exact ⟨by omega,by omega,by simp,by simp;omega⟩
 ·simp[nz,nzA]
 ·rw[ZfO (by simpa [JL] using h0)];rfl
theorem Z6r:Zi Tryz.prog 58 e58:=by
 intro args r ps h hp
 unfold e58 at h
 split at h
 ·rename_i p1
  cases (Qa_ h)
  exact by
   have hq:=Z2e (Zd SysM.dec p1) (hp _ (by simp))
   rw[←(show p1=(Zd SysM.dec p1).map SysM.enc from hp _ (by simp))] at hq
   exact hq
 ·exact absurd h (by simp)
theorem Z2f(l:List SysM)(hp0:l.length≤140737488355328):Con Tryz.prog 29 [.lst (l.map SysM.enc),.fn 30 []] (.v (.bool (l.any Xq))):=by
 refine cf0 (Za Z6r<|Za ZxF<|Ze) (fn:=Tryz.f29) rfl ?_
 refine sxT (fun Q=>((List.map SysM.enc l=List.map SysM.enc (Zd SysM.dec (List.map SysM.enc l)))∧(((Zd SysM.dec (List.map SysM.enc l)).length≤(140737488355328:Nat))∧Q (vB (decide (YM Xq (Zd SysM.dec (List.map SysM.enc l)) (0:Int)≥(0:Int))))))) (fun _=>by kernel_rfl) ?_
 delta Qn vB
 refine ⟨?r1,⟨?r0, ?_⟩⟩
 case r0|r1=>first | rfl | (rw[dCx];done) | (rw[W4];done) | (simp only[dCx,W4];first | done | omega)
 simp only[W4] at *
 simp only[nz,nzA]
 rw[ZfP (by omega)]
theorem Z6s:Zi Tryz.prog 29 e29:=by
 intro args r ps h hp
 unfold e29 at h
 split at h
 ·rename_i p1
  cases (Qa_ h)
  exact by
   have hq:=Z2f (Zd SysM.dec p1) (hp _ (by simp))
   rw[←(show p1=(Zd SysM.dec p1).map SysM.enc from hp _ (by simp))] at hq
   exact hq
 ·exact absurd h (by simp)
def Z0e:=YC [(26,e26),(29,e29),(30,e30),(31,e31),(32,e32),(33,e33),(35,e35),(34,e34)]
set_option maxHeartbeats 4000000 in
def Zfo(l:List Shape):=Zd Shape.dec (List.map Shape.enc l)
def ZjN(s:S3):=List.map Surf.enc s.a.surfs
def ZjO(s:S3):=List.map Surf.enc s.b.surfs
def ZjP(s:S3):=List.map Surf.enc s.c.surfs
def ZxH(s:S3):=[PV.lst (ZjN s),vI s.a.op.lo,vI s.a.op.hi,vB s.a.op.no,PV.lst (ZjO s),vI s.b.op.lo,vI s.b.op.hi,vB s.b.op.no,PV.lst (ZjP s),vI s.c.op.lo,vI s.c.op.hi,vB s.c.op.no]
def Zqg(k:Int)(ds2:List Cx):=Cx.mk (Zk3 (((List.map Cx.enc ds2).getD k.toNat []).headD PV.nil)) (Zk4 (((List.map Cx.enc ds2).getD k.toNat []).headD PV.nil))
def Zqh(l:List Shape):=List.map Shape.enc l=List.map Shape.enc (Zfo l)
theorem Zd3:CSOk Tryz.prog Z0e:=Za Z6q<|Za Z6s<|Za ZxF<|Za Z5R<|Za Z2M<|Za Zqb<|Za Zfj<|Za Zhc<|Ze
set_option maxHeartbeats 4000000 in
theorem Zdl:Yt Tryz.prog (Zt Tryz.f12 2) JM:=by
 refine lsG Zl.Γ (Z6 Zl Zd3 Zhk Z7 ZJ (LS:=[]) (ZV (l:=[Zt Tryz.f12 3]) (by kernel_rfl) (Zcg (i:=19) (by kernel_rfl) rfl (Zu))) (n:=2000) (U19 ZrJ) (U19 WP) (fun x e s=>(e= .exit 4∧s=U19 Zb9 x)) (fun x=>(x.2.2.2.2.2.2.2.2.2.2.2.2.2.1 - x.2.1).toNat) Zi8 Zpk Zpl (fun x hx=>?_)) Z66 (fun _=>rfl) (fun _ h=>h) (fun _ _ _ _ h f=>fE h f)
 ·obtain ⟨l,k,ds2,ds,h,j,pitch,w,h2,j2,w2,i2,out,m,p,n,yy,xx,s⟩:=x
  simp only[U19,WP] at hx
  refine sxT (fun Q=>(bif decide (k < m) then (((0:Int)≤k∧(List.map Cx.enc ds2)[k.toNat]?=some (ZW [PV.v (Value.complex FloatKind.f64 (0:Nat) (0:Nat))] ((List.map Cx.enc ds2).getD k.toNat [])))∧(((0:Int)≤(0:Int)∧(0:Int) < (3:Int))∧(([PV.lst (ZjN s),vI s.a.op.lo,vI s.a.op.hi,vB s.a.op.no]=(SysM.mk (Zd Surf.dec (ZjN s)) s.a.op).enc)∧((Zqh l)∧(((Zd Surf.dec (ZjN s)).length≤(1000000:Nat)∧(Zfo l).length≤(1000000:Nat))∧(((0:Int)≤(0:Int)∧(0:Int) < (3:Int))∧(((0:Int)≤(1:Int)∧(1:Int) < (3:Int))∧(([PV.lst (ZjO s),vI s.b.op.lo,vI s.b.op.hi,vB s.b.op.no]=(SysM.mk (Zd Surf.dec (ZjO s)) s.b.op).enc)∧((Zqh l)∧(((Zd Surf.dec (ZjO s)).length≤(1000000:Nat)∧(Zfo l).length≤(1000000:Nat))∧(((0:Int)≤(1:Int)∧(1:Int) < (3:Int))∧(((0:Int)≤(2:Int)∧(2:Int) < (3:Int))∧(([PV.lst (ZjP s),vI s.c.op.lo,vI s.c.op.hi,vB s.c.op.no]=(SysM.mk (Zd Surf.dec (ZjP s)) s.c.op).enc)∧((Zqh l)∧(((Zd Surf.dec (ZjP s)).length≤(1000000:Nat)∧(Zfo l).length≤(1000000:Nat))∧(((0:Int)≤(2:Int)∧(2:Int) < (3:Int))∧Q (Ex.normal) (some ⟨114,[(23,AV.ptr 23 0),(12,AV.ptr 12 0),(22,AV.ptr 22 0),(21,AV.ptr 21 0),(1,AV.p (PV.lst (List.map Shape.enc l))),(7,AV.ptr 7 0),(88,AV.p (vI (IntKind.i64.wrap (k+(1:Int))))),(86,AV.p (PV.lst (List.map Cx.enc ds2))),(6,AV.p (PV.lst (List.map Cx.enc ds))),(3,pI h),(19,pI j),(4,pI pitch),(2,pI w),(62,pI h2),(63,pI j2),(66,pI w2),(67,pI i2),(18,AV.p (PV.lst (List.map Pixel.enc out))),(87,pI m)],[(23,(ZfR (Wc (Wc (Wc p (Y5 (SysM.mk (Zd Surf.dec (ZjN s)) s.a.op) (Zfo l) xx yy (Zqg k ds2) n (0:Nat)) (0:Nat)) (Y5 (SysM.mk (Zd Surf.dec (ZjO s)) s.b.op) (Zfo l) xx yy (Zqg k ds2) n (1:Nat)) (1:Nat)) (Y5 (SysM.mk (Zd Surf.dec (ZjP s)) s.c.op) (Zfo l) xx yy (Zqg k ds2) n (2:Nat)) (2:Nat)))),(12,[vI n]),(22,(eIv yy)),(21,(eIv xx)),(7,(ZxH s))],[nat_lit 7],[(Loc.t (nat_lit 18),nat_lit 44)],[]⟩))))))))))))))))) else Q (Ex.exit (4:Nat)) (some ⟨114,[(12,AV.ptr 12 0),(1,AV.p (PV.lst (List.map Shape.enc l))),(7,AV.ptr 7 0),(6,AV.p (PV.lst (List.map Cx.enc ds))),(3,pI h),(19,pI j),(4,pI pitch),(2,pI w),(62,pI h2),(63,pI j2),(66,pI w2),(67,pI i2),(23,AV.ptr 23 0),(18,AV.p (PV.lst (List.map Pixel.enc out)))],[(12,[vI n]),(7,(ZxH s)),(23,(ZfR p))],[nat_lit 7],[(Loc.t (nat_lit 18),nat_lit 44)],[]⟩))) (fun _=>by kernel_rfl) ?_
  delta Zfo ZxH Zqg ZjN Zqh ZjO ZjP eIv ZfR vI vB pI
  refine Zb (fun h0=>⟨?r15,⟨?r14,⟨?r13,⟨?r12,⟨?r11,⟨?r10,⟨?r9,⟨?r8,⟨?r7,⟨?r6,⟨?r5,⟨?r4,⟨?r3,⟨?r2,⟨?r1,⟨?r0, ?_⟩⟩⟩⟩⟩⟩⟩⟩⟩⟩⟩⟩⟩⟩⟩⟩) (fun h0=>?_)
  case r0|r1|r2|r3|r4|r5|r6|r7|r8|r9|r10|r11|r12|r13|r14|r15=>first | rfl | omega | (rw[Zs];done) | (rw[dCx];done) | (rw[Xb];done) | (simp only[SysM.enc,S3.enc,Iv.enc,Pixel.enc,Z3,Xb,Zs,dCx];first | done | rfl | omega) | (exact (by rw[W4]:List.map SysM.enc [s.a,s.b,s.c]=List.map SysM.enc (Zd SysM.dec (List.map SysM.enc [s.a,s.b,s.c])))) | (rw[W4 [s.a,s.b,s.c]];exact (by decide:3≤140737488355328)) | (obtain ⟨⟨a1,a2,a3,a4,a5⟩,_⟩:=hx;simp only[Qc_] at h0;subst a3;exact ZH (fun _=>rfl) (by omega) (by omega))
  all_goals obtain ⟨⟨a1,a2,a3,a4,a5⟩,b1,b2,b3,b4⟩:=hx
  all_goals subst a3
  all_goals (try simp only[Qc_,Qe_] at h0)
  ·have hw:IntKind.i64.wrap (k+1)=k+1:=Zf (by constructor<;>omega)
   obtain ⟨z,t,e1,e2,e3⟩:=Yu a1 (show k < ((List.length ds2:Nat):Int) by omega)
   simp only[Yz e3,Zs,Z3] at *
   refine .inl ⟨by trivial,(l,IntKind.i64.wrap (k+1),ds2,ds2,h,j,pitch,w,h2,j2,w2,i2,out,m,ZaT s l xx yy n p z,n,yy,xx,s), ?_, ?_, ?_, ?_⟩
   ·rfl
   ·simp only[U19,WP,hw];exact ⟨⟨by omega,by omega,by trivial,a4,a5⟩,b1,b2,b3,b4⟩
   ·simp only[hw];omega
   ·intro e s' hh;refine ⟨hh.1,hh.2.trans ?_⟩;unfold U19 Zb9;(try dsimp only);rw[hw,e1,e2];rfl
  ·exact .inr ⟨by simp,_,rfl,by trivial,by unfold U19 Zb9;(try dsimp only);rw[List.drop_eq_nil_of_le (by omega)];rfl⟩
set_option maxHeartbeats 4000000 in
def ZmL(s:S3):=S3.mk (SysM.mk (Zd Surf.dec (List.map Surf.enc s.a.surfs)) s.a.op) (SysM.mk (Zd Surf.dec (List.map Surf.enc s.b.surfs)) s.b.op) (SysM.mk (Zd Surf.dec (List.map Surf.enc s.c.surfs)) s.c.op)
def ZjQ(h:Int)(j:Int)(pitch:Int):=times (point pitch) (IntKind.i64.wrap (IntKind.i64.wrap (IntKind.i64.wrap ((2:Int)*j)+(1:Int)) - h))
def Zgc(i:Int)(pitch:Int)(w:Int):=times (point pitch) (IntKind.i64.wrap (IntKind.i64.wrap (IntKind.i64.wrap ((2:Int)*i)+(1:Int)) - w))
def q28_11:=Pixel.mk (A3.mk (0:Int) (0:Int) (0:Int)) (A3.mk (0:Int) (0:Int) (0:Int)) (0:Int)
def ZcW(ds:List Cx):=Zd Cx.dec (List.map Cx.enc ds)
def Zgd(l:List Shape):=Zd Shape.dec (List.map Shape.enc l)
def Zge(out:List Pixel):=Zd Pixel.dec (List.map Pixel.enc out)
set_option maxHeartbeats 4000000 in
theorem Zhy:Yt Tryz.prog (Zt Tryz.f12 1) ZbB:=by
 refine lsG Zl.Γ (Z6 Zl Zd3 Zhk Z7 ZJ (LS:=[(16,JM)]) (ZV (l:=[Zt Tryz.f12 2,Zt Tryz.f12 3]) (by kernel_rfl) (ZE (i:=16) (by kernel_rfl) rfl Zdl (Zcg (i:=19) (by kernel_rfl) rfl (Zu)))) (n:=2000) (U13 Zi9) (U13 WQ) (fun x e s=>(e= .exit 2∧s=U13 ZbA x)) (fun x=>(x.2.2.2.2.2.2.2.1 - x.2.1).toNat) ZiA Zpm Zpn (fun x hx=>?_)) Z65 (fun _=>rfl) (fun _ h=>h) (fun _ _ _ _ h f=>fE h f)
 ·obtain ⟨l,i,out,ds,h,j,pitch,w,h2,j2,w2,n,s⟩:=x
  simp only[U13,WQ] at hx
  refine sxT (fun Q=>(bif decide (i < w2) then ((List.map Shape.enc l=List.map Shape.enc (Zgd l))∧((List.map Cx.enc ds=List.map Cx.enc (ZcW ds))∧((List.map Cx.enc ds=List.map Cx.enc (ZcW ds))∧((List.map Pixel.enc out=List.map Pixel.enc (Zge out))∧(([vI 0,vI 0,vI 0,vI 0,vI 0,vI 0,vI 0]=q28_11.enc)∧(((eIv (ZjQ h j pitch))=(ZjQ h j pitch).enc)∧(((eIv (Zgc i pitch w))=(Zgc i pitch w).enc)∧((s.enc=(ZmL s).enc)∧((WP (Zgd l) (0:Int) (ZcW ds) (ZcW ds) h j pitch w h2 j2 w2 i (Zge out) (↑(List.map Cx.enc ds).length) q28_11 n (ZjQ h j pitch) (Zgc i pitch w) (ZmL s))∧(((0:Nat) < (1:Nat)∧((List.map Pixel.enc (Zge out)).length+(1:Nat))* (56:Nat)≤(140737488355328:Nat)∧Lens (7:Nat) (List.map Pixel.enc (Zge out)++[(ZfR (JY (ZmL s) (Zgd l) (Zgc i pitch w) (ZjQ h j pitch) n (List.drop (0:Nat) (ZcW ds)) q28_11))]))∧Q (Ex.normal) (some ⟨114,[(12,AV.ptr 12 0),(1,AV.p (PV.lst (List.map Shape.enc (Zgd l)))),(7,AV.ptr 7 0),(67,AV.p (vI (IntKind.i64.wrap (i+(1:Int))))),(18,AV.p (PV.lst (List.map Pixel.enc (Zge out)++[(ZfR (JY (ZmL s) (Zgd l) (Zgc i pitch w) (ZjQ h j pitch) n (List.drop (0:Nat) (ZcW ds)) q28_11))]))),(6,AV.p (PV.lst (List.map Cx.enc (ZcW ds)))),(3,pI h),(19,pI j),(4,pI pitch),(2,pI w),(62,pI h2),(63,pI j2),(66,pI w2)],[(12,[vI n]),(7,[PV.lst (List.map Surf.enc (Zd Surf.dec (List.map Surf.enc s.a.surfs))),vI s.a.op.lo,vI s.a.op.hi,vB s.a.op.no,PV.lst (List.map Surf.enc (Zd Surf.dec (List.map Surf.enc s.b.surfs))),vI s.b.op.lo,vI s.b.op.hi,vB s.b.op.no,PV.lst (List.map Surf.enc (Zd Surf.dec (List.map Surf.enc s.c.surfs))),vI s.c.op.lo,vI s.c.op.hi,vB s.c.op.no])],[nat_lit 7],[(Loc.t (nat_lit 18),nat_lit 44)],[]⟩))))))))))) else Q (Ex.exit (2:Nat)) (some ⟨114,[(12,AV.ptr 12 0),(1,AV.p (PV.lst (List.map Shape.enc l))),(7,AV.ptr 7 0),(18,AV.p (PV.lst (List.map Pixel.enc out))),(6,AV.p (PV.lst (List.map Cx.enc ds))),(3,pI h),(4,pI pitch),(2,pI w),(62,pI h2),(63,pI j2)],[(12,[vI n]),(7,[PV.lst (List.map Surf.enc s.a.surfs),vI s.a.op.lo,vI s.a.op.hi,vB s.a.op.no,PV.lst (List.map Surf.enc s.b.surfs),vI s.b.op.lo,vI s.b.op.hi,vB s.b.op.no,PV.lst (List.map Surf.enc s.c.surfs),vI s.c.op.lo,vI s.c.op.hi,vB s.c.op.no])],[nat_lit 7],[(Loc.t (nat_lit 18),nat_lit 44)],[]⟩))) (fun _=>by kernel_rfl) ?_
  delta ZmL ZjQ Zgc q28_11 ZcW Zgd Zge eIv ZfR vI vB pI
  refine Zb (fun h0=>⟨?r8,⟨?r7,⟨?r6,⟨?r5,⟨?r4,⟨?r3,⟨?r2,⟨?r1,⟨?_,⟨?r0, ?_⟩⟩⟩⟩⟩⟩⟩⟩⟩⟩) (fun h0=>?_)
  case r0|r1|r2|r3|r4|r5|r6|r7|r8=>first | rfl | omega | (rw[Zs];done) | (rw[dCx];done) | (rw[Xb];done) | (simp only[SysM.enc,S3.enc,Iv.enc,Pixel.enc,Z3,Xb,Zs,dCx];first | done | rfl | omega) | (exact (by rw[W4]:List.map SysM.enc [s.a,s.b,s.c]=List.map SysM.enc (Zd SysM.dec (List.map SysM.enc [s.a,s.b,s.c])))) | (rw[W4 [s.a,s.b,s.c]];exact (by decide:3≤140737488355328)) | (obtain ⟨⟨a1,a2,a3,a4,a5⟩,_⟩:=hx;simp only[Qc_] at h0;subst a3;exact ZH (fun _=>rfl) (by omega) (by omega)) | (obtain ⟨ha,b1,b2,b3,b4⟩:=hx;simp only[Z3,Zs,dCx,Xb,Qk_] at *;first | done | rfl | exact ⟨b2,b1⟩ | exact ⟨b3,b1⟩ | exact ⟨b4,b1⟩ | omega | (exact ⟨by decide,by omega,Wa (XZ (e:=Pixel.enc) (fun _=>rfl) _) rfl⟩))
  all_goals obtain ⟨⟨a1,a2,a3,a4,a5,a6,a7,a8,a9⟩,b1,b2,b3,b4⟩:=hx
  all_goals subst a3
  all_goals (try simp only[Qc_,Qe_] at h0)
  all_goals simp only[dCx,Zs,Z3,Xb,Qk_,QO_,QG_] at *
  ·simp only[WP,Qk_];exact ⟨⟨by omega,by omega,by trivial,by trivial,a8⟩,b1,b2,b3,b4⟩
  ·have hw:IntKind.i64.wrap (i+1)=i+1:=Zf (by constructor<;>omega)
   refine .inl ⟨by trivial,(l,IntKind.i64.wrap (i+1),out++[Xp s l w h pitch n ds j i],ds,h,j,pitch,w,h2,j2,w,n,s), ?_, ?_, ?_, ?_⟩
   ·simp only[U13,Zi9,QR_,QE_,QN_];rfl
   ·simp only[U13,WQ,hw,Qx_,Qs_,Q1_];exact ⟨⟨by omega,by omega,by trivial,a4,a5,a6,a7,a8,by omega⟩,b1,b2,b3,b4⟩
   ·simp only[hw];omega
   ·intro e s' hh;refine ⟨hh.1,hh.2.trans ?_⟩;unfold U13 ZbA;(try dsimp only);rw[hw,show (w - i).toNat=(w - (i+1)).toNat+1 by omega];simp only[Zeh,List.append_assoc,List.cons_append,List.nil_append]
  ·exact .inr ⟨by simp,_,rfl,by trivial,by unfold U13 ZbA;(try dsimp only);rw[show (w - i).toNat=0 by omega];simp only[Zeh,List.append_nil];rfl⟩
set_option maxHeartbeats 4000000 in
def ZmM(s:S3):=S3.mk (SysM.mk (Zd Surf.dec (List.map Surf.enc s.a.surfs)) s.a.op) (SysM.mk (Zd Surf.dec (List.map Surf.enc s.b.surfs)) s.b.op) (SysM.mk (Zd Surf.dec (List.map Surf.enc s.c.surfs)) s.c.op)
def ZiW(l:List Shape):=Zd Shape.dec (List.map Shape.enc l)
def ZiX(ds:List Cx):=Zd Cx.dec (List.map Cx.enc ds)
set_option maxHeartbeats 4000000 in
theorem Ztc:Yt Tryz.prog (Zt Tryz.f12 0) Zf4:=by
 refine lsG Zl.Γ (Z6 Zl Zd3 Zhk Z7 ZJ (LS:=[(11,ZbB),(16,JM)]) (ZV (l:=[Zt Tryz.f12 1,Zt Tryz.f12 2,Zt Tryz.f12 3]) (by kernel_rfl) (ZE (i:=11) (by kernel_rfl) rfl Zhy (ZE (i:=16) (by kernel_rfl) rfl Zdl (Zcg (i:=19) (by kernel_rfl) rfl (Zu))))) (n:=2000) (U10 ZtZ) (U10 Ju) (fun x e s=>(e= .exit 0∧s=U10 Zcx x)) (fun x=>(x.2.2.2.1 - x.2.2.2.2.2.2.1).toNat) Zkg ZrK ZrL (fun x hx=>?_)) Z64 (fun _=>rfl) (fun _ h=>h) (fun _ _ _ _ h f=>fE h f)
 ·obtain ⟨l,out,ds,h,pitch,w,j,h2,n,s⟩:=x
  simp only[U10,Ju] at hx
  refine sxT (fun Q=>(bif decide (j < h2) then ((List.map Shape.enc l=List.map Shape.enc (ZiW l))∧((List.map Pixel.enc out=List.map Pixel.enc (Zd Pixel.dec (List.map Pixel.enc out)))∧((List.map Cx.enc ds=List.map Cx.enc (ZiX ds))∧((s.enc=(ZmM s).enc)∧((WQ (ZiW l) (0:Int) (Zd Pixel.dec (List.map Pixel.enc out)) (ZiX ds) h j pitch w h2 j w n (ZmM s))∧Q (Ex.normal) (some ⟨114,[(12,AV.ptr 12 0),(1,AV.p (PV.lst (List.map Shape.enc (ZiW l)))),(7,AV.ptr 7 0),(18,AV.p (PV.lst (List.map Pixel.enc (Zd Pixel.dec (List.map Pixel.enc out)++Zeh (Xp (ZmM s) (ZiW l) w h pitch n (ZiX ds) j) (w - (0:Int)).toNat (0:Int))))),(6,AV.p (PV.lst (List.map Cx.enc (ZiX ds)))),(3,pI h),(4,pI pitch),(2,pI w),(63,AV.p (vI (IntKind.i64.wrap (j+(1:Int))))),(62,pI h2)],[(12,[vI n]),(7,[PV.lst (List.map Surf.enc (Zd Surf.dec (List.map Surf.enc s.a.surfs))),vI s.a.op.lo,vI s.a.op.hi,vB s.a.op.no,PV.lst (List.map Surf.enc (Zd Surf.dec (List.map Surf.enc s.b.surfs))),vI s.b.op.lo,vI s.b.op.hi,vB s.b.op.no,PV.lst (List.map Surf.enc (Zd Surf.dec (List.map Surf.enc s.c.surfs))),vI s.c.op.lo,vI s.c.op.hi,vB s.c.op.no])],[nat_lit 7],[(Loc.t (nat_lit 18),nat_lit 44)],[]⟩)))))) else Q (Ex.exit (0:Nat)) (some ⟨114,[(18,AV.p (PV.lst (List.map Pixel.enc out)))],[],[nat_lit 7],[],[]⟩))) (fun _=>by kernel_rfl) ?_
  delta ZmM ZiW ZiX vI vB pI
  refine Zb (fun h0=>⟨?r3,⟨?r2,⟨?r1,⟨?r0,⟨?_, ?_⟩⟩⟩⟩⟩) (fun h0=>?_)
  case r0|r1|r2|r3=>first | rfl | omega | (rw[Zs];done) | (rw[dCx];done) | (rw[Xb];done) | (simp only[SysM.enc,S3.enc,Iv.enc,Pixel.enc,Z3,Xb,Zs,dCx];done)
  all_goals obtain ⟨⟨a1,a2,a3,a4,a5,a6,a7,a8⟩,b1,b2,b3,b4⟩:=hx
  all_goals subst a3
  all_goals (try simp only[Qc_,Qe_] at h0)
  all_goals simp only[dCx,Zs,Z3,Xb,Qk_,QO_,QG_] at *
  ·simp only[WQ];exact ⟨⟨by omega,by omega,by trivial,by omega,by omega,by omega,a6,a7,by omega⟩,b1,b2,b3,b4⟩
  ·have hw:IntKind.i64.wrap (j+1)=j+1:=Zf (by constructor<;>omega)
   refine .inl ⟨by trivial,(l,out++Zeh (Xp s l w h pitch n ds j) w.toNat 0,ds,h,pitch,w,IntKind.i64.wrap (j+1),h,n,s), ?_, ?_, ?_, ?_⟩
   ·simp only[Int.sub_zero];rfl
   ·simp only[U10,Ju,hw,Qx_,Zr3];exact ⟨⟨by omega,by omega,by trivial,a4,a5,a6,a7,by omega⟩,b1,b2,b3,b4⟩
   ·simp only[hw];omega
   ·intro e s' hh;refine ⟨hh.1,hh.2.trans ?_⟩;unfold U10 Zcx;(try dsimp only);rw[hw,show (h - j).toNat=(h - (j+1)).toNat+1 by omega];simp only[ZeY,List.append_assoc]
  ·exact .inr ⟨by simp,_,rfl,by trivial,by unfold U10 Zcx;(try dsimp only);rw[show (h - j).toNat=0 by omega];(simp only[ZeY,List.append_nil])<;>rfl⟩
theorem Zug:ZF Tryz.prog [(16,JM),(11,ZbB),(8,Zf4)] Tryz.f12:=ZN (l:=[Zt Tryz.f12 0,Zt Tryz.f12 1,Zt Tryz.f12 2,Zt Tryz.f12 3]) (by kernel_rfl) (ZE (i:=8) (by kernel_rfl) rfl Ztc (ZE (i:=11) (by kernel_rfl) rfl Zhy (ZE (i:=16) (by kernel_rfl) rfl Zdl (Zcg (i:=19) (by kernel_rfl) rfl (Zu)))))
def ZmN(s:S3):=[[PV.lst (List.map Surf.enc s.a.surfs),vI s.a.op.lo,vI s.a.op.hi,vB s.a.op.no],[PV.lst (List.map Surf.enc s.b.surfs),vI s.b.op.lo,vI s.b.op.hi,vB s.b.op.no],[PV.lst (List.map Surf.enc s.c.surfs),vI s.c.op.lo,vI s.c.op.hi,vB s.c.op.no]]
def ZmO(s:S3):=S3.mk (SysM.mk (Zd Surf.dec (List.map Surf.enc s.a.surfs)) s.a.op) (SysM.mk (Zd Surf.dec (List.map Surf.enc s.b.surfs)) s.b.op) (SysM.mk (Zd Surf.dec (List.map Surf.enc s.c.surfs)) s.c.op)
def ZeA(l:List Shape):=Zd Shape.dec (List.map Shape.enc l)
def ZeB(ds:List Cx):=Zd Cx.dec (List.map Cx.enc ds)
def ZcX:=PV.tup [.nil,vI 1]
set_option maxHeartbeats 4000000 in
theorem Z2R:Zi Tryz.prog 12 e12:=Zj<|Zg fun s=>Zg fun l=>Zg fun w=>Zg fun h=>Zg fun pitch=>Zg fun n=>Zg fun ds=>EZ2 fun hp0 hp1=>by
 refine ZaG Zl Zd3 Zhk Z7 ZJ (n:=2000) (LS:=[(16,JM),(11,ZbB),(8,Zf4)]) (fn:=Tryz.f12) rfl Zug ?_
 refine sxT (fun Q=>((List.map Cx.enc ds=List.map Cx.enc (ZeB ds))∧(([vI n]=(I.mk n).enc)∧(((ZeB ds).length≤(140737488355328:Nat))∧(((ZmN s)=List.map SysM.enc (Zd SysM.dec (ZmN s)))∧(((3:Nat)≤(140737488355328:Nat))∧((List.map Shape.enc l=List.map Shape.enc (ZeA l))∧(((ZeA l).length≤(140737488355328:Nat))∧(bif !YQ (ZeA l) then Q ZcX else (bif !X8 w h then Q ZcX else (bif !Yw pitch (1:Int) (1048576:Int) then Q ZcX else (bif !Yw n (1:Int) (16:Int) then Q ZcX else (bif decide (↑(List.map Cx.enc ds).length > (16:Int)) then Q ZcX else (bif (ZeB ds).any fun z=> !YO z (I.dec [vI n]).n then Q ZcX else (bif (Zd SysM.dec (ZmN s)).any Xq then Q ZcX else ((List.map Shape.enc l=List.map Shape.enc (ZeA l))∧(([]=List.map Pixel.enc (Zd Pixel.dec []))∧((List.map Cx.enc ds=List.map Cx.enc (ZeB ds))∧(([PV.lst (List.map Surf.enc s.a.surfs),vI s.a.op.lo,vI s.a.op.hi,vB s.a.op.no,PV.lst (List.map Surf.enc s.b.surfs),vI s.b.op.lo,vI s.b.op.hi,vB s.b.op.no,PV.lst (List.map Surf.enc s.c.surfs),vI s.c.op.lo,vI s.c.op.hi,vB s.c.op.no]=(ZmO s).enc)∧((Ju (ZeA l) (Zd Pixel.dec []) (ZeB ds) h pitch w (0:Int) h n (ZmO s))∧Q (PV.tup [PV.lst (List.map Pixel.enc (Zd Pixel.dec []++ZeY (Xp (ZmO s) (ZeA l) w h pitch n (ZeB ds)) w (h - (0:Int)).toNat (0:Int))),vI 0]))))))))))))))))))))) (fun _=>by kernel_rfl) ?_
 delta Qn ZmN ZmO ZeA ZeB ZcX vI vB
 have e3:Zd SysM.dec [[PV.lst (List.map Surf.enc s.a.surfs),PV.v (Value.int IntKind.i64 s.a.op.lo),PV.v (Value.int IntKind.i64 s.a.op.hi),PV.v (Value.bool s.a.op.no)],[PV.lst (List.map Surf.enc s.b.surfs),PV.v (Value.int IntKind.i64 s.b.op.lo),PV.v (Value.int IntKind.i64 s.b.op.hi),PV.v (Value.bool s.b.op.no)],[PV.lst (List.map Surf.enc s.c.surfs),PV.v (Value.int IntKind.i64 s.c.op.lo),PV.v (Value.int IntKind.i64 s.c.op.hi),PV.v (Value.bool s.c.op.no)]]=[s.a,s.b,s.c]:=W4 [s.a,s.b,s.c]
 refine ⟨?r10,⟨?r9,⟨?r8,⟨?r7,⟨?r6,⟨?r5,⟨?r4,Zb (fun h0=>?_) (fun h0=>Zb (fun h1=>?_) (fun h1=>Zb (fun h2=>?_) (fun h2=>Zb (fun h3=>?_) (fun h3=>Zb (fun h4=>?_) (fun h4=>Zb (fun h5=>?_) (fun h5=>Zb (fun h6=>?_) (fun h6=>⟨?r3,⟨?r2,⟨?r1,⟨?r0,⟨?_, ?_⟩⟩⟩⟩⟩)))))))⟩⟩⟩⟩⟩⟩⟩
 case r0|r1|r2|r3|r4|r5|r6|r7|r8|r9|r10=>first | rfl | omega | (rw[Zs];done) | (rw[dCx];done) | (rw[Xb];done) | (simp only[SysM.enc,S3.enc,Iv.enc,Pixel.enc,Z3,Xb,Zs,dCx];first | done | rfl | omega) | (exact (by rw[W4]:List.map SysM.enc [s.a,s.b,s.c]=List.map SysM.enc (Zd SysM.dec (List.map SysM.enc [s.a,s.b,s.c]))))
 all_goals simp only[dCx,Zs,Z3,Xb,e3,Qk_,QO_,QG_,Qi_,Qf_,show Zd Pixel.dec []=[] from rfl,QJ_,Int.sub_zero,show (I.dec [PV.v (Value.int .i64 n)]).n=n from rfl] at *
 all_goals first | (simp only[X0,ZaF, *,Qp_,Ql_,Qr_,Qn_,Qu_,Qt_,Q4_,Qw_,Q5_,Q3_,Qb_,Qd_];first | done | rfl) | (simp only[Ju,X8,Yw,Qh_,Qc_,Qe_,Q1_] at *;exact ⟨⟨by omega,by omega,by trivial,by omega,by omega,by omega,by omega,by omega⟩,hp1.1,hp0.1,hp0.2.1,hp0.2.2⟩)
open Go Go.RowKit Go.Sort
theorem Zuh(w:World)(k:Nat)(os:Array Obj):Below w.heap.size w (grow (w.drewN k) os):=
 ⟨rfl,rfl,rfl,by simp[grow],fun i hi=>KB_ hi⟩
theorem Z2g(n:Int)(h: -1000000000000000000≤n∧n≤1000000000000000000):Con Tryz.prog 38 [.v (.int .i64 n)] (.str (digits n)):=
 ZvG Tryz.call38 (fun n hw w h0 h1 hg=>(Any.strconv_Itoa Tryz.laysM171 n h0 h1 w (Z0G hg (x:=1) (vs:=Lib.pow10Tab.map fun z=>Value.int .u64 z) rfl (by kernel_rfl))).mono fun e w' ⟨he,k,os,hw'⟩=>⟨he,by subst hw';exact Zuh w k os⟩) _ _ (ZtQ h)
theorem Z6t:Zi Tryz.prog 38 e38:=Zj<|Zg fun n=>EZ1 fun h=>Z2g n h
end Go.Men
namespace Go.Men
open Go.Ev Go.Proofs Go.Proofs.YtfeldacghdcghaaGreatDoor
def Z5A:=YC [(32,e32),(33,e33),(38,e38),(39,e39)]
def pA(i:Int)(ps:List Pixel):=(List.map Pixel.enc ps).getD i.toNat []
set_option maxHeartbeats 4000000 in
def Zqi(i:Int)(ps:List Pixel):=intOf ((pA i ps).headD PV.nil)+intOf ((pA i ps).tail.tail.tail.headD PV.nil)
def ZmP(i:Int)(ps:List Pixel):=IntKind.i64.wrap (Zqi i ps)
def Zhl(i:Int)(ps:List Pixel):=intOf ((pA i ps).tail.headD PV.nil)+intOf ((pA i ps).tail.tail.tail.tail.headD PV.nil)
def Zfp(i:Int)(ps:List Pixel):=intOf ((pA i ps).tail.tail.headD PV.nil)+intOf ((pA i ps).tail.tail.tail.tail.tail.headD PV.nil)
def q30_4:=[[PV.str [(32:UInt8)]],[PV.str [(32:UInt8)]],[PV.str [(10:UInt8)]]]
def Zhm(tw:Int)(i:Int)(ps:List Pixel):=digits (floor (ZmP i ps) tw)++[(32:UInt8)]
def ZmQ(tw:Int)(i:Int)(ps:List Pixel):=digits (floor (IntKind.i64.wrap (Zhl i ps)) tw)++[(32:UInt8)]
theorem Zvf:CSOk Tryz.prog Z5A:=Za Z2M<|Za Zqb<|Za Z6t<|Za ZwD<|Ze
set_option maxHeartbeats 4000000 in
theorem ZxI:Yt Tryz.prog (Zt Tryz.f13 0) ZiC:=by
 refine lsG Zl.Γ (Z6 Zl Zvf ZA (Zza (n:=60) Zl Ze) ZJ (LS:=[]) (ZV (l:=[Zt Tryz.f13 1]) (by kernel_rfl) (Zcg (i:=13) (by kernel_rfl) rfl (Zu))) (n:=2000) (U5 ZoD) (U5 WY) (fun x e s=>(e= .exit 0∧s=U5 Zfg x)) (fun x=>(x.2.2.2.1 - x.2.1).toNat) ZoE ZwA ZwB (fun x hx=>?_)) cv5 (fun _=>rfl) (fun _ h=>h) (fun _ _ _ _ h f=>fE h f)
 ·obtain ⟨tw,i,ps,m,bl⟩:=x
  simp only[U5,WY] at hx
  refine sxT (fun Q=>(bif decide (i < m) then (((0:Int)≤i∧(List.map Pixel.enc ps)[i.toNat]?=some (ZW [vI 0,vI 0,vI 0,vI 0,vI 0,vI 0,vI 0] (pA i ps)))∧(((0:Int)≤(0:Int)∧(0:Int) < (3:Int))∧(((0:Int)≤(0:Int)∧(0:Int) < (3:Int))∧(((-4611686018427387904:Int)≤IntKind.i64.wrap (Zqi i ps)∧IntKind.i64.wrap (Zqi i ps)≤(4611686018427387904:Int))∧(((-1000000000000000000:Int)≤floor (ZmP i ps) tw∧floor (ZmP i ps) tw≤(1000000000000000000:Int))∧(((0:Int)≤(0:Int)∧q30_4[(0:Nat)]?=some (ZW [PV.str []] (q30_4.getD (0:Nat) [])))∧(((digits (floor (ZmP i ps) tw)).length+(1:Nat)≤(9223372036854775807:Nat))∧(((Z4 bl.txt).length+(Zhm tw i ps).length≤(140737488355328:Nat)∧Lens (1:Nat) (Z4 bl.txt))∧(((0:Int)≤(1:Int)∧(1:Int) < (3:Int))∧(((0:Int)≤(1:Int)∧(1:Int) < (3:Int))∧(((-4611686018427387904:Int)≤IntKind.i64.wrap (Zhl i ps)∧IntKind.i64.wrap (Zhl i ps)≤(4611686018427387904:Int))∧(((-1000000000000000000:Int)≤floor (IntKind.i64.wrap (Zhl i ps)) tw∧floor (IntKind.i64.wrap (Zhl i ps)) tw≤(1000000000000000000:Int))∧(((0:Int)≤(1:Int)∧q30_4[(1:Nat)]?=some (ZW [PV.str []] (q30_4.getD (1:Nat) [])))∧(((digits (floor (IntKind.i64.wrap (Zhl i ps)) tw)).length+(1:Nat)≤(9223372036854775807:Nat))∧(((Z4 bl.txt++Z4 (Zhm tw i ps)).length+(ZmQ tw i ps).length≤(140737488355328:Nat)∧Lens (1:Nat) (Z4 bl.txt++Z4 (Zhm tw i ps)))∧(((0:Int)≤(2:Int)∧(2:Int) < (3:Int))∧(((0:Int)≤(2:Int)∧(2:Int) < (3:Int))∧(((-4611686018427387904:Int)≤IntKind.i64.wrap (Zfp i ps)∧IntKind.i64.wrap (Zfp i ps)≤(4611686018427387904:Int))∧(((-1000000000000000000:Int)≤floor (IntKind.i64.wrap (Zfp i ps)) tw∧floor (IntKind.i64.wrap (Zfp i ps)) tw≤(1000000000000000000:Int))∧(((0:Int)≤(2:Int)∧q30_4[(2:Nat)]?=some (ZW [PV.str []] (q30_4.getD (2:Nat) [])))∧(((digits (floor (IntKind.i64.wrap (Zfp i ps)) tw)).length+(1:Nat)≤(9223372036854775807:Nat))∧(((Z4 bl.txt++Z4 (Zhm tw i ps)++Z4 (ZmQ tw i ps)).length+(digits (floor (IntKind.i64.wrap (Zfp i ps)) tw)++[(10:UInt8)]).length≤(140737488355328:Nat)∧Lens (1:Nat) (Z4 bl.txt++Z4 (Zhm tw i ps)++Z4 (ZmQ tw i ps)))∧Q (Ex.normal) (some ⟨73,[(10,AV.ptr 10 0),(9,pI tw),(45,AV.p (vI (IntKind.i64.wrap (i+(1:Int))))),(43,AV.p (PV.lst (List.map Pixel.enc ps))),(44,pI m)],[(10,[(PV.bld true),PV.lst (Z4 bl.txt++Z4 (Zhm tw i ps)++Z4 (ZmQ tw i ps)++Z4 (digits (floor (IntKind.i64.wrap (Zfp i ps)) tw)++[(10:UInt8)]))])],[],[(Loc.b (nat_lit 10) (nat_lit 1),nat_lit 5)],[]⟩))))))))))))))))))))))) else Q (Ex.exit (0:Nat)) (some ⟨73,[(10,AV.ptr 10 0)],[(10,[(PV.bld true),PV.lst (Z4 bl.txt)])],[],[(Loc.b (nat_lit 10) (nat_lit 1),nat_lit 5)],[]⟩))) (fun _=>by kernel_rfl) ?_
  delta ZmP Zhl Zfp q30_4 Zhm ZmQ Zqi vI pI
  refine Zb (fun h0=>⟨?r21,⟨?r20,⟨?r19,⟨?r18,⟨?r17,⟨?r16,⟨?r15,⟨?r14,⟨?r13,⟨?r12,⟨?r11,⟨?r10,⟨?r9,⟨?r8,⟨?r7,⟨?r6,⟨?r5,⟨?r4,⟨?r3,⟨?r2,⟨?r1,⟨?r0, ?_⟩⟩⟩⟩⟩⟩⟩⟩⟩⟩⟩⟩⟩⟩⟩⟩⟩⟩⟩⟩⟩⟩) (fun h0=>?_)
  case r0|r1|r2|r3|r4|r5|r6|r7|r8|r9|r10|r11|r12|r13|r14|r15|r16|r17|r18|r19|r20|r21=>first | rfl | omega | (rw[Xb];done) | (exact ⟨by decide,rfl⟩) | (obtain ⟨⟨a1,a2,a3,a4,a5⟩,⟨a6,a7⟩,a8⟩:=hx;simp only[Qc_] at h0;first | exact ZH (fun _=>rfl) (by omega) (by omega) | (obtain ⟨p,t,e1,e2,e3⟩:=Yu (l:=ps) a1 (by omega);have eA:pA i ps=Pixel.enc p:=Yz e3;have hb:=a8 p (Qz_ e3);have n0:=ZdE hb a6 0;have n1:=ZdE hb a6 1;have n2:=ZdE hb a6 2;have d0:=ZS (WA p 0 tw);have d1:=ZS (WA p 1 tw);have d2:=ZS (WA p 2 tw);obtain ⟨⟨b1,b2,b3⟩,b4,b5,b6⟩:=hb;have q0:IntKind.i64.wrap (intOf (p.enc.headD PV.nil)+intOf (p.enc.tail.tail.tail.headD PV.nil))=p.lo.a+p.hi.a:=Zf (show Fit (p.lo.a+p.hi.a) by constructor<;>omega);have q1:IntKind.i64.wrap (intOf (p.enc.tail.headD PV.nil)+intOf (p.enc.tail.tail.tail.tail.headD PV.nil))=p.lo.b+p.hi.b:=Zf (show Fit (p.lo.b+p.hi.b) by constructor<;>omega);have q2:IntKind.i64.wrap (intOf (p.enc.tail.tail.headD PV.nil)+intOf (p.enc.tail.tail.tail.tail.tail.headD PV.nil))=p.lo.c+p.hi.c:=Zf (show Fit (p.lo.c+p.hi.c) by constructor<;>omega);have f0:floor (p.lo.a+p.hi.a) tw=WA p 0 tw:=rfl;have f1:floor (p.lo.b+p.hi.b) tw=WA p 1 tw:=rfl;have f2:floor (p.lo.c+p.hi.c) tw=WA p 2 tw:=rfl;simp only[eA,q0,q1,q2,f0,f1,f2,Zmf,Qx_,Zmg,Qs_,Q1_];first | omega | exact ⟨by omega,ZtP _⟩))
  all_goals obtain ⟨⟨a1,a2,a3,a4,a5⟩,⟨a6,a7⟩,a8⟩:=hx
  all_goals (try simp only[Qc_,Qe_] at h0)
  ·obtain ⟨p,t,e1,e2,e3⟩:=Yu (l:=ps) a1 (by omega);have eA:pA i ps=Pixel.enc p:=Yz e3;have hb:=a8 p (Qz_ e3);have n0:=ZdE hb a6 0;have n1:=ZdE hb a6 1;have n2:=ZdE hb a6 2;have d0:=ZS (WA p 0 tw);have d1:=ZS (WA p 1 tw);have d2:=ZS (WA p 2 tw);obtain ⟨⟨b1,b2,b3⟩,b4,b5,b6⟩:=hb;have q0:IntKind.i64.wrap (intOf (p.enc.headD PV.nil)+intOf (p.enc.tail.tail.tail.headD PV.nil))=p.lo.a+p.hi.a:=Zf (show Fit (p.lo.a+p.hi.a) by constructor<;>omega);have q1:IntKind.i64.wrap (intOf (p.enc.tail.headD PV.nil)+intOf (p.enc.tail.tail.tail.tail.headD PV.nil))=p.lo.b+p.hi.b:=Zf (show Fit (p.lo.b+p.hi.b) by constructor<;>omega);have q2:IntKind.i64.wrap (intOf (p.enc.tail.tail.headD PV.nil)+intOf (p.enc.tail.tail.tail.tail.tail.headD PV.nil))=p.lo.c+p.hi.c:=Zf (show Fit (p.lo.c+p.hi.c) by constructor<;>omega);have f0:floor (p.lo.a+p.hi.a) tw=WA p 0 tw:=rfl;have f1:floor (p.lo.b+p.hi.b) tw=WA p 1 tw:=rfl;have f2:floor (p.lo.c+p.hi.c) tw=WA p 2 tw:=rfl
   have hw:IntKind.i64.wrap (i+1)=i+1:=Zf (by constructor<;>omega)
   have hl:=ZyS tw p
   refine .inl ⟨by trivial,(tw,IntKind.i64.wrap (i+1),ps,m,⟨bl.txt++Zcv tw p⟩), ?_, ?_, ?_, ?_⟩
   ·(simp only[U5,ZoD,Bld.enc,Zcv,eA,q0,q1,q2,f0,f1,f2,Zmf,QB_])<;>rfl
   ·simp only[U5,WY,hw,Qx_];exact ⟨⟨by omega,by omega,a3,a4,by omega⟩,⟨a6,a7⟩,a8⟩
   ·simp only[hw];omega
   ·intro e s' hh;refine ⟨hh.1,hh.2.trans ?_⟩;unfold U5 Zfg;(try dsimp only);rw[hw,e1,e2];simp only[List.map_cons,List.flatten_cons,List.append_assoc]
  ·exact .inr ⟨by simp,_,rfl,by trivial,by unfold U5 Zfg;(try dsimp only);rw[List.drop_eq_nil_of_le (by omega)];(simp only[List.map_nil,List.flatten_nil,List.append_nil])<;>rfl⟩
theorem Z2h:ZF Tryz.prog [(10,ZiC)] Tryz.f13:=ZN (l:=[Zt Tryz.f13 0,Zt Tryz.f13 1]) (by kernel_rfl) (ZE (i:=10) (by kernel_rfl) rfl ZxI (Zcg (i:=13) (by kernel_rfl) rfl (Zu)))
def Zd4(w:Int)(h:Int):=Z4 ([(80:UInt8),(51:UInt8),(10:UInt8)]++digits w++[(32:UInt8)]++digits h++[(10:UInt8)]++digits (255:Int)++[(10:UInt8)])
def ZxJ(w:Int)(h:Int):=Bld.dec [PV.bld true,PV.lst (Z4 ((ByteArray.mk #[(80:UInt8),(51:UInt8),(10:UInt8)]).data.toList++digits w++(ByteArray.mk #[(32:UInt8)]).data.toList++digits h++(ByteArray.mk #[(10:UInt8)]).data.toList++digits (255:Int)++(ByteArray.mk #[(10:UInt8)]).data.toList))]
def ZbN(ps:List Pixel):=Zd Pixel.dec (List.map Pixel.enc ps)
def Ztd(w:Int)(h:Int):=(0:Nat)+([(80:UInt8),(51:UInt8),(10:UInt8)]++digits w++[(32:UInt8)]++digits h++[(10:UInt8)]++digits (255:Int)++[(10:UInt8)]).length≤(140737488355328:Nat)
def Zte(w:Int)(h:Int):=([(80:UInt8),(51:UInt8),(10:UInt8)]++digits w++[(32:UInt8)]++digits h++[(10:UInt8)]++digits (255:Int)).length+(1:Nat)≤(9223372036854775807:Nat)
def Ztf(w:Int)(h:Int):=([(80:UInt8),(51:UInt8),(10:UInt8)]++digits w++[(32:UInt8)]++digits h++[(10:UInt8)]).length+(3:Nat)≤(9223372036854775807:Nat)
def Ztg(w:Int)(h:Int):=([(80:UInt8),(51:UInt8),(10:UInt8)]++digits w++[(32:UInt8)]++digits h).length+(1:Nat)≤(9223372036854775807:Nat)
def Zth(w:Int)(h:Int):=([(80:UInt8),(51:UInt8),(10:UInt8)]++digits w++[(32:UInt8)]).length+(digits h).length≤(9223372036854775807:Nat)
def Zti(w:Int):=([(80:UInt8),(51:UInt8),(10:UInt8)]++digits w).length+(1:Nat)≤(9223372036854775807:Nat)
def Ztj:=(-1000000000000000000:Int)≤(255:Int)∧(255:Int)≤(1000000000000000000:Int)
def Ztk(w:Int):=(-1000000000000000000:Int)≤w∧w≤(1000000000000000000:Int)
def Ztl(h:Int):=(-1000000000000000000:Int)≤h∧h≤(1000000000000000000:Int)
set_option maxHeartbeats 4000000 in
theorem Z6u:Zi Tryz.prog 13 e13:=Zj<|Zg fun ps=>Zg fun w=>Zg fun h=>Zg fun d=>EZ1 fun hp0=>by
 refine ZaG Zl Zvf ZA (Zza (n:=60) Zl Ze) ZJ (n:=2000) (LS:=[(10,ZiC)]) (fn:=Tryz.f13) rfl Z2h ?_
 refine sxT (fun Q=>(bif !X8 w h then Q (PV.str ([])) else (bif ↑(List.map Pixel.enc ps).length !=IntKind.i64.wrap (w *h) then Q (PV.str ([])) else (bif !Yw d (1:Int) (16:Int) then ((Ztk w)∧(((3:Nat)+(digits w).length≤(9223372036854775807:Nat))∧((Zti w)∧((Ztl h)∧((Zth w h)∧((Ztg w h)∧(Ztj∧((Ztf w h)∧((Zte w h)∧((Ztd w h)∧((List.map Pixel.enc ps=List.map Pixel.enc (ZbN ps))∧(([PV.bld true,PV.lst (Zd4 w h)]=(Bld.mk (unbytes (Zd4 w h))).enc)∧((WY (0:Int) (0:Int) (ZbN ps) (↑(List.map Pixel.enc ps).length) (Bld.mk (unbytes (Zd4 w h))))∧((∃c l,bytesOf (Z4 (Bld.mk ((ZxJ w h).txt++(List.map (Zcv (0:Int)) (List.drop (Int.toNat (0:Int)) (ZbN ps))).flatten)).txt)=some (c::l))∧Q (PV.str (ZfM (Z4 (unbytes (Zd4 w h)++(List.map (Zcv (0:Int)) (List.drop (0:Nat) (ZbN ps))).flatten)))))))))))))))))) else ((Ztk w)∧(((3:Nat)+(digits w).length≤(9223372036854775807:Nat))∧((Zti w)∧((Ztl h)∧((Zth w h)∧((Ztg w h)∧(Ztj∧((Ztf w h)∧((Zte w h)∧((Ztd w h)∧((List.map Pixel.enc ps=List.map Pixel.enc (ZbN ps))∧(([PV.bld true,PV.lst (Zd4 w h)]=(Bld.mk (unbytes (Zd4 w h))).enc)∧((WY (IntKind.i64.wrap ((2:Int)*d)) (0:Int) (ZbN ps) (↑(List.map Pixel.enc ps).length) (Bld.mk (unbytes (Zd4 w h))))∧((∃c l,bytesOf (Z4 (Bld.mk ((ZxJ w h).txt++(List.map (Zcv (IntKind.i64.wrap ((2:Int)*d))) (List.drop (Int.toNat (0:Int)) (ZbN ps))).flatten)).txt)=some (c::l))∧Q (PV.str (ZfM (Z4 (unbytes (Zd4 w h)++(List.map (Zcv (IntKind.i64.wrap ((2:Int)*d))) (List.drop (0:Nat) (ZbN ps))).flatten)))))))))))))))))))))) (fun _=>by kernel_rfl) ?_
 delta Qn Zd4 ZxJ ZbN Ztd Zte Ztf Ztg Zth Zti Ztj Ztk Ztl
 refine Zb (fun h0=>?_) (fun h0=>Zb (fun h1=>?_) (fun h1=>Zb (fun h2=>⟨?r12,⟨?r11,⟨?r10,⟨?r9,⟨?r8,⟨?r7,⟨?r6,⟨?r5,⟨?r4,⟨?r3,⟨?r2,⟨?r1,⟨?_,⟨?r0, ?_⟩⟩⟩⟩⟩⟩⟩⟩⟩⟩⟩⟩⟩⟩) (fun h2=>⟨?r25,⟨?r24,⟨?r23,⟨?r22,⟨?r21,⟨?r20,⟨?r19,⟨?r18,⟨?r17,⟨?r16,⟨?r15,⟨?r14,⟨?_,⟨?r13, ?_⟩⟩⟩⟩⟩⟩⟩⟩⟩⟩⟩⟩⟩⟩)))
 case r0|r1|r2|r3|r4|r5|r6|r7|r8|r9|r10|r11|r12|r13|r14|r15|r16|r17|r18|r19|r20|r21|r22|r23|r24|r25=>first | rfl | omega | (rw[Xb];done) | (exact ⟨by decide,rfl⟩) | (obtain ⟨⟨a1,a2,a3,a4,a5⟩,⟨a6,a7⟩,a8⟩:=hx;simp only[Qc_] at h0;skip) | (simp only[Bld.enc,ZkC];done) | (simp only[Z3C,Zii];exact ⟨80,_,rfl⟩) | (have hs:=Zik (by simpa using h0);have dw:=ZS w;have dh:=ZS h;have e255:digits 255=[50,53,53]:=rfl;(try simp only[e255,Qx_,Qs_,Q1_,Zmg]);omega)
 ·simp only[Qi_] at h0
  simp only[Zr5,h0,Qp_,Ql_,Qr_,Qn_,Qu_,Qt_,Qb_,Qd_];rfl
 all_goals simp only[Qf_] at h0
 all_goals have ha:=Z3D h0
 all_goals have hw:IntKind.i64.wrap (w *h)=w *h:=Zf (by constructor<;>omega)
 all_goals simp only[hw,Qk_,bne,Qi_,Qf_] at h1
 ·simp only[Zr5,h0,h1,Qp_,Ql_,Qr_,Qn_,Qu_,Qt_,Qb_,Qd_];rfl
 all_goals have hl:(ps.length:Int)=w *h:=(by simpa using h1)
 all_goals have e255:digits 255=[50,53,53]:=rfl
 all_goals have dw:=ZS w
 all_goals have dh:=ZS h
 all_goals simp only[Xb,ZkC,Z1r,Qk_,QG_,QO_,Qi_,Qf_] at *
 all_goals first
  | (simp only[WY,e255,Qx_,Qs_,Q1_];exact ⟨⟨by omega,by omega,by trivial,by omega,by omega⟩,⟨by omega,by omega⟩,hp0⟩)
  | (have ht:Zr4 d=0:=(by simp only[Zr4,h2,Qd_]);simp only[Zr5,Zwp,h0,h1,ht,e255,Qp_,Ql_,Qr_,Qn_,Qu_,Qt_,Qb_,Qd_,QB_,QS_,QJ_];rfl)
  | (have hd:1≤d∧d≤16:=(by simp only[Yw,Qh_,Qc_] at h2;exact h2)
     have hz:IntKind.i64.wrap (2 *d)=2 *d:=Zf (by constructor<;>omega)
     rw[hz]
     first | (simp only[WY,e255,Qx_,Qs_,Q1_];exact ⟨⟨by omega,by omega,by trivial,by omega,by omega⟩,⟨by omega,by omega⟩,hp0⟩) | (have ht:Zr4 d=2 *d:=(by simp only[Zr4,h2,Qb_]);simp only[Zr5,Zwp,h0,h1,ht,e255,Qp_,Ql_,Qr_,Qn_,Qu_,Qt_,Qb_,Qd_,QB_,QS_,QJ_];rfl))
def Z0f:=YC [(9,e9)]
def ZxK(i:Int)(n:Int)(l:List I)(out:List Cx):=List.map Cx.enc out++[[PV.v (Value.complex FloatKind.f64 (FloatKind.f64.nearest (IntKind.i64.wrap (pick (intOf (((List.map I.enc l).getD i.toNat []).headD PV.nil)) (IntKind.i64.wrap ((2:Int)*n)) - n))) (FloatKind.f64.nearest (IntKind.i64.wrap (pick (IntKind.i64.wrap ((intOf (((List.map I.enc l).getD i.toNat []).headD PV.nil)).tdiv (40:Int))) (IntKind.i64.wrap ((2:Int)*n)) - n))))]]
def ZxL(n:Int):=(0:Int) < IntKind.i64.wrap ((2:Int)*n)∧IntKind.i64.wrap ((2:Int)*n)≤(4611686018427387904:Int)
def ZxM(out:List Cx):Option St:=some ⟨43,[(5,AV.p (PV.lst (List.map Cx.enc out)))],[],[],[(Loc.t (nat_lit 5),nat_lit 41)],[]⟩
def ZxN(i:Int)(l:List I):=(0:Int)≤i∧(List.map I.enc l)[i.toNat]?=some (ZW [vI 0] ((List.map I.enc l).getD i.toNat []))
theorem ZmR:CSOk Tryz.prog Z0f:=Za ZnS<|Ze
theorem Ztm:Yt Tryz.prog (Zt Tryz.f10 0) Zf6:=by
 refine lsG Zl.Γ (Z6 Zl ZmR ZA Z7 ZJ (LS:=[]) (ZV (l:=[]) (by kernel_rfl) Zu) (n:=2000) (U4 Zkh) (U4 Jv) (fun x e s=>(e= .exit 0∧s=U4 Zcy x)) (fun x=>(5 - x.1).toNat) Zki ZrM ZrN (fun x hx=>?_)) cv4 (fun _=>rfl) (fun _ h=>h) (fun _ _ _ _ h f=>fE h f)
 ·obtain ⟨i,n,l,out⟩:=x
  simp only[U4,Jv] at hx
  refine sxT (fun Q=>(bif decide (i < ↑(List.map I.enc l).length) then (bif decide (i < (5:Int)) then ((ZxN i l)∧((ZxL n)∧((ZxN i l)∧(((40:Int)≠(0:Int))∧((ZxL n)∧(((0:Nat) < (1:Nat)∧((List.map Cx.enc out).length+(1:Nat))* (16:Nat)≤(140737488355328:Nat)∧Lens (1:Nat) (ZxK i n l out))∧Q (Ex.normal) (some ⟨43,[(6,AV.p (vI (IntKind.i64.wrap (i+(1:Int))))),(1,pI n),(0,AV.p (PV.lst (List.map I.enc l))),(5,AV.p (PV.lst (ZxK i n l out)))],[],[],[(Loc.t (nat_lit 5),nat_lit 41)],[]⟩))))))) else Q (Ex.exit (0:Nat)) (ZxM out)) else Q (Ex.exit (0:Nat)) (ZxM out))) (fun _=>by kernel_rfl) ?_
  delta ZxK ZxL ZxM ZxN vI pI
  refine Zb (fun h0=>Zb (fun h1=>⟨?r5,⟨?r4,⟨?r3,⟨?r2,⟨?r1,⟨?r0, ?_⟩⟩⟩⟩⟩⟩) (fun h1=>?_)) (fun h0=>?_)
  case r0|r1|r2|r3|r4|r5=>first | rfl | omega | (rw[dI];done) | (obtain ⟨a1,a2,a3,a4,a5,a6⟩:=hx;have hz:IntKind.i64.wrap (2 *n)=2 *n:=Zf (by constructor<;>omega);(try simp only[Qk_,Qc_,hz] at *);first | omega | exact ZH (fun _=>rfl) (by omega) (by omega) | exact ⟨by decide,by omega,Wa (XZ (e:=Cx.enc) (fun _=>rfl) _) rfl⟩)
  all_goals (obtain ⟨a1,a2,a3,a4,a5,a6⟩:=hx;(try simp only[Z1h,Qk_] at *))
  all_goals (try simp only[Qc_,Qe_] at h0)
  all_goals (try simp only[Qc_,Qe_] at h1)
  all_goals (have hz:IntKind.i64.wrap (2 *n)=2 *n:=Zf (by constructor<;>omega))
  all_goals first
   | (have hw:IntKind.i64.wrap (i+1)=i+1:=Zf (by constructor<;>omega)
      have eb:Wr n (5 - i).toNat l i=ZjB l n i::Wr n (5 - (i+1)).toNat l (i+1):=(by rw[show (5 - i).toNat=(5 - (i+1)).toNat+1 by omega,Zbz,QH_ h0,QH_ h1];rfl)
      refine .inl ⟨by trivial,(IntKind.i64.wrap (i+1),n,l,out++[ZjB l n i]), ?_, ?_, ?_, ?_⟩
      ·simp only[U4,Zkh,QR_,QE_,QN_];rfl
      ·simp only[U4,Jv,hw,Qx_,Qs_,Q1_];exact ⟨by omega,by omega,a3,a4,a5,by omega⟩
      ·simp only[hw];omega
      ·intro e s' h;refine ⟨h.1,h.2.trans ?_⟩;unfold U4 Zcy;(try dsimp only);rw[hw,eb];simp only[List.append_assoc,List.cons_append,List.nil_append])
   | (have eb:Wr n (5 - i).toNat l i=[]:=(by
       by_cases hi:i < 5
       ·rw[show (5 - i).toNat=(5 - (i+1)).toNat+1 by omega,Zbz,show (decide (i < (l.length:Int))&&decide (i < 5))=false by simp;omega];rfl
       ·rw[show (5 - i).toNat=0 by omega];rfl)
      exact .inr ⟨by simp,_,rfl,by trivial,by unfold U4 Zcy;(try dsimp only);(rw[eb,List.append_nil])<;>rfl⟩)
theorem Zui:ZF Tryz.prog [(4,Zf6)] Tryz.f10:=ZN (l:=[Zt Tryz.f10 0]) (by kernel_rfl) (ZE (i:=4) (by kernel_rfl) rfl Ztm (Zu))
theorem Z2i:Zwa Tryz.prog 10 e10 41:=Z3F<|ZyW fun l=>ZyW fun n=>Z67 fun hp0=>by
 refine ZyZ Zl ZmR ZA Z7 ZJ (n:=2000) (LS:=[(4,Zf6)]) (fn:=Tryz.f10) rfl Zui ?_
 refine sxT (fun Q=>((List.map I.enc l=List.map I.enc (Zd I.dec (List.map I.enc l)))∧(([]=List.map Cx.enc (Zd Cx.dec []))∧((Jv (0:Int) n (Zd I.dec (List.map I.enc l)) (Zd Cx.dec []))∧Q (PV.lst (List.map Cx.enc (Zd Cx.dec []++Wr n (5:Nat) (Zd I.dec (List.map I.enc l)) (0:Int)))))))) (fun _=>by kernel_rfl) ?_
 delta Qn
 refine ⟨?r1,⟨?r0,⟨?_, ?_⟩⟩⟩
 case r0|r1=>first | rfl | omega | (rw[dI];done)
 ·simp only[Jv,dI];exact ⟨by omega,by omega,hp0.1,hp0.2.1,hp0.2.2,rfl⟩
 ·simp only[dI];rfl
theorem Z6v:Zi Tryz.prog 10 e10:=fun args r ps h hp=>Z0X (Z2i args r ps h hp)
def Zgf(l:List RawFace):=Zd RawFace.dec (List.map RawFace.enc l)
def ZmS(back:Int):=IntKind.i64.wrap (back.tdiv (3:Int))* (3:Int)
def ZmT(l:List RawFace)(most:Int):=(Zgf l).length≤(140737488355328:Nat)∧(0:Nat)≤(140737488355328:Nat)∧(0:Int)≤most∧most≤(12:Int)
def ZiY(back:Int)(l:List RawFace)(most:Int)(plain:Bool):=JX (IntKind.i64.wrap (IntKind.i64.wrap (ZmS back)+(0:Int))) (Zgf l) (Zd I.dec []) most plain
def ZiZ(back:Int)(l:List RawFace)(most:Int)(plain:Bool):=JX (IntKind.i64.wrap (IntKind.i64.wrap (ZmS back)+(1:Int))) (Zgf l) (Zd I.dec []) most plain
def Zja(back:Int)(l:List RawFace)(most:Int)(plain:Bool):=JX (IntKind.i64.wrap (IntKind.i64.wrap (ZmS back)+(2:Int))) (Zgf l) (Zd I.dec []) most plain
def ZmU(l:List RawFace):=List.map RawFace.enc l=List.map RawFace.enc (Zgf l)
theorem Z70:Zi Tryz.prog 7 e7:=Zj<|Zg fun back=>Zg fun l=>Zg fun most=>Zg fun plain=>EZ1 fun hp0=>by
 refine cf0 (Za Z6o<|Ze) (fn:=Tryz.f7) rfl ?_
 refine sxT (fun Q=>(((3:Int)≠(0:Int))∧((ZmU l)∧(([]=List.map I.enc (Zd I.dec []))∧((ZmT l most)∧(((0:Int)≤(0:Int)∧(0:Int) < (3:Int))∧(((3:Int)≠(0:Int))∧((ZmU l)∧(([]=List.map I.enc (Zd I.dec []))∧((ZmT l most)∧(((0:Int)≤(1:Int)∧(1:Int) < (3:Int))∧(((3:Int)≠(0:Int))∧((ZmU l)∧(([]=List.map I.enc (Zd I.dec []))∧((ZmT l most)∧(((0:Int)≤(2:Int)∧(2:Int) < (3:Int))∧Q (PV.agg [PV.lst (List.map Surf.enc (ZiY back l most plain).surfs),vI (ZiY back l most plain).op.lo,vI (ZiY back l most plain).op.hi,vB (ZiY back l most plain).op.no,PV.lst (List.map Surf.enc (ZiZ back l most plain).surfs),vI (ZiZ back l most plain).op.lo,vI (ZiZ back l most plain).op.hi,vB (ZiZ back l most plain).op.no,PV.lst (List.map Surf.enc (Zja back l most plain).surfs),vI (Zja back l most plain).op.lo,vI (Zja back l most plain).op.hi,vB (Zja back l most plain).op.no]))))))))))))))))) (fun _=>by kernel_rfl) ?_
 delta Qn Zgf ZmS ZmT ZiY ZiZ Zja ZmU vI vB
 refine ⟨?r14,⟨?r13,⟨?r12,⟨?r11,⟨?r10,⟨?r9,⟨?r8,⟨?r7,⟨?r6,⟨?r5,⟨?r4,⟨?r3,⟨?r2,⟨?r1,⟨?r0, ?_⟩⟩⟩⟩⟩⟩⟩⟩⟩⟩⟩⟩⟩⟩⟩
 case r0|r1|r2|r3|r4|r5|r6|r7|r8|r9|r10|r11|r12|r13|r14=>first | rfl | omega | (rw[Xi];done) | (simp only[Xi];exact ⟨hp0.1,by decide,hp0.2⟩)
 all_goals simp only[Xi,show Zd I.dec []=[] from rfl] at *
 all_goals rfl
def ZmV:=[[vB false,vB false,vI 0,vI 0,vB false,vI 65536,vI 65536,vB false,vI 0,vI 0,vB false,vI 0,vI 0,vB false,vI 655360,vI 655360,vB false,vI 6553600,vI 6553600,vB false,vI 65536,vI 65536,vB false]]
theorem Z6w:Zi Tryz.prog 23 e23:=Zj<|EZ0<|by
 refine cf0 (Za Z6m<|Za ZwC<|Ze) (fn:=Tryz.f23) rfl ?_
 refine sxT (fun Q=>(([[vI 1]]=List.map I.enc (Zd I.dec [[vI 1]]))∧(((1:Nat)≤(140737488355328:Nat))∧Q (PV.agg [PV.lst (ZmV),vI 262144,vI 262144,vB false,PV.lst (ZmV),vI 262144,vI 262144,vB false,PV.lst (ZmV),vI 262144,vI 262144,vB false])))) (fun _=>by kernel_rfl) ?_
 delta Qn ZmV vI vB
 refine ⟨?r1,⟨?r0, ?_⟩⟩
 case r0|r1=>first | rfl | (simp only[Zs,dI,dIv];omega) | (simp[Zd,chunk];done)
 all_goals rfl
theorem Z6x:Zi Tryz.prog 24 e24:=Zj<|EZ0<|by
 refine cf0 Ze (fn:=Tryz.f24) rfl ?_
 refine sxT (fun Q=>Q (PV.lst ([[vI 2,vI 0,vI 0,vI 0,vI 0,vI 50,vI 0,vI 0,vI 0,vI 10,vI 20,vI 30]]))) (fun _=>by kernel_rfl) ?_
 delta Qn vI
 refine ?_
 all_goals rfl
def ZmW:=List.map Surf.enc open3.a.surfs
def ZmX:=Iv.mk (262144:Int) (262144:Int) false
def ZmY:=List.map Surf.enc open3.b.surfs
def ZmZ:=List.map Surf.enc open3.c.surfs
def q33_1:=S3.mk (SysM.mk (Zd Surf.dec ZmW) ZmX) (SysM.mk (Zd Surf.dec ZmY) ZmX) (SysM.mk (Zd Surf.dec ZmZ) ZmX)
def Zqj:=Zd Shape.dec (List.map Shape.enc wallL)
def Zqk:=Value.complex FloatKind.f64 (0:Nat) (0:Nat)
def Ztn:=Value.complex FloatKind.f64 (0:Nat) (4607182418800017408:Nat)
def Zql:=[[PV.v Zqk],[PV.v Ztn]]
def q33_2:=X0 q33_1 Zqj (1:Int) (1:Int) (1000:Int) (4:Int) (Zd Cx.dec Zql)
def q33_3:=Ty.mk (0:Nat) (1:Nat) (16:Nat) [PV.v Zqk] [] (0:Nat) (0:Nat)
def ZxO:=[PV.lst ZmW,vI 262144,vI 262144,vB false,PV.lst ZmY,vI 262144,vI 262144,vB false,PV.lst ZmZ,vI 262144,vI 262144,vB false]
def q33_6:=List.map Pixel.enc (X0 q33_1 (Zd Shape.dec []) (2:Int) (1:Int) (1000:Int) (4:Int) (Zd Cx.dec [])).fst
def ZxP:=(1:Nat)≤(1000000:Nat)∧(1:Nat)≤(1000000:Nat)∧(1:Nat)≤(1000000:Nat)
def q33_15:=List.map Pixel.enc q33_2.fst
theorem Z71:Zi Tryz.prog 8 e8:=Zj<|EZ0<|by
 refine cf0 (Za Z6w<|Za Z2R<|Za Z6x<|Za Z6u<|Ze) (fn:=Tryz.f8) rfl ?_
 refine sxT (fun Q=>((ZxO=q33_1.enc)∧(([]=List.map Shape.enc (Zd Shape.dec []))∧(([]=List.map Cx.enc (Zd Cx.dec []))∧(ZxP∧(((0:Nat)≤(1000000:Nat)∧(0:Nat)≤(140737488355328:Nat))∧((ZxO=q33_1.enc)∧((List.map Shape.enc wallL=List.map Shape.enc Zqj)∧((Zql=List.map Cx.enc (Zd Cx.dec Zql))∧(ZxP∧(((1:Nat)≤(1000000:Nat)∧(2:Nat)≤(140737488355328:Nat))∧(((0:Int)≤(0:Int)∧q33_6[(0:Nat)]?=some (ZW [vI 0,vI 0,vI 0,vI 0,vI 0,vI 0,vI 0] (q33_6.getD (0:Nat) [])))∧(((0:Int)≤(0:Int)∧q33_15[(0:Nat)]?=some (ZW [vI 0,vI 0,vI 0,vI 0,vI 0,vI 0,vI 0] (q33_15.getD (0:Nat) [])))∧((List.map Pixel.enc q33_2.fst=List.map Pixel.enc (Zd Pixel.dec q33_15))∧((∀(p:Pixel),p∈Zd Pixel.dec (List.map Pixel.enc (X0 (S3.dec (List.map nz1 [PV.lst ZmW,vI open3.a.op.lo,vI open3.a.op.hi,vB open3.a.op.no,PV.lst ZmY,vI open3.b.op.lo,vI open3.b.op.hi,vB open3.b.op.no,PV.lst ZmZ,vI open3.c.op.lo,vI open3.c.op.hi,vB open3.c.op.no])) Zqj (1:Int) (1:Int) (1000:Int) (4:Int) (Zd Cx.dec (chunk q33_3.size (2:Nat) (lay (lay (reps (2:Nat) q33_3.zero) ((0:Nat)*q33_3.size) (cv Zqk).cells) ((1:Nat)*q33_3.size) (cv Ztn).cells)))).fst)→ZnF p)∧Q (vB true)))))))))))))))) (fun _=>by kernel_rfl) ?_
 delta Qn q33_1 q33_2 q33_3 Zql ZxO q33_6 ZxP Zqk Zqj ZmX Ztn ZmW ZmY ZmZ q33_15 vI vB
 refine ⟨?r13,⟨?r12,⟨?r11,⟨?r10,⟨?r9,⟨?r8,⟨?r7,⟨?r6,⟨?r5,⟨?r4,⟨?r3,⟨?r2,⟨?r1,⟨?r0, ?_⟩⟩⟩⟩⟩⟩⟩⟩⟩⟩⟩⟩⟩⟩
 case r0|r1|r2|r3|r4|r5|r6|r7|r8|r9|r10|r11|r12|r13=>first | rfl | omega | (rw[Xb];exact ZyU _ _ _ _ _ _ _) | (refine ZH (i:=0) (fun _=>rfl) (by omega) ?_;decide+kernel)
 all_goals rfl
end Go.Men
namespace Go.Men
open Go Go.Ev
theorem ZdH(n:Int):inB (-n)=inB n:=by
 rw[Bool.eq_iff_iff,ZG,ZG];omega
theorem ZeC(l h:Int):neg (of l h)=of (-h) (-l):=by
 have e:right ⟨-h,-l,false⟩=right ⟨l,h,false⟩:=by
  simp only[right,ZdH]
  rw[Bool.eq_iff_iff]
  simp only[Qh_,Qc_]
  constructor
  ·rintro ⟨a,b,c,d⟩;exact ⟨a,c,b,by omega⟩
  ·rintro ⟨a,b,c,d⟩;exact ⟨a,c,b,by omega⟩
 unfold of
 rw[e]
 cases hr:right ⟨l,h,false⟩ with
 | true=>simp only[Qb_];rw[Zap hr]
 | false=>simp only[Qd_];rfl
theorem ZaI:neg none'=none':=rfl
theorem Z6y(l h:Int):neg (neg (of l h))=of l h:=by rw[ZeC,ZeC,Int.neg_neg,Int.neg_neg]
theorem Z2S{c:Bool}{x y:Iv}(hx:neg (neg x)=x)(hy:neg (neg y)=y):neg (neg (bif c then x else y))=bif c then x else y:=by cases c<;>assumption
theorem Zvg:neg (neg none')=none':=rfl
theorem Z3Q(f:Int→Int→Bool→Int×Bool)(a b:Iv):neg (neg (ends f a b))=ends f a b:=Z2S (Z6y _ _) Zvg
theorem Z2j(a b:Iv):neg (neg (Zk a b))=Zk a b:=Z2S (Z3Q _ _ _) Zvg
theorem ZeD(c:Bool)(x y:Iv):neg (bif c then x else y)=bif c then neg x else neg y:=by cases c<;>rfl
theorem Zto{a b:Int}(hb:b≠0):(-a).fdiv b= -(up1 a b):=by
 rcases Int.lt_or_lt_of_ne hb with h | h
 ·have e1:(-a).fdiv b=a.fdiv (-b):=by rw[←Int.neg_fdiv_neg];simp
  have e2:up1 a b=up1 (-a) (-b):=by
   unfold up1
   rw[Int.neg_fdiv_neg,Int.emod_neg,Int.neg_emod]
   by_cases hz:a % b=0
   ·rw[if_pos hz];simp[Int.dvd_of_emod_eq_zero hz]
   ·rw[if_neg hz]
    have:¬b∣a:=fun hd=>hz (Int.emod_eq_zero_of_dvd hd)
    rw[if_neg this,if_neg]
    have h1:=Int.emod_lt_of_neg a h
    have h2:=Int.emod_nonneg a hb
    omega
  rw[e1,e2,←Zea (show 0 < -b by omega)]
  simp[floor]
 ·rw[←Zea h];simp[floor]
theorem Z3R{a b:Int}(hb:b≠0):up1 (-a) b= -(a.fdiv b):=by
 have:=Zto (a:= -a) hb
 rw[Int.neg_neg] at this
 omega
def np(p:Int×Bool):Int×Bool:=(-p.1,p.2)
theorem Zkq{a b:Int}(hb:b≠0)(u:Bool):rounded (-a) b u=np (rounded a b (!u)):=by
 unfold rounded
 cases u with
 | true=>
   simp only[Qb_,Qu_,Qd_,Z3R hb,ZdH]
   cases inB (a.fdiv b)<;>rfl
 | false=>
   simp only[Qb_,Qt_,Qd_,Zto hb,ZdH]
   cases inB (up1 a b)<;>rfl
theorem mul_neg(a b:Int)(u:Bool):mul (-a) b u=np (mul a b (!u)):=by
 unfold mul
 rw[ZdH,Int.neg_mul,Zkq (by decide)]
 cases inB a&&inB b<;>rfl
theorem Z3S(a b:Int)(u:Bool):div (-a) b u=np (div a b (!u)):=by
 unfold div
 rw[ZdH]
 cases h:(inB a&&(inB b&&decide (b≠0))) with
 | false=>rfl
 | true=>
   simp only[Qh_,Qc_] at h
   simp only[Qb_]
   rw[Int.neg_mul,Zkq h.2.2]
theorem Ztp{f:Int→Int→Bool→Int×Bool}(hf:∀x y u,f (-x) y u=np (f x y (!u))){a b:Iv}(ha:right a=true):ends f (neg a) b=neg (ends f a b):=by
 rw[Zap ha]
 unfold ends
 simp only[hf,np,Qt_,Qu_]
 rw[ZeD,ZeC,ZaI]
 generalize f a.lo b.lo false=p1
 generalize f a.lo b.lo true=q1
 generalize f a.lo b.hi false=p2
 generalize f a.lo b.hi true=q2
 generalize f a.hi b.lo false=p3
 generalize f a.hi b.lo true=q3
 generalize f a.hi b.hi false=p4
 generalize f a.hi b.hi true=q4
 have e:((q3.2&&p3.2)&&((q4.2&&p4.2)&&((q1.2&&p1.2)&&(q2.2&&p2.2))))=((p1.2&&q1.2)&&((p2.2&&q2.2)&&((p3.2&&q3.2)&&(p4.2&&q4.2)))):=by
  rw[Bool.eq_iff_iff]
  simp only[Qh_]
  constructor
  ·rintro ⟨⟨a,b⟩,⟨c,d⟩,⟨e,f⟩,g,h⟩;exact ⟨⟨f,e⟩,⟨h,g⟩,⟨b,a⟩,d,c⟩
  ·rintro ⟨⟨f,e⟩,⟨h,g⟩,⟨b,a⟩,d,c⟩;exact ⟨⟨a,b⟩,⟨c,d⟩,⟨e,f⟩,g,h⟩
 rw[e]
 cases ((p1.2&&q1.2)&&((p2.2&&q2.2)&&((p3.2&&q3.2)&&(p4.2&&q4.2)))) with
 | false=>rfl
 | true=>
   simp only[Qb_]
   congr 1<;>omega
theorem Zhn(a b:Iv):Zk (neg a) b=neg (Zk a b):=by
 unfold Zk both
 rw[XR,ZeD,ZaI]
 cases h:right a with
 | false=>rfl
 | true=>rw[Ztp mul_neg h]
theorem Zna(a b:Iv):Zo (neg a) b=neg (Zo a b):=by
 unfold Zo both
 rw[XR,ZeD,ZaI]
 cases h:right a with
 | false=>rfl
 | true=>rw[Ztp Z3S h]
theorem ZoP(a b:Int)(u:Bool):mul a b u=mul b a u:=by
 unfold mul
 rw[Bool.and_comm,Int.mul_comm]
theorem Znb(a b:Iv):Zk a b=Zk b a:=by
 unfold Zk both
 rw[Bool.and_comm (right a)]
 have e:ends mul a b=ends mul b a:=by
  unfold ends
  simp only[ZoP a.lo,ZoP a.hi]
  generalize mul b.lo a.lo false=p1
  generalize mul b.lo a.lo true=q1
  generalize mul b.hi a.lo false=p2
  generalize mul b.hi a.lo true=q2
  generalize mul b.lo a.hi false=p3
  generalize mul b.lo a.hi true=q3
  generalize mul b.hi a.hi false=p4
  generalize mul b.hi a.hi true=q4
  have e:((p1.2&&q1.2)&&((p2.2&&q2.2)&&((p3.2&&q3.2)&&(p4.2&&q4.2))))=((p1.2&&q1.2)&&((p3.2&&q3.2)&&((p2.2&&q2.2)&&(p4.2&&q4.2)))):=by
   rw[Bool.eq_iff_iff]
   simp only[Qh_]
   constructor
   ·rintro ⟨a,b,c,d⟩;exact ⟨a,c,b,d⟩
   ·rintro ⟨a,b,c,d⟩;exact ⟨a,c,b,d⟩
  rw[e]
  congr 2<;>omega
 rw[e]
theorem Zho(a b:Iv):Zk a (neg b)=neg (Zk a b):=by rw[Znb,Zhn,Znb]
theorem Ztq(a b:Iv):Zk (neg a) (neg b)=Zk a b:=by rw[Zhn,Zho,Z2j]
theorem Zvh(a b:Iv):add (neg a) (neg b)=neg (add a b):=by
 unfold add both
 rw[XR,XR,ZeD,ZaI,ZeC]
 cases ha:right a with
 | false=>rfl
 | true=>
   cases hb:right b with
   | false=>rfl
   | true=>
     rw[Zap ha,Zap hb]
     simp only[QZ_,Qb_]
     congr 1<;>omega
theorem Z3T(a b:Iv):sub (neg a) (neg b)=neg (sub a b):=Zvh _ _
theorem Zvi(a:Iv):sqr (neg a)=sqr a:=by
 unfold sqr
 rw[XR]
 cases ha:right a with
 | false=>rfl
 | true=>
   rw[Zap ha]
   have e1:far ⟨-a.hi,-a.lo,false⟩=far a:=by unfold far;simp only;omega
   have e2:near ⟨-a.hi,-a.lo,false⟩=near a:=by unfold near;simp only;omega
   rw[e1,e2]
theorem Z0g(a:Iv)(k:Int):times (neg a) k=neg (times a k):=by
 unfold times
 rw[XR,ZeD,ZaI,ZeC]
 cases ha:right a with
 | false=>rfl
 | true=>
   rw[Zap ha]
   simp only[Int.mul_neg]
   congr 2<;>omega
theorem ZbO(a:Iv)(k:Int):times a (-k)=neg (times a k):=by
 unfold times
 rw[ZdH,ZeD,ZaI,ZeC]
 simp only[Int.neg_mul]
 congr 2<;>omega
theorem Z2k(a b:Iv):Zaq (neg a) (neg b)=neg (Zaq a b):=by
 unfold Zaq both
 rw[XR,XR,ZeD,ZaI,ZeC]
 cases ha:right a with
 | false=>rfl
 | true=>
   cases hb:right b with
   | false=>rfl
   | true=>
     rw[Zap ha,Zap hb]
     simp only[QZ_,Qb_]
     congr 1<;>omega
theorem Z0h(a b:Iv):Zaq a b=Zaq b a:=by
 unfold Zaq both
 rw[Bool.and_comm,Int.min_comm,Int.max_comm]
def ZT(v:V):V:=⟨v.x,neg v.y,v.z⟩
def Yy(r:Ray):Ray:=⟨ZT r.o,ZT r.d⟩
theorem Zfq(v:V):YN (ZT v)=YN v:=by unfold YN ZT;rw[XR]
theorem ZnW(a b:V):dot (ZT a) (ZT b)=dot a b:=by unfold dot ZT;rw[Ztq]
theorem Z2l(a:V):XY (ZT a)=XY a:=by unfold XY ZT;rw[Zvi]
theorem Zlc(a:V):unit (ZT a)=ZT (unit a):=by
 show (⟨Zo a.x (ZQ (XY (ZT a))),Zo (neg a.y) (ZQ (XY (ZT a))),Zo a.z (ZQ (XY (ZT a)))⟩:V)=_
 rw[Z2l,Zna];rfl
theorem Zjb(a:V)(k:Iv):Jp (ZT a) k=ZT (Jp a k):=by
 show (⟨Zk a.x k,Zk (neg a.y) k,Zk a.z k⟩:V)=_
 rw[Zhn];rfl
theorem Zvj(a b:V):ZgG (ZT a) (ZT b)=ZT (ZgG a b):=by
 show (⟨add a.x b.x,add (neg a.y) (neg b.y),add a.z b.z⟩:V)=_
 rw[Zvh];rfl
theorem ZoQ(r:Ray)(t:Iv):along (Yy r) t=ZT (along r t):=by
 show ZgG (ZT r.o) (Jp (ZT r.d) t)=_
 rw[Zjb,Zvj];rfl
theorem ZoR(s:Surf)(r:Ray):Za1 s (Yy r)=Yy (Za1 s r):=rfl
theorem Z0i(p d:V):add (Zk (ZT p).x (ZT d).x) (Zk (ZT p).y (ZT d).y)=add (Zk p.x d.x) (Zk p.y d.y):=by
 show add (Zk p.x d.x) (Zk (neg p.y) (neg d.y))=_
 rw[Ztq]
theorem Zjc(p:V):add (sqr (ZT p).x) (sqr (ZT p).y)=add (sqr p.x) (sqr p.y):=by
 show add (sqr p.x) (sqr (neg p.y))=_
 rw[Zvi]
theorem Ztr(s:Surf)(o d:V):W9 s (ZT o) (ZT d)=W9 s o d:=by
 unfold W9 Z4x Z4y Z4z
 rw[Zjc,Z0i,Zjc];rfl
theorem Z0j(s:Surf)(r:Ray):Zv s (Yy r)=Zv s r:=by
 funext t
 unfold Zv
 simp only[ZoQ,Zjc]
 rw[show (Yy r).d=ZT r.d from rfl,Z0i];rfl
theorem Zuj(s:Surf)(r:Ray)(t:Iv):ZaR s (Yy r) t=ZaR s r t:=by unfold ZaR;rw[Z0j]
theorem Z2m(s:Surf)(r:Ray):Zec s (Yy r)=Zec s r:=by
 unfold Zec
 rw[ZoR,Zuj,show (Yy (Za1 s r)).o=ZT (Za1 s r).o from rfl,show (Yy r).d=ZT r.d from rfl,Ztr]
theorem ZoS(s:Surf)(r:Ray):Yq s (Yy r)=((Yq s r).1,ZT (Yq s r).2.1,(Yq s r).2.2):=by
 unfold Yq
 rw[Z2m,ZoR,ZoQ,Zfq]
 cases (Zec s r).2==1 with
 | false=>rfl
 | true=>
   simp only[Qb_]
   cases YN (along (Za1 s r) (Zec s r).1)<;>rfl
theorem Zts(s:Surf)(p:V):ZaD s (ZT p)=ZT (ZaD s p):=by
 unfold ZaD
 rw[Zjc]
 cases s.bent with
 | true=>
   simp only[Qb_]
   rw[←Zlc]
   congr 1
   show (⟨_,neg (times (Zk _ (neg p.y)) 2),_⟩:V)=⟨_,neg (neg (times (Zk _ p.y) 2)),_⟩
   rw[Zho,Z0g];rfl
 | false=>
   simp only[Qd_]
   rw[←Zlc]
   congr 1
   show (⟨_,neg (Zk _ (neg p.y)),_⟩:V)=⟨_,neg (neg (Zk _ p.y)),_⟩
   rw[Zho];rfl
theorem Z2n(d n:V)(k:Iv):bend (ZT d) (ZT n) k=(ZT (bend d n k).1,(bend d n k).2):=by
 have e1:Zbv (ZT d) (ZT n) k=Zbv d n k:=by unfold Zbv;rw[ZnW]
 have e2:ZgL (ZT d) (ZT n) k=ZT (ZgL d n k):=by unfold ZgL;rw[e1,ZnW,Zjb,Zjb,Zvj]
 unfold bend
 rw[e1,e2,ZnW,Zfq]
 cases (dot d n).no||decide ((dot d n).lo≤0)<;>simp only[Qb_,Qd_]
 ·cases (Zbv d n k).no<;>simp only[Qb_,Qd_]
  ·cases decide ((Zbv d n k).hi < 0)<;>simp only[Qb_,Qd_]
   ·cases decide ((Zbv d n k).lo < 0)<;>simp only[Qb_,Qd_]
    ·cases YN (ZgL d n k)<;>rfl
    ·rfl
   ·rfl
  ·rfl
 ·rfl
theorem Z3U(s:Surf)(r:Ray):goS s (Yy r)=(Yy (goS s r).1,(goS s r).2):=by
 have eP:goP s (Yy r)=ZT (goP s r):=by unfold goP;rw[ZoS]
 have eO:goO s (Yy r)=ZT (goO s r):=by unfold goO;rw[eP];rfl
 have eA:goA s (Yy r)=goA s r:=by unfold goA;rw[eP,Zjc]
 have eB:goB s (Yy r)=(ZT (goB s r).1,(goB s r).2):=by unfold goB;rw[eP,Zts,show (Yy r).d=ZT r.d from rfl,Z2n]
 unfold goS
 rw[eA,eO,eB,ZoS]
 simp only
 rw[show (ZT (goO s r)).z=(goO s r).z from rfl]
 cases (Yq s r).2.2==1<;>simp only[Qb_,Qd_]
 ·rfl
 cases goA s r==1<;>simp only[Qb_,Qd_]
 ·rfl
 cases (goO s r).z.no<;>simp only[Qb_,Qd_]
 ·cases s.stop<;>simp only[Qb_,Qd_]
  ·cases (goB s r).2==1<;>rfl
  ·rfl
 ·rfl
def Z2o(t:TrRes):TrRes:=⟨t.kind,t.pos,Yy t.r⟩
theorem Zkr:∀(l:List Surf) (k:Int) (r:Ray),ZD l k (Yy r)=Z2o (ZD l k r)
 | [],_,_=>rfl
 | f::l,k,r=>by
   simp only[ZD]
   rw[Z3U]
   cases (goS f r).2==1<;>simp only[Qb_,Qd_]
   ·rfl
   ·exact Zkr l (k+1) _
theorem Z0k(s:SysM)(r:Ray):trace s (Yy r)=Z2o (trace s r):=Zkr _ _ _
theorem Zjd{r q:Ray}:∀{l:List Shape},(∀s∈l,hit s r=hit s q)→unsure r l=unsure q l
 | [],_=>rfl
 | s::l,h=>by
   unfold unsure
   simp only[QU_]
   rw[h s Qv_]
   have:=Zjd (l:=l) fun t ht=>h t (Qq_ _ ht)
   unfold unsure at this
   rw[this]
theorem Zje{r q:Ray}:∀{l:List Shape},(∀s∈l,hit s r=hit s q)→∀k b a all,Yl r l k b a all=Yl q l k b a all
 | [],_,_,_,_,_=>rfl
 | s::l,h,k,b,a,all=>by
   have ih:=Zje (l:=l) fun t ht=>h t (Qq_ _ ht)
   unfold Yl
   rw[h s Qv_,ih,ih,ih]
theorem Zuk{l:List Shape}{r:Ray}(h:∀s∈l,hit s (Yy r)=hit s r):nearest l (Yy r)=nearest l r:=by
 unfold nearest
 rw[Zjd h,Zje h]
theorem Z0l{s:SysM}{l:List Shape}{r:Ray}(h:∀f∈l,∀q,hit f (Yy q)=hit f q):Xl s l (Yy r)=Xl s l r:=by
 unfold Xl
 rw[Z0k]
 simp only[Z2o]
 rw[Zuk fun f hf=>h f hf _]
theorem Z2p{s:SysM}{l:List Shape}{r:Ray}(h:∀f∈l,∀q,hit f (Yy q)=hit f q)(c:Nat):ZaE s l (Yy r) c=ZaE s l r c:=by
 unfold ZaE;rw[Z0l h]
theorem Z2q(z:Dec)(g:A3)(x y r:Dec)(q:Ray):hit ⟨2,x,y,z,r,g⟩ (Yy q)=hit ⟨2,x,y,z,r,g⟩ q:=by
 have e:meet ⟨2,x,y,z,r,g⟩ (Yy q)=meet ⟨2,x,y,z,r,g⟩ q:=by
  unfold meet
  simp only[show ((2:Int)==1)=false from rfl,show ((2:Int)==2)=true from rfl,Qb_,Qd_]
  rw[show (Yy q).o.z=q.o.z from rfl,show (Yy q).d.z=q.d.z from rfl]
 unfold hit
 rw[e]
theorem Z2r(o:Iv)(b n:Int)(hb: -1000000≤b∧b≤1000000):edge o (-1 - b) n=neg (edge o b n):=by
 unfold edge
 rw[Zf (show Fit (-1 - b+1) by constructor<;>omega),Zf (show Fit (b+1) by constructor<;>omega),
  show -1 - b= -(b+1) by omega,show -(b+1)+1= -b by omega,ZbO,ZbO,Z2k,Z0h,Zna]
theorem Z3V(o d:V):Yy ⟨o,d⟩=⟨ZT o,ZT d⟩:=rfl
theorem Zvk(x y z:Iv):ZT ⟨x,y,z⟩=⟨x,neg y,z⟩:=rfl
theorem ZxQ(s:SysM)(x y:Iv)(a b n:Int)(hb: -1000000≤b∧b≤1000000):X9 s x (neg y) a (-1 - b) n=Yy (X9 s x y a b n):=by
 unfold X9
 rw[Z2r _ _ _ hb,Z3T,Z3V,←Zlc,Zvk,Zvk]
theorem Z2s(s:SysM)(x y:Iv)(a b n:Int)(hb: -1000000≤b∧b≤1000000):
 (Zed s x (neg y) a (-1 - b) n).2=(Zed s x y a b n).2∧((Zed s x y a b n).2=true→(Zed s x (neg y) a (-1 - b) n).1=Yy (Zed s x y a b n).1):=by
 unfold Zed
 rw[ZxQ _ _ _ _ _ _ hb,show (Yy (X9 s x y a b n)).o=ZT (X9 s x y a b n).o from rfl,show (Yy (X9 s x y a b n)).d=ZT (X9 s x y a b n).d from rfl,Zfq,Zfq]
 cases YN (X9 s x y a b n).o&&YN (X9 s x y a b n).d
 ·exact ⟨rfl,fun h=>absurd (show false=true from h) (by decide)⟩
 ·exact ⟨rfl,fun _=>rfl⟩
structure Mir(z w:Cx):Prop where
 z1:ZY z=true
 w1:ZY w=true
 re:ZB w.re=ZB z.re
 im:ZB w.im= -1 - ZB z.im
 bd: -1000000≤ZB z.im∧ZB z.im≤1000000
theorem Zjf{s:SysM}{l:List Shape}{x y:Iv}{z w:Cx}{n:Int}(hl:∀f∈l,∀q,hit f (Yy q)=hit f q)(h:Mir z w)(c:Nat):Y5 s l x (neg y) w n c=Y5 s l x y z n c:=by
 unfold Y5 Wb
 rw[h.z1,h.w1,h.re,h.im]
 cases J8 s n
 ·rfl
 ·simp only[QZ_,Qb_]
  obtain ⟨e1,e2⟩:=Z2s s x y (ZB z.re) (ZB z.im) n h.bd
  rw[e1]
  cases hA:(Zed s x y (ZB z.re) (ZB z.im) n).2
  ·rfl
  ·simp only[Qb_]
   rw[e2 hA,Z2p hl]
theorem Znc(s:S3)(l:List Shape)(x y:Iv)(n:Int)(z:Cx)(ds:List Cx)(p:Pixel):JY s l x y n (z::ds) p=JY s l x y n ds (ZaT s l x y n p z):=by unfold JY;rw[List.foldl_cons]
theorem Zul{s:S3}{l:List Shape}{x y:Iv}{z w:Cx}{n:Int}(hl:∀f∈l,∀q,hit f (Yy q)=hit f q)(h:Mir z w)(p:Pixel):ZaT s l x (neg y) n p w=ZaT s l x y n p z:=by
 unfold ZaT
 rw[Zjf hl h,Zjf hl h,Zjf hl h]
theorem Zjg{s:S3}{l:List Shape}{x y:Iv}{n:Int}(hl:∀f∈l,∀q,hit f (Yy q)=hit f q){f:Cx→Cx}(ds:List Cx):∀(p:Pixel),(∀z∈ds,Mir z (f z))→JY s l x (neg y) n (ds.map f) p=JY s l x y n ds p:=by
 induction ds with
 | nil=>intro p _;unfold JY;rw[QN_,List.foldl_nil,List.foldl_nil]
 | cons z ds ih=>
   intro p h
   rw[QE_,Znc,Znc,Zul hl (h z Qv_)]
   exact ih _ fun w hw=>h w (Qq_ _ hw)
theorem Z2t(p:Int):JZ p 2 3=neg (JZ p 0 3)∧JZ p 0 3=neg (JZ p 2 3)∧JZ p 1 3=neg (JZ p 1 3):=by
 have e0:JZ p 0 3=times (point p) (-2):=rfl
 have e1:JZ p 1 3=times (point p) 0:=rfl
 have e2:JZ p 2 3=times (point p) 2:=rfl
 rw[e0,e1,e2]
 refine ⟨?_,ZbO _ _,ZbO _ 0⟩
 rw[←ZbO];rfl
theorem Z0m{s:S3}{l:List Shape}{p n:Int}(hl:∀f∈l,∀q,hit f (Yy q)=hit f q){f:Cx→Cx}{ds:List Cx}(h:∀z∈ds,Mir z (f z)):
 Xp s l 1 3 p n (ds.map f) 2 0=Xp s l 1 3 p n ds 0 0∧Xp s l 1 3 p n (ds.map f) 1 0=Xp s l 1 3 p n ds 1 0∧Xp s l 1 3 p n (ds.map f) 0 0=Xp s l 1 3 p n ds 2 0:=by
 obtain ⟨e0,e2,e1⟩:=Z2t p
 unfold Xp
 refine ⟨?_, ?_, ?_⟩
 ·rw[e0];exact Zjg hl ds _ h
 ·conv=>lhs;rw[e1]
  exact Zjg hl ds _ h
 ·conv=>lhs;rw[e2]
  exact Zjg hl ds _ h
theorem Z2u:∀k:Fin 18,XJ (FloatKind.f64.nearest ((k.val:Int) - 9))=true∧ZB (FloatKind.f64.nearest ((k.val:Int) - 9))=(k.val:Int) - 9∧XJ (Op.negFloat .f64 (FloatKind.f64.nearest ((k.val:Int) - 9)))=true∧ZB (Op.negFloat .f64 (FloatKind.f64.nearest ((k.val:Int) - 9)))= -((k.val:Int) - 9):=by
 decide+kernel
theorem small{x:Int}(h: -9≤x∧x≤8):XJ (FloatKind.f64.nearest x)=true∧ZB (FloatKind.f64.nearest x)=x∧XJ (Op.negFloat .f64 (FloatKind.f64.nearest x))=true∧ZB (Op.negFloat .f64 (FloatKind.f64.nearest x))= -x:=by
 have:=Z2u ⟨(x+9).toNat,by omega⟩
 simp only at this
 rw[show ((x+9).toNat:Int) - 9=x by omega] at this
 exact this
theorem ZdI{a b:Int}(ha: -8≤a∧a≤7)(hb: -8≤b∧b≤7):Mir (Yp a b) (Zdg (Yp a b))∧Zdg (Yp a b)=Yp a (-1 - b)∧ZY (Yp a b)=true∧ZY ⟨(Yp a b).re,Op.negFloat .f64 (Yp a b).im⟩=true:=by
 obtain ⟨a1,a2,a3,a4⟩:=small (x:=a) (by omega)
 obtain ⟨b1,b2,b3,b4⟩:=small (x:=b) (by omega)
 obtain ⟨c1,c2,c3,c4⟩:=small (x:= -b) (by omega)
 obtain ⟨d1,d2,d3,d4⟩:=small (x:= -1 - b) (by omega)
 have w1:ZY (Yp a b)=true:=by unfold ZY Yp;simp only[a1,b1,QZ_]
 have e1:Zin (Yp a b)=Yp a (-b):=by
  unfold Zin
  rw[w1,Qb_]
  show Yp (ZB (FloatKind.f64.nearest a)) (ZB (Op.negFloat .f64 (FloatKind.f64.nearest b)))=_
  rw[a2,b4]
 have w2:ZY (Yp a (-b))=true:=by unfold ZY Yp;simp only[a1,c1,QZ_]
 have e2:Zdg (Yp a b)=Yp a (-1 - b):=by
  unfold Zdg ofC
  rw[e1,w2]
  simp only[Qb_]
  show Yp (ZB (FloatKind.f64.nearest a)) (IntKind.i64.wrap (ZB (FloatKind.f64.nearest (-b)) - 1))=_
  rw[a2,c2,Zf (by constructor<;>omega),show -b - 1= -1 - b by omega]
 have w3:ZY (Yp a (-1 - b))=true:=by unfold ZY Yp;simp only[a1,d1,QZ_]
 refine ⟨?_,e2,w1, ?_⟩
 ·rw[e2]
  refine ⟨w1,w3,rfl, ?_, ?_⟩
  ·show ZB (FloatKind.f64.nearest (-1 - b))= -1 - ZB (FloatKind.f64.nearest b)
   rw[d2,b2]
  ·show -1000000≤ZB (FloatKind.f64.nearest b)∧ZB (FloatKind.f64.nearest b)≤1000000
   rw[b2];omega
 ·unfold ZY Yp;simp only[a1,b3,QZ_]
theorem Z2v(l:List I){n:Int}(hn:1≤n∧n≤8)(i:Int):∃a b,ZjB l n i=Yp a b∧(-n≤a∧a≤n - 1)∧(-n≤b∧b≤n - 1):=by
 have e:IntKind.i64.wrap (2 *n)=2 *n:=Zf (by constructor<;>omega)
 unfold ZjB
 rw[e]
 have p1:=XB (n:=(l.getD i.toNat ⟨0⟩).n) (m:=2 *n) (by omega)
 have p2:=XB (n:=w64 ((l.getD i.toNat ⟨0⟩).n.tdiv 40)) (m:=2 *n) (by omega)
 exact ⟨_,_,rfl,by rw[Zf (by constructor<;>omega)];omega,by rw[Zf (by constructor<;>omega)];omega⟩
theorem Znd(l:List I){n:Int}(hn:1≤n∧n≤8):∀(k:Nat) (i:Int),∀z∈Wr n k l i,∃a b,z=Yp a b∧(-n≤a∧a≤n - 1)∧(-n≤b∧b≤n - 1)
 | 0,_,z,hz=>absurd hz (by simp[Wr])
 | k+1,i,z,hz=>by
   rw[Zbz] at hz
   cases hc:(decide (i < (l.length:Int))&&decide (i < 5)) with
   | false=>rw[hc] at hz;exact absurd hz (by simp)
   | true=>
     rw[hc,Qb_] at hz
     rcases Q9_.1 hz with rfl | hz
     ·exact Z2v l hn i
     ·exact Znd l hn k (i+1) z hz
theorem Ztt(l:List I){n:Int}(hn:1≤n∧n≤8):∀z∈Zb0 l n,∃a b,z=Yp a b∧(-n≤a∧a≤n - 1)∧(-n≤b∧b≤n - 1):=Znd l hn 5 0
def ZjR(zz:Int):List Shape:=[⟨2,⟨0,0⟩,⟨0,0⟩,⟨IntKind.i64.wrap (70+pick zz 100),0⟩,⟨0,0⟩,⟨200,100,50⟩⟩]
theorem Zum(zz:Int):YQ (ZjR zz)=true:=by
 have p:=XB (n:=zz) (m:=100) (by omega)
 have e:IntKind.i64.wrap (70+pick zz 100)=70+pick zz 100:=Zf (by constructor<;>omega)
 unfold YQ ZjR
 rw[e]
 simp only[Qs_,Q1_,List.all_cons,List.all_nil,Qr_]
 unfold ZL
 simp[ZX,ZM,YF]
 omega
theorem Z0n(zz:Int):∀f∈ZjR zz,∀q,hit f (Yy q)=hit f q:=fun f hf q=>by
 rcases Q9_.1 hf with rfl | h
 ·exact Z2q _ _ _ _ _ _
 ·exact absurd h (by simp)
theorem Z2w{a b n:Int}(hn:1≤n∧n≤8)(ha: -n≤a∧a≤n - 1)(hb: -n≤b∧b≤n - 1):YO (Yp a b) n=true:=by
 obtain ⟨a1,a2,_,_⟩:=small (x:=a) (by omega)
 obtain ⟨b1,b2,_,_⟩:=small (x:=b) (by omega)
 have w1:ZY (Yp a b)=true:=by unfold ZY Yp;simp only[a1,b1,QZ_]
 have i1:ZB (Yp a b).re=a:=a2
 have i2:ZB (Yp a b).im=b:=b2
 unfold YO Yw
 rw[w1,i1,i2,Zf (show Fit (0 - n) by constructor<;>omega),Zf (show Fit (n - 1) by constructor<;>omega)]
 simp only[Qp_,Qh_,Qc_]
 omega
theorem ZoT{s:S3}{zz pitch n:Int}{ds:List Cx}(hs:Xq s.a=false∧Xq s.b=false∧Xq s.c=false)(hp:1≤pitch∧pitch≤1048576)(hn:1≤n∧n≤8)(hd:ds.length≤5)
 (h:∀z∈ds,∃a b,z=Yp a b∧(-n≤a∧a≤n - 1)∧(-n≤b∧b≤n - 1)):ZaF s (ZjR zz) 1 3 pitch n ds=true:=by
 unfold ZaF
 have e1:(ds.any fun z=> !YO z n)=false:=by
  rw[List.any_eq_false]
  intro z hz
  obtain ⟨a,b,rfl,ha,hb⟩:=h z hz
  rw[Z2w hn ha hb];decide
 have e2:([s.a,s.b,s.c].any Xq)=false:=by simp only[QU_,List.any_nil,hs.1,hs.2.1,hs.2.2,Q3_]
 rw[Zum,e1,e2]
 simp[X8,Yw]
 omega
theorem Zvl{s:S3}{l:List Shape}{pitch n:Int}{ds:List Cx}(h:ZaF s l 1 3 pitch n ds=true):X0 s l 1 3 pitch n ds=([Xp s l 1 3 pitch n ds 0 0,Xp s l 1 3 pitch n ds 1 0,Xp s l 1 3 pitch n ds 2 0],0):=by
 unfold X0
 rw[h];rfl
theorem Z0o{s:S3}{zz pitch n:Int}{ds:List Cx}(hs:Xq s.a=false∧Xq s.b=false∧Xq s.c=false)(hp:1≤pitch∧pitch≤1048576)(hn:1≤n∧n≤8)(hd:ds.length≤5)
 (h:∀z∈ds,∃a b,z=Yp a b∧(-n≤a∧a≤n - 1)∧(-n≤b∧b≤n - 1)):∃p q r,X0 s (ZjR zz) 1 3 pitch n ds=([p,q,r],0)∧X0 s (ZjR zz) 1 3 pitch n (ds.map Zdg)=([r,q,p],0):=by
 have h2:∀z∈ds,Mir z (Zdg z):=fun z hz=>by
  obtain ⟨a,b,rfl,ha,hb⟩:=h z hz
  exact (ZdI (by omega) (by omega)).1
 have h3:∀z∈ds.map Zdg,∃a b,z=Yp a b∧(-n≤a∧a≤n - 1)∧(-n≤b∧b≤n - 1):=fun z hz=>by
  obtain ⟨w,hw,rfl⟩:=Ku_.1 hz
  obtain ⟨a,b,rfl,ha,hb⟩:=h w hw
  exact ⟨a,-1 - b,(ZdI (by omega) (by omega)).2.1,ha,by omega⟩
 obtain ⟨e1,e2,e3⟩:=Z0m (s:=s) (p:=pitch) (n:=n) (Z0n zz) h2
 refine ⟨_,_,_,Zvl (ZoT hs hp hn hd h), ?_⟩
 rw[Zvl (ZoT hs hp hn (by rw[Qk_];exact hd) h3),e1,e2,e3]
theorem Zld(x:Int):Zd Shape.dec [[PV.v (Value.int IntKind.i64 2),PV.v (Value.int IntKind.i64 0),PV.v (Value.int IntKind.i64 0),PV.v (Value.int IntKind.i64 0),PV.v (Value.int IntKind.i64 0),PV.v (Value.int IntKind.i64 x),PV.v (Value.int IntKind.i64 0),PV.v (Value.int IntKind.i64 0),PV.v (Value.int IntKind.i64 0),PV.v (Value.int IntKind.i64 200),PV.v (Value.int IntKind.i64 100),PV.v (Value.int IntKind.i64 50)]]=[⟨2,⟨0,0⟩,⟨0,0⟩,⟨x,0⟩,⟨0,0⟩,⟨200,100,50⟩⟩]:=rfl
theorem Ztu(s:S3):(⟨⟨s.a.surfs,s.a.op⟩,⟨s.b.surfs,s.b.op⟩,⟨s.c.surfs,s.c.op⟩⟩:S3)=s:=rfl
theorem Zf9(back:Int)(l:List RawFace)(zz pitch n:Int)(ds:List I)(h0:(((WB back l 2 true).a.surfs.length:Int)==0)=false)(h1:(((WB back l 2 true).b.surfs.length:Int)==0)=false)(h2:(((WB back l 2 true).c.surfs.length:Int)==0)=false):
 ∃p q r,X0 (WB back l 2 true) [⟨2,⟨0,0⟩,⟨0,0⟩,⟨IntKind.i64.wrap (70+pick zz 100),0⟩,⟨0,0⟩,⟨200,100,50⟩⟩] 1 3 (IntKind.i64.wrap (1+pick pitch 131072)) (IntKind.i64.wrap (1+pick n 8)) (Zb0 ds (IntKind.i64.wrap (1+pick n 8)))=([p,q,r],0)∧
  X0 (WB back l 2 true) [⟨2,⟨0,0⟩,⟨0,0⟩,⟨IntKind.i64.wrap (70+pick zz 100),0⟩,⟨0,0⟩,⟨200,100,50⟩⟩] 1 3 (IntKind.i64.wrap (1+pick pitch 131072)) (IntKind.i64.wrap (1+pick n 8)) ((Zb0 ds (IntKind.i64.wrap (1+pick n 8))).map Zdg)=([r,q,p],0):=by
 have p1:=XB (n:=pitch) (m:=131072) (by omega)
 have p2:=XB (n:=n) (m:=8) (by omega)
 have e2:IntKind.i64.wrap (1+pick n 8)=1+pick n 8:=Zf (by constructor<;>omega)
 have e1:IntKind.i64.wrap (1+pick pitch 131072)=1+pick pitch 131072:=Zf (by constructor<;>omega)
 have hn:1≤IntKind.i64.wrap (1+pick n 8)∧IntKind.i64.wrap (1+pick n 8)≤8:=by omega
 exact Z0o (zz:=zz) ⟨h0,h1,h2⟩ (by omega) hn (Zdu _ _) (Ztt ds hn)
theorem Z0p(ds:List I)(n:Int):∀z∈Zb0 ds (IntKind.i64.wrap (1+pick n 8)),DrB z:=fun z hz=>by
 have p2:=XB (n:=n) (m:=8) (by omega)
 have e2:IntKind.i64.wrap (1+pick n 8)=1+pick n 8:=Zf (by constructor<;>omega)
 obtain ⟨a,b,rfl,ha,hb⟩:=Ztt ds (n:=IntKind.i64.wrap (1+pick n 8)) (by omega) z hz
 exact ⟨a,b,rfl,by omega,by omega⟩
end Go.Men
namespace Go.Men
open Go.Ev Go.Proofs Go.Proofs.YtfeldacghdcghaaGreatDoor
theorem Z6z:Zi Tryz.prog 16 e16:=Zj<|Zg fun z=>EZ1 fun hp0=>by
 refine cf0 (Za Zxn<|Za Z5Z<|Za Z5Y<|Ze) (fn:=Tryz.f16) rfl ?_
 refine sxT (fun Q=>(bif !ZY z then Q (PV.v (Value.complex FloatKind.f64 (0) (0))) else ((ZY (Cx.mk z.re (Op.negFloat FloatKind.f64 z.im))=true)∧Q (PV.v (Value.complex FloatKind.f64 ((Yp (ZB z.re) (ZB (Op.negFloat FloatKind.f64 z.im))).re) ((Yp (ZB z.re) (ZB (Op.negFloat FloatKind.f64 z.im))).im)))))) (fun _=>by kernel_rfl) ?_
 delta Qn
 refine Zb (fun h0=>?_) (fun h0=>⟨?r0, ?_⟩)
 case r0=>(first | rfl | exact hp0.2 | omega | skip)
 all_goals simp only[Zin,hp0.1,hp0.2,bne,Qu_,Qt_,Qi_,Qf_,Qb_,Qd_] at *
 all_goals first | rfl | (exfalso;simp_all;done) | skip
def Z0q:=YC [(7,e7),(8,e8),(9,e9),(10,e10),(16,e16),(15,e15),(17,e17),(12,e12)]
set_option maxHeartbeats 8000000 in
def Zhp(i:Int)(d:List Cx):=((List.map Cx.enc d).getD i.toNat []).headD PV.nil
def Zne(i:Int)(d:List Cx):=ofC (Zin (Cx.mk (Zk3 (Zhp i d)) (Zk4 (Zhp i d))))
def ZxR(s:S3):=[(13,[PV.lst (List.map Surf.enc s.a.surfs),vI s.a.op.lo,vI s.a.op.hi,vB s.a.op.no,PV.lst (List.map Surf.enc s.b.surfs),vI s.b.op.lo,vI s.b.op.hi,vB s.b.op.no,PV.lst (List.map Surf.enc s.c.surfs),vI s.c.op.lo,vI s.c.op.hi,vB s.c.op.no])]
def Zqm(i:Int)(d:List Cx):=IntKind.i64.wrap ((Zne i d).fst.y - (1:Int))
def Znf(i:Int)(d:List Cx):=Yp (Zne i d).fst.x (Zqm i d)
theorem Zng:CSOk Tryz.prog Z0q:=Za Z70<|Za Z71<|Za ZnS<|Za Z6v<|Za Z6z<|Za Z6d<|Za Z6a<|Za Z2R<|Ze
set_option maxHeartbeats 8000000 in
theorem Ztv:Yt Tryz.prog (Zt Tryz.f5 0) Zf8:=by
 refine lsG Zl.Γ (Z6 Zl Zng ZA Z7 (ZdA (G:=(Gx.mk [] [] [(10,41)] [] [])) (Zrj (g:=e10) rfl Z2i<|Zd9) (ZdV)) (LS:=[]) (ZV (l:=[]) (by kernel_rfl) Zu) (n:=2000) (U9 Zkj) (U9 Jw) (fun x e s=>(e= .exit 0∧s=U9 Zcz x)) (fun x=>(x.2.1 - x.1).toNat) Zkk ZrO ZrP (fun x hx=>?_)) cv9 (fun _=>rfl) (fun _ h=>h) (fun _ _ _ _ h f=>fE h f)
 ·obtain ⟨i,len,d,m,n,zz,pitch,e,s⟩:=x
  simp only[U9,Jw] at hx
  refine sxT (fun Q=>(bif decide (i < len) then (((0:Int)≤i∧(List.map Cx.enc d)[i.toNat]?=some (ZW [PV.v (Value.complex FloatKind.f64 (0:Nat) (0:Nat))] ((List.map Cx.enc d).getD i.toNat [])))∧((ZY (Cx.mk (Zk3 (Zhp i d)) (Zk4 (Zhp i d)))=true∧ZY (Cx.mk (Zk3 (Zhp i d)) (Op.negFloat FloatKind.f64 (Zk4 (Zhp i d))))=true)∧(([vI (Zne i d).fst.x,vI (Zqm i d)]=(Pair.mk (Zne i d).fst.x (Zqm i d)).enc)∧(((0:Nat) < (1:Nat)∧((List.map Cx.enc m).length+(1:Nat))* (16:Nat)≤(140737488355328:Nat)∧Lens (1:Nat) (List.map Cx.enc m++[[PV.v (Value.complex FloatKind.f64 (Znf i d).re (Znf i d).im)]]))∧Q (Ex.normal) (some ⟨151,[(56,AV.p (vI (IntKind.i64.wrap (i+(1:Int))))),(55,pI len),(54,AV.p (PV.lst (List.map Cx.enc d))),(15,AV.p (PV.lst (List.map Cx.enc m++[[PV.v (Value.complex FloatKind.f64 ((Znf i d).re) ((Znf i d).im))]]))),(4,pI n),(2,pI zz),(3,pI pitch),(14,AV.p (PV.lst (List.map Cx.enc e))),(13,AV.ptr 13 0)],(ZxR s),[],[(Loc.t (nat_lit 15),nat_lit 41)],[]⟩))))) else Q (Ex.exit (0:Nat)) (some ⟨151,[(15,AV.p (PV.lst (List.map Cx.enc m))),(4,pI n),(2,pI zz),(3,pI pitch),(14,AV.p (PV.lst (List.map Cx.enc e))),(13,AV.ptr 13 0)],(ZxR s),[],[],[]⟩))) (fun _=>by kernel_rfl) ?_
  delta Zne ZxR Zhp Zqm Znf vI vB pI
  refine Zb (fun h0=>⟨?r3,⟨?r2,⟨?r1,⟨?r0, ?_⟩⟩⟩⟩) (fun h0=>?_)
  case r0|r1|r2|r3=>first | rfl | omega | (rw[dI];done) | (rw[Xi];done) | (rw[dCx];done) | (rw[Xb];done) | (obtain ⟨a1,a2,a3,a4,a5,a6⟩:=hx;simp only[Qc_] at h0;subst a3;first | exact ZH (fun _=>rfl) (by omega) (by omega) | exact ⟨by decide,by simp only[Qk_];omega,Wa (XZ (e:=Cx.enc) (fun _=>rfl) _) rfl⟩ | (obtain ⟨z,t,e1,e2,e3⟩:=Yu a1 h0;obtain ⟨a,b,rfl,ha,hb⟩:=a6 z (Qz_ e3);simp only[Yz e3];exact ⟨(ZdI ha hb).2.2.1,(ZdI ha hb).2.2.2⟩)) | (simp only[dI];have p2:=XB (n:=n) (m:=8) (by omega);have e2:IntKind.i64.wrap (1+pick n 8)=1+pick n 8:=Zf (by constructor<;>omega);rw[e2];omega) | (simp only[dI,Xi,Z3,dCx,Xb,Zld,Ztu,Qk_,QG_,QO_,QJ_,show Zd Cx.dec []=[] from rfl,bne] at *;first | rfl | omega | (have k:=Zkf back l 2 true;omega) | (have k2:(Zb0 ds (IntKind.i64.wrap (1+pick n 8))).length≤5:=Zdu _ _;omega) | (obtain ⟨p,q,r,E1,E2⟩:=Zf9 back l zz pitch n ds h0 h1 h2;(try simp only[E1,E2] at *);first | rfl | omega | (exact ⟨by decide,rfl⟩) | skip) | skip) | skip
  all_goals obtain ⟨a1,a2,a3,a4,a5,a6⟩:=hx
  all_goals subst a3
  all_goals (try simp only[Qc_,Qe_] at h0)
  ·have hw:IntKind.i64.wrap (i+1)=i+1:=Zf (by constructor<;>omega)
   obtain ⟨z,t,e1,e2,e3⟩:=Yu a1 (show i < ((List.length d:Nat):Int) by omega)
   simp only[Yz e3] at *
   refine .inl ⟨by trivial,(IntKind.i64.wrap (i+1),(d.length:Int),d,m++[Zdg z],n,zz,pitch,e,s), ?_, ?_, ?_, ?_⟩
   ·simp only[U9,Zkj,QR_,QE_,QN_];rfl
   ·simp only[U9,Jw,hw,Qx_,Qs_,Q1_];exact ⟨by omega,by omega,by trivial,a4,by omega,a6⟩
   ·simp only[hw];omega
   ·intro e' s' hh;refine ⟨hh.1,hh.2.trans ?_⟩;unfold U9 Zcz;(try dsimp only);rw[hw,e1,e2];simp only[List.map_cons,List.append_assoc,List.cons_append,List.nil_append]
  ·exact .inr ⟨by simp,_,rfl,by trivial,by unfold U9 Zcz;(try dsimp only);rw[List.drop_eq_nil_of_le (by omega)];(simp only[List.map_nil,List.append_nil])<;>rfl⟩
theorem Zun:ZF Tryz.prog [(9,Zf8)] Tryz.f5:=ZN (l:=[Zt Tryz.f5 0]) (by kernel_rfl) (ZE (i:=9) (by kernel_rfl) rfl Ztv (Zu))
def zSy(back:Int)(l:List RawFace):=WB back (Zd RawFace.dec (List.map RawFace.enc l)) (2:Int) true
def zDr(n:Int)(ds:List I):=Zb0 (Zd I.dec (List.map I.enc ds)) (IntKind.i64.wrap ((1:Int)+pick n (8:Int)))
def ZeE(back:Int)(l:List RawFace):=List.map Surf.enc (zSy back l).a.surfs
def ZeF(back:Int)(l:List RawFace):=List.map Surf.enc (zSy back l).b.surfs
def ZeG(back:Int)(l:List RawFace):=List.map Surf.enc (zSy back l).c.surfs
def Znh(back:Int)(l:List RawFace):=S3.mk (SysM.mk (Zd Surf.dec (List.map Surf.enc (Zd Surf.dec (ZeE back l)))) (zSy back l).a.op) (SysM.mk (Zd Surf.dec (List.map Surf.enc (Zd Surf.dec (ZeF back l)))) (zSy back l).b.op) (SysM.mk (Zd Surf.dec (List.map Surf.enc (Zd Surf.dec (ZeG back l)))) (zSy back l).c.op)
def Zhq(zz:Int):=[[vI 2,vI 0,vI 0,vI 0,vI 0,vI (IntKind.i64.wrap ((70:Int)+pick zz (100:Int))),vI 0,vI 0,vI 0,vI 200,vI 100,vI 50]]
def Zgg(n:Int):=(1:Int)+pick n (8:Int)
def JO(n:Int)(ds:List I):=Zd Cx.dec (List.map Cx.enc (zDr n ds))
def Zni(n:Int)(ds:List I):=Zd Cx.dec (List.map Cx.enc (Zd Cx.dec []++List.map Zdg (List.drop (0:Nat) (JO n ds))))
def ZxS(back:Int)(l:List RawFace)(zz:Int)(pitch:Int)(n:Int)(ds:List I):=X0 (Znh back l) (Zd Shape.dec (Zhq zz)) (1:Int) (3:Int) (IntKind.i64.wrap ((1:Int)+pick pitch (131072:Int))) (IntKind.i64.wrap (Zgg n)) (Zni n ds)
def ZxT(back:Int)(l:List RawFace)(zz:Int)(pitch:Int)(n:Int)(ds:List I):=X0 (Znh back l) (Zd Shape.dec (Zhq zz)) (1:Int) (3:Int) (IntKind.i64.wrap ((1:Int)+pick pitch (131072:Int))) (IntKind.i64.wrap (Zgg n)) (Zd Cx.dec (List.map Cx.enc (JO n ds)))
def ZcY(back:Int)(l:List RawFace)(zz:Int)(pitch:Int)(n:Int)(ds:List I):=List.map Pixel.enc (ZxT back l zz pitch n ds).fst
def ZcZ(back:Int)(l:List RawFace)(zz:Int)(pitch:Int)(n:Int)(ds:List I):=List.map Pixel.enc (ZxS back l zz pitch n ds).fst
def Ztw(back:Int)(l:List RawFace):=[PV.lst (List.map Surf.enc (Zd Surf.dec (ZeE back l))),vI (zSy back l).a.op.lo,vI (zSy back l).a.op.hi,vB (zSy back l).a.op.no,PV.lst (List.map Surf.enc (Zd Surf.dec (ZeF back l))),vI (zSy back l).b.op.lo,vI (zSy back l).b.op.hi,vB (zSy back l).b.op.no,PV.lst (List.map Surf.enc (Zd Surf.dec (ZeG back l))),vI (zSy back l).c.op.lo,vI (zSy back l).c.op.hi,vB (zSy back l).c.op.no]
def Ztx(back:Int)(l:List RawFace):=(Zd Surf.dec (List.map Surf.enc (Zd Surf.dec (ZeE back l)))).length≤(1000000:Nat)∧(Zd Surf.dec (List.map Surf.enc (Zd Surf.dec (ZeF back l)))).length≤(1000000:Nat)∧(Zd Surf.dec (List.map Surf.enc (Zd Surf.dec (ZeG back l)))).length≤(1000000:Nat)
def Zty(back:Int)(l:List RawFace):=S3.mk (SysM.mk (Zd Surf.dec (ZeE back l)) (zSy back l).a.op) (SysM.mk (Zd Surf.dec (ZeF back l)) (zSy back l).b.op) (SysM.mk (Zd Surf.dec (ZeG back l)) (zSy back l).c.op)
def ZeH:=[vI 0,vI 0,vI 0,vI 0,vI 0,vI 0,vI 0]
def ZbP(back:Int)(l:List RawFace)(zz:Int)(pitch:Int)(n:Int)(ds:List I):=(ZcY back l zz pitch n ds).getD (0:Nat) []
def ZbQ(back:Int)(l:List RawFace)(zz:Int)(pitch:Int)(n:Int)(ds:List I):=(ZcZ back l zz pitch n ds).getD (2:Nat) []
def ZbR(back:Int)(l:List RawFace)(zz:Int)(pitch:Int)(n:Int)(ds:List I):=(ZcY back l zz pitch n ds).getD (1:Nat) []
def ZbS(back:Int)(l:List RawFace)(zz:Int)(pitch:Int)(n:Int)(ds:List I):=(ZcZ back l zz pitch n ds).getD (1:Nat) []
def ZbT(back:Int)(l:List RawFace)(zz:Int)(pitch:Int)(n:Int)(ds:List I):=(ZcY back l zz pitch n ds).getD (2:Nat) []
def ZbU(back:Int)(l:List RawFace)(zz:Int)(pitch:Int)(n:Int)(ds:List I):=(ZcZ back l zz pitch n ds).getD (0:Nat) []
set_option maxHeartbeats 8000000 in
theorem Zuo(back:Int)(l:List RawFace)(zz:Int)(pitch:Int)(n:Int)(ds:List I)(hp0:l.length≤140737488355328∧ds.length≤140737488355328):Con Tryz.prog 5 [.v (.int .i64 back),.lst (l.map RawFace.enc),.v (.int .i64 zz),.v (.int .i64 pitch),.v (.int .i64 n),.lst (ds.map I.enc)] (.v (.bool true)):=by
 refine ZaG Zl Zng ZA Z7 (ZdA (G:=(Gx.mk [] [] [(10,41)] [] [])) (Zrj (g:=e10) rfl Z2i<|Zd9) (ZdV)) (n:=2000) (LS:=[(9,Zf8)]) (fn:=Tryz.f5) rfl Zun ?_
 refine sxT (fun Q=>((List.map RawFace.enc l=List.map RawFace.enc (Zd RawFace.dec (List.map RawFace.enc l)))∧(((Zd RawFace.dec (List.map RawFace.enc l)).length≤(140737488355328:Nat)∧(0:Int)≤(2:Int)∧(2:Int)≤(12:Int))∧(((0:Int)≤(0:Int)∧(0:Int) < (3:Int))∧(bif ↑(ZeE back l).length==(0:Int) then Q (vB true) else (((0:Int)≤(1:Int)∧(1:Int) < (3:Int))∧(bif ↑(ZeF back l).length==(0:Int) then Q (vB true) else (((0:Int)≤(2:Int)∧(2:Int) < (3:Int))∧(bif ↑(ZeG back l).length==(0:Int) then Q (vB true) else (((0:Int) < (8:Int)∧(8:Int)≤(4611686018427387904:Int))∧((List.map I.enc ds=List.map I.enc (Zd I.dec (List.map I.enc ds)))∧(((Zd I.dec (List.map I.enc ds)).length≤(140737488355328:Nat)∧(1:Int)≤IntKind.i64.wrap (Zgg n)∧IntKind.i64.wrap (Zgg n)≤(8:Int))∧((List.map Cx.enc (zDr n ds)=List.map Cx.enc (JO n ds))∧(([]=List.map Cx.enc (Zd Cx.dec []))∧((List.map Cx.enc (zDr n ds)=List.map Cx.enc (JO n ds))∧(([PV.lst (ZeE back l),vI (zSy back l).a.op.lo,vI (zSy back l).a.op.hi,vB (zSy back l).a.op.no,PV.lst (ZeF back l),vI (zSy back l).b.op.lo,vI (zSy back l).b.op.hi,vB (zSy back l).b.op.no,PV.lst (ZeG back l),vI (zSy back l).c.op.lo,vI (zSy back l).c.op.hi,vB (zSy back l).c.op.no]=(Zty back l).enc)∧((Jw (0:Int) (↑(List.map Cx.enc (zDr n ds)).length) (JO n ds) (Zd Cx.dec []) (IntKind.i64.wrap (Zgg n)) zz pitch (JO n ds) (Zty back l))∧(((0:Int) < (131072:Int)∧(131072:Int)≤(4611686018427387904:Int))∧(((0:Int) < (100:Int)∧(100:Int)≤(4611686018427387904:Int))∧(((Ztw back l)=(Znh back l).enc)∧(((Zhq zz)=List.map Shape.enc (Zd Shape.dec (Zhq zz)))∧((List.map Cx.enc (JO n ds)=List.map Cx.enc (Zd Cx.dec (List.map Cx.enc (JO n ds))))∧((Ztx back l)∧(((1:Nat)≤(1000000:Nat)∧(Zd Cx.dec (List.map Cx.enc (JO n ds))).length≤(140737488355328:Nat))∧(((Ztw back l)=(Znh back l).enc)∧(((Zhq zz)=List.map Shape.enc (Zd Shape.dec (Zhq zz)))∧((List.map Cx.enc (Zd Cx.dec []++List.map Zdg (List.drop (0:Nat) (JO n ds)))=List.map Cx.enc (Zni n ds))∧((Ztx back l)∧(((1:Nat)≤(1000000:Nat)∧(Zni n ds).length≤(140737488355328:Nat))∧(bif (ZxT back l zz pitch n ds).snd==(0:Int) then (bif (ZxS back l zz pitch n ds).snd==(0:Int) then (bif ↑(ZcY back l zz pitch n ds).length==(3:Int) then (bif ↑(ZcZ back l zz pitch n ds).length==(3:Int) then (((0:Int)≤(0:Int)∧(ZcY back l zz pitch n ds)[(0:Nat)]?=some (ZW ZeH (ZbP back l zz pitch n ds)))∧(((0:Int)≤(2:Int)∧(ZcZ back l zz pitch n ds)[(2:Nat)]?=some (ZW ZeH (ZbQ back l zz pitch n ds)))∧(bif intOf ((ZbP back l zz pitch n ds).headD PV.nil)==intOf ((ZbQ back l zz pitch n ds).headD PV.nil)&&(intOf ((ZbP back l zz pitch n ds).tail.headD PV.nil)==intOf ((ZbQ back l zz pitch n ds).tail.headD PV.nil)&&(intOf ((ZbP back l zz pitch n ds).tail.tail.headD PV.nil)==intOf ((ZbQ back l zz pitch n ds).tail.tail.headD PV.nil)&&(intOf ((ZbP back l zz pitch n ds).tail.tail.tail.headD PV.nil)==intOf ((ZbQ back l zz pitch n ds).tail.tail.tail.headD PV.nil)&&(intOf ((ZbP back l zz pitch n ds).tail.tail.tail.tail.headD PV.nil)==intOf ((ZbQ back l zz pitch n ds).tail.tail.tail.tail.headD PV.nil)&&(intOf ((ZbP back l zz pitch n ds).tail.tail.tail.tail.tail.headD PV.nil)==intOf ((ZbQ back l zz pitch n ds).tail.tail.tail.tail.tail.headD PV.nil)&&(intOf ((ZbP back l zz pitch n ds).tail.tail.tail.tail.tail.tail.headD PV.nil)==intOf ((ZbQ back l zz pitch n ds).tail.tail.tail.tail.tail.tail.headD PV.nil)&&true)))))) then (((0:Int)≤(1:Int)∧(ZcY back l zz pitch n ds)[(1:Nat)]?=some (ZW ZeH (ZbR back l zz pitch n ds)))∧(((0:Int)≤(1:Int)∧(ZcZ back l zz pitch n ds)[(1:Nat)]?=some (ZW ZeH (ZbS back l zz pitch n ds)))∧(bif intOf ((ZbR back l zz pitch n ds).headD PV.nil)==intOf ((ZbS back l zz pitch n ds).headD PV.nil)&&(intOf ((ZbR back l zz pitch n ds).tail.headD PV.nil)==intOf ((ZbS back l zz pitch n ds).tail.headD PV.nil)&&(intOf ((ZbR back l zz pitch n ds).tail.tail.headD PV.nil)==intOf ((ZbS back l zz pitch n ds).tail.tail.headD PV.nil)&&(intOf ((ZbR back l zz pitch n ds).tail.tail.tail.headD PV.nil)==intOf ((ZbS back l zz pitch n ds).tail.tail.tail.headD PV.nil)&&(intOf ((ZbR back l zz pitch n ds).tail.tail.tail.tail.headD PV.nil)==intOf ((ZbS back l zz pitch n ds).tail.tail.tail.tail.headD PV.nil)&&(intOf ((ZbR back l zz pitch n ds).tail.tail.tail.tail.tail.headD PV.nil)==intOf ((ZbS back l zz pitch n ds).tail.tail.tail.tail.tail.headD PV.nil)&&(intOf ((ZbR back l zz pitch n ds).tail.tail.tail.tail.tail.tail.headD PV.nil)==intOf ((ZbS back l zz pitch n ds).tail.tail.tail.tail.tail.tail.headD PV.nil)&&true)))))) then (((0:Int)≤(2:Int)∧(ZcY back l zz pitch n ds)[(2:Nat)]?=some (ZW ZeH (ZbT back l zz pitch n ds)))∧(((0:Int)≤(0:Int)∧(ZcZ back l zz pitch n ds)[(0:Nat)]?=some (ZW ZeH (ZbU back l zz pitch n ds)))∧Q (vB (intOf ((ZbT back l zz pitch n ds).headD PV.nil)==intOf ((ZbU back l zz pitch n ds).headD PV.nil)&&(intOf ((ZbT back l zz pitch n ds).tail.headD PV.nil)==intOf ((ZbU back l zz pitch n ds).tail.headD PV.nil)&&(intOf ((ZbT back l zz pitch n ds).tail.tail.headD PV.nil)==intOf ((ZbU back l zz pitch n ds).tail.tail.headD PV.nil)&&(intOf ((ZbT back l zz pitch n ds).tail.tail.tail.headD PV.nil)==intOf ((ZbU back l zz pitch n ds).tail.tail.tail.headD PV.nil)&&(intOf ((ZbT back l zz pitch n ds).tail.tail.tail.tail.headD PV.nil)==intOf ((ZbU back l zz pitch n ds).tail.tail.tail.tail.headD PV.nil)&&(intOf ((ZbT back l zz pitch n ds).tail.tail.tail.tail.tail.headD PV.nil)==intOf ((ZbU back l zz pitch n ds).tail.tail.tail.tail.tail.headD PV.nil)&&(intOf ((ZbT back l zz pitch n ds).tail.tail.tail.tail.tail.tail.headD PV.nil)==intOf ((ZbU back l zz pitch n ds).tail.tail.tail.tail.tail.tail.headD PV.nil)&&true)))))))))) else Q (vB false)))) else Q (vB false)))) else Q (vB false)) else Q (vB false)) else Q (vB false)) else Q (vB false))))))))))))))))))))))))))))))) (fun _=>by kernel_rfl) ?_
 delta Qn ZxS ZxT Znh Zhq ZcY ZcZ Ztw Ztx JO Zty ZeH Zni ZeE ZeF ZeG Zgg ZbP ZbQ ZbR ZbS ZbT ZbU vI vB
 delta zSy zDr
 refine ⟨?r29,⟨?r28,⟨?r27,Zb (fun h0=>?_) (fun h0=>⟨?r26,Zb (fun h1=>?_) (fun h1=>⟨?r25,Zb (fun h2=>?_) (fun h2=>⟨?r24,⟨?r23,⟨?r22,⟨?r21,⟨?r20,⟨?r19,⟨?r18,⟨?_,⟨?r17,⟨?r16,⟨?r15,⟨?r14,⟨?r13,⟨?r12,⟨?r11,⟨?r10,⟨?r9,⟨?r8,⟨?r7,⟨?r6,Zb (fun h3=>Zb (fun h4=>Zb (fun h5=>Zb (fun h6=>⟨?r5,⟨?r4,Zb (fun h7=>⟨?r3,⟨?r2,Zb (fun h8=>⟨?r1,⟨?r0, ?_⟩⟩) (fun h8=>?_)⟩⟩) (fun h7=>?_)⟩⟩) (fun h6=>?_)) (fun h5=>?_)) (fun h4=>?_)) (fun h3=>?_)⟩⟩⟩⟩⟩⟩⟩⟩⟩⟩⟩⟩⟩⟩⟩⟩⟩⟩⟩⟩)⟩)⟩)⟩⟩⟩
 case r0|r1|r2|r3|r4|r5|r6|r7|r8|r9|r10|r11|r12|r13|r14|r15|r16|r17|r18|r19|r20|r21|r22|r23|r24|r25|r26|r27|r28|r29=>first | rfl | omega | (rw[dI];done) | (rw[Xi];done) | (rw[dCx];done) | (rw[Xb];done) | (obtain ⟨a1,a2,a3,a4,a5,a6⟩:=hx;simp only[Qc_] at h0;subst a3;first | exact ZH (fun _=>rfl) (by omega) (by omega) | exact ⟨by decide,by simp only[Qk_];omega,Wa (XZ (e:=Cx.enc) (fun _=>rfl) _) rfl⟩ | (obtain ⟨z,t,e1,e2,e3⟩:=Yu a1 h0;obtain ⟨a,b,rfl,ha,hb⟩:=a6 z (Qz_ e3);simp only[Yz e3];exact ⟨(ZdI ha hb).2.2.1,(ZdI ha hb).2.2.2⟩)) | (simp only[dI];have p2:=XB (n:=n) (m:=8) (by omega);have e2:IntKind.i64.wrap (1+pick n 8)=1+pick n 8:=Zf (by constructor<;>omega);rw[e2];omega) | (simp only[dI,Xi,Z3,dCx,Xb,Zld,Ztu,Qk_,QG_,QO_,QJ_,show Zd Cx.dec []=[] from rfl,bne] at *;first | rfl | omega | (have k:=Zkf back l 2 true;omega) | (have k2:(Zb0 ds (IntKind.i64.wrap (1+pick n 8))).length≤5:=Zdu _ _;omega) | (obtain ⟨p,q,r,E1,E2⟩:=Zf9 back l zz pitch n ds h0 h1 h2;(try simp only[E1,E2] at *);first | rfl | omega | (exact ⟨by decide,rfl⟩) | skip) | skip) | skip
 all_goals (try simp only[dI,Xi,dCx,Z3,Xb,Zld,Ztu,Qk_,QG_,QO_,QJ_,show Zd Cx.dec []=[] from rfl,bne] at *)
 all_goals first | rfl | (simp only[Jw];refine ⟨?_, ?_, ?_, ?_, ?_, ?_⟩<;>first | trivial | omega | exact Zdu _ _ | exact Z0p ds n | rfl | (simp;done)) | (obtain ⟨p,q,r,E1,E2⟩:=Zf9 back l zz pitch n ds h0 h1 h2;simp only[E1,E2] at *;first | rfl | (simp only[QE_,QN_,List.getD_cons_zero,List.getD_cons_succ,beq_self_eq_true,QZ_,Qr_];rfl) | (exfalso;simp at h3;done) | (exfalso;simp at h4;done) | (exfalso;simp at h5;done) | (exfalso;simp at h6;done) | (exfalso;simp at h7;done) | (exfalso;simp at h8;done) | (exfalso;simp at h9;done) | skip) | skip
end Go.Men
namespace Go.Ev
open Go.RowKit Go.ChangeShapes Go.Deep
inductive SK where
 | int (k:IntKind)
 | bool
 | str
def ZbV:SK→Value→Prop
 | .int k,v=>∃n,v= .int k n∧k.min≤n∧n≤k.max
 | .bool,v=>∃b,v= .bool b
 | .str,v=>∃s,v= .string s∧s.size≤maxLen
def px:Value→PV
 | .string s=> .str s.data.toList
 | v=> .v v
def skT(P:Program)(t:TypeId):Option SK:=match P.underlying t with
 | some (.int k)=>some (.int k)
 | some .bool=>some .bool
 | some .string=>some .str
 | _=>none
def Zqn{α β:Type}(f:Nat→α→Option β):Nat→List α→Option (List β)
 | _,[]=>some []
 | i,x::r=>match f i x,Zqn f (i+1) r with
   | some y,some l=>some (y::l)
   | _,_=>none
def ZxU(P:Program)(t:TypeId):Option (List SK):=match P.underlying t with
 | some (.struct fs)=>bif Nat.beq (P.cellsOf t) fs.size then Zqn (fun i (f:Field)=>bif Nat.beq f.offset i&&Nat.beq (P.cellsOf f.type) 1 then skT P f.type else none) 0 fs.toList else none
 | some (.array n e)=>bif Nat.beq (P.cellsOf t) n&&Nat.beq (P.cellsOf e) 1 then (match skT P e with | some k=>some (List.replicate n k) | none=>none) else none
 | _=>bif Nat.beq (P.cellsOf t) 1 then (match skT P t with | some k=>some [k] | none=>none) else none
section
variable {H:Type}{enc:TypeId×Value→H}{P:Program}{w:World}{base:Nat}{spare:Nat→Bool}{held:Bool}
theorem Zjh{t:TypeId}{k:SK}(hk:skT P t=some k){fuel:Nat}{cs:List Value}{x:DataW H×List MemPlace}(h:DataW.trod enc P w base spare held fuel t cs=some x):∃v,cs=[v]∧ZbV k v:=by
 unfold skT at hk
 split at hk
 ·rename_i k' hu
  cases Qa_ hk
  obtain ⟨n,h1,_,h2⟩:=DataW.trod_int hu h
  simp only[Lit.wf,Qh_,Qc_] at h2
  exact ⟨_,h1,n,rfl,h2.1,h2.2⟩
 ·rename_i hu
  cases Qa_ hk
  obtain ⟨b,h1,_⟩:=DataW.trod_bool hu h
  exact ⟨_,h1,b,rfl⟩
 ·rename_i hu
  cases Qa_ hk
  obtain ⟨s,h1,_,h2⟩:=DataW.trod_string hu h
  exact ⟨_,h1,s,rfl,h2⟩
 ·cases hk
theorem Zji{α β:Type}{f:α→Option β}:∀{l:List α} {r:List β},l.mapM f=some r→∀x∈l,∃y,f x=some y
 | [],_,_,x,hx=>absurd hx (by simp)
 | a::l,r,h,x,hx=>by
   rw[List.mapM_cons] at h
   obtain ⟨y,h1,h2⟩:=Option.bind_eq_some_iff.1 h
   obtain ⟨ys,h3,_⟩:=Option.bind_eq_some_iff.1 h2
   rcases Q9_.1 hx with e | hx
   ·subst e;exact ⟨y,h1⟩
   ·exact Zji h3 x hx
theorem ZoU{α β:Type}{f:Nat→α→Option β}:∀{l:List α} {i:Nat} {r:List β},Zqn f i l=some r→r.length=l.length∧∀(j:Nat) (y:β),r[j]?=some y→∃x,l[j]?=some x∧f (i+j) x=some y
 | [],i,r,h=>by
   cases Qa_ h
   exact ⟨rfl,fun j y hj=>by simp at hj⟩
 | a::l,i,r,h=>by
   unfold Zqn at h
   split at h
   ·rename_i y ys h1 h2
    cases Qa_ h
    obtain ⟨e1,e2⟩:=ZoU h2
    refine ⟨by simp[e1],fun j z hj=>?_⟩
    cases j with
    | zero=>simp at hj;subst hj;exact ⟨a,by simp,by simpa using h1⟩
    | succ j=>
      obtain ⟨x,h3,h4⟩:=e2 j z (by simpa using hj)
      exact ⟨x,by simpa using h3,by rw[←h4];congr 1;omega⟩
   ·cases h
theorem Z0r{t:TypeId}{ks:List SK}(hk:ZxU P t=some ks){fuel:Nat}{cs:List Value}{x:DataW H×List MemPlace}(h:DataW.trod enc P w base spare held fuel t cs=some x):
 cs.length=ks.length∧P.cellsOf t=ks.length∧∀(i:Nat) (k:SK),ks[i]?=some k→∃v,cs[i]?=some v∧ZbV k v:=by
 unfold ZxU at hk
 split at hk
 ·rename_i fs hu
  cases hb:Nat.beq (P.cellsOf t) fs.size with
  | false=>rw[hb] at hk;cases hk
  | true=>
    rw[hb,Qb_] at hk
    have hsz:=Qj_ hb
    obtain ⟨e1,e2⟩:=ZoU hk
    cases fuel with
    | zero=>exact absurd h (by simp[DataW.trod])
    | succ fuel=>
      simp only[DataW.trod,hu] at h
      split at h
      ·rename_i hl
       simp only[Option.map_eq_some_iff] at h
       obtain ⟨ys,h1,_⟩:=h
       refine ⟨by rw[hl,hsz,e1];simp,by rw[hsz,e1];simp,fun i k hi=>?_⟩
       obtain ⟨f,hf,hc⟩:=e2 i k hi
       rw[QP_] at hc
       cases hb2:(Nat.beq f.offset i&&Nat.beq (P.cellsOf f.type) 1) with
       | false=>rw[hb2] at hc;cases hc
       | true=>
         rw[hb2,Qb_] at hc
         rw[Qh_] at hb2
         have ho:=Qj_ hb2.1
         have h1c:=Qj_ hb2.2
         obtain ⟨y,hy⟩:=Zji h1 f (Qz_ hf)
         obtain ⟨v,hv,hok⟩:=Zjh hc hy
         rw[ho,h1c] at hv
         refine ⟨v, ?_,hok⟩
         have:=Kk_ (fun l:List Value=>l[0]?) hv
         simpa using this
      ·cases h
 ·rename_i n e hu
  cases hb:(Nat.beq (P.cellsOf t) n&&Nat.beq (P.cellsOf e) 1) with
  | false=>rw[hb] at hk;cases hk
  | true=>
    rw[hb,Qb_] at hk
    rw[Qh_] at hb
    have hsz:=Qj_ hb.1
    have h1c:=Qj_ hb.2
    split at hk
    ·rename_i k hsk
     cases Qa_ hk
     cases fuel with
     | zero=>exact absurd h (by simp[DataW.trod])
     | succ fuel=>
       simp only[DataW.trod,hu] at h
       split at h
       ·rename_i hl
        simp only[Option.map_eq_some_iff] at h
        obtain ⟨ys,h1,_⟩:=h
        refine ⟨by rw[hl,hsz];simp,by rw[hsz];simp,fun i k' hi=>?_⟩
        have hin:i < n:=by
         have:=(Qo_.1 hi).1
         simpa using this
        have hkk:k'=k:=by
         rw[List.getElem?_replicate] at hi
         rw[if_pos hin] at hi
         exact (Qa_ hi).symm
        subst hkk
        obtain ⟨y,hy⟩:=Zji h1 i (by simpa using hin)
        obtain ⟨v,hv,hok⟩:=Zjh hsk hy
        rw[h1c,Nat.mul_one] at hv
        refine ⟨v, ?_,hok⟩
        have:=Kk_ (fun l:List Value=>l[0]?) hv
        simpa using this
       ·cases h
    ·cases hk
 ·cases hb:Nat.beq (P.cellsOf t) 1 with
  | false=>rw[hb] at hk;cases hk
  | true=>
    rw[hb,Qb_] at hk
    have h1c:=Qj_ hb
    split at hk
    ·rename_i k hsk
     cases Qa_ hk
     obtain ⟨v,rfl,hok⟩:=Zjh hsk h
     refine ⟨rfl,h1c,fun i k' hi=>?_⟩
     cases i with
     | zero=>simp at hi;subst hi;exact ⟨v,rfl,hok⟩
     | succ i=>simp at hi
    ·cases hk
theorem Ztz{k:SK}{v:Value}(h:ZbV k v)(hw:Nat→Nat)(w:World):Rep hw w v (px v)∧v.oneCell'=true:=by
 cases k with
 | int k=>obtain ⟨n,rfl,_⟩:=h;exact ⟨.v _ rfl,rfl⟩
 | bool=>obtain ⟨b,rfl⟩:=h;exact ⟨.v _ rfl,rfl⟩
 | str=>
   obtain ⟨s,rfl,_⟩:=h
   exact ⟨.str s.data.toList,rfl⟩
def ZfA(ks:List SK)(xs:List PV):Prop:=xs.length=ks.length∧∀(i:Nat) (k:SK),ks[i]?=some k→∃v,ZbV k v∧xs[i]?=some (px v)
theorem Zt0{xs:List PV}(h:ZfA [] xs):xs=[]:=QM_ h.1
theorem Z0s{k:SK}{ks:List SK}{xs:List PV}(h:ZfA (k::ks) xs):∃v r,xs=px v::r∧ZbV k v∧ZfA ks r:=by
 obtain ⟨h1,h2⟩:=h
 cases xs with
 | nil=>cases h1
 | cons x r=>
   obtain ⟨v,h3,h4⟩:=h2 0 k rfl
   simp at h4
   subst h4
   exact ⟨v,r,rfl,h3,by simpa using h1,fun i k' hi=>h2 (i+1) k' (by simpa using hi)⟩
theorem ZaJ{k:IntKind}{ks:List SK}{xs:List PV}(h:ZfA (.int k::ks) xs):∃n r,xs= .v (.int k n)::r∧(k.min≤n∧n≤k.max)∧ZfA ks r:=by
 obtain ⟨v,r,e,⟨n,rfl,hb⟩,hr⟩:=Z0s h
 exact ⟨n,r,e,hb,hr⟩
theorem Z3W{ks:List SK}{cs:List Value}(hl:cs.length=ks.length)(h:∀(i:Nat) (k:SK),ks[i]?=some k→∃v,cs[i]?=some v∧ZbV k v):ZfA ks (cs.map px):=
 ⟨by simpa using hl,fun i k hi=>by
   obtain ⟨v,h1,h2⟩:=h i k hi
   exact ⟨v,h2,by rw[Q6_,h1];rfl⟩⟩
theorem Zt1{r:Reach}{b0:Nat}{t e:TypeId}(ht:P.underlying t=some (.slice e)){v:Value}(h:Value.okWide P w r b0 t v):v= .slice none 0 0∨∃blk off len cap,v= .slice (some ⟨blk,off,none⟩) len cap∧blk < w.heap.size:=by
 unfold Value.okWide at h
 rw[ht] at h
 simp only[Cell.okWide,ht] at h
 have h2:Cell.ok P w r b0 t v:=h
 unfold Cell.ok at h2
 rw[ht] at h2
 cases v with
 | slice a len cap=>
   cases a with
   | none=>
     refine .inl ?_
     cases len with
     | zero=>cases cap with
       | zero=>rfl
       | succ c=>exact h2.elim
     | succ l=>exact h2.elim
   | some a=>
     obtain ⟨_,_,_,hs,row,cells,hsh,_⟩:=h2
     obtain ⟨blk,off,spot⟩:=a
     simp only at hs
     subst hs
     refine .inr ⟨blk,off,len,cap,rfl, ?_⟩
     simp only[World.shape?] at hsh
     by_cases hlt:blk < w.heap.size
     ·exact hlt
     ·rw[Array.getElem?_eq_none (by omega)] at hsh
      cases hsh
 | _=>exact h2.elim
theorem ZoV{r:Reach}{b0:Nat}{t e:TypeId}{ks:List SK}(ht:P.underlying t=some (.slice e))(hk:ZxU P e=some ks)
 {v:Value} {d:DataW H} {ps:List MemPlace} (hval:Value.okWide P w r b0 t v) (hd:DataW.Trod enc P w base spare held t v d ps):
 ∃rows N,(∀x∈rows,ZfA ks x)∧(∀hw:Nat→Nat,(∀k,k < w.heap.size→N≤hw k)→Rep hw w v (.lst rows))∧∀R,(d.weights P t).all (·≤R)=true→rows.length *P.bytesOf e≤R:=by
 obtain ⟨fuel,hf⟩:=hd
 rcases Zt1 ht hval with rfl | ⟨blk,off,len,cap,rfl,hblk⟩
 ·exact ⟨[],0,fun x hx=>absurd hx (by simp),fun _ _=> .lnil,fun R _=>by simp⟩
 ·have hcs:(Value.slice (some ⟨blk,off,none⟩) len cap).cells.toList=[.slice (some ⟨blk,off,none⟩) len cap]:=rfl
  rw[hcs] at hf
  rcases open_slice ht hf with ⟨h0,_⟩ | ⟨a,len',cap',m,n,D,Pl,e1,hb,hl,hm,hmm,e2,hx⟩
  ·cases h0
  ·injection e1 with e1 _
   injection e1 with ea el ec
   injection ea with ea
   subst ea;subst el;subst ec
   have hlm:len≤m:=by rw[hmm];split<;>omega
   have hrow:∀i,i < len→∃cs',w.cells? base ((⟨blk,off,none⟩:Addr).add (i *P.cellsOf e)) (P.cellsOf e)=some cs'∧cs'.length=ks.length∧P.cellsOf e=ks.length∧∀(j:Nat) (k:SK),ks[j]?=some k→∃v,cs'[j]?=some v∧ZbV k v:=by
    intro i hi
    obtain ⟨cs',h1,h2⟩:=hx i (by omega)
    obtain ⟨h3,h4,h5⟩:=Z0r hk h2
    exact ⟨cs',h1,h3,h4,h5⟩
   obtain ⟨C,hC⟩:=choose_lt (α:=List Value) (p:=fun i cs'=>w.cells? base ((⟨blk,off,none⟩:Addr).add (i *P.cellsOf e)) (P.cellsOf e)=some cs'∧cs'.length=ks.length∧P.cellsOf e=ks.length∧∀(j:Nat) (k:SK),ks[j]?=some k→∃v,cs'[j]?=some v∧ZbV k v) hrow
   have hrows:∀(i:Nat) (x:List PV),((List.range len).map fun i=>(C i).map px)[i]?=some x→i < len∧x=(C i).map px:=by
    intro i x hi
    rw[Q6_] at hi
    cases hr:(List.range len)[i]? with
    | none=>rw[hr] at hi;cases hi
    | some y=>
      rw[hr] at hi
      have hlt:i < len:=by have:=(Qo_.1 hr).1;simpa using this
      rw[K2_ hlt] at hr
      cases Qa_ hr
      exact ⟨hlt,(Qa_ hi).symm⟩
   have hlen:((List.range len).map fun i=>(C i).map px).length=len:=by simp
   have hcell:∀i j,i < len→j < ks.length→∃v,w.cell? ⟨blk,off+(i *ks.length+j),none⟩=some v∧(C i)[j]?=some v∧∃k,ZbV k v:=by
    intro i j hi hj
    obtain ⟨h1,h2,h3,h4⟩:=hC i hi
    obtain ⟨v,h5,h6⟩:=h4 j ks[j] (Qg_ hj)
    obtain ⟨_,_,h7⟩:=World.cells?_some h1
    have h8:=h7 j (by omega)
    rw[h5] at h8
    refine ⟨v, ?_,h5,_,h6⟩
    rw[←h8,h3,Addr.add_lit,Addr.add_lit,Kt_]
   refine ⟨(List.range len).map fun i=>(C i).map px,off+len *ks.length,fun x hx=>?_,fun hw hN=>?_,fun R hR=>?_⟩
   ·obtain ⟨i,hi,rfl⟩:=Ku_.1 hx
    have hi:i < len:=by simpa using hi
    obtain ⟨_,h2,_,h4⟩:=hC i hi
    exact Z3W h2 h4
   ·have:=Rep.lst (hw:=hw) (w:=w) ((List.range len).map fun i=>(C i).map px) blk off cap ks.length (fun i j=>(w.cell? ⟨blk,off+(i *ks.length+j),none⟩).getD undef) (by rw[hlen];exact hl)
     (fun i x hx=>by obtain ⟨hi,rfl⟩:=hrows i x hx;simpa using (hC i hi).2.1)
     (fun i j hi hj=>by rw[hlen] at hi;obtain ⟨v,h1,_⟩:=hcell i j hi hj;rw[h1];rfl)
     (fun i j x y hx hy=>by
       obtain ⟨hi,rfl⟩:=hrows i x hx
       have hj:j < ks.length:=by have:=(Qo_.1 hy).1;rw[←(hC i hi).2.1];simpa using this
       obtain ⟨v,h1,h2,k,h3⟩:=hcell i j hi hj
       rw[Q6_,h2] at hy
       cases Qa_ hy
       rw[h1]
       exact (Ztz h3 hw w).1)
     (fun i j hi hj=>by rw[hlen] at hi;obtain ⟨v,h1,_,k,h3⟩:=hcell i j hi hj;rw[h1];exact (Ztz h3 hw w).2)
     (by rw[hlen];exact hN blk hblk)
    rw[hlen] at this
    exact this
   ·rw[hlen]
    have hd:d= .slice ((List.range len).map D) ((List.range (m - len)).map fun j=>D (len+j)):=Kk_ Prod.fst e2
    subst hd
    simp only[DataW.weights,ht,List.all_cons,Qk_,List.length_range,Qh_,Qc_] at hR
    exact QT_ (Kb_ _ (by omega)) hR.1
theorem XS{ts:List TypeId}{ds:List (DataW H)}{R:Nat}{t:TypeId}{d:DataW H}(h:(DataW.weightsEach P (t::ts) (d::ds)).all (·≤R)=true):(d.weights P t).all (·≤R)=true∧(DataW.weightsEach P ts ds).all (·≤R)=true:=by
 simp only[DataW.weightsEach,List.all_append,Qh_] at h
 exact h
end
theorem Zhz{H:Type}{enc:TypeId×Value→H}{P:Program}(hl:laidOutB P=true):∀{ts:List TypeId} {W W':World} {vs:List Value} {ds:List (DataW H)} {ps:List MemPlace},(ts.all fun t=>P.readableRec t&&decide (t < P.types.size))=true→
 DataW.TrodAll enc P W 0 (fun _=>true) true ts vs ds ps→Below W.heap.size W W'→(∀x∈ps,x.block < W.heap.size)→∀sp:Nat→Bool,(∀p∈ps,sp p.block=true)→DataW.TrodAll enc P W' 0 sp true ts vs ds ps
 | [],W,W',vs,ds,ps,_,h,_,_,sp,_=>by
   obtain ⟨rfl,rfl,rfl⟩:=trodAll_nil h
   exact rfl
 | t::ts,W,W',vs,ds,ps,ht,h,hb,hlt,sp,hsp=>by
   obtain ⟨v,vs',d,ds',p,q,rfl,rfl,rfl,h1,h2⟩:=trodAll_cons h
   simp only[List.all_cons,Qh_,Qc_] at ht
   exact ⟨p,q,WideElems.Trod_stays hl ht.1.1 ht.1.2 h1 (fun x hx=>hb.same (hlt x (Kg_ _ hx))) (fun x hx=>hsp x (Kg_ _ hx)),
    Zhz hl ht.2 h2 hb (fun x hx=>hlt x (Kq_ _ hx)) sp (fun x hx=>hsp x (Kq_ _ hx)),rfl⟩
theorem Z0t{P:Program}{f:Nat}{b:Bool}(hc:∀args w,(callFunc f args).run P w= .ok (.enter f args) w){xs:List PV}(h:Con P f xs (.v (.bool b)))(w:World){hw:Nat→Nat}(hl:∀k,w.heap.size≤k→hw k=0)(hgl:GlobOk hw w){vals:List Value}(ha:ArgsRep hw w vals xs):Calls P f vals.toArray w fun e w'=>e= .returned (.bool b)∧Below w.heap.size w w':=by
 rcases h hw w vals hl hgl ha with ⟨v,w',h1,_⟩ | ⟨f',h1,h2⟩
 ·rw[hc] at h1
  cases h1
 ·rw[hc] at h1
  injection h1 with h1 _
  injection h1 with h1 _
  subst h1
  exact h2.mono fun e w' ⟨v,he,hw',q,hr⟩=>⟨by rw[he,Z2 hr],q.below⟩
structure ArgsAre(P:Program)(w:World)(ts:List TypeId)(vs:List Value)(xs:List PV):Prop where
 rep:∃N,∀hw:Nat→Nat,(∀k,k < w.heap.size→N≤hw k)→ArgsRep hw w vs xs
theorem Zup{P:Program}{w:World}:ArgsAre P w [] [] []:=⟨0,fun hw _=>⟨rfl,fun j x y hx=>by simp at hx⟩⟩
theorem WV{P:Program}{w:World}{t:TypeId}{ts:List TypeId}{v:Value}{vs:List Value}{x:PV}{xs:List PV}{N:Nat}(h:∀hw:Nat→Nat,(∀k,k < w.heap.size→N≤hw k)→Rep hw w v x)(hr:ArgsAre P w ts vs xs):ArgsAre P w (t::ts) (v::vs) (x::xs):=by
 obtain ⟨M,hM⟩:=hr.rep
 refine ⟨⟨N+M,fun hw hh=>?_⟩⟩
 have h1:=h hw (fun k hk=>QT_ (Nat.le_add_right _ _) (hh k hk))
 have h2:=hM hw (fun k hk=>QT_ (Nat.le_add_left _ _) (hh k hk))
 refine ⟨by simp[h2.len],fun j a b ha hb=>?_⟩
 cases j with
 | zero=>simp at ha hb;subst ha;subst hb;exact h1
 | succ j=>exact h2.rep j a b (by simpa using ha) (by simpa using hb)
section
variable {H:Type}{enc:TypeId×Value→H}
open Go.WideShapes
end
open Go.ChangeAt Go.WideShapes
section
variable {H:Type}{enc:TypeId×Value→H}
theorem Z3X{a:Assume}{C:Checked}{os:Os}{f:FuncId}{fn:Func}{s:ChangeSpec}{F:Stop.Interp}{conds:List PathCond}{laid:List (String×DataW Unit)}{tb:TypeId}
 (own:ownKnob C.prog.godebug=none) (started:os.Started) (noInit:C.prog.inits.idxOf? f=none) (hfn:C.prog.funcs[f]?=some fn)
 (witness:∃(w:World) (tape:Tape) (i:Input),w.os=os∧(w.forCall tape i).Shaped C.prog∧i.vars=[]∧Input.okWide C.prog (w.forCall tape i) .any w.heap.size f i∧
   (OpenSpec.ofChange s).preRow enc C.prog fn conds false laid (w.forCall tape i).memory i.args∧a.holds C.prog (lone (Frame.enter C.prog f i.args .normal) [] (w.forCall tape i)))
 (hcall:∀args w,(callFunc f args).run C.prog w= .ok (.enter f args) w) (hlaid:laidOutB C.prog=true)
 (hts:(fn.params.toList.all fun t=>C.prog.readableRec t&&decide (t < C.prog.types.size))=true) (hvars:s.vars=[]) (hres:fn.resultTypes=#[tb]) (hbool:C.prog.underlying tb=some .bool)
 (hspec:∀ds:List (DataW H),ds.length=fn.params.toList.length→(s.fn H ds).results=[.lit (.bool true)]∧(s.fn H ds).args=ds∧(s.fn H ds).vars=[])
 (hglob:∀(W:World) (N:Nat),64≤N→laidMetH C.prog laid W→GlobOk (fun k=>if k < W.heap.size then N else 0) W)
 (hcon:∀(W:World) (b0:Nat) (args:List Value) (ds:List (DataW H)) (p:List MemPlace),(∀(j:Nat) t v,fn.params.toList[j]?=some t→args[j]?=some v→Value.okWide C.prog W .any b0 t v)→DataW.TrodAll enc C.prog W 0 (fun _=>true) true fn.params.toList args ds p→
   (DataW.weightsEach C.prog fn.params.toList ds).all (·≤reachBytes)=true→∃xs,ArgsAre C.prog W fn.params.toList args xs∧Con C.prog f xs (.v (.bool true))):
 ReturnsInHanded a C os f .any ((OpenSpec.ofChange s).preRow enc C.prog fn conds false laid) (((OpenSpec.ofChange s).at F).post enc C.prog fn false true false false):=by
 refine returnsInHanded_of_row own started noInit hfn witness ?_
 intro W base args ds gs before hval hw' _ _ hwt hL _ _
 have hW:=hw'
 have hvars':(OpenSpec.ofChange s).vars=[]:=hvars
 obtain ⟨p,q,hA,hV,e,hnf,_⟩:=hw'
 subst e
 rw[hvars'] at hV
 obtain ⟨egs,eq⟩:=trodVars_none hV
 subst egs;subst eq
 have hlen:ds.length=fn.params.toList.length:=by
  have key:∀{ts:List TypeId} {vs:List Value} {ds:List (DataW H)} {p:List MemPlace},DataW.TrodAll enc C.prog W 0 (fun _=>true) true ts vs ds p→ds.length=ts.length:=by
   intro ts
   induction ts with
   | nil=>intro vs ds p h;obtain ⟨_,rfl,_⟩:=trodAll_nil h;rfl
   | cons t ts ih=>intro vs ds p h;obtain ⟨v,vs',d,ds',p',q',rfl,rfl,rfl,_,h2⟩:=trodAll_cons h;simp[ih h2]
  exact key hA
 have hwt2:(DataW.weightsEach C.prog fn.params.toList ds).all (·≤reachBytes)=true:=by
  have e1:∀(ts ts':List TypeId) (ds:List (DataW H)),ds.length=ts.length→DataW.weightsEach C.prog (ts++ts') (ds++[])=DataW.weightsEach C.prog ts ds:=by
   intro ts
   induction ts with
   | nil=>intro ts' ds h;have:=QM_ h;subst this;cases ts'<;>rfl
   | cons t ts ih=>intro ts' ds h;cases ds with
     | nil=>cases h
     | cons d ds=>simp only[QS_,DataW.weightsEach];rw[ih ts' ds (by simpa using h)]
  rw[e1 _ _ _ hlen] at hwt
  exact hwt
 obtain ⟨xs,⟨N,hN⟩,hcon⟩:=hcon W base args.toList ds p (fun j t v h1 h2=>hval j t v (by simpa using h1) (by simpa using h2)) hA hwt2
 have hcalls:=Z0t hcall hcon W (hw:=fun k=>if k < W.heap.size then N+64 else 0) (fun k hk=>by simp;omega) (hglob W (N+64) (by omega) hL) (hN _ (fun k hk=>by simp[hk]))
 have ei:args.toList.toArray=args:=by simp
 rw[ei] at hcalls
 refine hcalls.mono fun e W' ⟨he,hb⟩=>?_
 subst he
 obtain ⟨s1,s2,s3⟩:=hspec ds hlen
 refine ⟨_,rfl,Zpb (pa:=p) (pv:=[]) hW (fun b sp hd=>?_) (fun sp hsp=>?_) (fun sp _=>?_) rfl hb (ok_one hres rfl (okWide_bool_mk hbool _))⟩
 ·show DataW.TrodAll _ _ _ _ _ _ _ _ (s.fn H (ds++[])).results _
  rw[QI_,hres,s1]
  exact trodAll_cons_mk (shut_bool hbool _) trodAll_mk0
 ·show DataW.TrodAll _ _ _ _ _ _ _ _ (s.fn H (ds++[])).args _
  rw[QI_,s2]
  exact Zhz hlaid hts hA hb (fun x hx=>hW.lt x (Kg_ _ hx)) sp (fun x hx=>hsp x (by simpa using hx))
 ·have h3:(s.fn H (ds++[])).vars=[]:=by rw[QI_];exact s3
  show DataW.TrodVars enc C.prog W' sp s.vars (s.fn H (ds++[])).vars []
  rw[hvars,h3]
  exact rfl
end
end Go.Ev
