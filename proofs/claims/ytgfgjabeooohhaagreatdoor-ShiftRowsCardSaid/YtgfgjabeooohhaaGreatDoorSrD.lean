/- A logic of frames, its evaluator for values known in part, and what the functions that the law reaches are shown to do: written for this claim. Part D. -/
import Derived.Test.YtgfgjabeooohhaaGreatDoorSrC
import Derived.KernelRfl
import Derived.Deep.Slices
import Derived.Carry
import Derived.OpenShut
import Derived.ChangeMaps5
import Derived.Deep.DeepHandedRow
set_option linter.all false
set_option maxRecDepth 100000
namespace Go.Men
open Go.Ev Go.Proofs Go.Proofs.YtgfgjabeooohhaaGreatDoor
def Zpj:=Xb [(12,e12),(45,e45),(11,e11),(53,e53)]
def rA(i:Int)(l:List RawFace):=(List.map RawFace.enc l).getD i.toNat []
def Zpk(i:Int)(l:List RawFace):=Zd ((rA i l).headD PV.nil)
def qR(i:Int)(l:List RawFace):=Zd ((rA i l).tail.headD PV.nil)
def qA(i:Int)(l:List RawFace):=Zd ((rA i l).tail.tail.headD PV.nil)
def qT(i:Int)(l:List RawFace):=Zd ((rA i l).tail.tail.tail.headD PV.nil)
def qG(i:Int)(l:List RawFace):=Zd ((rA i l).tail.tail.tail.tail.headD PV.nil)
def qK(i:Int)(l:List RawFace):=Zd ((rA i l).tail.tail.tail.tail.tail.headD PV.nil)
set_option maxHeartbeats 4000000 in
def JD(g:List Glass):=List.map Glass.enc g
def ZcC(g:List Glass):=IntKind.i64.wrap (↑(JD g).length+(2:Int))
def Zl6:=(0:Int) < (7:Int)∧(7:Int)≤(4611686018427387904:Int)
def ZeB:=(0:Int) < (900:Int)∧(900:Int)≤(4611686018427387904:Int)
def YN:=(0:Int)≤(1:Int)∧(1:Int)≤(18:Int)
def Zl7:=(0:Int) < (2:Int)∧(2:Int)≤(4611686018427387904:Int)
def Za9:=(0:Int) < (6:Int)∧(6:Int)≤(4611686018427387904:Int)
def YO:=(6:Int)≠(0:Int)
def Zb8:=(0:Int) < (30:Int)∧(30:Int)≤(4611686018427387904:Int)
def Yj(u:LensM):=(List.map Face.enc u.faces).length+(1:Nat)
def YC(i:Int)(l:List RawFace):=hdec (1:Nat) (IntKind.i64.wrap ((-150:Int) - pick (qR i l) (900:Int))) (1:Int)
def Zq(i:Int)(l:List RawFace):=hdec (1:Nat) (IntKind.i64.wrap ((30:Int)+pick (qA i l) (70:Int))) (1:Int)
def Zr(i:Int)(l:List RawFace):=hdec (1:Nat) (pick (qT i l) (80:Int)) (1:Int)
def Xo(i:Int)(l:List RawFace):=hdec (1:Nat) (IntKind.i64.wrap (pick (IntKind.i64.wrap ((qK i l).tdiv (6:Int))) (30:Int) - (15:Int))) (1:Int)
def WD(i:Int)(g:List Glass)(l:List RawFace):=We (((JD g).getD (pick (qG i l) (ZcC g)).toNat []).headD PV.nil)
def Zl8(i:Int)(g:List Glass)(l:List RawFace)(u:LensM):=List.map Face.enc u.faces++[[vB false,vI (YC i l).c,vI (YC i l).scale,vI (Zq i l).c,vI (Zq i l).scale,vI (Zr i l).c,vI (Zr i l).scale,vI (Xo i l).c,vI (Xo i l).scale,vI 0,vI 0,vI 0,vI 0,PV.str (WD i g l)]]
def Y7(i:Int)(g:List Glass)(l:List RawFace)(most:Int):=[(10,AV.p (vI (IntKind.i64.wrap (i+(1:Int))))),(9,AV.ptr 9 0),(2,AV.p (PV.lst (JD g))),(1,AV.p (PV.lst (List.map RawFace.enc l))),(8,AV.ptr 8 0),(3,pI most)]
def Yk:=[(Loc.b (nat_lit 9) (nat_lit 3),nat_lit 32),(Loc.b (nat_lit 8) (nat_lit 3),nat_lit 32)]
def YP:=(0:Int) < (400:Int)∧(400:Int)≤(4611686018427387904:Int)
def XQ:=(0:Int)≤(2:Int)∧(2:Int)≤(18:Int)
def ZS(i:Int)(l:List RawFace):=hdec (2:Nat) (IntKind.i64.wrap (pick (IntKind.i64.wrap ((qK i l).tdiv (6:Int))) (400:Int) - (200:Int))) (2:Int)
def Zl9(i:Int)(g:List Glass)(l:List RawFace)(u:LensM):=List.map Face.enc u.faces++[[vB false,vI (YC i l).c,vI (YC i l).scale,vI (Zq i l).c,vI (Zq i l).scale,vI (Zr i l).c,vI (Zr i l).scale,vI 0,vI 0,vI (ZS i l).c,vI (ZS i l).scale,vI 0,vI 0,PV.str (WD i g l)]]
def Zb9:=(12:Int)≠(0:Int)
def Xp(i:Int)(l:List RawFace):=hdec (1:Nat) (IntKind.i64.wrap (pick (IntKind.i64.wrap ((qK i l).tdiv (12:Int))) (400:Int) - (200:Int))) (1:Int)
def ZlA(i:Int)(g:List Glass)(l:List RawFace)(u:LensM):=List.map Face.enc u.faces++[[vB false,vI (YC i l).c,vI (YC i l).scale,vI (Zq i l).c,vI (Zq i l).scale,vI (Zr i l).c,vI (Zr i l).scale,vI 0,vI 0,vI (ZS i l).c,vI (ZS i l).scale,vI (Xp i l).c,vI (Xp i l).scale,PV.str (WD i g l)]]
def ZlB(i:Int)(g:List Glass)(l:List RawFace)(u:LensM):=List.map Face.enc u.faces++[[vB false,vI (YC i l).c,vI (YC i l).scale,vI (Zq i l).c,vI (Zq i l).scale,vI (Zr i l).c,vI (Zr i l).scale,vI 0,vI 0,vI 0,vI 0,vI 0,vI 0,PV.str (WD i g l)]]
def Yn(i:Int)(l:List RawFace):=hdec (1:Nat) (IntKind.i64.wrap ((150:Int)+pick (qR i l) (900:Int))) (1:Int)
def ZlC(i:Int)(g:List Glass)(l:List RawFace)(u:LensM):=List.map Face.enc u.faces++[[vB false,vI (Yn i l).c,vI (Yn i l).scale,vI (Zq i l).c,vI (Zq i l).scale,vI (Zr i l).c,vI (Zr i l).scale,vI (Xo i l).c,vI (Xo i l).scale,vI 0,vI 0,vI 0,vI 0,PV.str (WD i g l)]]
def ZlD(i:Int)(g:List Glass)(l:List RawFace)(u:LensM):=List.map Face.enc u.faces++[[vB false,vI (Yn i l).c,vI (Yn i l).scale,vI (Zq i l).c,vI (Zq i l).scale,vI (Zr i l).c,vI (Zr i l).scale,vI 0,vI 0,vI (ZS i l).c,vI (ZS i l).scale,vI 0,vI 0,PV.str (WD i g l)]]
def ZlE(i:Int)(g:List Glass)(l:List RawFace)(u:LensM):=List.map Face.enc u.faces++[[vB false,vI (Yn i l).c,vI (Yn i l).scale,vI (Zq i l).c,vI (Zq i l).scale,vI (Zr i l).c,vI (Zr i l).scale,vI 0,vI 0,vI (ZS i l).c,vI (ZS i l).scale,vI (Xp i l).c,vI (Xp i l).scale,PV.str (WD i g l)]]
def ZlF(i:Int)(g:List Glass)(l:List RawFace)(u:LensM):=List.map Face.enc u.faces++[[vB false,vI (Yn i l).c,vI (Yn i l).scale,vI (Zq i l).c,vI (Zq i l).scale,vI (Zr i l).c,vI (Zr i l).scale,vI 0,vI 0,vI 0,vI 0,vI 0,vI 0,PV.str (WD i g l)]]
def ZlG(i:Int)(g:List Glass)(l:List RawFace)(u:LensM):=List.map Face.enc u.faces++[[vB false,vI 0,vI 0,vI (Zq i l).c,vI (Zq i l).scale,vI (Zr i l).c,vI (Zr i l).scale,vI (Xo i l).c,vI (Xo i l).scale,vI 0,vI 0,vI 0,vI 0,PV.str (WD i g l)]]
def ZlH(i:Int)(g:List Glass)(l:List RawFace)(u:LensM):=List.map Face.enc u.faces++[[vB false,vI 0,vI 0,vI (Zq i l).c,vI (Zq i l).scale,vI (Zr i l).c,vI (Zr i l).scale,vI 0,vI 0,vI (ZS i l).c,vI (ZS i l).scale,vI 0,vI 0,PV.str (WD i g l)]]
def ZlI(i:Int)(g:List Glass)(l:List RawFace)(u:LensM):=List.map Face.enc u.faces++[[vB false,vI 0,vI 0,vI (Zq i l).c,vI (Zq i l).scale,vI (Zr i l).c,vI (Zr i l).scale,vI 0,vI 0,vI (ZS i l).c,vI (ZS i l).scale,vI (Xp i l).c,vI (Xp i l).scale,PV.str (WD i g l)]]
def ZlJ(i:Int)(g:List Glass)(l:List RawFace)(u:LensM):=List.map Face.enc u.faces++[[vB false,vI 0,vI 0,vI (Zq i l).c,vI (Zq i l).scale,vI (Zr i l).c,vI (Zr i l).scale,vI 0,vI 0,vI 0,vI 0,vI 0,vI 0,PV.str (WD i g l)]]
def Yo:=[(97:UInt8),(105:UInt8),(114:UInt8)]
def Zpl(i:Int)(g:List Glass)(l:List RawFace)(most:Int)(u:LensM)(z:LensM)(Q:Ex→Option St→Prop):Prop:=((0:Int) < IntKind.i64.wrap (↑(JD g).length+(2:Int))∧IntKind.i64.wrap (↑(JD g).length+(2:Int))≤(4611686018427387904:Int))∧(bif decide (pick (qG i l) (ZcC g) < ↑(JD g).length) then (((0:Int)≤pick (qG i l) (ZcC g)∧(JD g)[(pick (qG i l) (ZcC g)).toNat]?=some (Yx [PV.str [],vI 0,vI 0,vI 0,vI 0,vI 0,vI 0,vI 0,vI 0,vI 0,vI 0,vI 0,vI 0] ((JD g).getD (pick (qG i l) (ZcC g)).toNat [])))∧(Zl6∧(bif decide (pick (qR i l) (7:Int) > (0:Int)) then (ZeB∧(YN∧(((7:Int)≠(0:Int))∧(Zl7∧(bif pick (IntKind.i64.wrap ((qR i l).tdiv (7:Int))) (2:Int)==(0:Int) then (ZeB∧(YN∧(Za9∧(bif pick (qK i l) (6:Int)==(3:Int) then (YO∧(Zb8∧(YN∧(((0:Nat) < (1:Nat)∧(Yj u)* (120:Nat)≤(140737488355328:Nat)∧Lens (14:Nat) (Zl8 i g l u))∧Q (Ex.normal) (some ⟨166,(Y7 i g l most),[(9,[PV.str u.name,vI u.back.c,vI u.back.scale,PV.lst (Zl8 i g l u)]),(8,(Z5 z))],[],Yk,[]⟩))))) else (bif pick (qK i l) (6:Int)==(4:Int) then (YO∧(YP∧(XQ∧(((0:Nat) < (1:Nat)∧(Yj u)* (120:Nat)≤(140737488355328:Nat)∧Lens (14:Nat) (Zl9 i g l u))∧Q (Ex.normal) (some ⟨166,(Y7 i g l most),[(9,[PV.str u.name,vI u.back.c,vI u.back.scale,PV.lst (Zl9 i g l u)]),(8,(Z5 z))],[],Yk,[]⟩))))) else (bif pick (qK i l) (6:Int)==(5:Int) then (YO∧(YP∧(XQ∧(Zb9∧(YP∧(YN∧(((0:Nat) < (1:Nat)∧(Yj u)* (120:Nat)≤(140737488355328:Nat)∧Lens (14:Nat) (ZlA i g l u))∧Q (Ex.normal) (some ⟨166,(Y7 i g l most),[(9,[PV.str u.name,vI u.back.c,vI u.back.scale,PV.lst (ZlA i g l u)]),(8,(Z5 z))],[],Yk,[]⟩)))))))) else (((0:Nat) < (1:Nat)∧(Yj u)* (120:Nat)≤(140737488355328:Nat)∧Lens (14:Nat) (ZlB i g l u))∧Q (Ex.normal) (some ⟨166,(Y7 i g l most),[(9,[PV.str u.name,vI u.back.c,vI u.back.scale,PV.lst (ZlB i g l u)]),(8,(Z5 z))],[],Yk,[]⟩)))))))) else (Za9∧(bif pick (qK i l) (6:Int)==(3:Int) then (YO∧(Zb8∧(YN∧(((0:Nat) < (1:Nat)∧(Yj u)* (120:Nat)≤(140737488355328:Nat)∧Lens (14:Nat) (ZlC i g l u))∧Q (Ex.normal) (some ⟨166,(Y7 i g l most),[(9,[PV.str u.name,vI u.back.c,vI u.back.scale,PV.lst (ZlC i g l u)]),(8,(Z5 z))],[],Yk,[]⟩))))) else (bif pick (qK i l) (6:Int)==(4:Int) then (YO∧(YP∧(XQ∧(((0:Nat) < (1:Nat)∧(Yj u)* (120:Nat)≤(140737488355328:Nat)∧Lens (14:Nat) (ZlD i g l u))∧Q (Ex.normal) (some ⟨166,(Y7 i g l most),[(9,[PV.str u.name,vI u.back.c,vI u.back.scale,PV.lst (ZlD i g l u)]),(8,(Z5 z))],[],Yk,[]⟩))))) else (bif pick (qK i l) (6:Int)==(5:Int) then (YO∧(YP∧(XQ∧(Zb9∧(YP∧(YN∧(((0:Nat) < (1:Nat)∧(Yj u)* (120:Nat)≤(140737488355328:Nat)∧Lens (14:Nat) (ZlE i g l u))∧Q (Ex.normal) (some ⟨166,(Y7 i g l most),[(9,[PV.str u.name,vI u.back.c,vI u.back.scale,PV.lst (ZlE i g l u)]),(8,(Z5 z))],[],Yk,[]⟩)))))))) else (((0:Nat) < (1:Nat)∧(Yj u)* (120:Nat)≤(140737488355328:Nat)∧Lens (14:Nat) (ZlF i g l u))∧Q (Ex.normal) (some ⟨166,(Y7 i g l most),[(9,[PV.str u.name,vI u.back.c,vI u.back.scale,PV.lst (ZlF i g l u)]),(8,(Z5 z))],[],Yk,[]⟩))))))))))) else (Za9∧(bif pick (qK i l) (6:Int)==(3:Int) then (YO∧(Zb8∧(YN∧(((0:Nat) < (1:Nat)∧(Yj u)* (120:Nat)≤(140737488355328:Nat)∧Lens (14:Nat) (ZlG i g l u))∧Q (Ex.normal) (some ⟨166,(Y7 i g l most),[(9,[PV.str u.name,vI u.back.c,vI u.back.scale,PV.lst (ZlG i g l u)]),(8,(Z5 z))],[],Yk,[]⟩))))) else (bif pick (qK i l) (6:Int)==(4:Int) then (YO∧(YP∧(XQ∧(((0:Nat) < (1:Nat)∧(Yj u)* (120:Nat)≤(140737488355328:Nat)∧Lens (14:Nat) (ZlH i g l u))∧Q (Ex.normal) (some ⟨166,(Y7 i g l most),[(9,[PV.str u.name,vI u.back.c,vI u.back.scale,PV.lst (ZlH i g l u)]),(8,(Z5 z))],[],Yk,[]⟩))))) else (bif pick (qK i l) (6:Int)==(5:Int) then (YO∧(YP∧(XQ∧(Zb9∧(YP∧(YN∧(((0:Nat) < (1:Nat)∧(Yj u)* (120:Nat)≤(140737488355328:Nat)∧Lens (14:Nat) (ZlI i g l u))∧Q (Ex.normal) (some ⟨166,(Y7 i g l most),[(9,[PV.str u.name,vI u.back.c,vI u.back.scale,PV.lst (ZlI i g l u)]),(8,(Z5 z))],[],Yk,[]⟩)))))))) else (((0:Nat) < (1:Nat)∧(Yj u)* (120:Nat)≤(140737488355328:Nat)∧Lens (14:Nat) (ZlJ i g l u))∧Q (Ex.normal) (some ⟨166,(Y7 i g l most),[(9,[PV.str u.name,vI u.back.c,vI u.back.scale,PV.lst (ZlJ i g l u)]),(8,(Z5 z))],[],Yk,[]⟩))))))))) else (Zl6∧(bif decide (pick (qR i l) (7:Int) > (0:Int)) then (ZeB∧(YN∧(((7:Int)≠(0:Int))∧(Zl7∧(bif pick (IntKind.i64.wrap ((qR i l).tdiv (7:Int))) (2:Int)==(0:Int) then (ZeB∧(YN∧(Za9∧(bif pick (qK i l) (6:Int)==(3:Int) then (YO∧(Zb8∧(YN∧(((0:Nat) < (1:Nat)∧(Yj u)* (120:Nat)≤(140737488355328:Nat)∧Lens (14:Nat) (List.map Face.enc u.faces++[[vB false,vI (YC i l).c,vI (YC i l).scale,vI (Zq i l).c,vI (Zq i l).scale,vI (Zr i l).c,vI (Zr i l).scale,vI (Xo i l).c,vI (Xo i l).scale,vI 0,vI 0,vI 0,vI 0,PV.str Yo]]))∧Q (Ex.normal) (some ⟨166,(Y7 i g l most),[(9,[PV.str u.name,vI u.back.c,vI u.back.scale,PV.lst (List.map Face.enc u.faces++[[vB false,vI (YC i l).c,vI (YC i l).scale,vI (Zq i l).c,vI (Zq i l).scale,vI (Zr i l).c,vI (Zr i l).scale,vI (Xo i l).c,vI (Xo i l).scale,vI 0,vI 0,vI 0,vI 0,PV.str (Yo)]])]),(8,(Z5 z))],[],Yk,[]⟩))))) else (bif pick (qK i l) (6:Int)==(4:Int) then (YO∧(YP∧(XQ∧(((0:Nat) < (1:Nat)∧(Yj u)* (120:Nat)≤(140737488355328:Nat)∧Lens (14:Nat) (List.map Face.enc u.faces++[[vB false,vI (YC i l).c,vI (YC i l).scale,vI (Zq i l).c,vI (Zq i l).scale,vI (Zr i l).c,vI (Zr i l).scale,vI 0,vI 0,vI (ZS i l).c,vI (ZS i l).scale,vI 0,vI 0,PV.str Yo]]))∧Q (Ex.normal) (some ⟨166,(Y7 i g l most),[(9,[PV.str u.name,vI u.back.c,vI u.back.scale,PV.lst (List.map Face.enc u.faces++[[vB false,vI (YC i l).c,vI (YC i l).scale,vI (Zq i l).c,vI (Zq i l).scale,vI (Zr i l).c,vI (Zr i l).scale,vI 0,vI 0,vI (ZS i l).c,vI (ZS i l).scale,vI 0,vI 0,PV.str (Yo)]])]),(8,(Z5 z))],[],Yk,[]⟩))))) else (bif pick (qK i l) (6:Int)==(5:Int) then (YO∧(YP∧(XQ∧(Zb9∧(YP∧(YN∧(((0:Nat) < (1:Nat)∧(Yj u)* (120:Nat)≤(140737488355328:Nat)∧Lens (14:Nat) (List.map Face.enc u.faces++[[vB false,vI (YC i l).c,vI (YC i l).scale,vI (Zq i l).c,vI (Zq i l).scale,vI (Zr i l).c,vI (Zr i l).scale,vI 0,vI 0,vI (ZS i l).c,vI (ZS i l).scale,vI (Xp i l).c,vI (Xp i l).scale,PV.str Yo]]))∧Q (Ex.normal) (some ⟨166,(Y7 i g l most),[(9,[PV.str u.name,vI u.back.c,vI u.back.scale,PV.lst (List.map Face.enc u.faces++[[vB false,vI (YC i l).c,vI (YC i l).scale,vI (Zq i l).c,vI (Zq i l).scale,vI (Zr i l).c,vI (Zr i l).scale,vI 0,vI 0,vI (ZS i l).c,vI (ZS i l).scale,vI (Xp i l).c,vI (Xp i l).scale,PV.str (Yo)]])]),(8,(Z5 z))],[],Yk,[]⟩)))))))) else (((0:Nat) < (1:Nat)∧(Yj u)* (120:Nat)≤(140737488355328:Nat)∧Lens (14:Nat) (List.map Face.enc u.faces++[[vB false,vI (YC i l).c,vI (YC i l).scale,vI (Zq i l).c,vI (Zq i l).scale,vI (Zr i l).c,vI (Zr i l).scale,vI 0,vI 0,vI 0,vI 0,vI 0,vI 0,PV.str Yo]]))∧Q (Ex.normal) (some ⟨166,(Y7 i g l most),[(9,[PV.str u.name,vI u.back.c,vI u.back.scale,PV.lst (List.map Face.enc u.faces++[[vB false,vI (YC i l).c,vI (YC i l).scale,vI (Zq i l).c,vI (Zq i l).scale,vI (Zr i l).c,vI (Zr i l).scale,vI 0,vI 0,vI 0,vI 0,vI 0,vI 0,PV.str (Yo)]])]),(8,(Z5 z))],[],Yk,[]⟩)))))))) else (Za9∧(bif pick (qK i l) (6:Int)==(3:Int) then (YO∧(Zb8∧(YN∧(((0:Nat) < (1:Nat)∧(Yj u)* (120:Nat)≤(140737488355328:Nat)∧Lens (14:Nat) (List.map Face.enc u.faces++[[vB false,vI (Yn i l).c,vI (Yn i l).scale,vI (Zq i l).c,vI (Zq i l).scale,vI (Zr i l).c,vI (Zr i l).scale,vI (Xo i l).c,vI (Xo i l).scale,vI 0,vI 0,vI 0,vI 0,PV.str Yo]]))∧Q (Ex.normal) (some ⟨166,(Y7 i g l most),[(9,[PV.str u.name,vI u.back.c,vI u.back.scale,PV.lst (List.map Face.enc u.faces++[[vB false,vI (Yn i l).c,vI (Yn i l).scale,vI (Zq i l).c,vI (Zq i l).scale,vI (Zr i l).c,vI (Zr i l).scale,vI (Xo i l).c,vI (Xo i l).scale,vI 0,vI 0,vI 0,vI 0,PV.str (Yo)]])]),(8,(Z5 z))],[],Yk,[]⟩))))) else (bif pick (qK i l) (6:Int)==(4:Int) then (YO∧(YP∧(XQ∧(((0:Nat) < (1:Nat)∧(Yj u)* (120:Nat)≤(140737488355328:Nat)∧Lens (14:Nat) (List.map Face.enc u.faces++[[vB false,vI (Yn i l).c,vI (Yn i l).scale,vI (Zq i l).c,vI (Zq i l).scale,vI (Zr i l).c,vI (Zr i l).scale,vI 0,vI 0,vI (ZS i l).c,vI (ZS i l).scale,vI 0,vI 0,PV.str Yo]]))∧Q (Ex.normal) (some ⟨166,(Y7 i g l most),[(9,[PV.str u.name,vI u.back.c,vI u.back.scale,PV.lst (List.map Face.enc u.faces++[[vB false,vI (Yn i l).c,vI (Yn i l).scale,vI (Zq i l).c,vI (Zq i l).scale,vI (Zr i l).c,vI (Zr i l).scale,vI 0,vI 0,vI (ZS i l).c,vI (ZS i l).scale,vI 0,vI 0,PV.str (Yo)]])]),(8,(Z5 z))],[],Yk,[]⟩))))) else (bif pick (qK i l) (6:Int)==(5:Int) then (YO∧(YP∧(XQ∧(Zb9∧(YP∧(YN∧(((0:Nat) < (1:Nat)∧(Yj u)* (120:Nat)≤(140737488355328:Nat)∧Lens (14:Nat) (List.map Face.enc u.faces++[[vB false,vI (Yn i l).c,vI (Yn i l).scale,vI (Zq i l).c,vI (Zq i l).scale,vI (Zr i l).c,vI (Zr i l).scale,vI 0,vI 0,vI (ZS i l).c,vI (ZS i l).scale,vI (Xp i l).c,vI (Xp i l).scale,PV.str Yo]]))∧Q (Ex.normal) (some ⟨166,(Y7 i g l most),[(9,[PV.str u.name,vI u.back.c,vI u.back.scale,PV.lst (List.map Face.enc u.faces++[[vB false,vI (Yn i l).c,vI (Yn i l).scale,vI (Zq i l).c,vI (Zq i l).scale,vI (Zr i l).c,vI (Zr i l).scale,vI 0,vI 0,vI (ZS i l).c,vI (ZS i l).scale,vI (Xp i l).c,vI (Xp i l).scale,PV.str (Yo)]])]),(8,(Z5 z))],[],Yk,[]⟩)))))))) else (((0:Nat) < (1:Nat)∧(Yj u)* (120:Nat)≤(140737488355328:Nat)∧Lens (14:Nat) (List.map Face.enc u.faces++[[vB false,vI (Yn i l).c,vI (Yn i l).scale,vI (Zq i l).c,vI (Zq i l).scale,vI (Zr i l).c,vI (Zr i l).scale,vI 0,vI 0,vI 0,vI 0,vI 0,vI 0,PV.str Yo]]))∧Q (Ex.normal) (some ⟨166,(Y7 i g l most),[(9,[PV.str u.name,vI u.back.c,vI u.back.scale,PV.lst (List.map Face.enc u.faces++[[vB false,vI (Yn i l).c,vI (Yn i l).scale,vI (Zq i l).c,vI (Zq i l).scale,vI (Zr i l).c,vI (Zr i l).scale,vI 0,vI 0,vI 0,vI 0,vI 0,vI 0,PV.str (Yo)]])]),(8,(Z5 z))],[],Yk,[]⟩))))))))))) else (Za9∧(bif pick (qK i l) (6:Int)==(3:Int) then (YO∧(Zb8∧(YN∧(((0:Nat) < (1:Nat)∧(Yj u)* (120:Nat)≤(140737488355328:Nat)∧Lens (14:Nat) (List.map Face.enc u.faces++[[vB false,vI 0,vI 0,vI (Zq i l).c,vI (Zq i l).scale,vI (Zr i l).c,vI (Zr i l).scale,vI (Xo i l).c,vI (Xo i l).scale,vI 0,vI 0,vI 0,vI 0,PV.str Yo]]))∧Q (Ex.normal) (some ⟨166,(Y7 i g l most),[(9,[PV.str u.name,vI u.back.c,vI u.back.scale,PV.lst (List.map Face.enc u.faces++[[vB false,vI 0,vI 0,vI (Zq i l).c,vI (Zq i l).scale,vI (Zr i l).c,vI (Zr i l).scale,vI (Xo i l).c,vI (Xo i l).scale,vI 0,vI 0,vI 0,vI 0,PV.str (Yo)]])]),(8,(Z5 z))],[],Yk,[]⟩))))) else (bif pick (qK i l) (6:Int)==(4:Int) then (YO∧(YP∧(XQ∧(((0:Nat) < (1:Nat)∧(Yj u)* (120:Nat)≤(140737488355328:Nat)∧Lens (14:Nat) (List.map Face.enc u.faces++[[vB false,vI 0,vI 0,vI (Zq i l).c,vI (Zq i l).scale,vI (Zr i l).c,vI (Zr i l).scale,vI 0,vI 0,vI (ZS i l).c,vI (ZS i l).scale,vI 0,vI 0,PV.str Yo]]))∧Q (Ex.normal) (some ⟨166,(Y7 i g l most),[(9,[PV.str u.name,vI u.back.c,vI u.back.scale,PV.lst (List.map Face.enc u.faces++[[vB false,vI 0,vI 0,vI (Zq i l).c,vI (Zq i l).scale,vI (Zr i l).c,vI (Zr i l).scale,vI 0,vI 0,vI (ZS i l).c,vI (ZS i l).scale,vI 0,vI 0,PV.str (Yo)]])]),(8,(Z5 z))],[],Yk,[]⟩))))) else (bif pick (qK i l) (6:Int)==(5:Int) then (YO∧(YP∧(XQ∧(Zb9∧(YP∧(YN∧(((0:Nat) < (1:Nat)∧(Yj u)* (120:Nat)≤(140737488355328:Nat)∧Lens (14:Nat) (List.map Face.enc u.faces++[[vB false,vI 0,vI 0,vI (Zq i l).c,vI (Zq i l).scale,vI (Zr i l).c,vI (Zr i l).scale,vI 0,vI 0,vI (ZS i l).c,vI (ZS i l).scale,vI (Xp i l).c,vI (Xp i l).scale,PV.str Yo]]))∧Q (Ex.normal) (some ⟨166,(Y7 i g l most),[(9,[PV.str u.name,vI u.back.c,vI u.back.scale,PV.lst (List.map Face.enc u.faces++[[vB false,vI 0,vI 0,vI (Zq i l).c,vI (Zq i l).scale,vI (Zr i l).c,vI (Zr i l).scale,vI 0,vI 0,vI (ZS i l).c,vI (ZS i l).scale,vI (Xp i l).c,vI (Xp i l).scale,PV.str (Yo)]])]),(8,(Z5 z))],[],Yk,[]⟩)))))))) else (((0:Nat) < (1:Nat)∧(Yj u)* (120:Nat)≤(140737488355328:Nat)∧Lens (14:Nat) (List.map Face.enc u.faces++[[vB false,vI 0,vI 0,vI (Zq i l).c,vI (Zq i l).scale,vI (Zr i l).c,vI (Zr i l).scale,vI 0,vI 0,vI 0,vI 0,vI 0,vI 0,PV.str Yo]]))∧Q (Ex.normal) (some ⟨166,(Y7 i g l most),[(9,[PV.str u.name,vI u.back.c,vI u.back.scale,PV.lst (List.map Face.enc u.faces++[[vB false,vI 0,vI 0,vI (Zq i l).c,vI (Zq i l).scale,vI (Zr i l).c,vI (Zr i l).scale,vI 0,vI 0,vI 0,vI 0,vI 0,vI 0,PV.str (Yo)]])]),(8,(Z5 z))],[],Yk,[]⟩)))))))))
def ZlK(u:LensM)(z:LensM):Option St:=some ⟨166,[(8,AV.ptr 8 0),(9,AV.ptr 9 0)],[(8,(Z5 z)),(9,(Z5 u))],[],[(Loc.b (nat_lit 9) (nat_lit 3),nat_lit 32)],[]⟩
theorem Zf3:CSOk Tryz.prog Zpj:=Zb Zpa<|Zb Zt4<|Zb Zt3<|Zb ZvV<|Zf
set_option maxHeartbeats 4000000 in
theorem Zjl:Yq Tryz.prog (ZE Tryz.f16 0) Ze3:=by
 refine lsG Zx.Γ (ZQ Zx Zf3 ZZ Ya Yl (LS:=[]) (Y8 (l:=[]) (by kernel_rfl) ZC) (n:=2000) (U6 Ze1) (U6 Ww) (fun x e s=>(e= .exit 0∧s=U6 Wv x)) (fun x=>(x.2.2.1.length - x.1).toNat) Ze2 Zjf Zjg (fun x hx=>?_)) cv6 (fun _=>rfl) (fun _ h=>h) (fun _ _ _ _ h f=>fE h f)
 ·obtain ⟨i,g,l,most,u,z⟩:=x
  simp only[U6,Ww] at hx
  refine sxT (fun Q=>(bif decide (i < ↑(List.map RawFace.enc l).length) then (bif decide (↑(List.map Face.enc u.faces).length < most) then (((0:Int)≤i∧(List.map RawFace.enc l)[i.toNat]?=some (Yx [vI 0,vI 0,vI 0,vI 0,vI 0,vI 0] (rA i l)))∧(((0:Int) < (70:Int)∧(70:Int)≤(4611686018427387904:Int))∧(YN∧(((0:Int) < (80:Int)∧(80:Int)≤(4611686018427387904:Int))∧(YN∧(Za9∧(bif pick (Zpk i l) (6:Int)==(5:Int) then (bif decide (i > (0:Int)) then (((0:Nat) < (1:Nat)∧(Yj u)* (120:Nat)≤(140737488355328:Nat)∧Lens (14:Nat) (List.map Face.enc u.faces++[[vB true,vI 0,vI 0,vI (Zq i l).c,vI (Zq i l).scale,vI (Zr i l).c,vI (Zr i l).scale,vI 0,vI 0,vI 0,vI 0,vI 0,vI 0,PV.str []]]))∧Q (Ex.normal) (some ⟨166,(Y7 i g l most),[(9,[PV.str u.name,vI u.back.c,vI u.back.scale,PV.lst (List.map Face.enc u.faces++[[vB true,vI 0,vI 0,vI (Zq i l).c,vI (Zq i l).scale,vI (Zr i l).c,vI (Zr i l).scale,vI 0,vI 0,vI 0,vI 0,vI 0,vI 0,PV.str ([])]])]),(8,(Z5 z))],[],Yk,[]⟩)) else (Zpl i g l most u z Q)) else (Zpl i g l most u z Q)))))))) else Q (Ex.exit (0:Nat)) (ZlK u z)) else Q (Ex.exit (0:Nat)) (ZlK u z))) (fun _=>by kernel_rfl) ?_
  delta Zpl Zq ZS Zr Y7 WD Xp Xo YC Yn Yk YP Yj Yo YN XQ Za9 Zb8 YO ZcC ZeB ZlE ZlA ZlC ZlD Zl8 Zl9 ZlI ZlF ZlB ZlG ZlH ZlJ ZlK Zb9 JD Zl6 Zl7 Z5 vI vB pI
  refine Zc (fun h0=>Zc (fun h1=>⟨?r242,⟨?r241,⟨?r240,⟨?r239,⟨?r238,⟨?r237,Zc (fun h2=>Zc (fun h3=>⟨?r0, ?_⟩) (fun h3=>⟨?r118,Zc (fun h4=>⟨?r59,⟨?r58,Zc (fun h5=>⟨?r40,⟨?r39,⟨?r38,⟨?r37,Zc (fun h6=>⟨?r19,⟨?r18,⟨?r17,Zc (fun h7=>⟨?r4,⟨?r3,⟨?r2,⟨?r1, ?_⟩⟩⟩⟩) (fun h7=>Zc (fun h8=>⟨?r8,⟨?r7,⟨?r6,⟨?r5, ?_⟩⟩⟩⟩) (fun h8=>Zc (fun h9=>⟨?r15,⟨?r14,⟨?r13,⟨?r12,⟨?r11,⟨?r10,⟨?r9, ?_⟩⟩⟩⟩⟩⟩⟩) (fun h9=>⟨?r16, ?_⟩)))⟩⟩⟩) (fun h6=>⟨?r36,Zc (fun h7=>⟨?r23,⟨?r22,⟨?r21,⟨?r20, ?_⟩⟩⟩⟩) (fun h7=>Zc (fun h8=>⟨?r27,⟨?r26,⟨?r25,⟨?r24, ?_⟩⟩⟩⟩) (fun h8=>Zc (fun h9=>⟨?r34,⟨?r33,⟨?r32,⟨?r31,⟨?r30,⟨?r29,⟨?r28, ?_⟩⟩⟩⟩⟩⟩⟩) (fun h9=>⟨?r35, ?_⟩)))⟩)⟩⟩⟩⟩) (fun h5=>⟨?r57,Zc (fun h6=>⟨?r44,⟨?r43,⟨?r42,⟨?r41, ?_⟩⟩⟩⟩) (fun h6=>Zc (fun h7=>⟨?r48,⟨?r47,⟨?r46,⟨?r45, ?_⟩⟩⟩⟩) (fun h7=>Zc (fun h8=>⟨?r55,⟨?r54,⟨?r53,⟨?r52,⟨?r51,⟨?r50,⟨?r49, ?_⟩⟩⟩⟩⟩⟩⟩) (fun h8=>⟨?r56, ?_⟩)))⟩)⟩⟩) (fun h4=>⟨?r117,Zc (fun h5=>⟨?r99,⟨?r98,⟨?r97,⟨?r96,Zc (fun h6=>⟨?r78,⟨?r77,⟨?r76,Zc (fun h7=>⟨?r63,⟨?r62,⟨?r61,⟨?r60, ?_⟩⟩⟩⟩) (fun h7=>Zc (fun h8=>⟨?r67,⟨?r66,⟨?r65,⟨?r64, ?_⟩⟩⟩⟩) (fun h8=>Zc (fun h9=>⟨?r74,⟨?r73,⟨?r72,⟨?r71,⟨?r70,⟨?r69,⟨?r68, ?_⟩⟩⟩⟩⟩⟩⟩) (fun h9=>⟨?r75, ?_⟩)))⟩⟩⟩) (fun h6=>⟨?r95,Zc (fun h7=>⟨?r82,⟨?r81,⟨?r80,⟨?r79, ?_⟩⟩⟩⟩) (fun h7=>Zc (fun h8=>⟨?r86,⟨?r85,⟨?r84,⟨?r83, ?_⟩⟩⟩⟩) (fun h8=>Zc (fun h9=>⟨?r93,⟨?r92,⟨?r91,⟨?r90,⟨?r89,⟨?r88,⟨?r87, ?_⟩⟩⟩⟩⟩⟩⟩) (fun h9=>⟨?r94, ?_⟩)))⟩)⟩⟩⟩⟩) (fun h5=>⟨?r116,Zc (fun h6=>⟨?r103,⟨?r102,⟨?r101,⟨?r100, ?_⟩⟩⟩⟩) (fun h6=>Zc (fun h7=>⟨?r107,⟨?r106,⟨?r105,⟨?r104, ?_⟩⟩⟩⟩) (fun h7=>Zc (fun h8=>⟨?r114,⟨?r113,⟨?r112,⟨?r111,⟨?r110,⟨?r109,⟨?r108, ?_⟩⟩⟩⟩⟩⟩⟩) (fun h8=>⟨?r115, ?_⟩)))⟩)⟩)⟩)) (fun h2=>⟨?r236,Zc (fun h3=>⟨?r177,⟨?r176,Zc (fun h4=>⟨?r158,⟨?r157,⟨?r156,⟨?r155,Zc (fun h5=>⟨?r137,⟨?r136,⟨?r135,Zc (fun h6=>⟨?r122,⟨?r121,⟨?r120,⟨?r119, ?_⟩⟩⟩⟩) (fun h6=>Zc (fun h7=>⟨?r126,⟨?r125,⟨?r124,⟨?r123, ?_⟩⟩⟩⟩) (fun h7=>Zc (fun h8=>⟨?r133,⟨?r132,⟨?r131,⟨?r130,⟨?r129,⟨?r128,⟨?r127, ?_⟩⟩⟩⟩⟩⟩⟩) (fun h8=>⟨?r134, ?_⟩)))⟩⟩⟩) (fun h5=>⟨?r154,Zc (fun h6=>⟨?r141,⟨?r140,⟨?r139,⟨?r138, ?_⟩⟩⟩⟩) (fun h6=>Zc (fun h7=>⟨?r145,⟨?r144,⟨?r143,⟨?r142, ?_⟩⟩⟩⟩) (fun h7=>Zc (fun h8=>⟨?r152,⟨?r151,⟨?r150,⟨?r149,⟨?r148,⟨?r147,⟨?r146, ?_⟩⟩⟩⟩⟩⟩⟩) (fun h8=>⟨?r153, ?_⟩)))⟩)⟩⟩⟩⟩) (fun h4=>⟨?r175,Zc (fun h5=>⟨?r162,⟨?r161,⟨?r160,⟨?r159, ?_⟩⟩⟩⟩) (fun h5=>Zc (fun h6=>⟨?r166,⟨?r165,⟨?r164,⟨?r163, ?_⟩⟩⟩⟩) (fun h6=>Zc (fun h7=>⟨?r173,⟨?r172,⟨?r171,⟨?r170,⟨?r169,⟨?r168,⟨?r167, ?_⟩⟩⟩⟩⟩⟩⟩) (fun h7=>⟨?r174, ?_⟩)))⟩)⟩⟩) (fun h3=>⟨?r235,Zc (fun h4=>⟨?r217,⟨?r216,⟨?r215,⟨?r214,Zc (fun h5=>⟨?r196,⟨?r195,⟨?r194,Zc (fun h6=>⟨?r181,⟨?r180,⟨?r179,⟨?r178, ?_⟩⟩⟩⟩) (fun h6=>Zc (fun h7=>⟨?r185,⟨?r184,⟨?r183,⟨?r182, ?_⟩⟩⟩⟩) (fun h7=>Zc (fun h8=>⟨?r192,⟨?r191,⟨?r190,⟨?r189,⟨?r188,⟨?r187,⟨?r186, ?_⟩⟩⟩⟩⟩⟩⟩) (fun h8=>⟨?r193, ?_⟩)))⟩⟩⟩) (fun h5=>⟨?r213,Zc (fun h6=>⟨?r200,⟨?r199,⟨?r198,⟨?r197, ?_⟩⟩⟩⟩) (fun h6=>Zc (fun h7=>⟨?r204,⟨?r203,⟨?r202,⟨?r201, ?_⟩⟩⟩⟩) (fun h7=>Zc (fun h8=>⟨?r211,⟨?r210,⟨?r209,⟨?r208,⟨?r207,⟨?r206,⟨?r205, ?_⟩⟩⟩⟩⟩⟩⟩) (fun h8=>⟨?r212, ?_⟩)))⟩)⟩⟩⟩⟩) (fun h4=>⟨?r234,Zc (fun h5=>⟨?r221,⟨?r220,⟨?r219,⟨?r218, ?_⟩⟩⟩⟩) (fun h5=>Zc (fun h6=>⟨?r225,⟨?r224,⟨?r223,⟨?r222, ?_⟩⟩⟩⟩) (fun h6=>Zc (fun h7=>⟨?r232,⟨?r231,⟨?r230,⟨?r229,⟨?r228,⟨?r227,⟨?r226, ?_⟩⟩⟩⟩⟩⟩⟩) (fun h7=>⟨?r233, ?_⟩)))⟩)⟩)⟩)⟩⟩⟩⟩⟩⟩) (fun h1=>?_)) (fun h0=>?_)
  case r0|r1|r2|r3|r4|r5|r6|r7|r8|r9|r10|r11|r12|r13|r14|r15|r16|r17|r18|r19|r20|r21|r22|r23|r24|r25|r26|r27|r28|r29|r30|r31|r32|r33|r34|r35|r36|r37|r38|r39|r40|r41|r42|r43|r44|r45|r46|r47|r48|r49|r50|r51|r52|r53|r54|r55|r56|r57|r58|r59|r60|r61|r62|r63|r64|r65|r66|r67|r68|r69|r70|r71|r72|r73|r74|r75|r76|r77|r78|r79|r80|r81|r82|r83|r84|r85|r86|r87|r88|r89|r90|r91|r92|r93|r94|r95|r96|r97|r98|r99|r100|r101|r102|r103|r104|r105|r106|r107|r108|r109|r110|r111|r112|r113|r114|r115|r116|r117|r118|r119|r120|r121|r122|r123|r124|r125|r126|r127|r128|r129|r130|r131|r132|r133|r134|r135|r136|r137|r138|r139|r140|r141|r142|r143|r144|r145|r146|r147|r148|r149|r150|r151|r152|r153|r154|r155|r156|r157|r158|r159|r160|r161|r162|r163|r164|r165|r166|r167|r168|r169|r170|r171|r172|r173|r174|r175|r176|r177|r178|r179|r180|r181|r182|r183|r184|r185|r186|r187|r188|r189|r190|r191|r192|r193|r194|r195|r196|r197|r198|r199|r200|r201|r202|r203|r204|r205|r206|r207|r208|r209|r210|r211|r212|r213|r214|r215|r216|r217|r218|r219|r220|r221|r222|r223|r224|r225|r226|r227|r228|r229|r230|r231|r232|r233|r234|r235|r236|r237|r238|r239|r240|r241|r242=>first | rfl | omega | (rw[Zp];done) | (rw[Xj];done) | (have hb:=ZaU g most l 0 [];have hd:=Yy (pick back 100);have hp:=Jk (n:=back) (m:=100) (by omega);simp only[Zp,Z9,Xj,QG_,show Ze Face.dec []=[] from rfl,Qk_,Q1_] at *;first | done | rfl | omega | exact ⟨by decide,by omega,YM (YL (e:=Face.enc) (fun _=>rfl) _) rfl⟩) | (obtain ⟨a1,a2,a3,a4,a5,a6⟩:=hx;(try simp only[Qk_,Qc_] at h0);(try simp only[Qk_,Qc_] at h1);(try simp only[Qk_] at *);have hg:IntKind.i64.wrap ((g.length:Int)+2)=g.length+2:=Zg (by constructor<;>omega);first | omega | (rw[hg];omega) | exact Zu (fun _=>rfl) (by omega) (by omega) | exact ⟨by decide,by omega,YM (YL (e:=Face.enc) (fun _=>rfl) _) rfl⟩ | (simp only[Qc_] at h4;exact Zu (fun _=>rfl) (Jk (by rw[hg];omega)).1 (by omega)) | (simp only[Qc_] at h3;exact Zu (fun _=>rfl) (Jk (by rw[hg];omega)).1 (by omega))) | skip
  all_goals (obtain ⟨a1,a2,a3,a4,a5,a6⟩:=hx;try simp only[Qk_,Qc_,Qe_] at h0)
  all_goals first | (have hk:i < l.length:=h0;obtain ⟨f,t,e1,e2,e3⟩:=Yi (l:=l) a1 (by omega);have eA:rA i l=RawFace.enc f:=Yt e3;have r0:Zpk i l=f.kind:=(by unfold Zpk;rw[eA];rfl);have r1:qR i l=f.r:=(by unfold qR;rw[eA];rfl);have r2:qA i l=f.a:=(by unfold qA;rw[eA];rfl);have r3:qT i l=f.t:=(by unfold qT;rw[eA];rfl);have r4:qG i l=f.g:=(by unfold qG;rw[eA];rfl);have r5:qK i l=f.k:=(by unfold qK;rw[eA];rfl)) | (exact .inr ⟨by simp,_,rfl,by trivial,by unfold U6 Wv;(try dsimp only);rw[List.drop_eq_nil_of_le (by omega)];rfl⟩)
  all_goals (simp only[Qk_] at h1)
  all_goals first | (exact .inr ⟨by simp,_,rfl,by trivial,by unfold U6 Wv;(try dsimp only);(rw[e1,Zfz,h1])<;>rfl⟩) | skip
  all_goals simp only[r0,r1,r2,r3,r4,r5,Zs2,Qk_] at *
  all_goals (have hw:IntKind.i64.wrap (i+1)=i+1:=Zg (by constructor<;>omega);have eb:Xw g most (l.drop i.toNat) i u.faces=Xw g most (l.drop (IntKind.i64.wrap (i+1)).toNat) (IntKind.i64.wrap (i+1)) (u.faces++[JT f i g]):=(by rw[hw,e1,e2,Zfz,h1];rfl))
  all_goals
   refine .inl ⟨by trivial,(IntKind.i64.wrap (i+1),g,l,most,⟨u.name,u.back,u.faces++[JT f i g]⟩,z), ?_, ?_, ?_, ?_⟩
   ·simp only[U6,Ze1,LensM.enc,QR_,QE_,QN_,Face.enc,JT,Zn6,ZiC,Zq7,Zq8,ZiD,ZvT,ZkZ,Zla,Zup,w64, *,Qp_,Ql_,Qr_,Qn_,Qu_,Qt_,Q4_,Qw_,Q5_,Q3_,Qb_,Qd_]
    try rfl
   ·simp only[Qc_] at h1
    simp only[U6,Ww,hw,Qx_,Qs_,Q1_];exact ⟨by omega,by omega,a3,a4,a5,by omega⟩
   ·simp only[hw];omega
   ·intro e s' h;refine ⟨h.1,h.2.trans ?_⟩;unfold U6 Wv;rw[eb]
theorem ZlL:Yd Tryz.prog [(4,Ze3)] Tryz.f16:=Yh (l:=[ZE Tryz.f16 0]) (by kernel_rfl) (Yr (i:=4) (by kernel_rfl) rfl Zjl (ZC))
def Zhl(l:List RawFace):=Ze RawFace.dec (List.map RawFace.enc l)
def ZeC(l:List RawFace)(g:List Glass)(most:Int):=Xw (Ze Glass.dec (List.map Glass.enc g)) most (List.drop (0:Nat) (Zhl l)) (0:Int) (Ze Face.dec [])
def Zhm:=(0:Int)≤(0:Int)∧(0:Int)≤(18:Int)
def ZbA(l:List RawFace)(g:List Glass)(most:Int):=List.map Face.enc (ZeC l g most)
def ZlM:=[(99:UInt8),(114:UInt8),(111:UInt8),(119:UInt8),(110:UInt8)]
def ZaA(back:Int):=hdec (1:Nat) (IntKind.i64.wrap ((200:Int)+pick back (600:Int))) (1:Int)
def ZlN(back:Int)(l:List RawFace)(g:List Glass)(most:Int)(Q:PV→Prop):Prop:=Zhm∧(Zhm∧(Zhm∧(((0:Nat) < (1:Nat)∧((ZbA l g most).length+(1:Nat))* (120:Nat)≤(140737488355328:Nat)∧Lens (14:Nat) (List.map Face.enc (ZeC l g most)++[[vB false,vI 40,vI 0,vI 8,vI 0,vI 3,vI 0,vI 0,vI 0,vI 0,vI 0,vI 0,vI 0,PV.str ZlM]]))∧Q (PV.agg [PV.str ([(120:UInt8)]++digits (pick back (100:Int))),vI (ZaA back).c,vI (ZaA back).scale,PV.lst (List.map Face.enc (ZeC l g most)++[[vB false,vI 40,vI 0,vI 8,vI 0,vI 3,vI 0,vI 0,vI 0,vI 0,vI 0,vI 0,vI 0,PV.str (ZlM)]])]))))
def ZlO(back:Int):=LensM.mk ([(120:UInt8)]++digits (pick back (100:Int))) (ZaA back) (Ze Face.dec [])
def q13_45:=LensM.mk [] (Dec.mk (0:Int) (0:Int)) (Ze Face.dec [])
set_option maxHeartbeats 4000000 in
theorem Zt6:Zk Tryz.prog 16 e16:=Zm<|Zh fun back=>Zh fun l=>Zh fun g=>Zh fun most=>EZ1 fun hp0=>by
 refine cfL Zf3 ZlL rfl ?_
 refine sxT (fun Q=>(((0:Int) < (100:Int)∧(100:Int)≤(4611686018427387904:Int))∧(((-1000000000000000000:Int)≤pick back (100:Int)∧pick back (100:Int)≤(1000000000000000000:Int))∧(((1:Nat)+(digits (pick back (100:Int))).length≤(9223372036854775807:Nat))∧(((0:Int) < (600:Int)∧(600:Int)≤(4611686018427387904:Int))∧(((0:Int)≤(1:Int)∧(1:Int)≤(18:Int))∧((List.map Glass.enc g=List.map Glass.enc (Ze Glass.dec (List.map Glass.enc g)))∧((List.map RawFace.enc l=List.map RawFace.enc (Zhl l))∧(([PV.str ([(120:UInt8)]++digits (pick back (100:Int))),vI (ZaA back).c,vI (ZaA back).scale,PV.lst []]=(ZlO back).enc)∧(([PV.str [],vI 0,vI 0,PV.lst []]=q13_45.enc)∧((Ww (0:Int) (Ze Glass.dec (List.map Glass.enc g)) (Zhl l) most (ZlO back) q13_45)∧(bif ↑(ZbA l g most).length==(0:Int) then (ZlN back l g most Q) else ((List.map Face.enc (ZeC l g most)=List.map Face.enc (Ze Face.dec (ZbA l g most)))∧(((Ze Face.dec (ZbA l g most)).length≤(140737488355328:Nat))∧(bif !XS (Ze Face.dec (ZbA l g most)) then (ZlN back l g most Q) else Q (PV.agg [PV.str ([(120:UInt8)]++digits (pick back (100:Int))),vI (ZaA back).c,vI (ZaA back).scale,PV.lst (ZbA l g most)])))))))))))))))) (fun _=>by kernel_rfl) ?_
 delta Qn ZeC ZlN ZaA Zhm ZlM ZlO q13_45 Zhl ZbA vI vB
 refine ⟨?r18,⟨?r17,⟨?r16,⟨?r15,⟨?r14,⟨?r13,⟨?r12,⟨?r11,⟨?r10,⟨?_,Zc (fun h0=>⟨?r3,⟨?r2,⟨?r1,⟨?r0, ?_⟩⟩⟩⟩) (fun h0=>⟨?r9,⟨?r8,Zc (fun h1=>⟨?r7,⟨?r6,⟨?r5,⟨?r4, ?_⟩⟩⟩⟩) (fun h1=>?_)⟩⟩)⟩⟩⟩⟩⟩⟩⟩⟩⟩⟩
 case r0|r1|r2|r3|r4|r5|r6|r7|r8|r9|r10|r11|r12|r13|r14|r15|r16|r17|r18=>first | rfl | omega | (rw[Zp];done) | (rw[Xj];done) | (have hb:=ZaU g most l 0 [];have hd:=Yy (pick back 100);have hp:=Jk (n:=back) (m:=100) (by omega);simp only[Zp,Z9,Xj,QG_,show Ze Face.dec []=[] from rfl,Qk_,Q1_] at *;first | done | rfl | omega | exact ⟨by decide,by omega,YM (YL (e:=Face.enc) (fun _=>rfl) _) rfl⟩) | (obtain ⟨a1,a2,a3,a4,a5,a6⟩:=hx;(try simp only[Qk_,Qc_] at h0);(try simp only[Qk_,Qc_] at h1);(try simp only[Qk_] at *);have hg:IntKind.i64.wrap ((g.length:Int)+2)=g.length+2:=Zg (by constructor<;>omega);first | omega | (rw[hg];omega) | exact Zu (fun _=>rfl) (by omega) (by omega) | exact ⟨by decide,by omega,YM (YL (e:=Face.enc) (fun _=>rfl) _) rfl⟩ | (simp only[Qc_] at h4;exact Zu (fun _=>rfl) (Jk (by rw[hg];omega)).1 (by omega)) | (simp only[Qc_] at h3;exact Zu (fun _=>rfl) (Jk (by rw[hg];omega)).1 (by omega))) | skip
 all_goals simp only[Zp,Z9,Xj,QG_,QO_,show Ze Face.dec []=[] from rfl,Qk_] at *
 ·exact ⟨by omega,by omega,hp0.1,hp0.2.1,hp0.2.2,by simp⟩
 all_goals have e0:((Xw g most l 0 []).length==0)=_:=Eq.trans (by cases hL:Xw g most l 0 []<;>simp only[Qs_,Q1_]<;>(first | rfl | (symm;rw[K8_];omega))) h0
 all_goals simp only[Ye,Zer,e0,Q4_,Qw_,Qb_,Qd_]
 ·simp only[LensM.enc,QR_,QE_,QN_];rfl
 ·simp only[Qi_] at h1
  simp only[h1,Qt_,Qb_,LensM.enc,QR_,QE_,QN_];rfl
 ·simp only[Qf_] at h1
  simp only[h1,Qu_,Qd_];rfl
open Go Go.RowKit Go.Sort
theorem ZmM(w:World)(e:TypeId)(s:ByteArray):Below w.heap.size w (Lib.bytesWorld w e s):=
 ⟨rfl,rfl,rfl,by rw[Lib.bytesWorld_size];omega,fun k hk=>Lib.bytesWorld_at_old w e s k hk⟩
theorem ZbB{a b:Nat}(h:a≤b):Nat.ble a b=true:=QF_ h
theorem Zvr:Zk Tryz.prog 175 Zw3:=Zm<|Zh fun s=>Zh fun c=>EZ2 fun h0 h1=>
 Zok Tryz.call175 (fun s c w h1 h2 h3=>Any.strings_Trim_laid Tryz.lays160 (by kernel_rfl) s c w h1 h2 h3) _ _ (show (bif YG 4000000000 s&&YG 4000000000 c&&WO c then some (PV.str (Lib.trimS s c)) else none)=_ by
  unfold YG;rw[ZbB h0.1,ZbB h0.2,h1];rfl)
theorem Zvs:Zk Tryz.prog 153 Zw4:=Zm<|Zh fun s=>Zh fun c=>EZ2 fun h0 h1=>
 ZgA Tryz.call153 (fun s c w h1 h2 h3=>Any.strings_TrimRight_laid Tryz.lays162 (by kernel_rfl) s c w h1 h2 h3) _ _ (show (bif YG 4000000000 s&&YG 4000000000 c&&WO c then some (PV.str (Lib.trimRightS s c)) else none)=_ by
  unfold YG;rw[ZbB h0.1,ZbB h0.2,h1];rfl)
theorem Zvt:Zk Tryz.prog 154 Zw5:=Zm<|Zh fun s=>EZ1 fun h=>
 Zom Tryz.call154 (fun s n w h1 h2=>(Any.strconv_Atoi Tryz.lays172 s n h1 h2 w).mono fun e w' ⟨he,t,hw'⟩=>⟨he,by subst hw';exact ZmM w _ t⟩) _ _ (show (bif YG 18 s then (match Lib.atoi s with | some n=>some (PV.tup [.v (.int .i64 n),.v .nilIface]) | none=>none) else none)=_ by
  unfold YG;rw[ZbB h.1,h.2];rfl)
theorem Zvu:Zk Tryz.prog 129 Zw6:=Zm<|Zh fun s=>Zh fun n=>EZ1 fun h=>by
 obtain ⟨m,rfl⟩:=Int.eq_ofNat_of_zero_le h.1
 exact ZkC Tryz.call129 (fun s c w h1 h2=>Any.strings_Repeat Tryz.lays105 Tryz.Builder_Extra_105 s c w h1 h2) _ _ (show (bif Nat.ble m 4000000000&&Nat.ble (s.length *m) 4000000000 then some (PV.str (Lib.repeatL s m)) else none)=_ by
  rw[ZbB (show m≤4000000000 by have:=h.2.1;omega),ZbB (show s.length *m≤4000000000 from h.2.2)];rfl)
theorem Zvv:Zk Tryz.prog 221 Zw7:=Zm<|Zh fun s=>Zh fun c=>EZ0<|
 Zg8 (fun args w=>run_callFunc_extern Tryz.func221 (by kernel_rfl) (by kernel_rfl) (by kernel_rfl) (e:=Extern.BytealgIndexByte.indexByte) (by kernel_rfl) args w) _ _ rfl
theorem ZmN(w:World)(k:Nat)(os:Array Obj):Below w.heap.size w (grow (w.drewN k) os):=
 ⟨rfl,rfl,rfl,by simp[grow],fun i hi=>K6_ hi⟩
theorem ZsO(n:Int)(h: -1000000000000000000≤n∧n≤1000000000000000000):Con Tryz.prog 128 [.v (.int .i64 n)] (.str (digits n)):=
 Zol Tryz.call128 (fun n hw w h0 h1 hg=>(Any.strconv_Itoa Tryz.laysM171 n h0 h1 w (Zsb hg (x:=4) (vs:=Lib.pow10Tab.map fun z=>Value.int .u64 z) rfl (by kernel_rfl))).mono fun e w' ⟨he,k,os,hw'⟩=>⟨he,by subst hw';exact ZmN w k os⟩) _ _ (ZmD h)
theorem Zvw:Zk Tryz.prog 128 Zw8:=Zm<|Zh fun n=>EZ1 fun h=>ZsO n h
end Go.Men
namespace Go.Men
open Go.Ev Go.Proofs Go.Proofs.YtgfgjabeooohhaaGreatDoor
theorem Zvx:Zk Tryz.prog 206 Zw9:=Zm<|Zh fun s=>Zh fun c=>EZ0<|by
 refine cf0 (Zb Zvv<|Zf) (fn:=Tryz.f206) rfl ?_
 refine sxT (fun Q=>Q (vI (ixM c s))) (fun _=>by kernel_rfl) ?_
 delta Qn vI
 refine ?_
 all_goals (try simp only[Qi_,Qf_,bne] at *)
 all_goals first | rfl | (simp only[ixM,Z1,Zv,List.foldl,Qr_,Qp_,Ql_,Qn_,Q5_,Q4_,Qw_,Q3_,Qu_,Qt_,Qb_,Qd_,QD_,Q8_, *];done) | (simp only[ixM,Z1,Zv,List.foldl,Qr_,Qp_,Ql_,Qn_,Q5_,Q4_,Qw_,Q3_,Qu_,Qt_,Qb_,Qd_,QD_,Q8_, *];first | rfl | (simp only[nz,nzA,nz1,QE_,QN_,Iv.enc,V.enc,Ray.enc, *];first | done | rfl)) | (simp_all[nz,nzA,nz1,Iv.enc,V.enc,Ray.enc,Dec.enc,Shape.enc,none',told,K2_,ixM];done) | (simp_all[nz,nzA,nz1,Iv.enc,V.enc,Ray.enc,Dec.enc,Shape.enc,none',told,K2_,ixM];omega) | (simp_all[nz,nzA,nz1,Iv.enc,V.enc,Ray.enc,Dec.enc,Shape.enc,none',told,K2_,ixM];(repeat' split)<;>(first | rfl | (exfalso;omega) | (simp_all;done) | omega))
theorem Zvy:Zk Tryz.prog 186 ZwA:=Zm<|Zh fun s=>Zh fun p=>EZ0<|by
 refine cf0 Zf (fn:=Tryz.f186) rfl ?_
 refine sxT (fun Q=>(bif decide (((s.length:Nat):Int)≥((p.length:Nat):Int)) then (((0:Int)≤((p.length:Nat):Int)∧((p.length:Nat):Int)≤((s.length:Nat):Int))∧Q (vB (List.take (((p.length:Nat):Int)).toNat s==p))) else Q (vB false))) (fun _=>by kernel_rfl) ?_
 delta Qn vB
 refine Zc (fun h0=>⟨?r0, ?_⟩) (fun h0=>?_)
 case r0=>first | rfl | omega | (simp only[Qc_] at h0;omega) | skip
 all_goals (try simp only[Qi_,Qf_,bne] at *)
 all_goals first | rfl | (simp only[Wu,Z1,Zv,List.foldl,Qr_,Qp_,Ql_,Qn_,Q5_,Q4_,Qw_,Q3_,Qu_,Qt_,Qb_,Qd_,QD_,Q8_, *];done) | (simp only[Wu,Z1,Zv,List.foldl,Qr_,Qp_,Ql_,Qn_,Q5_,Q4_,Qw_,Q3_,Qu_,Qt_,Qb_,Qd_,QD_,Q8_, *];first | rfl | (simp only[nz,nzA,nz1,QE_,QN_,Iv.enc,V.enc,Ray.enc, *];first | done | rfl)) | (simp_all[nz,nzA,nz1,Iv.enc,V.enc,Ray.enc,Dec.enc,Shape.enc,none',told,K2_,Wu];done) | (simp_all[nz,nzA,nz1,Iv.enc,V.enc,Ray.enc,Dec.enc,Shape.enc,none',told,K2_,Wu];omega) | (simp_all[nz,nzA,nz1,Iv.enc,V.enc,Ray.enc,Dec.enc,Shape.enc,none',told,K2_,Wu];(repeat' split)<;>(first | rfl | (exfalso;omega) | (simp_all;done) | omega))
theorem Zvz:Zk Tryz.prog 173 ZwB:=Zm<|Zh fun s=>Zh fun p=>EZ0<|by
 refine cf0 (Zb Zvy<|Zf) (fn:=Tryz.f173) rfl ?_
 refine sxT (fun Q=>(bif !Wu s p then Q (PV.tup [PV.str s,vB false]) else (((0:Int)≤((p.length:Nat):Int)∧((p.length:Nat):Int)≤((s.length:Nat):Int))∧Q (PV.tup [PV.str (List.drop (((p.length:Nat):Int)).toNat s),vB true])))) (fun _=>by kernel_rfl) ?_
 delta Qn vB
 refine Zc (fun h0=>?_) (fun h0=>⟨?r0, ?_⟩)
 case r0=>first | rfl | omega | (have h0:Wu s p=true:=(by simpa using h0);unfold Wu at h0;simp only[Qh_,Qc_] at h0;omega) | skip
 all_goals (try simp only[Qi_,Qf_,bne] at *)
 all_goals first | rfl | (simp only[ZH,Z1,Zv,List.foldl,Qr_,Qp_,Ql_,Qn_,Q5_,Q4_,Qw_,Q3_,Qu_,Qt_,Qb_,Qd_,QD_,Q8_, *];done) | (simp only[ZH,Z1,Zv,List.foldl,Qr_,Qp_,Ql_,Qn_,Q5_,Q4_,Qw_,Q3_,Qu_,Qt_,Qb_,Qd_,QD_,Q8_, *];first | rfl | (simp only[nz,nzA,nz1,QE_,QN_,Iv.enc,V.enc,Ray.enc, *];first | done | rfl)) | (simp_all[nz,nzA,nz1,Iv.enc,V.enc,Ray.enc,Dec.enc,Shape.enc,none',told,K2_,ZH];done) | (simp_all[nz,nzA,nz1,Iv.enc,V.enc,Ray.enc,Dec.enc,Shape.enc,none',told,K2_,ZH];omega) | (simp_all[nz,nzA,nz1,Iv.enc,V.enc,Ray.enc,Dec.enc,Shape.enc,none',told,K2_,ZH];(repeat' split)<;>(first | rfl | (exfalso;omega) | (simp_all;done) | omega))
theorem Zv0:Zk Tryz.prog 150 ZwC:=Zm<|Zh fun s=>Zh fun p=>EZ0<|by
 refine cf0 (Zb Zvz<|Zf) (fn:=Tryz.f150) rfl ?_
 refine sxT (fun Q=>Q (PV.tup [PV.str (ZH s p).fst,vB (ZH s p).snd])) (fun _=>by kernel_rfl) ?_
 delta Qn vB
 refine ?_
 all_goals (try simp only[Qi_,Qf_,bne] at *)
 all_goals first | rfl | (simp only[ZH,Z1,Zv,List.foldl,Qr_,Qp_,Ql_,Qn_,Q5_,Q4_,Qw_,Q3_,Qu_,Qt_,Qb_,Qd_,QD_,Q8_, *];done) | (simp only[ZH,Z1,Zv,List.foldl,Qr_,Qp_,Ql_,Qn_,Q5_,Q4_,Qw_,Q3_,Qu_,Qt_,Qb_,Qd_,QD_,Q8_, *];first | rfl | (simp only[nz,nzA,nz1,QE_,QN_,Iv.enc,V.enc,Ray.enc, *];first | done | rfl)) | (simp_all[nz,nzA,nz1,Iv.enc,V.enc,Ray.enc,Dec.enc,Shape.enc,none',told,K2_,ZH];done) | (simp_all[nz,nzA,nz1,Iv.enc,V.enc,Ray.enc,Dec.enc,Shape.enc,none',told,K2_,ZH];omega) | (simp_all[nz,nzA,nz1,Iv.enc,V.enc,Ray.enc,Dec.enc,Shape.enc,none',told,K2_,ZH];(repeat' split)<;>(first | rfl | (exfalso;omega) | (simp_all;done) | omega))
theorem Zux(s:List UInt8):Con Tryz.prog 189 [.str s,.str [46]] (.v (.int .i64 (ixM 46 s))):=by
 refine cf0 (Zb Zvx<|Zf) (fn:=Tryz.f189) rfl ?_
 refine sxT (fun Q=>(bif [(46:UInt8)]==s then Q (vI 0) else (((0:Int)≤(0:Int)∧(0:Int) < (1:Int))∧Q (vI (ixM (46:Int) s))))) (fun _=>by kernel_rfl) ?_
 delta Qn vI
 refine Zc (fun h0=>?_) (fun h0=>⟨?r0, ?_⟩)
 case r0=>first | rfl | (simp only[Xl,dI,dIv];omega) | (simp[Ze,chunk];done) | (simp only[Xl,dI,dIv];done) | (exact Zu (fun _=>rfl) (by omega) (by omega)) | (simp only[Qc_,Qk_] at *;exact Zu (fun _=>rfl) (by omega) (by omega)) | assumption | trivial | (simp_all;done) | omega
 ·have e:=eq_of_beq h0;subst e;rfl
 ·rfl
theorem Zv1:Zk Tryz.prog 189 ZuZ:=by
 intro args r ps h hp
 unfold ZuZ at h
 split at h
 ·rename_i p1
  cases (Qa_ h)
  exact Zux p1
 ·exact absurd h (by simp)
theorem Zpm(s:List UInt8)(hp0:s.length≤4000000000):Con Tryz.prog 174 [.str s,.str [46]] (.tup [.str ((ZG s).1),.str ((ZG s).2.1),.v (.bool ((ZG s).2.2))]):=by
 refine cf0 (Zb Zv1<|Zf) (fn:=Tryz.f174) rfl ?_
 refine sxT (fun Q=>(bif decide (ixM (46:Int) s≥(0:Int)) then (((0:Int)≤ixM (46:Int) s∧ixM (46:Int) s≤↑s.length)∧(((0:Int)≤IntKind.i64.wrap (ixM (46:Int) s+(1:Int))∧IntKind.i64.wrap (ixM (46:Int) s+(1:Int))≤↑s.length)∧Q (PV.tup [PV.str (List.take (ixM (46:Int) s).toNat s),PV.str (List.drop (IntKind.i64.wrap (ixM (46:Int) s+(1:Int))).toNat s),vB true]))) else Q (PV.tup [PV.str s,PV.str ([]),vB false]))) (fun _=>by kernel_rfl) ?_
 delta Qn vB
 refine Zc (fun h0=>⟨?r1,⟨?r0, ?_⟩⟩) (fun h0=>?_)
 case r0|r1=>have hb:=ZqF s;simp only[Qc_] at h0;have hw:IntKind.i64.wrap (ixM 46 s+1)=ixM 46 s+1:=Zg (by constructor<;>omega);(try rw[hw]);omega
 ·have hb:=ZqF s;have h1:=h0;simp only[Qc_] at h1;have hw:IntKind.i64.wrap (ixM 46 s+1)=ixM 46 s+1:=Zg (by constructor<;>omega)
  rw[hw];simp only[ZG,h0,Qb_];rfl
 ·simp only[ZG,h0,Qd_];rfl
theorem Zv2:Zk Tryz.prog 174 Zva:=by
 intro args r ps h hp
 unfold Zva at h
 split at h
 ·rename_i p1
  cases (Qa_ h)
  exact Zpm p1 (hp _ (by simp))
 ·exact absurd h (by simp)
theorem Zrz(s:List UInt8)(hp0:s.length≤4000000000):Con Tryz.prog 151 [.str s,.str [46]] (.tup [.str ((ZG s).1),.str ((ZG s).2.1),.v (.bool ((ZG s).2.2))]):=by
 refine cf0 (Zb Zv2<|Zf) (fn:=Tryz.f151) rfl ?_
 refine sxT (fun Q=>((s.length≤(4000000000:Nat))∧Q (PV.tup [PV.str (ZG s).fst,PV.str (ZG s).snd.fst,vB (ZG s).snd.snd]))) (fun _=>by kernel_rfl) ?_
 delta Qn vB
 refine ⟨?r0, ?_⟩
 case r0=>first | rfl | (simp only[Xl,dI,dIv];omega) | (simp[Ze,chunk];done) | (simp only[Xl,dI,dIv];done) | (exact Zu (fun _=>rfl) (by omega) (by omega)) | (simp only[Qc_,Qk_] at *;exact Zu (fun _=>rfl) (by omega) (by omega)) | assumption | trivial | (simp_all;done) | omega
 all_goals (try simp only[Qi_,Qf_,bne] at *)
 all_goals first | rfl | (simp only[ZG,Z1,Zv,List.foldl,Qr_,Qp_,Ql_,Qn_,Q5_,Q4_,Qw_,Q3_,Qu_,Qt_,Qb_,Qd_,QD_,Q8_, *];done) | (simp only[ZG,Z1,Zv,List.foldl,Qr_,Qp_,Ql_,Qn_,Q5_,Q4_,Qw_,Q3_,Qu_,Qt_,Qb_,Qd_,QD_,Q8_, *];first | rfl | (simp only[nz,nzA,nz1,QE_,QN_,Iv.enc,V.enc,Ray.enc, *];first | done | rfl)) | (simp_all[nz,nzA,nz1,Iv.enc,V.enc,Ray.enc,Dec.enc,Shape.enc,none',told,K2_,ZG];done) | (simp_all[nz,nzA,nz1,Iv.enc,V.enc,Ray.enc,Dec.enc,Shape.enc,none',told,K2_,ZG];omega) | (simp_all[nz,nzA,nz1,Iv.enc,V.enc,Ray.enc,Dec.enc,Shape.enc,none',told,K2_,ZG];(repeat' split)<;>(first | rfl | (exfalso;omega) | (simp_all;done) | omega))
theorem Zv3:Zk Tryz.prog 151 Zvb:=by
 intro args r ps h hp
 unfold Zvb at h
 split at h
 ·rename_i p1
  cases (Qa_ h)
  exact Zrz p1 (hp _ (by simp))
 ·exact absurd h (by simp)
theorem Zv4:Zk Tryz.prog 152 ZwD:=Zm<|Zh fun s=>Zh fun n=>EZ1 fun hp0=>by
 refine cf0 (Zb Zvr<|Zf) (fn:=Tryz.f152) rfl ?_
 refine sxT (fun Q=>(bif !s==[] then (bif decide (↑s.length≤n) then ((s.length≤(4000000000:Nat)∧(10:Nat)≤(4000000000:Nat))∧((true=true)∧Q (vB (Zha s [(48:UInt8),(49:UInt8),(50:UInt8),(51:UInt8),(52:UInt8),(53:UInt8),(54:UInt8),(55:UInt8),(56:UInt8),(57:UInt8)]==[])))) else Q (vB false)) else Q (vB false))) (fun _=>by kernel_rfl) ?_
 delta Qn vB
 refine Zc (fun h0=>Zc (fun h1=>⟨?r1,⟨?r0, ?_⟩⟩) (fun h1=>?_)) (fun h0=>?_)
 case r0|r1=>first | rfl | omega | (exact ⟨hp0,by decide⟩) | skip
 all_goals (try simp only[Qi_,Qf_,bne] at *)
 all_goals first | rfl | (simp only[figs,Z1,Zv,List.foldl,Qr_,Qp_,Ql_,Qn_,Q5_,Q4_,Qw_,Q3_,Qu_,Qt_,Qb_,Qd_,QD_,Q8_, *];done) | (simp only[figs,Z1,Zv,List.foldl,Qr_,Qp_,Ql_,Qn_,Q5_,Q4_,Qw_,Q3_,Qu_,Qt_,Qb_,Qd_,QD_,Q8_, *];first | rfl | (simp only[nz,nzA,nz1,QE_,QN_,Iv.enc,V.enc,Ray.enc, *];first | done | rfl)) | (simp_all[nz,nzA,nz1,Iv.enc,V.enc,Ray.enc,Dec.enc,Shape.enc,none',told,K2_,figs];done) | (simp_all[nz,nzA,nz1,Iv.enc,V.enc,Ray.enc,Dec.enc,Shape.enc,none',told,K2_,figs];omega) | (simp_all[nz,nzA,nz1,Iv.enc,V.enc,Ray.enc,Dec.enc,Shape.enc,none',told,K2_,figs];(repeat' split)<;>(first | rfl | (exfalso;omega) | (simp_all;done) | omega))
def Zpn(c:Int)(Q:PV→Prop):Prop:=bif decide (c≥(65:Int)) then Q (vB (decide (c≤(90:Int)))) else Q (vB false)
theorem Zr0:Zk Tryz.prog 100 Zvc:=Zm<|Zh fun c=>EZ0<|by
 refine cf0 Zf (fn:=Tryz.f100) rfl ?_
 refine sxT (fun Q=>(bif decide (c≥(97:Int)) then (bif decide (c≤(122:Int)) then Q (vB true) else (Zpn c Q)) else (Zpn c Q))) (fun _=>by kernel_rfl) ?_
 delta Qn Zpn vB
 refine Zc (fun h0=>Zc (fun h1=>?_) (fun h1=>Zc (fun h2=>?_) (fun h2=>?_))) (fun h0=>Zc (fun h1=>?_) (fun h1=>?_))
 all_goals (try simp only[Qi_,Qf_,bne] at *)
 all_goals first | rfl | (simp only[XE,Z1,Zv,List.foldl,Qr_,Qp_,Ql_,Qn_,Q5_,Q4_,Qw_,Q3_,Qu_,Qt_,Qb_,Qd_,QD_,Q8_, *];done) | (simp only[XE,Z1,Zv,List.foldl,Qr_,Qp_,Ql_,Qn_,Q5_,Q4_,Qw_,Q3_,Qu_,Qt_,Qb_,Qd_,QD_,Q8_, *];first | rfl | (simp only[nz,nzA,nz1,QE_,QN_,Iv.enc,V.enc,Ray.enc, *];first | done | rfl)) | (simp_all[nz,nzA,nz1,Iv.enc,V.enc,Ray.enc,Dec.enc,Shape.enc,none',told,K2_,XE];done) | (simp_all[nz,nzA,nz1,Iv.enc,V.enc,Ray.enc,Dec.enc,Shape.enc,none',told,K2_,XE];omega) | (simp_all[nz,nzA,nz1,Iv.enc,V.enc,Ray.enc,Dec.enc,Shape.enc,none',told,K2_,XE];(repeat' split)<;>(first | rfl | (exfalso;omega) | (simp_all;done) | omega))
theorem ZlP:Zk Tryz.prog 101 Zvd:=Zm<|Zh fun c=>EZ0<|by
 refine cf0 Zf (fn:=Tryz.f101) rfl ?_
 refine sxT (fun Q=>(bif decide (c≥(48:Int)) then Q (vB (decide (c≤(57:Int)))) else Q (vB false))) (fun _=>by kernel_rfl) ?_
 delta Qn vB
 refine Zc (fun h0=>?_) (fun h0=>?_)
 all_goals (try simp only[Qi_,Qf_,bne] at *)
 all_goals first | rfl | (simp only[YV,Z1,Zv,List.foldl,Qr_,Qp_,Ql_,Qn_,Q5_,Q4_,Qw_,Q3_,Qu_,Qt_,Qb_,Qd_,QD_,Q8_, *];done) | (simp only[YV,Z1,Zv,List.foldl,Qr_,Qp_,Ql_,Qn_,Q5_,Q4_,Qw_,Q3_,Qu_,Qt_,Qb_,Qd_,QD_,Q8_, *];first | rfl | (simp only[nz,nzA,nz1,QE_,QN_,Iv.enc,V.enc,Ray.enc, *];first | done | rfl)) | (simp_all[nz,nzA,nz1,Iv.enc,V.enc,Ray.enc,Dec.enc,Shape.enc,none',told,K2_,YV];done) | (simp_all[nz,nzA,nz1,Iv.enc,V.enc,Ray.enc,Dec.enc,Shape.enc,none',told,K2_,YV];omega) | (simp_all[nz,nzA,nz1,Iv.enc,V.enc,Ray.enc,Dec.enc,Shape.enc,none',told,K2_,YV];(repeat' split)<;>(first | rfl | (exfalso;omega) | (simp_all;done) | omega))
theorem Zv5:Zk Tryz.prog 104 Zve:=Zm<|Zh fun c=>EZ0<|by
 refine cf0 (Zb Zr0<|Zb ZlP<|Zf) (fn:=Tryz.f104) rfl ?_
 refine sxT (fun Q=>(bif XE c then Q (vB true) else (bif YV c then Q (vB true) else (bif c==(45:Int) then Q (vB true) else Q (vB (c==(95:Int))))))) (fun _=>by kernel_rfl) ?_
 delta Qn vB
 refine Zc (fun h0=>?_) (fun h0=>Zc (fun h1=>?_) (fun h1=>Zc (fun h2=>?_) (fun h2=>?_)))
 all_goals (try simp only[Qi_,Qf_,bne] at *)
 all_goals first | rfl | (simp only[Z7,Z1,Zv,List.foldl,Qr_,Qp_,Ql_,Qn_,Q5_,Q4_,Qw_,Q3_,Qu_,Qt_,Qb_,Qd_,QD_,Q8_, *];done) | (simp only[Z7,Z1,Zv,List.foldl,Qr_,Qp_,Ql_,Qn_,Q5_,Q4_,Qw_,Q3_,Qu_,Qt_,Qb_,Qd_,QD_,Q8_, *];first | rfl | (simp only[nz,nzA,nz1,QE_,QN_,Iv.enc,V.enc,Ray.enc, *];first | done | rfl)) | (simp_all[nz,nzA,nz1,Iv.enc,V.enc,Ray.enc,Dec.enc,Shape.enc,none',told,K2_,Z7];done) | (simp_all[nz,nzA,nz1,Iv.enc,V.enc,Ray.enc,Dec.enc,Shape.enc,none',told,K2_,Z7];omega) | (simp_all[nz,nzA,nz1,Iv.enc,V.enc,Ray.enc,Dec.enc,Shape.enc,none',told,K2_,Z7];(repeat' split)<;>(first | rfl | (exfalso;omega) | (simp_all;done) | omega))
theorem Zv6:Zk Tryz.prog 105 Zvf:=Zm<|Zh fun c=>EZ0<|by
 refine cf0 (Zb ZlP<|Zf) (fn:=Tryz.f105) rfl ?_
 refine sxT (fun Q=>(bif YV c then Q (vB true) else Q (vB (c==(46:Int))))) (fun _=>by kernel_rfl) ?_
 delta Qn vB
 refine Zc (fun h0=>?_) (fun h0=>?_)
 all_goals (try simp only[Qi_,Qf_,bne] at *)
 all_goals first | rfl | (simp only[Zn,Z1,Zv,List.foldl,Qr_,Qp_,Ql_,Qn_,Q5_,Q4_,Qw_,Q3_,Qu_,Qt_,Qb_,Qd_,QD_,Q8_, *];done) | (simp only[Zn,Z1,Zv,List.foldl,Qr_,Qp_,Ql_,Qn_,Q5_,Q4_,Qw_,Q3_,Qu_,Qt_,Qb_,Qd_,QD_,Q8_, *];first | rfl | (simp only[nz,nzA,nz1,QE_,QN_,Iv.enc,V.enc,Ray.enc, *];first | done | rfl)) | (simp_all[nz,nzA,nz1,Iv.enc,V.enc,Ray.enc,Dec.enc,Shape.enc,none',told,K2_,Zn];done) | (simp_all[nz,nzA,nz1,Iv.enc,V.enc,Ray.enc,Dec.enc,Shape.enc,none',told,K2_,Zn];omega) | (simp_all[nz,nzA,nz1,Iv.enc,V.enc,Ray.enc,Dec.enc,Shape.enc,none',told,K2_,Zn];(repeat' split)<;>(first | rfl | (exfalso;omega) | (simp_all;done) | omega))
theorem Zv7:Zk Tryz.prog 103 Zvg:=Zm<|Zh fun c=>EZ0<|by
 refine cf0 Zf (fn:=Tryz.f103) rfl ?_
 refine sxT (fun Q=>Q (vB (c !=(10:Int)))) (fun _=>by kernel_rfl) ?_
 delta Qn vB
 refine ?_
 all_goals (try simp only[Qi_,Qf_,bne] at *)
 all_goals first | rfl | (simp only[YX,Z1,Zv,List.foldl,Qr_,Qp_,Ql_,Qn_,Q5_,Q4_,Qw_,Q3_,Qu_,Qt_,Qb_,Qd_,QD_,Q8_, *];done) | (simp only[YX,Z1,Zv,List.foldl,Qr_,Qp_,Ql_,Qn_,Q5_,Q4_,Qw_,Q3_,Qu_,Qt_,Qb_,Qd_,QD_,Q8_, *];first | rfl | (simp only[nz,nzA,nz1,QE_,QN_,Iv.enc,V.enc,Ray.enc, *];first | done | rfl)) | (simp_all[nz,nzA,nz1,Iv.enc,V.enc,Ray.enc,Dec.enc,Shape.enc,none',told,K2_,YX];done) | (simp_all[nz,nzA,nz1,Iv.enc,V.enc,Ray.enc,Dec.enc,Shape.enc,none',told,K2_,YX];omega) | (simp_all[nz,nzA,nz1,Iv.enc,V.enc,Ray.enc,Dec.enc,Shape.enc,none',told,K2_,YX];(repeat' split)<;>(first | rfl | (exfalso;omega) | (simp_all;done) | omega))
theorem ZvW:Zk Tryz.prog 99 e99:=Zm<|Zh fun a=>Zh fun b=>EZ0<|by
 refine cf0 Zf (fn:=Tryz.f99) rfl ?_
 refine sxT (fun Q=>Q (PV.v (Value.complex FloatKind.f64 (FloatKind.f64.nearest a) (FloatKind.f64.nearest b)))) (fun _=>by kernel_rfl) ?_
 delta Qn
 refine ?_
 all_goals (try simp only[Qi_,Qf_,bne] at *)
 all_goals first | rfl | (simp only[Yf,Z1,Zv,List.foldl,Qr_,Qp_,Ql_,Qn_,Q5_,Q4_,Qw_,Q3_,Qu_,Qt_,Qb_,Qd_,QD_,Q8_, *];done) | (simp only[Yf,Z1,Zv,List.foldl,Qr_,Qp_,Ql_,Qn_,Q5_,Q4_,Qw_,Q3_,Qu_,Qt_,Qb_,Qd_,QD_,Q8_, *];first | rfl | (simp only[nz,nzA,nz1,QE_,QN_,Iv.enc,V.enc,Ray.enc, *];first | done | rfl)) | (simp_all[nz,nzA,nz1,Iv.enc,V.enc,Ray.enc,Dec.enc,Shape.enc,none',told,K2_,Yf];done) | (simp_all[nz,nzA,nz1,Iv.enc,V.enc,Ray.enc,Dec.enc,Shape.enc,none',told,K2_,Yf];omega) | (simp_all[nz,nzA,nz1,Iv.enc,V.enc,Ray.enc,Dec.enc,Shape.enc,none',told,K2_,Yf];(repeat' split)<;>(first | rfl | (exfalso;omega) | (simp_all;done) | omega))
def ZsP:=Xb [(103,Zvg)]
theorem ZiT:CSOk Tryz.prog ZsP:=Zb Zv7<|Zf
theorem ZmO:Yq Tryz.prog (ZE Tryz.f102 0) Zds:=by
 refine Jc Zx.Γ (ZQ Zx ZiT ZZ Ya Yl (LS:=[]) (Y8 (l:=[]) (by kernel_rfl) ZC) (n:=2000) (U2 ZoO) (U2 WB) (fun x e s=>(e= .exit 0∧s=U2 J7 x)) (fun x=>(x.2.length - x.1).toNat) Zdr ZmF ZmG (fun x hx=>?_)) Zdr ?_
 ·obtain ⟨i,s⟩:=x
  simp only[U2,WB] at hx
  refine sxT (fun Q=>(bif decide (i < ↑s.length) then (((0:Int)≤i∧i < ↑s.length)∧(bif YX ↑(s.getD i.toNat (0:UInt8)).toNat then Q (Ex.normal) (some ⟨24,[(7,AV.p (vI (IntKind.i64.wrap (i+(1:Int))))),(0,AV.p (PV.str s)),(2,AV.p (PV.fn (103:FuncId) []))],[],[],[],[]⟩) else Q (Ex.exit (0:Nat)) (some ⟨24,[(7,pI i)],[],[],[],[]⟩))) else Q (Ex.exit (0:Nat)) (some ⟨24,[(7,pI i)],[],[],[],[]⟩))) (fun _=>by kernel_rfl) ?_
  delta vI pI
  refine Zc (fun h0=>⟨?r0,Zc (fun h1=>?_) (fun h1=>?_)⟩) (fun h0=>?_)
  case r0=>first | rfl | (obtain ⟨a1,a2,a3⟩:=hx;simp only[Qc_] at h0;omega) | omega | skip
  all_goals (obtain ⟨a1,a2,a3⟩:=hx)
  all_goals (try simp only[Qc_,Qe_] at h0)
  ·have hw:IntKind.i64.wrap (i+1)=i+1:=Zg (by constructor<;>omega)
   have hs:=Zdm (p:=YX) a1 h0 h1
   refine .inl ⟨by trivial,(IntKind.i64.wrap (i+1),s),rfl, ?_, ?_, ?_⟩
   ·simp only[U2,WB,hw];omega
   ·simp only[hw];omega
   ·intro e s' h;refine ⟨h.1,h.2.trans ?_⟩;unfold U2 J7;(try dsimp only);rw[hw,hs]
  ·exact .inr ⟨by simp,_,rfl,by trivial,by unfold U2 J7;(try dsimp only);rw[Zdn (p:=YX) a1 h0 h1]⟩
  ·exact .inr ⟨by simp,_,rfl,by trivial,by unfold U2 J7;(try dsimp only);rw[Zev (by omega)]⟩
 ·intro σ K hS
  unfold Zds at hS
  split at hS
  ·rename_i p1 p2 hk
   obtain ⟨hi,hK⟩:=Xi hS
   refine ⟨(p1,p2),hk,hi _ (by simp),fun e s hf=>?_⟩
   dsimp only[U2] at hf
   obtain ⟨rfl,rfl⟩:=hf
   exact hK
  ·exact hS.elim
theorem Zpo:Yd Tryz.prog [(3,Zds)] Tryz.f102:=Yh (l:=[ZE Tryz.f102 0]) (by kernel_rfl) (Yr (i:=3) (by kernel_rfl) rfl ZmO (ZC))
theorem Zpp(s:List UInt8)(k:Int)(hp0:0≤k∧k < s.length∧s.length≤4000):Con Tryz.prog 102 [.str s,.v (.int .i64 k),.fn 103 []] (.v (.int .i64 (Zi YX s (k+1)))):=by
 refine cfL ZiT Zpo rfl ?_
 refine sxT (fun Q=>((WB (IntKind.i64.wrap (k+(1:Int))) s)∧Q (vI (Zi YX s (IntKind.i64.wrap (k+(1:Int))))))) (fun _=>by kernel_rfl) ?_
 delta Qn vI
 refine ⟨?_, ?_⟩
 all_goals rw[Zg (show Fit (k+1) by constructor<;>omega)]
 ·simp only[WB];omega
 ·rfl
theorem Zpq:Zk Tryz.prog 102 ZfH:=by
 intro args r ps h hp
 unfold ZfH at h
 split at h
 ·rename_i p1 p2
  cases (Qa_ h)
  exact Zpp p1 p2 (hp _ (by simp))
 ·exact absurd h (by simp)
def Zr1:=Xb [(104,Zve)]
theorem Zhn:CSOk Tryz.prog Zr1:=Zb Zv5<|Zf
theorem ZlQ:Yq Tryz.prog (ZE Tryz.f102 0) Zcu:=by
 refine Jc Zx.Γ (ZQ Zx Zhn ZZ Ya Yl (LS:=[]) (Y8 (l:=[]) (by kernel_rfl) ZC) (n:=2000) (U2 ZmH) (U2 Wc) (fun x e s=>(e= .exit 0∧s=U2 WS x)) (fun x=>(x.2.length - x.1).toNat) Zct Zls Zlt (fun x hx=>?_)) Zct ?_
 ·obtain ⟨i,s⟩:=x
  simp only[U2,Wc] at hx
  refine sxT (fun Q=>(bif decide (i < ↑s.length) then (((0:Int)≤i∧i < ↑s.length)∧(bif Z7 ↑(s.getD i.toNat (0:UInt8)).toNat then Q (Ex.normal) (some ⟨24,[(7,AV.p (vI (IntKind.i64.wrap (i+(1:Int))))),(0,AV.p (PV.str s)),(2,AV.p (PV.fn (104:FuncId) []))],[],[],[],[]⟩) else Q (Ex.exit (0:Nat)) (some ⟨24,[(7,pI i)],[],[],[],[]⟩))) else Q (Ex.exit (0:Nat)) (some ⟨24,[(7,pI i)],[],[],[],[]⟩))) (fun _=>by kernel_rfl) ?_
  delta vI pI
  refine Zc (fun h0=>⟨?r0,Zc (fun h1=>?_) (fun h1=>?_)⟩) (fun h0=>?_)
  case r0=>first | rfl | (obtain ⟨a1,a2,a3⟩:=hx;simp only[Qc_] at h0;omega) | omega | skip
  all_goals (obtain ⟨a1,a2,a3⟩:=hx)
  all_goals (try simp only[Qc_,Qe_] at h0)
  ·have hw:IntKind.i64.wrap (i+1)=i+1:=Zg (by constructor<;>omega)
   have hs:=Zdm (p:=Z7) a1 h0 h1
   refine .inl ⟨by trivial,(IntKind.i64.wrap (i+1),s),rfl, ?_, ?_, ?_⟩
   ·simp only[U2,Wc,hw];omega
   ·simp only[hw];omega
   ·intro e s' h;refine ⟨h.1,h.2.trans ?_⟩;unfold U2 WS;(try dsimp only);rw[hw,hs]
  ·exact .inr ⟨by simp,_,rfl,by trivial,by unfold U2 WS;(try dsimp only);rw[Zdn (p:=Z7) a1 h0 h1]⟩
  ·exact .inr ⟨by simp,_,rfl,by trivial,by unfold U2 WS;(try dsimp only);rw[Zev (by omega)]⟩
 ·intro σ K hS
  unfold Zcu at hS
  split at hS
  ·rename_i p1 p2 hk
   obtain ⟨hi,hK⟩:=Xi hS
   refine ⟨(p1,p2),hk,hi _ (by simp),fun e s hf=>?_⟩
   dsimp only[U2] at hf
   obtain ⟨rfl,rfl⟩:=hf
   exact hK
  ·exact hS.elim
theorem ZmP:Yd Tryz.prog [(3,Zcu)] Tryz.f102:=Yh (l:=[ZE Tryz.f102 0]) (by kernel_rfl) (Yr (i:=3) (by kernel_rfl) rfl ZlQ (ZC))
theorem ZmQ(s:List UInt8)(k:Int)(hp0:0≤k∧k < s.length∧s.length≤4000):Con Tryz.prog 102 [.str s,.v (.int .i64 k),.fn 104 []] (.v (.int .i64 (Zi Z7 s (k+1)))):=by
 refine cfL Zhn ZmP rfl ?_
 refine sxT (fun Q=>((Wc (IntKind.i64.wrap (k+(1:Int))) s)∧Q (vI (Zi Z7 s (IntKind.i64.wrap (k+(1:Int))))))) (fun _=>by kernel_rfl) ?_
 delta Qn vI
 refine ⟨?_, ?_⟩
 all_goals rw[Zg (show Fit (k+1) by constructor<;>omega)]
 ·simp only[Wc];omega
 ·rfl
theorem ZmR:Zk Tryz.prog 102 Zex:=by
 intro args r ps h hp
 unfold Zex at h
 split at h
 ·rename_i p1 p2
  cases (Qa_ h)
  exact ZmQ p1 p2 (hp _ (by simp))
 ·exact absurd h (by simp)
def ZsQ:=Xb [(105,Zvf)]
theorem ZiU:CSOk Tryz.prog ZsQ:=Zb Zv6<|Zf
theorem ZmS:Yq Tryz.prog (ZE Tryz.f102 0) Zdv:=by
 refine Jc Zx.Γ (ZQ Zx ZiU ZZ Ya Yl (LS:=[]) (Y8 (l:=[]) (by kernel_rfl) ZC) (n:=2000) (U2 ZoP) (U2 WC) (fun x e s=>(e= .exit 0∧s=U2 J8 x)) (fun x=>(x.2.length - x.1).toNat) Zdu ZmI ZmJ (fun x hx=>?_)) Zdu ?_
 ·obtain ⟨i,s⟩:=x
  simp only[U2,WC] at hx
  refine sxT (fun Q=>(bif decide (i < ↑s.length) then (((0:Int)≤i∧i < ↑s.length)∧(bif Zn ↑(s.getD i.toNat (0:UInt8)).toNat then Q (Ex.normal) (some ⟨24,[(7,AV.p (vI (IntKind.i64.wrap (i+(1:Int))))),(0,AV.p (PV.str s)),(2,AV.p (PV.fn (105:FuncId) []))],[],[],[],[]⟩) else Q (Ex.exit (0:Nat)) (some ⟨24,[(7,pI i)],[],[],[],[]⟩))) else Q (Ex.exit (0:Nat)) (some ⟨24,[(7,pI i)],[],[],[],[]⟩))) (fun _=>by kernel_rfl) ?_
  delta vI pI
  refine Zc (fun h0=>⟨?r0,Zc (fun h1=>?_) (fun h1=>?_)⟩) (fun h0=>?_)
  case r0=>first | rfl | (obtain ⟨a1,a2,a3⟩:=hx;simp only[Qc_] at h0;omega) | omega | skip
  all_goals (obtain ⟨a1,a2,a3⟩:=hx)
  all_goals (try simp only[Qc_,Qe_] at h0)
  ·have hw:IntKind.i64.wrap (i+1)=i+1:=Zg (by constructor<;>omega)
   have hs:=Zdm (p:=Zn) a1 h0 h1
   refine .inl ⟨by trivial,(IntKind.i64.wrap (i+1),s),rfl, ?_, ?_, ?_⟩
   ·simp only[U2,WC,hw];omega
   ·simp only[hw];omega
   ·intro e s' h;refine ⟨h.1,h.2.trans ?_⟩;unfold U2 J8;(try dsimp only);rw[hw,hs]
  ·exact .inr ⟨by simp,_,rfl,by trivial,by unfold U2 J8;(try dsimp only);rw[Zdn (p:=Zn) a1 h0 h1]⟩
  ·exact .inr ⟨by simp,_,rfl,by trivial,by unfold U2 J8;(try dsimp only);rw[Zev (by omega)]⟩
 ·intro σ K hS
  unfold Zdv at hS
  split at hS
  ·rename_i p1 p2 hk
   obtain ⟨hi,hK⟩:=Xi hS
   refine ⟨(p1,p2),hk,hi _ (by simp),fun e s hf=>?_⟩
   dsimp only[U2] at hf
   obtain ⟨rfl,rfl⟩:=hf
   exact hK
  ·exact hS.elim
theorem Zpr:Yd Tryz.prog [(3,Zdv)] Tryz.f102:=Yh (l:=[ZE Tryz.f102 0]) (by kernel_rfl) (Yr (i:=3) (by kernel_rfl) rfl ZmS (ZC))
theorem Zps(s:List UInt8)(k:Int)(hp0:0≤k∧k < s.length∧s.length≤4000):Con Tryz.prog 102 [.str s,.v (.int .i64 k),.fn 105 []] (.v (.int .i64 (Zi Zn s (k+1)))):=by
 refine cfL ZiU Zpr rfl ?_
 refine sxT (fun Q=>((WC (IntKind.i64.wrap (k+(1:Int))) s)∧Q (vI (Zi Zn s (IntKind.i64.wrap (k+(1:Int))))))) (fun _=>by kernel_rfl) ?_
 delta Qn vI
 refine ⟨?_, ?_⟩
 all_goals rw[Zg (show Fit (k+1) by constructor<;>omega)]
 ·simp only[WC];omega
 ·rfl
theorem Zpt:Zk Tryz.prog 102 ZfI:=by
 intro args r ps h hp
 unfold ZfI at h
 split at h
 ·rename_i p1 p2
  cases (Qa_ h)
  exact Zps p1 p2 (hp _ (by simp))
 ·exact absurd h (by simp)
theorem Zv8:Zk Tryz.prog 102 Zvh:=Zem Zpq (Zem ZmR (Zpt))
def JE(s:List UInt8):=ZG (ZH s [(45:UInt8)]).fst
def Zj5(s:List UInt8):=J2 (JE s).snd.fst [(48:UInt8)]
def Zho(s:List UInt8):=(JE s).fst++J2 (JE s).snd.fst [(48:UInt8)]
def Zj6:=PV.tup [PV.agg [vI 0,vI 0],vB false]
def Zpu(s:List UInt8)(Q:PV→Prop):Prop:=bif (ZH s [(45:UInt8)]).snd then Q (PV.tup [PV.agg [vI (IntKind.i64.wrap ((0:Int) - Zaj (Zho s))),vI (↑(Zj5 s).length)],vB true]) else Q (PV.tup [PV.agg [vI (Zaj (Zho s)),vI (↑(Zj5 s).length)],vB true])
def Zpv(s:List UInt8)(Q:PV→Prop):Prop:=((JE s).snd.fst.length≤(4000000000:Nat)∧(1:Nat)≤(4000000000:Nat))∧((true=true)∧(((JE s).fst.length+(Zj5 s).length≤(9223372036854775807:Nat))∧((Zld (Zho s))∧(bif (ZH s [(45:UInt8)]).snd then (bif Zaj (Zho s)==(0:Int) then Q Zj6 else (Zpu s Q)) else (Zpu s Q)))))
theorem Zv9:Zk Tryz.prog 106 Zvi:=Zm<|Zh fun s=>EZ1 fun hp0=>by
 refine cf0 (Zb Zv0<|Zb Zv3<|Zb Zv4<|Zb Zvs<|Zb Zvt<|Zf) (fn:=Tryz.f106) rfl ?_
 refine sxT (fun Q=>(((ZH s [(45:UInt8)]).fst.length≤(4000000000:Nat))∧(((JE s).fst.length≤(4000000000:Nat))∧(bif !figs (JE s).fst (5:Int) then Q Zj6 else (bif (JE s).snd.snd then (((JE s).snd.fst.length≤(4000000000:Nat))∧(bif !figs (JE s).snd.fst (6:Int) then Q Zj6 else (Zpv s Q))) else (Zpv s Q)))))) (fun _=>by kernel_rfl) ?_
 delta Qn Zpv JE Zpu Zho Zj6 Zj5 vI vB
 refine ⟨?r10,⟨?r9,Zc (fun h0=>?_) (fun h0=>Zc (fun h1=>⟨?r4,Zc (fun h2=>?_) (fun h2=>⟨?r3,⟨?r2,⟨?r1,⟨?r0,Zc (fun h3=>Zc (fun h4=>?_) (fun h4=>Zc (fun h5=>?_) (fun h5=>?_))) (fun h3=>Zc (fun h4=>?_) (fun h4=>?_))⟩⟩⟩⟩)⟩) (fun h1=>⟨?r8,⟨?r7,⟨?r6,⟨?r5,Zc (fun h2=>Zc (fun h3=>?_) (fun h3=>Zc (fun h4=>?_) (fun h4=>?_))) (fun h2=>Zc (fun h3=>?_) (fun h3=>?_))⟩⟩⟩⟩))⟩⟩
 case r0|r1|r2|r3|r4|r5|r6|r7|r8|r9|r10=>first | rfl | omega | (have k1:=ZoE s [45];have k2:=ZqG (ZH s [45]).1;first | omega | exact ⟨by omega,by decide⟩) | (have hF:ZbZ s=true:=(by rw[Zle];simp only[Qi_,Qf_] at *;simp only[*,Qp_,Qu_,Qt_,Q4_,Qw_,Q5_]);first | exact (Ztv hF).1 | exact (Ztv hF).2) | skip
 all_goals (try simp only[Qi_,Qf_] at *)
 all_goals have eF:=Zle s
 all_goals simp only[*,Qp_,Ql_,Qu_,Qt_,Q4_,Qw_,Q5_,Q3_] at eF
 all_goals rw[ZoF,eF]
 all_goals first
  | rfl
  | (have hb:=Zur eF
     simp only[show Zaj ((ZG (ZH s [45]).fst).fst++J2 (ZG (ZH s [45]).fst).snd.fst [48])=Zcq s from rfl] at *
     simp only[*,Qb_,Qd_]
     first | rfl | (rw[Xv (by constructor<;>omega)];rfl) | (exfalso;simp_all;done) | skip)
end Go.Men
namespace Go.Ev
open Go.RowKit
def sxJ(Γ:List (Nat×Ty))(R:RSy)(T:TSy)(LS:List (Nat×LSum))(s:Code)(stop:Nat):Nat→Code→St→(Ex→St→Prop)→Prop
 | 0,_,_,_=>False
 | n+1,c,σ,K=>Zdg (clean (Wp s) σ) fun σ=>Yv Γ R T LS (n+1) none c σ fun e σ1=>match e with
   | .goto l=>(match Nat.beq l stop with
     | true=>K (.goto l) σ1
     | false=>match findLabel s l with
       | some rest=>sxJ Γ R T LS s stop n rest σ1 K
       | none=>False)
   | e=>K e σ1
section
variable {P:Program}
theorem ZlR{s c:Code}{m:Nat}{σ τ σ':St}{e:Ex}(hs:Wk P σ τ)(h:Xu P s m c τ e σ'):Xu P s m c σ e σ':=fun B g a w hI=>
 Zae (fun _ _ _ ⟨h1,g',h2,h3⟩=>⟨h1,g',h2,(hs B g a w hI).2.1 _ _ _ h3⟩) _ _ _ _ (h B g a w (hs B g a w hI).1)
theorem ZlS{s c:Code}{m:Nat}{σ τ σ':St}{e:Ex}(hs:Wk P σ' τ)(h:Xu P s m c σ e σ'):Xu P s m c σ e τ:=fun B g a w hI=>
 Zae (fun _ a' w' ⟨h1,g',h2,h3⟩=>⟨h1,g',(hs B g' a' w' h2).1,(hs B g' a' w' h2).2.2 _ _ _ _ h3⟩) _ _ _ _ (h B g a w hI)
theorem ZiV{E:Env}(hE:EnvOk P E){C:ZJ}(hC:CSOk P C){CP:Yg}(hP:CSPOk P CP){CI:Yc}(hI:CSIOk P CI){G:Gx}(hG:OwOk P C G){LS:List (Nat×LSum)}{s:Code}{stop:Nat}(hL:∀b∈ZB s,∀S,lk (YS b) LS=some S→Yq P b S):
 ∀(n:Nat) (c:Code) (σ:St) (K:Ex→St→Prop),(∀b∈ZB c,∀S,lk (YS b) LS=some S→Yq P b S)→sxJ E.Γ (RSym E C) (Zah E C CP CI G) LS s stop n c σ K→
  ∃e σ',K e σ'∧(∀rest e2 σ2 m,e= .goto stop→findLabel s stop=some rest→Xu P s m rest σ' e2 σ2→∃m',Xu P s m' c σ e2 σ2)∧(e≠ .goto stop→∃m,Xu P s m c σ e σ'):=by
 intro n
 induction n with
 | zero=>intro c σ K _ h;exact h.elim
 | succ n ih=>
   intro c σ K hl h
   unfold sxJ at h
   rw[Zbe] at h
   obtain ⟨e,σ1,h1,h2,_⟩:=(J0 hE.Γ hE.mixed ZgK (Zec hE (ZgI hC)) ZeW (ZgP hE hC hP hI hG) (n+1)).1 c _ _ hl h
   have h3:=Wq h2
   have out:(∀l,e≠ .goto l)→K e σ1→∃e σ',K e σ'∧(∀rest e2 σ2 m,e= .goto stop→findLabel s stop=some rest→Xu P s m rest σ' e2 σ2→∃m',Xu P s m' c σ e2 σ2)∧(e≠ .goto stop→∃m,Xu P s m c σ e σ'):=
    fun hne hk=>⟨e,σ1,hk,fun _ _ _ _ he=>absurd he (hne _),fun _=>⟨1,Zkg hne h3⟩⟩
   cases e with
   | goto l=>
     simp only at h1
     cases hb:Nat.beq l stop with
     | true=>
       rw[hb] at h1
       have:=Qj_ hb
       subst this
       exact ⟨_,σ1,h1,fun rest e2 σ2 m _ hf ht=>⟨m+1,ZbL h3 hf ht⟩,fun hne=>absurd rfl hne⟩
     | false=>
       rw[hb] at h1
       simp only at h1
       split at h1
       ·rename_i rest hf
        obtain ⟨e',σ',k1,k2,k3⟩:=ih rest σ1 K (fun b hb=>hL b (WP hf b hb)) h1
        refine ⟨e',σ',k1,fun r2 e2 σ2 m he hf2 ht=>?_,fun hne=>?_⟩
        ·obtain ⟨m',hm⟩:=k2 r2 e2 σ2 m he hf2 ht
         exact ⟨m'+1,ZbL h3 hf hm⟩
        ·obtain ⟨m',hm⟩:=k3 hne
         exact ⟨m'+1,ZbL h3 hf hm⟩
       ·exact h1.elim
   | normal=>exact out (fun l=>by simp) h1
   | exit i=>exact out (fun l=>by simp) h1
   | ret=>exact out (fun l=>by simp) h1
def kpL(Γ:List (Nat×Ty))(k kr:KpH)(e:Ex)(σ:St):Option St:=match e with
 | .goto _=>Wf Γ k σ
 | _=>Wf Γ kr σ
def sxL(E:Env)(C:ZJ)(CP:Yg)(CI:Yc)(G:Gx)(LS:List (Nat×LSum))(n:Nat)(s:Code)(stop:Nat)(c:Code)(k kr:KpH)(σ:St)(Q:Ex→Option St→Prop):Prop:=
 sxJ E.Γ (RSym E C) (Zah E C CP CI G) LS s stop n c σ fun e σ1=>Q e (kpL E.Γ k kr e σ1)
theorem Zr2{E:Env}(hE:EnvOk P E){C:ZJ}(hC:CSOk P C){CP:Yg}(hP:CSPOk P CP){CI:Yc}(hI:CSIOk P CI){G:Gx}(hG:OwOk P C G){LS:List (Nat×LSum)}{s rest:Code}{stop:Nat}(hL:∀b∈ZB s,∀S,lk (YS b) LS=some S→Yq P b S)(hf:findLabel s stop=some rest){n:Nat}
 {X:Type} (H:X→St) (inv:X→Prop) (fin:X→St→Prop) (μ:X→Nat) (k kr:KpH)
 (step:∀x,inv x→sxL E C CP CI G LS n s stop rest k kr (H x) fun e o=>
   (e= .goto stop∧∃y,o=some (H y)∧inv y∧μ y < μ x∧∀s,fin y s→fin x s)∨(e= .ret∧∃τ,o=some τ∧fin x τ)):
 ∀x,inv x→∃σ',fin x σ'∧∃m,Xu P s m rest (H x) .ret σ':=by
 have key:∀j x,μ x < j→inv x→∃σ',fin x σ'∧∃m,Xu P s m rest (H x) .ret σ':=by
  intro j
  induction j with
  | zero=>intro x hx;omega
  | succ j ih=>
    intro x hx hi
    obtain ⟨e,σ1,h1,h2,h3⟩:=ZiV hE hC hP hI hG hL n rest (H x) _ (fun b hb=>hL b (WP hf b hb)) (step x hi)
    rcases h1 with ⟨rfl,y,hy,iy,my,fy⟩ | ⟨rfl,τ,ht,hfin⟩
    ·obtain ⟨σ',f1,m,f2⟩:=ih y (by omega) iy
     obtain ⟨m',f3⟩:=h2 rest _ _ m rfl hf (ZlR (JS hE.Γ hy) f2)
     exact ⟨σ',fy _ f1,m',f3⟩
    ·obtain ⟨m,f3⟩:=h3 (by simp)
     exact ⟨τ,hfin,m,ZlS (JS hE.Γ ht) f3⟩
 exact fun x hi=>key (μ x+1) x (by omega) hi
def ZsR(E:Env)(C:ZJ)(CP:Yg)(CI:Yc)(G:Gx)(LS:List (Nat×LSum))(n:Nat)(fn:Func)(pre s:Code)(stop:Nat)(k kr:KpH)(args:List PV)(Q:Ex→Option St→Prop):Prop:=
 ZkI (Xk fn.ntmps args) fun σ=>Yv E.Γ (RSym E C) (Zah E C CP CI G) LS n none pre σ fun e σ1=>match e with
  | .normal=>sxL E C CP CI G LS n s stop s k kr σ1 Q
  | _=>False
theorem ZsS{E:Env}(hE:EnvOk P E){C:ZJ}(hC:CSOk P C){CP:Yg}(hP:CSPOk P CP){CI:Yc}(hI:CSIOk P CI){G:Gx}(hG:OwOk P C G){LS:List (Nat×LSum)}{f:Nat}{fn:Func}(hfn:lk f E.fns=some fn){pre s rest:Code}(hb:fn.body=some (.seq pre (.scope s))){stop:Nat}(hf:findLabel s stop=some rest)
 (hLp:∀b∈ZB pre,∀S,lk (YS b) LS=some S→Yq P b S) (hL:∀b∈ZB s,∀S,lk (YS b) LS=some S→Yq P b S) {n:Nat} {args:List PV} (hn:Nat.ble args.length fn.ntmps=true) {k kr:KpH} {R:PV→Prop}
 (h:ZsR E C CP CI G LS n fn pre s stop k kr args fun e o=>(e= .goto stop∧∃τ,o=some τ∧∃σ',Zai E fn.results.toList R .ret σ'∧∃m,Xu P s m rest τ .ret σ')∨(e= .ret∧∃τ,o=some τ∧Zai E fn.results.toList R .ret τ)):∃r,R r∧Con P f args r:=by
 obtain ⟨k1,k2⟩:=hE.fns f fn hfn
 unfold ZsR at h
 rw[ZhV] at h
 obtain ⟨e,σ1,h1,h2,_⟩:=(J0 hE.Γ hE.mixed ZgK (Zec hE (ZgI hC)) ZeW (ZgP hE hC hP hI hG) n).1 pre _ _ hLp h
 cases e with
 | normal=>
   simp only at h1
   obtain ⟨e',σ2,j1,j2,j3⟩:=ZiV hE hC hP hI hG hL n s σ1 _ hL h1
   have fin:∀{σ':St} {m:Nat},Zai E fn.results.toList R .ret σ'→Xu P s m s σ1 .ret σ'→∃r,R r∧Con P f args r:=by
    intro σ' m he ht
    unfold Zai at he
    simp only[Zgq,Qb_] at he
    split at he
    ·rename_i r hr
     exact ⟨_,he,ZpS hE.Γ k2 k1 hb hn (Zna h2 (Ziz ht)) rfl hr⟩
    ·exact he.elim
   rcases j1 with ⟨rfl,τ,ht,σ',he,m,hs⟩ | ⟨rfl,τ,ht,he⟩
   ·obtain ⟨m',hm⟩:=j2 rest _ _ m rfl hf (ZlR (JS hE.Γ ht) hs)
    exact fin he hm
   ·obtain ⟨m,hm⟩:=j3 (by simp)
    exact fin he (ZlS (JS hE.Γ ht) hm)
 | exit i=>exact h1.elim
 | goto i=>exact h1.elim
 | ret=>exact h1.elim
end
end Go.Ev
namespace Go.Men
open Go Go.Ev Go.Proofs Go.Proofs.YtgfgjabeooohhaaGreatDoor
def ZvX:Option Code→Code | some (.seq _ (.scope s))=>s | _=> .skip
def ZvY:Option Code→Code | some (.seq p (.scope _))=>p | _=> .skip
noncomputable def Zd2:Code:=ZvX Tryz.f48.body
noncomputable def ZsT:Code:=ZvY Tryz.f48.body
noncomputable def ZlT:Code:=(findLabel Zd2 0).getD .skip
theorem ZsU:Tryz.f48.body=some (.seq ZsT (.scope Zd2)):=rfl
theorem ZlU:findLabel Zd2 0=some ZlT:=by kernel_rfl
def Zin(s:List UInt8)(k line beg:Int)(sm:Bool)(out:List Tok):St:=⟨118,[(0,.p (.str s)),(5,.p (.lst (out.map Tok.enc))),(6,pI k),(8,pI line),(9,pI beg),(10,.p (vB sm))],[],[],[(.t 5,92)],[]⟩
def ZlV:KpH:=⟨⟨[0,5,6,8,9,10],[],[.t 5]⟩,[(.t 5,92)]⟩
def Zhp:KpH:=⟨⟨[2,3,4],[],[]⟩,[]⟩
def Zj7:=Xb [(99,e99),(100,Zvc),(101,Zvd),(102,Zvh),(106,Zvi)]
theorem ZvA(s:List UInt8)(k line beg:Int)(sm:Bool)(out:List Tok)(Q:Ex→Option St→Prop):sxL evEnv Zj7 Zei Zej noG [] 2000 Zd2 0 ZlT ZlV Zhp (Zin s k line beg sm out) Q=(bif k==↑s.length then (bif sm then (((0:Nat) < (1:Nat)∧((List.map Tok.enc out).length+(1:Nat))* (40:Nat)≤(140737488355328:Nat)∧Lens (3:Nat) (List.map Tok.enc out++[[PV.v (Value.int IntKind.i64 (3:Int)),PV.str [],PV.v (Value.complex FloatKind.f64 (Yf line (IntKind.i64.wrap (IntKind.i64.wrap (k - beg)+(1:Int)))).re (Yf line (IntKind.i64.wrap (IntKind.i64.wrap (k - beg)+(1:Int)))).im)]]))∧(bif k==↑s.length then Q (Ex.ret) (some ⟨118,[(2,AV.p (PV.lst (List.map Tok.enc out++[[PV.v (Value.int IntKind.i64 ((3:Int))),PV.str ([]),PV.v (Value.complex FloatKind.f64 ((Yf line (IntKind.i64.wrap (IntKind.i64.wrap (k - beg)+(1:Int)))).re) ((Yf line (IntKind.i64.wrap (IntKind.i64.wrap (k - beg)+(1:Int)))).im))]]))),(3,AV.p (PV.v (Value.complex FloatKind.f64 (0) (0)))),(4,AV.p (PV.v (Value.int IntKind.i64 ((0:Int)))))],[],[],[],[]⟩) else Q (Ex.goto (0:Nat)) (some ⟨118,[(0,AV.p (PV.str (s))),(5,AV.p (PV.lst (List.map Tok.enc out++[[PV.v (Value.int IntKind.i64 ((3:Int))),PV.str ([]),PV.v (Value.complex FloatKind.f64 ((Yf line (IntKind.i64.wrap (IntKind.i64.wrap (k - beg)+(1:Int)))).re) ((Yf line (IntKind.i64.wrap (IntKind.i64.wrap (k - beg)+(1:Int)))).im))]]))),(6,AV.p (PV.v (Value.int IntKind.i64 (IntKind.i64.wrap (k+(1:Int)))))),(8,AV.p (PV.v (Value.int IntKind.i64 (IntKind.i64.wrap (line+(1:Int)))))),(9,AV.p (PV.v (Value.int IntKind.i64 (IntKind.i64.wrap (k+(1:Int)))))),(10,AV.p (PV.v (Value.bool (false))))],[],[],[(Loc.t 5,92)],[]⟩))) else (bif k==↑s.length then Q (Ex.ret) (some ⟨118,[(2,AV.p (PV.lst (List.map Tok.enc out))),(3,AV.p (PV.v (Value.complex FloatKind.f64 (0) (0)))),(4,AV.p (PV.v (Value.int IntKind.i64 ((0:Int)))))],[],[],[],[]⟩) else Q (Ex.goto (0:Nat)) (some ⟨118,[(0,AV.p (PV.str (s))),(5,AV.p (PV.lst (List.map Tok.enc out))),(6,AV.p (PV.v (Value.int IntKind.i64 (IntKind.i64.wrap (k+(1:Int)))))),(8,AV.p (PV.v (Value.int IntKind.i64 (IntKind.i64.wrap (line+(1:Int)))))),(9,AV.p (PV.v (Value.int IntKind.i64 (IntKind.i64.wrap (k+(1:Int)))))),(10,AV.p (PV.v (Value.bool (false))))],[],[],[(Loc.t 5,92)],[]⟩))) else (((0:Int)≤k∧k < ↑s.length)∧(bif ((s.getD k.toNat (0:UInt8)).toNat:Int)==(10:Int) then (bif sm then (((0:Nat) < (1:Nat)∧((List.map Tok.enc out).length+(1:Nat))* (40:Nat)≤(140737488355328:Nat)∧Lens (3:Nat) (List.map Tok.enc out++[[PV.v (Value.int IntKind.i64 (3:Int)),PV.str [],PV.v (Value.complex FloatKind.f64 (Yf line (IntKind.i64.wrap (IntKind.i64.wrap (k - beg)+(1:Int)))).re (Yf line (IntKind.i64.wrap (IntKind.i64.wrap (k - beg)+(1:Int)))).im)]]))∧(bif k==↑s.length then Q (Ex.ret) (some ⟨118,[(2,AV.p (PV.lst (List.map Tok.enc out++[[PV.v (Value.int IntKind.i64 ((3:Int))),PV.str ([]),PV.v (Value.complex FloatKind.f64 ((Yf line (IntKind.i64.wrap (IntKind.i64.wrap (k - beg)+(1:Int)))).re) ((Yf line (IntKind.i64.wrap (IntKind.i64.wrap (k - beg)+(1:Int)))).im))]]))),(3,AV.p (PV.v (Value.complex FloatKind.f64 (0) (0)))),(4,AV.p (PV.v (Value.int IntKind.i64 ((0:Int)))))],[],[],[],[]⟩) else Q (Ex.goto (0:Nat)) (some ⟨118,[(0,AV.p (PV.str (s))),(5,AV.p (PV.lst (List.map Tok.enc out++[[PV.v (Value.int IntKind.i64 ((3:Int))),PV.str ([]),PV.v (Value.complex FloatKind.f64 ((Yf line (IntKind.i64.wrap (IntKind.i64.wrap (k - beg)+(1:Int)))).re) ((Yf line (IntKind.i64.wrap (IntKind.i64.wrap (k - beg)+(1:Int)))).im))]]))),(6,AV.p (PV.v (Value.int IntKind.i64 (IntKind.i64.wrap (k+(1:Int)))))),(8,AV.p (PV.v (Value.int IntKind.i64 (IntKind.i64.wrap (line+(1:Int)))))),(9,AV.p (PV.v (Value.int IntKind.i64 (IntKind.i64.wrap (k+(1:Int)))))),(10,AV.p (PV.v (Value.bool (false))))],[],[],[(Loc.t 5,92)],[]⟩))) else (bif k==↑s.length then Q (Ex.ret) (some ⟨118,[(2,AV.p (PV.lst (List.map Tok.enc out))),(3,AV.p (PV.v (Value.complex FloatKind.f64 (0) (0)))),(4,AV.p (PV.v (Value.int IntKind.i64 ((0:Int)))))],[],[],[],[]⟩) else Q (Ex.goto (0:Nat)) (some ⟨118,[(0,AV.p (PV.str (s))),(5,AV.p (PV.lst (List.map Tok.enc out))),(6,AV.p (PV.v (Value.int IntKind.i64 (IntKind.i64.wrap (k+(1:Int)))))),(8,AV.p (PV.v (Value.int IntKind.i64 (IntKind.i64.wrap (line+(1:Int)))))),(9,AV.p (PV.v (Value.int IntKind.i64 (IntKind.i64.wrap (k+(1:Int)))))),(10,AV.p (PV.v (Value.bool (false))))],[],[],[(Loc.t 5,92)],[]⟩))) else (bif ((s.getD k.toNat (0:UInt8)).toNat:Int)==(32:Int) then Q (Ex.goto (0:Nat)) (some ⟨118,[(0,AV.p (PV.str (s))),(5,AV.p (PV.lst (List.map Tok.enc out))),(6,AV.p (PV.v (Value.int IntKind.i64 (IntKind.i64.wrap (k+(1:Int)))))),(8,AV.p (PV.v (Value.int IntKind.i64 (line)))),(9,AV.p (PV.v (Value.int IntKind.i64 (beg)))),(10,AV.p (PV.v (Value.bool (sm))))],[],[],[(Loc.t 5,92)],[]⟩) else (bif ((s.getD k.toNat (0:UInt8)).toNat:Int)==(9:Int) then Q (Ex.goto (0:Nat)) (some ⟨118,[(0,AV.p (PV.str (s))),(5,AV.p (PV.lst (List.map Tok.enc out))),(6,AV.p (PV.v (Value.int IntKind.i64 (IntKind.i64.wrap (k+(1:Int)))))),(8,AV.p (PV.v (Value.int IntKind.i64 (line)))),(9,AV.p (PV.v (Value.int IntKind.i64 (beg)))),(10,AV.p (PV.v (Value.bool (sm))))],[],[],[(Loc.t 5,92)],[]⟩) else (bif ((s.getD k.toNat (0:UInt8)).toNat:Int)==(35:Int) then (((0:Int)≤k∧k < ↑s.length∧s.length≤(4000:Nat))∧Q (Ex.goto (0:Nat)) (some ⟨118,[(0,AV.p (PV.str (s))),(5,AV.p (PV.lst (List.map Tok.enc out))),(6,AV.p (PV.v (Value.int IntKind.i64 (Zi YX s (k+(1:Int)))))),(8,AV.p (PV.v (Value.int IntKind.i64 (line)))),(9,AV.p (PV.v (Value.int IntKind.i64 (beg)))),(10,AV.p (PV.v (Value.bool (sm))))],[],[],[(Loc.t 5,92)],[]⟩)) else (bif XE ↑(s.getD k.toNat (0:UInt8)).toNat then (((0:Int)≤k∧k < ↑s.length∧s.length≤(4000:Nat))∧(bif decide (IntKind.i64.wrap (Zi Z7 s (k+(1:Int)) - k) > (20:Int)) then Q (Ex.ret) (some ⟨118,[(2,AV.p (.nil)),(3,AV.p (PV.v (Value.complex FloatKind.f64 ((Yf line (IntKind.i64.wrap (IntKind.i64.wrap (k - beg)+(1:Int)))).re) ((Yf line (IntKind.i64.wrap (IntKind.i64.wrap (k - beg)+(1:Int)))).im)))),(4,AV.p (PV.v (Value.int IntKind.i64 ((3:Int)))))],[],[],[],[]⟩) else (((0:Int)≤k∧k≤Zi Z7 s (k+(1:Int))∧Zi Z7 s (k+(1:Int))≤↑s.length)∧(((0:Nat) < (1:Nat)∧((List.map Tok.enc out).length+(1:Nat))* (40:Nat)≤(140737488355328:Nat)∧Lens (3:Nat) (List.map Tok.enc out++[[PV.v (Value.int IntKind.i64 (1:Int)),PV.str (List.take ((Zi Z7 s (k+(1:Int))).toNat - k.toNat) (List.drop k.toNat s)),PV.v (Value.complex FloatKind.f64 (Yf line (IntKind.i64.wrap (IntKind.i64.wrap (k - beg)+(1:Int)))).re (Yf line (IntKind.i64.wrap (IntKind.i64.wrap (k - beg)+(1:Int)))).im)]]))∧Q (Ex.goto (0:Nat)) (some ⟨118,[(0,AV.p (PV.str (s))),(5,AV.p (PV.lst (List.map Tok.enc out++[[PV.v (Value.int IntKind.i64 ((1:Int))),PV.str (List.take ((Zi Z7 s (k+(1:Int))).toNat - k.toNat) (List.drop k.toNat s)),PV.v (Value.complex FloatKind.f64 ((Yf line (IntKind.i64.wrap (IntKind.i64.wrap (k - beg)+(1:Int)))).re) ((Yf line (IntKind.i64.wrap (IntKind.i64.wrap (k - beg)+(1:Int)))).im))]]))),(6,AV.p (PV.v (Value.int IntKind.i64 (Zi Z7 s (k+(1:Int)))))),(8,AV.p (PV.v (Value.int IntKind.i64 (line)))),(9,AV.p (PV.v (Value.int IntKind.i64 (beg)))),(10,AV.p (PV.v (Value.bool (true))))],[],[],[(Loc.t 5,92)],[]⟩))))) else (bif YV ↑(s.getD k.toNat (0:UInt8)).toNat then (((0:Int)≤k∧k < ↑s.length∧s.length≤(4000:Nat))∧(((0:Int)≤k∧k≤Zi Zn s (k+(1:Int))∧Zi Zn s (k+(1:Int))≤↑s.length)∧(((List.take ((Zi Zn s (k+(1:Int))).toNat - k.toNat) (List.drop k.toNat s)).length≤(4000:Nat))∧(bif !(Xr (List.take ((Zi Zn s (k+(1:Int))).toNat - k.toNat) (List.drop k.toNat s))).snd then Q (Ex.ret) (some ⟨118,[(2,AV.p (.nil)),(3,AV.p (PV.v (Value.complex FloatKind.f64 ((Yf line (IntKind.i64.wrap (IntKind.i64.wrap (k - beg)+(1:Int)))).re) ((Yf line (IntKind.i64.wrap (IntKind.i64.wrap (k - beg)+(1:Int)))).im)))),(4,AV.p (PV.v (Value.int IntKind.i64 ((2:Int)))))],[],[],[],[]⟩) else (((0:Int)≤k∧k≤Zi Zn s (k+(1:Int))∧Zi Zn s (k+(1:Int))≤↑s.length)∧(((0:Nat) < (1:Nat)∧((List.map Tok.enc out).length+(1:Nat))* (40:Nat)≤(140737488355328:Nat)∧Lens (3:Nat) (List.map Tok.enc out++[[PV.v (Value.int IntKind.i64 (2:Int)),PV.str (List.take ((Zi Zn s (k+(1:Int))).toNat - k.toNat) (List.drop k.toNat s)),PV.v (Value.complex FloatKind.f64 (Yf line (IntKind.i64.wrap (IntKind.i64.wrap (k - beg)+(1:Int)))).re (Yf line (IntKind.i64.wrap (IntKind.i64.wrap (k - beg)+(1:Int)))).im)]]))∧Q (Ex.goto (0:Nat)) (some ⟨118,[(0,AV.p (PV.str (s))),(5,AV.p (PV.lst (List.map Tok.enc out++[[PV.v (Value.int IntKind.i64 ((2:Int))),PV.str (List.take ((Zi Zn s (k+(1:Int))).toNat - k.toNat) (List.drop k.toNat s)),PV.v (Value.complex FloatKind.f64 ((Yf line (IntKind.i64.wrap (IntKind.i64.wrap (k - beg)+(1:Int)))).re) ((Yf line (IntKind.i64.wrap (IntKind.i64.wrap (k - beg)+(1:Int)))).im))]]))),(6,AV.p (PV.v (Value.int IntKind.i64 (Zi Zn s (k+(1:Int)))))),(8,AV.p (PV.v (Value.int IntKind.i64 (line)))),(9,AV.p (PV.v (Value.int IntKind.i64 (beg)))),(10,AV.p (PV.v (Value.bool (true))))],[],[],[(Loc.t 5,92)],[]⟩))))))) else (bif ((s.getD k.toNat (0:UInt8)).toNat:Int)==(45:Int) then (((0:Int)≤k∧k < ↑s.length∧s.length≤(4000:Nat))∧(((0:Int)≤k∧k≤Zi Zn s (k+(1:Int))∧Zi Zn s (k+(1:Int))≤↑s.length)∧(((List.take ((Zi Zn s (k+(1:Int))).toNat - k.toNat) (List.drop k.toNat s)).length≤(4000:Nat))∧(bif !(Xr (List.take ((Zi Zn s (k+(1:Int))).toNat - k.toNat) (List.drop k.toNat s))).snd then Q (Ex.ret) (some ⟨118,[(2,AV.p (.nil)),(3,AV.p (PV.v (Value.complex FloatKind.f64 ((Yf line (IntKind.i64.wrap (IntKind.i64.wrap (k - beg)+(1:Int)))).re) ((Yf line (IntKind.i64.wrap (IntKind.i64.wrap (k - beg)+(1:Int)))).im)))),(4,AV.p (PV.v (Value.int IntKind.i64 ((2:Int)))))],[],[],[],[]⟩) else (((0:Int)≤k∧k≤Zi Zn s (k+(1:Int))∧Zi Zn s (k+(1:Int))≤↑s.length)∧(((0:Nat) < (1:Nat)∧((List.map Tok.enc out).length+(1:Nat))* (40:Nat)≤(140737488355328:Nat)∧Lens (3:Nat) (List.map Tok.enc out++[[PV.v (Value.int IntKind.i64 (2:Int)),PV.str (List.take ((Zi Zn s (k+(1:Int))).toNat - k.toNat) (List.drop k.toNat s)),PV.v (Value.complex FloatKind.f64 (Yf line (IntKind.i64.wrap (IntKind.i64.wrap (k - beg)+(1:Int)))).re (Yf line (IntKind.i64.wrap (IntKind.i64.wrap (k - beg)+(1:Int)))).im)]]))∧Q (Ex.goto (0:Nat)) (some ⟨118,[(0,AV.p (PV.str (s))),(5,AV.p (PV.lst (List.map Tok.enc out++[[PV.v (Value.int IntKind.i64 ((2:Int))),PV.str (List.take ((Zi Zn s (k+(1:Int))).toNat - k.toNat) (List.drop k.toNat s)),PV.v (Value.complex FloatKind.f64 ((Yf line (IntKind.i64.wrap (IntKind.i64.wrap (k - beg)+(1:Int)))).re) ((Yf line (IntKind.i64.wrap (IntKind.i64.wrap (k - beg)+(1:Int)))).im))]]))),(6,AV.p (PV.v (Value.int IntKind.i64 (Zi Zn s (k+(1:Int)))))),(8,AV.p (PV.v (Value.int IntKind.i64 (line)))),(9,AV.p (PV.v (Value.int IntKind.i64 (beg)))),(10,AV.p (PV.v (Value.bool (true))))],[],[],[(Loc.t 5,92)],[]⟩))))))) else Q (Ex.ret) (some ⟨118,[(2,AV.p (.nil)),(3,AV.p (PV.v (Value.complex FloatKind.f64 ((Yf line (IntKind.i64.wrap (IntKind.i64.wrap (k - beg)+(1:Int)))).re) ((Yf line (IntKind.i64.wrap (IntKind.i64.wrap (k - beg)+(1:Int)))).im)))),(4,AV.p (PV.v (Value.int IntKind.i64 ((2:Int)))))],[],[],[],[]⟩)))))))))):=by kernel_rfl
theorem Zuy(s:List UInt8)(Q:Ex→Option St→Prop):ZsR evEnv Zj7 Zei Zej noG [] 2000 Tryz.f48 ZsT Zd2 0 ZlV Zhp [.str s] Q=(bif decide (↑s.length > (4000:Int)) then Q (Ex.ret) (some ⟨118,[(2,AV.p (.nil)),(3,AV.p (PV.v (Value.complex FloatKind.f64 (0) (0)))),(4,AV.p (PV.v (Value.int IntKind.i64 ((3:Int)))))],[],[],[],[]⟩) else (bif (0:Int)==↑s.length then (bif (0:Int)==↑s.length then Q (Ex.ret) (some ⟨118,[(2,AV.p (.nil)),(3,AV.p (PV.v (Value.complex FloatKind.f64 (0) (0)))),(4,AV.p (PV.v (Value.int IntKind.i64 ((0:Int)))))],[],[],[],[]⟩) else Q (Ex.goto (0:Nat)) (some ⟨118,[(0,AV.p (PV.str (s))),(5,AV.p (PV.lst ([]))),(6,AV.p (PV.v (Value.int IntKind.i64 ((1:Int))))),(8,AV.p (PV.v (Value.int IntKind.i64 ((2:Int))))),(9,AV.p (PV.v (Value.int IntKind.i64 ((1:Int))))),(10,AV.p (PV.v (Value.bool (false))))],[],[],[(Loc.t 5,92)],[]⟩)) else (((0:Int)≤(0:Int)∧(0:Int) < ↑s.length)∧(bif ((s.getD (0:Nat) (0:UInt8)).toNat:Int)==(10:Int) then (bif (0:Int)==↑s.length then Q (Ex.ret) (some ⟨118,[(2,AV.p (.nil)),(3,AV.p (PV.v (Value.complex FloatKind.f64 (0) (0)))),(4,AV.p (PV.v (Value.int IntKind.i64 ((0:Int)))))],[],[],[],[]⟩) else Q (Ex.goto (0:Nat)) (some ⟨118,[(0,AV.p (PV.str (s))),(5,AV.p (PV.lst ([]))),(6,AV.p (PV.v (Value.int IntKind.i64 ((1:Int))))),(8,AV.p (PV.v (Value.int IntKind.i64 ((2:Int))))),(9,AV.p (PV.v (Value.int IntKind.i64 ((1:Int))))),(10,AV.p (PV.v (Value.bool (false))))],[],[],[(Loc.t 5,92)],[]⟩)) else (bif ((s.getD (0:Nat) (0:UInt8)).toNat:Int)==(32:Int) then Q (Ex.goto (0:Nat)) (some ⟨118,[(0,AV.p (PV.str (s))),(5,AV.p (PV.lst ([]))),(6,AV.p (PV.v (Value.int IntKind.i64 ((1:Int))))),(8,AV.p (PV.v (Value.int IntKind.i64 ((1:Int))))),(9,AV.p (PV.v (Value.int IntKind.i64 ((0:Int))))),(10,AV.p (PV.v (Value.bool (false))))],[],[],[(Loc.t 5,92)],[]⟩) else (bif ((s.getD (0:Nat) (0:UInt8)).toNat:Int)==(9:Int) then Q (Ex.goto (0:Nat)) (some ⟨118,[(0,AV.p (PV.str (s))),(5,AV.p (PV.lst ([]))),(6,AV.p (PV.v (Value.int IntKind.i64 ((1:Int))))),(8,AV.p (PV.v (Value.int IntKind.i64 ((1:Int))))),(9,AV.p (PV.v (Value.int IntKind.i64 ((0:Int))))),(10,AV.p (PV.v (Value.bool (false))))],[],[],[(Loc.t 5,92)],[]⟩) else (bif ((s.getD (0:Nat) (0:UInt8)).toNat:Int)==(35:Int) then (((0:Int)≤(0:Int)∧(0:Int) < ↑s.length∧s.length≤(4000:Nat))∧Q (Ex.goto (0:Nat)) (some ⟨118,[(0,AV.p (PV.str (s))),(5,AV.p (PV.lst ([]))),(6,AV.p (PV.v (Value.int IntKind.i64 (Zi YX s (1:Int))))),(8,AV.p (PV.v (Value.int IntKind.i64 ((1:Int))))),(9,AV.p (PV.v (Value.int IntKind.i64 ((0:Int))))),(10,AV.p (PV.v (Value.bool (false))))],[],[],[(Loc.t 5,92)],[]⟩)) else (bif XE ↑(s.getD (0:Nat) (0:UInt8)).toNat then (((0:Int)≤(0:Int)∧(0:Int) < ↑s.length∧s.length≤(4000:Nat))∧(bif decide (IntKind.i64.wrap (Zi Z7 s (1:Int) - (0:Int)) > (20:Int)) then Q (Ex.ret) (some ⟨118,[(2,AV.p (.nil)),(3,AV.p (PV.v (Value.complex FloatKind.f64 (4607182418800017408) (4607182418800017408)))),(4,AV.p (PV.v (Value.int IntKind.i64 ((3:Int)))))],[],[],[],[]⟩) else (((0:Int)≤(0:Int)∧(0:Int)≤Zi Z7 s (1:Int)∧Zi Z7 s (1:Int)≤↑s.length)∧(((0:Nat) < (1:Nat)∧((0:Nat)+(1:Nat))* (40:Nat)≤(140737488355328:Nat)∧Lens (3:Nat) [[PV.v (Value.int IntKind.i64 (1:Int)),PV.str (List.take ((Zi Z7 s (1:Int)).toNat - (0:Nat)) (List.drop (0:Nat) s)),PV.v (Value.complex FloatKind.f64 (4607182418800017408:Nat) (4607182418800017408:Nat))]])∧Q (Ex.goto (0:Nat)) (some ⟨118,[(0,AV.p (PV.str (s))),(5,AV.p (PV.lst ([[PV.v (Value.int IntKind.i64 ((1:Int))),PV.str (List.take ((Zi Z7 s (1:Int)).toNat - (0:Nat)) (List.drop (0:Nat) s)),PV.v (Value.complex FloatKind.f64 (4607182418800017408) (4607182418800017408))]]))),(6,AV.p (PV.v (Value.int IntKind.i64 (Zi Z7 s (1:Int))))),(8,AV.p (PV.v (Value.int IntKind.i64 ((1:Int))))),(9,AV.p (PV.v (Value.int IntKind.i64 ((0:Int))))),(10,AV.p (PV.v (Value.bool (true))))],[],[],[(Loc.t 5,92)],[]⟩))))) else (bif YV ↑(s.getD (0:Nat) (0:UInt8)).toNat then (((0:Int)≤(0:Int)∧(0:Int) < ↑s.length∧s.length≤(4000:Nat))∧(((0:Int)≤(0:Int)∧(0:Int)≤Zi Zn s (1:Int)∧Zi Zn s (1:Int)≤↑s.length)∧(((List.take ((Zi Zn s (1:Int)).toNat - (0:Nat)) (List.drop (0:Nat) s)).length≤(4000:Nat))∧(bif !(Xr (List.take ((Zi Zn s (1:Int)).toNat - (0:Nat)) (List.drop (0:Nat) s))).snd then Q (Ex.ret) (some ⟨118,[(2,AV.p (.nil)),(3,AV.p (PV.v (Value.complex FloatKind.f64 (4607182418800017408) (4607182418800017408)))),(4,AV.p (PV.v (Value.int IntKind.i64 ((2:Int)))))],[],[],[],[]⟩) else (((0:Int)≤(0:Int)∧(0:Int)≤Zi Zn s (1:Int)∧Zi Zn s (1:Int)≤↑s.length)∧(((0:Nat) < (1:Nat)∧((0:Nat)+(1:Nat))* (40:Nat)≤(140737488355328:Nat)∧Lens (3:Nat) [[PV.v (Value.int IntKind.i64 (2:Int)),PV.str (List.take ((Zi Zn s (1:Int)).toNat - (0:Nat)) (List.drop (0:Nat) s)),PV.v (Value.complex FloatKind.f64 (4607182418800017408:Nat) (4607182418800017408:Nat))]])∧Q (Ex.goto (0:Nat)) (some ⟨118,[(0,AV.p (PV.str (s))),(5,AV.p (PV.lst ([[PV.v (Value.int IntKind.i64 ((2:Int))),PV.str (List.take ((Zi Zn s (1:Int)).toNat - (0:Nat)) (List.drop (0:Nat) s)),PV.v (Value.complex FloatKind.f64 (4607182418800017408) (4607182418800017408))]]))),(6,AV.p (PV.v (Value.int IntKind.i64 (Zi Zn s (1:Int))))),(8,AV.p (PV.v (Value.int IntKind.i64 ((1:Int))))),(9,AV.p (PV.v (Value.int IntKind.i64 ((0:Int))))),(10,AV.p (PV.v (Value.bool (true))))],[],[],[(Loc.t 5,92)],[]⟩))))))) else (bif ((s.getD (0:Nat) (0:UInt8)).toNat:Int)==(45:Int) then (((0:Int)≤(0:Int)∧(0:Int) < ↑s.length∧s.length≤(4000:Nat))∧(((0:Int)≤(0:Int)∧(0:Int)≤Zi Zn s (1:Int)∧Zi Zn s (1:Int)≤↑s.length)∧(((List.take ((Zi Zn s (1:Int)).toNat - (0:Nat)) (List.drop (0:Nat) s)).length≤(4000:Nat))∧(bif !(Xr (List.take ((Zi Zn s (1:Int)).toNat - (0:Nat)) (List.drop (0:Nat) s))).snd then Q (Ex.ret) (some ⟨118,[(2,AV.p (.nil)),(3,AV.p (PV.v (Value.complex FloatKind.f64 (4607182418800017408) (4607182418800017408)))),(4,AV.p (PV.v (Value.int IntKind.i64 ((2:Int)))))],[],[],[],[]⟩) else (((0:Int)≤(0:Int)∧(0:Int)≤Zi Zn s (1:Int)∧Zi Zn s (1:Int)≤↑s.length)∧(((0:Nat) < (1:Nat)∧((0:Nat)+(1:Nat))* (40:Nat)≤(140737488355328:Nat)∧Lens (3:Nat) [[PV.v (Value.int IntKind.i64 (2:Int)),PV.str (List.take ((Zi Zn s (1:Int)).toNat - (0:Nat)) (List.drop (0:Nat) s)),PV.v (Value.complex FloatKind.f64 (4607182418800017408:Nat) (4607182418800017408:Nat))]])∧Q (Ex.goto (0:Nat)) (some ⟨118,[(0,AV.p (PV.str (s))),(5,AV.p (PV.lst ([[PV.v (Value.int IntKind.i64 ((2:Int))),PV.str (List.take ((Zi Zn s (1:Int)).toNat - (0:Nat)) (List.drop (0:Nat) s)),PV.v (Value.complex FloatKind.f64 (4607182418800017408) (4607182418800017408))]]))),(6,AV.p (PV.v (Value.int IntKind.i64 (Zi Zn s (1:Int))))),(8,AV.p (PV.v (Value.int IntKind.i64 ((1:Int))))),(9,AV.p (PV.v (Value.int IntKind.i64 ((0:Int))))),(10,AV.p (PV.v (Value.bool (true))))],[],[],[(Loc.t 5,92)],[]⟩))))))) else Q (Ex.ret) (some ⟨118,[(2,AV.p (.nil)),(3,AV.p (PV.v (Value.complex FloatKind.f64 (4607182418800017408) (4607182418800017408)))),(4,AV.p (PV.v (Value.int IntKind.i64 ((2:Int)))))],[],[],[],[]⟩))))))))))):=by kernel_rfl
def ZfY(r:List Tok×Cx×Int):PV:= .tup [.lst (r.1.map Tok.enc),.v (.complex .f64 r.2.1.re r.2.1.im),.v (.int .i64 r.2.2)]
def ZwM(s:List UInt8)(f:Nat)(k line beg:Int)(out:List Tok):Prop:=(0≤k∧k≤s.length∧(s.length:Int)≤4000)∧(s.length:Int) - k < f∧(0≤line∧line≤k+1)∧(0≤beg∧beg≤k)∧(out.length:Int)≤k
abbrev Zpw:=Nat×Int×Int×Int×Bool×List Tok
def XR(s:List UInt8)(x:Zpw)(τ:St):Prop:=Zai evEnv Tryz.f48.results.toList (Qn (ZfY (X1 s x.1 x.2.1 x.2.2.1 x.2.2.2.1 x.2.2.2.2.1 x.2.2.2.2.2))) .ret τ
def ZaY(s:List UInt8)(x:Zpw):St:=Zin s x.2.1 x.2.2.1 x.2.2.2.1 x.2.2.2.2.1 x.2.2.2.2.2
def Zhq(s:List UInt8)(x:Zpw):Prop:=ZwM s x.1 x.2.1 x.2.2.1 x.2.2.2.1 x.2.2.2.2.2
theorem ZnD(out:List Tok)(t:Tok)(h:(out.length:Int)≤4000):(0:Nat) < 1∧((out.map Tok.enc).length+1)*40≤140737488355328∧Lens 3 (out.map Tok.enc++[Tok.enc t]):=
 ⟨by decide,by rw[Qk_];omega,YM (YL (e:=Tok.enc) (fun _=>rfl) _) rfl⟩
theorem Zr3:CSOk Tryz.prog Zj7:=Zb ZvW<|Zb Zr0<|Zb ZlP<|Zb Zv8<|Zb Zv9<|Zf
theorem Zt7(s:List UInt8):∀b∈ZB Zd2,∀S,lk (YS b) ([]:List (Nat×LSum))=some S→Yq Tryz.prog b S:=fun _ _ _ h=>absurd h (by simp[lk])
theorem ZvB:∀b∈ZB ZsT,∀S,lk (YS b) ([]:List (Nat×LSum))=some S→Yq Tryz.prog b S:=fun _ _ _ h=>absurd h (by simp[lk])
theorem Zr4(s:List UInt8)(x:Zpw)(hx:Zhq s x):sxL evEnv Zj7 Zei Zej noG [] 2000 Zd2 0 ZlT ZlV Zhp (ZaY s x) fun e o=>
 (e= .goto 0∧∃y,o=some (ZaY s y)∧Zhq s y∧y.1 < x.1∧∀τ,XR s y τ→XR s x τ)∨(e= .ret∧∃τ,o=some τ∧XR s x τ):=by
 obtain ⟨f,k,line,beg,sm,out⟩:=x
 obtain ⟨⟨a1,a2,a3⟩,a4,⟨a5,a6⟩,⟨a7,a8⟩,a9⟩:=hx
 simp only at a1 a2 a3 a4 a5 a6 a7 a8 a9
 obtain ⟨f,rfl⟩:∃g,f=g+1:=⟨f - 1,by omega⟩
 refine Eq.mpr (ZvA s k line beg sm out _) ?_
 have w1:IntKind.i64.wrap (IntKind.i64.wrap (k - beg)+1)=k - beg+1:=by rw[Zg (show Fit (k - beg) by constructor<;>omega),Zg (by constructor<;>omega)]
 have w2:IntKind.i64.wrap (k+1)=k+1:=Zg (by constructor<;>omega)
 have w3:IntKind.i64.wrap (line+1)=line+1:=Zg (by constructor<;>omega)
 have eg:=Zhb s f k line beg sm out
 have hb:YH s k=((s.getD k.toNat 0).toNat:Int):=rfl
 rw[hb] at eg
 have ha:∀t:Tok,(0:Nat) < 1∧((out.map Tok.enc).length+1)*40≤140737488355328∧Lens 3 (out.map Tok.enc++[Tok.enc t]):=fun t=>ZnD out t (by omega)
 have fin:∀{k' line' beg':Int} {sm':Bool} {out':List Tok},X1 s (f+1) k line beg sm out=X1 s f k' line' beg' sm' out'→∀τ,XR s (f,k',line',beg',sm',out') τ→XR s (f+1,k,line,beg,sm,out) τ:=fun e τ h=>by
  unfold XR at h ⊢
  simp only at h ⊢
  rw[e];exact h
 have bw:=fun h:k < (s.length:Int)=>JU Z7 (s:=s) (k:=k+1) (by omega) (by omega)
 have bn:=fun h:k < (s.length:Int)=>JU Zn (s:=s) (k:=k+1) (by omega) (by omega)
 have br:=fun h:k < (s.length:Int)=>JU YX (s:=s) (k:=k+1) (by omega) (by omega)
 simp only[w1,w2,w3]
 have gx:∀{P1 P2 P3 P4 P5:Prop},P1→P2→P3→P4→P5→P1∧P2∧P3∧P4∧P5:=fun a b c d e=>⟨a,b,c,d,e⟩
 refine Zc (fun h0=>Zc (fun h1=>⟨?r0,Zc (fun h2=>?g0) (fun h2=>?g1)⟩) (fun h1=>Zc (fun h2=>?g2) (fun h2=>?g3))) (fun h0=>⟨?r1,Zc (fun h1=>Zc (fun h2=>⟨?r2,Zc (fun h3=>?g4) (fun h3=>?g5)⟩) (fun h2=>Zc (fun h3=>?g6) (fun h3=>?g7))) (fun h1=>Zc (fun h2=>?g8) (fun h2=>Zc (fun h3=>?g9) (fun h3=>Zc (fun h4=>⟨?r3, ?g10⟩) (fun h4=>Zc (fun h5=>⟨?r4,Zc (fun h6=>?g11) (fun h6=>⟨?r5,⟨?r6, ?g12⟩⟩)⟩) (fun h5=>Zc (fun h6=>⟨?r7,⟨?r8,⟨?r9,Zc (fun h7=>?g13) (fun h7=>⟨?r10,⟨?r11, ?g14⟩⟩)⟩⟩⟩) (fun h6=>Zc (fun h7=>⟨?r12,⟨?r13,⟨?r14,Zc (fun h8=>?g15) (fun h8=>⟨?r15,⟨?r16, ?g16⟩⟩)⟩⟩⟩) (fun h7=>?g17)))))))⟩)
 case r0|r2=>exact ha ⟨3,[],_⟩
 case r6=>exact ha ⟨1,_,_⟩
 case r11|r16=>exact ha ⟨2,_,_⟩
 case r1=>have hk:k≠s.length:=(by simpa using h0);omega
 case r3|r4|r7|r12=>have hk:k≠s.length:=(by simpa using h0);omega
 case r5=>have hk:k≠s.length:=(by simpa using h0);have:=bw (by omega);omega
 case r8|r10|r13|r15=>have hk:k≠s.length:=(by simpa using h0);have:=bn (by omega);omega
 case r9|r14=>rw[K0_,K7_];omega
 case g1|g3=>rw[h0] at h2;cases h2
 case g4=>rw[h0] at h3;cases h3
 case g6=>rw[h0] at h3;cases h3
 all_goals simp only[h0,Qb_,Qd_] at eg
 case g0|g2=>exact .inr ⟨by trivial,_,rfl,by unfold XR;simp only;rw[eg,h1];simp only[Zeu,Qb_,Qd_,Xd,ZfY,QR_,QE_,QN_];rfl⟩
 all_goals have hk:k≠s.length:=(by simpa using h0)
 all_goals simp only[h1,Qb_,Qd_] at eg
 case g5=>
  subst h2
  simp only[Zeu,Qb_] at eg
  exact .inl ⟨by trivial,(f,k+1,line+1,k+1,false,out++[⟨3,[],Xd k line beg⟩]),by simp only[ZaY,Zin,QR_,QE_,QN_];rfl,⟨⟨by simp only;omega,by simp only;omega,a3⟩,by simp only;omega,⟨by simp only;omega,by simp only;omega⟩,⟨by simp only;omega,by simp only;omega⟩,by simp only[Qx_,Qs_,Q1_];omega⟩,Nat.lt_succ_self _,fin eg⟩
 case g7=>
  subst h2
  simp only[Zeu,Qd_] at eg
  exact .inl ⟨by trivial,(f,k+1,line+1,k+1,false,out),rfl,⟨⟨by simp only;omega,by simp only;omega,a3⟩,by simp only;omega,⟨by simp only;omega,by simp only;omega⟩,⟨by simp only;omega,by simp only;omega⟩,by simp only;omega⟩,Nat.lt_succ_self _,fin eg⟩
 all_goals simp only[h2,Q4_,Qw_,Qb_,Qd_] at eg
 case g8=>exact .inl ⟨by trivial,(f,k+1,line,beg,sm,out),rfl,⟨⟨by simp only;omega,by simp only;omega,a3⟩,by simp only;omega,⟨a5,by simp only;omega⟩,⟨a7,by simp only;omega⟩,by simp only;omega⟩,Nat.lt_succ_self _,fin eg⟩
 all_goals simp only[h3,Qb_,Qd_] at eg
 case g9=>exact .inl ⟨by trivial,(f,k+1,line,beg,sm,out),rfl,⟨⟨by simp only;omega,by simp only;omega,a3⟩,by simp only;omega,⟨a5,by simp only;omega⟩,⟨a7,by simp only;omega⟩,by simp only;omega⟩,Nat.lt_succ_self _,fin eg⟩
 all_goals simp only[h4,Qb_,Qd_] at eg
 case g10=>have:=br (by omega);exact .inl ⟨by trivial,(f,Zi YX s (k+1),line,beg,sm,out),rfl,⟨⟨by simp only;omega,by simp only;omega,a3⟩,by simp only;omega,⟨a5,by simp only;omega⟩,⟨a7,by simp only;omega⟩,by simp only;omega⟩,Nat.lt_succ_self _,fin eg⟩
 all_goals simp only[h5,Qb_,Qd_] at eg
 case g11|g12=>
  have hw:=bw (by omega)
  have hd:IntKind.i64.wrap (Zi Z7 s (k+1) - k)=Zi Z7 s (k+1) - k:=Zg (by constructor<;>omega)
  rw[hd] at h6
  simp only[h6,Qb_,Qd_] at eg
  first
   | exact .inr ⟨by trivial,_,rfl,by unfold XR;simp only;rw[eg];rfl⟩
   | exact .inl ⟨by trivial,(f,Zi Z7 s (k+1),line,beg,true,out++[⟨1,WJ s k (Zi Z7 s (k+1)),Xd k line beg⟩]),by simp only[ZaY,Zin,QR_,QE_,QN_];rfl,⟨⟨by simp only;omega,by simp only;omega,a3⟩,by simp only;omega,⟨a5,by simp only;omega⟩,⟨a7,by simp only;omega⟩,by simp only[Qx_,Qs_,Q1_];omega⟩,Nat.lt_succ_self _,fin eg⟩
 all_goals simp only[h6,Q4_,Qw_,Qb_,Qd_] at eg
 case g13|g14=>
  have hn:=bn (by omega)
  simp only[Qi_,Qf_] at h7
  have h8:(Xr (WJ s k (Zi Zn s (k+1)))).2=_:=h7
  simp only[h8,Qb_,Qd_] at eg
  first
   | exact .inr ⟨by trivial,_,rfl,by unfold XR;simp only;rw[eg];rfl⟩
   | exact .inl ⟨by trivial,(f,Zi Zn s (k+1),line,beg,true,out++[⟨2,WJ s k (Zi Zn s (k+1)),Xd k line beg⟩]),by simp only[ZaY,Zin,QR_,QE_,QN_];rfl,⟨⟨by simp only;omega,by simp only;omega,a3⟩,by simp only;omega,⟨a5,by simp only;omega⟩,⟨a7,by simp only;omega⟩,by simp only[Qx_,Qs_,Q1_];omega⟩,Nat.lt_succ_self _,fin eg⟩
 all_goals simp only[h7,Qb_,Qd_] at eg
 case g15|g16=>
  have hn:=bn (by omega)
  simp only[Qi_,Qf_] at h8
  have h9:(Xr (WJ s k (Zi Zn s (k+1)))).2=_:=h8
  simp only[h9,Qb_,Qd_] at eg
  first
   | exact .inr ⟨by trivial,_,rfl,by unfold XR;simp only;rw[eg];rfl⟩
   | exact .inl ⟨by trivial,(f,Zi Zn s (k+1),line,beg,true,out++[⟨2,WJ s k (Zi Zn s (k+1)),Xd k line beg⟩]),by simp only[ZaY,Zin,QR_,QE_,QN_];rfl,⟨⟨by simp only;omega,by simp only;omega,a3⟩,by simp only;omega,⟨a5,by simp only;omega⟩,⟨a7,by simp only;omega⟩,by simp only[Qx_,Qs_,Q1_];omega⟩,Nat.lt_succ_self _,fin eg⟩
 case g17=>exact .inr ⟨by trivial,_,rfl,by unfold XR;simp only;rw[eg];rfl⟩
theorem Zuz(s:List UInt8):∀x,Zhq s x→∃σ',XR s x σ'∧∃m,Xu Tryz.prog Zd2 m ZlT (ZaY s x) .ret σ':=
 Zr2 Zx Zr3 ZZ Ya Yl (Zt7 s) ZlU (n:=2000) (ZaY s) (Zhq s) (XR s) (fun x=>x.1) ZlV Zhp (Zr4 s)
theorem ZvZ:Xd 0 1 0=⟨4607182418800017408,4607182418800017408⟩:=by kernel_rfl
theorem Zpx(s:List UInt8):Con Tryz.prog 48 [.str s] (ZfY (tokens s)):=by
 obtain ⟨r,hr,hc⟩:=ZsS Zx Zr3 ZZ Ya Yl (f:=48) (fn:=Tryz.f48) rfl ZsU ZlU ZvB (Zt7 s) (n:=2000) (args:=[.str s]) (by kernel_rfl) (k:=ZlV) (kr:=Zhp) (R:=Qn (ZfY (tokens s))) (by
  refine Eq.mpr (Zuy s _) ?_
  have eg0:(s.length:Int)≤4000→tokens s=X1 s (s.length+1) 0 1 0 false []:=fun h=>by
   unfold tokens
   rw[QQ_ (by omega)];rfl
  have eg:=Zhb s s.length 0 1 0 false []
  have hb:YH s 0=((s.getD 0 0).toNat:Int):=rfl
  have go:(s.length:Int)≤4000→∀y,X1 s (s.length+1) 0 1 0 false []=X1 s y.1 y.2.1 y.2.2.1 y.2.2.2.1 y.2.2.2.2.1 y.2.2.2.2.2→Zhq s y→
   ∃τ,some (ZaY s y)=some τ∧∃σ',Zai evEnv Tryz.f48.results.toList (Qn (ZfY (tokens s))) .ret σ'∧∃m,Xu Tryz.prog Zd2 m ZlT τ .ret σ':=fun hl y e hy=>by
   obtain ⟨σ',h1,m,h2⟩:=Zuz s y hy
   refine ⟨_,rfl,σ', ?_,m,h2⟩
   rw[eg0 hl,e];exact h1
  have rt:∀{τ:St} {t:List Tok×Cx×Int},tokens s=t→Zai evEnv Tryz.f48.results.toList (Qn (ZfY t)) .ret τ→∃τ',some τ=some τ'∧Zai evEnv Tryz.f48.results.toList (Qn (ZfY (tokens s))) .ret τ':=fun e h=>⟨_,rfl,by rw[e];exact h⟩
  rw[hb,ZvZ] at eg
  simp only[show (0:Int)+1=1 from rfl,show (1:Int)+1=2 from rfl] at eg
  have bw:=fun h:0 < s.length=>JU Z7 (s:=s) (k:=1) (by omega) (by omega)
  have bn:=fun h:0 < s.length=>JU Zn (s:=s) (k:=1) (by omega) (by omega)
  have br:=fun h:0 < s.length=>JU YX (s:=s) (k:=1) (by omega) (by omega)
  refine Zc (fun h0=>?g0) (fun h0=>Zc (fun h1=>Zc (fun h2=>?g1) (fun h2=>?g2)) (fun h1=>⟨?r0,Zc (fun h2=>Zc (fun h3=>?g3) (fun h3=>?g4)) (fun h2=>Zc (fun h3=>?g5) (fun h3=>Zc (fun h4=>?g6) (fun h4=>Zc (fun h5=>⟨?r1, ?g7⟩) (fun h5=>Zc (fun h6=>⟨?r2,Zc (fun h7=>?g8) (fun h7=>⟨?r3,⟨?r4, ?g9⟩⟩)⟩) (fun h6=>Zc (fun h7=>⟨?r5,⟨?r6,⟨?r7,Zc (fun h8=>?g10) (fun h8=>⟨?r8,⟨?r9, ?g11⟩⟩)⟩⟩⟩) (fun h7=>Zc (fun h8=>⟨?r10,⟨?r11,⟨?r12,Zc (fun h9=>?g12) (fun h9=>⟨?r13,⟨?r14, ?g13⟩⟩)⟩⟩⟩) (fun h8=>?g14)))))))⟩))
  case g0=>exact .inr ⟨by trivial,rt (t:=([],XY,3)) (by unfold tokens;rw[h0];rfl) rfl⟩
  all_goals have hl:(s.length:Int)≤4000:=(by have:=of_decide_eq_false h0;omega)
  case g1=>exact .inr ⟨by trivial,rt (t:=([],XY,0)) (by rw[eg0 hl,eg,h1];rfl) rfl⟩
  case g2=>rw[h1] at h2;cases h2
  case g3=>rw[h1] at h3;cases h3
  all_goals have hp:0 < s.length:=(by have hk:(0:Int)≠s.length:=(by simpa using h1);omega)
  case r0=>omega
  case r1|r2|r5|r10=>omega
  case r3=>have:=bw hp;omega
  case r6|r8|r11|r13=>have:=bn hp;omega
  case r4|r9|r14=>exact ZnD [] ⟨_,_,⟨_,_⟩⟩ (by decide)
  case r7|r12=>rw[K0_,K7_];omega
  all_goals simp only[h1,Qb_,Qd_] at eg
  case g4=>
   simp only[h2,Zeu,Qb_,Qd_] at eg
   exact .inl ⟨by trivial,go hl (s.length,1,2,1,false,[]) eg ⟨⟨by simp only;omega,by simp only;omega,hl⟩,by simp only;omega,⟨by simp only;omega,by simp only;omega⟩,⟨by simp only;omega,by simp only;omega⟩,by simp only[Q1_];omega⟩⟩
  all_goals simp only[h2,Qb_,Qd_] at eg
  case g5=>
   simp only[h3,Q4_,Qb_] at eg
   exact .inl ⟨by trivial,go hl (s.length,1,1,0,false,[]) eg ⟨⟨by simp only;omega,by simp only;omega,hl⟩,by simp only;omega,⟨by simp only;omega,by simp only;omega⟩,⟨by simp only;omega,by simp only;omega⟩,by simp only[Q1_];omega⟩⟩
  all_goals simp only[h3,Qw_] at eg
  case g6=>
   simp only[h4,Qb_] at eg
   exact .inl ⟨by trivial,go hl (s.length,1,1,0,false,[]) eg ⟨⟨by simp only;omega,by simp only;omega,hl⟩,by simp only;omega,⟨by simp only;omega,by simp only;omega⟩,⟨by simp only;omega,by simp only;omega⟩,by simp only[Q1_];omega⟩⟩
  all_goals simp only[h4,Qd_] at eg
  case g7=>
   simp only[h5,Qb_] at eg
   have:=br hp
   exact .inl ⟨by trivial,go hl (s.length,Zi YX s 1,1,0,false,[]) eg ⟨⟨by simp only;omega,by simp only;omega,hl⟩,by simp only;omega,⟨by simp only;omega,by simp only;omega⟩,⟨by simp only;omega,by simp only;omega⟩,by simp only[Q1_];omega⟩⟩
  all_goals simp only[h5,Qd_] at eg
  case g8|g9=>
   have hw:=bw hp
   have hd:IntKind.i64.wrap (Zi Z7 s 1 - 0)=Zi Z7 s 1 - 0:=Zg (by constructor<;>omega)
   rw[hd] at h7
   simp only[h6,h7,Qb_,Qd_] at eg
   first
    | exact .inr ⟨by trivial,rt (eg0 hl |>.trans eg) rfl⟩
    | exact .inl ⟨by trivial,go hl (s.length,Zi Z7 s 1,1,0,true,[⟨1,WJ s 0 (Zi Z7 s 1),⟨4607182418800017408,4607182418800017408⟩⟩]) eg ⟨⟨by simp only;omega,by simp only;omega,hl⟩,by simp only;omega,⟨by simp only;omega,by simp only;omega⟩,⟨by simp only;omega,by simp only;omega⟩,by simp only[Qs_,Q1_];omega⟩⟩
  all_goals simp only[h6,Qd_] at eg
  case g10|g11=>
   have hw:=bn hp
   simp only[Qi_,Qf_] at h8
   have h9:(Xr (WJ s 0 (Zi Zn s 1))).2=_:=h8
   simp only[h7,h9,Q4_,Qb_,Qd_] at eg
   first
    | exact .inr ⟨by trivial,rt (eg0 hl |>.trans eg) rfl⟩
    | exact .inl ⟨by trivial,go hl (s.length,Zi Zn s 1,1,0,true,[⟨2,WJ s 0 (Zi Zn s 1),⟨4607182418800017408,4607182418800017408⟩⟩]) eg ⟨⟨by simp only;omega,by simp only;omega,hl⟩,by simp only;omega,⟨by simp only;omega,by simp only;omega⟩,⟨by simp only;omega,by simp only;omega⟩,by simp only[Qs_,Q1_];omega⟩⟩
  all_goals simp only[h7,Qw_] at eg
  case g12|g13=>
   have hw:=bn hp
   simp only[Qi_,Qf_] at h9
   have h10:(Xr (WJ s 0 (Zi Zn s 1))).2=_:=h9
   simp only[h8,h10,Qb_,Qd_] at eg
   first
    | exact .inr ⟨by trivial,rt (eg0 hl |>.trans eg) rfl⟩
    | exact .inl ⟨by trivial,go hl (s.length,Zi Zn s 1,1,0,true,[⟨2,WJ s 0 (Zi Zn s 1),⟨4607182418800017408,4607182418800017408⟩⟩]) eg ⟨⟨by simp only;omega,by simp only;omega,hl⟩,by simp only;omega,⟨by simp only;omega,by simp only;omega⟩,⟨by simp only;omega,by simp only;omega⟩,by simp only[Qs_,Q1_];omega⟩⟩
  all_goals simp only[h8,Qd_] at eg
  case g14=>exact .inr ⟨by trivial,rt (eg0 hl |>.trans eg) rfl⟩)
 rw[←hr]
 exact Zqx hc
theorem Zwa:Zk Tryz.prog 48 e48:=Zm<|Zh fun s=>EZ0<|Zpx s
end Go.Men
namespace Go.Men
open Go.Ev Go.Proofs Go.Proofs.YtgfgjabeooohhaaGreatDoor
theorem ZlW:Zk Tryz.prog 108 ZwE:=Zm<|Zh fun a=>Zh fun b=>EZ0<|by
 refine cf0 (Zb Zl0<|Zb Zrt<|Zf) (fn:=Tryz.f108) rfl ?_
 refine sxT (fun Q=>(bif ZL a then (bif ZL b then (((0:Int)≤IntKind.i64.wrap ((6:Int) - a.scale)∧IntKind.i64.wrap ((6:Int) - a.scale)≤(18:Int))∧(((0:Int)≤IntKind.i64.wrap ((6:Int) - b.scale)∧IntKind.i64.wrap ((6:Int) - b.scale)≤(18:Int))∧Q (vB (decide (IntKind.i64.wrap (a.c *ZK (IntKind.i64.wrap ((6:Int) - a.scale))) < IntKind.i64.wrap (b.c *ZK (IntKind.i64.wrap ((6:Int) - b.scale)))))))) else Q (vB false)) else Q (vB false))) (fun _=>by kernel_rfl) ?_
 delta Qn vB
 refine Zc (fun h0=>Zc (fun h1=>⟨?r1,⟨?r0, ?_⟩⟩) (fun h1=>?_)) (fun h0=>?_)
 case r0|r1=>have h0:=Zdk h0;have h1:=Zdk h1;rw[h0.1] at *;rw[h1.1] at *;first | exact h0.2.1 | exact h1.2.1 | omega
 ·have f0:=Zdk h0;have f1:=Zdk h1
  rw[f0.1,f1.1,f0.2.2,f1.2.2]
  simp only[Y9,h0,h1,Qp_];rfl
 ·simp only[Y9,h0,h1,Qp_,Ql_];rfl
 ·simp only[Y9,h0,Ql_];rfl
def Zfg(d:Dec):=[IntKind.i64.wrap ((0:Int) - d.c)]
def Zfh(d:Dec):=[IntKind.i64.wrap (IntKind.i64.wrap (d.scale+(1:Int)) - ↑(digits (List.foldl imax d.c (Zfg d))).length)]
def X2(d:Dec):=Zid [(48:UInt8)] (List.foldl imax (0:Int) (Zfh d))++digits (List.foldl imax d.c (Zfg d))
def Wi(d:Dec):=IntKind.i64.wrap (↑(X2 d).length - d.scale)
def Zpy(d:Dec):=(0:Int)≤IntKind.i64.wrap (↑(X2 d).length - d.scale)∧IntKind.i64.wrap (↑(X2 d).length - d.scale)≤↑(X2 d).length
def Zhr(d:Dec):=List.take (Wi d).toNat (X2 d)
theorem Zwb:Zk Tryz.prog 70 e70:=Zm<|Zh fun d=>EZ0<|by
 refine cf0 (Zb Zl0<|Zb Zvw<|Zb Zvu<|Zf) (fn:=Tryz.f70) rfl ?_
 refine sxT (fun Q=>(bif !ZL d then Q (PV.str ([])) else (((-1000000000000000000:Int)≤List.foldl imax d.c (Zfg d)∧List.foldl imax d.c (Zfg d)≤(1000000000000000000:Int))∧(((0:Int)≤List.foldl imax (0:Int) (Zfh d)∧List.foldl imax (0:Int) (Zfh d)≤(4000000000:Int)∧(1:Nat)* (List.foldl imax (0:Int) (Zfh d)).toNat≤(4000000000:Nat))∧(((Zid [(48:UInt8)] (List.foldl imax (0:Int) (Zfh d))).length+(digits (List.foldl imax d.c (Zfg d))).length≤(9223372036854775807:Nat))∧((Zpy d)∧((Zpy d)∧(bif decide (↑(Zhr d).length > (5:Int)) then Q (PV.str ([])) else (bif decide (d.c < (0:Int)) then (((1:Nat)+(Zhr d).length≤(9223372036854775807:Nat))∧(bif !List.drop (Wi d).toNat (X2 d)==[] then ((([(45:UInt8)]++List.take (Wi d).toNat (X2 d)).length+(1:Nat)≤(9223372036854775807:Nat))∧((([(45:UInt8)]++List.take (Wi d).toNat (X2 d)++[(46:UInt8)]).length+(List.drop (Wi d).toNat (X2 d)).length≤(9223372036854775807:Nat))∧Q (PV.str ([(45:UInt8)]++List.take (Wi d).toNat (X2 d)++[(46:UInt8)]++List.drop (Wi d).toNat (X2 d))))) else Q (PV.str ([(45:UInt8)]++List.take (Wi d).toNat (X2 d))))) else (bif !List.drop (Wi d).toNat (X2 d)==[] then (((Zhr d).length+(1:Nat)≤(9223372036854775807:Nat))∧(((List.take (Wi d).toNat (X2 d)++[(46:UInt8)]).length+(List.drop (Wi d).toNat (X2 d)).length≤(9223372036854775807:Nat))∧Q (PV.str (List.take (Wi d).toNat (X2 d)++[(46:UInt8)]++List.drop (Wi d).toNat (X2 d))))) else Q (PV.str (Zhr d)))))))))))) (fun _=>by kernel_rfl) ?_
 delta Qn X2 Wi Zfh Zpy Zfg Zhr
 refine Zc (fun h0=>?_) (fun h0=>⟨?r9,⟨?r8,⟨?r7,⟨?r6,⟨?r5,Zc (fun h1=>?_) (fun h1=>Zc (fun h2=>⟨?r2,Zc (fun h3=>⟨?r1,⟨?r0, ?_⟩⟩) (fun h3=>?_)⟩) (fun h2=>Zc (fun h3=>⟨?r4,⟨?r3, ?_⟩⟩) (fun h3=>?_)))⟩⟩⟩⟩⟩)
 case r0|r1|r2|r3|r4|r5|r6|r7|r8|r9=>have hr:ZL d=true:=(by simpa using h0);obtain ⟨e1,e2,e3,e4,e5,e6⟩:=Zlg hr;have hb:=ZqJ hr;simp only[e1,e2,e3,e4,e5,e6];first | omega | (have e7:(Zid [48] (max 0 (d.scale+1 - ((digits (Yz d)).length:Int)))).length=(max 0 (d.scale+1 - ((digits (Yz d)).length:Int))).toNat:=Zut _;omega) | (simp only[Qx_,Qs_,Q1_];omega) | skip
 ·have hr:ZL d=false:=(by simpa using h0)
  unfold Jd;rw[hr];rfl
 all_goals have hr:ZL d=true:=(by simpa using h0)
 all_goals obtain ⟨e1,e2,e3,e4,e5,e6⟩:=Zlg hr
 all_goals simp only[e1,e2,e3,e4,e5,e6] at *
 all_goals rw[ZmE hr]
 all_goals simp only[*,Qb_,Qd_]
 all_goals first | rfl | (simp only[QB_];rfl)
theorem Zt8:Zk Tryz.prog 71 e71:=Zm<|EZ0<|by
 refine cf0 Zf (fn:=Tryz.f71) rfl ?_
 refine sxT (fun Q=>Q (PV.agg [vI 0,vI 0])) (fun _=>by kernel_rfl) ?_
 delta Qn vI
 refine ?_
 all_goals (try simp only[Qi_,Qf_,bne] at *)
 all_goals first | rfl | (simp only[Z8,Z1,Zv,List.foldl,Qr_,Qp_,Ql_,Qn_,Q5_,Q4_,Qw_,Q3_,Qu_,Qt_,Qb_,Qd_,QD_,Q8_, *];done) | (simp only[Z8,Z1,Zv,List.foldl,Qr_,Qp_,Ql_,Qn_,Q5_,Q4_,Qw_,Q3_,Qu_,Qt_,Qb_,Qd_,QD_,Q8_, *];first | rfl | (simp only[nz,nzA,nz1,QE_,QN_,Iv.enc,V.enc,Ray.enc, *];first | done | rfl)) | (simp_all[nz,nzA,nz1,Iv.enc,V.enc,Ray.enc,Dec.enc,Shape.enc,none',told,K2_,Z8];done) | (simp_all[nz,nzA,nz1,Iv.enc,V.enc,Ray.enc,Dec.enc,Shape.enc,none',told,K2_,Z8];omega) | (simp_all[nz,nzA,nz1,Iv.enc,V.enc,Ray.enc,Dec.enc,Shape.enc,none',told,K2_,Z8];(repeat' split)<;>(first | rfl | (exfalso;omega) | (simp_all;done) | omega))
theorem Zr5:Zk Tryz.prog 131 ZwF:=Zm<|Zh fun d=>EZ0<|by
 refine cf0 (Zb Zwb<|Zf) (fn:=Tryz.f131) rfl ?_
 refine sxT (fun Q=>Q (vB (!Jd d==[]))) (fun _=>by kernel_rfl) ?_
 delta Qn vB
 refine ?_
 rw[←ZkX];rfl
theorem Zt9:Zk Tryz.prog 79 e79:=Zm<|Zh fun d=>EZ0<|by
 refine cf0 (Zb Zr5<|Zb Zt8<|Zb ZlW<|Zf) (fn:=Tryz.f79) rfl ?_
 refine sxT (fun Q=>(bif printable d then Q (vB (Y9 Z8 d)) else Q (vB false))) (fun _=>by kernel_rfl) ?_
 delta Qn vB
 refine Zc (fun h0=>?_) (fun h0=>?_)
 all_goals (try simp only[Qi_,Qf_,bne] at *)
 all_goals first | rfl | (simp only[WR,Z1,Zv,List.foldl,Qr_,Qp_,Ql_,Qn_,Q5_,Q4_,Qw_,Q3_,Qu_,Qt_,Qb_,Qd_,QD_,Q8_, *];done) | (simp only[WR,Z1,Zv,List.foldl,Qr_,Qp_,Ql_,Qn_,Q5_,Q4_,Qw_,Q3_,Qu_,Qt_,Qb_,Qd_,QD_,Q8_, *];first | rfl | (simp only[nz,nzA,nz1,QE_,QN_,Iv.enc,V.enc,Ray.enc, *];first | done | rfl)) | (simp_all[nz,nzA,nz1,Iv.enc,V.enc,Ray.enc,Dec.enc,Shape.enc,none',told,K2_,WR];done) | (simp_all[nz,nzA,nz1,Iv.enc,V.enc,Ray.enc,Dec.enc,Shape.enc,none',told,K2_,WR];omega) | (simp_all[nz,nzA,nz1,Iv.enc,V.enc,Ray.enc,Dec.enc,Shape.enc,none',told,K2_,WR];(repeat' split)<;>(first | rfl | (exfalso;omega) | (simp_all;done) | omega))
theorem ZvC:Zk Tryz.prog 132 ZwG:=Zm<|Zh fun d=>EZ0<|by
 refine cf0 (Zb Zt8<|Zb ZlW<|Zf) (fn:=Tryz.f132) rfl ?_
 refine sxT (fun Q=>Q (vB (Y9 d Z8))) (fun _=>by kernel_rfl) ?_
 delta Qn vB
 refine ?_
 all_goals (try simp only[Qi_,Qf_,bne] at *)
 all_goals first | rfl | (simp only[Y9,Z1,Zv,List.foldl,Qr_,Qp_,Ql_,Qn_,Q5_,Q4_,Qw_,Q3_,Qu_,Qt_,Qb_,Qd_,QD_,Q8_, *];done) | (simp only[Y9,Z1,Zv,List.foldl,Qr_,Qp_,Ql_,Qn_,Q5_,Q4_,Qw_,Q3_,Qu_,Qt_,Qb_,Qd_,QD_,Q8_, *];first | rfl | (simp only[nz,nzA,nz1,QE_,QN_,Iv.enc,V.enc,Ray.enc, *];first | done | rfl)) | (simp_all[nz,nzA,nz1,Iv.enc,V.enc,Ray.enc,Dec.enc,Shape.enc,none',told,K2_,Y9];done) | (simp_all[nz,nzA,nz1,Iv.enc,V.enc,Ray.enc,Dec.enc,Shape.enc,none',told,K2_,Y9];omega) | (simp_all[nz,nzA,nz1,Iv.enc,V.enc,Ray.enc,Dec.enc,Shape.enc,none',told,K2_,Y9];(repeat' split)<;>(first | rfl | (exfalso;omega) | (simp_all;done) | omega))
theorem ZvD:Zk Tryz.prog 133 ZwH:=Zm<|Zh fun a=>Zh fun b=>EZ0<|by
 refine cf0 (Zb ZlW<|Zf) (fn:=Tryz.f133) rfl ?_
 refine sxT (fun Q=>(bif List.foldl imax a.c [IntKind.i64.wrap ((0:Int) - a.c)]==(0:Int) then Q (vB true) else Q (vB (!Y9 (Dec.mk (List.foldl imax a.c [IntKind.i64.wrap ((0:Int) - a.c)]) a.scale) b)))) (fun _=>by kernel_rfl) ?_
 delta Qn vB
 refine Zc (fun h0=>?_) (fun h0=>?_)
 all_goals simp only[List.foldl,Zv] at *
 all_goals (show PV.v (Value.bool _)=PV.v (Value.bool (((max a.c (w64 (0 - a.c)))==0)|| !Y9 ⟨max a.c (w64 (0 - a.c)),a.scale⟩ b)))
 all_goals simp only[w64, *,Q4_,Qw_]
def Zfi(s:List UInt8):=List.map Tok.enc (tokens s).fst
def Zpz(s:List UInt8):=(0:Int)≤(0:Int)∧(Zfi s)[(0:Nat)]?=some (Yx [vI 0,PV.str [],PV.v (Value.complex FloatKind.f64 (0:Nat) (0:Nat))] ((Zfi s).getD (0:Nat) []))
theorem ZtA:Zk Tryz.prog 78 e78:=Zm<|Zh fun s=>EZ0<|by
 refine cf0 (Zb Zwa<|Zf) (fn:=Tryz.f78) rfl ?_
 refine sxT (fun Q=>(bif (tokens s).snd.snd==(0:Int) then (bif ↑(Zfi s).length==(2:Int) then ((Zpz s)∧(bif Zd (((Zfi s).getD (0:Nat) []).headD PV.nil)==(1:Int) then ((Zpz s)∧Q (vB (We (((Zfi s).getD (0:Nat) []).tail.headD PV.nil)==s))) else Q (vB false))) else Q (vB false)) else Q (vB false))) (fun _=>by kernel_rfl) ?_
 delta Qn Zpz Zfi vI vB
 refine Zc (fun h0=>Zc (fun h1=>⟨?r1,Zc (fun h2=>⟨?r0, ?_⟩) (fun h2=>?_)⟩) (fun h1=>?_)) (fun h0=>?_)
 case r0|r1=>first | rfl | (rw[Zwr];done) | (have h1':=eq_of_beq h1;rw[Qk_] at h1';exact Zu (i:=0) (fun _=>rfl) (by omega) (by omega)) | skip
 all_goals obtain ⟨q1,q2⟩:=ZuX (tokens s).1
 all_goals simp only[q1,q2,Qk_] at *
 all_goals simp only[ZcA, *,Qp_,Ql_,Qr_,Qn_]
 all_goals rfl
def XK(i:Int)(l:List Glass):=(List.map Glass.enc l).getD i.toNat []
theorem ZlX:CSOk Tryz.prog (Xb []):=Zf
theorem Zp0:Yq Tryz.prog (ZE Tryz.f119 0) ZiN:=by
 refine lsG Zx.Γ (ZQ Zx ZlX ZZ Ya Yl (LS:=[]) (Y8 (l:=[]) (by kernel_rfl) ZC) (n:=2000) (U5 Zra) (U5 Jn) (fun x e s=>((U5 Jo x=true∧e= .ret∧s=U5 Ze5 x)∨(U5 Jo x=false∧e= .exit 0∧s=U5 Ze4 x))) (fun x=>(x.2.1.length - x.1).toNat) ZiM ZoQ ZoR (fun x hx=>?_)) cv5 (fun _=>rfl) (fun _ h=>h) (fun _ _ _ _ h f=>fC h f fE fE)
 ·obtain ⟨i,l,n,m,z⟩:=x
  simp only[U5,Jn] at hx
  refine sxT (fun Q=>(bif decide (i < m) then (((0:Int)≤i∧(List.map Glass.enc l)[i.toNat]?=some (Yx [PV.str [],vI 0,vI 0,vI 0,vI 0,vI 0,vI 0,vI 0,vI 0,vI 0,vI 0,vI 0,vI 0] (XK i l)))∧(bif We ((XK i l).headD PV.nil)==n then Q (Ex.ret) (some ⟨21,[(4,AV.ptr 4 0),(5,AV.p (vB true))],[(4,[PV.str (We ((XK i l).headD PV.nil)),vI (Zd ((XK i l).tail.headD PV.nil)),vI (Zd ((XK i l).tail.tail.headD PV.nil)),vI (Zd ((XK i l).tail.tail.tail.headD PV.nil)),vI (Zd ((XK i l).tail.tail.tail.tail.headD PV.nil)),vI (Zd ((XK i l).tail.tail.tail.tail.tail.headD PV.nil)),vI (Zd ((XK i l).tail.tail.tail.tail.tail.tail.headD PV.nil)),vI (Zd ((XK i l).tail.tail.tail.tail.tail.tail.tail.headD PV.nil)),vI (Zd ((XK i l).tail.tail.tail.tail.tail.tail.tail.tail.headD PV.nil)),vI (Zd ((XK i l).tail.tail.tail.tail.tail.tail.tail.tail.tail.headD PV.nil)),vI (Zd ((XK i l).tail.tail.tail.tail.tail.tail.tail.tail.tail.tail.headD PV.nil)),vI (Zd ((XK i l).tail.tail.tail.tail.tail.tail.tail.tail.tail.tail.tail.headD PV.nil)),vI (Zd ((XK i l).tail.tail.tail.tail.tail.tail.tail.tail.tail.tail.tail.tail.headD PV.nil))])],[],[],[]⟩) else Q (Ex.normal) (some ⟨21,[(4,AV.ptr 4 0),(10,AV.p (vI (IntKind.i64.wrap (i+(1:Int))))),(8,AV.p (PV.lst (List.map Glass.enc l))),(1,AV.p (PV.str n)),(9,pI m)],[(4,(Zbz z))],[],[],[]⟩))) else Q (Ex.exit (0:Nat)) (some ⟨21,[(4,AV.ptr 4 0)],[(4,(Zbz z))],[],[],[]⟩))) (fun _=>by kernel_rfl) ?_
  delta XK Zbz vI vB pI
  refine Zc (fun h0=>⟨?r0,Zc (fun h1=> .inr ⟨by simp,_,rfl, ?_⟩) (fun h1=> .inl ⟨rfl,(IntKind.i64.wrap (i+(1:Int)),l,n,m,z),rfl, ?_, ?_, ?_⟩)⟩) (fun h0=> .inr ⟨by simp,_,rfl, ?_⟩)
  case r0=>first | rfl | (rw[Zp];done) | (obtain ⟨a1,a2,a3,a4⟩:=hx;simp only[Qk_,Qc_] at h0;exact Zu (fun _=>rfl) (by omega) (by omega))
  all_goals try dsimp only[U5]
  all_goals (obtain ⟨a1,a2,a3,a4⟩:=hx;try simp only[Qk_,Qc_,Qe_] at h0)
  all_goals first | (have hk:i < l.length:=(by omega);obtain ⟨x,t,e1,e2,e3⟩:=Yi (l:=l) a1 (by omega);simp only[Yt e3] at *;have en:ZV (l.drop i.toNat) n=bif x.name==n then (x,true) else ZV t n:=(by rw[e1];rfl)) | skip
  all_goals try rw[Zg (show Fit (i+1) by constructor<;>omega)]
  all_goals try simp only[U5,Jn,Jo,Ze5,Ze4]
  ·change (x.name==n)=true at h1
   exact .inl ⟨by rw[en,h1];rfl,by trivial,by rw[en,h1];rfl⟩
  ·exact ⟨by omega,by omega,a3,a4⟩
  ·omega
  ·change (x.name==n)=false at h1
   rw[en,e2,h1];exact fun e s h=>h
  ·exact .inr ⟨by rw[Q0_ (by omega)];rfl,by trivial,by trivial⟩
theorem Zr6:Yd Tryz.prog [(3,ZiN)] Tryz.f119:=Yh (l:=[ZE Tryz.f119 0]) (by kernel_rfl) (Yr (i:=3) (by kernel_rfl) rfl Zp0 (ZC))
def ZbC:=G3.mk (Dec.mk (0:Int) (0:Int)) (Dec.mk (0:Int) (0:Int)) (Dec.mk (0:Int) (0:Int))
def ZeD(l:List Glass):=Ze Glass.dec (List.map Glass.enc l)
theorem Zr7:Zk Tryz.prog 119 ZwI:=Zm<|Zh fun l=>Zh fun n=>EZ1 fun hp0=>by
 refine cfL ZlX Zr6 rfl ?_
 refine sxT (fun Q=>((List.map Glass.enc l=List.map Glass.enc (ZeD l))∧(([PV.str [],vI 0,vI 0,vI 0,vI 0,vI 0,vI 0,vI 0,vI 0,vI 0,vI 0,vI 0,vI 0]=(Glass.mk [] ZbC ZbC).enc)∧((Jn (0:Int) (ZeD l) n (↑(List.map Glass.enc l).length) (Glass.mk [] ZbC ZbC))∧(bif Jo (0:Int) (ZeD l) n (↑(List.map Glass.enc l).length) (Glass.mk [] ZbC ZbC) then Q (PV.tup [PV.agg (Zbz (ZV (List.drop (0:Nat) (ZeD l)) n).fst),vB true]) else Q (PV.tup [PV.agg [PV.str ([]),vI 0,vI 0,vI 0,vI 0,vI 0,vI 0,vI 0,vI 0,vI 0,vI 0,vI 0,vI 0],vB false])))))) (fun _=>by kernel_rfl) ?_
 delta Qn ZbC ZeD Zbz vI vB
 refine ⟨?r1,⟨?r0,⟨?_,Zc (fun h0=>?_) (fun h0=>?_)⟩⟩⟩
 case r0|r1=>first | rfl | (rw[Zp];done) | (obtain ⟨a1,a2,a3,a4⟩:=hx;simp only[Qk_,Qc_] at h0;exact Zu (fun _=>rfl) (by omega) (by omega))
 all_goals simp only[Jn,Jo,Zp,QO_,QG_] at *
 ·exact ⟨by omega,by omega,hp0,by simp⟩
 ·obtain ⟨A,hA⟩:∃A,ZV l n=A:=⟨_,rfl⟩
  rw[hA] at h0 ⊢
  obtain ⟨g,b⟩:=A
  simp only at h0
  subst h0;rfl
 ·rw[Zep h0];rfl
theorem ZvE:Zk Tryz.prog 134 ZwJ:=Zm<|Zh fun n=>Zh fun g=>EZ1 fun hp0=>by
 refine cf0 (Zb Zr7<|Zf) (fn:=Tryz.f134) rfl ?_
 refine sxT (fun Q=>((List.map Glass.enc g=List.map Glass.enc (Ze Glass.dec (List.map Glass.enc g)))∧(((Ze Glass.dec (List.map Glass.enc g)).length≤(140737488355328:Nat))∧(bif (ZV (Ze Glass.dec (List.map Glass.enc g)) n).snd then Q (vB true) else Q (vB (n==[(97:UInt8),(105:UInt8),(114:UInt8)])))))) (fun _=>by kernel_rfl) ?_
 delta Qn vB
 refine ⟨?r1,⟨?r0,Zc (fun h0=>?_) (fun h0=>?_)⟩⟩
 case r0|r1=>first | rfl | (rw[Zp];done) | (simp only[Zp];omega)
 all_goals simp only[Zp] at *
 all_goals simp only[Zhc, *,Q4_,Qw_]
 all_goals rfl
theorem Zwc:Zk Tryz.prog 76 e76:=Zm<|Zh fun f=>Zh fun g=>EZ1 fun hp0=>by
 refine cf0 (Zb Zt9<|Zb Zr5<|Zb ZvC<|Zb ZvD<|Zb ZtA<|Zb ZvE<|Zf) (fn:=Tryz.f76) rfl ?_
 refine sxT (fun Q=>(bif !WR f.aperture then Q (vB false) else (bif !printable f.thick then Q (vB false) else (bif Y9 f.thick Z8 then Q (vB false) else (bif f.stop then Q (vB (f.stop==true&&(f.radius.c==(0:Int)&&(f.radius.scale==(0:Int)&&(f.aperture.c==f.aperture.c&&(f.aperture.scale==f.aperture.scale&&(f.thick.c==f.thick.c&&(f.thick.scale==f.thick.scale&&(f.conic.c==(0:Int)&&(f.conic.scale==(0:Int)&&(f.a4.c==(0:Int)&&(f.a4.scale==(0:Int)&&(f.a6.c==(0:Int)&&(f.a6.scale==(0:Int)&&(f.glass==[]&&true))))))))))))))) else (bif printable f.radius then (bif ZoH f.radius f.aperture then (bif printable f.conic then (bif printable f.a4 then (bif printable f.a6 then (bif ZcA f.glass then ((List.map Glass.enc g=List.map Glass.enc (Ze Glass.dec (List.map Glass.enc g)))∧(((Ze Glass.dec (List.map Glass.enc g)).length≤(140737488355328:Nat))∧Q (vB (Zhc f.glass (Ze Glass.dec (List.map Glass.enc g)))))) else Q (vB false)) else Q (vB false)) else Q (vB false)) else Q (vB false)) else Q (vB false)) else Q (vB false))))))) (fun _=>by kernel_rfl) ?_
 delta Qn vB
 refine Zc (fun h0=>?_) (fun h0=>Zc (fun h1=>?_) (fun h1=>Zc (fun h2=>?_) (fun h2=>Zc (fun h3=>?_) (fun h3=>Zc (fun h4=>Zc (fun h5=>Zc (fun h6=>Zc (fun h7=>Zc (fun h8=>Zc (fun h9=>⟨?r1,⟨?r0, ?_⟩⟩) (fun h9=>?_)) (fun h8=>?_)) (fun h7=>?_)) (fun h6=>?_)) (fun h5=>?_)) (fun h4=>?_)))))
 case r0|r1=>first | rfl | (rw[Zp];done) | (simp only[Zp];omega) | (simp only[Face.enc];rfl)
 all_goals (try simp only[Zp,Qi_,Qf_] at *)
 all_goals simp only[ZR, *,Qp_,Ql_,Qr_,Qn_,Qu_,Qt_,Q4_,Qw_,Q5_,Q3_,Qb_,Qd_]
 all_goals first | rfl | (simp only[beq_self_eq_true,Qp_,ZoI,Zdj,Bool.and_assoc,Qr_];rfl) | (simp only[ZoI,Zdj,Qr_,Bool.and_assoc, *,Qp_,Ql_,Qr_,Qn_,Qu_,Qt_,Q4_,Qw_,Q5_,Q3_,Qb_,Qd_];first | done | rfl) | skip
def Zj8(g:GL):=Ze Glass.dec (List.map Glass.enc g.g)
theorem ZtB:Zk Tryz.prog 75 e75:=Zm<|Zh fun f=>Zh fun g=>EZ1 fun hp0=>by
 refine cf0 (Zb Zwc<|Zf) (fn:=Tryz.f75) rfl ?_
 refine sxT (fun Q=>(((Ztx f)=f.enc)∧((List.map Glass.enc g.g=List.map Glass.enc (Zj8 g))∧(((Zj8 g).length≤(140737488355328:Nat))∧Q (vB (!ZR f (Zj8 g))))))) (fun _=>by kernel_rfl) ?_
 delta Qn Zj8 Ztx vI vB
 refine ⟨?r2,⟨?r1,⟨?r0, ?_⟩⟩⟩
 case r0|r1|r2=>first | rfl | (rw[Zp];done) | (simp only[Zp];omega) | skip
 all_goals simp only[Zp]
 all_goals rfl
theorem Zp1:Zk Tryz.prog 77 e77:=Zm<|Zh fun f=>EZ0<|by
 refine cf0 Zf (fn:=Tryz.f77) rfl ?_
 refine sxT (fun Q=>Q (vB (!f.stop))) (fun _=>by kernel_rfl) ?_
 delta Qn vB
 refine ?_
 all_goals (try simp only[Qi_,Qf_,bne] at *)
 all_goals first | rfl | (simp only[Z1,Zv,List.foldl,Qr_,Qp_,Ql_,Qn_,Q5_,Q4_,Qw_,Q3_,Qu_,Qt_,Qb_,Qd_,QD_,Q8_, *];done) | (simp only[Z1,Zv,List.foldl,Qr_,Qp_,Ql_,Qn_,Q5_,Q4_,Qw_,Q3_,Qu_,Qt_,Qb_,Qd_,QD_,Q8_, *];first | rfl | (simp only[nz,nzA,nz1,QE_,QN_,Iv.enc,V.enc,Ray.enc, *];first | done | rfl)) | (simp_all[nz,nzA,nz1,Iv.enc,V.enc,Ray.enc,Dec.enc,Shape.enc,none',told,K2_];done) | (simp_all[nz,nzA,nz1,Iv.enc,V.enc,Ray.enc,Dec.enc,Shape.enc,none',told,K2_];omega) | (simp_all[nz,nzA,nz1,Iv.enc,V.enc,Ray.enc,Dec.enc,Shape.enc,none',told,K2_];(repeat' split)<;>(first | rfl | (exfalso;omega) | (simp_all;done) | omega))
def ZvF:=Xb [(75,e75)]
def X3(i:Int)(l:List Face):=(List.map Face.enc l).getD i.toNat []
def Zj9(g:GL):=Ze Glass.dec (List.map Glass.enc g.g)
theorem ZnE:CSOk Tryz.prog ZvF:=Zb ZtB<|Zf
theorem Zr8:Yq Tryz.prog (ZE Tryz.f130 0) ZfP:=by
 refine Jc Zx.Γ (ZQ Zx ZnE ZZ Ya Yl (LS:=[]) (Y8 (l:=[]) (by kernel_rfl) ZC) (n:=2000) (U4 Zlu) (U4 JX) (fun x e s=>((U4 Wx x=true∧e= .ret∧s=U4 Zdw x)∨(U4 Wx x=false∧e= .exit 0∧s=U4 ZfO x))) (fun x=>(x.2.2.2 - x.1).toNat) ZfN Zrb Zrc (fun x hx=>?_)) ZfN ?_
 ·obtain ⟨i,l,g,m⟩:=x
  simp only[U4,JX] at hx
  refine sxT (fun Q=>(bif decide (i < m) then (((0:Int)≤i∧(List.map Face.enc l)[i.toNat]?=some (Yx [vB false,vI 0,vI 0,vI 0,vI 0,vI 0,vI 0,vI 0,vI 0,vI 0,vI 0,vI 0,vI 0,PV.str []] (X3 i l)))∧(([vB (Zz ((X3 i l).headD PV.nil)),vI (Zd ((X3 i l).tail.headD PV.nil)),vI (Zd ((X3 i l).tail.tail.headD PV.nil)),vI (Zd ((X3 i l).tail.tail.tail.headD PV.nil)),vI (Zd ((X3 i l).tail.tail.tail.tail.headD PV.nil)),vI (Zd ((X3 i l).tail.tail.tail.tail.tail.headD PV.nil)),vI (Zd ((X3 i l).tail.tail.tail.tail.tail.tail.headD PV.nil)),vI (Zd ((X3 i l).tail.tail.tail.tail.tail.tail.tail.headD PV.nil)),vI (Zd ((X3 i l).tail.tail.tail.tail.tail.tail.tail.tail.headD PV.nil)),vI (Zd ((X3 i l).tail.tail.tail.tail.tail.tail.tail.tail.tail.headD PV.nil)),vI (Zd ((X3 i l).tail.tail.tail.tail.tail.tail.tail.tail.tail.tail.headD PV.nil)),vI (Zd ((X3 i l).tail.tail.tail.tail.tail.tail.tail.tail.tail.tail.tail.headD PV.nil)),vI (Zd ((X3 i l).tail.tail.tail.tail.tail.tail.tail.tail.tail.tail.tail.tail.headD PV.nil)),PV.str (We ((X3 i l).tail.tail.tail.tail.tail.tail.tail.tail.tail.tail.tail.tail.tail.headD PV.nil))]=(Face.dec (X3 i l)).enc)∧((g.enc=(GL.mk (Zj9 g)).enc)∧(((Zj9 g).length≤(140737488355328:Nat))∧(bif !ZR (Face.dec (X3 i l)) (Zj9 g) then Q (Ex.ret) (some ⟨19,[(4,pI i)],[],[],[],[]⟩) else Q (Ex.normal) (some ⟨19,[(8,AV.p (vI (IntKind.i64.wrap (i+(1:Int))))),(0,AV.p (PV.lst (List.map Face.enc l))),(1,AV.p (PV.fn (75:FuncId) [PV.lptr [PV.lst (List.map Glass.enc g.g)] 0])),(7,pI m)],[],[],[],[]⟩)))))) else Q (Ex.exit (0:Nat)) (some ⟨19,[],[],[],[],[]⟩))) (fun _=>by kernel_rfl) ?_
  delta X3 Zj9 vI vB pI
  refine Zc (fun h0=>⟨?r3,⟨?r2,⟨?r1,⟨?r0,Zc (fun h1=> .inr ⟨by simp,_,rfl, ?_⟩) (fun h1=> .inl ⟨rfl,(IntKind.i64.wrap (i+(1:Int)),l,g,m),rfl, ?_, ?_, ?_⟩)⟩⟩⟩⟩) (fun h0=> .inr ⟨by simp,_,rfl, ?_⟩)
  case r0|r1|r2|r3=>first | rfl | (simp only[GL.enc,Zp];done) | (rw[Zca];done) | (rw[Z9];done) | (simp only[Z9,Zp,Zca];first | done | omega | exact hp0) | (obtain ⟨a1,a2,a3,a4,a5⟩:=hx;simp only[Zp];omega) | omega | (obtain ⟨a1,a2,a3,a4,a5⟩:=hx;simp only[Qc_] at h0;exact Zu (fun _=>rfl) (by omega) (by omega)) | (obtain ⟨a1,a2,a3,a4,a5⟩:=hx;simp only[Qc_] at h0;obtain ⟨x,r,e1,e2,e3⟩:=Yi (l:=l) a1 (by omega);rw[Yt e3];rfl) | (simp[Ze];done) | skip
  all_goals try dsimp only[U4]
  all_goals (try obtain ⟨a1,a2,a3,a4,a5⟩:=hx)
  all_goals (try simp only[Qc_,Qe_] at h0)
  ·obtain ⟨x,r,e1,e2,e3⟩:=Yi (l:=l) a1 (by omega)
   rw[Yt e3] at h1
   try rw[Zp] at h1
   refine .inl ⟨?_,rfl, ?_⟩
   ·simp only[U4,Wx,e1,QU_]
    rw[show (!ZR x g.g)=true from h1];rfl
   ·simp only[U4,Zdw,e1,YT]
    rw[show (!ZR x g.g)=true from h1];rfl
  ·rw[Zg (by constructor<;>omega)];simp only[U4,JX];omega
  ·show (m - IntKind.i64.wrap (i+1)).toNat < (m - i).toNat
   rw[Zg (by constructor<;>omega)];omega
  ·obtain ⟨x,r,e1,e2,e3⟩:=Yi (l:=l) a1 (by omega)
   rw[Yt e3] at h1
   try rw[Zp] at h1
   have hp:(!ZR x g.g)=false:=h1
   rw[Zg (by constructor<;>omega)]
   simp only[U4,Wx,Zdw,ZfO,e1,e2,QU_,hp,Qw_,YT,Qd_]
   exact fun e s h=>h
  ·refine .inr ⟨?_,rfl,rfl⟩
   simp only[U4,Wx]
   rw[Q0_ (by omega)];rfl
 ·intro σ K hS
  unfold ZfP at hS
  split at hS
  ·rename_i p1 p2 p3 p4 hk
   obtain ⟨hi,hK⟩:=Xi hS
   refine ⟨(p1,(Ze Face.dec p2),(GL.dec p3),p4),by
    simp only[Zlu]
    rw[←(show p2=(Ze Face.dec p2).map Face.enc from hi _ (by simp))]
    rw[←(show p3=GL.enc (GL.dec p3) from hi _ (by simp))]
    exact hk,hi _ (by simp),fun e s hf=>?_⟩
   dsimp only[U4] at hf
   rcases hf with ⟨hc,rfl,rfl⟩ | ⟨hc,hf⟩
   ·rw[hc] at hK;exact hK
   ·rw[hc] at hK;obtain ⟨rfl,rfl⟩:=hf;exact hK
  ·exact hS.elim
theorem ZsV:Yd Tryz.prog [(3,ZfP)] Tryz.f130:=Yh (l:=[ZE Tryz.f130 0]) (by kernel_rfl) (Yr (i:=3) (by kernel_rfl) rfl Zr8 (ZC))
def ZjA(g:GL):=GL.mk (Ze Glass.dec (List.map Glass.enc g.g))
def Zhs(l:List Face):=Ze Face.dec (List.map Face.enc l)
theorem ZsW(l:List Face)(g:GL)(hp0:l.length≤140737488355328∧g.g.length≤140737488355328):Con Tryz.prog 130 [.lst (l.map Face.enc),.fn 75 [.lptr (GL.enc g) 0]] (.v (.int .i64 (YT (fun f=> !ZR f g.g) l 0))):=by
 refine cfL ZnE ZsV rfl ?_
 refine sxT (fun Q=>((List.map Face.enc l=List.map Face.enc (Zhs l))∧((g.enc=(ZjA g).enc)∧((JX (0:Int) (Zhs l) (ZjA g) ↑(List.map Face.enc l).length)∧(bif Wx (0:Int) (Zhs l) (ZjA g) ↑(List.map Face.enc l).length then Q (vI (YT (fun f=> !ZR f (GL.dec g.enc).g) (List.drop (0:Nat) (Zhs l)) (0:Int))) else Q (vI (-1))))))) (fun _=>by kernel_rfl) ?_
 delta Qn ZjA Zhs vI
 refine ⟨?r1,⟨?r0,⟨?_,Zc (fun h0=>?_) (fun h0=>?_)⟩⟩⟩
 case r0|r1=>first | rfl | (simp only[GL.enc,Zp];done) | (rw[Zca];done) | (rw[Z9];done) | (simp only[Z9,Zp,Zca];first | done | omega | exact hp0) | (obtain ⟨a1,a2,a3,a4,a5⟩:=hx;simp only[Zp];omega) | omega | (obtain ⟨a1,a2,a3,a4,a5⟩:=hx;simp only[Qc_] at h0;exact Zu (fun _=>rfl) (by omega) (by omega)) | (obtain ⟨a1,a2,a3,a4,a5⟩:=hx;simp only[Qc_] at h0;obtain ⟨x,r,e1,e2,e3⟩:=Yi (l:=l) a1 (by omega);rw[Yt e3];rfl) | (simp[Ze];done) | skip
 all_goals simp only[Z9,Zp,Zca,Qk_] at *
 ·simp only[JX,Qk_,true_and];omega
 ·simp[nz,nzA]
 ·rw[ZeZ (by simpa [Wx] using h0)];rfl
theorem ZsX:Zk Tryz.prog 130 Zlk:=by
 intro args r ps h hp
 unfold Zlk at h
 split at h
 ·rename_i p1 p2
  cases (Qa_ h)
  exact by
   have hq:=ZsW (Ze Face.dec p1) (GL.dec p2) (hp _ (by simp))
   rw[←(show p1=(Ze Face.dec p1).map Face.enc from hp _ (by simp))] at hq
   rw[←(show p2=GL.enc (GL.dec p2) from hp _ (by simp))] at hq
   exact hq
 ·exact absurd h (by simp)
def ZvG:=Xb [(77,e77)]
def X4(i:Int)(l:List Face):=(List.map Face.enc l).getD i.toNat []
theorem ZnF:CSOk Tryz.prog ZvG:=Zb Zp1<|Zf
theorem Zr9:Yq Tryz.prog (ZE Tryz.f130 0) ZfS:=by
 refine Jc Zx.Γ (ZQ Zx ZnF ZZ Ya Yl (LS:=[]) (Y8 (l:=[]) (by kernel_rfl) ZC) (n:=2000) (U3 Zlv) (U3 JY) (fun x e s=>((U3 Wy x=true∧e= .ret∧s=U3 Zdx x)∨(U3 Wy x=false∧e= .exit 0∧s=U3 ZfR x))) (fun x=>(x.2.2 - x.1).toNat) ZfQ Zrd Zre (fun x hx=>?_)) ZfQ ?_
 ·obtain ⟨i,l,m⟩:=x
  simp only[U3,JY] at hx
  refine sxT (fun Q=>(bif decide (i < m) then (((0:Int)≤i∧(List.map Face.enc l)[i.toNat]?=some (Yx [vB false,vI 0,vI 0,vI 0,vI 0,vI 0,vI 0,vI 0,vI 0,vI 0,vI 0,vI 0,vI 0,PV.str []] (X4 i l)))∧(([vB (Zz ((X4 i l).headD PV.nil)),vI (Zd ((X4 i l).tail.headD PV.nil)),vI (Zd ((X4 i l).tail.tail.headD PV.nil)),vI (Zd ((X4 i l).tail.tail.tail.headD PV.nil)),vI (Zd ((X4 i l).tail.tail.tail.tail.headD PV.nil)),vI (Zd ((X4 i l).tail.tail.tail.tail.tail.headD PV.nil)),vI (Zd ((X4 i l).tail.tail.tail.tail.tail.tail.headD PV.nil)),vI (Zd ((X4 i l).tail.tail.tail.tail.tail.tail.tail.headD PV.nil)),vI (Zd ((X4 i l).tail.tail.tail.tail.tail.tail.tail.tail.headD PV.nil)),vI (Zd ((X4 i l).tail.tail.tail.tail.tail.tail.tail.tail.tail.headD PV.nil)),vI (Zd ((X4 i l).tail.tail.tail.tail.tail.tail.tail.tail.tail.tail.headD PV.nil)),vI (Zd ((X4 i l).tail.tail.tail.tail.tail.tail.tail.tail.tail.tail.tail.headD PV.nil)),vI (Zd ((X4 i l).tail.tail.tail.tail.tail.tail.tail.tail.tail.tail.tail.tail.headD PV.nil)),PV.str (We ((X4 i l).tail.tail.tail.tail.tail.tail.tail.tail.tail.tail.tail.tail.tail.headD PV.nil))]=(Face.dec (X4 i l)).enc)∧(bif !(Face.dec (X4 i l)).stop then Q (Ex.ret) (some ⟨19,[(4,pI i)],[],[],[],[]⟩) else Q (Ex.normal) (some ⟨19,[(8,AV.p (vI (IntKind.i64.wrap (i+(1:Int))))),(0,AV.p (PV.lst (List.map Face.enc l))),(1,AV.p (PV.fn (77:FuncId) [])),(7,pI m)],[],[],[],[]⟩)))) else Q (Ex.exit (0:Nat)) (some ⟨19,[],[],[],[],[]⟩))) (fun _=>by kernel_rfl) ?_
  delta X4 vI vB pI
  refine Zc (fun h0=>⟨?r1,⟨?r0,Zc (fun h1=> .inr ⟨by simp,_,rfl, ?_⟩) (fun h1=> .inl ⟨rfl,(IntKind.i64.wrap (i+(1:Int)),l,m),rfl, ?_, ?_, ?_⟩)⟩⟩) (fun h0=> .inr ⟨by simp,_,rfl, ?_⟩)
  case r0|r1=>first | rfl | (rw[Z9];done) | (simp only[Z9];first | done | omega | exact hp0) | omega | (obtain ⟨a1,a2,a3,a4⟩:=hx;simp only[Qc_] at h0;exact Zu (fun _=>rfl) (by omega) (by omega)) | (obtain ⟨a1,a2,a3,a4⟩:=hx;simp only[Qc_] at h0;obtain ⟨x,r,e1,e2,e3⟩:=Yi (l:=l) a1 (by omega);rw[Yt e3];rfl) | (simp[Ze];done) | skip
  all_goals try dsimp only[U3]
  all_goals (try obtain ⟨a1,a2,a3,a4⟩:=hx)
  all_goals (try simp only[Qc_,Qe_] at h0)
  ·obtain ⟨x,r,e1,e2,e3⟩:=Yi (l:=l) a1 (by omega)
   rw[Yt e3] at h1
   try rw[Zp] at h1
   refine .inl ⟨?_,rfl, ?_⟩
   ·simp only[U3,Wy,e1,QU_]
    rw[show (!x.stop)=true from h1];rfl
   ·simp only[U3,Zdx,e1,YT]
    rw[show (!x.stop)=true from h1];rfl
  ·rw[Zg (by constructor<;>omega)];simp only[U3,JY];omega
  ·show (m - IntKind.i64.wrap (i+1)).toNat < (m - i).toNat
   rw[Zg (by constructor<;>omega)];omega
  ·obtain ⟨x,r,e1,e2,e3⟩:=Yi (l:=l) a1 (by omega)
   rw[Yt e3] at h1
   try rw[Zp] at h1
   have hp:(!x.stop)=false:=h1
   rw[Zg (by constructor<;>omega)]
   simp only[U3,Wy,Zdx,ZfR,e1,e2,QU_,hp,Qw_,YT,Qd_]
   exact fun e s h=>h
  ·refine .inr ⟨?_,rfl,rfl⟩
   simp only[U3,Wy]
   rw[Q0_ (by omega)];rfl
 ·intro σ K hS
  unfold ZfS at hS
  split at hS
  ·rename_i p1 p2 p3 hk
   obtain ⟨hi,hK⟩:=Xi hS
   refine ⟨(p1,(Ze Face.dec p2),p3),by
    simp only[Zlv]
    rw[←(show p2=(Ze Face.dec p2).map Face.enc from hi _ (by simp))]
    exact hk,hi _ (by simp),fun e s hf=>?_⟩
   dsimp only[U3] at hf
   rcases hf with ⟨hc,rfl,rfl⟩ | ⟨hc,hf⟩
   ·rw[hc] at hK;exact hK
   ·rw[hc] at hK;obtain ⟨rfl,rfl⟩:=hf;exact hK
  ·exact hS.elim
theorem ZsY:Yd Tryz.prog [(3,ZfS)] Tryz.f130:=Yh (l:=[ZE Tryz.f130 0]) (by kernel_rfl) (Yr (i:=3) (by kernel_rfl) rfl Zr9 (ZC))
def Zht(l:List Face):=Ze Face.dec (List.map Face.enc l)
theorem ZsZ(l:List Face)(hp0:l.length≤140737488355328):Con Tryz.prog 130 [.lst (l.map Face.enc),.fn 77 []] (.v (.int .i64 (YT (fun f=> !f.stop) l 0))):=by
 refine cfL ZnF ZsY rfl ?_
 refine sxT (fun Q=>((List.map Face.enc l=List.map Face.enc (Zht l))∧((JY (0:Int) (Zht l) ↑(List.map Face.enc l).length)∧(bif Wy (0:Int) (Zht l) ↑(List.map Face.enc l).length then Q (vI (YT (fun f=> !f.stop) (List.drop (0:Nat) (Zht l)) (0:Int))) else Q (vI (-1)))))) (fun _=>by kernel_rfl) ?_
 delta Qn Zht vI
 refine ⟨?r0,⟨?_,Zc (fun h0=>?_) (fun h0=>?_)⟩⟩
 case r0=>first | rfl | (rw[Z9];done) | (simp only[Z9];first | done | omega | exact hp0) | omega | (obtain ⟨a1,a2,a3,a4⟩:=hx;simp only[Qc_] at h0;exact Zu (fun _=>rfl) (by omega) (by omega)) | (obtain ⟨a1,a2,a3,a4⟩:=hx;simp only[Qc_] at h0;obtain ⟨x,r,e1,e2,e3⟩:=Yi (l:=l) a1 (by omega);rw[Yt e3];rfl) | (simp[Ze];done) | skip
 all_goals simp only[Z9,Qk_] at *
 ·simp only[JY,Qk_,true_and];omega
 ·simp[nz,nzA]
 ·rw[ZeZ (by simpa [Wy] using h0)];rfl
theorem Zta:Zk Tryz.prog 130 Zll:=by
 intro args r ps h hp
 unfold Zll at h
 split at h
 ·rename_i p1
  cases (Qa_ h)
  exact by
   have hq:=ZsZ (Ze Face.dec p1) (hp _ (by simp))
   rw[←(show p1=(Ze Face.dec p1).map Face.enc from hp _ (by simp))] at hq
   exact hq
 ·exact absurd h (by simp)
theorem ZrA:Zk Tryz.prog 130 ZwK:=Zem ZsX (Zta)
theorem Ztb(l:List Face)(g:GL)(hp0:l.length≤140737488355328∧g.g.length≤140737488355328):Con Tryz.prog 74 [.lst (l.map Face.enc),.fn 75 [.lptr (GL.enc g) 0]] (.v (.bool (l.any (fun f=> !ZR f g.g)))):=by
 refine cf0 (Zb ZrA<|Zb ZtB<|Zf) (fn:=Tryz.f74) rfl ?_
 refine sxT (fun Q=>((List.map Face.enc l=List.map Face.enc (Ze Face.dec (List.map Face.enc l)))∧((g.enc=(GL.mk (Ze Glass.dec (List.map Glass.enc g.g))).enc)∧(((Ze Face.dec (List.map Face.enc l)).length≤(140737488355328:Nat)∧(Ze Glass.dec (List.map Glass.enc g.g)).length≤(140737488355328:Nat))∧Q (vB (decide (YT (fun f=> !ZR f (GL.dec g.enc).g) (Ze Face.dec (List.map Face.enc l)) (0:Int)≥(0:Int)))))))) (fun _=>by kernel_rfl) ?_
 delta Qn vB
 refine ⟨?r2,⟨?r1,⟨?r0, ?_⟩⟩⟩
 case r0|r1|r2=>first | rfl | (simp only[GL.enc,Zp];done) | (rw[Zca];done) | (rw[Z9];done) | (simp only[Z9,Zp,Zca];first | done | omega | exact hp0) | (obtain ⟨a1,a2,a3,a4,a5⟩:=hx;simp only[Zp];omega) | omega | (simp[Ze];done) | skip
 simp only[Z9,Zp,Zca] at *
 simp only[nz,nzA]
 rw[Zfa (by omega)]
theorem Ztc:Zk Tryz.prog 74 Zlm:=by
 intro args r ps h hp
 unfold Zlm at h
 split at h
 ·rename_i p1 p2
  cases (Qa_ h)
  exact by
   have hq:=Ztb (Ze Face.dec p1) (GL.dec p2) (hp _ (by simp))
   rw[←(show p1=(Ze Face.dec p1).map Face.enc from hp _ (by simp))] at hq
   rw[←(show p2=GL.enc (GL.dec p2) from hp _ (by simp))] at hq
   exact hq
 ·exact absurd h (by simp)
theorem Ztd(l:List Face)(hp0:l.length≤140737488355328):Con Tryz.prog 74 [.lst (l.map Face.enc),.fn 77 []] (.v (.bool (l.any (fun f=> !f.stop)))):=by
 refine cf0 (Zb ZrA<|Zb Zp1<|Zf) (fn:=Tryz.f74) rfl ?_
 refine sxT (fun Q=>((List.map Face.enc l=List.map Face.enc (Ze Face.dec (List.map Face.enc l)))∧(((Ze Face.dec (List.map Face.enc l)).length≤(140737488355328:Nat))∧Q (vB (decide (YT (fun f=> !f.stop) (Ze Face.dec (List.map Face.enc l)) (0:Int)≥(0:Int))))))) (fun _=>by kernel_rfl) ?_
 delta Qn vB
 refine ⟨?r1,⟨?r0, ?_⟩⟩
 case r0|r1=>first | rfl | (rw[Z9];done) | (simp only[Z9];first | done | omega | exact hp0) | omega | (simp[Ze];done) | skip
 simp only[Z9] at *
 simp only[nz,nzA]
 rw[Zfa (by omega)]
theorem Zte:Zk Tryz.prog 74 Zln:=by
 intro args r ps h hp
 unfold Zln at h
 split at h
 ·rename_i p1
  cases (Qa_ h)
  exact by
   have hq:=Ztd (Ze Face.dec p1) (hp _ (by simp))
   rw[←(show p1=(Ze Face.dec p1).map Face.enc from hp _ (by simp))] at hq
   exact hq
 ·exact absurd h (by simp)
theorem Zwd:Zk Tryz.prog 74 e74:=Zem Ztc (Zte)
def Zd3(l:LensM):=Ze Face.dec (List.map Face.enc l.faces)
theorem Zwe:Zk Tryz.prog 30 e30:=Zm<|Zh fun l=>Zh fun g=>EZ1 fun hp0=>by
 refine cf0 (Zb Zwd<|Zb Zp1<|Zb ZtA<|Zb Zt9<|Zf) (fn:=Tryz.f30) rfl ?_
 refine sxT (fun Q=>((List.map Face.enc l.faces=List.map Face.enc (Zd3 l))∧(([PV.lst (List.map Glass.enc g)]=(GL.mk (Ze Glass.dec (List.map Glass.enc g))).enc)∧(((Zd3 l).length≤(140737488355328:Nat)∧(Ze Glass.dec (List.map Glass.enc g)).length≤(140737488355328:Nat))∧((List.map Face.enc l.faces=List.map Face.enc (Zd3 l))∧(((Zd3 l).length≤(140737488355328:Nat))∧(bif ZcA l.name then (bif WR l.back then (bif decide (↑(List.map Face.enc l.faces).length≤(12:Int)) then (bif (Zd3 l).any fun f=> !f.stop then Q (vB (!(Zd3 l).any fun f=> !ZR f (GL.dec [PV.lst (List.map Glass.enc g)]).g)) else Q (vB false)) else Q (vB false)) else Q (vB false)) else Q (vB false)))))))) (fun _=>by kernel_rfl) ?_
 delta Qn Zd3 vB
 refine ⟨?r4,⟨?r3,⟨?r2,⟨?r1,⟨?r0,Zc (fun h0=>Zc (fun h1=>Zc (fun h2=>Zc (fun h3=>?_) (fun h3=>?_)) (fun h2=>?_)) (fun h1=>?_)) (fun h0=>?_)⟩⟩⟩⟩⟩
 case r0|r1|r2|r3|r4=>first | rfl | (rw[Z9];done) | (simp only[GL.enc,Zp];done) | (simp only[GL.enc,GL.dec,Zp];rfl) | (simp only[Z9,GL.dec,Zp];omega) | (simp only[Z9,show (GL.dec [PV.lst (List.map Glass.enc g)]).g=Ze Glass.dec (List.map Glass.enc g) from rfl,Zp];omega) | skip
 all_goals (try simp only[Z9,show (GL.dec [PV.lst (List.map Glass.enc g)]).g=Ze Glass.dec (List.map Glass.enc g) from rfl,Zp,Qi_,Qf_,Qk_] at *)
 all_goals (try (have e:decide (l.faces.length≤12)=true:=(by simp only[Qc_] at h2;exact QH_ (by omega))))
 all_goals (try (have e:decide (l.faces.length≤12)=false:=(by simp only[Qe_] at h2;exact QQ_ (by omega))))
 all_goals simp only[XT,XS, *,Qp_,Ql_,Qr_,Qn_,Qu_,Qt_]
 all_goals first | rfl | skip
def q19_2:=[[vI 5876],[vI 4861],[vI 6563]]
theorem Zp2:Zk Tryz.prog 25 e25:=Zm<|Zh fun k=>EZ0<|by
 refine cf0 (Zb WY<|Zb Zj4<|Zf) (fn:=Tryz.f25) rfl ?_
 refine sxT (fun Q=>(bif decide (k < (0:Int)) then Q (PV.agg [vI 0,vI 0,vB true]) else (bif decide (k≥(3:Int)) then Q (PV.agg [vI 0,vI 0,vB true]) else (((0:Int)≤k∧q19_2[k.toNat]?=some (Yx [vI 0] (q19_2.getD k.toNat [])))∧Q (PV.agg (eIv (Z0 (Dec.mk (Zd ((q19_2.getD k.toNat []).headD PV.nil)) (4:Int))))))))) (fun _=>by kernel_rfl) ?_
 delta Qn q19_2 eIv vI vB
 refine Zc (fun h0=>?_) (fun h0=>Zc (fun h1=>?_) (fun h1=>⟨?r0, ?_⟩))
 case r0=>first | rfl | (simp only[Qe_] at *;have hk:k=0∨k=1∨k=2:=(by omega);rcases hk with rfl | rfl | rfl<;>exact ⟨by decide,rfl⟩) | skip
 all_goals simp only[Qe_,Qc_] at *
 ·have e0:(k==0)=false:=(by simp;omega);have e1:(k==1)=false:=(by simp;omega);have e2:(k==2)=false:=(by simp;omega)
  simp only[Zo,e0,e1,e2,Qd_];rfl
 ·have e0:(k==0)=false:=(by simp;omega);have e1:(k==1)=false:=(by simp;omega);have e2:(k==2)=false:=(by simp;omega)
  simp only[Zo,e0,e1,e2,Qd_];rfl
 ·have hk:k=0∨k=1∨k=2:=(by omega)
  rcases hk with rfl | rfl | rfl<;>rfl
theorem ZvH:Zk Tryz.prog 120 ZwL:=Zm<|Zh fun g=>Zh fun w=>EZ0<|by
 refine cf0 (Zb Zhh<|Zb Zrv<|Zb Zj4<|Zb Zt2<|Zb Zj2<|Zb Zj3<|Zb Zhi<|Zb Zvp<|Zf) (fn:=Tryz.f120) rfl ?_
 refine sxT (fun Q=>(bif g.name==[(97:UInt8),(105:UInt8),(114:UInt8)] then Q (PV.agg [vI 65536,vI 65536,vB false]) else (((0:Int)≤(0:Int)∧(0:Int) < (3:Int))∧(((0:Int)≤(0:Int)∧(0:Int) < (3:Int))∧(((0:Int)≤(1:Int)∧(1:Int) < (3:Int))∧(((0:Int)≤(1:Int)∧(1:Int) < (3:Int))∧(((0:Int)≤(2:Int)∧(2:Int) < (3:Int))∧(((0:Int)≤(2:Int)∧(2:Int) < (3:Int))∧Q (PV.agg (eIv (Zbu (add (add (add (point (65536:Int)) (Y5 (YI (Z0 g.b.a) (sqr w)) (sub (sqr w) (Z0 g.c.a)))) (Y5 (YI (Z0 g.b.b) (sqr w)) (sub (sqr w) (Z0 g.c.b)))) (Y5 (YI (Z0 g.b.c) (sqr w)) (sub (sqr w) (Z0 g.c.c))))))))))))))) (fun _=>by kernel_rfl) ?_
 delta Qn eIv vI vB
 refine Zc (fun h0=>?_) (fun h0=>⟨?r5,⟨?r4,⟨?r3,⟨?r2,⟨?r1,⟨?r0, ?_⟩⟩⟩⟩⟩⟩)
 case r0|r1|r2|r3|r4|r5=>first | rfl | exact ⟨by decide,by decide⟩ | skip
 ·have e:(g.name==Zdl)=true:=h0
  simp only[Zc9,e,Qb_];rfl
 ·have e:(g.name==Zdl)=false:=h0
  simp only[Zc9,e,Qd_,ZbW];rfl
def Zfj(g:List Glass):=Ze Glass.dec (List.map Glass.enc g)
theorem Zwf:Zk Tryz.prog 62 e62:=Zm<|Zh fun n=>Zh fun g=>Zh fun w=>EZ1 fun hp0=>by
 refine cf0 (Zb Zhh<|Zb Zr7<|Zb ZvH<|Zf) (fn:=Tryz.f62) rfl ?_
 refine sxT (fun Q=>(bif n==[(97:UInt8),(105:UInt8),(114:UInt8)] then Q (PV.agg [vI 65536,vI 65536,vB false]) else ((List.map Glass.enc g=List.map Glass.enc (Zfj g))∧(((Zfj g).length≤(140737488355328:Nat))∧(((Zbz (ZV (Zfj g) n).fst)=(ZV (Zfj g) n).fst.enc)∧Q (PV.agg (eIv (Zc9 (ZV (Zfj g) n).fst w)))))))) (fun _=>by kernel_rfl) ?_
 delta Qn Zfj eIv Zbz vI vB
 refine Zc (fun h0=>?_) (fun h0=>⟨?r2,⟨?r1,⟨?r0, ?_⟩⟩⟩)
 case r0|r1|r2=>first | rfl | (rw[Zp];done) | (simp only[Zp];omega) | skip
 all_goals (try simp only[Zp] at *)
 ·have e:(n==Zdl)=true:=h0
  simp only[Zbx,e,Qb_];rfl
 ·have e:(n==Zdl)=false:=h0
  simp only[Zbx,e,Qd_];rfl
def WE(f:Face):=add (point (65536:Int)) (Z0 f.conic)
def Zd4(f:Face):=Y5 (point (65536:Int)) (Z0 f.radius)
def WF(f:Face):=sqr (Z0 f.aperture)
theorem Zwg:Zk Tryz.prog 61 e61:=Zm<|Zh fun f=>EZ0<|by
 refine cf0 (Zb Zhh<|Zb Zj4<|Zb Zj3<|Zb Zhi<|Zb Zrv<|Zf) (fn:=Tryz.f61) rfl ?_
 refine sxT (fun Q=>(bif f.radius.c !=(0:Int) then (bif f.a4.c !=(0:Int) then Q (PV.agg [vB f.stop,vB true,vI (Zd4 f).lo,vI (Zd4 f).hi,vB (Zd4 f).no,vI (WE f).lo,vI (WE f).hi,vB (WE f).no,vI (Z0 f.a4).lo,vI (Z0 f.a4).hi,vB (Z0 f.a4).no,vI (Z0 f.a6).lo,vI (Z0 f.a6).hi,vB (Z0 f.a6).no,vI 0,vI 0,vB false,vI (WF f).lo,vI (WF f).hi,vB (WF f).no,vI 65536,vI 65536,vB false]) else Q (PV.agg [vB f.stop,vB (f.a6.c !=(0:Int)),vI (Zd4 f).lo,vI (Zd4 f).hi,vB (Zd4 f).no,vI (WE f).lo,vI (WE f).hi,vB (WE f).no,vI (Z0 f.a4).lo,vI (Z0 f.a4).hi,vB (Z0 f.a4).no,vI (Z0 f.a6).lo,vI (Z0 f.a6).hi,vB (Z0 f.a6).no,vI 0,vI 0,vB false,vI (WF f).lo,vI (WF f).hi,vB (WF f).no,vI 65536,vI 65536,vB false])) else (bif f.a4.c !=(0:Int) then Q (PV.agg [vB f.stop,vB true,vI 0,vI 0,vB false,vI (WE f).lo,vI (WE f).hi,vB (WE f).no,vI (Z0 f.a4).lo,vI (Z0 f.a4).hi,vB (Z0 f.a4).no,vI (Z0 f.a6).lo,vI (Z0 f.a6).hi,vB (Z0 f.a6).no,vI 0,vI 0,vB false,vI (WF f).lo,vI (WF f).hi,vB (WF f).no,vI 65536,vI 65536,vB false]) else Q (PV.agg [vB f.stop,vB (f.a6.c !=(0:Int)),vI 0,vI 0,vB false,vI (WE f).lo,vI (WE f).hi,vB (WE f).no,vI (Z0 f.a4).lo,vI (Z0 f.a4).hi,vB (Z0 f.a4).no,vI (Z0 f.a6).lo,vI (Z0 f.a6).hi,vB (Z0 f.a6).no,vI 0,vI 0,vB false,vI (WF f).lo,vI (WF f).hi,vB (WF f).no,vI 65536,vI 65536,vB false])))) (fun _=>by kernel_rfl) ?_
 delta Qn WE Zd4 WF vI vB
 refine Zc (fun h0=>Zc (fun h1=>?_) (fun h1=>?_)) (fun h0=>Zc (fun h1=>?_) (fun h1=>?_))
 all_goals (try simp only[Qi_,Qf_,bne] at *)
 all_goals first | (simp only[Zcb,Ztw,Zn5,bne, *,Qu_,Qt_,Qb_,Qd_,Q4_,Qw_,Zdj,Qp_,Ql_];first | done | rfl) | skip
theorem ZlY:Zk Tryz.prog 125 Zvj:=Zm<|Zh fun a=>EZ0<|by
 refine cf0 Zf (fn:=Tryz.f125) rfl ?_
 refine sxT (fun Q=>Q (vB a.no)) (fun _=>by kernel_rfl) ?_
 delta Qn vB
 refine ?_
 all_goals (try simp only[Qi_,Qf_,bne] at *)
 all_goals first | rfl | (simp only[a.no,Z1,Zv,List.foldl,Qr_,Qp_,Ql_,Qn_,Q5_,Q4_,Qw_,Q3_,Qu_,Qt_,Qb_,Qd_,QD_,Q8_, *];done) | (simp only[a.no,Z1,Zv,List.foldl,Qr_,Qp_,Ql_,Qn_,Q5_,Q4_,Qw_,Q3_,Qu_,Qt_,Qb_,Qd_,QD_,Q8_, *];first | rfl | (simp only[nz,nzA,nz1,QE_,QN_,Iv.enc,V.enc,Ray.enc, *];first | done | rfl)) | (simp_all[nz,nzA,nz1,Iv.enc,V.enc,Ray.enc,Dec.enc,Shape.enc,none',told,K2_,a.no];done) | (simp_all[nz,nzA,nz1,Iv.enc,V.enc,Ray.enc,Dec.enc,Shape.enc,none',told,K2_,a.no];omega) | (simp_all[nz,nzA,nz1,Iv.enc,V.enc,Ray.enc,Dec.enc,Shape.enc,none',told,K2_,a.no];(repeat' split)<;>(first | rfl | (exfalso;omega) | (simp_all;done) | omega))
def ZvI:=Xb [(125,Zvj)]
theorem ZnG:CSOk Tryz.prog ZvI:=Zb ZlY<|Zf
theorem ZrB:Yq Tryz.prog (ZE Tryz.f158 0) ZfV:=by
 refine Jc Zx.Γ (ZQ Zx ZnG ZZ Ya Yl (LS:=[]) (Y8 (l:=[]) (by kernel_rfl) ZC) (n:=2000) (U3 Zlw) (U3 JZ) (fun x e s=>((U3 Wz x=true∧e= .ret∧s=U3 Zdy x)∨(U3 Wz x=false∧e= .exit 0∧s=U3 ZfU x))) (fun x=>(x.2.2 - x.1).toNat) ZfT Zrf Zrg (fun x hx=>?_)) ZfT ?_
 ·obtain ⟨i,l,m⟩:=x
  simp only[U3,JZ] at hx
  refine sxT (fun Q=>(bif decide (i < m) then (((0:Int)≤i∧(List.map Iv.enc l)[i.toNat]?=some (Yx [vI 0,vI 0,vB false] ((List.map Iv.enc l).getD i.toNat [])))∧(bif (Iv.dec ((List.map Iv.enc l).getD i.toNat [])).no then Q (Ex.ret) (some ⟨19,[(4,pI i)],[],[],[],[]⟩) else Q (Ex.normal) (some ⟨19,[(8,AV.p (vI (IntKind.i64.wrap (i+(1:Int))))),(0,AV.p (PV.lst (List.map Iv.enc l))),(1,AV.p (PV.fn (125:FuncId) [])),(7,pI m)],[],[],[],[]⟩))) else Q (Ex.exit (0:Nat)) (some ⟨19,[],[],[],[],[]⟩))) (fun _=>by kernel_rfl) ?_
  delta vI vB pI
  refine Zc (fun h0=>⟨?r0,Zc (fun h1=> .inr ⟨by simp,_,rfl, ?_⟩) (fun h1=> .inl ⟨rfl,(IntKind.i64.wrap (i+(1:Int)),l,m),rfl, ?_, ?_, ?_⟩)⟩) (fun h0=> .inr ⟨by simp,_,rfl, ?_⟩)
  case r0=>first | rfl | (rw[dIv];done) | (simp only[dIv];first | done | omega | exact hp0) | omega | (obtain ⟨a1,a2,a3,a4⟩:=hx;simp only[Qc_] at h0;exact Zu (fun _=>rfl) (by omega) (by omega)) | (obtain ⟨a1,a2,a3,a4⟩:=hx;simp only[Qc_] at h0;obtain ⟨x,r,e1,e2,e3⟩:=Yi (l:=l) a1 (by omega);rw[Yt e3];rfl) | (simp[Ze];done) | skip
  all_goals try dsimp only[U3]
  all_goals (try obtain ⟨a1,a2,a3,a4⟩:=hx)
  all_goals (try simp only[Qc_,Qe_] at h0)
  ·obtain ⟨x,r,e1,e2,e3⟩:=Yi (l:=l) a1 (by omega)
   rw[Yt e3] at h1
   try rw[Zp] at h1
   refine .inl ⟨?_,rfl, ?_⟩
   ·simp only[U3,Wz,e1,QU_]
    rw[show x.no=true from h1];rfl
   ·simp only[U3,Zdy,e1,YT]
    rw[show x.no=true from h1];rfl
  ·rw[Zg (by constructor<;>omega)];simp only[U3,JZ];omega
  ·show (m - IntKind.i64.wrap (i+1)).toNat < (m - i).toNat
   rw[Zg (by constructor<;>omega)];omega
  ·obtain ⟨x,r,e1,e2,e3⟩:=Yi (l:=l) a1 (by omega)
   rw[Yt e3] at h1
   try rw[Zp] at h1
   have hp:x.no=false:=h1
   rw[Zg (by constructor<;>omega)]
   simp only[U3,Wz,Zdy,ZfU,e1,e2,QU_,hp,Qw_,YT,Qd_]
   exact fun e s h=>h
  ·refine .inr ⟨?_,rfl,rfl⟩
   simp only[U3,Wz]
   rw[Q0_ (by omega)];rfl
 ·intro σ K hS
  unfold ZfV at hS
  split at hS
  ·rename_i p1 p2 p3 hk
   obtain ⟨hi,hK⟩:=Xi hS
   refine ⟨(p1,(Ze Iv.dec p2),p3),by
    simp only[Zlw]
    rw[←(show p2=(Ze Iv.dec p2).map Iv.enc from hi _ (by simp))]
    exact hk,hi _ (by simp),fun e s hf=>?_⟩
   dsimp only[U3] at hf
   rcases hf with ⟨hc,rfl,rfl⟩ | ⟨hc,hf⟩
   ·rw[hc] at hK;exact hK
   ·rw[hc] at hK;obtain ⟨rfl,rfl⟩:=hf;exact hK
  ·exact hS.elim
theorem Ztf:Yd Tryz.prog [(3,ZfV)] Tryz.f158:=Yh (l:=[ZE Tryz.f158 0]) (by kernel_rfl) (Yr (i:=3) (by kernel_rfl) rfl ZrB (ZC))
def Zhu(l:List Iv):=Ze Iv.dec (List.map Iv.enc l)
theorem Ztg(l:List Iv)(hp0:l.length≤140737488355328):Con Tryz.prog 158 [.lst (l.map Iv.enc),.fn 125 []] (.v (.int .i64 (YT (fun f=>f.no) l 0))):=by
 refine cfL ZnG Ztf rfl ?_
 refine sxT (fun Q=>((List.map Iv.enc l=List.map Iv.enc (Zhu l))∧((JZ (0:Int) (Zhu l) ↑(List.map Iv.enc l).length)∧(bif Wz (0:Int) (Zhu l) ↑(List.map Iv.enc l).length then Q (vI (YT (fun f=>f.no) (List.drop (0:Nat) (Zhu l)) (0:Int))) else Q (vI (-1)))))) (fun _=>by kernel_rfl) ?_
 delta Qn Zhu vI
 refine ⟨?r0,⟨?_,Zc (fun h0=>?_) (fun h0=>?_)⟩⟩
 case r0=>first | rfl | (rw[dIv];done) | (simp only[dIv];first | done | omega | exact hp0) | omega | (obtain ⟨a1,a2,a3,a4⟩:=hx;simp only[Qc_] at h0;exact Zu (fun _=>rfl) (by omega) (by omega)) | (obtain ⟨a1,a2,a3,a4⟩:=hx;simp only[Qc_] at h0;obtain ⟨x,r,e1,e2,e3⟩:=Yi (l:=l) a1 (by omega);rw[Yt e3];rfl) | (simp[Ze];done) | skip
 all_goals simp only[dIv,Qk_] at *
 ·simp only[JZ,Qk_,true_and];omega
 ·simp[nz,nzA]
 ·rw[ZeZ (by simpa [Wz] using h0)];rfl
theorem ZvJ:Zk Tryz.prog 158 Zvk:=by
 intro args r ps h hp
 unfold Zvk at h
 split at h
 ·rename_i p1
  cases (Qa_ h)
  exact by
   have hq:=Ztg (Ze Iv.dec p1) (hp _ (by simp))
   rw[←(show p1=(Ze Iv.dec p1).map Iv.enc from hp _ (by simp))] at hq
   exact hq
 ·exact absurd h (by simp)
theorem Zth(l:List Iv)(hp0:l.length≤140737488355328):Con Tryz.prog 124 [.lst (l.map Iv.enc),.fn 125 []] (.v (.bool (l.any (fun f=>f.no)))):=by
 refine cf0 (Zb ZvJ<|Zb ZlY<|Zf) (fn:=Tryz.f124) rfl ?_
 refine sxT (fun Q=>((List.map Iv.enc l=List.map Iv.enc (Ze Iv.dec (List.map Iv.enc l)))∧(((Ze Iv.dec (List.map Iv.enc l)).length≤(140737488355328:Nat))∧Q (vB (decide (YT (fun f=>f.no) (Ze Iv.dec (List.map Iv.enc l)) (0:Int)≥(0:Int))))))) (fun _=>by kernel_rfl) ?_
 delta Qn vB
 refine ⟨?r1,⟨?r0, ?_⟩⟩
 case r0|r1=>first | rfl | (rw[dIv];done) | (simp only[dIv];first | done | omega | exact hp0) | omega | (simp[Ze];done) | skip
 simp only[dIv] at *
 simp only[nz,nzA]
 rw[Zfa (by omega)]
theorem ZvK:Zk Tryz.prog 124 Zvl:=by
 intro args r ps h hp
 unfold Zvl at h
 split at h
 ·rename_i p1
  cases (Qa_ h)
  exact by
   have hq:=Zth (Ze Iv.dec p1) (hp _ (by simp))
   rw[←(show p1=(Ze Iv.dec p1).map Iv.enc from hp _ (by simp))] at hq
   exact hq
 ·exact absurd h (by simp)
def ZjB(s:Surf):=[(eIv s.curve),(eIv s.conic),(eIv s.a4),(eIv s.a6),(eIv s.pos),(eIv s.open2),(eIv s.ratio)]
theorem Zwh:Zk Tryz.prog 64 e64:=Zm<|Zh fun s=>EZ0<|by
 refine cf0 (Zb ZvK<|Zb ZlY<|Zf) (fn:=Tryz.f64) rfl ?_
 refine sxT (fun Q=>(((ZjB s)=List.map Iv.enc (Ze Iv.dec (ZjB s)))∧(((7:Nat)≤(140737488355328:Nat))∧Q (vB ((Ze Iv.dec (ZjB s)).any fun f=>f.no))))) (fun _=>by kernel_rfl) ?_
 delta Qn ZjB eIv vI vB
 refine ⟨?r1,⟨?r0, ?_⟩⟩
 case r0|r1=>first | rfl | (exact (by decide:7≤140737488355328)) | skip
 simp only[XI]
 show PV.v (Value.bool (s.curve.no||(s.conic.no||(s.a4.no||(s.a6.no||(s.pos.no||(s.open2.no||(s.ratio.no||false))))))))=_
 rw[Q3_]
def Zti:=Xb [(30,e30),(59,e59),(60,e60),(61,e61),(62,e62),(63,e63),(64,e64),(37,e37)]
set_option maxHeartbeats 4000000 in
def YY(i:Int)(fs:List Face):=(List.map Face.enc fs).getD i.toNat []
def ZA(i:Int)(fs:List Face):=Zcb (Face.dec (YY i fs)) ZgX (point (65536:Int))
def ZlZ(i:Int)(fs:List Face):=We ((YY i fs).tail.tail.tail.tail.tail.tail.tail.tail.tail.tail.tail.tail.tail.headD PV.nil)
def Zfk(i:Int)(fs:List Face)(g:List Glass)(w:Iv):=Zbx (ZlZ i fs) (Ze Glass.dec (List.map Glass.enc g)) w
def ZjC(i:Int)(fs:List Face)(g:List Glass)(pos:Iv)(ix:Iv)(w:Iv):=[vB (ZA i fs).stop,vB (ZA i fs).bent,vI (ZA i fs).curve.lo,vI (ZA i fs).curve.hi,vB (ZA i fs).curve.no,vI (ZA i fs).conic.lo,vI (ZA i fs).conic.hi,vB (ZA i fs).conic.no,vI (ZA i fs).a4.lo,vI (ZA i fs).a4.hi,vB (ZA i fs).a4.no,vI (ZA i fs).a6.lo,vI (ZA i fs).a6.hi,vB (ZA i fs).a6.no,vI pos.lo,vI pos.hi,vB pos.no,vI (ZA i fs).open2.lo,vI (ZA i fs).open2.hi,vB (ZA i fs).open2.no,vI (Y5 ix (Zfk i fs g w)).lo,vI (Y5 ix (Zfk i fs g w)).hi,vB (Y5 ix (Zfk i fs g w)).no]
def ZjD(i:Int)(fs:List Face)(pos:Iv):=[vB (ZA i fs).stop,vB (ZA i fs).bent,vI (ZA i fs).curve.lo,vI (ZA i fs).curve.hi,vB (ZA i fs).curve.no,vI (ZA i fs).conic.lo,vI (ZA i fs).conic.hi,vB (ZA i fs).conic.no,vI (ZA i fs).a4.lo,vI (ZA i fs).a4.hi,vB (ZA i fs).a4.no,vI (ZA i fs).a6.lo,vI (ZA i fs).a6.hi,vB (ZA i fs).a6.no,vI pos.lo,vI pos.hi,vB pos.no,vI (ZA i fs).open2.lo,vI (ZA i fs).open2.hi,vB (ZA i fs).open2.no,vI (ZA i fs).ratio.lo,vI (ZA i fs).ratio.hi,vB (ZA i fs).ratio.no]
def Zp3(i:Int)(fs:List Face)(m:Int)(g:List Glass):=[(34,AV.p (vI (IntKind.i64.wrap (i+(1:Int))))),(32,AV.p (PV.lst (List.map Face.enc fs))),(33,pI m),(9,AV.ptr 9 0),(10,AV.ptr 10 0),(8,AV.ptr 8 0),(5,AV.ptr 5 0),(6,AV.ptr 6 0),(1,AV.p (PV.lst (List.map Glass.enc g)))]
def ZjE(z:SysM):=[PV.lst (List.map Surf.enc z.surfs),vI z.op.lo,vI z.op.hi,vB z.op.no]
def Zp4(i:Int)(fs:List Face):=Z0 (Dec.mk (Zd ((YY i fs).tail.tail.tail.tail.tail.headD PV.nil)) (Zd ((YY i fs).tail.tail.tail.tail.tail.tail.headD PV.nil)))
def Zp5(i:Int)(fs:List Face)(pos:Iv):=Surf.mk (ZA i fs).stop (ZA i fs).bent (ZA i fs).curve (ZA i fs).conic (ZA i fs).a4 (ZA i fs).a6 pos (ZA i fs).open2 (ZA i fs).ratio
def Zma:Option St:=some ⟨75,[(6,AV.ptr 6 0),(7,pI 6)],[(6,[.nil,vI 0,vI 0,vB false])],[],[],[]⟩
def Zmb:=[(Loc.b (nat_lit 8) (nat_lit 0),nat_lit 75),(Loc.b (nat_lit 6) (nat_lit 0),nat_lit 75)]
def Zmc(i:Int)(fs:List Face)(g:List Glass)(pos:Iv)(ix:Iv)(w:Iv):=Surf.mk (ZA i fs).stop (ZA i fs).bent (ZA i fs).curve (ZA i fs).conic (ZA i fs).a4 (ZA i fs).a6 pos (ZA i fs).open2 (Y5 ix (Zfk i fs g w))
theorem ZiW:CSOk Tryz.prog Zti:=Zb Zwe<|Zb Zj4<|Zb Zhh<|Zb Zwg<|Zb Zwf<|Zb Zj3<|Zb Zwh<|Zb Zhi<|Zf
set_option maxHeartbeats 4000000 in
theorem ZmT:Yq Tryz.prog (ZE Tryz.f24 0) Zhg:=by
 refine lsG Zx.Γ (ZQ Zx ZiW ZZ Ya Yl (LS:=[]) (Y8 (l:=[]) (by kernel_rfl) ZC) (n:=2000) (U9 Zhd) (U9 JA) (fun x e s=>((U9 XV x=true∧e= .ret∧s=U9 Zhf x)∨(U9 XV x=false∧e= .exit 0∧s=U9 ZaW x))) (fun x=>(x.2.2.1 - x.1).toNat) Zhe ZmK ZmL (fun x hx=>?_)) cv9 (fun _=>rfl) (fun _ h=>h) (fun _ _ _ _ h f=>fC h f fE fE)
 ·obtain ⟨i,fs,m,g,s,pos,ix,w,z⟩:=x
  simp only[U9,JA] at hx
  refine sxT (fun Q=>(bif decide (i < m) then (((0:Int)≤i∧(List.map Face.enc fs)[i.toNat]?=some (Yx [vB false,vI 0,vI 0,vI 0,vI 0,vI 0,vI 0,vI 0,vI 0,vI 0,vI 0,vI 0,vI 0,PV.str []] (YY i fs)))∧(([vB (Zz ((YY i fs).headD PV.nil)),vI (Zd ((YY i fs).tail.headD PV.nil)),vI (Zd ((YY i fs).tail.tail.headD PV.nil)),vI (Zd ((YY i fs).tail.tail.tail.headD PV.nil)),vI (Zd ((YY i fs).tail.tail.tail.tail.headD PV.nil)),vI (Zd ((YY i fs).tail.tail.tail.tail.tail.headD PV.nil)),vI (Zd ((YY i fs).tail.tail.tail.tail.tail.tail.headD PV.nil)),vI (Zd ((YY i fs).tail.tail.tail.tail.tail.tail.tail.headD PV.nil)),vI (Zd ((YY i fs).tail.tail.tail.tail.tail.tail.tail.tail.headD PV.nil)),vI (Zd ((YY i fs).tail.tail.tail.tail.tail.tail.tail.tail.tail.headD PV.nil)),vI (Zd ((YY i fs).tail.tail.tail.tail.tail.tail.tail.tail.tail.tail.headD PV.nil)),vI (Zd ((YY i fs).tail.tail.tail.tail.tail.tail.tail.tail.tail.tail.tail.headD PV.nil)),vI (Zd ((YY i fs).tail.tail.tail.tail.tail.tail.tail.tail.tail.tail.tail.tail.headD PV.nil)),PV.str (ZlZ i fs)]=(Face.dec (YY i fs)).enc)∧(bif !Zz ((YY i fs).headD PV.nil) then ((List.map Glass.enc g=List.map Glass.enc (Ze Glass.dec (List.map Glass.enc g)))∧(((Ze Glass.dec (List.map Glass.enc g)).length≤(140737488355328:Nat))∧(((ZjC i fs g pos ix w)=(Zmc i fs g pos ix w).enc)∧(bif XI (Zmc i fs g pos ix w) then Q (Ex.ret) Zma else (((0:Nat) < (1:Nat)∧((List.map Surf.enc s.surfs).length+(1:Nat))* (176:Nat)≤(140737488355328:Nat)∧Lens (23:Nat) (List.map Surf.enc s.surfs++[(ZjC i fs g pos ix w)]))∧Q (Ex.normal) (some ⟨75,(Zp3 i fs m g),[(8,[PV.lst (List.map Surf.enc s.surfs++[(ZjC i fs g pos ix w)]),vI s.op.lo,vI s.op.hi,vB s.op.no]),(10,(eIv (add pos (Zp4 i fs)))),(9,(eIv (Zfk i fs g w))),(5,(eIv w)),(6,(ZjE z))],[],Zmb,[]⟩)))))) else (((ZjD i fs pos)=(Zp5 i fs pos).enc)∧(bif XI (Zp5 i fs pos) then Q (Ex.ret) Zma else (((0:Nat) < (1:Nat)∧((List.map Surf.enc s.surfs).length+(1:Nat))* (176:Nat)≤(140737488355328:Nat)∧Lens (23:Nat) (List.map Surf.enc s.surfs++[(ZjD i fs pos)]))∧Q (Ex.normal) (some ⟨75,(Zp3 i fs m g),[(8,[PV.lst (List.map Surf.enc s.surfs++[(ZjD i fs pos)]),vI s.op.lo,vI s.op.hi,vB s.op.no]),(10,(eIv (add pos (Zp4 i fs)))),(9,(eIv ix)),(5,(eIv w)),(6,(ZjE z))],[],Zmb,[]⟩))))))) else Q (Ex.exit (0:Nat)) (some ⟨75,[(6,AV.ptr 6 0),(8,AV.ptr 8 0)],[(6,(ZjE z)),(8,[PV.lst (List.map Surf.enc s.surfs),vI s.op.lo,vI s.op.hi,vB s.op.no])],[],[],[]⟩))) (fun _=>by kernel_rfl) ?_
  delta ZA ZjC ZjD Zfk YY Zp3 ZjE Zp4 Zp5 Zma Zmb ZlZ Zmc eIv vI vB pI
  refine Zc (fun h0=>⟨?r7,⟨?r6,Zc (fun h1=>⟨?r3,⟨?r2,⟨?r1,Zc (fun h2=>?_) (fun h2=>⟨?r0, ?_⟩)⟩⟩⟩) (fun h1=>⟨?r5,Zc (fun h2=>?_) (fun h2=>⟨?r4, ?_⟩)⟩)⟩⟩) (fun h0=>?_)
  case r0|r1|r2|r3|r4|r5|r6|r7=>first | rfl | (rw[Zp];done) | (simp only[SysM.enc,Xc];done) | (simp only[LensM.enc,Z9];done) | (simp only[Zp,Z9];omega) | (obtain ⟨a1,a2,a3,a4,a5,a6⟩:=hx;simp only[Qc_] at h0;subst a3;first | exact Zu (fun _=>rfl) (by omega) (by omega) | (simp only[Zp];omega) | (obtain ⟨x,t,e1,e2,e3⟩:=Yi (l:=fs) a1 (by omega);simp only[Yt e3];rfl) | exact ⟨by decide,by simp only[Qk_];omega,YM (YL (e:=Surf.enc) (fun _=>rfl) _) rfl⟩) | (simp only[Qf_,Zp,Z9,show (⟨l.name,l.back,l.faces⟩:LensM)=l from rfl] at h0;obtain ⟨⟨f,t,hf⟩,_⟩:=Zcc h0;first | exact Zu (i:=0) (fun _=>rfl) (by omega) (by rw[hf];simp only[Qs_];omega) | skip) | skip
  all_goals (obtain ⟨a1,a2,a3,a4,a5,a6⟩:=hx;try simp only[Qc_,Qe_] at h0)
  all_goals subst a3
  all_goals first
   | (exact .inr ⟨by simp,_,rfl,.inr ⟨by unfold U9 XV;(try dsimp only);rw[List.drop_eq_nil_of_le (by omega)];rfl,by trivial,by unfold U9 ZaW;(try dsimp only);rw[List.drop_eq_nil_of_le (by omega),show ∀p q,pGo g w [] p q=[] from fun _ _=>rfl,List.append_nil];rfl⟩⟩)
   | (obtain ⟨x,t,e1,e2,e3⟩:=Yi (l:=fs) a1 (by omega)
      have hw:IntKind.i64.wrap (i+1)=i+1:=Zg (by constructor<;>omega)
      simp only[Yt e3,Zp] at *
      have eb:pGo g w (fs.drop i.toNat) pos ix=Zcb x pos (Zfb x g w ix)::pGo g w (fs.drop (IntKind.i64.wrap (i+1)).toNat) (add pos (Z0 x.thick)) (Zeq x g w ix):=(by rw[hw,e1,e2];rfl)
      have hs:(!x.stop)=_:=h1
      have hr:Zfb x g w ix=bif x.stop then point 65536 else Y5 ix (Zbx x.glass g w):=rfl
      have hn:Zeq x g w ix=bif x.stop then ix else Zbx x.glass g w:=rfl
      simp only[Qi_,Qf_] at hs
      rw[hs] at hr hn
      simp only[Qb_,Qd_] at hr hn
      have hl:=h2
      first | change XI (Zcb x pos (point 65536))=_ at hl | change XI (Zcb x pos (Y5 ix (Zbx x.glass g w)))=_ at hl
      rw[←hr] at hl
      first
       | exact .inr ⟨by simp,_,rfl,.inl ⟨by unfold U9 XV;(try dsimp only);rw[eb,List.any_cons,hl];rfl,by trivial,rfl⟩⟩
       | (refine .inl ⟨by trivial,(IntKind.i64.wrap (i+1),fs,(fs.length:Int),g,⟨s.surfs++[Zcb x pos (Zfb x g w ix)],s.op⟩,add pos (Z0 x.thick),Zeq x g w ix,w,z), ?_, ?_, ?_, ?_⟩
          ·rw[hr,hn];simp only[U9,Zhd,SysM.enc,QR_,QE_,QN_];rfl
          ·simp only[U9,JA,hw,Qx_,Qs_,Q1_];exact ⟨by omega,by omega,by trivial,a4,a5,by omega⟩
          ·simp only[hw];omega
          ·intro e s' h
           have ec:(pGo g w (fs.drop i.toNat) pos ix).any XI=(pGo g w (fs.drop (IntKind.i64.wrap (i+1)).toNat) (add pos (Z0 x.thick)) (Zeq x g w ix)).any XI:=(by rw[eb,QU_,hl];rfl)
           unfold U9 XV at h ⊢
           (try dsimp only at h ⊢)
           rw[ec]
           refine h.imp (fun h=>h) (fun h=>⟨h.1,h.2.1,h.2.2.trans ?_⟩)
           delta ZaW;(try dsimp only);rw[eb];simp only[List.append_assoc,List.cons_append,List.nil_append]))
theorem Zp6:Yd Tryz.prog [(7,Zhg)] Tryz.f24:=Yh (l:=[ZE Tryz.f24 0]) (by kernel_rfl) (Yr (i:=7) (by kernel_rfl) rfl ZmT (ZC))
def ZaB(l:LensM):=List.map Face.enc l.faces
def JF(l:LensM):=Z0 (Dec.mk (Zd (((ZaB l).getD (0:Nat) []).tail.tail.tail.headD PV.nil)) (Zd (((ZaB l).getD (0:Nat) []).tail.tail.tail.tail.headD PV.nil)))
def ZaC(g:List Glass):=Ze Glass.dec (List.map Glass.enc g)
def q20_17:=SysM.mk (Ze Surf.dec []) (Iv.mk (0:Int) (0:Int) false)
def ZaD(l:LensM):=Ze Face.dec (ZaB l)
def Zhv(l:LensM):=SysM.mk (Ze Surf.dec []) (JF l)
def Zmd:=PV.tup [PV.agg [.nil,vI 0,vI 0,vB false],vI 6]
set_option maxHeartbeats 4000000 in
theorem ZtC:Zk Tryz.prog 24 e24:=Zm<|Zh fun l=>Zh fun g=>Zh fun w=>EZ1 fun hp0=>by
 refine cfL ZiW Zp6 rfl ?_
 refine sxT (fun Q=>(((Z5 l)=(LensM.mk l.name l.back (ZaD l)).enc)∧((List.map Glass.enc g=List.map Glass.enc (ZaC g))∧(((ZaC g).length≤(140737488355328:Nat)∧(ZaD l).length≤(140737488355328:Nat))∧(bif !XT (LensM.mk l.name l.back (ZaD l)) (ZaC g) then Q (PV.tup [PV.agg [.nil,vI 0,vI 0,vB false],vI 1]) else (((0:Int)≤(0:Int)∧(ZaB l)[(0:Nat)]?=some (Yx [vB false,vI 0,vI 0,vI 0,vI 0,vI 0,vI 0,vI 0,vI 0,vI 0,vI 0,vI 0,vI 0,PV.str []] ((ZaB l).getD (0:Nat) [])))∧((List.map Face.enc l.faces=List.map Face.enc (ZaD l))∧((List.map Glass.enc g=List.map Glass.enc (ZaC g))∧(([PV.lst [],vI (JF l).lo,vI (JF l).hi,vB (JF l).no]=(Zhv l).enc)∧(([PV.lst [],vI 0,vI 0,vB false]=q20_17.enc)∧((JA (0:Int) (ZaD l) (↑(ZaB l).length) (ZaC g) (Zhv l) (Z0 l.back) (point (65536:Int)) w q20_17)∧(bif XV (0:Int) (ZaD l) (↑(ZaB l).length) (ZaC g) (Zhv l) (Z0 l.back) (point (65536:Int)) w q20_17 then Q Zmd else (bif (JF l).no then Q Zmd else Q (PV.tup [PV.agg [PV.lst (List.map Surf.enc (Ze Surf.dec []++pGo (ZaC g) w (List.drop (0:Nat) (ZaD l)) (Z0 l.back) (point (65536:Int)))),vI (JF l).lo,vI (JF l).hi,vB (JF l).no],vI 0])))))))))))))) (fun _=>by kernel_rfl) ?_
 delta Qn JF ZaB ZaC q20_17 ZaD Zhv Zmd Z5 vI vB
 refine ⟨?r7,⟨?r6,⟨?r5,Zc (fun h0=>?_) (fun h0=>⟨?r4,⟨?r3,⟨?r2,⟨?r1,⟨?r0,⟨?_,Zc (fun h1=>?_) (fun h1=>Zc (fun h2=>?_) (fun h2=>?_))⟩⟩⟩⟩⟩⟩)⟩⟩⟩
 case r0|r1|r2|r3|r4|r5|r6|r7=>first | rfl | (rw[Zp];done) | (simp only[SysM.enc,Xc];done) | (simp only[LensM.enc,Z9];done) | (simp only[Zp,Z9];omega) | (obtain ⟨a1,a2,a3,a4,a5,a6⟩:=hx;simp only[Qc_] at h0;subst a3;first | exact Zu (fun _=>rfl) (by omega) (by omega) | (simp only[Zp];omega) | (obtain ⟨x,t,e1,e2,e3⟩:=Yi (l:=fs) a1 (by omega);simp only[Yt e3];rfl) | exact ⟨by decide,by simp only[Qk_];omega,YM (YL (e:=Surf.enc) (fun _=>rfl) _) rfl⟩) | (simp only[Qf_,Zp,Z9,show (⟨l.name,l.back,l.faces⟩:LensM)=l from rfl] at h0;obtain ⟨⟨f,t,hf⟩,_⟩:=Zcc h0;first | exact Zu (i:=0) (fun _=>rfl) (by omega) (by rw[hf];simp only[Qs_];omega) | skip) | skip
 all_goals (try simp only[Zp,Z9,Xc,Qi_,Qf_,Qk_,QG_,QO_,show Ze Surf.dec []=[] from rfl,QJ_,show (⟨l.name,l.back,l.faces⟩:LensM)=l from rfl] at *)
 ·simp only[Zy,h0,Qd_];rfl
 all_goals obtain ⟨⟨f,t,hf⟩,hl⟩:=Zcc h0
 all_goals have ef:(List.map Face.enc l.faces).getD 0 []=Face.enc f:=(by rw[hf];rfl)
 all_goals simp only[ef] at *
 all_goals have e0:Xs l g w=⟨pGo g w l.faces (Z0 l.back) (point 65536),Z0 f.aperture⟩:=(by unfold Xs Ztu;rw[hf];rfl)
 ·exact ⟨by omega,by omega,by trivial,hl,hp0.1,rfl⟩
 ·have h1:(Xs l g w).surfs.any XI=true:=(by rw[e0];exact h1)
  simp only[Zy,h0,h1,Qb_];rfl
 ·have h1:(Xs l g w).surfs.any XI=false:=(by rw[e0];exact h1)
  have h2:(Xs l g w).op.no=true:=(by rw[e0];exact h2)
  simp only[Zy,h0,h1,h2,Qb_,Qd_];rfl
 ·have h1:(Xs l g w).surfs.any XI=false:=(by rw[e0];exact h1)
  have h2:(Xs l g w).op.no=false:=(by rw[e0];exact h2)
  have e:Zy l g w=(Xs l g w,0):=(by simp only[Zy,h0,h1,h2,Qb_,Qd_])
  rw[e,e0];rfl
open Go
end Go.Men
namespace Go.Men
open Go.Ev Go.Proofs Go.Proofs.YtgfgjabeooohhaaGreatDoor
end Go.Men
namespace Go.Men
open Go Go.Ev
theorem W4(x:LensM):LensM.mk x.name x.back x.faces=x:=rfl
theorem Wd(x:SysM):SysM.mk x.surfs x.op=x:=rfl
end Go.Men
namespace Go.Men
open Go.Ev Go.Proofs Go.Proofs.YtgfgjabeooohhaaGreatDoor
def Zu0:=Xb [(60,e60),(66,e66),(27,e27),(37,e37),(63,e63),(67,e67),(68,e68)]
set_option maxHeartbeats 4000000 in
def Zfl(i:Int)(ss:List Surf):=(List.map Surf.enc ss).getD i.toNat []
def Zp7(i:Int)(ss:List Surf):=Iv.dec (Zfl i ss).tail.tail.tail.tail.tail.tail.tail.tail.tail.tail.tail.tail.tail.tail.tail.tail.tail.tail.tail.tail
def ZjF(i:Int)(ss:List Surf)(y:Iv)(u:Iv)(one:Iv):=sub (YI (Zp7 i ss) u) (YI (YI y (Iv.dec (Zfl i ss).tail.tail)) (sub one (Zp7 i ss)))
def ZeE(i:Int):=IntKind.i64.wrap (i+(1:Int))
def Zhw(i:Int)(ss:List Surf)(m:Int):=[(16,AV.p (vI (ZeE i))),(14,AV.p (PV.lst (List.map Surf.enc ss))),(15,pI m),(1,AV.ptr 1 0),(4,AV.ptr 4 0),(5,AV.ptr 5 0),(3,AV.ptr 3 0),(2,AV.ptr 2 0)]
def Zd5(s:SysM):=List.map Surf.enc s.surfs
def Zp8:=[vB false,vB false,vI 0,vI 0,vB false,vI 0,vI 0,vB false,vI 0,vI 0,vB false,vI 0,vI 0,vB false,vI 0,vI 0,vB false,vI 0,vI 0,vB false,vI 0,vI 0,vB false]
def Zp9(i:Int)(s:SysM):=(0:Int)≤IntKind.i64.wrap (i+(1:Int))∧(Zd5 s)[(ZeE i).toNat]?=some (Yx Zp8 ((Zd5 s).getD (ZeE i).toNat []))
def Zfm(s:SysM):=[PV.lst (Zd5 s),vI s.op.lo,vI s.op.hi,vB s.op.no]
def ZpA(i:Int)(ss:List Surf)(s:SysM):=sub (Iv.dec ((Zd5 s).getD (ZeE i).toNat []).tail.tail.tail.tail.tail.tail.tail.tail.tail.tail.tail.tail.tail.tail) (Iv.dec (Zfl i ss).tail.tail.tail.tail.tail.tail.tail.tail.tail.tail.tail.tail.tail.tail)
theorem Zme:CSOk Tryz.prog Zu0:=Zb Zhh<|Zb Zt2<|Zb Zj2<|Zb Zhi<|Zb Zj3<|Zb Zt1<|Zb ZvU<|Zf
set_option maxHeartbeats 4000000 in
theorem ZpB:Yq Tryz.prog (ZE Tryz.f26 0) ZiP:=by
 refine lsG Zx.Γ (ZQ Zx Zme ZZ Ya Yl (LS:=[]) (Y8 (l:=[]) (by kernel_rfl) ZC) (n:=2000) (U8 Zrh) (U8 W0) (fun x e s=>(e= .exit 0∧s=U8 Za6 x)) (fun x=>(x.2.2.2.1.surfs.length - x.1).toNat) ZiO ZoS ZoT (fun x hx=>?_)) cv8 (fun _=>rfl) (fun _ h=>h) (fun _ _ _ _ h f=>fE h f)
 ·obtain ⟨i,ss,m,s,y,u,one,z⟩:=x
  simp only[U8,W0] at hx
  refine sxT (fun Q=>(bif decide (i < m) then (((0:Int)≤i∧(List.map Surf.enc ss)[i.toNat]?=some (Yx Zp8 (Zfl i ss)))∧(bif !Zz ((Zfl i ss).headD PV.nil) then (bif decide (IntKind.i64.wrap (i+(1:Int)) < ↑(Zd5 s).length) then ((Zp9 i s)∧Q (Ex.normal) (some ⟨78,(Zhw i ss m),[(1,(Zfm s)),(4,(eIv (add y (YI (ZjF i ss y u one) (ZpA i ss s))))),(5,(eIv (ZjF i ss y u one))),(3,(eIv one)),(2,(Zfd z))],[],[],[]⟩)) else Q (Ex.normal) (some ⟨78,(Zhw i ss m),[(1,(Zfm s)),(4,(eIv y)),(5,(eIv (ZjF i ss y u one))),(3,(eIv one)),(2,(Zfd z))],[],[],[]⟩)) else (bif decide (IntKind.i64.wrap (i+(1:Int)) < ↑(Zd5 s).length) then ((Zp9 i s)∧Q (Ex.normal) (some ⟨78,(Zhw i ss m),[(1,(Zfm s)),(4,(eIv (add y (YI u (ZpA i ss s))))),(5,(eIv u)),(3,(eIv one)),(2,(Zfd z))],[],[],[]⟩)) else Q (Ex.normal) (some ⟨78,(Zhw i ss m),[(1,(Zfm s)),(4,(eIv y)),(5,(eIv u)),(3,(eIv one)),(2,(Zfd z))],[],[],[]⟩)))) else Q (Ex.exit (0:Nat)) (some ⟨78,[(2,AV.ptr 2 0),(1,AV.ptr 1 0),(5,AV.ptr 5 0),(4,AV.ptr 4 0),(3,AV.ptr 3 0)],[(2,(Zfd z)),(1,(Zfm s)),(5,(eIv u)),(4,(eIv y)),(3,(eIv one))],[],[],[]⟩))) (fun _=>by kernel_rfl) ?_
  delta ZjF Zhw Zp9 Zfm ZpA Zp8 Zfl Zd5 Zp7 ZeE eIv Zfd vI vB pI
  refine Zc (fun h0=>⟨?r2,Zc (fun h1=>Zc (fun h2=>⟨?r0, ?_⟩) (fun h2=>?_)) (fun h1=>Zc (fun h2=>⟨?r1, ?_⟩) (fun h2=>?_))⟩) (fun h0=>?_)
  case r0|r1|r2=>first | rfl | (rw[Xc];done) | (simp only[SysM.enc,Xc];done) | (obtain ⟨a1,a2,a4,a6,a3,a5⟩:=hx;subst a5;subst a3;simp only[Qk_,Qc_] at *;first | exact Zu (fun _=>rfl) (by omega) (by omega) | (have hw:IntKind.i64.wrap (i+1)=i+1:=Zg (by constructor<;>omega);simp only[hw] at *;exact Zu (fun _=>rfl) (by omega) (by omega))) | skip
  all_goals (obtain ⟨a1,a2,a4,a6,a3,a5⟩:=hx)
  all_goals subst a5
  all_goals subst a3
  all_goals subst a6
  all_goals (try simp only[Qk_,Qc_,Qe_] at h0)
  all_goals first
   | (exact .inr ⟨by simp,_,rfl,by trivial,by unfold U8 Za6;(try dsimp only);rw[List.drop_eq_nil_of_le (by omega)];rfl⟩)
   | (obtain ⟨x,t,e1,e2,e3⟩:=Yi (l:=s.surfs) a1 (by omega)
      have hw:IntKind.i64.wrap (i+1)=i+1:=Zg (by constructor<;>omega)
      simp only[Yt e3,hw,Qk_] at *
      have hs:(!x.stop)=_:=h1
      have hu:pxU x y u=bif x.stop then u else sub (YI x.ratio u) (YI (YI y x.curve) (sub (point 65536) x.ratio)):=rfl
      simp only[Qi_,Qf_] at hs
      rw[hs] at hu
      simp only[Qb_,Qd_] at hu
      have hg:ZaK (s.surfs.drop i.toNat) y u=ZaK (s.surfs.drop (i+1).toNat) (pxY x t y (pxU x y u)) (pxU x y u):=(by rw[e1,e2];rfl)
      have hy:∃y2,pxY x t y (pxU x y u)=y2:=⟨_,rfl⟩
      first
       | (have h2':(i+1) < (s.surfs.length:Int):=Qy_ h2
          obtain ⟨x2,t2,f1,f2,f3⟩:=Yi (l:=s.surfs) (i:=i+1) (by omega) h2'
          simp only[Yt f3] at *
          have hy2:pxY x t y (pxU x y u)=add y (YI (pxU x y u) (sub x2.pos x.pos)):=(by rw[←e2,f1];rfl)
          refine .inl ⟨by trivial,(i+1,s.surfs,(s.surfs.length:Int),s,pxY x t y (pxU x y u),pxU x y u,point 65536,z), ?_, ?_, ?_, ?_⟩
          ·rw[hy2,hu];rfl
          ·simp only[U8,W0];exact ⟨by omega,by omega,a4,trivial,trivial,trivial⟩
          ·(show ((s.surfs.length:Int) - (i+1)).toNat < ((s.surfs.length:Int) - i).toNat);omega
          ·intro e s' h;refine ⟨h.1,h.2.trans ?_⟩;unfold U8 Za6;(try dsimp only);rw[hg])
       | (have h2':¬(i+1) < (s.surfs.length:Int):=of_decide_eq_false h2
          have ht:t=[]:=(by rw[←e2];exact Q0_ (by omega))
          have hy2:pxY x t y (pxU x y u)=y:=(by rw[ht];rfl)
          refine .inl ⟨by trivial,(i+1,s.surfs,(s.surfs.length:Int),s,pxY x t y (pxU x y u),pxU x y u,point 65536,z), ?_, ?_, ?_, ?_⟩
          ·rw[hy2,hu];rfl
          ·simp only[U8,W0];exact ⟨by omega,by omega,a4,trivial,trivial,trivial⟩
          ·(show ((s.surfs.length:Int) - (i+1)).toNat < ((s.surfs.length:Int) - i).toNat);omega
          ·intro e s' h;refine ⟨h.1,h.2.trans ?_⟩;unfold U8 Za6;(try dsimp only);rw[hg]))
theorem ZrC:Yd Tryz.prog [(5,ZiP)] Tryz.f26:=Yh (l:=[ZE Tryz.f26 0]) (by kernel_rfl) (Yr (i:=5) (by kernel_rfl) rfl ZpB (ZC))
def ZcD(s:SysM):=Ze Surf.dec (List.map Surf.enc s.surfs)
def Zhx(s:SysM):=ZaK (List.drop (0:Nat) (ZcD s)) (point (65536:Int)) (point (0:Int))
def ZaE(s:SysM):=neg (Y5 (point (65536:Int)) (Zhx s).snd)
def JG:=Iv.mk (0:Int) (0:Int) false
def ZbD(s:SysM):=neg (Y5 (Zhx s).fst (Zhx s).snd)
def Zhy(s:SysM):=Y5 (ZaE s) (times s.op (2:Int))
set_option maxHeartbeats 4000000 in
theorem ZtD:Zk Tryz.prog 26 e26:=Zm<|Zh fun s=>EZ1 fun hp0=>by
 refine cfL Zme ZrC rfl ?_
 refine sxT (fun Q=>((List.map Surf.enc s.surfs=List.map Surf.enc (ZcD s))∧(([PV.lst (List.map Surf.enc s.surfs),vI s.op.lo,vI s.op.hi,vB s.op.no]=(SysM.mk (ZcD s) s.op).enc)∧(([vI 0,vI 0,vB false,vI 0,vI 0,vB false,vI 0,vI 0,vB false,vI 0,vI 0,vB false]=(Card.mk JG JG JG JG).enc)∧((W0 (0:Int) (ZcD s) (↑(List.map Surf.enc s.surfs).length) (SysM.mk (ZcD s) s.op) (point (65536:Int)) (point (0:Int)) (point (65536:Int)) (Card.mk JG JG JG JG))∧Q (PV.agg [vI (ZaE s).lo,vI (ZaE s).hi,vB (ZaE s).no,vI (ZbD s).lo,vI (ZbD s).hi,vB (ZbD s).no,vI (sub (ZbD s) (ZaE s)).lo,vI (sub (ZbD s) (ZaE s)).hi,vB (sub (ZbD s) (ZaE s)).no,vI (Zhy s).lo,vI (Zhy s).hi,vB (Zhy s).no])))))) (fun _=>by kernel_rfl) ?_
 delta Qn Zhx ZaE JG ZbD ZcD Zhy vI vB
 refine ⟨?r2,⟨?r1,⟨?r0,⟨?_, ?_⟩⟩⟩⟩
 case r0|r1|r2=>first | rfl | (rw[Xc];done) | (simp only[SysM.enc,Xc];done) | (obtain ⟨a1,a2,a4,a6,a3,a5⟩:=hx;subst a5;subst a3;simp only[Qk_,Qc_] at *;first | exact Zu (fun _=>rfl) (by omega) (by omega) | (have hw:IntKind.i64.wrap (i+1)=i+1:=Zg (by constructor<;>omega);simp only[hw] at *;exact Zu (fun _=>rfl) (by omega) (by omega))) | skip
 all_goals (try simp only[Xc,Qk_,QO_,QG_,Wd] at *)
 ·simp only[W0];exact ⟨by omega,by omega,hp0,by trivial,by trivial,by trivial⟩
 ·rfl
def Zu1:=Xb [(24,e24),(26,e26)]
set_option maxHeartbeats 4000000 in
def ZjG(l:LensM):=Ze Face.dec (List.map Face.enc l.faces)
def Zak(i:Int)(g:List Glass)(ws:List Iv)(l:LensM):=Zy (LensM.mk l.name l.back (ZjG l)) (Ze Glass.dec (List.map Glass.enc g)) (Iv.dec ((List.map Iv.enc ws).getD i.toNat []))
def ZjH(i:Int)(g:List Glass)(ws:List Iv)(l:LensM):=SysM.mk (Ze Surf.dec (List.map Surf.enc (Zak i g ws l).fst.surfs)) (Zak i g ws l).fst.op
theorem Zmf:CSOk Tryz.prog Zu1:=Zb ZtC<|Zb ZtD<|Zf
set_option maxHeartbeats 4000000 in
theorem ZpC:Yq Tryz.prog (ZE Tryz.f19 0) ZiS:=by
 refine lsG Zx.Γ (ZQ Zx Zmf ZZ Ya Yl (LS:=[]) (Y8 (l:=[]) (by kernel_rfl) ZC) (n:=2000) (U6 ZiQ) (U6 Za8) (fun x e s=>((U6 W1 x=true∧e= .ret∧s=U6 Zcg x)∨(U6 W1 x=false∧e= .exit 0∧s=U6 Zcf x))) (fun x=>(x.2.2.2.2.1 - x.1).toNat) ZiR ZoU ZoV (fun x hx=>?_)) cv6 (fun _=>rfl) (fun _ h=>h) (fun _ _ _ _ h f=>fC h f fE fE)
 ·obtain ⟨i,out,g,ws,m,l⟩:=x
  simp only[U6,Za8] at hx
  refine sxT (fun Q=>(bif decide (i < m) then (((0:Int)≤i∧(List.map Iv.enc ws)[i.toNat]?=some (Yx [vI 0,vI 0,vB false] ((List.map Iv.enc ws).getD i.toNat [])))∧(((Z5 l)=(LensM.mk l.name l.back (ZjG l)).enc)∧((List.map Glass.enc g=List.map Glass.enc (Ze Glass.dec (List.map Glass.enc g)))∧(((Ze Glass.dec (List.map Glass.enc g)).length≤(140737488355328:Nat)∧(ZjG l).length≤(140737488355328:Nat))∧(bif (Zak i g ws l).snd !=(0:Int) then Q (Ex.ret) (some ⟨37,[(6,AV.p (.nil)),(7,AV.p (vI (Zak i g ws l).snd))],[],[],[],[]⟩) else (([PV.lst (List.map Surf.enc (Zak i g ws l).fst.surfs),vI (Zak i g ws l).fst.op.lo,vI (Zak i g ws l).fst.op.hi,vB (Zak i g ws l).fst.op.no]=(ZjH i g ws l).enc)∧(((Ze Surf.dec (List.map Surf.enc (Zak i g ws l).fst.surfs)).length≤(1000:Nat))∧(((0:Nat) < (1:Nat)∧((List.map Iv.enc out).length+(1:Nat))* (24:Nat)≤(140737488355328:Nat)∧Lens (3:Nat) (List.map Iv.enc out++[(eIv (parax (ZjH i g ws l)).bfl)]))∧Q (Ex.normal) (some ⟨37,[(15,AV.p (vI (IntKind.i64.wrap (i+(1:Int))))),(8,AV.p (PV.lst (List.map Iv.enc out++[(eIv (parax (ZjH i g ws l)).bfl)]))),(1,AV.p (PV.lst (List.map Glass.enc g))),(3,AV.ptr 3 0),(13,AV.p (PV.lst (List.map Iv.enc ws))),(14,pI m)],[(3,(Z5 l))],[],[(Loc.t (nat_lit 8),nat_lit 48)],[]⟩))))))))) else Q (Ex.exit (0:Nat)) (some ⟨37,[(8,AV.p (PV.lst (List.map Iv.enc out)))],[],[],[],[]⟩))) (fun _=>by kernel_rfl) ?_
  delta Zak ZjH ZjG eIv Z5 vI vB pI
  refine Zc (fun h0=>⟨?r6,⟨?r5,⟨?r4,⟨?r3,Zc (fun h1=>?_) (fun h1=>⟨?r2,⟨?r1,⟨?r0, ?_⟩⟩⟩)⟩⟩⟩⟩) (fun h0=>?_)
  case r0|r1|r2|r3|r4|r5|r6=>(try simp only[show (⟨l.name,l.back,l.faces⟩:LensM)=l from rfl,dIv,Zp,Z9,Xc,Wd]);first | rfl | omega | (simp only[LensM.enc,Z9];done) | (exact ⟨by omega,by omega⟩) | (obtain ⟨a1,a2,a3,a4,a5,a6,a7⟩:=hx;subst a3;(try simp only[Qk_,Qc_] at h0);first | exact Zu (fun _=>rfl) (by omega) (by omega) | (obtain ⟨x,t,e1,e2,e3⟩:=Yi (l:=ws) a1 (by omega);simp only[Yt e3];first | rfl | (exact QT_ (XU _ _ _) (by decide)) | (exact ⟨by decide,by simp only[Qk_];omega,YM (YL (e:=Iv.enc) (fun _=>rfl) _) rfl⟩))) | (exact QT_ (XU _ _ _) (by decide)) | skip
  all_goals (obtain ⟨a1,a2,a3,a4,a5,a6,a7⟩:=hx)
  all_goals subst a3
  all_goals (try simp only[Qk_,Qc_,Qe_] at h0)
  all_goals first
   | (exact .inr ⟨by simp,_,rfl,.inr ⟨by unfold U6 W1;(try dsimp only);rw[List.drop_eq_nil_of_le (by omega)];rfl,by trivial,by unfold U6 Zcf;(try dsimp only);(rw[List.drop_eq_nil_of_le (by omega),List.map_nil,List.append_nil])<;>rfl⟩⟩)
   | (obtain ⟨x,t,e1,e2,e3⟩:=Yi (l:=ws) a1 (by omega)
      have hw:IntKind.i64.wrap (i+1)=i+1:=Zg (by constructor<;>omega)
      have eI:Iv.dec x.enc=x:=rfl
      have eL:(⟨l.name,l.back,l.faces⟩:LensM)=l:=rfl
      simp only[Yt e3,dIv,Zp,Z9,eI,eL,Wd,Xc] at *
      first
       | (have hs:(((Zy l g x).2 !=0)=true):=h1
          have hn:=ZnA (fun w=>Zy l g w) x t hs
          refine .inr ⟨by simp,_,rfl,.inl ⟨?_,by trivial, ?_⟩⟩
          ·unfold U6 W1;(try dsimp only);rw[e1,hn];rfl
          ·unfold U6 Zcg;(try dsimp only);rw[e1,Zdo,hs];rfl)
       | (have hs:(((Zy l g x).2 !=0)=false):=h1
          have ht:X6 (fun w=>Zy l g w) (x::t)=X6 (fun w=>Zy l g w) t:=(by rw[Zdo,hs];rfl)
          refine .inl ⟨by trivial,(IntKind.i64.wrap (i+1),out++[X7 (fun w=>Zy l g w) x],g,ws,(ws.length:Int),l), ?_, ?_, ?_, ?_⟩
          ·simp only[U6,ZiQ,QR_,QE_,QN_];rfl
          ·simp only[U6,Za8,hw,Qx_,Qs_,Q1_];exact ⟨by omega,by omega,by trivial,a4,a5,a6,by omega⟩
          ·(try simp only[hw]);omega
          ·intro e s' h
           unfold U6 W1 Zcg at h ⊢
           (try dsimp only at h ⊢)
           rw[e1,ht,←e2]
           first | (rw[hw] at h) | skip
           refine h.imp (fun h=>h) (fun h=>⟨h.1,h.2.1,h.2.2.trans ?_⟩)
           delta Zcf;(try dsimp only);(try rw[hw]);rw[e1,e2];simp only[List.map_cons,List.append_assoc,List.cons_append,List.nil_append]))
theorem ZrD:Yd Tryz.prog [(4,ZiS)] Tryz.f19:=Yh (l:=[ZE Tryz.f19 0]) (by kernel_rfl) (Yr (i:=4) (by kernel_rfl) rfl ZpC (ZC))
def ZjI(l:LensM):=LensM.mk l.name l.back (Ze Face.dec (List.map Face.enc l.faces))
def Zfn(g:List Glass):=Ze Glass.dec (List.map Glass.enc g)
def Zfo(ws:List Iv):=Ze Iv.dec (List.map Iv.enc ws)
set_option maxHeartbeats 4000000 in
theorem ZpD:Zk Tryz.prog 19 e19:=Zm<|Zh fun l=>Zh fun g=>Zh fun ws=>EZ1 fun hp0=>by
 refine cfL Zmf ZrD rfl ?_
 refine sxT (fun Q=>(([]=List.map Iv.enc (Ze Iv.dec []))∧((List.map Glass.enc g=List.map Glass.enc (Zfn g))∧((List.map Iv.enc ws=List.map Iv.enc (Zfo ws))∧(((Z5 l)=(ZjI l).enc)∧((Za8 (0:Int) (Ze Iv.dec []) (Zfn g) (Zfo ws) (↑(List.map Iv.enc ws).length) (ZjI l))∧(bif W1 (0:Int) (Ze Iv.dec []) (Zfn g) (Zfo ws) (↑(List.map Iv.enc ws).length) (ZjI l) then Q (PV.tup [.nil,vI (X6 (fun w=>Zy (LensM.dec (Z5 l)) (Zfn g) w) (List.drop (0:Nat) (Zfo ws)))]) else Q (PV.tup [PV.lst (List.map Iv.enc (Ze Iv.dec []++List.map (X7 fun w=>Zy (LensM.dec (Z5 l)) (Zfn g) w) (List.drop (0:Nat) (Zfo ws)))),vI 0])))))))) (fun _=>by kernel_rfl) ?_
 delta Qn ZjI Zfn Zfo Z5 vI vB
 refine ⟨?r3,⟨?r2,⟨?r1,⟨?r0,⟨?_,Zc (fun h0=>?_) (fun h0=>?_)⟩⟩⟩⟩⟩
 case r0|r1|r2|r3=>(try simp only[show (⟨l.name,l.back,l.faces⟩:LensM)=l from rfl,dIv,Zp,Z9,Xc,Wd]);first | rfl | omega | (simp only[LensM.enc,Z9];done) | (exact ⟨by omega,by omega⟩) | (obtain ⟨a1,a2,a3,a4,a5,a6,a7⟩:=hx;subst a3;(try simp only[Qk_,Qc_] at h0);first | exact Zu (fun _=>rfl) (by omega) (by omega) | (obtain ⟨x,t,e1,e2,e3⟩:=Yi (l:=ws) a1 (by omega);simp only[Yt e3];first | rfl | (exact QT_ (XU _ _ _) (by decide)) | (exact ⟨by decide,by simp only[Qk_];omega,YM (YL (e:=Iv.enc) (fun _=>rfl) _) rfl⟩))) | (exact QT_ (XU _ _ _) (by decide)) | skip
 all_goals (try simp only[dIv,Zp,Z9,Xc,Qk_,QG_,QO_,QJ_,show Ze Iv.dec []=[] from rfl,show (⟨l.name,l.back,l.faces⟩:LensM)=l from rfl,Wd] at *)
 all_goals have eD:LensM.dec [PV.str l.name,PV.v (Value.int IntKind.i64 l.back.c),PV.v (Value.int IntKind.i64 l.back.scale),PV.lst (List.map Face.enc l.faces)]=l:=(by show (⟨l.name,l.back,Ze Face.dec (l.faces.map Face.enc)⟩:LensM)=l;rw[Z9])
 all_goals (try simp only[eD])
 ·exact ⟨by omega,by omega,rfl,hp0.2.2,hp0.1,hp0.2.1,rfl⟩
 ·have h1:(X6 (fun w=>Zy l g w) ws==0)=false:=(by have h2:(!(X6 (fun w=>Zy l g w) ws==0))=true:=h0;simpa using h2)
  simp only[Yu,J4,h1,Qd_];rfl
 ·have h1:(X6 (fun w=>Zy l g w) ws==0)=true:=(by have h2:(!(X6 (fun w=>Zy l g w) ws==0))=false:=h0;simpa using h2)
  simp only[Yu,J4,h1,Qb_];rfl
def Zhz(l:LensM):=Ze Face.dec (List.map Face.enc l.faces)
def Zh0:=[[vI 31857,vI 31858,vB false],[vI 43011,vI 43012,vB false]]
def Zh1(l:LensM)(g:List Glass):=Yu (LensM.mk l.name l.back (Zhz l)) (Ze Glass.dec (List.map Glass.enc g)) (Ze Iv.dec Zh0)
def ZbE(l:LensM)(g:List Glass):=List.map Iv.enc (Zh1 l g).fst
set_option maxHeartbeats 4000000 in
theorem Zwi:Zk Tryz.prog 21 e21:=Zm<|Zh fun l=>Zh fun g=>EZ1 fun hp0=>by
 refine cf0 (Zb Zp2<|Zb ZpD<|Zb Zj2<|Zf) (fn:=Tryz.f21) rfl ?_
 refine sxT (fun Q=>(((Z5 l)=(LensM.mk l.name l.back (Zhz l)).enc)∧((List.map Glass.enc g=List.map Glass.enc (Ze Glass.dec (List.map Glass.enc g)))∧((Zh0=List.map Iv.enc (Ze Iv.dec Zh0))∧(((Ze Glass.dec (List.map Glass.enc g)).length≤(140737488355328:Nat)∧(Zhz l).length≤(140737488355328:Nat)∧(2:Nat)≤(1000000:Nat))∧(bif (Zh1 l g).snd !=(0:Int) then Q (PV.tup [PV.agg [vI 0,vI 0,vB false],vI (Zh1 l g).snd]) else (((0:Int)≤(0:Int)∧(ZbE l g)[(0:Nat)]?=some (Yx [vI 0,vI 0,vB false] ((ZbE l g).getD (0:Nat) [])))∧(((0:Int)≤(1:Int)∧(ZbE l g)[(1:Nat)]?=some (Yx [vI 0,vI 0,vB false] ((ZbE l g).getD (1:Nat) [])))∧Q (PV.tup [PV.agg (eIv (sub (Iv.dec ((ZbE l g).getD (0:Nat) [])) (Iv.dec ((ZbE l g).getD (1:Nat) [])))),vI 0]))))))))) (fun _=>by kernel_rfl) ?_
 delta Qn Zh1 Zh0 ZbE Zhz eIv Z5 vI vB
 refine ⟨?r5,⟨?r4,⟨?r3,⟨?r2,Zc (fun h0=>?_) (fun h0=>⟨?r1,⟨?r0, ?_⟩⟩)⟩⟩⟩⟩
 case r0|r1|r2|r3|r4|r5=>have eW:Ze Iv.dec [[PV.v (Value.int IntKind.i64 31857),PV.v (Value.int IntKind.i64 31858),PV.v (Value.bool false)],[PV.v (Value.int IntKind.i64 43011),PV.v (Value.int IntKind.i64 43012),PV.v (Value.bool false)]]=[Zo 1,Zo 2]:=(by decide+kernel);(try simp only[show (⟨l.name,l.back,l.faces⟩:LensM)=l from rfl,Zp,Z9,eW] at *);first | rfl | (simp only[LensM.enc,Z9];done) | (exact ⟨hp0.1,hp0.2,by decide⟩) | (have hz:((Yu l g [Zo 1,Zo 2]).2==0)=true:=(by have h1:(!((Yu l g [Zo 1,Zo 2]).2==0))=false:=h0;simpa using h1);have hr:=Zii (fun w=>Zy l g w) (Zo 1) (Zo 2) hz;have hl:(Yu l g [Zo 1,Zo 2]).1.length=2:=(by unfold Yu;rw[hr];rfl);first | (exact Zu (i:=0) (fun _=>rfl) (by omega) (by omega)) | (exact Zu (i:=1) (fun _=>rfl) (by omega) (by omega))) | skip
 all_goals have eW:Ze Iv.dec [[PV.v (Value.int IntKind.i64 31857),PV.v (Value.int IntKind.i64 31858),PV.v (Value.bool false)],[PV.v (Value.int IntKind.i64 43011),PV.v (Value.int IntKind.i64 43012),PV.v (Value.bool false)]]=[Zo 1,Zo 2]:=(by decide+kernel)
 all_goals (try simp only[show (⟨l.name,l.back,l.faces⟩:LensM)=l from rfl,Zp,Z9,eW] at *)
 ·have h1:((Yu l g [Zo 1,Zo 2]).2==0)=false:=(by have h2:(!((Yu l g [Zo 1,Zo 2]).2==0))=true:=h0;simpa using h2)
  unfold ZaV Zlj;rw[show (J4 (fun w=>Zy l g w) [Zo 1,Zo 2])=Yu l g [Zo 1,Zo 2] from rfl,h1];rfl
 ·have hz:((Yu l g [Zo 1,Zo 2]).2==0)=true:=(by have h1:(!((Yu l g [Zo 1,Zo 2]).2==0))=false:=h0;simpa using h1)
  have hr:Yu l g [Zo 1,Zo 2]=_:=Zii (fun w=>Zy l g w) (Zo 1) (Zo 2) hz
  unfold ZaV Zlj;rw[show (J4 (fun w=>Zy l g w) [Zo 1,Zo 2])=Yu l g [Zo 1,Zo 2] from rfl,hz,hr];rfl
def ZjJ:=Ze Glass.dec (List.map Glass.enc (Z3 (Ze I.dec [])))
def q25_1:=Ye (0:Int) (Ze RawFace.dec []) ZjJ (4:Int)
def q25_3:=LensM.mk q25_1.name (Dec.mk (20:Int) (0:Int)) (Ze Face.dec (List.map Face.enc q25_1.faces))
def ZjK:=List.map Glass.enc (Z3 (Ze I.dec []))=List.map Glass.enc ZjJ
def ZjL:=[[vI 38508,vI 38509,vB false]]
def q25_5:=List.map Iv.enc (Yu q25_3 ZjJ (Ze Iv.dec ZjL)).fst
def ZpE:=[PV.str q25_1.name,vI 20,vI 0,PV.lst (List.map Face.enc q25_1.faces)]
theorem Zwj:Zk Tryz.prog 23 e23:=Zm<|EZ0<|by
 refine cf0 (Zb Zt5<|Zb Zt6<|Zb ZpD<|Zb Zp2<|Zb Zch<|Zf) (fn:=Tryz.f23) rfl ?_
 refine sxT (fun Q=>(([]=List.map I.enc (Ze I.dec []))∧(((0:Nat)≤(140737488355328:Nat))∧(([]=List.map RawFace.enc (Ze RawFace.dec []))∧(ZjK∧(((0:Nat)≤(140737488355328:Nat)∧(2:Nat)≤(1000:Nat)∧(4:Int)≤(1000:Int))∧((ZpE=q25_3.enc)∧(ZjK∧(([]=List.map Iv.enc (Ze Iv.dec []))∧(((2:Nat)≤(140737488355328:Nat)∧(1:Nat)≤(140737488355328:Nat)∧(0:Nat)≤(1000000:Nat))∧((ZpE=q25_3.enc)∧(ZjK∧((ZjL=List.map Iv.enc (Ze Iv.dec ZjL))∧(((2:Nat)≤(140737488355328:Nat)∧(1:Nat)≤(140737488355328:Nat)∧(1:Nat)≤(1000000:Nat))∧(((0:Int)≤(0:Int)∧q25_5[(0:Nat)]?=some (Yx [vI 0,vI 0,vB false] (q25_5.getD (0:Nat) [])))∧Q (vB true)))))))))))))))) (fun _=>by kernel_rfl) ?_
 delta Qn q25_1 ZjJ q25_3 ZjK q25_5 ZpE ZjL vI vB
 refine ⟨?r13,⟨?r12,⟨?r11,⟨?r10,⟨?r9,⟨?r8,⟨?r7,⟨?r6,⟨?r5,⟨?r4,⟨?r3,⟨?r2,⟨?r1,⟨?r0, ?_⟩⟩⟩⟩⟩⟩⟩⟩⟩⟩⟩⟩⟩⟩
 case r0|r1|r2|r3|r4|r5|r6|r7|r8|r9|r10|r11|r12|r13=>first | rfl | (exact ⟨rfl,rfl⟩) | (exact ⟨by decide,by decide⟩) | (exact ⟨by decide,by decide,by decide⟩) | (refine Zu (i:=0) (fun _=>rfl) (by omega) ?_;decide+kernel) | decide+kernel | skip
 all_goals first | (kernel_rfl;done) | skip
def ZpF:=Xb [(10,e10),(16,e16),(12,e12),(25,e25),(24,e24),(23,e23),(26,e26),(19,e19),(21,e21),(27,e27)]
set_option maxHeartbeats 8000000 in
def ZjM(xl:LensM):=Ze Face.dec (List.map Face.enc xl.faces)
def ZjN(i:Int)(order:List I):=Zo (pick (Zd (((List.map I.enc order).getD i.toNat []).headD PV.nil)) (3:Int))
def ZaZ(i:Int)(g:List Glass)(order:List I)(xl:LensM):=Zy (LensM.mk xl.name xl.back (ZjM xl)) (Ze Glass.dec (List.map Glass.enc g)) (ZjN i order)
def ZpG(want:List Iv)(w:List Iv)(g:List Glass)(xl:LensM):Option St:=some ⟨137,[(10,AV.p (PV.lst (List.map Iv.enc want))),(7,AV.p (PV.lst (List.map Glass.enc g))),(8,AV.ptr 8 0),(9,AV.p (PV.lst (List.map Iv.enc w)))],[(8,(Z5 xl))],[],[],[]⟩
def ZjO(i:Int)(g:List Glass)(order:List I)(xl:LensM):=SysM.mk (Ze Surf.dec (List.map Surf.enc (ZaZ i g order xl).fst.surfs)) (ZaZ i g order xl).fst.op
theorem Zcv:CSOk Tryz.prog ZpF:=Zb Zt5<|Zb Zt6<|Zb Zpa<|Zb Zp2<|Zb ZtC<|Zb Zwj<|Zb ZtD<|Zb ZpD<|Zb Zwi<|Zb Zj2<|Zf
set_option maxHeartbeats 8000000 in
theorem Zjm:Yq Tryz.prog (ZE Tryz.f5 0) Ze9:=by
 refine lsG Zx.Γ (ZQ Zx Zcv ZZ Ya Yl (LS:=[]) (Y8 (l:=[]) (by kernel_rfl) ZC) (n:=2000) (U6 Ze7) (U6 XP) (fun x e s=>((U6 Xx x=true∧e= .ret∧s=U6 JC x)∨(U6 Xx x=false∧e= .exit 0∧s=U6 JB x))) (fun x=>(8 - x.1).toNat) Ze8 Zjh Zji (fun x hx=>?_)) cv6 (fun _=>rfl) (fun _ h=>h) (fun _ _ _ _ h f=>fC h f fE fE)
 ·obtain ⟨i,want,w,g,order,xl⟩:=x
  simp only[U6,XP] at hx
  refine sxT (fun Q=>(bif decide (i < ↑(List.map I.enc order).length) then (bif decide (i < (8:Int)) then (((0:Int)≤i∧(List.map I.enc order)[i.toNat]?=some (Yx [vI 0] ((List.map I.enc order).getD i.toNat [])))∧(((0:Int) < (3:Int)∧(3:Int)≤(4611686018427387904:Int))∧(((Z5 xl)=(LensM.mk xl.name xl.back (ZjM xl)).enc)∧((List.map Glass.enc g=List.map Glass.enc (Ze Glass.dec (List.map Glass.enc g)))∧(((Ze Glass.dec (List.map Glass.enc g)).length≤(140737488355328:Nat)∧(ZjM xl).length≤(140737488355328:Nat))∧(bif (ZaZ i g order xl).snd !=(0:Int) then Q (Ex.ret) (some ⟨137,[(6,AV.p (vB true))],[],[],[],[]⟩) else (((0:Nat) < (1:Nat)∧((List.map Iv.enc w).length+(1:Nat))* (24:Nat)≤(140737488355328:Nat)∧Lens (3:Nat) (List.map Iv.enc w++[(eIv (ZjN i order))]))∧(([PV.lst (List.map Surf.enc (ZaZ i g order xl).fst.surfs),vI (ZaZ i g order xl).fst.op.lo,vI (ZaZ i g order xl).fst.op.hi,vB (ZaZ i g order xl).fst.op.no]=(ZjO i g order xl).enc)∧(((Ze Surf.dec (List.map Surf.enc (ZaZ i g order xl).fst.surfs)).length≤(1000:Nat))∧(((0:Nat) < (1:Nat)∧((List.map Iv.enc want).length+(1:Nat))* (24:Nat)≤(140737488355328:Nat)∧Lens (3:Nat) (List.map Iv.enc want++[(eIv (parax (ZjO i g order xl)).bfl)]))∧Q (Ex.normal) (some ⟨137,[(11,AV.p (vI (IntKind.i64.wrap (i+(1:Int))))),(10,AV.p (PV.lst (List.map Iv.enc want++[(eIv (parax (ZjO i g order xl)).bfl)]))),(9,AV.p (PV.lst (List.map Iv.enc w++[(eIv (ZjN i order))]))),(7,AV.p (PV.lst (List.map Glass.enc g))),(8,AV.ptr 8 0),(2,AV.p (PV.lst (List.map I.enc order)))],[(8,(Z5 xl))],[],[(Loc.t (nat_lit 10),nat_lit 48),(Loc.t (nat_lit 9),nat_lit 48)],[]⟩))))))))))) else Q (Ex.exit (0:Nat)) (ZpG want w g xl)) else Q (Ex.exit (0:Nat)) (ZpG want w g xl))) (fun _=>by kernel_rfl) ?_
  delta ZaZ ZjN ZpG ZjO ZjM eIv Z5 vI vB
  refine Zc (fun h0=>Zc (fun h1=>⟨?r8,⟨?r7,⟨?r6,⟨?r5,⟨?r4,Zc (fun h2=>?_) (fun h2=>⟨?r3,⟨?r2,⟨?r1,⟨?r0, ?_⟩⟩⟩⟩)⟩⟩⟩⟩⟩) (fun h1=>?_)) (fun h0=>?_)
  case r0|r1|r2|r3|r4|r5|r6|r7|r8=>(try simp only[show Ze I.dec []=[] from rfl,dI,dIv,Xj,Zp,Z9,Xc,W4,Wd]);first | rfl | done | omega | (simp only[SysM.enc,LensM.enc,Xc,Z9];done) | (exact ⟨hp0.1,by omega,by decide⟩) | (exact ⟨by omega,by omega⟩) | (exact QT_ (XU _ _ _) (by decide)) | (simp only[eW];exact ⟨by omega,by omega,by decide⟩) | (simp only[show Ze Iv.dec []=[] from rfl,QJ_];exact ⟨by omega,by omega,QT_ hwl (by decide)⟩) | (obtain ⟨a1,a2,a3,a4,a5,a6,a7⟩:=hx;(try simp only[Qk_,Qc_] at *);first | exact Zu (fun _=>rfl) (by omega) (by omega) | (exact ⟨by omega,by omega⟩) | (exact ⟨by decide,by omega,YM (YL (e:=Iv.enc) (fun _=>rfl) _) rfl⟩)) | (obtain ⟨a1,a2,a3,a4,a5⟩:=hx;subst a5;simp only[Qc_] at h0;exact Zu (fun _=>rfl) (by omega) (by omega)) | (simp only[show Ze I.dec []=[] from rfl,dI,dIv,Xj,Zp,Z9,W4,Qk_,eW] at *;have q:=eq_of_beq h5;first | exact Zu (i:=1) (fun _=>rfl) (by omega) (by omega) | exact Zu (i:=0) (fun _=>rfl) (by omega) (by omega)) | skip
  all_goals (obtain ⟨a1,a2,a3,a4,a5,a6,a7⟩:=hx)
  all_goals have hw:IntKind.i64.wrap (i+1)=i+1:=Zg (by constructor<;>omega)
  all_goals simp only[ZuS,hw,Qk_,Zp,Z9,W4,Wd,Xc] at *
  all_goals first
   | (have h0':i < (order.length:Int):=Qy_ h0
      have h1':i < 8:=Qy_ h1
      have eb:Xn (8 - i).toNat order i=Zo (pick (order.getD i.toNat ⟨0⟩).n 3)::Xn (8 - (i+1)).toNat order (i+1):=(by rw[show (8 - i).toNat=(8 - (i+1)).toNat+1 by omega,Zdp,h0,h1];rfl)
      first
       | (have hs:(((Zy xl g (Zo (pick (order.getD i.toNat ⟨0⟩).n 3))).2 !=0)=true):=h2
          have hn:=ZnA (fun w=>Zy xl g w) (Zo (pick (order.getD i.toNat ⟨0⟩).n 3)) (Xn (8 - (i+1)).toNat order (i+1)) hs
          refine .inr ⟨by simp,_,rfl,.inl ⟨?_,by trivial, ?_⟩⟩
          ·unfold U6 Xx;(try dsimp only);rw[eb,hn];rfl
          ·unfold U6 JC;rfl)
       | (have hs:(((Zy xl g (Zo (pick (order.getD i.toNat ⟨0⟩).n 3))).2 !=0)=false):=h2
          have ht:X6 (fun w=>Zy xl g w) (Zo (pick (order.getD i.toNat ⟨0⟩).n 3)::Xn (8 - (i+1)).toNat order (i+1))=X6 (fun w=>Zy xl g w) (Xn (8 - (i+1)).toNat order (i+1)):=(by rw[Zdo,hs];rfl)
          refine .inl ⟨by trivial,(i+1,want++[X7 (fun v=>Zy xl g v) (Zo (pick (order.getD i.toNat ⟨0⟩).n 3))],w++[Zo (pick (order.getD i.toNat ⟨0⟩).n 3)],g,order,xl), ?_, ?_, ?_, ?_⟩
          ·simp only[U6,Ze7,QR_,QE_,QN_];rfl
          ·simp only[U6,XP,Qx_,Qs_,Q1_];exact ⟨by omega,by omega,a3,a4,a5,by omega,by omega⟩
          ·(show (8 - (i+1)).toNat < (8 - i).toNat);omega
          ·intro e s' h
           unfold U6 Xx JC at h ⊢
           (try dsimp only at h ⊢)
           rw[eb,ht]
           refine h.imp (fun h=>h) (fun h=>⟨h.1,h.2.1,h.2.2.trans ?_⟩)
           delta JB;(try dsimp only);rw[eb];simp only[List.map_cons,List.append_assoc,List.cons_append,List.nil_append]))
   | (have eb:Xn (8 - i).toNat order i=[]:=(by
       by_cases hi:i < (order.length:Int)∧i < 8
       ·exfalso;(try simp only[Qc_,Qe_] at h0);(try simp only[Qc_,Qe_] at h1);omega
       ·cases hk:(8 - i).toNat with
        | zero=>rfl
        | succ k=>rw[Zdp,show (decide (i < (order.length:Int))&&decide (i < 8))=false by (rw[Bool.and_eq_false_iff,Qe_,Qe_];omega)];rfl)
      exact .inr ⟨by simp,_,rfl,.inr ⟨by unfold U6 Xx;(try dsimp only);rw[eb];rfl,by trivial,by unfold U6 JB;(try dsimp only);(rw[eb,List.map_nil,List.append_nil,List.append_nil])<;>rfl⟩⟩)
set_option maxHeartbeats 8000000 in
def Zh2(i:Int)(a:List Iv):=(List.map Iv.enc a).getD i.toNat []
def Zh3(i:Int)(b:List Iv):=(List.map Iv.enc b).getD i.toNat []
set_option maxHeartbeats 8000000 in
theorem Zio:Yq Tryz.prog (ZE Tryz.f5 1) ZdB:=by
 refine lsG Zx.Γ (ZQ Zx Zcv ZZ Ya Yl (LS:=[]) (Y8 (l:=[]) (by kernel_rfl) ZC) (n:=2000) (U6 Zjj) (U6 XF) (fun x e s=>(e= .exit 2∧s=U6 ZdA x)) (fun x=>(x.2.2.2.2.1 - x.1).toNat) Zd9 Zil Zim (fun x hx=>?_)) cv6 (fun _=>rfl) (fun _ h=>h) (fun _ _ _ _ h f=>fE h f)
 ·obtain ⟨i,b,a,g,m,xl⟩:=x
  simp only[U6,XF] at hx
  refine sxT (fun Q=>(bif decide (i < m) then (((0:Int)≤i∧(List.map Iv.enc a)[i.toNat]?=some (Yx [vI 0,vI 0,vB false] (Zh2 i a)))∧(((0:Int)≤i∧(List.map Iv.enc b)[i.toNat]?=some (Yx [vI 0,vI 0,vB false] (Zh3 i b)))∧(bif !(Zd ((Zh2 i a).headD PV.nil)==Zd ((Zh3 i b).headD PV.nil)&&(Zd ((Zh2 i a).tail.headD PV.nil)==Zd ((Zh3 i b).tail.headD PV.nil)&&(Zz ((Zh2 i a).tail.tail.headD PV.nil)==Zz ((Zh3 i b).tail.tail.headD PV.nil)&&true))) then Q (Ex.ret) (some ⟨137,[],[],[],[],[]⟩) else Q (Ex.normal) (some ⟨137,[(86,AV.p (vI (IntKind.i64.wrap (i+(1:Int))))),(10,AV.p (PV.lst (List.map Iv.enc b))),(15,AV.p (PV.lst (List.map Iv.enc a))),(7,AV.p (PV.lst (List.map Glass.enc g))),(8,AV.ptr 8 0),(85,pI m)],[(8,(Z5 xl))],[],[],[]⟩)))) else Q (Ex.exit (2:Nat)) (some ⟨137,[(7,AV.p (PV.lst (List.map Glass.enc g))),(8,AV.ptr 8 0)],[(8,(Z5 xl))],[],[],[]⟩))) (fun _=>by kernel_rfl) ?_
  delta Zh2 Zh3 Z5 vI vB pI
  refine Zc (fun h0=>⟨?r1,⟨?r0,Zc (fun h1=>?_) (fun h1=>?_)⟩⟩) (fun h0=>?_)
  case r0|r1=>(try simp only[show Ze I.dec []=[] from rfl,dI,dIv,Xj,Zp,Z9,Xc,W4,Wd]);first | rfl | done | omega | (simp only[SysM.enc,LensM.enc,Xc,Z9];done) | (exact ⟨hp0.1,by omega,by decide⟩) | (exact ⟨by omega,by omega⟩) | (exact QT_ (XU _ _ _) (by decide)) | (simp only[eW];exact ⟨by omega,by omega,by decide⟩) | (simp only[show Ze Iv.dec []=[] from rfl,QJ_];exact ⟨by omega,by omega,QT_ hwl (by decide)⟩) | (obtain ⟨a1,a2,a3,a4,a5,a6,a7⟩:=hx;(try simp only[Qk_,Qc_] at *);first | exact Zu (fun _=>rfl) (by omega) (by omega) | (exact ⟨by omega,by omega⟩) | (exact ⟨by decide,by omega,YM (YL (e:=Iv.enc) (fun _=>rfl) _) rfl⟩)) | (obtain ⟨a1,a2,a3,a4,a5⟩:=hx;subst a5;simp only[Qc_] at h0;exact Zu (fun _=>rfl) (by omega) (by omega)) | (simp only[show Ze I.dec []=[] from rfl,dI,dIv,Xj,Zp,Z9,W4,Qk_,eW] at *;have q:=eq_of_beq h5;first | exact Zu (i:=1) (fun _=>rfl) (by omega) (by omega) | exact Zu (i:=0) (fun _=>rfl) (by omega) (by omega)) | skip
  all_goals obtain ⟨a1,a2,a3,a4,a5⟩:=hx
  all_goals subst a5
  all_goals (try simp only[Qc_,Qe_] at h0)
  ·exfalso;simp only[beq_self_eq_true,QZ_,Qu_,Qr_] at h1;cases h1
  ·have hw:IntKind.i64.wrap (i+1)=i+1:=Zg (by constructor<;>omega)
   refine .inl ⟨by trivial,(IntKind.i64.wrap (i+1),b,b,g,m,xl),rfl, ?_, ?_, ?_⟩
   ·simp only[U6,XF,hw];exact ⟨by omega,by omega,a3,a4,by trivial⟩
   ·simp only[hw];omega
   ·exact fun e s h=>h
  ·exact .inr ⟨by simp,_,rfl,by trivial,rfl⟩
theorem Zmg:Yd Tryz.prog [(7,Ze9),(19,ZdB)] Tryz.f5:=Yh (l:=[ZE Tryz.f5 0,ZE Tryz.f5 1]) (by kernel_rfl) (Yr (i:=7) (by kernel_rfl) rfl Zjm (Yr (i:=19) (by kernel_rfl) rfl Zio (ZC)))
def Zh4(l:List RawFace):=Ze RawFace.dec (List.map RawFace.enc l)
def XZ:=Ze Glass.dec (List.map Glass.enc (Z3 (Ze I.dec [])))
def XL(back:Int)(l:List RawFace):=Ye back (Zh4 l) XZ (5:Int)
def Zh5(back:Int)(l:List RawFace):=Ze Face.dec (List.map Face.enc (XL back l).faces)
def ZbF(back:Int)(l:List RawFace):=Ze Face.dec (List.map Face.enc (Zh5 back l))
def ZeF(back:Int)(l:List RawFace):=LensM.mk (XL back l).name (XL back l).back (Ze Face.dec (List.map Face.enc (ZbF back l)))
def ZcE:=Ze Glass.dec (List.map Glass.enc XZ)
def Zh6:=Ze Glass.dec (List.map Glass.enc ZcE)
def Zh7:=[[vI 31857,vI 31858,vB false],[vI 43011,vI 43012,vB false]]
def ZjP(back:Int)(l:List RawFace):=Yu (ZeF back l) Zh6 (Ze Iv.dec Zh7)
def ZeG(back:Int)(l:List RawFace):=LensM.mk (XL back l).name (XL back l).back (ZbF back l)
def ZbG(order:List I):=Ze I.dec (List.map I.enc order)
def Zh8(order:List I):=Ze Iv.dec (List.map Iv.enc (Ze Iv.dec []++Xn (8:Nat) (ZbG order) (0:Int)))
def ZcF(back:Int)(l:List RawFace)(order:List I):=Yu (ZeG back l) ZcE (Zh8 order)
def ZeH(back:Int)(l:List RawFace):=ZaV (ZeF back l) Zh6
def ZaF(back:Int)(l:List RawFace):=List.map Iv.enc (ZjP back l).fst
def Zh9(back:Int)(l:List RawFace):=sub (Iv.dec ((ZaF back l).getD (0:Nat) [])) (Iv.dec ((ZaF back l).getD (1:Nat) []))
def ZcG(order:List I):=Xn (8:Nat) (ZbG order) (0:Int)
def Zmh(back:Int)(l:List RawFace):=[PV.str (XL back l).name,vI (XL back l).back.c,vI (XL back l).back.scale,PV.lst (List.map Face.enc (Zh5 back l))]
def Zmi(back:Int)(l:List RawFace):=[PV.str (XL back l).name,vI (XL back l).back.c,vI (XL back l).back.scale,PV.lst (List.map Face.enc (ZbF back l))]
def Zmj:=List.map Glass.enc (Z3 (Ze I.dec []))=List.map Glass.enc XZ
def ZhA(back:Int)(l:List RawFace):=LensM.mk (XL back l).name (XL back l).back (Zh5 back l)
def Zmk:=List.map Glass.enc XZ=List.map Glass.enc ZcE
def Zml:=List.map Glass.enc ZcE=List.map Glass.enc Zh6
def ZcH(back:Int)(l:List RawFace):=LensM.dec (Z5 (XL back l))
set_option maxHeartbeats 8000000 in
theorem Zmm(back:Int)(l:List RawFace)(order:List I)(hp0:l.length≤140737488355328∧order.length≤140737488355328):Con Tryz.prog 5 [.v (.int .i64 back),.lst (l.map RawFace.enc),.lst (order.map I.enc)] (.v (.bool true)):=by
 refine cfL Zcv Zmg rfl ?_
 refine sxT (fun Q=>(([]=List.map I.enc (Ze I.dec []))∧(((0:Nat)≤(140737488355328:Nat))∧((List.map RawFace.enc l=List.map RawFace.enc (Zh4 l))∧(Zmj∧(((Zh4 l).length≤(140737488355328:Nat)∧(2:Nat)≤(1000:Nat)∧(5:Int)≤(1000:Int))∧(([]=List.map Iv.enc (Ze Iv.dec []))∧(([]=List.map Iv.enc (Ze Iv.dec []))∧(Zmj∧((List.map I.enc order=List.map I.enc (ZbG order))∧(((Z5 (XL back l))=(ZhA back l).enc)∧((XP (0:Int) (Ze Iv.dec []) (Ze Iv.dec []) XZ (ZbG order) (ZhA back l))∧(bif Xx (0:Int) (Ze Iv.dec []) (Ze Iv.dec []) XZ (ZbG order) (ZhA back l) then Q (vB true) else (((Zmh back l)=(ZeG back l).enc)∧(Zmk∧((List.map Iv.enc (Ze Iv.dec []++Xn (8:Nat) (ZbG order) (0:Int))=List.map Iv.enc (Zh8 order))∧(((2:Nat)≤(140737488355328:Nat)∧(ZbF back l).length≤(140737488355328:Nat)∧(Zh8 order).length≤(1000000:Nat))∧(bif (ZcF back l order).snd !=(0:Int) then Q (vB false) else (bif (((List.map Iv.enc (ZcF back l order).fst).length:Nat):Int)!=(((List.map Iv.enc (Ze Iv.dec []++List.map (X7 fun v=>Zy (ZcH back l) XZ v) (ZcG order))).length:Nat):Int) then Q (vB false) else ((List.map Iv.enc (Ze Iv.dec []++List.map (X7 fun v=>Zy (ZcH back l) XZ v) (ZcG order))=List.map Iv.enc (Ze Iv.dec (List.map Iv.enc (Ze Iv.dec []++List.map (X7 fun v=>Zy (ZcH back l) XZ v) (ZcG order)))))∧((List.map Iv.enc (ZcF back l order).fst=List.map Iv.enc (Ze Iv.dec (List.map Iv.enc (ZcF back l order).fst)))∧(Zmk∧(((Zmh back l)=(ZeG back l).enc)∧((XF (0:Int) (Ze Iv.dec (List.map Iv.enc (Ze Iv.dec []++List.map (X7 fun v=>Zy (ZcH back l) XZ v) (ZcG order)))) (Ze Iv.dec (List.map Iv.enc (ZcF back l order).fst)) ZcE ((((List.map Iv.enc (Ze Iv.dec []++List.map (X7 fun v=>Zy (ZcH back l) XZ v) (ZcG order))).length:Nat):Int)) (ZeG back l))∧(((Zmi back l)=(ZeF back l).enc)∧(Zml∧((Zh7=List.map Iv.enc (Ze Iv.dec Zh7))∧(((2:Nat)≤(140737488355328:Nat)∧(Ze Face.dec (List.map Face.enc (ZbF back l))).length≤(140737488355328:Nat)∧(2:Nat)≤(1000000:Nat))∧(((Zmi back l)=(ZeF back l).enc)∧(Zml∧(((2:Nat)≤(140737488355328:Nat)∧(Ze Face.dec (List.map Face.enc (ZbF back l))).length≤(140737488355328:Nat))∧(bif (ZjP back l).snd==(ZeH back l).snd then (bif (ZjP back l).snd !=(0:Int) then Q (vB true) else (bif (((ZaF back l).length:Nat):Int)==(2:Int) then (((0:Int)≤(0:Int)∧(ZaF back l)[(0:Nat)]?=some (Yx [vI 0,vI 0,vB false] ((ZaF back l).getD (0:Nat) [])))∧(((0:Int)≤(1:Int)∧(ZaF back l)[(1:Nat)]?=some (Yx [vI 0,vI 0,vB false] ((ZaF back l).getD (1:Nat) [])))∧Q (vB ((ZeH back l).fst.lo==(Zh9 back l).lo&&((ZeH back l).fst.hi==(Zh9 back l).hi&&((ZeH back l).fst.no==(Zh9 back l).no&&true)))))) else Q (vB false))) else Q (vB false))))))))))))))))))))))))))))))))) (fun _=>by kernel_rfl) ?_
 delta Qn XL ZjP XZ ZbF ZcF ZeH ZcE ZeF ZbG Zh9 Zh5 Zh8 ZeG Zh7 Zh6 ZcG ZaF Zmh Zmi Zmj ZhA Zmk Zml Zh4 ZcH Z5 vI vB
 have hg:=ZgZ []
 have hf:=Zlc back l (Z3 []) 5 (by decide)
 have hwl:=ZqM 8 order 0
 have eW:Ze Iv.dec [[PV.v (Value.int IntKind.i64 31857),PV.v (Value.int IntKind.i64 31858),PV.v (Value.bool false)],[PV.v (Value.int IntKind.i64 43011),PV.v (Value.int IntKind.i64 43012),PV.v (Value.bool false)]]=[Zo 1,Zo 2]:=(by decide+kernel)
 refine ⟨?r26,⟨?r25,⟨?r24,⟨?r23,⟨?r22,⟨?r21,⟨?r20,⟨?r19,⟨?r18,⟨?r17,⟨?_,Zc (fun h0=>?_) (fun h0=>⟨?r16,⟨?r15,⟨?r14,⟨?r13,Zc (fun h1=>?_) (fun h1=>Zc (fun h2=>?_) (fun h2=>⟨?r12,⟨?r11,⟨?r10,⟨?r9,⟨?_,⟨?r8,⟨?r7,⟨?r6,⟨?r5,⟨?r4,⟨?r3,⟨?r2,Zc (fun h3=>Zc (fun h4=>?_) (fun h4=>Zc (fun h5=>⟨?r1,⟨?r0, ?_⟩⟩) (fun h5=>?_))) (fun h3=>?_)⟩⟩⟩⟩⟩⟩⟩⟩⟩⟩⟩⟩))⟩⟩⟩⟩)⟩⟩⟩⟩⟩⟩⟩⟩⟩⟩⟩
 case r0|r1|r2|r3|r4|r5|r6|r7|r8|r9|r10|r11|r12|r13|r14|r15|r16|r17|r18|r19|r20|r21|r22|r23|r24|r25|r26=>(try simp only[show Ze I.dec []=[] from rfl,dI,dIv,Xj,Zp,Z9,Xc,W4,Wd]);first | rfl | done | omega | (simp only[SysM.enc,LensM.enc,Xc,Z9];done) | (exact ⟨hp0.1,by omega,by decide⟩) | (exact ⟨by omega,by omega⟩) | (exact QT_ (XU _ _ _) (by decide)) | (simp only[eW];exact ⟨by omega,by omega,by decide⟩) | (simp only[show Ze Iv.dec []=[] from rfl,QJ_];exact ⟨by omega,by omega,QT_ hwl (by decide)⟩) | (obtain ⟨a1,a2,a3,a4,a5,a6,a7⟩:=hx;(try simp only[Qk_,Qc_] at *);first | exact Zu (fun _=>rfl) (by omega) (by omega) | (exact ⟨by omega,by omega⟩) | (exact ⟨by decide,by omega,YM (YL (e:=Iv.enc) (fun _=>rfl) _) rfl⟩)) | (obtain ⟨a1,a2,a3,a4,a5⟩:=hx;subst a5;simp only[Qc_] at h0;exact Zu (fun _=>rfl) (by omega) (by omega)) | (simp only[show Ze I.dec []=[] from rfl,dI,dIv,Xj,Zp,Z9,W4,Qk_,eW] at *;have q:=eq_of_beq h5;first | exact Zu (i:=1) (fun _=>rfl) (by omega) (by omega) | exact Zu (i:=0) (fun _=>rfl) (by omega) (by omega)) | skip
 all_goals (try simp only[show Ze I.dec []=[] from rfl,dI,dIv,Xj,Zp,Z9,Xc,show Ze Iv.dec []=[] from rfl,Qk_,QJ_,W4,Wd,eW] at *)
 all_goals first | rfl | (simp only[XP];exact ⟨by decide,by decide,hp0.2,by omega,by omega,by decide,by decide⟩) | skip
 all_goals have hz:(X6 (fun v=>Zy (Ye back l (Z3 []) 5) (Z3 []) v) (Xn 8 order 0)==0)=true:=(by have q:(!(X6 (fun v=>Zy (Ye back l (Z3 []) 5) (Z3 []) v) (Xn 8 order 0)==0))=false:=h0;simpa using q)
 all_goals have hs:Yu (Ye back l (Z3 []) 5) (Z3 []) (Xn 8 order 0)=_:=Zuv _ _ hz
 all_goals (try simp only[hs,Qk_] at *)
 all_goals have eD:LensM.dec [PV.str (Ye back l (Z3 []) 5).name,PV.v (Value.int IntKind.i64 (Ye back l (Z3 []) 5).back.c),PV.v (Value.int IntKind.i64 (Ye back l (Z3 []) 5).back.scale),PV.lst (List.map Face.enc (Ye back l (Z3 []) 5).faces)]=Ye back l (Z3 []) 5:=(by show (⟨(Ye back l (Z3 []) 5).name,(Ye back l (Z3 []) 5).back,Ze Face.dec ((Ye back l (Z3 []) 5).faces.map Face.enc)⟩:LensM)=Ye back l (Z3 []) 5;rw[Z9])
 all_goals first
  | exact absurd h1 (by decide)
  | (exfalso;simp only[bne_self_eq_false,K4_] at h2;done)
  | (simp only[bne_self_eq_false] at h2;cases h2;done)
  | (simp only[XF,eD,Qk_];exact ⟨by decide,by omega,by trivial,by omega,by trivial⟩)
  | (exfalso;rw[(Zb0 h4).1] at h5;exact absurd (show (((2:Nat):Int)==2)=false from h5) (by decide))
  | (rw[(Zb0 h4).1,(Zb0 h4).2];(show PV.v (Value.bool (_==_&&(_==_&&(_==_&&true))))=_);simp only[beq_self_eq_true,QZ_];done)
  | (rw[(Zb0 h4).1,(Zb0 h4).2];generalize X7 (fun w=>Zy (Ye back l (Z3 []) 5) (Z3 []) w) (Zo 1)=A;generalize X7 (fun w=>Zy (Ye back l (Z3 []) 5) (Z3 []) w) (Zo 2)=B;(show PV.v (Value.bool ((sub A B).lo==(sub A B).lo&&((sub A B).hi==(sub A B).hi&&((sub A B).no==(sub A B).no&&true))))=_);simp only[beq_self_eq_true,QZ_];done)
  | (exfalso;rw[ZqN] at h3;simp only[beq_self_eq_true,Bool.true_eq_false] at h3;done)
  | skip
end Go.Men
namespace Go.Ev
open Go.RowKit Go.ChangeShapes Go.Deep
inductive SK where
 | int (k:IntKind)
 | bool
 | str
def JH:SK→Value→Prop
 | .int k,v=>∃n,v= .int k n∧k.min≤n∧n≤k.max
 | .bool,v=>∃b,v= .bool b
 | .str,v=>∃s,v= .string s∧s.size≤maxLen
def px:Value→PV
 | .string s=> .str s.data.toList
 | v=> .v v
def skT(P:Program)(t:TypeId):Option SK:=match P.underlying t with
 | some (.int k)=>some (.int k)
 | some .bool=>some .bool
 | some .string=>some .str
 | _=>none
def ZjQ{α β:Type}(f:Nat→α→Option β):Nat→List α→Option (List β)
 | _,[]=>some []
 | i,x::r=>match f i x,ZjQ f (i+1) r with
   | some y,some l=>some (y::l)
   | _,_=>none
def ZpH(P:Program)(t:TypeId):Option (List SK):=match P.underlying t with
 | some (.struct fs)=>bif Nat.beq (P.cellsOf t) fs.size then ZjQ (fun i (f:Field)=>bif Nat.beq f.offset i&&Nat.beq (P.cellsOf f.type) 1 then skT P f.type else none) 0 fs.toList else none
 | some (.array n e)=>bif Nat.beq (P.cellsOf t) n&&Nat.beq (P.cellsOf e) 1 then (match skT P e with | some k=>some (List.replicate n k) | none=>none) else none
 | _=>bif Nat.beq (P.cellsOf t) 1 then (match skT P t with | some k=>some [k] | none=>none) else none
section
variable {H:Type}{enc:TypeId×Value→H}{P:Program}{w:World}{base:Nat}{spare:Nat→Bool}{held:Bool}
theorem ZeI{t:TypeId}{k:SK}(hk:skT P t=some k){fuel:Nat}{cs:List Value}{x:DataW H×List MemPlace}(h:DataW.trod enc P w base spare held fuel t cs=some x):∃v,cs=[v]∧JH k v:=by
 unfold skT at hk
 split at hk
 ·rename_i k' hu
  cases Qa_ hk
  obtain ⟨n,h1,_,h2⟩:=DataW.trod_int hu h
  simp only[Lit.wf,Qh_,Qc_] at h2
  exact ⟨_,h1,n,rfl,h2.1,h2.2⟩
 ·rename_i hu
  cases Qa_ hk
  obtain ⟨b,h1,_⟩:=DataW.trod_bool hu h
  exact ⟨_,h1,b,rfl⟩
 ·rename_i hu
  cases Qa_ hk
  obtain ⟨s,h1,_,h2⟩:=DataW.trod_string hu h
  exact ⟨_,h1,s,rfl,h2⟩
 ·cases hk
theorem ZeJ{α β:Type}{f:α→Option β}:∀{l:List α} {r:List β},l.mapM f=some r→∀x∈l,∃y,f x=some y
 | [],_,_,x,hx=>absurd hx (by simp)
 | a::l,r,h,x,hx=>by
   rw[List.mapM_cons] at h
   obtain ⟨y,h1,h2⟩:=Option.bind_eq_some_iff.1 h
   obtain ⟨ys,h3,_⟩:=Option.bind_eq_some_iff.1 h2
   rcases Q9_.1 hx with e | hx
   ·subst e;exact ⟨y,h1⟩
   ·exact ZeJ h3 x hx
theorem ZiX{α β:Type}{f:Nat→α→Option β}:∀{l:List α} {i:Nat} {r:List β},ZjQ f i l=some r→r.length=l.length∧∀(j:Nat) (y:β),r[j]?=some y→∃x,l[j]?=some x∧f (i+j) x=some y
 | [],i,r,h=>by
   cases Qa_ h
   exact ⟨rfl,fun j y hj=>by simp at hj⟩
 | a::l,i,r,h=>by
   unfold ZjQ at h
   split at h
   ·rename_i y ys h1 h2
    cases Qa_ h
    obtain ⟨e1,e2⟩:=ZiX h2
    refine ⟨by simp[e1],fun j z hj=>?_⟩
    cases j with
    | zero=>simp at hj;subst hj;exact ⟨a,by simp,by simpa using h1⟩
    | succ j=>
      obtain ⟨x,h3,h4⟩:=e2 j z (by simpa using hj)
      exact ⟨x,by simpa using h3,by rw[←h4];congr 1;omega⟩
   ·cases h
theorem ZrE{t:TypeId}{ks:List SK}(hk:ZpH P t=some ks){fuel:Nat}{cs:List Value}{x:DataW H×List MemPlace}(h:DataW.trod enc P w base spare held fuel t cs=some x):
 cs.length=ks.length∧P.cellsOf t=ks.length∧∀(i:Nat) (k:SK),ks[i]?=some k→∃v,cs[i]?=some v∧JH k v:=by
 unfold ZpH at hk
 split at hk
 ·rename_i fs hu
  cases hb:Nat.beq (P.cellsOf t) fs.size with
  | false=>rw[hb] at hk;cases hk
  | true=>
    rw[hb,Qb_] at hk
    have hsz:=Qj_ hb
    obtain ⟨e1,e2⟩:=ZiX hk
    cases fuel with
    | zero=>exact absurd h (by simp[DataW.trod])
    | succ fuel=>
      simp only[DataW.trod,hu] at h
      split at h
      ·rename_i hl
       simp only[Option.map_eq_some_iff] at h
       obtain ⟨ys,h1,_⟩:=h
       refine ⟨by rw[hl,hsz,e1];simp,by rw[hsz,e1];simp,fun i k hi=>?_⟩
       obtain ⟨f,hf,hc⟩:=e2 i k hi
       rw[QP_] at hc
       cases hb2:(Nat.beq f.offset i&&Nat.beq (P.cellsOf f.type) 1) with
       | false=>rw[hb2] at hc;cases hc
       | true=>
         rw[hb2,Qb_] at hc
         rw[Qh_] at hb2
         have ho:=Qj_ hb2.1
         have h1c:=Qj_ hb2.2
         obtain ⟨y,hy⟩:=ZeJ h1 f (Qz_ hf)
         obtain ⟨v,hv,hok⟩:=ZeI hc hy
         rw[ho,h1c] at hv
         refine ⟨v, ?_,hok⟩
         have:=Kj_ (fun l:List Value=>l[0]?) hv
         simpa using this
      ·cases h
 ·rename_i n e hu
  cases hb:(Nat.beq (P.cellsOf t) n&&Nat.beq (P.cellsOf e) 1) with
  | false=>rw[hb] at hk;cases hk
  | true=>
    rw[hb,Qb_] at hk
    rw[Qh_] at hb
    have hsz:=Qj_ hb.1
    have h1c:=Qj_ hb.2
    split at hk
    ·rename_i k hsk
     cases Qa_ hk
     cases fuel with
     | zero=>exact absurd h (by simp[DataW.trod])
     | succ fuel=>
       simp only[DataW.trod,hu] at h
       split at h
       ·rename_i hl
        simp only[Option.map_eq_some_iff] at h
        obtain ⟨ys,h1,_⟩:=h
        refine ⟨by rw[hl,hsz];simp,by rw[hsz];simp,fun i k' hi=>?_⟩
        have hin:i < n:=by
         have:=(Qo_.1 hi).1
         simpa using this
        have hkk:k'=k:=by
         rw[List.getElem?_replicate] at hi
         rw[if_pos hin] at hi
         exact (Qa_ hi).symm
        subst hkk
        obtain ⟨y,hy⟩:=ZeJ h1 i (by simpa using hin)
        obtain ⟨v,hv,hok⟩:=ZeI hsk hy
        rw[h1c,Nat.mul_one] at hv
        refine ⟨v, ?_,hok⟩
        have:=Kj_ (fun l:List Value=>l[0]?) hv
        simpa using this
       ·cases h
    ·cases hk
 ·cases hb:Nat.beq (P.cellsOf t) 1 with
  | false=>rw[hb] at hk;cases hk
  | true=>
    rw[hb,Qb_] at hk
    have h1c:=Qj_ hb
    split at hk
    ·rename_i k hsk
     cases Qa_ hk
     obtain ⟨v,rfl,hok⟩:=ZeI hsk h
     refine ⟨rfl,h1c,fun i k' hi=>?_⟩
     cases i with
     | zero=>simp at hi;subst hi;exact ⟨v,rfl,hok⟩
     | succ i=>simp at hi
    ·cases hk
theorem Zmn{k:SK}{v:Value}(h:JH k v)(hw:Nat→Nat)(w:World):Rep hw w v (px v)∧v.oneCell'=true:=by
 cases k with
 | int k=>obtain ⟨n,rfl,_⟩:=h;exact ⟨.v _ rfl,rfl⟩
 | bool=>obtain ⟨b,rfl⟩:=h;exact ⟨.v _ rfl,rfl⟩
 | str=>
   obtain ⟨s,rfl,_⟩:=h
   exact ⟨.str s.data.toList,rfl⟩
def Zcw(ks:List SK)(xs:List PV):Prop:=xs.length=ks.length∧∀(i:Nat) (k:SK),ks[i]?=some k→∃v,JH k v∧xs[i]?=some (px v)
theorem Zmo{xs:List PV}(h:Zcw [] xs):xs=[]:=QM_ h.1
theorem ZrF{k:SK}{ks:List SK}{xs:List PV}(h:Zcw (k::ks) xs):∃v r,xs=px v::r∧JH k v∧Zcw ks r:=by
 obtain ⟨h1,h2⟩:=h
 cases xs with
 | nil=>cases h1
 | cons x r=>
   obtain ⟨v,h3,h4⟩:=h2 0 k rfl
   simp at h4
   subst h4
   exact ⟨v,r,rfl,h3,by simpa using h1,fun i k' hi=>h2 (i+1) k' (by simpa using hi)⟩
theorem Je{k:IntKind}{ks:List SK}{xs:List PV}(h:Zcw (.int k::ks) xs):∃n r,xs= .v (.int k n)::r∧(k.min≤n∧n≤k.max)∧Zcw ks r:=by
 obtain ⟨v,r,e,⟨n,rfl,hb⟩,hr⟩:=ZrF h
 exact ⟨n,r,e,hb,hr⟩
theorem Zu2{ks:List SK}{cs:List Value}(hl:cs.length=ks.length)(h:∀(i:Nat) (k:SK),ks[i]?=some k→∃v,cs[i]?=some v∧JH k v):Zcw ks (cs.map px):=
 ⟨by simpa using hl,fun i k hi=>by
   obtain ⟨v,h1,h2⟩:=h i k hi
   exact ⟨v,h2,by rw[Q6_,h1];rfl⟩⟩
theorem Zmp{r:Reach}{b0:Nat}{t e:TypeId}(ht:P.underlying t=some (.slice e)){v:Value}(h:Value.okWide P w r b0 t v):v= .slice none 0 0∨∃blk off len cap,v= .slice (some ⟨blk,off,none⟩) len cap∧blk < w.heap.size:=by
 unfold Value.okWide at h
 rw[ht] at h
 simp only[Cell.okWide,ht] at h
 have h2:Cell.ok P w r b0 t v:=h
 unfold Cell.ok at h2
 rw[ht] at h2
 cases v with
 | slice a len cap=>
   cases a with
   | none=>
     refine .inl ?_
     cases len with
     | zero=>cases cap with
       | zero=>rfl
       | succ c=>exact h2.elim
     | succ l=>exact h2.elim
   | some a=>
     obtain ⟨_,_,_,hs,row,cells,hsh,_⟩:=h2
     obtain ⟨blk,off,spot⟩:=a
     simp only at hs
     subst hs
     refine .inr ⟨blk,off,len,cap,rfl, ?_⟩
     simp only[World.shape?] at hsh
     by_cases hlt:blk < w.heap.size
     ·exact hlt
     ·rw[Array.getElem?_eq_none (by omega)] at hsh
      cases hsh
 | _=>exact h2.elim
theorem ZiY{r:Reach}{b0:Nat}{t e:TypeId}{ks:List SK}(ht:P.underlying t=some (.slice e))(hk:ZpH P e=some ks)
 {v:Value} {d:DataW H} {ps:List MemPlace} (hval:Value.okWide P w r b0 t v) (hd:DataW.Trod enc P w base spare held t v d ps):
 ∃rows N,(∀x∈rows,Zcw ks x)∧(∀hw:Nat→Nat,(∀k,k < w.heap.size→N≤hw k)→Rep hw w v (.lst rows))∧∀R,(d.weights P t).all (·≤R)=true→rows.length *P.bytesOf e≤R:=by
 obtain ⟨fuel,hf⟩:=hd
 rcases Zmp ht hval with rfl | ⟨blk,off,len,cap,rfl,hblk⟩
 ·exact ⟨[],0,fun x hx=>absurd hx (by simp),fun _ _=> .lnil,fun R _=>by simp⟩
 ·have hcs:(Value.slice (some ⟨blk,off,none⟩) len cap).cells.toList=[.slice (some ⟨blk,off,none⟩) len cap]:=rfl
  rw[hcs] at hf
  rcases open_slice ht hf with ⟨h0,_⟩ | ⟨a,len',cap',m,n,D,Pl,e1,hb,hl,hm,hmm,e2,hx⟩
  ·cases h0
  ·injection e1 with e1 _
   injection e1 with ea el ec
   injection ea with ea
   subst ea;subst el;subst ec
   have hlm:len≤m:=by rw[hmm];split<;>omega
   have hrow:∀i,i < len→∃cs',w.cells? base ((⟨blk,off,none⟩:Addr).add (i *P.cellsOf e)) (P.cellsOf e)=some cs'∧cs'.length=ks.length∧P.cellsOf e=ks.length∧∀(j:Nat) (k:SK),ks[j]?=some k→∃v,cs'[j]?=some v∧JH k v:=by
    intro i hi
    obtain ⟨cs',h1,h2⟩:=hx i (by omega)
    obtain ⟨h3,h4,h5⟩:=ZrE hk h2
    exact ⟨cs',h1,h3,h4,h5⟩
   obtain ⟨C,hC⟩:=choose_lt (α:=List Value) (p:=fun i cs'=>w.cells? base ((⟨blk,off,none⟩:Addr).add (i *P.cellsOf e)) (P.cellsOf e)=some cs'∧cs'.length=ks.length∧P.cellsOf e=ks.length∧∀(j:Nat) (k:SK),ks[j]?=some k→∃v,cs'[j]?=some v∧JH k v) hrow
   have hrows:∀(i:Nat) (x:List PV),((List.range len).map fun i=>(C i).map px)[i]?=some x→i < len∧x=(C i).map px:=by
    intro i x hi
    rw[Q6_] at hi
    cases hr:(List.range len)[i]? with
    | none=>rw[hr] at hi;cases hi
    | some y=>
      rw[hr] at hi
      have hlt:i < len:=by have:=(Qo_.1 hr).1;simpa using this
      rw[Kz_ hlt] at hr
      cases Qa_ hr
      exact ⟨hlt,(Qa_ hi).symm⟩
   have hlen:((List.range len).map fun i=>(C i).map px).length=len:=by simp
   have hcell:∀i j,i < len→j < ks.length→∃v,w.cell? ⟨blk,off+(i *ks.length+j),none⟩=some v∧(C i)[j]?=some v∧∃k,JH k v:=by
    intro i j hi hj
    obtain ⟨h1,h2,h3,h4⟩:=hC i hi
    obtain ⟨v,h5,h6⟩:=h4 j ks[j] (Qg_ hj)
    obtain ⟨_,_,h7⟩:=World.cells?_some h1
    have h8:=h7 j (by omega)
    rw[h5] at h8
    refine ⟨v, ?_,h5,_,h6⟩
    rw[←h8,h3,Addr.add_lit,Addr.add_lit,Kr_]
   refine ⟨(List.range len).map fun i=>(C i).map px,off+len *ks.length,fun x hx=>?_,fun hw hN=>?_,fun R hR=>?_⟩
   ·obtain ⟨i,hi,rfl⟩:=Ks_.1 hx
    have hi:i < len:=by simpa using hi
    obtain ⟨_,h2,_,h4⟩:=hC i hi
    exact Zu2 h2 h4
   ·have:=Rep.lst (hw:=hw) (w:=w) ((List.range len).map fun i=>(C i).map px) blk off cap ks.length (fun i j=>(w.cell? ⟨blk,off+(i *ks.length+j),none⟩).getD undef) (by rw[hlen];exact hl)
     (fun i x hx=>by obtain ⟨hi,rfl⟩:=hrows i x hx;simpa using (hC i hi).2.1)
     (fun i j hi hj=>by rw[hlen] at hi;obtain ⟨v,h1,_⟩:=hcell i j hi hj;rw[h1];rfl)
     (fun i j x y hx hy=>by
       obtain ⟨hi,rfl⟩:=hrows i x hx
       have hj:j < ks.length:=by have:=(Qo_.1 hy).1;rw[←(hC i hi).2.1];simpa using this
       obtain ⟨v,h1,h2,k,h3⟩:=hcell i j hi hj
       rw[Q6_,h2] at hy
       cases Qa_ hy
       rw[h1]
       exact (Zmn h3 hw w).1)
     (fun i j hi hj=>by rw[hlen] at hi;obtain ⟨v,h1,_,k,h3⟩:=hcell i j hi hj;rw[h1];exact (Zmn h3 hw w).2)
     (by rw[hlen];exact hN blk hblk)
    rw[hlen] at this
    exact this
   ·rw[hlen]
    have hd:d= .slice ((List.range len).map D) ((List.range (m - len)).map fun j=>D (len+j)):=Kj_ Prod.fst e2
    subst hd
    simp only[DataW.weights,ht,List.all_cons,Qk_,List.length_range,Qh_,Qc_] at hR
    exact QT_ (Kb_ _ (by omega)) hR.1
theorem WT{ts:List TypeId}{ds:List (DataW H)}{R:Nat}{t:TypeId}{d:DataW H}(h:(DataW.weightsEach P (t::ts) (d::ds)).all (·≤R)=true):(d.weights P t).all (·≤R)=true∧(DataW.weightsEach P ts ds).all (·≤R)=true:=by
 simp only[DataW.weightsEach,List.all_append,Qh_] at h
 exact h
end
theorem ZdC{H:Type}{enc:TypeId×Value→H}{P:Program}(hl:laidOutB P=true):∀{ts:List TypeId} {W W':World} {vs:List Value} {ds:List (DataW H)} {ps:List MemPlace},(ts.all fun t=>P.readableRec t&&decide (t < P.types.size))=true→
 DataW.TrodAll enc P W 0 (fun _=>true) true ts vs ds ps→Below W.heap.size W W'→(∀x∈ps,x.block < W.heap.size)→∀sp:Nat→Bool,(∀p∈ps,sp p.block=true)→DataW.TrodAll enc P W' 0 sp true ts vs ds ps
 | [],W,W',vs,ds,ps,_,h,_,_,sp,_=>by
   obtain ⟨rfl,rfl,rfl⟩:=trodAll_nil h
   exact rfl
 | t::ts,W,W',vs,ds,ps,ht,h,hb,hlt,sp,hsp=>by
   obtain ⟨v,vs',d,ds',p,q,rfl,rfl,rfl,h1,h2⟩:=trodAll_cons h
   simp only[List.all_cons,Qh_,Qc_] at ht
   exact ⟨p,q,WideElems.Trod_stays hl ht.1.1 ht.1.2 h1 (fun x hx=>hb.same (hlt x (Kf_ _ hx))) (fun x hx=>hsp x (Kf_ _ hx)),
    ZdC hl ht.2 h2 hb (fun x hx=>hlt x (Kp_ _ hx)) sp (fun x hx=>hsp x (Kp_ _ hx)),rfl⟩
theorem ZrG{P:Program}{f:Nat}{b:Bool}(hc:∀args w,(callFunc f args).run P w= .ok (.enter f args) w){xs:List PV}(h:Con P f xs (.v (.bool b)))(w:World){hw:Nat→Nat}(hl:∀k,w.heap.size≤k→hw k=0)(hgl:GlobOk hw w){vals:List Value}(ha:ArgsRep hw w vals xs):Calls P f vals.toArray w fun e w'=>e= .returned (.bool b)∧Below w.heap.size w w':=by
 rcases h hw w vals hl hgl ha with ⟨v,w',h1,_⟩ | ⟨f',h1,h2⟩
 ·rw[hc] at h1
  cases h1
 ·rw[hc] at h1
  injection h1 with h1 _
  injection h1 with h1 _
  subst h1
  exact h2.mono fun e w' ⟨v,he,hw',q,hr⟩=>⟨by rw[he,Z6 hr],q.below⟩
structure ArgsAre(P:Program)(w:World)(ts:List TypeId)(vs:List Value)(xs:List PV):Prop where
 rep:∃N,∀hw:Nat→Nat,(∀k,k < w.heap.size→N≤hw k)→ArgsRep hw w vs xs
theorem ZmU{P:Program}{w:World}:ArgsAre P w [] [] []:=⟨0,fun hw _=>⟨rfl,fun j x y hx=>by simp at hx⟩⟩
theorem ZbH{P:Program}{w:World}{t:TypeId}{ts:List TypeId}{v:Value}{vs:List Value}{x:PV}{xs:List PV}{N:Nat}(h:∀hw:Nat→Nat,(∀k,k < w.heap.size→N≤hw k)→Rep hw w v x)(hr:ArgsAre P w ts vs xs):ArgsAre P w (t::ts) (v::vs) (x::xs):=by
 obtain ⟨M,hM⟩:=hr.rep
 refine ⟨⟨N+M,fun hw hh=>?_⟩⟩
 have h1:=h hw (fun k hk=>QT_ (Nat.le_add_right _ _) (hh k hk))
 have h2:=hM hw (fun k hk=>QT_ (Nat.le_add_left _ _) (hh k hk))
 refine ⟨by simp[h2.len],fun j a b ha hb=>?_⟩
 cases j with
 | zero=>simp at ha hb;subst ha;subst hb;exact h1
 | succ j=>exact h2.rep j a b (by simpa using ha) (by simpa using hb)
section
variable {H:Type}{enc:TypeId×Value→H}
open Go.WideShapes
end
open Go.ChangeAt Go.WideShapes
section
variable {H:Type}{enc:TypeId×Value→H}
theorem Zu3{a:Assume}{C:Checked}{os:Os}{f:FuncId}{fn:Func}{s:ChangeSpec}{F:Stop.Interp}{conds:List PathCond}{laid:List (String×DataW Unit)}{tb:TypeId}
 (own:ownKnob C.prog.godebug=none) (started:os.Started) (noInit:C.prog.inits.idxOf? f=none) (hfn:C.prog.funcs[f]?=some fn)
 (witness:∃(w:World) (tape:Tape) (i:Input),w.os=os∧(w.forCall tape i).Shaped C.prog∧i.vars=[]∧Input.okWide C.prog (w.forCall tape i) .any w.heap.size f i∧
   (OpenSpec.ofChange s).preRow enc C.prog fn conds false laid (w.forCall tape i).memory i.args∧a.holds C.prog (lone (Frame.enter C.prog f i.args .normal) [] (w.forCall tape i)))
 (hcall:∀args w,(callFunc f args).run C.prog w= .ok (.enter f args) w) (hlaid:laidOutB C.prog=true)
 (hts:(fn.params.toList.all fun t=>C.prog.readableRec t&&decide (t < C.prog.types.size))=true) (hvars:s.vars=[]) (hres:fn.resultTypes=#[tb]) (hbool:C.prog.underlying tb=some .bool)
 (hspec:∀ds:List (DataW H),ds.length=fn.params.toList.length→(s.fn H ds).results=[.lit (.bool true)]∧(s.fn H ds).args=ds∧(s.fn H ds).vars=[])
 (hglob:∀(W:World) (N:Nat),64≤N→laidMetH C.prog laid W→GlobOk (fun k=>if k < W.heap.size then N else 0) W)
 (hcon:∀(W:World) (b0:Nat) (args:List Value) (ds:List (DataW H)) (p:List MemPlace),(∀(j:Nat) t v,fn.params.toList[j]?=some t→args[j]?=some v→Value.okWide C.prog W .any b0 t v)→DataW.TrodAll enc C.prog W 0 (fun _=>true) true fn.params.toList args ds p→
   (DataW.weightsEach C.prog fn.params.toList ds).all (·≤reachBytes)=true→∃xs,ArgsAre C.prog W fn.params.toList args xs∧Con C.prog f xs (.v (.bool true))):
 ReturnsInHanded a C os f .any ((OpenSpec.ofChange s).preRow enc C.prog fn conds false laid) (((OpenSpec.ofChange s).at F).post enc C.prog fn false true false false):=by
 refine returnsInHanded_of_row own started noInit hfn witness ?_
 intro W base args ds gs before hval hw' _ _ hwt hL _ _
 have hW:=hw'
 have hvars':(OpenSpec.ofChange s).vars=[]:=hvars
 obtain ⟨p,q,hA,hV,e,hnf,_⟩:=hw'
 subst e
 rw[hvars'] at hV
 obtain ⟨egs,eq⟩:=trodVars_none hV
 subst egs;subst eq
 have hlen:ds.length=fn.params.toList.length:=by
  have key:∀{ts:List TypeId} {vs:List Value} {ds:List (DataW H)} {p:List MemPlace},DataW.TrodAll enc C.prog W 0 (fun _=>true) true ts vs ds p→ds.length=ts.length:=by
   intro ts
   induction ts with
   | nil=>intro vs ds p h;obtain ⟨_,rfl,_⟩:=trodAll_nil h;rfl
   | cons t ts ih=>intro vs ds p h;obtain ⟨v,vs',d,ds',p',q',rfl,rfl,rfl,_,h2⟩:=trodAll_cons h;simp[ih h2]
  exact key hA
 have hwt2:(DataW.weightsEach C.prog fn.params.toList ds).all (·≤reachBytes)=true:=by
  have e1:∀(ts ts':List TypeId) (ds:List (DataW H)),ds.length=ts.length→DataW.weightsEach C.prog (ts++ts') (ds++[])=DataW.weightsEach C.prog ts ds:=by
   intro ts
   induction ts with
   | nil=>intro ts' ds h;have:=QM_ h;subst this;cases ts'<;>rfl
   | cons t ts ih=>intro ts' ds h;cases ds with
     | nil=>cases h
     | cons d ds=>simp only[QS_,DataW.weightsEach];rw[ih ts' ds (by simpa using h)]
  rw[e1 _ _ _ hlen] at hwt
  exact hwt
 obtain ⟨xs,⟨N,hN⟩,hcon⟩:=hcon W base args.toList ds p (fun j t v h1 h2=>hval j t v (by simpa using h1) (by simpa using h2)) hA hwt2
 have hcalls:=ZrG hcall hcon W (hw:=fun k=>if k < W.heap.size then N+64 else 0) (fun k hk=>by simp;omega) (hglob W (N+64) (by omega) hL) (hN _ (fun k hk=>by simp[hk]))
 have ei:args.toList.toArray=args:=by simp
 rw[ei] at hcalls
 refine hcalls.mono fun e W' ⟨he,hb⟩=>?_
 subst he
 obtain ⟨s1,s2,s3⟩:=hspec ds hlen
 refine ⟨_,rfl,Zje (pa:=p) (pv:=[]) hW (fun b sp hd=>?_) (fun sp hsp=>?_) (fun sp _=>?_) rfl hb (ok_one hres rfl (okWide_bool_mk hbool _))⟩
 ·show DataW.TrodAll _ _ _ _ _ _ _ _ (s.fn H (ds++[])).results _
  rw[QI_,hres,s1]
  exact trodAll_cons_mk (shut_bool hbool _) trodAll_mk0
 ·show DataW.TrodAll _ _ _ _ _ _ _ _ (s.fn H (ds++[])).args _
  rw[QI_,s2]
  exact ZdC hlaid hts hA hb (fun x hx=>hW.lt x (Kf_ _ hx)) sp (fun x hx=>hsp x (by simpa using hx))
 ·have h3:(s.fn H (ds++[])).vars=[]:=by rw[QI_];exact s3
  show DataW.TrodVars enc C.prog W' sp s.vars (s.fn H (ds++[])).vars []
  rw[hvars,h3]
  exact rfl
end
end Go.Ev
