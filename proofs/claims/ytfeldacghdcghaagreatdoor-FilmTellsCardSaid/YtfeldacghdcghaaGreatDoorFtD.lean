/- A logic of frames, its evaluator for values known in part, and what the functions that the law reaches are shown to do: written for this claim. Part D. -/
import Derived.Test.YtfeldacghdcghaaGreatDoorFtC
import Derived.KernelRfl
import Derived.RangeFuncBox
import Derived.RangeFuncLeaves
import Derived.RangeFuncNested
import Derived.Shelf.Abstract
import Derived.Shelf.RegionOpen
import Derived.WalkKit
import Derived.OwnWalkIn
import Derived.TacticsInMore
import Derived.LoopNIn
import Derived.LoopIn
import Derived.RangeFuncCalls
set_option linter.all false
set_option maxRecDepth 100000
namespace Go.Men
open Go.Ev Go.Proofs Go.Proofs.YtfeldacghdcghaaGreatDoor
def e63:Ent:=fun l_=>EA cI (fun n=>EZ (.v (.bool (inB n))) []) l_ []
def e73:Ent:=fun l_=>EA cI (fun n=>EZ (.v (.bool (inB n))) []) l_ []
def e62:Ent:=fun l_=>EA cIv (fun a=>EZ (.v (.bool (right a))) []) l_ []
def e72:Ent:=fun l_=>EA cIv (fun a=>EZ (.v (.bool (right a))) []) l_ []
def e64:Ent:=fun l_=>EZ (.agg (Iv.enc none')) [] l_ []
def e74:Ent:=fun l_=>EZ (.agg (Iv.enc none')) [] l_ []
def e65:Ent:=fun l_=>EA cI (fun lo=>EA cI (fun hi=>EZ (.agg (Iv.enc (of lo hi))) [])) l_ []
def e75:Ent:=fun l_=>EA cI (fun lo=>EA cI (fun hi=>EZ (.agg (Iv.enc (of lo hi))) [])) l_ []
def e35:Ent:=fun l_=>EA cI (fun n=>EZ (.agg (Iv.enc (point n))) []) l_ []
def e46:Ent:=fun l_=>EA cI (fun n=>EZ (.agg (Iv.enc (point n))) []) l_ []
def e56:Ent:=fun l_=>EA cI (fun n=>EZ (.agg (Iv.enc (whole n))) []) l_ []
def e89:Ent:=fun l_=>EA cI (fun n=>EZ (.agg (Iv.enc (whole n))) []) l_ []
def e39:Ent:=fun l_=>EA cI (fun a=>EA cI (fun b=>EZ (.v (.int .i64 (floor a b))) [-4611686018427387904≤a∧a≤4611686018427387904])) l_ []
def e48:Ent:=fun l_=>EA cI (fun a=>EA cI (fun b=>EZ (.v (.int .i64 (floor a b))) [-4611686018427387904≤a∧a≤4611686018427387904])) l_ []
def ZDm:Ent:=fun l_=>EA cIv (fun a=>EA cIv (fun b=>EZ (.v (.bool (both a b))) [])) l_ []
def ZDn:Ent:=fun l_=>EA cIv (fun a=>EZ (.agg (Iv.enc (neg a))) []) l_ []
def ZDo:Ent:=fun l_=>EA cIv (fun a=>EZ (.agg (Iv.enc (neg a))) []) l_ []
def ZDp:Ent:=fun l_=>EA cIv (fun a=>EA cIv (fun b=>EZ (.agg (Iv.enc (add a b))) [])) l_ []
def e83:Ent:=fun l_=>EA cIv (fun a=>EA cIv (fun b=>EZ (.agg (Iv.enc (add a b))) [])) l_ []
def e99:Ent:=fun l_=>EA cIv (fun a=>EA cIv (fun b=>EZ (.agg (Iv.enc (sub a b))) [])) l_ []
def ZAK:Ent:=fun l_=>EA cIv (fun a=>EA cIv (fun b=>EZ (.agg (Iv.enc (sub a b))) [])) l_ []
def ZDq:Ent:=fun l_=>EA cIv (fun a=>EA cI (fun n=>EZ (.v (.bool (has a n))) [])) l_ []
def ZDr:Ent:=fun l_=>EA cI (fun a=>EA cI (fun b=>EA cB (fun up=>EZ (.tup [.v (.int .i64 ((rounded a b up).1)),.v (.bool ((rounded a b up).2))]) [-4611686018427387904≤a∧a≤4611686018427387904,b≠0]))) l_ []
def ZDs:Ent:=fun l_=>EA cI (fun a=>EA cI (fun b=>EZ (.v (.int .i64 (up1 a b))) [-4611686018427387904≤a∧a≤4611686018427387904,-4611686018427387904≤b∧b≤4611686018427387904,b≠0])) l_ []
def ZAL:Ent:=fun l_=>EA cI (fun n=>EZ (.tup [.v (.int .i64 ((told n).1)),.v (.bool ((told n).2))]) []) l_ []
def ZDt:Ent:=fun l_=>EA cI (fun a=>EA cI (fun b=>EA cB (fun up=>EZ (.tup [.v (.int .i64 ((mul a b up).1)),.v (.bool ((mul a b up).2))]) []))) l_ []
def ZDu:Ent:=fun l_=>EA cI (fun a=>EA cI (fun b=>EA cB (fun up=>EZ (.tup [.v (.int .i64 ((mul a b up).1)),.v (.bool ((mul a b up).2))]) []))) l_ []
def ZDv:Ent:=fun l_=>EA cI (fun a=>EA cI (fun b=>EA cB (fun up=>EZ (.tup [.v (.int .i64 ((div a b up).1)),.v (.bool ((div a b up).2))]) []))) l_ []
def ZDw:Ent:=fun l_=>EA cI (fun a=>EA cI (fun b=>EA cB (fun up=>EZ (.tup [.v (.int .i64 ((div a b up).1)),.v (.bool ((div a b up).2))]) []))) l_ []
def ZrK:Ent
 | [.fn 187 [],.agg [.v (.int .i64 p1),.v (.int .i64 p2),.v (.bool p3)],.agg [.v (.int .i64 p4),.v (.int .i64 p5),.v (.bool p6)]]=>some (.agg (Iv.enc (ends mul (⟨p1,p2,p3⟩:Iv) (⟨p4,p5,p6⟩:Iv))),[])
 | _=>none
def ZrL:Ent
 | [.fn 160 [],.agg [.v (.int .i64 p1),.v (.int .i64 p2),.v (.bool p3)],.agg [.v (.int .i64 p4),.v (.int .i64 p5),.v (.bool p6)]]=>some (.agg (Iv.enc (ends div (⟨p1,p2,p3⟩:Iv) (⟨p4,p5,p6⟩:Iv))),[])
 | _=>none
def ZDx:Ent:=eOr ZrK (ZrL)
def ZnX:Ent
 | [.agg [.v (.int .i64 p1),.v (.int .i64 p2),.v (.bool p3)],.agg [.v (.int .i64 p4),.v (.int .i64 p5),.v (.bool p6)],.v (.bool false)]=>some (.agg (Iv.enc (ends mul (⟨p1,p2,p3⟩:Iv) (⟨p4,p5,p6⟩:Iv))),[])
 | _=>none
def ZnY:Ent
 | [.agg [.v (.int .i64 p1),.v (.int .i64 p2),.v (.bool p3)],.agg [.v (.int .i64 p4),.v (.int .i64 p5),.v (.bool p6)],.v (.bool true)]=>some (.agg (Iv.enc (ends div (⟨p1,p2,p3⟩:Iv) (⟨p4,p5,p6⟩:Iv))),[])
 | _=>none
def ZDy:Ent:=eOr ZnX (ZnY)
def ZDz:Ent:=fun l_=>EA cI (fun a=>EA cB (fun up=>EZ (.tup [.v (.int .i64 ((root a up).1)),.v (.bool ((root a up).2))]) [])) l_ []
def ZD0:Ent:=fun l_=>EA cI (fun a=>EA cB (fun up=>EZ (.tup [.v (.int .i64 ((root a up).1)),.v (.bool ((root a up).2))]) [])) l_ []
def ZD1:Ent:=fun l_=>EA cI (fun n=>EZ (.v (.int .i64 (ZD n))) [0≤n∧n≤18]) l_ []
def ZD2:Ent:=fun l_=>EA cI (fun n=>EZ (.v (.int .i64 (ZD n))) [0≤n∧n≤18]) l_ []
def ZD3:Ent:=fun l_=>EA cIv (fun a=>EA cIv (fun b=>EZ (.agg (Iv.enc (Zl a b))) [])) l_ []
def ZD4:Ent:=fun l_=>EA cIv (fun a=>EA cIv (fun b=>EZ (.agg (Iv.enc (Zl a b))) [])) l_ []
def ZAM:Ent:=fun l_=>EA cIv (fun a=>EA cIv (fun b=>EZ (.agg (Iv.enc (Zp a b))) [])) l_ []
def e85:Ent:=fun l_=>EA cIv (fun a=>EA cIv (fun b=>EZ (.agg (Iv.enc (Zp a b))) [])) l_ []
def ZD5:Ent:=fun l_=>EA cIv (fun a=>EZ (.agg (Iv.enc (sqr a))) []) l_ []
def e84:Ent:=fun l_=>EA cIv (fun a=>EZ (.agg (Iv.enc (sqr a))) []) l_ []
def e34:Ent:=fun l_=>EA cIv (fun a=>EA cI (fun k=>EZ (.agg (Iv.enc (times a k))) [])) l_ []
def e45:Ent:=fun l_=>EA cIv (fun a=>EA cI (fun k=>EZ (.agg (Iv.enc (times a k))) [])) l_ []
def ZD6:Ent:=fun l_=>EA cIv (fun a=>EZ (.agg (Iv.enc (ZL a))) []) l_ []
def ZD7:Ent:=fun l_=>EA cIv (fun a=>EZ (.agg (Iv.enc (ZL a))) []) l_ []
def ZD8:Ent:=fun l_=>EA cIv (fun a=>EA cIv (fun b=>EA cIv (fun c=>EZ (.tup [.agg (Iv.enc ((Wc a b c).1)),.v (.int .i64 ((Wc a b c).2))]) []))) l_ []
def ZD9:Ent:=fun l_=>EA cIv (fun a=>EA cIv (fun b=>EA cIv (fun c=>EZ (.tup [.agg (Iv.enc ((Wc a b c).1)),.v (.int .i64 ((Wc a b c).2))]) []))) l_ []
def e97:Ent:=fun l_=>EA cIv (fun x=>EA cIv (fun y=>EA cIv (fun z=>EZ (.agg (V.enc (⟨x,y,z⟩:V))) []))) l_ []
def ZDA:Ent:=fun l_=>EA cV (fun a=>EA cV (fun b=>EZ (.agg (V.enc (ZnK a b))) [])) l_ []
def ZDB:Ent:=fun l_=>EA cV (fun a=>EA cV (fun b=>EZ (.agg (V.enc (ZnK a b))) [])) l_ []
def ZDC:Ent:=fun l_=>EA cV (fun a=>EA cV (fun b=>EZ (.agg (Iv.enc (dot a b))) [])) l_ []
def ZDD:Ent:=fun l_=>EA cV (fun a=>EA cV (fun b=>EZ (.agg (Iv.enc (dot a b))) [])) l_ []
def ZDE:Ent:=fun l_=>EA cV (fun a=>EZ (.agg (Iv.enc (X9 a))) []) l_ []
def ZDF:Ent:=fun l_=>EA cV (fun a=>EZ (.agg (Iv.enc (X9 a))) []) l_ []
def ZDG:Ent:=fun l_=>EA cV (fun a=>EZ (.agg (V.enc (unit a))) []) l_ []
def e93:Ent:=fun l_=>EA Zgk (fun d=>EZ (.v (.bool (ZO d))) []) l_ []
def e71:Ent:=fun l_=>EA Zgk (fun d=>EZ (.v (.bool (ZO d))) []) l_ []
def ZDH:Ent:=fun l_=>EA Zgk (fun d=>EZ (.agg (Iv.enc (Zj d))) []) l_ []
def e81:Ent:=fun l_=>EA Zgk (fun d=>EZ (.agg (Iv.enc (Zj d))) []) l_ []
def e9:Ent:=fun l_=>EA cI (fun n=>EA cI (fun m=>EZ (.v (.int .i64 (pick n m))) [0 < m∧m≤4611686018427387904])) l_ []
def e94:Ent:=fun l_=>EZ (.agg (Dec.enc (⟨0,0⟩:Dec))) [] l_ []
def ZDI:Ent:=fun l_=>EA cSh (fun s=>EA Zci (fun r=>EZ (.tup [.agg (Iv.enc ((meet s r).1)),.v (.int .i64 ((meet s r).2))]) [])) l_ []
def ZAN:Ent:=fun l_=>EA cSh (fun s=>EA Zci (fun r=>EZ (.tup [.agg (Iv.enc ((hit s r).1)),.v (.int .i64 ((hit s r).2))]) [])) l_ []
def ZAO:Ent:=fun l_=>EA cSh (fun s=>EA Zci (fun r=>EZ (.tup [.agg (Iv.enc ((hit s r).1)),.v (.int .i64 ((hit s r).2))]) [])) l_ []
def e92:Ent:=fun l_=>EA cI (fun n=>EZ (.v (.bool (!ZS n))) []) l_ []
def ZAP:Ent
 | [.lst p1,.fn 92 []]=>some (.v (.int .i64 (Xa (fun x=> !ZS x.n) (Zc I.dec p1) 0)),[p1=(Zc I.dec p1).map I.enc,(Zc I.dec p1).length≤140737488355328])
 | _=>none
def e91:Ent
 | [.lst p1,.fn 92 []]=>some (.v (.bool ((Zc I.dec p1).any (fun x=> !ZS x.n))),[p1=(Zc I.dec p1).map I.enc,(Zc I.dec p1).length≤140737488355328])
 | _=>none
def e61:Ent:=fun l_=>EA cSh (fun s=>EZ (.v (.bool (Z6 s))) []) l_ []
def e60:Ent:=fun l_=>EA cSh (fun s=>EZ (.v (.bool (!Z6 s))) []) l_ []
def e90:Ent
 | [.lst p1,.fn 60 []]=>some (.v (.int .i64 (Xa (fun s=> !Z6 s) (Zc Shape.dec p1) 0)),[p1=(Zc Shape.dec p1).map Shape.enc,(Zc Shape.dec p1).length≤140737488355328])
 | _=>none
def e59:Ent
 | [.lst p1,.fn 60 []]=>some (.v (.bool ((Zc Shape.dec p1).any (fun s=> !Z6 s))),[p1=(Zc Shape.dec p1).map Shape.enc,(Zc Shape.dec p1).length≤140737488355328])
 | _=>none
def e31:Ent:=fun l_=>EA (cL Shape.enc Shape.dec) (fun l=>EZ (.v (.bool (Y6 l))) [l.length≤140737488355328]) l_ []
def e44:Ent:=fun l_=>EA (cL Shape.enc Shape.dec) (fun l=>EZ (.v (.bool (Y6 l))) [l.length≤140737488355328]) l_ []
def e25:Ent:=fun l_=>EA cI (fun c=>EA cI (fun scale=>EZ (.agg (Dec.enc (hdec scale.toNat c scale))) [0≤scale∧scale≤18])) l_ []
def e11:Ent:=fun l_=>EA (cL I.enc I.dec) (fun l=>EZ (.lst ((Zpq l).map Shape.enc)) [l.length≤140737488355328]) l_ []
def ZDJ:Ent:=fun l_=>EA (cL Shape.enc Shape.dec) (fun l=>EA Zci (fun r=>EZ (.tup [.v (.int .i64 ((nearest l r).1)),.agg (Iv.enc ((nearest l r).2.1)),.v (.int .i64 ((nearest l r).2.2))]) [l.length≤1000000])) l_ []
def e78:Ent:=fun l_=>EA (cL Shape.enc Shape.dec) (fun l=>EA Zci (fun r=>EZ (.tup [.v (.int .i64 ((Wj l r).1)),.agg (Iv.enc ((Wj l r).2.1)),.v (.int .i64 ((Wj l r).2.2))]) [l.length≤1000000])) l_ []
def ZDK:Ent:=fun l_=>EA cIv (fun a=>EA cIv (fun b=>EZ (.agg (Iv.enc (ZcR a b))) [])) l_ []
def ZDL:Ent:=fun l_=>EA cIv (fun a=>EA cIv (fun b=>EZ (.agg (Iv.enc (ZcR a b))) [])) l_ []
def ZAQ:Ent:=fun l_=>EA cIv (fun a=>EA cIv (fun b=>EZ (.agg (Iv.enc (Xi a b))) [])) l_ []
def ZAR:Ent:=fun l_=>EA cIv (fun a=>EA cIv (fun b=>EZ (.agg (Iv.enc (Xi a b))) [])) l_ []
def ZAS:Ent:=fun l_=>EA cIv (fun a=>EZ (.v (.int .i64 (ZE a))) []) l_ []
def ZAT:Ent:=fun l_=>EA cIv (fun a=>EZ (.v (.int .i64 (ZE a))) []) l_ []
def ZDM:Ent:=fun l_=>EA cIv (fun a=>EA cI (fun n=>EZ (.v (.bool (has a n))) [])) l_ []
def ZAU:Ent:=fun l_=>EA cIv (fun a=>EZ (.tup [.agg (Iv.enc ((ZZ a).1)),.agg (Iv.enc ((ZZ a).2))]) []) l_ []
def ZAV:Ent:=fun l_=>EA cIv (fun a=>EZ (.tup [.agg (Iv.enc ((ZZ a).1)),.agg (Iv.enc ((ZZ a).2))]) []) l_ []
def ZDN:Ent:=fun l_=>EA cV (fun a=>EA cV (fun b=>EZ (.agg (V.enc (ZhI a b))) [])) l_ []
def ZDO:Ent:=fun l_=>EA cV (fun a=>EA cV (fun b=>EZ (.agg (V.enc (ZhI a b))) [])) l_ []
def ZDP:Ent:=fun l_=>EA cV (fun a=>EA cIv (fun k=>EZ (.agg (V.enc (WB a k))) [])) l_ []
def ZDQ:Ent:=fun l_=>EA cV (fun a=>EA cIv (fun k=>EZ (.agg (V.enc (WB a k))) [])) l_ []
def ZDR:Ent:=fun l_=>EA Zci (fun r=>EA cIv (fun t=>EZ (.agg (V.enc (along r t))) [])) l_ []
def ZDS:Ent:=fun l_=>EA Zci (fun r=>EA cIv (fun t=>EZ (.agg (V.enc (along r t))) [])) l_ []
def ZDT:Ent:=fun l_=>EA cV (fun a=>EZ (.v (.bool (Yn a))) []) l_ []
def ZDU:Ent:=fun l_=>EA cV (fun a=>EZ (.v (.bool (Yn a))) []) l_ []
def e98:Ent:=fun l_=>EA cV (fun a=>EZ (.agg (V.enc (unit a))) []) l_ []
def ZDV:Ent:=fun l_=>EA cB (fun yes=>EA cB (fun no=>EZ (.v (.int .i64 (ZtY yes no))) [])) l_ []
def ZDW:Ent:=fun l_=>EA cIv (fun a=>EA cIv (fun b=>EZ (.v (.int .i64 (JK a b))) [])) l_ []
def ZDX:Ent:=fun l_=>EA cIv (fun a=>EA cIv (fun b=>EZ (.v (.int .i64 (JK a b))) [])) l_ []
def ZAW:Ent:=fun l_=>EZ (.agg (Iv.enc none')) [] l_ []
def ZDY:Ent:=fun l_=>EZ (.agg (V.enc noV)) [] l_ []
def ZAX:Ent:=fun l_=>EZ (.agg (Ray.enc Zjr)) [] l_ []
def ZDZ:Ent:=fun l_=>EZ (.agg (V.enc noV)) [] l_ []
def ZEa:Ent:=fun l_=>EZ (.agg (Ray.enc Zjr)) [] l_ []
def ZEb:Ent:=fun l_=>EA cI (fun is=>EZ (.tup [.agg (Iv.enc (((none',noV,is):Iv×V×Int).1)),.agg (V.enc (((none',noV,is):Iv×V×Int).2.1)),.v (.int .i64 (((none',noV,is):Iv×V×Int).2.2))]) []) l_ []
def ZEc:Ent:=fun l_=>EA cI (fun t=>EZ (.v (.int .i64 (ZcS t))) []) l_ []
def ZrM:Ent
 | [.lst [[.v (.int .i64 p1),.v (.int .i64 p2),.v (.bool p3)],[.v (.int .i64 p4),.v (.int .i64 p5),.v (.bool p6)],[.v (.int .i64 p7),.v (.int .i64 p8),.v (.bool p9)],[.v (.int .i64 p10),.v (.int .i64 p11),.v (.bool p12)]],.agg [.v (.int .i64 p13),.v (.int .i64 p14),.v (.bool p15)]]=>some (.agg (Iv.enc (Zcv (⟨⟨p1,p2,p3⟩,⟨p4,p5,p6⟩,⟨p7,p8,p9⟩,⟨p10,p11,p12⟩⟩:K4) (⟨p13,p14,p15⟩:Iv))),[])
 | _=>none
def ZrN:Ent
 | [.lst [[.v (.int .i64 p1),.v (.int .i64 p2),.v (.bool p3)],[.v (.int .i64 p4),.v (.int .i64 p5),.v (.bool p6)],[.v (.int .i64 p7),.v (.int .i64 p8),.v (.bool p9)]],.agg [.v (.int .i64 p10),.v (.int .i64 p11),.v (.bool p12)]]=>some (.agg (Iv.enc (Zcw (⟨⟨p1,p2,p3⟩,⟨p4,p5,p6⟩,⟨p7,p8,p9⟩⟩:K3) (⟨p10,p11,p12⟩:Iv))),[])
 | _=>none
def ZEd:Ent:=eOr ZrM (ZrN)
def ZAY:Ent
 | [.lst [[.v (.int .i64 p1),.v (.int .i64 p2),.v (.bool p3)],[.v (.int .i64 p4),.v (.int .i64 p5),.v (.bool p6)],[.v (.int .i64 p7),.v (.int .i64 p8),.v (.bool p9)],[.v (.int .i64 p10),.v (.int .i64 p11),.v (.bool p12)]]]=>some (.lst [Iv.enc (WC (⟨⟨p1,p2,p3⟩,⟨p4,p5,p6⟩,⟨p7,p8,p9⟩,⟨p10,p11,p12⟩⟩:K4)).a,Iv.enc (WC (⟨⟨p1,p2,p3⟩,⟨p4,p5,p6⟩,⟨p7,p8,p9⟩,⟨p10,p11,p12⟩⟩:K4)).b,Iv.enc (WC (⟨⟨p1,p2,p3⟩,⟨p4,p5,p6⟩,⟨p7,p8,p9⟩,⟨p10,p11,p12⟩⟩:K4)).c],[])
 | _=>none
def ZnZ:Ent
 | [.lst [[.v (.int .i64 p1),.v (.int .i64 p2),.v (.bool p3)],[.v (.int .i64 p4),.v (.int .i64 p5),.v (.bool p6)],[.v (.int .i64 p7),.v (.int .i64 p8),.v (.bool p9)],[.v (.int .i64 p10),.v (.int .i64 p11),.v (.bool p12)]],.agg [.v (.int .i64 p13),.v (.int .i64 p14),.v (.bool p15)]]=>some (.agg (Iv.enc (Zcv (⟨⟨p1,p2,p3⟩,⟨p4,p5,p6⟩,⟨p7,p8,p9⟩,⟨p10,p11,p12⟩⟩:K4) (⟨p13,p14,p15⟩:Iv))),[])
 | _=>none
def Zoa:Ent
 | [.lst [[.v (.int .i64 p1),.v (.int .i64 p2),.v (.bool p3)],[.v (.int .i64 p4),.v (.int .i64 p5),.v (.bool p6)],[.v (.int .i64 p7),.v (.int .i64 p8),.v (.bool p9)]],.agg [.v (.int .i64 p10),.v (.int .i64 p11),.v (.bool p12)]]=>some (.agg (Iv.enc (Zcw (⟨⟨p1,p2,p3⟩,⟨p4,p5,p6⟩,⟨p7,p8,p9⟩⟩:K3) (⟨p10,p11,p12⟩:Iv))),[])
 | _=>none
def ZEe:Ent:=eOr ZnZ (Zoa)
def ZAZ:Ent
 | [.lst [[.v (.int .i64 p1),.v (.int .i64 p2),.v (.bool p3)],[.v (.int .i64 p4),.v (.int .i64 p5),.v (.bool p6)],[.v (.int .i64 p7),.v (.int .i64 p8),.v (.bool p9)],[.v (.int .i64 p10),.v (.int .i64 p11),.v (.bool p12)]]]=>some (.lst [Iv.enc (WC (⟨⟨p1,p2,p3⟩,⟨p4,p5,p6⟩,⟨p7,p8,p9⟩,⟨p10,p11,p12⟩⟩:K4)).a,Iv.enc (WC (⟨⟨p1,p2,p3⟩,⟨p4,p5,p6⟩,⟨p7,p8,p9⟩,⟨p10,p11,p12⟩⟩:K4)).b,Iv.enc (WC (⟨⟨p1,p2,p3⟩,⟨p4,p5,p6⟩,⟨p7,p8,p9⟩,⟨p10,p11,p12⟩⟩:K4)).c],[])
 | _=>none
def ZEf:Ent:=fun l_=>EA (cG Surf.enc Surf.dec) (fun s=>EA cIv (fun r2=>EZ (.tup [.agg (Iv.enc ((XY s r2).1)),.agg (Iv.enc ((XY s r2).2))]) [])) l_ []
def ZEg:Ent:=fun l_=>EA (cG Surf.enc Surf.dec) (fun s=>EA cV (fun o=>EA cV (fun d=>EZ (.tup [.agg (Iv.enc ((Jn s o d).1)),.v (.int .i64 ((Jn s o d).2))]) []))) l_ []
def ZEh:Ent:=fun l_=>EA (cG Surf.enc Surf.dec) (fun s=>EA cIv (fun r2=>EZ (.tup [.agg (Iv.enc ((sag s r2).1)),.agg (Iv.enc ((sag s r2).2))]) [])) l_ []
def ZEi:Ent:=fun l_=>EA (cG Surf.enc Surf.dec) (fun s=>EA cIv (fun r2=>EZ (.tup [.agg (Iv.enc ((sag s r2).1)),.agg (Iv.enc ((sag s r2).2))]) [])) l_ []
def ZEj:Ent:=fun l_=>EA (cG Surf.enc Surf.dec) (fun s=>EA cV (fun p=>EZ (.agg (V.enc (Zch s p))) [])) l_ []
def ZEk:Ent:=fun l_=>EA (cG Surf.enc Surf.dec) (fun s=>EA cV (fun p=>EZ (.agg (V.enc (Zch s p))) [])) l_ []
def ZEl:Ent:=fun l_=>EA cV (fun d=>EA cV (fun n=>EA cIv (fun ratio=>EZ (.tup [.agg (V.enc ((bend d n ratio).1)),.v (.int .i64 ((bend d n ratio).2))]) []))) l_ []
def ZEm:Ent:=fun l_=>EA cV (fun d=>EA cV (fun n=>EA cIv (fun ratio=>EZ (.tup [.agg (V.enc ((bend d n ratio).1)),.v (.int .i64 ((bend d n ratio).2))]) []))) l_ []
def ZBa:Ent:=fun l_=>EA cIv (fun t=>EA (cP Ray.enc Ray.dec) (fun r=>EA (cP Surf.enc Surf.dec) (fun s=>EZ (.tup [.agg (Iv.enc ((Zo s r t).1)),.agg (Iv.enc ((Zo s r t).2))]) []))) l_ []
def ZBb:Ent:=fun l_=>EA cIv (fun v=>EZ (.v (.bool (ZaW v))) []) l_ []
def Z7O:Ent
 | [.fn 211 [.lptr p1 0,.lptr p2 0],.agg [.v (.int .i64 p3),.v (.int .i64 p4),.v (.bool p5)]]=>some (.v (.bool (ZaW (Zo (Surf.dec p2) (Ray.dec p1) (⟨p3,p4,p5⟩:Iv)).1)),[p1=Ray.enc (Ray.dec p1),p2=Surf.enc (Surf.dec p2)])
 | _=>none
def ZBc:Ent
 | [.fn 211 [.lptr p1 0,.lptr p2 0],.agg [.v (.int .i64 p3),.v (.int .i64 p4),.v (.bool p5)],.v (.int .i64 20)]=>some (.tup [.agg (Iv.enc ((solve (Zo (Surf.dec p2) (Ray.dec p1)) (⟨p3,p4,p5⟩:Iv) 20).1)),.v (.int .i64 ((solve (Zo (Surf.dec p2) (Ray.dec p1)) (⟨p3,p4,p5⟩:Iv) 20).2))],[p1=Ray.enc (Ray.dec p1),p2=Surf.enc (Surf.dec p2)])
 | _=>none
def ZEn:Ent:=fun l_=>EA (cG Surf.enc Surf.dec) (fun s=>EA Zci (fun r=>EA cIv (fun t=>EZ (.tup [.agg (Iv.enc ((ZdM s r t).1)),.v (.int .i64 ((ZdM s r t).2))]) [right t=true]))) l_ []
def ZEo:Ent:=fun l_=>EA (cG Surf.enc Surf.dec) (fun s=>EA Zci (fun r=>EZ (.tup [.agg (Iv.enc ((ZU s r).1)),.agg (V.enc ((ZU s r).2.1)),.v (.int .i64 ((ZU s r).2.2))]) [])) l_ []
def ZBd:Ent:=fun l_=>EA (cG Surf.enc Surf.dec) (fun s=>EA Zci (fun r=>EZ (.tup [.agg (Ray.enc ((goS s r).1)),.v (.int .i64 ((goS s r).2))]) [])) l_ []
def ZBe:Ent:=fun l_=>EA (cG FnM.enc FnM.dec) (fun f=>EA cIv (fun t=>EZ (.tup [.agg (Iv.enc ((Zo f.s f.r t).1)),.agg (Iv.enc ((Zo f.s f.r t).2))]) [])) l_ []
def ZBf:Ent
 | [.agg p1,.agg [.v (.int .i64 p2),.v (.int .i64 p3),.v (.bool p4)],.v (.int .i64 20)]=>some (.tup [.agg (Iv.enc ((solve (Zo (FnM.dec p1).s (FnM.dec p1).r) (⟨p2,p3,p4⟩:Iv) 20).1)),.v (.int .i64 ((solve (Zo (FnM.dec p1).s (FnM.dec p1).r) (⟨p2,p3,p4⟩:Iv) 20).2))],[p1=FnM.enc (FnM.dec p1)])
 | _=>none
def ZEp:Ent:=fun l_=>EA (cG Surf.enc Surf.dec) (fun s=>EA Zci (fun r=>EZ (.tup [.agg (Iv.enc ((ZU s r).1)),.agg (V.enc ((ZU s r).2.1)),.v (.int .i64 ((ZU s r).2.2))]) [])) l_ []
def ZBg:Ent:=fun l_=>EA (cG Surf.enc Surf.dec) (fun s=>EA Zci (fun r=>EZ (.tup [.agg (Ray.enc ((goS s r).1)),.v (.int .i64 ((goS s r).2))]) [])) l_ []
def ZEq:Ent:=fun l_=>EA (cG SysM.enc SysM.dec) (fun s=>EA Zci (fun r=>EZ (.agg (TrRes.enc (trace s r))) [s.surfs.length≤1000000])) l_ []
def e77:Ent:=fun l_=>EA (cG SysM.enc SysM.dec) (fun s=>EA Zci (fun r=>EZ (.agg (TrRes.enc (trace s r))) [s.surfs.length≤1000000])) l_ []
def ZEr:Ent:=fun l_=>EA cF (fun x=>EZ (.v (.float .f64 (Ze6 x))) [Zjq x=true]) l_ []
def ZEs:Ent:=fun l_=>EA cF (fun x=>EZ (.v (.float .f64 (Ze6 x))) [Zjq x=true]) l_ []
def e33:Ent:=fun l_=>EA cI (fun n=>EA cI (fun low=>EA cI (fun high=>EZ (.v (.bool (ZX n low high))) []))) l_ []
def e32:Ent:=fun l_=>EA cI (fun w=>EA cI (fun h=>EZ (.v (.bool (YU w h))) [])) l_ []
def e95:Ent:=fun l_=>EA (cG SysM.enc SysM.dec) (fun s=>EA cI (fun n=>EZ (.v (.bool (XZ s n))) [])) l_ []
def e96:Ent:=fun l_=>EA cIv (fun o=>EA cI (fun k=>EA cI (fun n=>EZ (.agg (Iv.enc (edge o k n))) []))) l_ []
def ZEt:Ent:=fun l_=>EA cIv (fun o=>EA cI (fun k=>EA cI (fun n=>EZ (.agg (Iv.enc (edge o k n))) []))) l_ []
def e70:Ent:=fun l_=>EA cF (fun x=>EZ (.v (.bool (JL x))) []) l_ []
def e41:Ent:=fun l_=>EA cX (fun z=>EZ (.v (.bool (XC z))) []) l_ []
def e28:Ent:=fun l_=>EA cX (fun z=>EA cI (fun n=>EZ (.v (.bool (YB z n))) [])) l_ []
def e66:Ent:=fun l_=>EA (cG SysM.enc SysM.dec) (fun s=>EA cIv (fun x=>EA cIv (fun y=>EA cX (fun z=>EA cI (fun n=>EZ (.tup [.agg (Ray.enc ((WD s x y z n).1)),.v (.bool ((WD s x y z n).2))]) []))))) l_ []
def e76:Ent:=fun l_=>EA (cG SysM.enc SysM.dec) (fun s=>EA cIv (fun x=>EA cIv (fun y=>EA (cG Pair.enc Pair.dec) (fun z=>EA cI (fun n=>EZ (.tup [.agg (Ray.enc ((WE s x y z n).1)),.v (.bool ((WE s x y z n).2))]) []))))) l_ []
def e67:Ent:=fun l_=>EA (cG SysM.enc SysM.dec) (fun s=>EA (cL Shape.enc Shape.dec) (fun l=>EA Zci (fun r=>EZ (.tup [.agg (A3.enc ((Yz s l r).1)),.agg (A3.enc ((Yz s l r).2.1)),.v (.bool ((Yz s l r).2.2))]) [s.surfs.length≤1000000∧l.length≤1000000]))) l_ []
def Zob:Ent
 | [.agg p1,.lst p2,.agg [.v (.int .i64 p3),.v (.int .i64 p4),.v (.bool p5)],.agg [.v (.int .i64 p6),.v (.int .i64 p7),.v (.bool p8)],.agg p9,.v (.int .i64 p10),.v (.int .i64 0)]=>some (.tup [.v (.int .i64 ((Yc (SysM.dec p1) (Zc Shape.dec p2) (⟨p3,p4,p5⟩:Iv) (⟨p6,p7,p8⟩:Iv) (Pair.dec p9) p10 0).1)),.v (.int .i64 ((Yc (SysM.dec p1) (Zc Shape.dec p2) (⟨p3,p4,p5⟩:Iv) (⟨p6,p7,p8⟩:Iv) (Pair.dec p9) p10 0).2.1)),.v (.bool ((Yc (SysM.dec p1) (Zc Shape.dec p2) (⟨p3,p4,p5⟩:Iv) (⟨p6,p7,p8⟩:Iv) (Pair.dec p9) p10 0).2.2))],[p1=SysM.enc (SysM.dec p1),p2=(Zc Shape.dec p2).map Shape.enc,p9=Pair.enc (Pair.dec p9),(SysM.dec p1).surfs.length≤1000000∧(Zc Shape.dec p2).length≤1000000])
 | _=>none
def Zoc:Ent
 | [.agg p1,.lst p2,.agg [.v (.int .i64 p3),.v (.int .i64 p4),.v (.bool p5)],.agg [.v (.int .i64 p6),.v (.int .i64 p7),.v (.bool p8)],.agg p9,.v (.int .i64 p10),.v (.int .i64 1)]=>some (.tup [.v (.int .i64 ((Yc (SysM.dec p1) (Zc Shape.dec p2) (⟨p3,p4,p5⟩:Iv) (⟨p6,p7,p8⟩:Iv) (Pair.dec p9) p10 1).1)),.v (.int .i64 ((Yc (SysM.dec p1) (Zc Shape.dec p2) (⟨p3,p4,p5⟩:Iv) (⟨p6,p7,p8⟩:Iv) (Pair.dec p9) p10 1).2.1)),.v (.bool ((Yc (SysM.dec p1) (Zc Shape.dec p2) (⟨p3,p4,p5⟩:Iv) (⟨p6,p7,p8⟩:Iv) (Pair.dec p9) p10 1).2.2))],[p1=SysM.enc (SysM.dec p1),p2=(Zc Shape.dec p2).map Shape.enc,p9=Pair.enc (Pair.dec p9),(SysM.dec p1).surfs.length≤1000000∧(Zc Shape.dec p2).length≤1000000])
 | _=>none
def Zod:Ent
 | [.agg p1,.lst p2,.agg [.v (.int .i64 p3),.v (.int .i64 p4),.v (.bool p5)],.agg [.v (.int .i64 p6),.v (.int .i64 p7),.v (.bool p8)],.agg p9,.v (.int .i64 p10),.v (.int .i64 2)]=>some (.tup [.v (.int .i64 ((Yc (SysM.dec p1) (Zc Shape.dec p2) (⟨p3,p4,p5⟩:Iv) (⟨p6,p7,p8⟩:Iv) (Pair.dec p9) p10 2).1)),.v (.int .i64 ((Yc (SysM.dec p1) (Zc Shape.dec p2) (⟨p3,p4,p5⟩:Iv) (⟨p6,p7,p8⟩:Iv) (Pair.dec p9) p10 2).2.1)),.v (.bool ((Yc (SysM.dec p1) (Zc Shape.dec p2) (⟨p3,p4,p5⟩:Iv) (⟨p6,p7,p8⟩:Iv) (Pair.dec p9) p10 2).2.2))],[p1=SysM.enc (SysM.dec p1),p2=(Zc Shape.dec p2).map Shape.enc,p9=Pair.enc (Pair.dec p9),(SysM.dec p1).surfs.length≤1000000∧(Zc Shape.dec p2).length≤1000000])
 | _=>none
def e47:Ent:=eOr Zob (eOr Zoc (Zod))
def e15:Ent:=fun l_=>EA cX (fun z=>EZ (.tup [.agg (Pair.enc ((ofC z).1)),.v (.bool ((ofC z).2))]) []) l_ []
def ZBh:Ent:=fun l_=>EA cU (fun c=>EZ (.v (.bool (Zcx c))) []) l_ []
def ZEu:Ent:=fun l_=>EA cU (fun c=>EZ (.v (.bool (Zpy c))) []) l_ []
def ZBi:Ent:=fun l_=>EA cU (fun c=>EZ (.v (.bool (ZmN c))) []) l_ []
def ZBj:Ent:=fun l_=>EA cS (fun s=>EZ (.v (.bool (Zby s))) []) l_ []
def e14:Ent:=fun l_=>EA cI (fun n=>EZ (.str (digits n)) [-1000000000000000000≤n∧n≤1000000000000000000]) l_ []
def ZEv:Ent:=fun l_=>EA Zgk (fun d=>EZ (.str (ZdQ d)) []) l_ []
def ZBk:Ent:=fun l_=>EA Zgk (fun d=>EZ (.v (.bool (printable d))) []) l_ []
def ZBl:Ent:=fun l_=>EA Zgk (fun d=>EZ (.v (.bool (decide (d.c > 0)))) []) l_ []
def e82:Ent:=fun l_=>EA Zgk (fun d=>EZ (.v (.bool (YD d))) []) l_ []
def ZEw:Ent:=fun l_=>EA Zgk (fun d=>EZ (.agg (Dec.enc (Zua d))) []) l_ []
def ZEx:Ent:=fun l_=>EA Zgk (fun a=>EA Zgk (fun b=>EZ (.v (.bool (ZfG a b))) [])) l_ []
def e86:Ent:=fun l_=>EA (cL Glass.enc Glass.dec) (fun l=>EA cS (fun n=>EZ (.tup [.agg (Glass.enc ((YV l n).1)),.v (.bool ((YV l n).2))]) [l.length≤140737488355328])) l_ []
def e87:Ent:=fun l_=>EA (cG Glass.enc Glass.dec) (fun g=>EA cIv (fun w=>EZ (.agg (Iv.enc (ZcV g w))) [])) l_ []
def e54:Ent:=fun l_=>EA cI (fun k=>EZ (.agg (Iv.enc (Zpz k))) []) l_ []
def e79:Ent:=fun l_=>EA (cL Face.enc Face.dec) (fun l=>EZ (.v (.bool (Wa l))) [l.length≤140737488355328]) l_ []
def ZBm:Ent:=fun l_=>EA (cG Face.enc Face.dec) (fun f=>EA (cL Glass.enc Glass.dec) (fun g=>EZ (.v (.bool (JE f g))) [g.length≤140737488355328])) l_ []
def e80:Ent:=fun l_=>EA (cG LensM.enc LensM.dec) (fun l=>EA (cL Glass.enc Glass.dec) (fun g=>EZ (.v (.bool (Ji l g))) [g.length≤140737488355328])) l_ []
def e88:Ent:=fun l_=>EA (cG SysM.enc SysM.dec) (fun s=>EZ (.v (.bool (Za1 s))) [s.surfs.length≤140737488355328]) l_ []
def e53:Ent:=fun l_=>EA (cG LensM.enc LensM.dec) (fun l=>EA (cL Glass.enc Glass.dec) (fun g=>EA cIv (fun w=>EZ (.tup [.agg (SysM.enc ((Za2 l g w).1)),.v (.int .i64 ((Za2 l g w).2))]) [g.length≤140737488355328]))) l_ []
def e52:Ent:=fun l_=>EA (cG LensM.enc LensM.dec) (fun l=>EZ (.agg (LensM.enc (Zil l))) [l.faces.length≤1000]) l_ []
def e50:Ent:=fun l_=>EA (cL I.enc I.dec) (fun l=>EZ (.lst ((X5 l).map Glass.enc)) [l.length≤140737488355328]) l_ []
def e55:Ent:=fun l_=>EA (cL I.enc I.dec) (fun l=>EZ (.agg (SysM.enc (straight l))) [l.length≤140737488355328]) l_ []
def e51:Ent:=fun l_=>EA cI (fun back=>EA (cL RawFace.enc RawFace.dec) (fun l=>EA (cL Glass.enc Glass.dec) (fun g=>EA cI (fun most=>EZ (.agg (LensM.enc (Wm back l g most))) [l.length≤140737488355328∧g.length≤1000∧most≤1000])))) l_ []
def e22:Ent:=fun l_=>EA cI (fun back=>EA (cL RawFace.enc RawFace.dec) (fun l=>EA (cL I.enc I.dec) (fun raw=>EA cI (fun most=>EA cB (fun plain=>EZ (.agg (SysM.enc (ZaX back l raw most plain))) [l.length≤140737488355328∧raw.length≤140737488355328∧0≤most∧most≤12]))))) l_ []
def e27:Ent:=fun l_=>EA cX (fun z=>EA (cP I.enc I.dec) (fun n=>EZ (.v (.bool (!YB z n.n))) [])) l_ []
def e30:Ent:=fun l_=>EA (cG SysM.enc SysM.dec) (fun s=>EZ (.v (.bool (WO s))) []) l_ []
def e57:Ent
 | [.lst p1,.fn 27 [.lptr p2 0]]=>some (.v (.int .i64 (Xa (fun z=> !YB z (I.dec p2).n) (Zc Cx.dec p1) 0)),[p1=(Zc Cx.dec p1).map Cx.enc,p2=I.enc (I.dec p2),(Zc Cx.dec p1).length≤140737488355328])
 | _=>none
def e26:Ent
 | [.lst p1,.fn 27 [.lptr p2 0]]=>some (.v (.bool ((Zc Cx.dec p1).any (fun z=> !YB z (I.dec p2).n))),[p1=(Zc Cx.dec p1).map Cx.enc,p2=I.enc (I.dec p2),(Zc Cx.dec p1).length≤140737488355328])
 | _=>none
def e58:Ent
 | [.lst p1,.fn 30 []]=>some (.v (.int .i64 (Xa WO (Zc SysM.dec p1) 0)),[p1=(Zc SysM.dec p1).map SysM.enc,(Zc SysM.dec p1).length≤140737488355328])
 | _=>none
def e29:Ent
 | [.lst p1,.fn 30 []]=>some (.v (.bool ((Zc SysM.dec p1).any WO)),[p1=(Zc SysM.dec p1).map SysM.enc,(Zc SysM.dec p1).length≤140737488355328])
 | _=>none
def e12:Ent:=fun l_=>EA (cG S3.enc S3.dec) (fun s=>EA (cL Shape.enc Shape.dec) (fun l=>EA cI (fun w=>EA cI (fun h=>EA cI (fun pitch=>EA cI (fun n=>EA (cL Cx.enc Cx.dec) (fun ds=>EZ (.tup [.lst (((Z0 s l w h pitch n ds).1).map Pixel.enc),.v (.int .i64 ((Z0 s l w h pitch n ds).2))]) [s.a.surfs.length≤1000000∧s.b.surfs.length≤1000000∧s.c.surfs.length≤1000000,l.length≤1000000∧ds.length≤140737488355328]))))))) l_ []
def e18:Ent:=fun l_=>EA (cG S3.enc S3.dec) (fun s=>EA (cL Shape.enc Shape.dec) (fun l=>EA cI (fun w=>EA cI (fun h=>EA cI (fun pitch=>EA cI (fun n=>EA (cL Cx.enc Cx.dec) (fun ds=>EZ (.tup [.lst (((Z0 s l w h pitch n ds).1).map Pixel.enc),.v (.int .i64 ((Z0 s l w h pitch n ds).2))]) [s.a.surfs.length≤1000000∧s.b.surfs.length≤1000000∧s.c.surfs.length≤1000000,l.length≤1000000∧ds.length≤140737488355328]))))))) l_ []
def e38:Ent:=fun l_=>EA cI (fun n=>EZ (.str (digits n)) [-1000000000000000000≤n∧n≤1000000000000000000]) l_ []
def e13:Ent:=fun l_=>EA (cL Pixel.enc Pixel.dec) (fun ps=>EA cI (fun w=>EA cI (fun h=>EA cI (fun d=>EZ (.str (X0 ps w h d)) [∀p∈ps,X4 p])))) l_ []
def e20:Ent:=fun l_=>EA (cL Pixel.enc Pixel.dec) (fun ps=>EA cI (fun w=>EA cI (fun h=>EA cI (fun d=>EZ (.str (X0 ps w h d)) [∀p∈ps,X4 p])))) l_ []
def e49:Ent:=fun l_=>EA (cL Pixel.enc Pixel.dec) (fun a=>EA (cL Pixel.enc Pixel.dec) (fun b=>EZ (.v (.bool true)) [b=a∧a.length≤1000])) l_ []
def e21:Ent:=fun l_=>EA (cL Pixel.enc Pixel.dec) (fun a=>EA (cL Pixel.enc Pixel.dec) (fun b=>EZ (.v (.bool true)) [b=a∧a.length≤1000])) l_ []
def e19:Ent:=fun l_=>EA (cL Pixel.enc Pixel.dec) (fun a=>EA (cL Pixel.enc Pixel.dec) (fun b=>EZ (.v (.bool true)) [b=a∧a.length≤1000])) l_ []
def e10:Ent:=fun l_=>EA (cL I.enc I.dec) (fun l=>EA cI (fun n=>EZ (.lst ((Zp7 l n).map Cx.enc)) [l.length≤140737488355328∧1≤n∧n≤8])) l_ []
def e7:Ent:=fun l_=>EA cI (fun back=>EA (cL RawFace.enc RawFace.dec) (fun l=>EA cI (fun most=>EA cB (fun plain=>EZ (.agg (S3.enc (Zgj back l most plain))) [l.length≤140737488355328∧0≤most∧most≤12])))) l_ []
def e23:Ent:=fun l_=>EZ (.agg (S3.enc open3)) [] l_ []
def e24:Ent:=fun l_=>EZ (.lst (wallL.map Shape.enc)) [] l_ []
def e8:Ent:=fun l_=>EZ (.v (.bool true)) [] l_ []
def e6:Ent:=fun l_=>EA cI (fun back=>EA (cL RawFace.enc RawFace.dec) (fun l=>EA (cL I.enc I.dec) (fun sc=>EA cI (fun w=>EA cI (fun h=>EA cI (fun pitch=>EA cI (fun n=>EA (cL I.enc I.dec) (fun ds=>EA cI (fun bend=>EA cI (fun bn=>EZ (.v (.bool true)) [l.length≤140737488355328∧sc.length≤140737488355328∧ds.length≤140737488355328])))))))))) l_ []
theorem cf0{C:Yb}(hC:CSOk Tryz.prog C){f:Nat}{fn:Func}(hf:lk f evEnv.fns=some fn){args:List PV}{X:PV}(h:sxF evEnv C ZfW ZfX noG [] 2000 fn args (Qn X)):Con Tryz.prog f args X:=Zcj Zk hC Z4 Z3 Z7 hf Zaj h
theorem cfL{C:Yb}(hC:CSOk Tryz.prog C){f:Nat}{fn:Func}{LS:List (Nat×LSum)}(hL:ZF Tryz.prog LS fn)(hf:lk f evEnv.fns=some fn){args:List PV}{X:PV}(h:sxF evEnv C ZfW ZfX noG LS 2000 fn args (Qn X)):Con Tryz.prog f args X:=Zcj Zk hC Z4 Z3 Z7 hf hL h
abbrev Zoe(R_:Type):=Int→Int→Int→Bool→R_
def Z7P:Zoe St:=fun bit n r up=>⟨44,[(8,pI bit),(6,pI n),(7,pI r),(1,.p (vB up))],[],[],[],[]⟩
def Zwp:KpH:=⟨⟨[8,6,7,1],[],[]⟩,[]⟩
def Z50:KpH:=⟨⟨[7,6,1],[],[]⟩,[]⟩
abbrev Z51:KpH:=kr0
def Zgm:Zoe St:=fun bit n r up=>⟨44,[(7,.p (.v (.int .i64 (Ya (bit+1).toNat n r)))),(6,.p (.v (.int .i64 n))),(1,.p (.v (.bool up)))],[],[],[],[]⟩
def ZdT:Zoe Prop:=fun bit n r up=>(-1≤bit∧bit≤24)∧(0≤n∧n≤140737488355328)∧(0≤r∧r+2 ^ (bit+1).toNat≤33554432)∧((2:Int) ^ (bit+1).toNat∣r)
def Zwq:LSum:=LSg Yd 44 (fT 8 cI<|fT 6 cI<|fT 7 cI<|fT 1 cB<|fZ) [] [] Zwp (V4 ZdT) fun y K=>K (.exit 0) (V4 Zgm y)
abbrev Zlh(R_:Type):=Int→Int→Int→Bool→R_
def Z52:Zlh St:=fun bit n r up=>⟨48,[(8,pI bit),(6,pI n),(7,pI r),(1,.p (vB up))],[],[],[],[]⟩
def ZsG:KpH:=⟨⟨[8,6,7,1],[],[]⟩,[]⟩
def Z1S:KpH:=⟨⟨[7,6,1],[],[]⟩,[]⟩
abbrev Z1T:KpH:=kr0
def Ze8:Zlh St:=fun bit n r up=>⟨48,[(7,.p (.v (.int .i64 (Ya (bit+1).toNat n r)))),(6,.p (.v (.int .i64 n))),(1,.p (.v (.bool up)))],[],[],[],[]⟩
def Zcy:Zlh Prop:=fun bit n r up=>(-1≤bit∧bit≤24)∧(0≤n∧n≤140737488355328)∧(0≤r∧r+2 ^ (bit+1).toNat≤33554432)
def ZsH:LSum:=LSg Yd 48 (fT 8 cI<|fT 6 cI<|fT 7 cI<|fT 1 cB<|fZ) [] [] ZsG (V4 Zcy) fun y K=>K (.exit 0) (V4 Ze8 y)
abbrev Zli(R_:Type):=Int→Int→Int→R_
def Z53:Zli St:=fun i out n=>⟨11,[(5,pI i),(3,pI out),(4,pI n)],[],[],[],[]⟩
def ZsI:KpH:=⟨⟨[5,3,4],[],[]⟩,[]⟩
def Z1U:KpH:=⟨⟨[3],[],[]⟩,[]⟩
abbrev Z1V:KpH:=kr0
def ZsJ:Zli St:=fun i out n=>⟨11,[(3,.p (.v (.int .i64 (ZD n))))],[],[],[],[]⟩
def Ze9:Zli Prop:=fun i out n=>(0≤i)∧(i≤n)∧(n≤18)∧(out=ZD i)
def ZsK:LSum:=LSg Yd 11 (fT 5 cI<|fT 3 cI<|fT 4 cI<|fZ) [] [] ZsI (V3 Ze9) fun y K=>K (.exit 0) (V3 ZsJ y)
abbrev ZrO(R_:Type):=Int→Int→R_
def Z9V:ZrO St:=fun k out=>⟨11,[(0,pI k),(3,pI out)],[],[],[],[]⟩
def Z08:KpH:=⟨⟨[0,3],[],[]⟩,[]⟩
def Z7Q:KpH:=⟨⟨[3],[],[]⟩,[]⟩
abbrev Z7R:KpH:=kr0
def ZmS:ZrO St:=fun k out=>⟨11,[(3,.p (.v (.int .i64 (out *ZD k))))],[],[],[],[]⟩
def ZmT:ZrO Prop:=fun k out=>(0≤k∧k≤18)∧(1≤out∧out *ZD k≤1000000000000000000)
def Z09:LSum:=LSg Yd 11 (fT 0 cI<|fT 3 cI<|fZ) [] [] Z08 (V2 ZmT) fun y K=>K (.exit 0) (V2 ZmS y)
abbrev Zgn(R_:Type):=Int→(List I)→Int→R_
def Zwr:Zgn St:=fun i l n=>⟨19,[(8,pI i),(0,.p (.lst (l.map I.enc))),(1,.p (.fn 92 [])),(7,pI n)],[],[],[],[]⟩
def Zof:KpH:=⟨⟨[8,0,1,7],[],[]⟩,[]⟩
def Z54:KpH:=⟨⟨[],[],[]⟩,[]⟩
def Z55:KpH:=⟨⟨[4],[],[]⟩,[]⟩
def Zog:Zgn St:=fun i l n=>⟨19,[],[],[],[],[]⟩
def Zjv:Zgn St:=fun i l n=>⟨19,[(4,.p (.v (.int .i64 (Xa (fun x=> !ZS x.n) (l.drop i.toNat) i))))],[],[],[],[]⟩
def Zgo:Zgn Prop:=fun i l n=>(0≤i∧i≤l.length∧n=l.length∧n≤140737488355328)
def Za5:Zgn Bool:=fun i l n=>(l.drop i.toNat).any (fun x=> !ZS x.n)
def Zoh:LSum:=fun σ K=>match ZcO Yd Zof σ with
 | some ⟨19,[(8,.p (.v (.int .i64 p1))),(0,.p (.lst p2)),(1,.p (.fn 92 [])),(7,.p (.v (.int .i64 p3)))],[],[],[],[]⟩=>alls [p2=(Zc I.dec p2).map I.enc,Zgo p1 (Zc I.dec p2) p3] (bif Za5 p1 (Zc I.dec p2) p3 then K .ret (Zjv p1 (Zc I.dec p2) p3) else (K (.exit 0) (Zog p1 (Zc I.dec p2) p3)))
 | _=>False
abbrev Zgp(R_:Type):=Int→(List Shape)→Int→R_
def Zws:Zgp St:=fun i l n=>⟨19,[(8,pI i),(0,.p (.lst (l.map Shape.enc))),(1,.p (.fn 60 [])),(7,pI n)],[],[],[],[]⟩
def Zoi:KpH:=⟨⟨[8,0,1,7],[],[]⟩,[]⟩
def Z56:KpH:=⟨⟨[],[],[]⟩,[]⟩
def Z57:KpH:=⟨⟨[4],[],[]⟩,[]⟩
def Zoj:Zgp St:=fun i l n=>⟨19,[],[],[],[],[]⟩
def Zjw:Zgp St:=fun i l n=>⟨19,[(4,.p (.v (.int .i64 (Xa (fun s=> !Z6 s) (l.drop i.toNat) i))))],[],[],[],[]⟩
def Zgq:Zgp Prop:=fun i l n=>(0≤i∧i≤l.length∧n=l.length∧n≤140737488355328)
def Za6:Zgp Bool:=fun i l n=>(l.drop i.toNat).any (fun s=> !Z6 s)
def Zok:LSum:=fun σ K=>match ZcO Yd Zoi σ with
 | some ⟨19,[(8,.p (.v (.int .i64 p1))),(0,.p (.lst p2)),(1,.p (.fn 60 [])),(7,.p (.v (.int .i64 p3)))],[],[],[],[]⟩=>alls [p2=(Zc Shape.dec p2).map Shape.enc,Zgq p1 (Zc Shape.dec p2) p3] (bif Za6 p1 (Zc Shape.dec p2) p3 then K .ret (Zjw p1 (Zc Shape.dec p2) p3) else (K (.exit 0) (Zoj p1 (Zc Shape.dec p2) p3)))
 | _=>False
abbrev J1(R_:Type):=Int→(List Shape)→R_
def ZrP:J1 St:=fun i l=>⟨93,[(3,pI i),(0,.p (.lst (l.map Shape.enc)))],[],[],[],[]⟩
def Zin:KpH:=⟨⟨[3,0],[],[]⟩,[]⟩
def Zp8:KpH:=⟨⟨[],[],[]⟩,[]⟩
def Zp9:KpH:=⟨⟨[2],[],[]⟩,[]⟩
def ZdU:J1 St:=fun i l=>⟨93,[],[],[],[],[]⟩
def ZdV:J1 St:=fun i l=>⟨93,[(2,.p (.v (.bool false)))],[],[],[],[]⟩
def J2:J1 Prop:=fun i l=>(0≤i∧i≤l.length∧l.length≤140737488355328)
def Wb:J1 Bool:=fun i l=> !((l.drop i.toNat).all Z6)
def Zio:LSum:=LSg Yd 93 (fT 3 cI<|fT 0 (cL Shape.enc Shape.dec)<|fZ) [] [] Zin (V2 J2) fun y K=>bif V2 Wb y then K .ret (V2 ZdV y) else K (.exit 0) (V2 ZdU y)
abbrev Zol(R_:Type):=Dec→Dec→R_
def Z7S:Zol St:=fun d z=>⟨27,[(5,.ptr 5 0),(4,.ptr 4 0)],[(5,Dec.enc d),(4,Dec.enc z)],[],[],[]⟩
def Zwt:KpH:=⟨⟨[5,4],[5,4],[]⟩,[]⟩
def Z58:KpH:=⟨⟨[4,5],[4,5],[]⟩,[]⟩
abbrev Z59:KpH:=kr0
def Zgr:Zol St:=fun d z=>⟨27,[(4,.ptr 4 0),(5,.ptr 5 0)],[(4,[.v (.int .i64 z.c),.v (.int .i64 z.scale)]),(5,[.v (.int .i64 ((hdec d.scale.toNat d.c d.scale).c)),.v (.int .i64 ((hdec d.scale.toNat d.c d.scale).scale))])],[],[],[]⟩
def Zgs:Zol Prop:=fun d z=>(0≤d.scale∧d.scale≤18)
def Zwu:LSum:=LSg Yd 27 (fP 5 5 0<|fP 4 4 0<|fb 5 Dec.enc Zwn ZrI<|fb 4 Dec.enc Zwn ZrI<|fZ) [] [] Zwt (V2 Zgs) fun y K=>K (.exit 0) (V2 Zgr y)
abbrev Zjx(R_:Type):=Int→(List I)→(List Shape)→R_
def Zjy:Zjx St:=fun i l out=>⟨93,[(4,pI i),(0,.p (.lst (l.map I.enc))),(3,.p (.lst (out.map Shape.enc)))],[],[],[(.t 3,58)],[]⟩
def ZpA:KpH:=⟨⟨[4,0,3],[],[.t 3]⟩,[(.t 3,58)]⟩
def Zzq:KpH:=⟨⟨[3],[],[.t 3]⟩,[(.t 3,58)]⟩
abbrev Zzr:KpH:=kr0
def Zba:Zjx St:=fun i l out=>⟨93,[(3,.p (.lst ((out++Wn ((29 - i) / 5).toNat l i).map Shape.enc)))],[],[],[(.t 3,58)],[]⟩
def Zbb:Zjx Prop:=fun i l out=>(0≤i∧i≤25∧l.length≤140737488355328)∧(5 * (out.length:Int)=i)
def Zjz:LSum:=LSg Yd 93 (fT 4 cI<|fT 0 (cL I.enc I.dec)<|fT 3 (cL Shape.enc Shape.dec)<|fZ) [] [(.t 3,58)] ZpA (V3 Zbb) fun y K=>K (.exit 0) (V3 Zba y)
abbrev ZeA(R_:Type):=Int→Int→(List Shape)→(List Iv)→Int→Iv→Iv→Ray→R_
def Zhn:ZeA St:=fun k n l all best at1 z r=>⟨80,[(20,pI k),(19,pI n),(18,.p (.lst (l.map Shape.enc))),(9,.p (.lst (all.map Iv.enc))),(7,pI best),(8,.ptr 8 0),(5,.ptr 5 0),(3,.ptr 3 0)],[(8,Iv.enc at1),(5,Iv.enc z),(3,Ray.enc r)],[],[(.t 9,26)],[]⟩
def ZsL:KpH:=⟨⟨[20,19,18,9,7,8,5,3],[8,5,3],[.t 9]⟩,[(.t 9,26)]⟩
def Z1W:KpH:=⟨⟨[5,8,7,9],[8,5],[]⟩,[]⟩
def Z1X:KpH:=⟨⟨[4,5,6],[5],[]⟩,[]⟩
def Zlj:ZeA St:=fun k n l all best at1 z r=>⟨80,[(5,.ptr 5 0),(8,.ptr 8 0),(7,.p (.v (.int .i64 ((YF r (l.drop k.toNat) k best at1 all).1)))),(9,.p (.lst (((YF r (l.drop k.toNat) k best at1 all).2.2).map Iv.enc)))],[(8,[.v (.int .i64 (((YF r (l.drop k.toNat) k best at1 all).2.1).lo)),.v (.int .i64 (((YF r (l.drop k.toNat) k best at1 all).2.1).hi)),.v (.bool (((YF r (l.drop k.toNat) k best at1 all).2.1).no))]),(5,[.v (.int .i64 z.lo),.v (.int .i64 z.hi),.v (.bool z.no)])],[],[],[]⟩
def Zlk:ZeA St:=fun k n l all best at1 z r=>⟨80,[(4,.p (.v (.int .i64 (-1)))),(5,.ptr 5 0),(6,.p (.v (.int .i64 0)))],[(5,[.v (.int .i64 none'.lo),.v (.int .i64 none'.hi),.v (.bool none'.no)])],[],[],[]⟩
def ZeB:ZeA Prop:=fun k n l all best at1 z r=>(0≤k∧k≤l.length∧n=l.length∧n≤1000000)∧((all.length:Int)≤k)
def Zcz:ZeA Bool:=fun k n l all best at1 z r=>unsure r (l.drop k.toNat)
def ZsM:LSum:=LSg Yd 80 (fT 20 cI<|fT 19 cI<|fT 18 (cL Shape.enc Shape.dec)<|fT 9 (cL Iv.enc Iv.dec)<|fT 7 cI<|fP 8 8 0<|fP 5 5 0<|fP 3 3 0<|fb 8 Iv.enc gIv J0<|fb 5 Iv.enc gIv J0<|fb 3 Ray.enc Zwm ZrH<|fZ) [] [(.t 9,26)] ZsL (V8 ZeB) fun y K=>bif V8 Zcz y then K .ret (V8 Zlk y) else K (.exit 0) (V8 Zlj y)
abbrev Zj0(R_:Type):=Int→Int→(List Iv)→Int→Int→(List Iv)→Iv→Iv→R_
def Z1Y:Zj0 St:=fun i n all near best al2 at1 z=>⟨80,[(60,pI i),(59,pI n),(58,.p (.lst (all.map Iv.enc))),(14,pI near),(5,.ptr 5 0),(7,pI best),(8,.ptr 8 0),(9,.p (.lst (al2.map Iv.enc)))],[(8,Iv.enc at1),(5,Iv.enc z)],[],[],[]⟩
def ZpB:KpH:=⟨⟨[60,59,58,14,5,7,8,9],[8,5],[]⟩,[]⟩
def Zzs:KpH:=⟨⟨[5,7,8,9,14],[8,5],[]⟩,[]⟩
abbrev Zzt:KpH:=kr0
def Zj1:Zj0 St:=fun i n all near best al2 at1 z=>⟨80,[(5,.ptr 5 0),(7,.p (.v (.int .i64 best))),(8,.ptr 8 0),(9,.p (.lst (al2.map Iv.enc))),(14,.p (.v (.int .i64 (near+behind at1 (all.drop i.toNat)))))],[(8,[.v (.int .i64 at1.lo),.v (.int .i64 at1.hi),.v (.bool at1.no)]),(5,[.v (.int .i64 z.lo),.v (.int .i64 z.hi),.v (.bool z.no)])],[],[],[]⟩
def ZcW:Zj0 Prop:=fun i n all near best al2 at1 z=>(0≤i∧i≤all.length∧n=all.length∧n≤1000000∧0≤near∧near≤i)∧(al2=all)
def ZpC:LSum:=LSg Yd 80 (fT 60 cI<|fT 59 cI<|fT 58 (cL Iv.enc Iv.dec)<|fT 14 cI<|fP 5 5 0<|fT 7 cI<|fP 8 8 0<|fT 9 (cL Iv.enc Iv.dec)<|fb 8 Iv.enc gIv J0<|fb 5 Iv.enc gIv J0<|fZ) [] [] ZpB (V8 ZcW) fun y K=>K (.exit 3) (V8 Zj1 y)
abbrev ZeC(R_:Type):=Int→(List Iv)→(List I)→(List Shape)→Iv→Ray→R_
def ZsN:ZeC St:=fun i ts ats l z r=>⟨88,[(9,pI i),(8,.p (.lst (ts.map Iv.enc))),(7,.p (.lst (ats.map I.enc))),(5,.ptr 5 0),(3,.ptr 3 0),(0,.p (.lst (l.map Shape.enc)))],[(5,Iv.enc z),(3,Ray.enc r)],[],[(.t 8,26),(.t 7,3)],[]⟩
def ZsO:KpH:=⟨⟨[9,8,7,5,3,0],[5,3],[.t 8,.t 7]⟩,[(.t 8,26),(.t 7,3)]⟩
def Z1Z:KpH:=⟨⟨[5,8,7],[5],[]⟩,[]⟩
def Z2a:KpH:=⟨⟨[4,5,6],[5],[]⟩,[]⟩
def Zll:ZeC St:=fun i ts ats l z r=>⟨88,[(5,.ptr 5 0),(8,.p (.lst ((ts++XU r (l.drop i.toNat)).map Iv.enc))),(7,.p (.lst ((ats++JJ r (l.drop i.toNat) i).map I.enc)))],[(5,[.v (.int .i64 z.lo),.v (.int .i64 z.hi),.v (.bool z.no)])],[],[],[]⟩
def Zlm:ZeC St:=fun i ts ats l z r=>⟨88,[(4,.p (.v (.int .i64 (-1)))),(5,.ptr 5 0),(6,.p (.v (.int .i64 0)))],[(5,[.v (.int .i64 none'.lo),.v (.int .i64 none'.hi),.v (.bool none'.no)])],[],[],[]⟩
def ZeD:ZeC Prop:=fun i ts ats l z r=>(0≤i∧i≤l.length∧l.length≤1000000)∧((ts.length:Int)≤i∧ats.length=ts.length)
def Zc0:ZeC Bool:=fun i ts ats l z r=>unsure r (l.drop i.toNat)
def ZsP:LSum:=LSg Yd 88 (fT 9 cI<|fT 8 (cL Iv.enc Iv.dec)<|fT 7 (cL I.enc I.dec)<|fP 5 5 0<|fP 3 3 0<|fT 0 (cL Shape.enc Shape.dec)<|fb 5 Iv.enc gIv J0<|fb 3 Ray.enc Zwm ZrH<|fZ) [] [(.t 8,26),(.t 7,3)] ZsO (V6 ZeD) fun y K=>bif V6 Zc0 y then K .ret (V6 Zlm y) else K (.exit 0) (V6 Zll y)
abbrev Zj2(R_:Type):=Int→(List Iv)→Int→Bool→(List I)→Iv→R_
def Z2b:Zj2 St:=fun k ts i first ats z=>⟨88,[(14,pI k),(8,.p (.lst (ts.map Iv.enc))),(12,pI i),(13,.p (vB first)),(5,.ptr 5 0),(7,.p (.lst (ats.map I.enc)))],[(5,Iv.enc z)],[],[],[]⟩
def ZpD:KpH:=⟨⟨[14,8,12,13,5,7],[5],[]⟩,[]⟩
def Zzu:KpH:=⟨⟨[5,12,8,7,13],[5],[]⟩,[]⟩
abbrev Zzv:KpH:=kr0
def Zj3:Zj2 St:=fun k ts i first ats z=>⟨88,[(5,.ptr 5 0),(12,.p (.v (.int .i64 i))),(8,.p (.lst (ts.map Iv.enc))),(7,.p (.lst (ats.map I.enc))),(13,.p (.v (.bool (first&&XQ (ts.getD i.toNat none').hi i (ts.drop k.toNat) k))))],[(5,[.v (.int .i64 z.lo),.v (.int .i64 z.hi),.v (.bool z.no)])],[],[],[]⟩
def Zbc:Zj2 Prop:=fun k ts i first ats z=>(0≤i∧i < ats.length∧0≤k∧k≤ats.length)∧(ats.length=ts.length∧ats.length≤1000000)
def Zj4:LSum:=LSg Yd 88 (fT 14 cI<|fT 8 (cL Iv.enc Iv.dec)<|fT 12 cI<|fT 13 cB<|fP 5 5 0<|fT 7 (cL I.enc I.dec)<|fb 5 Iv.enc gIv J0<|fZ) [] [] ZpD (V6 Zbc) fun y K=>K (.exit 4) (V6 Zj3 y)
abbrev ZcX(R_:Type):=(List Iv)→Int→(List I)→Iv→R_
def Z2c:ZcX St:=fun ts i ats z=>⟨88,[(8,.p (.lst (ts.map Iv.enc))),(12,pI i),(5,.ptr 5 0),(7,.p (.lst (ats.map I.enc)))],[(5,Iv.enc z)],[],[],[]⟩
def ZpE:KpH:=⟨⟨[8,12,5,7],[5],[]⟩,[]⟩
def Zzw:KpH:=⟨⟨[5],[5],[]⟩,[]⟩
def Zzx:KpH:=⟨⟨[4,5,6],[5],[]⟩,[]⟩
def Zj5:ZcX St:=fun ts i ats z=>⟨88,[(5,.ptr 5 0)],[(5,[.v (.int .i64 z.lo),.v (.int .i64 z.hi),.v (.bool z.no)])],[],[],[]⟩
def Zj6:ZcX St:=fun ts i ats z=>⟨88,[(4,.p (.v (.int .i64 ((Zjp (XB ts (ats.drop i.toNat) (ts.drop i.toNat) i)).1)))),(5,.ptr 5 0),(6,.p (.v (.int .i64 1)))],[(5,[.v (.int .i64 (((Zjp (XB ts (ats.drop i.toNat) (ts.drop i.toNat) i)).2).lo)),.v (.int .i64 (((Zjp (XB ts (ats.drop i.toNat) (ts.drop i.toNat) i)).2).hi)),.v (.bool (((Zjp (XB ts (ats.drop i.toNat) (ts.drop i.toNat) i)).2).no))])],[],[],[]⟩
def ZcY:ZcX Prop:=fun ts i ats z=>(0≤i∧i≤ats.length)∧(ats.length=ts.length∧ats.length≤1000000)
def Zbd:ZcX Bool:=fun ts i ats z=>(XB ts (ats.drop i.toNat) (ts.drop i.toNat) i).isSome
def ZpF:LSum:=LSg Yd 88 (fT 8 (cL Iv.enc Iv.dec)<|fT 12 cI<|fP 5 5 0<|fT 7 (cL I.enc I.dec)<|fb 5 Iv.enc gIv J0<|fZ) [] [] ZpE (V4 ZcY) fun y K=>bif V4 Zbd y then K .ret (V4 Zj6 y) else K (.exit 2) (V4 Zj5 y)
abbrev Za7(R_:Type):=Int→Bool→Ray→Surf→Iv→Iv→Iv→Iv→Iv→Iv→Iv→Iv→Iv→R_
def ZsQ:Za7 St:=fun k sure r s t z x8 x9 x10 x11 x12 x13 x14=>⟨95,[(16,pI k),(4,.ptr 4 0),(6,.ptr 6 0),(8,.ptr 8 0),(9,.ptr 9 0),(10,.ptr 10 0),(11,.ptr 11 0),(12,.ptr 12 0),(13,.ptr 13 0),(14,.ptr 14 0),(15,.p (vB sure)),(0,.p (.fn 211 [.lptr (Ray.enc r) 0,.lptr (Surf.enc s) 0]))],[(4,Iv.enc t),(6,Iv.enc z),(8,Iv.enc x8),(9,Iv.enc x9),(10,Iv.enc x10),(11,Iv.enc x11),(12,Iv.enc x12),(13,Iv.enc x13),(14,Iv.enc x14)],[],[],[]⟩
def Zln:KpH:=⟨⟨[16,4,6,8,9,10,11,12,13,14,15,0],[4,6,8,9,10,11,12,13,14],[]⟩,[]⟩
def Z2d:KpH:=⟨⟨[6,4,15],[6,4],[]⟩,[]⟩
def Z2e:KpH:=⟨⟨[6,7],[6],[]⟩,[]⟩
def Zho:Za7 St:=fun k sure r s t z x8 x9 x10 x11 x12 x13 x14=>⟨95,[(6,.ptr 6 0),(4,.ptr 4 0),(15,.p (.v (.bool ((Yj (Zo s r) k.toNat t sure).2.2))))],[(6,[.v (.int .i64 z.lo),.v (.int .i64 z.hi),.v (.bool z.no)]),(4,[.v (.int .i64 (((Yj (Zo s r) k.toNat t sure).2.1).lo)),.v (.int .i64 (((Yj (Zo s r) k.toNat t sure).2.1).hi)),.v (.bool (((Yj (Zo s r) k.toNat t sure).2.1).no))])],[],[],[]⟩
def Zlo:Za7 St:=fun k sure r s t z x8 x9 x10 x11 x12 x13 x14=>⟨95,[(6,.ptr 6 0),(7,.p (.v (.int .i64 2)))],[(6,[.v (.int .i64 none'.lo),.v (.int .i64 none'.hi),.v (.bool none'.no)])],[],[],[]⟩
def Zhp:Za7 St:=fun k sure r s t z x8 x9 x10 x11 x12 x13 x14=>⟨95,[(6,.ptr 6 0),(4,.ptr 4 0),(15,.p (.v (.bool ((Yj (Zo s r) k.toNat t sure).2.2))))],[(6,[.v (.int .i64 z.lo),.v (.int .i64 z.hi),.v (.bool z.no)]),(4,[.v (.int .i64 (((Yj (Zo s r) k.toNat t sure).2.1).lo)),.v (.int .i64 (((Yj (Zo s r) k.toNat t sure).2.1).hi)),.v (.bool (((Yj (Zo s r) k.toNat t sure).2.1).no))])],[],[],[]⟩
def Zhq:Za7 Prop:=fun k sure r s t z x8 x9 x10 x11 x12 x13 x14=>(0≤k∧k≤1000)
def JF:Za7 Bool:=fun k sure r s t z x8 x9 x10 x11 x12 x13 x14=>(Yj (Zo s r) k.toNat t sure).1==1
def Za8:Za7 Bool:=fun k sure r s t z x8 x9 x10 x11 x12 x13 x14=>(Yj (Zo s r) k.toNat t sure).1==2
def Zhr:LSum:=fun σ K=>match ZcO Yd Zln σ with
 | some ⟨95,[(16,.p (.v (.int .i64 p1))),(4,.ptr 4 0),(6,.ptr 6 0),(8,.ptr 8 0),(9,.ptr 9 0),(10,.ptr 10 0),(11,.ptr 11 0),(12,.ptr 12 0),(13,.ptr 13 0),(14,.ptr 14 0),(15,.p (.v (.bool p2))),(0,.p (.fn 211 [.lptr p3 0,.lptr p4 0]))],[(4,p5),(6,p6),(8,p7),(9,p8),(10,p9),(11,p10),(12,p11),(13,p12),(14,p13)],[],[],[]⟩=>alls [p3=Ray.enc (Ray.dec p3),p4=Surf.enc (Surf.dec p4),p5=Iv.enc (Iv.dec p5),p6=Iv.enc (Iv.dec p6),p7=Iv.enc (Iv.dec p7),p8=Iv.enc (Iv.dec p8),p9=Iv.enc (Iv.dec p9),p10=Iv.enc (Iv.dec p10),p11=Iv.enc (Iv.dec p11),p12=Iv.enc (Iv.dec p12),p13=Iv.enc (Iv.dec p13),Zhq p1 p2 (Ray.dec p3) (Surf.dec p4) (Iv.dec p5) (Iv.dec p6) (Iv.dec p7) (Iv.dec p8) (Iv.dec p9) (Iv.dec p10) (Iv.dec p11) (Iv.dec p12) (Iv.dec p13)] (bif JF p1 p2 (Ray.dec p3) (Surf.dec p4) (Iv.dec p5) (Iv.dec p6) (Iv.dec p7) (Iv.dec p8) (Iv.dec p9) (Iv.dec p10) (Iv.dec p11) (Iv.dec p12) (Iv.dec p13) then K .ret (Zlo p1 p2 (Ray.dec p3) (Surf.dec p4) (Iv.dec p5) (Iv.dec p6) (Iv.dec p7) (Iv.dec p8) (Iv.dec p9) (Iv.dec p10) (Iv.dec p11) (Iv.dec p12) (Iv.dec p13)) else (bif Za8 p1 p2 (Ray.dec p3) (Surf.dec p4) (Iv.dec p5) (Iv.dec p6) (Iv.dec p7) (Iv.dec p8) (Iv.dec p9) (Iv.dec p10) (Iv.dec p11) (Iv.dec p12) (Iv.dec p13) then K (.goto 0) (Zhp p1 p2 (Ray.dec p3) (Surf.dec p4) (Iv.dec p5) (Iv.dec p6) (Iv.dec p7) (Iv.dec p8) (Iv.dec p9) (Iv.dec p10) (Iv.dec p11) (Iv.dec p12) (Iv.dec p13)) else (K (.exit 0) (Zho p1 p2 (Ray.dec p3) (Surf.dec p4) (Iv.dec p5) (Iv.dec p6) (Iv.dec p7) (Iv.dec p8) (Iv.dec p9) (Iv.dec p10) (Iv.dec p11) (Iv.dec p12) (Iv.dec p13)))))
 | _=>False
abbrev Zb1(R_:Type):=Int→Bool→Int→Iv→Iv→FnM→R_
def Zzy:Zb1 St:=fun k yes m t z f=>⟨113,[(9,pI k),(4,.ptr 4 0),(6,.ptr 6 0),(3,.ptr 3 0),(8,.p (vB yes)),(2,pI m)],[(4,Iv.enc t),(6,Iv.enc z),(3,FnM.enc f)],[],[],[]⟩
def Znz:KpH:=⟨⟨[9,4,6,3,8,2],[4,6,3],[]⟩,[]⟩
def Zwv:KpH:=⟨⟨[6,4,8],[6,4],[]⟩,[]⟩
def Zww:KpH:=⟨⟨[6,7],[6],[]⟩,[]⟩
def Zeg:Zb1 St:=fun k yes m t z f=>⟨113,[(6,.ptr 6 0),(4,.ptr 4 0),(8,.p (.v (.bool ((Yj (Zo f.s f.r) (m - k).toNat t yes).2.2))))],[(6,Iv.enc z),(4,[.v (.int .i64 (((Yj (Zo f.s f.r) (m - k).toNat t yes).2.1).lo)),.v (.int .i64 (((Yj (Zo f.s f.r) (m - k).toNat t yes).2.1).hi)),.v (.bool (((Yj (Zo f.s f.r) (m - k).toNat t yes).2.1).no))])],[],[],[]⟩
def Zeh:Zb1 St:=fun k yes m t z f=>⟨113,[(6,.ptr 6 0),(7,.p (.v (.int .i64 (bif (Yj (Zo f.s f.r) (m - k).toNat t yes).1==1 then 2 else 0))))],[(6,[.v (.int .i64 none'.lo),.v (.int .i64 none'.hi),.v (.bool none'.no)])],[],[],[]⟩
def Zei:Zb1 Prop:=fun k yes m t z f=>(0≤k∧k≤m∧m≤1000)
def Jq:Zb1 Bool:=fun k yes m t z f=>(Yj (Zo f.s f.r) (m - k).toNat t yes).1 !=0
def Zn0:LSum:=LSg Yd 113 (fT 9 cI<|fP 4 4 0<|fP 6 6 0<|fP 3 3 0<|fT 8 cB<|fT 2 cI<|fb 4 Iv.enc gIv J0<|fB 6 Iv.enc Iv.dec<|fB 3 FnM.enc FnM.dec<|fZ) [] [] Znz (V6 Zei) fun y K=>bif V6 Jq y then K .ret (V6 Zeh y) else K (.exit 0) (V6 Zeg y)
abbrev ZeE(R_:Type):=Int→Int→(List Surf)→TrRes→Ray→SysM→R_
def Z5A:ZeE St:=fun i n l z r s=>⟨36,[(12,pI i),(11,pI n),(10,.p (.lst (l.map Surf.enc))),(4,.ptr 4 0),(3,.ptr 3 0),(2,.ptr 2 0)],[(4,TrRes.enc z),(3,Ray.enc r),(2,SysM.enc s)],[],[],[]⟩
def ZsR:KpH:=⟨⟨[12,11,10,4,3,2],[4,3,2],[]⟩,[]⟩
def Z2f:KpH:=⟨⟨[4,3,2],[4,3,2],[]⟩,[]⟩
def Z2g:KpH:=⟨⟨[4],[4],[]⟩,[]⟩
def Zlp:ZeE St:=fun i n l z r s=>⟨36,[(4,.ptr 4 0),(3,.ptr 3 0),(2,.ptr 2 0)],[(4,TrRes.enc z),(3,[.v (.int .i64 (((((Zx (l.drop i.toNat) i r).r).o).x).lo)),.v (.int .i64 (((((Zx (l.drop i.toNat) i r).r).o).x).hi)),.v (.bool (((((Zx (l.drop i.toNat) i r).r).o).x).no)),.v (.int .i64 (((((Zx (l.drop i.toNat) i r).r).o).y).lo)),.v (.int .i64 (((((Zx (l.drop i.toNat) i r).r).o).y).hi)),.v (.bool (((((Zx (l.drop i.toNat) i r).r).o).y).no)),.v (.int .i64 (((((Zx (l.drop i.toNat) i r).r).o).z).lo)),.v (.int .i64 (((((Zx (l.drop i.toNat) i r).r).o).z).hi)),.v (.bool (((((Zx (l.drop i.toNat) i r).r).o).z).no)),.v (.int .i64 (((((Zx (l.drop i.toNat) i r).r).d).x).lo)),.v (.int .i64 (((((Zx (l.drop i.toNat) i r).r).d).x).hi)),.v (.bool (((((Zx (l.drop i.toNat) i r).r).d).x).no)),.v (.int .i64 (((((Zx (l.drop i.toNat) i r).r).d).y).lo)),.v (.int .i64 (((((Zx (l.drop i.toNat) i r).r).d).y).hi)),.v (.bool (((((Zx (l.drop i.toNat) i r).r).d).y).no)),.v (.int .i64 (((((Zx (l.drop i.toNat) i r).r).d).z).lo)),.v (.int .i64 (((((Zx (l.drop i.toNat) i r).r).d).z).hi)),.v (.bool (((((Zx (l.drop i.toNat) i r).r).d).z).no))]),(2,SysM.enc s)],[],[],[]⟩
def Zlq:ZeE St:=fun i n l z r s=>⟨36,[(4,.ptr 4 0)],[(4,TrRes.enc (Zx (l.drop i.toNat) i r))],[],[],[]⟩
def Zc1:ZeE Prop:=fun i n l z r s=>(0≤i∧i≤l.length∧n=l.length∧l.length≤1000000∧l=s.surfs)
def Zc2:ZeE Bool:=fun i n l z r s=>(Zx (l.drop i.toNat) i r).kind !=1
def ZsS:LSum:=LSg Yd 36 (fT 12 cI<|fT 11 cI<|fT 10 (cL Surf.enc Surf.dec)<|fP 4 4 0<|fP 3 3 0<|fP 2 2 0<|fB 4 TrRes.enc TrRes.dec<|fB 3 Ray.enc Ray.dec<|fB 2 SysM.enc SysM.dec<|fZ) [] [] ZsR (V6 Zc1) fun y K=>bif V6 Zc2 y then K .ret (V6 Zlq y) else K (.exit 0) (V6 Zlp y)
abbrev ZcZ(R_:Type):=Int→TrRes→Ray→SysM→R_
def Z2h:ZcZ St:=fun i z r s=>⟨35,[(5,pI i),(4,.ptr 4 0),(3,.ptr 3 0),(2,.ptr 2 0)],[(4,TrRes.enc z),(3,Ray.enc r),(2,SysM.enc s)],[],[],[]⟩
def ZpG:KpH:=⟨⟨[5,4,3,2],[4,3,2],[]⟩,[]⟩
def Zzz:KpH:=⟨⟨[4,3,2],[4,3,2],[]⟩,[]⟩
def Zz0:KpH:=⟨⟨[4],[4],[]⟩,[]⟩
def Zj7:ZcZ St:=fun i z r s=>⟨35,[(4,.ptr 4 0),(3,.ptr 3 0),(2,.ptr 2 0)],[(4,TrRes.enc z),(3,[.v (.int .i64 (((((Zx (s.surfs.drop i.toNat) i r).r).o).x).lo)),.v (.int .i64 (((((Zx (s.surfs.drop i.toNat) i r).r).o).x).hi)),.v (.bool (((((Zx (s.surfs.drop i.toNat) i r).r).o).x).no)),.v (.int .i64 (((((Zx (s.surfs.drop i.toNat) i r).r).o).y).lo)),.v (.int .i64 (((((Zx (s.surfs.drop i.toNat) i r).r).o).y).hi)),.v (.bool (((((Zx (s.surfs.drop i.toNat) i r).r).o).y).no)),.v (.int .i64 (((((Zx (s.surfs.drop i.toNat) i r).r).o).z).lo)),.v (.int .i64 (((((Zx (s.surfs.drop i.toNat) i r).r).o).z).hi)),.v (.bool (((((Zx (s.surfs.drop i.toNat) i r).r).o).z).no)),.v (.int .i64 (((((Zx (s.surfs.drop i.toNat) i r).r).d).x).lo)),.v (.int .i64 (((((Zx (s.surfs.drop i.toNat) i r).r).d).x).hi)),.v (.bool (((((Zx (s.surfs.drop i.toNat) i r).r).d).x).no)),.v (.int .i64 (((((Zx (s.surfs.drop i.toNat) i r).r).d).y).lo)),.v (.int .i64 (((((Zx (s.surfs.drop i.toNat) i r).r).d).y).hi)),.v (.bool (((((Zx (s.surfs.drop i.toNat) i r).r).d).y).no)),.v (.int .i64 (((((Zx (s.surfs.drop i.toNat) i r).r).d).z).lo)),.v (.int .i64 (((((Zx (s.surfs.drop i.toNat) i r).r).d).z).hi)),.v (.bool (((((Zx (s.surfs.drop i.toNat) i r).r).d).z).no))]),(2,SysM.enc s)],[],[],[]⟩
def Zj8:ZcZ St:=fun i z r s=>⟨35,[(4,.ptr 4 0)],[(4,TrRes.enc (Zx (s.surfs.drop i.toNat) i r))],[],[],[]⟩
def Zbe:ZcZ Prop:=fun i z r s=>(0≤i∧i≤s.surfs.length∧s.surfs.length≤1000000)
def Zbf:ZcZ Bool:=fun i z r s=>(Zx (s.surfs.drop i.toNat) i r).kind !=1
def ZpH:LSum:=LSg Yd 35 (fT 5 cI<|fP 4 4 0<|fP 3 3 0<|fP 2 2 0<|fB 4 TrRes.enc TrRes.dec<|fB 3 Ray.enc Ray.dec<|fB 2 SysM.enc SysM.dec<|fZ) [] [] ZpG (V4 Zbe) fun y K=>bif V4 Zbf y then K .ret (V4 Zj8 y) else K (.exit 0) (V4 Zj7 y)
abbrev Zda(R_:Type):=Int→(List UInt8)→R_
def Z2i:Zda St:=fun i s=>⟨29,[(3,pI i),(0,.p (.str s))],[],[],[],[]⟩
def ZpI:KpH:=⟨⟨[3,0],[],[]⟩,[]⟩
def Zz1:KpH:=⟨⟨[],[],[]⟩,[]⟩
def Zz2:KpH:=⟨⟨[2],[],[]⟩,[]⟩
def Zj9:Zda St:=fun i s=>⟨29,[],[],[],[],[]⟩
def ZjA:Zda St:=fun i s=>⟨29,[(2,.p (.v (.bool false)))],[],[],[],[]⟩
def Zbg:Zda Prop:=fun i s=>(0≤i∧i≤s.length∧s.length≤20)
def JO:Zda Bool:=fun i s=> !((s.drop i.toNat).all Zjs)
def ZpJ:LSum:=LSg Yd 29 (fT 3 cI<|fT 0 cS<|fZ) [] [] ZpI (V2 Zbg) fun y K=>bif V2 JO y then K .ret (V2 ZjA y) else K (.exit 0) (V2 Zj9 y)
abbrev Zab(R_:Type):=Int→(List Glass)→(List UInt8)→Glass→R_
def Ztw:Zab St:=fun i l n z=>⟨25,[(4,.ptr 4 0),(6,pI i),(0,.p (.lst (l.map Glass.enc))),(1,.p (.str n))],[(4,Glass.enc z)],[],[],[]⟩
def Zkd:KpH:=⟨⟨[4,6,0,1],[4],[]⟩,[]⟩
def ZrQ:KpH:=⟨⟨[4],[4],[]⟩,[]⟩
def ZrR:KpH:=⟨⟨[4,5],[4],[]⟩,[]⟩
def Zfb:Zab St:=fun i l n z=>⟨25,[(4,.ptr 4 0)],[(4,Glass.enc z)],[],[],[]⟩
def Zfc:Zab St:=fun i l n z=>⟨25,[(4,.ptr 4 0),(5,.p (.v (.bool true)))],[(4,Glass.enc ((YV (l.drop i.toNat) n).1))],[],[],[]⟩
def WY:Zab Prop:=fun i l n z=>(0≤i∧i≤l.length∧l.length≤140737488355328)
def WZ:Zab Bool:=fun i l n z=>(YV (l.drop i.toNat) n).2
def Zke:LSum:=LSg Yd 25 (fP 4 4 0<|fT 6 cI<|fT 0 (cL Glass.enc Glass.dec)<|fT 1 cS<|fB 4 Glass.enc Glass.dec<|fZ) [] [] Zkd (V4 WY) fun y K=>bif V4 WZ y then K .ret (V4 Zfc y) else K (.exit 0) (V4 Zfb y)
abbrev ZeF(R_:Type):=Int→(List Face)→R_
def Z5B:ZeF St:=fun i l=>⟨16,[(3,pI i),(0,.p (.lst (l.map Face.enc)))],[],[],[],[]⟩
def ZsT:KpH:=⟨⟨[3,0],[],[]⟩,[]⟩
def Z2j:KpH:=⟨⟨[],[],[]⟩,[]⟩
def Z2k:KpH:=⟨⟨[2],[],[]⟩,[]⟩
def Zlr:ZeF St:=fun i l=>⟨16,[],[],[],[],[]⟩
def Zls:ZeF St:=fun i l=>⟨16,[(2,.p (.v (.bool true)))],[],[],[],[]⟩
def Zc3:ZeF Prop:=fun i l=>(0≤i∧i≤l.length∧l.length≤140737488355328)
def Zc4:ZeF Bool:=fun i l=>Wa (l.drop i.toNat)
def ZsU:LSum:=LSg Yd 16 (fT 3 cI<|fT 0 (cL Face.enc Face.dec)<|fZ) [] [] ZsT (V2 Zc3) fun y K=>bif V2 Zc4 y then K .ret (V2 Zls y) else K (.exit 0) (V2 Zlr y)
abbrev Zac(R_:Type):=Int→Bool→(List Glass)→LensM→R_
def Ztx:Zac St:=fun i sm g l=>⟨55,[(6,pI i),(2,.ptr 2 0),(5,.p (vB sm)),(1,.p (.lst (g.map Glass.enc)))],[(2,LensM.enc l)],[],[],[]⟩
def Zkf:KpH:=⟨⟨[6,2,5,1],[2],[]⟩,[]⟩
def ZrS:KpH:=⟨⟨[5],[],[]⟩,[]⟩
def ZrT:KpH:=⟨⟨[4],[],[]⟩,[]⟩
def Zfd:Zac St:=fun i sm g l=>⟨55,[(5,.p (.v (.bool (sm||Wa (l.faces.drop i.toNat)))))],[],[],[],[]⟩
def Zfe:Zac St:=fun i sm g l=>⟨55,[(4,.p (.v (.bool false)))],[],[],[],[]⟩
def Ja:Zac Prop:=fun i sm g l=>(0≤i∧i≤l.faces.length∧l.faces.length≤12∧g.length≤140737488355328)
def Jb:Zac Bool:=fun i sm g l=> !((l.faces.drop i.toNat).all (JE · g))
def Zkg:LSum:=LSg Yd 55 (fT 6 cI<|fP 2 2 0<|fT 5 cB<|fT 1 (cL Glass.enc Glass.dec)<|fB 2 LensM.enc LensM.dec<|fZ) [] [] Zkf (V4 Ja) fun y K=>bif V4 Jb y then K .ret (V4 Zfe y) else K (.exit 0) (V4 Zfd y)
abbrev Za9(R_:Type):=Int→SysM→R_
def Zwx:Za9 St:=fun i s=>⟨60,[(3,pI i),(1,.ptr 1 0)],[(1,SysM.enc s)],[],[],[]⟩
def Zlt:KpH:=⟨⟨[3,1],[1],[]⟩,[]⟩
def Zty:KpH:=⟨⟨[1],[1],[]⟩,[]⟩
def Ztz:KpH:=⟨⟨[2],[],[]⟩,[]⟩
def Zgt:Za9 St:=fun i s=>⟨60,[(1,.ptr 1 0)],[(1,SysM.enc s)],[],[],[]⟩
def Zgu:Za9 St:=fun i s=>⟨60,[(2,.p (.v (.bool false)))],[],[],[],[]⟩
def J3:Za9 Prop:=fun i s=>(0≤i∧i≤s.surfs.length∧s.surfs.length≤140737488355328)
def J4:Za9 Bool:=fun i s=> !((s.surfs.drop i.toNat).all Jj)
def Zlu:LSum:=LSg Yd 60 (fT 3 cI<|fP 1 1 0<|fB 1 SysM.enc SysM.dec<|fZ) [] [] Zlt (V2 J3) fun y K=>bif V2 J4 y then K .ret (V2 Zgu y) else K (.exit 0) (V2 Zgt y)
abbrev ZjB(R_:Type):=Int→(List Glass)→SysM→Iv→Iv→Iv→Iv→LensM→SysM→R_
def ZpK:ZjB St:=fun i g s pos ix w one l z=>⟨126,[(12,pI i),(9,.ptr 9 0),(10,.ptr 10 0),(11,.ptr 11 0),(5,.ptr 5 0),(1,.p (.lst (g.map Glass.enc))),(8,.ptr 8 0),(3,.ptr 3 0),(6,.ptr 6 0)],[(9,SysM.enc s),(10,Iv.enc pos),(11,Iv.enc ix),(5,Iv.enc w),(8,Iv.enc one),(3,LensM.enc l),(6,SysM.enc z)],[],[(.b 9 0,151),(.b 6 0,151)],[]⟩
def ZpL:KpH:=⟨⟨[12,9,10,11,5,1,8,3,6],[9,10,11,5,8,3,6],[.b 9 0,.b 6 0]⟩,[(.b 9 0,151),(.b 6 0,151)]⟩
def Zz3:KpH:=⟨⟨[6,9],[6,9],[]⟩,[]⟩
abbrev Zz4:KpH:=kr0
def Zfx:ZjB St:=fun i g s pos ix w one l z=>⟨126,[(6,.ptr 6 0),(9,.ptr 9 0)],[(6,SysM.enc z),(9,SysM.enc (⟨s.surfs++WX g w (l.faces.drop i.toNat) pos ix,s.op⟩))],[],[],[]⟩
def Zdb:ZjB Prop:=fun i g s pos ix w one l z=>(0≤i∧i≤l.faces.length∧l.faces.length≤12∧g.length≤140737488355328∧(s.surfs.length:Int)=i)∧(one=point 65536)
def ZpM:LSum:=LSg Yd 126 (fT 12 cI<|fP 9 9 0<|fP 10 10 0<|fP 11 11 0<|fP 5 5 0<|fT 1 (cL Glass.enc Glass.dec)<|fP 8 8 0<|fP 3 3 0<|fP 6 6 0<|fB 9 SysM.enc SysM.dec<|fb 10 Iv.enc gIv J0<|fb 11 Iv.enc gIv J0<|fb 5 Iv.enc gIv J0<|fb 8 Iv.enc gIv J0<|fB 3 LensM.enc LensM.dec<|fB 6 SysM.enc SysM.dec<|fZ) [] [(.b 9 0,151),(.b 6 0,151)] ZpL (V9 Zdb) fun y K=>K (.exit 0) (V9 Zfx y)
abbrev ZjC(R_:Type):=Int→(List Face)→LensM→LensM→R_
def ZpN:ZjC St:=fun i out l z=>⟨29,[(4,pI i),(3,.p (.lst (out.map Face.enc))),(1,.ptr 1 0),(2,.ptr 2 0)],[(1,LensM.enc l),(2,LensM.enc z)],[],[(.t 3,144),(.b 2 3,144)],[]⟩
def ZpO:KpH:=⟨⟨[4,3,1,2],[1,2],[.t 3,.b 2 3]⟩,[(.t 3,144),(.b 2 3,144)]⟩
def Zz5:KpH:=⟨⟨[2,1,3],[1,2],[]⟩,[]⟩
abbrev Zz6:KpH:=kr0
def Zfy:ZjC St:=fun i out l z=>⟨29,[(2,.ptr 2 0),(1,.ptr 1 0),(3,.p (.lst ((out++(l.faces.drop i.toNat).map Zp2).map Face.enc)))],[(1,LensM.enc l),(2,LensM.enc z)],[],[],[]⟩
def Zdc:ZjC Prop:=fun i out l z=>(0≤i∧i≤l.faces.length∧l.faces.length≤1000∧(out.length:Int)=i)
def ZpP:LSum:=LSg Yd 29 (fT 4 cI<|fT 3 (cL Face.enc Face.dec)<|fP 1 1 0<|fP 2 2 0<|fB 1 LensM.enc LensM.dec<|fB 2 LensM.enc LensM.dec<|fZ) [] [(.t 3,144),(.b 2 3,144)] ZpO (V4 Zdc) fun y K=>K (.exit 0) (V4 Zfy y)
abbrev Zdd(R_:Type):=Int→(List Glass)→(List I)→R_
def Zhs:Zdd St:=fun i out l=>⟨80,[(4,pI i),(3,.p (.lst (out.map Glass.enc))),(0,.p (.lst (l.map I.enc)))],[],[],[(.t 3,140)],[]⟩
def Zht:KpH:=⟨⟨[4,3,0],[],[.t 3]⟩,[(.t 3,140)]⟩
def Zom:KpH:=⟨⟨[3],[],[]⟩,[]⟩
abbrev Zon:KpH:=kr0
def Zaq:Zdd St:=fun i out l=>⟨80,[(3,.p (.lst ((out++Zge (3 - i).toNat l i).map Glass.enc)))],[],[],[],[]⟩
def Wg:Zdd Prop:=fun i out l=>(0≤i∧i≤3∧l.length≤140737488355328∧(out.length:Int)=i+2)
def Zde:LSum:=LSg Yd 80 (fT 4 cI<|fT 3 (cL Glass.enc Glass.dec)<|fT 0 (cL I.enc I.dec)<|fZ) [] [(.t 3,140)] Zht (V3 Wg) fun y K=>K (.exit 0) (V3 Zaq y)
abbrev Zgv(R_:Type):=Int→(List I)→Int→SysM→SysM→R_
def Zlv:Zgv St:=fun i l zz s z=>⟨48,[(5,pI i),(0,.p (.lst (l.map I.enc))),(4,pI zz),(3,.ptr 3 0),(2,.ptr 2 0)],[(3,SysM.enc s),(2,SysM.enc z)],[],[(.b 3 0,151),(.b 2 0,151)],[]⟩
def Zlw:KpH:=⟨⟨[5,0,4,3,2],[3,2],[.b 3 0,.b 2 0]⟩,[(.b 3 0,151),(.b 2 0,151)]⟩
def Zt0:KpH:=⟨⟨[2,3],[2,3],[]⟩,[]⟩
abbrev Zt1:KpH:=kr0
def Zdf:Zgv St:=fun i l zz s z=>⟨48,[(2,.ptr 2 0),(3,.ptr 3 0)],[(2,SysM.enc z),(3,SysM.enc (⟨s.surfs++Wr (4 - i).toNat l i zz,s.op⟩))],[],[],[]⟩
def J5:Zgv Prop:=fun i l zz s z=>(0≤i∧i≤4∧l.length≤140737488355328∧(s.surfs.length:Int)=i)
def Zlx:LSum:=LSg Yd 48 (fT 5 cI<|fT 0 (cL I.enc I.dec)<|fT 4 cI<|fP 3 3 0<|fP 2 2 0<|fB 3 SysM.enc SysM.dec<|fB 2 SysM.enc SysM.dec<|fZ) [] [(.b 3 0,151),(.b 2 0,151)] Zlw (V5 J5) fun y K=>K (.exit 0) (V5 Zdf y)
abbrev Zgw(R_:Type):=Int→(List Glass)→(List RawFace)→Int→LensM→LensM→R_
def Zly:Zgw St:=fun i g l most u z=>⟨166,[(10,pI i),(9,.ptr 9 0),(2,.p (.lst (g.map Glass.enc))),(1,.p (.lst (l.map RawFace.enc))),(8,.ptr 8 0),(3,pI most)],[(9,LensM.enc u),(8,LensM.enc z)],[],[(.b 9 3,144),(.b 8 3,144)],[]⟩
def Zlz:KpH:=⟨⟨[10,9,2,1,8,3],[9,8],[.b 9 3,.b 8 3]⟩,[(.b 9 3,144),(.b 8 3,144)]⟩
def Zt2:KpH:=⟨⟨[8,9],[8,9],[.b 9 3]⟩,[(.b 9 3,144)]⟩
abbrev Zt3:KpH:=kr0
def ZaA:Zgw St:=fun i g l most u z=>⟨166,[(8,.ptr 8 0),(9,.ptr 9 0)],[(8,LensM.enc z),(9,LensM.enc (⟨u.name,u.back,WF g most (l.drop i.toNat) i u.faces⟩))],[],[(.b 9 3,144)],[]⟩
def ZaB:Zgw Prop:=fun i g l most u z=>(0≤i∧i≤l.length∧l.length≤140737488355328∧g.length≤1000∧most≤1000∧(u.faces.length:Int)≤1000)
def Zl0:LSum:=LSg Yd 166 (fT 10 cI<|fP 9 9 0<|fT 2 (cL Glass.enc Glass.dec)<|fT 1 (cL RawFace.enc RawFace.dec)<|fP 8 8 0<|fT 3 cI<|fB 9 LensM.enc LensM.dec<|fB 8 LensM.enc LensM.dec<|fZ) [] [(.b 9 3,144),(.b 8 3,144)] Zlz (V6 ZaB) fun y K=>K (.exit 0) (V6 ZaA y)
abbrev Zgx(R_:Type):=Int→(List Cx)→I→Int→R_
def Zwy:Zgx St:=fun i l n m=>⟨19,[(8,pI i),(0,.p (.lst (l.map Cx.enc))),(1,.p (.fn 27 [.lptr (I.enc n) 0])),(7,pI m)],[],[],[],[]⟩
def Zoo:KpH:=⟨⟨[8,0,1,7],[],[]⟩,[]⟩
def Z5C:KpH:=⟨⟨[],[],[]⟩,[]⟩
def Z5D:KpH:=⟨⟨[4],[],[]⟩,[]⟩
def Zop:Zgx St:=fun i l n m=>⟨19,[],[],[],[],[]⟩
def ZjD:Zgx St:=fun i l n m=>⟨19,[(4,.p (.v (.int .i64 (Xa (fun z=> !YB z n.n) (l.drop i.toNat) i))))],[],[],[],[]⟩
def Zgy:Zgx Prop:=fun i l n m=>(0≤i∧i≤l.length∧m=l.length∧m≤140737488355328)
def ZaC:Zgx Bool:=fun i l n m=>(l.drop i.toNat).any (fun z=> !YB z n.n)
def Zoq:LSum:=fun σ K=>match ZcO Yd Zoo σ with
 | some ⟨19,[(8,.p (.v (.int .i64 p1))),(0,.p (.lst p2)),(1,.p (.fn 27 [.lptr p3 0])),(7,.p (.v (.int .i64 p4)))],[],[],[],[]⟩=>alls [p2=(Zc Cx.dec p2).map Cx.enc,p3=I.enc (I.dec p3),Zgy p1 (Zc Cx.dec p2) (I.dec p3) p4] (bif ZaC p1 (Zc Cx.dec p2) (I.dec p3) p4 then K .ret (ZjD p1 (Zc Cx.dec p2) (I.dec p3) p4) else (K (.exit 0) (Zop p1 (Zc Cx.dec p2) (I.dec p3) p4)))
 | _=>False
abbrev Zgz(R_:Type):=Int→(List SysM)→Int→R_
def Zwz:Zgz St:=fun i l n=>⟨19,[(8,pI i),(0,.p (.lst (l.map SysM.enc))),(1,.p (.fn 30 [])),(7,pI n)],[],[],[],[]⟩
def Zor:KpH:=⟨⟨[8,0,1,7],[],[]⟩,[]⟩
def Z5E:KpH:=⟨⟨[],[],[]⟩,[]⟩
def Z5F:KpH:=⟨⟨[4],[],[]⟩,[]⟩
def Zos:Zgz St:=fun i l n=>⟨19,[],[],[],[],[]⟩
def ZjE:Zgz St:=fun i l n=>⟨19,[(4,.p (.v (.int .i64 (Xa WO (l.drop i.toNat) i))))],[],[],[],[]⟩
def Zg0:Zgz Prop:=fun i l n=>(0≤i∧i≤l.length∧n=l.length∧n≤140737488355328)
def ZaD:Zgz Bool:=fun i l n=>(l.drop i.toNat).any WO
def Zot:LSum:=fun σ K=>match ZcO Yd Zor σ with
 | some ⟨19,[(8,.p (.v (.int .i64 p1))),(0,.p (.lst p2)),(1,.p (.fn 30 [])),(7,.p (.v (.int .i64 p3)))],[],[],[],[]⟩=>alls [p2=(Zc SysM.dec p2).map SysM.enc,Zg0 p1 (Zc SysM.dec p2) p3] (bif ZaD p1 (Zc SysM.dec p2) p3 then K .ret (ZjE p1 (Zc SysM.dec p2) p3) else (K (.exit 0) (Zos p1 (Zc SysM.dec p2) p3)))
 | _=>False
abbrev Zg1(R_:Type):=(List Shape)→Int→(List Cx)→(List Cx)→Int→Int→Int→Int→Int→Int→Int→Int→(List Pixel)→Int→Pixel→Int→Iv→Iv→S3→R_
def Zw0:Zg1 St:=fun l k ds2 ds h j pitch w h2 j2 w2 i2 out m p n yy xx s=>⟨114,[(23,.ptr 23 0),(12,.ptr 12 0),(22,.ptr 22 0),(21,.ptr 21 0),(1,.p (.lst (l.map Shape.enc))),(7,.ptr 7 0),(88,pI k),(86,.p (.lst (ds2.map Cx.enc))),(6,.p (.lst (ds.map Cx.enc))),(3,pI h),(19,pI j),(4,pI pitch),(2,pI w),(62,pI h2),(63,pI j2),(66,pI w2),(67,pI i2),(18,.p (.lst (out.map Pixel.enc))),(87,pI m)],[(23,Pixel.enc p),(12,[vI n]),(22,Iv.enc yy),(21,Iv.enc xx),(7,S3.enc s)],[7],[(.t 18,44)],[]⟩
def Zl1:KpH:=⟨⟨[23,12,22,21,1,7,88,86,6,3,19,4,2,62,63,66,67,18,87],[23,12,22,21,7],[.t 18]⟩,[(.t 18,44)]⟩
def Zt4:KpH:=⟨⟨[12,1,7,6,3,19,4,2,62,63,66,67,23,18],[12,7,23],[.t 18]⟩,[(.t 18,44)]⟩
abbrev Zt5:KpH:=kr0
def Zdg:Zg1 St:=fun l k ds2 ds h j pitch w h2 j2 w2 i2 out m p n yy xx s=>⟨114,[(12,.ptr 12 0),(1,.p (.lst (l.map Shape.enc))),(7,.ptr 7 0),(6,.p (.lst (ds.map Cx.enc))),(3,.p (.v (.int .i64 h))),(19,.p (.v (.int .i64 j))),(4,.p (.v (.int .i64 pitch))),(2,.p (.v (.int .i64 w))),(62,.p (.v (.int .i64 h2))),(63,.p (.v (.int .i64 j2))),(66,.p (.v (.int .i64 w2))),(67,.p (.v (.int .i64 i2))),(23,.ptr 23 0),(18,.p (.lst (out.map Pixel.enc)))],[(12,[.v (.int .i64 n)]),(7,S3.enc s),(23,Pixel.enc (Zfu s l xx yy n (ds.drop k.toNat) p))],[7],[(.t 18,44)],[]⟩
def J6:Zg1 Prop:=fun l k ds2 ds h j pitch w h2 j2 w2 i2 out m p n yy xx s=>(0≤k∧k≤ds.length∧ds2=ds∧m=ds.length∧ds.length≤16)∧(l.length≤1000000∧s.a.surfs.length≤1000000∧s.b.surfs.length≤1000000∧s.c.surfs.length≤1000000)
def ZaE:LSum:=LSg Yd 114 (fP 23 23 0<|fP 12 12 0<|fP 22 22 0<|fP 21 21 0<|fT 1 (cL Shape.enc Shape.dec)<|fP 7 7 0<|fT 88 cI<|fT 86 (cL Cx.enc Cx.dec)<|fT 6 (cL Cx.enc Cx.dec)<|fT 3 cI<|fT 19 cI<|fT 4 cI<|fT 2 cI<|fT 62 cI<|fT 63 cI<|fT 66 cI<|fT 67 cI<|fT 18 (cL Pixel.enc Pixel.dec)<|fT 87 cI<|fB 23 Pixel.enc Pixel.dec<|fb 12 eI1 gI1 Zwo<|fB 22 Iv.enc Iv.dec<|fB 21 Iv.enc Iv.dec<|fB 7 S3.enc S3.dec<|fZ) [7] [(.t 18,44)] Zl1 (V19 J6) fun y K=>K (.exit 4) (V19 Zdg y)
abbrev Zg2(R_:Type):=(List Shape)→Int→(List Pixel)→(List Cx)→Int→Int→Int→Int→Int→Int→Int→Int→S3→R_
def Zl2:Zg2 St:=fun l i out ds h j pitch w h2 j2 w2 n s=>⟨114,[(12,.ptr 12 0),(1,.p (.lst (l.map Shape.enc))),(7,.ptr 7 0),(67,pI i),(18,.p (.lst (out.map Pixel.enc))),(6,.p (.lst (ds.map Cx.enc))),(3,pI h),(19,pI j),(4,pI pitch),(2,pI w),(62,pI h2),(63,pI j2),(66,pI w2)],[(12,[vI n]),(7,S3.enc s)],[7],[(.t 18,44)],[]⟩
def Zl3:KpH:=⟨⟨[12,1,7,67,18,6,3,19,4,2,62,63,66],[12,7],[.t 18]⟩,[(.t 18,44)]⟩
def Zt6:KpH:=⟨⟨[12,1,7,18,6,3,4,2,62,63],[12,7],[.t 18]⟩,[(.t 18,44)]⟩
abbrev Zt7:KpH:=kr0
def Zdh:Zg2 St:=fun l i out ds h j pitch w h2 j2 w2 n s=>⟨114,[(12,.ptr 12 0),(1,.p (.lst (l.map Shape.enc))),(7,.ptr 7 0),(18,.p (.lst ((out++Zbq (Zap s l w h pitch n ds j) (w - i).toNat i).map Pixel.enc))),(6,.p (.lst (ds.map Cx.enc))),(3,.p (.v (.int .i64 h))),(4,.p (.v (.int .i64 pitch))),(2,.p (.v (.int .i64 w))),(62,.p (.v (.int .i64 h2))),(63,.p (.v (.int .i64 j2)))],[(12,[.v (.int .i64 n)]),(7,S3.enc s)],[7],[(.t 18,44)],[]⟩
def J7:Zg2 Prop:=fun l i out ds h j pitch w h2 j2 w2 n s=>(0≤i∧i≤w∧w=w2∧h≤16∧0≤j∧j≤16∧w≤16∧ds.length≤16∧(out.length:Int)≤16 *j+i)∧(l.length≤1000000∧s.a.surfs.length≤1000000∧s.b.surfs.length≤1000000∧s.c.surfs.length≤1000000)
def Zdi:LSum:=LSg Yd 114 (fP 12 12 0<|fT 1 (cL Shape.enc Shape.dec)<|fP 7 7 0<|fT 67 cI<|fT 18 (cL Pixel.enc Pixel.dec)<|fT 6 (cL Cx.enc Cx.dec)<|fT 3 cI<|fT 19 cI<|fT 4 cI<|fT 2 cI<|fT 62 cI<|fT 63 cI<|fT 66 cI<|fb 12 eI1 gI1 Zwo<|fB 7 S3.enc S3.dec<|fZ) [7] [(.t 18,44)] Zl3 (V13 J7) fun y K=>K (.exit 2) (V13 Zdh y)
abbrev ZhL(R_:Type):=(List Shape)→(List Pixel)→(List Cx)→Int→Int→Int→Int→Int→Int→S3→R_
def Zz7:ZhL St:=fun l out ds h pitch w j h2 n s=>⟨114,[(12,.ptr 12 0),(1,.p (.lst (l.map Shape.enc))),(7,.ptr 7 0),(18,.p (.lst (out.map Pixel.enc))),(6,.p (.lst (ds.map Cx.enc))),(3,pI h),(4,pI pitch),(2,pI w),(63,pI j),(62,pI h2)],[(12,[vI n]),(7,S3.enc s)],[7],[(.t 18,44)],[]⟩
def Zn1:KpH:=⟨⟨[12,1,7,18,6,3,4,2,63,62],[12,7],[.t 18]⟩,[(.t 18,44)]⟩
def Zw1:KpH:=⟨⟨[18],[],[]⟩,[]⟩
abbrev Zw2:KpH:=kr0
def Zej:ZhL St:=fun l out ds h pitch w j h2 n s=>⟨114,[(18,.p (.lst ((out++JM (Zap s l w h pitch n ds) w (h - j).toNat j).map Pixel.enc)))],[],[7],[],[]⟩
def Zal:ZhL Prop:=fun l out ds h pitch w j h2 n s=>(0≤j∧j≤h∧h=h2∧h≤16∧0≤w∧w≤16∧ds.length≤16∧(out.length:Int)≤16 *j)∧(l.length≤1000000∧s.a.surfs.length≤1000000∧s.b.surfs.length≤1000000∧s.c.surfs.length≤1000000)
def ZhM:LSum:=LSg Yd 114 (fP 12 12 0<|fT 1 (cL Shape.enc Shape.dec)<|fP 7 7 0<|fT 18 (cL Pixel.enc Pixel.dec)<|fT 6 (cL Cx.enc Cx.dec)<|fT 3 cI<|fT 4 cI<|fT 2 cI<|fT 63 cI<|fT 62 cI<|fb 12 eI1 gI1 Zwo<|fB 7 S3.enc S3.dec<|fZ) [7] [(.t 18,44)] Zn1 (V10 Zal) fun y K=>K (.exit 0) (V10 Zej y)
abbrev ZaF(R_:Type):=Int→(List Pair)→Int→(List Cx)→(List Shape)→Int→Int→Int→S3→R_
def Zl4:ZaF St:=fun i at1 n ds l h pitch w s=>⟨218,[(17,pI i),(16,.p (.lst (at1.map Pair.enc))),(5,pI n),(6,.p (.lst (ds.map Cx.enc))),(1,.p (.lst (l.map Shape.enc))),(7,.ptr 7 0),(3,pI h),(4,pI pitch),(2,pI w)],[(7,S3.enc s)],[],[(.t 16,50)],[]⟩
def Zl5:KpH:=⟨⟨[17,16,5,6,1,7,3,4,2],[7],[.t 16]⟩,[(.t 16,50)]⟩
def Zt8:KpH:=⟨⟨[5,16,1,7,3,4,2],[7],[]⟩,[]⟩
def Zt9:KpH:=⟨⟨[14,15],[],[]⟩,[]⟩
def Zdj:ZaF St:=fun i at1 n ds l h pitch w s=>⟨218,[(5,.p (.v (.int .i64 n))),(16,.p (.lst ((at1++(ds.drop i.toNat).map Za4).map Pair.enc))),(1,.p (.lst (l.map Shape.enc))),(7,.ptr 7 0),(3,.p (.v (.int .i64 h))),(4,.p (.v (.int .i64 pitch))),(2,.p (.v (.int .i64 w)))],[(7,S3.enc s)],[],[],[]⟩
def Zdk:ZaF St:=fun i at1 n ds l h pitch w s=>⟨218,[(14,.p .nil),(15,.p (.v (.int .i64 1)))],[],[],[],[]⟩
def J8:ZaF Prop:=fun i at1 n ds l h pitch w s=>(0≤i∧i≤ds.length∧ds.length≤16∧ZX n 1 16=true∧(at1.length:Int)≤i)
def We:ZaF Bool:=fun i at1 n ds l h pitch w s=>(ds.drop i.toNat).any (fun z=> !YB z n)
def Zl6:LSum:=LSg Yd 218 (fT 17 cI<|fT 16 (cL Pair.enc Pair.dec)<|fT 5 cI<|fT 6 (cL Cx.enc Cx.dec)<|fT 1 (cL Shape.enc Shape.dec)<|fP 7 7 0<|fT 3 cI<|fT 4 cI<|fT 2 cI<|fB 7 S3.enc S3.dec<|fZ) [] [(.t 16,50)] Zl5 (V9 J8) fun y K=>bif V9 We y then K .ret (V9 Zdk y) else K (.exit 0) (V9 Zdj y)
abbrev Zff(R_:Type):=Int→Int→(List Pair)→(List Shape)→Int→Int→Int→Int→Int→(List Pixel)→Pixel→Iv→Iv→S3→R_
def Zkh:Zff St:=fun n k at1 l h j pitch w i out p yy xx s=>⟨218,[(23,.ptr 23 0),(5,pI n),(26,pI k),(16,.p (.lst (at1.map Pair.enc))),(25,.ptr 25 0),(24,.ptr 24 0),(1,.p (.lst (l.map Shape.enc))),(7,.ptr 7 0),(3,pI h),(21,pI j),(4,pI pitch),(2,pI w),(22,pI i),(20,.p (.lst (out.map Pixel.enc)))],[(23,Pixel.enc p),(25,Iv.enc yy),(24,Iv.enc xx),(7,S3.enc s)],[],[(.t 20,98)],[]⟩
def Zki:KpH:=⟨⟨[23,5,26,16,25,24,1,7,3,21,4,2,22,20],[23,25,24,7],[.t 20]⟩,[(.t 20,98)]⟩
def ZrU:KpH:=⟨⟨[5,16,1,7,3,21,4,2,22,23,20],[7,23],[.t 20]⟩,[(.t 20,98)]⟩
abbrev ZrV:KpH:=kr0
def ZbQ:Zff St:=fun n k at1 l h j pitch w i out p yy xx s=>⟨218,[(5,.p (.v (.int .i64 n))),(16,.p (.lst (at1.map Pair.enc))),(1,.p (.lst (l.map Shape.enc))),(7,.ptr 7 0),(3,.p (.v (.int .i64 h))),(21,.p (.v (.int .i64 j))),(4,.p (.v (.int .i64 pitch))),(2,.p (.v (.int .i64 w))),(22,.p (.v (.int .i64 i))),(23,.ptr 23 0),(20,.p (.lst (out.map Pixel.enc)))],[(7,S3.enc s),(23,Pixel.enc (Zlb s l xx yy n (at1.drop k.toNat) p))],[],[(.t 20,98)],[]⟩
def Jc:Zff Prop:=fun n k at1 l h j pitch w i out p yy xx s=>(0≤k∧k≤at1.length∧at1.length≤16)∧(l.length≤1000000∧s.a.surfs.length≤1000000∧s.b.surfs.length≤1000000∧s.c.surfs.length≤1000000)
def ZbR:LSum:=LSg Yd 218 (fP 23 23 0<|fT 5 cI<|fT 26 cI<|fT 16 (cL Pair.enc Pair.dec)<|fP 25 25 0<|fP 24 24 0<|fT 1 (cL Shape.enc Shape.dec)<|fP 7 7 0<|fT 3 cI<|fT 21 cI<|fT 4 cI<|fT 2 cI<|fT 22 cI<|fT 20 (cL Pixel.enc Pixel.dec)<|fB 23 Pixel.enc Pixel.dec<|fB 25 Iv.enc Iv.dec<|fB 24 Iv.enc Iv.dec<|fB 7 S3.enc S3.dec<|fZ) [] [(.t 20,98)] Zki (V14 Jc) fun y K=>K (.exit 6) (V14 ZbQ y)
abbrev Zfg(R_:Type):=Int→(List Pair)→(List Shape)→Int→(List Pixel)→Int→Int→Int→Int→S3→R_
def Zkj:Zfg St:=fun n at1 l i out h j pitch w s=>⟨218,[(5,pI n),(16,.p (.lst (at1.map Pair.enc))),(1,.p (.lst (l.map Shape.enc))),(7,.ptr 7 0),(22,pI i),(20,.p (.lst (out.map Pixel.enc))),(3,pI h),(21,pI j),(4,pI pitch),(2,pI w)],[(7,S3.enc s)],[],[(.t 20,98)],[]⟩
def Zkk:KpH:=⟨⟨[5,16,1,7,22,20,3,21,4,2],[7],[.t 20]⟩,[(.t 20,98)]⟩
def ZrW:KpH:=⟨⟨[5,16,1,7,20,3,4,2,21],[7],[.t 20]⟩,[(.t 20,98)]⟩
abbrev ZrX:KpH:=kr0
def ZbS:Zfg St:=fun n at1 l i out h j pitch w s=>⟨218,[(5,.p (.v (.int .i64 n))),(16,.p (.lst (at1.map Pair.enc))),(1,.p (.lst (l.map Shape.enc))),(7,.ptr 7 0),(20,.p (.lst ((out++Zbq (Zgg s l w h pitch n at1 j) (w - i).toNat i).map Pixel.enc))),(3,.p (.v (.int .i64 h))),(4,.p (.v (.int .i64 pitch))),(2,.p (.v (.int .i64 w))),(21,.p (.v (.int .i64 j)))],[(7,S3.enc s)],[],[(.t 20,98)],[]⟩
def Jd:Zfg Prop:=fun n at1 l i out h j pitch w s=>(0≤i∧i≤w∧h≤16∧0≤j∧j≤16∧w≤16∧at1.length≤16∧(out.length:Int)≤16 *j+i)∧(l.length≤1000000∧s.a.surfs.length≤1000000∧s.b.surfs.length≤1000000∧s.c.surfs.length≤1000000)
def Zfh:LSum:=LSg Yd 218 (fT 5 cI<|fT 16 (cL Pair.enc Pair.dec)<|fT 1 (cL Shape.enc Shape.dec)<|fP 7 7 0<|fT 22 cI<|fT 20 (cL Pixel.enc Pixel.dec)<|fT 3 cI<|fT 21 cI<|fT 4 cI<|fT 2 cI<|fB 7 S3.enc S3.dec<|fZ) [] [(.t 20,98)] Zkk (V10 Jd) fun y K=>K (.exit 4) (V10 ZbS y)
abbrev Zfi(R_:Type):=Int→(List Pair)→(List Shape)→(List Pixel)→Int→Int→Int→Int→S3→R_
def ZtA:Zfi St:=fun n at1 l out h j pitch w s=>⟨218,[(5,pI n),(16,.p (.lst (at1.map Pair.enc))),(1,.p (.lst (l.map Shape.enc))),(7,.ptr 7 0),(20,.p (.lst (out.map Pixel.enc))),(3,pI h),(21,pI j),(4,pI pitch),(2,pI w)],[(7,S3.enc s)],[],[(.t 20,98)],[]⟩
def Zkl:KpH:=⟨⟨[5,16,1,7,20,3,21,4,2],[7],[.t 20]⟩,[(.t 20,98)]⟩
def ZrY:KpH:=⟨⟨[20],[],[]⟩,[]⟩
abbrev ZrZ:KpH:=kr0
def ZbT:Zfi St:=fun n at1 l out h j pitch w s=>⟨218,[(20,.p (.lst ((out++JM (Zgg s l w h pitch n at1) w (h - j).toNat j).map Pixel.enc)))],[],[],[],[]⟩
def Je:Zfi Prop:=fun n at1 l out h j pitch w s=>(0≤j∧j≤h∧h≤16∧0≤w∧w≤16∧at1.length≤16∧(out.length:Int)≤16 *j)∧(l.length≤1000000∧s.a.surfs.length≤1000000∧s.b.surfs.length≤1000000∧s.c.surfs.length≤1000000)
def Zkm:LSum:=LSg Yd 218 (fT 5 cI<|fT 16 (cL Pair.enc Pair.dec)<|fT 1 (cL Shape.enc Shape.dec)<|fP 7 7 0<|fT 20 (cL Pixel.enc Pixel.dec)<|fT 3 cI<|fT 21 cI<|fT 4 cI<|fT 2 cI<|fB 7 S3.enc S3.dec<|fZ) [] [(.t 20,98)] Zkl (V9 Je) fun y K=>K (.exit 2) (V9 ZbT y)
abbrev Zl7(R_:Type):=Int→Int→(List Pixel)→Int→Bld→R_
def ZsV:Zl7 St:=fun tw i ps m bl=>⟨73,[(10,.ptr 10 0),(9,pI tw),(45,pI i),(43,.p (.lst (ps.map Pixel.enc))),(44,pI m)],[(10,Bld.enc bl)],[],[(.b 10 1,5)],[]⟩
def ZsW:KpH:=⟨⟨[10,9,45,43,44],[10],[.b 10 1]⟩,[(.b 10 1,5)]⟩
def Z2l:KpH:=⟨⟨[10],[10],[.b 10 1]⟩,[(.b 10 1,5)]⟩
abbrev Z2m:KpH:=kr0
def Zhu:Zl7 St:=fun tw i ps m bl=>⟨73,[(10,.ptr 10 0)],[(10,Bld.enc (⟨bl.txt++((ps.drop i.toNat).map (JN tw)).flatten⟩))],[],[(.b 10 1,5)],[]⟩
def JG:Zl7 Prop:=fun tw i ps m bl=>(0≤i∧i≤ps.length∧m=ps.length∧ps.length≤256∧(bl.txt.length:Int)≤100+100 *i)∧((0≤tw∧tw≤32)∧∀p∈ps,X4 p)
def Zl8:LSum:=LSg Yd 73 (fP 10 10 0<|fT 9 cI<|fT 45 cI<|fT 43 (cL Pixel.enc Pixel.dec)<|fT 44 cI<|fB 10 Bld.enc Bld.dec<|fZ) [] [(.b 10 1,5)] ZsW (V5 JG) fun y K=>K (.exit 0) (V5 Zhu y)
abbrev Zl9(R_:Type):=(List UInt8)→Int→Int→(List Pixel)→R_
def ZlA:Zl9 St:=fun tx d i ps=>⟨88,[(9,.p (.str tx)),(3,pI d),(10,pI i),(0,.p (.lst (ps.map Pixel.enc)))],[],[],[],[]⟩
def ZsX:KpH:=⟨⟨[9,3,10,0],[],[]⟩,[]⟩
def Z2n:KpH:=⟨⟨[9],[],[]⟩,[]⟩
abbrev Z2o:KpH:=kr0
def Zhv:Zl9 St:=fun tx d i ps=>⟨88,[(9,.p (.str (tx++((ps.drop i.toNat).map (JN (Zbr d))).flatten)))],[],[],[],[]⟩
def Zc5:Zl9 Prop:=fun tx d i ps=>(0≤i∧i≤ps.length∧ps.length≤256∧(tx.length:Int)≤100+100 *i)∧(∀p∈ps,X4 p)
def ZsY:LSum:=LSg Yd 88 (fT 9 cS<|fT 3 cI<|fT 10 cI<|fT 0 (cL Pixel.enc Pixel.dec)<|fZ) [] [] ZsX (V4 Zc5) fun y K=>K (.exit 0) (V4 Zhv y)
abbrev ZlB(R_:Type):=Int→(List Pixel)→(List Pixel)→Int→R_
def Z5G:ZlB St:=fun i b a n=>⟨26,[(13,pI i),(1,.p (.lst (b.map Pixel.enc))),(0,.p (.lst (a.map Pixel.enc))),(12,pI n)],[],[],[],[]⟩
def ZsZ:KpH:=⟨⟨[13,1,0,12],[],[]⟩,[]⟩
def Z2p:KpH:=⟨⟨[],[],[]⟩,[]⟩
abbrev Z2q:KpH:=kr0
def Zta:ZlB St:=fun i b a n=>⟨26,[],[],[],[],[]⟩
def Zc6:ZlB Prop:=fun i b a n=>(0≤i∧i≤a.length∧n=a.length∧a.length≤1000∧b=a)
def Ztb:LSum:=LSg Yd 26 (fT 13 cI<|fT 1 (cL Pixel.enc Pixel.dec)<|fT 0 (cL Pixel.enc Pixel.dec)<|fT 12 cI<|fZ) [] [] ZsZ (V4 Zc6) fun y K=>K (.exit 0) (V4 Zta y)
abbrev ZjF(R_:Type):=Int→(List Pixel)→(List Pixel)→Int→R_
def Z2r:ZjF St:=fun i b a n=>⟨38,[(13,pI i),(1,.p (.lst (b.map Pixel.enc))),(0,.p (.lst (a.map Pixel.enc))),(12,pI n)],[],[],[],[]⟩
def ZpQ:KpH:=⟨⟨[13,1,0,12],[],[]⟩,[]⟩
def Zz8:KpH:=⟨⟨[],[],[]⟩,[]⟩
abbrev Zz9:KpH:=kr0
def ZpR:ZjF St:=fun i b a n=>⟨38,[],[],[],[],[]⟩
def Zbh:ZjF Prop:=fun i b a n=>(0≤i∧i≤a.length∧n=a.length∧a.length≤1000∧b=a)
def ZpS:LSum:=LSg Yd 38 (fT 13 cI<|fT 1 (cL Pixel.enc Pixel.dec)<|fT 0 (cL Pixel.enc Pixel.dec)<|fT 12 cI<|fZ) [] [] ZpQ (V4 Zbh) fun y K=>K (.exit 0) (V4 ZpR y)
abbrev ZhN(R_:Type):=Int→Int→(List I)→(List Cx)→R_
def Zn2:ZhN St:=fun i n l out=>⟨43,[(6,pI i),(1,pI n),(0,.p (.lst (l.map I.enc))),(5,.p (.lst (out.map Cx.enc)))],[],[],[(.t 5,41)],[]⟩
def Zn3:KpH:=⟨⟨[6,1,0,5],[],[.t 5]⟩,[(.t 5,41)]⟩
def Zw3:KpH:=⟨⟨[5],[],[.t 5]⟩,[(.t 5,41)]⟩
abbrev Zw4:KpH:=kr0
def Zek:ZhN St:=fun i n l out=>⟨43,[(5,.p (.lst ((out++Zak n (5 - i).toNat l i).map Cx.enc)))],[],[],[(.t 5,41)],[]⟩
def Zam:ZhN Prop:=fun i n l out=>(0≤i∧i≤5∧l.length≤140737488355328∧1≤n∧n≤8∧(out.length:Int)=i)
def ZhO:LSum:=LSg Yd 43 (fT 6 cI<|fT 1 cI<|fT 0 (cL I.enc I.dec)<|fT 5 (cL Cx.enc Cx.dec)<|fZ) [] [(.t 5,41)] Zn3 (V4 Zam) fun y K=>K (.exit 0) (V4 Zek y)
theorem ZjG:Zh Tryz.prog 63 e63:=Zi<|Zf fun n=>EZ0<|by
 refine cf0 Ze (fn:=Tryz.f63) rfl ?_
 refine sxT (fun Q=>(bif decide (n≥(-1073741824:Int)) then Q (vB (decide (n≤(1073741824:Int)))) else Q (vB false))) (fun _=>by kernel_rfl) ?_
 delta Qn vB
 refine Zb (fun h0=>?_) (fun h0=>?_)
 all_goals (simp only[inB,ZC,ZB,List.foldl,Qr_,Qp_,Ql_,Qn_,Q5_,Q4_,Qw_,Q3_,Qu_,Qt_,Qb_,Qd_,QD_,Q8_, *];rfl)
theorem ZjH:Zh Tryz.prog 73 e73:=Zi<|Zf fun n=>EZ0<|by
 refine cf0 Ze (fn:=Tryz.f73) rfl ?_
 refine sxT (fun Q=>(bif decide (n≥(-1073741824:Int)) then Q (vB (decide (n≤(1073741824:Int)))) else Q (vB false))) (fun _=>by kernel_rfl) ?_
 delta Qn vB
 refine Zb (fun h0=>?_) (fun h0=>?_)
 all_goals (simp only[inB,ZC,ZB,List.foldl,Qr_,Qp_,Ql_,Qn_,Q5_,Q4_,Qw_,Q3_,Qu_,Qt_,Qb_,Qd_,QD_,Q8_, *];rfl)
theorem Ztc(a:Iv):Con Tryz.prog 62 [.agg (Iv.enc a)] (.v (.bool (right a))):=by
 refine cf0 (Za ZjG<|Ze) (fn:=Tryz.f62) rfl ?_
 refine sxT (fun Q=>(bif !a.no then (bif inB a.lo then (bif inB a.hi then Q (vB (decide (a.lo≤a.hi))) else Q (vB false)) else Q (vB false)) else Q (vB false))) (fun _=>by kernel_rfl) ?_
 delta Qn vB
 refine Zb (fun h0=>Zb (fun h1=>Zb (fun h2=>?_) (fun h2=>?_)) (fun h1=>?_)) (fun h0=>?_)
 all_goals (simp only[right,ZC,ZB,List.foldl,Qr_,Qp_,Ql_,Qn_,Q5_,Q4_,Qw_,Q3_,Qu_,Qt_,Qb_,Qd_,QD_,Q8_, *];rfl)
theorem Zbi:Zh Tryz.prog 62 e62:=Zi<|Zf fun a=>EZ0<|Ztc a
theorem Xp:Zh Tryz.prog 72 e72:=Zi<|Zf fun a=>EZ0<|by
 refine cf0 (Za ZjH<|Ze) (fn:=Tryz.f72) rfl ?_
 refine sxT (fun Q=>(bif !a.no then (bif inB a.lo then (bif inB a.hi then Q (vB (decide (a.lo≤a.hi))) else Q (vB false)) else Q (vB false)) else Q (vB false))) (fun _=>by kernel_rfl) ?_
 delta Qn vB
 refine Zb (fun h0=>Zb (fun h1=>Zb (fun h2=>?_) (fun h2=>?_)) (fun h1=>?_)) (fun h0=>?_)
 all_goals (simp only[right,ZC,ZB,List.foldl,Qr_,Qp_,Ql_,Qn_,Q5_,Q4_,Qw_,Q3_,Qu_,Qt_,Qb_,Qd_,QD_,Q8_, *];rfl)
theorem Zw5:Con Tryz.prog 64 [] (.agg (Iv.enc none')):=by
 refine cf0 Ze (fn:=Tryz.f64) rfl ?_
 refine sxT (fun Q=>Q (PV.agg [vI 0,vI 0,vB true])) (fun _=>by kernel_rfl) ?_
 delta Qn vI vB
 refine ?_
 all_goals rfl
theorem Xx:Zh Tryz.prog 64 e64:=Zi<|EZ0<|Zw5
theorem XF:Zh Tryz.prog 74 e74:=Zi<|EZ0<|by
 refine cf0 Ze (fn:=Tryz.f74) rfl ?_
 refine sxT (fun Q=>Q (PV.agg [vI 0,vI 0,vB true])) (fun _=>by kernel_rfl) ?_
 delta Qn vI vB
 refine ?_
 all_goals rfl
theorem Zbj:Zh Tryz.prog 65 e65:=Zi<|Zf fun lo=>Zf fun hi=>EZ0<|by
 refine cf0 (Za Zbi<|Za Xx<|Ze) (fn:=Tryz.f65) rfl ?_
 refine sxT (fun Q=>(bif !right (Iv.mk lo hi false) then Q (PV.agg [vI 0,vI 0,vB true]) else Q (PV.agg [vI lo,vI hi,vB false]))) (fun _=>by kernel_rfl) ?_
 delta Qn vI vB
 refine Zb (fun h0=>?_) (fun h0=>?_)
 all_goals (try simp only[Qi_,Qf_,bne] at *)
 all_goals (simp only[of,ZC,ZB,List.foldl,Qr_,Qp_,Ql_,Qn_,Q5_,Q4_,Qw_,Q3_,Qu_,Qt_,Qb_,Qd_,QD_,Q8_, *];rfl)
theorem Zar:Zh Tryz.prog 75 e75:=Zi<|Zf fun lo=>Zf fun hi=>EZ0<|by
 refine cf0 (Za Xp<|Za XF<|Ze) (fn:=Tryz.f75) rfl ?_
 refine sxT (fun Q=>(bif !right (Iv.mk lo hi false) then Q (PV.agg [vI 0,vI 0,vB true]) else Q (PV.agg [vI lo,vI hi,vB false]))) (fun _=>by kernel_rfl) ?_
 delta Qn vI vB
 refine Zb (fun h0=>?_) (fun h0=>?_)
 all_goals (try simp only[Qi_,Qf_,bne] at *)
 all_goals (simp only[of,ZC,ZB,List.foldl,Qr_,Qp_,Ql_,Qn_,Q5_,Q4_,Qw_,Q3_,Qu_,Qt_,Qb_,Qd_,QD_,Q8_, *];rfl)
theorem Zhw:Zh Tryz.prog 35 e35:=Zi<|Zf fun n=>EZ0<|by
 refine cf0 (Za Zbj<|Ze) (fn:=Tryz.f35) rfl ?_
 refine sxT (fun Q=>Q (PV.agg (eIv (of n n)))) (fun _=>by kernel_rfl) ?_
 delta Qn eIv vI vB
 refine ?_
 all_goals rfl
theorem ZbU:Zh Tryz.prog 46 e46:=Zi<|Zf fun n=>EZ0<|by
 refine cf0 (Za Zar<|Ze) (fn:=Tryz.f46) rfl ?_
 refine sxT (fun Q=>Q (PV.agg (eIv (of n n)))) (fun _=>by kernel_rfl) ?_
 delta Qn eIv vI vB
 refine ?_
 all_goals rfl
theorem Z2s:Zh Tryz.prog 56 e56:=Zi<|Zf fun n=>EZ0<|by
 refine cf0 (Za ZjG<|Za Xx<|Za Zhw<|Ze) (fn:=Tryz.f56) rfl ?_
 refine sxT (fun Q=>(bif !inB n then Q (PV.agg [vI 0,vI 0,vB true]) else Q (PV.agg (eIv (point (IntKind.i64.wrap (n * (65536:Int)))))))) (fun _=>by kernel_rfl) ?_
 delta Qn eIv vI vB
 refine Zb (fun h0=>?_) (fun h0=>?_)
 ·simp_all[nz,nzA,nz1,whole,none',Iv.enc]
 ·simp only[Qf_,ZV] at h0
  rw[Zg (by constructor<;>omega)]
  simp[nz,nzA,nz1,whole,ZV.2 h0,Iv.enc]
theorem Z2t:Zh Tryz.prog 89 e89:=Zi<|Zf fun n=>EZ0<|by
 refine cf0 (Za ZjH<|Za XF<|Za ZbU<|Ze) (fn:=Tryz.f89) rfl ?_
 refine sxT (fun Q=>(bif !inB n then Q (PV.agg [vI 0,vI 0,vB true]) else Q (PV.agg (eIv (point (IntKind.i64.wrap (n * (65536:Int)))))))) (fun _=>by kernel_rfl) ?_
 delta Qn eIv vI vB
 refine Zb (fun h0=>?_) (fun h0=>?_)
 ·simp_all[nz,nzA,nz1,whole,none',Iv.enc]
 ·simp only[Qf_,ZV] at h0
  rw[Zg (by constructor<;>omega)]
  simp[nz,nzA,nz1,whole,ZV.2 h0,Iv.enc]
theorem Z2u:Zh Tryz.prog 39 e39:=Zi<|Zf fun a=>Zf fun b=>EZ1 fun hp0=>by
 refine cf0 Ze (fn:=Tryz.f39) rfl ?_
 refine sxT (fun Q=>(bif b==(0:Int) then Q (vI 0) else ((b≠(0:Int))∧((b≠(0:Int))∧(bif a.tmod b !=(0:Int) then (bif !decide (a < (0:Int))==decide (b < (0:Int)) then Q (vI (IntKind.i64.wrap (IntKind.i64.wrap (a.tdiv b) - (1:Int)))) else Q (vI (IntKind.i64.wrap (a.tdiv b)))) else Q (vI (IntKind.i64.wrap (a.tdiv b)))))))) (fun _=>by kernel_rfl) ?_
 delta Qn vI
 refine Zb (fun h0=>?_) (fun h0=>⟨?r1,⟨?r0,Zb (fun h1=>Zb (fun h2=>?_) (fun h2=>?_)) (fun h1=>?_)⟩⟩)
 case r0|r1=>first | rfl | (simp only[Zm,dI,dIv];omega) | (simp[Zc,chunk];done) | (simp only[Zm,dI,dIv];done) | (exact Z8 (fun _=>rfl) (by omega) (by omega)) | (simp only[Qc_,Qk_] at *;exact Z8 (fun _=>rfl) (by omega) (by omega)) | assumption | trivial | (simp_all;done)
 ·simp_all[nz,nzA,floor]
 ·have hw:IntKind.i64.wrap (a.tdiv b)=a.tdiv b:=Zg (by have:=Zcg (b:=b) hp0;constructor<;>omega)
  have hb:b≠0:=by simpa using h0
  have e:=Z0u hb (by simpa using h1) (by simpa using h2)
  have hf:=ZfZ (b:=b) hp0
  rw[hw,e,Zg (by constructor<;>omega)];rfl
 ·have hw:IntKind.i64.wrap (a.tdiv b)=a.tdiv b:=Zg (by have:=Zcg (b:=b) hp0;constructor<;>omega)
  have hb:b≠0:=by simpa using h0
  have e:=ZmH hb (.inr (by simpa using h2))
  rw[hw,e];rfl
 ·have hw:IntKind.i64.wrap (a.tdiv b)=a.tdiv b:=Zg (by have:=Zcg (b:=b) hp0;constructor<;>omega)
  have hb:b≠0:=by simpa using h0
  have e:=ZmH hb (.inl (by simpa using h1))
  rw[hw,e];rfl
theorem ZmU:Zh Tryz.prog 48 e48:=Zi<|Zf fun a=>Zf fun b=>EZ1 fun hp0=>by
 refine cf0 Ze (fn:=Tryz.f48) rfl ?_
 refine sxT (fun Q=>(bif b==(0:Int) then Q (vI 0) else ((b≠(0:Int))∧((b≠(0:Int))∧(bif a.tmod b !=(0:Int) then (bif !decide (a.tmod b < (0:Int))==decide (b < (0:Int)) then Q (vI (IntKind.i64.wrap (IntKind.i64.wrap (a.tdiv b) - (1:Int)))) else Q (vI (IntKind.i64.wrap (a.tdiv b)))) else Q (vI (IntKind.i64.wrap (a.tdiv b)))))))) (fun _=>by kernel_rfl) ?_
 delta Qn vI
 refine Zb (fun h0=>?_) (fun h0=>⟨?r1,⟨?r0,Zb (fun h1=>Zb (fun h2=>?_) (fun h2=>?_)) (fun h1=>?_)⟩⟩)
 case r0|r1=>first | rfl | (simp only[Zm,dI,dIv];omega) | (simp[Zc,chunk];done) | (simp only[Zm,dI,dIv];done) | (exact Z8 (fun _=>rfl) (by omega) (by omega)) | (simp only[Qc_,Qk_] at *;exact Z8 (fun _=>rfl) (by omega) (by omega)) | assumption | trivial | (simp_all;done)
 ·simp_all[nz,nzA,floor]
 ·have hw:IntKind.i64.wrap (a.tdiv b)=a.tdiv b:=Zg (by have:=Zcg (b:=b) hp0;constructor<;>omega)
  have hb:b≠0:=by simpa using h0
  rw[ZvP (by simpa using h1)] at h2
  have e:=Z0u hb (by simpa using h1) (by simpa using h2)
  have hf:=ZfZ (b:=b) hp0
  rw[hw,e,Zg (by constructor<;>omega)];rfl
 ·have hw:IntKind.i64.wrap (a.tdiv b)=a.tdiv b:=Zg (by have:=Zcg (b:=b) hp0;constructor<;>omega)
  have hb:b≠0:=by simpa using h0
  rw[ZvP (by simpa using h1)] at h2
  have e:=ZmH hb (.inr (by simpa using h2))
  rw[hw,e];rfl
 ·have hw:IntKind.i64.wrap (a.tdiv b)=a.tdiv b:=Zg (by have:=Zcg (b:=b) hp0;constructor<;>omega)
  have hb:b≠0:=by simpa using h0
  have e:=ZmH hb (.inl (by simpa using h1))
  rw[hw,e];rfl
theorem ZlC:Zh Tryz.prog 157 ZDm:=Zi<|Zf fun a=>Zf fun b=>EZ0<|by
 refine cf0 (Za Zbi<|Ze) (fn:=Tryz.f157) rfl ?_
 refine sxT (fun Q=>(bif right a then Q (vB (right b)) else Q (vB false))) (fun _=>by kernel_rfl) ?_
 delta Qn vB
 refine Zb (fun h0=>?_) (fun h0=>?_)
 all_goals (simp only[both,ZC,ZB,List.foldl,Qr_,Qp_,Ql_,Qn_,Q5_,Q4_,Qw_,Q3_,Qu_,Qt_,Qb_,Qd_,QD_,Q8_, *];rfl)
theorem Z5H:Zh Tryz.prog 129 ZDn:=Zi<|Zf fun a=>EZ0<|by
 refine cf0 (Za Zbi<|Za Xx<|Za Zbj<|Ze) (fn:=Tryz.f129) rfl ?_
 refine sxT (fun Q=>(bif !right a then Q (PV.agg [vI 0,vI 0,vB true]) else Q (PV.agg (eIv (of (IntKind.i64.wrap ((0:Int) - a.hi)) (IntKind.i64.wrap ((0:Int) - a.lo))))))) (fun _=>by kernel_rfl) ?_
 delta Qn eIv vI vB
 refine Zb (fun h0=>?_) (fun h0=>?_)
 ·simp_all[nz,nzA,nz1,neg,none',Iv.enc]
 ·simp only[Qf_] at h0
  have ha:=Y9 h0
  rw[Zg (by constructor<;>omega),Zg (by constructor<;>omega)]
  simp[nz,nzA,nz1,neg,h0,Iv.enc]
theorem ZBn:Zh Tryz.prog 183 ZDo:=Zi<|Zf fun a=>EZ0<|by
 refine cf0 (Za Xp<|Za XF<|Za Zar<|Ze) (fn:=Tryz.f183) rfl ?_
 refine sxT (fun Q=>(bif !right a then Q (PV.agg [vI 0,vI 0,vB true]) else Q (PV.agg (eIv (of (IntKind.i64.wrap ((0:Int) - a.hi)) (IntKind.i64.wrap ((0:Int) - a.lo))))))) (fun _=>by kernel_rfl) ?_
 delta Qn eIv vI vB
 refine Zb (fun h0=>?_) (fun h0=>?_)
 ·simp_all[nz,nzA,nz1,neg,none',Iv.enc]
 ·simp only[Qf_] at h0
  have ha:=Y9 h0
  rw[Zg (by constructor<;>omega),Zg (by constructor<;>omega)]
  simp[nz,nzA,nz1,neg,h0,Iv.enc]
theorem Zsa(a:Iv)(b:Iv):Con Tryz.prog 128 [.agg (Iv.enc a),.agg (Iv.enc b)] (.agg (Iv.enc (add a b))):=by
 refine cf0 (Za ZlC<|Za Xx<|Za Zbj<|Ze) (fn:=Tryz.f128) rfl ?_
 refine sxT (fun Q=>(bif !both a b then Q (PV.agg [vI 0,vI 0,vB true]) else Q (PV.agg (eIv (of (IntKind.i64.wrap (a.lo+b.lo)) (IntKind.i64.wrap (a.hi+b.hi))))))) (fun _=>by kernel_rfl) ?_
 delta Qn eIv vI vB
 refine Zb (fun h0=>?_) (fun h0=>?_)
 ·simp_all[nz,nzA,nz1,add,none',Iv.enc]
 ·simp only[Qf_] at h0
  have hb:=Bool.and_eq_true_iff.1 (show (right a&&right b)=true from h0)
  have ha:=Y9 hb.1
  have hb:=Y9 hb.2
  rw[Zg (by constructor<;>omega),Zg (by constructor<;>omega)]
  simp[nz,nzA,nz1,add,h0,Iv.enc]
theorem Zb2:Zh Tryz.prog 128 ZDp:=Zi<|Zf fun a=>Zf fun b=>EZ0<|Zsa a b
theorem ZbV:Zh Tryz.prog 83 e83:=Zi<|Zf fun a=>Zf fun b=>EZ0<|by
 refine cf0 (Za Xp<|Za XF<|Za Zar<|Ze) (fn:=Tryz.f83) rfl ?_
 refine sxT (fun Q=>(bif !right a then Q (PV.agg [vI 0,vI 0,vB true]) else (bif !right b then Q (PV.agg [vI 0,vI 0,vB true]) else Q (PV.agg (eIv (of (IntKind.i64.wrap (a.lo+b.lo)) (IntKind.i64.wrap (a.hi+b.hi)))))))) (fun _=>by kernel_rfl) ?_
 delta Qn eIv vI vB
 refine Zb (fun h0=>?_) (fun h0=>Zb (fun h1=>?_) (fun h1=>?_))
 ·simp_all[nz,nzA,nz1,add,both,none',Iv.enc]
 ·simp_all[nz,nzA,nz1,add,both,none',Iv.enc]
 ·simp only[Qf_] at h0 h1
  have ha:=Y9 h0
  have hb:=Y9 h1
  rw[Zg (by constructor<;>omega),Zg (by constructor<;>omega)]
  simp[nz,nzA,nz1,add,both,h0,h1,Iv.enc]
theorem Zdl:Zh Tryz.prog 99 e99:=Zi<|Zf fun a=>Zf fun b=>EZ0<|by
 refine cf0 (Za Z5H<|Za Zb2<|Ze) (fn:=Tryz.f99) rfl ?_
 refine sxT (fun Q=>Q (PV.agg (eIv (add a (neg b))))) (fun _=>by kernel_rfl) ?_
 delta Qn eIv vI vB
 refine ?_
 all_goals rfl
theorem ZaG:Zh Tryz.prog 107 ZAK:=Zi<|Zf fun a=>Zf fun b=>EZ0<|by
 refine cf0 (Za Xp<|Za XF<|Za Zar<|Ze) (fn:=Tryz.f107) rfl ?_
 refine sxT (fun Q=>(bif !right a then Q (PV.agg [vI 0,vI 0,vB true]) else (bif !right b then Q (PV.agg [vI 0,vI 0,vB true]) else Q (PV.agg (eIv (of (IntKind.i64.wrap (a.lo - b.hi)) (IntKind.i64.wrap (a.hi - b.lo)))))))) (fun _=>by kernel_rfl) ?_
 delta Qn eIv vI vB
 refine Zb (fun h0=>?_) (fun h0=>Zb (fun h1=>?_) (fun h1=>?_))
 all_goals rw[ZA2]
 ·simp_all[nz,nzA,nz1,both,none',Iv.enc]
 ·simp_all[nz,nzA,nz1,both,none',Iv.enc]
 ·simp only[Qf_] at h0 h1
  have ha:=Y9 h0
  have hb:=Y9 h1
  rw[Zg (by constructor<;>omega),Zg (by constructor<;>omega)]
  simp[nz,nzA,nz1,both,h0,h1,Iv.enc]
theorem Z5I:Zh Tryz.prog 158 ZDq:=Zi<|Zf fun a=>Zf fun n=>EZ0<|by
 refine cf0 (Za Zbi<|Ze) (fn:=Tryz.f158) rfl ?_
 refine sxT (fun Q=>(bif right a then (bif decide (a.lo≤n) then Q (vB (decide (n≤a.hi))) else Q (vB false)) else Q (vB false))) (fun _=>by kernel_rfl) ?_
 delta Qn vB
 refine Zb (fun h0=>Zb (fun h1=>?_) (fun h1=>?_)) (fun h0=>?_)
 all_goals (simp only[has,ZC,ZB,List.foldl,Qr_,Qp_,Ql_,Qn_,Q5_,Q4_,Qw_,Q3_,Qu_,Qt_,Qb_,Qd_,QD_,Q8_, *];rfl)
theorem Z5J:Zh Tryz.prog 186 ZDr:=Zi<|Zf fun a=>Zf fun b=>Zf fun up=>EZ2 fun hp0 hp1=>by
 refine cf0 (Za Z2u<|Za ZjG<|Ze) (fn:=Tryz.f186) rfl ?_
 refine sxT (fun Q=>(((-4611686018427387904:Int)≤a∧a≤(4611686018427387904:Int))∧(bif up then ((b≠(0:Int))∧(bif a.tmod b !=(0:Int) then (bif !inB (IntKind.i64.wrap (floor a b+(1:Int))) then Q (PV.tup [vI 0,vB false]) else Q (PV.tup [vI (IntKind.i64.wrap (floor a b+(1:Int))),vB true])) else (bif !inB (floor a b) then Q (PV.tup [vI 0,vB false]) else Q (PV.tup [vI (floor a b),vB true])))) else (bif !inB (floor a b) then Q (PV.tup [vI 0,vB false]) else Q (PV.tup [vI (floor a b),vB true]))))) (fun _=>by kernel_rfl) ?_
 delta Qn vI vB
 refine ⟨?r1,Zb (fun h0=>⟨?r0,Zb (fun h1=>Zb (fun h2=>?_) (fun h2=>?_)) (fun h1=>Zb (fun h2=>?_) (fun h2=>?_))⟩) (fun h0=>Zb (fun h1=>?_) (fun h1=>?_))⟩
 case r0|r1=>first | rfl | (simp only[Zm,dI,dIv];omega) | (simp[Zc,chunk];done) | (simp only[Zm,dI,dIv];done) | (exact Z8 (fun _=>rfl) (by omega) (by omega)) | (simp only[Qc_,Qk_] at *;exact Z8 (fun _=>rfl) (by omega) (by omega)) | assumption
 all_goals have hf:=ZfZ (b:=b) hp0
 all_goals try have hm:a % b≠0:=by rw[bne_iff_ne,Ne,Zs4] at h1;exact h1
 all_goals try have hm:a % b=0:=by rw[bne_eq_false_iff_eq,Zs4] at h1;exact h1
 all_goals try rw[Zg (show Fit (floor a b+1) by unfold floor;constructor<;>omega)] at *
 all_goals simp_all[nz,nzA,rounded,up1,floor]
theorem Zw6:Zh Tryz.prog 118 ZDs:=Zi<|Zf fun a=>Zf fun b=>EZ3 fun hp0 hp1 hp2=>by
 refine cf0 (Za ZmU<|Ze) (fn:=Tryz.f118) rfl ?_
 refine sxT (fun Q=>(((-4611686018427387904:Int)≤a∧a≤(4611686018427387904:Int))∧(bif IntKind.i64.wrap (floor a b *b)!=a then Q (vI (IntKind.i64.wrap (floor a b+(1:Int)))) else Q (vI (floor a b))))) (fun _=>by kernel_rfl) ?_
 delta Qn vI
 refine ⟨?r0,Zb (fun h0=>?_) (fun h0=>?_)⟩
 case r0=>first | rfl | (simp only[Zm,dI,dIv];omega) | (simp[Zc,chunk];done) | (simp only[Zm,dI,dIv];done) | (exact Z8 (fun _=>rfl) (by omega) (by omega)) | (simp only[Qc_,Qk_] at *;exact Z8 (fun _=>rfl) (by omega) (by omega)) | assumption
 all_goals have hf:=ZfZ (b:=b) hp0
 all_goals rw[Zg (show Fit (floor a b *b) from ZvR hp2 hp0 hp1)] at h0
 ·have hm:¬a % b=0:=by rw[bne_iff_ne,Ne,floor,ZvQ hp2] at h0;exact h0
  rw[Zg (show Fit (floor a b+1) by unfold floor;constructor<;>omega)]
  simp[nz,nzA,up1,floor,hm]
 ·have hm:a % b=0:=by rw[bne_eq_false_iff_eq,floor,ZvQ hp2] at h0;exact h0
  simp[nz,nzA,up1,floor,hm]
theorem Zw7:Zh Tryz.prog 154 ZAL:=Zi<|Zf fun n=>EZ0<|by
 refine cf0 (Za ZjH<|Ze) (fn:=Tryz.f154) rfl ?_
 refine sxT (fun Q=>(bif !inB n then Q (PV.tup [vI 0,vB false]) else Q (PV.tup [vI n,vB true]))) (fun _=>by kernel_rfl) ?_
 delta Qn vI vB
 refine Zb (fun h0=>?_) (fun h0=>?_)
 all_goals (try simp only[Qi_,Qf_,bne] at *)
 all_goals (simp only[told,ZC,ZB,List.foldl,Qr_,Qp_,Ql_,Qn_,Q5_,Q4_,Qw_,Q3_,Qu_,Qt_,Qb_,Qd_,QD_,Q8_, *];rfl)
theorem Zw8:Zh Tryz.prog 187 ZDt:=Zi<|Zf fun a=>Zf fun b=>Zf fun up=>EZ0<|by
 refine cf0 (Za ZjG<|Za Z5J<|Ze) (fn:=Tryz.f187) rfl ?_
 refine sxT (fun Q=>(bif !inB a then Q (PV.tup [vI 0,vB false]) else (bif !inB b then Q (PV.tup [vI 0,vB false]) else (((-4611686018427387904:Int)≤IntKind.i64.wrap (a *b)∧IntKind.i64.wrap (a *b)≤(4611686018427387904:Int))∧(((65536:Int)≠(0:Int))∧Q (PV.tup [vI (rounded (IntKind.i64.wrap (a *b)) (65536:Int) up).fst,vB (rounded (IntKind.i64.wrap (a *b)) (65536:Int) up).snd])))))) (fun _=>by kernel_rfl) ?_
 delta Qn vI vB
 refine Zb (fun h0=>?_) (fun h0=>Zb (fun h1=>?_) (fun h1=>⟨?_,⟨?_, ?_⟩⟩))
 ·simp_all[nz,nzA,mul]
 ·simp_all[nz,nzA,mul]
 all_goals simp only[Qf_] at h0 h1
 all_goals have hw:IntKind.i64.wrap (a *b)=a *b:=Zg (by have:=Zcs h0 h1;constructor<;>omega)
 ·rw[hw];have:=Zcs h0 h1;omega
 ·simp
 ·simp[nz,nzA,mul,hw,h0,h1]
def Z7T(a:Int)(b:Int):=(-4611686018427387904:Int)≤IntKind.i64.wrap (a *b)∧IntKind.i64.wrap (a *b)≤(4611686018427387904:Int)
theorem Zw9:Zh Tryz.prog 119 ZDu:=Zi<|Zf fun a=>Zf fun b=>Zf fun up=>EZ0<|by
 refine cf0 (Za ZjH<|Za Zw6<|Za Zw7<|Za ZmU<|Ze) (fn:=Tryz.f119) rfl ?_
 refine sxT (fun Q=>(bif !inB a then Q (PV.tup [vI 0,vB false]) else (bif !inB b then Q (PV.tup [vI 0,vB false]) else (bif up then ((Z7T a b)∧(((-4611686018427387904:Int)≤(65536:Int)∧(65536:Int)≤(4611686018427387904:Int))∧(((65536:Int)≠(0:Int))∧Q (PV.tup [vI (told (up1 (IntKind.i64.wrap (a *b)) (65536:Int))).fst,vB (told (up1 (IntKind.i64.wrap (a *b)) (65536:Int))).snd])))) else ((Z7T a b)∧Q (PV.tup [vI (told (floor (IntKind.i64.wrap (a *b)) (65536:Int))).fst,vB (told (floor (IntKind.i64.wrap (a *b)) (65536:Int))).snd])))))) (fun _=>by kernel_rfl) ?_
 delta Qn Z7T vI vB
 refine Zb (fun h0=>?_) (fun h0=>Zb (fun h1=>?_) (fun h1=>Zb (fun h2=>⟨?_,⟨?_,⟨?_, ?_⟩⟩⟩) (fun h2=>⟨?_, ?_⟩)))
 ·simp_all[nz,nzA,mul]
 ·simp_all[nz,nzA,mul]
 all_goals simp only[Qf_] at h0 h1
 all_goals have hw:IntKind.i64.wrap (a *b)=a *b:=Zg (by have:=Zcs h0 h1;constructor<;>omega)
 all_goals have hm:=Zcs h0 h1
 ·rw[hw];omega
 ·simp
 ·simp
 ·simp[nz,nzA,mul,rounded,told,hw,h0,h1,h2]
 ·rw[hw];omega
 ·simp[nz,nzA,mul,rounded,told,floor,hw,h0,h1,h2]
theorem Z5K:Zh Tryz.prog 160 ZDv:=Zi<|Zf fun a=>Zf fun b=>Zf fun up=>EZ0<|by
 refine cf0 (Za ZjG<|Za Z5J<|Ze) (fn:=Tryz.f160) rfl ?_
 refine sxT (fun Q=>(bif !inB a then Q (PV.tup [vI 0,vB false]) else (bif !inB b then Q (PV.tup [vI 0,vB false]) else (bif b==(0:Int) then Q (PV.tup [vI 0,vB false]) else (((-4611686018427387904:Int)≤IntKind.i64.wrap (a * (65536:Int))∧IntKind.i64.wrap (a * (65536:Int))≤(4611686018427387904:Int))∧((b≠(0:Int))∧Q (PV.tup [vI (rounded (IntKind.i64.wrap (a * (65536:Int))) b up).fst,vB (rounded (IntKind.i64.wrap (a * (65536:Int))) b up).snd]))))))) (fun _=>by kernel_rfl) ?_
 delta Qn vI vB
 refine Zb (fun h0=>?_) (fun h0=>Zb (fun h1=>?_) (fun h1=>Zb (fun h2=>?_) (fun h2=>⟨?_,⟨?_, ?_⟩⟩)))
 ·simp_all[nz,nzA,div]
 ·simp_all[nz,nzA,div]
 ·simp_all[nz,nzA,div]
 all_goals simp only[Qf_] at h0 h1
 all_goals have ha:=ZV.1 h0
 all_goals have hw:IntKind.i64.wrap (a *65536)=a *65536:=Zg (by constructor<;>omega)
 ·rw[hw];omega
 ·simpa using h2
 ·simp_all[nz,nzA,div]
def Z7U(a:Int):=(-4611686018427387904:Int)≤IntKind.i64.wrap (a * (65536:Int))∧IntKind.i64.wrap (a * (65536:Int))≤(4611686018427387904:Int)
def ZwA(a:Int):=IntKind.i64.wrap (a * (65536:Int))
theorem Z5L:Zh Tryz.prog 155 ZDw:=Zi<|Zf fun a=>Zf fun b=>Zf fun up=>EZ0<|by
 refine cf0 (Za ZjH<|Za Zw6<|Za Zw7<|Za ZmU<|Ze) (fn:=Tryz.f155) rfl ?_
 refine sxT (fun Q=>(bif !inB a then Q (PV.tup [vI 0,vB false]) else (bif !inB b then Q (PV.tup [vI 0,vB false]) else (bif b==(0:Int) then Q (PV.tup [vI 0,vB false]) else (bif up then ((Z7U a)∧(((-4611686018427387904:Int)≤b∧b≤(4611686018427387904:Int))∧((b≠(0:Int))∧Q (PV.tup [vI (told (up1 (ZwA a) b)).fst,vB (told (up1 (ZwA a) b)).snd])))) else ((Z7U a)∧Q (PV.tup [vI (told (floor (ZwA a) b)).fst,vB (told (floor (ZwA a) b)).snd]))))))) (fun _=>by kernel_rfl) ?_
 delta Qn Z7U ZwA vI vB
 refine Zb (fun h0=>?_) (fun h0=>Zb (fun h1=>?_) (fun h1=>Zb (fun h2=>?_) (fun h2=>Zb (fun h3=>⟨?_,⟨?_,⟨?_, ?_⟩⟩⟩) (fun h3=>⟨?_, ?_⟩))))
 ·simp_all[nz,nzA,div]
 ·simp_all[nz,nzA,div]
 ·simp_all[nz,nzA,div]
 all_goals simp only[Qf_] at h0 h1
 all_goals have ha:=ZV.1 h0
 all_goals have hb:=ZV.1 h1
 all_goals have hw:IntKind.i64.wrap (a *65536)=a *65536:=Zg (by constructor<;>omega)
 ·rw[hw];omega
 ·omega
 ·simpa using h2
 ·simp_all[nz,nzA,div,rounded,told]
 ·rw[hw];omega
 ·simp_all[nz,nzA,div,rounded,told,floor]
def Z7V(a:Iv)(b:Iv):=of (List.foldl imin (of (mul a.lo b.lo false).fst (mul a.lo b.lo true).fst).lo [(mul a.lo b.lo false).fst]) (List.foldl imax (of (mul a.lo b.lo false).fst (mul a.lo b.lo true).fst).hi [(mul a.lo b.lo true).fst])
def Z7W(a:Iv)(b:Iv):=of (List.foldl imin (Z7V a b).lo [(mul a.lo b.hi false).fst]) (List.foldl imax (Z7V a b).hi [(mul a.lo b.hi true).fst])
def ZjI:=PV.agg [vI 0,vI 0,vB true]
def Z7X(a:Iv)(b:Iv):=of (List.foldl imin (Z7W a b).lo [(mul a.hi b.lo false).fst]) (List.foldl imax (Z7W a b).hi [(mul a.hi b.lo true).fst])
theorem Z5M(a:Iv)(b:Iv):Con Tryz.prog 159 [.fn 187 [],.agg (Iv.enc a),.agg (Iv.enc b)] (.agg (Iv.enc (ends mul a b))):=by
 refine cf0 (Za Xx<|Za Zbj<|Za Zw8<|Ze) (fn:=Tryz.f159) rfl ?_
 refine sxT (fun Q=>(bif !(mul a.lo b.lo false).snd then Q ZjI else (bif !(mul a.lo b.lo true).snd then Q ZjI else (bif !(mul a.lo b.hi false).snd then Q ZjI else (bif !(mul a.lo b.hi true).snd then Q ZjI else (bif !(mul a.hi b.lo false).snd then Q ZjI else (bif !(mul a.hi b.lo true).snd then Q ZjI else (bif !(mul a.hi b.hi false).snd then Q ZjI else (bif !(mul a.hi b.hi true).snd then Q ZjI else Q (PV.agg (eIv (of (List.foldl imin (Z7X a b).lo [(mul a.hi b.hi false).fst]) (List.foldl imax (Z7X a b).hi [(mul a.hi b.hi true).fst]))))))))))))) (fun _=>by kernel_rfl) ?_
 delta Qn Z7W Z7V ZjI Z7X eIv vI vB
 refine Zb (fun h0=>?_) (fun h0=>Zb (fun h1=>?_) (fun h1=>Zb (fun h2=>?_) (fun h2=>Zb (fun h3=>?_) (fun h3=>Zb (fun h4=>?_) (fun h4=>Zb (fun h5=>?_) (fun h5=>Zb (fun h6=>?_) (fun h6=>Zb (fun h7=>?_) (fun h7=>?_))))))))
 all_goals simp only[Qi_,Qf_] at *
 all_goals first | exact Kl_ (fun e=>PV.agg (Iv.enc e)) (ZmI (by simp[*])) | exact Kl_ (fun e=>PV.agg (Iv.enc e)) (Zpo Z73 h0 h1 h2 h3 h4 h5 h6 h7)
theorem Z5N:Zh Tryz.prog 159 ZrK:=by
 intro args r ps h hp
 unfold ZrK at h
 split at h
 ·rename_i p1 p2 p3 p4 p5 p6
  cases (Qa_ h)
  exact Z5M (⟨p1,p2,p3⟩:Iv) (⟨p4,p5,p6⟩:Iv)
 ·exact absurd h (by simp)
def Z7Y(a:Iv)(b:Iv):=of (List.foldl imin (of (div a.lo b.lo false).fst (div a.lo b.lo true).fst).lo [(div a.lo b.lo false).fst]) (List.foldl imax (of (div a.lo b.lo false).fst (div a.lo b.lo true).fst).hi [(div a.lo b.lo true).fst])
def Z7Z(a:Iv)(b:Iv):=of (List.foldl imin (Z7Y a b).lo [(div a.lo b.hi false).fst]) (List.foldl imax (Z7Y a b).hi [(div a.lo b.hi true).fst])
def ZjJ:=PV.agg [vI 0,vI 0,vB true]
def Z8a(a:Iv)(b:Iv):=of (List.foldl imin (Z7Z a b).lo [(div a.hi b.lo false).fst]) (List.foldl imax (Z7Z a b).hi [(div a.hi b.lo true).fst])
theorem Z5O(a:Iv)(b:Iv):Con Tryz.prog 159 [.fn 160 [],.agg (Iv.enc a),.agg (Iv.enc b)] (.agg (Iv.enc (ends div a b))):=by
 refine cf0 (Za Xx<|Za Zbj<|Za Z5K<|Ze) (fn:=Tryz.f159) rfl ?_
 refine sxT (fun Q=>(bif !(div a.lo b.lo false).snd then Q ZjJ else (bif !(div a.lo b.lo true).snd then Q ZjJ else (bif !(div a.lo b.hi false).snd then Q ZjJ else (bif !(div a.lo b.hi true).snd then Q ZjJ else (bif !(div a.hi b.lo false).snd then Q ZjJ else (bif !(div a.hi b.lo true).snd then Q ZjJ else (bif !(div a.hi b.hi false).snd then Q ZjJ else (bif !(div a.hi b.hi true).snd then Q ZjJ else Q (PV.agg (eIv (of (List.foldl imin (Z8a a b).lo [(div a.hi b.hi false).fst]) (List.foldl imax (Z8a a b).hi [(div a.hi b.hi true).fst]))))))))))))) (fun _=>by kernel_rfl) ?_
 delta Qn Z7Z Z7Y ZjJ Z8a eIv vI vB
 refine Zb (fun h0=>?_) (fun h0=>Zb (fun h1=>?_) (fun h1=>Zb (fun h2=>?_) (fun h2=>Zb (fun h3=>?_) (fun h3=>Zb (fun h4=>?_) (fun h4=>Zb (fun h5=>?_) (fun h5=>Zb (fun h6=>?_) (fun h6=>Zb (fun h7=>?_) (fun h7=>?_))))))))
 all_goals simp only[Qi_,Qf_] at *
 all_goals first | exact Kl_ (fun e=>PV.agg (Iv.enc e)) (ZmI (by simp[*])) | exact Kl_ (fun e=>PV.agg (Iv.enc e)) (Zpo Z74 h0 h1 h2 h3 h4 h5 h6 h7)
theorem Z5P:Zh Tryz.prog 159 ZrL:=by
 intro args r ps h hp
 unfold ZrL at h
 split at h
 ·rename_i p1 p2 p3 p4 p5 p6
  cases (Qa_ h)
  exact Z5O (⟨p1,p2,p3⟩:Iv) (⟨p4,p5,p6⟩:Iv)
 ·exact absurd h (by simp)
theorem Z5Q:Zh Tryz.prog 159 ZDx:=Zig Z5N (Z5P)
def YL:=(2:Int)≠(0:Int)
def XG(a:Iv)(b:Iv):=mul a.hi b.hi false
def YM:=PV.agg [vI 0,vI 0,vB true]
def Xq(a:Iv)(b:Iv):=mul a.hi b.hi true
def Js(a:Iv)(b:Iv):=mul a.lo b.hi false
def Ws(a:Iv)(b:Iv):=mul a.lo b.hi true
def Zuf(a:Iv)(b:Iv):=PV.agg (eIv (of (XG a b).fst (Xq a b).fst))
def Zug(a:Iv)(b:Iv)(Q:PV→Prop):Prop:=bif decide ((Xq a b).fst > (Ws a b).fst) then Q (Zuf a b) else Q (PV.agg (eIv (of (XG a b).fst (Ws a b).fst)))
def Zuh(a:Iv)(b:Iv):=PV.agg (eIv (of (Js a b).fst (Xq a b).fst))
def Z8b(a:Iv)(b:Iv)(Q:PV→Prop):Prop:=YL∧(YL∧(bif !(XG a b).snd then Q YM else (bif !(Xq a b).snd then Q YM else (bif decide ((XG a b).fst < (Js a b).fst) then (Zug a b Q) else (bif decide ((Xq a b).fst > (Ws a b).fst) then Q (Zuh a b) else Q (PV.agg (eIv (of (Js a b).fst (Ws a b).fst))))))))
def JP(a:Iv)(b:Iv):=mul a.hi b.lo true
def Zui(a:Iv)(b:Iv)(Q:PV→Prop):Prop:=bif decide ((Xq a b).fst > (JP a b).fst) then Q (Zuf a b) else Q (PV.agg (eIv (of (XG a b).fst (JP a b).fst)))
def Z2v(a:Iv)(b:Iv)(Q:PV→Prop):Prop:=bif decide ((Ws a b).fst > (JP a b).fst) then (Z8b a b Q) else (YL∧(YL∧(bif !(XG a b).snd then Q YM else (bif !(Xq a b).snd then Q YM else (bif decide ((XG a b).fst < (Js a b).fst) then (Zui a b Q) else (bif decide ((Xq a b).fst > (JP a b).fst) then Q (Zuh a b) else Q (PV.agg (eIv (of (Js a b).fst (JP a b).fst)))))))))
def JQ(a:Iv)(b:Iv):=mul a.lo b.lo true
def Zuj(a:Iv)(b:Iv)(Q:PV→Prop):Prop:=bif decide ((Xq a b).fst > (JQ a b).fst) then Q (Zuf a b) else Q (PV.agg (eIv (of (XG a b).fst (JQ a b).fst)))
def Z2w(a:Iv)(b:Iv)(Q:PV→Prop):Prop:=bif decide ((Ws a b).fst > (JQ a b).fst) then (Z8b a b Q) else (YL∧(YL∧(bif !(XG a b).snd then Q YM else (bif !(Xq a b).snd then Q YM else (bif decide ((XG a b).fst < (Js a b).fst) then (Zuj a b Q) else (bif decide ((Xq a b).fst > (JQ a b).fst) then Q (Zuh a b) else Q (PV.agg (eIv (of (Js a b).fst (JQ a b).fst)))))))))
def ZbW(a:Iv)(b:Iv):=mul a.hi b.lo false
def Zuk(a:Iv)(b:Iv):=PV.agg (eIv (of (ZbW a b).fst (Xq a b).fst))
def Z2x(a:Iv)(b:Iv)(Q:PV→Prop):Prop:=YL∧(YL∧(bif !(XG a b).snd then Q YM else (bif !(Xq a b).snd then Q YM else (bif decide ((XG a b).fst < (ZbW a b).fst) then (Zug a b Q) else (bif decide ((Xq a b).fst > (Ws a b).fst) then Q (Zuk a b) else Q (PV.agg (eIv (of (ZbW a b).fst (Ws a b).fst))))))))
def ZbX(a:Iv)(b:Iv):=mul a.lo b.lo false
def Zul(a:Iv)(b:Iv):=PV.agg (eIv (of (ZbX a b).fst (Xq a b).fst))
def Z2y(a:Iv)(b:Iv)(Q:PV→Prop):Prop:=YL∧(YL∧(bif !(XG a b).snd then Q YM else (bif !(Xq a b).snd then Q YM else (bif decide ((XG a b).fst < (ZbX a b).fst) then (Zug a b Q) else (bif decide ((Xq a b).fst > (Ws a b).fst) then Q (Zul a b) else Q (PV.agg (eIv (of (ZbX a b).fst (Ws a b).fst))))))))
theorem Z2z(a:Iv)(b:Iv):Con Tryz.prog 120 [.agg (Iv.enc a),.agg (Iv.enc b),.v (.bool false)] (.agg (Iv.enc (ends mul a b))):=by
 refine cf0 (Za Zw9<|Za Z5L<|Za XF<|Za Zar<|Ze) (fn:=Tryz.f120) rfl ?_
 refine sxT (fun Q=>(YL∧(YL∧(bif !(ZbX a b).snd then Q YM else (bif !(JQ a b).snd then Q YM else (YL∧(YL∧(bif !(ZbW a b).snd then Q YM else (bif !(JP a b).snd then Q YM else (bif decide ((ZbW a b).fst < (ZbX a b).fst) then (bif decide ((JP a b).fst > (JQ a b).fst) then (YL∧(YL∧(bif !(Js a b).snd then Q YM else (bif !(Ws a b).snd then Q YM else (bif decide ((Js a b).fst < (ZbW a b).fst) then (Z2v a b Q) else (bif decide ((Ws a b).fst > (JP a b).fst) then (Z2x a b Q) else (YL∧(YL∧(bif !(XG a b).snd then Q YM else (bif !(Xq a b).snd then Q YM else (bif decide ((XG a b).fst < (ZbW a b).fst) then (Zui a b Q) else (bif decide ((Xq a b).fst > (JP a b).fst) then Q (Zuk a b) else Q (PV.agg (eIv (of (ZbW a b).fst (JP a b).fst))))))))))))))) else (YL∧(YL∧(bif !(Js a b).snd then Q YM else (bif !(Ws a b).snd then Q YM else (bif decide ((Js a b).fst < (ZbW a b).fst) then (Z2w a b Q) else (bif decide ((Ws a b).fst > (JQ a b).fst) then (Z2x a b Q) else (YL∧(YL∧(bif !(XG a b).snd then Q YM else (bif !(Xq a b).snd then Q YM else (bif decide ((XG a b).fst < (ZbW a b).fst) then (Zuj a b Q) else (bif decide ((Xq a b).fst > (JQ a b).fst) then Q (Zuk a b) else Q (PV.agg (eIv (of (ZbW a b).fst (JQ a b).fst)))))))))))))))) else (bif decide ((JP a b).fst > (JQ a b).fst) then (YL∧(YL∧(bif !(Js a b).snd then Q YM else (bif !(Ws a b).snd then Q YM else (bif decide ((Js a b).fst < (ZbX a b).fst) then (Z2v a b Q) else (bif decide ((Ws a b).fst > (JP a b).fst) then (Z2y a b Q) else (YL∧(YL∧(bif !(XG a b).snd then Q YM else (bif !(Xq a b).snd then Q YM else (bif decide ((XG a b).fst < (ZbX a b).fst) then (Zui a b Q) else (bif decide ((Xq a b).fst > (JP a b).fst) then Q (Zul a b) else Q (PV.agg (eIv (of (ZbX a b).fst (JP a b).fst))))))))))))))) else (YL∧(YL∧(bif !(Js a b).snd then Q YM else (bif !(Ws a b).snd then Q YM else (bif decide ((Js a b).fst < (ZbX a b).fst) then (Z2w a b Q) else (bif decide ((Ws a b).fst > (JQ a b).fst) then (Z2y a b Q) else (YL∧(YL∧(bif !(XG a b).snd then Q YM else (bif !(Xq a b).snd then Q YM else (bif decide ((XG a b).fst < (ZbX a b).fst) then (Zuj a b Q) else (bif decide ((Xq a b).fst > (JQ a b).fst) then Q (Zul a b) else Q (PV.agg (eIv (of (ZbX a b).fst (JQ a b).fst)))))))))))))))))))))))))) (fun _=>by kernel_rfl) ?_
 delta Qn Z8b YM Zug Z2v Z2w YL Xq Z2x Z2y Zui Zuj XG Js Ws ZbX ZbW JQ JP Zuk Zul Zuh Zuf eIv vI vB
 refine ⟨?r43,⟨?r42,Zb (fun h0=>?_) (fun h0=>Zb (fun h1=>?_) (fun h1=>⟨?r41,⟨?r40,Zb (fun h2=>?_) (fun h2=>Zb (fun h3=>?_) (fun h3=>Zb (fun h4=>Zb (fun h5=>⟨?r9,⟨?r8,Zb (fun h6=>?_) (fun h6=>Zb (fun h7=>?_) (fun h7=>Zb (fun h8=>Zb (fun h9=>⟨?r1,⟨?r0,Zb (fun h10=>?_) (fun h10=>Zb (fun h11=>?_) (fun h11=>Zb (fun h12=>Zb (fun h13=>?_) (fun h13=>?_)) (fun h12=>Zb (fun h13=>?_) (fun h13=>?_))))⟩⟩) (fun h9=>⟨?r3,⟨?r2,Zb (fun h10=>?_) (fun h10=>Zb (fun h11=>?_) (fun h11=>Zb (fun h12=>Zb (fun h13=>?_) (fun h13=>?_)) (fun h12=>Zb (fun h13=>?_) (fun h13=>?_))))⟩⟩)) (fun h8=>Zb (fun h9=>⟨?r5,⟨?r4,Zb (fun h10=>?_) (fun h10=>Zb (fun h11=>?_) (fun h11=>Zb (fun h12=>Zb (fun h13=>?_) (fun h13=>?_)) (fun h12=>Zb (fun h13=>?_) (fun h13=>?_))))⟩⟩) (fun h9=>⟨?r7,⟨?r6,Zb (fun h10=>?_) (fun h10=>Zb (fun h11=>?_) (fun h11=>Zb (fun h12=>Zb (fun h13=>?_) (fun h13=>?_)) (fun h12=>Zb (fun h13=>?_) (fun h13=>?_))))⟩⟩))))⟩⟩) (fun h5=>⟨?r19,⟨?r18,Zb (fun h6=>?_) (fun h6=>Zb (fun h7=>?_) (fun h7=>Zb (fun h8=>Zb (fun h9=>⟨?r11,⟨?r10,Zb (fun h10=>?_) (fun h10=>Zb (fun h11=>?_) (fun h11=>Zb (fun h12=>Zb (fun h13=>?_) (fun h13=>?_)) (fun h12=>Zb (fun h13=>?_) (fun h13=>?_))))⟩⟩) (fun h9=>⟨?r13,⟨?r12,Zb (fun h10=>?_) (fun h10=>Zb (fun h11=>?_) (fun h11=>Zb (fun h12=>Zb (fun h13=>?_) (fun h13=>?_)) (fun h12=>Zb (fun h13=>?_) (fun h13=>?_))))⟩⟩)) (fun h8=>Zb (fun h9=>⟨?r15,⟨?r14,Zb (fun h10=>?_) (fun h10=>Zb (fun h11=>?_) (fun h11=>Zb (fun h12=>Zb (fun h13=>?_) (fun h13=>?_)) (fun h12=>Zb (fun h13=>?_) (fun h13=>?_))))⟩⟩) (fun h9=>⟨?r17,⟨?r16,Zb (fun h10=>?_) (fun h10=>Zb (fun h11=>?_) (fun h11=>Zb (fun h12=>Zb (fun h13=>?_) (fun h13=>?_)) (fun h12=>Zb (fun h13=>?_) (fun h13=>?_))))⟩⟩))))⟩⟩)) (fun h4=>Zb (fun h5=>⟨?r29,⟨?r28,Zb (fun h6=>?_) (fun h6=>Zb (fun h7=>?_) (fun h7=>Zb (fun h8=>Zb (fun h9=>⟨?r21,⟨?r20,Zb (fun h10=>?_) (fun h10=>Zb (fun h11=>?_) (fun h11=>Zb (fun h12=>Zb (fun h13=>?_) (fun h13=>?_)) (fun h12=>Zb (fun h13=>?_) (fun h13=>?_))))⟩⟩) (fun h9=>⟨?r23,⟨?r22,Zb (fun h10=>?_) (fun h10=>Zb (fun h11=>?_) (fun h11=>Zb (fun h12=>Zb (fun h13=>?_) (fun h13=>?_)) (fun h12=>Zb (fun h13=>?_) (fun h13=>?_))))⟩⟩)) (fun h8=>Zb (fun h9=>⟨?r25,⟨?r24,Zb (fun h10=>?_) (fun h10=>Zb (fun h11=>?_) (fun h11=>Zb (fun h12=>Zb (fun h13=>?_) (fun h13=>?_)) (fun h12=>Zb (fun h13=>?_) (fun h13=>?_))))⟩⟩) (fun h9=>⟨?r27,⟨?r26,Zb (fun h10=>?_) (fun h10=>Zb (fun h11=>?_) (fun h11=>Zb (fun h12=>Zb (fun h13=>?_) (fun h13=>?_)) (fun h12=>Zb (fun h13=>?_) (fun h13=>?_))))⟩⟩))))⟩⟩) (fun h5=>⟨?r39,⟨?r38,Zb (fun h6=>?_) (fun h6=>Zb (fun h7=>?_) (fun h7=>Zb (fun h8=>Zb (fun h9=>⟨?r31,⟨?r30,Zb (fun h10=>?_) (fun h10=>Zb (fun h11=>?_) (fun h11=>Zb (fun h12=>Zb (fun h13=>?_) (fun h13=>?_)) (fun h12=>Zb (fun h13=>?_) (fun h13=>?_))))⟩⟩) (fun h9=>⟨?r33,⟨?r32,Zb (fun h10=>?_) (fun h10=>Zb (fun h11=>?_) (fun h11=>Zb (fun h12=>Zb (fun h13=>?_) (fun h13=>?_)) (fun h12=>Zb (fun h13=>?_) (fun h13=>?_))))⟩⟩)) (fun h8=>Zb (fun h9=>⟨?r35,⟨?r34,Zb (fun h10=>?_) (fun h10=>Zb (fun h11=>?_) (fun h11=>Zb (fun h12=>Zb (fun h13=>?_) (fun h13=>?_)) (fun h12=>Zb (fun h13=>?_) (fun h13=>?_))))⟩⟩) (fun h9=>⟨?r37,⟨?r36,Zb (fun h10=>?_) (fun h10=>Zb (fun h11=>?_) (fun h11=>Zb (fun h12=>Zb (fun h13=>?_) (fun h13=>?_)) (fun h12=>Zb (fun h13=>?_) (fun h13=>?_))))⟩⟩))))⟩⟩))))⟩⟩))⟩⟩
 case r0|r1|r2|r3|r4|r5|r6|r7|r8|r9|r10|r11|r12|r13|r14|r15|r16|r17|r18|r19|r20|r21|r22|r23|r24|r25|r26|r27|r28|r29|r30|r31|r32|r33|r34|r35|r36|r37|r38|r39|r40|r41|r42|r43=>decide
 all_goals simp only[Qi_,Qf_,Qc_,Qe_] at *
 all_goals first | exact Kl_ (fun e=>PV.agg (Iv.enc e)) (ZmI (by simp[*])) | exact Kl_ (fun e=>PV.agg (Iv.enc e)) (Z0v h0 h1 h6 h7 h2 h3 h10 h11 (by omega) (by omega))
theorem Z20:Zh Tryz.prog 120 ZnX:=by
 intro args r ps h hp
 unfold ZnX at h
 split at h
 ·rename_i p1 p2 p3 p4 p5 p6
  cases (Qa_ h)
  exact Z2z (⟨p1,p2,p3⟩:Iv) (⟨p4,p5,p6⟩:Iv)
 ·exact absurd h (by simp)
def YN:=(2:Int)≠(0:Int)
def XH(a:Iv)(b:Iv):=div a.hi b.hi false
def YO:=PV.agg [vI 0,vI 0,vB true]
def Xr(a:Iv)(b:Iv):=div a.hi b.hi true
def Jt(a:Iv)(b:Iv):=div a.lo b.hi false
def Wt(a:Iv)(b:Iv):=div a.lo b.hi true
def Zum(a:Iv)(b:Iv):=PV.agg (eIv (of (XH a b).fst (Xr a b).fst))
def Zun(a:Iv)(b:Iv)(Q:PV→Prop):Prop:=bif decide ((Xr a b).fst > (Wt a b).fst) then Q (Zum a b) else Q (PV.agg (eIv (of (XH a b).fst (Wt a b).fst)))
def Zuo(a:Iv)(b:Iv):=PV.agg (eIv (of (Jt a b).fst (Xr a b).fst))
def Z21(a:Iv)(b:Iv)(Q:PV→Prop):Prop:=YN∧(YN∧(bif !(XH a b).snd then Q YO else (bif !(Xr a b).snd then Q YO else (bif decide ((XH a b).fst < (Jt a b).fst) then (Zun a b Q) else (bif decide ((Xr a b).fst > (Wt a b).fst) then Q (Zuo a b) else Q (PV.agg (eIv (of (Jt a b).fst (Wt a b).fst))))))))
def JR(a:Iv)(b:Iv):=div a.hi b.lo true
def Zup(a:Iv)(b:Iv)(Q:PV→Prop):Prop:=bif decide ((Xr a b).fst > (JR a b).fst) then Q (Zum a b) else Q (PV.agg (eIv (of (XH a b).fst (JR a b).fst)))
def Z22(a:Iv)(b:Iv)(Q:PV→Prop):Prop:=bif decide ((Wt a b).fst > (JR a b).fst) then (Z21 a b Q) else (YN∧(YN∧(bif !(XH a b).snd then Q YO else (bif !(Xr a b).snd then Q YO else (bif decide ((XH a b).fst < (Jt a b).fst) then (Zup a b Q) else (bif decide ((Xr a b).fst > (JR a b).fst) then Q (Zuo a b) else Q (PV.agg (eIv (of (Jt a b).fst (JR a b).fst)))))))))
def JS(a:Iv)(b:Iv):=div a.lo b.lo true
def Zuq(a:Iv)(b:Iv)(Q:PV→Prop):Prop:=bif decide ((Xr a b).fst > (JS a b).fst) then Q (Zum a b) else Q (PV.agg (eIv (of (XH a b).fst (JS a b).fst)))
def Z23(a:Iv)(b:Iv)(Q:PV→Prop):Prop:=bif decide ((Wt a b).fst > (JS a b).fst) then (Z21 a b Q) else (YN∧(YN∧(bif !(XH a b).snd then Q YO else (bif !(Xr a b).snd then Q YO else (bif decide ((XH a b).fst < (Jt a b).fst) then (Zuq a b Q) else (bif decide ((Xr a b).fst > (JS a b).fst) then Q (Zuo a b) else Q (PV.agg (eIv (of (Jt a b).fst (JS a b).fst)))))))))
def ZbY(a:Iv)(b:Iv):=div a.hi b.lo false
def Zur(a:Iv)(b:Iv):=PV.agg (eIv (of (ZbY a b).fst (Xr a b).fst))
def Z24(a:Iv)(b:Iv)(Q:PV→Prop):Prop:=YN∧(YN∧(bif !(XH a b).snd then Q YO else (bif !(Xr a b).snd then Q YO else (bif decide ((XH a b).fst < (ZbY a b).fst) then (Zun a b Q) else (bif decide ((Xr a b).fst > (Wt a b).fst) then Q (Zur a b) else Q (PV.agg (eIv (of (ZbY a b).fst (Wt a b).fst))))))))
def ZbZ(a:Iv)(b:Iv):=div a.lo b.lo false
def Zus(a:Iv)(b:Iv):=PV.agg (eIv (of (ZbZ a b).fst (Xr a b).fst))
def Z25(a:Iv)(b:Iv)(Q:PV→Prop):Prop:=YN∧(YN∧(bif !(XH a b).snd then Q YO else (bif !(Xr a b).snd then Q YO else (bif decide ((XH a b).fst < (ZbZ a b).fst) then (Zun a b Q) else (bif decide ((Xr a b).fst > (Wt a b).fst) then Q (Zus a b) else Q (PV.agg (eIv (of (ZbZ a b).fst (Wt a b).fst))))))))
theorem Z26(a:Iv)(b:Iv):Con Tryz.prog 120 [.agg (Iv.enc a),.agg (Iv.enc b),.v (.bool true)] (.agg (Iv.enc (ends div a b))):=by
 refine cf0 (Za Zw9<|Za Z5L<|Za XF<|Za Zar<|Ze) (fn:=Tryz.f120) rfl ?_
 refine sxT (fun Q=>(YN∧(YN∧(bif !(ZbZ a b).snd then Q YO else (bif !(JS a b).snd then Q YO else (YN∧(YN∧(bif !(ZbY a b).snd then Q YO else (bif !(JR a b).snd then Q YO else (bif decide ((ZbY a b).fst < (ZbZ a b).fst) then (bif decide ((JR a b).fst > (JS a b).fst) then (YN∧(YN∧(bif !(Jt a b).snd then Q YO else (bif !(Wt a b).snd then Q YO else (bif decide ((Jt a b).fst < (ZbY a b).fst) then (Z22 a b Q) else (bif decide ((Wt a b).fst > (JR a b).fst) then (Z24 a b Q) else (YN∧(YN∧(bif !(XH a b).snd then Q YO else (bif !(Xr a b).snd then Q YO else (bif decide ((XH a b).fst < (ZbY a b).fst) then (Zup a b Q) else (bif decide ((Xr a b).fst > (JR a b).fst) then Q (Zur a b) else Q (PV.agg (eIv (of (ZbY a b).fst (JR a b).fst))))))))))))))) else (YN∧(YN∧(bif !(Jt a b).snd then Q YO else (bif !(Wt a b).snd then Q YO else (bif decide ((Jt a b).fst < (ZbY a b).fst) then (Z23 a b Q) else (bif decide ((Wt a b).fst > (JS a b).fst) then (Z24 a b Q) else (YN∧(YN∧(bif !(XH a b).snd then Q YO else (bif !(Xr a b).snd then Q YO else (bif decide ((XH a b).fst < (ZbY a b).fst) then (Zuq a b Q) else (bif decide ((Xr a b).fst > (JS a b).fst) then Q (Zur a b) else Q (PV.agg (eIv (of (ZbY a b).fst (JS a b).fst)))))))))))))))) else (bif decide ((JR a b).fst > (JS a b).fst) then (YN∧(YN∧(bif !(Jt a b).snd then Q YO else (bif !(Wt a b).snd then Q YO else (bif decide ((Jt a b).fst < (ZbZ a b).fst) then (Z22 a b Q) else (bif decide ((Wt a b).fst > (JR a b).fst) then (Z25 a b Q) else (YN∧(YN∧(bif !(XH a b).snd then Q YO else (bif !(Xr a b).snd then Q YO else (bif decide ((XH a b).fst < (ZbZ a b).fst) then (Zup a b Q) else (bif decide ((Xr a b).fst > (JR a b).fst) then Q (Zus a b) else Q (PV.agg (eIv (of (ZbZ a b).fst (JR a b).fst))))))))))))))) else (YN∧(YN∧(bif !(Jt a b).snd then Q YO else (bif !(Wt a b).snd then Q YO else (bif decide ((Jt a b).fst < (ZbZ a b).fst) then (Z23 a b Q) else (bif decide ((Wt a b).fst > (JS a b).fst) then (Z25 a b Q) else (YN∧(YN∧(bif !(XH a b).snd then Q YO else (bif !(Xr a b).snd then Q YO else (bif decide ((XH a b).fst < (ZbZ a b).fst) then (Zuq a b Q) else (bif decide ((Xr a b).fst > (JS a b).fst) then Q (Zus a b) else Q (PV.agg (eIv (of (ZbZ a b).fst (JS a b).fst)))))))))))))))))))))))))) (fun _=>by kernel_rfl) ?_
 delta Qn Z21 YO Zun Z22 Z23 YN Xr Z24 Z25 Zup Zuq XH Jt Wt ZbZ ZbY JS JR Zur Zus Zuo Zum eIv vI vB
 refine ⟨?r43,⟨?r42,Zb (fun h0=>?_) (fun h0=>Zb (fun h1=>?_) (fun h1=>⟨?r41,⟨?r40,Zb (fun h2=>?_) (fun h2=>Zb (fun h3=>?_) (fun h3=>Zb (fun h4=>Zb (fun h5=>⟨?r9,⟨?r8,Zb (fun h6=>?_) (fun h6=>Zb (fun h7=>?_) (fun h7=>Zb (fun h8=>Zb (fun h9=>⟨?r1,⟨?r0,Zb (fun h10=>?_) (fun h10=>Zb (fun h11=>?_) (fun h11=>Zb (fun h12=>Zb (fun h13=>?_) (fun h13=>?_)) (fun h12=>Zb (fun h13=>?_) (fun h13=>?_))))⟩⟩) (fun h9=>⟨?r3,⟨?r2,Zb (fun h10=>?_) (fun h10=>Zb (fun h11=>?_) (fun h11=>Zb (fun h12=>Zb (fun h13=>?_) (fun h13=>?_)) (fun h12=>Zb (fun h13=>?_) (fun h13=>?_))))⟩⟩)) (fun h8=>Zb (fun h9=>⟨?r5,⟨?r4,Zb (fun h10=>?_) (fun h10=>Zb (fun h11=>?_) (fun h11=>Zb (fun h12=>Zb (fun h13=>?_) (fun h13=>?_)) (fun h12=>Zb (fun h13=>?_) (fun h13=>?_))))⟩⟩) (fun h9=>⟨?r7,⟨?r6,Zb (fun h10=>?_) (fun h10=>Zb (fun h11=>?_) (fun h11=>Zb (fun h12=>Zb (fun h13=>?_) (fun h13=>?_)) (fun h12=>Zb (fun h13=>?_) (fun h13=>?_))))⟩⟩))))⟩⟩) (fun h5=>⟨?r19,⟨?r18,Zb (fun h6=>?_) (fun h6=>Zb (fun h7=>?_) (fun h7=>Zb (fun h8=>Zb (fun h9=>⟨?r11,⟨?r10,Zb (fun h10=>?_) (fun h10=>Zb (fun h11=>?_) (fun h11=>Zb (fun h12=>Zb (fun h13=>?_) (fun h13=>?_)) (fun h12=>Zb (fun h13=>?_) (fun h13=>?_))))⟩⟩) (fun h9=>⟨?r13,⟨?r12,Zb (fun h10=>?_) (fun h10=>Zb (fun h11=>?_) (fun h11=>Zb (fun h12=>Zb (fun h13=>?_) (fun h13=>?_)) (fun h12=>Zb (fun h13=>?_) (fun h13=>?_))))⟩⟩)) (fun h8=>Zb (fun h9=>⟨?r15,⟨?r14,Zb (fun h10=>?_) (fun h10=>Zb (fun h11=>?_) (fun h11=>Zb (fun h12=>Zb (fun h13=>?_) (fun h13=>?_)) (fun h12=>Zb (fun h13=>?_) (fun h13=>?_))))⟩⟩) (fun h9=>⟨?r17,⟨?r16,Zb (fun h10=>?_) (fun h10=>Zb (fun h11=>?_) (fun h11=>Zb (fun h12=>Zb (fun h13=>?_) (fun h13=>?_)) (fun h12=>Zb (fun h13=>?_) (fun h13=>?_))))⟩⟩))))⟩⟩)) (fun h4=>Zb (fun h5=>⟨?r29,⟨?r28,Zb (fun h6=>?_) (fun h6=>Zb (fun h7=>?_) (fun h7=>Zb (fun h8=>Zb (fun h9=>⟨?r21,⟨?r20,Zb (fun h10=>?_) (fun h10=>Zb (fun h11=>?_) (fun h11=>Zb (fun h12=>Zb (fun h13=>?_) (fun h13=>?_)) (fun h12=>Zb (fun h13=>?_) (fun h13=>?_))))⟩⟩) (fun h9=>⟨?r23,⟨?r22,Zb (fun h10=>?_) (fun h10=>Zb (fun h11=>?_) (fun h11=>Zb (fun h12=>Zb (fun h13=>?_) (fun h13=>?_)) (fun h12=>Zb (fun h13=>?_) (fun h13=>?_))))⟩⟩)) (fun h8=>Zb (fun h9=>⟨?r25,⟨?r24,Zb (fun h10=>?_) (fun h10=>Zb (fun h11=>?_) (fun h11=>Zb (fun h12=>Zb (fun h13=>?_) (fun h13=>?_)) (fun h12=>Zb (fun h13=>?_) (fun h13=>?_))))⟩⟩) (fun h9=>⟨?r27,⟨?r26,Zb (fun h10=>?_) (fun h10=>Zb (fun h11=>?_) (fun h11=>Zb (fun h12=>Zb (fun h13=>?_) (fun h13=>?_)) (fun h12=>Zb (fun h13=>?_) (fun h13=>?_))))⟩⟩))))⟩⟩) (fun h5=>⟨?r39,⟨?r38,Zb (fun h6=>?_) (fun h6=>Zb (fun h7=>?_) (fun h7=>Zb (fun h8=>Zb (fun h9=>⟨?r31,⟨?r30,Zb (fun h10=>?_) (fun h10=>Zb (fun h11=>?_) (fun h11=>Zb (fun h12=>Zb (fun h13=>?_) (fun h13=>?_)) (fun h12=>Zb (fun h13=>?_) (fun h13=>?_))))⟩⟩) (fun h9=>⟨?r33,⟨?r32,Zb (fun h10=>?_) (fun h10=>Zb (fun h11=>?_) (fun h11=>Zb (fun h12=>Zb (fun h13=>?_) (fun h13=>?_)) (fun h12=>Zb (fun h13=>?_) (fun h13=>?_))))⟩⟩)) (fun h8=>Zb (fun h9=>⟨?r35,⟨?r34,Zb (fun h10=>?_) (fun h10=>Zb (fun h11=>?_) (fun h11=>Zb (fun h12=>Zb (fun h13=>?_) (fun h13=>?_)) (fun h12=>Zb (fun h13=>?_) (fun h13=>?_))))⟩⟩) (fun h9=>⟨?r37,⟨?r36,Zb (fun h10=>?_) (fun h10=>Zb (fun h11=>?_) (fun h11=>Zb (fun h12=>Zb (fun h13=>?_) (fun h13=>?_)) (fun h12=>Zb (fun h13=>?_) (fun h13=>?_))))⟩⟩))))⟩⟩))))⟩⟩))⟩⟩
 case r0|r1|r2|r3|r4|r5|r6|r7|r8|r9|r10|r11|r12|r13|r14|r15|r16|r17|r18|r19|r20|r21|r22|r23|r24|r25|r26|r27|r28|r29|r30|r31|r32|r33|r34|r35|r36|r37|r38|r39|r40|r41|r42|r43=>decide
 all_goals simp only[Qi_,Qf_,Qc_,Qe_] at *
 all_goals first | exact Kl_ (fun e=>PV.agg (Iv.enc e)) (ZmI (by simp[*])) | exact Kl_ (fun e=>PV.agg (Iv.enc e)) (Z0v h0 h1 h6 h7 h2 h3 h10 h11 (by omega) (by omega))
theorem Z27:Zh Tryz.prog 120 ZnY:=by
 intro args r ps h hp
 unfold ZnY at h
 split at h
 ·rename_i p1 p2 p3 p4 p5 p6
  cases (Qa_ h)
  exact Z26 (⟨p1,p2,p3⟩:Iv) (⟨p4,p5,p6⟩:Iv)
 ·exact absurd h (by simp)
theorem Z5R:Zh Tryz.prog 120 ZDy:=Zig Z20 (Z27)
def ZBo:=Yy [(63,e63)]
def Z28(bit:Int)(r:Int):=BitVec.ofInt (64:Nat) r||| BitVec.ofInt (64:Nat) (IntKind.i64.wrap ((1:Int)* (2:Int) ^ min bit.toNat (64:Nat)))
theorem Z0A:CSOk Tryz.prog ZBo:=Za ZjG<|Ze
theorem Z5S:Ye Tryz.prog (Zn Tryz.f161 0) Zwq:=by
 refine lsG Zk.Γ (Zw Zk Z0A Z4 Z3 Z7 (LS:=[]) (ZM (l:=[]) (by kernel_rfl) Zr) (n:=2000) (U4 Z7P) (U4 ZdT) (fun x e s=>(e= .exit 0∧s=U4 Zgm x)) (fun x=>(x.1+1).toNat) Zwp Z50 Z51 (fun x hx=>?_)) cv4 (fun _=>rfl) (fun _ h=>h) (fun _ _ _ _ h f=>fE h f)
 ·obtain ⟨bit,n,r,up⟩:=x
  simp only[U4,ZdT] at hx
  refine sxT (fun Q=>(bif decide (bit≥(0:Int)) then (((0:Int)≤bit)∧(bif decide (IntKind.i64.wrap (IntKind.i64.wrap ↑(Z28 bit r).toNat *IntKind.i64.wrap ↑(Z28 bit r).toNat)≤n) then Q (Ex.normal) (some ⟨44,[(8,AV.p (vI (IntKind.i64.wrap (bit - (1:Int))))),(6,pI n),(7,AV.p (vI (IntKind.i64.wrap ↑(Z28 bit r).toNat))),(1,AV.p (vB up))],[],[],[],[]⟩) else Q (Ex.normal) (some ⟨44,[(8,AV.p (vI (IntKind.i64.wrap (bit - (1:Int))))),(6,pI n),(7,pI r),(1,AV.p (vB up))],[],[],[],[]⟩))) else Q (Ex.exit (0:Nat)) (some ⟨44,[(7,pI r),(6,pI n),(1,AV.p (vB up))],[],[],[],[]⟩))) (fun _=>by kernel_rfl) ?_
  delta Z28 vI vB pI
  refine Zb (fun h0=>⟨?r0,Zb (fun h1=> .inl ⟨rfl,(IntKind.i64.wrap (bit - (1:Int)),n,IntKind.i64.wrap ↑(BitVec.ofInt (64:Nat) r||| BitVec.ofInt (64:Nat) (IntKind.i64.wrap ((1:Int)* (2:Int) ^ min bit.toNat (64:Nat)))).toNat,up),rfl, ?_, ?_, ?_⟩) (fun h1=> .inl ⟨rfl,(IntKind.i64.wrap (bit - (1:Int)),n,r,up),rfl, ?_, ?_, ?_⟩)⟩) (fun h0=> .inr ⟨by simp,_,rfl, ?_⟩)
  case r0=>first | rfl | (simp only[Zm,dI,dIv];omega) | (simp[Zc,chunk];done) | (simp only[Zm,dI,dIv];done) | (exact Z8 (fun _=>rfl) (by omega) (by omega)) | (simp only[Qc_,Qk_] at *;exact Z8 (fun _=>rfl) (by omega) (by omega)) | assumption | trivial | (simp_all;done)
  all_goals obtain ⟨a1,a2,a3,a4⟩:=hx
  all_goals simp only[Qc_,Qe_] at h0
  ·have hm:=ZrA h0 a1.2 a3 a4
   obtain ⟨k1,k2,k3,k4,k5,k6⟩:=Wq h0 a3
   simp only[hm,Zg k5,Qc_] at h1
   simp only[U4,hm,Zg (show Fit (bit - 1) by constructor<;>omega),ZdT,k1]
   exact ⟨by omega,a2,by omega,Int.dvd_add (Int.dvd_trans ⟨2,by rw[k4];omega⟩ a4) (Int.dvd_refl _)⟩
  ·simp only[Zg (show Fit (bit - 1) by constructor<;>omega)];omega
  ·have hm:=ZrA h0 a1.2 a3 a4
   obtain ⟨k1,k2,k3,k4,k5,k6⟩:=Wq h0 a3
   simp only[hm,Zg k5,Qc_] at h1
   simp only[U4,hm,Zg (show Fit (bit - 1) by constructor<;>omega),Zgm,k1,k2]
   intro e s h
   unfold Ya
   rw[if_pos h1]
   exact h
  ·obtain ⟨k1,k2,k3,k4,k5,k6⟩:=Wq h0 a3
   simp only[U4,Zg (show Fit (bit - 1) by constructor<;>omega),ZdT,k1]
   exact ⟨by omega,a2,by omega,Int.dvd_trans ⟨2,by rw[k4];omega⟩ a4⟩
  ·simp only[Zg (show Fit (bit - 1) by constructor<;>omega)];omega
  ·have hm:=ZrA h0 a1.2 a3 a4
   obtain ⟨k1,k2,k3,k4,k5,k6⟩:=Wq h0 a3
   simp only[hm,Zg k5,Qe_] at h1
   simp only[U4,Zg (show Fit (bit - 1) by constructor<;>omega),Zgm,k1,k2]
   intro e s h
   unfold Ya
   rw[if_neg h1]
   exact h
  ·have:(bit+1).toNat=0:=by omega
   exact ⟨rfl,by simp only[U4,Zgm];rw[this];rfl⟩
theorem Z8c:ZF Tryz.prog [(6,Zwq)] Tryz.f161:=ZG (l:=[Zn Tryz.f161 0]) (by kernel_rfl) (Zz (i:=6) (by kernel_rfl) rfl Z5S (Zr))
def Zou(a:Int):=IntKind.i64.wrap (a * (65536:Int))
theorem ZBp:Zh Tryz.prog 161 ZDz:=Zi<|Zf fun a=>Zf fun up=>EZ0<|by
 refine cfL Z0A Z8c rfl ?_
 refine sxT (fun Q=>(bif decide (a < (0:Int)) then Q (PV.tup [vI 0,vB false]) else (bif !inB a then Q (PV.tup [vI 0,vB false]) else ((ZdT (24:Int) (Zou a) (0:Int) up)∧(bif up then (bif decide (IntKind.i64.wrap (Ya (25:Nat) (Zou a) (0:Int)*Ya (25:Nat) (Zou a) (0:Int)) < IntKind.i64.wrap (a * (65536:Int))) then Q (PV.tup [vI (IntKind.i64.wrap (Ya (25:Nat) (Zou a) (0:Int)+(1:Int))),vB true]) else Q (PV.tup [vI (Ya (25:Nat) (Zou a) (0:Int)),vB true])) else Q (PV.tup [vI (Ya (25:Nat) (Zou a) (0:Int)),vB true])))))) (fun _=>by kernel_rfl) ?_
 delta Qn Zou vI vB
 refine Zb (fun h0=>?_) (fun h0=>Zb (fun h1=>?_) (fun h1=>⟨?_,Zb (fun h2=>Zb (fun h3=>?_) (fun h3=>?_)) (fun h2=>?_)⟩))
 ·simp only[Qc_] at h0
  have:decide (0≤a)=false:=by simp;omega
  simp only[root,this,Qn_,Qd_];rfl
 ·simp_all[nz,nzA,root]
 all_goals simp only[Qf_,Qe_,ZV] at h0 h1
 all_goals try rw[Zg (show Fit (a *65536) by constructor<;>omega)] at *
 ·exact ⟨by omega,by omega,by simp,by simp⟩
 all_goals rw[Z75 (by omega)] at *
 all_goals have hf:=ZnN (n:=a *65536)
 all_goals have hb:inB a=true:=ZV.2 h1
 all_goals have h00:decide (0≤a)=true:=by simp;omega
 ·rw[Zg ZmJ] at h3
  rw[Zg (by constructor<;>omega)]
  simp only[root,hb,h2,h3,h00,QZ_,Qb_];rfl
 ·rw[Zg ZmJ] at h3
  simp only[root,hb,h2,h3,h00,QZ_,Qb_,Qd_,Qn_];rfl
 ·simp only[root,hb,h2,h00,QZ_,Qb_,Qd_,Ql_];rfl
def Z9W:=Yy [(73,e73),(154,ZAL)]
def Z29(bit:Int)(r:Int):=r+IntKind.i64.wrap ((1:Int)* (2:Int) ^ min (IntKind.u64.wrap bit).toNat (64:Nat))
theorem ZwB:CSOk Tryz.prog Z9W:=Za ZjH<|Za Zw7<|Ze
theorem Z2A:Ye Tryz.prog (Zn Tryz.f156 0) ZsH:=by
 refine lsG Zk.Γ (Zw Zk ZwB Z4 Z3 Z7 (LS:=[]) (ZM (l:=[]) (by kernel_rfl) Zr) (n:=2000) (U4 Z52) (U4 Zcy) (fun x e s=>(e= .exit 0∧s=U4 Ze8 x)) (fun x=>(x.1+1).toNat) ZsG Z1S Z1T (fun x hx=>?_)) cv4 (fun _=>rfl) (fun _ h=>h) (fun _ _ _ _ h f=>fE h f)
 ·obtain ⟨bit,n,r,up⟩:=x
  simp only[U4,Zcy] at hx
  refine sxT (fun Q=>(bif decide (bit≥(0:Int)) then (((0:Int)≤IntKind.u64.wrap bit)∧(bif decide (IntKind.i64.wrap (IntKind.i64.wrap (Z29 bit r)*IntKind.i64.wrap (Z29 bit r))≤n) then Q (Ex.normal) (some ⟨48,[(8,AV.p (vI (IntKind.i64.wrap (bit - (1:Int))))),(6,pI n),(7,AV.p (vI (IntKind.i64.wrap (Z29 bit r)))),(1,AV.p (vB up))],[],[],[],[]⟩) else Q (Ex.normal) (some ⟨48,[(8,AV.p (vI (IntKind.i64.wrap (bit - (1:Int))))),(6,pI n),(7,pI r),(1,AV.p (vB up))],[],[],[],[]⟩))) else Q (Ex.exit (0:Nat)) (some ⟨48,[(7,pI r),(6,pI n),(1,AV.p (vB up))],[],[],[],[]⟩))) (fun _=>by kernel_rfl) ?_
  delta Z29 vI vB pI
  refine Zb (fun h0=>⟨?r0,Zb (fun h1=> .inl ⟨rfl,(IntKind.i64.wrap (bit - (1:Int)),n,IntKind.i64.wrap (r+IntKind.i64.wrap ((1:Int)* (2:Int) ^ min (IntKind.u64.wrap bit).toNat (64:Nat))),up),rfl, ?_, ?_, ?_⟩) (fun h1=> .inl ⟨rfl,(IntKind.i64.wrap (bit - (1:Int)),n,r,up),rfl, ?_, ?_, ?_⟩)⟩) (fun h0=> .inr ⟨by simp,_,rfl, ?_⟩)
  case r0=>show (0:Int)≤IntKind.u64.wrap _;have hx0:=hx;simp only[Qc_] at h0;have hu:IntKind.u64.wrap bit=bit:=(by simp[IntKind.wrap,IntKind.bits,IntKind.signed];omega);omega
  all_goals try dsimp only[U4]
  all_goals try obtain ⟨a1,a2,a3⟩:=hx
  all_goals try simp only[Qc_,Qe_] at h0
  all_goals try have hu:IntKind.u64.wrap bit=bit:=by simp[IntKind.wrap,IntKind.bits,IntKind.signed];omega
  ·have hm:=ZrB h0 a1.2 a3
   obtain ⟨k1,k2,k3,k4,k5,k6⟩:=Wq h0 a3
   simp only[hu,hm,Zg (show Fit (r+2 ^ bit.toNat) by constructor<;>omega),Zg k5,Qc_] at h1
   simp only[U4,hu,hm,Zg (show Fit (r+2 ^ bit.toNat) by constructor<;>omega),Zg (show Fit (bit - 1) by constructor<;>omega),Zcy,k1]
   exact ⟨by omega,a2,by omega⟩
  ·simp only[Zg (show Fit (bit - 1) by constructor<;>omega)];omega
  ·have hm:=ZrB h0 a1.2 a3
   obtain ⟨k1,k2,k3,k4,k5,k6⟩:=Wq h0 a3
   simp only[hu,hm,Zg (show Fit (r+2 ^ bit.toNat) by constructor<;>omega),Zg k5,Qc_] at h1
   simp only[U4,hu,hm,Zg (show Fit (r+2 ^ bit.toNat) by constructor<;>omega),Zg (show Fit (bit - 1) by constructor<;>omega),Ze8,k1,k2]
   intro e s h
   unfold Ya
   rw[if_pos h1]
   exact h
  ·obtain ⟨k1,k2,k3,k4,k5,k6⟩:=Wq h0 a3
   simp only[U4,Zg (show Fit (bit - 1) by constructor<;>omega),Zcy,k1]
   exact ⟨by omega,a2,by omega⟩
  ·simp only[Zg (show Fit (bit - 1) by constructor<;>omega)];omega
  ·have hm:=ZrB h0 a1.2 a3
   obtain ⟨k1,k2,k3,k4,k5,k6⟩:=Wq h0 a3
   simp only[hu,hm,Zg (show Fit (r+2 ^ bit.toNat) by constructor<;>omega),Zg k5,Qe_] at h1
   simp only[U4,Zg (show Fit (bit - 1) by constructor<;>omega),Ze8,k1,k2]
   intro e s h
   unfold Ya
   rw[if_neg h1]
   exact h
  ·have:(bit+1).toNat=0:=by omega
   exact ⟨rfl,by simp only[U4,Ze8];rw[this];rfl⟩
theorem Z5T:ZF Tryz.prog [(7,ZsH)] Tryz.f156:=ZG (l:=[Zn Tryz.f156 0]) (by kernel_rfl) (Zz (i:=7) (by kernel_rfl) rfl Z2A (Zr))
def Zov(a:Int):=IntKind.i64.wrap (a * (65536:Int))
def Z8d(a:Int):=PV.tup [vI (told (Ya (24:Nat) (Zov a) (0:Int))).fst,vB (told (Ya (24:Nat) (Zov a) (0:Int))).snd]
def Z8e(a:Int):=told (IntKind.i64.wrap (Ya (24:Nat) (Zov a) (0:Int)+(1:Int)))
theorem ZBq:Zh Tryz.prog 156 ZD0:=Zi<|Zf fun a=>Zf fun up=>EZ0<|by
 refine cfL ZwB Z5T rfl ?_
 refine sxT (fun Q=>(bif !inB a then Q (PV.tup [vI 0,vB false]) else (bif decide (a < (0:Int)) then Q (PV.tup [vI 0,vB false]) else ((Zcy (23:Int) (Zov a) (0:Int) up)∧(bif up then (bif IntKind.i64.wrap (Ya (24:Nat) (Zov a) (0:Int)*Ya (24:Nat) (Zov a) (0:Int))!=IntKind.i64.wrap (a * (65536:Int)) then Q (PV.tup [vI (Z8e a).fst,vB (Z8e a).snd]) else Q (Z8d a)) else Q (Z8d a)))))) (fun _=>by kernel_rfl) ?_
 delta Qn Zov Z8d Z8e vI vB
 refine Zb (fun h0=>?_) (fun h0=>Zb (fun h1=>?_) (fun h1=>⟨?_,Zb (fun h2=>Zb (fun h3=>?_) (fun h3=>?_)) (fun h2=>?_)⟩))
 ·simp_all[nz,nzA,root]
 ·simp only[Qc_] at h1
  have:decide (0≤a)=false:=by simp;omega
  simp only[root,this,Qn_,Qd_];rfl
 all_goals simp only[Qf_,Qe_,ZV] at h0 h1
 all_goals try rw[Zg (show Fit (a *65536) by constructor<;>omega)] at *
 ·exact ⟨by omega,by omega,by simp⟩
 all_goals have hf:=ZnN (n:=a *65536)
 all_goals have hb:inB a=true:=ZV.2 h0
 all_goals have h00:decide (0≤a)=true:=by simp;omega
 all_goals have hb2:inB (Ya 24 (a *65536) 0)=true:=ZV.2 (by omega)
 all_goals have hb3:inB (Ya 24 (a *65536) 0+1)=true:=ZV.2 (by omega)
 all_goals have hsq:=Z76 (n:=a *65536) (by omega)
 ·rw[Zg ZmJ] at h3
  have h4:decide (Ya 24 (a *65536) 0 *Ya 24 (a *65536) 0 < a *65536)=true:=by simp at h3 ⊢;omega
  rw[Zg (by constructor<;>omega)]
  simp only[root,told,hb,hb3,h2,h4,h00,QZ_,Qb_];rfl
 ·rw[Zg ZmJ] at h3
  have h4:decide (Ya 24 (a *65536) 0 *Ya 24 (a *65536) 0 < a *65536)=false:=by simp at h3 ⊢;omega
  simp only[root,told,hb,hb2,h2,h4,h00,QZ_,Qb_,Qd_,Qn_];rfl
 ·simp only[root,told,hb,hb2,h2,h00,QZ_,Qb_,Qd_,Ql_];rfl
theorem ZwC:CSOk Tryz.prog (Yy []):=Ze
theorem Z2B:Ye Tryz.prog (Zn Tryz.f216 0) ZsK:=by
 refine lsG Zk.Γ (Zw Zk ZwC Z4 Z3 Z7 (LS:=[]) (ZM (l:=[]) (by kernel_rfl) Zr) (n:=2000) (U3 Z53) (U3 Ze9) (fun x e s=>(e= .exit 0∧s=U3 ZsJ x)) (fun x=>(x.2.2 - x.1).toNat) ZsI Z1U Z1V (fun x hx=>?_)) cv3 (fun _=>rfl) (fun _ h=>h) (fun _ _ _ _ h f=>fE h f)
 ·obtain ⟨i,out,n⟩:=x
  simp only[U3,Ze9] at hx
  refine sxT (fun Q=>(bif decide (i < n) then Q (Ex.normal) (some ⟨11,[(5,AV.p (vI (IntKind.i64.wrap (i+(1:Int))))),(3,AV.p (vI (IntKind.i64.wrap (out * (10:Int))))),(4,pI n)],[],[],[],[]⟩) else Q (Ex.exit (0:Nat)) (some ⟨11,[(3,pI out)],[],[],[],[]⟩))) (fun _=>by kernel_rfl) ?_
  delta vI pI
  refine Zb (fun h0=> .inl ⟨rfl,(IntKind.i64.wrap (i+(1:Int)),IntKind.i64.wrap (out * (10:Int)),n),rfl, ?_, ?_, ?_⟩) (fun h0=> .inr ⟨by simp,_,rfl, ?_⟩)
  all_goals obtain ⟨a1,a2,a3,a4⟩:=hx
  all_goals simp only[Qc_,Qe_] at h0
  ·have hw:IntKind.i64.wrap (i+1)=i+1:=Zg (by constructor<;>omega)
   have h1:=Zct i
   have h2:=ZnL (i:=i+1) (by omega)
   rw[Zjo a1] at h2
   rw[hw,Zg (by constructor<;>omega)]
   simp only[U3,Ze9]
   exact ⟨by omega,by omega,a3,by rw[a4,Zjo a1]⟩
  ·show (n - IntKind.i64.wrap (i+1)).toNat < (n - i).toNat
   rw[Zg (by constructor<;>omega)];omega
  ·exact fun e s h=>h
  ·have:i=n:=by omega
   subst this
   exact ⟨rfl,by rw[a4];rfl⟩
theorem Z5U:ZF Tryz.prog [(4,ZsK)] Tryz.f216:=ZG (l:=[Zn Tryz.f216 0]) (by kernel_rfl) (Zz (i:=4) (by kernel_rfl) rfl Z2B (Zr))
theorem ZBr:Zh Tryz.prog 216 ZD1:=Zi<|Zf fun n=>EZ1 fun hp0=>by
 refine cfL ZwC Z5U rfl ?_
 refine sxT (fun Q=>((Ze9 (0:Int) (1:Int) n)∧Q (vI (ZD n)))) (fun _=>by kernel_rfl) ?_
 delta Qn vI
 refine ⟨?_, ?_⟩
 ·exact ⟨by omega,hp0.1,hp0.2,rfl⟩
 ·rfl
theorem Z5V:CSOk Tryz.prog (Yy []):=Ze
theorem Z8f:Ye Tryz.prog (Zn Tryz.f117 0) Z09:=by
 refine lsG Zk.Γ (Zw Zk Z5V Z4 Z3 Z7 (LS:=[]) (ZM (l:=[]) (by kernel_rfl) Zr) (n:=2000) (U2 Z9V) (U2 ZmT) (fun x e s=>(e= .exit 0∧s=U2 ZmS x)) (fun x=>x.1.toNat) Z08 Z7Q Z7R (fun x hx=>?_)) cv2 (fun _=>rfl) (fun _ h=>h) (fun _ _ _ _ h f=>fE h f)
 ·obtain ⟨k,out⟩:=x
  simp only[U2,ZmT] at hx
  refine sxT (fun Q=>(bif decide (k > (0:Int)) then Q (Ex.normal) (some ⟨11,[(0,AV.p (vI (IntKind.i64.wrap (k - (1:Int))))),(3,AV.p (vI (IntKind.i64.wrap ((10:Int)*out))))],[],[],[],[]⟩) else Q (Ex.exit (0:Nat)) (some ⟨11,[(3,pI out)],[],[],[],[]⟩))) (fun _=>by kernel_rfl) ?_
  delta vI pI
  refine Zb (fun h0=> .inl ⟨rfl,(IntKind.i64.wrap (k - (1:Int)),IntKind.i64.wrap ((10:Int)*out)),rfl, ?_, ?_, ?_⟩) (fun h0=> .inr ⟨by simp,_,rfl, ?_⟩)
  all_goals try dsimp only[U2]
  all_goals obtain ⟨a1,a2⟩:=hx
  all_goals simp only[Qc_,Qe_] at h0
  all_goals try have e1:out *10 *ZD (k - 1)=out *ZD k:=by rw[Int.mul_assoc,Int.mul_comm 10,←Zjo (by omega),Int.sub_add_cancel]
  all_goals try have e2:out *10≤out *10 *ZD (k - 1):=by have:=Int.mul_le_mul_of_nonneg_left (Zct (k - 1)) (show 0≤out *10 by omega);omega
  all_goals try rw[Zg (show Fit (k - 1) by constructor<;>omega)]
  ·rw[Zg (by constructor<;>omega)]
   exact ⟨by omega,by omega,by rw[Int.mul_comm 10 out,e1];exact a2.2⟩
  ·(try simp only);omega
  ·rw[Zg (by constructor<;>omega)]
   intro e s h
   simp only[U2,ZmS] at h ⊢
   rw[Int.mul_comm 10 out,e1] at h
   exact h
  ·have:k=0:=by omega
   subst this
   exact ⟨rfl,by simp[U2,pI,vI,vB,Iv.enc,Dec.enc,ZmS,ZD]⟩
theorem Z9X:ZF Tryz.prog [(3,Z09)] Tryz.f117:=ZG (l:=[Zn Tryz.f117 0]) (by kernel_rfl) (Zz (i:=3) (by kernel_rfl) rfl Z8f (Zr))
theorem ZwD:Zh Tryz.prog 117 ZD2:=Zi<|Zf fun n=>EZ1 fun hp0=>by
 refine cfL Z5V Z9X rfl ?_
 refine sxT (fun Q=>((ZmT n (1:Int))∧Q (vI ((1:Int)*ZD n)))) (fun _=>by kernel_rfl) ?_
 delta Qn vI
 refine ⟨?_, ?_⟩
 ·exact ⟨hp0,by have:=ZnL hp0.2;omega⟩
 ·simp[nz,nzA]
theorem ZlD(a:Iv)(b:Iv):Con Tryz.prog 195 [.agg (Iv.enc a),.agg (Iv.enc b)] (.agg (Iv.enc (Zl a b))):=by
 refine cf0 (Za ZlC<|Za Xx<|Za Z5Q<|Za Zw8<|Ze) (fn:=Tryz.f195) rfl ?_
 refine sxT (fun Q=>(bif !both a b then Q (PV.agg [vI 0,vI 0,vB true]) else Q (PV.agg (eIv (ends mul a b))))) (fun _=>by kernel_rfl) ?_
 delta Qn eIv vI vB
 refine Zb (fun h0=>?_) (fun h0=>?_)
 all_goals (try simp only[Qi_,Qf_,bne] at *)
 all_goals (simp only[Zl,ZC,ZB,List.foldl,Qr_,Qp_,Ql_,Qn_,Q5_,Q4_,Qw_,Q3_,Qu_,Qt_,Qb_,Qd_,QD_,Q8_, *];rfl)
theorem ZeG:Zh Tryz.prog 195 ZD3:=Zi<|Zf fun a=>Zf fun b=>EZ0<|ZlD a b
theorem ZaH:Zh Tryz.prog 121 ZD4:=Zi<|Zf fun a=>Zf fun b=>EZ0<|by
 refine cf0 (Za Xp<|Za XF<|Za Z5R<|Ze) (fn:=Tryz.f121) rfl ?_
 refine sxT (fun Q=>(bif !right a then Q (PV.agg [vI 0,vI 0,vB true]) else (bif !right b then Q (PV.agg [vI 0,vI 0,vB true]) else Q (PV.agg (eIv (ends mul a b)))))) (fun _=>by kernel_rfl) ?_
 delta Qn eIv vI vB
 refine Zb (fun h0=>?_) (fun h0=>Zb (fun h1=>?_) (fun h1=>?_))
 all_goals (try simp only[Qi_,Qf_,bne] at *)
 all_goals (simp only[Zl,both,ZC,ZB,List.foldl,Qr_,Qp_,Ql_,Qn_,Q5_,Q4_,Qw_,Q3_,Qu_,Qt_,Qb_,Qd_,QD_,Q8_, *];rfl)
theorem Zg3:Zh Tryz.prog 124 ZAM:=Zi<|Zf fun a=>Zf fun b=>EZ0<|by
 refine cf0 (Za ZlC<|Za Z5I<|Za Xx<|Za Z5Q<|Za Z5K<|Ze) (fn:=Tryz.f124) rfl ?_
 refine sxT (fun Q=>(bif !both a b then Q (PV.agg [vI 0,vI 0,vB true]) else (bif Men.has b (0:Int) then Q (PV.agg [vI 0,vI 0,vB true]) else Q (PV.agg (eIv (ends div a b)))))) (fun _=>by kernel_rfl) ?_
 delta Qn eIv vI vB
 refine Zb (fun h0=>?_) (fun h0=>Zb (fun h1=>?_) (fun h1=>?_))
 all_goals (try simp only[Qi_,Qf_,bne] at *)
 all_goals (simp only[Zp,ZC,ZB,List.foldl,Qr_,Qp_,Ql_,Qn_,Q5_,Q4_,Qw_,Q3_,Qu_,Qt_,Qb_,Qd_,QD_,Q8_, *];rfl)
def Z2C:=PV.agg [vI 0,vI 0,vB true]
theorem Zhx:Zh Tryz.prog 85 e85:=Zi<|Zf fun a=>Zf fun b=>EZ0<|by
 refine cf0 (Za Xp<|Za XF<|Za Z5R<|Ze) (fn:=Tryz.f85) rfl ?_
 refine sxT (fun Q=>(bif !right a then Q Z2C else (bif !right b then Q Z2C else (bif decide (b.lo≤(0:Int)) then (bif decide (b.hi≥(0:Int)) then Q Z2C else Q (PV.agg (eIv (ends div a b)))) else Q (PV.agg (eIv (ends div a b))))))) (fun _=>by kernel_rfl) ?_
 delta Qn Z2C eIv vI vB
 refine Zb (fun h0=>?_) (fun h0=>Zb (fun h1=>?_) (fun h1=>Zb (fun h2=>Zb (fun h3=>?_) (fun h3=>?_)) (fun h2=>?_)))
 all_goals simp only[Qi_,Qf_,Qc_,Qe_] at *
 ·simp[nz,nzA,nz1,Zp,both,h0,none',Iv.enc]
 ·simp[nz,nzA,nz1,Zp,both,h0,h1,none',Iv.enc]
 ·have hh:has b 0=true:=by simp[has,h1];omega
  simp[nz,nzA,nz1,Zp,both,h0,h1,hh,none',Iv.enc]
 ·have hh:has b 0=false:=by simp[has,h1];omega
  simp[nz,nzA,nz1,Zp,both,h0,h1,hh,Iv.enc]
 ·have hh:has b 0=false:=by simp[has,h1];omega
  simp[nz,nzA,nz1,Zp,both,h0,h1,hh,Iv.enc]
def ZwE(a:Iv):=List.foldl imax (IntKind.i64.wrap ((0:Int) - a.lo)) [a.hi]
def Z8g(a:Iv):=List.foldl imax a.lo [IntKind.i64.wrap ((0:Int) - a.hi),(0:Int)]
theorem Zdm:Zh Tryz.prog 162 ZD5:=Zi<|Zf fun a=>EZ0<|by
 refine cf0 (Za Zbi<|Za Xx<|Za Zw8<|Za Zbj<|Ze) (fn:=Tryz.f162) rfl ?_
 refine sxT (fun Q=>(bif !right a then Q (PV.agg [vI 0,vI 0,vB true]) else (bif !(mul (ZwE a) (ZwE a) true).snd then Q (PV.agg [vI 0,vI 0,vB true]) else Q (PV.agg (eIv (of (mul (Z8g a) (Z8g a) false).fst (mul (ZwE a) (ZwE a) true).fst)))))) (fun _=>by kernel_rfl) ?_
 delta Qn ZwE Z8g eIv vI vB
 refine Zb (fun h0=>?_) (fun h0=>Zb (fun h1=>?_) (fun h1=>?_))
 all_goals simp only[Qi_,Qf_,List.foldl,ZB,ZC] at *
 ·simp[nz,nzA,nz1,sqr,h0,none',Iv.enc]
 all_goals have ha:=Y9 h0
 all_goals rw[XA (n:=a.lo) (by omega)] at *
 all_goals try rw[XA (n:=a.hi) (by omega)]
 ·simp[nz,nzA,nz1,sqr,h0,far,h1,none',Iv.enc]
 ·simp[nz,nzA,nz1,sqr,h0,far,near,h1,Iv.enc]
def Z8h(a:Iv):=List.foldl imax a.lo [IntKind.i64.wrap ((0:Int) - a.lo),a.hi,IntKind.i64.wrap ((0:Int) - a.hi)]
def ZwF(a:Iv):=mul (Z8h a) (Z8h a) true
def Z8i(a:Iv):=List.foldl imin (List.foldl imax a.lo [IntKind.i64.wrap ((0:Int) - a.lo)]) [List.foldl imax a.hi [IntKind.i64.wrap ((0:Int) - a.hi)]]
def Z2D:=PV.agg [vI 0,vI 0,vB true]
def Z8j(a:Iv)(Q:PV→Prop):Prop:=bif !(ZwF a).snd then Q Z2D else Q (PV.agg (eIv (of (mul (Z8i a) (Z8i a) false).fst (ZwF a).fst)))
theorem Zdn:Zh Tryz.prog 84 e84:=Zi<|Zf fun a=>EZ0<|by
 refine cf0 (Za Xp<|Za XF<|Za Zw9<|Za Zar<|Ze) (fn:=Tryz.f84) rfl ?_
 refine sxT (fun Q=>(bif !right a then Q Z2D else (bif decide (a.lo≤(0:Int)) then (bif decide (a.hi≥(0:Int)) then (bif !(ZwF a).snd then Q Z2D else Q (PV.agg (eIv (of (0:Int) (ZwF a).fst)))) else (Z8j a Q)) else (Z8j a Q)))) (fun _=>by kernel_rfl) ?_
 delta Qn ZwF Z8i Z8j Z8h Z2D eIv vI vB
 refine Zb (fun h0=>?_) (fun h0=>Zb (fun h1=>Zb (fun h2=>Zb (fun h3=>?_) (fun h3=>?_)) (fun h2=>Zb (fun h3=>?_) (fun h3=>?_))) (fun h1=>Zb (fun h2=>?_) (fun h2=>?_)))
 all_goals simp only[Qi_,Qf_,List.foldl,ZB,ZC] at *
 ·simp[nz,nzA,nz1,sqr,h0,none',Iv.enc]
 all_goals have ha:=Y9 h0
 all_goals rw[XA (n:=a.lo) (by omega),XA (n:=a.hi) (by omega)] at *
 all_goals rw[show max (max (max a.lo (-a.lo)) a.hi) (-a.hi)=far a by unfold far;omega] at *
 ·simp[nz,nzA,nz1,sqr,h0,h3,none',Iv.enc]
 ·simp only[Qc_] at h1 h2
  have e:near a=0:=by unfold near;omega
  simp[nz,nzA,nz1,sqr,h0,h3,e,Iv.enc,show (mul 0 0 false).1=0 from rfl]
 ·simp[nz,nzA,nz1,sqr,h0,h3,none',Iv.enc]
 ·simp only[Qc_,Qe_] at h1 h2
  have e:min (max a.lo (-a.lo)) (max a.hi (-a.hi))=near a:=by unfold near;omega
  rw[e]
  simp[nz,nzA,nz1,sqr,h0,h3,Iv.enc]
 ·simp[nz,nzA,nz1,sqr,h0,h2,none',Iv.enc]
 ·simp only[Qe_] at h1
  have e:min (max a.lo (-a.lo)) (max a.hi (-a.hi))=near a:=by unfold near;omega
  rw[e]
  simp[nz,nzA,nz1,sqr,h0,h2,Iv.enc]
theorem ZjK:Zh Tryz.prog 34 e34:=Zi<|Zf fun a=>Zf fun k=>EZ0<|by
 refine cf0 (Za Zbi<|Za ZjG<|Za Xx<|Za Zbj<|Ze) (fn:=Tryz.f34) rfl ?_
 refine sxT (fun Q=>(bif !right a then Q (PV.agg [vI 0,vI 0,vB true]) else (bif !inB k then Q (PV.agg [vI 0,vI 0,vB true]) else Q (PV.agg (eIv (of (List.foldl imin (IntKind.i64.wrap (k *a.lo)) [IntKind.i64.wrap (k *a.hi)]) (List.foldl imax (IntKind.i64.wrap (k *a.lo)) [IntKind.i64.wrap (k *a.hi)]))))))) (fun _=>by kernel_rfl) ?_
 delta Qn eIv vI vB
 refine Zb (fun h0=>?_) (fun h0=>Zb (fun h1=>?_) (fun h1=>?_))
 all_goals (try simp only[Qi_,Qf_] at *)
 ·simp only[times,h0,Ql_,Qd_];rfl
 ·simp only[times,h0,h1,Qn_,Qd_];rfl
 ·obtain ⟨b1,b2,b3,b4⟩:=Y9 h0
  have m1:=Zcs h1 (ZV.2 b2)
  have m2:=Zcs h1 (ZV.2 b3)
  simp only[times,h0,h1,QZ_,Qb_,List.foldl,ZC,ZB,Zg (show Fit (k *a.lo) by constructor<;>omega),Zg (show Fit (k *a.hi) by constructor<;>omega)];rfl
theorem ZjL:Zh Tryz.prog 45 e45:=Zi<|Zf fun a=>Zf fun k=>EZ0<|by
 refine cf0 (Za Xp<|Za ZjH<|Za XF<|Za Zar<|Ze) (fn:=Tryz.f45) rfl ?_
 refine sxT (fun Q=>(bif !right a then Q (PV.agg [vI 0,vI 0,vB true]) else (bif !inB k then Q (PV.agg [vI 0,vI 0,vB true]) else Q (PV.agg (eIv (of (List.foldl imin (IntKind.i64.wrap (k *a.lo)) [IntKind.i64.wrap (k *a.hi)]) (List.foldl imax (IntKind.i64.wrap (k *a.lo)) [IntKind.i64.wrap (k *a.hi)]))))))) (fun _=>by kernel_rfl) ?_
 delta Qn eIv vI vB
 refine Zb (fun h0=>?_) (fun h0=>Zb (fun h1=>?_) (fun h1=>?_))
 all_goals (try simp only[Qi_,Qf_] at *)
 ·simp only[times,h0,Ql_,Qd_];rfl
 ·simp only[times,h0,h1,Qn_,Qd_];rfl
 ·obtain ⟨b1,b2,b3,b4⟩:=Y9 h0
  have m1:=Zcs h1 (ZV.2 b2)
  have m2:=Zcs h1 (ZV.2 b3)
  simp only[times,h0,h1,QZ_,Qb_,List.foldl,ZC,ZB,Zg (show Fit (k *a.lo) by constructor<;>omega),Zg (show Fit (k *a.hi) by constructor<;>omega)];rfl
theorem ZpT:Zh Tryz.prog 126 ZD6:=Zi<|Zf fun a=>EZ0<|by
 refine cf0 (Za Zbi<|Za Xx<|Za ZBp<|Za Zbj<|Ze) (fn:=Tryz.f126) rfl ?_
 refine sxT (fun Q=>(bif !right a then Q (PV.agg [vI 0,vI 0,vB true]) else (bif decide (a.lo < (0:Int)) then Q (PV.agg [vI 0,vI 0,vB true]) else Q (PV.agg (eIv (of (root a.lo false).fst (root a.hi true).fst)))))) (fun _=>by kernel_rfl) ?_
 delta Qn eIv vI vB
 refine Zb (fun h0=>?_) (fun h0=>Zb (fun h1=>?_) (fun h1=>?_))
 all_goals first | (simp only[ZL,ZC,ZB,List.foldl,Qr_,Qp_,Ql_,Qn_,Q5_,Q4_,Qw_,Q3_,Qu_,Qt_,Qb_,Qd_,QD_,Q8_, *];first | rfl | (simp only[nz,nzA,nz1,QE_,QN_,Iv.enc,V.enc,Ray.enc, *];first | done | rfl)) | (simp_all[nz,nzA,nz1,Iv.enc,V.enc,Ray.enc,Dec.enc,Shape.enc,none',told,K6_,ZL];done) | (simp_all[nz,nzA,nz1,Iv.enc,V.enc,Ray.enc,Dec.enc,Shape.enc,none',told,K6_,ZL];(repeat' split)<;>(first | rfl | (exfalso;omega) | (simp_all;done)))
theorem ZlE:Zh Tryz.prog 122 ZD7:=Zi<|Zf fun a=>EZ0<|by
 refine cf0 (Za Xp<|Za XF<|Za ZBq<|Za Zar<|Ze) (fn:=Tryz.f122) rfl ?_
 refine sxT (fun Q=>(bif !right a then Q (PV.agg [vI 0,vI 0,vB true]) else (bif decide (a.lo < (0:Int)) then Q (PV.agg [vI 0,vI 0,vB true]) else Q (PV.agg (eIv (of (root a.lo false).fst (root a.hi true).fst)))))) (fun _=>by kernel_rfl) ?_
 delta Qn eIv vI vB
 refine Zb (fun h0=>?_) (fun h0=>Zb (fun h1=>?_) (fun h1=>?_))
 all_goals first | (simp only[ZL,ZC,ZB,List.foldl,Qr_,Qp_,Ql_,Qn_,Q5_,Q4_,Qw_,Q3_,Qu_,Qt_,Qb_,Qd_,QD_,Q8_, *];first | rfl | (simp only[nz,nzA,nz1,QE_,QN_,Iv.enc,V.enc,Ray.enc, *];first | done | rfl)) | (simp_all[nz,nzA,nz1,Iv.enc,V.enc,Ray.enc,Dec.enc,Shape.enc,none',told,K6_,ZL];done) | (simp_all[nz,nzA,nz1,Iv.enc,V.enc,Ray.enc,Dec.enc,Shape.enc,none',told,K6_,ZL];(repeat' split)<;>(first | rfl | (exfalso;omega) | (simp_all;done)))
def Z2E:=PV.tup [PV.agg [vI 0,vI 0,vB true],vI 0]
theorem Z5W:Zh Tryz.prog 201 ZD8:=Zi<|Zf fun a=>Zf fun b=>Zf fun c=>EZ0<|by
 refine cf0 (Za Zdm<|Za ZeG<|Za Zdl<|Za Xx<|Za ZpT<|Za Zg3<|Ze) (fn:=Tryz.f201) rfl ?_
 refine sxT (fun Q=>(bif (sub (sqr b) (Zl a c)).no then Q Z2E else (bif decide ((sub (sqr b) (Zl a c)).hi < (0:Int)) then Q (PV.tup [PV.agg [vI 0,vI 0,vB true],vI 2]) else (bif decide ((sub (sqr b) (Zl a c)).lo < (0:Int)) then Q Z2E else (bif (Zp c (sub (ZL (sub (sqr b) (Zl a c))) b)).no then Q Z2E else Q (PV.tup [PV.agg (eIv (Zp c (sub (ZL (sub (sqr b) (Zl a c))) b))),vI 1])))))) (fun _=>by kernel_rfl) ?_
 delta Qn Z2E eIv vI vB
 refine Zb (fun h0=>?_) (fun h0=>Zb (fun h1=>?_) (fun h1=>Zb (fun h2=>?_) (fun h2=>Zb (fun h3=>?_) (fun h3=>?_))))
 all_goals simp only[Wc, *,Qb_,Qd_]
 all_goals first | rfl | (simp[nz,nzA,nz1,Iv.enc, *])
def Zut:=PV.tup [PV.agg [vI 0,vI 0,vB true],vI 0]
theorem Z5X:Zh Tryz.prog 147 ZD9:=Zi<|Zf fun a=>Zf fun b=>Zf fun c=>EZ0<|by
 refine cf0 (Za Zdn<|Za ZaH<|Za ZaG<|Za Xp<|Za XF<|Za ZlE<|Za Zhx<|Ze) (fn:=Tryz.f147) rfl ?_
 refine sxT (fun Q=>(bif !right (sub (sqr b) (Zl a c)) then Q Zut else (bif decide ((sub (sqr b) (Zl a c)).hi < (0:Int)) then Q (PV.tup [PV.agg [vI 0,vI 0,vB true],vI 2]) else (bif decide ((sub (sqr b) (Zl a c)).lo < (0:Int)) then Q Zut else (bif !right (Zp c (sub (ZL (sub (sqr b) (Zl a c))) b)) then Q Zut else Q (PV.tup [PV.agg (eIv (Zp c (sub (ZL (sub (sqr b) (Zl a c))) b))),vI 1])))))) (fun _=>by kernel_rfl) ?_
 delta Qn Zut eIv vI vB
 refine Zb (fun h0=>?_) (fun h0=>Zb (fun h1=>?_) (fun h1=>Zb (fun h2=>?_) (fun h2=>Zb (fun h3=>?_) (fun h3=>?_))))
 all_goals simp only[ZcP,Zgb,Ke_] at *
 all_goals simp only[Wc, *,Qb_,Qd_]
 all_goals first | rfl | (simp[nz,nzA,nz1,Iv.enc, *])
theorem Zel:Zh Tryz.prog 97 e97:=Zi<|Zf fun x=>Zf fun y=>Zf fun z=>EZ0<|by
 refine cf0 Ze (fn:=Tryz.f97) rfl ?_
 refine sxT (fun Q=>Q (PV.agg [vI x.lo,vI x.hi,vB x.no,vI y.lo,vI y.hi,vB y.no,vI z.lo,vI z.hi,vB z.no])) (fun _=>by kernel_rfl) ?_
 delta Qn vI vB
 refine ?_
 all_goals rfl
theorem ZBs:Zh Tryz.prog 199 ZDA:=Zi<|Zf fun a=>Zf fun b=>EZ0<|by
 refine cf0 (Za Zdl<|Za Zel<|Ze) (fn:=Tryz.f199) rfl ?_
 refine sxT (fun Q=>Q (PV.agg [vI (sub a.x b.x).lo,vI (sub a.x b.x).hi,vB (sub a.x b.x).no,vI (sub a.y b.y).lo,vI (sub a.y b.y).hi,vB (sub a.y b.y).no,vI (sub a.z b.z).lo,vI (sub a.z b.z).hi,vB (sub a.z b.z).no])) (fun _=>by kernel_rfl) ?_
 delta Qn vI vB
 refine ?_
 all_goals rfl
theorem ZBt:Zh Tryz.prog 146 ZDB:=Zi<|Zf fun a=>Zf fun b=>EZ0<|by
 refine cf0 (Za ZaG<|Ze) (fn:=Tryz.f146) rfl ?_
 refine sxT (fun Q=>Q (PV.agg [vI (sub a.x b.x).lo,vI (sub a.x b.x).hi,vB (sub a.x b.x).no,vI (sub a.y b.y).lo,vI (sub a.y b.y).hi,vB (sub a.y b.y).no,vI (sub a.z b.z).lo,vI (sub a.z b.z).hi,vB (sub a.z b.z).no])) (fun _=>by kernel_rfl) ?_
 delta Qn vI vB
 refine ?_
 all_goals rfl
theorem Z5Y:Zh Tryz.prog 193 ZDC:=Zi<|Zf fun a=>Zf fun b=>EZ0<|by
 refine cf0 (Za ZeG<|Za Zb2<|Ze) (fn:=Tryz.f193) rfl ?_
 refine sxT (fun Q=>Q (PV.agg (eIv (add (add (Zl a.x b.x) (Zl a.y b.y)) (Zl a.z b.z))))) (fun _=>by kernel_rfl) ?_
 delta Qn eIv vI vB
 refine ?_
 all_goals rfl
theorem Z5Z:Zh Tryz.prog 148 ZDD:=Zi<|Zf fun a=>Zf fun b=>EZ0<|by
 refine cf0 (Za ZaH<|Za ZbV<|Ze) (fn:=Tryz.f148) rfl ?_
 refine sxT (fun Q=>Q (PV.agg (eIv (add (add (Zl a.x b.x) (Zl a.y b.y)) (Zl a.z b.z))))) (fun _=>by kernel_rfl) ?_
 delta Qn eIv vI vB
 refine ?_
 all_goals rfl
theorem Z6a:Zh Tryz.prog 127 ZDE:=Zi<|Zf fun a=>EZ0<|by
 refine cf0 (Za Zdm<|Za Zb2<|Ze) (fn:=Tryz.f127) rfl ?_
 refine sxT (fun Q=>Q (PV.agg (eIv (add (add (sqr a.x) (sqr a.y)) (sqr a.z))))) (fun _=>by kernel_rfl) ?_
 delta Qn eIv vI vB
 refine ?_
 all_goals rfl
theorem Z6b:Zh Tryz.prog 138 ZDF:=Zi<|Zf fun a=>EZ0<|by
 refine cf0 (Za Zdn<|Za ZbV<|Ze) (fn:=Tryz.f138) rfl ?_
 refine sxT (fun Q=>Q (PV.agg (eIv (add (add (sqr a.x) (sqr a.y)) (sqr a.z))))) (fun _=>by kernel_rfl) ?_
 delta Qn eIv vI vB
 refine ?_
 all_goals rfl
theorem Z6c:Zh Tryz.prog 106 ZDG:=Zi<|Zf fun a=>EZ0<|by
 refine cf0 (Za Z6b<|Za ZlE<|Za Zhx<|Ze) (fn:=Tryz.f106) rfl ?_
 refine sxT (fun Q=>Q (PV.agg [vI (Zp a.x (ZL (X9 a))).lo,vI (Zp a.x (ZL (X9 a))).hi,vB (Zp a.x (ZL (X9 a))).no,vI (Zp a.y (ZL (X9 a))).lo,vI (Zp a.y (ZL (X9 a))).hi,vB (Zp a.y (ZL (X9 a))).no,vI (Zp a.z (ZL (X9 a))).lo,vI (Zp a.z (ZL (X9 a))).hi,vB (Zp a.z (ZL (X9 a))).no])) (fun _=>by kernel_rfl) ?_
 delta Qn vI vB
 refine ?_
 all_goals rfl
theorem Z8U:Zh Tryz.prog 93 e93:=Zi<|Zf fun d=>EZ0<|by
 refine cf0 Ze (fn:=Tryz.f93) rfl ?_
 refine sxT (fun Q=>(bif decide (d.c≥(-100000000000:Int)) then (bif decide (d.c≤(100000000000:Int)) then (bif decide (d.scale≥(0:Int)) then (bif decide (d.scale≤(6:Int)) then (bif d.scale==(0:Int) then Q (vB true) else (((10:Int)≠(0:Int))∧Q (vB (d.c.tmod (10:Int)!=(0:Int))))) else Q (vB false)) else Q (vB false)) else Q (vB false)) else Q (vB false))) (fun _=>by kernel_rfl) ?_
 delta Qn vB
 refine Zb (fun h0=>Zb (fun h1=>Zb (fun h2=>Zb (fun h3=>Zb (fun h4=>?_) (fun h4=>⟨?r0, ?_⟩)) (fun h3=>?_)) (fun h2=>?_)) (fun h1=>?_)) (fun h0=>?_)
 case r0=>first | rfl | (simp only[Zm,dI,dIv];omega) | (simp[Zc,chunk];done)
 all_goals (simp only[ZO,ZC,ZB,List.foldl,Qr_,Qp_,Ql_,Qn_,Q5_,Q4_,Qw_,Q3_,Qu_,Qt_,Qb_,Qd_,QD_,Q8_, *];rfl)
theorem Zuu:Zh Tryz.prog 71 e71:=Zi<|Zf fun d=>EZ0<|by
 refine cf0 Ze (fn:=Tryz.f71) rfl ?_
 refine sxT (fun Q=>(bif decide (d.c≥(-100000000000:Int)) then (bif decide (d.c≤(100000000000:Int)) then (bif decide (d.scale≥(0:Int)) then (bif decide (d.scale≤(6:Int)) then (bif d.scale==(0:Int) then Q (vB true) else (((10:Int)≠(0:Int))∧Q (vB (d.c.tmod (10:Int)!=(0:Int))))) else Q (vB false)) else Q (vB false)) else Q (vB false)) else Q (vB false))) (fun _=>by kernel_rfl) ?_
 delta Qn vB
 refine Zb (fun h0=>Zb (fun h1=>Zb (fun h2=>Zb (fun h3=>Zb (fun h4=>?_) (fun h4=>⟨?r0, ?_⟩)) (fun h3=>?_)) (fun h2=>?_)) (fun h1=>?_)) (fun h0=>?_)
 case r0=>first | rfl | (simp only[Zm,dI,dIv];omega) | (simp[Zc,chunk];done)
 all_goals (simp only[ZO,ZC,ZB,List.foldl,Qr_,Qp_,Ql_,Qn_,Q5_,Q4_,Qw_,Q3_,Qu_,Qt_,Qb_,Qd_,QD_,Q8_, *];rfl)
def Zuv(d:Dec):=(0:Int) - IntKind.i64.wrap (d.c * (65536:Int))
theorem ZBu:Zh Tryz.prog 200 ZDH:=Zi<|Zf fun d=>EZ0<|by
 refine cf0 (Za Z8U<|Za Xx<|Za ZBr<|Za Z2u<|Za Zbj<|Ze) (fn:=Tryz.f200) rfl ?_
 refine sxT (fun Q=>(bif !ZO d then Q (PV.agg [vI 0,vI 0,vB true]) else (((0:Int)≤d.scale∧d.scale≤(18:Int))∧(((-4611686018427387904:Int)≤IntKind.i64.wrap (d.c * (65536:Int))∧IntKind.i64.wrap (d.c * (65536:Int))≤(4611686018427387904:Int))∧(((-4611686018427387904:Int)≤IntKind.i64.wrap (Zuv d)∧IntKind.i64.wrap (Zuv d)≤(4611686018427387904:Int))∧Q (PV.agg (eIv (of (floor (IntKind.i64.wrap (d.c * (65536:Int))) (ZD d.scale)) (IntKind.i64.wrap ((0:Int) - floor (IntKind.i64.wrap (Zuv d)) (ZD d.scale))))))))))) (fun _=>by kernel_rfl) ?_
 delta Qn Zuv eIv vI vB
 refine Zb (fun h0=>?_) (fun h0=>⟨?_,⟨?_,⟨?_, ?_⟩⟩⟩)
 ·simp only[Qi_] at h0
  simp[nz,nzA,nz1,Zj,h0,none',Iv.enc]
 all_goals simp only[Qf_] at h0
 all_goals have hd:=Zed h0
 all_goals have hw:IntKind.i64.wrap (d.c *65536)=d.c *65536:=Zg (by constructor<;>omega)
 all_goals have hp:=Zct d.scale
 all_goals try rw[hw]
 all_goals try rw[XA (n:=d.c *65536) (by omega)]
 ·omega
 ·omega
 ·omega
 ·have hf:=ZfZ (a:= -(d.c *65536)) (b:=ZD d.scale) (by omega)
  have e:floor (-(d.c *65536)) (ZD d.scale)=(-(d.c *65536)).fdiv (ZD d.scale):=rfl
  rw[XA (n:=floor (-(d.c *65536)) (ZD d.scale)) (by rw[e];omega)]
  simp[nz,nzA,nz1,Zj,h0,Iv.enc]
def Z2F(d:Dec):=(-4611686018427387904:Int)≤IntKind.i64.wrap (d.c * (65536:Int))∧IntKind.i64.wrap (d.c * (65536:Int))≤(4611686018427387904:Int)
theorem Zuw:Zh Tryz.prog 81 e81:=Zi<|Zf fun d=>EZ0<|by
 refine cf0 (Za Zuu<|Za XF<|Za ZwD<|Za ZmU<|Za Zw6<|Za Zar<|Ze) (fn:=Tryz.f81) rfl ?_
 refine sxT (fun Q=>(bif !ZO d then Q (PV.agg [vI 0,vI 0,vB true]) else (((0:Int)≤d.scale∧d.scale≤(18:Int))∧((Z2F d)∧(((0:Int)≤d.scale∧d.scale≤(18:Int))∧((Z2F d)∧(((-4611686018427387904:Int)≤ZD d.scale∧ZD d.scale≤(4611686018427387904:Int))∧((ZD d.scale≠(0:Int))∧Q (PV.agg (eIv (of (floor (IntKind.i64.wrap (d.c * (65536:Int))) (ZD d.scale)) (up1 (IntKind.i64.wrap (d.c * (65536:Int))) (ZD d.scale))))))))))))) (fun _=>by kernel_rfl) ?_
 delta Qn Z2F eIv vI vB
 refine Zb (fun h0=>?_) (fun h0=>⟨?_,⟨?_,⟨?_,⟨?_,⟨?_,⟨?_, ?_⟩⟩⟩⟩⟩⟩)
 ·simp only[Qi_] at h0
  simp[nz,nzA,nz1,Zj,h0,none',Iv.enc]
 all_goals simp only[Qf_] at h0
 all_goals have hd:=Zed h0
 all_goals have hw:IntKind.i64.wrap (d.c *65536)=d.c *65536:=Zg (by constructor<;>omega)
 all_goals have hp:=Zct d.scale
 all_goals have hq:=ZnL (i:=d.scale) (by omega)
 all_goals try rw[hw]
 ·omega
 ·omega
 ·omega
 ·omega
 ·omega
 ·omega
 ·rw[←ZvS (by omega)]
  simp[nz,nzA,nz1,Zj,h0,Iv.enc]
theorem Zow:Zh Tryz.prog 9 e9:=Zi<|Zf fun n=>Zf fun m=>EZ1 fun hp0=>by
 refine cf0 Ze (fn:=Tryz.f9) rfl ?_
 refine sxT (fun Q=>((m≠(0:Int))∧(bif decide (n.tmod m < (0:Int)) then Q (vI (IntKind.i64.wrap (n.tmod m+m))) else Q (vI (n.tmod m))))) (fun _=>by kernel_rfl) ?_
 delta Qn vI
 refine ⟨?r0,Zb (fun h0=>?_) (fun h0=>?_)⟩
 case r0=>first | rfl | (simp only[Zm,dI,dIv];omega) | (simp[Zc,chunk];done) | (simp only[Zm,dI,dIv];done) | (exact Z8 (fun _=>rfl) (by omega) (by omega)) | (simp only[Qc_,Qk_] at *;exact Z8 (fun _=>rfl) (by omega) (by omega)) | assumption | trivial | (simp_all;done) | omega
 all_goals simp only[Qc_,Qe_] at h0
 all_goals have hb:=Z9K (n:=n) hp0.1
 ·rw[Zg (by constructor<;>omega)]
  simp[nz,nzA,Z0x hp0.1,h0]
 ·simp[nz,nzA,Z0x hp0.1,h0]
theorem ZCz:Zh Tryz.prog 94 e94:=Zi<|EZ0<|by
 refine cf0 Ze (fn:=Tryz.f94) rfl ?_
 refine sxT (fun Q=>Q (PV.agg [vI 0,vI 0])) (fun _=>by kernel_rfl) ?_
 delta Qn vI
 refine ?_
 all_goals rfl
def Z8k(s:Shape)(r:Ray):=Wc (X9 r.d) (dot (ZnK r.o (V.mk (Zj s.x) (Zj s.y) (Zj s.z))) r.d) (sub (X9 (ZnK r.o (V.mk (Zj s.x) (Zj s.y) (Zj s.z)))) (sqr (Zj s.r)))
theorem ZBv:Zh Tryz.prog 168 ZDI:=Zi<|Zf fun s=>Zf fun r=>EZ0<|by
 refine cf0 (Za ZBu<|Za Zel<|Za ZBs<|Za Z6a<|Za Z5Y<|Za Zdm<|Za Zdl<|Za Z5W<|Za Zg3<|Za Xx<|Ze) (fn:=Tryz.f168) rfl ?_
 refine sxT (fun Q=>(bif s.kind==(1:Int) then Q (PV.tup [PV.agg (eIv (Z8k s r).fst),vI (Z8k s r).snd]) else (bif s.kind==(2:Int) then (bif !(Zp (sub (Zj s.z) r.o.z) r.d.z).no then Q (PV.tup [PV.agg (eIv (Zp (sub (Zj s.z) r.o.z) r.d.z)),vI 1]) else Q (PV.tup [PV.agg [vI 0,vI 0,vB true],vI 0])) else Q (PV.tup [PV.agg [vI 0,vI 0,vB true],vI 0])))) (fun _=>by kernel_rfl) ?_
 delta Qn Z8k eIv vI vB
 refine Zb (fun h0=>?_) (fun h0=>Zb (fun h1=>Zb (fun h2=>?_) (fun h2=>?_)) (fun h1=>?_))
 all_goals (try simp only[Qi_,Qf_] at *)
 all_goals simp only[meet, *,Qb_,Qd_]
 all_goals first | rfl | (simp[nz,nzA,nz1,Iv.enc, *])
theorem ZBw:Zh Tryz.prog 131 ZAN:=Zi<|Zf fun s=>Zf fun r=>EZ0<|by
 refine cf0 (Za ZBv<|Za Xx<|Ze) (fn:=Tryz.f131) rfl ?_
 refine sxT (fun Q=>(bif (meet s r).snd !=(1:Int) then Q (PV.tup [PV.agg [vI 0,vI 0,vB true],vI (meet s r).snd]) else (bif decide ((meet s r).fst.hi≤(0:Int)) then Q (PV.tup [PV.agg [vI 0,vI 0,vB true],vI 2]) else (bif decide ((meet s r).fst.lo≤(0:Int)) then Q (PV.tup [PV.agg [vI 0,vI 0,vB true],vI 0]) else Q (PV.tup [PV.agg (eIv (meet s r).fst),vI 1]))))) (fun _=>by kernel_rfl) ?_
 delta Qn eIv vI vB
 refine Zb (fun h0=>?_) (fun h0=>Zb (fun h1=>?_) (fun h1=>Zb (fun h2=>?_) (fun h2=>?_)))
 all_goals simp only[bne,Qi_,Qf_] at h0
 all_goals simp only[hit, *,Qb_,Qd_,Qu_,Qt_]
 all_goals rfl
def Zsb(s:Shape)(r:Ray):=Wc (X9 r.d) (dot (ZnK r.o (V.mk (Zj s.x) (Zj s.y) (Zj s.z))) r.d) (sub (X9 (ZnK r.o (V.mk (Zj s.x) (Zj s.y) (Zj s.z)))) (sqr (Zj s.r)))
def ZwG:=PV.tup [PV.agg [vI 0,vI 0,vB true],vI 0]
def ZwH(s:Shape)(r:Ray):=Zp (sub (Zj s.z) r.o.z) r.d.z
theorem ZBx:Zh Tryz.prog 112 ZAO:=Zi<|Zf fun s=>Zf fun r=>EZ0<|by
 refine cf0 (Za XF<|Za Zuw<|Za ZBt<|Za Z6b<|Za Z5Z<|Za Zdn<|Za ZaG<|Za Z5X<|Za Zhx<|Za Xp<|Ze) (fn:=Tryz.f112) rfl ?_
 refine sxT (fun Q=>(bif s.kind==(1:Int) then (bif (Zsb s r).snd !=(1:Int) then Q (PV.tup [PV.agg [vI 0,vI 0,vB true],vI (Zsb s r).snd]) else (bif decide ((Zsb s r).fst.hi≤(0:Int)) then Q (PV.tup [PV.agg [vI 0,vI 0,vB true],vI 2]) else (bif decide ((Zsb s r).fst.lo≤(0:Int)) then Q ZwG else Q (PV.tup [PV.agg (eIv (Zsb s r).fst),vI 1])))) else (bif s.kind==(2:Int) then (bif right (ZwH s r) then (bif decide ((ZwH s r).hi≤(0:Int)) then Q (PV.tup [PV.agg [vI 0,vI 0,vB true],vI 2]) else (bif decide ((ZwH s r).lo≤(0:Int)) then Q ZwG else Q (PV.tup [PV.agg (eIv (ZwH s r)),vI 1]))) else Q ZwG) else Q ZwG))) (fun _=>by kernel_rfl) ?_
 delta Qn Zsb ZwG ZwH eIv vI vB
 refine Zb (fun h0=>Zb (fun h1=>?_) (fun h1=>Zb (fun h2=>?_) (fun h2=>Zb (fun h3=>?_) (fun h3=>?_)))) (fun h0=>Zb (fun h1=>Zb (fun h2=>Zb (fun h3=>?_) (fun h3=>Zb (fun h4=>?_) (fun h4=>?_))) (fun h2=>?_)) (fun h1=>?_))
 all_goals (try simp only[Zgb,bne,Qi_,Qf_,Ke_] at *)
 all_goals simp only[hit,meet, *,Qb_,Qd_,Qu_,Qt_]
 all_goals first | rfl | (simp[nz,nzA,nz1,Iv.enc, *])
theorem Z2G:Zh Tryz.prog 92 e92:=Zi<|Zf fun n=>EZ0<|by
 refine cf0 Ze (fn:=Tryz.f92) rfl ?_
 refine sxT (fun Q=>(bif decide (n < (0:Int)) then Q (vB true) else Q (vB (decide (n > (255:Int)))))) (fun _=>by kernel_rfl) ?_
 delta Qn vB
 refine Zb (fun h0=>?_) (fun h0=>?_)
 ·simp only[Qc_] at h0
  have:ZS n=false:=by simp[ZS];omega
  rw[this];rfl
 ·simp only[Qe_] at h0
  have e:decide (n > 255)= !decide (n≤255):=by rw[←decide_not];congr 1;simp[Int.not_le]
  have e0:decide (0≤n)=true:=by simp;omega
  simp only[nz,nzA,ZS,e,e0,Qp_]
def ZBy:=Yy [(92,e92)]
theorem Z0B:CSOk Tryz.prog ZBy:=Za Z2G<|Ze
theorem Z6d:Ye Tryz.prog (Zn Tryz.f123 0) Zoh:=by
 refine ZdK Zk.Γ (Zw Zk Z0B Z4 Z3 Z7 (LS:=[]) (ZM (l:=[]) (by kernel_rfl) Zr) (n:=2000) (U3 Zwr) (U3 Zgo) (fun x e s=>((U3 Za5 x=true∧e= .ret∧s=U3 Zjv x)∨(U3 Za5 x=false∧e= .exit 0∧s=U3 Zog x))) (fun x=>(x.2.2 - x.1).toNat) Zof Z54 Z55 (fun x hx=>?_)) Zof ?_
 ·obtain ⟨i,l,n⟩:=x
  simp only[U3,Zgo] at hx
  refine sxT (fun Q=>(bif decide (i < n) then (((0:Int)≤i∧(List.map I.enc l)[i.toNat]?=some (ZJ [vI 0] ((List.map I.enc l).getD i.toNat [])))∧(bif !ZS (intOf (((List.map I.enc l).getD i.toNat []).headD PV.nil)) then Q (Ex.ret) (some ⟨19,[(4,pI i)],[],[],[],[]⟩) else Q (Ex.normal) (some ⟨19,[(8,AV.p (vI (IntKind.i64.wrap (i+(1:Int))))),(0,AV.p (PV.lst (List.map I.enc l))),(1,AV.p (PV.fn (92:FuncId) [])),(7,pI n)],[],[],[],[]⟩))) else Q (Ex.exit (0:Nat)) (some ⟨19,[],[],[],[],[]⟩))) (fun _=>by kernel_rfl) ?_
  delta vI pI
  refine Zb (fun h0=>⟨?r0,Zb (fun h1=> .inr ⟨by simp,_,rfl, ?_⟩) (fun h1=> .inl ⟨rfl,(IntKind.i64.wrap (i+(1:Int)),l,n),rfl, ?_, ?_, ?_⟩)⟩) (fun h0=> .inr ⟨by simp,_,rfl, ?_⟩)
  case r0=>first | rfl | (simp only[Zm,dI,dIv];omega) | (simp[Zc,chunk];done) | (simp only[Zm,dI,dIv];done) | (exact Z8 (fun _=>rfl) (by omega) (by omega)) | (simp only[Qc_,Qk_] at *;exact Z8 (fun _=>rfl) (by omega) (by omega))
  all_goals try dsimp only[U3]
  all_goals (try obtain ⟨a1,a2,a3,a4⟩:=hx)
  all_goals (try simp only[Qc_,Qe_] at h0)
  ·obtain ⟨x,r,e1,e2,e3⟩:=Yf (l:=l) a1 (by omega)
   rw[Yh e3] at h1
   refine .inl ⟨?_,rfl, ?_⟩
   ·simp only[U3,Za5,e1,QU_]
    rw[show (!ZS x.n)=true from h1];rfl
   ·simp only[U3,Zjv,e1,Xa]
    rw[show (!ZS x.n)=true from h1];rfl
  ·rw[Zg (by constructor<;>omega)];simp only[U3,Zgo];omega
  ·show (n - IntKind.i64.wrap (i+1)).toNat < (n - i).toNat
   rw[Zg (by constructor<;>omega)];omega
  ·obtain ⟨x,r,e1,e2,e3⟩:=Yf (l:=l) a1 (by omega)
   rw[Yh e3] at h1
   have hp:(!ZS x.n)=false:=h1
   rw[Zg (by constructor<;>omega)]
   simp only[U3,Za5,Zjv,Zog,e1,e2,QU_,hp,Qw_,Xa,Qd_]
   exact fun e s h=>h
  ·refine .inr ⟨?_,rfl,rfl⟩
   simp only[U3,Za5]
   rw[Q0_ (by omega)];rfl
 ·intro σ K hS
  unfold Zoh at hS
  split at hS
  ·rename_i p1 p2 p3 hk
   obtain ⟨hi,hK⟩:=W8 hS
   refine ⟨(p1,(Zc I.dec p2),p3),by
    simp only[Zwr]
    rw[←(show p2=(Zc I.dec p2).map I.enc from hi _ (by simp))]
    exact hk,hi _ (by simp),fun e s hf=>?_⟩
   dsimp only[U3] at hf
   rcases hf with ⟨hc,rfl,rfl⟩ | ⟨hc,hf⟩
   ·rw[hc] at hK;exact hK
   ·rw[hc] at hK;obtain ⟨rfl,rfl⟩:=hf;exact hK
  ·exact hS.elim
theorem Z8l:ZF Tryz.prog [(3,Zoh)] Tryz.f123:=ZG (l:=[Zn Tryz.f123 0]) (by kernel_rfl) (Zz (i:=3) (by kernel_rfl) rfl Z6d (Zr))
def ZwI(l:List I):=Zc I.dec (List.map I.enc l)
theorem Z8m(l:List I)(hp0:l.length≤140737488355328):Con Tryz.prog 123 [.lst (l.map I.enc),.fn 92 []] (.v (.int .i64 (Xa (fun x=> !ZS x.n) l 0))):=by
 refine cfL Z0B Z8l rfl ?_
 refine sxT (fun Q=>((List.map I.enc l=List.map I.enc (ZwI l))∧((Zgo (0:Int) (ZwI l) ↑(List.map I.enc l).length)∧(bif Za5 (0:Int) (ZwI l) ↑(List.map I.enc l).length then Q (vI (Xa (fun x=> !ZS x.n) (List.drop (0:Nat) (ZwI l)) (0:Int))) else Q (vI (-1)))))) (fun _=>by kernel_rfl) ?_
 delta Qn ZwI vI
 refine ⟨?r0,⟨?_,Zb (fun h0=>?_) (fun h0=>?_)⟩⟩
 case r0=>first | rfl | (simp only[Zm,dI,dIv];omega) | (simp[Zc,chunk];done) | (simp only[Zm,dI,dIv];done)
 all_goals simp only[dI] at *
 ·exact ⟨by omega,by omega,by simp,by simp;omega⟩
 ·simp[nz,nzA]
 ·rw[Zih (by simpa [Za5] using h0)];rfl
theorem ZBz:Zh Tryz.prog 123 ZAP:=by
 intro args r ps h hp
 unfold ZAP at h
 split at h
 ·rename_i p1
  cases (Qa_ h)
  exact by
   have hq:=Z8m (Zc I.dec p1) (hp _ (by simp))
   rw[←(show p1=(Zc I.dec p1).map I.enc from hp _ (by simp))] at hq
   exact hq
 ·exact absurd h (by simp)
theorem Z8n(l:List I)(hp0:l.length≤140737488355328):Con Tryz.prog 91 [.lst (l.map I.enc),.fn 92 []] (.v (.bool (l.any (fun x=> !ZS x.n)))):=by
 refine cf0 (Za ZBz<|Za Z2G<|Ze) (fn:=Tryz.f91) rfl ?_
 refine sxT (fun Q=>((List.map I.enc l=List.map I.enc (Zc I.dec (List.map I.enc l)))∧(((Zc I.dec (List.map I.enc l)).length≤(140737488355328:Nat))∧Q (vB (decide (Xa (fun x=> !ZS x.n) (Zc I.dec (List.map I.enc l)) (0:Int)≥(0:Int))))))) (fun _=>by kernel_rfl) ?_
 delta Qn vB
 refine ⟨?r1,⟨?r0, ?_⟩⟩
 case r0|r1=>first | rfl | (simp only[Zm,dI,dIv];omega) | (simp[Zc,chunk];done) | (simp only[Zm,dI,dIv];done)
 simp only[dI] at *
 simp only[nz,nzA]
 rw[Zii (by omega)]
theorem ZC0:Zh Tryz.prog 91 e91:=by
 intro args r ps h hp
 unfold e91 at h
 split at h
 ·rename_i p1
  cases (Qa_ h)
  exact by
   have hq:=Z8n (Zc I.dec p1) (hp _ (by simp))
   rw[←(show p1=(Zc I.dec p1).map I.enc from hp _ (by simp))] at hq
   exact hq
 ·exact absurd h (by simp)
def Z2H(s:Shape):=[[vI s.glow.a],[vI s.glow.b],[vI s.glow.c]]
theorem ZC1:Zh Tryz.prog 61 e61:=Zi<|Zf fun s=>EZ0<|by
 refine cf0 (Za ZC0<|Za Z2G<|Za Z8U<|Za ZCz<|Ze) (fn:=Tryz.f61) rfl ?_
 refine sxT (fun Q=>(((Z2H s)=List.map I.enc (Zc I.dec (Z2H s)))∧(((3:Nat)≤(140737488355328:Nat))∧(bif (Zc I.dec (Z2H s)).any fun x=> !ZS x.n then Q (vB false) else (bif s.kind==(1:Int) then (bif ZO s.x then (bif ZO s.y then (bif ZO s.z then (bif ZO s.r then Q (vB (decide (s.r.c > (0:Int)))) else Q (vB false)) else Q (vB false)) else Q (vB false)) else Q (vB false)) else (bif s.kind==(2:Int) then (bif ZO s.z then (bif s.x.c==(0:Int)&&(s.x.scale==(0:Int)&&true) then (bif s.y.c==(0:Int)&&(s.y.scale==(0:Int)&&true) then Q (vB (s.r.c==(0:Int)&&(s.r.scale==(0:Int)&&true))) else Q (vB false)) else Q (vB false)) else Q (vB false)) else Q (vB false))))))) (fun _=>by kernel_rfl) ?_
 delta Qn Z2H vI vB
 refine ⟨?r1,⟨?r0,Zb (fun h0=>?_) (fun h0=>Zb (fun h1=>Zb (fun h2=>Zb (fun h3=>Zb (fun h4=>Zb (fun h5=>?_) (fun h5=>?_)) (fun h4=>?_)) (fun h3=>?_)) (fun h2=>?_)) (fun h1=>Zb (fun h2=>Zb (fun h3=>Zb (fun h4=>Zb (fun h5=>?_) (fun h5=>?_)) (fun h4=>?_)) (fun h3=>?_)) (fun h2=>?_)))⟩⟩
 case r0|r1=>first | rfl | (simp only[Zm,dI,dIv];omega) | (simp[Zc,chunk];done)
 all_goals have hg:((Zc I.dec (chunk 1 3 [PV.v (Value.int .i64 s.glow.a),PV.v (Value.int .i64 s.glow.b),PV.v (Value.int .i64 s.glow.c)])).any fun x=> !ZS x.n)= !(ZS s.glow.a&&(ZS s.glow.b&&ZS s.glow.c)):=by simp[Zc,chunk,I.dec,intOf,Bool.not_and]
 ·replace h0:(!(ZS s.glow.a&&(ZS s.glow.b&&ZS s.glow.c)))=true:=by rw[←hg];exact h0
  simp only[Qi_] at h0
  simp only[nz,nzA,Z6,h0,Ql_]
 all_goals replace h0:(!(ZS s.glow.a&&(ZS s.glow.b&&ZS s.glow.c)))=false:=by rw[←hg];exact h0
 all_goals simp only[Qf_] at h0
 all_goals clear hg
 all_goals simp only[nz,nzA,Z6,YD,Qr_, *,Qp_,Ql_,Qn_,Qb_,Qd_] at *
 all_goals first | rfl | (simp_all;done)
theorem Z2I:Zh Tryz.prog 60 e60:=Zi<|Zf fun s=>EZ0<|by
 refine cf0 (Za ZC1<|Ze) (fn:=Tryz.f60) rfl ?_
 refine sxT (fun Q=>Q (vB (!Z6 s))) (fun _=>by kernel_rfl) ?_
 delta Qn vB
 refine ?_
 all_goals rfl
def ZB0:=Yy [(60,e60)]
theorem Z0C:CSOk Tryz.prog ZB0:=Za Z2I<|Ze
theorem Z6e:Ye Tryz.prog (Zn Tryz.f90 0) Zok:=by
 refine ZdK Zk.Γ (Zw Zk Z0C Z4 Z3 Z7 (LS:=[]) (ZM (l:=[]) (by kernel_rfl) Zr) (n:=2000) (U3 Zws) (U3 Zgq) (fun x e s=>((U3 Za6 x=true∧e= .ret∧s=U3 Zjw x)∨(U3 Za6 x=false∧e= .exit 0∧s=U3 Zoj x))) (fun x=>(x.2.2 - x.1).toNat) Zoi Z56 Z57 (fun x hx=>?_)) Zoi ?_
 ·obtain ⟨i,l,n⟩:=x
  simp only[U3,Zgq] at hx
  refine sxT (fun Q=>(bif decide (i < n) then (((0:Int)≤i∧(List.map Shape.enc l)[i.toNat]?=some (ZJ [vI 0,vI 0,vI 0,vI 0,vI 0,vI 0,vI 0,vI 0,vI 0,vI 0,vI 0,vI 0] ((List.map Shape.enc l).getD i.toNat [])))∧(bif !Z6 (Shape.dec ((List.map Shape.enc l).getD i.toNat [])) then Q (Ex.ret) (some ⟨19,[(4,pI i)],[],[],[],[]⟩) else Q (Ex.normal) (some ⟨19,[(8,AV.p (vI (IntKind.i64.wrap (i+(1:Int))))),(0,AV.p (PV.lst (List.map Shape.enc l))),(1,AV.p (PV.fn (60:FuncId) [])),(7,pI n)],[],[],[],[]⟩))) else Q (Ex.exit (0:Nat)) (some ⟨19,[],[],[],[],[]⟩))) (fun _=>by kernel_rfl) ?_
  delta vI pI
  refine Zb (fun h0=>⟨?r0,Zb (fun h1=> .inr ⟨by simp,_,rfl, ?_⟩) (fun h1=> .inl ⟨rfl,(IntKind.i64.wrap (i+(1:Int)),l,n),rfl, ?_, ?_, ?_⟩)⟩) (fun h0=> .inr ⟨by simp,_,rfl, ?_⟩)
  case r0=>first | rfl | (simp only[Zm,dI,dIv];omega) | (simp[Zc,chunk];done) | (simp only[Zm,dI,dIv];done) | (exact Z8 (fun _=>rfl) (by omega) (by omega)) | (simp only[Qc_,Qk_] at *;exact Z8 (fun _=>rfl) (by omega) (by omega))
  all_goals try dsimp only[U3]
  all_goals (try obtain ⟨a1,a2,a3,a4⟩:=hx)
  all_goals (try simp only[Qc_,Qe_] at h0)
  ·obtain ⟨x,r,e1,e2,e3⟩:=Yf (l:=l) a1 (by omega)
   rw[Yh e3] at h1
   refine .inl ⟨?_,rfl, ?_⟩
   ·simp only[U3,Za6,e1,QU_]
    rw[show (!Z6 x)=true from h1];rfl
   ·simp only[U3,Zjw,e1,Xa]
    rw[show (!Z6 x)=true from h1];rfl
  ·rw[Zg (by constructor<;>omega)];simp only[U3,Zgq];omega
  ·show (n - IntKind.i64.wrap (i+1)).toNat < (n - i).toNat
   rw[Zg (by constructor<;>omega)];omega
  ·obtain ⟨x,r,e1,e2,e3⟩:=Yf (l:=l) a1 (by omega)
   rw[Yh e3] at h1
   have hp:(!Z6 x)=false:=h1
   rw[Zg (by constructor<;>omega)]
   simp only[U3,Za6,Zjw,Zoj,e1,e2,QU_,hp,Qw_,Xa,Qd_]
   exact fun e s h=>h
  ·refine .inr ⟨?_,rfl,rfl⟩
   simp only[U3,Za6]
   rw[Q0_ (by omega)];rfl
 ·intro σ K hS
  unfold Zok at hS
  split at hS
  ·rename_i p1 p2 p3 hk
   obtain ⟨hi,hK⟩:=W8 hS
   refine ⟨(p1,(Zc Shape.dec p2),p3),by
    simp only[Zws]
    rw[←(show p2=(Zc Shape.dec p2).map Shape.enc from hi _ (by simp))]
    exact hk,hi _ (by simp),fun e s hf=>?_⟩
   dsimp only[U3] at hf
   rcases hf with ⟨hc,rfl,rfl⟩ | ⟨hc,hf⟩
   ·rw[hc] at hK;exact hK
   ·rw[hc] at hK;obtain ⟨rfl,rfl⟩:=hf;exact hK
  ·exact hS.elim
theorem Z8o:ZF Tryz.prog [(3,Zok)] Tryz.f90:=ZG (l:=[Zn Tryz.f90 0]) (by kernel_rfl) (Zz (i:=3) (by kernel_rfl) rfl Z6e (Zr))
def ZwJ(l:List Shape):=Zc Shape.dec (List.map Shape.enc l)
theorem Z8p(l:List Shape)(hp0:l.length≤140737488355328):Con Tryz.prog 90 [.lst (l.map Shape.enc),.fn 60 []] (.v (.int .i64 (Xa (fun s=> !Z6 s) l 0))):=by
 refine cfL Z0C Z8o rfl ?_
 refine sxT (fun Q=>((List.map Shape.enc l=List.map Shape.enc (ZwJ l))∧((Zgq (0:Int) (ZwJ l) ↑(List.map Shape.enc l).length)∧(bif Za6 (0:Int) (ZwJ l) ↑(List.map Shape.enc l).length then Q (vI (Xa (fun s=> !Z6 s) (List.drop (0:Nat) (ZwJ l)) (0:Int))) else Q (vI (-1)))))) (fun _=>by kernel_rfl) ?_
 delta Qn ZwJ vI
 refine ⟨?r0,⟨?_,Zb (fun h0=>?_) (fun h0=>?_)⟩⟩
 case r0=>first | rfl | (simp only[Zm,dI,dIv];omega) | (simp[Zc,chunk];done) | (simp only[Zm,dI,dIv];done)
 all_goals simp only[Zm] at *
 ·exact ⟨by omega,by omega,by simp,by simp;omega⟩
 ·simp[nz,nzA]
 ·rw[Zih (by simpa [Za6] using h0)];rfl
theorem ZC2:Zh Tryz.prog 90 e90:=by
 intro args r ps h hp
 unfold e90 at h
 split at h
 ·rename_i p1
  cases (Qa_ h)
  exact by
   have hq:=Z8p (Zc Shape.dec p1) (hp _ (by simp))
   rw[←(show p1=(Zc Shape.dec p1).map Shape.enc from hp _ (by simp))] at hq
   exact hq
 ·exact absurd h (by simp)
theorem Z8q(l:List Shape)(hp0:l.length≤140737488355328):Con Tryz.prog 59 [.lst (l.map Shape.enc),.fn 60 []] (.v (.bool (l.any (fun s=> !Z6 s)))):=by
 refine cf0 (Za ZC2<|Za Z2I<|Ze) (fn:=Tryz.f59) rfl ?_
 refine sxT (fun Q=>((List.map Shape.enc l=List.map Shape.enc (Zc Shape.dec (List.map Shape.enc l)))∧(((Zc Shape.dec (List.map Shape.enc l)).length≤(140737488355328:Nat))∧Q (vB (decide (Xa (fun s=> !Z6 s) (Zc Shape.dec (List.map Shape.enc l)) (0:Int)≥(0:Int))))))) (fun _=>by kernel_rfl) ?_
 delta Qn vB
 refine ⟨?r1,⟨?r0, ?_⟩⟩
 case r0|r1=>first | rfl | (simp only[Zm,dI,dIv];omega) | (simp[Zc,chunk];done) | (simp only[Zm,dI,dIv];done)
 simp only[Zm] at *
 simp only[nz,nzA]
 rw[Zii (by omega)]
theorem ZC3:Zh Tryz.prog 59 e59:=by
 intro args r ps h hp
 unfold e59 at h
 split at h
 ·rename_i p1
  cases (Qa_ h)
  exact by
   have hq:=Z8q (Zc Shape.dec p1) (hp _ (by simp))
   rw[←(show p1=(Zc Shape.dec p1).map Shape.enc from hp _ (by simp))] at hq
   exact hq
 ·exact absurd h (by simp)
theorem ZC4:Zh Tryz.prog 31 e31:=Zi<|Zf fun l=>EZ1 fun hp0=>by
 refine cf0 (Za ZC3<|Za Z2I<|Ze) (fn:=Tryz.f31) rfl ?_
 refine sxT (fun Q=>(bif decide (↑(List.map Shape.enc l).length≤(8:Int)) then ((List.map Shape.enc l=List.map Shape.enc (Zc Shape.dec (List.map Shape.enc l)))∧(((Zc Shape.dec (List.map Shape.enc l)).length≤(140737488355328:Nat))∧Q (vB (!(Zc Shape.dec (List.map Shape.enc l)).any fun s=> !Z6 s)))) else Q (vB false))) (fun _=>by kernel_rfl) ?_
 delta Qn vB
 refine Zb (fun h0=>⟨?r1,⟨?r0, ?_⟩⟩) (fun h0=>?_)
 case r0|r1=>first | rfl | (simp only[Zm,dI,dIv];omega) | (simp[Zc,chunk];done) | (simp only[Zm,dI,dIv];done)
 all_goals simp only[Zm,Qc_,Qe_,Qk_] at *
 ·have e:decide (l.length≤8)=true:=by simp;omega
  have e2:(!l.any fun s=> !Z6 s)=l.all Z6:=by rw[List.all_eq_not_any_not]
  simp only[nz,nzA,Y6,e,e2,Qp_]
 ·have e:decide (l.length≤8)=false:=by simp;omega
  simp only[nz,nzA,Y6,e,Ql_]
def ZwK:=Yy [(71,e71)]
def ZaI:Option St:=some ⟨93,[(2,AV.p (vB false))],[],[],[],[]⟩
def WG(i:Int)(l:List Shape):=(List.map Shape.enc l).getD i.toNat []
def Z8r(i:Int)(l:List Shape):=Dec.mk (intOf ((WG i l).tail.tail.tail.tail.tail.headD PV.nil)) (intOf ((WG i l).tail.tail.tail.tail.tail.tail.headD PV.nil))
def Z8s(i:Int)(l:List Shape):Option St:=some ⟨93,[(3,AV.p (vI (IntKind.i64.wrap (i+(1:Int))))),(0,AV.p (PV.lst (List.map Shape.enc l)))],[],[],[],[]⟩
def Z2J(i:Int)(l:List Shape):=(WG i l).tail.tail.tail.tail.tail.tail.tail.headD PV.nil
theorem Zkn:CSOk Tryz.prog ZwK:=Za Zuu<|Ze
theorem ZpU:Ye Tryz.prog (Zn Tryz.f44 0) Zio:=by
 refine lsG Zk.Γ (Zw Zk Zkn Z4 Z3 Z7 (LS:=[]) (ZM (l:=[Zn Tryz.f44 1]) (by kernel_rfl) (X8 (i:=9) (by kernel_rfl) rfl (Zr))) (n:=2000) (U2 ZrP) (U2 J2) (fun x e s=>((U2 Wb x=true∧e= .ret∧s=U2 ZdV x)∨(U2 Wb x=false∧e= .exit 0∧s=U2 ZdU x))) (fun x=>(x.2.length - x.1).toNat) Zin Zp8 Zp9 (fun x hx=>?_)) cv2 (fun _=>rfl) (fun _ h=>h) (fun _ _ _ _ h f=>fC h f fE fE)
 ·obtain ⟨i,l⟩:=x
  simp only[U2,J2] at hx
  refine sxT (fun Q=>(bif decide (i < ↑(List.map Shape.enc l).length) then (((0:Int)≤i∧(List.map Shape.enc l)[i.toNat]?=some (ZJ [vI 0,vI 0,vI 0,vI 0,vI 0,vI 0,vI 0,vI 0,vI 0,vI 0,vI 0,vI 0] (WG i l)))∧(((0:Int)≤(0:Int)∧(0:Int) < (3:Int))∧(bif decide (intOf ((WG i l).tail.tail.tail.tail.tail.tail.tail.tail.tail.headD PV.nil) < (0:Int)) then Q (Ex.ret) ZaI else (((0:Int)≤(0:Int)∧(0:Int) < (3:Int))∧(bif decide (intOf ((WG i l).tail.tail.tail.tail.tail.tail.tail.tail.tail.headD PV.nil) > (255:Int)) then Q (Ex.ret) ZaI else (((0:Int)≤(1:Int)∧(1:Int) < (3:Int))∧(bif decide (intOf ((WG i l).tail.tail.tail.tail.tail.tail.tail.tail.tail.tail.headD PV.nil) < (0:Int)) then Q (Ex.ret) ZaI else (((0:Int)≤(1:Int)∧(1:Int) < (3:Int))∧(bif decide (intOf ((WG i l).tail.tail.tail.tail.tail.tail.tail.tail.tail.tail.headD PV.nil) > (255:Int)) then Q (Ex.ret) ZaI else (((0:Int)≤(2:Int)∧(2:Int) < (3:Int))∧(bif decide (intOf ((WG i l).tail.tail.tail.tail.tail.tail.tail.tail.tail.tail.tail.headD PV.nil) < (0:Int)) then Q (Ex.ret) ZaI else (((0:Int)≤(2:Int)∧(2:Int) < (3:Int))∧(bif decide (intOf ((WG i l).tail.tail.tail.tail.tail.tail.tail.tail.tail.tail.tail.headD PV.nil) > (255:Int)) then Q (Ex.ret) ZaI else (bif intOf ((WG i l).headD PV.nil)==(1:Int) then (bif !ZO (Dec.mk (intOf ((WG i l).tail.headD PV.nil)) (intOf ((WG i l).tail.tail.headD PV.nil))) then Q (Ex.ret) ZaI else (bif !ZO (Dec.mk (intOf ((WG i l).tail.tail.tail.headD PV.nil)) (intOf ((WG i l).tail.tail.tail.tail.headD PV.nil))) then Q (Ex.ret) ZaI else (bif !ZO (Z8r i l) then Q (Ex.ret) ZaI else (bif !ZO (Dec.mk (intOf (Z2J i l)) (intOf ((WG i l).tail.tail.tail.tail.tail.tail.tail.tail.headD PV.nil))) then Q (Ex.ret) ZaI else (bif decide (intOf (Z2J i l)≤(0:Int)) then Q (Ex.ret) ZaI else Q (Ex.normal) (Z8s i l)))))) else (bif intOf ((WG i l).headD PV.nil)==(2:Int) then (bif !ZO (Z8r i l) then Q (Ex.ret) ZaI else (bif !(intOf ((WG i l).tail.headD PV.nil)==(0:Int)&&(intOf ((WG i l).tail.tail.headD PV.nil)==(0:Int)&&true)) then Q (Ex.ret) ZaI else (bif !(intOf ((WG i l).tail.tail.tail.headD PV.nil)==(0:Int)&&(intOf ((WG i l).tail.tail.tail.tail.headD PV.nil)==(0:Int)&&true)) then Q (Ex.ret) ZaI else (bif !(intOf (Z2J i l)==(0:Int)&&(intOf ((WG i l).tail.tail.tail.tail.tail.tail.tail.tail.headD PV.nil)==(0:Int)&&true)) then Q (Ex.ret) ZaI else Q (Ex.normal) (Z8s i l))))) else Q (Ex.ret) ZaI))))))))))))))) else Q (Ex.exit (0:Nat)) (some ⟨93,[],[],[],[],[]⟩))) (fun _=>by kernel_rfl) ?_
  delta ZaI WG Z8r Z8s Z2J vI vB
  refine Zb (fun h0=>⟨?r6,⟨?r5,Zb (fun h1=> .inr ⟨by simp,_,rfl, ?_⟩) (fun h1=>⟨?r4,Zb (fun h2=> .inr ⟨by simp,_,rfl, ?_⟩) (fun h2=>⟨?r3,Zb (fun h3=> .inr ⟨by simp,_,rfl, ?_⟩) (fun h3=>⟨?r2,Zb (fun h4=> .inr ⟨by simp,_,rfl, ?_⟩) (fun h4=>⟨?r1,Zb (fun h5=> .inr ⟨by simp,_,rfl, ?_⟩) (fun h5=>⟨?r0,Zb (fun h6=> .inr ⟨by simp,_,rfl, ?_⟩) (fun h6=>Zb (fun h7=>Zb (fun h8=> .inr ⟨by simp,_,rfl, ?_⟩) (fun h8=>Zb (fun h9=> .inr ⟨by simp,_,rfl, ?_⟩) (fun h9=>Zb (fun h10=> .inr ⟨by simp,_,rfl, ?_⟩) (fun h10=>Zb (fun h11=> .inr ⟨by simp,_,rfl, ?_⟩) (fun h11=>Zb (fun h12=> .inr ⟨by simp,_,rfl, ?_⟩) (fun h12=> .inl ⟨rfl,(IntKind.i64.wrap (i+(1:Int)),l),rfl, ?_, ?_, ?_⟩)))))) (fun h7=>Zb (fun h8=>Zb (fun h9=> .inr ⟨by simp,_,rfl, ?_⟩) (fun h9=>Zb (fun h10=> .inr ⟨by simp,_,rfl, ?_⟩) (fun h10=>Zb (fun h11=> .inr ⟨by simp,_,rfl, ?_⟩) (fun h11=>Zb (fun h12=> .inr ⟨by simp,_,rfl, ?_⟩) (fun h12=> .inl ⟨rfl,(IntKind.i64.wrap (i+(1:Int)),l),rfl, ?_, ?_, ?_⟩))))) (fun h8=> .inr ⟨by simp,_,rfl, ?_⟩)))⟩)⟩)⟩)⟩)⟩)⟩⟩) (fun h0=> .inr ⟨by simp,_,rfl, ?_⟩)
  case r0|r1|r2|r3|r4|r5|r6=>first | rfl | (simp only[Zm,dI,dIv];omega) | (simp[Zc,chunk];done) | (simp only[Zm,dI,dIv];done) | (exact Z8 (fun _=>rfl) (by omega) (by omega)) | (simp only[Qc_,Qk_] at *;exact Z8 (fun _=>rfl) (by omega) (by omega))
  all_goals try dsimp only[U2]
  all_goals (try obtain ⟨a1,a2,a3⟩:=hx)
  all_goals (try simp only[Qc_,Qe_,Qi_,Qf_,Qk_] at *)
  all_goals first | (obtain ⟨x,r,e1,e2,e3⟩:=Yf (l:=l) a1 (by omega);rw[Yh e3] at *;(try simp only[Shape.enc,List.headD_cons,List.tail_cons,intOf,Qc_,Qe_,Qi_,Qf_] at *)) | (exfalso;omega) | skip
  all_goals first
   | (have hrs:Z6 x=false:=(by
       first
        | (have g:ZS x.glow.a=false:=(by simp[ZS];omega)
           simp[Z6,g];done)
        | (have g:ZS x.glow.b=false:=(by simp[ZS];omega)
           simp[Z6,g];done)
        | (have g:ZS x.glow.c=false:=(by simp[ZS];omega)
           simp[Z6,g];done)
        | (have g:decide (x.r.c > 0)=false:=(by simp;omega)
           have k:x.kind=1:=(by simp at *;assumption)
           simp[Z6,g,k];done)
        | (simp_all[Z6,YD];done))
      refine .inl ⟨?_,by trivial,rfl⟩
      simp only[U2,Wb,e1,List.all_cons,hrs];rfl)
   | (rw[Zg (by constructor<;>omega)];simp only[U2,J2];omega)
   | (show (l.length - IntKind.i64.wrap (i+1)).toNat < (l.length - i).toNat;rw[Zg (by constructor<;>omega)];omega)
   | (have hrs:Z6 x=true:=(by
       have g1:ZS x.glow.a=true:=(by simp[ZS];omega)
       have g2:ZS x.glow.b=true:=(by simp[ZS];omega)
       have g3:ZS x.glow.c=true:=(by simp[ZS];omega)
       first | (have g:decide (x.r.c > 0)=true:=(by simp;omega)
                simp_all[Z6,YD];done) | (simp_all[Z6,YD];done))
      rw[Zg (by constructor<;>omega)]
      simp only[U2,Wb,ZdV,ZdU,e1,e2,List.all_cons,hrs,Qp_]
      exact fun e s h=>h)
   | (refine .inr ⟨?_,by trivial,rfl⟩;simp only[U2,Wb];rw[Q0_ (by omega)];rfl)
theorem Zsc:ZF Tryz.prog [(5,Zio)] Tryz.f44:=ZG (l:=[Zn Tryz.f44 0,Zn Tryz.f44 1]) (by kernel_rfl) (Zz (i:=5) (by kernel_rfl) rfl ZpU (X8 (i:=9) (by kernel_rfl) rfl (Zr)))
theorem ZC5:Zh Tryz.prog 44 e44:=Zi<|Zf fun l=>EZ1 fun hp0=>by
 refine cfL Zkn Zsc rfl ?_
 refine sxT (fun Q=>(bif decide (↑(List.map Shape.enc l).length > (8:Int)) then Q (vB false) else ((List.map Shape.enc l=List.map Shape.enc (Zc Shape.dec (List.map Shape.enc l)))∧((J2 (0:Int) (Zc Shape.dec (List.map Shape.enc l)))∧(bif Wb (0:Int) (Zc Shape.dec (List.map Shape.enc l)) then Q (vB false) else Q (vB true)))))) (fun _=>by kernel_rfl) ?_
 delta Qn vB
 refine Zb (fun h0=>?_) (fun h0=>⟨?r0,⟨?_,Zb (fun h1=>?_) (fun h1=>?_)⟩⟩)
 case r0=>first | rfl | (simp only[Zm,dI,dIv];omega) | (simp[Zc,chunk];done) | (simp only[Zm,dI,dIv];done)
 all_goals simp only[Zm,Qc_,Qe_,Qk_] at *
 ·have e:decide (l.length≤8)=false:=by simp;omega
  simp only[nz,nzA,Y6,e,Ql_]
 ·exact ⟨by omega,by omega,by omega⟩
 all_goals have e:decide (l.length≤8)=true:=by simp;omega
 ·have h:(!l.all Z6)=true:=h1
  simp only[Qi_] at h
  simp only[nz,nzA,Y6,e,h,Qp_]
 ·have h:(!l.all Z6)=false:=h1
  simp only[Qf_] at h
  simp only[nz,nzA,Y6,e,h,Qp_]
def Z8t(d:Dec)(z:Dec):Option St:=some ⟨27,[(4,AV.ptr 4 0),(5,AV.ptr 5 0)],[(4,(ZrJ z)),(5,(ZrJ d))],[],[],[]⟩
theorem Z0D:CSOk Tryz.prog (Yy []):=Ze
theorem Z6f:Ye Tryz.prog (Zn Tryz.f25 0) Zwu:=by
 refine lsG Zk.Γ (Zw Zk Z0D Z4 Z3 Z7 (LS:=[]) (ZM (l:=[]) (by kernel_rfl) Zr) (n:=2000) (U2 Z7S) (U2 Zgs) (fun x e s=>(e= .exit 0∧s=U2 Zgr x)) (fun x=>x.1.scale.toNat) Zwt Z58 Z59 (fun x hx=>?_)) cv2 (fun _=>rfl) (fun _ h=>h) (fun _ _ _ _ h f=>fE h f)
 ·obtain ⟨d,z⟩:=x
  simp only[U2,Zgs] at hx
  refine sxT (fun Q=>(bif decide (d.scale > (0:Int)) then (((10:Int)≠(0:Int))∧(bif d.c.tmod (10:Int)==(0:Int) then (((10:Int)≠(0:Int))∧Q (Ex.normal) (some ⟨27,[(5,AV.ptr 5 0),(4,AV.ptr 4 0)],[(5,[vI (IntKind.i64.wrap (d.c.tdiv (10:Int))),vI (IntKind.i64.wrap (d.scale - (1:Int)))]),(4,(ZrJ z))],[],[],[]⟩)) else Q (Ex.exit (0:Nat)) (Z8t d z))) else Q (Ex.exit (0:Nat)) (Z8t d z))) (fun _=>by kernel_rfl) ?_
  delta Z8t ZrJ vI vB
  refine Zb (fun h0=>⟨?r1,Zb (fun h1=>⟨?r0,.inl ⟨rfl,(⟨IntKind.i64.wrap (d.c.tdiv (10:Int)),IntKind.i64.wrap (d.scale - (1:Int))⟩,z),rfl, ?_, ?_, ?_⟩⟩) (fun h1=> .inr ⟨by simp,_,rfl, ?_⟩)⟩) (fun h0=> .inr ⟨by simp,_,rfl, ?_⟩)
  case r0|r1=>first | rfl | (simp only[Zm,dI,dIv];omega) | (simp[Zc,chunk];done)
  all_goals try dsimp only[U2]
  all_goals (try simp only[Qc_,Qe_] at h0)
  ·rw[Zg (show Fit (d.scale - 1) by constructor<;>omega)];simp only[U2,Zgs];omega
  ·show (IntKind.i64.wrap (d.scale - 1)).toNat < d.scale.toNat
   rw[Zg (by constructor<;>omega)];omega
  ·simp only[beq_iff_eq] at h1
   simp only[U2,Zgr]
   rw[Z5h h0 hx.2 h1]
   exact fun e s h=>h
  ·simp only[KG_] at h1
   exact ⟨rfl,by simp only[U2,Zgr];rw[ZvX (fun h=>h1 h.2)]⟩
  ·exact ⟨rfl,by simp only[U2,Zgr];rw[ZvX (fun h=>h0 h.1)]⟩
theorem Z8u:ZF Tryz.prog [(3,Zwu)] Tryz.f25:=ZG (l:=[Zn Tryz.f25 0]) (by kernel_rfl) (Zz (i:=3) (by kernel_rfl) rfl Z6f (Zr))
theorem Z2K:Zh Tryz.prog 25 e25:=Zi<|Zf fun c=>Zf fun scale=>EZ1 fun hp0=>by
 refine cfL Z0D Z8u rfl ?_
 refine sxT (fun Q=>((Zgs (Dec.mk c scale) (Dec.mk (0:Int) (0:Int)))∧Q (PV.agg (ZrJ (hdec scale.toNat c scale))))) (fun _=>by kernel_rfl) ?_
 delta Qn ZrJ vI vB
 refine ⟨?_, ?_⟩
 ·exact hp0
 ·rfl
def Z8v:=Yy [(9,e9),(25,e25)]
def ZaJ(l:List I):=List.map I.enc l
def Z2L(i:Int)(l:List I):=hdec (1:Nat) (IntKind.i64.wrap (pick (intOf (((ZaJ l).getD (IntKind.i64.wrap (i+(1:Int))).toNat []).headD PV.nil)) (600:Int) - (300:Int))) (1:Int)
def Z2M(i:Int)(l:List I):=hdec (1:Nat) (IntKind.i64.wrap (pick (intOf (((ZaJ l).getD (IntKind.i64.wrap (i+(2:Int))).toNat []).headD PV.nil)) (600:Int) - (300:Int))) (1:Int)
def Z2N(i:Int)(l:List I):=(ZaJ l).getD (IntKind.i64.wrap (i+(3:Int))).toNat []
def Z2O(i:Int)(l:List I):=hdec (0:Nat) (IntKind.i64.wrap ((50:Int)+pick (intOf ((Z2N i l).headD PV.nil)) (70:Int))) (0:Int)
def Z2P(i:Int)(l:List I):=(ZaJ l).getD (IntKind.i64.wrap (i+(4:Int))).toNat []
def Z2Q(i:Int)(l:List I):=hdec (1:Nat) (IntKind.i64.wrap ((10:Int)+pick (intOf ((Z2P i l).headD PV.nil)) (300:Int))) (1:Int)
def Zox(i:Int)(l:List I):=intOf (((ZaJ l).getD i.toNat []).headD PV.nil)
def Z8w(i:Int)(l:List I)(out:List Shape):=List.map Shape.enc out++[[vI 1,vI (Z2L i l).c,vI (Z2L i l).scale,vI (Z2M i l).c,vI (Z2M i l).scale,vI (Z2O i l).c,vI (Z2O i l).scale,vI (Z2Q i l).c,vI (Z2Q i l).scale,vI (pick (Zox i l) (256:Int)),vI (pick (IntKind.i64.wrap ((Zox i l).tdiv (7:Int))) (256:Int)),vI (pick (IntKind.i64.wrap ((Zox i l).tdiv (13:Int))) (256:Int))]]
def Z2R(i:Int)(l:List I):=hdec (0:Nat) (IntKind.i64.wrap ((60:Int)+pick (intOf ((Z2N i l).headD PV.nil)) (100:Int))) (0:Int)
def Z8x(i:Int)(l:List I)(out:List Shape):=List.map Shape.enc out++[[vI 2,vI 0,vI 0,vI 0,vI 0,vI (Z2R i l).c,vI (Z2R i l).scale,vI 0,vI 0,vI (pick (Zox i l) (256:Int)),vI (pick (IntKind.i64.wrap ((Zox i l).tdiv (7:Int))) (256:Int)),vI (pick (IntKind.i64.wrap ((Zox i l).tdiv (13:Int))) (256:Int))]]
def Z2S:=(0:Int) < (256:Int)∧(256:Int)≤(4611686018427387904:Int)
def Z2T(i:Int)(l:List I):=(0:Int)≤i∧(ZaJ l)[i.toNat]?=some (ZJ [vI 0] ((ZaJ l).getD i.toNat []))
def Z2U(i:Int)(l:List I):=(0:Int)≤IntKind.i64.wrap (i+(4:Int))∧(ZaJ l)[(IntKind.i64.wrap (i+(4:Int))).toNat]?=some (ZJ [vI 0] (Z2P i l))
def Z2V(i:Int)(l:List I):=(0:Int)≤IntKind.i64.wrap (i+(3:Int))∧(ZaJ l)[(IntKind.i64.wrap (i+(3:Int))).toNat]?=some (ZJ [vI 0] (Z2N i l))
def Zux:=(0:Int)≤(1:Int)∧(1:Int)≤(18:Int)
def Zuy:=[(Loc.t (nat_lit 3),nat_lit 58)]
def Z2W:=(0:Int) < (600:Int)∧(600:Int)≤(4611686018427387904:Int)
def Z2X:=(0:Int)≤(0:Int)∧(0:Int)≤(18:Int)
def Z2Y(out:List Shape):Option St:=some ⟨93,[(3,AV.p (PV.lst (List.map Shape.enc out)))],[],[],Zuy,[]⟩
theorem Ztd:CSOk Tryz.prog Z8v:=Za Zow<|Za Z2K<|Ze
theorem ZzA:Ye Tryz.prog (Zn Tryz.f11 0) Zjz:=by
 refine lsG Zk.Γ (Zw Zk Ztd Z4 Z3 Z7 (LS:=[]) (ZM (l:=[]) (by kernel_rfl) Zr) (n:=2000) (U3 Zjy) (U3 Zbb) (fun x e s=>(e= .exit 0∧s=U3 Zba x)) (fun x=>(30 - x.1).toNat) ZpA Zzq Zzr (fun x hx=>?_)) cv3 (fun _=>rfl) (fun _ h=>h) (fun _ _ _ _ h f=>fE h f)
 ·obtain ⟨i,l,out⟩:=x
  simp only[U3,Zbb] at hx
  refine sxT (fun Q=>(bif decide (IntKind.i64.wrap (i+(4:Int)) < ↑(ZaJ l).length) then (bif decide (i < (25:Int)) then ((Z2T i l)∧(Z2S∧((Z2T i l)∧(((7:Int)≠(0:Int))∧(Z2S∧((Z2T i l)∧(((13:Int)≠(0:Int))∧(Z2S∧((Z2U i l)∧(((0:Int) < (3:Int)∧(3:Int)≤(4611686018427387904:Int))∧(bif pick (intOf ((Z2P i l).headD PV.nil)) (3:Int)==(0:Int) then ((Z2V i l)∧(((0:Int) < (100:Int)∧(100:Int)≤(4611686018427387904:Int))∧(Z2X∧(((0:Nat) < (1:Nat)∧((List.map Shape.enc out).length+(1:Nat))* (96:Nat)≤(140737488355328:Nat)∧Lens (12:Nat) (Z8x i l out))∧Q (Ex.normal) (some ⟨93,[(4,AV.p (vI (IntKind.i64.wrap (i+(5:Int))))),(0,AV.p (PV.lst (ZaJ l))),(3,AV.p (PV.lst (Z8x i l out)))],[],[],Zuy,[]⟩))))) else (((0:Int)≤IntKind.i64.wrap (i+(1:Int))∧(ZaJ l)[(IntKind.i64.wrap (i+(1:Int))).toNat]?=some (ZJ [vI 0] ((ZaJ l).getD (IntKind.i64.wrap (i+(1:Int))).toNat [])))∧(Z2W∧(Zux∧(((0:Int)≤IntKind.i64.wrap (i+(2:Int))∧(ZaJ l)[(IntKind.i64.wrap (i+(2:Int))).toNat]?=some (ZJ [vI 0] ((ZaJ l).getD (IntKind.i64.wrap (i+(2:Int))).toNat [])))∧(Z2W∧(Zux∧((Z2V i l)∧(((0:Int) < (70:Int)∧(70:Int)≤(4611686018427387904:Int))∧(Z2X∧((Z2U i l)∧(((0:Int) < (300:Int)∧(300:Int)≤(4611686018427387904:Int))∧(Zux∧(((0:Nat) < (1:Nat)∧((List.map Shape.enc out).length+(1:Nat))* (96:Nat)≤(140737488355328:Nat)∧Lens (12:Nat) (Z8w i l out))∧Q (Ex.normal) (some ⟨93,[(4,AV.p (vI (IntKind.i64.wrap (i+(5:Int))))),(0,AV.p (PV.lst (ZaJ l))),(3,AV.p (PV.lst (Z8w i l out)))],[],[],Zuy,[]⟩))))))))))))))))))))))))) else Q (Ex.exit (0:Nat)) (Z2Y out)) else Q (Ex.exit (0:Nat)) (Z2Y out))) (fun _=>by kernel_rfl) ?_
  delta Z8w Z8x ZaJ Z2N Z2P Zox Z2S Z2T Z2L Z2M Z2U Z2V Zux Zuy Z2Q Z2R Z2O Z2W Z2X Z2Y vI
  refine Zb (fun h0=>Zb (fun h1=>⟨?r26,⟨?r25,⟨?r24,⟨?r23,⟨?r22,⟨?r21,⟨?r20,⟨?r19,⟨?r18,⟨?r17,Zb (fun h2=>⟨?r3,⟨?r2,⟨?r1,⟨?r0,.inl ⟨rfl,(IntKind.i64.wrap (i+(5:Int)),l,(out++[⟨(2:Int),⟨(0:Int),(0:Int)⟩,⟨(0:Int),(0:Int)⟩,(hdec (0:Nat) (IntKind.i64.wrap ((60:Int)+pick (intOf (((List.map I.enc l).getD (IntKind.i64.wrap (i+(3:Int))).toNat []).headD PV.nil)) (100:Int))) (0:Int)),⟨(0:Int),(0:Int)⟩,⟨pick (intOf (((List.map I.enc l).getD i.toNat []).headD PV.nil)) (256:Int),pick (IntKind.i64.wrap ((intOf (((List.map I.enc l).getD i.toNat []).headD PV.nil)).tdiv (7:Int))) (256:Int),pick (IntKind.i64.wrap ((intOf (((List.map I.enc l).getD i.toNat []).headD PV.nil)).tdiv (13:Int))) (256:Int)⟩⟩])),by simp only[U3,Zjy,QR_,QE_,QN_];rfl, ?_, ?_, ?_⟩⟩⟩⟩⟩) (fun h2=>⟨?r16,⟨?r15,⟨?r14,⟨?r13,⟨?r12,⟨?r11,⟨?r10,⟨?r9,⟨?r8,⟨?r7,⟨?r6,⟨?r5,⟨?r4,.inl ⟨rfl,(IntKind.i64.wrap (i+(5:Int)),l,(out++[⟨(1:Int),(hdec (1:Nat) (IntKind.i64.wrap (pick (intOf (((List.map I.enc l).getD (IntKind.i64.wrap (i+(1:Int))).toNat []).headD PV.nil)) (600:Int) - (300:Int))) (1:Int)),(hdec (1:Nat) (IntKind.i64.wrap (pick (intOf (((List.map I.enc l).getD (IntKind.i64.wrap (i+(2:Int))).toNat []).headD PV.nil)) (600:Int) - (300:Int))) (1:Int)),(hdec (0:Nat) (IntKind.i64.wrap ((50:Int)+pick (intOf (((List.map I.enc l).getD (IntKind.i64.wrap (i+(3:Int))).toNat []).headD PV.nil)) (70:Int))) (0:Int)),(hdec (1:Nat) (IntKind.i64.wrap ((10:Int)+pick (intOf (((List.map I.enc l).getD (IntKind.i64.wrap (i+(4:Int))).toNat []).headD PV.nil)) (300:Int))) (1:Int)),⟨pick (intOf (((List.map I.enc l).getD i.toNat []).headD PV.nil)) (256:Int),pick (IntKind.i64.wrap ((intOf (((List.map I.enc l).getD i.toNat []).headD PV.nil)).tdiv (7:Int))) (256:Int),pick (IntKind.i64.wrap ((intOf (((List.map I.enc l).getD i.toNat []).headD PV.nil)).tdiv (13:Int))) (256:Int)⟩⟩])),by simp only[U3,Zjy,QR_,QE_,QN_];rfl, ?_, ?_, ?_⟩⟩⟩⟩⟩⟩⟩⟩⟩⟩⟩⟩⟩⟩)⟩⟩⟩⟩⟩⟩⟩⟩⟩⟩) (fun h1=> .inr ⟨by simp,_,rfl, ?_⟩)) (fun h0=> .inr ⟨by simp,_,rfl, ?_⟩)
  case r0|r1|r2|r3|r4|r5|r6|r7|r8|r9|r10|r11|r12|r13|r14|r15|r16|r17|r18|r19|r20|r21|r22|r23|r24|r25|r26=>first | rfl | (simp only[Zm,dI,dIv];done) | (rw[dI];done) | skip;(try simp only[Qk_] at *);first | (simp only[dI];done) | omega | (exact Z8 (fun _=>rfl) (by first | omega | (rw[Zg (by constructor<;>omega)];omega)) (by simp only[Qc_,Zg (show Fit (i+4) by constructor<;>omega)] at h0;first | omega | (rw[Zg (by constructor<;>omega)];omega))) | (exact ⟨by omega,by omega,Xk (Xb (e:=Shape.enc) (fun _=>rfl) _) rfl⟩)
  all_goals try dsimp only[U3]
  all_goals obtain ⟨⟨a1,a2,a3⟩,a4⟩:=hx
  all_goals (try simp only[ZnQ,Qk_,Qc_,Qe_,Zg (show Fit (i+4) by constructor<;>omega)] at h0 h1 h2)
  all_goals (try simp only[ZnQ,Qk_,Qc_,Qe_,Zg (show Fit (i+4) by constructor<;>omega)] at h0 h1)
  all_goals (try simp only[ZnQ,Qk_,Qc_,Qe_,Zg (show Fit (i+4) by constructor<;>omega)] at h0)
  all_goals (try simp only[ZnQ])
  ·rw[Zg (show Fit (i+5) by constructor<;>omega)]
   simp only[U3,Zbb,Qx_,Qs_,Q1_]
   exact ⟨⟨by omega,by omega,a3⟩,by omega⟩
  ·rw[Zg (show Fit (i+5) by constructor<;>omega)];omega
  ·rw[Zg (show Fit (i+5) by constructor<;>omega)]
   have e1:((29 - i) / 5).toNat=((29 - (i+5)) / 5).toNat+1:=by omega
   have e2:Wn (((29 - (i+5)) / 5).toNat+1) l i=Zij l i::Wn ((29 - (i+5)) / 5).toNat l (i+5):=by
    simp only[Wn]
    rw[show (decide (i+4 < ↑l.length)&&decide (i < 25))=true by simp[h0,h1]];rfl
   simp only[U3,Zba]
   rw[e1,e2]
   simp only[Zij,Zg (show Fit (i+4) by constructor<;>omega),h2,Qb_,Qd_]
   intro e s h
   rw[QB_,List.singleton_append] at h
   exact h
  ·rw[Zg (show Fit (i+5) by constructor<;>omega)]
   simp only[U3,Zbb,Qx_,Qs_,Q1_]
   exact ⟨⟨by omega,by omega,a3⟩,by omega⟩
  ·rw[Zg (show Fit (i+5) by constructor<;>omega)];omega
  ·rw[Zg (show Fit (i+5) by constructor<;>omega)]
   have e1:((29 - i) / 5).toNat=((29 - (i+5)) / 5).toNat+1:=by omega
   have e2:Wn (((29 - (i+5)) / 5).toNat+1) l i=Zij l i::Wn ((29 - (i+5)) / 5).toNat l (i+5):=by
    simp only[Wn]
    rw[show (decide (i+4 < ↑l.length)&&decide (i < 25))=true by simp[h0,h1]];rfl
   simp only[U3,Zba]
   rw[e1,e2]
   simp only[Zij,Zg (show Fit (i+4) by constructor<;>omega),h2,Qb_,Qd_]
   intro e s h
   rw[QB_,List.singleton_append] at h
   exact h
  ·have hz:Wn ((29 - i) / 5).toNat l i=[]:=by
    cases hk:((29 - i) / 5).toNat with
    | zero=>rfl
    | succ k=>
      simp only[Wn]
      rw[show (decide (i+4 < ↑l.length)&&decide (i < 25))=false by simp;intro _;omega];rfl
   exact ⟨by trivial,by simp only[U3,Zba];rw[hz,QI_]⟩
  ·have hz:Wn ((29 - i) / 5).toNat l i=[]:=by
    cases hk:((29 - i) / 5).toNat with
    | zero=>rfl
    | succ k=>
      simp only[Wn]
      rw[show (decide (i+4 < ↑l.length)&&decide (i < 25))=false by simp;intro h;omega];rfl
   exact ⟨by trivial,by simp only[U3,Zba];rw[hz,QI_]⟩
theorem Z2Z:ZF Tryz.prog [(4,Zjz)] Tryz.f11:=ZG (l:=[Zn Tryz.f11 0]) (by kernel_rfl) (Zz (i:=4) (by kernel_rfl) rfl ZzA (Zr))
theorem ZEy:ZvK Tryz.prog 11 e11 58:=Z07<|Zwl fun l=>ZAI fun hp0=>by
 refine ZsF Zk Ztd Z4 Z3 Z7 (n:=2000) (LS:=[(4,Zjz)]) (fn:=Tryz.f11) rfl Z2Z ?_
 refine sxT (fun Q=>((List.map I.enc l=List.map I.enc (Zc I.dec (List.map I.enc l)))∧(([]=List.map Shape.enc (Zc Shape.dec []))∧((Zbb (0:Int) (Zc I.dec (List.map I.enc l)) (Zc Shape.dec []))∧Q (PV.lst (List.map Shape.enc (Zc Shape.dec []++Wn (5:Nat) (Zc I.dec (List.map I.enc l)) (0:Int)))))))) (fun _=>by kernel_rfl) ?_
 delta Qn
 refine ⟨?r1,⟨?r0,⟨?_, ?_⟩⟩⟩
 case r0|r1=>first | rfl | (simp only[Zm,dI,dIv];done)
 all_goals simp only[dI]
 ·exact ⟨⟨by omega,by omega,hp0⟩,rfl⟩
 ·rfl
theorem ZC6:Zh Tryz.prog 11 e11:=fun args r ps h hp=>ZvL (ZEy args r ps h hp)
def Z9Y:=Yy [(64,e64),(131,ZAN)]
def ZjM(l:List Shape):=List.map Shape.enc l
def Zhy(k:Int)(l:List Shape)(r:Ray):=hit (Shape.dec ((ZjM l).getD k.toNat [])) r
def Z3a(k:Int)(l:List Shape)(all:List Iv)(r:Ray):=(0:Nat) < (1:Nat)∧((List.map Iv.enc all).length+(1:Nat))* (24:Nat)≤(140737488355328:Nat)∧Lens (3:Nat) (List.map Iv.enc all++[(eIv (Zhy k l r).fst)])
def Zuz(k:Int):=vI (IntKind.i64.wrap (k+(1:Int)))
def Zu0:=[(Loc.t (nat_lit 9),nat_lit 26)]
def Z3b(k:Int)(n:Int)(l:List Shape)(all:List Iv)(z:Iv)(r:Ray)(Q:Ex→Option St→Prop):Prop:=(Z3a k l all r)∧Q (Ex.normal) (some ⟨80,[(20,AV.p (Zuz k)),(19,pI n),(18,AV.p (PV.lst (ZjM l))),(9,AV.p (PV.lst (List.map Iv.enc all++[(eIv (Zhy k l r).fst)]))),(7,pI k),(8,AV.ptr 8 0),(5,AV.ptr 5 0),(3,AV.ptr 3 0)],[(8,(eIv (Zhy k l r).fst)),(5,(eIv z)),(3,(Jp r))],[],Zu0,[]⟩)
theorem Zoy:CSOk Tryz.prog Z9Y:=Za Xx<|Za ZBw<|Ze
theorem Z3c:Ye Tryz.prog (Zn Tryz.f102 0) ZsM:=by
 refine lsG Zk.Γ (Zw Zk Zoy Z4 Z3 Z7 (LS:=[]) (ZM (l:=[]) (by kernel_rfl) Zr) (n:=2000) (U8 Zhn) (U8 ZeB) (fun x e s=>((U8 Zcz x=true∧e= .ret∧s=U8 Zlk x)∨(U8 Zcz x=false∧e= .exit 0∧s=U8 Zlj x))) (fun x=>(x.2.1 - x.1).toNat) ZsL Z1W Z1X (fun x hx=>?_)) cv8 (fun _=>rfl) (fun _ h=>h) (fun _ _ _ _ h f=>fC h f fE fE)
 ·obtain ⟨k,n,l,all,best,at1,z,r⟩:=x
  simp only[U8,ZeB] at hx
  refine sxT (fun Q=>(bif decide (k < n) then (((0:Int)≤k∧(ZjM l)[k.toNat]?=some (ZJ [vI 0,vI 0,vI 0,vI 0,vI 0,vI 0,vI 0,vI 0,vI 0,vI 0,vI 0,vI 0] ((ZjM l).getD k.toNat [])))∧(bif (Zhy k l r).snd==(0:Int) then Q (Ex.ret) (some ⟨80,[(4,AV.p (vI (-1))),(5,AV.ptr 5 0),(6,pI 0)],[(5,[vI 0,vI 0,vB true])],[],[],[]⟩) else (bif (Zhy k l r).snd==(2:Int) then Q (Ex.normal) (some ⟨80,[(20,AV.p (Zuz k)),(19,pI n),(18,AV.p (PV.lst (ZjM l))),(9,AV.p (PV.lst (List.map Iv.enc all))),(7,pI best),(8,AV.ptr 8 0),(5,AV.ptr 5 0),(3,AV.ptr 3 0)],[(8,(eIv at1)),(5,(eIv z)),(3,(Jp r))],[],Zu0,[]⟩) else (bif decide (best < (0:Int)) then (Z3b k n l all z r Q) else (bif decide ((Zhy k l r).fst.hi < at1.hi) then (Z3b k n l all z r Q) else ((Z3a k l all r)∧Q (Ex.normal) (some ⟨80,[(20,AV.p (Zuz k)),(19,pI n),(18,AV.p (PV.lst (ZjM l))),(9,AV.p (PV.lst (List.map Iv.enc all++[(eIv (Zhy k l r).fst)]))),(7,pI best),(8,AV.ptr 8 0),(5,AV.ptr 5 0),(3,AV.ptr 3 0)],[(8,(eIv at1)),(5,(eIv z)),(3,(Jp r))],[],Zu0,[]⟩))))))) else Q (Ex.exit (0:Nat)) (some ⟨80,[(5,AV.ptr 5 0),(8,AV.ptr 8 0),(7,pI best),(9,AV.p (PV.lst (List.map Iv.enc all)))],[(8,(eIv at1)),(5,(eIv z))],[],[],[]⟩))) (fun _=>by kernel_rfl) ?_
  delta Z3b Zhy Z3a Zu0 Zuz ZjM eIv Jp vI vB pI
  refine Zb (fun h0=>⟨?r3,Zb (fun h1=> .inr ⟨by simp,_,rfl, ?_⟩) (fun h1=>Zb (fun h2=> .inl ⟨rfl,(IntKind.i64.wrap (k+(1:Int)),n,l,all,best,at1,z,r),rfl, ?_, ?_, ?_⟩) (fun h2=>Zb (fun h3=>⟨?r0,.inl ⟨rfl,(IntKind.i64.wrap (k+(1:Int)),n,l,(all++[(hit (Shape.dec ((List.map Shape.enc l).getD k.toNat [])) r).fst]),k,(hit (Shape.dec ((List.map Shape.enc l).getD k.toNat [])) r).fst,z,r),by simp only[U8,Zhn,QR_,QE_,QN_];rfl, ?_, ?_, ?_⟩⟩) (fun h3=>Zb (fun h4=>⟨?r1,.inl ⟨rfl,(IntKind.i64.wrap (k+(1:Int)),n,l,(all++[(hit (Shape.dec ((List.map Shape.enc l).getD k.toNat [])) r).fst]),k,(hit (Shape.dec ((List.map Shape.enc l).getD k.toNat [])) r).fst,z,r),by simp only[U8,Zhn,QR_,QE_,QN_];rfl, ?_, ?_, ?_⟩⟩) (fun h4=>⟨?r2,.inl ⟨rfl,(IntKind.i64.wrap (k+(1:Int)),n,l,(all++[(hit (Shape.dec ((List.map Shape.enc l).getD k.toNat [])) r).fst]),best,at1,z,r),by simp only[U8,Zhn,QR_,QE_,QN_];rfl, ?_, ?_, ?_⟩⟩))))⟩) (fun h0=> .inr ⟨by simp,_,rfl, ?_⟩)
  case r0|r1|r2|r3=>first | rfl | (simp only[Zm,dI,dIv];done) | skip;(try simp only[Qk_] at *);(try simp only[Qc_] at h0);first | omega | (exact Z8 (fun _=>rfl) (by omega) (by omega)) | (exact ⟨by omega,by omega,Xk (Xb (e:=Iv.enc) (fun _=>rfl) _) rfl⟩)
  all_goals try dsimp only[U8]
  all_goals obtain ⟨⟨a1,a2,a3,a4⟩,a5⟩:=hx
  all_goals (try simp only[Qc_,Qe_] at h0)
  all_goals first | (have hk:k < n:=h0;obtain ⟨x,t,e1,e2,e3⟩:=Yf (l:=l) a1 (by omega);(try simp only[Yh e3,Z8O] at *)) | skip
  all_goals try simp only[U8,ZeB,Zcz,Zlk,Zlj]
  all_goals try rw[Zg (show Fit (k+1) by constructor<;>omega)]
  ·exact .inl ⟨by simp only[unsure,e1,QU_,h1,Q4_],by trivial,rfl⟩
  ·exact ⟨⟨by omega,by omega,a3,a4⟩,by omega⟩
  ·omega
  ·simp only[unsure,e1,e2,QU_,h1,Qw_,YF,h2,Qb_]
   exact fun e s h=>h
  ·simp only[Qx_,Qs_,Q1_];exact ⟨⟨by omega,by omega,a3,a4⟩,by omega⟩
  ·omega
  ·simp only[unsure,e1,e2,QU_,h1,Qw_,YF,h2,h3,Q4_,Qb_,Qd_]
   exact fun e s h=>h
  ·simp only[Qx_,Qs_,Q1_];exact ⟨⟨by omega,by omega,a3,a4⟩,by omega⟩
  ·omega
  ·simp only[unsure,e1,e2,QU_,h1,Qw_,YF,h2,h3,h4,Qw_,Qb_,Qd_]
   exact fun e s h=>h
  ·simp only[Qx_,Qs_,Q1_];exact ⟨⟨by omega,by omega,a3,a4⟩,by omega⟩
  ·omega
  ·simp only[unsure,e1,e2,QU_,h1,Qw_,YF,h2,h3,h4,Qw_,Qd_]
   exact fun e s h=>h
  ·exact .inr ⟨by rw[Q0_ (by omega)];rfl,by trivial,by rw[Q0_ (by omega)];rfl⟩
theorem ZzB:Ye Tryz.prog (Zn Tryz.f102 1) ZpC:=by
 refine lsG Zk.Γ (Zw Zk Zoy Z4 Z3 Z7 (LS:=[]) (ZM (l:=[]) (by kernel_rfl) Zr) (n:=2000) (U8 Z1Y) (U8 ZcW) (fun x e s=>(e= .exit 3∧s=U8 Zj1 x)) (fun x=>(x.2.1 - x.1).toNat) ZpB Zzs Zzt (fun x hx=>?_)) cv8 (fun _=>rfl) (fun _ h=>h) (fun _ _ _ _ h f=>fE h f)
 ·obtain ⟨i,n,all,near,best,al2,at1,z⟩:=x
  simp only[U8,ZcW] at hx
  refine sxT (fun Q=>(bif decide (i < n) then (((0:Int)≤i∧(List.map Iv.enc all)[i.toNat]?=some (ZJ [vI 0,vI 0,vB false] ((List.map Iv.enc all).getD i.toNat [])))∧(bif decide (at1.hi < intOf (((List.map Iv.enc all).getD i.toNat []).headD PV.nil)) then Q (Ex.normal) (some ⟨80,[(60,AV.p (vI (IntKind.i64.wrap (i+(1:Int))))),(59,pI n),(58,AV.p (PV.lst (List.map Iv.enc all))),(14,AV.p (vI (IntKind.i64.wrap (near+(1:Int))))),(5,AV.ptr 5 0),(7,pI best),(8,AV.ptr 8 0),(9,AV.p (PV.lst (List.map Iv.enc al2)))],[(8,(eIv at1)),(5,(eIv z))],[],[],[]⟩) else Q (Ex.normal) (some ⟨80,[(60,AV.p (vI (IntKind.i64.wrap (i+(1:Int))))),(59,pI n),(58,AV.p (PV.lst (List.map Iv.enc all))),(14,pI near),(5,AV.ptr 5 0),(7,pI best),(8,AV.ptr 8 0),(9,AV.p (PV.lst (List.map Iv.enc al2)))],[(8,(eIv at1)),(5,(eIv z))],[],[],[]⟩))) else Q (Ex.exit (3:Nat)) (some ⟨80,[(5,AV.ptr 5 0),(7,pI best),(8,AV.ptr 8 0),(9,AV.p (PV.lst (List.map Iv.enc al2))),(14,pI near)],[(8,(eIv at1)),(5,(eIv z))],[],[],[]⟩))) (fun _=>by kernel_rfl) ?_
  delta eIv vI vB pI
  refine Zb (fun h0=>⟨?r0,Zb (fun h1=> .inl ⟨rfl,(IntKind.i64.wrap (i+(1:Int)),n,all,IntKind.i64.wrap (near+(1:Int)),best,al2,at1,z),rfl, ?_, ?_, ?_⟩) (fun h1=> .inl ⟨rfl,(IntKind.i64.wrap (i+(1:Int)),n,all,near,best,al2,at1,z),rfl, ?_, ?_, ?_⟩)⟩) (fun h0=> .inr ⟨by simp,_,rfl, ?_⟩)
  case r0=>first | rfl | (simp only[Zm,dI,dIv];done) | skip;(try simp only[Qk_] at *);(try simp only[Qc_] at h0);first | omega | (exact Z8 (fun _=>rfl) (by omega) (by omega))
  all_goals try dsimp only[U8]
  all_goals obtain ⟨⟨a1,a2,a3,a4,a5,a6⟩,a7⟩:=hx
  all_goals (try simp only[Qc_,Qe_] at h0)
  all_goals first | (have hk:i < n:=h0;obtain ⟨x,t,e1,e2,e3⟩:=Yf (l:=all) a1 (by omega);(try simp only[Yh e3,Z1C] at *)) | skip
  all_goals try simp only[U8,ZcW,Zj1]
  all_goals try rw[Zg (show Fit (i+1) by constructor<;>omega)]
  all_goals try rw[Zg (show Fit (near+1) by constructor<;>omega)]
  ·exact ⟨⟨by omega,by omega,a3,a4,by omega,by omega⟩,a7⟩
  ·omega
  ·have h1':decide (at1.hi < x.lo)=true:=h1
   simp only[e1,e2,behind,h1',Qb_]
   rw[show near+(behind at1 t+1)=near+1+behind at1 t by omega]
   exact fun e s h=>h
  ·exact ⟨⟨by omega,by omega,a3,a4,by omega,by omega⟩,a7⟩
  ·omega
  ·have h1':decide (at1.hi < x.lo)=false:=h1
   simp only[e1,e2,behind,h1',Qd_]
   exact fun e s h=>h
  ·exact ⟨by trivial,by rw[Q0_ (by omega)];simp only[behind,Int.add_zero]⟩
theorem Z6g:ZF Tryz.prog [(5,ZsM),(19,ZpC)] Tryz.f102:=ZG (l:=[Zn Tryz.f102 0,Zn Tryz.f102 1]) (by kernel_rfl) (Zz (i:=5) (by kernel_rfl) rfl Z3c (Zz (i:=19) (by kernel_rfl) rfl ZzB (Zr)))
def ZpV(l:List Shape):=Zc Shape.dec (List.map Shape.enc l)
def Zdo(l:List Shape)(r:Ray):=YF r (List.drop (0:Nat) (ZpV l)) (0:Int) (-1:Int) none' (Zc Iv.dec [])
def ZjN(l:List Shape)(r:Ray):=Zc Iv.dec (List.map Iv.enc (Zdo l r).snd.snd)
def ZpW:=Iv.mk (0:Int) (0:Int) false
def ZwL:=PV.tup [vI (-1),PV.agg [vI 0,vI 0,vB true],vI 0]
theorem ZB1:Zh Tryz.prog 102 ZDJ:=Zi<|Zf fun l=>Zf fun r=>EZ1 fun hp0=>by
 refine cfL Zoy Z6g rfl ?_
 refine sxT (fun Q=>((List.map Shape.enc l=List.map Shape.enc (ZpV l))∧(([]=List.map Iv.enc (Zc Iv.dec []))∧((ZeB (0:Int) (↑(List.map Shape.enc l).length) (ZpV l) (Zc Iv.dec []) (-1:Int) none' ZpW r)∧(bif Zcz (0:Int) (↑(List.map Shape.enc l).length) (ZpV l) (Zc Iv.dec []) (-1:Int) none' ZpW r then Q ZwL else (bif decide ((Zdo l r).fst < (0:Int)) then Q (PV.tup [vI (-1),PV.agg [vI 0,vI 0,vB true],vI 2]) else ((List.map Iv.enc (Zdo l r).snd.snd=List.map Iv.enc (ZjN l r))∧((List.map Iv.enc (Zdo l r).snd.snd=List.map Iv.enc (ZjN l r))∧((ZcW (0:Int) (↑(List.map Iv.enc (Zdo l r).snd.snd).length) (ZjN l r) (0:Int) (Zdo l r).fst (ZjN l r) (Zdo l r).snd.fst ZpW)∧(bif decide (IntKind.i64.wrap ((0:Int)+behind (Zdo l r).snd.fst (List.drop (0:Nat) (ZjN l r))+(1:Int)) < ↑(List.map Iv.enc (ZjN l r)).length) then Q ZwL else Q (PV.tup [vI (Zdo l r).fst,PV.agg (eIv (Zdo l r).snd.fst),vI 1]))))))))))) (fun _=>by kernel_rfl) ?_
 delta Qn Zdo ZjN ZpV ZpW ZwL eIv vI vB
 refine ⟨?r3,⟨?r2,⟨?_,Zb (fun h0=>?_) (fun h0=>Zb (fun h1=>?_) (fun h1=>⟨?r1,⟨?r0,⟨?_,Zb (fun h2=>?_) (fun h2=>?_)⟩⟩⟩))⟩⟩⟩
 case r0|r1|r2|r3=>first | rfl | (simp only[Zm,dI,dIv];done)
 all_goals simp only[Zm,dIv,Qk_,QO_,QG_,Int.zero_add,Zcz,show Zc Iv.dec []=[] from rfl] at *
 ·exact ⟨⟨by omega,by omega,rfl,by omega⟩,by simp⟩
 ·simp only[nearest,h0,Qb_];rfl
 ·simp only[nearest,h0,h1,Qb_,Qd_];rfl
 ·have hl:=ZcQ r l 0 (-1) none' []
  simp only[Q1_] at hl
  exact ⟨⟨by omega,by omega,rfl,by omega,by omega,by omega⟩,rfl⟩
 all_goals have hl:=ZcQ r l 0 (-1) none' []
 all_goals have hb:=ZkU (YF r l 0 (-1) none' []).2.1 (YF r l 0 (-1) none' []).2.2
 all_goals simp only[Q1_] at hl
 all_goals rw[Zg (by constructor<;>omega)] at h2
 ·simp only[nearest,h0,h1,h2,Qb_,Qd_];rfl
 ·simp only[nearest,h0,h1,h2,Qb_,Qd_];rfl
def Z9Z:=Yy [(112,ZAO),(74,e74)]
def ZjO(l:List Shape):=List.map Shape.enc l
def ZpX(i:Int)(l:List Shape)(r:Ray):=hit (Shape.dec ((ZjO l).getD i.toNat [])) r
def Z3d:=[(Loc.t (nat_lit 8),nat_lit 26),(Loc.t (nat_lit 7),nat_lit 3)]
theorem ZjP:CSOk Tryz.prog Z9Z:=Za ZBx<|Za XF<|Ze
theorem Z3e:Ye Tryz.prog (Zn Tryz.f78 0) ZsP:=by
 refine lsG Zk.Γ (Zw Zk ZjP Z4 Z3 Z7 (LS:=[]) (ZM (l:=[]) (by kernel_rfl) Zr) (n:=2000) (U6 ZsN) (U6 ZeD) (fun x e s=>((U6 Zc0 x=true∧e= .ret∧s=U6 Zlm x)∨(U6 Zc0 x=false∧e= .exit 0∧s=U6 Zll x))) (fun x=>(x.2.2.2.1.length - x.1).toNat) ZsO Z1Z Z2a (fun x hx=>?_)) cv6 (fun _=>rfl) (fun _ h=>h) (fun _ _ _ _ h f=>fC h f fE fE)
 ·obtain ⟨i,ts,ats,l,z,r⟩:=x
  simp only[U6,ZeD] at hx
  refine sxT (fun Q=>(bif decide (i < ↑(ZjO l).length) then (((0:Int)≤i∧(ZjO l)[i.toNat]?=some (ZJ [vI 0,vI 0,vI 0,vI 0,vI 0,vI 0,vI 0,vI 0,vI 0,vI 0,vI 0,vI 0] ((ZjO l).getD i.toNat [])))∧(bif (ZpX i l r).snd==(0:Int) then Q (Ex.ret) (some ⟨88,[(4,AV.p (vI (-1))),(5,AV.ptr 5 0),(6,pI 0)],[(5,[vI 0,vI 0,vB true])],[],[],[]⟩) else (bif (ZpX i l r).snd==(1:Int) then (((0:Nat) < (1:Nat)∧((List.map I.enc ats).length+(1:Nat))* (8:Nat)≤(140737488355328:Nat)∧Lens (1:Nat) (List.map I.enc ats++[[vI i]]))∧(((0:Nat) < (1:Nat)∧((List.map Iv.enc ts).length+(1:Nat))* (24:Nat)≤(140737488355328:Nat)∧Lens (3:Nat) (List.map Iv.enc ts++[(eIv (ZpX i l r).fst)]))∧Q (Ex.normal) (some ⟨88,[(9,AV.p (vI (IntKind.i64.wrap (i+(1:Int))))),(8,AV.p (PV.lst (List.map Iv.enc ts++[(eIv (ZpX i l r).fst)]))),(7,AV.p (PV.lst (List.map I.enc ats++[[vI i]]))),(5,AV.ptr 5 0),(3,AV.ptr 3 0),(0,AV.p (PV.lst (ZjO l)))],[(5,(eIv z)),(3,(Jp r))],[],Z3d,[]⟩))) else Q (Ex.normal) (some ⟨88,[(9,AV.p (vI (IntKind.i64.wrap (i+(1:Int))))),(8,AV.p (PV.lst (List.map Iv.enc ts))),(7,AV.p (PV.lst (List.map I.enc ats))),(5,AV.ptr 5 0),(3,AV.ptr 3 0),(0,AV.p (PV.lst (ZjO l)))],[(5,(eIv z)),(3,(Jp r))],[],Z3d,[]⟩)))) else Q (Ex.exit (0:Nat)) (some ⟨88,[(5,AV.ptr 5 0),(8,AV.p (PV.lst (List.map Iv.enc ts))),(7,AV.p (PV.lst (List.map I.enc ats)))],[(5,(eIv z))],[],[],[]⟩))) (fun _=>by kernel_rfl) ?_
  delta ZpX Z3d ZjO eIv Jp vI vB pI
  refine Zb (fun h0=>⟨?r2,Zb (fun h1=> .inr ⟨by simp,_,rfl, ?_⟩) (fun h1=>Zb (fun h2=>⟨?r1,⟨?r0,.inl ⟨rfl,(IntKind.i64.wrap (i+(1:Int)),(ts++[(hit (Shape.dec ((List.map Shape.enc l).getD i.toNat [])) r).fst]),(ats++[⟨i⟩]),l,z,r),by simp only[U6,ZsN,QR_,QE_,QN_];rfl, ?_, ?_, ?_⟩⟩⟩) (fun h2=> .inl ⟨rfl,(IntKind.i64.wrap (i+(1:Int)),ts,ats,l,z,r),rfl, ?_, ?_, ?_⟩))⟩) (fun h0=> .inr ⟨by simp,_,rfl, ?_⟩)
  case r0|r1|r2=>first | rfl | (simp only[Zm,dI,dIv];done) | skip;(try simp only[Qk_,dI,dIv] at *);(try simp only[Qc_] at h0);first | omega | (exact Z8 (fun _=>rfl) (by omega) (by omega)) | (exact ⟨by omega,by omega,Xk (Xb (e:=Iv.enc) (fun _=>rfl) _) rfl⟩) | (exact ⟨by omega,by omega,Xk (Xb (e:=I.enc) (fun _=>rfl) _) rfl⟩)
  all_goals try dsimp only[U6]
  all_goals obtain ⟨⟨a1,a2,a3⟩,a4,a5⟩:=hx
  all_goals (try simp only[Qc_,Qe_,Qk_] at h0)
  all_goals first | (have hk:i < l.length:=h0;obtain ⟨x,t,e1,e2,e3⟩:=Yf (l:=l) a1 (by omega);(try simp only[Yh e3,Z8O] at *)) | skip
  all_goals try simp only[U6,ZeD,Zc0,Zlm,Zll]
  all_goals try rw[Zg (show Fit (i+1) by constructor<;>omega)]
  ·exact .inl ⟨by simp only[unsure,e1,QU_,h1,Q4_],by trivial,rfl⟩
  ·simp only[Qx_,Qs_,Q1_];exact ⟨⟨by omega,by omega,a3⟩,by omega,by omega⟩
  ·omega
  ·simp only[unsure,e1,e2,QU_,h1,Qw_,XU,JJ,h2,Qb_]
   intro e s h
   simp only[QB_,QS_,QJ_] at h
   exact h
  ·exact ⟨⟨by omega,by omega,a3⟩,by omega,by omega⟩
  ·omega
  ·simp only[unsure,e1,e2,QU_,h1,Qw_,XU,JJ,h2,Qd_]
   exact fun e s h=>h
  ·exact .inr ⟨by rw[Q0_ (by omega)];rfl,by trivial,by rw[Q0_ (by omega)];simp only[XU,JJ,QI_]⟩
def Zdp(ts:List Iv):=List.map Iv.enc ts
def Zu1(k:Int):=vI (IntKind.i64.wrap (k+(1:Int)))
theorem Zn4:Ye Tryz.prog (Zn Tryz.f78 2) Zj4:=by
 refine lsG Zk.Γ (Zw Zk ZjP Z4 Z3 Z7 (LS:=[]) (ZM (l:=[]) (by kernel_rfl) Zr) (n:=2000) (U6 Z2b) (U6 Zbc) (fun x e s=>(e= .exit 4∧s=U6 Zj3 x)) (fun x=>(x.2.2.2.2.1.length - x.1).toNat) ZpD Zzu Zzv (fun x hx=>?_)) cv6 (fun _=>rfl) (fun _ h=>h) (fun _ _ _ _ h f=>fE h f)
 ·obtain ⟨k,ts,i,first,ats,z⟩:=x
  simp only[U6,Zbc] at hx
  refine sxT (fun Q=>(bif decide (k < ↑(List.map I.enc ats).length) then (bif first then (bif k==i then Q (Ex.normal) (some ⟨88,[(14,AV.p (Zu1 k)),(8,AV.p (PV.lst (Zdp ts))),(12,pI i),(13,AV.p (vB true)),(5,AV.ptr 5 0),(7,AV.p (PV.lst (List.map I.enc ats)))],[(5,(eIv z))],[],[],[]⟩) else (((0:Int)≤i∧(Zdp ts)[i.toNat]?=some (ZJ [vI 0,vI 0,vB false] ((Zdp ts).getD i.toNat [])))∧(((0:Int)≤k∧(Zdp ts)[k.toNat]?=some (ZJ [vI 0,vI 0,vB false] ((Zdp ts).getD k.toNat [])))∧Q (Ex.normal) (some ⟨88,[(14,AV.p (Zu1 k)),(8,AV.p (PV.lst (Zdp ts))),(12,pI i),(13,AV.p (vB (decide (intOf (((Zdp ts).getD i.toNat []).tail.headD PV.nil) < intOf (((Zdp ts).getD k.toNat []).headD PV.nil))))),(5,AV.ptr 5 0),(7,AV.p (PV.lst (List.map I.enc ats)))],[(5,(eIv z))],[],[],[]⟩)))) else Q (Ex.normal) (some ⟨88,[(14,AV.p (Zu1 k)),(8,AV.p (PV.lst (Zdp ts))),(12,pI i),(13,AV.p (vB false)),(5,AV.ptr 5 0),(7,AV.p (PV.lst (List.map I.enc ats)))],[(5,(eIv z))],[],[],[]⟩)) else Q (Ex.exit (4:Nat)) (some ⟨88,[(5,AV.ptr 5 0),(12,pI i),(8,AV.p (PV.lst (Zdp ts))),(7,AV.p (PV.lst (List.map I.enc ats))),(13,AV.p (vB first))],[(5,(eIv z))],[],[],[]⟩))) (fun _=>by kernel_rfl) ?_
  delta Zdp Zu1 eIv vI vB pI
  refine Zb (fun h0=>Zb (fun h1=>Zb (fun h2=> .inl ⟨rfl,(IntKind.i64.wrap (k+(1:Int)),ts,i,true,ats,z),rfl, ?_, ?_, ?_⟩) (fun h2=>⟨?r1,⟨?r0,.inl ⟨rfl,(IntKind.i64.wrap (k+(1:Int)),ts,i,decide (intOf (((List.map Iv.enc ts).getD i.toNat []).tail.headD PV.nil) < intOf (((List.map Iv.enc ts).getD k.toNat []).headD PV.nil)),ats,z),rfl, ?_, ?_, ?_⟩⟩⟩)) (fun h1=> .inl ⟨rfl,(IntKind.i64.wrap (k+(1:Int)),ts,i,false,ats,z),rfl, ?_, ?_, ?_⟩)) (fun h0=> .inr ⟨by simp,_,rfl, ?_⟩)
  case r0|r1=>first | rfl | (simp only[Zm,dI,dIv];done) | skip;(try simp only[Qk_,dI,dIv] at *);(try simp only[Qc_] at h0);first | omega | (exact Z8 (fun _=>rfl) (by omega) (by omega))
  all_goals try dsimp only[U6]
  all_goals obtain ⟨⟨a1,a2,a3,a4⟩,a5,a6⟩:=hx
  all_goals (try simp only[Qc_,Qe_,Qk_] at h0)
  all_goals first | (have hk:k < ats.length:=h0;obtain ⟨x,t,e1,e2,e3⟩:=Yf (l:=ts) a3 (by omega);obtain ⟨y,_,_,_,e4⟩:=Yf (l:=ts) a1 (by omega);(try simp only[Yh e3,Yh e4,Z1C] at *)) | skip
  all_goals try simp only[U6,Zbc,Zj3]
  all_goals try rw[Zg (show Fit (k+1) by constructor<;>omega)]
  ·exact ⟨⟨by omega,by omega,by omega,by omega⟩,a5,a6⟩
  ·omega
  ·simp only[h1,h2,e1,e2,XQ,Qp_,Q4_]
   exact fun e s h=>h
  ·exact ⟨⟨by omega,by omega,by omega,by omega⟩,a5,a6⟩
  ·omega
  ·have g:ts.getD i.toNat none'=y:=by rw[Q7_,e4];rfl
   simp only[h1,h2,e1,e2,g,XQ,Qp_,Qw_]
   exact fun e s h=>h
  ·exact ⟨⟨by omega,by omega,by omega,by omega⟩,a5,a6⟩
  ·omega
  ·simp only[h1,Ql_]
   exact fun e s h=>h
  ·exact ⟨by trivial,by rw[Q0_ (by omega)];simp only[XQ,Qr_]⟩
def ZmV(ts:List Iv):=Zc Iv.dec (List.map Iv.enc ts)
def ZpY(ats:List I):=List.map I.enc (Zc I.dec (List.map I.enc ats))
def ZjQ(ts:List Iv):=List.map Iv.enc (ZmV ts)
theorem ZzC:Ye Tryz.prog (Zn Tryz.f78 1) ZpF:=by
 refine lsG Zk.Γ (Zw Zk ZjP Z4 Z3 Z7 (LS:=[(20,Zj4)]) (ZM (l:=[Zn Tryz.f78 2]) (by kernel_rfl) (Zz (i:=20) (by kernel_rfl) rfl Zn4 (Zr))) (n:=2000) (U4 Z2c) (U4 ZcY) (fun x e s=>((U4 Zbd x=true∧e= .ret∧s=U4 Zj6 x)∨(U4 Zbd x=false∧e= .exit 2∧s=U4 Zj5 x))) (fun x=>(x.2.2.1.length - x.2.1).toNat) ZpE Zzw Zzx (fun x hx=>?_)) cv4 (fun _=>rfl) (fun _ h=>h) (fun _ _ _ _ h f=>fC h f fE fE)
 ·obtain ⟨ts,i,ats,z⟩:=x
  simp only[U4,ZcY] at hx
  refine sxT (fun Q=>(bif decide (i < ↑(List.map I.enc ats).length) then ((List.map Iv.enc ts=List.map Iv.enc (ZmV ts))∧((List.map I.enc ats=List.map I.enc (Zc I.dec (List.map I.enc ats)))∧((Zbc (0:Int) (ZmV ts) i true (Zc I.dec (List.map I.enc ats)) z)∧(bif true&&XQ ((ZmV ts).getD i.toNat none').hi i (List.drop (0:Nat) (ZmV ts)) (0:Int) then (((0:Int)≤i∧(ZpY ats)[i.toNat]?=some (ZJ [vI 0] ((ZpY ats).getD i.toNat [])))∧(((0:Int)≤i∧(ZjQ ts)[i.toNat]?=some (ZJ [vI 0,vI 0,vB false] ((ZjQ ts).getD i.toNat [])))∧Q (Ex.ret) (some ⟨88,[(4,AV.p (vI (intOf (((ZpY ats).getD i.toNat []).headD PV.nil)))),(5,AV.ptr 5 0),(6,pI 1)],[(5,[vI (intOf (((ZjQ ts).getD i.toNat []).headD PV.nil)),vI (intOf (((ZjQ ts).getD i.toNat []).tail.headD PV.nil)),vB (Zt (((ZjQ ts).getD i.toNat []).tail.tail.headD PV.nil))])],[],[],[]⟩))) else Q (Ex.normal) (some ⟨88,[(8,AV.p (PV.lst (ZjQ ts))),(12,AV.p (vI (IntKind.i64.wrap (i+(1:Int))))),(5,AV.ptr 5 0),(7,AV.p (PV.lst (ZpY ats)))],[(5,(eIv z))],[],[],[]⟩))))) else Q (Ex.exit (2:Nat)) (some ⟨88,[(5,AV.ptr 5 0)],[(5,(eIv z))],[],[],[]⟩))) (fun _=>by kernel_rfl) ?_
  delta ZmV ZpY ZjQ eIv vI vB pI
  refine Zb (fun h0=>⟨?r3,⟨?r2,⟨?_,Zb (fun h1=>⟨?r1,⟨?r0,.inr ⟨by simp,_,rfl, ?_⟩⟩⟩) (fun h1=> .inl ⟨rfl,((Zc Iv.dec (List.map Iv.enc ts)),IntKind.i64.wrap (i+(1:Int)),(Zc I.dec (List.map I.enc ats)),z),rfl, ?_, ?_, ?_⟩)⟩⟩⟩) (fun h0=> .inr ⟨by simp,_,rfl, ?_⟩)
  case r0|r1|r2|r3=>first | rfl | (simp only[Zm,dI,dIv];done) | skip;(try simp only[Qk_,dI,dIv] at *);(try simp only[Qc_] at h0);first | omega | (exact Z8 (fun _=>rfl) (by omega) (by omega))
  all_goals try dsimp only[U4]
  all_goals obtain ⟨⟨a1,a2⟩,a5,a6⟩:=hx
  all_goals (try simp only[Qc_,Qe_,Qk_] at h0)
  all_goals first | (have hk:i < ats.length:=h0;obtain ⟨x,t,e1,e2,e3⟩:=Yf (l:=ts) a1 (by omega);obtain ⟨y,u,f1,f2,f3⟩:=Yf (l:=ats) a1 (by omega);(try simp only[Yh e3,Yh f3,Z1C,dI,dIv] at *)) | skip
  all_goals try simp only[U4,Zbc,ZcY,Zbd,Zj6,Zj5]
  all_goals try rw[Zg (show Fit (i+1) by constructor<;>omega)]
  ·exact ⟨⟨by omega,by omega,by omega,by omega⟩,a5,a6⟩
  ·have g:ts.getD i.toNat none'=x:=by rw[Q7_,e3];rfl
   simp only[g,Qp_,QO_,QG_] at h1
   have hp:XB ts (ats.drop i.toNat) (ts.drop i.toNat) i=some (y.n,x):=by simp only[e1,f1,XB,h1,Qb_]
   exact .inl ⟨by rw[hp];rfl,by trivial,by rw[hp];rfl⟩
  ·exact ⟨⟨by omega,by omega⟩,a5,a6⟩
  ·omega
  ·have g:ts.getD i.toNat none'=x:=by rw[Q7_,e3];rfl
   simp only[g,Qp_,QO_,QG_] at h1
   have hp:XB ts (ats.drop i.toNat) (ts.drop i.toNat) i=XB ts (ats.drop (i+1).toNat) (ts.drop (i+1).toNat) (i+1):=by simp only[e1,f1,e2,f2,XB,h1,Qd_]
   rw[hp]
   exact fun e s h=>h
  ·exact .inr ⟨by rw[Q0_ (by omega)];simp[XB],by trivial,by trivial⟩
theorem Z6h:ZF Tryz.prog [(5,ZsP),(20,Zj4),(16,ZpF)] Tryz.f78:=ZG (l:=[Zn Tryz.f78 0,Zn Tryz.f78 1,Zn Tryz.f78 2]) (by kernel_rfl) (Zz (i:=5) (by kernel_rfl) rfl Z3e (Zz (i:=16) (by kernel_rfl) rfl ZzC (Zz (i:=20) (by kernel_rfl) rfl Zn4 (Zr))))
def ZlF(l:List Shape):=Zc Shape.dec (List.map Shape.enc l)
def ZpZ(l:List Shape):=List.drop (0:Nat) (ZlF l)
def Zip(l:List Shape)(r:Ray):=Zc Iv.dec (List.map Iv.enc (Zc Iv.dec []++XU r (ZpZ l)))
def Ziq(l:List Shape)(r:Ray):=List.map I.enc (Zc I.dec []++JJ r (ZpZ l) (0:Int))
def ZwM(l:List Shape)(r:Ray):=Zjp (XB (Zip l r) (List.drop (0:Nat) (Zc I.dec (Ziq l r))) (List.drop (0:Nat) (Zip l r)) (0:Int))
def ZlG:=Iv.mk (0:Int) (0:Int) false
def ZwN:=PV.tup [vI (-1),PV.agg [vI 0,vI 0,vB true],vI 0]
theorem Z3f:Zh Tryz.prog 78 e78:=Zi<|Zf fun l=>Zf fun r=>EZ1 fun hp0=>by
 refine cfL ZjP Z6h rfl ?_
 refine sxT (fun Q=>(([]=List.map Iv.enc (Zc Iv.dec []))∧(([]=List.map I.enc (Zc I.dec []))∧((List.map Shape.enc l=List.map Shape.enc (ZlF l))∧((ZeD (0:Int) (Zc Iv.dec []) (Zc I.dec []) (ZlF l) ZlG r)∧(bif Zc0 (0:Int) (Zc Iv.dec []) (Zc I.dec []) (ZlF l) ZlG r then Q ZwN else (bif ↑(Ziq l r).length==(0:Int) then Q (PV.tup [vI (-1),PV.agg [vI 0,vI 0,vB true],vI 2]) else ((List.map Iv.enc (Zc Iv.dec []++XU r (ZpZ l))=List.map Iv.enc (Zip l r))∧((List.map I.enc (Zc I.dec []++JJ r (ZpZ l) (0:Int))=List.map I.enc (Zc I.dec (Ziq l r)))∧((ZcY (Zip l r) (0:Int) (Zc I.dec (Ziq l r)) ZlG)∧(bif Zbd (Zip l r) (0:Int) (Zc I.dec (Ziq l r)) ZlG then Q (PV.tup [vI (ZwM l r).fst,PV.agg (eIv (ZwM l r).snd),vI 1]) else Q ZwN))))))))))) (fun _=>by kernel_rfl) ?_
 delta Qn ZpZ Zip Ziq ZwM ZlG ZlF ZwN eIv vI vB
 refine ⟨?r4,⟨?r3,⟨?r2,⟨?_,Zb (fun h0=>?_) (fun h0=>Zb (fun h1=>?_) (fun h1=>⟨?r1,⟨?r0,⟨?_,Zb (fun h2=>?_) (fun h2=>?_)⟩⟩⟩))⟩⟩⟩⟩
 case r0|r1|r2|r3|r4=>first | rfl | (simp only[Zm,dI,dIv];done)
 all_goals simp only[Zm,dIv,dI,Qk_,QO_,QG_,Int.zero_add,Zc0,Zbd,show Zc Iv.dec []=[] from rfl,show Zc I.dec []=[] from rfl,QJ_] at *
 ·exact ⟨⟨by omega,by omega,by omega⟩,by simp⟩
 ·simp only[Wj,h0,Qb_];rfl
 all_goals have hl:=Z0y r l 0
 ·have h1':((XU r l).length==0)=true:=by simp only[beq_iff_eq] at h1 ⊢;omega
  simp only[Wj,h0,h1',Qb_,Qd_];rfl
 ·exact ⟨⟨by omega,by omega⟩,hl.1,by omega⟩
 all_goals have h1':((XU r l).length==0)=false:=by simp only[KG_,ne_eq] at h1 ⊢;omega
 ·simp only[Wj,h0,h1',h2,Qb_,Qd_];rfl
 ·simp only[Wj,h0,h1',h2,Qb_,Qd_];rfl
theorem ZB2:Zh Tryz.prog 125 ZDK:=Zi<|Zf fun a=>Zf fun b=>EZ0<|by
 refine cf0 (Za ZlC<|Za Xx<|Za Zbj<|Ze) (fn:=Tryz.f125) rfl ?_
 refine sxT (fun Q=>(bif !both a b then Q (PV.agg [vI 0,vI 0,vB true]) else Q (PV.agg (eIv (of (List.foldl imin a.lo [b.lo]) (List.foldl imax a.hi [b.hi])))))) (fun _=>by kernel_rfl) ?_
 delta Qn eIv vI vB
 refine Zb (fun h0=>?_) (fun h0=>?_)
 all_goals (try simp only[Qi_,Qf_] at *)
 all_goals simp only[ZcR,List.foldl,ZC,ZB, *,Qb_,Qd_]
 all_goals rfl
theorem ZB3:Zh Tryz.prog 139 ZDL:=Zi<|Zf fun a=>Zf fun b=>EZ0<|by
 refine cf0 (Za Xp<|Za XF<|Za Zar<|Ze) (fn:=Tryz.f139) rfl ?_
 refine sxT (fun Q=>(bif !right a then Q (PV.agg [vI 0,vI 0,vB true]) else (bif !right b then Q (PV.agg [vI 0,vI 0,vB true]) else Q (PV.agg (eIv (of (List.foldl imin a.lo [b.lo]) (List.foldl imax a.hi [b.hi]))))))) (fun _=>by kernel_rfl) ?_
 delta Qn eIv vI vB
 refine Zb (fun h0=>?_) (fun h0=>Zb (fun h1=>?_) (fun h1=>?_))
 all_goals (try simp only[Qi_,Qf_] at *)
 all_goals simp only[ZcR,both,List.foldl,ZC,ZB, *,Qr_,Ql_,Qn_,Qb_,Qd_]
 all_goals rfl
theorem ZB4:Zh Tryz.prog 219 ZAQ:=Zi<|Zf fun a=>Zf fun b=>EZ0<|by
 refine cf0 (Za ZlC<|Za Xx<|Za Zbj<|Ze) (fn:=Tryz.f219) rfl ?_
 refine sxT (fun Q=>(bif !both a b then Q (PV.agg [vI 0,vI 0,vB true]) else Q (PV.agg (eIv (of (List.foldl imax a.lo [b.lo]) (List.foldl imin a.hi [b.hi])))))) (fun _=>by kernel_rfl) ?_
 delta Qn eIv vI vB
 refine Zb (fun h0=>?_) (fun h0=>?_)
 all_goals (try simp only[Qi_,Qf_] at *)
 all_goals simp only[Xi,List.foldl,ZC,ZB, *,Qb_,Qd_]
 all_goals rfl
theorem ZB5:Zh Tryz.prog 208 ZAR:=Zi<|Zf fun a=>Zf fun b=>EZ0<|by
 refine cf0 (Za Xp<|Za XF<|Za Zar<|Ze) (fn:=Tryz.f208) rfl ?_
 refine sxT (fun Q=>(bif !right a then Q (PV.agg [vI 0,vI 0,vB true]) else (bif !right b then Q (PV.agg [vI 0,vI 0,vB true]) else Q (PV.agg (eIv (of (List.foldl imax a.lo [b.lo]) (List.foldl imin a.hi [b.hi]))))))) (fun _=>by kernel_rfl) ?_
 delta Qn eIv vI vB
 refine Zb (fun h0=>?_) (fun h0=>Zb (fun h1=>?_) (fun h1=>?_))
 all_goals (try simp only[Qi_,Qf_] at *)
 all_goals simp only[Xi,both,List.foldl,ZC,ZB, *,Qr_,Ql_,Qn_,Qb_,Qd_]
 all_goals rfl
theorem Z6i:Zh Tryz.prog 218 ZAS:=Zi<|Zf fun a=>EZ0<|by
 refine cf0 (Za Zbi<|Ze) (fn:=Tryz.f218) rfl ?_
 refine sxT (fun Q=>(bif !right a then Q (vI 0) else (((0:Int)≤(1:Int))∧Q (vI ((IntKind.i64.wrap (a.lo+a.hi)).fdiv (2:Int)))))) (fun _=>by kernel_rfl) ?_
 delta Qn vI
 refine Zb (fun h0=>?_) (fun h0=>⟨?r0, ?_⟩)
 case r0=>first | rfl | (simp only[Zm,dI,dIv];omega) | (simp[Zc,chunk];done)
 all_goals (try simp only[Qi_,Qf_] at *)
 all_goals simp only[ZE, *,Qb_,Qd_]
 ·rfl
 ·have hb:=Y9 h0
  rw[Zg (by constructor<;>omega)];rfl
theorem Z6j:Zh Tryz.prog 204 ZAT:=Zi<|Zf fun a=>EZ0<|by
 refine cf0 (Za Xp<|Za ZmU<|Ze) (fn:=Tryz.f204) rfl ?_
 refine sxT (fun Q=>(bif !right a then Q (vI 0) else (((-4611686018427387904:Int)≤IntKind.i64.wrap (a.lo+a.hi)∧IntKind.i64.wrap (a.lo+a.hi)≤(4611686018427387904:Int))∧Q (vI (floor (IntKind.i64.wrap (a.lo+a.hi)) (2:Int)))))) (fun _=>by kernel_rfl) ?_
 delta Qn vI
 refine Zb (fun h0=>?_) (fun h0=>⟨?r0, ?_⟩)
 case r0=>simp only[Qi_,Qf_] at *;have hb:=Y9 h0;rw[Zg (by constructor<;>omega)];omega
 all_goals (try simp only[Qi_,Qf_] at *)
 all_goals simp only[ZE, *,Qb_,Qd_]
 ·rfl
 ·have hb:=Y9 h0
  rw[Zg (by constructor<;>omega)];rfl
theorem ZB6:Zh Tryz.prog 217 ZDM:=Zi<|Zf fun a=>Zf fun n=>EZ0<|by
 refine cf0 (Za Xp<|Ze) (fn:=Tryz.f217) rfl ?_
 refine sxT (fun Q=>(bif right a then (bif decide (a.lo≤n) then Q (vB (decide (n≤a.hi))) else Q (vB false)) else Q (vB false))) (fun _=>by kernel_rfl) ?_
 delta Qn vB
 refine Zb (fun h0=>Zb (fun h1=>?_) (fun h1=>?_)) (fun h0=>?_)
 all_goals (simp only[has,ZC,ZB,List.foldl,Qr_,Qp_,Ql_,Qn_,Q5_,Q4_,Qw_,Q3_,Qu_,Qt_,Qb_,Qd_,QD_,Q8_, *];rfl)
theorem ZB7:Zh Tryz.prog 220 ZAU:=Zi<|Zf fun a=>EZ0<|by
 refine cf0 (Za Zbi<|Za Xx<|Za Z6i<|Za Zbj<|Ze) (fn:=Tryz.f220) rfl ?_
 refine sxT (fun Q=>(bif !right a then Q (PV.tup [PV.agg [vI 0,vI 0,vB true],PV.agg [vI 0,vI 0,vB true]]) else Q (PV.tup [PV.agg (eIv (of a.lo (ZE a))),PV.agg (eIv (of (ZE a) a.hi))]))) (fun _=>by kernel_rfl) ?_
 delta Qn eIv vI vB
 refine Zb (fun h0=>?_) (fun h0=>?_)
 all_goals (try simp only[Qi_,Qf_,bne] at *)
 all_goals (simp only[ZZ,ZC,ZB,List.foldl,Qr_,Qp_,Ql_,Qn_,Q5_,Q4_,Qw_,Q3_,Qu_,Qt_,Qb_,Qd_,QD_,Q8_, *];rfl)
theorem ZB8:Zh Tryz.prog 206 ZAV:=Zi<|Zf fun a=>EZ0<|by
 refine cf0 (Za Xp<|Za XF<|Za Z6j<|Za Zar<|Ze) (fn:=Tryz.f206) rfl ?_
 refine sxT (fun Q=>(bif !right a then Q (PV.tup [PV.agg [vI 0,vI 0,vB true],PV.agg [vI 0,vI 0,vB true]]) else Q (PV.tup [PV.agg (eIv (of a.lo (ZE a))),PV.agg (eIv (of (ZE a) a.hi))]))) (fun _=>by kernel_rfl) ?_
 delta Qn eIv vI vB
 refine Zb (fun h0=>?_) (fun h0=>?_)
 all_goals (try simp only[Qi_,Qf_,bne] at *)
 all_goals (simp only[ZZ,ZC,ZB,List.foldl,Qr_,Qp_,Ql_,Qn_,Q5_,Q4_,Qw_,Q3_,Qu_,Qt_,Qb_,Qd_,QD_,Q8_, *];rfl)
theorem Z6k:Zh Tryz.prog 196 ZDN:=Zi<|Zf fun a=>Zf fun b=>EZ0<|by
 refine cf0 (Za Zb2<|Za Zel<|Ze) (fn:=Tryz.f196) rfl ?_
 refine sxT (fun Q=>Q (PV.agg [vI (add a.x b.x).lo,vI (add a.x b.x).hi,vB (add a.x b.x).no,vI (add a.y b.y).lo,vI (add a.y b.y).hi,vB (add a.y b.y).no,vI (add a.z b.z).lo,vI (add a.z b.z).hi,vB (add a.z b.z).no])) (fun _=>by kernel_rfl) ?_
 delta Qn vI vB
 refine ?_
 all_goals rfl
theorem Z6l:Zh Tryz.prog 181 ZDO:=Zi<|Zf fun a=>Zf fun b=>EZ0<|by
 refine cf0 (Za ZbV<|Ze) (fn:=Tryz.f181) rfl ?_
 refine sxT (fun Q=>Q (PV.agg [vI (add a.x b.x).lo,vI (add a.x b.x).hi,vB (add a.x b.x).no,vI (add a.y b.y).lo,vI (add a.y b.y).hi,vB (add a.y b.y).no,vI (add a.z b.z).lo,vI (add a.z b.z).hi,vB (add a.z b.z).no])) (fun _=>by kernel_rfl) ?_
 delta Qn vI vB
 refine ?_
 all_goals rfl
theorem Z6m:Zh Tryz.prog 197 ZDP:=Zi<|Zf fun a=>Zf fun k=>EZ0<|by
 refine cf0 (Za ZeG<|Za Zel<|Ze) (fn:=Tryz.f197) rfl ?_
 refine sxT (fun Q=>Q (PV.agg [vI (Zl a.x k).lo,vI (Zl a.x k).hi,vB (Zl a.x k).no,vI (Zl a.y k).lo,vI (Zl a.y k).hi,vB (Zl a.y k).no,vI (Zl a.z k).lo,vI (Zl a.z k).hi,vB (Zl a.z k).no])) (fun _=>by kernel_rfl) ?_
 delta Qn vI vB
 refine ?_
 all_goals rfl
theorem Z6n:Zh Tryz.prog 182 ZDQ:=Zi<|Zf fun a=>Zf fun k=>EZ0<|by
 refine cf0 (Za ZaH<|Ze) (fn:=Tryz.f182) rfl ?_
 refine sxT (fun Q=>Q (PV.agg [vI (Zl a.x k).lo,vI (Zl a.x k).hi,vB (Zl a.x k).no,vI (Zl a.y k).lo,vI (Zl a.y k).hi,vB (Zl a.y k).no,vI (Zl a.z k).lo,vI (Zl a.z k).hi,vB (Zl a.z k).no])) (fun _=>by kernel_rfl) ?_
 delta Qn vI vB
 refine ?_
 all_goals rfl
theorem Z6o:Zh Tryz.prog 191 ZDR:=Zi<|Zf fun r=>Zf fun t=>EZ0<|by
 refine cf0 (Za Z6m<|Za Z6k<|Ze) (fn:=Tryz.f191) rfl ?_
 refine sxT (fun Q=>Q (PV.agg (eV (ZhI r.o (WB r.d t))))) (fun _=>by kernel_rfl) ?_
 delta Qn eV vI vB
 refine ?_
 all_goals rfl
theorem Z6p:Zh Tryz.prog 180 ZDS:=Zi<|Zf fun r=>Zf fun t=>EZ0<|by
 refine cf0 (Za Z6n<|Za Z6l<|Ze) (fn:=Tryz.f180) rfl ?_
 refine sxT (fun Q=>Q (PV.agg (eV (ZhI r.o (WB r.d t))))) (fun _=>by kernel_rfl) ?_
 delta Qn eV vI vB
 refine ?_
 all_goals rfl
theorem ZwO:Zh Tryz.prog 100 ZDT:=Zi<|Zf fun a=>EZ0<|by
 refine cf0 (Za Zbi<|Ze) (fn:=Tryz.f100) rfl ?_
 refine sxT (fun Q=>(bif right a.x then (bif right a.y then Q (vB (right a.z)) else Q (vB false)) else Q (vB false))) (fun _=>by kernel_rfl) ?_
 delta Qn vB
 refine Zb (fun h0=>Zb (fun h1=>?_) (fun h1=>?_)) (fun h0=>?_)
 all_goals (simp only[Yn,ZC,ZB,List.foldl,Qr_,Qp_,Ql_,Qn_,Q5_,Q4_,Qw_,Q3_,Qu_,Qt_,Qb_,Qd_,QD_,Q8_, *];rfl)
theorem ZwP:Zh Tryz.prog 109 ZDU:=Zi<|Zf fun a=>EZ0<|by
 refine cf0 (Za Xp<|Ze) (fn:=Tryz.f109) rfl ?_
 refine sxT (fun Q=>(bif right a.x then (bif right a.y then Q (vB (right a.z)) else Q (vB false)) else Q (vB false))) (fun _=>by kernel_rfl) ?_
 delta Qn vB
 refine Zb (fun h0=>Zb (fun h1=>?_) (fun h1=>?_)) (fun h0=>?_)
 all_goals (simp only[Yn,ZC,ZB,List.foldl,Qr_,Qp_,Ql_,Qn_,Q5_,Q4_,Qw_,Q3_,Qu_,Qt_,Qb_,Qd_,QD_,Q8_, *];rfl)
theorem Z8V:Zh Tryz.prog 98 e98:=Zi<|Zf fun a=>EZ0<|by
 refine cf0 (Za Z6a<|Za ZpT<|Za Zg3<|Za Zel<|Ze) (fn:=Tryz.f98) rfl ?_
 refine sxT (fun Q=>Q (PV.agg [vI (Zp a.x (ZL (X9 a))).lo,vI (Zp a.x (ZL (X9 a))).hi,vB (Zp a.x (ZL (X9 a))).no,vI (Zp a.y (ZL (X9 a))).lo,vI (Zp a.y (ZL (X9 a))).hi,vB (Zp a.y (ZL (X9 a))).no,vI (Zp a.z (ZL (X9 a))).lo,vI (Zp a.z (ZL (X9 a))).hi,vB (Zp a.z (ZL (X9 a))).no])) (fun _=>by kernel_rfl) ?_
 delta Qn vI vB
 refine ?_
 all_goals rfl
theorem ZB9:Zh Tryz.prog 192 ZDV:=Zi<|Zf fun yes=>Zf fun no=>EZ0<|by
 refine cf0 Ze (fn:=Tryz.f192) rfl ?_
 refine sxT (fun Q=>(bif yes then Q (vI 1) else (bif no then Q (vI 2) else Q (vI 0)))) (fun _=>by kernel_rfl) ?_
 delta Qn vI
 refine Zb (fun h0=>?_) (fun h0=>Zb (fun h1=>?_) (fun h1=>?_))
 all_goals (simp only[ZtY,ZC,ZB,List.foldl,Qr_,Qp_,Ql_,Qn_,Q5_,Q4_,Qw_,Q3_,Qu_,Qt_,Qb_,Qd_,QD_,Q8_, *];rfl)
theorem ZBA:Zh Tryz.prog 164 ZDW:=Zi<|Zf fun a=>Zf fun b=>EZ0<|by
 refine cf0 (Za Zbi<|Za ZB9<|Ze) (fn:=Tryz.f164) rfl ?_
 refine sxT (fun Q=>(bif !right a then Q (vI 0) else (bif !right b then Q (vI 0) else Q (vI (ZtY (decide (a.hi≤b.lo)) (decide (a.lo > b.hi))))))) (fun _=>by kernel_rfl) ?_
 delta Qn vI
 refine Zb (fun h0=>?_) (fun h0=>Zb (fun h1=>?_) (fun h1=>?_))
 all_goals (try simp only[Qi_,Qf_,bne] at *)
 all_goals (simp only[JK,ZC,ZB,List.foldl,Qr_,Qp_,Ql_,Qn_,Q5_,Q4_,Qw_,Q3_,Qu_,Qt_,Qb_,Qd_,QD_,Q8_, *];rfl)
theorem ZBB:Zh Tryz.prog 142 ZDX:=Zi<|Zf fun a=>Zf fun b=>EZ0<|by
 refine cf0 (Za Xp<|Ze) (fn:=Tryz.f142) rfl ?_
 refine sxT (fun Q=>(bif !right a then Q (vI 0) else (bif !right b then Q (vI 0) else (bif decide (a.hi≤b.lo) then Q (vI 1) else (bif decide (a.lo > b.hi) then Q (vI 2) else Q (vI 0)))))) (fun _=>by kernel_rfl) ?_
 delta Qn vI
 refine Zb (fun h0=>?_) (fun h0=>Zb (fun h1=>?_) (fun h1=>Zb (fun h2=>?_) (fun h2=>Zb (fun h3=>?_) (fun h3=>?_))))
 all_goals (try simp only[Qi_,Qf_,bne] at *)
 all_goals (simp only[JK,ZC,ZB,List.foldl,Qr_,Qp_,Ql_,Qn_,Q5_,Q4_,Qw_,Q3_,Qu_,Qt_,Qb_,Qd_,QD_,Q8_, *];rfl)
theorem Zqa:Zh Tryz.prog 179 ZAW:=Zi<|EZ0<|by
 refine cf0 (Za XF<|Ze) (fn:=Tryz.f179) rfl ?_
 refine sxT (fun Q=>Q (PV.agg [vI 0,vI 0,vB true])) (fun _=>by kernel_rfl) ?_
 delta Qn vI vB
 refine ?_
 all_goals rfl
theorem ZwQ:Zh Tryz.prog 145 ZDY:=Zi<|EZ0<|by
 refine cf0 (Za Zqa<|Ze) (fn:=Tryz.f145) rfl ?_
 refine sxT (fun Q=>Q (PV.agg [vI 0,vI 0,vB true,vI 0,vI 0,vB true,vI 0,vI 0,vB true])) (fun _=>by kernel_rfl) ?_
 delta Qn vI vB
 refine ?_
 all_goals rfl
theorem Z6q:Zh Tryz.prog 111 ZAX:=Zi<|EZ0<|by
 refine cf0 (Za ZwQ<|Ze) (fn:=Tryz.f111) rfl ?_
 refine sxT (fun Q=>Q (PV.agg [vI 0,vI 0,vB true,vI 0,vI 0,vB true,vI 0,vI 0,vB true,vI 0,vI 0,vB true,vI 0,vI 0,vB true,vI 0,vI 0,vB true])) (fun _=>by kernel_rfl) ?_
 delta Qn vI vB
 refine ?_
 all_goals rfl
theorem ZBC:Zh Tryz.prog 194 ZDZ:=Zi<|EZ0<|by
 refine cf0 (Za Xx<|Za Zel<|Ze) (fn:=Tryz.f194) rfl ?_
 refine sxT (fun Q=>Q (PV.agg [vI 0,vI 0,vB true,vI 0,vI 0,vB true,vI 0,vI 0,vB true])) (fun _=>by kernel_rfl) ?_
 delta Qn vI vB
 refine ?_
 all_goals rfl
theorem ZBD:Zh Tryz.prog 167 ZEa:=Zi<|EZ0<|by
 refine cf0 (Za Xx<|Za Zel<|Ze) (fn:=Tryz.f167) rfl ?_
 refine sxT (fun Q=>Q (PV.agg [vI 0,vI 0,vB true,vI 0,vI 0,vB true,vI 0,vI 0,vB true,vI 0,vI 0,vB true,vI 0,vI 0,vB true,vI 0,vI 0,vB true])) (fun _=>by kernel_rfl) ?_
 delta Qn vI vB
 refine ?_
 all_goals rfl
theorem ZBE:Zh Tryz.prog 190 ZEb:=Zi<|Zf fun is=>EZ0<|by
 refine cf0 (Za Xx<|Za Zel<|Ze) (fn:=Tryz.f190) rfl ?_
 refine sxT (fun Q=>Q (PV.tup [PV.agg [vI 0,vI 0,vB true],PV.agg [vI 0,vI 0,vB true,vI 0,vI 0,vB true,vI 0,vI 0,vB true],vI is])) (fun _=>by kernel_rfl) ?_
 delta Qn vI vB
 refine ?_
 all_goals rfl
theorem ZBF:Zh Tryz.prog 141 ZEc:=Zi<|Zf fun t=>EZ0<|by
 refine cf0 Ze (fn:=Tryz.f141) rfl ?_
 refine sxT (fun Q=>(bif t==(2:Int) then Q (vI 2) else Q (vI 3))) (fun _=>by kernel_rfl) ?_
 delta Qn vI
 refine Zb (fun h0=>?_) (fun h0=>?_)
 all_goals (simp only[ZcS,ZC,ZB,List.foldl,Qr_,Qp_,Ql_,Qn_,Q5_,Q4_,Qw_,Q3_,Qu_,Qt_,Qb_,Qd_,QD_,Q8_, *];rfl)
end Go.Men
namespace Go.Men
open Go Go.Ev Go.Proofs Go.RowKit Go.Shelf
attribute [local go_sem] Oper.semAt_some
def KpB(n₀ Bs:Nat)(W W':World):Prop:=Below n₀ W W'∧W'.heap[Bs]?=W.heap[Bs]?
theorem KpB.refl(n₀ Bs:Nat)(W:World):KpB n₀ Bs W W:=⟨Below.refl _ _,rfl⟩
theorem KpB.trans{n₀ Bs:Nat}{A B C:World}(h:KpB n₀ Bs A B)(k:KpB n₀ Bs B C):KpB n₀ Bs A C:=⟨h.1.trans k.1,k.2.trans h.2⟩
theorem KpB.cell{n₀ Bs:Nat}{W W':World}(h:KpB n₀ Bs W W'):W'.cell? ⟨Bs,0,none⟩=W.cell? ⟨Bs,0,none⟩:=by unfold World.cell?;rw[h.2]
def ivV(x:Iv):Value:= .agg #[.int .i64 x.lo,.int .i64 x.hi,.bool x.no]
def downto(zs:List Iv)(k:Nat):List (Int×Iv):=(List.range k).map (fun (j:Nat)=>(((zs.length:Int) - 1 - (j:Int):Int),zs[zs.length - 1 - j]?.getD none'))
theorem ZzD(zs:List Iv)(k:Nat):downto zs (k+1)=downto zs k++[(((zs.length:Int) - 1 - (k:Int):Int),zs[zs.length - 1 - k]?.getD none')]:=by simp[downto,List.range_succ]
theorem ZtB(zs:List Iv)(k:Nat):(downto zs k).length=k:=by simp[downto]
set_option maxRecDepth 100000 in
set_option maxHeartbeats 4000000 in
theorem ZBG(F:Fence)(n:Nat)(h7:F.fn 223)(hro:F.round=none)(hn:1≤n)(l Bs n₀ b off cap:Nat)(zs:List Iv)(hreach:zs.length≤1000)(hb:b < n₀)(J Jx:List (Int×Iv)→World→Prop)
 (hY:∀pre x W,J pre W→pre.length < zs.length→YieldAt F (n - 1) Tryz.prog l #[.int .i64 x.1,ivV x.2] W fun e W'=>
   (e= .returned (.bool true)∧J (pre++[x]) W'∧KpB n₀ Bs W W')∨(e= .returned (.bool false)∧Jx (pre++[x]) W'))
 (W:World) (hBs:W.cell? ⟨Bs,0,none⟩=some (.slice (some ⟨b,off,none⟩) zs.length cap))
 (hc:∀j,j < zs.length→W.cell? ⟨b,off+j *3,none⟩=some (.int .i64 (zs[j]?.getD none').lo)∧W.cell? ⟨b,off+j *3+1,none⟩=some (.int .i64 (zs[j]?.getD none').hi)∧W.cell? ⟨b,off+j *3+2,none⟩=some (.bool (zs[j]?.getD none').no)) (h0:J [] W):
 CallsIn F n Tryz.prog 223 #[.func (.yield l) #[] #[],.pointer (some ⟨Bs,0,none⟩)] W fun e W'=>(∃v,e= .returned v)∧
  ((∃ys,ys=downto zs zs.length∧J ys W')∨(∃pre,True∧Jx pre W')):=by
 refine callsIn_of_wp Tryz.func223 rfl h7 ?_ hro
 simp only[Tryz.ntmps223,KB_,Qs_,Q1_,Nat.reduceAdd,Nat.reduceSub,Array.replicate_succ,Array.replicate_zero,List.push_toArray,List.append_toArray,QJ_,QS_]
 gi_wp2
 gi_loopw [3] (fun i wr=>∃k:Nat,k≤zs.length∧i= .int .i64 ((zs.length:Int) - 1 - k)∧J (downto zs k) wr∧KpB n₀ Bs W wr)
  (fun i _=>(RowKit.intOf i+1).toNat)
 case atStart=>exact ⟨0,K1_ _,by simp,h0,KpB.refl _ _ _⟩
 case round=>
  obtain ⟨k,hk,rfl,hJs,hnx⟩:=hrel
  by_cases hlt:k < zs.length
  ·obtain ⟨fn,tmps,assign,body,hy,hR⟩:=hY _ (((zs.length:Int) - 1 - (k:Int):Int),zs[zs.length - 1 - k]?.getD none') wr hJs (by rw[ZtB];exact hlt)
   have hBs':=hnx.cell.trans hBs
   obtain ⟨c0,c1,c2⟩:=hc (zs.length - 1 - k) (by omega)
   have c0':=(hnx.1.cell (p:=⟨b,off+(zs.length - 1 - k)*3,none⟩) hb).trans c0
   have c1':=(hnx.1.cell (p:=⟨b,off+(zs.length - 1 - k)*3+1,none⟩) hb).trans c1
   have c2':=(hnx.1.cell (p:=⟨b,off+(zs.length - 1 - k)*3+2,none⟩) hb).trans c2
   dsimp only[ivV] at hy
   gi_wp2
   refine hR.mono ?_
   rintro e W3 (⟨rfl,hJ3,hk3⟩ | ⟨rfl,hJx3⟩)
   ·gi_wp2
    go_roundw
    case rel=>exact ⟨k+1,by omega,by simp;omega,by rw[ZzD];exact hJ3,hnx.trans hk3⟩
    case measure=>simp[RowKit.intOf];omega
   ·gi_wp2
    refine bodyPost_ret (results_none rfl _ _ _) rfl ?_
    exact ⟨⟨_,rfl⟩,.inr ⟨_,trivial,hJx3⟩⟩
  ·obtain rfl:k=zs.length:=by omega
   gi_wp2
   go_end0
   exact ⟨⟨_,rfl⟩,.inl ⟨_,rfl,hJs⟩⟩
theorem Z8W(F:Fence)(n:Nat)(h5:F.fn 222)(hro:F.round=none)(a:Option Addr)(len cap:Nat)(w:World):
 CallsIn F n Tryz.prog 222 #[.slice a len cap] w fun e w'=>e= .returned (.func (.func 223) #[] #[.pointer (some ⟨w.heap.size,0,none⟩)])∧w'=w.alloc (.cells #[.slice a len cap] 172):=by
 refine callsIn_of_wp Tryz.func222 rfl h5 ?_ hro
 simp only[Tryz.ntmps222,KB_,Qs_,Q1_,Nat.reduceAdd,Nat.reduceSub,Array.replicate_succ,Array.replicate_zero,List.push_toArray,List.append_toArray,QJ_,QS_]
 gi_wp2
 go_ret
 exact ⟨rfl,rfl⟩
attribute [local go_sem] Oper.semAt_some
theorem Zc7{f:FuncId}{args:List PV}{r:PV}(h:Con Tryz.prog f args r)(hcall:∀a w,(callFunc f a).run Tryz.prog w= .ok (.enter f a) w)
 {hw:Nat→Nat} {w:World} {vals:List Value} (hl:∀k,w.heap.size≤k→hw k=0) (hg:GlobOk hw w) (ha:ArgsRep hw w vals args):
 Calls Tryz.prog f vals.toArray w fun e w'=>∃v,e= .returned v∧∃hw',Qt hw w hw' w'∧Rep hw' w' v r:=by
 rcases h hw w vals hl hg ha with ⟨v,w',h1,h2⟩ | ⟨f',h1,h2⟩
 ·rw[hcall] at h1;cases h1
 ·rw[hcall] at h1;cases h1;exact h2
theorem Zb3{hw:Nat→Nat}{w:World}(x:Iv):Rep hw w (ivV x) (.agg (Iv.enc x)):=by
 refine .agg [.int .i64 x.lo,.int .i64 x.hi,.bool x.no] _ rfl (fun j a b ha hb=>?_) (fun a ha=>?_)
 ·rcases j with _ | _ | _ | j<;>simp[Iv.enc] at ha hb
  all_goals (obtain rfl:=ha;obtain rfl:=hb;exact .v _ rfl)
 ·simp at ha;rcases ha with rfl | rfl | rfl<;>rfl
theorem Zir{hw:Nat→Nat}{w:World}{v:Value}{x:Iv}(h:Rep hw w v (.agg (Iv.enc x))):v=ivV x:=by
 cases h with
 | agg vs cs hl hr h1=>
   obtain ⟨a,b,c,rfl⟩:∃a b c,vs=[a,b,c]:=by
    match vs,hl with
    | [a,b,c],_=>exact ⟨a,b,c,rfl⟩
   have e0:=ZH (hr 0 a _ rfl rfl)
   have e1:=ZH (hr 1 b _ rfl rfl)
   have e2:=ZH (hr 2 c _ rfl rfl)
   subst e0;subst e1;subst e2;rfl
theorem Z0N{hw:Nat→Nat}{w:World}{a:Value}{p:PV}(h:Rep hw w a p):ArgsRep hw w [a] [p]:=
 ⟨rfl,fun j x y hx hy=>by rcases j with _ | j<;>simp at hx hy;subst hx;subst hy;exact h⟩
theorem Zu2{hw:Nat→Nat}{w:World}{a b:Value}{p q:PV}(h:Rep hw w a p)(k:Rep hw w b q):ArgsRep hw w [a,b] [p,q]:=
 ⟨rfl,fun j x y hx hy=>by rcases j with _ | _ | j<;>simp at hx hy<;>(subst hx;subst hy;assumption)⟩
theorem ZC7{hw:Nat→Nat}{w:World}:ArgsRep hw w [] []:=⟨rfl,fun j x y hx _=>by simp at hx⟩
theorem ZfJ{hw hw':Nat→Nat}{w w':World}(hl:∀k,w.heap.size≤k→hw k=0)(hg:GlobOk hw w)(q:Qt hw w hw' w'):GlobOk hw' w':=
 hg.mono (q.ext hl) (fun y cs hy=>q.below.block y (hg.lt hy))
def ivO(x:Iv):Obj:= .cells #[.int .i64 x.lo,.int .i64 x.hi,.bool x.no] 26
theorem Yw{W:World}{k:Nat}{x:Iv}(h:W.heap[k]?=some (ivO x)):
 W.cell? ⟨k,0,none⟩=some (.int .i64 x.lo)∧W.cell? ⟨k,1,none⟩=some (.int .i64 x.hi)∧W.cell? ⟨k,2,none⟩=some (.bool x.no)∧
 W.frozen? ⟨k,0,none⟩=false∧W.frozen? ⟨k,1,none⟩=false∧W.frozen? ⟨k,2,none⟩=false:=by
 simp[World.cell?,World.frozen?,h,ivO]
theorem Zis{W:World}{k:Nat}{x:Iv}(h:W.heap[k]?=some (ivO x)):k < W.heap.size:=(QL_.1 h).1
structure HF(hw:Nat→Nat)(w:World)(x o:Iv)(W:World):Prop where
 q:∃hw',Qt hw w hw' W
 x:W.heap[w.heap.size]?=some (ivO x)
 r:W.heap[w.heap.size+1]?=some (ivO ⟨0,0,false⟩)
 o:W.heap[w.heap.size+1+1]?=some (ivO o)
theorem HF.size{hw:Nat→Nat}{w:World}{x o:Iv}{W:World}(h:HF hw w x o W):w.heap.size+2 < W.heap.size:=Zis h.o
theorem HF.kept{hw hw1 hw2:Nat→Nat}{w:World}{x o:Iv}{W W':World}(hl:∀k,w.heap.size≤k→hw k=0)(h:HF hw w x o W)(q0:Qt hw w hw1 W)(q:Qt hw1 W hw2 W'):HF hw w x o W':=
 have hs:=h.size
 ⟨⟨hw2,⟨q0.below.trans (q.below.mono q0.below.size),fun k hk=>(q.hw k (Kc_ hk q0.below.size)).trans (q0.hw k hk),q.hwlt⟩⟩,
  (q.below.block _ (by omega)).trans h.x,(q.below.block _ (by omega)).trans h.r,(q.below.block _ (by omega)).trans h.o⟩
theorem HF.own{hw:Nat→Nat}{w:World}{x o:Iv}{X Y:World}{row:Option Nat}(h:HF hw w x o X)(hg:X.grownBy Y row)(hrow:∀r,row=some r→w.heap.size+3≤r):HF hw w x o Y:=by
 obtain ⟨⟨hw',q⟩,h1,h2,h3⟩:=h
 have kp:∀k,k < w.heap.size+3→k < X.heap.size→Y.heap[k]?=X.heap[k]?:=fun k hk hk2=>hg.block k hk2 (fun e=>by have:=hrow k e.symm;omega)
 have s:=Zis h3
 exact ⟨⟨hw',⟨q.below.grown hg q.below.size (fun k e=>by have:=hrow k e;omega),q.hw,fun k hk=>q.hwlt k (QT_ hg.size hk)⟩⟩,
  (kp _ (by omega) (by omega)).trans h1,(kp _ (by omega) (by omega)).trans h2,(kp _ (by omega) (by omega)).trans h3⟩
theorem HF.drew{hw:Nat→Nat}{w:World}{x o:Iv}{W:World}(h:HF hw w x o W):HF hw w x o W.drew:=by
 obtain ⟨⟨hw',q⟩,h1,h2,h3⟩:=h
 exact ⟨⟨hw',⟨q.below.drew,q.hw,q.hwlt⟩⟩,h1,h2,h3⟩
theorem Zsd{W:World}{k:Nat}{x y:Iv}(h:W.heap[k]?=some (ivO x)):
 (((W.setCell ⟨k,0,none⟩ (.int .i64 y.lo)).setCell ⟨k,1,none⟩ (.int .i64 y.hi)).setCell ⟨k,2,none⟩ (.bool y.no)).heap[k]?=some (ivO y):=by
 obtain ⟨hk,e⟩:=QL_.1 h
 simp only[World.setCell]
 rw[QC_ (by simp only[Array.size_modify];exact hk)]
 simp only[Array.getElem_modify_self,e,ivO]
 rfl
def WQ(W:World)(k:Nat)(y:Iv):World:=((W.setCell ⟨k,0,none⟩ (.int .i64 y.lo)).setCell ⟨k,1,none⟩ (.int .i64 y.hi)).setCell ⟨k,2,none⟩ (.bool y.no)
theorem Zdq(W:World){k j:Nat}(y:Iv)(h:j≠k):(WQ W k y).heap[j]?=W.heap[j]?:=
 (Below.heap_setCell _ _ _ j h).trans ((Below.heap_setCell _ _ _ j h).trans (Below.heap_setCell _ _ _ j h))
theorem Zc8(W:World)(k:Nat)(y:Iv):(WQ W k y).heap.size=W.heap.size:=by simp[WQ]
theorem Zfz{B:Nat}{a W:World}(h:Below B a W){k:Nat}(hk:B≤k)(y:Iv):Below B a (WQ W k y):=
 ((h.setCell (p:=⟨k,0,none⟩) hk _).setCell (p:=⟨k,1,none⟩) hk _).setCell (p:=⟨k,2,none⟩) hk _
theorem HF.setO{hw:Nat→Nat}{w:World}{x o:Iv}{W:World}(h:HF hw w x o W)(y:Iv):HF hw w x y (WQ W (w.heap.size+1+1) y):=by
 obtain ⟨⟨hw',q⟩,h1,h2,h3⟩:=h
 exact ⟨⟨hw',⟨Zfz q.below (by omega) y,q.hw,fun k hk=>q.hwlt k (by rw[Zc8] at hk;exact hk)⟩⟩,
  (Zdq W y (by omega)).trans h1,(Zdq W y (by omega)).trans h2,Zsd h3⟩
theorem Zqb{hw:Nat→Nat}{w:World}{x o y v:Iv}{X W5 W7:World}{hwx hw5 hw6 hw7:Nat→Nat}{B Bs:Nat}(hI:HF hw w x o X)(f8:HF hw w x v W7)(q5:Qt hwx X.drew hw5 W5)(q7:Qt hw6 W5 hw7 W7)(hBs:Bs < X.heap.size)(hk:w.heap.size+1+1≠Bs):
 KeepsFrom B X (WQ W7 (w.heap.size+1+1) y)∧KpB w.heap.size Bs X (WQ W7 (w.heap.size+1+1) y)∧HF hw w x y (WQ W7 (w.heap.size+1+1) y)∧X.heap.size≤(WQ W7 (w.heap.size+1+1) y).heap.size:=by
 have hs:=hI.size
 have s5:X.heap.size≤W5.heap.size:=q5.below.size
 have s7:=q7.below.size
 have same:∀j,j < X.heap.size→j≠w.heap.size+1+1→(WQ W7 (w.heap.size+1+1) y).heap[j]?=X.heap[j]?:=fun j hj hne=>
  (Zdq W7 y hne).trans ((q7.below.block j (by omega)).trans (q5.below.block j hj))
 have sz:X.heap.size≤(WQ W7 (w.heap.size+1+1) y).heap.size:=by rw[Zc8];omega
 refine ⟨⟨sz,fun j ob _ hj hcl=>?_⟩,⟨?_,same Bs hBs (fun e=>hk e.symm)⟩,f8.setO y,sz⟩
 ·refine (same j (QL_.1 hj).1 (fun e=>?_)).trans hj
  subst e;rw[hI.o] at hj;cases hj;cases hcl
 ·have b1:Below w.heap.size X.drew W5:=q5.below.mono (by show w.heap.size≤X.heap.size;omega)
  have b2:Below w.heap.size X X.drew:=(Below.refl _ X).drew
  exact Zfz ((b2.trans b1).trans (q7.below.mono (by omega))) (by omega) y
def JT(o x:Iv)(pre:List (Int×Iv)):Iv:=pre.foldl (fun o p=>add (Zl o x) p.2) o
theorem Zqc(o x:Iv)(pre:List (Int×Iv))(p:Int×Iv):JT o x (pre++[p])=add (Zl (JT o x pre) x) p.2:=by simp[JT]
theorem ZwR(n:Nat)(hn:1≤n)(Bs n₀ b off cap:Nat)(zs:List Iv)(hreach:zs.length≤1000)(w:World)(hBs:Bs < w.heap.size)(hn₀:n₀≤w.heap.size)(hb:b < n₀)
 (hcB:w.cell? ⟨Bs,0,none⟩=some (.slice (some ⟨b,off,none⟩) zs.length cap))
 (hc:∀j,j < zs.length→w.cell? ⟨b,off+j *3,none⟩=some (.int .i64 (zs[j]?.getD none').lo)∧w.cell? ⟨b,off+j *3+1,none⟩=some (.int .i64 (zs[j]?.getD none').hi)∧w.cell? ⟨b,off+j *3+2,none⟩=some (.bool (zs[j]?.getD none').no)):
 SeqStopsK Fence.wide n Tryz.prog 223 #[.pointer (some ⟨Bs,0,none⟩)] (fun p:Int×Iv=>#[.int .i64 p.1,ivV p.2]) (KpB n₀ Bs) (fun ys=>ys=downto zs zs.length) (fun _=>True) zs.length w:=fun l J Jx W hW _ _ hY h0=>
 ZBG Fence.wide n trivial rfl hn l Bs n₀ b off cap zs hreach hb J Jx hY W ((hW.cell (p:=⟨Bs,0,none⟩) hBs).trans hcB)
  (fun j hj=>⟨(hW.cell (p:=⟨b,off+j *3,none⟩) (by show b < _;omega)).trans (hc j hj).1,(hW.cell (p:=⟨b,off+j *3+1,none⟩) (by show b < _;omega)).trans (hc j hj).2.1,(hW.cell (p:=⟨b,off+j *3+2,none⟩) (by show b < _;omega)).trans (hc j hj).2.2⟩) h0
set_option maxRecDepth 100000 in
set_option maxHeartbeats 4000000 in
theorem Z3g(hw:Nat→Nat)(w:World)(hl:∀k,w.heap.size≤k→hw k=0)(hg:GlobOk hw w)(b off cap:Nat)(zs:List Iv)(x:Iv)(hreach:zs.length≤1000)(hz:0 < zs.length)(hcap:zs.length≤cap)(hb:b < w.heap.size)
 (hc:∀j,j < zs.length→w.cell? ⟨b,off+j *3,none⟩=some (.int .i64 (zs[j]?.getD none').lo)∧w.cell? ⟨b,off+j *3+1,none⟩=some (.int .i64 (zs[j]?.getD none').hi)∧w.cell? ⟨b,off+j *3+2,none⟩=some (.bool (zs[j]?.getD none').no)):
 CallsIn Fence.wide 5 Tryz.prog 214 #[.slice (some ⟨b,off,none⟩) zs.length cap,ivV x] w fun e w'=>∃v,e= .returned v∧∃hw',Qt hw w hw' w'∧v=ivV (JT (Zbx (zs[zs.length - 1]?.getD none')) x (downto (zs.take (zs.length - 1)) (zs.length - 1))):=by
 refine callsIn_of_wp_marks Tryz.func214 rfl trivial ?_ rfl
 simp only[Tryz.ntmps214,KB_,Qs_,Q1_,Nat.reduceAdd,Nat.reduceSub,Array.replicate_succ,Array.replicate_zero,List.push_toArray,List.append_toArray,QJ_,QS_,ivV]
 obtain ⟨c0,c1,c2⟩:=hc (zs.length - 1) (by omega)
 gi_wp2
 obtain ⟨w3,hw3⟩:∃w3,(((w.alloc (Obj.cells #[Value.int IntKind.i64 x.lo,Value.int IntKind.i64 x.hi,Value.bool x.no] 26)).alloc (Obj.cells #[Value.int IntKind.i64 0,Value.int IntKind.i64 0,Value.bool false] 26)).alloc
  (Obj.cells #[Value.int IntKind.i64 (zs[zs.length - 1]?.getD none').lo,Value.int IntKind.i64 (zs[zs.length - 1]?.getD none').hi,Value.bool (zs[zs.length - 1]?.getD none').no] 26))=w3:=⟨_,rfl⟩
 have hB3:Below w.heap.size w w3:=by rw[←hw3];exact (((Below.refl _ w).alloc (Q2_ _) _).alloc (by simp) _).alloc (by simp;omega) _
 have q3:Qt hw w hw w3:=⟨hB3,fun _ _=>rfl,fun k hk=>hl k (by have:=hB3.size;omega)⟩
 have f3:HF hw w x (zs[zs.length - 1]?.getD none') w3:=by
  refine ⟨⟨_,q3⟩, ?_, ?_, ?_⟩
  ·rw[←hw3];exact ((Below.heap_alloc _ _ _ (by simp;omega)).trans ((Below.heap_alloc _ _ _ (by simp)).trans (World.alloc_heap_new w _)))
  ·rw[←hw3];exact ((Below.heap_alloc _ _ _ (by simp)).trans (by have:=World.alloc_heap_new (w.alloc (Obj.cells #[Value.int IntKind.i64 x.lo,Value.int IntKind.i64 x.hi,Value.bool x.no] 26)) (Obj.cells #[Value.int IntKind.i64 0,Value.int IntKind.i64 0,Value.bool false] 26);rwa [World.size_alloc] at this))
  ·rw[←hw3];have:=World.alloc_heap_new ((w.alloc (Obj.cells #[Value.int IntKind.i64 x.lo,Value.int IntKind.i64 x.hi,Value.bool x.no] 26)).alloc (Obj.cells #[Value.int IntKind.i64 0,Value.int IntKind.i64 0,Value.bool false] 26)) (Obj.cells #[Value.int IntKind.i64 (zs[zs.length - 1]?.getD none').lo,Value.int IntKind.i64 (zs[zs.length - 1]?.getD none').hi,Value.bool (zs[zs.length - 1]?.getD none').no] 26);rwa [World.size_alloc,World.size_alloc] at this
 rw[hw3]
 clear hw3
 refine ⟨trivial,(callsIn_wide.2 (Zc7 (Ztc (zs[zs.length - 1]?.getD none')) Tryz.call62 q3.hwlt (ZfJ hl hg q3) (Z0N (Zb3 _)))).mono ?_⟩
 rintro e W1 ⟨v,rfl,hw1,q1,hr⟩
 obtain rfl:=ZH hr
 have f4:=f3.kept hl q3 q1
 obtain ⟨d0,d1,d2,d3,d4,d5⟩:=Yw f4.o
 have hlen:(zs.take (zs.length - 1)).length=zs.length - 1:=by rw[K4_];omega
 gi_wp2
 ·have h':(!right (zs[zs.length - 1]?.getD none'))=true:=by assumption
  have hO:Zbx (zs[zs.length - 1]?.getD none')=none':=by unfold Zbx;rw[show right (zs[zs.length - 1]?.getD none')=false by simpa using h'];rfl
  refine ⟨trivial,(callsIn_wide.2 (Zc7 Zw5 Tryz.call64 q1.hwlt (ZfJ hl hg ⟨q3.below.trans (q1.below.mono hB3.size),fun k hk=>(q1.hw k (Kc_ hk hB3.size)).trans (q3.hw k hk),q1.hwlt⟩) ZC7)).mono ?_⟩
  rintro e W2 ⟨v,rfl,hw2,q2,r2⟩
  obtain rfl:=Zir r2
  have f4b:=f4.kept hl ⟨q3.below.trans (q1.below.mono hB3.size),fun k hk=>(q1.hw k (Kc_ hk hB3.size)).trans (q3.hw k hk),q1.hwlt⟩ q2
  obtain ⟨g0,g1,g2,g3,g4,g5⟩:=Yw f4b.o
  dsimp only[ivV]
  gi_wp2
  clear f4
  have f4:=f4b.setO none'
  obtain ⟨W,hWe⟩:∃W,WQ W2 (w.heap.size+1+1) none'=W:=⟨_,rfl⟩
  rw[hWe] at f4
  have hWe':(((W2.setCell {block:=w.heap.size+1+1,off:=0} (Value.int IntKind.i64 none'.lo)).setCell {block:=w.heap.size+1+1,off:=1} (Value.int IntKind.i64 none'.hi)).setCell {block:=w.heap.size+1+1,off:=2} (Value.bool none'.no))=W:=hWe
  rw[hWe']
  refine ⟨trivial,(Z8W Fence.wide 4 trivial rfl _ _ _ _).mono ?_⟩
  rintro e w'' ⟨rfl,rfl⟩
  gi_wp2
  have hs:=f4.size
  have hB:Below w.heap.size w W:=f4.q.elim fun _ q=>q.below
  have hnew:(W.alloc (.cells #[.slice (some ⟨b,off,none⟩) (zs.length - 1) cap] 172)).cell? ⟨W.heap.size,0,none⟩=some (.slice (some ⟨b,off,none⟩) (zs.take (zs.length - 1)).length cap):=by
   rw[hlen];simp only[World.cell?,World.alloc_heap_new];rfl
  have hcc:∀j,j < (zs.take (zs.length - 1)).length→(W.alloc (.cells #[.slice (some ⟨b,off,none⟩) (zs.length - 1) cap] 172)).cell? ⟨b,off+j *3,none⟩=some (.int .i64 ((zs.take (zs.length - 1))[j]?.getD none').lo)∧(W.alloc (.cells #[.slice (some ⟨b,off,none⟩) (zs.length - 1) cap] 172)).cell? ⟨b,off+j *3+1,none⟩=some (.int .i64 ((zs.take (zs.length - 1))[j]?.getD none').hi)∧(W.alloc (.cells #[.slice (some ⟨b,off,none⟩) (zs.length - 1) cap] 172)).cell? ⟨b,off+j *3+2,none⟩=some (.bool ((zs.take (zs.length - 1))[j]?.getD none').no):=by
   intro j hj
   rw[hlen] at hj
   have hbw:b < W.heap.size:=by omega
   have hB2:=hB.alloc hB.size (.cells #[.slice (some ⟨b,off,none⟩) (zs.length - 1) cap] 172)
   rw[Kk_ hj]
   obtain ⟨g0,g1,g2⟩:=hc j (by omega)
   exact ⟨(hB2.cell (p:=⟨b,off+j *3,none⟩) hb).trans g0,(hB2.cell (p:=⟨b,off+j *3+1,none⟩) hb).trans g1,(hB2.cell (p:=⟨b,off+j *3+2,none⟩) hb).trans g2⟩
  have f5:HF hw w x none' (W.alloc (.cells #[.slice (some ⟨b,off,none⟩) (zs.length - 1) cap] 172)):=f4.own (World.grownBy_alloc W _ none) (fun r e=>by cases e)
  refine wpIn_rangeFunc_ownH rfl (by omega) (gf:=223) (lb:=#[.pointer (some ⟨W.heap.size,0,none⟩)]) rfl trivial Tryz.call223
   (ZwR 4 (by omega) W.heap.size w.heap.size b off cap (zs.take (zs.length - 1)) (by omega) _ (by simp) (by simp;omega) hb hnew hcc) (fun h k=>h.trans k)
   (fun X l ob ob' hl' hob _ _=>⟨(Below.refl _ X).grown (grownBy_putObj' X l ob') (by have:=(QL_.1 hob).1;simp at hl';omega) (fun k e=>by cases e;simp at hl';omega),World.putObj_heap_other (by simp at hl';omega)⟩)
   (Below.refl _ _) (fun _=>rfl)
   (fun pre X=>HF hw w x (JT none' x pre) X∧W.heap.size+1≤X.heap.size) (fun _ _ _=>False)
   (fun pre X Y row h hg' hr'=>⟨h.1.own hg' (fun r e=>by have:=(hr' r e).1;simp at this;omega),QT_ h.2 hg'.size⟩)
   (fun _ _ _ _ _ hs _ _=>hs) ⟨f5,by simp⟩
   (fun p a' X=>∃k7,X.heap[k7]?=some (ivO p.2)∧W.heap.size+1≤k7∧a'={tmps:=#[Value.slice (some ⟨b,off,none⟩) zs.length cap,ivV x,undef,.pointer (some ⟨w.heap.size,0,none⟩),.pointer (some ⟨w.heap.size+1,0,none⟩),.pointer (some ⟨w.heap.size+1+1,0,none⟩),undef,.pointer (some ⟨k7,0,none⟩),
     Value.slice (some ⟨b,off,none⟩) zs.length cap,.int .i64 zs.length,.bool false,undef,Value.slice (some ⟨b,off,none⟩) zs.length cap,Value.slice (some ⟨b,off,none⟩) zs.length cap,.int .i64 zs.length,.int .i64 (zs.length - 1),
     .pointer (some ⟨b,off+(zs.length - 1)*3,none⟩),ivV (zs[zs.length - 1]?.getD none'),ivV (zs[zs.length - 1]?.getD none'),.bool (right (zs[zs.length - 1]?.getD none')),.bool true,ivV none',Value.slice (some ⟨b,off,none⟩) zs.length cap,Value.slice (some ⟨b,off,none⟩) zs.length cap,.int .i64 zs.length,.int .i64 (zs.length - 1),
     Value.slice (some ⟨b,off,none⟩) (zs.length - 1) cap,.func (.func 223) #[] #[.pointer (some ⟨W.heap.size,0,none⟩)],.int .i64 p.1,ivV p.2,undef,undef,undef,undef,undef,undef],defers:=[]})
   ?ax ?assign ?body ?done ?stop
  case ax=>
   rintro p a' _ X Y row ⟨k7,h7,hk7,rfl⟩ hg' hr'
   refine ⟨k7,(hg'.block k7 (Zis h7) (fun e=>?_)).trans h7,hk7,rfl⟩
   obtain ⟨_,ob,hob,hcl⟩:=hr' k7 e.symm
   rw[h7] at hob;cases hob;cases hcl
  case assign=>
   rintro l pre ⟨i,v⟩ X K hI hK
   dsimp only[ivV] at hK ⊢
   gi_wp2
   exact hK _ _ (KeepsFrom.of_grownBy (World.grownBy_alloc X _ none) (fun j e=>by cases e)) ⟨(Below.refl _ X).alloc (by have:=hI.1.size;omega) _,Below.heap_alloc _ _ _ (by omega)⟩ ⟨hI.1.own (World.grownBy_alloc X _ none) (fun r e=>by cases e),by have:=hI.2;simp;omega⟩ ⟨X.heap.size,World.alloc_heap_new X _,hI.2,rfl⟩
  case body=>
   rintro l pre ⟨i,v⟩ a' X hl' _ ⟨hI,hX⟩ ⟨k7,h7,hk7,rfl⟩ hpl
   have hmx:Tryz.prog.follows .mixedOrders=true:=by kernel_rfl
   dsimp only[ivV]
   obtain ⟨a0,a1,a2,a3,a4,a5⟩:=Yw hI.o
   obtain ⟨b0,b1,b2,b3,b4,b5⟩:=Yw hI.x
   obtain ⟨e0,e1,e2,e3,e4,e5⟩:=Yw h7
   obtain ⟨hwx,qx⟩:=hI.drew.q
   gi_wp2
   gi_region_with_o (first
    | (refine ⟨trivial, ?_⟩
       gi_at_call 195
       refine (CallsIn.inRound l (callsIn_wide.2 (Zc7 (ZlD (JT none' x pre) x) Tryz.call195 qx.hwlt (ZfJ hl hg qx) (Zu2 (Zb3 _) (Zb3 _))))).mono ?_
       rintro e W5 ⟨v5,rfl,hw5,q5,r5⟩
       obtain rfl:=Zir r5
       dsimp only[ivV]
       have f6:=hI.drew.kept hl qx q5
       have h7':W5.heap[k7]?=some (ivO v):=(q5.below.block _ (Zis h7)).trans h7
       obtain ⟨m0,m1,m2,m3,m4,m5⟩:=Yw f6.o
       obtain ⟨l0,l1,l2,l3,l4,l5⟩:=Yw h7'
       obtain ⟨hw6,q6⟩:=f6.q)
    | (refine ⟨trivial, ?_⟩
       gi_at_call 128
       refine (CallsIn.inRound l (callsIn_wide.2 (Zc7 (Zsa (Zl (JT none' x pre) x) v) Tryz.call128 q6.hwlt (ZfJ hl hg q6) (Zu2 (Zb3 _) (Zb3 _))))).mono ?_
       rintro e W7 ⟨v7,rfl,hw7,q7,r7⟩
       obtain rfl:=Zir r7
       dsimp only[ivV]
       have f8:=f6.kept hl q6 q7
       obtain ⟨n0,n1,n2,n3,n4,n5⟩:=Yw f8.o))
   all_goals gi_wp2
   all_goals (have hR:=Zqb (B:=(W.alloc (.cells #[.slice (some ⟨b,off,none⟩) (zs.length - 1) cap] 172)).heap.size) (y:=add (Zl (JT none' x pre) x) v) hI f8 q5 q7 (Bs:=W.heap.size) (by omega) (by omega))
   all_goals (exact ⟨hR.1,hR.2.1,by rw[Zqc];exact hR.2.2.1,QT_ hX hR.2.2.2⟩)
  case done=>
   rintro D ys X hD rfl ⟨hI,hX⟩ hK
   obtain ⟨a0,a1,a2,a3,a4,a5⟩:=Yw hI.o
   obtain ⟨b0,b1,b2,b3,b4,b5⟩:=Yw hI.r
   gi_wp2
   obtain ⟨y,hy⟩:∃y,JT none' x (downto (List.take (zs.length - 1) zs) (zs.length - 1))=y:=⟨_,rfl⟩
   rw[hlen] at hI
   (try rw[hO])
   rw[hy]
   rw[hy] at hI
   simp at hD
   have hk:D≠w.heap.size+1:=by omega
   have hK':(WQ X (w.heap.size+1) y).heap[D]?=some (.deferred (some [])):=(Zdq X y hk).trans hK
   refine ⟨by simp,.inl ⟨_,_,rfl,run_takeDeferred hK', ?_⟩⟩
   have h4:((WQ X (w.heap.size+1) y).putObj D (.deferred none)).heap[w.heap.size+1]?=some (ivO y):=(World.putObj_heap_other (fun e=>hk e.symm)).trans (Zsd hI.r)
   obtain ⟨m0,m1,m2,_,_,_⟩:=Yw h4
   obtain ⟨hwf,qf⟩:=hI.q
   refine ⟨ivV y, ?_,rfl,hwf, ?_⟩
   ·show (results Tryz.f214 _).run Tryz.prog ((WQ X (w.heap.size+1) y).putObj D (.deferred none))= .ok (ivV y) ((WQ X (w.heap.size+1) y).putObj D (.deferred none))
    obtain ⟨Z,hZ⟩:∃Z,(WQ X (w.heap.size+1) y).putObj D (.deferred none)=Z:=⟨_,rfl⟩
    rw[hZ] at m0 m1 m2 ⊢
    simp[results,Tryz.f214,go_sem,m0,m1,m2,ivV]
   ·exact ⟨(Zfz qf.below (by omega) y).grown (grownBy_putObj' _ D _) (by have:=qf.below.size;rw[Zc8];omega) (fun k e=>by cases e;omega),qf.hw,fun k hk=>qf.hwlt k (by simp[Zc8] at hk;exact hk)⟩
  case stop=>
   rintro D c pre X _ _ h _
   exact h.elim
 ·have h':(!right (zs[zs.length - 1]?.getD none'))=false:=by assumption
  have hO:Zbx (zs[zs.length - 1]?.getD none')=zs[zs.length - 1]?.getD none':=by unfold Zbx;rw[show right (zs[zs.length - 1]?.getD none')=true by simpa using h'];rfl
  obtain ⟨W,hWe⟩:∃W,W1=W:=⟨_,rfl⟩
  rw[hWe] at f4 q1 ⊢
  refine ⟨trivial,(Z8W Fence.wide 4 trivial rfl _ _ _ _).mono ?_⟩
  rintro e w'' ⟨rfl,rfl⟩
  gi_wp2
  have hs:=f4.size
  have hB:Below w.heap.size w W:=f4.q.elim fun _ q=>q.below
  have hnew:(W.alloc (.cells #[.slice (some ⟨b,off,none⟩) (zs.length - 1) cap] 172)).cell? ⟨W.heap.size,0,none⟩=some (.slice (some ⟨b,off,none⟩) (zs.take (zs.length - 1)).length cap):=by
   rw[hlen];simp only[World.cell?,World.alloc_heap_new];rfl
  have hcc:∀j,j < (zs.take (zs.length - 1)).length→(W.alloc (.cells #[.slice (some ⟨b,off,none⟩) (zs.length - 1) cap] 172)).cell? ⟨b,off+j *3,none⟩=some (.int .i64 ((zs.take (zs.length - 1))[j]?.getD none').lo)∧(W.alloc (.cells #[.slice (some ⟨b,off,none⟩) (zs.length - 1) cap] 172)).cell? ⟨b,off+j *3+1,none⟩=some (.int .i64 ((zs.take (zs.length - 1))[j]?.getD none').hi)∧(W.alloc (.cells #[.slice (some ⟨b,off,none⟩) (zs.length - 1) cap] 172)).cell? ⟨b,off+j *3+2,none⟩=some (.bool ((zs.take (zs.length - 1))[j]?.getD none').no):=by
   intro j hj
   rw[hlen] at hj
   have hbw:b < W.heap.size:=by omega
   have hB2:=hB.alloc hB.size (.cells #[.slice (some ⟨b,off,none⟩) (zs.length - 1) cap] 172)
   rw[Kk_ hj]
   obtain ⟨g0,g1,g2⟩:=hc j (by omega)
   exact ⟨(hB2.cell (p:=⟨b,off+j *3,none⟩) hb).trans g0,(hB2.cell (p:=⟨b,off+j *3+1,none⟩) hb).trans g1,(hB2.cell (p:=⟨b,off+j *3+2,none⟩) hb).trans g2⟩
  have f5:HF hw w x (zs[zs.length - 1]?.getD none') (W.alloc (.cells #[.slice (some ⟨b,off,none⟩) (zs.length - 1) cap] 172)):=f4.own (World.grownBy_alloc W _ none) (fun r e=>by cases e)
  refine wpIn_rangeFunc_ownH rfl (by omega) (gf:=223) (lb:=#[.pointer (some ⟨W.heap.size,0,none⟩)]) rfl trivial Tryz.call223
   (ZwR 4 (by omega) W.heap.size w.heap.size b off cap (zs.take (zs.length - 1)) (by omega) _ (by simp) (by simp;omega) hb hnew hcc) (fun h k=>h.trans k)
   (fun X l ob ob' hl' hob _ _=>⟨(Below.refl _ X).grown (grownBy_putObj' X l ob') (by have:=(QL_.1 hob).1;simp at hl';omega) (fun k e=>by cases e;simp at hl';omega),World.putObj_heap_other (by simp at hl';omega)⟩)
   (Below.refl _ _) (fun _=>rfl)
   (fun pre X=>HF hw w x (JT (zs[zs.length - 1]?.getD none') x pre) X∧W.heap.size+1≤X.heap.size) (fun _ _ _=>False)
   (fun pre X Y row h hg' hr'=>⟨h.1.own hg' (fun r e=>by have:=(hr' r e).1;simp at this;omega),QT_ h.2 hg'.size⟩)
   (fun _ _ _ _ _ hs _ _=>hs) ⟨f5,by simp⟩
   (fun p a' X=>∃k7,X.heap[k7]?=some (ivO p.2)∧W.heap.size+1≤k7∧a'={tmps:=#[Value.slice (some ⟨b,off,none⟩) zs.length cap,ivV x,undef,.pointer (some ⟨w.heap.size,0,none⟩),.pointer (some ⟨w.heap.size+1,0,none⟩),.pointer (some ⟨w.heap.size+1+1,0,none⟩),undef,.pointer (some ⟨k7,0,none⟩),
     Value.slice (some ⟨b,off,none⟩) zs.length cap,.int .i64 zs.length,.bool false,undef,Value.slice (some ⟨b,off,none⟩) zs.length cap,Value.slice (some ⟨b,off,none⟩) zs.length cap,.int .i64 zs.length,.int .i64 (zs.length - 1),
     .pointer (some ⟨b,off+(zs.length - 1)*3,none⟩),ivV (zs[zs.length - 1]?.getD none'),ivV (zs[zs.length - 1]?.getD none'),.bool (right (zs[zs.length - 1]?.getD none')),.bool false,undef,Value.slice (some ⟨b,off,none⟩) zs.length cap,Value.slice (some ⟨b,off,none⟩) zs.length cap,.int .i64 zs.length,.int .i64 (zs.length - 1),
     Value.slice (some ⟨b,off,none⟩) (zs.length - 1) cap,.func (.func 223) #[] #[.pointer (some ⟨W.heap.size,0,none⟩)],.int .i64 p.1,ivV p.2,undef,undef,undef,undef,undef,undef],defers:=[]})
   ?ax ?assign ?body ?done ?stop
  case ax=>
   rintro p a' _ X Y row ⟨k7,h7,hk7,rfl⟩ hg' hr'
   refine ⟨k7,(hg'.block k7 (Zis h7) (fun e=>?_)).trans h7,hk7,rfl⟩
   obtain ⟨_,ob,hob,hcl⟩:=hr' k7 e.symm
   rw[h7] at hob;cases hob;cases hcl
  case assign=>
   rintro l pre ⟨i,v⟩ X K hI hK
   dsimp only[ivV] at hK ⊢
   gi_wp2
   exact hK _ _ (KeepsFrom.of_grownBy (World.grownBy_alloc X _ none) (fun j e=>by cases e)) ⟨(Below.refl _ X).alloc (by have:=hI.1.size;omega) _,Below.heap_alloc _ _ _ (by omega)⟩ ⟨hI.1.own (World.grownBy_alloc X _ none) (fun r e=>by cases e),by have:=hI.2;simp;omega⟩ ⟨X.heap.size,World.alloc_heap_new X _,hI.2,rfl⟩
  case body=>
   rintro l pre ⟨i,v⟩ a' X hl' _ ⟨hI,hX⟩ ⟨k7,h7,hk7,rfl⟩ hpl
   have hmx:Tryz.prog.follows .mixedOrders=true:=by kernel_rfl
   dsimp only[ivV]
   obtain ⟨a0,a1,a2,a3,a4,a5⟩:=Yw hI.o
   obtain ⟨b0,b1,b2,b3,b4,b5⟩:=Yw hI.x
   obtain ⟨e0,e1,e2,e3,e4,e5⟩:=Yw h7
   obtain ⟨hwx,qx⟩:=hI.drew.q
   gi_wp2
   gi_region_with_o (first
    | (refine ⟨trivial, ?_⟩
       gi_at_call 195
       refine (CallsIn.inRound l (callsIn_wide.2 (Zc7 (ZlD (JT (zs[zs.length - 1]?.getD none') x pre) x) Tryz.call195 qx.hwlt (ZfJ hl hg qx) (Zu2 (Zb3 _) (Zb3 _))))).mono ?_
       rintro e W5 ⟨v5,rfl,hw5,q5,r5⟩
       obtain rfl:=Zir r5
       dsimp only[ivV]
       have f6:=hI.drew.kept hl qx q5
       have h7':W5.heap[k7]?=some (ivO v):=(q5.below.block _ (Zis h7)).trans h7
       obtain ⟨m0,m1,m2,m3,m4,m5⟩:=Yw f6.o
       obtain ⟨l0,l1,l2,l3,l4,l5⟩:=Yw h7'
       obtain ⟨hw6,q6⟩:=f6.q)
    | (refine ⟨trivial, ?_⟩
       gi_at_call 128
       refine (CallsIn.inRound l (callsIn_wide.2 (Zc7 (Zsa (Zl (JT (zs[zs.length - 1]?.getD none') x pre) x) v) Tryz.call128 q6.hwlt (ZfJ hl hg q6) (Zu2 (Zb3 _) (Zb3 _))))).mono ?_
       rintro e W7 ⟨v7,rfl,hw7,q7,r7⟩
       obtain rfl:=Zir r7
       dsimp only[ivV]
       have f8:=f6.kept hl q6 q7
       obtain ⟨n0,n1,n2,n3,n4,n5⟩:=Yw f8.o))
   all_goals gi_wp2
   all_goals (have hR:=Zqb (B:=(W.alloc (.cells #[.slice (some ⟨b,off,none⟩) (zs.length - 1) cap] 172)).heap.size) (y:=add (Zl (JT (zs[zs.length - 1]?.getD none') x pre) x) v) hI f8 q5 q7 (Bs:=W.heap.size) (by omega) (by omega))
   all_goals (exact ⟨hR.1,hR.2.1,by rw[Zqc];exact hR.2.2.1,QT_ hX hR.2.2.2⟩)
  case done=>
   rintro D ys X hD rfl ⟨hI,hX⟩ hK
   obtain ⟨a0,a1,a2,a3,a4,a5⟩:=Yw hI.o
   obtain ⟨b0,b1,b2,b3,b4,b5⟩:=Yw hI.r
   gi_wp2
   obtain ⟨y,hy⟩:∃y,JT (zs[zs.length - 1]?.getD none') x (downto (List.take (zs.length - 1) zs) (zs.length - 1))=y:=⟨_,rfl⟩
   rw[hlen] at hI
   (try rw[hO])
   rw[hy]
   rw[hy] at hI
   simp at hD
   have hk:D≠w.heap.size+1:=by omega
   have hK':(WQ X (w.heap.size+1) y).heap[D]?=some (.deferred (some [])):=(Zdq X y hk).trans hK
   refine ⟨by simp,.inl ⟨_,_,rfl,run_takeDeferred hK', ?_⟩⟩
   have h4:((WQ X (w.heap.size+1) y).putObj D (.deferred none)).heap[w.heap.size+1]?=some (ivO y):=(World.putObj_heap_other (fun e=>hk e.symm)).trans (Zsd hI.r)
   obtain ⟨m0,m1,m2,_,_,_⟩:=Yw h4
   obtain ⟨hwf,qf⟩:=hI.q
   refine ⟨ivV y, ?_,rfl,hwf, ?_⟩
   ·show (results Tryz.f214 _).run Tryz.prog ((WQ X (w.heap.size+1) y).putObj D (.deferred none))= .ok (ivV y) ((WQ X (w.heap.size+1) y).putObj D (.deferred none))
    obtain ⟨Z,hZ⟩:∃Z,(WQ X (w.heap.size+1) y).putObj D (.deferred none)=Z:=⟨_,rfl⟩
    rw[hZ] at m0 m1 m2 ⊢
    simp[results,Tryz.f214,go_sem,m0,m1,m2,ivV]
   ·exact ⟨(Zfz qf.below (by omega) y).grown (grownBy_putObj' _ D _) (by have:=qf.below.size;rw[Zc8];omega) (fun k e=>by cases e;omega),qf.hw,fun k hk=>qf.hwlt k (by simp[Zc8] at hk;exact hk)⟩
  case stop=>
   rintro D c pre X _ _ h _
   exact h.elim
end Go.Men
namespace Go.Men
open Go Go.Ev Go.Proofs Go.RowKit
theorem Zn5(zs:List Iv)(x:Iv)(hz:0 < zs.length)(hreach:zs.length≤1000):
 Con Tryz.prog 214 [.lst (zs.map Iv.enc),.agg (Iv.enc x)] (.agg (Iv.enc (JT (Zbx (zs[zs.length - 1]?.getD none')) x (downto (zs.take (zs.length - 1)) (zs.length - 1))))):=by
 intro hw w vals hl hgl ha
 obtain ⟨v1,v2,rfl⟩:∃v1 v2,vals=[v1,v2]:=by
  match vals,ha.len with
  | [a,b],_=>exact ⟨a,b,rfl⟩
 have r1:=ha.rep 0 v1 _ rfl rfl
 obtain rfl:=Zir (ha.rep 1 v2 _ rfl rfl)
 refine .inr ⟨214,Tryz.call214 _ _, ?_⟩
 generalize hL:PV.lst (zs.map Iv.enc)=L at r1
 cases r1 with
 | lst xs blk off cap s c hcap hlen hc hr h1 hh=>
   cases hL
   have hs:s=3:=by
    obtain ⟨z,zz,rfl⟩:=List.exists_cons_of_length_pos hz
    exact (hlen 0 (Iv.enc z) rfl).symm
   subst hs
   simp only[Qk_] at hcap hh hc h1 ⊢
   have hb:blk < w.heap.size:=by
    by_cases h:blk < w.heap.size
    ·exact h
    ·have:=hl blk (by omega);omega
   refine (callsIn_wide.1 (Z3g hw w hl hgl blk off cap zs x hreach hz hcap hb (fun j hj=>?_))).mono ?_
   ·obtain ⟨z,hzj⟩:∃z,zs[j]?=some z:=⟨zs[j],by simp[hj]⟩
    have hx:(zs.map Iv.enc)[j]?=some (Iv.enc z):=by simp[hzj]
    have e0:=ZH (hr j 0 _ _ hx rfl)
    have e1:=ZH (hr j 1 _ _ hx rfl)
    have e2:=ZH (hr j 2 _ _ hx rfl)
    rw[hzj]
    exact ⟨by have:=hc j 0 hj (by omega);rw[e0] at this;exact this,by have:=hc j 1 hj (by omega);rw[e1] at this;exact this,by have:=hc j 2 hj (by omega);rw[e2] at this;exact this⟩
   ·rintro e w' ⟨v,rfl,hw',q,rfl⟩
    exact ⟨_,rfl,hw',q,Zb3 _⟩
 | lnil=>
   injection hL with hL
   cases zs with
   | nil=>exact absurd hz (by simp)
   | cons a l=>simp at hL
 | _=>cases hL
theorem Z6r(l:K4)(x:Iv):Con Tryz.prog 214 [.lst [Iv.enc l.a,Iv.enc l.b,Iv.enc l.c,Iv.enc l.d],.agg (Iv.enc x)] (.agg (Iv.enc (Zcv l x))):=
 Zn5 [l.a,l.b,l.c,l.d] x (by simp) (by simp)
theorem Z6s(l:K3)(x:Iv):Con Tryz.prog 214 [.lst [Iv.enc l.a,Iv.enc l.b,Iv.enc l.c],.agg (Iv.enc x)] (.agg (Iv.enc (Zcw l x))):=
 Zn5 [l.a,l.b,l.c] x (by simp) (by simp)
theorem Zte:Zh Tryz.prog 214 ZrM:=by
 intro args r ps h hp
 unfold ZrM at h
 split at h
 ·cases (Qa_ h)
  exact Z6r ⟨⟨_,_,_⟩,⟨_,_,_⟩,⟨_,_,_⟩,⟨_,_,_⟩⟩ ⟨_,_,_⟩
 ·exact absurd h (by simp)
theorem Ztf:Zh Tryz.prog 214 ZrN:=by
 intro args r ps h hp
 unfold ZrN at h
 split at h
 ·cases (Qa_ h)
  exact Z6s ⟨⟨_,_,_⟩,⟨_,_,_⟩,⟨_,_,_⟩⟩ ⟨_,_,_⟩
 ·exact absurd h (by simp)
#print axioms Zte
#print axioms Ztf
end Go.Men
namespace Go.Men
open Go.Ev Go.Proofs Go.Proofs.YtfeldacghdcghaaGreatDoor
theorem ZBH:Zh Tryz.prog 214 ZEd:=Zig Zte (Ztf)
def Zf0(l:K4):=[l.a.enc,l.b.enc,l.c.enc,l.d.enc]
def Z3h(l:K4):=[(eIv (times l.b (1:Int))),(eIv (times l.c (2:Int))),(eIv (times l.d (3:Int)))]
def Zqd:=[vI 0,vI 0,vB false]
theorem Z6t(l:K4):Con Tryz.prog 215 [.lst [Iv.enc l.a,Iv.enc l.b,Iv.enc l.c,Iv.enc l.d]] (.lst [Iv.enc (WC l).a,Iv.enc (WC l).b,Iv.enc (WC l).c]):=by
 refine cf0 (Za ZjK<|Ze) (fn:=Tryz.f215) rfl ?_
 refine sxT (fun Q=>(((0:Int)≤(0:Int)∧(Zf0 l)[(0:Nat)]?=some (ZJ Zqd ((Zf0 l).getD (0:Nat) [])))∧(((0:Int)≤(1:Int)∧(Zf0 l)[(1:Nat)]?=some (ZJ Zqd ((Zf0 l).getD (1:Nat) [])))∧(((0:Nat) < (1:Nat)∧((0:Nat)+(1:Nat))* (24:Nat)≤(140737488355328:Nat)∧Lens (3:Nat) [(eIv (times l.b (1:Int)))])∧(((0:Int)≤(2:Int)∧(Zf0 l)[(2:Nat)]?=some (ZJ Zqd ((Zf0 l).getD (2:Nat) [])))∧(((0:Nat) < (1:Nat)∧((1:Nat)+(1:Nat))* (24:Nat)≤(140737488355328:Nat)∧Lens (3:Nat) [(eIv (times l.b (1:Int))),(eIv (times l.c (2:Int)))])∧(((0:Int)≤(3:Int)∧(Zf0 l)[(3:Nat)]?=some (ZJ Zqd ((Zf0 l).getD (3:Nat) [])))∧(((0:Nat) < (1:Nat)∧((2:Nat)+(1:Nat))* (24:Nat)≤(140737488355328:Nat)∧Lens (3:Nat) (Z3h l))∧Q (PV.lst ((Z3h l))))))))))) (fun _=>by kernel_rfl) ?_
 delta Qn Zf0 Z3h Zqd eIv vI vB
 refine ⟨?r6,⟨?r5,⟨?r4,⟨?r3,⟨?r2,⟨?r1,⟨?r0, ?_⟩⟩⟩⟩⟩⟩⟩
 case r0|r1|r2|r3|r4|r5|r6=>first | rfl | (exact ⟨by decide,rfl⟩) | (exact ⟨by decide,by decide,by simp[Ev.Lens]⟩)
 all_goals rfl
theorem ZBI:Zh Tryz.prog 215 ZAY:=by
 intro args r ps h hp
 unfold ZAY at h
 split at h
 ·rename_i p1 p2 p3 p4 p5 p6 p7 p8 p9 p10 p11 p12
  cases (Qa_ h)
  exact Z6t (⟨⟨p1,p2,p3⟩,⟨p4,p5,p6⟩,⟨p7,p8,p9⟩,⟨p10,p11,p12⟩⟩:K4)
 ·exact absurd h (by simp)
def Zqe:=IntKind.i64.wrap (↑(4:Nat) - (2:Int)) - (1:Int)
def Zf1(l:K4):=[l.a.enc,l.b.enc,l.c.enc,l.d.enc]
def Zu3:=IntKind.i64.wrap Zqe - (1:Int)
def Zqf:=[vI 0,vI 0,vB false]
theorem Z3i(l:K4)(x:Iv):Con Tryz.prog 209 [.lst [Iv.enc l.a,Iv.enc l.b,Iv.enc l.c,Iv.enc l.d],.agg (Iv.enc x)] (.agg (Iv.enc (Zcv l x))):=by
 refine cf0 (Za ZbU<|Za ZaH<|Za ZbV<|Za Xp<|Za XF<|Ze) (fn:=Tryz.f209) rfl ?_
 refine sxT (fun Q=>(((0:Int)≤IntKind.i64.wrap (↑(4:Nat) - (1:Int))∧(Zf1 l)[(IntKind.i64.wrap (↑(4:Nat) - (1:Int))).toNat]?=some (ZJ Zqf ((Zf1 l).getD (IntKind.i64.wrap (↑(4:Nat) - (1:Int))).toNat [])))∧(((0:Int)≤IntKind.i64.wrap (↑(4:Nat) - (2:Int))∧(Zf1 l)[(IntKind.i64.wrap (↑(4:Nat) - (2:Int))).toNat]?=some (ZJ Zqf ((Zf1 l).getD (IntKind.i64.wrap (↑(4:Nat) - (2:Int))).toNat [])))∧(((0:Int)≤IntKind.i64.wrap Zqe∧(Zf1 l)[(IntKind.i64.wrap Zqe).toNat]?=some (ZJ Zqf ((Zf1 l).getD (IntKind.i64.wrap Zqe).toNat [])))∧(((0:Int)≤IntKind.i64.wrap Zu3∧(Zf1 l)[(IntKind.i64.wrap Zu3).toNat]?=some (ZJ Zqf ((Zf1 l).getD (IntKind.i64.wrap Zu3).toNat [])))∧(bif !right (add (Zl (add (Zl (add (Zl l.d x) l.c) x) l.b) x) l.a) then Q (PV.agg [vI 0,vI 0,vB true]) else Q (PV.agg (eIv (add (Zl (add (Zl (add (Zl l.d x) l.c) x) l.b) x) l.a))))))))) (fun _=>by kernel_rfl) ?_
 delta Qn Zqe Zf1 Zu3 Zqf eIv vI vB
 refine ⟨?r3,⟨?r2,⟨?r1,⟨?r0,Zb (fun h0=>?_) (fun h0=>?_)⟩⟩⟩⟩
 case r0|r1|r2|r3=>first | rfl | (exact ⟨by decide,rfl⟩)
 all_goals simp only[Zcv,ZkW]
 ·rw[Zga] at h0
  simp only[Ke_] at h0
  rw[Z5i _ _ h0];rfl
 ·rfl
theorem Z3j:Zh Tryz.prog 209 ZnZ:=by
 intro args r ps h hp
 unfold ZnZ at h
 split at h
 ·rename_i p1 p2 p3 p4 p5 p6 p7 p8 p9 p10 p11 p12 p13 p14 p15
  cases (Qa_ h)
  exact Z3i (⟨⟨p1,p2,p3⟩,⟨p4,p5,p6⟩,⟨p7,p8,p9⟩,⟨p10,p11,p12⟩⟩:K4) (⟨p13,p14,p15⟩:Iv)
 ·exact absurd h (by simp)
def Zu4:=IntKind.i64.wrap (↑(3:Nat) - (2:Int)) - (1:Int)
def ZjR(l:K3):=[l.a.enc,l.b.enc,l.c.enc]
theorem Z3k(l:K3)(x:Iv):Con Tryz.prog 209 [.lst [Iv.enc l.a,Iv.enc l.b,Iv.enc l.c],.agg (Iv.enc x)] (.agg (Iv.enc (Zcw l x))):=by
 refine cf0 (Za ZbU<|Za ZaH<|Za ZbV<|Za Xp<|Za XF<|Ze) (fn:=Tryz.f209) rfl ?_
 refine sxT (fun Q=>(((0:Int)≤IntKind.i64.wrap (↑(3:Nat) - (1:Int))∧(ZjR l)[(IntKind.i64.wrap (↑(3:Nat) - (1:Int))).toNat]?=some (ZJ [vI 0,vI 0,vB false] ((ZjR l).getD (IntKind.i64.wrap (↑(3:Nat) - (1:Int))).toNat [])))∧(((0:Int)≤IntKind.i64.wrap (↑(3:Nat) - (2:Int))∧(ZjR l)[(IntKind.i64.wrap (↑(3:Nat) - (2:Int))).toNat]?=some (ZJ [vI 0,vI 0,vB false] ((ZjR l).getD (IntKind.i64.wrap (↑(3:Nat) - (2:Int))).toNat [])))∧(((0:Int)≤IntKind.i64.wrap Zu4∧(ZjR l)[(IntKind.i64.wrap Zu4).toNat]?=some (ZJ [vI 0,vI 0,vB false] ((ZjR l).getD (IntKind.i64.wrap Zu4).toNat [])))∧(bif !right (add (Zl (add (Zl l.c x) l.b) x) l.a) then Q (PV.agg [vI 0,vI 0,vB true]) else Q (PV.agg (eIv (add (Zl (add (Zl l.c x) l.b) x) l.a)))))))) (fun _=>by kernel_rfl) ?_
 delta Qn Zu4 ZjR eIv vI vB
 refine ⟨?r2,⟨?r1,⟨?r0,Zb (fun h0=>?_) (fun h0=>?_)⟩⟩⟩
 case r0|r1|r2=>first | rfl | (exact ⟨by decide,rfl⟩)
 all_goals simp only[Zcw,ZkW]
 ·rw[Zga] at h0
  simp only[Ke_] at h0
  rw[Z5i _ _ h0];rfl
 ·rfl
theorem Z3l:Zh Tryz.prog 209 Zoa:=by
 intro args r ps h hp
 unfold Zoa at h
 split at h
 ·rename_i p1 p2 p3 p4 p5 p6 p7 p8 p9 p10 p11 p12
  cases (Qa_ h)
  exact Z3k (⟨⟨p1,p2,p3⟩,⟨p4,p5,p6⟩,⟨p7,p8,p9⟩⟩:K3) (⟨p10,p11,p12⟩:Iv)
 ·exact absurd h (by simp)
theorem Z6u:Zh Tryz.prog 209 ZEe:=Zig Z3j (Z3l)
def Zg4(l:K4):=[l.a.enc,l.b.enc,l.c.enc,l.d.enc]
def ZwS(l:K4):=[(eIv (times l.b (1:Int))),(eIv (times l.c (2:Int))),(eIv (times l.d (3:Int)))]
theorem Z3m(l:K4):Con Tryz.prog 210 [.lst [Iv.enc l.a,Iv.enc l.b,Iv.enc l.c,Iv.enc l.d]] (.lst [Iv.enc (WC l).a,Iv.enc (WC l).b,Iv.enc (WC l).c]):=by
 refine cf0 (Za ZjL<|Ze) (fn:=Tryz.f210) rfl ?_
 refine sxT (fun Q=>(((0:Int)≤(1:Int)∧(Zg4 l)[(1:Nat)]?=some (ZJ [vI 0,vI 0,vB false] ((Zg4 l).getD (1:Nat) [])))∧(((0:Nat) < (1:Nat)∧((0:Nat)+(1:Nat))* (24:Nat)≤(140737488355328:Nat)∧Lens (3:Nat) [(eIv (times l.b (1:Int)))])∧(((0:Int)≤(2:Int)∧(Zg4 l)[(2:Nat)]?=some (ZJ [vI 0,vI 0,vB false] ((Zg4 l).getD (2:Nat) [])))∧(((0:Nat) < (1:Nat)∧((1:Nat)+(1:Nat))* (24:Nat)≤(140737488355328:Nat)∧Lens (3:Nat) [(eIv (times l.b (1:Int))),(eIv (times l.c (2:Int)))])∧(((0:Int)≤(3:Int)∧(Zg4 l)[(3:Nat)]?=some (ZJ [vI 0,vI 0,vB false] ((Zg4 l).getD (3:Nat) [])))∧(((0:Nat) < (1:Nat)∧((2:Nat)+(1:Nat))* (24:Nat)≤(140737488355328:Nat)∧Lens (3:Nat) (ZwS l))∧Q (PV.lst ((ZwS l)))))))))) (fun _=>by kernel_rfl) ?_
 delta Qn Zg4 ZwS eIv vI vB
 refine ⟨?r5,⟨?r4,⟨?r3,⟨?r2,⟨?r1,⟨?r0, ?_⟩⟩⟩⟩⟩⟩
 case r0|r1|r2|r3|r4|r5=>first | rfl | (exact ⟨by decide,rfl⟩) | (exact ⟨by decide,by decide,by simp[Ev.Lens]⟩)
 all_goals rfl
theorem Z6v:Zh Tryz.prog 210 ZAZ:=by
 intro args r ps h hp
 unfold ZAZ at h
 split at h
 ·rename_i p1 p2 p3 p4 p5 p6 p7 p8 p9 p10 p11 p12
  cases (Qa_ h)
  exact Z3m (⟨⟨p1,p2,p3⟩,⟨p4,p5,p6⟩,⟨p7,p8,p9⟩,⟨p10,p11,p12⟩⟩:K4)
 ·exact absurd h (by simp)
theorem ZBJ:Zh Tryz.prog 213 ZEf:=Zi<|Zf fun s=>Zf fun r2=>EZ0<|by
 refine cf0 (Za Zhw<|Za Zdm<|Za ZeG<|Za Zdl<|Za ZpT<|Za Zb2<|Za Zg3<|Za ZjK<|Ze) (fn:=Tryz.f213) rfl ?_
 refine sxT (fun Q=>Q (PV.tup [PV.agg (eIv (Zp (Zl s.curve r2) (add (point (65536:Int)) (ZL (sub (point (65536:Int)) (Zl (Zl s.conic (sqr s.curve)) r2)))))),PV.agg (eIv (Zp s.curve (times (ZL (sub (point (65536:Int)) (Zl (Zl s.conic (sqr s.curve)) r2))) (2:Int))))])) (fun _=>by kernel_rfl) ?_
 delta Qn eIv vI vB
 refine ?_
 all_goals rfl
def ZwT(s:Surf)(o:V)(d:V):=Wc (Zl s.curve (add (add (sqr d.x) (sqr d.y)) (Zl s.conic (sqr d.z)))) (sub (Zl s.curve (add (add (Zl o.x d.x) (Zl o.y d.y)) (Zl s.conic (Zl o.z d.z)))) d.z) (sub (Zl s.curve (add (add (sqr o.x) (sqr o.y)) (Zl s.conic (sqr o.z)))) (times o.z (2:Int)))
theorem ZBK:Zh Tryz.prog 188 ZEg:=Zi<|Zf fun s=>Zf fun o=>Zf fun d=>EZ0<|by
 refine cf0 (Za Zdm<|Za Zb2<|Za ZeG<|Za Zdl<|Za ZjK<|Za Z5W<|Ze) (fn:=Tryz.f188) rfl ?_
 refine sxT (fun Q=>Q (PV.tup [PV.agg (eIv (ZwT s o d).fst),vI (ZwT s o d).snd])) (fun _=>by kernel_rfl) ?_
 delta Qn ZwT eIv vI vB
 refine ?_
 all_goals rfl
def ZlH:=PV.tup [PV.agg [vI 0,vI 0,vB true],PV.agg [vI 0,vI 0,vB true]]
def ZwU(s:Surf)(r2:Iv):=add (XY s r2).snd (Zp (Zcw (WC (K4.mk (point (0:Int)) (point (0:Int)) s.a4 s.a6)) (Zp r2 (whole (1000:Int)))) (whole (1000:Int)))
def ZwV(s:Surf)(r2:Iv):=add (XY s r2).fst (Zcv (K4.mk (point (0:Int)) (point (0:Int)) s.a4 s.a6) (Zp r2 (whole (1000:Int))))
theorem Z6w:Zh Tryz.prog 198 ZEh:=Zi<|Zf fun s=>Zf fun r2=>EZ0<|by
 refine cf0 (Za ZBJ<|Za Z2s<|Za Zg3<|Za Zhw<|Za ZBH<|Za Zb2<|Za ZBI<|Za Xx<|Ze) (fn:=Tryz.f198) rfl ?_
 refine sxT (fun Q=>(((XE s)=s.enc)∧(bif s.bent then (bif (ZwV s r2).no then Q ZlH else (bif (ZwU s r2).no then Q ZlH else Q (PV.tup [PV.agg (eIv (ZwV s r2)),PV.agg (eIv (ZwU s r2))]))) else (bif (XY s r2).fst.no then Q ZlH else (bif (XY s r2).snd.no then Q ZlH else Q (PV.tup [PV.agg (eIv (XY s r2).fst),PV.agg (eIv (XY s r2).snd)])))))) (fun _=>by kernel_rfl) ?_
 delta Qn ZlH ZwU ZwV eIv XE vI vB
 refine ⟨?r0,Zb (fun h0=>Zb (fun h1=>?_) (fun h1=>Zb (fun h2=>?_) (fun h2=>?_))) (fun h0=>Zb (fun h1=>?_) (fun h1=>Zb (fun h2=>?_) (fun h2=>?_)))⟩
 case r0=>rfl
 all_goals (simp only[sag,sag,Zps,Z1E,Z1F,ZC,ZB,List.foldl,Qr_,Qp_,Ql_,Qn_,Q5_,Q4_,Qw_,Q3_,Qu_,Qt_,Qb_,Qd_,QD_,Q8_, *];first | rfl | (simp only[nz,nzA,nz1,QE_,QN_,Iv.enc,V.enc,Ray.enc, *];done))
def ZlI(s:Surf)(r2:Iv):=ZL (sub (point (65536:Int)) (Zl (Zl s.conic (sqr s.curve)) r2))
def ZlJ:=PV.tup [PV.agg [vI 0,vI 0,vB true],PV.agg [vI 0,vI 0,vB true]]
def ZwW(s:Surf)(r2:Iv):=add (Zp s.curve (times (ZlI s r2) (2:Int))) (Zp (Zcw (WC (K4.mk (point (0:Int)) (point (0:Int)) s.a4 s.a6)) (Zp r2 (whole (1000:Int)))) (whole (1000:Int)))
def Zqg(s:Surf)(r2:Iv):=Zp (Zl s.curve r2) (add (point (65536:Int)) (ZlI s r2))
def ZwX(s:Surf)(r2:Iv):=add (Zqg s r2) (Zcv (K4.mk (point (0:Int)) (point (0:Int)) s.a4 s.a6) (Zp r2 (whole (1000:Int))))
theorem Z6x:Zh Tryz.prog 184 ZEi:=Zi<|Zf fun s=>Zf fun r2=>EZ0<|by
 refine cf0 (Za ZbU<|Za Zdn<|Za ZaH<|Za ZaG<|Za ZlE<|Za ZbV<|Za Zhx<|Za ZjL<|Za Z2t<|Za Z6u<|Za Z6v<|Za Xp<|Za Zqa<|Ze) (fn:=Tryz.f184) rfl ?_
 refine sxT (fun Q=>(bif s.bent then (bif !right (ZwX s r2) then Q ZlJ else (bif !right (ZwW s r2) then Q ZlJ else Q (PV.tup [PV.agg (eIv (ZwX s r2)),PV.agg (eIv (ZwW s r2))]))) else (bif !right (Zqg s r2) then Q ZlJ else (bif !right (Zp s.curve (times (ZlI s r2) (2:Int))) then Q ZlJ else Q (PV.tup [PV.agg (eIv (Zqg s r2)),PV.agg (eIv (Zp s.curve (times (ZlI s r2) (2:Int))))]))))) (fun _=>by kernel_rfl) ?_
 delta Qn ZlI ZlJ ZwW Zqg ZwX eIv vI vB
 refine Zb (fun h0=>Zb (fun h1=>?_) (fun h1=>Zb (fun h2=>?_) (fun h2=>?_))) (fun h0=>Zb (fun h1=>?_) (fun h1=>Zb (fun h2=>?_) (fun h2=>?_)))
 all_goals (try simp only[Zga,ZcP,Z5f,ZvU,Zgb,Z5g,Zs5,ZvV,ZnP,ZvW,Zwb,Zpw,Zik,Z0z,Z00,Ke_,Qi_,Qf_,bne] at *)
 all_goals (simp only[sag,sag,Zps,Z1E,Z1F,XY,Z77,ZC,ZB,List.foldl,Qr_,Qp_,Ql_,Qn_,Q5_,Q4_,Qw_,Q3_,Qu_,Qt_,Qb_,Qd_,QD_,Q8_, *];first | rfl | (simp only[nz,nzA,nz1,QE_,QN_,Iv.enc,V.enc,Ray.enc, *];done))
theorem ZBL:Zh Tryz.prog 166 ZEj:=Zi<|Zf fun s=>Zf fun p=>EZ0<|by
 refine cf0 (Za Zhw<|Za ZeG<|Za Z5H<|Za Zdl<|Za Zel<|Za Z8V<|Za Zdm<|Za Zb2<|Za Z6w<|Za ZjK<|Ze) (fn:=Tryz.f166) rfl ?_
 refine sxT (fun Q=>(bif !s.bent then Q (PV.agg (eV (unit (V.mk (neg (Zl s.curve p.x)) (neg (Zl s.curve p.y)) (sub (point (65536:Int)) (Zl s.curve (Zl s.conic p.z))))))) else (((XE s)=s.enc)∧Q (PV.agg (eV (unit (V.mk (neg (times (Zl (sag s (add (sqr p.x) (sqr p.y))).snd p.x) (2:Int))) (neg (times (Zl (sag s (add (sqr p.x) (sqr p.y))).snd p.y) (2:Int))) (point (65536:Int))))))))) (fun _=>by kernel_rfl) ?_
 delta Qn eV XE vI vB
 refine Zb (fun h0=>?_) (fun h0=>⟨?r0, ?_⟩)
 case r0=>rfl
 all_goals (try simp only[Qi_,Qf_,bne] at *)
 all_goals (simp only[Zch,ZC,ZB,List.foldl,Qr_,Qp_,Ql_,Qn_,Q5_,Q4_,Qw_,Q3_,Qu_,Qt_,Qb_,Qd_,QD_,Q8_, *];rfl)
theorem ZBM:Zh Tryz.prog 144 ZEk:=Zi<|Zf fun s=>Zf fun p=>EZ0<|by
 refine cf0 (Za ZbU<|Za ZaH<|Za ZBn<|Za ZaG<|Za Z6c<|Za Zdn<|Za ZbV<|Za Z6x<|Za ZjL<|Ze) (fn:=Tryz.f144) rfl ?_
 refine sxT (fun Q=>(bif !s.bent then Q (PV.agg (eV (unit (V.mk (neg (Zl s.curve p.x)) (neg (Zl s.curve p.y)) (sub (point (65536:Int)) (Zl s.curve (Zl s.conic p.z))))))) else (((XE s)=s.enc)∧Q (PV.agg (eV (unit (V.mk (neg (times (Zl (sag s (add (sqr p.x) (sqr p.y))).snd p.x) (2:Int))) (neg (times (Zl (sag s (add (sqr p.x) (sqr p.y))).snd p.y) (2:Int))) (point (65536:Int))))))))) (fun _=>by kernel_rfl) ?_
 delta Qn eV XE vI vB
 refine Zb (fun h0=>?_) (fun h0=>⟨?r0, ?_⟩)
 case r0=>rfl
 all_goals (try simp only[Zga,ZcP,Z5f,ZvU,Zgb,Z5g,Zs5,ZvV,ZnP,ZvW,Zwb,Zpw,Zik,Z0z,Z00,Ke_,Qi_,Qf_,bne] at *)
 all_goals (simp only[Zch,ZC,ZB,List.foldl,Qr_,Qp_,Ql_,Qn_,Q5_,Q4_,Qw_,Q3_,Qu_,Qt_,Qb_,Qd_,QD_,Q8_, *];rfl)
def ZwY:=[vI 0,vI 0,vB true,vI 0,vI 0,vB true,vI 0,vI 0,vB true]
def Zit:=PV.tup [PV.agg ZwY,vI 0]
def Ziu(d:V)(n:V)(ratio:Iv):=sub (point (65536:Int)) (Zl (sqr ratio) (sub (point (65536:Int)) (sqr (dot d n))))
theorem ZBN:Zh Tryz.prog 165 ZEl:=Zi<|Zf fun d=>Zf fun n=>Zf fun ratio=>EZ0<|by
 refine cf0 (Za Zhw<|Za Z5Y<|Za ZBC<|Za Zdm<|Za Zdl<|Za ZeG<|Za Z6m<|Za ZpT<|Za Z6k<|Za ZwO<|Ze) (fn:=Tryz.f165) rfl ?_
 refine sxT (fun Q=>(bif (dot d n).no then Q Zit else (bif decide ((dot d n).lo≤(0:Int)) then Q Zit else (bif (Ziu d n ratio).no then Q Zit else (bif decide ((Ziu d n ratio).hi < (0:Int)) then Q (PV.tup [PV.agg ZwY,vI 2]) else (bif decide ((Ziu d n ratio).lo < (0:Int)) then Q Zit else (bif !Yn (ZhI (WB d ratio) (WB n (sub (ZL (Ziu d n ratio)) (Zl ratio (dot d n))))) then Q Zit else Q (PV.tup [PV.agg (eV (ZhI (WB d ratio) (WB n (sub (ZL (Ziu d n ratio)) (Zl ratio (dot d n)))))),vI 1])))))))) (fun _=>by kernel_rfl) ?_
 delta Qn Zit Ziu ZwY eV vI vB
 refine Zb (fun h0=>?_) (fun h0=>Zb (fun h1=>?_) (fun h1=>Zb (fun h2=>?_) (fun h2=>Zb (fun h3=>?_) (fun h3=>Zb (fun h4=>?_) (fun h4=>Zb (fun h5=>?_) (fun h5=>?_))))))
 all_goals (try simp only[Zpw,ZcP,Ke_,Qi_,Qf_,Qc_,Qe_] at *)
 all_goals simp only[bend,ZmL,ZtZ, *,QD_,Q8_,Q5_,Q4_,Q3_,Bool.or_self,Qb_,Qd_]
 all_goals rfl
def ZwZ:=[vI 0,vI 0,vB true,vI 0,vI 0,vB true,vI 0,vI 0,vB true]
def Ziv:=PV.tup [PV.agg ZwZ,vI 0]
def Ziw(d:V)(n:V)(ratio:Iv):=sub (point (65536:Int)) (Zl (sqr ratio) (sub (point (65536:Int)) (sqr (dot d n))))
theorem ZBO:Zh Tryz.prog 143 ZEm:=Zi<|Zf fun d=>Zf fun n=>Zf fun ratio=>EZ0<|by
 refine cf0 (Za ZbU<|Za Z5Z<|Za Xp<|Za ZwQ<|Za Zdn<|Za ZaG<|Za ZaH<|Za Z6n<|Za ZlE<|Za Z6l<|Za ZwP<|Ze) (fn:=Tryz.f143) rfl ?_
 refine sxT (fun Q=>(bif !right (dot d n) then Q Ziv else (bif decide ((dot d n).lo≤(0:Int)) then Q Ziv else (bif !right (Ziw d n ratio) then Q Ziv else (bif decide ((Ziw d n ratio).hi < (0:Int)) then Q (PV.tup [PV.agg ZwZ,vI 2]) else (bif decide ((Ziw d n ratio).lo < (0:Int)) then Q Ziv else (bif !Yn (ZhI (WB d ratio) (WB n (sub (ZL (Ziw d n ratio)) (Zl ratio (dot d n))))) then Q Ziv else Q (PV.tup [PV.agg (eV (ZhI (WB d ratio) (WB n (sub (ZL (Ziw d n ratio)) (Zl ratio (dot d n)))))),vI 1])))))))) (fun _=>by kernel_rfl) ?_
 delta Qn Ziv Ziw ZwZ eV vI vB
 refine Zb (fun h0=>?_) (fun h0=>Zb (fun h1=>?_) (fun h1=>Zb (fun h2=>?_) (fun h2=>Zb (fun h3=>?_) (fun h3=>Zb (fun h4=>?_) (fun h4=>Zb (fun h5=>?_) (fun h5=>?_))))))
 all_goals (try simp only[Zpw,ZcP,Ke_,Qi_,Qf_,Qc_,Qe_] at *)
 all_goals simp only[bend,ZmL,ZtZ, *,QD_,Q8_,Q5_,Q4_,Q3_,Bool.or_self,Qb_,Qd_]
 all_goals rfl
theorem Zxa:Zh Tryz.prog 211 ZBa:=Zi<|Zf fun t=>Zf fun r=>Zf fun s=>EZ0<|by
 refine cf0 (Za Z6o<|Za Zdm<|Za Zb2<|Za Z6w<|Za ZeG<|Za ZjK<|Za Zdl<|Ze) (fn:=Tryz.f211) rfl ?_
 refine sxT (fun Q=>(((XE s)=s.enc)∧Q (PV.tup [PV.agg (eIv (sub (along r t).z (sag s (add (sqr (along r t).x) (sqr (along r t).y))).fst)),PV.agg (eIv (sub r.d.z (Zl (sag s (add (sqr (along r t).x) (sqr (along r t).y))).snd (times (add (Zl (along r t).x r.d.x) (Zl (along r t).y r.d.y)) (2:Int)))))]))) (fun _=>by kernel_rfl) ?_
 delta Qn eIv XE vI vB
 refine ⟨?r0, ?_⟩
 case r0=>rfl
 all_goals rfl
theorem ZBP:Zh Tryz.prog 207 ZBb:=Zi<|Zf fun v=>EZ0<|by
 refine cf0 (Za Xp<|Za ZB6<|Ze) (fn:=Tryz.f207) rfl ?_
 refine sxT (fun Q=>(bif right v then Q (vB (!Men.has v (0:Int))) else Q (vB false))) (fun _=>by kernel_rfl) ?_
 delta Qn vB
 refine Zb (fun h0=>?_) (fun h0=>?_)
 all_goals (simp only[ZaW,ZC,ZB,List.foldl,Qr_,Qp_,Ql_,Qn_,Q5_,Q4_,Qw_,Q3_,Qu_,Qt_,Qb_,Qd_,QD_,Q8_, *];rfl)
end Go.Men
