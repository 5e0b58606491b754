import PyProof.Rows.All
import Wide.All
import OpenK.KMake
import OpenK.KCell
import Open.Line
import Lean
import PySem.Challenge.RW_nn0309_01
open PySem PySem.W PyProof.Rows
set_option Elab.async false
set_option tactic.hygienic false
set_option maxRecDepth 100000
set_option autoImplicit false
set_option linter.unusedSimpArgs false
set_option linter.unusedVariables false
set_option genSizeOf false
set_option genInjectivity false
set_option compiler.extract_closed false
namespace Mine
theorem jE(h:True:=by decide):True:=h
theorem Gy(h:True:=by with_unfolding_all rfl):True:=h
theorem my(h:True:=by intro _;rfl):True:=h
theorem jY(h:True:=by rfl):True:=h
theorem qf(h:True:=by intro _ _;rfl):True:=h
theorem Mm(h:True:=by intro _;with_unfolding_all rfl):True:=h
theorem aj.{eo}{dE:Sort eo}{P:dE→Prop}{G:Prop}(k:∀x0,P x0→G) (h:∃x0,P x0):G:=h.elim fun x0 h=>k x0 h
theorem bZ.{eo,eE}{dE:Sort eo}{dO:Sort eE}{P:dE→dO→Prop}{G:Prop}(k:∀x0 bW,P x0 bW→G) (h:∃x0 bW,P x0 bW):G:=h.elim fun x0 h=>h.elim fun bW h=>k x0 bW h
theorem bG.{eo,eE,fg}{dE:Sort eo}{dO:Sort eE}{d9:Sort fg}{P:dE→dO→d9→Prop}{G:Prop}(k:∀x0 bW cy,P x0 bW cy→G) (h:∃x0 bW cy,P x0 bW cy):G:=h.elim fun x0 h=>h.elim fun bW h=>h.elim fun cy h=>k x0 bW cy h
theorem dF.{eo,eE,fg,fX}{dE:Sort eo}{dO:Sort eE}{d9:Sort fg}{eO:Sort fX}{P:dE→dO→d9→eO→Prop}{G:Prop}(k:∀x0 bW cy c7,P x0 bW cy c7→G) (h:∃x0 bW cy c7,P x0 bW cy c7):G:=h.elim fun x0 h=>h.elim fun bW h=>h.elim fun cy h=>h.elim fun c7 h=>k x0 bW cy c7 h
theorem jt.{eo,eE,fg,fX,gU}{dE:Sort eo}{dO:Sort eE}{d9:Sort fg}{eO:Sort fX}{fH:Sort gU}{P:dE→dO→d9→eO→fH→Prop}{G:Prop}(k:∀x0 bW cy c7 dp,P x0 bW cy c7 dp→G) (h:∃x0 bW cy c7 dp,P x0 bW cy c7 dp):G:=h.elim fun x0 h=>h.elim fun bW h=>h.elim fun cy h=>h.elim fun c7 h=>h.elim fun dp h=>k x0 bW cy c7 dp h
theorem o3.{eo,eE,fg,fX,gU,ja}{dE:Sort eo}{dO:Sort eE}{d9:Sort fg}{eO:Sort fX}{fH:Sort gU}{gF:Sort ja}{P:dE→dO→d9→eO→fH→gF→Prop}{G:Prop}(k:∀x0 bW cy c7 dp dP,P x0 bW cy c7 dp dP→G) (h:∃x0 bW cy c7 dp dP,P x0 bW cy c7 dp dP):G:=h.elim fun x0 h=>h.elim fun bW h=>h.elim fun cy h=>h.elim fun c7 h=>h.elim fun dp h=>h.elim fun dP h=>k x0 bW cy c7 dp dP h
theorem Mn.{eo,eE,fg,fX,gU,ja,kq}{dE:Sort eo}{dO:Sort eE}{d9:Sort fg}{eO:Sort fX}{fH:Sort gU}{gF:Sort ja}{jb:Sort kq}{P:dE→dO→d9→eO→fH→gF→jb→Prop}{G:Prop}(k:∀x0 bW cy c7 dp dP fh,P x0 bW cy c7 dp dP fh→G) (h:∃x0 bW cy c7 dp dP fh,P x0 bW cy c7 dp dP fh):G:=h.elim fun x0 h=>h.elim fun bW h=>h.elim fun cy h=>h.elim fun c7 h=>h.elim fun dp h=>h.elim fun dP h=>h.elim fun fh h=>k x0 bW cy c7 dp dP fh h
theorem Mp.{eo,eE,fg,fX,gU,ja,kq,m6}{dE:Sort eo}{dO:Sort eE}{d9:Sort fg}{eO:Sort fX}{fH:Sort gU}{gF:Sort ja}{jb:Sort kq}{kW:Sort m6}{P:dE→dO→d9→eO→fH→gF→jb→kW→Prop}{G:Prop}(k:∀x0 bW cy c7 dp dP fh gv,P x0 bW cy c7 dp dP fh gv→G) (h:∃x0 bW cy c7 dp dP fh gv,P x0 bW cy c7 dp dP fh gv):G:=h.elim fun x0 h=>h.elim fun bW h=>h.elim fun cy h=>h.elim fun c7 h=>h.elim fun dp h=>h.elim fun dP h=>h.elim fun fh h=>h.elim fun gv h=>k x0 bW cy c7 dp dP fh gv h
theorem Gz.{eo,eE,fg,fX,gU,ja,kq,m6,u8}{dE:Sort eo}{dO:Sort eE}{d9:Sort fg}{eO:Sort fX}{fH:Sort gU}{gF:Sort ja}{jb:Sort kq}{kW:Sort m6}{o4:Sort u8}{P:dE→dO→d9→eO→fH→gF→jb→kW→o4→Prop}{G:Prop}(k:∀x0 bW cy c7 dp dP fh gv kr,P x0 bW cy c7 dp dP fh gv kr→G) (h:∃x0 bW cy c7 dp dP fh gv kr,P x0 bW cy c7 dp dP fh gv kr):G:=h.elim fun x0 h=>h.elim fun bW h=>h.elim fun cy h=>h.elim fun c7 h=>h.elim fun dp h=>h.elim fun dP h=>h.elim fun fh h=>h.elim fun gv h=>h.elim fun kr h=>k x0 bW cy c7 dp dP fh gv kr h
theorem x9.{eo,eE,fg,fX,gU,ja,kq,m6,u8,Bg,Bh,Mq}{dE:Sort eo}{dO:Sort eE}{d9:Sort fg}{eO:Sort fX}{fH:Sort gU}{gF:Sort ja}{jb:Sort kq}{kW:Sort m6}{o4:Sort u8}{ya:Sort Bg}{yb:Sort Bh}{Mr:Sort Mq}{P:dE→dO→d9→eO→fH→gF→jb→kW→o4→ya→yb→Mr→Prop}{G:Prop}(k:∀x0 bW cy c7 dp dP fh gv kr rF rG vm,P x0 bW cy c7 dp dP fh gv kr rF rG vm→G) (h:∃x0 bW cy c7 dp dP fh gv kr rF rG vm,P x0 bW cy c7 dp dP fh gv kr rF rG vm):G:=h.elim fun x0 h=>h.elim fun bW h=>h.elim fun cy h=>h.elim fun c7 h=>h.elim fun dp h=>h.elim fun dP h=>h.elim fun fh h=>h.elim fun gv h=>h.elim fun kr h=>h.elim fun rF h=>h.elim fun rG h=>h.elim fun vm h=>k x0 bW cy c7 dp dP fh gv kr rF rG vm h
theorem ar{gg fi G:Prop}(k:gg→fi→G)(h:gg∧fi):G:=k h.1 h.2
theorem aY{gg fi gV G:Prop}(k:gg→fi→gV→G)(h:gg∧fi∧gV):G:=k h.1 h.2.1 h.2.2
theorem cI{gg fi gV iQ G:Prop}(k:gg→fi→gV→iQ→G)(h:gg∧fi∧gV∧iQ):G:=k h.1 h.2.1 h.2.2.1 h.2.2.2
theorem eY{gg fi gV iQ jF G:Prop}(k:gg→fi→gV→iQ→jF→G)(h:gg∧fi∧gV∧iQ∧jF):G:=k h.1 h.2.1 h.2.2.1 h.2.2.2.1 h.2.2.2.2
theorem dH{gg fi gV iQ jF kX G:Prop}(k:gg→fi→gV→iQ→jF→kX→G)(h:gg∧fi∧gV∧iQ∧jF∧kX):G:=k h.1 h.2.1 h.2.2.1 h.2.2.2.1 h.2.2.2.2.1 h.2.2.2.2.2
theorem nU{gg fi gV iQ jF kX m7 G:Prop}(k:gg→fi→gV→iQ→jF→kX→m7→G)(h:gg∧fi∧gV∧iQ∧jF∧kX∧m7):G:=k h.1 h.2.1 h.2.2.1 h.2.2.2.1 h.2.2.2.2.1 h.2.2.2.2.2.1 h.2.2.2.2.2.2
theorem Bj{gg fi gV iQ jF kX m7 qg G:Prop}(k:gg→fi→gV→iQ→jF→kX→m7→qg→G)(h:gg∧fi∧gV∧iQ∧jF∧kX∧m7∧qg):G:=k h.1 h.2.1 h.2.2.1 h.2.2.2.1 h.2.2.2.2.1 h.2.2.2.2.2.1 h.2.2.2.2.2.2.1 h.2.2.2.2.2.2.2
theorem Ms{gg fi gV iQ jF kX m7 qg vn G:Prop}(k:gg→fi→gV→iQ→jF→kX→m7→qg→vn→G)(h:gg∧fi∧gV∧iQ∧jF∧kX∧m7∧qg∧vn):G:=k h.1 h.2.1 h.2.2.1 h.2.2.2.1 h.2.2.2.2.1 h.2.2.2.2.2.1 h.2.2.2.2.2.2.1 h.2.2.2.2.2.2.2.1 h.2.2.2.2.2.2.2.2
theorem Mt{gg fi gV iQ jF kX m7 qg vn GA G:Prop}(k:gg→fi→gV→iQ→jF→kX→m7→qg→vn→GA→G)(h:gg∧fi∧gV∧iQ∧jF∧kX∧m7∧qg∧vn∧GA):G:=k h.1 h.2.1 h.2.2.1 h.2.2.2.1 h.2.2.2.2.1 h.2.2.2.2.2.1 h.2.2.2.2.2.2.1 h.2.2.2.2.2.2.2.1 h.2.2.2.2.2.2.2.2.1 h.2.2.2.2.2.2.2.2.2
theorem cE.{eo,eE}{dE:Sort eo}{dO:Sort eE}{P:∀Y:dE,∀Y:dO,Prop} (fJ:dE) (a1:dO) (h:P fJ a1):∃x0 bW,P x0 bW:=⟨fJ,a1,h⟩
theorem cF.{eo,eE,fg}{dE:Sort eo}{dO:Sort eE}{d9:Sort fg}{P:∀Y:dE,∀Y:dO,∀Y:d9,Prop} (fJ:dE) (a1:dO) (a2:d9) (h:P fJ a1 a2):∃x0 bW cy,P x0 bW cy:=⟨fJ,a1,a2,h⟩
theorem dX.{eo,eE,fg,fX}{dE:Sort eo}{dO:Sort eE}{d9:Sort fg}{eO:Sort fX}{P:∀Y:dE,∀Y:dO,∀Y:d9,∀Y:eO,Prop} (fJ:dE) (a1:dO) (a2:d9) (cW:eO) (h:P fJ a1 a2 cW):∃x0 bW cy c7,P x0 bW cy c7:=⟨fJ,a1,a2,cW,h⟩
theorem kY.{eo,eE,fg,fX,gU}{dE:Sort eo}{dO:Sort eE}{d9:Sort fg}{eO:Sort fX}{fH:Sort gU}{P:∀Y:dE,∀Y:dO,∀Y:d9,∀Y:eO,∀Y:fH,Prop} (fJ:dE) (a1:dO) (a2:d9) (cW:eO) (dI:fH) (h:P fJ a1 a2 cW dI):∃x0 bW cy c7 dp,P x0 bW cy c7 dp:=⟨fJ,a1,a2,cW,dI,h⟩
theorem qh.{eo,eE,fg,fX,gU,ja}{dE:Sort eo}{dO:Sort eE}{d9:Sort fg}{eO:Sort fX}{fH:Sort gU}{gF:Sort ja}{P:∀Y:dE,∀Y:dO,∀Y:d9,∀Y:eO,∀Y:fH,∀Y:gF,Prop} (fJ:dE) (a1:dO) (a2:d9) (cW:eO) (dI:fH) (gw:gF) (h:P fJ a1 a2 cW dI gw):∃x0 bW cy c7 dp dP,P x0 bW cy c7 dp dP:=⟨fJ,a1,a2,cW,dI,gw,h⟩
theorem vo.{eo,eE,fg,fX,gU,ja,kq}{dE:Sort eo}{dO:Sort eE}{d9:Sort fg}{eO:Sort fX}{fH:Sort gU}{gF:Sort ja}{jb:Sort kq}{P:∀Y:dE,∀Y:dO,∀Y:d9,∀Y:eO,∀Y:fH,∀Y:gF,∀Y:jb,Prop} (fJ:dE) (a1:dO) (a2:d9) (cW:eO) (dI:fH) (gw:gF) (lK:jb) (h:P fJ a1 a2 cW dI gw lK):∃x0 bW cy c7 dp dP fh,P x0 bW cy c7 dp dP fh:=⟨fJ,a1,a2,cW,dI,gw,lK,h⟩
theorem Mu.{eo,eE,fg,fX,gU,ja,kq,m6}{dE:Sort eo}{dO:Sort eE}{d9:Sort fg}{eO:Sort fX}{fH:Sort gU}{gF:Sort ja}{jb:Sort kq}{kW:Sort m6}{P:∀Y:dE,∀Y:dO,∀Y:d9,∀Y:eO,∀Y:fH,∀Y:gF,∀Y:jb,∀Y:kW,Prop} (fJ:dE) (a1:dO) (a2:d9) (cW:eO) (dI:fH) (gw:gF) (lK:jb) (qi:kW) (h:P fJ a1 a2 cW dI gw lK qi):∃x0 bW cy c7 dp dP fh gv,P x0 bW cy c7 dp dP fh gv:=⟨fJ,a1,a2,cW,dI,gw,lK,qi,h⟩
theorem Mv.{eo,eE,fg,fX,gU,ja,kq,m6,u8}{dE:Sort eo}{dO:Sort eE}{d9:Sort fg}{eO:Sort fX}{fH:Sort gU}{gF:Sort ja}{jb:Sort kq}{kW:Sort m6}{o4:Sort u8}{P:∀Y:dE,∀Y:dO,∀Y:d9,∀Y:eO,∀Y:fH,∀Y:gF,∀Y:jb,∀Y:kW,∀Y:o4,Prop} (fJ:dE) (a1:dO) (a2:d9) (cW:eO) (dI:fH) (gw:gF) (lK:jb) (qi:kW) (qj:o4) (h:P fJ a1 a2 cW dI gw lK qi qj):∃x0 bW cy c7 dp dP fh gv kr,P x0 bW cy c7 dp dP fh gv kr:=⟨fJ,a1,a2,cW,dI,gw,lK,qi,qj,h⟩
theorem Mw.{eo,eE,fg,fX,gU,ja,kq,m6,u8,Bg,Bh}{dE:Sort eo}{dO:Sort eE}{d9:Sort fg}{eO:Sort fX}{fH:Sort gU}{gF:Sort ja}{jb:Sort kq}{kW:Sort m6}{o4:Sort u8}{ya:Sort Bg}{yb:Sort Bh}{P:∀Y:dE,∀Y:dO,∀Y:d9,∀Y:eO,∀Y:fH,∀Y:gF,∀Y:jb,∀Y:kW,∀Y:o4,∀Y:ya,∀Y:yb,Prop} (fJ:dE) (a1:dO) (a2:d9) (cW:eO) (dI:fH) (gw:gF) (lK:jb) (qi:kW) (qj:o4) (Bk:ya) (vp:yb) (h:P fJ a1 a2 cW dI gw lK qi qj Bk vp):∃x0 bW cy c7 dp dP fh gv kr rF rG,P x0 bW cy c7 dp dP fh gv kr rF rG:=⟨fJ,a1,a2,cW,dI,gw,lK,qi,qj,Bk,vp,h⟩
inductive dY where|v (i:Nat)|k (n:Nat)|a (x y:dY)|m (n:Nat) (x:dY)
inductive fK where|v (i:Nat)|n (x:dY)|k (n:Int)|a (x y:fK)|s (x y:fK)|m (n:Int) (x:fK)
inductive cK where|l (x y:dY)|t (x y:dY)|e (x y:dY)|L (x y:fK)|T (x y:fK)|E (x y:fK)|o (c:cK)|F (k:Nat)|G (k:Nat) (c:cK)|i (k:Int) (c r:cK)
noncomputable def dY.p:dY:=.v 0
noncomputable def dY.q:dY:=.v 1
noncomputable def dY.r:dY:=.v 2
noncomputable def dY.s:dY:=.v 3
noncomputable def dY.t:dY:=.v 4
noncomputable def dY.z:dY:=.k 0
noncomputable def dY.o:dY:=.k 1
noncomputable def dY.b(x:dY):dY:=.a x .o
noncomputable def fK.p:fK:=.v 0
noncomputable def fK.q:fK:=.v 1
noncomputable def fK.r:fK:=.v 2
noncomputable def cK.f:cK:=.F 0
noncomputable def cK.a(x y:dY):∀Y:cK,cK:=.i 1 (.l x y)
noncomputable def cK.b(x y:dY):∀Y:cK,cK:=.i 1 (.t x y)
noncomputable def cK.c(x y:dY):∀Y:cK,cK:=.i 1 (.e x y)
noncomputable def cK.A(x y:fK):∀Y:cK,cK:=.i 1 (.L x y)
noncomputable def cK.B(x y:fK):∀Y:cK,cK:=.i 1 (.T x y)
noncomputable def cK.ak(x y:fK):∀Y:cK,cK:=.i 1 (.E x y)
noncomputable def cK.n(c:cK):∀Y:cK,cK:=.i 1 (.o c)
noncomputable def vq:∀Y:List Nat,∀Y:Nat,Nat:=List.rec (fun Y=>0) fun x Y g i=>Nat.rec x (fun j Y=>g j) i
noncomputable def vt:∀Y:List Int,∀Y:Nat,Int:=List.rec (fun Y=>0) fun x Y g i=>Nat.rec x (fun j Y=>g j) i
noncomputable def dY.d(N:List Nat):∀Y:dY,Nat:=dY.rec (vq N) (fun n=>n) (fun Y Y x y=>x+y) fun n Y x=>n*x
noncomputable def fK.d(N:List Nat)(Z:List Int):∀Y:fK,Int:=fK.rec (vt Z) (fun x=>(x.d N:Int)) (fun n=>n) (fun Y Y x y=>x+y) (fun Y Y x y=>x-y) fun n Y x=>n*x
noncomputable def cK.d(N:List Nat)(Z:List Int):∀Y:cK,Prop:=cK.rec (fun x y=>x.d N≤y.d N) (fun x y=>x.d N<y.d N) (fun x y=>x.d N=y.d N) (fun x y=>x.d N Z≤y.d N Z) (fun x y=>x.d N Z<y.d N Z) (fun x y=>x.d N Z=y.d N Z) (fun Y p=>¬p) (fun Y=>False) (fun Y Y p=>p) fun Y Y Y p q=>∀Y:p,q
structure cJ where
 c:Int
 n:List Int
 z:List Int
noncomputable def qk:∀Y:List Int,∀Y:List Int,List Int:=List.rec (fun y=>y) fun x r g y=>List.rec (x::r) (fun y s Y=>(x+y)::g s) y
noncomputable def ql(i:Nat):List Int:=Nat.rec [1] (fun Y l=>0::l) i
noncomputable def cJ.k(c:Int):cJ:=⟨c,[],[]⟩
noncomputable def cJ.u(i:Nat):cJ:=⟨0,ql i,[]⟩
noncomputable def cJ.w(i:Nat):cJ:=⟨0,[],ql i⟩
noncomputable def cJ.add(p q:cJ):cJ:=⟨p.c+q.c,qk p.n q.n,qk p.z q.z⟩
noncomputable def cJ.mul(k:Int)(p:cJ):cJ:=⟨k*p.c,p.n.map (k*·),p.z.map (k*·)⟩
noncomputable def dY.S:∀Y:dY,cJ:=dY.rec .u (fun n=>.k n) (fun Y Y x y=>x.add y) fun n Y x=>x.mul n
noncomputable def fK.S:∀Y:fK,cJ:=fK.rec .w dY.S .k (fun Y Y x y=>x.add y) (fun Y Y x y=>x.add (y.mul (-1))) fun n Y x=>x.mul n
noncomputable def lL(x y:cJ)(c:Int):cJ:=(y.add (x.mul (-1))).add (.k c)
noncomputable def cK.s:∀Y:cK,cJ:=cK.rec (fun x y=>lL x.S y.S 0) (fun x y=>lL x.S y.S (-1)) (fun x y=>lL x.S y.S 0) (fun x y=>lL x.S y.S 0) (fun x y=>lL x.S y.S (-1)) (fun x y=>lL x.S y.S 0) (fun Y p=>(p.mul (-1)).add (.k (-1))) (fun Y=>.k 0) (fun Y Y Y=>.k 0) fun Y Y Y Y Y=>.k 0
noncomputable def cK.rH:∀Y:cK,Bool:=cK.rec (fun Y Y=>false) (fun Y Y=>false) (fun Y Y=>true) (fun Y Y=>false) (fun Y Y=>false) (fun Y Y=>true) (fun Y Y=>false) (fun Y=>false) (fun Y Y Y=>false) fun Y Y Y Y Y=>false
noncomputable def cK.ok:∀Y:cK,Bool:=cK.rec (fun Y Y=>true) (fun Y Y=>true) (fun Y Y=>true) (fun Y Y=>true) (fun Y Y=>true) (fun Y Y=>true) (fun c b=>b&&!c.rH) (fun Y=>false) (fun Y Y Y=>false) fun Y Y Y Y Y=>false
noncomputable def iD:∀Y:List Int,∀Y:List Nat,Int:=List.rec (fun Y=>0) fun c Y g l=>List.rec 0 (fun x r Y=>c*x+g r) l
noncomputable def iE:∀Y:List Int,∀Y:List Int,Int:=List.rec (fun Y=>0) fun c Y g l=>List.rec 0 (fun x r Y=>c*x+g r) l
noncomputable def cJ.d(N:List Nat)(Z:List Int)(p:cJ):Int:=p.c+iD p.n N+iE p.z Z
noncomputable def allB(p:∀Y:Int,Bool):∀Y:List Int,Bool:=List.rec true fun x Y b=>p x&&b
noncomputable def cJ.fin(r:cJ):Bool:=decide (0≤r.c)&&allB (fun c=>decide (0≤c)) r.n&&allB (fun c=>decide (c=0)) r.z
noncomputable def vv(k:Nat)(g r:cJ):Bool:=(r.add ((g.mul (k+1)).add (.k k))).fin
noncomputable def o5(k:Nat)(c:cK)(r:cJ):Bool:=c.ok&&!c.rH&&vv k c.s r
noncomputable def Bl(k:Int)(c:cK)(f:∀Y:cJ,Bool) (r:cJ):Bool:=c.ok&&(c.rH||decide (0≤k))&&f (r.add (c.s.mul (-k)))
noncomputable def cK.h:∀Y:cK,∀Y:cJ,Bool:=cK.rec (fun x y=>o5 0 (.l x y)) (fun x y=>o5 0 (.t x y)) (fun Y Y Y=>false) (fun x y=>o5 0 (.L x y)) (fun x y=>o5 0 (.T x y)) (fun Y Y Y=>false) (fun c Y=>o5 0 (.o c)) (fun k=>vv k (.k (-1))) (fun k c Y=>o5 k c) fun k c Y Y=>Bl k c
section
variable{N:List Nat}{Z:List Int}
theorem yc(a b c d:Int):a+b+(c+d)=a+c+(b+d):=by
 rw[Int.add_assoc,Int.add_left_comm b,←Int.add_assoc]
theorem Mx(x:List Int):∀y N,iD (qk x y) N=iD x N+iD y N:=by
 induction x with
 |nil=>intro y N;exact(Int.zero_add _).symm
 |cons a r ih=>
  intro y N;cases y with
  |nil=>exact(Int.add_zero _).symm
  |cons b s=>cases N with
   |nil=>rfl
   |cons n N=>
    show(a+b)*n+iD (qk r s) N=(a*n+iD r N)+(b*n+iD s N);rw[ih,Int.add_mul,yc]
theorem My(x:List Int):∀y N,iE (qk x y) N=iE x N+iE y N:=by
 induction x with
 |nil=>intro y N;exact(Int.zero_add _).symm
 |cons a r ih=>
  intro y N;cases y with
  |nil=>exact(Int.add_zero _).symm
  |cons b s=>cases N with
   |nil=>rfl
   |cons n N=>
    show(a+b)*n+iE (qk r s) N=(a*n+iE r N)+(b*n+iE s N);rw[ih,Int.add_mul,yc]
theorem Mz(k:Int)(x:List Int):∀N,iD (x.map (k*·)) N=k*iD x N:=by
 induction x with
 |nil=>intro N;exact(Int.mul_zero _).symm
 |cons a r ih=>
  intro N;cases N with
  |nil=>exact(Int.mul_zero _).symm
  |cons n N=>
   show k*a*n+iD (r.map (k*·)) N=k*(a*n+iD r N);rw[ih,Int.mul_add,Int.mul_assoc]
theorem MA(k:Int)(x:List Int):∀N,iE (x.map (k*·)) N=k*iE x N:=by
 induction x with
 |nil=>intro N;exact(Int.mul_zero _).symm
 |cons a r ih=>
  intro N;cases N with
  |nil=>exact(Int.mul_zero _).symm
  |cons n N=>
   show k*a*n+iE (r.map (k*·)) N=k*(a*n+iE r N);rw[ih,Int.mul_add,Int.mul_assoc]
theorem Xy:∀N,iD [] N=0:=fun Y=>rfl
theorem MB(i:Nat):∀N,iD (ql i) N=vq N i:=by
 induction i with
 |zero=>intro N;cases N with
  |nil=>rfl
  |cons n N=>show 1*(n:Int)+0=n;rw[Int.one_mul,Int.add_zero]
 |succ i ih=>intro N;cases N with
  |nil=>rfl
  |cons n N=>show 0*(n:Int)+iD (ql i) N=vq N i;rw[ih,Int.zero_mul,Int.zero_add]
theorem MC(i:Nat):∀N,iE (ql i) N=vt N i:=by
 induction i with
 |zero=>intro N;cases N with
  |nil=>rfl
  |cons n N=>show 1*n+0=n;rw[Int.one_mul,Int.add_zero]
 |succ i ih=>intro N;cases N with
  |nil=>rfl
  |cons n N=>show 0*n+iE (ql i) N=vt N i;rw[ih,Int.zero_mul,Int.zero_add]
theorem cJ.o6(p q:cJ):(p.add q).d N Z=p.d N Z+q.d N Z:=by
 show p.c+q.c+iD (qk p.n q.n) N+iE (qk p.z q.z) Z=(p.c+iD p.n N+iE p.z Z)+(q.c+iD q.n N+iE q.z Z);rw[Mx,My,yc p.c,yc (p.c+_)]
theorem cJ.rI(k:Int)(p:cJ):(p.mul k).d N Z=k*p.d N Z:=by
 show k*p.c+iD (p.n.map (k*·)) N+iE (p.z.map (k*·)) Z=k*(p.c+iD p.n N+iE p.z Z);rw[Mz,MA,Int.mul_add,Int.mul_add]
theorem cJ.rJ(c:Int):(cJ.k c).d N Z=c:=by
 show c+0+0=c;rw[Int.add_zero,Int.add_zero]
theorem cJ.MD(i:Nat):(cJ.u i).d N Z=(vq N i:Int):=by
 show 0+iD (ql i) N+0=(vq N i:Int);rw[MB,Int.add_zero,Int.zero_add]
theorem cJ.ME(i:Nat):(cJ.w i).d N Z=vt Z i:=by
 show 0+0+iE (ql i) Z=vt Z i;rw[MC,Int.zero_add,Int.zero_add]
theorem dY.rK(x:dY):x.S.d N Z=x.d N:=by
 induction x with
 |v i=>exact cJ.MD i
 |k n=>exact cJ.rJ n
 |a x y ai au=>show(x.S.add y.S).d N Z=((x.d N+y.d N:Nat):Int);rw[cJ.o6,ai,au];rfl
 |m n x ai=>show(x.S.mul n).d N Z=((n*x.d N:Nat):Int);rw[cJ.rI,ai];rfl
theorem fK.tf(x:fK):x.S.d N Z=x.d N Z:=by
 induction x with
 |v i=>exact cJ.ME i
 |n x=>exact x.rK
 |k n=>exact cJ.rJ n
 |a x y ai au=>show(x.S.add y.S).d N Z=x.d N Z+y.d N Z;rw[cJ.o6,ai,au]
 |s x y ai au=>show(x.S.add (y.S.mul (-1))).d N Z=x.d N Z-y.d N Z;rw[cJ.o6,cJ.rI,ai,au,Int.neg_mul,Int.one_mul,←Int.sub_eq_add_neg]
 |m n x ai=>show(x.S.mul n).d N Z=n*x.d N Z;rw[cJ.rI,ai]
theorem tg(x y:cJ)(c:Int):(lL x y c).d N Z=y.d N Z-x.d N Z+c:=by
 show((y.add (x.mul (-1))).add (.k c)).d N Z=_;rw[cJ.o6,cJ.o6,cJ.rI,cJ.rJ,Int.neg_mul,Int.one_mul,←Int.sub_eq_add_neg]
noncomputable def cK.says(N:List Nat)(Z:List Int)(c:cK):Prop:=if c.rH=true then c.s.d N Z=0 else 0≤c.s.d N Z
theorem cK.iff(c:cK)(h:c.ok=true):c.d N Z↔c.says N Z:=by
 induction c with
 |l x y=>show x.d N≤y.d N↔0≤(lL x.S y.S 0).d N Z;rw[tg,dY.rK,dY.rK,Int.add_zero,Int.sub_nonneg,Int.ofNat_le]
 |t x y=>show x.d N<y.d N↔0≤(lL x.S y.S (-1)).d N Z;rw[tg,dY.rK,dY.rK,←Int.sub_eq_add_neg,Int.sub_sub,Int.sub_nonneg];exact Int.ofNat_le.symm
 |e x y=>show x.d N=y.d N↔(lL x.S y.S 0).d N Z=0;rw[tg,dY.rK,dY.rK,Int.add_zero,Int.sub_eq_zero,Int.ofNat_inj,eq_comm]
 |L x y=>show x.d N Z≤y.d N Z↔0≤(lL x.S y.S 0).d N Z;rw[tg,fK.tf,fK.tf,Int.add_zero,Int.sub_nonneg]
 |T x y=>show x.d N Z<y.d N Z↔0≤(lL x.S y.S (-1)).d N Z;rw[tg,fK.tf,fK.tf,←Int.sub_eq_add_neg,Int.sub_sub,Int.sub_nonneg];exact Iff.rfl
 |E x y=>show x.d N Z=y.d N Z↔(lL x.S y.S 0).d N Z=0;rw[tg,fK.tf,fK.tf,Int.add_zero,Int.sub_eq_zero,eq_comm]
 |o c ih=>
  have h':(c.ok&&!c.rH)=true:=h;rw[Bool.and_eq_true,Bool.not_eq_true']at h';have i:=ih h'.1;unfold cK.says at i;rw[h'.2,if_neg Bool.false_ne_true]at i;show¬c.d N Z↔0≤((c.s.mul (-1)).add (.k (-1))).d N Z;rw[i,cJ.o6,cJ.rI,cJ.rJ,Int.neg_mul,Int.one_mul,←Int.neg_add,Int.neg_nonneg,Int.not_le];exact Iff.rfl
 |F _=>cases h
 |G _ _=>cases h
 |i _ _ _=>cases h
theorem MF(x:List Int):∀N,∀Y:allB (fun c=>decide (0≤c)) x=true,0≤iD x N:=by
 induction x with
 |nil=>intro N _;exact Int.le_refl _
 |cons a r ih=>
  intro N h;have h':(decide (0≤a)&&allB (fun c=>decide (0≤c)) r)=true:=h;rw[Bool.and_eq_true,decide_eq_true_iff]at h';cases N with
  |nil=>exact Int.le_refl _
  |cons n N=>exact Int.add_nonneg (Int.mul_nonneg h'.1 (Int.natCast_nonneg n)) (ih N h'.2)
theorem MG(x:List Int):∀N,∀Y:allB (fun c=>decide (c=0)) x=true,iE x N=0:=by
 induction x with
 |nil=>intro N _;rfl
 |cons a r ih=>
  intro N h;have h':(decide (a=0)&&allB (fun c=>decide (c=0)) r)=true:=h;rw[Bool.and_eq_true,decide_eq_true_iff]at h';cases N with
  |nil=>rfl
  |cons n N=>
   show a*n+iE r N=0;rw[ih N h'.2,h'.1,Int.zero_mul,Int.zero_add]
theorem GB{k:Nat}{g r:cJ}(h:vv k g r=true)(aC:r.d N Z≤0):0≤g.d N Z:=by
 unfold vv cJ.fin at h;rw[Bool.and_eq_true,Bool.and_eq_true,decide_eq_true_iff]at h
 have x:0≤(r.add ((g.mul (k+1)).add (.k k))).d N Z:=by
  unfold cJ.d;rw[MG _ _ h.2,Int.add_zero];exact Int.add_nonneg h.1.1 (MF _ _ h.1.2)
 rw[cJ.o6,cJ.o6,cJ.rI,cJ.rJ]at x;refine Int.not_lt.mp fun h=>?_;have af:=Int.mul_le_mul_of_nonneg_left (Int.le_sub_one_of_lt h) (Int.add_nonneg (Int.natCast_nonneg k) (by decide:(0:Int)≤1));have:=Int.le_trans x (Int.add_le_add aC (Int.add_le_add_right af k));rw[Int.zero_add,Int.zero_sub,Int.mul_neg,Int.mul_one,Int.neg_add,Int.add_right_comm,Int.add_left_neg]at this;exact absurd this (by decide)
theorem GC{k:Nat}{c:cK}{r:cJ}(h:o5 k c r=true)(aC:r.d N Z≤0):c.d N Z:=by
 unfold o5 at h;rw[Bool.and_eq_true,Bool.and_eq_true,Bool.not_eq_true']at h;refine(cK.iff c h.1.1).mpr ?_;unfold cK.says;rw[h.1.2,if_neg Bool.false_ne_true];exact GB h.2 aC
theorem MH{k:Nat}{r:cJ}(h:vv k (.k (-1)) r=true)(aC:r.d N Z≤0):False:=by
 have x:=GB h aC;rw[cJ.rJ]at x;exact absurd x (by decide)
theorem MI{k:Int}{c:cK}{r:cJ}(aK:(c.rH||decide (0≤k))=true)(bx:c.ok=true)(aC:r.d N Z≤0)(aG:c.d N Z):(r.add (c.s.mul (-k))).d N Z≤0:=by
 have q:=(cK.iff c bx).mp aG;rw[cJ.o6,cJ.rI];unfold cK.says at q;by_cases e:c.rH=true
 ·rw[if_pos e]at q;rw[q,Int.mul_zero,Int.add_zero];exact aC
 ·rw[if_neg e]at q;rw[Bool.not_eq_true]at e;rw[e,Bool.false_or,decide_eq_true_iff]at aK;have:=Int.mul_nonneg aK q;rw[Int.neg_mul];exact Int.add_le_add aC (Int.neg_nonpos_of_nonneg this)
theorem cK.MJ(F:cK):∀r,∀Y:F.h r=true,∀Y:r.d N Z≤0,F.d N Z:=by
 induction F with
 |i k c F _ i=>
  intro r h aC aG;have h':Bl k c F.h r=true:=h;unfold Bl at h';rw[Bool.and_eq_true,Bool.and_eq_true]at h';exact i _ h'.2 (MI h'.1.2 h'.1.1 aC aG)
 |F k=>exact fun r=>MH
 |e=>exact fun Y h=>nomatch h
 |E=>exact fun Y h=>nomatch h
 |G k c=>exact fun r(h:o5 k c r=true) aC=>GC (c:=c) h aC
 |_=>exact fun r h=>GC (k:=0) h
end
theorem ck(F:cK)(h:true=F.h (.k 0))(N:List Nat)(Z:List Int):F.d N Z:=F.MJ _ h.symm (Int.le_of_eq (cJ.rJ 0))
theorem ik(F:cK)(h:true=F.h (.k 0)):F.d [] []:=ck F h _ _
theorem aI(F:cK)(h:true=F.h (.k 0)){a:Nat}:F.d [a] []:=ck F h _ _
theorem aq(F:cK)(h:true=F.h (.k 0)){a b:Nat}:F.d [a,b] []:=ck F h _ _
theorem aA(F:cK)(h:true=F.h (.k 0)){a b c:Nat}:F.d [a,b,c] []:=ck F h _ _
theorem bA(F:cK)(h:true=F.h (.k 0)){a b c d:Nat}:F.d [a,b,c,d] []:=ck F h _ _
theorem cB(F:cK)(h:true=F.h (.k 0)){a b c d e:Nat}:F.d [a,b,c,d,e] []:=ck F h _ _
theorem gG(F:cK)(h:true=F.h (.k 0)){a:Int}:F.d [] [a]:=ck F h _ _
theorem nV(F:cK)(h:true=F.h (.k 0)){a b:Int}:F.d [] [a,b]:=ck F h _ _
theorem yd(F:cK)(h:true=F.h (.k 0)){a b c:Int}:F.d [] [a,b,c]:=ck F h _ _
theorem lM{n a b:Nat}(h:n<a)(e:true=Nat.ble a b):n<b:=Nat.lt_of_lt_of_le h (Nat.le_of_ble_eq_true e.symm)
theorem fz{n a b:Nat}(h:n≤a)(e:true=Nat.ble (a+1) b):n<b:=Nat.lt_of_le_of_lt h (Nat.le_of_ble_eq_true e.symm)
theorem qm{n a b:Nat}(h:n<a)(e:true=Nat.ble a (b+1)):n≤b:=Nat.le_of_lt_succ (Nat.lt_of_lt_of_le h (Nat.le_of_ble_eq_true e.symm))
theorem eZ{n a b:Nat}(h:n≤a)(e:true=Nat.ble a b):n≤b:=Nat.le_trans h (Nat.le_of_ble_eq_true e.symm)
theorem b5(a b:Nat):a≤a-b+b:=Nat.sub_le_iff_le_add.mp (Nat.le_refl _)
theorem MK{v0:Int}{v1:Nat}(aM:((-((v1:Nat):Int))≤v0)):((0:Int)≤(v0+((v1:Nat):Int))):=by lia-abstractProof
theorem ML{v0:Nat}{v1:Nat}:((-((v0:Nat):Int))≤(((v1:Nat):Int)-((v0:Nat):Int))):=by lia-abstractProof
theorem MM{v0:Int}{v1:Int}(aM:((-(1000000:Int))≤v1))(ae:(v0≤(1000000:Int))):((((Int.toNat (v0-v1)):Nat):Int)≤(2000000:Int)):=by lia-abstractProof
theorem ye{v0:Nat}{v1:Nat}{v2:Nat}(aM:(v1<(v2-v0))):((v0+v1)<v2):=(Nat.le_total v0 v2).elim (fun ay=>bA (.b .q .s (.c (.a .s .p) .r (.t (.a .p .q) .r))) rfl aM (Nat.sub_add_cancel ay)) (fun aE=>(aq (.b .p .q (.c .q .z .f)) rfl aM (Nat.sub_eq_zero_of_le aE):False).elim)
theorem MN{v0:Nat}{v1:Nat}{v2:Nat}(aM:(v1≤(v2-(v0+(1:Nat)))))(ae:(v1>(0:Nat))):(((v0+(1:Nat))+v1)≤v2):=(Nat.le_total (v0+(1:Nat)) v2).elim (fun ay=>bA (.a .q .s (.c (.a .s (.b .p)) .r (.l (.a (.b .p) .q) .r))) rfl aM (Nat.sub_add_cancel ay)) (fun aE=>(aq (.a .p .q (.b .z .p (.c .q .z .f))) rfl aM ae (Nat.sub_eq_zero_of_le aE):False).elim)
theorem MO{v0:Nat}{v1:Nat}{v2:Nat}{iF:Nat}{v4:Nat}{lN:Nat}(aM:((v0+v1)≤v2))(ae:(((iF+(v0-v4))+(v1-lN))=(v0+v1)))(af:((v4+(1:Nat))<v0))(aH:(v2≤iF)):False:=ck (.a (.a .p .q) .r (.c (.a (.a .s .t) (.v 5)) (.a .p .q) (.b (.b (.v 6)) .p (.a .r .s (.a .p (.a .t (.v 6)) (.F 1)))))) rfl [v0,v1,v2,iF,(v0-v4),(v1-lN),v4] [] aM ae af aH (b5 v0 v4)
theorem vy{v0:Nat}(aM:((0:Nat)<v0)):(v0=((v0-(1:Nat))+(1:Nat))):=Nat.le_antisymm (aq (.a .p (.b .q) (.l .p (.b .q))) rfl (b5 v0 (1:Nat))) (aq (.c (.b .p) .q (.l (.b .p) .q)) rfl (Nat.sub_add_cancel (aI (.b .z .p (.l .o .p)) rfl aM)))
theorem Bm{v0:Nat}{v1:Nat}(aM:((0:Nat)<v0))(ae:(v0≤v1)):((v0-(1:Nat))<v1):=aA (.a .r .q (.c (.b .p) .r (.t .p .q))) rfl ae (Nat.sub_add_cancel (aI (.b .z .p (.l .o .p)) rfl aM))
theorem Bo{v0:Nat}{v1:Nat}(aM:((1:Nat)<v0))(ae:(v0≤v1)):((v0-(1:Nat))<v1):=aA (.a .r .q (.c (.b .p) .r (.t .p .q))) rfl ae (Nat.sub_add_cancel (aI (.b .o .p (.G 1 (.l .o .p))) rfl aM))
theorem MP{v0:Nat}{v1:Nat}{v2:Nat}{iF:Nat}{v4:Nat}{lN:Nat}(aM:((v0+v1)≤v2))(ae:(((iF+v4)+lN)=(v0+v1)))(af:((0:Nat)<iF))(aH:(v2≤lN)):False:=ck (.a (.a .p .q) .r (.c (.a (.a .s .t) (.v 5)) (.a .p .q) (.b .z .s (.a .r (.v 5) .f)))) rfl [v0,v1,v2,iF,v4,lN] [] aM ae af aH
theorem MQ{v0:Nat}{v1:Nat}{v2:Nat}(aM:((v0≤v2)∧(v2<v1))):(v0≤(((v0+v1)-(1:Nat))-v2)):=cB (.b .r .s (.a (.a .p .s) (.b .t) (.a .t (.a .q .r) (.l .p .q)))) rfl aM.2 (b5 (v0+v1) (1:Nat)) (b5 ((v0+v1)-(1:Nat)) v2)
theorem MR{v0:Nat}{v1:Nat}{v2:Nat}(aM:((v0≤v2)∧(v2<v1))):((((v0+v1)-(1:Nat))-v2)<v1):=cB (.a .r .s (.c (.b .t) (.a .r .q) (.c (.a .p .s) .t (.t .p .q)))) rfl aM.1 (Nat.sub_add_cancel (aA (.b .r .q (.l .o (.a .p .q))) rfl aM.2)) (Nat.sub_add_cancel (bA (.b .p .r (.a (.a .s .r) (.b .q) (.l .p .q))) rfl aM.2 (b5 (v0+v1) (1:Nat))))
theorem MS{v0:Nat}{v1:Nat}{v2:Nat}(aM:((v0≤v1)∧(v1<v2))):(v0≤v1):=aq (.a .p .q (.l .p .q)) rfl aM.1
theorem MT{v0:Nat}{v1:Nat}{v2:Nat}(aM:((v2≤v0)∧(v0<v1))):(v0<v1):=aq (.b .p .q (.t .p .q)) rfl aM.2
theorem MU{v0:Nat}{v1:Nat}{v2:Nat}(aM:((1:Nat)≤v1))(ae:(v0≤v2)):((((v0+(v0+v1))-(1:Nat))-v2)<(v0+v1)):=(Nat.le_total (1:Nat) (v0+(v0+v1))).elim (fun ay=>(Nat.le_total v2 ((v0+(v0+v1))-(1:Nat))).elim (fun aE=>cB (.a .q .s (.c (.b .t) (.a .q (.a .q .r)) (.c (.a .p .s) .t (.t .p (.a .q .r))))) rfl ae (Nat.sub_add_cancel (aq (.a .o .q (.l .o (.a .p (.a .p .q)))) rfl aM)) (Nat.sub_add_cancel aE)) (fun bI=>aA (.a .o (.a .q (.a .q .r)) (.i 2 (.e .p .z) (.G 1 (.t .p (.a .q .r))))) rfl ay (Nat.sub_eq_zero_of_le bI))) (fun cM=>bA (.i 2 (.e (.b .s) (.a .q (.a .q .r))) (.a (.a .q (.a .q .r)) .o (.i 2 (.l .p .s) (.G 1 (.t .p (.a .q .r)))))) rfl (Nat.sub_add_cancel (aq (.a .o .q (.l .o (.a .p (.a .p .q)))) rfl aM)) cM (Nat.sub_le ((v0+(v0+v1))-(1:Nat)) v2))
theorem Bp{v0:Nat}{v1:Nat}{v2:Nat}(aM:(¬(v0<v1)))(ae:(v0<v2)):((v0-v1)<(v2-v1)):=cB (.b .r .s (.a .s (.a .q .t) (.c (.a .p .t) .r (.t .p .q)))) rfl ae (b5 v2 v1) (Nat.sub_add_cancel (aq (.n (.t .q .p) (.l .p .q)) rfl aM))
theorem MV{v0:Nat}{v1:Nat}{v2:Nat}(aM:(v2≤v0))(ae:(¬(v1<v0))):((v0+(v1-(v2+(v0-v2))))=v1):=Nat.le_antisymm ((Nat.le_total v2 v0).elim (fun ay=>cB (.i (-1) (.e (.a .s .t) .p) (.c (.a .q (.a .t .s)) .r (.l (.a .p .q) .r))) rfl (Nat.sub_add_cancel (aq (.a .p .q (.l .p .q)) rfl aM)) (Nat.sub_add_cancel (bA (.n (.t .r .s) (.c (.a .q .p) .s (.l (.a .p .q) .r))) rfl ae (Nat.sub_add_cancel (aq (.a .p .q (.l .p .q)) rfl aM))))) (fun aE=>cB (.i (-1) (.e (.a .s .t) .p) (.c (.a .q (.a .t .s)) .r (.l (.a .p .q) .r))) rfl (Nat.sub_add_cancel (aq (.a .p .q (.l .p .q)) rfl aM)) (Nat.sub_add_cancel (bA (.n (.t .r .s) (.c (.a .q .p) .s (.l (.a .p .q) .r))) rfl ae (Nat.sub_add_cancel (aq (.a .p .q (.l .p .q)) rfl aM)))))) (cB (.a .p (.a .r (.a .s .t)) (.c (.a .t .s) .q (.l .p (.a .q .r)))) rfl (b5 v1 (v2+(v0-v2))) (Nat.sub_add_cancel (aq (.a .p .q (.l .p .q)) rfl aM)))
theorem MW{v0:Nat}{v1:Nat}{v2:Nat}{iF:Nat}{v4:Nat}{lN:Nat}(aM:(v2≤iF))(ae:(v1≤(v4+lN)))(af:((v0<v2)∨((v4+lN)≤v0)))(aH:(¬(v0<iF))):(¬(v0<v1)):=af.elim (fun ay=>(aA (.a .p .q (.n (.t .r .q) (.b .r .p .f))) rfl aM aH ay:False).elim) (fun aE=>bA (.a .q (.a .r .s) (.a (.a .r .s) .p (.o (.t .p .q)))) rfl ae aE)
theorem MX{v0:Int}{v1:Int}{v2:Int}(aM:(v0<v2)):((v0<v1)∨(v1<v2)):=(Classical.em _).elim .inl fun ay=>.inr (yd (.B .r .q (.n (.T .r .p) (.T .p .q))) rfl aM ay)
theorem MY{v0:Nat}{v1:Nat}{v2:Nat}(aM:(v0=v2))(ae:(¬(v0=v1))):((v0<v1)∨(v1<v2)):=(Classical.em _).elim .inl fun ay=>.inr ((Nat.lt_or_gt_of_ne ae).elim (fun aE=>aA (.c .r .q (.i 2 (.o (.t .r .p)) (.b .r .p (.t .p .q)))) rfl aM ay aE) (fun bI=>aA (.c .r .q (.b .p .r (.t .p .q))) rfl aM bI))
theorem MZ{v0:Nat}{v1:Nat}{v2:Nat}(aM:(v0<v2)):((v0<v1)∨(v1<v2)):=(Classical.em _).elim .inl fun ay=>.inr (aA (.b .r .q (.n (.t .r .p) (.t .p .q))) rfl aM ay)
theorem Bq{v0:Nat}{v1:Nat}(aM:(v0=v1)):(v0=v1):=Nat.le_antisymm (aq (.c .p .q (.l .p .q)) rfl aM) (aq (.i (-1) (.e .q .p) (.l .p .q)) rfl aM)
theorem M0{v0:Nat}{v1:Nat}(aM:(v0<(v1+(1:Nat))))(ae:(v1<v0)):False:=aq (.b .p (.b .q) (.b .q .p .f)) rfl aM ae
theorem tm{v0:Nat}:((Int.toNat ((v0:Nat):Int))=v0):=Nat.le_antisymm (aq (.ak (.n .p) (.n .q) (.l .p .q)) rfl (Int.toNat_of_nonneg (aI (.L (.k 0) (.n .p)) rfl))) (aq (.A (.n .p) (.n .q) (.l .p .q)) rfl (Int.self_le_toNat ((v0:Nat):Int)))
theorem qn{v0:Nat}{v1:Nat}(aM:(((v0:Nat):Int)=((v1:Nat):Int))):(v0=v1):=Nat.le_antisymm (aq (.ak (.n .p) (.n .q) (.l .p .q)) rfl aM) (aq (.i (-1) (.E (.n .q) (.n .p)) (.l .p .q)) rfl aM)
theorem M1{v0:Nat}{v1:Nat}{v2:Nat}{iF:Nat}{nW:Prop}(aM:(iF≤v2))(ae:(¬((iF=v2)∨nW))):(((v0-v1)+(v2-(iF+(1:Nat))))<((v0-v1)+(v2-iF))):=(Nat.lt_or_gt_of_ne (fun ay=>ae (.inl ay))).elim (fun aE=>cB (.i (-1) (.e (.a .r .s) .t) (.c (.a .q (.b .s)) .t (.t (.a .p .q) (.a .p .r)))) rfl (Nat.sub_add_cancel (aq (.a .p .q (.l .p .q)) rfl aM)) (Nat.sub_add_cancel (aq (.b .p .q (.l (.b .p) .q)) rfl aE))) (fun bI=>(aq (.a .p .q (.b .q .p .f)) rfl aM bI:False).elim)
theorem GD{v0:Nat}{v1:Nat}(aM:(¬(v0>v1))):(v0≤v1):=aq (.n (.t .q .p) (.l .p .q)) rfl aM
theorem Br{v0:Nat}:(((1:Int)+((v0:Nat):Int))=(((v0+(1:Nat)):Nat):Int)):=Int.le_antisymm (aI (.L (.a (.k 1) (.n .p)) (.n (.b .p))) rfl) (aI (.L (.n (.b .p)) (.a (.k 1) (.n .p))) rfl)
theorem yf{v0:Int}{v1:Int}(aM:(v0<v1)):(v0≠v1):=fun ay=>nV (.B .p .q (.i (-1) (.E .p .q) .f)) rfl aM ay
theorem yg{v0:Nat}{v1:Nat}(aM:(v0<(v1+(1:Nat))))(ae:(¬(v0=v1))):(v0<v1):=(Nat.lt_or_gt_of_ne ae).elim (fun ay=>aq (.b .p .q (.t .p .q)) rfl ay) (fun aE=>aq (.i 2 (.t .p (.b .q)) (.b .q .p (.t .p .q))) rfl aM aE)
theorem Bs{v0:Nat}{v1:Nat}(aM:(v0<v1)):(v0≠v1):=fun ay=>aq (.b .p .q (.i (-1) (.e .p .q) .f)) rfl aM ay
theorem Bt{v0:Nat}(aM:((1:Nat)≤v0)):(((v0:Nat):Int)≠(0:Int)):=fun ay=>aI (.a .o .p (.ak (.n .p) (.k 0) .f)) rfl aM ay
theorem vz{v0:Nat}(aM:((1:Nat)≤v0)):(v0≠(0:Nat)):=fun ay=>aI (.a .o .p (.c .p .z .f)) rfl aM ay
theorem M3{v0:Int}(aM:(¬((0:Int)≤v0))):((0:Int)≤(-v0)):=by lia-abstractProof
theorem Bu{v0:Nat}{v1:Nat}(aM:(v0≤v1))(ae:(v1≤v0)):(v0=v1):=Nat.le_antisymm (aq (.a .p .q (.l .p .q)) rfl aM) (aq (.a .p .q (.l .p .q)) rfl ae)
theorem M4{v0:Nat}{v1:Nat}{v2:Nat}(aM:(v0≤v2))(ae:(v1≤v0)):((v0+v1)≤(v2*(2:Nat))):=by lia-abstractProof
theorem M5{v0:Nat}{v1:Nat}(aM:(((v1 % (2:Nat))=(0:Nat))∧(v0=(v1+(1:Nat))))):((v0 % (2:Nat))=(1:Nat)):=by lia-abstractProof
theorem M6{v0:Nat}{v1:Nat}(aM:(((v0 % (2:Nat))=(0:Nat))∧(v1=(v0+(1:Nat))))):(v0=(v1-(1:Nat))):=Nat.le_antisymm (aA (.i (-1) (.e .r (.b .p)) (.a .r (.b .q) (.l .p .q))) rfl aM.2 (b5 v1 (1:Nat))) (aA (.c .r (.b .q) (.c (.b .p) .r (.l .p .q))) rfl aM.2 (Nat.sub_add_cancel (aq (.i (-1) (.e .p (.b .q)) (.l .o .p)) rfl aM.2)))
theorem M7{v0:Int}{v1:Nat}(aM:((((v1+(1:Nat)):Nat):Int)<v0))(ae:(((1:Int)≤v0)∧(v0≤(((v1+(1:Nat)):Nat):Int)))):(v0=(((v1+(1:Nat)):Nat):Int)):=Int.le_antisymm (ck (.A .p (.n (.b .p)) (.L .p (.n (.b .p)))) rfl [v1] [v0] ae.2) (ck (.B (.n (.b .p)) .p (.L (.n (.b .p)) .p)) rfl [v1] [v0] aM)
theorem M8{v0:Int}{v1:Nat}{v2:Int}(aM:(v2=(((v1+(1:Nat)):Nat):Int)))(ae:(v0<v2))(af:(((1:Int)≤v0)∧(v0≤(((v1+(1:Nat)):Nat):Int)))):(((1:Int)≤v0)∧(v0≤((v1:Nat):Int))):=⟨gG (.A (.k 1) .p (.L (.k 1) .p)) rfl af.1,ck (.ak .q (.n (.b .p)) (.B .p .q (.L .p (.n .p)))) rfl [v1] [v0,v2] aM ae⟩
theorem M9{v0:Int}{v1:Nat}(aM:(((1:Int)≤v0)∧(v0≤(((v1+(1:Nat)):Nat):Int))))(ae:(v0≠(((v1+(1:Nat)):Nat):Int))):(((1:Int)≤v0)∧(v0≤((v1:Nat):Int))):=⟨gG (.A (.k 1) .p (.L (.k 1) .p)) rfl aM.1,(Int.lt_or_gt_of_ne ae).elim (fun ay=>ck (.B .p (.n (.b .p)) (.L .p (.n .p))) rfl [v1] [v0] ay) (fun aE=>ck (.i 2 (.L .p (.n (.b .p))) (.B (.n (.b .p)) .p (.L .p (.n .p)))) rfl [v1] [v0] aM.2 aE)⟩
theorem Bv{jZ:Prop}(aM:((1:Nat)≤(0:Nat))):jZ:=(ik (.a .o .z .f) rfl aM:False).elim
theorem Na{v0:Nat}(aM:((1:Nat)≤v0))(ae:(v0=(0:Nat))):False:=aI (.a .o .p (.c .p .z .f)) rfl aM ae
theorem Nb{v0:Nat}{v1:Nat}(aM:(v0≤(v1-(1:Nat))))(ae:((0:Nat)<v1)):((v0+(1:Nat))≤v1):=aA (.a .p .r (.c (.b .r) .q (.l (.b .p) .q))) rfl aM (Nat.sub_add_cancel (aI (.b .z .p (.l .o .p)) rfl ae))
theorem Nc{v0:Nat}{v1:Nat}{v2:Nat}{iF:Nat}{v4:Nat}{lN:Nat}(aM:(v2<v1))(ae:((v0≤iF)∧((v0≤v4)∧((v0≤lN)∧(v0≤v2))))):(v0≤v1):=aA (.b .r .q (.a .p .r (.l .p .q))) rfl aM ae.2.2.2
theorem Nd{v0:Nat}{v1:Nat}(aM:(v1<v0)):((-((v0:Nat):Int))≤((-(1:Int))-((v1:Nat):Int))):=by lia-abstractProof
theorem Nf{v0:Nat}{v1:Nat}:((Int.toNat (((-(1:Int))-((v0:Nat):Int))+((v1:Nat):Int)))=((v1-(1:Nat))-v0)):=by lia-abstractProof
theorem Bw{v0:Nat}{v1:Nat}(aM:(v0<v1)):(¬(v0=v1)):=fun ay=>aq (.b .p .q (.i (-1) (.e .p .q) .f)) rfl aM ay
theorem yh{v0:Nat}{v1:Nat}(aM:((1:Nat)≤v0)):(((v0-(1:Nat))-v1)<v0):=aA (.a .p .r (.c (.b .r) .q (.t .p .q))) rfl (Nat.sub_le (v0-(1:Nat)) v1) (Nat.sub_add_cancel (aI (.a .o .p (.l .o .p)) rfl aM))
theorem Ng{v0:Nat}(aM:(v0<(2:Nat))):((v0=(0:Nat))∨(v0=(1:Nat))):=(Classical.em _).elim .inl fun ay=>.inr (Nat.le_antisymm (aI (.b .p (.k 2) (.l .p .o)) rfl aM) ((Nat.lt_or_gt_of_ne ay).elim (fun aE=>aI (.b .p .z (.l .o .p)) rfl aE) (fun bI=>aI (.b .z .p (.l .o .p)) rfl bI)))
theorem Nh{v0:Int}{v1:Int}{v2:Nat}(aM:(((1:Int)≤v1)∧(v1<((v2:Nat):Int))))(ae:((Int.toNat v0)=(Int.toNat v1))):(v0=v1):=by lia-abstractProof
theorem Ni{v0:Int}{v1:Int}(aM:(v0≤v1))(ae:(((0:Int)≤v1)∧(v1≤(255:Int)))):((Int.toNat v0)<(256:Nat)):=by lia-abstractProof
theorem Nj{v0:Int}{v1:Int}(aM:(v0≤v1))(ae:(((0:Int)≤v1)∧(v1≤(255:Int)))):((((Int.toNat v0):Nat):Int)≤v1):=by lia-abstractProof
theorem Nk{v0:Nat}{v1:Nat}{v2:Nat}(aM:(v2≤v0))(ae:(v1<v2)):(v0≠v1):=fun ay=>aA (.a .p .q (.b .r .p (.c .q .r .f))) rfl aM ae ay
theorem Nl{v0:Nat}{v1:Nat}{v2:Nat}(aM:(v0≤v2))(ae:(v2<v1)):(v0≤(v1+(1:Nat))):=aA (.a .p .r (.b .r .q (.l .p (.b .q)))) rfl aM ae
theorem Nm{v0:Int}(aM:(v0<(100003:Int))):((Int.toNat (v0*(7:Int)))<(2147483648:Nat)):=by lia-abstractProof
theorem Nn{v0:Int}(aM:((0:Int)≤v0)):((((Int.toNat (v0*(7:Int))):Nat):Int)=(v0*(7:Int))):=by lia-abstractProof
theorem Np{v0:Nat}(aM:(v0<(4:Nat))):((v0=(0:Nat))∨((v0=(1:Nat))∨((v0=(2:Nat))∨(v0=(3:Nat))))):=(Classical.em _).elim .inl fun cM=>.inr ((Classical.em _).elim .inl fun fL=>.inr ((Classical.em _).elim .inl fun fM=>.inr ((Nat.lt_or_gt_of_ne cM).elim (fun qo=>Nat.le_antisymm (aI (.b .p (.k 4) (.l .p (.k 3))) rfl aM) (aI (.i 3 (.t .p .z) (.l (.k 3) .p)) rfl qo)) (fun vA=>(Nat.lt_or_gt_of_ne fL).elim (fun tn=>Nat.le_antisymm (aI (.b .p (.k 4) (.l .p (.k 3))) rfl aM) (aI (.i 3 (.t .z .p) (.i 2 (.t .p .o) (.l (.k 3) .p))) rfl vA tn)) (fun vB=>Nat.le_antisymm (aI (.b .p (.k 4) (.l .p (.k 3))) rfl aM) ((Nat.lt_or_gt_of_ne fM).elim (fun yi=>aI (.i 2 (.t .o .p) (.b .p (.k 2) (.l (.k 3) .p))) rfl vB yi) (fun yj=>aI (.b (.k 2) .p (.l (.k 3) .p)) rfl yj)))))))
theorem Bx{v0:Nat}{v1:Nat}(aM:(v0<v1)):(¬(v0=(v1+(1:Nat)))):=fun ay=>aq (.b .p .q (.i (-1) (.e .p (.b .q)) (.F 1))) rfl aM ay
end Mine
section
namespace Mine
inductive ah where
 |none|bool (b:Bool)|int (i:Int)|ref (n:Nat)|tup (xs:List ah)|range (a b:Int)
inductive bB where
 |list (xs:List ah)
 |ed (kvs:List (Int×ah))
 |j0 (kvs:List (List Int×ah))
 |inst (ak d:Nat)
 |fields (fs:List (Str×ah))
 |tab (P:Nat)
 |set (ns:List Int)
 |raw (o:Obj) (ns:List Int)
mutual
inductive bc(am:List Addr)(h:Heap):∀Y:ah,∀Y:Value,Prop
 |none:bc am h .none .none
 |bool {b}:bc am h (.bool b) (.bool b)
 |int {i t}:bc am h (.int i) (.int i t)
 |ref {n a}:∀Y:am[n]?=some a,bc am h (.ref n) (.ref a)
 |tup {xs a items n}:∀Y:IsT h a items n,∀Y:bT am h xs items.toList,bc am h (.tup xs) (.ref a)
 |range {a b r t u v}:∀Y:IsRange h r a b 1 t u v,bc am h (.range a b) (.ref r)
inductive bT(am:List Addr)(h:Heap):∀Y:List ah,∀Y:List Value,Prop
 |nil:bT am h [] []
 |cons {x v xs vs}:∀Y:bc am h x v,∀Y:bT am h xs vs,bT am h (x::xs) (v::vs)
end
noncomputable def Kept(o:Obj):Prop:=(o.cls=.type "tuple"∧∃xs n,o.data=.seq xs n)∨(o.cls=.type "range"∧∃vs,o.data=.fields vs)∨(o.cls=.type "code"∧∃vs,o.data=.fields vs)
noncomputable def fR(h h':Heap):Prop:=∀b o,∀Y:Kept o,∀Y:h.get? b=some o,h'.get? b=some o
theorem o7{am aX:List Addr}(p:am <+: aX){n:Nat}{a:Addr}(e:am[n]?=some a):aX[n]?=some a:=by
 refine aj ?_ p;clear p;rintro r rfl;rw[List.getElem?_append_left (List.getElem?_eq_some_iff.mp e).1];exact e
theorem bc.mono{am aX:List Addr}{h h':Heap}(p:am <+: aX)(k:fR h h'){x v}(r:bc am h x v):bc aX h' x v:=
 bc.rec (motive_1:=fun x v Y=>bc aX h' x v) (motive_2:=fun xs vs Y=>bT aX h' xs vs) .none .bool .int (fun e=>.ref (o7 p e)) (fun bf Y z=>.tup (k _ _ (.inl ⟨rfl,_,_,rfl⟩) bf) z)
  (fun aC=>.range (k _ _ (.inr (.inl ⟨rfl,_,rfl⟩)) aC)) .nil (fun Y Y a b=>.cons a b) r
theorem bT.mono{am aX:List Addr}{h h':Heap}(p:am <+: aX)(k:fR h h'){xs vs}(r:bT am h xs vs):bT aX h' xs vs:=
 bT.rec (motive_1:=fun x v Y=>bc aX h' x v) (motive_2:=fun xs vs Y=>bT aX h' xs vs) .none .bool .int (fun e=>.ref (o7 p e)) (fun bf Y z=>.tup (k _ _ (.inl ⟨rfl,_,_,rfl⟩) bf) z)
  (fun aC=>.range (k _ _ (.inr (.inl ⟨rfl,_,rfl⟩)) aC)) .nil (fun Y Y a b=>.cons a b) r
section
variable{am:List Addr}{h:Heap}{v:Value}
theorem bc.int_inv{i:Int}(r:bc am h (.int i) v):∃t,v=.int i t:=by cases r;exact⟨_,rfl⟩
theorem bc.bool_inv{b:Bool}(r:bc am h (.bool b) v):v=.bool b:=by cases r;rfl
theorem bc.none_inv(r:bc am h .none v):v=.none:=by cases r;rfl
theorem bc.qp{n:Nat}(r:bc am h (.ref n) v):∃a,v=.ref a∧am[n]?=some a:=by cases r;exact⟨_,rfl,‹_›⟩
theorem bc.m8{xs:List ah}(r:bc am h (.tup xs) v):∃a items n,v=.ref a∧IsT h a items n∧bT am h xs items.toList:=by cases r;exact cF _ _ _ ⟨rfl,‹_›,‹_›⟩
theorem bT.nil_inv{vs:List Value}(r:bT am h [] vs):vs=[]:=by cases r;rfl
theorem bT.cons_inv{x:ah}{xs:List ah}{vs:List Value}(r:bT am h (x::xs) vs):∃v r,vs=v::r∧bc am h x v∧bT am h xs r:=by cases r;exact cE _ _ ⟨rfl,‹_›,‹_›⟩
theorem bT.yk{x:ah}{vs:List Value}(r:bT am h [x] vs):∃v,vs=[v]∧bc am h x v:=by
 refine bZ ?_ r.cons_inv;intro v r;refine aY ?_;rintro rfl a b;exact⟨v,b.nil_inv▸rfl,a⟩
theorem bT.By{x y:ah}{vs:List Value}(r:bT am h [x,y] vs):∃v u,vs=[v,u]∧bc am h x v∧bc am h y u:=by
 refine bZ ?_ r.cons_inv;intro v r;refine aY ?_;rintro rfl a b;refine aj ?_ b.yk;intro u;refine ar ?_;rintro rfl c;exact cE v u ⟨rfl,a,c⟩
theorem bc.Nq{a b:Int}(r:bc am h (.range a b) v):∃c t u x,v=.ref c∧IsRange h c a b 1 t u x:=by cases r;exact dX _ _ _ _ ⟨rfl,‹_›⟩
end
theorem gh{α:Type}{a:α}{G:Prop}(h:none=some a):G:=by cases h
noncomputable def fY{α:Type}(x:Option α)(F:∀Y:α,Prop):Prop:=x.elim False F
noncomputable def rL{α β:Type}(x:Option α)(y:Option β)(F:∀Y:α,∀Y:β,Prop):Prop:=x.elim False fun a=>y.elim False fun b=>F a b
section
variable{α β:Type}{x:Option α}{y:Option β}
theorem gH{F:∀Y:α,Prop} (h:fY x F):∃a,x=some a∧F a:=by
 cases x with
 |none=>exact h.elim
 |some a=>exact⟨a,rfl,h⟩
theorem tu{F:∀Y:α,∀Y:β,Prop} (h:rL x y F):∃a b,x=some a∧y=some b∧F a b:=by
 refine aj ?_ (gH h);intro a;refine ar ?_;intro e h;refine aj ?_ (gH h);intro b;refine ar ?_;intro cA h;exact cE a b ⟨e,cA,h⟩
theorem fS{F:∀Y:α,Prop} {a:α} (e:x=some a) (h:F a):fY x F:=by subst e;exact h
theorem rM{F:∀Y:α,∀Y:β,Prop} {a:α} {b:β} (e:x=some a) (cA:y=some b) (h:F a b):rL x y F:=by subst e cA;exact h
end
section
variable{α β:Type}{R:∀Y:α,∀Y:β,Prop} {xs ys:List α} {vs us:List β}
theorem GF(h:Paired R xs vs):xs.length=vs.length:=by
 induction h with
 |nil=>rfl
 |cons _ _ ih=>exact congrArg (·+1) ih
theorem Nr(h:Paired R xs vs):∀{i:Nat}{x:α},∀Y:xs[i]?=some x,∃v,vs[i]?=some v∧R x v:=by
 induction h with
 |nil=>intro i x e;cases e
 |cons a b ih=>
  intro i x e;cases i with
  |zero=>cases e;exact⟨_,rfl,a⟩
  |succ i=>exact ih e
theorem GG(h:Paired R xs vs):∀{i:Nat}{v:β},∀Y:vs[i]?=some v,∃x,xs[i]?=some x∧R x v:=by
 induction h with
 |nil=>intro i x e;cases e
 |cons a b ih=>
  intro i x e;cases i with
  |zero=>cases e;exact⟨_,rfl,a⟩
  |succ i=>exact ih e
theorem Nt(h:Paired R xs vs)(h':Paired R ys us):Paired R (xs++ys) (vs++us):=by
 induction h with
 |nil=>exact h'
 |cons a _ ih=>exact .cons a ih
theorem Nu{x:α}{v:β}(h:Paired R xs vs)(a:R x v):∀i,Paired R (xs.set i x) (vs.set i v):=by
 induction h with
 |nil=>intro i;exact .nil
 |cons c d ih=>
  intro i;cases i with
  |zero=>exact .cons a d
  |succ i=>exact .cons c (ih i)
theorem Nv(h:Paired R xs vs):∀n,Paired R (xs.take n) (vs.take n):=by
 induction h with
 |nil=>intro n;rw[List.take_nil,List.take_nil];exact .nil
 |cons a _ ih=>
  intro n;cases n with
  |zero=>exact .nil
  |succ n=>exact .cons a (ih n)
theorem Nx(h:Paired R xs vs):∀v∈vs,∃x∈xs,R x v:=by
 induction h with
 |nil=>intro v aO;cases aO
 |cons a _ ih=>
  intro v aO;rcases List.mem_cons.mp aO with rfl|aO
  ·exact⟨_,List.mem_cons_self ..,a⟩
  ·refine aj ?_ (ih v aO);intro x;refine ar ?_;intro ai r;exact⟨x,List.mem_cons_of_mem _ ai,r⟩
theorem GH(h:Paired R xs vs):∀x∈xs,∃v,v∈vs∧R x v:=by
 induction h with
 |nil=>intro v aO;cases aO
 |cons a _ ih=>
  intro v aO;rcases List.mem_cons.mp aO with rfl|aO
  ·exact⟨_,List.mem_cons_self ..,a⟩
  ·refine aj ?_ (ih v aO);intro x;refine ar ?_;intro ai r;exact⟨x,List.mem_cons_of_mem _ ai,r⟩
end
theorem bT.pr{am h xs vs}(r:bT am h xs vs):Paired (bc am h) xs vs:=
 bT.rec (motive_1:=fun Y Y Y=>True) (motive_2:=fun xs vs Y=>Paired (bc am h) xs vs) trivial trivial trivial (fun Y=>trivial) (fun Y Y Y=>trivial) (fun Y=>trivial) .nil (fun a Y Y z=>.cons a z) r
theorem bT.of{am h xs vs}(p:Paired (bc am h) xs vs):bT am h xs vs:=by
 induction p with
 |nil=>exact .nil
 |cons a _ ih=>exact .cons a ih
theorem qq{am h xs}{items:Array Value}(r:bT am h xs items.toList):items.size=xs.length:=(GF r.pr).symm
theorem bT.length{am h xs vs}(r:bT am h xs vs):xs.length=vs.length:=GF r.pr
theorem bT.get{am h xs vs}(r:bT am h xs vs){i:Nat}{x:ah}(e:xs[i]?=some x):∃v,vs[i]?=some v∧bc am h x v:=Nr r.pr e
theorem bT.append{am h xs vs ys us}(r:bT am h xs vs)(c5:bT am h ys us):bT am h (xs++ys) (vs++us):=.of (Nt r.pr c5.pr)
theorem bT.set{am h xs vs}(r:bT am h xs vs){x v}(a:bc am h x v)(i:Nat):bT am h (xs.set i x) (vs.set i v):=.of (Nu r.pr a i)
theorem bT.take{am h xs vs}(r:bT am h xs vs)(n:Nat):bT am h (xs.take n) (vs.take n):=.of (Nv r.pr n)
theorem bT.ints{am h}{ns:List Int}:∀{vs},∀Y:bT am h (ns.map .int) vs,IntsAre vs ns:=by
 induction ns with
 |nil=>intro vs x;cases x;exact .nil
 |cons n r ih=>intro vs x;cases x with|cons a b=>cases a;exact .cons _ _ (ih b)
theorem bT.BA{am h vs ns}(r:IntsAre vs ns):bT am h (ns.map .int) vs:=by
 induction r with
 |nil=>exact .nil
 |cons _ _ _ z=>exact .cons .int z
variable(prog:Program)(w:World)
noncomputable def nX:Str:="without_dominated.<locals>.<lambda>"
noncomputable def tw(h:Heap)(iR:Value)(q:Str):Prop:=∃c o vs t,iR=.ref c∧h.get? c=some o∧o.cls=.type "code"∧o.data=.fields vs∧vs[1]?=some (.str q t)
theorem tw.gI{h h':Heap}{iR:Value}{q:Str}(x:tw h iR q)(k:fR h h'):tw h' iR q:=by
 refine dF ?_ x;clear x;intro c o vs t;refine eY ?_;intro a b cl d e;exact dX c o vs t ⟨a,k _ _ (.inr (.inr ⟨cl,vs,d⟩)) b,cl,d,e⟩
noncomputable def il(xs:List Nat):Prop:=xs.Pairwise (·<·)
noncomputable def gJ(h:Heap)(a:Addr)(ns:List Int):Prop:=
 ∃a9 ep t,h.get? a=some ⟨.type "set",none,.set a9 ep t,#[]⟩∧IntsAre (a9.toList.map (·.2)) ns∧(∀e∈a9.toList,∃k tk,e=(hashInt k,Value.int k tk))∧ns.Nodup∧il t.place.toList∧t.fits a9.size=true∧t.led=!w.params.followText "set-order"
theorem tB{o:Obj}{c:Value}(e:o.cls=c)(ae:c≠.type "tuple")(af:c≠.type "range")(aH:c≠.type "code"):¬Kept o:=by
 subst e;exact fun h=>h.elim (fun h=>ae h.1) fun h=>h.elim (fun h=>af h.1) fun h=>aH h.1
theorem tC{o:Obj}(e:o.cls=.type "list"):¬Kept o:=tB e (by decide) (by decide) (by decide)
theorem Ny{o:Obj}(e:o.cls=.none):¬Kept o:=tB e (by decide) (by decide) (by decide)
theorem GI{o:Obj}(e:o.cls=.type "dict"):¬Kept o:=tB e (by decide) (by decide) (by decide)
theorem GJ{o:Obj}{a9 ep}(d:o.data=.dict a9 ep):¬Kept o:=by
 rintro(⟨_,_,_,q⟩|⟨_,_,q⟩|⟨_,_,q⟩)<;>cases d.symm.trans q
theorem Nz{o:Obj}{v}(d:o.data=.cell v):¬Kept o:=by
 rintro(⟨_,_,_,q⟩|⟨_,_,q⟩|⟨_,_,q⟩)<;>cases d.symm.trans q
theorem gJ.there{h:Heap}{a:Addr}{ns:List Int}(x:gJ w h a ns):∃bO,h.get? a=some bO∧¬Kept bO:=by
 refine bG ?_ x;clear x;intro a9 ep t;refine ar ?_;intro e _;exact⟨_,e,tB (c:=.type "set") rfl (by decide) (by decide) (by decide)⟩
theorem gJ.at_{h h':Heap}{a:Addr}{ns:List Int}(e:∀bO,∀Y:h.get? a=some bO,h'.get? a=some bO) (x:gJ w h a ns):gJ w h' a ns:=by
 refine bG ?_ x;clear x;intro a9 ep t;refine ar ?_;intro g r;exact(cF a9 ep t ⟨e _ g,r⟩)
noncomputable def j1(am:List Addr)(h:Heap)(a:Addr):∀Y:bB,Prop
 |.list xs=>∃vs:List Value,h.PlainList a vs.toArray∧bT am h xs vs
 |.ed kvs=>∃aB:List (Int×Value),h.DictOf (intKind prog w) a aB∧Paired (fun(x:Int×ah)(y:Int×Value)=>x.1=y.1∧bc am h x.2 y.2) kvs aB
 |.j0 kvs=>∃aB:List (List Int×Addr×Value),h.DictOfH (tupleKind (intKind prog w)) a aB∧Paired (fun(x:List Int×ah)(y:List Int×Addr×Value)=>x.1=y.1∧bc am h x.2 y.2.2) kvs aB
 |.inst ak d=>∃d6 o,am[d]?=some d6∧h.get? a=some o∧o.cls=.ref ak∧(∀c,o.data≠.cls c)∧o.dict=some d6∧d6≠a
 |.fields fs=>∃ir,h.Ns1 a ir∧∀x,match fs.lookup x with|some pv=>∃v,ir x=some v∧bc am h pv v|none=>ir x=none
 |.tab P=>a=P∧∃dq:Array Value,h.get? a=some ⟨.none,none,.fields dq,#[]⟩∧TriplesOk dq.toList∧∀pos iR,∀Y:codeAmong pos dq.toList=some iR,tw h iR nX
 |.set ns=>gJ w h a ns
 |.raw o ns=>h.get? a=some o∧∃vs:List Value,h.PlainList a vs.toArray∧bT am h (ns.map .int) vs
structure Ext(am:List Addr)(h:Heap)(aX:List Addr)(h':Heap):Prop where
 pre:am <+: aX
 keep:∀b o,∀Y:b∉am,∀Y:h.get? b=some o,h'.get? b=some o
 fresh:∀a∈aX,∀Y:a∉am,h.get? a=none
theorem Ext.refl{am h}:Ext am h am h:=⟨List.prefix_refl _,fun Y Y Y e=>e,fun Y ae af=>absurd ae af⟩
theorem Ext.trans{am h aX h' iu nY}(x:Ext am h aX h')(y:Ext aX h' iu nY):Ext am h iu nY:=by
 refine⟨x.pre.trans y.pre,fun b o av e=>?_,fun a aJ az=>?_⟩
 ·refine y.keep b o (fun hm=>?_) (x.keep b o av e);rw[x.fresh b hm av]at e;cases e
 ·by_cases hm:a∈aX
  ·exact x.fresh a hm az
  ·cases e:h.get? a with
   |none=>rfl
   |some o=>have:=y.fresh a aJ hm;rw[x.keep a o az e]at this;cases this
theorem Ext.of_keeps{am h h'}(k:∀b o,∀Y:h.get? b=some o,h'.get? b=some o):Ext am h am h':=
 ⟨List.prefix_refl _,fun b o Y e=>k b o e,fun Y ae af=>absurd ae af⟩
structure bh(B:Heap)(am:List Addr)(h:Heap)(st:List bB):Prop where
 len:am.length=st.length
 nodup:am.Nodup
 off:∀a∈am,B.get? a=none
 base:∀b o,∀Y:B.get? b=some o,h.get? b=some o
 obj:∀(n:Nat)(a:Addr)(o:bB),∀Y:am[n]?=some a,∀Y:st[n]?=some o,j1 prog w am h a o
variable{prog:Program}{w:World}{B:Heap}
theorem j1.there{am h a o}(x:j1 prog w am h a o):∃bO,h.get? a=some bO∧¬Kept bO:=by
 cases o with
 |list _=>refine aj ?_ x;clear x;intro _;refine ar ?_;refine aj ?_;intro _ e;intro _;exact⟨_,e,tC rfl⟩
 |ed _=>refine aj ?_ x;clear x;intro _;refine ar ?_;refine bG ?_;intro _ _ _;refine aY ?_;intro e aG _;intro _;exact⟨_,e,GI aG.1⟩
 |j0 _=>refine aj ?_ x;clear x;intro _;refine ar ?_;refine bG ?_;intro _ _ _;refine aY ?_;intro e aG _;intro _;exact⟨_,e,GI aG.1⟩
 |inst _ _=>refine bZ ?_ x;clear x;intro _ _;refine cI ?_;intro _ e aG _;exact⟨_,e,tB aG nofun nofun nofun⟩
 |fields _=>
  refine aj ?_ x;clear x;intro _;refine ar ?_;refine bG ?_;intro _ _ _;refine aY ?_;intro e hd _;intro _;exact⟨_,e,GJ hd⟩
 |tab _=>obtain⟨_,_,e,_⟩:=x;exact⟨_,e,Ny rfl⟩
 |set _=>exact gJ.there w x
 |raw _ _=>obtain⟨_,_,⟨_,e⟩,_⟩:=x;exact⟨_,e,tC rfl⟩
theorem yl{α β:Type}{F G:∀Y:α,∀Y:β,Prop} (h:∀a b,∀Y:F a b,G a b) {l₁ l₂} (p:Paired F l₁ l₂):Paired G l₁ l₂:=by
 induction p with
 |nil=>exact .nil
 |cons a _ z=>exact .cons (h _ _ a) z
theorem GK{am aX:List Addr}{h h':Heap}(p:am <+: aX)(k:fR h h'){l:Option ah}{v:Option Value}:(match l with|some pv=>∃u,v=some u∧bc am h pv u|none=>v=none)→
 match l with|some pv=>∃u,v=some u∧bc aX h' pv u|none=>v=none:=by
 cases l with
 |none=>exact id
 |some pv=>exact fun r=>r.imp fun Y z=>⟨z.1,z.2.mono p k⟩
theorem j1.mono{am aX h h' a}(p:am <+: aX)(k:fR h h')(e:∀bO,∀Y:h.get? a=some bO,h'.get? a=some bO) {o} (x:j1 prog w am h a o):j1 prog w aX h' a o:=by
 cases o with
 |list _=>refine aj ?_ x;clear x;intro vs;refine ar ?_;refine aj ?_;intro n q;intro r;exact⟨vs,⟨n,e _ q⟩,r.mono p k⟩
 |ed _=>
  refine aj ?_ x;clear x;intro aB;refine ar ?_;refine bG ?_;intro o a9 ep;refine ar ?_;intro q r;intro z;exact⟨aB,(cF o a9 ep ⟨e _ q,r⟩),yl (fun Y Y y=>⟨y.1,y.2.mono p k⟩) z⟩
 |j0 _=>
  refine aj ?_ x;clear x;intro aB;refine ar ?_;refine bG ?_;intro o a9 ep;refine dH ?_;intro q j2 e7 vC BB vD;intro z
  exact⟨aB,(cF o a9 ep ⟨e _ q,j2,e7,vC,fun x ai=>by
   refine bG ?_ (BB x ai);intro NB items n;refine cI ?_;intro g1 g2 g3 lO;exact⟨NB,items,n,k _ _ (.inl ⟨g2,_,_,g3⟩) g1,g2,g3,lO⟩,vD⟩),yl (fun Y Y y=>⟨y.1,y.2.mono p k⟩) z⟩
 |inst _ _=>refine bZ ?_ x;clear x;intro d6 o;refine aY ?_;intro q r z;exact(cE d6 o ⟨o7 p q,e _ r,z⟩)
 |fields _=>refine aj ?_ x;clear x;intro ir;refine ar ?_;refine bG ?_;intro o a9 ep;refine ar ?_;intro q z;intro r;exact⟨ir,(cF o a9 ep ⟨e _ q,z⟩),fun x=>GK p k (r x)⟩
 |tab _=>obtain⟨dj,dq,q,r,z⟩:=x;exact⟨dj,dq,e _ q,r,fun pos iR ae=>(z pos iR ae).gI k⟩
 |set _=>exact gJ.at_ w e x
 |raw _ _=>obtain⟨aS,vs,⟨n,q⟩,r⟩:=x;exact⟨e _ aS,vs,⟨n,e _ q⟩,r.mono p k⟩
namespace bh
variable{am:List Addr}{h:Heap}{st:List bB}
theorem there(S:bh prog w B am h st){a:Addr}(aJ:a∈am):∃bO,h.get? a=some bO∧¬Kept bO:=by
 obtain⟨n,az,rfl⟩:=List.mem_iff_getElem.mp aJ;have nZ:n<st.length:=S.len▸az;exact(S.obj n _ _ (List.getElem?_eq_getElem az) (List.getElem?_eq_getElem nZ)).there
theorem gI(S:bh prog w B am h st){aX h'}(x:Ext am h aX h'):fR h h':=fun b o bx e=>by
 refine x.keep b o (fun hm=>?_) e;refine aj ?_ (S.there hm);intro bO;refine ar ?_;intro cA az;rw[e]at cA;cases cA;exact az bx
theorem at_(S:bh prog w B am h st){n:Nat}{o:bB}(e:st[n]?=some o):∃a,am[n]?=some a∧j1 prog w am h a o:=by
 have az:n<am.length:=S.len▸(List.getElem?_eq_some_iff.mp e).1;exact⟨_,List.getElem?_eq_getElem az,S.obj n _ o (List.getElem?_eq_getElem az) e⟩
theorem lt(S:bh prog w B am h st){a:Addr}(aJ:a∈am):a<h.objs.size:=let ⟨_,e,_⟩:=S.there aJ;Heap.lt_size e
theorem keeps(S:bh prog w B am h st){h':Heap}(k:∀b o,∀Y:h.get? b=some o,h'.get? b=some o):bh prog w B am h' st:=
 ⟨S.len,S.nodup,S.off,fun b o e=>k b o (S.base b o e),fun n a o ae af=>(S.obj n a o ae af).mono (List.prefix_refl _) (fun b o Y e=>k b o e) fun bO e=>k _ bO e⟩
theorem set(S:bh prog w B am h st){h':Heap}{n:Nat}{a:Addr}{o:bB}(aJ:am[n]?=some a)(hs:∀b o,∀Y:b≠a,∀Y:h.get? b=some o,h'.get? b=some o) (bx:∀Y:fR h h',j1 prog w am h' a o):
 bh prog w B am h' (st.set n o)∧Ext am h am h':=by
 have hm:a∈am:=List.mem_of_getElem? aJ;have x:Ext am h am h':=⟨List.prefix_refl _,fun b o av e=>hs b o (fun q=>av (q▸hm)) e,fun Y ae af=>absurd ae af⟩;have du:=S.gI x;refine⟨⟨by rw[List.length_set];exact S.len,S.nodup,S.off,fun b o e=>hs b o (fun q=>?_) (S.base b o e),fun m b cg ae af=>?_⟩,x⟩
 ·rw[q,S.off a hm]at e;cases e
 ·by_cases BC:n=m
  ·subst BC;rw[aJ]at ae;cases ae;rw[List.getElem?_set_self (S.len▸(List.getElem?_eq_some_iff.mp aJ).1)]at af;cases af;exact bx du
  ·rw[List.getElem?_set_ne BC]at af;have cP:b≠a:=fun q=>BC ((List.getElem?_inj (List.getElem?_eq_some_iff.mp aJ).1 S.nodup).mp (by rw[aJ,ae,q]));exact(S.obj m b cg ae af).mono (List.prefix_refl _) du fun bO e=>hs b bO cP e
theorem add(S:bh prog w B am h st){h':Heap}{a:Addr}{o:bB}(aK:∀b o,∀Y:h.get? b=some o,h'.get? b=some o) (az:h.get? a=none) (bx:j1 prog w (am++[a]) h' a o):
 bh prog w B (am++[a]) h' (st++[o])∧Ext am h (am++[a]) h':=by
 have n0:a∉am:=fun hm=>by refine aj ?_ (S.there hm);intro bO;refine ar ?_;intro e _;rw[az]at e;cases e
 refine⟨⟨by simp[S.len],?_,?_,fun b o e=>aK b o (S.base b o e),fun m b cg ae af=>?_⟩,List.prefix_append _ _,fun b o Y e=>aK b o e,?_⟩
 ·rw[List.nodup_append];exact⟨S.nodup,by simp,fun x ai y au=>by rw[List.mem_singleton.mp au];exact fun q=>n0 (q▸ai)⟩
 ·intro b av;rcases List.mem_append.mp av with av|av
  ·exact S.off b av
  ·rw[List.mem_singleton.mp av];cases e:B.get? a with
   |none=>rfl
   |some o=>rw[S.base a o e]at az;cases az
 ·by_cases bC:m<am.length
  ·rw[List.getElem?_append_left bC]at ae;rw[List.getElem?_append_left (S.len▸bC)]at af;exact(S.obj m b cg ae af).mono (List.prefix_append _ _) (fun b o Y e=>aK b o e) fun bO e=>aK b bO e
  ·have:m=am.length:=by
    have:=(List.getElem?_eq_some_iff.mp ae).1;simp at this;exact Nat.le_antisymm (aq (.b .p (.b .q) (.l .p .q)) rfl this) (aq (.n (.t .q .p) (.l .p .q)) rfl bC)
   subst this;rw[List.getElem?_append_right (Nat.le_refl _)]at ae;rw[S.len,List.getElem?_append_right (Nat.le_refl _)]at af;simp at ae af;subst ae af;exact bx
 ·intro b av qr;rcases List.mem_append.mp av with av|av
  ·exact absurd av qr
  ·rw[List.mem_singleton.mp av];exact az
end bh
end Mine
end
section
namespace Mine
variable{prog:Program}{w:World}{B:Heap}
structure dB where
 kinds:List (Str×NameKind)
 vars:List (Str×Nat)
 code:Option (Value×Str):=none
noncomputable def getV:∀Y:List (Option ah),∀Y:Nat,Option ah
 |[],_=>none
 |o::_,0=>o
 |_::r,i+1=>getV r i
noncomputable def setV:∀Y:List (Option ah),∀Y:Nat,∀Y:ah,List (Option ah)
 |[],_,_=>[]
 |_::r,0,v=>some v::r
 |o::r,i+1,v=>o::setV r i v
theorem NC(l:List (Option ah)):∀(i j:Nat)(v:ah),∀Y:i≠j,getV (setV l i v) j=getV l j:=by
 induction l with
 |nil=>exact fun Y Y Y Y=>rfl
 |cons _ r z=>
  intro i j v h;cases i with
  |zero=>cases j with
   |zero=>exact absurd rfl h
   |succ j=>rfl
  |succ i=>cases j with
   |zero=>rfl
   |succ j=>exact z i j v fun e=>h (congrArg (·+1) e)
theorem ND(l:List (Option ah)):∀(i:Nat)(v u:ah),∀Y:getV (setV l i v) i=some u,u=v:=by
 induction l with
 |nil=>exact fun Y Y Y h=>gh h
 |cons _ r z=>
  intro i v u h;cases i with
  |zero=>exact(Option.some.inj h).symm
  |succ i=>exact z i v u h
noncomputable abbrev Loc:=List (Option ah)
noncomputable abbrev St:=List bB
noncomputable def Own(env:Env):List Addr:=env.locals::env.cells.map (·.2)
noncomputable def rN(env:Env)(h:Heap)(x:Str)(v:Option Value):Prop:=
 (env.kindOf x=some .local∧∃m,h.Ns env.locals m∧m x=v)∨
 ((env.kindOf x=some .cell∨env.kindOf x=some .free)∧∃c,env.cells.lookup x=some c∧h.IsCell c v)
structure d7(B:Heap)(ak:dB)(env:Env)(am:List Addr)(h:Heap)(loc:Loc):Prop where
 iG:env.scope.kind=.function
 lP:env.scope.names=ak.kinds
 n3:env.globals=mainGlobals
 o8:env.builtins=builtinsNs
 ym:∀c,∀Y:ak.code=some c,env.code=c.1∧env.qual=c.2
 inj:∀x y i,∀Y:ak.vars.lookup x=some i,∀Y:ak.vars.lookup y=some i,x=y
 ns:∃m,h.Ns env.locals m
 own:∀a∈Own env,(∃o,h.get? a=some o∧¬Kept o)∧a∉am∧B.get? a=none
 apart:env.cells.Pairwise fun x y=>x.2≠y.2
 locals:∀c∈env.cells,c.2≠env.locals
 var:∀x i,∀Y:ak.vars.lookup x=some i,∃v,rN env h x v∧∀pv,∀Y:getV loc i=some pv,∃u,v=some u∧bc am h pv u
theorem rN.at_{env:Env}{h h':Heap}{x:Str}{v:Option Value}(k:∀a∈Own env,∀o,∀Y:h.get? a=some o,h'.get? a=some o):∀Y:rN env h x v,rN env h' x v:=by
 rintro(⟨a,m,n,e⟩|⟨a,c,e,o,bx,hd⟩)
 ·exact .inl ⟨a,m,n.at' (k _ (by simp[Own])),e⟩
 ·exact .inr ⟨a,c,e,o,k c (by
   have:=mem_of_lookup e;simp only[Own,List.mem_cons,List.mem_map];exact .inr ⟨_,this,rfl⟩) o bx,hd⟩
theorem d7.ext{ak:dB}{env:Env}{am aX:List Addr}{h h':Heap}{loc:Loc}{st:St}(R:d7 B ak env am h loc)(S:bh prog w B am h st)(x:Ext am h aX h'):d7 B ak env aX h' loc:=by
 have k:∀a∈Own env,∀o,∀Y:h.get? a=some o,h'.get? a=some o:=fun a aJ o e=>x.keep a o (R.own a aJ).2.1 e;refine⟨R.iG,R.lP,R.n3,R.o8,R.ym,R.inj,?_,fun a aJ=>?_,R.apart,R.locals,fun y i au=>?_⟩
 ·refine aj ?_ R.ns;intro m n;exact⟨m,n.at' (k _ (by simp[Own]))⟩
 ·refine aY ?_ (R.own a aJ);refine aj ?_;intro o;refine ar ?_;intro e aK;intro af aH;refine⟨⟨o,k a aJ o e,aK⟩,fun hm=>?_,aH⟩;rw[x.fresh a hm af]at e;cases e
 ·refine aj ?_ (R.var y i au);intro v;refine ar ?_;intro aO aD;refine⟨v,aO.at_ k,fun pv e=>?_⟩;refine aj ?_ (aD pv e);intro u;refine ar ?_;intro q r;exact⟨u,q,r.mono x.pre (S.gI x)⟩
noncomputable def gW(A:Around)(k:Nat):Prop:=A.handled=none∧A.depth+k+100<recursionLimit∧A.units+20*k+100<cLine
structure c9(am:List Addr)(s:Shared)(aX:List Addr)(s':Shared):Prop where
 eq:∃h' tk d,s'={s with heap:=h',toks:=tk,drawn:=d}
 ext:Ext am s.heap aX s'.heap
theorem c9.refl{am s}:c9 am s am s:=⟨(cF _ _ _ rfl),.refl⟩
theorem c9.trans{am s aX s' iu fj}(x:c9 am s aX s')(y:c9 aX s' iu fj):c9 am s iu fj:=by
 obtain⟨⟨h,t,d,rfl⟩,a⟩:=x;obtain⟨⟨h',e8,o9,rfl⟩,b⟩:=y;exact⟨(cF _ _ _ rfl),a.trans b⟩
theorem c9.tok{am s}{tk:Nat}:c9 am s am {s with toks:=tk}:=⟨(cF _ _ _ rfl),.refl⟩
theorem c9.heap{am s aX h' tk}(x:Ext am s.heap aX h'):c9 am s aX {s with heap:=h',toks:=tk}:=⟨(cF _ _ _ rfl),x⟩
noncomputable def dC(prog:Program)(w:World)(B:Heap)(am:List Addr)(s:Shared)(Q:∀Y:ah,∀Y:St,Prop) (v:Value) (s':Shared):Prop:=
 ∃aX ao pv,c9 am s aX s'∧bh prog w B aX s'.heap ao∧bc aX s'.heap pv v∧Q pv ao
noncomputable def qs(prog:Program)(w:World)(B:Heap)(am:List Addr)(s:Shared)(Q:∀Y:Bool,∀Y:St,Prop) (b:Bool) (s':Shared):Prop:=
 ∃aX ao,c9 am s aX s'∧bh prog w B aX s'.heap ao∧Q b ao
noncomputable def GL(prog:Program)(w:World)(B:Heap)(am:List Addr)(s:Shared)(Q:∀Y:List ah,∀Y:St,Prop) (vs:List Value) (s':Shared):Prop:=
 ∃aX ao qt,c9 am s aX s'∧bh prog w B aX s'.heap ao∧bT aX s'.heap qt vs∧Q qt ao
noncomputable abbrev bo:∀Y:Value,∀Y:Shared,Prop:=fun Y Y=>False
noncomputable abbrev b6:=∀Y:(∀Y:ah,∀Y:St,Prop),∀Y:Loc,∀Y:St,Prop
noncomputable abbrev e9:=∀Y:(∀Y:Bool,∀Y:St,Prop),∀Y:Loc,∀Y:St,Prop
noncomputable abbrev lQ:=∀Y:(∀Y:List ah,∀Y:St,Prop),∀Y:Loc,∀Y:St,Prop
noncomputable def b3(prog:Program)(w:World)(B:Heap)(ak:dB)(k:Nat)(e:Expr)(P:b6):Prop:=
 ∀⦃A:Around⦄⦃env:Env⦄⦃s:Shared⦄⦃am:List Addr⦄⦃loc:Loc⦄⦃st:St⦄⦃Q:∀Y:ah,∀Y:St,Prop⦄,∀Y:gW A k,∀Y:d7 B ak env am s.heap loc,∀Y:bh prog w B am s.heap st,∀Y:P Q loc st,
  wpAny (model prog w) A (eval e env) (dC prog w B am s Q) bo s
noncomputable def jG(prog:Program)(w:World)(B:Heap)(ak:dB)(k:Nat)(e:Expr)(P:e9):Prop:=
 ∀⦃A:Around⦄⦃env:Env⦄⦃s:Shared⦄⦃am:List Addr⦄⦃loc:Loc⦄⦃st:St⦄⦃Q:∀Y:Bool,∀Y:St,Prop⦄,∀Y:gW A k,∀Y:d7 B ak env am s.heap loc,∀Y:bh prog w B am s.heap st,∀Y:P Q loc st,
  wpAny (model prog w) A (isTrue e env (eval e env)) (qs prog w B am s Q) bo s
noncomputable def qu(prog:Program)(w:World)(B:Heap)(ak:dB)(k:Nat)(a9:List Expr)(P:lQ):Prop:=
 ∀⦃A:Around⦄⦃env:Env⦄⦃s:Shared⦄⦃am:List Addr⦄⦃loc:Loc⦄⦃st:St⦄⦃Q:∀Y:List ah,∀Y:St,Prop⦄ ⦃pos:Pos⦄,∀Y:gW A k,∀Y:d7 B ak env am s.heap loc,∀Y:bh prog w B am s.heap st,∀Y:P Q loc st,
  wpAny (model prog w) A (spliced (backTo pos (starEach a9 env))) (GL prog w B am s Q) bo s
theorem never{α:Type}{A:Around}{m:Sem α}{Q:∀Y:α,∀Y:Shared,Prop} {E:∀Y:Value,∀Y:Shared,Prop} {s:Shared} (h:wpAny (model prog w) A m Q bo s):wpAny (model prog w) A m Q E s:=
 wpAny_mono h (fun Y Y x=>x) fun Y Y x=>x.elim
section
variable{A:Around}{s s' dw:Shared}{am aX:List Addr}{st:St}{Q:∀Y:ah,∀Y:St,Prop} {v:Value} {pv:ah}
theorem jH{tk:Nat}(S:bh prog w B am s.heap st)(aO:bc am s.heap pv v)(h:Q pv st):dC prog w B am s Q v {s with toks:=tk}:=
 (cF am st pv ⟨.tok,S,aO,h⟩)
theorem n4(S:bh prog w B am s.heap st)(aO:bc am s.heap pv v)(h:Q pv st):dC prog w B am s Q v s:=
 (cF am st pv ⟨.refl,S,aO,h⟩)
theorem dC.over(x:c9 am s aX s')(p:dC prog w B aX s' Q v dw):dC prog w B am s Q v dw:=by
 refine bG ?_ p;clear p;intro iu ao pv;refine ar ?_;intro y r;exact(cF iu ao pv ⟨x.trans y,r⟩)
theorem qs.over{Q:∀Y:Bool,∀Y:St,Prop} {b:Bool} (x:c9 am s aX s') (p:qs prog w B aX s' Q b dw):qs prog w B am s Q b dw:=by
 refine bZ ?_ p;clear p;intro iu ao;refine ar ?_;intro y r;exact(cE iu ao ⟨x.trans y,r⟩)
end
theorem dZ{A:Around}{s:Shared}{am:List Addr}{m:Sem Value}{Q:∀Y:ah,∀Y:St,Prop} {F:∀Y:Value,∀Y:Shared,Prop} (h:wpAny (model prog w) A m (dC prog w B am s Q) bo s)
 (k:∀v s' aX ao pv,∀Y:c9 am s aX s',∀Y:bh prog w B aX s'.heap ao,∀Y:bc aX s'.heap pv v,∀Y:Q pv ao,F v s'):wpAny (model prog w) A m F bo s:=
 wpAny_mono h (fun v s' aQ=>by refine bG ?_ aQ;clear aQ;intro aX ao pv;refine cI ?_;intro a b c d;exact k v s' aX ao pv a b c d) fun Y Y x=>x
theorem rO{A:Around}{s:Shared}{am:List Addr}{m:Sem Bool}{Q:∀Y:Bool,∀Y:St,Prop} {F:∀Y:Bool,∀Y:Shared,Prop} (h:wpAny (model prog w) A m (qs prog w B am s Q) bo s)
 (k:∀v s' aX ao,∀Y:c9 am s aX s',∀Y:bh prog w B aX s'.heap ao,∀Y:Q v ao,F v s'):wpAny (model prog w) A m F bo s:=
 wpAny_mono h (fun v s' aQ=>by refine bZ ?_ aQ;clear aQ;intro aX ao;refine aY ?_;intro a b d;exact k v s' aX ao a b d) fun Y Y x=>x
theorem tD{A:Around}{s:Shared}{am:List Addr}{m:Sem (List Value)}{Q:∀Y:List ah,∀Y:St,Prop} {F:∀Y:List Value,∀Y:Shared,Prop} (h:wpAny (model prog w) A m (GL prog w B am s Q) bo s)
 (k:∀v s' aX ao pv,∀Y:c9 am s aX s',∀Y:bh prog w B aX s'.heap ao,∀Y:bT aX s'.heap pv v,∀Y:Q pv ao,F v s'):wpAny (model prog w) A m F bo s:=
 wpAny_mono h (fun v s' aQ=>by refine bG ?_ aQ;clear aQ;intro aX ao pv;refine cI ?_;intro a b c d;exact k v s' aX ao pv a b c d) fun Y Y x=>x
theorem bc.j3{am aX:List Addr}{s s':Shared}{st:St}{x:ah}{v:Value}(h:bc am s.heap x v)(S:bh prog w B am s.heap st)(t:c9 am s aX s'):bc aX s'.heap x v:=
 h.mono t.ext.pre (S.gI t.ext)
theorem bT.j3{am aX:List Addr}{s s':Shared}{st:St}{x:List ah}{v:List Value}(h:bT am s.heap x v)(S:bh prog w B am s.heap st)(t:c9 am s aX s'):bT aX s'.heap x v:=
 h.mono t.ext.pre (S.gI t.ext)
variable{ak:dB}{k:Nat}
noncomputable def vE:∀Y:Option ah,∀Y:(∀Y:ah,∀Y:St,Prop),∀Y:St,Prop
 |some v,Q,st=>Q v st
 |none,_,_=>False
noncomputable def nameP(i:Nat):b6:=fun Q loc st=>vE (getV loc i) Q st
theorem aw{x:Str}{p:Pos}{i:Nat}(aO:ak.vars.lookup x=some i)(hd:autoParam ((x==("__debug__":Str))=false) jE._auto_1)(aG:autoParam ((x==("__classdict__":Str))=false) jE._auto_1):
 b3 prog w B ak k (.Name x p) (nameP i):=by
 intro A env s am loc st Q _ R S h;unfold nameP at h;refine aj ?_ (R.var x i aO);intro v;refine ar ?_;intro b7 aD;cases e:getV loc i with
 |none=>rw[e]at h;exact h.elim
 |some pv=>
  rw[e]at h;refine aj ?_ (aD pv e);intro u;refine ar ?_;rintro rfl aC;refine wpAny_Name ?_ hd;rcases b7 with⟨aK,m,az,hm⟩|⟨aK|aK,c,kZ,k4⟩
  ·exact wpAny_loadName_local R.iG aK az hm (n4 S aC h)
  ·exact wpAny_loadName_cell R.iG aK kZ k4 (n4 S aC h)
  ·exact wpAny_loadName_free R.iG aK kZ k4 (n4 S aC h) aG
noncomputable def intP(i:Int):b6:=fun Q Y st=>Q (.int i) st
theorem bz{i:Int}{q:Nat}{p:Pos}:b3 prog w B ak k (.Constant (.int i) q p) (intP i):=
 fun Y Y Y Y Y Y Y Y Y S h=>wpAny_Constant_int (jH S .int h)
noncomputable def noneP:b6:=fun Q Y st=>Q .none st
theorem lR{q:Nat}{p:Pos}:b3 prog w B ak k (.Constant .none q p) noneP:=
 fun Y Y Y Y Y Y Y Y Y S h=>wpAny_Constant_none (n4 S .none h)
noncomputable def boolP(b:Bool):b6:=fun Q Y st=>Q (.bool b) st
theorem k6{b:Bool}{q:Nat}{p:Pos}:b3 prog w B ak k (.Constant (.bool b) q p) (boolP b):=
 fun Y Y Y Y Y Y Y Y Y S h=>wpAny_Constant_bool (n4 S .bool h)
noncomputable def mz(prog:Program)(w:World)(B:Heap)(k:Nat)(op:Operator)(f:∀Y:ah,∀Y:ah,∀Y:(∀Y:ah,∀Y:St,Prop),∀Y:St,Prop):Prop:=
 ∀⦃A:Around⦄⦃s:Shared⦄⦃am:List Addr⦄⦃st:St⦄⦃Q:∀Y:ah,∀Y:St,Prop⦄ ⦃a b:ah⦄ ⦃u v:Value⦄,∀Y:gW A k,∀Y:bh prog w B am s.heap st,∀Y:bc am s.heap a u,∀Y:bc am s.heap b v,∀Y:f a b Q st,
  wpAny (model prog w) A (binaryOp op u v) (dC prog w B am s Q) bo s
noncomputable def biP(f:(∀Y:ah,∀Y:ah,∀Y:(∀Y:ah,∀Y:St,Prop),∀Y:St,Prop)) (br bK:b6):b6:=fun Q loc st=>br (fun a aV=>bK (fun b cX=>f a b Q cX) loc aV) loc st
theorem cY{l r:Expr}{op:Operator}{p:Pos}{br bK:b6}{f}(bq:mz prog w B k op f)(bU:b3 prog w B ak k l br)(cZ:b3 prog w B ak k r bK):
 b3 prog w B ak k (.BinOp l op r p) (biP f br bK):=by
 intro A env s am loc st Q aL R S h;refine wpAny_BinOp (dZ (bU aL R S h) fun u ba bV aV a bj bk cN bF=>?_);refine dZ (cZ aL (R.ext S bj.ext) bk bF) fun v dw fB cX b cC cw fT df=>?_;exact dZ (bq aL cw (cN.j3 bk cC) fT df) fun x eP BD jI c eT fU vF rP=>(cF BD jI c ⟨(bj.trans cC).trans eT,fU,vF,rP⟩)
noncomputable def m9(f:∀Y:Int,∀Y:Int,∀Y:(∀Y:ah,∀Y:St,Prop),∀Y:St,Prop):∀Y:ah,∀Y:ah,∀Y:(∀Y:ah,∀Y:St,Prop),∀Y:St,Prop
 |.int a,.int b,Q,st=>f a b Q st
 |_,_,_,_=>False
theorem NF{f:∀Y:Int,∀Y:Int,∀Y:(∀Y:ah,∀Y:St,Prop),∀Y:St,Prop} {a b:ah} {Q:∀Y:ah,∀Y:St,Prop} {st:St} (h:m9 f a b Q st):∃i j,a=.int i∧b=.int j∧f i j Q st:=by
 cases a with
 |int i=>cases b with
  |int j=>exact cE i j ⟨rfl,rfl,h⟩
  |_=>exact h.elim
 |_=>exact h.elim
theorem qv{op:Operator}{f:∀Y:Int,∀Y:Int,∀Y:(∀Y:ah,∀Y:St,Prop),∀Y:St,Prop}
 (h:∀{A:Around}{s:Shared}{am:List Addr}{st:St}{Q:∀Y:ah,∀Y:St,Prop} {a b:Int} {t u:Tok},∀Y:gW A k,∀Y:bh prog w B am s.heap st,∀Y:f a b Q st,wpAny (model prog w) A (binaryOp op (.int a t) (.int b u)) (dC prog w B am s Q) bo s):
 mz prog w B k op (m9 f):=by
 intro A s am st Q a b u v aL S aJ av q;refine bZ ?_ (NF q);intro i j;refine aY ?_;rintro rfl rfl q;refine aj ?_ aJ.int_inv;rintro t rfl;refine aj ?_ av.int_inv;rintro e8 rfl;exact h aL S q
theorem rQ:mz prog w B k .Sub (m9 fun a b Q st=>Q (.int (a-b)) st):=qv fun Y S q=>PySem.P.sub_int (jH S .int q)
theorem tE:mz prog w B k .Mod (m9 fun a b Q st=>b≠0∧Q (.int (a.fmod b)) st):=qv fun Y S q=>mod_int' q.1 (jH S .int q.2)
theorem BE:mz prog w B k .BitAnd (m9 fun a b Q st=>Q (.int (Builtin.bitAnd a b)) st):=qv fun Y S q=>and_int (jH S .int q)
theorem qw:mz prog w B k .BitXor (m9 fun a b Q st=>Q (.int (Builtin.bitXor a b)) st):=qv fun Y S q=>xor_int (jH S .int q)
theorem vG:mz prog w B k .RShift (m9 fun a b Q st=>0≤b∧Q (.int (a.fdiv (2^b.toNat))) st):=qv fun Y S q=>rshift_int q.1 (jH S .int q.2)
theorem yn:mz prog w B k .LShift (m9 fun a b Q st=>(0≤b∧b≤1000000∧a.natAbs<2^64)∧Q (.int (a*2^b.toNat)) st):=qv fun Y S q=>lshift_int_small q.1.1 q.1.2.1 q.1.2.2 (jH S .int q.2)
theorem BF{s:Shared}{am:List Addr}{st:St}{Q:∀Y:ah,∀Y:St,Prop} {o:Obj} {v:Value} {pv:ah} {tk:Nat} (S:bh prog w B am s.heap st) (aO:bc am (s.heap.push o) pv v) (h:Q pv st):
 dC prog w B am s Q v {s with heap:=s.heap.push o,toks:=tk}:=
 have k:∀b cg,∀Y:s.heap.get? b=some cg,(s.heap.push o).get? b=some cg:=fun Y Y e=>Heap.get?_push_of_some o e
 (cF am st pv ⟨.heap (.of_keeps k),S.keeps k,aO,h⟩)
theorem lS(h:Heap):h.get? h.objs.size=none:=by
 cases e:h.get? h.objs.size with
 |none=>rfl
 |some o=>exact absurd (Heap.lt_size e) (Nat.lt_irrefl _)
theorem BG{h:Heap}(o:Obj):fR h (h.push o):=fun Y Y Y e=>Heap.get?_push_of_some o e
theorem BH{s:Shared}{am:List Addr}{st:St}{Q:∀Y:ah,∀Y:St,Prop} {o:Obj} {po:bB} {tk:Nat} (S:bh prog w B am s.heap st)
 (bx:j1 prog w (am++[s.heap.objs.size]) (s.heap.push o) s.heap.objs.size po) (h:Q (.ref st.length) (st++[po])):
 dC prog w B am s Q (.ref s.heap.objs.size) {s with heap:=s.heap.push o,toks:=tk}:=by
 refine ar ?_ (S.add (h':=s.heap.push o) (fun Y Y e=>Heap.get?_push_of_some o e) (lS _) bx);intro dJ x;exact(cF _ _ (.ref st.length) ⟨.heap x,dJ,.ref (by rw[←S.len];simp),h⟩)
theorem yo{s:Shared}{am:List Addr}{st:St}{Q:∀Y:ah,∀Y:St,Prop} {vs:List Value} {xs:List ah} {tk:Nat} (S:bh prog w B am s.heap st) (aO:bT am s.heap xs vs) (h:Q (.ref st.length) (st++[.list xs])):
 dC prog w B am s Q (.ref s.heap.objs.size) {s with heap:=s.heap.push {cls:=.type "list",data:=.seq vs.toArray},toks:=tk}:=
 BH (po:=.list xs) S ⟨vs,⟨0,Heap.get?_push_size _ rfl⟩,aO.mono (List.prefix_append _ _) (BG _)⟩ h
theorem GN{s:Shared}{am:List Addr}{st:St}{Q:∀Y:ah,∀Y:St,Prop} {vs:List Value} {xs:List ah} {tk:Nat} (S:bh prog w B am s.heap st) (aO:bT am s.heap xs vs) (h:Q (.tup xs) st):
 dC prog w B am s Q (.ref s.heap.objs.size) {s with heap:=s.heap.push {cls:=.type "tuple",data:=.seq vs.toArray},toks:=tk}:=
 BF S (.tup (Heap.get?_push_size _ rfl) (aO.mono (List.prefix_refl _) (BG _))) h
noncomputable def mulQ(a b:Int)(Q:∀Y:ah,∀Y:St,Prop) (st:St):Prop:=(a.natAbs<2^64∧b.natAbs<2^64)∧Q (.int (a*b)) st
noncomputable def yp(a b:Int)(Q:∀Y:ah,∀Y:St,Prop) (st:St):Prop:=(0≤b∧b≤1000∧a.natAbs<2^64)∧Q (.int (a^b.toNat)) st
noncomputable def GO(a b:Int)(Q:∀Y:ah,∀Y:St,Prop) (st:St):Prop:=(b≠0∧b.natAbs<1073741824)∧Q (.int (a.fdiv b)) st
theorem vH{k:Nat}:mz prog w B k .Pow (m9 yp):=qv fun{_ _ _ _ _ a b _ _} Y S q=>
 pow_int q.1.1 (by
  have ae:(Builtin.Int.intBits a:Int)≤64:=by have:=intBits_le (k:=64) q.1.2.2;exact aI (.a .p (.k 64) (.L (.n .p) (.k 64))) rfl this
  have af:(Builtin.Int.intBits a:Int)*b≤64*1000:=Int.mul_le_mul ae q.1.2.1 q.1.1 (by exact ik (.L (.k 0) (.k 64)) rfl);exact gG (.A .p (.m 64 (.k 1000)) (.L .p (.k (2^27)))) rfl af) (jH S .int q.2)
theorem rR{k:Nat}:mz prog w B k .FloorDiv (m9 GO):=qv fun Y S q=>floordiv_int q.1.1 (jH S .int q.2) (.inl (PyProof.noPylong_small q.1.2))
noncomputable def tF:∀Y:ah,∀Y:St,Option bB
 |.ref n,st=>st[n]?
 |_,_=>none
theorem vI{x:ah}{st:St}{o:bB}(h:tF x st=some o):∃n,x=.ref n∧st[n]?=some o:=by
 cases x with
 |ref n=>exact⟨n,rfl,h⟩
 |_=>exact gh h
noncomputable def BI:∀Y:bB,Option (List ah)
 |.list xs=>some xs
 |_=>none
noncomputable def listAt(x:ah)(st:St):Option (List ah):=(tF x st).bind BI
theorem qx{x:ah}{st:St}{xs:List ah}(h:listAt x st=some xs):∃n,x=.ref n∧st[n]?=some (.list xs):=by
 refine aj ?_ (Option.bind_eq_some_iff.mp h);intro o;refine ar ?_;intro e h;refine aj ?_ (vI e);intro n;refine ar ?_;rintro rfl g;cases o with
 |list _=>exact⟨n,rfl,(Option.some.inj h)▸g⟩
 |_=>exact gh h
theorem bh.listAt{am:List Addr}{h:Heap}{st:St}{x:ah}{v:Value}{xs:List ah}(S:bh prog w B am h st)(ai:bc am h x v)(e:listAt x st=some xs):
 ∃n a vs m,x=.ref n∧v=.ref a∧am[n]?=some a∧st[n]?=some (.list xs)∧IsL h a (List.toArray vs) m∧bT am h xs vs:=by
 refine aj ?_ (qx e);intro n;refine ar ?_;rintro rfl g;refine aj ?_ ai.qp;intro a;refine ar ?_;rintro rfl az;refine aj ?_ (S.obj n a _ az g);intro vs;refine ar ?_;refine aj ?_;intro m hm;intro aC;exact(dX n a vs m ⟨rfl,rfl,az,g,hm,aC⟩)
theorem toArr(a b:Array Value):(a.toList++b.toList).toArray=a++b:=by apply Array.ext';simp
noncomputable def addQ:∀Y:ah,∀Y:ah,∀Y:(∀Y:ah,∀Y:St,Prop),∀Y:St,Prop
 |.int a,.int b,Q,st=>Q (.int (a+b)) st
 |.tup xs,.tup ys,Q,st=>xs.length+ys.length≤1000000∧Q (.tup (xs++ys)) st
 |.ref m,.ref n,Q,st=>rL (listAt (.ref m) st) (listAt (.ref n) st) fun xs ys=>xs.length+ys.length≤1000000∧Q (.ref st.length) (st++[.list (xs++ys)])
 |_,_,_,_=>False
section
variable{A:Around}{s:Shared}{am:List Addr}{st:St}{Q:∀Y:ah,∀Y:St,Prop} {u v:Value}
theorem NG{xs ys:List ah}(S:bh prog w B am s.heap st)(aJ:bc am s.heap (.tup xs) u)(av:bc am s.heap (.tup ys) v)(q:xs.length+ys.length≤1000000∧Q (.tup (xs++ys)) st):
 wpAny (model prog w) A (binaryOp .Add u v) (dC prog w B am s Q) bo s:=by
 refine bG ?_ aJ.m8;intro a items n;refine aY ?_;rintro rfl bf hs;refine bG ?_ av.m8;intro b pe iS;refine aY ?_;rintro rfl n5 tG;by_cases aS:items.isEmpty=true
 ·have ku:xs=[]:=List.eq_nil_of_length_eq_zero ((qq hs).symm.trans (Array.size_eq_zero_iff.mpr (Array.isEmpty_iff.mp aS)));rw[ku]at q;exact concat_meets ⟨_,bf,rfl⟩ ⟨_,n5,rfl⟩ noFill_tuple_add seq_tuple_add PySem.F.slot_tuple_add PySem.F.entry_tuple_add (PySem.F.args_tuple_add_2 _ _) (tuple_addW0 _ _ items pe n iS none none #[] #[] aS) ⟨bf,n5,n4 S av q.2⟩
 ·by_cases aW:pe.isEmpty=true
  ·have ku:ys=[]:=List.eq_nil_of_length_eq_zero ((qq tG).symm.trans (Array.size_eq_zero_iff.mpr (Array.isEmpty_iff.mp aW)));rw[ku,List.append_nil]at q;exact concat_meets ⟨_,bf,rfl⟩ ⟨_,n5,rfl⟩ noFill_tuple_add seq_tuple_add PySem.F.slot_tuple_add PySem.F.entry_tuple_add (PySem.F.args_tuple_add_2 _ _) (tuple_addW1 _ _ items pe n iS none none #[] #[] aS aW) ⟨bf,n5,n4 S aJ q.2⟩
  ·exact PySem.P.add_tuple bf n5 aS aW (toArr items pe▸GN S (hs.append tG) q.2) (by rw[qq hs,qq tG];exact Nat.le_trans q.1 (by decide))
theorem NH{m n:Nat}(S:bh prog w B am s.heap st)(aJ:bc am s.heap (.ref m) u)(av:bc am s.heap (.ref n) v)(q:addQ (.ref m) (.ref n) Q st):
 wpAny (model prog w) A (binaryOp .Add u v) (dC prog w B am s Q) bo s:=by
 refine bZ ?_ (tu q);intro xs ys;refine aY ?_;intro aS aW q;refine dF ?_ (S.listAt aJ aS);intro _ _ vs _;refine dH ?_;rintro _ rfl _ _ aD ai;refine dF ?_ (S.listAt av aW);intro _ _ us _;refine dH ?_;rintro _ rfl _ _ k7 au;refine PySem.P.add_list aD k7 ?_ (by rw[List.size_toArray,List.size_toArray,←ai.length,←au.length];exact Nat.le_trans q.1 (by decide));rw[List.append_toArray];exact yo S (ai.append au) q.2
end
theorem pg{k:Nat}:mz prog w B k .Add addQ:=by
 intro A s am st Q a b u v _ S;cases a with
 |int i=>cases b with
  |int j=>
   intro aJ av q;refine aj ?_ aJ.int_inv;rintro t rfl;refine aj ?_ av.int_inv;rintro e8 rfl;exact PySem.P.add_int (jH S .int q)
  |_=>exact fun Y Y q=>q.elim
 |tup xs=>cases b with
  |tup ys=>exact NG S
  |_=>exact fun Y Y q=>q.elim
 |ref m=>cases b with
  |ref n=>exact NH S
  |_=>exact fun Y Y q=>q.elim
 |_=>exact fun Y Y q=>q.elim
end Mine
end
section
namespace Mine
variable{prog:Program}{w:World}{B:Heap}{ak:dB}{k:Nat}
noncomputable def k8(prog:Program)(w:World)(B:Heap)(k:Nat)(op:CmpOp)(f:∀Y:ah,∀Y:ah,∀Y:(∀Y:Bool,∀Y:St,Prop),∀Y:St,Prop):Prop:=
 ∀⦃A:Around⦄⦃s:Shared⦄⦃am:List Addr⦄⦃st:St⦄⦃F:∀Y:Value,∀Y:Shared,Prop⦄ ⦃Q:∀Y:Bool,∀Y:St,Prop⦄ ⦃a b:ah⦄ ⦃u v:Value⦄,∀Y:gW A k,∀Y:bh prog w B am s.heap st,∀Y:bc am s.heap a u,∀Y:bc am s.heap b v,∀Y:f a b Q st,
  ∀Y:(∀c tk,∀Y:Q c st,F (.bool c) {s with toks:=tk}),wpAny (model prog w) A (compareOp op u v) F bo s
noncomputable def cmpP(f:(∀Y:ah,∀Y:ah,∀Y:(∀Y:Bool,∀Y:St,Prop),∀Y:St,Prop)) (br bK:b6):b6:=fun Q loc st=>br (fun a aV=>bK (fun b cX=>f a b (fun c jI=>Q (.bool c) jI) cX) loc aV) loc st
theorem vJ{l r:Expr}{op:CmpOp}{p:Pos}{br bK:b6}{f}(bq:k8 prog w B k op f)(bU:b3 prog w B ak k l br)(cZ:b3 prog w B ak k r bK)(hm:autoParam (behindInMarks op r=false) Gy._auto_1):
 b3 prog w B ak k (.Compare l [op] [r] p) (cmpP f br bK):=by
 intro A env s am loc st Q aL R S h;refine wpAny_Compare1 (dZ (bU aL R S h) fun u ba bV aV a bj bk cN bF=>?_) hm;refine dZ (cZ aL (R.ext S bj.ext) bk bF) fun v dw fB cX b cC cw fT df=>?_;exact bq aL cw (cN.j3 bk cC) fT df fun c tk q=>(cF fB cX (.bool c) ⟨(bj.trans cC).trans .tok,cw,.bool,q⟩)
noncomputable def tcmpP(f:(∀Y:ah,∀Y:ah,∀Y:(∀Y:Bool,∀Y:St,Prop),∀Y:St,Prop)) (br bK:b6):e9:=fun Q loc st=>br (fun a aV=>bK (fun b cX=>f a b Q cX) loc aV) loc st
theorem c6{l r:Expr}{op:CmpOp}{p:Pos}{br bK:b6}{f}(bq:k8 prog w B k op f)(bU:b3 prog w B ak k l br)(cZ:b3 prog w B ak k r bK)(hm:autoParam (behindInMarks op r=false) Gy._auto_1):
 jG prog w B ak k (.Compare l [op] [r] p) (tcmpP f br bK):=by
 intro A env s am loc st Q aL R S h;refine wpAny_isTrue_Compare1 (dZ (bU aL R S h) fun u ba bV aV a bj bk cN bF=>?_) hm;refine dZ (cZ aL (R.ext S bj.ext) bk bF) fun v dw fB cX b cC cw fT df=>?_;exact bq aL cw (cN.j3 bk cC) fT df fun c tk q=>wpAny_truthy_bool (cE fB cX ⟨(bj.trans cC).trans .tok,cw,q⟩)
noncomputable def ph(f:∀Y:Int,∀Y:Int,Bool):∀Y:ah,∀Y:ah,∀Y:(∀Y:Bool,∀Y:St,Prop),∀Y:St,Prop
 |.int a,.int b,Q,st=>Q (f a b) st
 |_,_,_,_=>False
theorem NI{f:∀Y:Int,∀Y:Int,Bool} {a b:ah} {Q:∀Y:Bool,∀Y:St,Prop} {st:St} (h:ph f a b Q st):∃i j,a=.int i∧b=.int j∧Q (f i j) st:=by
 cases a with
 |int i=>cases b with
  |int j=>exact cE i j ⟨rfl,rfl,h⟩
  |_=>exact h.elim
 |_=>exact h.elim
theorem yq{op:CmpOp}{f:∀Y:Int,∀Y:Int,Bool}
 (h:∀{A:Around}{s:Shared}{F:∀Y:Value,∀Y:Shared,Prop} {a b:Int} {t u:Tok},∀Y:F (.bool (f a b)) s,wpAny (model prog w) A (compareOp op (.int a t) (.int b u)) F bo s):k8 prog w B k op (ph f):=by
 intro A s am st F Q a b u v _ S aJ av q bD;refine bZ ?_ (NI q);intro i j;refine aY ?_;rintro rfl rfl q;refine aj ?_ aJ.int_inv;rintro t rfl;refine aj ?_ av.int_inv;rintro e8 rfl;exact h (bD _ s.toks q)
theorem qy:k8 prog w B k .Lt (ph fun a b=>decide (a<b)):=yq fun h=>PySem.P.lt_int h
theorem NJ:k8 prog w B k .LtE (ph fun a b=>decide (a≤b)):=yq fun h=>PySem.P.le_int h
theorem cmp_gt:k8 prog w B k .Gt (ph fun a b=>decide (a>b)):=yq fun h=>PySem.P.gt_int h
theorem NK:k8 prog w B k .GtE (ph fun a b=>decide (a≥b)):=yq fun h=>PySem.P.ge_int h
noncomputable def n6{α β:Type}(f:∀Y:α,Option β):∀Y:List α,Option (List β)
 |[]=>some []
 |x::r=>(f x).bind fun y=>(n6 f r).map (y::·)
theorem GP{α β:Type}{f:∀Y:α,Option β} {x:α} {r:List α} {y:β} {ys:List β} (h:f x=some y) (aC:n6 f r=some ys):n6 f (x::r)=some (y::ys):=by
 show(f x).bind (fun y=>(n6 f r).map (y::·))=_;rw[h,aC];rfl
noncomputable def n7:∀Y:Nat,∀Y:ah,Option PyData
 |_,.none=>some .none
 |_,.bool b=>some (.bool b)
 |_,.int i=>some (.int i)
 |n+1,.tup xs=>(n6 (n7 n) xs).map .tuple
 |_,_=>none
noncomputable def tH(x:ah)(st:St):Option PyData:=match x with
 |.ref n=>(listAt (.ref n) st).bind fun xs=>(n6 (n7 2) xs).map .list
 |x=>n7 3 x
theorem GQ{am:List Addr}{h:Heap}{n:Nat}(az:∀{x v d},∀Y:bc am h x v,∀Y:n7 n x=some d,∃as,Reads h v d as∧d.canLay0=true∧d.depth≤n+1)
 {xs vs} (r:bT am h xs vs):∀{ds},∀Y:n6 (n7 n) xs=some ds,∃as,ReadsAll h vs ds as∧PyData.canLayAll0 ds=true∧PyData.depthAll ds≤n+1:=by
 have p:=r.pr;clear r
 induction p with
 |nil=>intro ds e;cases e;exact⟨_,.nil,rfl,Nat.zero_le _⟩
 |cons a _ ih=>
  intro ds e;refine aj ?_ (Option.bind_eq_some_iff.mp e);intro y;refine ar ?_;intro ae e;refine aj ?_ (Option.map_eq_some_iff.mp e);intro ys;refine ar ?_;rintro af rfl;refine aj ?_ (az a ae);intro as;refine aY ?_;intro j2 cO jJ;refine aj ?_ (ih af);intro bs;refine aY ?_;intro e7 cQ gK;exact⟨_,.cons j2 e7,by rw[PyData.canLayAll0,cO,cQ];rfl,Nat.max_le.mpr ⟨jJ,gK⟩⟩
theorem GR{am:List Addr}{h:Heap}{n:Nat}:∀{x:ah}{v:Value}{d:PyData},∀Y:bc am h x v,∀Y:n7 n x=some d,∃as,Reads h v d as∧d.canLay0=true∧d.depth≤n+1:=by
 induction n with
 |zero=>
  intro x v d ai e;cases x with
  |none=>cases e;exact ai.none_inv▸⟨_,.none,rfl,Nat.zero_le _⟩
  |bool b=>cases e;exact ai.bool_inv▸⟨_,.bool _,rfl,Nat.zero_le _⟩
  |int i=>cases e;refine aj ?_ ai.int_inv;rintro t rfl;exact⟨_,.int _ _,rfl,Nat.zero_le _⟩
  |_=>exact gh e
 |succ n ih=>
  intro x v d ai e;cases x with
  |none=>cases e;exact ai.none_inv▸⟨_,.none,rfl,Nat.zero_le _⟩
  |bool b=>cases e;exact ai.bool_inv▸⟨_,.bool _,rfl,Nat.zero_le _⟩
  |int i=>cases e;refine aj ?_ ai.int_inv;rintro t rfl;exact⟨_,.int _ _,rfl,Nat.zero_le _⟩
  |tup xs=>
   refine aj ?_ (Option.map_eq_some_iff.mp e);intro ds;refine ar ?_;rintro aS rfl;refine bG ?_ ai.m8;intro a items m;refine aY ?_;rintro rfl bf hs;refine aj ?_ (GQ ih hs aS);intro as;refine aY ?_;intro r l d;exact⟨_,.tuple bf rfl rfl r,l,Nat.succ_le_succ d⟩
  |_=>exact gh e
theorem yr{am:List Addr}{h:Heap}{st:St}(S:bh prog w B am h st){x:ah}{v:Value}{d:PyData}(ai:bc am h x v)(e:tH x st=some d):∃as,Reads h v d as∧d.canLay0=true∧d.depth≤4:=by
 cases x with
 |ref n=>
  refine aj ?_ (Option.bind_eq_some_iff.mp e);intro xs;refine ar ?_;intro aS e;refine aj ?_ (Option.map_eq_some_iff.mp e);intro ds;refine ar ?_;rintro aW rfl;refine dF ?_ (S.listAt ai aS);intro _ a vs m;refine dH ?_;rintro _ rfl _ _ aD aC;refine aj ?_ (GQ GR aC aW);intro as;refine aY ?_;intro r l rS;exact⟨_,.list aD rfl rfl r,l,Nat.succ_le_succ rS⟩
 |_=>exact GR ai e
noncomputable def nc(neg:Bool)(a b:ah)(Q:Bool→St→Prop)(st:St):Prop:=match a,b with
 |.int i,.int j=>Q (xor neg (i==j)) st
 |a,b=>rL (tH a st) (tH b st) fun x y=>Q (xor neg (PyData.eqv x y)) st
theorem GS{neg:Bool}{a b:ah}{Q:∀Y:Bool,∀Y:St,Prop} {st:St} (h:nc neg a b Q st):(∃i j,a=.int i∧b=.int j∧Q (xor neg (i==j)) st)∨∃x y,tH a st=some x∧tH b st=some y∧Q (xor neg (PyData.eqv x y)) st:=by
 cases a with
 |int i=>cases b with
  |int j=>exact .inl (cE _ _ ⟨rfl,rfl,h⟩)
  |_=>exact .inr (tu h)
 |_=>exact .inr (tu h)
theorem jK:k8 prog w B k .Eq (nc false):=by
 intro A s am st F Q a b u v aL S aJ av q bD;rcases GS q with⟨i,j,rfl,rfl,z⟩|⟨x,y,ae,af,z⟩
 ·refine aj ?_ aJ.int_inv;rintro t rfl;refine aj ?_ av.int_inv;rintro e8 rfl;rw[Bool.false_xor]at z;exact PySem.P.eq_int (bD _ s.toks z)
 ·refine aj ?_ (yr S aJ ae);intro as;refine aY ?_;intro j2 cO jJ;refine aj ?_ (yr S av af);intro bs;refine aY ?_;intro e7 cQ gK;rw[Bool.false_xor]at z;exact PySem.SeqAt.compareEq_reads j2 e7 cO cQ (by have:=aL.2.2;exact cB (.i 25 (.l .s (.k 4)) (.b (.a (.a .p (.m 20 .t)) (.k 100)) .r (.i 25 (.l .q .s) (.t (.a .p .q) .r)))) rfl jJ this (Nat.min_le_left _ _)) (bD _ s.toks z)
theorem nf:k8 prog w B k .NotEq (nc true):=by
 intro A s am st F Q a b u v aL S aJ av q bD;rcases GS q with⟨i,j,rfl,rfl,z⟩|⟨x,y,ae,af,z⟩
 ·refine aj ?_ aJ.int_inv;rintro t rfl;refine aj ?_ av.int_inv;rintro e8 rfl;rw[Bool.true_xor]at z;exact PySem.P.ne_int (bD _ s.toks z)
 ·refine aj ?_ (yr S aJ ae);intro as;refine aY ?_;intro j2 cO jJ;refine aj ?_ (yr S av af);intro bs;refine aY ?_;intro e7 cQ gK;rw[Bool.true_xor]at z;exact PySem.SeqAt.compareNe_reads j2 e7 cO cQ (by have:=aL.2.2;exact cB (.i 25 (.l .s (.k 4)) (.b (.a (.a .p (.m 20 .t)) (.k 100)) .r (.i 25 (.l .q .s) (.t (.a .p .q) .r)))) rfl jJ this (Nat.min_le_left _ _)) (bD _ s.toks z)
noncomputable def yt:∀Y:ah,Bool
 |.none=>true
 |_=>false
noncomputable def pj(neg:Bool):∀Y:ah,∀Y:ah,∀Y:(∀Y:Bool,∀Y:St,Prop),∀Y:St,Prop
 |a,.none,Q,st=>Q (xor neg (yt a)) st
 |_,_,_,_=>False
theorem bc.GU{am:List Addr}{h:Heap}{x:ah}{v:Value}(ai:bc am h x v):(v==Value.none)=yt x:=by
 cases ai<;>rfl
theorem GV{neg:Bool}{a b:ah}{Q:∀Y:Bool,∀Y:St,Prop} {st:St} (h:pj neg a b Q st):b=.none∧Q (xor neg (yt a)) st:=by
 cases b with
 |none=>exact⟨rfl,h⟩
 |_=>exact h.elim
theorem vK:k8 prog w B k .Is (pj false):=by
 intro A s am st F Q a b u v aL S aJ av q bD;refine ar ?_ (GV q);rintro rfl z;rw[av.none_inv];refine is_none ?_;rw[aJ.GU,←Bool.false_xor (yt a)];exact bD _ s.toks z
theorem BJ:k8 prog w B k .IsNot (pj true):=by
 intro A s am st F Q a b u v aL S aJ av q bD;refine ar ?_ (GV q);rintro rfl z;rw[av.none_inv];refine isNot_none ?_;rw[aJ.GU,←Bool.true_xor];exact bD _ s.toks z
end Mine
end
section
namespace Mine
variable{prog:Program}{w:World}{B:Heap}{ak:dB}{k:Nat}
noncomputable def trueT:e9:=fun Q Y st=>Q true st
theorem vL{p:Pos}:jG prog w B ak k (.BoolOp .And [] p) trueT:=by
 intro A env s am loc st Q aL R S h;exact wpAny_isTrue_BoolOp (wpAny_allTrue_And_nil (cE am st ⟨.refl,S,h⟩))
noncomputable def falseT:e9:=fun Q Y st=>Q false st
theorem pn{p:Pos}:jG prog w B ak k (.BoolOp .Or [] p) falseT:=by
 intro A env s am loc st Q aL R S h;exact wpAny_isTrue_BoolOp (wpAny_allTrue_Or_nil (cE am st ⟨.refl,S,h⟩))
noncomputable def andT(br bK:e9):e9:=fun Q loc st=>br (fun b aV=>if b=true then bK Q loc aV else Q false aV) loc st
theorem mC{x:Expr}{r:List Expr}{p:Pos}{br bK:e9}(bU:jG prog w B ak k x br)(cZ:jG prog w B ak k (.BoolOp .And r p) bK):
 jG prog w B ak k (.BoolOp .And (x::r) p) (andT br bK):=by
 intro A env s am loc st Q aL R S h;refine wpAny_isTrue_BoolOp (wpAny_allTrue_And_cons (rO (bU aL R S h) fun b ba bV aV bj bk bF=>?_));cases b with
 |false=>exact(cE bV aV ⟨bj,bk,bF⟩)
 |true=>
  have:=cZ aL (R.ext S bj.ext) bk bF;exact wpAny_mono (show wpAny (model prog w) A (allTrue .And r env) _ bo ba from this) (fun Y Y z=>qs.over bj z) fun Y Y z=>z
noncomputable def orT(br bK:e9):e9:=fun Q loc st=>br (fun b aV=>if b=true then Q true aV else bK Q loc aV) loc st
theorem gX{x:Expr}{r:List Expr}{p:Pos}{br bK:e9}(bU:jG prog w B ak k x br)(cZ:jG prog w B ak k (.BoolOp .Or r p) bK):
 jG prog w B ak k (.BoolOp .Or (x::r) p) (orT br bK):=by
 intro A env s am loc st Q aL R S h;refine wpAny_isTrue_BoolOp (wpAny_allTrue_Or_cons (rO (bU aL R S h) fun b ba bV aV bj bk bF=>?_));cases b with
 |true=>exact(cE bV aV ⟨bj,bk,bF⟩)
 |false=>
  have:=cZ aL (R.ext S bj.ext) bk bF;exact wpAny_mono (show wpAny (model prog w) A (allTrue .Or r env) _ bo ba from this) (fun Y Y z=>qs.over bj z) fun Y Y z=>z
theorem NL{x:Str}{p:Pos}{P:b6}(bU:b3 prog w B ak k (.Name x p) P):jG prog w B ak k (.Name x p) fun Q loc st=>P (fun v aV=>match v with|.bool b=>Q b aV|_=>False) loc st:=by
 intro A env s am loc st Q aL R S h;refine wpAny_isTrue_value (dZ (bU aL R S h) fun v ba bV aV pv bj bk cN bF=>?_);cases pv with
 |bool b=>exact cN.bool_inv▸wpAny_truthy_bool (cE bV aV ⟨bj,bk,bF⟩)
 |_=>exact bF.elim
theorem NM{t a b:Expr}{p:Pos}{P:e9}{br bK:b6}(h:jG prog w B ak k t P)(bU:b3 prog w B ak k a br)(cZ:b3 prog w B ak k b bK):
 b3 prog w B ak k (.IfExp t a b p) fun Q loc st=>P (fun c aV=>if c=true then br Q loc aV else bK Q loc aV) loc st:=by
 intro A env s am loc st Q aL R S q;refine wpAny_IfExp (rO (h aL R S q) fun c ba bV aV bj bk bF=>?_);cases c with
 |true=>exact wpAny_mono (bU aL (R.ext S bj.ext) bk bF) (fun Y Y z=>dC.over bj z) fun Y Y z=>z
 |false=>exact wpAny_mono (cZ aL (R.ext S bj.ext) bk bF) (fun Y Y z=>dC.over bj z) fun Y Y z=>z
noncomputable def GW:∀Y:ah,∀Y:(∀Y:ah,∀Y:St,Prop),∀Y:St,Prop
 |.int a,Q,st=>Q (.int (-a)) st
 |_,_,_=>False
noncomputable def negP(P:b6):b6:=fun Q loc st=>P (fun v aV=>GW v Q aV) loc st
theorem vM{a:Expr}{p:Pos}{P:b6}(h:b3 prog w B ak k a P):b3 prog w B ak k (.UnaryOp .USub a p) (negP P):=by
 intro A env s am loc st Q aL R S q;refine wpAny_UnaryOp (dZ (h aL R S q) fun v ba bV aV pv bj bk cN bF=>?_);cases pv with
 |int a=>
  refine aj ?_ cN.int_inv;rintro t rfl;exact PySem.P.neg_int (cF bV aV _ ⟨bj.trans .tok,bk,.int,bF⟩)
 |_=>exact bF.elim
noncomputable def nilEs:lQ:=fun Q Y st=>Q [] st
theorem bg:qu prog w B ak k [] nilEs:=by
 intro A env s am loc st Q pos aL R S h;exact Calls.spliced_nil (cF am st [] ⟨.refl,S,.nil,h⟩)
noncomputable def consEs(br:b6)(bK:lQ):lQ:=fun Q loc st=>br (fun v aV=>bK (fun vs cX=>Q (v::vs) cX) loc aV) loc st
theorem aR{e:Expr}{r:List Expr}{br:b6}{bK:lQ}(bU:b3 prog w B ak k e br)(cZ:qu prog w B ak k r bK)
 (he:autoParam (∀env,starEach (e::r) env=(false,eval e env)::starEach r env) my._auto_1):
 qu prog w B ak k (e::r) (consEs br bK):=by
 intro A env s am loc st Q pos aL R S h;rw[he];refine Calls.spliced_cons (x:=eval e env) (dZ (bU aL R S h) fun v ba bV aV pv bj bk cN bF=>?_);exact tD (cZ aL (R.ext S bj.ext) bk bF) fun vs dw fB cX qt cC cw fT df=>(cF fB cX _ ⟨bj.trans cC,cw,.cons (cN.j3 bk cC) fT,df⟩)
noncomputable def tupP(P:lQ):b6:=fun Q loc st=>P (fun vs aV=>vs.length≤1000∧Q (.tup vs) aV) loc st
theorem lT{a9:List Expr}{x:Nat}{p:Pos}{P:lQ}(h:qu prog w B ak k a9 P):b3 prog w B ak k (.Tuple a9 x p) (tupP P):=by
 intro A env s am loc st Q aL R S q;refine wpAny_Tuple_spliced (tD (h aL R S q) fun vs ba bV aV qt bj bk cN bF=>⟨by rw[←cN.length];exact Nat.le_trans bF.1 (by decide),?_⟩);exact(GN (tk:=ba.toks) bk cN bF.2).over bj
noncomputable def listP(P:lQ):b6:=fun Q loc st=>P (fun vs aV=>vs.length≤1000∧Q (.ref aV.length) (aV++[.list vs])) loc st
theorem jc{a9:List Expr}{p:Pos}{P:lQ}(h:qu prog w B ak k a9 P):b3 prog w B ak k (.List a9 p) (listP P):=by
 intro A env s am loc st Q aL R S q;refine wpAny_List_spliced (tD (h aL R S q) fun vs ba bV aV qt bj bk cN bF=>⟨by rw[←cN.length];exact Nat.le_trans bF.1 (by decide),?_⟩);exact(yo (tk:=ba.toks) bk cN bF.2).over bj
theorem NN{p:Pos}:b3 prog w B ak k (.Dict [] [] p) fun Q Y st=>Q (.ref st.length) (st++[.ed []]):=by
 intro A env s am loc st Q aL R S q;exact wpAny_Dict_empty (BH (tk:=s.toks) (po:=.ed []) S ⟨[],Heap.DictOf.new _,.nil⟩ q)
noncomputable def BK:∀Y:ah,Option Int
 |.int i=>some i
 |_=>none
noncomputable def GX:∀Y:ah,Option Bool
 |.bool i=>some i
 |_=>none
theorem GY{x:ah}{i:Int}(h:BK x=some i):x=.int i:=by
 cases x with
 |int j=>exact congrArg ah.int (Option.some.inj h)
 |_=>exact gh h
theorem NO{x:ah}{i:Bool}(h:GX x=some i):x=.bool i:=by
 cases x with
 |bool j=>exact congrArg ah.bool (Option.some.inj h)
 |_=>exact gh h
noncomputable def rT(i:Int):∀Y:List ah,Option Bool
 |[]=>some false
 |x::r=>(BK x).bind fun j=>(rT i r).map ((j==i)||·)
noncomputable def hasB(i:Bool):∀Y:List ah,Option Bool
 |[]=>some false
 |x::r=>(GX x).bind fun j=>(hasB i r).map ((j==i)||·)
noncomputable def GZ(k:Bool):∀Y:Value,Bool
 |.bool b=>b==k
 |_=>false
theorem G0{am:List Addr}{h:Heap}{i:Int}(t:Tok){xs vs}(r:bT am h xs vs):∀{b},∀Y:rT i xs=some b,vs.any (isInt i)=b∧∀y∈vs,MeetsSeq.EqGives y (.int i t) (isInt i y):=by
 have p:=r.pr;clear r
 induction p with
 |nil=>intro b e;exact⟨Option.some.inj e,fun Y h=>(List.not_mem_nil h).elim⟩
 |cons a _ ih=>
  intro b e;refine aj ?_ (Option.bind_eq_some_iff.mp e);intro j;refine ar ?_;intro aS e;refine aj ?_ (Option.map_eq_some_iff.mp e);intro c;refine ar ?_;rintro cA rfl;rw[GY aS]at a;refine aj ?_ a.int_inv;rintro u rfl;exact⟨congrArg ((j==i)||·) (ih cA).1,List.forall_mem_cons.mpr ⟨MeetsSeq.EqGives.int j i u t,(ih cA).2⟩⟩
theorem NP{am:List Addr}{h:Heap}{i:Bool}{xs vs}(r:bT am h xs vs):∀{b},∀Y:hasB i xs=some b,vs.any (GZ i)=b∧∀y∈vs,MeetsSeq.EqGives y (.bool i) (GZ i y):=by
 have p:=r.pr;clear r
 induction p with
 |nil=>intro b e;exact⟨Option.some.inj e,fun Y h=>(List.not_mem_nil h).elim⟩
 |cons a _ ih=>
  intro b e;refine aj ?_ (Option.bind_eq_some_iff.mp e);intro j;refine ar ?_;intro aS e;refine aj ?_ (Option.map_eq_some_iff.mp e);intro c;refine ar ?_;rintro cA rfl;rw[NO aS]at a;rw[a.bool_inv];exact⟨congrArg ((j==i)||·) (ih cA).1,List.forall_mem_cons.mpr ⟨fun prog w A E s Q bb=>PySem.SeqAt.EqAt.bool_bool j i prog w E Q bb,(ih cA).2⟩⟩
noncomputable def G1:∀Y:bB,Option (List (Int×ah))
 |.ed xs=>some xs
 |_=>none
noncomputable def dictAt(x:ah)(st:St):Option (List (Int×ah)):=(tF x st).bind G1
theorem yu{x:ah}{st:St}{kvs:List (Int×ah)}(h:dictAt x st=some kvs):∃n,x=.ref n∧st[n]?=some (.ed kvs):=by
 refine aj ?_ (Option.bind_eq_some_iff.mp h);intro o;refine ar ?_;intro e h;refine aj ?_ (vI e);intro n;refine ar ?_;rintro rfl g;cases o with
 |ed _=>exact⟨n,rfl,(Option.some.inj h)▸g⟩
 |_=>exact gh h
noncomputable def fa(i:Int):∀Y:List (Int×ah),Option ah
 |[]=>none
 |(j,v)::r=>if j=i then some v else fa i r
theorem bh.dictAt{am:List Addr}{h:Heap}{st:St}{x:ah}{v:Value}{kvs:List (Int×ah)}(S:bh prog w B am h st)(ai:bc am h x v)(e:dictAt x st=some kvs):
 ∃n a aB,x=.ref n∧v=.ref a∧am[n]?=some a∧st[n]?=some (.ed kvs)∧h.DictOf (intKind prog w) a aB∧Paired (fun(x:Int×ah)(y:Int×Value)=>x.1=y.1∧bc am h x.2 y.2) kvs aB:=by
 refine aj ?_ (yu e);intro n;refine ar ?_;rintro rfl g;refine aj ?_ ai.qp;intro a;refine ar ?_;rintro rfl az;refine aj ?_ (S.obj n a _ az g);intro aB;refine ar ?_;intro hd aC;exact(cF n a aB ⟨rfl,rfl,az,g,hd,aC⟩)
theorem G2{am:List Addr}{h:Heap}(i:Int){kvs:List (Int×ah)}{aB:List (Int×Value)}(p:Paired (fun(x:Int×ah)(y:Int×Value)=>x.1=y.1∧bc am h x.2 y.2) kvs aB):
 (fa i kvs=none∧valueAt aB i=none)∨∃x v,fa i kvs=some x∧valueAt aB i=some v∧bc am h x v:=by
 induction p with
 |nil=>exact .inl ⟨rfl,rfl⟩
 |@cons a b r c5 q _ ih=>
  by_cases aP:a.1=i
  ·exact .inr (cE a.2 b.2 ⟨if_pos aP,by simp[valueAt,←q.1,aP],q.2⟩)
  ·have aS:fa i (a::r)=fa i r:=if_neg aP;have aW:valueAt (b::c5) i=valueAt c5 i:=by simp[valueAt,←q.1,aP]
   rw[aS,aW];exact ih
noncomputable def pq(neg:Bool)(x c:ah)(Q:Bool→St→Prop)(st:St):Prop:=match x,c with
 |.int i,.tup xs=>fY (rT i xs) fun b=>Q (xor neg b) st
 |.int i,.ref n=>(dictAt (.ref n) st).elim (fY ((listAt (.ref n) st).bind (rT i)) fun b=>Q (xor neg b) st) fun kvs=>Q (xor neg (fa i kvs).isSome) st
 |.bool i,.ref n=>fY ((listAt (.ref n) st).bind (hasB i)) fun b=>Q (xor neg b) st
 |_,_=>False
theorem yv{neg:Bool}{i:Int}{n:Nat}{Q:∀Y:Bool,∀Y:St,Prop} {st:St}:pq neg (.int i) (.ref n) Q st=(dictAt (.ref n) st).elim (fY ((listAt (.ref n) st).bind (rT i)) fun b=>Q (xor neg b) st) fun kvs=>Q (xor neg (fa i kvs).isSome) st:=rfl
theorem yw{i:Int}{t:Tok}:(intKind prog w).is i (.int i t)=true:=by simp[intKind,Value.isInt]
theorem yx{am:List Addr}{h:Heap}{st:St}(S:bh prog w B am h st)(hs:∃o,B.get? sysModules=some o) {a:Addr} (aJ:a∈am):(a==sysModules)=false:=by
 refine beq_eq_false_iff_ne.mpr fun e=>?_;refine aj ?_ hs;clear hs;intro o bx;have:=S.off a aJ;rw[e,bx]at this;cases this
section
variable{A:Around}{s:Shared}{F:∀Y:Value,∀Y:Shared,Prop} {neg:Bool}
theorem G3{u:Value}{a:Addr}{vs:List Value}{m:Nat}{b:Bool}(p:∀Y:Value,Bool) (h:vs.any p=b∧∀y∈vs,MeetsSeq.EqGives y u (p y)) (aD:IsL s.heap a (List.toArray vs) m) (bD:F (.bool (xor neg b)) s):
 wpAny (model prog w) A (compareOp (if neg then .NotIn else .In) u (.ref a)) F bo s:=by
 rw[←h.1]at bD;cases neg with
 |false=>rw[Bool.false_xor]at bD;exact SeqRoads2.in_list p (fun y au=>h.2 y (List.mem_toArray.mp au)) aD (by rw[←Array.any_toList];exact bD)
 |true=>rw[Bool.true_xor]at bD;exact SeqRoads2.notIn_list p (fun y au=>h.2 y (List.mem_toArray.mp au)) aD (by rw[←Array.any_toList];exact bD)
theorem NQ{u:Value}{a:Addr}{vs:Array Value}{m:Nat}{b:Bool}(p:∀Y:Value,Bool) (h:vs.toList.any p=b∧∀y∈vs.toList,MeetsSeq.EqGives y u (p y)) (aD:IsT s.heap a vs m) (bD:F (.bool (xor neg b)) s):
 wpAny (model prog w) A (compareOp (if neg then .NotIn else .In) u (.ref a)) F bo s:=by
 rw[←h.1]at bD;cases neg with
 |false=>rw[Bool.false_xor]at bD;exact SeqRoads2.in_tuple p (fun y au=>h.2 y (Array.mem_toList_iff.mpr au)) aD (by rw[←Array.any_toList];exact bD)
 |true=>rw[Bool.true_xor]at bD;exact SeqRoads2.notIn_tuple p (fun y au=>h.2 y (Array.mem_toList_iff.mpr au)) aD (by rw[←Array.any_toList];exact bD)
theorem NR{am:List Addr}{st:St}{v:Value}{x:ah}{kvs:List (Int×ah)}{i:Int}{t:Tok}(hs:∃o,B.get? sysModules=some o) (S:bh prog w B am s.heap st) (av:bc am s.heap x v) (e:dictAt x st=some kvs)
 (bD:∀tk,F (.bool (xor neg (fa i kvs).isSome)) {s with toks:=tk}):wpAny (model prog w) A (compareOp (if neg then .NotIn else .In) (.int i t) v) F bo s:=by
 refine bG ?_ (S.dictAt av e);intro n a aB;refine dH ?_;rintro _ rfl hm _ hd aQ
 have aW:(fa i kvs).isSome=(valueAt aB i).isSome:=by
  rcases G2 i aQ with⟨ae,af⟩|⟨x,v,ae,af,_⟩<;>rw[ae,af]<;>rfl
 rw[aW]at bD;cases neg with
 |false=>rw[Bool.false_xor]at bD;exact wpAny_in_of yw (yx S hs (List.mem_of_getElem? hm)) hd.mapOf (bD _)
 |true=>rw[Bool.true_xor]at bD;exact wpAny_notIn_of yw (yx S hs (List.mem_of_getElem? hm)) hd.mapOf (bD _)
end
theorem G4{neg:Bool}(hs:∃o,B.get? sysModules=some o):k8 prog w B k (if neg then .NotIn else .In) (pq neg):=by
 intro A s am st F Q a b u v aL S;cases a with
 |int i=>
  cases b with
  |tup xs=>
   intro aJ av q bD;refine aj ?_ (gH q);intro b;refine ar ?_;intro e q;refine aj ?_ aJ.int_inv;rintro t rfl;refine bG ?_ av.m8;intro a items n;refine aY ?_;rintro rfl bf aC;exact NQ _ (G0 t aC e) bf (bD _ s.toks q)
  |ref n=>
   intro aJ av q bD;refine aj ?_ aJ.int_inv;rintro t rfl;cases e:Mine.dictAt (.ref n) st with
   |some kvs=>exact NR hs S av e fun tk=>bD _ tk (by rw[yv,e]at q;exact q)
   |none=>
    rw[yv,e]at q;refine aj ?_ (gH q);intro b;refine ar ?_;intro e q;refine aj ?_ (Option.bind_eq_some_iff.mp e);intro xs;refine ar ?_;intro aS e;refine dF ?_ (S.listAt av aS);intro _ a vs m;refine dH ?_;rintro _ rfl _ _ aD aC;exact G3 _ (G0 t aC e) aD (bD _ s.toks q)
  |_=>exact fun Y Y q=>q.elim
 |bool i=>
  cases b with
  |ref n=>
   intro aJ av q bD;refine aj ?_ (gH q);intro b;refine ar ?_;intro e q;refine aj ?_ (Option.bind_eq_some_iff.mp e);intro xs;refine ar ?_;intro aS e;refine dF ?_ (S.listAt av aS);intro _ a vs m;refine dH ?_;rintro _ rfl _ _ aD aC;rw[aJ.bool_inv];exact G3 _ (NP aC e) aD (bD _ s.toks q)
  |_=>exact fun Y Y q=>q.elim
 |_=>exact fun Y Y q=>q.elim
theorem vN(hs:∃o,B.get? sysModules=some o):k8 prog w B k .In (pq false):=G4 (neg:=false) hs
theorem tK(hs:∃o,B.get? sysModules=some o):k8 prog w B k .NotIn (pq true):=G4 (neg:=true) hs
end Mine
end
section
namespace Mine
variable{prog:Program}{w:World}{B:Heap}{ak:dB}{k:Nat}
noncomputable def pick(xs:List ah)(i:Int):Option ah:=if 0≤i then xs[i.toNat]? else if-(xs.length:Int)≤i then xs[(i+xs.length).toNat]? else none
noncomputable def qz(x:Option ah)(Q:∀Y:ah,∀Y:St,Prop) (st:St):Prop:=fY x fun v=>Q v st
noncomputable def ng(c x:ah)(Q:ah→St→Prop)(st:St):Prop:=match c,x with
 |.tup xs,.int i=>xs.length<1000000∧qz (pick xs i) Q st
 |.ref n,.int i=>(dictAt (.ref n) st).elim (fY (listAt (.ref n) st) fun xs=>xs.length<1000000000∧qz (pick xs i) Q st) fun kvs=>qz (fa i kvs) Q st
 |_,_=>False
theorem BL{n:Nat}{i:Int}{Q:∀Y:ah,∀Y:St,Prop} {st:St}:ng (.ref n) (.int i) Q st=(dictAt (.ref n) st).elim (fY (listAt (.ref n) st) fun xs=>xs.length<1000000000∧qz (pick xs i) Q st) fun kvs=>qz (fa i kvs) Q st:=rfl
theorem G5{xs:List ah}{i:Int}{x:ah}(e:pick xs i=some x):∃j:Nat,xs[j]?=some x∧j<xs.length∧(i=j∨i=(j:Int)-xs.length):=by
 unfold pick at e;by_cases h:0≤i
 ·rw[if_pos h]at e;exact⟨_,e,(List.getElem?_eq_some_iff.mp e).1,.inl (Int.toNat_of_nonneg h).symm⟩
 ·rw[if_neg h]at e;by_cases ae:-(xs.length:Int)≤i
  ·rw[if_pos ae]at e;exact⟨_,e,(List.getElem?_eq_some_iff.mp e).1,.inr (by rw[Int.toNat_of_nonneg (by exact MK ae)];exact Int.le_antisymm (ck (.L .p (.s (.a .p (.n .p)) (.n .p))) rfl [_] [_]) (ck (.L (.s (.a .p (.n .p)) (.n .p)) .p) rfl [_] [_]))⟩
  ·rw[if_neg ae]at e;exact gh e
theorem NS{xs:List ah}{i:Int}{x:ah}(aD:xs.length<1000000000)(e:pick xs i=some x):∃j,seqIndex? i xs.length=some j∧xs[j]?=some x∧-(2^62)<i∧i<2^62:=by
 refine aj ?_ (G5 e);intro j;refine aY ?_;intro e aP hi;refine⟨j,?_,e,by clear e;exact hi.elim (fun ay=>ck (.i (-1) (.E .p (.n .p)) (.T (.k (-(2^62))) .p)) rfl [_] [_] ay) (fun aE=>ck (.i 1537228672809129301 (.t .p (.k 1000000000)) (.i (-333333333) (.E .p (.s (.n .q) (.n .p))) (.G 333333332 (.T (.k (-(2^62))) .p)))) rfl [_,_] [_] aD aE),by clear e;exact hi.elim (fun ay=>ck (.i 4611686018427387904 (.t .p (.k 1000000000)) (.i 999999999 (.t .q .p) (.i 999999999 (.E .p (.n .q)) (.G 999999998 (.T .p (.k (2^62))))))) rfl [_,_] [_] aD aP ay) (fun aE=>ck (.b .p .q (.ak .p (.s (.n .p) (.n .q)) (.T .p (.k (2^62))))) rfl [_,_] [_] aP aE)⟩;have jL:(j:Int)<xs.length:=Int.ofNat_lt.mpr aP;have af:(decide ((0:Int)≤j)&&decide ((j:Int)<xs.length))=true:=by rw[decide_eq_true (Int.natCast_nonneg j),decide_eq_true jL];rfl
 unfold seqIndex?;rcases hi with rfl|rfl
 ·rw[if_neg (Int.not_lt.mpr (Int.natCast_nonneg j))];exact if_pos af
 ·rw[if_pos (Int.sub_neg_of_lt jL),Int.sub_add_cancel];exact if_pos af
theorem G6(slice:Expr)(o i:Value):∃ops,subscripted slice false o i=operate ops (getItem o i):=by
 cases slice with
 |Slice _ _ t _=>cases t<;>exact⟨_,rfl⟩
 |_=>exact⟨_,rfl⟩
section
variable{A:Around}{s:Shared}{am:List Addr}{st:St}{Q:∀Y:ah,∀Y:St,Prop} {u v:Value} {i:Int}
noncomputable def yy(prog:Program)(w:World)(B:Heap)(A:Around)(s:Shared)(am:List Addr)(Q:∀Y:ah,∀Y:St,Prop) (u v:Value):Prop:=
 ∃T id,s.TypeIs u T∧typeLookup (.type T) "__getitem__"=pure (some (.builtin id))∧wpAny (model prog w) A (getItem u v) (dC prog w B am s Q) bo s
theorem NT{x:ah}{xs:List ah}{y:ah}(S:bh prog w B am s.heap st)(aG:bc am s.heap x u)(ai:bc am s.heap (.int i) v)(e:listAt x st=some xs)(hlen:xs.length<1000000000)(cA:pick xs i=some y)(q:Q y st):
 yy prog w B A s am Q u v:=by
 refine dF ?_ (S.listAt aG e);intro _ _ vs m;refine dH ?_;rintro _ rfl _ _ aD aC;refine aj ?_ ai.int_inv;rintro t rfl;refine cE _ _ ⟨aD.isList.typeIs,slot_list_getitem.lookup,?_⟩;refine aj ?_ (G5 cA);intro j;refine aY ?_;intro g aP hi;refine aj ?_ (aC.get g);intro z;refine ar ?_;intro aU aO;have iT:vs.toArray[j]?=some z:=List.getElem?_toArray.trans aU;have p:=n4 S aO q;rcases hi with rfl|rfl
 ·exact wpAny_getItem_list aD.isList (Int.natCast_nonneg j) (by clear g aU iT;exact aq (.i 9223372036854775807 (.t .q (.k 1000000000)) (.i 9223372036854775807 (.t .p .q) (.G 999999997 (.T (.n .p) (.k (2^63)))))) rfl hlen aP) iT p
 ·have aM:(j:Int)-xs.length<0:=Int.sub_neg_of_lt (Int.ofNat_lt.mpr aP);have c8:(vs.toArray.size:Int)=xs.length:=congrArg Nat.cast aC.length.symm;exact wpAny_getItem_list_neg aD.isList aM (by rw[c8];exact ML) (by clear g aU iT;exact aq (.i 9223372036854775808 (.t .q (.k 1000000000)) (.G 999999998 (.L (.k (-(2^63))) (.s (.n .p) (.n .q))))) rfl hlen) (by rw[c8,Int.sub_add_cancel];exact iT) p
theorem NU{xs:List ah}(S:bh prog w B am s.heap st)(aG:bc am s.heap (.tup xs) u)(ai:bc am s.heap (.int i) v)(q:xs.length<1000000∧qz (pick xs i) Q st):yy prog w B A s am Q u v:=by
 refine bG ?_ aG.m8;intro a items n;refine aY ?_;rintro rfl bf aC;refine aj ?_ ai.int_inv;rintro t rfl;refine aj ?_ (gH q.2);intro y;refine ar ?_;intro e z;refine aj ?_ (NS (Nat.lt_trans q.1 (by decide)) e);intro j;refine cI ?_;intro ae af aH bX;refine aj ?_ (aC.get af);intro BN;refine ar ?_;intro aU aO;exact cE _ _ ⟨⟨_,bf,rfl⟩,slot_tuple_getitem.lookup,PySem.P.getItem_tuple bf (by clear q e;exact gG (.B (.k (-(2^62))) .p (.L (.k (-(2^63))) .p)) rfl aH) (Int.lt_trans bX (by decide)) (by rw[qq aC];exact ae) (by rw[←Array.getElem?_toList];exact aU) (n4 S aO z)⟩
theorem NV{x:ah}{kvs:List (Int×ah)}(S:bh prog w B am s.heap st)(aG:bc am s.heap x u)(ai:bc am s.heap (.int i) v)(e:dictAt x st=some kvs)(q:qz (fa i kvs) Q st):yy prog w B A s am Q u v:=by
 refine bG ?_ (S.dictAt aG e);intro _ _ aB;refine dH ?_;rintro _ rfl _ _ hd aQ;refine aj ?_ ai.int_inv;rintro t rfl;refine aj ?_ (gH q);intro y;refine ar ?_;intro cA z;rcases G2 i aQ with⟨ae,af⟩|⟨Xz,BN,ae,af,aH⟩
 ·exact gh (ae.symm.trans cA)
 ·exact cE _ _ ⟨hd.typeIs,PySem.slot_dict_getitem.lookup,wpAny_getItem_of yw hd.mapOf af (jH S aH ((Option.some.inj (ae.symm.trans cA))▸z))⟩
theorem NW{c x:ah}(S:bh prog w B am s.heap st):∀Y:bc am s.heap c u,∀Y:bc am s.heap x v,∀Y:ng c x Q st,yy prog w B A s am Q u v:=by
 cases c with
 |tup xs=>
  cases x with
  |int i=>exact NU S
  |_=>exact fun Y Y q=>q.elim
 |ref n=>
  cases x with
  |int i=>
   intro aG ai q;rw[BL]at q;cases e:Mine.dictAt (.ref n) st with
   |some kvs=>exact NV S aG ai e (by rw[e]at q;exact q)
   |none=>
    rw[e]at q;refine aj ?_ (gH q);intro xs;refine ar ?_;intro e q;refine aj ?_ (gH q.2);intro y;refine ar ?_;intro cA z;exact NT S aG ai e q.1 cA z
  |_=>exact fun Y Y q=>q.elim
 |_=>exact fun Y Y q=>q.elim
end
theorem c4{c x:Expr}{p:Pos}{br bK:b6}(bU:b3 prog w B ak k c br)(cZ:b3 prog w B ak k x bK):
 b3 prog w B ak k (.Subscript c x p) (biP ng br bK):=by
 intro A env s am loc st Q aL R S h;refine Subscript_ (dZ (bU aL R S h) fun u ba bV aV a bj bk cN bF=>?_);refine dZ (cZ aL (R.ext S bj.ext) bk bF) fun v dw fB cX b cC cw fT df=>?_;obtain⟨T,id,cu,aD,b8⟩:=NW cw (cN.j3 bk cC) fT df;refine aj ?_ (G6 x u v);intro ops bx;exact tail_any cu aD (wpAny_mono b8 (fun Y Y z=>dC.over (bj.trans cC) z) fun Y Y z=>z) bx
noncomputable def NX:∀Y:bB,Option (List ah)
 |.list xs=>some xs
 |.raw _ ns=>some (ns.map .int)
 |_=>none
noncomputable def rU(x:ah)(st:St):Option (List ah):=(tF x st).bind NX
theorem bh.rU{am:List Addr}{h:Heap}{st:St}{x:ah}{v:Value}{xs:List ah}(S:bh prog w B am h st)(ai:bc am h x v)(e:rU x st=some xs):
 ∃a vs m,v=.ref a∧IsL h a (List.toArray vs) m∧bT am h xs vs:=by
 refine aj ?_ (Option.bind_eq_some_iff.mp e);intro o;refine ar ?_;intro e g;refine aj ?_ (vI e);intro n;refine ar ?_;rintro rfl e;refine aj ?_ ai.qp;intro a;refine ar ?_;rintro rfl az;have z:=S.obj n a _ az e;cases o with
 |list ys=>
  refine aj ?_ z;clear z;intro vs;refine ar ?_;refine aj ?_;intro m hm;intro aC;exact(cF a vs m ⟨rfl,hm,(Option.some.inj g)▸aC⟩)
 |raw o ns=>
  obtain⟨_,vs,⟨m,hm⟩,aC⟩:=z;exact(cF a vs m ⟨rfl,hm,(Option.some.inj g)▸aC⟩)
 |_=>exact gh g
theorem G7{v:ah}{st:St}{xs:List ah}(h:listAt v st=some xs):rU v st=some xs:=by
 refine aj ?_ (qx h);intro n;refine ar ?_;rintro rfl e;exact Option.bind_eq_some_iff.mpr ⟨_,e,rfl⟩
noncomputable def BO(c x:ah)(Q:ah→St→Prop)(st:St):Prop:=match x with
 |.int n=>fY (rU c st) fun xs=>(xs.length≤1000000∧(0≤n∨n=-1))∧Q (.ref st.length) (st++[.list (if 0≤n then xs.take n.toNat else xs.take (xs.length-1))])
 |_=>False
theorem NY{c x:ah}{Q:∀Y:ah,∀Y:St,Prop} {st:St} (q:BO c x Q st):∃n xs,x=.int n∧rU c st=some xs∧(xs.length≤1000000∧(0≤n∨n=-1))∧Q (.ref st.length) (st++[.list (if 0≤n then xs.take n.toNat else xs.take (xs.length-1))]):=by
 cases x with
 |int n=>
  refine aj ?_ (gH q);intro xs;refine ar ?_;intro e q;exact cE n xs ⟨rfl,e,q⟩
 |_=>exact q.elim
theorem NZ{n:Int}{vs:List Value}(h:0≤n∨n=-1):slicePick vs.toArray none (some n) none=(if 0≤n then vs.take n.toNat else vs.take (vs.length-1)).toArray:=by
 by_cases aM:0≤n
 ·rw[if_pos aM];have:=slicePick_upto' vs.toArray n.toNat;rw[Int.toNat_of_nonneg aM]at this;exact this
 ·rw[if_neg aM,h.resolve_left aM];have:=slicePick_butLast vs.toArray 1 (Nat.le_refl _);rw[List.size_toArray]at this;exact this
theorem BP{c x:Expr}{p fb:Pos}{br bK:b6}(bU:b3 prog w B ak k c br)(cZ:b3 prog w B ak k x bK):
 b3 prog w B ak k (.Subscript c (.Slice none (some x) none fb) p) (biP BO br bK):=by
 intro A env s am loc st Q aL R S h;refine Subscript_ (dZ (bU aL R S h) fun u ba bV aV a bj bk cN bF=>?_);refine wpAny_Slice (wpAny_evalPart_none (wpAny_evalPart_some (dZ (cZ aL (R.ext S bj.ext) bk bF) fun v dw fB cX b cC cw fT df=>wpAny_evalPart_none ?_)));refine bZ ?_ (NY df);intro n xs;refine cI ?_;rintro rfl e av z;refine aj ?_ fT.int_inv;rintro t rfl;refine bG ?_ (cw.rU (cN.j3 bk cC) e);intro lU vs m;refine aY ?_;rintro rfl aD aC;refine aj ?_ (G6 (.Slice none (some x) none fb) (.ref lU) (.ref dw.heap.objs.size));intro ops bx;have cv:∀b cg,∀Y:dw.heap.get? b=some cg,(dw.heap.push {cls:=.type "slice",data:=.fields #[.none,.int n t,.none]}).get? b=some cg:=fun Y Y e=>Heap.get?_push_of_some _ e;have eT:c9 fB dw fB {dw with heap:=dw.heap.push {cls:=.type "slice",data:=.fields #[.none,.int n t,.none]}}:=.heap (tk:=dw.toks) (.of_keeps cv)
 have bb:bT fB dw.heap (if 0≤n then xs.take n.toNat else xs.take (xs.length-1)) (if 0≤n then vs.take n.toNat else vs.take (vs.length-1)):=by
  rw[aC.length];by_cases aM:0≤n
  ·rw[if_pos aM,if_pos aM];exact aC.take _
  ·rw[if_neg aM,if_neg aM];exact aC.take _
 have:=yo (tk:=dw.toks) (cw.keeps cv) (bb.j3 cw eT) z;rw[←NZ av.2]at this
 exact tail_any (T:="list") ⟨_,cv _ _ aD,rfl⟩ slot_list_getitem.lookup (wpAny_getItem_list_slice (IsL.isList (cv _ _ aD)) (Heap.IsSliceOf.new ..) .none (.int n t) .none (by simp) (dC.over ((bj.trans cC).trans eT) this)
  (by rw[List.size_toArray,←aC.length];exact Nat.le_trans av.1 (by decide))) bx
noncomputable def fN(B:Heap)(x:Str)(v:Value):Prop:=∃fC gi,B.Ns mainGlobals fC∧B.Ns builtinsNs gi∧(fC x=some v∨(fC x=none∧gi x=some v))
theorem BQ{A:Around}{env:Env}{s:Shared}{am:List Addr}{loc:Loc}{st:St}{x:Str}{p:Pos}{v:Value}{F:∀Y:Value,∀Y:Shared,Prop} (R:d7 B ak env am s.heap loc) (S:bh prog w B am s.heap st)
 (ai:ak.kinds.lookup x=some .globalImplicit) (az:fN B x v) (hd:(x==("__debug__":Str))=false) (h:F v s):wpAny (model prog w) A (eval (.Name x p) env) F bo s:=by
 refine bZ ?_ az;clear az;intro fC gi;refine aY ?_;intro g b az;have cL:s.heap.Ns env.globals fC:=by rw[R.n3];exact g.keeps S.base
 have pw:s.heap.Ns env.builtins gi:=by rw[R.o8];exact b.keeps S.base
 refine Calls.Name_function_global R.iG (by rw[show env.kindOf x=env.scope.names.lookup x from rfl,R.lP];exact ai) ?_ hd;rcases az with az|⟨ae,af⟩
 ·exact Calls.loadGlobal_global cL az h
 ·exact Calls.loadGlobal_builtin cL ae pw af h
noncomputable def b9(prog:Program)(w:World)(B:Heap)(k:Nat)(v:Value)(S:∀Y:List ah,∀Y:(∀Y:ah,∀Y:St,Prop),∀Y:St,Prop):Prop:=
 ∀⦃A:Around⦄⦃s:Shared⦄⦃am:List Addr⦄⦃st:St⦄⦃Q:∀Y:ah,∀Y:St,Prop⦄ ⦃xs:List ah⦄ ⦃vs:List Value⦄,∀Y:gW A k,∀Y:bh prog w B am s.heap st,∀Y:bT am s.heap xs vs,∀Y:S xs Q st,
  wpAny (model prog w) A (call v vs) (dC prog w B am s Q) bo s
noncomputable def Plain(B:Heap)(v:Value):Prop:=(∃id,v=.builtin id)∨(∃T,v=.type T)∨∃a o fd,v=.ref a∧B.get? a=some o∧o.data=.func fd
theorem G8{A:Around}{s:Shared}{pos:Pos}{v:Value}{first:List Value}{x:Sem Value}{rest:List (Bool×Sem Value)}{F:∀Y:Value,∀Y:Shared,Prop} (aQ:Plain B v) (N1:rest.any (·.1)=false)
 (h:wpAny (model prog w) A (spliced ((false,x)::rest)) (fun vs ba=>(∀b o,∀Y:B.get? b=some o,ba.heap.get? b=some o)∧wpAny (model prog w) A (call v (first++vs)) F bo ba) bo s):
 wpAny (model prog w) A (callWith pos v first ((false,x)::rest) []) F bo s:=by
 have fO:((false,x)::rest).any (·.1)=false:=by simpa using N1
 rcases aQ with⟨id,rfl⟩|⟨T,rfl⟩|⟨a,o,fd,rfl,aJ,hd⟩
 ·exact Calls.callWith_builtin fO (Calls.evalArgs_plain (wpAny_mono h (fun Y Y z=>z.2) fun Y Y z=>z))
 ·exact PySem.callWith_type fO (Calls.evalArgs_plain (wpAny_mono h (fun Y Y z=>z.2) fun Y Y z=>z))
 ·exact Calls.callWith_function (o:=o) (fd:=fd) (Calls.evalArgs_plain (wpAny_mono h (fun Y Y z=>⟨⟨z.1 _ _ aJ,hd⟩,z.2⟩) fun Y Y z=>z))
noncomputable def callP(S:(∀Y:List ah,∀Y:(∀Y:ah,∀Y:St,Prop),∀Y:St,Prop)) (pA:lQ):b6:=fun Q loc st=>pA (fun vs aV=>S vs Q aV) loc st
theorem bL{x:Str}{v:Value}{e:Expr}{r:List Expr}{np p:Pos}{pA:lQ}{S:∀Y:List ah,∀Y:(∀Y:ah,∀Y:St,Prop),∀Y:St,Prop} (az:fN B x v) (aQ:Plain B v) (bq:b9 prog w B k v S) (aJ:qu prog w B ak k (e::r) pA)
 (ai:autoParam (ak.kinds.lookup x=some .globalImplicit) jY._auto_1) (hd:autoParam ((x==("__debug__":Str))=false) jE._auto_1)
 (he:autoParam (∀env,starEach (e::r) env=(false,eval e env)::starEach r env) my._auto_1) (aC:autoParam (∀pos env,(backTo pos (starEach r env)).any (·.1)=false) qf._auto_1):
 b3 prog w B ak k (.Call (.Name x np) (e::r) [] p) (callP S pA):=by
 intro A env s am loc st Q aL R fP h;refine wpAny_Call_ofName (BQ R fP ai az hd ?_);have k9:=aJ (pos:=p) aL R fP h;rw[he]at k9 ⊢;refine G8 aQ (aC p env) (tD k9 fun vs ba bV aV qt bj bk cN bF=>⟨bk.base,?_⟩);exact wpAny_mono (bq aL bk cN bF) (fun Y Y z=>dC.over bj z) fun Y Y z=>z
end Mine
end
section
namespace Mine
variable{prog:Program}{w:World}{B:Heap}{ak:dB}{k:Nat}
theorem yz{s:Shared}{am:List Addr}{st:St}{Q:∀Y:ah,∀Y:St,Prop} {v:Value} {pv:ah} {h':Heap} {tk:Nat} (S:bh prog w B am s.heap st) (cv:∀b cg,∀Y:s.heap.get? b=some cg,h'.get? b=some cg) (aO:bc am h' pv v) (h:Q pv st):
 dC prog w B am s Q v {s with heap:=h',toks:=tk}:=(cF am st pv ⟨.heap (.of_keeps cv),S.keeps cv,aO,h⟩)
theorem BR{s:Shared}{am:List Addr}{st:St}{Q:∀Y:ah,∀Y:St,Prop} {a:Addr} {po:bB} {h':Heap} {tk:Nat} (S:bh prog w B am s.heap st) (cv:∀b cg,∀Y:s.heap.get? b=some cg,h'.get? b=some cg)
 (az:s.heap.get? a=none) (bx:j1 prog w (am++[a]) h' a po) (h:Q (.ref st.length) (st++[po])):dC prog w B am s Q (.ref a) {s with heap:=h',toks:=tk}:=by
 refine ar ?_ (S.add cv az bx);intro dJ x;exact(cF _ _ (.ref st.length) ⟨.heap x,dJ,.ref (by rw[←S.len];simp),h⟩)
theorem lV{h h':Heap}(cv:∀b cg,∀Y:h.get? b=some cg,h'.get? b=some cg):fR h h':=fun b o Y e=>cv b o e
theorem BS{s:Shared}{am:List Addr}{st:St}{Q:∀Y:ah,∀Y:St,Prop} {a:Addr} {vs:List Value} {xs:List ah} {n:Nat} {h':Heap} {tk:Nat} (S:bh prog w B am s.heap st) (cv:∀b cg,∀Y:s.heap.get? b=some cg,h'.get? b=some cg)
 (az:s.heap.get? a=none) (bx:IsL h' a vs.toArray n) (aO:bT am s.heap xs vs) (h:Q (.ref st.length) (st++[.list xs])):dC prog w B am s Q (.ref a) {s with heap:=h',toks:=tk}:=
 BR (po:=.list xs) S cv az ⟨vs,⟨n,bx⟩,aO.mono (List.prefix_append _ _) (lV cv)⟩ h
theorem G9{h h':Heap}(cv:∀b cg,∀Y:h.get? b=some cg,h'.get? b=some cg):h.get? h'.objs.size=none:=by
 cases e:h.get? h'.objs.size with
 |none=>rfl
 |some o=>exact absurd (Heap.lt_size (cv _ _ e)) (Nat.lt_irrefl _)
noncomputable def ky:∀Y:ah,∀Y:St,Option (List ah)
 |.tup xs,_=>some xs
 |x,st=>listAt x st
theorem Ha{x:ah}{st:St}{xs:List ah}(e:ky x st=some xs):x=.tup xs∨listAt x st=some xs:=by
 cases x with
 |tup ys=>exact .inl (congrArg ah.tup (Option.some.inj e))
 |_=>exact .inr e
theorem bh.ky{am:List Addr}{h:Heap}{st:St}{x:ah}{v:Value}{xs:List ah}(S:bh prog w B am h st)(ai:bc am h x v)(e:ky x st=some xs):
 (∃a vs m,v=.ref a∧a∈am∧IsL h a (List.toArray vs) m∧bT am h xs vs)∨(∃a items n,x=.tup xs∧v=.ref a∧IsT h a items n∧bT am h xs items.toList):=by
 rcases Ha e with rfl|e
 ·refine bG ?_ ai.m8;intro a items n;refine aY ?_;rintro rfl bf aC;exact .inr (cF a items n ⟨rfl,rfl,bf,aC⟩)
 ·refine dF ?_ (S.listAt ai e);intro _ a vs m;refine dH ?_;rintro _ rfl hm _ aD aC;exact .inl (cF a vs m ⟨rfl,List.mem_of_getElem? hm,aD,aC⟩)
noncomputable def one(f:∀Y:ah,∀Y:(∀Y:ah,∀Y:St,Prop),∀Y:St,Prop):∀Y:List ah,∀Y:(∀Y:ah,∀Y:St,Prop),∀Y:St,Prop
 |[x],Q,st=>f x Q st
 |_,_,_=>False
theorem vO{v:Value}{f:∀Y:ah,∀Y:(∀Y:ah,∀Y:St,Prop),∀Y:St,Prop} (h:∀{A:Around}{s:Shared}{am:List Addr}{st:St}{Q:∀Y:ah,∀Y:St,Prop} {x:ah} {u:Value},∀Y:gW A k,∀Y:bh prog w B am s.heap st,∀Y:bc am s.heap x u,∀Y:f x Q st,wpAny (model prog w) A (call v [u]) (dC prog w B am s Q) bo s):
 b9 prog w B k v (one f):=by
 intro A s am st Q xs vs aL S aO q;cases xs with
 |nil=>exact q.elim
 |cons x r=>
  cases r with
  |nil=>
   refine aj ?_ aO.yk;intro u;refine ar ?_;rintro rfl a;exact h aL S a q
  |cons=>exact q.elim
noncomputable def rV(x:ah)(Q:∀Y:ah,∀Y:St,Prop) (st:St):Prop:=fY (ky x st) fun xs=>xs.length<1000000000∧Q (.int xs.length) st
theorem fD:b9 prog w B k (.builtin "len") (one rV):=vO fun{_ _ _ _ Q _ _} Y S a q=>by
 refine aj ?_ (gH q);intro xs;refine aY ?_;intro e aD q;rcases S.ky a e with⟨a,vs,m,rfl,_,bf,aC⟩|⟨a,items,n,_,rfl,bf,aC⟩
 ·rw[aC.length]at aD q;refine len_list bf.isList (by rw[List.size_toArray];clear q;exact aI (.i 9223372036854775807 (.t .p (.k 1000000000)) (.G 999999998 (.T (.n .p) (.k (2^63))))) rfl aD) (jH (pv:=.int vs.length) S .int q)
 ·rw[←qq aC]at aD q;exact PySem.P.len_tuple bf (by clear q;exact aI (.i 9223372036854775807 (.t .p (.k 1000000000)) (.G 999999998 (.o (.L (.k (2^63)) (.n .p))))) rfl aD) (jH (pv:=.int items.size) S .int q)
noncomputable def intsOf(xs:List ah):Option (List Int):=n6 BK xs
theorem yC{xs:List ah}:∀{ns:List Int},∀Y:intsOf xs=some ns,xs=ns.map .int:=by
 induction xs with
 |nil=>intro ns e;cases e;rfl
 |cons x r ih=>
  intro ns e;refine aj ?_ (Option.bind_eq_some_iff.mp e);intro i;refine ar ?_;intro ae e;refine aj ?_ (Option.map_eq_some_iff.mp e);intro is;refine ar ?_;rintro af rfl;rw[GY ae,ih af];rfl
theorem N2(ns:List Int):intsOf (ns.map .int)=some ns:=by
 induction ns with
 |nil=>rfl
 |cons n r ih=>exact GP rfl ih
noncomputable def ints2(F:∀Y:Int,∀Y:Int,Prop) (G:∀Y:Int,Prop):∀Y:List Int,Prop
 |[b]=>G b
 |[a,b]=>F a b
 |_=>False
theorem Hb{F:∀Y:Int,∀Y:Int,Prop} {G:∀Y:Int,Prop} {ns:List Int} (h:ints2 F G ns):(∃b,ns=[b]∧G b)∨∃a b,ns=[a,b]∧F a b:=by
 cases ns with
 |nil=>exact h.elim
 |cons a r=>cases r with
  |nil=>exact .inl ⟨a,rfl,h⟩
  |cons b r=>cases r with
   |nil=>exact .inr (cE a b ⟨rfl,h⟩)
   |cons=>exact h.elim
noncomputable def Hc(xs:List ah)(Q:∀Y:ah,∀Y:St,Prop) (st:St):Prop:=fY (intsOf xs) (ints2 (fun a b=>Q (.range a b) st) fun b=>Q (.range 0 b) st)
theorem called_range:b9 prog w B k (.type "range") Hc:=by
 intro A s am st Q xs vs aL S aO q;refine aj ?_ (gH q);intro ns;refine ar ?_;intro e q;rw[yC e]at aO;clear e;rcases Hb q with⟨b,rfl,q⟩|⟨a,b,rfl,q⟩
 ·refine aj ?_ aO.yk;intro u;refine ar ?_;rintro rfl r;refine aj ?_ r.int_inv;rintro t rfl;exact call_range_1 (BF S (.range (IsRange.new ..)) q)
 ·refine bZ ?_ aO.By;intro u Hd;refine aY ?_;rintro rfl r c5;refine aj ?_ r.int_inv;rintro t rfl;refine aj ?_ c5.int_inv;rintro e8 rfl;exact call_range_2 (BF S (.range (IsRange.new ..)) q)
noncomputable def He(xs:List ah)(Q:∀Y:ah,∀Y:St,Prop) (st:St):Prop:=fY (intsOf xs) (ints2 (fun a b=>Q (.int (if b<a then b else a)) st) fun Y=>False)
theorem N3:b9 prog w B k (.builtin "min") He:=by
 intro A s am st Q xs vs aL S aO q;refine aj ?_ (gH q);intro ns;refine ar ?_;intro e q;rw[yC e]at aO;clear e;rcases Hb q with⟨b,rfl,z⟩|⟨a,b,rfl,z⟩
 ·exact z.elim
 ·refine bZ ?_ aO.By;intro u Hd;refine aY ?_;rintro rfl r c5;refine aj ?_ r.int_inv;rintro t rfl;refine aj ?_ c5.int_inv;rintro e8 rfl;refine min_two_ints aL.1 fun h' tk cv=>?_;by_cases h:b<a
  ·rw[if_pos h]at z ⊢;exact yz S cv .int z
  ·rw[if_neg h]at z ⊢;exact yz S cv .int z
theorem N4(ns:List Int)(j:Nat):∀Y:j≤ns.length,preSum (fun i=>ns.getD i 0) j=(ns.take j).sum:=by
 induction j with
 |zero=>intro _;rw[List.take_zero];rfl
 |succ j ih=>
  intro h;have aP:j<ns.length:=h;rw[preSum,ih (Nat.le_of_lt aP),List.take_add_one,List.sum_append];simp[List.getD,aP]
noncomputable def Hf(x:ah)(Q:∀Y:ah,∀Y:St,Prop) (st:St):Prop:=fY ((listAt x st).bind intsOf) fun ns=>Q (.int ns.sum) st
theorem Hg:b9 prog w B k (.builtin "sum") (one Hf):=vO fun{_ s _ _ Q _ _} aL S a q=>by
 refine aj ?_ (gH q);intro ns;refine ar ?_;intro e q;refine aj ?_ (Option.bind_eq_some_iff.mp e);intro xs;refine ar ?_;intro e aW;refine dF ?_ (S.listAt a e);intro n lU us m;refine dH ?_;rintro _ rfl hm _ aD aC;rw[yC aW]at aC;have hi:=aC.ints;have bC:lU<s.heap.objs.size:=S.lt (List.mem_of_getElem? hm);have hlen:us.length=ns.length:=by rw[←aC.length,List.length_map]
 refine call_sum_walkG (wpAny_pyIter_list aD.isList (vo s.heap.objs.size _ _ us.toArray.size _ _ (fun i=>ns.getD i 0) ⟨rfl,Walks.list (A:=Around.in1 _) aL.1 _ lU (Nat.ne_of_lt bC) us.toArray,⟨⟨_,Heap.get?_push_size _ rfl,rfl,rfl⟩,aD.isList.push _⟩,?_,?_,?_⟩))
 ·intro b av;rw[Heap.size_push];rcases List.mem_cons.mp av with rfl|av
  ·exact Nat.lt_succ_self _
  ·rw[List.mem_singleton.mp av];exact Nat.lt_succ_of_lt bC
 ·intro i v e;have aH:us[i]?=some v:=List.getElem?_toArray.symm.trans e;have fV:i<ns.length:=hlen▸(List.getElem?_eq_some_iff.mp aH).1;refine aj ?_ (hi.get i ns[i] (List.getElem?_eq_getElem fV));intro t bf;have g:ns.getD i 0=ns[i]:=by rw[List.getD_eq_getElem?_getD,List.getElem?_eq_getElem fV];rfl
  exact⟨t,(Option.some.inj (aH.symm.trans bf)).trans (congrArg (Value.int · t) g.symm)⟩
 ·intro h' tk e8 cv;have yD:∀b cg,∀Y:s.heap.get? b=some cg,h'.get? b=some cg:=fun b cg e=>cv b cg (by simp;exact Nat.ne_of_lt (Heap.lt_size e)) (Heap.get?_push_of_some _ e)
  have cz:preSum (fun i=>ns.getD i 0) us.toArray.size=ns.sum:=by
   rw[List.size_toArray,hlen,N4 ns _ (Nat.le_refl _),List.take_length]
  rw[cz];exact yz S yD .int q
noncomputable def yE(x:ah)(Q:∀Y:ah,∀Y:St,Prop) (st:St):Prop:=fY (ky x st) fun xs=>xs.length≤1000000∧Q (.tup xs) st
theorem called_tuple:b9 prog w B k (.type "tuple") (one yE):=vO fun{_ s _ _ Q _ _} Y S a q=>by
 refine aj ?_ (gH q);intro xs;refine aY ?_;intro e aD z;rcases S.ky a e with⟨lU,vs,m,rfl,_,bf,aC⟩|⟨lU,items,n,rfl,rfl,bf,aC⟩
 ·refine call_tuple_list bf.isList (fun h' cv=>?_) (by rw[List.size_toArray,←aC.length];exact Nat.le_trans aD (by decide));have yD:∀b cg,∀Y:s.heap.get? b=some cg,(h'.push {cls:=.type "tuple",data:=.seq vs.toArray}).get? b=some cg:=fun b cg e=>Heap.get?_push_of_some _ (cv b cg e);exact yz S yD (.tup (Heap.get?_push_size _ rfl) (aC.mono (List.prefix_refl _) (lV yD))) z
 ·exact call_tuple_same ⟨_,bf,rfl,_,rfl⟩ (n4 S a z)
noncomputable def BT(x:ah)(Q:∀Y:ah,∀Y:St,Prop) (st:St):Prop:=fY (ky x st) fun xs=>xs.length≤1000000∧Q (.ref st.length) (st++[.list xs])
theorem called_list:b9 prog w B k (.type "list") (one BT):=vO fun Y S a q=>by
 refine aj ?_ (gH q);intro xs;refine aY ?_;intro e aD z;rcases S.ky a e with⟨lU,vs,m,rfl,_,bf,aC⟩|⟨lU,items,n,_,rfl,bf,aC⟩
 ·exact call_list_seq _ (.inl rfl) bf rfl rfl (fun h' c cv mD=>BS S cv (lS _) mD aC z) (by rw[List.size_toArray,←aC.length];exact Nat.le_trans aD (by decide))
 ·exact call_list_seq lU (.inr rfl) bf rfl rfl (fun h' c cv mD=>BS (vs:=items.toList) S cv (lS _) mD aC z) (by rw[qq aC];exact Nat.le_trans aD (by decide))
end Mine
end
section
namespace Mine
variable{prog:Program}{w:World}{B:Heap}{ak:dB}{k:Nat}
inductive gj where
 |next|brk|cont|ret (v:ah)
inductive tL(am:List Addr)(h:Heap):∀Y:gj,∀Y:Flow,Prop
 |next:tL am h .next .next
 |brk:tL am h .brk .brk
 |cont:tL am h .cont .cont
 |ret {x v}:∀Y:bc am h x v,tL am h (.ret x) (.ret v)
structure Hh(O am:List Addr)(h:Heap)(aX:List Addr)(h':Heap):Prop where
 pre:am <+: aX
 keep:∀b o,∀Y:b∉am,∀Y:b∉O,∀Y:h.get? b=some o,h'.get? b=some o
 fresh:∀a∈aX,∀Y:a∉am,h.get? a=none
theorem Ext.xs{O am h aX h'}(x:Ext am h aX h'):Hh O am h aX h':=⟨x.pre,fun b o ae Y e=>x.keep b o ae e,x.fresh⟩
structure iU(O am:List Addr)(s:Shared)(aX:List Addr)(s':Shared):Prop where
 eq:∃h' tk d,s'={s with heap:=h',toks:=tk,drawn:=d}
 xs:Hh O am s.heap aX s'.heap
 own:∀a∈O,∀Y:(∃o,s.heap.get? a=some o),∃o,s'.heap.get? a=some o
theorem iU.refl{O am s}:iU O am s am s:=⟨(cF _ _ _ rfl),(Ext.refl (am:=am) (h:=s.heap)).xs,fun Y Y h=>h⟩
theorem iU.trans{O am s aX s' iu fj}(x:iU O am s aX s')(y:iU O aX s' iu fj):iU O am s iu fj:=by
 obtain⟨⟨h,t,bP,rfl⟩,a,c⟩:=x;obtain⟨⟨h',e8,XA,rfl⟩,b,d⟩:=y;refine⟨(cF _ _ _ rfl),⟨a.pre.trans b.pre,fun z o ae af e=>?_,fun z aU az=>?_⟩,fun z aU h=>d z aU (c z aU h)⟩
 ·refine b.keep z o (fun hm=>?_) af (a.keep z o ae af e);rw[a.fresh z hm ae]at e;cases e
 ·by_cases hm:z∈aX
  ·exact a.fresh z hm az
  ·cases e:s.heap.get? z with
   |none=>rfl
   |some o=>
    by_cases bx:z∈O
    ·refine aj ?_ (c z bx ⟨o,e⟩);intro cg cA;have:=b.fresh z aU hm;rw[show(_:Shared).heap.get? z=some cg from cA]at this;cases this
    ·have:=b.fresh z aU hm;rw[show(_:Shared).heap.get? z=some o from a.keep z o az bx e]at this;cases this
theorem c9.lg{env:Env}{am s aX s' st}{loc:Loc}(R:d7 B ak env am s.heap loc)(_S:bh prog w B am s.heap st)(x:c9 am s aX s'):iU (Own env) am s aX s':=
 ⟨x.eq,x.ext.xs,fun a aJ⟨o,e⟩=>⟨o,x.ext.keep a o (R.own a aJ).2.1 e⟩⟩
noncomputable def nh(prog:Program)(w:World)(B:Heap)(ak:dB)(env:Env)(am:List Addr)(s:Shared)(Q:∀Y:gj,∀Y:Loc,∀Y:St,Prop) (f:Flow) (s':Shared):Prop:=
 ∃aX ao fk dD,iU (Own env) am s aX s'∧bh prog w B aX s'.heap ao∧d7 B ak env aX s'.heap fk∧tL aX s'.heap dD f∧Q dD fk ao
noncomputable abbrev d8:=∀Y:(∀Y:gj,∀Y:Loc,∀Y:St,Prop),∀Y:Loc,∀Y:St,Prop
noncomputable def gx(prog:Program)(w:World)(B:Heap)(ak:dB)(k:Nat)(b:Stmt)(P:d8):Prop:=
 ∀⦃A:Around⦄⦃env:Env⦄⦃s:Shared⦄⦃am:List Addr⦄⦃loc:Loc⦄⦃st:St⦄⦃Q:∀Y:gj,∀Y:Loc,∀Y:St,Prop⦄,∀Y:gW A k,∀Y:d7 B ak env am s.heap loc,∀Y:bh prog w B am s.heap st,∀Y:P Q loc st,
  wpAny (model prog w) A (exec b env) (nh prog w B ak env am s Q) bo s
noncomputable def kA(prog:Program)(w:World)(B:Heap)(ak:dB)(k:Nat)(b:List Stmt)(P:d8):Prop:=
 ∀⦃A:Around⦄⦃env:Env⦄⦃s:Shared⦄⦃am:List Addr⦄⦃loc:Loc⦄⦃st:St⦄⦃Q:∀Y:gj,∀Y:Loc,∀Y:St,Prop⦄,∀Y:gW A k,∀Y:d7 B ak env am s.heap loc,∀Y:bh prog w B am s.heap st,∀Y:P Q loc st,
  wpAny (model prog w) A (execs b env) (nh prog w B ak env am s Q) bo s
theorem nh.over{env:Env}{am aX:List Addr}{s s' dw:Shared}{Q:∀Y:gj,∀Y:Loc,∀Y:St,Prop} {f:Flow} (x:iU (Own env) am s aX s') (p:nh prog w B ak env aX s' Q f dw):nh prog w B ak env am s Q f dw:=by
 refine dF ?_ p;clear p;intro iu ao fk dD;refine ar ?_;intro y r;exact(dX iu ao fk dD ⟨x.trans y,r⟩)
theorem yF{A:Around}{env:Env}{s:Shared}{am:List Addr}{m:Sem Flow}{Q:∀Y:gj,∀Y:Loc,∀Y:St,Prop} {F:∀Y:Flow,∀Y:Shared,Prop} (h:wpAny (model prog w) A m (nh prog w B ak env am s Q) bo s)
 (k:∀f s' aX ao fk dD,∀Y:iU (Own env) am s aX s',∀Y:bh prog w B aX s'.heap ao,∀Y:d7 B ak env aX s'.heap fk,∀Y:tL aX s'.heap dD f,∀Y:Q dD fk ao,F f s'):wpAny (model prog w) A m F bo s:=
 wpAny_mono h (fun v s' aQ=>by refine dF ?_ aQ;clear aQ;intro aX ao fk dD;refine eY ?_;intro a b c d e;exact k v s' aX ao fk dD a b c d e) fun Y Y x=>x
theorem N5{h:Heap}{a:Addr}{m ni:∀Y:Str,Option Value} (x:h.Ns a m) (y:h.Ns a ni):m=ni:=by
 refine bG ?_ x;clear x;intro o a9 ep;refine cI ?_;intro ae af _ aH;refine bG ?_ y;clear y;intro cg XB XC;refine cI ?_;intro g1 g2 _ g3;rw[ae]at g1;cases g1;rw[af]at g2;cases g2
 funext z
 rw[←aH,g3]
theorem bh.gY{am:List Addr}{h h':Heap}{st:St}{L:Addr}(S:bh prog w B am h st)(hs:∀b o,∀Y:b≠L,∀Y:h.get? b=some o,h'.get? b=some o) (eQ:(∃o,h.get? L=some o∧¬Kept o)∧L∉am∧B.get? L=none):
 bh prog w B am h' st∧fR h h':=by
 refine aY ?_ eQ;clear eQ;refine aj ?_;intro vP;refine ar ?_;intro N6 aK;intro hm av;have du:fR h h':=fun b o bx e=>hs b o (fun q=>by rw[q,N6]at e;cases e;exact aK bx) e;refine⟨⟨S.len,S.nodup,S.off,fun b o e=>hs b o (fun q=>by rw[q,av]at e;cases e) (S.base b o e),fun n a o ae af=>?_⟩,du⟩;exact(S.obj n a o ae af).mono (List.prefix_refl _) du fun bO e=>hs a bO (fun q=>hm (q▸List.mem_of_getElem? ae)) e
theorem BU{A:Around}{env:Env}{s:Shared}{am:List Addr}{loc:Loc}{st:St}{x:Str}{i:Nat}{pv:ah}{v:Value}{F:∀Y:Unit,∀Y:Shared,Prop} (R:d7 B ak env am s.heap loc) (S:bh prog w B am s.heap st)
 (ai:ak.vars.lookup x=some i) (nj:ak.kinds.lookup x≠some .free) (aO:bc am s.heap pv v)
 (h:∀(L:Addr) s',∀Y:(L=env.locals∨(x,L)∈env.cells),∀Y:(∃h' tk d,s'={s with heap:=h',toks:=tk,drawn:=d}),∀Y:(∀b o,∀Y:b≠L,∀Y:s.heap.get? b=some o,s'.heap.get? b=some o),∀Y:(∃o,s'.heap.get? L=some o∧¬Kept o),∀Y:bh prog w B am s'.heap st,∀Y:d7 B ak env am s'.heap (setV loc i pv),F () s'):wpAny (model prog w) A (storeName env x v) F bo s:=by
 have N7:env.kindOf x=ak.kinds.lookup x:=by rw[←R.lP];rfl
 refine aj ?_ (R.var x i ai);intro XD;refine ar ?_;intro b7 _
 have fin:∀(L:Addr)(s':Shared),∀Y:(L=env.locals∨(x,L)∈env.cells),∀Y:(∃h' tk d,s'={s with heap:=h',toks:=tk,drawn:=d}),∀Y:(∀b o,∀Y:b≠L,∀Y:s.heap.get? b=some o,s'.heap.get? b=some o),∀Y:(∃o,s'.heap.get? L=some o∧¬Kept o),∀Y:(∃m,s'.heap.Ns env.locals m),
  ∀Y:rN env s'.heap x (some v),∀Y:(∀y u,∀Y:y≠x,∀Y:ak.vars.lookup y≠none,∀Y:rN env s.heap y u,rN env s'.heap y u),F () s':=by
  intro L s' yG he hs lh gk mD hold
  have eQ:L∈Own env:=by
   rcases yG with rfl|hm
   ·exact List.mem_cons_self ..
   ·simp only[Own,List.mem_cons,List.mem_map];exact .inr ⟨_,hm,rfl⟩
  refine ar ?_ (S.gY hs (R.own L eQ));intro dJ du;refine h L s' yG he hs lh dJ ?_
  ·refine⟨R.iG,R.lP,R.n3,R.o8,R.ym,R.inj,gk,fun a aJ=>?_,R.apart,R.locals,fun y j au=>?_⟩
   ·refine aY ?_ (R.own a aJ);refine aj ?_;intro o;refine ar ?_;intro e aK;intro af aH;refine⟨?_,af,aH⟩;by_cases q:a=L
    ·rw[q];exact lh
    ·exact⟨o,hs a o q e,aK⟩
   ·by_cases pB:y=x
    ·subst pB;have iH:i=j:=by rw[ai]at au;exact Option.some.inj au
     subst iH;refine⟨some v,mD,fun u e=>⟨v,rfl,?_⟩⟩;rw[ND _ _ _ _ e];exact aO.mono (List.prefix_refl _) du
    ·refine aj ?_ (R.var y j au);intro u;refine ar ?_;intro vQ aD;refine⟨u,hold y u pB (by rw[au];simp) vQ,fun yH e=>?_⟩;have iH:i≠j:=fun q=>pB (R.inj y x j au (q▸ai));rw[NC _ _ _ _ iH]at e;refine aj ?_ (aD yH e);intro z;refine ar ?_;intro q r;exact⟨z,q,r.mono (List.prefix_refl _) du⟩
 rcases b7 with⟨aK,m,az,hm⟩|⟨aK,c,aG,k4⟩
 ·refine wpAny_storeName_local aK az (fun h' nZ eg=>?_) (by rw[R.iG];rfl);refine fin env.locals _ (.inl rfl) (cF _ _ _ rfl) (fun b o av e=>eg.extBut b o av e) ?_ ⟨_,nZ⟩ (.inl ⟨aK,_,nZ,by simp⟩) fun y u pB Y vQ=>?_
  ·refine bG ?_ nZ;clear nZ;intro o a9 ep;refine aY ?_;intro e d _;exact⟨o,e,GJ d⟩
  ·rcases vQ with⟨gy,ni,tM,lj⟩|⟨gy,c,aG,o,bx,hd⟩
   ·have:=N5 az tM;subst this;exact .inl ⟨gy,_,nZ,by simpa [pB]using lj⟩
   ·exact .inr ⟨gy,c,aG,o,eg.extBut c o (R.locals _ (mem_of_lookup aG)) bx,hd⟩
 ·rcases aK with aK|aK
  ·refine wpAny_storeName_cell R.iG aK aG k4 fun h' BV eg=>?_;have jd:(x,c)∈env.cells:=mem_of_lookup aG;refine fin c _ (.inr jd) (cF _ _ _ rfl) (fun b o av e=>eg.extBut b o av e) ?_ ?_ (.inr ⟨.inl aK,c,aG,BV⟩) fun y u pB Y vQ=>?_
   ·refine aj ?_ BV;clear BV;intro o;refine ar ?_;intro e d;exact⟨o,e,Nz d⟩
   ·refine aj ?_ R.ns;intro m az;exact⟨m,az.sameBut eg (Ne.symm (R.locals _ jd))⟩
   ·rcases vQ with⟨gy,ni,tM,lj⟩|⟨gy,iw,kZ,o,bx,hd⟩
    ·exact .inl ⟨gy,ni,tM.sameBut eg (Ne.symm (R.locals _ jd)),lj⟩
    ·exact .inr ⟨gy,iw,kZ,o,eg.extBut iw o (fun q=>pB (name_of_addr R.apart (mem_of_lookup kZ) (q▸jd))) bx,hd⟩
  ·rw[N7]at aK;exact absurd aK nj
theorem rW{A:Around}{env:Env}{s:Shared}{am:List Addr}{loc:Loc}{st:St}{x:Str}{i:Nat}{pv:ah}{v:Value}{F:∀Y:Unit,∀Y:Shared,Prop} (R:d7 B ak env am s.heap loc) (S:bh prog w B am s.heap st)
 (ai:ak.vars.lookup x=some i) (nj:ak.kinds.lookup x≠some .free) (aO:bc am s.heap pv v)
 (h:∀s',∀Y:iU (Own env) am s am s',∀Y:bh prog w B am s'.heap st,∀Y:d7 B ak env am s'.heap (setV loc i pv),F () s'):wpAny (model prog w) A (storeName env x v) F bo s:=by
 refine BU R S ai nj aO fun L s' yG he hs lh dJ kB=>?_
 have eQ:L∈Own env:=by
  rcases yG with rfl|hm
  ·exact List.mem_cons_self ..
  ·simp only[Own,List.mem_cons,List.mem_map];exact .inr ⟨_,hm,rfl⟩
 refine h s' ⟨he,⟨List.prefix_refl _,fun b o Y af e=>hs b o (fun q=>af (q▸eQ)) e,fun Y ae af=>absurd ae af⟩,fun a aJ⟨o,e⟩=>?_⟩ dJ kB;by_cases q:a=L
 ·refine aj ?_ lh;clear lh;intro cg;refine ar ?_;intro cA _;exact⟨cg,q▸cA⟩
 ·exact⟨o,hs a o q e⟩
noncomputable def nilS:d8:=fun Q loc st=>Q .next loc st
theorem bM:kA prog w B ak k [] nilS:=by
 intro A env s am loc st Q aL R S h;exact wpAny_execs_nil (dX am st loc .next ⟨.refl,S,R,.next,h⟩)
noncomputable def rX(P:d8)(Q:∀Y:gj,∀Y:Loc,∀Y:St,Prop):∀Y:gj,∀Y:Loc,∀Y:St,Prop
 |.next,loc,st=>P Q loc st
 |f,loc,st=>Q f loc st
theorem N8{b:Stmt}{r:List Stmt}{br bK:d8}(bU:gx prog w B ak k b br)(cZ:kA prog w B ak k r bK):kA prog w B ak k (b::r) fun Q loc st=>br (rX bK Q) loc st:=by
 intro A env s am loc st Q aL R S h;refine wpAny_execs_cons (yF (bU aL R S h) fun f ba bV aV BW dD bj bk gZ N9 bF=>?_);cases N9 with
 |next=>exact wpAny_mono (cZ aL gZ bk bF) (fun Y Y z=>nh.over bj z) fun Y Y z=>z
 |brk=>exact(dX bV aV BW .brk ⟨bj,bk,gZ,.brk,bF⟩)
 |cont=>exact(dX bV aV BW .cont ⟨bj,bk,gZ,.cont,bF⟩)
 |ret v=>exact(dX bV aV BW (.ret _) ⟨bj,bk,gZ,.ret v,bF⟩)
noncomputable def retS(P:b6):d8:=fun Q loc st=>P (fun v aV=>Q (.ret v) loc aV) loc st
theorem eF{e:Expr}{p:Pos}{P:b6}(h:b3 prog w B ak k e P):gx prog w B ak k (.Return (some e) p) (retS P):=by
 intro A env s am loc st Q aL R S q;exact wpAny_Return_some (dZ (h aL R S q) fun v ba bV aV pv bj bk cN bF=>(dX bV aV loc _ ⟨bj.lg R S,bk,R.ext S bj.ext,.ret cN,bF⟩))
theorem Oa{p:Pos}:gx prog w B ak k (.Continue p) fun Q loc st=>Q .cont loc st:=by
 intro A env s am loc st Q aL R S q;exact wpAny_Continue (dX am st loc _ ⟨.refl,S,R,.cont,q⟩)
theorem Ob{t:Expr}{b o:List Stmt}{p:Pos}{P:e9}{br bK:d8}(h:jG prog w B ak k t P)(bU:kA prog w B ak k b br)(cZ:kA prog w B ak k o bK):
 gx prog w B ak k (.If t b o p) fun Q loc st=>P (fun c aV=>if c=true then br Q loc aV else bK Q loc aV) loc st:=by
 intro A env s am loc st Q aL R S q;refine wpAny_If (rO (h aL R S q) fun c ba bV aV bj bk bF=>?_);cases c with
 |true=>exact wpAny_mono (bU aL (R.ext S bj.ext) bk bF) (fun Y Y z=>nh.over (bj.lg R S) z) fun Y Y z=>z
 |false=>exact wpAny_mono (cZ aL (R.ext S bj.ext) bk bF) (fun Y Y z=>nh.over (bj.lg R S) z) fun Y Y z=>z
noncomputable def exprS(P:b6):d8:=fun Q loc st=>P (fun v aV=>v=.none∧Q .next loc aV) loc st
theorem Oc{env:Env}(h:env.scope.kind=.function):interactive env=false:=by unfold interactive;rw[h];rfl
theorem ju{e:Expr}{p:Pos}{P:b6}(h:b3 prog w B ak k e P)(hs:autoParam (∀env,swapsWith e none p.line env=pure false) my._auto_1):
 gx prog w B ak k (.Expr e p) (exprS P):=by
 intro A env s am loc st Q aL R S q;refine wpAny_Expr (dZ (h aL R S q) fun v ba bV aV pv bj bk cN bF=>?_) (Oc R.iG) (hs env);refine ar ?_ bF;clear bF;rintro rfl bF;cases cN
 exact(dX bV aV loc _ ⟨bj.lg R S,bk,R.ext S bj.ext,.next,bF⟩)
noncomputable def asgS(i:Nat)(P:b6):d8:=fun Q loc st=>P (fun v aV=>Q .next (setV loc i v) aV) loc st
theorem dg{x:Str}{e:Expr}{p fb:Pos}{i:Nat}{P:b6}(h:b3 prog w B ak k e P)(ai:autoParam (ak.vars.lookup x=some i) jY._auto_1)(nj:autoParam (ak.kinds.lookup x≠some .free) jE._auto_1)
 (hs:autoParam (∀env:Env,∀Y:env.scope.names=ak.kinds,swapsWith e (some (.Name x fb)) p.line env=pure false) qf._auto_1):
 gx prog w B ak k (.Assign [.Name x fb] e p) (asgS i P):=by
 intro A env s am loc st Q aL R S q;refine wpAny_Assign_Name (dZ (h aL R S q) fun v ba bV aV pv bj bk cN bF=>?_) (hs env R.lP);exact rW (R.ext S bj.ext) bk ai nj cN fun dw cC cw fZ=>(dX bV aV _ _ ⟨(bj.lg R S).trans cC,cw,fZ,.next,bF⟩)
end Mine
end
section
namespace Mine
variable{prog:Program}{w:World}{B:Heap}{ak:dB}{k:Nat}
noncomputable def only?:∀Y:List ah,Option ah
 |[x]=>some x
 |_=>none
theorem Od{xs:List ah}{x:ah}(h:only? xs=some x):xs=[x]:=by
 cases xs with
 |nil=>exact gh h
 |cons y r=>cases r with
  |nil=>exact congrArg (fun z=>[z]) (Option.some.inj h)
  |cons=>exact gh h
noncomputable def yI:∀Y:ah,∀Y:ah,∀Y:(∀Y:ah,∀Y:St,Prop),∀Y:St,Prop
 |.int a,.int b,Q,st=>mulQ a b Q st
 |.ref m,.int b,Q,st=>fY ((listAt (.ref m) st).bind only?) fun x=>(0≤b∧b≤100000)∧Q (.ref st.length) (st++[.list (List.replicate b.toNat x)])
 |_,_,_,_=>False
theorem Oe(x:Value)(n:Nat):∀(a:Array Value),List.foldl (fun bW cy=>bW++cy) a (List.replicate n #[x])=a++(List.replicate n x).toArray:=by
 induction n with
 |zero=>intro a;exact(Array.append_empty (xs:=a)).symm
 |succ n ih=>
  intro a;rw[List.replicate_succ,List.foldl_cons,ih];apply Array.ext';simp[List.replicate_succ]
theorem bT.replicate{am:List Addr}{h:Heap}{x:ah}{v:Value}(aO:bc am h x v)(n:Nat):bT am h (List.replicate n x) (List.replicate n v):=by
 induction n with
 |zero=>exact .nil
 |succ n ih=>exact .cons aO ih
theorem mul_list{A:Around}{s:Shared}{am:List Addr}{st:St}{Q:∀Y:ah,∀Y:St,Prop} {m:Nat} {b:Int} {u v:Value} (S:bh prog w B am s.heap st) (aJ:bc am s.heap (.ref m) u) (av:bc am s.heap (.int b) v) (q:yI (.ref m) (.int b) Q st):
 wpAny (model prog w) A (binaryOp .Mult u v) (dC prog w B am s Q) bo s:=by
 refine aj ?_ (gH q);intro x;refine aY ?_;intro e h q;refine aj ?_ (Option.bind_eq_some_iff.mp e);intro xs;refine ar ?_;intro e cA;refine dF ?_ (S.listAt aJ e);intro _ a vs n;refine dH ?_;rintro _ rfl _ _ aD ai;refine aj ?_ av.int_inv;rintro t rfl;rw[Od cA]at ai;refine aj ?_ ai.yk;intro y;refine ar ?_;rintro rfl au;have p:=yo (tk:=s.toks) S (bT.replicate au b.toNat) q
 refine wpAny_binaryOp_repeat_ref (T:="list") (U:="int") (by decide) ⟨_,aD,rfl⟩ (fun s'=>typeIs_int s' b t) noFill_list_mul F.fills_int_mul F.slot_int_rmul repeat_list F.slot_int_index.lookup
  (call_meets F.slot_int_rmul (typeIs_int s b t) F.entry_int_rmul (F.args_int_rmul_2 _ _) (int___rmul___int_list b t a #[y] n)
    ⟨aD,rfl,⟨_,aD,rfl⟩,call_meets F.slot_list_mul ⟨_,aD,rfl⟩ F.entry_list_mul (F.args_list_mul_2 _ _) (AutoListH.list___mul___list_int_3 a #[y] n b t (by clear p;simp[Builtin.List.listFitsIndex];exact⟨gG (.A (.k 0) .p (.L (.k (-9223372036854775808)) .p)) rfl h.1,gG (.A .p (.k 100000) (.T .p (.k 9223372036854775808))) rfl h.2⟩) (by clear p;simp;exact gG (.A .p (.k 100000) (.L .p (.k 1152921504606846975))) rfl h.2) (by clear p;simp[Builtin.List.listTooLong,sizeLine];exact gG (.A .p (.k 100000) (.L .p (.k 16777216))) rfl h.2)) ⟨aD,?_⟩⟩)
 simp only[List.isEmpty_toArray,List.isEmpty_cons,Bool.false_eq_true,if_false,Oe];simpa using p
theorem vR:mz prog w B k .Mult yI:=by
 intro A s am st Q a b u v _ S;cases a with
 |int i=>cases b with
  |int j=>
   intro aJ av q;refine aj ?_ aJ.int_inv;rintro t rfl;refine aj ?_ av.int_inv;rintro e8 rfl;refine PySem.P.mul_int (jH S .int q.2) (IntMulOk.of_left ?_);have h:=q.1.1;clear q aJ av;exact intBits_le_64 (by lia) (by lia)
  |_=>exact fun Y Y q=>q.elim
 |ref m=>cases b with
  |int j=>exact mul_list S
  |_=>exact fun Y Y q=>q.elim
 |_=>exact fun Y Y q=>q.elim
noncomputable def BX(P:e9)(br:d8):d8:=fun Q loc st=>∃(I:∀Y:Nat,∀Y:Loc,∀Y:St,Prop) (n:Nat),I n loc st∧∀n loc st,∀Y:I n loc st,
 P (fun c aV=>if c=true then br (fun dD fk ao=>match dD with
     |.next|.cont=>∃m,m<n∧I m fk ao
     |.brk=>Q .next fk ao
     |.ret v=>Q (.ret v) fk ao) loc aV
   else Q .next loc aV) loc st
noncomputable abbrev WhileI(prog:Program)(w:World)(B:Heap)(ak:dB)(env:Env)(s:Shared)(am:List Addr)(I:∀Y:Nat,∀Y:Loc,∀Y:St,Prop) (n:Nat) (s':Shared):Prop:=∃aX ao fk,iU (Own env) am s aX s'∧bh prog w B aX s'.heap ao∧d7 B ak env aX s'.heap fk∧I n fk ao
theorem BY{t:Expr}{b:List Stmt}{p:Pos}{P:e9}{br:d8}(h:jG prog w B ak k t P)(bU:kA prog w B ak k b br):gx prog w B ak k (.While t b [] p) (BX P br):=by
 intro A env s am loc st Q aL R S q;refine bZ ?_ q;clear q;intro I n;refine ar ?_;intro aM turn;refine wpAny_While (codeAny_whileLoop (WhileI prog w B ak env s am I) ?_ n (cF am st loc ⟨.refl,S,R,aM⟩));intro n s';refine bG ?_;intro aX ao fk;refine cI ?_;intro e8 dJ kB bE;refine never (rO (h aL kB dJ (turn n fk ao bE)) fun c ba bV aV bj bk bF=>?_);have cC:=e8.trans (bj.lg kB dJ);have gZ:=kB.ext dJ bj.ext;cases c with
 |false=>
  rw[if_neg Bool.false_ne_true]at bF ⊢;exact wpAny_execs_nil (dX bV aV fk .next ⟨cC,bk,gZ,.next,bF⟩)
 |true=>
  rw[if_pos rfl]at bF ⊢;refine never (yF (bU aL gZ bk bF) fun f dw fB cX pC dD eT cw fZ BZ df=>?_);have j4:=cC.trans eT;cases BZ with
  |next=>refine aj ?_ df;clear df;intro m;refine ar ?_;intro hm rY;exact⟨m,hm,fB,cX,pC,j4,cw,fZ,rY⟩
  |cont=>refine aj ?_ df;clear df;intro m;refine ar ?_;intro hm rY;exact⟨m,hm,fB,cX,pC,j4,cw,fZ,rY⟩
  |brk=>exact(dX fB cX pC .next ⟨j4,cw,fZ,.next,df⟩)
  |ret aO=>exact(dX fB cX pC (.ret _) ⟨j4,cw,fZ,.ret aO,df⟩)
theorem yJ{i:Int}(h:-2000000≤i)(h':i≤2000000):Builtin.Range.rangeFitsLong i=true:=by
 show(decide (-(2^63)≤i)&&decide (i<2^63))=true;rw[decide_eq_true (Int.le_trans (by decide) h),decide_eq_true (Int.lt_of_le_of_lt h' (by decide))];rfl
theorem yK{a b:Bool}(h:a=true)(h':b=true):(a&&b)=true:=by rw[h,h'];rfl
theorem Hi{a b:Int}:Builtin.Range.rangeSize a b 1=(((b-a).toNat:Nat):Int):=by
 show(if(1:Int)>0 then(if a<b then(b-a-1) / 1+1 else 0)else(if a>b then(a-b-1) / (-1)+1 else 0))=_;rw[if_pos (by decide),Int.ediv_one];by_cases h:a<b
 ·rw[if_pos h,Int.sub_add_cancel,Int.toNat_of_nonneg (Int.sub_nonneg_of_le (Int.le_of_lt h))]
 ·rw[if_neg h,Int.toNat_of_nonpos (Int.sub_nonpos_of_le (Int.not_lt.mp h))];rfl
theorem Of{a b:Int}(ae:-1000000≤a)(af:a≤1000000)(aH:-1000000≤b)(bX:b≤1000000):Builtin.Range.small a b 1=true:=by
 have e:(if(1:Int)>0 then Builtin.Range.rangeFitsLong (b+(1-1))else Builtin.Range.rangeFitsLong (b+(1+1)))=true:=by
  rw[if_pos (by decide)];exact yJ (by exact gG (.A (.k (-1000000)) .p (.L (.k (-2000000)) (.a .p (.s (.k 1) (.k 1))))) rfl aH) (by exact gG (.A .p (.k 1000000) (.L (.a .p (.s (.k 1) (.k 1))) (.k 2000000))) rfl bX)
 exact yK (yK (yK (yK (yJ (by exact gG (.A (.k (-1000000)) .p (.L (.k (-2000000)) .p)) rfl ae) (by exact gG (.A .p (.k 1000000) (.L .p (.k 2000000))) rfl af)) (yJ (by exact gG (.A (.k (-1000000)) .p (.L (.k (-2000000)) .p)) rfl aH) (by exact gG (.A .p (.k 1000000) (.L .p (.k 2000000))) rfl bX))) rfl) (Hi▸yJ (by exact aI (.L (.k (-2000000)) (.n .p)) rfl) (by exact MM ae bX))) (by rw[e];exact Bool.or_true _)
noncomputable def jv:∀Y:ah,∀Y:St,Option (List ah)
 |.tup xs,_=>some xs
 |.range a b,_=>if-1000000≤a∧a≤1000000∧-1000000≤b∧b≤1000000 then some ((List.range (b-a).toNat).map fun i=>.int (a+(i:Nat)))else none
 |x,st=>listAt x st
noncomputable def iI(am:List Addr)(h:Heap)(I:Addr):∀Y:ah,∀Y:Nat,Prop
 |.tup xs,i=>∃a items n,h.IsTupleIter I a i∧IsT h a items n∧bT am h xs items.toList
 |.ref n,i=>∃a,am[n]?=some a∧h.IsListIter I a i
 |.range a b,i=>IsRangeIter h I (a+(i:Nat)) ((((b-a).toNat:Nat):Int)-(i:Nat)) 1
 |_,_=>False
theorem iI.at_{am aX:List Addr}{h h':Heap}{I:Addr}{x:ah}{i:Nat}(p:am <+: aX)(du:fR h h')(e:∀o,∀Y:h.get? I=some o,h'.get? I=some o) (y:iI am h I x i):iI aX h' I x i:=by
 cases x with
 |tup xs=>
  refine bG ?_ y;clear y;intro a items n;refine aY ?_;refine aj ?_;intro o;refine ar ?_;intro bx r;intro bf aC;exact cF a items n ⟨⟨o,e o bx,r⟩,du _ _ (.inl ⟨rfl,_,_,rfl⟩) bf,aC.mono p du⟩
 |ref n=>
  obtain⟨a,az,o,bx,r⟩:=y;exact⟨a,o7 p az,o,e o bx,r⟩
 |range a b=>exact e _ y
 |_=>exact y
theorem tN{o:Obj}(h:o.cls=.type "tuple_iterator"∨o.cls=.type "list_iterator"∨o.cls=.type "range_iterator"):¬Kept o:=by
 rcases h with h|h|h<;>exact tB h (by decide) (by decide) (by decide)
theorem Og{h:Heap}{I:Addr}{a c:Int}(y:IsRangeIter h I a c 1):IsRangeIter h I (a+((0:Nat):Int)) (c-((0:Nat):Int)) 1:=by simpa using y
theorem Oh{h:Heap}{I:Addr}{a c:Int}{i:Nat}(y:IsRangeIter h I (a+(i:Int)+1) (c-(i:Int)-1) 1):IsRangeIter h I (a+((i+1:Nat):Int)) (c-((i+1:Nat):Int)) 1:=by
 rw[Int.natCast_succ,←Int.add_assoc,←Int.sub_sub];exact y
section
variable{A:Around}{s:Shared}{am:List Addr}{st:St}{x:ah}{xs:List ah}
theorem B0{v:Value}{F:∀Y:Value,∀Y:Shared,Prop} (S:bh prog w B am s.heap st) (aO:bc am s.heap x v) (e:jv x st=some xs)
 (h:∀I h' tk,∀Y:(∀b cg,∀Y:s.heap.get? b=some cg,h'.get? b=some cg),∀Y:s.heap.get? I=none,∀Y:(∃o,h'.get? I=some o∧¬Kept o),∀Y:iI am h' I x 0,F (.ref I) {s with heap:=h',toks:=tk}):
 wpAny (model prog w) A (pyIter v) F bo s:=by
 have g:∀o:Obj,∀Y:o.isFreed=false,∀Y:¬Kept o,∀Y:iI am (s.heap.push o) s.heap.objs.size x 0,F (.ref s.heap.objs.size) {s with heap:=s.heap.push o}:=
  fun o bq aK hi=>h _ _ s.toks (fun Y Y e=>Heap.get?_push_of_some _ e) (lS _) ⟨o,Heap.get?_push_size _ bq,aK⟩ hi
 clear h;cases x with
 |tup ys=>
  refine bG ?_ aO.m8;intro a items n;refine aY ?_;rintro rfl bf aC;exact wpAny_pyIter_tuple ⟨_,bf,rfl,_,rfl⟩ (g _ rfl (tN (.inl rfl)) (cF a items n ⟨⟨_,Heap.get?_push_size _ rfl,rfl,rfl⟩,bf.push _,aC.mono (List.prefix_refl _) (BG _)⟩))
 |range a b=>
  refine dF ?_ aO.Nq;intro c t u y;refine ar ?_;rintro rfl aC;have av:-1000000≤a∧a≤1000000∧-1000000≤b∧b≤1000000:=Classical.byContradiction fun az=>gh ((if_neg az).symm.trans e);refine wpAny_pyIter_range aC (Of av.1 av.2.1 av.2.2.1 av.2.2.2) (g _ rfl (tN (.inr (.inr rfl))) (Og ?_));rw[←Hi];exact Heap.get?_push_size _ rfl
 |ref n=>
  refine dF ?_ (S.listAt aO e);intro _ a vs m;refine dH ?_;rintro ae rfl hm _ aD aC;cases ae
  exact wpAny_pyIter_list aD.isList (g _ rfl (tN (.inr (.inl rfl))) ⟨a,hm,_,Heap.get?_push_size _ rfl,rfl,rfl⟩)
 |_=>exact gh e
noncomputable def yL(am:List Addr)(s:Shared)(x:ah)(xs:List ah)(I:Addr)(i:Nat)(F:∀Y:Option Value,∀Y:Shared,Prop):Prop:=
 (∀y v h' tk,∀Y:xs[i]?=some y,∀Y:(∀b o,∀Y:b≠I,∀Y:s.heap.get? b=some o,h'.get? b=some o),∀Y:(∃o,h'.get? I=some o∧¬Kept o),∀Y:bc am s.heap y v,∀Y:iI am h' I x (i+1),F (some v) {s with heap:=h',toks:=tk})∧
 (∀h' tk,∀Y:xs.length≤i,∀Y:(∀b o,∀Y:b≠I,∀Y:s.heap.get? b=some o,h'.get? b=some o),F none {s with heap:=h',toks:=tk})
variable{I:Addr}{i:Nat}{F:∀Y:Option Value,∀Y:Shared,Prop} (aL:A.handled=none)
include aL
theorem Oi(bE:iI am s.heap I (.tup xs) i)(ll:∃o,s.heap.get? I=some o∧¬Kept o) (h:yL am s (.tup xs) xs I i F):wpAny (model prog w) A (pyNext (.ref I)) F bo s:=by
 refine bG ?_ bE;clear bE;intro a items n;refine aY ?_;intro cG bf aC;cases ai:items[i]? with
 |none=>exact wpAny_pyNext_tuple_end aL cG ⟨_,bf,rfl,_,rfl⟩ ai fun h' pD=>h.2 h' s.toks (qq aC▸Array.getElem?_eq_none_iff.mp ai) pD
 |some v=>
  refine aj ?_ (GG aC.pr ((Array.getElem?_toList ..).trans ai));intro y;refine ar ?_;intro au aO;refine wpAny_pyNext_tuple_item cG ⟨_,bf,rfl,_,rfl⟩ ai fun h' jM eg=>?_;have hs:=fun b o av e=>eg.extBut b o av e
  have du:fR s.heap h':=fun b o bx e=>hs b o (fun q=>by
   refine aj ?_ ll;clear ll;intro cg;refine ar ?_;intro cA aK;rw[q,cA]at e;cases e;exact aK bx) e
  refine aj ?_ jM;clear jM;intro o;refine aY ?_;intro bx aG hd;exact h.1 y v h' s.toks au hs ⟨o,bx,tN (.inl aG)⟩ aO (cF a items n ⟨⟨o,bx,aG,hd⟩,du _ _ (.inl ⟨rfl,_,_,rfl⟩) bf,aC.mono (List.prefix_refl _) du⟩)
theorem Oj{n:Nat}(S:bh prog w B am s.heap st)(bE:iI am s.heap I (.ref n) i)(e:listAt (.ref n) st=some xs)(h:yL am s (.ref n) xs I i F):wpAny (model prog w) A (pyNext (.ref I)) F bo s:=by
 refine aj ?_ bE;clear bE;intro a;refine ar ?_;intro az cG;refine dF ?_ (S.listAt (.ref az) e);intro _ lU vs m;refine dH ?_;intro ae af hm _ aD aC;cases ae;cases af
 cases ai:vs[i]? with
 |none=>exact wpAny_pyNext_list_end aL cG aD.isList (List.getElem?_toArray.trans ai) fun h' pD=>h.2 h' s.toks (aC.length▸List.getElem?_eq_none_iff.mp ai) pD
 |some v=>
  refine aj ?_ (GG aC.pr ai);intro y;refine ar ?_;intro au aO;refine wpAny_pyNext_list_item cG aD.isList (List.getElem?_toArray.trans ai) fun h' jM eg=>?_;refine aj ?_ jM;clear jM;intro o;refine aY ?_;intro bx aG hd;exact h.1 y v h' s.toks au (fun b o av e=>eg.extBut b o av e) ⟨o,bx,tN (.inr (.inl aG))⟩ aO ⟨a,az,o,bx,aG,hd⟩
theorem Ol{a b:Int}(bE:iI am s.heap I (.range a b) i)(h:yL am s (.range a b) ((List.range (b-a).toNat).map fun i=>.int (a+(i:Nat))) I i F):wpAny (model prog w) A (pyNext (.ref I)) F bo s:=by
 by_cases bC:i<(b-a).toNat
 ·refine wpAny_pyNext_range_item bE (Int.sub_pos.mpr (Int.ofNat_lt.mpr bC)) fun h' jM eg=>?_;refine h.1 (.int (a+(i:Nat))) _ h' _ (by rw[List.getElem?_map,List.getElem?_range bC];rfl) (fun b o av e=>eg.extBut b o av e) ⟨_,jM,tN (.inr (.inr rfl))⟩ .int (Oh jM)
 ·have hle:=Nat.le_of_not_lt bC;exact wpAny_pyNext_range_end aL bE (Int.sub_nonpos_of_le (Int.ofNat_le.mpr hle)) fun h' pD=>h.2 h' _ (by rw[List.length_map,List.length_range];exact hle) pD
theorem yM(S:bh prog w B am s.heap st)(bE:iI am s.heap I x i)(ll:∃o,s.heap.get? I=some o∧¬Kept o) (e:jv x st=some xs) (h:yL am s x xs I i F):wpAny (model prog w) A (pyNext (.ref I)) F bo s:=by
 cases x with
 |tup ys=>cases e;exact Oi aL bE ll h
 |ref n=>exact Oj aL S bE e h
 |range a b=>
  by_cases av:-1000000≤a∧a≤1000000∧-1000000≤b∧b≤1000000
  ·cases(if_pos av).symm.trans e;exact Ol aL bE h
  ·exact gh ((if_neg av).symm.trans e)
 |_=>exact bE.elim
end
theorem iU.gI{env:Env}{am aX:List Addr}{s s':Shared}{loc:Loc}{st:St}(R:d7 B ak env am s.heap loc)(S:bh prog w B am s.heap st)(x:iU (Own env) am s aX s'):fR s.heap s'.heap:=fun b o bx e=>by
 refine x.xs.keep b o (fun hm=>?_) (fun hm=>?_) e
 ·refine aj ?_ (S.there hm);intro bO;refine ar ?_;intro cA az;rw[e]at cA;cases cA;exact az bx
 ·refine ar ?_ (R.own b hm);refine aj ?_;intro bO;refine ar ?_;intro cA az;intro _;rw[e]at cA;cases cA;exact az bx
theorem d7.at_{env:Env}{am:List Addr}{h h':Heap}{loc:Loc}(R:d7 B ak env am h loc)(k:∀a∈Own env,∀o,∀Y:h.get? a=some o,h'.get? a=some o) (du:fR h h'):d7 B ak env am h' loc:=by
 refine⟨R.iG,R.lP,R.n3,R.o8,R.ym,R.inj,?_,fun a aJ=>?_,R.apart,R.locals,fun y i au=>?_⟩
 ·refine aj ?_ R.ns;intro m n;exact⟨m,n.at' (k _ (by simp[Own]))⟩
 ·refine aY ?_ (R.own a aJ);refine aj ?_;intro o;refine ar ?_;intro e aK;intro af aH;exact⟨⟨o,k a aJ o e,aK⟩,af,aH⟩
 ·refine aj ?_ (R.var y i au);intro v;refine ar ?_;intro aO aD;refine⟨v,aO.at_ k,fun pv e=>?_⟩;refine aj ?_ (aD pv e);intro u;refine ar ?_;intro q r;exact⟨u,q,r.mono (List.prefix_refl _) du⟩
theorem iU.gY{O am aX:List Addr}{s s':Shared}{I:Addr}{h':Heap}{tk:Nat}(x:iU O am s aX s')(bE:s.heap.get? I=none)(Om:I∉O)(k:∀b o,∀Y:b≠I,∀Y:s'.heap.get? b=some o,h'.get? b=some o):iU O am s aX {s' with heap:=h',toks:=tk}:=by
 obtain⟨⟨h,t,d,rfl⟩,a,c⟩:=x;refine⟨(cF _ _ _ rfl),⟨a.pre,fun b o ae af e=>k b o (fun q=>by rw[q,bE]at e;cases e) (a.keep b o ae af e),a.fresh⟩,fun b av bR=>?_⟩;refine aj ?_ (c b av bR);intro o e;exact⟨o,k b o (fun q=>Om (q▸av)) e⟩
noncomputable abbrev Oo(prog:Program)(w:World)(B:Heap)(ak:dB)(env:Env)(ba:Shared)(bV:List Addr)(bQ:Addr)(pv:ah)(xs:List ah)(I:∀Y:Nat,∀Y:Loc,∀Y:St,Prop) (n:Nat) (s':Shared):Prop:=
 ∃aX ao fk i,iU (Own env) bV ba aX s'∧bh prog w B aX s'.heap ao∧d7 B ak env aX s'.heap fk∧iI aX s'.heap bQ pv i∧bQ∉aX∧(∃o,s'.heap.get? bQ=some o∧¬Kept o)∧I i fk ao∧n=xs.length-i
noncomputable def Hj(P:b6)(i:Nat)(br:d8):d8:=fun Q loc st=>P (fun v aV=>∃(xs:List ah)(I:∀Y:Nat,∀Y:Loc,∀Y:St,Prop),I 0 loc aV∧∀n fk ao,∀Y:I n fk ao,jv v ao=some xs∧
 match xs[n]? with
 |some y=>br (fun dD pC cX=>match dD with
   |.next|.cont=>I (n+1) pC cX
   |.brk=>Q .next pC cX
   |.ret u=>Q (.ret u) pC cX) (setV fk i y) ao
 |none=>Q .next fk ao) loc st
theorem j5{x:Str}{fb p:Pos}{it:Expr}{b:List Stmt}{i:Nat}{P:b6}{br:d8}(h:b3 prog w B ak k it P)(bU:kA prog w B ak k b br)(ai:autoParam (ak.vars.lookup x=some i) jY._auto_1)(nj:autoParam (ak.kinds.lookup x≠some .free) jE._auto_1)
 (hs:autoParam (∀(env:Env) x,foldedSetIterable it env x=pure x) qf._auto_1):gx prog w B ak k (.For (.Name x fb) it b [] p) (Hj P i br):=by
 intro A env s am loc st Q aL R S q;refine wpAny_For (dZ (h aL R S q) fun v ba bV aV pv bj bk cN bF=>?_) (hs env);refine bZ ?_ bF;clear bF;intro xs I;refine ar ?_;intro aM turn;have gZ:=R.ext S bj.ext;refine never (B0 bk cN (turn 0 _ _ aM).1 fun bQ h' tk aK nk rZ cG=>?_);have mE:bQ∉Own env:=fun hm=>by refine ar ?_ (gZ.own bQ hm);refine aj ?_;intro o;refine ar ?_;intro e _;intro _;rw[nk]at e;cases e
 have r3:B.get? bQ=none:=by
  cases e:B.get? bQ with
  |none=>rfl
  |some o=>have:=bk.base bQ o e;rw[nk]at this;cases this
 have yN:bQ∉bV:=fun hm=>by refine aj ?_ (bk.there hm);intro o;refine ar ?_;intro e _;rw[nk]at e;cases e
 refine codeAny_forLoop (Oo prog w B ak env ba bV bQ pv xs I) ?_ _
  (dX bV aV loc 0 ⟨(iU.refl.gY nk mE fun b o Y e=>aK b o e),bk.keeps aK,gZ.at_ (fun a Y o e=>aK a o e) (fun b o Y e=>aK b o e),cG,yN,rZ,aM,rfl⟩) (by intro _;rfl)
 intro n s';refine dF ?_;intro aX ao fk j;refine Bj ?_;rintro e8 dJ kB jM qA qB rY rfl;refine ar ?_ (turn _ _ _ rY);intro fc pE;refine never (yM aL.1 dJ jM qB fc ⟨fun y v cZ qC au iJ qD aO yO=>?_,fun cZ qC hle iJ=>?_⟩)
 ·rw[au]at pE;refine ar ?_ (dJ.gY iJ ⟨qB,qA,r3⟩);intro cw lW;have fZ:d7 B ak env aX cZ fk:=kB.at_ (fun a aJ o e=>iJ a o (fun q=>mE (q▸aJ)) e) lW;have cC:=e8.gY (tk:=qC) nk mE iJ;refine wpAny_assign_Name (never (rW (s:={s' with heap:=cZ,toks:=qC}) fZ cw ai nj (aO.mono (List.prefix_refl _) lW) fun eP eT fU lX=>?_));refine never (yF (bU aL lX fU pE) fun f pF pG kC yP dD j4 lY qE Oq nq=>?_);have n8:=eT.trans j4
  have vS:pF.heap.get? bQ=cZ.get? bQ:=by
   refine aj ?_ qD;clear qD;intro o;refine ar ?_;intro e _;rw[e];exact n8.xs.keep bQ o qA mE e
  have Hk:bQ∉pG:=fun hm=>by
   refine aj ?_ qD;clear qD;intro o;refine ar ?_;intro e _;have:=n8.xs.fresh bQ hm qA;rw[show(_:Shared).heap.get? bQ=some o from e]at this;cases this
  have Hl:iI pG pF.heap bQ pv (j+1):=yO.at_ n8.xs.pre (n8.gI fZ cw) fun o e=>by rw[vS];exact e
  have vU:∃o,pF.heap.get? bQ=some o∧¬Kept o:=by rw[vS];exact qD
  have bC:j<xs.length:=(List.getElem?_eq_some_iff.mp au).1;have vV:=(bj.lg R S).trans (cC.trans n8);cases Oq with
  |next=>exact⟨_,Nat.sub_lt_sub_left bC (Nat.lt_succ_self j),pG,kC,yP,j+1,cC.trans n8,lY,qE,Hl,Hk,vU,nq,rfl⟩
  |cont=>exact⟨_,Nat.sub_lt_sub_left bC (Nat.lt_succ_self j),pG,kC,yP,j+1,cC.trans n8,lY,qE,Hl,Hk,vU,nq,rfl⟩
  |brk=>exact(dX pG kC yP .next ⟨vV,lY,qE,.next,nq⟩)
  |ret aO=>exact(dX pG kC yP (.ret _) ⟨vV,lY,qE,.ret aO,nq⟩)
 ·rw[List.getElem?_eq_none_iff.mpr hle]at pE;refine ar ?_ (dJ.gY iJ ⟨qB,qA,r3⟩);intro cw lW;have fZ:d7 B ak env aX cZ fk:=kB.at_ (fun a aJ o e=>iJ a o (fun q=>mE (q▸aJ)) e) lW;have cC:=e8.gY (tk:=qC) nk mE iJ;exact wpAny_execs_nil (dX aX ao fk .next ⟨(bj.lg R S).trans cC,cw,fZ,.next,pE⟩)
end Mine
end
section
namespace Mine
variable{prog:Program}{w:World}{B:Heap}{ak:dB}{k:Nat}
theorem yQ{s:Shared}{am:List Addr}{st:St}{Q:∀Y:ah,∀Y:St,Prop} {n:Nat} {a:Addr} {o:bB} {h':Heap} {pv:ah} {v:Value} {tk:Nat} (S:bh prog w B am s.heap st) (aJ:am[n]?=some a)
 (hs:∀b o,∀Y:b≠a,∀Y:s.heap.get? b=some o,h'.get? b=some o) (bx:∀Y:fR s.heap h',j1 prog w am h' a o) (aO:bc am s.heap pv v) (q:Q pv (st.set n o)):dC prog w B am s Q v {s with heap:=h',toks:=tk}:=by
 refine ar ?_ (S.set aJ hs bx);intro dJ x;exact(cF am _ pv ⟨.heap x,dJ,aO.mono (List.prefix_refl _) (S.gI x),q⟩)
theorem vW{am:List Addr}{h:Heap}{a:Addr}{vs vs':List Value}{n:Nat}{yR:List ah}{f:∀Y:Array Value,Array Value} (aD:IsL h a vs.toArray n) (e:f vs.toArray=vs'.toArray) (aC:bT am h yR vs'):
 ∀Y:fR h (h.update a (Obj.mapSeq f)),j1 prog w am (h.update a (Obj.mapSeq f)) a (.list yR):=fun du=>by
 have:=aD.update f;rw[e]at this;exact⟨vs',⟨_,this⟩,aC.mono (List.prefix_refl _) du⟩
theorem vX{h:Heap}{a:Addr}{f:∀Y:Obj,Obj}:∀b o,∀Y:b≠a,∀Y:h.get? b=some o,(h.update a f).get? b=some o:=fun b o av e=>(Heap.get?_update_other h f (Ne.symm av)).trans e
noncomputable def B3(x:ah)(F:Nat→List ah→Prop)(st:St):Prop:=match x with
 |.ref n=>fY (listAt (.ref n) st) (F n)
 |_=>False
theorem Hm{x:ah}{F:∀Y:Nat,∀Y:List ah,Prop} {st:St} (h:B3 x F st):∃n xs,x=.ref n∧listAt (.ref n) st=some xs∧F n xs:=by
 cases x with
 |ref n=>
  refine aj ?_ (gH h);intro xs;refine ar ?_;intro e h;exact cE n xs ⟨rfl,e,h⟩
 |_=>exact h.elim
theorem bh.tO{am:List Addr}{h:Heap}{st:St}{n:Nat}{v:Value}{xs:List ah}(S:bh prog w B am h st)(ai:bc am h (.ref n) v)(e:Mine.listAt (.ref n) st=some xs):∃a vs m,v=.ref a∧am[n]?=some a∧IsL h a (List.toArray vs) m∧bT am h xs vs:=by
 refine dF ?_ (S.listAt ai e);intro _ a vs m;refine dH ?_;rintro ae rfl hm _ aD aC;cases ae
 exact cF a vs m ⟨rfl,hm,aD,aC⟩
noncomputable def pH(x v:ah)(Q:∀Y:ah,∀Y:St,Prop) (st:St):Prop:=B3 x (fun n xs=>xs.length≤1000000∧Q .none (st.set n (.list (xs++[v])))) st
theorem Ot{am:List Addr}{s:Shared}{v:Value}{st:St}{pv:ah}(S:bh prog w B am s.heap st)(aO:bc am s.heap pv v)(h:(listAt pv st).isSome=true):
 ∃a items n,v=.ref a∧IsL s.heap a items n:=by
 refine aj ?_ (Option.isSome_iff_exists.mp h);intro xs e;refine dF ?_ (S.listAt aO e);intro _ a vs m;refine dH ?_;intro _ af _ _ aD _;exact(cF a _ m ⟨af,aD⟩)
noncomputable def appP(br bK:b6):b6:=fun Q loc st=>br (fun a aV=>(listAt a aV).isSome=true∧bK (fun v cX=>pH a v Q cX) loc aV) loc st
theorem jw{o e:Expr}{apos pos:Pos}{br bK:b6}(bU:b3 prog w B ak k o br)(cZ:b3 prog w B ak k e bK)
 (vY:autoParam (∀env,attributeBase o "append" env (eval o env)=eval o env) my._auto_1) (he:autoParam (∀env,starEach [e] env=[(false,eval e env)]) my._auto_1) (vZ:autoParam ((apos.endLine==pos.line)=true) jE._auto_1):
 b3 prog w B ak k (.Call (.Attribute o "append" apos) [e] [] pos) (appP br bK):=by
 intro A env s am loc st Q aL R S h;refine wpAny_Call_method (vY env) (by rw[he];rfl) vZ PySem.F.plainAttrs_list PySem.F.slot_list_append (by rfl) (dZ (bU aL R S h) fun u ba bV aV a bj bk cN bF=>?_);refine bG ?_ (Ot bk cN bF.1);intro lU items n;refine ar ?_;rintro rfl aD;refine⟨⟨_,aD,rfl⟩,fun b e=>by cases e;exact⟨_,aD,rfl⟩,?_⟩;rw[he];refine P.append_list (dZ (cZ aL (R.ext S bj.ext) bk bF.2) fun v dw fB cX b cC cw fT df=>?_);refine bZ ?_ (Hm df);intro m xs;refine cI ?_;rintro rfl e av q;refine bG ?_ (cw.tO (cN.j3 bk cC) e);intro _ vs ni;refine cI ?_;intro bR n9 r4 aC;cases bR
 exact cE _ _ ⟨by rw[List.size_toArray,←aC.length];exact Nat.le_trans av (by decide),r4,dC.over (bj.trans cC) (yQ (tk:=dw.toks) (pv:=.none) (v:=.none) cw n9 vX (vW (f:=fun xs=>xs.push v) r4 (vs':=vs++[v]) (List.push_toArray ..) (aC.append (.cons fT .nil))) .none q)⟩
noncomputable def Hn(x:ah)(Q:∀Y:ah,∀Y:St,Prop) (st:St):Prop:=B3 x (fun n xs=>xs.length≤1000000∧∃y,xs.getLast?=some y∧Q y (st.set n (.list xs.dropLast))) st
theorem Ou{vs:List Value}:vs.toArray.eraseIdxIfInBounds (vs.toArray.size-1)=vs.dropLast.toArray:=by
 cases vs with
 |nil=>rfl
 |cons a r=>
  have bX:(a::r).eraseIdx r.length=(a::r).dropLast:=by
   have h:List.drop (r.length+1) (a::r)=[]:=List.drop_eq_nil_of_le (Nat.le_refl _);rw[List.eraseIdx_eq_take_drop_succ,h,List.dropLast_eq_take,List.append_nil];rfl
  simp[Array.eraseIdxIfInBounds,bX]
theorem Ho{o:Expr}{apos pos:Pos}{br:b6}(bU:b3 prog w B ak k o br)
 (vY:autoParam (∀env,attributeBase o "pop" env (eval o env)=eval o env) my._auto_1) (vZ:autoParam ((apos.endLine==pos.line)=true) jE._auto_1):
 b3 prog w B ak k (.Call (.Attribute o "pop" apos) [] [] pos) fun Q loc st=>br (fun a aV=>Hn a Q aV) loc st:=by
 intro A env s am loc st Q aL R S h;refine wpAny_Call_method (vY env) (by rfl) vZ PySem.F.plainAttrs_list PySem.F.slot_list_pop (by rfl) (dZ (bU aL R S h) fun u ba bV aV a bj bk cN bF=>?_);obtain⟨m,xs,rfl,e,hlen,y,au,q⟩:=Hm bF;refine bG ?_ (bk.tO cN e);intro lU vs ni;refine cI ?_;rintro rfl n9 r4 aC;refine aj ?_ (aC.get (List.getLast?_eq_getElem?.symm.trans au));intro z;refine ar ?_;intro aU aO;rw[aC.length]at aU;have j6:bT bV ba.heap xs.dropLast vs.dropLast:=by rw[List.dropLast_eq_take,List.dropLast_eq_take,aC.length];exact aC.take _
 exact⟨⟨_,r4,rfl⟩,fun b e=>by cases e;exact⟨_,r4,rfl⟩,P.pop_list (y:=z) r4 (by rw[List.size_toArray];exact List.getElem?_toArray.trans aU) (dC.over bj (yQ (tk:=ba.toks) (pv:=y) (v:=z) bk n9 vX (vW (vs':=vs.dropLast) r4 Ou j6) aO q)) (by rw[List.size_toArray,←aC.length];exact Nat.le_trans hlen (by decide))⟩
end Mine
end
section
namespace Mine
variable{prog:Program}{w:World}{B:Heap}{ak:dB}{k:Nat}
noncomputable def je(i:Int)(v:ah):∀Y:List (Int×ah),List (Int×ah)
 |[]=>[(i,v)]
 |(j,u)::r=>if j=i then(j,v)::r else(j,u)::je i v r
noncomputable def Ov:∀Y:bB,Option (List (List Int×ah))
 |.j0 kvs=>some kvs
 |_=>none
noncomputable def tabAt(x:ah)(st:St):Option (List (List Int×ah)):=(tF x st).bind Ov
theorem Hp{x:ah}{st:St}{kvs:List (List Int×ah)}(h:tabAt x st=some kvs):∃n,x=.ref n∧st[n]?=some (.j0 kvs):=by
 refine aj ?_ (Option.bind_eq_some_iff.mp h);intro o;refine ar ?_;intro e h;refine aj ?_ (vI e);intro n;refine ar ?_;rintro rfl g;cases o with
 |j0 _=>exact⟨n,rfl,(Option.some.inj h)▸g⟩
 |_=>exact gh h
noncomputable def j7(i:List Int):∀Y:List (List Int×ah),Option ah
 |[]=>none
 |(j,v)::r=>if j=i then some v else j7 i r
noncomputable abbrev v3(am:List Addr)(h:Heap)(x:List Int×ah)(y:List Int×Addr×Value):Prop:=x.1=y.1∧bc am h x.2 y.2.2
theorem bh.tabAt{am:List Addr}{h:Heap}{st:St}{x:ah}{v:Value}{kvs:List (List Int×ah)}(S:bh prog w B am h st)(ai:bc am h x v)(e:tabAt x st=some kvs):
 ∃n a aB,x=.ref n∧v=.ref a∧am[n]?=some a∧st[n]?=some (.j0 kvs)∧h.DictOfH (tupleKind (intKind prog w)) a aB∧Paired (v3 am h) kvs aB:=by
 refine aj ?_ (Hp e);intro n;refine ar ?_;rintro rfl g;refine aj ?_ ai.qp;intro a;refine ar ?_;rintro rfl az;refine aj ?_ (S.obj n a _ az g);intro aB;refine ar ?_;intro hd aC;exact(cF n a aB ⟨rfl,rfl,az,g,hd,aC⟩)
theorem bh.Hq{am:List Addr}{h:Heap}{st:St}{n:Nat}{a:Addr}{kvs:List (List Int×ah)}(S:bh prog w B am h st)(az:am[n]?=some a)(e:Mine.tabAt (.ref n) st=some kvs):∃aB,h.DictOfH (tupleKind (intKind prog w)) a aB∧Paired (v3 am h) kvs aB:=by
 refine aj ?_ (Hp e);intro m;refine ar ?_;intro ae g;cases ae
 exact S.obj n a _ az g
theorem Ow{am:List Addr}{h:Heap}(i:List Int){kvs:List (List Int×ah)}{aB:List (List Int×Addr×Value)}(p:Paired (v3 am h) kvs aB):
 (j7 i kvs=none∧atKey aB i=none)∨∃x v,j7 i kvs=some x∧atKey aB i=some v∧bc am h x v.2:=by
 induction p with
 |nil=>exact .inl ⟨rfl,rfl⟩
 |@cons a b r c5 q _ ih=>
  by_cases aP:a.1=i
  ·exact .inr (cE a.2 b.2 ⟨if_pos aP,by simp[atKey,←q.1,aP],q.2⟩)
  ·have aS:j7 i (a::r)=j7 i r:=if_neg aP;have aW:atKey (b::c5) i=atKey c5 i:=by simp[atKey,←q.1,aP]
   rw[aS,aW];exact ih
theorem Hr{am:List Addr}{h:Heap}{xs:List ah}{a:Addr}{items:Array Value}{n:Nat}{ns:List Int}(bf:IsT h a items n)(aC:bT am h xs items.toList)(e:intsOf xs=some ns):(tupleKind (intKind prog w)).is h ns a:=by
 refine(cF _ items n ⟨bf,rfl,rfl,?_⟩);have ai:=yC e;subst ai;clear e bf;generalize items.toList=vs at aC
 induction ns generalizing vs with
 |nil=>cases aC;exact .nil
 |cons m r ih=>cases aC with
  |cons a b=>cases a;exact .cons (by simp[intKind,Value.isInt]) (ih _ b)
noncomputable def Hs:∀Y:ah,∀Y:List ah,∀Y:(∀Y:ah,∀Y:St,Prop),∀Y:St,Prop
 |.ref n,[.tup xs,d],Q,st=>rL (tabAt (.ref n) st) (intsOf xs) fun kvs ns=>Q ((j7 ns kvs).getD d) st
 |_,_,_,_=>False
theorem Ox{x y z:ah}{Q:∀Y:ah,∀Y:St,Prop} {st:St} (h:Hs x [y,z] Q st):∃xs kvs ns,y=.tup xs∧tabAt x st=some kvs∧intsOf xs=some ns∧Q ((j7 ns kvs).getD z) st:=by
 cases x with
 |ref n=>cases y with
  |tup xs=>
   refine bZ ?_ (tu h);intro kvs ns;refine aY ?_;intro e cA h;exact cF xs kvs ns ⟨rfl,e,cA,h⟩
  |_=>exact h.elim
 |_=>exact h.elim
theorem Oz{o e d:Expr}{apos pos:Pos}{br bK r5:b6}(hs:∃o,B.get? sysModules=some o) (bU:b3 prog w B ak k o br) (cZ:b3 prog w B ak k e bK) (B4:b3 prog w B ak k d r5)
 (vY:autoParam (∀env,attributeBase o "get" env (eval o env)=eval o env) my._auto_1) (he:autoParam (∀env,starEach [e,d] env=[(false,eval e env),(false,eval d env)]) my._auto_1) (vZ:autoParam ((apos.endLine==pos.line)=true) jE._auto_1):
 b3 prog w B ak k (.Call (.Attribute o "get" apos) [e,d] [] pos) fun Q loc st=>br (fun a aV=>(tabAt a aV).isSome=true∧bK (fun v cX=>r5 (fun u jI=>Hs a [v,u] Q jI) loc cX) loc aV) loc st:=by
 intro A env s am loc st Q aL R S h;refine wpAny_Call_method (vY env) (by rw[he];rfl) vZ PySem.F.plainAttrs_dict PySem.F.slot_dict_get (by rfl) (dZ (bU aL R S h) fun u ba bV aV a bj bk cN bF=>?_);refine aj ?_ (Option.isSome_iff_exists.mp bF.1);intro kvs iG;refine bG ?_ (bk.tabAt cN iG);intro n lU aB;refine dH ?_;rintro rfl rfl hm _ hd aQ
 refine⟨hd.typeIs,fun b e=>by
  cases e
  refine bG ?_ hd;clear hd;intro o a9 ep;refine aY ?_;intro e aG _;exact⟨_,e,aG.2.1⟩,?_⟩
 rw[he];refine wpAny_dict_get2_heap (knd:=tupleKind (intKind prog w)) (tupleKind_room_in1 (by have:=aL.2.2;exact aA (.b (.a (.a .p (.m 20 .r)) (.k 100)) .q (.t (.b .p) .q)) rfl this)) (yx bk hs (List.mem_of_getElem? hm)) (dZ (cZ aL (R.ext S bj.ext) bk bF.2) fun v dw fB cX b cC cw fT df=>?_);refine dZ (B4 aL ((R.ext S bj.ext).ext bk cC.ext) cw df) fun u eP BD jI c eT fU vF rP=>?_;refine bG ?_ (Ox rP);intro xs XE ns;refine cI ?_;rintro rfl aS aW q;refine bG ?_ ((fT.j3 cw eT).m8);intro r6 items yS;refine aY ?_;rintro rfl bf aC;refine aj ?_ (fU.Hq (o7 (cC.trans eT).ext.pre hm) aS);intro r7;refine ar ?_;intro lq iK;refine(cF r6 ns r7 ⟨rfl,Hr bf aC aW,lq,?_⟩);rcases Ow ns iK with⟨ae,af⟩|⟨x,z,ae,af,aH⟩
 ·rw[ae]at q;rw[af];exact dC.over ((bj.trans cC).trans eT) (jH fU vF q)
 ·rw[ae]at q;rw[af];exact dC.over ((bj.trans cC).trans eT) (jH fU aH q)
noncomputable def kD(i:List Int)(v:ah):∀Y:List (List Int×ah),List (List Int×ah)
 |[]=>[(i,v)]
 |(j,u)::r=>if j=i then(j,v)::r else(j,u)::kD i v r
noncomputable def tP:∀Y:ah,∀Y:ah,∀Y:ah,∀Y:(∀Y:St,Prop),∀Y:St,Prop
 |.ref n,.int i,v,Q,st=>(listAt (.ref n) st).elim (fY (dictAt (.ref n) st) fun kvs=>kvs.length≤1000000∧Q (st.set n (.ed (je i v kvs)))) fun xs=>(0≤i∧i<xs.length∧xs.length≤1000000)∧Q (st.set n (.list (xs.set i.toNat v)))
 |.ref n,.tup xs,v,Q,st=>rL (tabAt (.ref n) st) (intsOf xs) fun kvs ns=>kvs.length≤1000000∧Q (st.set n (.j0 (kD ns v kvs)))
 |_,_,_,_,_=>False
theorem B5{n:Nat}{i:Int}{v:ah}{Q:∀Y:St,Prop} {st:St}:tP (.ref n) (.int i) v Q st=(listAt (.ref n) st).elim (fY (dictAt (.ref n) st) fun kvs=>kvs.length≤1000000∧Q (st.set n (.ed (je i v kvs)))) fun xs=>(0≤i∧i<xs.length∧xs.length≤1000000)∧Q (st.set n (.list (xs.set i.toNat v))):=rfl
theorem OA{b:Int×Value}{r:List (Int×Value)}{v:Value}(d4:b.1∉r.map (·.1)):stored (b::r) b.1 v=(b.1,v)::r:=by
 have aW:r.map (fun pI=>if pI.1=b.1 then(pI.1,v)else pI)=r:=by
  have:∀z∈r,(if z.1=b.1 then(z.1,v)else z)=z:=fun z aU=>if_neg fun q=>d4 (List.mem_map.mpr ⟨z,aU,q⟩);exact(List.map_congr_left this).trans (List.map_id _)
 simp only[stored,if_true,List.any_cons,decide_true,Bool.true_or,List.map_cons,aW]
theorem OB{b:Int×Value}{r:List (Int×Value)}{i:Int}{v:Value}(h:¬b.1=i):stored (b::r) i v=b::stored r i v:=by
 simp only[stored,h,if_false,List.any_cons,decide_false,Bool.false_or,List.map_cons];by_cases q:(r.any fun pI=>decide (pI.1=i))=true
 ·rw[if_pos q,if_pos q]
 ·rw[if_neg q,if_neg q];rfl
theorem OC{am:List Addr}{h:Heap}{i:Int}{x:ah}{v:Value}(aO:bc am h x v){kvs:List (Int×ah)}{aB:List (Int×Value)}(p:Paired (fun(x:Int×ah)(y:Int×Value)=>x.1=y.1∧bc am h x.2 y.2) kvs aB):∀Y:(aB.map (·.1)).Nodup,
 Paired (fun(x:Int×ah)(y:Int×Value)=>x.1=y.1∧bc am h x.2 y.2) (je i x kvs) (stored aB i v):=by
 induction p with
 |nil=>exact fun Y=>.cons ⟨rfl,aO⟩ .nil
 |@cons a b r c5 q z ih=>
  intro d4;have d4:=List.nodup_cons.mp d4;by_cases aP:b.1=i
  ·have aS:je i x (a::r)=(a.1,x)::r:=if_pos (q.1.trans aP);rw[aS,←aP,OA d4.1];exact .cons ⟨q.1,aO⟩ z
  ·have aS:je i x (a::r)=a::je i x r:=if_neg fun e=>aP (q.1.symm.trans e);rw[aS,OB aP];exact .cons q (ih d4.2)
theorem OD{b:List Int×Addr×Value}{r:List (List Int×Addr×Value)}{a:Addr}{v:Value}(d4:b.1∉r.map (·.1)):storedH (b::r) b.1 a v=(b.1,b.2.1,v)::r:=by
 have e:atKey (b::r) b.1=some b.2:=by simp[atKey]
 rw[storedH_old e,List.map_cons,map_putAt_of_not_mem _ _ _ d4];simp[putAt]
theorem OE{b:List Int×Addr×Value}{r:List (List Int×Addr×Value)}{i:List Int}{a:Addr}{v:Value}(h:¬b.1=i):storedH (b::r) i a v=b::storedH r i a v:=by
 have e:atKey (b::r) i=atKey r i:=by simp[atKey,h]
 have aW:putAt i v b=b:=if_neg h;rw[storedH,storedH,e,List.map_cons,aW];by_cases q:(atKey r i).isSome=true
 ·rw[if_pos q,if_pos q]
 ·rw[if_neg q,if_neg q];rfl
theorem OF{am:List Addr}{h:Heap}{i:List Int}{x:ah}{v:Value}{a:Addr}(aO:bc am h x v){kvs:List (List Int×ah)}{aB:List (List Int×Addr×Value)}(p:Paired (v3 am h) kvs aB):∀Y:(aB.map (·.1)).Nodup,Paired (v3 am h) (kD i x kvs) (storedH aB i a v):=by
 induction p with
 |nil=>exact fun Y=>.cons ⟨rfl,aO⟩ .nil
 |@cons c b r c5 q z ih=>
  intro d4;have d4:=List.nodup_cons.mp d4;by_cases aP:b.1=i
  ·have aS:kD i x (c::r)=(c.1,x)::r:=if_pos (q.1.trans aP);rw[aS,←aP,OD d4.1];exact .cons ⟨q.1,aO⟩ z
  ·have aS:kD i x (c::r)=c::kD i x r:=if_neg fun e=>aP (q.1.symm.trans e);rw[aS,OE aP];exact .cons q (ih d4.2)
noncomputable def tQ(prog:Program)(w:World)(B:Heap)(am:List Addr)(s:Shared)(Q:∀Y:St,Prop) (_:Unit) (s':Shared):Prop:=
 ∃aX ao,c9 am s aX s'∧bh prog w B aX s'.heap ao∧Q ao
theorem OG{A:Around}{s:Shared}{am:List Addr}{m:Sem Unit}{Q:∀Y:St,Prop} {F:∀Y:Unit,∀Y:Shared,Prop} (h:wpAny (model prog w) A m (tQ prog w B am s Q) bo s)
 (k:∀s' aX ao,∀Y:c9 am s aX s',∀Y:bh prog w B aX s'.heap ao,∀Y:Q ao,F () s'):wpAny (model prog w) A m F bo s:=
 wpAny_mono h (fun Y s' aQ=>by refine bZ ?_ aQ;clear aQ;intro aX ao;refine aY ?_;intro a b c;exact k s' aX ao a b c) fun Y Y x=>x
theorem B6{s:Shared}{am:List Addr}{st:St}{Q:∀Y:St,Prop} {n:Nat} {a:Addr} {o:bB} {h':Heap} {tk:Nat} (S:bh prog w B am s.heap st) (aJ:am[n]?=some a)
 (hs:∀b o,∀Y:b≠a,∀Y:s.heap.get? b=some o,h'.get? b=some o) (bx:∀Y:fR s.heap h',j1 prog w am h' a o) (q:Q (st.set n o)):tQ prog w B am s Q () {s with heap:=h',toks:=tk}:=by
 refine ar ?_ (S.set aJ hs bx);intro dJ x;exact(cE am _ ⟨.heap x,dJ,q⟩)
theorem OH{A:Around}{s:Shared}{l:Addr}{items:Array Value}{m:Nat}{k:Int}{t:Tok}{v:Value}{Q:∀Y:Unit,∀Y:Shared,Prop} {E:∀Y:Value,∀Y:Shared,Prop} (aD:IsL s.heap l items m) (aM:0≤k) (Ht:k<2^63) (az:k<items.size)
 (a7:Q () {s with heap:=s.heap.update l (Obj.mapSeq (·.setIfInBounds k.toNat v))}):wpAny (model prog w) A (setItem (.ref l) (.int k t) v) Q E s:=by
 unfold setItem
 try with_reducible refine wpAny_holding ?_
 first|refine wpAny_bind (wpAny_pure ?_)|skip
 refine wpAny_bind (wpAny_sequenceKey aD.isList.typeIs (by decide) ?_)
 refine wpAny_bind (wpAny_callSpecial?_slot (name:=Str.ofString "__setitem__") aD.isList.typeIs PySem.slot_list_setitem
  (wpAny_call_entry PySem.slot_list_setitem aD.isList.typeIs PySem.entry_list_setitem ?_ (PySem.args_list_setitem _ _ _)))
 show wpAny _ _ (Builtin.List.listSubscript? (.int k t)>>=_) _ _ s;refine wpAny_bind (PySem.wpAny_listSubscript_int (PySem.fitsIndex_of aM Ht) ?_);clear Ht;refine aj ?_ (Int.eq_ofNat_of_zero_le aM);rintro j rfl;have aP:j<items.size:=by exact aq (.B (.n .p) (.n .q) (.t .p .q)) rfl az
 have v5:items[j]?=some items[j]:=Array.getElem?_eq_getElem aP;show wpAny _ _ ((seqItemAt l j>>=fun r=>pure (r.map (j,·)))>>=_) _ _ s;refine wpAny_bind (wpAny_bind (PySem.wpAny_seqItemAt aD rfl (wpAny_pure ?_)));rw[v5];show wpAny _ _ (setSeqItemAt l j v>>=_) _ _ s;refine wpAny_bind (PySem.wpAny_setSeqItemAt aD rfl ?_)
 first
  |exact wpAny_bind (wpAny_pure (wpAny_pure ⟨.none,rfl,wpAny_pure a7⟩))
  |exact wpAny_pure ⟨.none,rfl,wpAny_pure a7⟩
section
variable{A:Around}{s:Shared}{am:List Addr}{st:St}{Q:∀Y:St,Prop} {n:Nat} {i:Int} {x:ah} {u v z:Value} (S:bh prog w B am s.heap st) (aG:bc am s.heap (.ref n) u) (ai:bc am s.heap x z)
include S aG ai
theorem OI{xs:List ah}(hi:bc am s.heap (.int i) v)(e:listAt (.ref n) st=some xs)(q:(0≤i∧i<xs.length∧xs.length≤1000000)∧Q (st.set n (.list (xs.set i.toNat x)))):wpAny (model prog w) A (setItem u v z) (tQ prog w B am s Q) bo s:=by
 refine bG ?_ (S.tO aG e);intro a vs m;refine cI ?_;rintro rfl hm aD aC;refine aj ?_ hi.int_inv;rintro t rfl;have jN:i<(vs.toArray.size:Nat):=by rw[List.size_toArray,←aC.length];exact q.1.2.1
 have gz:i<2^63:=Int.lt_trans q.1.2.1 (Int.lt_of_le_of_lt (Int.ofNat_le.mpr q.1.2.2) (by decide));exact OH aD q.1.1 gz jN (B6 (tk:=s.toks) S hm vX (vW (f:=fun ys=>ys.setIfInBounds i.toNat z) (vs':=vs.set i.toNat z) aD (List.setIfInBounds_toArray ..) (aC.set ai _)) q.2)
theorem OJ{kvs:List (Int×ah)}(hi:bc am s.heap (.int i) v)(e:dictAt (.ref n) st=some kvs)(q:kvs.length≤1000000∧Q (st.set n (.ed (je i x kvs)))):wpAny (model prog w) A (setItem u v z) (tQ prog w B am s Q) bo s:=by
 refine aj ?_ (yu e);intro m;refine ar ?_;intro ae g;cases ae
 refine aj ?_ aG.qp;intro a;refine ar ?_;rintro rfl hm;refine aj ?_ (S.obj n a _ hm g);intro aB;refine ar ?_;intro hd aQ;refine aj ?_ hi.int_inv;rintro t rfl;have d4:(aB.map (·.1)).Nodup:=by refine bG ?_ hd;clear hd;intro _ _ _;refine dH ?_;intro _ _ _ _ _ d4;exact d4
 exact wpAny_setItem_pairs yw hd (fun h' lq eg=>B6 (o:=.ed (je i x kvs)) S hm (fun b o av e=>eg.extBut b o av e) (fun du=>⟨_,lq,yl (fun Y Y y=>⟨y.1,y.2.mono (List.prefix_refl _) du⟩) (OC ai aQ d4)⟩) q.2) (by rw[←aQ.length];exact Nat.le_trans q.1 (by decide))
theorem OK{kvs:List (List Int×ah)}{xs:List ah}{ns:List Int}(aL:gW A k)(hi:bc am s.heap (.tup xs) v)(e:tabAt (.ref n) st=some kvs)(aW:intsOf xs=some ns)(q:kvs.length≤1000000∧Q (st.set n (.j0 (kD ns x kvs)))):wpAny (model prog w) A (setItem u v z) (tQ prog w B am s Q) bo s:=by
 refine aj ?_ aG.qp;intro a;refine ar ?_;rintro rfl hm;refine aj ?_ (S.Hq hm e);intro aB;refine ar ?_;intro hd aQ;refine bG ?_ hi.m8;intro r6 items yS;refine aY ?_;rintro rfl bf aC;have d4:(aB.map (·.1)).Nodup:=by refine bG ?_ hd;clear hd;intro _ _ _;refine dH ?_;intro _ _ _ _ _ d4;exact d4
 exact wpAny_setItem_heap (knd:=tupleKind (intKind prog w)) (tupleKind_room_in1 (by have:=aL.2.2;exact aA (.b (.a (.a .p (.m 20 .r)) (.k 100)) .q (.t (.b .p) .q)) rfl this)) (Hr bf aC aW) hd (fun h' lq eg=>B6 (o:=.j0 (kD ns x kvs)) S hm (fun b o av e=>eg.extBut b o av e) (fun du=>⟨_,lq,yl (fun Y Y y=>⟨y.1,y.2.mono (List.prefix_refl _) du⟩) (OF ai aQ d4)⟩) q.2) (by rw[←aQ.length];exact Nat.le_trans q.1 (by decide))
end
theorem OL{A:Around}{s:Shared}{am:List Addr}{st:St}{Q:∀Y:St,Prop} {c i x:ah} {u v z:Value} (aL:gW A k) (S:bh prog w B am s.heap st):∀Y:bc am s.heap c u,∀Y:bc am s.heap i v,∀Y:bc am s.heap x z,∀Y:tP c i x Q st,
 wpAny (model prog w) A (setItem u v z) (tQ prog w B am s Q) bo s:=by
 cases c with
 |ref n=>
  cases i with
  |int i=>
   intro aG hi ai q;rw[B5]at q;cases e:Mine.listAt (.ref n) st with
   |some xs=>exact OI S aG ai hi e (by rw[e]at q;exact q)
   |none=>
    rw[e]at q;refine aj ?_ (gH q);intro kvs;refine ar ?_;intro e q;exact OJ S aG ai hi e q
  |tup xs=>
   intro aG hi ai q;refine bZ ?_ (tu q);intro kvs ns;refine aY ?_;intro e aW q;exact OK S aG ai aL hi e aW q
  |_=>exact fun Y Y Y q=>q.elim
 |_=>exact fun Y Y Y q=>q.elim
noncomputable def setS(br bK r5:b6):d8:=fun Q loc st=>br (fun v aV=>bK (fun c cX=>r5 (fun x jI=>tP c x v (fun kC=>Q .next loc kC) jI) loc cX) loc aV) loc st
theorem oh{o i e:Expr}{p fb:Pos}{br bK r5:b6}(bU:b3 prog w B ak k e br)(cZ:b3 prog w B ak k o bK)(B4:b3 prog w B ak k i r5)
 (hs:autoParam (∀env:Env,∀Y:env.scope.names=ak.kinds,swapsWith e (some (.Subscript o i fb)) p.line env=pure false) qf._auto_1):
 gx prog w B ak k (.Assign [.Subscript o i fb] e p) (setS br bK r5):=by
 intro A env s am loc st Q aL R S q;refine wpAny_Assign_Subscript (dZ (bU aL R S q) fun v ba bV aV pv bj bk cN bF=>?_) (hs env R.lP);have gZ:=R.ext S bj.ext;refine dZ (cZ aL gZ bk bF) fun c dw fB cX pc cC cw fT df=>?_;have fZ:=gZ.ext bk cC.ext;refine dZ (B4 aL fZ cw df) fun x eP BD jI px eT fU vF rP=>?_;have lX:=fZ.ext cw eT.ext;refine OG (OL aL fU (fT.j3 cw eT) vF ((cN.j3 bk cC).j3 cw eT) rP) fun pF pG kC j4 lY nq=>?_;exact(dX pG kC loc .next ⟨(((bj.trans cC).trans eT).trans j4).lg R S,lY,lX.ext fU j4.ext,.next,nq⟩)
noncomputable def v7:∀Y:ah,∀Y:ah,∀Y:(∀Y:ah,∀Y:St,Prop),∀Y:St,Prop
 |.int a,.int b,Q,st=>Q (.int (a+b)) st
 |.ref m,.ref n,Q,st=>rL (listAt (.ref m) st) (listAt (.ref n) st) fun xs ys=>(m≠n∧xs.length+ys.length≤1000000∧ys≠[])∧Q (.ref m) (st.set m (.list (xs++ys)))
 |_,_,_,_=>False
theorem OM:seqSlot? (.type "list") (dunderI "add")=pure (some (.builtin "list.__iadd__")):=PySem.seqSlot_of PySem.F.slot_list_iadd.lookup (by decide+kernel)
theorem ON{A:Around}{s:Shared}{E:∀Y:Value,∀Y:Shared,Prop} {l b:Addr} {items pe:Array Value} {n iS:Nat} {Q:∀Y:Value,∀Y:Shared,Prop} (aD:IsL s.heap l items n) (av:IsL s.heap b pe iS)
 (h:Q (.ref l) {s with heap:=s.heap.update l (Obj.mapSeq fun x=>x++pe)}) (c8:items.size+pe.size≤1000000):wpAny (model prog w) A (inplaceOp .Add (.ref l) (.ref b)) Q E s:=by
 have aJ:s.TypeIs (.ref l) "list":=⟨_,aD,rfl⟩;have g4:s.TypeIs (.ref b) "list":=⟨_,av,rfl⟩
 have OO:fillsInplaceSlot (.type "list") "add" (Operator.Add==.Add)=pure false:=by
  unfold fillsInplaceSlot;show(typeLookup (.type "list") (dunderI "add")>>=fun Hu=>pure (Hu.isSome&&!isSeqSlot Hu))=pure false;rw[PySem.F.slot_list_iadd.lookup];show(pure (true&&!isSeqSlot (some (.builtin "list.__iadd__"))):Sem Bool)=pure false;rw[show isSeqSlot (some (.builtin "list.__iadd__"))=true by decide+kernel];rfl
 unfold inplaceOp;refine wpAny_holding ?_;refine wpAny_bind (wpAny_typeOf aJ (wpAny_bind (wpAny_of_eq OO ?_)));show wpAny _ _ (if false=true then _ else _) Q E s;rw[if_neg Bool.false_ne_true];refine wpAny_bind (PySem.wpAny_binaryOp1_none (nm:="add") aJ g4 PySem.noFill_list_add ?_);refine wpAny_bind (wpAny_of_eq OM ?_);refine wpAny_bind (wpAny_rule ?_);exact call_meets PySem.F.slot_list_iadd aJ PySem.F.entry_list_iadd (PySem.F.args_list_iadd_2 _ _) (AutoSeq1.list___iadd___list_list_0 l items n b pe iS (by simp[Builtin.List.listTooLong,sizeLine];lia) (by simp[sizeLine];exact aq (.i 262144 (.l (.a .p .q) (.k 1000000)) (.G 15624 (.l .p (.k 16777216)))) rfl c8) (by simp[sizeLine];exact aq (.i 16777217 (.l (.a .p .q) (.k 1000000)) (.G 999999 (.l (.a .p .q) (.k 16777217)))) rfl c8)) ⟨aD,av,h⟩
theorem OP{A:Around}{s:Shared}{am:List Addr}{st:St}{Q:∀Y:ah,∀Y:St,Prop} {m n:Nat} {u v:Value} (S:bh prog w B am s.heap st) (aJ:bc am s.heap (.ref m) u) (av:bc am s.heap (.ref n) v) (q:v7 (.ref m) (.ref n) Q st):
 wpAny (model prog w) A (inplaceOp .Add u v) (dC prog w B am s Q) bo s:=by
 refine bZ ?_ (tu q);intro xs ys;refine cI ?_;intro aS aW h q;refine bG ?_ (S.tO aJ aS);intro a vs _;refine cI ?_;rintro rfl hm aD ai;refine bG ?_ (S.tO av aW);intro b us _;refine cI ?_;rintro rfl _ k7 au;exact ON aD k7 (yQ (tk:=s.toks) (pv:=.ref m) (v:=.ref a) S hm vX (vW (f:=fun x=>x++us.toArray) (vs':=vs++us) aD (List.append_toArray ..) (ai.append au)) (.ref hm) q) (by rw[List.size_toArray,List.size_toArray,←ai.length,←au.length];exact h.2.1)
theorem OQ{A:Around}{s:Shared}{am:List Addr}{st:St}{Q:∀Y:ah,∀Y:St,Prop} {a b:ah} {u v:Value} (S:bh prog w B am s.heap st):∀Y:bc am s.heap a u,∀Y:bc am s.heap b v,∀Y:v7 a b Q st,
 wpAny (model prog w) A (inplaceOp .Add u v) (dC prog w B am s Q) bo s:=by
 cases a with
 |int i=>cases b with
  |int j=>
   intro aJ av q;refine aj ?_ aJ.int_inv;rintro t rfl;refine aj ?_ av.int_inv;rintro e8 rfl;exact PySem.P.iadd_int (jH S .int q)
  |_=>exact fun Y Y q=>q.elim
 |ref m=>cases b with
  |ref n=>exact OP S
  |_=>exact fun Y Y q=>q.elim
 |_=>exact fun Y Y q=>q.elim
theorem OR{A:Around}{env:Env}{s:Shared}{am:List Addr}{loc:Loc}{st:St}{x:Str}{i:Nat}{F:∀Y:Value,∀Y:Shared,Prop} {Q:∀Y:ah,∀Y:St,Prop} (R:d7 B ak env am s.heap loc) (_S:bh prog w B am s.heap st)
 (aO:ak.vars.lookup x=some i) (q:vE (getV loc i) Q st) (h:∀pv v,∀Y:bc am s.heap pv v,∀Y:Q pv st,F v s) (aG:autoParam ((x==("__classdict__":Str))=false) jE._auto_1):wpAny (model prog w) A (loadName env x) F bo s:=by
 refine aj ?_ (R.var x i aO);intro v;refine ar ?_;intro b7 aD;cases e:getV loc i with
 |none=>rw[e]at q;exact q.elim
 |some pv=>
  rw[e]at q;refine aj ?_ (aD pv e);intro u;refine ar ?_;rintro rfl aC;rcases b7 with⟨aK,m,az,hm⟩|⟨aK|aK,c,kZ,k4⟩
  ·exact wpAny_loadName_local R.iG aK az hm (h _ _ aC q)
  ·exact wpAny_loadName_cell R.iG aK kZ k4 (h _ _ aC q)
  ·exact wpAny_loadName_free R.iG aK kZ k4 (h _ _ aC q) aG
noncomputable def iaddS(i:Nat)(P:b6):d8:=fun Q loc st=>vE (getV loc i) (fun a r8=>P (fun v aV=>v7 a v (fun r cX=>Q .next (setV loc i r) cX) aV) loc r8) st
theorem v8{x:Str}{e:Expr}{p fb:Pos}{i:Nat}{P:b6}(h:b3 prog w B ak k e P)(ai:autoParam (ak.vars.lookup x=some i) jY._auto_1)(nj:autoParam (ak.kinds.lookup x≠some .free) jE._auto_1)(aG:autoParam ((x==("__classdict__":Str))=false) jE._auto_1):
 gx prog w B ak k (.AugAssign (.Name x fb) .Add e p) (iaddS i P):=by
 intro A env s am loc st Q aL R S q;refine wpAny_AugAssign_Name (OR R S ai q (fun a u dQ q=>?_) aG);refine dZ (h aL R S q) fun v ba bV aV pv bj bk cN bF=>?_;refine dZ (OQ bk (dQ.j3 S bj) cN bF) fun r dw fB cX pr cC cw fT df=>?_;exact rW ((R.ext S bj.ext).ext bk cC.ext) cw ai nj fT fun eP eT fU lX=>(dX fB cX _ _ ⟨((bj.trans cC).lg R S).trans eT,fU,lX,.next,df⟩)
end Mine
end
section
namespace Mine
variable{prog:Program}{w:World}{B:Heap}{ak:dB}{k:Nat}
noncomputable def isVar:∀Y:NameKind,Bool
 |.local|.cell|.free=>true
 |_=>false
noncomputable def varNames(names:List (Str×NameKind)):List Str:=(names.filter fun x=>isVar x.2).map (·.1)
noncomputable def oi:∀Y:Nat,∀Y:List Str,List (Str×Nat)
 |_,[]=>[]
 |n,x::r=>(x,n)::oi (n+1) r
noncomputable def g5(names:List (Str×NameKind))(code:Option (Value×Str):=none):dB:=⟨names,oi 0 (varNames names),code⟩
theorem qF{β:Type}{k x:Str}{v:β}{r:List (Str×β)}:List.lookup x ((k,v)::r)=if x=k then some v else List.lookup x r:=by
 rw[List.lookup_cons];by_cases e:x=k
 ·rw[if_pos e,beq_iff_eq.mpr e]
 ·rw[if_neg e,beq_eq_false_iff_ne.mpr e]
theorem v9{l:List Str}{x:Str}{i:Nat}:∀{n:Nat},∀Y:(oi n l).lookup x=some i,n≤i∧l[i-n]?=some x:=by
 induction l with
 |nil=>intro n h;exact gh h
 |cons z r ih=>
  intro n h;have h:(if x=z then some n else(oi (n+1) r).lookup x)=some i:=qF.symm.trans h;by_cases e:x=z
  ·cases Option.some.inj ((if_pos e).symm.trans h)
   exact⟨Nat.le_refl _,by rw[Nat.sub_self,e];rfl⟩
  ·refine ar ?_ (ih ((if_neg e).symm.trans h));intro a b;refine⟨Nat.le_of_succ_le a,?_⟩;rw[show i-n=(i-(n+1))+1 by exact Nat.le_antisymm (bA (.a .r (.a .q (.b .s)) (.c (.a .p .s) .r (.l .p (.b .q)))) rfl (b5 _ (_+(1:Nat))) (Nat.sub_add_cancel (aq (.a (.b .p) .q (.l .p .q)) rfl a))) (bA (.a .r (.a .q .s) (.c (.a .p (.b .s)) .r (.l (.b .p) .q))) rfl (b5 _ _) (Nat.sub_add_cancel (aq (.a (.b .p) .q (.l (.b .p) .q)) rfl a)))];exact b
set_option tactic.hygienic true in
theorem B7{l:List Str}{n:Nat}{x y:Str}{i:Nat}(ai:(oi n l).lookup x=some i)(au:(oi n l).lookup y=some i):x=y:=Option.some.inj ((v9 ai).2.symm.trans (v9 au).2)
theorem pJ{α:Type}{l:List (Str×α)}{n:Str}{a:α}(az:(l.map (·.1)).Nodup)(hm:(n,a)∈l):l.lookup n=some a:=by
 induction l with
 |nil=>cases hm
 |cons z r ih=>
  obtain⟨y,d⟩:=z;rw[List.map_cons,List.nodup_cons]at az;rw[qF];rcases List.mem_cons.mp hm with q|hm
  ·cases q;exact if_pos rfl
  ·rw[if_neg fun(e:n=y)=>az.1 (e▸List.mem_map.mpr ⟨_,hm,rfl⟩)];exact ih az.2 hm
noncomputable def initLoc(n:Nat)(vs:List ah):Loc:=vs.map some++List.replicate (n-vs.length) none
theorem OS{n:Nat}{vs:List ah}{i:Nat}{pv:ah}(h:getV (initLoc n vs) i=some pv):vs[i]?=some pv:=by
 have rep:∀(m i:Nat)(pv:ah),getV (List.replicate m none) i≠some pv:=by
  intro m
  induction m with
  |zero=>intro i pv h;cases h
  |succ m ih=>intro i pv h;cases i with
   |zero=>cases h
   |succ i=>exact ih i pv h
 have app:∀(vs:List ah)(m i:Nat)(pv:ah),∀Y:getV (vs.map some++List.replicate m none) i=some pv,vs[i]?=some pv:=by
  intro vs
  induction vs with
  |nil=>intro m i pv h;exact absurd h (rep m i pv)
  |cons v r ih=>intro m i pv h;cases i with
   |zero=>exact h
   |succ i=>simpa using ih m i pv h
 exact app _ _ _ _ h
structure wa(B:Heap)(a:Addr)(fd:FuncData)(params:List Str)(body:List Stmt)(scope:Scope):Prop where
 at_:∃o,B.get? a=some o∧o.data=.func fd
 body:fd.body=.stmts body
 scope:fd.scope=scope
 gl:fd.globals=mainGlobals
 bi:fd.builtins=builtinsNs
 nr:fd.closure=[]
 code:B.CodeRec fd.code fd.qualname
 bind:∀vs:List Value,∀Y:vs.length=params.length,bindArgs fd ⟨vs,[]⟩=pure (params.zip vs)
theorem Hv{names:List (Str×NameKind)}{x:Str}(h:x∈varNames names)(az:(names.map (·.1)).Nodup):∃kd,names.lookup x=some kd∧isVar kd=true:=by
 obtain⟨⟨z,kd⟩,hm,rfl⟩:=List.mem_map.mp h;refine ar ?_ (List.mem_filter.mp hm);intro ae af;exact⟨kd,pJ az ae,af⟩
theorem B8{names:List (Str×NameKind)}{x:Str}:∀{n:Nat}{acc:List (Str×Addr)},∀Y:(names.lookup x=some .cell∨(acc.lookup x).isSome=true),((cellsFrom n names acc).lookup x).isSome=true:=by
 induction names with
 |nil=>
  intro n acc h;rcases h with h|h
  ·exact gh h
  ·exact h
 |cons z r ih=>
  obtain⟨y,kd⟩:=z;intro n acc h;rw[qF]at h;unfold cellsFrom;by_cases e:x=y
  ·rw[if_pos e]at h
   split
   ·exact ih (.inr (by rw[qF,if_pos e];rfl))
   ·rename_i aK;rcases h with h|h
    ·cases h;exact absurd rfl aK
    ·exact ih (.inr h)
  ·rw[if_neg e]at h
   split
   ·exact ih (h.imp id fun h=>by rw[qF,if_neg e];exact h)
   ·exact ih h
theorem B9:∀{names:List (Str×NameKind)}{n:Nat}{acc:List (Str×Addr)},∀Y:(names.map (·.1)).Nodup,∀Y:(acc.map (·.1)).Nodup,∀Y:(∀x∈acc.map (·.1),x∉names.map (·.1)),((cellsFrom n names acc).map (·.1)).Nodup
 |[],_,_,_,h,_=>h
 |(y,kd)::r,n,acc,ae,af,aH=>by
  rw[List.map_cons,List.nodup_cons]at ae;unfold cellsFrom
  split
  ·refine B9 ae.2 (List.nodup_cons.mpr ⟨fun hm=>aH _ hm (List.mem_cons_self ..),af⟩) fun x ai=>?_;rcases List.mem_cons.mp ai with rfl|ai
   ·exact ae.1
   ·exact fun hm=>aH x ai (List.mem_cons_of_mem _ hm)
  ·exact B9 ae.2 af fun x ai hm=>aH x ai (List.mem_cons_of_mem _ hm)
theorem lookup_mem{l:List (Str×Addr)}{x:Str}{c:Addr}(az:(l.map (·.1)).Nodup)(hm:(x,c)∈l):l.lookup x=some c:=pJ az hm
theorem lookup_none:∀{l:List (Str×Value)}{x:Str},∀Y:x∉l.map (·.1),l.lookup x=none
 |[],_,_=>rfl
 |(y,v)::r,x,h=>by
  rw[List.map_cons,List.mem_cons,not_or]at h;rw[List.lookup_cons,beq_eq_false_iff_ne.mpr h.1];exact lookup_none h.2
theorem OT{kindOf:∀Y:Str,Option NameKind} {x:Str} (aK:kindOf x=some .local) (binds:List (Str×Value)):∀(m:∀Y:Str,Option Value),∀Y:(binds.map (·.1)).Nodup,bindL kindOf binds m x=(binds.lookup x).or (m x):=by
 induction binds with
 |nil=>exact fun Y Y=>rfl
 |cons b r ih=>
  intro m az;obtain⟨y,v⟩:=b;rw[List.map_cons,List.nodup_cons]at az;show bindL kindOf r (if kindOf y=some .local then fun z=>if z=y then some v else m z else m) x=_;rw[ih _ az.2,List.lookup_cons];by_cases e:x=y
  ·subst e;rw[lookup_none az.1,if_pos aK,beq_self_eq_true];exact if_pos rfl
  ·rw[beq_eq_false_iff_ne.mpr e];by_cases q:kindOf y=some .local
   ·rw[if_pos q];show(r.lookup x).or (if x=y then some v else m x)=_;rw[if_neg e]
   ·rw[if_neg q]
theorem OU{kindOf:∀Y:Str,Option NameKind} {x:Str} (aK:kindOf x≠some .local) (binds:List (Str×Value)):∀(m:∀Y:Str,Option Value),∀Y:(binds.map (·.1)).Nodup,bindC kindOf binds m x=(binds.lookup x).or (m x):=by
 induction binds with
 |nil=>exact fun Y Y=>rfl
 |cons b r ih=>
  intro m az;obtain⟨y,v⟩:=b;rw[List.map_cons,List.nodup_cons]at az;show bindC kindOf r (if kindOf y=some .local then m else fun z=>if z=y then some v else m z) x=_;rw[ih _ az.2,List.lookup_cons];by_cases e:x=y
  ·subst e;rw[lookup_none az.1,if_neg aK,beq_self_eq_true];exact if_pos rfl
  ·rw[beq_eq_false_iff_ne.mpr e];by_cases q:kindOf y=some .local
   ·rw[if_pos q]
   ·rw[if_neg q];show(r.lookup x).or (if x=y then some v else m x)=_;rw[if_neg e]
theorem Hw:∀{dq:List Str}{vs:List Value}{i:Nat}{x:Str}{v:Value},∀Y:dq.Nodup,∀Y:dq[i]?=some x,∀Y:vs[i]?=some v,(dq.zip vs).lookup x=some v
 |[],_,_,_,_,_,h,_=>by simp at h
 |_::_,[],_,_,_,_,_,h=>by simp at h
 |p::dq,u::vs,0,x,v,az,ae,af=>by
  simp at ae af;subst ae;subst af;simp[List.zip_cons_cons]
 |p::dq,u::vs,i+1,x,v,az,ae,af=>by
  rw[List.nodup_cons]at az;have r9:dq[i]?=some x:=by simpa using ae
  have:(x==p)=false:=beq_eq_false_iff_ne.mpr fun e=>az.1 (e▸List.mem_of_getElem? r9);rw[List.zip_cons_cons,List.lookup_cons,this];exact Hw az.2 r9 (by simpa using af)
noncomputable def wb(params:List Str)(scope:Scope):Bool:=
 scope.kind==.function&&!scope.isCoroutine&&!scope.isGenerator&&decide ((scope.names.map (·.1)).Nodup)&&scope.names.all (fun x=>!(x.2==.free))&&params.isPrefixOf (varNames scope.names)&&decide params.Nodup
theorem Hx{l:List Str}{n:Nat}{x:Str}{i:Nat}(h:(oi n l).lookup x=some i):x∈l:=List.mem_of_getElem? (v9 h).2
noncomputable def yT(n:Nat)(sd:Nat)(P:d8)(vs:List ah)(Q:∀Y:ah,∀Y:St,Prop) (st:St):Prop:=
 vs.length=n∧P (fun dD Y ao=>match dD with
  |.ret v=>Q v ao
  |.next=>Q .none ao
  |_=>False) (initLoc sd vs) st
theorem Ca{a:Addr}{fd:FuncData}{params:List Str}{body:List Stmt}{scope:Scope}{P:d8}(F:wa B a fd params body scope)(dh:wb params scope=true)(er:B.NoLimit)
 (fm:Option (Value×Str))(tR:∀c,∀Y:fm=some c,fd.code=c.1∧fd.qualname++".<locals>."=c.2) (av:kA prog w B (g5 scope.names fm) k body P):b9 prog w B (k+1) (.ref a) (yT params.length (varNames scope.names).length P):=by
 intro A s am st Q xs vs aL S aO q;refine ar ?_ q;clear q;intro hlen q;simp only[wb,Bool.and_eq_true,beq_iff_eq,Bool.not_eq_true',decide_eq_true_eq]at dh;refine ar ?_ dh;clear dh;refine ar ?_;refine ar ?_;refine ar ?_;refine ar ?_;refine ar ?_;intro yU se;intro Cb;intro Cc;intro OV;intro OW;intro Cd;refine aj ?_ F.at_;intro o;refine ar ?_;intro bx hd;have Ce:=F.scope;subst Ce;have j8:vs.length=params.length:=by rw[←aO.length,hlen]
 have qG:params <+: varNames fd.scope.names:=List.isPrefixOf_iff_prefix.mp OW
 have OX:∀x kd,∀Y:fd.scope.names.lookup x=some kd,kd≠.free:=fun x kd h=>by
  have:=List.all_eq_true.mp OV _ (PySem.mem_of_lookup h);simpa using this
 have eG:∀x∈varNames fd.scope.names,fd.scope.names.lookup x=some .local∨fd.scope.names.lookup x=some .cell:=fun x ai=>by
  refine aj ?_ (Hv ai Cc);intro kd;refine ar ?_;intro ae af;cases kd<;>first|exact .inl ae|exact .inr ae|exact absurd rfl (OX _ _ ae)|cases af
 have Cf:(params.zip vs).map (·.1)=params:=by rw[List.map_fst_zip (by exact aq (.i (-1) (.e .q .p) (.l .p .q)) rfl j8)]
 refine wpAny_call (codeAny_call_cells (fd:=fd) (body:=body) (binds:=params.zip vs) (by have:=aL.2.1;exact aA (.b (.a (.a .p (.b .r)) (.k 100)) .q (.t .p .q)) rfl this) (S.base _ _ bx) hd (er.keeps S.base) (F.code.keeps S.base) F.body (F.bind vs j8) F.nr (fun x ai=>?_) (fun ba X=>?_) se Cb yU)
 ·have OY:x.1∈params:=by rw[←Cf];exact List.mem_map_of_mem ai
  rcases eG x.1 (qG.subset OY)with h|h
  ·exact .inl h
  ·exact .inr ⟨h,B8 (.inl h)⟩
 ·refine bZ ?_ X.done;intro bU tk;refine ar ?_;rintro rfl yV;have bk:bh prog w B am bU st:=S.keeps yV;have mF:gW (A.deeper (callEnvC fd s.heap.objs.size a)) k:=⟨aL.1,by have:=aL.2.1;show A.depth+1+k+100<recursionLimit;exact aA (.b (.a (.a .p (.b .q)) (.k 100)) .r (.t (.a (.a (.b .p) .q) (.k 100)) .r)) rfl this,by have:=aL.2.2;show A.units+3+20*k+100<cLine;exact aA (.b (.a (.a .p (.m 20 (.b .q))) (.k 100)) .r (.t (.a (.a (.a .p (.k 3)) (.m 20 .q)) (.k 100)) .r)) rfl this⟩
  have off:∀b,∀Y:s.heap.objs.size≤b,b∉am∧B.get? b=none:=fun b av=>⟨fun hm=>absurd (S.lt hm) (Nat.not_lt.mpr av),by
   cases e:B.get? b with
   |none=>rfl
   |some o=>exact absurd (Heap.lt_size (S.base b o e)) (Nat.not_lt.mpr av)⟩
  have key:∀x i,∀Y:(oi 0 (varNames fd.scope.names)).lookup x=some i,∀pv,∀Y:getV (initLoc (varNames fd.scope.names).length xs) i=some pv,∃u,(params.zip vs).lookup x=some u∧bc am s.heap pv u:=by
   intro x i ai pv aQ;have ae:=OS aQ;refine aj ?_ (aO.get ae);intro u;refine ar ?_;intro dQ aC
   have af:params[i]?=some x:=by
    have:=(v9 ai).2;refine aj ?_ qG;clear qG;intro r e;rw[←e,Nat.sub_zero,List.getElem?_append_left (by rw[←hlen];exact(List.getElem?_eq_some_iff.mp ae).1)]at this;exact this
   exact⟨u,Hw Cd af dQ,aC⟩
  have du:fR s.heap bU:=fun b o Y e=>yV b o e
  have R:d7 B (g5 fd.scope.names fm) (callEnvC fd s.heap.objs.size a) am bU (initLoc (varNames fd.scope.names).length xs):=by
   refine⟨yU,rfl,F.gl,F.bi,(fun c h=>tR c h),fun x y i=>B7,⟨_,X.toInCall.ns⟩,fun b av=>?_,X.apart,fun c aG=>?_,fun x i ai=>?_⟩
   ·rcases List.mem_cons.mp av with rfl|av
    ·refine bG ?_ X.toInCall.ns;intro o a9 ep;refine aY ?_;intro e d _;exact⟨⟨o,e,by rintro(⟨_,_,_,q⟩|⟨_,_,q⟩|⟨_,_,q⟩)<;>rw[d]at q<;>cases q⟩,off _ (Nat.le_refl _)⟩
    ·obtain⟨⟨n,c⟩,aG,rfl⟩:=List.mem_map.mp av;have bC:=X.above n c aG;refine aj ?_ (X.cell n c (lookup_mem (B9 Cc .nil fun Y h=>by cases h) aG));intro o;refine ar ?_;intro e d;exact⟨⟨o,e,by rintro(⟨_,_,_,q⟩|⟨_,_,q⟩|⟨_,_,q⟩)<;>rw[d]at q<;>cases q⟩,off _ (Nat.le_of_lt bC)⟩
   ·have:=X.above c.1 c.2 aG;exact Nat.ne_of_gt this
   ·rcases eG x (Hx ai)with h|h
    ·refine⟨_,.inl ⟨h,_,X.toInCall.ns,rfl⟩,fun pv aQ=>?_⟩;refine aj ?_ (key x i ai pv aQ);intro u;refine ar ?_;intro dQ aC;refine⟨u,?_,aC.mono (List.prefix_refl _) du⟩;rw[OT h _ _ (by rw[Cf];exact Cd),dQ];rfl
    ·refine aj ?_ (Option.isSome_iff_exists.mp (B8 (n:=s.heap.objs.size+1) (acc:=[]) (.inl h)));intro c aG;refine⟨_,.inr ⟨.inl h,c,aG,X.cell _ _ aG⟩,fun pv aQ=>?_⟩;refine aj ?_ (key x i ai pv aQ);intro u;refine ar ?_;intro dQ aC;refine⟨u,?_,aC.mono (List.prefix_refl _) du⟩;rw[OU (by rw[show(callEnvC fd s.heap.objs.size a).kindOf x=some .cell from h];simp) _ _ (by rw[Cf];exact Cd),dQ];rfl
  refine never (yF (s:={s with heap:=bU,toks:=tk}) (av mF R bk q) fun f dw fB cX pC dD cC cw fZ BZ df=>?_)
  have big:∀b∈Own (callEnvC fd s.heap.objs.size a),s.heap.objs.size≤b:=fun b av=>by
   rcases List.mem_cons.mp av with rfl|av
   ·exact Nat.le_refl _
   ·obtain⟨⟨n,c⟩,aG,rfl⟩:=List.mem_map.mp av;exact Nat.le_of_lt (X.above n c aG)
  have t:c9 am s fB dw:=by
   obtain⟨⟨h',gm,o9,e⟩,x,_⟩:=cC;subst e;refine⟨(cF _ _ _ rfl),x.pre,fun b o av e=>x.keep b o av (fun hm=>absurd (Heap.lt_size e) (Nat.not_lt.mpr (big b hm))) (yV b o e),fun b av az=>?_⟩;cases e:s.heap.get? b with
   |none=>rfl
   |some o=>
    have:=x.fresh b av az;rw[show(_:Shared).heap.get? b=some o from yV b o e]at this;cases this
  cases BZ with
  |ret wc=>exact(cF fB cX _ ⟨t,cw,wc,df⟩)
  |next=>exact(cF fB cX .none ⟨t,cw,.none,df⟩)
  |brk=>exact df.elim
  |cont=>exact df.elim
end Mine
end
section
namespace Mine
variable{prog:Program}{w:World}{B:Heap}{ak:dB}{k:Nat}
theorem OZ{b:Stmt}:gx prog w B ak k b fun Y Y Y=>False:=fun Y Y Y Y Y Y Y Y Y Y q=>q.elim
noncomputable def wd(Q:Bool→St→Prop)(v:ah)(st:St):Prop:=match v with
 |.bool b=>Q b st
 |_=>False
theorem O0{e:Expr}{P:b6}(bU:b3 prog w B ak k e P)(he:autoParam (∀env whole,isTrue e env whole=(do let v ←whole;standAt e.pos;holding [v] (truthy v))) qf._auto_1):
 jG prog w B ak k e fun Q loc st=>P (wd Q) loc st:=by
 intro A env s am loc st Q aL R S h;refine wpAny_isTrue_value (dZ (bU aL R S h) fun v ba bV aV pv bj bk cN bF=>?_) (he _ _);cases cN<;>first|exact bF.elim|exact wpAny_truthy_bool (cE bV aV ⟨bj,bk,bF⟩)
theorem O1{a b:Int}{bF df:Nat}{Cg Ch p:Pos}:b3 prog w B ak k (.Dict [some (.Constant (.int a) bF Cg)] [.Constant (.int b) df Ch] p) fun Q Y st=>Q (.ref st.length) (st++[.ed [(a,.int b)]]):=by
 intro A env s am loc st Q aL R S q;refine wpAny_Dict_walk (knd:=intKind prog w) rfl rfl (by simp) (by simp) ?_;show wpAny _ _ (evalPairs [(eval (.Constant (.int a) bF Cg) env,do let x ←eval (.Constant (.int b) df Ch) env;standAt p;pure x)]) _ _ _;show wpAny _ _ (eval (.Constant (.int a) bF Cg) env>>=fun pI=>holding [pI] (do let x ←eval (.Constant (.int b) df Ch) env;standAt p;pure x)>>=fun Hy=>holding [pI,Hy] (pure [])>>=fun r=>pure ((pI,Hy)::r)) _ _ _;refine wpAny_bind (wpAny_Constant_int (wpAny_bind (wpAny_holding (wpAny_bind (wpAny_Constant_int (wpAny_bind (wpAny_standAt (wpAny_pure ?_))))))));refine wpAny_bind (wpAny_holding (wpAny_pure (wpAny_pure ?_)));refine⟨[(a,_)],⟨by simp[intKind,Value.isInt],rfl,trivial⟩,Heap.DictOf.new _,fun h' hd hs=>?_⟩;have cv:∀x cg,∀Y:s.heap.get? x=some cg,h'.get? x=some cg:=fun x cg e=>hs.extBut x cg (Nat.ne_of_lt (Heap.lt_size e)) (Heap.get?_push_of_some _ e);exact BR (po:=.ed [(a,.int b)]) S cv (lS _) ⟨_,hd,.cons ⟨rfl,.int⟩ .nil⟩ q
noncomputable def yW(v:ah)(F:∀Y:ah,∀Y:ah,Prop):Prop:=∃a b,v=.tup [a,b]∧F a b
set_option tactic.hygienic true in
theorem Hz{am:List Addr}{h:Heap}{x:ah}{v:Value}{F:∀Y:ah,∀Y:ah,Prop} (ai:bc am h x v) (q:yW x F):
 ∃a b t u z n,x=.tup [a,b]∧v=.ref t∧IsT h t #[u,z] n∧bc am h a u∧bc am h b z∧F a b:=by
 refine bZ ?_ q;clear q;intro a b;refine ar ?_;rintro rfl q;obtain⟨t,⟨items⟩,n,rfl,bf,aC⟩:=ai.m8;refine bZ ?_ (bT.By aC);intro u z;refine aY ?_;rintro rfl ae af;exact qh a b t u z n ⟨rfl,rfl,bf,ae,af,q⟩
theorem O2{x y:Str}{e:Expr}{px py pt p:Pos}{kE i j:Nat}{P:b6}(h:b3 prog w B ak k e P)(ai:autoParam (ak.vars.lookup x=some i) jY._auto_1)(Ci:autoParam (ak.kinds.lookup x≠some .free) jE._auto_1)
 (au:autoParam (ak.vars.lookup y=some j) jY._auto_1)(sf:autoParam (ak.kinds.lookup y≠some .free) jE._auto_1)
 (hs:autoParam (∀env,swapsWithSole [.Tuple [.Name x px,.Name y py] kE pt] e p.line env=pure false) my._auto_1)
 (hw:autoParam (∀env,swappedStores [.Tuple [.Name x px,.Name y py] kE pt] e env=pure none) my._auto_1):
 gx prog w B ak k (.Assign [.Tuple [.Name x px,.Name y py] kE pt] e p) fun Q loc st=>P (fun v aV=>yW v fun a b=>Q .next (setV (setV loc i a) j b) aV) loc st:=by
 intro A env s am loc st Q aL R S q;refine PyProof.Rows.Assign_Tuple (dZ (h aL R S q) fun v ba bV aV pv bj bk cN bF=>?_) (hs env) (hw env);refine o3 ?_ (Hz cN bF);intro a b t u z n;refine dH ?_;rintro rfl rfl bf aJ av df;refine assign_Tuple_tuple aL.1 ⟨_,bf,rfl,_,rfl⟩ rfl rfl fun h' he=>?_;have cv:∀x cg,∀Y:ba.heap.get? x=some cg,h'.get? x=some cg:=fun x cg e=>he x cg (Nat.ne_of_lt (Heap.lt_size e)) e;have cC:c9 bV ba bV {ba with heap:=h'}:=.heap (tk:=ba.toks) (.of_keeps cv);have gZ:=R.ext S bj.ext;have fZ:=gZ.ext bk cC.ext;have cw:bh prog w B bV h' aV:=bk.keeps cv;show wpAny _ _ (assignInOrder [assign (.Name x px) env,assign (.Name y py) env] [u,z]) _ _ _;refine wpAny_bind (wpAny_holding (wpAny_assign_Name (rW (s:={ba with heap:=h'}) fZ cw ai Ci (aJ.mono (List.prefix_refl _) (lV cv)) fun eP eT fU lX=>?_)));have g4:bc bV eP.heap b z:=(av.mono (List.prefix_refl _) (lV cv)).mono (List.prefix_refl _) (eT.gI fZ cw);refine wpAny_bind (wpAny_holding (wpAny_assign_Name (rW lX fU au sf g4 fun pF j4 lY qE=>?_)));exact wpAny_pure (dX bV aV _ _ ⟨(((bj.trans cC).lg R S).trans eT).trans j4,lY,qE,.next,df⟩)
theorem O3{x y:Str}{e:Expr}{px py pt p:Pos}{kE i j:Nat}{P:b6}(h:b3 prog w B ak k e P)(ai:autoParam (ak.vars.lookup x=some i) jY._auto_1)(Ci:autoParam (ak.kinds.lookup x≠some .free) jE._auto_1)
 (au:autoParam (ak.vars.lookup y=some j) jY._auto_1)(sf:autoParam (ak.kinds.lookup y≠some .free) jE._auto_1)
 (hs:autoParam (∀env,swapsWithSole [.Tuple [.Name x px,.Name y py] kE pt] e p.line env=pure false) my._auto_1)
 (hw:∀env:Env,∀Y:env.scope.kind=.function,∀Y:env.scope.names=ak.kinds,swappedStores [.Tuple [.Name x px,.Name y py] kE pt] e env=pure (some [x,y])):
 gx prog w B ak k (.Assign [.Tuple [.Name x px,.Name y py] kE pt] e p) fun Q loc st=>P (fun v aV=>yW v fun a b=>Q .next (setV (setV loc j b) i a) aV) loc st:=by
 intro A env s am loc st Q aL R S q;refine PyProof.Rows.Assign_Tuple_swapped (dZ (h aL R S q) fun v ba bV aV pv bj bk cN bF=>?_) (hs env) (hw env R.iG R.lP);refine o3 ?_ (Hz cN bF);intro a b t u z n;refine dH ?_;rintro rfl rfl bf aJ av df;show wpAny _ _ (unpackItems (.ref t) (#[u,z]:Array Value).size none) _ _ _;refine unpackItems_tuple (items:=#[u,z]) aL.1 ⟨_,bf,rfl,_,rfl⟩ fun h' he=>?_;have cv:∀x cg,∀Y:ba.heap.get? x=some cg,h'.get? x=some cg:=fun x cg e=>he x cg (Nat.ne_of_lt (Heap.lt_size e)) e;have cC:c9 bV ba bV {ba with heap:=h'}:=.heap (tk:=ba.toks) (.of_keeps cv);have gZ:=R.ext S bj.ext;have fZ:=gZ.ext bk cC.ext;have cw:bh prog w B bV h' aV:=bk.keeps cv;have j9:bc bV h' b z:=av.mono (List.prefix_refl _) (lV cv);show wpAny _ _ (holding [u] (bindName env y z)>>=fun Y=>(holding [] (bindName env x u)>>=fun Y=>(pure ():Sem Unit))) _ _ _;refine wpAny_bind (wpAny_holding (wpAny_bindName ?_));refine rW (s:={ba with heap:=h'}) fZ cw au sf j9 fun eP eT fU lX=>?_;have k9:bc bV eP.heap a u:=(aJ.mono (List.prefix_refl _) (lV cv)).mono (List.prefix_refl _) (eT.gI fZ cw);refine wpAny_bind (wpAny_holding (wpAny_bindName (rW lX fU ai Ci k9 fun pF j4 lY qE=>?_)));exact wpAny_pure (dX bV aV _ _ ⟨(((bj.trans cC).lg R S).trans eT).trans j4,lY,qE,.next,df⟩)
end Mine
end
section
namespace Mine
variable{prog:Program}{w:World}{B:Heap}{ak:dB}{k:Nat}
structure jx(B:Heap)(aF:Addr)(bS:∀Y:Str,Option Value):Prop where
 at_:∃N,ClsAt B aF N bS
 ga:bS "__getattribute__"=none
 gt:bS "__getattr__"=none
 bu:bS "__setattr__"=none
noncomputable def HA(aF:Addr):∀Y:bB,Option Nat
 |.inst ak d=>if ak=aF then some d else none
 |_=>none
theorem O4{aF:Addr}{o:bB}{d:Nat}(h:HA aF o=some d):o=.inst aF d:=by
 cases o with
 |inst ak o9=>
  by_cases e:ak=aF
  ·exact(Option.some.inj ((if_pos e).symm.trans h))▸e▸rfl
  ·exact gh ((if_neg e).symm.trans h)
 |_=>exact gh h
noncomputable def HB:∀Y:bB,Option (List (Str×ah))
 |.fields fs=>some fs
 |_=>none
theorem O5{o:bB}{fs:List (Str×ah)}(h:HB o=some fs):o=.fields fs:=by
 cases o with
 |fields _=>exact congrArg bB.fields (Option.some.inj h)
 |_=>exact gh h
noncomputable def jf(aF:Addr)(v:ah)(st:St):Option (Nat×List (Str×ah)):=((tF v st).bind (HA aF)).bind fun d=>((st[d]?).bind HB).map fun fs=>(d,fs)
set_option tactic.hygienic true in
theorem tS{aF:Addr}{v:ah}{s:St}{d:Nat}{fs:List (Str×ah)}(h:jf aF v s=some (d,fs)):∃i,v=.ref i∧s[i]?=some (.inst aF d)∧s[d]?=some (.fields fs):=by
 refine aj ?_ (Option.bind_eq_some_iff.mp h);intro o9;refine ar ?_;intro ae af;refine aj ?_ (Option.bind_eq_some_iff.mp ae);intro o;refine ar ?_;intro aH bX;refine aj ?_ (Option.map_eq_some_iff.mp af);intro XF;refine ar ?_;intro et fq;refine aj ?_ (Option.bind_eq_some_iff.mp et);intro cg;refine ar ?_;intro kF qH;cases fq
 refine aj ?_ (vI aH);intro i;refine ar ?_;rintro rfl e;exact⟨i,rfl,O4 bX▸e,O5 qH▸kF⟩
theorem sj{aF i d:Nat}{s:St}{fs:List (Str×ah)}(ae:s[i]?=some (.inst aF d))(af:s[d]?=some (.fields fs)):jf aF (.ref i) s=some (d,fs):=
 Option.bind_eq_some_iff.mpr ⟨d,Option.bind_eq_some_iff.mpr ⟨_,ae,if_pos rfl⟩,Option.map_eq_some_iff.mpr ⟨fs,Option.bind_eq_some_iff.mpr ⟨_,af,rfl⟩,rfl⟩⟩
theorem O6:∀{o mG:Obj},∀Y:mG.cls=o.cls,∀Y:mG.dict=o.dict,∀Y:mG.data=o.data,∀Y:mG.slots=o.slots,mG=o
 |⟨_,_,_,_⟩,⟨_,_,_,_⟩,rfl,rfl,rfl,rfl=>rfl
structure tT(prog:Program)(w:World)(am:List Addr)(h:Heap)(st:St)(aF:Addr)(v:ah)(u:Value)(d:Nat)(fs:List (Str×ah))(n:Nat)(x d6:Addr)(ir:∀Y:Str,Option Value):Prop where
 XG:v=.ref n
 Cj:u=.ref x
 an:am[n]?=some x
 ad:am[d]?=some d6
 sn:st[n]?=some (.inst aF d)
 XH:st[d]?=some (.fields fs)
 inst:h.Inst x aF ir
 dict:∀o,∀Y:h.get? x=some o,o.dict=some d6
 ns:h.Ns1 d6 ir
 ne:d6≠x
 Ck:∀y,match fs.lookup y with|some pv=>∃v,ir y=some v∧bc am h pv v|none=>ir y=none
section
variable{am:List Addr}{h:Heap}{st:St}{aF:Addr}{v:ah}{u:Value}{d:Nat}{fs:List (Str×ah)}{n:Nat}{x d6:Addr}{ir:∀Y:Str,Option Value} (I:tT prog w am h st aF v u d fs n x d6 ir)
include I
theorem tT.has{y:Str}{pv:ah}(e:fs.lookup y=some pv):∃v,ir y=some v∧bc am h pv v:=by
 have f:=I.Ck y;rw[e]at f;exact f
theorem tT.HC{y:Str}(e:fs.lookup y=none):ir y=none:=by
 have f:=I.Ck y;rw[e]at f;exact f
theorem tT.kept{h':Heap}(aK:∀b o,∀Y:b≠x,∀Y:(∀oj d6,∀Y:h.get? x=some oj,∀Y:oj.dict=some d6,b≠d6),∀Y:h.get? b=some o,h'.get? b=some o)
 (Cm:∀oj,∀Y:h.get? x=some oj,∃mG,h'.get? x=some mG∧mG.cls=oj.cls∧mG.data=oj.data∧mG.slots=oj.slots∧∀d6,∀Y:oj.dict=some d6,mG.dict=some d6):∀b o,∀Y:b≠d6,∀Y:h.get? b=some o,h'.get? b=some o:=by
 intro b o av e;by_cases ai:b=x
 ·subst ai;refine aj ?_ (Cm o e);intro mG;refine eY ?_;intro O7 c₁ HD ba O8;have hd:=I.dict o e;exact O7.trans (congrArg some (O6 c₁ ((O8 d6 hd).trans hd.symm) HD ba))
 ·exact aK b o ai (fun oj o9 O9 Cn q=>av (q.trans (Option.some.inj (Cn.symm.trans (I.dict oj O9))))) e
theorem tT.put{h':Heap}{attr:Str}{pv:ah}{qI:Value}(kE:∀b o,∀Y:b≠d6,∀Y:h.get? b=some o,h'.get? b=some o) (yX:h'.Inst x aF fun y=>if y=attr then some qI else ir y) (Pa:bc am h' pv qI) (du:fR h h'):
 j1 prog w am h' d6 (.fields ((attr,pv)::fs)):=by
 refine aj ?_ I.inst;intro o;refine ar ?_;intro e _;refine aj ?_ yX;clear yX;intro cg;refine cI ?_;intro cA _ _ lq;cases Option.some.inj ((kE x o (Ne.symm I.ne) e).symm.trans cA)
 have tU:=I.dict _ e;rcases lq with⟨yY,_⟩|⟨o9,lq,_,Pb⟩
 ·cases tU.symm.trans yY
 ·cases Option.some.inj (tU.symm.trans lq)
  refine⟨_,Pb,fun y=>?_⟩;rw[List.lookup_cons];by_cases au:y=attr
  ·rw[beq_iff_eq.mpr au];exact⟨qI,if_pos au,Pa⟩
  ·rw[beq_eq_false_iff_ne.mpr au,if_neg au];exact GK (List.prefix_refl _) du (I.Ck y)
end
set_option tactic.hygienic true in
theorem bh.jf{am:List Addr}{h:Heap}{st:St}{aF:Addr}{v:ah}{u:Value}{d:Nat}{fs:List (Str×ah)}(S:bh prog w B am h st)(aO:bc am h v u)(e:jf aF v st=some (d,fs)):
 ∃n x d6 ir,tT prog w am h st aF v u d fs n x d6 ir:=by
 refine aj ?_ (tS e);intro n;refine aY ?_;rintro rfl q aE;refine aj ?_ aO.qp;intro x;refine ar ?_;rintro rfl az;obtain⟨lZ,v5,d6,o,ae,af,aH,bX,et,fq⟩:=S.at_ q;cases Option.some.inj (az.symm.trans v5)
 obtain⟨XI,lq,ir,gk,bq⟩:=S.at_ aE;cases Option.some.inj (ae.symm.trans lq)
 exact(dX n x d6 ir ⟨rfl,rfl,az,ae,q,aE,⟨o,af,aH,bX,.inr ⟨d6,et,fq,gk⟩⟩,fun cg e=>(Option.some.inj (af.symm.trans e))▸et,gk,fq,bq⟩)
theorem Pc{am:List Addr}{h:Heap}{x:ah}{v:Value}(aO:bc am h x v):handedOut v=pure v:=by cases aO<;>rfl
noncomputable def sq(aF:Addr)(attr:Str)(v:ah)(Q:∀Y:ah,∀Y:St,Prop) (st:St):Prop:=fY (jf aF v st) fun x=>qz (x.2.lookup attr) Q st
noncomputable def attrP(aF:Addr)(attr:Str)(P:b6):b6:=fun Q loc st=>P (fun v aV=>sq aF attr v Q aV) loc st
set_option tactic.hygienic true in
theorem iL{aF:Addr}{bS:∀Y:Str,Option Value} {e:Expr} {attr:Str} {p:Pos} {P:b6} (X:jx B aF bS) (n0:bS attr=none) (g6:typeLookup (.type "object") attr=pure none) (h:b3 prog w B ak k e P)
 (he:autoParam (∀env,eval (.Attribute e attr p) env=(do
   let o ←eval e env
   standAt p.atName
   let r ←holding [o] (getAttr o attr true)
   letTemporaryGo e o r
   pure r)) Mm._auto_1):
 b3 prog w B ak k (.Attribute e attr p) (attrP aF attr P):=by
 intro A env s am loc st Q aL R S q;refine Attribute_any_ (dZ (h aL R S q) fun v ba bV aV pv bj bk cN bF=>?_) (he env);obtain⟨⟨d,fs⟩,aS,bF⟩:=gH bF;refine dF ?_ (bk.jf cN aS);intro n x d6 ir I;refine aj ?_ (gH bF);intro y;refine ar ?_;intro aW df;refine aj ?_ (I.has aW);intro u;refine ar ?_;intro dQ aC;refine aj ?_ X.at_;intro N mH;refine x9 ?_ mH.obj;intro nm Co bs sn sub col rS nt cT eU iV nu dR;rw[I.Cj];exact load_attr (bk.base _ _ dR) (mH.ns.keeps bk.base) X.ga n0 g6 I.inst dQ (Pc aC) (cF bV aV y ⟨bj.trans (.tok (s:=ba)),bk,aC,df⟩)
noncomputable def Cp(aF:Addr)(attr:Str)(c v:ah)(Q:∀Y:St,Prop) (st:St):Prop:=fY (jf aF c st) fun x=>x.2.length≤1000∧Q (st.set x.1 (.fields ((attr,v)::x.2)))
noncomputable def setattrS(aF:Addr)(attr:Str)(br bK:b6):d8:=fun Q loc st=>br (fun v aV=>bK (fun c cX=>Cp aF attr c v (fun jI=>Q .next loc jI) cX) loc aV) loc st
set_option tactic.hygienic true in
theorem yZ{aF:Addr}{bS:∀Y:Str,Option Value} {o e:Expr} {attr:Str} {p fb:Pos} {br bK:b6} (X:jx B aF bS) (n0:bS attr=none) (g6:typeLookup (.type "object") attr=pure none)
 (bU:b3 prog w B ak k e br) (cZ:b3 prog w B ak k o bK) (hs:autoParam (swapsWith e (some (.Attribute o attr fb)) p.line=fun Y=>pure false) jY._auto_1):
 gx prog w B ak k (.Assign [.Attribute o attr fb] e p) (setattrS aF attr br bK):=by
 intro A env s am loc st Q aL R S q;refine plainObj_wpAny_Assign_Attribute (dZ (bU aL R S q) fun v ba bV aV pv bj bk cN bF=>?_) (by rw[hs]);have gZ:=R.ext S bj.ext;refine dZ (cZ aL gZ bk bF) fun c dw fB cX pc cC cw fT df=>?_;have fZ:=gZ.ext bk cC.ext;obtain⟨⟨d,fs⟩,aS,aD,rP⟩:=gH df;refine dF ?_ (cw.jf fT aS);intro n x d6 ir I;refine aj ?_ X.at_;intro N mH;refine x9 ?_ mH.obj;intro nm Co bs sn sub col rS nt cT eU iV nu dR;rw[I.Cj];have Pd:x≠aF:=fun q=>gh ((cw.off x (List.mem_of_getElem? I.an)).symm.trans (q▸dR));refine store_attr (ns:=fs.map (·.1)) PySem.F.store_object (cw.base _ _ dR) (mH.ns.keeps cw.base) X.bu n0 g6 Pd I.inst (fun h' gm yX aK Cm=>?_) (fun y au=>?_) (by rw[List.length_map,sizeLine_eq];exact Nat.le_trans aD (by decide))
 ·have kE:=I.kept aK Cm;refine ar ?_ (cw.set (o:=.fields ((attr,pv)::fs)) I.ad kE fun du=>I.put kE yX ((cN.j3 bk cC).mono (List.prefix_refl _) du) du);intro fU sr;exact(dX fB _ loc .next ⟨((bj.trans cC).trans (.heap sr)).lg R S,fU,fZ.ext cw sr,.next,rP⟩)
 ·cases e:fs.lookup y with
  |none=>exact absurd (I.HC e) au
  |some yH=>exact List.mem_map.mpr ⟨(y,yH),PySem.mem_of_lookup e,rfl⟩
theorem HE{A:Around}{s:Shared}{am:List Addr}{st:St}{aF f:Addr}{of:Obj}{bS:∀Y:Str,Option Value} {name:Str} {pl:Sem Bool} {y:Option Value} {v:ah} {u:Value} {fs:List (Str×ah)} {d:Nat} {F:∀Y:Value×List Value,∀Y:Shared,Prop}
 (X:jx B aF bS) (bq:bS name=some (.ref f)) (pK:B.get? f=some of) (om:of.cls=.type "function") (g6:typeLookup (.type "object") name=pure y) (S:bh prog w B am s.heap st) (aO:bc am s.heap v u)
 (e:jf aF v st=some (d,fs)) (Pe:fs.lookup name=none) (h:F (.ref f,[u]) s):wpAny (model prog w) A (getMethod u name pl) F bo s:=by
 refine dF ?_ (S.jf aO e);intro n x d6 ir I;refine aj ?_ X.at_;intro N mH;refine x9 ?_ mH.obj;intro nm Co bs sn sub col rS nt cT eU iV nu dR;rw[I.Cj]at h ⊢;exact method_of (S.base _ _ dR) (mH.ns.keeps S.base) X.ga X.gt bq (S.base _ _ pK) om g6 I.inst (I.HC Pe) h
noncomputable def y9(aF:Addr)(name:Str)(v:ah)(st:St):Prop:=fY (jf aF v st) fun x=>x.2.lookup name=none
set_option tactic.hygienic true in
theorem HF{aF:Addr}{name:Str}{v:ah}{st:St}(h:y9 aF name v st):∃d fs,jf aF v st=some (d,fs)∧fs.lookup name=none:=by
 obtain⟨⟨d,fs⟩,e,h⟩:=gH h;exact cE d fs ⟨e,h⟩
noncomputable def methP(aF:Addr)(name:Str)(S:(∀Y:List ah,∀Y:(∀Y:ah,∀Y:St,Prop),∀Y:St,Prop)) (P:b6) (pA:lQ):b6:=fun Q loc st=>P (fun v aV=>y9 aF name v aV∧pA (fun vs cX=>S (v::vs) Q cX) loc aV) loc st
theorem su{aF f:Addr}{of:Obj}{fd:FuncData}{bS:∀Y:Str,Option Value} {o e:Expr} {r:List Expr} {name:Str} {apos pos:Pos} {pl:∀Y:Env,Sem Bool} {y:Option Value} {P:b6} {pA:lQ} {S:∀Y:List ah,∀Y:(∀Y:ah,∀Y:St,Prop),∀Y:St,Prop} (X:jx B aF bS)
 (bq:bS name=some (.ref f)) (pK:B.get? f=some of) (om:of.cls=.type "function") (Cq:of.data=.func fd) (g6:typeLookup (.type "object") name=pure y) (pL:b9 prog w B k (.ref f) S) (bU:b3 prog w B ak k o P) (aJ:qu prog w B ak k (e::r) pA)
 (he:∀env,eval (.Call (.Attribute o name apos) (e::r) [] pos) env=(do
   let l0 ←eval o env
   standAt apos.atName
   let (f,first) ←holding [l0] (getMethod l0 name (pl env))
   callWith pos f first (backTo pos (starEach (e::r) env)) []))
 (hs:autoParam (∀env,starEach (e::r) env=(false,eval e env)::starEach r env) my._auto_1) (aC:autoParam (∀pos env,(backTo pos (starEach r env)).any (·.1)=false) qf._auto_1):
 b3 prog w B ak k (.Call (.Attribute o name apos) (e::r) [] pos) (methP aF name S P pA):=by
 intro A env s am loc st Q aL R fP q;rw[he];refine wpAny_bind (dZ (bU aL R fP q) fun u ba bV aV v bj bk cN bF=>wpAny_bind (wpAny_standAt (wpAny_bind (wpAny_holding ?_))));refine bZ ?_ (HF bF.1);intro d fs;refine ar ?_;intro aS aW;refine HE X bq pK om g6 bk cN aS aW ?_;have k9:=aJ (pos:=pos) aL (R.ext fP bj.ext) bk bF.2;rw[hs]at k9 ⊢;refine G8 (.inr (.inr (cF f of fd ⟨rfl,pK,Cq⟩))) (aC pos env) (tD k9 fun vs dw fB cX qt cC cw fT df=>⟨cw.base,?_⟩);exact wpAny_mono (pL aL cw (.cons (cN.j3 bk cC) fT) df) (fun Y Y z=>dC.over (bj.trans cC) z) fun Y Y z=>z
theorem Pf{aF f:Addr}{of:Obj}{fd:FuncData}{bS:∀Y:Str,Option Value} {o:Expr} {name:Str} {apos pos:Pos} {pl:∀Y:Env,Sem Bool} {y:Option Value} {P:b6} {S:∀Y:List ah,∀Y:(∀Y:ah,∀Y:St,Prop),∀Y:St,Prop} (X:jx B aF bS)
 (bq:bS name=some (.ref f)) (pK:B.get? f=some of) (om:of.cls=.type "function") (Cq:of.data=.func fd) (g6:typeLookup (.type "object") name=pure y) (pL:b9 prog w B k (.ref f) S) (bU:b3 prog w B ak k o P)
 (he:∀env,eval (.Call (.Attribute o name apos) [] [] pos) env=(do
   let l0 ←eval o env
   standAt apos.atName
   let (f,first) ←holding [l0] (getMethod l0 name (pl env))
   callWith pos f first (backTo pos (starEach [] env)) [])):
 b3 prog w B ak k (.Call (.Attribute o name apos) [] [] pos) fun Q loc st=>P (fun v aV=>y9 aF name v aV∧S [v] Q aV) loc st:=by
 intro A env s am loc st Q aL R fP q;rw[he];refine wpAny_bind (dZ (bU aL R fP q) fun u ba bV aV v bj bk cN bF=>wpAny_bind (wpAny_standAt (wpAny_bind (wpAny_holding ?_))));refine bZ ?_ (HF bF.1);intro d fs;refine ar ?_;intro aS aW;refine HE X bq pK om g6 bk cN aS aW ?_;refine callWith_meth0 Cq (bk.base _ _ pK) ?_;exact wpAny_mono (pL aL bk (.cons cN .nil) bF.2) (fun Y Y z=>dC.over bj z) fun Y Y z=>z
noncomputable def Pg(aF:Addr)(S:∀Y:List ah,∀Y:(∀Y:ah,∀Y:St,Prop),∀Y:St,Prop) (Q:∀Y:ah,∀Y:St,Prop) (st:St):Prop:=
 S [.ref (st.length+1)] (fun v ao=>v=.none∧Q (.ref (st.length+1)) ao) (st++[.fields [],.inst aF st.length])
theorem Ph{A:Around}{k:Nat}{c:Addr}(h:gW A (k+1)):gW (A.under (.builtin "type.__call__" ⟨[.ref c],[]⟩)) k:=by
 refine⟨h.1,?_,?_⟩
 ·have:=h.2.1;rw[depth_under_make A c []];exact aA (.b (.a (.a .p (.b .q)) (.k 100)) .r (.t (.a (.a (.b .p) .q) (.k 100)) .r)) rfl this
 ·have af:=h.2.2
  have aH:(A.under (.builtin "type.__call__" ⟨[.ref c],[]⟩)).units≤A.units+10:=by
   show A.units+_≤_;refine Nat.add_le_add_left ?_ _;show Code.cUnits (.builtin "type.__call__" ⟨[.ref c],[]⟩)≤10;exact Nat.le_of_ble_eq_true rfl
  exact bA (.b (.a (.a .s (.m 20 (.b .q))) (.k 100)) .r (.a .p (.a .s (.k 10)) (.t (.a (.a .p (.m 20 .q)) (.k 100)) .r))) rfl af aH
theorem Pj{aF tV:Addr}{HG:Obj}{x:Str}{np p:Pos}{bS:∀Y:Str,Option Value} {S:∀Y:List ah,∀Y:(∀Y:ah,∀Y:St,Prop),∀Y:St,Prop} (az:fN B x (.ref aF)) (X:jx B aF bS) (hi:bS "__init__"=some (.ref tV)) (Pk:B.get? tV=some HG) (om:HG.cls=.type "function")
 (pL:b9 prog w B k (.ref tV) S) (ai:autoParam (ak.kinds.lookup x=some .globalImplicit) jY._auto_1) (hd:autoParam ((x==("__debug__":Str))=false) jE._auto_1):
 b3 prog w B ak (k+1) (.Call (.Name x np) [] [] p) fun Q Y st=>Pg aF S Q st:=by
 intro A env s am loc st Q aL R fP h;refine aj ?_ X.at_;intro N mH;refine x9 ?_ mH.obj;intro nm Co bs sn sub col rS nt cT eU iV nu dR;refine wpAny_Call_ofName (BQ R fP ai az hd ?_);refine callWith_cls0 mH fP.base ?_;obtain⟨bR,g,bP,t,os⟩:=s;refine wpAny_call_obj_init PySem.F.objNew (fP.base _ _ dR) (mH.ns.keeps fP.base) hi (fP.base _ _ Pk) om fun h' lZ d6 hm=>?_;refine aj ?_ hm.inst;intro o;refine cI ?_;intro bx cf sx we;have tU:=hm.dict o bx
 have gk:d6≠lZ∧h'.Ns1 d6 fun Y=>none:=by
  rcases we with⟨yY,_⟩|⟨o9,lq,cP,gk⟩
  ·rw[tU]at yY;cases yY
  ·rw[tU]at lq;cases lq;exact⟨cP,gk⟩
 have hlen:(am++[d6,lZ])[st.length]?=some d6:=by rw[List.getElem?_append_right (by rw[fP.len];exact Nat.le_refl _)];simp[fP.len]
 have Cr:(am++[d6,lZ])[st.length+1]?=some lZ:=by rw[List.getElem?_append_right (by rw[fP.len];exact aI (.l .p (.b .p)) rfl)];simp[fP.len]
 have fresh:∀a,∀Y:bR.get? a=none,a∉am:=fun a e hm=>by refine aj ?_ (fP.there hm);intro bO;refine ar ?_;intro cA _;rw[e]at cA;cases cA
 have HH:∀a,∀Y:bR.get? a=none,B.get? a=none:=fun a e=>by
  cases q:B.get? a with
  |none=>rfl
  |some o=>rw[fP.base a o q]at e;cases e
 have mJ:bh prog w B (am++[d6,lZ]) h' (st++[.fields [],.inst aF st.length]):=by
  refine⟨by simp[fP.len],?_,?_,fun b o e=>hm.keeps b o (fP.base b o e),fun n a cg ae af=>?_⟩
  ·rw[List.nodup_append];refine⟨fP.nodup,by simp[gk.1],fun a aJ b av=>?_⟩;simp only[List.mem_cons,List.not_mem_nil,or_false]at av;rcases av with rfl|rfl
   ·exact fun q=>fresh _ hm.newD (q▸aJ)
   ·exact fun q=>fresh _ hm.newX (q▸aJ)
  ·intro a aJ;simp only[List.mem_append,List.mem_cons,List.not_mem_nil,or_false]at aJ;rcases aJ with aJ|rfl|rfl
   ·exact fP.off a aJ
   ·exact HH _ hm.newD
   ·exact HH _ hm.newX
  ·by_cases bC:n<st.length
   ·rw[List.getElem?_append_left (fP.len▸bC)]at ae;rw[List.getElem?_append_left bC]at af;exact(fP.obj n a cg ae af).mono (List.prefix_append _ _) (fun b o Y e=>hm.keeps b o e) fun bO e=>hm.keeps _ bO e
   ·by_cases aH:n=st.length
    ·subst aH;rw[hlen]at ae;cases ae;rw[List.getElem?_append_right (Nat.le_refl _)]at af;simp at af;subst af;exact⟨_,gk.2,fun y=>rfl⟩
    ·have bX:n=st.length+1:=by
      have:=(List.getElem?_eq_some_iff.mp af).1;simp at this;exact Nat.le_antisymm (aq (.b .p (.a .q (.k 2)) (.l .p (.b .q))) rfl this) ((Nat.lt_or_gt_of_ne aH).elim (fun ay=>aq (.i 2 (.o (.t .q .p)) (.b .q .p (.l (.b .p) .q))) rfl bC ay) (fun aE=>aq (.b .p .q (.l (.b .p) .q)) rfl aE))
     subst bX;rw[Cr]at ae;cases ae;rw[List.getElem?_append_right (by exact aI (.l .p (.b .p)) rfl)]at af;simp at af;subst af;exact(cE d6 o ⟨hlen,bx,cf,sx,tU,gk.1⟩)
 have bW:Ext am bR (am++[d6,lZ]) h':=⟨List.prefix_append _ _,fun b o Y e=>hm.keeps b o e,fun a aJ az=>by
  simp only[List.mem_append,List.mem_cons,List.not_mem_nil,or_false]at aJ;rcases aJ with aJ|rfl|rfl
  ·exact absurd aJ az
  ·exact hm.newD
  ·exact hm.newX⟩
 have t1:c9 am ⟨bR,g,bP,t,os⟩ (am++[d6,lZ]) ⟨h',g,bP,t,os⟩:=.heap (s:=⟨bR,g,bP,t,os⟩) bW;refine dZ (pL (Ph aL) mJ (.cons (.ref Cr) .nil) h) fun v dw fB cX pv cC cw fT df=>?_;refine ar ?_ df;clear df;rintro rfl df;cases fT
 exact⟨rfl,fB,cX,_,t1.trans cC,cw,.ref (o7 cC.ext.pre Cr),df⟩
end Mine
end
section
namespace Mine
variable{prog:Program}{w:World}{B:Heap}{ak:dB}{k:Nat}
noncomputable def oq(aB names:List (Str×NameKind)):List (Str×NameKind):=names.map fun x=>if(x.2==.free&&aB.lookup x.1==some .cell)then(x.1,.cell)else x
noncomputable def iy(ak:dB)(scope:Scope):dB:=g5 (oq ak.kinds scope.names)
theorem HJ{scope:Scope}{env:Env}(aK:env.scope.kind=.function)(az:env.scope.names=ak.kinds):(relabel scope env).names=oq ak.kinds scope.names:=by
 unfold relabel oq;refine List.map_congr_left fun x Y=>?_;obtain⟨n,kd⟩:=x;have:env.kindOf n=ak.kinds.lookup n:=by rw[←az];rfl
 have av:(env.scope.kind==ScopeKind.function)=true:=by rw[aK];rfl
 simp only[av,Bool.and_true,this]
noncomputable def tW(ak:dB)(scope:Scope)(loc:Loc):Loc:=(varNames (oq ak.kinds scope.names)).map fun z=>if scope.names.lookup z=some .free then(match ak.vars.lookup z with|some i=>getV loc i|none=>none)else none
noncomputable def ka(ak:dB)(scope:Scope)(x:Str):Bool:=
 scope.kind==.function&&decide ((scope.names.map (·.1)).Nodup)&&scope.names.all (fun y=>!(y.2==.free)||((ak.vars.lookup y.1).isSome&&(ak.kinds.lookup y.1==some .cell||ak.kinds.lookup y.1==some .free)))&&(scope.names.lookup x==some .local||scope.names.lookup x==some .cell)
noncomputable def tX(prog:Program)(w:World)(B:Heap)(ak:dB)(k:Nat)(ifs:List Expr)(P:e9):Prop:=
 ∀⦃A:Around⦄⦃env:Env⦄⦃s:Shared⦄⦃am:List Addr⦄⦃loc:Loc⦄⦃st:St⦄⦃Q:∀Y:Bool,∀Y:St,Prop⦄,∀Y:gW A k,∀Y:d7 B ak env am s.heap loc,∀Y:bh prog w B am s.heap st,∀Y:P Q loc st,
  wpAny (model prog w) A (forIn ifs true fun c r=>if r=true then do let ok ←isTrue c env (eval c env);pure (ForInStep.yield ok)else pure (ForInStep.yield r)) (qs prog w B am s Q) bo s
theorem ou:tX prog w B ak k [] fun Q Y st=>Q true st:=by
 intro A env s am loc st Q aL R S h;exact wpAny_tests_nil (cE am st ⟨.refl,S,h⟩)
theorem za{c:Expr}{P:e9}(h:jG prog w B ak k c P):tX prog w B ak k [c] P:=by
 intro A env s am loc st Q aL R S q;rw[List.forIn_cons];refine wpAny_bind ?_;rw[if_pos rfl];refine wpAny_bind (rO (h aL R S q) fun b ba bV aV bj bk bF=>wpAny_pure ?_);show wpAny _ _ (forIn [] b _) _ _ _;rw[List.forIn_nil];exact wpAny_pure (cE bV aV ⟨bj,bk,bF⟩)
theorem Pn{A:Around}{s:Shared}{l:Addr}{items:Array Value}{n:Nat}{x:Value}{F:∀Y:Value,∀Y:Shared,Prop} (aD:IsL s.heap l items n) (a7:F .none {s with heap:=s.heap.update l (Obj.mapSeq (·.push x))}) (c8:items.size≤1000000):
 wpAny (model prog w) A (call (.builtin "list.append") [.ref l,x]) F bo s:=by
 refine wpAny_call_entry slot_list_append aD.isList.typeIs entry_list_append ?_ (args_list_append _ _);show wpAny _ _ (updateSeq l (·.push x)>>=fun Y=>ret .none) _ _ s;exact wpAny_bind (wpAny_updateSeq aD rfl (wpAny_pure ⟨.none,rfl,a7⟩) (Nat.le_trans c8 (by decide)) (by rw[Array.size_push];exact Nat.le_trans (Nat.succ_le_succ c8) (by decide)))
theorem Po{A:Around}{s:Shared}{am:List Addr}{st:St}{x:ah}{I:Addr}{i:Nat}{F:∀Y:Value,∀Y:Shared,Prop} (aL:A.handled=none) (S:bh prog w B am s.heap st) (bE:iI am s.heap I x i) (Cs:I∉am) (ll:∃o,s.heap.get? I=some o∧¬Kept o) (fc:(jv x st).isSome=true) (h:F (.ref I) s):
 wpAny (model prog w) A (pyIter (.ref I)) F bo s:=by
 cases x with
 |tup xs=>
  refine bG ?_ bE;clear bE;intro a items n;refine aY ?_;intro cG bf aC
  have cP:a≠I:=fun q=>by
   refine aj ?_ ll;clear ll;intro o;refine ar ?_;intro e aK;rw[←q,bf]at e;cases e;exact aK (.inl ⟨rfl,_,_,rfl⟩)
  exact(Walks.tuple aL I a cP items).self i s _ _ ⟨cG,_,bf,rfl,_,rfl⟩ h
 |ref n=>
  refine aj ?_ bE;clear bE;intro a;refine ar ?_;intro az cG;refine aj ?_ (Option.isSome_iff_exists.mp fc);intro xs e;refine dF ?_ (S.listAt (.ref az) e);intro _ r6 vs m;refine dH ?_;intro ae af hm _ aD aC;cases ae;cases af
  exact(Walks.list aL I a (fun q=>Cs (q▸List.mem_of_getElem? az)) vs.toArray).self i s _ _ ⟨cG,aD.isList⟩ h
 |range a b=>
  refine(Walks.range aL I a 1 (b-a).toNat).self i s _ _ ?_ h;rw[Int.mul_one];exact bE
 |_=>exact bE.elim
noncomputable def wg(env:Env)(names:List (Str×NameKind)):List (Str×Addr):=((names.filter fun x=>x.2==NameKind.free).map fun x=>(x.1,(env.cells.lookup x.1).getD 0)).reverse
theorem Pp{env:Env}(names:List (Str×NameKind)):∀acc:List (Str×Addr),∀Y:(∀n,∀Y:(n,NameKind.free)∈names,∃c,env.cells.lookup n=some c),
 (forIn names acc fun(x:Str×NameKind)(cs:List (Str×Addr))=>(if(x.2==NameKind.free)=true then(do let c ←cellOf env x.1;pure (ForInStep.yield ((x.1,c)::cs)))else pure (ForInStep.yield cs):Sem (ForInStep (List (Str×Addr)))))=pure (wg env names++acc):=by
 induction names with
 |nil=>intro acc _;rw[List.forIn_nil];rfl
 |cons x r ih=>
  intro acc h;rw[List.forIn_cons];unfold wg at ih ⊢;by_cases aK:(x.2==NameKind.free)=true
  ·refine aj ?_ (h x.1 (eq_of_beq aK▸.head _));intro c aG;have aS:cellOf env x.1=pure c:=by unfold cellOf;rw[aG]
   rw[if_pos aK,aS,pure_bind,pure_bind,List.filter_cons_of_pos (p:=fun x:Str×NameKind=>x.2==NameKind.free) aK,List.map_cons,List.reverse_cons,List.append_assoc,aG];exact ih _ fun m hm=>h m (.tail _ hm)
  ·rw[if_neg aK,pure_bind,List.filter_cons_of_neg (p:=fun x:Str×NameKind=>x.2==NameKind.free) aK];exact ih _ fun m hm=>h m (.tail _ hm)
theorem HK{env:Env}(names:List (Str×NameKind))(acc:List (Str×Addr))(h:∀n,∀Y:(n,NameKind.free)∈names,∃c,env.cells.lookup n=some c):
 ∃cl,(forIn names acc fun(x:Str×NameKind)(cs:List (Str×Addr))=>(if(x.2==NameKind.free)=true then(do let c ←cellOf env x.1;pure (ForInStep.yield ((x.1,c)::cs)))else pure (ForInStep.yield cs):Sem (ForInStep (List (Str×Addr)))))=pure (cl++acc)
  ∧(∀n c,∀Y:(n,c)∈cl,(n,NameKind.free)∈names∧env.cells.lookup n=some c)∧(∀n,∀Y:(n,NameKind.free)∈names,n∈cl.map (·.1))∧(∀Y:(names.map (·.1)).Nodup,(cl.map (·.1)).Nodup):=by
 refine⟨wg env names,Pp names acc h,fun n c hm=>?_,fun n hm=>?_,fun d4=>?_⟩
 ·obtain⟨⟨m,kd⟩,ai,e⟩:=List.mem_map.mp (List.mem_reverse.mp hm);cases e
  have q:=List.mem_filter.mp ai;cases eq_of_beq q.2
  refine aj ?_ (h m q.1);intro c aG;exact⟨q.1,by rw[aG];rfl⟩
 ·rw[wg,List.map_reverse,List.mem_reverse,List.map_map];exact List.mem_map.mpr ⟨(n,.free),List.mem_filter.mpr ⟨hm,rfl⟩,rfl⟩
 ·rw[wg,List.map_reverse,(List.reverse_perm _).nodup_iff,List.map_map];exact d4.sublist (List.filter_sublist.map _)
theorem zb{names:List (Str×NameKind)}{x:Str}{c:Addr}:∀{n:Nat}{acc:List (Str×Addr)},∀Y:(x,c)∈cellsFrom n names acc,(x,c)∈acc∨((x,NameKind.cell)∈names∧n≤c):=by
 induction names with
 |nil=>exact .inl
 |cons z r ih=>
  intro n acc h;unfold cellsFrom at h
  split at h
  ·rename_i aK;rcases ih h with h|h
   ·rcases List.mem_cons.mp h with q|h
    ·cases q;exact .inr ⟨eq_of_beq aK▸List.mem_cons_self ..,Nat.le_refl _⟩
    ·exact .inl h
   ·exact .inr ⟨.tail _ h.1,Nat.le_of_succ_le h.2⟩
  ·exact(ih h).imp id fun h=>⟨.tail _ h.1,h.2⟩
theorem Pq{names:List (Str×NameKind)}:∀{n:Nat}{acc:List (Str×Addr)},∀Y:acc.Pairwise (fun x y=>x.2≠y.2),∀Y:(∀x∈acc,x.2<n),(cellsFrom n names acc).Pairwise fun x y=>x.2≠y.2:=by
 induction names with
 |nil=>exact fun h Y=>h
 |cons z r ih=>
  intro n acc h aD;unfold cellsFrom
  split
  ·refine ih (List.pairwise_cons.mpr ⟨fun x ai q=>Nat.lt_irrefl n ((show n=x.2 from q)▸aD x ai),h⟩) fun x ai=>?_;rcases List.mem_cons.mp ai with rfl|ai
   ·exact Nat.lt_succ_self _
   ·exact Nat.lt_succ_of_lt (aD x ai)
  ·exact ih h aD
theorem Pr{names:List (Str×NameKind)}{x:Str}:∀{n:Nat}{acc:List (Str×Addr)},∀Y:(x,NameKind.cell)∉names,(cellsFrom n names acc).lookup x=acc.lookup x:=by
 induction names with
 |nil=>exact fun Y=>rfl
 |cons z r ih=>
  intro n acc h;unfold cellsFrom
  split
  ·rename_i aK;rw[ih fun q=>h (.tail _ q),qF,if_neg fun q=>h (by rw[q,←eq_of_beq aK];exact .head _)]
  ·exact ih fun q=>h (.tail _ q)
theorem HL{names:List (Str×NameKind)}{x:Str}{c:Addr}:∀{h:Heap}{acc:List (Str×Addr)},∀Y:(x,c)∈cellsFrom h.objs.size names acc,(x,c)∈acc∨(pushCells h names).IsCell c none:=by
 induction names with
 |nil=>exact .inl
 |cons z r ih=>
  intro h acc hm;unfold cellsFrom at hm;unfold pushCells
  split at hm
  ·rename_i aK;rw[if_pos aK];rw[←Heap.size_push h {cls:=.type "cell",data:=.cell none}]at hm;rcases ih hm with hm|hm
   ·rcases List.mem_cons.mp hm with q|hm
    ·cases q
     exact .inr (Heap.IsCell.keeps (h:=h.push {cls:=.type "cell",data:=.cell none}) ⟨_,Heap.get?_push_size _ rfl,rfl⟩ (pushCells_keeps _ _))
    ·exact .inl hm
   ·exact .inr hm
  ·rename_i aK;rw[if_neg aK];exact ih hm
theorem HM{aB names:List (Str×NameKind)}{n:Str}{kd:NameKind}(h:(oq aB names).lookup n=some kd):∃l3,names.lookup n=some l3∧kd=if(l3==.free&&aB.lookup n==some .cell)then .cell else l3:=by
 induction names with
 |nil=>exact gh h
 |cons z r ih=>
  obtain⟨y,l3⟩:=z
  have e:oq aB ((y,l3)::r)=(y,if(l3==.free&&aB.lookup y==some .cell)then .cell else l3)::oq aB r:=by
   unfold oq;rw[List.map_cons];congr 1;split<;>rfl
  rw[e,qF]at h;rw[qF];by_cases q:n=y
  ·subst q;rw[if_pos rfl]at h ⊢;exact⟨l3,rfl,(Option.some.inj h).symm⟩
  ·rw[if_neg q]at h ⊢;exact ih h
theorem Ps(aB:List (Str×NameKind))(names:List (Str×NameKind)):(oq aB names).map (·.1)=names.map (·.1):=by
 unfold oq;rw[List.map_map];refine List.map_congr_left fun x Y=>?_;show(if _ then(x.1,NameKind.cell)else x).1=x.1
 split<;>rfl
theorem HN{f:∀Y:Str,Option ah}:∀(l:List Str)(i:Nat)(z:Str),∀Y:l[i]?=some z,getV (l.map f) i=f z
 |y::r,0,z,h=>by cases h;rfl
 |y::r,i+1,z,h=>HN r i z (by simpa using h)
theorem Ct:∀(l:Loc)(i:Nat)(u v:ah),setV (setV l i u) i v=setV l i v
 |[],_,_,_=>rfl
 |_::_,0,_,_=>rfl
 |_::r,i+1,u,v=>congrArg (_::·) (Ct r i u v)
noncomputable def compEnv(scope:Scope)(cells:List (Str×Addr))(L:Addr)(env:Env):Env:=
 {scope:=relabel scope env,locals:=L,globals:=env.globals,cells,qual:=env.qual,func:=none,code:=env.code,frame:=env.frame,builtins:=env.builtins}
theorem HO{scope:Scope}{x:Str}{env:Env}{am:List Addr}{h:Heap}{loc:Loc}{st:St}(dh:ka ak scope x=true)(R:d7 B ak env am h loc)(S:bh prog w B am h st):
 ∃cl,closureFor scope env=pure cl∧∀(c:String),d7 B (iy ak scope) (compEnv scope (cellsFrom (h.objs.size+1) scope.names cl) h.objs.size env) am (pushCells (h.push {cls:=.type c,data:=.dict #[]}) scope.names) (tW ak scope loc):=by
 simp only[ka,Bool.and_eq_true,beq_iff_eq,decide_eq_true_eq]at dh;refine ar ?_ dh;clear dh;refine ar ?_;refine ar ?_;intro yU se;intro Cb;intro Cc
 have HP:∀n,∀Y:(n,NameKind.free)∈scope.names,∃i c v,ak.vars.lookup n=some i∧(ak.kinds.lookup n=some .cell∨ak.kinds.lookup n=some .free)∧env.cells.lookup n=some c∧h.IsCell c v∧∀pv,∀Y:getV loc i=some pv,∃u,v=some u∧bc am h pv u:=fun n az=>by
  have:=List.all_eq_true.mp Cb _ az;simp only[beq_self_eq_true,Bool.not_true,Bool.false_or,Bool.and_eq_true,Bool.or_eq_true,beq_iff_eq]at this;refine aj ?_ (Option.isSome_iff_exists.mp this.1);intro i hi;refine aj ?_ (R.var n i hi);intro v;refine ar ?_;intro b7 aD;have pM:env.kindOf n=ak.kinds.lookup n:=by rw[←R.lP];rfl
  rcases b7 with⟨aK,_⟩|⟨_,c,aG,k4⟩
  ·rw[pM]at aK;rcases this.2 with q|q<;>rw[q]at aK<;>cases aK
  ·exact(cF i c v ⟨hi,this.2,aG,k4,aD⟩)
 refine aj ?_ (HK (env:=env) scope.names [] fun n az=>let ⟨_,c,_,_,_,aG,_⟩:=HP n az;⟨c,aG⟩);intro cl;refine cI ?_;intro e ae af aH;refine⟨cl,?_,fun wh=>?_⟩
 ·rw[List.append_nil]at e;rw[←e];unfold closureFor;show(forIn scope.names [] _>>=fun r=>pure r)=_;rw[bind_pure]
 have c8:(h.push {cls:=.type wh,data:=.dict #[]}).objs.size=h.objs.size+1:=Heap.size_push ..;have cv:∀b o,∀Y:h.get? b=some o,(pushCells (h.push {cls:=.type wh,data:=.dict #[]}) scope.names).get? b=some o:=fun b o e=>pushCells_keeps _ _ b o (Heap.get?_push_of_some _ e);have du:fR h (pushCells (h.push {cls:=.type wh,data:=.dict #[]}) scope.names):=fun b o Y e=>cv b o e;have gk:(pushCells (h.push {cls:=.type wh,data:=.dict #[]}) scope.names).Ns h.objs.size fun Y=>none:=(Heap.Ns.new h (.type wh)).keeps (pushCells_keeps _ _)
 have off:∀b,∀Y:h.objs.size≤b,b∉am∧B.get? b=none:=fun b av=>⟨fun hm=>absurd (S.lt hm) (Nat.not_lt.mpr av),by
  cases e:B.get? b with
  |none=>rfl
  |some o=>exact absurd (Heap.lt_size (S.base b o e)) (Nat.not_lt.mpr av)⟩
 have tY:∀n c,∀Y:(n,c)∈cl,c∈Own env∧c<h.objs.size:=fun n c hm=>by
  have n9:=(ae n c hm).2
  have g7:c∈Own env:=by
   simp only[Own,List.mem_cons,List.mem_map];exact .inr ⟨_,PySem.mem_of_lookup n9,rfl⟩
  refine ar ?_ (R.own c g7);refine aj ?_;intro o;refine ar ?_;intro e _;intro _;exact⟨g7,Heap.lt_size e⟩
 have HQ:=aH se
 have lk:∀n,∀Y:(n,NameKind.free)∈scope.names,(cellsFrom (h.objs.size+1) scope.names cl).lookup n=env.cells.lookup n:=fun n az=>by
  have sx:(n,NameKind.cell)∉scope.names:=fun q=>by
   have aS:=pJ se az;have aW:=pJ se q;rw[aS]at aW;cases aW
  rw[Pr sx];obtain⟨⟨m,d⟩,hm,rfl⟩:=List.mem_map.mp (af n az);rw[pJ HQ hm,(ae m d hm).2]
 refine⟨yU,HJ R.iG R.lP,R.n3,R.o8,(fun Y h=>nomatch h),fun x y i=>B7,⟨_,gk⟩,fun b av=>?_,?_,fun c aG=>?_,fun y i au=>?_⟩
 ·rcases List.mem_cons.mp av with rfl|av
  ·refine bG ?_ gk;clear gk;intro o a9 ep;refine aY ?_;intro e d _;exact⟨⟨o,e,by rintro(⟨_,_,_,q⟩|⟨_,_,q⟩|⟨_,_,q⟩)<;>rw[d]at q<;>cases q⟩,off _ (Nat.le_refl _)⟩
  ·obtain⟨⟨n,c⟩,aG,rfl⟩:=List.mem_map.mp av;have kZ:(n,c)∈cellsFrom (h.objs.size+1) scope.names cl:=aG;have d5:=zb kZ;rw[←c8]at kZ;rcases HL kZ with hm|⟨o,e,d⟩
   ·refine aY ?_ (R.own c (tY n c hm).1);refine aj ?_;intro o;refine ar ?_;intro e aK;intro af aH;exact⟨⟨o,cv c o e,aK⟩,af,aH⟩
   ·refine⟨⟨o,e,by rintro(⟨_,_,_,q⟩|⟨_,_,q⟩|⟨_,_,q⟩)<;>rw[d]at q<;>cases q⟩,?_⟩;rcases d5 with hm|⟨_,d5⟩
    ·exact(R.own c (tY n c hm).1).2
    ·exact off c (by exact aq (.a (.b .p) .q (.l .p .q)) rfl d5)
 ·refine Pq ?_ fun x ai=>Nat.lt_succ_of_lt (tY x.1 x.2 ai).2;rw[List.pairwise_iff_getElem];intro i j hi aP iH q;have f3:=ae cl[i].1 cl[i].2 (List.getElem_mem hi);have f5:=ae cl[j].1 cl[j].2 (List.getElem_mem aP);have aS:=PySem.mem_of_lookup f3.2;have aW:=PySem.mem_of_lookup f5.2;rw[←q]at aW;have cz:=name_of_addr R.apart aS aW;have az:=(List.pairwise_iff_getElem.mp HQ) i j (by simpa using hi) (by simpa using aP) iH;simp[cz]at az
 ·have kZ:c∈cellsFrom (h.objs.size+1) scope.names cl:=aG;rcases zb (x:=c.1) (c:=c.2) kZ with hm|⟨_,d5⟩
  ·exact Nat.ne_of_lt (tY _ _ hm).2
  ·exact Nat.ne_of_gt d5
 ·have aU:=(v9 au).2;rw[Nat.sub_zero]at aU;have qJ:getV (tW ak scope loc) i=(if scope.names.lookup y=some .free then(match ak.vars.lookup y with|some i=>getV loc i|none=>none)else none):=HN _ _ _ aU;refine aj ?_ (Hv (Hx au) (by rw[Ps];exact se));intro kd;refine ar ?_;intro eG aO;refine aj ?_ (HM eG);intro l3;refine ar ?_;intro sy zc
  have pM:(compEnv scope (cellsFrom (h.objs.size+1) scope.names cl) h.objs.size env).kindOf y=some kd:=by
   show(relabel scope env).names.lookup y=_;rw[HJ R.iG R.lP];exact eG
  by_cases bq:l3=.free
  ·subst bq;have ez:=PySem.mem_of_lookup sy;refine bG ?_ (HP y ez);intro j c v;refine eY ?_;intro aP HR aG k4 aD
   have Cu:kd=.cell∨kd=.free:=by
    rw[zc];split
    ·exact .inl rfl
    ·exact .inr rfl
   refine⟨v,.inr ⟨by rcases Cu with q|q<;>rw[q]at pM<;>simp[pM],c,by rw[←aG];exact lk y ez,k4.keeps cv⟩,fun pv e=>?_⟩;rw[qJ,if_pos sy,aP]at e;refine aj ?_ (aD pv e);intro u;refine ar ?_;intro aS aW;exact⟨u,aS,aW.mono (List.prefix_refl _) du⟩
  ·have Cu:kd=l3:=by
    rw[zc,if_neg];simp[bq]
   rw[Cu]at pM aO
   have HS:∀pv,getV (tW ak scope loc) i≠some pv:=fun pv e=>by
    rw[qJ,if_neg (by rw[sy];exact fun q=>bq (Option.some.inj q))]at e;cases e
   cases l3<;>first|exact absurd rfl bq|(cases aO;done)|skip
   ·exact⟨none,.inl ⟨pM,_,gk,rfl⟩,fun pv e=>absurd e (HS pv)⟩
   ·refine aj ?_ (Option.isSome_iff_exists.mp (B8 (n:=h.objs.size+1) (acc:=cl) (.inl sy)));intro c aG;have jd:(y,c)∈cellsFrom (h.objs.size+1) scope.names cl:=PySem.mem_of_lookup aG
    have nj:(y,c)∉cl:=fun hm=>by
     have:=pJ se (ae y c hm).1;rw[sy]at this;cases this
    rw[←c8]at jd;refine⟨none,.inr ⟨.inl pM,c,aG,?_⟩,fun pv e=>absurd e (HS pv)⟩;exact(HL jd).resolve_left nj
end Mine
end
section
namespace Mine
variable{prog:Program}{w:World}{B:Heap}{ak:dB}{k:Nat}
noncomputable def qK(P:b6)(xi:Nat)(mk:∀Y:Loc,Loc) (b4:e9) (fE:b6):b6:=fun Q loc st=>P (fun v aV=>∃(xs:List ah)(I:∀Y:Nat,∀Y:St,Prop),I 0 (aV++[.list []])∧∀n ao,∀Y:I n ao,jv v ao=some xs∧
 match xs[n]? with
 |some y=>b4 (fun b cX=>if b=true then fE (fun u jI=>pH (.ref aV.length) u (fun Y kC=>I (n+1) kC) jI) (setV (mk loc) xi y) cX else I (n+1) cX) (setV (mk loc) xi y) ao
 |none=>Q (.ref aV.length) ao) loc st
theorem Pu{A:Around}{s:Shared}{scope:Scope}{cl:List (Str×Addr)}{env:Env}{F:∀Y:Env,∀Y:Shared,Prop}
 (h:F {scope,locals:=s.heap.objs.size,globals:=env.globals,cells:=cellsFrom (s.heap.objs.size+1) scope.names cl,qual:=env.qual,func:=none,code:=env.code,frame:=env.frame,builtins:=env.builtins}
   {s with heap:=pushCells (s.heap.push {cls:=.type "dict",data:=.dict #[]}) scope.names}):
 wpAny (model prog w) A (newFunctionEnv scope env.globals cl [] env.qual none .none (some env)) F bo s:=by
 simp only[newFunctionEnv,Option.isSome_some,if_true];refine wpAny_bind (wpAny_alloc ?_);refine wpAny_bind (wpAny_layCells _ (fun name kind cells=>by cases HR:kind==NameKind.cell<;>simp[HR]) _ _ _ _ ?_);rw[show({s with heap:=s.heap.push {cls:=.type "dict",data:=.dict #[]}}:Shared).heap.objs.size=s.heap.objs.size+1 from Heap.size_push ..];refine wpAny_bind ?_;rw[List.forIn_nil];exact wpAny_pure (wpAny_pure h)
theorem c9.gY{am aX:List Addr}{s s':Shared}{I:Addr}{h':Heap}{tk:Nat}{d:Drawn}(x:c9 am s aX s')(bE:s.heap.get? I=none)(k:∀b o,∀Y:b≠I,∀Y:s'.heap.get? b=some o,h'.get? b=some o):c9 am s aX {s' with heap:=h',toks:=tk,drawn:=d}:=by
 obtain⟨⟨h,t,o9,rfl⟩,a⟩:=x;exact⟨(cF _ _ _ rfl),a.pre,fun b o ae e=>k b o (fun q=>by rw[q,bE]at e;cases e) (a.keep b o ae e),a.fresh⟩
section
variable{elt iter:Expr}{x:Str}{px:Pos}{ifs:List Expr}{scope:Scope}{pos:Pos}{xi:Nat}{P fE:b6}{b4:e9}
theorem Pw(dh:ka ak scope x=true):scope.names.map (·.1) |>.Nodup:=by
 unfold ka at dh;rw[Bool.and_eq_true,Bool.and_eq_true,Bool.and_eq_true,decide_eq_true_iff]at dh;exact dh.1.1.2
theorem Px(dh:ka ak scope x=true){n:Str}(az:(n,NameKind.free)∈scope.names):∃i,ak.vars.lookup n=some i∧(ak.kinds.lookup n=some .cell∨ak.kinds.lookup n=some .free):=by
 unfold ka at dh;rw[Bool.and_eq_true,Bool.and_eq_true]at dh;have h:=List.all_eq_true.mp dh.1.2 _ az;rw[Bool.or_eq_true,Bool.and_eq_true,Bool.or_eq_true,beq_iff_eq,beq_iff_eq]at h;rcases h with h|h
 ·cases h
 ·refine aj ?_ (Option.isSome_iff_exists.mp h.1);intro i hi;exact⟨i,hi,h.2⟩
theorem HT(dh:ka ak scope x=true):scope.names.lookup x=some .local∨scope.names.lookup x=some .cell:=by
 unfold ka at dh;rw[Bool.and_eq_true,Bool.or_eq_true,beq_iff_eq,beq_iff_eq]at dh;exact dh.2
theorem Py(dh:ka ak scope x=true):(x,NameKind.free)∉scope.names:=fun e=>by
 have:=pJ (Pw dh) e;rcases HT dh with q|q<;>cases q.symm.trans this
theorem Pz(dh:ka ak scope x=true):(iy ak scope).kinds.lookup x≠some .free:=fun e=>by
 refine aj ?_ (HM e);intro l3;refine ar ?_;intro sy zc;rcases HT dh with q|q<;>cases q.symm.trans sy<;>simp at zc
theorem PA{env:Env}{am:List Addr}{h:Heap}{loc:Loc}{cl:List (Str×Addr)}(dh:ka ak scope x=true)(R:d7 B ak env am h loc)(cf:closureFor scope env=pure cl):
 ∀n c,∀Y:(n,c)∈cl,(n,NameKind.free)∈scope.names∧env.cells.lookup n=some c:=by
 refine aj ?_ (HK (env:=env) scope.names [] fun n az=>by
  refine aj ?_ (Px dh az);intro i;refine ar ?_;intro hi eG;refine aj ?_ (R.var n i hi);intro v;refine ar ?_;intro b7 aD;have pM:env.kindOf n=ak.kinds.lookup n:=by rw[←R.lP];rfl
  rcases b7 with⟨aK,_⟩|⟨_,c,aG,k4⟩
  ·rw[pM]at aK;rcases eG with q|q<;>cases q.symm.trans aK
  ·exact⟨c,aG⟩);intro HU;refine cI ?_;intro cz g1 _ _
 have jg:closureFor scope env=pure HU:=by
  rw[List.append_nil]at cz;rw[←cz];unfold closureFor;show(forIn scope.names [] _>>=fun r=>pure r)=_;rw[bind_pure]
 have g8:(Sem.pure cl:Sem _)=Sem.pure HU:=cf.symm.trans jg;injection g8 with g8
 exact g8▸g1
theorem Cv{am aX:List Addr}{s s':Shared}{st:St}{bQ:Addr}{pv:ah}{j:Nat}(S:bh prog w B am s.heap st)(hi:iI am s.heap bQ pv j)(az:bQ∉am)(aK:∃o,s.heap.get? bQ=some o∧¬Kept o) (t:c9 am s aX s'):
 iI aX s'.heap bQ pv j∧bQ∉aX∧∃o,s'.heap.get? bQ=some o∧¬Kept o:=by
 refine aj ?_ aK;clear aK;intro o;refine ar ?_;intro e aK;have aW:=t.ext.keep bQ o az e;exact⟨hi.at_ t.ext.pre (S.gI t.ext) (fun cg cA=>(Option.some.inj (e.symm.trans cA))▸aW),(fun hm=>gh ((t.ext.fresh bQ hm az).symm.trans e)),o,aW,aK⟩
noncomputable def PB(b4:e9)(fE:b6)(xi nl:Nat)(mK:Loc)(I:∀Y:Nat,∀Y:St,Prop) (Q:∀Y:ah,∀Y:St,Prop) (pv:ah) (xs:List ah):Prop:=∀n ao,∀Y:I n ao,jv pv ao=some xs∧
 match xs[n]? with
 |some y=>b4 (fun b cX=>if b=true then fE (fun u jI=>pH (.ref nl) u (fun Y kC=>I (n+1) kC) jI) (setV mK xi y) cX else I (n+1) cX) (setV mK xi y) ao
 |none=>Q (.ref nl) ao
noncomputable abbrev CompI(prog:Program)(w:World)(B:Heap)(ak:dB)(iz:Env)(l4:Shared)(ow am:List Addr)(bQ:Addr)(pv:ah)(xs:List ah)(xi:Nat)(mK:Loc)(I:∀Y:Nat,∀Y:St,Prop) (n:Nat) (s':Shared):Prop:=
 ∃aX ao wi i,c9 ow l4 aX s'∧am <+: aX∧bh prog w B aX s'.heap ao∧d7 B ak iz aX s'.heap wi∧(∀y,setV wi xi y=setV mK xi y)∧
  iI aX s'.heap bQ pv i∧bQ∉aX∧(∃o,s'.heap.get? bQ=some o∧¬Kept o)∧I i ao∧n=xs.length-i
theorem PC(cu:tX prog w B (iy ak scope) k ifs b4)(g9:b3 prog w B (iy ak scope) k elt fE)(ai:(iy ak scope).vars.lookup x=some xi)(PD:(iy ak scope).kinds.lookup x≠some .free)
 {A:Around}{iz:Env}{l4 s:Shared}{ow am:List Addr}{st:St}{mK:Loc}{bQ D:Addr}{nl:Nat}{pv:ah}{xs:List ah}{I:∀Y:Nat,∀Y:St,Prop} {Q:∀Y:ah,∀Y:St,Prop} {RR:∀Y:Result,∀Y:Shared,Prop} (aL:gW A k)
 (mE:bQ∉Own iz) (r3:B.get? bQ=none) (HV:l4.heap.get? bQ=none) (Cw:∀L,∀Y:(L=iz.locals∨(x,L)∈iz.cells),l4.heap.get? L=none) (turn:PB b4 fE xi nl mK I Q pv xs) (tZ:am[nl]?=some D)
 (t:c9 ow l4 am s) (S:bh prog w B am s.heap st) (R:d7 B (iy ak scope) iz am s.heap mK) (cG:iI am s.heap bQ pv 0) (yN:bQ∉am) (rZ:∃o,s.heap.get? bQ=some o∧¬Kept o) (aM:I 0 st)
 (Cx:∀s' aX ao loc,∀Y:c9 ow l4 aX s',∀Y:bh prog w B aX s'.heap ao,∀Y:aX[nl]?=some D,∀Y:d7 B (iy ak scope) iz aX s'.heap loc,∀Y:Q (.ref nl) ao,RR (.ok .next) s'):
 codeAny (model prog w) A (.compLoop (.ListComp elt [⟨.Name x px,iter,ifs,0⟩] scope pos) 0 (.ref bQ) (.ref D) iz) RR s:=by
 refine codeAny_compLoop_tests (CompI prog w B (iy ak scope) iz l4 ow am bQ pv xs xi mK I) ?_ _ (dX am st mK 0 ⟨t,List.prefix_refl _,S,R,fun Y=>rfl,cG,yN,rZ,aM,rfl⟩) (by intro _;rfl);clear t S R cG yN rZ aM;intro n s';refine dF ?_;intro aX ao wi j;refine Mt ?_;rintro e8 qG dJ kB zd jM qA qB rY rfl;refine ar ?_ (turn _ _ rY);intro fc pE
 have mk {fj:Shared} {iu:List Addr} {t6:St} {Cy:Loc} (aM:j<xs.length) (ae:c9 ow l4 iu fj) (af:am <+: iu) (aH:bh prog w B iu fj.heap t6) (bX:d7 B (iy ak scope) iz iu fj.heap Cy) (et:∀y,setV Cy xi y=setV mK xi y)
  (fq:iI iu fj.heap bQ pv (j+1)∧bQ∉iu∧∃o,fj.heap.get? bQ=some o∧¬Kept o) (jh:I (j+1) t6):∃m,m<xs.length-j∧CompI prog w B (iy ak scope) iz l4 ow am bQ pv xs xi mK I m fj:=
  ⟨_,Nat.sub_lt_sub_left aM (Nat.lt_succ_self j),iu,t6,Cy,j+1,ae,af,aH,bX,et,fq.1,fq.2.1,fq.2.2,jh,rfl⟩
 generalize CompI prog w B (iy ak scope) iz l4 ow am bQ pv xs xi mK I=K at mk ⊢;clear turn;refine never (yM aL.1 dJ jM qB fc ⟨fun y qI cZ qC au iJ qD aO yO=>?_,fun cZ qC hle iJ=>?_⟩)
 ·rw[au]at pE;have bC:=(List.getElem?_eq_some_iff.mp au).1;refine ar ?_ (dJ.gY iJ ⟨qB,qA,r3⟩);intro ze lW;have Cz:d7 B (iy ak scope) iz aX cZ wi:=kB.at_ (fun a aJ o e=>iJ a o (fun q=>mE (q▸aJ)) e) lW;have n8:c9 ow l4 aX {s' with heap:=cZ,toks:=qC}:=e8.gY HV iJ;refine wpAny_assign_Name (never (BU (s:={s' with heap:=cZ,toks:=qC}) Cz ze ai PD (aO.mono (List.prefix_refl _) lW) fun qL eP wj CA wk PE zf zg=>?_))
  have t7:qL∈Own iz:=by
   rcases wj with rfl|hm
   ·exact List.mem_cons_self ..
   ·exact List.mem_cons_of_mem _ (List.mem_map.mpr ⟨_,hm,rfl⟩)
  have HW:bQ≠qL:=fun q=>mE (q▸t7)
  have vV:c9 ow l4 aX eP:=by
   refine bG ?_ CA;clear CA;rintro aH lr iM rfl;exact n8.gY (Cw qL wj) wk
  have HX:fR cZ eP.heap:=fun b o bx e=>wk b o (fun q=>by
   refine ar ?_ (Cz.own qL t7);refine aj ?_;intro bO;refine ar ?_;intro cA az;intro _;rw[q,cA]at e;cases e;exact az bx) e
  have HY:iI aX eP.heap bQ pv (j+1):=yO.at_ (List.prefix_refl _) HX fun o e=>wk bQ o HW e;have HZ:∃o,eP.heap.get? bQ=some o∧¬Kept o:=let ⟨o,e,az⟩:=qD;⟨o,wk bQ o HW e,az⟩;clear qD yO CA wk PE wj t7 HX Cz n8 ze lW iJ kB dJ e8 jM qB;rw[zd]at zg;refine never (rO (cu aL zg zf pE) fun b pF pG kC wm zh nq=>?_);have zj:=Cv zf HY qA HZ wm;have CB:=zg.ext zf wm.ext;have CC:=qG.trans wm.ext.pre;have H0:=vV.trans wm;cases b with
  |false=>
   rw[if_neg Bool.false_ne_true]at nq ⊢;exact mk bC H0 CC zh CB (fun y=>Ct _ _ _ _) zj nq
  |true=>
   rw[if_pos rfl]at nq ⊢;clear vV zf zg HY HZ wm;refine never (dZ (g9 aL CB zh nq) fun u PF XJ XK pu wo zk PG CD=>?_);have CE:=Cv zh zj.1 zj.2.1 zj.2.2 wo;refine aj ?_ (gH CD);intro zs;refine aY ?_;intro PH hlen CD;refine bG ?_ (zk.tO (.ref (o7 (CC.trans wo.ext.pre) tZ)) PH);intro _ vs m;refine cI ?_;intro aS hm aD aC;cases aS
   refine never (Pn aD ?_ (by rw[List.size_toArray,←aC.length];exact hlen));refine bG ?_ (yQ (tk:=PF.toks) (pv:=.none) (v:=.none) (Q:=fun Y st=>I (j+1) st) zk hm vX (vW (f:=fun xs=>xs.push u) aD (vs':=vs++[u]) (List.push_toArray ..) (aC.append (.cons PG .nil))) .none CD);intro XM XN XO;refine cI ?_;intro bj PI _ PJ;exact mk bC ((H0.trans wo).trans bj) ((CC.trans wo.ext.pre).trans bj.ext.pre) PI ((CB.ext zh wo.ext).ext zk bj.ext) (fun y=>Ct _ _ _ _) (Cv zk CE.1 CE.2.1 CE.2.2 bj) PJ
 ·rw[List.getElem?_eq_none_iff.mpr hle]at pE;refine ar ?_ (dJ.gY iJ ⟨qB,qA,r3⟩);intro ze lW;exact Cx _ aX ao wi (e8.gY HV iJ) ze (o7 qG tZ) (kB.at_ (fun a aJ o e=>iJ a o (fun q=>mE (q▸aJ)) e) lW) pE
end
theorem H2{elt iter:Expr}{x:Str}{px:Pos}{ifs:List Expr}{scope:Scope}{pos:Pos}{xi:Nat}{P fE:b6}{b4:e9}(h:b3 prog w B ak k iter P)(cu:tX prog w B (iy ak scope) k ifs b4)(g9:b3 prog w B (iy ak scope) k elt fE)
 (dh:ka ak scope x=true)(ai:(iy ak scope).vars.lookup x=some xi)
 {A:Around}{env:Env}{s:Shared}{am:List Addr}{loc:Loc}{st:St}{Q:∀Y:ah,∀Y:St,Prop} {RR:∀Y:Value,∀Y:Addr,∀Y:Result,∀Y:Shared,Prop} (aL:gW A k) (R:d7 B ak env am s.heap loc) (S:bh prog w B am s.heap st) (q:qK P xi (tW ak scope) b4 fE Q loc st)
 (Cx:∀D L s' aX ao pv,∀Y:c9 am s aX s',∀Y:bh prog w B aX s'.heap ao,∀Y:bc aX s'.heap pv (.ref D),∀Y:Q pv ao,∀Y:s.heap.get? L=none,∀Y:((∃o,s'.heap.get? L=some o∧¬Kept o)∧L∉aX∧B.get? L=none),∀Y:(∃m,s'.heap.Ns L m),RR (.ref D) L (.ok .next) s'):
 ∃cl,closureFor scope env=pure cl∧wpAny (model prog w) A (eval iter env) (fun PK ba=>wpAny (model prog w) A (pyIter PK) (fun it dw=>wpAny (model prog w) A (newList []) (fun acc eP=>
  wpAny (model prog w) A (newFunctionEnv scope env.globals cl [] env.qual none .none (some env)) (fun iz pF=>
   codeAny (model prog w) A (.compStart (.ListComp elt [⟨.Name x px,iter,ifs,0⟩] scope pos) 0 it acc {iz with scope:=relabel scope env}) (RR acc iz.locals) pF) bo eP) bo dw) bo ba) bo s:=by
 refine aj ?_ (HO dh R S);intro cl;refine ar ?_;rintro cf-;refine⟨cl,cf,dZ (h aL R S q) fun v ba bV aV pv bj bk cN bF=>?_⟩;refine bZ ?_ bF;clear bF;intro xs I;refine ar ?_;intro aM turn;have gZ:=R.ext S bj.ext
 have fc:∃ys,jv pv aV=some ys:=by
  have e:=(turn 0 _ aM).1;cases pv with
  |ref n=>
   have az:n<aV.length:=by refine aj ?_ cN.qp;intro a;refine ar ?_;intro _ az;rw[←bk.len];exact(List.getElem?_eq_some_iff.mp az).1
   have aS:((aV++[bB.list []])[n]?).bind BI=some xs:=e;rw[List.getElem?_append_left az]at aS;exact⟨_,aS⟩
  |_=>exact⟨_,e⟩
 refine aj ?_ fc;clear fc;intro ys eu;refine B0 bk cN eu fun bQ h' tk aK nk rZ cG=>?_;have cw:bh prog w B bV h' aV:=bk.keeps aK;have CF:Ext bV ba.heap bV h':=.of_keeps aK;have fZ:d7 B ak env bV h' loc:=gZ.ext bk CF;have cC:c9 bV ba bV {ba with heap:=h',toks:=tk}:=.heap CF;refine wpAny_newObj_type ?_;have PL:h'.get? h'.objs.size=none:=lS h';refine ar ?_ (cw.add (a:=h'.objs.size) (o:=.list []) (h':=h'.push {cls:=.type "list",dict:=none,data:=.seq ([]:List Value).toArray}) (fun Y Y e=>Heap.get?_push_of_some _ e) PL ⟨[],⟨0,Heap.get?_push_size _ rfl⟩,.nil⟩);intro fU sr;have PM:bQ∉bV:=fun hm=>by refine aj ?_ (bk.there hm);intro o;refine ar ?_;intro e _;rw[nk]at e;cases e
 have wt:bQ<h'.objs.size:=let ⟨o,e,_⟩:=rZ;Heap.lt_size e;have eT:c9 bV {ba with heap:=h',toks:=tk} (bV++[h'.objs.size]) {ba with heap:=h'.push {cls:=.type "list",dict:=none,data:=.seq ([]:List Value).toArray},toks:=tk}:=.heap (s:={ba with heap:=h',toks:=tk}) sr;have lX:=fZ.ext cw sr;refine aj ?_ (HO dh lX fU);intro CG;refine ar ?_;intro H3 fr
 have wu:CG=cl:=by
  rw[cf]at H3;have:(Sem.pure cl:Sem _)=Sem.pure CG:=H3;injection this with h;exact h.symm
 subst wu;refine Pu ?_;have PN:=fr "dict";generalize zl:h'.push {cls:=.type "list",dict:=none,data:=.seq ([]:List Value).toArray}=gn at*;have CH:∀b o,∀Y:gn.get? b=some o,(pushCells (gn.push {cls:=.type "dict",data:=.dict #[]}) scope.names).get? b=some o:=fun b o e=>pushCells_keeps _ _ b o (Heap.get?_push_of_some _ e);have t8:gn.get? gn.objs.size=none:=lS gn;have XQ:(pushCells (gn.push {cls:=.type "dict",data:=.dict #[]}) scope.names).Ns gn.objs.size fun Y=>none:=(Heap.Ns.new gn (.type "dict")).keeps (pushCells_keeps _ _);generalize XR:pushCells (gn.push {cls:=.type "dict",data:=.dict #[]}) scope.names=pN at*;have lY:bh prog w B (bV++[h'.objs.size]) pN (aV++[.list []]):=fU.keeps CH;have j4:c9 (bV++[h'.objs.size]) {ba with heap:=gn,toks:=tk} (bV++[h'.objs.size]) {ba with heap:=pN,toks:=tk}:=.heap (s:={ba with heap:=gn,toks:=tk}) (.of_keeps CH);have up:∀b o,∀Y:h'.get? b=some o,pN.get? b=some o:=fun b o e=>CH b o (by rw[←zl];exact Heap.get?_push_of_some _ e);have XS:c9 am s (bV++[h'.objs.size]) {ba with heap:=pN,toks:=tk}:=((bj.trans cC).trans eT).trans j4;have H4:iI (bV++[h'.objs.size]) pN bQ pv 0:=cG.at_ (List.prefix_append _ _) (fun b o Y e=>up b o e) fun o e=>up bQ o e
 have vS:bQ∉bV++[h'.objs.size]:=fun hm=>by
  rcases List.mem_append.mp hm with hm|hm
  ·exact PM hm
  ·rw[List.mem_singleton.mp hm]at wt;exact Nat.lt_irrefl _ wt
 have vU:∃o,pN.get? bQ=some o∧¬Kept o:=let ⟨o,e,aK⟩:=rZ;⟨o,up bQ o e,aK⟩
 have r3:B.get? bQ=none:=by
  cases e:B.get? bQ with
  |none=>rfl
  |some o=>have:=bk.base bQ o e;rw[nk]at this;cases this
 have PO:s.heap.get? gn.objs.size=none:=by
  cases e:s.heap.get? gn.objs.size with
  |none=>rfl
  |some o=>
   exfalso;by_cases hm:gn.objs.size∈am
   ·have bC:=fU.lt ((bj.ext.pre.trans sr.pre).subset hm);exact Nat.lt_irrefl _ bC
   ·have aS:=(bj.ext.trans (CF.trans sr)).keep _ o hm e;have aW:gn.get? gn.objs.size=some o:=aS;rw[t8]at aW;cases aW
 have H5:=PA dh R cf
 let iz:=compEnv scope (cellsFrom (gn.objs.size+1) scope.names CG) gn.objs.size env
 have mE:bQ∉Own iz:=fun hm=>by
  rcases List.mem_cons.mp hm with q|hm
  ·have:gn.objs.size=h'.objs.size+1:=by rw[←zl,Heap.size_push]
   have nv:bQ=gn.objs.size:=q;rw[nv,this]at wt;exact Nat.lt_irrefl _ (Nat.lt_of_succ_lt wt)
  ·obtain⟨⟨n,c⟩,aG,e⟩:=List.mem_map.mp hm;have cA:c=bQ:=e;subst cA;rcases zb (x:=n) (c:=c) aG with lj|⟨_,d5⟩
   ·
    have PQ:c∈Own env:=by
     simp only[Own,List.mem_cons,List.mem_map];exact .inr ⟨_,PySem.mem_of_lookup (H5 n c lj).2,rfl⟩
    refine ar ?_ (gZ.own c PQ);refine aj ?_;intro o;refine ar ?_;intro e _;intro _;rw[nk]at e;cases e
   ·have:gn.objs.size=h'.objs.size+1:=by rw[←zl,Heap.size_push]
    have:h'.objs.size<c:=by exact aA (.a (.b .r) .q (.i (-1) (.e .r (.b .p)) (.t .p .q))) rfl d5 this
    exact Nat.lt_asymm this wt
 have H6:∀a,∀Y:gn.objs.size≤a,ba.heap.get? a=none:=fun a aJ=>by
  cases e:ba.heap.get? a with
  |none=>rfl
  |some o=>
   have aW:gn.get? a=some o:=by rw[←zl];exact Heap.get?_push_of_some _ (aK a o e)
   exact absurd (Heap.lt_size aW) (Nat.not_lt.mpr aJ)
 have PR:c9 bV ba (bV++[h'.objs.size]) {ba with heap:=pN,toks:=tk}:=(cC.trans eT).trans j4
 have Cw:∀L,∀Y:(L=iz.locals∨(x,L)∈iz.cells),ba.heap.get? L=none:=fun L eQ=>by
  rcases eQ with rfl|hm
  ·exact H6 _ (Nat.le_refl _)
  ·rcases zb (x:=x) (c:=L) hm with lj|⟨_,d5⟩
   ·exact absurd (H5 x L lj).1 (Py dh)
   ·exact H6 _ (Nat.le_of_succ_le d5)
 have loop:codeAny (model prog w) A (.compLoop (.ListComp elt [⟨.Name x px,iter,ifs,0⟩] scope pos) 0 (.ref bQ) (.ref h'.objs.size) iz) (RR (.ref h'.objs.size) gn.objs.size) {ba with heap:=pN,toks:=tk}:=
  PC cu g9 ai (Pz dh) aL mE r3 nk Cw turn (by rw[←bk.len];simp) PR lY PN H4 vS vU aM fun s' aX ao fk e8 dJ PS kB bb=>by
   refine aY ?_ (kB.own gn.objs.size (List.mem_cons_self ..));intro lh PT zm;exact Cx _ gn.objs.size _ aX ao (.ref aV.length) (bj.trans e8) dJ (.ref PS) bb PO ⟨lh,PT,zm⟩ kB.ns
 exact codeAny_compStart_list loop (never (Po (s:={ba with heap:=pN,toks:=tk}) aL.1 lY H4 vS vU (by rw[(turn 0 _ aM).1];rfl) loop))
theorem mL{elt iter:Expr}{x:Str}{px:Pos}{ifs:List Expr}{scope:Scope}{pos:Pos}{xi:Nat}{P fE:b6}{b4:e9}(h:b3 prog w B ak k iter P)(cu:tX prog w B (iy ak scope) k ifs b4)(g9:b3 prog w B (iy ak scope) k elt fE)
 (dh:ka ak scope x=true)(ai:(iy ak scope).vars.lookup x=some xi)(hs:autoParam (∀(env:Env) x,foldedSetIterable iter env x=pure x) qf._auto_1):
 b3 prog w B ak k (.ListComp elt [⟨.Name x px,iter,ifs,0⟩] scope pos) (qK P xi (tW ak scope) b4 fE):=by
 intro A env s am loc st Q aL R S q;have H:=H2 (px:=px) (pos:=pos) h cu g9 dh ai (RR:=fun acc L=>compPost (model prog w) A bo none (dC prog w B am s Q) acc L) aL R S q;have key:=H (fun D L s' aX ao pv t dJ aO nv t8 eQ⟨m,hm⟩=>?_)
 ·refine aj ?_ key;clear key;intro cl;refine ar ?_;intro cf h;rw[eval_ListComp];simp only[ka,Bool.and_eq_true,beq_iff_eq,decide_eq_true_eq]at dh;exact wpAny_comprehension_free (use:=none) rfl (hs env) cf dh.1.1.1 (fun y au aD=>by obtain⟨n,kd⟩:=y;cases aD;exact pJ dh.1.1.2 au) h
 ·refine⟨m,hm,fun h' eg=>?_⟩;refine ar ?_ (dJ.gY (fun b o av e=>eg.extBut b o av e) eQ);intro cw du;obtain⟨bR,g,d,tk,os⟩:=s';exact(cF aX ao pv ⟨t.gY (tk:=tk) (d:=d) t8 (fun b o av e=>eg.extBut b o av e),cw,aO.mono (List.prefix_refl _) du,nv⟩)
theorem H7{y:Str}{py H8:Pos}{elt iter:Expr}{x:Str}{px:Pos}{ifs:List Expr}{scope:Scope}{pos:Pos}{xi wx:Nat}{P fE:b6}{b4:e9}(h:b3 prog w B ak k iter P)(cu:tX prog w B (iy ak scope) k ifs b4)(g9:b3 prog w B (iy ak scope) k elt fE)
 (dh:ka ak scope x=true)(ai:(iy ak scope).vars.lookup x=some xi)(au:ak.vars.lookup y=some wx)(sf:ak.kinds.lookup y≠some .free)
 (PU:∀env:Env,∀Y:env.scope.kind=.function,∀Y:env.scope.names=ak.kinds,swapsWith (.ListComp elt [⟨.Name x px,iter,ifs,0⟩] scope pos) (some (.Name y py)) H8.line env=pure true)
 (hs:autoParam (∀(env:Env) x,foldedSetIterable iter env x=pure x) qf._auto_1):
 gx prog w B ak k (.Assign [.Name y py] (.ListComp elt [⟨.Name x px,iter,ifs,0⟩] scope pos) H8) fun Q loc st=>qK P xi (tW ak scope) b4 fE (fun v aV=>Q .next (setV loc wx v) aV) loc st:=by
 intro A env s am loc st Q aL R S q;rw[exec_Assign_Name_used _ _ _ _ (PU env R.iG R.lP)];refine wpAny_bind (wpAny_standAt (wpAny_bind ?_));show wpAny _ A (do let _ ←comprehension (.ListComp elt [⟨.Name x px,iter,ifs,0⟩] scope pos) scope env _ (newList []) false (eval iter env) (some (assign (.Name y py) env))) _ _ s;have H:=H2 (px:=px) (pos:=pos) h cu g9 dh ai (RR:=fun acc L=>compPost (model prog w) A bo (some (assign (.Name y py) env)) (fun Y s'=>nh prog w B ak env am s Q .next s') acc L) aL R S q;have key:=H (fun D L s' aX ao pv t dJ aO nv t8 eQ⟨m,hm⟩=>?_)
 ·refine aj ?_ key;clear key;intro cl;refine ar ?_;intro cf h;simp only[ka,Bool.and_eq_true,beq_iff_eq,decide_eq_true_eq]at dh;exact wpAny_bind (wpAny_mono (wpAny_comprehension_free (use:=some (assign (.Name y py) env)) (Q:=fun Y s'=>nh prog w B ak env am s Q .next s') rfl (hs env) cf dh.1.1.1 (fun y au aD=>by obtain⟨n,kd⟩:=y;cases aD;exact pJ dh.1.1.2 au) h) (fun Y s' bb=>wpAny_pure (wpAny_pure bb)) fun Y Y e=>e)
 ·have CI:L∉Own env:=fun hm=>by refine ar ?_ (R.own L hm);refine aj ?_;intro o;refine ar ?_;intro e _;intro _;rw[t8]at e;cases e
  show wpAny _ A (assign (.Name y py) env (.ref D)) _ _ _;refine wpAny_assign_Name (BU (R.ext S t.ext) dJ au sf aO fun qL dw wj H9 iJ Ia cw fZ=>?_)
  have t7:qL∈Own env:=by
   rcases wj with rfl|hm
   ·exact List.mem_cons_self ..
   ·simp only[Own,List.mem_cons,List.mem_map];exact .inr ⟨_,hm,rfl⟩
  have Ib:L≠qL:=fun q=>CI (q▸t7);have lj:dw.heap.Ns L m:=hm.at' fun o e=>iJ L o Ib e;refine⟨m,lj,fun h' eg=>?_⟩;have PV:(∃o,dw.heap.get? L=some o∧¬Kept o)∧L∉aX∧B.get? L=none:=⟨let ⟨o,e,aK⟩:=eQ.1;⟨o,iJ L o Ib e,aK⟩,eQ.2⟩;refine ar ?_ (cw.gY (fun b o av e=>eg.extBut b o av e) PV);intro fU du;have lX:d7 B ak env aX h' (setV loc wx pv):=fZ.at_ (fun a aJ o e=>eg.extBut a o (fun q=>CI (q▸aJ)) e) du;obtain⟨bR,g,d,tk,os⟩:=dw;refine bG ?_ H9;clear H9;intro aH lr iM cz
  have kG:iU (Own env) am s aX ⟨bR,g,d,tk,os⟩:=(t.lg R S).trans ⟨⟨aH,lr,iM,cz⟩,⟨List.prefix_refl _,fun b o Y af e=>iJ b o (fun q=>af (q▸t7)) e,fun Y ae af=>absurd ae af⟩,fun a aJ⟨o,e⟩=>by
   by_cases q:a=qL
   ·refine aj ?_ Ia;clear Ia;intro cg;refine ar ?_;intro cA _;exact⟨cg,q▸cA⟩
   ·exact⟨o,iJ a o q e⟩⟩
  exact(dX aX ao _ .next ⟨kG.gY (tk:=tk) t8 CI (fun b o av e=>eg.extBut b o av e),fU,lX,.next,nv⟩)
end Mine
end
section
open PySem PyProof.Rows
namespace Mine
section
variable{prog:Program}{w:World}{A:Around}{s:Shared}
noncomputable def b4(prog:Program)(w:World)(A:Around)(s:Shared){dG α:Type}(m:StateT dG Sem α)(Q:∀Y:α,∀Y:dG,Prop) (st:dG):Prop:=
 ∀tk,wpAny (model prog w) A (m.run st) (fun r s'=>(∃gm,s'={s with toks:=gm})∧Q r.1 r.2) (fun Y Y=>False) {s with toks:=tk}
variable{dG α β:Type}
theorem cR{a:α}{Q:∀Y:α,∀Y:dG,Prop} {st:dG} (h:Q a st):b4 prog w A s (pure a:StateT dG Sem α) Q st:=fun tk=>by
 rw[StateT.run_pure];exact wpAny_pure ⟨⟨_,rfl⟩,h⟩
theorem bY{m:StateT dG Sem α}{f:∀Y:α,StateT dG Sem β} {Q:∀Y:β,∀Y:dG,Prop} {st:dG} (h:b4 prog w A s m (fun a ao=>b4 prog w A s (f a) Q ao) st):b4 prog w A s (m>>=f) Q st:=fun tk=>by
 rw[StateT.run_bind];exact wpAny_bind (wpAny_mono (h tk) (fun r s' h'=>by refine ar ?_ h';clear h';refine aj ?_;rintro gm rfl;intro bb;exact bb gm) fun Y Y e=>e)
theorem gp{m:StateT dG Sem α}{Q iW:∀Y:α,∀Y:dG,Prop} {st:dG} (h:b4 prog w A s m Q st) (bb:∀a ao,∀Y:Q a ao,iW a ao):b4 prog w A s m iW st:=
 fun tk=>wpAny_mono (h tk) (fun Y Y h'=>⟨h'.1,bb _ _ h'.2⟩) fun Y Y e=>e
theorem oz{Q:∀Y:dG,∀Y:dG,Prop} {st:dG} (h:Q st st):b4 prog w A s (get:StateT dG Sem dG) Q st:=fun tk=>by
 rw[StateT.run_get];exact wpAny_pure ⟨⟨_,rfl⟩,h⟩
theorem pO{f:∀Y:dG,dG} {Q:∀Y:PUnit,∀Y:dG,Prop} {st:dG} (h:Q ⟨⟩ (f st)):b4 prog w A s (modify f:StateT dG Sem PUnit) Q st:=fun tk=>by
 rw[StateT.run_modify];exact wpAny_pure ⟨⟨_,rfl⟩,h⟩
theorem PW{x:dG}{Q:∀Y:PUnit,∀Y:dG,Prop} {st:dG} (h:Q ⟨⟩ x):b4 prog w A s (set x:StateT dG Sem PUnit) Q st:=fun tk=>by
 rw[StateT.run_set];exact wpAny_pure ⟨⟨_,rfl⟩,h⟩
theorem Ic{m:Sem α}{Q:∀Y:α,∀Y:dG,Prop} {st:dG} (h:∀tk,wpAny (model prog w) A m (fun a s'=>(∃gm,s'={s with toks:=gm})∧Q a st) (fun Y Y=>False) {s with toks:=tk}):b4 prog w A s (liftM m:StateT dG Sem α) Q st:=fun tk=>by
 show wpAny _ A ((StateT.lift m:StateT dG Sem α).run st) _ _ _;rw[StateT.run_lift];exact wpAny_bind (wpAny_mono (h tk) (fun a s' h'=>wpAny_pure h') fun Y Y e=>e)
theorem t9{t:String}{Q:∀Y:Unit,∀Y:dG,Prop} {st:dG} (h:Q () st):b4 prog w A s (liftM (rule t):StateT dG Sem Unit) Q st:=
 Ic fun Y=>wpAny_rule ⟨⟨_,rfl⟩,h⟩
noncomputable abbrev ua{jO dG:Type}(Q I:jO→dG→Prop):ForInStep jO→dG→Prop:=fun r st=>match r with|.done c=>Q c st|.yield c=>I c st
theorem Ie{jO:Type}(f:∀Y:Nat,∀Y:jO,StateT dG Sem (ForInStep jO)) (I:∀Y:List Nat,∀Y:jO,∀Y:dG,Prop) (Q:∀Y:jO,∀Y:dG,Prop)
 (qM:∀x rest b st,∀Y:I (x::rest) b st,b4 prog w A s (f x b) (ua Q (I rest)) st)
 (nw:∀b st,∀Y:I [] b st,Q b st):∀(l:List Nat)(b:jO)(st:dG),∀Y:I l b st,b4 prog w A s (forIn l b f) Q st
 |[],b,st,h=>by rw[List.forIn_nil];exact cR (nw _ _ h)
 |x::rest,b,st,h=>by
  rw[List.forIn_cons];refine bY (gp (qM x rest b st h) fun r ao h'=>?_);cases r with
  |done pw=>exact cR h'
  |yield pw=>exact Ie f I Q qM nw rest pw ao h'
theorem l5{jO:Type}{a b:Nat}{f:∀Y:Nat,∀Y:jO,StateT dG Sem (ForInStep jO)} (I:∀Y:Nat,∀Y:jO,∀Y:dG,Prop) {Q:∀Y:jO,∀Y:dG,Prop}
 (qM:∀i c st,∀Y:a≤i,∀Y:i<b,∀Y:I i c st,b4 prog w A s (f i c) (ua Q (I (i+1))) st)
 (nw:∀c st,∀Y:I (max a b) c st,Q c st) {c:jO} {st:dG} (h:I a c st):b4 prog w A s (forIn [a:b] c f) Q st:=by
 rw[Std.Legacy.Range.forIn_eq_forIn_range'];have c8:([a:b]:Std.Legacy.Range).size=b-a:=by simp[Std.Legacy.Range.size]
 show b4 prog w A s (forIn (List.range' a ([a:b]:Std.Legacy.Range).size 1) c f) Q st;rw[c8];refine Ie f (fun l c st=>∃i,a≤i∧i≤max a b∧l=List.range' i (max a b-i) 1∧I i c st) Q ?_ ?_ _ c st ⟨a,Nat.le_refl _,by exact aq (.a .p .q (.l .p .q)) rfl (Nat.le_max_left _ _),by congr 1;exact Nat.le_antisymm ((Nat.le_total _ _).elim (fun cM=>cB (.i (-1) (.e (.a .q .r) .s) (.c (.a .p .r) .t (.a .t .s (.l .p .q)))) rfl (Nat.sub_add_cancel (aq (.a .p .q (.l .p .q)) rfl (Nat.le_max_left _ _))) (Nat.sub_add_cancel cM) (Nat.le_max_right _ _)) (fun h7=>aq (.c .p .z (.l .p .q)) rfl (Nat.sub_eq_zero_of_le h7))) ((Nat.le_total _ _).elim (fun fL=>cB (.c (.a .p .r) .s (.c .s .t (.a .t (.a .q .r) (.l .p .q)))) rfl (Nat.sub_add_cancel (aq (.a .p .q (.l .p .q)) rfl (Nat.le_max_left _ _))) (Nat.max_eq_right fL) (b5 _ _)) (fun fM=>bA (.c (.a .p .r) .s (.c .s .r (.l .p .q))) rfl (Nat.sub_add_cancel (aq (.a .p .q (.l .p .q)) rfl (Nat.le_max_left _ _))) (Nat.max_eq_left fM))),h⟩
 ·intro x rest c st;refine aj ?_;intro i;refine cI ?_;intro zo mO aD bE
  have bC:i<max a b:=by
   rcases Nat.lt_or_ge i (max a b)with h'|h'
   ·exact h'
   ·rw[show max a b-i=0 by exact Nat.le_antisymm ((Nat.le_total _ (max _ _)).elim (fun aE=>aA (.a .q .r (.c (.a .p .r) .q (.l .p .z))) rfl h' (Nat.sub_add_cancel aE)) (fun bI=>aI (.c .p .z (.l .p .z)) rfl (Nat.sub_eq_zero_of_le bI))) (aI (.l .z .p) rfl)]at aD;simp at aD
  obtain⟨n,az⟩:∃n,max a b-i=n+1:=⟨max a b-i-1,by exact Nat.le_antisymm (aq (.a .p (.b .q) (.l .p (.b .q))) rfl (b5 ((max _ _)-_) (1:Nat))) (aq (.c (.b .p) .q (.l (.b .p) .q)) rfl (Nat.sub_add_cancel (aA (.b .q .r (.a .r (.a .p .q) (.l .o .p))) rfl bC (b5 (max _ _) _))))⟩;rw[az,List.range'_succ]at aD;refine ar ?_ (List.cons.inj aD);rintro rfl rfl;refine gp (qM x c st zo (by exact(Nat.le_total _ _).elim (fun ay=>aA (.b .p .r (.c .r .q (.t .p .q))) rfl bC (Nat.max_eq_right ay)) (fun aE=>(aA (.a .p .q (.b .q .r (.c .r .p .f))) rfl zo bC (Nat.max_eq_left aE):False).elim)) bE) fun r ao h'=>?_;cases r with
  |done iw=>exact h'
  |yield iw=>exact⟨x+1,by exact aq (.a .p .q (.l .p (.b .q))) rfl zo,by exact aq (.b .p .q (.l (.b .p) .q)) rfl bC,by congr 1;exact Nat.le_antisymm ((Nat.le_total _ (max _ _)).elim (fun aE=>cB (.i (-1) (.e .r (.b .p)) (.c (.a .r .s) .t (.a .t (.a .q (.b .s)) (.l .p .q)))) rfl az (Nat.sub_add_cancel aE) (b5 (max _ _) (_+(1:Nat)))) (fun bI=>aA (.i (-1) (.e .r (.b .p)) (.c .r .z (.l .p .q))) rfl az (Nat.sub_eq_zero_of_le bI))) ((Nat.le_total _ (max _ _)).elim (fun h7=>cB (.c .r (.b .q) (.i (-1) (.e (.a .r .s) .t) (.c (.a .p (.b .s)) .t (.l .p .q)))) rfl az (Nat.sub_add_cancel h7) (Nat.sub_add_cancel (bA (.i (-1) (.e .r (.b .s)) (.c (.a .r .p) .q (.l (.b .p) .q))) rfl az (Nat.sub_add_cancel h7)))) (fun fL=>(aq (.i (-1) (.e .p (.b .q)) (.c .p .z .f)) rfl az (Nat.sub_eq_zero_of_le fL):False).elim)),h'⟩
 ·intro c st;refine aj ?_;intro i;refine cI ?_;intro zo mO aD bE
  have:i=max a b:=by
   rcases Nat.lt_or_ge i (max a b)with h'|h'
   ·obtain⟨n,az⟩:∃n,max a b-i=n+1:=⟨max a b-i-1,by exact Nat.le_antisymm (aq (.a .p (.b .q) (.l .p (.b .q))) rfl (b5 ((max _ _)-_) (1:Nat))) (aq (.c (.b .p) .q (.l (.b .p) .q)) rfl (Nat.sub_add_cancel (aA (.b .q .r (.a .r (.a .p .q) (.l .o .p))) rfl h' (b5 (max _ _) _))))⟩;rw[az,List.range'_succ]at aD;simp at aD
   ·exact Nat.le_antisymm (aq (.a .p .q (.l .p .q)) rfl mO) (aq (.a .p .q (.l .p .q)) rfl h')
  subst this;exact nw _ _ bE
end
structure Ord(prog:Program)(w:World)(A:Around)(s:Shared) where
 κ:KeyOrd
 kd:SortKind
 kf:∀Y:Keyed,κ.α
 mem:∀Y:Keyed,Prop
 lt:∀p q,∀Y:mem p,∀Y:mem q,∀tk(Q:∀Y:Bool,∀Y:Shared,Prop),∀Y:(∀gm,Q (κ.blt (kf p) (kf q)) {s with toks:=gm}),wpAny (model prog w) A (keyLt' kd p.1 q.1) Q (fun Y Y=>False) {s with toks:=tk}
section
variable{prog:Program}{w:World}{A:Around}{s:Shared}(O:Ord prog w A s)
noncomputable def Ord.le(p q:Keyed):Prop:=O.κ.kle (O.kf p) (O.kf q)
noncomputable def Ord.lt'(p q:Keyed):Bool:=O.κ.blt (O.kf p) (O.kf q)
theorem Ord.le_refl(p:Keyed):O.le p p:=KeyOrd.kle_refl _
theorem Ord.le_trans{p q r:Keyed}(bU:O.le p q)(cZ:O.le q r):O.le p r:=KeyOrd.kle_trans bU cZ
theorem Ord.le_of_lt{p q:Keyed}(h:O.lt' p q=true):O.le p q:=KeyOrd.kle_of_klt h
theorem Ord.pP{p q:Keyed}(h:O.lt' p q=false):O.le q p:=h
theorem Ord.lt_of_le_of_lt{p q r:Keyed}(bU:O.le p q)(cZ:O.lt' q r=true):O.lt' p r=true:=KeyOrd.klt_of_kle_of_klt bU cZ
theorem Ord.le_iff{p q:Keyed}:O.le p q↔O.lt' q p=false:=Iff.rfl
theorem PX{arr:Array Keyed}{i:Nat}{Q:∀Y:Keyed,∀Y:SortSt,Prop} {st:SortSt} (hi:i<arr.size) (h:Q arr[i] st):b4 prog w A s (elem' arr i) Q st:=by
 rw[elem'_eq,getElem?_pos arr i hi];exact cR h
theorem wy{p q:Keyed}{Q:∀Y:Option Bool,∀Y:SortSt,Prop} {st:SortSt} (aK:kindOf st=O.kd) (aQ:O.mem p) (bb:O.mem q) (h:Q (some (O.lt' p q)) st):b4 prog w A s (lt' p q) Q st:=by
 rw[lt'_eq];refine bY (oz ?_);refine bY (Ic fun tk=>wpAny_attempt ?_);rw[aK];refine wpAny_mono (O.lt p q aQ bb tk (fun b s'=>b=O.lt' p q∧∃gm,s'={s with toks:=gm}) fun gm=>⟨rfl,_,rfl⟩) (fun b s' av=>?_) fun Y Y e=>e.elim;refine ar ?_ av;clear av;rintro rfl hs;exact⟨hs,cR h⟩
end
end Mine
end
section
open PySem PyProof.Rows
namespace Mine
noncomputable abbrev CJ:Keyed:=(.none,.none)
noncomputable def aN(arr:Array Keyed)(i:Nat):Keyed:=arr.getD i CJ
noncomputable def oA:∀Y:Bool,∀Y:Keyed,∀Y:Array Keyed,∀Y:Nat,∀Y:Nat,∀Y:Nat,StateT SortSt Sem (Option Nat):=sortPriv% PySem.Builtin.gallop
noncomputable def uc(left:Bool)(key:Keyed)(arr:Array Keyed)(base i:Nat):StateT SortSt Sem (Option Bool):=do
 let x ←elem' arr (base+i)
 if left then lt' x key else return (←lt' key x).map (!·)
noncomputable def zp(left:Bool)(key:Keyed)(arr:Array Keyed)(base n lo hi:Nat):StateT SortSt Sem (Option Nat):=do
 let mut lo:=lo
 let mut hi:=hi
 for _ in [0:n] do
  if lo≥hi then break
  let m:=lo+(hi-lo) / 2
  let some more ←uc left key arr base m|return none
  if more then lo:=m+1 else hi:=m
 return some hi
noncomputable def CK(left:Bool)(key:Keyed)(arr:Array Keyed)(base n hint:Nat):StateT SortSt Sem (Option Nat):=do
 let mut wz:=0
 let mut l6:=1
 for _ in [0:n] do
  if l6≥n-hint then break
  let some more ←uc left key arr base (hint+l6)|return none
  if !more then break
  wz:=l6
  l6:=2*l6+1
 zp left key arr base n (hint+wz+1) (hint+min l6 (n-hint))
noncomputable def CL(left:Bool)(key:Keyed)(arr:Array Keyed)(base n hint:Nat):StateT SortSt Sem (Option Nat):=do
 let mut wz:=0
 let mut l6:=1
 for _ in [0:n] do
  if l6≥hint+1 then break
  let some found ←uc left key arr base (hint-l6)|return none
  if found then break
  wz:=l6
  l6:=2*l6+1
 zp left key arr base n (hint+1-min l6 (hint+1)) (hint-wz)
theorem PY(left:Bool)(key:Keyed)(arr:Array Keyed)(base n hint:Nat):oA left key arr base n hint=(do
 let some right ←uc left key arr base hint|return none
 if right then CK left key arr base n hint else CL left key arr base n hint):=by kernel_rfl
section
variable{prog:Program}{w:World}{A:Around}{s:Shared}
noncomputable def ji(prog:Program)(w:World)(A:Around)(s:Shared)(st:SortSt){α:Type}(m:StateT SortSt Sem α)(Q:∀Y:α,Prop):Prop:=b4 prog w A s m (fun a ao=>ao=st∧Q a) st
variable{st:SortSt}{α β:Type}
theorem jy{a:α}{Q:∀Y:α,Prop} (h:Q a):ji prog w A s st (pure a:StateT SortSt Sem α) Q:=cR ⟨rfl,h⟩
theorem ny{m:StateT SortSt Sem α}{f:∀Y:α,StateT SortSt Sem β} {Q:∀Y:β,Prop} (h:ji prog w A s st m fun a=>ji prog w A s st (f a) Q):ji prog w A s st (m>>=f) Q:=
 bY (gp h fun Y ao x=>by rw[x.1];exact x.2)
theorem zq{m:StateT SortSt Sem α}{Q iW:∀Y:α,Prop} (h:ji prog w A s st m Q) (bb:∀a,∀Y:Q a,iW a):ji prog w A s st m iW:=gp h fun Y Y x=>⟨x.1,bb _ x.2⟩
theorem Ig{m:StateT SortSt Sem α}{Q:∀Y:α,∀Y:SortSt,Prop} (h:ji prog w A s st m fun a=>Q a st):b4 prog w A s m Q st:=gp h fun Y ao x=>x.1▸x.2
theorem zr{c:Prop}[Decidable c]{m ni:StateT SortSt Sem α}{Q:∀Y:α,Prop} (h:∀Y:c,ji prog w A s st m Q) (h':∀Y:¬c,ji prog w A s st ni Q):ji prog w A s st (if c then m else ni) Q:=by
 by_cases e:c
 ·rw[if_pos e];exact h e
 ·rw[if_neg e];exact h' e
noncomputable abbrev zt{cS:Type}(G:∀Y:Nat,∀Y:Nat,Prop) (c:Option cS×Nat×Nat):Prop:=c.1=none∧G c.2.1 c.2.2
theorem zu{cS:Type}{n:Nat}{f:∀Y:Nat,∀Y:Option cS×Nat×Nat,StateT SortSt Sem (ForInStep (Option cS×Nat×Nat))} (F:∀Y:Nat,∀Y:Nat,∀Y:Nat,Prop) {G:∀Y:Nat,∀Y:Nat,Prop}
 (qM:∀x l o,∀Y:x<n,∀Y:F x l o,ji prog w A s st (f x (none,l,o)) fun r=>ua (fun c Y=>zt G c) (fun c Y=>zt (F (x+1)) c) r st) (nw:∀l o,∀Y:F n l o,G l o) {l o:Nat} (h:F 0 l o):
 ji prog w A s st (forIn [0:n] ((none,l,o):Option cS×Nat×Nat) f) (zt G):=by
 refine l5 (I:=fun x c ao=>ao=st∧zt (F x) c) (fun x c ao Y ai bE=>?_) (fun c ao bE=>?_) ⟨rfl,rfl,h⟩
 ·obtain⟨c,l,o⟩:=c;refine aY ?_ bE;clear bE;rintro rfl rfl bD;refine gp (qM x l o ai bD) fun r ao aC=>?_;refine ar ?_ aC;clear aC;rintro rfl aC;cases r with
  |done c=>exact⟨rfl,aC⟩
  |yield c=>exact⟨rfl,aC⟩
 ·rw[Nat.max_eq_right (Nat.zero_le n)]at bE;exact⟨bE.1,bE.2.1,nw _ _ bE.2.2⟩
variable(O:Ord prog w A s)
noncomputable def eV(left:Bool)(key:Keyed)(arr:Array Keyed)(base i:Nat):Bool:=if left then O.lt' (aN arr (base+i)) key else !(O.lt' key (aN arr (base+i)))
theorem h9{arr:Array Keyed}{i:Nat}{Q:∀Y:Keyed,∀Y:SortSt,Prop} {st:SortSt} (hi:i<arr.size) (h:Q (aN arr i) st):b4 prog w A s (elem' arr i) Q st:=
 PX hi (by simpa [aN,Array.getD,hi]using h)
section
variable{left:Bool}{key:Keyed}{arr:Array Keyed}{base n:Nat}(eG:kindOf st=O.kd)(hm:∀p∈arr.toList,O.mem p) (aK:O.mem key)
include eG hm aK
theorem zv{i:Nat}{Q:∀Y:Option Bool,Prop} (hi:base+i<arr.size) (h:Q (some (eV O left key arr base i))):ji prog w A s st (uc left key arr base i) Q:=by
 have ai:O.mem (aN arr (base+i)):=hm _ (by simp[aN,Array.getD,hi]);unfold uc;refine bY (h9 hi ?_);cases left with
 |true=>rw[if_pos rfl];exact wy O eG ai aK ⟨rfl,h⟩
 |false=>rw[if_neg Bool.false_ne_true];exact bY (wy O eG aK ai (cR ⟨rfl,h⟩))
variable(az:base+n≤arr.size){Q:∀Y:Option Nat,Prop} (mono:∀i j,∀Y:i≤j,∀Y:j<n,∀Y:eV O left key arr base j=true,eV O left key arr base i=true)
 (h:∀r,∀Y:r≤n,∀Y:(∀i,∀Y:i<r,eV O left key arr base i=true),∀Y:(∀i,∀Y:r≤i,∀Y:i<n,eV O left key arr base i=false),Q (some r))
include az mono h
theorem Ih{lo hi:Nat}(PZ:lo≤hi)(Ii:hi≤n)(ae:∀i,∀Y:i<lo,eV O left key arr base i=true) (af:∀i,∀Y:hi≤i,∀Y:i<n,eV O left key arr base i=false):ji prog w A s st (zp left key arr base n lo hi) Q:=by
 unfold zp
 refine ny (zq (zu (G:=fun Y hi=>Q (some hi)) (fun x lo hi=>lo≤hi∧hi≤n∧hi+x≤lo+n∧(∀i,∀Y:i<lo,eV O left key arr base i=true)∧(∀i,∀Y:hi≤i,∀Y:i<n,eV O left key arr base i=false)) ?_ ?_
  ⟨PZ,Ii,Nat.le_trans Ii (Nat.le_add_left ..),ae,af⟩) fun c aG=>?_)
 ·rintro x lo hi ai ⟨a1,a2,cW,dI,gw⟩;refine zr (fun d5=>?_) fun bC=>?_
  ·cases Nat.le_antisymm a1 d5
   exact jy ⟨rfl,h lo a2 dI gw⟩
  ·have f3:lo≤lo+(hi-lo) / 2:=Nat.le_add_right ..;have f5:lo+(hi-lo) / 2<hi:=by exact bA (.n (.l .r .p) (.a (.m 2 .q) .s (.c (.a .s .p) .r (.G 1 (.t (.a .p .q) .r))))) rfl bC (Nat.mul_div_le (_-_) 2) (Nat.sub_add_cancel (aq (.n (.l .q .p) (.l .p .q)) rfl bC))
   refine ny (zv O eG hm aK (Nat.lt_of_lt_of_le (Nat.add_lt_add_left (Nat.lt_of_lt_of_le f5 a2) base) az) ?_);dsimp only;generalize lo+(hi-lo) / 2=m at f3 f5 ⊢;cases av:eV O left key arr base m with
   |true=>exact jy ⟨rfl,f5,a2,by exact cB (.a (.a .p .q) (.a .t .s) (.a .t .r (.l (.a .p (.b .q)) (.a (.b .r) .s)))) rfl cW f3,fun i fV=>mono i m (Nat.le_of_lt_succ fV) (Nat.lt_of_lt_of_le f5 a2) av,gw⟩
   |false=>exact jy ⟨rfl,f3,by exact aA (.a .r .q (.b .p .r (.l .p .q))) rfl a2 f5,by exact cB (.a (.a .t .q) (.a .r .s) (.b .p .t (.l (.a .p (.b .q)) (.a .r .s)))) rfl cW f5,dI,fun i fV g7=>Bool.eq_false_iff.mpr fun q=>Bool.noConfusion (av.symm.trans (mono m i fV g7 q))⟩
 ·rintro lo hi ⟨a1,a2,cW,dI,gw⟩;cases Nat.le_antisymm a1 (Nat.le_of_add_le_add_right cW)
  exact h lo a2 dI gw
 ·obtain⟨c,lo,hi⟩:=c;refine ar ?_ aG;clear aG;rintro rfl q;exact jy q
theorem P0{hint:Nat}(bR:hint<n)(av:eV O left key arr base hint=true):ji prog w A s st (CK left key arr base n hint) Q:=by
 unfold CK
 refine ny (zq (zu (G:=fun l o=>l<o∧hint+l<n∧eV O left key arr base (hint+l)=true∧(∀Y:hint+o<n,eV O left key arr base (hint+o)=false))
  (fun x l o=>x<o∧l<o∧hint+l<n∧eV O left key arr base (hint+l)=true) ?_ ?_ ⟨Nat.zero_lt_one,Nat.zero_lt_one,bR,av⟩) fun c aG=>?_)
 ·intro x l o _;refine cI ?_;intro a1 a2 cW dI;refine zr (fun d5=>jy ⟨rfl,a2,cW,dI,fun q=>absurd q (by exact bA (.a .s .q (.a .r (.a .s .p) (.o (.t (.a .p .q) .r)))) rfl d5 (b5 _ _))⟩) fun bC=>?_;have bx:hint+o<n:=by exact(Nat.le_total _ _).elim (fun ay=>bA (.n (.l .s .q) (.c (.a .s .p) .r (.t (.a .p .q) .r))) rfl bC (Nat.sub_add_cancel ay)) (fun aE=>(aq (.n (.l .p .q) (.c .p .z .f)) rfl bC (Nat.sub_eq_zero_of_le aE):False).elim)
  refine ny (zv O eG hm aK (by exact cB (.a (.a .p .t) .s (.b (.a .q .r) .t (.t (.a .p (.a .q .r)) .s))) rfl az bx) ?_);dsimp only;cases j9:eV O left key arr base (hint+o)with
  |false=>exact jy ⟨rfl,a2,cW,dI,fun Y=>j9⟩
  |true=>exact jy ⟨rfl,by exact aq (.b .p .q (.t (.b .p) (.b (.m 2 .q)))) rfl a1,by exact aI (.t .p (.b (.m 2 .p))) rfl,bx,j9⟩
 ·intro l o;refine cI ?_;intro a1 a2 cW dI;exact⟨a2,cW,dI,fun q=>absurd q (by exact aA (.b .r .q (.o (.t (.a .p .q) .r))) rfl a1)⟩
 ·obtain⟨c,l,o⟩:=c;obtain⟨rfl,a2,cW,dI,gw⟩:=aG;refine Ih O eG hm aK az mono h (by exact(Nat.le_total _ _).elim (fun ay=>(Nat.le_total _ (_-_)).elim (fun aE=>bA (.b .q .s (.i (-1) (.e .r .s) (.l (.b (.a .p .q)) (.a .p .r)))) rfl a2 (Nat.min_eq_left aE)) (fun bI=>cB (.b (.a .p .q) .s (.i (-1) (.e (.a .t .p) .s) (.i (-1) (.e .r .t) (.l (.b (.a .p .q)) (.a .p .r))))) rfl cW (Nat.sub_add_cancel (aA (.b (.a .p .r) .q (.l .p .q)) rfl cW)) (Nat.min_eq_right bI))) (fun cM=>bA (.b (.a .p .q) .s (.a .s .p (.l (.b (.a .p .q)) (.a .p .r)))) rfl cW cM)) (by exact bA (.a .q .s (.c (.a .s .p) .r (.l (.a .p .q) .r))) rfl (Nat.min_le_right _ (_-_)) (Nat.sub_add_cancel (aq (.b .p .q (.l .p .q)) rfl bR))) (fun i hi=>mono i _ (by exact aA (.b .p (.b (.a .q .r)) (.l .p (.a .q .r))) rfl hi) cW dI) fun i hi g7=>?_;have bx:hint+o≤i:=by exact(Nat.le_total _ _).elim (fun ay=>(Nat.le_total _ (_-_)).elim (fun aE=>bA (.a (.a .p .s) .r (.i (-1) (.e .s .q) (.l (.a .p .q) .r))) rfl hi (Nat.min_eq_left aE)) (fun bI=>(cB (.a (.a .p .q) .r (.b .r .s (.i (-1) (.e (.a .t .p) .s) (.i (-1) (.e .q .t) .f)))) rfl hi g7 (Nat.sub_add_cancel (bA (.a (.a .p .r) .s (.b .s .q (.l .p .q))) rfl hi g7)) (Nat.min_eq_right bI):False).elim)) (fun cM=>(bA (.a (.a .p .q) .r (.b .r .s (.a .s .p .f))) rfl hi g7 cM:False).elim)
  refine Bool.eq_false_iff.mpr fun q=>Bool.noConfusion ((gw (Nat.lt_of_le_of_lt bx g7)).symm.trans (mono _ i bx g7 q))
theorem P1{hint:Nat}(bR:hint<n)(av:eV O left key arr base hint=false):ji prog w A s st (CL left key arr base n hint) Q:=by
 unfold CL
 refine ny (zq (zu (G:=fun l o=>l<o∧l≤hint∧eV O left key arr base (hint-l)=false∧(∀Y:o≤hint,eV O left key arr base (hint-o)=true))
  (fun x l o=>x<o∧l<o∧l≤hint∧eV O left key arr base (hint-l)=false) ?_ ?_ ⟨Nat.zero_lt_one,Nat.zero_lt_one,Nat.zero_le _,av⟩) fun c aG=>?_)
 ·intro x l o _;refine cI ?_;intro a1 a2 cW dI;refine zr (fun d5=>jy ⟨rfl,a2,cW,dI,fun q=>absurd q (by exact aq (.a (.b .q) .p (.o (.l .p .q))) rfl d5)⟩) fun bC=>?_;refine ny (zv O eG hm aK (by exact cB (.a (.a .p .s) .r (.b .t .s (.a .q .t (.t (.a .p .q) .r)))) rfl az bR (Nat.sub_le _ _)) ?_);dsimp only;cases j9:eV O left key arr base (hint-o)with
  |true=>exact jy ⟨rfl,a2,cW,dI,fun Y=>j9⟩
  |false=>exact jy ⟨rfl,by exact aq (.b .p .q (.t (.b .p) (.b (.m 2 .q)))) rfl a1,by exact aI (.t .p (.b (.m 2 .p))) rfl,by exact aq (.n (.l (.b .q) .p) (.l .p .q)) rfl bC,j9⟩
 ·intro l o;refine cI ?_;intro a1 a2 cW dI;exact⟨a2,cW,dI,fun q=>absurd q (by exact aA (.b .q .r (.b .r .p (.o (.l .p .q)))) rfl bR a1)⟩
 ·obtain⟨c,l,o⟩:=c;obtain⟨rfl,a2,cW,dI,gw⟩:=aG;refine Ih O eG hm aK az mono h (by exact(Nat.le_total _ (_+(1:Nat))).elim (fun ay=>ck (.b .r .s (.c (.a .p .t) (.b (.v 5)) (.i (-1) (.e .t .s) (.a (.v 5) (.a .q .r) (.l .p .q))))) rfl [((_+(1:Nat))-(min _ (_+(1:Nat)))),(_-_),_,_,(min _ (_+(1:Nat))),_] [] a2 (Nat.sub_add_cancel (aq (.a .p (.b .q) (.l .p (.b .q))) rfl (Nat.min_le_right _ (_+(1:Nat))))) (Nat.min_eq_left ay) (b5 _ _)) (fun aE=>bA (.c (.a .p .r) (.b .s) (.i (-1) (.e .r (.b .s)) (.l .p .q))) rfl (Nat.sub_add_cancel (aq (.a .p (.b .q) (.l .p (.b .q))) rfl (Nat.min_le_right _ (_+(1:Nat))))) (Nat.min_eq_right aE))) (by exact aA (.b .r .q (.a .p .r (.l .p .q))) rfl bR (Nat.sub_le _ _)) (fun i hi=>?_) fun i hi g7=>Bool.eq_false_iff.mpr fun q=>Bool.noConfusion (dI.symm.trans (mono _ i hi g7 q));have bx:o≤hint:=by exact(Nat.le_total _ (_+(1:Nat))).elim (fun ay=>cB (.b .r .s (.c (.a .s .t) (.b .q) (.i (-1) (.e .t .p) (.l .p .q)))) rfl hi (Nat.sub_add_cancel (aq (.a .p (.b .q) (.l .p (.b .q))) rfl (Nat.min_le_right _ (_+(1:Nat))))) (Nat.min_eq_left ay)) (fun aE=>(bA (.b .p .q (.c (.a .q .r) (.b .s) (.i (-1) (.e .r (.b .s)) .f))) rfl hi (Nat.sub_add_cancel (aq (.a .p (.b .q) (.l .p (.b .q))) rfl (Nat.min_le_right _ (_+(1:Nat))))) (Nat.min_eq_right aE):False).elim)
  exact mono i (hint-o) (by exact(Nat.le_total _ (_+(1:Nat))).elim (fun ay=>ck (.b .p .r (.c (.a .r .s) (.b .t) (.i (-1) (.e .s (.v 5)) (.a .t (.a .q (.v 5)) (.l .p .q))))) rfl [_,(_-_),((_+(1:Nat))-(min _ (_+(1:Nat)))),(min _ (_+(1:Nat))),_,_] [] hi (Nat.sub_add_cancel (aq (.a .p (.b .q) (.l .p (.b .q))) rfl (Nat.min_le_right _ (_+(1:Nat))))) (Nat.min_eq_left ay) (b5 _ _)) (fun aE=>cB (.b .p .r (.c (.a .r .s) (.b .t) (.i (-1) (.e .s (.b .t)) (.l .p .q)))) rfl hi (Nat.sub_add_cancel (aq (.a .p (.b .q) (.l .p (.b .q))) rfl (Nat.min_le_right _ (_+(1:Nat))))) (Nat.min_eq_right aE))) (by exact aA (.b .r .q (.a .p .r (.t .p .q))) rfl bR (Nat.sub_le _ _)) (gw bx)
end
theorem Ij{left:Bool}{key:Keyed}{arr:Array Keyed}{base n hint:Nat}{Q:∀Y:Option Nat,∀Y:SortSt,Prop} {st:SortSt} (eG:kindOf st=O.kd) (hm:∀p∈arr.toList,O.mem p) (aK:O.mem key) (az:base+n≤arr.size) (bR:hint<n)
 (mono:∀i j,∀Y:i≤j,∀Y:j<n,∀Y:eV O left key arr base j=true,eV O left key arr base i=true)
 (h:∀r,∀Y:r≤n,∀Y:(∀i,∀Y:i<r,eV O left key arr base i=true),∀Y:(∀i,∀Y:r≤i,∀Y:i<n,eV O left key arr base i=false),Q (some r) st):
 b4 prog w A s (oA left key arr base n hint) Q st:=by
 rw[PY];refine Ig (ny (zv O eG hm aK (by exact bA (.a (.a .p .s) .r (.b .q .s (.t (.a .p .q) .r))) rfl az bR) ?_));dsimp only;cases av:eV O left key arr base hint with
 |true=>exact P0 O eG hm aK az mono h bR av
 |false=>exact P1 O eG hm aK az mono h bR av
end
end Mine
end
section
open PySem PyProof.Rows
namespace Mine
section
variable{prog:Program}{w:World}{A:Around}{s:Shared}(O:Ord prog w A s)
noncomputable def cD(l:List Keyed):Prop:=l.Pairwise O.le
theorem getD_list{a:Array Keyed}{i:Nat}(h:i<a.size):aN a i=a.toList[i]'(by simpa using h):=by simp[aN,Array.getD,h]
theorem cD.at_{a:Array Keyed}(h:cD O a.toList){i j:Nat}(iH:i≤j)(aP:j<a.size):O.le (aN a i) (aN a j):=by
 rw[getD_list aP,getD_list (Nat.lt_of_le_of_lt iH aP)];by_cases e:i=j
 ·subst e;exact O.le_refl _
 ·exact(List.pairwise_iff_getElem.mp h) i j _ _ (by exact(Nat.lt_or_gt_of_ne e).elim (fun ay=>aq (.b .p .q (.t .p .q)) rfl ay) (fun aE=>aq (.i 2 (.l .p .q) (.b .q .p (.t .p .q))) rfl iH aE))
structure f6(a b out:Array Keyed)(bl bw:Nat):Prop where
 eH:bl≤a.size
 gM:bw≤b.size
 perm:(out.toList++(a.toList.drop bl++b.toList.drop bw)).Perm (a.toList++b.toList)
 sorted:cD O out.toList
 below:∀x∈out.toList,∀y,∀Y:y∈a.toList.drop bl∨y∈b.toList.drop bw,O.le x y
variable{O}
variable{a b out:Array Keyed}{bl bw:Nat}
theorem f6.size(h:f6 O a b out bl bw):out.size+(a.size-bl)+(b.size-bw)=a.size+b.size:=by
 have:=h.perm.length_eq;simp at this;exact Nat.le_antisymm (cB (.c (.a .p (.a .q .r)) (.a .s .t) (.l (.a (.a .p .q) .r) (.a .s .t))) rfl this) (cB (.i (-1) (.e (.a .r (.a .s .t)) (.a .p .q)) (.l (.a .p .q) (.a (.a .r .s) .t))) rfl this)
theorem drop_cons{a:Array Keyed}{i:Nat}(h:i<a.size):a.toList.drop i=aN a i::a.toList.drop (i+1):=by
 rw[getD_list h];exact List.drop_eq_getElem_cons (by simpa using h)
theorem zw(hs:cD O a.toList){i:Nat}(hi:i<a.size){y:Keyed}(au:y∈a.toList.drop i):O.le (aN a i) y:=by
 obtain⟨j,aP,rfl⟩:=List.mem_iff_getElem.mp au;rw[List.getElem_drop];have jL:i+j<a.size:=by simp at aP;exact ye aP
 rw[←getD_list jL];exact hs.at_ O (by exact aq (.l .p (.a .p .q)) rfl) jL
theorem f6.sA(h:f6 O a b out bl bw)(aJ:cD O a.toList)(av:cD O b.toList)(ae:bl<a.size)(hle:∀Y:bw<b.size,O.le (aN a bl) (aN b bw)):f6 O a b (out.push (aN a bl)) (bl+1) bw:=by
 have e:=drop_cons ae;refine⟨ae,h.gM,?_,?_,fun x ai y au=>?_⟩
 ·have:=h.perm;rw[e]at this;simpa using this
 ·simp only[cD,Array.toList_push,List.pairwise_append]
  exact⟨h.sorted,by simp,fun x ai y au=>by
   rw[List.mem_singleton.mp au];exact h.below x ai _ (.inl (by rw[e];exact .head _))⟩
 ·rw[Array.toList_push,List.mem_append,List.mem_singleton]at ai;rcases ai with ai|rfl
  ·exact h.below x ai y (au.imp (fun q=>by rw[e];exact .tail _ q) id)
  ·rcases au with au|au
   ·exact zw aJ ae (by rw[e];exact .tail _ au)
   ·have bC:bw<b.size:=by
     have:=List.length_pos_of_mem au;simp at this;exact(Nat.le_total _ _).elim (fun ay=>aA (.b .z .r (.c (.a .r .p) .q (.t .p .q))) rfl this (Nat.sub_add_cancel ay)) (fun aE=>(aI (.b .z .p (.c .p .z .f)) rfl this (Nat.sub_eq_zero_of_le aE):False).elim)
    exact O.le_trans (hle bC) (zw av bC au)
theorem f6.sC(h:f6 O a b out bl bw)(aJ:cD O a.toList)(av:cD O b.toList)(ae:bw<b.size)(hle:∀Y:bl<a.size,O.le (aN b bw) (aN a bl)):f6 O a b (out.push (aN b bw)) bl (bw+1):=by
 have e:=drop_cons ae;refine⟨h.eH,ae,?_,?_,fun x ai y au=>?_⟩
 ·have:=h.perm;rw[e]at this;refine List.Perm.trans ?_ this;rw[Array.toList_push,List.append_assoc];refine List.Perm.append_left _ ?_;exact(List.perm_middle (l₁:=a.toList.drop bl) (l₂:=b.toList.drop (bw+1)) (a:=aN b bw)).symm
 ·simp only[cD,Array.toList_push,List.pairwise_append]
  exact⟨h.sorted,by simp,fun x ai y au=>by
   rw[List.mem_singleton.mp au];exact h.below x ai _ (.inr (by rw[e];exact .head _))⟩
 ·rw[Array.toList_push,List.mem_append,List.mem_singleton]at ai;rcases ai with ai|rfl
  ·exact h.below x ai y (au.imp id fun q=>by rw[e];exact .tail _ q)
  ·rcases au with au|au
   ·have bC:bl<a.size:=by
     have:=List.length_pos_of_mem au;simp at this;exact(Nat.le_total _ _).elim (fun ay=>aA (.b .z .r (.c (.a .r .p) .q (.t .p .q))) rfl this (Nat.sub_add_cancel ay)) (fun aE=>(aI (.b .z .p (.c .p .z .f)) rfl this (Nat.sub_eq_zero_of_le aE):False).elim)
    exact O.le_trans (hle bC) (zw aJ bC au)
   ·exact zw av ae (by rw[e];exact .tail _ au)
theorem CM{a:Array Keyed}{i k:Nat}(h:i+k<a.size):a.extract i (i+(k+1))=(a.extract i (i+k)).push (aN a (i+k)):=by
 apply Array.ext';simp only[Array.toList_extract,Array.toList_push,List.extract_eq_take_drop];rw[show i+(k+1)-i=k+1 by exact Nat.le_antisymm (aA (.c (.a .p .r) (.a .r (.b .q)) (.l .p (.b .q))) rfl (Nat.sub_add_cancel (aq (.l .p (.a .p (.b .q))) rfl))) (aA (.a (.a .r (.b .p)) (.a .q .r) (.l (.b .p) .q)) rfl (b5 (_+(_+(1:Nat))) _)),show i+k-i=k by exact Nat.le_antisymm (aA (.c (.a .p .r) (.a .r .q) (.l .p .q)) rfl (Nat.sub_add_cancel (aq (.l .p (.a .p .q)) rfl))) (aA (.a (.a .r .p) (.a .q .r) (.l .p .q)) rfl (b5 (_+_) _)),List.take_add_one];congr 1;have:k<(a.toList.drop i).length:=by simp;exact bA (.b (.a .r .p) .s (.a .s (.a .q .r) (.t .p .q))) rfl h (b5 _ _)
 rw[List.getElem?_eq_getElem this,List.getElem_drop,getD_list h];rfl
theorem zx(a:Array Keyed)(i:Nat):a.extract i i=#[]:=by apply Array.ext';simp[List.extract_eq_take_drop]
theorem f6.wA(aJ:cD O a.toList)(av:cD O b.toList):∀(k:Nat),∀Y:f6 O a b out bl bw,∀Y:bl+k≤a.size,∀Y:(∀i,∀Y:i<k,∀Y:bw<b.size,O.le (aN a (bl+i)) (aN b bw)),f6 O a b (out++a.extract bl (bl+k)) (bl+k) bw
 |0,h,_,_=>by rw[Nat.add_zero,zx,Array.append_empty];exact h
 |k+1,h,ae,hle=>by
  have:=(f6.wA aJ av k h (by exact aA (.a (.a .p (.b .q)) .r (.l (.a .p .q) .r)) rfl ae) fun i hi=>hle i (by exact aq (.b .p .q (.t .p (.b .q))) rfl hi)).sA aJ av (by exact aA (.a (.a .p (.b .q)) .r (.t (.a .p .q) .r)) rfl ae) (hle k (by exact aI (.t .p (.b .p)) rfl));rw[CM (by exact aA (.a (.a .p (.b .q)) .r (.t (.a .p .q) .r)) rfl ae)];simpa [Nat.add_assoc]using this
theorem f6.wB(aJ:cD O a.toList)(av:cD O b.toList):∀(k:Nat),∀Y:f6 O a b out bl bw,∀Y:bw+k≤b.size,∀Y:(∀i,∀Y:i<k,∀Y:bl<a.size,O.le (aN b (bw+i)) (aN a bl)),f6 O a b (out++b.extract bw (bw+k)) bl (bw+k)
 |0,h,_,_=>by rw[Nat.add_zero,zx,Array.append_empty];exact h
 |k+1,h,ae,hle=>by
  have:=(f6.wB aJ av k h (by exact aA (.a (.a .p (.b .q)) .r (.l (.a .p .q) .r)) rfl ae) fun i hi=>hle i (by exact aq (.b .p .q (.t .p (.b .q))) rfl hi)).sC aJ av (by exact aA (.a (.a .p (.b .q)) .r (.t (.a .p .q) .r)) rfl ae) (hle k (by exact aI (.t .p (.b .p)) rfl));rw[CM (by exact aA (.a (.a .p (.b .q)) .r (.t (.a .p .q) .r)) rfl ae)];simpa [Nat.add_assoc]using this
variable(O)in
noncomputable def l7(a b r:Array Keyed):Prop:=r.toList.Perm (a.toList++b.toList)∧cD O r.toList
theorem zy{a:Array Keyed}{i:Nat}:(a.extract i a.size).toList=a.toList.drop i:=by
 rw[Array.toList_extract,List.extract_eq_take_drop,List.take_of_length_le (by simp)]
theorem cD.drop{l:List Keyed}(h:cD O l)(i:Nat):cD O (l.drop i):=List.Pairwise.sublist (List.drop_sublist _ _) h
theorem f6.done(h:f6 O a b out bl bw)(aJ:cD O a.toList)(av:cD O b.toList)(he:bl=a.size∨bw=b.size):l7 O a b (out++a.extract bl a.size++b.extract bw b.size):=by
 refine⟨?_,?_⟩
 ·simp only[Array.toList_append,zy];rw[List.append_assoc];exact h.perm
 ·simp only[cD,Array.toList_append,zy,List.append_assoc,List.pairwise_append];refine⟨h.sorted,⟨aJ.drop _,av.drop _,fun x ai y au=>?_⟩,fun x ai y au=>h.below x ai y (List.mem_append.mp au)⟩;rcases he with rfl|rfl
  ·have:=List.length_pos_of_mem ai;simp at this
  ·have:=List.length_pos_of_mem au;simp at this
theorem f6.last(h:f6 O a b out bl bw)(aJ:cD O a.toList)(av:cD O b.toList)(he:bl+1=a.size)(aD:∀y∈b.toList,O.le y (aN a (a.size-1))):l7 O a b (out++b.extract bw b.size++a.extract bl a.size):=by
 refine⟨?_,?_⟩
 ·simp only[Array.toList_append,zy];rw[List.append_assoc];exact((List.Perm.append_left _ List.perm_append_comm)).trans h.perm
 ·simp only[cD,Array.toList_append,zy,List.append_assoc,List.pairwise_append];refine⟨h.sorted,⟨av.drop _,aJ.drop _,fun x ai y au=>?_⟩,fun x ai y au=>h.below x ai y (List.mem_append.mp au).symm⟩;have e:=drop_cons (a:=a) (i:=bl) (by exact aq (.c (.b .p) .q (.t .p .q)) rfl he);rw[e,List.drop_eq_nil_of_le (by simp;exact aq (.i (-1) (.e (.b .q) .p) (.l .p (.b .q))) rfl he),List.mem_singleton]at au;rw[au,show bl=a.size-1 by exact Nat.le_antisymm (aA (.c (.b .p) .r (.a .r (.b .q) (.l .p .q))) rfl he (b5 _ (1:Nat))) (aA (.i (-1) (.e (.b .q) .r) (.c (.b .p) .r (.l .p .q))) rfl he (Nat.sub_add_cancel (aq (.c (.b .q) .p (.l .o .p)) rfl he)))];exact aD x (List.mem_of_mem_drop ai)
theorem f6.start(aJ:cD O a.toList)(av:cD O b.toList)(ae:0<a.size)(af:0<b.size)(h:O.le (aN b 0) (aN a 0)):f6 O a b #[aN b 0] 0 1:=by
 have:f6 O a b #[] 0 0:=⟨Nat.zero_le _,Nat.zero_le _,by simp,List.Pairwise.nil,fun x ai=>by cases ai⟩;exact this.sC aJ av af fun Y=>h
noncomputable def pQ:∀Y:Nat,StateT SortSt Sem Unit:=sortPriv% PySem.Builtin.setMinGallop
noncomputable abbrev wC(st:SortSt)(g:Nat):SortSt:=SortSt.mk' (kindOf st) (arrOf st) (pendingOf st) g (failedOf st)
theorem zz(g:Nat):pQ g=modify fun st=>wC st g:=rfl
noncomputable def fu(st ao:SortSt):Prop:=∃g,ao=wC st g
theorem fu.refl(st:SortSt):fu st st:=⟨gallopOf st,rfl⟩
theorem fu.set{st ao:SortSt}(h:fu st ao)(g:Nat):fu st (wC ao g):=by refine aj ?_ h;clear h;rintro cL rfl;exact⟨g,rfl⟩
theorem fu.kind{st ao:SortSt}(h:fu st ao):kindOf ao=kindOf st:=by refine aj ?_ h;clear h;rintro cL rfl;rfl
noncomputable def CN:∀Y:Array Keyed,∀Y:Array Keyed,StateT SortSt Sem (Array Keyed):=sortPriv% PySem.Builtin.mergeLo
noncomputable abbrev qN:=Option (Array Keyed)×Array Keyed×Nat×Nat×Nat
noncomputable abbrev pR:=Option (Array Keyed)×Array Keyed×Nat×Nat×Nat×Nat
noncomputable abbrev M2:=Option (Array Keyed)×Array Keyed×Nat×Nat×Nat×Nat×Nat
noncomputable def qO(a b out:Array Keyed)(bl bw:Nat):Array Keyed:=out++a.extract bl a.size++b.extract bw b.size
noncomputable def zA(a b out:Array Keyed)(bl bw:Nat):Array Keyed:=out++b.extract bw b.size++a.extract bl a.size
noncomputable def Ik(a b:Array Keyed)(g:Nat)(out:Array Keyed)(bl bw ac cU:Nat):StateT SortSt Sem (ForInStep pR):=do
 let y ←elem' b bw
 let x ←elem' a bl
 let r ←lt' y x
 match r with
 |some P4=>
  if P4=true then do
   let y ←elem' b bw
   if(bw+1==b.size)=true then pure (.done (some (qO a b (out.push y) bl (bw+1)),out.push y,bl,bw+1,0,cU+1))
   else if cU+1≥g then pure (.done (none,out.push y,bl,bw+1,0,cU+1))
   else pure (.yield (none,out.push y,bl,bw+1,0,cU+1))
  else do
   let x ←elem' a bl
   if(bl+1+1==a.size)=true then pure (.done (some (zA a b (out.push x) (bl+1) bw),out.push x,bl+1,bw,ac+1,0))
   else if ac+1≥g then pure (.done (none,out.push x,bl+1,bw,ac+1,0))
   else pure (.yield (none,out.push x,bl+1,bw,ac+1,0))
 |_=>pure (.done (some (qO a b out bl bw),out,bl,bw,ac,cU))
noncomputable def CO(a b out:Array Keyed)(bl bw g ac cU:Nat):StateT SortSt Sem (ForInStep M2):=do
 let x ←elem' a bl
 if(bl+1+1==a.size)=true then pure (.done (some (zA a b (out.push x) (bl+1) bw),out.push x,bl+1,bw,g,ac,cU))
 else if(decide (ac<7)&&decide (cU<7))=true then pure (.done (none,out.push x,bl+1,bw,g,ac,cU))
 else pure (.yield (none,out.push x,bl+1,bw,g,ac,cU))
noncomputable def CP(a b out:Array Keyed)(bl bw g ac cU:Nat):StateT SortSt Sem (ForInStep M2):=do
 let y ←elem' b bw
 if(bw+1==b.size)=true then pure (.done (some (qO a b (out.push y) bl (bw+1)),out.push y,bl,bw+1,g,ac,cU))
 else do
  let x ←elem' a bl
  let r ←oA true x b (bw+1) (b.size-(bw+1)) 0
  match r with
  |some k=>
   if k>0 then
    if(bw+1+k==b.size)=true then pure (.done (some (qO a b (out.push y++b.extract (bw+1) (bw+1+k)) bl (bw+1+k)),out.push y++b.extract (bw+1) (bw+1+k),bl,bw+1+k,g,ac,k))
    else CO a b (out.push y++b.extract (bw+1) (bw+1+k)) bl (bw+1+k) g ac k
   else CO a b (out.push y) bl (bw+1) g ac k
  |_=>pure (.done (some (qO a b (out.push y) bl (bw+1)),out.push y,bl,bw+1,g,ac,cU))
noncomputable def CQ(a b out:Array Keyed)(bl bw ac cU g:Nat):StateT SortSt Sem (ForInStep M2):=do
 pQ g
 let y ←elem' b bw
 let r ←oA false y a bl (a.size-bl) 0
 match r with
 |some k=>
  if k>0 then
   if(bl+k+1==a.size)=true then pure (.done (some (zA a b (out++a.extract bl (bl+k)) (bl+k) bw),out++a.extract bl (bl+k),bl+k,bw,g,k,cU))
   else if(bl+k==a.size)=true then pure (.done (some (qO a b (out++a.extract bl (bl+k)) (bl+k) bw),out++a.extract bl (bl+k),bl+k,bw,g,k,cU))
   else CP a b (out++a.extract bl (bl+k)) (bl+k) bw g k cU
  else CP a b out bl bw g k cU
 |_=>pure (.done (some (qO a b out bl bw),out,bl,bw,g,ac,cU))
noncomputable def CR(a b out:Array Keyed)(bl bw g ac cU:Nat):StateT SortSt Sem (ForInStep M2):=
 if g>1 then CQ a b out bl bw ac cU (g-1)else CQ a b out bl bw ac cU g
noncomputable def Il(a b out:Array Keyed)(bl bw g:Nat):StateT SortSt Sem (ForInStep qN):=do
 let c ←forIn [0:a.size+b.size] ((none,out,bl,bw,0,0):pR) fun Y c=>Ik a b g c.2.1 c.2.2.1 c.2.2.2.1 c.2.2.2.2.1 c.2.2.2.2.2
 match c.1 with
 |some r=>pure (.done (some r,c.2.1,c.2.2.1,c.2.2.2.1,g))
 |none=>do
  rule "list.sort.gallop"
  let c ←forIn [0:a.size+b.size] ((none,c.2.1,c.2.2.1,c.2.2.2.1,g+1,c.2.2.2.2.1,c.2.2.2.2.2):M2) fun Y c=>CR a b c.2.1 c.2.2.1 c.2.2.2.1 c.2.2.2.2.1 c.2.2.2.2.2.1 c.2.2.2.2.2.2
  match c.1 with
  |some r=>pure (.done (some r,c.2.1,c.2.2.1,c.2.2.2.1,c.2.2.2.2.1))
  |none=>do
   pQ (c.2.2.2.2.1+1)
   pure (.yield (none,c.2.1,c.2.2.1,c.2.2.2.1,c.2.2.2.2.1+1))
theorem P5(a b:Array Keyed):CN a b=(do
 rule "list.sort.merge-lo"
 let y ←elem' b 0
 if(1==b.size)=true then pure (qO a b #[y] 0 1)
 else if(0+1==a.size)=true then pure (zA a b #[y] 0 1)
 else do
  let st ←get
  let c ←forIn [0:a.size+b.size] ((none,#[y],0,1,gallopOf st):qN) fun Y c=>Il a b c.2.1 c.2.2.1 c.2.2.2.1 c.2.2.2.2
  match c.1 with
  |some r=>pure r
  |none=>unsupported "internal:list.sort.merge-bound"):=by kernel_rfl
variable(O)
theorem CS{key:Keyed}{arr:Array Keyed}{base n hint:Nat}{Q:∀Y:Option Nat,∀Y:SortSt,Prop} {st:SortSt} (eG:kindOf st=O.kd) (hm:∀p∈arr.toList,O.mem p) (aK:O.mem key) (az:base+n≤arr.size) (bR:hint<n)
 (hs:∀i j,∀Y:i≤j,∀Y:j<n,O.le (aN arr (base+i)) (aN arr (base+j))) (h:∀r,∀Y:r≤n,∀Y:(∀i,∀Y:i<r,O.le (aN arr (base+i)) key),∀Y:(∀i,∀Y:r≤i,∀Y:i<n,O.lt' key (aN arr (base+i))=true),Q (some r) st):
 b4 prog w A s (oA false key arr base n hint) Q st:=by
 refine Ij O eG hm aK az bR (fun i j iH aP av=>?_) fun r ae af aH=>h r ae (fun i hi=>?_) fun i bX et=>?_
 ·have g4:O.lt' key (aN arr (base+j))=false:=by simpa [eV]using av
  have:O.lt' key (aN arr (base+i))=false:=O.le_trans (hs i j iH aP) (O.pP g4);simp[eV,this]
 ·have:=af i hi;have g4:O.lt' key (aN arr (base+i))=false:=by simpa [eV]using this
  exact g4
 ·have:=aH i bX et;simpa [eV]using this
theorem CT{key:Keyed}{arr:Array Keyed}{base n hint:Nat}{Q:∀Y:Option Nat,∀Y:SortSt,Prop} {st:SortSt} (eG:kindOf st=O.kd) (hm:∀p∈arr.toList,O.mem p) (aK:O.mem key) (az:base+n≤arr.size) (bR:hint<n)
 (hs:∀i j,∀Y:i≤j,∀Y:j<n,O.le (aN arr (base+i)) (aN arr (base+j))) (h:∀r,∀Y:r≤n,∀Y:(∀i,∀Y:i<r,O.lt' (aN arr (base+i)) key=true),∀Y:(∀i,∀Y:r≤i,∀Y:i<n,O.le key (aN arr (base+i))),Q (some r) st):
 b4 prog w A s (oA true key arr base n hint) Q st:=by
 refine Ij O eG hm aK az bR (fun i j iH aP av=>?_) fun r ae af aH=>h r ae (fun i hi=>?_) fun i bX et=>?_
 ·have g4:O.lt' (aN arr (base+j)) key=true:=by simpa [eV]using av
  simpa [eV]using O.lt_of_le_of_lt (hs i j iH aP) g4
 ·simpa [eV]using af i hi
 ·have:=aH i bX et;have fq:O.lt' (aN arr (base+i)) key=false:=by simpa [eV]using this
  exact fq
theorem mem_getD{arr:Array Keyed}{P:∀Y:Keyed,Prop} (hm:∀p∈arr.toList,P p) {i:Nat} (hi:i<arr.size):P (aN arr i):=hm _ (by simp[aN,Array.getD,hi])
structure pS(a b:Array Keyed)(st:SortSt):Prop where
 kd:kindOf st=O.kd
 lu:∀p∈a.toList,O.mem p
 gi:∀p∈b.toList,O.mem p
 bu:cD O a.toList
 de:cD O b.toList
 aD:∀y∈b.toList,O.le y (aN a (a.size-1))
structure nz(a b out:Array Keyed)(bl bw n:Nat):Prop where
 P6:f6 O a b out bl bw
 cO:bl+1<a.size
 cQ:bw<b.size
 n:n≤out.size
noncomputable def oB(st ao:SortSt)(a b:Array Keyed)(N:Nat)(r:Option (Array Keyed))(out:Array Keyed)(bl bw:Nat):Prop:=
 fu st ao∧match r with|some r=>l7 O a b r|none=>nz O a b out bl bw N
noncomputable def P7(st:SortSt)(a b:Array Keyed)(eW eX:Nat)(r:ForInStep pR)(ao:SortSt):Prop:=match r with
 |.done c=>oB O st ao a b eW c.1 c.2.1 c.2.2.1 c.2.2.2.1
 |.yield c=>c.1=none∧oB O st ao a b eX c.1 c.2.1 c.2.2.1 c.2.2.2.1
noncomputable def zB(st:SortSt)(a b:Array Keyed)(eW eX:Nat)(r:ForInStep M2)(ao:SortSt):Prop:=match r with
 |.done c=>oB O st ao a b eW c.1 c.2.1 c.2.2.1 c.2.2.2.1
 |.yield c=>c.1=none∧oB O st ao a b eX c.1 c.2.1 c.2.2.1 c.2.2.2.1
variable{O}
variable{st ao:SortSt}{g ac cU eW eX N:Nat}
theorem pS.sD(ak:pS O a b st)(h:fu st ao):kindOf ao=O.kd:=h.kind.trans ak.kd
theorem Im(ak:pS O a b st)(di:fu st ao)(M:f6 O a b out bl bw)(cO:bl+1<a.size)(cQ:bw<b.size)(hle:O.le (aN a bl) (aN b bw))(ae:eW≤out.size+1)(af:eX≤out.size+1):
 b4 prog w A s (CO a b out bl bw g ac cU) (zB O st a b eW eX) ao:=by
 refine bY (h9 (by exact aq (.b (.b .p) .q (.t .p .q)) rfl cO) ?_);have dj:=M.sA ak.bu ak.de (by exact aq (.b (.b .p) .q (.t .p .q)) rfl cO) fun Y=>hle;by_cases e:bl+1+1=a.size
 ·rw[if_pos (beq_iff_eq.mpr e)];exact cR ⟨di,dj.last ak.bu ak.de e ak.aD⟩
 ·rw[if_neg (fun q=>e (beq_iff_eq.mp q))];have aO:∀{N},∀Y:N≤out.size+1,nz O a b (out.push (aN a bl)) (bl+1) bw N:=fun h=>⟨dj,by exact(Nat.lt_or_gt_of_ne e).elim (fun ay=>aq (.b (.b (.b .p)) .q (.t (.b (.b .p)) .q)) rfl ay) (fun aE=>aq (.i 2 (.t (.b .p) .q) (.b .q (.b (.b .p)) (.t (.b (.b .p)) .q))) rfl cO aE),cQ,by rw[Array.size_push];exact h⟩
  split
  ·exact cR ⟨di,aO ae⟩
  ·exact cR ⟨rfl,di,aO af⟩
theorem Io(ak:pS O a b st)(di:fu st ao)(M:f6 O a b out bl bw)(cO:bl+1<a.size)(cQ:bw<b.size)(ai:O.le (aN b bw) (aN a bl))(ae:eW≤out.size+2)(af:eX≤out.size+2):
 b4 prog w A s (CP a b out bl bw g ac cU) (zB O st a b eW eX) ao:=by
 refine bY (h9 cQ ?_);have sE:=M.sC ak.bu ak.de cQ fun Y=>ai;by_cases g8:bw+1=b.size
 ·rw[if_pos (beq_iff_eq.mpr g8)];exact cR ⟨di,sE.done ak.bu ak.de (.inr g8)⟩
 rw[if_neg (fun q=>g8 (beq_iff_eq.mp q))];have eH:bl<a.size:=Nat.lt_of_succ_lt cO;have gM:bw+1<b.size:=Nat.lt_of_le_of_ne cQ g8;refine bY (h9 eH (bY (CT O (ak.sD di) ak.gi (mem_getD ak.lu eH) (by exact aA (.c (.a .q (.b .p)) .r (.l (.a (.b .p) .q) .r)) rfl (Nat.sub_add_cancel (aq (.b .p .q (.l (.b .p) .q)) rfl cQ))) (by exact(Nat.lt_or_gt_of_ne g8).elim (fun ay=>aA (.i (-1) (.e (.a .p (.b .q)) .r) (.b (.b .q) .r (.t .z .p))) rfl (Nat.sub_add_cancel (aq (.b .p .q (.l (.b .p) .q)) rfl cQ)) ay) (fun aE=>aA (.c (.a .p (.b .q)) .r (.b .r (.b .q) (.t .z .p))) rfl (Nat.sub_add_cancel (aq (.b .p .q (.l (.b .p) .q)) rfl cQ)) aE)) (fun i j ae af=>ak.de.at_ O (by exact aA (.a .q .r (.l (.a (.b .p) .q) (.a (.b .p) .r))) rfl ae) (by exact(Nat.le_total (_+(1:Nat)) _).elim (fun ay=>bA (.b .q .s (.c (.a .s (.b .p)) .r (.t (.a (.b .p) .q) .r))) rfl af (Nat.sub_add_cancel ay)) (fun aE=>(aq (.b .p .q (.c .q .z .f)) rfl af (Nat.sub_eq_zero_of_le aE):False).elim))) fun q ay aE bI=>?_)));have hs:=Array.size_push (xs:=out) (aN b bw);by_cases jP:q>0
 ·refine Eq.mpr (congrArg (fun m=>b4 prog w A s m _ _) (if_pos jP)) ?_;have ud:=sE.wB ak.bu ak.de q (by exact MN ay jP) fun i hi Y=>O.le_of_lt (aE i hi);by_cases jQ:bw+1+q=b.size
  ·rw[if_pos (beq_iff_eq.mpr jQ)];exact cR ⟨di,ud.done ak.bu ak.de (.inr jQ)⟩
  rw[if_neg (fun q=>jQ (beq_iff_eq.mp q))];exact Im ak di ud cO (by exact(Nat.lt_or_gt_of_ne jQ).elim (fun ay=>aA (.b (.a (.b .p) .q) .r (.t (.a (.b .p) .q) .r)) rfl ay) (fun aE=>(Nat.le_total (_+(1:Nat)) _).elim (fun bI=>bA (.i 2 (.l .q .s) (.b .r (.a (.b .p) .q) (.i 2 (.e (.a .s (.b .p)) .r) (.t (.a (.b .p) .q) .r)))) rfl ay aE (Nat.sub_add_cancel bI)) (fun cM=>(aq (.a .p .q (.b .z .p (.c .q .z .f))) rfl ay jP (Nat.sub_eq_zero_of_le cM):False).elim))) (bI q (Nat.le_refl _) (by exact(Nat.lt_or_gt_of_ne jQ).elim (fun ay=>bA (.b (.a (.b .r) .p) .s (.a .s (.a .q (.b .r)) (.t .p .q))) rfl ay (b5 _ (_+(1:Nat)))) (fun aE=>(Nat.le_total (_+(1:Nat)) _).elim (fun bI=>bA (.i 2 (.l .p .q) (.b .r (.a (.b .s) .p) (.c (.a .q (.b .s)) .r (.t .p .q)))) rfl ay aE (Nat.sub_add_cancel bI)) (fun cM=>aq (.i 2 (.l .p .q) (.b .z .p (.c .q .z (.t .p .q)))) rfl ay jP (Nat.sub_eq_zero_of_le cM))))) (by rw[Array.size_append];exact bA (.a .p (.a .s (.k 2)) (.i (-1) (.e .q (.b .s)) (.l .p (.b (.a .q .r))))) rfl ae hs) (by rw[Array.size_append];exact bA (.a .p (.a .s (.k 2)) (.i (-1) (.e .q (.b .s)) (.l .p (.b (.a .q .r))))) rfl af hs)
 ·refine Eq.mpr (congrArg (fun m=>b4 prog w A s m _ _) (if_neg jP)) ?_;have oD:q=0:=Nat.eq_zero_of_not_pos jP;subst oD;exact Im ak di sE cO gM (bI 0 (Nat.le_refl _) (by exact(Nat.lt_or_gt_of_ne g8).elim (fun ay=>aA (.i (-1) (.e (.a .p (.b .q)) .r) (.b (.b .q) .r (.t .z .p))) rfl (Nat.sub_add_cancel (aq (.b .p .q (.l (.b .p) .q)) rfl cQ)) ay) (fun aE=>aA (.c (.a .p (.b .q)) .r (.b .r (.b .q) (.t .z .p))) rfl (Nat.sub_add_cancel (aq (.b .p .q (.l (.b .p) .q)) rfl cQ)) aE))) (by exact aA (.a .p (.a .r (.k 2)) (.i (-1) (.e .q (.b .r)) (.l .p (.b .q)))) rfl ae hs) (by exact aA (.a .p (.a .r (.k 2)) (.i (-1) (.e .q (.b .r)) (.l .p (.b .q)))) rfl af hs)
theorem P8(ak:pS O a b st)(di:fu st ao)(V:nz O a b out bl bw N)(ae:eW≤N+2)(af:eX≤N+2):
 b4 prog w A s (CQ a b out bl bw ac cU g) (zB O st a b eW eX) ao:=by
 obtain⟨M,cO,cQ,ln⟩:=V;have oE:=di.set g;have eH:bl<a.size:=Nat.lt_of_succ_lt cO;show b4 prog w A s (pQ g>>=_) _ _;rw[zz];refine bY (pO (bY (h9 cQ (bY (CS O (ak.sD oE) ak.lu (mem_getD ak.gi cQ) (by exact aA (.c (.a .q .p) .r (.l (.a .p .q) .r)) rfl (Nat.sub_add_cancel (aq (.b (.b .p) .q (.l .p .q)) rfl cO))) (by exact aA (.b (.b .q) .r (.a .r (.a .p .q) (.G 1 (.t .z .p)))) rfl cO (b5 _ _)) (fun i j ae af=>ak.bu.at_ O (by exact aA (.a .q .r (.l (.a .p .q) (.a .p .r))) rfl ae) (by exact ye af)) fun k cT eU iV=>?_)))));by_cases oF:k>0
 ·refine Eq.mpr (congrArg (fun m=>b4 prog w A s m _ _) (if_pos oF)) ?_;have ue:=M.wA ak.bu ak.de k (by exact(Nat.le_total _ _).elim (fun ay=>bA (.a .q .s (.c (.a .s .p) .r (.l (.a .p .q) .r))) rfl cT (Nat.sub_add_cancel ay)) (fun aE=>(aq (.a .p .q (.b .z .p (.c .q .z .f))) rfl cT oF (Nat.sub_eq_zero_of_le aE):False).elim)) fun i hi Y=>eU i hi;by_cases cz:bl+k+1=a.size
  ·rw[if_pos (beq_iff_eq.mpr cz)];exact cR ⟨oE,ue.last ak.bu ak.de cz ak.aD⟩
  rw[if_neg (fun q=>cz (beq_iff_eq.mp q))];by_cases jg:bl+k=a.size
  ·rw[if_pos (beq_iff_eq.mpr jg)];exact cR ⟨oE,ue.done ak.bu ak.de (.inl jg)⟩
  rw[if_neg (fun q=>jg (beq_iff_eq.mp q))];exact Io ak oE ue (by exact(Nat.lt_or_gt_of_ne cz).elim (fun ay=>aA (.b (.b (.a .p .q)) .r (.t (.b (.a .p .q)) .r)) rfl ay) (fun aE=>(Nat.lt_or_gt_of_ne jg).elim (fun bI=>aA (.b .r (.b (.a .p .q)) (.i 2 (.t (.a .p .q) .r) (.t (.b (.a .p .q)) .r))) rfl aE bI) (fun cM=>(Nat.le_total _ _).elim (fun h7=>bA (.i 3 (.l .q .s) (.i 2 (.t .r (.a .p .q)) (.i 3 (.e (.a .s .p) .r) (.t (.b (.a .p .q)) .r)))) rfl cT cM (Nat.sub_add_cancel h7)) (fun fL=>(aq (.a .p .q (.b .z .p (.c .q .z .f))) rfl cT oF (Nat.sub_eq_zero_of_le fL):False).elim)))) cQ (O.le_of_lt (iV k (Nat.le_refl _) (by exact(Nat.lt_or_gt_of_ne jg).elim (fun ay=>bA (.b (.a .r .p) .s (.a .s (.a .q .r) (.t .p .q))) rfl ay (b5 _ _)) (fun aE=>(Nat.le_total _ _).elim (fun bI=>bA (.i 2 (.l .p .q) (.b .r (.a .s .p) (.c (.a .q .s) .r (.t .p .q)))) rfl cT aE (Nat.sub_add_cancel bI)) (fun cM=>aq (.i 2 (.l .p .q) (.b .z .p (.c .q .z (.t .p .q)))) rfl cT oF (Nat.sub_eq_zero_of_le cM)))))) (by rw[Array.size_append];exact bA (.a .p (.a .s (.k 2)) (.a .s .q (.l .p (.a (.a .q .r) (.k 2))))) rfl ae ln) (by rw[Array.size_append];exact bA (.a .p (.a .s (.k 2)) (.a .s .q (.l .p (.a (.a .q .r) (.k 2))))) rfl af ln)
 ·refine Eq.mpr (congrArg (fun m=>b4 prog w A s m _ _) (if_neg oF)) ?_;have nt:k=0:=Nat.eq_zero_of_not_pos oF;subst nt;exact Io ak oE M cO cQ (O.le_of_lt (iV 0 (Nat.le_refl _) (by exact aA (.b (.b .q) .r (.a .r (.a .p .q) (.G 1 (.t .z .p)))) rfl cO (b5 _ _)))) (by exact aA (.a .p (.a .r (.k 2)) (.a .r .q (.l .p (.a .q (.k 2))))) rfl ae ln) (by exact aA (.a .p (.a .r (.k 2)) (.a .r .q (.l .p (.a .q (.k 2))))) rfl af ln)
theorem P9(ak:pS O a b st)(di:fu st ao)(V:nz O a b out bl bw N)(ae:eW≤N+2)(af:eX≤N+2):
 b4 prog w A s (CR a b out bl bw g ac cU) (zB O st a b eW eX) ao:=by
 unfold CR
 split<;>exact P8 ak di V ae af
theorem Qa(ak:pS O a b st)(di:fu st ao)(V:nz O a b out bl bw N)(ae:eW≤N+1)(af:eX≤N+1):
 b4 prog w A s (Ik a b g out bl bw ac cU) (P7 O st a b eW eX) ao:=by
 obtain⟨M,cO,cQ,ln⟩:=V;have eH:bl<a.size:=Nat.lt_of_succ_lt cO;refine bY (h9 cQ (bY (h9 eH (bY (wy O (ak.sD di) (mem_getD ak.gi cQ) (mem_getD ak.lu eH) ?_)))));cases bC:O.lt' (aN b bw) (aN a bl)with
 |true=>
  refine bY (h9 cQ ?_);have nA:=M.sC ak.bu ak.de cQ fun Y=>O.le_of_lt bC;by_cases cz:bw+1=b.size
  ·rw[if_pos (beq_iff_eq.mpr cz)];exact cR ⟨di,nA.done ak.bu ak.de (.inr cz)⟩
  ·rw[if_neg (fun q=>cz (beq_iff_eq.mp q))];have aO:∀{K},∀Y:K≤N+1,nz O a b (out.push (aN b bw)) bl (bw+1) K:=fun h=>⟨nA,cO,by exact(Nat.lt_or_gt_of_ne cz).elim (fun ay=>aq (.b (.b .p) .q (.t (.b .p) .q)) rfl ay) (fun aE=>aq (.i 2 (.t .p .q) (.b .q (.b .p) (.t (.b .p) .q))) rfl cQ aE),by rw[Array.size_push];exact aA (.a .r .q (.a .p (.b .r) (.l .p (.b .q)))) rfl ln h⟩
   split
   ·exact cR ⟨di,aO ae⟩
   ·exact cR ⟨rfl,di,aO af⟩
 |false=>
  refine bY (h9 eH ?_);have nA:=M.sA ak.bu ak.de eH fun Y=>O.pP bC;by_cases cz:bl+1+1=a.size
  ·rw[if_pos (beq_iff_eq.mpr cz)];exact cR ⟨di,nA.last ak.bu ak.de cz ak.aD⟩
  ·rw[if_neg (fun q=>cz (beq_iff_eq.mp q))];have aO:∀{K},∀Y:K≤N+1,nz O a b (out.push (aN a bl)) (bl+1) bw K:=fun h=>⟨nA,by exact(Nat.lt_or_gt_of_ne cz).elim (fun ay=>aq (.b (.b (.b .p)) .q (.t (.b (.b .p)) .q)) rfl ay) (fun aE=>aq (.i 2 (.t (.b .p) .q) (.b .q (.b (.b .p)) (.t (.b (.b .p)) .q))) rfl cO aE),cQ,by rw[Array.size_push];exact aA (.a .r .q (.a .p (.b .r) (.l .p (.b .q)))) rfl ln h⟩
   split
   ·exact cR ⟨di,aO ae⟩
   ·exact cR ⟨rfl,di,aO af⟩
theorem nz.sF(V:nz O a b out bl bw N)(h:a.size+b.size≤N):False:=by
 have:=V.P6.size;have:=V.cO;have:=V.cQ;have:=V.n;exact MO h (by assumption) (by assumption) this
noncomputable def Qc(st:SortSt)(a b:Array Keyed)(N:Nat)(r:ForInStep qN)(ao:SortSt):Prop:=match r with
 |.done c=>fu st ao∧∃r,c.1=some r∧l7 O a b r
 |.yield c=>c.1=none∧oB O st ao a b N c.1 c.2.1 c.2.2.1 c.2.2.2.1
theorem Qd(ak:pS O a b st)(di:fu st ao)(V:nz O a b out bl bw N):b4 prog w A s (Il a b out bl bw g) (Qc (O:=O) st a b (N+1)) ao:=by
 refine bY (gp (l5 (I:=fun x c ao=>c.1=none∧oB O st ao a b (N+x) c.1 c.2.1 c.2.2.1 c.2.2.2.1) (Q:=fun c ao=>oB O st ao a b (N+1) c.1 c.2.1 c.2.2.1 c.2.2.2.1)
  (fun x c ao Y ai bE=>?_) (fun c ao bE=>?_) ⟨rfl,di,V⟩) fun c ao a7=>?_)
 ·refine ar ?_ bE;clear bE;intro e bD;rw[e]at bD;refine gp (Qa ak bD.1 bD.2 (eW:=N+1) (eX:=N+(x+1)) (by exact aq (.l (.b .p) (.b (.a .p .q))) rfl) (by exact aq (.l (.a .p (.b .q)) (.b (.a .p .q))) rfl)) fun r ao h=>?_;cases r with
  |done c=>exact h
  |yield c=>exact h
 ·refine ar ?_ bE;clear bE;intro e bD;rw[e]at bD;exact(bD.2.sF (by exact bA (.a (.a .p .q) .s (.l (.a .p .q) (.a .r .s))) rfl (Nat.le_max_right (0:Nat) (_+_)))).elim
 ·obtain⟨r,out,bl,bw,ac,cU⟩:=c;cases r with
  |some r=>exact cR ⟨a7.1,r,rfl,a7.2⟩
  |none=>
   refine bY (t9 ?_)
   refine bY (gp (l5 (I:=fun x c ao=>c.1=none∧oB O st ao a b (N+1+x) c.1 c.2.1 c.2.2.1 c.2.2.2.1) (Q:=fun c ao=>oB O st ao a b (N+1) c.1 c.2.1 c.2.2.1 c.2.2.2.1)
    (fun x c ao Y ai bE=>?_) (fun c ao bE=>?_) ⟨rfl,a7⟩) fun c ao a7=>?_)
   ·refine ar ?_ bE;clear bE;intro e bD;rw[e]at bD;refine gp (P9 ak bD.1 bD.2 (eW:=N+1) (eX:=N+1+(x+1)) (by exact aq (.l (.b .p) (.a (.a (.b .p) .q) (.k 2))) rfl) (by exact aq (.l (.a (.b .p) (.b .q)) (.a (.a (.b .p) .q) (.k 2))) rfl)) fun r ao h=>?_;cases r with
    |done c=>exact h
    |yield c=>exact h
   ·refine ar ?_ bE;clear bE;intro e bD;rw[e]at bD;exact(bD.2.sF (by exact bA (.a (.a .p .q) .s (.l (.a .p .q) (.a (.b .r) .s))) rfl (Nat.le_max_right (0:Nat) (_+_)))).elim
   ·obtain⟨r,out,bl,bw,g,ac,cU⟩:=c;cases r with
    |some r=>exact cR ⟨a7.1,r,rfl,a7.2⟩
    |none=>
     show b4 prog w A s (pQ (g+1)>>=_) _ _;rw[zz];exact bY (pO (cR ⟨rfl,a7.1.set _,a7.2⟩))
variable(O)
theorem Qe{Q:∀Y:Array Keyed,∀Y:SortSt,Prop} {st:SortSt} (eG:kindOf st=O.kd) (CU:∀p∈a.toList,O.mem p) (CV:∀p∈b.toList,O.mem p) (aJ:cD O a.toList) (av:cD O b.toList) (ae:0<a.size) (af:0<b.size)
 (aM:O.le (aN b 0) (aN a 0)) (aD:∀y∈b.toList,O.le y (aN a (a.size-1))) (h:∀r ao,∀Y:fu st ao,∀Y:l7 O a b r,Q r ao):b4 prog w A s (CN a b) Q st:=by
 have dc:=f6.start aJ av ae af aM;have ak:pS O a b st:=⟨eG,CU,CV,aJ,av,aD⟩;rw[P5];refine bY (t9 (bY (h9 af ?_)));by_cases aS:1=b.size
 ·rw[if_pos (beq_iff_eq.mpr aS)];exact cR (h _ _ (.refl _) (dc.done aJ av (.inr aS)))
 rw[if_neg (fun q=>aS (beq_iff_eq.mp q))];by_cases aW:0+1=a.size
 ·rw[if_pos (beq_iff_eq.mpr aW)];exact cR (h _ _ (.refl _) (dc.last aJ av aW aD))
 rw[if_neg (fun q=>aW (beq_iff_eq.mp q))];refine bY (oz ?_)
 refine bY (gp (l5 (I:=fun x c ao=>c.1=none∧oB O st ao a b (1+x) c.1 c.2.1 c.2.2.1 c.2.2.2.1) (Q:=fun c ao=>fu st ao∧∃r,c.1=some r∧l7 O a b r)
  (fun x c ao Y ai bE=>?_) (fun c ao bE=>?_) ⟨rfl,.refl _,(⟨dc,by exact(Nat.lt_or_gt_of_ne aW).elim (fun ay=>aI (.b (.b .z) .p (.t (.b .z) .p)) rfl ay) (fun aE=>aI (.i 2 (.t .z .p) (.b .p (.b .z) (.t (.b .z) .p))) rfl ae aE),by exact(Nat.lt_or_gt_of_ne aS).elim (fun ay=>aI (.b .o .p (.t .o .p)) rfl ay) (fun aE=>aI (.i 2 (.t .z .p) (.b .p .o (.t .o .p))) rfl af aE),Nat.le_refl 1⟩:nz O a b #[aN b 0] 0 1 (1+0))⟩) fun c ao a7=>?_)
 ·refine ar ?_ bE;clear bE;intro e bD;rw[e]at bD;refine gp (Qd ak bD.1 bD.2) fun r ao h=>?_;cases r with
  |done c=>exact h
  |yield c=>exact h
 ·refine ar ?_ bE;clear bE;intro e bD;rw[e]at bD;exact(bD.2.sF (by exact aA (.a (.a .p .q) .r (.l (.a .p .q) (.a .o .r))) rfl (Nat.le_max_right (0:Nat) (_+_)))).elim
 ·obtain⟨r,out,bl,bw,g⟩:=c;obtain⟨di,c5,e,aC⟩:=a7;cases e
  exact cR (h _ _ di aC)
end
end Mine
end
section
open PySem PyProof.Rows
namespace Mine
section
variable{prog:Program}{w:World}{A:Around}{s:Shared}(O:Ord prog w A s)
structure dT(a b out:Array Keyed)(na nb:Nat):Prop where
 eH:na≤a.size
 gM:nb≤b.size
 perm:((a.toList.take na++b.toList.take nb)++out.toList.reverse).Perm (a.toList++b.toList)
 sorted:cD O out.toList.reverse
 above:∀x∈out.toList,∀y,∀Y:y∈a.toList.take na∨y∈b.toList.take nb,O.le y x
variable{O}
variable{a b out:Array Keyed}{na nb:Nat}
theorem dT.size(h:dT O a b out na nb):na+nb+out.size=a.size+b.size:=by
 have:=h.perm.length_eq;have ae:=h.eH;have af:=h.gM;simp at this;exact(Nat.le_total _ _).elim (fun bI=>Nat.le_antisymm ((Nat.le_total _ _).elim (fun cM=>ck (.c (.a (.v 5) (.a (.v 6) .r)) (.a .s .t) (.i (-1) (.e (.v 5) .p) (.i (-1) (.e (.v 6) .q) (.l (.a (.a .p .q) .r) (.a .s .t))))) rfl [_,_,_,_,_,(min _ _),(min _ _)] [] this (Nat.min_eq_left bI) (Nat.min_eq_left cM)) (fun h7=>ck (.a .q .t (.c (.a (.v 5) (.a (.v 6) .r)) (.a .s .t) (.i (-1) (.e (.v 5) .p) (.i (-1) (.e (.v 6) .t) (.l (.a (.a .p .q) .r) (.a .s .t)))))) rfl [_,_,_,_,_,(min _ _),(min _ _)] [] af this (Nat.min_eq_left bI) (Nat.min_eq_right h7))) (ck (.i (-1) (.e (.a (.v 5) (.a (.v 6) .t)) (.a .p .q)) (.c (.v 5) .r (.a (.v 6) .s (.l (.a .p .q) (.a (.a .r .s) .t))))) rfl [_,_,_,_,_,(min _ _),(min _ _)] [] this (Nat.min_eq_left bI) (Nat.min_le_left _ _))) (fun fL=>Nat.le_antisymm ((Nat.le_total _ _).elim (fun fM=>ck (.a .p .s (.c (.a (.v 5) (.a (.v 6) .r)) (.a .s .t) (.i (-1) (.e (.v 5) .s) (.i (-1) (.e (.v 6) .q) (.l (.a (.a .p .q) .r) (.a .s .t)))))) rfl [_,_,_,_,_,(min _ _),(min _ _)] [] ae this (Nat.min_eq_right fL) (Nat.min_eq_left fM)) (fun ly=>ck (.a .p .s (.a .q .t (.c (.a (.v 5) (.a (.v 6) .r)) (.a .s .t) (.i (-1) (.e (.v 5) .s) (.i (-1) (.e (.v 6) .t) (.l (.a (.a .p .q) .r) (.a .s .t))))))) rfl [_,_,_,_,_,(min _ _),(min _ _)] [] ae af this (Nat.min_eq_right fL) (Nat.min_eq_right ly))) (ck (.i (-1) (.e (.a (.v 5) (.a (.v 6) .t)) (.a .p .q)) (.a .p .r (.c (.v 5) .p (.a (.v 6) .s (.l (.a .p .q) (.a (.a .r .s) .t)))))) rfl [_,_,_,_,_,(min _ _),(min _ _)] [] this fL (Nat.min_eq_right fL) (Nat.min_le_left _ _)))
theorem CW{a:Array Keyed}{i:Nat}(h:i<a.size):a.toList.take (i+1)=a.toList.take i++[aN a i]:=by
 rw[List.take_add_one,getD_list h,List.getElem?_eq_getElem (by simpa using h)];rfl
theorem zC(hs:cD O a.toList){i:Nat}(hi:i<a.size){y:Keyed}(au:y∈a.toList.take (i+1)):O.le y (aN a i):=by
 obtain⟨j,aP,rfl⟩:=List.mem_iff_getElem.mp au;rw[List.getElem_take];have jL:j<a.size:=by simp at aP;exact aA (.b .p .r (.a .r .q (.t .p .q))) rfl aP (Nat.min_le_right (_+(1:Nat)) _)
 rw[←getD_list jL];exact hs.at_ O (by simp at aP;exact aA (.b .p .r (.a .r (.b .q) (.l .p .q))) rfl aP (Nat.min_le_left (_+(1:Nat)) _)) hi
theorem dT.sA{m:Nat}(h:dT O a b out (m+1) nb)(aJ:cD O a.toList)(av:cD O b.toList)(hle:∀Y:0<nb,O.le (aN b (nb-1)) (aN a m)):dT O a b (out.push (aN a m)) m nb:=by
 have hm:m<a.size:=h.eH;have e:=CW hm;refine⟨Nat.le_of_lt hm,h.gM,?_,?_,fun x ai y au=>?_⟩
 ·refine List.Perm.trans ?_ h.perm;rw[e];simp only[Array.toList_push,List.reverse_append,List.reverse_cons,List.reverse_nil,List.nil_append,List.append_assoc,List.cons_append];refine List.Perm.append_left _ ?_;exact(List.perm_middle (l₁:=b.toList.take nb) (l₂:=out.toList.reverse) (a:=aN a m))
 ·simp only[cD,Array.toList_push,List.reverse_append,List.reverse_cons,List.reverse_nil,List.nil_append,List.cons_append,List.pairwise_cons];exact⟨fun x ai=>h.above x (List.mem_reverse.mp ai) _ (.inl (by rw[e];simp)),h.sorted⟩
 ·rw[Array.toList_push,List.mem_append,List.mem_singleton]at ai;rcases ai with ai|rfl
  ·exact h.above x ai y (au.imp (fun q=>by rw[e];exact List.mem_append_left _ q) id)
  ·rcases au with au|au
   ·exact zC aJ hm (by rw[e];exact List.mem_append_left _ au)
   ·have bC:0<nb:=by
     have:=List.length_pos_of_mem au;simp at this;exact aq (.b .z .q (.a .q .p (.t .z .p))) rfl this (Nat.min_le_left _ _)
    obtain⟨q,rfl⟩:∃q,nb=q+1:=⟨nb-1,by exact vy bC⟩;exact O.le_trans (zC av h.gM au) (hle bC)
theorem dT.sC{m:Nat}(h:dT O a b out na (m+1))(aJ:cD O a.toList)(av:cD O b.toList)(hle:∀Y:0<na,O.le (aN a (na-1)) (aN b m)):dT O a b (out.push (aN b m)) na m:=by
 have hm:m<b.size:=h.gM;have e:=CW hm;refine⟨h.eH,Nat.le_of_lt hm,?_,?_,fun x ai y au=>?_⟩
 ·refine List.Perm.trans (List.Perm.of_eq ?_) h.perm;rw[e];simp
 ·simp only[cD,Array.toList_push,List.reverse_append,List.reverse_cons,List.reverse_nil,List.nil_append,List.cons_append,List.pairwise_cons];exact⟨fun x ai=>h.above x (List.mem_reverse.mp ai) _ (.inr (by rw[e];simp)),h.sorted⟩
 ·rw[Array.toList_push,List.mem_append,List.mem_singleton]at ai;rcases ai with ai|rfl
  ·exact h.above x ai y (au.imp id fun q=>by rw[e];exact List.mem_append_left _ q)
  ·rcases au with au|au
   ·have bC:0<na:=by
     have:=List.length_pos_of_mem au;simp at this;exact aq (.b .z .q (.a .q .p (.t .z .p))) rfl this (Nat.min_le_left _ _)
    obtain⟨q,rfl⟩:∃q,na=q+1:=⟨na-1,by exact vy bC⟩;exact O.le_trans (zC aJ h.eH au) (hle bC)
   ·exact zC av hm (by rw[e];exact List.mem_append_left _ au)
theorem Ip{a:Array Keyed}{i k:Nat}(h:i+k<a.size)(out:Array Keyed):out++(a.extract i (i+(k+1))).reverse=(out.push (aN a (i+k)))++(a.extract i (i+k)).reverse:=by
 rw[CM h];apply Array.ext';simp
theorem dT.wA(aJ:cD O a.toList)(av:cD O b.toList){i:Nat}:∀(k:Nat){out:Array Keyed},∀Y:dT O a b out (i+k) nb,∀Y:(∀j,∀Y:j<k,∀Y:0<nb,O.le (aN b (nb-1)) (aN a (i+j))),dT O a b (out++(a.extract i (i+k)).reverse) i nb
 |0,out,h,_=>by rw[Nat.add_zero,zx];simpa using h
 |k+1,out,h,hle=>by
  have ae:=h.eH;rw[Ip (by exact aA (.a (.a .p (.b .q)) .r (.t (.a .p .q) .r)) rfl ae)];exact dT.wA aJ av k (h.sA (m:=i+k) aJ av (hle k (by exact aI (.t .p (.b .p)) rfl))) fun j aP=>hle j (by exact aq (.b .p .q (.t .p (.b .q))) rfl aP)
theorem dT.wB(aJ:cD O a.toList)(av:cD O b.toList){i:Nat}:∀(k:Nat){out:Array Keyed},∀Y:dT O a b out na (i+k),∀Y:(∀j,∀Y:j<k,∀Y:0<na,O.le (aN a (na-1)) (aN b (i+j))),dT O a b (out++(b.extract i (i+k)).reverse) na i
 |0,out,h,_=>by rw[Nat.add_zero,zx];simpa using h
 |k+1,out,h,hle=>by
  have ae:=h.gM;rw[Ip (by exact aA (.a (.a .p (.b .q)) .r (.t (.a .p .q) .r)) rfl ae)];exact dT.wB aJ av k (h.sC (m:=i+k) aJ av (hle k (by exact aI (.t .p (.b .p)) rfl))) fun j aP=>hle j (by exact aq (.b .p .q (.t .p (.b .q))) rfl aP)
theorem zD{a:Array Keyed}{i:Nat}:(a.extract 0 i).toList=a.toList.take i:=by
 rw[Array.toList_extract,List.extract_eq_take_drop];simp
theorem cD.take{l:List Keyed}(h:cD O l)(i:Nat):cD O (l.take i):=List.Pairwise.sublist (List.take_sublist _ _) h
theorem dT.done(h:dT O a b out na nb)(aJ:cD O a.toList)(av:cD O b.toList)(he:na=0∨nb=0):l7 O a b (a.extract 0 na++b.extract 0 nb++out.reverse):=by
 refine⟨?_,?_⟩
 ·simp only[Array.toList_append,zD,Array.toList_reverse];exact h.perm
 ·simp only[cD,Array.toList_append,zD,Array.toList_reverse,List.pairwise_append];refine⟨⟨aJ.take _,av.take _,fun x ai y au=>?_⟩,h.sorted,fun x ai y au=>h.above y (List.mem_reverse.mp au) x (List.mem_append.mp ai)⟩;rcases he with rfl|rfl
  ·simp at ai
  ·simp at au
theorem dT.first(h:dT O a b out na nb)(aJ:cD O a.toList)(av:cD O b.toList)(he:nb=1)(af:0<b.size)(aD:∀y∈a.toList,O.le (aN b 0) y):l7 O a b (b.extract 0 nb++a.extract 0 na++out.reverse):=by
 refine⟨?_,?_⟩
 ·simp only[Array.toList_append,zD,Array.toList_reverse];exact(List.Perm.append_right _ List.perm_append_comm).trans h.perm
 ·simp only[cD,Array.toList_append,zD,Array.toList_reverse,List.pairwise_append];refine⟨⟨av.take _,aJ.take _,fun x ai y au=>?_⟩,h.sorted,fun x ai y au=>h.above y (List.mem_reverse.mp au) x (List.mem_append.mp ai).symm⟩;subst he;rw[CW af]at ai;simp at ai;rw[ai];exact aD y (List.mem_of_mem_take au)
theorem dT.start(aJ:cD O a.toList)(av:cD O b.toList)(ae:0<a.size)(h:∀Y:0<b.size,O.le (aN b (b.size-1)) (aN a (a.size-1))):dT O a b #[aN a (a.size-1)] (a.size-1) b.size:=by
 have:dT O a b #[] (a.size-1+1) b.size:=by
  rw[show a.size-1+1=a.size by exact Nat.le_antisymm (aq (.c (.b .p) .q (.l (.b .p) .q)) rfl (Nat.sub_add_cancel (aI (.b .z .p (.l .o .p)) rfl ae))) (aq (.a .p (.b .q) (.l .p (.b .q))) rfl (b5 _ (1:Nat)))];refine⟨Nat.le_refl _,Nat.le_refl _,?_,List.Pairwise.nil,fun x ai=>by cases ai⟩;rw[List.take_of_length_le (by simp),List.take_of_length_le (by simp)];simp
 exact this.sA aJ av h
noncomputable def CX:∀Y:Array Keyed,∀Y:Array Keyed,StateT SortSt Sem (Array Keyed):=sortPriv% PySem.Builtin.mergeHi
noncomputable abbrev CY:=Option (Array Keyed)×Nat×Nat×Array Keyed×Nat
noncomputable abbrev H1:=Option (Array Keyed)×Nat×Nat×Array Keyed×Nat×Nat
noncomputable abbrev oG:=Option (Array Keyed)×Nat×Nat×Array Keyed×Nat×Nat×Nat
noncomputable def qP(a b out:Array Keyed)(na nb:Nat):Array Keyed:=a.extract 0 na++b.extract 0 nb++out.reverse
noncomputable def zE(a b out:Array Keyed)(na nb:Nat):Array Keyed:=b.extract 0 nb++a.extract 0 na++out.reverse
noncomputable def Iq(a b:Array Keyed)(g na nb:Nat)(out:Array Keyed)(ac cU:Nat):StateT SortSt Sem (ForInStep H1):=do
 let y ←elem' b (nb-1)
 let x ←elem' a (na-1)
 let r ←lt' y x
 match r with
 |some Qf=>
  if Qf=true then do
   let x ←elem' a (na-1)
   if(na-1==0)=true then pure (.done (some (qP a b (out.push x) (na-1) nb),na-1,nb,out.push x,ac+1,0))
   else if ac+1≥g then pure (.done (none,na-1,nb,out.push x,ac+1,0))
   else pure (.yield (none,na-1,nb,out.push x,ac+1,0))
  else do
   let y ←elem' b (nb-1)
   if(nb-1==1)=true then pure (.done (some (zE a b (out.push y) na (nb-1)),na,nb-1,out.push y,0,cU+1))
   else if cU+1≥g then pure (.done (none,na,nb-1,out.push y,0,cU+1))
   else pure (.yield (none,na,nb-1,out.push y,0,cU+1))
 |_=>pure (.done (some (qP a b out na nb),na,nb,out,ac,cU))
noncomputable def CZ(a b:Array Keyed)(na nb:Nat)(out:Array Keyed)(g ac cU:Nat):StateT SortSt Sem (ForInStep oG):=do
 let x ←elem' a (na-1)
 if(na-1==0)=true then pure (.done (some (qP a b (out.push x) (na-1) nb),na-1,nb,out.push x,g,ac,cU))
 else if(decide (ac<7)&&decide (cU<7))=true then pure (.done (none,na-1,nb,out.push x,g,ac,cU))
 else pure (.yield (none,na-1,nb,out.push x,g,ac,cU))
noncomputable def C0(a b:Array Keyed)(na nb:Nat)(out:Array Keyed)(g ac cU:Nat):StateT SortSt Sem (ForInStep oG):=do
 let y ←elem' b (nb-1)
 if(nb-1==1)=true then pure (.done (some (zE a b (out.push y) na (nb-1)),na,nb-1,out.push y,g,ac,cU))
 else do
  let x ←elem' a (na-1)
  let r ←oA true x b 0 (nb-1) (nb-1-1)
  match r with
  |some t=>
   if nb-1-t>0 then
    if(t==1)=true then pure (.done (some (zE a b (out.push y++(b.extract t (nb-1)).reverse) na t),na,t,out.push y++(b.extract t (nb-1)).reverse,g,ac,nb-1-t))
    else if(t==0)=true then pure (.done (some (qP a b (out.push y++(b.extract t (nb-1)).reverse) na t),na,t,out.push y++(b.extract t (nb-1)).reverse,g,ac,nb-1-t))
    else CZ a b na t (out.push y++(b.extract t (nb-1)).reverse) g ac (nb-1-t)
   else CZ a b na (nb-1) (out.push y) g ac (nb-1-t)
  |_=>pure (.done (some (qP a b (out.push y) na (nb-1)),na,nb-1,out.push y,g,ac,cU))
noncomputable def C1(a b:Array Keyed)(na nb:Nat)(out:Array Keyed)(ac cU g:Nat):StateT SortSt Sem (ForInStep oG):=do
 pQ g
 let y ←elem' b (nb-1)
 let r ←oA false y a 0 na (na-1)
 match r with
 |some t=>
  if na-t>0 then
   if(t==0)=true then pure (.done (some (qP a b (out++(a.extract t na).reverse) t nb),t,nb,out++(a.extract t na).reverse,g,na-t,cU))
   else C0 a b t nb (out++(a.extract t na).reverse) g (na-t) cU
  else C0 a b na nb out g (na-t) cU
 |_=>pure (.done (some (qP a b out na nb),na,nb,out,g,ac,cU))
noncomputable def C2(a b:Array Keyed)(na nb:Nat)(out:Array Keyed)(g ac cU:Nat):StateT SortSt Sem (ForInStep oG):=
 if g>1 then C1 a b na nb out ac cU (g-1)else C1 a b na nb out ac cU g
noncomputable def Ir(a b:Array Keyed)(na nb:Nat)(out:Array Keyed)(g:Nat):StateT SortSt Sem (ForInStep CY):=do
 let c ←forIn [0:a.size+b.size] ((none,na,nb,out,0,0):H1) fun Y c=>Iq a b g c.2.1 c.2.2.1 c.2.2.2.1 c.2.2.2.2.1 c.2.2.2.2.2
 match c.1 with
 |some r=>pure (.done (some r,c.2.1,c.2.2.1,c.2.2.2.1,g))
 |none=>do
  rule "list.sort.gallop"
  let c ←forIn [0:a.size+b.size] ((none,c.2.1,c.2.2.1,c.2.2.2.1,g+1,c.2.2.2.2.1,c.2.2.2.2.2):oG) fun Y c=>C2 a b c.2.1 c.2.2.1 c.2.2.2.1 c.2.2.2.2.1 c.2.2.2.2.2.1 c.2.2.2.2.2.2
  match c.1 with
  |some r=>pure (.done (some r,c.2.1,c.2.2.1,c.2.2.2.1,c.2.2.2.2.1))
  |none=>do
   pQ (c.2.2.2.2.1+1)
   pure (.yield (none,c.2.1,c.2.2.1,c.2.2.2.1,c.2.2.2.2.1+1))
theorem Qg(a b:Array Keyed):CX a b=(do
 rule "list.sort.merge-hi"
 let y ←elem' a (a.size-1)
 if(a.size-1==0)=true then pure (qP a b #[y] (a.size-1) b.size)
 else if(b.size==1)=true then pure (zE a b #[y] (a.size-1) b.size)
 else do
  let st ←get
  let c ←forIn [0:a.size+b.size] ((none,a.size-1,b.size,#[y],gallopOf st):CY) fun Y c=>Ir a b c.2.1 c.2.2.1 c.2.2.2.1 c.2.2.2.2
  match c.1 with
  |some r=>pure r
  |none=>unsupported "internal:list.sort.merge-bound"):=by kernel_rfl
variable(O)
theorem dT.Iu{na:Nat}(h:dT O a b out na nb)(aM:0<na)(aJ:cD O a.toList)(av:cD O b.toList)(hle:∀Y:0<nb,O.le (aN b (nb-1)) (aN a (na-1))):dT O a b (out.push (aN a (na-1))) (na-1) nb:=by
 obtain⟨m,rfl⟩:∃m,na=m+1:=⟨na-1,by exact vy aM⟩;exact dT.sA h aJ av hle
theorem dT.Iv{nb:Nat}(h:dT O a b out na nb)(aM:0<nb)(aJ:cD O a.toList)(av:cD O b.toList)(hle:∀Y:0<na,O.le (aN a (na-1)) (aN b (nb-1))):dT O a b (out.push (aN b (nb-1))) na (nb-1):=by
 obtain⟨m,rfl⟩:∃m,nb=m+1:=⟨nb-1,by exact vy aM⟩;exact dT.sC h aJ av hle
theorem dT.Qh{i:Nat}(h:dT O a b out na nb)(hi:i≤na)(aJ:cD O a.toList)(av:cD O b.toList)(hle:∀j,∀Y:i≤j,∀Y:j<na,∀Y:0<nb,O.le (aN b (nb-1)) (aN a j)):dT O a b (out++(a.extract i na).reverse) i nb:=by
 obtain⟨k,rfl⟩:∃k,na=i+k:=⟨na-i,by exact Nat.le_antisymm (aA (.a .p (.a .r .q) (.l .p (.a .q .r))) rfl (b5 _ _)) (aA (.c (.a .q .p) .r (.l (.a .p .q) .r)) rfl (Nat.sub_add_cancel (aq (.a .p .q (.l .p .q)) rfl hi)))⟩;exact dT.wA aJ av k h fun j aP=>hle _ (by exact aq (.l .p (.a .p .q)) rfl) (by exact aA (.b .q .r (.t (.a .p .q) (.a .p .r))) rfl aP)
theorem dT.Qi{i:Nat}(h:dT O a b out na nb)(hi:i≤nb)(aJ:cD O a.toList)(av:cD O b.toList)(hle:∀j,∀Y:i≤j,∀Y:j<nb,∀Y:0<na,O.le (aN a (na-1)) (aN b j)):dT O a b (out++(b.extract i nb).reverse) na i:=by
 obtain⟨k,rfl⟩:∃k,nb=i+k:=⟨nb-i,by exact Nat.le_antisymm (aA (.a .p (.a .r .q) (.l .p (.a .q .r))) rfl (b5 _ _)) (aA (.c (.a .q .p) .r (.l (.a .p .q) .r)) rfl (Nat.sub_add_cancel (aq (.a .p .q (.l .p .q)) rfl hi)))⟩;exact dT.wB aJ av k h fun j aP=>hle _ (by exact aq (.l .p (.a .p .q)) rfl) (by exact aA (.b .q .r (.t (.a .p .q) (.a .p .r))) rfl aP)
structure pT(a b:Array Keyed)(st:SortSt):Prop where
 kd:kindOf st=O.kd
 lu:∀p∈a.toList,O.mem p
 gi:∀p∈b.toList,O.mem p
 bu:cD O a.toList
 de:cD O b.toList
 af:0<b.size
 aD:∀y∈a.toList,O.le (aN b 0) y
structure nB(a b out:Array Keyed)(na nb n:Nat):Prop where
 Qj:dT O a b out na nb
 cO:0<na
 cQ:1<nb
 n:n≤out.size
noncomputable def oH(st ao:SortSt)(a b:Array Keyed)(N:Nat)(r:Option (Array Keyed))(na nb:Nat)(out:Array Keyed):Prop:=
 fu st ao∧match r with|some r=>l7 O a b r|none=>nB O a b out na nb N
noncomputable def Qk(st:SortSt)(a b:Array Keyed)(eW eX:Nat)(r:ForInStep H1)(ao:SortSt):Prop:=match r with
 |.done c=>oH O st ao a b eW c.1 c.2.1 c.2.2.1 c.2.2.2.1
 |.yield c=>c.1=none∧oH O st ao a b eX c.1 c.2.1 c.2.2.1 c.2.2.2.1
noncomputable def zF(st:SortSt)(a b:Array Keyed)(eW eX:Nat)(r:ForInStep oG)(ao:SortSt):Prop:=match r with
 |.done c=>oH O st ao a b eW c.1 c.2.1 c.2.2.1 c.2.2.2.1
 |.yield c=>c.1=none∧oH O st ao a b eX c.1 c.2.1 c.2.2.1 c.2.2.2.1
noncomputable def Ql(st:SortSt)(a b:Array Keyed)(N:Nat)(r:ForInStep CY)(ao:SortSt):Prop:=match r with
 |.done c=>fu st ao∧∃r,c.1=some r∧l7 O a b r
 |.yield c=>c.1=none∧oH O st ao a b N c.1 c.2.1 c.2.2.1 c.2.2.2.1
variable{O}
variable{st ao:SortSt}{g ac cU eW eX N:Nat}
theorem pT.sD(ak:pT O a b st)(h:fu st ao):kindOf ao=O.kd:=h.kind.trans ak.kd
theorem Iw(ak:pT O a b st)(di:fu st ao)(M:dT O a b out na nb)(cO:0<na)(cQ:1<nb)(hle:∀Y:0<nb,O.le (aN b (nb-1)) (aN a (na-1))) (ae:eW≤out.size+1) (af:eX≤out.size+1):
 b4 prog w A s (CZ a b na nb out g ac cU) (zF O st a b eW eX) ao:=by
 have eH:=M.eH;refine bY (h9 (by exact Bm cO eH) ?_);have dj:=M.Iu O cO ak.bu ak.de hle;by_cases e:na-1=0
 ·rw[if_pos (beq_iff_eq.mpr e)];exact cR ⟨di,dj.done ak.bu ak.de (.inl e)⟩
 ·rw[if_neg (fun q=>e (beq_iff_eq.mp q))];have aO:∀{N},∀Y:N≤out.size+1,nB O a b (out.push (aN a (na-1))) (na-1) nb N:=fun h=>⟨dj,Nat.pos_of_ne_zero e,cQ,by rw[Array.size_push];exact h⟩
  split
  ·exact cR ⟨di,aO ae⟩
  ·exact cR ⟨rfl,di,aO af⟩
theorem Iz(ak:pT O a b st)(di:fu st ao)(M:dT O a b out na nb)(cO:0<na)(cQ:1<nb)(ai:O.le (aN a (na-1)) (aN b (nb-1)))(ae:eW≤out.size+2)(af:eX≤out.size+2):
 b4 prog w A s (C0 a b na nb out g ac cU) (zF O st a b eW eX) ao:=by
 have eH:=M.eH;have gM:=M.gM;refine bY (h9 (by exact Bo cQ gM) ?_);have sE:=M.Iv O (by exact aI (.b .o .p (.G 1 (.t .z .p))) rfl cQ) ak.bu ak.de fun Y=>ai;by_cases g8:nb-1=1
 ·rw[if_pos (beq_iff_eq.mpr g8)];exact cR ⟨di,sE.first ak.bu ak.de g8 ak.af ak.aD⟩
 rw[if_neg (fun q=>g8 (beq_iff_eq.mp q))];have uf:na-1<a.size:=by exact Bm cO eH
 refine bY (h9 uf (bY (CT O (ak.sD di) ak.gi (mem_getD ak.lu uf) (by exact aA (.a .r .q (.a .p .r (.l (.a .z .p) .q))) rfl gM (Nat.sub_le _ (1:Nat))) (by exact aq (.c (.b .p) .q (.t .p .q)) rfl (Nat.sub_add_cancel (aq (.b .o .q (.a .q (.b .p) (.l .o .p))) rfl cQ (b5 _ (1:Nat))))) (fun i j ae af=>ak.de.at_ O (by exact aq (.a .p .q (.l (.a .z .p) (.a .z .q))) rfl ae) (by exact bA (.a .r .q (.b .p .s (.a .s .r (.t (.a .z .p) .q)))) rfl gM af (Nat.sub_le _ (1:Nat)))) fun q ay aE bI=>?_)));have hs:=Array.size_push (xs:=out) (aN b (nb-1));have ud:=sE.Qi O ay ak.bu ak.de fun j ae af Y=>Nat.zero_add j▸bI j ae af;have au:∀Y:0<q,O.le (aN b (q-1)) (aN a (na-1)):=fun bX=>Nat.zero_add (q-1)▸O.le_of_lt (aE (q-1) (Nat.sub_lt bX Nat.one_pos));by_cases jP:nb-1-q>0
 ·refine Eq.mpr (congrArg (fun m=>b4 prog w A s m _ _) (if_pos jP)) ?_;by_cases jQ:q=1
  ·rw[if_pos (beq_iff_eq.mpr jQ)];exact cR ⟨di,ud.first ak.bu ak.de jQ ak.af ak.aD⟩
  rw[if_neg (fun q=>jQ (beq_iff_eq.mp q))];by_cases wD:q=0
  ·rw[if_pos (beq_iff_eq.mpr wD)];exact cR ⟨di,ud.done ak.bu ak.de (.inr wD)⟩
  rw[if_neg (fun q=>wD (beq_iff_eq.mp q))];exact Iw ak di ud cO (by exact(Nat.lt_or_gt_of_ne jQ).elim (fun ay=>(Nat.lt_or_gt_of_ne wD).elim (fun aE=>aI (.i 2 (.t .p .z) (.t .o .p)) rfl aE) (fun bI=>aI (.b .p .o (.i 2 (.t .z .p) (.t .o .p))) rfl ay bI)) (fun cM=>aI (.b .o .p (.t .o .p)) rfl cM)) au (by rw[Array.size_append];exact bA (.a .p (.a .s (.k 2)) (.i (-1) (.e .q (.b .s)) (.l .p (.b (.a .q .r))))) rfl ae hs) (by rw[Array.size_append];exact bA (.a .p (.a .s (.k 2)) (.i (-1) (.e .q (.b .s)) (.l .p (.b (.a .q .r))))) rfl af hs)
 ·refine Eq.mpr (congrArg (fun m=>b4 prog w A s m _ _) (if_neg jP)) ?_;have oD:q=nb-1:=by exact Nat.le_antisymm (aq (.a .p .q (.l .p .q)) rfl ay) (aA (.n (.t .z .r) (.a .p (.a .r .q) (.l .p .q))) rfl jP (b5 (_-(1:Nat)) _))
  subst oD;exact Iw ak di sE cO (by exact(Nat.lt_or_gt_of_ne g8).elim (fun ay=>aq (.i 2 (.t .o .q) (.i (-2) (.e (.b .p) .q) (.b .p .o (.t .o .p)))) rfl cQ (Nat.sub_add_cancel (aI (.b .o .p (.G 1 (.l .o .p))) rfl cQ)) ay) (fun aE=>aI (.b .o .p (.t .o .p)) rfl aE)) au (by exact aA (.a .p (.a .r (.k 2)) (.i (-1) (.e .q (.b .r)) (.l .p (.b .q)))) rfl ae hs) (by exact aA (.a .p (.a .r (.k 2)) (.i (-1) (.e .q (.b .r)) (.l .p (.b .q)))) rfl af hs)
theorem Qm(ak:pT O a b st)(di:fu st ao)(V:nB O a b out na nb N)(ae:eW≤N+2)(af:eX≤N+2):
 b4 prog w A s (C1 a b na nb out ac cU g) (zF O st a b eW eX) ao:=by
 obtain⟨M,cO,cQ,ln⟩:=V;have eH:=M.eH;have gM:=M.gM;have oE:=di.set g;have ug:nb-1<b.size:=by exact Bo cQ gM
 show b4 prog w A s (pQ g>>=_) _ _;rw[zz];refine bY (pO (bY (h9 ug (bY (CS O (ak.sD oE) ak.lu (mem_getD ak.gi ug) (by exact aq (.a .p .q (.l (.a .z .p) .q)) rfl eH) (by exact aq (.c (.b .p) .q (.t .p .q)) rfl (Nat.sub_add_cancel (aI (.b .z .p (.l .o .p)) rfl cO))) (fun i j ae af=>ak.bu.at_ O (by exact aq (.a .p .q (.l (.a .z .p) (.a .z .q))) rfl ae) (by exact aA (.a .r .q (.b .p .r (.t (.a .z .p) .q))) rfl eH af)) fun t t1 kG t3=>?_)))));have ue:=M.Qh O t1 ak.bu ak.de fun j ae af Y=>Nat.zero_add j▸O.le_of_lt (t3 j ae af);have hle:∀Y:0<t,O.le (aN a (t-1)) (aN b (nb-1)):=fun bX=>Nat.zero_add (t-1)▸kG (t-1) (Nat.sub_lt bX Nat.one_pos);by_cases oF:na-t>0
 ·refine Eq.mpr (congrArg (fun m=>b4 prog w A s m _ _) (if_pos oF)) ?_;by_cases cz:t=0
  ·rw[if_pos (beq_iff_eq.mpr cz)];exact cR ⟨oE,ue.done ak.bu ak.de (.inl cz)⟩
  rw[if_neg (fun q=>cz (beq_iff_eq.mp q))];exact Iz ak oE ue (Nat.pos_of_ne_zero cz) cQ (hle (Nat.pos_of_ne_zero cz)) (by rw[Array.size_append];exact bA (.a .p (.a .s (.k 2)) (.a .s .q (.l .p (.a (.a .q .r) (.k 2))))) rfl ae ln) (by rw[Array.size_append];exact bA (.a .p (.a .s (.k 2)) (.a .s .q (.l .p (.a (.a .q .r) (.k 2))))) rfl af ln)
 ·refine Eq.mpr (congrArg (fun m=>b4 prog w A s m _ _) (if_neg oF)) ?_;have nt:t=na:=by exact Nat.le_antisymm (aq (.a .p .q (.l .p .q)) rfl t1) (aA (.n (.t .z .r) (.a .p (.a .r .q) (.l .p .q))) rfl oF (b5 _ _))
  subst nt;exact Iz ak oE M cO cQ (hle cO) (by exact aA (.a .p (.a .r (.k 2)) (.a .r .q (.l .p (.a .q (.k 2))))) rfl ae ln) (by exact aA (.a .p (.a .r (.k 2)) (.a .r .q (.l .p (.a .q (.k 2))))) rfl af ln)
theorem Qn(ak:pT O a b st)(di:fu st ao)(V:nB O a b out na nb N)(ae:eW≤N+2)(af:eX≤N+2):
 b4 prog w A s (C2 a b na nb out g ac cU) (zF O st a b eW eX) ao:=by
 unfold C2
 split<;>exact Qm ak di V ae af
theorem Qo(ak:pT O a b st)(di:fu st ao)(V:nB O a b out na nb N)(ae:eW≤N+1)(af:eX≤N+1):
 b4 prog w A s (Iq a b g na nb out ac cU) (Qk O st a b eW eX) ao:=by
 obtain⟨M,cO,cQ,ln⟩:=V;have eH:=M.eH;have gM:=M.gM;have uf:na-1<a.size:=by exact Bm cO eH
 have ug:nb-1<b.size:=by exact Bo cQ gM
 refine bY (h9 ug (bY (h9 uf (bY (wy O (ak.sD di) (mem_getD ak.gi ug) (mem_getD ak.lu uf) ?_)))));cases bC:O.lt' (aN b (nb-1)) (aN a (na-1))with
 |true=>
  refine bY (h9 uf ?_);have nA:=M.Iu O cO ak.bu ak.de fun Y=>O.le_of_lt bC;by_cases cz:na-1=0
  ·rw[if_pos (beq_iff_eq.mpr cz)];exact cR ⟨di,nA.done ak.bu ak.de (.inl cz)⟩
  ·rw[if_neg (fun q=>cz (beq_iff_eq.mp q))];have aO:∀{K},∀Y:K≤N+1,nB O a b (out.push (aN a (na-1))) (na-1) nb K:=fun h=>⟨nA,Nat.pos_of_ne_zero cz,cQ,by rw[Array.size_push];exact aA (.a .r .q (.a .p (.b .r) (.l .p (.b .q)))) rfl ln h⟩
   split
   ·exact cR ⟨di,aO ae⟩
   ·exact cR ⟨rfl,di,aO af⟩
 |false=>
  refine bY (h9 ug ?_);have nA:=M.Iv O (by exact aI (.b .o .p (.G 1 (.t .z .p))) rfl cQ) ak.bu ak.de fun Y=>O.pP bC;by_cases cz:nb-1=1
  ·rw[if_pos (beq_iff_eq.mpr cz)];exact cR ⟨di,nA.first ak.bu ak.de cz ak.af ak.aD⟩
  ·rw[if_neg (fun q=>cz (beq_iff_eq.mp q))];have aO:∀{K},∀Y:K≤N+1,nB O a b (out.push (aN b (nb-1))) na (nb-1) K:=fun h=>⟨nA,cO,by exact(Nat.lt_or_gt_of_ne cz).elim (fun ay=>aq (.i 2 (.t .o .q) (.i (-2) (.e (.b .p) .q) (.b .p .o (.t .o .p)))) rfl cQ (Nat.sub_add_cancel (aI (.b .o .p (.G 1 (.l .o .p))) rfl cQ)) ay) (fun aE=>aI (.b .o .p (.t .o .p)) rfl aE),by rw[Array.size_push];exact aA (.a .r .q (.a .p (.b .r) (.l .p (.b .q)))) rfl ln h⟩
   split
   ·exact cR ⟨di,aO ae⟩
   ·exact cR ⟨rfl,di,aO af⟩
theorem nB.sF(V:nB O a b out na nb N)(h:a.size+b.size≤N):False:=by
 have:=V.Qj.size;have:=V.cO;have:=V.n;exact MP h (by assumption) (by assumption) this
theorem Qp(ak:pT O a b st)(di:fu st ao)(V:nB O a b out na nb N):b4 prog w A s (Ir a b na nb out g) (Ql O st a b (N+1)) ao:=by
 refine bY (gp (l5 (I:=fun x c ao=>c.1=none∧oH O st ao a b (N+x) c.1 c.2.1 c.2.2.1 c.2.2.2.1) (Q:=fun c ao=>oH O st ao a b (N+1) c.1 c.2.1 c.2.2.1 c.2.2.2.1)
  (fun x c ao Y ai bE=>?_) (fun c ao bE=>?_) ⟨rfl,di,V⟩) fun c ao a7=>?_)
 ·refine ar ?_ bE;clear bE;intro e bD;rw[e]at bD;refine gp (Qo ak bD.1 bD.2 (eW:=N+1) (eX:=N+(x+1)) (by exact aq (.l (.b .p) (.b (.a .p .q))) rfl) (by exact aq (.l (.a .p (.b .q)) (.b (.a .p .q))) rfl)) fun r ao h=>?_;cases r with
  |done c=>exact h
  |yield c=>exact h
 ·refine ar ?_ bE;clear bE;intro e bD;rw[e]at bD;exact(bD.2.sF (by exact bA (.a (.a .p .q) .s (.l (.a .p .q) (.a .r .s))) rfl (Nat.le_max_right (0:Nat) (_+_)))).elim
 ·obtain⟨r,na,nb,out,ac,cU⟩:=c;cases r with
  |some r=>exact cR ⟨a7.1,r,rfl,a7.2⟩
  |none=>
   refine bY (t9 ?_)
   refine bY (gp (l5 (I:=fun x c ao=>c.1=none∧oH O st ao a b (N+1+x) c.1 c.2.1 c.2.2.1 c.2.2.2.1) (Q:=fun c ao=>oH O st ao a b (N+1) c.1 c.2.1 c.2.2.1 c.2.2.2.1)
    (fun x c ao Y ai bE=>?_) (fun c ao bE=>?_) ⟨rfl,a7⟩) fun c ao a7=>?_)
   ·refine ar ?_ bE;clear bE;intro e bD;rw[e]at bD;refine gp (Qn ak bD.1 bD.2 (eW:=N+1) (eX:=N+1+(x+1)) (by exact aq (.l (.b .p) (.a (.a (.b .p) .q) (.k 2))) rfl) (by exact aq (.l (.a (.b .p) (.b .q)) (.a (.a (.b .p) .q) (.k 2))) rfl)) fun r ao h=>?_;cases r with
    |done c=>exact h
    |yield c=>exact h
   ·refine ar ?_ bE;clear bE;intro e bD;rw[e]at bD;exact(bD.2.sF (by exact bA (.a (.a .p .q) .s (.l (.a .p .q) (.a (.b .r) .s))) rfl (Nat.le_max_right (0:Nat) (_+_)))).elim
   ·obtain⟨r,na,nb,out,g,ac,cU⟩:=c;cases r with
    |some r=>exact cR ⟨a7.1,r,rfl,a7.2⟩
    |none=>
     show b4 prog w A s (pQ (g+1)>>=_) _ _;rw[zz];exact bY (pO (cR ⟨rfl,a7.1.set _,a7.2⟩))
variable(O)
theorem Qq{Q:∀Y:Array Keyed,∀Y:SortSt,Prop} {st:SortSt} (eG:kindOf st=O.kd) (CU:∀p∈a.toList,O.mem p) (CV:∀p∈b.toList,O.mem p) (aJ:cD O a.toList) (av:cD O b.toList) (ae:0<a.size) (af:0<b.size)
 (aM:O.le (aN b (b.size-1)) (aN a (a.size-1))) (aD:∀y∈a.toList,O.le (aN b 0) y) (h:∀r ao,∀Y:fu st ao,∀Y:l7 O a b r,Q r ao):b4 prog w A s (CX a b) Q st:=by
 have dc:=dT.start aJ av ae fun Y=>aM;have ak:pT O a b st:=⟨eG,CU,CV,aJ,av,af,aD⟩;rw[Qg];refine bY (t9 (bY (h9 (Nat.sub_lt ae Nat.one_pos) ?_)));by_cases aS:a.size-1=0
 ·rw[if_pos (beq_iff_eq.mpr aS)];exact cR (h _ _ (.refl _) (dc.done aJ av (.inl aS)))
 rw[if_neg (fun q=>aS (beq_iff_eq.mp q))];by_cases aW:b.size=1
 ·rw[if_pos (beq_iff_eq.mpr aW)];exact cR (h _ _ (.refl _) (dc.first aJ av aW af aD))
 rw[if_neg (fun q=>aW (beq_iff_eq.mp q))];refine bY (oz ?_)
 refine bY (gp (l5 (I:=fun x c ao=>c.1=none∧oH O st ao a b (1+x) c.1 c.2.1 c.2.2.1 c.2.2.2.1) (Q:=fun c ao=>fu st ao∧∃r,c.1=some r∧l7 O a b r)
  (fun x c ao Y ai bE=>?_) (fun c ao bE=>?_) ⟨rfl,.refl _,(⟨dc,Nat.pos_of_ne_zero aS,by exact(Nat.lt_or_gt_of_ne aW).elim (fun ay=>aI (.i 2 (.t .z .p) (.b .p .o (.t .o .p))) rfl af ay) (fun aE=>aI (.b .o .p (.t .o .p)) rfl aE),Nat.le_refl 1⟩:nB O a b #[aN a (a.size-1)] (a.size-1) b.size (1+0))⟩) fun c ao a7=>?_)
 ·refine ar ?_ bE;clear bE;intro e bD;rw[e]at bD;refine gp (Qp ak bD.1 bD.2) fun r ao h=>?_;cases r with
  |done c=>exact h
  |yield c=>exact h
 ·refine ar ?_ bE;clear bE;intro e bD;rw[e]at bD;exact(bD.2.sF (by exact aA (.a (.a .p .q) .r (.l (.a .p .q) (.a .o .r))) rfl (Nat.le_max_right (0:Nat) (_+_)))).elim
 ·obtain⟨r,na,nb,out,g⟩:=c;obtain⟨di,c5,e,aC⟩:=a7;cases e
  exact cR (h _ _ di aC)
end
end Mine
end
section
open PySem PyProof.Rows
namespace Mine
section
variable{prog:Program}{w:World}{A:Around}{s:Shared}(O:Ord prog w A s)
noncomputable def Rel(st ao:SortSt)(lo hi:Nat):Prop:=∃xs,ao=setArr st xs∧xs.Perm (arrOf st)∧∀k,∀Y:k<lo∨hi≤k,aN xs k=aN (arrOf st) k
theorem Rel.refl(st:SortSt)(lo hi:Nat):Rel st st lo hi:=⟨arrOf st,rfl,.refl _,fun Y Y=>rfl⟩
theorem Rel.trans{st ao t6:SortSt}{lo hi:Nat}(x:Rel st ao lo hi)(y:Rel ao t6 lo hi):Rel st t6 lo hi:=by
 refine aj ?_ x;clear x;intro xs;refine aY ?_;rintro rfl p k;refine aj ?_ y;clear y;intro ys;refine aY ?_;rintro rfl q l;exact⟨ys,rfl,q.trans p,fun i hi=>(l i hi).trans (k i hi)⟩
theorem Rel.kind{st ao:SortSt}{lo hi:Nat}(x:Rel st ao lo hi):kindOf ao=kindOf st:=by refine aj ?_ x;clear x;intro xs;refine ar ?_;rintro rfl _;rfl
theorem Rel.size{st ao:SortSt}{lo hi:Nat}(x:Rel st ao lo hi):(arrOf ao).size=(arrOf st).size:=by refine aj ?_ x;clear x;intro xs;refine aY ?_;rintro rfl p _;exact p.size_eq
noncomputable def oJ(st:SortSt):Prop:=∀p∈(arrOf st).toList,O.mem p
theorem Rel.all{st ao:SortSt}{lo hi:Nat}(x:Rel st ao lo hi)(h:oJ O st):oJ O ao:=by
 refine aj ?_ x;clear x;intro xs;refine aY ?_;rintro rfl p _;intro q bb;exact h q ((Array.perm_iff_toList_perm.mp p).mem_iff.mp bb)
noncomputable def kc(R:∀Y:Keyed,∀Y:Keyed,Prop) (xs:Array Keyed) (lo hi:Nat):Prop:=∀i j,∀Y:lo≤i,∀Y:i≤j,∀Y:j<hi,R (aN xs i) (aN xs j)
noncomputable abbrev eK(xs:Array Keyed)(lo hi:Nat):Prop:=kc O.le xs lo hi
noncomputable def wF(p q:Keyed):Prop:=O.le q p
noncomputable abbrev l8(xs:Array Keyed)(lo hi:Nat):Prop:=kc (wF O) xs lo hi
theorem kc.snoc{R:∀Y:Keyed,∀Y:Keyed,Prop} (refl:∀p,R p p) (trans:∀{p q r},∀Y:R p q,∀Y:R q r,R p r) {xs:Array Keyed} {lo hi:Nat} (ai:lo<hi) (h:kc R xs lo hi) (aD:R (aN xs (hi-1)) (aN xs hi)):kc R xs lo (hi+1):=fun i j ae af aH=>by
 rcases Nat.lt_or_ge j hi with q|q
 ·exact h i j ae af q
 ·cases Nat.le_antisymm (Nat.le_of_lt_succ aH) q
  rcases Nat.eq_or_lt_of_le af with e|e
  ·rw[e];exact refl _
  ·exact trans (h i (hi-1) ae (Nat.le_sub_one_of_lt e) (Nat.sub_one_lt (Nat.ne_of_gt (Nat.zero_lt_of_lt ai)))) aD
theorem kc.one{R:∀Y:Keyed,∀Y:Keyed,Prop} (refl:∀p,R p p) {xs:Array Keyed} {lo:Nat}:kc R xs lo (lo+1):=fun i j ae af aH=>by
 cases Nat.le_antisymm (Nat.le_of_lt_succ aH) (Nat.le_trans ae af)
 cases Nat.le_antisymm af ae
 exact refl _
theorem eK.put{xs:Array Keyed}{lo x:Nat}(ai:1≤x)(h:eK O xs lo (lo+x))(aD:O.le (aN xs (lo+x-1)) (aN xs (lo+x))):eK O xs lo (lo+(x+1)):=h.snoc O.le_refl O.le_trans (Nat.lt_add_of_pos_right ai) aD
theorem l8.put{xs:Array Keyed}{lo x:Nat}(ai:1≤x)(h:l8 O xs lo (lo+x))(aD:O.le (aN xs (lo+x)) (aN xs (lo+x-1))):l8 O xs lo (lo+(x+1)):=kc.snoc (R:=wF O) O.le_refl (fun{_ _ _} a b=>O.le_trans b a) (Nat.lt_add_of_pos_right ai) h aD
noncomputable def eqv(p q:Keyed):Prop:=O.le p q∧O.le q p
theorem eqv.refl(p:Keyed):eqv O p p:=⟨O.le_refl _,O.le_refl _⟩
variable{O}
theorem eqv.symm{p q:Keyed}(h:eqv O p q):eqv O q p:=⟨h.2,h.1⟩
theorem eqv.trans{p q r:Keyed}(h:eqv O p q)(g:eqv O q r):eqv O p r:=⟨O.le_trans h.1 g.1,O.le_trans g.2 h.2⟩
variable(O)
theorem uh(xs:Array Keyed)(k:Nat):aN xs k=(xs[k]?).getD CJ:=by
 unfold aN;rw[Array.getD_eq_getD_getElem?]
theorem um{xs:Array Keyed}{i j:Nat}(aP:j≤xs.size)(k:Nat):aN (mirror xs i j ((j-i) / 2)) k=if i≤k∧k<j then aN xs (i+j-1-k)else aN xs k:=by
 rw[uh,getElem?_mirror_all aP]
 split<;>rw[uh]
theorem IA{xs:Array Keyed}{src d:Nat}(hs:src<xs.size)(hd:d≤src)(k:Nat):aN (bubble xs src d) k=if k=src-d then aN xs src else if src-d<k∧k≤src then aN xs (k-1)else aN xs k:=by
 rw[uh,getElem?_bubble hs d hd]
 split
 ·rw[uh]
 ·split<;>rw[uh]
variable{O}in
theorem zG{xs:Array Keyed}{i j:Nat}(aP:j≤xs.size)(h:∀k,∀Y:i≤k,∀Y:k<j,eqv O (aN xs k) (aN xs (j-1))) (k:Nat):eqv O (aN (mirror xs i j ((j-i) / 2)) k) (aN xs k):=by
 rw[um aP]
 split
 ·exact(h _ (by exact MQ (by assumption)) (by exact MR (by assumption))).trans (h k (by exact MS (by assumption)) (by exact MT (by assumption))).symm
 ·exact eqv.refl O _
theorem zH{st:SortSt}{i j:Nat}{Q:∀Y:Option Bool,∀Y:SortSt,Prop} (aK:kindOf st=O.kd) (hm:oJ O st) (hi:i<(arrOf st).size) (aP:j<(arrOf st).size) (h:Q (some (O.lt' (aN (arrOf st) i) (aN (arrOf st) j))) st):b4 prog w A s (ltAt' i j) Q st:=by
 rw[ltAt'_eq];exact bY (oz (bY (h9 hi (bY (h9 aP (wy O aK (mem_getD hm hi) (mem_getD hm aP) h))))))
theorem C3{st:SortSt}{i j lo hi:Nat}{Q:∀Y:Unit,∀Y:SortSt,Prop} (ae:lo≤i) (af:j≤hi) (aP:j≤(arrOf st).size) (h:∀ao,∀Y:Rel st ao lo hi,∀Y:arrOf ao=mirror (arrOf st) i j ((j-i) / 2),Q () ao):b4 prog w A s (reverseSlice' i j) Q st:=by
 rw[reverseSlice'_eq];refine pO (h _ ⟨_,rfl,mirror_perm _ _ _ _,fun k aK=>?_⟩ rfl);rw[um aP,if_neg (by exact fun ay=>aK.elim (fun aE=>aA (.a .p .q (.a .q .r (.b .r .p .f))) rfl ae ay.1 aE) (fun bI=>aA (.a .p .q (.b .r .p (.a .q .r .f))) rfl af ay.2 bI))]
noncomputable def C4(lo n dm:Nat):StateT SortSt Sem (Option Nat):=do
 reverseSlice' lo (lo+n)
 let mut n:=n
 for _ in [n:dm] do
  let some wG ←ltAt' (lo+n) (lo+n-1)|return none
  if wG then break
  n:=n+1
 return some n
noncomputable def C5(lo n dm:Nat):StateT SortSt Sem (Option Nat):=do
 rule "list.sort.descending-run"
 let mut n:=n+1
 let mut f7:=0
 for _ in [n:dm] do
  let some wG ←ltAt' (lo+n) (lo+n-1)|return none
  if wG then
   if f7>0 then reverseSlice' (lo+n-(f7+1)) (lo+n)
   f7:=0
  else
   let some Qs ←ltAt' (lo+n-1) (lo+n)|return none
   if Qs then break
   f7:=f7+1
  n:=n+1
 if f7>0 then reverseSlice' (lo+n-(f7+1)) (lo+n)
 C4 lo n dm
noncomputable def countRun':∀Y:Nat,∀Y:Nat,StateT SortSt Sem (Option Nat):=sortPriv% PySem.Builtin.countRun
theorem countRun'_eq(lo dm:Nat):countRun' lo dm=(do
 let mut n:=1
 for _ in [1:dm] do
  let some wG ←ltAt' (lo+n) (lo+n-1)|return none
  if wG then break
  n:=n+1
 if n==dm then return some n
 if n>1 then
  let some Qt ←ltAt' lo (lo+n-1)|return none
  if Qt then return some n
  reverseSlice' lo (lo+n)
 C5 lo n dm):=rfl
theorem IB{st:SortSt}{n m:Nat}{f:∀Y:Nat,∀Y:Option (Option Nat)×Nat,StateT SortSt Sem (ForInStep (Option (Option Nat)×Nat))} (F:∀Y:Nat,Prop) {G:∀Y:Nat,Prop} (l9:n≤m)
 (qM:∀x,∀Y:n≤x,∀Y:x<m,∀Y:F x,ji prog w A s st (f x (none,x)) fun r=>ua (fun c Y=>∃k,c=(none,k)∧G k) (fun c Y=>c=(none,x+1)∧F (x+1)) r st) (nw:∀Y:F m,G m) (h:F n):
 ji prog w A s st (forIn [n:m] ((none,n):Option (Option Nat)×Nat) f) fun c=>∃k,c=(none,k)∧G k:=by
 refine l5 (I:=fun x c ao=>ao=st∧c=(none,x)∧F x) (fun x c ao ae af bE=>?_) (fun c ao bE=>?_) ⟨rfl,rfl,h⟩
 ·refine aY ?_ bE;clear bE;rintro rfl rfl bD;refine gp (qM x ae af bD) fun r ao aC=>?_;refine ar ?_ aC;clear aC;rintro rfl aC;cases r with
  |done c=>exact⟨rfl,aC⟩
  |yield c=>exact⟨rfl,aC⟩
 ·rw[Nat.max_eq_right l9]at bE;exact⟨bE.1,m,bE.2.1,nw bE.2.2⟩
theorem C6{st:SortSt}{i j:Nat}{Q:∀Y:Option Bool,Prop} (aK:kindOf st=O.kd) (hm:oJ O st) (hi:i<(arrOf st).size) (aP:j<(arrOf st).size) (h:Q (some (O.lt' (aN (arrOf st) i) (aN (arrOf st) j)))):ji prog w A s st (ltAt' i j) Q:=zH O aK hm hi aP ⟨rfl,h⟩
theorem IC{xs:Array Keyed}{i j lo hi:Nat}{R:∀Y:Keyed,∀Y:Keyed,Prop} (fe:∀{p q fb nv},∀Y:eqv O fb p,∀Y:eqv O nv q,∀Y:R p q,R fb nv) {ys:Array Keyed} (e:ys=mirror xs i j ((j-i) / 2)) (aP:j≤xs.size) (h:∀k,∀Y:i≤k,∀Y:k<j,eqv O (aN xs k) (aN xs (j-1))) (az:kc R xs lo hi):kc R ys lo hi:=by
 subst e;exact fun a b ae af aH=>fe (zG aP h a) (zG aP h b) (az a b ae af aH)
theorem ID{p q fb nv:Keyed}(ae:eqv O fb p)(af:eqv O nv q)(h:wF O p q):wF O fb nv:=O.le_trans af.1 (O.le_trans h ae.2)
theorem IE{r8 st:SortSt}{lo n dm:Nat}{Q:∀Y:Option Nat,∀Y:SortSt,Prop} (aK:kindOf st=O.kd) (hm:oJ O st) (fe:Rel r8 st lo (lo+dm)) (aU:lo+dm≤(arrOf st).size) (ae:1≤n) (az:n≤dm) (hs:l8 O (arrOf st) lo (lo+n))
 (h:∀m ao,∀Y:Rel r8 ao lo (lo+dm),∀Y:1≤m,∀Y:m≤dm,∀Y:eK O (arrOf ao) lo (lo+m),Q (some m) ao):b4 prog w A s (C4 lo n dm) Q st:=by
 unfold C4;have mf:lo+n≤(arrOf st).size:=Nat.le_trans (Nat.add_le_add_left az lo) aU;refine bY (C3 (lo:=lo) (hi:=lo+dm) (Nat.le_refl _) (Nat.add_le_add_left az lo) mf fun gN j2 aS=>?_)
 have Qu:eK O (arrOf gN) lo (lo+n):=fun i j ae af aH=>by
  rw[aS,um mf,um mf,if_pos ⟨ae,Nat.lt_of_le_of_lt af aH⟩,if_pos ⟨Nat.le_trans ae af,aH⟩];exact hs _ _ (by exact cB (.b .r (.a .p .s) (.a (.a .p (.a .p .s)) (.b .t) (.a .t (.a .q .r) (.l .p .q)))) rfl aH (b5 (_+(_+_)) (1:Nat)) (b5 ((_+(_+_))-(1:Nat)) _)) (by exact(Nat.le_total (1:Nat) (_+(_+_))).elim (fun ay=>(Nat.le_total _ ((_+(_+_))-(1:Nat))).elim (fun aE=>cB (.a .r .s (.c (.a .p .s) .t (.a .t (.a .q .r) (.l .p .q)))) rfl af (Nat.sub_add_cancel aE) (b5 ((_+(_+_))-(1:Nat)) _)) (fun bI=>aq (.c .p .z (.l .p .q)) rfl (Nat.sub_eq_zero_of_le bI))) (fun cM=>aA (.c .r .z (.a .p .r (.l .p .q))) rfl (Nat.sub_eq_zero_of_le cM) (Nat.sub_le ((_+(_+_))-(1:Nat)) _))) (by exact MU (by assumption) ae)
 have cT:=j2.kind.trans aK;have f3:=j2.all O hm;have kg:=j2.size;refine Ig (ny (zq (IB (G:=fun m=>1≤m∧m≤dm∧eK O (arrOf gN) lo (lo+m)) (fun x=>eK O (arrOf gN) lo (lo+x)) az (fun x af aH bX=>?_) (fun bX=>⟨Nat.le_trans ae az,Nat.le_refl _,bX⟩) Qu) fun c aG=>?_))
 ·refine ny (C6 O cT f3 (by rw[kg];exact bA (.a (.a .p .s) .r (.b .q .s (.t (.a .p .q) .r))) rfl aU aH) (by rw[kg];exact cB (.a (.a .r .s) .q (.b .t .s (.a .p (.a .r .t) (.t .p .q)))) rfl aU aH (Nat.sub_le (_+_) (1:Nat))) ?_);dsimp only;cases av:O.lt' (aN (arrOf gN) (lo+x)) (aN (arrOf gN) (lo+x-1))with
  |true=>exact jy ⟨x,rfl,Nat.le_trans ae af,Nat.le_of_lt aH,bX⟩
  |false=>exact jy ⟨rfl,eK.put O (Nat.le_trans ae af) bX (O.pP av)⟩
 ·refine aj ?_ aG;clear aG;intro m;refine cI ?_;rintro rfl a1 a2 cW;exact jy (h m _ (fe.trans j2) a1 a2 cW)
structure pU(st ao:SortSt)(lo dm n f7:Nat):Prop where
 rel:Rel st ao lo (lo+dm)
 zI:l8 O (arrOf ao) lo (lo+n)
 le:f7+1≤n
 eq:∀k,∀Y:lo+n-(f7+1)≤k,∀Y:k<lo+n,eqv O (aN (arrOf ao) k) (aN (arrOf ao) (lo+n-1))
theorem pU.none{st ao:SortSt}{lo dm n:Nat}(r:Rel st ao lo (lo+dm))(az:1≤n)(h:l8 O (arrOf ao) lo (lo+n)):pU O st ao lo dm n 0:=
 ⟨r,h,az,fun k ae af=>by rw[Nat.le_antisymm (Nat.le_sub_one_of_lt af) ae];exact eqv.refl O _⟩
theorem pU.turn{st ao:SortSt}{lo dm n f7:Nat}{Q:∀Y:Unit,∀Y:SortSt,Prop} (D:pU O st ao lo dm n f7) (az:n≤dm) (aU:lo+dm≤(arrOf ao).size)
 (h:∀iX,∀Y:Rel st iX lo (lo+dm),∀Y:l8 O (arrOf iX) lo (lo+n),∀Y:(∀k,∀Y:n≤k,aN (arrOf iX) (lo+k)=aN (arrOf ao) (lo+k)),∀Y:eqv O (aN (arrOf iX) (lo+n-1)) (aN (arrOf ao) (lo+n-1)),Q () iX):b4 prog w A s (reverseSlice' (lo+n-(f7+1)) (lo+n)) Q ao:=by
 have mf:lo+n≤(arrOf ao).size:=Nat.le_trans (Nat.add_le_add_left az lo) aU;have hle:=D.le;refine C3 (lo:=lo) (hi:=lo+dm) (by exact bA (.a (.b .r) .s (.a (.a .p .s) (.a .q (.b .r)) (.l .p .q))) rfl hle (b5 (_+_) (_+(1:Nat)))) (Nat.add_le_add_left az lo) mf fun iX e7 aW=>h iX (D.rel.trans e7) (IC O (ID O) aW mf D.eq D.zI) (fun k aK=>?_) ?_
 ·rw[aW,um mf,if_neg (by exact fun ay=>aA (.a .p .q (.b (.a .r .q) (.a .r .p) .f)) rfl aK ay.2)]
 ·rw[aW];exact zG mf D.eq _
theorem IF{r8 st:SortSt}{lo n dm:Nat}{Q:∀Y:Option Nat,∀Y:SortSt,Prop} (aK:kindOf st=O.kd) (hm:oJ O st) (fe:Rel r8 st lo (lo+dm)) (aU:lo+dm≤(arrOf st).size) (az:n+1≤dm) (hs:l8 O (arrOf st) lo (lo+(n+1)))
 (h:∀m ao,∀Y:Rel r8 ao lo (lo+dm),∀Y:1≤m,∀Y:m≤dm,∀Y:eK O (arrOf ao) lo (lo+m),Q (some m) ao):b4 prog w A s (C5 lo n dm) Q st:=by
 unfold C5;refine bY (t9 ?_);dsimp only;refine bY (gp (l5 (I:=fun x c ao=>∃f7,c=(none,x,f7)∧pU O st ao lo dm x f7) (Q:=fun c ao=>∃n f7,c=(none,n,f7)∧n≤dm∧pU O st ao lo dm n f7) ?_ ?_ ⟨0,rfl,pU.none O (.refl _ _ _) (Nat.le_add_left ..) hs⟩) ?_)
 ·intro x c ao af aH;refine aj ?_;intro f7;refine ar ?_;rintro rfl D;have gy:=D.rel.kind.trans aK;have n9:=D.rel.all O hm;have iT:=D.rel.size;have ai:1≤x:=Nat.le_trans (Nat.le_add_left ..) D.le;refine bY (zH O gy n9 (by rw[iT];exact bA (.a (.a .p .s) .r (.b .q .s (.t (.a .p .q) .r))) rfl aU aH) (by rw[iT];exact cB (.a (.a .r .s) .q (.b .t .s (.a .p (.a .r .t) (.t .p .q)))) rfl aU aH (Nat.sub_le (_+_) (1:Nat))) ?_);dsimp only;cases av:O.lt' (aN (arrOf ao) (lo+x)) (aN (arrOf ao) (lo+x-1))with
  |true=>
   rw[if_pos rfl];by_cases bb:f7>0
   ·rw[if_pos bb];refine bY (D.turn O (Nat.le_of_lt aH) (by rw[iT];exact aU) fun iX e7 gK eU aW=>cR ⟨0,rfl,pU.none O e7 (Nat.le_add_left ..) (l8.put O ai gK ?_)⟩);rw[eU x (Nat.le_refl _)];exact O.le_trans (O.le_of_lt av) aW.2
   ·rw[if_neg bb];exact cR ⟨0,rfl,pU.none O D.rel (Nat.le_add_left ..) (l8.put O ai D.zI (O.le_of_lt av))⟩
  |false=>
   rw[if_neg Bool.false_ne_true];refine bY (zH O gy n9 (by rw[iT];exact cB (.a (.a .r .s) .q (.b .t .s (.a .p (.a .r .t) (.t .p .q)))) rfl aU aH (Nat.sub_le (_+_) (1:Nat))) (by rw[iT];exact bA (.a (.a .p .s) .r (.b .q .s (.t (.a .p .q) .r))) rfl aU aH) ?_);dsimp only;cases aG:O.lt' (aN (arrOf ao) (lo+x-1)) (aN (arrOf ao) (lo+x))with
   |true=>exact cR ⟨x,f7,rfl,Nat.le_of_lt aH,D⟩
   |false=>
    have he:eqv O (aN (arrOf ao) (lo+x-1)) (aN (arrOf ao) (lo+x)):=⟨O.pP av,O.pP aG⟩;refine cR ⟨f7+1,rfl,D.rel,l8.put O ai D.zI he.2,Nat.succ_le_succ D.le,fun k kF qH=>?_⟩;show eqv O _ (aN (arrOf ao) (lo+x));rcases Nat.lt_or_ge k (lo+x)with q|q
    ·exact(D.eq k (by exact(Nat.le_total ((_+(1:Nat))+(1:Nat)) (_+(_+(1:Nat)))).elim (fun ay=>ck (.a .r .q (.i (-1) (.e (.a .r (.b (.b .s))) (.a .t (.b (.v 5)))) (.c (.a .p (.b .s)) (.a .t (.v 5)) (.l .p .q)))) rfl [((_+_)-(_+(1:Nat))),_,((_+(_+(1:Nat)))-((_+(1:Nat))+(1:Nat))),_,_,_] [] kF (Nat.sub_add_cancel ay) (Nat.sub_add_cancel (aA (.a (.b (.b .p)) (.a .q (.b .r)) (.l (.b .p) (.a .q .r))) rfl ay))) (fun aE=>(Nat.le_total (_+(1:Nat)) (_+_)).elim (fun bI=>cB (.a (.a .r (.b .s)) (.b (.b .t)) (.c (.a .p (.b .t)) (.a .r .s) (.l .p .q))) rfl aE (Nat.sub_add_cancel bI)) (fun cM=>aq (.c .p .z (.l .p .q)) rfl (Nat.sub_eq_zero_of_le cM)))) q).trans he
    ·rw[Nat.le_antisymm (Nat.le_of_lt_succ qH) q];exact eqv.refl O _
 ·intro c ao;refine aj ?_;intro f7;refine ar ?_;rintro rfl D;rw[Nat.max_eq_right az]at D ⊢;exact⟨dm,f7,rfl,Nat.le_refl _,D⟩
 ·intro c ao;refine bZ ?_;intro m f7;refine aY ?_;rintro rfl aH D;dsimp only;have iT:=D.rel.size;have lz:1≤m:=Nat.le_trans (Nat.le_add_left ..) D.le;by_cases bb:f7>0
  ·rw[if_pos bb];refine bY (D.turn O aH (by rw[iT];exact aU) fun iX e7 gK Y Y=>?_);exact IE O (e7.kind.trans aK) (e7.all O hm) (fe.trans e7) (by rw[e7.size];exact aU) lz aH gK h
  ·rw[if_neg bb];exact IE O (D.rel.kind.trans aK) (D.rel.all O hm) (fe.trans D.rel) (by rw[iT];exact aU) lz aH D.zI h
theorem Qv{st:SortSt}{lo dm:Nat}{Q:∀Y:Option Nat,∀Y:SortSt,Prop} (aK:kindOf st=O.kd) (hm:oJ O st) (aU:lo+dm≤(arrOf st).size) (ae:1≤dm)
 (h:∀m ao,∀Y:Rel st ao lo (lo+dm),∀Y:1≤m,∀Y:m≤dm,∀Y:eK O (arrOf ao) lo (lo+m),Q (some m) ao):b4 prog w A s (countRun' lo dm) Q st:=by
 rw[countRun'_eq];dsimp only;refine bY (gp (IB (G:=fun m=>1≤m∧m≤dm∧eK O (arrOf st) lo (lo+m)∧(m=dm∨O.lt' (aN (arrOf st) (lo+m)) (aN (arrOf st) (lo+m-1))=true)) (fun x=>eK O (arrOf st) lo (lo+x)) ae (fun x af aH bX=>?_) (fun bX=>⟨ae,Nat.le_refl _,bX,.inl rfl⟩) (kc.one O.le_refl)) ?_)
 ·refine ny (C6 O aK hm (by exact bA (.a (.a .p .s) .r (.b .q .s (.t (.a .p .q) .r))) rfl aU aH) (by exact cB (.a (.a .r .s) .q (.b .t .s (.a .p (.a .r .t) (.t .p .q)))) rfl aU aH (Nat.sub_le (_+_) (1:Nat))) ?_);dsimp only;cases av:O.lt' (aN (arrOf st) (lo+x)) (aN (arrOf st) (lo+x-1))with
  |true=>exact jy ⟨x,rfl,af,Nat.le_of_lt aH,bX,.inr av⟩
  |false=>exact jy ⟨rfl,eK.put O af bX (O.pP av)⟩
 ·rintro c ao ⟨rfl,m,rfl,et,fq,kF,qH⟩;dsimp only;by_cases az:m=dm
  ·rw[if_pos (beq_iff_eq.mpr az)];exact cR (h m _ (.refl _ _ _) et fq kF)
  ·rw[if_neg (fun q=>az (beq_iff_eq.mp q))];have bC:=O.le_of_lt (qH.resolve_left az);have IG:m+1≤dm:=Nat.lt_of_le_of_ne fq az;by_cases b8:m>1
   ·rw[if_pos b8];refine bY (zH O aK hm (by exact aA (.a .o .r (.a (.a .p .r) .q (.t .p .q))) rfl ae aU) (by exact(Nat.lt_or_gt_of_ne az).elim (fun ay=>cB (.a (.a .r .s) .q (.b .t .s (.a .p (.a .r .t) (.t .p .q)))) rfl aU ay (Nat.sub_le (_+_) (1:Nat))) (fun aE=>cB (.a (.a .r .s) .q (.i 2 (.l .t .s) (.b .s .t (.a .p (.a .r .t) (.t .p .q))))) rfl aU fq aE (Nat.sub_le (_+_) (1:Nat)))) ?_);dsimp only;cases aC:O.lt' (aN (arrOf ao) lo) (aN (arrOf ao) (lo+m-1))with
    |true=>exact cR (h m _ (.refl _ _ _) et fq kF)
    |false=>
     rw[if_neg Bool.false_ne_true];have mf:lo+m≤(arrOf ao).size:=Nat.le_trans (Nat.add_le_add_left fq lo) aU
     have pV:∀k,∀Y:lo≤k,∀Y:k<lo+m,eqv O (aN (arrOf ao) k) (aN (arrOf ao) (lo+m-1)):=fun k jh wH=>
      ⟨kF k _ jh (Nat.le_sub_one_of_lt wH) (by exact aA (.c (.b .p) (.a .q .r) (.t .p (.a .q .r))) rfl (Nat.sub_add_cancel (aq (.a .o .q (.l .o (.a .p .q))) rfl et))),O.le_trans (O.pP aC) (kF lo k (Nat.le_refl _) jh wH)⟩
     refine bY (C3 (lo:=lo) (hi:=lo+dm) (Nat.le_refl _) (Nat.add_le_add_left fq lo) mf fun iX e7 aW=>?_);refine IF O (e7.kind.trans aK) (e7.all O hm) e7 (by rw[e7.size];exact aU) IG ?_ h;refine l8.put O et (IC O (ID O) aW mf pV fun i j jh wH uo=>((pV j (Nat.le_trans jh wH) uo).trans (pV i jh (Nat.lt_of_le_of_lt wH uo)).symm).1) ?_;rw[aW];refine O.le_trans ?_ (zG mf pV (lo+m-1)).2;rw[um mf,if_neg (fun q=>Nat.lt_irrefl _ q.2)];exact bC
   ·rw[if_neg b8];cases Nat.le_antisymm (Nat.le_of_not_lt b8) et
    exact IF O aK hm (.refl _ _ _) aU IG (l8.put O (Nat.le_refl _) (kc.one (R:=wF O) O.le_refl) bC) h
noncomputable def binarySort':∀Y:Nat,∀Y:Nat,∀Y:Nat,StateT SortSt Sem Bool:=sortPriv% PySem.Builtin.binarySort
theorem binarySort'_eq(lo n ok:Nat):binarySort' lo n ok=(do
 for k in [max ok 1:n] do
  let mut l:=0
  let mut r:=k
  for _ in [0:k] do
   if l≥r then break
   let m:=(l+r) / 2
   let some less ←ltAt' (lo+k) (lo+m)|return false
   if less then r:=m else l:=m+1
  moveDown' (lo+k) (lo+l)
 return true):=rfl
theorem kc.sub{R:∀Y:Keyed,∀Y:Keyed,Prop} {xs:Array Keyed} {lo hi fV:Nat} (h:kc R xs lo hi) (bR:fV≤hi):kc R xs lo fV:=fun i j ae af aH=>h i j ae af (Nat.lt_of_lt_of_le aH bR)
theorem Qw{xs:Array Keyed}{src p lo:Nat}(hs:src<xs.size)(aQ:p≤src)(h:eK O xs lo src)(ae:∀i,∀Y:lo≤i,∀Y:i<p,O.le (aN xs i) (aN xs src)) (af:∀i,∀Y:p≤i,∀Y:i<src,O.le (aN xs src) (aN xs i)) (Qx:lo≤p):eK O (bubble xs src (src-p)) lo (src+1):=by
 have e:∀k,aN (bubble xs src (src-p)) k=if k=p then aN xs src else if p<k∧k≤src then aN xs (k-1)else aN xs k:=fun k=>by
  rw[IA hs (Nat.sub_le _ _),Nat.sub_sub_self aQ]
 generalize bubble xs src (src-p)=B at e ⊢;have a1:∀t,∀Y:t<p,aN B t=aN xs t:=fun t bf=>by rw[e,if_neg (Nat.ne_of_lt bf),if_neg (fun q=>Nat.lt_asymm bf q.1)]
 have a2:aN B p=aN xs src:=by rw[e,if_pos rfl]
 have cW:∀t,∀Y:p<t,∀Y:t≤src,aN B t=aN xs (t-1):=fun t g1 g2=>by rw[e,if_neg (Nat.ne_of_gt g1),if_pos ⟨g1,g2⟩]
 clear e
 have key:∀t,∀Y:p<t,∀Y:t≤src,O.le (aN xs src) (aN B t):=fun t g1 g2=>by
  rw[cW t g1 g2];exact af _ (Nat.le_sub_one_of_lt g1) (by exact aA (.a .r .q (.c (.b .p) .r (.t .p .q))) rfl g2 (Nat.sub_add_cancel (aq (.b .q .p (.l .o .p)) rfl g1)))
 intro i j g1 g2 g3;have lO:=Nat.le_of_lt_succ g3;rcases Nat.lt_trichotomy i p with q|q|q
 ·rw[a1 i q];rcases Nat.lt_trichotomy j p with r|r|r
  ·rw[a1 j r];exact h i j g1 g2 (Nat.lt_of_lt_of_le r aQ)
  ·rw[r,a2];exact ae i g1 q
  ·exact O.le_trans (ae i g1 q) (key j r lO)
 ·subst q;rw[a2];rcases Nat.eq_or_lt_of_le g2 with r|r
  ·rw[←r,a2];exact O.le_refl _
  ·exact key j r lO
 ·have r:=Nat.lt_of_lt_of_le q g2;rw[cW i q (Nat.le_trans g2 lO),cW j r lO];exact h _ _ (Nat.le_trans Qx (Nat.le_sub_one_of_lt q)) (Nat.sub_le_sub_right g2 1) (by exact aA (.b .r (.b .q) (.c (.b .p) .r (.t .p .q))) rfl g3 (Nat.sub_add_cancel (aA (.a .q .p (.b .r .q (.l .o .p))) rfl g2 q)))
theorem Qy{st:SortSt}{lo n ok:Nat}{Q:∀Y:Bool,∀Y:SortSt,Prop} (aK:kindOf st=O.kd) (hm:oJ O st) (aU:lo+n≤(arrOf st).size) (hs:eK O (arrOf st) lo (lo+ok))
 (h:∀ao,∀Y:Rel st ao lo (lo+n),∀Y:eK O (arrOf ao) lo (lo+n),Q true ao):b4 prog w A s (binarySort' lo n ok) Q st:=by
 rw[binarySort'_eq];refine bY (gp (l5 (I:=fun k c ao=>c=(none,())∧Rel st ao lo (lo+n)∧eK O (arrOf ao) lo (lo+k)) (Q:=fun c ao=>c=(none,())∧Rel st ao lo (lo+n)∧eK O (arrOf ao) lo (lo+n)) ?_ (fun c ao x=>⟨x.1,x.2.1,x.2.2.sub (Nat.add_le_add_left (Nat.le_max_right ..) lo)⟩) ⟨rfl,.refl _ _ _,?_⟩) ?_)
 ·intro k c ao Qz mP;refine aY ?_;rintro rfl r eg;have iT:=r.size;have gy:=r.kind.trans aK;have n9:=r.all O hm;have jj:lo+k<(arrOf ao).size:=by rw[iT];exact Nat.lt_of_lt_of_le (Nat.add_lt_add_left mP lo) aU
  clear Qz hm aK hs h iT;dsimp only
  refine bY (gp (zu (G:=fun l Y=>l≤k∧(∀i,∀Y:lo≤i,∀Y:i<lo+l,O.le (aN (arrOf ao) i) (aN (arrOf ao) (lo+k)))∧(∀i,∀Y:lo+l≤i,∀Y:i<lo+k,O.le (aN (arrOf ao) (lo+k)) (aN (arrOf ao) i)))
   (fun x l r=>l≤r∧r≤k∧r+x≤l+k∧(∀i,∀Y:lo≤i,∀Y:i<lo+l,O.le (aN (arrOf ao) i) (aN (arrOf ao) (lo+k)))∧(∀i,∀Y:lo+r≤i,∀Y:i<lo+k,O.le (aN (arrOf ao) (lo+k)) (aN (arrOf ao) i))) ?_ ?_
   ⟨Nat.zero_le _,Nat.le_refl _,Nat.le_add_left ..,fun i a b=>absurd a (Nat.not_le_of_lt b),fun i a b=>absurd a (Nat.not_le_of_lt b)⟩) fun c iX aG=>?_)
  ·rintro x l c5 XT ⟨jN,gz,kH,mh,mi⟩;refine zr (fun d5=>?_) fun bC=>?_
   ·cases Nat.le_antisymm jN d5
    exact jy ⟨rfl,gz,mh,mi⟩
   ·have f3:l≤(l+c5) / 2:=by exact aA (.n (.l .r .p) (.b (.a .p .r) (.m 2 (.b .q)) (.G 1 (.l .p .q)))) rfl bC (Nat.lt_mul_div_succ (_+_) (by decide))
    have f5:(l+c5) / 2<c5:=by exact aA (.n (.l .q .r) (.a (.m 2 .p) (.a .r .q) (.G 1 (.t .p .q)))) rfl bC (Nat.mul_div_le (_+_) 2)
    have mk:=Nat.lt_of_lt_of_le f5 gz;refine ny (C6 O gy n9 jj (Nat.lt_trans (Nat.add_lt_add_left mk lo) jj) ?_);dsimp only;generalize (l+c5) / 2=m at f3 f5 mk ⊢;cases av:O.lt' (aN (arrOf ao) (lo+k)) (aN (arrOf ao) (lo+m))with
    |true=>exact jy ⟨rfl,f3,Nat.le_of_lt mk,by exact cB (.a (.a .t .q) (.a .r .s) (.b .p .t (.l (.a .p (.b .q)) (.a .r .s)))) rfl kH f5,mh,fun i ae af=>O.le_trans (O.le_of_lt av) (eg _ _ (Nat.le_add_right ..) ae af)⟩
    |false=>exact jy ⟨rfl,f5,gz,by exact cB (.a (.a .p .q) (.a .t .s) (.a .t .r (.l (.a .p (.b .q)) (.a (.b .r) .s)))) rfl kH f3,fun i aM ae=>O.le_trans (eg i (lo+m) aM (Nat.le_of_lt_succ ae) (Nat.add_lt_add_left mk lo)) (O.pP av),mi⟩
  ·rintro l c5 ⟨jN,gz,kH,mh,mi⟩;cases Nat.le_antisymm jN (Nat.le_of_add_le_add_right kH)
   exact⟨gz,mh,mi⟩
  ·obtain⟨c,l,c5⟩:=c;obtain⟨rfl,rfl,IH,qJ,QA⟩:=aG;dsimp only;rw[moveDown'_eq];have aQ:lo+l≤lo+k:=Nat.add_le_add_left IH lo;refine bY (pO (cR ⟨rfl,r.trans ⟨_,rfl,bubble_perm _ _ _,fun i hi=>?_⟩,Qw O jj aQ eg qJ QA (Nat.le_add_right ..)⟩));rw[IA jj (Nat.sub_le _ _),Nat.sub_sub_self aQ,if_neg (by exact fun ay=>hi.elim (fun aE=>aA (.i (-1) (.e .p (.a .q .r)) (.b .p .q .f)) rfl ay aE) (fun bI=>cB (.b .p .q (.a .r .p (.c .s (.a .t .r) (.a (.a .t .q) .s .f)))) rfl mP IH ay bI)),if_neg (by exact fun ay=>hi.elim (fun aE=>aA (.b (.a .p .q) .r (.b .r .p (.F 1))) rfl ay.1 aE) (fun bI=>bA (.b .p .q (.a .r (.a .s .p) (.a (.a .s .q) .r .f))) rfl mP ay.2 bI))]
 ·rcases Nat.eq_zero_or_pos ok with e|e
  ·rw[e];exact kc.one O.le_refl
  ·rw[Nat.max_eq_left e];exact hs
 ·intro c ao;refine aY ?_;rintro rfl r eg;exact cR (h ao r eg)
end
end Mine
end
section
open PySem PyProof.Rows
namespace Mine
section
variable{prog:Program}{w:World}{A:Around}{s:Shared}(O:Ord prog w A s)
theorem nC{a:Array Keyed}{i:Nat}:aN a i=(a.toList[i]?).getD CJ:=by rw[uh,Array.getElem?_toList]
theorem sG{a:Array Keyed}{lo hi i:Nat}(h:lo+i<hi):aN (a.extract lo hi) i=aN a (lo+i):=by
 rw[nC,nC,Array.toList_extract,List.extract_eq_take_drop,List.getElem?_take,if_pos (by exact bA (.b (.a .r .p) .s (.a .s (.a .q .r) (.t .p .q))) rfl h (b5 _ _)),List.getElem?_drop]
theorem II{a:Array Keyed}{lo hi:Nat}(bR:hi≤a.size)(h:eK O a lo hi):cD O (a.extract lo hi).toList:=by
 refine List.pairwise_iff_getElem.mpr fun i j fV aP iH=>?_;have jL:lo+j<hi:=by simp at aP;exact(Nat.le_total _ _).elim (fun ay=>cB (.b .q .s (.c (.a .t .p) .r (.a .s .t (.t (.a .p .q) .r)))) rfl aP (Nat.sub_add_cancel ay) (Nat.min_le_left (_-_) (_-_))) (fun aE=>(aA (.b .p .q (.c .r .z (.a .q .r .f))) rfl aP (Nat.sub_eq_zero_of_le aE) (Nat.min_le_left (_-_) (_-_)):False).elim)
 have aS:(a.extract lo hi).toList[i]=aN (a.extract lo hi) i:=by rw[nC,List.getElem?_eq_getElem fV];rfl
 have aW:(a.extract lo hi).toList[j]=aN (a.extract lo hi) j:=by rw[nC,List.getElem?_eq_getElem aP];rfl
 rw[aS,aW,sG jL,sG (by exact bA (.b .q .s (.b (.a .p .s) .r (.t (.a .p .q) .r))) rfl iH jL)];exact h _ _ (by exact aq (.l .p (.a .p .q)) rfl) (by exact aA (.b .q .r (.l (.a .p .q) (.a .p .r))) rfl iH) jL
theorem QB(l:List Keyed):∀(k lo:Nat)(a:Array Keyed),∀Y:lo+k+l.length≤a.size,
 ((l.zipIdx k).foldl (fun a(x:Keyed×Nat)=>a.setIfInBounds (lo+x.2) x.1) a).toList=a.toList.take (lo+k)++l++a.toList.drop (lo+k+l.length):=by
 induction l with
 |nil=>intro k lo a _;simp
 |cons p l ih=>
  intro k lo a h;rw[List.zipIdx_cons,List.foldl_cons,ih (k+1) lo _ (by simp at h ⊢;exact bA (.a (.a (.a .p .q) (.b .r)) .s (.l (.a (.a .p (.b .q)) .r) .s)) rfl h)];simp only[List.length_cons]at h;have bC:lo+k<a.toList.length:=by simp;exact bA (.a (.a (.a .p .q) (.b .s)) .r (.t (.a .p .q) .r)) rfl h
  rw[Array.toList_setIfInBounds,show lo+(k+1)=lo+k+1 by exact Nat.le_antisymm (aq (.l (.a .p (.b .q)) (.b (.a .p .q))) rfl) (aq (.l (.b (.a .p .q)) (.a .p (.b .q))) rfl)]
  have aS:(a.toList.set (lo+k) p).take (lo+k+1)=a.toList.take (lo+k)++[p]:=by
   rw[List.take_add_one,List.getElem?_set_self bC];rw[List.take_set_of_le (Nat.le_refl _)];rfl
  have aW:(a.toList.set (lo+k) p).drop (lo+k+1+l.length)=a.toList.drop (lo+k+(l.length+1)):=by
   rw[List.drop_set_of_lt (by exact aA (.t (.a .p .q) (.a (.b (.a .p .q)) .r)) rfl)];congr 1;exact Nat.le_antisymm (aA (.l (.a (.b (.a .p .q)) .r) (.a (.a .p .q) (.b .r))) rfl) (aA (.l (.a (.a .p .q) (.b .r)) (.a (.b (.a .p .q)) .r)) rfl)
  rw[aS,aW];simp
noncomputable def mergeAt':∀Y:Nat,StateT SortSt Sem Bool:=sortPriv% PySem.Builtin.mergeAt
theorem QC(i:Nat):mergeAt' i=(do
 let s ←get
 let (some (bu,na,power),some (de,nb,_)):=((pendingOf s)[i]?,(pendingOf s)[i+1]?)|unsupported "internal:list.sort.pending"
 set (SortSt.mk' (kindOf s) (arrOf s) (((pendingOf s).setIfInBounds i (bu,na+nb,power)).eraseIdxIfInBounds (i+1)) (gallopOf s) (failedOf s))
 let some k ←oA false (←elem' (arrOf s) de) (arrOf s) bu na 0|return false
 let (bu,na):=(bu+k,na-k)
 if na==0 then return true
 let some nb ←oA true (←elem' (arrOf s) (bu+na-1)) (arrOf s) de nb (nb-1)|return false
 if nb==0 then return true
 let x:=(arrOf s).extract bu de
 let y:=(arrOf s).extract de (de+nb)
 let merged ←if na≤nb then CN x y else CX x y
 modify fun s=>setArr s (merged.toList.zipIdx.foldl (fun a(p,j)=>a.setIfInBounds (bu+j) p) (arrOf s))
 return (failedOf (←get)).isNone):=rfl
structure zJ(st ao:SortSt)(lo hi:Nat):Prop where
 kind:kindOf ao=kindOf st
 failed:failedOf ao=failedOf st
 perm:(arrOf ao).Perm (arrOf st)
 same:∀k,∀Y:k<lo∨hi≤k,aN (arrOf ao) k=aN (arrOf st) k
theorem QD{a xs r:Array Keyed}{lo hi:Nat}(ae:lo≤hi)(af:hi≤a.size)(aC:r.toList.length=hi-lo)(qQ:xs.toList=a.toList.take lo++r.toList++a.toList.drop hi)(t:Nat):
 aN xs t=if t<lo then aN a t else if t<hi then aN r (t-lo)else aN a t:=by
 have wI:(a.toList.take lo).length=lo:=by rw[List.length_take,Array.length_toList];exact Nat.le_antisymm (aq (.a .p .q (.l .p .q)) rfl (Nat.min_le_left _ _)) ((Nat.le_total _ _).elim (fun ay=>aq (.i (-1) (.e .q .p) (.l .p .q)) rfl (Nat.min_eq_left ay)) (fun aE=>bA (.a .p .r (.a .r .s (.i (-1) (.e .q .s) (.l .p .q)))) rfl ae af (Nat.min_eq_right aE)))
 rw[nC,qQ];by_cases ay:t<lo
 ·rw[if_pos ay,List.append_assoc,List.getElem?_append_left (by rw[wI];exact ay),List.getElem?_take,if_pos ay,nC]
 ·rw[if_neg ay];by_cases aE:t<hi
  ·rw[if_pos aE,List.append_assoc,List.getElem?_append_right (by rw[wI];exact Nat.le_of_not_lt ay),wI,List.getElem?_append_left (by rw[aC];exact Bp ay aE),nC]
  ·have e:hi+(t-(lo+(hi-lo)))=t:=by exact MV ae aE
   rw[if_neg aE,List.getElem?_append_right (by rw[List.length_append,wI,aC];exact cB (.c (.a .s .t) .r (.c (.a .q .p) .s (.l (.a .p .q) .r))) rfl e (Nat.sub_add_cancel (aq (.a .p .q (.l .p .q)) rfl ae))),List.length_append,wI,aC,List.getElem?_drop,nC,e]
theorem QE{a xs r:Array Keyed}{lo hi:Nat}(ae:lo≤hi)(sH:r.toList.Perm (a.extract lo hi).toList)(qQ:xs.toList=a.toList.take lo++r.toList++a.toList.drop hi):xs.Perm a:=by
 refine Array.perm_iff_toList_perm.mpr ?_;rw[qQ]
 have e:a.toList=a.toList.take lo++(a.extract lo hi).toList++a.toList.drop hi:=by
  rw[Array.toList_extract,List.extract_eq_take_drop]
  conv=>lhs;rw[←List.take_append_drop lo a.toList,←List.take_append_drop (hi-lo) (a.toList.drop lo),List.drop_drop,Nat.add_sub_cancel' ae,←List.append_assoc]
 exact(List.Perm.append_right _ (List.Perm.append_left _ sH)).trans (List.Perm.of_eq e.symm)
theorem zK{a:Array Keyed}{lo hi:Nat}{p:Keyed}(aQ:p∈(a.extract lo hi).toList):∃t,lo≤t∧t<hi∧p=aN a t:=by
 obtain⟨j,aP,rfl⟩:=List.mem_iff_getElem.mp aQ;have jL:lo+j<hi:=by rw[Array.length_toList,Array.size_extract]at aP;exact(Nat.le_total _ _).elim (fun ay=>(Nat.le_total _ (min _ _)).elim (fun aE=>cB (.b .q .s (.c .t .r (.c (.a .s .p) .t (.t (.a .p .q) .r)))) rfl aP (Nat.min_eq_left ay) (Nat.sub_add_cancel aE)) (fun bI=>(aq (.b .p .q (.c .q .z .f)) rfl aP (Nat.sub_eq_zero_of_le bI):False).elim)) (fun cM=>(Nat.le_total _ (min _ _)).elim (fun h7=>ck (.b .q .s (.a .t .r (.c (.v 5) .t (.c (.a .s .p) (.v 5) (.t (.a .p .q) .r))))) rfl [_,_,_,((min _ _)-_),_,(min _ _)] [] aP cM (Nat.min_eq_right cM) (Nat.sub_add_cancel h7)) (fun fL=>(aq (.b .p .q (.c .q .z .f)) rfl aP (Nat.sub_eq_zero_of_le fL):False).elim))
 exact⟨lo+j,Nat.le_add_right ..,jL,by rw[←sG jL,nC,List.getElem?_eq_getElem aP];rfl⟩
theorem QF{a xs r:Array Keyed}{lo hi b e:Nat}(aC:r.toList.length=hi-lo)(get:∀t,aN xs t=if t<lo then aN a t else if t<hi then aN r (t-lo)else aN a t)
 (sH:r.toList.Perm (a.extract lo hi).toList) (rs:cD O r.toList) (below:∀x t,∀Y:b≤x,∀Y:x<lo,∀Y:x≤t,∀Y:t<e,O.le (aN a x) (aN a t)) (above:∀t y,∀Y:b≤t,∀Y:t≤y,∀Y:hi≤y,∀Y:y<e,O.le (aN a t) (aN a y)) (av:b≤lo) (he:hi≤e):eK O xs b e:=by
 have IJ:∀j,∀Y:j<hi-lo,∃t,lo≤t∧t<hi∧aN r j=aN a t:=fun j aP=>by
  have:aN r j∈r.toList:=by rw[nC,List.getElem?_eq_getElem (by rw[aC];exact aP)];exact List.getElem_mem _
  exact zK (sH.mem_iff.mp this)
 intro x y ae af aH;rw[get,get];by_cases bW:x<lo
 ·rw[if_pos bW];by_cases pW:y<lo
  ·rw[if_pos pW];exact below x y ae bW af aH
  ·rw[if_neg pW];by_cases kI:y<hi
   ·rw[if_pos kI];refine aj ?_ (IJ (y-lo) (by exact Bp pW kI));intro t;refine aY ?_;intro t1 kG e;rw[e];exact below x t ae bW (by exact aA (.b .p .r (.a .r .q (.l .p .q))) rfl bW t1) (by exact aA (.a .r .q (.b .p .r (.t .p .q))) rfl he kG)
   ·rw[if_neg kI];exact below x y ae bW af aH
 ·rw[if_neg bW,if_neg (show¬y<lo by exact aA (.a .r .p (.n (.t .r .q) (.o (.t .p .q)))) rfl af bW)];by_cases kI:y<hi
  ·rw[if_pos kI,if_pos (show x<hi by exact aA (.a .p .r (.b .r .q (.t .p .q))) rfl af kI)];exact rs.at_ O (by exact(Nat.le_total _ _).elim (fun ay=>cB (.a .r .s (.c (.a .p .t) .r (.a .s (.a .q .t) (.l .p .q)))) rfl af (Nat.sub_add_cancel ay) (b5 _ _)) (fun aE=>aq (.c .p .z (.l .p .q)) rfl (Nat.sub_eq_zero_of_le aE))) (by rw[←Array.length_toList,aC];exact cB (.b .r .s (.a .s (.a .q .t) (.c (.a .p .t) .r (.t .p .q)))) rfl kI (b5 _ _) (Nat.sub_add_cancel (aA (.a .r .q (.n (.t .r .p) (.l .p .q))) rfl af bW)))
  ·rw[if_neg kI];by_cases cy:x<hi
   ·rw[if_pos cy];refine aj ?_ (IJ (x-lo) (by exact Bp bW cy));intro t;refine aY ?_;intro t1 kG e;rw[e];exact above t y (by exact aA (.a .p .r (.a .r .q (.l .p .q))) rfl av t1) (by exact aA (.n (.t .q .r) (.b .p .r (.l .p .q))) rfl kI kG) (by exact aq (.n (.t .q .p) (.l .p .q)) rfl kI) aH
   ·rw[if_neg cy];exact above x y ae af (by exact aA (.a .r .q (.n (.t .r .p) (.l .p .q))) rfl af cy) aH
theorem QG{st:SortSt}{i bu na mj de nb zL:Nat}{Q:∀Y:Bool,∀Y:SortSt,Prop} (aK:kindOf st=O.kd) (hm:oJ O st) (bq:failedOf st=none) (gq:(pendingOf st)[i]?=some (bu,na,mj)) (p2:(pendingOf st)[i+1]?=some (de,nb,zL))
 (zM:de=bu+na) (n0:1≤na) (qr:1≤nb) (aU:de+nb≤(arrOf st).size) (s1:eK O (arrOf st) bu de) (s2:eK O (arrOf st) de (de+nb))
 (h:∀ao,∀Y:zJ st ao bu (de+nb),∀Y:pendingOf ao=((pendingOf st).setIfInBounds i (bu,na+nb,mj)).eraseIdxIfInBounds (i+1),∀Y:eK O (arrOf ao) bu (de+nb),Q true ao):b4 prog w A s (mergeAt' i) Q st:=by
 rw[QC];refine bY (oz ?_);rw[gq,p2];dsimp only;refine bY (PW ?_);generalize eL:SortSt.mk' (kindOf st) (arrOf st) (((pendingOf st).setIfInBounds i (bu,na+nb,mj)).eraseIdxIfInBounds (i+1)) (gallopOf st) (failedOf st)=gN;have cT:kindOf gN=O.kd:=by rw[←eL];exact aK
 have a1:arrOf gN=arrOf st:=by rw[←eL]
 have f1:failedOf gN=none:=by rw[←eL];exact bq
 have zN:zJ st gN bu (de+nb):=⟨by rw[←eL],by rw[←eL],by rw[a1],fun k Y=>by rw[a1]⟩;have ay:pendingOf gN=((pendingOf st).setIfInBounds i (bu,na+nb,mj)).eraseIdxIfInBounds (i+1):=by rw[←eL]
 replace h:∀ao,∀Y:zJ st ao bu (de+nb),∀Y:pendingOf ao=pendingOf gN,∀Y:eK O (arrOf ao) bu (de+nb),Q true ao:=fun ao m q=>h ao m (Eq.trans q ay)
 clear gq p2 eL bq aK ay
 have back:∀lo hi,∀Y:bu≤lo,∀Y:lo≤hi,∀Y:hi≤de+nb,∀Y:(∀x t,∀Y:bu≤x,∀Y:x<lo,∀Y:x≤t,∀Y:t<de+nb,O.le (aN (arrOf st) x) (aN (arrOf st) t)),∀Y:(∀t y,∀Y:bu≤t,∀Y:t≤y,∀Y:hi≤y,∀Y:y<de+nb,O.le (aN (arrOf st) t) (aN (arrOf st) y)),
  ∀(r:Array Keyed) iX,∀Y:fu gN iX,∀Y:r.toList.Perm ((arrOf st).extract lo hi).toList,∀Y:cD O r.toList,b4 prog w A s (do
   modify fun s=>setArr s (r.toList.zipIdx.foldl (fun a(x:Keyed×Nat)=>a.setIfInBounds (lo+x.2) x.1) (arrOf s))
   return (failedOf (←get)).isNone) Q iX:=by
  intro lo hi cO cQ nD below above r iX;refine aj ?_;rintro g rfl;intro sH rs;refine bY (pO (bY (oz (cR ?_))))
  have C7:r.toList.length=hi-lo:=by
   rw[sH.length_eq,Array.length_toList,Array.size_extract,Nat.min_eq_left (Nat.le_trans nD aU)]
  have e:lo+r.toList.length=hi:=by rw[C7];exact Nat.add_sub_cancel' cQ
  have qQ:=QB r.toList 0 lo (arrOf st) (by rw[Nat.add_zero,e];exact Nat.le_trans nD aU);rw[Nat.add_zero,e]at qQ;have QH:arrOf (wC gN g)=arrOf st:=a1;rw[QH]
  have QI:(failedOf (setArr (wC gN g) (r.toList.zipIdx.foldl (fun a(x:Keyed×Nat)=>a.setIfInBounds (lo+x.2) x.1) (arrOf st)))).isNone=true:=by
   show(failedOf gN).isNone=true;rw[f1];rfl
  rw[QI];generalize r.toList.zipIdx.foldl (fun a(x:Keyed×Nat)=>a.setIfInBounds (lo+x.2) x.1) (arrOf st)=xs at qQ ⊢;have get:=QD cQ (Nat.le_trans nD aU) C7 qQ;refine h _ ⟨zN.kind,zN.failed,QE cQ sH qQ,fun t bf=>?_⟩ rfl (QF O C7 get sH rs below above cO nD);show aN xs t=_;rw[get]
  split
  ·rfl
  ·rw[if_neg (by exact MW cO nD bf (by assumption))]
 subst zM;refine bY (h9 (by exact bA (.a .o .s (.a (.a (.a .p .q) .s) .r (.t (.a .p .q) .r))) rfl qr aU) (bY (CS O cT hm (mem_getD hm (by exact bA (.a .o .s (.a (.a (.a .p .q) .s) .r (.t (.a .p .q) .r))) rfl qr aU)) (by exact bA (.a (.a (.a .p .q) .s) .r (.l (.a .p .q) .r)) rfl aU) (by exact aI (.a .o .p (.t .z .p)) rfl n0) (fun x y ae af=>s1 _ _ (by exact aq (.l .p (.a .p .q)) rfl) (by exact aA (.a .q .r (.l (.a .p .q) (.a .p .r))) rfl ae) (by exact aA (.b .q .r (.t (.a .p .q) (.a .p .r))) rfl af)) fun k g1 g2 g3=>?_)));dsimp only
 have below:∀x t,∀Y:bu≤x,∀Y:x<bu+k,∀Y:x≤t,∀Y:t<bu+na+nb,O.le (aN (arrOf st) x) (aN (arrOf st) t):=fun x t ay aE bI cM=>by
  by_cases h7:t<bu+na
  ·exact s1 x t ay bI h7
  ·have:=g2 (x-bu) (by exact bA (.b .r (.a .s .q) (.c (.a .p .s) .r (.t .p .q))) rfl aE (Nat.sub_add_cancel (aq (.a .p .q (.l .p .q)) rfl ay)));rw[show bu+(x-bu)=x by exact Nat.le_antisymm (aA (.c (.a .q .p) .r (.l (.a .p .q) .r)) rfl (Nat.sub_add_cancel (aq (.a .p .q (.l .p .q)) rfl ay))) (aA (.a .p (.a .r .q) (.l .p (.a .q .r))) rfl (b5 _ _))]at this;exact O.le_trans this (s2 _ t (Nat.le_refl _) (Nat.le_of_not_lt h7) cM)
 by_cases aS:na-k=0
 ·rw[if_pos (beq_iff_eq.mpr aS)];refine cR (h _ zN rfl fun x y ae af aH=>?_);rw[a1];by_cases ai:x<bu+k
  ·exact below x y ae ai af aH
  ·exact s2 x y (by exact cB (.c .s .z (.n (.t .r (.a .p .t)) (.a .q (.a .s .t) (.l (.a .p .q) .r)))) rfl aS ai (b5 _ _)) af aH
 rw[if_neg (fun q=>aS (beq_iff_eq.mp q))];have o8:bu+k+(na-k)-1=bu+na-1:=by exact(Nat.lt_or_gt_of_ne aS).elim (fun fL=>Nat.le_antisymm ((aI (.b .p .z .f) rfl fL:False).elim) (ck (.b .r .z (.a .s (.a .r .t) (.a .p (.a (.v 5) .s) (.a (.a (.a (.v 5) .t) .r) (.b .q) (.l .p .q))))) rfl [((_+_)-(1:Nat)),(((_+_)+(_-_))-(1:Nat)),(_-_),_,_,_] [] fL (b5 _ _) (Nat.sub_le (_+_) (1:Nat)) (b5 ((_+_)+(_-_)) (1:Nat)))) (fun fM=>Nat.le_antisymm ((Nat.le_total _ _).elim (fun ly=>ck (.c (.b .p) (.a (.a .r .s) .t) (.i (-1) (.e (.b .q) (.a .r (.v 5))) (.c (.a .t .s) (.v 5) (.l .p .q)))) rfl [(((_+_)+(_-_))-(1:Nat)),((_+_)-(1:Nat)),_,_,(_-_),_] [] (Nat.sub_add_cancel (aA (.b .z .r (.l .o (.a (.a .p .q) .r))) rfl fM)) (Nat.sub_add_cancel (aA (.b .z .r (.a .r .q (.l .o (.a .p .q)))) rfl fM (Nat.sub_le _ _))) (Nat.sub_add_cancel ly)) (fun mQ=>(aI (.b .z .p (.c .p .z .f)) rfl fM (Nat.sub_eq_zero_of_le mQ):False).elim)) (ck (.a .r (.a .s .t) (.a (.a (.a (.v 5) .t) .s) (.b .q) (.c (.b .p) (.a (.v 5) .r) (.l .p .q)))) rfl [((_+_)-(1:Nat)),(((_+_)+(_-_))-(1:Nat)),_,(_-_),_,_] [] (b5 _ _) (b5 ((_+_)+(_-_)) (1:Nat)) (Nat.sub_add_cancel (aA (.b .z .r (.a .r .q (.l .o (.a .p .q)))) rfl fM (Nat.sub_le _ _)))))
 refine bY (h9 (by exact ck (.a .o .r (.a (.a (.a .s .t) .r) .q (.c .p (.v 5) (.a (.v 5) (.a .s .t) (.t .p .q))))) rfl [(((_+_)+(_-_))-(1:Nat)),_,_,_,_,((_+_)-(1:Nat))] [] qr aU o8 (Nat.sub_le (_+_) (1:Nat))) (bY (CT O cT hm (mem_getD hm (by exact ck (.a .o .r (.a (.a (.a .s .t) .r) .q (.c .p (.v 5) (.a (.v 5) (.a .s .t) (.t .p .q))))) rfl [(((_+_)+(_-_))-(1:Nat)),_,_,_,_,((_+_)-(1:Nat))] [] qr aU o8 (Nat.sub_le (_+_) (1:Nat)))) (by exact bA (.a (.a (.a .p .q) .r) .s (.l (.a (.a .p .q) .r) .s)) rfl aU) (by exact aq (.c (.b .p) .q (.t .p .q)) rfl (Nat.sub_add_cancel (aI (.a .o .p (.l .o .p)) rfl qr))) (fun x y ae af=>s2 _ _ (by exact aA (.l (.a .p .q) (.a (.a .p .q) .r)) rfl) (by exact bA (.a .r .s (.l (.a (.a .p .q) .r) (.a (.a .p .q) .s))) rfl ae) (by exact bA (.b .r .s (.t (.a (.a .p .q) .r) (.a (.a .p .q) .s))) rfl af)) fun m cO cQ nD=>?_)));rw[o8]at cQ nD;dsimp only
 have above:∀t y,∀Y:bu≤t,∀Y:t≤y,∀Y:bu+na+m≤y,∀Y:y<bu+na+nb,O.le (aN (arrOf st) t) (aN (arrOf st) y):=fun t y ay aE bI cM=>by
  by_cases h7:t<bu+na
  ·have:=nD (y-(bu+na)) (by exact cB (.a (.a (.a .r .s) .p) .t (.a .t (.a .q (.a .r .s)) (.l .p .q))) rfl bI (b5 _ (_+_))) (by exact(Nat.le_total (_+_) _).elim (fun ay=>cB (.b .r (.a (.a .s .t) .q) (.c (.a .p (.a .s .t)) .r (.t .p .q))) rfl cM (Nat.sub_add_cancel ay)) (fun aE=>aq (.a .o .q (.c .p .z (.t .p .q))) rfl qr (Nat.sub_eq_zero_of_le aE)));rw[show bu+na+(y-(bu+na))=y by exact Nat.le_antisymm (bA (.c (.a .r (.a .p .q)) .s (.l (.a (.a .p .q) .r) .s)) rfl (Nat.sub_add_cancel (bA (.a (.a (.a .p .q) .s) .r (.l (.a .p .q) .r)) rfl bI))) (bA (.a .p (.a .s (.a .q .r)) (.l .p (.a (.a .q .r) .s))) rfl (b5 _ (_+_)))]at this;exact O.le_trans (s1 t (bu+na-1) ay (by exact bA (.b .p (.a .r .s) (.a (.a .r .s) (.b .q) (.l .p .q))) rfl h7 (b5 (_+_) (1:Nat))) (by exact aA (.c (.b .p) (.a .q .r) (.t .p (.a .q .r))) rfl (Nat.sub_add_cancel (aq (.a .o .q (.l .o (.a .p .q))) rfl n0)))) this
  ·exact s2 t y (Nat.le_of_not_lt h7) aE cM
 by_cases aW:m=0
 ·rw[if_pos (beq_iff_eq.mpr aW)];subst aW;refine cR (h _ zN rfl fun x y ae af aH=>?_);rw[a1];by_cases au:y<bu+na
  ·exact s1 x y ae af au
  ·exact above x y ae af (Nat.le_of_not_lt au) aH
 rw[if_neg (fun q=>aW (beq_iff_eq.mp q))];have C8:((arrOf st).extract (bu+k) (bu+na)).size=na-k:=by rw[Array.size_extract];exact(Nat.le_total (_+_) _).elim (fun fM=>Nat.le_antisymm ((Nat.le_total (_+_) (min (_+_) _)).elim (fun ly=>ck (.c .r (.a .s .t) (.c (.a .p (.a .s (.v 5))) .r (.a .t (.a .q (.v 5)) (.l .p .q)))) rfl [((min (_+_) _)-(_+_)),(_-_),(min (_+_) _),_,_,_] [] (Nat.min_eq_left fM) (Nat.sub_add_cancel ly) (b5 _ _)) (fun mQ=>aq (.c .p .z (.l .p .q)) rfl (Nat.sub_eq_zero_of_le mQ))) ((Nat.le_total _ _).elim (fun qR=>ck (.i (-1) (.e .r (.a .s .t)) (.c (.a .p (.v 5)) .t (.a .r (.a .q (.a .s (.v 5))) (.l .p .q)))) rfl [(_-_),((min (_+_) _)-(_+_)),(min (_+_) _),_,_,_] [] (Nat.min_eq_left fM) (Nat.sub_add_cancel qR) (b5 (min (_+_) _) (_+_))) (fun mR=>aq (.c .p .z (.l .p .q)) rfl (Nat.sub_eq_zero_of_le mR)))) (fun qo=>Nat.le_antisymm ((Nat.le_total (_+_) (min (_+_) _)).elim (fun vA=>ck (.a .r (.a .s .t) (.c (.v 5) .r (.c (.a .p (.a .s (.v 6))) (.v 5) (.a .t (.a .q (.v 6)) (.l .p .q))))) rfl [((min (_+_) _)-(_+_)),(_-_),_,_,_,(min (_+_) _),_] [] qo (Nat.min_eq_right qo) (Nat.sub_add_cancel vA) (b5 _ _)) (fun wJ=>aq (.c .p .z (.l .p .q)) rfl (Nat.sub_eq_zero_of_le wJ))) ((Nat.le_total _ _).elim (fun wK=>ck (.a (.a (.a .r .s) .t) (.v 5) (.i (-1) (.e (.v 6) (.v 5)) (.c (.a .p (.v 7)) .s (.a (.v 6) (.a .q (.a .r (.v 7))) (.l .p .q))))) rfl [(_-_),((min (_+_) _)-(_+_)),_,_,_,_,(min (_+_) _),_] [] aU (Nat.min_eq_right qo) (Nat.sub_add_cancel wK) (b5 (min (_+_) _) (_+_))) (fun wL=>aq (.c .p .z (.l .p .q)) rfl (Nat.sub_eq_zero_of_le wL))))
 have C9:((arrOf st).extract (bu+na) (bu+na+m)).size=m:=by rw[Array.size_extract];exact Nat.le_antisymm ((Nat.le_total ((_+_)+_) _).elim (fun ay=>cB (.c .r (.a (.a .s .t) .q) (.c (.a .p (.a .s .t)) .r (.l .p .q))) rfl (Nat.min_eq_left ay) (Nat.sub_add_cancel (bA (.i (-1) (.e .r (.a (.a .p .q) .s)) (.l (.a .p .q) .r)) rfl (Nat.min_eq_left ay)))) (fun aE=>ck (.a .r (.a (.a .s .t) .q) (.c (.v 5) .r (.c (.a .p (.a .s .t)) (.v 5) (.l .p .q)))) rfl [((min ((_+_)+_) _)-(_+_)),_,_,_,_,(min ((_+_)+_) _)] [] aE (Nat.min_eq_right aE) (Nat.sub_add_cancel (cB (.a (.a (.a .p .q) .s) .t (.i (-1) (.e .r .t) (.l (.a .p .q) .r))) rfl aU (Nat.min_eq_right aE))))) ((Nat.le_total ((_+_)+_) _).elim (fun bI=>cB (.i (-1) (.e .r (.a (.a .s .t) .p)) (.a .r (.a .q (.a .s .t)) (.l .p .q))) rfl (Nat.min_eq_left bI) (b5 (min ((_+_)+_) _) (_+_))) (fun cM=>ck (.a (.a (.a .r .s) .t) (.v 5) (.a .p .t (.i (-1) (.e (.v 6) (.v 5)) (.a (.v 6) (.a .q (.a .r .s)) (.l .p .q))))) rfl [_,((min ((_+_)+_) _)-(_+_)),_,_,_,_,(min ((_+_)+_) _)] [] aU cO (Nat.min_eq_right cM) (b5 (min ((_+_)+_) _) (_+_))))
 have IK:cD O ((arrOf st).extract (bu+k) (bu+na)).toList:=II O (by exact bA (.a (.a (.a .p .q) .s) .r (.l (.a .p .q) .r)) rfl aU) fun i j ae af aH=>s1 i j (by exact aA (.a (.a .p .r) .q (.l .p .q)) rfl ae) af aH;have IL:cD O ((arrOf st).extract (bu+na) (bu+na+m)).toList:=II O (by exact cB (.a (.a (.a .p .q) .t) .s (.a .r .t (.l (.a (.a .p .q) .r) .s))) rfl aU cO) fun i j ae af aH=>s2 i j ae af (by exact cB (.a .t .s (.b .p (.a (.a .q .r) .t) (.t .p (.a (.a .q .r) .s)))) rfl cO aH)
 have zO:∀{lo hi},∀Y:hi≤(arrOf st).size,∀p∈((arrOf st).extract lo hi).toList,O.mem p:=fun bR p aQ=>by
  refine aj ?_ (zK aQ);intro t;refine aY ?_;rintro _ kG rfl;exact mem_getD hm (Nat.lt_of_lt_of_le kG bR)
 have aM:O.le (aN ((arrOf st).extract (bu+na) (bu+na+m)) 0) (aN ((arrOf st).extract (bu+k) (bu+na)) 0):=by
  rw[sG (by exact(Nat.lt_or_gt_of_ne aW).elim (fun ay=>aA (.b .r .z (.t (.a (.a .p .q) .z) (.a (.a .p .q) .r))) rfl ay) (fun aE=>aA (.b .z .r (.t (.a (.a .p .q) .z) (.a (.a .p .q) .r))) rfl aE)),sG (by exact(Nat.lt_or_gt_of_ne aS).elim (fun ay=>(aI (.b .p .z .f) rfl ay:False).elim) (fun aE=>(Nat.le_total _ _).elim (fun bI=>bA (.b .z .s (.c (.a .s .q) .r (.t (.a (.a .p .q) .z) (.a .p .r)))) rfl aE (Nat.sub_add_cancel bI)) (fun cM=>(aI (.b .z .p (.c .p .z .f)) rfl aE (Nat.sub_eq_zero_of_le cM):False).elim)))];exact O.le_of_lt (g3 k (Nat.le_refl _) (by exact(Nat.lt_or_gt_of_ne aS).elim (fun ay=>(aI (.b .p .z .f) rfl ay:False).elim) (fun aE=>(Nat.le_total _ _).elim (fun bI=>aA (.b .z .r (.c (.a .r .p) .q (.t .p .q))) rfl aE (Nat.sub_add_cancel bI)) (fun cM=>(aI (.b .z .p (.c .p .z .f)) rfl aE (Nat.sub_eq_zero_of_le cM):False).elim))))
 have jR:∀y∈((arrOf st).extract (bu+na) (bu+na+m)).toList,O.le y (aN ((arrOf st).extract (bu+k) (bu+na)) (((arrOf st).extract (bu+k) (bu+na)).size-1)):=fun y au=>by
  refine aj ?_ (zK au);intro t;refine aY ?_;rintro t1 kG rfl;rw[C8,sG (by exact(Nat.lt_or_gt_of_ne aS).elim (fun ay=>(aI (.b .p .z .f) rfl ay:False).elim) (fun aE=>(Nat.le_total _ _).elim (fun bI=>cB (.c (.b .r) .t (.c (.a .t .q) .s (.t (.a (.a .p .q) .r) (.a .p .s)))) rfl (Nat.sub_add_cancel (aI (.b .z .p (.l .o .p)) rfl aE)) (Nat.sub_add_cancel bI)) (fun cM=>(aI (.b .z .p (.c .p .z .f)) rfl aE (Nat.sub_eq_zero_of_le cM):False).elim))),show bu+k+(na-k-1)=bu+na-1 by exact(Nat.lt_or_gt_of_ne aS).elim (fun fL=>Nat.le_antisymm ((aI (.b .p .z .f) rfl fL:False).elim) (ck (.b .t .z (.a (.v 5) (.a .t .r) (.a .p (.a .q (.v 5)) (.l .p (.a (.a .q .r) .s))))) rfl [((_+_)-(1:Nat)),_,_,((_-_)-(1:Nat)),(_-_),_] [] fL (b5 _ _) (Nat.sub_le (_+_) (1:Nat)))) (fun fM=>Nat.le_antisymm ((Nat.le_total _ _).elim (fun ly=>ck (.c (.b .r) .t (.i (-1) (.e (.b .s) (.a .p (.v 5))) (.c (.a .t .q) (.v 5) (.l (.a (.a .p .q) .r) .s)))) rfl [_,_,((_-_)-(1:Nat)),((_+_)-(1:Nat)),(_-_),_] [] (Nat.sub_add_cancel (aI (.b .z .p (.l .o .p)) rfl fM)) (Nat.sub_add_cancel (aA (.b .z .r (.a .r .q (.l .o (.a .p .q)))) rfl fM (Nat.sub_le _ _))) (Nat.sub_add_cancel ly)) (fun mQ=>(aI (.b .z .p (.c .p .z .f)) rfl fM (Nat.sub_eq_zero_of_le mQ):False).elim)) (ck (.a .t (.a (.v 5) .r) (.a (.v 5) (.b .s) (.c (.b .p) (.a .q .t) (.l .p (.a (.a .q .r) .s))))) rfl [((_+_)-(1:Nat)),_,_,((_-_)-(1:Nat)),_,(_-_)] [] (b5 _ _) (b5 (_-_) (1:Nat)) (Nat.sub_add_cancel (aA (.b .z .r (.a .r .q (.l .o (.a .p .q)))) rfl fM (Nat.sub_le _ _)))))];have:=cQ (t-(bu+na)) (by exact(Nat.lt_or_gt_of_ne aW).elim (fun ay=>(aI (.b .p .z .f) rfl ay:False).elim) (fun aE=>(Nat.le_total (_+_) _).elim (fun bI=>cB (.b .r (.a (.a .s .t) .q) (.c (.a .p (.a .s .t)) .r (.t .p .q))) rfl kG (Nat.sub_add_cancel bI)) (fun cM=>aq (.b .z .q (.c .p .z (.t .p .q))) rfl aE (Nat.sub_eq_zero_of_le cM))));rw[show bu+na+(t-(bu+na))=t by exact Nat.le_antisymm (bA (.c (.a .r (.a .p .q)) .s (.l (.a (.a .p .q) .r) .s)) rfl (Nat.sub_add_cancel (aA (.a (.a .p .q) .r (.l (.a .p .q) .r)) rfl t1))) (bA (.a .p (.a .s (.a .q .r)) (.l .p (.a (.a .q .r) .s))) rfl (b5 _ (_+_)))]at this;exact O.le_of_lt this
 have k7:∀y∈((arrOf st).extract (bu+k) (bu+na)).toList,O.le (aN ((arrOf st).extract (bu+na) (bu+na+m)) 0) y:=fun y au=>by
  refine aj ?_ (zK au);intro t;refine aY ?_;rintro t1 kG rfl;refine O.le_trans aM ?_;rw[sG (by exact bA (.a (.a .p .q) .s (.b .s (.a .p .r) (.t (.a (.a .p .q) .z) (.a .p .r)))) rfl t1 kG)];exact s1 _ _ (by exact aq (.l .p (.a (.a .p .q) .z)) rfl) t1 kG
 have IM:∀r iX,∀Y:fu gN iX,∀Y:l7 O ((arrOf st).extract (bu+k) (bu+na)) ((arrOf st).extract (bu+na) (bu+na+m)) r,_:=fun r iX ay aE=>
  back (bu+k) (bu+na+m) (Nat.le_add_right ..) (by exact bA (.a .q .r (.l (.a .p .q) (.a (.a .p .r) .s))) rfl g1) (by exact bA (.a .r .s (.l (.a (.a .p .q) .r) (.a (.a .p .q) .s))) rfl cO) below above r iX ay (aE.1.trans (List.Perm.of_eq (by
   rw[Array.toList_extract,Array.toList_extract,Array.toList_extract,List.extract_eq_take_drop,List.extract_eq_take_drop,List.extract_eq_take_drop,show bu+na+m-(bu+k)=(bu+na-(bu+k))+(bu+na+m-(bu+na)) by exact(Nat.lt_or_gt_of_ne aS).elim (fun wL=>Nat.le_antisymm ((aI (.b .p .z .f) rfl wL:False).elim) ((aI (.b .p .z .f) rfl wL:False).elim)) (fun tn=>Nat.le_antisymm ((Nat.le_total _ _).elim (fun vB=>ck (.i (-1) (.e (.a .r (.a .s .t)) (.a (.a .s .t) (.v 5))) (.a (.a .s .t) (.a .q (.a .s (.v 6))) (.c (.a .p (.a .s (.v 6))) (.a (.a .s .t) (.v 5)) (.l .p (.a .q .r))))) rfl [(((_+_)+_)-(_+_)),((_+_)-(_+_)),(((_+_)+_)-(_+_)),_,_,_,_] [] (Nat.sub_add_cancel (aA (.l (.a .p .q) (.a (.a .p .q) .r)) rfl)) (b5 (_+_) (_+_)) (Nat.sub_add_cancel (bA (.a .q .r (.l (.a .p .q) (.a (.a .p .r) .s))) rfl vB))) (fun yi=>(aI (.b .z .p (.c .p .z .f)) rfl tn (Nat.sub_eq_zero_of_le yi):False).elim)) ((Nat.le_total _ _).elim (fun yj=>ck (.c (.a .q (.a .s .t)) (.a (.a .s .t) (.v 5)) (.a (.a (.a .s .t) (.v 5)) (.a .r (.a .s (.v 6))) (.c (.a .p (.a .s (.v 6))) (.a .s .t) (.l (.a .p .q) .r)))) rfl [((_+_)-(_+_)),(((_+_)+_)-(_+_)),(((_+_)+_)-(_+_)),_,_,_,_] [] (Nat.sub_add_cancel (aA (.l (.a .p .q) (.a (.a .p .q) .r)) rfl)) (b5 ((_+_)+_) (_+_)) (Nat.sub_add_cancel (aA (.a .q .r (.l (.a .p .q) (.a .p .r))) rfl yj))) (fun Dc=>(aI (.b .z .p (.c .p .z .f)) rfl tn (Nat.sub_eq_zero_of_le Dc):False).elim))),List.take_add,List.drop_drop,show bu+k+(bu+na-(bu+k))=bu+na by exact(Nat.lt_or_gt_of_ne aS).elim (fun fM=>Nat.le_antisymm ((aI (.b .p .z .f) rfl fM:False).elim) (bA (.a (.a .p .q) (.a .s (.a .p .r)) (.l (.a .p .q) (.a (.a .p .r) .s))) rfl (b5 (_+_) (_+_)))) (fun ly=>Nat.le_antisymm ((Nat.le_total _ _).elim (fun mQ=>bA (.c (.a .r (.a .p .q)) (.a .p .s) (.l (.a (.a .p .q) .r) (.a .p .s))) rfl (Nat.sub_add_cancel (aA (.a .q .r (.l (.a .p .q) (.a .p .r))) rfl mQ))) (fun qR=>(aI (.b .z .p (.c .p .z .f)) rfl ly (Nat.sub_eq_zero_of_le qR):False).elim)) (bA (.a (.a .p .q) (.a .s (.a .p .r)) (.l (.a .p .q) (.a (.a .p .r) .s))) rfl (b5 (_+_) (_+_))))]))) aE.2
 split
 ·exact bY (Qe O cT (zO (by exact bA (.a (.a (.a .p .q) .s) .r (.l (.a .p .q) .r)) rfl aU)) (zO (by exact cB (.a (.a (.a .p .q) .t) .s (.a .r .t (.l (.a (.a .p .q) .r) .s))) rfl aU cO)) IK IL (by exact(Nat.lt_or_gt_of_ne aS).elim (fun ay=>aq (.b .q .z (.t .z .p)) rfl ay) (fun aE=>aq (.i (-1) (.e .p .q) (.b .z .q (.t .z .p))) rfl C8 aE)) (by exact(Nat.lt_or_gt_of_ne aW).elim (fun ay=>aq (.b .q .z (.t .z .p)) rfl ay) (fun aE=>aq (.i (-1) (.e .p .q) (.b .z .q (.t .z .p))) rfl C9 aE)) aM jR IM)
 ·refine bY (Qq O cT (zO (by exact bA (.a (.a (.a .p .q) .s) .r (.l (.a .p .q) .r)) rfl aU)) (zO (by exact cB (.a (.a (.a .p .q) .t) .s (.a .r .t (.l (.a (.a .p .q) .r) .s))) rfl aU cO)) IK IL (by exact(Nat.lt_or_gt_of_ne aS).elim (fun ay=>aq (.b .q .z (.t .z .p)) rfl ay) (fun aE=>aq (.i (-1) (.e .p .q) (.b .z .q (.t .z .p))) rfl C8 aE)) (by exact(Nat.lt_or_gt_of_ne aW).elim (fun ay=>aq (.b .q .z (.t .z .p)) rfl ay) (fun aE=>aq (.i (-1) (.e .p .q) (.b .z .q (.t .z .p))) rfl C9 aE)) ?_ k7 IM);refine jR _ ?_;rw[nC,List.getElem?_eq_getElem (by rw[Array.length_toList];exact(Nat.lt_or_gt_of_ne aW).elim (fun ay=>aA (.b .r .z (.a .p .q (.t .p .q))) rfl ay (Nat.sub_le _ (1:Nat))) (fun aE=>aq (.c (.b .p) .q (.t .p .q)) rfl (Nat.sub_add_cancel (aq (.i (-1) (.e .p .q) (.b .z .q (.l .o .p))) rfl C9 aE))))];exact List.getElem_mem _
end
end Mine
end
section
open PySem PyProof.Rows
namespace Mine
section
variable{prog:Program}{w:World}{A:Around}{s:Shared}(O:Ord prog w A s)
noncomputable def Runs(xs:Array Keyed):∀Y:List (Nat×Nat×Nat),∀Y:Nat,∀Y:Nat,Prop
 |[],lo,hi=>lo=hi
 |(s,n,_)::r,lo,hi=>s=lo∧1≤n∧eK O xs lo (lo+n)∧Runs xs r (lo+n) hi
variable{O}
theorem Runs.le{xs:Array Keyed}:∀{l:List (Nat×Nat×Nat)}{lo hi:Nat},∀Y:Runs O xs l lo hi,lo+l.length≤hi
 |[],_,_,h=>by have h':_=_:=h;simp;exact aq (.c .p .q (.l .p .q)) rfl h'
 |(s,n,p)::r,lo,hi,h=>by
  refine cI ?_ h;clear h;intro _ ae _ af;have:=Runs.le af;simp only[List.length_cons];exact bA (.a .o .s (.a (.a (.a .p .s) .q) .r (.l (.a .p (.b .q)) .r))) rfl ae this
theorem Runs.append{xs:Array Keyed}:∀{l ia:List (Nat×Nat×Nat)}{lo hi:Nat},Runs O xs (l++ia) lo hi↔∃m,Runs O xs l lo m∧Runs O xs ia m hi
 |[],ia,lo,hi=>⟨fun h=>⟨lo,rfl,h⟩,fun⟨m,ae,af⟩=>by have r9:_=_:=ae;subst r9;exact af⟩
 |(s,n,p)::r,ia,lo,hi=>by
  constructor
  ·refine cI ?_;intro ae af aH bX;refine aj ?_ (Runs.append.mp bX);intro m;refine ar ?_;intro et fq;exact⟨m,⟨ae,af,aH,et⟩,fq⟩
  ·refine aj ?_;intro m;refine ar ?_;refine cI ?_;intro ae af aH et;intro fq;exact⟨ae,af,aH,Runs.append.mpr ⟨m,et,fq⟩⟩
theorem Runs.same{xs ys:Array Keyed}:∀{l:List (Nat×Nat×Nat)}{lo hi:Nat},∀Y:(∀k,∀Y:lo≤k,∀Y:k<hi,aN ys k=aN xs k),∀Y:Runs O xs l lo hi,Runs O ys l lo hi
 |[],_,_,_,h=>h
 |(s,n,p)::r,lo,hi,k,h=>by
  refine cI ?_ h;clear h;intro ae af aH bX;have:=bX.le;exact⟨ae,af,fun i j a b c=>by rw[k i a (by exact ck (.a (.a (.a .r .s) .t) .q (.a .p (.v 5) (.b (.v 5) (.a .r .s) (.t .p .q)))) rfl [_,_,_,_,_,_] [] this b c),k j (by exact aA (.a .p .r (.a .r .q (.l .p .q))) rfl a b) (by exact cB (.a (.a (.a .r .s) .t) .q (.b .p (.a .r .s) (.t .p .q))) rfl this c)];exact aH i j a b c,Runs.same (fun t a b=>k t (by exact aA (.a (.a .p .r) .q (.l .p .q)) rfl a) b) bX⟩
variable(O)
structure gA(a₀:Array Keyed)(st:SortSt):Prop where
 perm:(arrOf st).Perm a₀
 kind:kindOf st=O.kd
 failed:failedOf st=none
variable{O}
theorem gA.size{a₀:Array Keyed}{st:SortSt}(h:gA O a₀ st):(arrOf st).size=a₀.size:=h.perm.size_eq
theorem gA.all{a₀:Array Keyed}{st:SortSt}(h:gA O a₀ st)(aM:∀p∈a₀.toList,O.mem p):oJ O st:=fun q bb=>aM q ((Array.perm_iff_toList_perm.mp h.perm).mem_iff.mp bb)
theorem gA.rel{a₀:Array Keyed}{st ao:SortSt}{lo hi:Nat}(h:gA O a₀ st)(r:Rel st ao lo hi):gA O a₀ ao:=by
 refine aj ?_ r;clear r;intro xs;refine aY ?_;rintro rfl p _;exact⟨p.trans h.perm,h.kind,h.failed⟩
theorem gA.lu{a₀:Array Keyed}{st ao:SortSt}{lo hi:Nat}(h:gA O a₀ st)(r:zJ st ao lo hi):gA O a₀ ao:=⟨r.perm.trans h.perm,r.kind.trans h.kind,r.failed.trans h.failed⟩
theorem QJ(pre post:List (Nat×Nat×Nat))(x y v:Nat×Nat×Nat)(p:Array (Nat×Nat×Nat))(h:p.toList=pre++x::y::post):((p.setIfInBounds pre.length v).eraseIdxIfInBounds (pre.length+1)).toList=pre++v::post:=by
 have hs:p.size=pre.length+(post.length+2):=by rw[←Array.length_toList,h];simp
 rw[Array.eraseIdxIfInBounds,dif_pos (by rw[Array.size_setIfInBounds];exact aA (.i (-1) (.e .q (.a .p (.a .r (.k 2)))) (.t (.b .p) .q)) rfl hs),Array.toList_eraseIdx,Array.toList_setIfInBounds,h,List.set_append_right _ _ (Nat.le_refl _),Nat.sub_self];rw[show(x::y::post).set 0 v=v::y::post from rfl,List.eraseIdx_append_of_length_le (by exact aI (.l .p (.b .p)) rfl),show pre.length+1-pre.length=1 by exact Nat.le_antisymm (aq (.c (.a .p .q) (.b .q) (.l .p .o)) rfl (Nat.sub_add_cancel (aI (.l .p (.b .p)) rfl))) (aq (.a (.b .q) (.a .p .q) (.l .o .p)) rfl (b5 (_+(1:Nat)) _))];rfl
theorem IP{a₀:Array Keyed}{st:SortSt}{i lo:Nat}{Q:∀Y:Bool,∀Y:SortSt,Prop} (aM:∀p∈a₀.toList,O.mem p) (g6:gA O a₀ st) (fe:Runs O (arrOf st) (pendingOf st).toList 0 lo) (qJ:lo≤a₀.size) (hi:i+1<(pendingOf st).size)
 (h:∀ao,∀Y:gA O a₀ ao,∀Y:Runs O (arrOf ao) (pendingOf ao).toList 0 lo,∀Y:(pendingOf ao).size+1=(pendingOf st).size,∀Y:(∀k,∀Y:lo≤k,aN (arrOf ao) k=aN (arrOf st) k),Q true ao):b4 prog w A s (mergeAt' i) Q st:=by
 have aD:(pendingOf st).toList=(pendingOf st).toList.take i++(pendingOf st).toList.drop i:=(List.take_append_drop ..).symm
 obtain⟨⟨bu,na,mj⟩,⟨de,nb,zL⟩,post,hd⟩:∃x y post,(pendingOf st).toList.drop i=x::y::post:=by
  have hlen:2≤((pendingOf st).toList.drop i).length:=by simp;exact aA (.b (.b .q) .r (.a .r (.a .p .q) (.l (.k 2) .p))) rfl hi (b5 _ _)
  cases q:(pendingOf st).toList.drop i with
  |nil=>rw[q]at hlen;simp at hlen
  |cons x r=>cases r with
   |nil=>rw[q]at hlen;simp at hlen
   |cons y r=>exact⟨x,y,r,rfl⟩
 have fO:((pendingOf st).toList.take i).length=i:=by simp;exact Nat.le_antisymm (aq (.a .p .q (.l .p .q)) rfl (Nat.min_le_left _ _)) ((Nat.le_total _ _).elim (fun ay=>aq (.i (-1) (.e .q .p) (.l .p .q)) rfl (Nat.min_eq_left ay)) (fun aE=>aA (.b (.b .p) .r (.i (-1) (.e .q .r) (.l .p .q))) rfl hi (Nat.min_eq_right aE)))
 rw[hd]at aD;have IQ:=fe;rw[aD]at IQ;refine aj ?_ (Runs.append.mp IQ);intro m;refine Bj ?_;intro j2 aS eB s1 aW iS s2 e7;subst aS;subst aW;have aU:=e7.le
 have gq:(pendingOf st)[i]?=some (bu,na,mj):=by
  rw[←Array.getElem?_toList,aD,List.getElem?_append_right (by exact aq (.c .p .q (.l .p .q)) rfl fO),fO,Nat.sub_self];rfl
 have p2:(pendingOf st)[i+1]?=some (bu+na,nb,zL):=by
  rw[←Array.getElem?_toList,aD,List.getElem?_append_right (by exact aq (.c .p .q (.l .p (.b .q))) rfl fO),fO,show i+1-i=1 by exact Nat.le_antisymm (aq (.c (.a .p .q) (.b .q) (.l .p .o)) rfl (Nat.sub_add_cancel (aI (.l .p (.b .p)) rfl))) (aq (.a (.b .q) (.a .p .q) (.l .o .p)) rfl (b5 (_+(1:Nat)) _))];rfl
 refine QG O g6.kind (g6.all aM) g6.failed gq p2 rfl eB iS (by rw[g6.size];exact ck (.a .t .s (.a (.a (.a (.a .p .q) .r) (.v 5)) .t (.l (.a (.a .p .q) .r) .s))) rfl [_,_,_,_,_,_] [] qJ aU) s1 s2 fun ao lu aQ hs=>?_
 have ep:(pendingOf ao).toList=(pendingOf st).toList.take i++(bu,na+nb,mj)::post:=by
  rw[aQ];have:=QJ ((pendingOf st).toList.take i) post (bu,na,mj) (bu+na,nb,zL) (bu,na+nb,mj) (pendingOf st) aD;rw[fO]at this;exact this
 refine h ao (g6.lu lu) ?_ ?_ fun k aK=>lu.same k (.inr (by exact ck (.a (.a (.a (.a .p .q) .r) .t) (.v 5) (.a (.v 5) .s (.l (.a (.a .p .q) .r) .s))) rfl [_,_,_,_,_,_] [] aU aK))
 ·rw[ep];refine Runs.append.mpr ⟨bu,j2.same fun k Y af=>lu.same k (.inl af),rfl,by exact aq (.a .o .p (.l .o (.a .p .q))) rfl eB,by rw[←Nat.add_assoc];exact hs,?_⟩;rw[←Nat.add_assoc];exact e7.same fun k ae Y=>lu.same k (.inr ae)
 ·have cO:(pendingOf ao).size=i+(post.length+1):=by rw[←Array.length_toList,ep,List.length_append,fO];rfl
  have cQ:(pendingOf st).size=i+(post.length+2):=by rw[←Array.length_toList,aD,List.length_append,fO];rfl
  exact Nat.le_antisymm (bA (.c .p (.a .r (.b .s)) (.i (-1) (.e .q (.a .r (.a .s (.k 2)))) (.l (.b .p) .q))) rfl cO cQ) (bA (.i (-1) (.e .q (.a .r (.b .s))) (.c .p (.a .r (.a .s (.k 2))) (.l .p (.b .q)))) rfl cO cQ)
noncomputable def Dd:∀Y:Nat,∀Y:Nat,∀Y:Nat,Nat:=sortPriv% PySem.Builtin.minRun
noncomputable def zP:∀Y:Nat,∀Y:Nat,∀Y:Nat,∀Y:Nat,Nat:=sortPriv% PySem.Builtin.power
noncomputable def IS:StateT SortSt Sem Unit:=sortPriv% PySem.Builtin.sortRuns
theorem QK:IS=(do
 let size:=(arrOf (←get)).size
 let IT:=Dd size size 0
 let mut lo:=0
 for _ in [0:size] do
  if lo≥size then break
  let some found ←countRun' lo (size-lo)|return
  let mut n:=found
  if n<IT then
   rule "list.sort.binary-insertion"
   let IU:=min (size-lo) IT
   if !(←binarySort' lo IU n)then return
   n:=IU
  if let some (s1,eB,_):=(pendingOf (←get)).back? then
   let mj:=zP size (2*s1+eB) (2*s1+eB+eB+n) size
   for _ in [0:size] do
    let p:=pendingOf (←get)
    let some (_,_,zQ):=(if p.size>1 then p[p.size-2]? else none)|break
    if zQ≤mj then break
    if !(←mergeAt' (p.size-2))then return
   modify fun s=>setPending s ((pendingOf s).modify ((pendingOf s).size-1) fun(st,len,_)=>(st,len,mj))
  modify fun s=>setPending s ((pendingOf s).push (lo,n,0))
  lo:=lo+n
 for _ in [0:size] do
  let p:=pendingOf (←get)
  if p.size≤1 then break
  let i:=p.size-2
  let before:=if i>0 then p[i-1]?.map (·.2.1)else none
  let i:=if before.any (·<(p[i+1]?.elim 0 (·.2.1)))then i-1 else i
  if !(←mergeAt' i)then return):=rfl
theorem QL(l:List (Nat×Nat×Nat))(i:Nat)(f:∀Y:Nat×Nat×Nat,Nat×Nat×Nat) (bq:∀x,((f x).1,(f x).2.1)=(x.1,x.2.1)):(l.modify i f).map (fun x=>(x.1,x.2.1))=l.map fun x=>(x.1,x.2.1):=by
 apply List.ext_getElem?;intro j;simp only[List.getElem?_map,List.getElem?_modify];cases l[j]? with
 |none=>split<;>rfl
 |some x=>
  split
  ·exact congrArg some (bq x)
  ·rfl
theorem Runs.congr{xs:Array Keyed}:∀{l ia:List (Nat×Nat×Nat)}{lo hi:Nat},∀Y:Runs O xs l lo hi,∀Y:l.map (fun x=>(x.1,x.2.1))=ia.map (fun x=>(x.1,x.2.1)),Runs O xs ia lo hi
 |[],[],_,_,h,_=>h
 |[],_::_,_,_,_,e=>by simp at e
 |_::_,[],_,_,_,e=>by simp at e
 |(s,n,p)::r,(s',yS,fb)::c5,lo,hi,h,e=>by
  simp only[List.map_cons,List.cons.injEq,Prod.mk.injEq]at e;refine ar ?_ e;clear e;refine ar ?_;rintro rfl rfl;intro e;refine cI ?_ h;clear h;intro ae af aH bX;exact⟨ae,af,aH,Runs.congr bX e⟩
noncomputable def IV(size lo n:Nat):StateT SortSt Sem (ForInStep (Option Unit×Nat)):=do
 let st ←get
 match (pendingOf st).back? with
 |some (s1,eB,_)=>do
  let r ←forIn [:size] ((none,()):Option Unit×Unit) fun Y Y=>do
   let st ←get
   match (if(pendingOf st).size>1 then(pendingOf st)[(pendingOf st).size-2]? else none)with
   |some (_,_,zQ)=>if zQ≤zP size (2*s1+eB) (2*s1+eB+eB+n) size then pure (.done (none,()))else do
    let b ←mergeAt' ((pendingOf st).size-2)
    if(!b)=true then pure (.done (some (),()))else pure (.yield (none,()))
   |_=>pure (.done (none,()))
  match r.1 with
  |some r=>pure (.done (some r,lo))
  |none=>do
   modify fun s=>setPending s ((pendingOf s).modify ((pendingOf s).size-1) fun x=>(x.1,x.2.1,zP size (2*s1+eB) (2*s1+eB+eB+n) size))
   modify fun s=>setPending s ((pendingOf s).push (lo,n,0))
   pure (.yield (none,lo+n))
 |_=>do
  modify fun s=>setPending s ((pendingOf s).push (lo,n,0))
  pure (.yield (none,lo+n))
structure wM(O:Ord prog w A s)(a₀:Array Keyed)(lo m:Nat)(st:SortSt):Prop where
 b:gA O a₀ st
 r:Runs O (arrOf st) (pendingOf st).toList 0 lo
 s:eK O (arrOf st) lo (lo+m)
theorem IW{a₀:Array Keyed}{st:SortSt}{size lo m:Nat}{Q:∀Y:ForInStep (Option Unit×Nat),∀Y:SortSt,Prop} (aM:∀p∈a₀.toList,O.mem p) (dj:wM O a₀ lo m st) (hm:1≤m) (aD:lo≤a₀.size)
 (h:∀ao,∀Y:gA O a₀ ao,∀Y:Runs O (arrOf ao) (pendingOf ao).toList 0 (lo+m),Q (.yield (none,lo+m)) ao):b4 prog w A s (IV size lo m) Q st:=by
 have fin:∀wN,∀Y:wM O a₀ lo m wN,b4 prog w A s (do
  modify fun s=>setPending s ((pendingOf s).push (lo,m,0))
  pure (ForInStep.yield (none,lo+m))) Q wN:=fun wN x=>by
  refine bY (pO (cR (h _ ⟨x.b.perm,x.b.kind,x.b.failed⟩ ?_)));show Runs O (arrOf wN) ((pendingOf wN).push (lo,m,0)).toList 0 (lo+m);rw[Array.toList_push];exact Runs.append.mpr ⟨lo,x.r,rfl,hm,x.s,rfl⟩
 unfold IV;refine bY (oz ?_);cases(pendingOf st).back? with
 |none=>exact fin st dj
 |some y=>
  obtain⟨s1,eB,XU⟩:=y;dsimp only;generalize zP size (2*s1+eB) (2*s1+eB+eB+m) size=mj;refine bY (gp (l5 (I:=fun Y c ao=>c=(none,())∧wM O a₀ lo m ao) (Q:=fun c ao=>c=(none,())∧wM O a₀ lo m ao) ?_ (fun Y Y q=>q) ⟨rfl,dj⟩) ?_)
  ·intro z c ao _ _;refine ar ?_;rintro rfl x;refine bY (oz ?_);by_cases b8:(pendingOf ao).size>1
   ·rw[if_pos b8,getElem?_pos (pendingOf ao) ((pendingOf ao).size-2) (by exact aq (.c (.a .p (.k 2)) .q (.t .p .q)) rfl (Nat.sub_add_cancel (aI (.b .o .p (.l (.k 2) .p)) rfl b8)))];generalize (pendingOf ao)[(pendingOf ao).size-2]=y;obtain⟨pW,kI,zQ⟩:=y;dsimp only
    split
    ·exact cR ⟨rfl,x⟩
    ·refine bY (IP aM x.b x.r aD (by exact aq (.c (.a .p (.k 2)) .q (.t (.b .p) .q)) rfl (Nat.sub_add_cancel (aI (.b .o .p (.l (.k 2) .p)) rfl b8))) fun QM mi vD Y nu=>cR ⟨rfl,mi,vD,fun i j ae af aH=>?_⟩);rw[nu i ae,nu j (Nat.le_trans ae af)];exact x.s i j ae af aH
   ·rw[if_neg b8];exact cR ⟨rfl,x⟩
  ·intro c ao;refine ar ?_;rintro rfl x;refine bY (pO (fin _ ⟨⟨x.b.perm,x.b.kind,x.b.failed⟩,x.r.congr ?_,x.s⟩));show(pendingOf ao).toList.map _=((pendingOf ao).modify _ _).toList.map _;rw[Array.toList_modify];exact Eq.symm (QL _ _ _ fun Y=>rfl)
theorem gA.IX{a₀:Array Keyed}{st ao:SortSt}{lo hi m:Nat}(b:gA O a₀ st)(x:Rel st ao lo hi)(r:Runs O (arrOf st) (pendingOf st).toList 0 lo)(hs:eK O (arrOf ao) lo (lo+m)):wM O a₀ lo m ao:=by
 refine⟨b.rel x,?_,hs⟩;refine aj ?_ x;clear x;intro xs;refine aY ?_;rintro rfl _ q;exact r.same fun k Y aK=>q k (.inl aK)
noncomputable def De(O:Ord prog w A s)(a₀:Array Keyed)(x:Nat)(c:Option Unit×Nat)(ao:SortSt):Prop:=∃lo,c=(none,lo)∧gA O a₀ ao∧Runs O (arrOf ao) (pendingOf ao).toList 0 lo∧lo≤a₀.size∧x≤lo
noncomputable def Df(O:Ord prog w A s)(a₀:Array Keyed)(c:Option Unit×Nat)(ao:SortSt):Prop:=c.1=none∧gA O a₀ ao∧Runs O (arrOf ao) (pendingOf ao).toList 0 a₀.size
theorem IY{a₀:Array Keyed}{kJ:SortSt}{Q:∀Y:Unit,∀Y:SortSt,Prop} (aM:∀p∈a₀.toList,O.mem p) (g6:gA O a₀ kJ) (aQ:pendingOf kJ=#[]) (h:∀ao,∀Y:gA O a₀ ao,∀Y:eK O (arrOf ao) 0 a₀.size,Q () ao):b4 prog w A s IS Q kJ:=by
 rw[QK];refine bY (oz ?_)
 try dsimp only
 have c8:=g6.size;refine bY (gp (l5 (I:=De O a₀) (Q:=Df O a₀) ?step ?fin ⟨0,rfl,g6,by rw[aQ];rfl,Nat.zero_le _,Nat.le_refl _⟩) ?post)
 case fin=>
  intro c ao;refine aj ?_;intro lo;refine eY ?_;rintro rfl b r ae af;have:lo=a₀.size:=by exact Nat.le_antisymm (aq (.a .p .q (.l .p .q)) rfl ae) (bA (.i (-1) (.e .r .p) (.a .s .q (.a .r .s (.l .p .q)))) rfl c8 af (Nat.le_max_right (0:Nat) _))
  subst this;exact⟨rfl,b,r⟩
 case step=>
  intro x c ao _ ai;refine aj ?_;intro lo;refine eY ?_;rintro rfl sI wO ae af
  try dsimp only
  by_cases d5:lo≥(arrOf kJ).size
  ·rw[if_pos d5];have:lo=a₀.size:=by exact Nat.le_antisymm (aq (.a .p .q (.l .p .q)) rfl ae) (aA (.i (-1) (.e .r .p) (.a .r .q (.l .p .q))) rfl c8 d5)
   subst this;exact cR ⟨rfl,sI,wO⟩
  ·rw[if_neg d5];have zR:=sI.size;refine bY (Qv O sI.kind (sI.all aM) (by exact cB (.c .s .t (.i (-1) (.e .r .t) (.c (.a .q .p) .s (.l (.a .p .q) .r)))) rfl c8 zR (Nat.sub_add_cancel (aq (.n (.l .q .p) (.l .p .q)) rfl d5))) (by exact aA (.n (.l .q .r) (.a .q (.a .p .r) (.l .o .p))) rfl d5 (b5 _ _)) fun m iX e7 f3 f5 s2=>?_)
   try dsimp only
   have uq:=sI.IX e7 wO s2;by_cases bC:m<Dd (arrOf kJ).size (arrOf kJ).size 0
   ·rw[if_pos bC];generalize Dd (arrOf kJ).size (arrOf kJ).size 0=XV at bC ⊢;refine bY (t9 (bY (Qy O uq.b.kind (uq.b.all aM) (by rw[uq.b.size];exact(Nat.le_total _ _).elim (fun ay=>cB (.c .s .r (.c (.a .t .p) .s (.a .q .t (.l (.a .p .q) .r)))) rfl c8 (Nat.sub_add_cancel ay) (Nat.min_le_left (_-_) _)) (fun aE=>(aq (.a .o .p (.a .p .q (.c .q .z .f))) rfl f3 f5 (Nat.sub_eq_zero_of_le aE):False).elim)) s2 fun XW vC fF=>?_)));rw[if_neg (show¬(!true)=true from Bool.false_ne_true)];exact cast (by kernel_rfl) (IW (size:=(arrOf kJ).size) (Q:=ua (Df O a₀) (De O a₀ (x+1))) aM (uq.b.IX vC uq.r fF) (by exact(Nat.le_total _ _).elim (fun ay=>(Nat.le_total (_-_) _).elim (fun aE=>aA (.a .o .q (.a .q .r (.i (-1) (.e .p .r) (.l .o .p)))) rfl f3 f5 (Nat.min_eq_left aE)) (fun bI=>aA (.b .q .r (.i (-1) (.e .p .r) (.l .o .p))) rfl bC (Nat.min_eq_right bI))) (fun cM=>aA (.a .o .q (.a .q .r (.c .r .z (.l .o .p)))) rfl f3 f5 (Nat.sub_eq_zero_of_le cM))) ae fun ao b r=>⟨_,rfl,b,r,by exact(Nat.le_total _ _).elim (fun ay=>cB (.c .s .r (.c (.a .t .p) .s (.a .q .t (.l (.a .p .q) .r)))) rfl c8 (Nat.sub_add_cancel ay) (Nat.min_le_left (_-_) _)) (fun aE=>(aq (.a .o .p (.a .p .q (.c .q .z .f))) rfl f3 f5 (Nat.sub_eq_zero_of_le aE):False).elim),by exact(Nat.le_total _ _).elim (fun ay=>(Nat.le_total (_-_) _).elim (fun aE=>cB (.a .p .q (.a .o .s (.a .s .t (.i (-1) (.e .r .t) (.l (.b .p) (.a .q .r)))))) rfl af f3 f5 (Nat.min_eq_left aE)) (fun bI=>cB (.a .p .q (.b .s .t (.i (-1) (.e .r .t) (.l (.b .p) (.a .q .r))))) rfl af bC (Nat.min_eq_right bI))) (fun cM=>cB (.a .p .q (.a .o .s (.a .s .t (.c .t .z (.l (.b .p) (.a .q .r)))))) rfl af f3 f5 (Nat.sub_eq_zero_of_le cM))⟩)
   ·rw[if_neg bC];exact cast (by kernel_rfl) (IW (size:=(arrOf kJ).size) (Q:=ua (Df O a₀) (De O a₀ (x+1))) aM uq f3 ae fun ao b r=>⟨_,rfl,b,r,by exact(Nat.le_total _ _).elim (fun ay=>cB (.c .s .r (.a .q .t (.c (.a .t .p) .s (.l (.a .p .q) .r)))) rfl c8 f5 (Nat.sub_add_cancel ay)) (fun aE=>(aq (.a .o .p (.a .p .q (.c .q .z .f))) rfl f3 f5 (Nat.sub_eq_zero_of_le aE):False).elim),by exact aA (.a .p .q (.a .o .r (.l (.b .p) (.a .q .r)))) rfl af f3⟩)
 case post=>
  intro c ao;refine aY ?_;intro aG sI wO
  try dsimp only
  rw[aG]
  try dsimp only
  have aD:=wO.le;rw[Array.length_toList]at aD
  refine bY (gp (l5 (I:=fun x c ao=>c=(none,())∧gA O a₀ ao∧Runs O (arrOf ao) (pendingOf ao).toList 0 a₀.size∧((pendingOf ao).size≤1∨x+(pendingOf ao).size≤a₀.size))
   (Q:=fun c ao=>c=(none,())∧gA O a₀ ao∧Runs O (arrOf ao) (pendingOf ao).toList 0 a₀.size∧(pendingOf ao).size≤1) ?s2 ?f2 ⟨rfl,sI,wO,.inr (by exact aq (.a (.a .z .p) .q (.l (.a .z .p) .q)) rfl aD)⟩) ?p2)
  case f2=>
   intro c ao;refine cI ?_;intro aG b r aU;exact⟨aG,b,r,by exact aU.elim (fun ay=>aI (.a .p .o (.l .p .o)) rfl ay) (fun aE=>bA (.i (-1) (.e .q .r) (.a (.a .s .p) .r (.a .q .s (.l .p .o)))) rfl c8 aE (Nat.le_max_right (0:Nat) _))⟩
  case s2=>
   intro x c ao _ ai;refine cI ?_;rintro rfl b r aU
   try dsimp only
   refine bY (oz ?_);by_cases hle:(pendingOf ao).size≤1
   ·rw[if_pos hle];exact cR ⟨rfl,b,r,hle⟩
   ·rw[if_neg hle];refine bY (IP aM b r (Nat.le_refl _) ?_ fun QM mi vD fv Y=>cR ⟨rfl,mi,vD,.inr (by exact aU.elim (fun ay=>(aI (.n (.l .p .o) (.a .p .o .f)) rfl hle ay:False).elim) (fun aE=>bA (.c (.b .q) .s (.a (.a .p .s) .r (.l (.a (.b .p) .q) .r))) rfl fv aE))⟩);generalize Option.any _ _=QN;cases QN<;>simp<;>lia
  case p2=>
   intro c ao;refine cI ?_;rintro rfl b r aU;refine cR (h ao b ?_);cases bb:(pendingOf ao).toList with
   |nil=>
    rw[bb]at r;have c5:0=a₀.size:=r;intro i j _ _ aP;exact(aq (.i (-1) (.e .z .p) (.b .q .p .f)) rfl c5 aP:False).elim
   |cons y l=>
    cases l with
    |nil=>
     rw[bb]at r;obtain⟨s1,eB,gq⟩:=y;refine cI ?_ r;clear r;intro _ _ hs he;have pD:0+eB=a₀.size:=he;rw[←pD];exact hs
    |cons z l=>
     have:(pendingOf ao).toList.length≤1:=by rw[Array.length_toList];exact aU
     rw[bb]at this;simp at this
end
end Mine
end
section
namespace Mine
noncomputable def gr:∀Y:List Int,∀Y:List Int,Bool
 |[],[]=>false
 |[],_::_=>true
 |_::_,[]=>false
 |x::xs,y::ys=>if x=y then gr xs ys else decide (x<y)
theorem sJ{x y:Int}{xs ys:List Int}:gr (x::xs) (y::ys)=if x=y then gr xs ys else decide (x<y):=rfl
theorem Dg(a:List Int):gr a a=false:=by
 induction a with
 |nil=>rfl
 |cons x r ih=>rw[sJ,if_pos rfl];exact ih
theorem Dh:∀a b c,∀Y:gr a b=true,∀Y:gr b c=true,gr a c=true
 |[],[],_,h,_=>by cases h
 |[],_::_,[],_,h=>by cases h
 |[],_::_,_::_,_,_=>rfl
 |_::_,[],_,h,_=>by cases h
 |_::_,_::_,[],_,h=>by cases h
 |x::xs,y::ys,z::zs,ae,af=>by
  have ih:=Dh xs ys zs;rw[sJ]at ae af ⊢;by_cases aS:x=y
  ·subst aS;rw[if_pos rfl]at ae;by_cases aW:x=z
   ·subst aW;rw[if_pos rfl]at af ⊢;exact ih ae af
   ·rw[if_neg aW]at af ⊢;exact af
  ·rw[if_neg aS]at ae;by_cases aW:y=z
   ·subst aW;rw[if_neg aS];exact ae
   ·rw[if_neg aW]at af;have aH:=of_decide_eq_true ae;have bX:=of_decide_eq_true af;rw[if_neg (by lia)];exact decide_eq_true (by lia)
theorem Di:∀a b c,∀Y:gr a c=true,gr a b=true∨gr b c=true
 |[],_,[],h=>by cases h
 |[],[],_::_,_=>.inr rfl
 |[],_::_,_::_,_=>.inl rfl
 |_::_,_,[],h=>by cases h
 |_::_,[],_::_,_=>.inr rfl
 |x::xs,y::ys,z::zs,h=>by
  have ih:=Di xs ys zs;rw[sJ]at h;rw[sJ,sJ];by_cases aS:x=z
  ·subst aS;rw[if_pos rfl]at h;by_cases aW:x=y
   ·subst aW;rw[if_pos rfl,if_pos rfl];exact ih h
   ·rw[if_neg aW,if_neg (Ne.symm aW)];rcases Int.lt_or_gt_of_ne aW with q|q
    ·exact .inl (decide_eq_true q)
    ·exact .inr (decide_eq_true q)
  ·rw[if_neg aS]at h;have aH:=of_decide_eq_true h;by_cases aW:x=y
   ·subst aW;right;rw[if_neg aS];exact h
   ·rw[if_neg aW];by_cases cz:y=z
    ·subst cz;left;exact h
    ·rw[if_neg cz];by_cases q:x<y
     ·exact .inl (decide_eq_true q)
     ·exact .inr (decide_eq_true (by lia))
theorem zS:∀a b,∀Y:gr a b=false,∀Y:gr b a=false,a=b
 |[],[],_,_=>rfl
 |[],_::_,h,_=>by cases h
 |_::_,[],_,h=>by cases h
 |x::xs,y::ys,ae,af=>by
  rw[sJ]at ae af;by_cases e:x=y
  ·subst e;rw[if_pos rfl]at ae af;rw[zS xs ys ae af]
  ·rw[if_neg e]at ae;rw[if_neg (Ne.symm e)]at af;have aH:=of_decide_eq_false ae;have bX:=of_decide_eq_false af
   lia
noncomputable def ur:KeyOrd where
 α:=Int
 blt:=fun a b=>decide (a<b)
 irrefl:=fun a=>by simp
 trans:=fun a b c ae af=>by simp at*;exact yd (.B .p .r (.B .r .q (.T .p .q))) rfl ae af
 negTrans:=fun a b c h=>by simp at*;exact MX h
 total:=fun a b ae af=>by simp at*;exact Int.le_antisymm (nV (.A .p .q (.L .p .q)) rfl af) (nV (.A .p .q (.L .p .q)) rfl ae)
noncomputable def lexOrd:KeyOrd:=⟨List Int,gr,Dg,Dh,Di,zS⟩
noncomputable def oK:KeyOrd where
 α:=List Int
 blt:=fun a b=>if a.length=b.length then gr a b else decide (a.length<b.length)
 irrefl:=fun a=>by simp[Dg]
 trans:=fun a b c ae af=>by
  by_cases aS:a.length=b.length
  ·rw[if_pos aS]at ae;by_cases aW:b.length=c.length
   ·rw[if_pos aW]at af;rw[if_pos (aS.trans aW)];exact Dh _ _ _ ae af
   ·rw[if_neg aW]at af;rw[if_neg (by lia)];simp at*;exact aA (.c .p .r (.b .r .q (.t .p .q))) rfl aS af
  ·rw[if_neg aS]at ae;by_cases aW:b.length=c.length
   ·rw[if_neg (by lia)];simp at*;exact aA (.c .r .q (.b .p .r (.t .p .q))) rfl aW ae
   ·rw[if_neg aW]at af;simp at ae af;rw[if_neg (by exact fun ay=>aA (.b .p .q (.b .q .r (.i (-1) (.e .p .r) (.F 1)))) rfl ae af ay)];simp;exact aA (.b .p .r (.b .r .q (.t .p .q))) rfl ae af
 negTrans:=fun a b c h=>by
  by_cases aS:a.length=c.length
  ·rw[if_pos aS]at h;by_cases aW:a.length=b.length
   ·rw[if_pos aW,if_pos (by exact Nat.le_antisymm (aA (.c .r .q (.i (-1) (.e .r .p) (.l .p .q))) rfl aS aW) (aA (.i (-1) (.e .r .p) (.c .r .q (.l .p .q))) rfl aS aW))];exact Di _ _ _ h
   ·rw[if_neg aW,if_neg (by exact fun ay=>(Nat.lt_or_gt_of_ne aW).elim (fun aE=>aA (.i (-1) (.e .p .q) (.c .r .q (.b .p .r .f))) rfl aS ay aE) (fun bI=>aA (.c .p .q (.i (-1) (.e .r .q) (.b .r .p .f))) rfl aS ay bI))];simp;exact MY aS aW
  ·rw[if_neg aS]at h;simp at h;by_cases aW:a.length=b.length
   ·right;rw[if_neg (by exact fun ay=>aA (.b .p .q (.i (-1) (.e .p .r) (.i (-1) (.e .r .q) .f))) rfl h aW ay)];simp;exact aA (.b .r .q (.i (-1) (.e .r .p) (.t .p .q))) rfl h aW
   ·by_cases cz:b.length=c.length
    ·left;rw[if_neg aW];simp;exact aA (.b .p .r (.i (-1) (.e .q .r) (.t .p .q))) rfl h cz
    ·rw[if_neg aW,if_neg cz];simp;exact MZ h
 total:=fun a b ae af=>by
  by_cases e:a.length=b.length
  ·rw[if_pos e]at ae;rw[if_pos e.symm]at af;exact zS _ _ ae af
  ·rw[if_neg e]at ae;rw[if_neg (Ne.symm e)]at af;simp at ae af;exact((Nat.lt_or_gt_of_ne e).elim (fun ay=>aq (.a .p .q (.b .q .p .f)) rfl ae ay) (fun aE=>aq (.a .p .q (.b .q .p .f)) rfl af aE):False).elim
noncomputable def qS:∀Y:List Int,∀Y:List Int,Option Bool
 |x::xs,y::ys=>if x=y then qS xs ys else some (decide (x<y))
 |_,_=>none
theorem wQ{x y:Int}{xs ys:List Int}:qS (x::xs) (y::ys)=if x=y then qS xs ys else some (decide (x<y)):=rfl
theorem IZ(a:List Int):∀b,gr a b=(qS a b).getD (decide (a.length<b.length)):=by
 induction a with
 |nil=>intro b;cases b with
  |nil=>rfl
  |cons y ys=>exact(decide_eq_true (Nat.succ_pos ys.length)).symm
 |cons x xs ih=>intro b;cases b with
  |nil=>exact(decide_eq_false (Nat.not_lt_zero (x::xs).length)).symm
  |cons y ys=>
   rw[sJ,wQ];by_cases e:x=y
   ·rw[if_pos e,if_pos e,ih ys,List.length_cons,List.length_cons];simp
   ·rw[if_neg e,if_neg e];rfl
section
variable{prog:Program}{w:World}{A:Around}{s:Shared}
theorem I0{a b:Int}{t u:Tok}{F:∀Y:Value,∀Y:Shared,Prop} (h:F (.bool (decide (a<b))) s):wpAny (model prog w) A (richCompare .Lt (.int a t) (.int b u)) F bo s:=
 (PySem.P.lt_int h:wpAny (model prog w) A (compareOp .Lt (.int a t) (.int b u)) F bo s)
theorem QO{β:Type}{g:∀Y:Bool,β} {f:∀Y:Value×Value,∀Y:Option β×Unit,Sem (ForInStep (Option β×Unit))}
 (ae:∀n t u c(F:∀Y:ForInStep (Option β×Unit),∀Y:Shared,Prop),∀Y:F (.yield (none,())) s,wpAny (model prog w) A (f (.int n t,.int n u) c) F bo s)
 (af:∀n m t u c(F:∀Y:ForInStep (Option β×Unit),∀Y:Shared,Prop),∀Y:n≠m,∀Y:F (.done (some (g (decide (n<m))),())) s,wpAny (model prog w) A (f (.int n t,.int m u) c) F bo s):
 ∀{vs us:List Value}{ns ms:List Int},∀Y:IntsAre vs ns,∀Y:IntsAre us ms,
  wpAny (model prog w) A (forIn (vs.zip us) (none,()) f) (fun c s'=>s'=s∧c=((qS ns ms).map g,())) bo s:=by
 intro vs us ns ms aO dQ
 induction aO generalizing us ms with
 |nil=>
  show wpAny _ _ (forIn [] (none,()) f) _ _ _;rw[List.forIn_nil];exact wpAny_pure ⟨rfl,by cases ms<;>rfl⟩
 |@cons n t vs' jS aC ih=>
  cases dQ with
  |nil=>
   show wpAny _ _ (forIn [] (none,()) f) _ _ _;rw[List.forIn_nil];exact wpAny_pure ⟨rfl,rfl⟩
  |@cons m u sK QP j6=>
   rw[List.zip_cons_cons,List.forIn_cons];by_cases e:n=m
   ·subst e;refine wpAny_bind (ae _ _ _ _ _ ?_);exact wpAny_mono (ih j6) (fun c s' aG=>⟨aG.1,by rw[aG.2,wQ,if_pos rfl]⟩) fun Y Y x=>x
   ·refine wpAny_bind (af _ _ _ _ _ _ e (wpAny_pure ⟨rfl,by rw[wQ,if_neg e];rfl⟩))
noncomputable def gO(h:Heap)(v:Value)(ns:List Int):Prop:=∃a items n,v=.ref a∧IsT h a items n∧IntsAre items.toList ns
theorem gO.key{h:Heap}{a:Addr}{ns:List Int}(x:gO h (.ref a) ns):IsTupleKey (intKind prog w) h ns a:=by
 refine bG ?_ x;clear x;intro r6 items n;refine aY ?_;intro e bf aC;cases e
 refine⟨_,items,n,bf,rfl,rfl,?_⟩;generalize items.toList=l at aC;clear bf
 induction aC with
 |nil=>exact .nil
 |cons n t _ ih=>exact .cons (by simp[intKind,Value.isInt]) ih
theorem QQ{x y:List Int}{a b:Addr}{P:∀Y:Fin,∀Y:Shared,Prop} (ai:gO s.heap (.ref a) x) (au:gO s.heap (.ref b) y) (h:P (.done (.ret (.bool (gr x y)))) s):
 wpAny (model prog w) A (Builtin.«tuple.__lt__» ⟨[.ref a,.ref b],[]⟩) P bo s:=by
 refine bG ?_ ai;clear ai;intro _ xs na;refine aY ?_;intro e qT eN;cases e
 refine bG ?_ au;clear au;intro _ ys nb;refine aY ?_;intro e oM mO;cases e
 show wpAny _ _ (isInstance (.ref b) (.type "tuple")>>=_) _ _ s;refine wpAny_bind (wpAny_isInstance (T:="tuple") ⟨_,oM,rfl⟩ isSubtype_tuple_tuple ?_);rw[if_neg (by decide)];refine wpAny_bind (wpAny_tupleItemsOf qT rfl ?_);refine wpAny_bind (wpAny_tupleItemsOf oM rfl ?_);refine wpAny_bind (wpAny_mono (QO (g:=fun b=>(Fin.done (.ret (.bool b)):Fin)) (fun n t u c F bD=>?_) (fun n m t u c F cP bD=>?_) eN mO) (fun c s' aG=>?_) fun Y Y x=>x)
 ·refine wpAny_bind (wpAny_eqBool_int ?_);rw[if_neg (by rw[beq_self_eq_true];decide)];exact wpAny_pure bD
 ·refine wpAny_bind (wpAny_eqBool_int ?_);rw[if_pos (by rw[beq_eq_false_iff_ne.mpr cP];decide)];exact wpAny_bind (wpAny_rule (wpAny_bind (I0 (wpAny_bind (wpAny_pure (wpAny_pure bD))))))
 ·refine ar ?_ aG;clear aG;rintro rfl rfl;rw[IZ]at h;cases e:qS x y with
  |some b=>rw[e]at h;exact wpAny_pure h
  |none=>
   rw[e]at h;refine wpAny_pure ?_;have ae:=eN.length;have af:=mO.length;rw[Array.length_toList]at ae af;show P (.done (.ret (.bool (decide (xs.size<ys.size))))) s';rw[ae,af];exact h
theorem QR{x y:List Int}{u v:Value}{F:∀Y:Value,∀Y:Shared,Prop} (dQ:A.units<cLine) (ai:gO s.heap u x) (au:gO s.heap v y) (h:F (.bool (gr x y)) s):wpAny (model prog w) A (richCompare .Lt u v) F bo s:=by
 refine bG ?_ (id ai);intro a xs na;refine aY ?_;rintro rfl qT eN;refine bG ?_ (id au);intro b ys nb;refine aY ?_;rintro rfl oM mO;refine wpAny_richCompare_same_room (T:="tuple") ⟨_,qT,rfl⟩ ⟨_,oM,rfl⟩ PySem.F.slot_tuple_lt (wpAny_call_entry PySem.F.slot_tuple_lt ⟨_,qT,rfl⟩ PySem.F.entry_tuple_lt (QQ ai au ⟨_,rfl,?_⟩) (PySem.F.args_tuple_lt_2 _ _)) dQ;exact⟨(fun q=>nomatch q),h⟩
noncomputable abbrev qU(b:Bool):SortKind:=tuples' b
theorem I1(x y:Value):oneLt' false x y=(do truthOfDropped (←richCompare .Lt x y)):=rfl
theorem Dj{b:Bool}{n m:Int}{t u:Tok}{F:∀Y:Bool,∀Y:Shared,Prop} (h:F (decide (n<m)) s):wpAny (model prog w) A (oneLt' b (.int n t) (.int m u)) F bo s:=by
 cases b with
 |true=>exact oneLt_int h
 |false=>
  rw[I1];exact wpAny_bind (I0 (wpAny_truthy_bool h))
theorem QS{x y:List Int}{u v:Value}{F:∀Y:Bool,∀Y:Shared,Prop} (dQ:A.units<cLine) (ai:gO s.heap u x) (au:gO s.heap v y) (h:F (gr x y) s):wpAny (model prog w) A (oneLt' false u v) F bo s:=by
 rw[I1];exact wpAny_bind (QR dQ ai au (wpAny_truthy_bool h))
theorem QT{x y:List Int}{u v:Value}{F:∀Y:Bool,∀Y:Shared,Prop} (dQ:A.units<cLine) (ai:gO s.heap u x) (au:gO s.heap v y) (h:F (decide (x=y)) s):wpAny (model prog w) A (eqBool u v) F bo s:=by
 refine bG ?_ (id ai);intro a _ _;refine ar ?_;rintro rfl _;refine bG ?_ (id au);intro b _ _;refine ar ?_;rintro rfl _;exact wpAny_eqBool_tuple (knd:=intKind prog w) dQ ai.key au.key h
theorem I2(f:Bool)(x y:Value):keyLt' (qU f) x y=(do
 let xs ←Builtin.List.listItems x;let ys ←Builtin.List.listItems y
 for ((p,q),i)in (xs.toList.zip ys.toList).zipIdx do
  if !(←eqBool p q)then return ←oneLt' (f&&i==0) p q
 return decide (xs.size<ys.size)):=rfl
theorem QU{f:∀Y:(Value×Value)×Nat,∀Y:Option Bool×Unit,Sem (ForInStep (Option Bool×Unit))}
 (ae:∀n t u i c(F:∀Y:ForInStep (Option Bool×Unit),∀Y:Shared,Prop),∀Y:F (.yield (none,())) s,wpAny (model prog w) A (f ((.int n t,.int n u),i) c) F bo s)
 (af:∀n m t u i c(F:∀Y:ForInStep (Option Bool×Unit),∀Y:Shared,Prop),∀Y:n≠m,∀Y:F (.done (some (decide (n<m)),())) s,wpAny (model prog w) A (f ((.int n t,.int m u),i) c) F bo s):
 ∀{vs us:List Value}{ns ms:List Int}(k:Nat),∀Y:IntsAre vs ns,∀Y:IntsAre us ms,
  wpAny (model prog w) A (forIn ((vs.zip us).zipIdx k) (none,()) f) (fun c s'=>s'=s∧c=(qS ns ms,())) bo s:=by
 intro vs us ns ms k aO dQ
 induction aO generalizing us ms k with
 |nil=>
  show wpAny _ _ (forIn [] (none,()) f) _ _ _;rw[List.forIn_nil];exact wpAny_pure ⟨rfl,by cases ms<;>rfl⟩
 |@cons n t vs' jS aC ih=>
  cases dQ with
  |nil=>
   show wpAny _ _ (forIn [] (none,()) f) _ _ _;rw[List.forIn_nil];exact wpAny_pure ⟨rfl,rfl⟩
  |@cons m u sK QP j6=>
   rw[List.zip_cons_cons,List.zipIdx_cons,List.forIn_cons];by_cases e:n=m
   ·subst e;refine wpAny_bind (ae _ _ _ _ _ _ ?_);exact wpAny_mono (ih (k+1) j6) (fun c s' aG=>⟨aG.1,by rw[aG.2,wQ,if_pos rfl]⟩) fun Y Y x=>x
   ·refine wpAny_bind (af _ _ _ _ _ _ _ e (wpAny_pure ⟨rfl,by rw[wQ,if_neg e]⟩))
theorem QV{f:Bool}{x y:List Int}{u v:Value}{F:∀Y:Bool,∀Y:Shared,Prop} (ai:gO s.heap u x) (au:gO s.heap v y) (h:F (gr x y) s):wpAny (model prog w) A (keyLt' (qU f) u v) F bo s:=by
 refine bG ?_ ai;clear ai;intro a xs na;refine aY ?_;rintro rfl qT eN;refine bG ?_ au;clear au;intro b ys nb;refine aY ?_;rintro rfl oM mO;rw[I2];refine wpAny_bind (listItems_at qT rfl (wpAny_bind (listItems_at oM rfl ?_)));refine wpAny_bind (wpAny_mono (QU (fun n t u i c F bD=>?_) (fun n m t u i c F cP bD=>?_) 0 eN mO) (fun c s' aG=>?_) fun Y Y x=>x)
 ·refine wpAny_bind (wpAny_eqBool_int ?_);rw[if_neg (by rw[beq_self_eq_true];decide)];exact wpAny_pure bD
 ·refine wpAny_bind (wpAny_eqBool_int ?_);rw[if_pos (by rw[beq_eq_false_iff_ne.mpr cP];decide)];exact wpAny_bind (Dj (wpAny_pure bD))
 ·refine ar ?_ aG;clear aG;rintro rfl rfl;rw[IZ]at h;have ae:=eN.length;have af:=mO.length;rw[Array.length_toList]at ae af;cases e:qS x y with
  |some b=>rw[e]at h;exact wpAny_pure h
  |none=>rw[e]at h;exact wpAny_pure (by rw[ae,af];exact h)
noncomputable def iY(h:Heap)(v:Value)(ns:List Int):Prop:=∃a u n t m,v=.ref a∧IsT h a #[.int n t,u] m∧n=(ns.length:Int)∧gO h u ns
theorem QW{f:Bool}{x y:List Int}{u v:Value}{F:∀Y:Bool,∀Y:Shared,Prop} (dQ:A.units<cLine) (ai:iY s.heap u x) (au:iY s.heap v y) (h:F (oK.blt x y) s):wpAny (model prog w) A (keyLt' (qU f) u v) F bo s:=by
 refine jt ?_ ai;clear ai;intro a p _ QX na;refine cI ?_;rintro rfl qT rfl eN;refine jt ?_ au;clear au;intro b q _ QY nb;refine cI ?_;rintro rfl oM rfl mO;rw[I2];refine wpAny_bind (listItems_at qT rfl (wpAny_bind (listItems_at oM rfl ?_)));show wpAny _ _ (forIn [((Value.int x.length QX,Value.int y.length QY),0),((p,q),1)] (none,()) _>>=_) _ _ _;refine wpAny_bind ?_;rw[List.forIn_cons];refine wpAny_bind (wpAny_bind (wpAny_eqBool_int ?_));by_cases e:x.length=y.length
 ·rw[if_neg (by rw[e,beq_self_eq_true];decide)];refine wpAny_pure ?_;show wpAny _ _ (forIn [((p,q),1)] (none,()) _) _ _ _;rw[List.forIn_cons];refine wpAny_bind (wpAny_bind (QT dQ eN mO ?_));have av:oK.blt x y=gr x y:=if_pos e;rw[av]at h;by_cases aW:x=y
  ·subst aW;rw[Dg]at h;rw[if_neg (by rw[decide_eq_true rfl];decide)];refine wpAny_pure ?_;show wpAny _ _ (forIn [] (none,()) _) _ _ _;rw[List.forIn_nil];exact wpAny_pure (wpAny_pure h)
  ·rw[if_pos (by rw[decide_eq_false aW];decide)];have cz:(f&&((1:Nat)==0))=false:=Bool.and_false _;rw[cz];exact wpAny_bind (QS dQ eN mO (wpAny_pure (wpAny_pure (wpAny_pure h))))
 ·rw[if_pos (by rw[(beq_eq_false_iff_ne (a:=(x.length:Int)) (b:=(y.length:Int))).mpr fun q=>e (Int.ofNat.inj q)];decide)]
  have av:oK.blt x y=decide ((x.length:Int)<y.length):=by
   show(if x.length=y.length then gr x y else decide (x.length<y.length))=_;rw[if_neg e];simp
  rw[av]at h;exact wpAny_bind (Dj (wpAny_pure (wpAny_pure (wpAny_pure h))))
end
end Mine
end
section
namespace Mine
noncomputable def jT(h:Heap)(a:Addr)(vs:List Value):Heap:=((h.update a (Obj.mapSeq fun Y=>#[])).push (seqObj "tuple" vs.toArray 0)).push (seqObj "list" #[] 0)
section
variable{prog:Program}{w:World}{A:Around}{s:Shared}
theorem QZ{a:Addr}{vs:List Value}{n:Nat}{P:∀Y:Fin,∀Y:Shared,Prop} (bx:s.heap.get? a=some (seqObj "list" vs.toArray n)) (hlen:vs.length≤1000000)
 (O:Ord prog w A {s with heap:=jT s.heap a vs}) (ez:∀p∈(pairsOf vs).toList,O.mem p)
 (eG:∀Y:2≤vs.length,∀{G:∀Y:SortKind,∀Y:Shared,Prop},∀Y:G O.kd {s with heap:=jT s.heap a vs},wpAny (model prog w) A (keyKind' vs.toArray) G bo {s with heap:=jT s.heap a vs})
 (h:∀(xs:Array Keyed) tk,∀Y:xs.Perm (pairsOf vs),∀Y:eK O xs 0 (pairsOf vs).size,P (.done (.ret .none)) {s with heap:=sortedHeap s.heap a vs (xs.map (·.2)),toks:=tk}):
 wpAny (model prog w) A (Builtin.«list.sort» ⟨[.ref a],[]⟩) P bo s:=by
 rw[list_sort_plain];have aJ:a<s.heap.objs.size:=Heap.lt_size bx;have iA:1000000≤sizeLine:=by decide
 refine wpAny_bind (listItems_at bx rfl ?_);refine wpAny_bind (listUpdate_at bx rfl ?_ (by rw[List.size_toArray];exact aq (.a .p (.k 1000000) (.a (.k 1000000) .q (.l .p .q))) rfl hlen iA) (Nat.zero_le _));obtain⟨aS,wR⟩:∃aS,(s.heap.update a (Obj.mapSeq fun Y=>#[])).get? a=some (seqObj "list" #[] aS):=⟨_,get?_update_seq bx (fun Y=>#[])⟩;refine wpAny_bind (seqEpoch_at wR rfl ?_);refine wpAny_bind (wpAny_newTuple ?_ (by show vs.length≤_;exact aq (.a .p (.k 1000000) (.a (.k 1000000) .q (.l .p .q))) rfl hlen iA));refine wpAny_bind (wpAny_newList ?_ (Nat.zero_le _));refine wpAny_holding ?_
 have zT:(jT s.heap a vs).get? a=some (seqObj "list" #[] aS):=by
  unfold jT;rw[Heap.get?_push_ne _ _ _ (by rw[size_push',Heap.size_update];exact Nat.ne_of_lt (Nat.lt_succ_of_lt aJ)),Heap.get?_push_ne _ _ _ (by rw[Heap.size_update];exact Nat.ne_of_lt aJ)];exact wR
 show wpAny (model prog w) A _ P bo {s with heap:=jT s.heap a vs};dsimp only;have c8:vs.toArray.size=vs.length:=by simp
 have fin:=h;by_cases af:vs.toArray.size<2
 ·rw[if_pos af,if_pos af];refine wpAny_bind (wpAny_pure ?_);rw[StateT.run_pure];refine wpAny_bind (wpAny_pure ?_);dsimp only;refine wpAny_bind (seqEpoch_at zT rfl ?_);refine wpAny_bind (listUpdate_at zT rfl ?_ (Nat.zero_le _) (by rw[Array.size_map];show(pairsOf vs).size≤_;rw[pairsOf_size];exact aA (.i (-1) (.e .r .p) (.b .r (.k 2) (.l .p (.b .q)))) rfl c8 af));rw[if_neg (by rw[bne_self_eq_false];decide)];refine wpAny_pure (fin (pairsOf vs) _ (Array.Perm.refl _) ?_);intro i j _ iH aP;have:i=j:=by rw[pairsOf_size]at aP;exact Nat.le_antisymm (aq (.a .p .q (.l .p .q)) rfl iH) (bA (.i (-1) (.e .r .s) (.b .r (.k 2) (.b .p .s (.l .p .q)))) rfl c8 af aP)
  subst this;exact O.le_refl _
 ·rw[if_neg af,if_neg af]
  have Dk:wpAny (model prog w) A ((sortRuns').run (SortSt.mk' O.kd (vs.toArray.zip vs.toArray) #[] 7 none))
   (fun r s'=>(∃gm,s'={s with heap:=jT s.heap a vs,toks:=gm})∧gA O (pairsOf vs) r.2∧eK O (arrOf r.2) 0 (pairsOf vs).size) bo {s with heap:=jT s.heap a vs}:=by
   have:=IY (O:=O) (a₀:=pairsOf vs) (kJ:=SortSt.mk' O.kd (vs.toArray.zip vs.toArray) #[] 7 none) (Q:=fun Y ao=>gA O (pairsOf vs) ao∧eK O (arrOf ao) 0 (pairsOf vs).size)
    ez ⟨Array.Perm.refl _,rfl,rfl⟩ rfl (fun ao b Dl=>⟨b,Dl⟩) s.toks
   exact this
  refine wpAny_bind (eG (by exact aq (.c .q .p (.n (.t .q (.k 2)) (.l (.k 2) .p))) rfl c8 af) ?_);refine wpAny_bind (wpAny_mono Dk ?_ fun Y Y e=>e);rintro⟨⟨⟩,ao⟩ s' ⟨⟨gm,rfl⟩,av,hs⟩;dsimp only at av hs ⊢;refine wpAny_bind (seqEpoch_at zT rfl ?_);refine wpAny_bind (listUpdate_at zT rfl ?_ (Nat.zero_le _) (by refine Nat.le_trans (Nat.le_of_eq ((Array.size_map ..).trans (av.size.trans (pairsOf_size _)))) ?_;exact aq (.i 1000001 (.l .p (.k 1000000)) (.i 1000000 (.l (.k 1000000) .q) (.G 999999 (.l .p (.b .q))))) rfl hlen iA));rw[av.failed];rw[if_neg (by rw[bne_self_eq_false];decide)];exact wpAny_pure (fin (arrOf ao) _ av.perm hs)
noncomputable def jk{α:Type}(lt:∀Y:α,∀Y:α,Bool) (xs ys:List α):Prop:=ys.Perm xs∧ys.Pairwise fun x y=>lt y x=false
theorem I3{O:Ord prog w A s}{xs:Array Keyed}{m:Nat}(hm:xs.size=m)(h:eK O xs 0 m):xs.toList.Pairwise fun p q=>O.κ.blt (O.kf q) (O.kf p)=false:=by
 rw[List.pairwise_iff_getElem];intro i j hi aP iH;have fV:i<xs.size:=by simpa using hi
 have jL:j<xs.size:=by simpa using aP
 have:=h i j (Nat.zero_le _) (Nat.le_of_lt iH) (by exact aA (.c .r .q (.b .p .r (.t .p .q))) rfl hm jL);unfold aN at this;rw[Array.getD_eq_getD_getElem?,Array.getD_eq_getD_getElem?,Array.getElem?_eq_getElem fV,Array.getElem?_eq_getElem jL]at this;simp only[Option.getD_some]at this;exact O.le_iff.mp this
theorem Q0{O:Ord prog w A s}{vs:List Value}{xs:Array Keyed}(aQ:xs.Perm (pairsOf vs))(hs:eK O xs 0 (pairsOf vs).size):
 ∃out:List Value,(xs.map (·.2))=out.toArray∧out.Perm vs∧out.Pairwise fun p q=>O.κ.blt (O.kf (q,q)) (O.kf (p,p))=false:=by
 have aD:xs.toList.Perm (vs.zip vs):=by rw[←pairsOf_toList];exact Array.perm_iff_toList_perm.mp aQ
 have ez:∀p,∀Y:p∈xs.toList,p.1=p.2∧p.1∈vs:=fun p iK=>mem_zip_self (aD.mem_iff.mp iK);have hw:=I3 aQ.size_eq hs;refine⟨xs.toList.map (·.2),by simp[←Array.toList_map],?_,?_⟩
 ·have:=aD.map (·.2)
  rwa [show(vs.zip vs).map (·.2)=vs from List.map_snd_zip (Nat.le_refl _)]at this
 ·rw[List.pairwise_map];refine hw.imp_of_mem fun{p q} ae af h=>?_;have aS:(p.2,p.2)=p:=by obtain⟨a,b⟩:=p;have:=(ez _ ae).1;simp at this;rw[this]
  have aW:(q.2,q.2)=q:=by obtain⟨a,b⟩:=q;have:=(ez _ af).1;simp at this;rw[this]
  rw[aS,aW];exact h
structure sL(prog:Program)(w:World)(A:Around)(aQ:Heap)(κ:KeyOrd)(kd:SortKind)(is:∀Y:Value,∀Y:κ.α,Prop):Prop where
 lt:∀{s:Shared} u v x y(Q:∀Y:Bool,∀Y:Shared,Prop),∀Y:s.heap=aQ,∀Y:is u x,∀Y:is v y,∀Y:Q (κ.blt x y) s,wpAny (model prog w) A (keyLt' kd u v) Q (fun Y Y=>False) s
 uniq:∀u x y,∀Y:is u x,∀Y:is u y,x=y
noncomputable def qV{κ:KeyOrd}{kd:SortKind}{is:∀Y:Value,∀Y:κ.α,Prop} (az:Nonempty κ.α) (K:sL prog w A s.heap κ kd is):Ord prog w A s:=
 ⟨κ,kd,fun p=>@Classical.epsilon _ az (is p.1),fun p=>∃x,is p.1 x,fun p q aQ bb tk Q a7=>by
   refine K.lt p.1 q.1 _ _ Q rfl (Classical.epsilon_spec aQ) (Classical.epsilon_spec bb) (a7 tk)⟩
theorem Dm{κ:KeyOrd}{kd:SortKind}{is:∀Y:Value,∀Y:κ.α,Prop} (az:Nonempty κ.α) (K:sL prog w A s.heap κ kd is) {v u:Value} {x:κ.α} (ai:is v x):(qV az K).kf (v,u)=x:=
 K.uniq v _ _ (Classical.epsilon_spec ⟨x,ai⟩) ai
theorem Q1{a:Addr}{vs:List Value}{n:Nat}{P:∀Y:Fin,∀Y:Shared,Prop} {κ:KeyOrd} {kd:SortKind} {is:∀Y:Value,∀Y:κ.α,Prop} (bx:s.heap.get? a=some (seqObj "list" vs.toArray n)) (hlen:vs.length≤1000000)
 (K:sL prog w A (jT s.heap a vs) κ kd is) (az:Nonempty κ.α) (ez:∀v∈vs,∃x,is v x)
 (eG:∀Y:2≤vs.length,∀{G:∀Y:SortKind,∀Y:Shared,Prop},∀Y:G kd {s with heap:=jT s.heap a vs},wpAny (model prog w) A (keyKind' vs.toArray) G bo {s with heap:=jT s.heap a vs})
 (h:∀(out:List Value) tk,∀Y:out.Perm vs,∀Y:out.Pairwise (fun u v=>∀x y,∀Y:is u x,∀Y:is v y,κ.blt y x=false),P (.done (.ret .none)) {s with heap:=sortedHeap s.heap a vs out.toArray,toks:=tk}):
 wpAny (model prog w) A (Builtin.«list.sort» ⟨[.ref a],[]⟩) P bo s:=by
 refine QZ bx hlen (qV (s:={s with heap:=jT s.heap a vs}) az K) (fun p aQ=>?_) eG fun xs tk aQ hs=>?_
 ·rw[pairsOf_toList]at aQ;obtain⟨gq,p2⟩:=p;have:=mem_zip_self aQ;exact ez _ this.2
 ·refine aj ?_ (Q0 aQ hs);intro out;refine aY ?_;intro e bb hw;rw[e];refine h out tk bb (hw.imp fun{u v} av x y ai au=>?_);have g4:κ.blt ((qV (s:={s with heap:=jT s.heap a vs}) az K).kf (v,v)) ((qV (s:={s with heap:=jT s.heap a vs}) az K).kf (u,u))=false:=av;rw[Dm az K ai,Dm az K au]at g4;exact g4
theorem Q2(u v:Value):keyLt' oneType' u v=oneLt' true u v:=rfl
theorem I4{h:Heap}:sL prog w A h ur oneType' (fun v(n:Int)=>∃t,v=.int n t) where
 lt:=by
  rintro s _ _ x y Q rfl;refine aj ?_;rintro t rfl;refine aj ?_;rintro e8 rfl;intro bb;rw[Q2];exact wpAny_mono (Dj (F:=Q) bb) (fun Y Y z=>z) fun Y Y z=>z
 uniq:=by
  intro u x y;refine aj ?_;rintro t rfl;refine aj ?_;intro e8 e;cases e;rfl
theorem gO.uniq{h:Heap}{v:Value}{x y:List Int}(ai:gO h v x)(au:gO h v y):x=y:=by
 refine bG ?_ ai;clear ai;intro a xs n;refine aY ?_;rintro rfl bf hi;refine bG ?_ au;clear au;intro r6 ys yS;refine aY ?_;intro e pX fV;cases e
 unfold IsT at bf pX;rw[bf]at pX;cases pX;rw[←hi.nums,←fV.nums]
theorem Q3{h:Heap}{f:Bool}:sL prog w A h lexOrd (qU f) (fun v(x:List Int)=>gO h v x) where
 lt:=by
  rintro s u v x y Q rfl ai au bb;exact wpAny_mono (QV (F:=Q) ai au bb) (fun Y Y z=>z) fun Y Y z=>z
 uniq:=fun Y Y Y ai au=>ai.uniq au
theorem iY.uniq{h:Heap}{v:Value}{x y:List Int}(ai:iY h v x)(au:iY h v y):x=y:=by
 refine jt ?_ ai;clear ai;intro a u n t m;refine cI ?_;rintro rfl bf rfl hi;refine jt ?_ au;clear au;intro r6 Hd yS e8 ni;refine cI ?_;rintro e pX rfl fV;cases e
 unfold IsT at bf pX;rw[bf]at pX;simp at pX;refine ar ?_ pX;clear pX;refine ar ?_;rintro _ rfl;intro _;exact hi.uniq fV
theorem Q4{h:Heap}{f:Bool}(dQ:A.units<cLine):sL prog w A h oK (qU f) (fun v(x:List Int)=>iY h v x) where
 lt:=by
  rintro s u v x y Q rfl ai au bb;exact wpAny_mono (QW (F:=Q) dQ ai au bb) (fun Y Y z=>z) fun Y Y z=>z
 uniq:=fun Y Y Y ai au=>ai.uniq au
theorem Q5(v:Value):firstOfTuple' v=(do
 if(←typeOf v) != .type "tuple" then return none
 return (←Builtin.List.listItems v)[0]?):=rfl
noncomputable def wU(h:Heap)(v:Value):Prop:=∃a xs n m t r,v=.ref a∧IsT h a xs n∧xs.toList=.int m t::r
theorem Q6{v:Value}{G:∀Y:Option Value,∀Y:Shared,Prop} (aO:wU s.heap v) (h:∀m t,G (some (.int m t)) s):wpAny (model prog w) A (firstOfTuple' v) G bo s:=by
 refine o3 ?_ aO;clear aO;intro a xs n m t r;refine aY ?_;rintro rfl bf e;rw[Q5];refine wpAny_bind (wpAny_typeOf (T:="tuple") ⟨_,bf,rfl⟩ ?_);rw[if_neg (by decide)];refine wpAny_bind (listItems_at bf rfl ?_);have:xs[0]?=some (.int m t):=by rw[←Array.getElem?_toList,e];rfl
 rw[this];exact wpAny_pure (h m t)
theorem I5:∀{vs:List Value}{G:∀Y:List (Option Value),∀Y:Shared,Prop},∀Y:(∀v∈vs,wU s.heap v),∀Y:(∀us:List Value,∀Y:us.length=vs.length,∀Y:(∀u∈us,∃m t,u=.int m t),G (us.map some) s),wpAny (model prog w) A (vs.mapM firstOfTuple') G bo s
 |[],G,_,h=>by rw[List.mapM_nil];exact wpAny_pure (h [] rfl (by simp))
 |v::vs,G,aO,h=>by
  rw[List.mapM_cons];refine wpAny_bind (Q6 (aO v (List.mem_cons_self ..)) fun m t=>?_);refine wpAny_bind (I5 (fun u dQ=>aO u (List.mem_cons_of_mem _ dQ)) fun us aD Dn=>wpAny_pure ?_);refine h (.int m t::us) (by simp[aD]) fun u dQ=>?_;rcases List.mem_cons.mp dQ with rfl|dQ
  ·exact⟨_,_,rfl⟩
  ·exact Dn u dQ
theorem I6{vs:List Value}{G:∀Y:SortKind,∀Y:Shared,Prop} (af:2≤vs.length) (aO:∀v∈vs,wU s.heap v) (h:G (qU true) s):wpAny (model prog w) A (keyKind' vs.toArray) G bo s:=by
 rw[keyKind'_eq,List.mapM_toArray];simp only[map_eq_pure_bind,bind_assoc,pure_bind];refine wpAny_bind (I5 aO fun us aD Dn=>?_);have pV:((us.map some).toArray.all fun x=>x.isSome)=true:=by simp
 rw[if_pos pV];refine wpAny_bind (wpAny_rule ?_);have bq:((us.map some).toArray.filterMap id)=us.toArray:=by simp
 rw[bq,oneTypeOnly'_eq,List.mapM_toArray,mapM_typeOf_ints (intsAre_map us Dn)];simp only[map_pure,pure_bind]
 obtain⟨u,sK,rfl⟩:∃u sK,us=u::sK:=by
  cases us with
  |nil=>simp at aD;exact(aI (.a (.k 2) .p (.i (-1) (.e .z .p) (.F 1))) rfl af aD:False).elim
  |cons u sK=>exact⟨_,_,rfl⟩
 have Q7:((List.map (fun Y=>Value.type "int") (u::sK)).toArray.all fun x=>x==Value.type "int")=true:=by
  simp only[List.all_toArray,List.all_map,List.all_eq_true];intro _ _;rfl
 have aM:(List.map (fun Y=>Value.type "int") (u::sK)).toArray[0]?=some (Value.type "int"):=by simp
 rw[aM];simp only[Q7,if_true,pure_bind];exact wpAny_pure h
theorem gO.led{h:Heap}{v:Value}{x:List Int}(ai:gO h v x)(cP:x≠[]):wU h v:=by
 refine bG ?_ ai;clear ai;intro a xs n;refine aY ?_;rintro rfl bf hi;generalize e:xs.toList=l at hi;cases hi with
 |nil=>exact absurd rfl cP
 |cons m t r=>exact⟨a,xs,n,m,t,_,rfl,bf,e⟩
theorem iY.led{h:Heap}{v:Value}{x:List Int}(ai:iY h v x):wU h v:=by
 refine jt ?_ ai;clear ai;intro a u n t m;refine cI ?_;rintro rfl bf rfl hi;exact⟨a,_,m,_,t,_,rfl,bf,rfl⟩
end
end Mine
end
section
namespace Mine
theorem bT.all{am:List Addr}{h:Heap}{xs vs}(r:bT am h xs vs):∀v∈vs,∃x∈xs,bc am h x v:=Nx r.pr
theorem Q8{out vs:List Value}(p:out.Perm vs):∀{xs:List ah},∀Y:xs.length=vs.length,∃ys,ys.Perm xs∧∀am h,∀Y:bT am h xs vs,bT am h ys out:=by
 induction p with
 |nil=>intro xs e;exact⟨xs,.refl _,fun Y Y r=>r⟩
 |cons x p ih=>
  intro xs e;cases xs with
  |nil=>cases e
  |cons a xs=>
   refine aj ?_ (ih (xs:=xs) (by simpa using e));intro ys;refine ar ?_;intro aQ aC;exact⟨a::ys,aQ.cons _,fun am h r=>by cases r with|cons a r=>exact .cons a (aC _ _ r)⟩
 |swap x y l=>
  intro xs e;cases xs with
  |nil=>cases e
  |cons a xs=>cases xs with
   |nil=>simp at e
   |cons b xs=>exact⟨b::a::xs,.swap ..,fun am h r=>by cases r with|cons a r=>cases r with|cons b r=>exact .cons b (.cons a r)⟩
 |trans p q pY qW=>
  intro xs e;refine aj ?_ (qW e);intro ys;refine ar ?_;intro aQ aC;refine aj ?_ (pY (xs:=ys) (by rw[aQ.length_eq,e,q.length_eq]));intro zs;refine ar ?_;intro iK j6;exact⟨zs,iK.trans aQ,fun am h r=>j6 _ _ (aC _ _ r)⟩
theorem I7{α β:Type}{f:∀Y:α,β} {l ia:List β} (p:l.Perm ia):∀{zs:List α},∀Y:ia=zs.map f,∃ys:List α,l=ys.map f∧ys.Perm zs:=by
 induction p with
 |nil=>intro zs e;exact⟨[],rfl,by cases zs with|nil=>exact .refl _|cons=>cases e⟩
 |cons x p ih=>
  intro zs e;cases zs with
  |nil=>cases e
  |cons z zs=>
   refine ar ?_ (List.cons.inj e);rintro rfl aW;refine aj ?_ (ih aW);intro ys;refine ar ?_;rintro rfl aQ;exact⟨z::ys,rfl,aQ.cons _⟩
 |swap x y l=>
  intro zs e;cases zs with
  |nil=>cases e
  |cons z zs=>cases zs with
   |nil=>cases e
   |cons BN zs=>
    refine ar ?_ (List.cons.inj e);rintro rfl aW;refine ar ?_ (List.cons.inj aW);rintro rfl rfl;exact⟨BN::z::zs,rfl,.swap ..⟩
 |trans p q pY qW=>
  intro zs e;refine aj ?_ (qW e);intro ys;refine ar ?_;intro aW aQ;refine aj ?_ (pY aW);intro Q9;refine ar ?_;intro cz iK;exact⟨Q9,cz,iK.trans aQ⟩
theorem I8{am:List Addr}{h:Heap}{α:Type}{f:∀Y:α,ah} {is:∀Y:Value,∀Y:α,Prop} {R:∀Y:α,∀Y:α,Prop} (uu:∀v z,∀Y:bc am h (f z) v,is v z):
 ∀{ys:List α}{out:List Value},∀Y:bT am h (ys.map f) out,∀Y:out.Pairwise (fun u v=>∀x y,∀Y:is u x,∀Y:is v y,R x y),ys.Pairwise R
 |[],_,_,_=>.nil
 |y::ys,_,.cons a r,aQ=>by
  rw[List.pairwise_cons]at aQ ⊢;refine⟨fun z aU=>?_,I8 uu r aQ.2⟩;obtain⟨i,hi,e⟩:=List.mem_iff_getElem.mp aU;refine aj ?_ (r.get (i:=i) (x:=f z) (by simp[hi,e]));intro v;refine ar ?_;intro aO aC;exact aQ.1 v (List.mem_of_getElem? aO) _ _ (uu _ _ a) (uu _ _ aC)
variable{prog:Program}{w:World}{B:Heap}{ak:dB}{k:Nat}
noncomputable def zU(h:Heap)(vs out:List Value):Heap:=sortedHeap (h.push (seqObj "list" vs.toArray 0)) h.objs.size vs out.toArray
theorem I9{h:Heap}{vs:List Value}:∀b o,∀Y:h.get? b=some o,(jT (h.push (seqObj "list" vs.toArray 0)) h.objs.size vs).get? b=some o:=fun b o e=>by
 have bC:b<h.objs.size:=Heap.lt_size e;unfold jT;refine Heap.get?_push_of_some _ (Heap.get?_push_of_some _ ?_);rw[Heap.get?_update_ne _ _ _ _ (Nat.ne_of_lt bC)];exact Heap.get?_push_of_some _ e
theorem Ra{h:Heap}{vs out:List Value}:∀b o,∀Y:h.get? b=some o,(zU h vs out).get? b=some o:=fun b o e=>by
 have bC:b<h.objs.size:=Heap.lt_size e;unfold zU sortedHeap;rw[Heap.get?_update_ne _ _ _ _ (Nat.ne_of_lt bC)];exact I9 b o e
theorem Rb{h:Heap}{vs out:List Value}:∃n,(zU h vs out).get? h.objs.size=some (seqObj "list" out.toArray n):=by
 have ku:(h.push (seqObj "list" vs.toArray 0)).get? h.objs.size=some (seqObj "list" vs.toArray 0):=Heap.get?_push_size _ rfl;have aS:=get?_update_seq ku (fun Y=>#[]);have aW:=Heap.get?_push_of_some (seqObj "list" #[] 0) (Heap.get?_push_of_some (seqObj "tuple" vs.toArray 0) aS);exact⟨_,get?_update_seq aW (fun Y=>out.toArray)⟩
theorem Dp{A:Around}{s:Shared}{am:List Addr}{st:St}{Q:∀Y:ah,∀Y:St,Prop} {x:Value} {κ:KeyOrd} {kd:SortKind} {f:∀Y:κ.α,ah} {zs₀:List κ.α} (is:∀Y:Heap,∀Y:Value,∀Y:κ.α,Prop) (az:Nonempty κ.α)
 (Dq:wpAny (model prog w) A.in1 (collect x) (fun vs ba=>∃zs:List κ.α,zs.Perm zs₀∧c9 am s am ba∧bh prog w B am ba.heap st∧bT am ba.heap (zs.map f) vs) bo s)
 (uu:∀h v z,∀Y:bc am h (f z) v,is h v z) (K:∀h,sL prog w A.in1.in1 h κ kd (is h))
 (eG:∀(s':Shared)(vs:List Value)(zs:List κ.α),∀Y:zs.Perm zs₀,∀Y:bT am s'.heap (zs.map f) vs,∀Y:2≤vs.length,∀{G:∀Y:SortKind,∀Y:Shared,Prop},∀Y:G kd s',wpAny (model prog w) A.in1.in1 (keyKind' vs.toArray) G bo s')
 (hlen:zs₀.length≤1000000) (h:∀ys,∀Y:jk κ.blt zs₀ ys,Q (.ref st.length) (st++[.list (ys.map f)])):
 wpAny (model prog w) A (call (.builtin "sorted") [x]) (dC prog w B am s Q) bo s:=by
 refine Calls.call_function_entry kind_sorted plain_sorted entry_sorted (args_sorted1 _) ?_;unfold Builtin.«sorted»;refine wpAny_bind (m:=checkCount "sorted" 1 1 _) (wpAny_pure ?_);refine wpAny_bind (wpAny_mono Dq (fun vs ba aG=>?_) fun Y Y z=>z);refine aj ?_ aG;clear aG;intro zs;refine cI ?_;intro aU bj bk r;have j8:vs.length=zs₀.length:=by rw[←r.length,List.length_map,aU.length_eq]
 have iA:1000000≤sizeLine:=by decide
 refine wpAny_bind (wpAny_newList ?_ (by exact aA (.a .r (.k 1000000) (.c .p .r (.a (.k 1000000) .q (.l .p .q)))) rfl hlen j8 iA));have wV:(ba.heap.push (seqObj "list" vs.toArray 0)).get? ba.heap.objs.size=some (seqObj "list" vs.toArray 0):=Heap.get?_push_size _ rfl;show wpAny _ _ _ _ _ {ba with heap:=ba.heap.push (seqObj "list" vs.toArray 0)};have Rc:=lV (I9 (h:=ba.heap) (vs:=vs));have e7:=r.mono (List.prefix_refl am) Rc;refine wpAny_bind (wpAny_holding (wpAny_call_entry slot_list_sort ⟨_,wV,rfl⟩ entry_list_sort (Q1 wV (by exact aq (.a .q (.k 1000000) (.c .p .q (.l .p (.k 1000000)))) rfl hlen j8) (K _) az (fun v aO=>?_) (fun af{G} iZ=>eG {ba with heap:=jT (ba.heap.push (seqObj "list" vs.toArray 0)) ba.heap.objs.size vs} vs zs aU e7 af iZ) (fun out tk aQ hw=>⟨_,rfl,?_⟩)) (args_list_sort _)))
 ·refine aj ?_ (e7.all v aO);intro y;refine ar ?_;intro au aC;refine aj ?_ (List.mem_map.mp au);intro z;refine ar ?_;rintro _ rfl;exact⟨z,uu _ _ _ aC⟩
 ·refine wpAny_pure ⟨_,rfl,?_⟩;refine aj ?_ (Q8 aQ r.length);intro dq;refine ar ?_;intro qX Ja;refine aj ?_ (I7 qX rfl);intro ys;refine ar ?_;rintro rfl eu;have wW:ys.Pairwise (fun x y=>κ.blt y x=false):=I8 (uu _) (Ja _ _ e7) hw;refine aj ?_ (Rb (h:=ba.heap) (vs:=vs) (out:=out));intro n eQ;exact dC.over bj (BS (h':=zU ba.heap vs out) bk Ra (lS _) eQ (Ja _ _ r) (h ys ⟨eu.trans aU,wW⟩))
noncomputable def aT(ns:List Int):ah:=.tup (ns.map .int)
theorem Dr{am:List Addr}{h:Heap}{v:Value}{ns:List Int}(r:bc am h (aT ns) v):gO h v ns:=by
 cases r with
 |tup bf aC=>exact⟨_,_,_,rfl,bf,aC.ints⟩
theorem Jb{A:Around}{s:Shared}{vs:List Value}{zs:List Int}{am:List Addr}(r:bT am s.heap (zs.map ah.int) vs)(af:2≤vs.length){G:∀Y:SortKind,∀Y:Shared,Prop} (iZ:G oneType' s):wpAny (model prog w) A (keyKind' vs.toArray) G bo s:=by
 have hi:=r.ints
 match vs,af with
 |cN::fT::rest,_=>rw[keyKind_ints hi];exact wpAny_pure iZ
theorem Ds{A:Around}{s:Shared}{am:List Addr}{st:St}{x:ah}{v:Value}{xs:List ah}{F:∀Y:List Value,∀Y:Shared,Prop} (S:bh prog w B am s.heap st) (aO:bc am s.heap x v) (e:listAt x st=some xs) (hlen:xs.length≤1000000)
 (h:∀vs ba,∀Y:c9 am s am ba,∀Y:bh prog w B am ba.heap st,∀Y:bT am ba.heap xs vs,F vs ba):wpAny (model prog w) A (collect v) F bo s:=by
 refine dF ?_ (S.listAt aO e);intro n a vs m;refine dH ?_;rintro rfl rfl hm eL aD aC;have iA:1000000≤sizeLine:=by decide
 have j8:vs.length≤1000000:=by rw[←aC.length];exact hlen
 have cv:∀b o,∀Y:s.heap.get? b=some o,((s.heap.push (seqObj "list" #[] 0)).update s.heap.objs.size (Obj.mapSeq (·++vs.toArray))).get? b=some o:=fun b o e=>by
  rw[Heap.get?_update_ne _ _ _ _ (Nat.ne_of_lt (Heap.lt_size e))];exact Heap.get?_push_of_some _ e
 exact collect_list aD.isList (h vs _ (.heap (tk:=s.toks) (.of_keeps cv)) (S.keeps cv) (aC.mono (List.prefix_refl _) (lV cv))) (by exact aq (.a (.k 1000000) .q (.a .p (.k 1000000) (.l .p .q))) rfl iA j8)
theorem Rd{A:Around}{s:Shared}{am:List Addr}{st:St}{Q:∀Y:ah,∀Y:St,Prop} {x:ah} {v:Value} {ns:List Int} (S:bh prog w B am s.heap st) (aO:bc am s.heap x v) (e:listAt x st=some (ns.map .int)) (hlen:ns.length≤1000000)
 (h:∀ys,∀Y:jk ur.blt ns ys,Q (.ref st.length) (st++[.list (ys.map .int)])):wpAny (model prog w) A (call (.builtin "sorted") [v]) (dC prog w B am s Q) bo s:=
 Dp (κ:=ur) (kd:=oneType') (f:=ah.int) (zs₀:=ns) (fun Y v(n:Int)=>∃t,v=.int n t) ⟨(0:Int)⟩
  (Ds S aO e (by rw[List.length_map];exact hlen) fun vs ba bj bk r=>⟨ns,.refl _,bj,bk,r⟩)
  (fun h v z r=>by cases r;exact⟨_,rfl⟩) (fun h=>I4) (fun s' vs zs aU r af{G} iZ=>Jb r af iZ) hlen h
theorem Rf{A:Around}{s:Shared}{am:List Addr}{st:St}{Q:∀Y:ah,∀Y:St,Prop} {x:ah} {v:Value} {ns:List (List Int)} (S:bh prog w B am s.heap st) (aO:bc am s.heap x v) (e:listAt x st=some (ns.map aT)) (hlen:ns.length≤1000000) (cP:∀r∈ns,r≠[])
 (h:∀ys,∀Y:jk gr ns ys,Q (.ref st.length) (st++[.list (ys.map aT)])):wpAny (model prog w) A (call (.builtin "sorted") [v]) (dC prog w B am s Q) bo s:=
 Dp (κ:=lexOrd) (kd:=qU true) (f:=aT) (zs₀:=ns) (fun h v(x:List Int)=>gO h v x) ⟨([]:List Int)⟩
  (Ds S aO e (by rw[List.length_map];exact hlen) fun vs ba bj bk r=>⟨ns,.refl _,bj,bk,r⟩)
  (fun h v z r=>Dr r) (fun h=>Q3) (fun s' vs zs aU r af{G} iZ=>I6 af (fun u dQ=>by
    refine aj ?_ (r.all u dQ);intro y;refine ar ?_;intro au aC;refine aj ?_ (List.mem_map.mp au);intro z;refine ar ?_;rintro iT rfl;exact(Dr aC).led (cP z (aU.mem_iff.mp iT))) iZ) hlen h
end Mine
end
section
namespace Mine
theorem zV{xs:Array Nat}(h:il xs.toList){i j:Nat}(hi:i<xs.size)(aP:j<xs.size)(iH:i<j):xs[i]<xs[j]:=by
 have:=List.pairwise_iff_getElem.mp h i j (by simpa using hi) (by simpa using aP) iH;simpa using this
theorem go_succ{xs:Array Nat}{j fuel lo hi:Nat}:SetTable.below.go xs j (fuel+1) lo hi=if lo<hi then(if xs.getD ((lo+hi) / 2) j<j then SetTable.below.go xs j fuel ((lo+hi) / 2+1) hi else SetTable.below.go xs j fuel lo ((lo+hi) / 2))else lo:=rfl
theorem Rg{xs:Array Nat}(h:il xs.toList){j fuel:Nat}:∀lo hi,∀Y:lo≤hi,∀Y:hi≤xs.size,∀Y:hi≤lo+fuel,
 ∀Y:(∀i(_:i<xs.size),∀Y:i<lo,xs[i]<j),∀Y:(∀i(_:i<xs.size),∀Y:hi≤i,j≤xs[i]),
 SetTable.below.go xs j fuel lo hi≤xs.size∧(∀i(_:i<xs.size),∀Y:i<SetTable.below.go xs j fuel lo hi,xs[i]<j)∧(∀i(_:i<xs.size),∀Y:SetTable.below.go xs j fuel lo hi≤i,j≤xs[i]):=by
 induction fuel with
 |zero=>
  intro lo hi ae af aH bX et;cases Nat.le_antisymm ae aH
  exact⟨af,bX,et⟩
 |succ fuel ih=>
  intro lo hi ae af aH bX et;rw[go_succ];by_cases aD:lo<hi
  ·rw[if_pos aD];have f3:lo≤(lo+hi) / 2:=by exact aA (.b .p .r (.b (.a .p .r) (.m 2 (.b .q)) (.G 1 (.l .p .q)))) rfl aD (Nat.lt_mul_div_succ (_+_) (by decide))
   have f5:(lo+hi) / 2<hi:=by exact aA (.b .r .q (.a (.m 2 .p) (.a .r .q) (.G 1 (.t .p .q)))) rfl aD (Nat.mul_div_le (_+_) 2)
   generalize (lo+hi) / 2=m at f3 f5 ⊢;have hm:m<xs.size:=Nat.lt_of_lt_of_le f5 af;rw[show xs.getD m j=xs[m] by simp[Array.getD,hm]];by_cases aG:xs[m]<j
   ·rw[if_pos aG];refine ih (m+1) hi f5 af (by exact bA (.a .p (.a .s (.b .r)) (.a .s .q (.l .p (.a (.b .q) .r)))) rfl aH f3) (fun i fV bC=>?_) et;rcases Nat.eq_or_lt_of_le (Nat.le_of_lt_succ bC)with e|e
    ·subst e;exact aG
    ·exact Nat.lt_trans (zV h fV hm e) aG
   ·rw[if_neg aG];refine ih lo m f3 (Nat.le_of_lt hm) (by exact bA (.a .s (.a .q (.b .r)) (.b .p .s (.l .p (.a .q .r)))) rfl aH f5) bX fun i fV d5=>?_;rcases Nat.eq_or_lt_of_le d5 with e|e
    ·subst e;exact Nat.le_of_not_lt aG
    ·exact Nat.le_trans (Nat.le_of_not_lt aG) (Nat.le_of_lt (zV h hm fV e))
  ·rw[if_neg aD];cases Nat.le_antisymm ae (Nat.le_of_not_lt aD)
   exact⟨af,bX,et⟩
theorem Dt{xs:Array Nat}(h:il xs.toList)(j:Nat):SetTable.below xs j≤xs.size∧(∀i(_:i<xs.size),∀Y:i<SetTable.below xs j,xs[i]<j)∧(∀i(_:i<xs.size),∀Y:SetTable.below xs j≤i,j≤xs[i]):=
 Rg h 0 xs.size (Nat.zero_le _) (Nat.le_refl _) (Nat.le_add_left ..) (fun i Y h=>absurd h (Nat.not_lt_zero _)) fun i ae af=>absurd ae (Nat.not_lt.mpr af)
theorem Rh{α:Type}(xs:Array α)(p:Nat)(x:α)(aQ:p≤xs.size):(SetTable.insertAt xs p x).toList=xs.toList.take p++x::xs.toList.drop p:=by
 unfold SetTable.insertAt;simp only[Array.toList_append,Array.toList_push,Array.toList_extract,List.extract_eq_take_drop,List.drop_zero,Nat.sub_zero,List.append_assoc,List.singleton_append];have e:List.take (xs.size-p) (List.drop p xs.toList)=List.drop p xs.toList:=List.take_of_length_le (by simp);rw[e]
theorem Ri{t:SetTable}{j:Nat}(h:il t.place.toList)(aP:t.place[SetTable.below t.place j]?≠some j):il (t.put j).1.place.toList:=by
 refine aY ?_ (Dt h j);intro ae af aH;have e:(t.put j).1.place=SetTable.insertAt t.place (SetTable.below t.place j) j:=rfl;rw[e,Rh _ _ _ ae];unfold il;rw[List.pairwise_append,List.pairwise_cons];refine⟨List.Pairwise.sublist (List.take_sublist _ _) h,⟨fun y au=>?_,List.Pairwise.sublist (List.drop_sublist _ _) h⟩,fun x ai y au=>?_⟩
 ·obtain⟨i,hi,rfl⟩:=List.mem_iff_getElem.mp au;rw[List.getElem_drop];have c8:SetTable.below t.place j+i<t.place.size:=by simp at hi;exact ye hi
  have bX:=aH _ c8 (Nat.le_add_right _ _);simp only[Array.getElem_toList];rcases Nat.lt_or_ge j t.place[SetTable.below t.place j+i]with q|q
  ·exact q
  ·exfalso;have g8:t.place[SetTable.below t.place j+i]=j:=Nat.le_antisymm q bX;cases i with
   |zero=>
    apply aP;rw[Array.getElem?_eq_getElem (by simpa using c8)];simp only[Nat.add_zero]at g8;rw[g8]
   |succ i=>
    have fq:SetTable.below t.place j<t.place.size:=by exact aA (.b (.a .p (.b .r)) .q (.t .p .q)) rfl c8
    have kF:=zV h fq c8 (by exact aq (.t .p (.a .p (.b .q))) rfl);have qH:=aH _ fq (Nat.le_refl _);exact aA (.a .p .q (.b .r .p (.a .q .r .f))) rfl q kF qH
 ·obtain⟨i,hi,rfl⟩:=List.mem_iff_getElem.mp ai;rw[List.getElem_take];simp only[List.length_take,Array.length_toList]at hi;have zW:t.place[i]<j:=af i (by exact aA (.b .p .r (.a .r .q (.t .p .q))) rfl hi (Nat.min_le_right _ _)) (by exact aA (.b .p .r (.a .r .q (.t .p .q))) rfl hi (Nat.min_le_left _ _));simp only[Array.getElem_toList];rcases List.mem_cons.mp au with rfl|au
  ·exact zW
  ·obtain⟨k,aK,rfl⟩:=List.mem_iff_getElem.mp au;rw[List.getElem_drop];have c8:SetTable.below t.place j+k<t.place.size:=by simp at aK;exact ye aK
   have bX:=aH _ c8 (Nat.le_add_right _ _);simp only[Array.getElem_toList]
   lia
theorem Rj{t:SetTable}{j:Nat}(h:t.place[SetTable.below t.place j]?=some j):∃i,t.slot j=.live i:=by
 unfold SetTable.slot;simp[h]
theorem Jc(t:SetTable)(q:SetTable.Probe):(t.advance q).dummy=q.dummy:=by
 unfold SetTable.advance;by_cases h:q.more>0
 ·rw[if_pos h]
 ·rw[if_neg h]
noncomputable def Jd(t:SetTable)(j:Nat)(d:Option Nat):Prop:=t.place[SetTable.below t.place (d.getD j)]?≠some (d.getD j)
theorem Rk{t:SetTable}{hashAt:∀Y:Nat,Int} {h:Int} {fuel:Nat} {p:SetTable.Probe} (q:t.slot p.j=.empty):SetTable.probe.go t hashAt h (fuel+1) p=some (.empty p.j p.dummy):=by
 show(match t.slot p.j with|.empty=>_|.dummy=>_|.live i=>_)=_;rw[q]
theorem Rl{t:SetTable}{hashAt:∀Y:Nat,Int} {h:Int} {fuel:Nat} {p:SetTable.Probe} (q:t.slot p.j=.dummy):SetTable.probe.go t hashAt h (fuel+1) p=SetTable.probe.go t hashAt h fuel (t.advance {p with dummy:=some p.j}):=by
 show(match t.slot p.j with|.empty=>_|.dummy=>_|.live i=>_)=_;rw[q]
theorem Rm{t:SetTable}{hashAt:∀Y:Nat,Int} {h:Int} {fuel i:Nat} {p:SetTable.Probe} (q:t.slot p.j=.live i):SetTable.probe.go t hashAt h (fuel+1) p=if hashAt i==h then some (.candidate p.j i (t.advance p))else SetTable.probe.go t hashAt h fuel (t.advance p):=by
 show(match t.slot p.j with|.empty=>_|.dummy=>_|.live i=>_)=_;rw[q]
theorem Je{t:SetTable}{j:Nat}(q:∀i,t.slot j≠.live i):t.place[SetTable.below t.place j]?≠some j:=fun aG=>(Rj aG).elim q
theorem Rn(t:SetTable)(hashAt:∀Y:Nat,Int) (h:Int) {fuel:Nat} {j:Nat} {d:Option Nat}:∀{p:SetTable.Probe},∀Y:(∀k,∀Y:p.dummy=some k,t.place[SetTable.below t.place k]?≠some k),
 ∀Y:SetTable.probe.go t hashAt h fuel p=some (.empty j d),Jd t j d:=by
 induction fuel with
 |zero=>intro p _ e;exact gh e
 |succ fuel ih=>
  intro p hd e;cases q:t.slot p.j with
  |empty=>
   cases(Rk q).symm.trans e
   unfold Jd;cases we:p.dummy with
   |none=>exact Je fun i hi=>by cases q.symm.trans hi
   |some k=>exact hd k we
  |dummy=>
   refine ih (fun k aK=>?_) ((Rl q).symm.trans e);cases(Jc t _).symm.trans aK
   exact Je fun i hi=>by cases q.symm.trans hi
  |live i=>
   have e:=(Rm q).symm.trans e;by_cases bR:(hashAt i==h)=true
   ·cases(if_pos bR).symm.trans e
   ·exact ih (fun k aK=>hd k ((Jc t p).symm.trans aK)) ((if_neg bR).symm.trans e)
set_option tactic.hygienic true in
theorem Ro{t:SetTable}{h:Int}{j:Nat}{b:Bool}(e:t.freeSlot h=some (j,b)):t.place[SetTable.below t.place j]?≠some j:=by
 unfold SetTable.freeSlot at e;cases aQ:t.probe (fun Y=>h+1) h (t.probeStart h)with
 |none=>rw[aQ]at e;cases e
 |some r=>
  rw[aQ]at e;cases r with
  |empty Jf d=>
   cases e
   exact Rn t _ h (fun k aK=>by cases aK) aQ
  |_=>cases e
theorem Rp(n:Nat):il (Array.range n).toList:=by
 unfold il;rw[Array.toList_range];exact List.pairwise_lt_range
theorem zX(t:SetTable)(n:Nat):il (t.standIn n).place.toList∧(t.standIn n).led=t.led:=⟨Rp n,rfl⟩
theorem Rq{t:SetTable}{n:Nat}(h:il t.place.toList):il (t.orStandIn n).place.toList∧(t.orStandIn n).led=t.led:=by
 unfold SetTable.orStandIn;by_cases bq:t.fits n=true
 ·rw[if_pos bq];exact⟨h,rfl⟩
 ·rw[if_neg bq];exact zX t n
set_option tactic.hygienic true in
theorem Rr{t:SetTable}(h:il t.place.toList)(a9:Array (Int×Value))(bR:Int)(x:Value):il (layNew t a9 bR x).2.1.place.toList∧(layNew t a9 bR x).2.1.led=t.led:=by
 unfold layNew;cases e:t.freeSlot bR with
 |none=>exact zX t _
 |some q=>exact Rq (t:=(t.put q.1).1) (Ri h (Ro (j:=q.1) (b:=q.2) e))
theorem Rt(f:∀Y:Nat,Option Nat) (l:List Nat):((l.filterMap fun j=>(f j).map (j,·)).map (·.1)).Sublist l:=by
 induction l with
 |nil=>exact .slnil
 |cons x l ih=>
  cases e:f x with
  |none=>rw[List.filterMap_cons_none (by rw[e];rfl)];exact ih.cons _
  |some y=>rw[List.filterMap_cons_some (b:=(x,y)) (by rw[e];rfl)];exact ih.cons_cons _
theorem Ru{mask finger moves:Nat}{led plain:Bool}{hs:Array Int}{t:SetTable}{o:Array Nat}(e:SetTable.laid mask finger moves led plain hs=some (t,o)):il t.place.toList∧t.led=led:=by
 unfold SetTable.laid at e;cases q:SetTable.layClean mask hs with
 |none=>rw[q]at e;cases e
 |some owner=>
  rw[q]at e;cases e
  refine⟨?_,rfl⟩;exact List.Pairwise.sublist (Rt (fun j=>owner.getD j none) (List.range (mask+1))) List.pairwise_lt_range
set_option tactic.hygienic true in
theorem Rv{t:SetTable}(a9:Array (Int×Value))(n:Nat):il (relayAll t a9 n).2.1.place.toList∧(relayAll t a9 n).2.1.led=t.led:=by
 unfold relayAll;cases e:t.relaid (a9.map (·.1)) n with
 |none=>exact zX t _
 |some q=>
  by_cases aG:(coversAll q.2 a9.size&&q.1.fits (q.2.filterMap (a9[·]?)).size)=true
  ·have:=Ru (t:=q.1) (o:=q.2) e;dsimp only;rw[if_pos aG];exact this
  ·dsimp only;rw[if_neg aG];exact zX t _
end Mine
end
section
namespace Mine
theorem Du:Slot "set_iterator" "__next__" "set_iterator.__next__":=
 .of (owner:="set_iterator") (n:="__next__") (by rw[typeLookup_type,builtinLookup_eq_fast];kernel_rfl) (by decide+kernel) (by decide+kernel) (by decide+kernel)
   (by first|exact .inl (by decide+kernel)|exact .inr (by decide+kernel)) (by rw[isSubtype_type];kernel_rfl)
theorem Rw:entryFor table "set_iterator.__next__"=some Builtin.«set_iterator.__next__»:=entryFor_of_fast (by kernel_rfl)
theorem Rx(a:Value):argsOk "set_iterator.__next__" ⟨[a],[]⟩:=by unfold argsOk;kernel_rfl
theorem Ry:entryFor table "set.__iter__"=some Builtin.«frozenset.__iter__»:=
 entryFor_alias (id':="frozenset.__iter__") (by kernel_rfl) rfl (by decide+kernel) (by kernel_rfl)
theorem Jg{α:Type}{l:List α}:∀{i:Nat}(h:i<l.length),(l[i]::l.eraseIdx i).Perm l:=by
 induction l with
 |nil=>exact fun h=>absurd h (Nat.not_lt_zero _)
 |cons x l ih=>
  intro i h;cases i with
  |zero=>exact .refl _
  |succ i=>
   rw[List.getElem_cons_succ,List.eraseIdx_cons_succ];exact(List.Perm.swap ..).trans ((ih (Nat.lt_of_succ_lt_succ h)).cons _)
section
variable{prog:Program}{w:World}{A:Around}{E:∀Y:Value,∀Y:Shared,Prop} {s:Shared}
theorem Rz{src:Source}{n:Nat}{Q:∀Y:Nat,∀Y:Shared,Prop} (az:n≠0) (h:∀i d,∀Y:i<n,Q i {s with drawn:=d}):wpAny (model prog w) A (choose src n) Q E s:=by
 intro XX p XY;unfold choose;rw[Sem.wp_choose];exact⟨az,h _ _ (Nat.mod_lt _ (Nat.pos_of_ne_zero az))⟩
theorem RA{α:Type}(n:Nat):∀(xs:List α){s:Shared}{Q:∀Y:List α,∀Y:Shared,Prop},∀Y:xs.length≤n,∀Y:(∀ys d,∀Y:ys.Perm xs,Q ys {s with drawn:=d}),wpAny (model prog w) A (drawOrder n xs) Q E s:=by
 induction n with
 |zero=>
  intro xs s Q aD h;cases List.length_eq_zero_iff.mp (Nat.le_zero.mp aD)
  exact wpAny_pure (h [] s.drawn (.refl _))
 |succ n ih=>
  intro xs s Q aD h;cases xs with
  |nil=>exact wpAny_pure (h [] s.drawn (.refl _))
  |cons x xs=>
   show wpAny _ A (choose .order (x::xs).length>>=_) Q E s;refine wpAny_bind (Rz (Nat.succ_ne_zero _) fun i d hi=>?_);rw[List.getElem?_eq_getElem hi];refine wpAny_bind (ih ((x::xs).eraseIdx i) (by rw[List.length_eraseIdx_of_lt hi];exact Nat.le_of_succ_le_succ aD) fun ys o9 aQ=>wpAny_pure ?_);exact h ((x::xs)[i]::ys) o9 ((aQ.cons _).trans (Jg hi))
theorem RB{α:Type}{next:∀Y:Nat,Nat} {fuel k:Nat} {left:List α} {out:Array α} (e:left[next k % left.length]?=none):pickOrder.go next (fuel+1) k left out=out:=by
 show(match left[next k % left.length]? with|some x=>pickOrder.go next fuel (k+1) (left.eraseIdx (next k % left.length)) (out.push x)|none=>out)=_;rw[e]
theorem RC{α:Type}{next:∀Y:Nat,Nat} {fuel k:Nat} {left:List α} {out:Array α} {x:α} (e:left[next k % left.length]?=some x):pickOrder.go next (fuel+1) k left out=pickOrder.go next fuel (k+1) (left.eraseIdx (next k % left.length)) (out.push x):=by
 show(match left[next k % left.length]? with|some x=>pickOrder.go next fuel (k+1) (left.eraseIdx (next k % left.length)) (out.push x)|none=>out)=_;rw[e]
set_option tactic.hygienic true in
theorem RD{α:Type}(next:∀Y:Nat,Nat) (fuel:Nat):∀k(left:List α)(out:Array α),∀Y:left.length≤fuel,(pickOrder.go next fuel k left out).toList.Perm (out.toList++left):=by
 induction fuel with
 |zero=>
  intro k left out h;cases List.length_eq_zero_iff.mp (Nat.le_zero.mp h)
  rw[List.append_nil];exact .refl _
 |succ fuel ih=>
  intro k left out h;cases e:left[next k % left.length]? with
  |none=>
   rw[RB e];cases left with
   |nil=>rw[List.append_nil]
   |cons x l=>exact absurd (Nat.mod_lt _ (Nat.succ_pos _)) (Nat.not_lt.mpr (List.getElem?_eq_none_iff.mp e))
  |some x=>
   rw[RC e];have q:=List.getElem?_eq_some_iff.mp e;refine(ih (k+1) _ _ (by rw[List.length_eraseIdx_of_lt q.1];exact Nat.le_trans (Nat.sub_le_sub_right h 1) (Nat.le_refl _))).trans ?_;rw[Array.toList_push,List.append_assoc,←q.2];exact List.Perm.append_left _ (Jg q.1)
theorem RE{α:Type}(next:∀Y:Nat,Nat) (xs:Array α):(pickOrder next xs).toList.Perm xs.toList:=by
 exact RD next xs.size 0 xs.toList #[] (Nat.le_of_eq Array.length_toList)
theorem zY{Q:∀Y:Bool,∀Y:Shared,Prop} (h:Q (w.params.followText "set-order") s):wpAny (model prog w) A setsByText Q E s:=by
 unfold setsByText;exact wpAny_bind (wpAny_askSetting (wpAny_pure h))
structure wX(prog:Program)(w:World)(A:Around)(S I:Addr)(St:∀Y:List Int,∀Y:Heap,Prop):Prop where
 ne:I≠S
 frame:∀rest h h',∀Y:(∀b o,∀Y:b≠S,∀Y:h.get? b=some o,h'.get? b=some o),∀Y:St rest h,St rest h'
 item:∀rest(s:Shared),∀Y:St rest s.heap,wpAny (model prog w) A (pyNext (.ref I)) (fun l0 s'=>(∃h' tk,s'={s with heap:=h',toks:=tk})∧(∀b o,∀Y:b≠I,∀Y:s.heap.get? b=some o,s'.heap.get? b=some o)∧
  match l0 with|none=>rest=[]|some v=>∃n t uv,v=.int n t∧rest=n::uv∧St uv s'.heap) (fun Y Y=>False) s
theorem RG{I S:Addr}{St:∀Y:List Int,∀Y:Heap,Prop} (W:wX prog w A.in1 S I St) (res:Value):∀(rest:List Int){s:Shared}{R:∀Y:Result,∀Y:Shared,Prop} (ns:List Int) (acc:Array Value) (c:Nat),∀Y:St rest s.heap,∀Y:s.heap.get? S=some (seqObj "list" acc c),∀Y:IntsAre acc.toList ns,∀Y:ns.length+rest.length≤1000000,
 ∀Y:(∀h' tk uw iw,∀Y:(∀b o,∀Y:b≠S,∀Y:b≠I,∀Y:s.heap.get? b=some o,h'.get? b=some o),∀Y:h'.get? S=some (seqObj "list" uw iw),∀Y:IntsAre uw.toList (ns++rest),R (.ok (.ret res)) {s with heap:=h',toks:=tk}),
 codeAny (model prog w) A (.builtin "list.extend.loop" ⟨[.ref S,.ref I,res],[]⟩) R s:=by
 intro rest
 induction rest with
 |nil=>
  intro s R ns acc c eL dc ux hlen fe;refine codeAny_builtin PySem.F.entry_extend_loop ?_;rw[Around.under_plainId PySem.F.plain_extend_loop _];show wpAny _ A.in1 (pyNext (.ref I)>>=_) _ _ s;refine wpAny_bind (wpAny_mono (W.item [] s eL) (fun l0 s' bb=>?_) fun Y Y z=>z.elim);refine aY ?_ bb;clear bb;refine bZ ?_;rintro h' tk rfl;intro cv hm;cases l0 with
  |some v=>refine bG ?_ hm;clear hm;intro _ _ _;refine aY ?_;intro _ e _;cases e
  |none=>exact wpAny_pure (fe h' tk acc c (fun b o Y av e=>cv b o av e) (cv _ _ (Ne.symm W.ne) dc) (by simpa using ux))
 |cons n rest ih=>
  intro s R ns acc c eL dc ux hlen fe;refine codeAny_builtin PySem.F.entry_extend_loop ?_;rw[Around.under_plainId PySem.F.plain_extend_loop _];show wpAny _ A.in1 (pyNext (.ref I)>>=_) _ _ s;refine wpAny_bind (wpAny_mono (W.item _ s eL) (fun l0 s' bb=>?_) fun Y Y z=>z.elim);refine aY ?_ bb;clear bb;refine bZ ?_;rintro h' tk rfl;intro cv hm;cases l0 with
  |none=>cases hm
  |some v=>
   refine bG ?_ hm;clear hm;intro m t uv;refine aY ?_;rintro rfl e RH;cases e
   have wY:=cv _ _ (Ne.symm W.ne) dc;show wpAny _ A.in1 (updateSeq S (·.push (Value.int n t))>>=_) _ _ _;have c8:acc.size=ns.length:=by have:=ux.length;rw[Array.length_toList]at this;exact Bq this
   have iA:1000000≤sizeLine:=by decide
   simp only[List.length_cons]at hlen;refine wpAny_bind (wpAny_updateSeq wY rfl (wpAny_pure ⟨plainId_quiet PySem.F.plain_extend_loop _,?_⟩) (by exact bA (.i 1000000 (.l (.a .r (.b .s)) (.k 1000000)) (.i 1000000 (.e .p .r) (.i 999999 (.l (.k 1000000) .q) (.G 999999 (.l .p .q))))) rfl hlen c8 iA) (by show(acc.push _).size≤sizeLine+1;rw[Array.size_push];exact bA (.i 1000000 (.l (.a .r (.b .s)) (.k 1000000)) (.i 1000000 (.e .p .r) (.i 999999 (.l (.k 1000000) .q) (.G 999999 (.l (.b .p) (.b .q)))))) rfl hlen c8 iA));have zZ:∀b o,∀Y:b≠S,∀Y:h'.get? b=some o,(h'.update S (Obj.mapSeq (·.push (Value.int n t)))).get? b=some o:=fun b o av e=>by rw[Heap.get?_update_ne _ _ _ _ av];exact e
   refine ih (ns++[n]) (acc.push (.int n t)) _ (W.frame _ _ _ zZ RH) (get?_update_seq wY _) ?_ (by simp;exact aq (.a (.a .p (.b .q)) (.k 1000000) (.l (.a (.b .p) .q) (.k 1000000))) rfl hlen) fun nY gm uw iw iV uy RI=>?_
   ·rw[Array.toList_push];exact IntsAre.append ux (.cons _ _ .nil)
   ·exact fe nY gm uw iw (fun b o av Dv e=>iV b o av Dv (zZ b o av (cv b o Dv e))) uy (by simpa using RI)
end
end Mine
end
section
namespace Mine
section
variable{prog:Program}{w:World}{A:Around}{E:∀Y:Value,∀Y:Shared,Prop} {s:Shared}
theorem Jh{a:Addr}{T id:String}{ns:List Int}{Q:∀Y:List Value,∀Y:Shared,Prop} (cu:s.TypeIs (.ref a) T) (ae:(Value.type T==Value.type "list")=false) (af:(Value.type T==Value.type "tuple")=false) (hlen:ns.length≤1000000)
 (RJ:∀{s':Shared}{F:∀Y:Bool,∀Y:Shared,Prop},∀Y:s'.TypeIs (.ref a) T,∀Y:F false s',wpAny (model prog w) A.in1 (Builtin.List.listLengthHint (.ref a)) F bo s')
 (cG:∀{S:Addr}{ba:Shared}{F:∀Y:Value,∀Y:Shared,Prop},∀Y:(∃h',ba={s with heap:=h'}),∀Y:(∀b o,∀Y:s.heap.get? b=some o,ba.heap.get? b=some o),∀Y:s.heap.get? S=none,∀Y:(∃o,ba.heap.get? S=some o),
   ∀Y:(∀I St rest h' tk d,∀Y:(∀b o,∀Y:ba.heap.get? b=some o,h'.get? b=some o),∀Y:s.heap.get? I=none,∀Y:wX prog w A.in1 S I St,∀Y:St rest h',∀Y:rest.Perm ns,F (.ref I) {ba with heap:=h',toks:=tk,drawn:=d}),wpAny (model prog w) A.in1 (pyIter (.ref a)) F bo ba)
 (h:∀vs h' tk d rest,∀Y:(∀b o,∀Y:s.heap.get? b=some o,h'.get? b=some o),∀Y:rest.Perm ns,∀Y:IntsAre vs rest,Q vs {s with heap:=h',toks:=tk,drawn:=d})
 (z0:(["set","frozenset","dict","dict_keys","dict_values","dict_items"].any (Value.type T==.type ·))=true):
 wpAny (model prog w) A (collect (.ref a)) Q bo s:=by
 unfold collect;refine wpAny_bind (wpAny_runValue (codeAny_builtin PySem.F.entry_proto_collect ?_));rw[Around.under_plainId PySem.F.plain_proto_collect _];show wpAny _ A.in1 (newList []>>=fun l=>again (.builtin "list.__iadd__" ⟨[l,.ref a],[]⟩)) _ _ s;refine wpAny_bind (wpAny_newObj_type ?_ (Nat.zero_le _));refine wpAny_pure ⟨plainId_quiet PySem.F.plain_list_iadd _,codeAny_builtin PySem.F.entry_list_iadd ?_⟩;rw[Around.under_plainId PySem.F.plain_list_iadd _];show wpAny _ A.in1 (Builtin.List.listExtendWith (.ref s.heap.objs.size) (.ref a) (.ref s.heap.objs.size)) _ _ {s with heap:=s.heap.push (seqObj "list" #[] 0)};have cT:∀b o,∀Y:s.heap.get? b=some o,(s.heap.push (seqObj "list" #[] 0)).get? b=some o:=fun b o e=>Heap.get?_push_of_some _ e
 have Dw:Shared.TypeIs {s with heap:=s.heap.push (seqObj "list" #[] 0)} (.ref a) T:=by
  refine aj ?_ cu;clear cu;intro o;refine ar ?_;intro bx aG;exact⟨o,cT _ _ bx,aG⟩
 have cP:a≠s.heap.objs.size:=by
  refine aj ?_ cu;clear cu;intro o;refine ar ?_;intro bx aG;exact Nat.ne_of_lt (Heap.lt_size bx)
 have Ji:(s.heap.push (seqObj "list" #[] 0)).get? s.heap.objs.size=some (seqObj "list" #[] 0):=Heap.get?_push_size _ rfl;unfold Builtin.List.listExtendWith;refine wpAny_bind (wpAny_typeOf Dw ?_);have aM:Builtin.List.listSameRef (.ref s.heap.objs.size) (.ref a)=false:=decide_eq_false fun e=>cP e.symm;rw[aM,ae,af,if_neg (by decide)];refine wpAny_bind (never (cG (S:=s.heap.objs.size) ⟨_,rfl⟩ cT (lS _) ⟨_,Ji⟩ fun I St rest h' tk d eU bE W eL aQ=>?_))
 have RK:Shared.TypeIs {s with heap:=h',toks:=tk,drawn:=d} (.ref a) T:=by
  refine aj ?_ Dw;clear Dw;intro o;refine ar ?_;intro bx aG;exact⟨o,eU _ _ bx,aG⟩
 refine wpAny_bind (wpAny_holding (never (RJ RK ?_)));have uz:=eU _ _ Ji;have aK:∀{F:∀Y:Fin,∀Y:Shared,Prop} {dw:Shared} (b:Bool) {m:Sem Unit} {r:Sem Fin},∀Y:b=true,∀Y:wpAny (model prog w) A.in1 (m>>=fun Y=>r) F bo dw,wpAny (model prog w) A.in1 (if b=true then m>>=fun Y=>r else r) F bo dw:=by intro F dw b m r av hw;rw[if_pos av];exact hw
 refine aK _ (m:=rule "list.extend.makes-room">>=fun Y=>Builtin.List.listTouch (.ref s.heap.objs.size)) z0 ?_;refine wpAny_bind (wpAny_bind (wpAny_rule ?_));show wpAny _ A.in1 (updateSeq s.heap.objs.size (·.push .none)>>=fun Y=>updateSeq s.heap.objs.size (·.pop)) _ _ _;refine wpAny_bind (wpAny_updateSeq uz rfl ?_ (Nat.zero_le _) (by show(1:Nat)≤sizeLine+1;exact aI (.l .o (.b .p)) rfl));have uy:=get?_update_seq uz (·.push Value.none);refine wpAny_updateSeq uy rfl ?_ (by show(1:Nat)≤sizeLine;decide) (Nat.zero_le _);have RL:=get?_update_seq uy (·.pop)
 have iV:∀b o,∀Y:b≠s.heap.objs.size,∀Y:h'.get? b=some o,((h'.update s.heap.objs.size (Obj.mapSeq (·.push Value.none))).update s.heap.objs.size (Obj.mapSeq (·.pop))).get? b=some o:=fun b o av e=>by
  rw[Heap.get?_update_ne _ _ _ _ av,Heap.get?_update_ne _ _ _ _ av];exact e
 refine wpAny_pure ⟨plainId_quiet PySem.F.plain_extend_loop _,RG W _ rest [] #[] _ (W.frame _ _ _ iV eL) RL .nil (by rw[aQ.length_eq];simpa using hlen) fun nY gm uw iw ml RM ux=>?_⟩;show wpAny _ A (load s.heap.objs.size>>=_) _ _ _;refine wpAny_bind (wpAny_load RM ?_);refine wpAny_pure (h uw.toList nY gm d rest (fun b o e=>?_) aQ (by simpa using ux));have av:b≠s.heap.objs.size:=Nat.ne_of_lt (Heap.lt_size e);have RN:b≠I:=fun q=>by rw[q,bE]at e;cases e
 exact ml b o av RN (iV b o av (eU b o (cT b o e)))
theorem RO{a:Addr}{F:∀Y:Bool,∀Y:Shared,Prop} (cu:s.TypeIs (.ref a) "dict") (h:F false s):wpAny (model prog w) A (Builtin.List.listLengthHint (.ref a)) F bo s:=by
 unfold Builtin.List.listLengthHint;refine wpAny_bind (wpAny_specialOf (name:=Str.ofString "__len__") cu PySem.F.slot_dict_len.lookup ?_);have e:splitId "dict.__len__"=some ("dict","__len__"):=by kernel_rfl
 dsimp only;rw[e];dsimp only;refine wpAny_bind (wpAny_isInstance cu (b:=true) (by rw[isSubtype_type];kernel_rfl) ?_);rw[if_neg (by decide)];rw[if_pos (by decide+kernel)];exact wpAny_bind (wpAny_typeOf cu (wpAny_pure h))
theorem RP{a:Addr}{F:∀Y:Bool,∀Y:Shared,Prop} (cu:s.TypeIs (.ref a) "set") (h:F false s):wpAny (model prog w) A (Builtin.List.listLengthHint (.ref a)) F bo s:=by
 unfold Builtin.List.listLengthHint;refine wpAny_bind (wpAny_specialOf (name:=Str.ofString "__len__") cu PySem.F.slot_set_len.lookup ?_);have e:splitId "set.__len__"=some ("set","__len__"):=by kernel_rfl
 dsimp only;rw[e];dsimp only;refine wpAny_bind (wpAny_isInstance cu (b:=true) (by rw[isSubtype_type];kernel_rfl) ?_);rw[if_neg (by decide)];rw[if_pos (by decide+kernel)];exact wpAny_bind (wpAny_typeOf cu (wpAny_pure h))
theorem RQ{S I d:Addr}{kvs:List (Int×Value)}{ep:Nat}(bR:A.handled=none)(bE:I≠S)(hd:d≠S)(cP:d≠I):
 wX prog w A S I (fun rest h=>∃i,rest=(kvs.map (·.1)).drop i∧i≤kvs.length∧h.IsKeyIter I d i kvs.length ep∧h.DictAt (intKind prog w) d kvs ep) where
 ne:=bE
 frame:=by
  intro rest h h' k;refine aj ?_;intro i;refine cI ?_;intro e hi ae af;exact⟨i,e,hi,ae.at fun o q=>k _ _ bE q,af.at' fun o q=>k _ _ hd q⟩
 item:=by
  intro rest s;refine aj ?_;intro i;refine cI ?_;rintro rfl hi ae af;by_cases bC:i<kvs.length
  ·obtain⟨⟨k,x⟩,ai⟩:∃p,kvs[i]?=some p:=⟨kvs[i],by simp[bC]⟩;refine wpAny_pyNext_dict_item ae af ai fun key h' uA jM eg=>?_;refine aj ?_ (Value.isInt_shape uA);rintro t rfl;refine⟨⟨h',s.toks,rfl⟩,fun b o av e=>eg.extBut b o av e,k,t,_,rfl,?_,i+1,rfl,bC,jM,af.extBut eg.extBut cP⟩;have ku:(kvs.map (·.1))[i]?=some k:=by simp[ai]
   refine aj ?_ (List.getElem?_eq_some_iff.mp ku);intro fV aS;rw[List.drop_eq_getElem_cons fV,aS]
  ·have:i=kvs.length:=by exact Nat.le_antisymm (aq (.a .p .q (.l .p .q)) rfl hi) (aq (.n (.t .q .p) (.l .p .q)) rfl bC)
   subst this;refine wpAny_pyNext_dict_end bR ae af (by simp) fun h' pD=>?_;exact⟨⟨h',s.toks,rfl⟩,fun b o av e=>pD b o av e,by simp⟩
end
end Mine
end
section
namespace Mine
section
variable{prog:Program}{w:World}{A:Around}{s:Shared}
theorem ite_tt{α:Type}{b:Bool}{x y:Sem α}{F:∀Y:α,∀Y:Shared,Prop} {E:∀Y:Value,∀Y:Shared,Prop} (av:b=true) (h:wpAny (model prog w) A x F E s):wpAny (model prog w) A (if b=true then x else y) F E s:=by rw[if_pos av];exact h
theorem ite_ff{α:Type}{b:Bool}{x y:Sem α}{F:∀Y:α,∀Y:Shared,Prop} {E:∀Y:Value,∀Y:Shared,Prop} (av:b=false) (h:wpAny (model prog w) A y F E s):wpAny (model prog w) A (if b=true then x else y) F E s:=by rw[if_neg (by rw[av];exact Bool.false_ne_true)];exact h
noncomputable abbrev kK(a9:Array (Int×Value))(ep:Nat)(t:SetTable):Obj:=⟨.type "set",none,.set a9 ep t,#[]⟩
noncomputable abbrev lA(first:Value)(i:Nat)(a:Addr)(n ep:Nat):Obj:={cls:=.type "set_iterator",data:=.fields #[first,.int i 0,.ref a,.int n 0,.int ep 0]}
inductive Mode(w:World)(h:Heap)(S I a:Addr)(a9:Array (Int×Value))(ep:Nat)(t:SetTable)(ns:List Int):∀Y:Value,∀Y:List Int,∀Y:Nat,Prop
 |text {sl:Int} {u:Tok} {ms:List Int} {i:Nat}:∀Y:w.params.followText "set-order"=true,∀Y:IntsAre (((pickOrder (w.params.setOrder a ep) a9).toList).map (·.2)) ms,Mode w h S I a a9 ep t ns (.int sl u) ms i
 |draw {P m:Nat} {items:Array Value} {idx:List Nat} {i:Nat}:∀Y:w.params.followText "set-order"=false,∀Y:P≠S,∀Y:P≠I,∀Y:IsT h P items m,∀Y:items.toList=idx.map (fun(j:Nat)=>rawInt j),∀Y:idx.Perm (List.range ns.length),
   Mode w h S I a a9 ep t ns (.ref P) (idx.map fun j=>ns.getD j 0) i
 |plain {sl:Nat} {u:Tok} {i:Nat}:∀Y:w.params.followText "set-order"=false,∀Y:(!t.plain&&decide (a9.size>1))=false,∀Y:SetTable.below t.place sl=i,Mode w h S I a a9 ep t ns (.int sl u) ns i
structure Dx(w:World)(S I a:Addr)(a9:Array (Int×Value))(ep:Nat)(t:SetTable)(ns:List Int)(rest:List Int)(h:Heap):Prop where
 bO:h.get? a=some (kK a9 ep t)
 go:∃first ms i,h.get? I=some (lA first i a a9.size ep)∧rest=ms.drop i∧i≤ms.length∧ms.Perm ns∧Mode w h S I a a9 ep t ns first ms i
theorem Mode.frame{h h':Heap}{S I a:Addr}{a9:Array (Int×Value)}{ep:Nat}{t:SetTable}{ns:List Int}{first:Value}{ms:List Int}{i:Nat}(k:∀b o,∀Y:b≠S,∀Y:b≠I,∀Y:h.get? b=some o,h'.get? b=some o):
 ∀Y:Mode w h S I a a9 ep t ns first ms i,Mode w h' S I a a9 ep t ns first ms i
 |.text e r=>.text e r
 |.draw e ae af bf r p=>.draw e ae af (k _ _ ae af bf) r p
 |.plain e b q=>.plain e b q
theorem z3{a9:Array (Int×Value)}{ns:List Int}(hi:IntsAre (a9.toList.map (·.2)) ns){i:Nat}(h:i<ns.length):∃k t,a9[i]?=some (k,.int ns[i] t):=by
 refine aj ?_ (hi.int_at i (((a9.toList.map (·.2))[i]?).getD .none) (by
  have:i<(a9.toList.map (·.2)).length:=by rw[hi.length];exact h
  rw[List.getElem?_eq_getElem this];rfl));intro t bf
 have aD:i<a9.size:=by have:=hi.length;simp at this;exact aA (.b .p .r (.i (-1) (.e .q .r) (.t .p .q))) rfl h this
 refine⟨a9[i].1,t,?_⟩;rw[Array.getElem?_eq_getElem aD];simp[aD,List.getD,h]at bf;rw[←bf]
theorem z4{h:Heap}{I a:Addr}{first:Value}{i n ep:Nat}(cG:h.get? I=some (lA first i a n ep))(j:Nat)(v:Value):
 (h.update I (Obj.mapFields (·.setIfInBounds j v))).get? I=some {cls:=.type "set_iterator",data:=.fields ((#[first,.int i 0,.ref a,.int n 0,.int ep 0]:Array Value).setIfInBounds j v)}:=
 Heap.get?_update_self _ cG rfl
theorem RS{xs:Array Nat}(h:il xs.toList){i:Nat}(hi:i<xs.size):SetTable.below xs (xs[i]+1)=i+1:=by
 refine aY ?_ (Dt h (xs[i]+1));intro ae af aH;have g1:¬SetTable.below xs (xs[i]+1)≤i:=fun q=>by have:=aH i hi q;exact aI (.a (.b .p) .p .f) rfl this
 have g2:¬i+1<SetTable.below xs (xs[i]+1):=fun q=>by
  have hs:i+1<xs.size:=by exact aA (.a .r .q (.b (.b .p) .r (.t (.b .p) .q))) rfl ae q
  have:=af (i+1) hs q;have:=zV h hi hs (Nat.lt_succ_self i);exact M0 (by assumption) this
 exact Nat.le_antisymm (aq (.n (.t (.b .q) .p) (.l .p (.b .q))) rfl g2) (aq (.n (.l .q .p) (.l (.b .p) .q)) rfl g1)
theorem Jj{A:Around}{s:Shared}{F:∀Y:Fin,∀Y:Shared,Prop} {E:∀Y:Value,∀Y:Shared,Prop} (bR:A.handled=none) (h:∀e h',∀Y:(∀b o,∀Y:s.heap.get? b=some o,h'.get? b=some o),∀Y:Shared.TypeIs {s with heap:=h'} e "StopIteration",E e {s with heap:=h'}):
 wpAny (model prog w) A (newExc (.type "StopIteration") []>>=fun e=>raiseNew e) F E s:=by
 refine wpAny_bind ?_;simp only[newExc,newTuple];refine wpAny_bind (wpAny_newObj_type ?_ (Nat.zero_le _));refine wpAny_bind (m:=firstArgMember _ _) (wpAny_of_eq (a:=Value.none) (by first|rfl|(simp only[firstArgMember];rfl)) ?_);refine wpAny_newObj_type ?_ (by size_fits);refine wpAny_bind (m:=handled) (wpAny_handled ?_);rw[bR];refine wpAny_bind (wpAny_pure (wpAny_throw ?_));refine h _ _ (fun b o e=>Heap.get?_push_of_some _ (Heap.get?_push_of_some _ e)) ?_;exact⟨_,Heap.get?_push_size _ rfl,rfl⟩
noncomputable abbrev fld(h:Heap)(I:Addr)(j:Nat)(v:Value):Heap:=h.update I (Obj.mapFields (·.setIfInBounds j v))
section
variable{A:Around}{s:Shared}{I a:Addr}{a9:Array (Int×Value)}{ep i:Nat}{t:SetTable}
theorem Jk{slot:Nat}{G:∀Y:Option (Value×Nat),∀Y:Shared,Prop} {E:∀Y:Value,∀Y:Shared,Prop} (bO:s.heap.get? a=some (kK a9 ep t)) (bq:t.fits a9.size=true) (jl:w.params.followText "set-order"=true)
 (h:G ((pickOrder (w.params.setOrder a ep) a9)[i]?.map fun e=>(e.2,slot)) s):wpAny (model prog w) A (setNext a slot i ep) G E s:=by
 unfold setNext;refine wpAny_bind (wpAny_setState_of bO rfl bq ?_);refine wpAny_bind (zY (ite_tt jl (ite_ff (by simp) ?_)));unfold setWalk;refine wpAny_bind (wpAny_bind (wpAny_setState_of bO rfl bq ?_));exact wpAny_bind (zY (ite_tt jl (wpAny_bind (wpAny_askSetting (wpAny_pure (wpAny_pure h))))))
theorem Jl{slot:Nat}{r:Option (Value×Nat)}{G:∀Y:Option (Value×Nat),∀Y:Shared,Prop} {E:∀Y:Value,∀Y:Shared,Prop} (bO:s.heap.get? a=some (kK a9 ep t)) (bq:t.fits a9.size=true) (jl:w.params.followText "set-order"=false)
 (i0:(!t.plain&&decide (a9.size>1))=false) (oN:t.led=!w.params.followText "set-order") (av:SetTable.below t.place slot=i)
 (aC:(match a9[i]?,t.place[i]? with|some (_,x),some j=>some (x,j+1)|_,_=>none)=r) (h:G r s):wpAny (model prog w) A (setNext a slot i ep) G E s:=by
 unfold setNext;refine wpAny_bind (wpAny_setState_of bO rfl bq ?_);refine wpAny_bind (zY (ite_ff jl (ite_ff (b:=_) i0 ?_)));refine wpAny_bind (m:=ite _ _ _) (ite_ff (by rw[oN,jl];rfl) (wpAny_pure ?_));subst av aC;exact wpAny_pure h
theorem RT{j:Nat}{k:Int}{x:Value}{G:∀Y:Value,∀Y:Shared,Prop} {E:∀Y:Value,∀Y:Shared,Prop} (bO:s.heap.get? a=some (kK a9 ep t)) (bq:t.fits a9.size=true) (he:a9[j]?=some (k,x)) (h:G x s):
 wpAny (model prog w) A (setNextDrawn a j ep) G E s:=by
 unfold setNextDrawn;refine wpAny_bind (wpAny_setState_of bO rfl bq ?_);refine ite_ff (by simp) ?_;rw[he];exact wpAny_pure h
theorem z5{first:Value}{F:∀Y:Option Value,∀Y:Shared,Prop} (bR:A.handled=none) (cG:s.heap.get? I=some (lA first i a a9.size ep)) (bO:s.heap.get? a=some (kK a9 ep t)) (bq:t.fits a9.size=true)
 (h:(∃(sl:Int)(u:Tok)(r:Option (Value×Nat)),first=.int sl u∧(∀(A:Around)(E:∀Y:Value,∀Y:Shared,Prop) (G:∀Y:Option (Value×Nat),∀Y:Shared,Prop),∀Y:G r s,wpAny (model prog w) A (setNext a sl.toNat i ep) G E s)∧
     ((∃x qY,r=some (x,qY)∧F (some x) {s with heap:=fld (fld s.heap I 0 (rawInt (qY:Nat))) I 1 (rawInt ((i:Int)+1))})∨(r=none∧∀h',∀Y:(∀b o,∀Y:b≠I,∀Y:s.heap.get? b=some o,h'.get? b=some o),F none {s with heap:=h'})))∨
    (∃P items n,first=.ref P∧IsT s.heap P items n∧((∃(j:Nat)(k:Int)(x:Value),items[i]?=some (rawInt j)∧a9[j]?=some (k,x)∧F (some x) {s with heap:=fld s.heap I 1 (rawInt ((i:Int)+1))})∨
      (items[i]?=none∧∀h',∀Y:(∀b o,∀Y:b≠I,∀Y:s.heap.get? b=some o,h'.get? b=some o),F none {s with heap:=h'})))):
 wpAny (model prog w) A (pyNext (.ref I)) F bo s:=by
 have Jm:s.TypeIs (.ref I) "set_iterator":=⟨_,cG,rfl⟩;unfold pyNext
 refine wpAny_bind (wpAny_attempt (wpAny_callSpecial?_slot (name:=Str.ofString "__next__") Jm Du
  (wpAny_call_entry Du Jm Rw ?_ (Rx _))))
 show wpAny _ _ (fieldsOf (.ref I)>>=_) _ _ s;refine wpAny_bind (wpAny_fieldsOf cG rfl ?_);dsimp only;refine wpAny_bind (wpAny_setEntries_of bO rfl bq ?_);refine ite_ff (by simp) ?_;rcases h with⟨sl,u,r,rfl,az,h⟩|⟨P,items,n,rfl,dj,h⟩
 ·refine wpAny_bind (az _ _ _ ?_);rcases h with⟨x,qY,rfl,h⟩|⟨rfl,h⟩
  ·refine wpAny_bind (wpAny_setField cG rfl (by simp) ?_);refine wpAny_bind (wpAny_setField (z4 cG 0 (rawInt (qY:Nat))) rfl (by simp) ?_);exact wpAny_pure ⟨_,rfl,wpAny_bind (wpAny_pure (wpAny_pure h))⟩
  ·refine wpAny_bind (wpAny_setField cG rfl (by simp) ?_);refine Jj (s:={s with heap:=_}) bR fun e h' eU cu=>?_;refine wpAny_bind (wpAny_isInstance (T:="StopIteration") (b:=true) cu isSubtype_stop ?_);exact wpAny_pure (h h' fun b o av q=>eU b o (by rw[Heap.get?_update_ne _ _ _ _ av];exact q))
 ·refine wpAny_bind (m:=seqItems? (.ref P)) ?_;unfold seqItems?;refine wpAny_bind (wpAny_load dj (wpAny_pure ?_));dsimp only;rw[Int.toNat_natCast];rcases h with⟨j,k,x,hi,he,h⟩|⟨hi,h⟩
  ·rw[hi];refine wpAny_bind (m:=setNextDrawn a ((j:Nat):Int).toNat (ep:Int).toNat) (RT bO bq he ?_);refine wpAny_bind (wpAny_setField cG rfl (by simp) ?_);exact wpAny_pure ⟨_,rfl,wpAny_bind (wpAny_pure (wpAny_pure h))⟩
  ·rw[hi];refine wpAny_bind (wpAny_setField cG rfl (by simp) ?_);refine wpAny_bind (wpAny_setField (z4 cG 0 (rawInt 0)) rfl (by simp) ?_);refine Jj (s:={s with heap:=_}) bR fun e h' eU cu=>?_;refine wpAny_bind (wpAny_isInstance (T:="StopIteration") (b:=true) cu isSubtype_stop ?_);exact wpAny_pure (h h' fun b o av q=>eU b o (by rw[Heap.get?_update_ne _ _ _ _ av,Heap.get?_update_ne _ _ _ _ av];exact q))
end
section
variable{A:Around}{s:Shared}{I a:Addr}{a9:Array (Int×Value)}{ep i:Nat}{t:SetTable}{F:∀Y:Option Value,∀Y:Shared,Prop} (bR:A.handled=none) (bO:s.heap.get? a=some (kK a9 ep t)) (bq:t.fits a9.size=true)
include bR bO bq
theorem Jo{sl:Int}{u:Tok}{x:Value}{qY:Nat}(cG:s.heap.get? I=some (lA (.int sl u) i a a9.size ep))(az:∀(A:Around)(E:∀Y:Value,∀Y:Shared,Prop) (G:∀Y:Option (Value×Nat),∀Y:Shared,Prop),∀Y:G (some (x,qY)) s,wpAny (model prog w) A (setNext a sl.toNat i ep) G E s)
 (h:F (some x) {s with heap:=fld (fld s.heap I 0 (rawInt qY)) I 1 (rawInt ((i:Int)+1))}):wpAny (model prog w) A (pyNext (.ref I)) F bo s:=z5 bR cG bO bq (.inl ⟨sl,u,_,rfl,az,.inl ⟨x,qY,rfl,h⟩⟩)
theorem Jp{sl:Int}{u:Tok}(cG:s.heap.get? I=some (lA (.int sl u) i a a9.size ep))(az:∀(A:Around)(E:∀Y:Value,∀Y:Shared,Prop) (G:∀Y:Option (Value×Nat),∀Y:Shared,Prop),∀Y:G none s,wpAny (model prog w) A (setNext a sl.toNat i ep) G E s)
 (h:∀h',∀Y:(∀b o,∀Y:b≠I,∀Y:s.heap.get? b=some o,h'.get? b=some o),F none {s with heap:=h'}):wpAny (model prog w) A (pyNext (.ref I)) F bo s:=z5 bR cG bO bq (.inl ⟨sl,u,none,rfl,az,.inr ⟨rfl,h⟩⟩)
theorem RU{P n j:Nat}{k:Int}{x:Value}{items:Array Value}(cG:s.heap.get? I=some (lA (.ref P) i a a9.size ep))(dj:IsT s.heap P items n)(hi:items[i]?=some (rawInt j))(he:a9[j]?=some (k,x))
 (h:F (some x) {s with heap:=fld s.heap I 1 (rawInt ((i:Int)+1))}):wpAny (model prog w) A (pyNext (.ref I)) F bo s:=z5 bR cG bO bq (.inr ⟨P,items,n,rfl,dj,.inl ⟨j,k,x,hi,he,h⟩⟩)
theorem RV{P n:Nat}{items:Array Value}(cG:s.heap.get? I=some (lA (.ref P) i a a9.size ep))(dj:IsT s.heap P items n)(hi:items[i]?=none)
 (h:∀h',∀Y:(∀b o,∀Y:b≠I,∀Y:s.heap.get? b=some o,h'.get? b=some o),F none {s with heap:=h'}):wpAny (model prog w) A (pyNext (.ref I)) F bo s:=z5 bR cG bO bq (.inr ⟨P,items,n,rfl,dj,.inr ⟨hi,h⟩⟩)
end
section
variable{S I a:Addr}{a9:Array (Int×Value)}{ep i:Nat}{t:SetTable}{ns ms:List Int}{first:Value}
noncomputable def Dy(w:World)(s:Shared)(S I a:Addr)(a9:Array (Int×Value))(ep:Nat)(t:SetTable)(ns rest:List Int)(l0:Option Value)(s':Shared):Prop:=
 (∃h' tk,s'={s with heap:=h',toks:=tk})∧(∀b o,b≠I→s.heap.get? b=some o→s'.heap.get? b=some o)∧match l0 with|none=>rest=[]|some v=>∃n RW uv,v=.int n RW∧rest=n::uv∧Dx w S I a a9 ep t ns uv s'.heap
theorem Dz{h':Heap}{v:Int}{u:Tok}(bO:s.heap.get? a=some (kK a9 ep t))(cP:a≠I)(cv:∀b o,∀Y:b≠I,∀Y:s.heap.get? b=some o,h'.get? b=some o) (cG:h'.get? I=some (lA first (i+1) a a9.size ep)) (hd:ms.drop i=v::ms.drop (i+1))
 (bC:i<ms.length) (aQ:ms.Perm ns) (hm:Mode w h' S I a a9 ep t ns first ms (i+1)):Dy w s S I a a9 ep t ns (ms.drop i) (some (.int v u)) {s with heap:=h'}:=
 ⟨⟨h',s.toks,rfl⟩,cv,v,u,_,rfl,hd,⟨cv _ _ cP bO,first,ms,i+1,cG,rfl,bC,aQ,hm⟩⟩
theorem DA(d5:ms.length≤i)(h':Heap)(cv:∀b o,∀Y:b≠I,∀Y:s.heap.get? b=some o,h'.get? b=some o):Dy w s S I a a9 ep t ns (ms.drop i) none {s with heap:=h'}:=
 ⟨⟨h',s.toks,rfl⟩,cv,List.drop_eq_nil_of_le d5⟩
theorem uB{h:Heap}{j:Nat}{v:Value}:∀b o,∀Y:b≠I,∀Y:h.get? b=some o,(fld h I j v).get? b=some o:=fun b o av e=>by
 rw[Heap.get?_update_ne _ _ _ _ av];exact e
theorem Jq{h:Heap}{n:Nat}(cG:h.get? I=some (lA first i a n ep)):(fld h I 1 (rawInt ((i:Int)+1))).get? I=some (lA first (i+1) a n ep):=z4 cG 1 _
theorem Jr{h:Heap}{n:Nat}{v:Value}(cG:h.get? I=some (lA first i a n ep)):(fld (fld h I 0 v) I 1 (rawInt ((i:Int)+1))).get? I=some (lA v (i+1) a n ep):=Jq (z4 cG 0 v)
theorem RX{A:Around}(bR:A.handled=none)(cP:a≠I)(hi:IntsAre (a9.toList.map (·.2)) ns)(qZ:il t.place.toList)(bq:t.fits a9.size=true)(oN:t.led=!w.params.followText "set-order")
 (bO:s.heap.get? a=some (kK a9 ep t))(cG:s.heap.get? I=some (lA first i a a9.size ep))(hle:i≤ms.length)(aQ:ms.Perm ns)(hm:Mode w s.heap S I a a9 ep t ns first ms i):
 wpAny (model prog w) A (pyNext (.ref I)) (Dy w s S I a a9 ep t ns (ms.drop i)) bo s:=by
 have c8:a9.size=ns.length:=by rw[←hi.length,List.length_map,Array.length_toList]
 have nE:=aQ.length_eq;cases hm with
 |@text sl u _ _ jl hints=>
  rcases Nat.lt_or_ge i ms.length with bC|d5
  ·refine bZ ?_ (z3 hints bC);intro k e8 he;exact Jo bR bO bq cG (fun A E G g=>Jk bO bq jl (by rw[he];exact g)) (Dz bO cP (fun b o av e=>uB b o av (uB b o av e)) (Jr cG) (List.drop_eq_getElem_cons bC) bC aQ (.text jl hints))
  ·have mS:(pickOrder (w.params.setOrder a ep) a9)[i]?=none:=Array.getElem?_eq_none (by rw[←Array.length_toList,←List.length_map (f:=(·.2)),hints.length];exact d5);exact Jp bR bO bq cG (fun A E G g=>Jk bO bq jl (by rw[mS];exact g)) (DA d5)
 |@draw P m items idx _ jl RY z6 dj hits Js=>
  rcases Nat.lt_or_ge i idx.length with q1|d5
  ·have aP:idx[i]<ns.length:=List.mem_range.mp (Js.mem_iff.mp (List.getElem_mem q1));refine bZ ?_ (z3 hi aP);intro k e8 he;have bC:i<(idx.map fun j=>ns.getD j 0).length:=by rw[List.length_map];exact q1
   refine RU bR bO bq cG dj (j:=idx[i]) ?_ he (Dz bO cP uB (Jq cG) ((List.drop_eq_getElem_cons bC).trans ?_) bC aQ (.draw jl RY z6 (uB _ _ z6 dj) hits Js))
   ·rw[←Array.getElem?_toList,hits,List.getElem?_map,List.getElem?_eq_getElem q1];rfl
   ·rw[List.getElem_map,List.getD_eq_getElem?_getD,List.getElem?_eq_getElem aP];rfl
  ·refine RV bR bO bq cG dj ?_ (DA (by rw[List.length_map];exact d5));rw[←Array.getElem?_toList,hits,List.getElem?_map,List.getElem?_eq_none d5];rfl
 |@plain sl u _ jl i0 av=>
  rcases Nat.lt_or_ge i ns.length with z7|d5
  ·refine bZ ?_ (z3 hi z7);intro k e8 he;have Jt:i<t.place.size:=by unfold SetTable.fits at bq;simp at bq;rw[bq.1,c8];exact z7
   exact Jo bR bO bq cG (fun A E G g=>Jl (r:=some (.int ns[i] e8,t.place[i]+1)) bO bq jl i0 oN av (by rw[he,Array.getElem?_eq_getElem Jt]) g)
    (Dz bO cP (fun b o av e=>uB b o av (uB b o av e)) (Jr cG) (List.drop_eq_getElem_cons z7) z7 aQ (.plain jl i0 (RS qZ Jt)))
  ·have mS:a9[i]?=none:=Array.getElem?_eq_none (by rw[c8];exact d5);exact Jp bR bO bq cG (fun A E G g=>Jl bO bq jl i0 oN av (by rw[mS]) g) (DA d5)
theorem RZ{A:Around}(bR:A.handled=none)(bE:I≠S)(aJ:a≠S)(cP:a≠I)(hi:IntsAre (a9.toList.map (·.2)) ns)
 (qZ:il t.place.toList)(bq:t.fits a9.size=true)(oN:t.led=!w.params.followText "set-order"):wX prog w A S I (Dx w S I a a9 ep t ns) where
 ne:=bE
 frame:=by
  rintro rest h h' k ⟨bO,first,ms,i,cG,e,hle,aQ,hm⟩;exact⟨k _ _ aJ bO,first,ms,i,k _ _ bE cG,e,hle,aQ,hm.frame fun b o ae Y q=>k b o ae q⟩
 item:=by
  rintro rest s ⟨bO,first,ms,i,cG,rfl,hle,aQ,hm⟩;exact RX bR cP hi qZ bq oN bO cG hle aQ hm
end
end
end Mine
end
section
namespace Mine
theorem DB{l ia:List Value}{ns:List Int}(hi:IntsAre l ns)(p:ia.Perm l):∃ms,IntsAre ia ms∧ms.Perm ns:=by
 refine⟨ia.map numOf,intsAre_map ia fun v aO=>hi.all v (p.mem_iff.mp aO),?_⟩;have:=p.map numOf
 rwa [hi.nums]at this
theorem R0{xs:Array Nat}(h:il xs.toList):SetTable.below xs 0=0:=by
 refine aY ?_ (Dt h 0);intro ae af aH;rcases Nat.eq_zero_or_pos (SetTable.below xs 0)with q|q
 ·exact q
 ·exact absurd (af 0 (by exact aq (.a .q .p (.b .z .q (.t .z .p))) rfl ae q) q) (Nat.not_lt_zero _)
theorem R1{ns:List Int}{idx:List Nat}(p:idx.Perm (List.range ns.length)):(idx.map fun j=>ns.getD j 0).Perm ns:=by
 have e:(List.range ns.length).map (fun j=>ns.getD j 0)=ns:=by
  apply List.ext_getElem
  ·simp
  ·intro i ae af;simp[List.getD,af]
 have:=p.map fun j=>ns.getD j 0
 rwa [e]at this
section
variable{prog:Program}{w:World}{A:Around}{s:Shared}
theorem R2{a S:Addr}{ns:List Int}{F:∀Y:Value,∀Y:Shared,Prop} (aL:A.handled=none) (dc:gJ w s.heap a ns) (cP:a≠S) (mT:∃o,s.heap.get? S=some o) (hlen:ns.length≤1000000)
 (h:∀I St rest h' tk d,∀Y:(∀b o,∀Y:s.heap.get? b=some o,h'.get? b=some o),∀Y:s.heap.get? I=none,∀Y:wX prog w A S I St,∀Y:St rest h',∀Y:rest.Perm ns,F (.ref I) {s with heap:=h',toks:=tk,drawn:=d}):
 wpAny (model prog w) A (pyIter (.ref a)) F bo s:=by
 refine bG ?_ dc;clear dc;intro a9 ep t;refine nU ?_;intro bO hi z8 kL qZ bq oN;have cu:s.TypeIs (.ref a) "set":=⟨_,bO,rfl⟩;have c8:a9.size=ns.length:=by have:=hi.length;simpa using this
 have XZ:a<s.heap.objs.size:=Heap.lt_size bO;refine aj ?_ mT;clear mT;intro z9 mT;have R3:S<s.heap.objs.size:=Heap.lt_size mT;have iA:1000000≤sizeLine:=by decide
 refine wpAny_pyIter_slot cu PySem.F.slot_set_iter (wpAny_call_entry PySem.F.slot_set_iter cu Ry ?_ (PySem.F.args_set_iter_1 _));show wpAny _ _ (Builtin.Frozenset.sizeOf a>>=_) _ _ s;unfold Builtin.Frozenset.sizeOf;refine wpAny_bind (wpAny_bind (wpAny_setEntries_of bO rfl bq (wpAny_pure ?_)));unfold setDrawn;refine wpAny_bind ?_;refine wpAny_bind (wpAny_setState_of bO rfl bq ?_);refine wpAny_bind (zY (wpAny_pure ?_))
 have fin:∀(first:Value)(bU:Heap)(d:Drawn)(ms:List Int),∀Y:(∀b o,∀Y:s.heap.get? b=some o,bU.get? b=some o),∀Y:ms.Perm ns,
  ∀Y:(∀o,Mode w (bU.push o) S bU.objs.size a a9 ep t ns first ms 0),
  wpAny (model prog w) A.in1 (do ret (←newFields "set_iterator" [first,rawInt 0,.ref a,rawInt a9.size,rawInt (←setEpoch a)])) (fun fin s'=>∃r,fin=.done (.ret r)∧∃Ju R4,s'.TypeIs r Ju∧typeLookup (.type Ju) (Str.ofString "__next__")=pure (some R4)∧F r s') bo {s with heap:=bU,drawn:=d}:=by
  intro first bU d ms cT aQ hm
  refine wpAny_bind (wpAny_setEpoch_of (s:={s with heap:=bU,drawn:=d}) (cT _ _ bO) rfl bq ?_);unfold newFields;refine wpAny_bind (wpAny_newObj_type ?_ (by size_fits));refine wpAny_pure ⟨_,rfl,"set_iterator",_,⟨_,Heap.get?_push_size _ rfl,rfl⟩,Du.lookup,?_⟩;have eU:∀b o,∀Y:s.heap.get? b=some o,(bU.push (lA first 0 a a9.size ep)).get? b=some o:=fun b o e=>Heap.get?_push_of_some _ (cT b o e);have hIn:s.heap.get? bU.objs.size=none:=G9 cT;refine h bU.objs.size (Dx w S bU.objs.size a a9 ep t ns) ms _ s.toks d eU hIn (RZ aL (fun e=>?_) cP (fun e=>?_) hi qZ bq oN) ?_ aQ
  ·rw[e,mT]at hIn;cases hIn
  ·rw[←e,bO]at hIn;cases hIn
  ·exact⟨eU _ _ bO,first,ms,0,Heap.get?_push_size _ rfl,rfl,Nat.zero_le _,aQ,hm _⟩
 cases jl:w.params.followText "set-order" with
 |true=>
  refine aj ?_ (DB hi ((RE (w.params.setOrder a ep) a9).map (·.2)));intro ms;refine ar ?_;intro sM aQ;refine ite_ff rfl (wpAny_bind (wpAny_pure ?_));exact fin (rawInt 0) s.heap s.drawn ms (fun Y Y e=>e) aQ fun o=>.text jl sM
 |false=>
  cases DC:(!t.plain&&decide (a9.size>1))with
  |false=>
   refine ite_ff (b:=_) DC (wpAny_bind (wpAny_pure ?_));exact fin (rawInt 0) s.heap s.drawn ns (fun Y Y e=>e) (.refl _) fun o=>.plain (sl:=0) jl DC (R0 qZ)
  |true=>
   refine ite_tt (b:=_) DC (wpAny_bind ?_);refine RA _ _ (by simp) fun idx d aQ=>?_;refine wpAny_bind (wpAny_newTuple ?_ (by rw[List.length_map,aQ.length_eq,List.length_range];exact aA (.a .r (.k 1000000) (.c .p .r (.a (.k 1000000) .q (.l .p .q)))) rfl hlen c8 iA));rw[c8]at aQ;have cT:∀b o,∀Y:s.heap.get? b=some o,(s.heap.push (seqObj "tuple" (idx.map fun(i:Nat)=>rawInt i).toArray 0)).get? b=some o:=fun b o e=>Heap.get?_push_of_some _ e;have b8:(s.heap.push (seqObj "tuple" (idx.map fun(i:Nat)=>rawInt i).toArray 0)).get? s.heap.objs.size=some (seqObj "tuple" (idx.map fun(i:Nat)=>rawInt i).toArray 0):=Heap.get?_push_size _ rfl;refine fin (.ref s.heap.objs.size) _ d _ cT (R1 aQ) fun o=>.draw (m:=0) (items:=(idx.map fun(i:Nat)=>rawInt i).toArray) jl (Nat.ne_of_gt R3) ?_ ?_ (by simp) aQ
   ·rw[size_push'];exact Nat.ne_of_lt (Nat.lt_succ_self _)
   ·exact Heap.get?_push_of_some _ b8
end
end Mine
end
section
namespace Mine
section
variable{prog:Program}{w:World}{A:Around}{s:Shared}
theorem R5{a9:Array (Int×Value)}(h:∀e∈a9.toList,∃k tk,e=(hashInt k,Value.int k tk)):ElemsOf (intKind prog w) a9.toList:=fun e he=>by
 refine bZ ?_ (h e he);rintro k tk rfl;exact⟨⟨k,by simp[intKind,Value.isInt],rfl⟩,rfl⟩
theorem Jv{a:Addr}{a9 fx:Array (Int×Value)}{ep:Nat}{t t1:SetTable}{F:∀Y:Unit,∀Y:Shared,Prop} (bO:s.heap.get? a=some (kK a9 ep t)) (aU:fx.size≤100000)
 (h:∀h',∀Y:Heap.SameBut a s.heap h',∀Y:h'.get? a=some (kK fx (ep+1) t1),F () {s with heap:=h'}):wpAny (model prog w) A (storeSet a fx t1) F bo s:=
 wpAny_storeSet_of bO rfl (h _ (Heap.SameBut.update ..) (by
  have:=Heap.get?_update_self (Obj.putSet fx t1) bO (by rw[putSet_of fx t1 rfl];rfl);rw[putSet_of fx t1 rfl]at this;exact this)) (Nat.le_trans aU (by decide))
structure sN(w:World)(a9:Array (Int×Value))(t:SetTable)(ns:List Int):Prop where
 vals:IntsAre (a9.toList.map (·.2)) ns
 Jw:∀e∈a9.toList,∃k tk,e=(hashInt k,Value.int k tk)
 nodup:ns.Nodup
 asc:il t.place.toList
 fits:t.fits a9.size=true
 led:t.led=!w.params.followText "set-order"
theorem sN.perm{a9 fx:Array (Int×Value)}{t t1:SetTable}{ns:List Int}(h:sN w a9 t ns)(p:fx.toList.Perm a9.toList)(aJ:il t1.place.toList)(bq:t1.fits fx.size=true)(aD:t1.led=t.led):∃ms,sN w fx t1 ms∧ms.Perm ns:=by
 refine aj ?_ (DB h.vals (p.map (·.2)));intro ms;refine ar ?_;intro hm aQ;exact⟨ms,⟨hm,fun e he=>h.Jw e (p.mem_iff.mp he),aQ.nodup_iff.mpr h.nodup,aJ,bq,aD.trans h.led⟩,aQ⟩
theorem sN.at_{h:Heap}{a:Addr}{a9:Array (Int×Value)}{ep:Nat}{t:SetTable}{ns:List Int}(x:sN w a9 t ns)(bO:h.get? a=some (kK a9 ep t)):gJ w h a ns:=
 ⟨a9,ep,t,bO,x.vals,x.Jw,x.nodup,x.asc,x.fits,x.led⟩
theorem Jx{g:∀Y:Bool,Sem Unit} (b8:∀(b:Bool){ba:Shared}{iW:∀Y:Unit,∀Y:Shared,Prop},∀Y:iW () ba,wpAny (model prog w) A (g b) iW bo ba)
 {a:Addr} {a9 fx:Array (Int×Value)} {ep:Nat} {t t1:SetTable} {DD:List Int} (bO:s.heap.get? a=some (kK a9 ep t)) (x:sN w fx t1 DD) (aU:fx.size≤100000) {DE:Bool} {R:∀Y:Option Bool,∀Y:Shared,Prop}
 (h:∀h' jS,∀Y:Heap.SameBut a s.heap h',∀Y:gJ w h' a jS,∀Y:jS.Perm DD,R (some true) {s with heap:=h'}):
 wpAny (model prog w) A (do
  storeSet a fx t1
  if(!DE&&t1.tooFull)=true then do
     g (relayAll t1 fx (SetTable.grown fx.size)).2.2
     storeSet a (relayAll t1 fx (SetTable.grown fx.size)).1 (relayAll t1 fx (SetTable.grown fx.size)).2.1
     pure (some true)
   else pure (some true)) R bo s:=by
 refine wpAny_bind (Jv bO aU fun ae cT Jy=>?_);by_cases aG:(!DE&&t1.tooFull)=true
 ·rw[if_pos aG];have aQ:=relayAll_perm t1 fx (SetTable.grown fx.size);have bq:=relayAll_fits t1 fx (SetTable.grown fx.size);have aJ:=Rv (t:=t1) fx (SetTable.grown fx.size);generalize relayAll t1 fx (SetTable.grown fx.size)=L at aQ bq aJ ⊢;obtain⟨X0,kG,gave⟩:=L;dsimp only at aQ bq aJ ⊢;refine aj ?_ (x.perm aQ aJ.1 bq aJ.2);intro ms;refine ar ?_;intro sM Aa;refine wpAny_bind (b8 _ (wpAny_bind (Jv (s:={s with heap:=ae}) Jy (by rw[←Array.length_toList,aQ.length_eq,Array.length_toList];exact aU) fun af eU R6=>wpAny_pure ?_)));exact h af ms (cT.trans eU) (sM.at_ R6) Aa
 ·rw[if_neg aG];exact wpAny_pure (h ae DD cT (x.at_ Jy) (.refl _))
theorem R7{a:Addr}{ns:List Int}{n:Int}{u:Tok}{F:∀Y:Bool,∀Y:Shared,Prop} (dc:gJ w s.heap a ns) (hlen:ns.length<1000)
 (h:∀b h' tk jS,∀Y:Heap.SameBut a s.heap h',∀Y:gJ w h' a jS,∀Y:jS.Perm (if n∈ns then ns else ns++[n]),F b {s with heap:=h',toks:=tk}):wpAny (model prog w) A (setAdd a (.int n u)) F bo s:=by
 refine bG ?_ (id dc);intro a9 ep t;refine nU ?_;intro bO hi z8 kL qZ bq oN;have c8:a9.size=ns.length:=by have:=hi.length;simpa using this
 have g9:=R5 (prog:=prog) (w:=w) z8;have uA:(intKind prog w).is n (.int n u)=true:=by simp[intKind,Value.isInt]
 have av:a9.size<scanBound:=by rw[c8];exact Nat.lt_of_lt_of_le hlen (by decide)
 unfold setAdd;refine wpAny_holding ?_;refine wpAny_bind ((intKind prog w).pyHash (k:=n) uA ?_);unfold setAddHashed setAddHashedIn;refine wpAny_holding (wpAny_bind (wpAny_setState_of (s:={s with toks:=s.toks+1}) bO rfl bq ?_));dsimp only;refine ite_tt (byScan_of rfl av g9) ?_;unfold setAddByScan;refine wpAny_bind ?_;refine wpAny_bind (wpAny_rule ?_);refine wpAny_bind (wpAny_setScan_of (knd:=intKind prog w) (s:={s with toks:=s.toks+1}) uA bO rfl bq g9 ?_)
 have g7:n∈ns↔∃e∈a9.toList,(intKind prog w).is n e.2=true:=by
  constructor
  ·intro az;obtain⟨i,fV,rfl⟩:=List.mem_iff_getElem.mp az;refine bZ ?_ (z3 hi fV);intro k tk he;exact⟨_,List.mem_of_getElem? (by rw[Array.getElem?_toList];exact he),by simp[intKind,Value.isInt]⟩
  ·refine aj ?_;intro e;refine ar ?_;intro he aK;refine bZ ?_ (z8 e he);rintro k tk rfl;have:k=n:=by simpa [intKind,Value.isInt]using aK
   subst this;have hm:Value.int k tk∈a9.toList.map (·.2):=List.mem_map.mpr ⟨_,he,rfl⟩;have:numOf (Value.int k tk)∈(a9.toList.map (·.2)).map numOf:=List.mem_map.mpr ⟨_,hm,rfl⟩;rw[hi.nums]at this;exact this
 cases aC:List.findIdx? (fun e=>(intKind prog w).is n e.2) a9.toList with
 |some j=>
  dsimp only;refine aj ?_ (List.findIdx?_eq_some_iff_getElem.mp aC);intro aP;refine ar ?_;intro R8 _;have az:n∈ns:=g7.mpr ⟨a9.toList[j],List.getElem_mem aP,R8⟩;refine wpAny_pure (wpAny_pure ?_);exact h _ s.heap _ ns (Heap.SameBut.refl a s.heap) dc (by rw[if_pos az])
 |none=>
  dsimp only
  have az:n∉ns:=fun q=>by
   refine aj ?_ (g7.mp q);intro e;refine ar ?_;intro he aQ;have:=List.findIdx?_eq_none_iff.mp aC e he;rw[aQ]at this;exact Bool.noConfusion this
  have pZ:=layNew_perm t a9 (hashInt n) (.int n u);have DF:=layNew_fits t a9 (hashInt n) (.int n u);have Ab:=Rr qZ a9 (hashInt n) (.int n u);rw[show(intKind prog w).hash n=hashInt n from rfl];generalize eQ:layNew t a9 (hashInt n) (.int n u)=L at pZ DF Ab ⊢;obtain⟨fx,t1,DE,gave⟩:=L;dsimp only at pZ DF Ab ⊢;rw[Array.toList_push]at pZ
  have ai:∃ms,sN w fx t1 ms∧ms.Perm (ns++[n]):=by
   have R9:IntsAre ((a9.toList++[(hashInt n,Value.int n u)]).map (·.2)) (ns++[n]):=by
    rw[List.map_append];exact IntsAre.append hi (.cons n u .nil)
   refine aj ?_ (DB R9 (pZ.map (·.2)));intro ms;refine ar ?_;intro hm aQ;refine⟨ms,⟨hm,fun e he=>?_,aQ.nodup_iff.mpr ?_,Ab.1,DF,Ab.2.trans oN⟩,aQ⟩
   ·rcases List.mem_append.mp (pZ.mem_iff.mp he)with q|q
    ·exact z8 e q
    ·rw[List.mem_singleton.mp q];exact⟨n,u,rfl⟩
   ·rw[List.nodup_append];exact⟨kL,by simp,fun x ai y au e=>az (by rw[←List.mem_singleton.mp au,←e];exact ai)⟩
  refine aj ?_ ai;clear ai;intro ms;refine ar ?_;intro sM Aa
  have zR:fx.size≤100000:=by
   have:=sM.vals.length;have af:=Aa.length_eq;simp at this af;exact aA (.i 100 (.t .q (.k 1000)) (.i 100 (.e .p .r) (.i 100 (.e .r (.b .q)) (.l .p (.k 100000))))) rfl hlen this af
  have DG:∀(b:Bool){ba:Shared}{iW:Unit→Shared→Prop},iW () ba→wpAny (model prog w) A (match b with|true=>rule "set.scan.the-table-gave-way"|false=>pure ()) iW bo ba:=
   fun b ba iW bb=>by cases b<;>first|exact wpAny_pure bb|exact wpAny_rule bb
  refine wpAny_bind (DG _ ?_)
  have nw:∀h' jS,∀Y:Heap.SameBut a s.heap h',∀Y:gJ w h' a jS,∀Y:jS.Perm ms,F true {s with heap:=h',toks:=s.toks+1}:=fun h' jS cT r p=>
   h true h' _ jS cT r (by rw[if_neg az];exact p.trans Aa)
  by_cases fO:t1.plain=true
  ·rw[if_pos fO,hashByValue_scannable 8 (x:=Value.int n u) rfl];refine wpAny_bind (wpAny_pure ?_);exact Jx (g:=fun b=>match b with|true=>rule "set.scan.the-table-gave-way"|false=>pure ()) (s:={s with toks:=s.toks+1}) DG bO sM zR fun h' jS cT r p=>wpAny_pure (nw h' jS cT r p)
  ·rw[if_neg fO];refine wpAny_bind (wpAny_pure ?_);exact Jx (g:=fun b=>match b with|true=>rule "set.scan.the-table-gave-way"|false=>pure ()) (s:={s with toks:=s.toks+1}) DG bO sM zR fun h' jS cT r p=>wpAny_pure (nw h' jS cT r p)
end
end Mine
end
section
namespace Mine
section
variable{prog:Program}{w:World}{B:Heap}{A:Around}{E:∀Y:Value,∀Y:Shared,Prop} {s:Shared}
theorem Jz(a:Value){Q₁:∀Y:Value,∀Y:Shared,Prop} (h:Q₁ (.ref s.heap.objs.size) {s with heap:=s.heap.push (kK #[] 0 (.fresh 0 0 (!w.params.followText "set-order")))}):
 codeAny (model prog w) A (.call (.builtin "set.__new__") ⟨[.type "set",a],[]⟩) (wants Q₁ E) s:=by
 refine codeAny_of_tree ?_;show wpAny _ A.in1 (do checkBuiltinCall "set.__new__" ⟨[.type "set",a],[]⟩;again (.builtin "set.__new__" ⟨[.type "set",a],[]⟩)) _ _ s;refine wpAny_bind (wpAny_of_eq (PySem.F.newCall_set_1 a) (wpAny_pure ⟨plainId_quiet PySem.F.plain_set_new _,codeAny_builtin PySem.F.entry_set_new ?_⟩));rw[Around.under_plainId PySem.F.plain_set_new _];unfold Builtin.«set.__new__» Builtin.Frozenset.newClass;have Ac:=sub_set_self;obtain⟨aQ,g,d,tk,os⟩:=s;dsimp only
 wp_walk
 refine wpAny_askSetting (wpAny_pure ?_);dsimp only;simp only[newObj];refine wpAny_bind (wpAny_alloc (wpAny_pure ?_));exact wpAny_pure h
theorem gJ.fresh{h:Heap}:gJ w (h.push (kK #[] 0 (.fresh 0 0 (!w.params.followText "set-order")))) h.objs.size []:=
 ⟨#[],0,_,Heap.get?_push_size _ rfl,.nil,by simp,.nil,.nil,rfl,rfl⟩
theorem Sa{am:List Addr}{st:St}{x:ah}{I S:Addr}{ns:List Int}(bR:A.in1.handled=none)(e:jv x st=some (ns.map .int))(Cs:I∉am)(Sb:B.get? I=none)(Sd:S∉am)(Se:B.get? S=none)(cP:S≠I)(hlen:ns.length<900):
 ∀(n i:Nat){s:Shared}{R:∀Y:Result,∀Y:Shared,Prop} (cur:List Int),∀Y:ns.length-i=n,∀Y:bh prog w B am s.heap st,∀Y:iI am s.heap I x i,∀Y:(∃o,s.heap.get? I=some o∧¬Kept o),∀Y:gJ w s.heap S cur,∀Y:cur.length≤i,∀Y:(∀z,z∈cur↔z∈ns.take i),
  ∀Y:(∀h' tk JA,∀Y:(∀b o,∀Y:b≠S,∀Y:b≠I,∀Y:s.heap.get? b=some o,h'.get? b=some o),∀Y:gJ w h' S JA,∀Y:(∀z,z∈JA↔z∈ns),R (.ok (.ret .none)) {s with heap:=h',toks:=tk}),
  codeAny (model prog w) A (.builtin "set.update.loop" ⟨[.ref S,.ref I],[]⟩) R s:=by
 intro n
 induction n with
 |zero=>
  intro i s R cur az Ad cG ll dc cf jd fe;refine codeAny_builtin PyProof.Rows.F.entry_set_update_loop ?_;rw[Around.under_plainId PyProof.Rows.F.plain_set_update_loop _];show wpAny _ A.in1 (pyNext (.ref I)>>=_) _ _ s;refine wpAny_bind (never (yM bR Ad cG ll e ⟨fun y v h' tk au=>?_,fun h' tk hle hs=>?_⟩))
  ·have:=(List.getElem?_eq_some_iff.mp au).1;rw[List.length_map]at this;exact(aA (.c .p .z (.b .q .r (.a .r (.a .p .q) .f))) rfl az this (b5 _ _):False).elim
  ·show wpAny _ A.in1 (ret Value.none) _ _ _;refine wpAny_pure (fe h' tk cur (fun b o ae af q=>hs b o af q) (dc.at_ w fun o q=>hs _ _ cP q) fun z=>?_);rw[jd z,List.take_of_length_le (by exact aA (.c .r .z (.a .p (.a .r .q) (.l .p .q))) rfl az (b5 _ _))]
 |succ n ih=>
  intro i s R cur az Ad cG ll dc cf jd fe;refine codeAny_builtin PyProof.Rows.F.entry_set_update_loop ?_;rw[Around.under_plainId PyProof.Rows.F.plain_set_update_loop _];show wpAny _ A.in1 (pyNext (.ref I)>>=_) _ _ s;have hi:i<ns.length:=by exact(Nat.le_total _ _).elim (fun ay=>bA (.i (-1) (.e .r (.b .s)) (.c (.a .r .p) .q (.t .p .q))) rfl az (Nat.sub_add_cancel ay)) (fun aE=>(aq (.i (-1) (.e .p (.b .q)) (.c .p .z .f)) rfl az (Nat.sub_eq_zero_of_le aE):False).elim)
  refine wpAny_bind (never (yM bR Ad cG ll e ⟨fun y v h' tk au hs JB aO jM=>?_,fun h' tk hle hs=>?_⟩))
  ·have uC:y=.int ns[i]:=by
    rw[List.getElem?_map,List.getElem?_eq_getElem hi]at au;exact(Option.some.inj au).symm
   subst uC;cases aO with
   |@int _ t=>
    have wY:gJ w h' S cur:=dc.at_ w fun o q=>hs _ _ cP q;show wpAny _ A.in1 (holding [Value.int ns[i] t] (setAdd S (.int ns[i] t))>>=_) _ _ _;refine wpAny_bind (wpAny_holding (never (R7 (s:={s with heap:=h',toks:=tk}) wY (by exact aA (.i 999 (.t .q (.k 900)) (.i 999 (.l .p .r) (.i 999 (.t .r .q) (.G 897 (.t .p (.k 1000)))))) rfl hlen cf hi) fun b af JC Sf eU uz aQ=>?_)));refine ar ?_ (Ad.gY hs ⟨ll,Cs,Sb⟩);intro mJ JD;refine aj ?_ wY.there;intro z9;refine ar ?_;intro Sg nF;have Ae:∀b o,∀Y:b≠S,∀Y:h'.get? b=some o,af.get? b=some o:=fun b o av q=>by rw[eU.2 b av];exact q
    refine ar ?_ (mJ.gY Ae ⟨⟨z9,Sg,nF⟩,Sd,Se⟩);intro Af Ag;have f9:ns.take (i+1)=ns.take i++[ns[i]]:=by rw[List.take_add_one,List.getElem?_eq_getElem hi];rfl
    refine wpAny_pure ⟨plainId_quiet PyProof.Rows.F.plain_set_update_loop _,ih (i+1) Sf (by exact Nat.le_antisymm ((Nat.le_total _ _).elim (fun ay=>cB (.c .r (.b .q) (.i (-1) (.e (.a .r .s) .t) (.c (.a .p (.b .s)) .t (.l .p .q)))) rfl az (Nat.sub_add_cancel ay) (Nat.sub_add_cancel (bA (.i (-1) (.e .r (.b .s)) (.c (.a .r .p) .q (.l (.b .p) .q))) rfl az (Nat.sub_add_cancel ay)))) (fun aE=>(aq (.i (-1) (.e .p (.b .q)) (.c .p .z .f)) rfl az (Nat.sub_eq_zero_of_le aE):False).elim)) ((Nat.le_total _ _).elim (fun bI=>cB (.i (-1) (.e .r (.b .p)) (.c (.a .r .s) .t (.a .t (.a .q (.b .s)) (.l .p .q)))) rfl az (Nat.sub_add_cancel bI) (b5 _ (_+(1:Nat)))) (fun cM=>aA (.i (-1) (.e .r (.b .p)) (.c .r .z (.l .p .q))) rfl az (Nat.sub_eq_zero_of_le cM)))) Af (jM.at_ (List.prefix_refl _) Ag fun o q=>Ae _ _ cP.symm q) ?_ uz ?_ (fun z=>?_) fun aH lr Sh iV uy Si=>?_⟩
    ·refine aj ?_ JB;clear JB;intro o;refine ar ?_;intro q aK;exact⟨o,Ae _ _ cP.symm q,aK⟩
    ·have:=aQ.length_eq
     split at this
     ·exact aA (.a .r .q (.c .p .r (.l .p (.b .q)))) rfl cf this
     ·simp at this;exact aA (.a .r .q (.c .p (.b .r) (.l .p (.b .q)))) rfl cf this
    ·rw[aQ.mem_iff,f9];have:=jd z
     split
     ·rename_i aG;rw[this,List.mem_append,List.mem_singleton];constructor
      ·exact .inl
      ·rintro(q|rfl)
       ·exact q
       ·exact(jd _).mp aG
     ·rw[List.mem_append,List.mem_append,this]
    ·exact fe aH lr Sh (fun b o ae bX q=>iV b o ae bX (Ae b o ae (hs b o bX q))) uy Si
  ·rw[List.length_map]at hle;exact(aq (.b .p .q (.a .q .p .f)) rfl hi hle:False).elim
end
end Mine
end
section
set_option maxHeartbeats 3200000
namespace Mine
theorem Sj(T:String)(h:T="list"∨T="tuple"):isSubtype (.type T) (.type "set")=pure false∧isSubtype (.type T) (.type "frozenset")=pure false∧(Value.type T==Value.type "dict")=false:=by
 rcases h with rfl|rfl
 ·exact⟨by rw[isSubtype_type];kernel_rfl,by rw[isSubtype_type];kernel_rfl,by decide⟩
 ·exact⟨by rw[isSubtype_type];kernel_rfl,by rw[isSubtype_type];kernel_rfl,by decide⟩
section
variable{prog:Program}{w:World}{B:Heap}{k:Nat}
noncomputable def DH(x:ah)(Q:∀Y:ah,∀Y:St,Prop) (st:St):Prop:=∃ns:List Int,ky x st=some (ns.map .int)∧ns.length<900∧∀ms:List Int,∀Y:ms.Nodup,∀Y:(∀z,z∈ms↔z∈ns),Q (.ref st.length) (st++[.set ms])
theorem gJ.nodup{h:Heap}{a:Addr}{ns:List Int}:∀Y:gJ w h a ns,ns.Nodup:=by
 refine bG ?_;intro _ _ _;refine eY ?_;intro _ _ _ h _;exact h
section
variable{A:Around}{s:Shared}{v:Value}{ns:List Int}
noncomputable abbrev newSet(w:World):Obj:=kK #[] 0 (.fresh 0 0 (!w.params.followText "set-order"))
noncomputable def Filled(w:World)(s:Shared)(ns:List Int)(h':Heap):Prop:=∃ms,gJ w h' s.heap.objs.size ms∧(∀z,z∈ms↔z∈ns)∧∀b o,∀Y:s.heap.get? b=some o,h'.get? b=some o
theorem JE{h':Heap}{T:String}(k:∀b o,∀Y:s.heap.get? b=some o,h'.get? b=some o) (cu:s.TypeIs v T):Shared.TypeIs {s with heap:=h'} v T:=by
 cases v with
 |ref l=>refine aj ?_ cu;clear cu;intro o;refine ar ?_;intro bx aG;exact⟨o,k _ _ bx,aG⟩
 |_=>exact cu
theorem Sk{am:List Addr}{st:St}{x:ah}(bR:A.handled=none)(S:bh prog w B am s.heap st)(a:bc am s.heap x v)(fc:jv x st=some (ns.map .int))(hlen:ns.length<900){T:String}(DI:T="list"∨T="tuple")(cu:s.TypeIs v T)
 {R:∀Y:Result,∀Y:Shared,Prop} (h:∀h' tk,∀Y:Filled w s ns h',R (.ok (.ret .none)) {s with heap:=h',toks:=tk}):codeAny (model prog w) A (.call (.builtin "set.__init__") ⟨[.ref s.heap.objs.size,v],[]⟩) R {s with heap:=s.heap.push (newSet w)}:=by
 have Sl:s.heap.get? s.heap.objs.size=none:=lS _;have cT:∀b o,∀Y:s.heap.get? b=some o,(s.heap.push (newSet w)).get? b=some o:=fun b o e=>Heap.get?_push_of_some _ e;have mJ:=S.keeps cT;have DJ:=gJ.fresh (w:=w) (h:=s.heap);have JF:Shared.TypeIs {s with heap:=s.heap.push (newSet w)} (.ref s.heap.objs.size) "set":=⟨_,Heap.get?_push_size _ rfl,rfl⟩;have Sm:=JE cT cu;refine aY ?_ (Sj T DI);intro X3 X4 kL;refine codeAny_mono (codeAny_call_builtin (R:=wants (fun r dw=>r=.none∧∃h' tk,dw={s with heap:=h',toks:=tk}∧Filled w s ns h') bo) PySem.F.called_set.init.plain PySem.F.entry_set_init (check_set_init_1 JF ?_)) fun Sn dw DK=>?_
 ·unfold Builtin.«set.__init__» noKeywords Builtin.Frozenset.updateFrom;generalize z6:pyIter=X5;clear h
  wp_walk
  subst z6;refine never (B0 mJ (a.mono (List.prefix_refl _) (lV cT)) (by cases x<;>exact fc) fun I h' tk aK bE ll cG=>?_);refine wpAny_bind (wpAny_runValue ?_)
  have none_of:∀{h:Heap}{c:Addr},∀Y:(∀b o,∀Y:s.heap.get? b=some o,h.get? b=some o),∀Y:h.get? c=none,c∉am∧B.get? c=none:=fun{h c} k e=>by
   refine⟨fun hm=>?_,?_⟩
   ·refine aj ?_ (S.there hm);intro o;refine ar ?_;intro cA _;cases e.symm.trans (k _ _ cA)
   ·cases q:B.get? c with
    |none=>rfl
    |some o=>cases e.symm.trans (k _ _ (S.base _ o q))
  have JG:=none_of (fun Y Y e=>e) Sl;have tV:=none_of cT bE
  have So:s.heap.objs.size≠I:=fun e=>by
   refine bG ?_ DJ;clear DJ;intro a9 ep t;refine ar ?_;intro g _;rw[e,bE]at g;cases g
  refine Sa (B:=B) (x:=x) (by exact bR) fc tV.1 tV.2 JG.1 JG.2 So hlen (ns.length-0) 0 [] rfl (mJ.keeps aK) cG ll (DJ.at_ w fun o q=>aK _ _ q) (Nat.zero_le _) (by simp) fun af JC cur zZ uz lj=>?_;show wpAny _ _ _ _ _ _;refine wpAny_pure ?_;show wpAny _ _ (ret Value.none) _ _ _;refine wpAny_pure ⟨rfl,af,JC,rfl,cur,uz,lj,fun b o e=>?_⟩;exact zZ b o (Nat.ne_of_lt (Heap.lt_size e)) (fun q=>by cases bE.symm.trans (q▸cT _ _ e)) (aK _ _ (cT _ _ e))
 ·cases Sn with
  |error e=>exact DK.elim
  |ok dD=>cases dD with
   |ret r=>
    obtain⟨rfl,h',tk,rfl,bD⟩:=DK;exact h h' tk bD
   |_=>exact DK.elim
end
set_option tactic.hygienic true in
theorem called_set:b9 prog w B k (.type "set") (one DH):=vO fun{A s am st Q x v} aL S a q=>by
 refine aj ?_ q;clear q;intro ns;refine aY ?_;intro DL hlen bb
 obtain⟨T,DI,cu,fc⟩:∃T,(T="list"∨T="tuple")∧s.TypeIs v T∧jv x st=some (ns.map .int):=by
  rcases Ha DL with rfl|e
  ·refine bG ?_ a.m8;intro b items n;refine aY ?_;rintro rfl bf _;exact⟨"tuple",.inr rfl,⟨_,bf,rfl⟩,DL⟩
  ·refine dF ?_ (S.listAt a e);intro _ b vs m;refine dH ?_;rintro rfl rfl _ _ aD _;exact⟨"list",.inl rfl,⟨_,aD,rfl⟩,e⟩
 have I {JH:Around} (bR:JH.handled=none):=@Sk prog w B JH s v ns am st x bR S a fc hlen T DI cu;have fin:∀h' tk,∀Y:Filled w s ns h',dC prog w B am s Q (.ref s.heap.objs.size) {s with heap:=h',toks:=tk}:=fun h' tk⟨ms,ae,af,aH⟩=>BR (po:=.set ms) S aH (lS _) ae (bb ms ae.nodup af);generalize dC prog w B am s Q=F at fin ⊢;have az:=@Jz prog w;clear a S bb fc hlen DL;refine bZ ?_ PySem.F.called_set.mro;intro c X6 X7;have X8:=PySem.F.called_set.made;have Ac:=PySem.F.called_set.sub;refine wpAny_call (codeAny_of_tree ?_);show wpAny _ _ (callAny (.type "set") _) _ _ _;refine wpAny_pure ⟨Code.quiet_builtin _ (by decide+kernel),codeAny_builtin PySem.F.entry_type_call ?_⟩;rw[Around.under_plain (weight_type_call_type "set" [v] []) rfl];have ae:=PySem.F.called_set.notType;have af:=PySem.F.called_set.canCreate;have X9:=PySem.F.typeCall_set_1 v
 repeat (any_goals (first|assumption|wp_step))
 refine codeAny_mono (Jz v (E:=bo) (Q₁:=fun obj ba=>obj=.ref s.heap.objs.size∧ba={s with heap:=s.heap.push (newSet w)}) ⟨rfl,rfl⟩) fun r ba aC=>?_;cases r with
 |error e=>exact aC.elim
 |ok dD=>
  cases dD with
  |ret obj=>
   refine ar ?_ aC;clear aC;rintro rfl rfl;have cT:∀b o,∀Y:s.heap.get? b=some o,(s.heap.push (newSet w)).get? b=some o:=fun b o e=>Heap.get?_push_of_some _ e;have JF:Shared.TypeIs {s with heap:=s.heap.push (newSet w)} (.ref s.heap.objs.size) "set":=⟨_,Heap.get?_push_size _ rfl,rfl⟩;have Sm:=JE cT cu;have q1:=PySem.F.called_set.init.lookup;have Dv:=PySem.F.called_set.init.bind (.ref s.heap.objs.size)
   repeat (any_goals (first|assumption|wp_step))
   refine I (by exact aL.1) fun h' tk bD=>?_
   repeat (any_goals (first|assumption|wp_step))
   exact fin h' tk bD
  |_=>exact aC.elim
end
end Mine
end
section
namespace Mine
variable{prog:Program}{w:World}{B:Heap}{k:Nat}
noncomputable def setAt:∀Y:ah,∀Y:St,Option (List Int)
 |.ref n,st=>match st[n]? with
  |some (.set ns)=>some ns
  |_=>none
 |_,_=>none
set_option tactic.hygienic true in
theorem bh.setAt{am:List Addr}{h:Heap}{st:St}{x:ah}{v:Value}{ns:List Int}(S:bh prog w B am h st)(ai:bc am h x v)(e:setAt x st=some ns):∃a,v=.ref a∧a∈am∧gJ w h a ns:=by
 cases ai<;>simp only[Mine.setAt]at e<;>first|(cases e;done)|skip
 rename_i n a az
 split at e
 ·rename_i jS bb;cases e
  refine aj ?_ (S.at_ bb);intro r6;refine ar ?_;intro k9 bx;rw[az]at k9;cases k9;exact⟨a,rfl,List.mem_of_getElem? az,bx⟩
 ·cases e
theorem Sp{R:∀Y:ah,∀Y:Value,Prop} {kvs:List (Int×ah)} {aB:List (Int×Value)} (p:Paired (fun(x:Int×ah)(y:Int×Value)=>x.1=y.1∧R x.2 y.2) kvs aB):aB.map (·.1)=kvs.map (·.1):=by
 induction p with
 |nil=>rfl
 |cons r _ ih=>rw[List.map_cons,List.map_cons,ih,r.1]
theorem Sq{A:Around}{s:Shared}{am:List Addr}{st:St}{x:ah}{v:Value}{kvs:List (Int×ah)}{F:∀Y:List Value,∀Y:Shared,Prop} (aL:A.handled=none) (hs:∃o,B.get? sysModules=some o) (S:bh prog w B am s.heap st) (aO:bc am s.heap x v) (e:dictAt x st=some kvs) (hlen:kvs.length≤1000000)
 (h:∀(vs:List Value)(ba:Shared)(rest:List Int),∀Y:rest.Perm (kvs.map (·.1)),∀Y:c9 am s am ba,∀Y:bh prog w B am ba.heap st,∀Y:bT am ba.heap (rest.map .int) vs,F vs ba):wpAny (model prog w) A (collect v) F bo s:=by
 refine bG ?_ (S.dictAt aO e);intro n a aB;refine dH ?_;rintro rfl rfl hm eL hd aQ;have Yb:aB.length=kvs.length:=aQ.length.symm;have Ss:aB.map (·.1)=kvs.map (·.1):=Sp aQ;have Su:=yx S hs (List.mem_of_getElem? hm);refine bG ?_ (id hd);intro o a9 ep;refine dH ?_;intro bx aG we aK Ah kL;have cu:s.TypeIs (.ref a) "dict":=⟨o,bx,aG.1⟩;refine Jh (T:="dict") (id:="") (ns:=kvs.map (·.1)) cu (by decide) (by decide) (by rw[List.length_map];exact hlen) (fun p0 bD=>RO p0 bD) ?_ (fun vs h' tk d rest cv iK hi=>h vs _ rest iK ⟨⟨h',tk,d,rfl⟩,.of_keeps cv⟩ (S.keeps cv) (bT.BA hi)) rfl;intro DM ba ek wZ cT w0 mT bD;refine aj ?_ wZ;clear wZ;rintro bU rfl;have tZ:bU.DictAt (intKind prog w) a aB ep:=⟨o,a9,cT _ _ bx,aG,we,aK,Ah,kL⟩;refine aj ?_ mT;clear mT;intro z9 mT;have hIn:bU.get? bU.objs.size=none:=lS _;have cP:a≠bU.objs.size:=Nat.ne_of_lt (Heap.lt_size (cT _ _ bx));refine wpAny_pyIter_dict (s:={s with heap:=bU}) Su tZ ?_;refine bD bU.objs.size _ (aB.map (·.1)) _ s.toks s.drawn (fun b o q=>Heap.get?_push_of_some _ q) (G9 cT) (RQ (kvs:=aB) (ep:=ep) aL (fun q=>?_) (fun q=>?_) cP) ⟨0,rfl,Nat.zero_le _,⟨_,Heap.get?_push_size _ rfl,rfl,rfl⟩,tZ.at' fun o q=>Heap.get?_push_of_some _ q⟩ (by rw[Ss])
 ·have JI:bU.get? DM=some z9:=mT;rw[←q,hIn]at JI;cases JI
 ·rw[←q,bx]at w0;cases w0
theorem Sv{A:Around}{s:Shared}{am:List Addr}{st:St}{x:ah}{v:Value}{ns:List Int}{F:∀Y:List Value,∀Y:Shared,Prop} (aL:A.handled=none) (S:bh prog w B am s.heap st) (aO:bc am s.heap x v) (e:setAt x st=some ns) (hlen:ns.length≤1000000)
 (h:∀(vs:List Value)(ba:Shared)(rest:List Int),∀Y:rest.Perm ns,∀Y:c9 am s am ba,∀Y:bh prog w B am ba.heap st,∀Y:bT am ba.heap (rest.map .int) vs,F vs ba):wpAny (model prog w) A (collect v) F bo s:=by
 refine aj ?_ (S.setAt aO e);intro a;refine aY ?_;rintro rfl hm dc
 have cu:s.TypeIs (.ref a) "set":=by
  refine bG ?_ dc;clear dc;intro a9 ep t;refine ar ?_;intro g _;exact⟨_,g,rfl⟩
 refine Jh (T:="set") (id:="") (ns:=ns) cu (by decide) (by decide) hlen (fun p0 bD=>RP p0 bD) ?_ (fun vs h' tk d rest cv iK hi=>h vs _ rest iK ⟨⟨h',tk,d,rfl⟩,.of_keeps cv⟩ (S.keeps cv) (bT.BA hi)) rfl;intro DM ba ek wZ cT w0 mT bD;refine aj ?_ wZ;clear wZ;rintro bU rfl
 have cP:a≠DM:=fun q=>by
  refine aj ?_ cu;clear cu;intro o;refine ar ?_;intro bx _;rw[←q,bx]at w0;cases w0
 refine R2 (s:={s with heap:=bU}) aL (dc.at_ w fun o q=>cT _ _ q) cP mT hlen fun I St rest h' tk d eU bE W eL aQ=>?_;refine bD I St rest h' tk d eU ?_ W eL aQ;cases q:s.heap.get? I with
 |none=>rfl
 |some o=>have:=cT _ _ q;rw[bE]at this;cases this
noncomputable def DN(x:ah)(Q:∀Y:ah,∀Y:St,Prop) (st:St):Prop:=
 (∃ns:List Int,(listAt x st=some (ns.map .int)∨(∃kvs,dictAt x st=some kvs∧ns=kvs.map (·.1))∨setAt x st=some ns)∧ns.length≤1000000∧∀ys,∀Y:jk ur.blt ns ys,Q (.ref st.length) (st++[.list (ys.map .int)]))∨
 (∃rows:List (List Int),listAt x st=some (rows.map aT)∧rows.length≤1000000∧(∀r∈rows,r≠[])∧∀ys,∀Y:jk gr rows ys,Q (.ref st.length) (st++[.list (ys.map aT)]))
set_option tactic.hygienic true in
theorem q2(hs:∃o,B.get? sysModules=some o):b9 prog w B k (.builtin "sorted") (one DN):=by
 intro A s am st Q xs vs aL S aO q;cases aO with
 |nil=>exact q.elim
 |cons a r=>
  rename_i x v yR vs';cases r with
  |cons=>exact q.elim
  |nil=>
   rcases q with⟨ns,he,hlen,bb⟩|⟨rows,he,hlen,cP,bb⟩
   ·have core:=fun(Dq:wpAny (model prog w) A.in1 (collect v) (fun vs ba=>∃zs:List Int,zs.Perm ns∧c9 am s am ba∧bh prog w B am ba.heap st∧bT am ba.heap (zs.map .int) vs) bo s)=>
     Dp (Q:=Q) (κ:=ur) (kd:=oneType') (f:=ah.int) (zs₀:=ns) (fun Y v(n:Int)=>∃t,v=.int n t) ⟨(0:Int)⟩ Dq
      (fun h v z r=>by cases r;exact⟨_,rfl⟩) (fun h=>I4) (fun s' vs zs aU r af{G} iZ=>Jb r af iZ) hlen bb
    rcases he with he|⟨kvs,he,rfl⟩|he
    ·exact Rd S a he hlen bb
    ·exact core (Sq (A:=A.in1) aL.1 hs S a he (by simpa using hlen) fun vs ba rest aQ bj bk r=>⟨rest,aQ,bj,bk,r⟩)
    ·exact core (Sv (A:=A.in1) aL.1 S a he hlen fun vs ba rest aQ bj bk r=>⟨rest,aQ,bj,bk,r⟩)
   ·exact Rf S a he hlen cP bb
end Mine
end
section
namespace Mine
variable{prog:Program}{w:World}{B:Heap}{k:Nat}
structure JJ(h:Heap)(f:Addr)(fd:FuncData)(x:Str)(body:Expr)(scope:Scope):Prop where
 at_:∃o,h.get? f=some o∧o.data=.func fd
 body:fd.body=.expr body
 scope:fd.scope=scope
 gl:fd.globals=mainGlobals
 bi:fd.builtins=builtinsNs
 nr:fd.closure=[]
 code:h.CodeRec fd.code fd.qualname
 bind:∀v:Value,bindArgs fd ⟨[v],[]⟩=pure [(x,v)]
theorem Sw{A:Around}{s:Shared}{am:List Addr}{st:St}{Q:∀Y:ah,∀Y:St,Prop} {f:Addr} {fd:FuncData} {x:Str} {body:Expr} {scope:Scope} {P:b6} {pv:ah} {v:Value} {n:Nat} (F:JJ s.heap f fd x body scope) (aL:gW A (k+1)) (er:B.NoLimit)
 (S:bh prog w B am s.heap st) (aO:bc am s.heap pv v) (av:b3 prog w B (g5 scope.names) k body P) (q:P Q (some pv::List.replicate n none) st)
 (aK:autoParam (scope.kind=.function) jY._auto_1) (Sx:autoParam (scope.isCoroutine=false) jY._auto_1) (Sy:autoParam (scope.isGenerator=false) jY._auto_1) (k4:autoParam (∀y∈scope.names,y.2≠.cell) jE._auto_1)
 (Yc:autoParam (varNames scope.names=[x]) jY._auto_1) (zd:autoParam (scope.names.lookup x=some .local) jY._auto_1) (hone:∀y i,∀Y:(oi 0 (varNames scope.names)).lookup y=some i,y=x∧i=0):
 wpAny (model prog w) A (call (.ref f) [v]) (dC prog w B am s Q) bo s:=by
 refine aj ?_ F.at_;intro o;refine ar ?_;intro bx hd;have Ce:=F.scope;subst Ce;refine wpAny_call (codeAny_of_tree ?_);show wpAny _ A.in1 (callAny (.ref f) ⟨[v],[]⟩) _ _ s;refine wpAny_bind (m:=load f) (wpAny_load bx ?_);rw[hd];show wpAny _ A.in1 (callFunction f fd ⟨[v],[]⟩) _ _ s;refine dF ?_ F.code;intro c Yd vs Ye;refine cI ?_;intro aG Sz SA bb;unfold callFunction;rw[aG,F.body,Sy,Sx];refine wpAny_bind (m:=field (.ref c) 1) (wpAny_field Sz SA bb (wpAny_bind (wpAny_pure ?_)));rw[F.bind v,F.nr,F.gl,F.bi];refine wpAny_bind (wpAny_pure ?_);refine wpAny_bind (wpAny_newFunctionEnv k4 (fun y au=>by rw[List.mem_singleton.mp au];exact zd) (fun bU gk zM=>?_) aK);have uD:∀b o,∀Y:s.heap.get? b=some o,bU.get? b=some o:=fun b o e=>zM.extBut b o (Nat.ne_of_lt (Heap.lt_size e)) (Heap.get?_push_of_some _ e);refine wpAny_bind (wpAny_enterFrame ((er.keeps S.base).fresh _ zM) (by have:=aL.2.1;show A.depth<recursionLimit;exact aA (.b (.a (.a .p (.b .r)) (.k 100)) .q (.t .p .q)) rfl this) (wpAny_pure ⟨rfl,?_⟩));refine codeAny_of_tree ?_;show wpAny _ (A.deeper _) (do point;ret (←(eval body _).onRaise (leaving _))) _ _ _;refine wpAny_bind (wpAny_point (wpAny_bind (wpAny_onRaise ?_)));have bk:=S.keeps uD
 have off:s.heap.objs.size∉am∧B.get? s.heap.objs.size=none:=⟨fun hm=>absurd (S.lt hm) (Nat.lt_irrefl _),by
  cases e:B.get? s.heap.objs.size with
  |none=>rfl
  |some o=>exact absurd (Heap.lt_size (S.base _ o e)) (Nat.lt_irrefl _)⟩
 have R:d7 B (g5 fd.scope.names) (newEnv fd.scope s.heap.objs.size mainGlobals [] (fd.qualname++".<locals>.") (some f) (.ref c) none builtinsNs) am bU (some pv::List.replicate n none):=by
  refine⟨aK,rfl,rfl,rfl,(fun Y h=>nomatch h),fun x y i=>B7,⟨_,gk⟩,fun b av=>?_,.nil,fun c aG=>(nomatch aG),fun y i au=>?_⟩
  ·rw[List.mem_singleton.mp av];refine bG ?_ gk;clear gk;intro o a9 ep;refine aY ?_;intro e d _;exact⟨⟨o,e,by rintro(⟨_,_,_,q⟩|⟨_,_,q⟩|⟨_,_,q⟩)<;>rw[d]at q<;>cases q⟩,off⟩
  ·refine ar ?_ (hone y i au);rintro rfl rfl;refine⟨some v,.inl ⟨zd,_,gk,by simp⟩,fun yH e=>?_⟩;cases e
   exact⟨v,rfl,aO.mono (List.prefix_refl _) (lV uD)⟩
 have mF:gW (A.deeper (newEnv fd.scope s.heap.objs.size mainGlobals [] (fd.qualname++".<locals>.") (some f) (.ref c) none builtinsNs)) k:=⟨aL.1,by have:=aL.2.1;show A.depth+1+k+100<recursionLimit;exact aA (.b (.a (.a .p (.b .q)) (.k 100)) .r (.t (.a (.a (.b .p) .q) (.k 100)) .r)) rfl this,by have:=aL.2.2;show A.units+3+20*k+100<cLine;exact aA (.b (.a (.a .p (.m 20 (.b .q))) (.k 100)) .r (.t (.a (.a (.a .p (.k 3)) (.m 20 .q)) (.k 100)) .r)) rfl this⟩;refine wpAny_mono (av (s:={s with heap:=bU,toks:=s.toks+1}) mF R bk q) (fun r s' p=>wpAny_pure ?_) fun Y Y z=>z.elim;exact dC.over (s':={s with heap:=bU,toks:=s.toks+1}) (.heap (.of_keeps uD)) p
end Mine
end
section
namespace Mine
variable{prog:Program}{w:World}{B:Heap}{ak:dB}{k:Nat}
noncomputable def nG(h:Heap)(c P:Addr):Prop:=
 ∃o vs file q3 flags q4 q6 text tt,h.get? c=some o∧o.cls=.type "code"∧o.data=.fields vs∧vs[11]?=some (.ref P)∧vs.getD 18 .none=.str file q3∧vs.getD 7 .none=.int flags q4∧vs.getD 9 .none=.bool q6∧vs.getD 10 .none=.int text tt∧c≠P
theorem nG.keeps{h h':Heap}{c P:Addr}(x:nG h c P)(k:∀b o,∀Y:h.get? b=some o,h'.get? b=some o):nG h' c P:=
 by
 refine Gz ?_ x;clear x;intro o vs file q3 flags q4 q6 text tt;refine ar ?_;intro a r;exact Mv o vs file q3 flags q4 q6 text tt ⟨k _ _ a,r⟩
theorem nG.code{h:Heap}{c P:Addr}{dq:Array Value}(x:nG h c P)(dj:h.get? P=some ⟨.none,none,.fields dq,#[]⟩)(bf:TriplesOk dq.toList):h.IsCode c P dq:=by
 obtain⟨o,vs,file,q3,flags,q4,q6,text,tt,a,aG,hd,uo,j2,e7,vC,BB,cP⟩:=x;have SD:vs.getD 11 .none=.ref P:=by rw[Array.getD_eq_getD_getElem?,uo];rfl
 exact⟨o,vs,file,q3,flags,q4,q6,text,tt,_,a,hd,SD,j2,e7,vC,BB,dj,rfl,bf,cP⟩
theorem nG.tab{h:Heap}{c P:Addr}{dq:Array Value}(x:nG h c P)(dj:h.get? P=some ⟨.none,none,.fields dq,#[]⟩):h.TableAt c P dq:=by
 refine Gz ?_ x;clear x;intro o vs file q3 flags q4 q6 text tt;refine eY ?_;intro a aG hd uo _;exact⟨⟨o,vs,a,aG,hd,uo⟩,dj⟩
noncomputable def Ai(B:Heap):Prop:=∃fC bm bO,B.Ns mainGlobals fC∧fC "__builtins__"=some (.ref bm)∧bm≠builtinsNs∧B.get? bm=some bO∧bO.cls=.type "module"∧bO.dict=some builtinsNs∧bO.data=.plain
noncomputable def w2(name qual:Str)(params:Arguments)(body:Expr)(scope:Scope)(pm iR:Value):FuncData:=
 {name,qualname:=qual,params,body:=.expr body,scope,globals:=mainGlobals,closure:=[],defaults:=.none,kwdefaults:=.none,doc:=.none,pyModule:=pm,annotations:=none,code:=iR,closureTuple:=.none,builtins:=builtinsNs}
theorem SE{p pos:Pos}{c v:Value}:∀{l:List Value},∀Y:TriplesOk l,∀Y:codeAmong p (l++[rawInt pos.line,rawInt pos.col,c])=some v,codeAmong p l=some v∨v=c:=by
 intro l
 fun_induction TriplesOk l with
 |case1=>
  intro _ e;simp only[List.nil_append,rawInt,codeAmong]at e
  split at e
  ·exact .inr (Option.some.inj e).symm
  ·cases e
 |case2 a t b u x rest ih=>
  intro h e;simp only[List.cons_append,codeAmong]at e ⊢
  split at e
  ·rename_i aG;rw[if_pos aG];exact .inl e
  ·rename_i aG;rw[if_neg aG];exact ih h e
 |case3 l ae af=>intro h;exact h.elim
theorem SG{A:Around}{env:Env}{s:Shared}{am:List Addr}{loc:Loc}{st:St}{c P:Addr}{uE:Str}{j:Nat}{params:Arguments}{body:Expr}{scope:Scope}{pos:Pos}{F:∀Y:Value,∀Y:Shared,Prop}
 (R:d7 B ak env am s.heap loc) (S:bh prog w B am s.heap st) (Aj:ak.code=some (.ref c,uE)) (bb:uE++"<lambda>"=nX) (bR:nG B c P) (uF:Ai B) (eL:st[j]?=some (.tab P)) (cf:closureFor scope env=pure [])
 (SH:defaultsOf params env=([],[]))
 (h:∀f pm iR s',∀Y:c9 am s am s',∀Y:bh prog w B am s'.heap st,∀Y:f∉am,∀Y:s'.heap.get? f=some {cls:=.type "function",data:=.func (w2 "<lambda>" nX params body scope pm iR)},∀Y:tw s'.heap iR nX,F (.ref f) s'):
 wpAny (model prog w) A (eval (.Lambda params body scope pos) env) F bo s:=by
 rw[arm_eval_Lambda,SH];refine ar ?_ (R.ym _ Aj);intro DO heq;dsimp only at DO heq;show wpAny _ A (do let w3 ←evalAll [];let SI ←holding w3 (evalAllOpt []);makeFunction "<lambda>" (env.qual++"<lambda>") params (.expr body) scope env w3 SI [] pos pos.line) F _ s;rw[heq,bb];refine wpAny_bind (wpAny_pure (wpAny_bind (wpAny_holding (wpAny_pure ?_))));rw[makeFunction_eq];simp only[List.zip_nil_right,List.filterMap_nil,List.isEmpty_nil,if_true,pure_bind];unfold makeTail;rw[cf,R.n3];refine wpAny_bind (wpAny_pure ?_);simp only[List.isEmpty_nil,if_true];refine wpAny_bind (wpAny_pure ?_);obtain⟨a,aJ,rfl,dq,dj,bf,z0⟩:=S.at_ eL;refine bG ?_ uF;clear uF;intro fC bm bO;refine nU ?_;intro g jN gz kH mh mi Ak;have DP:=bR.keeps S.base;have JK:B.get? a=none:=S.off _ (List.mem_of_getElem? aJ)
 have SJ:mainGlobals≠a:=fun e=>by
  refine bG ?_ g;clear g;intro o a9 ep;refine ar ?_;intro aS _;rw[e,JK]at aS;cases aS
 have SK:bm≠a:=fun e=>by rw[e,JK]at kH;cases kH
 have cL:=g.keeps S.base;cases bq:codeAmong pos dq.toList with
 |some iR=>
  refine wpAny_bind (wpAny_functionCode_hit DO (DP.code dj bf) bq ?_);refine wpAny_bind (wpAny_builtinsFor cL jN gz (S.base _ _ kH) mh mi Ak ?_);refine wpAny_bind (wpAny_nsGet cL ?_);refine wpAny_bind (wpAny_pure (wpAny_newObj_type ?_ (by size_fits)));have cv:∀b o,∀Y:s.heap.get? b=some o,(s.heap.push {cls:=.type "function",data:=.func (w2 "<lambda>" nX params body scope ((fC "__name__").getD .none) iR)}).get? b=some o:=fun b o e=>Heap.get?_push_of_some _ e;refine h _ _ iR _ (.heap (tk:=s.toks) (.of_keeps cv)) (S.keeps cv) (fun hm=>absurd (S.lt hm) (Nat.lt_irrefl _)) (Heap.get?_push_size _ rfl) ?_;exact(z0 _ _ bq).gI (lV cv)
 |none=>
  refine wpAny_bind (wpAny_functionCodeX DO (DP.code dj bf) (DP.tab dj) bq fun iw h' tk ai d5 bC Y JL oM mD=>?_);have g2:=cL.extBut ai SJ;refine wpAny_bind (wpAny_builtinsFor g2 jN gz (ai _ _ SK (S.base _ _ kH)) mh mi Ak ?_);refine wpAny_bind (wpAny_nsGet g2 ?_);refine wpAny_bind (wpAny_pure (wpAny_newObj_type ?_ (by size_fits)))
  have JM:tw h' (.ref iw) nX:=by
   refine dF ?_ JL;clear JL;intro c₂ SM SN cC;refine cI ?_;intro SO JN SP df;cases SO
   refine aj ?_ mD;clear mD;intro uG;refine cI ?_;intro _ _;refine bZ ?_;intro Yg Yh;refine aY ?_;intro JO SQ _;intro _;rw[JN]at JO;cases JO;exact⟨iw,SM,SN,cC,rfl,JN,SQ,SP,df⟩
  refine ar ?_ (S.set (h':=h') (o:=.tab a) aJ (fun b o av e=>ai b o av e) fun du=>by
   refine⟨rfl,_,oM.2,?_,fun p iR e=>?_⟩
   ·have:(dq++#[rawInt pos.line,rawInt pos.col,Value.ref iw]).toList=dq.toList++[rawInt pos.line,rawInt pos.col,.ref iw]:=by simp
    rw[this];exact TriplesOk_snoc _ _ _ _ bf
   ·have:(dq++#[rawInt pos.line,rawInt pos.col,Value.ref iw]).toList=dq.toList++[rawInt pos.line,rawInt pos.col,.ref iw]:=by simp
    rw[this]at e;rcases SE bf e with e|rfl
    ·exact(z0 _ _ e).gI du
    ·exact JM);intro mJ bW
  have SR:st.set j (.tab a)=st:=by
   apply List.ext_getElem?;intro i;by_cases e:j=i
   ·subst e;rw[List.getElem?_set_self (List.getElem?_eq_some_iff.mp eL).1,eL]
   ·rw[List.getElem?_set_ne e]
  rw[SR]at mJ;have cv:∀b o,∀Y:h'.get? b=some o,(h'.push {cls:=.type "function",data:=.func (w2 "<lambda>" nX params body scope ((fC "__name__").getD .none) (.ref iw))}).get? b=some o:=fun b o e=>Heap.get?_push_of_some _ e;refine h _ _ (.ref iw) _ (.heap (tk:=tk) (bW.trans (.of_keeps cv))) (mJ.keeps cv) (fun hm=>absurd (mJ.lt hm) (Nat.lt_irrefl _)) (Heap.get?_push_size _ rfl) ?_;exact JM.gI (lV cv)
end Mine
end
section
namespace Mine
variable{prog:Program}{w:World}{B:Heap}{ak:dB}{k:Nat}
theorem gO.gI{h h':Heap}{v:Value}{ns:List Int}(du:fR h h'):∀Y:gO h v ns,gO h' v ns
 |⟨a,xs,n,e,bf,hi⟩=>⟨a,xs,n,e,du _ _ (.inl ⟨rfl,_,_,rfl⟩) bf,hi⟩
theorem iY.gI{h h':Heap}{v:Value}{ns:List Int}(du:fR h h'):∀Y:iY h v ns,iY h' v ns:=by
 refine jt ?_;intro a u n t m;refine cI ?_;intro e bf az hi;exact⟨a,u,n,t,m,e,du _ _ (.inl ⟨rfl,_,_,rfl⟩) bf,az,hi.gI du⟩
theorem SS(q a:Addr):Builtin.«list.sort» ⟨[.ref a],[(Str.ofString "key",.ref q)]⟩=(do
 let items ←Builtin.List.listItems (.ref a)
 Builtin.List.listUpdate (.ref a) fun Y=>#[]
 let before ←seqEpoch a
 let held ←newTuple items.toList
 let uH ←newList []
 holding [held,uH] do
  rule "list.sort.key"
  for x in items do
   match ←(call (.ref q) [x]).attempt with
   |.ok k=>Builtin.List.listUpdate uH (·.push k)
   |.error e=>
    rule "list.sort.key-raised"
    let made ←Builtin.List.listItems uH
    Builtin.List.listUpdate uH fun Y=>#[]
    letGo made.toList.reverse [e]
    Builtin.List.listUpdate (.ref a) fun Y=>items;throw e
  let keys ←Builtin.List.listItems uH
  let kind ←if items.size<2 then pure general' else keyKind' keys
  let ((),s) ←(if items.size<2 then pure ()else sortRuns').run (SortSt.mk' kind (keys.zip items) #[] 7 none)
  let sorted:=(arrOf s).map (·.2)
  Builtin.List.listUpdate uH fun Y=>#[]
  letGo ((arrOf s).map (·.1)).toList (failedOf s).toList
  let touched:=(←seqEpoch a) != before
  Builtin.List.listUpdate (.ref a) fun Y=>sorted
  if let some e:=failedOf s then rule "list.sort.comparison-raised";throw e
  if touched then rule "list.sort.modified";raiseError "ValueError" "list modified during sort"
  ret .none):=rfl
noncomputable abbrev q7(h:Heap)(vs:List Value)(rs:List (List Int)):Prop:=Paired (iY h) vs rs
theorem q7.gI{h h':Heap}(du:fR h h'){vs:List Value}{rs:List (List Int)}(p:q7 h vs rs):q7 h' vs rs:=by
 induction p with
 |nil=>exact .nil
 |cons a _ ih=>exact .cons (a.gI du) ih
theorem q7.all{h:Heap}{vs:List Value}{rs:List (List Int)}(p:q7 h vs rs):∀v∈vs,∃r,iY h v r:=fun v aO=>(GH p v aO).elim fun r x=>⟨r,x.2⟩
theorem SU{A:Around}{am:List Addr}{st:St}{f eS:Addr}{body:∀Y:Value,∀Y:PUnit,Sem (ForInStep PUnit)} (nF:eS∉am) (Al:B.get? eS=none)
 (SV:∀(x:Value)(s':Shared)(F:∀Y:ForInStep PUnit,∀Y:Shared,Prop),∀Y:wpAny (model prog w) A (call (.ref f) [x]) (fun key fj=>wpAny (model prog w) A (Builtin.List.listUpdate (.ref eS) (·.push key)) (fun Y fF=>F (.yield ⟨⟩) fF) bo fj) bo s',wpAny (model prog w) A (body x ⟨⟩) F bo s')
 {lB:∀Y:Heap,Prop} (DQ:∀h h',∀Y:lB h,∀Y:(∀b o,∀Y:b∉am,∀Y:b≠eS,∀Y:h.get? b=some o,h'.get? b=some o),lB h')
 (pL:∀(s':Shared)(v:Value)(ns:List Int),∀Y:lB s'.heap,∀Y:bh prog w B am s'.heap st,∀Y:ns.length<1000000,∀Y:bc am s'.heap (aT ns) v,wpAny (model prog w) A (call (.ref f) [v]) (fun key fj=>c9 am s' am fj∧bh prog w B am fj.heap st∧iY fj.heap key ns) bo s'):
 ∀(vs:List Value)(rs:List (List Int)){s:Shared}{Q:∀Y:PUnit,∀Y:Shared,Prop} (aB:List Value) (done:List (List Int)) (c:Nat),∀Y:lB s.heap,∀Y:bh prog w B am s.heap st,∀Y:bT am s.heap (rs.map aT) vs,∀Y:(∀r∈rs,r.length<1000000),
  ∀Y:s.heap.get? eS=some (seqObj "list" aB.toArray c),∀Y:q7 s.heap aB done,∀Y:done.length+rs.length≤1000000,
  ∀Y:(∀h' tk d r7 iw,∀Y:(∀b o,∀Y:b∉am,∀Y:b≠eS,∀Y:s.heap.get? b=some o,h'.get? b=some o),∀Y:fR s.heap h',∀Y:bh prog w B am h' st,∀Y:h'.get? eS=some (seqObj "list" r7.toArray iw),∀Y:q7 h' r7 (done++rs),Q ⟨⟩ {s with heap:=h',toks:=tk,drawn:=d}),
  wpAny (model prog w) A (forIn vs PUnit.unit body) Q bo s:=by
 intro vs
 induction vs with
 |nil=>
  intro rs s Q aB done c aM S aO gP aK jj hlen a7;cases rs with
  |cons=>cases aO
  |nil=>
   rw[List.forIn_nil];exact wpAny_pure (a7 s.heap s.toks s.drawn aB c (fun Y Y Y Y e=>e) (fun Y Y Y e=>e) S aK (by simpa using jj))
 |cons v vs ih=>
  intro rs s Q aB done c aM S aO gP aK jj hlen a7;cases rs with
  |nil=>cases aO
  |cons r rs=>
   cases aO with
   |cons a aO=>
    rw[List.forIn_cons];refine wpAny_bind (SV _ _ _ (wpAny_mono (pL s v r aM S (gP r (List.mem_cons_self ..)) a) (fun key ba uD=>?_) fun Y Y z=>z));refine aY ?_ uD;clear uD;intro bj bk uA;have SW:=S.gI bj.ext;have DR:=bj.ext.keep _ _ nF aK;have c8:aB.length=done.length:=jj.length;have iA:1000000≤sizeLine:=by decide
    simp only[List.length_cons]at hlen;refine listUpdate_at DR rfl ?_ (by rw[List.size_toArray];exact bA (.i 1000000 (.l (.a .r (.b .s)) (.k 1000000)) (.i 1000000 (.e .p .r) (.i 999999 (.l (.k 1000000) .q) (.G 999999 (.l .p .q))))) rfl hlen c8 iA) (by show(aB.toArray.push key).size≤_;rw[Array.size_push,List.size_toArray];exact bA (.i 1000000 (.l (.a .r (.b .s)) (.k 1000000)) (.i 1000000 (.e .p .r) (.i 999999 (.l (.k 1000000) .q) (.G 999999 (.l (.b .p) (.b .q)))))) rfl hlen c8 iA);have DS:¬Kept (seqObj "list" aB.toArray c):=tC rfl;have cP:∀b o,∀Y:b≠eS,∀Y:ba.heap.get? b=some o,(ba.heap.update eS (Obj.mapSeq (·.push key))).get? b=some o:=fun b o av e=>by rw[Heap.get?_update_ne _ _ _ _ av];exact e
    refine ar ?_ (bk.gY cP ⟨⟨_,DR,DS⟩,nF,Al⟩);intro cw lW;have Am:=get?_update_seq DR (·.push key);have cz:aB.toArray.push key=(aB++[key]).toArray:=by simp
    rw[cz]at Am;have kE:∀b o,∀Y:b∉am,∀Y:b≠eS,∀Y:s.heap.get? b=some o,(ba.heap.update eS (Obj.mapSeq (·.push key))).get? b=some o:=fun b o ae af e=>cP b o af (bj.ext.keep b o ae e);have du:fR s.heap (ba.heap.update eS (Obj.mapSeq (·.push key))):=fun b o bx e=>lW b o bx (SW b o bx e);refine ih rs (aB++[key]) (done++[r]) _ (DQ _ _ aM kE) cw (aO.mono (List.prefix_refl _) du) (fun c5 j6=>gP c5 (List.mem_cons_of_mem _ j6)) Am ((jj.gI du).snoc (uA.gI lW)) (by simp;exact aq (.a (.a .p (.b .q)) (.k 1000000) (.l (.a (.b .p) .q) (.k 1000000))) rfl hlen) fun h' tk d r7 iw iV DT DU DV w4=>?_;obtain⟨⟨bU,Yi,HD,rfl⟩,_⟩:=bj;exact a7 h' tk d r7 iw (fun b o ae af e=>iV b o ae af (kE b o ae af e)) (fun b o bx e=>DT b o bx (du b o bx e)) DU DV (by simpa using w4)
end Mine
end
section
namespace Mine
variable{prog:Program}{w:World}{B:Heap}{ak:dB}{k:Nat}
theorem SX{α β:Type}{R:∀Y:α,∀Y:β,Prop} {xs ys:List β} (p:xs.Perm ys):∀{rs:List α},∀Y:Paired R rs ys,∃zs,zs.Perm rs∧Paired R zs xs:=by
 induction p with
 |nil=>intro rs h;exact⟨rs,.refl _,h⟩
 |cons x p ih=>
  intro rs h;cases h with
  |cons a h=>
   refine aj ?_ (ih h);intro zs;refine ar ?_;intro aQ aU;exact⟨_::zs,aQ.cons _,.cons a aU⟩
 |swap x y l=>
  intro rs h;cases h with
  |cons a h=>cases h with
   |cons b h=>exact⟨_,.swap ..,.cons b (.cons a h)⟩
 |trans p q pY qW=>
  intro rs h;refine aj ?_ (qW h);intro zs;refine ar ?_;intro aQ aU;refine aj ?_ (pY aU);intro SY;refine ar ?_;intro iK iT;exact⟨SY,iK.trans aQ,iT⟩
theorem Paired.SZ{α β:Type}{R:∀Y:α,∀Y:β,Prop} {zs:List α} {xs:List β} (h:Paired R zs xs):∀z∈zs,∃x,x∈xs∧R z x:=GH h
theorem S0{α β:Type}{R:∀Y:α,∀Y:β,Prop} {kf:∀Y:β,α} {T:∀Y:α,∀Y:α,Prop} (aK:∀z x,∀Y:R z x,kf x=z) {zs:List α} {xs:List β} (p:Paired R zs xs) (aQ:xs.Pairwise (fun p q=>T (kf p) (kf q))):zs.Pairwise T:=by
 induction p with
 |nil=>exact .nil
 |cons a r ih=>
  rw[List.pairwise_cons]at aQ ⊢;refine⟨fun y au=>?_,ih aQ.2⟩;refine aj ?_ (Paired.SZ r y au);intro x;refine ar ?_;intro ai aC;have:=aQ.1 x ai;rw[aK _ _ a,aK _ _ aC]at this;exact this
theorem S1{am:List Addr}{h:Heap}{aB vs:List Value}{rs:List (List Int)}(p:q7 h aB rs)(aO:bT am h (rs.map aT) vs):Paired (fun(r:List Int)(p:Keyed)=>iY h p.1 r∧bc am h (aT r) p.2) rs (aB.zip vs):=by
 induction p generalizing vs with
 |nil=>exact .nil
 |cons a _ ih=>
  refine bZ ?_ (bT.cons_inv aO);intro v us;refine aY ?_;rintro rfl c d;exact .cons ⟨a,c⟩ (ih d)
theorem S2{am:List Addr}{h:Heap}{R:∀Y:List Int,∀Y:Keyed,Prop} (fe:∀r p,∀Y:R r p,bc am h (aT r) p.2) {zs:List (List Int)} {xs:List Keyed} (p:Paired R zs xs):bT am h (zs.map aT) (xs.map (·.2)):=by
 induction p with
 |nil=>exact .nil
 |cons a _ ih=>exact .cons (fe _ _ a) ih
theorem S3{A:Around}{s:Shared}{am:List Addr}{st:St}{a f:Addr}{vs:List Value}{rs:List (List Int)}{n:Nat}{P:∀Y:Fin,∀Y:Shared,Prop} {lB:∀Y:Heap,Prop} (dQ:A.units<cLine) (bx:s.heap.get? a=some (seqObj "list" vs.toArray n)) (aJ:a∉am) (g6:B.get? a=none)
 (S:bh prog w B am s.heap st) (aO:bT am s.heap (rs.map aT) vs) (hlen:rs.length≤1000000) (gP:∀r∈rs,r.length<1000000)
 (DQ:∀h h',∀Y:lB h,∀Y:(∀b o,∀Y:b∉am,∀Y:b≠a,∀Y:h.get? b=some o,h'.get? b=some o),lB h') (aM:lB s.heap)
 (S4:∀eS,∀Y:s.heap.get? eS=none,∀h h',∀Y:lB h,∀Y:(∀b o,∀Y:b∉am,∀Y:b≠eS,∀Y:h.get? b=some o,h'.get? b=some o),lB h')
 (pL:∀(s':Shared)(v:Value)(ns:List Int),∀Y:lB s'.heap,∀Y:bh prog w B am s'.heap st,∀Y:ns.length<1000000,∀Y:bc am s'.heap (aT ns) v,wpAny (model prog w) A (call (.ref f) [v]) (fun key fj=>c9 am s' am fj∧bh prog w B am fj.heap st∧iY fj.heap key ns) bo s')
 (h:∀(out:List Value) zs h' tk d m,∀Y:(∀b o,∀Y:b∉am,∀Y:b≠a,∀Y:s.heap.get? b=some o,h'.get? b=some o),∀Y:bh prog w B am h' st,∀Y:h'.get? a=some (seqObj "list" out.toArray m),∀Y:bT am h' (zs.map aT) out,∀Y:jk oK.blt rs zs,P (.done (.ret .none)) {s with heap:=h',toks:=tk,drawn:=d}):
 wpAny (model prog w) A (Builtin.«list.sort» ⟨[.ref a],[(Str.ofString "key",.ref f)]⟩) P bo s:=by
 rw[SS];have ib:a<s.heap.objs.size:=Heap.lt_size bx;have iA:1000000≤sizeLine:=by decide
 have j8:vs.length=rs.length:=by rw[←aO.length,List.length_map]
 refine wpAny_bind (listItems_at bx rfl ?_);refine wpAny_bind (listUpdate_at bx rfl ?_ (by rw[List.size_toArray];exact aA (.a .r (.k 1000000) (.a (.k 1000000) .q (.c .p .r (.l .p .q)))) rfl hlen iA j8) (Nat.zero_le _));obtain⟨aS,wR⟩:∃aS,(s.heap.update a (Obj.mapSeq fun Y=>#[])).get? a=some (seqObj "list" #[] aS):=⟨_,get?_update_seq bx (fun Y=>#[])⟩;refine wpAny_bind (seqEpoch_at wR rfl ?_);refine wpAny_bind (wpAny_newTuple ?_ (by show vs.length≤_;exact aA (.a .r (.k 1000000) (.a (.k 1000000) .q (.c .p .r (.l .p .q)))) rfl hlen iA j8));refine wpAny_bind (wpAny_newList ?_ (Nat.zero_le _));refine wpAny_holding ?_;have cT:∀b o,∀Y:b≠a,∀Y:s.heap.get? b=some o,(s.heap.update a (Obj.mapSeq fun Y=>#[])).get? b=some o:=fun b o av e=>by rw[Heap.get?_update_ne _ _ _ _ av];exact e
 have S5:¬Kept (seqObj "list" vs.toArray n):=tC rfl;refine ar ?_ (S.gY cT ⟨⟨_,bx,S5⟩,aJ,g6⟩);intro mJ JD;have eU:∀b o,∀Y:(s.heap.update a (Obj.mapSeq fun Y=>#[])).get? b=some o,(((s.heap.update a (Obj.mapSeq fun Y=>#[])).push (seqObj "tuple" vs.toArray 0)).push (seqObj "list" #[] 0)).get? b=some o:=fun b o e=>Heap.get?_push_of_some _ (Heap.get?_push_of_some _ e);have Af:=mJ.keeps eU;have JP:=eU _ _ wR;have nF:(((s.heap.update a (Obj.mapSeq fun Y=>#[])).push (seqObj "tuple" vs.toArray 0)).push (seqObj "list" #[] 0)).get? ((s.heap.update a (Obj.mapSeq fun Y=>#[])).push (seqObj "tuple" vs.toArray 0)).objs.size=some (seqObj "list" #[] 0):=Heap.get?_push_size _ rfl;generalize Yj:((s.heap.update a (Obj.mapSeq fun Y=>#[])).push (seqObj "tuple" vs.toArray 0)).push (seqObj "list" #[] 0)=oG at eU Af JP nF;generalize S6:((s.heap.update a (Obj.mapSeq fun Y=>#[])).push (seqObj "tuple" vs.toArray 0)).objs.size=eS at nF
 have w5:s.heap.get? eS=none:=by
  cases e:s.heap.get? eS with
  |none=>rfl
  |some o=>
   have:=Heap.lt_size e;have af:s.heap.objs.size+1=eS:=by rw[←S6,size_push',Heap.size_update]
   rw[←af]at this;exact absurd this (Nat.not_lt.mpr (Nat.le_succ _))
 have JQ:eS∉am:=fun hm=>by refine aj ?_ (S.there hm);intro o;refine ar ?_;intro e _;rw[w5]at e;cases e
 have Al:B.get? eS=none:=by
  cases e:B.get? eS with
  |none=>rfl
  |some o=>have:=S.base _ o e;rw[w5]at this;cases this
 have JR:a≠eS:=fun e=>by rw[e,w5]at bx;cases bx
 have Ag:fR s.heap oG:=fun b o aK e=>eU b o (JD b o aK e);show wpAny (model prog w) A _ P bo {s with heap:=oG};refine wpAny_bind (wpAny_rule ?_);simp only[List.forIn_toArray];refine wpAny_bind (SU (lB:=lB) (s:={s with heap:=oG}) JQ Al (fun x s' F bD=>?_) (fun h h'=>S4 eS w5 h h') pL vs rs [] [] 0 (DQ _ _ aM fun b o Y av e=>eU b o (cT b o av e)) Af (aO.mono (List.prefix_refl _) Ag) gP nF .nil (by simp;exact eZ hlen rfl) fun aH lr iM aB An iV DT DU DV w4=>?_)
 ·refine wpAny_bind (wpAny_attempt (wpAny_mono bD (fun key fj bb=>?_) fun Y Y z=>z.elim));exact wpAny_bind (wpAny_mono bb (fun Y fF S7=>wpAny_pure S7) fun Y Y z=>z)
 ·have jj:aB.length=vs.length:=by rw[w4.length,j8];simp
  have DW:aH.get? eS=some (seqObj "list" aB.toArray An):=DV;have S8:aH.get? a=some (seqObj "list" #[] aS):=iV _ _ aJ JR JP;have S9:bT am aH (rs.map aT) vs:=aO.mono (List.prefix_refl _) fun b o aK e=>DT b o aK (Ag b o aK e);refine wpAny_bind (listItems_at (s:={s with heap:=aH,toks:=lr,drawn:=iM}) DW rfl ?_);have Ah:Paired (fun(r:List Int)(p:Keyed)=>iY aH p.1 r∧bc am aH (aT r) p.2) rs (aB.zip vs):=S1 (by simpa using w4) S9
  have tail:∀(ao:SortSt)(zs:List (List Int)) gm,∀Y:failedOf ao=none,∀Y:(arrOf ao).size=vs.length,∀Y:Paired (fun(r:List Int)(p:Keyed)=>iY aH p.1 r∧bc am aH (aT r) p.2) zs (arrOf ao).toList,∀Y:jk oK.blt rs zs,
   wpAny (model prog w) A (do
    Builtin.List.listUpdate (.ref eS) fun Y=>#[]
    letGo ((arrOf ao).map (·.1)).toList (failedOf ao).toList
    let touched:=(←seqEpoch a) != aS
    Builtin.List.listUpdate (.ref a) fun Y=>(arrOf ao).map (·.2)
    if let some e:=failedOf ao then rule "list.sort.comparison-raised";throw e
    if touched then rule "list.sort.modified";raiseError "ValueError" "list modified during sort"
    ret .none) P bo {s with heap:=aH,toks:=gm,drawn:=iM}:=by
   intro ao zs gm bq c8 aU hs;refine wpAny_bind (listUpdate_at (s:={s with heap:=aH,toks:=gm,drawn:=iM}) DW rfl ?_ (by rw[List.size_toArray,jj];exact aA (.a .r (.k 1000000) (.a (.k 1000000) .q (.c .p .r (.l .p .q)))) rfl hlen iA j8) (Nat.zero_le _));refine wpAny_bind (wpAny_letGo ?_);have eB:∀b o,∀Y:b≠eS,∀Y:aH.get? b=some o,(aH.update eS (Obj.mapSeq fun Y=>#[])).get? b=some o:=fun b o av e=>by rw[Heap.get?_update_ne _ _ _ _ av];exact e
   have Ao:=eB _ _ JR S8;refine wpAny_bind (seqEpoch_at Ao rfl ?_);refine wpAny_bind (listUpdate_at Ao rfl ?_ (Nat.zero_le _) (by rw[Array.size_map,c8];exact aA (.i 1000001 (.l .r (.k 1000000)) (.i 1000000 (.l (.k 1000000) .q) (.i 1000001 (.e .p .r) (.G 999999 (.l .p (.b .q)))))) rfl hlen iA j8));rw[bq];rw[if_neg (by rw[bne_self_eq_false];decide)];have iS:∀b o,∀Y:b≠a,∀Y:(aH.update eS (Obj.mapSeq fun Y=>#[])).get? b=some o,((aH.update eS (Obj.mapSeq fun Y=>#[])).update a (Obj.mapSeq fun Y=>(arrOf ao).map (·.2))).get? b=some o:=fun b o av e=>by rw[Heap.get?_update_ne _ _ _ _ av];exact e
   have Tc:¬Kept (seqObj "list" aB.toArray An):=tC rfl;have Td:¬Kept (seqObj "list" (#[]:Array Value) aS):=tC rfl;refine ar ?_ (DU.gY eB ⟨⟨_,DW,Tc⟩,JQ,Al⟩);intro Te Tf;refine ar ?_ (Te.gY iS ⟨⟨_,Ao,Td⟩,aJ,g6⟩);intro DX Tg;have JS:=get?_update_seq Ao (fun Y=>(arrOf ao).map (·.2));have Aq:(arrOf ao).map (·.2)=((arrOf ao).toList.map (·.2)).toArray:=by simp[←Array.toList_map]
   rw[Aq]at JS ⊢;refine wpAny_pure (h _ zs _ gm iM _ (fun b o ae af e=>?_) ?_ JS ?_ hs)
   ·have av:b≠eS:=fun q=>by rw[q,w5]at e;cases e
    rw[←Aq];exact iS b o af (eB b o av (iV b o ae av (eU b o (cT b o af e))))
   ·rw[←Aq];exact DX
   ·rw[←Aq];exact(S2 (fun r p q=>q.2) aU).mono (List.prefix_refl _) fun b o aK e=>Tg b o aK (Tf b o aK e)
  have DY:(aB.toArray.zip vs.toArray).toList=aB.zip vs:=by simp
  by_cases af:vs.toArray.size<2
  ·rw[if_pos af];refine wpAny_bind (wpAny_pure ?_);rw[if_pos af,StateT.run_pure];refine wpAny_bind (wpAny_pure ?_);refine tail (SortSt.mk' general' (aB.toArray.zip vs.toArray) #[] 7 none) rs lr rfl (by show(aB.toArray.zip vs.toArray).size=_;simp[jj]) ?_ ⟨.refl _,?_⟩
   ·show Paired _ rs (aB.toArray.zip vs.toArray).toList;rw[DY];exact Ah
   ·have:rs.length<2:=by rw[←j8];simpa using af
    match rs,this with
    |[],_=>exact .nil
    |[_],_=>exact List.pairwise_singleton ..
  ·rw[if_neg af,if_neg af];have Am:2≤aB.length:=by rw[jj];simpa using af
   have pV:∀v∈aB,∃r,iY aH v r:=fun v wc=>w4.all v wc;refine wpAny_bind (I6 (s:={s with heap:=aH,toks:=lr,drawn:=iM}) Am (fun v wc=>(pV v wc).elim fun r aC=>aC.led) ?_);have az:Nonempty oK.α:=⟨([]:List Int)⟩;have K:=Q4 (prog:=prog) (w:=w) (A:=A) (h:=aH) (f:=true) dQ
   have Dk:=IY (O:=qV (s:={s with heap:=aH,toks:=lr,drawn:=iM}) az K) (a₀:=aB.toArray.zip vs.toArray) (kJ:=SortSt.mk' (qU true) (aB.toArray.zip vs.toArray) #[] 7 none)
    (Q:=fun Y ao=>gA (qV (s:={s with heap:=aH,toks:=lr,drawn:=iM}) az K) (aB.toArray.zip vs.toArray) ao∧eK (qV (s:={s with heap:=aH,toks:=lr,drawn:=iM}) az K) (arrOf ao) 0 (aB.toArray.zip vs.toArray).size)
    (fun p aQ=>by
      rw[DY]at aQ;obtain⟨x,y⟩:=p;exact pV _ (List.of_mem_zip aQ).1) ⟨Array.Perm.refl _,rfl,rfl⟩ rfl (fun ao b Dl=>⟨b,Dl⟩) lr
   refine wpAny_bind (wpAny_mono Dk ?_ fun Y Y e=>e);rintro⟨⟨⟩,ao⟩ s' ⟨⟨gm,rfl⟩,av,hs⟩;dsimp only at av hs ⊢;have fO:(arrOf ao).toList.Perm (aB.zip vs):=by rw[←DY];exact Array.perm_iff_toList_perm.mp av.perm
   refine aj ?_ (SX fO Ah);intro zs;refine ar ?_;intro Th aU;refine tail ao zs gm av.failed (by rw[av.size];simp[jj]) aU ⟨Th,?_⟩;exact S0 (T:=fun x y=>oK.blt y x=false) (kf:=(qV (s:={s with heap:=aH,toks:=lr,drawn:=iM}) az K).kf) (fun z p q=>Dm (s:={s with heap:=aH,toks:=lr,drawn:=iM}) az K (v:=p.1) (u:=p.2) q.1) aU (I3 av.perm.size_eq hs)
end Mine
end
section
namespace Mine
variable{prog:Program}{w:World}{B:Heap}{ak:dB}{k:Nat}
theorem Ti(a v:Value):argsOk "sorted" ⟨[a],[(Str.ofString "key",v)]⟩:=by unfold argsOk;kernel_rfl
theorem Tj(a v:Value):argsOk "list.sort" ⟨[a],[(Str.ofString "key",v)]⟩:=by unfold argsOk;kernel_rfl
noncomputable def uI:Scope:={kind:=.function,names:=[(Str.ofString "row",.local),(Str.ofString "len",.globalImplicit)],isGenerator:=false,isCoroutine:=false,more:=[]}
noncomputable def DZ(p:Pos):Arguments:={posonlyargs:=[],args:=[{arg:="row",annotation:=none,pos:=p}],vararg:=none,kwonlyargs:=[],kw_defaults:=[],kwarg:=none,defaults:=[]}
noncomputable def w6(gq p2 q8 nW q9:Pos):Expr:=.Tuple [.Call (.Name "len" gq) [.Name "row" p2] [] q8,.Name "row" nW] 0 q9
noncomputable def Tl(Q:∀Y:ah,∀Y:St,Prop) (loc:Loc) (st:St):Prop:=∃ns:List Int,getV loc 0=some (aT ns)∧ns.length<1000000∧Q (.tup [.int ns.length,aT ns]) st
theorem b3.imp{e:Expr}{P uG:b6}(h:b3 prog w B ak k e P)(aQ:∀Q loc st,∀Y:uG Q loc st,P Q loc st):b3 prog w B ak k e uG:=fun Y Y Y Y Y Y Y aL R S q=>h aL R S (aQ _ _ _ q)
theorem Tn{gq p2 q8 nW q9:Pos}(az:fN B "len" (.builtin "len")):b3 prog w B (g5 uI.names) k (w6 gq p2 q8 nW q9) Tl:=by
 refine b3.imp (lT (aR (bL az (.inl ⟨_,rfl⟩) fD (aR (aw (i:=0) (by rfl)) bg) (by rfl)) (aR (aw (i:=0) (by rfl)) bg))) ?_;intro Q loc st;refine aj ?_;intro ns;refine aY ?_;intro ae af aH;dsimp only[tupP,consEs,callP,nameP,nilEs];rw[ae];simp only[vE,one];refine fS (x:=some (ns.map ah.int)) rfl ?_;rw[List.length_map];exact⟨by exact lM af rfl,by simp,aH⟩
set_option tactic.hygienic true in
theorem To{am:List Addr}{h:Heap}{ns:List Int}{v:Value}(r:bc am h (.tup [.int ns.length,aT ns]) v):iY h v ns:=by
 cases r with
 |@tup _ a items n bf aC=>
  generalize e:items.toList=l at aC;cases aC with
  |cons x y=>cases x with
   |@int _ t=>cases y with
    |cons y z=>cases z with
     |nil=>
      rename_i u;have:items=#[.int ns.length t,u]:=Array.toList_inj.mp (by rw[e]);subst this;exact⟨a,u,_,t,n,rfl,bf,rfl,Dr y⟩
theorem bh.adopt{am:List Addr}{h:Heap}{st:St}{a:Addr}{o:bB}(S:bh prog w B am h st)(n0:a∉am)(g6:B.get? a=none)(bx:j1 prog w (am++[a]) h a o):bh prog w B (am++[a]) h (st++[o]):=by
 refine⟨by simp[S.len],?_,?_,S.base,fun m b cg ae af=>?_⟩
 ·rw[List.nodup_append];exact⟨S.nodup,by simp,fun x ai y au=>by rw[List.mem_singleton.mp au];exact fun q=>n0 (q▸ai)⟩
 ·intro b av;rcases List.mem_append.mp av with av|av
  ·exact S.off b av
  ·rw[List.mem_singleton.mp av];exact g6
 ·by_cases bC:m<am.length
  ·rw[List.getElem?_append_left bC]at ae;rw[List.getElem?_append_left (S.len▸bC)]at af;exact(S.obj m b cg ae af).mono (List.prefix_append _ _) (fun b o Y e=>e) fun bO e=>e
  ·have:m=am.length:=by
    have:=(List.getElem?_eq_some_iff.mp ae).1;simp at this;exact Nat.le_antisymm (aq (.b .p (.b .q) (.l .p .q)) rfl this) (aq (.n (.t .q .p) (.l .p .q)) rfl bC)
   subst this;rw[List.getElem?_append_right (Nat.le_refl _)]at ae;rw[S.len,List.getElem?_append_right (Nat.le_refl _)]at af;simp at ae af;subst ae af;exact bx
theorem Tp{A:Around}(h:gW A (k+2)):gW A.in1.in1 (k+1):=⟨h.1,by have:=h.2.1;show A.depth+(k+1)+100<_;exact aA (.b (.a (.a .p (.a .q (.k 2))) (.k 100)) .r (.t (.a (.a .p (.b .q)) (.k 100)) .r)) rfl this,by have:=h.2.2;show A.units+1+1+20*(k+1)+100<_;exact aA (.b (.a (.a .p (.m 20 (.a .q (.k 2)))) (.k 100)) .r (.t (.a (.a (.b (.b .p)) (.m 20 (.b .q))) (.k 100)) .r)) rfl this⟩
noncomputable def JT(P j:Nat)(x:ah)(Q:∀Y:ah,∀Y:St,Prop) (st:St):Prop:=∃rows:List (List Int),listAt x st=some (rows.map aT)∧st[j]?=some (.tab P)∧rows.length≤1000000∧(∀r∈rows,r.length<1000000)∧∀ys,∀Y:jk oK.blt rows ys,Q (.ref st.length) (st++[.list (ys.map aT)])
set_option tactic.hygienic true in
theorem Tq{y:Str}{D0 np cv p Tr jZ gq p2 q8 nW q9:Pos}{br:b6}{c P j:Nat}{uE:Str}(gk:fN B "sorted" (.builtin "sorted"))(w7:fN B "len" (.builtin "len"))(Aj:ak.code=some (.ref c,uE))(bb:uE++"<lambda>"=nX)(bR:nG B c P)(uF:Ai B)(er:B.NoLimit)
 (h:b3 prog w B ak (k+2) (.Name y D0) br)(ai:autoParam (ak.kinds.lookup (Str.ofString "sorted")=some NameKind.globalImplicit) jY._auto_1):
 b3 prog w B ak (k+2) (.Call (.Name "sorted" np) [.Name y D0] [⟨some "key",.Lambda (DZ jZ) (w6 gq p2 q8 nW q9) uI Tr,cv⟩] p) fun Q loc st=>br (fun x aV=>JT P j x Q aV) loc st:=by
 intro A env s am loc st Q aL R fP q;refine wpAny_Call_ofName (BQ R fP ai gk (by decide) ?_);refine callWith_kw ?_;have aJ:qu prog w B ak (k+2) [.Name y D0] (fun Q loc st=>br (fun v aV=>Q [v] aV) loc st):=aR h bg;refine tD (aJ (pos:=p) (Q:=fun vs aV=>one (fun x Q st=>JT P j x Q st) vs Q aV) aL R fP q) fun vs ba bV aV qt bj bk cN bF=>?_;cases cN with
 |nil=>exact bF.elim
 |cons a fT=>
  rename_i x v yR vs';cases fT with
  |cons=>exact bF.elim
  |nil=>
   refine aj ?_ bF;clear bF;intro rows;refine eY ?_;intro aD eL hlen gP a7;refine kws_cons (SG (R.ext fP bj.ext) bk Aj bb bR uF eL rfl rfl fun f pm iR dw cC cw bq pK om=>?_);refine kws_nil ?_;have Tt:=a.mono cC.ext.pre (bk.gI cC.ext);show wpAny _ _ (call (.builtin "sorted") [v] [(Str.ofString "key",.ref f)]) _ _ _;refine call_function_entry_kw kind_sorted plain_sorted entry_sorted (Ti _ _) ?_;unfold Builtin.«sorted»;refine wpAny_bind (m:=checkCount "sorted" 1 1 _) (wpAny_pure ?_);refine wpAny_bind (Ds cw Tt aD (by rw[List.length_map];exact hlen) fun vs eP eT fU r=>?_);have j8:vs.length=rows.length:=by rw[←r.length,List.length_map]
   have iA:1000000≤sizeLine:=by decide
   refine wpAny_bind (wpAny_newList ?_ (by exact aA (.a .r (.k 1000000) (.c .p .r (.a (.k 1000000) .q (.l .p .q)))) rfl hlen j8 iA));have wV:(eP.heap.push (seqObj "list" vs.toArray 0)).get? eP.heap.objs.size=some (seqObj "list" vs.toArray 0):=Heap.get?_push_size _ rfl;have ml:∀b o,∀Y:eP.heap.get? b=some o,(eP.heap.push (seqObj "list" vs.toArray 0)).get? b=some o:=fun b o e=>Heap.get?_push_of_some _ e;have JU:eP.heap.objs.size∉bV:=fun hm=>absurd (fU.lt hm) (Nat.lt_irrefl _)
   have zm:B.get? eP.heap.objs.size=none:=by
    cases e:B.get? eP.heap.objs.size with
    |none=>rfl
    |some o=>exact absurd (Heap.lt_size (fU.base _ o e)) (Nat.lt_irrefl _)
   have D3:=eT.ext.keep _ _ bq pK;have Tu:f≠eP.heap.objs.size:=Nat.ne_of_lt (Heap.lt_size D3);refine dF ?_ om;clear om;intro uJ co JV Tv;refine eY ?_;rintro rfl JW tY JX Tw
   have D4:uJ∉bV:=fun hm=>by
    refine aj ?_ (cw.there hm);intro bO;refine ar ?_;intro e DS;rw[JW]at e;cases e;exact DS (.inr (.inr ⟨tY,JV,JX⟩))
   have D5:=eT.ext.keep _ _ D4 JW;have Tz:uJ≠eP.heap.objs.size:=Nat.ne_of_lt (Heap.lt_size D5);show wpAny _ _ _ _ _ {eP with heap:=eP.heap.push (seqObj "list" vs.toArray 0)};refine wpAny_bind (wpAny_holding (wpAny_call_entry_kw slot_list_sort ⟨_,wV,rfl⟩ entry_list_sort ?sort (Tj _ _)))
   case sort=>
    refine S3 (B:=B) (am:=bV) (st:=aV) (rs:=rows) (f:=f)
     (lB:=fun h=>h.get? f=some {cls:=.type "function",data:=.func (w2 "<lambda>" nX (DZ jZ) (w6 gq p2 q8 nW q9) uI pm (.ref uJ))}∧h.get? uJ=some co)
     (s:={eP with heap:=eP.heap.push (seqObj "list" vs.toArray 0)}) ?_ wV JU zm (fU.keeps ml) (r.mono (List.prefix_refl _) (lV ml)) hlen gP ?_ ⟨ml _ _ D3,ml _ _ D5⟩ ?_ ?_ ?_
    ·have:=aL.2.2;show A.units+1+1<cLine;exact aA (.b (.a (.a .p (.m 20 (.a .r (.k 2)))) (.k 100)) .q (.t (.b (.b .p)) .q)) rfl this
    ·exact fun h h' rd k=>⟨k _ _ bq Tu rd.1,k _ _ D4 Tz rd.2⟩
    ·intro eS nF h h' rd k;refine⟨k _ _ bq (fun e=>?_) rd.1,k _ _ D4 (fun e=>?_) rd.2⟩
     ·have:=ml _ _ D3;rw[e]at this;rw[show(_:Heap).get? eS=none from nF]at this;cases this
     ·have:=ml _ _ D5;rw[e]at this;rw[show(_:Heap).get? eS=none from nF]at this;cases this
    ·intro s' u ns rd dJ TA dQ
     have D6:JJ s'.heap f (w2 "<lambda>" nX (DZ jZ) (w6 gq p2 q8 nW q9) uI pm (.ref uJ)) (Str.ofString "row") (w6 gq p2 q8 nW q9) uI:=
      ⟨⟨_,rd.1,rfl⟩,rfl,rfl,rfl,rfl,rfl,⟨uJ,co,JV,Tv,rfl,rd.2,JX,Tw⟩,fun Y=>rfl⟩
     refine wpAny_mono (Sw (n:=0) (Q:=fun pv ao=>pv=.tup [.int ns.length,aT ns]∧ao=aV) D6 (Tp aL) er dJ dQ (Tn w7) ⟨ns,rfl,TA,rfl,rfl⟩ (hone:=fun y i au=>?_)) (fun key fj aQ=>?_) fun Y Y z=>z
     ·have e:(oi 0 (varNames uI.names))=[(Str.ofString "row",0)]:=by rfl
      have uC:List.lookup y [(Str.ofString "row",0)]=some i:=e▸au;rw[List.lookup_cons]at uC
      split at uC
      ·rename_i aG;exact⟨eq_of_beq aG,(Option.some.inj uC).symm⟩
      ·cases uC
     ·refine bG ?_ aQ;clear aQ;intro aX ao pv;refine eY ?_;rintro e8 JY qI rfl rfl
      have TB:aX=bV:=by
       refine aj ?_ e8.ext.pre;intro c5 e;have ae:=JY.len;have af:=dJ.len;rw[←e]at ae ⊢;rw[List.length_append]at ae;have:c5=[]:=List.length_eq_zero_iff.mp (by exact Nat.le_antisymm (aA (.c (.a .q .p) .r (.i (-1) (.e .q .r) (.l .p .z))) rfl ae af) (aI (.l .z .p) rfl));rw[this];simp
      subst TB;exact⟨e8,JY,To qI⟩
    ·intro out zs h' tk d m aK dc bx aO hs;refine⟨_,rfl,wpAny_pure ⟨_,rfl,?_⟩⟩;have DX:=dc.adopt (o:=.list (zs.map aT)) JU zm ⟨out,⟨_,bx⟩,aO.mono (List.prefix_append _ _) fun Y Y Y e=>e⟩
     have dP:Ext bV eP.heap (bV++[eP.heap.objs.size]) h':=⟨List.prefix_append _ _,fun b o av e=>aK b o av (Nat.ne_of_lt (Heap.lt_size e)) (ml _ _ e),fun b av az=>by
      rcases List.mem_append.mp av with av|av
      ·exact absurd av az
      ·rw[List.mem_singleton.mp av];exact lS _⟩
     have TF:c9 bV eP (bV++[eP.heap.objs.size]) {eP with heap:=h',toks:=tk,drawn:=d}:=⟨⟨_,_,_,rfl⟩,dP⟩;refine dC.over (bj.trans (cC.trans eT)) ⟨_,_,.ref aV.length,TF,DX,.ref (by rw[←bk.len];simp),a7 zs hs⟩
end Mine
end
section
namespace Mine
variable{prog:Program}{w:World}{B:Heap}{ak:dB}{k:Nat}
set_option tactic.hygienic true in
theorem TG{a b:Expr}{p:Pos}{br bK:b6}(bU:b3 prog w B ak k a br)(cZ:b3 prog w B ak k b bK):
 b3 prog w B ak k (.BoolOp .And [a,b] p) fun Q loc st=>br (wd fun c aV=>if c=true then bK Q loc aV else Q (.bool false) aV) loc st:=by
 intro A env s am loc st Q aL R S h;refine BoolOp_and (dZ (bU aL R S h) fun v ba bV aV pv bj bk cN bF=>?_);cases cN<;>first|exact bF.elim|skip
 rename_i c;refine wpAny_truthy_bool ?_;cases c with
 |false=>exact⟨bV,aV,.bool false,bj,bk,.bool,bF⟩
 |true=>
  have:=cZ aL (R.ext S bj.ext) bk bF;refine BoolOp_one ?_;exact wpAny_mono this (fun Y Y z=>dC.over bj z) fun Y Y z=>z
end Mine
end
section
namespace Mine
variable{prog:Program}{w:World}{B:Heap}{ak:dB}{k:Nat}
noncomputable def TH:DefRec:=⟨"",⟨[],[],none,[],[],none,[]⟩,[],{kind:=.function,names:=[],isGenerator:=false,isCoroutine:=false,more:=[]},⟨0,0,0,0⟩⟩
noncomputable def ofStmt:∀Y:List Stmt,DefRec
 |.FunctionDef name a b _ _ _ sc _ _ pos::_=>⟨name,a,b,sc,pos⟩
 |_=>TH
noncomputable def bP(i:Nat):DefRec:=ofStmt (PySem.Challenge.pw_nn0309_01.main.body.drop i)
noncomputable def mq(d:DefRec):List Str:=d.params.args.map (·.arg)
structure dU(B:Heap)(i:Nat)(a:Addr):Prop where
 i6:fN B (bP i).name (.ref a)
 fn:∃pm fm doc,wa B a (PySem.Calls.docDef (bP i).name (bP i).params (bP i).body (bP i).scope pm fm doc) (mq (bP i)) (bP i).body (bP i).scope
theorem dU.plain{i:Nat}{a:Addr}(F:dU B i a):Plain B (.ref a):=by
 refine bG ?_ F.fn;intro pm fm doc X;refine aj ?_ X.at_;intro o;refine ar ?_;intro ae af;exact .inr (.inr ⟨a,o,_,rfl,ae,af⟩)
noncomputable def oO(a b:List Int):Bool:=oK.blt a b
theorem cj{names:List (Str×NameKind)}{fm:Option (Value×Str)}{x:Str}(h:names.lookup x≠some .free):(g5 names fm).kinds.lookup x≠some .free:=h
theorem b9.imp{v:Value}{S dJ:∀Y:List ah,∀Y:(∀Y:ah,∀Y:St,Prop),∀Y:St,Prop} (h:b9 prog w B k v S) (aQ:∀xs Q st,∀Y:dJ xs Q st,S xs Q st):b9 prog w B k v dJ:=fun Y Y Y Y Y Y Y aL S aO q=>h aL S aO (aQ _ _ _ q)
theorem dU.called{i:Nat}{a:Addr}{P:d8}(F:dU B i a)(dh:wb (mq (bP i)) (bP i).scope=true)(er:B.NoLimit)(av:kA prog w B (g5 (bP i).scope.names) k (bP i).body P):
 b9 prog w B (k+1) (.ref a) (yT (mq (bP i)).length (varNames (bP i).scope.names).length P):=by
 refine bG ?_ F.fn;intro pm fm doc X;exact Ca X dh er none (fun Y h=>nomatch h) av
theorem dU.iB{i:Nat}{a:Addr}{P:d8}{dJ:∀Y:List ah,∀Y:(∀Y:ah,∀Y:St,Prop),∀Y:St,Prop} (n sd:Nat) (F:dU B i a) (dh:wb (mq (bP i)) (bP i).scope=true) (er:B.NoLimit) (aS:(mq (bP i)).length=n) (aW:(varNames (bP i).scope.names).length=sd)
 (av:kA prog w B (g5 (bP i).scope.names) k (bP i).body P) (aQ:∀xs Q st,∀Y:dJ xs Q st,yT n sd P xs Q st):b9 prog w B (k+1) (.ref a) dJ:=by
 subst aS aW;exact b9.imp (dU.called F dh er av) aQ
theorem varQ_some(v:ah)(Q:∀Y:ah,∀Y:St,Prop) (st:St):vE (some v) Q st=Q v st:=rfl
theorem intsQ_int(f:∀Y:Int,∀Y:Int,∀Y:(∀Y:ah,∀Y:St,Prop),∀Y:St,Prop) (a b:Int) (Q:∀Y:ah,∀Y:St,Prop) (st:St):m9 f (.int a) (.int b) Q st=f a b Q st:=rfl
theorem cmpI_int(f:∀Y:Int,∀Y:Int,Bool) (a b:Int) (Q:∀Y:Bool,∀Y:St,Prop) (st:St):ph f (.int a) (.int b) Q st=Q (f a b) st:=rfl
theorem eqQ_int(a b:Int)(Q:∀Y:Bool,∀Y:St,Prop) (st:St):nc false (.int a) (.int b) Q st=Q (decide (a=b)) st:=by
 have:(xor false (a==b))=decide (a=b):=by simp;rfl
 show Q (xor false (a==b)) st=_;rw[this]
theorem addQ_int(a b:Int)(Q:∀Y:ah,∀Y:St,Prop) (st:St):addQ (.int a) (.int b) Q st=Q (.int (a+b)) st:=rfl
theorem iaddQ_int(a b:Int)(Q:∀Y:ah,∀Y:St,Prop) (st:St):v7 (.int a) (.int b) Q st=Q (.int (a+b)) st:=rfl
theorem seqF_next(P:d8)(Q:∀Y:gj,∀Y:Loc,∀Y:St,Prop) (l:Loc) (st:St):rX P Q .next l st=P Q l st:=rfl
theorem seqF_ret(P:d8)(Q:∀Y:gj,∀Y:Loc,∀Y:St,Prop) (v:ah) (l:Loc) (st:St):rX P Q (.ret v) l st=Q (.ret v) l st:=rfl
theorem seqF_cont(P:d8)(Q:∀Y:gj,∀Y:Loc,∀Y:St,Prop) (l:Loc) (st:St):rX P Q .cont l st=Q .cont l st:=rfl
theorem jz(st:St)(o:bB):(st++[o])[st.length]?=some o:=by simp
theorem iN(st:St)(xs:List ah):listAt (.ref st.length) (st++[.list xs])=some xs:=Option.bind_eq_some_iff.mpr ⟨_,jz st _,rfl⟩
theorem TJ(st:St)(o cg:bB):(st++[o]).set st.length cg=st++[cg]:=by simp
theorem dS{st:St}{i:Nat}{o:bB}(h:st[i]?=some o)(g:St):(st++g)[i]?=some o:=by
 rw[List.getElem?_append_left (List.getElem?_eq_some_iff.mp h).1];exact h
theorem cH{n:Nat}{st:St}{xs:List ah}(h:st[n]?=some (.list xs)):listAt (.ref n) st=some xs:=Option.bind_eq_some_iff.mpr ⟨_,h,rfl⟩
theorem uK{n:Nat}{st:St}{kvs:List (Int×ah)}(h:st[n]?=some (.ed kvs)):dictAt (.ref n) st=some kvs:=Option.bind_eq_some_iff.mpr ⟨_,h,rfl⟩
theorem JZ{n:Nat}{st:St}{xs:List ah}(h:st[n]?=some (.list xs)):dictAt (.ref n) st=none:=by
 show(st[n]?).bind G1=none;rw[h];rfl
theorem TL{n:Nat}{st:St}{kvs:List (Int×ah)}(h:st[n]?=some (.ed kvs)):listAt (.ref n) st=none:=by
 show(st[n]?).bind BI=none;rw[h];rfl
theorem jA{x:ah}{st:St}{xs:List ah}(h:listAt x st=some xs)(g:St):listAt x (st++g)=some xs:=by
 refine aj ?_ (qx h);intro n;refine ar ?_;rintro rfl e;exact cH (dS e g)
theorem sO{a b:Int}{st:St}(ae:-1000000≤a)(af:a≤1000000)(aH:-1000000≤b)(bX:b≤1000000):jv (.range a b) st=some ((List.range (b-a).toNat).map fun i=>.int (a+(i:Nat))):=if_pos ⟨ae,af,aH,bX⟩
theorem uL{x:ah}{st:St}{xs:List ah}(h:listAt x st=some xs):jv x st=some xs:=by
 refine aj ?_ (qx h);intro n;refine ar ?_;rintro rfl _;exact h
theorem kM(st l:St)(i:Nat):(st++l)[st.length+i]?=l[i]?:=by
 rw[List.getElem?_append_right (Nat.le_add_right _ _)];simp
theorem jm(st l:St):(st++l)[st.length]?=l[0]?:=kM st l 0
theorem nH(st l:St)(i:Nat)(o:bB):(st++l).set (st.length+i) o=st++l.set i o:=by
 rw[List.set_append_right _ _ (Nat.le_add_right _ _)];simp
theorem oP(st l:St)(o:bB):(st++l).set st.length o=st++l.set 0 o:=nH st l 0 o
theorem append_at{n:Nat}{st:St}{xs:List ah}{v:ah}{Q:∀Y:ah,∀Y:St,Prop} (h:st[n]?=some (.list xs)) (aD:xs.length≤1000000) (bb:Q .none (st.set n (.list (xs++[v])))):pH (.ref n) v Q st:=fS (cH h) ⟨aD,bb⟩
theorem pop_at{n:Nat}{st:St}{xs:List ah}{y:ah}{Q:∀Y:ah,∀Y:St,Prop} (h:st[n]?=some (.list (xs++[y]))) (aD:xs.length<1000000) (bb:Q y (st.set n (.list xs))):Hn (.ref n) Q st:=fS (cH h) ⟨by rw[List.length_append];exact aD,y,List.getLast?_concat ..,by rw[List.dropLast_concat];exact bb⟩
theorem TM{a:List Int}{i:Nat}(h:i<a.length):pick (a.map .int) (i:Int)=some (.int a[i]):=by
 unfold pick;rw[if_pos (by exact aI (.L (.k 0) (.n .p)) rfl)];simp[h]
theorem rf{a:List Int}{i:Nat}{Q:∀Y:ah,∀Y:St,Prop} {st:St} (h:i<a.length) (aD:a.length<1000000) (bb:Q (.int a[i]) st):ng (aT a) (.int i) Q st:=⟨by rw[List.length_map];exact aD,fS (TM h) bb⟩
theorem item_dict{v:ah}{kvs:List (Int×ah)}{i:Int}{x:ah}{Q:∀Y:ah,∀Y:St,Prop} {st:St} (hd:dictAt v st=some kvs) (bq:fa i kvs=some x) (bb:Q x st):ng v (.int i) Q st:=by
 refine aj ?_ (yu hd);intro n;refine ar ?_;rintro rfl e;rw[BL,hd];exact fS bq bb
theorem item_list{v:ah}{xs:List ah}{i:Int}{x:ah}{Q:∀Y:ah,∀Y:St,Prop} {st:St} (hd:listAt v st=some xs) (aD:xs.length<1000000000) (bq:pick xs i=some x) (bb:Q x st):ng v (.int i) Q st:=by
 refine aj ?_ (qx hd);intro n;refine ar ?_;rintro rfl e;rw[BL,JZ e];exact fS hd ⟨aD,fS bq bb⟩
theorem jU{v:ah}{xs:List ah}{Q:∀Y:ah,∀Y:St,Prop} {st:St} (hd:listAt v st=some xs) (aD:xs.length<1000000000) (bb:Q (.int xs.length) st):one rV [v] Q st:=by
 refine aj ?_ (qx hd);intro n;refine ar ?_;rintro rfl e;exact fS hd ⟨aD,bb⟩
theorem sum_list{n:Nat}{ns:List Int}{Q:∀Y:ah,∀Y:St,Prop} {st:St} (h:listAt (.ref n) st=some (ns.map .int)) (bb:Q (.int ns.sum) st):one Hf [.ref n] Q st:=
 fS (a:=ns) (Option.bind_eq_some_iff.mpr ⟨_,h,N2 ns⟩) bb
theorem TN{v:ah}{a:List Int}{Q:∀Y:ah,∀Y:St,Prop} {st:St} (hd:listAt v st=some (a.map .int)) (aD:a.length<1000000) (bb:Q (.int a.length) st):one rV [v] Q st:=
 jU hd (by rw[List.length_map];exact Nat.lt_trans aD (by decide)) (by rw[List.length_map];exact bb)
theorem J0{v:ah}{a:List Int}{Q:∀Y:ah,∀Y:St,Prop} {st:St} (hd:listAt v st=some (a.map .int)) (aD:a.length≤1000000) (bb:Q (aT a) st):one yE [v] Q st:=by
 refine aj ?_ (qx hd);intro n;refine ar ?_;rintro rfl e;exact fS hd ⟨by rw[List.length_map];exact aD,bb⟩
theorem mU{a:List Int}{Q:∀Y:ah,∀Y:St,Prop} {st:St} (aD:a.length<1000000) (bb:Q (.int a.length) st):one rV [aT a] Q st:=by
 show fY (ky (aT a) st) (fun xs=>xs.length<1000000000∧Q (.int xs.length) st);refine fS (a:=a.map .int) rfl ?_;rw[List.length_map];exact⟨Nat.lt_trans aD (by decide),bb⟩
theorem D7(i:Int)(b:List Int):rT i (b.map .int)=some (decide (i∈b)):=by
 induction b with
 |nil=>rfl
 |cons j r ih=>
  show(rT i (r.map .int)).map ((j==i)||·)=_;rw[ih];refine congrArg some (Bool.eq_iff_iff.mpr ?_);rw[Bool.or_eq_true,beq_iff_eq,decide_eq_true_iff,decide_eq_true_iff,List.mem_cons,eq_comm]
theorem Ar{i:Int}{a:List Int}{Q:∀Y:Bool,∀Y:St,Prop} {st:St} (q:Q (decide (i∈a)) st):pq false (.int i) (aT a) Q st:=fS (D7 i a) (by rw[Bool.false_xor];exact q)
theorem J1{i:Int}{a:List Int}{Q:∀Y:Bool,∀Y:St,Prop} {st:St} (q:Q (!decide (i∈a)) st):pq true (.int i) (aT a) Q st:=fS (D7 i a) (by rw[Bool.true_xor];exact q)
theorem in_dict{i:Int}{v:ah}{kvs:List (Int×ah)}{Q:∀Y:Bool,∀Y:St,Prop} {st:St} (h:dictAt v st=some kvs) (q:Q (fa i kvs).isSome st):pq false (.int i) v Q st:=by
 refine aj ?_ (yu h);intro n;refine ar ?_;rintro rfl _;rw[yv,h];show Q (xor false _) st;rw[Bool.false_xor];exact q
theorem TP{i:Int}{v:ah}{a:List Int}{Q:∀Y:Bool,∀Y:St,Prop} {st:St} (h:listAt v st=some (a.map .int)) (q:Q (!decide (i∈a)) st):pq true (.int i) v Q st:=by
 refine aj ?_ (qx h);intro n;refine ar ?_;rintro rfl e;rw[yv,JZ e,h];exact fS (D7 i a) (by rw[Bool.true_xor];exact q)
theorem As{c:Bool}{br bK:Prop}(bU:∀Y:c=true,br) (cZ:∀Y:c=false,bK):if c=true then br else bK:=by
 cases c with
 |true=>exact bU rfl
 |false=>exact cZ rfl
theorem kh{c:Bool}{Q:∀Y:Bool,∀Y:St,Prop} {st:St} (bU:∀Y:c=true,Q true st) (cZ:∀Y:c=false,Q false st):Q c st:=by
 cases c with
 |true=>exact bU rfl
 |false=>exact cZ rfl
theorem i7{c br bK:Prop}[Decidable c](bU:∀Y:c,br) (cZ:∀Y:¬c,bK):if decide c=true then br else bK:=
 As (fun h=>bU (of_decide_eq_true h)) fun h=>cZ (of_decide_eq_false h)
theorem oQ{st:St}{xs:List ah}{v:ah}{Q:∀Y:ah,∀Y:St,Prop} (aD:xs.length≤1000000) (h:Q .none (st++[.list (xs++[v])])):pH (.ref st.length) v Q (st++[.list xs]):=fS (iN st xs) ⟨aD,by rw[TJ];exact h⟩
noncomputable def D8(br bK:d8):d8:=fun Q loc st=>br (rX bK Q) loc st
noncomputable def D9(P:e9)(br bK:d8):d8:=fun Q loc st=>P (fun c aV=>if c=true then br Q loc aV else bK Q loc aV) loc st
noncomputable def J2(P:e9)(br bK:b6):b6:=fun Q loc st=>P (fun c aV=>if c=true then br Q loc aV else bK Q loc aV) loc st
theorem aZ{b:Stmt}{r:List Stmt}{br bK:d8}(bU:gx prog w B ak k b br)(cZ:kA prog w B ak k r bK):kA prog w B ak k (b::r) (D8 br bK):=N8 bU cZ
theorem fQ{t:Expr}{b o:List Stmt}{p:Pos}{P:e9}{br bK:d8}(h:jG prog w B ak k t P)(bU:kA prog w B ak k b br)(cZ:kA prog w B ak k o bK):gx prog w B ak k (.If t b o p) (D9 P br bK):=Ob h bU cZ
theorem Ea{t a b:Expr}{p:Pos}{P:e9}{br bK:b6}(h:jG prog w B ak k t P)(bU:b3 prog w B ak k a br)(cZ:b3 prog w B ak k b bK):b3 prog w B ak k (.IfExp t a b p) (J2 P br bK):=NM h bU cZ
theorem lC{br bK:d8}{Q:∀Y:gj,∀Y:Loc,∀Y:St,Prop} {loc:Loc} {st:St} (M:∀Y:Loc,∀Y:St,Prop)
 (ae:∀a6:∀Y:gj,∀Y:Loc,∀Y:St,Prop,∀Y:(∀l s,∀Y:M l s,a6 .next l s),∀Y:(∀v l s,∀Y:Q (.ret v) l s,a6 (.ret v) l s),∀Y:(∀l s,∀Y:Q .cont l s,a6 .cont l s),br a6 loc st) (af:∀l s,∀Y:M l s,bK Q l s):D8 br bK Q loc st:=
 ae (rX bK Q) (fun l s h=>af l s h) (fun Y Y Y h=>h) fun Y Y h=>h
theorem a8{br bK:d8}{Q:∀Y:gj,∀Y:Loc,∀Y:St,Prop} {loc:Loc} {st:St} (h:br (rX bK Q) loc st):D8 br bK Q loc st:=h
theorem gB{P:e9}{br bK:d8}{Q:∀Y:gj,∀Y:Loc,∀Y:St,Prop} {loc:Loc} {st:St} (c:Prop) (bf:∀a6:∀Y:Bool,∀Y:St,Prop,∀Y:(∀Y:c,a6 true st),∀Y:(∀Y:¬c,a6 false st),P a6 loc st)
 (ae:∀Y:c,br Q loc st) (af:∀Y:¬c,bK Q loc st):D9 P br bK Q loc st:=
 bf _ (fun h=>by rw[if_pos rfl];exact ae h) fun h=>by rw[if_neg Bool.false_ne_true];exact af h
theorem Eb{P:e9}{br bK:b6}{Q:∀Y:ah,∀Y:St,Prop} {loc:Loc} {st:St} (c:Prop) (bf:∀a6:∀Y:Bool,∀Y:St,Prop,∀Y:(∀Y:c,a6 true st),∀Y:(∀Y:¬c,a6 false st),P a6 loc st)
 (ae:∀Y:c,br Q loc st) (af:∀Y:¬c,bK Q loc st):J2 P br bK Q loc st:=
 bf _ (fun h=>by rw[if_pos rfl];exact ae h) fun h=>by rw[if_neg Bool.false_ne_true];exact af h
noncomputable def J3(I:Nat→Loc→St→Prop)(n:Nat)(Q:gj→Loc→St→Prop):gj→Loc→St→Prop:=fun dD loc st=>match dD with
 |.next|.cont=>∃m,m<n∧I m loc st
 |.brk=>Q .next loc st
 |.ret v=>Q (.ret v) loc st
theorem J4{P:e9}{br:d8}{Q:∀Y:gj,∀Y:Loc,∀Y:St,Prop} {loc:Loc} {st:St} (I:∀Y:Nat,∀Y:Loc,∀Y:St,Prop) (n:Nat) (aM:I n loc st) (c:∀Y:Loc,∀Y:St,Prop)
 (bf:∀n l s,∀Y:I n l s,∀a6:∀Y:Bool,∀Y:St,Prop,∀Y:(∀Y:c l s,a6 true s),∀Y:(∀Y:¬c l s,a6 false s),P a6 l s)
 (av:∀n l s,∀Y:I n l s,∀Y:c l s,∀W:∀Y:gj,∀Y:Loc,∀Y:St,Prop,∀Y:(∀m l s,∀Y:m<n,∀Y:I m l s,W .next l s∧W .cont l s),∀Y:(∀v l s,∀Y:Q (.ret v) l s,W (.ret v) l s),br W l s) (he:∀n l s,∀Y:I n l s,∀Y:¬c l s,Q .next l s):BX P br Q loc st:=
 ⟨I,n,aM,fun n l s bE=>bf n l s bE _ (fun h=>by rw[if_pos rfl];exact av n l s bE h (J3 I n Q) (fun m Y Y ae af=>⟨⟨m,ae,af⟩,⟨m,ae,af⟩⟩) fun Y Y Y q=>q) fun h=>by rw[if_neg Bool.false_ne_true];exact he n l s bE h⟩
noncomputable def fBody(I:Nat→Loc→St→Prop)(n:Nat)(Q:gj→Loc→St→Prop):gj→Loc→St→Prop:=fun dD loc st=>match dD with
 |.next|.cont=>I (n+1) loc st
 |.brk=>Q .next loc st
 |.ret v=>Q (.ret v) loc st
theorem ki{P:b6}{i:Nat}{br:d8}{Q:∀Y:gj,∀Y:Loc,∀Y:St,Prop} {loc:Loc} {st:St} (V:∀Y:ah,∀Y:St,Prop) (dj:∀a6:∀Y:ah,∀Y:St,Prop,∀Y:(∀v s,∀Y:V v s,a6 v s),P a6 loc st)
 (h:∀v aV,∀Y:V v aV,∃(xs:List ah)(I:∀Y:Nat,∀Y:Loc,∀Y:St,Prop),I 0 loc aV∧(∀n l s,∀Y:I n l s,jv v s=some xs)∧(∀n l s y,∀Y:I n l s,∀Y:xs[n]?=some y,br (fBody I n Q) (setV l i y) s)∧(∀n l s,∀Y:I n l s,∀Y:xs.length≤n,Q .next l s)):Hj P i br Q loc st:=by
 refine dj _ fun v s aO=>?_;refine bZ ?_ (h v s aO);intro xs I;refine cI ?_;intro aM aD av he;refine⟨xs,I,aM,fun n l s' bE=>⟨aD n l s' bE,?_⟩⟩;cases e:xs[n]? with
 |some y=>exact av n l s' y bE e
 |none=>exact he n l s' bE (List.getElem?_eq_none_iff.mp e)
theorem p5{xs:List ah}{i:Int}{x:ah}{Q:∀Y:ah,∀Y:St,Prop} {st:St} (aD:xs.length<1000000) (bq:pick xs i=some x) (bb:Q x st):ng (.tup xs) (.int i) Q st:=⟨aD,fS bq bb⟩
theorem gC{xs:List ah}{i:Nat}:pick xs (i:Int)=xs[i]?:=by
 unfold pick;rw[if_pos (by exact aI (.L (.k 0) (.n .p)) rfl)];simp
theorem Au(l:Nat):(l:Int).fdiv (2^(1:Int).toNat)=((l / 2:Nat):Int):=by
 rw[Int.fdiv_eq_ediv_of_nonneg _ (by decide)];simp
theorem nI{P:b6}{xi:Nat}{mk:∀Y:Loc,Loc} {b4:e9} {fE:b6} {Q:∀Y:ah,∀Y:St,Prop} {loc:Loc} {st:St} (L:Loc) (heq:mk loc=L) (V:∀Y:ah,∀Y:St,Prop) (dj:∀a6:∀Y:ah,∀Y:St,Prop,∀Y:(∀v s,∀Y:V v s,a6 v s),P a6 loc st)
 (h:∀v aV,∀Y:V v aV,∃(xs:List ah)(I:∀Y:Nat,∀Y:St,Prop),I 0 (aV++[.list []])∧(∀n s,∀Y:I n s,jv v s=some xs)∧
   (∀n s y,∀Y:I n s,∀Y:xs[n]?=some y,∃T:∀Y:Bool,∀Y:St,Prop,(∀a6:∀Y:Bool,∀Y:St,Prop,∀Y:(∀b s',∀Y:T b s',a6 b s'),b4 a6 (setV L xi y) s)∧
     (∀s',∀Y:T true s',fE (fun u jI=>pH (.ref aV.length) u (fun Y kC=>I (n+1) kC) jI) (setV L xi y) s')∧(∀s',∀Y:T false s',I (n+1) s'))∧(∀n s,∀Y:I n s,∀Y:xs.length≤n,Q (.ref aV.length) s)):qK P xi mk b4 fE Q loc st:=by
 refine dj _ fun v aV aO=>?_;refine bZ ?_ (h v aV aO);intro xs I;refine cI ?_;intro aM aD av he;refine⟨xs,I,aM,fun n s bE=>⟨aD n s bE,?_⟩⟩;rw[heq];cases e:xs[n]? with
 |none=>exact he n s bE (List.getElem?_eq_none_iff.mp e)
 |some y=>
  refine aj ?_ (av n s y bE e);intro T;refine aY ?_;intro ae af aH;refine ae _ fun b s' cu=>?_;cases b with
  |true=>rw[if_pos rfl];exact af s' cu
  |false=>rw[if_neg Bool.false_ne_true];exact aH s' cu
theorem uM{n:Nat}{st:St}{xs:List ah}{i:Nat}{v:ah}{Q:∀Y:St,Prop} (h:st[n]?=some (.list xs)) (hi:i<xs.length) (aD:xs.length≤1000000) (bb:Q (st.set n (.list (xs.set i v)))):tP (.ref n) (.int (i:Nat)) v Q st:=by
 rw[B5,cH h];exact⟨⟨Int.natCast_nonneg i,Int.ofNat_lt.mpr hi,aD⟩,bb⟩
theorem Ec{n:Nat}{st:St}{kvs:List (Int×ah)}{i:Int}{v:ah}{Q:∀Y:St,Prop} (h:st[n]?=some (.ed kvs)) (aD:kvs.length≤1000000) (bb:Q (st.set n (.ed (je i v kvs)))):tP (.ref n) (.int i) v Q st:=by
 rw[B5,TL h];exact fS (uK h) ⟨aD,bb⟩
theorem TQ{m:Nat}{b:Int}{x:ah}{Q:∀Y:ah,∀Y:St,Prop} {st:St} (h:listAt (.ref m) st=some [x]) (aM:0≤b) (ae:b≤100000) (q:Q (.ref st.length) (st++[.list (List.replicate b.toNat x)])):yI (.ref m) (.int b) Q st:=
 fS (Option.bind_eq_some_iff.mpr ⟨_,h,rfl⟩) ⟨⟨aM,ae⟩,q⟩
theorem J5{a b:ah}{F:∀Y:ah,∀Y:ah,Prop} (h:F a b):yW (.tup [a,b]) F:=⟨a,b,rfl,h⟩
theorem neg_int{i:Int}{Q:∀Y:ah,∀Y:St,Prop} {st:St} (h:Q (.int (-i)) st):GW (.int i) Q st:=h
noncomputable abbrev Node:=Option (Nat×Nat)
noncomputable def fy:∀Y:Node,ah
 |none=>.none
 |some (l,r)=>.tup [.int l,.int r]
noncomputable def kj(aF:Addr)(v:ah)(st:St):Option (List ah):=(jf aF v st).bind fun f=>(f.2.lookup (Str.ofString "nodes")).bind fun x=>listAt x st
set_option tactic.hygienic true in
theorem TR{aF:Addr}{v:ah}{st:St}{d:Nat}{fs:List (Str×ah)}(h:jf aF v st=some (d,fs))(g:St):jf aF v (st++g)=some (d,fs):=by
 refine aj ?_ (tS h);intro i;refine aY ?_;rintro rfl q aE;exact sj (dS q g) (dS aE g)
theorem J6{aF:Addr}{v x:ah}{st:St}{d:Nat}{fs:List (Str×ah)}{xs:List ah}(ae:jf aF v st=some (d,fs))(af:fs.lookup (Str.ofString "nodes")=some x)(aH:listAt x st=some xs):kj aF v st=some xs:=
 Option.bind_eq_some_iff.mpr ⟨_,ae,Option.bind_eq_some_iff.mpr ⟨_,af,aH⟩⟩
set_option tactic.hygienic true in
theorem J7{aF:Addr}{v:ah}{st:St}{xs:List ah}(h:kj aF v st=some xs):∃d fs x,jf aF v st=some (d,fs)∧fs.lookup (Str.ofString "nodes")=some x∧listAt x st=some xs:=by
 obtain⟨⟨d,fs⟩,ae,h⟩:=Option.bind_eq_some_iff.mp h;refine aj ?_ (Option.bind_eq_some_iff.mp h);intro x;refine ar ?_;intro af aH;exact cF d fs x ⟨ae,af,aH⟩
theorem gQ{aF:Addr}{v:ah}{st:St}{xs:List ah}(h:kj aF v st=some xs)(g:St):kj aF v (st++g)=some xs:=by
 refine bG ?_ (J7 h);intro d fs x;refine aY ?_;intro ae af aH;exact J6 (TR ae g) af (jA aH g)
theorem Av{aF:Addr}{attr:Str}{v x:ah}{st:St}{d:Nat}{fs:List (Str×ah)}{Q:∀Y:ah,∀Y:St,Prop} (ae:jf aF v st=some (d,fs)) (af:fs.lookup attr=some x) (q:Q x st):sq aF attr v Q st:=fS ae (fS af q)
theorem lD{aF:Addr}{v:ah}{st:St}{xs:List ah}{Q:∀Y:ah,∀Y:St,Prop} (h:kj aF v st=some xs) (bb:∀x,∀Y:listAt x st=some xs,Q x st):sq aF (Str.ofString "nodes") v Q st:=by
 refine bG ?_ (J7 h);intro d fs x;refine aY ?_;intro ae af aH;exact Av ae af (bb x aH)
structure gR(g:List Node):Prop where
 zero:g[0]?=some none
 len:g.length≤100
 iO:∀i l r,∀Y:g[i]?=some (some (l,r)),l / 2<i∧r / 2<i∧2≤l∧2≤r∧l<1000∧r<1000
structure ic(B:Heap):Prop where
 hs:∃o,B.get? sysModules=some o
 er:B.NoLimit
 len:fN B "len" (.builtin "len")
 min:fN B "min" (.builtin "min")
 sum:fN B "sum" (.builtin "sum")
 sorted:fN B "sorted" (.builtin "sorted")
 range:fN B "range" (.type "range")
 tuple:fN B "tuple" (.type "tuple")
 list:fN B "list" (.type "list")
 set:fN B "set" (.type "set")
end Mine
end
open Lean in
local macro_rules |`(tactic| walk_at$s:str)=>do
 let k:=s.getString
 unless k=="V"||k=="W" do Macro.throwUnsupported
 let a:=("nameP intP boolP noneP negP biP cmpP tcmpP andT trueT orT falseT listP tupP nilEs consEs callP appP attrP methP asgS setS exprS retS iaddS setattrS nilS initLoc varQ_some getV setV intsQ_int cmpI_int eqQ_int seqF_next seqF_ret seqF_cont addQ_int iaddQ_int".splitOn " ").map fun x=>Name.str `Mine x
 let b:=("List.map_cons List.map_nil List.length_cons List.length_nil Nat.reduceAdd Nat.reduceSub List.replicate List.cons_append List.nil_append reduceIte Bool.false_eq_true".splitOn " ").map String.toName
 let c:=if k=="V" then[]else(["fg","fs","lo"].flatMap fun p=>(List.range 26).map fun i=>Name.str `Mine (p++toString i))++[`Mine.upd_eq,`Nat.reduceBEq,`cond_true,`cond_false]
 let ids:Array Term:=((a++b++c).map fun n=>(mkIdent n:Term)).toArray
 `(tactic| simp(config:={failIfUnchanged:=false}) only[$[$ids:term],*])
section
namespace Mine
variable{prog:Program}{w:World}{B:Heap}{k:Nat}
noncomputable def gb(n:Nat):Int:=2^2^n-1
theorem w9{a:Addr}(F:dU B 5 a)(G:ic B):b9 prog w B (k+1) (.ref a) (fun xs Q st=>∃n:Nat,xs=[.int n]∧n≤6∧Q (.int (gb n)) st):=by
 refine@dU.iB prog w B k _ _ _ _ 1 1 F (by decide+kernel) G.er (by decide+kernel) (by decide+kernel) (aZ (eF (cY rQ (cY yn bz (cY yn bz (aw (i:=0) (by kernel_rfl)))) bz)) bM) ?_;intro xs Q st;refine aj ?_;intro n;refine aY ?_;rintro rfl az q;refine⟨rfl,?_⟩;have ae:(n:Int).toNat=n:=by exact tm
 have af:(1*2^n:Int).toNat=2^n:=by
  rw[Int.one_mul];exact Int.toNat_natCast (2^n)
 have aH:(2:Nat)^n≤64:=by
  calc (2:Nat)^n≤2^6:=Nat.pow_le_pow_right (by decide) az
   _=64:=by decide
 walk_at "V"
 refine a8 ?_
 walk_at "V"
 simp only[ae,af];have bX:(0:Int)≤2^n:=Int.pow_nonneg (by decide);have et:((2^n:Nat):Int)=2^n:=by simp
 refine⟨⟨by exact aI (.L (.k 0) (.n .p)) rfl,by exact aI (.i 500000 (.l .p (.k 6)) (.G 2 (.L (.n .p) (.k 1000000)))) rfl az,by decide⟩,⟨by lia,by lia,by decide⟩,?_⟩;rw[Int.one_mul];exact q
theorem Ed{a:Addr}(F:dU B 9 a)(G:ic B):b9 prog w B (k+1) (.ref a) (fun xs Q st=>∃a b:List Int,xs=[aT a,aT b]∧Q (.bool (a.all fun x=>decide (x∈b))) st):=by
 have hs:=G.hs;refine@dU.iB prog w B k _ _ _ _ 2 3 F (by decide+kernel) G.er (by decide+kernel) (by decide+kernel) (aZ (j5 (i:=2) (aw (i:=0) (by kernel_rfl)) (aZ (fQ (c6 (tK hs) (aw (i:=2) (by kernel_rfl)) (aw (i:=1) (by kernel_rfl))) (aZ (eF k6) bM) bM) bM) (by kernel_rfl) (cj (by decide+kernel))) (aZ (eF k6) bM)) ?_;intro xs Q st;refine bZ ?_;intro a b;refine ar ?_;rintro rfl q;refine⟨rfl,?_⟩
 walk_at "V"
 refine a8 (ki (fun v s=>v=aT a∧st=s) (fun a6 a7=>a7 _ _ ⟨rfl,rfl⟩) ?_);intro _ _;refine ar ?_;rintro rfl rfl;refine(cE (a.map .int) (fun n l s=>st=s∧(∃z,l=[some (aT a),some (aT b),z])∧(∀x∈a.take n,x∈b)) ⟨⟨rfl,⟨_,rfl⟩,by simp⟩,fun n l s Y=>rfl,?_,?_⟩)
 ·intro n l s y;refine aY ?_;rintro rfl;refine aj ?_;rintro z rfl;intro g7;intro au;have az:n<a.length:=by simpa using(List.getElem?_eq_some_iff.mp au).1
  rw[List.getElem?_map,List.getElem?_eq_getElem az]at au;cases au
  walk_at "V"
  refine a8 (gB (a[n]∉b) (fun a6 ae af=>?_) (fun h=>?_) fun h=>?_)
  ·walk_at "V"
   refine J1 (kh (fun h=>ae ?_) fun h=>af fun q=>?_)
   ·rw[Bool.not_eq_true',decide_eq_false_iff_not]at h;exact h
   ·rw[Bool.not_eq_false',decide_eq_true_iff]at h;exact q h
  ·have:(a.all fun x=>decide (x∈b))=false:=by
    rw[←Bool.not_eq_true,List.all_eq_true];exact fun h'=>h (of_decide_eq_true (h' _ (List.getElem_mem az)))
   rw[this]at q;exact q
  ·refine⟨rfl,⟨_,rfl⟩,fun x ai=>?_⟩;rw[List.take_add_one,List.getElem?_eq_getElem az]at ai;rcases List.mem_append.mp ai with ai|ai
   ·exact g7 x ai
   ·rw[List.mem_singleton.mp ai];exact Decidable.not_not.mp h
 ·intro n l s;refine aY ?_;rintro rfl;refine aj ?_;rintro z rfl;intro g7;intro az
  have:(a.all fun x=>decide (x∈b))=true:=by
   rw[List.all_eq_true];intro x ai;exact decide_eq_true (g7 x (by rw[List.take_of_length_le (by simpa using az)];exact ai))
  rw[this]at q;exact q
noncomputable def dK(a:List Int):Prop:=a.Pairwise (·<·)
structure mV(a b:List Int)(i j:Nat)(m:List Int):Prop where
 inc:dK m
 mem:∀x,x∈m↔x∈a.take i∨x∈b.take j
 eH:∀x∈m,∀y∈a.drop i,x<y
 gM:∀x∈m,∀y∈b.drop j,x<y
theorem xd{a:List Int}(aJ:dK a){i:Nat}(hi:i<a.length):∀y∈a.drop (i+1),a[i]<y:=by
 have:dK (a.drop i):=List.Pairwise.sublist (List.drop_sublist _ _) aJ;rw[List.drop_eq_getElem_cons hi]at this;exact(List.pairwise_cons.mp this).1
theorem J8{m:List Int}{x:Int}(h:dK m)(ai:∀y∈m,y<x):dK (m++[x]):=by
 unfold dK;rw[List.pairwise_append];exact⟨h,List.pairwise_singleton ..,fun y au z aU=>by rw[List.mem_singleton.mp aU];exact ai y au⟩
theorem Ef{a:List Int}{i:Nat}(hi:i<a.length)(x:Int):x∈a.take (i+1)↔x∈a.take i∨x=a[i]:=by
 rw[List.take_add_one,List.getElem?_eq_getElem hi];simp only[Option.toList,List.mem_append,List.mem_singleton]
theorem Eg{a:List Int}{i:Nat}{y:Int}(h:y∈a.drop (i+1)):y∈a.drop i:=by
 rw[←List.drop_drop]at h;exact List.mem_of_mem_drop h
theorem mV.left{a b:List Int}{i j:Nat}{m:List Int}(M:mV a b i j m)(aJ:dK a)(hi:i<a.length)(av:∀y∈b.drop j,a[i]<y):mV a b (i+1) j (m++[a[i]]):=by
 have hd:a[i]∈a.drop i:=by rw[List.drop_eq_getElem_cons hi];exact List.mem_cons_self ..
 refine⟨J8 M.inc fun y au=>M.eH y au _ hd,fun x=>?_,fun x ai y au=>?_,fun x ai y au=>?_⟩
 ·rw[List.mem_append,M.mem,Ef hi,List.mem_singleton];constructor
  ·rintro((h|h)|h)
   ·exact .inl (.inl h)
   ·exact .inr h
   ·exact .inl (.inr h)
  ·rintro((h|h)|h)
   ·exact .inl (.inl h)
   ·exact .inr h
   ·exact .inl (.inr h)
 ·rcases List.mem_append.mp ai with ai|ai
  ·exact M.eH x ai y (Eg au)
  ·rw[List.mem_singleton.mp ai];exact xd aJ hi y au
 ·rcases List.mem_append.mp ai with ai|ai
  ·exact M.gM x ai y au
  ·rw[List.mem_singleton.mp ai];exact av y au
theorem mV.swap{a b:List Int}{i j:Nat}{m:List Int}(M:mV a b i j m):mV b a j i m:=
 ⟨M.inc,fun x=>by rw[M.mem];exact Or.comm,M.gM,M.eH⟩
theorem mV.both{a b:List Int}{i j:Nat}{m:List Int}(M:mV a b i j m)(aJ:dK a)(av:dK b)(hi:i<a.length)(aP:j<b.length)(e:a[i]=b[j]):mV a b (i+1) (j+1) (m++[a[i]]):=by
 have hd:a[i]∈a.drop i:=by rw[List.drop_eq_getElem_cons hi];exact List.mem_cons_self ..
 refine⟨J8 M.inc fun y au=>M.eH y au _ hd,fun x=>?_,fun x ai y au=>?_,fun x ai y au=>?_⟩
 ·rw[List.mem_append,M.mem,Ef hi,Ef aP,List.mem_singleton,←e];constructor
  ·rintro((h|h)|h)
   ·exact .inl (.inl h)
   ·exact .inr (.inl h)
   ·exact .inl (.inr h)
  ·rintro((h|h)|(h|h))
   ·exact .inl (.inl h)
   ·exact .inr h
   ·exact .inl (.inr h)
   ·exact .inr h
 ·rcases List.mem_append.mp ai with ai|ai
  ·exact M.eH x ai y (Eg au)
  ·rw[List.mem_singleton.mp ai];exact xd aJ hi y au
 ·rcases List.mem_append.mp ai with ai|ai
  ·exact M.gM x ai y (Eg au)
  ·rw[List.mem_singleton.mp ai,e];exact xd av aP y au
theorem xe{a:Addr}(F:dU B 8 a)(G:ic B):b9 prog w B (k+1) (.ref a) (fun xs Q st=>∃(a b:List Int)(n:Nat),xs=[aT a,aT b,.int n]∧a.length<1000∧b.length<1000∧dK a∧dK b∧
 ∀m g,∀Y:dK m,∀Y:(∀x,x∈m↔x∈a∨x∈b),Q (if m.length>n then .none else aT m) (st++g)):=by
 have dM:=G.len;have oR:=G.tuple;refine@dU.iB prog w B k _ _ _ _ 3 6 F (by decide+kernel) G.er (by decide+kernel) (by decide+kernel) (aZ (dg (i:=3) (jc bg) (by kernel_rfl) (cj (by decide+kernel))) (aZ (dg (i:=4) bz (by kernel_rfl) (cj (by decide+kernel))) (aZ (dg (i:=5) bz (by kernel_rfl) (cj (by decide+kernel))) (aZ (BY (gX (c6 qy (aw (i:=4) (by kernel_rfl)) (bL dM (.inl ⟨_,rfl⟩) fD (aR (aw (i:=0) (by kernel_rfl)) bg) (by kernel_rfl) (by decide+kernel))) (gX (c6 qy (aw (i:=5) (by kernel_rfl)) (bL dM (.inl ⟨_,rfl⟩) fD (aR (aw (i:=1) (by kernel_rfl)) bg) (by kernel_rfl) (by decide+kernel))) pn)) (aZ (fQ (gX (c6 jK (aw (i:=5) (by kernel_rfl)) (bL dM (.inl ⟨_,rfl⟩) fD (aR (aw (i:=1) (by kernel_rfl)) bg) (by kernel_rfl) (by decide+kernel))) (gX (mC (c6 qy (aw (i:=4) (by kernel_rfl)) (bL dM (.inl ⟨_,rfl⟩) fD (aR (aw (i:=0) (by kernel_rfl)) bg) (by kernel_rfl) (by decide+kernel))) (mC (c6 qy (c4 (aw (i:=0) (by kernel_rfl)) (aw (i:=4) (by kernel_rfl))) (c4 (aw (i:=1) (by kernel_rfl)) (aw (i:=5) (by kernel_rfl)))) vL)) pn)) (aZ (ju (jw (aw (i:=3) (by kernel_rfl)) (c4 (aw (i:=0) (by kernel_rfl)) (aw (i:=4) (by kernel_rfl))))) (aZ (v8 (i:=4) bz (by kernel_rfl) (cj (by decide+kernel))) bM)) (aZ (fQ (gX (c6 jK (aw (i:=4) (by kernel_rfl)) (bL dM (.inl ⟨_,rfl⟩) fD (aR (aw (i:=0) (by kernel_rfl)) bg) (by kernel_rfl) (by decide+kernel))) (gX (c6 qy (c4 (aw (i:=1) (by kernel_rfl)) (aw (i:=5) (by kernel_rfl))) (c4 (aw (i:=0) (by kernel_rfl)) (aw (i:=4) (by kernel_rfl)))) pn)) (aZ (ju (jw (aw (i:=3) (by kernel_rfl)) (c4 (aw (i:=1) (by kernel_rfl)) (aw (i:=5) (by kernel_rfl))))) (aZ (v8 (i:=5) bz (by kernel_rfl) (cj (by decide+kernel))) bM)) (aZ (ju (jw (aw (i:=3) (by kernel_rfl)) (c4 (aw (i:=0) (by kernel_rfl)) (aw (i:=4) (by kernel_rfl))))) (aZ (v8 (i:=4) bz (by kernel_rfl) (cj (by decide+kernel))) (aZ (v8 (i:=5) bz (by kernel_rfl) (cj (by decide+kernel))) bM)))) bM)) bM)) (aZ (fQ (c6 cmp_gt (bL dM (.inl ⟨_,rfl⟩) fD (aR (aw (i:=3) (by kernel_rfl)) bg) (by kernel_rfl) (by decide+kernel)) (aw (i:=2) (by kernel_rfl))) (aZ (eF lR) bM) bM) (aZ (eF (bL oR (.inr (.inl ⟨_,rfl⟩)) called_tuple (aR (aw (i:=3) (by kernel_rfl)) bg) (by kernel_rfl) (by decide+kernel))) bM)))))) ?_;intro xs Q st;refine bG ?_;intro a b n;refine dH ?_;rintro rfl ib rg aJ av q;refine⟨rfl,?_⟩
 walk_at "V"
 refine a8 ?_
 walk_at "V"
 refine⟨by decide,?_⟩
 walk_at "V"
 refine a8 ?_
 walk_at "V"
 refine a8 ?_
 walk_at "V"
 refine a8 (J4 (fun r l s=>∃i j m,l=[some (aT a),some (aT b),some (.int n),some (.ref st.length),some (.int (i:Nat)),some (.int (j:Nat))]∧s=st++[.list (m.map .int)]∧i≤a.length∧j≤b.length∧m.length≤i+j∧r=a.length-i+(b.length-j)∧mV a b i j m)
  _ (cF 0 0 [] ⟨rfl,rfl,Nat.zero_le _,Nat.zero_le _,Nat.le_refl _,rfl,⟨.nil,by simp,by simp,by simp⟩⟩)
  (fun l s=>∃i j:Nat,getV l 4=some (.int i)∧getV l 5=some (.int j)∧(i<a.length∨j<b.length)) ?_ ?_ ?_)
 ·intro r _ _;refine bG ?_;intro i j m;refine nU ?_;rintro rfl rfl hi aP nE rfl M;intro a6 ae af
  walk_at "V"
  refine mU (by exact lM ib rfl) ?_
  walk_at "V"
  refine i7 (fun h=>ae (cE i j ⟨rfl,rfl,.inl (by exact aq (.B (.n .p) (.n .q) (.t .p .q)) rfl h)⟩)) fun h=>mU (by exact lM rg rfl) ?_
  walk_at "V"
  refine i7 (fun h'=>ae (cE i j ⟨rfl,rfl,.inr (by exact aq (.B (.n .p) (.n .q) (.t .p .q)) rfl h')⟩)) fun h'=>af ?_;refine bZ ?_;intro TS Jf;refine aY ?_;intro aS aW cz;cases aS;cases aW
  exact cz.elim (fun ay=>aq (.n (.T (.n .p) (.n .q)) (.b .p .q .f)) rfl h ay) (fun aE=>aq (.n (.T (.n .p) (.n .q)) (.b .p .q .f)) rfl h' aE)
 ·intro r _ _;refine bG ?_;intro i j m;refine nU ?_;rintro rfl rfl hi aP nE rfl M;refine bZ ?_;intro TS Jf;refine aY ?_;intro aS aW TT;intro W rh _;cases aS;cases aW
  have mD:(listAt (.ref st.length) (st++[.list (m.map .int)])).isSome=true:=by rw[iN];rfl
  have Eh:(m.map ah.int).length≤1000000:=by rw[List.length_map];exact cB (.i 500000 (.t .q (.k 1000)) (.i 500000 (.t .r (.k 1000)) (.i 500000 (.l .s .q) (.i 500000 (.l .t .r) (.i 500000 (.l .p (.a .s .t)) (.G 998 (.l .p (.k 1000000)))))))) rfl ib rg hi aP nE
  have TU:∀eN:i<a.length,∀Y:(∀y∈b.drop j,a[i]<y),mV a b (i+1) j (m++[a[i]]):=fun eN h=>M.left aJ eN h;have TV:∀gS:j<b.length,∀Y:(∀y∈a.drop i,b[j]<y),mV a b i (j+1) (m++[b[j]]):=fun gS h=>(M.swap.left av gS h).swap;refine a8 (gB (j=b.length∨∃(ae:i<a.length)(af:j<b.length),a[i]<b[j]) (fun a6 ae af=>?_) (fun h=>?_) fun h=>?_)
  ·walk_at "V"
   refine mU (by exact lM rg rfl) ?_
   walk_at "V"
   refine i7 (fun aG=>ae (.inl (by exact qn aG))) fun gS=>mU (by exact lM ib rfl) ?_
   walk_at "V"
   have J9:j<b.length:=by exact(Int.lt_or_gt_of_ne gS).elim (fun ay=>aq (.B (.n .p) (.n .q) (.t .p .q)) rfl ay) (fun aE=>aq (.i 2 (.l .p .q) (.B (.n .q) (.n .p) (.t .p .q))) rfl aP aE)
   refine i7 (fun aG=>?_) fun eN=>af ?_
   ·have eN:i<a.length:=by exact aq (.B (.n .p) (.n .q) (.t .p .q)) rfl aG
    refine rf eN (by exact lM ib rfl) ?_
    walk_at "V"
    refine rf J9 (by exact lM rg rfl) ?_
    walk_at "V"
    refine i7 (fun aG=>ae (.inr (cE eN J9 aG))) fun sx=>af ?_;rintro(q|⟨_,_,q⟩)
    ·exact(Int.lt_or_gt_of_ne gS).elim (fun ay=>aq (.i (-1) (.e .p .q) (.B (.n .p) (.n .q) .f)) rfl q ay) (fun aE=>aq (.c .p .q (.B (.n .q) (.n .p) .f)) rfl q aE)
    ·exact sx q
   ·rintro(q|⟨q,_⟩)<;>lia
  ·have eN:i<a.length:=by
    rcases h with q|⟨q,_⟩
    ·exact TT.elim (fun ay=>aq (.b .p .q (.t .p .q)) rfl ay) (fun aE=>(aq (.i (-1) (.e .p .q) (.b .p .q .f)) rfl q aE:False).elim)
    ·exact q
   walk_at "V"
   refine a8 ?_
   walk_at "V"
   refine⟨mD,rf eN (by exact lM ib rfl) (oQ Eh ⟨rfl,?_⟩)⟩
   walk_at "V"
   refine a8 ?_
   walk_at "V"
   refine(rh _ _ _ ?_ ⟨i+1,j,m++[a[i]],by simp,by simp,eN,aP,by simp;exact aA (.a .p (.a .q .r) (.l (.b .p) (.a (.b .q) .r))) rfl nE,rfl,TU eN fun y au=>?_⟩).1
   ·exact cB (.a .s (.a .r .t) (.c (.a .p (.b .t)) .s (.t (.a .p .q) (.a .r .q)))) rfl (b5 _ _) (Nat.sub_add_cancel (aq (.b .p .q (.l (.b .p) .q)) rfl eN))
   ·rcases h with q|⟨_,af,q⟩
    ·rw[q,List.drop_length]at au;cases au
    ·rw[List.drop_eq_getElem_cons af]at au;rcases List.mem_cons.mp au with rfl|au
     ·exact q
     ·exact Int.lt_trans q (xd av af y au)
  ·have gS:j<b.length:=by
    rcases Nat.lt_or_ge j b.length with q|q
    ·exact q
    ·exact absurd (.inl (by exact Nat.le_antisymm (aq (.a .p .q (.l .p .q)) rfl aP) (aq (.a .p .q (.l .p .q)) rfl q))) h
   have d5:∀eN:i<a.length,b[j]≤a[i]:=fun eN=>Int.not_lt.mp fun q=>h (.inr (cE eN gS q))
   walk_at "V"
   refine a8 (gB (i=a.length∨∃(ae:i<a.length),b[j]<a[i]) (fun a6 ae af=>?_) (fun h=>?_) fun h=>?_)
   ·walk_at "V"
    refine mU (by exact lM ib rfl) ?_
    walk_at "V"
    refine i7 (fun aG=>ae (.inl (by exact qn aG))) fun Ka=>?_;have eN:i<a.length:=by exact(Int.lt_or_gt_of_ne Ka).elim (fun ay=>aq (.B (.n .p) (.n .q) (.t .p .q)) rfl ay) (fun aE=>aq (.i 2 (.l .p .q) (.B (.n .q) (.n .p) (.t .p .q))) rfl hi aE)
    refine rf gS (by exact lM rg rfl) ?_
    walk_at "V"
    refine rf eN (by exact lM ib rfl) ?_
    walk_at "V"
    refine i7 (fun aG=>ae (.inr ⟨eN,aG⟩)) fun sx=>af ?_;rintro(q|⟨_,q⟩)
    ·exact(Int.lt_or_gt_of_ne Ka).elim (fun ay=>aq (.i (-1) (.e .p .q) (.B (.n .p) (.n .q) .f)) rfl q ay) (fun aE=>aq (.c .p .q (.B (.n .q) (.n .p) .f)) rfl q aE)
    ·exact sx q
   ·walk_at "V"
    refine a8 ?_
    walk_at "V"
    refine⟨mD,rf gS (by exact lM rg rfl) (oQ Eh ⟨rfl,?_⟩)⟩
    walk_at "V"
    refine a8 ?_
    walk_at "V"
    refine(rh _ _ _ ?_ ⟨i,j+1,m++[b[j]],by simp,by simp,hi,gS,by simp;exact aA (.a .p (.a .q .r) (.l (.b .p) (.a .q (.b .r)))) rfl nE,rfl,TV gS fun y au=>?_⟩).1
    ·exact M1 aP (by assumption)
    ·rcases h with q|⟨af,q⟩
     ·rw[q,List.drop_length]at au;cases au
     ·rw[List.drop_eq_getElem_cons af]at au;rcases List.mem_cons.mp au with rfl|au
      ·exact q
      ·exact Int.lt_trans q (xd aJ af y au)
   ·have eN:i<a.length:=by
     rcases Nat.lt_or_ge i a.length with q|q
     ·exact q
     ·exact absurd (.inl (by exact Nat.le_antisymm (aq (.a .p .q (.l .p .q)) rfl hi) (aq (.a .p .q (.l .p .q)) rfl q))) h
    have heq:a[i]=b[j]:=Int.le_antisymm (Int.not_lt.mp fun q=>h (.inr ⟨eN,q⟩)) (d5 eN)
    walk_at "V"
    refine a8 ?_
    walk_at "V"
    refine⟨mD,rf eN (by exact lM ib rfl) (oQ Eh ⟨rfl,?_⟩)⟩
    walk_at "V"
    refine a8 ?_
    walk_at "V"
    refine a8 ?_
    walk_at "V"
    exact(rh _ _ _ (by exact(Nat.le_total (_+(1:Nat)) _).elim (fun ay=>(Nat.le_total _ _).elim (fun aE=>(Nat.le_total (_+(1:Nat)) _).elim (fun bI=>ck (.c (.a .q (.b .t)) (.v 5) (.i (-1) (.e (.a .s .t) (.v 5)) (.c (.a .p (.b (.v 6))) (.v 7) (.a (.v 7) (.a .r (.v 6)) (.t (.a .p .q) (.a .r .s)))))) rfl [(_-(_+(1:Nat))),(_-(_+(1:Nat))),(_-_),(_-_),_,_,_,_] [] (Nat.sub_add_cancel (aq (.b .p .q (.l (.b .p) .q)) rfl gS)) (Nat.sub_add_cancel (aq (.b .p .q (.l .p .q)) rfl gS)) (Nat.sub_add_cancel bI) (b5 _ _)) (fun cM=>ck (.c (.a .q (.b .t)) (.v 5) (.i (-1) (.e (.a .s .t) (.v 5)) (.c .p .z (.t (.a .p .q) (.a .r .s))))) rfl [(_-(_+(1:Nat))),(_-(_+(1:Nat))),(_-_),(_-_),_,_] [] (Nat.sub_add_cancel (aq (.b .p .q (.l (.b .p) .q)) rfl gS)) (Nat.sub_add_cancel (aq (.b .p .q (.l .p .q)) rfl gS)) (Nat.sub_eq_zero_of_le cM))) (fun h7=>(aq (.b .p .q (.a .q .p .f)) rfl gS h7:False).elim)) (fun fL=>(Nat.le_total _ _).elim (fun fM=>(Nat.le_total (_+(1:Nat)) _).elim (fun ly=>ck (.c (.a .q (.b .t)) (.v 5) (.a (.v 5) (.b .t) (.c (.a .p (.b (.v 6))) (.v 7) (.a (.v 7) (.a .r (.v 6)) (.t (.a .p .q) (.a .r .s)))))) rfl [(_-(_+(1:Nat))),(_-(_+(1:Nat))),(_-_),(_-_),_,_,_,_] [] (Nat.sub_add_cancel (aq (.b .p .q (.l (.b .p) .q)) rfl gS)) fL (Nat.sub_add_cancel ly) (b5 _ _)) (fun mQ=>ck (.c (.a .q (.b .t)) (.v 5) (.i (-1) (.e (.a .s .t) (.v 5)) (.c .p .z (.t (.a .p .q) (.a .r .s))))) rfl [(_-(_+(1:Nat))),(_-(_+(1:Nat))),(_-_),(_-_),_,_] [] (Nat.sub_add_cancel (aq (.b .p .q (.l (.b .p) .q)) rfl gS)) (Nat.sub_add_cancel (aq (.b .p .q (.l .p .q)) rfl gS)) (Nat.sub_eq_zero_of_le mQ))) (fun qR=>(aq (.b .p .q (.a .q .p .f)) rfl gS qR:False).elim))) ⟨i+1,j+1,m++[a[i]],by simp,by simp,eN,gS,by simp;exact aA (.a .p (.a .q .r) (.l (.b .p) (.a (.b .q) (.b .r)))) rfl nE,rfl,M.both aJ av eN gS heq⟩).1
 ·intro r _ _;refine bG ?_;intro i j m;refine nU ?_;rintro rfl rfl hi aP nE rfl M;intro mS;have eN:¬i<a.length:=fun h=>mS (cE i j ⟨rfl,rfl,.inl h⟩);have gS:¬j<b.length:=fun h=>mS (cE i j ⟨rfl,rfl,.inr h⟩)
  have ez:∀x,x∈m↔x∈a∨x∈b:=fun x=>by
   rw[M.mem,List.take_of_length_le (by exact aq (.n (.t .q .p) (.l .p .q)) rfl eN),List.take_of_length_le (by exact aq (.n (.t .q .p) (.l .p .q)) rfl gS)]
  have bb:=q m [.list (m.map .int)] M.inc ez
  walk_at "V"
  have hlen:∀{Q:∀Y:ah,∀Y:St,Prop},∀Y:Q (.int m.length) (st++[.list (m.map .int)]),one rV [.ref st.length] Q (st++[.list (m.map .int)]):=TN (iN ..) (by exact cB (.i 1001 (.t .q (.k 1000)) (.i 1001 (.t .r (.k 1000)) (.i 1001 (.l .s .q) (.i 1001 (.l .t .r) (.i 1001 (.l .p (.a .s .t)) (.G 1 (.t .p (.k 1000000)))))))) rfl ib rg hi aP nE);refine a8 (gB (m.length>n) (fun a6 ae af=>?_) (fun h=>?_) fun h=>?_)
  ·walk_at "V"
   refine hlen ?_
   walk_at "V"
   exact kh (fun h=>ae (by have:=of_decide_eq_true h;lia)) fun h=>af (by have:=of_decide_eq_false h;lia)
  ·rw[if_pos h]at bb;exact bb
  ·rw[if_neg h]at bb
   walk_at "V"
   refine a8 ?_
   walk_at "V"
   exact J0 (iN ..) (by exact cB (.i 500000 (.t .q (.k 1000)) (.i 500000 (.t .r (.k 1000)) (.i 500000 (.l .s .q) (.i 500000 (.l .t .r) (.i 500000 (.l .p (.a .s .t)) (.G 998 (.l .p (.k 1000000)))))))) rfl ib rg hi aP nE) bb
end Mine
end
section
namespace Mine
variable{prog:Program}{w:World}{B:Heap}{k:Nat}
noncomputable def lE(i n:Nat):Int:=Builtin.bitXor (gb n) ((gb n).fdiv (2^2^i+1))
theorem Ei{a sP:Addr}(F:dU B 6 a)(G:ic B)(Ej:fN B (bP 5).name (.ref sP))(Ek:Plain B (.ref sP))
 (w9:∀k,b9 prog w B (k+1) (.ref sP) (fun xs Q st=>∃n:Nat,xs=[.int n]∧n≤6∧Q (.int (gb n)) st)):
 b9 prog w B (k+2) (.ref a) (fun xs Q st=>∃i n:Nat,xs=[.int i,.int n]∧i≤4∧n≤6∧Q (.int (lE i n)) st):=by
 refine@dU.iB prog w B (k+1) _ _ _ _ 2 3 F (by decide+kernel) G.er (by decide+kernel) (by decide+kernel) (aZ (dg (i:=2) (bL Ej Ek (w9 _) (aR (aw (i:=1) (by kernel_rfl)) bg) (by kernel_rfl) (by decide+kernel)) (by kernel_rfl) (cj (by decide+kernel))) (aZ (eF (cY qw (aw (i:=2) (by kernel_rfl)) (cY rR (aw (i:=2) (by kernel_rfl)) (cY pg (cY yn bz (cY yn bz (aw (i:=0) (by kernel_rfl)))) bz)))) bM)) ?_;intro xs Q st;refine bZ ?_;intro i n;refine cI ?_;rintro rfl hi az q;refine⟨rfl,?_⟩
 walk_at "V"
 refine a8 ⟨n,rfl,az,?_⟩
 walk_at "V"
 refine a8 ?_
 walk_at "V"
 have ae:(i:Int).toNat=i:=by exact tm
 have af:(1*2^i:Int).toNat=2^i:=by
  rw[Int.one_mul];exact Int.toNat_natCast (2^i)
 have aH:(2:Nat)^i≤16:=by
  calc (2:Nat)^i≤2^4:=Nat.pow_le_pow_right (by decide) hi
   _=16:=by decide
 simp only[ae,af];have bX:(0:Int)≤2^i:=Int.pow_nonneg (by decide);have et:((2^i:Nat):Int)=2^i:=by simp
 have fq:(2:Nat)^2^i≤2^16:=Nat.pow_le_pow_right (by decide) aH;have kF:((2^2^i:Nat):Int)=2^2^i:=by simp
 have qH:(2:Nat)^16=65536:=by decide
 refine⟨⟨by exact aI (.L (.k 0) (.n .p)) rfl,by exact aI (.i 250000 (.l .p (.k 4)) (.L (.n .p) (.k 1000000))) rfl hi,by decide⟩,⟨by lia,by lia,by decide⟩,?_⟩
 walk_at "V"
 rw[Int.one_mul];have jh:(2:Int)^2^i+1=((2^2^i+1:Nat):Int):=by simp
 refine⟨⟨?_,?_⟩,q⟩
 ·rw[jh];exact Int.natCast_ne_zero.mpr (Nat.succ_ne_zero _)
 ·rw[jh,Int.natAbs_natCast];exact aI (.i 536870911 (.l .p (.k (2^16))) (.G 32767 (.t (.b .p) (.k 1073741824)))) rfl fq
noncomputable def jV(l:Nat)(t full:Int):Int:=if l % 2=1 then Builtin.bitXor t full else t
theorem Kc(l:Nat):Builtin.bitAnd (l:Int) 1=((l % 2:Nat):Int):=by
 rw[PyProof.Rows.bitAnd_pp (by exact aI (.L (.k 0) (.n .p)) rfl) (by decide)];show(((l:Int).toNat &&& 1:Nat):Int)=_;rw[Int.toNat_natCast,Nat.and_one_is_mod]
theorem Aw{a:Addr}(F:dU B 14 a)(G:ic B):b9 prog w B (k+1) (.ref a) (fun xs Q st=>∃(v:ah)(kvs:List (Int×ah))(l:Nat)(t full:Int),xs=[v,.int l,.int full]∧dictAt v st=some kvs∧fa ((l / 2:Nat):Int) kvs=some (.int t)∧Q (.int (jV l t full)) st):=by
 refine@dU.iB prog w B k _ _ _ _ 3 4 F (by decide+kernel) G.er (by decide+kernel) (by decide+kernel) (aZ (dg (i:=3) (c4 (aw (i:=0) (by kernel_rfl)) (cY vG (aw (i:=1) (by kernel_rfl)) bz)) (by kernel_rfl) (cj (by decide+kernel))) (aZ (fQ (c6 jK (cY BE (aw (i:=1) (by kernel_rfl)) bz) bz) (aZ (eF (cY qw (aw (i:=3) (by kernel_rfl)) (aw (i:=2) (by kernel_rfl)))) bM) bM) (aZ (eF (aw (i:=3) (by kernel_rfl))) bM))) ?_;intro xs Q st;refine jt ?_;intro v kvs l t full;refine cI ?_;rintro rfl hd bq q;refine⟨rfl,?_⟩
 walk_at "V"
 refine a8 ?_
 walk_at "V"
 have ae:(l:Int).fdiv (2^(1:Int).toNat)=((l / 2:Nat):Int):=by
  rw[Int.fdiv_eq_ediv_of_nonneg _ (by decide)];simp
 refine⟨by decide,?_⟩;rw[ae];refine item_dict hd bq ?_
 walk_at "V"
 refine a8 (gB (l % 2=1) (fun a6 ae af=>?_) (fun h=>?_) fun h=>?_)
 ·walk_at "V"
  rw[Kc];exact kh (fun h=>ae (by have:=of_decide_eq_true h;lia)) fun h=>af (by have:=of_decide_eq_false h;lia)
 ·unfold jV at q;rw[if_pos h]at q;exact q
 ·unfold jV at q;rw[if_neg h]at q;exact q
noncomputable def gc(aB:List (List Int))(c:List Int):List (List Int):=if aB.any (fun o=>o.all fun x=>decide (x∈c))then aB else aB++[c]
noncomputable def gD(ys:List (List Int)):List (List Int):=ys.foldl gc []
theorem TX(ys:List (List Int))(c:List Int):gD (ys++[c])=gc (gD ys) c:=by simp[gD]
theorem El:∀ys:List (List Int),∀aB,(ys.foldl gc aB).length≤aB.length+ys.length
 |[],aB=>Nat.le_refl _
 |c::ys,aB=>by
  have ae:=El ys (gc aB c);have af:(gc aB c).length≤aB.length+1:=by unfold gc;split<;>simp
  simp only[List.foldl_cons,List.length_cons];exact bA (.a .p (.a .s .r) (.a .s (.b .q) (.l .p (.a .q (.b .r))))) rfl ae af
theorem Em{a sQ uN ew:Nat}(F:dU B 10 a)(G:ic B)(TY:fN B (bP 9).name (.ref sQ))(TZ:Plain B (.ref sQ))
 (Ed:∀k,b9 prog w B (k+1) (.ref sQ) (fun xs Q st=>∃a b:List Int,xs=[aT a,aT b]∧Q (.bool (a.all fun x=>decide (x∈b))) st))
 (tR:∀pm fm doc,∀Y:wa B a (PySem.Calls.docDef (bP 10).name (bP 10).params (bP 10).body (bP 10).scope pm fm doc) (mq (bP 10)) (bP 10).body (bP 10).scope,fm=.ref uN) (T3:nG B uN ew) (uF:Ai B):
 b9 prog w B (k+3) (.ref a) (fun xs Q st=>∃(x:ah)(rows:List (List Int)),xs=[x]∧listAt x st=some (rows.map aT)∧st[0]?=some (.tab ew)∧rows.length≤100000∧(∀r∈rows,r.length<1000)∧
  ∀ys:List (List Int),∀Y:jk oO rows ys,Q (.ref st.length) (st++[.list ((gD ys).map aT),.list (ys.map aT)])):=by
 have lF:=G.sorted;have dM:=G.len;have er:=G.er;refine bG ?_ F.fn;intro pm fm doc X;have T4:=tR pm fm doc X;subst T4;have Aj:∀names,(g5 names (some (.ref uN,(bP 10).name++".<locals>."))).code=some (.ref uN,(bP 10).name++".<locals>."):=fun Y=>rfl;refine@b9.imp prog w B (k+3) _ _ _ (@Ca prog w B (k+2) _ _ _ _ _ _ X (by decide+kernel) G.er (some (.ref uN,(bP 10).name++".<locals>.")) (fun c h=>by cases h;exact⟨rfl,rfl⟩) (aZ (dg (i:=1) (jc bg) (by kernel_rfl) (cj (by decide+kernel))) (aZ (j5 (i:=2) (Tq (c:=uN) (P:=ew) (j:=0) (uE:=(bP 10).name++".<locals>.") lF dM rfl (by kernel_rfl) T3 uF er (aw (i:=0) (by kernel_rfl)) (by kernel_rfl)) (aZ (dg (i:=3) k6 (by kernel_rfl) (cj (by decide+kernel))) (aZ (j5 (i:=4) (aw (i:=1) (by kernel_rfl)) (aZ (fQ (O0 (bL TY TZ (Ed _) (aR (aw (i:=4) (by kernel_rfl)) (aR (aw (i:=2) (by kernel_rfl)) bg)) (by kernel_rfl) (by decide+kernel))) (aZ (dg (i:=3) k6 (by kernel_rfl) (cj (by decide+kernel))) bM) bM) bM) (by kernel_rfl) (cj (by decide+kernel))) (aZ (fQ (NL (aw (i:=3) (by kernel_rfl))) (aZ (ju (jw (aw (i:=1) (by kernel_rfl)) (aw (i:=2) (by kernel_rfl)))) bM) bM) bM))) (by kernel_rfl) (cj (by decide+kernel))) (aZ (eF (aw (i:=1) (by kernel_rfl))) bM)))) ?_;intro _ Q st;refine bZ ?_;intro x rows;refine dH ?_;rintro rfl aD eL hlen gP q;have aS:(mq (bP 10)).length=1:=by decide+kernel
 have aW:(varNames (bP 10).scope.names).length=5:=by decide+kernel
 rw[aS,aW];refine⟨rfl,?_⟩
 walk_at "V"
 refine a8 ?_
 walk_at "V"
 refine⟨by decide,?_⟩
 walk_at "V"
 have Kd:st≠[]:=fun e=>by rw[e]at eL;cases eL
 refine a8 (ki (fun v s=>v=.ref (st.length+1)∧∃ys:List (List Int),jk oO rows ys∧s=st++[.list [],.list (ys.map aT)]) (fun a6 a7=>?_) ?_)
 ·walk_at "V"
  refine⟨rows,jA aD _,dS eL _,by exact eZ hlen rfl,fun r aC=>Nat.lt_of_lt_of_le (gP r aC) (by decide),fun ys eu=>?_⟩;have:=a7 _ _ ⟨rfl,ys,eu,rfl⟩;simpa using this
 ·rintro _ _ ⟨rfl,ys,eu,rfl⟩;have kN:ys.length=rows.length:=eu.1.length_eq;refine(cE (ys.map aT) (fun n l s=>(∃kg lG nJ,l=[some x,some (.ref st.length),kg,lG,nJ])∧s=st++[.list ((gD (ys.take n)).map aT),.list (ys.map aT)]) ⟨⟨(cF _ _ _ rfl),rfl⟩,?_,?_,?_⟩)
  ·intro n l s;refine ar ?_;rintro _ rfl;exact cH (kM st _ 1)
  ·intro n l s y;refine ar ?_;refine bG ?_;rintro kg lG nJ rfl;rintro rfl;intro au;have az:n<ys.length:=by simpa using(List.getElem?_eq_some_iff.mp au).1
   rw[List.getElem?_map,List.getElem?_eq_getElem az]at au;cases au
   have jj:gD (ys.take (n+1))=gc (gD (ys.take n)) ys[n]:=by
    rw[List.take_add_one,List.getElem?_eq_getElem az];exact TX _ _
   have ff:(gD (ys.take n)).length≤100000:=by
    have:=El (ys.take n) [];have af:(ys.take n).length≤ys.length:=List.length_take_le' ..;unfold gD;simp only[List.length_nil]at this;exact bA (.a .q (.k 100000) (.c .r .q (.a .p (.a .z .s) (.a .s .r (.l .p (.k 100000)))))) rfl hlen kN this af
   generalize gD (ys.take n)=aB at jj ff ⊢;generalize ys[n]=c at jj ⊢
   walk_at "V"
   refine a8 ?_
   walk_at "V"
   refine lC (fun l s=>(∃z,l=[some x,some (.ref st.length),some (aT c),some (.bool (!aB.any fun o=>o.all fun x=>decide (x∈c))),z])∧s=st++[.list (aB.map aT),.list (ys.map aT)]) (fun a6 a7 Y Y=>?_) ?_
   ·refine ki (fun v s=>v=.ref st.length∧s=st++[.list (aB.map aT),.list (ys.map aT)]) (fun a6 a7=>a7 _ _ ⟨rfl,rfl⟩) ?_;intro _ _;refine ar ?_;rintro rfl rfl;refine(cE (aB.map aT) (fun m l s=>(∃z,l=[some x,some (.ref st.length),some (aT c),some (.bool (!(aB.take m).any fun o=>o.all fun x=>decide (x∈c))),z])∧s=st++[.list (aB.map aT),.list (ys.map aT)]) ⟨⟨⟨_,rfl⟩,rfl⟩,?_,?_,?_⟩)
    ·intro m l s;refine ar ?_;rintro _ rfl;exact cH (jm st _)
    ·intro m l s y;refine ar ?_;refine aj ?_;rintro z rfl;rintro rfl;intro au;have hm:m<aB.length:=by simpa using(List.getElem?_eq_some_iff.mp au).1
     rw[List.getElem?_map,List.getElem?_eq_getElem hm]at au;cases au
     have f9:((aB.take (m+1)).any fun o=>o.all fun x=>decide (x∈c))=(((aB.take m).any fun o=>o.all fun x=>decide (x∈c))||(aB[m].all fun x=>decide (x∈c))):=by
      rw[List.take_add_one,List.getElem?_eq_getElem hm,List.any_append];simp
     walk_at "V"
     refine a8 (gB ((aB[m].all fun x=>decide (x∈c))=true) (fun a6 ae af=>?_) (fun h=>?_) fun h=>?_)
     ·walk_at "V"
      refine(cE _ _ ⟨rfl,?_⟩);simp only[wd];exact kh (fun h=>ae h) fun h=>af (by rw[h];exact Bool.false_ne_true)
     ·refine a8 ?_
      walk_at "V"
      refine⟨⟨some (aT aB[m]),?_⟩,rfl⟩;rw[f9,h,Bool.or_true];rfl
     ·refine⟨⟨some (aT aB[m]),?_⟩,rfl⟩;rw[f9,Bool.not_eq_true _ |>.mp h,Bool.or_false]
    ·intro m l s;refine ar ?_;refine aj ?_;rintro z rfl;rintro rfl;intro hm;rw[List.take_of_length_le (by simpa using hm)];exact a7 _ _ ⟨⟨_,rfl⟩,rfl⟩
   ·intro l s;refine ar ?_;refine aj ?_;rintro z rfl;rintro rfl;refine a8 (gB ((aB.any fun o=>o.all fun x=>decide (x∈c))=false) (fun a6 ae af=>?_) (fun h=>?_) fun h=>?_)
    ·walk_at "V"
     refine kh (c:=!(aB.any fun o=>o.all fun x=>decide (x∈c))) (fun h=>ae (by simpa using h)) fun h=>af (by simpa using h)
    ·refine a8 ?_
     walk_at "V"
     refine⟨by rw[cH (jm st _)];rfl,append_at (jm st _) (by rw[List.length_map];exact eZ ff rfl) ⟨rfl,?_⟩⟩;refine⟨(cF _ _ _ rfl),?_⟩;rw[oP,jj];unfold gc;rw[h,if_neg Bool.false_ne_true];simp
    ·refine⟨(cF _ _ _ rfl),?_⟩;rw[jj];unfold gc;rw[if_pos (by simpa using h)]
  ·intro n l s;refine ar ?_;refine bG ?_;rintro kg lG nJ rfl;rintro rfl;intro az;rw[List.take_of_length_le (by simpa using az)]
   walk_at "V"
   refine a8 ?_
   walk_at "V"
   exact q ys eu
end Mine
end
section
namespace Mine
variable{prog:Program}{w:World}{B:Heap}{k:Nat}
noncomputable def ri(x:Int):∀Y:List Int,List Int
 |[]=>[x]
 |y::r=>if x<y then x::y::r else if x=y then y::r else y::ri x r
theorem Ke{x y:Int}{r:List Int}:ri x (y::r)=if x<y then x::y::r else if x=y then y::r else y::ri x r:=rfl
theorem Kf{x z:Int}{l:List Int}:z∈ri x l↔z=x∨z∈l:=by
 induction l with
 |nil=>exact List.mem_singleton.trans ⟨.inl,fun h=>h.elim id fun q=>(List.not_mem_nil q).elim⟩
 |cons y r ih=>
  rw[Ke];by_cases ae:x<y
  ·rw[if_pos ae];exact List.mem_cons
  ·rw[if_neg ae];by_cases af:x=y
   ·subst af;rw[if_pos rfl];exact⟨.inr,fun h=>h.elim (fun q=>q▸List.mem_cons_self ..) id⟩
   ·rw[if_neg af,List.mem_cons,ih,List.mem_cons];exact⟨fun h=>h.elim (fun q=>.inr (.inl q)) fun h=>h.imp id .inr,fun h=>h.elim (fun q=>.inr (.inl q)) fun h=>h.imp id .inr⟩
theorem T5{x:Int}{l:List Int}(h:dK l):dK (ri x l):=by
 induction l with
 |nil=>exact List.pairwise_singleton ..
 |cons y r ih=>
  have h':=List.pairwise_cons.mp h;rw[Ke];by_cases ae:x<y
  ·rw[if_pos ae];refine List.pairwise_cons.mpr ⟨fun z aU=>?_,h⟩;rcases List.mem_cons.mp aU with rfl|aU
   ·exact ae
   ·exact Int.lt_trans ae (h'.1 z aU)
  ·rw[if_neg ae];by_cases af:x=y
   ·rw[if_pos af];exact h
   ·rw[if_neg af];refine List.pairwise_cons.mpr ⟨fun z aU=>?_,ih h'.2⟩;rcases Kf.mp aU with rfl|aU
    ·exact(Int.lt_or_gt_of_ne af).elim (fun ay=>nV (.i 2 (.o (.T .q .p)) (.B .q .p (.T .p .q))) rfl ae ay) (fun aE=>nV (.B .p .q (.T .p .q)) rfl aE)
    ·exact h'.1 z aU
noncomputable def i8(a b:List Int):List Int:=(a++b).foldr ri []
theorem T6{z:Int}{l:List Int}:z∈l.foldr ri []↔z∈l:=by
 induction l with
 |nil=>exact Iff.rfl
 |cons x l ih=>rw[List.foldr_cons,Kf,ih,List.mem_cons]
theorem T7(l:List Int):dK (l.foldr ri []):=by
 induction l with
 |nil=>exact .nil
 |cons x l ih=>exact T5 ih
theorem uO{a b:List Int}{z:Int}:z∈i8 a b↔z∈a∨z∈b:=by unfold i8;rw[T6,List.mem_append]
theorem uP(a b:List Int):dK (i8 a b):=T7 _
theorem sR{a:List Int}:∀{b:List Int},∀Y:dK a,∀Y:dK b,∀Y:(∀z,z∈a↔z∈b),a=b:=by
 induction a with
 |nil=>
  intro b _ _ h;cases b with
  |nil=>rfl
  |cons y b=>cases(h y).mpr (List.mem_cons_self ..)
 |cons x a ih=>
  intro b aJ av h;cases b with
  |nil=>cases(h x).mp (List.mem_cons_self ..)
  |cons y b=>
   have k9:=List.pairwise_cons.mp aJ;have g4:=List.pairwise_cons.mp av
   have e:x=y:=by
    rcases List.mem_cons.mp ((h x).mp (List.mem_cons_self ..))with q|q
    ·exact q
    ·rcases List.mem_cons.mp ((h y).mpr (List.mem_cons_self ..))with aE|aE
     ·exact aE.symm
     ·exact absurd (k9.1 _ aE) (Int.lt_asymm (g4.1 _ q))
   subst e;refine congrArg _ (ih k9.2 g4.2 fun z=>⟨fun aU=>?_,fun aU=>?_⟩)
   ·exact(List.mem_cons.mp ((h z).mp (List.mem_cons_of_mem _ aU))).elim (fun q=>absurd (k9.1 z aU) (q▸Int.lt_irrefl _)) id
   ·exact(List.mem_cons.mp ((h z).mpr (List.mem_cons_of_mem _ aU))).elim (fun q=>absurd (g4.1 z aU) (q▸Int.lt_irrefl _)) id
noncomputable def lH(k:Nat)(a:List Int)(R:List (List Int)):List (List Int):=R.filterMap fun b=>if(i8 a b).length>k then none else some (i8 a b)
noncomputable def gE(L R:List (List Int))(k:Nat):List (List Int):=L.flatMap fun a=>lH k a R
noncomputable abbrev En(xs:List ah)(Q:∀Y:ah,∀Y:St,Prop) (st:St):Prop:=∃(a b:List Int)(n:Nat),xs=[aT a,aT b,.int n]∧a.length<1000∧b.length<1000∧dK a∧dK b∧
 ∀m g,∀Y:dK m,∀Y:(∀x,x∈m↔x∈a∨x∈b),Q (if m.length>n then .none else aT m) (st++g)
noncomputable abbrev Kg(ew:Nat)(xs:List ah)(Q:∀Y:ah,∀Y:St,Prop) (st:St):Prop:=∃(x:ah)(rows:List (List Int)),xs=[x]∧listAt x st=some (rows.map aT)∧st[0]?=some (.tab ew)∧rows.length≤100000∧(∀r∈rows,r.length<1000)∧
 ∀ys:List (List Int),∀Y:jk oO rows ys,Q (.ref st.length) (st++[.list ((gD ys).map aT),.list (ys.map aT)])
noncomputable def Ax(R:List (List Int)):Prop:=∀r∈R,dK r∧r.length<100
noncomputable def nK(node:Nat)(ys:List (List Int))(most:Nat):List (List Int):=(gD ys).take most++[[(node:Int)]]
noncomputable abbrev Eo(ew:Nat)(xs:List ah)(Q:∀Y:ah,∀Y:St,Prop) (st:St):Prop:=∃(node:Nat)(x y:ah)(n most:Nat)(L R:List (List Int)),xs=[.int node,x,y,.int n,.int most]∧listAt x st=some (L.map aT)∧listAt y st=some (R.map aT)∧st[0]?=some (.tab ew)∧
 n<100∧L.length≤100∧R.length≤100∧Ax L∧Ax R∧
 ∀ys:List (List Int),∀Y:jk oO (gE L R n) ys,∀g,Q (.ref (st.length+g.length)) (st++g++[.list ((nK node ys most).map aT)])
theorem Kh(k:Nat)(a:List Int)(R:List (List Int)):(lH k a R).length≤R.length:=List.length_filterMap_le ..
theorem Kl(k:Nat)(R:List (List Int)):∀L:List (List Int),(gE L R k).length≤L.length*R.length
 |[]=>by simp[gE]
 |a::L=>by
  have ae:=Kh k a R;have af:=Kl k R L;show(lH k a R++gE L R k).length≤_;rw[List.length_append,List.length_cons,Nat.succ_mul];exact bA (.a .p .s (.a .q .r (.l (.a .p .q) (.a .r .s)))) rfl ae af
theorem T8(k:Nat)(L R:List (List Int))(a:List Int):gE (L++[a]) R k=gE L R k++lH k a R:=by
 simp[gE,List.flatMap_append]
theorem T9(k:Nat)(a b:List Int)(R:List (List Int)):lH k a (R++[b])=lH k a R++(if(i8 a b).length>k then[]else[i8 a b]):=by
 unfold lH;rw[List.filterMap_append];congr 1;by_cases h:(i8 a b).length>k
 ·rw[if_pos h];simp[h]
 ·rw[if_neg h];simp[h]
theorem Ua{k:Nat}{L R:List (List Int)}:∀m∈gE L R k,m.length≤k:=by
 intro m hm;refine aj ?_ (List.mem_flatMap.mp hm);intro a;refine ar ?_;intro _ hm;refine aj ?_ (List.mem_filterMap.mp hm);intro b;refine ar ?_;intro _ hm
 split at hm
 ·cases hm
 ·cases hm;exact GD (by assumption)
theorem Ep{a rj sQ ew:Nat}(F:dU B 11 a)(G:ic B)(Er:fN B (bP 8).name (.ref rj))(Es:Plain B (.ref rj))(xe:∀k,b9 prog w B (k+1) (.ref rj) En)
 (Ub:fN B (bP 10).name (.ref sQ)) (Uc:Plain B (.ref sQ)) (Em:∀k,b9 prog w B (k+3) (.ref sQ) (Kg ew)):
 b9 prog w B (k+4) (.ref a) (Eo ew):=by
 refine@dU.iB prog w B (k+3) _ _ _ _ 5 10 F (by decide+kernel) G.er (by decide+kernel) (by decide+kernel) (aZ (dg (i:=5) (jc bg) (by kernel_rfl) (cj (by decide+kernel))) (aZ (j5 (i:=6) (aw (i:=1) (by kernel_rfl)) (aZ (j5 (i:=7) (aw (i:=2) (by kernel_rfl)) (aZ (dg (i:=8) (bL Er Es (xe _) (aR (aw (i:=6) (by kernel_rfl)) (aR (aw (i:=7) (by kernel_rfl)) (aR (aw (i:=3) (by kernel_rfl)) bg))) (by kernel_rfl) (by decide+kernel)) (by kernel_rfl) (cj (by decide+kernel))) (aZ (fQ (c6 BJ (aw (i:=8) (by kernel_rfl)) lR) (aZ (ju (jw (aw (i:=5) (by kernel_rfl)) (aw (i:=8) (by kernel_rfl)))) bM) bM) bM)) (by kernel_rfl) (cj (by decide+kernel))) bM) (by kernel_rfl) (cj (by decide+kernel))) (aZ (dg (i:=9) (BP (bL Ub Uc (Em _) (aR (aw (i:=5) (by kernel_rfl)) bg) (by kernel_rfl) (by decide+kernel)) (aw (i:=4) (by kernel_rfl))) (by kernel_rfl) (cj (by decide+kernel))) (aZ (ju (jw (aw (i:=9) (by kernel_rfl)) (lT (aR (aw (i:=0) (by kernel_rfl)) bg)))) (aZ (eF (aw (i:=9) (by kernel_rfl))) bM))))) ?_;rintro xs Q st ⟨node,x,y,n,most,L,R,rfl,ai,au,eL,az,eQ,fe,vP,Ud,q⟩;refine⟨rfl,?_⟩
 walk_at "V"
 refine a8 ?_
 walk_at "V"
 refine⟨by decide,?_⟩
 walk_at "V"
 have Km:∀i j:Nat,∀Y:i≤L.length,(gE (L.take i) R n).length+(lH n (L.getD i []) (R.take j)).length≤100000:=fun i j Y=>by
  have ae:=Kl n R (L.take i);have af:=Kh n (L.getD i []) (R.take j);have aH:(L.take i).length≤100:=Nat.le_trans (List.length_take_le' ..) eQ;have bX:(R.take j).length≤100:=Nat.le_trans (List.length_take_le' ..) fe;have et:(L.take i).length*R.length≤100*100:=Nat.mul_le_mul aH fe;exact bA (.i 999 (.l .p .r) (.i 100 (.l .q .s) (.i 100 (.l .s (.k 100)) (.i 999 (.l .r (.m 100 (.k 100))) (.G 99 (.l (.a .p .q) (.k 100000))))))) rfl ae af bX et
 refine lC (fun l s=>∃g fG jn jB,l=[some (.int node),some x,some y,some (.int n),some (.int most),some (.ref st.length),fG,jn,jB,none]∧s=st++(.list ((gE L R n).map aT)::g)) (fun a6 a7 Y Y=>?_) ?_
 ·refine ki (fun v s=>x=v∧s=st++[.list []]) (fun a6 a7=>a7 _ _ ⟨rfl,rfl⟩) ?_;intro _ _;refine ar ?_;rintro rfl rfl;refine⟨L.map aT,fun i l s=>∃g fG jn jB,l=[some (.int node),some x,some y,some (.int n),some (.int most),some (.ref st.length),fG,jn,jB,none]∧s=st++(.list ((gE (L.take i) R n).map aT)::g),⟨[],_,_,_,rfl,rfl⟩,?_,?_,?_⟩
  ·intro i l s;refine dF ?_;intro g _ _ _;refine ar ?_;rintro _ rfl;exact uL (jA ai _)
  ·intro i l s u;refine dF ?_;intro g fG jn jB;refine ar ?_;rintro rfl rfl;intro dQ;have hi:i<L.length:=by simpa using(List.getElem?_eq_some_iff.mp dQ).1
   rw[List.getElem?_map,List.getElem?_eq_getElem hi]at dQ;cases dQ
   have Kn:L.getD i []=L[i]:=by simp[List.getD,hi]
   have dh:=vP L[i] (List.getElem_mem hi);have f9:L.take (i+1)=L.take i++[L[i]]:=by rw[List.take_add_one,List.getElem?_eq_getElem hi];rfl
   generalize L[i]=c at Kn dh f9 ⊢
   walk_at "V"
   refine a8 (ki (fun qI s=>y=qI∧s=st++(.list ((gE (L.take i) R n).map aT)::g)) (fun a6 a7=>a7 _ _ ⟨rfl,rfl⟩) ?_);intro _ _;refine ar ?_;rintro rfl rfl;refine⟨R.map aT,fun j l s=>∃g jn jB,l=[some (.int node),some x,some y,some (.int n),some (.int most),some (.ref st.length),some (aT c),jn,jB,none]∧s=st++(.list ((gE (L.take i) R n++lH n c (R.take j)).map aT)::g),⟨g,_,_,rfl,by rw[List.take_zero];simp[lH]⟩,?_,?_,?_⟩
   ·intro j l s;refine bG ?_;intro g _ _;refine ar ?_;rintro _ rfl;exact uL (jA au _)
   ·intro j l s u;refine bG ?_;intro g jn jB;refine ar ?_;rintro rfl rfl;intro dQ;have aP:j<R.length:=by simpa using(List.getElem?_eq_some_iff.mp dQ).1
    rw[List.getElem?_map,List.getElem?_eq_getElem aP]at dQ;cases dQ
    have Ko:=Ud R[j] (List.getElem_mem aP);have c8:=Km i j (Nat.le_of_lt hi);rw[Kn]at c8
    have xf:lH n c (R.take (j+1))=lH n c (R.take j)++(if(i8 c R[j]).length>n then[]else[i8 c R[j]]):=by
     rw[List.take_add_one,List.getElem?_eq_getElem aP];exact T9 _ _ _ _
    generalize lH n c (R.take j)=gi at xf c8 ⊢
    walk_at "V"
    refine a8 (cF _ _ n ⟨rfl,by exact aI (.i 111 (.t .p (.k 100)) (.G 10 (.t .p (.k 1000)))) rfl dh.2,by exact aI (.i 111 (.t .p (.k 100)) (.G 10 (.t .p (.k 1000)))) rfl Ko.2,dh.1,Ko.1,fun m cL hm ez=>?_⟩);have Ue:m=i8 c R[j]:=sR hm (uP _ _) fun z=>by rw[ez,uO]
    subst Ue
    walk_at "V"
    refine a8 (gB (¬(i8 c R[j]).length>n) (fun a6 ae af=>?_) (fun h=>?_) fun h=>?_)
    ·walk_at "V"
     by_cases aG:(i8 c R[j]).length>n
     ·rw[if_pos aG];exact af (fun h=>h aG)
     ·rw[if_neg aG];exact ae aG
    ·rw[if_neg h]at xf ⊢;refine a8 ?_
     walk_at "V"
     rw[List.append_assoc,List.cons_append];refine⟨by rw[cH (jm st _)];rfl,append_at (jm st _) (by rw[List.length_map,List.length_append];exact aq (.i 10 (.l (.a .p .q) (.k 100000)) (.l (.a .p .q) (.k 1000000))) rfl c8) ⟨rfl,?_⟩⟩;refine(cF (g++cL) _ _ ⟨rfl,?_⟩);rw[oP,xf];simp
    ·have aG:(i8 c R[j]).length>n:=Decidable.not_not.mp h;rw[if_pos aG]at xf;refine(cF (g++cL) _ _ ⟨rfl,?_⟩);rw[xf];simp
   ·intro j l s;refine bG ?_;intro g jn jB;refine ar ?_;rintro rfl rfl;intro aP;refine(dX g _ _ _ ⟨rfl,?_⟩);have Ug:R.take j=R:=List.take_of_length_le (by simpa using aP);rw[f9,T8,Ug]
  ·intro i l s;refine dF ?_;intro g fG jn jB;refine ar ?_;rintro rfl rfl;intro hi;rw[List.take_of_length_le (by simpa using hi)];exact a7 _ _ (dX g _ _ _ ⟨rfl,rfl⟩)
 ·intro l s;refine dF ?_;intro g fG jn jB;refine ar ?_;rintro rfl rfl;have c8:=Km L.length 0 (Nat.le_refl _);rw[List.take_length]at c8
  walk_at "V"
  refine a8 (cE _ (gE L R n) ⟨rfl,cH (jm st _),dS eL _,by exact aq (.a (.a .p .q) (.k 100000) (.l .p (.k 100000))) rfl c8,fun m hm=>?_,fun ys eu=>?_⟩)
  ·have:=Ua m hm;exact aq (.i 111 (.t .q (.k 100)) (.i 111 (.l .p .q) (.G 10 (.t .p (.k 1000))))) rfl az this
  ·walk_at "V"
   have kN:ys.length=(gE L R n).length:=eu.1.length_eq
   have ff:(gD ys).length≤ys.length:=by
    have:=El ys [];simpa [gD]using this
   simp only[BO];have ib:listAt (.ref (st++bB.list ((gE L R n).map aT)::g).length) ((st++bB.list ((gE L R n).map aT)::g)++[bB.list ((gD ys).map aT),bB.list (ys.map aT)])=some ((gD ys).map aT):=cH (jm _ _);rw[G7 ib];refine⟨⟨by rw[List.length_map];exact bA (.i 10 (.l (.a .q .r) (.k 100000)) (.i 10 (.e .s .q) (.i 10 (.l .p .s) (.l .p (.k 1000000))))) rfl c8 kN ff,.inl (by exact aI (.L (.k 0) (.n .p)) rfl)⟩,?_⟩
   walk_at "V"
   refine a8 ?_
   walk_at "V"
   rw[if_pos (by exact aI (.L (.k 0) (.n .p)) rfl)];have ae:(most:Int).toNat=most:=by exact tm
   rw[ae];refine⟨by rw[cH (jz _ _)];rfl,by decide,oQ ?_ ⟨rfl,?_⟩⟩
   ·rw[List.length_take,List.length_map];exact cB (.i 10 (.l (.a .q .r) (.k 100000)) (.i 10 (.e .s .q) (.i 10 (.l .t .s) (.i 10 (.l .p .t) (.l .p (.k 1000000)))))) rfl c8 kN ff (Nat.min_le_right _ _)
   ·refine a8 ?_
    walk_at "V"
    have bb:=q ys eu (bB.list ((gE L R n).map aT)::g++[bB.list ((gD ys).map aT),bB.list (ys.map aT)]);unfold nK at bb;simp only[List.map_append,List.map_take,List.map_cons,List.map_nil]at bb
    have aS:(st++bB.list ((gE L R n).map aT)::g++[bB.list ((gD ys).map aT),bB.list (ys.map aT)]).length=st.length+(bB.list ((gE L R n).map aT)::g++[bB.list ((gD ys).map aT),bB.list (ys.map aT)]).length:=by
     simp
    rw[aS];rw[List.append_assoc st];exact bb
end Mine
end
section
namespace Mine
variable{prog:Program}{w:World}{B:Heap}{k:Nat}
noncomputable def sS(g:List Node)(n most:Nat)(cs:List (List (List Int)))(i:Nat)(c:List (List Int)):Prop:=
 (i=0∧c=[[]])∨(1≤i∧g[i]?=some none∧c=[[(i:Int)]])∨
 (1≤i∧∃l r L R ys,g[i]?=some (some (l,r))∧cs[l / 2]?=some L∧cs[r / 2]?=some R∧jk oO (gE L R n) ys∧c=nK i ys most)
noncomputable def nL(g:List Node)(n most:Nat)(cs:List (List (List Int))):Prop:=∀i c,∀Y:cs[i]?=some c,sS g n most cs i c
theorem sS.app{g:List Node}{n most:Nat}{cs:List (List (List Int))}{i:Nat}{c:List (List Int)}(h:sS g n most cs i c)(d:List (List Int)):sS g n most (cs++[d]) i c:=by
 rcases h with h|h|⟨aM,l,r,L,R,ys,ae,af,aH,bX⟩
 ·exact .inl h
 ·exact .inr (.inl h)
 ·exact .inr (.inr ⟨aM,l,r,L,R,ys,ae,by rw[List.getElem?_append_left (List.getElem?_eq_some_iff.mp af).1];exact af,by rw[List.getElem?_append_left (List.getElem?_eq_some_iff.mp aH).1];exact aH,bX⟩)
theorem nL.snoc{g:List Node}{n most:Nat}{cs:List (List (List Int))}{c:List (List Int)}(h:nL g n most cs)(aG:sS g n most cs cs.length c):nL g n most (cs++[c]):=by
 intro i d hd;by_cases hi:i<cs.length
 ·rw[List.getElem?_append_left hi]at hd;exact(h i d hd).app c
 ·rw[List.getElem?_append_right (by exact aq (.n (.t .q .p) (.l .p .q)) rfl hi)]at hd
  have:i=cs.length:=by
   have:=(List.getElem?_eq_some_iff.mp hd).1;simp at this;exact Nat.le_antisymm (aA (.c .r .z (.a .p (.a .r .q) (.l .p .q))) rfl this (b5 _ _)) (aq (.n (.t .q .p) (.l .p .q)) rfl hi)
  subst this;rw[Nat.sub_self]at hd;cases hd
  exact aG.app _
theorem Et{aB:List (List Int)}{c x:List Int}(h:x∈gc aB c):x∈aB∨x=c:=by
 unfold gc at h
 split at h
 ·exact .inl h
 ·rcases List.mem_append.mp h with h|h
  ·exact .inl h
  ·exact .inr (List.mem_singleton.mp h)
theorem Kp:∀(ys aB:List (List Int)){x:List Int},∀Y:x∈ys.foldl gc aB,x∈aB∨x∈ys
 |[],_,_,h=>.inl h
 |y::ys,aB,x,h=>by
  rcases Kp ys _ h with h|h
  ·rcases Et h with h|rfl
   ·exact .inl h
   ·exact .inr (List.mem_cons_self ..)
  ·exact .inr (List.mem_cons_of_mem _ h)
theorem Eu{ys:List (List Int)}{x:List Int}(h:x∈gD ys):x∈ys:=by
 rcases Kp ys [] h with h|h
 ·cases h
 ·exact h
theorem xg{k:Nat}{L R:List (List Int)}{m:List Int}:m∈gE L R k↔∃a∈L,∃b∈R,m=i8 a b∧m.length≤k:=by
 unfold gE lH;rw[List.mem_flatMap];constructor
 ·refine aj ?_;intro a;refine ar ?_;intro aJ hm;refine aj ?_ (List.mem_filterMap.mp hm);intro b;refine ar ?_;intro av hm
  split at hm
  ·cases hm
  ·cases hm;exact⟨a,aJ,b,av,rfl,by exact GD (by assumption)⟩
 ·rintro⟨a,aJ,b,av,rfl,aD⟩;exact⟨a,aJ,List.mem_filterMap.mpr ⟨b,av,by rw[if_neg (by exact aq (.a .q .p (.o (.t .p .q))) rfl aD)]⟩⟩
theorem Uh{i most n:Nat}{L R ys:List (List Int)}(az:n<100)(hm:most≤99)(hs:jk oO (gE L R n) ys):(nK i ys most).length≤100∧Ax (nK i ys most):=by
 refine⟨?_,fun r aC=>?_⟩
 ·unfold nK;rw[List.length_append,List.length_take];simp only[List.length_cons,List.length_nil];exact aq (.a .q (.k 99) (.a .p .q (.l (.a .p (.b .z)) (.k 100)))) rfl hm (Nat.min_le_left _ _)
 ·rcases List.mem_append.mp aC with aC|aC
  ·have ae:=Eu (List.mem_of_mem_take aC);obtain⟨a,_,b,_,rfl,aD⟩:=xg.mp (hs.1.mem_iff.mp ae);exact⟨uP _ _,by exact aq (.b .q (.k 100) (.a .p .q (.t .p (.k 100)))) rfl az aD⟩
  ·rw[List.mem_singleton.mp aC];exact⟨List.pairwise_singleton ..,by simp⟩
theorem sS.ok{g:List Node}{n most:Nat}{cs:List (List (List Int))}{i:Nat}{c:List (List Int)}(az:n<100)(hm:most≤99)(h:sS g n most cs i c):c.length≤100∧Ax c:=by
 rcases h with⟨_,rfl⟩|⟨_,_,rfl⟩|⟨_,l,r,L,R,ys,_,_,_,hs,rfl⟩
 ·refine⟨by simp,fun r aC=>?_⟩;rw[List.mem_singleton.mp aC];exact⟨.nil,by simp⟩
 ·refine⟨by simp,fun r aC=>?_⟩;rw[List.mem_singleton.mp aC];exact⟨List.pairwise_singleton ..,by simp⟩
 ·exact Uh az hm hs
noncomputable def TableAt(s:St)(cS:Nat)(cs:List (List (List Int))):Prop:=∃rs:List Nat,s[cS]?=some (.list (rs.map .ref))∧rs.length=cs.length∧∀(i:Nat)(c:List (List Int)),∀Y:cs[i]?=some c,∃r,rs[i]?=some r∧r≠cS∧s[r]?=some (.list (c.map aT))
theorem TableAt.app{s:St}{cS:Nat}{cs:List (List (List Int))}(h:TableAt s cS cs)(g:St):TableAt (s++g) cS cs:=by
 refine aj ?_ h;clear h;intro rs;refine aY ?_;intro ae af aH;refine⟨rs,dS ae g,af,fun i c aG=>?_⟩;refine aj ?_ (aH i c aG);intro r;refine aY ?_;intro aS aW cz;exact⟨r,aS,aW,dS cz g⟩
theorem TableAt.push{s:St}{cS rk:Nat}{cs:List (List (List Int))}{c:List (List Int)}{Q:∀Y:ah,∀Y:St,Prop} (h:TableAt s cS cs) (aD:cs.length≤1000) (aC:s[rk]?=some (.list (c.map aT))) (cP:rk≠cS)
 (bb:∀o,∀Y:TableAt (s.set cS o) cS (cs++[c]),Q .none (s.set cS o)):pH (.ref cS) (.ref rk) Q s:=by
 refine aj ?_ h;clear h;intro rs;refine aY ?_;intro ae af aH;refine append_at ae (by rw[List.length_map];exact aq (.i 1000 (.l .q (.k 1000)) (.i 1000 (.e .p .q) (.l .p (.k 1000000)))) rfl aD af) (bb _ ⟨rs++[rk],?_,by simp[af],fun i d hd=>?_⟩)
 ·rw[List.getElem?_set_self (List.getElem?_eq_some_iff.mp ae).1];simp
 ·by_cases hi:i<cs.length
  ·rw[List.getElem?_append_left hi]at hd;refine aj ?_ (aH i d hd);intro r;refine aY ?_;intro aS aW cz;exact⟨r,by rw[List.getElem?_append_left (by exact aA (.i (-1) (.e .q .r) (.b .p .r (.t .p .q))) rfl af hi)];exact aS,aW,by rw[List.getElem?_set_ne (Ne.symm aW)];exact cz⟩
  ·rw[List.getElem?_append_right (by exact aq (.n (.t .q .p) (.l .p .q)) rfl hi)]at hd
   have:i=cs.length:=by
    have:=(List.getElem?_eq_some_iff.mp hd).1;simp at this;exact Nat.le_antisymm (aA (.c .r .z (.a .p (.a .r .q) (.l .p .q))) rfl this (b5 _ _)) (aq (.n (.t .q .p) (.l .p .q)) rfl hi)
   subst this;rw[Nat.sub_self]at hd;cases hd
   exact⟨rk,by rw[←af,List.getElem?_append_right (Nat.le_refl _)];simp,cP,by rw[List.getElem?_set_ne (Ne.symm cP)];exact aC⟩
theorem Kq{st s':St}{cS:Nat}(h:st.length≤cS)(o:bB):(st++s').set cS o=st++s'.set (cS-st.length) o:=List.set_append_right _ _ h
theorem TableAt.item{s:St}{cS i:Nat}{cs:List (List (List Int))}{c:List (List Int)}{Q:∀Y:ah,∀Y:St,Prop} (h:TableAt s cS cs) (aD:cs.length≤1000) (aG:cs[i]?=some c) (bb:∀r,∀Y:listAt (.ref r) s=some (c.map aT),Q (.ref r) s):ng (.ref cS) (.int (i:Nat)) Q s:=by
 refine aj ?_ h;clear h;intro rs;refine aY ?_;intro ae af aH;refine aj ?_ (aH i c aG);intro r;refine aY ?_;intro aS aW cz;refine item_list (cH ae) (by rw[List.length_map];exact aq (.i 999999999 (.l .q (.k 1000)) (.i 999999999 (.e .p .q) (.G 999 (.t .p (.k 1000000000))))) rfl aD af) (x:=.ref r) ?_ (bb r (cH cz));rw[gC,List.getElem?_map,aS];rfl
noncomputable abbrev Ew(aF:Addr)(ew:Nat)(xs:List ah)(Q:∀Y:ah,∀Y:St,Prop) (st:St):Prop:=∃(aig:ah)(n most:Nat)(g:List Node),xs=[aig,.int n,.int most]∧kj aF aig st=some (g.map fy)∧gR g∧st[0]?=some (.tab ew)∧n<100∧most≤99∧
 ∀cs cS s',∀Y:cs.length=g.length,∀Y:nL g n most cs,∀Y:TableAt (st++s') cS cs,Q (.ref cS) (st++s')
theorem Ex{a Ey aF ew:Nat}{bS:∀Y:Str,Option Value} (F:dU B 12 a) (G:ic B) (X:jx B aF bS) (ee:bS "nodes"=none) (dN:typeLookup (.type "object") "nodes"=pure none) (Ui:fN B (bP 11).name (.ref Ey)) (Uj:Plain B (.ref Ey)) (Ep:∀k,b9 prog w B (k+4) (.ref Ey) (Eo ew)):
 b9 prog w B (k+5) (.ref a) (Ew aF ew):=by
 have dM:=G.len;have ie:=G.range;refine@dU.iB prog w B (k+4) _ _ _ _ 3 6 F (by decide+kernel) G.er (by decide+kernel) (by decide+kernel) (aZ (dg (i:=3) (jc (aR (jc (aR (lT bg) bg)) bg)) (by kernel_rfl) (cj (by decide+kernel))) (aZ (j5 (i:=4) (bL ie (.inr (.inl ⟨_,rfl⟩)) called_range (aR bz (aR (bL dM (.inl ⟨_,rfl⟩) fD (aR (iL X ee dN (aw (i:=0) (by kernel_rfl))) bg) (by kernel_rfl) (by decide+kernel)) bg)) (by kernel_rfl) (by decide+kernel)) (aZ (dg (i:=5) (c4 (iL X ee dN (aw (i:=0) (by kernel_rfl))) (aw (i:=4) (by kernel_rfl))) (by kernel_rfl) (cj (by decide+kernel))) (aZ (fQ (c6 vK (aw (i:=5) (by kernel_rfl)) lR) (aZ (ju (jw (aw (i:=3) (by kernel_rfl)) (jc (aR (lT (aR (aw (i:=4) (by kernel_rfl)) bg)) bg)))) bM) (aZ (ju (jw (aw (i:=3) (by kernel_rfl)) (bL Ui Uj (Ep _) (aR (aw (i:=4) (by kernel_rfl)) (aR (c4 (aw (i:=3) (by kernel_rfl)) (cY vG (c4 (aw (i:=5) (by kernel_rfl)) bz) bz)) (aR (c4 (aw (i:=3) (by kernel_rfl)) (cY vG (c4 (aw (i:=5) (by kernel_rfl)) bz) bz)) (aR (aw (i:=1) (by kernel_rfl)) (aR (aw (i:=2) (by kernel_rfl)) bg))))) (by kernel_rfl) (by decide+kernel)))) bM)) bM)) (by kernel_rfl) (cj (by decide+kernel))) (aZ (eF (aw (i:=3) (by kernel_rfl))) bM))) ?_;intro xs Q st;refine dF ?_;intro aig n most g;refine nU ?_;rintro rfl b8 b7 eL az hm q;refine⟨rfl,?_⟩
 walk_at "V"
 have p6:1≤g.length:=by
  have:=(List.getElem?_eq_some_iff.mp b7.zero).1;lia
 refine a8 ?_
 walk_at "V"
 refine⟨by decide,by decide,by decide,?_⟩
 walk_at "V"
 refine lC (fun l s=>∃s' cs cS rl fv,l=[some aig,some (.int n),some (.int most),some (.ref cS),rl,fv]∧s=st++s'∧TableAt s cS cs∧cs.length=g.length∧nL g n most cs) (fun a6 a7 Y Y=>?_) ?_
 ·refine ki (fun v s=>v=.range 1 g.length∧s=st++[bB.list [ah.tup []]]++[bB.list [ah.ref st.length]]) (fun a6 a7=>?_) ?_
  ·walk_at "V"
   refine lD (gQ (gQ b8 _) _) fun x ai=>jU ai (by rw[List.length_map];have:=b7.len;exact fz this rfl) ?_;simp only[Hc,List.length_map];exact a7 _ _ ⟨rfl,rfl⟩
  ·intro _ _;refine ar ?_;rintro rfl rfl;refine⟨(List.range ((g.length:Int)-1).toNat).map fun i=>.int (1+(i:Nat)),fun j l s=>∃s' cs cS rl fv,l=[some aig,some (.int n),some (.int most),some (.ref cS),rl,fv]∧s=st++s'∧st.length≤cS∧j+1≤g.length∧TableAt s cS cs∧cs.length=j+1∧nL g n most cs,?_,?_,?_,?_⟩
   ·refine(kY [bB.list [ah.tup []],bB.list [ah.ref st.length]] [[[]]] (st.length+1) none none ⟨by simp,by simp,by exact aI (.l .p (.b .p)) rfl,by exact aI (.a .o .p (.l (.b .z) .p)) rfl p6,⟨[st.length],?_,rfl,fun i c aG=>?_⟩,rfl,fun i c aG=>?_⟩)
    ·rw[List.append_assoc];exact kM st _ 1
    ·have:i=0:=by
      have:=(List.getElem?_eq_some_iff.mp aG).1;simp at this;exact Nat.le_antisymm (aI (.c .p .z (.l .p .z)) rfl this) (aI (.l .z .p) rfl)
     subst this;cases aG
     refine⟨st.length,rfl,by exact fun ay=>aI (.i (-1) (.e .p (.b .p)) .f) rfl ay,?_⟩;rw[List.append_assoc];exact jm st _
    ·have:i=0:=by
      have:=(List.getElem?_eq_some_iff.mp aG).1;simp at this;exact Nat.le_antisymm (aI (.c .p .z (.l .p .z)) rfl this) (aI (.l .z .p) rfl)
     subst this;cases aG
     exact .inl ⟨rfl,rfl⟩
   ·intro j l s _;have:=b7.len;exact sO (by exact ik (.L (.k (-1000000)) (.k 1)) rfl) (by exact ik (.L (.k 1) (.k 1000000)) rfl) (by exact aI (.L (.k (-1000000)) (.n .p)) rfl) (by exact aI (.i 10000 (.l .p (.k 100)) (.L (.n .p) (.k 1000000))) rfl this)
   ·intro j l s y;refine jt ?_;intro s' cs cS rl fv;refine nU ?_;rintro rfl rfl mr Kr cu cf dR;intro au
    have aP:j+1<g.length:=by
     have:=(List.getElem?_eq_some_iff.mp au).1;simp at this;exact aA (.b .p .r (.c (.b .r) .q (.t (.b .p) .q))) rfl this (Nat.sub_add_cancel (aA (.b .q .r (.a .r .p (.l .o .p))) rfl this (Nat.sub_le _ (1:Nat))))
    rw[List.getElem?_map,List.getElem?_range (by exact aA (.b (.b .p) .r (.A (.s (.n .r) (.k 1)) (.n .q) (.t .p .q))) rfl aP (Int.self_le_toNat (((_:Nat):Int)-(1:Int))))]at au;have aS:(1:Int)+(j:Nat)=((j+1:Nat):Int):=by exact Br
    have nM:y=.int ((j+1:Nat):Int):=by
     have:=Option.some.inj au;rw[←this,←aS]
    subst nM;have Uk:=gQ b8 s';have xh:=b7.len
    walk_at "V"
    refine a8 (lD Uk fun x ai=>item_list ai (by rw[List.length_map];exact fz xh rfl) (x:=fy g[j+1]) (by rw[gC,List.getElem?_map,List.getElem?_eq_getElem aP];rfl) ?_);have Ay:g[j+1]?=some g[j+1]:=List.getElem?_eq_getElem aP;generalize g[j+1]=d4 at Ay ⊢
    walk_at "V"
    have Ks:(listAt (.ref cS) (st++s')).isSome=true:=by
     refine aj ?_ cu;clear cu;intro rs;refine ar ?_;intro ae _;rw[cH ae];rfl
    have Ku:cS<(st++s').length:=by
     refine aj ?_ cu;clear cu;intro rs;refine ar ?_;intro ae _;exact(List.getElem?_eq_some_iff.mp ae).1
    cases d4 with
    |none=>
     refine a8 (gB True (fun a6 ae af=>?_) (fun h=>?_) fun h=>absurd trivial h)
     ·walk_at "V"
      exact ae trivial
     ·refine a8 ?_
      walk_at "V"
      refine⟨Ks,by decide,by decide,TableAt.push (cu.app _) (by exact aA (.i 1000 (.e .p (.b .q)) (.i 1000 (.t (.b .q) .r) (.i 1000 (.l .r (.k 100)) (.G 98 (.l .p (.k 1000)))))) rfl cf aP xh) (c:=[[((j+1:Nat):Int)]]) (jz _ _) (by exact fun ay=>aq (.b .p .q (.c .q .p .f)) rfl Ku ay) fun o p0=>⟨rfl,?_⟩⟩;rw[List.append_assoc,Kq mr]at p0 ⊢;exact(kY _ _ cS _ _ ⟨rfl,rfl,mr,aP,p0,by simp[cf],dR.snoc (.inr (.inl ⟨by exact aq (.i (-1) (.e .p (.b .q)) (.l .o .p)) rfl cf,by rw[cf];exact Ay,by rw[cf]⟩))⟩)
    |some sT=>
     obtain⟨pl,pr⟩:=sT;refine dH ?_ (b7.iO _ _ _ Ay);intro v1 v2 iF v4 lN v6;have eQ:cs[pl / 2]?=some cs[pl / 2]:=List.getElem?_eq_getElem (by exact aA (.i (-1) (.e .q (.b .r)) (.b .p (.b .r) (.t .p .q))) rfl cf v1);have fe:cs[pr / 2]?=some cs[pr / 2]:=List.getElem?_eq_getElem (by exact aA (.i (-1) (.e .q (.b .r)) (.b .p (.b .r) (.t .p .q))) rfl cf v2);generalize cs[pl / 2]=Kv at eQ;generalize cs[pr / 2]=Kw at fe;have Kx:=(dR _ _ eQ).ok az hm;have Ky:=(dR _ _ fe).ok az hm;refine a8 (gB False (fun a6 ae af=>?_) (fun h=>h.elim) fun h=>?_)
     ·walk_at "V"
      exact af id
     ·refine a8 ?_
      walk_at "V"
      refine⟨Ks,p5 (by simp) (x:=.int pl) rfl ?_⟩
      walk_at "V"
      refine⟨by decide,?_⟩;rw[Au];refine cu.item (by exact aA (.i 1000 (.e .p (.b .q)) (.i 1000 (.t (.b .q) .r) (.i 1000 (.l .r (.k 100)) (.G 98 (.l .p (.k 1000)))))) rfl cf aP xh) eQ fun Ul uQ=>?_
      walk_at "V"
      refine p5 (by simp) (x:=.int pr) rfl ?_
      walk_at "V"
      refine⟨by decide,?_⟩;rw[Au];refine cu.item (by exact aA (.i 1000 (.e .p (.b .q)) (.i 1000 (.t (.b .q) .r) (.i 1000 (.l .r (.k 100)) (.G 98 (.l .p (.k 1000)))))) rfl cf aP xh) fe fun Um Un=>?_
      walk_at "V"
      refine(vo (j+1) (.ref Ul) (.ref Um) n most Kv Kw ⟨rfl,uQ,Un,dS eL _,az,Kx.1,Ky.1,Kx.2,Ky.2,fun ys eu cL=>?_⟩);refine TableAt.push ((cu.app cL).app _) (by exact aA (.i 1000 (.e .p (.b .q)) (.i 1000 (.t (.b .q) .r) (.i 1000 (.l .r (.k 100)) (.G 98 (.l .p (.k 1000)))))) rfl cf aP xh) (c:=nK (j+1) ys most) (by rw[←List.length_append];exact jz _ _) (by exact fun ay=>aA (.b .p .q (.c (.a .q .r) .p .f)) rfl Ku ay) fun o p0=>⟨rfl,?_⟩;rw[List.append_assoc,List.append_assoc,Kq mr]at p0 ⊢;exact(kY _ _ cS _ _ ⟨rfl,rfl,mr,aP,p0,by simp[cf],dR.snoc (.inr (.inr ⟨by exact aq (.i (-1) (.e .p (.b .q)) (.l .o .p)) rfl cf,pl,pr,Kv,Kw,ys,by rw[cf];exact Ay,eQ,fe,eu,by rw[cf]⟩))⟩)
   ·intro j l s;refine jt ?_;intro s' cs cS rl fv;refine nU ?_;rintro rfl rfl mr Kr cu cf dR;intro aP;simp only[List.length_map,List.length_range]at aP;exact a7 _ _ (kY s' cs cS _ _ ⟨rfl,rfl,cu,by exact Nat.le_antisymm (aA (.a (.b .r) .q (.c .p (.b .r) (.l .p .q))) rfl Kr cf) (bA (.i (-1) (.e .q (.b .r)) (.a .s .r (.A (.s (.n .p) (.k 1)) (.n .s) (.l .p .q)))) rfl cf aP (Int.self_le_toNat (((_:Nat):Int)-(1:Int)))),dR⟩)
 ·intro l s;refine jt ?_;intro s' cs cS rl fv;refine eY ?_;rintro rfl rfl cu cf dR;refine a8 ?_
  walk_at "V"
  exact q cs cS s' cf dR cu
end Mine
end
section
namespace Mine
variable{prog:Program}{w:World}{B:Heap}{k:Nat}
inductive Cut(g:List Node)(c:List Int):∀Y:Nat,Prop
 |here {i:Nat}:∀Y:(i:Int)∈c,Cut g c i
 |zero:Cut g c 0
 |iO {i l r:Nat}:∀Y:g[i]?=some (some (l,r)),∀Y:Cut g c (l / 2),∀Y:Cut g c (r / 2),Cut g c i
inductive kO(g:List Node)(c:List Int)(i:Nat):∀Y:Nat,Prop
 |base:kO g c i i
 |left {j l r:Nat}:∀Y:kO g c i j,∀Y:(j:Int)∉c,∀Y:j≠0,∀Y:g[j]?=some (some (l,r)),kO g c i (l / 2)
 |right {j l r:Nat}:∀Y:kO g c i j,∀Y:(j:Int)∉c,∀Y:j≠0,∀Y:g[j]?=some (some (l,r)),kO g c i (r / 2)
noncomputable def Reach(g:List Node)(c:List Int)(i j:Nat):Prop:=kO g c i j∧(j:Int)∉c∧j≠0
theorem Cut.inv{g:List Node}{c:List Int}{j:Nat}(h:Cut g c j)(ae:(j:Int)∉c)(af:j≠0):∃l r,g[j]?=some (some (l,r))∧Cut g c (l / 2)∧Cut g c (r / 2):=by
 cases h with
 |here h=>exact absurd h ae
 |zero=>exact absurd rfl af
 |iO e a b=>exact(cE _ _ ⟨e,a,b⟩)
theorem kO.cut{g:List Node}{c:List Int}{i j:Nat}(aG:Cut g c i)(h:kO g c i j):Cut g c j:=by
 induction h with
 |base=>exact aG
 |left _ ae af e ih=>
  refine bZ ?_ (ih.inv ae af);intro ia c5;refine aY ?_;intro cA a _;rw[e]at cA;cases cA;exact a
 |right _ ae af e ih=>
  refine bZ ?_ (ih.inv ae af);intro ia c5;refine aY ?_;intro cA _ b;rw[e]at cA;cases cA;exact b
theorem kO.lt{g:List Node}{c:List Int}{i j:Nat}(b7:gR g)(hi:i<g.length)(h:kO g c i j):j<g.length:=by
 induction h with
 |base=>exact hi
 |left _ _ _ e ih=>have:=b7.iO _ _ _ e;exact aA (.b .r .q (.b .p .r (.t .p .q))) rfl ih this.1
 |right _ _ _ e ih=>have:=b7.iO _ _ _ e;exact aA (.b .r .q (.b .p .r (.t .p .q))) rfl ih this.2.1
noncomputable def Seen(c:List Int)(ws ss:List Nat)(x:Nat):Prop:=x∈ws∨x∈ss∨(x:Int)∈c∨x=0
structure i9(g:List Node)(c:List Int)(i:Nat)(ws ss:List Nat):Prop where
 xj:∀x∈ws,kO g c i x
 vs:∀x∈ss,Reach g c i x
 nr:∀x∈ss,∀l r,∀Y:g[x]?=some (some (l,r)),Seen c ws ss (l / 2)∧Seen c ws ss (r / 2)
 start:Seen c ws ss i
 nodup:ss.Nodup
theorem i9.init(g:List Node)(c:List Int)(i:Nat):i9 g c i [i] []:=
 ⟨fun x ai=>by rw[List.mem_singleton.mp ai];exact .base,by simp,by simp,.inl (by simp),.nil⟩
theorem i9.skip{g:List Node}{c:List Int}{i x:Nat}{ws ss:List Nat}(D:i9 g c i (ws++[x]) ss)(h:(x:Int)∈c∨x∈ss∨x=0):i9 g c i ws ss:=by
 have go:∀y,∀Y:Seen c (ws++[x]) ss y,Seen c ws ss y:=fun y au=>by
  rcases au with au|au
  ·rcases List.mem_append.mp au with au|au
   ·exact .inl au
   ·rw[List.mem_singleton.mp au];rcases h with h|h|h
    ·exact .inr (.inr (.inl h))
    ·exact .inr (.inl h)
    ·exact .inr (.inr (.inr h))
  ·exact .inr au
 exact⟨fun y au=>D.xj y (List.mem_append_left _ au),D.vs,fun y au l r e=>⟨go _ (D.nr y au l r e).1,go _ (D.nr y au l r e).2⟩,go _ D.start,D.nodup⟩
theorem i9.Kz{g:List Node}{c:List Int}{i x l r:Nat}{ws ss:List Nat}(D:i9 g c i (ws++[x]) ss)(ae:(x:Int)∉c)(af:x∉ss)(aH:x≠0)(e:g[x]?=some (some (l,r))):i9 g c i (ws++[l / 2,r / 2]) (ss++[x]):=by
 have nN:kO g c i x:=D.xj x (by simp)
 have go:∀y,∀Y:Seen c (ws++[x]) ss y,Seen c (ws++[l / 2,r / 2]) (ss++[x]) y:=fun y au=>by
  rcases au with au|au|au
  ·rcases List.mem_append.mp au with au|au
   ·exact .inl (List.mem_append_left _ au)
   ·exact .inr (.inl (List.mem_append_right _ au))
  ·exact .inr (.inl (List.mem_append_left _ au))
  ·exact .inr (.inr au)
 refine⟨fun y au=>?_,fun y au=>?_,fun y au ia c5 cA=>?_,go _ D.start,?_⟩
 ·rcases List.mem_append.mp au with au|au
  ·exact D.xj y (List.mem_append_left _ au)
  ·simp only[List.mem_cons,List.not_mem_nil,or_false]at au;rcases au with rfl|rfl
   ·exact .left nN ae aH e
   ·exact .right nN ae aH e
 ·rcases List.mem_append.mp au with au|au
  ·exact D.vs y au
  ·rw[List.mem_singleton.mp au];exact⟨nN,ae,aH⟩
 ·rcases List.mem_append.mp au with au|au
  ·exact⟨go _ (D.nr y au ia c5 cA).1,go _ (D.nr y au ia c5 cA).2⟩
  ·rw[List.mem_singleton.mp au,e]at cA;cases cA
   exact⟨.inl (by simp),.inl (by simp)⟩
 ·rw[List.nodup_append];exact⟨D.nodup,by simp,fun a aJ b av=>by rw[List.mem_singleton.mp av];exact fun q=>af (q▸aJ)⟩
theorem i9.done{g:List Node}{c:List Int}{i:Nat}{ss:List Nat}(D:i9 g c i [] ss)(j:Nat):j∈ss↔Reach g c i j:=by
 constructor
 ·exact D.vs j
 ·have:∀j,∀Y:kO g c i j,Seen c [] ss j:=by
   intro j h
   induction h with
   |base=>exact D.start
   |left _ ae af e ih=>
    rcases ih with h|h|h|h
    ·cases h
    ·exact(D.nr _ h _ _ e).1
    ·exact absurd h ae
    ·exact absurd h af
   |right _ ae af e ih=>
    rcases ih with h|h|h|h
    ·cases h
    ·exact(D.nr _ h _ _ e).2
    ·exact absurd h ae
    ·exact absurd h af
  refine aY ?_;intro ae af aH;rcases this j ae with h|h|h|h
  ·cases h
  ·exact h
  ·exact absurd h af
  ·exact absurd h aH
theorem Ez:∀(n:Nat){ss:List Nat},∀Y:ss.Nodup,∀Y:(∀x∈ss,x<n),ss.length≤n
 |0,[],_,_=>Nat.le_refl _
 |0,x::_,_,h=>absurd (h x (List.mem_cons_self ..)) (Nat.not_lt_zero _)
 |n+1,ss,az,h=>by
  have ae:=Ez n (ss:=ss.erase n) (az.erase n) fun x ai=>by
   have af:=(az.mem_erase_iff.mp ai);have:=h x af.2;exact(Nat.lt_or_gt_of_ne af.1).elim (fun ay=>aq (.b .p .q (.t .p .q)) rfl ay) (fun aE=>aq (.i 2 (.t .p (.b .q)) (.b .q .p (.t .p .q))) rfl this aE)
  by_cases hm:n∈ss
  ·rw[List.length_erase_of_mem hm]at ae;exact aA (.a .r .q (.a .p (.b .r) (.l .p (.b .q)))) rfl ae (b5 _ (1:Nat))
  ·rw[List.erase_of_not_mem hm]at ae;exact aq (.a .p .q (.l .p (.b .q))) rfl ae
theorem i9.bound{g:List Node}{c:List Int}{i:Nat}{ws ss:List Nat}(b7:gR g)(hi:i<g.length)(D:i9 g c i ws ss):ss.length≤g.length:=
 Ez _ D.nodup fun x ai=>(D.vs x ai).1.lt b7 hi
noncomputable def gT(ss:List Nat):List (Int×ah):=ss.map fun j:Nat=>((j:Int),ah.bool true)
noncomputable def EA(a b:Int):Bool:=decide (a<b)
theorem KA(x:Nat):∀ss:List Nat,(fa (x:Int) (gT ss)).isSome=decide (x∈ss)
 |[]=>rfl
 |y::r=>by
  show(if(y:Int)=x then some (ah.bool true)else fa (x:Int) (gT r)).isSome=_;by_cases h:(y:Int)=x
  ·rw[if_pos h];have:y=x:=by exact qn h
   subst this;simp
  ·rw[if_neg h,KA x r];have:¬x=y:=by exact fun ay=>(Int.lt_or_gt_of_ne h).elim (fun aE=>aq (.c .p .q (.B (.n .q) (.n .p) .f)) rfl ay aE) (fun bI=>aq (.i (-1) (.e .p .q) (.B (.n .p) (.n .q) .f)) rfl ay bI)
   by_cases ai:x∈r
   ·rw[decide_eq_true ai,decide_eq_true (List.mem_cons_of_mem _ ai)]
   ·rw[decide_eq_false ai,decide_eq_false (fun q=>by
     rcases List.mem_cons.mp q with q|q
     ·exact this q
     ·exact ai q)]
theorem KB{x:Nat}:∀{ss:List Nat},∀Y:x∉ss,je (x:Int) (.bool true) (gT ss)=gT (ss++[x])
 |[],_=>rfl
 |y::r,h=>by
  have ae:¬(y:Int)=x:=fun q=>h (by have:y=x:=by exact qn q
                                   subst this;simp)
  show je (x:Int) (.bool true) (((y:Int),ah.bool true)::gT r)=_;unfold je;rw[if_neg ae,KB fun q=>h (List.mem_cons_of_mem _ q)];rfl
theorem KC{ss:List Nat}(az:ss.Nodup){ys:List Int}(hs:jk EA ((gT ss).map (·.1)) ys):∃zs:List Nat,ys=zs.map (fun j:Nat=>(j:Int))∧zs.Pairwise (·<·)∧∀j,j∈zs↔j∈ss:=by
 have e:(gT ss).map (·.1)=ss.map fun j:Nat=>(j:Int):=by unfold gT;rw[List.map_map];rfl
 rw[e]at hs;refine aj ?_ (I7 hs.1 rfl);intro zs;refine ar ?_;rintro rfl aQ;refine⟨zs,rfl,?_,fun j=>aQ.mem_iff⟩;have Uo:zs.Nodup:=aQ.nodup_iff.mpr az;have hw:=hs.2;rw[List.pairwise_map]at hw;refine(hw.and Uo).imp fun{x y} h=>?_;refine ar ?_ h;clear h;intro ae af;have aH:¬((y:Int)<x):=of_decide_eq_false ae;exact(Nat.lt_or_gt_of_ne af).elim (fun ay=>aq (.b .p .q (.t .p .q)) rfl ay) (fun aE=>aq (.i 2 (.o (.T (.n .q) (.n .p))) (.b .q .p (.t .p .q))) rfl aH aE)
noncomputable abbrev Az(aF:Addr)(xs:List ah)(Q:∀Y:ah,∀Y:St,Prop) (st:St):Prop:=∃(aig:ah)(g:List Node)(i:Nat)(c:List Int),xs=[aig,.int i,aT c]∧kj aF aig st=some (g.map fy)∧gR g∧i<g.length∧Cut g c i∧
 ∀(ys:List Nat) s',∀Y:ys.Pairwise (·<·),∀Y:(∀j,j∈ys↔Reach g c i j),Q (.ref (st.length+s'.length)) (st++s'++[.list (ys.map fun j:Nat=>.int j)])
theorem xm{a aF:Nat}{bS:∀Y:Str,Option Value} (F:dU B 13 a) (G:ic B) (X:jx B aF bS) (ee:bS "nodes"=none) (dN:typeLookup (.type "object") "nodes"=pure none):
 b9 prog w B (k+1) (.ref a) (Az aF):=by
 have dM:=G.len;have lF:=G.sorted;have hs:=G.hs;refine@dU.iB prog w B k _ _ _ _ 3 7 F (by decide+kernel) G.er (by decide+kernel) (by decide+kernel) (aZ (dg (i:=3) NN (by kernel_rfl) (cj (by decide+kernel))) (aZ (dg (i:=4) (jc (aR (aw (i:=1) (by kernel_rfl)) bg)) (by kernel_rfl) (cj (by decide+kernel))) (aZ (BY (c6 cmp_gt (bL dM (.inl ⟨_,rfl⟩) fD (aR (aw (i:=4) (by kernel_rfl)) bg) (by kernel_rfl) (by decide+kernel)) bz) (aZ (dg (i:=5) (Ho (aw (i:=4) (by kernel_rfl))) (by kernel_rfl) (cj (by decide+kernel))) (aZ (fQ (gX (c6 (vN hs) (aw (i:=5) (by kernel_rfl)) (aw (i:=2) (by kernel_rfl))) (gX (c6 (vN hs) (aw (i:=5) (by kernel_rfl)) (aw (i:=3) (by kernel_rfl))) (gX (c6 jK (aw (i:=5) (by kernel_rfl)) bz) pn))) (aZ Oa bM) bM) (aZ (dg (i:=6) (c4 (iL X ee dN (aw (i:=0) (by kernel_rfl))) (aw (i:=5) (by kernel_rfl))) (by kernel_rfl) (cj (by decide+kernel))) (aZ (fQ (c6 vK (aw (i:=6) (by kernel_rfl)) lR) (aZ OZ bM) bM) (aZ (oh k6 (aw (i:=3) (by kernel_rfl)) (aw (i:=5) (by kernel_rfl))) (aZ (ju (jw (aw (i:=4) (by kernel_rfl)) (cY vG (c4 (aw (i:=6) (by kernel_rfl)) bz) bz))) (aZ (ju (jw (aw (i:=4) (by kernel_rfl)) (cY vG (c4 (aw (i:=6) (by kernel_rfl)) bz) bz))) bM)))))))) (aZ (eF (bL lF (.inl ⟨_,rfl⟩) (q2 hs) (aR (aw (i:=3) (by kernel_rfl)) bg) (by kernel_rfl) (by decide+kernel))) bM)))) ?_;intro xs Q st;refine dF ?_;intro aig g i c;refine dH ?_;rintro rfl b8 b7 hi dR q;refine⟨rfl,?_⟩
 walk_at "V"
 refine a8 ?_
 walk_at "V"
 refine a8 ?_
 walk_at "V"
 refine⟨by decide,?_⟩
 walk_at "V"
 have hlen:=b7.len;refine lC (fun l s=>∃ss fv fG,l=[some aig,some (.int i),some (aT c),some (.ref st.length),some (.ref (st.length+1)),fv,fG]∧s=st++[.ed (gT ss),.list []]∧i9 g c i [] ss) (fun a6 a7 Y Y=>?_) ?_
 ·refine J4 (fun r l s=>∃ws ss fv fG,l=[some aig,some (.int i),some (aT c),some (.ref st.length),some (.ref (st.length+1)),fv,fG]∧s=st++[.ed (gT ss),.list (ws.map fun j:Nat=>.int j)]∧i9 g c i ws ss∧r=3*(g.length-ss.length)+ws.length∧ws.length+ss.length≤3*ss.length+1)
   _ (dX [i] [] none none ⟨by simp,by simp[gT],.init g c i,rfl,by simp⟩) (fun l s=>∃ws:List Nat,listAt (.ref (st.length+1)) s=some (ws.map fun j:Nat=>.int j)∧ws≠[]) ?_ ?_ ?_
  ·intro r _ _;refine dF ?_;intro ws ss fv fG;refine eY ?_;rintro rfl rfl D rfl aU;intro a6 ae af;have av:=D.bound b7 hi;have ib:listAt (.ref (st.length+1)) (st++[.ed (gT ss),.list (ws.map fun j:Nat=>.int j)])=some (ws.map fun j:Nat=>.int j):=cH (kM st _ 1)
   walk_at "V"
   refine jU ib (by rw[List.length_map];exact aA (.i 666666666 (.l .q (.k 100)) (.i 333333333 (.l (.a .p .r) (.b (.m 3 .r))) (.i 666666666 (.l .r .q) (.G 66 (.t .p (.k 1000000000)))))) rfl hlen aU av) ?_
   walk_at "V"
   rw[List.length_map];refine kh (fun h=>ae ⟨ws,ib,fun e=>?_⟩) fun h=>af ?_
   ·rw[e]at h;cases h
   ·refine aj ?_;intro AA;refine ar ?_;intro aH bX;rw[ib]at aH;have et:=of_decide_eq_false h;have fq:=congrArg List.length (Option.some.inj aH);rw[List.length_map,List.length_map]at fq;have:AA.length=0:=by lia
    exact bX (List.length_eq_zero_iff.mp this)
  ·intro r _ _;refine dF ?_;intro ws ss fv fG;refine eY ?_;rintro rfl rfl D rfl aU;refine aj ?_;intro AA;refine ar ?_;intro aH bX;intro W rh _;have ib:listAt (.ref (st.length+1)) (st++[.ed (gT ss),.list (ws.map fun j:Nat=>.int j)])=some (ws.map fun j:Nat=>.int j):=cH (kM st _ 1);have av:=D.bound b7 hi
   have cP:ws≠[]:=by
    rintro rfl;rw[ib]at aH;cases AA with
    |nil=>exact bX rfl
    |cons=>cases aH
   obtain⟨ws,x,rfl⟩:∃EB x,ws=EB++[x]:=(cE ws.dropLast (ws.getLast cP) ((List.dropLast_concat_getLast cP).symm));clear aH bX AA;have nN:=D.xj x (by simp);have AB:=nN.lt b7 hi
   walk_at "V"
   refine a8 ?_;refine pop_at (y:=.int x) (xs:=ws.map fun j:Nat=>.int j) (by rw[kM];simp) (by simp only[List.length_append,List.length_cons,List.length_nil,List.length_map]at aU ⊢;exact aA (.i 1999998 (.l .q (.k 100)) (.i 1999998 (.l .r .q) (.i 999999 (.l (.a (.a .p (.b .z)) .r) (.b (.m 3 .r))) (.G 199 (.t .p (.k 1000000)))))) rfl hlen av aU) ?_;rw[nH];simp only[List.set_cons_succ,List.set_cons_zero]
   walk_at "V"
   have EC:dictAt (.ref st.length) (st++[.ed (gT ss),.list (ws.map fun j:Nat=>.int j)])=some (gT ss):=uK (jm ..);refine a8 (gB ((x:Int)∈c∨x∈ss∨x=0) (fun a6 ae af=>?_) (fun h=>?_) fun h=>?_)
   ·walk_at "V"
    refine Ar (i7 (fun h=>ae (.inl h)) fun h=>?_)
    walk_at "V"
    refine in_dict EC ?_;rw[KA];refine i7 (fun h'=>ae (.inr (.inl h'))) fun h'=>?_
    walk_at "V"
    refine i7 (fun nY=>ae (.inr (.inr (by exact Nat.le_antisymm (aI (.ak (.n .p) (.k 0) (.l .p .z)) rfl nY) (aI (.l .z .p) rfl))))) fun nY=>af ?_;rintro(q|q|q)
    ·exact h q
    ·exact h' q
    ·exact nY (by exact Int.le_antisymm (aI (.c .p .z (.L (.n .p) (.k 0))) rfl q) (aI (.L (.k 0) (.n .p)) rfl))
   ·refine a8 ?_
    walk_at "V"
    refine(rh _ _ _ ?_ ⟨ws,ss,_,_,rfl,rfl,D.skip h,rfl,?_⟩).2
    ·simp only[List.length_append,List.length_cons,List.length_nil,List.length_map]at aU ⊢;exact aq (.t (.a (.m 3 .p) .q) (.a (.m 3 .p) (.a .q (.b .z)))) rfl
    ·simp only[List.length_append,List.length_cons,List.length_nil,List.length_map]at aU ⊢;exact aq (.a (.a (.a .p (.b .z)) .q) (.b (.m 3 .q)) (.l (.a .p .q) (.b (.m 3 .q)))) rfl aU
   ·have ae:(x:Int)∉c:=fun q=>h (.inl q);have af:x∉ss:=fun q=>h (.inr (.inl q));have aH:x≠0:=fun q=>h (.inr (.inr q));refine bZ ?_ ((nN.cut dR).inv ae aH);intro l r;refine aY ?_;intro e _ _
    walk_at "V"
    refine a8 (lD (gQ b8 _) fun y au=>item_list au (by rw[List.length_map];exact fz hlen rfl) (x:=fy (some (l,r))) (by rw[gC,List.getElem?_map,e];rfl) ?_)
    walk_at "V"
    refine a8 (gB False (fun a6 ae af=>?_) (fun h=>h.elim) fun Y=>?_)
    ·walk_at "V"
     exact af id
    ·walk_at "V"
     refine a8 ?_
     walk_at "V"
     refine Ec (jm ..) (by unfold gT;rw[List.length_map];exact aq (.i 10000 (.l .q (.k 100)) (.i 10000 (.l .p .q) (.l .p (.k 1000000)))) rfl hlen av) ?_;rw[oP,KB af];simp only[List.set_cons_zero]
     walk_at "V"
     refine a8 ?_
     walk_at "V"
     refine⟨by rw[cH (kM st _ 1)];rfl,p5 (by simp) (x:=.int l) rfl ?_⟩
     walk_at "V"
     refine⟨by decide,append_at (kM st _ 1) (by simp only[List.length_append,List.length_cons,List.length_nil,List.length_map]at aU ⊢;exact aA (.i 10000 (.l .q (.k 100)) (.i 10000 (.l .r .q) (.i 5000 (.l (.a (.a .p (.b .z)) .r) (.b (.m 3 .r))) (.l .p (.k 1000000))))) rfl hlen av aU) ⟨rfl,?_⟩⟩;rw[nH];simp only[List.set_cons_succ,List.set_cons_zero]
     walk_at "V"
     refine a8 ?_
     walk_at "V"
     refine⟨by rw[cH (kM st _ 1)];rfl,p5 (by simp) (x:=.int r) rfl ?_⟩
     walk_at "V"
     refine⟨by decide,append_at (kM st _ 1) (by simp only[List.length_append,List.length_cons,List.length_nil,List.length_map]at aU ⊢;exact aA (.i 1999998 (.l .q (.k 100)) (.i 1999998 (.l .r .q) (.i 999999 (.l (.a (.a .p (.b .z)) .r) (.b (.m 3 .r))) (.G 199 (.l (.a .p (.b .z)) (.k 1000000)))))) rfl hlen av aU) ⟨rfl,?_⟩⟩;rw[nH,Au,Au];simp only[List.set_cons_succ,List.set_cons_zero];have xn:=D.Kz ae af aH e;have g4:=xn.bound b7 hi;refine(rh _ _ _ ?_ ⟨ws++[l / 2,r / 2],ss++[x],_,_,rfl,by simp,xn,rfl,?_⟩).1
     ·simp only[List.length_append,List.length_cons,List.length_nil,List.length_map]at aU g4 ⊢;exact cB (.i 3 (.l .s (.a .r .t)) (.i 3 (.e (.a .p (.a .t (.b .z))) .s) (.t (.a (.m 3 .p) (.a .q (.b (.b .z)))) (.a (.m 3 .r) (.a .q (.b .z)))))) rfl (b5 _ _) (Nat.sub_add_cancel (aq (.a (.a .p (.b .z)) .q (.l (.a .p (.b .z)) .q)) rfl g4))
     ·simp only[List.length_append,List.length_cons,List.length_nil,List.length_map]at aU ⊢;exact aq (.a (.a (.a .p (.b .z)) .q) (.b (.m 3 .q)) (.l (.a (.a .p (.b (.b .z))) (.a .q (.b .z))) (.b (.m 3 (.a .q (.b .z)))))) rfl aU
  ·intro r _ _;refine dF ?_;intro ws ss fv fG;refine eY ?_;rintro rfl rfl D rfl aU;intro mS;have ib:listAt (.ref (st.length+1)) (st++[.ed (gT ss),.list (ws.map fun j:Nat=>.int j)])=some (ws.map fun j:Nat=>.int j):=cH (kM st _ 1);cases ws with
   |nil=>exact a7 _ _ (cF ss _ _ ⟨rfl,rfl,D⟩)
   |cons x ws=>exact absurd ⟨_,ib,by simp⟩ mS
 ·intro _ _;refine bG ?_;intro ss fv fG;refine aY ?_;rintro rfl rfl D;have av:=D.bound b7 hi;refine a8 ?_
  walk_at "V"
  have EC:dictAt (.ref st.length) (st++[.ed (gT ss),.list []])=some (gT ss):=uK (jm ..);refine .inl ⟨_,.inr (.inl ⟨_,EC,rfl⟩),by unfold gT;rw[List.length_map,List.length_map];exact aq (.i 10000 (.l .q (.k 100)) (.i 10000 (.l .p .q) (.l .p (.k 1000000)))) rfl hlen av,fun ys eu=>?_⟩;refine aj ?_ (KC D.nodup eu);intro zs;refine aY ?_;rintro rfl ae af;have:=q zs [.ed (gT ss),.list []] ae fun j=>by rw[af,D.done]
  rw[List.map_map]
  walk_at "V"
  rw[List.length_append];exact this
end Mine
end
section
set_option maxHeartbeats 2000000
namespace Mine
variable{prog:Program}{w:World}{B:Heap}{k:Nat}
noncomputable def jW(g:List Node)(dW:∀Y:Nat,Int) (c:List Int) (full:Int):∀Y:Nat,∀Y:Nat,Int
 |0,_=>0
 |n+1,i=>match c.idxOf? (i:Int)with
  |some s=>dW s
  |none=>if i=0 then 0 else match g[i]? with
   |some (some (l,r))=>Builtin.bitAnd (jV l (jW g dW c full n (l / 2)) full) (jV r (jW g dW c full n (r / 2)) full)
   |_=>0
noncomputable def ev(g:List Node)(dW:∀Y:Nat,Int) (c:List Int) (full:Int) (i:Nat):Int:=jW g dW c full (i+1) i
set_option tactic.hygienic true in
theorem AD{g:List Node}(b7:gR g)(dW:∀Y:Nat,Int) (c:List Int) (full:Int):∀(n m i:Nat),∀Y:i<n,∀Y:i<m,jW g dW c full n i=jW g dW c full m i
 |0,_,_,h,_=>absurd h (Nat.not_lt_zero _)
 |_+1,0,_,_,h=>absurd h (Nat.not_lt_zero _)
 |n+1,m+1,i,ae,af=>by
  unfold jW;cases c.idxOf? (i:Int)with
  |some s=>rfl
  |none=>
   dsimp only
   split
   ·rfl
   ·split
    ·rename_i l r e;have:=b7.iO _ _ _ e;rw[AD b7 dW c full n m (l / 2) (by exact aA (.b .r (.b .q) (.b .p .r (.t .p .q))) rfl ae this.1) (by exact aA (.b .r (.b .q) (.b .p .r (.t .p .q))) rfl af this.1),AD b7 dW c full n m (r / 2) (by exact aA (.b .r (.b .q) (.b .p .r (.t .p .q))) rfl ae this.2.1) (by exact aA (.b .r (.b .q) (.b .p .r (.t .p .q))) rfl af this.2.1)]
    ·rfl
theorem Up{c:List Int}(aG:dK c){s:Nat}(hs:s<c.length):c.idxOf? c[s]=some s:=by
 have az:c.Nodup:=aG.imp fun h=>by exact yf h
 rw[List.idxOf?_eq_some_iff];refine⟨hs,by simp,fun j aP=>?_⟩;have:=List.pairwise_iff_getElem.mp aG j s (by exact aA (.b .r .q (.b .p .r (.t .p .q))) rfl hs aP) hs aP;simp;lia
theorem KD{g:List Node}{dW:∀Y:Nat,Int} {c:List Int} {full:Int} (aG:dK c) {s i:Nat} (hs:s<c.length) (e:c[s]=(i:Int)):ev g dW c full i=dW s:=by
 unfold ev jW;rw[←e,Up aG hs]
theorem KE{g:List Node}{dW:∀Y:Nat,Int} {c:List Int} {full:Int} (h:(0:Int)∉c):ev g dW c full 0=0:=by
 unfold ev jW;rw[show((0:Nat):Int)=0 from rfl,List.idxOf?_eq_none_iff.mpr h];simp
theorem KG{g:List Node}(b7:gR g){dW:∀Y:Nat,Int} {c:List Int} {full:Int} {i l r:Nat} (h:(i:Int)∉c) (aM:i≠0) (e:g[i]?=some (some (l,r))):
 ev g dW c full i=Builtin.bitAnd (jV l (ev g dW c full (l / 2)) full) (jV r (ev g dW c full (r / 2)) full):=by
 have aO:=b7.iO _ _ _ e
 have aS:ev g dW c full i=Builtin.bitAnd (jV l (jW g dW c full i (l / 2)) full) (jV r (jW g dW c full i (r / 2)) full):=by
  show jW g dW c full (i+1) i=_;rw[jW];rw[List.idxOf?_eq_none_iff.mpr h];dsimp only;rw[if_neg aM,e]
 rw[aS];unfold ev;rw[AD b7 dW c full i (l / 2+1) (l / 2) (by exact aq (.b .p .q (.t .p .q)) rfl aO.1) (by exact aI (.t .p (.b .p)) rfl),AD b7 dW c full i (r / 2+1) (r / 2) (by exact aq (.b .p .q (.t .p .q)) rfl aO.2.1) (by exact aI (.t .p (.b .p)) rfl)]
theorem AE(i j:Int)(v:ah):∀kvs:List (Int×ah),fa i (je j v kvs)=if j=i then some v else fa i kvs
 |[]=>by
  show(if j=i then some v else fa i [])=_;rfl
 |(y,u)::r=>by
  unfold je;by_cases h:y=j
  ·rw[if_pos h];subst h;show(if y=i then some v else fa i r)=if y=i then some v else(if y=i then some u else fa i r)
   by_cases af:y=i
   ·rw[if_pos af,if_pos af]
   ·rw[if_neg af,if_neg af,if_neg af]
  ·rw[if_neg h];show(if y=i then some u else fa i (je j v r))=if j=i then some v else(if y=i then some u else fa i r)
   rw[AE i j v r];by_cases af:y=i
   ·rw[if_pos af,if_pos af,if_neg (by exact fun ay=>(Int.lt_or_gt_of_ne h).elim (fun aE=>yd (.i (-1) (.E .p .q) (.ak .r .q (.B .p .r .f))) rfl af ay aE) (fun bI=>yd (.ak .p .q (.i (-1) (.E .r .q) (.B .r .p .f))) rfl af ay bI))]
   ·rw[if_neg af,if_neg af]
theorem ED(j:Int)(v:ah):∀kvs:List (Int×ah),(je j v kvs).length≤kvs.length+1
 |[]=>by simp[je]
 |(y,u)::r=>by
  unfold je
  split
  ·simp
  ·have:=ED j v r;simp only[List.length_cons];exact aq (.a .p (.b .q) (.l (.b .p) (.b (.b .q)))) rfl this
theorem Uq{ys:List Nat}(h:ys.Pairwise (·<·)){n x:Nat}(az:n<ys.length)(ai:x∈ys)(bC:x<ys[n]):x∈ys.take n:=by
 obtain⟨m,hm,rfl⟩:=List.mem_iff_getElem.mp ai
 have:m<n:=by
  rcases Nat.lt_or_ge m n with q|q
  ·exact q
  ·rcases Nat.eq_or_lt_of_le q with e|aE
   ·subst e;lia
   ·have:=List.pairwise_iff_getElem.mp h n m az hm aE;exact(aq (.b .p .q (.b .q .p (.F 1))) rfl bC this:False).elim
 rw[List.mem_take_iff_getElem];exact⟨m,by exact(Nat.le_total _ _).elim (fun ay=>aA (.b .p .r (.i (-1) (.e .q .r) (.t .p .q))) rfl this (Nat.min_eq_left ay)) (fun aE=>bA (.b .r .s (.b .p .r (.i (-1) (.e .q .s) (.t .p .q)))) rfl az this (Nat.min_eq_right aE)),rfl⟩
noncomputable abbrev KH(xs:List ah)(Q:∀Y:ah,∀Y:St,Prop) (st:St):Prop:=∃n:Nat,xs=[.int n]∧n≤6∧Q (.int (gb n)) st
noncomputable abbrev KI(xs:List ah)(Q:∀Y:ah,∀Y:St,Prop) (st:St):Prop:=∃i n:Nat,xs=[.int i,.int n]∧i≤4∧n≤6∧Q (.int (lE i n)) st
noncomputable abbrev KJ(xs:List ah)(Q:∀Y:ah,∀Y:St,Prop) (st:St):Prop:=∃(v:ah)(kvs:List (Int×ah))(l:Nat)(t full:Int),xs=[v,.int l,.int full]∧dictAt v st=some kvs∧fa ((l / 2:Nat):Int) kvs=some (.int t)∧Q (.int (jV l t full)) st
noncomputable def rm(g:List Node)(c:List Int)(i:Nat):Int:=ev g (fun s=>lE s c.length) c (gb c.length) i
noncomputable abbrev EE(aF:Addr)(xs:List ah)(Q:∀Y:ah,∀Y:St,Prop) (st:St):Prop:=∃(aig:ah)(g:List Node)(i:Nat)(c:List Int),xs=[aig,.int i,aT c]∧kj aF aig st=some (g.map fy)∧gR g∧i<g.length∧Cut g c i∧dK c∧c.length≤4∧(0:Int)∉c∧
 ∀s',Q (.int (rm g c i)) (st++s')
theorem EF{a sP EG AF kP aF:Nat}{bS:∀Y:Str,Option Value} (F:dU B 15 a) (G:ic B) (X:jx B aF bS) (ee:bS "nodes"=none) (dN:typeLookup (.type "object") "nodes"=pure none)
 (Ej:fN B (bP 5).name (.ref sP)) (Ek:Plain B (.ref sP)) (w9:∀k,b9 prog w B (k+1) (.ref sP) KH)
 (Ur:fN B (bP 6).name (.ref EG)) (Us:Plain B (.ref EG)) (Ei:∀k,b9 prog w B (k+2) (.ref EG) KI)
 (EH:fN B (bP 13).name (.ref AF)) (EI:Plain B (.ref AF)) (xm:∀k,b9 prog w B (k+1) (.ref AF) (Az aF))
 (KL:fN B (bP 14).name (.ref kP)) (KM:Plain B (.ref kP)) (Aw:∀k,b9 prog w B (k+1) (.ref kP) KJ):
 b9 prog w B (k+3) (.ref a) (EE aF):=by
 have dM:=G.len;have ie:=G.range;refine@dU.iB prog w B (k+2) _ _ _ _ 3 9 F (by decide+kernel) G.er (by decide+kernel) (by decide+kernel) (aZ (dg (i:=3) (bL dM (.inl ⟨_,rfl⟩) fD (aR (aw (i:=2) (by kernel_rfl)) bg) (by kernel_rfl) (by decide+kernel)) (by kernel_rfl) (cj (by decide+kernel))) (aZ (dg (i:=4) (bL Ej Ek (w9 _) (aR (aw (i:=3) (by kernel_rfl)) bg) (by kernel_rfl) (by decide+kernel)) (by kernel_rfl) (cj (by decide+kernel))) (aZ (dg (i:=5) O1 (by kernel_rfl) (cj (by decide+kernel))) (aZ (j5 (i:=6) (bL ie (.inr (.inl ⟨_,rfl⟩)) called_range (aR (aw (i:=3) (by kernel_rfl)) bg) (by kernel_rfl) (by decide+kernel)) (aZ (oh (bL Ur Us (Ei _) (aR (aw (i:=6) (by kernel_rfl)) (aR (aw (i:=3) (by kernel_rfl)) bg)) (by kernel_rfl) (by decide+kernel)) (aw (i:=5) (by kernel_rfl)) (c4 (aw (i:=2) (by kernel_rfl)) (aw (i:=6) (by kernel_rfl)))) bM) (by kernel_rfl) (cj (by decide+kernel))) (aZ (j5 (i:=7) (bL EH EI (xm _) (aR (aw (i:=0) (by kernel_rfl)) (aR (aw (i:=1) (by kernel_rfl)) (aR (aw (i:=2) (by kernel_rfl)) bg))) (by kernel_rfl) (by decide+kernel)) (aZ (dg (i:=8) (c4 (iL X ee dN (aw (i:=0) (by kernel_rfl))) (aw (i:=7) (by kernel_rfl))) (by kernel_rfl) (cj (by decide+kernel))) (aZ (oh (cY BE (bL KL KM (Aw _) (aR (aw (i:=5) (by kernel_rfl)) (aR (c4 (aw (i:=8) (by kernel_rfl)) bz) (aR (aw (i:=4) (by kernel_rfl)) bg))) (by kernel_rfl) (by decide+kernel)) (bL KL KM (Aw _) (aR (aw (i:=5) (by kernel_rfl)) (aR (c4 (aw (i:=8) (by kernel_rfl)) bz) (aR (aw (i:=4) (by kernel_rfl)) bg))) (by kernel_rfl) (by decide+kernel))) (aw (i:=5) (by kernel_rfl)) (aw (i:=7) (by kernel_rfl))) bM)) (by kernel_rfl) (cj (by decide+kernel))) (aZ (eF (c4 (aw (i:=5) (by kernel_rfl)) (aw (i:=1) (by kernel_rfl)))) bM)))))) ?_;intro xs Q st;refine dF ?_;intro aig g i c;refine Ms ?_;rintro rfl b8 b7 hi dR aG cf xo q;refine⟨rfl,?_⟩
 walk_at "V"
 have hlen:=b7.len;refine a8 ?_
 walk_at "V"
 refine mU (by exact fz cf rfl) ?_
 walk_at "V"
 refine a8 ?_
 walk_at "V"
 refine⟨c.length,rfl,by exact eZ cf rfl,?_⟩
 walk_at "V"
 refine a8 ?_
 walk_at "V"
 refine lC (fun l s=>∃kvs fG,l=[some aig,some (.int i),some (aT c),some (.int c.length),some (.int (gb c.length)),some (.ref st.length),fG,none,none]∧s=st++[.ed kvs]∧kvs.length≤5∧fa 0 kvs=some (.int 0)∧∀s(h:s<c.length),fa c[s] kvs=some (.int (lE s c.length))) (fun a6 a7 Y Y=>?_) ?_
 ·refine ki (fun v s=>v=.range 0 c.length∧s=st++[.ed [(0,.int 0)]]) (fun a6 a7=>?_) ?_
  ·walk_at "V"
   exact a7 _ _ ⟨rfl,rfl⟩
  ·intro _ _;refine ar ?_;rintro rfl rfl;refine⟨(List.range ((c.length:Int)-0).toNat).map fun i=>.int (0+(i:Nat)),fun n l s=>∃kvs fG,l=[some aig,some (.int i),some (aT c),some (.int c.length),some (.int (gb c.length)),some (.ref st.length),fG,none,none]∧s=st++[.ed kvs]∧kvs.length≤n+1∧n≤c.length∧fa 0 kvs=some (.int 0)∧∀s(h:s<c.length),∀Y:s<n,fa c[s] kvs=some (.int (lE s c.length)),?_,?_,?_,?_⟩
   ·exact(cE [(0,.int 0)] none ⟨rfl,rfl,by simp,by exact aI (.l .z .p) rfl,rfl,fun s h af=>absurd af (Nat.not_lt_zero _)⟩)
   ·intro n l s _;exact sO (by exact ik (.L (.k (-1000000)) (.k 0)) rfl) (by exact ik (.L (.k 0) (.k 1000000)) rfl) (by exact aI (.L (.k (-1000000)) (.n .p)) rfl) (by exact aI (.i 250000 (.l .p (.k 4)) (.L (.n .p) (.k 1000000))) rfl cf)
   ·intro n l s y;refine bZ ?_;intro kvs fG;refine dH ?_;rintro rfl rfl ff uR aM aK;intro au
    have az:n<c.length:=by
     have:=(List.getElem?_eq_some_iff.mp au).1;simp at this;exact aq (.b .p .q (.t .p .q)) rfl this
    rw[List.getElem?_map,List.getElem?_range (by exact aA (.b .p .r (.A (.s (.n .r) (.k 0)) (.n .q) (.t .p .q))) rfl az (Int.self_le_toNat (((_:Nat):Int)-(0:Int))))]at au
    have nM:y=.int (n:Nat):=by
     have:=Option.some.inj au;rw[←this];show ah.int (0+(n:Int))=_;rw[Int.zero_add]
    subst nM
    walk_at "V"
    refine a8 ?_
    walk_at "V"
    refine(cE n c.length ⟨rfl,by exact aq (.i 4 (.l .q (.k 4)) (.i 4 (.t .p .q) (.G 2 (.l .p (.k 4))))) rfl cf az,by exact eZ cf rfl,?_⟩)
    walk_at "V"
    refine rf az (by exact fz cf rfl) ?_;refine Ec (jm ..) (by exact aA (.i 250000 (.l .q (.k 4)) (.i 250000 (.l .p (.b .r)) (.i 250000 (.t .r .q) (.l .p (.k 1000000))))) rfl cf ff az) ?_;rw[oP];refine(cE _ _ ⟨rfl,rfl,Nat.le_trans (ED _ _ _) (by exact aq (.a .p (.b .q) (.l (.b .p) (.b (.b .q)))) rfl ff),az,?_,fun s hs tG=>?_⟩)
    ·rw[AE,if_neg (fun e=>xo (by rw[←e];exact List.getElem_mem az))];exact aM
    ·rw[AE];by_cases e:s=n
     ·subst e;rw[if_pos rfl]
     ·have:c[s]<c[n]:=List.pairwise_iff_getElem.mp aG s n hs az (by exact yg tG e);rw[if_neg (by exact fun ay=>nV (.B .p .q (.ak .q .p .f)) rfl this ay)];exact aK s hs (by exact yg tG e)
   ·intro n l s;refine bZ ?_;intro kvs fG;refine dH ?_;rintro rfl rfl ff uR aM aK;intro az;simp only[List.length_map,List.length_range]at az;exact a7 _ _ (cE kvs _ ⟨rfl,rfl,by exact aA (.a .q (.k 4) (.a .p (.b .r) (.a .r .q (.l .p (.k 5))))) rfl cf ff uR,aM,fun s hs=>aK s hs (by exact bA (.a .r .q (.b .p .s (.A (.s (.n .s) (.k 0)) (.n .r) (.t .p .q)))) rfl az hs (Int.self_le_toNat (((_:Nat):Int)-(0:Int))))⟩)
 ·intro l s;refine bZ ?_;intro xq fG;refine eY ?_;rintro rfl rfl ff aM aK;have Ut:∀s(h:s<c.length)(j:Nat),∀Y:c[s]=(j:Int),rm g c j=lE s c.length:=fun s h j e=>KD aG h e;have Uu:rm g c 0=0:=KE xo;refine lC (fun l s=>∃kvs s' fG jn jB,l=[some aig,some (.int i),some (aT c),some (.int c.length),some (.int (gb c.length)),some (.ref st.length),fG,jn,jB]∧s=st++.ed kvs::s'∧fa (i:Int) kvs=some (.int (rm g c i))) (fun a6 a7 Y Y=>?_) ?_
  ·refine ki (fun v s=>∃(ys:List Nat)(s':St),ys.Pairwise (·<·)∧(∀j,j∈ys↔Reach g c i j)∧v=.ref ((st++[bB.ed xq]).length+s'.length)∧s=st++[bB.ed xq]++s'++[.list (ys.map fun j:Nat=>.int j)]) (fun a6 a7=>?_) ?_
   ·walk_at "V"
    exact(dX aig g i c ⟨rfl,gQ b8 _,b7,hi,dR,fun ys s' ae af=>a7 _ _ ⟨ys,s',ae,af,rfl,rfl⟩⟩)
   ·intro _ _;refine bZ ?_;intro ys s';refine cI ?_;rintro eu AG rfl rfl;have kN:∀j∈ys,j<g.length:=fun j aP=>((AG j).mp aP).1.lt b7 hi;have Uv:ys.length≤g.length:=Ez _ (eu.imp fun h=>by exact Bs h) kN
    refine⟨ys.map fun j:Nat=>.int j,fun n l s=>∃kvs fG jn jB,l=[some aig,some (.int i),some (aT c),some (.int c.length),some (.int (gb c.length)),some (.ref st.length),fG,jn,jB]∧s=st++.ed kvs::(s'++[.list (ys.map fun j:Nat=>.int j)])∧kvs.length≤n+5∧n≤ys.length∧
     (∀j:Nat,∀Y:((j:Int)∈c∨j=0∨j∈ys.take n),fa (j:Int) kvs=some (.int (rm g c j))),?_,?_,?_,?_⟩
    ·refine(dX xq _ _ _ ⟨rfl,by simp,by exact aI (.a .p (.k 5) (.l .p (.a .z (.k 5)))) rfl ff,Nat.zero_le _,fun j aP=>?_⟩);rcases aP with aP|aP|aP
     ·obtain⟨s,hs,e⟩:=List.mem_iff_getElem.mp aP;rw[←e,aK s hs,Ut s hs j e]
     ·subst aP;rw[Uu];exact aM
     ·cases aP
    ·intro n l s;refine dF ?_;intro kvs _ _ _;refine aY ?_;rintro _ rfl _;refine uL (cH ?_);have e:st++bB.ed kvs::(s'++[.list (ys.map fun j:Nat=>ah.int j)])=(st++[bB.ed kvs]++s')++[.list (ys.map fun j:Nat=>ah.int j)]:=by simp
     rw[e];have aW:(st++[bB.ed xq]).length+s'.length=(st++[bB.ed kvs]++s').length:=by simp;exact Nat.le_antisymm (aq (.l (.a (.b .p) .q) (.a .p (.b .q))) rfl) (aq (.l (.a .p (.b .q)) (.a (.b .p) .q)) rfl)
     rw[aW];exact jz _ _
    ·intro n l s y;refine dF ?_;intro kvs fG jn jB;refine eY ?_;rintro rfl rfl EJ uR gy;intro au;have az:n<ys.length:=by simpa using(List.getElem?_eq_some_iff.mp au).1
     rw[List.getElem?_map,List.getElem?_eq_getElem az]at au;have ez:=List.getElem_mem az;have aC:=(AG _).mp ez;refine bZ ?_ ((aC.1.cut dR).inv aC.2.1 aC.2.2);intro pl pr;refine aY ?_;intro e _ _;have aO:=b7.iO _ _ _ e;have KN:=kN _ ez
     have KO:∀x:Nat,∀Y:kO g c i x,∀Y:x<ys[n],fa (x:Int) kvs=some (.int (rm g c x)):=fun x nN bC=>by
      refine gy x ?_;by_cases ae:(x:Int)∈c
      ·exact .inl ae
      ·by_cases af:x=0
       ·exact .inr (.inl af)
       ·exact .inr (.inr (Uq eu az ((AG x).mpr ⟨nN,ae,af⟩) bC))
     have Uw:=KO (pl / 2) (.left aC.1 aC.2.1 aC.2.2 e) (by exact aq (.b .p .q (.t .p .q)) rfl aO.1);have EK:=KO (pr / 2) (.right aC.1 aC.2.1 aC.2.2 e) (by exact aq (.b .p .q (.t .p .q)) rfl aO.2.1);have Ux:rm g c ys[n]=_:=KG (dW:=fun s=>lE s c.length) (full:=gb c.length) b7 aC.2.1 aC.2.2 e;have f9:ys.take (n+1)=ys.take n++[ys[n]]:=by rw[List.take_add_one,List.getElem?_eq_getElem az];rfl
     have nM:y=.int (ys[n]:Nat):=(Option.some.inj au).symm;subst nM;clear au ez;generalize ys[n]=o at*
     walk_at "V"
     refine a8 ?_
     walk_at "V"
     refine lD (gQ b8 _) fun x ai=>item_list ai (by rw[List.length_map];exact fz hlen rfl) (x:=fy (some (pl,pr))) (by rw[gC,List.getElem?_map,e];rfl) ?_
     walk_at "V"
     refine a8 ?_
     walk_at "V"
     refine p5 (by simp) (x:=.int pl) rfl ?_
     walk_at "V"
     refine(kY _ kvs pl _ _ ⟨rfl,uK (jm ..),Uw,?_⟩)
     walk_at "V"
     refine p5 (by simp) (x:=.int pr) rfl ?_
     walk_at "V"
     refine(kY _ kvs pr _ _ ⟨rfl,uK (jm ..),EK,?_⟩)
     walk_at "V"
     refine Ec (jm ..) (by exact bA (.i 125000 (.l .q (.k 100)) (.i 125000 (.l .r .q) (.i 125000 (.l .p (.a .s (.k 5))) (.i 125000 (.t .s .r) (.G 12 (.l .p (.k 1000000))))))) rfl hlen Uv EJ az) ?_;rw[oP]
     walk_at "V"
     refine(dX _ _ _ _ ⟨rfl,rfl,Nat.le_trans (ED _ _ _) (by exact aq (.a .p (.a .q (.k 5)) (.l (.b .p) (.a (.b .q) (.k 5)))) rfl EJ),az,fun j aP=>?_⟩);rw[AE];by_cases AH:(o:Int)=j
     ·rw[if_pos AH];have:o=j:=by exact qn AH
      subst this;rw[Ux];rfl
     ·rw[if_neg AH];refine gy j ?_;rcases aP with aP|aP|aP
      ·exact .inl aP
      ·exact .inr (.inl aP)
      ·rw[f9]at aP;rcases List.mem_append.mp aP with aP|aP
       ·exact .inr (.inr aP)
       ·exact absurd (by rw[List.mem_singleton.mp aP]) AH
    ·intro n l s;refine dF ?_;intro kvs fG jn jB;refine eY ?_;rintro rfl rfl EJ uR gy;intro az;rw[List.length_map]at az;refine a7 _ _ (kY kvs _ _ _ _ ⟨rfl,rfl,gy i ?_⟩);by_cases ae:(i:Int)∈c
     ·exact .inl ae
     ·by_cases af:i=0
      ·exact .inr (.inl af)
      ·exact .inr (.inr (by rw[List.take_of_length_le az];exact(AG i).mpr ⟨.base,ae,af⟩))
  ·intro l s;refine jt ?_;intro kvs s' fG jn jB;refine aY ?_;rintro rfl rfl bq;refine a8 ?_
   walk_at "V"
   exact item_dict (uK (jm ..)) bq (q (.ed kvs::s'))
end Mine
end
section
set_option maxHeartbeats 2000000
namespace Mine
variable{prog:Program}{w:World}{B:Heap}{k:Nat}
noncomputable def mu(s:St)(h c:Nat):Prop:=∃(cells:List Int)(p b:Nat)(r:Int),s[h]?=some (.list [.ref c,.int p,.int r,.int b])∧c≠h∧s[c]?=some (.list (cells.map .int))∧p≤cells.length∧cells.length≤100∧b<2147483648∧0≤r
noncomputable abbrev uS(xs:List ah)(Q:∀Y:ah,∀Y:St,Prop) (st:St):Prop:=∃(h c:Nat)(m:Nat),xs=[.ref h,.int m]∧mu st h c∧1≤m∧m≤1000∧∀(d:Nat) o,∀Y:d<m,∀Y:mu (st.set h o) h c,Q (.int d) (st.set h o)
theorem xr(a b:Nat)(h:b≠0):(a:Int).fmod (b:Int)=((a % b:Nat):Int):=by
 rw[Int.fmod_eq_emod_of_nonneg _ (by exact aI (.L (.k 0) (.n .p)) rfl)];rfl
theorem xt(a b:Nat):(a:Int).fdiv (b:Int)=((a / b:Nat):Int):=by
 rw[Int.fdiv_eq_ediv_of_nonneg _ (by exact aI (.L (.k 0) (.n .p)) rfl)];rfl
theorem lI{a:Addr}(F:dU B 19 a)(G:ic B):b9 prog w B (k+1) (.ref a) uS:=by
 have dM:=G.len;refine@dU.iB prog w B k _ _ _ _ 2 4 F (by decide+kernel) G.er (by decide+kernel) (by decide+kernel) (aZ (fQ (c6 jK (c4 (aw (i:=0) (by kernel_rfl)) bz) bz) (aZ (fQ (c6 jK (c4 (aw (i:=0) (by kernel_rfl)) bz) (bL dM (.inl ⟨_,rfl⟩) fD (aR (c4 (aw (i:=0) (by kernel_rfl)) bz) bg) (by kernel_rfl) (by decide+kernel))) (aZ (oh (cY tE (cY vR (c4 (aw (i:=0) (by kernel_rfl)) bz) bz) bz) (aw (i:=0) (by kernel_rfl)) bz) (aZ (eF (cY tE (cY rR (c4 (aw (i:=0) (by kernel_rfl)) bz) bz) (aw (i:=1) (by kernel_rfl)))) bM)) bM) (aZ (dg (i:=2) (c4 (c4 (aw (i:=0) (by kernel_rfl)) bz) (c4 (aw (i:=0) (by kernel_rfl)) bz)) (by kernel_rfl) (cj (by decide+kernel))) (aZ (oh (cY pg (c4 (aw (i:=0) (by kernel_rfl)) bz) bz) (aw (i:=0) (by kernel_rfl)) bz) (aZ (oh (Ea (c6 NK (aw (i:=2) (by kernel_rfl)) bz) (aw (i:=2) (by kernel_rfl)) (vM (aw (i:=2) (by kernel_rfl)))) (aw (i:=0) (by kernel_rfl)) bz) bM)))) bM) (aZ (dg (i:=3) (cY tE (c4 (aw (i:=0) (by kernel_rfl)) bz) (aw (i:=1) (by kernel_rfl))) (by kernel_rfl) (cj (by decide+kernel))) (aZ (oh (cY rR (c4 (aw (i:=0) (by kernel_rfl)) bz) (aw (i:=1) (by kernel_rfl))) (aw (i:=0) (by kernel_rfl)) bz) (aZ (eF (aw (i:=3) (by kernel_rfl))) bM)))) ?_;intro xs Q st;refine bG ?_;intro h c m;refine eY ?_;rintro rfl;refine dF ?_;intro cells p b r;refine nU ?_;intro bR KP aG aQ cf av aC;intro lz lj q;refine⟨rfl,?_⟩
 walk_at "V"
 have it:∀{st:St}{xs:List ah}{i:Nat}{x:ah}{Q:∀Y:ah,∀Y:St,Prop},∀Y:st[h]?=some (.list xs),∀Y:xs.length=4,∀Y:xs[i]?=some x,∀Y:Q x st,ng (.ref h) (.int (i:Nat)) Q st:=fun{st xs i x Q} ae af aH bX=>
  item_list (cH ae) (by exact aI (.i 999999999 (.e .p (.k 4)) (.G 3 (.t .p (.k 1000000000)))) rfl af) (x:=x) (by rw[gC];exact aH) bX
 have bC:h<st.length:=(List.getElem?_eq_some_iff.mp bR).1;have oS:∀o,(st.set h o)[c]?=some (.list (cells.map .int)):=fun o=>by rw[List.getElem?_set_ne (Ne.symm KP)];exact aG
 have xu:∀o,(st.set h o)[h]?=some o:=fun o=>List.getElem?_set_self bC
 have fin:∀(fb pw:Nat)(c5:Int),∀Y:fb≤cells.length,∀Y:pw<2147483648,∀Y:0≤c5,mu (st.set h (.list [.ref c,.int fb,.int c5,.int pw])) h c:=fun fb pw c5 ae af aH=>
  (dX cells fb pw c5 ⟨xu _,KP,oS _,ae,cf,af,aH⟩)
 refine lC (fun l s=>∃fb:Nat,∃c5:Int,∃z,l=[some (.ref h),some (.int m),z,none]∧fb≤cells.length∧0≤c5∧s[h]?=some (.list [.ref c,.int fb,.int c5,.int b])∧∃o,s=st.set h o) (fun a6 a7 sU Y=>?_) ?_
 ·refine gB (r=0) (fun a6 ae af=>?_) (fun AI=>?_) fun AI=>?_
  ·walk_at "V"
   refine it (i:=2) bR rfl rfl ?_
   walk_at "V"
   exact kh (fun h=>ae (of_decide_eq_true h)) fun h=>af (of_decide_eq_false h)
  ·refine a8 (gB (p=cells.length) (fun a6 ae af=>?_) (fun kQ=>?_) fun kQ=>?_)
   ·walk_at "V"
    refine it (i:=1) bR rfl rfl ?_
    walk_at "V"
    refine it (i:=0) bR rfl rfl ?_
    walk_at "V"
    refine jU (cH aG) (by rw[List.length_map];exact fz cf rfl) ?_
    walk_at "V"
    rw[List.length_map];exact kh (fun h=>ae (by have:=of_decide_eq_true h;lia)) fun h=>af (by have:=of_decide_eq_false h;lia)
   ·refine a8 ?_
    walk_at "V"
    refine it (i:=3) bR rfl rfl ?_
    walk_at "V"
    refine⟨⟨by lia,by decide⟩,?_⟩
    walk_at "V"
    refine⟨by decide,uM (i:=3) bR (by simp) (by simp) ?_⟩;have aS:((b:Int)*48271).fmod 2147483647=((b*48271 % 2147483647:Nat):Int):=xr (b*48271) 2147483647 (by decide);rw[aS];have j9:b*48271 % 2147483647<2147483648:=Nat.lt_of_lt_of_le (Nat.mod_lt _ (by decide)) (by decide);generalize b*48271 % 2147483647=gz at j9 ⊢
    walk_at "V"
    refine a8 ?_
    walk_at "V"
    refine it (i:=3) (xu _) (by simp) rfl ?_
    walk_at "V"
    refine⟨⟨by decide,by decide⟩,?_⟩;have aW:(gz:Int).fdiv 7=((gz / 7:Nat):Int):=xt gz 7;rw[aW]
    walk_at "V"
    refine⟨by exact Bt lz,?_⟩;rw[xr _ _ (by exact vz lz)];refine sU _ _ _ (q _ _ (Nat.mod_lt _ (by exact aI (.a .o .p (.t .z .p)) rfl lz)) (fin p gz r aQ j9 aC))
   ·have fO:p<cells.length:=by exact(Nat.lt_or_gt_of_ne kQ).elim (fun ay=>aq (.b .p .q (.t .p .q)) rfl ay) (fun aE=>aq (.i 2 (.l .p .q) (.b .q .p (.t .p .q))) rfl aQ aE)
    walk_at "V"
    refine a8 ?_
    walk_at "V"
    refine it (i:=0) bR rfl rfl ?_
    walk_at "V"
    refine it (i:=1) bR rfl rfl ?_
    walk_at "V"
    refine item_list (cH aG) (by rw[List.length_map];exact fz cf rfl) (x:=.int cells[p]) (by rw[gC,List.getElem?_map,List.getElem?_eq_getElem fO];rfl) ?_;generalize cells[p]=nb
    walk_at "V"
    refine a8 ?_
    walk_at "V"
    refine it (i:=1) bR rfl rfl ?_
    walk_at "V"
    refine uM (i:=1) bR (by simp) (by simp) ?_
    walk_at "V"
    refine a8 ?_
    walk_at "V"
    have tail:∀v:Int,∀Y:0≤v,tP (.ref h) (.int 2) (.int v) (fun s=>a6 .next [some (.ref h),some (.int m),some (.int nb),none] s) (st.set h (.list [.ref c,.int ((p:Int)+1),.int r,.int b])):=fun v aO=>by
     refine uM (i:=2) (xu _) (by simp) (by simp) ?_;rw[List.set_set];exact a7 _ _ (cF (p+1) v _ ⟨rfl,fO,aO,xu _,_,rfl⟩)
    refine Eb (0≤nb) (fun a6 ae af=>?_) (fun h=>?_) fun h=>?_
    ·walk_at "V"
     exact kh (fun h=>ae (of_decide_eq_true h)) fun h=>af (of_decide_eq_false h)
    ·walk_at "V"
     exact tail nb h
    ·walk_at "V"
     exact tail (-nb) (by exact M3 h)
  ·refine a7 _ _ (cF p r _ ⟨rfl,aQ,aC,bR,.list [.ref c,.int p,.int r,.int b],?_⟩);apply List.ext_getElem?;intro i;by_cases e:h=i
   ·subst e;rw[xu,bR]
   ·rw[List.getElem?_set_ne e]
 ·rintro l s ⟨fb,c5,z,rfl,iK,j6,hs,o,rfl⟩;refine a8 ?_
  walk_at "V"
  refine it (i:=2) hs rfl rfl ?_
  walk_at "V"
  refine⟨by exact Bt lz,?_⟩;obtain⟨KQ,rfl⟩:∃KQ:Nat,c5=KQ:=⟨c5.toNat,by exact Int.le_antisymm (ck (.A .p (.n .p) (.L .p (.n .p))) rfl [(Int.toNat _)] [_] (Int.self_le_toNat _)) (ck (.ak (.n .p) .p (.L (.n .p) .p)) rfl [(Int.toNat _)] [_] (Int.toNat_of_nonneg (gG (.A (.k 0) .p (.L (.k 0) .p)) rfl j6)))⟩;rw[xr _ _ (by exact vz lz)]
  walk_at "V"
  refine a8 ?_
  walk_at "V"
  refine it (i:=2) hs rfl rfl ?_
  walk_at "V"
  refine⟨⟨by exact Bt lz,by lia⟩,?_⟩;rw[xt];refine uM (i:=2) hs (by simp) (by simp) ?_;rw[List.set_set];refine a8 ?_
  walk_at "V"
  exact q _ _ (Nat.mod_lt _ (by exact aI (.a .o .p (.t .z .p)) rfl lz)) (fin fb b _ iK av (Int.natCast_nonneg _))
end Mine
end
section
set_option maxHeartbeats 2000000
namespace Mine
variable{prog:Program}{w:World}{B:Heap}{k:Nat}
noncomputable def ofT(l:Nat)(t full:Int):Int:=if l % 2=1 then full-t else t
noncomputable abbrev KR(xs:List ah)(Q:∀Y:ah,∀Y:St,Prop) (st:St):Prop:=∃(v:ah)(vs:List ah)(l:Nat)(t full:Int),xs=[v,.int l,.int full]∧listAt v st=some vs∧vs.length≤1000∧vs[l / 2]?=some (.int t)∧Q (.int (ofT l t full)) st
theorem AJ{a:Addr}(F:dU B 20 a)(G:ic B):b9 prog w B (k+1) (.ref a) KR:=by
 refine@dU.iB prog w B k _ _ _ _ 3 3 F (by decide+kernel) G.er (by decide+kernel) (by decide+kernel) (aZ (eF (Ea (c6 jK (cY tE (aw (i:=1) (by kernel_rfl)) bz) bz) (cY rQ (aw (i:=2) (by kernel_rfl)) (c4 (aw (i:=0) (by kernel_rfl)) (cY rR (aw (i:=1) (by kernel_rfl)) bz))) (c4 (aw (i:=0) (by kernel_rfl)) (cY rR (aw (i:=1) (by kernel_rfl)) bz)))) bM) ?_;intro xs Q st;refine jt ?_;intro v vs l t full;refine eY ?_;rintro rfl aO aD bf q;refine⟨rfl,?_⟩
 walk_at "V"
 refine a8 ?_;have aS:(l:Int).fdiv 2=((l / 2:Nat):Int):=xt l 2;have aW:(l:Int).fmod 2=((l % 2:Nat):Int):=xr l 2 (by decide);refine Eb (l % 2=1) (fun a6 ae af=>?_) (fun h=>?_) fun h=>?_
 ·walk_at "V"
  refine⟨by decide,?_⟩;rw[aW]
  walk_at "V"
  exact kh (fun h=>ae (by have:=of_decide_eq_true h;lia)) fun h=>af (by have:=of_decide_eq_false h;lia)
 ·walk_at "V"
  refine⟨⟨by decide,by decide⟩,?_⟩;rw[aS];refine item_list aO (by exact fz aD rfl) (x:=.int t) (by rw[gC];exact bf) ?_
  walk_at "V"
  unfold ofT at q;rw[if_pos h]at q;exact q
 ·walk_at "V"
  refine⟨⟨by decide,by decide⟩,?_⟩;rw[aS];refine item_list aO (by exact fz aD rfl) (x:=.int t) (by rw[gC];exact bf) ?_;unfold ofT at q;rw[if_neg h]at q;exact q
noncomputable def Uy(turn n:Nat):List Int:=((List.range (2^n)).filter fun row=>decide (row / 2^turn % 2=1)).map fun row=>(2:Int)^row
noncomputable def nO(turn n:Nat):Int:=(Uy turn n).sum
noncomputable abbrev KS(xs:List ah)(Q:∀Y:ah,∀Y:St,Prop) (st:St):Prop:=∃n:Nat,xs=[.int n]∧n≤4∧∀s',Q (.ref st.length) (st++.list ((List.range n).map fun t=>.int (nO t n))::s')
theorem EL{a:Addr}(F:dU B 22 a)(G:ic B):b9 prog w B (k+1) (.ref a) KS:=by
 have ie:=G.range;have EM:=G.sum;refine@dU.iB prog w B k _ _ _ _ 1 1 F (by decide+kernel) G.er (by decide+kernel) (by decide+kernel) (aZ (eF (mL (xi:=1) (bL ie (.inr (.inl ⟨_,rfl⟩)) called_range (aR (aw (i:=0) (by kernel_rfl)) bg) (by kernel_rfl) (by decide+kernel)) ou (bL EM (.inl ⟨_,rfl⟩) Hg (aR (mL (xi:=1) (bL ie (.inr (.inl ⟨_,rfl⟩)) called_range (aR (cY vH bz (aw (i:=2) (by kernel_rfl))) bg) (by kernel_rfl) (by decide+kernel)) (za (c6 jK (cY tE (cY rR (aw (i:=1) (by kernel_rfl)) (cY vH bz (aw (i:=2) (by kernel_rfl)))) bz) bz)) (cY vH bz (aw (i:=1) (by kernel_rfl))) (by decide+kernel) (by kernel_rfl)) bg) (by kernel_rfl) (by decide+kernel)) (by decide+kernel) (by kernel_rfl))) bM) ?_;intro xs Q st;refine aj ?_;intro n;refine aY ?_;rintro rfl az q;refine⟨rfl,?_⟩
 walk_at "V"
 refine a8 (nI [none,none,some (.int n)] (by kernel_rfl) (fun v s=>v=.range 0 n∧st=s) (fun a6 a7=>?_) ?_)
 ·walk_at "V"
  exact a7 _ _ ⟨rfl,rfl⟩
 ·intro _ _;refine ar ?_;rintro rfl rfl;refine⟨(List.range ((n:Int)-0).toNat).map fun i=>.int (0+(i:Nat)),fun j s=>∃s',j≤n∧s=st++.list ((List.range j).map fun t=>.int (nO t n))::s',⟨[],Nat.zero_le _,by simp⟩,?_,?_,?_⟩
  ·intro j s _;exact sO (by exact ik (.L (.k (-1000000)) (.k 0)) rfl) (by exact ik (.L (.k 0) (.k 1000000)) rfl) (by exact aI (.L (.k (-1000000)) (.n .p)) rfl) (by exact aI (.i 250000 (.l .p (.k 4)) (.L (.n .p) (.k 1000000))) rfl az)
  ·intro t s y;refine aj ?_;intro s';refine ar ?_;rintro aP rfl;intro au
   have bf:t<n:=by
    have:=(List.getElem?_eq_some_iff.mp au).1;simp at this;exact aq (.b .p .q (.t .p .q)) rfl this
   rw[List.getElem?_map,List.getElem?_range (by exact aA (.b .p .r (.A (.s (.n .r) (.k 0)) (.n .q) (.t .p .q))) rfl bf (Int.self_le_toNat (((_:Nat):Int)-(0:Int))))]at au
   have nM:y=.int (t:Nat):=by
    have:=Option.some.inj au;rw[←this];show ah.int (0+(t:Int))=_;rw[Int.zero_add]
   subst nM;refine⟨fun b s2=>b=true∧s2=st++.list ((List.range t).map fun t=>.int (nO t n))::s',fun a6 a7=>a7 _ _ ⟨rfl,rfl⟩,?_,fun Y h=>by cases h.1⟩;intro _;refine ar ?_;rintro _ rfl;have i0:(2:Int)^n=((2^n:Nat):Int):=by simp
   have EN:(2:Int)^t=((2^t:Nat):Int):=by simp
   have EO:(2:Nat)^n≤16:=Nat.le_trans (Nat.pow_le_pow_right (n:=2) (by decide) az) (by decide);have Uz:(2:Nat)^t≤16:=Nat.le_trans (Nat.pow_le_pow_right (n:=2) (by decide) (show t≤4 by exact aq (.i 4 (.l .q (.k 4)) (.i 4 (.t .p .q) (.G 2 (.l .p (.k 4))))) rfl az bf)) (by decide);have kQ:0<(2:Nat)^t:=Nat.pow_pos (by decide);have aS:(n:Int).toNat=n:=by exact tm
   have aW:(t:Int).toNat=t:=by exact tm
   generalize dc:st++bB.list ((List.range t).map fun t=>ah.int (nO t n))::s'=S;have EP:∀g,∃fj,S++g=st++bB.list ((List.range t).map fun t=>ah.int (nO t n))::fj:=fun g=>⟨s'++g,by rw[←dc];simp⟩
   walk_at "V"
   refine nI [none,none,some (.int t)] (by kernel_rfl) (fun v s=>v=.range 0 ((2^n:Nat):Int)∧S=s) (fun a6 a7=>?_) ?_
   ·walk_at "V"
    simp only[yp,aS];refine⟨⟨by exact aI (.L (.k 0) (.n .p)) rfl,by exact aI (.i 250 (.l .p (.k 4)) (.L (.n .p) (.k 1000))) rfl az,by decide⟩,?_⟩;rw[i0];exact a7 _ _ ⟨rfl,rfl⟩
   ·intro _ _;refine ar ?_;rintro rfl rfl;refine(cE ((List.range ((((2^n:Nat):Int))-0).toNat).map fun i=>.int (0+(i:Nat))) (fun i s=>i≤2^n∧s=S++[.list ((((List.range i).filter fun row=>decide (row / 2^t % 2=1)).map fun row=>(2:Int)^row).map .int)]) ⟨⟨Nat.zero_le _,rfl⟩,?_,?_,?_⟩)
    ·intro j s _;exact sO (by exact ik (.L (.k (-1000000)) (.k 0)) rfl) (by exact ik (.L (.k 0) (.k 1000000)) rfl) (by exact aI (.L (.k (-1000000)) (.n .p)) rfl) (by exact aI (.i 62500 (.l .p (.k 16)) (.L (.n .p) (.k 1000000))) rfl EO)
    ·intro i s y;refine ar ?_;rintro hi rfl;intro au
     have fc:i<2^n:=by
      have:=(List.getElem?_eq_some_iff.mp au).1;simp at this;lia
     rw[List.getElem?_map,List.getElem?_range (by exact aA (.b .p .r (.A (.s (.n .r) (.k 0)) (.n .q) (.t .p .q))) rfl fc (Int.self_le_toNat (((_:Nat):Int)-(0:Int))))]at au
     have nM:y=.int (i:Nat):=by
      have:=Option.some.inj au;rw[←this];show ah.int (0+(i:Int))=_;rw[Int.zero_add]
     subst nM;have cz:(i:Int).toNat=i:=by exact tm
     have ER:((List.range (i+1)).filter fun row=>decide (row / 2^t % 2=1))=((List.range i).filter fun row=>decide (row / 2^t % 2=1))++(if decide (i / 2^t % 2=1)=true then[i]else[]):=by
      rw[List.range_succ,List.filter_append];congr 1;by_cases h:decide (i / 2^t % 2=1)=true
      ·rw[if_pos h,List.filter_cons,if_pos h];rfl
      ·rw[if_neg h,List.filter_cons,if_neg h];rfl
     have km:((List.range i).filter fun row=>decide (row / 2^t % 2=1)).length≤16:=Nat.le_trans (List.length_filter_le ..) (by rw[List.length_range];exact aq (.i 16 (.l .q (.k 16)) (.i 16 (.t .p .q) (.G 14 (.l .p (.k 16))))) rfl EO fc);generalize ((List.range i).filter fun row=>decide (row / 2^t % 2=1))=dD at ER km ⊢;refine⟨fun b s2=>b=decide (i / 2^t % 2=1)∧S++[.list ((dD.map fun row=>(2:Int)^row).map .int)]=s2,fun a6 a7=>?_,?_,?_⟩
     ·walk_at "V"
      simp only[yp,GO,aW];refine⟨⟨by exact aI (.L (.k 0) (.n .p)) rfl,by exact aq (.i 1000 (.l .q (.k 4)) (.i 1000 (.t .p .q) (.G 2 (.L (.n .p) (.k 1000))))) rfl az bf,by decide⟩,⟨by rw[EN];exact fun ay=>aI (.b .z .p (.ak (.n .p) (.k 0) .f)) rfl kQ ay,by rw[EN,Int.natAbs_natCast];exact fz Uz rfl⟩,by decide,?_⟩;rw[EN,xt];have jg:((i / 2^t:Nat):Int).fmod 2=((i / 2^t % 2:Nat):Int):=xr _ 2 (by decide);rw[jg]
      walk_at "V"
      refine a7 _ _ ⟨?_,rfl⟩;by_cases h:i / 2^t % 2=1
      ·rw[decide_eq_true h,h];rfl
      ·rw[decide_eq_false h,decide_eq_false];exact fun ay=>(Nat.lt_or_gt_of_ne h).elim (fun aE=>aI (.i (-1) (.E (.n .p) (.k 1)) (.b .p .o .f)) rfl ay aE) (fun bI=>aI (.ak (.n .p) (.k 1) (.b .o .p .f)) rfl ay bI)
     ·intro _;refine ar ?_;rintro av rfl
      walk_at "V"
      simp only[yp,cz];refine⟨⟨by exact aI (.L (.k 0) (.n .p)) rfl,by exact aq (.i 200 (.l .q (.k 16)) (.i 200 (.t .p .q) (.G 2 (.L (.n .p) (.k 1000))))) rfl EO fc,by decide⟩,oQ (by rw[List.length_map,List.length_map];exact eZ km rfl) ⟨fc,?_⟩⟩;rw[ER,if_pos av.symm];simp
     ·intro _;refine ar ?_;rintro av rfl;refine⟨fc,?_⟩;rw[ER,if_neg (by rw[←av];exact Bool.false_ne_true)];simp
    ·intro i s;refine ar ?_;rintro hi rfl;intro hle
     have:i=2^n:=by
      simp at hle;lia
     subst this;refine sum_list (iN ..) ?_;refine aj ?_ (EP [.list ((((List.range (2^n)).filter fun row=>decide (row / 2^t % 2=1)).map fun row=>(2:Int)^row).map .int)]);intro fj e;rw[e];refine append_at (jm st _) (by rw[List.length_map,List.length_range];exact aq (.i 1000000 (.l .q (.k 4)) (.i 1000000 (.t .p .q) (.G 2 (.l .p (.k 1000000))))) rfl az bf) ⟨fj,by exact aq (.b .p .q (.l (.b .p) .q)) rfl bf,?_⟩;rw[oP,List.range_succ,List.map_append];rfl
  ·intro j s;refine aj ?_;intro s';refine ar ?_;rintro aP rfl;intro hle
   have:j=n:=by
    simp at hle;exact Bu aP hle
   subst this
   walk_at "V"
   exact q s'
end Mine
end
section
set_option maxHeartbeats 2000000
namespace Mine
variable{prog:Program}{w:World}{B:Heap}{k:Nat}
theorem UA{P:e9}{br:d8}{Q:∀Y:gj,∀Y:Loc,∀Y:St,Prop} {loc:Loc} {st:St} (I:∀Y:Nat,∀Y:Loc,∀Y:St,Prop) (n:Nat) (aM:I n loc st) (bQ:∀Y:Nat,∀Y:Loc,∀Y:St,Prop) (E:∀Y:Loc,∀Y:St,Prop)
 (bf:∀n l s,∀Y:I n l s,∀a6:∀Y:Bool,∀Y:St,Prop,∀Y:(∀s',∀Y:bQ n l s',a6 true s'),∀Y:(∀s',∀Y:E l s',a6 false s'),P a6 l s)
 (av:∀n l s,∀Y:bQ n l s,br (J3 I n Q) l s) (he:∀l s,∀Y:E l s,Q .next l s):BX P br Q loc st:=
 (cE I n ⟨aM,fun n l s bE=>bf n l s bE _ (fun s' h=>by rw[if_pos rfl];exact av n l s' h) fun s' h=>by rw[if_neg Bool.false_ne_true];exact he l s' h⟩)
theorem KT{α β jO:Type}{f:∀Y:β,Option jO} {g:∀Y:α,β} {h:∀Y:α,jO} (e:∀x,f (g x)=some (h x)) (a:List α):n6 f (a.map g)=some (a.map h):=by
 induction a with
 |nil=>rfl
 |cons x r ih=>exact GP (e x) ih
theorem KU{α:Type}[DecidableEq α]{f:∀Y:α,PyData} (e:∀x y,PyData.eqv (f x) (f y)=decide (x=y)) (a:List α):∀b:List α,PyData.eqvAll (a.map f) (b.map f)=decide (a=b):=by
 induction a with
 |nil=>intro b;cases b<;>rfl
 |cons x a ih=>
  intro b;cases b with
  |nil=>rfl
  |cons y b=>
   rw[List.map_cons,List.map_cons];unfold PyData.eqvAll;rw[e,ih];exact Bool.eq_iff_iff.mpr (by rw[Bool.and_eq_true,decide_eq_true_iff,decide_eq_true_iff,decide_eq_true_iff,List.cons.injEq])
theorem KV(x y:Int):PyData.eqv (.int x) (.int y)=decide (x=y):=by
 unfold PyData.eqv;exact Bool.eq_iff_iff.mpr (by rw[decide_eq_true_iff,beq_iff_eq])
theorem KW{α:Type}[DecidableEq α]{neg:Bool}{m n:Nat}{st:St}{f:∀Y:α,ah} {d:∀Y:α,PyData} (hd:∀x,n7 2 (f x)=some (d x)) (e:∀x y,PyData.eqv (d x) (d y)=decide (x=y)) {a b:List α} {Q:∀Y:Bool,∀Y:St,Prop}
 (ae:listAt (.ref m) st=some (a.map f)) (af:listAt (.ref n) st=some (b.map f)) (bb:Q (xor neg (decide (a=b))) st):nc neg (.ref m) (.ref n) Q st:=by
 have h {m:Nat} {a:List α} (h:listAt (.ref m) st=some (a.map f)):tH (.ref m) st=some (.list (a.map d)):=Option.bind_eq_some_iff.mpr ⟨_,h,Option.map_eq_some_iff.mpr ⟨_,KT hd a,rfl⟩⟩;have e:PyData.eqv (.list (a.map d)) (.list (b.map d))=decide (a=b):=(KU e a b).symm▸rfl;exact rM (h ae) (h af) (by rw[e];exact bb)
theorem ES{m n:Nat}{st:St}{a b:List Int}{Q:∀Y:Bool,∀Y:St,Prop} (ae:listAt (.ref m) st=some (a.map .int)) (af:listAt (.ref n) st=some (b.map .int)) (bb:Q (!decide (a=b)) st):nc true (.ref m) (.ref n) Q st:=
 KW (d:=.int) (fun Y=>rfl) KV ae af (by rw[Bool.true_xor];exact bb)
theorem i9.cut{g:List Node}{c:List Int}{i:Nat}{ss:List Nat}(b7:gR g)(D:i9 g c i [] ss)(aJ:∀s∈ss,∃l r,g[s]?=some (some (l,r))):Cut g c i:=by
 have:∀n j,∀Y:j<n,∀Y:Seen c [] ss j,Cut g c j:=by
  intro n
  induction n with
  |zero=>intro j aP;exact(aI (.b .p .z .f) rfl aP:False).elim
  |succ n ih=>
   intro j aP h;rcases h with h|h|h|h
   ·cases h
   ·refine bZ ?_ (aJ j h);intro l r e;have aO:=b7.iO _ _ _ e;have:=D.nr j h l r e;exact .iO e (ih _ (by exact aA (.b .r (.b .q) (.b .p .r (.t .p .q))) rfl aP aO.1) this.1) (ih _ (by exact aA (.b .r (.b .q) (.b .p .r (.t .p .q))) rfl aP aO.2.1) this.2)
   ·exact .here h
   ·subst h;exact .zero
 exact this (i+1) i (by exact aI (.t .p (.b .p)) rfl) D.start
noncomputable abbrev KX(aF:Addr)(xs:List ah)(Q:∀Y:ah,∀Y:St,Prop) (st:St):Prop:=∃(aig:ah)(g:List Node)(i:Nat)(c:List Int),xs=[aig,.int i,aT c]∧kj aF aig st=some (g.map fy)∧gR g∧i<g.length∧
 (∀Y:Cut g c i,∀(ys:List Nat) s',∀Y:ys.Pairwise (·<·),∀Y:(∀j,j∈ys↔Reach g c i j),Q (.ref (st.length+s'.length)) (st++s'++[.list (ys.map fun j:Nat=>.int j)]))∧(∀Y:¬Cut g c i,∀s',Q .none (st++s'))
theorem xw{a aF:Nat}{bS:∀Y:Str,Option Value} (F:dU B 23 a) (G:ic B) (X:jx B aF bS) (ee:bS "nodes"=none) (dN:typeLookup (.type "object") "nodes"=pure none):
 b9 prog w B (k+1) (.ref a) (KX aF):=by
 have lF:=G.sorted;have hs:=G.hs;refine@dU.iB prog w B k _ _ _ _ 3 6 F (by decide+kernel) G.er (by decide+kernel) (by decide+kernel) (aZ (dg (i:=3) (jc bg) (by kernel_rfl) (cj (by decide+kernel))) (aZ (dg (i:=4) (jc (aR (aw (i:=1) (by kernel_rfl)) bg)) (by kernel_rfl) (cj (by decide+kernel))) (aZ (BY (c6 nf (aw (i:=4) (by kernel_rfl)) (jc bg)) (aZ (dg (i:=5) (Ho (aw (i:=4) (by kernel_rfl))) (by kernel_rfl) (cj (by decide+kernel))) (aZ (fQ (mC (c6 nf (aw (i:=5) (by kernel_rfl)) bz) (mC (c6 (tK hs) (aw (i:=5) (by kernel_rfl)) (aw (i:=2) (by kernel_rfl))) (mC (c6 (tK hs) (aw (i:=5) (by kernel_rfl)) (aw (i:=3) (by kernel_rfl))) vL))) (aZ (fQ (c6 vK (c4 (iL X ee dN (aw (i:=0) (by kernel_rfl))) (aw (i:=5) (by kernel_rfl))) lR) (aZ (eF lR) bM) bM) (aZ (ju (jw (aw (i:=3) (by kernel_rfl)) (aw (i:=5) (by kernel_rfl)))) (aZ (v8 (i:=4) (mL (xi:=1) (c4 (iL X ee dN (aw (i:=0) (by kernel_rfl))) (aw (i:=5) (by kernel_rfl))) ou (cY rR (aw (i:=1) (by kernel_rfl)) bz) (by decide+kernel) (by kernel_rfl)) (by kernel_rfl) (cj (by decide+kernel))) bM))) bM) bM))) (aZ (eF (bL lF (.inl ⟨_,rfl⟩) (q2 hs) (aR (aw (i:=3) (by kernel_rfl)) bg) (by kernel_rfl) (by decide+kernel))) bM)))) ?_;intro xs Q st;refine dF ?_;intro aig g i c;refine dH ?_;rintro rfl b8 b7 hi ay aE;refine⟨rfl,?_⟩
 walk_at "V"
 refine a8 ?_
 walk_at "V"
 refine⟨by decide,?_⟩
 walk_at "V"
 refine a8 ?_
 walk_at "V"
 refine⟨by decide,?_⟩
 walk_at "V"
 have hlen:=b7.len
 have eL:∀(ss ws:List Nat)(s':St),listAt (.ref st.length) (st++.list (ss.map fun j:Nat=>.int j)::.list (ws.map fun j:Nat=>.int j)::s')=some ((ss.map fun j:Nat=>(j:Int)).map .int):=fun ss ws s'=>by
  rw[List.map_map];exact cH (jm st _)
 have UB:∀(ss ws:List Nat)(s':St),listAt (.ref (st.length+1)) (st++.list (ss.map fun j:Nat=>.int j)::.list (ws.map fun j:Nat=>.int j)::s')=some ((ws.map fun j:Nat=>(j:Int)).map .int):=fun ss ws s'=>by
  rw[List.map_map];exact cH (kM st _ 1)
 refine lC (fun l s=>∃ss fv s',l=[some aig,some (.int i),some (aT c),some (.ref st.length),some (.ref (st.length+1)),fv]∧s=st++.list (ss.map fun j:Nat=>.int j)::.list []::s'∧i9 g c i [] ss∧∀s∈ss,∃l r,g[s]?=some (some (l,r))) (fun a6 a7 sU Y=>?_) ?_
 ·let UC:∀Y:Nat,∀Y:Loc,∀Y:St,Prop:=fun r l s=>∃ws ss fv s',l=[some aig,some (.int i),some (aT c),some (.ref st.length),some (.ref (st.length+1)),fv]∧s=st++.list (ss.map fun j:Nat=>.int j)::.list (ws.map fun j:Nat=>.int j)::s'∧i9 g c i ws ss∧r=3*(g.length-ss.length)+ws.length∧ws.length+ss.length≤3*ss.length+1∧∀s∈ss,∃l r,g[s]?=some (some (l,r))
  refine UA UC _ (dX [i] [] none [] ⟨by simp,by simp,.init g c i,rfl,by simp,by simp⟩) (fun r l s=>∃ws x ss fv s',l=[some aig,some (.int i),some (aT c),some (.ref st.length),some (.ref (st.length+1)),fv]∧s=st++.list (ss.map fun j:Nat=>.int j)::.list ((ws++[x]).map fun j:Nat=>.int j)::s'∧i9 g c i (ws++[x]) ss∧r=3*(g.length-ss.length)+(ws++[x]).length∧(ws++[x]).length+ss.length≤3*ss.length+1∧∀s∈ss,∃l r,g[s]?=some (some (l,r)))
   (fun l s=>∃ss fv s',l=[some aig,some (.int i),some (aT c),some (.ref st.length),some (.ref (st.length+1)),fv]∧s=st++.list (ss.map fun j:Nat=>.int j)::.list []::s'∧i9 g c i [] ss∧∀s∈ss,∃l r,g[s]?=some (some (l,r))) ?_ ?_ ?_
  ·intro r _ _;refine dF ?_;intro ws ss fv s';refine dH ?_;rintro rfl rfl D rfl aU aJ;intro a6 ae af
   walk_at "V"
   refine⟨by decide,ES (a:=ws.map fun j:Nat=>(j:Int)) (b:=[]) (jA (UB ss ws s') _) (iN _ _) ?_⟩;by_cases hw:ws=[]
   ·subst hw;exact af _ (cF ss fv (s'++[.list []]) ⟨rfl,by simp,D,aJ⟩)
   ·obtain⟨ws,x,rfl⟩:∃EB x,ws=EB++[x]:=(cE ws.dropLast (ws.getLast hw) ((List.dropLast_concat_getLast hw).symm));rw[decide_eq_false (by simp)];exact ae _ (kY ws x ss fv (s'++[.list []]) ⟨rfl,by simp,D,rfl,aU,aJ⟩)
  ·intro r _ _;refine jt ?_;intro ws x ss fv s';refine dH ?_;rintro rfl rfl D rfl aU aJ;have nN:=D.xj x (by simp);have AB:=nN.lt b7 hi;have av:=D.bound b7 hi
   walk_at "V"
   refine a8 ?_
   walk_at "V"
   refine pop_at (y:=.int x) (xs:=ws.map fun j:Nat=>.int j) (by rw[kM];simp) (by simp only[List.length_append,List.length_cons,List.length_nil,List.length_map]at aU ⊢;exact aA (.i 1999998 (.l .q (.k 100)) (.i 1999998 (.l .r .q) (.i 999999 (.l (.a (.a .p (.b .z)) .r) (.b (.m 3 .r))) (.G 199 (.t .p (.k 1000000)))))) rfl hlen av aU) ?_;rw[nH];simp only[List.set_cons_succ,List.set_cons_zero]
   walk_at "V"
   refine a8 (gB ((x:Int)∉c∧x∉ss∧x≠0) (fun a6 ae af=>?_) (fun h=>?_) fun h=>?_)
   ·walk_at "V"
    have ku:nc true (.int (x:Nat)) (.int 0)=fun(Q:∀Y:Bool,∀Y:St,Prop) st=>Q (!decide (x=0)) st:=by
     funext Q st
     show Q (xor true ((x:Int)==0)) st=_
     have:(xor true ((x:Int)==0))=!decide (x=0):=by
      by_cases h:x=0
      ·subst h;rfl
      ·have:((x:Int)==0)=false:=beq_eq_false_iff_ne.mpr (by exact fun ay=>(Nat.lt_or_gt_of_ne h).elim (fun aE=>aI (.b .p .z .f) rfl aE) (fun bI=>aI (.ak (.n .p) (.k 0) (.b .z .p .f)) rfl ay bI));rw[this,decide_eq_false h];rfl
     rw[this]
    rw[ku];dsimp only;refine As (c:=!decide (x=0)) (fun h=>?_) (fun h=>af (fun q=>q.2.2 (by simpa using h)));have AK:x≠0:=by simpa using h
    refine J1 ?_;refine As (c:=!decide ((x:Int)∈c)) (fun h=>?_) (fun h=>af (fun q=>q.1 (by simpa using h)));have rn:(x:Int)∉c:=by simpa using h
    walk_at "V"
    refine TP (a:=ss.map fun j:Nat=>(j:Int)) (eL ss ws s') ?_
    have em:((x:Int)∈ss.map fun j:Nat=>(j:Int))↔x∈ss:=by
     rw[List.mem_map];constructor
     ·refine aj ?_;intro y;refine ar ?_;intro au e;have:y=x:=by exact qn e
      exact this▸au
     ·exact fun h=>⟨x,h,rfl⟩
    refine As (c:=!decide ((x:Int)∈ss.map fun j:Nat=>(j:Int))) (fun h=>ae ⟨rn,fun q=>?_,AK⟩) (fun h=>af (fun q=>q.2.1 (em.mp (by simpa using h))));rw[decide_eq_true (em.mpr q)]at h;cases h
   ·refine aY ?_ h;clear h;intro rn UD AK;refine a8 (gB (g[x]?=some none) (fun a6 ae af=>?_) (fun az=>?_) fun az=>?_)
    ·walk_at "V"
     refine lD (gQ b8 _) fun y au=>item_list au (by rw[List.length_map];exact fz hlen rfl) (x:=fy g[x]) (by rw[gC,List.getElem?_map,List.getElem?_eq_getElem AB];rfl) ?_;have e:=List.getElem?_eq_getElem AB;rw[e]at ae af;generalize g[x]=d4 at ae af ⊢;cases d4 with
     |none=>exact ae rfl
     |some sT=>exact af (fun q=>by cases q)
    ·refine a8 ?_
     walk_at "V"
     refine sU _ _ _ (aE (fun dR=>?_) _);refine bZ ?_ ((nN.cut dR).inv rn AK);intro l r;refine ar ?_;intro e _;rw[az]at e;cases e
    ·obtain⟨l,r,e⟩:∃l r,g[x]?=some (some (l,r)):=by
      have e:=List.getElem?_eq_getElem AB;rw[e]at az ⊢;generalize g[x]=d4 at az ⊢;cases d4 with
      |none=>exact absurd rfl az
      |some sT=>exact(cE sT.1 sT.2 rfl)
     have aO:=b7.iO _ _ _ e
     walk_at "V"
     refine a8 ?_
     walk_at "V"
     refine⟨by rw[eL];rfl,append_at (jm st _) (by rw[List.length_map];exact aq (.i 10000 (.l .q (.k 100)) (.i 10000 (.l .p .q) (.l .p (.k 1000000)))) rfl hlen av) ⟨rfl,?_⟩⟩;rw[oP];simp only[List.set_cons_zero]
     walk_at "V"
     have xn:=D.Kz rn UD AK e;have g4:=xn.bound b7 hi;have UE:(ss.map fun j:Nat=>ah.int j)++[ah.int (x:Nat)]=(ss++[x]).map fun j:Nat=>.int j:=by simp
     rw[UE];generalize dc:st++bB.list ((ss++[x]).map fun j:Nat=>ah.int j)::bB.list (ws.map fun j:Nat=>ah.int j)::s'=S;refine a8 ?_
     walk_at "V"
     refine nI [none,none] (by kernel_rfl) (fun v s=>v=.tup [.int l,.int r]∧S=s) (fun a6 a7=>?_) ?_
     ·walk_at "V"
      rw[←dc];refine lD (gQ b8 _) fun y au=>item_list au (by rw[List.length_map];exact fz hlen rfl) (x:=fy (some (l,r))) (by rw[gC,List.getElem?_map,e];rfl) ?_;exact a7 _ _ ⟨rfl,dc.symm⟩
     ·intro _ _;refine ar ?_;rintro rfl rfl;refine(cE [.int l,.int r] (fun n s=>n≤2∧s=S++[.list (([l / 2,r / 2].take n).map fun j:Nat=>.int j)]) ⟨⟨Nat.zero_le _,rfl⟩,fun n s Y=>rfl,?_,?_⟩)
      ·intro n s y;refine ar ?_;rintro tM rfl;intro au;refine⟨fun b s2=>b=true∧s2=S++[.list (([l / 2,r / 2].take n).map fun j:Nat=>.int j)],fun a6 a7=>a7 _ _ ⟨rfl,rfl⟩,?_,fun Y h=>by cases h.1⟩;intro _;refine ar ?_;rintro _ rfl;have w3:∀z:Nat,(z:Int).fdiv 2=((z / 2:Nat):Int):=fun z=>xt z 2
       match n,au with
       |0,au=>
        cases au
        walk_at "V"
        refine⟨⟨by decide,by decide⟩,oQ (by simp) ⟨by decide,?_⟩⟩;rw[w3];rfl
       |1,au=>
        cases au
        walk_at "V"
        refine⟨⟨by decide,by decide⟩,oQ (by simp) ⟨by decide,?_⟩⟩;rw[w3];rfl
       |n+2,au=>simp at au
      ·intro n s;refine ar ?_;rintro tM rfl;intro hle;have:n=2:=by simp at hle;exact Nat.le_antisymm (aI (.a .p (.k 2) (.l .p (.k 2))) rfl tM) (aI (.a (.k 2) .p (.l (.k 2) .p)) rfl hle)
       subst this
       have ae:listAt (.ref (st.length+1)) (S++[.list ([.int (l / 2:Nat),.int (r / 2:Nat)])])=some (ws.map fun j:Nat=>.int j):=by
        rw[←dc,List.append_assoc];exact cH (kM st _ 1)
       show v7 (.ref (st.length+1)) (.ref S.length) _ (S++[.list ([.int (l / 2:Nat),.int (r / 2:Nat)])]);have EP:S.length=st.length+(2+s'.length):=by rw[←dc];simp;exact Nat.le_antisymm (aI (.l (.b (.b .p)) (.a (.k 2) .p)) rfl) (aI (.l (.a (.k 2) .p) (.b (.b .p))) rfl)
       refine rM ae (iN ..) ⟨⟨by exact fun ay=>aA (.i (-1) (.e .p (.a .q (.a (.k 2) .r))) (.i (-1) (.e (.b .q) .p) .f)) rfl EP ay,?_,by simp⟩,?_⟩
       ·simp only[List.length_append,List.length_cons,List.length_nil,List.length_map]at aU ⊢;exact aA (.i 999998 (.l .q (.k 100)) (.i 999998 (.l .r .q) (.i 499999 (.l (.a (.a .p (.b .z)) .r) (.b (.m 3 .r))) (.G 99 (.l (.a .p (.b (.b .z))) (.k 1000000)))))) rfl hlen av aU
       ·walk_at "V"
        refine⟨_,?_,ws++[l / 2,r / 2],ss++[x],_,s'++[.list ([.int (l / 2:Nat),.int (r / 2:Nat)])],rfl,?_,xn,rfl,?_,?_⟩
        ·simp only[List.length_append,List.length_cons,List.length_nil,List.length_map]at aU g4 ⊢;exact cB (.i 3 (.l .s (.a .r .t)) (.i 3 (.e (.a .p (.a .t (.b .z))) .s) (.t (.a (.m 3 .p) (.a .q (.b (.b .z)))) (.a (.m 3 .r) (.a .q (.b .z)))))) rfl (b5 _ _) (Nat.sub_add_cancel (aq (.a (.a .p (.b .z)) .q (.l (.a .p (.b .z)) .q)) rfl g4))
        ·rw[←dc,List.append_assoc,nH];simp
        ·simp only[List.length_append,List.length_cons,List.length_nil,List.length_map]at aU g4 ⊢;exact aq (.a (.a (.a .p (.b .z)) .q) (.b (.m 3 .q)) (.l (.a (.a .p (.b (.b .z))) (.a .q (.b .z))) (.b (.m 3 (.a .q (.b .z)))))) rfl aU
        ·intro s hs;rcases List.mem_append.mp hs with hs|hs
         ·exact aJ s hs
         ·rw[List.mem_singleton.mp hs];exact⟨l,r,e⟩
   ·refine⟨_,?_,ws,ss,_,_,rfl,rfl,D.skip ?_,rfl,?_,aJ⟩
    ·simp only[List.length_append,List.length_cons,List.length_nil,List.length_map]at aU ⊢;exact aq (.t (.a (.m 3 .p) .q) (.a (.m 3 .p) (.a .q (.b .z)))) rfl
    ·by_cases ae:(x:Int)∈c
     ·exact .inl ae
     ·by_cases af:x∈ss
      ·exact .inr (.inl af)
      ·by_cases aH:x=0
       ·exact .inr (.inr aH)
       ·exact absurd ⟨ae,af,aH⟩ h
    ·simp only[List.length_append,List.length_cons,List.length_nil,List.length_map]at aU ⊢;exact aq (.a (.a (.a .p (.b .z)) .q) (.b (.m 3 .q)) (.l (.a .p .q) (.b (.m 3 .q)))) rfl aU
  ·exact fun l s h=>a7 _ _ h
 ·intro _ _;refine bG ?_;intro ss fv s';refine cI ?_;rintro rfl rfl D aJ;have av:=D.bound b7 hi;refine a8 ?_
  walk_at "V"
  refine .inl ⟨_,.inl (eL ss [] s'),by rw[List.length_map];exact aq (.i 10000 (.l .q (.k 100)) (.i 10000 (.l .p .q) (.l .p (.k 1000000)))) rfl hlen av,fun ys eu=>?_⟩;have iG:(gT ss).map (·.1)=ss.map fun j:Nat=>(j:Int):=by unfold gT;rw[List.map_map];rfl
  refine aj ?_ (KC D.nodup (show jk EA ((gT ss).map (·.1)) ys by rw[iG];exact eu));intro zs;refine aY ?_;rintro rfl ae af;have:=ay (D.cut b7 aJ) zs (.list (ss.map fun j:Nat=>.int j)::.list []::s') ae fun j=>by rw[af,D.done]
  rw[List.map_map]
  walk_at "V"
  rw[List.length_append];exact this
end Mine
end
section
set_option maxHeartbeats 2000000
namespace Mine
variable{prog:Program}{w:World}{B:Heap}{k:Nat}
noncomputable def uT(n:Nat)(rows:List (List Int))(node:Nat):List (List Int):=rows++(rows.filter fun r=>decide (r.length<n)).map fun r=>r++[(node:Int)]
noncomputable def ig(m n:Nat):List (List Int):=(List.range m).foldl (fun rows i=>uT n rows (i+1)) [[]]
theorem xx(m n:Nat):ig (m+1) n=uT n (ig m n) (m+1):=by unfold ig;rw[List.range_succ,List.foldl_append];rfl
theorem KY(n:Nat):∀m,(ig m n).length≤2^m
 |0=>Nat.le_refl _
 |m+1=>by
  have ih:=KY n m;rw[xx];unfold uT;rw[List.length_append,List.length_map];have:=List.length_filter_le (fun r:List Int=>decide (r.length<n)) (ig m n);rw[Nat.pow_succ];exact M4 ih this
theorem ET(n:Nat):∀m,∀r∈ig m n,r.length≤m
 |0,r,h=>by
  have:r=[]:=List.mem_singleton.mp h;subst this;simp
 |m+1,r,h=>by
  rw[xx]at h;rcases List.mem_append.mp h with h|h
  ·have:=ET n m r h;exact aq (.a .p .q (.l .p (.b .q))) rfl this
  ·refine aj ?_ (List.mem_map.mp h);intro c5;refine ar ?_;rintro j6 rfl;have:=ET n m c5 (List.mem_filter.mp j6).1;rw[List.length_append];simp;exact aq (.a .p .q (.l .p .q)) rfl this
noncomputable abbrev EU(xs:List ah)(Q:∀Y:ah,∀Y:St,Prop) (st:St):Prop:=∃(m n:Nat),xs=[.range 1 ((m:Int)+1),.int n]∧m≤10∧∀s',Q (.ref (st.length+s'.length)) (st++s'++[.list ((ig m n).map aT)])
theorem EV{a:Addr}(F:dU B 24 a)(G:ic B):b9 prog w B (k+1) (.ref a) EU:=by
 have dM:=G.len;refine@dU.iB prog w B k _ _ _ _ 2 4 F (by decide+kernel) G.er (by decide+kernel) (by decide+kernel) (aZ (dg (i:=2) (jc (aR (lT bg) bg)) (by kernel_rfl) (cj (by decide+kernel))) (aZ (j5 (i:=3) (aw (i:=0) (by kernel_rfl)) (aZ (dg (i:=2) (cY pg (aw (i:=2) (by kernel_rfl)) (mL (xi:=1) (aw (i:=2) (by kernel_rfl)) (za (c6 qy (bL dM (.inl ⟨_,rfl⟩) fD (aR (aw (i:=1) (by kernel_rfl)) bg) (by kernel_rfl) (by decide+kernel)) (aw (i:=2) (by kernel_rfl)))) (cY pg (aw (i:=1) (by kernel_rfl)) (lT (aR (aw (i:=3) (by kernel_rfl)) bg))) (by decide+kernel) (by kernel_rfl))) (by kernel_rfl) (cj (by decide+kernel))) bM) (by kernel_rfl) (cj (by decide+kernel))) (aZ (eF (aw (i:=2) (by kernel_rfl))) bM))) ?_;intro xs Q st;refine bZ ?_;intro m n;refine aY ?_;rintro rfl hm q;refine⟨rfl,?_⟩
 walk_at "V"
 refine a8 ?_
 walk_at "V"
 refine⟨by decide,by decide,?_⟩
 walk_at "V"
 refine lC (fun l s=>∃s' nJ,l=[some (.range 1 ((m:Int)+1)),some (.int n),some (.ref (st.length+s'.length)),nJ]∧s=st++s'++[.list ((ig m n).map aT)]) (fun a6 a7 Y Y=>?_) ?_
 ·refine ki (fun v s=>v=.range 1 ((m:Int)+1)∧s=st++[.list [aT []]]) (fun a6 a7=>a7 _ _ ⟨rfl,rfl⟩) ?_;intro _ _;refine ar ?_;rintro rfl rfl;refine⟨(List.range (((m:Int)+1)-1).toNat).map fun i=>.int (1+(i:Nat)),fun j l s=>∃s' nJ,l=[some (.range 1 ((m:Int)+1)),some (.int n),some (.ref (st.length+s'.length)),nJ]∧s=st++s'++[.list ((ig j n).map aT)]∧j≤m,⟨[],none,rfl,by simp[ig],Nat.zero_le _⟩,?_,?_,?_⟩
  ·intro j l s _;exact sO (by exact ik (.L (.k (-1000000)) (.k 1)) rfl) (by exact ik (.L (.k 1) (.k 1000000)) rfl) (by exact aI (.L (.k (-1000000)) (.a (.n .p) (.k 1))) rfl) (by exact aI (.i 999999 (.l .p (.k 10)) (.G 9 (.L (.a (.n .p) (.k 1)) (.k 1000000)))) rfl hm)
  ·intro j l s y;refine bZ ?_;intro s' nJ;refine aY ?_;rintro rfl rfl aP;intro au
   have ro:j<m:=by
    have:=(List.getElem?_eq_some_iff.mp au).1;simp at this;exact aq (.b .p .q (.t .p .q)) rfl this
   rw[List.getElem?_map,List.getElem?_range (by exact aA (.b .p .r (.A (.s (.a (.n .r) (.k 1)) (.k 1)) (.n .q) (.t .p .q))) rfl ro (Int.self_le_toNat ((((_:Nat):Int)+(1:Int))-(1:Int))))]at au
   have nM:y=.int ((j+1:Nat):Int):=by
    have:=Option.some.inj au;rw[←this];show ah.int (1+(j:Int))=_;have e:(1:Int)+(j:Nat)=((j+1:Nat):Int):=by exact Br
    rw[e]
   subst nM;have gP:=KY n j;have KZ:=ET n j;have af:(2:Nat)^j≤1024:=Nat.le_trans (Nat.pow_le_pow_right (n:=2) (by decide) (show j≤10 by exact aq (.i 10 (.l .q (.k 10)) (.i 10 (.t .p .q) (.G 8 (.l .p (.k 10))))) rfl hm ro)) (by decide);have Ac:=xx j n;generalize ig j n=rows at gP KZ Ac ⊢
   walk_at "V"
   refine a8 ?_
   walk_at "V"
   have K0:∀g,listAt (.ref (st.length+s'.length)) (st++s'++[.list (rows.map aT)]++g)=some (rows.map aT):=fun g=>by
    refine jA (cH ?_) g;rw[←List.length_append];exact jz _ _
   refine nI [none,none,some (.int n),some (.int ((j+1:Nat):Int))] (by kernel_rfl) (fun v s=>v=.ref (st.length+s'.length)∧s=st++s'++[.list (rows.map aT)]) (fun a6 a7=>?_) ?_
   ·walk_at "V"
    exact a7 _ _ ⟨rfl,rfl⟩
   ·intro _ _;refine ar ?_;rintro rfl rfl;refine(cE (rows.map aT) (fun i s=>s=st++s'++[.list (rows.map aT)]++[.list ((((rows.take i).filter fun r=>decide (r.length<n)).map fun r=>r++[((j+1:Nat):Int)]).map aT)]) ⟨rfl,?_,?_,?_⟩)
    ·rintro i s rfl;exact uL (K0 _)
    ·rintro i s y rfl au;have hi:i<rows.length:=by simpa using(List.getElem?_eq_some_iff.mp au).1
     rw[List.getElem?_map,List.getElem?_eq_getElem hi]at au;cases au
     have mW:=KZ _ (List.getElem_mem hi);have f9:rows.take (i+1)=rows.take i++[rows[i]]:=by rw[List.take_add_one,List.getElem?_eq_getElem hi];rfl
     have km:((rows.take i).filter fun r=>decide (r.length<n)).length≤1024:=Nat.le_trans (List.length_filter_le ..) (Nat.le_trans (List.length_take_le' ..) (by exact aq (.a .q (.k 1024) (.a .p .q (.l .p (.k 1024)))) rfl af gP));have AL:((rows.take (i+1)).filter fun r=>decide (r.length<n))=((rows.take i).filter fun r=>decide (r.length<n))++[rows[i]].filter fun r=>decide (r.length<n):=by rw[f9,List.filter_append]
     generalize ((rows.take i).filter fun r=>decide (r.length<n))=dD at km AL ⊢;clear f9;generalize rows[i]=r at mW AL ⊢;refine⟨fun b s2=>b=decide (r.length<n)∧s2=st++s'++[.list (rows.map aT)]++[.list ((dD.map fun r=>r++[((j+1:Nat):Int)]).map aT)],fun a6 a7=>?_,?_,?_⟩
     ·walk_at "V"
      refine mU (by exact aA (.i 111111 (.l .q (.k 10)) (.i 111111 (.t .r .q) (.i 111111 (.l .p .r) (.t .p (.k 1000000))))) rfl hm ro mW) ?_
      walk_at "V"
      refine a7 _ _ ⟨?_,rfl⟩;by_cases h:r.length<n
      ·rw[decide_eq_true h,decide_eq_true];exact aq (.b .p .q (.T (.n .p) (.n .q))) rfl h
      ·rw[decide_eq_false h,decide_eq_false];exact aq (.n (.t .p .q) (.o (.T (.n .p) (.n .q)))) rfl h
     ·intro _;refine ar ?_;rintro av rfl
      walk_at "V"
      refine⟨by decide,by show(r.map ah.int).length+1≤_;rw[List.length_map];exact aA (.i 111111 (.l .q (.k 10)) (.i 111111 (.t .r .q) (.i 111111 (.l .p .r) (.l (.b .p) (.k 1000000))))) rfl hm ro mW,oQ (by rw[List.length_map,List.length_map];exact eZ km rfl) ?_⟩;rw[AL,List.filter_cons,if_pos av.symm];simp[aT]
     ·intro _;refine ar ?_;rintro av rfl;rw[AL,List.filter_cons,if_neg (by rw[←av];exact Bool.false_ne_true)];simp
    ·rintro i s rfl hle;have ae:rows.take i=rows:=List.take_of_length_le (by simpa using hle);rw[ae];have km:(rows.filter fun r=>decide (r.length<n)).length≤rows.length:=List.length_filter_le ..;refine rM (K0 _) (iN ..) ⟨by simp only[List.length_map];exact aA (.i 15625 (.l .r (.k 1024)) (.i 15625 (.l .p .r) (.i 16 (.l .q .p) (.G 15 (.l (.a .p .q) (.k 1000000)))))) rfl af gP km,?_⟩
     walk_at "V"
     refine(cE (s'++[.list (rows.map aT)]++[.list (((rows.filter fun r=>decide (r.length<n)).map fun r=>r++[((j+1:Nat):Int)]).map aT)]) (some (.int ((j+1:Nat):Int))) ⟨?_,?_,ro⟩)
     ·rw[show(st++s'++[bB.list (rows.map aT)]++[bB.list (((rows.filter fun r=>decide (r.length<n)).map fun r=>r++[((j+1:Nat):Int)]).map aT)]).length=st.length+(s'++[bB.list (rows.map aT)]++[bB.list (((rows.filter fun r=>decide (r.length<n)).map fun r=>r++[((j+1:Nat):Int)]).map aT)]).length by simp]
     ·rw[Ac];unfold uT;rw[List.map_append];simp
  ·intro j l s;refine bZ ?_;intro s' nJ;refine aY ?_;rintro rfl rfl aP;intro hle
   have:j=m:=by
    simp at hle;exact Bu aP hle
   subst this;exact a7 _ _ (cE s' _ ⟨rfl,rfl⟩)
 ·intro l s;refine bZ ?_;intro s' nJ;refine ar ?_;rintro rfl rfl;refine a8 ?_
  walk_at "V"
  exact q s'
end Mine
end
section
set_option maxHeartbeats 2000000
namespace Mine
variable{prog:Program}{w:World}{B:Heap}{ak:dB}{k:Nat}
theorem UG{p:Pos}:b3 prog w B ak k (.Dict [] [] p) fun Q Y st=>Q (.ref st.length) (st++[.j0 []]):=by
 intro A env s am loc st Q aL R S q;exact wpAny_Dict_empty (BH (tk:=s.toks) (po:=.j0 []) S ⟨[],(cF _ (#[]) 0 ⟨Heap.get?_push_size _ rfl,⟨rfl,rfl,rfl⟩,rfl,rfl,by simp,.nil⟩),.nil⟩ q)
noncomputable def UH:∀Y:List Stmt,List Stmt
 |.ClassDef _ _ _ b ..::_=>b
 |_=>[]
noncomputable def iP(j:Nat):DefRec:=ofStmt ((UH (PySem.Challenge.pw_nn0309_01.main.body.drop 17)).drop j)
structure Meth(B:Heap)(bS:∀Y:Str,Option Value) (j:Nat) (a:Addr) (of:Obj) (fd:FuncData):Prop where
 xy:bS (iP j).name=some (.ref a)
 at_:B.get? a=some of
 cls:of.cls=.type "function"
 data:of.data=.func fd
 fn:wa B a fd (mq (iP j)) (iP j).body (iP j).scope
theorem Meth.iB{bS:∀Y:Str,Option Value} {j:Nat} {a:Addr} {of:Obj} {fd:FuncData} {P:d8} {dJ:∀Y:List ah,∀Y:(∀Y:ah,∀Y:St,Prop),∀Y:St,Prop} (n sd:Nat) (F:Meth B bS j a of fd) (dh:wb (mq (iP j)) (iP j).scope=true) (er:B.NoLimit) (aS:(mq (iP j)).length=n) (aW:(varNames (iP j).scope.names).length=sd)
 (av:kA prog w B (g5 (iP j).scope.names) k (iP j).body P) (aQ:∀xs Q st,∀Y:dJ xs Q st,yT n sd P xs Q st):b9 prog w B (k+1) (.ref a) dJ:=by
 subst aS aW;exact b9.imp (Ca F.fn dh er none (fun Y h=>nomatch h) av) aQ
noncomputable def uU(nn bH no bJ:Nat):List (Str×ah):=[("table",.ref bJ),("outputs",.ref no),("inputs",.ref bH),("nodes",.ref nn)]
structure gf(aF:Addr)(s:St)(v:ah)(g:List Node)(nn bH bJ:Nat):Prop where
 dD:∃d no,jf aF v s=some (d,uU nn bH no bJ)
 nodes:s[nn]?=some (.list (g.map fy))
 inputs:∃xs,s[bH]?=some (.list xs)∧xs.length≤g.length
 table:∃kvs,s[bJ]?=some (.j0 kvs)∧kvs.length≤g.length∧∀key x,∀Y:j7 key kvs=some x,∃node:Nat,x=.int node∧node<g.length
 ne:nn≠bH
 valid:gR g
noncomputable def Agree(ch:List Nat)(s s':St):Prop:=∀j o,∀Y:j∉ch,∀Y:s[j]?=some o,s'[j]?=some o
theorem Agree.refl(ch:List Nat)(s:St):Agree ch s s:=fun Y Y Y h=>h
theorem Agree.trans{ch:List Nat}{s s' fj:St}(x:Agree ch s s')(y:Agree ch s' fj):Agree ch s fj:=fun j o aP h=>y j o aP (x j o aP h)
theorem Agree.app(ch:List Nat)(s g:St):Agree ch s (s++g):=fun Y Y Y h=>dS h g
theorem Agree.set{ch:List Nat}{s:St}{n:Nat}(h:n∈ch)(o:bB):Agree ch s (s.set n o):=fun j p aP aQ=>by
 have:n≠j:=fun e=>aP (by rw[←e];exact h);rw[List.getElem?_set_ne this];exact aQ
theorem gf.agree{aF:Addr}{s s':St}{v:ah}{g:List Node}{nn bH bJ:Nat}{ch:List Nat}(x:gf aF s v g nn bH bJ)(a:Agree ch s s')(aD:∀j∈ch,∃xs,s[j]?=some (.list xs)) (ae:nn∉ch) (af:bH∉ch):gf aF s' v g nn bH bJ:=by
 refine bZ ?_ x.dD;intro d no bq;refine aj ?_ (tS bq);intro i;refine aY ?_;rintro rfl aS aW;refine aj ?_ x.inputs;intro xs;refine ar ?_;intro hi fc;refine aj ?_ x.table;intro kvs;refine ar ?_;intro bf aC
 have off:∀{j:Nat}{o:bB},∀Y:s[j]?=some o,∀Y:(∀xs,o≠.list xs),j∉ch:=fun{j o} e az hm=>by
  refine aj ?_ (aD j hm);intro xs cA;rw[e]at cA;exact az xs (Option.some.inj cA)
 exact⟨(cE d no (sj (a _ _ (off aS fun Y q=>nomatch q) aS) (a _ _ (off aW fun Y q=>nomatch q) aW))),a _ _ ae x.nodes,⟨xs,a _ _ af hi,fc⟩,⟨kvs,a _ _ (off bf fun Y q=>nomatch q) bf,aC⟩,x.ne,x.valid⟩
theorem gf.kj{aF:Addr}{s:St}{v:ah}{g:List Node}{nn bH bJ:Nat}(x:gf aF s v g nn bH bJ):kj aF v s=some (g.map fy):=by
 refine bZ ?_ x.dD;intro d no bq;have e:(uU nn bH no bJ).lookup (Str.ofString "nodes")=some (.ref nn):=by kernel_rfl
 exact J6 bq e (cH x.nodes)
theorem gf.AM{aF:Addr}{s:St}{v:ah}{g:List Node}{nn bH bJ:Nat}{Q:∀Y:ah,∀Y:St,Prop} (x:gf aF s v g nn bH bJ) (q:Q (.ref nn) s):sq aF (Str.ofString "nodes") v Q s:=by
 refine bZ ?_ x.dD;intro d no bq;have e:(uU nn bH no bJ).lookup (Str.ofString "nodes")=some (.ref nn):=by kernel_rfl
 exact Av bq e q
theorem gf.UI{aF:Addr}{s:St}{v:ah}{g:List Node}{nn bH bJ:Nat}{Q:∀Y:ah,∀Y:St,Prop} (x:gf aF s v g nn bH bJ) (q:Q (.ref bH) s):sq aF (Str.ofString "inputs") v Q s:=by
 refine bZ ?_ x.dD;intro d no bq;have e:(uU nn bH no bJ).lookup (Str.ofString "inputs")=some (.ref bH):=by kernel_rfl
 exact Av bq e q
theorem gf.K1{aF:Addr}{s:St}{v:ah}{g:List Node}{nn bH bJ:Nat}{Q:∀Y:ah,∀Y:St,Prop} (x:gf aF s v g nn bH bJ) (q:Q (.ref bJ) s):sq aF (Str.ofString "table") v Q s:=by
 refine bZ ?_ x.dD;intro d no bq;have e:(uU nn bH no bJ).lookup (Str.ofString "table")=some (.ref bJ):=by kernel_rfl
 exact Av bq e q
theorem gf.rq{aF:Addr}{s:St}{v:ah}{g:List Node}{nn bH bJ:Nat}{name:Str}(x:gf aF s v g nn bH bJ)(h:∀no,(uU nn bH no bJ).lookup name=none):y9 aF name v s:=by
 refine bZ ?_ x.dD;intro d no bq;exact fS bq (h no)
noncomputable def Lit(g:List Node)(l:Nat):Prop:=l / 2<g.length
noncomputable abbrev kn(aF:Addr)(cost EK:Nat)(xs:List ah)(Q:∀Y:ah,∀Y:St,Prop) (st:St):Prop:=∃(v:ah)(g:List Node)(nn bH bJ:Nat)(ls:List Nat),xs=v::ls.map (fun l:Nat=>.int l)∧ls.length=EK∧gf aF st v g nn bH bJ∧g.length+cost≤90∧(∀l∈ls,Lit g l)∧
 ∀s' cL(x:Nat),∀Y:gf aF s' v cL nn bH bJ,∀Y:g.length≤cL.length,∀Y:cL.length≤g.length+cost,∀Y:Agree [nn,bH,bJ] st s',∀Y:Lit cL x,Q (.int x) s'
noncomputable def flip(l:Nat):Nat:=if l % 2=1 then l-1 else l+1
theorem uV(l:Nat):Builtin.bitXor (l:Int) 1=(flip l:Int):=by
 have e:Builtin.bitXor (l:Int) 1=(l:Int)+1-2*Builtin.bitAnd (l:Int) 1:=by
  unfold Builtin.bitXor;rw[bitOr_and];exact Int.le_antisymm (ck (.L (.s (.s (.a (.n .p) (.k 1)) .p) .p) (.s (.a (.n .p) (.k 1)) (.m 2 .p))) rfl [_] [_]) (ck (.L (.s (.a (.n .p) (.k 1)) (.m 2 .p)) (.s (.s (.a (.n .p) (.k 1)) .p) .p)) rfl [_] [_])
 rw[e,Kc];unfold flip
 split<;>lia
theorem xor_zero(l:Nat):Builtin.bitXor (l:Int) 0=(l:Int):=by
 have e:Builtin.bitXor (l:Int) 0=(l:Int)+0-2*Builtin.bitAnd (l:Int) 0:=by
  unfold Builtin.bitXor;rw[bitOr_and];exact Int.le_antisymm (ck (.L (.s (.s (.a (.n .p) (.k 0)) .p) .p) (.s (.a (.n .p) (.k 0)) (.m 2 .p))) rfl [_] [_]) (ck (.L (.s (.a (.n .p) (.k 0)) (.m 2 .p)) (.s (.s (.a (.n .p) (.k 0)) .p) .p)) rfl [_] [_])
 rw[e,PyProof.Rows.bitAnd_zero];exact Int.le_antisymm (aI (.L (.s (.a (.n .p) (.k 0)) (.m 2 (.k 0))) (.n .p)) rfl) (aI (.L (.n .p) (.s (.a (.n .p) (.k 0)) (.m 2 (.k 0)))) rfl)
theorem xA{g:List Node}{l:Nat}(h:Lit g l):Lit g (flip l):=by
 unfold Lit flip at*
 split<;>lia
theorem gf.K2{aF:Addr}{s:St}{v:ah}{g cL:List Node}{nn bH bJ:Nat}(x:gf aF s v g nn bH bJ)(b7:gR cL)(aD:g.length≤cL.length):gf aF (s.set nn (.list (cL.map fy))) v cL nn bH bJ:=by
 refine bZ ?_ x.dD;intro d no bq;refine aj ?_ (tS bq);intro i;refine aY ?_;rintro rfl aS aW;refine aj ?_ x.inputs;intro xs;refine ar ?_;intro hi fc;refine aj ?_ x.table;intro kvs;refine aY ?_;intro bf aK aC
 have off:∀{j:Nat}{o:bB},∀Y:s[j]?=some o,∀Y:(∀xs,o≠.list xs),nn≠j:=fun{j o} e az hm=>by
  rw[←hm,x.nodes]at e;exact az _ (Option.some.inj e).symm
 refine⟨(cE d no (sj (by rw[List.getElem?_set_ne (off aS fun Y q=>nomatch q)];exact aS) (by rw[List.getElem?_set_ne (off aW fun Y q=>nomatch q)];exact aW))),List.getElem?_set_self (List.getElem?_eq_some_iff.mp x.nodes).1,⟨xs,by rw[List.getElem?_set_ne x.ne];exact hi,by exact aA (.a .r .q (.a .p .r (.l .p .q))) rfl aD fc⟩,
  ⟨kvs,by rw[List.getElem?_set_ne (off bf fun Y q=>nomatch q)];exact bf,by exact aA (.a .r .q (.a .p .r (.l .p .q))) rfl aD aK,fun key y e=>?_⟩,x.ne,b7⟩
 refine aj ?_ (aC key y e);intro node;refine ar ?_;intro cz jg;exact⟨node,cz,by exact aA (.a .r .q (.b .p .r (.t .p .q))) rfl aD jg⟩
theorem gf.UJ{aF:Addr}{s:St}{v:ah}{g:List Node}{nn bH bJ:Nat}(x:gf aF s v g nn bH bJ)(ys:List ah)(au:ys.length≤g.length):gf aF (s.set bH (.list ys)) v g nn bH bJ:=by
 refine bZ ?_ x.dD;intro d no bq;refine aj ?_ (tS bq);intro i;refine aY ?_;rintro rfl aS aW;refine aj ?_ x.inputs;intro xs;refine ar ?_;intro hi fc;refine aj ?_ x.table;intro kvs;refine ar ?_;intro bf aC
 have off:∀{j:Nat}{o:bB},∀Y:s[j]?=some o,∀Y:(∀xs,o≠.list xs),bH≠j:=fun{j o} e az hm=>by
  rw[←hm,hi]at e;exact az _ (Option.some.inj e).symm
 exact⟨(cE d no (sj (by rw[List.getElem?_set_ne (off aS fun Y q=>nomatch q)];exact aS) (by rw[List.getElem?_set_ne (off aW fun Y q=>nomatch q)];exact aW))),by rw[List.getElem?_set_ne (Ne.symm x.ne)];exact x.nodes,⟨ys,List.getElem?_set_self (List.getElem?_eq_some_iff.mp hi).1,au⟩,
  ⟨kvs,by rw[List.getElem?_set_ne (off bf fun Y q=>nomatch q)];exact bf,aC⟩,x.ne,x.valid⟩
theorem K3(i j:List Int)(v:ah):∀kvs:List (List Int×ah),j7 i (kD j v kvs)=if j=i then some v else j7 i kvs
 |[]=>rfl
 |(y,u)::r=>by
  unfold kD;by_cases h:y=j
  ·rw[if_pos h];subst h;show(if y=i then some v else j7 i r)=if y=i then some v else(if y=i then some u else j7 i r)
   by_cases af:y=i
   ·rw[if_pos af,if_pos af]
   ·rw[if_neg af,if_neg af,if_neg af]
  ·rw[if_neg h];show(if y=i then some u else j7 i (kD j v r))=if j=i then some v else(if y=i then some u else j7 i r)
   rw[K3 i j v r];by_cases af:y=i
   ·have aH:¬j=i:=fun q=>h (af.trans q.symm);rw[if_pos af,if_pos af,if_neg aH]
   ·rw[if_neg af,if_neg af]
theorem K4(j:List Int)(v:ah):∀kvs:List (List Int×ah),(kD j v kvs).length≤kvs.length+1
 |[]=>by simp[kD]
 |(y,u)::r=>by
  unfold kD
  split
  ·simp
  ·have:=K4 j v r;simp only[List.length_cons];exact aq (.a .p (.b .q) (.l (.b .p) (.b (.b .q)))) rfl this
theorem gf.UK{aF:Addr}{s:St}{v:ah}{g:List Node}{nn bH bJ:Nat}(x:gf aF s v g nn bH bJ)(kvs:List (List Int×ah))(ae:kvs.length≤g.length)(af:∀key y,∀Y:j7 key kvs=some y,∃node:Nat,y=.int node∧node<g.length):gf aF (s.set bJ (.j0 kvs)) v g nn bH bJ:=by
 refine bZ ?_ x.dD;intro d no bq;refine aj ?_ (tS bq);intro i;refine aY ?_;rintro rfl aS aW;refine aj ?_ x.inputs;intro xs;refine ar ?_;intro hi fc;refine aj ?_ x.table;intro xq;refine ar ?_;intro bf aC
 have off:∀{j:Nat}{o:bB},∀Y:s[j]?=some o,∀Y:(∀xs,o≠.j0 xs),bJ≠j:=fun{j o} e az hm=>by
  rw[←hm,bf]at e;exact az _ (Option.some.inj e).symm
 exact⟨(cE d no (sj (by rw[List.getElem?_set_ne (off aS fun Y q=>nomatch q)];exact aS) (by rw[List.getElem?_set_ne (off aW fun Y q=>nomatch q)];exact aW))),by rw[List.getElem?_set_ne (off x.nodes fun Y q=>nomatch q)];exact x.nodes,⟨xs,by rw[List.getElem?_set_ne (off hi fun Y q=>nomatch q)];exact hi,fc⟩,
  ⟨kvs,List.getElem?_set_self (List.getElem?_eq_some_iff.mp bf).1,ae,af⟩,x.ne,x.valid⟩
theorem gR.snoc{g:List Node}(h:gR g)(aD:g.length<100)(d4:Node)(az:∀l r,∀Y:d4=some (l,r),l / 2<g.length∧r / 2<g.length∧2≤l∧2≤r∧l<1000∧r<1000):gR (g++[d4]):=by
 have aM:=(List.getElem?_eq_some_iff.mp h.zero).1;refine⟨by rw[List.getElem?_append_left aM];exact h.zero,by rw[List.length_append];simp;exact qm aD rfl,fun i l r e=>?_⟩;by_cases hi:i<g.length
 ·rw[List.getElem?_append_left hi]at e;exact h.iO i l r e
 ·rw[List.getElem?_append_right (by lia)]at e
  have aU:i-g.length=0:=by
   have:=(List.getElem?_eq_some_iff.mp e).1;simp at this;lia
  rw[aU]at e;refine aY ?_ (az l r (Option.some.inj e));intro a1 a2 cW;exact⟨by exact aA (.n (.t .q .r) (.b .p .r (.t .p .q))) rfl hi a1,by exact aA (.n (.t .q .r) (.b .p .r (.t .p .q))) rfl hi a2,cW⟩
theorem EW{a aF:Nat}{bS:∀Y:Str,Option Value} {of:Obj} {fd:FuncData} (F:Meth B bS 1 a of fd) (G:ic B) (X:jx B aF bS) (ee:bS "nodes"=none) (dN:typeLookup (.type "object") "nodes"=pure none) (uW:bS "inputs"=none) (uX:typeLookup (.type "object") "inputs"=pure none):
 b9 prog w B (k+1) (.ref a) (kn aF 1 0):=by
 have dM:=G.len;refine@Meth.iB prog w B k _ _ _ _ _ _ _ 1 2 F (by decide+kernel) G.er (by decide+kernel) (by decide+kernel) (aZ (dg (i:=1) (bL dM (.inl ⟨_,rfl⟩) fD (aR (iL X ee dN (aw (i:=0) (by kernel_rfl))) bg) (by kernel_rfl) (by decide+kernel)) (by kernel_rfl) (cj (by decide+kernel))) (aZ (ju (jw (iL X ee dN (aw (i:=0) (by kernel_rfl))) lR)) (aZ (ju (jw (iL X uW uX (aw (i:=0) (by kernel_rfl))) (aw (i:=1) (by kernel_rfl)))) (aZ (eF (cY vR bz (aw (i:=1) (by kernel_rfl)))) bM)))) ?_;intro _ Q st;refine o3 ?_;intro v g nn bH bJ ls;refine dH ?_;rintro rfl kR aL b8 aD q;cases ls with
 |cons=>cases kR
 |nil=>
  refine⟨rfl,?_⟩
  walk_at "V"
  refine a8 ?_
  walk_at "V"
  refine aL.AM (jU (cH aL.nodes) (by rw[List.length_map];exact aI (.i 999999999 (.l (.b .p) (.k 90)) (.G 88 (.t .p (.k 1000000000)))) rfl b8) ?_);rw[List.length_map]
  walk_at "V"
  refine a8 ?_
  walk_at "V"
  refine aL.AM ⟨by rw[cH aL.nodes];rfl,append_at aL.nodes (by rw[List.length_map];exact aI (.i 1000000 (.l (.b .p) (.k 90)) (.G 88 (.l .p (.k 1000000)))) rfl b8) ⟨rfl,?_⟩⟩;have n3:g.map fy++[ah.none]=(g++[none]).map fy:=by simp[fy]
  rw[n3]
  walk_at "V"
  have EX:gR (g++[none]):=aL.valid.snoc (by exact aI (.i 99 (.l (.b .p) (.k 90)) (.G 88 (.t .p (.k 100)))) rfl b8) none fun l r e=>nomatch e;have mw:=aL.K2 EX (by simp);refine a8 ?_
  walk_at "V"
  refine aj ?_ aL.inputs;intro xs;refine ar ?_;intro UL fc;have hi:(st.set nn (.list ((g++[none]).map fy)))[bH]?=some (.list xs):=by rw[List.getElem?_set_ne aL.ne];exact UL
  refine mw.UI ⟨by rw[cH hi];rfl,append_at hi (by exact aq (.i 1000000 (.l (.b .q) (.k 90)) (.i 1000000 (.l .p .q) (.G 88 (.l .p (.k 1000000))))) rfl b8 fc) ⟨rfl,?_⟩⟩
  walk_at "V"
  refine a8 ?_
  walk_at "V"
  refine⟨⟨by decide,by lia⟩,?_⟩;have ex:(2:Int)*(g.length:Int)=((2*g.length:Nat):Int):=by exact Int.le_antisymm (aI (.L (.m 2 (.n .p)) (.n (.m 2 .p))) rfl) (aI (.L (.n (.m 2 .p)) (.m 2 (.n .p))) rfl)
  rw[ex];refine q _ (g++[none]) (2*g.length) (mw.UJ _ (by simp;exact aq (.a .p .q (.l .p .q)) rfl fc)) (by simp) (by simp) (((Agree.refl _ st).trans (Agree.set (by simp) _)).trans (Agree.set (by simp) _)) ?_;unfold Lit;simp
theorem rr{a aF:Nat}{bS:∀Y:Str,Option Value} {of:Obj} {fd:FuncData} (F:Meth B bS 4 a of fd) (G:ic B) (X:jx B aF bS) (ee:bS "nodes"=none) (dN:typeLookup (.type "object") "nodes"=pure none) (sV:bS "table"=none) (sW:typeLookup (.type "object") "table"=pure none):
 b9 prog w B (k+1) (.ref a) (kn aF 1 2):=by
 have dM:=G.len;have hs:=G.hs;refine@Meth.iB prog w B k _ _ _ _ _ _ _ 3 4 F (by decide+kernel) G.er (by decide+kernel) (by decide+kernel) (aZ (fQ (c6 cmp_gt (aw (i:=1) (by kernel_rfl)) (aw (i:=2) (by kernel_rfl))) (aZ (O3 (i:=1) (j:=2) (lT (aR (aw (i:=2) (by kernel_rfl)) (aR (aw (i:=1) (by kernel_rfl)) bg))) (by kernel_rfl) (cj (by decide+kernel)) (by kernel_rfl) (cj (by decide+kernel)) (hw:=by intro env ae af;rcases env with⟨⟨kind,names⟩⟩;cases ae;cases af;kernel_rfl)) bM) bM) (aZ (fQ (gX (c6 jK (aw (i:=1) (by kernel_rfl)) bz) (gX (c6 jK (aw (i:=1) (by kernel_rfl)) (cY qw (aw (i:=2) (by kernel_rfl)) bz)) pn)) (aZ (eF bz) bM) bM) (aZ (fQ (gX (c6 jK (aw (i:=1) (by kernel_rfl)) bz) (gX (c6 jK (aw (i:=1) (by kernel_rfl)) (aw (i:=2) (by kernel_rfl))) pn)) (aZ (eF (aw (i:=2) (by kernel_rfl))) bM) bM) (aZ (dg (i:=3) (Oz hs (iL X sV sW (aw (i:=0) (by kernel_rfl))) (lT (aR (aw (i:=1) (by kernel_rfl)) (aR (aw (i:=2) (by kernel_rfl)) bg))) (vM bz)) (by kernel_rfl) (cj (by decide+kernel))) (aZ (fQ (c6 qy (aw (i:=3) (by kernel_rfl)) bz) (aZ (dg (i:=3) (bL dM (.inl ⟨_,rfl⟩) fD (aR (iL X ee dN (aw (i:=0) (by kernel_rfl))) bg) (by kernel_rfl) (by decide+kernel)) (by kernel_rfl) (cj (by decide+kernel))) (aZ (ju (jw (iL X ee dN (aw (i:=0) (by kernel_rfl))) (lT (aR (aw (i:=1) (by kernel_rfl)) (aR (aw (i:=2) (by kernel_rfl)) bg))))) (aZ (oh (aw (i:=3) (by kernel_rfl)) (iL X sV sW (aw (i:=0) (by kernel_rfl))) (lT (aR (aw (i:=1) (by kernel_rfl)) (aR (aw (i:=2) (by kernel_rfl)) bg)))) bM))) bM) (aZ (eF (cY vR bz (aw (i:=3) (by kernel_rfl)))) bM)))))) ?_;intro _ Q st;refine o3 ?_;intro v g nn bH bJ ls;refine dH ?_;rintro rfl kR aL b8 aD q
 match ls,kR with
 |[l,r],_=>
  have jR:Lit g l:=aD l (by simp);have jC:Lit g r:=aD r (by simp);clear aD;refine⟨rfl,?_⟩
  walk_at "V"
  refine lC (fun lo s=>∃l r:Nat,lo=[some v,some (.int l),some (.int r),none]∧st=s∧l≤r∧Lit g l∧Lit g r) (fun a6 a7 Y Y=>?_) ?_
  ·refine gB (l>r) (fun a6 ae af=>?_) (fun h=>?_) fun h=>?_
   ·walk_at "V"
    exact kh (fun h=>ae (by have:=of_decide_eq_true h;lia)) fun h=>af (by have:=of_decide_eq_false h;lia)
   ·refine a8 ⟨by simp,J5 ?_⟩;exact a7 _ _ (cE r l ⟨rfl,rfl,by exact aq (.b .p .q (.l .p .q)) rfl h,jC,jR⟩)
   ·exact a7 _ _ (cE l r ⟨rfl,rfl,by exact aq (.n (.t .q .p) (.l .p .q)) rfl h,jR,jC⟩)
  ·clear jR jC;intro _ _;refine bZ ?_;intro l r;refine eY ?_;rintro rfl rfl uY jR jC;have oD:∀x:Nat,∀Y:Lit g x,Q (.int x) st:=fun x ai=>q st g x aL (Nat.le_refl _) (by exact aI (.l .p (.b .p)) rfl) (Agree.refl _ _) ai;have UM:0<g.length:=(List.getElem?_eq_some_iff.mp aL.valid.zero).1
   walk_at "V"
   refine lC (fun lo s'=>lo=[some v,some (.int l),some (.int r),none]∧st=s'∧l≠0∧l≠flip r) (fun a6 a7 sU Y=>?_) ?_
   ·refine gB (l=0∨l=flip r) (fun a6 ae af=>?_) (fun h=>?_) fun h=>?_
    ·walk_at "V"
     refine i7 (fun h=>ae (.inl (by exact Nat.le_antisymm (aI (.ak (.n .p) (.k 0) (.l .p .z)) rfl h) (aI (.l .z .p) rfl)))) fun h=>?_;rw[uV]
     walk_at "V"
     refine i7 (fun h'=>ae (.inr (by exact qn h'))) fun h'=>af ?_;rintro(q|q)<;>lia
    ·refine a8 ?_;exact sU _ _ _ (oD 0 (by unfold Lit;exact aq (.i 2 (.t .z .q) (.a (.m 2 .p) .z (.G 1 (.t .p .q)))) rfl UM (Nat.mul_div_le (0:Nat) 2)))
    ·exact a7 _ _ ⟨rfl,rfl,fun q=>h (.inl q),fun q=>h (.inr q)⟩
   ·intro _ _;refine cI ?_;rintro rfl rfl eB iS
    walk_at "V"
    refine lC (fun lo s'=>lo=[some v,some (.int l),some (.int r),none]∧st=s'∧l≠1∧l≠r) (fun a6 a7 sU Y=>?_) ?_
    ·refine gB (l=1∨l=r) (fun a6 ae af=>?_) (fun h=>?_) fun h=>?_
     ·walk_at "V"
      refine i7 (fun h=>ae (.inl (by exact Nat.le_antisymm (aI (.ak (.n .p) (.k 1) (.l .p .o)) rfl h) (aI (.i (-1) (.E (.n .p) (.k 1)) (.l .o .p)) rfl h)))) fun h=>?_;refine i7 (fun h'=>ae (.inr (by exact qn h'))) fun h'=>af ?_;rintro(q|q)<;>lia
     ·refine a8 ?_
      walk_at "V"
      exact sU _ _ _ (oD r jC)
     ·exact a7 _ _ ⟨rfl,rfl,fun q=>h (.inl q),fun q=>h (.inr q)⟩
    ·intro _ _;refine cI ?_;rintro rfl rfl p7 EY;refine aj ?_ aL.table;intro kvs;refine aY ?_;intro bf aK aO;have p8:tabAt (.ref bJ) st=some kvs:=Option.bind_eq_some_iff.mpr ⟨_,bf,rfl⟩;refine a8 ?_
     walk_at "V"
     refine aL.K1 ⟨by rw[p8];rfl,?_⟩;have hints:intsOf [ah.int (l:Nat),ah.int (r:Nat)]=some [(l:Int),(r:Int)]:=rfl;refine⟨by simp,rM p8 hints ?_⟩
     have hmul:∀{n:Nat}{iW:∀Y:ah,∀Y:St,Prop} {s':St},∀Y:n≤100,∀Y:iW (.int ((2*n:Nat):Int)) s',yI (.int 2) (.int n) iW s':=fun{n iW s'} az h=>by
      have ex:(2:Int)*(n:Int)=((2*n:Nat):Int):=by exact Int.le_antisymm (aI (.L (.m 2 (.n .p)) (.n (.m 2 .p))) rfl) (aI (.L (.n (.m 2 .p)) (.m 2 (.n .p))) rfl)
      refine⟨⟨by decide,by lia⟩,?_⟩;rw[ex];exact h
     cases bq:j7 [(l:Int),(r:Int)] kvs with
     |some x=>
      refine aj ?_ (aO _ _ bq);intro node;refine ar ?_;rintro rfl az;simp only[Option.getD_some]
      walk_at "V"
      refine a8 (gB False (fun a6 ae af=>?_) (fun h=>h.elim) fun Y=>?_)
      ·walk_at "V"
       exact kh (fun h=>by have:=of_decide_eq_true h;lia) fun Y=>af id
      ·walk_at "V"
       refine a8 ?_
       walk_at "V"
       refine hmul (by exact aq (.i 25 (.l (.b .q) (.k 90)) (.i 25 (.t .p .q) (.G 21 (.l .p (.k 100))))) rfl b8 az) ?_;exact oD (2*node) (by unfold Lit;exact aA (.i 2 (.t .r .q) (.a (.m 2 .p) (.m 2 .r) (.G 1 (.t .p .q)))) rfl az (Nat.mul_div_le ((2:Nat)*_) 2))
     |none=>
      simp only[Option.getD_none]
      walk_at "V"
      refine a8 (gB True (fun a6 ae af=>?_) (fun Y=>?_) fun h=>absurd trivial h)
      ·walk_at "V"
       exact ae trivial
      ·refine a8 ?_
       walk_at "V"
       refine aL.AM (jU (cH aL.nodes) (by rw[List.length_map];exact aI (.i 999999999 (.l (.b .p) (.k 90)) (.G 88 (.t .p (.k 1000000000)))) rfl b8) ?_);rw[List.length_map]
       walk_at "V"
       refine a8 ?_
       walk_at "V"
       refine aL.AM ⟨by rw[cH aL.nodes];rfl,by decide,append_at aL.nodes (by rw[List.length_map];exact aI (.i 1000000 (.l (.b .p) (.k 90)) (.G 88 (.l .p (.k 1000000)))) rfl b8) ⟨rfl,?_⟩⟩;have n3:g.map fy++[ah.tup [.int l,.int r]]=(g++[some (l,r)]).map fy:=by simp[fy]
       rw[n3];have k7:2≤l:=by exact(Nat.lt_or_gt_of_ne eB).elim (fun ay=>aI (.i 2 (.t .p .z) (.l (.k 2) .p)) rfl ay) (fun aE=>(Nat.lt_or_gt_of_ne p7).elim (fun bI=>aI (.i 2 (.t .z .p) (.b .p .o (.l (.k 2) .p))) rfl aE bI) (fun cM=>aI (.b .o .p (.l (.k 2) .p)) rfl cM))
       have km:¬(l % 2=0∧r=l+1):=fun⟨aS,aW⟩=>by
        apply iS;unfold flip;rw[if_pos (by exact M5 (by assumption))];exact M6 (by assumption)
       have EX:gR (g++[some (l,r)]):=aL.valid.snoc (by exact aI (.i 99 (.l (.b .p) (.k 90)) (.G 88 (.t .p (.k 100)))) rfl b8) _ fun ia c5 e=>by
        cases e
        unfold Lit at jR jC;exact⟨jR,jC,k7,by exact(Nat.lt_or_gt_of_ne eB).elim (fun ay=>aq (.i 2 (.t .q .z) (.l (.k 2) .p)) rfl ay) (fun aE=>(Nat.lt_or_gt_of_ne EY).elim (fun bI=>aq (.b .z .q (.b .q .p (.l (.k 2) .p))) rfl aE bI) (fun cM=>aq (.i 2 (.l .q .p) (.i 2 (.t .p .q) (.l (.k 2) .p))) rfl uY cM)),by exact aA (.i 666 (.l (.b .q) (.k 90)) (.i 666 (.t .r .q) (.i 333 (.t .p (.m 2 (.b .r))) (.G 58 (.t .p (.k 1000)))))) rfl b8 jR (Nat.lt_mul_div_succ _ (by decide)),by exact aA (.i 666 (.l (.b .q) (.k 90)) (.i 666 (.t .r .q) (.i 333 (.t .p (.m 2 (.b .r))) (.G 58 (.t .p (.k 1000)))))) rfl b8 jC (Nat.lt_mul_div_succ _ (by decide))⟩
       have mw:=aL.K2 EX (by simp)
       walk_at "V"
       refine a8 ?_
       walk_at "V"
       have n5:(st.set nn (.list ((g++[some (l,r)]).map fy)))[bJ]?=some (.j0 kvs):=by
        rw[List.getElem?_set_ne (fun e=>by rw[←e,aL.nodes]at bf;cases bf)];exact bf
       have UN:tabAt (.ref bJ) (st.set nn (.list ((g++[some (l,r)]).map fy)))=some kvs:=Option.bind_eq_some_iff.mpr ⟨_,n5,rfl⟩;refine mw.K1 ⟨by decide,rM UN hints ⟨by exact aq (.i 1000000 (.l (.b .q) (.k 90)) (.i 1000000 (.l .p .q) (.G 88 (.l .p (.k 1000000))))) rfl b8 aK,?_⟩⟩
       have EZ:=mw.UK (kD [(l:Int),(r:Int)] (.int (g.length:Int)) kvs) (by have:=K4 [(l:Int),(r:Int)] (.int (g.length:Int)) kvs;simp;exact aA (.a .r .q (.a .p (.b .r) (.l .p (.b .q)))) rfl aK this) (fun key y e=>by
        rw[K3]at e
        split at e
        ·cases e;exact⟨g.length,rfl,by simp⟩
        ·refine aj ?_ (aO key y e);intro node;refine ar ?_;intro aS aW;exact⟨node,aS,by simp;exact aq (.b .p .q (.t .p (.b .q))) rfl aW⟩)
       walk_at "V"
       refine a8 ?_
       walk_at "V"
       refine hmul (by exact aI (.i 100 (.l (.b .p) (.k 90)) (.G 88 (.l .p (.k 100)))) rfl b8) ?_;refine q _ (g++[some (l,r)]) (2*g.length) EZ (by simp) (by simp) (((Agree.refl _ st).trans (Agree.set (by simp) _)).trans (Agree.set (by simp) _)) ?_;unfold Lit;simp
theorem xB{a kP aF:Nat}{bS:∀Y:Str,Option Value} {of nP:Obj} {fd xC:FuncData} {xD:Option Value} (F:Meth B bS 5 a of fd) (G:ic B) (X:jx B aF bS) (jD:bS "land"=some (.ref kP)∧B.get? kP=some nP∧nP.cls=.type "function"∧nP.data=.func xC) (oU:typeLookup (.type "object") "land"=pure xD) (rr:∀k,b9 prog w B (k+1) (.ref kP) (kn aF 1 2)):
 b9 prog w B (k+2) (.ref a) (kn aF 1 2):=by
 refine@Meth.iB prog w B (k+1) _ _ _ _ _ _ _ 3 3 F (by decide+kernel) G.er (by decide+kernel) (by decide+kernel) (aZ (eF (cY qw (su (pl:=_) X jD.1 jD.2.1 jD.2.2.1 jD.2.2.2 oU (rr _) (aw (i:=0) (by kernel_rfl)) (aR (cY qw (aw (i:=1) (by kernel_rfl)) bz) (aR (cY qw (aw (i:=2) (by kernel_rfl)) bz) bg)) (by intro _;with_unfolding_all rfl)) bz)) bM) ?_;intro _ Q st;refine o3 ?_;intro v g nn bH bJ ls;refine dH ?_;rintro rfl kR aL b8 aD q
 match ls,kR with
 |[l,r],_=>
  refine⟨rfl,?_⟩
  walk_at "V"
  refine a8 ?_
  walk_at "V"
  refine⟨aL.rq fun no=>by kernel_rfl,?_⟩;rw[uV,uV];refine(qh v g nn bH bJ [flip l,flip r] ⟨rfl,rfl,aL,b8,fun x ai=>?_,fun s' cL x mF ae af aH bX=>?_⟩)
  ·simp only[List.mem_cons,List.not_mem_nil,or_false]at ai;rcases ai with rfl|rfl
   ·exact xA (aD l (by simp))
   ·exact xA (aD r (by simp))
  ·walk_at "V"
   rw[uV];exact q s' cL (flip x) mF ae af aH (xA bX)
theorem Lit.mono{g cL:List Node}{l:Nat}(h:Lit g l)(aD:g.length≤cL.length):Lit cL l:=by unfold Lit at*;exact aA (.b .p .r (.a .r .q (.t .p .q))) rfl h aD
theorem E0{a kP rt aF:Nat}{bS:∀Y:Str,Option Value} {of nP sX:Obj} {fd xC E1:FuncData} {xD E2:Option Value} (F:Meth B bS 7 a of fd) (G:ic B) (X:jx B aF bS) (jD:bS "land"=some (.ref kP)∧B.get? kP=some nP∧nP.cls=.type "function"∧nP.data=.func xC) (oU:typeLookup (.type "object") "land"=pure xD) (rr:∀k,b9 prog w B (k+1) (.ref kP) (kn aF 1 2))
 (p9:bS "lor"=some (.ref rt)∧B.get? rt=some sX∧sX.cls=.type "function"∧sX.data=.func E1) (uZ:typeLookup (.type "object") "lor"=pure E2) (xB:∀k,b9 prog w B (k+2) (.ref rt) (kn aF 1 2)):
 b9 prog w B (k+3) (.ref a) (kn aF 3 3):=by
 refine@Meth.iB prog w B (k+2) _ _ _ _ _ _ _ 4 4 F (by decide+kernel) G.er (by decide+kernel) (by decide+kernel) (aZ (fQ (c6 jK (aw (i:=2) (by kernel_rfl)) (aw (i:=3) (by kernel_rfl))) (aZ (eF (aw (i:=2) (by kernel_rfl))) bM) bM) (aZ (eF (su (pl:=_) X p9.1 p9.2.1 p9.2.2.1 p9.2.2.2 uZ (xB _) (aw (i:=0) (by kernel_rfl)) (aR (su (pl:=_) X jD.1 jD.2.1 jD.2.2.1 jD.2.2.2 oU (rr _) (aw (i:=0) (by kernel_rfl)) (aR (aw (i:=1) (by kernel_rfl)) (aR (aw (i:=3) (by kernel_rfl)) bg)) (by intro _;with_unfolding_all rfl)) (aR (su (pl:=_) X jD.1 jD.2.1 jD.2.2.1 jD.2.2.2 oU (rr _) (aw (i:=0) (by kernel_rfl)) (aR (cY qw (aw (i:=1) (by kernel_rfl)) bz) (aR (aw (i:=2) (by kernel_rfl)) bg)) (by intro _;with_unfolding_all rfl)) bg)) (by intro _;with_unfolding_all rfl))) bM)) ?_;intro _ Q st;refine o3 ?_;intro v g nn bH bJ ls;refine dH ?_;rintro rfl kR aL b8 aD q
 match ls,kR with
 |[t,x,y],_=>
  have bf:=aD t (by simp);have ai:=aD x (by simp);have au:=aD y (by simp);refine⟨rfl,?_⟩
  walk_at "V"
  refine a8 (gB (x=y) (fun a6 ae af=>?_) (fun h=>?_) fun h=>?_)
  ·walk_at "V"
   exact kh (fun h=>ae (by have:=of_decide_eq_true h;lia)) fun h=>af (by have:=of_decide_eq_false h;lia)
  ·refine a8 ?_
   walk_at "V"
   exact q st g x aL (Nat.le_refl _) (by exact aI (.l .p (.a .p (.k 3))) rfl) (Agree.refl _ _) ai
  ·walk_at "V"
   refine a8 ?_
   walk_at "V"
   refine⟨aL.rq fun no=>by kernel_rfl,aL.rq fun no=>by kernel_rfl,?_⟩;refine(qh v g nn bH bJ [t,y] ⟨rfl,rfl,aL,by exact aI (.i 89 (.l (.a .p (.k 3)) (.k 90)) (.G 86 (.l (.b .p) (.k 90)))) rfl b8,fun z aU=>?_,fun s1 g1 bW K5 a1 a2 cW dI=>?_⟩)
   ·simp only[List.mem_cons,List.not_mem_nil,or_false]at aU;rcases aU with rfl|rfl
    ·exact bf
    ·exact au
   ·walk_at "V"
    refine⟨K5.rq fun no=>by kernel_rfl,?_⟩;rw[uV];refine(qh v g1 nn bH bJ [flip t,x] ⟨rfl,rfl,K5,by exact aq (.i 89 (.l (.a .q (.k 3)) (.k 90)) (.i 89 (.l .p (.b .q)) (.G 87 (.l (.b .p) (.k 90))))) rfl b8 a2,fun z aU=>?_,fun s2 g2 cy mw jN gz kH mh=>?_⟩)
    ·simp only[List.mem_cons,List.not_mem_nil,or_false]at aU;rcases aU with rfl|rfl
     ·exact(xA bf).mono a1
     ·exact ai.mono a1
    ·walk_at "V"
     refine(qh v g2 nn bH bJ [bW,cy] ⟨rfl,rfl,mw,by exact aA (.a (.a .q (.k 3)) (.k 90) (.a .r (.b .q) (.a .p (.b .r) (.l (.b .p) (.k 90))))) rfl b8 a2 gz,fun z aU=>?_,fun fF g3 c7 EZ E3 E4 An UO=>?_⟩)
     ·simp only[List.mem_cons,List.not_mem_nil,or_false]at aU;rcases aU with rfl|rfl
      ·exact dI.mono jN
      ·exact mh
     ·exact q fF g3 c7 EZ (by exact bA (.a .p .r (.a .r .s (.a .s .q (.l .p .q)))) rfl a1 jN E3) (by exact bA (.a .r (.b .q) (.a .s (.b .r) (.a .p (.b .s) (.l .p (.a .q (.k 3)))))) rfl a2 gz E4) ((cW.trans kH).trans An) UO
end Mine
end
section
namespace Mine
noncomputable def Sub(a b:List Int):Prop:=∀x∈a,x∈b
theorem K6{a b:List Int}:(a.all fun x=>decide (x∈b))=true↔Sub a b:=by
 rw[List.all_eq_true];exact⟨fun h x ai=>of_decide_eq_true (h x ai),fun h x ai=>decide_eq_true (h x ai)⟩
theorem E5:∀{a b:List Int},∀Y:a.Nodup,∀Y:Sub a b,∀Y:b.length≤a.length,Sub b a
 |[],b,_,_,aD=>by
  have:b=[]:=List.length_eq_zero_iff.mp (by simpa using aD);subst this;exact fun x ai=>ai
 |x::a,b,az,hs,aD=>by
  have nZ:=List.nodup_cons.mp az;have UP:x∈b:=hs x (List.mem_cons_self ..)
  have ae:Sub a (b.erase x):=fun y au=>by
   have pB:y≠x:=fun e=>nZ.1 (e▸au);exact(List.mem_erase_of_ne pB).mpr (hs y (List.mem_cons_of_mem _ au))
  have af:=E5 nZ.2 ae (by rw[List.length_erase_of_mem UP];simp at aD;exact(Nat.le_total (1:Nat) _).elim (fun ay=>aA (.a .r (.b .q) (.c (.b .p) .r (.l .p .q))) rfl aD (Nat.sub_add_cancel ay)) (fun aE=>aq (.c .p .z (.l .p .q)) rfl (Nat.sub_eq_zero_of_le aE)));intro y au;by_cases e:y=x
  ·rw[e];exact List.mem_cons_self ..
  ·exact List.mem_cons_of_mem _ (af y ((List.mem_erase_of_ne e).mpr au))
theorem dK.nodup{a:List Int}(h:dK a):a.Nodup:=h.imp fun q=>by exact yf q
theorem UQ{a b:List Int}(aJ:dK a)(av:dK b)(ae:Sub a b)(af:b.length≤a.length):a=b:=
 sR aJ av fun z=>⟨ae z,E5 aJ.nodup ae af z⟩
theorem UR(ys:List (List Int)):∀aB:List (List Int),(∀k∈aB,k∈ys.foldl gc aB)∧∀c∈ys,∃d∈ys.foldl gc aB,Sub d c:=by
 induction ys with
 |nil=>exact fun aB=>⟨fun Y h=>h,fun Y h=>nomatch h⟩
 |cons y ys ih=>
  intro aB;refine ar ?_ (ih (gc aB y));intro ae af
  have g7:∀k∈aB,k∈gc aB y:=fun k aK=>by
   unfold gc
   split
   ·exact aK
   ·exact List.mem_append_left _ aK
  refine⟨fun k aK=>ae k (g7 k aK),fun c aG=>?_⟩;rcases List.mem_cons.mp aG with rfl|aG
  ·unfold gc at ae;by_cases q:(aB.any fun o=>o.all fun x=>decide (x∈c))=true
   ·refine aj ?_ (List.any_eq_true.mp q);intro o;refine ar ?_;intro bx hs;rw[if_pos q]at ae;refine⟨o,?_,K6.mp hs⟩;show o∈ys.foldl gc (gc aB c);unfold gc;rw[if_pos q];exact ae o bx
   ·rw[if_neg q]at ae;refine⟨c,?_,fun x ai=>ai⟩;show c∈ys.foldl gc (gc aB c);unfold gc;rw[if_neg q];exact ae c (List.mem_append_right _ (List.mem_singleton.mpr rfl))
  ·exact af c aG
noncomputable def u0(a b:List Int):Prop:=¬Sub a b∧¬Sub b a
theorem US(ys:List (List Int)):∀aB:List (List Int),∀Y:aB.Pairwise u0,∀Y:(∀k∈aB,dK k),∀Y:(∀y∈ys,dK y),∀Y:ys.Pairwise (fun x y=>oO y x=false),∀Y:(∀k∈aB,∀y∈ys,oO y k=false),(ys.foldl gc aB).Pairwise u0:=by
 induction ys with
 |nil=>exact fun aB h Y Y Y Y=>h
 |cons y ys ih=>
  intro aB h aK au hw aG;have K7:=List.pairwise_cons.mp hw;have K8:=au y (List.mem_cons_self ..);refine ih (gc aB y) ?_ (fun k gy=>?_) (fun z aU=>au z (List.mem_cons_of_mem _ aU)) K7.2 fun k gy z aU=>?_
  ·unfold gc
   split
   ·exact h
   ·rename_i mS;rw[List.pairwise_append];refine⟨h,List.pairwise_singleton ..,fun o bx z aU=>?_⟩;rw[List.mem_singleton.mp aU];have ae:¬Sub o y:=fun hs=>mS (List.any_eq_true.mpr ⟨o,bx,K6.mpr hs⟩);refine⟨ae,fun hs=>ae ?_⟩;have bC:=aG o bx y (List.mem_cons_self ..)
    have d5:o.length≤y.length:=by
     have af:(if y.length=o.length then gr y o else decide (y.length<o.length))=false:=bC;by_cases e:y.length=o.length
     ·exact aq (.i (-1) (.e .q .p) (.l .p .q)) rfl e
     ·rw[if_neg e]at af;have:=of_decide_eq_false af;lia
    have:=UQ K8 (aK o bx) hs d5;rw[this];exact fun x ai=>ai
  ·rcases Et gy with gy|rfl
   ·exact aK k gy
   ·exact K8
  ·rcases Et gy with gy|rfl
   ·exact aG k gy z (List.mem_cons_of_mem _ aU)
   ·exact K7.1 z aU
theorem UT{rows ys:List (List Int)}(hs:jk oO rows ys)(hi:∀r∈rows,dK r):(gD ys).Pairwise u0:=
 US ys [] .nil (fun Y h=>nomatch h) (fun y au=>hi y (hs.1.mem_iff.mp au)) hs.2 fun Y h=>nomatch h
theorem UU{ys:List (List Int)}{c:List Int}(h:c∈ys):∃d∈gD ys,Sub d c:=(UR ys []).2 c h
theorem K9{aB:List (List Int)}(h:aB.Pairwise u0):aB.Nodup:=h.imp fun{a b} q e=>q.1 (by rw[e];exact fun x ai=>ai)
theorem La{r:List Int}{x:Int}:dK (r++[x])↔dK r∧∀y∈r,y<x:=by
 unfold dK;rw[List.pairwise_append];constructor
 ·refine aY ?_;intro ae _ aH;exact⟨ae,fun y au=>aH y au x (List.mem_singleton.mpr rfl)⟩
 ·refine ar ?_;intro ae af;exact⟨ae,List.pairwise_singleton ..,fun y au z aU=>by rw[List.mem_singleton.mp aU];exact af y au⟩
theorem AN(n:Nat)(m:Nat):∀r:List Int,r∈ig m n↔dK r∧(∀x∈r,1≤x∧x≤m)∧r.length≤n:=by
 induction m with
 |zero=>
  intro r;show r∈[[]]↔_;rw[List.mem_singleton];constructor
  ·rintro rfl;exact⟨.nil,by simp,by simp⟩
  ·refine aY ?_;intro _ h _;cases r with
   |nil=>rfl
   |cons x r=>have:=h x (List.mem_cons_self ..);exact(gG (.A (.k 1) .p (.A .p (.n .z) .f)) rfl this.1 this.2:False).elim
 |succ m ih=>
  intro r;rw[xx];unfold uT;rw[List.mem_append,ih r,List.mem_map];constructor
  ·rintro(⟨ae,af,aH⟩|⟨c5,j6,rfl⟩)
   ·exact⟨ae,fun x ai=>by have:=af x ai;exact⟨gG (.A (.k 1) .p (.L (.k 1) .p)) rfl this.1,ck (.A .p (.n .p) (.L .p (.n (.b .p)))) rfl [_] [_] this.2⟩,aH⟩
   ·refine ar ?_ (List.mem_filter.mp j6);intro bX et;refine aY ?_ ((ih c5).mp bX);intro ae af aH;have fq:=of_decide_eq_true et;refine⟨La.mpr ⟨ae,fun y au=>by have:=af y au;exact ck (.A .p (.n .p) (.T .p (.n (.b .p)))) rfl [_] [_] this.2⟩,fun x ai=>?_,by rw[List.length_append];simp;lia⟩;rcases List.mem_append.mp ai with ai|ai
    ·have:=af x ai;exact⟨gG (.A (.k 1) .p (.L (.k 1) .p)) rfl this.1,ck (.A .p (.n .p) (.L .p (.n (.b .p)))) rfl [_] [_] this.2⟩
    ·rw[List.mem_singleton.mp ai];exact⟨aI (.L (.k 1) (.n (.b .p))) rfl,aI (.L (.n (.b .p)) (.n (.b .p))) rfl⟩
  ·refine aY ?_;intro ae af aH;by_cases hm:((m+1:Nat):Int)∈r
   ·right
    have cP:r≠[]:=fun e=>by rw[e]at hm;cases hm
    obtain⟨c5,x,rfl⟩:∃c5 x,r=c5++[x]:=⟨r.dropLast,r.getLast cP,(List.dropLast_concat_getLast cP).symm⟩;refine ar ?_ (La.mp ae);intro bX et
    have ai:x=((m+1:Nat):Int):=by
     rcases List.mem_append.mp hm with q|q
     ·have:=et _ q;have:=af x (by simp);exact M7 (by assumption) this
     ·exact(List.mem_singleton.mp q).symm
    refine⟨c5,List.mem_filter.mpr ⟨(ih c5).mpr ⟨bX,fun y au=>?_,?_⟩,decide_eq_true ?_⟩,by rw[ai]⟩
    ·have:=et y au;have:=af y (List.mem_append_left _ au);exact M8 ai (by assumption) this
    ·rw[List.length_append]at aH;simp at aH;exact aq (.a (.b .p) .q (.l .p .q)) rfl aH
    ·rw[List.length_append]at aH;simp at aH;exact aq (.a (.b .p) .q (.t .p .q)) rfl aH
   ·left
    refine⟨ae,fun x ai=>?_,aH⟩;have:=af x ai;have:x≠((m+1:Nat):Int):=fun e=>hm (e▸ai);exact M9 (by assumption) this
theorem E6(n:Nat):∀m,(ig m n).Nodup
 |0=>by show([[]]:List (List Int)).Nodup;simp
 |m+1=>by
  rw[xx];unfold uT;rw[List.nodup_append];refine⟨E6 n m,?_,fun a aJ b av e=>?_⟩
  ·rw[List.nodup_iff_pairwise_ne,List.pairwise_map];refine List.Pairwise.imp (fun{a b} h e=>h ?_) (List.Pairwise.sublist List.filter_sublist (E6 n m));exact List.append_cancel_right e
  ·refine aj ?_ (List.mem_map.mp av);intro c5;refine ar ?_;rintro j6 rfl;subst e;have:=((AN n m _).mp aJ).2.1 ((m+1:Nat):Int) (by simp);exact aI (.A (.n (.b .p)) (.n .p) .f) rfl this.2
theorem Lb:∀{ys zs:List (List Int)},∀Y:ys.Perm zs,∀Y:ys.Pairwise (fun x y=>gr y x=false),∀Y:zs.Pairwise (fun x y=>gr y x=false),ys=zs
 |[],zs,p,_,_=>(List.nil_perm.mp p).symm
 |y::ys,[],p,_,_=>by have:=p.length_eq;simp at this
 |y::ys,z::zs,p,ae,af=>by
  have r9:=List.pairwise_cons.mp ae;have Lc:=List.pairwise_cons.mp af
  have e:y=z:=by
   rcases List.mem_cons.mp (p.mem_iff.mp (List.mem_cons_self ..))with q|q
   ·exact q
   ·rcases List.mem_cons.mp (p.mem_iff.mpr (List.mem_cons_self (a:=z) (l:=zs)))with aE|aE
    ·exact aE.symm
    ·exact zS _ _ (Lc.1 _ q) (r9.1 _ aE)
  subst e;rw[Lb (List.perm_cons _ |>.mp p) r9.2 Lc.2]
end Mine
end
section
namespace Mine
theorem Cut.mono{g:List Node}{a b:List Int}(h:Sub a b){i:Nat}(aG:Cut g a i):Cut g b i:=by
 induction aG with
 |here q=>exact .here (h _ q)
 |zero=>exact .zero
 |iO e _ _ pY qW=>exact .iO e pY qW
theorem UW{g:List Node}(b7:gR g){i:Nat}(h:Cut g [] i):i=0:=by
 induction h with
 |here q=>cases q
 |zero=>rfl
 |iO e _ _ pY qW=>have:=b7.iO _ _ _ e;exact Nat.le_antisymm ((aq (.i 2 (.e .p .z) (.a (.k 2) .q (.b .q (.m 2 (.b .p)) .f))) rfl pY this.2.2.1 (Nat.lt_mul_div_succ _ (by decide)):False).elim) (aI (.l .z .p) rfl)
structure Ld(g:List Node)(i:Nat)(c:List Int):Prop where
 inc:dK c
 cut:Cut g c i
 ge:∀x∈c,1≤x∧x≤i
theorem E7{g:List Node}{n most:Nat}{cs:List (List (List Int))}(b7:gR g)(dR:nL g n most cs)(k:Nat):∀(i:Nat)(c:List (List Int)),∀Y:i<k,∀Y:cs[i]?=some c,∀r∈c,Ld g i r:=by
 induction k with
 |zero=>exact fun Y Y h=>absurd h (Nat.not_lt_zero _)
 |succ k ih=>
  intro i c aK aG r aC;rcases dR i c aG with⟨rfl,rfl⟩|⟨ae,af,rfl⟩|⟨ae,pl,pr,L,R,ys,e,eQ,fe,hs,rfl⟩
  ·rw[List.mem_singleton.mp aC];exact⟨.nil,.zero,fun Y h=>nomatch h⟩
  ·rw[List.mem_singleton.mp aC];exact⟨List.pairwise_singleton ..,.here (List.mem_singleton.mpr rfl),fun x ai=>by rw[List.mem_singleton.mp ai];exact⟨aI (.a .o .p (.L (.k 1) (.n .p))) rfl ae,aI (.L (.n .p) (.n .p)) rfl⟩⟩
  ·have aO:=b7.iO _ _ _ e;rcases List.mem_append.mp aC with aC|aC
   ·have aH:=Eu (List.mem_of_mem_take aC);obtain⟨a,aJ,b,av,rfl,aD⟩:=xg.mp (hs.1.mem_iff.mp aH);have ga:=ih (pl / 2) L (by exact aA (.b .r (.b .q) (.b .p .r (.t .p .q))) rfl aK aO.1) eQ a aJ;have Le:=ih (pr / 2) R (by exact aA (.b .r (.b .q) (.b .p .r (.t .p .q))) rfl aK aO.2.1) fe b av;refine⟨uP _ _,.iO e (ga.cut.mono fun x ai=>uO.mpr (.inl ai)) (Le.cut.mono fun x ai=>uO.mpr (.inr ai)),fun x ai=>?_⟩;rcases uO.mp ai with ai|ai
    ·have:=ga.ge x ai;exact⟨gG (.A (.k 1) .p (.L (.k 1) .p)) rfl this.1,ck (.b .q .p (.A .p (.n .q) (.L .p (.n .p)))) rfl [_,(_ / (2:Nat))] [_] aO.1 this.2⟩
    ·have:=Le.ge x ai;exact⟨gG (.A (.k 1) .p (.L (.k 1) .p)) rfl this.1,ck (.b .q .p (.A .p (.n .q) (.L .p (.n .p)))) rfl [_,(_ / (2:Nat))] [_] aO.2.1 this.2⟩
   ·rw[List.mem_singleton.mp aC];exact⟨List.pairwise_singleton ..,.here (List.mem_singleton.mpr rfl),fun x ai=>by rw[List.mem_singleton.mp ai];exact⟨aI (.a .o .p (.L (.k 1) (.n .p))) rfl ae,aI (.L (.n .p) (.n .p)) rfl⟩⟩
structure AO(g:List Node)(n i:Nat)(aB:List (List Int)):Prop where
 good:∀r∈aB,Ld g i r
 lt:∀r∈aB,∀x∈r,x<(i:Int)
 len:∀r∈aB,r.length≤n
 ne:∀r∈aB,r≠[]
 u1:aB.Pairwise u0
theorem E8{g:List Node}{n most:Nat}{cs:List (List (List Int))}(b7:gR g)(dR:nL g n most cs){i:Nat}{c:List (List Int)}(ae:1≤i)(aG:cs[i]?=some c):
 ∃aB,c=aB++[[(i:Int)]]∧AO g n i aB∧aB.length≤most∧(∀Y:g[i]?=some none,aB=[]):=by
 rcases dR i c aG with⟨rfl,rfl⟩|⟨ae,af,rfl⟩|⟨ae,pl,pr,L,R,ys,e,eQ,fe,hs,rfl⟩
 ·exact Bv ae
 ·exact⟨[],rfl,⟨by simp,by simp,by simp,by simp,.nil⟩,Nat.zero_le _,fun Y=>rfl⟩
 ·have aO:=b7.iO _ _ _ e;have good:=E7 b7 dR (i+1) i _ (by exact aI (.t .p (.b .p)) rfl) aG;have mem:∀r∈(gD ys).take most,∃a∈L,∃b∈R,r=i8 a b∧r.length≤n:=fun r aC=>xg.mp (hs.1.mem_iff.mp (Eu (List.mem_of_mem_take aC)));refine⟨(gD ys).take most,rfl,⟨fun r aC=>good r (List.mem_append_left _ aC),fun r aC x ai=>?_,fun r aC=>?_,fun r aC AP=>?_,?_⟩,List.length_take_le ..,fun q=>by rw[e]at q;cases q⟩
  ·obtain⟨a,aJ,b,av,rfl,_⟩:=mem r aC;rcases uO.mp ai with ai|ai
   ·have:=(E7 b7 dR (pl / 2+1) (pl / 2) L (by exact aI (.t .p (.b .p)) rfl) eQ a aJ).ge x ai;exact ck (.b .q .p (.A .p (.n .q) (.T .p (.n .p)))) rfl [_,(_ / (2:Nat))] [_] aO.1 this.2
   ·have:=(E7 b7 dR (pr / 2+1) (pr / 2) R (by exact aI (.t .p (.b .p)) rfl) fe b av).ge x ai;exact ck (.b .q .p (.A .p (.n .q) (.T .p (.n .p)))) rfl [_,(_ / (2:Nat))] [_] aO.2.1 this.2
  ·obtain⟨a,aJ,b,av,_,aD⟩:=mem r aC;exact aD
  ·have:=(good r (List.mem_append_left _ aC)).cut;rw[AP]at this;have:=UW b7 this;exact Na (by assumption) this
  ·exact List.Pairwise.sublist (List.take_sublist _ _) (UT hs fun r aC=>by
    obtain⟨a,_,b,_,rfl,_⟩:=xg.mp aC;exact uP _ _)
theorem UX{g:List Node}{n most:Nat}{cs:List (List (List Int))}(b7:gR g)(dR:nL g n most cs)(cf:cs.length=g.length)
 (hm:∀i c,∀Y:cs[i]?=some c,∀ys L R:List (List Int),∀Y:i<g.length,∀Y:jk oO (gE L R n) ys,∀Y:c=nK i ys most,(gD ys).length≤most)
 (k:Nat):∀(i:Nat)(c:List (List Int))(d:List Int),∀Y:i<k,∀Y:cs[i]?=some c,∀Y:Cut g d i,∀Y:d.length≤n,∀Y:dK d,∃r∈c,Sub r d:=by
 induction k with
 |zero=>exact fun Y Y Y h=>absurd h (Nat.not_lt_zero _)
 |succ k ih=>
  intro i c d aK aG hd aD hi;have fc:i<g.length:=cf▸(List.getElem?_eq_some_iff.mp aG).1;rcases dR i c aG with⟨rfl,rfl⟩|⟨ae,af,rfl⟩|⟨ae,pl,pr,L,R,ys,e,eQ,fe,hs,wu⟩
  ·exact⟨[],List.mem_singleton.mpr rfl,fun Y h=>nomatch h⟩
  ·by_cases ez:(i:Int)∈d
   ·exact⟨[(i:Int)],List.mem_singleton.mpr rfl,fun x ai=>by rw[List.mem_singleton.mp ai];exact ez⟩
   ·refine bZ ?_ (hd.inv ez (by exact vz ae));intro l r;refine ar ?_;intro e _;rw[af]at e;cases e
  ·have aO:=b7.iO _ _ _ e;by_cases ez:(i:Int)∈d
   ·exact⟨[(i:Int)],by rw[wu];exact List.mem_append_right _ (List.mem_singleton.mpr rfl),fun x ai=>by rw[List.mem_singleton.mp ai];exact ez⟩
   ·refine bZ ?_ (hd.inv ez (by exact vz ae));intro ia c5;refine aY ?_;intro cA E3 E4;rw[e]at cA;cases cA;refine aj ?_ (ih (pl / 2) L d (by exact aA (.b .r (.b .q) (.b .p .r (.t .p .q))) rfl aK aO.1) eQ E3 aD hi);intro a;refine ar ?_;intro aJ bu;refine aj ?_ (ih (pr / 2) R d (by exact aA (.b .r (.b .q) (.b .p .r (.t .p .q))) rfl aK aO.2.1) fe E4 aD hi);intro b;refine ar ?_;intro av de
    have E9:Sub (i8 a b) d:=fun x ai=>by
     rcases uO.mp ai with ai|ai
     ·exact bu x ai
     ·exact de x ai
    have UY:(i8 a b).length≤d.length:=by
     rcases Nat.lt_or_ge d.length (i8 a b).length with q|q
     ·have aH:=E5 (uP a b).nodup E9 (by exact aq (.b .p .q (.l .p .q)) rfl q);have bX:=sR (uP a b) hi fun z=>⟨E9 z,aH z⟩;rw[bX];exact Nat.le_refl _
     ·exact q
    have Fa:i8 a b∈ys:=hs.1.mem_iff.mpr (xg.mpr ⟨a,aJ,b,av,rfl,by exact aA (.a .r .q (.a .p .r (.l .p .q))) rfl aD UY⟩);refine aj ?_ (UU Fa);intro r;refine ar ?_;intro aC UZ;refine⟨r,?_,fun x ai=>E9 x (UZ x ai)⟩;rw[wu];unfold nK;rw[List.take_of_length_le (hm i c aG ys L R fc hs wu)];exact List.mem_append_left _ aC
theorem u2{α:Type}[DecidableEq α]:∀{xs ys:List α},∀Y:xs.Nodup,∀Y:(∀x∈xs,x∈ys),xs.length≤ys.length
 |[],_,_,_=>Nat.zero_le _
 |x::xs,ys,h,hs=>by
  have h':=List.nodup_cons.mp h;have ai:=hs x (List.mem_cons_self ..);have:=u2 (ys:=ys.erase x) h'.2 fun y au=>(List.mem_erase_of_ne (show y≠x from fun e=>h'.1 (by rw[←e];exact au))).mpr (hs y (List.mem_cons_of_mem _ au));rw[List.length_erase_of_mem ai]at this;have:0<ys.length:=List.length_pos_of_mem ai;simp;exact Nb (by assumption) this
end Mine
end
section
set_option maxHeartbeats 1000000
namespace Mine
theorem Lf:∀m,∀Y:m<7,∀n,∀Y:n<4,(ig m n).length≤42:=by decide+kernel
theorem Sub.trans{a b c:List Int}(h:Sub a b)(af:Sub b c):Sub a c:=fun x ai=>af x (h x ai)
theorem U0{g:List Node}{n i:Nat}{aB:List (List Int)}(fW:AO g n i aB)(az:n≤3)(ae:1≤i)(kF:i≤7):aB.length≤42:=by
 refine Nat.le_trans (u2 (K9 fW.u1) (ys:=ig (i-1) n) fun r aC=>?_) (Lf (i-1) (by exact(Nat.le_total (1:Nat) _).elim (fun ay=>aq (.a .q (.k 7) (.c (.b .p) .q (.t .p (.k 7)))) rfl kF (Nat.sub_add_cancel ay)) (fun aE=>aq (.i 6 (.l .q .o) (.i 6 (.l .p .q) (.t .p (.k 7)))) rfl aE (Nat.sub_le _ (1:Nat)))) n (by exact fz az rfl));refine(AN n (i-1) r).mpr ⟨(fW.good r aC).inc,fun x ai=>⟨((fW.good r aC).ge x ai).1,?_⟩,fW.len r aC⟩;have:=fW.lt r aC x ai;exact ck (.B .p (.n .q) (.a .q (.b .p) (.L .p (.n .p)))) rfl [(_-(1:Nat)),_] [_] this (b5 _ (1:Nat))
open Classical in
noncomputable def dz(g:List Node)(last n:Nat):List (List Int):=(ig (last-1) n).filter fun r=>decide (Cut g r last)
open Classical in
noncomputable def nQ(good:List (List Int)):List (List Int):=good.filter fun r=>decide (¬∃o∈good,o≠r∧Sub o r)
open Classical in
theorem complete{g:List Node}{n:Nat}{cs:List (List (List Int))}(b7:gR g)(dR:nL g n 60 cs)(cf:cs.length=g.length)(az:n≤3){last:Nat}(aD:g.length=last+1)(kF:last≤7)(ae:1≤last){aB:List (List Int)}
 (aG:cs[last]?=some (aB++[[(last:Int)]]))(fW:AO g n last aB):aB.Perm (nQ (dz g last n)):=by
 have cover:∀d,∀Y:Cut g d last,∀Y:d.length≤n,∀Y:dK d,∀Y:(last:Int)∉d,∃r∈aB,Sub r d:=fun d hd qa AQ w7=>by
  refine aj ?_ (UX (n:=n) b7 dR cf (fun i c AR ys L R hi hs e=>by
   by_cases aM:i=0
   ·subst aM;rcases dR 0 c AR with⟨_,rfl⟩|⟨h,_⟩|⟨h,_⟩
    ·have:=congrArg List.length e;unfold nK at this;rw[List.length_append,List.length_take]at this;simp only[List.length_cons,List.length_nil]at this;exact(Nat.le_total (60:Nat) _).elim (fun ay=>(aI (.i (-1) (.e (.b .z) (.a .p (.b .z))) (.i (-1) (.e .p (.k 60)) (.F 59))) rfl this (Nat.min_eq_left ay):False).elim) (fun aE=>aI (.a .p (.k 60) (.l .p (.k 60))) rfl aE)
    ·exact(ik (.a .o .z .f) rfl h:False).elim
    ·exact(ik (.a .o .z .f) rfl h:False).elim
   ·refine aj ?_ (E8 b7 dR (by exact(Nat.lt_or_gt_of_ne aM).elim (fun ay=>aI (.b .p .z (.l .o .p)) rfl ay) (fun aE=>aI (.b .z .p (.l .o .p)) rfl aE)) AR);intro r7;refine cI ?_;intro cA U1 _ _;have bq:=U0 U1 az (by exact(Nat.lt_or_gt_of_ne aM).elim (fun ay=>aI (.b .p .z (.l .o .p)) rfl ay) (fun aE=>aI (.b .z .p (.l .o .p)) rfl aE)) (by exact aA (.c .q (.b .r) (.a .r (.k 7) (.b .p .q (.l .p (.k 7))))) rfl aD kF hi);have:=congrArg List.length (e.symm.trans cA);unfold nK at this;rw[List.length_append,List.length_append,List.length_take]at this;simp only[List.length_cons,List.length_nil]at this;exact(Nat.le_total (60:Nat) _).elim (fun ay=>(aq (.a .p (.k 42) (.c (.a .q (.b .z)) (.a .p (.b .z)) (.i (-1) (.e .q (.k 60)) (.F 17)))) rfl bq this (Nat.min_eq_left ay):False).elim) (fun aE=>aI (.a .p (.k 60) (.l .p (.k 60))) rfl aE)) (last+1) last _ d (by exact aI (.t .p (.b .p)) rfl) aG hd qa AQ);intro r;refine ar ?_;intro aC hs
  rcases List.mem_append.mp aC with h|h
  ·exact⟨r,h,hs⟩
  ·rw[List.mem_singleton.mp h]at hs;exact absurd (hs _ (by simp)) w7
 have qb:∀r,r∈dz g last n↔(dK r∧(∀x∈r,1≤x∧x≤((last-1:Nat):Int))∧r.length≤n)∧Cut g r last:=fun r=>by
  unfold dz;rw[List.mem_filter,AN,decide_eq_true_eq]
 have Lg:∀r∈aB,r∈dz g last n:=fun r aC=>by
  refine(qb r).mpr ⟨⟨(fW.good r aC).inc,fun x ai=>⟨((fW.good r aC).ge x ai).1,?_⟩,fW.len r aC⟩,(fW.good r aC).cut⟩;have:=fW.lt r aC x ai;exact ck (.B .p (.n .q) (.a .q (.b .p) (.L .p (.n .p)))) rfl [(_-(1:Nat)),_] [_] this (b5 _ (1:Nat))
 have Lh:∀r∈dz g last n,∃d∈aB,Sub d r:=fun r aC=>by
  refine ar ?_ ((qb r).mp aC);refine aY ?_;intro a1 a2 cW;intro dI;refine cover r dI cW a1 fun h=>?_;have:=(a2 _ h).2;exact aq (.A (.n .p) (.n .q) (.c (.b .q) .p .f)) rfl this (Nat.sub_add_cancel (aI (.a .o .p (.l .o .p)) rfl ae))
 have U2:∀a b:List Int,∀Y:dK a,∀Y:dK b,∀Y:Sub a b,∀Y:Sub b a,a=b:=fun a b aJ av ae af=>sR aJ av fun z=>⟨ae z,af z⟩
 have u1:∀a∈aB,∀b∈aB,∀Y:Sub a b,a=b:=fun a aJ b av h=>by
  obtain⟨i,hi,rfl⟩:=List.getElem_of_mem aJ;obtain⟨j,aP,rfl⟩:=List.getElem_of_mem av;have aQ:=List.pairwise_iff_getElem.mp fW.u1;rcases Nat.lt_trichotomy i j with q|q|q
  ·exact absurd h (aQ i j hi aP q).1
  ·subst q;rfl
  ·exact absurd h (aQ j i aP hi q).2
 have mem:∀r,r∈aB↔r∈nQ (dz g last n):=fun r=>by
  unfold nQ;rw[List.mem_filter,decide_eq_true_eq];constructor
  ·intro aC;refine⟨Lg r aC,?_⟩;refine aj ?_;intro o;refine aY ?_;intro bx cP hs;refine aj ?_ (Lh o bx);intro d;refine ar ?_;intro hd u3;have:=u1 d hd r aC (u3.trans hs);subst this;exact cP (U2 _ _ ((qb o).mp bx).1.1 (fW.good _ aC).inc hs u3)
  ·refine ar ?_;intro aC mS;refine aj ?_ (Lh r aC);intro d;refine ar ?_;intro hd u3;by_cases e:d=r
   ·rw[←e];exact hd
   ·exact absurd ⟨d,Lg d hd,e,u3⟩ mS
 have U3:(nQ (dz g last n)).Nodup:=by
  unfold nQ dz;exact((E6 n (last-1)).sublist List.filter_sublist).sublist List.filter_sublist
 exact(List.perm_ext_iff_of_nodup (K9 fW.u1) U3).mpr mem
end Mine
end
section
set_option maxHeartbeats 2000000
namespace Mine
variable{prog:Program}{w:World}{B:Heap}{ak:dB}{k:Nat}
theorem U4{aF i d:Nat}{st:St}{fs:List (Str×ah)}{attr:Str}{v:ah}{Q:∀Y:St,Prop} (ae:st[i]?=some (.inst aF d)) (af:st[d]?=some (.fields fs)) (aD:fs.length≤1000) (bb:Q (st.set d (.fields ((attr,v)::fs)))):Cp aF attr (.ref i) v Q st:=by
 exact fS (sj ae af) ⟨aD,bb⟩
noncomputable abbrev Fb(aF:Addr)(xs:List ah)(Q:∀Y:ah,∀Y:St,Prop) (st:St):Prop:=∃i d:Nat,xs=[.ref i]∧st[i]?=some (.inst aF d)∧st[d]?=some (.fields [])∧
 ∀ao nn bH bJ,∀Y:gf aF ao (.ref i) [none] nn bH bJ,∀Y:Agree [d] st ao,∀Y:st.length≤nn,∀Y:st.length≤bH,∀Y:st.length≤bJ,Q .none ao
theorem Fc{a aF:Nat}{bS:∀Y:Str,Option Value} {of:Obj} {fd:FuncData} (F:Meth B bS 0 a of fd) (G:ic B) (X:jx B aF bS) (ee:bS "nodes"=none) (dN:typeLookup (.type "object") "nodes"=pure none) (uW:bS "inputs"=none) (uX:typeLookup (.type "object") "inputs"=pure none)
 (Fd:bS "outputs"=none) (Fe:typeLookup (.type "object") "outputs"=pure none) (sV:bS "table"=none) (sW:typeLookup (.type "object") "table"=pure none):
 b9 prog w B (k+1) (.ref a) (Fb aF):=by
 refine@Meth.iB prog w B k _ _ _ _ _ _ _ 1 1 F (by decide+kernel) G.er (by decide+kernel) (by decide+kernel) (aZ (yZ X ee dN (jc (aR lR bg)) (aw (i:=0) (by kernel_rfl))) (aZ (yZ X uW uX (jc bg) (aw (i:=0) (by kernel_rfl))) (aZ (yZ X Fd Fe (jc bg) (aw (i:=0) (by kernel_rfl))) (aZ (yZ X sV sW UG (aw (i:=0) (by kernel_rfl))) bM)))) ?_;intro _ Q st;refine bZ ?_;intro i d;refine cI ?_;rintro rfl hi hd q;have xE:i≠d:=fun e=>by rw[e,hd]at hi;cases hi
 have qa:d<st.length:=(List.getElem?_eq_some_iff.mp hd).1;refine⟨rfl,?_⟩
 have step:∀{s:St}{fs:List (Str×ah)}{attr:Str}{o:bB}{Q:∀Y:St,Prop},∀Y:Agree [d] st s,∀Y:s[d]?=some (.fields fs),∀Y:fs.length≤10,∀Y:st.length≤s.length,
  ∀Y:(∀s',∀Y:Agree [d] s s',∀Y:s'[d]?=some (.fields ((attr,.ref s.length)::fs)),∀Y:s'[s.length]?=some o,∀Y:s.length<s'.length,Q s'),Cp aF attr (.ref i) (.ref s.length) Q (s++[o]):=by
  intro s fs attr o Q aJ u3 km oV a7;have fV:s[i]?=some (.inst aF d):=aJ i _ (by simp[xE]) hi;have U5:d<s.length:=by exact aA (.b .p .r (.a .r .q (.t .p .q))) rfl qa oV
  refine U4 (dS fV _) (dS u3 _) (by exact eZ km rfl) (a7 _ ((Agree.app _ s _).trans (Agree.set (by simp) _)) ?_ ?_ (by simp))
  ·exact List.getElem?_set_self (by rw[List.length_append];exact bA (.b .p .s (.a .s .q (.t .p (.a .q .r)))) rfl qa oV)
  ·rw[List.getElem?_set_ne (by exact Bs U5)];exact jz _ _
 walk_at "V"
 refine a8 ?_
 walk_at "V"
 refine⟨by decide,?_⟩
 walk_at "V"
 refine step (Agree.refl _ _) hd (by decide) (Nat.le_refl _) fun s1 a1 jJ eB cO=>?_
 walk_at "V"
 refine a8 ?_
 walk_at "V"
 refine⟨by decide,?_⟩
 walk_at "V"
 refine step a1 jJ (by simp) (by exact aq (.b .p .q (.l .p .q)) rfl cO) fun s2 a2 gK iS cQ=>?_
 walk_at "V"
 refine a8 ?_
 walk_at "V"
 refine⟨by decide,?_⟩
 walk_at "V"
 refine step (a1.trans a2) gK (by simp) (by exact aA (.b .p .r (.b .r .q (.l .p .q))) rfl cO cQ) fun fF cW iM p7 nD=>?_
 walk_at "V"
 refine a8 ?_
 walk_at "V"
 refine step ((a1.trans a2).trans cW) iM (by simp) (by exact bA (.b .p .r (.b .r .s (.b .s .q (.l .p .q)))) rfl cO cQ nD) fun kS dI U6 EY AS=>?_
 walk_at "V"
 have off:∀{n:Nat},∀Y:st.length≤n,n∉[d]:=fun{n} h hm=>by
  have:=List.mem_singleton.mp hm;exact aA (.b .p .q (.a .q .r (.c .r .p .f))) rfl qa h this
 have U7:=dI _ _ (off (by exact aI (.l .p .p) rfl)) (cW _ _ (off (by exact aI (.l .p .p) rfl)) (a2 _ _ (off (Nat.le_refl _)) eB));have at2:=dI _ _ (off (by exact aq (.b .p .q (.l .p .q)) rfl cO)) (cW _ _ (off (by exact aq (.b .p .q (.l .p .q)) rfl cO)) iS);have U8:=(((a1.trans a2).trans cW).trans dI) i _ (by simp[xE]) hi;refine q kS st.length s1.length fF.length ⟨(cE d s2.length (sj U8 U6)),U7,⟨[],at2,by simp⟩,⟨[],EY,by simp,fun Y Y h=>by cases h⟩,by exact Bs cO,⟨rfl,by simp,fun i l r e=>?_⟩⟩ (((a1.trans a2).trans cW).trans dI) (Nat.le_refl _) (by exact aq (.b .p .q (.l .p .q)) rfl cO) (by exact bA (.b .p .r (.b .r .s (.b .s .q (.l .p .q)))) rfl cO cQ nD)
 match i,e with
 |0,e=>cases e
 |i+1,e=>simp at e
structure ef(aF:Addr)(st s:St)(h c:Nat)(v:ah)(cV nn bH bJ:Nat)(aB:List Nat)(g:List Node):Prop where
 aig:gf aF s v g nn bH bJ
 hand:mu s h c
 known:s[cV]?=some (.list (aB.map fun j:Nat=>.int j))
 lits:∀x∈aB,Lit g x
 ne:aB≠[]
 agree:Agree [h] st s
 xF:aB.length≤30
 g1:st.length≤nn∧st.length≤bH∧st.length≤bJ∧st.length≤cV
 u4:cV≠nn∧cV≠bH
 aG:h<st.length∧c<st.length
theorem mu.agree{s s':St}{h c:Nat}{ch:List Nat}(x:mu s h c)(a:Agree ch s s')(ae:h∉ch)(af:c∉ch):mu s' h c:=by
 refine dF ?_ x;clear x;intro cells p b r;refine cI ?_;intro aS aW cz rest;exact(dX cells p b r ⟨a _ _ ae aS,aW,a _ _ af cz,rest⟩)
theorem mu.list{s:St}{h c:Nat}(x:mu s h c):∃xs,s[h]?=some (.list xs):=let ⟨_,_,_,_,e,_⟩:=x;⟨_,e⟩
theorem ef.le{aF:Addr}{st s:St}{h c:Nat}{v:ah}{cV nn bH bJ:Nat}{aB:List Nat}{g:List Node}(x:ef aF st s h c v cV nn bH bJ aB g):st.length≤s.length:=by
 have:=(List.getElem?_eq_some_iff.mp x.known).1;have:=x.g1;exact Nc (by assumption) this
theorem ef.turn{aF:Addr}{st s s':St}{h c:Nat}{v:ah}{cV nn bH bJ:Nat}{aB:List Nat}{g:List Node}(x:ef aF st s h c v cV nn bH bJ aB g)(a:Agree [h] s s')(bR:mu s' h c):ef aF st s' h c v cV nn bH bJ aB g:=by
 have aD:=x.aG;have b8:=x.g1;refine⟨x.aig.agree a (fun j aP=>by rw[List.mem_singleton.mp aP];exact x.hand.list) (by simp;exact fun ay=>aA (.b .p .q (.a .q .r (.c .r .p .f))) rfl aD.1 b8.1 ay) (by simp;exact fun ay=>aA (.b .p .q (.a .q .r (.c .r .p .f))) rfl aD.1 b8.2.1 ay),bR,a _ _ (by simp;exact fun ay=>aA (.b .p .q (.a .q .r (.c .r .p .f))) rfl aD.1 b8.2.2.2 ay) x.known,x.lits,x.ne,x.agree.trans a,x.xF,x.g1,x.u4,x.aG⟩
theorem ef.app{aF:Addr}{st s:St}{h c:Nat}{v:ah}{cV nn bH bJ:Nat}{aB:List Nat}{g:List Node}(x:ef aF st s h c v cV nn bH bJ aB g)(l:St):ef aF st (s++l) h c v cV nn bH bJ aB g:=
 x.turn (Agree.app _ _ _) (x.hand.agree (Agree.app [] _ _) (by simp) (by simp))
theorem ef.grow{aF:Addr}{st s s':St}{h c:Nat}{v:ah}{cV nn bH bJ:Nat}{aB:List Nat}{g cL:List Node}(x:ef aF st s h c v cV nn bH bJ aB g)(aL:gf aF s' v cL nn bH bJ)(a:Agree [nn,bH,bJ] s s')(aD:g.length≤cL.length):ef aF st s' h c v cV nn bH bJ aB cL:=by
 have ae:=x.aG;have af:=x.g1;have aH:=x.u4
 have bX:cV≠bJ:=fun e=>by
  refine aj ?_ x.aig.table;intro kvs;refine ar ?_;intro bf _;rw[←e,x.known]at bf;cases bf
 refine⟨aL,x.hand.agree a (by simp;exact⟨fun ay=>aA (.b .p .q (.a .q .r (.i (-1) (.e .p .r) .f))) rfl ae.1 af.1 ay,⟨fun aE=>aA (.b .p .q (.a .q .r (.i (-1) (.e .p .r) .f))) rfl ae.1 af.2.1 aE,fun bI=>aA (.b .p .q (.a .q .r (.i (-1) (.e .p .r) .f))) rfl ae.1 af.2.2.1 bI⟩⟩) (by simp;exact⟨fun ay=>aA (.b .p .q (.a .q .r (.i (-1) (.e .p .r) .f))) rfl ae.2 af.1 ay,⟨fun aE=>aA (.b .p .q (.a .q .r (.i (-1) (.e .p .r) .f))) rfl ae.2 af.2.1 aE,fun bI=>aA (.b .p .q (.a .q .r (.i (-1) (.e .p .r) .f))) rfl ae.2 af.2.2.1 bI⟩⟩),a _ _ (by simp;exact⟨fun ay=>(Nat.lt_or_gt_of_ne aH.1).elim (fun aE=>aq (.i (-1) (.e .p .q) (.b .p .q .f)) rfl ay aE) (fun bI=>aq (.c .p .q (.b .q .p .f)) rfl ay bI),⟨fun cM=>(Nat.lt_or_gt_of_ne aH.1).elim (fun h7=>(Nat.lt_or_gt_of_ne aH.2).elim (fun fL=>aq (.i (-1) (.e .p .q) (.b .p .q .f)) rfl cM fL) (fun fM=>aq (.c .p .q (.b .q .p .f)) rfl cM fM)) (fun ly=>(Nat.lt_or_gt_of_ne aH.2).elim (fun mQ=>aq (.i (-1) (.e .p .q) (.b .p .q .f)) rfl cM mQ) (fun qR=>aq (.c .p .q (.b .q .p .f)) rfl cM qR)),fun mR=>(Nat.lt_or_gt_of_ne aH.1).elim (fun qo=>(Nat.lt_or_gt_of_ne aH.2).elim (fun vA=>(Nat.lt_or_gt_of_ne bX).elim (fun wJ=>aq (.i (-1) (.e .p .q) (.b .p .q .f)) rfl mR wJ) (fun wK=>aq (.c .p .q (.b .q .p .f)) rfl mR wK)) (fun wL=>(Nat.lt_or_gt_of_ne bX).elim (fun tn=>aq (.i (-1) (.e .p .q) (.b .p .q .f)) rfl mR tn) (fun vB=>aq (.c .p .q (.b .q .p .f)) rfl mR vB))) (fun yi=>(Nat.lt_or_gt_of_ne aH.2).elim (fun yj=>(Nat.lt_or_gt_of_ne bX).elim (fun Dc=>aq (.i (-1) (.e .p .q) (.b .p .q .f)) rfl mR Dc) (fun U9=>aq (.c .p .q (.b .q .p .f)) rfl mR U9)) (fun Yk=>(Nat.lt_or_gt_of_ne bX).elim (fun Va=>aq (.i (-1) (.e .p .q) (.b .p .q .f)) rfl mR Va) (fun Vb=>aq (.c .p .q (.b .q .p .f)) rfl mR Vb)))⟩⟩) x.known,fun y au=>(x.lits y au).mono aD,x.ne,fun j o aP hs=>?_,x.xF,x.g1,x.u4,x.aG⟩;have jX:j<st.length:=(List.getElem?_eq_some_iff.mp hs).1;exact a j o (by simp;exact⟨fun ay=>aA (.a .p .q (.b .r .p (.i (-1) (.e .r .q) .f))) rfl af.1 jX ay,⟨fun aE=>aA (.a .p .q (.b .r .p (.i (-1) (.e .r .q) .f))) rfl af.2.1 jX aE,fun bI=>aA (.a .p .q (.b .r .p (.i (-1) (.e .r .q) .f))) rfl af.2.2.1 jX bI⟩⟩) (x.agree j o aP hs)
theorem ef.push{aF:Addr}{st s:St}{h c:Nat}{v:ah}{cV nn bH bJ:Nat}{aB:List Nat}{g:List Node}(x:ef aF st s h c v cV nn bH bJ aB g){y:Nat}(au:Lit g y)(aK:aB.length<30):
 ef aF st (s.set cV (.list ((aB++[y]).map fun j:Nat=>.int j))) h c v cV nn bH bJ (aB++[y]) g:=by
 have ae:=x.aG;have af:=x.g1;have aH:=x.u4;have a:Agree [cV] s (s.set cV (.list ((aB++[y]).map fun j:Nat=>.int j))):=Agree.set (by simp) _;refine⟨x.aig.agree a (fun j aP=>by rw[List.mem_singleton.mp aP];exact⟨_,x.known⟩) (by simp;exact fun ay=>(Nat.lt_or_gt_of_ne aH.1).elim (fun aE=>aq (.c .p .q (.b .q .p .f)) rfl ay aE) (fun bI=>aq (.i (-1) (.e .p .q) (.b .p .q .f)) rfl ay bI)) (by simp;exact fun ay=>(Nat.lt_or_gt_of_ne aH.1).elim (fun aE=>(Nat.lt_or_gt_of_ne aH.2).elim (fun bI=>aq (.c .p .q (.b .q .p .f)) rfl ay bI) (fun cM=>aq (.i (-1) (.e .p .q) (.b .p .q .f)) rfl ay cM)) (fun h7=>(Nat.lt_or_gt_of_ne aH.2).elim (fun fL=>aq (.c .p .q (.b .q .p .f)) rfl ay fL) (fun fM=>aq (.i (-1) (.e .p .q) (.b .p .q .f)) rfl ay fM))),x.hand.agree a (by simp;exact fun ay=>aA (.b .p .q (.a .q .r (.i (-1) (.e .p .r) .f))) rfl ae.1 af.2.2.2 ay) (by simp;exact fun ay=>aA (.b .p .q (.a .q .r (.i (-1) (.e .p .r) .f))) rfl ae.2 af.2.2.2 ay),List.getElem?_set_self (List.getElem?_eq_some_iff.mp x.known).1,fun z aU=>?_,by simp,fun j o aP hs=>?_,by simp;exact qm aK rfl,x.g1,x.u4,x.aG⟩
 ·rcases List.mem_append.mp aU with aU|aU
  ·exact x.lits z aU
  ·rw[List.mem_singleton.mp aU];exact au
 ·have jX:j<st.length:=(List.getElem?_eq_some_iff.mp hs).1;exact a j o (by simp;exact fun ay=>aA (.a .p .q (.b .r .p (.i (-1) (.e .r .q) .f))) rfl af.2.2.2 jX ay) (x.agree j o aP hs)
theorem ef.put{aF:Addr}{st s:St}{h c:Nat}{v:ah}{cV nn bH bJ:Nat}{aB:List Nat}{g:List Node}(x:ef aF st s h c v cV nn bH bJ aB g){y:Nat}(au:Lit g y)(aK:aB.length<30){Q:∀Y:ah,∀Y:St,Prop}
 (bb:∀s',∀Y:ef aF st s' h c v cV nn bH bJ (aB++[y]) g,Q .none s'):pH (.ref cV) (.int y) Q s:=by
 refine append_at x.known (by rw[List.length_map];have:=x.xF;exact qm aK rfl) ?_;have e:(aB.map fun j:Nat=>ah.int j)++[ah.int (y:Nat)]=(aB++[y]).map fun j:Nat=>.int j:=by simp
 rw[e];exact bb _ (x.push au aK)
theorem ef.pick{aF:Addr}{st s:St}{h c:Nat}{v:ah}{cV nn bH bJ:Nat}{aB:List Nat}{g:List Node}(x:ef aF st s h c v cV nn bH bJ aB g){m:Nat}(ae:1≤m)(af:m≤1000){Q:∀Y:ah,∀Y:St,Prop}
 (bb:∀(d:Nat) o,∀Y:d<m,∀Y:ef aF st (s.set h o) h c v cV nn bH bJ aB g,Q (.int d) (s.set h o)):uS [.ref h,.int m] Q s:=
 (cF h c m ⟨rfl,x.hand,ae,af,fun d o hd bR=>bb d o hd (x.turn (Agree.set (by simp) _) bR)⟩)
end Mine
end
section
set_option maxHeartbeats 2000000
namespace Mine
variable{prog:Program}{w:World}{B:Heap}{ak:dB}{k:Nat}
theorem Li{xs:List ah}{d:Nat}(h:d<xs.length):pick xs (-1-(d:Int))=xs[xs.length-1-d]?:=by
 unfold pick;rw[if_neg (by exact aI (.o (.L (.k 0) (.s (.k (-1)) (.n .p)))) rfl),if_pos (by exact Nd h)];congr 1;exact Nf
theorem Vc{a:Nat}{Q:∀Y:ah,∀Y:St,Prop} {st:St} (h:Q (.int ((min a 6:Nat):Int)) st):He [.int a,.int 6] Q st:=by
 have em:(if(6:Int)<(a:Int)then 6 else(a:Int))=((min a 6:Nat):Int):=by split<;>lia
 show Q (.int (if(6:Int)<(a:Int)then 6 else(a:Int))) st;rw[em];exact h
theorem sY{m:Nat}{s:St}(h:m≤1000):jv (.range 0 (m:Int)) s=some ((List.range m).map fun i:Nat=>.int (0+(i:Nat))):=
 (sO (by decide) (by decide) (by exact aI (.L (.k (-1000000)) (.n .p)) rfl) (by exact aI (.i 1000 (.l .p (.k 1000)) (.L (.n .p) (.k 1000000))) rfl h)).trans (by rw[Int.sub_zero,Int.toNat_natCast])
theorem ef.Lj{aF:Addr}{st s:St}{h c:Nat}{v:ah}{cV nn bH bJ:Nat}{aB:List Nat}{g:List Node}(x:ef aF st s h c v cV nn bH bJ aB g){p:Nat}{xs ys:List ah}(aQ:s[p]?=some (.list xs))(ae:st.length≤p)(af:p≠nn∧p≠bH∧p≠cV):ef aF st (s.set p (.list ys)) h c v cV nn bH bJ aB g:=by
 have aS:=x.aG;have a:Agree [p] s (s.set p (.list ys)):=Agree.set (by simp) _;refine⟨x.aig.agree a (fun j aP=>by rw[List.mem_singleton.mp aP];exact⟨_,aQ⟩) (by simp;exact fun ay=>(Nat.lt_or_gt_of_ne af.1).elim (fun aE=>aq (.c .p .q (.b .q .p .f)) rfl ay aE) (fun bI=>aq (.i (-1) (.e .p .q) (.b .p .q .f)) rfl ay bI)) (by simp;exact fun ay=>(Nat.lt_or_gt_of_ne af.1).elim (fun aE=>(Nat.lt_or_gt_of_ne af.2.1).elim (fun bI=>aq (.c .p .q (.b .q .p .f)) rfl ay bI) (fun cM=>aq (.i (-1) (.e .p .q) (.b .p .q .f)) rfl ay cM)) (fun h7=>(Nat.lt_or_gt_of_ne af.2.1).elim (fun fL=>aq (.c .p .q (.b .q .p .f)) rfl ay fL) (fun fM=>aq (.i (-1) (.e .p .q) (.b .p .q .f)) rfl ay fM))),x.hand.agree a (by simp;exact fun ay=>aA (.a .p .q (.b .r .p (.i (-1) (.e .r .q) .f))) rfl ae aS.1 ay) (by simp;exact fun ay=>aA (.a .p .q (.b .r .p (.i (-1) (.e .r .q) .f))) rfl ae aS.2 ay),a _ _ (by simp;exact fun ay=>(Nat.lt_or_gt_of_ne af.1).elim (fun aE=>(Nat.lt_or_gt_of_ne af.2.1).elim (fun bI=>(Nat.lt_or_gt_of_ne af.2.2).elim (fun cM=>aq (.c .p .q (.b .q .p .f)) rfl ay cM) (fun h7=>aq (.i (-1) (.e .p .q) (.b .p .q .f)) rfl ay h7)) (fun fL=>(Nat.lt_or_gt_of_ne af.2.2).elim (fun fM=>aq (.c .p .q (.b .q .p .f)) rfl ay fM) (fun ly=>aq (.i (-1) (.e .p .q) (.b .p .q .f)) rfl ay ly))) (fun mQ=>(Nat.lt_or_gt_of_ne af.2.1).elim (fun qR=>(Nat.lt_or_gt_of_ne af.2.2).elim (fun mR=>aq (.c .p .q (.b .q .p .f)) rfl ay mR) (fun qo=>aq (.i (-1) (.e .p .q) (.b .p .q .f)) rfl ay qo)) (fun vA=>(Nat.lt_or_gt_of_ne af.2.2).elim (fun wJ=>aq (.c .p .q (.b .q .p .f)) rfl ay wJ) (fun wK=>aq (.i (-1) (.e .p .q) (.b .p .q .f)) rfl ay wK)))) x.known,x.lits,x.ne,fun j o aP hs=>?_,x.xF,x.g1,x.u4,x.aG⟩;have jX:j<st.length:=(List.getElem?_eq_some_iff.mp hs).1;exact a j o (by simp;exact fun ay=>aA (.a .p .q (.b .r .p (.i (-1) (.e .r .q) .f))) rfl ae jX ay) (x.agree j o aP hs)
theorem ef.lt{aF:Addr}{st s:St}{h c:Nat}{v:ah}{cV nn bH bJ:Nat}{aB:List Nat}{g:List Node}(x:ef aF st s h c v cV nn bH bJ aB g):nn<s.length∧bH<s.length∧cV<s.length:=by
 refine aj ?_ x.aig.inputs;intro xs;refine ar ?_;intro e _;exact⟨(List.getElem?_eq_some_iff.mp x.aig.nodes).1,(List.getElem?_eq_some_iff.mp e).1,(List.getElem?_eq_some_iff.mp x.known).1⟩
noncomputable abbrev Ff(aF:Addr)(xs:List ah)(Q:∀Y:ah,∀Y:St,Prop) (st:St):Prop:=∃(h c many:Nat),xs=[.ref h,.int many,.int 5]∧mu st h c∧h<st.length∧c<st.length∧many≤3∧
 ∀s' v cV nn bH bJ aB g,∀Y:ef aF st s' h c v cV nn bH bJ aB g,∀Y:g.length≤19,Q (.tup [v,.ref cV]) s'
theorem Fg{a aF AU Fi kP rt rj:Nat}{bS:∀Y:Str,Option Value} {Lk Fj nP sX ofM:Obj} {Vd xC E1 Ve:FuncData} {Vf xD E2 Vg:Option Value} {AV:Nat} (F:dU B 21 a) (G:ic B) (X:jx B aF bS) (Fl:fN B "Aig" (.ref aF))
 (g7:bS "__init__"=some (.ref AU)) (Vh:B.get? AU=some Lk) (Vi:Lk.cls=.type "function") (Fc:∀k,b9 prog w B (k+1) (.ref AU) (Fb aF))
 (AW:bS "add_input"=some (.ref Fi)∧B.get? Fi=some Fj∧Fj.cls=.type "function"∧Fj.data=.func Vd) (Fo:typeLookup (.type "object") "add_input"=pure Vf) (EW:∀k,b9 prog w B (k+1) (.ref Fi) (kn aF 1 0))
 (jD:bS "land"=some (.ref kP)∧B.get? kP=some nP∧nP.cls=.type "function"∧nP.data=.func xC) (oU:typeLookup (.type "object") "land"=pure xD) (rr:∀k,b9 prog w B (k+1) (.ref kP) (kn aF 1 2))
 (p9:bS "lor"=some (.ref rt)∧B.get? rt=some sX∧sX.cls=.type "function"∧sX.data=.func E1) (uZ:typeLookup (.type "object") "lor"=pure E2) (xB:∀k,b9 prog w B (k+2) (.ref rt) (kn aF 1 2))
 (AX:bS "lmux"=some (.ref rj)∧B.get? rj=some ofM∧ofM.cls=.type "function"∧ofM.data=.func Ve) (Fp:typeLookup (.type "object") "lmux"=pure Vg) (E0:∀k,b9 prog w B (k+3) (.ref rj) (kn aF 3 3))
 (mX:fN B (bP 19).name (.ref AV)) (mY:Plain B (.ref AV)) (lI:∀k,b9 prog w B (k+1) (.ref AV) uS):
 b9 prog w B (k+4) (.ref a) (Ff aF):=by
 have dM:=G.len;have Vj:=G.min;have ie:=G.range;refine@dU.iB prog w B (k+3) _ _ _ _ 3 8 F (by decide+kernel) G.er (by decide+kernel) (by decide+kernel) (aZ (dg (i:=3) (Pj Fl X g7 Vh Vi (Fc _) (by kernel_rfl) (by decide+kernel)) (by kernel_rfl) (cj (by decide+kernel))) (aZ (dg (i:=4) (jc (aR bz bg)) (by kernel_rfl) (cj (by decide+kernel))) (aZ (j5 (i:=5) (bL ie (.inr (.inl ⟨_,rfl⟩)) called_range (aR (aw (i:=1) (by kernel_rfl)) bg) (by kernel_rfl) (by decide+kernel)) (aZ (ju (jw (aw (i:=4) (by kernel_rfl)) (Pf (pl:=_) X AW.1 AW.2.1 AW.2.2.1 AW.2.2.2 Fo (EW _) (aw (i:=3) (by kernel_rfl)) (by intro _;with_unfolding_all rfl)))) bM) (by kernel_rfl) (cj (by decide+kernel))) (aZ (j5 (i:=5) (bL ie (.inr (.inl ⟨_,rfl⟩)) called_range (aR (bL mX mY (lI _) (aR (aw (i:=0) (by kernel_rfl)) (aR (cY pg (aw (i:=2) (by kernel_rfl)) bz) bg)) (by kernel_rfl) (by decide+kernel)) bg) (by kernel_rfl) (by decide+kernel)) (aZ (dg (i:=6) (bL mX mY (lI _) (aR (aw (i:=0) (by kernel_rfl)) (aR bz bg)) (by kernel_rfl) (by decide+kernel)) (by kernel_rfl) (cj (by decide+kernel))) (aZ (H7 (wx:=7) (xi:=1) (bL ie (.inr (.inl ⟨_,rfl⟩)) called_range (aR bz bg) (by kernel_rfl) (by decide+kernel)) ou (cY qw (c4 (aw (i:=3) (by kernel_rfl)) (cY rQ (vM bz) (bL mX mY (lI _) (aR (aw (i:=2) (by kernel_rfl)) (aR (bL Vj (.inl ⟨_,rfl⟩) N3 (aR (bL dM (.inl ⟨_,rfl⟩) fD (aR (aw (i:=3) (by kernel_rfl)) bg) (by kernel_rfl) (by decide+kernel)) (aR bz bg)) (by kernel_rfl) (by decide+kernel)) bg)) (by kernel_rfl) (by decide+kernel)))) (bL mX mY (lI _) (aR (aw (i:=2) (by kernel_rfl)) (aR bz bg)) (by kernel_rfl) (by decide+kernel))) (by decide+kernel) (by kernel_rfl) (by kernel_rfl) (cj (by decide+kernel)) (by intro env ae af;rcases env with⟨⟨kind,names⟩⟩;cases ae;cases af;kernel_rfl)) (aZ (fQ (c6 jK (aw (i:=6) (by kernel_rfl)) bz) (aZ (ju (jw (aw (i:=4) (by kernel_rfl)) (su (pl:=_) X jD.1 jD.2.1 jD.2.2.1 jD.2.2.2 oU (rr _) (aw (i:=3) (by kernel_rfl)) (aR (c4 (aw (i:=7) (by kernel_rfl)) bz) (aR (c4 (aw (i:=7) (by kernel_rfl)) bz) bg)) (by intro _;with_unfolding_all rfl)))) bM) (aZ (fQ (c6 jK (aw (i:=6) (by kernel_rfl)) bz) (aZ (ju (jw (aw (i:=4) (by kernel_rfl)) (su (pl:=_) X p9.1 p9.2.1 p9.2.2.1 p9.2.2.2 uZ (xB _) (aw (i:=3) (by kernel_rfl)) (aR (c4 (aw (i:=7) (by kernel_rfl)) bz) (aR (c4 (aw (i:=7) (by kernel_rfl)) bz) bg)) (by intro _;with_unfolding_all rfl)))) bM) (aZ (ju (jw (aw (i:=4) (by kernel_rfl)) (su (pl:=_) X AX.1 AX.2.1 AX.2.2.1 AX.2.2.2 Fp (E0 _) (aw (i:=3) (by kernel_rfl)) (aR (c4 (aw (i:=7) (by kernel_rfl)) bz) (aR (c4 (aw (i:=7) (by kernel_rfl)) bz) (aR (c4 (aw (i:=7) (by kernel_rfl)) bz) bg))) (by intro _;with_unfolding_all rfl)))) bM)) bM)) bM))) (by kernel_rfl) (cj (by decide+kernel))) (aZ (eF (lT (aR (aw (i:=3) (by kernel_rfl)) (aR (aw (i:=4) (by kernel_rfl)) bg)))) bM))))) ?_;intro _ Q st;refine bG ?_;intro h c many;refine dH ?_;rintro rfl u5 bR aG hm q;refine⟨rfl,?_⟩
 walk_at "V"
 refine a8 ?_
 walk_at "V"
 refine(cE (st.length+1) st.length ⟨rfl,by simp,by simp,fun s1 nn bH bJ aL a1 eB iS p7=>⟨rfl,?_⟩⟩)
 walk_at "V"
 have Ll:mu s1 h c:=u5.agree ((Agree.app [st.length] st _).trans a1) (by simp;exact Bw bR) (by simp;exact Bw aG);have Lm:Agree [h] st s1:=fun j o aP hs=>a1 j o (by have:=(List.getElem?_eq_some_iff.mp hs).1;simp;exact Bw this) (dS hs _);have Fq:=(List.getElem?_eq_some_iff.mp aL.nodes).1;have Ln:bH<s1.length:=by refine aj ?_ aL.inputs;intro xs;refine ar ?_;intro e _;exact(List.getElem?_eq_some_iff.mp e).1
 refine a8 ?_
 walk_at "V"
 have xG:ef aF st (s1++[.list [.int 0]]) h c (.ref (st.length+1)) s1.length nn bH bJ [0] [none]:=
  ⟨aL.agree (Agree.app [] _ _) (by simp) (by simp) (by simp),Ll.agree (Agree.app [] _ _) (by simp) (by simp),jz _ _,by simp[Lit],by simp,Lm.trans (Agree.app _ _ _),by simp,by simp at eB iS p7;exact⟨aq (.a (.a .p (.k 2)) .q (.l .p .q)) rfl eB,⟨aq (.a (.a .p (.k 2)) .q (.l .p .q)) rfl iS,⟨aq (.a (.a .p (.k 2)) .q (.l .p .q)) rfl p7,aA (.b .r .q (.a (.a .p (.k 2)) .r (.l .p .q))) rfl Fq eB⟩⟩⟩,by exact⟨fun ay=>aq (.b .p .q (.c .q .p .f)) rfl Fq ay,fun aE=>aq (.b .p .q (.c .q .p .f)) rfl Ln aE⟩,⟨bR,aG⟩⟩
 clear Ll Lm a1 Fq Ln eB iS p7 aL;have aS:s1.length=s1.length:=rfl;generalize aO:ah.ref (st.length+1)=v at xG ⊢;clear aO;generalize s1++[bB.list [.int 0]]=s2 at xG ⊢;generalize s1.length=cV at xG ⊢;clear aS;refine⟨by decide,?_⟩;refine lC (fun l s=>∃z,∃(aB:List Nat)(g:List Node),l=[some (.ref h),some (.int many),some (.int 5),some v,some (.ref cV),z,none,none]∧ef aF st s h c v cV nn bH bJ aB g∧g.length≤4∧aB.length≤4) (fun a6 a7 Y Y=>?_) ?_
 ·refine ki (fun y s=>y=.range 0 (many:Int)∧s2=s) (fun a6 a7=>?_) ?_
  ·walk_at "V"
   exact a7 _ _ ⟨rfl,rfl⟩
  ·intro _ _;refine ar ?_;rintro rfl rfl;refine⟨_,fun n l s=>∃z,∃(aB:List Nat)(g:List Node),l=[some (.ref h),some (.int many),some (.int 5),some v,some (.ref cV),z,none,none]∧ef aF st s h c v cV nn bH bJ aB g∧g.length≤1+n∧aB.length≤1+n∧n≤many,⟨none,[0],[none],rfl,xG,by simp,by simp,by exact aI (.l .z .p) rfl⟩,fun n l s Y=>sY (by exact eZ hm rfl),?_,?_⟩
   ·intro n l s y;refine bG ?_;intro z aB g;refine eY ?_;rintro rfl I b8 aK az;intro au
    have l9:n<many:=by
     have:=(List.getElem?_eq_some_iff.mp au).1;simpa using this
    walk_at "V"
    refine a8 ?_
    walk_at "V"
    refine⟨by rw[cH I.known];rfl,I.aig.rq fun no=>by kernel_rfl,?_⟩;refine(qh v g nn bH bJ [] ⟨rfl,rfl,I.aig,by exact aA (.i 89 (.l .q (.k 3)) (.i 89 (.l .p (.a .o .r)) (.i 89 (.t .r .q) (.G 2 (.l (.b .p) (.k 90)))))) rfl hm b8 l9,fun Y h=>(nomatch h),fun s' cL x mF jN gz kH mh=>?_⟩);have jo:=I.grow mF kH jN;refine jo.put mh (by exact aA (.i 29 (.l .q (.k 3)) (.i 29 (.l .p (.a .o .r)) (.i 29 (.t .r .q) (.G 2 (.t .p (.k 30)))))) rfl hm aK l9) fun fF mZ=>?_;exact⟨rfl,_,_,_,rfl,mZ,by exact aA (.a .r (.a .o .q) (.a .p (.b .r) (.l .p (.a .o (.b .q))))) rfl b8 gz,by simp;exact aq (.a .p (.a .o .q) (.l (.b .p) (.a .o (.b .q)))) rfl aK,by exact aq (.b .p .q (.l (.b .p) .q)) rfl l9⟩
   ·intro n l s;refine bG ?_;intro z aB g;refine eY ?_;rintro rfl I b8 aK az;intro hle;exact a7 _ _ (cF _ _ _ ⟨rfl,I,by exact aA (.a .q (.k 3) (.a .p (.a .o .r) (.a .r .q (.l .p (.k 4))))) rfl hm b8 az,by exact aA (.a .q (.k 3) (.a .p (.a .o .r) (.a .r .q (.l .p (.k 4))))) rfl hm aK az⟩)
 ·intro _ fF;refine bG ?_;intro z aB g;refine cI ?_;rintro rfl I b8 aK;clear xG;refine lC (fun l s=>∃z kg lG,∃(aB:List Nat)(g:List Node),l=[some (.ref h),some (.int many),some (.int 5),some v,some (.ref cV),z,kg,lG]∧ef aF st s h c v cV nn bH bJ aB g∧g.length≤19) (fun a6 a7 Y Y=>?_) ?_
  ·refine ki (fun y s=>∃d:Nat,d≤5∧y=.range 0 (d:Int)∧ef aF st s h c v cV nn bH bJ aB g) (fun a6 a7=>?_) ?_
   ·walk_at "V"
    refine I.pick (m:=6) (by decide) (by decide) fun d o hd jo=>?_
    walk_at "V"
    exact a7 _ _ ⟨d,by exact qm hd rfl,rfl,jo⟩
   ·intro _ kS;refine aj ?_;intro d;refine aY ?_;rintro hd rfl Lo;refine⟨_,fun n l s=>∃z kg lG,∃(aB:List Nat)(g:List Node),l=[some (.ref h),some (.int many),some (.int 5),some v,some (.ref cV),z,kg,lG]∧ef aF st s h c v cV nn bH bJ aB g∧g.length≤4+3*n∧aB.length≤4+n∧n≤d,⟨z,none,none,aB,g,rfl,Lo,by exact aI (.a .p (.k 4) (.l .p (.a (.k 4) (.m 3 .z)))) rfl b8,by exact aI (.a .p (.k 4) (.l .p (.a (.k 4) .z))) rfl aK,by exact aI (.l .z .p) rfl⟩,fun n l s Y=>sY (by exact eZ hd rfl),?_,?_⟩
    ·clear I Lo b8 aK;intro n l s y;refine jt ?_;intro z kg lG aB g;refine eY ?_;rintro rfl I b8 aK az;intro au
     have l9:n<d:=by
      have:=(List.getElem?_eq_some_iff.mp au).1;simpa using this
     walk_at "V"
     refine a8 ?_
     walk_at "V"
     refine I.pick (m:=3) (by decide) (by decide) fun kind o eG jo=>?_
     walk_at "V"
     clear I;generalize s.set h o=iC at jo ⊢;refine a8 ?_;refine nI [none,none,some (.ref h),some (.ref cV)] (by kernel_rfl) (fun v s=>v=.range 0 3∧iC=s) (fun a6 a7=>?_) ?_
     ·walk_at "V"
      exact a7 _ _ ⟨rfl,rfl⟩
     ·intro _ _;refine ar ?_;rintro rfl rfl;have k7:=jo.lt;have ru:=jo.le;have fO:iC.length=iC.length:=rfl;refine⟨_,fun i s=>∃dq:List Nat,ef aF st s h c v cV nn bH bJ aB g∧s[iC.length]?=some (.list (dq.map fun j:Nat=>.int j))∧dq.length=i∧i≤3∧∀x∈dq,Lit g x,⟨[],jo.app _,jz _ _,rfl,by exact ik (.l .z (.k 3)) rfl,fun Y h=>(nomatch h)⟩,fun n s Y=>sY (m:=3) (by exact ik (.l (.k 3) (.k 1000)) rfl),?_,?_⟩
      ·intro i s y;refine aj ?_;intro dq;refine eY ?_;intro bQ aQ i0 Fs qX;intro au
       have hi:i<3:=by
        have:=(List.getElem?_eq_some_iff.mp au).1;simpa using this
       refine⟨fun b s'=>b=true∧s=s',fun a6 a7=>a7 _ _ ⟨rfl,rfl⟩,?_,fun s' cu=>Bool.noConfusion cu.1⟩;intro _;refine ar ?_;rintro _ rfl;have ff:=bQ.xF;have mP:1≤aB.length:=List.length_pos_iff.mpr bQ.ne
       walk_at "V"
       refine neg_int (jU (cH bQ.known) (by rw[List.length_map];exact aA (.i 999999999 (.l .q (.k 5)) (.i 999999999 (.l .p (.a (.k 4) .r)) (.i 999999999 (.t .r .q) (.G 7 (.t .p (.k 1000000000)))))) rfl hd aK l9) ?_);rw[List.length_map]
       walk_at "V"
       refine Vc ?_;refine bQ.pick (by exact(Nat.le_total _ (6:Nat)).elim (fun ay=>aq (.a .o .q (.i (-1) (.e .p .q) (.l .o .p))) rfl mP (Nat.min_eq_left ay)) (fun aE=>aI (.i (-1) (.e .p (.k 6)) (.G 5 (.l .o .p))) rfl (Nat.min_eq_right aE))) (by exact aI (.i 500 (.l .p (.k 6)) (.G 2 (.l .p (.k 1000)))) rfl (Nat.min_le_right _ (6:Nat))) fun jJ sZ xH ry=>?_;have kT:(s.set h sZ)[iC.length]?=some (.list (dq.map fun j:Nat=>.int j)):=by rw[List.getElem?_set_ne (by exact fun ay=>aA (.b .p .q (.a .q .r (.i (-1) (.e .p .r) .f))) rfl bR ru ay)];exact aQ
       generalize s.set h sZ=oW at ry kT ⊢;clear bQ aQ
       walk_at "V"
       have qa:jJ<aB.length:=by exact aA (.b .p .r (.a .r .q (.t .p .q))) rfl xH (Nat.min_le_left _ (6:Nat))
       refine item_list (cH ry.known) (by rw[List.length_map];exact aA (.i 999999999 (.l .q (.k 5)) (.i 999999999 (.l .p (.a (.k 4) .r)) (.i 999999999 (.t .r .q) (.G 7 (.t .p (.k 1000000000)))))) rfl hd aK l9) (x:=.int (aB[aB.length-1-jJ]'(by exact yh mP):Nat)) ?_ ?_
       ·rw[Li (by rw[List.length_map];exact qa),List.length_map,List.getElem?_map,List.getElem?_eq_getElem (by exact yh mP)];rfl
       ·have ai:Lit g (aB[aB.length-1-jJ]'(by exact yh mP)):=ry.lits _ (List.getElem_mem _)
        generalize aB[aB.length-1-jJ]'(by exact yh mP)=x at ai ⊢
        walk_at "V"
        refine ry.pick (m:=2) (by decide) (by decide) fun gK xJ qc nR=>?_;have qd:(oW.set h xJ)[iC.length]?=some (.list (dq.map fun j:Nat=>.int j)):=by rw[List.getElem?_set_ne (by exact fun ay=>aA (.b .p .q (.a .q .r (.i (-1) (.e .p .r) .f))) rfl bR ru ay)];exact kT
        generalize oW.set h xJ=u6 at nR qd ⊢;clear ry kT
        walk_at "V"
        have Lp:∃lZ:Nat,Builtin.bitXor (x:Int) (gK:Int)=(lZ:Int)∧Lit g lZ:=by
         rcases(show gK=0∨gK=1 by exact Ng qc)with rfl|rfl
         ·exact⟨x,xor_zero x,ai⟩
         ·exact⟨flip x,uV x,xA ai⟩
        refine aj ?_ Lp;clear Lp;intro lZ;refine ar ?_;intro ex v5;rw[ex];refine append_at qd (by rw[List.length_map];exact aq (.i 500000 (.e .p .q) (.i 500000 (.t .q (.k 3)) (.l .p (.k 1000000)))) rfl i0 hi) ⟨dq++[lZ],?_,?_,by simp;exact Bq i0,by exact aI (.b .p (.k 3) (.l (.b .p) (.k 3))) rfl hi,fun z aU=>?_⟩
        ·exact nR.Lj qd (by exact aq (.a .p .q (.l .p .q)) rfl ru) (by exact⟨fun ay=>aq (.b .p .q (.c .q .p .f)) rfl k7.1 ay,⟨fun aE=>aq (.b .p .q (.c .q .p .f)) rfl k7.2.1 aE,fun bI=>aq (.b .p .q (.c .q .p .f)) rfl k7.2.2 bI⟩⟩)
        ·rw[List.getElem?_set_self (List.getElem?_eq_some_iff.mp qd).1];simp
        ·rcases List.mem_append.mp aU with aU|aU
         ·exact qX z aU
         ·rw[List.mem_singleton.mp aU];exact v5
      ·intro i s;refine aj ?_;intro dq;refine eY ?_;intro bQ aQ i0 Fs qX;intro hle
       have hi:dq.length=3:=by
        simp at hle;exact Nat.le_antisymm (aq (.c .p .q (.a .q (.k 3) (.l .p (.k 3)))) rfl i0 Fs) (aq (.i (-1) (.e .p .q) (.a (.k 3) .q (.l (.k 3) .p))) rfl i0 hle)
       match dq,hi with
       |[jZ,gq,p2],_=>
        have kQ:=qX jZ (by simp);have kT:=qX gq (by simp);have qd:=qX p2 (by simp);clear qX Fs i0
        have it:∀{s:St}{i x:Nat}{Q:∀Y:ah,∀Y:St,Prop},∀Y:s[iC.length]?=some (.list ([jZ,gq,p2].map fun j:Nat=>.int j)),∀Y:[jZ,gq,p2][i]?=some x,∀Y:Q (.int x) s,ng (.ref iC.length) (.int (i:Nat)) Q s:=fun{s i x Q} ae af aH=>
         item_list (cH ae) (by simp) (x:=.int x) (by rw[gC,List.getElem?_map,af];rfl) aH
        walk_at "V"
        have ku:([jZ,gq,p2]:List Nat)[0]?=some jZ:=rfl;have aS:([jZ,gq,p2]:List Nat)[1]?=some gq:=rfl;have aW:([jZ,gq,p2]:List Nat)[2]?=some p2:=rfl
        have bx:∀{cost:Nat}{ls:List Nat}{Ft:∀Y:ah,∀Y:St,Prop},∀Y:cost≤3,∀Y:(∀x∈ls,Lit g x),∀Y:(∀fF aB g,∀Y:ef aF st fF h c v cV nn bH bJ aB g,∀Y:g.length≤4+3*(n+1),∀Y:aB.length≤4+(n+1),Ft .none fF),kn aF cost ls.length (v::ls.map fun l:Nat=>.int l) (fun u cX=>pH (.ref cV) u Ft cX) s:=by
         intro cost ls Ft Lq kR Vk;refine(qh v g nn bH bJ ls ⟨rfl,rfl,bQ.aig,by exact bA (.i 261 (.l .r (.k 5)) (.i 87 (.l .p (.a (.k 4) (.m 3 .s))) (.i 261 (.t .s .r) (.i 16 (.l .q (.k 3)) (.G 15 (.l (.a .p .q) (.k 90))))))) rfl hd b8 l9 Lq,kR,fun s' cL x mF jN gz kH mh=>?_⟩);have nR:=bQ.grow mF kH jN;exact nR.put mh (by exact aA (.i 29 (.l .q (.k 5)) (.i 29 (.l .p (.a (.k 4) .r)) (.i 29 (.t .r .q) (.G 7 (.t .p (.k 30)))))) rfl hd aK l9) fun fF m0=>Vk fF _ _ m0 (by exact bA (.a .r (.a (.k 4) (.m 3 .q)) (.a .s (.k 3) (.a .p (.a .r .s) (.l .p (.a (.k 4) (.m 3 (.b .q))))))) rfl b8 Lq gz) (by rw[List.length_append,List.length_singleton];exact aq (.a .p (.a (.k 4) .q) (.l (.b .p) (.a (.k 4) (.b .q)))) rfl aK)
        walk_at "V"
        refine a8 ?_;refine gB (kind=0) (fun a6 ae af=>?_) (fun aM=>?_) fun aM=>?_
        ·walk_at "V"
         exact kh (fun h=>ae (by have:=of_decide_eq_true h;lia)) fun h=>af (by have:=of_decide_eq_false h;lia)
        ·refine a8 ?_
         walk_at "V"
         refine⟨by rw[cH bQ.known];rfl,bQ.aig.rq fun no=>by kernel_rfl,?_⟩;refine it (i:=0) aQ ku ?_
         walk_at "V"
         refine it (i:=1) aQ aS ?_;refine bx (cost:=1) (ls:=[jZ,gq]) (by exact ik (.l .o (.k 3)) rfl) (by simp[kQ,kT]) fun fF aB g m0 a1 a2=>⟨rfl,?_⟩;exact(kY _ _ _ _ _ ⟨rfl,m0,a1,a2,by exact aq (.b .p .q (.l (.b .p) .q)) rfl l9⟩)
        ·refine a8 ?_;refine gB (kind=1) (fun a6 ae af=>?_) (fun ae=>?_) fun ae=>?_
         ·walk_at "V"
          exact kh (fun h=>ae (by have:=of_decide_eq_true h;lia)) fun h=>af (by have:=of_decide_eq_false h;lia)
         ·refine a8 ?_
          walk_at "V"
          refine⟨by rw[cH bQ.known];rfl,bQ.aig.rq fun no=>by kernel_rfl,?_⟩;refine it (i:=0) aQ ku ?_
          walk_at "V"
          refine it (i:=1) aQ aS ?_;refine bx (cost:=1) (ls:=[jZ,gq]) (by exact ik (.l .o (.k 3)) rfl) (by simp[kQ,kT]) fun fF aB g m0 a1 a2=>⟨rfl,?_⟩;exact(kY _ _ _ _ _ ⟨rfl,m0,a1,a2,by exact aq (.b .p .q (.l (.b .p) .q)) rfl l9⟩)
         ·refine a8 ?_
          walk_at "V"
          refine⟨by rw[cH bQ.known];rfl,bQ.aig.rq fun no=>by kernel_rfl,?_⟩;refine it (i:=0) aQ ku ?_
          walk_at "V"
          refine it (i:=1) aQ aS ?_
          walk_at "V"
          refine it (i:=2) aQ aW ?_;refine bx (cost:=3) (ls:=[jZ,gq,p2]) (by exact ik (.l (.k 3) (.k 3)) rfl) (by simp[kQ,kT,qd]) fun fF aB g m0 a1 a2=>⟨rfl,?_⟩;exact(kY _ _ _ _ _ ⟨rfl,m0,a1,a2,by exact aq (.b .p .q (.l (.b .p) .q)) rfl l9⟩)
    ·intro n l s;refine jt ?_;intro z kg lG aB g;refine eY ?_;rintro rfl I b8 aK az;intro hle;exact a7 _ _ (kY _ _ _ _ _ ⟨rfl,I,by exact aA (.i 3 (.l .q (.k 5)) (.a .p (.a (.k 4) (.m 3 .r)) (.i 3 (.l .r .q) (.l .p (.k 19))))) rfl hd b8 az⟩)
  ·intro _ iC;refine jt ?_;intro z kg lG aB g;refine aY ?_;rintro rfl I b8;refine a8 ?_
   walk_at "V"
   exact⟨by decide,q _ _ _ _ _ _ _ _ I b8⟩
end Mine
end
section
set_option maxHeartbeats 2000000
namespace Mine
variable{prog:Program}{w:World}{B:Heap}{ak:dB}{k:Nat}
noncomputable def Fv(a:List Int):PyData:=.tuple (a.map .int)
theorem Lr(a b:List Int):PyData.eqv (Fv a) (Fv b)=decide (a=b):=(KU KV a b).symm▸rfl
theorem Fw(n:Nat)(a:List Int):n7 (n+2) (aT a)=some (Fv a):=by
 show(n6 (n7 (n+1)) (a.map .int)).map PyData.tuple=_;rw[KT (f:=n7 (n+1)) (g:=ah.int) (h:=PyData.int) (fun Y=>rfl) a];rfl
theorem Fx{neg:Bool}{a b:List Int}{Q:∀Y:Bool,∀Y:St,Prop} {st:St} (bb:Q (xor neg (decide (a=b))) st):nc neg (aT a) (aT b) Q st:=
 rM (Fw 1 a) (Fw 1 b) (by rw[Lr];exact bb)
theorem Ls{neg:Bool}{m n:Nat}{A B:List (List Int)}{Q:∀Y:Bool,∀Y:St,Prop} {st:St} (ae:listAt (.ref m) st=some (A.map aT)) (af:listAt (.ref n) st=some (B.map aT)) (bb:Q (xor neg (decide (A=B))) st):nc neg (.ref m) (.ref n) Q st:=
 KW (Fw 0) Lr ae af bb
theorem Vl(b:Bool)(bs:List Bool):hasB b (bs.map .bool)=some (decide (b∈bs)):=by
 induction bs with
 |nil=>rfl
 |cons j r ih=>
  show(hasB b (r.map .bool)).map ((j==b)||·)=_;rw[ih];refine congrArg some (Bool.eq_iff_iff.mpr ?_);show((j==b)||decide (b∈r))=true↔_;rw[Bool.or_eq_true,beq_iff_eq,decide_eq_true_iff,decide_eq_true_iff,List.mem_cons,eq_comm]
theorem Fy{b:Bool}{n:Nat}{bs:List Bool}{Q:∀Y:Bool,∀Y:St,Prop} {st:St} (h:listAt (.ref n) st=some (bs.map .bool)) (bb:Q (!decide (b∈bs)) st):pq true (.bool b) (.ref n) Q st:=
 fS (Option.bind_eq_some_iff.mpr ⟨_,h,Vl b bs⟩) (by rw[Bool.true_xor];exact bb)
theorem Fz(a b:Int)(Q:∀Y:Bool,∀Y:St,Prop) (st:St):nc true (.int a) (.int b) Q st=Q (!decide (a=b)) st:=by
 show Q (xor true (a==b)) st=_;have:(a==b)=decide (a=b):=by by_cases h:a=b<;>simp[h]
 rw[this,Bool.true_xor]
theorem comp_map{P:b6}{xi:Nat}{mk:∀Y:Loc,Loc} {fE:b6} {Q:∀Y:ah,∀Y:St,Prop} {loc:Loc} {st:St} (L:Loc) (heq:mk loc=L) {v:ah} {xs:List ah} (f:∀Y:ah,ah) (dj:∀a6:∀Y:ah,∀Y:St,Prop,∀Y:a6 v st,P a6 loc st) (hi:∀g,jv v (st++g)=some xs) (ai:xs.length≤100000)
 (g9:∀y∈xs,∀(a6:∀Y:ah,∀Y:St,Prop) g,∀Y:a6 (f y) (st++g),fE a6 (setV L xi y) (st++g)) (bb:Q (.ref st.length) (st++[.list (xs.map f)])):qK P xi mk (fun{Q}{_}{st}=>Q true st) fE Q loc st:=by
 refine nI L heq (fun u s=>u=v∧st=s) (fun a6 a7=>dj _ (a7 _ _ ⟨rfl,rfl⟩)) ?_;intro _ _;refine ar ?_;rintro rfl rfl;refine(cE xs (fun n s=>st++[.list ((xs.take n).map f)]=s) ⟨by simp,fun n s h=>by rw[←h];exact hi _,?_,?_⟩)
 ·rintro n s y rfl au;have az:n<xs.length:=(List.getElem?_eq_some_iff.mp au).1;refine⟨fun b s'=>b=true∧st++[.list ((xs.take n).map f)]=s',fun a6 a7=>a7 _ _ ⟨rfl,rfl⟩,?_,fun s' cu=>Bool.noConfusion cu.1⟩;intro _;refine ar ?_;rintro _ rfl;refine g9 y (List.mem_of_getElem? au) _ _ ?_;refine oQ (by rw[List.length_map];have:=List.length_take_le n xs;exact aA (.i 1000000 (.l .q (.k 100000)) (.i 1000000 (.t .r .q) (.i 1000000 (.l .p .r) (.G 99998 (.l .p (.k 1000000)))))) rfl ai az this) ?_;show _=_;rw[List.take_add_one,au];simp
 ·rintro n s rfl hle;rw[List.take_of_length_le hle];exact bb
theorem u7{b:Stmt}{P uG:d8}(h:gx prog w B ak k b P)(aQ:∀(Q:∀Y:gj,∀Y:Loc,∀Y:St,Prop) loc st,∀Y:uG Q loc st,P Q loc st):gx prog w B ak k b uG:=by
 intro A env s am loc st Q aL R S q;exact h aL R S (aQ _ _ _ q)
noncomputable def bodyOf:∀Y:Stmt,List Stmt
 |.For _ _ b _ _=>b
 |.If _ b _ _=>b
 |_=>[]
noncomputable def gu(l:List Stmt)(i:Nat):Stmt:=(l.drop i).headD (.Pass default)
theorem u9{P:e9}{br bK:d8}{Q:∀Y:gj,∀Y:Loc,∀Y:St,Prop} {loc:Loc} {st:St} (bf:∀a6:∀Y:Bool,∀Y:St,Prop,∀Y:(∀g,a6 false (st++g)),P a6 loc st)
 (af:∀g,bK Q loc (st++g)):D9 P br bK Q loc st:=
 bf _ fun g=>by rw[if_neg Bool.false_ne_true];exact af g
structure oX(prog:Program)(w:World)(B:Heap)(i n:Nat)(S:∀Y:List ah,∀Y:(∀Y:ah,∀Y:St,Prop),∀Y:St,Prop):Prop where
 ex:∃a:Nat,fN B (bP i).name (.ref a)∧Plain B (.ref a)∧∀k,b9 prog w B (k+n) (.ref a) S
structure rz(prog:Program)(w:World)(B:Heap)(aF ew:Nat):Prop where
 base:ic B
 cls:∃bS,jx B aF bS∧bS "nodes"=none
 dN:typeLookup (.type "object") "nodes"=pure none
 pick:oX prog w B 19 1 uS
 graph:oX prog w B 21 4 (Ff aF)
 sets:oX prog w B 12 5 (Ew aF ew)
 Lu:oX prog w B 23 1 (KX aF)
 Vm:oX prog w B 13 1 (Az aF)
 inputs:oX prog w B 22 1 KS
 of:oX prog w B 20 1 KR
 tab:oX prog w B 15 3 (EE aF)
 Vn:oX prog w B 24 1 EU
 merge:oX prog w B 8 1 En
noncomputable abbrev bN:=∀Y:Nat,Option ah
noncomputable def upd(Z:bN)(k:Nat)(x:Option ah):bN:=fun j=>bif j==k then x else Z j
noncomputable def lo(S Z:bN):bN:=fun j=>bif Nat.blt j 9 then S j else Z j
noncomputable def fr(Z:bN):Loc:=[Z 0,Z 1,Z 2,Z 3,Z 4,Z 5,Z 6,Z 7,Z 8,Z 9,Z 10,Z 11,Z 12,Z 13,Z 14,Z 15,Z 16,Z 17,Z 18,Z 19,Z 20,Z 21,Z 22,Z 23,Z 24,Z 25]
theorem upd_eq(Z:bN)(k:Nat)(x:Option ah)(j:Nat):upd Z k x j=bif j==k then x else Z j:=rfl
theorem fg0(Z:bN):getV (fr Z) 0=Z 0:=rfl
theorem fg1(Z:bN):getV (fr Z) 1=Z 1:=rfl
theorem fg2(Z:bN):getV (fr Z) 2=Z 2:=rfl
theorem fg3(Z:bN):getV (fr Z) 3=Z 3:=rfl
theorem fg4(Z:bN):getV (fr Z) 4=Z 4:=rfl
theorem fg5(Z:bN):getV (fr Z) 5=Z 5:=rfl
theorem fg6(Z:bN):getV (fr Z) 6=Z 6:=rfl
theorem fg7(Z:bN):getV (fr Z) 7=Z 7:=rfl
theorem fg8(Z:bN):getV (fr Z) 8=Z 8:=rfl
theorem fg9(Z:bN):getV (fr Z) 9=Z 9:=rfl
theorem fg10(Z:bN):getV (fr Z) 10=Z 10:=rfl
theorem fg11(Z:bN):getV (fr Z) 11=Z 11:=rfl
theorem fg12(Z:bN):getV (fr Z) 12=Z 12:=rfl
theorem fg13(Z:bN):getV (fr Z) 13=Z 13:=rfl
theorem fg14(Z:bN):getV (fr Z) 14=Z 14:=rfl
theorem fg15(Z:bN):getV (fr Z) 15=Z 15:=rfl
theorem fg16(Z:bN):getV (fr Z) 16=Z 16:=rfl
theorem fg17(Z:bN):getV (fr Z) 17=Z 17:=rfl
theorem fg18(Z:bN):getV (fr Z) 18=Z 18:=rfl
theorem fg19(Z:bN):getV (fr Z) 19=Z 19:=rfl
theorem fg20(Z:bN):getV (fr Z) 20=Z 20:=rfl
theorem fg21(Z:bN):getV (fr Z) 21=Z 21:=rfl
theorem fg22(Z:bN):getV (fr Z) 22=Z 22:=rfl
theorem fg23(Z:bN):getV (fr Z) 23=Z 23:=rfl
theorem fg24(Z:bN):getV (fr Z) 24=Z 24:=rfl
theorem fg25(Z:bN):getV (fr Z) 25=Z 25:=rfl
theorem fs0(Z:bN)(x:ah):setV (fr Z) 0 x=fr (upd Z 0 (some x)):=rfl
theorem fs1(Z:bN)(x:ah):setV (fr Z) 1 x=fr (upd Z 1 (some x)):=rfl
theorem fs2(Z:bN)(x:ah):setV (fr Z) 2 x=fr (upd Z 2 (some x)):=rfl
theorem fs3(Z:bN)(x:ah):setV (fr Z) 3 x=fr (upd Z 3 (some x)):=rfl
theorem fs4(Z:bN)(x:ah):setV (fr Z) 4 x=fr (upd Z 4 (some x)):=rfl
theorem fs5(Z:bN)(x:ah):setV (fr Z) 5 x=fr (upd Z 5 (some x)):=rfl
theorem fs6(Z:bN)(x:ah):setV (fr Z) 6 x=fr (upd Z 6 (some x)):=rfl
theorem fs7(Z:bN)(x:ah):setV (fr Z) 7 x=fr (upd Z 7 (some x)):=rfl
theorem fs8(Z:bN)(x:ah):setV (fr Z) 8 x=fr (upd Z 8 (some x)):=rfl
theorem fs9(Z:bN)(x:ah):setV (fr Z) 9 x=fr (upd Z 9 (some x)):=rfl
theorem fs10(Z:bN)(x:ah):setV (fr Z) 10 x=fr (upd Z 10 (some x)):=rfl
theorem fs11(Z:bN)(x:ah):setV (fr Z) 11 x=fr (upd Z 11 (some x)):=rfl
theorem fs12(Z:bN)(x:ah):setV (fr Z) 12 x=fr (upd Z 12 (some x)):=rfl
theorem fs13(Z:bN)(x:ah):setV (fr Z) 13 x=fr (upd Z 13 (some x)):=rfl
theorem fs14(Z:bN)(x:ah):setV (fr Z) 14 x=fr (upd Z 14 (some x)):=rfl
theorem fs15(Z:bN)(x:ah):setV (fr Z) 15 x=fr (upd Z 15 (some x)):=rfl
theorem fs16(Z:bN)(x:ah):setV (fr Z) 16 x=fr (upd Z 16 (some x)):=rfl
theorem fs17(Z:bN)(x:ah):setV (fr Z) 17 x=fr (upd Z 17 (some x)):=rfl
theorem fs18(Z:bN)(x:ah):setV (fr Z) 18 x=fr (upd Z 18 (some x)):=rfl
theorem fs19(Z:bN)(x:ah):setV (fr Z) 19 x=fr (upd Z 19 (some x)):=rfl
theorem fs20(Z:bN)(x:ah):setV (fr Z) 20 x=fr (upd Z 20 (some x)):=rfl
theorem fs21(Z:bN)(x:ah):setV (fr Z) 21 x=fr (upd Z 21 (some x)):=rfl
theorem fs22(Z:bN)(x:ah):setV (fr Z) 22 x=fr (upd Z 22 (some x)):=rfl
theorem fs23(Z:bN)(x:ah):setV (fr Z) 23 x=fr (upd Z 23 (some x)):=rfl
theorem fs24(Z:bN)(x:ah):setV (fr Z) 24 x=fr (upd Z 24 (some x)):=rfl
theorem fs25(Z:bN)(x:ah):setV (fr Z) 25 x=fr (upd Z 25 (some x)):=rfl
theorem lo0(S Z:bN):lo S Z 0=S 0:=rfl
theorem lo1(S Z:bN):lo S Z 1=S 1:=rfl
theorem lo2(S Z:bN):lo S Z 2=S 2:=rfl
theorem lo3(S Z:bN):lo S Z 3=S 3:=rfl
theorem lo4(S Z:bN):lo S Z 4=S 4:=rfl
theorem lo5(S Z:bN):lo S Z 5=S 5:=rfl
theorem lo6(S Z:bN):lo S Z 6=S 6:=rfl
theorem lo7(S Z:bN):lo S Z 7=S 7:=rfl
theorem lo8(S Z:bN):lo S Z 8=S 8:=rfl
theorem lo9(S Z:bN):lo S Z 9=Z 9:=rfl
theorem lo10(S Z:bN):lo S Z 10=Z 10:=rfl
theorem lo11(S Z:bN):lo S Z 11=Z 11:=rfl
theorem lo12(S Z:bN):lo S Z 12=Z 12:=rfl
theorem lo13(S Z:bN):lo S Z 13=Z 13:=rfl
theorem lo14(S Z:bN):lo S Z 14=Z 14:=rfl
theorem lo15(S Z:bN):lo S Z 15=Z 15:=rfl
theorem lo16(S Z:bN):lo S Z 16=Z 16:=rfl
theorem lo17(S Z:bN):lo S Z 17=Z 17:=rfl
theorem lo18(S Z:bN):lo S Z 18=Z 18:=rfl
theorem lo19(S Z:bN):lo S Z 19=Z 19:=rfl
theorem lo20(S Z:bN):lo S Z 20=Z 20:=rfl
theorem lo21(S Z:bN):lo S Z 21=Z 21:=rfl
theorem lo22(S Z:bN):lo S Z 22=Z 22:=rfl
theorem lo23(S Z:bN):lo S Z 23=Z 23:=rfl
theorem lo24(S Z:bN):lo S Z 24=Z 24:=rfl
theorem lo25(S Z:bN):lo S Z 25=Z 25:=rfl
theorem Lv(Z:bN):fr Z=(List.range 26).map Z:=rfl
theorem AY{A B:bN}:fr A=fr B↔∀k∈List.range 26,A k=B k:=by rw[Lv,Lv,List.map_inj_left]
theorem vc{A B:bN}{k:Nat}{x:Option ah}(h:fr A=fr B):fr (upd A k x)=fr (upd B k x):=AY.mpr fun j aP=>by
 have:=AY.mp h j aP;simp only[upd,this]
theorem Lw{A B Z:bN}(h:fr A=fr B):fr (lo A Z)=fr (lo B Z):=AY.mpr fun j aP=>by
 have:=AY.mp h j aP;simp only[lo,this]
theorem AZ{A F:bN}{k:Nat}(h:fr A=fr (upd F k (A k))):fr A=fr (upd F k (A k)):=h
theorem Lx{A F:bN}{k j:Nat}(h:fr A=fr (upd (upd F k (A k)) j (A j))):fr A=fr (upd (upd F k (A k)) j (A j)):=h
theorem Ly{A F:bN}(h:fr A=fr (lo F A)):fr A=fr (lo F A):=h
structure xK(aF:Nat)(st:St)(v:ah)(g:List Node)(n most:Nat)(cs:List (List (List Int)))(cS:Nat):Prop where
 nodes:kj aF v st=some (g.map fy)
 valid:gR g
 FA:nL g n most cs
 len:cs.length=g.length
 tab:TableAt st cS cs
 eB:1≤n
 p7:n≤3
 m:most≤60
 gl:g.length≤19
theorem Vo{aF ew:Nat}(L:rz prog w B aF ew):gx prog w B (g5 (bP 25).scope.names) (k+5) (gu (bodyOf (gu (bodyOf (gu (bP 25).body 8)) 2)) 3) fun Q loc st=>
 ∃(r t:Nat)(c last:List Int)(aB:List (List Int))(S:bN),loc=fr S∧fr S=fr (upd (upd (upd S 9 (some (aT c))) 11 (some (.ref r))) 12 (some (.int t)))∧
  st[r]?=some (.list ((aB++[last]).map aT))∧aB[t]?=some c∧aB.length≤60∧(∀r∈aB,r.length≤100)∧aB.Pairwise u0∧
  ∀vd s',Q .next (fr (upd S 14 vd)) (st++s'):=by
 have hs:=L.base.hs;have dM:=L.base.len;have ie:=L.base.range;refine@u7 prog w B (g5 (bP 25).scope.names) (k+5) (gu (bodyOf (gu (bodyOf (gu (bP 25).body 8)) 2)) 3) _ _ (j5 (i:=14) (bL ie (.inr (.inl ⟨_,rfl⟩)) called_range (aR (cY rQ (bL dM (.inl ⟨_,rfl⟩) fD (aR (aw (i:=11) (by kernel_rfl)) bg) (by kernel_rfl) (by decide+kernel)) bz) bg) (by kernel_rfl) (by decide+kernel)) (aZ (fQ (mC (c6 nf (aw (i:=14) (by kernel_rfl)) (aw (i:=12) (by kernel_rfl))) (mC (c6 (tK hs) k6 (mL (xi:=1) (c4 (aw (i:=11) (by kernel_rfl)) (aw (i:=14) (by kernel_rfl))) ou (vJ (vN hs) (aw (i:=1) (by kernel_rfl)) (aw (i:=2) (by kernel_rfl))) (by decide+kernel) (by kernel_rfl))) vL)) (aZ (eF k6) bM) bM) bM) (by kernel_rfl) (cj (by decide+kernel))) ?_;intro Q _ st;refine o3 ?_;intro r t c last aB S;refine Bj ?_;rintro rfl dc aC aG ff gP aL q;rw[dc];have uQ:=cH aC;have ib:∀g,listAt (.ref r) (st++g)=some ((aB++[last]).map aT):=fun g=>jA uQ g;refine ki (fun y s=>y=.range 0 (aB.length:Int)∧st=s) (fun a6 a7=>?_) ?_
 ·walk_at "W"
  refine jU uQ (by simp;exact aI (.i 499999999 (.l .p (.k 60)) (.G 29 (.t (.b .p) (.k 1000000000)))) rfl ff) ?_;have e:((((aB++[last]).map aT).length:Nat):Int)-1=(aB.length:Int):=by simp
  walk_at "W"
  rw[e];exact a7 _ _ ⟨rfl,rfl⟩
 ·intro _ _;refine ar ?_;rintro rfl rfl;refine⟨_,fun i l s=>∃vd s',l=fr (upd (upd (upd (upd S 9 (some (aT c))) 11 (some (.ref r))) 12 (some (.int t))) 14 vd)∧st++s'=s∧i≤aB.length,⟨_,[],AZ rfl,by simp,by exact aI (.l .z .p) rfl⟩,fun n l s Y=>sY (by exact eZ ff rfl),?_,?_⟩
  ·intro i l s y;refine bZ ?_;intro vd s';refine aY ?_;rintro rfl rfl hi;intro au
   have lJ:i<aB.length:=by
    have:=(List.getElem?_eq_some_iff.mp au).1;simpa using this
   rw[List.getElem?_map,List.getElem?_range lJ]at au;cases au
   walk_at "W"
   refine a8 (u9 (fun a6 a7=>?_) fun cL=>?_)
   ·walk_at "W"
    rw[Fz];by_cases cG:(0+(i:Int))=(t:Int)
    ·rw[decide_eq_true cG,Bool.not_true,if_neg Bool.false_ne_true];have:=a7 []
     rwa [List.append_nil]at this
    ·rw[decide_eq_false cG,Bool.not_false,if_pos rfl];have cP:i≠t:=by exact fun ay=>(Int.lt_or_gt_of_ne cG).elim (fun aE=>aq (.i (-1) (.e .p .q) (.B (.a (.k 0) (.n .p)) (.n .q) .f)) rfl ay aE) (fun bI=>aq (.c .p .q (.B (.n .q) (.a (.k 0) (.n .p)) .f)) rfl ay bI)
     have hd:aB[i]?=some aB[i]:=List.getElem?_eq_getElem lJ;generalize aB[i]=d at hd;have qa:=gP d (List.mem_of_getElem? hd);refine comp_map [none,none,some (aT c)] (by kernel_rfl) (v:=aT d) (xs:=d.map .int) (fun y=>.bool (match y with|.int x=>decide (x∈c)|_=>false)) (fun a6 jq=>?_) (fun g=>rfl) (by rw[List.length_map];exact eZ qa rfl) ?_ ?_
     ·walk_at "W"
      refine item_list (ib s') (by simp;exact aI (.i 499999999 (.l .p (.k 60)) (.G 29 (.t (.b .p) (.k 1000000000)))) rfl ff) (x:=aT d) ?_ jq;rw[Int.zero_add,gC,List.getElem?_map,List.getElem?_append_left lJ,hd];rfl
     ·intro y au a6 g jq;refine aj ?_ (List.mem_map.mp au);intro x;refine ar ?_;rintro ai rfl
      walk_at "W"
      exact Ar jq
     ·have e:(d.map ah.int).map (fun y=>ah.bool (match y with|.int x=>decide (x∈c)|_=>false))=(d.map fun x=>decide (x∈c)).map .bool:=by simp[List.map_map,Function.comp_def]
      rw[e];refine Fy (iN ..) ?_
      have gk:¬Sub d c:=by
       have mF:=List.pairwise_iff_getElem.mp aL;have Lz:=(List.getElem?_eq_some_iff.mp aG);have AQ:=(List.getElem?_eq_some_iff.mp hd);refine aj ?_ Lz;clear Lz;intro LA n5;refine aj ?_ AQ;clear AQ;intro xH qc;rcases Nat.lt_or_gt_of_ne cP with h|h
       ·have:=(mF i t xH LA h).1
        rwa [qc,n5]at this
       ·have:=(mF t i LA xH h).2
        rwa [qc,n5]at this
      have:decide (false∈d.map fun x=>decide (x∈c))=true:=by
       rw[decide_eq_true_eq];rw[List.mem_map];apply Classical.byContradiction;intro h;exact gk fun x ai=>Classical.byContradiction fun rn=>h ⟨x,ai,decide_eq_false rn⟩
      rw[this]
      walk_at "W"
      have:=a7 [.list ((d.map fun x=>decide (x∈c)).map .bool)];simpa using this
   ·exact(cE _ (s'++cL) ⟨AZ rfl,by simp,by exact aq (.b .p .q (.l (.b .p) .q)) rfl lJ⟩)
  ·intro i l s;refine bZ ?_;intro vd s';refine aY ?_;rintro rfl rfl hi;intro hle;rw[←vc dc];exact q _ _
end Mine
end
section
set_option maxHeartbeats 2000000
namespace Mine
variable{prog:Program}{w:World}{B:Heap}{ak:dB}{k:Nat}
noncomputable def vals(m:Nat)(F:∀Y:Nat,Int):List ah:=(List.range m).map fun i=>.int (F i)
theorem nS(m:Nat)(F:∀Y:Nat,Int):(vals m F).length=m:=by simp[vals]
theorem s4{m i:Nat}{F:∀Y:Nat,Int} (h:i<m):(vals m F)[i]?=some (.int (F i)):=by
 unfold vals;rw[List.getElem?_map,List.getElem?_range h];rfl
theorem LB{m i:Nat}{F:∀Y:Nat,Int} (x:Int):(vals m F).set i (.int x)=vals m fun j=>if j=i then x else F j:=by
 apply List.ext_getElem?;intro j;by_cases aP:j<m
 ·by_cases e:i=j
  ·subst e;rw[List.getElem?_set_self (by rw[nS];exact aP),s4 aP,if_pos rfl]
  ·rw[List.getElem?_set_ne e,s4 aP,s4 aP,if_neg (fun q=>e q.symm)]
 ·rw[List.getElem?_eq_none (by rw[List.length_set,nS];exact aq (.n (.t .q .p) (.l .p .q)) rfl aP),List.getElem?_eq_none (by rw[nS];exact aq (.n (.t .q .p) (.l .p .q)) rfl aP)]
theorem Vp{aF ew:Nat}(L:rz prog w B aF ew):gx prog w B (g5 (bP 25).scope.names) (k+5) (gu (bodyOf (gu (bodyOf (gu (bP 25).body 8)) 2)) 7) fun Q loc st=>
 ∃(p q m:Nat)(c:List Int)(dW F:∀Y:Nat,Int) (S:bN),loc=fr S∧fr S=fr (upd (upd (upd S 9 (some (aT c))) 16 (some (.ref q))) 18 (some (.ref p)))∧
  st[p]?=some (.list (vals m F))∧st[q]?=some (.list (vals c.length dW))∧p≠q∧c.Nodup∧(∀x∈c,1≤x∧x<m)∧m≤100∧c.length≤100∧
  ∀ve ek,∀Y:ek 0=F 0,∀Y:(∀s x,∀Y:c[s]?=some x,ek x.toNat=dW s),Q .next (fr (upd S 19 ve)) (st.set p (.list (vals m ek))):=by
 have hs:=L.base.hs;have dM:=L.base.len;have ie:=L.base.range;refine@u7 prog w B (g5 (bP 25).scope.names) (k+5) (gu (bodyOf (gu (bodyOf (gu (bP 25).body 8)) 2)) 7) _ _ (j5 (i:=19) (bL ie (.inr (.inl ⟨_,rfl⟩)) called_range (aR (bL dM (.inl ⟨_,rfl⟩) fD (aR (aw (i:=9) (by kernel_rfl)) bg) (by kernel_rfl) (by decide+kernel)) bg) (by kernel_rfl) (by decide+kernel)) (aZ (oh (c4 (aw (i:=16) (by kernel_rfl)) (aw (i:=19) (by kernel_rfl))) (aw (i:=18) (by kernel_rfl)) (c4 (aw (i:=9) (by kernel_rfl)) (aw (i:=19) (by kernel_rfl)))) bM) (by kernel_rfl) (cj (by decide+kernel))) ?_;rintro Q _ st ⟨p,q,m,c,dW,F,S,rfl,dc,aQ,bb,Vq,Vr,jd,hm,cf,post⟩;rw[dc];have fO:=(List.getElem?_eq_some_iff.mp aQ).1;refine ki (fun y s=>y=.range 0 (c.length:Int)∧st=s) (fun a6 a7=>?_) ?_
 ·walk_at "W"
  refine mU (by exact fz cf rfl) ?_
  walk_at "W"
  exact a7 _ _ ⟨rfl,rfl⟩
 ·intro _ _;refine ar ?_;rintro rfl rfl;refine⟨_,fun i l s=>∃ve ek,l=fr (upd (upd (upd (upd S 9 (some (aT c))) 16 (some (.ref q))) 18 (some (.ref p))) 19 ve)∧s=st.set p (.list (vals m ek))∧ek 0=F 0∧(∀s x,∀Y:s<i,∀Y:c[s]?=some x,ek x.toNat=dW s)∧i≤c.length,⟨_,F,AZ rfl,?_,rfl,fun s x h=>absurd h (Nat.not_lt_zero _),by exact aI (.l .z .p) rfl⟩,fun n l s Y=>sY (by exact eZ cf rfl),?_,?_⟩
  ·apply List.ext_getElem?;intro j;by_cases e:p=j
   ·subst e;rw[List.getElem?_set_self fO,aQ]
   ·rw[List.getElem?_set_ne e]
  ·intro i l s y;refine bZ ?_;intro ve ek;refine eY ?_;rintro rfl rfl aM bD hi;intro au
   have lJ:i<c.length:=by
    have:=(List.getElem?_eq_some_iff.mp au).1;simpa using this
   rw[List.getElem?_map,List.getElem?_range lJ]at au;cases au
   walk_at "W"
   have iK:(st.set p (.list (vals m ek)))[p]?=some (.list (vals m ek)):=List.getElem?_set_self fO;have jq:(st.set p (.list (vals m ek)))[q]?=some (.list (vals c.length dW)):=by rw[List.getElem?_set_ne Vq];exact bb
   have xM:c[i]?=some c[i]:=List.getElem?_eq_getElem lJ;generalize c[i]=x at xM;have xN:=jd x (List.mem_of_getElem? xM);refine a8 ?_
   walk_at "W"
   refine item_list (cH jq) (by rw[nS];exact fz cf rfl) (x:=.int (dW i)) (by rw[Int.zero_add,gC,s4 lJ]) ?_
   walk_at "W"
   have cG:∀{iW:∀Y:ah,∀Y:St,Prop} {s:St},∀Y:iW (.int x) s,ng (aT c) (.int (0+(i:Int))) iW s:=fun{iW s} h=>by
    refine p5 (by rw[List.length_map];exact fz cf rfl) (x:=.int x) ?_ h;rw[Int.zero_add,gC,List.getElem?_map,xM];rfl
   refine cG ?_;have ex:x=((x.toNat:Nat):Int):=by exact Int.le_antisymm (ck (.A .p (.n .p) (.L .p (.n .p))) rfl [(Int.toNat _)] [_] (Int.self_le_toNat _)) (ck (.ak (.n .p) .p (.L (.n .p) .p)) rfl [(Int.toNat _)] [_] (Int.toNat_of_nonneg (gG (.A (.k 1) .p (.L (.k 0) .p)) rfl xN.1)))
   rw[ex];refine uM iK (by rw[nS];exact ck (.B .p (.n .q) (.ak (.n .p) .p (.t .p .q))) rfl [(Int.toNat _),_] [_] xN.2 (Int.toNat_of_nonneg (gG (.A (.k 1) .p (.L (.k 0) .p)) rfl xN.1))) (by rw[nS];exact eZ hm rfl) ?_;rw[LB,List.set_set];refine(cE _ _ ⟨AZ rfl,rfl,?_,fun s y eg au=>?_,by exact aq (.b .p .q (.l (.b .p) .q)) rfl lJ⟩)
   ·show(if 0=x.toNat then dW i else ek 0)=F 0;rw[if_neg (by exact fun ay=>ck (.A (.k 1) .p (.i (-1) (.e .z .p) (.A .p (.n .p) .f))) rfl [(Int.toNat _)] [_] xN.1 ay (Int.self_le_toNat _))];exact aM
   ·show(if y.toNat=x.toNat then dW i else ek y.toNat)=dW s;have Yl:=jd y (List.mem_of_getElem? au);by_cases e:s=i
    ·subst e;have:y=x:=Option.some.inj (au.symm.trans xM);subst this;rw[if_pos rfl]
    ·rw[if_neg (fun cA=>?_)]
     ·exact bD s y (by exact yg eg e) au
     ·have Vs:y=x:=by exact Nh xN cA
      subst Vs;refine aj ?_ (List.getElem?_eq_some_iff.mp au);intro ae af;refine aj ?_ (List.getElem?_eq_some_iff.mp xM);intro aH bX;exact List.pairwise_iff_getElem.mp Vr s i ae aH (by exact yg eg e) (af.trans bX.symm)
  ·intro i l s;refine bZ ?_;intro ve ek;refine eY ?_;rintro rfl rfl aM bD hi;intro hle;have:i=c.length:=by simp at hle;exact Bu hi hle
   subst this;rw[←vc dc];exact post _ _ aM fun s x h=>bD s x (List.getElem?_eq_some_iff.mp h).1 h
theorem Vt{aF ew:Nat}(L:rz prog w B aF ew):gx prog w B (g5 (bP 25).scope.names) (k+5) (gu (bodyOf (gu (bodyOf (gu (bP 25).body 8)) 2)) 8) fun Q loc st=>
 ∃(p b node:Nat)(v:ah)(g:List Node)(c:List Int)(full:Int)(ys:List Nat)(E F:∀Y:Nat,Int) (S:bN),loc=fr S∧fr S=fr (upd (upd (upd (upd S 4 (some v)) 13 (some (.ref b))) 17 (some (.int full))) 18 (some (.ref p)))∧
  (∀o,kj aF v (st.set p (.list o))=some (g.map fy))∧gR g∧node<g.length∧Cut g c node∧b≠p∧st[b]?=some (.list (ys.map fun j:Nat=>.int j))∧st[p]?=some (.list (vals g.length F))∧ys.Pairwise (·<·)∧(∀j,j∈ys↔Reach g c node j)∧
  (∀i,0≤E i∧E i≤full)∧(∀t,∀Y:0≤t,∀Y:t≤full,Builtin.bitXor t full=full-t)∧
  (∀i l r:Nat,∀Y:(i:Int)∉c,∀Y:i≠0,∀Y:g[i]?=some (some (l,r)),E i=Builtin.bitAnd (jV l (E (l / 2)) full) (jV r (E (r / 2)) full))∧
  (∀i,∀Y:i<g.length,∀Y:(i=0∨(i:Int)∈c),F i=E i)∧
  ∀s5 s6 ek,∀Y:(∀i,∀Y:i<g.length,∀Y:(i=0∨(i:Int)∈c∨i∈ys),ek i=E i),Q .next (fr (upd (upd S 15 s5) 20 s6)) (st.set p (.list (vals g.length ek))):=by
 refine aj ?_ L.cls;intro bS;refine ar ?_;intro X ee;have dN:=L.dN;refine aj ?_ L.of.ex;intro rt;refine aY ?_;intro LC LD AJ;refine@u7 prog w B (g5 (bP 25).scope.names) (k+5) (gu (bodyOf (gu (bodyOf (gu (bP 25).body 8)) 2)) 8) _ _ (j5 (i:=15) (aw (i:=13) (by kernel_rfl)) (aZ (dg (i:=20) (c4 (iL X ee dN (aw (i:=4) (by kernel_rfl))) (aw (i:=15) (by kernel_rfl))) (by kernel_rfl) (cj (by decide+kernel))) (aZ (oh (cY BE (bL LC LD (AJ _) (aR (aw (i:=18) (by kernel_rfl)) (aR (c4 (aw (i:=20) (by kernel_rfl)) bz) (aR (aw (i:=17) (by kernel_rfl)) bg))) (by kernel_rfl) (by decide+kernel)) (bL LC LD (AJ _) (aR (aw (i:=18) (by kernel_rfl)) (aR (c4 (aw (i:=20) (by kernel_rfl)) bz) (aR (aw (i:=17) (by kernel_rfl)) bg))) (by kernel_rfl) (by decide+kernel))) (aw (i:=18) (by kernel_rfl)) (aw (i:=15) (by kernel_rfl))) bM)) (by kernel_rfl) (cj (by decide+kernel))) ?_;rintro Q _ st ⟨p,b,node,v,g,c,full,ys,E,F,S,rfl,dc,az,b7,m5,dR,Vu,av,aQ,eu,ez,g9,Vv,hand,bD,post⟩;rw[dc];have fO:=(List.getElem?_eq_some_iff.mp aQ).1;refine ki (fun y s=>y=.ref b∧st=s) (fun a6 a7=>?_) ?_
 ·walk_at "W"
  exact a7 _ _ ⟨rfl,rfl⟩
 ·intro _ _;refine ar ?_;rintro rfl rfl;refine⟨ys.map fun j:Nat=>.int j,fun i l s=>∃s5 s6 ek,l=fr (upd (upd (upd (upd (upd (upd S 4 (some v)) 13 (some (.ref b))) 17 (some (.int full))) 18 (some (.ref p))) 15 s5) 20 s6)∧s=st.set p (.list (vals g.length ek))∧(∀j,∀Y:j<g.length,∀Y:(j=0∨(j:Int)∈c∨j∈ys.take i),ek j=E j),⟨_,_,F,Lx rfl,?_,fun j aP h=>bD j aP (by simpa using h)⟩,?_,?_,?_⟩
  ·apply List.ext_getElem?;intro j;by_cases e:p=j
   ·subst e;rw[List.getElem?_set_self fO,aQ]
   ·rw[List.getElem?_set_ne e]
  ·intro i l s;refine bG ?_;intro s5 s6 ek;refine aY ?_;rintro rfl rfl vf;exact cH (by rw[List.getElem?_set_ne (Ne.symm Vu)];exact av)
  ·intro i l s y;refine bG ?_;intro s5 s6 ek;refine aY ?_;rintro rfl rfl vf;intro au
   have hi:i<ys.length:=by
    have:=(List.getElem?_eq_some_iff.mp au).1;simpa using this
   have FD:ys[i]?=some ys[i]:=List.getElem?_eq_getElem hi;rw[List.getElem?_map,FD]at au;cases au
   have f9:ys.take (i+1)=ys.take i++[ys[i]]:=by rw[List.take_add_one,FD];rfl
   have bC:∀j∈ys,∀Y:j<ys[i],j∈ys.take i:=fun j aP Vw=>by
    obtain⟨a,aJ,rfl⟩:=List.getElem_of_mem aP
    have:a<i:=by
     apply Classical.byContradiction;intro h;rcases Nat.lt_or_eq_of_le (Nat.le_of_not_lt h)with h|h
     ·have:=List.pairwise_iff_getElem.mp eu i a hi aJ h;exact aq (.b .p .q (.b .q .p (.F 1))) rfl Vw this
     ·subst h;lia
    exact List.mem_take_iff_getElem.mpr ⟨a,by exact(Nat.le_total _ _).elim (fun ay=>aA (.b .p .r (.i (-1) (.e .q .r) (.t .p .q))) rfl this (Nat.min_eq_left ay)) (fun aE=>bA (.b .r .s (.b .p .r (.i (-1) (.e .q .s) (.t .p .q)))) rfl hi this (Nat.min_eq_right aE)),rfl⟩
   have aC:=(ez ys[i]).mp (List.getElem_mem hi);generalize ys[i]=j at FD f9 bC aC;refine aY ?_ aC;clear aC;intro aO A0 A1;refine bZ ?_ ((aO.cut dR).inv A0 A1);intro l r;refine aY ?_;intro e aD aC;have uY:=b7.iO _ _ _ e;have jX:=aO.lt b7 m5
   have known:∀x,∀Y:kO g c node x,∀Y:x<j,ek x=E x:=fun x ai zW=>by
    refine vf x (by exact aA (.b .r .q (.b .p .r (.t .p .q))) rfl jX zW) ?_;by_cases aM:x=0
    ·exact .inl aM
    ·by_cases aG:(x:Int)∈c
     ·exact .inr (.inl aG)
     ·exact .inr (.inr (bC x ((ez x).mpr ⟨ai,aG,aM⟩) zW))
   have Vx:=known _ (.left aO A0 A1 e) uY.1;have Vy:=known _ (.right aO A0 A1 e) uY.2.1;have iK:(st.set p (.list (vals g.length ek)))[p]?=some (.list (vals g.length ek)):=List.getElem?_set_self fO;have oY:=b7.len
   walk_at "W"
   refine a8 (lD (az _) fun x ai=>?_)
   walk_at "W"
   refine item_list ai (by rw[List.length_map];exact fz oY rfl) (x:=.tup [.int l,.int r]) (by rw[gC,List.getElem?_map,e];rfl) ?_
   walk_at "W"
   refine a8 ?_
   walk_at "W"
   refine p5 (by simp) (i:=((0:Nat):Int)) (x:=.int l) (by rw[gC];rfl) ?_
   walk_at "W"
   refine(kY (.ref p) (vals g.length ek) l (E (l / 2)) full ⟨rfl,cH iK,by rw[nS];exact eZ oY rfl,by rw[s4 (by exact aA (.b .p .r (.b .r .q (.t .p .q))) rfl uY.1 jX),Vx],?_⟩)
   walk_at "W"
   refine p5 (by simp) (i:=((1:Nat):Int)) (x:=.int r) (by rw[gC];rfl) ?_
   walk_at "W"
   refine(kY (.ref p) (vals g.length ek) r (E (r / 2)) full ⟨rfl,cH iK,by rw[nS];exact eZ oY rfl,by rw[s4 (by exact aA (.b .p .r (.b .r .q (.t .p .q))) rfl uY.2.1 jX),Vy],?_⟩)
   walk_at "W"
   have lo:∀l x,ofT l (E x) full=jV l (E x) full:=fun l x=>by
    unfold ofT jV;rw[Vv _ (g9 x).1 (g9 x).2]
   rw[lo,lo,←hand j l r A0 A1 e];refine uM iK (by rw[nS];exact aq (.b .p .q (.t .p .q)) rfl jX) (by rw[nS];exact eZ oY rfl) ?_;rw[LB,List.set_set];refine(cF _ _ _ ⟨Lx rfl,rfl,fun x ai h=>?_⟩);show(if x=j then E j else ek x)=E x;by_cases FE:x=j
   ·subst FE;rw[if_pos rfl]
   ·rw[if_neg FE];refine vf x ai ?_;rw[f9]at h;simpa [FE]using h
  ·intro i l s;refine bG ?_;intro s5 s6 ek;refine aY ?_;rintro rfl rfl vf;intro hle;rw[List.take_of_length_le (by simpa using hle)]at vf;rw[←vc (vc dc)];exact post _ _ _ vf
end Mine
end
section
set_option maxHeartbeats 2000000
namespace Mine
variable{prog:Program}{w:World}{B:Heap}{ak:dB}{k:Nat}
theorem Vz:∀n,∀Y:n<4,∀t,∀Y:t<n,nO t n=lE t n:=by decide+kernel
theorem VA:∀n,∀Y:n<4,∀t,∀Y:t<n,0≤lE t n∧lE t n≤gb n:=by decide+kernel
theorem VB:∀n,∀Y:n<4,∀t:Nat,∀Y:t<256,∀Y:(t:Int)≤gb n,Builtin.bitXor (t:Int) (gb n)=gb n-t:=by decide+kernel
theorem LF:∀n,∀Y:n<4,0≤gb n∧gb n≤255:=by decide+kernel
theorem VC{n:Nat}(h:n<4)(t:Int)(ae:0≤t)(af:t≤gb n):Builtin.bitXor t (gb n)=gb n-t:=by
 have:=LF n h;have e:=VB n h t.toNat (by exact Ni af this) (by exact Nj af this)
 rwa [Int.toNat_of_nonneg ae]at e
theorem VD{a b f:Int}(ae:0≤a)(af:0≤b)(aH:a≤f):0≤Builtin.bitAnd a b∧Builtin.bitAnd a b≤f:=by
 rw[PyProof.Rows.bitAnd_pp ae af];have:a.toNat &&& b.toNat≤a.toNat:=Nat.and_le_left;exact⟨aI (.L (.k 0) (.n .p)) rfl,ck (.A .q .p (.a .p .q (.ak (.n .q) .q (.L (.n .p) .p)))) rfl [_,(Int.toNat _)] [_,_] aH this (Int.toNat_of_nonneg (gG (.A (.k 0) .p (.L (.k 0) .p)) rfl ae))⟩
set_option tactic.hygienic true in
theorem LG{g:List Node}{dW:∀Y:Nat,Int} {c:List Int} {full:Int} (bq:0≤full) (ai:∀t,∀Y:0≤t,∀Y:t≤full,Builtin.bitXor t full=full-t) (hw:∀s,∀Y:s<c.length,0≤dW s∧dW s≤full):∀n i,0≤jW g dW c full n i∧jW g dW c full n i≤full
 |0,_=>⟨Int.le_refl _,bq⟩
 |n+1,i=>by
  have lit:∀l x,0≤jV l (jW g dW c full n x) full∧jV l (jW g dW c full n x) full≤full:=fun l x=>by
   have:=LG (g:=g) bq ai hw n x;unfold jV
   split
   ·rw[ai _ this.1 this.2];exact⟨nV (.A .q .p (.L (.k 0) (.s .p .q))) rfl this.2,nV (.A (.k 0) .q (.L (.s .p .q) .p)) rfl this.1⟩
   ·exact this
  unfold jW
  split
  ·rename_i s e;refine hw s ?_;have:=List.findIdx?_eq_some_iff_getElem.mp e;exact this.1
  ·split
   ·exact⟨Int.le_refl _,bq⟩
   ·split
    ·exact VD (lit _ _).1 (lit _ _).1 (lit _ _).2
    ·exact⟨Int.le_refl _,bq⟩
theorem VE(n:Nat):gb n=2^2^n-1:=rfl
theorem VF:∀n,∀Y:n<4,(0:Int)≤2^n∧(2:Int)^n≤1000∧((2:Int)^n).toNat=2^n:=by decide+kernel
theorem VG{ms ys:List Int}(az:ms.Nodup)(h:jk ur.blt ms ys):dK ys:=by
 have ae:ys.Nodup:=h.1.nodup_iff.mpr az;have hw:ys.Pairwise fun x y=>EA y x=false:=h.2;refine(hw.and ae).imp fun{x y} h=>?_;refine ar ?_ h;clear h;intro ae af;have aH:¬(y<x):=of_decide_eq_false ae;exact(Int.lt_or_gt_of_ne af).elim (fun ay=>nV (.B .p .q (.T .p .q)) rfl ay) (fun aE=>nV (.i 2 (.o (.T .q .p)) (.B .q .p (.T .p .q))) rfl aH aE)
theorem FF{x:ah}{ns:List Int}{st:St}{Q:∀Y:ah,∀Y:St,Prop} (h:ky x st=some (ns.map .int)) (aD:ns.length<900) (bb:∀ys ms,∀Y:dK ys,∀Y:(∀z,z∈ys↔z∈ns),Q (.ref (st.length+1)) (st++[.set ms,.list (ys.map .int)])):one DH [x] (fun v aV=>one DN [v] Q aV) st:=by
 refine⟨ns,h,aD,fun ms kL ez=>?_⟩;have e:setAt (.ref st.length) (st++[.set ms])=some ms:=by simp[setAt]
 have nE:=u2 kL fun z aU=>(ez z).mp aU;refine .inl ⟨ms,.inr (.inr e),by exact aq (.i 1000000 (.t .q (.k 900)) (.i 1000000 (.l .p .q) (.G 898 (.l .p (.k 1000000))))) rfl aD nE,fun ys eu=>?_⟩;have:=bb ys ms (VG kL eu) fun z=>(eu.1.mem_iff).trans (ez z);simpa using this
theorem VH{a b:List Nat}(aJ:a.Pairwise (·<·))(av:b.Pairwise (·<·))(h:∀j,j∈a↔j∈b):a=b:=by
 have key:a.map (fun j:Nat=>(j:Int))=b.map (fun j:Nat=>(j:Int)):=by
  refine sR ?_ ?_ fun z=>?_
  ·exact List.pairwise_map.mpr (aJ.imp fun q=>by exact aq (.b .p .q (.T (.n .p) (.n .q))) rfl q)
  ·exact List.pairwise_map.mpr (av.imp fun q=>by exact aq (.b .p .q (.T (.n .p) (.n .q))) rfl q)
  ·simp only[List.mem_map,h]
 have e:∀l:List Nat,(l.map fun j:Nat=>(j:Int)).map Int.toNat=l:=fun l=>by rw[List.map_map];exact List.map_id'' (fun x=>by simp) l
 rw[←e a,key,e]
theorem VI{a:List Int}{Q:∀Y:ah,∀Y:St,Prop} {st:St} (aD:a.length<1000) (bb:Q (.ref st.length) (st++[.list (a.map .int)])):one BT [aT a] Q st:=by
 show fY (ky (aT a) st) (fun xs=>xs.length≤1000000∧Q (.ref st.length) (st++[.list xs]));exact fS (a:=a.map .int) rfl ⟨by rw[List.length_map];exact qm aD rfl,bb⟩
theorem list_list{n:Nat}{xs:List ah}{Q:∀Y:ah,∀Y:St,Prop} {st:St} (h:listAt (.ref n) st=some xs) (aD:xs.length<1000) (bb:Q (.ref st.length) (st++[.list xs])):one BT [.ref n] Q st:=by
 show fY (ky (.ref n) st) (fun xs=>xs.length≤1000000∧Q (.ref st.length) (st++[.list xs]));exact fS (a:=xs) h ⟨by exact qm aD rfl,bb⟩
theorem VJ{b:Nat}{Q:∀Y:Bool,∀Y:St,Prop} {st:St} (h:Q false st):pj false (.ref b) .none Q st:=h
theorem LH{A F:bN}{k j:Nat}{x y:Option ah}(h:fr A=fr (upd (upd (lo F A) k x) j y)):fr A=fr (upd (upd (lo F A) k x) j y):=h
theorem VK{F Z:bN}{x y:Option ah}:fr (upd (upd (lo F Z) 10 x) 11 y)=fr (lo F (upd (upd Z 10 x) 11 y)):=rfl
theorem VL{aF ew:Nat}(L:rz prog w B aF ew):gx prog w B (g5 (bP 25).scope.names) (k+5) (gu (bodyOf (gu (bP 25).body 8)) 2) fun Q loc st=>
 ∃(r node n:Nat)(v:ah)(g:List Node)(aB:List (List Int))(S:bN),loc=fr S∧fr S=fr (upd (upd (upd (upd S 4 (some v)) 6 (some (.int n))) 10 (some (.int node))) 11 (some (.ref r)))∧
  kj aF v st=some (g.map fy)∧gR g∧1≤node∧node<g.length∧n≤3∧st[r]?=some (.list ((aB++[[(node:Int)]]).map aT))∧AO g n node aB∧aB.length≤60∧
  ∀Z s',Q .next (fr (lo S Z)) (st++s'):=by
 have hs:=L.base.hs;have dM:=L.base.len;have ie:=L.base.range;have FG:=L.base.list;have xO:=L.base.set;have lF:=L.base.sorted;refine aj ?_ L.cls;intro bS;refine ar ?_;intro X ee;have dN:=L.dN;refine aj ?_ L.Lu.ex;intro VM;refine aY ?_;intro FH FI xw;refine aj ?_ L.Vm.ex;intro AF;refine aY ?_;intro EH EI xm;refine aj ?_ L.inputs.ex;intro AU;refine aY ?_;intro VN VO EL;refine aj ?_ L.tab.ex;intro Ym;refine aY ?_;intro VP VQ EF;refine@u7 prog w B (g5 (bP 25).scope.names) (k+5) (gu (bodyOf (gu (bP 25).body 8)) 2) _ _ (j5 (i:=12) (bL ie (.inr (.inl ⟨_,rfl⟩)) called_range (aR (cY rQ (bL dM (.inl ⟨_,rfl⟩) fD (aR (aw (i:=11) (by kernel_rfl)) bg) (by kernel_rfl) (by decide+kernel)) bz) bg) (by kernel_rfl) (by decide+kernel)) (aZ (dg (i:=9) (c4 (aw (i:=11) (by kernel_rfl)) (aw (i:=12) (by kernel_rfl))) (by kernel_rfl) (cj (by decide+kernel))) (aZ (dg (i:=13) (bL FH FI (xw _) (aR (aw (i:=4) (by kernel_rfl)) (aR (aw (i:=10) (by kernel_rfl)) (aR (aw (i:=9) (by kernel_rfl)) bg))) (by kernel_rfl) (by decide+kernel)) (by kernel_rfl) (cj (by decide+kernel))) (aZ (fQ (gX (c6 nf (bL FG (.inr (.inl ⟨_,rfl⟩)) called_list (aR (aw (i:=9) (by kernel_rfl)) bg) (by kernel_rfl) (by decide+kernel)) (bL lF (.inl ⟨_,rfl⟩) (q2 hs) (aR (bL xO (.inr (.inl ⟨_,rfl⟩)) called_set (aR (aw (i:=9) (by kernel_rfl)) bg) (by kernel_rfl) (by decide+kernel)) bg) (by kernel_rfl) (by decide+kernel))) (gX (c6 cmp_gt (bL dM (.inl ⟨_,rfl⟩) fD (aR (aw (i:=9) (by kernel_rfl)) bg) (by kernel_rfl) (by decide+kernel)) (aw (i:=6) (by kernel_rfl))) (gX (c6 vK (aw (i:=13) (by kernel_rfl)) lR) (gX (c6 (vN hs) (aw (i:=10) (by kernel_rfl)) (aw (i:=9) (by kernel_rfl))) (gX (c6 nf (bL FG (.inr (.inl ⟨_,rfl⟩)) called_list (aR (bL EH EI (xm _) (aR (aw (i:=4) (by kernel_rfl)) (aR (aw (i:=10) (by kernel_rfl)) (aR (aw (i:=9) (by kernel_rfl)) bg))) (by kernel_rfl) (by decide+kernel)) bg) (by kernel_rfl) (by decide+kernel)) (aw (i:=13) (by kernel_rfl))) pn))))) (aZ (eF k6) bM) bM) (aZ (Vo L) (aZ (dg (i:=16) (bL VN VO (EL _) (aR (bL dM (.inl ⟨_,rfl⟩) fD (aR (aw (i:=9) (by kernel_rfl)) bg) (by kernel_rfl) (by decide+kernel)) bg) (by kernel_rfl) (by decide+kernel)) (by kernel_rfl) (cj (by decide+kernel))) (aZ (dg (i:=17) (cY rQ (cY vH bz (cY vH bz (bL dM (.inl ⟨_,rfl⟩) fD (aR (aw (i:=9) (by kernel_rfl)) bg) (by kernel_rfl) (by decide+kernel)))) bz) (by kernel_rfl) (cj (by decide+kernel))) (aZ (dg (i:=18) (cY vR (jc (aR bz bg)) (bL dM (.inl ⟨_,rfl⟩) fD (aR (iL X ee dN (aw (i:=4) (by kernel_rfl))) bg) (by kernel_rfl) (by decide+kernel))) (by kernel_rfl) (cj (by decide+kernel))) (aZ (Vp L) (aZ (Vt L) (aZ (fQ (c6 nf (bL VP VQ (EF _) (aR (aw (i:=4) (by kernel_rfl)) (aR (aw (i:=10) (by kernel_rfl)) (aR (aw (i:=9) (by kernel_rfl)) bg))) (by kernel_rfl) (by decide+kernel)) (c4 (aw (i:=18) (by kernel_rfl)) (aw (i:=10) (by kernel_rfl)))) (aZ (eF k6) bM) bM) bM)))))))))) (by kernel_rfl) (cj (by decide+kernel))) ?_;rintro Q _ st ⟨r,node,n,v,g,aB,S,rfl,dc,b8,b7,uR,m5,ko,aC,fW,ff,post⟩;rw[dc];have uQ:=cH aC;have oY:=b7.len;refine ki (fun y s=>y=.range 0 (aB.length:Int)∧st=s) (fun a6 a7=>?_) ?_
 ·walk_at "W"
  refine jU uQ (by simp;exact aI (.i 499999999 (.l .p (.k 60)) (.G 29 (.t (.b .p) (.k 1000000000)))) rfl ff) ?_;have e:((((aB++[[(node:Int)]]).map aT).length:Nat):Int)-1=(aB.length:Int):=by simp
  walk_at "W"
  rw[e];exact a7 _ _ ⟨rfl,rfl⟩
 ·intro _ _;refine ar ?_;rintro rfl rfl;refine⟨_,fun i l s=>∃Z s',l=fr (upd (upd (lo (upd (upd (upd (upd S 4 (some v)) 6 (some (.int n))) 10 (some (.int node))) 11 (some (.ref r))) Z) 10 (some (.int node))) 11 (some (.ref r)))∧s=st++s'∧i≤aB.length,⟨_,[],LH rfl,by simp,by exact aI (.l .z .p) rfl⟩,fun n l s Y=>sY (by exact eZ ff rfl),?_,?_⟩
  ·intro i l s y;refine bZ ?_;intro Z s';refine aY ?_;rintro rfl rfl hi;intro au
   have lJ:i<aB.length:=by
    have:=(List.getElem?_eq_some_iff.mp au).1;simpa using this
   rw[List.getElem?_map,List.getElem?_range lJ]at au;have xP:y=.int (i:Nat):=by rw[←Option.some.inj au];show ah.int (0+(i:Int))=_;rw[Int.zero_add]
   subst xP;clear au;have aG:aB[i]?=some aB[i]:=List.getElem?_eq_getElem lJ;generalize aB[i]=c at aG;have jd:=List.mem_of_getElem? aG;have iZ:=fW.good c jd;have cf:=fW.len c jd;have bC:=fW.lt c jd;have LI:=gQ b8 s';have jC:(st++s')[r]?=some (.list ((aB++[[(node:Int)]]).map aT)):=dS aC s';have hlen:st.length≤(st++s').length:=by rw[List.length_append];exact aq (.l .p (.a .p .q)) rfl
   walk_at "W"
   refine a8 ?_
   walk_at "W"
   refine item_list (cH jC) (by simp;exact aI (.i 499999999 (.l .p (.k 60)) (.G 29 (.t (.b .p) (.k 1000000000)))) rfl ff) (x:=aT c) (by rw[gC,List.getElem?_map,List.getElem?_append_left lJ,aG];rfl) ?_
   walk_at "W"
   refine a8 ?_
   walk_at "W"
   refine(dX v g node c ⟨rfl,LI,b7,m5,fun Y ys g1 eu ez=>?_,fun h=>absurd iZ.cut h⟩);have xQ:c.length<4:=by exact aq (.a .q (.k 3) (.a .p .q (.t .p (.k 4)))) rfl ko cf
   have LJ:(0:Int)∉c:=fun h=>by have:=(iZ.ge 0 h).1;exact ik (.A (.k 1) (.k 0) .f) rfl this
   have vg:(st++s'++g1++[bB.list (ys.map fun j:Nat=>.int j)])[(st++s').length+g1.length]?=some (.list (ys.map fun j:Nat=>.int j)):=by rw[←List.length_append];exact jz _ _
   generalize (st++s').length+g1.length=b at vg ⊢;rw[List.append_assoc,List.append_assoc]at vg ⊢;generalize s'++(g1++[bB.list (ys.map fun j:Nat=>.int j)])=s2 at vg ⊢;clear LI jC
   walk_at "W"
   refine a8 (u9 (fun a6 a7=>?_) fun g2=>?_)
   ·have VR:∀g,a6 false (st++(s2++g)):=fun g=>by rw[←List.append_assoc];exact a7 g
    walk_at "W"
    refine VI (by exact aq (.i 333 (.l .q (.k 3)) (.i 333 (.l .p .q) (.t .p (.k 1000)))) rfl ko cf) ?_
    walk_at "W"
    refine FF (x:=aT c) (ns:=c) rfl (by exact aq (.i 899 (.l .q (.k 3)) (.i 899 (.l .p .q) (.G 2 (.t .p (.k 900))))) rfl ko cf) fun zs ms aU VS=>?_;rw[sR aU iZ.inc VS]
    walk_at "W"
    refine ES (a:=c) (b:=c) (jA (iN ..) _) (cH (kM _ _ 1)) ?_;rw[decide_eq_true rfl,Bool.not_true,if_neg Bool.false_ne_true];refine mU (by exact aq (.i 333333 (.l .q (.k 3)) (.i 333333 (.l .p .q) (.t .p (.k 1000000)))) rfl ko cf) ?_
    walk_at "W"
    refine i7 (fun h=>by exact(aq (.a .p .q (.B (.n .q) (.n .p) .f)) rfl cf h:False).elim) fun Y=>?_
    walk_at "W"
    refine VJ ?_;rw[if_neg Bool.false_ne_true];refine Ar (i7 (fun h=>by have:=bC _ h;exact(aI (.B (.n .p) (.n .p) .f) rfl this:False).elim) fun Y=>?_)
    walk_at "W"
    refine(dX v g node c ⟨rfl,gQ (gQ (gQ b8 _) _) _,b7,m5,iZ.cut,fun Yn g3 xP lj=>?_⟩);rw[VH xP eu fun j=>(lj j).trans (ez j).symm]
    have kN:ys.length≤g.length:=by
     have ae:(ys.map fun j:Nat=>(j:Int)).length≤((List.range g.length).map fun j:Nat=>(j:Int)).length:=
      u2 (List.pairwise_map.mpr (eu.imp fun q=>by exact fun ay=>aq (.b .p .q (.i (-1) (.E (.n .p) (.n .q)) .f)) rfl q ay)) fun x ai=>by
       refine aj ?_ (List.mem_map.mp ai);intro j;refine ar ?_;rintro aP rfl;have:=((ez j).mp aP).1.lt b7 m5;exact List.mem_map.mpr ⟨j,List.mem_range.mpr this,rfl⟩
     simpa using ae
    refine list_list (cH (by rw[←List.length_append];exact jz _ _)) (by rw[List.length_map];exact aq (.i 999 (.l .q (.k 100)) (.i 999 (.l .p .q) (.G 99 (.t .p (.k 1000))))) rfl oY kN) ?_
    walk_at "W"
    have em:ys.map (fun j:Nat=>ah.int j)=(ys.map fun j:Nat=>(j:Int)).map .int:=by rw[List.map_map];rfl
    refine ES (a:=ys.map fun j:Nat=>(j:Int)) (b:=ys.map fun j:Nat=>(j:Int)) (by rw[em];exact iN ..) (by rw[←em];exact cH (dS (dS (dS (dS (dS vg _) _) _) _) _)) ?_;rw[decide_eq_true rfl,Bool.not_true,if_neg Bool.false_ne_true];simp only[List.append_assoc];exact VR _
   ·have A2:=dS vg g2;rw[List.append_assoc]at A2 ⊢;generalize s2++g2=fF at A2 ⊢;clear vg
    walk_at "W"
    refine a8 (qh r i c [(node:Int)] aB _ ⟨rfl,rfl,dS aC _,aG,ff,fun r aC=>by have:=fW.len r aC;exact aq (.i 100 (.l .q (.k 3)) (.i 100 (.l .p .q) (.G 2 (.l .p (.k 100))))) rfl ko this,fW.u1,fun vd lO=>?_⟩);have j9:=dS A2 lO;rw[List.append_assoc]at j9 ⊢;generalize fF++lO=kS at j9 ⊢;clear A2
    walk_at "W"
    refine a8 ?_
    walk_at "W"
    refine mU (by exact aq (.i 333333 (.l .q (.k 3)) (.i 333333 (.l .p .q) (.t .p (.k 1000000)))) rfl ko cf) ?_
    walk_at "W"
    refine⟨c.length,rfl,by exact aq (.i 4 (.l .q (.k 3)) (.i 4 (.l .p .q) (.G 2 (.l .p (.k 4))))) rfl ko cf,fun FJ=>?_⟩;have VT:=(List.getElem?_eq_some_iff.mp j9).1;have jP:(st++kS++bB.list ((List.range c.length).map fun t=>.int (nO t c.length))::FJ)[(st++kS).length]?=some (.list (vals c.length fun t=>nO t c.length)):=by simp[vals]
    have xR:=dS j9 (bB.list ((List.range c.length).map fun t=>.int (nO t c.length))::FJ);generalize VU:(st++kS).length=q at jP VT ⊢;rw[List.append_assoc]at jP xR ⊢;generalize kS++bB.list ((List.range c.length).map fun t=>.int (nO t c.length))::FJ=iC at jP xR ⊢;clear j9 VU
    walk_at "W"
    refine a8 ?_
    walk_at "W"
    refine mU (by exact aq (.i 333333 (.l .q (.k 3)) (.i 333333 (.l .p .q) (.t .p (.k 1000000)))) rfl ko cf) ?_
    walk_at "W"
    have bf:(c.length:Int).toNat=c.length:=Int.toNat_natCast _;have wW:=VF c.length xQ;refine⟨⟨by exact aI (.L (.k 0) (.n .p)) rfl,by exact aq (.i 1000 (.l .q (.k 3)) (.i 1000 (.l .p .q) (.G 2 (.L (.n .p) (.k 1000))))) rfl ko cf,by decide⟩,?_⟩;rw[bf]
    walk_at "W"
    refine⟨⟨wW.1,wW.2.1,by decide⟩,?_⟩;rw[wW.2.2]
    walk_at "W"
    rw[←VE];refine a8 ?_
    walk_at "W"
    refine⟨by decide,?_⟩
    walk_at "W"
    refine lD (gQ (gQ b8 _) _) fun x ai=>jU ai (by rw[List.length_map];exact fz oY rfl) ?_;rw[List.length_map];refine TQ (iN ..) (by exact aI (.L (.k 0) (.n .p)) rfl) (by exact aI (.i 1000 (.l .p (.k 100)) (.L (.n .p) (.k 100000))) rfl oY) ?_
    have AP:List.replicate (g.length:Int).toNat (ah.int 0)=vals g.length fun Y=>0:=by
     rw[Int.toNat_natCast];unfold vals;rw[List.map_const',List.length_range]
    rw[AP];have FL:=dS (dS jP [.list [.int 0]]) [.list (vals g.length fun Y=>0)];have FN:=dS (dS xR [.list [.int 0]]) [.list (vals g.length fun Y=>0)];have kQ:(st++iC++[bB.list [.int 0]]++[bB.list (vals g.length fun Y=>0)])[(st++iC++[bB.list [.int 0]]).length]?=some (.list (vals g.length fun Y=>0)):=jz _ _;have Yo:=(List.getElem?_eq_some_iff.mp jP).1;have LK:(st++iC++[bB.list [.int 0]]).length=st.length+(iC.length+1):=by simp
    have cP:(st++iC).length<st.length+(iC.length+1):=by rw[List.length_append];exact aq (.t (.a .p .q) (.a .p (.b .q))) rfl
    rw[LK]at kQ ⊢;generalize iC.length+1=p at kQ cP ⊢;rw[List.append_assoc,List.append_assoc]at FL FN kQ ⊢;generalize iC++([bB.list [.int 0]]++[bB.list (vals g.length fun Y=>0)])=oW at FL FN kQ ⊢;have Yp:=(List.getElem?_eq_some_iff.mp xR).1;clear LK AP ai xR jP
    walk_at "W"
    refine a8 (vo (st.length+p) q g.length c (fun t=>nO t c.length) (fun Y=>0) _ ⟨rfl,rfl,kQ,FL,by lia,iZ.inc.nodup,fun x ai=>?_,oY,by exact aq (.i 100 (.l .q (.k 3)) (.i 100 (.l .p .q) (.G 2 (.l .p (.k 100))))) rfl ko cf,fun ve ek aM bD=>?_⟩)
    ·have ae:=iZ.ge x ai;have af:=bC x ai;exact⟨gG (.A (.k 1) .p (.L (.k 1) .p)) rfl ae.1,ck (.b .q .p (.A .p (.n .q) (.T .p (.n .p)))) rfl [_,_] [_] m5 ae.2⟩
    ·have fO:=(List.getElem?_eq_some_iff.mp kQ).1;rw[nH]
     have LL:(st++oW.set p (.list (vals g.length ek)))[b]?=some (.list (ys.map fun j:Nat=>.int j)):=by
      rw[←nH,List.getElem?_set_ne (by lia)];exact FN
     have FO:(st++oW.set p (.list (vals g.length ek)))[st.length+p]?=some (.list (vals g.length ek)):=by
      rw[←nH];exact List.getElem?_set_self fO
     generalize oW.set p (.list (vals g.length ek))=u6 at LL FO ⊢;have ai:=fun t ae af=>VC xQ t ae af
     have g9:∀i,0≤ev g (fun s=>lE s c.length) c (gb c.length) i∧ev g (fun s=>lE s c.length) c (gb c.length) i≤gb c.length:=fun i=>
      LG (LF _ xQ).1 ai (fun s eg=>VA _ xQ s eg) _ _
     have VV:∀i,∀Y:i<g.length,∀Y:(i=0∨(i:Int)∈c),ek i=ev g (fun s=>lE s c.length) c (gb c.length) i:=by
      rintro i fV (rfl|AR)
      ·rw[aM,KE LJ]
      ·obtain⟨s,oV,LM⟩:=List.getElem_of_mem AR;rw[KD iZ.inc oV LM];have:=bD s (i:Int) (by rw[List.getElem?_eq_getElem oV,LM]);rw[Int.toNat_natCast]at this;rw[this];exact Vz _ xQ s oV
     walk_at "W"
     refine a8 (Mw (st.length+p) b node v g c (gb c.length) ys (ev g (fun s=>lE s c.length) c (gb c.length)) ek _ ⟨rfl,rfl,fun o=>?_,b7,m5,iZ.cut,by lia,LL,FO,eu,ez,g9,ai,fun i l r ae af aH=>KG b7 ae af aH,VV,fun s5 s6 xS VW=>?_⟩)
     ·rw[nH];exact gQ b8 _
     ·have FP:((st++u6).set (st.length+p) (.list (vals g.length xS)))[st.length+p]?=some (.list (vals g.length xS)):=List.getElem?_set_self (List.getElem?_eq_some_iff.mp FO).1;rw[nH]at FP ⊢;generalize u6.set p (.list (vals g.length xS))=LN at FP ⊢
      walk_at "W"
      refine a8 (u9 (fun a6 a7=>?_) fun FQ=>?_)
      ·walk_at "W"
       refine(dX v g node c ⟨rfl,gQ b8 _,b7,m5,iZ.cut,iZ.inc,by exact aq (.i 4 (.l .q (.k 3)) (.i 4 (.l .p .q) (.G 2 (.l .p (.k 4))))) rfl ko cf,LJ,fun FQ=>?_⟩)
       walk_at "W"
       refine item_list (jA (cH FP) FQ) (by rw[nS];exact fz oY rfl) (x:=.int (xS node)) (by rw[gC,s4 m5]) ?_;rw[Fz];have sf:node∈ys:=(ez node).mpr ⟨.base,fun h=>by have:=bC _ h;exact aI (.B (.n .p) (.n .p) .f) rfl this,by exact vz uR⟩;have:rm g c node=xS node:=by rw[VW node m5 (.inr (.inr sf))];rfl
       rw[decide_eq_true this];exact a7 FQ
      ·rw[List.append_assoc];exact(cE _ _ ⟨LH rfl,rfl,by exact aq (.b .p .q (.l (.b .p) .q)) rfl lJ⟩)
  ·intro i l s;refine bZ ?_;intro Z s';refine aY ?_;rintro rfl rfl hi;intro hle;rw[VK,←Lw dc];exact post _ _
end Mine
end
section
set_option maxHeartbeats 2000000
namespace Mine
variable{prog:Program}{w:World}{B:Heap}{ak:dB}{k:Nat}
theorem VX{xs:List ah}{y:ah}:pick (xs++[y]) (-1)=some y:=by
 have:=Li (xs:=xs++[y]) (d:=0) (by simp);simpa using this
theorem FT{a:List Int}{Q:∀Y:ah,∀Y:St,Prop} {st:St} (aD:a.length<1000) (bb:Q (aT a) st):one yE [aT a] Q st:=by
 show fY (ky (aT a) st) (fun xs=>xs.length≤1000000∧Q (.tup xs) st);exact fS (a:=a.map .int) rfl ⟨by rw[List.length_map];exact qm aD rfl,bb⟩
theorem isNone_none{Q:∀Y:Bool,∀Y:St,Prop} {st:St} (h:Q true st):pj false (fy none) .none Q st:=h
theorem VY{l r:Nat}{Q:∀Y:Bool,∀Y:St,Prop} {st:St} (h:Q false st):pj false (fy (some (l,r))) .none Q st:=h
theorem VZ{aF ew:Nat}(L:rz prog w B aF ew):gx prog w B (g5 (bP 25).scope.names) (k+5) (gu (bP 25).body 8) fun Q loc st=>
 ∃(cS n most:Nat)(v:ah)(g:List Node)(cs:List (List (List Int)))(S:bN),loc=fr S∧fr S=fr (upd (upd (upd (upd S 4 (some v)) 6 (some (.int n))) 7 (some (.int most))) 8 (some (.ref cS)))∧
  xK aF st v g n most cs cS∧
  ∀Z s',Q .next (fr (lo S Z)) (st++s'):=by
 have hs:=L.base.hs;have dM:=L.base.len;have ie:=L.base.range;have oR:=L.base.tuple;refine aj ?_ L.cls;intro bS;refine ar ?_;intro X ee;have dN:=L.dN;refine@u7 prog w B (g5 (bP 25).scope.names) (k+5) (gu (bP 25).body 8) _ _ (j5 (i:=10) (bL ie (.inr (.inl ⟨_,rfl⟩)) called_range (aR bz (aR (bL dM (.inl ⟨_,rfl⟩) fD (aR (iL X ee dN (aw (i:=4) (by kernel_rfl))) bg) (by kernel_rfl) (by decide+kernel)) bg)) (by kernel_rfl) (by decide+kernel)) (aZ (dg (i:=11) (c4 (aw (i:=8) (by kernel_rfl)) (aw (i:=10) (by kernel_rfl))) (by kernel_rfl) (cj (by decide+kernel))) (aZ (fQ (gX (c6 nf (bL oR (.inr (.inl ⟨_,rfl⟩)) called_tuple (aR (c4 (aw (i:=11) (by kernel_rfl)) (vM bz)) bg) (by kernel_rfl) (by decide+kernel)) (lT (aR (aw (i:=10) (by kernel_rfl)) bg))) (gX (mC (c6 vK (c4 (iL X ee dN (aw (i:=4) (by kernel_rfl))) (aw (i:=10) (by kernel_rfl))) lR) (mC (c6 cmp_gt (bL dM (.inl ⟨_,rfl⟩) fD (aR (aw (i:=11) (by kernel_rfl)) bg) (by kernel_rfl) (by decide+kernel)) bz) vL)) (gX (c6 cmp_gt (bL dM (.inl ⟨_,rfl⟩) fD (aR (aw (i:=11) (by kernel_rfl)) bg) (by kernel_rfl) (by decide+kernel)) (cY pg (aw (i:=7) (by kernel_rfl)) bz)) pn))) (aZ (eF k6) bM) bM) (aZ (VL L) bM))) (by kernel_rfl) (cj (by decide+kernel))) ?_;intro Q _ st;refine Mn ?_;intro cS n most v g cs S;refine cI ?_;rintro rfl dc I post;rw[dc];refine aj ?_ I.tab;intro rs;refine aY ?_;intro mr gP p8;have p6:=I.gl;have cf:=I.len;have hm:=I.m;refine ki (fun y s=>y=.range 1 (g.length:Int)∧st=s) (fun a6 a7=>?_) ?_
 ·walk_at "W"
  refine lD I.nodes fun x ai=>jU ai (by rw[List.length_map];exact fz p6 rfl) ?_;rw[List.length_map];exact a7 _ _ ⟨rfl,rfl⟩
 ·intro _ _;refine ar ?_;rintro rfl rfl;refine⟨(List.range ((g.length:Int)-1).toNat).map fun i:Nat=>.int (1+(i:Nat)),fun i l s=>∃Z s',l=fr (lo (upd (upd (upd (upd S 4 (some v)) 6 (some (.int n))) 7 (some (.int most))) 8 (some (.ref cS))) Z)∧s=st++s',⟨_,[],Ly rfl,by simp⟩,?_,?_,?_⟩
  ·rintro i l s _;exact sO (by exact ik (.L (.k (-1000000)) (.k 1)) rfl) (by exact ik (.L (.k 1) (.k 1000000)) rfl) (by exact aI (.L (.k (-1000000)) (.n .p)) rfl) (by exact aI (.i 1000000 (.l .p (.k 19)) (.G 18 (.L (.n .p) (.k 1000000)))) rfl p6)
  ·intro i l s y;refine bZ ?_;intro Z s';refine ar ?_;rintro rfl rfl;intro au
   have hi:i+1<g.length:=by
    have:=(List.getElem?_eq_some_iff.mp au).1;simp at this;exact aA (.b .p .r (.c (.b .r) .q (.t (.b .p) .q))) rfl this (Nat.sub_add_cancel (aA (.b .q .r (.a .r .p (.l .o .p))) rfl this (Nat.sub_le _ (1:Nat))))
   rw[List.getElem?_map,List.getElem?_range (by exact aA (.b (.b .p) .r (.A (.s (.n .r) (.k 1)) (.n .q) (.t .p .q))) rfl hi (Int.self_le_toNat (((_:Nat):Int)-(1:Int))))]at au
   have xP:y=.int ((i+1:Nat):Int):=by
    rw[←Option.some.inj au];show ah.int (1+(i:Int))=_;rw[show(1:Int)+(i:Int)=((i+1:Nat):Int) by exact Br]
   subst xP;clear au;have aG:cs[i+1]?=some cs[i+1]:=List.getElem?_eq_getElem (by exact aA (.i (-1) (.e .q .r) (.b (.b .p) .r (.t (.b .p) .q))) rfl cf hi);generalize cs[i+1]=c at aG;refine aj ?_ (p8 _ _ aG);intro r;refine aY ?_;intro jC A3 rA;refine aj ?_ (E8 I.valid I.FA (by exact aI (.l .o (.b .p)) rfl) aG);intro aB;refine cI ?_;rintro rfl fW ff mP;have A4:=dS rA s';have LO:=(List.getElem?_eq_some_iff.mp jC).1;generalize m5:i+1=node at hi aG jC fW mP rA A4 LO ⊢
   walk_at "W"
   refine a8 ?_
   walk_at "W"
   refine item_list (jA (cH mr) _) (by rw[List.length_map];exact aA (.i 999999999 (.e .p .q) (.i 999999999 (.l .r (.k 19)) (.i 999999999 (.e .q .r) (.G 18 (.t .p (.k 1000000000)))))) rfl gP p6 cf) (x:=.ref r) (by rw[gC,List.getElem?_map,jC];rfl) ?_
   walk_at "W"
   have hlen:((aB++[[(node:Int)]]).map aT).length=aB.length+1:=by simp
   refine a8 (u9 (fun a6 a7=>?_) fun g2=>?_)
   ·have V0:a6 false (st++s'):=by
     have:=a7 []
     rwa [List.append_nil]at this
    walk_at "W"
    refine neg_int (item_list (cH A4) (by rw[hlen];exact aq (.i 499999999 (.l .q (.k 60)) (.i 499999999 (.l .p .q) (.G 29 (.t (.b .p) (.k 1000000000))))) rfl hm ff) (x:=aT [(node:Int)]) (by rw[List.map_append];exact VX) ?_)
    walk_at "W"
    refine FT (by simp) ?_
    walk_at "W"
    refine⟨by decide,?_⟩;refine Fx (a:=[(node:Int)]) (b:=[(node:Int)]) ?_;rw[decide_eq_true rfl,Bool.true_xor,Bool.not_true,if_neg Bool.false_ne_true]
    have fin:one rV [.ref r] (fun a aV=>ph (fun a b=>decide (a>b)) a (.int ((most:Int)+1)) (fun b aV=>if b=true then a6 true aV else a6 false aV) aV) (st++s'):=by
     refine jU (cH A4) (by rw[hlen];exact aq (.i 499999999 (.l .q (.k 60)) (.i 499999999 (.l .p .q) (.G 29 (.t (.b .p) (.k 1000000000))))) rfl hm ff) ?_;rw[hlen]
     walk_at "W"
     exact i7 (fun h=>by exact(aq (.a .p .q (.B (.a (.n .q) (.k 1)) (.n (.b .p)) .f)) rfl ff h:False).elim) fun Y=>V0
    refine lD (gQ I.nodes _) fun x ai=>?_;have s7:g[node]?=some g[node]:=List.getElem?_eq_getElem hi;generalize g[node]=d4 at s7;refine item_list ai (by rw[List.length_map];exact fz p6 rfl) (x:=fy d4) (by rw[gC,List.getElem?_map,s7];rfl) ?_;cases d4 with
    |none=>
     refine isNone_none ?_;rw[if_pos rfl];refine jU (cH A4) (by rw[hlen];exact aq (.i 499999999 (.l .q (.k 60)) (.i 499999999 (.l .p .q) (.G 29 (.t (.b .p) (.k 1000000000))))) rfl hm ff) ?_;rw[hlen,mP s7]
     walk_at "W"
     exact i7 (fun h=>by simp at h) fun Y=>fin
    |some sT=>
     obtain⟨ia,c5⟩:=sT;refine VY ?_;rw[if_neg Bool.false_ne_true];exact fin
   ·rw[List.append_assoc]
    walk_at "W"
    refine a8 (vo r node n v g aB _ ⟨rfl,rfl,gQ I.nodes _,I.valid,by exact aq (.c (.b .q) .p (.l .o .p)) rfl m5,hi,I.p7,dS rA _,fW,by exact aq (.a .q (.k 60) (.a .p .q (.l .p (.k 60)))) rfl hm ff,fun Yq s2=>?_⟩);rw[List.append_assoc];exact(cE _ _ ⟨Ly rfl,rfl⟩)
  ·intro i l s;refine bZ ?_;intro Z s';refine ar ?_;rintro rfl rfl;intro hle;rw[←Lw dc];exact post _ _
end Mine
end
section
set_option maxHeartbeats 2000000
namespace Mine
variable{prog:Program}{w:World}{B:Heap}{ak:dB}{k:Nat}
theorem V1{Q:∀Y:Bool,∀Y:St,Prop} {st:St} (h:Q false st):pj true (fy none) .none Q st:=h
theorem V2{l r:Nat}{Q:∀Y:Bool,∀Y:St,Prop} {st:St} (h:Q true st):pj true (fy (some (l,r))) .none Q st:=h
theorem V3{P:b6}{xi:Nat}{mk:∀Y:Loc,Loc} {fE:b6} {Q:∀Y:ah,∀Y:St,Prop} {loc:Loc} {kJ st:St} (L:Loc) (heq:mk loc=L) {v:ah} {xs:List ah} (f:∀Y:ah,ah) (dj:∀a6:∀Y:ah,∀Y:St,Prop,∀Y:a6 v st,P a6 loc kJ) (hi:∀g,jv v (st++g)=some xs) (ai:xs.length≤100000)
 (g9:∀y∈xs,∀(a6:∀Y:ah,∀Y:St,Prop) g,∀Y:a6 (f y) (st++g),fE a6 (setV L xi y) (st++g)) (bb:Q (.ref st.length) (st++[.list (xs.map f)])):qK P xi mk (fun{Q}{_}{st}=>Q true st) fE Q loc kJ:=by
 refine nI L heq (fun u s=>u=v∧st=s) (fun a6 a7=>dj _ (a7 _ _ ⟨rfl,rfl⟩)) ?_;intro _ _;refine ar ?_;rintro rfl rfl;refine(cE xs (fun n s=>st++[.list ((xs.take n).map f)]=s) ⟨by simp,fun n s h=>by rw[←h];exact hi _,?_,?_⟩)
 ·rintro n s y rfl au;have az:n<xs.length:=(List.getElem?_eq_some_iff.mp au).1;refine⟨fun b s'=>b=true∧st++[.list ((xs.take n).map f)]=s',fun a6 a7=>a7 _ _ ⟨rfl,rfl⟩,?_,fun s' cu=>Bool.noConfusion cu.1⟩;intro _;refine ar ?_;rintro _ rfl;refine g9 y (List.mem_of_getElem? au) _ _ ?_;refine oQ (by rw[List.length_map];have:=List.length_take_le n xs;exact aA (.i 1000000 (.l .q (.k 100000)) (.i 1000000 (.t .r .q) (.i 1000000 (.l .p .r) (.G 99998 (.l .p (.k 1000000)))))) rfl ai az this) ?_;show _=_;rw[List.take_add_one,au];simp
 ·rintro n s rfl hle;rw[List.take_of_length_le hle];exact bb
theorem V4{α:Type}{P:b6}{xi:Nat}{mk:∀Y:Loc,Loc} {fE:b6} {Q:∀Y:ah,∀Y:St,Prop} {loc:Loc} {st:St} (L:Loc) (heq:mk loc=L) {v:ah} (zs:List α) (h f:∀Y:α,ah) (dj:∀a6:∀Y:ah,∀Y:St,Prop,∀Y:a6 v st,P a6 loc st) (hi:∀g,jv v (st++g)=some (zs.map h)) (ai:zs.length≤100000)
 (g9:∀z∈zs,∀(a6:∀Y:ah,∀Y:St,Prop) g,∀Y:(∀g2,a6 (f z) (st++g++g2)),fE a6 (setV L xi (h z)) (st++g)) (bb:∀g,Q (.ref st.length) (st++.list (zs.map f)::g)):qK P xi mk (fun{Q}{_}{st}=>Q true st) fE Q loc st:=by
 refine nI L heq (fun u s=>u=v∧st=s) (fun a6 a7=>dj _ (a7 _ _ ⟨rfl,rfl⟩)) ?_;intro _ _;refine ar ?_;rintro rfl rfl;refine⟨zs.map h,fun n s=>∃g,st++.list ((zs.take n).map f)::g=s,⟨[],by simp⟩,fun n s⟨g,e⟩=>by rw[←e];exact hi _,?_,?_⟩
 ·intro n s y;refine aj ?_;rintro g rfl;intro au;have az:n<zs.length:=by simpa using(List.getElem?_eq_some_iff.mp au).1
  have aU:zs[n]?=some zs[n]:=List.getElem?_eq_getElem az;rw[List.getElem?_map,aU]at au;cases au
  refine⟨fun b s'=>b=true∧st++.list ((zs.take n).map f)::g=s',fun a6 a7=>a7 _ _ ⟨rfl,rfl⟩,?_,fun s' cu=>Bool.noConfusion cu.1⟩;intro _;refine ar ?_;rintro _ rfl;refine g9 zs[n] (List.getElem_mem az) _ _ fun g2=>?_;refine append_at (xs:=(zs.take n).map f) (by rw[List.append_assoc];simp) (by rw[List.length_map];have:=List.length_take_le n zs;exact aA (.i 1000000 (.l .q (.k 100000)) (.i 1000000 (.t .r .q) (.i 1000000 (.l .p .r) (.G 99998 (.l .p (.k 1000000)))))) rfl ai az this) ⟨g++g2,?_⟩;have f9:(zs.take (n+1)).map f=(zs.take n).map f++[f zs[n]]:=by rw[List.take_add_one,aU,List.map_append];rfl
  rw[List.append_assoc,oP,f9];simp only[List.cons_append,List.set_cons_zero]
 ·intro n s;refine aj ?_;rintro g rfl;intro hle;rw[List.take_of_length_le (by simpa using hle)];exact bb g
noncomputable def oZ(row other:List Int):Bool:=!decide (other=row)&&decide (∀x∈other,x∈row)
open Classical in
theorem V5{aF ew:Nat}(L:rz prog w B aF ew):gx prog w B (g5 (bP 25).scope.names) (k+5) (gu (bP 25).body 10) fun Q loc st=>
 ∃(cS n most last:Nat)(v:ah)(g:List Node)(cs:List (List (List Int)))(S:bN),loc=fr S∧fr S=fr (upd (upd (upd (upd (upd S 4 (some v)) 6 (some (.int n))) 7 (some (.int most))) 8 (some (.ref cS))) 21 (some (.int last)))∧
  xK aF st v g n most cs cS∧g.length=last+1∧
  ∀LP LQ s',Q .next (fr (upd (upd S 22 LP) 23 LQ)) (st++s'):=by
 have hs:=L.base.hs;have dM:=L.base.len;have ie:=L.base.range;have oR:=L.base.tuple;have lF:=L.base.sorted;refine aj ?_ L.cls;intro bS;refine ar ?_;intro X ee;have dN:=L.dN;refine aj ?_ L.Lu.ex;intro VM;refine aY ?_;intro FH FI xw;refine aj ?_ L.Vn.ex;intro V6;refine aY ?_;intro V7 V8 EV;refine@u7 prog w B (g5 (bP 25).scope.names) (k+5) (gu (bP 25).body 10) _ _ (fQ (mC (c6 jK (aw (i:=7) (by kernel_rfl)) bz) (mC (c6 BJ (c4 (iL X ee dN (aw (i:=4) (by kernel_rfl))) (aw (i:=21) (by kernel_rfl))) lR) (mC (c6 qy (bL dM (.inl ⟨_,rfl⟩) fD (aR (iL X ee dN (aw (i:=4) (by kernel_rfl))) bg) (by kernel_rfl) (by decide+kernel)) bz) vL))) (aZ (dg (i:=22) (mL (xi:=1) (bL V7 V8 (EV _) (aR (bL ie (.inr (.inl ⟨_,rfl⟩)) called_range (aR bz (aR (aw (i:=21) (by kernel_rfl)) bg)) (by kernel_rfl) (by decide+kernel)) (aR (aw (i:=6) (by kernel_rfl)) bg)) (by kernel_rfl) (by decide+kernel)) (za (c6 BJ (bL FH FI (xw _) (aR (aw (i:=2) (by kernel_rfl)) (aR (aw (i:=3) (by kernel_rfl)) (aR (aw (i:=1) (by kernel_rfl)) bg))) (by kernel_rfl) (by decide+kernel)) lR)) (aw (i:=1) (by kernel_rfl)) (by decide+kernel) (by kernel_rfl)) (by kernel_rfl) (cj (by decide+kernel)) (hs:=by intro env af;rcases env with⟨⟨kind,names⟩⟩;cases af;cases kind<;>kernel_rfl)) (aZ (H7 (wx:=23) (xi:=1) (aw (i:=22) (by kernel_rfl)) (za (c6 (tK hs) k6 (mL (xi:=1) (aw (i:=2) (by kernel_rfl)) ou (TG (vJ nf (aw (i:=1) (by kernel_rfl)) (aw (i:=2) (by kernel_rfl))) (vJ (tK hs) k6 (mL (xi:=1) (aw (i:=1) (by kernel_rfl)) ou (vJ (vN hs) (aw (i:=1) (by kernel_rfl)) (aw (i:=2) (by kernel_rfl))) (by decide+kernel) (by kernel_rfl)))) (by decide+kernel) (by kernel_rfl)))) (aw (i:=1) (by kernel_rfl)) (by decide+kernel) (by kernel_rfl) (by kernel_rfl) (cj (by decide+kernel)) (by intro env ae af;rcases env with⟨⟨kind,names⟩⟩;cases ae;cases af;kernel_rfl)) (aZ (fQ (c6 nf (bL lF (.inl ⟨_,rfl⟩) (q2 hs) (aR (mL (xi:=1) (BP (c4 (aw (i:=8) (by kernel_rfl)) (aw (i:=21) (by kernel_rfl))) (vM bz)) ou (bL oR (.inr (.inl ⟨_,rfl⟩)) called_tuple (aR (aw (i:=1) (by kernel_rfl)) bg) (by kernel_rfl) (by decide+kernel)) (by decide+kernel) (by kernel_rfl)) bg) (by kernel_rfl) (by decide+kernel)) (bL lF (.inl ⟨_,rfl⟩) (q2 hs) (aR (aw (i:=23) (by kernel_rfl)) bg) (by kernel_rfl) (by decide+kernel))) (aZ (eF k6) bM) bM) bM))) bM) ?_;intro Q _ st;refine Mp ?_;intro cS n most last v g cs S;refine eY ?_;rintro rfl dc I aD post;rw[dc];have p6:=I.gl;have hm:=I.m;have cf:=I.len;have ko:=I.p7;have oD:=post (S 22) (S 23) [];have ku:fr (upd (upd S 22 (S 22)) 23 (S 23))=fr S:=rfl;rw[List.append_nil,ku,dc]at oD;have s7:g[last]?=some g[last]:=List.getElem?_eq_getElem (by exact aq (.i (-1) (.e .q (.b .p)) (.t .p .q)) rfl aD);generalize g[last]=d4 at s7;refine gB (most=60∧d4≠none∧g.length<9) (fun a6 ae af=>?_) (fun h=>?_) fun h=>oD
 ·walk_at "W"
  refine i7 (fun h=>?_) fun h=>af fun q=>h (by exact Int.le_antisymm (aI (.c .p (.k 60) (.L (.n .p) (.k 60))) rfl q.1) (aI (.i (-1) (.e .p (.k 60)) (.L (.k 60) (.n .p))) rfl q.1));refine lD I.nodes fun x ai=>?_;refine item_list ai (by rw[List.length_map];exact fz p6 rfl) (x:=fy d4) (by rw[gC,List.getElem?_map,s7];rfl) ?_
  have qe:∀c,∀Y:d4≠none,∀Y:(g.length<9↔c=true),pj true (fy d4) .none (fun b aV=>if b=true then sq aF (Str.ofString "nodes") v (fun v aV=>one rV [v] (fun a aV=>ph (fun a b=>decide (a<b)) a (.int 9) (fun b aV=>if b=true then a6 true aV else a6 false aV) aV) aV) aV else a6 false aV) st:=by
   intro c kL _;obtain⟨⟨l,r⟩,rfl⟩:=Option.ne_none_iff_exists'.mp kL;refine V2 ?_;rw[if_pos rfl];refine lD I.nodes fun x ai=>jU ai (by rw[List.length_map];exact fz p6 rfl) ?_;rw[List.length_map]
   walk_at "W"
   exact i7 (fun jh=>ae ⟨by exact Nat.le_antisymm (aI (.ak (.n .p) (.k 60) (.l .p (.k 60))) rfl h) (aI (.i (-1) (.E (.n .p) (.k 60)) (.l (.k 60) .p)) rfl h),by simp,by exact aI (.B (.n .p) (.k 9) (.t .p (.k 9))) rfl jh⟩) fun jh=>af fun q=>jh (by exact aI (.b .p (.k 9) (.T (.n .p) (.k 9))) rfl q.2.2)
  by_cases kL:d4=none
  ·subst kL;refine V1 ?_;rw[if_neg Bool.false_ne_true];exact af fun q=>q.2.1 rfl
  ·exact qe (decide (g.length<9)) kL (by simp)
 ·refine aY ?_ h;clear h;rintro rfl kL jh
  have jR:1≤last:=by
   apply Classical.byContradiction;intro h;have aM:last=0:=by exact Nat.le_antisymm (aI (.n (.l .o .p) (.l .p .z)) rfl h) (aI (.l .z .p) rfl)
   subst aM;exact kL (Option.some.inj (s7.symm.trans I.valid.zero))
  have A5:=Lf (last-1) (by exact(Nat.le_total (1:Nat) _).elim (fun ay=>aA (.i (-1) (.e .q (.b .r)) (.b .q (.k 9) (.c (.b .p) .r (.t .p (.k 7))))) rfl aD jh (Nat.sub_add_cancel ay)) (fun aE=>aq (.i 6 (.l .q .o) (.i 6 (.l .p .q) (.t .p (.k 7)))) rfl aE (Nat.sub_le _ (1:Nat)))) n (by exact fz ko rfl)
  walk_at "W"
  refine a8 ?_;refine nI [none,none,some v,some (.int last)] (by kernel_rfl) (fun y s=>∃s',y=.ref (st++s').length∧s=st++s'++[.list ((ig (last-1) n).map aT)]) (fun a6 a7=>?_) ?_
  ·walk_at "W"
   show EU [.range 1 (last:Int),.int n] a6 st;refine(cE (last-1) n ⟨by rw[show((last-1:Nat):Int)+1=(last:Int) by exact Int.le_antisymm (aq (.c (.b .p) .q (.L (.a (.n .p) (.k 1)) (.n .q))) rfl (Nat.sub_add_cancel (aI (.a .o .p (.l .o .p)) rfl jR))) (aq (.a .p (.b .q) (.L (.n .p) (.a (.n .q) (.k 1)))) rfl (b5 _ (1:Nat)))],by exact aA (.i (-10) (.e .q (.b .r)) (.i 10 (.t .q (.k 9)) (.i 10 (.l .p .r) (.G 6 (.l .p (.k 10)))))) rfl aD jh (Nat.sub_le _ (1:Nat)),fun s'=>?_⟩);rw[←List.length_append];exact a7 _ _ ⟨s',rfl,rfl⟩
  ·intro _ _;refine aj ?_;intro s';refine ar ?_;rintro rfl rfl;have A6:∀g,listAt (.ref (st++s').length) (st++s'++[.list ((ig (last-1) n).map aT)]++g)=some ((ig (last-1) n).map aT):=fun g=>jA (iN ..) g;have A7:=fun g=>gQ (gQ (gQ I.nodes s') [.list ((ig (last-1) n).map aT)]) g;have qb:dz g last n=(ig (last-1) n).filter fun r=>decide (Cut g r last):=rfl;have oV:∀r∈ig (last-1) n,r.length≤n:=fun r aC=>((AN n (last-1) r).mp aC).2.2;generalize ig (last-1) n=rows at A5 A6 A7 qb oV ⊢;generalize LR:st++s'++[bB.list (rows.map aT)]=gN at A6 A7 ⊢;refine⟨rows.map aT,fun i s=>∃cL,s=gN++bB.list (((rows.take i).filter fun r=>decide (Cut g r last)).map aT)::cL,⟨[],by simp⟩,?_,?_,?_⟩
   ·intro i s;refine aj ?_;rintro cL rfl;exact A6 _
   ·intro i s y;refine aj ?_;rintro cL rfl;intro au;have hi:i<rows.length:=by simpa using(List.getElem?_eq_some_iff.mp au).1
    have mW:rows[i]?=some rows[i]:=List.getElem?_eq_getElem hi;rw[List.getElem?_map,mW]at au;cases au
    have f9:(rows.take (i+1)).filter (fun r=>decide (Cut g r last))=(rows.take i).filter (fun r=>decide (Cut g r last))++[rows[i]].filter fun r=>decide (Cut g r last):=by rw[List.take_add_one,mW,←List.filter_append];rfl
    have km:((rows.take i).filter fun r=>decide (Cut g r last)).length≤42:=Nat.le_trans (List.length_filter_le ..) (by have:=List.length_take_le i rows;exact aA (.i 42 (.l .q (.k 42)) (.i 42 (.t .r .q) (.i 42 (.l .p .r) (.G 40 (.l .p (.k 42)))))) rfl A5 hi this);generalize (rows.take i).filter (fun r=>decide (Cut g r last))=dD at f9 km ⊢;generalize rows[i]=row at f9 mW ⊢;refine⟨fun b s=>b=decide (Cut g row last)∧∃cL,s=gN++bB.list (dD.map aT)::cL,fun a6 a7=>?_,?_,?_⟩
    ·walk_at "W"
     refine(dX v g last row ⟨rfl,A7 _,I.valid,by exact aq (.i (-1) (.e .q (.b .p)) (.t .p .q)) rfl aD,fun aG ys g2 ae af=>?_,fun aG g2=>?_⟩)
     ·refine a7 true _ ⟨(decide_eq_true aG).symm,cL++g2++[bB.list (ys.map fun j:Nat=>.int j)],by simp⟩
     ·refine a7 false _ ⟨(decide_eq_false aG).symm,cL++g2,by simp⟩
    ·rintro _ ⟨av,cL,rfl⟩
     walk_at "W"
     refine append_at (xs:=dD.map aT) (by simp) (by rw[List.length_map];exact eZ km rfl) ⟨cL,?_⟩;rw[oP,f9,List.filter_cons,if_pos av.symm];simp
    ·rintro _ ⟨av,cL,rfl⟩;refine⟨cL,?_⟩;rw[f9,List.filter_cons,if_neg (by rw[←av];exact Bool.false_ne_true)];simp
   ·intro i s;refine aj ?_;rintro cL rfl;intro hle;rw[List.take_of_length_le (by simpa using hle),←qb];have FU:(dz g last n).length≤42:=by rw[qb];exact Nat.le_trans (List.length_filter_le ..) A5
    have V9:=oV;clear A5 A6 A7 oV
    have Wa:∀r∈dz g last n,r.length≤3:=fun r aC=>by
     have:=V9 r (by rw[qb]at aC;exact(List.mem_filter.mp aC).1);exact aq (.a .q (.k 3) (.a .p .q (.l .p (.k 3)))) rfl ko this
    have aQ:∀g2,listAt (.ref gN.length) (gN++bB.list ((dz g last n).map aT)::cL++g2)=some ((dz g last n).map aT):=fun g2=>jA (cH (by simp)) g2;have e:gN++bB.list ((dz g last n).map aT)::cL=st++(s'++bB.list (rows.map aT)::bB.list ((dz g last n).map aT)::cL):=by rw[←LR];simp
    rw[e]at aQ ⊢;generalize s'++bB.list (rows.map aT)::bB.list ((dz g last n).map aT)::cL=fF at aQ ⊢;generalize gN.length=p at aQ ⊢;have FW:nQ (dz g last n)=(dz g last n).filter fun r=>decide (¬∃o∈dz g last n,o≠r∧Sub o r):=rfl;clear qb LR e
    walk_at "W"
    refine a8 ?_;refine nI [none,none,some (.ref p)] (by kernel_rfl) (fun y s=>y=.ref p∧st++fF=s) (fun a6 a7=>?_) ?_
    ·walk_at "W"
     exact a7 _ _ ⟨rfl,rfl⟩
    ·intro _ _;refine ar ?_;rintro rfl rfl;refine⟨(dz g last n).map aT,fun i s=>∃cL,s=st++fF++bB.list ((((dz g last n).take i).filter fun r=>decide (¬∃o∈dz g last n,o≠r∧Sub o r)).map aT)::cL,⟨[],by simp⟩,?_,?_,?_⟩
     ·intro i s;refine aj ?_;rintro cL rfl;exact aQ _
     ·intro i s y;refine aj ?_;rintro cL rfl;intro au;have hi:i<(dz g last n).length:=by simpa using(List.getElem?_eq_some_iff.mp au).1
      have mW:(dz g last n)[i]?=some (dz g last n)[i]:=List.getElem?_eq_getElem hi;have Wb:=List.mem_of_getElem? mW;rw[List.getElem?_map,mW]at au;cases au
      have km:(((dz g last n).take i).filter fun r=>decide (¬∃o∈dz g last n,o≠r∧Sub o r)).length≤42:=Nat.le_trans (List.length_filter_le ..) (by have:=List.length_take_le i (dz g last n);exact aA (.i 42 (.l .q (.k 42)) (.i 42 (.t .r .q) (.i 42 (.l .p .r) (.G 40 (.l .p (.k 42)))))) rfl FU hi this);have f9:((dz g last n).take (i+1)).filter (fun r=>decide (¬∃o∈dz g last n,o≠r∧Sub o r))=((dz g last n).take i).filter (fun r=>decide (¬∃o∈dz g last n,o≠r∧Sub o r))++[(dz g last n)[i]].filter fun r=>decide (¬∃o∈dz g last n,o≠r∧Sub o r):=by rw[List.take_add_one,mW,←List.filter_append];rfl
      generalize ((dz g last n).take i).filter (fun r=>decide (¬∃o∈dz g last n,o≠r∧Sub o r))=dD at f9 km ⊢;generalize (dz g last n)[i]=row at f9 mW Wb ⊢;refine⟨fun b s=>b=decide (¬∃o∈dz g last n,o≠row∧Sub o row)∧∃cL,s=st++fF++bB.list (dD.map aT)::cL,fun a6 a7=>?_,?_,?_⟩
      ·walk_at "W"
       refine V4 [none,none,some (aT row)] (by kernel_rfl) (v:=.ref p) (dz g last n) aT (fun o=>.bool (oZ row o)) (fun a6 jq=>?_) (fun g2=>?_) (by exact eZ FU rfl) (fun o bx Yr g2 jq=>?_) fun g2=>?_
       ·walk_at "W"
        exact jq
       ·rw[List.append_assoc];exact aQ _
       ·have KN:=Wa o bx
        walk_at "W"
        refine Fx ?_;by_cases heq:o=row
        ·rw[decide_eq_true heq];simp only[wd,Bool.true_xor,Bool.not_true,Bool.false_eq_true,if_false];have aM:=jq [];rw[List.append_nil]at aM;have e:oZ row o=false:=by unfold oZ;rw[decide_eq_true heq];rfl
         rwa [e]at aM
        ·rw[decide_eq_false heq];simp only[wd,Bool.true_xor,Bool.not_false,if_true];refine comp_map [none,none,some (aT row)] (by kernel_rfl) (v:=aT o) (xs:=o.map .int) (fun y=>.bool (match y with|.int x=>decide (x∈row)|_=>false)) (fun a6 FY=>?_) (fun g=>rfl) (by rw[List.length_map];exact eZ KN rfl) ?_ ?_
         ·walk_at "W"
          exact FY
         ·intro y au a6 g FY;refine aj ?_ (List.mem_map.mp au);intro x;refine ar ?_;rintro ai rfl
          walk_at "W"
          exact Ar FY
         ·have e:(o.map ah.int).map (fun y=>ah.bool (match y with|.int x=>decide (x∈row)|_=>false))=(o.map fun x=>decide (x∈row)).map .bool:=by simp[List.map_map,Function.comp_def]
          rw[e];refine Fy (iN ..) ?_
          have aW:(!decide (false∈o.map fun x=>decide (x∈row)))=oZ row o:=by
           unfold oZ;rw[decide_eq_false heq,Bool.not_false,Bool.true_and];by_cases aJ:∀x∈o,x∈row
           ·rw[decide_eq_true aJ,decide_eq_false]
            ·rfl
            ·rw[List.mem_map];refine aj ?_;intro x;refine ar ?_;intro ai Wc;exact of_decide_eq_false Wc (aJ x ai)
           ·rw[decide_eq_false aJ,decide_eq_true]
            ·rfl
            ·rw[List.mem_map];apply Classical.byContradiction;intro h;exact aJ fun x ai=>Classical.byContradiction fun rn=>h ⟨x,ai,decide_eq_false rn⟩
          rw[aW];exact jq _
       ·have e:(dz g last n).map (fun o=>ah.bool (oZ row o))=((dz g last n).map (oZ row)).map .bool:=by simp[List.map_map,Function.comp_def]
        refine Fy (bs:=(dz g last n).map (oZ row)) (by rw[←e];exact cH (by simp)) ?_;refine a7 _ _ ⟨?_,cL++bB.list ((dz g last n).map fun o=>ah.bool (oZ row o))::g2,by simp⟩;rw[←decide_not,decide_eq_decide];refine not_congr ?_;rw[List.mem_map];refine exists_congr fun o=>and_congr Iff.rfl ?_;unfold oZ;rw[Bool.and_eq_true,decide_eq_true_eq,Bool.not_eq_true',decide_eq_false_iff_not];exact Iff.rfl
      ·rintro _ ⟨av,cL,rfl⟩
       walk_at "W"
       refine append_at (xs:=dD.map aT) (by simp) (by rw[List.length_map];exact eZ km rfl) ⟨cL,?_⟩;rw[oP,f9,List.filter_cons,if_pos av.symm];simp
      ·rintro _ ⟨av,cL,rfl⟩;refine⟨cL,?_⟩;rw[f9,List.filter_cons,if_neg (by rw[←av];exact Bool.false_ne_true)];simp
     ·intro i s;refine aj ?_;rintro cL rfl;intro hle;rw[List.take_of_length_le (by simpa using hle),←FW];have kR:(st++fF++bB.list ((nQ (dz g last n)).map aT)::cL)[(st++fF).length]?=some (.list ((nQ (dz g last n)).map aT)):=by simp
      have LS:(nQ (dz g last n)).length≤42:=by rw[FW];exact Nat.le_trans (List.length_filter_le ..) FU
      generalize (st++fF).length=q at kR ⊢;rw[List.append_assoc]at kR ⊢;generalize fF++bB.list ((nQ (dz g last n)).map aT)::cL=kS at kR ⊢;refine aj ?_ I.tab;intro rs;refine aY ?_;intro mr gP p8;have aG:cs[last]?=some cs[last]:=List.getElem?_eq_getElem (by exact aA (.i (-1) (.e .r (.b .p)) (.i (-1) (.e .q .r) (.t .p .q))) rfl aD cf);generalize cs[last]=c at aG;refine aj ?_ (p8 _ _ aG);intro r;refine aY ?_;intro jC A3 rA;refine aj ?_ (E8 I.valid I.FA jR aG);intro aB;refine cI ?_;rintro rfl fW ff _;have pZ:=complete I.valid I.FA I.len ko aD (by exact aq (.i (-1) (.e .q (.b .p)) (.b .q (.k 9) (.l .p (.k 7)))) rfl aD jh) jR aG fW;have LO:=(List.getElem?_eq_some_iff.mp jC).1;clear FW aQ hle;generalize nQ (dz g last n)=ls at kR LS pZ ⊢;have hlen:((aB++[[(last:Int)]]).map aT).length=aB.length+1:=by simp
      walk_at "W"
      refine a8 (u9 (fun a6 a7=>?_) fun g2=>?_)
      ·walk_at "W"
       refine V3 [none,none] (by kernel_rfl) (st:=st++kS++[.list (aB.map aT)]) (v:=.ref (st++kS).length) (xs:=aB.map aT) (fun y=>y) (fun a6 jq=>?_) (fun g=>uL (jA (iN ..) g)) (by rw[List.length_map];exact eZ ff rfl) (fun y au a6 g jq=>?_) ?_
       ·walk_at "W"
        refine item_list (jA (cH mr) _) (by rw[List.length_map];exact aA (.i 999999999 (.e .q .r) (.i 999999999 (.t .r (.k 9)) (.i 999999999 (.e .p .q) (.G 7 (.t .p (.k 1000000000)))))) rfl cf jh gP) (x:=.ref r) (by rw[gC,List.getElem?_map,jC];rfl) ?_;refine neg_int (fS (G7 (jA (cH rA) kS)) ⟨⟨by rw[hlen];exact aI (.i 333333 (.l .p (.k 60)) (.G 19 (.l (.b .p) (.k 1000000)))) rfl ff,.inr rfl⟩,?_⟩)
        have e:(if(0:Int)≤-1 then((aB++[[(last:Int)]]).map aT).take (-1:Int).toNat else((aB++[[(last:Int)]]).map aT).take (((aB++[[(last:Int)]]).map aT).length-1))=aB.map aT:=by
         rw[if_neg (by decide),hlen,List.map_append];simp
        rw[e];exact jq
       ·refine aj ?_ (List.mem_map.mp au);intro a;refine ar ?_;rintro aJ rfl;have:=fW.len a aJ
        walk_at "W"
        exact FT (by exact aq (.i 333 (.l .q (.k 3)) (.i 333 (.l .p .q) (.t .p (.k 1000)))) rfl ko this) jq
       ·rw[List.map_id'];have cP:∀r∈ls,r≠[]:=fun r aC=>fW.ne r (pZ.mem_iff.mpr aC);refine .inr ⟨aB,iN ..,by exact eZ ff rfl,fW.ne,fun ys eu=>?_⟩;refine .inr ⟨ls,cH (dS (dS (dS kR _) _) _),by exact eZ LS rfl,cP,fun zs A8=>?_⟩;refine Ls (A:=ys) (B:=zs) (jA (iN ..) _) (iN ..) ?_;rw[Lb ((eu.1.trans pZ).trans A8.1.symm) eu.2 A8.2,decide_eq_true rfl,Bool.true_xor,Bool.not_true];simp only[List.append_assoc]at a7 ⊢;exact a7 _
      ·rw[List.append_assoc];rw[←vc (vc dc)];exact post _ _ _
end Mine
end
section
set_option maxHeartbeats 2000000
namespace Mine
variable{prog:Program}{w:World}{B:Heap}{ak:dB}{k:Nat}
theorem LU{aF:Addr}{st s:St}{h c:Nat}{v:ah}{cV nn bH bJ:Nat}{aB:List Nat}{g:List Node}(_I:ef aF st s h c v cV nn bH bJ aB g){P:b6}{xi:Nat}{mk:∀Y:Loc,Loc} {fE:b6} {Q:∀Y:ah,∀Y:St,Prop} {loc:Loc} (heq:mk loc=[none,none,some (.ref h)])
 (dj:∀a6:∀Y:ah,∀Y:St,Prop,∀Y:(∀(d:Nat) o,∀Y:d<4,∀Y:ef aF st (s.set h o) h c v cV nn bH bJ aB g,a6 (.range 0 (d:Int)) (s.set h o)),P a6 loc s)
 (g9:∀y s1(a6:∀Y:ah,∀Y:St,Prop),∀Y:uS [.ref h,.int 6] a6 s1,fE a6 (setV [none,none,some (.ref h)] xi y) s1)
 (bb:∀ys p s',∀Y:dK ys,∀Y:ys.length≤3,∀Y:s.length≤p,∀Y:ef aF st s' h c v cV nn bH bJ aB g,∀Y:Agree [h] s s',∀Y:s'[p]?=some (.list (ys.map .int)),Q (.ref p) s'):
 qK P xi mk (fun{Q}{_}{st}=>Q true st) fE (fun v aV=>one DH [v] (fun v cX=>one DN [v] Q cX) aV) loc s:=by
 refine nI [none,none,some (.ref h)] heq (fun u s1=>∃d:Nat,d≤3∧u=.range 0 (d:Int)∧ef aF st s1 h c v cV nn bH bJ aB g∧Agree [h] s s1∧s.length≤s1.length) (fun a6 a7=>dj _ fun d o hd jo=>a7 _ _ ⟨d,by exact qm hd rfl,rfl,jo,Agree.set (by simp) _,by simp⟩) ?_;intro _ s1;refine aj ?_;intro d;refine eY ?_;rintro hd rfl A9 fi hle;have Wd:=A9.aG;have jR:=A9.le;have bC:=A9.lt;refine⟨_,fun i s2=>∃dq:List Int,ef aF st s2 h c v cV nn bH bJ aB g∧Agree [h] s s2∧s2[s1.length]?=some (.list (dq.map .int))∧dq.length=i∧i≤d∧s.length≤s1.length,⟨[],A9.app _,fi.trans (Agree.app _ _ _),jz _ _,rfl,by exact aI (.l .z .p) rfl,hle⟩,fun n s Y=>sY (m:=d) (by exact eZ hd rfl),?_,?_⟩
 ·intro i s2 y;refine aj ?_;intro dq;refine dH ?_;intro bQ A aQ i0 hi hle;intro au
  have xE:i<d:=by
   have:=(List.getElem?_eq_some_iff.mp au).1;simpa using this
  refine⟨fun b s'=>b=true∧s2=s',fun a6 a7=>a7 _ _ ⟨rfl,rfl⟩,?_,fun s' cu=>Bool.noConfusion cu.1⟩;intro _;refine ar ?_;rintro _ rfl;refine g9 _ _ _ ?_;refine bQ.pick (m:=6) (by decide) (by decide) fun jJ sZ xH ry=>?_;have kT:(s2.set h sZ)[s1.length]?=some (.list (dq.map .int)):=by rw[List.getElem?_set_ne (by exact fun ay=>aA (.b .p .q (.a .q .r (.i (-1) (.e .p .r) .f))) rfl Wd.1 jR ay)];exact aQ
  have fi:Agree [h] s (s2.set h sZ):=A.trans (Agree.set (by simp) _);generalize s2.set h sZ=oW at ry kT fi ⊢;clear bQ aQ A;refine append_at kT (by rw[List.length_map];exact aA (.i 500000 (.l .q (.k 3)) (.i 500000 (.e .p .r) (.i 500000 (.t .r .q) (.l .p (.k 1000000))))) rfl hd i0 xE) ⟨dq++[(jJ:Int)],?_,?_,?_,by simp;exact Bq i0,by exact aq (.b .p .q (.l (.b .p) .q)) rfl xE,hle⟩
  ·exact ry.Lj kT (by exact aq (.a .p .q (.l .p .q)) rfl jR) (by exact⟨fun ay=>aq (.b .p .q (.c .q .p .f)) rfl bC.1 ay,⟨fun aE=>aq (.b .p .q (.c .q .p .f)) rfl bC.2.1 aE,fun bI=>aq (.b .p .q (.c .q .p .f)) rfl bC.2.2 bI⟩⟩)
  ·intro j o aP hs;have jX:j<s.length:=(List.getElem?_eq_some_iff.mp hs).1;rw[List.getElem?_set_ne (by exact Nk (by assumption) jX)];exact fi j o aP hs
  ·rw[List.getElem?_set_self (List.getElem?_eq_some_iff.mp kT).1];simp
 ·intro i s2;refine aj ?_;intro dq;refine dH ?_;intro bQ A aQ i0 hi hle;intro _;refine FF (ns:=dq) (cH aQ) (by exact aA (.i 899 (.l .q (.k 3)) (.i 899 (.e .p .r) (.i 899 (.l .r .q) (.G 2 (.t .p (.k 900)))))) rfl hd i0 hi) fun ys ms eu ez=>?_;have We:=(List.getElem?_eq_some_iff.mp aQ).1;refine bb ys _ _ eu ?_ (by exact Nl (by assumption) We) (bQ.app _) (A.trans (Agree.app _ _ _)) ?_
  ·have:=u2 (eu.imp fun{a b}(h:a<b)=>(by exact yf h:a≠b)) fun z aU=>(ez z).mp aU;exact bA (.a .q (.k 3) (.c .r .s (.a .s .q (.a .p .r (.l .p (.k 3)))))) rfl hd i0 hi this
  ·rw[show s2++[bB.set ms,.list (ys.map .int)]=(s2++[.set ms])++[.list (ys.map .int)] by simp];rw[show s2.length+1=(s2++[bB.set ms]).length by simp];exact jz _ _
theorem list_tuple{n:Nat}{a:List Int}{Q:∀Y:ah,∀Y:St,Prop} {st:St} (h:st[n]?=some (.list (a.map .int))) (aD:a.length≤1000) (bb:Q (aT a) st):one yE [.ref n] Q st:=J0 (cH h) (by exact eZ aD rfl) bb
theorem Wf{Q:∀Y:Bool,∀Y:St,Prop} {st:St} (bb:Q true st):nc false .none .none Q st:=bb
theorem add_lists{m n:Nat}{a b:List Int}{Q:∀Y:ah,∀Y:St,Prop} {st:St} (ae:st[m]?=some (.list (a.map .int))) (af:st[n]?=some (.list (b.map .int))) (aD:a.length+b.length≤1000) (bb:Q (.ref st.length) (st++[.list ((a++b).map .int)])):addQ (.ref m) (.ref n) Q st:=by
 refine rM (cH ae) (cH af) ⟨by rw[List.length_map,List.length_map];exact aq (.i 1000 (.l (.a .p .q) (.k 1000)) (.l (.a .p .q) (.k 1000000))) rfl aD,?_⟩;rw[←List.map_append];exact bb
theorem Wg{n:Nat}{st:St}{o:Obj}{ns:List Int}(h:st[n]?=some (.raw o ns)):rU (.ref n) st=some (ns.map .int):=Option.bind_eq_some_iff.mpr ⟨_,h,rfl⟩
noncomputable abbrev Wh(ew:Nat)(xs:List ah)(Q:∀Y:ah,∀Y:St,Prop) (st:St):Prop:=∃(i:Nat)(o:Obj)(ns:List Int),xs=[.ref i]∧st[i]?=some (.raw o ns)∧ns.length≤1000000∧st[0]?=some (.tab ew)∧∀s',∀Y:(∀(j:Nat) o,∀Y:st[j]?=some o,s'[j]?=some o),Q (.bool true) s'
theorem Wi{a aF ew:Nat}(F:dU B 25 a)(L:rz prog w B aF ew):b9 prog w B (k+6) (.ref a) (Wh ew):=by
 have G:=L.base;have hs:=L.base.hs;have dM:=L.base.len;have ie:=L.base.range;have oR:=L.base.tuple;have FG:=L.base.list;have xO:=L.base.set;have EM:=L.base.sum;have lF:=L.base.sorted;refine aj ?_ L.cls;intro bS;refine ar ?_;intro X ee;have dN:=L.dN;refine aj ?_ L.pick.ex;intro AV;refine aY ?_;intro mX mY lI;refine aj ?_ L.graph.ex;intro Ys;refine aY ?_;intro Wj Wk Fg;refine aj ?_ L.sets.ex;intro V6;refine aY ?_;intro Wl Wm Ex;refine aj ?_ L.merge.ex;intro rj;refine aY ?_;intro Er Es xe;refine@dU.iB prog w B (k+5) _ _ _ _ 1 26 F (by decide+kernel) G.er (by decide+kernel) (by decide+kernel) (aZ (dg (i:=1) (BP (aw (i:=0) (by kernel_rfl)) bz) (by kernel_rfl) (cj (by decide+kernel))) (aZ (dg (i:=2) (jc (aR (aw (i:=1) (by kernel_rfl)) (aR bz (aR bz (aR (cY vR (cY tE (bL EM (.inl ⟨_,rfl⟩) Hg (aR (aw (i:=1) (by kernel_rfl)) bg) (by kernel_rfl) (by decide+kernel)) bz) bz) bg))))) (by kernel_rfl) (cj (by decide+kernel))) (aZ (dg (i:=3) (cY pg bz (bL mX mY (lI _) (aR (aw (i:=2) (by kernel_rfl)) (aR bz bg)) (by kernel_rfl) (by decide+kernel))) (by kernel_rfl) (cj (by decide+kernel))) (aZ (O2 (i:=4) (j:=5) (bL Wj Wk (Fg _) (aR (aw (i:=2) (by kernel_rfl)) (aR (aw (i:=3) (by kernel_rfl)) (aR bz bg))) (by kernel_rfl) (by decide+kernel)) (by kernel_rfl) (cj (by decide+kernel)) (by kernel_rfl) (cj (by decide+kernel))) (aZ (dg (i:=6) (cY pg bz (bL mX mY (lI _) (aR (aw (i:=2) (by kernel_rfl)) (aR bz bg)) (by kernel_rfl) (by decide+kernel))) (by kernel_rfl) (cj (by decide+kernel))) (aZ (dg (i:=7) (c4 (jc (aR bz (aR bz (aR bz (aR bz bg))))) (bL mX mY (lI _) (aR (aw (i:=2) (by kernel_rfl)) (aR bz bg)) (by kernel_rfl) (by decide+kernel))) (by kernel_rfl) (cj (by decide+kernel))) (aZ (dg (i:=8) (bL Wl Wm (Ex _) (aR (aw (i:=4) (by kernel_rfl)) (aR (aw (i:=6) (by kernel_rfl)) (aR (aw (i:=7) (by kernel_rfl)) bg))) (by kernel_rfl) (by decide+kernel)) (by kernel_rfl) (cj (by decide+kernel))) (aZ (fQ (gX (c6 nf (bL dM (.inl ⟨_,rfl⟩) fD (aR (aw (i:=8) (by kernel_rfl)) bg) (by kernel_rfl) (by decide+kernel)) (bL dM (.inl ⟨_,rfl⟩) fD (aR (iL X ee dN (aw (i:=4) (by kernel_rfl))) bg) (by kernel_rfl) (by decide+kernel))) (gX (c6 nf (mL (xi:=1) (c4 (aw (i:=8) (by kernel_rfl)) bz) ou (bL oR (.inr (.inl ⟨_,rfl⟩)) called_tuple (aR (aw (i:=1) (by kernel_rfl)) bg) (by kernel_rfl) (by decide+kernel)) (by decide+kernel) (by kernel_rfl)) (jc (aR (lT bg) bg))) pn)) (aZ (eF k6) bM) bM) (aZ (VZ L) (aZ (dg (i:=21) (cY rQ (bL dM (.inl ⟨_,rfl⟩) fD (aR (iL X ee dN (aw (i:=4) (by kernel_rfl))) bg) (by kernel_rfl) (by decide+kernel)) bz) (by kernel_rfl) (cj (by decide+kernel))) (aZ (V5 L) (aZ (dg (i:=15) (bL lF (.inl ⟨_,rfl⟩) (q2 hs) (aR (bL xO (.inr (.inl ⟨_,rfl⟩)) called_set (aR (mL (xi:=1) (bL ie (.inr (.inl ⟨_,rfl⟩)) called_range (aR (bL mX mY (lI _) (aR (aw (i:=2) (by kernel_rfl)) (aR bz bg)) (by kernel_rfl) (by decide+kernel)) bg) (by kernel_rfl) (by decide+kernel)) ou (bL mX mY (lI _) (aR (aw (i:=2) (by kernel_rfl)) (aR bz bg)) (by kernel_rfl) (by decide+kernel)) (by decide+kernel) (by kernel_rfl)) bg) (by kernel_rfl) (by decide+kernel)) bg) (by kernel_rfl) (by decide+kernel)) (by kernel_rfl) (cj (by decide+kernel))) (aZ (dg (i:=24) (bL lF (.inl ⟨_,rfl⟩) (q2 hs) (aR (bL xO (.inr (.inl ⟨_,rfl⟩)) called_set (aR (mL (xi:=1) (bL ie (.inr (.inl ⟨_,rfl⟩)) called_range (aR (bL mX mY (lI _) (aR (aw (i:=2) (by kernel_rfl)) (aR bz bg)) (by kernel_rfl) (by decide+kernel)) bg) (by kernel_rfl) (by decide+kernel)) ou (bL mX mY (lI _) (aR (aw (i:=2) (by kernel_rfl)) (aR bz bg)) (by kernel_rfl) (by decide+kernel)) (by decide+kernel) (by kernel_rfl)) bg) (by kernel_rfl) (by decide+kernel)) bg) (by kernel_rfl) (by decide+kernel)) (by kernel_rfl) (cj (by decide+kernel))) (aZ (dg (i:=25) (bL oR (.inr (.inl ⟨_,rfl⟩)) called_tuple (aR (bL lF (.inl ⟨_,rfl⟩) (q2 hs) (aR (bL xO (.inr (.inl ⟨_,rfl⟩)) called_set (aR (cY pg (aw (i:=15) (by kernel_rfl)) (aw (i:=24) (by kernel_rfl))) bg) (by kernel_rfl) (by decide+kernel)) bg) (by kernel_rfl) (by decide+kernel)) bg) (by kernel_rfl) (by decide+kernel)) (by kernel_rfl) (cj (by decide+kernel))) (aZ (eF (vJ jK (bL Er Es (xe _) (aR (bL oR (.inr (.inl ⟨_,rfl⟩)) called_tuple (aR (aw (i:=15) (by kernel_rfl)) bg) (by kernel_rfl) (by decide+kernel)) (aR (bL oR (.inr (.inl ⟨_,rfl⟩)) called_tuple (aR (aw (i:=24) (by kernel_rfl)) bg) (by kernel_rfl) (by decide+kernel)) (aR (aw (i:=6) (by kernel_rfl)) bg))) (by kernel_rfl) (by decide+kernel)) (Ea (c6 NJ (bL dM (.inl ⟨_,rfl⟩) fD (aR (aw (i:=25) (by kernel_rfl)) bg) (by kernel_rfl) (by decide+kernel)) (aw (i:=6) (by kernel_rfl))) (aw (i:=25) (by kernel_rfl)) lR))) bM))))))))))))))) ?_;intro _ Q st;refine bG ?_;intro i bO ns;refine eY ?_;rintro rfl hi w7 aM q;refine⟨rfl,?_⟩;rw[show initLoc 26 [ah.ref i]=fr (upd (fun Y=>none) 0 (some (.ref i)))from rfl];refine a8 ?_
 walk_at "W"
 have cf:(ns.take 63).length≤63:=List.length_take_le ..;refine fS (Wg hi) ⟨⟨by rw[List.length_map];exact w7,.inl (by decide)⟩,?_⟩
 have e:(if(0:Int)≤63 then(ns.map ah.int).take (63:Int).toNat else(ns.map ah.int).take ((ns.map ah.int).length-1))=(ns.take 63).map .int:=by
  rw[if_pos (by decide),List.map_take];rfl
 rw[e]
 walk_at "W"
 refine a8 ?_
 walk_at "W"
 refine sum_list (iN ..) ?_
 walk_at "W"
 refine⟨by decide,?_⟩;have FZ:0≤(ns.take 63).sum.fmod 100003:=Int.fmod_nonneg_of_pos _ (by decide);have lz:(ns.take 63).sum.fmod 100003<100003:=Int.fmod_lt_of_pos _ (by decide);generalize (ns.take 63).sum.fmod 100003=rB at FZ lz ⊢;refine⟨⟨by lia,by decide⟩,by decide,?_⟩
 have u5:mu (st++[.list ((ns.take 63).map .int)]++[.list [.ref st.length,.int 0,.int 0,.int (rB*7)]]) (st.length+1) st.length:=by
  refine(dX (ns.take 63) 0 ((rB*7).toNat) 0 ⟨?_,by exact fun ay=>aI (.i (-1) (.e .p (.b .p)) .f) rfl ay,dS (jz _ _) _,Nat.zero_le _,by exact eZ cf rfl,by exact Nm lz,by decide⟩);rw[show((rB*7).toNat:Int)=rB*7 by exact Nn FZ];simp
 have F0:(st++[bB.list ((ns.take 63).map .int)]++[bB.list [.ref st.length,.int 0,.int 0,.int (rB*7)]])[0]?=some (.tab ew):=dS (dS aM _) _;have Kd:0<st.length:=(List.getElem?_eq_some_iff.mp aM).1;have Ba:∀(j:Nat) o,∀Y:st[j]?=some o,j<st.length∧(st++[bB.list ((ns.take 63).map .int)]++[bB.list [.ref st.length,.int 0,.int 0,.int (rB*7)]])[j]?=some o:=fun j o e=>⟨(List.getElem?_eq_some_iff.mp e).1,dS (dS e _) _⟩;have k7:(st++[bB.list ((ns.take 63).map .int)]).length=st.length+1:=by simp
 have ru:(st++[bB.list ((ns.take 63).map .int)]++[bB.list [.ref st.length,.int 0,.int 0,.int (rB*7)]]).length=st.length+2:=by simp
 rw[k7];generalize st++[bB.list ((ns.take 63).map .int)]++[bB.list [.ref st.length,.int 0,.int 0,.int (rB*7)]]=s1 at u5 F0 ru Ba ⊢;generalize st.length=c at u5 Kd ru Ba ⊢;clear FZ lz k7 e
 walk_at "W"
 refine a8 ?_
 walk_at "W"
 refine(cF (c+1) c 3 ⟨rfl,u5,by decide,by decide,fun d o hd F1=>?_⟩);have F2:(s1.set (c+1) o)[0]?=some (.tab ew):=by rw[List.getElem?_set_ne (by exact fun ay=>aI (.c (.b .p) .z .f) rfl ay)];exact F0
 have xT:(s1.set (c+1) o).length=c+2:=by rw[List.length_set,ru]
 have mw:∀(j:Nat) cg,∀Y:st[j]?=some cg,j<c∧(s1.set (c+1) o)[j]?=some cg:=fun j cg e=>by
  have:=Ba j cg e;exact⟨this.1,by rw[List.getElem?_set_ne (by exact fun ay=>aq (.b .p .q (.c (.b .q) .p (.F 1))) rfl this.1 ay)];exact this.2⟩
 generalize s1.set (c+1) o=s2 at F1 F2 xT mw ⊢;clear u5 F0 ru Ba
 walk_at "W"
 have Cn:(1:Int)+(d:Int)=((1+d:Nat):Int):=by exact Int.le_antisymm (aI (.L (.a (.k 1) (.n .p)) (.n (.a .o .p))) rfl) (aI (.L (.n (.a .o .p)) (.a (.k 1) (.n .p))) rfl)
 rw[Cn];refine a8 ?_
 walk_at "W"
 refine(cF (c+1) c (1+d) ⟨rfl,F1,by exact aq (.i (-1) (.e .q (.a .p (.k 2))) (.t (.b .p) .q)) rfl xT,by exact aq (.i (-1) (.e .q (.a .p (.k 2))) (.t .p .q)) rfl xT,by exact aI (.b .p (.k 3) (.l (.a .o .p) (.k 3))) rfl hd,fun fF v cV nn bH bJ aB g I b8=>?_⟩);refine J5 ?_
 walk_at "W"
 refine a8 ?_
 walk_at "W"
 refine I.pick (m:=3) (by decide) (by decide) fun gK xJ qc jo=>?_;generalize fF.set (c+1) xJ=kS at jo ⊢
 walk_at "W"
 have Wn:(1:Int)+(gK:Int)=((1+gK:Nat):Int):=by exact Int.le_antisymm (aI (.L (.a (.k 1) (.n .p)) (.n (.a .o .p))) rfl) (aI (.L (.n (.a .o .p)) (.a (.k 1) (.n .p))) rfl)
 rw[Wn];refine a8 ?_
 walk_at "W"
 refine⟨by decide,?_⟩
 walk_at "W"
 refine(jo.app _).pick (m:=4) (by decide) (by decide) fun iM F3 Wo mZ=>?_;have LV:=jo.le
 have LW:∃most:Nat,([ah.int 60,.int 1,.int 2,.int 60]:List ah)[iM]?=some (.int most)∧most≤60:=by
  rcases(show iM=0∨iM=1∨iM=2∨iM=3 by exact Np Wo)with rfl|rfl|rfl|rfl
  ·exact⟨60,rfl,by decide⟩
  ·exact⟨1,rfl,by decide⟩
  ·exact⟨2,rfl,by decide⟩
  ·exact⟨60,rfl,by decide⟩
 refine aj ?_ LW;clear LW;intro most;refine ar ?_;intro Wq Bb
 have q1:((kS++[bB.list [.int 60,.int 1,.int 2,.int 60]]).set (c+1) F3)[kS.length]?=some (.list [.int 60,.int 1,.int 2,.int 60]):=by
  rw[List.getElem?_set_ne (by exact fun ay=>aA (.i (-1) (.e .p (.a .q (.k 2))) (.a .p .r (.i (-1) (.e (.b .q) .r) .f))) rfl xT LV ay)];exact jz _ _
 generalize (kS++[bB.list [.int 60,.int 1,.int 2,.int 60]]).set (c+1) F3=iC at mZ q1 ⊢;refine item_list (cH q1) (by simp) (x:=.int most) (by rw[gC];exact Wq) ?_;clear jo q1 LV;have LX:iC[0]?=some (.tab ew):=mZ.agree _ _ (by simp) F2;have Wr:=mZ.le;have Ws:=mZ.lt;clear F1
 walk_at "W"
 refine a8 ?_
 walk_at "W"
 refine(dX v (1+gK) most g ⟨rfl,mZ.aig.kj,mZ.aig.valid,LX,by exact aI (.i 49 (.t .p (.k 3)) (.t (.a .o .p) (.k 100))) rfl qc,by exact eZ Bb rfl,fun cs cS g1 oS dR cu=>?_⟩);have bQ:xK aF (iC++g1) v g (1+gK) most cs cS:=⟨gQ mZ.aig.kj _,mZ.aig.valid,dR,oS,cu,by exact aI (.l .o (.a .o .p)) rfl,by exact aI (.b .p (.k 3) (.l (.a .o .p) (.k 3))) rfl qc,Bb,b8⟩;have F4:=mZ.app g1;generalize iC++g1=oW at bQ F4 ⊢;clear mZ LX cu Wr Ws
 walk_at "W"
 refine aj ?_ bQ.tab;intro rs;refine aY ?_;intro mr gP p8;have F5:0<g.length:=(List.getElem?_eq_some_iff.mp bQ.valid.zero).1
 have xo:cs[0]?=some [[]]:=by
  have h:cs[0]?=some (cs[0]'(by exact aq (.i (-1) (.e .p .q) (.b .z .q (.t .z .p))) rfl oS F5)):=List.getElem?_eq_getElem (by exact aq (.i (-1) (.e .p .q) (.b .z .q (.t .z .p))) rfl oS F5)
  rcases dR 0 _ h with⟨_,e⟩|⟨ae,_⟩|⟨ae,_⟩
  ·rw[h,e]
  ·exact Bv ae
  ·exact Bv ae
 refine aj ?_ (p8 0 _ xo);intro rk;refine aY ?_;intro AI _ LY;refine a8 (u9 (fun a6 a7=>?_) fun g2=>?_)
 ·walk_at "W"
  refine jU (cH mr) (by rw[List.length_map];exact aA (.i 999999999 (.l .q (.k 19)) (.i 999999999 (.e .r .q) (.i 999999999 (.e .p .r) (.G 18 (.t .p (.k 1000000000)))))) rfl b8 oS gP) ?_;rw[List.length_map,gP,oS]
  walk_at "W"
  refine lD bQ.nodes fun x ai=>jU ai (by rw[List.length_map];exact fz b8 rfl) ?_;rw[List.length_map,Fz,decide_eq_true rfl,Bool.not_true,if_neg Bool.false_ne_true];refine comp_map [none,none] (by kernel_rfl) (v:=.ref rk) (xs:=[[]].map aT) (fun y=>y) (fun a6 jq=>?_) (fun g=>uL (jA (cH LY) g)) (by simp) (fun y au a6 g jq=>?_) ?_
  ·walk_at "W"
   refine item_list (cH mr) (by rw[List.length_map];exact aA (.i 999999999 (.l .q (.k 19)) (.i 999999999 (.e .r .q) (.i 999999999 (.e .p .r) (.G 18 (.t .p (.k 1000000000)))))) rfl b8 oS gP) (i:=((0:Nat):Int)) (x:=.ref rk) (by rw[gC,List.getElem?_map,AI];rfl) jq
  ·refine aj ?_ (List.mem_map.mp au);intro a;refine ar ?_;rintro aJ rfl;rw[List.mem_singleton.mp aJ]at jq ⊢
   walk_at "W"
   exact FT (by simp) jq
  ·rw[List.map_id'];refine⟨by decide,by decide,?_⟩;refine Ls (A:=[[]]) (B:=[[]]) (jA (iN ..) _) (iN ..) ?_;rw[decide_eq_true rfl,Bool.true_xor,Bool.not_true,if_neg Bool.false_ne_true,List.append_assoc];exact a7 _
 ·have nR:xK aF (oW++g2) v g (1+gK) most cs cS:=⟨gQ bQ.nodes _,bQ.valid,dR,oS,bQ.tab.app _,by exact aI (.l .o (.a .o .p)) rfl,by exact aI (.b .p (.k 3) (.l (.a .o .p) (.k 3))) rfl qc,Bb,b8⟩;have F6:=F4.app g2;generalize oW++g2=u6 at nR F6 ⊢;clear F4 bQ mr LY p8 AI gP
  walk_at "W"
  refine a8 (vo cS (1+gK) most v g cs _ ⟨rfl,rfl,nR,fun Z g3=>?_⟩);obtain⟨last,F7⟩:∃last,g.length=last+1:=⟨g.length-1,by exact vy F5⟩;have m0:xK aF (u6++g3) v g (1+gK) most cs cS:=⟨gQ nR.nodes _,nR.valid,dR,oS,nR.tab.app _,by exact aI (.l .o (.a .o .p)) rfl,by exact aI (.b .p (.k 3) (.l (.a .o .p) (.k 3))) rfl qc,Bb,b8⟩;have F8:=F6.app g3;generalize u6++g3=LN at m0 F8 ⊢;clear F6 nR
  walk_at "W"
  refine a8 ?_
  walk_at "W"
  refine lD m0.nodes fun x ai=>jU ai (by rw[List.length_map];exact fz b8 rfl) ?_;rw[List.length_map]
  walk_at "W"
  have LZ:(g.length:Int)-1=(last:Int):=by exact Int.le_antisymm (aq (.c .p (.b .q) (.L (.s (.n .p) (.k 1)) (.n .q))) rfl F7) (aq (.i (-1) (.e .q (.b .p)) (.L (.n .p) (.s (.n .q) (.k 1)))) rfl F7)
  rw[LZ];refine a8 (Mu cS (1+gK) most last v g cs _ ⟨rfl,rfl,m0,F7,fun LP LQ lO=>?_⟩);have s8:=F8.app lO;generalize LN++lO=Wt at s8 ⊢;clear F8 m0 ai
  walk_at "W"
  have Wu:=s8.aG;have Bc:∀(j:Nat) o,∀Y:st[j]?=some o,j<c∧Wt[j]?=some o:=fun j o e=>⟨(mw j o e).1,s8.agree j o (by have:=(mw j o e).1;simp;exact Bx this) (mw j o e).2⟩;clear mw;have Wv:=s8.le;clear xo F2 xT LZ;refine a8 ?_
  walk_at "W"
  refine LU s8 (by kernel_rfl) (fun a6 a7=>?_) (fun y s1 a6 a7=>?_) fun ys p Yt eu kN fO F9 L0 aQ=>?_
  ·walk_at "W"
   refine s8.pick (m:=4) (by decide) (by decide) fun d o hd jo=>?_
   walk_at "W"
   exact a7 _ _ hd jo
  ·walk_at "W"
   exact a7
  ·clear s8
   walk_at "W"
   refine a8 ?_
   walk_at "W"
   refine LU F9 (by kernel_rfl) (fun a6 a7=>?_) (fun y s1 a6 a7=>?_) fun zs r xU A8 xV Yu Ww Ga aC=>?_
   ·walk_at "W"
    refine F9.pick (m:=4) (by decide) (by decide) fun d o hd jo=>?_
    walk_at "W"
    exact a7 _ _ hd jo
   ·walk_at "W"
    exact a7
   ·have kT:xU[p]?=some (.list (ys.map .int)):=Ga p _ (by simp;exact fun ay=>bA (.b (.b .p) .q (.a .q .r (.a .r .s (.c .s (.b .p) .f)))) rfl Wu.1 Wv fO ay) aQ;have Wx:∀(j:Nat) o,∀Y:st[j]?=some o,xU[j]?=some o:=fun j o e=>Ga j o (by have:=(Bc j o e).1;simp;exact Bx this) (L0 j o (by have:=(Bc j o e).1;simp;exact Bx this) (Bc j o e).2);clear F9 Ww L0 Ga aQ Bc
    walk_at "W"
    refine a8 ?_
    walk_at "W"
    refine add_lists kT aC (by exact aq (.i 997 (.l .p (.k 3)) (.i 3 (.l .q (.k 3)) (.G 2 (.l (.a .p .q) (.k 1000))))) rfl kN xV) ?_;have qd:=dS kT [.list ((ys++zs).map .int)];have A3:=dS aC [.list ((ys++zs).map .int)];have L1:=jz xU (.list ((ys++zs).map .int));have L2:∀(j:Nat) o,∀Y:st[j]?=some o,(xU++[bB.list ((ys++zs).map .int)])[j]?=some o:=fun j o e=>dS (Wx j o e) _;generalize xU++[bB.list ((ys++zs).map .int)]=rC at qd A3 L1 L2 ⊢;refine FF (ns:=ys++zs) (cH L1) (by simp;exact aq (.i 896 (.l .p (.k 3)) (.i 3 (.l .q (.k 3)) (.G 2 (.t (.a .p .q) (.k 900))))) rfl kN xV) fun o0 ms L3 ro=>?_;have L4:=dS qd [.set ms,.list (o0.map .int)];have rA:=dS A3 [.set ms,.list (o0.map .int)]
    have L5:(rC++[bB.set ms,.list (o0.map .int)])[rC.length+1]?=some (.list (o0.map .int)):=by
     rw[show rC++[bB.set ms,.list (o0.map .int)]=(rC++[.set ms])++[.list (o0.map .int)] by simp];rw[show rC.length+1=(rC++[bB.set ms]).length by simp];exact jz _ _
    have jX:o0.length≤6:=by
     have:=u2 (L3.imp fun{a b}(h:a<b)=>(by exact yf h:a≠b)) fun z aU=>(ro z).mp aU;rw[List.length_append]at this;exact aA (.a .q (.k 3) (.a .r (.k 3) (.a .p (.a .q .r) (.l .p (.k 6))))) rfl kN xV this
    have Gb:∀(j:Nat) o,∀Y:st[j]?=some o,(rC++[bB.set ms,.list (o0.map .int)])[j]?=some o:=fun j o e=>dS (L2 j o e) _;generalize rC++[bB.set ms,.list (o0.map .int)]=Yv at L4 rA L5 Gb ⊢;refine list_tuple L5 (by exact eZ jX rfl) ?_
    walk_at "W"
    refine a8 ?_
    walk_at "W"
    refine list_tuple L4 (by exact eZ kN rfl) ?_
    walk_at "W"
    refine list_tuple rA (by exact eZ xV rfl) ?_
    walk_at "W"
    refine(cF ys zs (1+gK) ⟨rfl,by exact fz kN rfl,by exact fz xV rfl,eu,A8,fun m lO hm Fa=>?_⟩);have Wy:m=o0:=sR hm L3 fun z=>by rw[Fa,ro,List.mem_append]
    subst Wy;refine Eb (m.length≤1+gK) (fun a6 ae af=>?_) (fun h=>?_) fun h=>?_
    ·walk_at "W"
     refine mU (by exact fz jX rfl) ?_
     walk_at "W"
     exact kh (fun h=>ae (by have:=of_decide_eq_true h;lia)) fun h=>af (by have:=of_decide_eq_false h;lia)
    ·walk_at "W"
     rw[if_neg (by exact aq (.a .q (.a .o .p) (.o (.t (.a .o .p) .q))) rfl h)];refine Fx ?_;rw[decide_eq_true rfl];exact q _ fun j o e=>dS (Gb j o e) _
    ·walk_at "W"
     rw[if_pos (by exact aq (.n (.l .q (.a .o .p)) (.t (.a .o .p) .q)) rfl h)];exact Wf (q _ fun j o e=>dS (Gb j o e) _)
end Mine
end
section
set_option maxHeartbeats 2000000
namespace Mine
variable{prog:Program}{w:World}{h B:Heap}{q:Program}{loose:List Str}{s9:∀Y:ExcName,Option Value} {fC gi:∀Y:Str,Option Value}
noncomputable def Bd:Obj:=⟨.none,none,.fields #[],#[]⟩
structure Hid(h B:Heap):Prop where
 keep:∀b o,∀Y:h.get? b=some o,∀Y:(∀vs n,o.data≠.seq vs n),∀Y:o≠Bd,B.get? b=some o
 of:∀b o,∀Y:B.get? b=some o,h.get? b=some o
theorem Wz{P L:Addr}{vs:Array Value}{n:Nat}{vP:Obj}(dj:h.get? P=some Bd)(eQ:h.get? L=some vP)(hd:vP.data=.seq vs n):Hid h ((h.hide P).hide L):=by
 refine⟨fun b o e ae af=>?_,fun b o e=>Heap.of_hide (Heap.of_hide e)⟩;have eB:b≠P:=by rintro rfl;rw[e]at dj;exact af (Option.some.inj dj)
 have iS:b≠L:=by rintro rfl;rw[e]at eQ;cases eQ;exact ae _ _ hd
 rw[Heap.hide_ne _ iS,Heap.hide_ne _ eB];exact e
theorem Hid.func(H:Hid h B){b:Addr}{o:Obj}{fd:FuncData}(e:h.get? b=some o)(d:o.data=.func fd):B.get? b=some o:=
 H.keep _ _ e (fun vs n q=>by rw[d]at q;cases q) (by rintro rfl;cases d)
theorem Hid.ns(H:Hid h B){a:Addr}{m:∀Y:Str,Option Value} (x:h.Ns a m):B.Ns a m:=
 let ⟨o,a9,ep,g,d,r⟩:=x
 ⟨o,a9,ep,H.keep _ _ g (fun vs n q=>by rw[d]at q;cases q) (by rintro rfl;cases d),d,r⟩
theorem Hid.code(H:Hid h B){fm:Value}{x:Str}(c:h.CodeRec fm x):B.CodeRec fm x:=by
 refine dF ?_ c;clear c;intro c o vs t;refine cI ?_;intro e g d v;refine⟨c,o,vs,t,e,H.keep _ _ g (fun vs n q=>by rw[d]at q;cases q) ?_,d,v⟩;rintro rfl;cases d
 cases v
theorem Hid.cls(H:Hid h B){ak N:Addr}{bS:∀Y:Str,Option Value} (X:ClsAt h ak N bS):ClsAt B ak N bS:=by
 obtain⟨⟨nm,q,bs,sn,sub,col,rS,nt,cT,eU,iV,nu,e⟩,gk⟩:=X;refine⟨⟨nm,q,bs,sn,sub,col,rS,nt,cT,eU,iV,nu,H.keep _ _ e (fun vs n q=>?_) ?_⟩,H.ns gk⟩
 ·cases q
 ·intro q;cases q
theorem Hid.limit(H:Hid h B)(x:h.NoLimit):B.NoLimit:=let ⟨WA,a,b⟩:=x;⟨WA,H.ns a,b⟩
noncomputable abbrev binds(fd:FuncData)(dq:List Str):Prop:=∀vs:List Value,∀Y:vs.length=dq.length,bindArgs fd ⟨vs,[]⟩=pure (dq.zip vs)
theorem xW{P:∀Y:List Value,Prop} (H:P []):∀vs:List Value,∀Y:vs.length=0,P vs:=fun Y h=>(List.length_eq_zero_iff.mp h)▸H
theorem kU{n:Nat}{P:∀Y:List Value,Prop} (H:∀a r,∀Y:r.length=n,P (a::r)):∀vs:List Value,∀Y:vs.length=n+1,P vs:=fun vs h=>by
 cases vs with
 |nil=>cases h
 |cons a r=>exact H a r (Nat.succ.inj h)
theorem vh{fd:FuncData}{x:Str}(h:∀a,bindArgs fd ⟨[a],[]⟩=pure [(x,a)]):binds fd [x]:=
 kU (P:=fun r=>bindArgs fd ⟨r,[]⟩=pure (List.zip [x] (r))) fun a=>xW (h a)
theorem Be{fd:FuncData}{x y:Str}(h:∀a b,bindArgs fd ⟨[a,b],[]⟩=pure [(x,a),(y,b)]):binds fd [x,y]:=
 kU (P:=fun r=>bindArgs fd ⟨r,[]⟩=pure (List.zip [x,y] (r))) fun a=>kU (P:=fun r=>bindArgs fd ⟨a::r,[]⟩=pure (List.zip [x,y] (a::r))) fun b=>xW (h a b)
theorem o2{fd:FuncData}{x y z:Str}(h:∀a b c,bindArgs fd ⟨[a,b,c],[]⟩=pure [(x,a),(y,b),(z,c)]):binds fd [x,y,z]:=
 kU (P:=fun r=>bindArgs fd ⟨r,[]⟩=pure (List.zip [x,y,z] (r))) fun a=>kU (P:=fun r=>bindArgs fd ⟨a::r,[]⟩=pure (List.zip [x,y,z] (a::r))) fun b=>kU (P:=fun r=>bindArgs fd ⟨a::b::r,[]⟩=pure (List.zip [x,y,z] (a::b::r))) fun c=>xW (h a b c)
theorem WB{fd:FuncData}{x y z u:Str}(h:∀a b c d,bindArgs fd ⟨[a,b,c,d],[]⟩=pure [(x,a),(y,b),(z,c),(u,d)]):binds fd [x,y,z,u]:=
 kU (P:=fun r=>bindArgs fd ⟨r,[]⟩=pure (List.zip [x,y,z,u] (r))) fun a=>kU (P:=fun r=>bindArgs fd ⟨a::r,[]⟩=pure (List.zip [x,y,z,u] (a::r))) fun b=>kU (P:=fun r=>bindArgs fd ⟨a::b::r,[]⟩=pure (List.zip [x,y,z,u] (a::b::r))) fun c=>kU (P:=fun r=>bindArgs fd ⟨a::b::c::r,[]⟩=pure (List.zip [x,y,z,u] (a::b::c::r))) fun d=>xW (h a b c d)
theorem WC{fd:FuncData}{x y z u v:Str}(h:∀a b c d e,bindArgs fd ⟨[a,b,c,d,e],[]⟩=pure [(x,a),(y,b),(z,c),(u,d),(v,e)]):binds fd [x,y,z,u,v]:=
 kU (P:=fun r=>bindArgs fd ⟨r,[]⟩=pure (List.zip [x,y,z,u,v] (r))) fun a=>kU (P:=fun r=>bindArgs fd ⟨a::r,[]⟩=pure (List.zip [x,y,z,u,v] (a::r))) fun b=>kU (P:=fun r=>bindArgs fd ⟨a::b::r,[]⟩=pure (List.zip [x,y,z,u,v] (a::b::r))) fun c=>kU (P:=fun r=>bindArgs fd ⟨a::b::c::r,[]⟩=pure (List.zip [x,y,z,u,v] (a::b::c::r))) fun d=>kU (P:=fun r=>bindArgs fd ⟨a::b::c::d::r,[]⟩=pure (List.zip [x,y,z,u,v] (a::b::c::d::r))) fun e=>xW (h a b c d e)
noncomputable abbrev jr(i:Nat):Prop:=∀pm fm doc,binds (PySem.Calls.docDef (bP i).name (bP i).params (bP i).body (bP i).scope pm fm doc) (mq (bP i))
theorem WD(T:Top q loose s9 fC gi h)(H:Hid h B){i:Nat}(hm:bP i∈recsOf q)(av:jr i):
 ∃a,fC (bP i).name=some (.ref a)∧dU B i a:=by
 refine jt ?_ (T.fn _ hm);intro a o pm fm doc;refine cI ?_;intro aS aW cz jg;exact⟨a,aS,⟨⟨fC,gi,H.ns T.g,H.ns T.b,.inl aS⟩,pm,fm,doc,⟨⟨o,H.func aW cz,cz⟩,rfl,rfl,rfl,rfl,rfl,H.code jg,av pm fm doc⟩⟩⟩
theorem mi:jr 5:=fun Y Y Y=>vh fun Y=>by kernel_rfl
theorem Ak:jr 6:=fun Y Y Y=>Be fun Y Y=>by kernel_rfl
theorem WE:jr 8:=fun Y Y Y=>o2 fun Y Y Y=>by kernel_rfl
theorem WG:jr 9:=fun Y Y Y=>Be fun Y Y=>by kernel_rfl
theorem WH:jr 10:=fun Y Y Y=>vh fun Y=>by kernel_rfl
theorem WI:jr 11:=fun Y Y Y=>WC fun Y Y Y Y Y=>by kernel_rfl
theorem WJ:jr 12:=fun Y Y Y=>o2 fun Y Y Y=>by kernel_rfl
theorem WK:jr 13:=fun Y Y Y=>o2 fun Y Y Y=>by kernel_rfl
theorem WL:jr 14:=fun Y Y Y=>o2 fun Y Y Y=>by kernel_rfl
theorem WM:jr 15:=fun Y Y Y=>o2 fun Y Y Y=>by kernel_rfl
theorem WN:jr 19:=fun Y Y Y=>Be fun Y Y=>by kernel_rfl
theorem WO:jr 20:=fun Y Y Y=>o2 fun Y Y Y=>by kernel_rfl
theorem WQ:jr 21:=fun Y Y Y=>o2 fun Y Y Y=>by kernel_rfl
theorem WR:jr 22:=fun Y Y Y=>vh fun Y=>by kernel_rfl
theorem WS:jr 23:=fun Y Y Y=>o2 fun Y Y Y=>by kernel_rfl
theorem WT:jr 24:=fun Y Y Y=>Be fun Y Y=>by kernel_rfl
theorem WU:jr 25:=fun Y Y Y=>vh fun Y=>by kernel_rfl
noncomputable def WV:ClsRec:=⟨"",none,[],[],0,[]⟩
noncomputable def tc:ClsRec:=(dclssOf PySem.Challenge.pw_nn0309_01 [("GateloomError":Str)]).headD WV
noncomputable abbrev vj(j:Nat):Prop:=∀pm fm doc,binds (methDefD (iP j).name (tc.name++"."++(iP j).name) (iP j).params (iP j).body (iP j).scope pm fm doc .none) (mq (iP j))
theorem xX{ak N:Addr}{bS:∀Y:Str,Option Value} (P:PlainAtD h tc ak N bS) (H:Hid h B) {j i:Nat} (hm:tc.meths[i]?=some ⟨(iP j).name,(iP j).params,(iP j).body,(iP j).scope⟩) (hd:(iP j).params.defaults=[]) (av:vj j):
 ∃a of fd,Meth B bS j a of fd:=by
 refine o3 ?_ (P.meths _ (List.mem_of_getElem? hm));intro f o pm fm doc WW;refine dH ?_;intro aS aW cz jg g8 jQ;have:=jQ.none_of hd;subst this;have L6:=H.func aW jg;exact⟨f,o,_,⟨aS,L6,cz,jg,⟨⟨o,L6,jg⟩,rfl,rfl,rfl,rfl,rfl,H.code g8,av pm fm doc⟩⟩⟩
theorem WX:vj 0:=fun Y Y Y=>vh fun Y=>by kernel_rfl
theorem f3:vj 1:=fun Y Y Y=>vh fun Y=>by kernel_rfl
theorem WY:vj 4:=fun Y Y Y=>o2 fun Y Y Y=>by kernel_rfl
theorem WZ:vj 5:=fun Y Y Y=>o2 fun Y Y Y=>by kernel_rfl
theorem W0:vj 7:=fun Y Y Y=>WB fun Y Y Y Y=>by kernel_rfl
end Mine
end
section
set_option maxHeartbeats 2000000
namespace Mine
variable{prog:Program}{w:World}{h B:Heap}{q:Program}{loose:List Str}{s9:∀Y:ExcName,Option Value} {fC gi:∀Y:Str,Option Value}
noncomputable def Bf:List Nat:=[5,6,8,9,10,11,12,13,14,15,19,20,21,22,23,24,25]
noncomputable def usedNames:List Str:=["len","min","sum","sorted","range","tuple","list","set"]
noncomputable def isFree(q:Program)(loose:List Str)(x:Str):Bool:=!startupNames.contains x&&!loose.contains x&&!((recsOf q).map (·.name)).contains x&&!((litsOf q).map (·.1)).contains x&&!((clssOf q loose).map (·.name)).contains x&&x != "__name__"
structure Gd(q:Program)(loose:List Str):Prop where
 fns:∀i∈Bf,bP i∈recsOf q
 cls:tc∈dclssOf q loose
 free:(usedNames.all (isFree q (looseW q loose)))=true
 imp:importsNone q=true
theorem L7(T:Top q loose s9 fC gi h){x:Str}(ai:isFree q loose x=true):fC x=none∧gi x=bootBuiltins x:=by
 simp only[isFree,Bool.and_eq_true,Bool.not_eq_true',List.contains_eq_mem,decide_eq_false_iff_not,bne_iff_ne]at ai;refine ar ?_ ai;clear ai;refine ar ?_;refine ar ?_;refine ar ?_;refine ar ?_;intro ae af;intro aH;intro bX;intro et;intro fq;exact⟨T.free x ae af aH bX et,T.builtins x fq⟩
theorem rD(T:Top q loose s9 fC gi h)(H:Hid h B){x:Str}{v:Value}(ai:isFree q loose x=true)(aO:bootBuiltins x=some v):fN B x v:=
 ⟨fC,gi,H.ns T.g,H.ns T.b,.inr ⟨(L7 T ai).1,(L7 T ai).2.trans aO⟩⟩
theorem W2(T:Top q loose s9 fC gi h)(H:Hid h B)(bq:(usedNames.all (isFree q loose))=true)(hi:importsNone q=true):ic B:=by
 have F:∀x∈usedNames,isFree q loose x=true:=List.all_eq_true.mp bq;refine aj ?_ ((T.seer hi).mods);intro Yw;refine ar ?_;refine bG ?_;intro o a9 ep hs;intro _
 exact⟨let ⟨o,a9,ep,a,_⟩:=H.ns (T.seer hi).mods.choose_spec.1;⟨o,a⟩,H.limit T.nolimit,rD T H (F "len" (by simp[usedNames])) rfl,rD T H (F "min" (by simp[usedNames])) rfl,rD T H (F "sum" (by simp[usedNames])) rfl,rD T H (F "sorted" (by simp[usedNames])) rfl,
  rD T H (F "range" (by simp[usedNames])) rfl,rD T H (F "tuple" (by simp[usedNames])) rfl,rD T H (F "list" (by simp[usedNames])) rfl,rD T H (F "set" (by simp[usedNames])) rfl⟩
theorem W3(T:Top q loose s9 fC gi h)(H:Hid h B):Ai B:=by
 refine bZ ?_ T.bmain;intro bm bO;refine dH ?_;intro aS aW cz jg g8 jQ;exact⟨fC,bm,bO,H.ns T.g,aS,aW,H.keep _ _ cz (fun vs n q=>by rw[jQ]at q;cases q) (by rintro rfl;cases jQ),jg,g8,jQ⟩
theorem W4(V:Gd q loose)(T:Top q (looseW q loose) s9 fC gi h)(TD:TopCD q loose fC h){P:Addr}(dj:h.get? P=some Bd)
 (cu:∃a o fd c,fC (bP 10).name=some (.ref a)∧h.get? a=some o∧o.data=.func fd∧fd.code=.ref c∧h.IsCode c P #[]∧h.TableAt c P #[]) (H:Hid h B):
 ∃aF a,rz prog w B aF P∧fC (bP 25).name=some (.ref a)∧dU B 25 a:=by
 have G:=W2 T H V.free V.imp;have M:=W3 T H;have fn:∀i,∀Y:i∈Bf,∀Y:jr i,∃a,fC (bP i).name=some (.ref a)∧dU B i a:=fun i hi av=>WD T H (V.fns i hi) av;refine aj ?_ (fn 5 (by decide) mi);intro gw;refine ar ?_;intro g8 xY;refine aj ?_ (fn 6 (by decide) Ak);intro lK;refine ar ?_;intro jQ Ge;refine aj ?_ (fn 8 (by decide) WE);intro qj;refine ar ?_;intro wD xZ;refine aj ?_ (fn 9 (by decide) WG);intro Bk;refine ar ?_;intro Yx Gf;refine aj ?_ (fn 10 (by decide) WH);intro vp;refine ar ?_;intro W5 Gg;refine aj ?_ (fn 11 (by decide) WI);intro W6;refine ar ?_;intro Yy Gh;refine aj ?_ (fn 12 (by decide) WJ);intro L8;refine ar ?_;intro Yz Gi;refine aj ?_ (fn 13 (by decide) WK);intro L9;refine ar ?_;intro YA x6;refine aj ?_ (fn 14 (by decide) WL);intro W7;refine ar ?_;intro YB Gj;refine aj ?_ (fn 15 (by decide) WM);intro Ma;refine ar ?_;intro YC Gk;refine aj ?_ (fn 19 (by decide) WN);intro Mb;refine ar ?_;intro YD x7;refine aj ?_ (fn 20 (by decide) WO);intro W8;refine ar ?_;intro YE Gl;refine aj ?_ (fn 21 (by decide) WQ);intro Mc;refine ar ?_;intro YF Gm;refine aj ?_ (fn 22 (by decide) WR);intro W9;refine ar ?_;intro YG Gn;refine aj ?_ (fn 23 (by decide) WS);intro Xa;refine ar ?_;intro YH Go;refine aj ?_ (fn 24 (by decide) WT);intro Xb;refine ar ?_;intro YI Gp;refine aj ?_ (fn 25 (by decide) WU);intro Xc;refine ar ?_;intro Gq Gr;refine bG ?_ (TD _ V.cls);intro aF N bS;refine ar ?_;intro Fl td;have qe:∀x,∀Y:x∈tc.quiet,bS x=none:=td.quiet;have X:jx B aF bS:=⟨⟨N,H.cls td.cls⟩,qe _ (by decide+kernel),qe _ (by decide+kernel),qe _ (by decide+kernel)⟩;have ee:bS "nodes"=none:=qe _ (by decide+kernel);have uW:bS "inputs"=none:=qe _ (by decide+kernel);have Fd:bS "outputs"=none:=qe _ (by decide+kernel);have sV:bS "table"=none:=qe _ (by decide+kernel);have dN:typeLookup (.type "object") "nodes"=pure none:=by kernel_rfl
 have uX:typeLookup (.type "object") "inputs"=pure none:=by kernel_rfl
 have Fe:typeLookup (.type "object") "outputs"=pure none:=by kernel_rfl
 have sW:typeLookup (.type "object") "table"=pure none:=by kernel_rfl
 have Fo:typeLookup (.type "object") "add_input"=pure none:=by kernel_rfl
 have oU:typeLookup (.type "object") "land"=pure none:=by kernel_rfl
 have uZ:typeLookup (.type "object") "lor"=pure none:=by kernel_rfl
 have Fp:typeLookup (.type "object") "lmux"=pure none:=by kernel_rfl
 refine bG ?_ (xX td H (j:=0) (i:=0) (by kernel_rfl) (by kernel_rfl) WX);intro x0 YJ f0 qN;refine bG ?_ (xX td H (j:=1) (i:=1) (by kernel_rfl) (by kernel_rfl) f3);intro bW sZ f1 pR;refine bG ?_ (xX td H (j:=4) (i:=4) (by kernel_rfl) (by kernel_rfl) WY);intro dp YK f4 nT;refine bG ?_ (xX td H (j:=5) (i:=5) (by kernel_rfl) (by kernel_rfl) WZ);intro dP YL YM rE;refine bG ?_ (xX td H (j:=7) (i:=7) (by kernel_rfl) (by kernel_rfl) W0);intro gv YN YO x8;have Xd:fN B "Aig" (.ref aF):=⟨fC,gi,H.ns T.g,H.ns T.b,.inl Fl⟩;obtain⟨Md,Me,fd,c,pW,kI,Gs,Gu,⟨cg,vs,file,q3,flags,q4,q6,text,tt,op,kg,lG,nJ,rl,fv,fG,jn,jB,YQ,YR,Xe⟩,⟨⟨xJ,YS,v1,v2,iF,v4⟩,lN⟩⟩:=cu
 have bR:nG B c P:=by
  rw[kg]at v1;cases v1;rw[lG]at iF;cases iF;exact⟨cg,vs,file,q3,flags,q4,q6,text,tt,H.keep _ _ kg (fun vs n q=>by rw[lG]at q;cases q) (by rintro rfl;cases v2),v2,lG,v4,rl,fv,fG,jn,Xe⟩
 have tR:∀pm fm doc,∀Y:wa B vp (PySem.Calls.docDef (bP 10).name (bP 10).params (bP 10).body (bP 10).scope pm fm doc) (mq (bP 10)) (bP 10).body (bP 10).scope,fm=.ref c:=by
  intro pm fm doc X;refine aj ?_ X.at_;intro F3;refine ar ?_;intro g1 g2;have g3:=H.of _ _ g1;rw[W5]at pW;cases pW;rw[kI]at g3;cases g3;rw[Gs]at g2;have:=Data.func.inj g2;subst this;exact Gu
 have Mf:∀k,b9 prog w B (k+1) (.ref gw) KH:=fun k=>w9 xY G;have Xf:∀k,b9 prog w B (k+2) (.ref lK) KI:=fun k=>Ei Ge G xY.i6 xY.plain Mf;have Mg:∀k,b9 prog w B (k+1) (.ref qj) En:=fun k=>xe xZ G;have Xg:∀k,b9 prog w B (k+3) (.ref vp) (Kg P):=fun k=>Em Gg G Gf.i6 Gf.plain (fun k=>Ed Gf G) tR bR M;have Xh:∀k,b9 prog w B (k+4) (.ref W6) (Eo P):=fun k=>Ep Gh G xZ.i6 xZ.plain Mg Gg.i6 Gg.plain Xg;have Xi:∀k,b9 prog w B (k+5) (.ref L8) (Ew aF P):=fun k=>Ex Gi G X ee dN Gh.i6 Gh.plain Xh;have Mh:∀k,b9 prog w B (k+1) (.ref L9) (Az aF):=fun k=>xm x6 G X ee dN;have Xj:∀k,b9 prog w B (k+1) (.ref W7) KJ:=fun k=>Aw Gj G;have Xk:∀k,b9 prog w B (k+3) (.ref Ma) (EE aF):=fun k=>EF Gk G X ee dN xY.i6 xY.plain Mf Ge.i6 Ge.plain Xf x6.i6 x6.plain Mh Gj.i6 Gj.plain Xj;have nt:∀k,b9 prog w B (k+1) (.ref x0) (Fb aF):=fun k=>Fc qN G X ee dN uW uX Fd Fe sV sW;have cT:∀k,b9 prog w B (k+1) (.ref bW) (kn aF 1 0):=fun k=>EW pR G X ee dN uW uX;have ml:∀k,b9 prog w B (k+1) (.ref dp) (kn aF 1 2):=fun k=>rr nT G X ee dN sV sW;have AS:bS "land"=some (.ref dp):=nT.xy;have Mi:bS "lor"=some (.ref dP):=rE.xy;have nu:∀k,b9 prog w B (k+2) (.ref dP) (kn aF 1 2):=fun k=>xB rE G X ⟨AS,nT.at_,nT.cls,nT.data⟩ oU ml;have Xl:∀k,b9 prog w B (k+3) (.ref gv) (kn aF 3 3):=fun k=>E0 x8 G X ⟨AS,nT.at_,nT.cls,nT.data⟩ oU ml ⟨Mi,rE.at_,rE.cls,rE.data⟩ uZ nu;have Mj:∀k,b9 prog w B (k+1) (.ref Mb) uS:=fun k=>lI x7 G;have Xm:∀k,b9 prog w B (k+4) (.ref Mc) (Ff aF):=fun k=>Fg Gm G X Xd qN.xy qN.at_ qN.cls nt ⟨pR.xy,pR.at_,pR.cls,pR.data⟩ Fo cT ⟨AS,nT.at_,nT.cls,nT.data⟩ oU ml ⟨Mi,rE.at_,rE.cls,rE.data⟩ uZ nu ⟨x8.xy,x8.at_,x8.cls,x8.data⟩ Fp Xl x7.i6 x7.plain Mj
 exact⟨aF,Xc,⟨G,⟨bS,X,ee⟩,dN,⟨Mb,x7.i6,x7.plain,Mj⟩,⟨Mc,Gm.i6,Gm.plain,Xm⟩,⟨L8,Gi.i6,Gi.plain,Xi⟩,⟨Xa,Go.i6,Go.plain,fun k=>xw Go G X ee dN⟩,⟨L9,x6.i6,x6.plain,Mh⟩,
  ⟨W9,Gn.i6,Gn.plain,fun k=>EL Gn G⟩,⟨W8,Gl.i6,Gl.plain,fun k=>AJ Gl G⟩,⟨Ma,Gk.i6,Gk.plain,Xk⟩,⟨Xb,Gp.i6,Gp.plain,fun k=>EV Gp G⟩,⟨qj,xZ.i6,xZ.plain,Mg⟩⟩,Gq,Gr⟩
end Mine
end
section
set_option maxHeartbeats 2000000
namespace Mine
theorem Xn:gW callerA 6:=by
 refine⟨rfl,?_,?_⟩<;>decide+kernel
theorem Xo{P:Params}{h:Heap}{a:Addr}{xs:List Int}(x:Well P h (.ref a) (ofPy (PyData.list (xs.map PyData.int)))):∃vs:List Value,h.get? a=some {cls:=.type "list",data:=.seq vs.toArray}:=by
 obtain⟨ds,e⟩:∃ds,ofPy (PyData.list (xs.map PyData.int))=.list ds:=⟨_,rfl⟩;rw[e]at x;cases x with
 |list h _=>exact⟨_,h⟩
set_option tactic.hygienic true in
theorem Xp{q:Program}{Gv:∀Y:(∀Y:Str,Option Value),∀Y:Heap,Prop} {Gw:∀Y:World,∀Y:Heap,Prop} (V:Gd q [Str.ofString "GateloomError"]):WalkO q [Str.ofString "GateloomError"] Gv Gw PySem.Challenge.rw_nn0309_01.row.toRowW (bP 25) [] fun f vs=>PySem.call f vs:=by
 intro w l4 ba fC gi G aa YT o pm fm doc WW YU bx hd tR tZ Mk b8 args vals as qG Xq Xr Xs qJ
 wrow_args qG Xq Xr Xs qJ
 rename_i xs _ _ _ _ _ _ _ L vs _ eQ _ rh _ bE _ hlen _;refine aj ?_ (Xo rh);intro vs' lh
 have Xu:vs'=vs:=by
  obtain⟨cg,aS,_,n,aW⟩:=eQ;rw[lh]at aS;cases aS;cases aW
  rfl
 subst Xu;have T:=G.T;refine jt ?_ (T.tab (bP 10) (V.fns 10 (by decide)));intro Md Me fd c P;refine dH ?_;intro pW kI Gs Gu Xv Gx;have dj:ba.heap.get? P=some Bd:=Gx.2;have H:Hid ba.heap ((ba.heap.hide P).hide L):=Wz dj lh rfl;refine bZ ?_ (W4 (prog:=PySem.Challenge.rw_nn0309_01.row.prog) (w:=w) V T G.TD dj ⟨Md,Me,fd,c,pW,kI,Gs,Gu,Xv,Gx⟩ H);intro aF a;refine aY ?_;intro D6 Gq Gr;rw[Gq]at Mk;cases Mk;have cP:P≠L:=by rintro rfl;rw[lh]at dj;cases dj
 have S:bh PySem.Challenge.rw_nn0309_01.row.prog w ((ba.heap.hide P).hide L) [P,L] ba.heap [.tab P,.raw {cls:=.type "list",data:=.seq vs'.toArray} xs]:=by
  refine⟨rfl,by simp[cP],fun a aJ=>?_,H.of,fun n a o ae af=>?_⟩
  ·simp only[List.mem_cons,List.not_mem_nil,or_false]at aJ;rcases aJ with rfl|rfl
   ·rw[Heap.hide_ne _ cP];exact Heap.hide_self _ _
   ·exact Heap.hide_self _ _
  ·match n with
   |0=>cases ae;cases af;exact⟨rfl,#[],dj,trivial,fun pos iR e=>by cases e⟩
   |1=>cases ae;cases af;exact⟨lh,vs',⟨_,lh⟩,.BA bE⟩
   |n+2=>cases ae
 have az:xs.length≤63:=by exact aI (.n (.T (.n (.k 63)) (.n .p)) (.l .p (.k 63))) rfl hlen
 refine never (wpAny_mono (Wi (k:=0) Gr D6 (Q:=fun v s'=>v=.bool true∧s'[0]?=some (.tab P)∧s'[1]?=some (.raw {cls:=.type "list",data:=.seq vs'.toArray} xs)) (am:=[P,L]) (xs:=[.ref 1]) (vs:=[.ref L]) Xn S (.cons (.ref rfl) .nil)
  ⟨1,_,xs,rfl,rfl,by exact aI (.i 1000000 (.o (.T (.n (.k 63)) (.n .p))) (.G 62 (.l .p (.k 1000000)))) rfl hlen,rfl,fun s' hs=>⟨rfl,hs 0 _ rfl,hs 1 _ rfl⟩⟩) (fun v s' aO=>?_) fun e s' he=>he)
 obtain⟨aX,ao,pv,⟨⟨h',tk,d,rfl⟩,ext⟩,dJ,aO,rfl,t0,t1⟩:=aO;cases aO
 obtain⟨fJ,YV,jN,dq,gz,_⟩:=dJ.at_ t0;refine aj ?_ (dJ.at_ t1);intro a1;refine aY ?_;intro Ml jJ _;subst jN
 have Xw:a1=L:=by
  have:=o7 ext.pre (n:=1) (a:=L) rfl;rw[this]at Ml;exact(Option.some.inj Ml).symm
 subst Xw;refine⟨.inl ⟨.bool true,.bool true,[],rfl,fun Y=>rfl,.bool true,by first|rfl|wrow_post,fun Y=>⟨.nil,fun Y h=>(nomatch h)⟩⟩,⟨fun b o e=>?_,fun b o e=>?_⟩,rfl,.of_eq b8⟩
 ·by_cases av:b∈[fJ,a1]
  ·simp only[List.mem_cons,List.not_mem_nil,or_false]at av;rcases av with rfl|rfl
   ·rw[dj]at e;cases e;exact .inr (.inl ⟨Gx.isCodeTable,rfl,#[],dq,rfl,by rw[Array.empty_append];exact gz⟩)
   ·rw[lh]at e;cases e;exact .inl jJ
  ·exact .inl (ext.keep b o av e)
 ·by_cases av:b∈[fJ,a1]
  ·simp only[List.mem_cons,List.not_mem_nil,or_false]at av;rcases av with rfl|rfl
   ·exact⟨_,gz⟩
   ·exact⟨_,jJ⟩
  ·exact⟨o,ext.keep b o av e⟩
end Mine
end
namespace Mine
theorem Xx{q:Program}{loose:List Str}(ae:recsOf q=bP 0::Bf.map bP)(af:dclssOf q loose=[tc])(aH:(usedNames.all (isFree q (looseW q loose)))=true)(bX:importsNone q=true):Gd q loose:=
 ⟨fun _ hi=>ae▸List.mem_cons_of_mem _ (List.mem_map_of_mem hi),af▸List.mem_singleton.mpr rfl,aH,bX⟩
theorem YW{q:Program}{Gv:(Str→Option Value)→Heap→Prop}{Gw:World→Heap→Prop}{d:DefRec}(aM:d=bP 25)(ae:recsOf q=bP 0::Bf.map bP)(af:dclssOf q [Str.ofString "GateloomError"]=[tc])(aH:(usedNames.all (isFree q (looseW q [Str.ofString "GateloomError"])))=true)(bX:importsNone q=true):
 WalkO q [Str.ofString "GateloomError"] Gv Gw PySem.Challenge.rw_nn0309_01.row.toRowW d [] fun f vs=>PySem.call f vs:=by
 subst aM;exact Xp (Xx ae af aH bX)
end Mine
set_option maxHeartbeats 20000000
theorem PySem.Challenge.cw_nn0309_01_holds : PySem.Challenge.rw_nn0309_01.Holds := by
  w_on
  o_law
  o_head (Hook.none)
  (case hw => w_witness2)
  exact Mine.YW (by kernel_rfl) (by kernel_rfl) (by kernel_rfl) (by kernel_rfl) (by kernel_rfl)
