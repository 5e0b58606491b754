import PyProof.Rows.All
import Wide.All
import OpenK.KMake
import OpenK.KCell
import Open.Line
import Lean
import PySem.Challenge.RW_nn0309_01
open PySem PySem.W PyProof.Rows
set_option Elab.async false
set_option tactic.hygienic false
set_option maxRecDepth 100000
set_option autoImplicit false
set_option linter.unusedSimpArgs false
set_option linter.unusedVariables false
set_option genSizeOf false
set_option genInjectivity false
set_option compiler.extract_closed false
namespace Mine
theorem jD(h:True:=by decide):True:=h
theorem Gx(h:True:=by with_unfolding_all rfl):True:=h
theorem mu(h:True:=by intro _;rfl):True:=h
theorem jX(h:True:=by rfl):True:=h
theorem qd(h:True:=by intro _ _;rfl):True:=h
theorem Mk(h:True:=by intro _;with_unfolding_all rfl):True:=h
theorem aj.{eo}{dE:Sort eo}{P:dE→Prop}{G:Prop}(k:∀x0,P x0→G) (h:∃x0,P x0):G:=h.elim fun x0 h=>k x0 h
theorem bZ.{eo,eE}{dE:Sort eo}{dO:Sort eE}{P:dE→dO→Prop}{G:Prop}(k:∀x0 bW,P x0 bW→G) (h:∃x0 bW,P x0 bW):G:=h.elim fun x0 h=>h.elim fun bW h=>k x0 bW h
theorem bG.{eo,eE,fg}{dE:Sort eo}{dO:Sort eE}{d9:Sort fg}{P:dE→dO→d9→Prop}{G:Prop}(k:∀x0 bW cy,P x0 bW cy→G) (h:∃x0 bW cy,P x0 bW cy):G:=h.elim fun x0 h=>h.elim fun bW h=>h.elim fun cy h=>k x0 bW cy h
theorem dF.{eo,eE,fg,fX}{dE:Sort eo}{dO:Sort eE}{d9:Sort fg}{eO:Sort fX}{P:dE→dO→d9→eO→Prop}{G:Prop}(k:∀x0 bW cy c7,P x0 bW cy c7→G) (h:∃x0 bW cy c7,P x0 bW cy c7):G:=h.elim fun x0 h=>h.elim fun bW h=>h.elim fun cy h=>h.elim fun c7 h=>k x0 bW cy c7 h
theorem jr.{eo,eE,fg,fX,gT}{dE:Sort eo}{dO:Sort eE}{d9:Sort fg}{eO:Sort fX}{fH:Sort gT}{P:dE→dO→d9→eO→fH→Prop}{G:Prop}(k:∀x0 bW cy c7 dp,P x0 bW cy c7 dp→G) (h:∃x0 bW cy c7 dp,P x0 bW cy c7 dp):G:=h.elim fun x0 h=>h.elim fun bW h=>h.elim fun cy h=>h.elim fun c7 h=>h.elim fun dp h=>k x0 bW cy c7 dp h
theorem o0.{eo,eE,fg,fX,gT,i9}{dE:Sort eo}{dO:Sort eE}{d9:Sort fg}{eO:Sort fX}{fH:Sort gT}{gF:Sort i9}{P:dE→dO→d9→eO→fH→gF→Prop}{G:Prop}(k:∀x0 bW cy c7 dp dP,P x0 bW cy c7 dp dP→G) (h:∃x0 bW cy c7 dp dP,P x0 bW cy c7 dp dP):G:=h.elim fun x0 h=>h.elim fun bW h=>h.elim fun cy h=>h.elim fun c7 h=>h.elim fun dp h=>h.elim fun dP h=>k x0 bW cy c7 dp dP h
theorem Ml.{eo,eE,fg,fX,gT,i9,ko}{dE:Sort eo}{dO:Sort eE}{d9:Sort fg}{eO:Sort fX}{fH:Sort gT}{gF:Sort i9}{ja:Sort ko}{P:dE→dO→d9→eO→fH→gF→ja→Prop}{G:Prop}(k:∀x0 bW cy c7 dp dP fh,P x0 bW cy c7 dp dP fh→G) (h:∃x0 bW cy c7 dp dP fh,P x0 bW cy c7 dp dP fh):G:=h.elim fun x0 h=>h.elim fun bW h=>h.elim fun cy h=>h.elim fun c7 h=>h.elim fun dp h=>h.elim fun dP h=>h.elim fun fh h=>k x0 bW cy c7 dp dP fh h
theorem Mm.{eo,eE,fg,fX,gT,i9,ko,m0}{dE:Sort eo}{dO:Sort eE}{d9:Sort fg}{eO:Sort fX}{fH:Sort gT}{gF:Sort i9}{ja:Sort ko}{kU:Sort m0}{P:dE→dO→d9→eO→fH→gF→ja→kU→Prop}{G:Prop}(k:∀x0 bW cy c7 dp dP fh gv,P x0 bW cy c7 dp dP fh gv→G) (h:∃x0 bW cy c7 dp dP fh gv,P x0 bW cy c7 dp dP fh gv):G:=h.elim fun x0 h=>h.elim fun bW h=>h.elim fun cy h=>h.elim fun c7 h=>h.elim fun dp h=>h.elim fun dP h=>h.elim fun fh h=>h.elim fun gv h=>k x0 bW cy c7 dp dP fh gv h
theorem Gy.{eo,eE,fg,fX,gT,i9,ko,m0,u8}{dE:Sort eo}{dO:Sort eE}{d9:Sort fg}{eO:Sort fX}{fH:Sort gT}{gF:Sort i9}{ja:Sort ko}{kU:Sort m0}{o2:Sort u8}{P:dE→dO→d9→eO→fH→gF→ja→kU→o2→Prop}{G:Prop}(k:∀x0 bW cy c7 dp dP fh gv kq,P x0 bW cy c7 dp dP fh gv kq→G) (h:∃x0 bW cy c7 dp dP fh gv kq,P x0 bW cy c7 dp dP fh gv kq):G:=h.elim fun x0 h=>h.elim fun bW h=>h.elim fun cy h=>h.elim fun c7 h=>h.elim fun dp h=>h.elim fun dP h=>h.elim fun fh h=>h.elim fun gv h=>h.elim fun kq h=>k x0 bW cy c7 dp dP fh gv kq h
theorem x8.{eo,eE,fg,fX,gT,i9,ko,m0,u8,Bf,Bg,Mn}{dE:Sort eo}{dO:Sort eE}{d9:Sort fg}{eO:Sort fX}{fH:Sort gT}{gF:Sort i9}{ja:Sort ko}{kU:Sort m0}{o2:Sort u8}{x9:Sort Bf}{ya:Sort Bg}{Mp:Sort Mn}{P:dE→dO→d9→eO→fH→gF→ja→kU→o2→x9→ya→Mp→Prop}{G:Prop}(k:∀x0 bW cy c7 dp dP fh gv kq rE rF vj,P x0 bW cy c7 dp dP fh gv kq rE rF vj→G) (h:∃x0 bW cy c7 dp dP fh gv kq rE rF vj,P x0 bW cy c7 dp dP fh gv kq rE rF vj):G:=h.elim fun x0 h=>h.elim fun bW h=>h.elim fun cy h=>h.elim fun c7 h=>h.elim fun dp h=>h.elim fun dP h=>h.elim fun fh h=>h.elim fun gv h=>h.elim fun kq h=>h.elim fun rE h=>h.elim fun rF h=>h.elim fun vj h=>k x0 bW cy c7 dp dP fh gv kq rE rF vj h
theorem ar{gg fi G:Prop}(k:gg→fi→G)(h:gg∧fi):G:=k h.1 h.2
theorem aY{gg fi gU G:Prop}(k:gg→fi→gU→G)(h:gg∧fi∧gU):G:=k h.1 h.2.1 h.2.2
theorem cH{gg fi gU iP G:Prop}(k:gg→fi→gU→iP→G)(h:gg∧fi∧gU∧iP):G:=k h.1 h.2.1 h.2.2.1 h.2.2.2
theorem eY{gg fi gU iP jE G:Prop}(k:gg→fi→gU→iP→jE→G)(h:gg∧fi∧gU∧iP∧jE):G:=k h.1 h.2.1 h.2.2.1 h.2.2.2.1 h.2.2.2.2
theorem dH{gg fi gU iP jE kW G:Prop}(k:gg→fi→gU→iP→jE→kW→G)(h:gg∧fi∧gU∧iP∧jE∧kW):G:=k h.1 h.2.1 h.2.2.1 h.2.2.2.1 h.2.2.2.2.1 h.2.2.2.2.2
theorem nS{gg fi gU iP jE kW m5 G:Prop}(k:gg→fi→gU→iP→jE→kW→m5→G)(h:gg∧fi∧gU∧iP∧jE∧kW∧m5):G:=k h.1 h.2.1 h.2.2.1 h.2.2.2.1 h.2.2.2.2.1 h.2.2.2.2.2.1 h.2.2.2.2.2.2
theorem Bh{gg fi gU iP jE kW m5 qe G:Prop}(k:gg→fi→gU→iP→jE→kW→m5→qe→G)(h:gg∧fi∧gU∧iP∧jE∧kW∧m5∧qe):G:=k h.1 h.2.1 h.2.2.1 h.2.2.2.1 h.2.2.2.2.1 h.2.2.2.2.2.1 h.2.2.2.2.2.2.1 h.2.2.2.2.2.2.2
theorem Mq{gg fi gU iP jE kW m5 qe vm G:Prop}(k:gg→fi→gU→iP→jE→kW→m5→qe→vm→G)(h:gg∧fi∧gU∧iP∧jE∧kW∧m5∧qe∧vm):G:=k h.1 h.2.1 h.2.2.1 h.2.2.2.1 h.2.2.2.2.1 h.2.2.2.2.2.1 h.2.2.2.2.2.2.1 h.2.2.2.2.2.2.2.1 h.2.2.2.2.2.2.2.2
theorem Mr{gg fi gU iP jE kW m5 qe vm Gz G:Prop}(k:gg→fi→gU→iP→jE→kW→m5→qe→vm→Gz→G)(h:gg∧fi∧gU∧iP∧jE∧kW∧m5∧qe∧vm∧Gz):G:=k h.1 h.2.1 h.2.2.1 h.2.2.2.1 h.2.2.2.2.1 h.2.2.2.2.2.1 h.2.2.2.2.2.2.1 h.2.2.2.2.2.2.2.1 h.2.2.2.2.2.2.2.2.1 h.2.2.2.2.2.2.2.2.2
theorem cD.{eo,eE}{dE:Sort eo}{dO:Sort eE}{P:∀Y:dE,∀Y:dO,Prop} (fJ:dE) (a1:dO) (h:P fJ a1):∃x0 bW,P x0 bW:=⟨fJ,a1,h⟩
theorem cE.{eo,eE,fg}{dE:Sort eo}{dO:Sort eE}{d9:Sort fg}{P:∀Y:dE,∀Y:dO,∀Y:d9,Prop} (fJ:dE) (a1:dO) (a2:d9) (h:P fJ a1 a2):∃x0 bW cy,P x0 bW cy:=⟨fJ,a1,a2,h⟩
theorem dX.{eo,eE,fg,fX}{dE:Sort eo}{dO:Sort eE}{d9:Sort fg}{eO:Sort fX}{P:∀Y:dE,∀Y:dO,∀Y:d9,∀Y:eO,Prop} (fJ:dE) (a1:dO) (a2:d9) (cW:eO) (h:P fJ a1 a2 cW):∃x0 bW cy c7,P x0 bW cy c7:=⟨fJ,a1,a2,cW,h⟩
theorem kX.{eo,eE,fg,fX,gT}{dE:Sort eo}{dO:Sort eE}{d9:Sort fg}{eO:Sort fX}{fH:Sort gT}{P:∀Y:dE,∀Y:dO,∀Y:d9,∀Y:eO,∀Y:fH,Prop} (fJ:dE) (a1:dO) (a2:d9) (cW:eO) (dI:fH) (h:P fJ a1 a2 cW dI):∃x0 bW cy c7 dp,P x0 bW cy c7 dp:=⟨fJ,a1,a2,cW,dI,h⟩
theorem qf.{eo,eE,fg,fX,gT,i9}{dE:Sort eo}{dO:Sort eE}{d9:Sort fg}{eO:Sort fX}{fH:Sort gT}{gF:Sort i9}{P:∀Y:dE,∀Y:dO,∀Y:d9,∀Y:eO,∀Y:fH,∀Y:gF,Prop} (fJ:dE) (a1:dO) (a2:d9) (cW:eO) (dI:fH) (gw:gF) (h:P fJ a1 a2 cW dI gw):∃x0 bW cy c7 dp dP,P x0 bW cy c7 dp dP:=⟨fJ,a1,a2,cW,dI,gw,h⟩
theorem vn.{eo,eE,fg,fX,gT,i9,ko}{dE:Sort eo}{dO:Sort eE}{d9:Sort fg}{eO:Sort fX}{fH:Sort gT}{gF:Sort i9}{ja:Sort ko}{P:∀Y:dE,∀Y:dO,∀Y:d9,∀Y:eO,∀Y:fH,∀Y:gF,∀Y:ja,Prop} (fJ:dE) (a1:dO) (a2:d9) (cW:eO) (dI:fH) (gw:gF) (lJ:ja) (h:P fJ a1 a2 cW dI gw lJ):∃x0 bW cy c7 dp dP fh,P x0 bW cy c7 dp dP fh:=⟨fJ,a1,a2,cW,dI,gw,lJ,h⟩
theorem Ms.{eo,eE,fg,fX,gT,i9,ko,m0}{dE:Sort eo}{dO:Sort eE}{d9:Sort fg}{eO:Sort fX}{fH:Sort gT}{gF:Sort i9}{ja:Sort ko}{kU:Sort m0}{P:∀Y:dE,∀Y:dO,∀Y:d9,∀Y:eO,∀Y:fH,∀Y:gF,∀Y:ja,∀Y:kU,Prop} (fJ:dE) (a1:dO) (a2:d9) (cW:eO) (dI:fH) (gw:gF) (lJ:ja) (qg:kU) (h:P fJ a1 a2 cW dI gw lJ qg):∃x0 bW cy c7 dp dP fh gv,P x0 bW cy c7 dp dP fh gv:=⟨fJ,a1,a2,cW,dI,gw,lJ,qg,h⟩
theorem Mt.{eo,eE,fg,fX,gT,i9,ko,m0,u8}{dE:Sort eo}{dO:Sort eE}{d9:Sort fg}{eO:Sort fX}{fH:Sort gT}{gF:Sort i9}{ja:Sort ko}{kU:Sort m0}{o2:Sort u8}{P:∀Y:dE,∀Y:dO,∀Y:d9,∀Y:eO,∀Y:fH,∀Y:gF,∀Y:ja,∀Y:kU,∀Y:o2,Prop} (fJ:dE) (a1:dO) (a2:d9) (cW:eO) (dI:fH) (gw:gF) (lJ:ja) (qg:kU) (qh:o2) (h:P fJ a1 a2 cW dI gw lJ qg qh):∃x0 bW cy c7 dp dP fh gv kq,P x0 bW cy c7 dp dP fh gv kq:=⟨fJ,a1,a2,cW,dI,gw,lJ,qg,qh,h⟩
theorem Mu.{eo,eE,fg,fX,gT,i9,ko,m0,u8,Bf,Bg}{dE:Sort eo}{dO:Sort eE}{d9:Sort fg}{eO:Sort fX}{fH:Sort gT}{gF:Sort i9}{ja:Sort ko}{kU:Sort m0}{o2:Sort u8}{x9:Sort Bf}{ya:Sort Bg}{P:∀Y:dE,∀Y:dO,∀Y:d9,∀Y:eO,∀Y:fH,∀Y:gF,∀Y:ja,∀Y:kU,∀Y:o2,∀Y:x9,∀Y:ya,Prop} (fJ:dE) (a1:dO) (a2:d9) (cW:eO) (dI:fH) (gw:gF) (lJ:ja) (qg:kU) (qh:o2) (Bj:x9) (vo:ya) (h:P fJ a1 a2 cW dI gw lJ qg qh Bj vo):∃x0 bW cy c7 dp dP fh gv kq rE rF,P x0 bW cy c7 dp dP fh gv kq rE rF:=⟨fJ,a1,a2,cW,dI,gw,lJ,qg,qh,Bj,vo,h⟩
inductive dY where|v (i:Nat)|k (n:Nat)|a (x y:dY)|m (n:Nat) (x:dY)
inductive fK where|v (i:Nat)|n (x:dY)|k (n:Int)|a (x y:fK)|s (x y:fK)|m (n:Int) (x:fK)
inductive cK where|l (x y:dY)|t (x y:dY)|e (x y:dY)|L (x y:fK)|T (x y:fK)|E (x y:fK)|o (c:cK)|F (k:Nat)|G (k:Nat) (c:cK)|i (k:Int) (c r:cK)
noncomputable def dY.p:dY:=.v 0
noncomputable def dY.q:dY:=.v 1
noncomputable def dY.r:dY:=.v 2
noncomputable def dY.s:dY:=.v 3
noncomputable def dY.t:dY:=.v 4
noncomputable def dY.z:dY:=.k 0
noncomputable def dY.o:dY:=.k 1
noncomputable def dY.b(x:dY):dY:=.a x .o
noncomputable def fK.p:fK:=.v 0
noncomputable def fK.q:fK:=.v 1
noncomputable def fK.r:fK:=.v 2
noncomputable def cK.f:cK:=.F 0
noncomputable def cK.a(x y:dY):∀Y:cK,cK:=.i 1 (.l x y)
noncomputable def cK.b(x y:dY):∀Y:cK,cK:=.i 1 (.t x y)
noncomputable def cK.c(x y:dY):∀Y:cK,cK:=.i 1 (.e x y)
noncomputable def cK.A(x y:fK):∀Y:cK,cK:=.i 1 (.L x y)
noncomputable def cK.B(x y:fK):∀Y:cK,cK:=.i 1 (.T x y)
noncomputable def cK.ak(x y:fK):∀Y:cK,cK:=.i 1 (.E x y)
noncomputable def cK.n(c:cK):∀Y:cK,cK:=.i 1 (.o c)
noncomputable def vp:∀Y:List Nat,∀Y:Nat,Nat:=List.rec (fun Y=>0) fun x Y g i=>Nat.rec x (fun j Y=>g j) i
noncomputable def vq:∀Y:List Int,∀Y:Nat,Int:=List.rec (fun Y=>0) fun x Y g i=>Nat.rec x (fun j Y=>g j) i
noncomputable def dY.d(N:List Nat):∀Y:dY,Nat:=dY.rec (vp N) (fun n=>n) (fun Y Y x y=>x+y) fun n Y x=>n*x
noncomputable def fK.d(N:List Nat)(Z:List Int):∀Y:fK,Int:=fK.rec (vq Z) (fun x=>(x.d N:Int)) (fun n=>n) (fun Y Y x y=>x+y) (fun Y Y x y=>x-y) fun n Y x=>n*x
noncomputable def cK.d(N:List Nat)(Z:List Int):∀Y:cK,Prop:=cK.rec (fun x y=>x.d N≤y.d N) (fun x y=>x.d N<y.d N) (fun x y=>x.d N=y.d N) (fun x y=>x.d N Z≤y.d N Z) (fun x y=>x.d N Z<y.d N Z) (fun x y=>x.d N Z=y.d N Z) (fun Y p=>¬p) (fun Y=>False) (fun Y Y p=>p) fun Y Y Y p q=>∀Y:p,q
structure cI where
 c:Int
 n:List Int
 z:List Int
noncomputable def qi:∀Y:List Int,∀Y:List Int,List Int:=List.rec (fun y=>y) fun x r g y=>List.rec (x::r) (fun y s Y=>(x+y)::g s) y
noncomputable def qj(i:Nat):List Int:=Nat.rec [1] (fun Y l=>0::l) i
noncomputable def cI.k(c:Int):cI:=⟨c,[],[]⟩
noncomputable def cI.u(i:Nat):cI:=⟨0,qj i,[]⟩
noncomputable def cI.w(i:Nat):cI:=⟨0,[],qj i⟩
noncomputable def cI.add(p q:cI):cI:=⟨p.c+q.c,qi p.n q.n,qi p.z q.z⟩
noncomputable def cI.mul(k:Int)(p:cI):cI:=⟨k*p.c,p.n.map (k*·),p.z.map (k*·)⟩
noncomputable def dY.S:∀Y:dY,cI:=dY.rec .u (fun n=>.k n) (fun Y Y x y=>x.add y) fun n Y x=>x.mul n
noncomputable def fK.S:∀Y:fK,cI:=fK.rec .w dY.S .k (fun Y Y x y=>x.add y) (fun Y Y x y=>x.add (y.mul (-1))) fun n Y x=>x.mul n
noncomputable def lK(x y:cI)(c:Int):cI:=(y.add (x.mul (-1))).add (.k c)
noncomputable def cK.s:∀Y:cK,cI:=cK.rec (fun x y=>lK x.S y.S 0) (fun x y=>lK x.S y.S (-1)) (fun x y=>lK x.S y.S 0) (fun x y=>lK x.S y.S 0) (fun x y=>lK x.S y.S (-1)) (fun x y=>lK x.S y.S 0) (fun Y p=>(p.mul (-1)).add (.k (-1))) (fun Y=>.k 0) (fun Y Y Y=>.k 0) fun Y Y Y Y Y=>.k 0
noncomputable def cK.rG:∀Y:cK,Bool:=cK.rec (fun Y Y=>false) (fun Y Y=>false) (fun Y Y=>true) (fun Y Y=>false) (fun Y Y=>false) (fun Y Y=>true) (fun Y Y=>false) (fun Y=>false) (fun Y Y Y=>false) fun Y Y Y Y Y=>false
noncomputable def cK.ok:∀Y:cK,Bool:=cK.rec (fun Y Y=>true) (fun Y Y=>true) (fun Y Y=>true) (fun Y Y=>true) (fun Y Y=>true) (fun Y Y=>true) (fun c b=>b&&!c.rG) (fun Y=>false) (fun Y Y Y=>false) fun Y Y Y Y Y=>false
noncomputable def iD:∀Y:List Int,∀Y:List Nat,Int:=List.rec (fun Y=>0) fun c Y g l=>List.rec 0 (fun x r Y=>c*x+g r) l
noncomputable def iE:∀Y:List Int,∀Y:List Int,Int:=List.rec (fun Y=>0) fun c Y g l=>List.rec 0 (fun x r Y=>c*x+g r) l
noncomputable def cI.d(N:List Nat)(Z:List Int)(p:cI):Int:=p.c+iD p.n N+iE p.z Z
noncomputable def allB(p:∀Y:Int,Bool):∀Y:List Int,Bool:=List.rec true fun x Y b=>p x&&b
noncomputable def cI.fin(r:cI):Bool:=decide (0≤r.c)&&allB (fun c=>decide (0≤c)) r.n&&allB (fun c=>decide (c=0)) r.z
noncomputable def vt(k:Nat)(g r:cI):Bool:=(r.add ((g.mul (k+1)).add (.k k))).fin
noncomputable def o3(k:Nat)(c:cK)(r:cI):Bool:=c.ok&&!c.rG&&vt k c.s r
noncomputable def Bk(k:Int)(c:cK)(f:∀Y:cI,Bool) (r:cI):Bool:=c.ok&&(c.rG||decide (0≤k))&&f (r.add (c.s.mul (-k)))
noncomputable def cK.h:∀Y:cK,∀Y:cI,Bool:=cK.rec (fun x y=>o3 0 (.l x y)) (fun x y=>o3 0 (.t x y)) (fun Y Y Y=>false) (fun x y=>o3 0 (.L x y)) (fun x y=>o3 0 (.T x y)) (fun Y Y Y=>false) (fun c Y=>o3 0 (.o c)) (fun k=>vt k (.k (-1))) (fun k c Y=>o3 k c) fun k c Y Y=>Bk k c
section
variable{N:List Nat}{Z:List Int}
theorem yb(a b c d:Int):a+b+(c+d)=a+c+(b+d):=by
 rw[Int.add_assoc,Int.add_left_comm b,←Int.add_assoc]
theorem Mv(x:List Int):∀y N,iD (qi x y) N=iD x N+iD y N:=by
 induction x with
 |nil=>intro y N;exact(Int.zero_add _).symm
 |cons a r ih=>
  intro y N;cases y with
  |nil=>exact(Int.add_zero _).symm
  |cons b s=>cases N with
   |nil=>rfl
   |cons n N=>
    show(a+b)*n+iD (qi r s) N=(a*n+iD r N)+(b*n+iD s N);rw[ih,Int.add_mul,yb]
theorem Mw(x:List Int):∀y N,iE (qi x y) N=iE x N+iE y N:=by
 induction x with
 |nil=>intro y N;exact(Int.zero_add _).symm
 |cons a r ih=>
  intro y N;cases y with
  |nil=>exact(Int.add_zero _).symm
  |cons b s=>cases N with
   |nil=>rfl
   |cons n N=>
    show(a+b)*n+iE (qi r s) N=(a*n+iE r N)+(b*n+iE s N);rw[ih,Int.add_mul,yb]
theorem Mx(k:Int)(x:List Int):∀N,iD (x.map (k*·)) N=k*iD x N:=by
 induction x with
 |nil=>intro N;exact(Int.mul_zero _).symm
 |cons a r ih=>
  intro N;cases N with
  |nil=>exact(Int.mul_zero _).symm
  |cons n N=>
   show k*a*n+iD (r.map (k*·)) N=k*(a*n+iD r N);rw[ih,Int.mul_add,Int.mul_assoc]
theorem My(k:Int)(x:List Int):∀N,iE (x.map (k*·)) N=k*iE x N:=by
 induction x with
 |nil=>intro N;exact(Int.mul_zero _).symm
 |cons a r ih=>
  intro N;cases N with
  |nil=>exact(Int.mul_zero _).symm
  |cons n N=>
   show k*a*n+iE (r.map (k*·)) N=k*(a*n+iE r N);rw[ih,Int.mul_add,Int.mul_assoc]
theorem Xd:∀N,iD [] N=0:=fun Y=>rfl
theorem Mz(i:Nat):∀N,iD (qj i) N=vp N i:=by
 induction i with
 |zero=>intro N;cases N with
  |nil=>rfl
  |cons n N=>show 1*(n:Int)+0=n;rw[Int.one_mul,Int.add_zero]
 |succ i ih=>intro N;cases N with
  |nil=>rfl
  |cons n N=>show 0*(n:Int)+iD (qj i) N=vp N i;rw[ih,Int.zero_mul,Int.zero_add]
theorem MA(i:Nat):∀N,iE (qj i) N=vq N i:=by
 induction i with
 |zero=>intro N;cases N with
  |nil=>rfl
  |cons n N=>show 1*n+0=n;rw[Int.one_mul,Int.add_zero]
 |succ i ih=>intro N;cases N with
  |nil=>rfl
  |cons n N=>show 0*n+iE (qj i) N=vq N i;rw[ih,Int.zero_mul,Int.zero_add]
theorem cI.o4(p q:cI):(p.add q).d N Z=p.d N Z+q.d N Z:=by
 show p.c+q.c+iD (qi p.n q.n) N+iE (qi p.z q.z) Z=(p.c+iD p.n N+iE p.z Z)+(q.c+iD q.n N+iE q.z Z);rw[Mv,Mw,yb p.c,yb (p.c+_)]
theorem cI.rH(k:Int)(p:cI):(p.mul k).d N Z=k*p.d N Z:=by
 show k*p.c+iD (p.n.map (k*·)) N+iE (p.z.map (k*·)) Z=k*(p.c+iD p.n N+iE p.z Z);rw[Mx,My,Int.mul_add,Int.mul_add]
theorem cI.rI(c:Int):(cI.k c).d N Z=c:=by
 show c+0+0=c;rw[Int.add_zero,Int.add_zero]
theorem cI.MB(i:Nat):(cI.u i).d N Z=(vp N i:Int):=by
 show 0+iD (qj i) N+0=(vp N i:Int);rw[Mz,Int.add_zero,Int.zero_add]
theorem cI.MC(i:Nat):(cI.w i).d N Z=vq Z i:=by
 show 0+0+iE (qj i) Z=vq Z i;rw[MA,Int.zero_add,Int.zero_add]
theorem dY.rJ(x:dY):x.S.d N Z=x.d N:=by
 induction x with
 |v i=>exact cI.MB i
 |k n=>exact cI.rI n
 |a x y ai au=>show(x.S.add y.S).d N Z=((x.d N+y.d N:Nat):Int);rw[cI.o4,ai,au];rfl
 |m n x ai=>show(x.S.mul n).d N Z=((n*x.d N:Nat):Int);rw[cI.rH,ai];rfl
theorem fK.td(x:fK):x.S.d N Z=x.d N Z:=by
 induction x with
 |v i=>exact cI.MC i
 |n x=>exact x.rJ
 |k n=>exact cI.rI n
 |a x y ai au=>show(x.S.add y.S).d N Z=x.d N Z+y.d N Z;rw[cI.o4,ai,au]
 |s x y ai au=>show(x.S.add (y.S.mul (-1))).d N Z=x.d N Z-y.d N Z;rw[cI.o4,cI.rH,ai,au,Int.neg_mul,Int.one_mul,←Int.sub_eq_add_neg]
 |m n x ai=>show(x.S.mul n).d N Z=n*x.d N Z;rw[cI.rH,ai]
theorem tf(x y:cI)(c:Int):(lK x y c).d N Z=y.d N Z-x.d N Z+c:=by
 show((y.add (x.mul (-1))).add (.k c)).d N Z=_;rw[cI.o4,cI.o4,cI.rH,cI.rI,Int.neg_mul,Int.one_mul,←Int.sub_eq_add_neg]
noncomputable def cK.says(N:List Nat)(Z:List Int)(c:cK):Prop:=if c.rG=true then c.s.d N Z=0 else 0≤c.s.d N Z
theorem cK.iff(c:cK)(h:c.ok=true):c.d N Z↔c.says N Z:=by
 induction c with
 |l x y=>show x.d N≤y.d N↔0≤(lK x.S y.S 0).d N Z;rw[tf,dY.rJ,dY.rJ,Int.add_zero,Int.sub_nonneg,Int.ofNat_le]
 |t x y=>show x.d N<y.d N↔0≤(lK x.S y.S (-1)).d N Z;rw[tf,dY.rJ,dY.rJ,←Int.sub_eq_add_neg,Int.sub_sub,Int.sub_nonneg];exact Int.ofNat_le.symm
 |e x y=>show x.d N=y.d N↔(lK x.S y.S 0).d N Z=0;rw[tf,dY.rJ,dY.rJ,Int.add_zero,Int.sub_eq_zero,Int.ofNat_inj,eq_comm]
 |L x y=>show x.d N Z≤y.d N Z↔0≤(lK x.S y.S 0).d N Z;rw[tf,fK.td,fK.td,Int.add_zero,Int.sub_nonneg]
 |T x y=>show x.d N Z<y.d N Z↔0≤(lK x.S y.S (-1)).d N Z;rw[tf,fK.td,fK.td,←Int.sub_eq_add_neg,Int.sub_sub,Int.sub_nonneg];exact Iff.rfl
 |E x y=>show x.d N Z=y.d N Z↔(lK x.S y.S 0).d N Z=0;rw[tf,fK.td,fK.td,Int.add_zero,Int.sub_eq_zero,eq_comm]
 |o c ih=>
  have h':(c.ok&&!c.rG)=true:=h;rw[Bool.and_eq_true,Bool.not_eq_true']at h';have i:=ih h'.1;unfold cK.says at i;rw[h'.2,if_neg Bool.false_ne_true]at i;show¬c.d N Z↔0≤((c.s.mul (-1)).add (.k (-1))).d N Z;rw[i,cI.o4,cI.rH,cI.rI,Int.neg_mul,Int.one_mul,←Int.neg_add,Int.neg_nonneg,Int.not_le];exact Iff.rfl
 |F _=>cases h
 |G _ _=>cases h
 |i _ _ _=>cases h
theorem MD(x:List Int):∀N,∀Y:allB (fun c=>decide (0≤c)) x=true,0≤iD x N:=by
 induction x with
 |nil=>intro N _;exact Int.le_refl _
 |cons a r ih=>
  intro N h;have h':(decide (0≤a)&&allB (fun c=>decide (0≤c)) r)=true:=h;rw[Bool.and_eq_true,decide_eq_true_iff]at h';cases N with
  |nil=>exact Int.le_refl _
  |cons n N=>exact Int.add_nonneg (Int.mul_nonneg h'.1 (Int.natCast_nonneg n)) (ih N h'.2)
theorem ME(x:List Int):∀N,∀Y:allB (fun c=>decide (c=0)) x=true,iE x N=0:=by
 induction x with
 |nil=>intro N _;rfl
 |cons a r ih=>
  intro N h;have h':(decide (a=0)&&allB (fun c=>decide (c=0)) r)=true:=h;rw[Bool.and_eq_true,decide_eq_true_iff]at h';cases N with
  |nil=>rfl
  |cons n N=>
   show a*n+iE r N=0;rw[ih N h'.2,h'.1,Int.zero_mul,Int.zero_add]
theorem GA{k:Nat}{g r:cI}(h:vt k g r=true)(aC:r.d N Z≤0):0≤g.d N Z:=by
 unfold vt cI.fin at h;rw[Bool.and_eq_true,Bool.and_eq_true,decide_eq_true_iff]at h
 have x:0≤(r.add ((g.mul (k+1)).add (.k k))).d N Z:=by
  unfold cI.d;rw[ME _ _ h.2,Int.add_zero];exact Int.add_nonneg h.1.1 (MD _ _ h.1.2)
 rw[cI.o4,cI.o4,cI.rH,cI.rI]at x;refine Int.not_lt.mp fun h=>?_;have af:=Int.mul_le_mul_of_nonneg_left (Int.le_sub_one_of_lt h) (Int.add_nonneg (Int.natCast_nonneg k) (by decide:(0:Int)≤1));have:=Int.le_trans x (Int.add_le_add aC (Int.add_le_add_right af k));rw[Int.zero_add,Int.zero_sub,Int.mul_neg,Int.mul_one,Int.neg_add,Int.add_right_comm,Int.add_left_neg]at this;exact absurd this (by decide)
theorem GB{k:Nat}{c:cK}{r:cI}(h:o3 k c r=true)(aC:r.d N Z≤0):c.d N Z:=by
 unfold o3 at h;rw[Bool.and_eq_true,Bool.and_eq_true,Bool.not_eq_true']at h;refine(cK.iff c h.1.1).mpr ?_;unfold cK.says;rw[h.1.2,if_neg Bool.false_ne_true];exact GA h.2 aC
theorem MF{k:Nat}{r:cI}(h:vt k (.k (-1)) r=true)(aC:r.d N Z≤0):False:=by
 have x:=GA h aC;rw[cI.rI]at x;exact absurd x (by decide)
theorem MG{k:Int}{c:cK}{r:cI}(aK:(c.rG||decide (0≤k))=true)(bx:c.ok=true)(aC:r.d N Z≤0)(aG:c.d N Z):(r.add (c.s.mul (-k))).d N Z≤0:=by
 have q:=(cK.iff c bx).mp aG;rw[cI.o4,cI.rH];unfold cK.says at q;by_cases e:c.rG=true
 ·rw[if_pos e]at q;rw[q,Int.mul_zero,Int.add_zero];exact aC
 ·rw[if_neg e]at q;rw[Bool.not_eq_true]at e;rw[e,Bool.false_or,decide_eq_true_iff]at aK;have:=Int.mul_nonneg aK q;rw[Int.neg_mul];exact Int.add_le_add aC (Int.neg_nonpos_of_nonneg this)
theorem cK.MH(F:cK):∀r,∀Y:F.h r=true,∀Y:r.d N Z≤0,F.d N Z:=by
 induction F with
 |i k c F _ i=>
  intro r h aC aG;have h':Bk k c F.h r=true:=h;unfold Bk at h';rw[Bool.and_eq_true,Bool.and_eq_true]at h';exact i _ h'.2 (MG h'.1.2 h'.1.1 aC aG)
 |F k=>exact fun r=>MF
 |e=>exact fun Y h=>nomatch h
 |E=>exact fun Y h=>nomatch h
 |G k c=>exact fun r(h:o3 k c r=true) aC=>GB (c:=c) h aC
 |_=>exact fun r h=>GB (k:=0) h
end
theorem cu(F:cK)(h:true=F.h (.k 0))(N:List Nat)(Z:List Int):F.d N Z:=F.MH _ h.symm (Int.le_of_eq (cI.rI 0))
theorem ik(F:cK)(h:true=F.h (.k 0)):F.d [] []:=cu F h _ _
theorem aI(F:cK)(h:true=F.h (.k 0)){a:Nat}:F.d [a] []:=cu F h _ _
theorem aq(F:cK)(h:true=F.h (.k 0)){a b:Nat}:F.d [a,b] []:=cu F h _ _
theorem aA(F:cK)(h:true=F.h (.k 0)){a b c:Nat}:F.d [a,b,c] []:=cu F h _ _
theorem bA(F:cK)(h:true=F.h (.k 0)){a b c d:Nat}:F.d [a,b,c,d] []:=cu F h _ _
theorem cJ(F:cK)(h:true=F.h (.k 0)){a b c d e:Nat}:F.d [a,b,c,d,e] []:=cu F h _ _
theorem gV(F:cK)(h:true=F.h (.k 0)){a:Int}:F.d [] [a]:=cu F h _ _
theorem nT(F:cK)(h:true=F.h (.k 0)){a b:Int}:F.d [] [a,b]:=cu F h _ _
theorem yc(F:cK)(h:true=F.h (.k 0)){a b c:Int}:F.d [] [a,b,c]:=cu F h _ _
theorem lL{n a b:Nat}(h:n<a)(e:true=Nat.ble a b):n<b:=Nat.lt_of_lt_of_le h (Nat.le_of_ble_eq_true e.symm)
theorem fz{n a b:Nat}(h:n≤a)(e:true=Nat.ble (a+1) b):n<b:=Nat.lt_of_le_of_lt h (Nat.le_of_ble_eq_true e.symm)
theorem qk{n a b:Nat}(h:n<a)(e:true=Nat.ble a (b+1)):n≤b:=Nat.le_of_lt_succ (Nat.lt_of_lt_of_le h (Nat.le_of_ble_eq_true e.symm))
theorem eZ{n a b:Nat}(h:n≤a)(e:true=Nat.ble a b):n≤b:=Nat.le_trans h (Nat.le_of_ble_eq_true e.symm)
theorem cj(a b:Nat):a≤a-b+b:=Nat.sub_le_iff_le_add.mp (Nat.le_refl _)
theorem MI{v0:Int}{v1:Nat}(aV:((-((v1:Nat):Int))≤v0)):((0:Int)≤(v0+((v1:Nat):Int))):=by lia-abstractProof
theorem MJ{v0:Nat}{v1:Nat}:((-((v0:Nat):Int))≤(((v1:Nat):Int)-((v0:Nat):Int))):=by lia-abstractProof
theorem MK{v0:Int}{v1:Int}(aV:((-(1000000:Int))≤v1))(ae:(v0≤(1000000:Int))):((((Int.toNat (v0-v1)):Nat):Int)≤(2000000:Int)):=by lia-abstractProof
theorem yd{v0:Nat}{v1:Nat}{v2:Nat}(aV:(v1<(v2-v0))):((v0+v1)<v2):=(Nat.le_total v0 v2).elim (fun ay=>bA (.b .q .s (.c (.a .s .p) .r (.t (.a .p .q) .r))) rfl aV (Nat.sub_add_cancel ay)) (fun aE=>(aq (.b .p .q (.c .q .z .f)) rfl aV (Nat.sub_eq_zero_of_le aE):False).elim)
theorem ML{v0:Nat}{v1:Nat}{v2:Nat}(aV:(v1≤(v2-(v0+(1:Nat)))))(ae:(v1>(0:Nat))):(((v0+(1:Nat))+v1)≤v2):=(Nat.le_total (v0+(1:Nat)) v2).elim (fun ay=>bA (.a .q .s (.c (.a .s (.b .p)) .r (.l (.a (.b .p) .q) .r))) rfl aV (Nat.sub_add_cancel ay)) (fun aE=>(aq (.a .p .q (.b .z .p (.c .q .z .f))) rfl aV ae (Nat.sub_eq_zero_of_le aE):False).elim)
theorem vv{v0:Nat}(aV:((0:Nat)<v0)):(v0=((v0-(1:Nat))+(1:Nat))):=Nat.le_antisymm (aq (.a .p (.b .q) (.l .p (.b .q))) rfl (cj v0 (1:Nat))) (aq (.c (.b .p) .q (.l (.b .p) .q)) rfl (Nat.sub_add_cancel (aI (.b .z .p (.l .o .p)) rfl aV)))
theorem Bl{v0:Nat}{v1:Nat}(aV:((0:Nat)<v0))(ae:(v0≤v1)):((v0-(1:Nat))<v1):=aA (.a .r .q (.c (.b .p) .r (.t .p .q))) rfl ae (Nat.sub_add_cancel (aI (.b .z .p (.l .o .p)) rfl aV))
theorem Bm{v0:Nat}{v1:Nat}(aV:((1:Nat)<v0))(ae:(v0≤v1)):((v0-(1:Nat))<v1):=aA (.a .r .q (.c (.b .p) .r (.t .p .q))) rfl ae (Nat.sub_add_cancel (aI (.b .o .p (.G 1 (.l .o .p))) rfl aV))
theorem Bo{v0:Nat}{v1:Nat}{v2:Nat}(aV:(¬(v0<v1)))(ae:(v0<v2)):((v0-v1)<(v2-v1)):=cJ (.b .r .s (.a .s (.a .q .t) (.c (.a .p .t) .r (.t .p .q)))) rfl ae (cj v2 v1) (Nat.sub_add_cancel (aq (.n (.t .q .p) (.l .p .q)) rfl aV))
theorem MM{v0:Nat}{v1:Nat}{v2:Nat}(aV:(v2≤v0))(ae:(¬(v1<v0))):((v0+(v1-(v2+(v0-v2))))=v1):=Nat.le_antisymm ((Nat.le_total v2 v0).elim (fun ay=>cJ (.i (-1) (.e (.a .s .t) .p) (.c (.a .q (.a .t .s)) .r (.l (.a .p .q) .r))) rfl (Nat.sub_add_cancel (aq (.a .p .q (.l .p .q)) rfl aV)) (Nat.sub_add_cancel (bA (.n (.t .r .s) (.c (.a .q .p) .s (.l (.a .p .q) .r))) rfl ae (Nat.sub_add_cancel (aq (.a .p .q (.l .p .q)) rfl aV))))) (fun aE=>cJ (.i (-1) (.e (.a .s .t) .p) (.c (.a .q (.a .t .s)) .r (.l (.a .p .q) .r))) rfl (Nat.sub_add_cancel (aq (.a .p .q (.l .p .q)) rfl aV)) (Nat.sub_add_cancel (bA (.n (.t .r .s) (.c (.a .q .p) .s (.l (.a .p .q) .r))) rfl ae (Nat.sub_add_cancel (aq (.a .p .q (.l .p .q)) rfl aV)))))) (cJ (.a .p (.a .r (.a .s .t)) (.c (.a .t .s) .q (.l .p (.a .q .r)))) rfl (cj v1 (v2+(v0-v2))) (Nat.sub_add_cancel (aq (.a .p .q (.l .p .q)) rfl aV)))
theorem MN{v0:Int}{v1:Int}{v2:Int}(aV:(v0<v2)):((v0<v1)∨(v1<v2)):=(Classical.em _).elim .inl fun ay=>.inr (yc (.B .r .q (.n (.T .r .p) (.T .p .q))) rfl aV ay)
theorem MO{v0:Nat}{v1:Nat}{v2:Nat}(aV:(v0=v2))(ae:(¬(v0=v1))):((v0<v1)∨(v1<v2)):=(Classical.em _).elim .inl fun ay=>.inr ((Nat.lt_or_gt_of_ne ae).elim (fun aE=>aA (.c .r .q (.i 2 (.o (.t .r .p)) (.b .r .p (.t .p .q)))) rfl aV ay aE) (fun bI=>aA (.c .r .q (.b .p .r (.t .p .q))) rfl aV bI))
theorem MP{v0:Nat}{v1:Nat}{v2:Nat}(aV:(v0<v2)):((v0<v1)∨(v1<v2)):=(Classical.em _).elim .inl fun ay=>.inr (aA (.b .r .q (.n (.t .r .p) (.t .p .q))) rfl aV ay)
theorem Bp{v0:Nat}{v1:Nat}(aV:(v0=v1)):(v0=v1):=Nat.le_antisymm (aq (.c .p .q (.l .p .q)) rfl aV) (aq (.i (-1) (.e .q .p) (.l .p .q)) rfl aV)
theorem tg{v0:Nat}:((Int.toNat ((v0:Nat):Int))=v0):=Nat.le_antisymm (aq (.ak (.n .p) (.n .q) (.l .p .q)) rfl (Int.toNat_of_nonneg (aI (.L (.k 0) (.n .p)) rfl))) (aq (.A (.n .p) (.n .q) (.l .p .q)) rfl (Int.self_le_toNat ((v0:Nat):Int)))
theorem ql{v0:Nat}{v1:Nat}(aV:(((v0:Nat):Int)=((v1:Nat):Int))):(v0=v1):=Nat.le_antisymm (aq (.ak (.n .p) (.n .q) (.l .p .q)) rfl aV) (aq (.i (-1) (.E (.n .q) (.n .p)) (.l .p .q)) rfl aV)
theorem MQ{v0:Nat}{v1:Nat}{v2:Nat}{qm:Nat}{nU:Prop}(aV:(qm≤v2))(ae:(¬((qm=v2)∨nU))):(((v0-v1)+(v2-(qm+(1:Nat))))<((v0-v1)+(v2-qm))):=(Nat.lt_or_gt_of_ne (fun ay=>ae (.inl ay))).elim (fun aE=>cJ (.i (-1) (.e (.a .r .s) .t) (.c (.a .q (.b .s)) .t (.t (.a .p .q) (.a .p .r)))) rfl (Nat.sub_add_cancel (aq (.a .p .q (.l .p .q)) rfl aV)) (Nat.sub_add_cancel (aq (.b .p .q (.l (.b .p) .q)) rfl aE))) (fun bI=>(aq (.a .p .q (.b .q .p .f)) rfl aV bI:False).elim)
theorem Bq{v0:Nat}:(((1:Int)+((v0:Nat):Int))=(((v0+(1:Nat)):Nat):Int)):=Int.le_antisymm (aI (.L (.a (.k 1) (.n .p)) (.n (.b .p))) rfl) (aI (.L (.n (.b .p)) (.a (.k 1) (.n .p))) rfl)
theorem ye{v0:Int}{v1:Int}(aV:(v0<v1)):(v0≠v1):=fun ay=>nT (.B .p .q (.i (-1) (.E .p .q) .f)) rfl aV ay
theorem yf{v0:Nat}{v1:Nat}(aV:(v0<(v1+(1:Nat))))(ae:(¬(v0=v1))):(v0<v1):=(Nat.lt_or_gt_of_ne ae).elim (fun ay=>aq (.b .p .q (.t .p .q)) rfl ay) (fun aE=>aq (.i 2 (.t .p (.b .q)) (.b .q .p (.t .p .q))) rfl aV aE)
theorem Br{v0:Nat}{v1:Nat}(aV:(v0<v1)):(v0≠v1):=fun ay=>aq (.b .p .q (.i (-1) (.e .p .q) .f)) rfl aV ay
theorem Bs{v0:Nat}(aV:((1:Nat)≤v0)):(((v0:Nat):Int)≠(0:Int)):=fun ay=>aI (.a .o .p (.ak (.n .p) (.k 0) .f)) rfl aV ay
theorem vy{v0:Nat}(aV:((1:Nat)≤v0)):(v0≠(0:Nat)):=fun ay=>aI (.a .o .p (.c .p .z .f)) rfl aV ay
theorem MR{v0:Int}(aV:(¬((0:Int)≤v0))):((0:Int)≤(-v0)):=by lia-abstractProof
theorem Bt{v0:Nat}{v1:Nat}(aV:(v0≤v1))(ae:(v1≤v0)):(v0=v1):=Nat.le_antisymm (aq (.a .p .q (.l .p .q)) rfl aV) (aq (.a .p .q (.l .p .q)) rfl ae)
theorem MS{v0:Nat}{v1:Nat}{v2:Nat}(aV:(v0≤v2))(ae:(v1≤v0)):((v0+v1)≤(v2*(2:Nat))):=by lia-abstractProof
theorem Bu{jY:Prop}(aV:((1:Nat)≤(0:Nat))):jY:=(ik (.a .o .z .f) rfl aV:False).elim
theorem MT{v0:Nat}{v1:Nat}(aV:(v1<v0)):((-((v0:Nat):Int))≤((-(1:Int))-((v1:Nat):Int))):=by lia-abstractProof
theorem MU{v0:Nat}{v1:Nat}:((Int.toNat (((-(1:Int))-((v0:Nat):Int))+((v1:Nat):Int)))=((v1-(1:Nat))-v0)):=by lia-abstractProof
theorem Bv{v0:Nat}{v1:Nat}(aV:(v0<v1)):(¬(v0=v1)):=fun ay=>aq (.b .p .q (.i (-1) (.e .p .q) .f)) rfl aV ay
theorem yg{v0:Nat}{v1:Nat}(aV:((1:Nat)≤v0)):(((v0-(1:Nat))-v1)<v0):=aA (.a .p .r (.c (.b .r) .q (.t .p .q))) rfl (Nat.sub_le (v0-(1:Nat)) v1) (Nat.sub_add_cancel (aI (.a .o .p (.l .o .p)) rfl aV))
theorem MV{v0:Nat}(aV:(v0<(2:Nat))):((v0=(0:Nat))∨(v0=(1:Nat))):=(Classical.em _).elim .inl fun ay=>.inr (Nat.le_antisymm (aI (.b .p (.k 2) (.l .p .o)) rfl aV) ((Nat.lt_or_gt_of_ne ay).elim (fun aE=>aI (.b .p .z (.l .o .p)) rfl aE) (fun bI=>aI (.b .z .p (.l .o .p)) rfl bI)))
theorem MW{v0:Int}{v1:Int}{v2:Nat}(aV:(((1:Int)≤v1)∧(v1<((v2:Nat):Int))))(ae:((Int.toNat v0)=(Int.toNat v1))):(v0=v1):=by lia-abstractProof
theorem MX{v0:Int}{v1:Int}(aV:(v0≤v1))(ae:(((0:Int)≤v1)∧(v1≤(255:Int)))):((Int.toNat v0)<(256:Nat)):=by lia-abstractProof
theorem MY{v0:Int}{v1:Int}(aV:(v0≤v1))(ae:(((0:Int)≤v1)∧(v1≤(255:Int)))):((((Int.toNat v0):Nat):Int)≤v1):=by lia-abstractProof
theorem MZ{v0:Int}(aV:(v0<(100003:Int))):((Int.toNat (v0*(7:Int)))<(2147483648:Nat)):=by lia-abstractProof
theorem M0{v0:Int}(aV:((0:Int)≤v0)):((((Int.toNat (v0*(7:Int))):Nat):Int)=(v0*(7:Int))):=by lia-abstractProof
theorem M1{v0:Nat}(aV:(v0<(4:Nat))):((v0=(0:Nat))∨((v0=(1:Nat))∨((v0=(2:Nat))∨(v0=(3:Nat))))):=(Classical.em _).elim .inl fun cM=>.inr ((Classical.em _).elim .inl fun fL=>.inr ((Classical.em _).elim .inl fun fM=>.inr ((Nat.lt_or_gt_of_ne cM).elim (fun qn=>Nat.le_antisymm (aI (.b .p (.k 4) (.l .p (.k 3))) rfl aV) (aI (.i 3 (.t .p .z) (.l (.k 3) .p)) rfl qn)) (fun vz=>(Nat.lt_or_gt_of_ne fL).elim (fun tm=>Nat.le_antisymm (aI (.b .p (.k 4) (.l .p (.k 3))) rfl aV) (aI (.i 3 (.t .z .p) (.i 2 (.t .p .o) (.l (.k 3) .p))) rfl vz tm)) (fun vA=>Nat.le_antisymm (aI (.b .p (.k 4) (.l .p (.k 3))) rfl aV) ((Nat.lt_or_gt_of_ne fM).elim (fun yh=>aI (.i 2 (.t .o .p) (.b .p (.k 2) (.l (.k 3) .p))) rfl vA yh) (fun yi=>aI (.b (.k 2) .p (.l (.k 3) .p)) rfl yi)))))))
theorem Bw{v0:Nat}{v1:Nat}(aV:(v0<v1)):(¬(v0=(v1+(1:Nat)))):=fun ay=>aq (.b .p .q (.i (-1) (.e .p (.b .q)) (.F 1))) rfl aV ay
end Mine
section
namespace Mine
inductive ah where
 |none|bool (b:Bool)|int (i:Int)|ref (n:Nat)|tup (xs:List ah)|range (a b:Int)
inductive bB where
 |list (xs:List ah)
 |ed (kvs:List (Int×ah))
 |jZ (kvs:List (List Int×ah))
 |inst (ak d:Nat)
 |fields (fs:List (Str×ah))
 |tab (P:Nat)
 |set (ns:List Int)
 |raw (o:Obj) (ns:List Int)
mutual
inductive bc(am:List Addr)(h:Heap):∀Y:ah,∀Y:Value,Prop
 |none:bc am h .none .none
 |bool {b}:bc am h (.bool b) (.bool b)
 |int {i t}:bc am h (.int i) (.int i t)
 |ref {n a}:∀Y:am[n]?=some a,bc am h (.ref n) (.ref a)
 |tup {xs a items n}:∀Y:IsT h a items n,∀Y:bT am h xs items.toList,bc am h (.tup xs) (.ref a)
 |range {a b r t u v}:∀Y:IsRange h r a b 1 t u v,bc am h (.range a b) (.ref r)
inductive bT(am:List Addr)(h:Heap):∀Y:List ah,∀Y:List Value,Prop
 |nil:bT am h [] []
 |cons {x v xs vs}:∀Y:bc am h x v,∀Y:bT am h xs vs,bT am h (x::xs) (v::vs)
end
noncomputable def Kept(o:Obj):Prop:=(o.cls=.type "tuple"∧∃xs n,o.data=.seq xs n)∨(o.cls=.type "range"∧∃vs,o.data=.fields vs)∨(o.cls=.type "code"∧∃vs,o.data=.fields vs)
noncomputable def fR(h h':Heap):Prop:=∀b o,∀Y:Kept o,∀Y:h.get? b=some o,h'.get? b=some o
theorem o5{am aX:List Addr}(p:am <+: aX){n:Nat}{a:Addr}(e:am[n]?=some a):aX[n]?=some a:=by
 refine aj ?_ p;clear p;rintro r rfl;rw[List.getElem?_append_left (List.getElem?_eq_some_iff.mp e).1];exact e
theorem bc.mono{am aX:List Addr}{h h':Heap}(p:am <+: aX)(k:fR h h'){x v}(r:bc am h x v):bc aX h' x v:=
 bc.rec (motive_1:=fun x v Y=>bc aX h' x v) (motive_2:=fun xs vs Y=>bT aX h' xs vs) .none .bool .int (fun e=>.ref (o5 p e)) (fun bf Y z=>.tup (k _ _ (.inl ⟨rfl,_,_,rfl⟩) bf) z)
  (fun aC=>.range (k _ _ (.inr (.inl ⟨rfl,_,rfl⟩)) aC)) .nil (fun Y Y a b=>.cons a b) r
theorem bT.mono{am aX:List Addr}{h h':Heap}(p:am <+: aX)(k:fR h h'){xs vs}(r:bT am h xs vs):bT aX h' xs vs:=
 bT.rec (motive_1:=fun x v Y=>bc aX h' x v) (motive_2:=fun xs vs Y=>bT aX h' xs vs) .none .bool .int (fun e=>.ref (o5 p e)) (fun bf Y z=>.tup (k _ _ (.inl ⟨rfl,_,_,rfl⟩) bf) z)
  (fun aC=>.range (k _ _ (.inr (.inl ⟨rfl,_,rfl⟩)) aC)) .nil (fun Y Y a b=>.cons a b) r
section
variable{am:List Addr}{h:Heap}{v:Value}
theorem bc.int_inv{i:Int}(r:bc am h (.int i) v):∃t,v=.int i t:=by cases r;exact⟨_,rfl⟩
theorem bc.bool_inv{b:Bool}(r:bc am h (.bool b) v):v=.bool b:=by cases r;rfl
theorem bc.none_inv(r:bc am h .none v):v=.none:=by cases r;rfl
theorem bc.qo{n:Nat}(r:bc am h (.ref n) v):∃a,v=.ref a∧am[n]?=some a:=by cases r;exact⟨_,rfl,‹_›⟩
theorem bc.m6{xs:List ah}(r:bc am h (.tup xs) v):∃a items n,v=.ref a∧IsT h a items n∧bT am h xs items.toList:=by cases r;exact cE _ _ _ ⟨rfl,‹_›,‹_›⟩
theorem bT.nil_inv{vs:List Value}(r:bT am h [] vs):vs=[]:=by cases r;rfl
theorem bT.cons_inv{x:ah}{xs:List ah}{vs:List Value}(r:bT am h (x::xs) vs):∃v r,vs=v::r∧bc am h x v∧bT am h xs r:=by cases r;exact cD _ _ ⟨rfl,‹_›,‹_›⟩
theorem bT.yj{x:ah}{vs:List Value}(r:bT am h [x] vs):∃v,vs=[v]∧bc am h x v:=by
 refine bZ ?_ r.cons_inv;intro v r;refine aY ?_;rintro rfl a b;exact⟨v,b.nil_inv▸rfl,a⟩
theorem bT.Bx{x y:ah}{vs:List Value}(r:bT am h [x,y] vs):∃v u,vs=[v,u]∧bc am h x v∧bc am h y u:=by
 refine bZ ?_ r.cons_inv;intro v r;refine aY ?_;rintro rfl a b;refine aj ?_ b.yj;intro u;refine ar ?_;rintro rfl c;exact cD v u ⟨rfl,a,c⟩
theorem bc.M3{a b:Int}(r:bc am h (.range a b) v):∃c t u x,v=.ref c∧IsRange h c a b 1 t u x:=by cases r;exact dX _ _ _ _ ⟨rfl,‹_›⟩
end
theorem gh{α:Type}{a:α}{G:Prop}(h:none=some a):G:=by cases h
noncomputable def fY{α:Type}(x:Option α)(F:∀Y:α,Prop):Prop:=x.elim False F
noncomputable def rK{α β:Type}(x:Option α)(y:Option β)(F:∀Y:α,∀Y:β,Prop):Prop:=x.elim False fun a=>y.elim False fun b=>F a b
section
variable{α β:Type}{x:Option α}{y:Option β}
theorem gG{F:∀Y:α,Prop} (h:fY x F):∃a,x=some a∧F a:=by
 cases x with
 |none=>exact h.elim
 |some a=>exact⟨a,rfl,h⟩
theorem tn{F:∀Y:α,∀Y:β,Prop} (h:rK x y F):∃a b,x=some a∧y=some b∧F a b:=by
 refine aj ?_ (gG h);intro a;refine ar ?_;intro e h;refine aj ?_ (gG h);intro b;refine ar ?_;intro cA h;exact cD a b ⟨e,cA,h⟩
theorem fS{F:∀Y:α,Prop} {a:α} (e:x=some a) (h:F a):fY x F:=by subst e;exact h
theorem rL{F:∀Y:α,∀Y:β,Prop} {a:α} {b:β} (e:x=some a) (cA:y=some b) (h:F a b):rK x y F:=by subst e cA;exact h
end
section
variable{α β:Type}{R:∀Y:α,∀Y:β,Prop} {xs ys:List α} {vs us:List β}
theorem GC(h:Paired R xs vs):xs.length=vs.length:=by
 induction h with
 |nil=>rfl
 |cons _ _ ih=>exact congrArg (·+1) ih
theorem M4(h:Paired R xs vs):∀{i:Nat}{x:α},∀Y:xs[i]?=some x,∃v,vs[i]?=some v∧R x v:=by
 induction h with
 |nil=>intro i x e;cases e
 |cons a b ih=>
  intro i x e;cases i with
  |zero=>cases e;exact⟨_,rfl,a⟩
  |succ i=>exact ih e
theorem GD(h:Paired R xs vs):∀{i:Nat}{v:β},∀Y:vs[i]?=some v,∃x,xs[i]?=some x∧R x v:=by
 induction h with
 |nil=>intro i x e;cases e
 |cons a b ih=>
  intro i x e;cases i with
  |zero=>cases e;exact⟨_,rfl,a⟩
  |succ i=>exact ih e
theorem M5(h:Paired R xs vs)(h':Paired R ys us):Paired R (xs++ys) (vs++us):=by
 induction h with
 |nil=>exact h'
 |cons a _ ih=>exact .cons a ih
theorem M6{x:α}{v:β}(h:Paired R xs vs)(a:R x v):∀i,Paired R (xs.set i x) (vs.set i v):=by
 induction h with
 |nil=>intro i;exact .nil
 |cons c d ih=>
  intro i;cases i with
  |zero=>exact .cons a d
  |succ i=>exact .cons c (ih i)
theorem M7(h:Paired R xs vs):∀n,Paired R (xs.take n) (vs.take n):=by
 induction h with
 |nil=>intro n;rw[List.take_nil,List.take_nil];exact .nil
 |cons a _ ih=>
  intro n;cases n with
  |zero=>exact .nil
  |succ n=>exact .cons a (ih n)
theorem M8(h:Paired R xs vs):∀v∈vs,∃x∈xs,R x v:=by
 induction h with
 |nil=>intro v aN;cases aN
 |cons a _ ih=>
  intro v aN;rcases List.mem_cons.mp aN with rfl|aN
  ·exact⟨_,List.mem_cons_self ..,a⟩
  ·refine aj ?_ (ih v aN);intro x;refine ar ?_;intro ai r;exact⟨x,List.mem_cons_of_mem _ ai,r⟩
theorem GF(h:Paired R xs vs):∀x∈xs,∃v,v∈vs∧R x v:=by
 induction h with
 |nil=>intro v aN;cases aN
 |cons a _ ih=>
  intro v aN;rcases List.mem_cons.mp aN with rfl|aN
  ·exact⟨_,List.mem_cons_self ..,a⟩
  ·refine aj ?_ (ih v aN);intro x;refine ar ?_;intro ai r;exact⟨x,List.mem_cons_of_mem _ ai,r⟩
end
theorem bT.pr{am h xs vs}(r:bT am h xs vs):Paired (bc am h) xs vs:=
 bT.rec (motive_1:=fun Y Y Y=>True) (motive_2:=fun xs vs Y=>Paired (bc am h) xs vs) trivial trivial trivial (fun Y=>trivial) (fun Y Y Y=>trivial) (fun Y=>trivial) .nil (fun a Y Y z=>.cons a z) r
theorem bT.of{am h xs vs}(p:Paired (bc am h) xs vs):bT am h xs vs:=by
 induction p with
 |nil=>exact .nil
 |cons a _ ih=>exact .cons a ih
theorem qp{am h xs}{items:Array Value}(r:bT am h xs items.toList):items.size=xs.length:=(GC r.pr).symm
theorem bT.length{am h xs vs}(r:bT am h xs vs):xs.length=vs.length:=GC r.pr
theorem bT.get{am h xs vs}(r:bT am h xs vs){i:Nat}{x:ah}(e:xs[i]?=some x):∃v,vs[i]?=some v∧bc am h x v:=M4 r.pr e
theorem bT.append{am h xs vs ys us}(r:bT am h xs vs)(c5:bT am h ys us):bT am h (xs++ys) (vs++us):=.of (M5 r.pr c5.pr)
theorem bT.set{am h xs vs}(r:bT am h xs vs){x v}(a:bc am h x v)(i:Nat):bT am h (xs.set i x) (vs.set i v):=.of (M6 r.pr a i)
theorem bT.take{am h xs vs}(r:bT am h xs vs)(n:Nat):bT am h (xs.take n) (vs.take n):=.of (M7 r.pr n)
theorem bT.ints{am h}{ns:List Int}:∀{vs},∀Y:bT am h (ns.map .int) vs,IntsAre vs ns:=by
 induction ns with
 |nil=>intro vs x;cases x;exact .nil
 |cons n r ih=>intro vs x;cases x with|cons a b=>cases a;exact .cons _ _ (ih b)
theorem bT.By{am h vs ns}(r:IntsAre vs ns):bT am h (ns.map .int) vs:=by
 induction r with
 |nil=>exact .nil
 |cons _ _ _ z=>exact .cons .int z
variable(prog:Program)(w:World)
noncomputable def nV:Str:="without_dominated.<locals>.<lambda>"
noncomputable def tu(h:Heap)(iQ:Value)(q:Str):Prop:=∃c o vs t,iQ=.ref c∧h.get? c=some o∧o.cls=.type "code"∧o.data=.fields vs∧vs[1]?=some (.str q t)
theorem tu.gH{h h':Heap}{iQ:Value}{q:Str}(x:tu h iQ q)(k:fR h h'):tu h' iQ q:=by
 refine dF ?_ x;clear x;intro c o vs t;refine eY ?_;intro a b cl d e;exact dX c o vs t ⟨a,k _ _ (.inr (.inr ⟨cl,vs,d⟩)) b,cl,d,e⟩
noncomputable def il(xs:List Nat):Prop:=xs.Pairwise (·<·)
noncomputable def gI(h:Heap)(a:Addr)(ns:List Int):Prop:=
 ∃a9 ep t,h.get? a=some ⟨.type "set",none,.set a9 ep t,#[]⟩∧IntsAre (a9.toList.map (·.2)) ns∧(∀e∈a9.toList,∃k tk,e=(hashInt k,Value.int k tk))∧ns.Nodup∧il t.place.toList∧t.fits a9.size=true∧t.led=!w.params.followText "set-order"
theorem tw{o:Obj}{c:Value}(e:o.cls=c)(ae:c≠.type "tuple")(af:c≠.type "range")(aH:c≠.type "code"):¬Kept o:=by
 subst e;exact fun h=>h.elim (fun h=>ae h.1) fun h=>h.elim (fun h=>af h.1) fun h=>aH h.1
theorem tB{o:Obj}(e:o.cls=.type "list"):¬Kept o:=tw e (by decide) (by decide) (by decide)
theorem M9{o:Obj}(e:o.cls=.none):¬Kept o:=tw e (by decide) (by decide) (by decide)
theorem GG{o:Obj}(e:o.cls=.type "dict"):¬Kept o:=tw e (by decide) (by decide) (by decide)
theorem GH{o:Obj}{a9 ep}(d:o.data=.dict a9 ep):¬Kept o:=by
 rintro(⟨_,_,_,q⟩|⟨_,_,q⟩|⟨_,_,q⟩)<;>cases d.symm.trans q
theorem Na{o:Obj}{v}(d:o.data=.cell v):¬Kept o:=by
 rintro(⟨_,_,_,q⟩|⟨_,_,q⟩|⟨_,_,q⟩)<;>cases d.symm.trans q
theorem gI.there{h:Heap}{a:Addr}{ns:List Int}(x:gI w h a ns):∃bO,h.get? a=some bO∧¬Kept bO:=by
 refine bG ?_ x;clear x;intro a9 ep t;refine ar ?_;intro e _;exact⟨_,e,tw (c:=.type "set") rfl (by decide) (by decide) (by decide)⟩
theorem gI.at_{h h':Heap}{a:Addr}{ns:List Int}(e:∀bO,∀Y:h.get? a=some bO,h'.get? a=some bO) (x:gI w h a ns):gI w h' a ns:=by
 refine bG ?_ x;clear x;intro a9 ep t;refine ar ?_;intro g r;exact(cE a9 ep t ⟨e _ g,r⟩)
noncomputable def j0(am:List Addr)(h:Heap)(a:Addr):∀Y:bB,Prop
 |.list xs=>∃vs:List Value,h.PlainList a vs.toArray∧bT am h xs vs
 |.ed kvs=>∃aB:List (Int×Value),h.DictOf (intKind prog w) a aB∧Paired (fun(x:Int×ah)(y:Int×Value)=>x.1=y.1∧bc am h x.2 y.2) kvs aB
 |.jZ kvs=>∃aB:List (List Int×Addr×Value),h.DictOfH (tupleKind (intKind prog w)) a aB∧Paired (fun(x:List Int×ah)(y:List Int×Addr×Value)=>x.1=y.1∧bc am h x.2 y.2.2) kvs aB
 |.inst ak d=>∃d6 o,am[d]?=some d6∧h.get? a=some o∧o.cls=.ref ak∧(∀c,o.data≠.cls c)∧o.dict=some d6∧d6≠a
 |.fields fs=>∃ir,h.Ns1 a ir∧∀x,match fs.lookup x with|some pv=>∃v,ir x=some v∧bc am h pv v|none=>ir x=none
 |.tab P=>a=P∧∃dq:Array Value,h.get? a=some ⟨.none,none,.fields dq,#[]⟩∧TriplesOk dq.toList∧∀pos iQ,∀Y:codeAmong pos dq.toList=some iQ,tu h iQ nV
 |.set ns=>gI w h a ns
 |.raw o ns=>h.get? a=some o∧∃vs:List Value,h.PlainList a vs.toArray∧bT am h (ns.map .int) vs
structure Ext(am:List Addr)(h:Heap)(aX:List Addr)(h':Heap):Prop where
 pre:am <+: aX
 keep:∀b o,∀Y:b∉am,∀Y:h.get? b=some o,h'.get? b=some o
 fresh:∀a∈aX,∀Y:a∉am,h.get? a=none
theorem Ext.refl{am h}:Ext am h am h:=⟨List.prefix_refl _,fun Y Y Y e=>e,fun Y ae af=>absurd ae af⟩
theorem Ext.trans{am h aX h' iu nW}(x:Ext am h aX h')(y:Ext aX h' iu nW):Ext am h iu nW:=by
 refine⟨x.pre.trans y.pre,fun b o av e=>?_,fun a aJ az=>?_⟩
 ·refine y.keep b o (fun hm=>?_) (x.keep b o av e);rw[x.fresh b hm av]at e;cases e
 ·by_cases hm:a∈aX
  ·exact x.fresh a hm az
  ·cases e:h.get? a with
   |none=>rfl
   |some o=>have:=y.fresh a aJ hm;rw[x.keep a o az e]at this;cases this
theorem Ext.of_keeps{am h h'}(k:∀b o,∀Y:h.get? b=some o,h'.get? b=some o):Ext am h am h':=
 ⟨List.prefix_refl _,fun b o Y e=>k b o e,fun Y ae af=>absurd ae af⟩
structure bh(B:Heap)(am:List Addr)(h:Heap)(st:List bB):Prop where
 len:am.length=st.length
 nodup:am.Nodup
 off:∀a∈am,B.get? a=none
 base:∀b o,∀Y:B.get? b=some o,h.get? b=some o
 obj:∀(n:Nat)(a:Addr)(o:bB),∀Y:am[n]?=some a,∀Y:st[n]?=some o,j0 prog w am h a o
variable{prog:Program}{w:World}{B:Heap}
theorem j0.there{am h a o}(x:j0 prog w am h a o):∃bO,h.get? a=some bO∧¬Kept bO:=by
 cases o with
 |list _=>refine aj ?_ x;clear x;intro _;refine ar ?_;refine aj ?_;intro _ e;intro _;exact⟨_,e,tB rfl⟩
 |ed _=>refine aj ?_ x;clear x;intro _;refine ar ?_;refine bG ?_;intro _ _ _;refine aY ?_;intro e aG _;intro _;exact⟨_,e,GG aG.1⟩
 |jZ _=>refine aj ?_ x;clear x;intro _;refine ar ?_;refine bG ?_;intro _ _ _;refine aY ?_;intro e aG _;intro _;exact⟨_,e,GG aG.1⟩
 |inst _ _=>refine bZ ?_ x;clear x;intro _ _;refine cH ?_;intro _ e aG _;exact⟨_,e,tw aG nofun nofun nofun⟩
 |fields _=>
  refine aj ?_ x;clear x;intro _;refine ar ?_;refine bG ?_;intro _ _ _;refine aY ?_;intro e hd _;intro _;exact⟨_,e,GH hd⟩
 |tab _=>obtain⟨_,_,e,_⟩:=x;exact⟨_,e,M9 rfl⟩
 |set _=>exact gI.there w x
 |raw _ _=>obtain⟨_,_,⟨_,e⟩,_⟩:=x;exact⟨_,e,tB rfl⟩
theorem yk{α β:Type}{F G:∀Y:α,∀Y:β,Prop} (h:∀a b,∀Y:F a b,G a b) {l₁ l₂} (p:Paired F l₁ l₂):Paired G l₁ l₂:=by
 induction p with
 |nil=>exact .nil
 |cons a _ z=>exact .cons (h _ _ a) z
theorem GI{am aX:List Addr}{h h':Heap}(p:am <+: aX)(k:fR h h'){l:Option ah}{v:Option Value}:(match l with|some pv=>∃u,v=some u∧bc am h pv u|none=>v=none)→
 match l with|some pv=>∃u,v=some u∧bc aX h' pv u|none=>v=none:=by
 cases l with
 |none=>exact id
 |some pv=>exact fun r=>r.imp fun Y z=>⟨z.1,z.2.mono p k⟩
theorem j0.mono{am aX h h' a}(p:am <+: aX)(k:fR h h')(e:∀bO,∀Y:h.get? a=some bO,h'.get? a=some bO) {o} (x:j0 prog w am h a o):j0 prog w aX h' a o:=by
 cases o with
 |list _=>refine aj ?_ x;clear x;intro vs;refine ar ?_;refine aj ?_;intro n q;intro r;exact⟨vs,⟨n,e _ q⟩,r.mono p k⟩
 |ed _=>
  refine aj ?_ x;clear x;intro aB;refine ar ?_;refine bG ?_;intro o a9 ep;refine ar ?_;intro q r;intro z;exact⟨aB,(cE o a9 ep ⟨e _ q,r⟩),yk (fun Y Y y=>⟨y.1,y.2.mono p k⟩) z⟩
 |jZ _=>
  refine aj ?_ x;clear x;intro aB;refine ar ?_;refine bG ?_;intro o a9 ep;refine dH ?_;intro q j1 e7 vB BA vC;intro z
  exact⟨aB,(cE o a9 ep ⟨e _ q,j1,e7,vB,fun x ai=>by
   refine bG ?_ (BA x ai);intro Nb items n;refine cH ?_;intro g1 g2 g3 lM;exact⟨Nb,items,n,k _ _ (.inl ⟨g2,_,_,g3⟩) g1,g2,g3,lM⟩,vC⟩),yk (fun Y Y y=>⟨y.1,y.2.mono p k⟩) z⟩
 |inst _ _=>refine bZ ?_ x;clear x;intro d6 o;refine aY ?_;intro q r z;exact(cD d6 o ⟨o5 p q,e _ r,z⟩)
 |fields _=>refine aj ?_ x;clear x;intro ir;refine ar ?_;refine bG ?_;intro o a9 ep;refine ar ?_;intro q z;intro r;exact⟨ir,(cE o a9 ep ⟨e _ q,z⟩),fun x=>GI p k (r x)⟩
 |tab _=>obtain⟨dj,dq,q,r,z⟩:=x;exact⟨dj,dq,e _ q,r,fun pos iQ ae=>(z pos iQ ae).gH k⟩
 |set _=>exact gI.at_ w e x
 |raw _ _=>obtain⟨aR,vs,⟨n,q⟩,r⟩:=x;exact⟨e _ aR,vs,⟨n,e _ q⟩,r.mono p k⟩
namespace bh
variable{am:List Addr}{h:Heap}{st:List bB}
theorem there(S:bh prog w B am h st){a:Addr}(aJ:a∈am):∃bO,h.get? a=some bO∧¬Kept bO:=by
 obtain⟨n,az,rfl⟩:=List.mem_iff_getElem.mp aJ;have nX:n<st.length:=S.len▸az;exact(S.obj n _ _ (List.getElem?_eq_getElem az) (List.getElem?_eq_getElem nX)).there
theorem gH(S:bh prog w B am h st){aX h'}(x:Ext am h aX h'):fR h h':=fun b o bx e=>by
 refine x.keep b o (fun hm=>?_) e;refine aj ?_ (S.there hm);intro bO;refine ar ?_;intro cA az;rw[e]at cA;cases cA;exact az bx
theorem at_(S:bh prog w B am h st){n:Nat}{o:bB}(e:st[n]?=some o):∃a,am[n]?=some a∧j0 prog w am h a o:=by
 have az:n<am.length:=S.len▸(List.getElem?_eq_some_iff.mp e).1;exact⟨_,List.getElem?_eq_getElem az,S.obj n _ o (List.getElem?_eq_getElem az) e⟩
theorem lt(S:bh prog w B am h st){a:Addr}(aJ:a∈am):a<h.objs.size:=let ⟨_,e,_⟩:=S.there aJ;Heap.lt_size e
theorem keeps(S:bh prog w B am h st){h':Heap}(k:∀b o,∀Y:h.get? b=some o,h'.get? b=some o):bh prog w B am h' st:=
 ⟨S.len,S.nodup,S.off,fun b o e=>k b o (S.base b o e),fun n a o ae af=>(S.obj n a o ae af).mono (List.prefix_refl _) (fun b o Y e=>k b o e) fun bO e=>k _ bO e⟩
theorem set(S:bh prog w B am h st){h':Heap}{n:Nat}{a:Addr}{o:bB}(aJ:am[n]?=some a)(hs:∀b o,∀Y:b≠a,∀Y:h.get? b=some o,h'.get? b=some o) (bx:∀Y:fR h h',j0 prog w am h' a o):
 bh prog w B am h' (st.set n o)∧Ext am h am h':=by
 have hm:a∈am:=List.mem_of_getElem? aJ;have x:Ext am h am h':=⟨List.prefix_refl _,fun b o av e=>hs b o (fun q=>av (q▸hm)) e,fun Y ae af=>absurd ae af⟩;have du:=S.gH x;refine⟨⟨by rw[List.length_set];exact S.len,S.nodup,S.off,fun b o e=>hs b o (fun q=>?_) (S.base b o e),fun m b cf ae af=>?_⟩,x⟩
 ·rw[q,S.off a hm]at e;cases e
 ·by_cases BB:n=m
  ·subst BB;rw[aJ]at ae;cases ae;rw[List.getElem?_set_self (S.len▸(List.getElem?_eq_some_iff.mp aJ).1)]at af;cases af;exact bx du
  ·rw[List.getElem?_set_ne BB]at af;have cP:b≠a:=fun q=>BB ((List.getElem?_inj (List.getElem?_eq_some_iff.mp aJ).1 S.nodup).mp (by rw[aJ,ae,q]));exact(S.obj m b cf ae af).mono (List.prefix_refl _) du fun bO e=>hs b bO cP e
theorem add(S:bh prog w B am h st){h':Heap}{a:Addr}{o:bB}(aK:∀b o,∀Y:h.get? b=some o,h'.get? b=some o) (az:h.get? a=none) (bx:j0 prog w (am++[a]) h' a o):
 bh prog w B (am++[a]) h' (st++[o])∧Ext am h (am++[a]) h':=by
 have nY:a∉am:=fun hm=>by refine aj ?_ (S.there hm);intro bO;refine ar ?_;intro e _;rw[az]at e;cases e
 refine⟨⟨by simp[S.len],?_,?_,fun b o e=>aK b o (S.base b o e),fun m b cf ae af=>?_⟩,List.prefix_append _ _,fun b o Y e=>aK b o e,?_⟩
 ·rw[List.nodup_append];exact⟨S.nodup,by simp,fun x ai y au=>by rw[List.mem_singleton.mp au];exact fun q=>nY (q▸ai)⟩
 ·intro b av;rcases List.mem_append.mp av with av|av
  ·exact S.off b av
  ·rw[List.mem_singleton.mp av];cases e:B.get? a with
   |none=>rfl
   |some o=>rw[S.base a o e]at az;cases az
 ·by_cases bC:m<am.length
  ·rw[List.getElem?_append_left bC]at ae;rw[List.getElem?_append_left (S.len▸bC)]at af;exact(S.obj m b cf ae af).mono (List.prefix_append _ _) (fun b o Y e=>aK b o e) fun bO e=>aK b bO e
  ·have:m=am.length:=by
    have:=(List.getElem?_eq_some_iff.mp ae).1;simp at this;exact Nat.le_antisymm (aq (.b .p (.b .q) (.l .p .q)) rfl this) (aq (.n (.t .q .p) (.l .p .q)) rfl bC)
   subst this;rw[List.getElem?_append_right (Nat.le_refl _)]at ae;rw[S.len,List.getElem?_append_right (Nat.le_refl _)]at af;simp at ae af;subst ae af;exact bx
 ·intro b av qq;rcases List.mem_append.mp av with av|av
  ·exact absurd av qq
  ·rw[List.mem_singleton.mp av];exact az
end bh
end Mine
end
section
namespace Mine
variable{prog:Program}{w:World}{B:Heap}
structure dB where
 kinds:List (Str×NameKind)
 vars:List (Str×Nat)
 code:Option (Value×Str):=none
noncomputable def getV:∀Y:List (Option ah),∀Y:Nat,Option ah
 |[],_=>none
 |o::_,0=>o
 |_::r,i+1=>getV r i
noncomputable def setV:∀Y:List (Option ah),∀Y:Nat,∀Y:ah,List (Option ah)
 |[],_,_=>[]
 |_::r,0,v=>some v::r
 |o::r,i+1,v=>o::setV r i v
theorem Nc(l:List (Option ah)):∀(i j:Nat)(v:ah),∀Y:i≠j,getV (setV l i v) j=getV l j:=by
 induction l with
 |nil=>exact fun Y Y Y Y=>rfl
 |cons _ r z=>
  intro i j v h;cases i with
  |zero=>cases j with
   |zero=>exact absurd rfl h
   |succ j=>rfl
  |succ i=>cases j with
   |zero=>rfl
   |succ j=>exact z i j v fun e=>h (congrArg (·+1) e)
theorem Nd(l:List (Option ah)):∀(i:Nat)(v u:ah),∀Y:getV (setV l i v) i=some u,u=v:=by
 induction l with
 |nil=>exact fun Y Y Y h=>gh h
 |cons _ r z=>
  intro i v u h;cases i with
  |zero=>exact(Option.some.inj h).symm
  |succ i=>exact z i v u h
noncomputable abbrev Loc:=List (Option ah)
noncomputable abbrev St:=List bB
noncomputable def Own(env:Env):List Addr:=env.locals::env.cells.map (·.2)
noncomputable def rM(env:Env)(h:Heap)(x:Str)(v:Option Value):Prop:=
 (env.kindOf x=some .local∧∃m,h.Ns env.locals m∧m x=v)∨
 ((env.kindOf x=some .cell∨env.kindOf x=some .free)∧∃c,env.cells.lookup x=some c∧h.IsCell c v)
structure d7(B:Heap)(ak:dB)(env:Env)(am:List Addr)(h:Heap)(loc:Loc):Prop where
 iF:env.scope.kind=.function
 lN:env.scope.names=ak.kinds
 nZ:env.globals=mainGlobals
 o6:env.builtins=builtinsNs
 yl:∀c,∀Y:ak.code=some c,env.code=c.1∧env.qual=c.2
 inj:∀x y i,∀Y:ak.vars.lookup x=some i,∀Y:ak.vars.lookup y=some i,x=y
 ns:∃m,h.Ns env.locals m
 own:∀a∈Own env,(∃o,h.get? a=some o∧¬Kept o)∧a∉am∧B.get? a=none
 apart:env.cells.Pairwise fun x y=>x.2≠y.2
 locals:∀c∈env.cells,c.2≠env.locals
 var:∀x i,∀Y:ak.vars.lookup x=some i,∃v,rM env h x v∧∀pv,∀Y:getV loc i=some pv,∃u,v=some u∧bc am h pv u
theorem rM.at_{env:Env}{h h':Heap}{x:Str}{v:Option Value}(k:∀a∈Own env,∀o,∀Y:h.get? a=some o,h'.get? a=some o):∀Y:rM env h x v,rM env h' x v:=by
 rintro(⟨a,m,n,e⟩|⟨a,c,e,o,bx,hd⟩)
 ·exact .inl ⟨a,m,n.at' (k _ (by simp[Own])),e⟩
 ·exact .inr ⟨a,c,e,o,k c (by
   have:=mem_of_lookup e;simp only[Own,List.mem_cons,List.mem_map];exact .inr ⟨_,this,rfl⟩) o bx,hd⟩
theorem d7.ext{ak:dB}{env:Env}{am aX:List Addr}{h h':Heap}{loc:Loc}{st:St}(R:d7 B ak env am h loc)(S:bh prog w B am h st)(x:Ext am h aX h'):d7 B ak env aX h' loc:=by
 have k:∀a∈Own env,∀o,∀Y:h.get? a=some o,h'.get? a=some o:=fun a aJ o e=>x.keep a o (R.own a aJ).2.1 e;refine⟨R.iF,R.lN,R.nZ,R.o6,R.yl,R.inj,?_,fun a aJ=>?_,R.apart,R.locals,fun y i au=>?_⟩
 ·refine aj ?_ R.ns;intro m n;exact⟨m,n.at' (k _ (by simp[Own]))⟩
 ·refine aY ?_ (R.own a aJ);refine aj ?_;intro o;refine ar ?_;intro e aK;intro af aH;refine⟨⟨o,k a aJ o e,aK⟩,fun hm=>?_,aH⟩;rw[x.fresh a hm af]at e;cases e
 ·refine aj ?_ (R.var y i au);intro v;refine ar ?_;intro aN aD;refine⟨v,aN.at_ k,fun pv e=>?_⟩;refine aj ?_ (aD pv e);intro u;refine ar ?_;intro q r;exact⟨u,q,r.mono x.pre (S.gH x)⟩
noncomputable def gW(A:Around)(k:Nat):Prop:=A.handled=none∧A.depth+k+100<recursionLimit∧A.units+20*k+100<cLine
structure c9(am:List Addr)(s:Shared)(aX:List Addr)(s':Shared):Prop where
 eq:∃h' tk d,s'={s with heap:=h',toks:=tk,drawn:=d}
 ext:Ext am s.heap aX s'.heap
theorem c9.refl{am s}:c9 am s am s:=⟨(cE _ _ _ rfl),.refl⟩
theorem c9.trans{am s aX s' iu fj}(x:c9 am s aX s')(y:c9 aX s' iu fj):c9 am s iu fj:=by
 obtain⟨⟨h,t,d,rfl⟩,a⟩:=x;obtain⟨⟨h',e8,o7,rfl⟩,b⟩:=y;exact⟨(cE _ _ _ rfl),a.trans b⟩
theorem c9.tok{am s}{tk:Nat}:c9 am s am {s with toks:=tk}:=⟨(cE _ _ _ rfl),.refl⟩
theorem c9.heap{am s aX h' tk}(x:Ext am s.heap aX h'):c9 am s aX {s with heap:=h',toks:=tk}:=⟨(cE _ _ _ rfl),x⟩
noncomputable def dC(prog:Program)(w:World)(B:Heap)(am:List Addr)(s:Shared)(Q:∀Y:ah,∀Y:St,Prop) (v:Value) (s':Shared):Prop:=
 ∃aX ao pv,c9 am s aX s'∧bh prog w B aX s'.heap ao∧bc aX s'.heap pv v∧Q pv ao
noncomputable def qr(prog:Program)(w:World)(B:Heap)(am:List Addr)(s:Shared)(Q:∀Y:Bool,∀Y:St,Prop) (b:Bool) (s':Shared):Prop:=
 ∃aX ao,c9 am s aX s'∧bh prog w B aX s'.heap ao∧Q b ao
noncomputable def GJ(prog:Program)(w:World)(B:Heap)(am:List Addr)(s:Shared)(Q:∀Y:List ah,∀Y:St,Prop) (vs:List Value) (s':Shared):Prop:=
 ∃aX ao qs,c9 am s aX s'∧bh prog w B aX s'.heap ao∧bT aX s'.heap qs vs∧Q qs ao
noncomputable abbrev bo:∀Y:Value,∀Y:Shared,Prop:=fun Y Y=>False
noncomputable abbrev b5:=∀Y:(∀Y:ah,∀Y:St,Prop),∀Y:Loc,∀Y:St,Prop
noncomputable abbrev e9:=∀Y:(∀Y:Bool,∀Y:St,Prop),∀Y:Loc,∀Y:St,Prop
noncomputable abbrev lO:=∀Y:(∀Y:List ah,∀Y:St,Prop),∀Y:Loc,∀Y:St,Prop
noncomputable def b3(prog:Program)(w:World)(B:Heap)(ak:dB)(k:Nat)(e:Expr)(P:b5):Prop:=
 ∀⦃A:Around⦄⦃env:Env⦄⦃s:Shared⦄⦃am:List Addr⦄⦃loc:Loc⦄⦃st:St⦄⦃Q:∀Y:ah,∀Y:St,Prop⦄,∀Y:gW A k,∀Y:d7 B ak env am s.heap loc,∀Y:bh prog w B am s.heap st,∀Y:P Q loc st,
  wpAny (model prog w) A (eval e env) (dC prog w B am s Q) bo s
noncomputable def jF(prog:Program)(w:World)(B:Heap)(ak:dB)(k:Nat)(e:Expr)(P:e9):Prop:=
 ∀⦃A:Around⦄⦃env:Env⦄⦃s:Shared⦄⦃am:List Addr⦄⦃loc:Loc⦄⦃st:St⦄⦃Q:∀Y:Bool,∀Y:St,Prop⦄,∀Y:gW A k,∀Y:d7 B ak env am s.heap loc,∀Y:bh prog w B am s.heap st,∀Y:P Q loc st,
  wpAny (model prog w) A (isTrue e env (eval e env)) (qr prog w B am s Q) bo s
noncomputable def qt(prog:Program)(w:World)(B:Heap)(ak:dB)(k:Nat)(a9:List Expr)(P:lO):Prop:=
 ∀⦃A:Around⦄⦃env:Env⦄⦃s:Shared⦄⦃am:List Addr⦄⦃loc:Loc⦄⦃st:St⦄⦃Q:∀Y:List ah,∀Y:St,Prop⦄ ⦃pos:Pos⦄,∀Y:gW A k,∀Y:d7 B ak env am s.heap loc,∀Y:bh prog w B am s.heap st,∀Y:P Q loc st,
  wpAny (model prog w) A (spliced (backTo pos (starEach a9 env))) (GJ prog w B am s Q) bo s
theorem never{α:Type}{A:Around}{m:Sem α}{Q:∀Y:α,∀Y:Shared,Prop} {E:∀Y:Value,∀Y:Shared,Prop} {s:Shared} (h:wpAny (model prog w) A m Q bo s):wpAny (model prog w) A m Q E s:=
 wpAny_mono h (fun Y Y x=>x) fun Y Y x=>x.elim
section
variable{A:Around}{s s' dw:Shared}{am aX:List Addr}{st:St}{Q:∀Y:ah,∀Y:St,Prop} {v:Value} {pv:ah}
theorem jG{tk:Nat}(S:bh prog w B am s.heap st)(aN:bc am s.heap pv v)(h:Q pv st):dC prog w B am s Q v {s with toks:=tk}:=
 (cE am st pv ⟨.tok,S,aN,h⟩)
theorem n0(S:bh prog w B am s.heap st)(aN:bc am s.heap pv v)(h:Q pv st):dC prog w B am s Q v s:=
 (cE am st pv ⟨.refl,S,aN,h⟩)
theorem dC.over(x:c9 am s aX s')(p:dC prog w B aX s' Q v dw):dC prog w B am s Q v dw:=by
 refine bG ?_ p;clear p;intro iu ao pv;refine ar ?_;intro y r;exact(cE iu ao pv ⟨x.trans y,r⟩)
theorem qr.over{Q:∀Y:Bool,∀Y:St,Prop} {b:Bool} (x:c9 am s aX s') (p:qr prog w B aX s' Q b dw):qr prog w B am s Q b dw:=by
 refine bZ ?_ p;clear p;intro iu ao;refine ar ?_;intro y r;exact(cD iu ao ⟨x.trans y,r⟩)
end
theorem dZ{A:Around}{s:Shared}{am:List Addr}{m:Sem Value}{Q:∀Y:ah,∀Y:St,Prop} {F:∀Y:Value,∀Y:Shared,Prop} (h:wpAny (model prog w) A m (dC prog w B am s Q) bo s)
 (k:∀v s' aX ao pv,∀Y:c9 am s aX s',∀Y:bh prog w B aX s'.heap ao,∀Y:bc aX s'.heap pv v,∀Y:Q pv ao,F v s'):wpAny (model prog w) A m F bo s:=
 wpAny_mono h (fun v s' aP=>by refine bG ?_ aP;clear aP;intro aX ao pv;refine cH ?_;intro a b c d;exact k v s' aX ao pv a b c d) fun Y Y x=>x
theorem rN{A:Around}{s:Shared}{am:List Addr}{m:Sem Bool}{Q:∀Y:Bool,∀Y:St,Prop} {F:∀Y:Bool,∀Y:Shared,Prop} (h:wpAny (model prog w) A m (qr prog w B am s Q) bo s)
 (k:∀v s' aX ao,∀Y:c9 am s aX s',∀Y:bh prog w B aX s'.heap ao,∀Y:Q v ao,F v s'):wpAny (model prog w) A m F bo s:=
 wpAny_mono h (fun v s' aP=>by refine bZ ?_ aP;clear aP;intro aX ao;refine aY ?_;intro a b d;exact k v s' aX ao a b d) fun Y Y x=>x
theorem tC{A:Around}{s:Shared}{am:List Addr}{m:Sem (List Value)}{Q:∀Y:List ah,∀Y:St,Prop} {F:∀Y:List Value,∀Y:Shared,Prop} (h:wpAny (model prog w) A m (GJ prog w B am s Q) bo s)
 (k:∀v s' aX ao pv,∀Y:c9 am s aX s',∀Y:bh prog w B aX s'.heap ao,∀Y:bT aX s'.heap pv v,∀Y:Q pv ao,F v s'):wpAny (model prog w) A m F bo s:=
 wpAny_mono h (fun v s' aP=>by refine bG ?_ aP;clear aP;intro aX ao pv;refine cH ?_;intro a b c d;exact k v s' aX ao pv a b c d) fun Y Y x=>x
theorem bc.j2{am aX:List Addr}{s s':Shared}{st:St}{x:ah}{v:Value}(h:bc am s.heap x v)(S:bh prog w B am s.heap st)(t:c9 am s aX s'):bc aX s'.heap x v:=
 h.mono t.ext.pre (S.gH t.ext)
theorem bT.j2{am aX:List Addr}{s s':Shared}{st:St}{x:List ah}{v:List Value}(h:bT am s.heap x v)(S:bh prog w B am s.heap st)(t:c9 am s aX s'):bT aX s'.heap x v:=
 h.mono t.ext.pre (S.gH t.ext)
variable{ak:dB}{k:Nat}
noncomputable def vD:∀Y:Option ah,∀Y:(∀Y:ah,∀Y:St,Prop),∀Y:St,Prop
 |some v,Q,st=>Q v st
 |none,_,_=>False
noncomputable def nameP(i:Nat):b5:=fun Q loc st=>vD (getV loc i) Q st
theorem aw{x:Str}{p:Pos}{i:Nat}(aN:ak.vars.lookup x=some i)(hd:autoParam ((x==("__debug__":Str))=false) jD._auto_1)(aG:autoParam ((x==("__classdict__":Str))=false) jD._auto_1):
 b3 prog w B ak k (.Name x p) (nameP i):=by
 intro A env s am loc st Q _ R S h;unfold nameP at h;refine aj ?_ (R.var x i aN);intro v;refine ar ?_;intro b6 aD;cases e:getV loc i with
 |none=>rw[e]at h;exact h.elim
 |some pv=>
  rw[e]at h;refine aj ?_ (aD pv e);intro u;refine ar ?_;rintro rfl aC;refine wpAny_Name ?_ hd;rcases b6 with⟨aK,m,az,hm⟩|⟨aK|aK,c,kY,kZ⟩
  ·exact wpAny_loadName_local R.iF aK az hm (n0 S aC h)
  ·exact wpAny_loadName_cell R.iF aK kY kZ (n0 S aC h)
  ·exact wpAny_loadName_free R.iF aK kY kZ (n0 S aC h) aG
noncomputable def intP(i:Int):b5:=fun Q Y st=>Q (.int i) st
theorem bz{i:Int}{q:Nat}{p:Pos}:b3 prog w B ak k (.Constant (.int i) q p) (intP i):=
 fun Y Y Y Y Y Y Y Y Y S h=>wpAny_Constant_int (jG S .int h)
noncomputable def noneP:b5:=fun Q Y st=>Q .none st
theorem lP{q:Nat}{p:Pos}:b3 prog w B ak k (.Constant .none q p) noneP:=
 fun Y Y Y Y Y Y Y Y Y S h=>wpAny_Constant_none (n0 S .none h)
noncomputable def boolP(b:Bool):b5:=fun Q Y st=>Q (.bool b) st
theorem k4{b:Bool}{q:Nat}{p:Pos}:b3 prog w B ak k (.Constant (.bool b) q p) (boolP b):=
 fun Y Y Y Y Y Y Y Y Y S h=>wpAny_Constant_bool (n0 S .bool h)
noncomputable def mw(prog:Program)(w:World)(B:Heap)(k:Nat)(op:Operator)(f:∀Y:ah,∀Y:ah,∀Y:(∀Y:ah,∀Y:St,Prop),∀Y:St,Prop):Prop:=
 ∀⦃A:Around⦄⦃s:Shared⦄⦃am:List Addr⦄⦃st:St⦄⦃Q:∀Y:ah,∀Y:St,Prop⦄ ⦃a b:ah⦄ ⦃u v:Value⦄,∀Y:gW A k,∀Y:bh prog w B am s.heap st,∀Y:bc am s.heap a u,∀Y:bc am s.heap b v,∀Y:f a b Q st,
  wpAny (model prog w) A (binaryOp op u v) (dC prog w B am s Q) bo s
noncomputable def biP(f:(∀Y:ah,∀Y:ah,∀Y:(∀Y:ah,∀Y:St,Prop),∀Y:St,Prop)) (br bK:b5):b5:=fun Q loc st=>br (fun a aU=>bK (fun b cX=>f a b Q cX) loc aU) loc st
theorem cY{l r:Expr}{op:Operator}{p:Pos}{br bK:b5}{f}(bq:mw prog w B k op f)(bU:b3 prog w B ak k l br)(cZ:b3 prog w B ak k r bK):
 b3 prog w B ak k (.BinOp l op r p) (biP f br bK):=by
 intro A env s am loc st Q aL R S h;refine wpAny_BinOp (dZ (bU aL R S h) fun u ba bV aU a bj bk cN bF=>?_);refine dZ (cZ aL (R.ext S bj.ext) bk bF) fun v dw fB cX b cB cw fT df=>?_;exact dZ (bq aL cw (cN.j2 bk cB) fT df) fun x eP BC jH c eT fU vE rO=>(cE BC jH c ⟨(bj.trans cB).trans eT,fU,vE,rO⟩)
noncomputable def m7(f:∀Y:Int,∀Y:Int,∀Y:(∀Y:ah,∀Y:St,Prop),∀Y:St,Prop):∀Y:ah,∀Y:ah,∀Y:(∀Y:ah,∀Y:St,Prop),∀Y:St,Prop
 |.int a,.int b,Q,st=>f a b Q st
 |_,_,_,_=>False
theorem Nf{f:∀Y:Int,∀Y:Int,∀Y:(∀Y:ah,∀Y:St,Prop),∀Y:St,Prop} {a b:ah} {Q:∀Y:ah,∀Y:St,Prop} {st:St} (h:m7 f a b Q st):∃i j,a=.int i∧b=.int j∧f i j Q st:=by
 cases a with
 |int i=>cases b with
  |int j=>exact cD i j ⟨rfl,rfl,h⟩
  |_=>exact h.elim
 |_=>exact h.elim
theorem qu{op:Operator}{f:∀Y:Int,∀Y:Int,∀Y:(∀Y:ah,∀Y:St,Prop),∀Y:St,Prop}
 (h:∀{A:Around}{s:Shared}{am:List Addr}{st:St}{Q:∀Y:ah,∀Y:St,Prop} {a b:Int} {t u:Tok},∀Y:gW A k,∀Y:bh prog w B am s.heap st,∀Y:f a b Q st,wpAny (model prog w) A (binaryOp op (.int a t) (.int b u)) (dC prog w B am s Q) bo s):
 mw prog w B k op (m7 f):=by
 intro A s am st Q a b u v aL S aJ av q;refine bZ ?_ (Nf q);intro i j;refine aY ?_;rintro rfl rfl q;refine aj ?_ aJ.int_inv;rintro t rfl;refine aj ?_ av.int_inv;rintro e8 rfl;exact h aL S q
theorem rP:mw prog w B k .Sub (m7 fun a b Q st=>Q (.int (a-b)) st):=qu fun Y S q=>PySem.P.sub_int (jG S .int q)
theorem tD:mw prog w B k .Mod (m7 fun a b Q st=>b≠0∧Q (.int (a.fmod b)) st):=qu fun Y S q=>mod_int' q.1 (jG S .int q.2)
theorem BD:mw prog w B k .BitAnd (m7 fun a b Q st=>Q (.int (Builtin.bitAnd a b)) st):=qu fun Y S q=>and_int (jG S .int q)
theorem qv:mw prog w B k .BitXor (m7 fun a b Q st=>Q (.int (Builtin.bitXor a b)) st):=qu fun Y S q=>xor_int (jG S .int q)
theorem vF:mw prog w B k .RShift (m7 fun a b Q st=>0≤b∧Q (.int (a.fdiv (2^b.toNat))) st):=qu fun Y S q=>rshift_int q.1 (jG S .int q.2)
theorem ym:mw prog w B k .LShift (m7 fun a b Q st=>(0≤b∧b≤1000000∧a.natAbs<2^64)∧Q (.int (a*2^b.toNat)) st):=qu fun Y S q=>lshift_int_small q.1.1 q.1.2.1 q.1.2.2 (jG S .int q.2)
theorem BE{s:Shared}{am:List Addr}{st:St}{Q:∀Y:ah,∀Y:St,Prop} {o:Obj} {v:Value} {pv:ah} {tk:Nat} (S:bh prog w B am s.heap st) (aN:bc am (s.heap.push o) pv v) (h:Q pv st):
 dC prog w B am s Q v {s with heap:=s.heap.push o,toks:=tk}:=
 have k:∀b cf,∀Y:s.heap.get? b=some cf,(s.heap.push o).get? b=some cf:=fun Y Y e=>Heap.get?_push_of_some o e
 (cE am st pv ⟨.heap (.of_keeps k),S.keeps k,aN,h⟩)
theorem lQ(h:Heap):h.get? h.objs.size=none:=by
 cases e:h.get? h.objs.size with
 |none=>rfl
 |some o=>exact absurd (Heap.lt_size e) (Nat.lt_irrefl _)
theorem BF{h:Heap}(o:Obj):fR h (h.push o):=fun Y Y Y e=>Heap.get?_push_of_some o e
theorem BG{s:Shared}{am:List Addr}{st:St}{Q:∀Y:ah,∀Y:St,Prop} {o:Obj} {po:bB} {tk:Nat} (S:bh prog w B am s.heap st)
 (bx:j0 prog w (am++[s.heap.objs.size]) (s.heap.push o) s.heap.objs.size po) (h:Q (.ref st.length) (st++[po])):
 dC prog w B am s Q (.ref s.heap.objs.size) {s with heap:=s.heap.push o,toks:=tk}:=by
 refine ar ?_ (S.add (h':=s.heap.push o) (fun Y Y e=>Heap.get?_push_of_some o e) (lQ _) bx);intro dJ x;exact(cE _ _ (.ref st.length) ⟨.heap x,dJ,.ref (by rw[←S.len];simp),h⟩)
theorem yn{s:Shared}{am:List Addr}{st:St}{Q:∀Y:ah,∀Y:St,Prop} {vs:List Value} {xs:List ah} {tk:Nat} (S:bh prog w B am s.heap st) (aN:bT am s.heap xs vs) (h:Q (.ref st.length) (st++[.list xs])):
 dC prog w B am s Q (.ref s.heap.objs.size) {s with heap:=s.heap.push {cls:=.type "list",data:=.seq vs.toArray},toks:=tk}:=
 BG (po:=.list xs) S ⟨vs,⟨0,Heap.get?_push_size _ rfl⟩,aN.mono (List.prefix_append _ _) (BF _)⟩ h
theorem GK{s:Shared}{am:List Addr}{st:St}{Q:∀Y:ah,∀Y:St,Prop} {vs:List Value} {xs:List ah} {tk:Nat} (S:bh prog w B am s.heap st) (aN:bT am s.heap xs vs) (h:Q (.tup xs) st):
 dC prog w B am s Q (.ref s.heap.objs.size) {s with heap:=s.heap.push {cls:=.type "tuple",data:=.seq vs.toArray},toks:=tk}:=
 BE S (.tup (Heap.get?_push_size _ rfl) (aN.mono (List.prefix_refl _) (BF _))) h
noncomputable def mulQ(a b:Int)(Q:∀Y:ah,∀Y:St,Prop) (st:St):Prop:=(a.natAbs<2^64∧b.natAbs<2^64)∧Q (.int (a*b)) st
noncomputable def yo(a b:Int)(Q:∀Y:ah,∀Y:St,Prop) (st:St):Prop:=(0≤b∧b≤1000∧a.natAbs<2^64)∧Q (.int (a^b.toNat)) st
noncomputable def GL(a b:Int)(Q:∀Y:ah,∀Y:St,Prop) (st:St):Prop:=(b≠0∧b.natAbs<1073741824)∧Q (.int (a.fdiv b)) st
theorem vG{k:Nat}:mw prog w B k .Pow (m7 yo):=qu fun{_ _ _ _ _ a b _ _} Y S q=>
 pow_int q.1.1 (by
  have ae:(Builtin.Int.intBits a:Int)≤64:=by have:=intBits_le (k:=64) q.1.2.2;exact aI (.a .p (.k 64) (.L (.n .p) (.k 64))) rfl this
  have af:(Builtin.Int.intBits a:Int)*b≤64*1000:=Int.mul_le_mul ae q.1.2.1 q.1.1 (by exact ik (.L (.k 0) (.k 64)) rfl);exact gV (.A .p (.m 64 (.k 1000)) (.L .p (.k (2^27)))) rfl af) (jG S .int q.2)
theorem rQ{k:Nat}:mw prog w B k .FloorDiv (m7 GL):=qu fun Y S q=>floordiv_int q.1.1 (jG S .int q.2) (.inl (PyProof.noPylong_small q.1.2))
noncomputable def tE:∀Y:ah,∀Y:St,Option bB
 |.ref n,st=>st[n]?
 |_,_=>none
theorem vH{x:ah}{st:St}{o:bB}(h:tE x st=some o):∃n,x=.ref n∧st[n]?=some o:=by
 cases x with
 |ref n=>exact⟨n,rfl,h⟩
 |_=>exact gh h
noncomputable def BH:∀Y:bB,Option (List ah)
 |.list xs=>some xs
 |_=>none
noncomputable def listAt(x:ah)(st:St):Option (List ah):=(tE x st).bind BH
theorem qw{x:ah}{st:St}{xs:List ah}(h:listAt x st=some xs):∃n,x=.ref n∧st[n]?=some (.list xs):=by
 refine aj ?_ (Option.bind_eq_some_iff.mp h);intro o;refine ar ?_;intro e h;refine aj ?_ (vH e);intro n;refine ar ?_;rintro rfl g;cases o with
 |list _=>exact⟨n,rfl,(Option.some.inj h)▸g⟩
 |_=>exact gh h
theorem bh.listAt{am:List Addr}{h:Heap}{st:St}{x:ah}{v:Value}{xs:List ah}(S:bh prog w B am h st)(ai:bc am h x v)(e:listAt x st=some xs):
 ∃n a vs m,x=.ref n∧v=.ref a∧am[n]?=some a∧st[n]?=some (.list xs)∧IsL h a (List.toArray vs) m∧bT am h xs vs:=by
 refine aj ?_ (qw e);intro n;refine ar ?_;rintro rfl g;refine aj ?_ ai.qo;intro a;refine ar ?_;rintro rfl az;refine aj ?_ (S.obj n a _ az g);intro vs;refine ar ?_;refine aj ?_;intro m hm;intro aC;exact(dX n a vs m ⟨rfl,rfl,az,g,hm,aC⟩)
theorem toArr(a b:Array Value):(a.toList++b.toList).toArray=a++b:=by apply Array.ext';simp
noncomputable def addQ:∀Y:ah,∀Y:ah,∀Y:(∀Y:ah,∀Y:St,Prop),∀Y:St,Prop
 |.int a,.int b,Q,st=>Q (.int (a+b)) st
 |.tup xs,.tup ys,Q,st=>xs.length+ys.length≤1000000∧Q (.tup (xs++ys)) st
 |.ref m,.ref n,Q,st=>rK (listAt (.ref m) st) (listAt (.ref n) st) fun xs ys=>xs.length+ys.length≤1000000∧Q (.ref st.length) (st++[.list (xs++ys)])
 |_,_,_,_=>False
section
variable{A:Around}{s:Shared}{am:List Addr}{st:St}{Q:∀Y:ah,∀Y:St,Prop} {u v:Value}
theorem Ng{xs ys:List ah}(S:bh prog w B am s.heap st)(aJ:bc am s.heap (.tup xs) u)(av:bc am s.heap (.tup ys) v)(q:xs.length+ys.length≤1000000∧Q (.tup (xs++ys)) st):
 wpAny (model prog w) A (binaryOp .Add u v) (dC prog w B am s Q) bo s:=by
 refine bG ?_ aJ.m6;intro a items n;refine aY ?_;rintro rfl bf hs;refine bG ?_ av.m6;intro b o8 iR;refine aY ?_;rintro rfl n3 tF;by_cases aR:items.isEmpty=true
 ·have kr:xs=[]:=List.eq_nil_of_length_eq_zero ((qp hs).symm.trans (Array.size_eq_zero_iff.mpr (Array.isEmpty_iff.mp aR)));rw[kr]at q;exact concat_meets ⟨_,bf,rfl⟩ ⟨_,n3,rfl⟩ noFill_tuple_add seq_tuple_add PySem.F.slot_tuple_add PySem.F.entry_tuple_add (PySem.F.args_tuple_add_2 _ _) (tuple_addW0 _ _ items o8 n iR none none #[] #[] aR) ⟨bf,n3,n0 S av q.2⟩
 ·by_cases aW:o8.isEmpty=true
  ·have kr:ys=[]:=List.eq_nil_of_length_eq_zero ((qp tF).symm.trans (Array.size_eq_zero_iff.mpr (Array.isEmpty_iff.mp aW)));rw[kr,List.append_nil]at q;exact concat_meets ⟨_,bf,rfl⟩ ⟨_,n3,rfl⟩ noFill_tuple_add seq_tuple_add PySem.F.slot_tuple_add PySem.F.entry_tuple_add (PySem.F.args_tuple_add_2 _ _) (tuple_addW1 _ _ items o8 n iR none none #[] #[] aR aW) ⟨bf,n3,n0 S aJ q.2⟩
  ·exact PySem.P.add_tuple bf n3 aR aW (toArr items o8▸GK S (hs.append tF) q.2) (by rw[qp hs,qp tF];exact Nat.le_trans q.1 (by decide))
theorem Nh{m n:Nat}(S:bh prog w B am s.heap st)(aJ:bc am s.heap (.ref m) u)(av:bc am s.heap (.ref n) v)(q:addQ (.ref m) (.ref n) Q st):
 wpAny (model prog w) A (binaryOp .Add u v) (dC prog w B am s Q) bo s:=by
 refine bZ ?_ (tn q);intro xs ys;refine aY ?_;intro aR aW q;refine dF ?_ (S.listAt aJ aR);intro _ _ vs _;refine dH ?_;rintro _ rfl _ _ aD ai;refine dF ?_ (S.listAt av aW);intro _ _ us _;refine dH ?_;rintro _ rfl _ _ k6 au;refine PySem.P.add_list aD k6 ?_ (by rw[List.size_toArray,List.size_toArray,←ai.length,←au.length];exact Nat.le_trans q.1 (by decide));rw[List.append_toArray];exact yn S (ai.append au) q.2
end
theorem o9{k:Nat}:mw prog w B k .Add addQ:=by
 intro A s am st Q a b u v _ S;cases a with
 |int i=>cases b with
  |int j=>
   intro aJ av q;refine aj ?_ aJ.int_inv;rintro t rfl;refine aj ?_ av.int_inv;rintro e8 rfl;exact PySem.P.add_int (jG S .int q)
  |_=>exact fun Y Y q=>q.elim
 |tup xs=>cases b with
  |tup ys=>exact Ng S
  |_=>exact fun Y Y q=>q.elim
 |ref m=>cases b with
  |ref n=>exact Nh S
  |_=>exact fun Y Y q=>q.elim
 |_=>exact fun Y Y q=>q.elim
end Mine
end
section
namespace Mine
variable{prog:Program}{w:World}{B:Heap}{ak:dB}{k:Nat}
noncomputable def k7(prog:Program)(w:World)(B:Heap)(k:Nat)(op:CmpOp)(f:∀Y:ah,∀Y:ah,∀Y:(∀Y:Bool,∀Y:St,Prop),∀Y:St,Prop):Prop:=
 ∀⦃A:Around⦄⦃s:Shared⦄⦃am:List Addr⦄⦃st:St⦄⦃F:∀Y:Value,∀Y:Shared,Prop⦄ ⦃Q:∀Y:Bool,∀Y:St,Prop⦄ ⦃a b:ah⦄ ⦃u v:Value⦄,∀Y:gW A k,∀Y:bh prog w B am s.heap st,∀Y:bc am s.heap a u,∀Y:bc am s.heap b v,∀Y:f a b Q st,
  ∀Y:(∀c tk,∀Y:Q c st,F (.bool c) {s with toks:=tk}),wpAny (model prog w) A (compareOp op u v) F bo s
noncomputable def cmpP(f:(∀Y:ah,∀Y:ah,∀Y:(∀Y:Bool,∀Y:St,Prop),∀Y:St,Prop)) (br bK:b5):b5:=fun Q loc st=>br (fun a aU=>bK (fun b cX=>f a b (fun c jH=>Q (.bool c) jH) cX) loc aU) loc st
theorem vI{l r:Expr}{op:CmpOp}{p:Pos}{br bK:b5}{f}(bq:k7 prog w B k op f)(bU:b3 prog w B ak k l br)(cZ:b3 prog w B ak k r bK)(hm:autoParam (behindInMarks op r=false) Gx._auto_1):
 b3 prog w B ak k (.Compare l [op] [r] p) (cmpP f br bK):=by
 intro A env s am loc st Q aL R S h;refine wpAny_Compare1 (dZ (bU aL R S h) fun u ba bV aU a bj bk cN bF=>?_) hm;refine dZ (cZ aL (R.ext S bj.ext) bk bF) fun v dw fB cX b cB cw fT df=>?_;exact bq aL cw (cN.j2 bk cB) fT df fun c tk q=>(cE fB cX (.bool c) ⟨(bj.trans cB).trans .tok,cw,.bool,q⟩)
noncomputable def tcmpP(f:(∀Y:ah,∀Y:ah,∀Y:(∀Y:Bool,∀Y:St,Prop),∀Y:St,Prop)) (br bK:b5):e9:=fun Q loc st=>br (fun a aU=>bK (fun b cX=>f a b Q cX) loc aU) loc st
theorem c6{l r:Expr}{op:CmpOp}{p:Pos}{br bK:b5}{f}(bq:k7 prog w B k op f)(bU:b3 prog w B ak k l br)(cZ:b3 prog w B ak k r bK)(hm:autoParam (behindInMarks op r=false) Gx._auto_1):
 jF prog w B ak k (.Compare l [op] [r] p) (tcmpP f br bK):=by
 intro A env s am loc st Q aL R S h;refine wpAny_isTrue_Compare1 (dZ (bU aL R S h) fun u ba bV aU a bj bk cN bF=>?_) hm;refine dZ (cZ aL (R.ext S bj.ext) bk bF) fun v dw fB cX b cB cw fT df=>?_;exact bq aL cw (cN.j2 bk cB) fT df fun c tk q=>wpAny_truthy_bool (cD fB cX ⟨(bj.trans cB).trans .tok,cw,q⟩)
noncomputable def pe(f:∀Y:Int,∀Y:Int,Bool):∀Y:ah,∀Y:ah,∀Y:(∀Y:Bool,∀Y:St,Prop),∀Y:St,Prop
 |.int a,.int b,Q,st=>Q (f a b) st
 |_,_,_,_=>False
theorem Ni{f:∀Y:Int,∀Y:Int,Bool} {a b:ah} {Q:∀Y:Bool,∀Y:St,Prop} {st:St} (h:pe f a b Q st):∃i j,a=.int i∧b=.int j∧Q (f i j) st:=by
 cases a with
 |int i=>cases b with
  |int j=>exact cD i j ⟨rfl,rfl,h⟩
  |_=>exact h.elim
 |_=>exact h.elim
theorem yp{op:CmpOp}{f:∀Y:Int,∀Y:Int,Bool}
 (h:∀{A:Around}{s:Shared}{F:∀Y:Value,∀Y:Shared,Prop} {a b:Int} {t u:Tok},∀Y:F (.bool (f a b)) s,wpAny (model prog w) A (compareOp op (.int a t) (.int b u)) F bo s):k7 prog w B k op (pe f):=by
 intro A s am st F Q a b u v _ S aJ av q bD;refine bZ ?_ (Ni q);intro i j;refine aY ?_;rintro rfl rfl q;refine aj ?_ aJ.int_inv;rintro t rfl;refine aj ?_ av.int_inv;rintro e8 rfl;exact h (bD _ s.toks q)
theorem qx:k7 prog w B k .Lt (pe fun a b=>decide (a<b)):=yp fun h=>PySem.P.lt_int h
theorem Nj:k7 prog w B k .LtE (pe fun a b=>decide (a≤b)):=yp fun h=>PySem.P.le_int h
theorem cmp_gt:k7 prog w B k .Gt (pe fun a b=>decide (a>b)):=yp fun h=>PySem.P.gt_int h
theorem Nk:k7 prog w B k .GtE (pe fun a b=>decide (a≥b)):=yp fun h=>PySem.P.ge_int h
noncomputable def n4{α β:Type}(f:∀Y:α,Option β):∀Y:List α,Option (List β)
 |[]=>some []
 |x::r=>(f x).bind fun y=>(n4 f r).map (y::·)
theorem GN{α β:Type}{f:∀Y:α,Option β} {x:α} {r:List α} {y:β} {ys:List β} (h:f x=some y) (aC:n4 f r=some ys):n4 f (x::r)=some (y::ys):=by
 show(f x).bind (fun y=>(n4 f r).map (y::·))=_;rw[h,aC];rfl
noncomputable def n5:∀Y:Nat,∀Y:ah,Option PyData
 |_,.none=>some .none
 |_,.bool b=>some (.bool b)
 |_,.int i=>some (.int i)
 |n+1,.tup xs=>(n4 (n5 n) xs).map .tuple
 |_,_=>none
noncomputable def tG(x:ah)(st:St):Option PyData:=match x with
 |.ref n=>(listAt (.ref n) st).bind fun xs=>(n4 (n5 2) xs).map .list
 |x=>n5 3 x
theorem GO{am:List Addr}{h:Heap}{n:Nat}(az:∀{x v d},∀Y:bc am h x v,∀Y:n5 n x=some d,∃as,Reads h v d as∧d.canLay0=true∧d.depth≤n+1)
 {xs vs} (r:bT am h xs vs):∀{ds},∀Y:n4 (n5 n) xs=some ds,∃as,ReadsAll h vs ds as∧PyData.canLayAll0 ds=true∧PyData.depthAll ds≤n+1:=by
 have p:=r.pr;clear r
 induction p with
 |nil=>intro ds e;cases e;exact⟨_,.nil,rfl,Nat.zero_le _⟩
 |cons a _ ih=>
  intro ds e;refine aj ?_ (Option.bind_eq_some_iff.mp e);intro y;refine ar ?_;intro ae e;refine aj ?_ (Option.map_eq_some_iff.mp e);intro ys;refine ar ?_;rintro af rfl;refine aj ?_ (az a ae);intro as;refine aY ?_;intro j1 cO jI;refine aj ?_ (ih af);intro bs;refine aY ?_;intro e7 cQ gJ;exact⟨_,.cons j1 e7,by rw[PyData.canLayAll0,cO,cQ];rfl,Nat.max_le.mpr ⟨jI,gJ⟩⟩
theorem GP{am:List Addr}{h:Heap}{n:Nat}:∀{x:ah}{v:Value}{d:PyData},∀Y:bc am h x v,∀Y:n5 n x=some d,∃as,Reads h v d as∧d.canLay0=true∧d.depth≤n+1:=by
 induction n with
 |zero=>
  intro x v d ai e;cases x with
  |none=>cases e;exact ai.none_inv▸⟨_,.none,rfl,Nat.zero_le _⟩
  |bool b=>cases e;exact ai.bool_inv▸⟨_,.bool _,rfl,Nat.zero_le _⟩
  |int i=>cases e;refine aj ?_ ai.int_inv;rintro t rfl;exact⟨_,.int _ _,rfl,Nat.zero_le _⟩
  |_=>exact gh e
 |succ n ih=>
  intro x v d ai e;cases x with
  |none=>cases e;exact ai.none_inv▸⟨_,.none,rfl,Nat.zero_le _⟩
  |bool b=>cases e;exact ai.bool_inv▸⟨_,.bool _,rfl,Nat.zero_le _⟩
  |int i=>cases e;refine aj ?_ ai.int_inv;rintro t rfl;exact⟨_,.int _ _,rfl,Nat.zero_le _⟩
  |tup xs=>
   refine aj ?_ (Option.map_eq_some_iff.mp e);intro ds;refine ar ?_;rintro aR rfl;refine bG ?_ ai.m6;intro a items m;refine aY ?_;rintro rfl bf hs;refine aj ?_ (GO ih hs aR);intro as;refine aY ?_;intro r l d;exact⟨_,.tuple bf rfl rfl r,l,Nat.succ_le_succ d⟩
  |_=>exact gh e
theorem yq{am:List Addr}{h:Heap}{st:St}(S:bh prog w B am h st){x:ah}{v:Value}{d:PyData}(ai:bc am h x v)(e:tG x st=some d):∃as,Reads h v d as∧d.canLay0=true∧d.depth≤4:=by
 cases x with
 |ref n=>
  refine aj ?_ (Option.bind_eq_some_iff.mp e);intro xs;refine ar ?_;intro aR e;refine aj ?_ (Option.map_eq_some_iff.mp e);intro ds;refine ar ?_;rintro aW rfl;refine dF ?_ (S.listAt ai aR);intro _ a vs m;refine dH ?_;rintro _ rfl _ _ aD aC;refine aj ?_ (GO GP aC aW);intro as;refine aY ?_;intro r l rR;exact⟨_,.list aD rfl rfl r,l,Nat.succ_le_succ rR⟩
 |_=>exact GP ai e
noncomputable def m8(neg:Bool)(a b:ah)(Q:Bool→St→Prop)(st:St):Prop:=match a,b with
 |.int i,.int j=>Q (xor neg (i==j)) st
 |a,b=>rK (tG a st) (tG b st) fun x y=>Q (xor neg (PyData.eqv x y)) st
theorem GQ{neg:Bool}{a b:ah}{Q:∀Y:Bool,∀Y:St,Prop} {st:St} (h:m8 neg a b Q st):(∃i j,a=.int i∧b=.int j∧Q (xor neg (i==j)) st)∨∃x y,tG a st=some x∧tG b st=some y∧Q (xor neg (PyData.eqv x y)) st:=by
 cases a with
 |int i=>cases b with
  |int j=>exact .inl (cD _ _ ⟨rfl,rfl,h⟩)
  |_=>exact .inr (tn h)
 |_=>exact .inr (tn h)
theorem jJ:k7 prog w B k .Eq (m8 false):=by
 intro A s am st F Q a b u v aL S aJ av q bD;rcases GQ q with⟨i,j,rfl,rfl,z⟩|⟨x,y,ae,af,z⟩
 ·refine aj ?_ aJ.int_inv;rintro t rfl;refine aj ?_ av.int_inv;rintro e8 rfl;rw[Bool.false_xor]at z;exact PySem.P.eq_int (bD _ s.toks z)
 ·refine aj ?_ (yq S aJ ae);intro as;refine aY ?_;intro j1 cO jI;refine aj ?_ (yq S av af);intro bs;refine aY ?_;intro e7 cQ gJ;rw[Bool.false_xor]at z;exact PySem.SeqAt.compareEq_reads j1 e7 cO cQ (by have:=aL.2.2;exact cJ (.i 25 (.l .s (.k 4)) (.b (.a (.a .p (.m 20 .t)) (.k 100)) .r (.i 25 (.l .q .s) (.t (.a .p .q) .r)))) rfl jI this (Nat.min_le_left _ _)) (bD _ s.toks z)
theorem m9:k7 prog w B k .NotEq (m8 true):=by
 intro A s am st F Q a b u v aL S aJ av q bD;rcases GQ q with⟨i,j,rfl,rfl,z⟩|⟨x,y,ae,af,z⟩
 ·refine aj ?_ aJ.int_inv;rintro t rfl;refine aj ?_ av.int_inv;rintro e8 rfl;rw[Bool.true_xor]at z;exact PySem.P.ne_int (bD _ s.toks z)
 ·refine aj ?_ (yq S aJ ae);intro as;refine aY ?_;intro j1 cO jI;refine aj ?_ (yq S av af);intro bs;refine aY ?_;intro e7 cQ gJ;rw[Bool.true_xor]at z;exact PySem.SeqAt.compareNe_reads j1 e7 cO cQ (by have:=aL.2.2;exact cJ (.i 25 (.l .s (.k 4)) (.b (.a (.a .p (.m 20 .t)) (.k 100)) .r (.i 25 (.l .q .s) (.t (.a .p .q) .r)))) rfl jI this (Nat.min_le_left _ _)) (bD _ s.toks z)
noncomputable def yr:∀Y:ah,Bool
 |.none=>true
 |_=>false
noncomputable def pg(neg:Bool):∀Y:ah,∀Y:ah,∀Y:(∀Y:Bool,∀Y:St,Prop),∀Y:St,Prop
 |a,.none,Q,st=>Q (xor neg (yr a)) st
 |_,_,_,_=>False
theorem bc.GR{am:List Addr}{h:Heap}{x:ah}{v:Value}(ai:bc am h x v):(v==Value.none)=yr x:=by
 cases ai<;>rfl
theorem GS{neg:Bool}{a b:ah}{Q:∀Y:Bool,∀Y:St,Prop} {st:St} (h:pg neg a b Q st):b=.none∧Q (xor neg (yr a)) st:=by
 cases b with
 |none=>exact⟨rfl,h⟩
 |_=>exact h.elim
theorem vJ:k7 prog w B k .Is (pg false):=by
 intro A s am st F Q a b u v aL S aJ av q bD;refine ar ?_ (GS q);rintro rfl z;rw[av.none_inv];refine is_none ?_;rw[aJ.GR,←Bool.false_xor (yr a)];exact bD _ s.toks z
theorem BI:k7 prog w B k .IsNot (pg true):=by
 intro A s am st F Q a b u v aL S aJ av q bD;refine ar ?_ (GS q);rintro rfl z;rw[av.none_inv];refine isNot_none ?_;rw[aJ.GR,←Bool.true_xor];exact bD _ s.toks z
end Mine
end
section
namespace Mine
variable{prog:Program}{w:World}{B:Heap}{ak:dB}{k:Nat}
noncomputable def trueT:e9:=fun Q Y st=>Q true st
theorem vK{p:Pos}:jF prog w B ak k (.BoolOp .And [] p) trueT:=by
 intro A env s am loc st Q aL R S h;exact wpAny_isTrue_BoolOp (wpAny_allTrue_And_nil (cD am st ⟨.refl,S,h⟩))
noncomputable def falseT:e9:=fun Q Y st=>Q false st
theorem ph{p:Pos}:jF prog w B ak k (.BoolOp .Or [] p) falseT:=by
 intro A env s am loc st Q aL R S h;exact wpAny_isTrue_BoolOp (wpAny_allTrue_Or_nil (cD am st ⟨.refl,S,h⟩))
noncomputable def andT(br bK:e9):e9:=fun Q loc st=>br (fun b aU=>if b=true then bK Q loc aU else Q false aU) loc st
theorem my{x:Expr}{r:List Expr}{p:Pos}{br bK:e9}(bU:jF prog w B ak k x br)(cZ:jF prog w B ak k (.BoolOp .And r p) bK):
 jF prog w B ak k (.BoolOp .And (x::r) p) (andT br bK):=by
 intro A env s am loc st Q aL R S h;refine wpAny_isTrue_BoolOp (wpAny_allTrue_And_cons (rN (bU aL R S h) fun b ba bV aU bj bk bF=>?_));cases b with
 |false=>exact(cD bV aU ⟨bj,bk,bF⟩)
 |true=>
  have:=cZ aL (R.ext S bj.ext) bk bF;exact wpAny_mono (show wpAny (model prog w) A (allTrue .And r env) _ bo ba from this) (fun Y Y z=>qr.over bj z) fun Y Y z=>z
noncomputable def orT(br bK:e9):e9:=fun Q loc st=>br (fun b aU=>if b=true then Q true aU else bK Q loc aU) loc st
theorem gX{x:Expr}{r:List Expr}{p:Pos}{br bK:e9}(bU:jF prog w B ak k x br)(cZ:jF prog w B ak k (.BoolOp .Or r p) bK):
 jF prog w B ak k (.BoolOp .Or (x::r) p) (orT br bK):=by
 intro A env s am loc st Q aL R S h;refine wpAny_isTrue_BoolOp (wpAny_allTrue_Or_cons (rN (bU aL R S h) fun b ba bV aU bj bk bF=>?_));cases b with
 |true=>exact(cD bV aU ⟨bj,bk,bF⟩)
 |false=>
  have:=cZ aL (R.ext S bj.ext) bk bF;exact wpAny_mono (show wpAny (model prog w) A (allTrue .Or r env) _ bo ba from this) (fun Y Y z=>qr.over bj z) fun Y Y z=>z
theorem Nl{x:Str}{p:Pos}{P:b5}(bU:b3 prog w B ak k (.Name x p) P):jF prog w B ak k (.Name x p) fun Q loc st=>P (fun v aU=>match v with|.bool b=>Q b aU|_=>False) loc st:=by
 intro A env s am loc st Q aL R S h;refine wpAny_isTrue_value (dZ (bU aL R S h) fun v ba bV aU pv bj bk cN bF=>?_);cases pv with
 |bool b=>exact cN.bool_inv▸wpAny_truthy_bool (cD bV aU ⟨bj,bk,bF⟩)
 |_=>exact bF.elim
theorem Nm{t a b:Expr}{p:Pos}{P:e9}{br bK:b5}(h:jF prog w B ak k t P)(bU:b3 prog w B ak k a br)(cZ:b3 prog w B ak k b bK):
 b3 prog w B ak k (.IfExp t a b p) fun Q loc st=>P (fun c aU=>if c=true then br Q loc aU else bK Q loc aU) loc st:=by
 intro A env s am loc st Q aL R S q;refine wpAny_IfExp (rN (h aL R S q) fun c ba bV aU bj bk bF=>?_);cases c with
 |true=>exact wpAny_mono (bU aL (R.ext S bj.ext) bk bF) (fun Y Y z=>dC.over bj z) fun Y Y z=>z
 |false=>exact wpAny_mono (cZ aL (R.ext S bj.ext) bk bF) (fun Y Y z=>dC.over bj z) fun Y Y z=>z
noncomputable def GU:∀Y:ah,∀Y:(∀Y:ah,∀Y:St,Prop),∀Y:St,Prop
 |.int a,Q,st=>Q (.int (-a)) st
 |_,_,_=>False
noncomputable def negP(P:b5):b5:=fun Q loc st=>P (fun v aU=>GU v Q aU) loc st
theorem vL{a:Expr}{p:Pos}{P:b5}(h:b3 prog w B ak k a P):b3 prog w B ak k (.UnaryOp .USub a p) (negP P):=by
 intro A env s am loc st Q aL R S q;refine wpAny_UnaryOp (dZ (h aL R S q) fun v ba bV aU pv bj bk cN bF=>?_);cases pv with
 |int a=>
  refine aj ?_ cN.int_inv;rintro t rfl;exact PySem.P.neg_int (cE bV aU _ ⟨bj.trans .tok,bk,.int,bF⟩)
 |_=>exact bF.elim
noncomputable def nilEs:lO:=fun Q Y st=>Q [] st
theorem bg:qt prog w B ak k [] nilEs:=by
 intro A env s am loc st Q pos aL R S h;exact Calls.spliced_nil (cE am st [] ⟨.refl,S,.nil,h⟩)
noncomputable def consEs(br:b5)(bK:lO):lO:=fun Q loc st=>br (fun v aU=>bK (fun vs cX=>Q (v::vs) cX) loc aU) loc st
theorem aQ{e:Expr}{r:List Expr}{br:b5}{bK:lO}(bU:b3 prog w B ak k e br)(cZ:qt prog w B ak k r bK)
 (he:autoParam (∀env,starEach (e::r) env=(false,eval e env)::starEach r env) mu._auto_1):
 qt prog w B ak k (e::r) (consEs br bK):=by
 intro A env s am loc st Q pos aL R S h;rw[he];refine Calls.spliced_cons (x:=eval e env) (dZ (bU aL R S h) fun v ba bV aU pv bj bk cN bF=>?_);exact tC (cZ aL (R.ext S bj.ext) bk bF) fun vs dw fB cX qs cB cw fT df=>(cE fB cX _ ⟨bj.trans cB,cw,.cons (cN.j2 bk cB) fT,df⟩)
noncomputable def tupP(P:lO):b5:=fun Q loc st=>P (fun vs aU=>vs.length≤1000∧Q (.tup vs) aU) loc st
theorem lR{a9:List Expr}{x:Nat}{p:Pos}{P:lO}(h:qt prog w B ak k a9 P):b3 prog w B ak k (.Tuple a9 x p) (tupP P):=by
 intro A env s am loc st Q aL R S q;refine wpAny_Tuple_spliced (tC (h aL R S q) fun vs ba bV aU qs bj bk cN bF=>⟨by rw[←cN.length];exact Nat.le_trans bF.1 (by decide),?_⟩);exact(GK (tk:=ba.toks) bk cN bF.2).over bj
noncomputable def listP(P:lO):b5:=fun Q loc st=>P (fun vs aU=>vs.length≤1000∧Q (.ref aU.length) (aU++[.list vs])) loc st
theorem jb{a9:List Expr}{p:Pos}{P:lO}(h:qt prog w B ak k a9 P):b3 prog w B ak k (.List a9 p) (listP P):=by
 intro A env s am loc st Q aL R S q;refine wpAny_List_spliced (tC (h aL R S q) fun vs ba bV aU qs bj bk cN bF=>⟨by rw[←cN.length];exact Nat.le_trans bF.1 (by decide),?_⟩);exact(yn (tk:=ba.toks) bk cN bF.2).over bj
theorem Nn{p:Pos}:b3 prog w B ak k (.Dict [] [] p) fun Q Y st=>Q (.ref st.length) (st++[.ed []]):=by
 intro A env s am loc st Q aL R S q;exact wpAny_Dict_empty (BG (tk:=s.toks) (po:=.ed []) S ⟨[],Heap.DictOf.new _,.nil⟩ q)
noncomputable def BJ:∀Y:ah,Option Int
 |.int i=>some i
 |_=>none
noncomputable def GV:∀Y:ah,Option Bool
 |.bool i=>some i
 |_=>none
theorem GW{x:ah}{i:Int}(h:BJ x=some i):x=.int i:=by
 cases x with
 |int j=>exact congrArg ah.int (Option.some.inj h)
 |_=>exact gh h
theorem Np{x:ah}{i:Bool}(h:GV x=some i):x=.bool i:=by
 cases x with
 |bool j=>exact congrArg ah.bool (Option.some.inj h)
 |_=>exact gh h
noncomputable def rS(i:Int):∀Y:List ah,Option Bool
 |[]=>some false
 |x::r=>(BJ x).bind fun j=>(rS i r).map ((j==i)||·)
noncomputable def hasB(i:Bool):∀Y:List ah,Option Bool
 |[]=>some false
 |x::r=>(GV x).bind fun j=>(hasB i r).map ((j==i)||·)
noncomputable def GX(k:Bool):∀Y:Value,Bool
 |.bool b=>b==k
 |_=>false
theorem GY{am:List Addr}{h:Heap}{i:Int}(t:Tok){xs vs}(r:bT am h xs vs):∀{b},∀Y:rS i xs=some b,vs.any (isInt i)=b∧∀y∈vs,MeetsSeq.EqGives y (.int i t) (isInt i y):=by
 have p:=r.pr;clear r
 induction p with
 |nil=>intro b e;exact⟨Option.some.inj e,fun Y h=>(List.not_mem_nil h).elim⟩
 |cons a _ ih=>
  intro b e;refine aj ?_ (Option.bind_eq_some_iff.mp e);intro j;refine ar ?_;intro aR e;refine aj ?_ (Option.map_eq_some_iff.mp e);intro c;refine ar ?_;rintro cA rfl;rw[GW aR]at a;refine aj ?_ a.int_inv;rintro u rfl;exact⟨congrArg ((j==i)||·) (ih cA).1,List.forall_mem_cons.mpr ⟨MeetsSeq.EqGives.int j i u t,(ih cA).2⟩⟩
theorem Nq{am:List Addr}{h:Heap}{i:Bool}{xs vs}(r:bT am h xs vs):∀{b},∀Y:hasB i xs=some b,vs.any (GX i)=b∧∀y∈vs,MeetsSeq.EqGives y (.bool i) (GX i y):=by
 have p:=r.pr;clear r
 induction p with
 |nil=>intro b e;exact⟨Option.some.inj e,fun Y h=>(List.not_mem_nil h).elim⟩
 |cons a _ ih=>
  intro b e;refine aj ?_ (Option.bind_eq_some_iff.mp e);intro j;refine ar ?_;intro aR e;refine aj ?_ (Option.map_eq_some_iff.mp e);intro c;refine ar ?_;rintro cA rfl;rw[Np aR]at a;rw[a.bool_inv];exact⟨congrArg ((j==i)||·) (ih cA).1,List.forall_mem_cons.mpr ⟨fun prog w A E s Q bb=>PySem.SeqAt.EqAt.bool_bool j i prog w E Q bb,(ih cA).2⟩⟩
noncomputable def GZ:∀Y:bB,Option (List (Int×ah))
 |.ed xs=>some xs
 |_=>none
noncomputable def dictAt(x:ah)(st:St):Option (List (Int×ah)):=(tE x st).bind GZ
theorem yt{x:ah}{st:St}{kvs:List (Int×ah)}(h:dictAt x st=some kvs):∃n,x=.ref n∧st[n]?=some (.ed kvs):=by
 refine aj ?_ (Option.bind_eq_some_iff.mp h);intro o;refine ar ?_;intro e h;refine aj ?_ (vH e);intro n;refine ar ?_;rintro rfl g;cases o with
 |ed _=>exact⟨n,rfl,(Option.some.inj h)▸g⟩
 |_=>exact gh h
noncomputable def fa(i:Int):∀Y:List (Int×ah),Option ah
 |[]=>none
 |(j,v)::r=>if j=i then some v else fa i r
theorem bh.dictAt{am:List Addr}{h:Heap}{st:St}{x:ah}{v:Value}{kvs:List (Int×ah)}(S:bh prog w B am h st)(ai:bc am h x v)(e:dictAt x st=some kvs):
 ∃n a aB,x=.ref n∧v=.ref a∧am[n]?=some a∧st[n]?=some (.ed kvs)∧h.DictOf (intKind prog w) a aB∧Paired (fun(x:Int×ah)(y:Int×Value)=>x.1=y.1∧bc am h x.2 y.2) kvs aB:=by
 refine aj ?_ (yt e);intro n;refine ar ?_;rintro rfl g;refine aj ?_ ai.qo;intro a;refine ar ?_;rintro rfl az;refine aj ?_ (S.obj n a _ az g);intro aB;refine ar ?_;intro hd aC;exact(cE n a aB ⟨rfl,rfl,az,g,hd,aC⟩)
theorem G0{am:List Addr}{h:Heap}(i:Int){kvs:List (Int×ah)}{aB:List (Int×Value)}(p:Paired (fun(x:Int×ah)(y:Int×Value)=>x.1=y.1∧bc am h x.2 y.2) kvs aB):
 (fa i kvs=none∧valueAt aB i=none)∨∃x v,fa i kvs=some x∧valueAt aB i=some v∧bc am h x v:=by
 induction p with
 |nil=>exact .inl ⟨rfl,rfl⟩
 |@cons a b r c5 q _ ih=>
  by_cases aO:a.1=i
  ·exact .inr (cD a.2 b.2 ⟨if_pos aO,by simp[valueAt,←q.1,aO],q.2⟩)
  ·have aR:fa i (a::r)=fa i r:=if_neg aO;have aW:valueAt (b::c5) i=valueAt c5 i:=by simp[valueAt,←q.1,aO]
   rw[aR,aW];exact ih
noncomputable def pj(neg:Bool)(x c:ah)(Q:Bool→St→Prop)(st:St):Prop:=match x,c with
 |.int i,.tup xs=>fY (rS i xs) fun b=>Q (xor neg b) st
 |.int i,.ref n=>(dictAt (.ref n) st).elim (fY ((listAt (.ref n) st).bind (rS i)) fun b=>Q (xor neg b) st) fun kvs=>Q (xor neg (fa i kvs).isSome) st
 |.bool i,.ref n=>fY ((listAt (.ref n) st).bind (hasB i)) fun b=>Q (xor neg b) st
 |_,_=>False
theorem yu{neg:Bool}{i:Int}{n:Nat}{Q:∀Y:Bool,∀Y:St,Prop} {st:St}:pj neg (.int i) (.ref n) Q st=(dictAt (.ref n) st).elim (fY ((listAt (.ref n) st).bind (rS i)) fun b=>Q (xor neg b) st) fun kvs=>Q (xor neg (fa i kvs).isSome) st:=rfl
theorem yv{i:Int}{t:Tok}:(intKind prog w).is i (.int i t)=true:=by simp[intKind,Value.isInt]
theorem yw{am:List Addr}{h:Heap}{st:St}(S:bh prog w B am h st)(hs:∃o,B.get? sysModules=some o) {a:Addr} (aJ:a∈am):(a==sysModules)=false:=by
 refine beq_eq_false_iff_ne.mpr fun e=>?_;refine aj ?_ hs;clear hs;intro o bx;have:=S.off a aJ;rw[e,bx]at this;cases this
section
variable{A:Around}{s:Shared}{F:∀Y:Value,∀Y:Shared,Prop} {neg:Bool}
theorem G1{u:Value}{a:Addr}{vs:List Value}{m:Nat}{b:Bool}(p:∀Y:Value,Bool) (h:vs.any p=b∧∀y∈vs,MeetsSeq.EqGives y u (p y)) (aD:IsL s.heap a (List.toArray vs) m) (bD:F (.bool (xor neg b)) s):
 wpAny (model prog w) A (compareOp (if neg then .NotIn else .In) u (.ref a)) F bo s:=by
 rw[←h.1]at bD;cases neg with
 |false=>rw[Bool.false_xor]at bD;exact SeqRoads2.in_list p (fun y au=>h.2 y (List.mem_toArray.mp au)) aD (by rw[←Array.any_toList];exact bD)
 |true=>rw[Bool.true_xor]at bD;exact SeqRoads2.notIn_list p (fun y au=>h.2 y (List.mem_toArray.mp au)) aD (by rw[←Array.any_toList];exact bD)
theorem Nr{u:Value}{a:Addr}{vs:Array Value}{m:Nat}{b:Bool}(p:∀Y:Value,Bool) (h:vs.toList.any p=b∧∀y∈vs.toList,MeetsSeq.EqGives y u (p y)) (aD:IsT s.heap a vs m) (bD:F (.bool (xor neg b)) s):
 wpAny (model prog w) A (compareOp (if neg then .NotIn else .In) u (.ref a)) F bo s:=by
 rw[←h.1]at bD;cases neg with
 |false=>rw[Bool.false_xor]at bD;exact SeqRoads2.in_tuple p (fun y au=>h.2 y (Array.mem_toList_iff.mpr au)) aD (by rw[←Array.any_toList];exact bD)
 |true=>rw[Bool.true_xor]at bD;exact SeqRoads2.notIn_tuple p (fun y au=>h.2 y (Array.mem_toList_iff.mpr au)) aD (by rw[←Array.any_toList];exact bD)
theorem Nt{am:List Addr}{st:St}{v:Value}{x:ah}{kvs:List (Int×ah)}{i:Int}{t:Tok}(hs:∃o,B.get? sysModules=some o) (S:bh prog w B am s.heap st) (av:bc am s.heap x v) (e:dictAt x st=some kvs)
 (bD:∀tk,F (.bool (xor neg (fa i kvs).isSome)) {s with toks:=tk}):wpAny (model prog w) A (compareOp (if neg then .NotIn else .In) (.int i t) v) F bo s:=by
 refine bG ?_ (S.dictAt av e);intro n a aB;refine dH ?_;rintro _ rfl hm _ hd aP
 have aW:(fa i kvs).isSome=(valueAt aB i).isSome:=by
  rcases G0 i aP with⟨ae,af⟩|⟨x,v,ae,af,_⟩<;>rw[ae,af]<;>rfl
 rw[aW]at bD;cases neg with
 |false=>rw[Bool.false_xor]at bD;exact wpAny_in_of yv (yw S hs (List.mem_of_getElem? hm)) hd.mapOf (bD _)
 |true=>rw[Bool.true_xor]at bD;exact wpAny_notIn_of yv (yw S hs (List.mem_of_getElem? hm)) hd.mapOf (bD _)
end
theorem G2{neg:Bool}(hs:∃o,B.get? sysModules=some o):k7 prog w B k (if neg then .NotIn else .In) (pj neg):=by
 intro A s am st F Q a b u v aL S;cases a with
 |int i=>
  cases b with
  |tup xs=>
   intro aJ av q bD;refine aj ?_ (gG q);intro b;refine ar ?_;intro e q;refine aj ?_ aJ.int_inv;rintro t rfl;refine bG ?_ av.m6;intro a items n;refine aY ?_;rintro rfl bf aC;exact Nr _ (GY t aC e) bf (bD _ s.toks q)
  |ref n=>
   intro aJ av q bD;refine aj ?_ aJ.int_inv;rintro t rfl;cases e:Mine.dictAt (.ref n) st with
   |some kvs=>exact Nt hs S av e fun tk=>bD _ tk (by rw[yu,e]at q;exact q)
   |none=>
    rw[yu,e]at q;refine aj ?_ (gG q);intro b;refine ar ?_;intro e q;refine aj ?_ (Option.bind_eq_some_iff.mp e);intro xs;refine ar ?_;intro aR e;refine dF ?_ (S.listAt av aR);intro _ a vs m;refine dH ?_;rintro _ rfl _ _ aD aC;exact G1 _ (GY t aC e) aD (bD _ s.toks q)
  |_=>exact fun Y Y q=>q.elim
 |bool i=>
  cases b with
  |ref n=>
   intro aJ av q bD;refine aj ?_ (gG q);intro b;refine ar ?_;intro e q;refine aj ?_ (Option.bind_eq_some_iff.mp e);intro xs;refine ar ?_;intro aR e;refine dF ?_ (S.listAt av aR);intro _ a vs m;refine dH ?_;rintro _ rfl _ _ aD aC;rw[aJ.bool_inv];exact G1 _ (Nq aC e) aD (bD _ s.toks q)
  |_=>exact fun Y Y q=>q.elim
 |_=>exact fun Y Y q=>q.elim
theorem vM(hs:∃o,B.get? sysModules=some o):k7 prog w B k .In (pj false):=G2 (neg:=false) hs
theorem tH(hs:∃o,B.get? sysModules=some o):k7 prog w B k .NotIn (pj true):=G2 (neg:=true) hs
end Mine
end
section
namespace Mine
variable{prog:Program}{w:World}{B:Heap}{ak:dB}{k:Nat}
noncomputable def pick(xs:List ah)(i:Int):Option ah:=if 0≤i then xs[i.toNat]? else if-(xs.length:Int)≤i then xs[(i+xs.length).toNat]? else none
noncomputable def qy(x:Option ah)(Q:∀Y:ah,∀Y:St,Prop) (st:St):Prop:=fY x fun v=>Q v st
noncomputable def nc(c x:ah)(Q:ah→St→Prop)(st:St):Prop:=match c,x with
 |.tup xs,.int i=>xs.length<1000000∧qy (pick xs i) Q st
 |.ref n,.int i=>(dictAt (.ref n) st).elim (fY (listAt (.ref n) st) fun xs=>xs.length<1000000000∧qy (pick xs i) Q st) fun kvs=>qy (fa i kvs) Q st
 |_,_=>False
theorem BK{n:Nat}{i:Int}{Q:∀Y:ah,∀Y:St,Prop} {st:St}:nc (.ref n) (.int i) Q st=(dictAt (.ref n) st).elim (fY (listAt (.ref n) st) fun xs=>xs.length<1000000000∧qy (pick xs i) Q st) fun kvs=>qy (fa i kvs) Q st:=rfl
theorem G3{xs:List ah}{i:Int}{x:ah}(e:pick xs i=some x):∃j:Nat,xs[j]?=some x∧j<xs.length∧(i=j∨i=(j:Int)-xs.length):=by
 unfold pick at e;by_cases h:0≤i
 ·rw[if_pos h]at e;exact⟨_,e,(List.getElem?_eq_some_iff.mp e).1,.inl (Int.toNat_of_nonneg h).symm⟩
 ·rw[if_neg h]at e;by_cases ae:-(xs.length:Int)≤i
  ·rw[if_pos ae]at e;exact⟨_,e,(List.getElem?_eq_some_iff.mp e).1,.inr (by rw[Int.toNat_of_nonneg (by exact MI ae)];exact Int.le_antisymm (cu (.L .p (.s (.a .p (.n .p)) (.n .p))) rfl [_] [_]) (cu (.L (.s (.a .p (.n .p)) (.n .p)) .p) rfl [_] [_]))⟩
  ·rw[if_neg ae]at e;exact gh e
theorem Nu{xs:List ah}{i:Int}{x:ah}(aD:xs.length<1000000000)(e:pick xs i=some x):∃j,seqIndex? i xs.length=some j∧xs[j]?=some x∧-(2^62)<i∧i<2^62:=by
 refine aj ?_ (G3 e);intro j;refine aY ?_;intro e aO hi;refine⟨j,?_,e,by clear e;exact hi.elim (fun ay=>cu (.i (-1) (.E .p (.n .p)) (.T (.k (-(2^62))) .p)) rfl [_] [_] ay) (fun aE=>cu (.i 1537228672809129301 (.t .p (.k 1000000000)) (.i (-333333333) (.E .p (.s (.n .q) (.n .p))) (.G 333333332 (.T (.k (-(2^62))) .p)))) rfl [_,_] [_] aD aE),by clear e;exact hi.elim (fun ay=>cu (.i 4611686018427387904 (.t .p (.k 1000000000)) (.i 999999999 (.t .q .p) (.i 999999999 (.E .p (.n .q)) (.G 999999998 (.T .p (.k (2^62))))))) rfl [_,_] [_] aD aO ay) (fun aE=>cu (.b .p .q (.ak .p (.s (.n .p) (.n .q)) (.T .p (.k (2^62))))) rfl [_,_] [_] aO aE)⟩;have jK:(j:Int)<xs.length:=Int.ofNat_lt.mpr aO;have af:(decide ((0:Int)≤j)&&decide ((j:Int)<xs.length))=true:=by rw[decide_eq_true (Int.natCast_nonneg j),decide_eq_true jK];rfl
 unfold seqIndex?;rcases hi with rfl|rfl
 ·rw[if_neg (Int.not_lt.mpr (Int.natCast_nonneg j))];exact if_pos af
 ·rw[if_pos (Int.sub_neg_of_lt jK),Int.sub_add_cancel];exact if_pos af
theorem G4(slice:Expr)(o i:Value):∃ops,subscripted slice false o i=operate ops (getItem o i):=by
 cases slice with
 |Slice _ _ t _=>cases t<;>exact⟨_,rfl⟩
 |_=>exact⟨_,rfl⟩
section
variable{A:Around}{s:Shared}{am:List Addr}{st:St}{Q:∀Y:ah,∀Y:St,Prop} {u v:Value} {i:Int}
noncomputable def yx(prog:Program)(w:World)(B:Heap)(A:Around)(s:Shared)(am:List Addr)(Q:∀Y:ah,∀Y:St,Prop) (u v:Value):Prop:=
 ∃T id,s.TypeIs u T∧typeLookup (.type T) "__getitem__"=pure (some (.builtin id))∧wpAny (model prog w) A (getItem u v) (dC prog w B am s Q) bo s
theorem Nv{x:ah}{xs:List ah}{y:ah}(S:bh prog w B am s.heap st)(aG:bc am s.heap x u)(ai:bc am s.heap (.int i) v)(e:listAt x st=some xs)(hlen:xs.length<1000000000)(cA:pick xs i=some y)(q:Q y st):
 yx prog w B A s am Q u v:=by
 refine dF ?_ (S.listAt aG e);intro _ _ vs m;refine dH ?_;rintro _ rfl _ _ aD aC;refine aj ?_ ai.int_inv;rintro t rfl;refine cD _ _ ⟨aD.isList.typeIs,slot_list_getitem.lookup,?_⟩;refine aj ?_ (G3 cA);intro j;refine aY ?_;intro g aO hi;refine aj ?_ (aC.get g);intro z;refine ar ?_;intro aT aN;have iS:vs.toArray[j]?=some z:=List.getElem?_toArray.trans aT;have p:=n0 S aN q;rcases hi with rfl|rfl
 ·exact wpAny_getItem_list aD.isList (Int.natCast_nonneg j) (by clear g aT iS;exact aq (.i 9223372036854775807 (.t .q (.k 1000000000)) (.i 9223372036854775807 (.t .p .q) (.G 999999997 (.T (.n .p) (.k (2^63)))))) rfl hlen aO) iS p
 ·have aV:(j:Int)-xs.length<0:=Int.sub_neg_of_lt (Int.ofNat_lt.mpr aO);have c8:(vs.toArray.size:Int)=xs.length:=congrArg Nat.cast aC.length.symm;exact wpAny_getItem_list_neg aD.isList aV (by rw[c8];exact MJ) (by clear g aT iS;exact aq (.i 9223372036854775808 (.t .q (.k 1000000000)) (.G 999999998 (.L (.k (-(2^63))) (.s (.n .p) (.n .q))))) rfl hlen) (by rw[c8,Int.sub_add_cancel];exact iS) p
theorem Nx{xs:List ah}(S:bh prog w B am s.heap st)(aG:bc am s.heap (.tup xs) u)(ai:bc am s.heap (.int i) v)(q:xs.length<1000000∧qy (pick xs i) Q st):yx prog w B A s am Q u v:=by
 refine bG ?_ aG.m6;intro a items n;refine aY ?_;rintro rfl bf aC;refine aj ?_ ai.int_inv;rintro t rfl;refine aj ?_ (gG q.2);intro y;refine ar ?_;intro e z;refine aj ?_ (Nu (Nat.lt_trans q.1 (by decide)) e);intro j;refine cH ?_;intro ae af aH bX;refine aj ?_ (aC.get af);intro BL;refine ar ?_;intro aT aN;exact cD _ _ ⟨⟨_,bf,rfl⟩,slot_tuple_getitem.lookup,PySem.P.getItem_tuple bf (by clear q e;exact gV (.B (.k (-(2^62))) .p (.L (.k (-(2^63))) .p)) rfl aH) (Int.lt_trans bX (by decide)) (by rw[qp aC];exact ae) (by rw[←Array.getElem?_toList];exact aT) (n0 S aN z)⟩
theorem Ny{x:ah}{kvs:List (Int×ah)}(S:bh prog w B am s.heap st)(aG:bc am s.heap x u)(ai:bc am s.heap (.int i) v)(e:dictAt x st=some kvs)(q:qy (fa i kvs) Q st):yx prog w B A s am Q u v:=by
 refine bG ?_ (S.dictAt aG e);intro _ _ aB;refine dH ?_;rintro _ rfl _ _ hd aP;refine aj ?_ ai.int_inv;rintro t rfl;refine aj ?_ (gG q);intro y;refine ar ?_;intro cA z;rcases G0 i aP with⟨ae,af⟩|⟨Xe,BL,ae,af,aH⟩
 ·exact gh (ae.symm.trans cA)
 ·exact cD _ _ ⟨hd.typeIs,PySem.slot_dict_getitem.lookup,wpAny_getItem_of yv hd.mapOf af (jG S aH ((Option.some.inj (ae.symm.trans cA))▸z))⟩
theorem Nz{c x:ah}(S:bh prog w B am s.heap st):∀Y:bc am s.heap c u,∀Y:bc am s.heap x v,∀Y:nc c x Q st,yx prog w B A s am Q u v:=by
 cases c with
 |tup xs=>
  cases x with
  |int i=>exact Nx S
  |_=>exact fun Y Y q=>q.elim
 |ref n=>
  cases x with
  |int i=>
   intro aG ai q;rw[BK]at q;cases e:Mine.dictAt (.ref n) st with
   |some kvs=>exact Ny S aG ai e (by rw[e]at q;exact q)
   |none=>
    rw[e]at q;refine aj ?_ (gG q);intro xs;refine ar ?_;intro e q;refine aj ?_ (gG q.2);intro y;refine ar ?_;intro cA z;exact Nv S aG ai e q.1 cA z
  |_=>exact fun Y Y q=>q.elim
 |_=>exact fun Y Y q=>q.elim
end
theorem c4{c x:Expr}{p:Pos}{br bK:b5}(bU:b3 prog w B ak k c br)(cZ:b3 prog w B ak k x bK):
 b3 prog w B ak k (.Subscript c x p) (biP nc br bK):=by
 intro A env s am loc st Q aL R S h;refine Subscript_ (dZ (bU aL R S h) fun u ba bV aU a bj bk cN bF=>?_);refine dZ (cZ aL (R.ext S bj.ext) bk bF) fun v dw fB cX b cB cw fT df=>?_;obtain⟨T,id,ck,aD,b7⟩:=Nz cw (cN.j2 bk cB) fT df;refine aj ?_ (G4 x u v);intro ops bx;exact tail_any ck aD (wpAny_mono b7 (fun Y Y z=>dC.over (bj.trans cB) z) fun Y Y z=>z) bx
noncomputable def NB:∀Y:bB,Option (List ah)
 |.list xs=>some xs
 |.raw _ ns=>some (ns.map .int)
 |_=>none
noncomputable def rT(x:ah)(st:St):Option (List ah):=(tE x st).bind NB
theorem bh.rT{am:List Addr}{h:Heap}{st:St}{x:ah}{v:Value}{xs:List ah}(S:bh prog w B am h st)(ai:bc am h x v)(e:rT x st=some xs):
 ∃a vs m,v=.ref a∧IsL h a (List.toArray vs) m∧bT am h xs vs:=by
 refine aj ?_ (Option.bind_eq_some_iff.mp e);intro o;refine ar ?_;intro e g;refine aj ?_ (vH e);intro n;refine ar ?_;rintro rfl e;refine aj ?_ ai.qo;intro a;refine ar ?_;rintro rfl az;have z:=S.obj n a _ az e;cases o with
 |list ys=>
  refine aj ?_ z;clear z;intro vs;refine ar ?_;refine aj ?_;intro m hm;intro aC;exact(cE a vs m ⟨rfl,hm,(Option.some.inj g)▸aC⟩)
 |raw o ns=>
  obtain⟨_,vs,⟨m,hm⟩,aC⟩:=z;exact(cE a vs m ⟨rfl,hm,(Option.some.inj g)▸aC⟩)
 |_=>exact gh g
theorem G5{v:ah}{st:St}{xs:List ah}(h:listAt v st=some xs):rT v st=some xs:=by
 refine aj ?_ (qw h);intro n;refine ar ?_;rintro rfl e;exact Option.bind_eq_some_iff.mpr ⟨_,e,rfl⟩
noncomputable def BN(c x:ah)(Q:ah→St→Prop)(st:St):Prop:=match x with
 |.int n=>fY (rT c st) fun xs=>(xs.length≤1000000∧(0≤n∨n=-1))∧Q (.ref st.length) (st++[.list (if 0≤n then xs.take n.toNat else xs.take (xs.length-1))])
 |_=>False
theorem NC{c x:ah}{Q:∀Y:ah,∀Y:St,Prop} {st:St} (q:BN c x Q st):∃n xs,x=.int n∧rT c st=some xs∧(xs.length≤1000000∧(0≤n∨n=-1))∧Q (.ref st.length) (st++[.list (if 0≤n then xs.take n.toNat else xs.take (xs.length-1))]):=by
 cases x with
 |int n=>
  refine aj ?_ (gG q);intro xs;refine ar ?_;intro e q;exact cD n xs ⟨rfl,e,q⟩
 |_=>exact q.elim
theorem ND{n:Int}{vs:List Value}(h:0≤n∨n=-1):slicePick vs.toArray none (some n) none=(if 0≤n then vs.take n.toNat else vs.take (vs.length-1)).toArray:=by
 by_cases aV:0≤n
 ·rw[if_pos aV];have:=slicePick_upto' vs.toArray n.toNat;rw[Int.toNat_of_nonneg aV]at this;exact this
 ·rw[if_neg aV,h.resolve_left aV];have:=slicePick_butLast vs.toArray 1 (Nat.le_refl _);rw[List.size_toArray]at this;exact this
theorem BO{c x:Expr}{p fb:Pos}{br bK:b5}(bU:b3 prog w B ak k c br)(cZ:b3 prog w B ak k x bK):
 b3 prog w B ak k (.Subscript c (.Slice none (some x) none fb) p) (biP BN br bK):=by
 intro A env s am loc st Q aL R S h;refine Subscript_ (dZ (bU aL R S h) fun u ba bV aU a bj bk cN bF=>?_);refine wpAny_Slice (wpAny_evalPart_none (wpAny_evalPart_some (dZ (cZ aL (R.ext S bj.ext) bk bF) fun v dw fB cX b cB cw fT df=>wpAny_evalPart_none ?_)));refine bZ ?_ (NC df);intro n xs;refine cH ?_;rintro rfl e av z;refine aj ?_ fT.int_inv;rintro t rfl;refine bG ?_ (cw.rT (cN.j2 bk cB) e);intro lS vs m;refine aY ?_;rintro rfl aD aC;refine aj ?_ (G4 (.Slice none (some x) none fb) (.ref lS) (.ref dw.heap.objs.size));intro ops bx;have cv:∀b cf,∀Y:dw.heap.get? b=some cf,(dw.heap.push {cls:=.type "slice",data:=.fields #[.none,.int n t,.none]}).get? b=some cf:=fun Y Y e=>Heap.get?_push_of_some _ e;have eT:c9 fB dw fB {dw with heap:=dw.heap.push {cls:=.type "slice",data:=.fields #[.none,.int n t,.none]}}:=.heap (tk:=dw.toks) (.of_keeps cv)
 have bb:bT fB dw.heap (if 0≤n then xs.take n.toNat else xs.take (xs.length-1)) (if 0≤n then vs.take n.toNat else vs.take (vs.length-1)):=by
  rw[aC.length];by_cases aV:0≤n
  ·rw[if_pos aV,if_pos aV];exact aC.take _
  ·rw[if_neg aV,if_neg aV];exact aC.take _
 have:=yn (tk:=dw.toks) (cw.keeps cv) (bb.j2 cw eT) z;rw[←ND av.2]at this
 exact tail_any (T:="list") ⟨_,cv _ _ aD,rfl⟩ slot_list_getitem.lookup (wpAny_getItem_list_slice (IsL.isList (cv _ _ aD)) (Heap.IsSliceOf.new ..) .none (.int n t) .none (by simp) (dC.over ((bj.trans cB).trans eT) this)
  (by rw[List.size_toArray,←aC.length];exact Nat.le_trans av.1 (by decide))) bx
noncomputable def fN(B:Heap)(x:Str)(v:Value):Prop:=∃fC gi,B.Ns mainGlobals fC∧B.Ns builtinsNs gi∧(fC x=some v∨(fC x=none∧gi x=some v))
theorem BP{A:Around}{env:Env}{s:Shared}{am:List Addr}{loc:Loc}{st:St}{x:Str}{p:Pos}{v:Value}{F:∀Y:Value,∀Y:Shared,Prop} (R:d7 B ak env am s.heap loc) (S:bh prog w B am s.heap st)
 (ai:ak.kinds.lookup x=some .globalImplicit) (az:fN B x v) (hd:(x==("__debug__":Str))=false) (h:F v s):wpAny (model prog w) A (eval (.Name x p) env) F bo s:=by
 refine bZ ?_ az;clear az;intro fC gi;refine aY ?_;intro g b az;have cL:s.heap.Ns env.globals fC:=by rw[R.nZ];exact g.keeps S.base
 have pn:s.heap.Ns env.builtins gi:=by rw[R.o6];exact b.keeps S.base
 refine Calls.Name_function_global R.iF (by rw[show env.kindOf x=env.scope.names.lookup x from rfl,R.lN];exact ai) ?_ hd;rcases az with az|⟨ae,af⟩
 ·exact Calls.loadGlobal_global cL az h
 ·exact Calls.loadGlobal_builtin cL ae pn af h
noncomputable def b8(prog:Program)(w:World)(B:Heap)(k:Nat)(v:Value)(S:∀Y:List ah,∀Y:(∀Y:ah,∀Y:St,Prop),∀Y:St,Prop):Prop:=
 ∀⦃A:Around⦄⦃s:Shared⦄⦃am:List Addr⦄⦃st:St⦄⦃Q:∀Y:ah,∀Y:St,Prop⦄ ⦃xs:List ah⦄ ⦃vs:List Value⦄,∀Y:gW A k,∀Y:bh prog w B am s.heap st,∀Y:bT am s.heap xs vs,∀Y:S xs Q st,
  wpAny (model prog w) A (call v vs) (dC prog w B am s Q) bo s
noncomputable def Plain(B:Heap)(v:Value):Prop:=(∃id,v=.builtin id)∨(∃T,v=.type T)∨∃a o fd,v=.ref a∧B.get? a=some o∧o.data=.func fd
theorem G6{A:Around}{s:Shared}{pos:Pos}{v:Value}{first:List Value}{x:Sem Value}{rest:List (Bool×Sem Value)}{F:∀Y:Value,∀Y:Shared,Prop} (aP:Plain B v) (NF:rest.any (·.1)=false)
 (h:wpAny (model prog w) A (spliced ((false,x)::rest)) (fun vs ba=>(∀b o,∀Y:B.get? b=some o,ba.heap.get? b=some o)∧wpAny (model prog w) A (call v (first++vs)) F bo ba) bo s):
 wpAny (model prog w) A (callWith pos v first ((false,x)::rest) []) F bo s:=by
 have fO:((false,x)::rest).any (·.1)=false:=by simpa using NF
 rcases aP with⟨id,rfl⟩|⟨T,rfl⟩|⟨a,o,fd,rfl,aJ,hd⟩
 ·exact Calls.callWith_builtin fO (Calls.evalArgs_plain (wpAny_mono h (fun Y Y z=>z.2) fun Y Y z=>z))
 ·exact PySem.callWith_type fO (Calls.evalArgs_plain (wpAny_mono h (fun Y Y z=>z.2) fun Y Y z=>z))
 ·exact Calls.callWith_function (o:=o) (fd:=fd) (Calls.evalArgs_plain (wpAny_mono h (fun Y Y z=>⟨⟨z.1 _ _ aJ,hd⟩,z.2⟩) fun Y Y z=>z))
noncomputable def callP(S:(∀Y:List ah,∀Y:(∀Y:ah,∀Y:St,Prop),∀Y:St,Prop)) (pq:lO):b5:=fun Q loc st=>pq (fun vs aU=>S vs Q aU) loc st
theorem bL{x:Str}{v:Value}{e:Expr}{r:List Expr}{np p:Pos}{pq:lO}{S:∀Y:List ah,∀Y:(∀Y:ah,∀Y:St,Prop),∀Y:St,Prop} (az:fN B x v) (aP:Plain B v) (bq:b8 prog w B k v S) (aJ:qt prog w B ak k (e::r) pq)
 (ai:autoParam (ak.kinds.lookup x=some .globalImplicit) jX._auto_1) (hd:autoParam ((x==("__debug__":Str))=false) jD._auto_1)
 (he:autoParam (∀env,starEach (e::r) env=(false,eval e env)::starEach r env) mu._auto_1) (aC:autoParam (∀pos env,(backTo pos (starEach r env)).any (·.1)=false) qd._auto_1):
 b3 prog w B ak k (.Call (.Name x np) (e::r) [] p) (callP S pq):=by
 intro A env s am loc st Q aL R fP h;refine wpAny_Call_ofName (BP R fP ai az hd ?_);have k8:=aJ (pos:=p) aL R fP h;rw[he]at k8 ⊢;refine G6 aP (aC p env) (tC k8 fun vs ba bV aU qs bj bk cN bF=>⟨bk.base,?_⟩);exact wpAny_mono (bq aL bk cN bF) (fun Y Y z=>dC.over bj z) fun Y Y z=>z
end Mine
end
section
namespace Mine
variable{prog:Program}{w:World}{B:Heap}{ak:dB}{k:Nat}
theorem yy{s:Shared}{am:List Addr}{st:St}{Q:∀Y:ah,∀Y:St,Prop} {v:Value} {pv:ah} {h':Heap} {tk:Nat} (S:bh prog w B am s.heap st) (cv:∀b cf,∀Y:s.heap.get? b=some cf,h'.get? b=some cf) (aN:bc am h' pv v) (h:Q pv st):
 dC prog w B am s Q v {s with heap:=h',toks:=tk}:=(cE am st pv ⟨.heap (.of_keeps cv),S.keeps cv,aN,h⟩)
theorem BQ{s:Shared}{am:List Addr}{st:St}{Q:∀Y:ah,∀Y:St,Prop} {a:Addr} {po:bB} {h':Heap} {tk:Nat} (S:bh prog w B am s.heap st) (cv:∀b cf,∀Y:s.heap.get? b=some cf,h'.get? b=some cf)
 (az:s.heap.get? a=none) (bx:j0 prog w (am++[a]) h' a po) (h:Q (.ref st.length) (st++[po])):dC prog w B am s Q (.ref a) {s with heap:=h',toks:=tk}:=by
 refine ar ?_ (S.add cv az bx);intro dJ x;exact(cE _ _ (.ref st.length) ⟨.heap x,dJ,.ref (by rw[←S.len];simp),h⟩)
theorem lT{h h':Heap}(cv:∀b cf,∀Y:h.get? b=some cf,h'.get? b=some cf):fR h h':=fun b o Y e=>cv b o e
theorem BR{s:Shared}{am:List Addr}{st:St}{Q:∀Y:ah,∀Y:St,Prop} {a:Addr} {vs:List Value} {xs:List ah} {n:Nat} {h':Heap} {tk:Nat} (S:bh prog w B am s.heap st) (cv:∀b cf,∀Y:s.heap.get? b=some cf,h'.get? b=some cf)
 (az:s.heap.get? a=none) (bx:IsL h' a vs.toArray n) (aN:bT am s.heap xs vs) (h:Q (.ref st.length) (st++[.list xs])):dC prog w B am s Q (.ref a) {s with heap:=h',toks:=tk}:=
 BQ (po:=.list xs) S cv az ⟨vs,⟨n,bx⟩,aN.mono (List.prefix_append _ _) (lT cv)⟩ h
theorem G7{h h':Heap}(cv:∀b cf,∀Y:h.get? b=some cf,h'.get? b=some cf):h.get? h'.objs.size=none:=by
 cases e:h.get? h'.objs.size with
 |none=>rfl
 |some o=>exact absurd (Heap.lt_size (cv _ _ e)) (Nat.lt_irrefl _)
noncomputable def ku:∀Y:ah,∀Y:St,Option (List ah)
 |.tup xs,_=>some xs
 |x,st=>listAt x st
theorem G8{x:ah}{st:St}{xs:List ah}(e:ku x st=some xs):x=.tup xs∨listAt x st=some xs:=by
 cases x with
 |tup ys=>exact .inl (congrArg ah.tup (Option.some.inj e))
 |_=>exact .inr e
theorem bh.ku{am:List Addr}{h:Heap}{st:St}{x:ah}{v:Value}{xs:List ah}(S:bh prog w B am h st)(ai:bc am h x v)(e:ku x st=some xs):
 (∃a vs m,v=.ref a∧a∈am∧IsL h a (List.toArray vs) m∧bT am h xs vs)∨(∃a items n,x=.tup xs∧v=.ref a∧IsT h a items n∧bT am h xs items.toList):=by
 rcases G8 e with rfl|e
 ·refine bG ?_ ai.m6;intro a items n;refine aY ?_;rintro rfl bf aC;exact .inr (cE a items n ⟨rfl,rfl,bf,aC⟩)
 ·refine dF ?_ (S.listAt ai e);intro _ a vs m;refine dH ?_;rintro _ rfl hm _ aD aC;exact .inl (cE a vs m ⟨rfl,List.mem_of_getElem? hm,aD,aC⟩)
noncomputable def one(f:∀Y:ah,∀Y:(∀Y:ah,∀Y:St,Prop),∀Y:St,Prop):∀Y:List ah,∀Y:(∀Y:ah,∀Y:St,Prop),∀Y:St,Prop
 |[x],Q,st=>f x Q st
 |_,_,_=>False
theorem vN{v:Value}{f:∀Y:ah,∀Y:(∀Y:ah,∀Y:St,Prop),∀Y:St,Prop} (h:∀{A:Around}{s:Shared}{am:List Addr}{st:St}{Q:∀Y:ah,∀Y:St,Prop} {x:ah} {u:Value},∀Y:gW A k,∀Y:bh prog w B am s.heap st,∀Y:bc am s.heap x u,∀Y:f x Q st,wpAny (model prog w) A (call v [u]) (dC prog w B am s Q) bo s):
 b8 prog w B k v (one f):=by
 intro A s am st Q xs vs aL S aN q;cases xs with
 |nil=>exact q.elim
 |cons x r=>
  cases r with
  |nil=>
   refine aj ?_ aN.yj;intro u;refine ar ?_;rintro rfl a;exact h aL S a q
  |cons=>exact q.elim
noncomputable def rU(x:ah)(Q:∀Y:ah,∀Y:St,Prop) (st:St):Prop:=fY (ku x st) fun xs=>xs.length<1000000000∧Q (.int xs.length) st
theorem fD:b8 prog w B k (.builtin "len") (one rU):=vN fun{_ _ _ _ Q _ _} Y S a q=>by
 refine aj ?_ (gG q);intro xs;refine aY ?_;intro e aD q;rcases S.ku a e with⟨a,vs,m,rfl,_,bf,aC⟩|⟨a,items,n,_,rfl,bf,aC⟩
 ·rw[aC.length]at aD q;refine len_list bf.isList (by rw[List.size_toArray];clear q;exact aI (.i 9223372036854775807 (.t .p (.k 1000000000)) (.G 999999998 (.T (.n .p) (.k (2^63))))) rfl aD) (jG (pv:=.int vs.length) S .int q)
 ·rw[←qp aC]at aD q;exact PySem.P.len_tuple bf (by clear q;exact aI (.i 9223372036854775807 (.t .p (.k 1000000000)) (.G 999999998 (.o (.L (.k (2^63)) (.n .p))))) rfl aD) (jG (pv:=.int items.size) S .int q)
noncomputable def intsOf(xs:List ah):Option (List Int):=n4 BJ xs
theorem yz{xs:List ah}:∀{ns:List Int},∀Y:intsOf xs=some ns,xs=ns.map .int:=by
 induction xs with
 |nil=>intro ns e;cases e;rfl
 |cons x r ih=>
  intro ns e;refine aj ?_ (Option.bind_eq_some_iff.mp e);intro i;refine ar ?_;intro ae e;refine aj ?_ (Option.map_eq_some_iff.mp e);intro is;refine ar ?_;rintro af rfl;rw[GW ae,ih af];rfl
theorem NG(ns:List Int):intsOf (ns.map .int)=some ns:=by
 induction ns with
 |nil=>rfl
 |cons n r ih=>exact GN rfl ih
noncomputable def ints2(F:∀Y:Int,∀Y:Int,Prop) (G:∀Y:Int,Prop):∀Y:List Int,Prop
 |[b]=>G b
 |[a,b]=>F a b
 |_=>False
theorem G9{F:∀Y:Int,∀Y:Int,Prop} {G:∀Y:Int,Prop} {ns:List Int} (h:ints2 F G ns):(∃b,ns=[b]∧G b)∨∃a b,ns=[a,b]∧F a b:=by
 cases ns with
 |nil=>exact h.elim
 |cons a r=>cases r with
  |nil=>exact .inl ⟨a,rfl,h⟩
  |cons b r=>cases r with
   |nil=>exact .inr (cD a b ⟨rfl,h⟩)
   |cons=>exact h.elim
noncomputable def Ha(xs:List ah)(Q:∀Y:ah,∀Y:St,Prop) (st:St):Prop:=fY (intsOf xs) (ints2 (fun a b=>Q (.range a b) st) fun b=>Q (.range 0 b) st)
theorem called_range:b8 prog w B k (.type "range") Ha:=by
 intro A s am st Q xs vs aL S aN q;refine aj ?_ (gG q);intro ns;refine ar ?_;intro e q;rw[yz e]at aN;clear e;rcases G9 q with⟨b,rfl,q⟩|⟨a,b,rfl,q⟩
 ·refine aj ?_ aN.yj;intro u;refine ar ?_;rintro rfl r;refine aj ?_ r.int_inv;rintro t rfl;exact call_range_1 (BE S (.range (IsRange.new ..)) q)
 ·refine bZ ?_ aN.Bx;intro u Hb;refine aY ?_;rintro rfl r c5;refine aj ?_ r.int_inv;rintro t rfl;refine aj ?_ c5.int_inv;rintro e8 rfl;exact call_range_2 (BE S (.range (IsRange.new ..)) q)
noncomputable def Hc(xs:List ah)(Q:∀Y:ah,∀Y:St,Prop) (st:St):Prop:=fY (intsOf xs) (ints2 (fun a b=>Q (.int (if b<a then b else a)) st) fun Y=>False)
theorem NH:b8 prog w B k (.builtin "min") Hc:=by
 intro A s am st Q xs vs aL S aN q;refine aj ?_ (gG q);intro ns;refine ar ?_;intro e q;rw[yz e]at aN;clear e;rcases G9 q with⟨b,rfl,z⟩|⟨a,b,rfl,z⟩
 ·exact z.elim
 ·refine bZ ?_ aN.Bx;intro u Hb;refine aY ?_;rintro rfl r c5;refine aj ?_ r.int_inv;rintro t rfl;refine aj ?_ c5.int_inv;rintro e8 rfl;refine min_two_ints aL.1 fun h' tk cv=>?_;by_cases h:b<a
  ·rw[if_pos h]at z ⊢;exact yy S cv .int z
  ·rw[if_neg h]at z ⊢;exact yy S cv .int z
theorem NI(ns:List Int)(j:Nat):∀Y:j≤ns.length,preSum (fun i=>ns.getD i 0) j=(ns.take j).sum:=by
 induction j with
 |zero=>intro _;rw[List.take_zero];rfl
 |succ j ih=>
  intro h;have aO:j<ns.length:=h;rw[preSum,ih (Nat.le_of_lt aO),List.take_add_one,List.sum_append];simp[List.getD,aO]
noncomputable def Hd(x:ah)(Q:∀Y:ah,∀Y:St,Prop) (st:St):Prop:=fY ((listAt x st).bind intsOf) fun ns=>Q (.int ns.sum) st
theorem He:b8 prog w B k (.builtin "sum") (one Hd):=vN fun{_ s _ _ Q _ _} aL S a q=>by
 refine aj ?_ (gG q);intro ns;refine ar ?_;intro e q;refine aj ?_ (Option.bind_eq_some_iff.mp e);intro xs;refine ar ?_;intro e aW;refine dF ?_ (S.listAt a e);intro n lS us m;refine dH ?_;rintro _ rfl hm _ aD aC;rw[yz aW]at aC;have hi:=aC.ints;have bC:lS<s.heap.objs.size:=S.lt (List.mem_of_getElem? hm);have hlen:us.length=ns.length:=by rw[←aC.length,List.length_map]
 refine call_sum_walkG (wpAny_pyIter_list aD.isList (vn s.heap.objs.size _ _ us.toArray.size _ _ (fun i=>ns.getD i 0) ⟨rfl,Walks.list (A:=Around.in1 _) aL.1 _ lS (Nat.ne_of_lt bC) us.toArray,⟨⟨_,Heap.get?_push_size _ rfl,rfl,rfl⟩,aD.isList.push _⟩,?_,?_,?_⟩))
 ·intro b av;rw[Heap.size_push];rcases List.mem_cons.mp av with rfl|av
  ·exact Nat.lt_succ_self _
  ·rw[List.mem_singleton.mp av];exact Nat.lt_succ_of_lt bC
 ·intro i v e;have aH:us[i]?=some v:=List.getElem?_toArray.symm.trans e;have fV:i<ns.length:=hlen▸(List.getElem?_eq_some_iff.mp aH).1;refine aj ?_ (hi.get i ns[i] (List.getElem?_eq_getElem fV));intro t bf;have g:ns.getD i 0=ns[i]:=by rw[List.getD_eq_getElem?_getD,List.getElem?_eq_getElem fV];rfl
  exact⟨t,(Option.some.inj (aH.symm.trans bf)).trans (congrArg (Value.int · t) g.symm)⟩
 ·intro h' tk e8 cv;have yC:∀b cf,∀Y:s.heap.get? b=some cf,h'.get? b=some cf:=fun b cf e=>cv b cf (by simp;exact Nat.ne_of_lt (Heap.lt_size e)) (Heap.get?_push_of_some _ e)
  have cz:preSum (fun i=>ns.getD i 0) us.toArray.size=ns.sum:=by
   rw[List.size_toArray,hlen,NI ns _ (Nat.le_refl _),List.take_length]
  rw[cz];exact yy S yC .int q
noncomputable def yD(x:ah)(Q:∀Y:ah,∀Y:St,Prop) (st:St):Prop:=fY (ku x st) fun xs=>xs.length≤1000000∧Q (.tup xs) st
theorem called_tuple:b8 prog w B k (.type "tuple") (one yD):=vN fun{_ s _ _ Q _ _} Y S a q=>by
 refine aj ?_ (gG q);intro xs;refine aY ?_;intro e aD z;rcases S.ku a e with⟨lS,vs,m,rfl,_,bf,aC⟩|⟨lS,items,n,rfl,rfl,bf,aC⟩
 ·refine call_tuple_list bf.isList (fun h' cv=>?_) (by rw[List.size_toArray,←aC.length];exact Nat.le_trans aD (by decide));have yC:∀b cf,∀Y:s.heap.get? b=some cf,(h'.push {cls:=.type "tuple",data:=.seq vs.toArray}).get? b=some cf:=fun b cf e=>Heap.get?_push_of_some _ (cv b cf e);exact yy S yC (.tup (Heap.get?_push_size _ rfl) (aC.mono (List.prefix_refl _) (lT yC))) z
 ·exact call_tuple_same ⟨_,bf,rfl,_,rfl⟩ (n0 S a z)
noncomputable def BS(x:ah)(Q:∀Y:ah,∀Y:St,Prop) (st:St):Prop:=fY (ku x st) fun xs=>xs.length≤1000000∧Q (.ref st.length) (st++[.list xs])
theorem called_list:b8 prog w B k (.type "list") (one BS):=vN fun Y S a q=>by
 refine aj ?_ (gG q);intro xs;refine aY ?_;intro e aD z;rcases S.ku a e with⟨lS,vs,m,rfl,_,bf,aC⟩|⟨lS,items,n,_,rfl,bf,aC⟩
 ·exact call_list_seq _ (.inl rfl) bf rfl rfl (fun h' c cv mz=>BR S cv (lQ _) mz aC z) (by rw[List.size_toArray,←aC.length];exact Nat.le_trans aD (by decide))
 ·exact call_list_seq lS (.inr rfl) bf rfl rfl (fun h' c cv mz=>BR (vs:=items.toList) S cv (lQ _) mz aC z) (by rw[qp aC];exact Nat.le_trans aD (by decide))
end Mine
end
section
namespace Mine
variable{prog:Program}{w:World}{B:Heap}{ak:dB}{k:Nat}
inductive gj where
 |next|brk|cont|ret (v:ah)
inductive tK(am:List Addr)(h:Heap):∀Y:gj,∀Y:Flow,Prop
 |next:tK am h .next .next
 |brk:tK am h .brk .brk
 |cont:tK am h .cont .cont
 |ret {x v}:∀Y:bc am h x v,tK am h (.ret x) (.ret v)
structure Hf(O am:List Addr)(h:Heap)(aX:List Addr)(h':Heap):Prop where
 pre:am <+: aX
 keep:∀b o,∀Y:b∉am,∀Y:b∉O,∀Y:h.get? b=some o,h'.get? b=some o
 fresh:∀a∈aX,∀Y:a∉am,h.get? a=none
theorem Ext.xs{O am h aX h'}(x:Ext am h aX h'):Hf O am h aX h':=⟨x.pre,fun b o ae Y e=>x.keep b o ae e,x.fresh⟩
structure iT(O am:List Addr)(s:Shared)(aX:List Addr)(s':Shared):Prop where
 eq:∃h' tk d,s'={s with heap:=h',toks:=tk,drawn:=d}
 xs:Hf O am s.heap aX s'.heap
 own:∀a∈O,∀Y:(∃o,s.heap.get? a=some o),∃o,s'.heap.get? a=some o
theorem iT.refl{O am s}:iT O am s am s:=⟨(cE _ _ _ rfl),(Ext.refl (am:=am) (h:=s.heap)).xs,fun Y Y h=>h⟩
theorem iT.trans{O am s aX s' iu fj}(x:iT O am s aX s')(y:iT O aX s' iu fj):iT O am s iu fj:=by
 obtain⟨⟨h,t,bP,rfl⟩,a,c⟩:=x;obtain⟨⟨h',e8,Xf,rfl⟩,b,d⟩:=y;refine⟨(cE _ _ _ rfl),⟨a.pre.trans b.pre,fun z o ae af e=>?_,fun z aT az=>?_⟩,fun z aT h=>d z aT (c z aT h)⟩
 ·refine b.keep z o (fun hm=>?_) af (a.keep z o ae af e);rw[a.fresh z hm ae]at e;cases e
 ·by_cases hm:z∈aX
  ·exact a.fresh z hm az
  ·cases e:s.heap.get? z with
   |none=>rfl
   |some o=>
    by_cases bx:z∈O
    ·refine aj ?_ (c z bx ⟨o,e⟩);intro cf cA;have:=b.fresh z aT hm;rw[show(_:Shared).heap.get? z=some cf from cA]at this;cases this
    ·have:=b.fresh z aT hm;rw[show(_:Shared).heap.get? z=some o from a.keep z o az bx e]at this;cases this
theorem c9.k9{env:Env}{am s aX s' st}{loc:Loc}(R:d7 B ak env am s.heap loc)(_S:bh prog w B am s.heap st)(x:c9 am s aX s'):iT (Own env) am s aX s':=
 ⟨x.eq,x.ext.xs,fun a aJ⟨o,e⟩=>⟨o,x.ext.keep a o (R.own a aJ).2.1 e⟩⟩
noncomputable def nf(prog:Program)(w:World)(B:Heap)(ak:dB)(env:Env)(am:List Addr)(s:Shared)(Q:∀Y:gj,∀Y:Loc,∀Y:St,Prop) (f:Flow) (s':Shared):Prop:=
 ∃aX ao fk dD,iT (Own env) am s aX s'∧bh prog w B aX s'.heap ao∧d7 B ak env aX s'.heap fk∧tK aX s'.heap dD f∧Q dD fk ao
noncomputable abbrev d8:=∀Y:(∀Y:gj,∀Y:Loc,∀Y:St,Prop),∀Y:Loc,∀Y:St,Prop
noncomputable def gx(prog:Program)(w:World)(B:Heap)(ak:dB)(k:Nat)(b:Stmt)(P:d8):Prop:=
 ∀⦃A:Around⦄⦃env:Env⦄⦃s:Shared⦄⦃am:List Addr⦄⦃loc:Loc⦄⦃st:St⦄⦃Q:∀Y:gj,∀Y:Loc,∀Y:St,Prop⦄,∀Y:gW A k,∀Y:d7 B ak env am s.heap loc,∀Y:bh prog w B am s.heap st,∀Y:P Q loc st,
  wpAny (model prog w) A (exec b env) (nf prog w B ak env am s Q) bo s
noncomputable def ky(prog:Program)(w:World)(B:Heap)(ak:dB)(k:Nat)(b:List Stmt)(P:d8):Prop:=
 ∀⦃A:Around⦄⦃env:Env⦄⦃s:Shared⦄⦃am:List Addr⦄⦃loc:Loc⦄⦃st:St⦄⦃Q:∀Y:gj,∀Y:Loc,∀Y:St,Prop⦄,∀Y:gW A k,∀Y:d7 B ak env am s.heap loc,∀Y:bh prog w B am s.heap st,∀Y:P Q loc st,
  wpAny (model prog w) A (execs b env) (nf prog w B ak env am s Q) bo s
theorem nf.over{env:Env}{am aX:List Addr}{s s' dw:Shared}{Q:∀Y:gj,∀Y:Loc,∀Y:St,Prop} {f:Flow} (x:iT (Own env) am s aX s') (p:nf prog w B ak env aX s' Q f dw):nf prog w B ak env am s Q f dw:=by
 refine dF ?_ p;clear p;intro iu ao fk dD;refine ar ?_;intro y r;exact(dX iu ao fk dD ⟨x.trans y,r⟩)
theorem yE{A:Around}{env:Env}{s:Shared}{am:List Addr}{m:Sem Flow}{Q:∀Y:gj,∀Y:Loc,∀Y:St,Prop} {F:∀Y:Flow,∀Y:Shared,Prop} (h:wpAny (model prog w) A m (nf prog w B ak env am s Q) bo s)
 (k:∀f s' aX ao fk dD,∀Y:iT (Own env) am s aX s',∀Y:bh prog w B aX s'.heap ao,∀Y:d7 B ak env aX s'.heap fk,∀Y:tK aX s'.heap dD f,∀Y:Q dD fk ao,F f s'):wpAny (model prog w) A m F bo s:=
 wpAny_mono h (fun v s' aP=>by refine dF ?_ aP;clear aP;intro aX ao fk dD;refine eY ?_;intro a b c d e;exact k v s' aX ao fk dD a b c d e) fun Y Y x=>x
theorem NJ{h:Heap}{a:Addr}{m ng:∀Y:Str,Option Value} (x:h.Ns a m) (y:h.Ns a ng):m=ng:=by
 refine bG ?_ x;clear x;intro o a9 ep;refine cH ?_;intro ae af _ aH;refine bG ?_ y;clear y;intro cf Xg Xh;refine cH ?_;intro g1 g2 _ g3;rw[ae]at g1;cases g1;rw[af]at g2;cases g2
 funext z
 rw[←aH,g3]
theorem bh.gY{am:List Addr}{h h':Heap}{st:St}{L:Addr}(S:bh prog w B am h st)(hs:∀b o,∀Y:b≠L,∀Y:h.get? b=some o,h'.get? b=some o) (eQ:(∃o,h.get? L=some o∧¬Kept o)∧L∉am∧B.get? L=none):
 bh prog w B am h' st∧fR h h':=by
 refine aY ?_ eQ;clear eQ;refine aj ?_;intro vO;refine ar ?_;intro NK aK;intro hm av;have du:fR h h':=fun b o bx e=>hs b o (fun q=>by rw[q,NK]at e;cases e;exact aK bx) e;refine⟨⟨S.len,S.nodup,S.off,fun b o e=>hs b o (fun q=>by rw[q,av]at e;cases e) (S.base b o e),fun n a o ae af=>?_⟩,du⟩;exact(S.obj n a o ae af).mono (List.prefix_refl _) du fun bO e=>hs a bO (fun q=>hm (q▸List.mem_of_getElem? ae)) e
theorem BT{A:Around}{env:Env}{s:Shared}{am:List Addr}{loc:Loc}{st:St}{x:Str}{i:Nat}{pv:ah}{v:Value}{F:∀Y:Unit,∀Y:Shared,Prop} (R:d7 B ak env am s.heap loc) (S:bh prog w B am s.heap st)
 (ai:ak.vars.lookup x=some i) (nh:ak.kinds.lookup x≠some .free) (aN:bc am s.heap pv v)
 (h:∀(L:Addr) s',∀Y:(L=env.locals∨(x,L)∈env.cells),∀Y:(∃h' tk d,s'={s with heap:=h',toks:=tk,drawn:=d}),∀Y:(∀b o,∀Y:b≠L,∀Y:s.heap.get? b=some o,s'.heap.get? b=some o),∀Y:(∃o,s'.heap.get? L=some o∧¬Kept o),∀Y:bh prog w B am s'.heap st,∀Y:d7 B ak env am s'.heap (setV loc i pv),F () s'):wpAny (model prog w) A (storeName env x v) F bo s:=by
 have NL:env.kindOf x=ak.kinds.lookup x:=by rw[←R.lN];rfl
 refine aj ?_ (R.var x i ai);intro Xi;refine ar ?_;intro b6 _
 have fin:∀(L:Addr)(s':Shared),∀Y:(L=env.locals∨(x,L)∈env.cells),∀Y:(∃h' tk d,s'={s with heap:=h',toks:=tk,drawn:=d}),∀Y:(∀b o,∀Y:b≠L,∀Y:s.heap.get? b=some o,s'.heap.get? b=some o),∀Y:(∃o,s'.heap.get? L=some o∧¬Kept o),∀Y:(∃m,s'.heap.Ns env.locals m),
  ∀Y:rM env s'.heap x (some v),∀Y:(∀y u,∀Y:y≠x,∀Y:ak.vars.lookup y≠none,∀Y:rM env s.heap y u,rM env s'.heap y u),F () s':=by
  intro L s' yF he hs lg gk mz hold
  have eQ:L∈Own env:=by
   rcases yF with rfl|hm
   ·exact List.mem_cons_self ..
   ·simp only[Own,List.mem_cons,List.mem_map];exact .inr ⟨_,hm,rfl⟩
  refine ar ?_ (S.gY hs (R.own L eQ));intro dJ du;refine h L s' yF he hs lg dJ ?_
  ·refine⟨R.iF,R.lN,R.nZ,R.o6,R.yl,R.inj,gk,fun a aJ=>?_,R.apart,R.locals,fun y j au=>?_⟩
   ·refine aY ?_ (R.own a aJ);refine aj ?_;intro o;refine ar ?_;intro e aK;intro af aH;refine⟨?_,af,aH⟩;by_cases q:a=L
    ·rw[q];exact lg
    ·exact⟨o,hs a o q e,aK⟩
   ·by_cases pw:y=x
    ·subst pw;have iG:i=j:=by rw[ai]at au;exact Option.some.inj au
     subst iG;refine⟨some v,mz,fun u e=>⟨v,rfl,?_⟩⟩;rw[Nd _ _ _ _ e];exact aN.mono (List.prefix_refl _) du
    ·refine aj ?_ (R.var y j au);intro u;refine ar ?_;intro vP aD;refine⟨u,hold y u pw (by rw[au];simp) vP,fun yG e=>?_⟩;have iG:i≠j:=fun q=>pw (R.inj y x j au (q▸ai));rw[Nc _ _ _ _ iG]at e;refine aj ?_ (aD yG e);intro z;refine ar ?_;intro q r;exact⟨z,q,r.mono (List.prefix_refl _) du⟩
 rcases b6 with⟨aK,m,az,hm⟩|⟨aK,c,aG,kZ⟩
 ·refine wpAny_storeName_local aK az (fun h' nX eg=>?_) (by rw[R.iF];rfl);refine fin env.locals _ (.inl rfl) (cE _ _ _ rfl) (fun b o av e=>eg.extBut b o av e) ?_ ⟨_,nX⟩ (.inl ⟨aK,_,nX,by simp⟩) fun y u pw Y vP=>?_
  ·refine bG ?_ nX;clear nX;intro o a9 ep;refine aY ?_;intro e d _;exact⟨o,e,GH d⟩
  ·rcases vP with⟨gy,ng,tL,lh⟩|⟨gy,c,aG,o,bx,hd⟩
   ·have:=NJ az tL;subst this;exact .inl ⟨gy,_,nX,by simpa [pw]using lh⟩
   ·exact .inr ⟨gy,c,aG,o,eg.extBut c o (R.locals _ (mem_of_lookup aG)) bx,hd⟩
 ·rcases aK with aK|aK
  ·refine wpAny_storeName_cell R.iF aK aG kZ fun h' BU eg=>?_;have jc:(x,c)∈env.cells:=mem_of_lookup aG;refine fin c _ (.inr jc) (cE _ _ _ rfl) (fun b o av e=>eg.extBut b o av e) ?_ ?_ (.inr ⟨.inl aK,c,aG,BU⟩) fun y u pw Y vP=>?_
   ·refine aj ?_ BU;clear BU;intro o;refine ar ?_;intro e d;exact⟨o,e,Na d⟩
   ·refine aj ?_ R.ns;intro m az;exact⟨m,az.sameBut eg (Ne.symm (R.locals _ jc))⟩
   ·rcases vP with⟨gy,ng,tL,lh⟩|⟨gy,iw,kY,o,bx,hd⟩
    ·exact .inl ⟨gy,ng,tL.sameBut eg (Ne.symm (R.locals _ jc)),lh⟩
    ·exact .inr ⟨gy,iw,kY,o,eg.extBut iw o (fun q=>pw (name_of_addr R.apart (mem_of_lookup kY) (q▸jc))) bx,hd⟩
  ·rw[NL]at aK;exact absurd aK nh
theorem rV{A:Around}{env:Env}{s:Shared}{am:List Addr}{loc:Loc}{st:St}{x:Str}{i:Nat}{pv:ah}{v:Value}{F:∀Y:Unit,∀Y:Shared,Prop} (R:d7 B ak env am s.heap loc) (S:bh prog w B am s.heap st)
 (ai:ak.vars.lookup x=some i) (nh:ak.kinds.lookup x≠some .free) (aN:bc am s.heap pv v)
 (h:∀s',∀Y:iT (Own env) am s am s',∀Y:bh prog w B am s'.heap st,∀Y:d7 B ak env am s'.heap (setV loc i pv),F () s'):wpAny (model prog w) A (storeName env x v) F bo s:=by
 refine BT R S ai nh aN fun L s' yF he hs lg dJ kA=>?_
 have eQ:L∈Own env:=by
  rcases yF with rfl|hm
  ·exact List.mem_cons_self ..
  ·simp only[Own,List.mem_cons,List.mem_map];exact .inr ⟨_,hm,rfl⟩
 refine h s' ⟨he,⟨List.prefix_refl _,fun b o Y af e=>hs b o (fun q=>af (q▸eQ)) e,fun Y ae af=>absurd ae af⟩,fun a aJ⟨o,e⟩=>?_⟩ dJ kA;by_cases q:a=L
 ·refine aj ?_ lg;clear lg;intro cf;refine ar ?_;intro cA _;exact⟨cf,q▸cA⟩
 ·exact⟨o,hs a o q e⟩
noncomputable def nilS:d8:=fun Q loc st=>Q .next loc st
theorem bM:ky prog w B ak k [] nilS:=by
 intro A env s am loc st Q aL R S h;exact wpAny_execs_nil (dX am st loc .next ⟨.refl,S,R,.next,h⟩)
noncomputable def rW(P:d8)(Q:∀Y:gj,∀Y:Loc,∀Y:St,Prop):∀Y:gj,∀Y:Loc,∀Y:St,Prop
 |.next,loc,st=>P Q loc st
 |f,loc,st=>Q f loc st
theorem NM{b:Stmt}{r:List Stmt}{br bK:d8}(bU:gx prog w B ak k b br)(cZ:ky prog w B ak k r bK):ky prog w B ak k (b::r) fun Q loc st=>br (rW bK Q) loc st:=by
 intro A env s am loc st Q aL R S h;refine wpAny_execs_cons (yE (bU aL R S h) fun f ba bV aU BV dD bj bk gZ NN bF=>?_);cases NN with
 |next=>exact wpAny_mono (cZ aL gZ bk bF) (fun Y Y z=>nf.over bj z) fun Y Y z=>z
 |brk=>exact(dX bV aU BV .brk ⟨bj,bk,gZ,.brk,bF⟩)
 |cont=>exact(dX bV aU BV .cont ⟨bj,bk,gZ,.cont,bF⟩)
 |ret v=>exact(dX bV aU BV (.ret _) ⟨bj,bk,gZ,.ret v,bF⟩)
noncomputable def retS(P:b5):d8:=fun Q loc st=>P (fun v aU=>Q (.ret v) loc aU) loc st
theorem eF{e:Expr}{p:Pos}{P:b5}(h:b3 prog w B ak k e P):gx prog w B ak k (.Return (some e) p) (retS P):=by
 intro A env s am loc st Q aL R S q;exact wpAny_Return_some (dZ (h aL R S q) fun v ba bV aU pv bj bk cN bF=>(dX bV aU loc _ ⟨bj.k9 R S,bk,R.ext S bj.ext,.ret cN,bF⟩))
theorem NO{p:Pos}:gx prog w B ak k (.Continue p) fun Q loc st=>Q .cont loc st:=by
 intro A env s am loc st Q aL R S q;exact wpAny_Continue (dX am st loc _ ⟨.refl,S,R,.cont,q⟩)
theorem NP{t:Expr}{b o:List Stmt}{p:Pos}{P:e9}{br bK:d8}(h:jF prog w B ak k t P)(bU:ky prog w B ak k b br)(cZ:ky prog w B ak k o bK):
 gx prog w B ak k (.If t b o p) fun Q loc st=>P (fun c aU=>if c=true then br Q loc aU else bK Q loc aU) loc st:=by
 intro A env s am loc st Q aL R S q;refine wpAny_If (rN (h aL R S q) fun c ba bV aU bj bk bF=>?_);cases c with
 |true=>exact wpAny_mono (bU aL (R.ext S bj.ext) bk bF) (fun Y Y z=>nf.over (bj.k9 R S) z) fun Y Y z=>z
 |false=>exact wpAny_mono (cZ aL (R.ext S bj.ext) bk bF) (fun Y Y z=>nf.over (bj.k9 R S) z) fun Y Y z=>z
noncomputable def exprS(P:b5):d8:=fun Q loc st=>P (fun v aU=>v=.none∧Q .next loc aU) loc st
theorem NQ{env:Env}(h:env.scope.kind=.function):interactive env=false:=by unfold interactive;rw[h];rfl
theorem jt{e:Expr}{p:Pos}{P:b5}(h:b3 prog w B ak k e P)(hs:autoParam (∀env,swapsWith e none p.line env=pure false) mu._auto_1):
 gx prog w B ak k (.Expr e p) (exprS P):=by
 intro A env s am loc st Q aL R S q;refine wpAny_Expr (dZ (h aL R S q) fun v ba bV aU pv bj bk cN bF=>?_) (NQ R.iF) (hs env);refine ar ?_ bF;clear bF;rintro rfl bF;cases cN
 exact(dX bV aU loc _ ⟨bj.k9 R S,bk,R.ext S bj.ext,.next,bF⟩)
noncomputable def asgS(i:Nat)(P:b5):d8:=fun Q loc st=>P (fun v aU=>Q .next (setV loc i v) aU) loc st
theorem dg{x:Str}{e:Expr}{p fb:Pos}{i:Nat}{P:b5}(h:b3 prog w B ak k e P)(ai:autoParam (ak.vars.lookup x=some i) jX._auto_1)(nh:autoParam (ak.kinds.lookup x≠some .free) jD._auto_1)
 (hs:autoParam (∀env:Env,∀Y:env.scope.names=ak.kinds,swapsWith e (some (.Name x fb)) p.line env=pure false) qd._auto_1):
 gx prog w B ak k (.Assign [.Name x fb] e p) (asgS i P):=by
 intro A env s am loc st Q aL R S q;refine wpAny_Assign_Name (dZ (h aL R S q) fun v ba bV aU pv bj bk cN bF=>?_) (hs env R.lN);exact rV (R.ext S bj.ext) bk ai nh cN fun dw cB cw fZ=>(dX bV aU _ _ ⟨(bj.k9 R S).trans cB,cw,fZ,.next,bF⟩)
end Mine
end
section
namespace Mine
variable{prog:Program}{w:World}{B:Heap}{ak:dB}{k:Nat}
noncomputable def only?:∀Y:List ah,Option ah
 |[x]=>some x
 |_=>none
theorem NR{xs:List ah}{x:ah}(h:only? xs=some x):xs=[x]:=by
 cases xs with
 |nil=>exact gh h
 |cons y r=>cases r with
  |nil=>exact congrArg (fun z=>[z]) (Option.some.inj h)
  |cons=>exact gh h
noncomputable def yH:∀Y:ah,∀Y:ah,∀Y:(∀Y:ah,∀Y:St,Prop),∀Y:St,Prop
 |.int a,.int b,Q,st=>mulQ a b Q st
 |.ref m,.int b,Q,st=>fY ((listAt (.ref m) st).bind only?) fun x=>(0≤b∧b≤100000)∧Q (.ref st.length) (st++[.list (List.replicate b.toNat x)])
 |_,_,_,_=>False
theorem NS(x:Value)(n:Nat):∀(a:Array Value),List.foldl (fun bW cy=>bW++cy) a (List.replicate n #[x])=a++(List.replicate n x).toArray:=by
 induction n with
 |zero=>intro a;exact(Array.append_empty (xs:=a)).symm
 |succ n ih=>
  intro a;rw[List.replicate_succ,List.foldl_cons,ih];apply Array.ext';simp[List.replicate_succ]
theorem bT.replicate{am:List Addr}{h:Heap}{x:ah}{v:Value}(aN:bc am h x v)(n:Nat):bT am h (List.replicate n x) (List.replicate n v):=by
 induction n with
 |zero=>exact .nil
 |succ n ih=>exact .cons aN ih
theorem mul_list{A:Around}{s:Shared}{am:List Addr}{st:St}{Q:∀Y:ah,∀Y:St,Prop} {m:Nat} {b:Int} {u v:Value} (S:bh prog w B am s.heap st) (aJ:bc am s.heap (.ref m) u) (av:bc am s.heap (.int b) v) (q:yH (.ref m) (.int b) Q st):
 wpAny (model prog w) A (binaryOp .Mult u v) (dC prog w B am s Q) bo s:=by
 refine aj ?_ (gG q);intro x;refine aY ?_;intro e h q;refine aj ?_ (Option.bind_eq_some_iff.mp e);intro xs;refine ar ?_;intro e cA;refine dF ?_ (S.listAt aJ e);intro _ a vs n;refine dH ?_;rintro _ rfl _ _ aD ai;refine aj ?_ av.int_inv;rintro t rfl;rw[NR cA]at ai;refine aj ?_ ai.yj;intro y;refine ar ?_;rintro rfl au;have p:=yn (tk:=s.toks) S (bT.replicate au b.toNat) q
 refine wpAny_binaryOp_repeat_ref (T:="list") (U:="int") (by decide) ⟨_,aD,rfl⟩ (fun s'=>typeIs_int s' b t) noFill_list_mul F.fills_int_mul F.slot_int_rmul repeat_list F.slot_int_index.lookup
  (call_meets F.slot_int_rmul (typeIs_int s b t) F.entry_int_rmul (F.args_int_rmul_2 _ _) (int___rmul___int_list b t a #[y] n)
    ⟨aD,rfl,⟨_,aD,rfl⟩,call_meets F.slot_list_mul ⟨_,aD,rfl⟩ F.entry_list_mul (F.args_list_mul_2 _ _) (AutoListH.list___mul___list_int_3 a #[y] n b t (by clear p;simp[Builtin.List.listFitsIndex];exact⟨gV (.A (.k 0) .p (.L (.k (-9223372036854775808)) .p)) rfl h.1,gV (.A .p (.k 100000) (.T .p (.k 9223372036854775808))) rfl h.2⟩) (by clear p;simp;exact gV (.A .p (.k 100000) (.L .p (.k 1152921504606846975))) rfl h.2) (by clear p;simp[Builtin.List.listTooLong,sizeLine];exact gV (.A .p (.k 100000) (.L .p (.k 16777216))) rfl h.2)) ⟨aD,?_⟩⟩)
 simp only[List.isEmpty_toArray,List.isEmpty_cons,Bool.false_eq_true,if_false,NS];simpa using p
theorem vQ:mw prog w B k .Mult yH:=by
 intro A s am st Q a b u v _ S;cases a with
 |int i=>cases b with
  |int j=>
   intro aJ av q;refine aj ?_ aJ.int_inv;rintro t rfl;refine aj ?_ av.int_inv;rintro e8 rfl;refine PySem.P.mul_int (jG S .int q.2) (IntMulOk.of_left ?_);have h:=q.1.1;clear q aJ av;exact intBits_le_64 (by lia) (by lia)
  |_=>exact fun Y Y q=>q.elim
 |ref m=>cases b with
  |int j=>exact mul_list S
  |_=>exact fun Y Y q=>q.elim
 |_=>exact fun Y Y q=>q.elim
noncomputable def BW(P:e9)(br:d8):d8:=fun Q loc st=>∃(I:∀Y:Nat,∀Y:Loc,∀Y:St,Prop) (n:Nat),I n loc st∧∀n loc st,∀Y:I n loc st,
 P (fun c aU=>if c=true then br (fun dD fk ao=>match dD with
     |.next|.cont=>∃m,m<n∧I m fk ao
     |.brk=>Q .next fk ao
     |.ret v=>Q (.ret v) fk ao) loc aU
   else Q .next loc aU) loc st
noncomputable abbrev WhileI(prog:Program)(w:World)(B:Heap)(ak:dB)(env:Env)(s:Shared)(am:List Addr)(I:∀Y:Nat,∀Y:Loc,∀Y:St,Prop) (n:Nat) (s':Shared):Prop:=∃aX ao fk,iT (Own env) am s aX s'∧bh prog w B aX s'.heap ao∧d7 B ak env aX s'.heap fk∧I n fk ao
theorem BX{t:Expr}{b:List Stmt}{p:Pos}{P:e9}{br:d8}(h:jF prog w B ak k t P)(bU:ky prog w B ak k b br):gx prog w B ak k (.While t b [] p) (BW P br):=by
 intro A env s am loc st Q aL R S q;refine bZ ?_ q;clear q;intro I n;refine ar ?_;intro aV turn;refine wpAny_While (codeAny_whileLoop (WhileI prog w B ak env s am I) ?_ n (cE am st loc ⟨.refl,S,R,aV⟩));intro n s';refine bG ?_;intro aX ao fk;refine cH ?_;intro e8 dJ kA bE;refine never (rN (h aL kA dJ (turn n fk ao bE)) fun c ba bV aU bj bk bF=>?_);have cB:=e8.trans (bj.k9 kA dJ);have gZ:=kA.ext dJ bj.ext;cases c with
 |false=>
  rw[if_neg Bool.false_ne_true]at bF ⊢;exact wpAny_execs_nil (dX bV aU fk .next ⟨cB,bk,gZ,.next,bF⟩)
 |true=>
  rw[if_pos rfl]at bF ⊢;refine never (yE (bU aL gZ bk bF) fun f dw fB cX pA dD eT cw fZ BY df=>?_);have j3:=cB.trans eT;cases BY with
  |next=>refine aj ?_ df;clear df;intro m;refine ar ?_;intro hm rX;exact⟨m,hm,fB,cX,pA,j3,cw,fZ,rX⟩
  |cont=>refine aj ?_ df;clear df;intro m;refine ar ?_;intro hm rX;exact⟨m,hm,fB,cX,pA,j3,cw,fZ,rX⟩
  |brk=>exact(dX fB cX pA .next ⟨j3,cw,fZ,.next,df⟩)
  |ret aN=>exact(dX fB cX pA (.ret _) ⟨j3,cw,fZ,.ret aN,df⟩)
theorem yI{i:Int}(h:-2000000≤i)(h':i≤2000000):Builtin.Range.rangeFitsLong i=true:=by
 show(decide (-(2^63)≤i)&&decide (i<2^63))=true;rw[decide_eq_true (Int.le_trans (by decide) h),decide_eq_true (Int.lt_of_le_of_lt h' (by decide))];rfl
theorem yJ{a b:Bool}(h:a=true)(h':b=true):(a&&b)=true:=by rw[h,h'];rfl
theorem Hg{a b:Int}:Builtin.Range.rangeSize a b 1=(((b-a).toNat:Nat):Int):=by simp only[Builtin.Range.rangeSize];split<;>lia
theorem NT{a b:Int}(ae:-1000000≤a)(af:a≤1000000)(aH:-1000000≤b)(bX:b≤1000000):Builtin.Range.small a b 1=true:=by
 have e:(if(1:Int)>0 then Builtin.Range.rangeFitsLong (b+(1-1))else Builtin.Range.rangeFitsLong (b+(1+1)))=true:=by
  rw[if_pos (by decide)];exact yI (by exact gV (.A (.k (-1000000)) .p (.L (.k (-2000000)) (.a .p (.s (.k 1) (.k 1))))) rfl aH) (by exact gV (.A .p (.k 1000000) (.L (.a .p (.s (.k 1) (.k 1))) (.k 2000000))) rfl bX)
 exact yJ (yJ (yJ (yJ (yI (by exact gV (.A (.k (-1000000)) .p (.L (.k (-2000000)) .p)) rfl ae) (by exact gV (.A .p (.k 1000000) (.L .p (.k 2000000))) rfl af)) (yI (by exact gV (.A (.k (-1000000)) .p (.L (.k (-2000000)) .p)) rfl aH) (by exact gV (.A .p (.k 1000000) (.L .p (.k 2000000))) rfl bX))) rfl) (Hg▸yI (by exact aI (.L (.k (-2000000)) (.n .p)) rfl) (by exact MK ae bX))) (by rw[e];exact Bool.or_true _)
noncomputable def ju:∀Y:ah,∀Y:St,Option (List ah)
 |.tup xs,_=>some xs
 |.range a b,_=>if-1000000≤a∧a≤1000000∧-1000000≤b∧b≤1000000 then some ((List.range (b-a).toNat).map fun i=>.int (a+(i:Nat)))else none
 |x,st=>listAt x st
noncomputable def iH(am:List Addr)(h:Heap)(I:Addr):∀Y:ah,∀Y:Nat,Prop
 |.tup xs,i=>∃a items n,h.IsTupleIter I a i∧IsT h a items n∧bT am h xs items.toList
 |.ref n,i=>∃a,am[n]?=some a∧h.IsListIter I a i
 |.range a b,i=>IsRangeIter h I (a+(i:Nat)) ((((b-a).toNat:Nat):Int)-(i:Nat)) 1
 |_,_=>False
theorem iH.at_{am aX:List Addr}{h h':Heap}{I:Addr}{x:ah}{i:Nat}(p:am <+: aX)(du:fR h h')(e:∀o,∀Y:h.get? I=some o,h'.get? I=some o) (y:iH am h I x i):iH aX h' I x i:=by
 cases x with
 |tup xs=>
  refine bG ?_ y;clear y;intro a items n;refine aY ?_;refine aj ?_;intro o;refine ar ?_;intro bx r;intro bf aC;exact cE a items n ⟨⟨o,e o bx,r⟩,du _ _ (.inl ⟨rfl,_,_,rfl⟩) bf,aC.mono p du⟩
 |ref n=>
  obtain⟨a,az,o,bx,r⟩:=y;exact⟨a,o5 p az,o,e o bx,r⟩
 |range a b=>exact e _ y
 |_=>exact y
theorem tM{o:Obj}(h:o.cls=.type "tuple_iterator"∨o.cls=.type "list_iterator"∨o.cls=.type "range_iterator"):¬Kept o:=by
 rcases h with h|h|h<;>exact tw h (by decide) (by decide) (by decide)
theorem NU{h:Heap}{I:Addr}{a c:Int}(y:IsRangeIter h I a c 1):IsRangeIter h I (a+((0:Nat):Int)) (c-((0:Nat):Int)) 1:=by simpa using y
theorem NV{h:Heap}{I:Addr}{a c:Int}{i:Nat}(y:IsRangeIter h I (a+(i:Int)+1) (c-(i:Int)-1) 1):IsRangeIter h I (a+((i+1:Nat):Int)) (c-((i+1:Nat):Int)) 1:=by
 rw[Int.natCast_succ,←Int.add_assoc,←Int.sub_sub];exact y
section
variable{A:Around}{s:Shared}{am:List Addr}{st:St}{x:ah}{xs:List ah}
theorem BZ{v:Value}{F:∀Y:Value,∀Y:Shared,Prop} (S:bh prog w B am s.heap st) (aN:bc am s.heap x v) (e:ju x st=some xs)
 (h:∀I h' tk,∀Y:(∀b cf,∀Y:s.heap.get? b=some cf,h'.get? b=some cf),∀Y:s.heap.get? I=none,∀Y:(∃o,h'.get? I=some o∧¬Kept o),∀Y:iH am h' I x 0,F (.ref I) {s with heap:=h',toks:=tk}):
 wpAny (model prog w) A (pyIter v) F bo s:=by
 have g:∀o:Obj,∀Y:o.isFreed=false,∀Y:¬Kept o,∀Y:iH am (s.heap.push o) s.heap.objs.size x 0,F (.ref s.heap.objs.size) {s with heap:=s.heap.push o}:=
  fun o bq aK hi=>h _ _ s.toks (fun Y Y e=>Heap.get?_push_of_some _ e) (lQ _) ⟨o,Heap.get?_push_size _ bq,aK⟩ hi
 clear h;cases x with
 |tup ys=>
  refine bG ?_ aN.m6;intro a items n;refine aY ?_;rintro rfl bf aC;exact wpAny_pyIter_tuple ⟨_,bf,rfl,_,rfl⟩ (g _ rfl (tM (.inl rfl)) (cE a items n ⟨⟨_,Heap.get?_push_size _ rfl,rfl,rfl⟩,bf.push _,aC.mono (List.prefix_refl _) (BF _)⟩))
 |range a b=>
  refine dF ?_ aN.M3;intro c t u y;refine ar ?_;rintro rfl aC;have av:-1000000≤a∧a≤1000000∧-1000000≤b∧b≤1000000:=Classical.byContradiction fun az=>gh ((if_neg az).symm.trans e);refine wpAny_pyIter_range aC (NT av.1 av.2.1 av.2.2.1 av.2.2.2) (g _ rfl (tM (.inr (.inr rfl))) (NU ?_));rw[←Hg];exact Heap.get?_push_size _ rfl
 |ref n=>
  refine dF ?_ (S.listAt aN e);intro _ a vs m;refine dH ?_;rintro ae rfl hm _ aD aC;cases ae
  exact wpAny_pyIter_list aD.isList (g _ rfl (tM (.inr (.inl rfl))) ⟨a,hm,_,Heap.get?_push_size _ rfl,rfl,rfl⟩)
 |_=>exact gh e
noncomputable def yK(am:List Addr)(s:Shared)(x:ah)(xs:List ah)(I:Addr)(i:Nat)(F:∀Y:Option Value,∀Y:Shared,Prop):Prop:=
 (∀y v h' tk,∀Y:xs[i]?=some y,∀Y:(∀b o,∀Y:b≠I,∀Y:s.heap.get? b=some o,h'.get? b=some o),∀Y:(∃o,h'.get? I=some o∧¬Kept o),∀Y:bc am s.heap y v,∀Y:iH am h' I x (i+1),F (some v) {s with heap:=h',toks:=tk})∧
 (∀h' tk,∀Y:xs.length≤i,∀Y:(∀b o,∀Y:b≠I,∀Y:s.heap.get? b=some o,h'.get? b=some o),F none {s with heap:=h',toks:=tk})
variable{I:Addr}{i:Nat}{F:∀Y:Option Value,∀Y:Shared,Prop} (aL:A.handled=none)
include aL
theorem NW(bE:iH am s.heap I (.tup xs) i)(lj:∃o,s.heap.get? I=some o∧¬Kept o) (h:yK am s (.tup xs) xs I i F):wpAny (model prog w) A (pyNext (.ref I)) F bo s:=by
 refine bG ?_ bE;clear bE;intro a items n;refine aY ?_;intro cF bf aC;cases ai:items[i]? with
 |none=>exact wpAny_pyNext_tuple_end aL cF ⟨_,bf,rfl,_,rfl⟩ ai fun h' pB=>h.2 h' s.toks (qp aC▸Array.getElem?_eq_none_iff.mp ai) pB
 |some v=>
  refine aj ?_ (GD aC.pr ((Array.getElem?_toList ..).trans ai));intro y;refine ar ?_;intro au aN;refine wpAny_pyNext_tuple_item cF ⟨_,bf,rfl,_,rfl⟩ ai fun h' jL eg=>?_;have hs:=fun b o av e=>eg.extBut b o av e
  have du:fR s.heap h':=fun b o bx e=>hs b o (fun q=>by
   refine aj ?_ lj;clear lj;intro cf;refine ar ?_;intro cA aK;rw[q,cA]at e;cases e;exact aK bx) e
  refine aj ?_ jL;clear jL;intro o;refine aY ?_;intro bx aG hd;exact h.1 y v h' s.toks au hs ⟨o,bx,tM (.inl aG)⟩ aN (cE a items n ⟨⟨o,bx,aG,hd⟩,du _ _ (.inl ⟨rfl,_,_,rfl⟩) bf,aC.mono (List.prefix_refl _) du⟩)
theorem NX{n:Nat}(S:bh prog w B am s.heap st)(bE:iH am s.heap I (.ref n) i)(e:listAt (.ref n) st=some xs)(h:yK am s (.ref n) xs I i F):wpAny (model prog w) A (pyNext (.ref I)) F bo s:=by
 refine aj ?_ bE;clear bE;intro a;refine ar ?_;intro az cF;refine dF ?_ (S.listAt (.ref az) e);intro _ lS vs m;refine dH ?_;intro ae af hm _ aD aC;cases ae;cases af
 cases ai:vs[i]? with
 |none=>exact wpAny_pyNext_list_end aL cF aD.isList (List.getElem?_toArray.trans ai) fun h' pB=>h.2 h' s.toks (aC.length▸List.getElem?_eq_none_iff.mp ai) pB
 |some v=>
  refine aj ?_ (GD aC.pr ai);intro y;refine ar ?_;intro au aN;refine wpAny_pyNext_list_item cF aD.isList (List.getElem?_toArray.trans ai) fun h' jL eg=>?_;refine aj ?_ jL;clear jL;intro o;refine aY ?_;intro bx aG hd;exact h.1 y v h' s.toks au (fun b o av e=>eg.extBut b o av e) ⟨o,bx,tM (.inr (.inl aG))⟩ aN ⟨a,az,o,bx,aG,hd⟩
theorem NY{a b:Int}(bE:iH am s.heap I (.range a b) i)(h:yK am s (.range a b) ((List.range (b-a).toNat).map fun i=>.int (a+(i:Nat))) I i F):wpAny (model prog w) A (pyNext (.ref I)) F bo s:=by
 by_cases bC:i<(b-a).toNat
 ·refine wpAny_pyNext_range_item bE (Int.sub_pos.mpr (Int.ofNat_lt.mpr bC)) fun h' jL eg=>?_;refine h.1 (.int (a+(i:Nat))) _ h' _ (by rw[List.getElem?_map,List.getElem?_range bC];rfl) (fun b o av e=>eg.extBut b o av e) ⟨_,jL,tM (.inr (.inr rfl))⟩ .int (NV jL)
 ·have hle:=Nat.le_of_not_lt bC;exact wpAny_pyNext_range_end aL bE (Int.sub_nonpos_of_le (Int.ofNat_le.mpr hle)) fun h' pB=>h.2 h' _ (by rw[List.length_map,List.length_range];exact hle) pB
theorem yL(S:bh prog w B am s.heap st)(bE:iH am s.heap I x i)(lj:∃o,s.heap.get? I=some o∧¬Kept o) (e:ju x st=some xs) (h:yK am s x xs I i F):wpAny (model prog w) A (pyNext (.ref I)) F bo s:=by
 cases x with
 |tup ys=>cases e;exact NW aL bE lj h
 |ref n=>exact NX aL S bE e h
 |range a b=>
  by_cases av:-1000000≤a∧a≤1000000∧-1000000≤b∧b≤1000000
  ·cases(if_pos av).symm.trans e;exact NY aL bE h
  ·exact gh ((if_neg av).symm.trans e)
 |_=>exact bE.elim
end
theorem iT.gH{env:Env}{am aX:List Addr}{s s':Shared}{loc:Loc}{st:St}(R:d7 B ak env am s.heap loc)(S:bh prog w B am s.heap st)(x:iT (Own env) am s aX s'):fR s.heap s'.heap:=fun b o bx e=>by
 refine x.xs.keep b o (fun hm=>?_) (fun hm=>?_) e
 ·refine aj ?_ (S.there hm);intro bO;refine ar ?_;intro cA az;rw[e]at cA;cases cA;exact az bx
 ·refine ar ?_ (R.own b hm);refine aj ?_;intro bO;refine ar ?_;intro cA az;intro _;rw[e]at cA;cases cA;exact az bx
theorem d7.at_{env:Env}{am:List Addr}{h h':Heap}{loc:Loc}(R:d7 B ak env am h loc)(k:∀a∈Own env,∀o,∀Y:h.get? a=some o,h'.get? a=some o) (du:fR h h'):d7 B ak env am h' loc:=by
 refine⟨R.iF,R.lN,R.nZ,R.o6,R.yl,R.inj,?_,fun a aJ=>?_,R.apart,R.locals,fun y i au=>?_⟩
 ·refine aj ?_ R.ns;intro m n;exact⟨m,n.at' (k _ (by simp[Own]))⟩
 ·refine aY ?_ (R.own a aJ);refine aj ?_;intro o;refine ar ?_;intro e aK;intro af aH;exact⟨⟨o,k a aJ o e,aK⟩,af,aH⟩
 ·refine aj ?_ (R.var y i au);intro v;refine ar ?_;intro aN aD;refine⟨v,aN.at_ k,fun pv e=>?_⟩;refine aj ?_ (aD pv e);intro u;refine ar ?_;intro q r;exact⟨u,q,r.mono (List.prefix_refl _) du⟩
theorem iT.gY{O am aX:List Addr}{s s':Shared}{I:Addr}{h':Heap}{tk:Nat}(x:iT O am s aX s')(bE:s.heap.get? I=none)(NZ:I∉O)(k:∀b o,∀Y:b≠I,∀Y:s'.heap.get? b=some o,h'.get? b=some o):iT O am s aX {s' with heap:=h',toks:=tk}:=by
 obtain⟨⟨h,t,d,rfl⟩,a,c⟩:=x;refine⟨(cE _ _ _ rfl),⟨a.pre,fun b o ae af e=>k b o (fun q=>by rw[q,bE]at e;cases e) (a.keep b o ae af e),a.fresh⟩,fun b av bR=>?_⟩;refine aj ?_ (c b av bR);intro o e;exact⟨o,k b o (fun q=>NZ (q▸av)) e⟩
noncomputable abbrev N1(prog:Program)(w:World)(B:Heap)(ak:dB)(env:Env)(ba:Shared)(bV:List Addr)(bQ:Addr)(pv:ah)(xs:List ah)(I:∀Y:Nat,∀Y:Loc,∀Y:St,Prop) (n:Nat) (s':Shared):Prop:=
 ∃aX ao fk i,iT (Own env) bV ba aX s'∧bh prog w B aX s'.heap ao∧d7 B ak env aX s'.heap fk∧iH aX s'.heap bQ pv i∧bQ∉aX∧(∃o,s'.heap.get? bQ=some o∧¬Kept o)∧I i fk ao∧n=xs.length-i
noncomputable def Hh(P:b5)(i:Nat)(br:d8):d8:=fun Q loc st=>P (fun v aU=>∃(xs:List ah)(I:∀Y:Nat,∀Y:Loc,∀Y:St,Prop),I 0 loc aU∧∀n fk ao,∀Y:I n fk ao,ju v ao=some xs∧
 match xs[n]? with
 |some y=>br (fun dD pA cX=>match dD with
   |.next|.cont=>I (n+1) pA cX
   |.brk=>Q .next pA cX
   |.ret u=>Q (.ret u) pA cX) (setV fk i y) ao
 |none=>Q .next fk ao) loc st
theorem j4{x:Str}{fb p:Pos}{it:Expr}{b:List Stmt}{i:Nat}{P:b5}{br:d8}(h:b3 prog w B ak k it P)(bU:ky prog w B ak k b br)(ai:autoParam (ak.vars.lookup x=some i) jX._auto_1)(nh:autoParam (ak.kinds.lookup x≠some .free) jD._auto_1)
 (hs:autoParam (∀(env:Env) x,foldedSetIterable it env x=pure x) qd._auto_1):gx prog w B ak k (.For (.Name x fb) it b [] p) (Hh P i br):=by
 intro A env s am loc st Q aL R S q;refine wpAny_For (dZ (h aL R S q) fun v ba bV aU pv bj bk cN bF=>?_) (hs env);refine bZ ?_ bF;clear bF;intro xs I;refine ar ?_;intro aV turn;have gZ:=R.ext S bj.ext;refine never (BZ bk cN (turn 0 _ _ aV).1 fun bQ h' tk aK ni rY cF=>?_);have mC:bQ∉Own env:=fun hm=>by refine ar ?_ (gZ.own bQ hm);refine aj ?_;intro o;refine ar ?_;intro e _;intro _;rw[ni]at e;cases e
 have rZ:B.get? bQ=none:=by
  cases e:B.get? bQ with
  |none=>rfl
  |some o=>have:=bk.base bQ o e;rw[ni]at this;cases this
 have yM:bQ∉bV:=fun hm=>by refine aj ?_ (bk.there hm);intro o;refine ar ?_;intro e _;rw[ni]at e;cases e
 refine codeAny_forLoop (N1 prog w B ak env ba bV bQ pv xs I) ?_ _
  (dX bV aU loc 0 ⟨(iT.refl.gY ni mC fun b o Y e=>aK b o e),bk.keeps aK,gZ.at_ (fun a Y o e=>aK a o e) (fun b o Y e=>aK b o e),cF,yM,rY,aV,rfl⟩) (by intro _;rfl)
 intro n s';refine dF ?_;intro aX ao fk j;refine Bh ?_;rintro e8 dJ kA jL qz qA rX rfl;refine ar ?_ (turn _ _ _ rX);intro fc pC;refine never (yL aL.1 dJ jL qA fc ⟨fun y v cZ qB au iI qC aN yN=>?_,fun cZ qB hle iI=>?_⟩)
 ·rw[au]at pC;refine ar ?_ (dJ.gY iI ⟨qA,qz,rZ⟩);intro cw lU;have fZ:d7 B ak env aX cZ fk:=kA.at_ (fun a aJ o e=>iI a o (fun q=>mC (q▸aJ)) e) lU;have cB:=e8.gY (tk:=qB) ni mC iI;refine wpAny_assign_Name (never (rV (s:={s' with heap:=cZ,toks:=qB}) fZ cw ai nh (aN.mono (List.prefix_refl _) lU) fun eP eT fU lV=>?_));refine never (yE (bU aL lV fU pC) fun f pD pE kB yO dD j3 lW qD N2 nj=>?_);have n6:=eT.trans j3
  have vR:pD.heap.get? bQ=cZ.get? bQ:=by
   refine aj ?_ qC;clear qC;intro o;refine ar ?_;intro e _;rw[e];exact n6.xs.keep bQ o qz mC e
  have Hi:bQ∉pE:=fun hm=>by
   refine aj ?_ qC;clear qC;intro o;refine ar ?_;intro e _;have:=n6.xs.fresh bQ hm qz;rw[show(_:Shared).heap.get? bQ=some o from e]at this;cases this
  have Hj:iH pE pD.heap bQ pv (j+1):=yN.at_ n6.xs.pre (n6.gH fZ cw) fun o e=>by rw[vR];exact e
  have vS:∃o,pD.heap.get? bQ=some o∧¬Kept o:=by rw[vR];exact qC
  have bC:j<xs.length:=(List.getElem?_eq_some_iff.mp au).1;have vU:=(bj.k9 R S).trans (cB.trans n6);cases N2 with
  |next=>exact⟨_,Nat.sub_lt_sub_left bC (Nat.lt_succ_self j),pE,kB,yO,j+1,cB.trans n6,lW,qD,Hj,Hi,vS,nj,rfl⟩
  |cont=>exact⟨_,Nat.sub_lt_sub_left bC (Nat.lt_succ_self j),pE,kB,yO,j+1,cB.trans n6,lW,qD,Hj,Hi,vS,nj,rfl⟩
  |brk=>exact(dX pE kB yO .next ⟨vU,lW,qD,.next,nj⟩)
  |ret aN=>exact(dX pE kB yO (.ret _) ⟨vU,lW,qD,.ret aN,nj⟩)
 ·rw[List.getElem?_eq_none_iff.mpr hle]at pC;refine ar ?_ (dJ.gY iI ⟨qA,qz,rZ⟩);intro cw lU;have fZ:d7 B ak env aX cZ fk:=kA.at_ (fun a aJ o e=>iI a o (fun q=>mC (q▸aJ)) e) lU;have cB:=e8.gY (tk:=qB) ni mC iI;exact wpAny_execs_nil (dX aX ao fk .next ⟨(bj.k9 R S).trans cB,cw,fZ,.next,pC⟩)
end Mine
end
section
namespace Mine
variable{prog:Program}{w:World}{B:Heap}{ak:dB}{k:Nat}
theorem yP{s:Shared}{am:List Addr}{st:St}{Q:∀Y:ah,∀Y:St,Prop} {n:Nat} {a:Addr} {o:bB} {h':Heap} {pv:ah} {v:Value} {tk:Nat} (S:bh prog w B am s.heap st) (aJ:am[n]?=some a)
 (hs:∀b o,∀Y:b≠a,∀Y:s.heap.get? b=some o,h'.get? b=some o) (bx:∀Y:fR s.heap h',j0 prog w am h' a o) (aN:bc am s.heap pv v) (q:Q pv (st.set n o)):dC prog w B am s Q v {s with heap:=h',toks:=tk}:=by
 refine ar ?_ (S.set aJ hs bx);intro dJ x;exact(cE am _ pv ⟨.heap x,dJ,aN.mono (List.prefix_refl _) (S.gH x),q⟩)
theorem vV{am:List Addr}{h:Heap}{a:Addr}{vs vs':List Value}{n:Nat}{yQ:List ah}{f:∀Y:Array Value,Array Value} (aD:IsL h a vs.toArray n) (e:f vs.toArray=vs'.toArray) (aC:bT am h yQ vs'):
 ∀Y:fR h (h.update a (Obj.mapSeq f)),j0 prog w am (h.update a (Obj.mapSeq f)) a (.list yQ):=fun du=>by
 have:=aD.update f;rw[e]at this;exact⟨vs',⟨_,this⟩,aC.mono (List.prefix_refl _) du⟩
theorem vW{h:Heap}{a:Addr}{f:∀Y:Obj,Obj}:∀b o,∀Y:b≠a,∀Y:h.get? b=some o,(h.update a f).get? b=some o:=fun b o av e=>(Heap.get?_update_other h f (Ne.symm av)).trans e
noncomputable def B0(x:ah)(F:Nat→List ah→Prop)(st:St):Prop:=match x with
 |.ref n=>fY (listAt (.ref n) st) (F n)
 |_=>False
theorem Hk{x:ah}{F:∀Y:Nat,∀Y:List ah,Prop} {st:St} (h:B0 x F st):∃n xs,x=.ref n∧listAt (.ref n) st=some xs∧F n xs:=by
 cases x with
 |ref n=>
  refine aj ?_ (gG h);intro xs;refine ar ?_;intro e h;exact cD n xs ⟨rfl,e,h⟩
 |_=>exact h.elim
theorem bh.tN{am:List Addr}{h:Heap}{st:St}{n:Nat}{v:Value}{xs:List ah}(S:bh prog w B am h st)(ai:bc am h (.ref n) v)(e:Mine.listAt (.ref n) st=some xs):∃a vs m,v=.ref a∧am[n]?=some a∧IsL h a (List.toArray vs) m∧bT am h xs vs:=by
 refine dF ?_ (S.listAt ai e);intro _ a vs m;refine dH ?_;rintro ae rfl hm _ aD aC;cases ae
 exact cE a vs m ⟨rfl,hm,aD,aC⟩
noncomputable def pF(x v:ah)(Q:∀Y:ah,∀Y:St,Prop) (st:St):Prop:=B0 x (fun n xs=>xs.length≤1000000∧Q .none (st.set n (.list (xs++[v])))) st
theorem N3{am:List Addr}{s:Shared}{v:Value}{st:St}{pv:ah}(S:bh prog w B am s.heap st)(aN:bc am s.heap pv v)(h:(listAt pv st).isSome=true):
 ∃a items n,v=.ref a∧IsL s.heap a items n:=by
 refine aj ?_ (Option.isSome_iff_exists.mp h);intro xs e;refine dF ?_ (S.listAt aN e);intro _ a vs m;refine dH ?_;intro _ af _ _ aD _;exact(cE a _ m ⟨af,aD⟩)
noncomputable def appP(br bK:b5):b5:=fun Q loc st=>br (fun a aU=>(listAt a aU).isSome=true∧bK (fun v cX=>pF a v Q cX) loc aU) loc st
theorem jv{o e:Expr}{apos pos:Pos}{br bK:b5}(bU:b3 prog w B ak k o br)(cZ:b3 prog w B ak k e bK)
 (vX:autoParam (∀env,attributeBase o "append" env (eval o env)=eval o env) mu._auto_1) (he:autoParam (∀env,starEach [e] env=[(false,eval e env)]) mu._auto_1) (vY:autoParam ((apos.endLine==pos.line)=true) jD._auto_1):
 b3 prog w B ak k (.Call (.Attribute o "append" apos) [e] [] pos) (appP br bK):=by
 intro A env s am loc st Q aL R S h;refine wpAny_Call_method (vX env) (by rw[he];rfl) vY PySem.F.plainAttrs_list PySem.F.slot_list_append (by rfl) (dZ (bU aL R S h) fun u ba bV aU a bj bk cN bF=>?_);refine bG ?_ (N3 bk cN bF.1);intro lS items n;refine ar ?_;rintro rfl aD;refine⟨⟨_,aD,rfl⟩,fun b e=>by cases e;exact⟨_,aD,rfl⟩,?_⟩;rw[he];refine P.append_list (dZ (cZ aL (R.ext S bj.ext) bk bF.2) fun v dw fB cX b cB cw fT df=>?_);refine bZ ?_ (Hk df);intro m xs;refine cH ?_;rintro rfl e av q;refine bG ?_ (cw.tN (cN.j2 bk cB) e);intro _ vs ng;refine cH ?_;intro bR n7 r3 aC;cases bR
 exact cD _ _ ⟨by rw[List.size_toArray,←aC.length];exact Nat.le_trans av (by decide),r3,dC.over (bj.trans cB) (yP (tk:=dw.toks) (pv:=.none) (v:=.none) cw n7 vW (vV (f:=fun xs=>xs.push v) r3 (vs':=vs++[v]) (List.push_toArray ..) (aC.append (.cons fT .nil))) .none q)⟩
noncomputable def Hl(x:ah)(Q:∀Y:ah,∀Y:St,Prop) (st:St):Prop:=B0 x (fun n xs=>xs.length≤1000000∧∃y,xs.getLast?=some y∧Q y (st.set n (.list xs.dropLast))) st
theorem N4{vs:List Value}:vs.toArray.eraseIdxIfInBounds (vs.toArray.size-1)=vs.dropLast.toArray:=by
 cases vs with
 |nil=>rfl
 |cons a r=>
  have bX:(a::r).eraseIdx r.length=(a::r).dropLast:=by
   have h:List.drop (r.length+1) (a::r)=[]:=List.drop_eq_nil_of_le (Nat.le_refl _);rw[List.eraseIdx_eq_take_drop_succ,h,List.dropLast_eq_take,List.append_nil];rfl
  simp[Array.eraseIdxIfInBounds,bX]
theorem Hm{o:Expr}{apos pos:Pos}{br:b5}(bU:b3 prog w B ak k o br)
 (vX:autoParam (∀env,attributeBase o "pop" env (eval o env)=eval o env) mu._auto_1) (vY:autoParam ((apos.endLine==pos.line)=true) jD._auto_1):
 b3 prog w B ak k (.Call (.Attribute o "pop" apos) [] [] pos) fun Q loc st=>br (fun a aU=>Hl a Q aU) loc st:=by
 intro A env s am loc st Q aL R S h;refine wpAny_Call_method (vX env) (by rfl) vY PySem.F.plainAttrs_list PySem.F.slot_list_pop (by rfl) (dZ (bU aL R S h) fun u ba bV aU a bj bk cN bF=>?_);obtain⟨m,xs,rfl,e,hlen,y,au,q⟩:=Hk bF;refine bG ?_ (bk.tN cN e);intro lS vs ng;refine cH ?_;rintro rfl n7 r3 aC;refine aj ?_ (aC.get (List.getLast?_eq_getElem?.symm.trans au));intro z;refine ar ?_;intro aT aN;rw[aC.length]at aT;have j5:bT bV ba.heap xs.dropLast vs.dropLast:=by rw[List.dropLast_eq_take,List.dropLast_eq_take,aC.length];exact aC.take _
 exact⟨⟨_,r3,rfl⟩,fun b e=>by cases e;exact⟨_,r3,rfl⟩,P.pop_list (y:=z) r3 (by rw[List.size_toArray];exact List.getElem?_toArray.trans aT) (dC.over bj (yP (tk:=ba.toks) (pv:=y) (v:=z) bk n7 vW (vV (vs':=vs.dropLast) r3 N4 j5) aN q)) (by rw[List.size_toArray,←aC.length];exact Nat.le_trans hlen (by decide))⟩
end Mine
end
section
namespace Mine
variable{prog:Program}{w:World}{B:Heap}{ak:dB}{k:Nat}
noncomputable def jd(i:Int)(v:ah):∀Y:List (Int×ah),List (Int×ah)
 |[]=>[(i,v)]
 |(j,u)::r=>if j=i then(j,v)::r else(j,u)::jd i v r
noncomputable def N5:∀Y:bB,Option (List (List Int×ah))
 |.jZ kvs=>some kvs
 |_=>none
noncomputable def tabAt(x:ah)(st:St):Option (List (List Int×ah)):=(tE x st).bind N5
theorem Hn{x:ah}{st:St}{kvs:List (List Int×ah)}(h:tabAt x st=some kvs):∃n,x=.ref n∧st[n]?=some (.jZ kvs):=by
 refine aj ?_ (Option.bind_eq_some_iff.mp h);intro o;refine ar ?_;intro e h;refine aj ?_ (vH e);intro n;refine ar ?_;rintro rfl g;cases o with
 |jZ _=>exact⟨n,rfl,(Option.some.inj h)▸g⟩
 |_=>exact gh h
noncomputable def j6(i:List Int):∀Y:List (List Int×ah),Option ah
 |[]=>none
 |(j,v)::r=>if j=i then some v else j6 i r
noncomputable abbrev vZ(am:List Addr)(h:Heap)(x:List Int×ah)(y:List Int×Addr×Value):Prop:=x.1=y.1∧bc am h x.2 y.2.2
theorem bh.tabAt{am:List Addr}{h:Heap}{st:St}{x:ah}{v:Value}{kvs:List (List Int×ah)}(S:bh prog w B am h st)(ai:bc am h x v)(e:tabAt x st=some kvs):
 ∃n a aB,x=.ref n∧v=.ref a∧am[n]?=some a∧st[n]?=some (.jZ kvs)∧h.DictOfH (tupleKind (intKind prog w)) a aB∧Paired (vZ am h) kvs aB:=by
 refine aj ?_ (Hn e);intro n;refine ar ?_;rintro rfl g;refine aj ?_ ai.qo;intro a;refine ar ?_;rintro rfl az;refine aj ?_ (S.obj n a _ az g);intro aB;refine ar ?_;intro hd aC;exact(cE n a aB ⟨rfl,rfl,az,g,hd,aC⟩)
theorem bh.Ho{am:List Addr}{h:Heap}{st:St}{n:Nat}{a:Addr}{kvs:List (List Int×ah)}(S:bh prog w B am h st)(az:am[n]?=some a)(e:Mine.tabAt (.ref n) st=some kvs):∃aB,h.DictOfH (tupleKind (intKind prog w)) a aB∧Paired (vZ am h) kvs aB:=by
 refine aj ?_ (Hn e);intro m;refine ar ?_;intro ae g;cases ae
 exact S.obj n a _ az g
theorem N6{am:List Addr}{h:Heap}(i:List Int){kvs:List (List Int×ah)}{aB:List (List Int×Addr×Value)}(p:Paired (vZ am h) kvs aB):
 (j6 i kvs=none∧atKey aB i=none)∨∃x v,j6 i kvs=some x∧atKey aB i=some v∧bc am h x v.2:=by
 induction p with
 |nil=>exact .inl ⟨rfl,rfl⟩
 |@cons a b r c5 q _ ih=>
  by_cases aO:a.1=i
  ·exact .inr (cD a.2 b.2 ⟨if_pos aO,by simp[atKey,←q.1,aO],q.2⟩)
  ·have aR:j6 i (a::r)=j6 i r:=if_neg aO;have aW:atKey (b::c5) i=atKey c5 i:=by simp[atKey,←q.1,aO]
   rw[aR,aW];exact ih
theorem Hp{am:List Addr}{h:Heap}{xs:List ah}{a:Addr}{items:Array Value}{n:Nat}{ns:List Int}(bf:IsT h a items n)(aC:bT am h xs items.toList)(e:intsOf xs=some ns):(tupleKind (intKind prog w)).is h ns a:=by
 refine(cE _ items n ⟨bf,rfl,rfl,?_⟩);have ai:=yz e;subst ai;clear e bf;generalize items.toList=vs at aC
 induction ns generalizing vs with
 |nil=>cases aC;exact .nil
 |cons m r ih=>cases aC with
  |cons a b=>cases a;exact .cons (by simp[intKind,Value.isInt]) (ih _ b)
noncomputable def Hq:∀Y:ah,∀Y:List ah,∀Y:(∀Y:ah,∀Y:St,Prop),∀Y:St,Prop
 |.ref n,[.tup xs,d],Q,st=>rK (tabAt (.ref n) st) (intsOf xs) fun kvs ns=>Q ((j6 ns kvs).getD d) st
 |_,_,_,_=>False
theorem N7{x y z:ah}{Q:∀Y:ah,∀Y:St,Prop} {st:St} (h:Hq x [y,z] Q st):∃xs kvs ns,y=.tup xs∧tabAt x st=some kvs∧intsOf xs=some ns∧Q ((j6 ns kvs).getD z) st:=by
 cases x with
 |ref n=>cases y with
  |tup xs=>
   refine bZ ?_ (tn h);intro kvs ns;refine aY ?_;intro e cA h;exact cE xs kvs ns ⟨rfl,e,cA,h⟩
  |_=>exact h.elim
 |_=>exact h.elim
theorem N8{o e d:Expr}{apos pos:Pos}{br bK r4:b5}(hs:∃o,B.get? sysModules=some o) (bU:b3 prog w B ak k o br) (cZ:b3 prog w B ak k e bK) (B3:b3 prog w B ak k d r4)
 (vX:autoParam (∀env,attributeBase o "get" env (eval o env)=eval o env) mu._auto_1) (he:autoParam (∀env,starEach [e,d] env=[(false,eval e env),(false,eval d env)]) mu._auto_1) (vY:autoParam ((apos.endLine==pos.line)=true) jD._auto_1):
 b3 prog w B ak k (.Call (.Attribute o "get" apos) [e,d] [] pos) fun Q loc st=>br (fun a aU=>(tabAt a aU).isSome=true∧bK (fun v cX=>r4 (fun u jH=>Hq a [v,u] Q jH) loc cX) loc aU) loc st:=by
 intro A env s am loc st Q aL R S h;refine wpAny_Call_method (vX env) (by rw[he];rfl) vY PySem.F.plainAttrs_dict PySem.F.slot_dict_get (by rfl) (dZ (bU aL R S h) fun u ba bV aU a bj bk cN bF=>?_);refine aj ?_ (Option.isSome_iff_exists.mp bF.1);intro kvs iF;refine bG ?_ (bk.tabAt cN iF);intro n lS aB;refine dH ?_;rintro rfl rfl hm _ hd aP
 refine⟨hd.typeIs,fun b e=>by
  cases e
  refine bG ?_ hd;clear hd;intro o a9 ep;refine aY ?_;intro e aG _;exact⟨_,e,aG.2.1⟩,?_⟩
 rw[he];refine wpAny_dict_get2_heap (knd:=tupleKind (intKind prog w)) (tupleKind_room_in1 (by have:=aL.2.2;exact aA (.b (.a (.a .p (.m 20 .r)) (.k 100)) .q (.t (.b .p) .q)) rfl this)) (yw bk hs (List.mem_of_getElem? hm)) (dZ (cZ aL (R.ext S bj.ext) bk bF.2) fun v dw fB cX b cB cw fT df=>?_);refine dZ (B3 aL ((R.ext S bj.ext).ext bk cB.ext) cw df) fun u eP BC jH c eT fU vE rO=>?_;refine bG ?_ (N7 rO);intro xs Xj ns;refine cH ?_;rintro rfl aR aW q;refine bG ?_ ((fT.j2 cw eT).m6);intro r5 items yR;refine aY ?_;rintro rfl bf aC;refine aj ?_ (fU.Ho (o5 (cB.trans eT).ext.pre hm) aR);intro r6;refine ar ?_;intro ll iJ;refine(cE r5 ns r6 ⟨rfl,Hp bf aC aW,ll,?_⟩);rcases N6 ns iJ with⟨ae,af⟩|⟨x,z,ae,af,aH⟩
 ·rw[ae]at q;rw[af];exact dC.over ((bj.trans cB).trans eT) (jG fU vE q)
 ·rw[ae]at q;rw[af];exact dC.over ((bj.trans cB).trans eT) (jG fU aH q)
noncomputable def kC(i:List Int)(v:ah):∀Y:List (List Int×ah),List (List Int×ah)
 |[]=>[(i,v)]
 |(j,u)::r=>if j=i then(j,v)::r else(j,u)::kC i v r
noncomputable def tO:∀Y:ah,∀Y:ah,∀Y:ah,∀Y:(∀Y:St,Prop),∀Y:St,Prop
 |.ref n,.int i,v,Q,st=>(listAt (.ref n) st).elim (fY (dictAt (.ref n) st) fun kvs=>kvs.length≤1000000∧Q (st.set n (.ed (jd i v kvs)))) fun xs=>(0≤i∧i<xs.length∧xs.length≤1000000)∧Q (st.set n (.list (xs.set i.toNat v)))
 |.ref n,.tup xs,v,Q,st=>rK (tabAt (.ref n) st) (intsOf xs) fun kvs ns=>kvs.length≤1000000∧Q (st.set n (.jZ (kC ns v kvs)))
 |_,_,_,_,_=>False
theorem B4{n:Nat}{i:Int}{v:ah}{Q:∀Y:St,Prop} {st:St}:tO (.ref n) (.int i) v Q st=(listAt (.ref n) st).elim (fY (dictAt (.ref n) st) fun kvs=>kvs.length≤1000000∧Q (st.set n (.ed (jd i v kvs)))) fun xs=>(0≤i∧i<xs.length∧xs.length≤1000000)∧Q (st.set n (.list (xs.set i.toNat v))):=rfl
theorem N9{b:Int×Value}{r:List (Int×Value)}{v:Value}(d4:b.1∉r.map (·.1)):stored (b::r) b.1 v=(b.1,v)::r:=by
 have aW:r.map (fun pG=>if pG.1=b.1 then(pG.1,v)else pG)=r:=by
  have:∀z∈r,(if z.1=b.1 then(z.1,v)else z)=z:=fun z aT=>if_neg fun q=>d4 (List.mem_map.mpr ⟨z,aT,q⟩);exact(List.map_congr_left this).trans (List.map_id _)
 simp only[stored,if_true,List.any_cons,decide_true,Bool.true_or,List.map_cons,aW]
theorem Oa{b:Int×Value}{r:List (Int×Value)}{i:Int}{v:Value}(h:¬b.1=i):stored (b::r) i v=b::stored r i v:=by
 simp only[stored,h,if_false,List.any_cons,decide_false,Bool.false_or,List.map_cons];by_cases q:(r.any fun pG=>decide (pG.1=i))=true
 ·rw[if_pos q,if_pos q]
 ·rw[if_neg q,if_neg q];rfl
theorem Ob{am:List Addr}{h:Heap}{i:Int}{x:ah}{v:Value}(aN:bc am h x v){kvs:List (Int×ah)}{aB:List (Int×Value)}(p:Paired (fun(x:Int×ah)(y:Int×Value)=>x.1=y.1∧bc am h x.2 y.2) kvs aB):∀Y:(aB.map (·.1)).Nodup,
 Paired (fun(x:Int×ah)(y:Int×Value)=>x.1=y.1∧bc am h x.2 y.2) (jd i x kvs) (stored aB i v):=by
 induction p with
 |nil=>exact fun Y=>.cons ⟨rfl,aN⟩ .nil
 |@cons a b r c5 q z ih=>
  intro d4;have d4:=List.nodup_cons.mp d4;by_cases aO:b.1=i
  ·have aR:jd i x (a::r)=(a.1,x)::r:=if_pos (q.1.trans aO);rw[aR,←aO,N9 d4.1];exact .cons ⟨q.1,aN⟩ z
  ·have aR:jd i x (a::r)=a::jd i x r:=if_neg fun e=>aO (q.1.symm.trans e);rw[aR,Oa aO];exact .cons q (ih d4.2)
theorem Oc{b:List Int×Addr×Value}{r:List (List Int×Addr×Value)}{a:Addr}{v:Value}(d4:b.1∉r.map (·.1)):storedH (b::r) b.1 a v=(b.1,b.2.1,v)::r:=by
 have e:atKey (b::r) b.1=some b.2:=by simp[atKey]
 rw[storedH_old e,List.map_cons,map_putAt_of_not_mem _ _ _ d4];simp[putAt]
theorem Od{b:List Int×Addr×Value}{r:List (List Int×Addr×Value)}{i:List Int}{a:Addr}{v:Value}(h:¬b.1=i):storedH (b::r) i a v=b::storedH r i a v:=by
 have e:atKey (b::r) i=atKey r i:=by simp[atKey,h]
 have aW:putAt i v b=b:=if_neg h;rw[storedH,storedH,e,List.map_cons,aW];by_cases q:(atKey r i).isSome=true
 ·rw[if_pos q,if_pos q]
 ·rw[if_neg q,if_neg q];rfl
theorem Oe{am:List Addr}{h:Heap}{i:List Int}{x:ah}{v:Value}{a:Addr}(aN:bc am h x v){kvs:List (List Int×ah)}{aB:List (List Int×Addr×Value)}(p:Paired (vZ am h) kvs aB):∀Y:(aB.map (·.1)).Nodup,Paired (vZ am h) (kC i x kvs) (storedH aB i a v):=by
 induction p with
 |nil=>exact fun Y=>.cons ⟨rfl,aN⟩ .nil
 |@cons c b r c5 q z ih=>
  intro d4;have d4:=List.nodup_cons.mp d4;by_cases aO:b.1=i
  ·have aR:kC i x (c::r)=(c.1,x)::r:=if_pos (q.1.trans aO);rw[aR,←aO,Oc d4.1];exact .cons ⟨q.1,aN⟩ z
  ·have aR:kC i x (c::r)=c::kC i x r:=if_neg fun e=>aO (q.1.symm.trans e);rw[aR,Od aO];exact .cons q (ih d4.2)
noncomputable def tP(prog:Program)(w:World)(B:Heap)(am:List Addr)(s:Shared)(Q:∀Y:St,Prop) (_:Unit) (s':Shared):Prop:=
 ∃aX ao,c9 am s aX s'∧bh prog w B aX s'.heap ao∧Q ao
theorem Of{A:Around}{s:Shared}{am:List Addr}{m:Sem Unit}{Q:∀Y:St,Prop} {F:∀Y:Unit,∀Y:Shared,Prop} (h:wpAny (model prog w) A m (tP prog w B am s Q) bo s)
 (k:∀s' aX ao,∀Y:c9 am s aX s',∀Y:bh prog w B aX s'.heap ao,∀Y:Q ao,F () s'):wpAny (model prog w) A m F bo s:=
 wpAny_mono h (fun Y s' aP=>by refine bZ ?_ aP;clear aP;intro aX ao;refine aY ?_;intro a b c;exact k s' aX ao a b c) fun Y Y x=>x
theorem B5{s:Shared}{am:List Addr}{st:St}{Q:∀Y:St,Prop} {n:Nat} {a:Addr} {o:bB} {h':Heap} {tk:Nat} (S:bh prog w B am s.heap st) (aJ:am[n]?=some a)
 (hs:∀b o,∀Y:b≠a,∀Y:s.heap.get? b=some o,h'.get? b=some o) (bx:∀Y:fR s.heap h',j0 prog w am h' a o) (q:Q (st.set n o)):tP prog w B am s Q () {s with heap:=h',toks:=tk}:=by
 refine ar ?_ (S.set aJ hs bx);intro dJ x;exact(cD am _ ⟨.heap x,dJ,q⟩)
theorem Og{A:Around}{s:Shared}{l:Addr}{items:Array Value}{m:Nat}{k:Int}{t:Tok}{v:Value}{Q:∀Y:Unit,∀Y:Shared,Prop} {E:∀Y:Value,∀Y:Shared,Prop} (aD:IsL s.heap l items m) (aV:0≤k) (Hr:k<2^63) (az:k<items.size)
 (a7:Q () {s with heap:=s.heap.update l (Obj.mapSeq (·.setIfInBounds k.toNat v))}):wpAny (model prog w) A (setItem (.ref l) (.int k t) v) Q E s:=by
 unfold setItem
 try with_reducible refine wpAny_holding ?_
 first|refine wpAny_bind (wpAny_pure ?_)|skip
 refine wpAny_bind (wpAny_sequenceKey aD.isList.typeIs (by decide) ?_)
 refine wpAny_bind (wpAny_callSpecial?_slot (name:=Str.ofString "__setitem__") aD.isList.typeIs PySem.slot_list_setitem
  (wpAny_call_entry PySem.slot_list_setitem aD.isList.typeIs PySem.entry_list_setitem ?_ (PySem.args_list_setitem _ _ _)))
 show wpAny _ _ (Builtin.List.listSubscript? (.int k t)>>=_) _ _ s;refine wpAny_bind (PySem.wpAny_listSubscript_int (PySem.fitsIndex_of aV Hr) ?_);clear Hr;refine aj ?_ (Int.eq_ofNat_of_zero_le aV);rintro j rfl;have aO:j<items.size:=by exact aq (.B (.n .p) (.n .q) (.t .p .q)) rfl az
 have v3:items[j]?=some items[j]:=Array.getElem?_eq_getElem aO;show wpAny _ _ ((seqItemAt l j>>=fun r=>pure (r.map (j,·)))>>=_) _ _ s;refine wpAny_bind (wpAny_bind (PySem.wpAny_seqItemAt aD rfl (wpAny_pure ?_)));rw[v3];show wpAny _ _ (setSeqItemAt l j v>>=_) _ _ s;refine wpAny_bind (PySem.wpAny_setSeqItemAt aD rfl ?_)
 first
  |exact wpAny_bind (wpAny_pure (wpAny_pure ⟨.none,rfl,wpAny_pure a7⟩))
  |exact wpAny_pure ⟨.none,rfl,wpAny_pure a7⟩
section
variable{A:Around}{s:Shared}{am:List Addr}{st:St}{Q:∀Y:St,Prop} {n:Nat} {i:Int} {x:ah} {u v z:Value} (S:bh prog w B am s.heap st) (aG:bc am s.heap (.ref n) u) (ai:bc am s.heap x z)
include S aG ai
theorem Oh{xs:List ah}(hi:bc am s.heap (.int i) v)(e:listAt (.ref n) st=some xs)(q:(0≤i∧i<xs.length∧xs.length≤1000000)∧Q (st.set n (.list (xs.set i.toNat x)))):wpAny (model prog w) A (setItem u v z) (tP prog w B am s Q) bo s:=by
 refine bG ?_ (S.tN aG e);intro a vs m;refine cH ?_;rintro rfl hm aD aC;refine aj ?_ hi.int_inv;rintro t rfl;have jM:i<(vs.toArray.size:Nat):=by rw[List.size_toArray,←aC.length];exact q.1.2.1
 have gz:i<2^63:=Int.lt_trans q.1.2.1 (Int.lt_of_le_of_lt (Int.ofNat_le.mpr q.1.2.2) (by decide));exact Og aD q.1.1 gz jM (B5 (tk:=s.toks) S hm vW (vV (f:=fun ys=>ys.setIfInBounds i.toNat z) (vs':=vs.set i.toNat z) aD (List.setIfInBounds_toArray ..) (aC.set ai _)) q.2)
theorem Oi{kvs:List (Int×ah)}(hi:bc am s.heap (.int i) v)(e:dictAt (.ref n) st=some kvs)(q:kvs.length≤1000000∧Q (st.set n (.ed (jd i x kvs)))):wpAny (model prog w) A (setItem u v z) (tP prog w B am s Q) bo s:=by
 refine aj ?_ (yt e);intro m;refine ar ?_;intro ae g;cases ae
 refine aj ?_ aG.qo;intro a;refine ar ?_;rintro rfl hm;refine aj ?_ (S.obj n a _ hm g);intro aB;refine ar ?_;intro hd aP;refine aj ?_ hi.int_inv;rintro t rfl;have d4:(aB.map (·.1)).Nodup:=by refine bG ?_ hd;clear hd;intro _ _ _;refine dH ?_;intro _ _ _ _ _ d4;exact d4
 exact wpAny_setItem_pairs yv hd (fun h' ll eg=>B5 (o:=.ed (jd i x kvs)) S hm (fun b o av e=>eg.extBut b o av e) (fun du=>⟨_,ll,yk (fun Y Y y=>⟨y.1,y.2.mono (List.prefix_refl _) du⟩) (Ob ai aP d4)⟩) q.2) (by rw[←aP.length];exact Nat.le_trans q.1 (by decide))
theorem Oj{kvs:List (List Int×ah)}{xs:List ah}{ns:List Int}(aL:gW A k)(hi:bc am s.heap (.tup xs) v)(e:tabAt (.ref n) st=some kvs)(aW:intsOf xs=some ns)(q:kvs.length≤1000000∧Q (st.set n (.jZ (kC ns x kvs)))):wpAny (model prog w) A (setItem u v z) (tP prog w B am s Q) bo s:=by
 refine aj ?_ aG.qo;intro a;refine ar ?_;rintro rfl hm;refine aj ?_ (S.Ho hm e);intro aB;refine ar ?_;intro hd aP;refine bG ?_ hi.m6;intro r5 items yR;refine aY ?_;rintro rfl bf aC;have d4:(aB.map (·.1)).Nodup:=by refine bG ?_ hd;clear hd;intro _ _ _;refine dH ?_;intro _ _ _ _ _ d4;exact d4
 exact wpAny_setItem_heap (knd:=tupleKind (intKind prog w)) (tupleKind_room_in1 (by have:=aL.2.2;exact aA (.b (.a (.a .p (.m 20 .r)) (.k 100)) .q (.t (.b .p) .q)) rfl this)) (Hp bf aC aW) hd (fun h' ll eg=>B5 (o:=.jZ (kC ns x kvs)) S hm (fun b o av e=>eg.extBut b o av e) (fun du=>⟨_,ll,yk (fun Y Y y=>⟨y.1,y.2.mono (List.prefix_refl _) du⟩) (Oe ai aP d4)⟩) q.2) (by rw[←aP.length];exact Nat.le_trans q.1 (by decide))
end
theorem Ol{A:Around}{s:Shared}{am:List Addr}{st:St}{Q:∀Y:St,Prop} {c i x:ah} {u v z:Value} (aL:gW A k) (S:bh prog w B am s.heap st):∀Y:bc am s.heap c u,∀Y:bc am s.heap i v,∀Y:bc am s.heap x z,∀Y:tO c i x Q st,
 wpAny (model prog w) A (setItem u v z) (tP prog w B am s Q) bo s:=by
 cases c with
 |ref n=>
  cases i with
  |int i=>
   intro aG hi ai q;rw[B4]at q;cases e:Mine.listAt (.ref n) st with
   |some xs=>exact Oh S aG ai hi e (by rw[e]at q;exact q)
   |none=>
    rw[e]at q;refine aj ?_ (gG q);intro kvs;refine ar ?_;intro e q;exact Oi S aG ai hi e q
  |tup xs=>
   intro aG hi ai q;refine bZ ?_ (tn q);intro kvs ns;refine aY ?_;intro e aW q;exact Oj S aG ai aL hi e aW q
  |_=>exact fun Y Y Y q=>q.elim
 |_=>exact fun Y Y Y q=>q.elim
noncomputable def setS(br bK r4:b5):d8:=fun Q loc st=>br (fun v aU=>bK (fun c cX=>r4 (fun x jH=>tO c x v (fun kB=>Q .next loc kB) jH) loc cX) loc aU) loc st
theorem n8{o i e:Expr}{p fb:Pos}{br bK r4:b5}(bU:b3 prog w B ak k e br)(cZ:b3 prog w B ak k o bK)(B3:b3 prog w B ak k i r4)
 (hs:autoParam (∀env:Env,∀Y:env.scope.names=ak.kinds,swapsWith e (some (.Subscript o i fb)) p.line env=pure false) qd._auto_1):
 gx prog w B ak k (.Assign [.Subscript o i fb] e p) (setS br bK r4):=by
 intro A env s am loc st Q aL R S q;refine wpAny_Assign_Subscript (dZ (bU aL R S q) fun v ba bV aU pv bj bk cN bF=>?_) (hs env R.lN);have gZ:=R.ext S bj.ext;refine dZ (cZ aL gZ bk bF) fun c dw fB cX pc cB cw fT df=>?_;have fZ:=gZ.ext bk cB.ext;refine dZ (B3 aL fZ cw df) fun x eP BC jH px eT fU vE rO=>?_;have lV:=fZ.ext cw eT.ext;refine Of (Ol aL fU (fT.j2 cw eT) vE ((cN.j2 bk cB).j2 cw eT) rO) fun pD pE kB j3 lW nj=>?_;exact(dX pE kB loc .next ⟨(((bj.trans cB).trans eT).trans j3).k9 R S,lW,lV.ext fU j3.ext,.next,nj⟩)
noncomputable def v5:∀Y:ah,∀Y:ah,∀Y:(∀Y:ah,∀Y:St,Prop),∀Y:St,Prop
 |.int a,.int b,Q,st=>Q (.int (a+b)) st
 |.ref m,.ref n,Q,st=>rK (listAt (.ref m) st) (listAt (.ref n) st) fun xs ys=>(m≠n∧xs.length+ys.length≤1000000∧ys≠[])∧Q (.ref m) (st.set m (.list (xs++ys)))
 |_,_,_,_=>False
theorem Om:seqSlot? (.type "list") (dunderI "add")=pure (some (.builtin "list.__iadd__")):=PySem.seqSlot_of PySem.F.slot_list_iadd.lookup (by decide+kernel)
theorem Oo{A:Around}{s:Shared}{E:∀Y:Value,∀Y:Shared,Prop} {l b:Addr} {items o8:Array Value} {n iR:Nat} {Q:∀Y:Value,∀Y:Shared,Prop} (aD:IsL s.heap l items n) (av:IsL s.heap b o8 iR)
 (h:Q (.ref l) {s with heap:=s.heap.update l (Obj.mapSeq fun x=>x++o8)}) (c8:items.size+o8.size≤1000000):wpAny (model prog w) A (inplaceOp .Add (.ref l) (.ref b)) Q E s:=by
 have aJ:s.TypeIs (.ref l) "list":=⟨_,aD,rfl⟩;have g4:s.TypeIs (.ref b) "list":=⟨_,av,rfl⟩
 have Oq:fillsInplaceSlot (.type "list") "add" (Operator.Add==.Add)=pure false:=by
  unfold fillsInplaceSlot;show(typeLookup (.type "list") (dunderI "add")>>=fun Hs=>pure (Hs.isSome&&!isSeqSlot Hs))=pure false;rw[PySem.F.slot_list_iadd.lookup];show(pure (true&&!isSeqSlot (some (.builtin "list.__iadd__"))):Sem Bool)=pure false;rw[show isSeqSlot (some (.builtin "list.__iadd__"))=true by decide+kernel];rfl
 unfold inplaceOp;refine wpAny_holding ?_;refine wpAny_bind (wpAny_typeOf aJ (wpAny_bind (wpAny_of_eq Oq ?_)));show wpAny _ _ (if false=true then _ else _) Q E s;rw[if_neg Bool.false_ne_true];refine wpAny_bind (PySem.wpAny_binaryOp1_none (nm:="add") aJ g4 PySem.noFill_list_add ?_);refine wpAny_bind (wpAny_of_eq Om ?_);refine wpAny_bind (wpAny_rule ?_);exact call_meets PySem.F.slot_list_iadd aJ PySem.F.entry_list_iadd (PySem.F.args_list_iadd_2 _ _) (AutoSeq1.list___iadd___list_list_0 l items n b o8 iR (by simp[Builtin.List.listTooLong,sizeLine];lia) (by simp[sizeLine];exact aq (.i 262144 (.l (.a .p .q) (.k 1000000)) (.G 15624 (.l .p (.k 16777216)))) rfl c8) (by simp[sizeLine];exact aq (.i 16777217 (.l (.a .p .q) (.k 1000000)) (.G 999999 (.l (.a .p .q) (.k 16777217)))) rfl c8)) ⟨aD,av,h⟩
theorem Ot{A:Around}{s:Shared}{am:List Addr}{st:St}{Q:∀Y:ah,∀Y:St,Prop} {m n:Nat} {u v:Value} (S:bh prog w B am s.heap st) (aJ:bc am s.heap (.ref m) u) (av:bc am s.heap (.ref n) v) (q:v5 (.ref m) (.ref n) Q st):
 wpAny (model prog w) A (inplaceOp .Add u v) (dC prog w B am s Q) bo s:=by
 refine bZ ?_ (tn q);intro xs ys;refine cH ?_;intro aR aW h q;refine bG ?_ (S.tN aJ aR);intro a vs _;refine cH ?_;rintro rfl hm aD ai;refine bG ?_ (S.tN av aW);intro b us _;refine cH ?_;rintro rfl _ k6 au;exact Oo aD k6 (yP (tk:=s.toks) (pv:=.ref m) (v:=.ref a) S hm vW (vV (f:=fun x=>x++us.toArray) (vs':=vs++us) aD (List.append_toArray ..) (ai.append au)) (.ref hm) q) (by rw[List.size_toArray,List.size_toArray,←ai.length,←au.length];exact h.2.1)
theorem Ou{A:Around}{s:Shared}{am:List Addr}{st:St}{Q:∀Y:ah,∀Y:St,Prop} {a b:ah} {u v:Value} (S:bh prog w B am s.heap st):∀Y:bc am s.heap a u,∀Y:bc am s.heap b v,∀Y:v5 a b Q st,
 wpAny (model prog w) A (inplaceOp .Add u v) (dC prog w B am s Q) bo s:=by
 cases a with
 |int i=>cases b with
  |int j=>
   intro aJ av q;refine aj ?_ aJ.int_inv;rintro t rfl;refine aj ?_ av.int_inv;rintro e8 rfl;exact PySem.P.iadd_int (jG S .int q)
  |_=>exact fun Y Y q=>q.elim
 |ref m=>cases b with
  |ref n=>exact Ot S
  |_=>exact fun Y Y q=>q.elim
 |_=>exact fun Y Y q=>q.elim
theorem Ov{A:Around}{env:Env}{s:Shared}{am:List Addr}{loc:Loc}{st:St}{x:Str}{i:Nat}{F:∀Y:Value,∀Y:Shared,Prop} {Q:∀Y:ah,∀Y:St,Prop} (R:d7 B ak env am s.heap loc) (_S:bh prog w B am s.heap st)
 (aN:ak.vars.lookup x=some i) (q:vD (getV loc i) Q st) (h:∀pv v,∀Y:bc am s.heap pv v,∀Y:Q pv st,F v s) (aG:autoParam ((x==("__classdict__":Str))=false) jD._auto_1):wpAny (model prog w) A (loadName env x) F bo s:=by
 refine aj ?_ (R.var x i aN);intro v;refine ar ?_;intro b6 aD;cases e:getV loc i with
 |none=>rw[e]at q;exact q.elim
 |some pv=>
  rw[e]at q;refine aj ?_ (aD pv e);intro u;refine ar ?_;rintro rfl aC;rcases b6 with⟨aK,m,az,hm⟩|⟨aK|aK,c,kY,kZ⟩
  ·exact wpAny_loadName_local R.iF aK az hm (h _ _ aC q)
  ·exact wpAny_loadName_cell R.iF aK kY kZ (h _ _ aC q)
  ·exact wpAny_loadName_free R.iF aK kY kZ (h _ _ aC q) aG
noncomputable def iaddS(i:Nat)(P:b5):d8:=fun Q loc st=>vD (getV loc i) (fun a r7=>P (fun v aU=>v5 a v (fun r cX=>Q .next (setV loc i r) cX) aU) loc r7) st
theorem v7{x:Str}{e:Expr}{p fb:Pos}{i:Nat}{P:b5}(h:b3 prog w B ak k e P)(ai:autoParam (ak.vars.lookup x=some i) jX._auto_1)(nh:autoParam (ak.kinds.lookup x≠some .free) jD._auto_1)(aG:autoParam ((x==("__classdict__":Str))=false) jD._auto_1):
 gx prog w B ak k (.AugAssign (.Name x fb) .Add e p) (iaddS i P):=by
 intro A env s am loc st Q aL R S q;refine wpAny_AugAssign_Name (Ov R S ai q (fun a u dQ q=>?_) aG);refine dZ (h aL R S q) fun v ba bV aU pv bj bk cN bF=>?_;refine dZ (Ou bk (dQ.j2 S bj) cN bF) fun r dw fB cX pr cB cw fT df=>?_;exact rV ((R.ext S bj.ext).ext bk cB.ext) cw ai nh fT fun eP eT fU lV=>(dX fB cX _ _ ⟨((bj.trans cB).k9 R S).trans eT,fU,lV,.next,df⟩)
end Mine
end
section
namespace Mine
variable{prog:Program}{w:World}{B:Heap}{ak:dB}{k:Nat}
noncomputable def isVar:∀Y:NameKind,Bool
 |.local|.cell|.free=>true
 |_=>false
noncomputable def varNames(names:List (Str×NameKind)):List Str:=(names.filter fun x=>isVar x.2).map (·.1)
noncomputable def n9:∀Y:Nat,∀Y:List Str,List (Str×Nat)
 |_,[]=>[]
 |n,x::r=>(x,n)::n9 (n+1) r
noncomputable def g5(names:List (Str×NameKind))(code:Option (Value×Str):=none):dB:=⟨names,n9 0 (varNames names),code⟩
theorem qE{β:Type}{k x:Str}{v:β}{r:List (Str×β)}:List.lookup x ((k,v)::r)=if x=k then some v else List.lookup x r:=by
 rw[List.lookup_cons];by_cases e:x=k
 ·rw[if_pos e,beq_iff_eq.mpr e]
 ·rw[if_neg e,beq_eq_false_iff_ne.mpr e]
theorem v8{l:List Str}{x:Str}{i:Nat}:∀{n:Nat},∀Y:(n9 n l).lookup x=some i,n≤i∧l[i-n]?=some x:=by
 induction l with
 |nil=>intro n h;exact gh h
 |cons z r ih=>
  intro n h;have h:(if x=z then some n else(n9 (n+1) r).lookup x)=some i:=qE.symm.trans h;by_cases e:x=z
  ·cases Option.some.inj ((if_pos e).symm.trans h)
   exact⟨Nat.le_refl _,by rw[Nat.sub_self,e];rfl⟩
  ·refine ar ?_ (ih ((if_neg e).symm.trans h));intro a b;refine⟨Nat.le_of_succ_le a,?_⟩;rw[show i-n=(i-(n+1))+1 by exact Nat.le_antisymm (bA (.a .r (.a .q (.b .s)) (.c (.a .p .s) .r (.l .p (.b .q)))) rfl (cj _ (_+(1:Nat))) (Nat.sub_add_cancel (aq (.a (.b .p) .q (.l .p .q)) rfl a))) (bA (.a .r (.a .q .s) (.c (.a .p (.b .s)) .r (.l (.b .p) .q))) rfl (cj _ _) (Nat.sub_add_cancel (aq (.a (.b .p) .q (.l (.b .p) .q)) rfl a)))];exact b
set_option tactic.hygienic true in
theorem B6{l:List Str}{n:Nat}{x y:Str}{i:Nat}(ai:(n9 n l).lookup x=some i)(au:(n9 n l).lookup y=some i):x=y:=Option.some.inj ((v8 ai).2.symm.trans (v8 au).2)
theorem pH{α:Type}{l:List (Str×α)}{n:Str}{a:α}(az:(l.map (·.1)).Nodup)(hm:(n,a)∈l):l.lookup n=some a:=by
 induction l with
 |nil=>cases hm
 |cons z r ih=>
  obtain⟨y,d⟩:=z;rw[List.map_cons,List.nodup_cons]at az;rw[qE];rcases List.mem_cons.mp hm with q|hm
  ·cases q;exact if_pos rfl
  ·rw[if_neg fun(e:n=y)=>az.1 (e▸List.mem_map.mpr ⟨_,hm,rfl⟩)];exact ih az.2 hm
noncomputable def initLoc(n:Nat)(vs:List ah):Loc:=vs.map some++List.replicate (n-vs.length) none
theorem Ow{n:Nat}{vs:List ah}{i:Nat}{pv:ah}(h:getV (initLoc n vs) i=some pv):vs[i]?=some pv:=by
 have rep:∀(m i:Nat)(pv:ah),getV (List.replicate m none) i≠some pv:=by
  intro m
  induction m with
  |zero=>intro i pv h;cases h
  |succ m ih=>intro i pv h;cases i with
   |zero=>cases h
   |succ i=>exact ih i pv h
 have app:∀(vs:List ah)(m i:Nat)(pv:ah),∀Y:getV (vs.map some++List.replicate m none) i=some pv,vs[i]?=some pv:=by
  intro vs
  induction vs with
  |nil=>intro m i pv h;exact absurd h (rep m i pv)
  |cons v r ih=>intro m i pv h;cases i with
   |zero=>exact h
   |succ i=>simpa using ih m i pv h
 exact app _ _ _ _ h
structure v9(B:Heap)(a:Addr)(fd:FuncData)(params:List Str)(body:List Stmt)(scope:Scope):Prop where
 at_:∃o,B.get? a=some o∧o.data=.func fd
 body:fd.body=.stmts body
 scope:fd.scope=scope
 gl:fd.globals=mainGlobals
 bi:fd.builtins=builtinsNs
 nk:fd.closure=[]
 code:B.CodeRec fd.code fd.qualname
 bind:∀vs:List Value,∀Y:vs.length=params.length,bindArgs fd ⟨vs,[]⟩=pure (params.zip vs)
theorem Ht{names:List (Str×NameKind)}{x:Str}(h:x∈varNames names)(az:(names.map (·.1)).Nodup):∃kd,names.lookup x=some kd∧isVar kd=true:=by
 obtain⟨⟨z,kd⟩,hm,rfl⟩:=List.mem_map.mp h;refine ar ?_ (List.mem_filter.mp hm);intro ae af;exact⟨kd,pH az ae,af⟩
theorem B7{names:List (Str×NameKind)}{x:Str}:∀{n:Nat}{acc:List (Str×Addr)},∀Y:(names.lookup x=some .cell∨(acc.lookup x).isSome=true),((cellsFrom n names acc).lookup x).isSome=true:=by
 induction names with
 |nil=>
  intro n acc h;rcases h with h|h
  ·exact gh h
  ·exact h
 |cons z r ih=>
  obtain⟨y,kd⟩:=z;intro n acc h;rw[qE]at h;unfold cellsFrom;by_cases e:x=y
  ·rw[if_pos e]at h
   split
   ·exact ih (.inr (by rw[qE,if_pos e];rfl))
   ·rename_i aK;rcases h with h|h
    ·cases h;exact absurd rfl aK
    ·exact ih (.inr h)
  ·rw[if_neg e]at h
   split
   ·exact ih (h.imp id fun h=>by rw[qE,if_neg e];exact h)
   ·exact ih h
theorem B8:∀{names:List (Str×NameKind)}{n:Nat}{acc:List (Str×Addr)},∀Y:(names.map (·.1)).Nodup,∀Y:(acc.map (·.1)).Nodup,∀Y:(∀x∈acc.map (·.1),x∉names.map (·.1)),((cellsFrom n names acc).map (·.1)).Nodup
 |[],_,_,_,h,_=>h
 |(y,kd)::r,n,acc,ae,af,aH=>by
  rw[List.map_cons,List.nodup_cons]at ae;unfold cellsFrom
  split
  ·refine B8 ae.2 (List.nodup_cons.mpr ⟨fun hm=>aH _ hm (List.mem_cons_self ..),af⟩) fun x ai=>?_;rcases List.mem_cons.mp ai with rfl|ai
   ·exact ae.1
   ·exact fun hm=>aH x ai (List.mem_cons_of_mem _ hm)
  ·exact B8 ae.2 af fun x ai hm=>aH x ai (List.mem_cons_of_mem _ hm)
theorem lookup_mem{l:List (Str×Addr)}{x:Str}{c:Addr}(az:(l.map (·.1)).Nodup)(hm:(x,c)∈l):l.lookup x=some c:=pH az hm
theorem lookup_none:∀{l:List (Str×Value)}{x:Str},∀Y:x∉l.map (·.1),l.lookup x=none
 |[],_,_=>rfl
 |(y,v)::r,x,h=>by
  rw[List.map_cons,List.mem_cons,not_or]at h;rw[List.lookup_cons,beq_eq_false_iff_ne.mpr h.1];exact lookup_none h.2
theorem Ox{kindOf:∀Y:Str,Option NameKind} {x:Str} (aK:kindOf x=some .local) (binds:List (Str×Value)):∀(m:∀Y:Str,Option Value),∀Y:(binds.map (·.1)).Nodup,bindL kindOf binds m x=(binds.lookup x).or (m x):=by
 induction binds with
 |nil=>exact fun Y Y=>rfl
 |cons b r ih=>
  intro m az;obtain⟨y,v⟩:=b;rw[List.map_cons,List.nodup_cons]at az;rw[bindL,ih _ az.2,List.lookup_cons];by_cases e:x=y
  ·subst e;simp[aK,lookup_none az.1]
  ·rw[beq_eq_false_iff_ne.mpr e]
   split<;>simp[e]
theorem Oz{kindOf:∀Y:Str,Option NameKind} {x:Str} (aK:kindOf x≠some .local) (binds:List (Str×Value)):∀(m:∀Y:Str,Option Value),∀Y:(binds.map (·.1)).Nodup,bindC kindOf binds m x=(binds.lookup x).or (m x):=by
 induction binds with
 |nil=>exact fun Y Y=>rfl
 |cons b r ih=>
  intro m az;obtain⟨y,v⟩:=b;rw[List.map_cons,List.nodup_cons]at az;rw[bindC,ih _ az.2,List.lookup_cons];by_cases e:x=y
  ·subst e;simp[aK,lookup_none az.1]
  ·rw[beq_eq_false_iff_ne.mpr e]
   split<;>simp[e]
theorem Hu:∀{dq:List Str}{vs:List Value}{i:Nat}{x:Str}{v:Value},∀Y:dq.Nodup,∀Y:dq[i]?=some x,∀Y:vs[i]?=some v,(dq.zip vs).lookup x=some v
 |[],_,_,_,_,_,h,_=>by simp at h
 |_::_,[],_,_,_,_,_,h=>by simp at h
 |p::dq,u::vs,0,x,v,az,ae,af=>by
  simp at ae af;subst ae;subst af;simp[List.zip_cons_cons]
 |p::dq,u::vs,i+1,x,v,az,ae,af=>by
  rw[List.nodup_cons]at az;have r8:dq[i]?=some x:=by simpa using ae
  have:(x==p)=false:=beq_eq_false_iff_ne.mpr fun e=>az.1 (e▸List.mem_of_getElem? r8);rw[List.zip_cons_cons,List.lookup_cons,this];exact Hu az.2 r8 (by simpa using af)
noncomputable def wa(params:List Str)(scope:Scope):Bool:=
 scope.kind==.function&&!scope.isCoroutine&&!scope.isGenerator&&decide ((scope.names.map (·.1)).Nodup)&&scope.names.all (fun x=>!(x.2==.free))&&params.isPrefixOf (varNames scope.names)&&decide params.Nodup
theorem Hv{l:List Str}{n:Nat}{x:Str}{i:Nat}(h:(n9 n l).lookup x=some i):x∈l:=List.mem_of_getElem? (v8 h).2
noncomputable def yS(n:Nat)(r9:Nat)(P:d8)(vs:List ah)(Q:∀Y:ah,∀Y:St,Prop) (st:St):Prop:=
 vs.length=n∧P (fun dD Y ao=>match dD with
  |.ret v=>Q v ao
  |.next=>Q .none ao
  |_=>False) (initLoc r9 vs) st
theorem B9{a:Addr}{fd:FuncData}{params:List Str}{body:List Stmt}{scope:Scope}{P:d8}(F:v9 B a fd params body scope)(dh:wa params scope=true)(er:B.NoLimit)
 (fm:Option (Value×Str))(tQ:∀c,∀Y:fm=some c,fd.code=c.1∧fd.qualname++".<locals>."=c.2) (av:ky prog w B (g5 scope.names fm) k body P):b8 prog w B (k+1) (.ref a) (yS params.length (varNames scope.names).length P):=by
 intro A s am st Q xs vs aL S aN q;refine ar ?_ q;clear q;intro hlen q;simp only[wa,Bool.and_eq_true,beq_iff_eq,Bool.not_eq_true',decide_eq_true_eq]at dh;refine ar ?_ dh;clear dh;refine ar ?_;refine ar ?_;refine ar ?_;refine ar ?_;refine ar ?_;intro yT sd;intro Ca;intro Cb;intro OA;intro OB;intro Cc;refine aj ?_ F.at_;intro o;refine ar ?_;intro bx hd;have Cd:=F.scope;subst Cd;have j7:vs.length=params.length:=by rw[←aN.length,hlen]
 have qF:params <+: varNames fd.scope.names:=List.isPrefixOf_iff_prefix.mp OB
 have OC:∀x kd,∀Y:fd.scope.names.lookup x=some kd,kd≠.free:=fun x kd h=>by
  have:=List.all_eq_true.mp OA _ (PySem.mem_of_lookup h);simpa using this
 have eG:∀x∈varNames fd.scope.names,fd.scope.names.lookup x=some .local∨fd.scope.names.lookup x=some .cell:=fun x ai=>by
  refine aj ?_ (Ht ai Cb);intro kd;refine ar ?_;intro ae af;cases kd<;>first|exact .inl ae|exact .inr ae|exact absurd rfl (OC _ _ ae)|cases af
 have Ce:(params.zip vs).map (·.1)=params:=by rw[List.map_fst_zip (by exact aq (.i (-1) (.e .q .p) (.l .p .q)) rfl j7)]
 refine wpAny_call (codeAny_call_cells (fd:=fd) (body:=body) (binds:=params.zip vs) (by have:=aL.2.1;exact aA (.b (.a (.a .p (.b .r)) (.k 100)) .q (.t .p .q)) rfl this) (S.base _ _ bx) hd (er.keeps S.base) (F.code.keeps S.base) F.body (F.bind vs j7) F.nk (fun x ai=>?_) (fun ba X=>?_) sd Ca yT)
 ·have OD:x.1∈params:=by rw[←Ce];exact List.mem_map_of_mem ai
  rcases eG x.1 (qF.subset OD)with h|h
  ·exact .inl h
  ·exact .inr ⟨h,B7 (.inl h)⟩
 ·refine bZ ?_ X.done;intro bU tk;refine ar ?_;rintro rfl yU;have bk:bh prog w B am bU st:=S.keeps yU;have mD:gW (A.deeper (callEnvC fd s.heap.objs.size a)) k:=⟨aL.1,by have:=aL.2.1;show A.depth+1+k+100<recursionLimit;exact aA (.b (.a (.a .p (.b .q)) (.k 100)) .r (.t (.a (.a (.b .p) .q) (.k 100)) .r)) rfl this,by have:=aL.2.2;show A.units+3+20*k+100<cLine;exact aA (.b (.a (.a .p (.m 20 (.b .q))) (.k 100)) .r (.t (.a (.a (.a .p (.k 3)) (.m 20 .q)) (.k 100)) .r)) rfl this⟩
  have off:∀b,∀Y:s.heap.objs.size≤b,b∉am∧B.get? b=none:=fun b av=>⟨fun hm=>absurd (S.lt hm) (Nat.not_lt.mpr av),by
   cases e:B.get? b with
   |none=>rfl
   |some o=>exact absurd (Heap.lt_size (S.base b o e)) (Nat.not_lt.mpr av)⟩
  have key:∀x i,∀Y:(n9 0 (varNames fd.scope.names)).lookup x=some i,∀pv,∀Y:getV (initLoc (varNames fd.scope.names).length xs) i=some pv,∃u,(params.zip vs).lookup x=some u∧bc am s.heap pv u:=by
   intro x i ai pv aP;have ae:=Ow aP;refine aj ?_ (aN.get ae);intro u;refine ar ?_;intro dQ aC
   have af:params[i]?=some x:=by
    have:=(v8 ai).2;refine aj ?_ qF;clear qF;intro r e;rw[←e,Nat.sub_zero,List.getElem?_append_left (by rw[←hlen];exact(List.getElem?_eq_some_iff.mp ae).1)]at this;exact this
   exact⟨u,Hu Cc af dQ,aC⟩
  have du:fR s.heap bU:=fun b o Y e=>yU b o e
  have R:d7 B (g5 fd.scope.names fm) (callEnvC fd s.heap.objs.size a) am bU (initLoc (varNames fd.scope.names).length xs):=by
   refine⟨yT,rfl,F.gl,F.bi,(fun c h=>tQ c h),fun x y i=>B6,⟨_,X.toInCall.ns⟩,fun b av=>?_,X.apart,fun c aG=>?_,fun x i ai=>?_⟩
   ·rcases List.mem_cons.mp av with rfl|av
    ·refine bG ?_ X.toInCall.ns;intro o a9 ep;refine aY ?_;intro e d _;exact⟨⟨o,e,by rintro(⟨_,_,_,q⟩|⟨_,_,q⟩|⟨_,_,q⟩)<;>rw[d]at q<;>cases q⟩,off _ (Nat.le_refl _)⟩
    ·obtain⟨⟨n,c⟩,aG,rfl⟩:=List.mem_map.mp av;have bC:=X.above n c aG;refine aj ?_ (X.cell n c (lookup_mem (B8 Cb .nil fun Y h=>by cases h) aG));intro o;refine ar ?_;intro e d;exact⟨⟨o,e,by rintro(⟨_,_,_,q⟩|⟨_,_,q⟩|⟨_,_,q⟩)<;>rw[d]at q<;>cases q⟩,off _ (Nat.le_of_lt bC)⟩
   ·have:=X.above c.1 c.2 aG;exact Nat.ne_of_gt this
   ·rcases eG x (Hv ai)with h|h
    ·refine⟨_,.inl ⟨h,_,X.toInCall.ns,rfl⟩,fun pv aP=>?_⟩;refine aj ?_ (key x i ai pv aP);intro u;refine ar ?_;intro dQ aC;refine⟨u,?_,aC.mono (List.prefix_refl _) du⟩;rw[Ox h _ _ (by rw[Ce];exact Cc),dQ];rfl
    ·refine aj ?_ (Option.isSome_iff_exists.mp (B7 (n:=s.heap.objs.size+1) (acc:=[]) (.inl h)));intro c aG;refine⟨_,.inr ⟨.inl h,c,aG,X.cell _ _ aG⟩,fun pv aP=>?_⟩;refine aj ?_ (key x i ai pv aP);intro u;refine ar ?_;intro dQ aC;refine⟨u,?_,aC.mono (List.prefix_refl _) du⟩;rw[Oz (by rw[show(callEnvC fd s.heap.objs.size a).kindOf x=some .cell from h];simp) _ _ (by rw[Ce];exact Cc),dQ];rfl
  refine never (yE (s:={s with heap:=bU,toks:=tk}) (av mD R bk q) fun f dw fB cX pA dD cB cw fZ BY df=>?_)
  have big:∀b∈Own (callEnvC fd s.heap.objs.size a),s.heap.objs.size≤b:=fun b av=>by
   rcases List.mem_cons.mp av with rfl|av
   ·exact Nat.le_refl _
   ·obtain⟨⟨n,c⟩,aG,rfl⟩:=List.mem_map.mp av;exact Nat.le_of_lt (X.above n c aG)
  have t:c9 am s fB dw:=by
   obtain⟨⟨h',gm,o7,e⟩,x,_⟩:=cB;subst e;refine⟨(cE _ _ _ rfl),x.pre,fun b o av e=>x.keep b o av (fun hm=>absurd (Heap.lt_size e) (Nat.not_lt.mpr (big b hm))) (yU b o e),fun b av az=>?_⟩;cases e:s.heap.get? b with
   |none=>rfl
   |some o=>
    have:=x.fresh b av az;rw[show(_:Shared).heap.get? b=some o from yU b o e]at this;cases this
  cases BY with
  |ret wb=>exact(cE fB cX _ ⟨t,cw,wb,df⟩)
  |next=>exact(cE fB cX .none ⟨t,cw,.none,df⟩)
  |brk=>exact df.elim
  |cont=>exact df.elim
end Mine
end
section
namespace Mine
variable{prog:Program}{w:World}{B:Heap}{ak:dB}{k:Nat}
theorem OE{b:Stmt}:gx prog w B ak k b fun Y Y Y=>False:=fun Y Y Y Y Y Y Y Y Y Y q=>q.elim
noncomputable def wc(Q:Bool→St→Prop)(v:ah)(st:St):Prop:=match v with
 |.bool b=>Q b st
 |_=>False
theorem OF{e:Expr}{P:b5}(bU:b3 prog w B ak k e P)(he:autoParam (∀env whole,isTrue e env whole=(do let v ←whole;standAt e.pos;holding [v] (truthy v))) qd._auto_1):
 jF prog w B ak k e fun Q loc st=>P (wc Q) loc st:=by
 intro A env s am loc st Q aL R S h;refine wpAny_isTrue_value (dZ (bU aL R S h) fun v ba bV aU pv bj bk cN bF=>?_) (he _ _);cases cN<;>first|exact bF.elim|exact wpAny_truthy_bool (cD bV aU ⟨bj,bk,bF⟩)
theorem OG{a b:Int}{bF df:Nat}{Cf Cg p:Pos}:b3 prog w B ak k (.Dict [some (.Constant (.int a) bF Cf)] [.Constant (.int b) df Cg] p) fun Q Y st=>Q (.ref st.length) (st++[.ed [(a,.int b)]]):=by
 intro A env s am loc st Q aL R S q;refine wpAny_Dict_walk (knd:=intKind prog w) rfl rfl (by simp) (by simp) ?_;show wpAny _ _ (evalPairs [(eval (.Constant (.int a) bF Cf) env,do let x ←eval (.Constant (.int b) df Cg) env;standAt p;pure x)]) _ _ _;show wpAny _ _ (eval (.Constant (.int a) bF Cf) env>>=fun pG=>holding [pG] (do let x ←eval (.Constant (.int b) df Cg) env;standAt p;pure x)>>=fun Hw=>holding [pG,Hw] (pure [])>>=fun r=>pure ((pG,Hw)::r)) _ _ _;refine wpAny_bind (wpAny_Constant_int (wpAny_bind (wpAny_holding (wpAny_bind (wpAny_Constant_int (wpAny_bind (wpAny_standAt (wpAny_pure ?_))))))));refine wpAny_bind (wpAny_holding (wpAny_pure (wpAny_pure ?_)));refine⟨[(a,_)],⟨by simp[intKind,Value.isInt],rfl,trivial⟩,Heap.DictOf.new _,fun h' hd hs=>?_⟩;have cv:∀x cf,∀Y:s.heap.get? x=some cf,h'.get? x=some cf:=fun x cf e=>hs.extBut x cf (Nat.ne_of_lt (Heap.lt_size e)) (Heap.get?_push_of_some _ e);exact BQ (po:=.ed [(a,.int b)]) S cv (lQ _) ⟨_,hd,.cons ⟨rfl,.int⟩ .nil⟩ q
noncomputable def yV(v:ah)(F:∀Y:ah,∀Y:ah,Prop):Prop:=∃a b,v=.tup [a,b]∧F a b
set_option tactic.hygienic true in
theorem Hx{am:List Addr}{h:Heap}{x:ah}{v:Value}{F:∀Y:ah,∀Y:ah,Prop} (ai:bc am h x v) (q:yV x F):
 ∃a b t u z n,x=.tup [a,b]∧v=.ref t∧IsT h t #[u,z] n∧bc am h a u∧bc am h b z∧F a b:=by
 refine bZ ?_ q;clear q;intro a b;refine ar ?_;rintro rfl q;obtain⟨t,⟨items⟩,n,rfl,bf,aC⟩:=ai.m6;refine bZ ?_ (bT.Bx aC);intro u z;refine aY ?_;rintro rfl ae af;exact qf a b t u z n ⟨rfl,rfl,bf,ae,af,q⟩
theorem OH{x y:Str}{e:Expr}{px py pt p:Pos}{kD i j:Nat}{P:b5}(h:b3 prog w B ak k e P)(ai:autoParam (ak.vars.lookup x=some i) jX._auto_1)(Ch:autoParam (ak.kinds.lookup x≠some .free) jD._auto_1)
 (au:autoParam (ak.vars.lookup y=some j) jX._auto_1)(se:autoParam (ak.kinds.lookup y≠some .free) jD._auto_1)
 (hs:autoParam (∀env,swapsWithSole [.Tuple [.Name x px,.Name y py] kD pt] e p.line env=pure false) mu._auto_1)
 (hw:autoParam (∀env,swappedStores [.Tuple [.Name x px,.Name y py] kD pt] e env=pure none) mu._auto_1):
 gx prog w B ak k (.Assign [.Tuple [.Name x px,.Name y py] kD pt] e p) fun Q loc st=>P (fun v aU=>yV v fun a b=>Q .next (setV (setV loc i a) j b) aU) loc st:=by
 intro A env s am loc st Q aL R S q;refine PyProof.Rows.Assign_Tuple (dZ (h aL R S q) fun v ba bV aU pv bj bk cN bF=>?_) (hs env) (hw env);refine o0 ?_ (Hx cN bF);intro a b t u z n;refine dH ?_;rintro rfl rfl bf aJ av df;refine assign_Tuple_tuple aL.1 ⟨_,bf,rfl,_,rfl⟩ rfl rfl fun h' he=>?_;have cv:∀x cf,∀Y:ba.heap.get? x=some cf,h'.get? x=some cf:=fun x cf e=>he x cf (Nat.ne_of_lt (Heap.lt_size e)) e;have cB:c9 bV ba bV {ba with heap:=h'}:=.heap (tk:=ba.toks) (.of_keeps cv);have gZ:=R.ext S bj.ext;have fZ:=gZ.ext bk cB.ext;have cw:bh prog w B bV h' aU:=bk.keeps cv;show wpAny _ _ (assignInOrder [assign (.Name x px) env,assign (.Name y py) env] [u,z]) _ _ _;refine wpAny_bind (wpAny_holding (wpAny_assign_Name (rV (s:={ba with heap:=h'}) fZ cw ai Ch (aJ.mono (List.prefix_refl _) (lT cv)) fun eP eT fU lV=>?_)));have g4:bc bV eP.heap b z:=(av.mono (List.prefix_refl _) (lT cv)).mono (List.prefix_refl _) (eT.gH fZ cw);refine wpAny_bind (wpAny_holding (wpAny_assign_Name (rV lV fU au se g4 fun pD j3 lW qD=>?_)));exact wpAny_pure (dX bV aU _ _ ⟨(((bj.trans cB).k9 R S).trans eT).trans j3,lW,qD,.next,df⟩)
theorem OI{x y:Str}{e:Expr}{px py pt p:Pos}{kD i j:Nat}{P:b5}(h:b3 prog w B ak k e P)(ai:autoParam (ak.vars.lookup x=some i) jX._auto_1)(Ch:autoParam (ak.kinds.lookup x≠some .free) jD._auto_1)
 (au:autoParam (ak.vars.lookup y=some j) jX._auto_1)(se:autoParam (ak.kinds.lookup y≠some .free) jD._auto_1)
 (hs:autoParam (∀env,swapsWithSole [.Tuple [.Name x px,.Name y py] kD pt] e p.line env=pure false) mu._auto_1)
 (hw:∀env:Env,∀Y:env.scope.kind=.function,∀Y:env.scope.names=ak.kinds,swappedStores [.Tuple [.Name x px,.Name y py] kD pt] e env=pure (some [x,y])):
 gx prog w B ak k (.Assign [.Tuple [.Name x px,.Name y py] kD pt] e p) fun Q loc st=>P (fun v aU=>yV v fun a b=>Q .next (setV (setV loc j b) i a) aU) loc st:=by
 intro A env s am loc st Q aL R S q;refine PyProof.Rows.Assign_Tuple_swapped (dZ (h aL R S q) fun v ba bV aU pv bj bk cN bF=>?_) (hs env) (hw env R.iF R.lN);refine o0 ?_ (Hx cN bF);intro a b t u z n;refine dH ?_;rintro rfl rfl bf aJ av df;show wpAny _ _ (unpackItems (.ref t) (#[u,z]:Array Value).size none) _ _ _;refine unpackItems_tuple (items:=#[u,z]) aL.1 ⟨_,bf,rfl,_,rfl⟩ fun h' he=>?_;have cv:∀x cf,∀Y:ba.heap.get? x=some cf,h'.get? x=some cf:=fun x cf e=>he x cf (Nat.ne_of_lt (Heap.lt_size e)) e;have cB:c9 bV ba bV {ba with heap:=h'}:=.heap (tk:=ba.toks) (.of_keeps cv);have gZ:=R.ext S bj.ext;have fZ:=gZ.ext bk cB.ext;have cw:bh prog w B bV h' aU:=bk.keeps cv;have j8:bc bV h' b z:=av.mono (List.prefix_refl _) (lT cv);show wpAny _ _ (holding [u] (bindName env y z)>>=fun Y=>(holding [] (bindName env x u)>>=fun Y=>(pure ():Sem Unit))) _ _ _;refine wpAny_bind (wpAny_holding (wpAny_bindName ?_));refine rV (s:={ba with heap:=h'}) fZ cw au se j8 fun eP eT fU lV=>?_;have k8:bc bV eP.heap a u:=(aJ.mono (List.prefix_refl _) (lT cv)).mono (List.prefix_refl _) (eT.gH fZ cw);refine wpAny_bind (wpAny_holding (wpAny_bindName (rV lV fU ai Ch k8 fun pD j3 lW qD=>?_)));exact wpAny_pure (dX bV aU _ _ ⟨(((bj.trans cB).k9 R S).trans eT).trans j3,lW,qD,.next,df⟩)
end Mine
end
section
namespace Mine
variable{prog:Program}{w:World}{B:Heap}{ak:dB}{k:Nat}
structure jw(B:Heap)(aF:Addr)(bS:∀Y:Str,Option Value):Prop where
 at_:∃N,ClsAt B aF N bS
 ga:bS "__getattribute__"=none
 gt:bS "__getattr__"=none
 bu:bS "__setattr__"=none
noncomputable def Hy(aF:Addr):∀Y:bB,Option Nat
 |.inst ak d=>if ak=aF then some d else none
 |_=>none
theorem OJ{aF:Addr}{o:bB}{d:Nat}(h:Hy aF o=some d):o=.inst aF d:=by
 cases o with
 |inst ak o7=>
  by_cases e:ak=aF
  ·exact(Option.some.inj ((if_pos e).symm.trans h))▸e▸rfl
  ·exact gh ((if_neg e).symm.trans h)
 |_=>exact gh h
noncomputable def Hz:∀Y:bB,Option (List (Str×ah))
 |.fields fs=>some fs
 |_=>none
theorem OK{o:bB}{fs:List (Str×ah)}(h:Hz o=some fs):o=.fields fs:=by
 cases o with
 |fields _=>exact congrArg bB.fields (Option.some.inj h)
 |_=>exact gh h
noncomputable def je(aF:Addr)(v:ah)(st:St):Option (Nat×List (Str×ah)):=((tE v st).bind (Hy aF)).bind fun d=>((st[d]?).bind Hz).map fun fs=>(d,fs)
set_option tactic.hygienic true in
theorem tR{aF:Addr}{v:ah}{s:St}{d:Nat}{fs:List (Str×ah)}(h:je aF v s=some (d,fs)):∃i,v=.ref i∧s[i]?=some (.inst aF d)∧s[d]?=some (.fields fs):=by
 refine aj ?_ (Option.bind_eq_some_iff.mp h);intro o7;refine ar ?_;intro ae af;refine aj ?_ (Option.bind_eq_some_iff.mp ae);intro o;refine ar ?_;intro aH bX;refine aj ?_ (Option.map_eq_some_iff.mp af);intro Xk;refine ar ?_;intro et fq;refine aj ?_ (Option.bind_eq_some_iff.mp et);intro cf;refine ar ?_;intro kE qG;cases fq
 refine aj ?_ (vH aH);intro i;refine ar ?_;rintro rfl e;exact⟨i,rfl,OJ bX▸e,OK qG▸kE⟩
theorem sf{aF i d:Nat}{s:St}{fs:List (Str×ah)}(ae:s[i]?=some (.inst aF d))(af:s[d]?=some (.fields fs)):je aF (.ref i) s=some (d,fs):=
 Option.bind_eq_some_iff.mpr ⟨d,Option.bind_eq_some_iff.mpr ⟨_,ae,if_pos rfl⟩,Option.map_eq_some_iff.mpr ⟨fs,Option.bind_eq_some_iff.mpr ⟨_,af,rfl⟩,rfl⟩⟩
theorem OL:∀{o mE:Obj},∀Y:mE.cls=o.cls,∀Y:mE.dict=o.dict,∀Y:mE.data=o.data,∀Y:mE.slots=o.slots,mE=o
 |⟨_,_,_,_⟩,⟨_,_,_,_⟩,rfl,rfl,rfl,rfl=>rfl
structure tS(prog:Program)(w:World)(am:List Addr)(h:Heap)(st:St)(aF:Addr)(v:ah)(u:Value)(d:Nat)(fs:List (Str×ah))(n:Nat)(x d6:Addr)(ir:∀Y:Str,Option Value):Prop where
 Xl:v=.ref n
 Ci:u=.ref x
 an:am[n]?=some x
 ad:am[d]?=some d6
 sn:st[n]?=some (.inst aF d)
 Xm:st[d]?=some (.fields fs)
 inst:h.Inst x aF ir
 dict:∀o,∀Y:h.get? x=some o,o.dict=some d6
 ns:h.Ns1 d6 ir
 ne:d6≠x
 Cj:∀y,match fs.lookup y with|some pv=>∃v,ir y=some v∧bc am h pv v|none=>ir y=none
section
variable{am:List Addr}{h:Heap}{st:St}{aF:Addr}{v:ah}{u:Value}{d:Nat}{fs:List (Str×ah)}{n:Nat}{x d6:Addr}{ir:∀Y:Str,Option Value} (I:tS prog w am h st aF v u d fs n x d6 ir)
include I
theorem tS.has{y:Str}{pv:ah}(e:fs.lookup y=some pv):∃v,ir y=some v∧bc am h pv v:=by
 have f:=I.Cj y;rw[e]at f;exact f
theorem tS.HA{y:Str}(e:fs.lookup y=none):ir y=none:=by
 have f:=I.Cj y;rw[e]at f;exact f
theorem tS.kept{h':Heap}(aK:∀b o,∀Y:b≠x,∀Y:(∀oh d6,∀Y:h.get? x=some oh,∀Y:oh.dict=some d6,b≠d6),∀Y:h.get? b=some o,h'.get? b=some o)
 (Ck:∀oh,∀Y:h.get? x=some oh,∃mE,h'.get? x=some mE∧mE.cls=oh.cls∧mE.data=oh.data∧mE.slots=oh.slots∧∀d6,∀Y:oh.dict=some d6,mE.dict=some d6):∀b o,∀Y:b≠d6,∀Y:h.get? b=some o,h'.get? b=some o:=by
 intro b o av e;by_cases ai:b=x
 ·subst ai;refine aj ?_ (Ck o e);intro mE;refine eY ?_;intro OM c₁ HB ba ON;have hd:=I.dict o e;exact OM.trans (congrArg some (OL c₁ ((ON d6 hd).trans hd.symm) HB ba))
 ·exact aK b o ai (fun oh o7 OO Cm q=>av (q.trans (Option.some.inj (Cm.symm.trans (I.dict oh OO))))) e
theorem tS.put{h':Heap}{attr:Str}{pv:ah}{qH:Value}(kD:∀b o,∀Y:b≠d6,∀Y:h.get? b=some o,h'.get? b=some o) (yW:h'.Inst x aF fun y=>if y=attr then some qH else ir y) (OP:bc am h' pv qH) (du:fR h h'):
 j0 prog w am h' d6 (.fields ((attr,pv)::fs)):=by
 refine aj ?_ I.inst;intro o;refine ar ?_;intro e _;refine aj ?_ yW;clear yW;intro cf;refine cH ?_;intro cA _ _ ll;cases Option.some.inj ((kD x o (Ne.symm I.ne) e).symm.trans cA)
 have tT:=I.dict _ e;rcases ll with⟨yX,_⟩|⟨o7,ll,_,OQ⟩
 ·cases tT.symm.trans yX
 ·cases Option.some.inj (tT.symm.trans ll)
  refine⟨_,OQ,fun y=>?_⟩;rw[List.lookup_cons];by_cases au:y=attr
  ·rw[beq_iff_eq.mpr au];exact⟨qH,if_pos au,OP⟩
  ·rw[beq_eq_false_iff_ne.mpr au,if_neg au];exact GI (List.prefix_refl _) du (I.Cj y)
end
set_option tactic.hygienic true in
theorem bh.je{am:List Addr}{h:Heap}{st:St}{aF:Addr}{v:ah}{u:Value}{d:Nat}{fs:List (Str×ah)}(S:bh prog w B am h st)(aN:bc am h v u)(e:je aF v st=some (d,fs)):
 ∃n x d6 ir,tS prog w am h st aF v u d fs n x d6 ir:=by
 refine aj ?_ (tR e);intro n;refine aY ?_;rintro rfl q aE;refine aj ?_ aN.qo;intro x;refine ar ?_;rintro rfl az;obtain⟨lX,v3,d6,o,ae,af,aH,bX,et,fq⟩:=S.at_ q;cases Option.some.inj (az.symm.trans v3)
 obtain⟨Xn,ll,ir,gk,bq⟩:=S.at_ aE;cases Option.some.inj (ae.symm.trans ll)
 exact(dX n x d6 ir ⟨rfl,rfl,az,ae,q,aE,⟨o,af,aH,bX,.inr ⟨d6,et,fq,gk⟩⟩,fun cf e=>(Option.some.inj (af.symm.trans e))▸et,gk,fq,bq⟩)
theorem OR{am:List Addr}{h:Heap}{x:ah}{v:Value}(aN:bc am h x v):handedOut v=pure v:=by cases aN<;>rfl
noncomputable def sj(aF:Addr)(attr:Str)(v:ah)(Q:∀Y:ah,∀Y:St,Prop) (st:St):Prop:=fY (je aF v st) fun x=>qy (x.2.lookup attr) Q st
noncomputable def attrP(aF:Addr)(attr:Str)(P:b5):b5:=fun Q loc st=>P (fun v aU=>sj aF attr v Q aU) loc st
set_option tactic.hygienic true in
theorem iK{aF:Addr}{bS:∀Y:Str,Option Value} {e:Expr} {attr:Str} {p:Pos} {P:b5} (X:jw B aF bS) (nY:bS attr=none) (g6:typeLookup (.type "object") attr=pure none) (h:b3 prog w B ak k e P)
 (he:autoParam (∀env,eval (.Attribute e attr p) env=(do
   let o ←eval e env
   standAt p.atName
   let r ←holding [o] (getAttr o attr true)
   letTemporaryGo e o r
   pure r)) Mk._auto_1):
 b3 prog w B ak k (.Attribute e attr p) (attrP aF attr P):=by
 intro A env s am loc st Q aL R S q;refine Attribute_any_ (dZ (h aL R S q) fun v ba bV aU pv bj bk cN bF=>?_) (he env);obtain⟨⟨d,fs⟩,aR,bF⟩:=gG bF;refine dF ?_ (bk.je cN aR);intro n x d6 ir I;refine aj ?_ (gG bF);intro y;refine ar ?_;intro aW df;refine aj ?_ (I.has aW);intro u;refine ar ?_;intro dQ aC;refine aj ?_ X.at_;intro N mF;refine x8 ?_ mF.obj;intro nm Cn bs sn sub col rR nq cT eU iU nr dR;rw[I.Ci];exact load_attr (bk.base _ _ dR) (mF.ns.keeps bk.base) X.ga nY g6 I.inst dQ (OR aC) (cE bV aU y ⟨bj.trans (.tok (s:=ba)),bk,aC,df⟩)
noncomputable def Co(aF:Addr)(attr:Str)(c v:ah)(Q:∀Y:St,Prop) (st:St):Prop:=fY (je aF c st) fun x=>x.2.length≤1000∧Q (st.set x.1 (.fields ((attr,v)::x.2)))
noncomputable def setattrS(aF:Addr)(attr:Str)(br bK:b5):d8:=fun Q loc st=>br (fun v aU=>bK (fun c cX=>Co aF attr c v (fun jH=>Q .next loc jH) cX) loc aU) loc st
set_option tactic.hygienic true in
theorem yY{aF:Addr}{bS:∀Y:Str,Option Value} {o e:Expr} {attr:Str} {p fb:Pos} {br bK:b5} (X:jw B aF bS) (nY:bS attr=none) (g6:typeLookup (.type "object") attr=pure none)
 (bU:b3 prog w B ak k e br) (cZ:b3 prog w B ak k o bK) (hs:autoParam (swapsWith e (some (.Attribute o attr fb)) p.line=fun Y=>pure false) jX._auto_1):
 gx prog w B ak k (.Assign [.Attribute o attr fb] e p) (setattrS aF attr br bK):=by
 intro A env s am loc st Q aL R S q;refine plainObj_wpAny_Assign_Attribute (dZ (bU aL R S q) fun v ba bV aU pv bj bk cN bF=>?_) (by rw[hs]);have gZ:=R.ext S bj.ext;refine dZ (cZ aL gZ bk bF) fun c dw fB cX pc cB cw fT df=>?_;have fZ:=gZ.ext bk cB.ext;obtain⟨⟨d,fs⟩,aR,aD,rO⟩:=gG df;refine dF ?_ (cw.je fT aR);intro n x d6 ir I;refine aj ?_ X.at_;intro N mF;refine x8 ?_ mF.obj;intro nm Cn bs sn sub col rR nq cT eU iU nr dR;rw[I.Ci];have OS:x≠aF:=fun q=>gh ((cw.off x (List.mem_of_getElem? I.an)).symm.trans (q▸dR));refine store_attr (ns:=fs.map (·.1)) PySem.F.store_object (cw.base _ _ dR) (mF.ns.keeps cw.base) X.bu nY g6 OS I.inst (fun h' gm yW aK Ck=>?_) (fun y au=>?_) (by rw[List.length_map,sizeLine_eq];exact Nat.le_trans aD (by decide))
 ·have kD:=I.kept aK Ck;refine ar ?_ (cw.set (o:=.fields ((attr,pv)::fs)) I.ad kD fun du=>I.put kD yW ((cN.j2 bk cB).mono (List.prefix_refl _) du) du);intro fU sq;exact(dX fB _ loc .next ⟨((bj.trans cB).trans (.heap sq)).k9 R S,fU,fZ.ext cw sq,.next,rO⟩)
 ·cases e:fs.lookup y with
  |none=>exact absurd (I.HA e) au
  |some yG=>exact List.mem_map.mpr ⟨(y,yG),PySem.mem_of_lookup e,rfl⟩
theorem HC{A:Around}{s:Shared}{am:List Addr}{st:St}{aF f:Addr}{of:Obj}{bS:∀Y:Str,Option Value} {name:Str} {pl:Sem Bool} {y:Option Value} {v:ah} {u:Value} {fs:List (Str×ah)} {d:Nat} {F:∀Y:Value×List Value,∀Y:Shared,Prop}
 (X:jw B aF bS) (bq:bS name=some (.ref f)) (pI:B.get? f=some of) (oi:of.cls=.type "function") (g6:typeLookup (.type "object") name=pure y) (S:bh prog w B am s.heap st) (aN:bc am s.heap v u)
 (e:je aF v st=some (d,fs)) (OT:fs.lookup name=none) (h:F (.ref f,[u]) s):wpAny (model prog w) A (getMethod u name pl) F bo s:=by
 refine dF ?_ (S.je aN e);intro n x d6 ir I;refine aj ?_ X.at_;intro N mF;refine x8 ?_ mF.obj;intro nm Cn bs sn sub col rR nq cT eU iU nr dR;rw[I.Ci]at h ⊢;exact method_of (S.base _ _ dR) (mF.ns.keeps S.base) X.ga X.gt bq (S.base _ _ pI) oi g6 I.inst (I.HA OT) h
noncomputable def yZ(aF:Addr)(name:Str)(v:ah)(st:St):Prop:=fY (je aF v st) fun x=>x.2.lookup name=none
set_option tactic.hygienic true in
theorem HD{aF:Addr}{name:Str}{v:ah}{st:St}(h:yZ aF name v st):∃d fs,je aF v st=some (d,fs)∧fs.lookup name=none:=by
 obtain⟨⟨d,fs⟩,e,h⟩:=gG h;exact cD d fs ⟨e,h⟩
noncomputable def methP(aF:Addr)(name:Str)(S:(∀Y:List ah,∀Y:(∀Y:ah,∀Y:St,Prop),∀Y:St,Prop)) (P:b5) (pq:lO):b5:=fun Q loc st=>P (fun v aU=>yZ aF name v aU∧pq (fun vs cX=>S (v::vs) Q cX) loc aU) loc st
theorem sr{aF f:Addr}{of:Obj}{fd:FuncData}{bS:∀Y:Str,Option Value} {o e:Expr} {r:List Expr} {name:Str} {apos pos:Pos} {pl:∀Y:Env,Sem Bool} {y:Option Value} {P:b5} {pq:lO} {S:∀Y:List ah,∀Y:(∀Y:ah,∀Y:St,Prop),∀Y:St,Prop} (X:jw B aF bS)
 (bq:bS name=some (.ref f)) (pI:B.get? f=some of) (oi:of.cls=.type "function") (Cp:of.data=.func fd) (g6:typeLookup (.type "object") name=pure y) (pJ:b8 prog w B k (.ref f) S) (bU:b3 prog w B ak k o P) (aJ:qt prog w B ak k (e::r) pq)
 (he:∀env,eval (.Call (.Attribute o name apos) (e::r) [] pos) env=(do
   let lY ←eval o env
   standAt apos.atName
   let (f,first) ←holding [lY] (getMethod lY name (pl env))
   callWith pos f first (backTo pos (starEach (e::r) env)) []))
 (hs:autoParam (∀env,starEach (e::r) env=(false,eval e env)::starEach r env) mu._auto_1) (aC:autoParam (∀pos env,(backTo pos (starEach r env)).any (·.1)=false) qd._auto_1):
 b3 prog w B ak k (.Call (.Attribute o name apos) (e::r) [] pos) (methP aF name S P pq):=by
 intro A env s am loc st Q aL R fP q;rw[he];refine wpAny_bind (dZ (bU aL R fP q) fun u ba bV aU v bj bk cN bF=>wpAny_bind (wpAny_standAt (wpAny_bind (wpAny_holding ?_))));refine bZ ?_ (HD bF.1);intro d fs;refine ar ?_;intro aR aW;refine HC X bq pI oi g6 bk cN aR aW ?_;have k8:=aJ (pos:=pos) aL (R.ext fP bj.ext) bk bF.2;rw[hs]at k8 ⊢;refine G6 (.inr (.inr (cE f of fd ⟨rfl,pI,Cp⟩))) (aC pos env) (tC k8 fun vs dw fB cX qs cB cw fT df=>⟨cw.base,?_⟩);exact wpAny_mono (pJ aL cw (.cons (cN.j2 bk cB) fT) df) (fun Y Y z=>dC.over (bj.trans cB) z) fun Y Y z=>z
theorem OU{aF f:Addr}{of:Obj}{fd:FuncData}{bS:∀Y:Str,Option Value} {o:Expr} {name:Str} {apos pos:Pos} {pl:∀Y:Env,Sem Bool} {y:Option Value} {P:b5} {S:∀Y:List ah,∀Y:(∀Y:ah,∀Y:St,Prop),∀Y:St,Prop} (X:jw B aF bS)
 (bq:bS name=some (.ref f)) (pI:B.get? f=some of) (oi:of.cls=.type "function") (Cp:of.data=.func fd) (g6:typeLookup (.type "object") name=pure y) (pJ:b8 prog w B k (.ref f) S) (bU:b3 prog w B ak k o P)
 (he:∀env,eval (.Call (.Attribute o name apos) [] [] pos) env=(do
   let lY ←eval o env
   standAt apos.atName
   let (f,first) ←holding [lY] (getMethod lY name (pl env))
   callWith pos f first (backTo pos (starEach [] env)) [])):
 b3 prog w B ak k (.Call (.Attribute o name apos) [] [] pos) fun Q loc st=>P (fun v aU=>yZ aF name v aU∧S [v] Q aU) loc st:=by
 intro A env s am loc st Q aL R fP q;rw[he];refine wpAny_bind (dZ (bU aL R fP q) fun u ba bV aU v bj bk cN bF=>wpAny_bind (wpAny_standAt (wpAny_bind (wpAny_holding ?_))));refine bZ ?_ (HD bF.1);intro d fs;refine ar ?_;intro aR aW;refine HC X bq pI oi g6 bk cN aR aW ?_;refine callWith_meth0 Cp (bk.base _ _ pI) ?_;exact wpAny_mono (pJ aL bk (.cons cN .nil) bF.2) (fun Y Y z=>dC.over bj z) fun Y Y z=>z
noncomputable def OV(aF:Addr)(S:∀Y:List ah,∀Y:(∀Y:ah,∀Y:St,Prop),∀Y:St,Prop) (Q:∀Y:ah,∀Y:St,Prop) (st:St):Prop:=
 S [.ref (st.length+1)] (fun v ao=>v=.none∧Q (.ref (st.length+1)) ao) (st++[.fields [],.inst aF st.length])
theorem OW{A:Around}{k:Nat}{c:Addr}(h:gW A (k+1)):gW (A.under (.builtin "type.__call__" ⟨[.ref c],[]⟩)) k:=by
 refine⟨h.1,?_,?_⟩
 ·have:=h.2.1;rw[depth_under_make A c []];exact aA (.b (.a (.a .p (.b .q)) (.k 100)) .r (.t (.a (.a (.b .p) .q) (.k 100)) .r)) rfl this
 ·have af:=h.2.2
  have aH:(A.under (.builtin "type.__call__" ⟨[.ref c],[]⟩)).units≤A.units+10:=by
   show A.units+_≤_;refine Nat.add_le_add_left ?_ _;show Code.cUnits (.builtin "type.__call__" ⟨[.ref c],[]⟩)≤10;exact Nat.le_of_ble_eq_true rfl
  exact bA (.b (.a (.a .s (.m 20 (.b .q))) (.k 100)) .r (.a .p (.a .s (.k 10)) (.t (.a (.a .p (.m 20 .q)) (.k 100)) .r))) rfl af aH
theorem OX{aF tU:Addr}{HE:Obj}{x:Str}{np p:Pos}{bS:∀Y:Str,Option Value} {S:∀Y:List ah,∀Y:(∀Y:ah,∀Y:St,Prop),∀Y:St,Prop} (az:fN B x (.ref aF)) (X:jw B aF bS) (hi:bS "__init__"=some (.ref tU)) (OY:B.get? tU=some HE) (oi:HE.cls=.type "function")
 (pJ:b8 prog w B k (.ref tU) S) (ai:autoParam (ak.kinds.lookup x=some .globalImplicit) jX._auto_1) (hd:autoParam ((x==("__debug__":Str))=false) jD._auto_1):
 b3 prog w B ak (k+1) (.Call (.Name x np) [] [] p) fun Q Y st=>OV aF S Q st:=by
 intro A env s am loc st Q aL R fP h;refine aj ?_ X.at_;intro N mF;refine x8 ?_ mF.obj;intro nm Cn bs sn sub col rR nq cT eU iU nr dR;refine wpAny_Call_ofName (BP R fP ai az hd ?_);refine callWith_cls0 mF fP.base ?_;obtain⟨bR,g,bP,t,os⟩:=s;refine wpAny_call_obj_init PySem.F.objNew (fP.base _ _ dR) (mF.ns.keeps fP.base) hi (fP.base _ _ OY) oi fun h' lX d6 hm=>?_;refine aj ?_ hm.inst;intro o;refine cH ?_;intro bx b9 su wd;have tT:=hm.dict o bx
 have gk:d6≠lX∧h'.Ns1 d6 fun Y=>none:=by
  rcases wd with⟨yX,_⟩|⟨o7,ll,cP,gk⟩
  ·rw[tT]at yX;cases yX
  ·rw[tT]at ll;cases ll;exact⟨cP,gk⟩
 have hlen:(am++[d6,lX])[st.length]?=some d6:=by rw[List.getElem?_append_right (by rw[fP.len];exact Nat.le_refl _)];simp[fP.len]
 have Cq:(am++[d6,lX])[st.length+1]?=some lX:=by rw[List.getElem?_append_right (by rw[fP.len];exact aI (.l .p (.b .p)) rfl)];simp[fP.len]
 have fresh:∀a,∀Y:bR.get? a=none,a∉am:=fun a e hm=>by refine aj ?_ (fP.there hm);intro bO;refine ar ?_;intro cA _;rw[e]at cA;cases cA
 have HF:∀a,∀Y:bR.get? a=none,B.get? a=none:=fun a e=>by
  cases q:B.get? a with
  |none=>rfl
  |some o=>rw[fP.base a o q]at e;cases e
 have mG:bh prog w B (am++[d6,lX]) h' (st++[.fields [],.inst aF st.length]):=by
  refine⟨by simp[fP.len],?_,?_,fun b o e=>hm.keeps b o (fP.base b o e),fun n a cf ae af=>?_⟩
  ·rw[List.nodup_append];refine⟨fP.nodup,by simp[gk.1],fun a aJ b av=>?_⟩;simp only[List.mem_cons,List.not_mem_nil,or_false]at av;rcases av with rfl|rfl
   ·exact fun q=>fresh _ hm.newD (q▸aJ)
   ·exact fun q=>fresh _ hm.newX (q▸aJ)
  ·intro a aJ;simp only[List.mem_append,List.mem_cons,List.not_mem_nil,or_false]at aJ;rcases aJ with aJ|rfl|rfl
   ·exact fP.off a aJ
   ·exact HF _ hm.newD
   ·exact HF _ hm.newX
  ·by_cases bC:n<st.length
   ·rw[List.getElem?_append_left (fP.len▸bC)]at ae;rw[List.getElem?_append_left bC]at af;exact(fP.obj n a cf ae af).mono (List.prefix_append _ _) (fun b o Y e=>hm.keeps b o e) fun bO e=>hm.keeps _ bO e
   ·by_cases aH:n=st.length
    ·subst aH;rw[hlen]at ae;cases ae;rw[List.getElem?_append_right (Nat.le_refl _)]at af;simp at af;subst af;exact⟨_,gk.2,fun y=>rfl⟩
    ·have bX:n=st.length+1:=by
      have:=(List.getElem?_eq_some_iff.mp af).1;simp at this;exact Nat.le_antisymm (aq (.b .p (.a .q (.k 2)) (.l .p (.b .q))) rfl this) ((Nat.lt_or_gt_of_ne aH).elim (fun ay=>aq (.i 2 (.o (.t .q .p)) (.b .q .p (.l (.b .p) .q))) rfl bC ay) (fun aE=>aq (.b .p .q (.l (.b .p) .q)) rfl aE))
     subst bX;rw[Cq]at ae;cases ae;rw[List.getElem?_append_right (by exact aI (.l .p (.b .p)) rfl)]at af;simp at af;subst af;exact(cD d6 o ⟨hlen,bx,b9,su,tT,gk.1⟩)
 have bW:Ext am bR (am++[d6,lX]) h':=⟨List.prefix_append _ _,fun b o Y e=>hm.keeps b o e,fun a aJ az=>by
  simp only[List.mem_append,List.mem_cons,List.not_mem_nil,or_false]at aJ;rcases aJ with aJ|rfl|rfl
  ·exact absurd aJ az
  ·exact hm.newD
  ·exact hm.newX⟩
 have t1:c9 am ⟨bR,g,bP,t,os⟩ (am++[d6,lX]) ⟨h',g,bP,t,os⟩:=.heap (s:=⟨bR,g,bP,t,os⟩) bW;refine dZ (pJ (OW aL) mG (.cons (.ref Cq) .nil) h) fun v dw fB cX pv cB cw fT df=>?_;refine ar ?_ df;clear df;rintro rfl df;cases fT
 exact⟨rfl,fB,cX,_,t1.trans cB,cw,.ref (o5 cB.ext.pre Cq),df⟩
end Mine
end
section
namespace Mine
variable{prog:Program}{w:World}{B:Heap}{ak:dB}{k:Nat}
noncomputable def oj(aB names:List (Str×NameKind)):List (Str×NameKind):=names.map fun x=>if(x.2==.free&&aB.lookup x.1==some .cell)then(x.1,.cell)else x
noncomputable def iy(ak:dB)(scope:Scope):dB:=g5 (oj ak.kinds scope.names)
theorem HG{scope:Scope}{env:Env}(aK:env.scope.kind=.function)(az:env.scope.names=ak.kinds):(relabel scope env).names=oj ak.kinds scope.names:=by
 unfold relabel oj;refine List.map_congr_left fun x Y=>?_;obtain⟨n,kd⟩:=x;have:env.kindOf n=ak.kinds.lookup n:=by rw[←az];rfl
 have av:(env.scope.kind==ScopeKind.function)=true:=by rw[aK];rfl
 simp only[av,Bool.and_true,this]
noncomputable def tV(ak:dB)(scope:Scope)(loc:Loc):Loc:=(varNames (oj ak.kinds scope.names)).map fun z=>if scope.names.lookup z=some .free then(match ak.vars.lookup z with|some i=>getV loc i|none=>none)else none
noncomputable def j9(ak:dB)(scope:Scope)(x:Str):Bool:=
 scope.kind==.function&&decide ((scope.names.map (·.1)).Nodup)&&scope.names.all (fun y=>!(y.2==.free)||((ak.vars.lookup y.1).isSome&&(ak.kinds.lookup y.1==some .cell||ak.kinds.lookup y.1==some .free)))&&(scope.names.lookup x==some .local||scope.names.lookup x==some .cell)
noncomputable def tW(prog:Program)(w:World)(B:Heap)(ak:dB)(k:Nat)(ifs:List Expr)(P:e9):Prop:=
 ∀⦃A:Around⦄⦃env:Env⦄⦃s:Shared⦄⦃am:List Addr⦄⦃loc:Loc⦄⦃st:St⦄⦃Q:∀Y:Bool,∀Y:St,Prop⦄,∀Y:gW A k,∀Y:d7 B ak env am s.heap loc,∀Y:bh prog w B am s.heap st,∀Y:P Q loc st,
  wpAny (model prog w) A (forIn ifs true fun c r=>if r=true then do let ok ←isTrue c env (eval c env);pure (ForInStep.yield ok)else pure (ForInStep.yield r)) (qr prog w B am s Q) bo s
theorem om:tW prog w B ak k [] fun Q Y st=>Q true st:=by
 intro A env s am loc st Q aL R S h;exact wpAny_tests_nil (cD am st ⟨.refl,S,h⟩)
theorem y9{c:Expr}{P:e9}(h:jF prog w B ak k c P):tW prog w B ak k [c] P:=by
 intro A env s am loc st Q aL R S q;rw[List.forIn_cons];refine wpAny_bind ?_;rw[if_pos rfl];refine wpAny_bind (rN (h aL R S q) fun b ba bV aU bj bk bF=>wpAny_pure ?_);show wpAny _ _ (forIn [] b _) _ _ _;rw[List.forIn_nil];exact wpAny_pure (cD bV aU ⟨bj,bk,bF⟩)
theorem OZ{A:Around}{s:Shared}{l:Addr}{items:Array Value}{n:Nat}{x:Value}{F:∀Y:Value,∀Y:Shared,Prop} (aD:IsL s.heap l items n) (a7:F .none {s with heap:=s.heap.update l (Obj.mapSeq (·.push x))}) (c8:items.size≤1000000):
 wpAny (model prog w) A (call (.builtin "list.append") [.ref l,x]) F bo s:=by
 refine wpAny_call_entry slot_list_append aD.isList.typeIs entry_list_append ?_ (args_list_append _ _);show wpAny _ _ (updateSeq l (·.push x)>>=fun Y=>ret .none) _ _ s;exact wpAny_bind (wpAny_updateSeq aD rfl (wpAny_pure ⟨.none,rfl,a7⟩) (Nat.le_trans c8 (by decide)) (by rw[Array.size_push];exact Nat.le_trans (Nat.succ_le_succ c8) (by decide)))
theorem O0{A:Around}{s:Shared}{am:List Addr}{st:St}{x:ah}{I:Addr}{i:Nat}{F:∀Y:Value,∀Y:Shared,Prop} (aL:A.handled=none) (S:bh prog w B am s.heap st) (bE:iH am s.heap I x i) (Cr:I∉am) (lj:∃o,s.heap.get? I=some o∧¬Kept o) (fc:(ju x st).isSome=true) (h:F (.ref I) s):
 wpAny (model prog w) A (pyIter (.ref I)) F bo s:=by
 cases x with
 |tup xs=>
  refine bG ?_ bE;clear bE;intro a items n;refine aY ?_;intro cF bf aC
  have cP:a≠I:=fun q=>by
   refine aj ?_ lj;clear lj;intro o;refine ar ?_;intro e aK;rw[←q,bf]at e;cases e;exact aK (.inl ⟨rfl,_,_,rfl⟩)
  exact(Walks.tuple aL I a cP items).self i s _ _ ⟨cF,_,bf,rfl,_,rfl⟩ h
 |ref n=>
  refine aj ?_ bE;clear bE;intro a;refine ar ?_;intro az cF;refine aj ?_ (Option.isSome_iff_exists.mp fc);intro xs e;refine dF ?_ (S.listAt (.ref az) e);intro _ r5 vs m;refine dH ?_;intro ae af hm _ aD aC;cases ae;cases af
  exact(Walks.list aL I a (fun q=>Cr (q▸List.mem_of_getElem? az)) vs.toArray).self i s _ _ ⟨cF,aD.isList⟩ h
 |range a b=>
  refine(Walks.range aL I a 1 (b-a).toNat).self i s _ _ ?_ h;rw[Int.mul_one];exact bE
 |_=>exact bE.elim
noncomputable def we(env:Env)(names:List (Str×NameKind)):List (Str×Addr):=((names.filter fun x=>x.2==NameKind.free).map fun x=>(x.1,(env.cells.lookup x.1).getD 0)).reverse
theorem O1{env:Env}(names:List (Str×NameKind)):∀acc:List (Str×Addr),∀Y:(∀n,∀Y:(n,NameKind.free)∈names,∃c,env.cells.lookup n=some c),
 (forIn names acc fun(x:Str×NameKind)(cs:List (Str×Addr))=>(if(x.2==NameKind.free)=true then(do let c ←cellOf env x.1;pure (ForInStep.yield ((x.1,c)::cs)))else pure (ForInStep.yield cs):Sem (ForInStep (List (Str×Addr)))))=pure (we env names++acc):=by
 induction names with
 |nil=>intro acc _;rw[List.forIn_nil];rfl
 |cons x r ih=>
  intro acc h;rw[List.forIn_cons];unfold we at ih ⊢;by_cases aK:(x.2==NameKind.free)=true
  ·refine aj ?_ (h x.1 (eq_of_beq aK▸.head _));intro c aG;have aR:cellOf env x.1=pure c:=by unfold cellOf;rw[aG]
   rw[if_pos aK,aR,pure_bind,pure_bind,List.filter_cons_of_pos (p:=fun x:Str×NameKind=>x.2==NameKind.free) aK,List.map_cons,List.reverse_cons,List.append_assoc,aG];exact ih _ fun m hm=>h m (.tail _ hm)
  ·rw[if_neg aK,pure_bind,List.filter_cons_of_neg (p:=fun x:Str×NameKind=>x.2==NameKind.free) aK];exact ih _ fun m hm=>h m (.tail _ hm)
theorem HH{env:Env}(names:List (Str×NameKind))(acc:List (Str×Addr))(h:∀n,∀Y:(n,NameKind.free)∈names,∃c,env.cells.lookup n=some c):
 ∃cl,(forIn names acc fun(x:Str×NameKind)(cs:List (Str×Addr))=>(if(x.2==NameKind.free)=true then(do let c ←cellOf env x.1;pure (ForInStep.yield ((x.1,c)::cs)))else pure (ForInStep.yield cs):Sem (ForInStep (List (Str×Addr)))))=pure (cl++acc)
  ∧(∀n c,∀Y:(n,c)∈cl,(n,NameKind.free)∈names∧env.cells.lookup n=some c)∧(∀n,∀Y:(n,NameKind.free)∈names,n∈cl.map (·.1))∧(∀Y:(names.map (·.1)).Nodup,(cl.map (·.1)).Nodup):=by
 refine⟨we env names,O1 names acc h,fun n c hm=>?_,fun n hm=>?_,fun d4=>?_⟩
 ·obtain⟨⟨m,kd⟩,ai,e⟩:=List.mem_map.mp (List.mem_reverse.mp hm);cases e
  have q:=List.mem_filter.mp ai;cases eq_of_beq q.2
  refine aj ?_ (h m q.1);intro c aG;exact⟨q.1,by rw[aG];rfl⟩
 ·rw[we,List.map_reverse,List.mem_reverse,List.map_map];exact List.mem_map.mpr ⟨(n,.free),List.mem_filter.mpr ⟨hm,rfl⟩,rfl⟩
 ·rw[we,List.map_reverse,(List.reverse_perm _).nodup_iff,List.map_map];exact d4.sublist (List.filter_sublist.map _)
theorem za{names:List (Str×NameKind)}{x:Str}{c:Addr}:∀{n:Nat}{acc:List (Str×Addr)},∀Y:(x,c)∈cellsFrom n names acc,(x,c)∈acc∨((x,NameKind.cell)∈names∧n≤c):=by
 induction names with
 |nil=>exact .inl
 |cons z r ih=>
  intro n acc h;unfold cellsFrom at h
  split at h
  ·rename_i aK;rcases ih h with h|h
   ·rcases List.mem_cons.mp h with q|h
    ·cases q;exact .inr ⟨eq_of_beq aK▸List.mem_cons_self ..,Nat.le_refl _⟩
    ·exact .inl h
   ·exact .inr ⟨.tail _ h.1,Nat.le_of_succ_le h.2⟩
  ·exact(ih h).imp id fun h=>⟨.tail _ h.1,h.2⟩
theorem O2{names:List (Str×NameKind)}:∀{n:Nat}{acc:List (Str×Addr)},∀Y:acc.Pairwise (fun x y=>x.2≠y.2),∀Y:(∀x∈acc,x.2<n),(cellsFrom n names acc).Pairwise fun x y=>x.2≠y.2:=by
 induction names with
 |nil=>exact fun h Y=>h
 |cons z r ih=>
  intro n acc h aD;unfold cellsFrom
  split
  ·refine ih (List.pairwise_cons.mpr ⟨fun x ai q=>Nat.lt_irrefl n ((show n=x.2 from q)▸aD x ai),h⟩) fun x ai=>?_;rcases List.mem_cons.mp ai with rfl|ai
   ·exact Nat.lt_succ_self _
   ·exact Nat.lt_succ_of_lt (aD x ai)
  ·exact ih h aD
theorem O3{names:List (Str×NameKind)}{x:Str}:∀{n:Nat}{acc:List (Str×Addr)},∀Y:(x,NameKind.cell)∉names,(cellsFrom n names acc).lookup x=acc.lookup x:=by
 induction names with
 |nil=>exact fun Y=>rfl
 |cons z r ih=>
  intro n acc h;unfold cellsFrom
  split
  ·rename_i aK;rw[ih fun q=>h (.tail _ q),qE,if_neg fun q=>h (by rw[q,←eq_of_beq aK];exact .head _)]
  ·exact ih fun q=>h (.tail _ q)
theorem HJ{names:List (Str×NameKind)}{x:Str}{c:Addr}:∀{h:Heap}{acc:List (Str×Addr)},∀Y:(x,c)∈cellsFrom h.objs.size names acc,(x,c)∈acc∨(pushCells h names).IsCell c none:=by
 induction names with
 |nil=>exact .inl
 |cons z r ih=>
  intro h acc hm;unfold cellsFrom at hm;unfold pushCells
  split at hm
  ·rename_i aK;rw[if_pos aK];rw[←Heap.size_push h {cls:=.type "cell",data:=.cell none}]at hm;rcases ih hm with hm|hm
   ·rcases List.mem_cons.mp hm with q|hm
    ·cases q
     exact .inr (Heap.IsCell.keeps (h:=h.push {cls:=.type "cell",data:=.cell none}) ⟨_,Heap.get?_push_size _ rfl,rfl⟩ (pushCells_keeps _ _))
    ·exact .inl hm
   ·exact .inr hm
  ·rename_i aK;rw[if_neg aK];exact ih hm
theorem HK{aB names:List (Str×NameKind)}{n:Str}{kd:NameKind}(h:(oj aB names).lookup n=some kd):∃lZ,names.lookup n=some lZ∧kd=if(lZ==.free&&aB.lookup n==some .cell)then .cell else lZ:=by
 induction names with
 |nil=>exact gh h
 |cons z r ih=>
  obtain⟨y,lZ⟩:=z
  have e:oj aB ((y,lZ)::r)=(y,if(lZ==.free&&aB.lookup y==some .cell)then .cell else lZ)::oj aB r:=by
   unfold oj;rw[List.map_cons];congr 1;split<;>rfl
  rw[e,qE]at h;rw[qE];by_cases q:n=y
  ·subst q;rw[if_pos rfl]at h ⊢;exact⟨lZ,rfl,(Option.some.inj h).symm⟩
  ·rw[if_neg q]at h ⊢;exact ih h
theorem O4(aB:List (Str×NameKind))(names:List (Str×NameKind)):(oj aB names).map (·.1)=names.map (·.1):=by
 unfold oj;rw[List.map_map];refine List.map_congr_left fun x Y=>?_;show(if _ then(x.1,NameKind.cell)else x).1=x.1
 split<;>rfl
theorem HL{f:∀Y:Str,Option ah}:∀(l:List Str)(i:Nat)(z:Str),∀Y:l[i]?=some z,getV (l.map f) i=f z
 |y::r,0,z,h=>by cases h;rfl
 |y::r,i+1,z,h=>HL r i z (by simpa using h)
theorem Cs:∀(l:Loc)(i:Nat)(u v:ah),setV (setV l i u) i v=setV l i v
 |[],_,_,_=>rfl
 |_::_,0,_,_=>rfl
 |_::r,i+1,u,v=>congrArg (_::·) (Cs r i u v)
noncomputable def compEnv(scope:Scope)(cells:List (Str×Addr))(L:Addr)(env:Env):Env:=
 {scope:=relabel scope env,locals:=L,globals:=env.globals,cells,qual:=env.qual,func:=none,code:=env.code,frame:=env.frame,builtins:=env.builtins}
theorem HM{scope:Scope}{x:Str}{env:Env}{am:List Addr}{h:Heap}{loc:Loc}{st:St}(dh:j9 ak scope x=true)(R:d7 B ak env am h loc)(S:bh prog w B am h st):
 ∃cl,closureFor scope env=pure cl∧∀(c:String),d7 B (iy ak scope) (compEnv scope (cellsFrom (h.objs.size+1) scope.names cl) h.objs.size env) am (pushCells (h.push {cls:=.type c,data:=.dict #[]}) scope.names) (tV ak scope loc):=by
 simp only[j9,Bool.and_eq_true,beq_iff_eq,decide_eq_true_eq]at dh;refine ar ?_ dh;clear dh;refine ar ?_;refine ar ?_;intro yT sd;intro Ca;intro Cb
 have HN:∀n,∀Y:(n,NameKind.free)∈scope.names,∃i c v,ak.vars.lookup n=some i∧(ak.kinds.lookup n=some .cell∨ak.kinds.lookup n=some .free)∧env.cells.lookup n=some c∧h.IsCell c v∧∀pv,∀Y:getV loc i=some pv,∃u,v=some u∧bc am h pv u:=fun n az=>by
  have:=List.all_eq_true.mp Ca _ az;simp only[beq_self_eq_true,Bool.not_true,Bool.false_or,Bool.and_eq_true,Bool.or_eq_true,beq_iff_eq]at this;refine aj ?_ (Option.isSome_iff_exists.mp this.1);intro i hi;refine aj ?_ (R.var n i hi);intro v;refine ar ?_;intro b6 aD;have pK:env.kindOf n=ak.kinds.lookup n:=by rw[←R.lN];rfl
  rcases b6 with⟨aK,_⟩|⟨_,c,aG,kZ⟩
  ·rw[pK]at aK;rcases this.2 with q|q<;>rw[q]at aK<;>cases aK
  ·exact(cE i c v ⟨hi,this.2,aG,kZ,aD⟩)
 refine aj ?_ (HH (env:=env) scope.names [] fun n az=>let ⟨_,c,_,_,_,aG,_⟩:=HN n az;⟨c,aG⟩);intro cl;refine cH ?_;intro e ae af aH;refine⟨cl,?_,fun wg=>?_⟩
 ·rw[List.append_nil]at e;rw[←e];unfold closureFor;show(forIn scope.names [] _>>=fun r=>pure r)=_;rw[bind_pure]
 have c8:(h.push {cls:=.type wg,data:=.dict #[]}).objs.size=h.objs.size+1:=Heap.size_push ..;have cv:∀b o,∀Y:h.get? b=some o,(pushCells (h.push {cls:=.type wg,data:=.dict #[]}) scope.names).get? b=some o:=fun b o e=>pushCells_keeps _ _ b o (Heap.get?_push_of_some _ e);have du:fR h (pushCells (h.push {cls:=.type wg,data:=.dict #[]}) scope.names):=fun b o Y e=>cv b o e;have gk:(pushCells (h.push {cls:=.type wg,data:=.dict #[]}) scope.names).Ns h.objs.size fun Y=>none:=(Heap.Ns.new h (.type wg)).keeps (pushCells_keeps _ _)
 have off:∀b,∀Y:h.objs.size≤b,b∉am∧B.get? b=none:=fun b av=>⟨fun hm=>absurd (S.lt hm) (Nat.not_lt.mpr av),by
  cases e:B.get? b with
  |none=>rfl
  |some o=>exact absurd (Heap.lt_size (S.base b o e)) (Nat.not_lt.mpr av)⟩
 have tX:∀n c,∀Y:(n,c)∈cl,c∈Own env∧c<h.objs.size:=fun n c hm=>by
  have n7:=(ae n c hm).2
  have g7:c∈Own env:=by
   simp only[Own,List.mem_cons,List.mem_map];exact .inr ⟨_,PySem.mem_of_lookup n7,rfl⟩
  refine ar ?_ (R.own c g7);refine aj ?_;intro o;refine ar ?_;intro e _;intro _;exact⟨g7,Heap.lt_size e⟩
 have HO:=aH sd
 have lk:∀n,∀Y:(n,NameKind.free)∈scope.names,(cellsFrom (h.objs.size+1) scope.names cl).lookup n=env.cells.lookup n:=fun n az=>by
  have su:(n,NameKind.cell)∉scope.names:=fun q=>by
   have aR:=pH sd az;have aW:=pH sd q;rw[aR]at aW;cases aW
  rw[O3 su];obtain⟨⟨m,d⟩,hm,rfl⟩:=List.mem_map.mp (af n az);rw[pH HO hm,(ae m d hm).2]
 refine⟨yT,HG R.iF R.lN,R.nZ,R.o6,(fun Y h=>nomatch h),fun x y i=>B6,⟨_,gk⟩,fun b av=>?_,?_,fun c aG=>?_,fun y i au=>?_⟩
 ·rcases List.mem_cons.mp av with rfl|av
  ·refine bG ?_ gk;clear gk;intro o a9 ep;refine aY ?_;intro e d _;exact⟨⟨o,e,by rintro(⟨_,_,_,q⟩|⟨_,_,q⟩|⟨_,_,q⟩)<;>rw[d]at q<;>cases q⟩,off _ (Nat.le_refl _)⟩
  ·obtain⟨⟨n,c⟩,aG,rfl⟩:=List.mem_map.mp av;have kY:(n,c)∈cellsFrom (h.objs.size+1) scope.names cl:=aG;have d5:=za kY;rw[←c8]at kY;rcases HJ kY with hm|⟨o,e,d⟩
   ·refine aY ?_ (R.own c (tX n c hm).1);refine aj ?_;intro o;refine ar ?_;intro e aK;intro af aH;exact⟨⟨o,cv c o e,aK⟩,af,aH⟩
   ·refine⟨⟨o,e,by rintro(⟨_,_,_,q⟩|⟨_,_,q⟩|⟨_,_,q⟩)<;>rw[d]at q<;>cases q⟩,?_⟩;rcases d5 with hm|⟨_,d5⟩
    ·exact(R.own c (tX n c hm).1).2
    ·exact off c (by exact aq (.a (.b .p) .q (.l .p .q)) rfl d5)
 ·refine O2 ?_ fun x ai=>Nat.lt_succ_of_lt (tX x.1 x.2 ai).2;rw[List.pairwise_iff_getElem];intro i j hi aO iG q;have f3:=ae cl[i].1 cl[i].2 (List.getElem_mem hi);have f5:=ae cl[j].1 cl[j].2 (List.getElem_mem aO);have aR:=PySem.mem_of_lookup f3.2;have aW:=PySem.mem_of_lookup f5.2;rw[←q]at aW;have cz:=name_of_addr R.apart aR aW;have az:=(List.pairwise_iff_getElem.mp HO) i j (by simpa using hi) (by simpa using aO) iG;simp[cz]at az
 ·have kY:c∈cellsFrom (h.objs.size+1) scope.names cl:=aG;rcases za (x:=c.1) (c:=c.2) kY with hm|⟨_,d5⟩
  ·exact Nat.ne_of_lt (tX _ _ hm).2
  ·exact Nat.ne_of_gt d5
 ·have aT:=(v8 au).2;rw[Nat.sub_zero]at aT;have qI:getV (tV ak scope loc) i=(if scope.names.lookup y=some .free then(match ak.vars.lookup y with|some i=>getV loc i|none=>none)else none):=HL _ _ _ aT;refine aj ?_ (Ht (Hv au) (by rw[O4];exact sd));intro kd;refine ar ?_;intro eG aN;refine aj ?_ (HK eG);intro lZ;refine ar ?_;intro sx zb
  have pK:(compEnv scope (cellsFrom (h.objs.size+1) scope.names cl) h.objs.size env).kindOf y=some kd:=by
   show(relabel scope env).names.lookup y=_;rw[HG R.iF R.lN];exact eG
  by_cases bq:lZ=.free
  ·subst bq;have ez:=PySem.mem_of_lookup sx;refine bG ?_ (HN y ez);intro j c v;refine eY ?_;intro aO HP aG kZ aD
   have Ct:kd=.cell∨kd=.free:=by
    rw[zb];split
    ·exact .inl rfl
    ·exact .inr rfl
   refine⟨v,.inr ⟨by rcases Ct with q|q<;>rw[q]at pK<;>simp[pK],c,by rw[←aG];exact lk y ez,kZ.keeps cv⟩,fun pv e=>?_⟩;rw[qI,if_pos sx,aO]at e;refine aj ?_ (aD pv e);intro u;refine ar ?_;intro aR aW;exact⟨u,aR,aW.mono (List.prefix_refl _) du⟩
  ·have Ct:kd=lZ:=by
    rw[zb,if_neg];simp[bq]
   rw[Ct]at pK aN
   have HQ:∀pv,getV (tV ak scope loc) i≠some pv:=fun pv e=>by
    rw[qI,if_neg (by rw[sx];exact fun q=>bq (Option.some.inj q))]at e;cases e
   cases lZ<;>first|exact absurd rfl bq|(cases aN;done)|skip
   ·exact⟨none,.inl ⟨pK,_,gk,rfl⟩,fun pv e=>absurd e (HQ pv)⟩
   ·refine aj ?_ (Option.isSome_iff_exists.mp (B7 (n:=h.objs.size+1) (acc:=cl) (.inl sx)));intro c aG;have jc:(y,c)∈cellsFrom (h.objs.size+1) scope.names cl:=PySem.mem_of_lookup aG
    have nh:(y,c)∉cl:=fun hm=>by
     have:=pH sd (ae y c hm).1;rw[sx]at this;cases this
    rw[←c8]at jc;refine⟨none,.inr ⟨.inl pK,c,aG,?_⟩,fun pv e=>absurd e (HQ pv)⟩;exact(HJ jc).resolve_left nh
end Mine
end
section
namespace Mine
variable{prog:Program}{w:World}{B:Heap}{ak:dB}{k:Nat}
noncomputable def qJ(P:b5)(xi:Nat)(mk:∀Y:Loc,Loc) (b4:e9) (fE:b5):b5:=fun Q loc st=>P (fun v aU=>∃(xs:List ah)(I:∀Y:Nat,∀Y:St,Prop),I 0 (aU++[.list []])∧∀n ao,∀Y:I n ao,ju v ao=some xs∧
 match xs[n]? with
 |some y=>b4 (fun b cX=>if b=true then fE (fun u jH=>pF (.ref aU.length) u (fun Y kB=>I (n+1) kB) jH) (setV (mk loc) xi y) cX else I (n+1) cX) (setV (mk loc) xi y) ao
 |none=>Q (.ref aU.length) ao) loc st
theorem O5{A:Around}{s:Shared}{scope:Scope}{cl:List (Str×Addr)}{env:Env}{F:∀Y:Env,∀Y:Shared,Prop}
 (h:F {scope,locals:=s.heap.objs.size,globals:=env.globals,cells:=cellsFrom (s.heap.objs.size+1) scope.names cl,qual:=env.qual,func:=none,code:=env.code,frame:=env.frame,builtins:=env.builtins}
   {s with heap:=pushCells (s.heap.push {cls:=.type "dict",data:=.dict #[]}) scope.names}):
 wpAny (model prog w) A (newFunctionEnv scope env.globals cl [] env.qual none .none (some env)) F bo s:=by
 simp only[newFunctionEnv,Option.isSome_some,if_true];refine wpAny_bind (wpAny_alloc ?_);refine wpAny_bind (wpAny_layCells _ (fun name kind cells=>by cases HP:kind==NameKind.cell<;>simp[HP]) _ _ _ _ ?_);rw[show({s with heap:=s.heap.push {cls:=.type "dict",data:=.dict #[]}}:Shared).heap.objs.size=s.heap.objs.size+1 from Heap.size_push ..];refine wpAny_bind ?_;rw[List.forIn_nil];exact wpAny_pure (wpAny_pure h)
theorem c9.gY{am aX:List Addr}{s s':Shared}{I:Addr}{h':Heap}{tk:Nat}{d:Drawn}(x:c9 am s aX s')(bE:s.heap.get? I=none)(k:∀b o,∀Y:b≠I,∀Y:s'.heap.get? b=some o,h'.get? b=some o):c9 am s aX {s' with heap:=h',toks:=tk,drawn:=d}:=by
 obtain⟨⟨h,t,o7,rfl⟩,a⟩:=x;exact⟨(cE _ _ _ rfl),a.pre,fun b o ae e=>k b o (fun q=>by rw[q,bE]at e;cases e) (a.keep b o ae e),a.fresh⟩
section
variable{elt iter:Expr}{x:Str}{px:Pos}{ifs:List Expr}{scope:Scope}{pos:Pos}{xi:Nat}{P fE:b5}{b4:e9}
theorem O6(dh:j9 ak scope x=true):scope.names.map (·.1) |>.Nodup:=by
 unfold j9 at dh;rw[Bool.and_eq_true,Bool.and_eq_true,Bool.and_eq_true,decide_eq_true_iff]at dh;exact dh.1.1.2
theorem O7(dh:j9 ak scope x=true){n:Str}(az:(n,NameKind.free)∈scope.names):∃i,ak.vars.lookup n=some i∧(ak.kinds.lookup n=some .cell∨ak.kinds.lookup n=some .free):=by
 unfold j9 at dh;rw[Bool.and_eq_true,Bool.and_eq_true]at dh;have h:=List.all_eq_true.mp dh.1.2 _ az;rw[Bool.or_eq_true,Bool.and_eq_true,Bool.or_eq_true,beq_iff_eq,beq_iff_eq]at h;rcases h with h|h
 ·cases h
 ·refine aj ?_ (Option.isSome_iff_exists.mp h.1);intro i hi;exact⟨i,hi,h.2⟩
theorem HR(dh:j9 ak scope x=true):scope.names.lookup x=some .local∨scope.names.lookup x=some .cell:=by
 unfold j9 at dh;rw[Bool.and_eq_true,Bool.or_eq_true,beq_iff_eq,beq_iff_eq]at dh;exact dh.2
theorem O8(dh:j9 ak scope x=true):(x,NameKind.free)∉scope.names:=fun e=>by
 have:=pH (O6 dh) e;rcases HR dh with q|q<;>cases q.symm.trans this
theorem O9(dh:j9 ak scope x=true):(iy ak scope).kinds.lookup x≠some .free:=fun e=>by
 refine aj ?_ (HK e);intro lZ;refine ar ?_;intro sx zb;rcases HR dh with q|q<;>cases q.symm.trans sx<;>simp at zb
theorem Pa{env:Env}{am:List Addr}{h:Heap}{loc:Loc}{cl:List (Str×Addr)}(dh:j9 ak scope x=true)(R:d7 B ak env am h loc)(b9:closureFor scope env=pure cl):
 ∀n c,∀Y:(n,c)∈cl,(n,NameKind.free)∈scope.names∧env.cells.lookup n=some c:=by
 refine aj ?_ (HH (env:=env) scope.names [] fun n az=>by
  refine aj ?_ (O7 dh az);intro i;refine ar ?_;intro hi eG;refine aj ?_ (R.var n i hi);intro v;refine ar ?_;intro b6 aD;have pK:env.kindOf n=ak.kinds.lookup n:=by rw[←R.lN];rfl
  rcases b6 with⟨aK,_⟩|⟨_,c,aG,kZ⟩
  ·rw[pK]at aK;rcases eG with q|q<;>cases q.symm.trans aK
  ·exact⟨c,aG⟩);intro HS;refine cH ?_;intro cz g1 _ _
 have jf:closureFor scope env=pure HS:=by
  rw[List.append_nil]at cz;rw[←cz];unfold closureFor;show(forIn scope.names [] _>>=fun r=>pure r)=_;rw[bind_pure]
 have g8:(Sem.pure cl:Sem _)=Sem.pure HS:=b9.symm.trans jf;injection g8 with g8
 exact g8▸g1
theorem Cu{am aX:List Addr}{s s':Shared}{st:St}{bQ:Addr}{pv:ah}{j:Nat}(S:bh prog w B am s.heap st)(hi:iH am s.heap bQ pv j)(az:bQ∉am)(aK:∃o,s.heap.get? bQ=some o∧¬Kept o) (t:c9 am s aX s'):
 iH aX s'.heap bQ pv j∧bQ∉aX∧∃o,s'.heap.get? bQ=some o∧¬Kept o:=by
 refine aj ?_ aK;clear aK;intro o;refine ar ?_;intro e aK;have aW:=t.ext.keep bQ o az e;exact⟨hi.at_ t.ext.pre (S.gH t.ext) (fun cf cA=>(Option.some.inj (e.symm.trans cA))▸aW),(fun hm=>gh ((t.ext.fresh bQ hm az).symm.trans e)),o,aW,aK⟩
noncomputable def Pb(b4:e9)(fE:b5)(xi nl:Nat)(mH:Loc)(I:∀Y:Nat,∀Y:St,Prop) (Q:∀Y:ah,∀Y:St,Prop) (pv:ah) (xs:List ah):Prop:=∀n ao,∀Y:I n ao,ju pv ao=some xs∧
 match xs[n]? with
 |some y=>b4 (fun b cX=>if b=true then fE (fun u jH=>pF (.ref nl) u (fun Y kB=>I (n+1) kB) jH) (setV mH xi y) cX else I (n+1) cX) (setV mH xi y) ao
 |none=>Q (.ref nl) ao
noncomputable abbrev CompI(prog:Program)(w:World)(B:Heap)(ak:dB)(iz:Env)(l0:Shared)(oq am:List Addr)(bQ:Addr)(pv:ah)(xs:List ah)(xi:Nat)(mH:Loc)(I:∀Y:Nat,∀Y:St,Prop) (n:Nat) (s':Shared):Prop:=
 ∃aX ao wh i,c9 oq l0 aX s'∧am <+: aX∧bh prog w B aX s'.heap ao∧d7 B ak iz aX s'.heap wh∧(∀y,setV wh xi y=setV mH xi y)∧
  iH aX s'.heap bQ pv i∧bQ∉aX∧(∃o,s'.heap.get? bQ=some o∧¬Kept o)∧I i ao∧n=xs.length-i
theorem Pc(ck:tW prog w B (iy ak scope) k ifs b4)(g9:b3 prog w B (iy ak scope) k elt fE)(ai:(iy ak scope).vars.lookup x=some xi)(Pd:(iy ak scope).kinds.lookup x≠some .free)
 {A:Around}{iz:Env}{l0 s:Shared}{oq am:List Addr}{st:St}{mH:Loc}{bQ D:Addr}{nl:Nat}{pv:ah}{xs:List ah}{I:∀Y:Nat,∀Y:St,Prop} {Q:∀Y:ah,∀Y:St,Prop} {RR:∀Y:Result,∀Y:Shared,Prop} (aL:gW A k)
 (mC:bQ∉Own iz) (rZ:B.get? bQ=none) (HT:l0.heap.get? bQ=none) (Cv:∀L,∀Y:(L=iz.locals∨(x,L)∈iz.cells),l0.heap.get? L=none) (turn:Pb b4 fE xi nl mH I Q pv xs) (tY:am[nl]?=some D)
 (t:c9 oq l0 am s) (S:bh prog w B am s.heap st) (R:d7 B (iy ak scope) iz am s.heap mH) (cF:iH am s.heap bQ pv 0) (yM:bQ∉am) (rY:∃o,s.heap.get? bQ=some o∧¬Kept o) (aV:I 0 st)
 (Cw:∀s' aX ao loc,∀Y:c9 oq l0 aX s',∀Y:bh prog w B aX s'.heap ao,∀Y:aX[nl]?=some D,∀Y:d7 B (iy ak scope) iz aX s'.heap loc,∀Y:Q (.ref nl) ao,RR (.ok .next) s'):
 codeAny (model prog w) A (.compLoop (.ListComp elt [⟨.Name x px,iter,ifs,0⟩] scope pos) 0 (.ref bQ) (.ref D) iz) RR s:=by
 refine codeAny_compLoop_tests (CompI prog w B (iy ak scope) iz l0 oq am bQ pv xs xi mH I) ?_ _ (dX am st mH 0 ⟨t,List.prefix_refl _,S,R,fun Y=>rfl,cF,yM,rY,aV,rfl⟩) (by intro _;rfl);clear t S R cF yM rY aV;intro n s';refine dF ?_;intro aX ao wh j;refine Mr ?_;rintro e8 qF dJ kA zc jL qz qA rX rfl;refine ar ?_ (turn _ _ rX);intro fc pC
 have mk {fj:Shared} {iu:List Addr} {tZ:St} {Cx:Loc} (aV:j<xs.length) (ae:c9 oq l0 iu fj) (af:am <+: iu) (aH:bh prog w B iu fj.heap tZ) (bX:d7 B (iy ak scope) iz iu fj.heap Cx) (et:∀y,setV Cx xi y=setV mH xi y)
  (fq:iH iu fj.heap bQ pv (j+1)∧bQ∉iu∧∃o,fj.heap.get? bQ=some o∧¬Kept o) (jg:I (j+1) tZ):∃m,m<xs.length-j∧CompI prog w B (iy ak scope) iz l0 oq am bQ pv xs xi mH I m fj:=
  ⟨_,Nat.sub_lt_sub_left aV (Nat.lt_succ_self j),iu,tZ,Cx,j+1,ae,af,aH,bX,et,fq.1,fq.2.1,fq.2.2,jg,rfl⟩
 generalize CompI prog w B (iy ak scope) iz l0 oq am bQ pv xs xi mH I=K at mk ⊢;clear turn;refine never (yL aL.1 dJ jL qA fc ⟨fun y qH cZ qB au iI qC aN yN=>?_,fun cZ qB hle iI=>?_⟩)
 ·rw[au]at pC;have bC:=(List.getElem?_eq_some_iff.mp au).1;refine ar ?_ (dJ.gY iI ⟨qA,qz,rZ⟩);intro zd lU;have Cy:d7 B (iy ak scope) iz aX cZ wh:=kA.at_ (fun a aJ o e=>iI a o (fun q=>mC (q▸aJ)) e) lU;have n6:c9 oq l0 aX {s' with heap:=cZ,toks:=qB}:=e8.gY HT iI;refine wpAny_assign_Name (never (BT (s:={s' with heap:=cZ,toks:=qB}) Cy zd ai Pd (aN.mono (List.prefix_refl _) lU) fun qK eP wi Cz wj Pe ze zf=>?_))
  have t6:qK∈Own iz:=by
   rcases wi with rfl|hm
   ·exact List.mem_cons_self ..
   ·exact List.mem_cons_of_mem _ (List.mem_map.mpr ⟨_,hm,rfl⟩)
  have HU:bQ≠qK:=fun q=>mC (q▸t6)
  have vU:c9 oq l0 aX eP:=by
   refine bG ?_ Cz;clear Cz;rintro aH lq iL rfl;exact n6.gY (Cv qK wi) wj
  have HV:fR cZ eP.heap:=fun b o bx e=>wj b o (fun q=>by
   refine ar ?_ (Cy.own qK t6);refine aj ?_;intro bO;refine ar ?_;intro cA az;intro _;rw[q,cA]at e;cases e;exact az bx) e
  have HW:iH aX eP.heap bQ pv (j+1):=yN.at_ (List.prefix_refl _) HV fun o e=>wj bQ o HU e;have HX:∃o,eP.heap.get? bQ=some o∧¬Kept o:=let ⟨o,e,az⟩:=qC;⟨o,wj bQ o HU e,az⟩;clear qC yN Cz wj Pe wi t6 HV Cy n6 zd lU iI kA dJ e8 jL qA;rw[zc]at zf;refine never (rN (ck aL zf ze pC) fun b pD pE kB wk zg nj=>?_);have zh:=Cu ze HW qz HX wk;have CA:=zf.ext ze wk.ext;have CB:=qF.trans wk.ext.pre;have HY:=vU.trans wk;cases b with
  |false=>
   rw[if_neg Bool.false_ne_true]at nj ⊢;exact mk bC HY CB zg CA (fun y=>Cs _ _ _ _) zh nj
  |true=>
   rw[if_pos rfl]at nj ⊢;clear vU ze zf HW HX wk;refine never (dZ (g9 aL CA zg nj) fun u Pf Xo Xp pu wm zj Pg CC=>?_);have CD:=Cu zg zh.1 zh.2.1 zh.2.2 wm;refine aj ?_ (gG CC);intro zs;refine aY ?_;intro Ph hlen CC;refine bG ?_ (zj.tN (.ref (o5 (CB.trans wm.ext.pre) tY)) Ph);intro _ vs m;refine cH ?_;intro aR hm aD aC;cases aR
   refine never (OZ aD ?_ (by rw[List.size_toArray,←aC.length];exact hlen));refine bG ?_ (yP (tk:=Pf.toks) (pv:=.none) (v:=.none) (Q:=fun Y st=>I (j+1) st) zj hm vW (vV (f:=fun xs=>xs.push u) aD (vs':=vs++[u]) (List.push_toArray ..) (aC.append (.cons Pg .nil))) .none CC);intro Xq Xr Xs;refine cH ?_;intro bj Pj _ Pk;exact mk bC ((HY.trans wm).trans bj) ((CB.trans wm.ext.pre).trans bj.ext.pre) Pj ((CA.ext zg wm.ext).ext zj bj.ext) (fun y=>Cs _ _ _ _) (Cu zj CD.1 CD.2.1 CD.2.2 bj) Pk
 ·rw[List.getElem?_eq_none_iff.mpr hle]at pC;refine ar ?_ (dJ.gY iI ⟨qA,qz,rZ⟩);intro zd lU;exact Cw _ aX ao wh (e8.gY HT iI) zd (o5 qF tY) (kA.at_ (fun a aJ o e=>iI a o (fun q=>mC (q▸aJ)) e) lU) pC
end
theorem HZ{elt iter:Expr}{x:Str}{px:Pos}{ifs:List Expr}{scope:Scope}{pos:Pos}{xi:Nat}{P fE:b5}{b4:e9}(h:b3 prog w B ak k iter P)(ck:tW prog w B (iy ak scope) k ifs b4)(g9:b3 prog w B (iy ak scope) k elt fE)
 (dh:j9 ak scope x=true)(ai:(iy ak scope).vars.lookup x=some xi)
 {A:Around}{env:Env}{s:Shared}{am:List Addr}{loc:Loc}{st:St}{Q:∀Y:ah,∀Y:St,Prop} {RR:∀Y:Value,∀Y:Addr,∀Y:Result,∀Y:Shared,Prop} (aL:gW A k) (R:d7 B ak env am s.heap loc) (S:bh prog w B am s.heap st) (q:qJ P xi (tV ak scope) b4 fE Q loc st)
 (Cw:∀D L s' aX ao pv,∀Y:c9 am s aX s',∀Y:bh prog w B aX s'.heap ao,∀Y:bc aX s'.heap pv (.ref D),∀Y:Q pv ao,∀Y:s.heap.get? L=none,∀Y:((∃o,s'.heap.get? L=some o∧¬Kept o)∧L∉aX∧B.get? L=none),∀Y:(∃m,s'.heap.Ns L m),RR (.ref D) L (.ok .next) s'):
 ∃cl,closureFor scope env=pure cl∧wpAny (model prog w) A (eval iter env) (fun Pn ba=>wpAny (model prog w) A (pyIter Pn) (fun it dw=>wpAny (model prog w) A (newList []) (fun acc eP=>
  wpAny (model prog w) A (newFunctionEnv scope env.globals cl [] env.qual none .none (some env)) (fun iz pD=>
   codeAny (model prog w) A (.compStart (.ListComp elt [⟨.Name x px,iter,ifs,0⟩] scope pos) 0 it acc {iz with scope:=relabel scope env}) (RR acc iz.locals) pD) bo eP) bo dw) bo ba) bo s:=by
 refine aj ?_ (HM dh R S);intro cl;refine ar ?_;rintro b9-;refine⟨cl,b9,dZ (h aL R S q) fun v ba bV aU pv bj bk cN bF=>?_⟩;refine bZ ?_ bF;clear bF;intro xs I;refine ar ?_;intro aV turn;have gZ:=R.ext S bj.ext
 have fc:∃ys,ju pv aU=some ys:=by
  have e:=(turn 0 _ aV).1;cases pv with
  |ref n=>
   have az:n<aU.length:=by refine aj ?_ cN.qo;intro a;refine ar ?_;intro _ az;rw[←bk.len];exact(List.getElem?_eq_some_iff.mp az).1
   have aR:((aU++[bB.list []])[n]?).bind BH=some xs:=e;rw[List.getElem?_append_left az]at aR;exact⟨_,aR⟩
  |_=>exact⟨_,e⟩
 refine aj ?_ fc;clear fc;intro ys eu;refine BZ bk cN eu fun bQ h' tk aK ni rY cF=>?_;have cw:bh prog w B bV h' aU:=bk.keeps aK;have CE:Ext bV ba.heap bV h':=.of_keeps aK;have fZ:d7 B ak env bV h' loc:=gZ.ext bk CE;have cB:c9 bV ba bV {ba with heap:=h',toks:=tk}:=.heap CE;refine wpAny_newObj_type ?_;have Po:h'.get? h'.objs.size=none:=lQ h';refine ar ?_ (cw.add (a:=h'.objs.size) (o:=.list []) (h':=h'.push {cls:=.type "list",dict:=none,data:=.seq ([]:List Value).toArray}) (fun Y Y e=>Heap.get?_push_of_some _ e) Po ⟨[],⟨0,Heap.get?_push_size _ rfl⟩,.nil⟩);intro fU sq;have Pp:bQ∉bV:=fun hm=>by refine aj ?_ (bk.there hm);intro o;refine ar ?_;intro e _;rw[ni]at e;cases e
 have wo:bQ<h'.objs.size:=let ⟨o,e,_⟩:=rY;Heap.lt_size e;have eT:c9 bV {ba with heap:=h',toks:=tk} (bV++[h'.objs.size]) {ba with heap:=h'.push {cls:=.type "list",dict:=none,data:=.seq ([]:List Value).toArray},toks:=tk}:=.heap (s:={ba with heap:=h',toks:=tk}) sq;have lV:=fZ.ext cw sq;refine aj ?_ (HM dh lV fU);intro CF;refine ar ?_;intro H0 fr
 have wt:CF=cl:=by
  rw[b9]at H0;have:(Sem.pure cl:Sem _)=Sem.pure CF:=H0;injection this with h;exact h.symm
 subst wt;refine O5 ?_;have Pq:=fr "dict";generalize zk:h'.push {cls:=.type "list",dict:=none,data:=.seq ([]:List Value).toArray}=gn at*;have CG:∀b o,∀Y:gn.get? b=some o,(pushCells (gn.push {cls:=.type "dict",data:=.dict #[]}) scope.names).get? b=some o:=fun b o e=>pushCells_keeps _ _ b o (Heap.get?_push_of_some _ e);have t7:gn.get? gn.objs.size=none:=lQ gn;have Xu:(pushCells (gn.push {cls:=.type "dict",data:=.dict #[]}) scope.names).Ns gn.objs.size fun Y=>none:=(Heap.Ns.new gn (.type "dict")).keeps (pushCells_keeps _ _);generalize Xv:pushCells (gn.push {cls:=.type "dict",data:=.dict #[]}) scope.names=pL at*;have lW:bh prog w B (bV++[h'.objs.size]) pL (aU++[.list []]):=fU.keeps CG;have j3:c9 (bV++[h'.objs.size]) {ba with heap:=gn,toks:=tk} (bV++[h'.objs.size]) {ba with heap:=pL,toks:=tk}:=.heap (s:={ba with heap:=gn,toks:=tk}) (.of_keeps CG);have up:∀b o,∀Y:h'.get? b=some o,pL.get? b=some o:=fun b o e=>CG b o (by rw[←zk];exact Heap.get?_push_of_some _ e);have Xw:c9 am s (bV++[h'.objs.size]) {ba with heap:=pL,toks:=tk}:=((bj.trans cB).trans eT).trans j3;have H2:iH (bV++[h'.objs.size]) pL bQ pv 0:=cF.at_ (List.prefix_append _ _) (fun b o Y e=>up b o e) fun o e=>up bQ o e
 have vR:bQ∉bV++[h'.objs.size]:=fun hm=>by
  rcases List.mem_append.mp hm with hm|hm
  ·exact Pp hm
  ·rw[List.mem_singleton.mp hm]at wo;exact Nat.lt_irrefl _ wo
 have vS:∃o,pL.get? bQ=some o∧¬Kept o:=let ⟨o,e,aK⟩:=rY;⟨o,up bQ o e,aK⟩
 have rZ:B.get? bQ=none:=by
  cases e:B.get? bQ with
  |none=>rfl
  |some o=>have:=bk.base bQ o e;rw[ni]at this;cases this
 have Pr:s.heap.get? gn.objs.size=none:=by
  cases e:s.heap.get? gn.objs.size with
  |none=>rfl
  |some o=>
   exfalso;by_cases hm:gn.objs.size∈am
   ·have bC:=fU.lt ((bj.ext.pre.trans sq.pre).subset hm);exact Nat.lt_irrefl _ bC
   ·have aR:=(bj.ext.trans (CE.trans sq)).keep _ o hm e;have aW:gn.get? gn.objs.size=some o:=aR;rw[t7]at aW;cases aW
 have H3:=Pa dh R b9
 let iz:=compEnv scope (cellsFrom (gn.objs.size+1) scope.names CF) gn.objs.size env
 have mC:bQ∉Own iz:=fun hm=>by
  rcases List.mem_cons.mp hm with q|hm
  ·have:gn.objs.size=h'.objs.size+1:=by rw[←zk,Heap.size_push]
   have nt:bQ=gn.objs.size:=q;rw[nt,this]at wo;exact Nat.lt_irrefl _ (Nat.lt_of_succ_lt wo)
  ·obtain⟨⟨n,c⟩,aG,e⟩:=List.mem_map.mp hm;have cA:c=bQ:=e;subst cA;rcases za (x:=n) (c:=c) aG with lh|⟨_,d5⟩
   ·
    have Ps:c∈Own env:=by
     simp only[Own,List.mem_cons,List.mem_map];exact .inr ⟨_,PySem.mem_of_lookup (H3 n c lh).2,rfl⟩
    refine ar ?_ (gZ.own c Ps);refine aj ?_;intro o;refine ar ?_;intro e _;intro _;rw[ni]at e;cases e
   ·have:gn.objs.size=h'.objs.size+1:=by rw[←zk,Heap.size_push]
    have:h'.objs.size<c:=by exact aA (.a (.b .r) .q (.i (-1) (.e .r (.b .p)) (.t .p .q))) rfl d5 this
    exact Nat.lt_asymm this wo
 have H4:∀a,∀Y:gn.objs.size≤a,ba.heap.get? a=none:=fun a aJ=>by
  cases e:ba.heap.get? a with
  |none=>rfl
  |some o=>
   have aW:gn.get? a=some o:=by rw[←zk];exact Heap.get?_push_of_some _ (aK a o e)
   exact absurd (Heap.lt_size aW) (Nat.not_lt.mpr aJ)
 have Pu:c9 bV ba (bV++[h'.objs.size]) {ba with heap:=pL,toks:=tk}:=(cB.trans eT).trans j3
 have Cv:∀L,∀Y:(L=iz.locals∨(x,L)∈iz.cells),ba.heap.get? L=none:=fun L eQ=>by
  rcases eQ with rfl|hm
  ·exact H4 _ (Nat.le_refl _)
  ·rcases za (x:=x) (c:=L) hm with lh|⟨_,d5⟩
   ·exact absurd (H3 x L lh).1 (O8 dh)
   ·exact H4 _ (Nat.le_of_succ_le d5)
 have loop:codeAny (model prog w) A (.compLoop (.ListComp elt [⟨.Name x px,iter,ifs,0⟩] scope pos) 0 (.ref bQ) (.ref h'.objs.size) iz) (RR (.ref h'.objs.size) gn.objs.size) {ba with heap:=pL,toks:=tk}:=
  Pc ck g9 ai (O9 dh) aL mC rZ ni Cv turn (by rw[←bk.len];simp) Pu lW Pq H2 vR vS aV fun s' aX ao fk e8 dJ Pw kA bb=>by
   refine aY ?_ (kA.own gn.objs.size (List.mem_cons_self ..));intro lg Px zl;exact Cw _ gn.objs.size _ aX ao (.ref aU.length) (bj.trans e8) dJ (.ref Pw) bb Pr ⟨lg,Px,zl⟩ kA.ns
 exact codeAny_compStart_list loop (never (O0 (s:={ba with heap:=pL,toks:=tk}) aL.1 lW H2 vR vS (by rw[(turn 0 _ aV).1];rfl) loop))
theorem mJ{elt iter:Expr}{x:Str}{px:Pos}{ifs:List Expr}{scope:Scope}{pos:Pos}{xi:Nat}{P fE:b5}{b4:e9}(h:b3 prog w B ak k iter P)(ck:tW prog w B (iy ak scope) k ifs b4)(g9:b3 prog w B (iy ak scope) k elt fE)
 (dh:j9 ak scope x=true)(ai:(iy ak scope).vars.lookup x=some xi)(hs:autoParam (∀(env:Env) x,foldedSetIterable iter env x=pure x) qd._auto_1):
 b3 prog w B ak k (.ListComp elt [⟨.Name x px,iter,ifs,0⟩] scope pos) (qJ P xi (tV ak scope) b4 fE):=by
 intro A env s am loc st Q aL R S q;have H:=HZ (px:=px) (pos:=pos) h ck g9 dh ai (RR:=fun acc L=>compPost (model prog w) A bo none (dC prog w B am s Q) acc L) aL R S q;have key:=H (fun D L s' aX ao pv t dJ aN nt t7 eQ⟨m,hm⟩=>?_)
 ·refine aj ?_ key;clear key;intro cl;refine ar ?_;intro b9 h;rw[eval_ListComp];simp only[j9,Bool.and_eq_true,beq_iff_eq,decide_eq_true_eq]at dh;exact wpAny_comprehension_free (use:=none) rfl (hs env) b9 dh.1.1.1 (fun y au aD=>by obtain⟨n,kd⟩:=y;cases aD;exact pH dh.1.1.2 au) h
 ·refine⟨m,hm,fun h' eg=>?_⟩;refine ar ?_ (dJ.gY (fun b o av e=>eg.extBut b o av e) eQ);intro cw du;obtain⟨bR,g,d,tk,os⟩:=s';exact(cE aX ao pv ⟨t.gY (tk:=tk) (d:=d) t7 (fun b o av e=>eg.extBut b o av e),cw,aN.mono (List.prefix_refl _) du,nt⟩)
theorem H5{y:Str}{py H6:Pos}{elt iter:Expr}{x:Str}{px:Pos}{ifs:List Expr}{scope:Scope}{pos:Pos}{xi wu:Nat}{P fE:b5}{b4:e9}(h:b3 prog w B ak k iter P)(ck:tW prog w B (iy ak scope) k ifs b4)(g9:b3 prog w B (iy ak scope) k elt fE)
 (dh:j9 ak scope x=true)(ai:(iy ak scope).vars.lookup x=some xi)(au:ak.vars.lookup y=some wu)(se:ak.kinds.lookup y≠some .free)
 (Py:∀env:Env,∀Y:env.scope.kind=.function,∀Y:env.scope.names=ak.kinds,swapsWith (.ListComp elt [⟨.Name x px,iter,ifs,0⟩] scope pos) (some (.Name y py)) H6.line env=pure true)
 (hs:autoParam (∀(env:Env) x,foldedSetIterable iter env x=pure x) qd._auto_1):
 gx prog w B ak k (.Assign [.Name y py] (.ListComp elt [⟨.Name x px,iter,ifs,0⟩] scope pos) H6) fun Q loc st=>qJ P xi (tV ak scope) b4 fE (fun v aU=>Q .next (setV loc wu v) aU) loc st:=by
 intro A env s am loc st Q aL R S q;rw[exec_Assign_Name_used _ _ _ _ (Py env R.iF R.lN)];refine wpAny_bind (wpAny_standAt (wpAny_bind ?_));show wpAny _ A (do let _ ←comprehension (.ListComp elt [⟨.Name x px,iter,ifs,0⟩] scope pos) scope env _ (newList []) false (eval iter env) (some (assign (.Name y py) env))) _ _ s;have H:=HZ (px:=px) (pos:=pos) h ck g9 dh ai (RR:=fun acc L=>compPost (model prog w) A bo (some (assign (.Name y py) env)) (fun Y s'=>nf prog w B ak env am s Q .next s') acc L) aL R S q;have key:=H (fun D L s' aX ao pv t dJ aN nt t7 eQ⟨m,hm⟩=>?_)
 ·refine aj ?_ key;clear key;intro cl;refine ar ?_;intro b9 h;simp only[j9,Bool.and_eq_true,beq_iff_eq,decide_eq_true_eq]at dh;exact wpAny_bind (wpAny_mono (wpAny_comprehension_free (use:=some (assign (.Name y py) env)) (Q:=fun Y s'=>nf prog w B ak env am s Q .next s') rfl (hs env) b9 dh.1.1.1 (fun y au aD=>by obtain⟨n,kd⟩:=y;cases aD;exact pH dh.1.1.2 au) h) (fun Y s' bb=>wpAny_pure (wpAny_pure bb)) fun Y Y e=>e)
 ·have CH:L∉Own env:=fun hm=>by refine ar ?_ (R.own L hm);refine aj ?_;intro o;refine ar ?_;intro e _;intro _;rw[t7]at e;cases e
  show wpAny _ A (assign (.Name y py) env (.ref D)) _ _ _;refine wpAny_assign_Name (BT (R.ext S t.ext) dJ au se aN fun qK dw wi H7 iI H8 cw fZ=>?_)
  have t6:qK∈Own env:=by
   rcases wi with rfl|hm
   ·exact List.mem_cons_self ..
   ·simp only[Own,List.mem_cons,List.mem_map];exact .inr ⟨_,hm,rfl⟩
  have H9:L≠qK:=fun q=>CH (q▸t6);have lh:dw.heap.Ns L m:=hm.at' fun o e=>iI L o H9 e;refine⟨m,lh,fun h' eg=>?_⟩;have Pz:(∃o,dw.heap.get? L=some o∧¬Kept o)∧L∉aX∧B.get? L=none:=⟨let ⟨o,e,aK⟩:=eQ.1;⟨o,iI L o H9 e,aK⟩,eQ.2⟩;refine ar ?_ (cw.gY (fun b o av e=>eg.extBut b o av e) Pz);intro fU du;have lV:d7 B ak env aX h' (setV loc wu pv):=fZ.at_ (fun a aJ o e=>eg.extBut a o (fun q=>CH (q▸aJ)) e) du;obtain⟨bR,g,d,tk,os⟩:=dw;refine bG ?_ H7;clear H7;intro aH lq iL cz
  have kF:iT (Own env) am s aX ⟨bR,g,d,tk,os⟩:=(t.k9 R S).trans ⟨⟨aH,lq,iL,cz⟩,⟨List.prefix_refl _,fun b o Y af e=>iI b o (fun q=>af (q▸t6)) e,fun Y ae af=>absurd ae af⟩,fun a aJ⟨o,e⟩=>by
   by_cases q:a=qK
   ·refine aj ?_ H8;clear H8;intro cf;refine ar ?_;intro cA _;exact⟨cf,q▸cA⟩
   ·exact⟨o,iI a o q e⟩⟩
  exact(dX aX ao _ .next ⟨kF.gY (tk:=tk) t7 CH (fun b o av e=>eg.extBut b o av e),fU,lV,.next,nt⟩)
end Mine
end
section
open PySem PyProof.Rows
namespace Mine
section
variable{prog:Program}{w:World}{A:Around}{s:Shared}
noncomputable def b4(prog:Program)(w:World)(A:Around)(s:Shared){dG α:Type}(m:StateT dG Sem α)(Q:∀Y:α,∀Y:dG,Prop) (st:dG):Prop:=
 ∀tk,wpAny (model prog w) A (m.run st) (fun r s'=>(∃gm,s'={s with toks:=gm})∧Q r.1 r.2) (fun Y Y=>False) {s with toks:=tk}
variable{dG α β:Type}
theorem cR{a:α}{Q:∀Y:α,∀Y:dG,Prop} {st:dG} (h:Q a st):b4 prog w A s (pure a:StateT dG Sem α) Q st:=fun tk=>by
 rw[StateT.run_pure];exact wpAny_pure ⟨⟨_,rfl⟩,h⟩
theorem bY{m:StateT dG Sem α}{f:∀Y:α,StateT dG Sem β} {Q:∀Y:β,∀Y:dG,Prop} {st:dG} (h:b4 prog w A s m (fun a ao=>b4 prog w A s (f a) Q ao) st):b4 prog w A s (m>>=f) Q st:=fun tk=>by
 rw[StateT.run_bind];exact wpAny_bind (wpAny_mono (h tk) (fun r s' h'=>by refine ar ?_ h';clear h';refine aj ?_;rintro gm rfl;intro bb;exact bb gm) fun Y Y e=>e)
theorem gp{m:StateT dG Sem α}{Q iV:∀Y:α,∀Y:dG,Prop} {st:dG} (h:b4 prog w A s m Q st) (bb:∀a ao,∀Y:Q a ao,iV a ao):b4 prog w A s m iV st:=
 fun tk=>wpAny_mono (h tk) (fun Y Y h'=>⟨h'.1,bb _ _ h'.2⟩) fun Y Y e=>e
theorem ou{Q:∀Y:dG,∀Y:dG,Prop} {st:dG} (h:Q st st):b4 prog w A s (get:StateT dG Sem dG) Q st:=fun tk=>by
 rw[StateT.run_get];exact wpAny_pure ⟨⟨_,rfl⟩,h⟩
theorem pM{f:∀Y:dG,dG} {Q:∀Y:PUnit,∀Y:dG,Prop} {st:dG} (h:Q ⟨⟩ (f st)):b4 prog w A s (modify f:StateT dG Sem PUnit) Q st:=fun tk=>by
 rw[StateT.run_modify];exact wpAny_pure ⟨⟨_,rfl⟩,h⟩
theorem PA{x:dG}{Q:∀Y:PUnit,∀Y:dG,Prop} {st:dG} (h:Q ⟨⟩ x):b4 prog w A s (set x:StateT dG Sem PUnit) Q st:=fun tk=>by
 rw[StateT.run_set];exact wpAny_pure ⟨⟨_,rfl⟩,h⟩
theorem Ia{m:Sem α}{Q:∀Y:α,∀Y:dG,Prop} {st:dG} (h:∀tk,wpAny (model prog w) A m (fun a s'=>(∃gm,s'={s with toks:=gm})∧Q a st) (fun Y Y=>False) {s with toks:=tk}):b4 prog w A s (liftM m:StateT dG Sem α) Q st:=fun tk=>by
 show wpAny _ A ((StateT.lift m:StateT dG Sem α).run st) _ _ _;rw[StateT.run_lift];exact wpAny_bind (wpAny_mono (h tk) (fun a s' h'=>wpAny_pure h') fun Y Y e=>e)
theorem t8{t:String}{Q:∀Y:Unit,∀Y:dG,Prop} {st:dG} (h:Q () st):b4 prog w A s (liftM (rule t):StateT dG Sem Unit) Q st:=
 Ia fun Y=>wpAny_rule ⟨⟨_,rfl⟩,h⟩
noncomputable abbrev t9{jN dG:Type}(Q I:jN→dG→Prop):ForInStep jN→dG→Prop:=fun r st=>match r with|.done c=>Q c st|.yield c=>I c st
theorem Ib{jN:Type}(f:∀Y:Nat,∀Y:jN,StateT dG Sem (ForInStep jN)) (I:∀Y:List Nat,∀Y:jN,∀Y:dG,Prop) (Q:∀Y:jN,∀Y:dG,Prop)
 (qL:∀x rest b st,∀Y:I (x::rest) b st,b4 prog w A s (f x b) (t9 Q (I rest)) st)
 (nu:∀b st,∀Y:I [] b st,Q b st):∀(l:List Nat)(b:jN)(st:dG),∀Y:I l b st,b4 prog w A s (forIn l b f) Q st
 |[],b,st,h=>by rw[List.forIn_nil];exact cR (nu _ _ h)
 |x::rest,b,st,h=>by
  rw[List.forIn_cons];refine bY (gp (qL x rest b st h) fun r ao h'=>?_);cases r with
  |done pn=>exact cR h'
  |yield pn=>exact Ib f I Q qL nu rest pn ao h'
theorem l3{jN:Type}{a b:Nat}{f:∀Y:Nat,∀Y:jN,StateT dG Sem (ForInStep jN)} (I:∀Y:Nat,∀Y:jN,∀Y:dG,Prop) {Q:∀Y:jN,∀Y:dG,Prop}
 (qL:∀i c st,∀Y:a≤i,∀Y:i<b,∀Y:I i c st,b4 prog w A s (f i c) (t9 Q (I (i+1))) st)
 (nu:∀c st,∀Y:I (max a b) c st,Q c st) {c:jN} {st:dG} (h:I a c st):b4 prog w A s (forIn [a:b] c f) Q st:=by
 rw[Std.Legacy.Range.forIn_eq_forIn_range'];have c8:([a:b]:Std.Legacy.Range).size=b-a:=by simp[Std.Legacy.Range.size]
 show b4 prog w A s (forIn (List.range' a ([a:b]:Std.Legacy.Range).size 1) c f) Q st;rw[c8];refine Ib f (fun l c st=>∃i,a≤i∧i≤max a b∧l=List.range' i (max a b-i) 1∧I i c st) Q ?_ ?_ _ c st ⟨a,Nat.le_refl _,by exact aq (.a .p .q (.l .p .q)) rfl (Nat.le_max_left _ _),by congr 1;exact Nat.le_antisymm ((Nat.le_total _ _).elim (fun cM=>cJ (.i (-1) (.e (.a .q .r) .s) (.c (.a .p .r) .t (.a .t .s (.l .p .q)))) rfl (Nat.sub_add_cancel (aq (.a .p .q (.l .p .q)) rfl (Nat.le_max_left _ _))) (Nat.sub_add_cancel cM) (Nat.le_max_right _ _)) (fun h7=>aq (.c .p .z (.l .p .q)) rfl (Nat.sub_eq_zero_of_le h7))) ((Nat.le_total _ _).elim (fun fL=>cJ (.c (.a .p .r) .s (.c .s .t (.a .t (.a .q .r) (.l .p .q)))) rfl (Nat.sub_add_cancel (aq (.a .p .q (.l .p .q)) rfl (Nat.le_max_left _ _))) (Nat.max_eq_right fL) (cj _ _)) (fun fM=>bA (.c (.a .p .r) .s (.c .s .r (.l .p .q))) rfl (Nat.sub_add_cancel (aq (.a .p .q (.l .p .q)) rfl (Nat.le_max_left _ _))) (Nat.max_eq_left fM))),h⟩
 ·intro x rest c st;refine aj ?_;intro i;refine cH ?_;intro zm mK aD bE
  have bC:i<max a b:=by
   rcases Nat.lt_or_ge i (max a b)with h'|h'
   ·exact h'
   ·rw[show max a b-i=0 by exact Nat.le_antisymm ((Nat.le_total _ (max _ _)).elim (fun aE=>aA (.a .q .r (.c (.a .p .r) .q (.l .p .z))) rfl h' (Nat.sub_add_cancel aE)) (fun bI=>aI (.c .p .z (.l .p .z)) rfl (Nat.sub_eq_zero_of_le bI))) (aI (.l .z .p) rfl)]at aD;simp at aD
  obtain⟨n,az⟩:∃n,max a b-i=n+1:=⟨max a b-i-1,by exact Nat.le_antisymm (aq (.a .p (.b .q) (.l .p (.b .q))) rfl (cj ((max _ _)-_) (1:Nat))) (aq (.c (.b .p) .q (.l (.b .p) .q)) rfl (Nat.sub_add_cancel (aA (.b .q .r (.a .r (.a .p .q) (.l .o .p))) rfl bC (cj (max _ _) _))))⟩;rw[az,List.range'_succ]at aD;refine ar ?_ (List.cons.inj aD);rintro rfl rfl;refine gp (qL x c st zm (by exact(Nat.le_total _ _).elim (fun ay=>aA (.b .p .r (.c .r .q (.t .p .q))) rfl bC (Nat.max_eq_right ay)) (fun aE=>(aA (.a .p .q (.b .q .r (.c .r .p .f))) rfl zm bC (Nat.max_eq_left aE):False).elim)) bE) fun r ao h'=>?_;cases r with
  |done iw=>exact h'
  |yield iw=>exact⟨x+1,by exact aq (.a .p .q (.l .p (.b .q))) rfl zm,by exact aq (.b .p .q (.l (.b .p) .q)) rfl bC,by congr 1;exact Nat.le_antisymm ((Nat.le_total _ (max _ _)).elim (fun aE=>cJ (.i (-1) (.e .r (.b .p)) (.c (.a .r .s) .t (.a .t (.a .q (.b .s)) (.l .p .q)))) rfl az (Nat.sub_add_cancel aE) (cj (max _ _) (_+(1:Nat)))) (fun bI=>aA (.i (-1) (.e .r (.b .p)) (.c .r .z (.l .p .q))) rfl az (Nat.sub_eq_zero_of_le bI))) ((Nat.le_total _ (max _ _)).elim (fun h7=>cJ (.c .r (.b .q) (.i (-1) (.e (.a .r .s) .t) (.c (.a .p (.b .s)) .t (.l .p .q)))) rfl az (Nat.sub_add_cancel h7) (Nat.sub_add_cancel (bA (.i (-1) (.e .r (.b .s)) (.c (.a .r .p) .q (.l (.b .p) .q))) rfl az (Nat.sub_add_cancel h7)))) (fun fL=>(aq (.i (-1) (.e .p (.b .q)) (.c .p .z .f)) rfl az (Nat.sub_eq_zero_of_le fL):False).elim)),h'⟩
 ·intro c st;refine aj ?_;intro i;refine cH ?_;intro zm mK aD bE
  have:i=max a b:=by
   rcases Nat.lt_or_ge i (max a b)with h'|h'
   ·obtain⟨n,az⟩:∃n,max a b-i=n+1:=⟨max a b-i-1,by exact Nat.le_antisymm (aq (.a .p (.b .q) (.l .p (.b .q))) rfl (cj ((max _ _)-_) (1:Nat))) (aq (.c (.b .p) .q (.l (.b .p) .q)) rfl (Nat.sub_add_cancel (aA (.b .q .r (.a .r (.a .p .q) (.l .o .p))) rfl h' (cj (max _ _) _))))⟩;rw[az,List.range'_succ]at aD;simp at aD
   ·exact Nat.le_antisymm (aq (.a .p .q (.l .p .q)) rfl mK) (aq (.a .p .q (.l .p .q)) rfl h')
  subst this;exact nu _ _ bE
end
structure Ord(prog:Program)(w:World)(A:Around)(s:Shared) where
 κ:KeyOrd
 kd:SortKind
 kf:∀Y:Keyed,κ.α
 mem:∀Y:Keyed,Prop
 lt:∀p q,∀Y:mem p,∀Y:mem q,∀tk(Q:∀Y:Bool,∀Y:Shared,Prop),∀Y:(∀gm,Q (κ.blt (kf p) (kf q)) {s with toks:=gm}),wpAny (model prog w) A (keyLt' kd p.1 q.1) Q (fun Y Y=>False) {s with toks:=tk}
section
variable{prog:Program}{w:World}{A:Around}{s:Shared}(O:Ord prog w A s)
noncomputable def Ord.le(p q:Keyed):Prop:=O.κ.kle (O.kf p) (O.kf q)
noncomputable def Ord.lt'(p q:Keyed):Bool:=O.κ.blt (O.kf p) (O.kf q)
theorem Ord.le_refl(p:Keyed):O.le p p:=KeyOrd.kle_refl _
theorem Ord.le_trans{p q r:Keyed}(bU:O.le p q)(cZ:O.le q r):O.le p r:=KeyOrd.kle_trans bU cZ
theorem Ord.le_of_lt{p q:Keyed}(h:O.lt' p q=true):O.le p q:=KeyOrd.kle_of_klt h
theorem Ord.pN{p q:Keyed}(h:O.lt' p q=false):O.le q p:=h
theorem Ord.lt_of_le_of_lt{p q r:Keyed}(bU:O.le p q)(cZ:O.lt' q r=true):O.lt' p r=true:=KeyOrd.klt_of_kle_of_klt bU cZ
theorem Ord.le_iff{p q:Keyed}:O.le p q↔O.lt' q p=false:=Iff.rfl
theorem PB{arr:Array Keyed}{i:Nat}{Q:∀Y:Keyed,∀Y:SortSt,Prop} {st:SortSt} (hi:i<arr.size) (h:Q arr[i] st):b4 prog w A s (elem' arr i) Q st:=by
 rw[elem'_eq,getElem?_pos arr i hi];exact cR h
theorem wx{p q:Keyed}{Q:∀Y:Option Bool,∀Y:SortSt,Prop} {st:SortSt} (aK:kindOf st=O.kd) (aP:O.mem p) (bb:O.mem q) (h:Q (some (O.lt' p q)) st):b4 prog w A s (lt' p q) Q st:=by
 rw[lt'_eq];refine bY (ou ?_);refine bY (Ia fun tk=>wpAny_attempt ?_);rw[aK];refine wpAny_mono (O.lt p q aP bb tk (fun b s'=>b=O.lt' p q∧∃gm,s'={s with toks:=gm}) fun gm=>⟨rfl,_,rfl⟩) (fun b s' av=>?_) fun Y Y e=>e.elim;refine ar ?_ av;clear av;rintro rfl hs;exact⟨hs,cR h⟩
end
end Mine
end
section
open PySem PyProof.Rows
namespace Mine
noncomputable abbrev CI:Keyed:=(.none,.none)
noncomputable def aM(arr:Array Keyed)(i:Nat):Keyed:=arr.getD i CI
noncomputable def ow:∀Y:Bool,∀Y:Keyed,∀Y:Array Keyed,∀Y:Nat,∀Y:Nat,∀Y:Nat,StateT SortSt Sem (Option Nat):=sortPriv% PySem.Builtin.gallop
noncomputable def ua(left:Bool)(key:Keyed)(arr:Array Keyed)(base i:Nat):StateT SortSt Sem (Option Bool):=do
 let x ←elem' arr (base+i)
 if left then lt' x key else return (←lt' key x).map (!·)
noncomputable def zo(left:Bool)(key:Keyed)(arr:Array Keyed)(base n lo hi:Nat):StateT SortSt Sem (Option Nat):=do
 let mut lo:=lo
 let mut hi:=hi
 for _ in [0:n] do
  if lo≥hi then break
  let m:=lo+(hi-lo) / 2
  let some more ←ua left key arr base m|return none
  if more then lo:=m+1 else hi:=m
 return some hi
noncomputable def CJ(left:Bool)(key:Keyed)(arr:Array Keyed)(base n hint:Nat):StateT SortSt Sem (Option Nat):=do
 let mut wy:=0
 let mut l4:=1
 for _ in [0:n] do
  if l4≥n-hint then break
  let some more ←ua left key arr base (hint+l4)|return none
  if !more then break
  wy:=l4
  l4:=2*l4+1
 zo left key arr base n (hint+wy+1) (hint+min l4 (n-hint))
noncomputable def CK(left:Bool)(key:Keyed)(arr:Array Keyed)(base n hint:Nat):StateT SortSt Sem (Option Nat):=do
 let mut wy:=0
 let mut l4:=1
 for _ in [0:n] do
  if l4≥hint+1 then break
  let some found ←ua left key arr base (hint-l4)|return none
  if found then break
  wy:=l4
  l4:=2*l4+1
 zo left key arr base n (hint+1-min l4 (hint+1)) (hint-wy)
theorem PC(left:Bool)(key:Keyed)(arr:Array Keyed)(base n hint:Nat):ow left key arr base n hint=(do
 let some right ←ua left key arr base hint|return none
 if right then CJ left key arr base n hint else CK left key arr base n hint):=by kernel_rfl
section
variable{prog:Program}{w:World}{A:Around}{s:Shared}
noncomputable def jh(prog:Program)(w:World)(A:Around)(s:Shared)(st:SortSt){α:Type}(m:StateT SortSt Sem α)(Q:∀Y:α,Prop):Prop:=b4 prog w A s m (fun a ao=>ao=st∧Q a) st
variable{st:SortSt}{α β:Type}
theorem jx{a:α}{Q:∀Y:α,Prop} (h:Q a):jh prog w A s st (pure a:StateT SortSt Sem α) Q:=cR ⟨rfl,h⟩
theorem nv{m:StateT SortSt Sem α}{f:∀Y:α,StateT SortSt Sem β} {Q:∀Y:β,Prop} (h:jh prog w A s st m fun a=>jh prog w A s st (f a) Q):jh prog w A s st (m>>=f) Q:=
 bY (gp h fun Y ao x=>by rw[x.1];exact x.2)
theorem zp{m:StateT SortSt Sem α}{Q iV:∀Y:α,Prop} (h:jh prog w A s st m Q) (bb:∀a,∀Y:Q a,iV a):jh prog w A s st m iV:=gp h fun Y Y x=>⟨x.1,bb _ x.2⟩
theorem Ic{m:StateT SortSt Sem α}{Q:∀Y:α,∀Y:SortSt,Prop} (h:jh prog w A s st m fun a=>Q a st):b4 prog w A s m Q st:=gp h fun Y ao x=>x.1▸x.2
theorem zq{c:Prop}[Decidable c]{m ng:StateT SortSt Sem α}{Q:∀Y:α,Prop} (h:∀Y:c,jh prog w A s st m Q) (h':∀Y:¬c,jh prog w A s st ng Q):jh prog w A s st (if c then m else ng) Q:=by
 by_cases e:c
 ·rw[if_pos e];exact h e
 ·rw[if_neg e];exact h' e
noncomputable abbrev zr{cS:Type}(G:∀Y:Nat,∀Y:Nat,Prop) (c:Option cS×Nat×Nat):Prop:=c.1=none∧G c.2.1 c.2.2
theorem zt{cS:Type}{n:Nat}{f:∀Y:Nat,∀Y:Option cS×Nat×Nat,StateT SortSt Sem (ForInStep (Option cS×Nat×Nat))} (F:∀Y:Nat,∀Y:Nat,∀Y:Nat,Prop) {G:∀Y:Nat,∀Y:Nat,Prop}
 (qL:∀x l o,∀Y:x<n,∀Y:F x l o,jh prog w A s st (f x (none,l,o)) fun r=>t9 (fun c Y=>zr G c) (fun c Y=>zr (F (x+1)) c) r st) (nu:∀l o,∀Y:F n l o,G l o) {l o:Nat} (h:F 0 l o):
 jh prog w A s st (forIn [0:n] ((none,l,o):Option cS×Nat×Nat) f) (zr G):=by
 refine l3 (I:=fun x c ao=>ao=st∧zr (F x) c) (fun x c ao Y ai bE=>?_) (fun c ao bE=>?_) ⟨rfl,rfl,h⟩
 ·obtain⟨c,l,o⟩:=c;refine aY ?_ bE;clear bE;rintro rfl rfl bD;refine gp (qL x l o ai bD) fun r ao aC=>?_;refine ar ?_ aC;clear aC;rintro rfl aC;cases r with
  |done c=>exact⟨rfl,aC⟩
  |yield c=>exact⟨rfl,aC⟩
 ·rw[Nat.max_eq_right (Nat.zero_le n)]at bE;exact⟨bE.1,bE.2.1,nu _ _ bE.2.2⟩
variable(O:Ord prog w A s)
noncomputable def eV(left:Bool)(key:Keyed)(arr:Array Keyed)(base i:Nat):Bool:=if left then O.lt' (aM arr (base+i)) key else !(O.lt' key (aM arr (base+i)))
theorem h9{arr:Array Keyed}{i:Nat}{Q:∀Y:Keyed,∀Y:SortSt,Prop} {st:SortSt} (hi:i<arr.size) (h:Q (aM arr i) st):b4 prog w A s (elem' arr i) Q st:=
 PB hi (by simpa [aM,Array.getD,hi]using h)
section
variable{left:Bool}{key:Keyed}{arr:Array Keyed}{base n:Nat}(eG:kindOf st=O.kd)(hm:∀p∈arr.toList,O.mem p) (aK:O.mem key)
include eG hm aK
theorem zu{i:Nat}{Q:∀Y:Option Bool,Prop} (hi:base+i<arr.size) (h:Q (some (eV O left key arr base i))):jh prog w A s st (ua left key arr base i) Q:=by
 have ai:O.mem (aM arr (base+i)):=hm _ (by simp[aM,Array.getD,hi]);unfold ua;refine bY (h9 hi ?_);cases left with
 |true=>rw[if_pos rfl];exact wx O eG ai aK ⟨rfl,h⟩
 |false=>rw[if_neg Bool.false_ne_true];exact bY (wx O eG aK ai (cR ⟨rfl,h⟩))
variable(az:base+n≤arr.size){Q:∀Y:Option Nat,Prop} (mono:∀i j,∀Y:i≤j,∀Y:j<n,∀Y:eV O left key arr base j=true,eV O left key arr base i=true)
 (h:∀r,∀Y:r≤n,∀Y:(∀i,∀Y:i<r,eV O left key arr base i=true),∀Y:(∀i,∀Y:r≤i,∀Y:i<n,eV O left key arr base i=false),Q (some r))
include az mono h
theorem Ie{lo hi:Nat}(PD:lo≤hi)(Ig:hi≤n)(ae:∀i,∀Y:i<lo,eV O left key arr base i=true) (af:∀i,∀Y:hi≤i,∀Y:i<n,eV O left key arr base i=false):jh prog w A s st (zo left key arr base n lo hi) Q:=by
 unfold zo
 refine nv (zp (zt (G:=fun Y hi=>Q (some hi)) (fun x lo hi=>lo≤hi∧hi≤n∧hi+x≤lo+n∧(∀i,∀Y:i<lo,eV O left key arr base i=true)∧(∀i,∀Y:hi≤i,∀Y:i<n,eV O left key arr base i=false)) ?_ ?_
  ⟨PD,Ig,Nat.le_trans Ig (Nat.le_add_left ..),ae,af⟩) fun c aG=>?_)
 ·rintro x lo hi ai ⟨a1,a2,cW,dI,gw⟩;refine zq (fun d5=>?_) fun bC=>?_
  ·cases Nat.le_antisymm a1 d5
   exact jx ⟨rfl,h lo a2 dI gw⟩
  ·have f3:lo≤lo+(hi-lo) / 2:=Nat.le_add_right ..;have f5:lo+(hi-lo) / 2<hi:=by exact bA (.n (.l .r .p) (.a (.m 2 .q) .s (.c (.a .s .p) .r (.G 1 (.t (.a .p .q) .r))))) rfl bC (Nat.mul_div_le (_-_) 2) (Nat.sub_add_cancel (aq (.n (.l .q .p) (.l .p .q)) rfl bC))
   refine nv (zu O eG hm aK (Nat.lt_of_lt_of_le (Nat.add_lt_add_left (Nat.lt_of_lt_of_le f5 a2) base) az) ?_);dsimp only;generalize lo+(hi-lo) / 2=m at f3 f5 ⊢;cases av:eV O left key arr base m with
   |true=>exact jx ⟨rfl,f5,a2,by exact cJ (.a (.a .p .q) (.a .t .s) (.a .t .r (.l (.a .p (.b .q)) (.a (.b .r) .s)))) rfl cW f3,fun i fV=>mono i m (Nat.le_of_lt_succ fV) (Nat.lt_of_lt_of_le f5 a2) av,gw⟩
   |false=>exact jx ⟨rfl,f3,by exact aA (.a .r .q (.b .p .r (.l .p .q))) rfl a2 f5,by exact cJ (.a (.a .t .q) (.a .r .s) (.b .p .t (.l (.a .p (.b .q)) (.a .r .s)))) rfl cW f5,dI,fun i fV g7=>Bool.eq_false_iff.mpr fun q=>Bool.noConfusion (av.symm.trans (mono m i fV g7 q))⟩
 ·rintro lo hi ⟨a1,a2,cW,dI,gw⟩;cases Nat.le_antisymm a1 (Nat.le_of_add_le_add_right cW)
  exact h lo a2 dI gw
 ·obtain⟨c,lo,hi⟩:=c;refine ar ?_ aG;clear aG;rintro rfl q;exact jx q
theorem PE{hint:Nat}(bR:hint<n)(av:eV O left key arr base hint=true):jh prog w A s st (CJ left key arr base n hint) Q:=by
 unfold CJ
 refine nv (zp (zt (G:=fun l o=>l<o∧hint+l<n∧eV O left key arr base (hint+l)=true∧(∀Y:hint+o<n,eV O left key arr base (hint+o)=false))
  (fun x l o=>x<o∧l<o∧hint+l<n∧eV O left key arr base (hint+l)=true) ?_ ?_ ⟨Nat.zero_lt_one,Nat.zero_lt_one,bR,av⟩) fun c aG=>?_)
 ·intro x l o _;refine cH ?_;intro a1 a2 cW dI;refine zq (fun d5=>jx ⟨rfl,a2,cW,dI,fun q=>absurd q (by exact bA (.a .s .q (.a .r (.a .s .p) (.o (.t (.a .p .q) .r)))) rfl d5 (cj _ _))⟩) fun bC=>?_;have bx:hint+o<n:=by exact(Nat.le_total _ _).elim (fun ay=>bA (.n (.l .s .q) (.c (.a .s .p) .r (.t (.a .p .q) .r))) rfl bC (Nat.sub_add_cancel ay)) (fun aE=>(aq (.n (.l .p .q) (.c .p .z .f)) rfl bC (Nat.sub_eq_zero_of_le aE):False).elim)
  refine nv (zu O eG hm aK (by exact cJ (.a (.a .p .t) .s (.b (.a .q .r) .t (.t (.a .p (.a .q .r)) .s))) rfl az bx) ?_);dsimp only;cases j8:eV O left key arr base (hint+o)with
  |false=>exact jx ⟨rfl,a2,cW,dI,fun Y=>j8⟩
  |true=>exact jx ⟨rfl,by exact aq (.b .p .q (.t (.b .p) (.b (.m 2 .q)))) rfl a1,by exact aI (.t .p (.b (.m 2 .p))) rfl,bx,j8⟩
 ·intro l o;refine cH ?_;intro a1 a2 cW dI;exact⟨a2,cW,dI,fun q=>absurd q (by exact aA (.b .r .q (.o (.t (.a .p .q) .r))) rfl a1)⟩
 ·obtain⟨c,l,o⟩:=c;obtain⟨rfl,a2,cW,dI,gw⟩:=aG;refine Ie O eG hm aK az mono h (by exact(Nat.le_total _ _).elim (fun ay=>(Nat.le_total _ (_-_)).elim (fun aE=>bA (.b .q .s (.i (-1) (.e .r .s) (.l (.b (.a .p .q)) (.a .p .r)))) rfl a2 (Nat.min_eq_left aE)) (fun bI=>cJ (.b (.a .p .q) .s (.i (-1) (.e (.a .t .p) .s) (.i (-1) (.e .r .t) (.l (.b (.a .p .q)) (.a .p .r))))) rfl cW (Nat.sub_add_cancel (aA (.b (.a .p .r) .q (.l .p .q)) rfl cW)) (Nat.min_eq_right bI))) (fun cM=>bA (.b (.a .p .q) .s (.a .s .p (.l (.b (.a .p .q)) (.a .p .r)))) rfl cW cM)) (by exact bA (.a .q .s (.c (.a .s .p) .r (.l (.a .p .q) .r))) rfl (Nat.min_le_right _ (_-_)) (Nat.sub_add_cancel (aq (.b .p .q (.l .p .q)) rfl bR))) (fun i hi=>mono i _ (by exact aA (.b .p (.b (.a .q .r)) (.l .p (.a .q .r))) rfl hi) cW dI) fun i hi g7=>?_;have bx:hint+o≤i:=by exact(Nat.le_total _ _).elim (fun ay=>(Nat.le_total _ (_-_)).elim (fun aE=>bA (.a (.a .p .s) .r (.i (-1) (.e .s .q) (.l (.a .p .q) .r))) rfl hi (Nat.min_eq_left aE)) (fun bI=>(cJ (.a (.a .p .q) .r (.b .r .s (.i (-1) (.e (.a .t .p) .s) (.i (-1) (.e .q .t) .f)))) rfl hi g7 (Nat.sub_add_cancel (bA (.a (.a .p .r) .s (.b .s .q (.l .p .q))) rfl hi g7)) (Nat.min_eq_right bI):False).elim)) (fun cM=>(bA (.a (.a .p .q) .r (.b .r .s (.a .s .p .f))) rfl hi g7 cM:False).elim)
  refine Bool.eq_false_iff.mpr fun q=>Bool.noConfusion ((gw (Nat.lt_of_le_of_lt bx g7)).symm.trans (mono _ i bx g7 q))
theorem PF{hint:Nat}(bR:hint<n)(av:eV O left key arr base hint=false):jh prog w A s st (CK left key arr base n hint) Q:=by
 unfold CK
 refine nv (zp (zt (G:=fun l o=>l<o∧l≤hint∧eV O left key arr base (hint-l)=false∧(∀Y:o≤hint,eV O left key arr base (hint-o)=true))
  (fun x l o=>x<o∧l<o∧l≤hint∧eV O left key arr base (hint-l)=false) ?_ ?_ ⟨Nat.zero_lt_one,Nat.zero_lt_one,Nat.zero_le _,av⟩) fun c aG=>?_)
 ·intro x l o _;refine cH ?_;intro a1 a2 cW dI;refine zq (fun d5=>jx ⟨rfl,a2,cW,dI,fun q=>absurd q (by exact aq (.a (.b .q) .p (.o (.l .p .q))) rfl d5)⟩) fun bC=>?_;refine nv (zu O eG hm aK (by exact cJ (.a (.a .p .s) .r (.b .t .s (.a .q .t (.t (.a .p .q) .r)))) rfl az bR (Nat.sub_le _ _)) ?_);dsimp only;cases j8:eV O left key arr base (hint-o)with
  |true=>exact jx ⟨rfl,a2,cW,dI,fun Y=>j8⟩
  |false=>exact jx ⟨rfl,by exact aq (.b .p .q (.t (.b .p) (.b (.m 2 .q)))) rfl a1,by exact aI (.t .p (.b (.m 2 .p))) rfl,by exact aq (.n (.l (.b .q) .p) (.l .p .q)) rfl bC,j8⟩
 ·intro l o;refine cH ?_;intro a1 a2 cW dI;exact⟨a2,cW,dI,fun q=>absurd q (by exact aA (.b .q .r (.b .r .p (.o (.l .p .q)))) rfl bR a1)⟩
 ·obtain⟨c,l,o⟩:=c;obtain⟨rfl,a2,cW,dI,gw⟩:=aG;refine Ie O eG hm aK az mono h (by exact(Nat.le_total _ (_+(1:Nat))).elim (fun ay=>cu (.b .r .s (.c (.a .p .t) (.b (.v 5)) (.i (-1) (.e .t .s) (.a (.v 5) (.a .q .r) (.l .p .q))))) rfl [((_+(1:Nat))-(min _ (_+(1:Nat)))),(_-_),_,_,(min _ (_+(1:Nat))),_] [] a2 (Nat.sub_add_cancel (aq (.a .p (.b .q) (.l .p (.b .q))) rfl (Nat.min_le_right _ (_+(1:Nat))))) (Nat.min_eq_left ay) (cj _ _)) (fun aE=>bA (.c (.a .p .r) (.b .s) (.i (-1) (.e .r (.b .s)) (.l .p .q))) rfl (Nat.sub_add_cancel (aq (.a .p (.b .q) (.l .p (.b .q))) rfl (Nat.min_le_right _ (_+(1:Nat))))) (Nat.min_eq_right aE))) (by exact aA (.b .r .q (.a .p .r (.l .p .q))) rfl bR (Nat.sub_le _ _)) (fun i hi=>?_) fun i hi g7=>Bool.eq_false_iff.mpr fun q=>Bool.noConfusion (dI.symm.trans (mono _ i hi g7 q));have bx:o≤hint:=by exact(Nat.le_total _ (_+(1:Nat))).elim (fun ay=>cJ (.b .r .s (.c (.a .s .t) (.b .q) (.i (-1) (.e .t .p) (.l .p .q)))) rfl hi (Nat.sub_add_cancel (aq (.a .p (.b .q) (.l .p (.b .q))) rfl (Nat.min_le_right _ (_+(1:Nat))))) (Nat.min_eq_left ay)) (fun aE=>(bA (.b .p .q (.c (.a .q .r) (.b .s) (.i (-1) (.e .r (.b .s)) .f))) rfl hi (Nat.sub_add_cancel (aq (.a .p (.b .q) (.l .p (.b .q))) rfl (Nat.min_le_right _ (_+(1:Nat))))) (Nat.min_eq_right aE):False).elim)
  exact mono i (hint-o) (by exact(Nat.le_total _ (_+(1:Nat))).elim (fun ay=>cu (.b .p .r (.c (.a .r .s) (.b .t) (.i (-1) (.e .s (.v 5)) (.a .t (.a .q (.v 5)) (.l .p .q))))) rfl [_,(_-_),((_+(1:Nat))-(min _ (_+(1:Nat)))),(min _ (_+(1:Nat))),_,_] [] hi (Nat.sub_add_cancel (aq (.a .p (.b .q) (.l .p (.b .q))) rfl (Nat.min_le_right _ (_+(1:Nat))))) (Nat.min_eq_left ay) (cj _ _)) (fun aE=>cJ (.b .p .r (.c (.a .r .s) (.b .t) (.i (-1) (.e .s (.b .t)) (.l .p .q)))) rfl hi (Nat.sub_add_cancel (aq (.a .p (.b .q) (.l .p (.b .q))) rfl (Nat.min_le_right _ (_+(1:Nat))))) (Nat.min_eq_right aE))) (by exact aA (.b .r .q (.a .p .r (.t .p .q))) rfl bR (Nat.sub_le _ _)) (gw bx)
end
theorem Ih{left:Bool}{key:Keyed}{arr:Array Keyed}{base n hint:Nat}{Q:∀Y:Option Nat,∀Y:SortSt,Prop} {st:SortSt} (eG:kindOf st=O.kd) (hm:∀p∈arr.toList,O.mem p) (aK:O.mem key) (az:base+n≤arr.size) (bR:hint<n)
 (mono:∀i j,∀Y:i≤j,∀Y:j<n,∀Y:eV O left key arr base j=true,eV O left key arr base i=true)
 (h:∀r,∀Y:r≤n,∀Y:(∀i,∀Y:i<r,eV O left key arr base i=true),∀Y:(∀i,∀Y:r≤i,∀Y:i<n,eV O left key arr base i=false),Q (some r) st):
 b4 prog w A s (ow left key arr base n hint) Q st:=by
 rw[PC];refine Ic (nv (zu O eG hm aK (by exact bA (.a (.a .p .s) .r (.b .q .s (.t (.a .p .q) .r))) rfl az bR) ?_));dsimp only;cases av:eV O left key arr base hint with
 |true=>exact PE O eG hm aK az mono h bR av
 |false=>exact PF O eG hm aK az mono h bR av
end
end Mine
end
section
open PySem PyProof.Rows
namespace Mine
section
variable{prog:Program}{w:World}{A:Around}{s:Shared}(O:Ord prog w A s)
noncomputable def cC(l:List Keyed):Prop:=l.Pairwise O.le
theorem getD_list{a:Array Keyed}{i:Nat}(h:i<a.size):aM a i=a.toList[i]'(by simpa using h):=by simp[aM,Array.getD,h]
theorem cC.at_{a:Array Keyed}(h:cC O a.toList){i j:Nat}(iG:i≤j)(aO:j<a.size):O.le (aM a i) (aM a j):=by
 rw[getD_list aO,getD_list (Nat.lt_of_le_of_lt iG aO)];by_cases e:i=j
 ·subst e;exact O.le_refl _
 ·exact(List.pairwise_iff_getElem.mp h) i j _ _ (by exact(Nat.lt_or_gt_of_ne e).elim (fun ay=>aq (.b .p .q (.t .p .q)) rfl ay) (fun aE=>aq (.i 2 (.l .p .q) (.b .q .p (.t .p .q))) rfl iG aE))
structure f6(a b out:Array Keyed)(bl bw:Nat):Prop where
 eH:bl≤a.size
 gK:bw≤b.size
 perm:(out.toList++(a.toList.drop bl++b.toList.drop bw)).Perm (a.toList++b.toList)
 sorted:cC O out.toList
 below:∀x∈out.toList,∀y,∀Y:y∈a.toList.drop bl∨y∈b.toList.drop bw,O.le x y
variable{O}
variable{a b out:Array Keyed}{bl bw:Nat}
theorem f6.size(h:f6 O a b out bl bw):out.size+(a.size-bl)+(b.size-bw)=a.size+b.size:=by
 have:=h.perm.length_eq;simp at this;exact Nat.le_antisymm (cJ (.c (.a .p (.a .q .r)) (.a .s .t) (.l (.a (.a .p .q) .r) (.a .s .t))) rfl this) (cJ (.i (-1) (.e (.a .r (.a .s .t)) (.a .p .q)) (.l (.a .p .q) (.a (.a .r .s) .t))) rfl this)
theorem drop_cons{a:Array Keyed}{i:Nat}(h:i<a.size):a.toList.drop i=aM a i::a.toList.drop (i+1):=by
 rw[getD_list h];exact List.drop_eq_getElem_cons (by simpa using h)
theorem zv(hs:cC O a.toList){i:Nat}(hi:i<a.size){y:Keyed}(au:y∈a.toList.drop i):O.le (aM a i) y:=by
 obtain⟨j,aO,rfl⟩:=List.mem_iff_getElem.mp au;rw[List.getElem_drop];have jK:i+j<a.size:=by simp at aO;exact yd aO
 rw[←getD_list jK];exact hs.at_ O (by exact aq (.l .p (.a .p .q)) rfl) jK
theorem f6.sy(h:f6 O a b out bl bw)(aJ:cC O a.toList)(av:cC O b.toList)(ae:bl<a.size)(hle:∀Y:bw<b.size,O.le (aM a bl) (aM b bw)):f6 O a b (out.push (aM a bl)) (bl+1) bw:=by
 have e:=drop_cons ae;refine⟨ae,h.gK,?_,?_,fun x ai y au=>?_⟩
 ·have:=h.perm;rw[e]at this;simpa using this
 ·simp only[cC,Array.toList_push,List.pairwise_append]
  exact⟨h.sorted,by simp,fun x ai y au=>by
   rw[List.mem_singleton.mp au];exact h.below x ai _ (.inl (by rw[e];exact .head _))⟩
 ·rw[Array.toList_push,List.mem_append,List.mem_singleton]at ai;rcases ai with ai|rfl
  ·exact h.below x ai y (au.imp (fun q=>by rw[e];exact .tail _ q) id)
  ·rcases au with au|au
   ·exact zv aJ ae (by rw[e];exact .tail _ au)
   ·have bC:bw<b.size:=by
     have:=List.length_pos_of_mem au;simp at this;exact(Nat.le_total _ _).elim (fun ay=>aA (.b .z .r (.c (.a .r .p) .q (.t .p .q))) rfl this (Nat.sub_add_cancel ay)) (fun aE=>(aI (.b .z .p (.c .p .z .f)) rfl this (Nat.sub_eq_zero_of_le aE):False).elim)
    exact O.le_trans (hle bC) (zv av bC au)
theorem f6.sA(h:f6 O a b out bl bw)(aJ:cC O a.toList)(av:cC O b.toList)(ae:bw<b.size)(hle:∀Y:bl<a.size,O.le (aM b bw) (aM a bl)):f6 O a b (out.push (aM b bw)) bl (bw+1):=by
 have e:=drop_cons ae;refine⟨h.eH,ae,?_,?_,fun x ai y au=>?_⟩
 ·have:=h.perm;rw[e]at this;refine List.Perm.trans ?_ this;rw[Array.toList_push,List.append_assoc];refine List.Perm.append_left _ ?_;exact(List.perm_middle (l₁:=a.toList.drop bl) (l₂:=b.toList.drop (bw+1)) (a:=aM b bw)).symm
 ·simp only[cC,Array.toList_push,List.pairwise_append]
  exact⟨h.sorted,by simp,fun x ai y au=>by
   rw[List.mem_singleton.mp au];exact h.below x ai _ (.inr (by rw[e];exact .head _))⟩
 ·rw[Array.toList_push,List.mem_append,List.mem_singleton]at ai;rcases ai with ai|rfl
  ·exact h.below x ai y (au.imp id fun q=>by rw[e];exact .tail _ q)
  ·rcases au with au|au
   ·have bC:bl<a.size:=by
     have:=List.length_pos_of_mem au;simp at this;exact(Nat.le_total _ _).elim (fun ay=>aA (.b .z .r (.c (.a .r .p) .q (.t .p .q))) rfl this (Nat.sub_add_cancel ay)) (fun aE=>(aI (.b .z .p (.c .p .z .f)) rfl this (Nat.sub_eq_zero_of_le aE):False).elim)
    exact O.le_trans (hle bC) (zv aJ bC au)
   ·exact zv av ae (by rw[e];exact .tail _ au)
theorem CL{a:Array Keyed}{i k:Nat}(h:i+k<a.size):a.extract i (i+(k+1))=(a.extract i (i+k)).push (aM a (i+k)):=by
 apply Array.ext';simp only[Array.toList_extract,Array.toList_push,List.extract_eq_take_drop];rw[show i+(k+1)-i=k+1 by exact Nat.le_antisymm (aA (.c (.a .p .r) (.a .r (.b .q)) (.l .p (.b .q))) rfl (Nat.sub_add_cancel (aq (.l .p (.a .p (.b .q))) rfl))) (aA (.a (.a .r (.b .p)) (.a .q .r) (.l (.b .p) .q)) rfl (cj (_+(_+(1:Nat))) _)),show i+k-i=k by exact Nat.le_antisymm (aA (.c (.a .p .r) (.a .r .q) (.l .p .q)) rfl (Nat.sub_add_cancel (aq (.l .p (.a .p .q)) rfl))) (aA (.a (.a .r .p) (.a .q .r) (.l .p .q)) rfl (cj (_+_) _)),List.take_add_one];congr 1;have:k<(a.toList.drop i).length:=by simp;exact bA (.b (.a .r .p) .s (.a .s (.a .q .r) (.t .p .q))) rfl h (cj _ _)
 rw[List.getElem?_eq_getElem this,List.getElem_drop,getD_list h];rfl
theorem zw(a:Array Keyed)(i:Nat):a.extract i i=#[]:=by apply Array.ext';simp[List.extract_eq_take_drop]
theorem f6.wz(aJ:cC O a.toList)(av:cC O b.toList):∀(k:Nat),∀Y:f6 O a b out bl bw,∀Y:bl+k≤a.size,∀Y:(∀i,∀Y:i<k,∀Y:bw<b.size,O.le (aM a (bl+i)) (aM b bw)),f6 O a b (out++a.extract bl (bl+k)) (bl+k) bw
 |0,h,_,_=>by rw[Nat.add_zero,zw,Array.append_empty];exact h
 |k+1,h,ae,hle=>by
  have:=(f6.wz aJ av k h (by exact aA (.a (.a .p (.b .q)) .r (.l (.a .p .q) .r)) rfl ae) fun i hi=>hle i (by exact aq (.b .p .q (.t .p (.b .q))) rfl hi)).sy aJ av (by exact aA (.a (.a .p (.b .q)) .r (.t (.a .p .q) .r)) rfl ae) (hle k (by exact aI (.t .p (.b .p)) rfl));rw[CL (by exact aA (.a (.a .p (.b .q)) .r (.t (.a .p .q) .r)) rfl ae)];simpa [Nat.add_assoc]using this
theorem f6.wA(aJ:cC O a.toList)(av:cC O b.toList):∀(k:Nat),∀Y:f6 O a b out bl bw,∀Y:bw+k≤b.size,∀Y:(∀i,∀Y:i<k,∀Y:bl<a.size,O.le (aM b (bw+i)) (aM a bl)),f6 O a b (out++b.extract bw (bw+k)) bl (bw+k)
 |0,h,_,_=>by rw[Nat.add_zero,zw,Array.append_empty];exact h
 |k+1,h,ae,hle=>by
  have:=(f6.wA aJ av k h (by exact aA (.a (.a .p (.b .q)) .r (.l (.a .p .q) .r)) rfl ae) fun i hi=>hle i (by exact aq (.b .p .q (.t .p (.b .q))) rfl hi)).sA aJ av (by exact aA (.a (.a .p (.b .q)) .r (.t (.a .p .q) .r)) rfl ae) (hle k (by exact aI (.t .p (.b .p)) rfl));rw[CL (by exact aA (.a (.a .p (.b .q)) .r (.t (.a .p .q) .r)) rfl ae)];simpa [Nat.add_assoc]using this
variable(O)in
noncomputable def l5(a b r:Array Keyed):Prop:=r.toList.Perm (a.toList++b.toList)∧cC O r.toList
theorem zx{a:Array Keyed}{i:Nat}:(a.extract i a.size).toList=a.toList.drop i:=by
 rw[Array.toList_extract,List.extract_eq_take_drop,List.take_of_length_le (by simp)]
theorem cC.drop{l:List Keyed}(h:cC O l)(i:Nat):cC O (l.drop i):=List.Pairwise.sublist (List.drop_sublist _ _) h
theorem f6.done(h:f6 O a b out bl bw)(aJ:cC O a.toList)(av:cC O b.toList)(he:bl=a.size∨bw=b.size):l5 O a b (out++a.extract bl a.size++b.extract bw b.size):=by
 refine⟨?_,?_⟩
 ·simp only[Array.toList_append,zx];rw[List.append_assoc];exact h.perm
 ·simp only[cC,Array.toList_append,zx,List.append_assoc,List.pairwise_append];refine⟨h.sorted,⟨aJ.drop _,av.drop _,fun x ai y au=>?_⟩,fun x ai y au=>h.below x ai y (List.mem_append.mp au)⟩;rcases he with rfl|rfl
  ·have:=List.length_pos_of_mem ai;simp at this
  ·have:=List.length_pos_of_mem au;simp at this
theorem f6.last(h:f6 O a b out bl bw)(aJ:cC O a.toList)(av:cC O b.toList)(he:bl+1=a.size)(aD:∀y∈b.toList,O.le y (aM a (a.size-1))):l5 O a b (out++b.extract bw b.size++a.extract bl a.size):=by
 refine⟨?_,?_⟩
 ·simp only[Array.toList_append,zx];rw[List.append_assoc];exact((List.Perm.append_left _ List.perm_append_comm)).trans h.perm
 ·simp only[cC,Array.toList_append,zx,List.append_assoc,List.pairwise_append];refine⟨h.sorted,⟨av.drop _,aJ.drop _,fun x ai y au=>?_⟩,fun x ai y au=>h.below x ai y (List.mem_append.mp au).symm⟩;have e:=drop_cons (a:=a) (i:=bl) (by exact aq (.c (.b .p) .q (.t .p .q)) rfl he);rw[e,List.drop_eq_nil_of_le (by simp;exact aq (.i (-1) (.e (.b .q) .p) (.l .p (.b .q))) rfl he),List.mem_singleton]at au;rw[au,show bl=a.size-1 by exact Nat.le_antisymm (aA (.c (.b .p) .r (.a .r (.b .q) (.l .p .q))) rfl he (cj _ (1:Nat))) (aA (.i (-1) (.e (.b .q) .r) (.c (.b .p) .r (.l .p .q))) rfl he (Nat.sub_add_cancel (aq (.c (.b .q) .p (.l .o .p)) rfl he)))];exact aD x (List.mem_of_mem_drop ai)
theorem f6.start(aJ:cC O a.toList)(av:cC O b.toList)(ae:0<a.size)(af:0<b.size)(h:O.le (aM b 0) (aM a 0)):f6 O a b #[aM b 0] 0 1:=by
 have:f6 O a b #[] 0 0:=⟨Nat.zero_le _,Nat.zero_le _,by simp,List.Pairwise.nil,fun x ai=>by cases ai⟩;exact this.sA aJ av af fun Y=>h
noncomputable def pO:∀Y:Nat,StateT SortSt Sem Unit:=sortPriv% PySem.Builtin.setMinGallop
noncomputable abbrev wB(st:SortSt)(g:Nat):SortSt:=SortSt.mk' (kindOf st) (arrOf st) (pendingOf st) g (failedOf st)
theorem zy(g:Nat):pO g=modify fun st=>wB st g:=rfl
noncomputable def fu(st ao:SortSt):Prop:=∃g,ao=wB st g
theorem fu.refl(st:SortSt):fu st st:=⟨gallopOf st,rfl⟩
theorem fu.set{st ao:SortSt}(h:fu st ao)(g:Nat):fu st (wB ao g):=by refine aj ?_ h;clear h;rintro cL rfl;exact⟨g,rfl⟩
theorem fu.kind{st ao:SortSt}(h:fu st ao):kindOf ao=kindOf st:=by refine aj ?_ h;clear h;rintro cL rfl;rfl
noncomputable def CM:∀Y:Array Keyed,∀Y:Array Keyed,StateT SortSt Sem (Array Keyed):=sortPriv% PySem.Builtin.mergeLo
noncomputable abbrev qM:=Option (Array Keyed)×Array Keyed×Nat×Nat×Nat
noncomputable abbrev pP:=Option (Array Keyed)×Array Keyed×Nat×Nat×Nat×Nat
noncomputable abbrev M2:=Option (Array Keyed)×Array Keyed×Nat×Nat×Nat×Nat×Nat
noncomputable def qN(a b out:Array Keyed)(bl bw:Nat):Array Keyed:=out++a.extract bl a.size++b.extract bw b.size
noncomputable def zz(a b out:Array Keyed)(bl bw:Nat):Array Keyed:=out++b.extract bw b.size++a.extract bl a.size
noncomputable def Ii(a b:Array Keyed)(g:Nat)(out:Array Keyed)(bl bw ac cU:Nat):StateT SortSt Sem (ForInStep pP):=do
 let y ←elem' b bw
 let x ←elem' a bl
 let r ←lt' y x
 match r with
 |some PG=>
  if PG=true then do
   let y ←elem' b bw
   if(bw+1==b.size)=true then pure (.done (some (qN a b (out.push y) bl (bw+1)),out.push y,bl,bw+1,0,cU+1))
   else if cU+1≥g then pure (.done (none,out.push y,bl,bw+1,0,cU+1))
   else pure (.yield (none,out.push y,bl,bw+1,0,cU+1))
  else do
   let x ←elem' a bl
   if(bl+1+1==a.size)=true then pure (.done (some (zz a b (out.push x) (bl+1) bw),out.push x,bl+1,bw,ac+1,0))
   else if ac+1≥g then pure (.done (none,out.push x,bl+1,bw,ac+1,0))
   else pure (.yield (none,out.push x,bl+1,bw,ac+1,0))
 |_=>pure (.done (some (qN a b out bl bw),out,bl,bw,ac,cU))
noncomputable def CN(a b out:Array Keyed)(bl bw g ac cU:Nat):StateT SortSt Sem (ForInStep M2):=do
 let x ←elem' a bl
 if(bl+1+1==a.size)=true then pure (.done (some (zz a b (out.push x) (bl+1) bw),out.push x,bl+1,bw,g,ac,cU))
 else if(decide (ac<7)&&decide (cU<7))=true then pure (.done (none,out.push x,bl+1,bw,g,ac,cU))
 else pure (.yield (none,out.push x,bl+1,bw,g,ac,cU))
noncomputable def CO(a b out:Array Keyed)(bl bw g ac cU:Nat):StateT SortSt Sem (ForInStep M2):=do
 let y ←elem' b bw
 if(bw+1==b.size)=true then pure (.done (some (qN a b (out.push y) bl (bw+1)),out.push y,bl,bw+1,g,ac,cU))
 else do
  let x ←elem' a bl
  let r ←ow true x b (bw+1) (b.size-(bw+1)) 0
  match r with
  |some k=>
   if k>0 then
    if(bw+1+k==b.size)=true then pure (.done (some (qN a b (out.push y++b.extract (bw+1) (bw+1+k)) bl (bw+1+k)),out.push y++b.extract (bw+1) (bw+1+k),bl,bw+1+k,g,ac,k))
    else CN a b (out.push y++b.extract (bw+1) (bw+1+k)) bl (bw+1+k) g ac k
   else CN a b (out.push y) bl (bw+1) g ac k
  |_=>pure (.done (some (qN a b (out.push y) bl (bw+1)),out.push y,bl,bw+1,g,ac,cU))
noncomputable def CP(a b out:Array Keyed)(bl bw ac cU g:Nat):StateT SortSt Sem (ForInStep M2):=do
 pO g
 let y ←elem' b bw
 let r ←ow false y a bl (a.size-bl) 0
 match r with
 |some k=>
  if k>0 then
   if(bl+k+1==a.size)=true then pure (.done (some (zz a b (out++a.extract bl (bl+k)) (bl+k) bw),out++a.extract bl (bl+k),bl+k,bw,g,k,cU))
   else if(bl+k==a.size)=true then pure (.done (some (qN a b (out++a.extract bl (bl+k)) (bl+k) bw),out++a.extract bl (bl+k),bl+k,bw,g,k,cU))
   else CO a b (out++a.extract bl (bl+k)) (bl+k) bw g k cU
  else CO a b out bl bw g k cU
 |_=>pure (.done (some (qN a b out bl bw),out,bl,bw,g,ac,cU))
noncomputable def CQ(a b out:Array Keyed)(bl bw g ac cU:Nat):StateT SortSt Sem (ForInStep M2):=
 if g>1 then CP a b out bl bw ac cU (g-1)else CP a b out bl bw ac cU g
noncomputable def Ij(a b out:Array Keyed)(bl bw g:Nat):StateT SortSt Sem (ForInStep qM):=do
 let c ←forIn [0:a.size+b.size] ((none,out,bl,bw,0,0):pP) fun Y c=>Ii a b g c.2.1 c.2.2.1 c.2.2.2.1 c.2.2.2.2.1 c.2.2.2.2.2
 match c.1 with
 |some r=>pure (.done (some r,c.2.1,c.2.2.1,c.2.2.2.1,g))
 |none=>do
  rule "list.sort.gallop"
  let c ←forIn [0:a.size+b.size] ((none,c.2.1,c.2.2.1,c.2.2.2.1,g+1,c.2.2.2.2.1,c.2.2.2.2.2):M2) fun Y c=>CQ a b c.2.1 c.2.2.1 c.2.2.2.1 c.2.2.2.2.1 c.2.2.2.2.2.1 c.2.2.2.2.2.2
  match c.1 with
  |some r=>pure (.done (some r,c.2.1,c.2.2.1,c.2.2.2.1,c.2.2.2.2.1))
  |none=>do
   pO (c.2.2.2.2.1+1)
   pure (.yield (none,c.2.1,c.2.2.1,c.2.2.2.1,c.2.2.2.2.1+1))
theorem PH(a b:Array Keyed):CM a b=(do
 rule "list.sort.merge-lo"
 let y ←elem' b 0
 if(1==b.size)=true then pure (qN a b #[y] 0 1)
 else if(0+1==a.size)=true then pure (zz a b #[y] 0 1)
 else do
  let st ←get
  let c ←forIn [0:a.size+b.size] ((none,#[y],0,1,gallopOf st):qM) fun Y c=>Ij a b c.2.1 c.2.2.1 c.2.2.2.1 c.2.2.2.2
  match c.1 with
  |some r=>pure r
  |none=>unsupported "internal:list.sort.merge-bound"):=by kernel_rfl
variable(O)
theorem CR{key:Keyed}{arr:Array Keyed}{base n hint:Nat}{Q:∀Y:Option Nat,∀Y:SortSt,Prop} {st:SortSt} (eG:kindOf st=O.kd) (hm:∀p∈arr.toList,O.mem p) (aK:O.mem key) (az:base+n≤arr.size) (bR:hint<n)
 (hs:∀i j,∀Y:i≤j,∀Y:j<n,O.le (aM arr (base+i)) (aM arr (base+j))) (h:∀r,∀Y:r≤n,∀Y:(∀i,∀Y:i<r,O.le (aM arr (base+i)) key),∀Y:(∀i,∀Y:r≤i,∀Y:i<n,O.lt' key (aM arr (base+i))=true),Q (some r) st):
 b4 prog w A s (ow false key arr base n hint) Q st:=by
 refine Ih O eG hm aK az bR (fun i j iG aO av=>?_) fun r ae af aH=>h r ae (fun i hi=>?_) fun i bX et=>?_
 ·have g4:O.lt' key (aM arr (base+j))=false:=by simpa [eV]using av
  have:O.lt' key (aM arr (base+i))=false:=O.le_trans (hs i j iG aO) (O.pN g4);simp[eV,this]
 ·have:=af i hi;have g4:O.lt' key (aM arr (base+i))=false:=by simpa [eV]using this
  exact g4
 ·have:=aH i bX et;simpa [eV]using this
theorem CS{key:Keyed}{arr:Array Keyed}{base n hint:Nat}{Q:∀Y:Option Nat,∀Y:SortSt,Prop} {st:SortSt} (eG:kindOf st=O.kd) (hm:∀p∈arr.toList,O.mem p) (aK:O.mem key) (az:base+n≤arr.size) (bR:hint<n)
 (hs:∀i j,∀Y:i≤j,∀Y:j<n,O.le (aM arr (base+i)) (aM arr (base+j))) (h:∀r,∀Y:r≤n,∀Y:(∀i,∀Y:i<r,O.lt' (aM arr (base+i)) key=true),∀Y:(∀i,∀Y:r≤i,∀Y:i<n,O.le key (aM arr (base+i))),Q (some r) st):
 b4 prog w A s (ow true key arr base n hint) Q st:=by
 refine Ih O eG hm aK az bR (fun i j iG aO av=>?_) fun r ae af aH=>h r ae (fun i hi=>?_) fun i bX et=>?_
 ·have g4:O.lt' (aM arr (base+j)) key=true:=by simpa [eV]using av
  simpa [eV]using O.lt_of_le_of_lt (hs i j iG aO) g4
 ·simpa [eV]using af i hi
 ·have:=aH i bX et;have fq:O.lt' (aM arr (base+i)) key=false:=by simpa [eV]using this
  exact fq
theorem mem_getD{arr:Array Keyed}{P:∀Y:Keyed,Prop} (hm:∀p∈arr.toList,P p) {i:Nat} (hi:i<arr.size):P (aM arr i):=hm _ (by simp[aM,Array.getD,hi])
structure pQ(a b:Array Keyed)(st:SortSt):Prop where
 kd:kindOf st=O.kd
 lr:∀p∈a.toList,O.mem p
 gi:∀p∈b.toList,O.mem p
 bu:cC O a.toList
 de:cC O b.toList
 aD:∀y∈b.toList,O.le y (aM a (a.size-1))
structure nw(a b out:Array Keyed)(bl bw n:Nat):Prop where
 PI:f6 O a b out bl bw
 cO:bl+1<a.size
 cQ:bw<b.size
 n:n≤out.size
noncomputable def oz(st ao:SortSt)(a b:Array Keyed)(N:Nat)(r:Option (Array Keyed))(out:Array Keyed)(bl bw:Nat):Prop:=
 fu st ao∧match r with|some r=>l5 O a b r|none=>nw O a b out bl bw N
noncomputable def PJ(st:SortSt)(a b:Array Keyed)(eW eX:Nat)(r:ForInStep pP)(ao:SortSt):Prop:=match r with
 |.done c=>oz O st ao a b eW c.1 c.2.1 c.2.2.1 c.2.2.2.1
 |.yield c=>c.1=none∧oz O st ao a b eX c.1 c.2.1 c.2.2.1 c.2.2.2.1
noncomputable def zA(st:SortSt)(a b:Array Keyed)(eW eX:Nat)(r:ForInStep M2)(ao:SortSt):Prop:=match r with
 |.done c=>oz O st ao a b eW c.1 c.2.1 c.2.2.1 c.2.2.2.1
 |.yield c=>c.1=none∧oz O st ao a b eX c.1 c.2.1 c.2.2.1 c.2.2.2.1
variable{O}
variable{st ao:SortSt}{g ac cU eW eX N:Nat}
theorem pQ.sC(ak:pQ O a b st)(h:fu st ao):kindOf ao=O.kd:=h.kind.trans ak.kd
theorem Ik(ak:pQ O a b st)(di:fu st ao)(M:f6 O a b out bl bw)(cO:bl+1<a.size)(cQ:bw<b.size)(hle:O.le (aM a bl) (aM b bw))(ae:eW≤out.size+1)(af:eX≤out.size+1):
 b4 prog w A s (CN a b out bl bw g ac cU) (zA O st a b eW eX) ao:=by
 refine bY (h9 (by exact aq (.b (.b .p) .q (.t .p .q)) rfl cO) ?_);have dj:=M.sy ak.bu ak.de (by exact aq (.b (.b .p) .q (.t .p .q)) rfl cO) fun Y=>hle;by_cases e:bl+1+1=a.size
 ·rw[if_pos (beq_iff_eq.mpr e)];exact cR ⟨di,dj.last ak.bu ak.de e ak.aD⟩
 ·rw[if_neg (fun q=>e (beq_iff_eq.mp q))];have aN:∀{N},∀Y:N≤out.size+1,nw O a b (out.push (aM a bl)) (bl+1) bw N:=fun h=>⟨dj,by exact(Nat.lt_or_gt_of_ne e).elim (fun ay=>aq (.b (.b (.b .p)) .q (.t (.b (.b .p)) .q)) rfl ay) (fun aE=>aq (.i 2 (.t (.b .p) .q) (.b .q (.b (.b .p)) (.t (.b (.b .p)) .q))) rfl cO aE),cQ,by rw[Array.size_push];exact h⟩
  split
  ·exact cR ⟨di,aN ae⟩
  ·exact cR ⟨rfl,di,aN af⟩
theorem Il(ak:pQ O a b st)(di:fu st ao)(M:f6 O a b out bl bw)(cO:bl+1<a.size)(cQ:bw<b.size)(ai:O.le (aM b bw) (aM a bl))(ae:eW≤out.size+2)(af:eX≤out.size+2):
 b4 prog w A s (CO a b out bl bw g ac cU) (zA O st a b eW eX) ao:=by
 refine bY (h9 cQ ?_);have sD:=M.sA ak.bu ak.de cQ fun Y=>ai;by_cases g8:bw+1=b.size
 ·rw[if_pos (beq_iff_eq.mpr g8)];exact cR ⟨di,sD.done ak.bu ak.de (.inr g8)⟩
 rw[if_neg (fun q=>g8 (beq_iff_eq.mp q))];have eH:bl<a.size:=Nat.lt_of_succ_lt cO;have gK:bw+1<b.size:=Nat.lt_of_le_of_ne cQ g8;refine bY (h9 eH (bY (CS O (ak.sC di) ak.gi (mem_getD ak.lr eH) (by exact aA (.c (.a .q (.b .p)) .r (.l (.a (.b .p) .q) .r)) rfl (Nat.sub_add_cancel (aq (.b .p .q (.l (.b .p) .q)) rfl cQ))) (by exact(Nat.lt_or_gt_of_ne g8).elim (fun ay=>aA (.i (-1) (.e (.a .p (.b .q)) .r) (.b (.b .q) .r (.t .z .p))) rfl (Nat.sub_add_cancel (aq (.b .p .q (.l (.b .p) .q)) rfl cQ)) ay) (fun aE=>aA (.c (.a .p (.b .q)) .r (.b .r (.b .q) (.t .z .p))) rfl (Nat.sub_add_cancel (aq (.b .p .q (.l (.b .p) .q)) rfl cQ)) aE)) (fun i j ae af=>ak.de.at_ O (by exact aA (.a .q .r (.l (.a (.b .p) .q) (.a (.b .p) .r))) rfl ae) (by exact(Nat.le_total (_+(1:Nat)) _).elim (fun ay=>bA (.b .q .s (.c (.a .s (.b .p)) .r (.t (.a (.b .p) .q) .r))) rfl af (Nat.sub_add_cancel ay)) (fun aE=>(aq (.b .p .q (.c .q .z .f)) rfl af (Nat.sub_eq_zero_of_le aE):False).elim))) fun q ay aE bI=>?_)));have hs:=Array.size_push (xs:=out) (aM b bw);by_cases jO:q>0
 ·refine Eq.mpr (congrArg (fun m=>b4 prog w A s m _ _) (if_pos jO)) ?_;have uc:=sD.wA ak.bu ak.de q (by exact ML ay jO) fun i hi Y=>O.le_of_lt (aE i hi);by_cases jP:bw+1+q=b.size
  ·rw[if_pos (beq_iff_eq.mpr jP)];exact cR ⟨di,uc.done ak.bu ak.de (.inr jP)⟩
  rw[if_neg (fun q=>jP (beq_iff_eq.mp q))];exact Ik ak di uc cO (by exact(Nat.lt_or_gt_of_ne jP).elim (fun ay=>aA (.b (.a (.b .p) .q) .r (.t (.a (.b .p) .q) .r)) rfl ay) (fun aE=>(Nat.le_total (_+(1:Nat)) _).elim (fun bI=>bA (.i 2 (.l .q .s) (.b .r (.a (.b .p) .q) (.i 2 (.e (.a .s (.b .p)) .r) (.t (.a (.b .p) .q) .r)))) rfl ay aE (Nat.sub_add_cancel bI)) (fun cM=>(aq (.a .p .q (.b .z .p (.c .q .z .f))) rfl ay jO (Nat.sub_eq_zero_of_le cM):False).elim))) (bI q (Nat.le_refl _) (by exact(Nat.lt_or_gt_of_ne jP).elim (fun ay=>bA (.b (.a (.b .r) .p) .s (.a .s (.a .q (.b .r)) (.t .p .q))) rfl ay (cj _ (_+(1:Nat)))) (fun aE=>(Nat.le_total (_+(1:Nat)) _).elim (fun bI=>bA (.i 2 (.l .p .q) (.b .r (.a (.b .s) .p) (.c (.a .q (.b .s)) .r (.t .p .q)))) rfl ay aE (Nat.sub_add_cancel bI)) (fun cM=>aq (.i 2 (.l .p .q) (.b .z .p (.c .q .z (.t .p .q)))) rfl ay jO (Nat.sub_eq_zero_of_le cM))))) (by rw[Array.size_append];exact bA (.a .p (.a .s (.k 2)) (.i (-1) (.e .q (.b .s)) (.l .p (.b (.a .q .r))))) rfl ae hs) (by rw[Array.size_append];exact bA (.a .p (.a .s (.k 2)) (.i (-1) (.e .q (.b .s)) (.l .p (.b (.a .q .r))))) rfl af hs)
 ·refine Eq.mpr (congrArg (fun m=>b4 prog w A s m _ _) (if_neg jO)) ?_;have oA:q=0:=Nat.eq_zero_of_not_pos jO;subst oA;exact Ik ak di sD cO gK (bI 0 (Nat.le_refl _) (by exact(Nat.lt_or_gt_of_ne g8).elim (fun ay=>aA (.i (-1) (.e (.a .p (.b .q)) .r) (.b (.b .q) .r (.t .z .p))) rfl (Nat.sub_add_cancel (aq (.b .p .q (.l (.b .p) .q)) rfl cQ)) ay) (fun aE=>aA (.c (.a .p (.b .q)) .r (.b .r (.b .q) (.t .z .p))) rfl (Nat.sub_add_cancel (aq (.b .p .q (.l (.b .p) .q)) rfl cQ)) aE))) (by exact aA (.a .p (.a .r (.k 2)) (.i (-1) (.e .q (.b .r)) (.l .p (.b .q)))) rfl ae hs) (by exact aA (.a .p (.a .r (.k 2)) (.i (-1) (.e .q (.b .r)) (.l .p (.b .q)))) rfl af hs)
theorem PK(ak:pQ O a b st)(di:fu st ao)(V:nw O a b out bl bw N)(ae:eW≤N+2)(af:eX≤N+2):
 b4 prog w A s (CP a b out bl bw ac cU g) (zA O st a b eW eX) ao:=by
 obtain⟨M,cO,cQ,ln⟩:=V;have oB:=di.set g;have eH:bl<a.size:=Nat.lt_of_succ_lt cO;show b4 prog w A s (pO g>>=_) _ _;rw[zy];refine bY (pM (bY (h9 cQ (bY (CR O (ak.sC oB) ak.lr (mem_getD ak.gi cQ) (by exact aA (.c (.a .q .p) .r (.l (.a .p .q) .r)) rfl (Nat.sub_add_cancel (aq (.b (.b .p) .q (.l .p .q)) rfl cO))) (by exact aA (.b (.b .q) .r (.a .r (.a .p .q) (.G 1 (.t .z .p)))) rfl cO (cj _ _)) (fun i j ae af=>ak.bu.at_ O (by exact aA (.a .q .r (.l (.a .p .q) (.a .p .r))) rfl ae) (by exact yd af)) fun k cT eU iU=>?_)))));by_cases oD:k>0
 ·refine Eq.mpr (congrArg (fun m=>b4 prog w A s m _ _) (if_pos oD)) ?_;have ud:=M.wz ak.bu ak.de k (by exact(Nat.le_total _ _).elim (fun ay=>bA (.a .q .s (.c (.a .s .p) .r (.l (.a .p .q) .r))) rfl cT (Nat.sub_add_cancel ay)) (fun aE=>(aq (.a .p .q (.b .z .p (.c .q .z .f))) rfl cT oD (Nat.sub_eq_zero_of_le aE):False).elim)) fun i hi Y=>eU i hi;by_cases cz:bl+k+1=a.size
  ·rw[if_pos (beq_iff_eq.mpr cz)];exact cR ⟨oB,ud.last ak.bu ak.de cz ak.aD⟩
  rw[if_neg (fun q=>cz (beq_iff_eq.mp q))];by_cases jf:bl+k=a.size
  ·rw[if_pos (beq_iff_eq.mpr jf)];exact cR ⟨oB,ud.done ak.bu ak.de (.inl jf)⟩
  rw[if_neg (fun q=>jf (beq_iff_eq.mp q))];exact Il ak oB ud (by exact(Nat.lt_or_gt_of_ne cz).elim (fun ay=>aA (.b (.b (.a .p .q)) .r (.t (.b (.a .p .q)) .r)) rfl ay) (fun aE=>(Nat.lt_or_gt_of_ne jf).elim (fun bI=>aA (.b .r (.b (.a .p .q)) (.i 2 (.t (.a .p .q) .r) (.t (.b (.a .p .q)) .r))) rfl aE bI) (fun cM=>(Nat.le_total _ _).elim (fun h7=>bA (.i 3 (.l .q .s) (.i 2 (.t .r (.a .p .q)) (.i 3 (.e (.a .s .p) .r) (.t (.b (.a .p .q)) .r)))) rfl cT cM (Nat.sub_add_cancel h7)) (fun fL=>(aq (.a .p .q (.b .z .p (.c .q .z .f))) rfl cT oD (Nat.sub_eq_zero_of_le fL):False).elim)))) cQ (O.le_of_lt (iU k (Nat.le_refl _) (by exact(Nat.lt_or_gt_of_ne jf).elim (fun ay=>bA (.b (.a .r .p) .s (.a .s (.a .q .r) (.t .p .q))) rfl ay (cj _ _)) (fun aE=>(Nat.le_total _ _).elim (fun bI=>bA (.i 2 (.l .p .q) (.b .r (.a .s .p) (.c (.a .q .s) .r (.t .p .q)))) rfl cT aE (Nat.sub_add_cancel bI)) (fun cM=>aq (.i 2 (.l .p .q) (.b .z .p (.c .q .z (.t .p .q)))) rfl cT oD (Nat.sub_eq_zero_of_le cM)))))) (by rw[Array.size_append];exact bA (.a .p (.a .s (.k 2)) (.a .s .q (.l .p (.a (.a .q .r) (.k 2))))) rfl ae ln) (by rw[Array.size_append];exact bA (.a .p (.a .s (.k 2)) (.a .s .q (.l .p (.a (.a .q .r) (.k 2))))) rfl af ln)
 ·refine Eq.mpr (congrArg (fun m=>b4 prog w A s m _ _) (if_neg oD)) ?_;have nq:k=0:=Nat.eq_zero_of_not_pos oD;subst nq;exact Il ak oB M cO cQ (O.le_of_lt (iU 0 (Nat.le_refl _) (by exact aA (.b (.b .q) .r (.a .r (.a .p .q) (.G 1 (.t .z .p)))) rfl cO (cj _ _)))) (by exact aA (.a .p (.a .r (.k 2)) (.a .r .q (.l .p (.a .q (.k 2))))) rfl ae ln) (by exact aA (.a .p (.a .r (.k 2)) (.a .r .q (.l .p (.a .q (.k 2))))) rfl af ln)
theorem PL(ak:pQ O a b st)(di:fu st ao)(V:nw O a b out bl bw N)(ae:eW≤N+2)(af:eX≤N+2):
 b4 prog w A s (CQ a b out bl bw g ac cU) (zA O st a b eW eX) ao:=by
 unfold CQ
 split<;>exact PK ak di V ae af
theorem PM(ak:pQ O a b st)(di:fu st ao)(V:nw O a b out bl bw N)(ae:eW≤N+1)(af:eX≤N+1):
 b4 prog w A s (Ii a b g out bl bw ac cU) (PJ O st a b eW eX) ao:=by
 obtain⟨M,cO,cQ,ln⟩:=V;have eH:bl<a.size:=Nat.lt_of_succ_lt cO;refine bY (h9 cQ (bY (h9 eH (bY (wx O (ak.sC di) (mem_getD ak.gi cQ) (mem_getD ak.lr eH) ?_)))));cases bC:O.lt' (aM b bw) (aM a bl)with
 |true=>
  refine bY (h9 cQ ?_);have ny:=M.sA ak.bu ak.de cQ fun Y=>O.le_of_lt bC;by_cases cz:bw+1=b.size
  ·rw[if_pos (beq_iff_eq.mpr cz)];exact cR ⟨di,ny.done ak.bu ak.de (.inr cz)⟩
  ·rw[if_neg (fun q=>cz (beq_iff_eq.mp q))];have aN:∀{K},∀Y:K≤N+1,nw O a b (out.push (aM b bw)) bl (bw+1) K:=fun h=>⟨ny,cO,by exact(Nat.lt_or_gt_of_ne cz).elim (fun ay=>aq (.b (.b .p) .q (.t (.b .p) .q)) rfl ay) (fun aE=>aq (.i 2 (.t .p .q) (.b .q (.b .p) (.t (.b .p) .q))) rfl cQ aE),by rw[Array.size_push];exact aA (.a .r .q (.a .p (.b .r) (.l .p (.b .q)))) rfl ln h⟩
   split
   ·exact cR ⟨di,aN ae⟩
   ·exact cR ⟨rfl,di,aN af⟩
 |false=>
  refine bY (h9 eH ?_);have ny:=M.sy ak.bu ak.de eH fun Y=>O.pN bC;by_cases cz:bl+1+1=a.size
  ·rw[if_pos (beq_iff_eq.mpr cz)];exact cR ⟨di,ny.last ak.bu ak.de cz ak.aD⟩
  ·rw[if_neg (fun q=>cz (beq_iff_eq.mp q))];have aN:∀{K},∀Y:K≤N+1,nw O a b (out.push (aM a bl)) (bl+1) bw K:=fun h=>⟨ny,by exact(Nat.lt_or_gt_of_ne cz).elim (fun ay=>aq (.b (.b (.b .p)) .q (.t (.b (.b .p)) .q)) rfl ay) (fun aE=>aq (.i 2 (.t (.b .p) .q) (.b .q (.b (.b .p)) (.t (.b (.b .p)) .q))) rfl cO aE),cQ,by rw[Array.size_push];exact aA (.a .r .q (.a .p (.b .r) (.l .p (.b .q)))) rfl ln h⟩
   split
   ·exact cR ⟨di,aN ae⟩
   ·exact cR ⟨rfl,di,aN af⟩
theorem nw.sE(V:nw O a b out bl bw N)(h:a.size+b.size≤N):False:=by
 have:=V.PI.size;have:=V.cO;have:=V.cQ;have:=V.n;exact cu (.a (.a .p .q) .r (.c (.a (.a .s .t) (.v 5)) (.a .p .q) (.b (.b (.v 6)) .p (.a .r .s (.a .p (.a .t (.v 6)) (.F 1)))))) rfl [_,_,_,_,(_-_),(_-_),_] [] h (by assumption) (by assumption) this (cj _ _)
noncomputable def PN(st:SortSt)(a b:Array Keyed)(N:Nat)(r:ForInStep qM)(ao:SortSt):Prop:=match r with
 |.done c=>fu st ao∧∃r,c.1=some r∧l5 O a b r
 |.yield c=>c.1=none∧oz O st ao a b N c.1 c.2.1 c.2.2.1 c.2.2.2.1
theorem PO(ak:pQ O a b st)(di:fu st ao)(V:nw O a b out bl bw N):b4 prog w A s (Ij a b out bl bw g) (PN (O:=O) st a b (N+1)) ao:=by
 refine bY (gp (l3 (I:=fun x c ao=>c.1=none∧oz O st ao a b (N+x) c.1 c.2.1 c.2.2.1 c.2.2.2.1) (Q:=fun c ao=>oz O st ao a b (N+1) c.1 c.2.1 c.2.2.1 c.2.2.2.1)
  (fun x c ao Y ai bE=>?_) (fun c ao bE=>?_) ⟨rfl,di,V⟩) fun c ao a7=>?_)
 ·refine ar ?_ bE;clear bE;intro e bD;rw[e]at bD;refine gp (PM ak bD.1 bD.2 (eW:=N+1) (eX:=N+(x+1)) (by exact aq (.l (.b .p) (.b (.a .p .q))) rfl) (by exact aq (.l (.a .p (.b .q)) (.b (.a .p .q))) rfl)) fun r ao h=>?_;cases r with
  |done c=>exact h
  |yield c=>exact h
 ·refine ar ?_ bE;clear bE;intro e bD;rw[e]at bD;exact(bD.2.sE (by exact bA (.a (.a .p .q) .s (.l (.a .p .q) (.a .r .s))) rfl (Nat.le_max_right (0:Nat) (_+_)))).elim
 ·obtain⟨r,out,bl,bw,ac,cU⟩:=c;cases r with
  |some r=>exact cR ⟨a7.1,r,rfl,a7.2⟩
  |none=>
   refine bY (t8 ?_)
   refine bY (gp (l3 (I:=fun x c ao=>c.1=none∧oz O st ao a b (N+1+x) c.1 c.2.1 c.2.2.1 c.2.2.2.1) (Q:=fun c ao=>oz O st ao a b (N+1) c.1 c.2.1 c.2.2.1 c.2.2.2.1)
    (fun x c ao Y ai bE=>?_) (fun c ao bE=>?_) ⟨rfl,a7⟩) fun c ao a7=>?_)
   ·refine ar ?_ bE;clear bE;intro e bD;rw[e]at bD;refine gp (PL ak bD.1 bD.2 (eW:=N+1) (eX:=N+1+(x+1)) (by exact aq (.l (.b .p) (.a (.a (.b .p) .q) (.k 2))) rfl) (by exact aq (.l (.a (.b .p) (.b .q)) (.a (.a (.b .p) .q) (.k 2))) rfl)) fun r ao h=>?_;cases r with
    |done c=>exact h
    |yield c=>exact h
   ·refine ar ?_ bE;clear bE;intro e bD;rw[e]at bD;exact(bD.2.sE (by exact bA (.a (.a .p .q) .s (.l (.a .p .q) (.a (.b .r) .s))) rfl (Nat.le_max_right (0:Nat) (_+_)))).elim
   ·obtain⟨r,out,bl,bw,g,ac,cU⟩:=c;cases r with
    |some r=>exact cR ⟨a7.1,r,rfl,a7.2⟩
    |none=>
     show b4 prog w A s (pO (g+1)>>=_) _ _;rw[zy];exact bY (pM (cR ⟨rfl,a7.1.set _,a7.2⟩))
variable(O)
theorem PQ{Q:∀Y:Array Keyed,∀Y:SortSt,Prop} {st:SortSt} (eG:kindOf st=O.kd) (CT:∀p∈a.toList,O.mem p) (CU:∀p∈b.toList,O.mem p) (aJ:cC O a.toList) (av:cC O b.toList) (ae:0<a.size) (af:0<b.size)
 (aV:O.le (aM b 0) (aM a 0)) (aD:∀y∈b.toList,O.le y (aM a (a.size-1))) (h:∀r ao,∀Y:fu st ao,∀Y:l5 O a b r,Q r ao):b4 prog w A s (CM a b) Q st:=by
 have dc:=f6.start aJ av ae af aV;have ak:pQ O a b st:=⟨eG,CT,CU,aJ,av,aD⟩;rw[PH];refine bY (t8 (bY (h9 af ?_)));by_cases aR:1=b.size
 ·rw[if_pos (beq_iff_eq.mpr aR)];exact cR (h _ _ (.refl _) (dc.done aJ av (.inr aR)))
 rw[if_neg (fun q=>aR (beq_iff_eq.mp q))];by_cases aW:0+1=a.size
 ·rw[if_pos (beq_iff_eq.mpr aW)];exact cR (h _ _ (.refl _) (dc.last aJ av aW aD))
 rw[if_neg (fun q=>aW (beq_iff_eq.mp q))];refine bY (ou ?_)
 refine bY (gp (l3 (I:=fun x c ao=>c.1=none∧oz O st ao a b (1+x) c.1 c.2.1 c.2.2.1 c.2.2.2.1) (Q:=fun c ao=>fu st ao∧∃r,c.1=some r∧l5 O a b r)
  (fun x c ao Y ai bE=>?_) (fun c ao bE=>?_) ⟨rfl,.refl _,(⟨dc,by exact(Nat.lt_or_gt_of_ne aW).elim (fun ay=>aI (.b (.b .z) .p (.t (.b .z) .p)) rfl ay) (fun aE=>aI (.i 2 (.t .z .p) (.b .p (.b .z) (.t (.b .z) .p))) rfl ae aE),by exact(Nat.lt_or_gt_of_ne aR).elim (fun ay=>aI (.b .o .p (.t .o .p)) rfl ay) (fun aE=>aI (.i 2 (.t .z .p) (.b .p .o (.t .o .p))) rfl af aE),Nat.le_refl 1⟩:nw O a b #[aM b 0] 0 1 (1+0))⟩) fun c ao a7=>?_)
 ·refine ar ?_ bE;clear bE;intro e bD;rw[e]at bD;refine gp (PO ak bD.1 bD.2) fun r ao h=>?_;cases r with
  |done c=>exact h
  |yield c=>exact h
 ·refine ar ?_ bE;clear bE;intro e bD;rw[e]at bD;exact(bD.2.sE (by exact aA (.a (.a .p .q) .r (.l (.a .p .q) (.a .o .r))) rfl (Nat.le_max_right (0:Nat) (_+_)))).elim
 ·obtain⟨r,out,bl,bw,g⟩:=c;obtain⟨di,c5,e,aC⟩:=a7;cases e
  exact cR (h _ _ di aC)
end
end Mine
end
section
open PySem PyProof.Rows
namespace Mine
section
variable{prog:Program}{w:World}{A:Around}{s:Shared}(O:Ord prog w A s)
structure dT(a b out:Array Keyed)(na nb:Nat):Prop where
 eH:na≤a.size
 gK:nb≤b.size
 perm:((a.toList.take na++b.toList.take nb)++out.toList.reverse).Perm (a.toList++b.toList)
 sorted:cC O out.toList.reverse
 above:∀x∈out.toList,∀y,∀Y:y∈a.toList.take na∨y∈b.toList.take nb,O.le y x
variable{O}
variable{a b out:Array Keyed}{na nb:Nat}
theorem dT.size(h:dT O a b out na nb):na+nb+out.size=a.size+b.size:=by
 have:=h.perm.length_eq;have ae:=h.eH;have af:=h.gK;simp at this;exact(Nat.le_total _ _).elim (fun bI=>Nat.le_antisymm ((Nat.le_total _ _).elim (fun cM=>cu (.c (.a (.v 5) (.a (.v 6) .r)) (.a .s .t) (.i (-1) (.e (.v 5) .p) (.i (-1) (.e (.v 6) .q) (.l (.a (.a .p .q) .r) (.a .s .t))))) rfl [_,_,_,_,_,(min _ _),(min _ _)] [] this (Nat.min_eq_left bI) (Nat.min_eq_left cM)) (fun h7=>cu (.a .q .t (.c (.a (.v 5) (.a (.v 6) .r)) (.a .s .t) (.i (-1) (.e (.v 5) .p) (.i (-1) (.e (.v 6) .t) (.l (.a (.a .p .q) .r) (.a .s .t)))))) rfl [_,_,_,_,_,(min _ _),(min _ _)] [] af this (Nat.min_eq_left bI) (Nat.min_eq_right h7))) (cu (.i (-1) (.e (.a (.v 5) (.a (.v 6) .t)) (.a .p .q)) (.c (.v 5) .r (.a (.v 6) .s (.l (.a .p .q) (.a (.a .r .s) .t))))) rfl [_,_,_,_,_,(min _ _),(min _ _)] [] this (Nat.min_eq_left bI) (Nat.min_le_left _ _))) (fun fL=>Nat.le_antisymm ((Nat.le_total _ _).elim (fun fM=>cu (.a .p .s (.c (.a (.v 5) (.a (.v 6) .r)) (.a .s .t) (.i (-1) (.e (.v 5) .s) (.i (-1) (.e (.v 6) .q) (.l (.a (.a .p .q) .r) (.a .s .t)))))) rfl [_,_,_,_,_,(min _ _),(min _ _)] [] ae this (Nat.min_eq_right fL) (Nat.min_eq_left fM)) (fun lu=>cu (.a .p .s (.a .q .t (.c (.a (.v 5) (.a (.v 6) .r)) (.a .s .t) (.i (-1) (.e (.v 5) .s) (.i (-1) (.e (.v 6) .t) (.l (.a (.a .p .q) .r) (.a .s .t))))))) rfl [_,_,_,_,_,(min _ _),(min _ _)] [] ae af this (Nat.min_eq_right fL) (Nat.min_eq_right lu))) (cu (.i (-1) (.e (.a (.v 5) (.a (.v 6) .t)) (.a .p .q)) (.a .p .r (.c (.v 5) .p (.a (.v 6) .s (.l (.a .p .q) (.a (.a .r .s) .t)))))) rfl [_,_,_,_,_,(min _ _),(min _ _)] [] this fL (Nat.min_eq_right fL) (Nat.min_le_left _ _)))
theorem CV{a:Array Keyed}{i:Nat}(h:i<a.size):a.toList.take (i+1)=a.toList.take i++[aM a i]:=by
 rw[List.take_add_one,getD_list h,List.getElem?_eq_getElem (by simpa using h)];rfl
theorem zB(hs:cC O a.toList){i:Nat}(hi:i<a.size){y:Keyed}(au:y∈a.toList.take (i+1)):O.le y (aM a i):=by
 obtain⟨j,aO,rfl⟩:=List.mem_iff_getElem.mp au;rw[List.getElem_take];have jK:j<a.size:=by simp at aO;exact aA (.b .p .r (.a .r .q (.t .p .q))) rfl aO (Nat.min_le_right (_+(1:Nat)) _)
 rw[←getD_list jK];exact hs.at_ O (by simp at aO;exact aA (.b .p .r (.a .r (.b .q) (.l .p .q))) rfl aO (Nat.min_le_left (_+(1:Nat)) _)) hi
theorem dT.sy{m:Nat}(h:dT O a b out (m+1) nb)(aJ:cC O a.toList)(av:cC O b.toList)(hle:∀Y:0<nb,O.le (aM b (nb-1)) (aM a m)):dT O a b (out.push (aM a m)) m nb:=by
 have hm:m<a.size:=h.eH;have e:=CV hm;refine⟨Nat.le_of_lt hm,h.gK,?_,?_,fun x ai y au=>?_⟩
 ·refine List.Perm.trans ?_ h.perm;rw[e];simp only[Array.toList_push,List.reverse_append,List.reverse_cons,List.reverse_nil,List.nil_append,List.append_assoc,List.cons_append];refine List.Perm.append_left _ ?_;exact(List.perm_middle (l₁:=b.toList.take nb) (l₂:=out.toList.reverse) (a:=aM a m))
 ·simp only[cC,Array.toList_push,List.reverse_append,List.reverse_cons,List.reverse_nil,List.nil_append,List.cons_append,List.pairwise_cons];exact⟨fun x ai=>h.above x (List.mem_reverse.mp ai) _ (.inl (by rw[e];simp)),h.sorted⟩
 ·rw[Array.toList_push,List.mem_append,List.mem_singleton]at ai;rcases ai with ai|rfl
  ·exact h.above x ai y (au.imp (fun q=>by rw[e];exact List.mem_append_left _ q) id)
  ·rcases au with au|au
   ·exact zB aJ hm (by rw[e];exact List.mem_append_left _ au)
   ·have bC:0<nb:=by
     have:=List.length_pos_of_mem au;simp at this;exact aq (.b .z .q (.a .q .p (.t .z .p))) rfl this (Nat.min_le_left _ _)
    obtain⟨q,rfl⟩:∃q,nb=q+1:=⟨nb-1,by exact vv bC⟩;exact O.le_trans (zB av h.gK au) (hle bC)
theorem dT.sA{m:Nat}(h:dT O a b out na (m+1))(aJ:cC O a.toList)(av:cC O b.toList)(hle:∀Y:0<na,O.le (aM a (na-1)) (aM b m)):dT O a b (out.push (aM b m)) na m:=by
 have hm:m<b.size:=h.gK;have e:=CV hm;refine⟨h.eH,Nat.le_of_lt hm,?_,?_,fun x ai y au=>?_⟩
 ·refine List.Perm.trans (List.Perm.of_eq ?_) h.perm;rw[e];simp
 ·simp only[cC,Array.toList_push,List.reverse_append,List.reverse_cons,List.reverse_nil,List.nil_append,List.cons_append,List.pairwise_cons];exact⟨fun x ai=>h.above x (List.mem_reverse.mp ai) _ (.inr (by rw[e];simp)),h.sorted⟩
 ·rw[Array.toList_push,List.mem_append,List.mem_singleton]at ai;rcases ai with ai|rfl
  ·exact h.above x ai y (au.imp id fun q=>by rw[e];exact List.mem_append_left _ q)
  ·rcases au with au|au
   ·have bC:0<na:=by
     have:=List.length_pos_of_mem au;simp at this;exact aq (.b .z .q (.a .q .p (.t .z .p))) rfl this (Nat.min_le_left _ _)
    obtain⟨q,rfl⟩:∃q,na=q+1:=⟨na-1,by exact vv bC⟩;exact O.le_trans (zB aJ h.eH au) (hle bC)
   ·exact zB av hm (by rw[e];exact List.mem_append_left _ au)
theorem Im{a:Array Keyed}{i k:Nat}(h:i+k<a.size)(out:Array Keyed):out++(a.extract i (i+(k+1))).reverse=(out.push (aM a (i+k)))++(a.extract i (i+k)).reverse:=by
 rw[CL h];apply Array.ext';simp
theorem dT.wz(aJ:cC O a.toList)(av:cC O b.toList){i:Nat}:∀(k:Nat){out:Array Keyed},∀Y:dT O a b out (i+k) nb,∀Y:(∀j,∀Y:j<k,∀Y:0<nb,O.le (aM b (nb-1)) (aM a (i+j))),dT O a b (out++(a.extract i (i+k)).reverse) i nb
 |0,out,h,_=>by rw[Nat.add_zero,zw];simpa using h
 |k+1,out,h,hle=>by
  have ae:=h.eH;rw[Im (by exact aA (.a (.a .p (.b .q)) .r (.t (.a .p .q) .r)) rfl ae)];exact dT.wz aJ av k (h.sy (m:=i+k) aJ av (hle k (by exact aI (.t .p (.b .p)) rfl))) fun j aO=>hle j (by exact aq (.b .p .q (.t .p (.b .q))) rfl aO)
theorem dT.wA(aJ:cC O a.toList)(av:cC O b.toList){i:Nat}:∀(k:Nat){out:Array Keyed},∀Y:dT O a b out na (i+k),∀Y:(∀j,∀Y:j<k,∀Y:0<na,O.le (aM a (na-1)) (aM b (i+j))),dT O a b (out++(b.extract i (i+k)).reverse) na i
 |0,out,h,_=>by rw[Nat.add_zero,zw];simpa using h
 |k+1,out,h,hle=>by
  have ae:=h.gK;rw[Im (by exact aA (.a (.a .p (.b .q)) .r (.t (.a .p .q) .r)) rfl ae)];exact dT.wA aJ av k (h.sA (m:=i+k) aJ av (hle k (by exact aI (.t .p (.b .p)) rfl))) fun j aO=>hle j (by exact aq (.b .p .q (.t .p (.b .q))) rfl aO)
theorem zC{a:Array Keyed}{i:Nat}:(a.extract 0 i).toList=a.toList.take i:=by
 rw[Array.toList_extract,List.extract_eq_take_drop];simp
theorem cC.take{l:List Keyed}(h:cC O l)(i:Nat):cC O (l.take i):=List.Pairwise.sublist (List.take_sublist _ _) h
theorem dT.done(h:dT O a b out na nb)(aJ:cC O a.toList)(av:cC O b.toList)(he:na=0∨nb=0):l5 O a b (a.extract 0 na++b.extract 0 nb++out.reverse):=by
 refine⟨?_,?_⟩
 ·simp only[Array.toList_append,zC,Array.toList_reverse];exact h.perm
 ·simp only[cC,Array.toList_append,zC,Array.toList_reverse,List.pairwise_append];refine⟨⟨aJ.take _,av.take _,fun x ai y au=>?_⟩,h.sorted,fun x ai y au=>h.above y (List.mem_reverse.mp au) x (List.mem_append.mp ai)⟩;rcases he with rfl|rfl
  ·simp at ai
  ·simp at au
theorem dT.first(h:dT O a b out na nb)(aJ:cC O a.toList)(av:cC O b.toList)(he:nb=1)(af:0<b.size)(aD:∀y∈a.toList,O.le (aM b 0) y):l5 O a b (b.extract 0 nb++a.extract 0 na++out.reverse):=by
 refine⟨?_,?_⟩
 ·simp only[Array.toList_append,zC,Array.toList_reverse];exact(List.Perm.append_right _ List.perm_append_comm).trans h.perm
 ·simp only[cC,Array.toList_append,zC,Array.toList_reverse,List.pairwise_append];refine⟨⟨av.take _,aJ.take _,fun x ai y au=>?_⟩,h.sorted,fun x ai y au=>h.above y (List.mem_reverse.mp au) x (List.mem_append.mp ai).symm⟩;subst he;rw[CV af]at ai;simp at ai;rw[ai];exact aD y (List.mem_of_mem_take au)
theorem dT.start(aJ:cC O a.toList)(av:cC O b.toList)(ae:0<a.size)(h:∀Y:0<b.size,O.le (aM b (b.size-1)) (aM a (a.size-1))):dT O a b #[aM a (a.size-1)] (a.size-1) b.size:=by
 have:dT O a b #[] (a.size-1+1) b.size:=by
  rw[show a.size-1+1=a.size by exact Nat.le_antisymm (aq (.c (.b .p) .q (.l (.b .p) .q)) rfl (Nat.sub_add_cancel (aI (.b .z .p (.l .o .p)) rfl ae))) (aq (.a .p (.b .q) (.l .p (.b .q))) rfl (cj _ (1:Nat)))];refine⟨Nat.le_refl _,Nat.le_refl _,?_,List.Pairwise.nil,fun x ai=>by cases ai⟩;rw[List.take_of_length_le (by simp),List.take_of_length_le (by simp)];simp
 exact this.sy aJ av h
noncomputable def CW:∀Y:Array Keyed,∀Y:Array Keyed,StateT SortSt Sem (Array Keyed):=sortPriv% PySem.Builtin.mergeHi
noncomputable abbrev CX:=Option (Array Keyed)×Nat×Nat×Array Keyed×Nat
noncomputable abbrev H1:=Option (Array Keyed)×Nat×Nat×Array Keyed×Nat×Nat
noncomputable abbrev oE:=Option (Array Keyed)×Nat×Nat×Array Keyed×Nat×Nat×Nat
noncomputable def qO(a b out:Array Keyed)(na nb:Nat):Array Keyed:=a.extract 0 na++b.extract 0 nb++out.reverse
noncomputable def zD(a b out:Array Keyed)(na nb:Nat):Array Keyed:=b.extract 0 nb++a.extract 0 na++out.reverse
noncomputable def Io(a b:Array Keyed)(g na nb:Nat)(out:Array Keyed)(ac cU:Nat):StateT SortSt Sem (ForInStep H1):=do
 let y ←elem' b (nb-1)
 let x ←elem' a (na-1)
 let r ←lt' y x
 match r with
 |some PR=>
  if PR=true then do
   let x ←elem' a (na-1)
   if(na-1==0)=true then pure (.done (some (qO a b (out.push x) (na-1) nb),na-1,nb,out.push x,ac+1,0))
   else if ac+1≥g then pure (.done (none,na-1,nb,out.push x,ac+1,0))
   else pure (.yield (none,na-1,nb,out.push x,ac+1,0))
  else do
   let y ←elem' b (nb-1)
   if(nb-1==1)=true then pure (.done (some (zD a b (out.push y) na (nb-1)),na,nb-1,out.push y,0,cU+1))
   else if cU+1≥g then pure (.done (none,na,nb-1,out.push y,0,cU+1))
   else pure (.yield (none,na,nb-1,out.push y,0,cU+1))
 |_=>pure (.done (some (qO a b out na nb),na,nb,out,ac,cU))
noncomputable def CY(a b:Array Keyed)(na nb:Nat)(out:Array Keyed)(g ac cU:Nat):StateT SortSt Sem (ForInStep oE):=do
 let x ←elem' a (na-1)
 if(na-1==0)=true then pure (.done (some (qO a b (out.push x) (na-1) nb),na-1,nb,out.push x,g,ac,cU))
 else if(decide (ac<7)&&decide (cU<7))=true then pure (.done (none,na-1,nb,out.push x,g,ac,cU))
 else pure (.yield (none,na-1,nb,out.push x,g,ac,cU))
noncomputable def CZ(a b:Array Keyed)(na nb:Nat)(out:Array Keyed)(g ac cU:Nat):StateT SortSt Sem (ForInStep oE):=do
 let y ←elem' b (nb-1)
 if(nb-1==1)=true then pure (.done (some (zD a b (out.push y) na (nb-1)),na,nb-1,out.push y,g,ac,cU))
 else do
  let x ←elem' a (na-1)
  let r ←ow true x b 0 (nb-1) (nb-1-1)
  match r with
  |some t=>
   if nb-1-t>0 then
    if(t==1)=true then pure (.done (some (zD a b (out.push y++(b.extract t (nb-1)).reverse) na t),na,t,out.push y++(b.extract t (nb-1)).reverse,g,ac,nb-1-t))
    else if(t==0)=true then pure (.done (some (qO a b (out.push y++(b.extract t (nb-1)).reverse) na t),na,t,out.push y++(b.extract t (nb-1)).reverse,g,ac,nb-1-t))
    else CY a b na t (out.push y++(b.extract t (nb-1)).reverse) g ac (nb-1-t)
   else CY a b na (nb-1) (out.push y) g ac (nb-1-t)
  |_=>pure (.done (some (qO a b (out.push y) na (nb-1)),na,nb-1,out.push y,g,ac,cU))
noncomputable def C0(a b:Array Keyed)(na nb:Nat)(out:Array Keyed)(ac cU g:Nat):StateT SortSt Sem (ForInStep oE):=do
 pO g
 let y ←elem' b (nb-1)
 let r ←ow false y a 0 na (na-1)
 match r with
 |some t=>
  if na-t>0 then
   if(t==0)=true then pure (.done (some (qO a b (out++(a.extract t na).reverse) t nb),t,nb,out++(a.extract t na).reverse,g,na-t,cU))
   else CZ a b t nb (out++(a.extract t na).reverse) g (na-t) cU
  else CZ a b na nb out g (na-t) cU
 |_=>pure (.done (some (qO a b out na nb),na,nb,out,g,ac,cU))
noncomputable def C1(a b:Array Keyed)(na nb:Nat)(out:Array Keyed)(g ac cU:Nat):StateT SortSt Sem (ForInStep oE):=
 if g>1 then C0 a b na nb out ac cU (g-1)else C0 a b na nb out ac cU g
noncomputable def Ip(a b:Array Keyed)(na nb:Nat)(out:Array Keyed)(g:Nat):StateT SortSt Sem (ForInStep CX):=do
 let c ←forIn [0:a.size+b.size] ((none,na,nb,out,0,0):H1) fun Y c=>Io a b g c.2.1 c.2.2.1 c.2.2.2.1 c.2.2.2.2.1 c.2.2.2.2.2
 match c.1 with
 |some r=>pure (.done (some r,c.2.1,c.2.2.1,c.2.2.2.1,g))
 |none=>do
  rule "list.sort.gallop"
  let c ←forIn [0:a.size+b.size] ((none,c.2.1,c.2.2.1,c.2.2.2.1,g+1,c.2.2.2.2.1,c.2.2.2.2.2):oE) fun Y c=>C1 a b c.2.1 c.2.2.1 c.2.2.2.1 c.2.2.2.2.1 c.2.2.2.2.2.1 c.2.2.2.2.2.2
  match c.1 with
  |some r=>pure (.done (some r,c.2.1,c.2.2.1,c.2.2.2.1,c.2.2.2.2.1))
  |none=>do
   pO (c.2.2.2.2.1+1)
   pure (.yield (none,c.2.1,c.2.2.1,c.2.2.2.1,c.2.2.2.2.1+1))
theorem PS(a b:Array Keyed):CW a b=(do
 rule "list.sort.merge-hi"
 let y ←elem' a (a.size-1)
 if(a.size-1==0)=true then pure (qO a b #[y] (a.size-1) b.size)
 else if(b.size==1)=true then pure (zD a b #[y] (a.size-1) b.size)
 else do
  let st ←get
  let c ←forIn [0:a.size+b.size] ((none,a.size-1,b.size,#[y],gallopOf st):CX) fun Y c=>Ip a b c.2.1 c.2.2.1 c.2.2.2.1 c.2.2.2.2
  match c.1 with
  |some r=>pure r
  |none=>unsupported "internal:list.sort.merge-bound"):=by kernel_rfl
variable(O)
theorem dT.Iq{na:Nat}(h:dT O a b out na nb)(aV:0<na)(aJ:cC O a.toList)(av:cC O b.toList)(hle:∀Y:0<nb,O.le (aM b (nb-1)) (aM a (na-1))):dT O a b (out.push (aM a (na-1))) (na-1) nb:=by
 obtain⟨m,rfl⟩:∃m,na=m+1:=⟨na-1,by exact vv aV⟩;exact dT.sy h aJ av hle
theorem dT.Ir{nb:Nat}(h:dT O a b out na nb)(aV:0<nb)(aJ:cC O a.toList)(av:cC O b.toList)(hle:∀Y:0<na,O.le (aM a (na-1)) (aM b (nb-1))):dT O a b (out.push (aM b (nb-1))) na (nb-1):=by
 obtain⟨m,rfl⟩:∃m,nb=m+1:=⟨nb-1,by exact vv aV⟩;exact dT.sA h aJ av hle
theorem dT.PT{i:Nat}(h:dT O a b out na nb)(hi:i≤na)(aJ:cC O a.toList)(av:cC O b.toList)(hle:∀j,∀Y:i≤j,∀Y:j<na,∀Y:0<nb,O.le (aM b (nb-1)) (aM a j)):dT O a b (out++(a.extract i na).reverse) i nb:=by
 obtain⟨k,rfl⟩:∃k,na=i+k:=⟨na-i,by exact Nat.le_antisymm (aA (.a .p (.a .r .q) (.l .p (.a .q .r))) rfl (cj _ _)) (aA (.c (.a .q .p) .r (.l (.a .p .q) .r)) rfl (Nat.sub_add_cancel (aq (.a .p .q (.l .p .q)) rfl hi)))⟩;exact dT.wz aJ av k h fun j aO=>hle _ (by exact aq (.l .p (.a .p .q)) rfl) (by exact aA (.b .q .r (.t (.a .p .q) (.a .p .r))) rfl aO)
theorem dT.PU{i:Nat}(h:dT O a b out na nb)(hi:i≤nb)(aJ:cC O a.toList)(av:cC O b.toList)(hle:∀j,∀Y:i≤j,∀Y:j<nb,∀Y:0<na,O.le (aM a (na-1)) (aM b j)):dT O a b (out++(b.extract i nb).reverse) na i:=by
 obtain⟨k,rfl⟩:∃k,nb=i+k:=⟨nb-i,by exact Nat.le_antisymm (aA (.a .p (.a .r .q) (.l .p (.a .q .r))) rfl (cj _ _)) (aA (.c (.a .q .p) .r (.l (.a .p .q) .r)) rfl (Nat.sub_add_cancel (aq (.a .p .q (.l .p .q)) rfl hi)))⟩;exact dT.wA aJ av k h fun j aO=>hle _ (by exact aq (.l .p (.a .p .q)) rfl) (by exact aA (.b .q .r (.t (.a .p .q) (.a .p .r))) rfl aO)
structure pR(a b:Array Keyed)(st:SortSt):Prop where
 kd:kindOf st=O.kd
 lr:∀p∈a.toList,O.mem p
 gi:∀p∈b.toList,O.mem p
 bu:cC O a.toList
 de:cC O b.toList
 af:0<b.size
 aD:∀y∈a.toList,O.le (aM b 0) y
structure nz(a b out:Array Keyed)(na nb n:Nat):Prop where
 PV:dT O a b out na nb
 cO:0<na
 cQ:1<nb
 n:n≤out.size
noncomputable def oF(st ao:SortSt)(a b:Array Keyed)(N:Nat)(r:Option (Array Keyed))(na nb:Nat)(out:Array Keyed):Prop:=
 fu st ao∧match r with|some r=>l5 O a b r|none=>nz O a b out na nb N
noncomputable def PW(st:SortSt)(a b:Array Keyed)(eW eX:Nat)(r:ForInStep H1)(ao:SortSt):Prop:=match r with
 |.done c=>oF O st ao a b eW c.1 c.2.1 c.2.2.1 c.2.2.2.1
 |.yield c=>c.1=none∧oF O st ao a b eX c.1 c.2.1 c.2.2.1 c.2.2.2.1
noncomputable def zE(st:SortSt)(a b:Array Keyed)(eW eX:Nat)(r:ForInStep oE)(ao:SortSt):Prop:=match r with
 |.done c=>oF O st ao a b eW c.1 c.2.1 c.2.2.1 c.2.2.2.1
 |.yield c=>c.1=none∧oF O st ao a b eX c.1 c.2.1 c.2.2.1 c.2.2.2.1
noncomputable def PX(st:SortSt)(a b:Array Keyed)(N:Nat)(r:ForInStep CX)(ao:SortSt):Prop:=match r with
 |.done c=>fu st ao∧∃r,c.1=some r∧l5 O a b r
 |.yield c=>c.1=none∧oF O st ao a b N c.1 c.2.1 c.2.2.1 c.2.2.2.1
variable{O}
variable{st ao:SortSt}{g ac cU eW eX N:Nat}
theorem pR.sC(ak:pR O a b st)(h:fu st ao):kindOf ao=O.kd:=h.kind.trans ak.kd
theorem Iu(ak:pR O a b st)(di:fu st ao)(M:dT O a b out na nb)(cO:0<na)(cQ:1<nb)(hle:∀Y:0<nb,O.le (aM b (nb-1)) (aM a (na-1))) (ae:eW≤out.size+1) (af:eX≤out.size+1):
 b4 prog w A s (CY a b na nb out g ac cU) (zE O st a b eW eX) ao:=by
 have eH:=M.eH;refine bY (h9 (by exact Bl cO eH) ?_);have dj:=M.Iq O cO ak.bu ak.de hle;by_cases e:na-1=0
 ·rw[if_pos (beq_iff_eq.mpr e)];exact cR ⟨di,dj.done ak.bu ak.de (.inl e)⟩
 ·rw[if_neg (fun q=>e (beq_iff_eq.mp q))];have aN:∀{N},∀Y:N≤out.size+1,nz O a b (out.push (aM a (na-1))) (na-1) nb N:=fun h=>⟨dj,Nat.pos_of_ne_zero e,cQ,by rw[Array.size_push];exact h⟩
  split
  ·exact cR ⟨di,aN ae⟩
  ·exact cR ⟨rfl,di,aN af⟩
theorem Iv(ak:pR O a b st)(di:fu st ao)(M:dT O a b out na nb)(cO:0<na)(cQ:1<nb)(ai:O.le (aM a (na-1)) (aM b (nb-1)))(ae:eW≤out.size+2)(af:eX≤out.size+2):
 b4 prog w A s (CZ a b na nb out g ac cU) (zE O st a b eW eX) ao:=by
 have eH:=M.eH;have gK:=M.gK;refine bY (h9 (by exact Bm cQ gK) ?_);have sD:=M.Ir O (by exact aI (.b .o .p (.G 1 (.t .z .p))) rfl cQ) ak.bu ak.de fun Y=>ai;by_cases g8:nb-1=1
 ·rw[if_pos (beq_iff_eq.mpr g8)];exact cR ⟨di,sD.first ak.bu ak.de g8 ak.af ak.aD⟩
 rw[if_neg (fun q=>g8 (beq_iff_eq.mp q))];have ue:na-1<a.size:=by exact Bl cO eH
 refine bY (h9 ue (bY (CS O (ak.sC di) ak.gi (mem_getD ak.lr ue) (by exact aA (.a .r .q (.a .p .r (.l (.a .z .p) .q))) rfl gK (Nat.sub_le _ (1:Nat))) (by exact aq (.c (.b .p) .q (.t .p .q)) rfl (Nat.sub_add_cancel (aq (.b .o .q (.a .q (.b .p) (.l .o .p))) rfl cQ (cj _ (1:Nat))))) (fun i j ae af=>ak.de.at_ O (by exact aq (.a .p .q (.l (.a .z .p) (.a .z .q))) rfl ae) (by exact bA (.a .r .q (.b .p .s (.a .s .r (.t (.a .z .p) .q)))) rfl gK af (Nat.sub_le _ (1:Nat)))) fun q ay aE bI=>?_)));have hs:=Array.size_push (xs:=out) (aM b (nb-1));have uc:=sD.PU O ay ak.bu ak.de fun j ae af Y=>Nat.zero_add j▸bI j ae af;have au:∀Y:0<q,O.le (aM b (q-1)) (aM a (na-1)):=fun bX=>Nat.zero_add (q-1)▸O.le_of_lt (aE (q-1) (Nat.sub_lt bX Nat.one_pos));by_cases jO:nb-1-q>0
 ·refine Eq.mpr (congrArg (fun m=>b4 prog w A s m _ _) (if_pos jO)) ?_;by_cases jP:q=1
  ·rw[if_pos (beq_iff_eq.mpr jP)];exact cR ⟨di,uc.first ak.bu ak.de jP ak.af ak.aD⟩
  rw[if_neg (fun q=>jP (beq_iff_eq.mp q))];by_cases wC:q=0
  ·rw[if_pos (beq_iff_eq.mpr wC)];exact cR ⟨di,uc.done ak.bu ak.de (.inr wC)⟩
  rw[if_neg (fun q=>wC (beq_iff_eq.mp q))];exact Iu ak di uc cO (by exact(Nat.lt_or_gt_of_ne jP).elim (fun ay=>(Nat.lt_or_gt_of_ne wC).elim (fun aE=>aI (.i 2 (.t .p .z) (.t .o .p)) rfl aE) (fun bI=>aI (.b .p .o (.i 2 (.t .z .p) (.t .o .p))) rfl ay bI)) (fun cM=>aI (.b .o .p (.t .o .p)) rfl cM)) au (by rw[Array.size_append];exact bA (.a .p (.a .s (.k 2)) (.i (-1) (.e .q (.b .s)) (.l .p (.b (.a .q .r))))) rfl ae hs) (by rw[Array.size_append];exact bA (.a .p (.a .s (.k 2)) (.i (-1) (.e .q (.b .s)) (.l .p (.b (.a .q .r))))) rfl af hs)
 ·refine Eq.mpr (congrArg (fun m=>b4 prog w A s m _ _) (if_neg jO)) ?_;have oA:q=nb-1:=by exact Nat.le_antisymm (aq (.a .p .q (.l .p .q)) rfl ay) (aA (.n (.t .z .r) (.a .p (.a .r .q) (.l .p .q))) rfl jO (cj (_-(1:Nat)) _))
  subst oA;exact Iu ak di sD cO (by exact(Nat.lt_or_gt_of_ne g8).elim (fun ay=>aq (.i 2 (.t .o .q) (.i (-2) (.e (.b .p) .q) (.b .p .o (.t .o .p)))) rfl cQ (Nat.sub_add_cancel (aI (.b .o .p (.G 1 (.l .o .p))) rfl cQ)) ay) (fun aE=>aI (.b .o .p (.t .o .p)) rfl aE)) au (by exact aA (.a .p (.a .r (.k 2)) (.i (-1) (.e .q (.b .r)) (.l .p (.b .q)))) rfl ae hs) (by exact aA (.a .p (.a .r (.k 2)) (.i (-1) (.e .q (.b .r)) (.l .p (.b .q)))) rfl af hs)
theorem PY(ak:pR O a b st)(di:fu st ao)(V:nz O a b out na nb N)(ae:eW≤N+2)(af:eX≤N+2):
 b4 prog w A s (C0 a b na nb out ac cU g) (zE O st a b eW eX) ao:=by
 obtain⟨M,cO,cQ,ln⟩:=V;have eH:=M.eH;have gK:=M.gK;have oB:=di.set g;have uf:nb-1<b.size:=by exact Bm cQ gK
 show b4 prog w A s (pO g>>=_) _ _;rw[zy];refine bY (pM (bY (h9 uf (bY (CR O (ak.sC oB) ak.lr (mem_getD ak.gi uf) (by exact aq (.a .p .q (.l (.a .z .p) .q)) rfl eH) (by exact aq (.c (.b .p) .q (.t .p .q)) rfl (Nat.sub_add_cancel (aI (.b .z .p (.l .o .p)) rfl cO))) (fun i j ae af=>ak.bu.at_ O (by exact aq (.a .p .q (.l (.a .z .p) (.a .z .q))) rfl ae) (by exact aA (.a .r .q (.b .p .r (.t (.a .z .p) .q))) rfl eH af)) fun t t1 kF t3=>?_)))));have ud:=M.PT O t1 ak.bu ak.de fun j ae af Y=>Nat.zero_add j▸O.le_of_lt (t3 j ae af);have hle:∀Y:0<t,O.le (aM a (t-1)) (aM b (nb-1)):=fun bX=>Nat.zero_add (t-1)▸kF (t-1) (Nat.sub_lt bX Nat.one_pos);by_cases oD:na-t>0
 ·refine Eq.mpr (congrArg (fun m=>b4 prog w A s m _ _) (if_pos oD)) ?_;by_cases cz:t=0
  ·rw[if_pos (beq_iff_eq.mpr cz)];exact cR ⟨oB,ud.done ak.bu ak.de (.inl cz)⟩
  rw[if_neg (fun q=>cz (beq_iff_eq.mp q))];exact Iv ak oB ud (Nat.pos_of_ne_zero cz) cQ (hle (Nat.pos_of_ne_zero cz)) (by rw[Array.size_append];exact bA (.a .p (.a .s (.k 2)) (.a .s .q (.l .p (.a (.a .q .r) (.k 2))))) rfl ae ln) (by rw[Array.size_append];exact bA (.a .p (.a .s (.k 2)) (.a .s .q (.l .p (.a (.a .q .r) (.k 2))))) rfl af ln)
 ·refine Eq.mpr (congrArg (fun m=>b4 prog w A s m _ _) (if_neg oD)) ?_;have nq:t=na:=by exact Nat.le_antisymm (aq (.a .p .q (.l .p .q)) rfl t1) (aA (.n (.t .z .r) (.a .p (.a .r .q) (.l .p .q))) rfl oD (cj _ _))
  subst nq;exact Iv ak oB M cO cQ (hle cO) (by exact aA (.a .p (.a .r (.k 2)) (.a .r .q (.l .p (.a .q (.k 2))))) rfl ae ln) (by exact aA (.a .p (.a .r (.k 2)) (.a .r .q (.l .p (.a .q (.k 2))))) rfl af ln)
theorem PZ(ak:pR O a b st)(di:fu st ao)(V:nz O a b out na nb N)(ae:eW≤N+2)(af:eX≤N+2):
 b4 prog w A s (C1 a b na nb out g ac cU) (zE O st a b eW eX) ao:=by
 unfold C1
 split<;>exact PY ak di V ae af
theorem P0(ak:pR O a b st)(di:fu st ao)(V:nz O a b out na nb N)(ae:eW≤N+1)(af:eX≤N+1):
 b4 prog w A s (Io a b g na nb out ac cU) (PW O st a b eW eX) ao:=by
 obtain⟨M,cO,cQ,ln⟩:=V;have eH:=M.eH;have gK:=M.gK;have ue:na-1<a.size:=by exact Bl cO eH
 have uf:nb-1<b.size:=by exact Bm cQ gK
 refine bY (h9 uf (bY (h9 ue (bY (wx O (ak.sC di) (mem_getD ak.gi uf) (mem_getD ak.lr ue) ?_)))));cases bC:O.lt' (aM b (nb-1)) (aM a (na-1))with
 |true=>
  refine bY (h9 ue ?_);have ny:=M.Iq O cO ak.bu ak.de fun Y=>O.le_of_lt bC;by_cases cz:na-1=0
  ·rw[if_pos (beq_iff_eq.mpr cz)];exact cR ⟨di,ny.done ak.bu ak.de (.inl cz)⟩
  ·rw[if_neg (fun q=>cz (beq_iff_eq.mp q))];have aN:∀{K},∀Y:K≤N+1,nz O a b (out.push (aM a (na-1))) (na-1) nb K:=fun h=>⟨ny,Nat.pos_of_ne_zero cz,cQ,by rw[Array.size_push];exact aA (.a .r .q (.a .p (.b .r) (.l .p (.b .q)))) rfl ln h⟩
   split
   ·exact cR ⟨di,aN ae⟩
   ·exact cR ⟨rfl,di,aN af⟩
 |false=>
  refine bY (h9 uf ?_);have ny:=M.Ir O (by exact aI (.b .o .p (.G 1 (.t .z .p))) rfl cQ) ak.bu ak.de fun Y=>O.pN bC;by_cases cz:nb-1=1
  ·rw[if_pos (beq_iff_eq.mpr cz)];exact cR ⟨di,ny.first ak.bu ak.de cz ak.af ak.aD⟩
  ·rw[if_neg (fun q=>cz (beq_iff_eq.mp q))];have aN:∀{K},∀Y:K≤N+1,nz O a b (out.push (aM b (nb-1))) na (nb-1) K:=fun h=>⟨ny,cO,by exact(Nat.lt_or_gt_of_ne cz).elim (fun ay=>aq (.i 2 (.t .o .q) (.i (-2) (.e (.b .p) .q) (.b .p .o (.t .o .p)))) rfl cQ (Nat.sub_add_cancel (aI (.b .o .p (.G 1 (.l .o .p))) rfl cQ)) ay) (fun aE=>aI (.b .o .p (.t .o .p)) rfl aE),by rw[Array.size_push];exact aA (.a .r .q (.a .p (.b .r) (.l .p (.b .q)))) rfl ln h⟩
   split
   ·exact cR ⟨di,aN ae⟩
   ·exact cR ⟨rfl,di,aN af⟩
theorem nz.sE(V:nz O a b out na nb N)(h:a.size+b.size≤N):False:=by
 have:=V.PV.size;have:=V.cO;have:=V.n;exact cu (.a (.a .p .q) .r (.c (.a (.a .s .t) (.v 5)) (.a .p .q) (.b .z .s (.a .r (.v 5) .f)))) rfl [_,_,_,_,_,_] [] h (by assumption) (by assumption) this
theorem P1(ak:pR O a b st)(di:fu st ao)(V:nz O a b out na nb N):b4 prog w A s (Ip a b na nb out g) (PX O st a b (N+1)) ao:=by
 refine bY (gp (l3 (I:=fun x c ao=>c.1=none∧oF O st ao a b (N+x) c.1 c.2.1 c.2.2.1 c.2.2.2.1) (Q:=fun c ao=>oF O st ao a b (N+1) c.1 c.2.1 c.2.2.1 c.2.2.2.1)
  (fun x c ao Y ai bE=>?_) (fun c ao bE=>?_) ⟨rfl,di,V⟩) fun c ao a7=>?_)
 ·refine ar ?_ bE;clear bE;intro e bD;rw[e]at bD;refine gp (P0 ak bD.1 bD.2 (eW:=N+1) (eX:=N+(x+1)) (by exact aq (.l (.b .p) (.b (.a .p .q))) rfl) (by exact aq (.l (.a .p (.b .q)) (.b (.a .p .q))) rfl)) fun r ao h=>?_;cases r with
  |done c=>exact h
  |yield c=>exact h
 ·refine ar ?_ bE;clear bE;intro e bD;rw[e]at bD;exact(bD.2.sE (by exact bA (.a (.a .p .q) .s (.l (.a .p .q) (.a .r .s))) rfl (Nat.le_max_right (0:Nat) (_+_)))).elim
 ·obtain⟨r,na,nb,out,ac,cU⟩:=c;cases r with
  |some r=>exact cR ⟨a7.1,r,rfl,a7.2⟩
  |none=>
   refine bY (t8 ?_)
   refine bY (gp (l3 (I:=fun x c ao=>c.1=none∧oF O st ao a b (N+1+x) c.1 c.2.1 c.2.2.1 c.2.2.2.1) (Q:=fun c ao=>oF O st ao a b (N+1) c.1 c.2.1 c.2.2.1 c.2.2.2.1)
    (fun x c ao Y ai bE=>?_) (fun c ao bE=>?_) ⟨rfl,a7⟩) fun c ao a7=>?_)
   ·refine ar ?_ bE;clear bE;intro e bD;rw[e]at bD;refine gp (PZ ak bD.1 bD.2 (eW:=N+1) (eX:=N+1+(x+1)) (by exact aq (.l (.b .p) (.a (.a (.b .p) .q) (.k 2))) rfl) (by exact aq (.l (.a (.b .p) (.b .q)) (.a (.a (.b .p) .q) (.k 2))) rfl)) fun r ao h=>?_;cases r with
    |done c=>exact h
    |yield c=>exact h
   ·refine ar ?_ bE;clear bE;intro e bD;rw[e]at bD;exact(bD.2.sE (by exact bA (.a (.a .p .q) .s (.l (.a .p .q) (.a (.b .r) .s))) rfl (Nat.le_max_right (0:Nat) (_+_)))).elim
   ·obtain⟨r,na,nb,out,g,ac,cU⟩:=c;cases r with
    |some r=>exact cR ⟨a7.1,r,rfl,a7.2⟩
    |none=>
     show b4 prog w A s (pO (g+1)>>=_) _ _;rw[zy];exact bY (pM (cR ⟨rfl,a7.1.set _,a7.2⟩))
variable(O)
theorem P4{Q:∀Y:Array Keyed,∀Y:SortSt,Prop} {st:SortSt} (eG:kindOf st=O.kd) (CT:∀p∈a.toList,O.mem p) (CU:∀p∈b.toList,O.mem p) (aJ:cC O a.toList) (av:cC O b.toList) (ae:0<a.size) (af:0<b.size)
 (aV:O.le (aM b (b.size-1)) (aM a (a.size-1))) (aD:∀y∈a.toList,O.le (aM b 0) y) (h:∀r ao,∀Y:fu st ao,∀Y:l5 O a b r,Q r ao):b4 prog w A s (CW a b) Q st:=by
 have dc:=dT.start aJ av ae fun Y=>aV;have ak:pR O a b st:=⟨eG,CT,CU,aJ,av,af,aD⟩;rw[PS];refine bY (t8 (bY (h9 (Nat.sub_lt ae Nat.one_pos) ?_)));by_cases aR:a.size-1=0
 ·rw[if_pos (beq_iff_eq.mpr aR)];exact cR (h _ _ (.refl _) (dc.done aJ av (.inl aR)))
 rw[if_neg (fun q=>aR (beq_iff_eq.mp q))];by_cases aW:b.size=1
 ·rw[if_pos (beq_iff_eq.mpr aW)];exact cR (h _ _ (.refl _) (dc.first aJ av aW af aD))
 rw[if_neg (fun q=>aW (beq_iff_eq.mp q))];refine bY (ou ?_)
 refine bY (gp (l3 (I:=fun x c ao=>c.1=none∧oF O st ao a b (1+x) c.1 c.2.1 c.2.2.1 c.2.2.2.1) (Q:=fun c ao=>fu st ao∧∃r,c.1=some r∧l5 O a b r)
  (fun x c ao Y ai bE=>?_) (fun c ao bE=>?_) ⟨rfl,.refl _,(⟨dc,Nat.pos_of_ne_zero aR,by exact(Nat.lt_or_gt_of_ne aW).elim (fun ay=>aI (.i 2 (.t .z .p) (.b .p .o (.t .o .p))) rfl af ay) (fun aE=>aI (.b .o .p (.t .o .p)) rfl aE),Nat.le_refl 1⟩:nz O a b #[aM a (a.size-1)] (a.size-1) b.size (1+0))⟩) fun c ao a7=>?_)
 ·refine ar ?_ bE;clear bE;intro e bD;rw[e]at bD;refine gp (P1 ak bD.1 bD.2) fun r ao h=>?_;cases r with
  |done c=>exact h
  |yield c=>exact h
 ·refine ar ?_ bE;clear bE;intro e bD;rw[e]at bD;exact(bD.2.sE (by exact aA (.a (.a .p .q) .r (.l (.a .p .q) (.a .o .r))) rfl (Nat.le_max_right (0:Nat) (_+_)))).elim
 ·obtain⟨r,na,nb,out,g⟩:=c;obtain⟨di,c5,e,aC⟩:=a7;cases e
  exact cR (h _ _ di aC)
end
end Mine
end
section
open PySem PyProof.Rows
namespace Mine
section
variable{prog:Program}{w:World}{A:Around}{s:Shared}(O:Ord prog w A s)
noncomputable def Rel(st ao:SortSt)(lo hi:Nat):Prop:=∃xs,ao=setArr st xs∧xs.Perm (arrOf st)∧∀k,∀Y:k<lo∨hi≤k,aM xs k=aM (arrOf st) k
theorem Rel.refl(st:SortSt)(lo hi:Nat):Rel st st lo hi:=⟨arrOf st,rfl,.refl _,fun Y Y=>rfl⟩
theorem Rel.trans{st ao tZ:SortSt}{lo hi:Nat}(x:Rel st ao lo hi)(y:Rel ao tZ lo hi):Rel st tZ lo hi:=by
 refine aj ?_ x;clear x;intro xs;refine aY ?_;rintro rfl p k;refine aj ?_ y;clear y;intro ys;refine aY ?_;rintro rfl q l;exact⟨ys,rfl,q.trans p,fun i hi=>(l i hi).trans (k i hi)⟩
theorem Rel.kind{st ao:SortSt}{lo hi:Nat}(x:Rel st ao lo hi):kindOf ao=kindOf st:=by refine aj ?_ x;clear x;intro xs;refine ar ?_;rintro rfl _;rfl
theorem Rel.size{st ao:SortSt}{lo hi:Nat}(x:Rel st ao lo hi):(arrOf ao).size=(arrOf st).size:=by refine aj ?_ x;clear x;intro xs;refine aY ?_;rintro rfl p _;exact p.size_eq
noncomputable def oG(st:SortSt):Prop:=∀p∈(arrOf st).toList,O.mem p
theorem Rel.all{st ao:SortSt}{lo hi:Nat}(x:Rel st ao lo hi)(h:oG O st):oG O ao:=by
 refine aj ?_ x;clear x;intro xs;refine aY ?_;rintro rfl p _;intro q bb;exact h q ((Array.perm_iff_toList_perm.mp p).mem_iff.mp bb)
noncomputable def ka(R:∀Y:Keyed,∀Y:Keyed,Prop) (xs:Array Keyed) (lo hi:Nat):Prop:=∀i j,∀Y:lo≤i,∀Y:i≤j,∀Y:j<hi,R (aM xs i) (aM xs j)
noncomputable abbrev eK(xs:Array Keyed)(lo hi:Nat):Prop:=ka O.le xs lo hi
noncomputable def wD(p q:Keyed):Prop:=O.le q p
noncomputable abbrev l6(xs:Array Keyed)(lo hi:Nat):Prop:=ka (wD O) xs lo hi
theorem ka.snoc{R:∀Y:Keyed,∀Y:Keyed,Prop} (refl:∀p,R p p) (trans:∀{p q r},∀Y:R p q,∀Y:R q r,R p r) {xs:Array Keyed} {lo hi:Nat} (ai:lo<hi) (h:ka R xs lo hi) (aD:R (aM xs (hi-1)) (aM xs hi)):ka R xs lo (hi+1):=fun i j ae af aH=>by
 rcases Nat.lt_or_ge j hi with q|q
 ·exact h i j ae af q
 ·cases Nat.le_antisymm (Nat.le_of_lt_succ aH) q
  rcases Nat.eq_or_lt_of_le af with e|e
  ·rw[e];exact refl _
  ·exact trans (h i (hi-1) ae (Nat.le_sub_one_of_lt e) (Nat.sub_one_lt (Nat.ne_of_gt (Nat.zero_lt_of_lt ai)))) aD
theorem ka.one{R:∀Y:Keyed,∀Y:Keyed,Prop} (refl:∀p,R p p) {xs:Array Keyed} {lo:Nat}:ka R xs lo (lo+1):=fun i j ae af aH=>by
 cases Nat.le_antisymm (Nat.le_of_lt_succ aH) (Nat.le_trans ae af)
 cases Nat.le_antisymm af ae
 exact refl _
theorem eK.put{xs:Array Keyed}{lo x:Nat}(ai:1≤x)(h:eK O xs lo (lo+x))(aD:O.le (aM xs (lo+x-1)) (aM xs (lo+x))):eK O xs lo (lo+(x+1)):=h.snoc O.le_refl O.le_trans (Nat.lt_add_of_pos_right ai) aD
theorem l6.put{xs:Array Keyed}{lo x:Nat}(ai:1≤x)(h:l6 O xs lo (lo+x))(aD:O.le (aM xs (lo+x)) (aM xs (lo+x-1))):l6 O xs lo (lo+(x+1)):=ka.snoc (R:=wD O) O.le_refl (fun{_ _ _} a b=>O.le_trans b a) (Nat.lt_add_of_pos_right ai) h aD
noncomputable def eqv(p q:Keyed):Prop:=O.le p q∧O.le q p
theorem eqv.refl(p:Keyed):eqv O p p:=⟨O.le_refl _,O.le_refl _⟩
variable{O}
theorem eqv.symm{p q:Keyed}(h:eqv O p q):eqv O q p:=⟨h.2,h.1⟩
theorem eqv.trans{p q r:Keyed}(h:eqv O p q)(g:eqv O q r):eqv O p r:=⟨O.le_trans h.1 g.1,O.le_trans g.2 h.2⟩
variable(O)
theorem ug(xs:Array Keyed)(k:Nat):aM xs k=(xs[k]?).getD CI:=by
 unfold aM;rw[Array.getD_eq_getD_getElem?]
theorem uh{xs:Array Keyed}{i j:Nat}(aO:j≤xs.size)(k:Nat):aM (mirror xs i j ((j-i) / 2)) k=if i≤k∧k<j then aM xs (i+j-1-k)else aM xs k:=by
 rw[ug,getElem?_mirror_all aO]
 split<;>rw[ug]
theorem Iw{xs:Array Keyed}{src d:Nat}(hs:src<xs.size)(hd:d≤src)(k:Nat):aM (bubble xs src d) k=if k=src-d then aM xs src else if src-d<k∧k≤src then aM xs (k-1)else aM xs k:=by
 rw[ug,getElem?_bubble hs d hd]
 split
 ·rw[ug]
 ·split<;>rw[ug]
variable{O}in
theorem zF{xs:Array Keyed}{i j:Nat}(aO:j≤xs.size)(h:∀k,∀Y:i≤k,∀Y:k<j,eqv O (aM xs k) (aM xs (j-1))) (k:Nat):eqv O (aM (mirror xs i j ((j-i) / 2)) k) (aM xs k):=by
 rw[uh aO]
 split
 ·exact(h _ (by lia) (by lia)).trans (h k (by lia) (by lia)).symm
 ·exact eqv.refl O _
theorem zG{st:SortSt}{i j:Nat}{Q:∀Y:Option Bool,∀Y:SortSt,Prop} (aK:kindOf st=O.kd) (hm:oG O st) (hi:i<(arrOf st).size) (aO:j<(arrOf st).size) (h:Q (some (O.lt' (aM (arrOf st) i) (aM (arrOf st) j))) st):b4 prog w A s (ltAt' i j) Q st:=by
 rw[ltAt'_eq];exact bY (ou (bY (h9 hi (bY (h9 aO (wx O aK (mem_getD hm hi) (mem_getD hm aO) h))))))
theorem C2{st:SortSt}{i j lo hi:Nat}{Q:∀Y:Unit,∀Y:SortSt,Prop} (ae:lo≤i) (af:j≤hi) (aO:j≤(arrOf st).size) (h:∀ao,∀Y:Rel st ao lo hi,∀Y:arrOf ao=mirror (arrOf st) i j ((j-i) / 2),Q () ao):b4 prog w A s (reverseSlice' i j) Q st:=by
 rw[reverseSlice'_eq];refine pM (h _ ⟨_,rfl,mirror_perm _ _ _ _,fun k aK=>?_⟩ rfl);rw[uh aO,if_neg (by exact fun ay=>aK.elim (fun aE=>aA (.a .p .q (.a .q .r (.b .r .p .f))) rfl ae ay.1 aE) (fun bI=>aA (.a .p .q (.b .r .p (.a .q .r .f))) rfl af ay.2 bI))]
noncomputable def C3(lo n dm:Nat):StateT SortSt Sem (Option Nat):=do
 reverseSlice' lo (lo+n)
 let mut n:=n
 for _ in [n:dm] do
  let some wF ←ltAt' (lo+n) (lo+n-1)|return none
  if wF then break
  n:=n+1
 return some n
noncomputable def C4(lo n dm:Nat):StateT SortSt Sem (Option Nat):=do
 rule "list.sort.descending-run"
 let mut n:=n+1
 let mut f7:=0
 for _ in [n:dm] do
  let some wF ←ltAt' (lo+n) (lo+n-1)|return none
  if wF then
   if f7>0 then reverseSlice' (lo+n-(f7+1)) (lo+n)
   f7:=0
  else
   let some P5 ←ltAt' (lo+n-1) (lo+n)|return none
   if P5 then break
   f7:=f7+1
  n:=n+1
 if f7>0 then reverseSlice' (lo+n-(f7+1)) (lo+n)
 C3 lo n dm
noncomputable def countRun':∀Y:Nat,∀Y:Nat,StateT SortSt Sem (Option Nat):=sortPriv% PySem.Builtin.countRun
theorem countRun'_eq(lo dm:Nat):countRun' lo dm=(do
 let mut n:=1
 for _ in [1:dm] do
  let some wF ←ltAt' (lo+n) (lo+n-1)|return none
  if wF then break
  n:=n+1
 if n==dm then return some n
 if n>1 then
  let some P6 ←ltAt' lo (lo+n-1)|return none
  if P6 then return some n
  reverseSlice' lo (lo+n)
 C4 lo n dm):=rfl
theorem Iz{st:SortSt}{n m:Nat}{f:∀Y:Nat,∀Y:Option (Option Nat)×Nat,StateT SortSt Sem (ForInStep (Option (Option Nat)×Nat))} (F:∀Y:Nat,Prop) {G:∀Y:Nat,Prop} (l7:n≤m)
 (qL:∀x,∀Y:n≤x,∀Y:x<m,∀Y:F x,jh prog w A s st (f x (none,x)) fun r=>t9 (fun c Y=>∃k,c=(none,k)∧G k) (fun c Y=>c=(none,x+1)∧F (x+1)) r st) (nu:∀Y:F m,G m) (h:F n):
 jh prog w A s st (forIn [n:m] ((none,n):Option (Option Nat)×Nat) f) fun c=>∃k,c=(none,k)∧G k:=by
 refine l3 (I:=fun x c ao=>ao=st∧c=(none,x)∧F x) (fun x c ao ae af bE=>?_) (fun c ao bE=>?_) ⟨rfl,rfl,h⟩
 ·refine aY ?_ bE;clear bE;rintro rfl rfl bD;refine gp (qL x ae af bD) fun r ao aC=>?_;refine ar ?_ aC;clear aC;rintro rfl aC;cases r with
  |done c=>exact⟨rfl,aC⟩
  |yield c=>exact⟨rfl,aC⟩
 ·rw[Nat.max_eq_right l7]at bE;exact⟨bE.1,m,bE.2.1,nu bE.2.2⟩
theorem C5{st:SortSt}{i j:Nat}{Q:∀Y:Option Bool,Prop} (aK:kindOf st=O.kd) (hm:oG O st) (hi:i<(arrOf st).size) (aO:j<(arrOf st).size) (h:Q (some (O.lt' (aM (arrOf st) i) (aM (arrOf st) j)))):jh prog w A s st (ltAt' i j) Q:=zG O aK hm hi aO ⟨rfl,h⟩
theorem IA{xs:Array Keyed}{i j lo hi:Nat}{R:∀Y:Keyed,∀Y:Keyed,Prop} (fe:∀{p q fb nt},∀Y:eqv O fb p,∀Y:eqv O nt q,∀Y:R p q,R fb nt) {ys:Array Keyed} (e:ys=mirror xs i j ((j-i) / 2)) (aO:j≤xs.size) (h:∀k,∀Y:i≤k,∀Y:k<j,eqv O (aM xs k) (aM xs (j-1))) (az:ka R xs lo hi):ka R ys lo hi:=by
 subst e;exact fun a b ae af aH=>fe (zF aO h a) (zF aO h b) (az a b ae af aH)
theorem IB{p q fb nt:Keyed}(ae:eqv O fb p)(af:eqv O nt q)(h:wD O p q):wD O fb nt:=O.le_trans af.1 (O.le_trans h ae.2)
theorem IC{r7 st:SortSt}{lo n dm:Nat}{Q:∀Y:Option Nat,∀Y:SortSt,Prop} (aK:kindOf st=O.kd) (hm:oG O st) (fe:Rel r7 st lo (lo+dm)) (aT:lo+dm≤(arrOf st).size) (ae:1≤n) (az:n≤dm) (hs:l6 O (arrOf st) lo (lo+n))
 (h:∀m ao,∀Y:Rel r7 ao lo (lo+dm),∀Y:1≤m,∀Y:m≤dm,∀Y:eK O (arrOf ao) lo (lo+m),Q (some m) ao):b4 prog w A s (C3 lo n dm) Q st:=by
 unfold C3;have l8:lo+n≤(arrOf st).size:=Nat.le_trans (Nat.add_le_add_left az lo) aT;refine bY (C2 (lo:=lo) (hi:=lo+dm) (Nat.le_refl _) (Nat.add_le_add_left az lo) l8 fun gM j1 aR=>?_)
 have P7:eK O (arrOf gM) lo (lo+n):=fun i j ae af aH=>by
  rw[aR,uh l8,uh l8,if_pos ⟨ae,Nat.lt_of_le_of_lt af aH⟩,if_pos ⟨Nat.le_trans ae af,aH⟩];exact hs _ _ (by exact cJ (.b .r (.a .p .s) (.a (.a .p (.a .p .s)) (.b .t) (.a .t (.a .q .r) (.l .p .q)))) rfl aH (cj (_+(_+_)) (1:Nat)) (cj ((_+(_+_))-(1:Nat)) _)) (by exact(Nat.le_total (1:Nat) (_+(_+_))).elim (fun ay=>(Nat.le_total _ ((_+(_+_))-(1:Nat))).elim (fun aE=>cJ (.a .r .s (.c (.a .p .s) .t (.a .t (.a .q .r) (.l .p .q)))) rfl af (Nat.sub_add_cancel aE) (cj ((_+(_+_))-(1:Nat)) _)) (fun bI=>aq (.c .p .z (.l .p .q)) rfl (Nat.sub_eq_zero_of_le bI))) (fun cM=>aA (.c .r .z (.a .p .r (.l .p .q))) rfl (Nat.sub_eq_zero_of_le cM) (Nat.sub_le ((_+(_+_))-(1:Nat)) _))) (by exact(Nat.le_total (1:Nat) (_+(_+_))).elim (fun ay=>(Nat.le_total _ ((_+(_+_))-(1:Nat))).elim (fun aE=>cJ (.a .q .s (.c (.b .t) (.a .q (.a .q .r)) (.c (.a .p .s) .t (.t .p (.a .q .r))))) rfl ae (Nat.sub_add_cancel (aq (.a .o .q (.l .o (.a .p (.a .p .q)))) rfl (by assumption))) (Nat.sub_add_cancel aE)) (fun bI=>aA (.a .o (.a .q (.a .q .r)) (.i 2 (.e .p .z) (.G 1 (.t .p (.a .q .r))))) rfl ay (Nat.sub_eq_zero_of_le bI))) (fun cM=>bA (.i 2 (.e (.b .s) (.a .q (.a .q .r))) (.a (.a .q (.a .q .r)) .o (.i 2 (.l .p .s) (.G 1 (.t .p (.a .q .r)))))) rfl (Nat.sub_add_cancel (aq (.a .o .q (.l .o (.a .p (.a .p .q)))) rfl (by assumption))) cM (Nat.sub_le ((_+(_+_))-(1:Nat)) _)))
 have cT:=j1.kind.trans aK;have f3:=j1.all O hm;have kc:=j1.size;refine Ic (nv (zp (Iz (G:=fun m=>1≤m∧m≤dm∧eK O (arrOf gM) lo (lo+m)) (fun x=>eK O (arrOf gM) lo (lo+x)) az (fun x af aH bX=>?_) (fun bX=>⟨Nat.le_trans ae az,Nat.le_refl _,bX⟩) P7) fun c aG=>?_))
 ·refine nv (C5 O cT f3 (by rw[kc];exact bA (.a (.a .p .s) .r (.b .q .s (.t (.a .p .q) .r))) rfl aT aH) (by rw[kc];exact cJ (.a (.a .r .s) .q (.b .t .s (.a .p (.a .r .t) (.t .p .q)))) rfl aT aH (Nat.sub_le (_+_) (1:Nat))) ?_);dsimp only;cases av:O.lt' (aM (arrOf gM) (lo+x)) (aM (arrOf gM) (lo+x-1))with
  |true=>exact jx ⟨x,rfl,Nat.le_trans ae af,Nat.le_of_lt aH,bX⟩
  |false=>exact jx ⟨rfl,eK.put O (Nat.le_trans ae af) bX (O.pN av)⟩
 ·refine aj ?_ aG;clear aG;intro m;refine cH ?_;rintro rfl a1 a2 cW;exact jx (h m _ (fe.trans j1) a1 a2 cW)
structure pS(st ao:SortSt)(lo dm n f7:Nat):Prop where
 rel:Rel st ao lo (lo+dm)
 zH:l6 O (arrOf ao) lo (lo+n)
 le:f7+1≤n
 eq:∀k,∀Y:lo+n-(f7+1)≤k,∀Y:k<lo+n,eqv O (aM (arrOf ao) k) (aM (arrOf ao) (lo+n-1))
theorem pS.none{st ao:SortSt}{lo dm n:Nat}(r:Rel st ao lo (lo+dm))(az:1≤n)(h:l6 O (arrOf ao) lo (lo+n)):pS O st ao lo dm n 0:=
 ⟨r,h,az,fun k ae af=>by rw[Nat.le_antisymm (Nat.le_sub_one_of_lt af) ae];exact eqv.refl O _⟩
theorem pS.turn{st ao:SortSt}{lo dm n f7:Nat}{Q:∀Y:Unit,∀Y:SortSt,Prop} (D:pS O st ao lo dm n f7) (az:n≤dm) (aT:lo+dm≤(arrOf ao).size)
 (h:∀iW,∀Y:Rel st iW lo (lo+dm),∀Y:l6 O (arrOf iW) lo (lo+n),∀Y:(∀k,∀Y:n≤k,aM (arrOf iW) (lo+k)=aM (arrOf ao) (lo+k)),∀Y:eqv O (aM (arrOf iW) (lo+n-1)) (aM (arrOf ao) (lo+n-1)),Q () iW):b4 prog w A s (reverseSlice' (lo+n-(f7+1)) (lo+n)) Q ao:=by
 have l8:lo+n≤(arrOf ao).size:=Nat.le_trans (Nat.add_le_add_left az lo) aT;have hle:=D.le;refine C2 (lo:=lo) (hi:=lo+dm) (by exact bA (.a (.b .r) .s (.a (.a .p .s) (.a .q (.b .r)) (.l .p .q))) rfl hle (cj (_+_) (_+(1:Nat)))) (Nat.add_le_add_left az lo) l8 fun iW e7 aW=>h iW (D.rel.trans e7) (IA O (IB O) aW l8 D.eq D.zH) (fun k aK=>?_) ?_
 ·rw[aW,uh l8,if_neg (by exact fun ay=>aA (.a .p .q (.b (.a .r .q) (.a .r .p) .f)) rfl aK ay.2)]
 ·rw[aW];exact zF l8 D.eq _
theorem ID{r7 st:SortSt}{lo n dm:Nat}{Q:∀Y:Option Nat,∀Y:SortSt,Prop} (aK:kindOf st=O.kd) (hm:oG O st) (fe:Rel r7 st lo (lo+dm)) (aT:lo+dm≤(arrOf st).size) (az:n+1≤dm) (hs:l6 O (arrOf st) lo (lo+(n+1)))
 (h:∀m ao,∀Y:Rel r7 ao lo (lo+dm),∀Y:1≤m,∀Y:m≤dm,∀Y:eK O (arrOf ao) lo (lo+m),Q (some m) ao):b4 prog w A s (C4 lo n dm) Q st:=by
 unfold C4;refine bY (t8 ?_);dsimp only;refine bY (gp (l3 (I:=fun x c ao=>∃f7,c=(none,x,f7)∧pS O st ao lo dm x f7) (Q:=fun c ao=>∃n f7,c=(none,n,f7)∧n≤dm∧pS O st ao lo dm n f7) ?_ ?_ ⟨0,rfl,pS.none O (.refl _ _ _) (Nat.le_add_left ..) hs⟩) ?_)
 ·intro x c ao af aH;refine aj ?_;intro f7;refine ar ?_;rintro rfl D;have gy:=D.rel.kind.trans aK;have n7:=D.rel.all O hm;have iS:=D.rel.size;have ai:1≤x:=Nat.le_trans (Nat.le_add_left ..) D.le;refine bY (zG O gy n7 (by rw[iS];exact bA (.a (.a .p .s) .r (.b .q .s (.t (.a .p .q) .r))) rfl aT aH) (by rw[iS];exact cJ (.a (.a .r .s) .q (.b .t .s (.a .p (.a .r .t) (.t .p .q)))) rfl aT aH (Nat.sub_le (_+_) (1:Nat))) ?_);dsimp only;cases av:O.lt' (aM (arrOf ao) (lo+x)) (aM (arrOf ao) (lo+x-1))with
  |true=>
   rw[if_pos rfl];by_cases bb:f7>0
   ·rw[if_pos bb];refine bY (D.turn O (Nat.le_of_lt aH) (by rw[iS];exact aT) fun iW e7 gJ eU aW=>cR ⟨0,rfl,pS.none O e7 (Nat.le_add_left ..) (l6.put O ai gJ ?_)⟩);rw[eU x (Nat.le_refl _)];exact O.le_trans (O.le_of_lt av) aW.2
   ·rw[if_neg bb];exact cR ⟨0,rfl,pS.none O D.rel (Nat.le_add_left ..) (l6.put O ai D.zH (O.le_of_lt av))⟩
  |false=>
   rw[if_neg Bool.false_ne_true];refine bY (zG O gy n7 (by rw[iS];exact cJ (.a (.a .r .s) .q (.b .t .s (.a .p (.a .r .t) (.t .p .q)))) rfl aT aH (Nat.sub_le (_+_) (1:Nat))) (by rw[iS];exact bA (.a (.a .p .s) .r (.b .q .s (.t (.a .p .q) .r))) rfl aT aH) ?_);dsimp only;cases aG:O.lt' (aM (arrOf ao) (lo+x-1)) (aM (arrOf ao) (lo+x))with
   |true=>exact cR ⟨x,f7,rfl,Nat.le_of_lt aH,D⟩
   |false=>
    have he:eqv O (aM (arrOf ao) (lo+x-1)) (aM (arrOf ao) (lo+x)):=⟨O.pN av,O.pN aG⟩;refine cR ⟨f7+1,rfl,D.rel,l6.put O ai D.zH he.2,Nat.succ_le_succ D.le,fun k kE qG=>?_⟩;show eqv O _ (aM (arrOf ao) (lo+x));rcases Nat.lt_or_ge k (lo+x)with q|q
    ·exact(D.eq k (by exact(Nat.le_total ((_+(1:Nat))+(1:Nat)) (_+(_+(1:Nat)))).elim (fun ay=>cu (.a .r .q (.i (-1) (.e (.a .r (.b (.b .s))) (.a .t (.b (.v 5)))) (.c (.a .p (.b .s)) (.a .t (.v 5)) (.l .p .q)))) rfl [((_+_)-(_+(1:Nat))),_,((_+(_+(1:Nat)))-((_+(1:Nat))+(1:Nat))),_,_,_] [] kE (Nat.sub_add_cancel ay) (Nat.sub_add_cancel (aA (.a (.b (.b .p)) (.a .q (.b .r)) (.l (.b .p) (.a .q .r))) rfl ay))) (fun aE=>(Nat.le_total (_+(1:Nat)) (_+_)).elim (fun bI=>cJ (.a (.a .r (.b .s)) (.b (.b .t)) (.c (.a .p (.b .t)) (.a .r .s) (.l .p .q))) rfl aE (Nat.sub_add_cancel bI)) (fun cM=>aq (.c .p .z (.l .p .q)) rfl (Nat.sub_eq_zero_of_le cM)))) q).trans he
    ·rw[Nat.le_antisymm (Nat.le_of_lt_succ qG) q];exact eqv.refl O _
 ·intro c ao;refine aj ?_;intro f7;refine ar ?_;rintro rfl D;rw[Nat.max_eq_right az]at D ⊢;exact⟨dm,f7,rfl,Nat.le_refl _,D⟩
 ·intro c ao;refine bZ ?_;intro m f7;refine aY ?_;rintro rfl aH D;dsimp only;have iS:=D.rel.size;have ly:1≤m:=Nat.le_trans (Nat.le_add_left ..) D.le;by_cases bb:f7>0
  ·rw[if_pos bb];refine bY (D.turn O aH (by rw[iS];exact aT) fun iW e7 gJ Y Y=>?_);exact IC O (e7.kind.trans aK) (e7.all O hm) (fe.trans e7) (by rw[e7.size];exact aT) ly aH gJ h
  ·rw[if_neg bb];exact IC O (D.rel.kind.trans aK) (D.rel.all O hm) (fe.trans D.rel) (by rw[iS];exact aT) ly aH D.zH h
theorem P8{st:SortSt}{lo dm:Nat}{Q:∀Y:Option Nat,∀Y:SortSt,Prop} (aK:kindOf st=O.kd) (hm:oG O st) (aT:lo+dm≤(arrOf st).size) (ae:1≤dm)
 (h:∀m ao,∀Y:Rel st ao lo (lo+dm),∀Y:1≤m,∀Y:m≤dm,∀Y:eK O (arrOf ao) lo (lo+m),Q (some m) ao):b4 prog w A s (countRun' lo dm) Q st:=by
 rw[countRun'_eq];dsimp only;refine bY (gp (Iz (G:=fun m=>1≤m∧m≤dm∧eK O (arrOf st) lo (lo+m)∧(m=dm∨O.lt' (aM (arrOf st) (lo+m)) (aM (arrOf st) (lo+m-1))=true)) (fun x=>eK O (arrOf st) lo (lo+x)) ae (fun x af aH bX=>?_) (fun bX=>⟨ae,Nat.le_refl _,bX,.inl rfl⟩) (ka.one O.le_refl)) ?_)
 ·refine nv (C5 O aK hm (by exact bA (.a (.a .p .s) .r (.b .q .s (.t (.a .p .q) .r))) rfl aT aH) (by exact cJ (.a (.a .r .s) .q (.b .t .s (.a .p (.a .r .t) (.t .p .q)))) rfl aT aH (Nat.sub_le (_+_) (1:Nat))) ?_);dsimp only;cases av:O.lt' (aM (arrOf st) (lo+x)) (aM (arrOf st) (lo+x-1))with
  |true=>exact jx ⟨x,rfl,af,Nat.le_of_lt aH,bX,.inr av⟩
  |false=>exact jx ⟨rfl,eK.put O af bX (O.pN av)⟩
 ·rintro c ao ⟨rfl,m,rfl,et,fq,kE,qG⟩;dsimp only;by_cases az:m=dm
  ·rw[if_pos (beq_iff_eq.mpr az)];exact cR (h m _ (.refl _ _ _) et fq kE)
  ·rw[if_neg (fun q=>az (beq_iff_eq.mp q))];have bC:=O.le_of_lt (qG.resolve_left az);have IE:m+1≤dm:=Nat.lt_of_le_of_ne fq az;by_cases b7:m>1
   ·rw[if_pos b7];refine bY (zG O aK hm (by exact aA (.a .o .r (.a (.a .p .r) .q (.t .p .q))) rfl ae aT) (by exact(Nat.lt_or_gt_of_ne az).elim (fun ay=>cJ (.a (.a .r .s) .q (.b .t .s (.a .p (.a .r .t) (.t .p .q)))) rfl aT ay (Nat.sub_le (_+_) (1:Nat))) (fun aE=>cJ (.a (.a .r .s) .q (.i 2 (.l .t .s) (.b .s .t (.a .p (.a .r .t) (.t .p .q))))) rfl aT fq aE (Nat.sub_le (_+_) (1:Nat)))) ?_);dsimp only;cases aC:O.lt' (aM (arrOf ao) lo) (aM (arrOf ao) (lo+m-1))with
    |true=>exact cR (h m _ (.refl _ _ _) et fq kE)
    |false=>
     rw[if_neg Bool.false_ne_true];have l8:lo+m≤(arrOf ao).size:=Nat.le_trans (Nat.add_le_add_left fq lo) aT
     have pT:∀k,∀Y:lo≤k,∀Y:k<lo+m,eqv O (aM (arrOf ao) k) (aM (arrOf ao) (lo+m-1)):=fun k jg wG=>
      ⟨kE k _ jg (Nat.le_sub_one_of_lt wG) (by exact aA (.c (.b .p) (.a .q .r) (.t .p (.a .q .r))) rfl (Nat.sub_add_cancel (aq (.a .o .q (.l .o (.a .p .q))) rfl et))),O.le_trans (O.pN aC) (kE lo k (Nat.le_refl _) jg wG)⟩
     refine bY (C2 (lo:=lo) (hi:=lo+dm) (Nat.le_refl _) (Nat.add_le_add_left fq lo) l8 fun iW e7 aW=>?_);refine ID O (e7.kind.trans aK) (e7.all O hm) e7 (by rw[e7.size];exact aT) IE ?_ h;refine l6.put O et (IA O (IB O) aW l8 pT fun i j jg wG um=>((pT j (Nat.le_trans jg wG) um).trans (pT i jg (Nat.lt_of_le_of_lt wG um)).symm).1) ?_;rw[aW];refine O.le_trans ?_ (zF l8 pT (lo+m-1)).2;rw[uh l8,if_neg (fun q=>Nat.lt_irrefl _ q.2)];exact bC
   ·rw[if_neg b7];cases Nat.le_antisymm (Nat.le_of_not_lt b7) et
    exact ID O aK hm (.refl _ _ _) aT IE (l6.put O (Nat.le_refl _) (ka.one (R:=wD O) O.le_refl) bC) h
noncomputable def binarySort':∀Y:Nat,∀Y:Nat,∀Y:Nat,StateT SortSt Sem Bool:=sortPriv% PySem.Builtin.binarySort
theorem binarySort'_eq(lo n ok:Nat):binarySort' lo n ok=(do
 for k in [max ok 1:n] do
  let mut l:=0
  let mut r:=k
  for _ in [0:k] do
   if l≥r then break
   let m:=(l+r) / 2
   let some less ←ltAt' (lo+k) (lo+m)|return false
   if less then r:=m else l:=m+1
  moveDown' (lo+k) (lo+l)
 return true):=rfl
theorem ka.sub{R:∀Y:Keyed,∀Y:Keyed,Prop} {xs:Array Keyed} {lo hi fV:Nat} (h:ka R xs lo hi) (bR:fV≤hi):ka R xs lo fV:=fun i j ae af aH=>h i j ae af (Nat.lt_of_lt_of_le aH bR)
theorem P9{xs:Array Keyed}{src p lo:Nat}(hs:src<xs.size)(aP:p≤src)(h:eK O xs lo src)(ae:∀i,∀Y:lo≤i,∀Y:i<p,O.le (aM xs i) (aM xs src)) (af:∀i,∀Y:p≤i,∀Y:i<src,O.le (aM xs src) (aM xs i)) (Qa:lo≤p):eK O (bubble xs src (src-p)) lo (src+1):=by
 have e:∀k,aM (bubble xs src (src-p)) k=if k=p then aM xs src else if p<k∧k≤src then aM xs (k-1)else aM xs k:=fun k=>by
  rw[Iw hs (Nat.sub_le _ _),Nat.sub_sub_self aP]
 generalize bubble xs src (src-p)=B at e ⊢;have a1:∀t,∀Y:t<p,aM B t=aM xs t:=fun t bf=>by rw[e,if_neg (Nat.ne_of_lt bf),if_neg (fun q=>Nat.lt_asymm bf q.1)]
 have a2:aM B p=aM xs src:=by rw[e,if_pos rfl]
 have cW:∀t,∀Y:p<t,∀Y:t≤src,aM B t=aM xs (t-1):=fun t g1 g2=>by rw[e,if_neg (Nat.ne_of_gt g1),if_pos ⟨g1,g2⟩]
 clear e
 have key:∀t,∀Y:p<t,∀Y:t≤src,O.le (aM xs src) (aM B t):=fun t g1 g2=>by
  rw[cW t g1 g2];exact af _ (Nat.le_sub_one_of_lt g1) (by exact aA (.a .r .q (.c (.b .p) .r (.t .p .q))) rfl g2 (Nat.sub_add_cancel (aq (.b .q .p (.l .o .p)) rfl g1)))
 intro i j g1 g2 g3;have lM:=Nat.le_of_lt_succ g3;rcases Nat.lt_trichotomy i p with q|q|q
 ·rw[a1 i q];rcases Nat.lt_trichotomy j p with r|r|r
  ·rw[a1 j r];exact h i j g1 g2 (Nat.lt_of_lt_of_le r aP)
  ·rw[r,a2];exact ae i g1 q
  ·exact O.le_trans (ae i g1 q) (key j r lM)
 ·subst q;rw[a2];rcases Nat.eq_or_lt_of_le g2 with r|r
  ·rw[←r,a2];exact O.le_refl _
  ·exact key j r lM
 ·have r:=Nat.lt_of_lt_of_le q g2;rw[cW i q (Nat.le_trans g2 lM),cW j r lM];exact h _ _ (Nat.le_trans Qa (Nat.le_sub_one_of_lt q)) (Nat.sub_le_sub_right g2 1) (by exact aA (.b .r (.b .q) (.c (.b .p) .r (.t .p .q))) rfl g3 (Nat.sub_add_cancel (aA (.a .q .p (.b .r .q (.l .o .p))) rfl g2 q)))
theorem Qc{st:SortSt}{lo n ok:Nat}{Q:∀Y:Bool,∀Y:SortSt,Prop} (aK:kindOf st=O.kd) (hm:oG O st) (aT:lo+n≤(arrOf st).size) (hs:eK O (arrOf st) lo (lo+ok))
 (h:∀ao,∀Y:Rel st ao lo (lo+n),∀Y:eK O (arrOf ao) lo (lo+n),Q true ao):b4 prog w A s (binarySort' lo n ok) Q st:=by
 rw[binarySort'_eq];refine bY (gp (l3 (I:=fun k c ao=>c=(none,())∧Rel st ao lo (lo+n)∧eK O (arrOf ao) lo (lo+k)) (Q:=fun c ao=>c=(none,())∧Rel st ao lo (lo+n)∧eK O (arrOf ao) lo (lo+n)) ?_ (fun c ao x=>⟨x.1,x.2.1,x.2.2.sub (Nat.add_le_add_left (Nat.le_max_right ..) lo)⟩) ⟨rfl,.refl _ _ _,?_⟩) ?_)
 ·intro k c ao Qd mL;refine aY ?_;rintro rfl r eg;have iS:=r.size;have gy:=r.kind.trans aK;have n7:=r.all O hm;have ji:lo+k<(arrOf ao).size:=by rw[iS];exact Nat.lt_of_lt_of_le (Nat.add_lt_add_left mL lo) aT
  clear Qd hm aK hs h iS;dsimp only
  refine bY (gp (zt (G:=fun l Y=>l≤k∧(∀i,∀Y:lo≤i,∀Y:i<lo+l,O.le (aM (arrOf ao) i) (aM (arrOf ao) (lo+k)))∧(∀i,∀Y:lo+l≤i,∀Y:i<lo+k,O.le (aM (arrOf ao) (lo+k)) (aM (arrOf ao) i)))
   (fun x l r=>l≤r∧r≤k∧r+x≤l+k∧(∀i,∀Y:lo≤i,∀Y:i<lo+l,O.le (aM (arrOf ao) i) (aM (arrOf ao) (lo+k)))∧(∀i,∀Y:lo+r≤i,∀Y:i<lo+k,O.le (aM (arrOf ao) (lo+k)) (aM (arrOf ao) i))) ?_ ?_
   ⟨Nat.zero_le _,Nat.le_refl _,Nat.le_add_left ..,fun i a b=>absurd a (Nat.not_le_of_lt b),fun i a b=>absurd a (Nat.not_le_of_lt b)⟩) fun c iW aG=>?_)
  ·rintro x l c5 Xx ⟨jM,gz,kG,l9,mf⟩;refine zq (fun d5=>?_) fun bC=>?_
   ·cases Nat.le_antisymm jM d5
    exact jx ⟨rfl,gz,l9,mf⟩
   ·have f3:l≤(l+c5) / 2:=by exact aA (.n (.l .r .p) (.b (.a .p .r) (.m 2 (.b .q)) (.G 1 (.l .p .q)))) rfl bC (Nat.lt_mul_div_succ (_+_) (by decide))
    have f5:(l+c5) / 2<c5:=by exact aA (.n (.l .q .r) (.a (.m 2 .p) (.a .r .q) (.G 1 (.t .p .q)))) rfl bC (Nat.mul_div_le (_+_) 2)
    have mk:=Nat.lt_of_lt_of_le f5 gz;refine nv (C5 O gy n7 ji (Nat.lt_trans (Nat.add_lt_add_left mk lo) ji) ?_);dsimp only;generalize (l+c5) / 2=m at f3 f5 mk ⊢;cases av:O.lt' (aM (arrOf ao) (lo+k)) (aM (arrOf ao) (lo+m))with
    |true=>exact jx ⟨rfl,f3,Nat.le_of_lt mk,by exact cJ (.a (.a .t .q) (.a .r .s) (.b .p .t (.l (.a .p (.b .q)) (.a .r .s)))) rfl kG f5,l9,fun i ae af=>O.le_trans (O.le_of_lt av) (eg _ _ (Nat.le_add_right ..) ae af)⟩
    |false=>exact jx ⟨rfl,f5,gz,by exact cJ (.a (.a .p .q) (.a .t .s) (.a .t .r (.l (.a .p (.b .q)) (.a (.b .r) .s)))) rfl kG f3,fun i aV ae=>O.le_trans (eg i (lo+m) aV (Nat.le_of_lt_succ ae) (Nat.add_lt_add_left mk lo)) (O.pN av),mf⟩
  ·rintro l c5 ⟨jM,gz,kG,l9,mf⟩;cases Nat.le_antisymm jM (Nat.le_of_add_le_add_right kG)
   exact⟨gz,l9,mf⟩
  ·obtain⟨c,l,c5⟩:=c;obtain⟨rfl,rfl,IF,qI,Qe⟩:=aG;dsimp only;rw[moveDown'_eq];have aP:lo+l≤lo+k:=Nat.add_le_add_left IF lo;refine bY (pM (cR ⟨rfl,r.trans ⟨_,rfl,bubble_perm _ _ _,fun i hi=>?_⟩,P9 O ji aP eg qI Qe (Nat.le_add_right ..)⟩));rw[Iw ji (Nat.sub_le _ _),Nat.sub_sub_self aP,if_neg (by exact fun ay=>hi.elim (fun aE=>aA (.i (-1) (.e .p (.a .q .r)) (.b .p .q .f)) rfl ay aE) (fun bI=>cJ (.b .p .q (.a .r .p (.c .s (.a .t .r) (.a (.a .t .q) .s .f)))) rfl mL IF ay bI)),if_neg (by exact fun ay=>hi.elim (fun aE=>aA (.b (.a .p .q) .r (.b .r .p (.F 1))) rfl ay.1 aE) (fun bI=>bA (.b .p .q (.a .r (.a .s .p) (.a (.a .s .q) .r .f))) rfl mL ay.2 bI))]
 ·rcases Nat.eq_zero_or_pos ok with e|e
  ·rw[e];exact ka.one O.le_refl
  ·rw[Nat.max_eq_left e];exact hs
 ·intro c ao;refine aY ?_;rintro rfl r eg;exact cR (h ao r eg)
end
end Mine
end
section
open PySem PyProof.Rows
namespace Mine
section
variable{prog:Program}{w:World}{A:Around}{s:Shared}(O:Ord prog w A s)
theorem nA{a:Array Keyed}{i:Nat}:aM a i=(a.toList[i]?).getD CI:=by rw[ug,Array.getElem?_toList]
theorem sF{a:Array Keyed}{lo hi i:Nat}(h:lo+i<hi):aM (a.extract lo hi) i=aM a (lo+i):=by
 rw[nA,nA,Array.toList_extract,List.extract_eq_take_drop,List.getElem?_take,if_pos (by exact bA (.b (.a .r .p) .s (.a .s (.a .q .r) (.t .p .q))) rfl h (cj _ _)),List.getElem?_drop]
theorem IG{a:Array Keyed}{lo hi:Nat}(bR:hi≤a.size)(h:eK O a lo hi):cC O (a.extract lo hi).toList:=by
 refine List.pairwise_iff_getElem.mpr fun i j fV aO iG=>?_;have jK:lo+j<hi:=by simp at aO;exact(Nat.le_total _ _).elim (fun ay=>cJ (.b .q .s (.c (.a .t .p) .r (.a .s .t (.t (.a .p .q) .r)))) rfl aO (Nat.sub_add_cancel ay) (Nat.min_le_left (_-_) (_-_))) (fun aE=>(aA (.b .p .q (.c .r .z (.a .q .r .f))) rfl aO (Nat.sub_eq_zero_of_le aE) (Nat.min_le_left (_-_) (_-_)):False).elim)
 have aR:(a.extract lo hi).toList[i]=aM (a.extract lo hi) i:=by rw[nA,List.getElem?_eq_getElem fV];rfl
 have aW:(a.extract lo hi).toList[j]=aM (a.extract lo hi) j:=by rw[nA,List.getElem?_eq_getElem aO];rfl
 rw[aR,aW,sF jK,sF (by exact bA (.b .q .s (.b (.a .p .s) .r (.t (.a .p .q) .r))) rfl iG jK)];exact h _ _ (by exact aq (.l .p (.a .p .q)) rfl) (by exact aA (.b .q .r (.l (.a .p .q) (.a .p .r))) rfl iG) jK
theorem Qf(l:List Keyed):∀(k lo:Nat)(a:Array Keyed),∀Y:lo+k+l.length≤a.size,
 ((l.zipIdx k).foldl (fun a(x:Keyed×Nat)=>a.setIfInBounds (lo+x.2) x.1) a).toList=a.toList.take (lo+k)++l++a.toList.drop (lo+k+l.length):=by
 induction l with
 |nil=>intro k lo a _;simp
 |cons p l ih=>
  intro k lo a h;rw[List.zipIdx_cons,List.foldl_cons,ih (k+1) lo _ (by simp at h ⊢;exact bA (.a (.a (.a .p .q) (.b .r)) .s (.l (.a (.a .p (.b .q)) .r) .s)) rfl h)];simp only[List.length_cons]at h;have bC:lo+k<a.toList.length:=by simp;exact bA (.a (.a (.a .p .q) (.b .s)) .r (.t (.a .p .q) .r)) rfl h
  rw[Array.toList_setIfInBounds,show lo+(k+1)=lo+k+1 by exact Nat.le_antisymm (aq (.l (.a .p (.b .q)) (.b (.a .p .q))) rfl) (aq (.l (.b (.a .p .q)) (.a .p (.b .q))) rfl)]
  have aR:(a.toList.set (lo+k) p).take (lo+k+1)=a.toList.take (lo+k)++[p]:=by
   rw[List.take_add_one,List.getElem?_set_self bC];rw[List.take_set_of_le (Nat.le_refl _)];rfl
  have aW:(a.toList.set (lo+k) p).drop (lo+k+1+l.length)=a.toList.drop (lo+k+(l.length+1)):=by
   rw[List.drop_set_of_lt (by exact aA (.t (.a .p .q) (.a (.b (.a .p .q)) .r)) rfl)];congr 1;exact Nat.le_antisymm (aA (.l (.a (.b (.a .p .q)) .r) (.a (.a .p .q) (.b .r))) rfl) (aA (.l (.a (.a .p .q) (.b .r)) (.a (.b (.a .p .q)) .r)) rfl)
  rw[aR,aW];simp
noncomputable def mergeAt':∀Y:Nat,StateT SortSt Sem Bool:=sortPriv% PySem.Builtin.mergeAt
theorem Qg(i:Nat):mergeAt' i=(do
 let s ←get
 let (some (bu,na,power),some (de,nb,_)):=((pendingOf s)[i]?,(pendingOf s)[i+1]?)|unsupported "internal:list.sort.pending"
 set (SortSt.mk' (kindOf s) (arrOf s) (((pendingOf s).setIfInBounds i (bu,na+nb,power)).eraseIdxIfInBounds (i+1)) (gallopOf s) (failedOf s))
 let some k ←ow false (←elem' (arrOf s) de) (arrOf s) bu na 0|return false
 let (bu,na):=(bu+k,na-k)
 if na==0 then return true
 let some nb ←ow true (←elem' (arrOf s) (bu+na-1)) (arrOf s) de nb (nb-1)|return false
 if nb==0 then return true
 let x:=(arrOf s).extract bu de
 let y:=(arrOf s).extract de (de+nb)
 let merged ←if na≤nb then CM x y else CW x y
 modify fun s=>setArr s (merged.toList.zipIdx.foldl (fun a(p,j)=>a.setIfInBounds (bu+j) p) (arrOf s))
 return (failedOf (←get)).isNone):=rfl
structure zI(st ao:SortSt)(lo hi:Nat):Prop where
 kind:kindOf ao=kindOf st
 failed:failedOf ao=failedOf st
 perm:(arrOf ao).Perm (arrOf st)
 same:∀k,∀Y:k<lo∨hi≤k,aM (arrOf ao) k=aM (arrOf st) k
theorem Qh{a xs r:Array Keyed}{lo hi:Nat}(ae:lo≤hi)(af:hi≤a.size)(aC:r.toList.length=hi-lo)(qP:xs.toList=a.toList.take lo++r.toList++a.toList.drop hi)(t:Nat):
 aM xs t=if t<lo then aM a t else if t<hi then aM r (t-lo)else aM a t:=by
 have wH:(a.toList.take lo).length=lo:=by rw[List.length_take,Array.length_toList];exact Nat.le_antisymm (aq (.a .p .q (.l .p .q)) rfl (Nat.min_le_left _ _)) ((Nat.le_total _ _).elim (fun ay=>aq (.i (-1) (.e .q .p) (.l .p .q)) rfl (Nat.min_eq_left ay)) (fun aE=>bA (.a .p .r (.a .r .s (.i (-1) (.e .q .s) (.l .p .q)))) rfl ae af (Nat.min_eq_right aE)))
 rw[nA,qP];by_cases ay:t<lo
 ·rw[if_pos ay,List.append_assoc,List.getElem?_append_left (by rw[wH];exact ay),List.getElem?_take,if_pos ay,nA]
 ·rw[if_neg ay];by_cases aE:t<hi
  ·rw[if_pos aE,List.append_assoc,List.getElem?_append_right (by rw[wH];exact Nat.le_of_not_lt ay),wH,List.getElem?_append_left (by rw[aC];exact Bo ay aE),nA]
  ·have e:hi+(t-(lo+(hi-lo)))=t:=by exact MM ae aE
   rw[if_neg aE,List.getElem?_append_right (by rw[List.length_append,wH,aC];exact cJ (.c (.a .s .t) .r (.c (.a .q .p) .s (.l (.a .p .q) .r))) rfl e (Nat.sub_add_cancel (aq (.a .p .q (.l .p .q)) rfl ae))),List.length_append,wH,aC,List.getElem?_drop,nA,e]
theorem Qi{a xs r:Array Keyed}{lo hi:Nat}(ae:lo≤hi)(sG:r.toList.Perm (a.extract lo hi).toList)(qP:xs.toList=a.toList.take lo++r.toList++a.toList.drop hi):xs.Perm a:=by
 refine Array.perm_iff_toList_perm.mpr ?_;rw[qP]
 have e:a.toList=a.toList.take lo++(a.extract lo hi).toList++a.toList.drop hi:=by
  rw[Array.toList_extract,List.extract_eq_take_drop]
  conv=>lhs;rw[←List.take_append_drop lo a.toList,←List.take_append_drop (hi-lo) (a.toList.drop lo),List.drop_drop,Nat.add_sub_cancel' ae,←List.append_assoc]
 exact(List.Perm.append_right _ (List.Perm.append_left _ sG)).trans (List.Perm.of_eq e.symm)
theorem zJ{a:Array Keyed}{lo hi:Nat}{p:Keyed}(aP:p∈(a.extract lo hi).toList):∃t,lo≤t∧t<hi∧p=aM a t:=by
 obtain⟨j,aO,rfl⟩:=List.mem_iff_getElem.mp aP;have jK:lo+j<hi:=by rw[Array.length_toList,Array.size_extract]at aO;exact(Nat.le_total _ _).elim (fun ay=>(Nat.le_total _ (min _ _)).elim (fun aE=>cJ (.b .q .s (.c .t .r (.c (.a .s .p) .t (.t (.a .p .q) .r)))) rfl aO (Nat.min_eq_left ay) (Nat.sub_add_cancel aE)) (fun bI=>(aq (.b .p .q (.c .q .z .f)) rfl aO (Nat.sub_eq_zero_of_le bI):False).elim)) (fun cM=>(Nat.le_total _ (min _ _)).elim (fun h7=>cu (.b .q .s (.a .t .r (.c (.v 5) .t (.c (.a .s .p) (.v 5) (.t (.a .p .q) .r))))) rfl [_,_,_,((min _ _)-_),_,(min _ _)] [] aO cM (Nat.min_eq_right cM) (Nat.sub_add_cancel h7)) (fun fL=>(aq (.b .p .q (.c .q .z .f)) rfl aO (Nat.sub_eq_zero_of_le fL):False).elim))
 exact⟨lo+j,Nat.le_add_right ..,jK,by rw[←sF jK,nA,List.getElem?_eq_getElem aO];rfl⟩
theorem Qj{a xs r:Array Keyed}{lo hi b e:Nat}(aC:r.toList.length=hi-lo)(get:∀t,aM xs t=if t<lo then aM a t else if t<hi then aM r (t-lo)else aM a t)
 (sG:r.toList.Perm (a.extract lo hi).toList) (rs:cC O r.toList) (below:∀x t,∀Y:b≤x,∀Y:x<lo,∀Y:x≤t,∀Y:t<e,O.le (aM a x) (aM a t)) (above:∀t y,∀Y:b≤t,∀Y:t≤y,∀Y:hi≤y,∀Y:y<e,O.le (aM a t) (aM a y)) (av:b≤lo) (he:hi≤e):eK O xs b e:=by
 have IH:∀j,∀Y:j<hi-lo,∃t,lo≤t∧t<hi∧aM r j=aM a t:=fun j aO=>by
  have:aM r j∈r.toList:=by rw[nA,List.getElem?_eq_getElem (by rw[aC];exact aO)];exact List.getElem_mem _
  exact zJ (sG.mem_iff.mp this)
 intro x y ae af aH;rw[get,get];by_cases bW:x<lo
 ·rw[if_pos bW];by_cases pU:y<lo
  ·rw[if_pos pU];exact below x y ae bW af aH
  ·rw[if_neg pU];by_cases kH:y<hi
   ·rw[if_pos kH];refine aj ?_ (IH (y-lo) (by exact Bo pU kH));intro t;refine aY ?_;intro t1 kF e;rw[e];exact below x t ae bW (by exact aA (.b .p .r (.a .r .q (.l .p .q))) rfl bW t1) (by exact aA (.a .r .q (.b .p .r (.t .p .q))) rfl he kF)
   ·rw[if_neg kH];exact below x y ae bW af aH
 ·rw[if_neg bW,if_neg (show¬y<lo by exact aA (.a .r .p (.n (.t .r .q) (.o (.t .p .q)))) rfl af bW)];by_cases kH:y<hi
  ·rw[if_pos kH,if_pos (show x<hi by exact aA (.a .p .r (.b .r .q (.t .p .q))) rfl af kH)];exact rs.at_ O (by exact(Nat.le_total _ _).elim (fun ay=>cJ (.a .r .s (.c (.a .p .t) .r (.a .s (.a .q .t) (.l .p .q)))) rfl af (Nat.sub_add_cancel ay) (cj _ _)) (fun aE=>aq (.c .p .z (.l .p .q)) rfl (Nat.sub_eq_zero_of_le aE))) (by rw[←Array.length_toList,aC];exact cJ (.b .r .s (.a .s (.a .q .t) (.c (.a .p .t) .r (.t .p .q)))) rfl kH (cj _ _) (Nat.sub_add_cancel (aA (.a .r .q (.n (.t .r .p) (.l .p .q))) rfl af bW)))
  ·rw[if_neg kH];by_cases cy:x<hi
   ·rw[if_pos cy];refine aj ?_ (IH (x-lo) (by exact Bo bW cy));intro t;refine aY ?_;intro t1 kF e;rw[e];exact above t y (by exact aA (.a .p .r (.a .r .q (.l .p .q))) rfl av t1) (by exact aA (.n (.t .q .r) (.b .p .r (.l .p .q))) rfl kH kF) (by exact aq (.n (.t .q .p) (.l .p .q)) rfl kH) aH
   ·rw[if_neg cy];exact above x y ae af (by exact aA (.a .r .q (.n (.t .r .p) (.l .p .q))) rfl af cy) aH
theorem Qk{st:SortSt}{i bu na mh de nb zK:Nat}{Q:∀Y:Bool,∀Y:SortSt,Prop} (aK:kindOf st=O.kd) (hm:oG O st) (bq:failedOf st=none) (gq:(pendingOf st)[i]?=some (bu,na,mh)) (p2:(pendingOf st)[i+1]?=some (de,nb,zK))
 (zL:de=bu+na) (nY:1≤na) (qq:1≤nb) (aT:de+nb≤(arrOf st).size) (s1:eK O (arrOf st) bu de) (s2:eK O (arrOf st) de (de+nb))
 (h:∀ao,∀Y:zI st ao bu (de+nb),∀Y:pendingOf ao=((pendingOf st).setIfInBounds i (bu,na+nb,mh)).eraseIdxIfInBounds (i+1),∀Y:eK O (arrOf ao) bu (de+nb),Q true ao):b4 prog w A s (mergeAt' i) Q st:=by
 rw[Qg];refine bY (ou ?_);rw[gq,p2];dsimp only;refine bY (PA ?_);generalize eL:SortSt.mk' (kindOf st) (arrOf st) (((pendingOf st).setIfInBounds i (bu,na+nb,mh)).eraseIdxIfInBounds (i+1)) (gallopOf st) (failedOf st)=gM;have cT:kindOf gM=O.kd:=by rw[←eL];exact aK
 have a1:arrOf gM=arrOf st:=by rw[←eL]
 have f1:failedOf gM=none:=by rw[←eL];exact bq
 have zM:zI st gM bu (de+nb):=⟨by rw[←eL],by rw[←eL],by rw[a1],fun k Y=>by rw[a1]⟩;have ay:pendingOf gM=((pendingOf st).setIfInBounds i (bu,na+nb,mh)).eraseIdxIfInBounds (i+1):=by rw[←eL]
 replace h:∀ao,∀Y:zI st ao bu (de+nb),∀Y:pendingOf ao=pendingOf gM,∀Y:eK O (arrOf ao) bu (de+nb),Q true ao:=fun ao m q=>h ao m (Eq.trans q ay)
 clear gq p2 eL bq aK ay
 have back:∀lo hi,∀Y:bu≤lo,∀Y:lo≤hi,∀Y:hi≤de+nb,∀Y:(∀x t,∀Y:bu≤x,∀Y:x<lo,∀Y:x≤t,∀Y:t<de+nb,O.le (aM (arrOf st) x) (aM (arrOf st) t)),∀Y:(∀t y,∀Y:bu≤t,∀Y:t≤y,∀Y:hi≤y,∀Y:y<de+nb,O.le (aM (arrOf st) t) (aM (arrOf st) y)),
  ∀(r:Array Keyed) iW,∀Y:fu gM iW,∀Y:r.toList.Perm ((arrOf st).extract lo hi).toList,∀Y:cC O r.toList,b4 prog w A s (do
   modify fun s=>setArr s (r.toList.zipIdx.foldl (fun a(x:Keyed×Nat)=>a.setIfInBounds (lo+x.2) x.1) (arrOf s))
   return (failedOf (←get)).isNone) Q iW:=by
  intro lo hi cO cQ nB below above r iW;refine aj ?_;rintro g rfl;intro sG rs;refine bY (pM (bY (ou (cR ?_))))
  have C6:r.toList.length=hi-lo:=by
   rw[sG.length_eq,Array.length_toList,Array.size_extract,Nat.min_eq_left (Nat.le_trans nB aT)]
  have e:lo+r.toList.length=hi:=by rw[C6];exact Nat.add_sub_cancel' cQ
  have qP:=Qf r.toList 0 lo (arrOf st) (by rw[Nat.add_zero,e];exact Nat.le_trans nB aT);rw[Nat.add_zero,e]at qP;have Ql:arrOf (wB gM g)=arrOf st:=a1;rw[Ql]
  have Qm:(failedOf (setArr (wB gM g) (r.toList.zipIdx.foldl (fun a(x:Keyed×Nat)=>a.setIfInBounds (lo+x.2) x.1) (arrOf st)))).isNone=true:=by
   show(failedOf gM).isNone=true;rw[f1];rfl
  rw[Qm];generalize r.toList.zipIdx.foldl (fun a(x:Keyed×Nat)=>a.setIfInBounds (lo+x.2) x.1) (arrOf st)=xs at qP ⊢;have get:=Qh cQ (Nat.le_trans nB aT) C6 qP;refine h _ ⟨zM.kind,zM.failed,Qi cQ sG qP,fun t bf=>?_⟩ rfl (Qj O C6 get sG rs below above cO nB);show aM xs t=_;rw[get]
  split
  ·rfl
  ·rw[if_neg (by exact bf.elim (fun ay=>(aA (.a .p .q (.n (.t .r .q) (.b .r .p .f))) rfl cO (by assumption) ay:False).elim) (fun aE=>bA (.a .q (.a .r .s) (.a (.a .r .s) .p (.o (.t .p .q)))) rfl nB aE))]
 subst zL;refine bY (h9 (by exact bA (.a .o .s (.a (.a (.a .p .q) .s) .r (.t (.a .p .q) .r))) rfl qq aT) (bY (CR O cT hm (mem_getD hm (by exact bA (.a .o .s (.a (.a (.a .p .q) .s) .r (.t (.a .p .q) .r))) rfl qq aT)) (by exact bA (.a (.a (.a .p .q) .s) .r (.l (.a .p .q) .r)) rfl aT) (by exact aI (.a .o .p (.t .z .p)) rfl nY) (fun x y ae af=>s1 _ _ (by exact aq (.l .p (.a .p .q)) rfl) (by exact aA (.a .q .r (.l (.a .p .q) (.a .p .r))) rfl ae) (by exact aA (.b .q .r (.t (.a .p .q) (.a .p .r))) rfl af)) fun k g1 g2 g3=>?_)));dsimp only
 have below:∀x t,∀Y:bu≤x,∀Y:x<bu+k,∀Y:x≤t,∀Y:t<bu+na+nb,O.le (aM (arrOf st) x) (aM (arrOf st) t):=fun x t ay aE bI cM=>by
  by_cases h7:t<bu+na
  ·exact s1 x t ay bI h7
  ·have:=g2 (x-bu) (by exact bA (.b .r (.a .s .q) (.c (.a .p .s) .r (.t .p .q))) rfl aE (Nat.sub_add_cancel (aq (.a .p .q (.l .p .q)) rfl ay)));rw[show bu+(x-bu)=x by exact Nat.le_antisymm (aA (.c (.a .q .p) .r (.l (.a .p .q) .r)) rfl (Nat.sub_add_cancel (aq (.a .p .q (.l .p .q)) rfl ay))) (aA (.a .p (.a .r .q) (.l .p (.a .q .r))) rfl (cj _ _))]at this;exact O.le_trans this (s2 _ t (Nat.le_refl _) (Nat.le_of_not_lt h7) cM)
 by_cases aR:na-k=0
 ·rw[if_pos (beq_iff_eq.mpr aR)];refine cR (h _ zM rfl fun x y ae af aH=>?_);rw[a1];by_cases ai:x<bu+k
  ·exact below x y ae ai af aH
  ·exact s2 x y (by exact cJ (.c .s .z (.n (.t .r (.a .p .t)) (.a .q (.a .s .t) (.l (.a .p .q) .r)))) rfl aR ai (cj _ _)) af aH
 rw[if_neg (fun q=>aR (beq_iff_eq.mp q))];have o6:bu+k+(na-k)-1=bu+na-1:=by exact(Nat.lt_or_gt_of_ne aR).elim (fun fL=>Nat.le_antisymm ((aI (.b .p .z .f) rfl fL:False).elim) (cu (.b .r .z (.a .s (.a .r .t) (.a .p (.a (.v 5) .s) (.a (.a (.a (.v 5) .t) .r) (.b .q) (.l .p .q))))) rfl [((_+_)-(1:Nat)),(((_+_)+(_-_))-(1:Nat)),(_-_),_,_,_] [] fL (cj _ _) (Nat.sub_le (_+_) (1:Nat)) (cj ((_+_)+(_-_)) (1:Nat)))) (fun fM=>Nat.le_antisymm ((Nat.le_total _ _).elim (fun lu=>cu (.c (.b .p) (.a (.a .r .s) .t) (.i (-1) (.e (.b .q) (.a .r (.v 5))) (.c (.a .t .s) (.v 5) (.l .p .q)))) rfl [(((_+_)+(_-_))-(1:Nat)),((_+_)-(1:Nat)),_,_,(_-_),_] [] (Nat.sub_add_cancel (aA (.b .z .r (.l .o (.a (.a .p .q) .r))) rfl fM)) (Nat.sub_add_cancel (aA (.b .z .r (.a .r .q (.l .o (.a .p .q)))) rfl fM (Nat.sub_le _ _))) (Nat.sub_add_cancel lu)) (fun mO=>(aI (.b .z .p (.c .p .z .f)) rfl fM (Nat.sub_eq_zero_of_le mO):False).elim)) (cu (.a .r (.a .s .t) (.a (.a (.a (.v 5) .t) .s) (.b .q) (.c (.b .p) (.a (.v 5) .r) (.l .p .q)))) rfl [((_+_)-(1:Nat)),(((_+_)+(_-_))-(1:Nat)),_,(_-_),_,_] [] (cj _ _) (cj ((_+_)+(_-_)) (1:Nat)) (Nat.sub_add_cancel (aA (.b .z .r (.a .r .q (.l .o (.a .p .q)))) rfl fM (Nat.sub_le _ _)))))
 refine bY (h9 (by exact cu (.a .o .r (.a (.a (.a .s .t) .r) .q (.c .p (.v 5) (.a (.v 5) (.a .s .t) (.t .p .q))))) rfl [(((_+_)+(_-_))-(1:Nat)),_,_,_,_,((_+_)-(1:Nat))] [] qq aT o6 (Nat.sub_le (_+_) (1:Nat))) (bY (CS O cT hm (mem_getD hm (by exact cu (.a .o .r (.a (.a (.a .s .t) .r) .q (.c .p (.v 5) (.a (.v 5) (.a .s .t) (.t .p .q))))) rfl [(((_+_)+(_-_))-(1:Nat)),_,_,_,_,((_+_)-(1:Nat))] [] qq aT o6 (Nat.sub_le (_+_) (1:Nat)))) (by exact bA (.a (.a (.a .p .q) .r) .s (.l (.a (.a .p .q) .r) .s)) rfl aT) (by exact aq (.c (.b .p) .q (.t .p .q)) rfl (Nat.sub_add_cancel (aI (.a .o .p (.l .o .p)) rfl qq))) (fun x y ae af=>s2 _ _ (by exact aA (.l (.a .p .q) (.a (.a .p .q) .r)) rfl) (by exact bA (.a .r .s (.l (.a (.a .p .q) .r) (.a (.a .p .q) .s))) rfl ae) (by exact bA (.b .r .s (.t (.a (.a .p .q) .r) (.a (.a .p .q) .s))) rfl af)) fun m cO cQ nB=>?_)));rw[o6]at cQ nB;dsimp only
 have above:∀t y,∀Y:bu≤t,∀Y:t≤y,∀Y:bu+na+m≤y,∀Y:y<bu+na+nb,O.le (aM (arrOf st) t) (aM (arrOf st) y):=fun t y ay aE bI cM=>by
  by_cases h7:t<bu+na
  ·have:=nB (y-(bu+na)) (by exact cJ (.a (.a (.a .r .s) .p) .t (.a .t (.a .q (.a .r .s)) (.l .p .q))) rfl bI (cj _ (_+_))) (by exact(Nat.le_total (_+_) _).elim (fun ay=>cJ (.b .r (.a (.a .s .t) .q) (.c (.a .p (.a .s .t)) .r (.t .p .q))) rfl cM (Nat.sub_add_cancel ay)) (fun aE=>aq (.a .o .q (.c .p .z (.t .p .q))) rfl qq (Nat.sub_eq_zero_of_le aE)));rw[show bu+na+(y-(bu+na))=y by exact Nat.le_antisymm (bA (.c (.a .r (.a .p .q)) .s (.l (.a (.a .p .q) .r) .s)) rfl (Nat.sub_add_cancel (bA (.a (.a (.a .p .q) .s) .r (.l (.a .p .q) .r)) rfl bI))) (bA (.a .p (.a .s (.a .q .r)) (.l .p (.a (.a .q .r) .s))) rfl (cj _ (_+_)))]at this;exact O.le_trans (s1 t (bu+na-1) ay (by exact bA (.b .p (.a .r .s) (.a (.a .r .s) (.b .q) (.l .p .q))) rfl h7 (cj (_+_) (1:Nat))) (by exact aA (.c (.b .p) (.a .q .r) (.t .p (.a .q .r))) rfl (Nat.sub_add_cancel (aq (.a .o .q (.l .o (.a .p .q))) rfl nY)))) this
  ·exact s2 t y (Nat.le_of_not_lt h7) aE cM
 by_cases aW:m=0
 ·rw[if_pos (beq_iff_eq.mpr aW)];subst aW;refine cR (h _ zM rfl fun x y ae af aH=>?_);rw[a1];by_cases au:y<bu+na
  ·exact s1 x y ae af au
  ·exact above x y ae af (Nat.le_of_not_lt au) aH
 rw[if_neg (fun q=>aW (beq_iff_eq.mp q))];have C7:((arrOf st).extract (bu+k) (bu+na)).size=na-k:=by rw[Array.size_extract];exact(Nat.le_total (_+_) _).elim (fun fM=>Nat.le_antisymm ((Nat.le_total (_+_) (min (_+_) _)).elim (fun lu=>cu (.c .r (.a .s .t) (.c (.a .p (.a .s (.v 5))) .r (.a .t (.a .q (.v 5)) (.l .p .q)))) rfl [((min (_+_) _)-(_+_)),(_-_),(min (_+_) _),_,_,_] [] (Nat.min_eq_left fM) (Nat.sub_add_cancel lu) (cj _ _)) (fun mO=>aq (.c .p .z (.l .p .q)) rfl (Nat.sub_eq_zero_of_le mO))) ((Nat.le_total _ _).elim (fun qQ=>cu (.i (-1) (.e .r (.a .s .t)) (.c (.a .p (.v 5)) .t (.a .r (.a .q (.a .s (.v 5))) (.l .p .q)))) rfl [(_-_),((min (_+_) _)-(_+_)),(min (_+_) _),_,_,_] [] (Nat.min_eq_left fM) (Nat.sub_add_cancel qQ) (cj (min (_+_) _) (_+_))) (fun mP=>aq (.c .p .z (.l .p .q)) rfl (Nat.sub_eq_zero_of_le mP)))) (fun qn=>Nat.le_antisymm ((Nat.le_total (_+_) (min (_+_) _)).elim (fun vz=>cu (.a .r (.a .s .t) (.c (.v 5) .r (.c (.a .p (.a .s (.v 6))) (.v 5) (.a .t (.a .q (.v 6)) (.l .p .q))))) rfl [((min (_+_) _)-(_+_)),(_-_),_,_,_,(min (_+_) _),_] [] qn (Nat.min_eq_right qn) (Nat.sub_add_cancel vz) (cj _ _)) (fun wI=>aq (.c .p .z (.l .p .q)) rfl (Nat.sub_eq_zero_of_le wI))) ((Nat.le_total _ _).elim (fun wJ=>cu (.a (.a (.a .r .s) .t) (.v 5) (.i (-1) (.e (.v 6) (.v 5)) (.c (.a .p (.v 7)) .s (.a (.v 6) (.a .q (.a .r (.v 7))) (.l .p .q))))) rfl [(_-_),((min (_+_) _)-(_+_)),_,_,_,_,(min (_+_) _),_] [] aT (Nat.min_eq_right qn) (Nat.sub_add_cancel wJ) (cj (min (_+_) _) (_+_))) (fun wK=>aq (.c .p .z (.l .p .q)) rfl (Nat.sub_eq_zero_of_le wK))))
 have C8:((arrOf st).extract (bu+na) (bu+na+m)).size=m:=by rw[Array.size_extract];exact Nat.le_antisymm ((Nat.le_total ((_+_)+_) _).elim (fun ay=>cJ (.c .r (.a (.a .s .t) .q) (.c (.a .p (.a .s .t)) .r (.l .p .q))) rfl (Nat.min_eq_left ay) (Nat.sub_add_cancel (bA (.i (-1) (.e .r (.a (.a .p .q) .s)) (.l (.a .p .q) .r)) rfl (Nat.min_eq_left ay)))) (fun aE=>cu (.a .r (.a (.a .s .t) .q) (.c (.v 5) .r (.c (.a .p (.a .s .t)) (.v 5) (.l .p .q)))) rfl [((min ((_+_)+_) _)-(_+_)),_,_,_,_,(min ((_+_)+_) _)] [] aE (Nat.min_eq_right aE) (Nat.sub_add_cancel (cJ (.a (.a (.a .p .q) .s) .t (.i (-1) (.e .r .t) (.l (.a .p .q) .r))) rfl aT (Nat.min_eq_right aE))))) ((Nat.le_total ((_+_)+_) _).elim (fun bI=>cJ (.i (-1) (.e .r (.a (.a .s .t) .p)) (.a .r (.a .q (.a .s .t)) (.l .p .q))) rfl (Nat.min_eq_left bI) (cj (min ((_+_)+_) _) (_+_))) (fun cM=>cu (.a (.a (.a .r .s) .t) (.v 5) (.a .p .t (.i (-1) (.e (.v 6) (.v 5)) (.a (.v 6) (.a .q (.a .r .s)) (.l .p .q))))) rfl [_,((min ((_+_)+_) _)-(_+_)),_,_,_,_,(min ((_+_)+_) _)] [] aT cO (Nat.min_eq_right cM) (cj (min ((_+_)+_) _) (_+_))))
 have II:cC O ((arrOf st).extract (bu+k) (bu+na)).toList:=IG O (by exact bA (.a (.a (.a .p .q) .s) .r (.l (.a .p .q) .r)) rfl aT) fun i j ae af aH=>s1 i j (by exact aA (.a (.a .p .r) .q (.l .p .q)) rfl ae) af aH;have IJ:cC O ((arrOf st).extract (bu+na) (bu+na+m)).toList:=IG O (by exact cJ (.a (.a (.a .p .q) .t) .s (.a .r .t (.l (.a (.a .p .q) .r) .s))) rfl aT cO) fun i j ae af aH=>s2 i j ae af (by exact cJ (.a .t .s (.b .p (.a (.a .q .r) .t) (.t .p (.a (.a .q .r) .s)))) rfl cO aH)
 have zN:∀{lo hi},∀Y:hi≤(arrOf st).size,∀p∈((arrOf st).extract lo hi).toList,O.mem p:=fun bR p aP=>by
  refine aj ?_ (zJ aP);intro t;refine aY ?_;rintro _ kF rfl;exact mem_getD hm (Nat.lt_of_lt_of_le kF bR)
 have aV:O.le (aM ((arrOf st).extract (bu+na) (bu+na+m)) 0) (aM ((arrOf st).extract (bu+k) (bu+na)) 0):=by
  rw[sF (by exact(Nat.lt_or_gt_of_ne aW).elim (fun ay=>aA (.b .r .z (.t (.a (.a .p .q) .z) (.a (.a .p .q) .r))) rfl ay) (fun aE=>aA (.b .z .r (.t (.a (.a .p .q) .z) (.a (.a .p .q) .r))) rfl aE)),sF (by exact(Nat.lt_or_gt_of_ne aR).elim (fun ay=>(aI (.b .p .z .f) rfl ay:False).elim) (fun aE=>(Nat.le_total _ _).elim (fun bI=>bA (.b .z .s (.c (.a .s .q) .r (.t (.a (.a .p .q) .z) (.a .p .r)))) rfl aE (Nat.sub_add_cancel bI)) (fun cM=>(aI (.b .z .p (.c .p .z .f)) rfl aE (Nat.sub_eq_zero_of_le cM):False).elim)))];exact O.le_of_lt (g3 k (Nat.le_refl _) (by exact(Nat.lt_or_gt_of_ne aR).elim (fun ay=>(aI (.b .p .z .f) rfl ay:False).elim) (fun aE=>(Nat.le_total _ _).elim (fun bI=>aA (.b .z .r (.c (.a .r .p) .q (.t .p .q))) rfl aE (Nat.sub_add_cancel bI)) (fun cM=>(aI (.b .z .p (.c .p .z .f)) rfl aE (Nat.sub_eq_zero_of_le cM):False).elim))))
 have jQ:∀y∈((arrOf st).extract (bu+na) (bu+na+m)).toList,O.le y (aM ((arrOf st).extract (bu+k) (bu+na)) (((arrOf st).extract (bu+k) (bu+na)).size-1)):=fun y au=>by
  refine aj ?_ (zJ au);intro t;refine aY ?_;rintro t1 kF rfl;rw[C7,sF (by exact(Nat.lt_or_gt_of_ne aR).elim (fun ay=>(aI (.b .p .z .f) rfl ay:False).elim) (fun aE=>(Nat.le_total _ _).elim (fun bI=>cJ (.c (.b .r) .t (.c (.a .t .q) .s (.t (.a (.a .p .q) .r) (.a .p .s)))) rfl (Nat.sub_add_cancel (aI (.b .z .p (.l .o .p)) rfl aE)) (Nat.sub_add_cancel bI)) (fun cM=>(aI (.b .z .p (.c .p .z .f)) rfl aE (Nat.sub_eq_zero_of_le cM):False).elim))),show bu+k+(na-k-1)=bu+na-1 by exact(Nat.lt_or_gt_of_ne aR).elim (fun fL=>Nat.le_antisymm ((aI (.b .p .z .f) rfl fL:False).elim) (cu (.b .t .z (.a (.v 5) (.a .t .r) (.a .p (.a .q (.v 5)) (.l .p (.a (.a .q .r) .s))))) rfl [((_+_)-(1:Nat)),_,_,((_-_)-(1:Nat)),(_-_),_] [] fL (cj _ _) (Nat.sub_le (_+_) (1:Nat)))) (fun fM=>Nat.le_antisymm ((Nat.le_total _ _).elim (fun lu=>cu (.c (.b .r) .t (.i (-1) (.e (.b .s) (.a .p (.v 5))) (.c (.a .t .q) (.v 5) (.l (.a (.a .p .q) .r) .s)))) rfl [_,_,((_-_)-(1:Nat)),((_+_)-(1:Nat)),(_-_),_] [] (Nat.sub_add_cancel (aI (.b .z .p (.l .o .p)) rfl fM)) (Nat.sub_add_cancel (aA (.b .z .r (.a .r .q (.l .o (.a .p .q)))) rfl fM (Nat.sub_le _ _))) (Nat.sub_add_cancel lu)) (fun mO=>(aI (.b .z .p (.c .p .z .f)) rfl fM (Nat.sub_eq_zero_of_le mO):False).elim)) (cu (.a .t (.a (.v 5) .r) (.a (.v 5) (.b .s) (.c (.b .p) (.a .q .t) (.l .p (.a (.a .q .r) .s))))) rfl [((_+_)-(1:Nat)),_,_,((_-_)-(1:Nat)),_,(_-_)] [] (cj _ _) (cj (_-_) (1:Nat)) (Nat.sub_add_cancel (aA (.b .z .r (.a .r .q (.l .o (.a .p .q)))) rfl fM (Nat.sub_le _ _)))))];have:=cQ (t-(bu+na)) (by exact(Nat.lt_or_gt_of_ne aW).elim (fun ay=>(aI (.b .p .z .f) rfl ay:False).elim) (fun aE=>(Nat.le_total (_+_) _).elim (fun bI=>cJ (.b .r (.a (.a .s .t) .q) (.c (.a .p (.a .s .t)) .r (.t .p .q))) rfl kF (Nat.sub_add_cancel bI)) (fun cM=>aq (.b .z .q (.c .p .z (.t .p .q))) rfl aE (Nat.sub_eq_zero_of_le cM))));rw[show bu+na+(t-(bu+na))=t by exact Nat.le_antisymm (bA (.c (.a .r (.a .p .q)) .s (.l (.a (.a .p .q) .r) .s)) rfl (Nat.sub_add_cancel (aA (.a (.a .p .q) .r (.l (.a .p .q) .r)) rfl t1))) (bA (.a .p (.a .s (.a .q .r)) (.l .p (.a (.a .q .r) .s))) rfl (cj _ (_+_)))]at this;exact O.le_of_lt this
 have k6:∀y∈((arrOf st).extract (bu+k) (bu+na)).toList,O.le (aM ((arrOf st).extract (bu+na) (bu+na+m)) 0) y:=fun y au=>by
  refine aj ?_ (zJ au);intro t;refine aY ?_;rintro t1 kF rfl;refine O.le_trans aV ?_;rw[sF (by exact bA (.a (.a .p .q) .s (.b .s (.a .p .r) (.t (.a (.a .p .q) .z) (.a .p .r)))) rfl t1 kF)];exact s1 _ _ (by exact aq (.l .p (.a (.a .p .q) .z)) rfl) t1 kF
 have IK:∀r iW,∀Y:fu gM iW,∀Y:l5 O ((arrOf st).extract (bu+k) (bu+na)) ((arrOf st).extract (bu+na) (bu+na+m)) r,_:=fun r iW ay aE=>
  back (bu+k) (bu+na+m) (Nat.le_add_right ..) (by exact bA (.a .q .r (.l (.a .p .q) (.a (.a .p .r) .s))) rfl g1) (by exact bA (.a .r .s (.l (.a (.a .p .q) .r) (.a (.a .p .q) .s))) rfl cO) below above r iW ay (aE.1.trans (List.Perm.of_eq (by
   rw[Array.toList_extract,Array.toList_extract,Array.toList_extract,List.extract_eq_take_drop,List.extract_eq_take_drop,List.extract_eq_take_drop,show bu+na+m-(bu+k)=(bu+na-(bu+k))+(bu+na+m-(bu+na)) by exact(Nat.lt_or_gt_of_ne aR).elim (fun wK=>Nat.le_antisymm ((aI (.b .p .z .f) rfl wK:False).elim) ((aI (.b .p .z .f) rfl wK:False).elim)) (fun tm=>Nat.le_antisymm ((Nat.le_total _ _).elim (fun vA=>cu (.i (-1) (.e (.a .r (.a .s .t)) (.a (.a .s .t) (.v 5))) (.a (.a .s .t) (.a .q (.a .s (.v 6))) (.c (.a .p (.a .s (.v 6))) (.a (.a .s .t) (.v 5)) (.l .p (.a .q .r))))) rfl [(((_+_)+_)-(_+_)),((_+_)-(_+_)),(((_+_)+_)-(_+_)),_,_,_,_] [] (Nat.sub_add_cancel (aA (.l (.a .p .q) (.a (.a .p .q) .r)) rfl)) (cj (_+_) (_+_)) (Nat.sub_add_cancel (bA (.a .q .r (.l (.a .p .q) (.a (.a .p .r) .s))) rfl vA))) (fun yh=>(aI (.b .z .p (.c .p .z .f)) rfl tm (Nat.sub_eq_zero_of_le yh):False).elim)) ((Nat.le_total _ _).elim (fun yi=>cu (.c (.a .q (.a .s .t)) (.a (.a .s .t) (.v 5)) (.a (.a (.a .s .t) (.v 5)) (.a .r (.a .s (.v 6))) (.c (.a .p (.a .s (.v 6))) (.a .s .t) (.l (.a .p .q) .r)))) rfl [((_+_)-(_+_)),(((_+_)+_)-(_+_)),(((_+_)+_)-(_+_)),_,_,_,_] [] (Nat.sub_add_cancel (aA (.l (.a .p .q) (.a (.a .p .q) .r)) rfl)) (cj ((_+_)+_) (_+_)) (Nat.sub_add_cancel (aA (.a .q .r (.l (.a .p .q) (.a .p .r))) rfl yi))) (fun C9=>(aI (.b .z .p (.c .p .z .f)) rfl tm (Nat.sub_eq_zero_of_le C9):False).elim))),List.take_add,List.drop_drop,show bu+k+(bu+na-(bu+k))=bu+na by exact(Nat.lt_or_gt_of_ne aR).elim (fun fM=>Nat.le_antisymm ((aI (.b .p .z .f) rfl fM:False).elim) (bA (.a (.a .p .q) (.a .s (.a .p .r)) (.l (.a .p .q) (.a (.a .p .r) .s))) rfl (cj (_+_) (_+_)))) (fun lu=>Nat.le_antisymm ((Nat.le_total _ _).elim (fun mO=>bA (.c (.a .r (.a .p .q)) (.a .p .s) (.l (.a (.a .p .q) .r) (.a .p .s))) rfl (Nat.sub_add_cancel (aA (.a .q .r (.l (.a .p .q) (.a .p .r))) rfl mO))) (fun qQ=>(aI (.b .z .p (.c .p .z .f)) rfl lu (Nat.sub_eq_zero_of_le qQ):False).elim)) (bA (.a (.a .p .q) (.a .s (.a .p .r)) (.l (.a .p .q) (.a (.a .p .r) .s))) rfl (cj (_+_) (_+_))))]))) aE.2
 split
 ·exact bY (PQ O cT (zN (by exact bA (.a (.a (.a .p .q) .s) .r (.l (.a .p .q) .r)) rfl aT)) (zN (by exact cJ (.a (.a (.a .p .q) .t) .s (.a .r .t (.l (.a (.a .p .q) .r) .s))) rfl aT cO)) II IJ (by exact(Nat.lt_or_gt_of_ne aR).elim (fun ay=>aq (.b .q .z (.t .z .p)) rfl ay) (fun aE=>aq (.i (-1) (.e .p .q) (.b .z .q (.t .z .p))) rfl C7 aE)) (by exact(Nat.lt_or_gt_of_ne aW).elim (fun ay=>aq (.b .q .z (.t .z .p)) rfl ay) (fun aE=>aq (.i (-1) (.e .p .q) (.b .z .q (.t .z .p))) rfl C8 aE)) aV jQ IK)
 ·refine bY (P4 O cT (zN (by exact bA (.a (.a (.a .p .q) .s) .r (.l (.a .p .q) .r)) rfl aT)) (zN (by exact cJ (.a (.a (.a .p .q) .t) .s (.a .r .t (.l (.a (.a .p .q) .r) .s))) rfl aT cO)) II IJ (by exact(Nat.lt_or_gt_of_ne aR).elim (fun ay=>aq (.b .q .z (.t .z .p)) rfl ay) (fun aE=>aq (.i (-1) (.e .p .q) (.b .z .q (.t .z .p))) rfl C7 aE)) (by exact(Nat.lt_or_gt_of_ne aW).elim (fun ay=>aq (.b .q .z (.t .z .p)) rfl ay) (fun aE=>aq (.i (-1) (.e .p .q) (.b .z .q (.t .z .p))) rfl C8 aE)) ?_ k6 IK);refine jQ _ ?_;rw[nA,List.getElem?_eq_getElem (by rw[Array.length_toList];exact(Nat.lt_or_gt_of_ne aW).elim (fun ay=>aA (.b .r .z (.a .p .q (.t .p .q))) rfl ay (Nat.sub_le _ (1:Nat))) (fun aE=>aq (.c (.b .p) .q (.t .p .q)) rfl (Nat.sub_add_cancel (aq (.i (-1) (.e .p .q) (.b .z .q (.l .o .p))) rfl C8 aE))))];exact List.getElem_mem _
end
end Mine
end
section
open PySem PyProof.Rows
namespace Mine
section
variable{prog:Program}{w:World}{A:Around}{s:Shared}(O:Ord prog w A s)
noncomputable def Runs(xs:Array Keyed):∀Y:List (Nat×Nat×Nat),∀Y:Nat,∀Y:Nat,Prop
 |[],lo,hi=>lo=hi
 |(s,n,_)::r,lo,hi=>s=lo∧1≤n∧eK O xs lo (lo+n)∧Runs xs r (lo+n) hi
variable{O}
theorem Runs.le{xs:Array Keyed}:∀{l:List (Nat×Nat×Nat)}{lo hi:Nat},∀Y:Runs O xs l lo hi,lo+l.length≤hi
 |[],_,_,h=>by have h':_=_:=h;simp;exact aq (.c .p .q (.l .p .q)) rfl h'
 |(s,n,p)::r,lo,hi,h=>by
  refine cH ?_ h;clear h;intro _ ae _ af;have:=Runs.le af;simp only[List.length_cons];exact bA (.a .o .s (.a (.a (.a .p .s) .q) .r (.l (.a .p (.b .q)) .r))) rfl ae this
theorem Runs.append{xs:Array Keyed}:∀{l ia:List (Nat×Nat×Nat)}{lo hi:Nat},Runs O xs (l++ia) lo hi↔∃m,Runs O xs l lo m∧Runs O xs ia m hi
 |[],ia,lo,hi=>⟨fun h=>⟨lo,rfl,h⟩,fun⟨m,ae,af⟩=>by have r8:_=_:=ae;subst r8;exact af⟩
 |(s,n,p)::r,ia,lo,hi=>by
  constructor
  ·refine cH ?_;intro ae af aH bX;refine aj ?_ (Runs.append.mp bX);intro m;refine ar ?_;intro et fq;exact⟨m,⟨ae,af,aH,et⟩,fq⟩
  ·refine aj ?_;intro m;refine ar ?_;refine cH ?_;intro ae af aH et;intro fq;exact⟨ae,af,aH,Runs.append.mpr ⟨m,et,fq⟩⟩
theorem Runs.same{xs ys:Array Keyed}:∀{l:List (Nat×Nat×Nat)}{lo hi:Nat},∀Y:(∀k,∀Y:lo≤k,∀Y:k<hi,aM ys k=aM xs k),∀Y:Runs O xs l lo hi,Runs O ys l lo hi
 |[],_,_,_,h=>h
 |(s,n,p)::r,lo,hi,k,h=>by
  refine cH ?_ h;clear h;intro ae af aH bX;have:=bX.le;exact⟨ae,af,fun i j a b c=>by rw[k i a (by exact cu (.a (.a (.a .r .s) .t) .q (.a .p (.v 5) (.b (.v 5) (.a .r .s) (.t .p .q)))) rfl [_,_,_,_,_,_] [] this b c),k j (by exact aA (.a .p .r (.a .r .q (.l .p .q))) rfl a b) (by exact cJ (.a (.a (.a .r .s) .t) .q (.b .p (.a .r .s) (.t .p .q))) rfl this c)];exact aH i j a b c,Runs.same (fun t a b=>k t (by exact aA (.a (.a .p .r) .q (.l .p .q)) rfl a) b) bX⟩
variable(O)
structure gA(a₀:Array Keyed)(st:SortSt):Prop where
 perm:(arrOf st).Perm a₀
 kind:kindOf st=O.kd
 failed:failedOf st=none
variable{O}
theorem gA.size{a₀:Array Keyed}{st:SortSt}(h:gA O a₀ st):(arrOf st).size=a₀.size:=h.perm.size_eq
theorem gA.all{a₀:Array Keyed}{st:SortSt}(h:gA O a₀ st)(aV:∀p∈a₀.toList,O.mem p):oG O st:=fun q bb=>aV q ((Array.perm_iff_toList_perm.mp h.perm).mem_iff.mp bb)
theorem gA.rel{a₀:Array Keyed}{st ao:SortSt}{lo hi:Nat}(h:gA O a₀ st)(r:Rel st ao lo hi):gA O a₀ ao:=by
 refine aj ?_ r;clear r;intro xs;refine aY ?_;rintro rfl p _;exact⟨p.trans h.perm,h.kind,h.failed⟩
theorem gA.lr{a₀:Array Keyed}{st ao:SortSt}{lo hi:Nat}(h:gA O a₀ st)(r:zI st ao lo hi):gA O a₀ ao:=⟨r.perm.trans h.perm,r.kind.trans h.kind,r.failed.trans h.failed⟩
theorem Qn(pre post:List (Nat×Nat×Nat))(x y v:Nat×Nat×Nat)(p:Array (Nat×Nat×Nat))(h:p.toList=pre++x::y::post):((p.setIfInBounds pre.length v).eraseIdxIfInBounds (pre.length+1)).toList=pre++v::post:=by
 have hs:p.size=pre.length+(post.length+2):=by rw[←Array.length_toList,h];simp
 rw[Array.eraseIdxIfInBounds,dif_pos (by rw[Array.size_setIfInBounds];exact aA (.i (-1) (.e .q (.a .p (.a .r (.k 2)))) (.t (.b .p) .q)) rfl hs),Array.toList_eraseIdx,Array.toList_setIfInBounds,h,List.set_append_right _ _ (Nat.le_refl _),Nat.sub_self];rw[show(x::y::post).set 0 v=v::y::post from rfl,List.eraseIdx_append_of_length_le (by exact aI (.l .p (.b .p)) rfl),show pre.length+1-pre.length=1 by exact Nat.le_antisymm (aq (.c (.a .p .q) (.b .q) (.l .p .o)) rfl (Nat.sub_add_cancel (aI (.l .p (.b .p)) rfl))) (aq (.a (.b .q) (.a .p .q) (.l .o .p)) rfl (cj (_+(1:Nat)) _))];rfl
theorem IL{a₀:Array Keyed}{st:SortSt}{i lo:Nat}{Q:∀Y:Bool,∀Y:SortSt,Prop} (aV:∀p∈a₀.toList,O.mem p) (g6:gA O a₀ st) (fe:Runs O (arrOf st) (pendingOf st).toList 0 lo) (qI:lo≤a₀.size) (hi:i+1<(pendingOf st).size)
 (h:∀ao,∀Y:gA O a₀ ao,∀Y:Runs O (arrOf ao) (pendingOf ao).toList 0 lo,∀Y:(pendingOf ao).size+1=(pendingOf st).size,∀Y:(∀k,∀Y:lo≤k,aM (arrOf ao) k=aM (arrOf st) k),Q true ao):b4 prog w A s (mergeAt' i) Q st:=by
 have aD:(pendingOf st).toList=(pendingOf st).toList.take i++(pendingOf st).toList.drop i:=(List.take_append_drop ..).symm
 obtain⟨⟨bu,na,mh⟩,⟨de,nb,zK⟩,post,hd⟩:∃x y post,(pendingOf st).toList.drop i=x::y::post:=by
  have hlen:2≤((pendingOf st).toList.drop i).length:=by simp;exact aA (.b (.b .q) .r (.a .r (.a .p .q) (.l (.k 2) .p))) rfl hi (cj _ _)
  cases q:(pendingOf st).toList.drop i with
  |nil=>rw[q]at hlen;simp at hlen
  |cons x r=>cases r with
   |nil=>rw[q]at hlen;simp at hlen
   |cons y r=>exact⟨x,y,r,rfl⟩
 have fO:((pendingOf st).toList.take i).length=i:=by simp;exact Nat.le_antisymm (aq (.a .p .q (.l .p .q)) rfl (Nat.min_le_left _ _)) ((Nat.le_total _ _).elim (fun ay=>aq (.i (-1) (.e .q .p) (.l .p .q)) rfl (Nat.min_eq_left ay)) (fun aE=>aA (.b (.b .p) .r (.i (-1) (.e .q .r) (.l .p .q))) rfl hi (Nat.min_eq_right aE)))
 rw[hd]at aD;have IM:=fe;rw[aD]at IM;refine aj ?_ (Runs.append.mp IM);intro m;refine Bh ?_;intro j1 aR eB s1 aW iR s2 e7;subst aR;subst aW;have aT:=e7.le
 have gq:(pendingOf st)[i]?=some (bu,na,mh):=by
  rw[←Array.getElem?_toList,aD,List.getElem?_append_right (by exact aq (.c .p .q (.l .p .q)) rfl fO),fO,Nat.sub_self];rfl
 have p2:(pendingOf st)[i+1]?=some (bu+na,nb,zK):=by
  rw[←Array.getElem?_toList,aD,List.getElem?_append_right (by exact aq (.c .p .q (.l .p (.b .q))) rfl fO),fO,show i+1-i=1 by exact Nat.le_antisymm (aq (.c (.a .p .q) (.b .q) (.l .p .o)) rfl (Nat.sub_add_cancel (aI (.l .p (.b .p)) rfl))) (aq (.a (.b .q) (.a .p .q) (.l .o .p)) rfl (cj (_+(1:Nat)) _))];rfl
 refine Qk O g6.kind (g6.all aV) g6.failed gq p2 rfl eB iR (by rw[g6.size];exact cu (.a .t .s (.a (.a (.a (.a .p .q) .r) (.v 5)) .t (.l (.a (.a .p .q) .r) .s))) rfl [_,_,_,_,_,_] [] qI aT) s1 s2 fun ao lr aP hs=>?_
 have ep:(pendingOf ao).toList=(pendingOf st).toList.take i++(bu,na+nb,mh)::post:=by
  rw[aP];have:=Qn ((pendingOf st).toList.take i) post (bu,na,mh) (bu+na,nb,zK) (bu,na+nb,mh) (pendingOf st) aD;rw[fO]at this;exact this
 refine h ao (g6.lr lr) ?_ ?_ fun k aK=>lr.same k (.inr (by exact cu (.a (.a (.a (.a .p .q) .r) .t) (.v 5) (.a (.v 5) .s (.l (.a (.a .p .q) .r) .s))) rfl [_,_,_,_,_,_] [] aT aK))
 ·rw[ep];refine Runs.append.mpr ⟨bu,j1.same fun k Y af=>lr.same k (.inl af),rfl,by exact aq (.a .o .p (.l .o (.a .p .q))) rfl eB,by rw[←Nat.add_assoc];exact hs,?_⟩;rw[←Nat.add_assoc];exact e7.same fun k ae Y=>lr.same k (.inr ae)
 ·have cO:(pendingOf ao).size=i+(post.length+1):=by rw[←Array.length_toList,ep,List.length_append,fO];rfl
  have cQ:(pendingOf st).size=i+(post.length+2):=by rw[←Array.length_toList,aD,List.length_append,fO];rfl
  exact Nat.le_antisymm (bA (.c .p (.a .r (.b .s)) (.i (-1) (.e .q (.a .r (.a .s (.k 2)))) (.l (.b .p) .q))) rfl cO cQ) (bA (.i (-1) (.e .q (.a .r (.b .s))) (.c .p (.a .r (.a .s (.k 2))) (.l .p (.b .q)))) rfl cO cQ)
noncomputable def Dc:∀Y:Nat,∀Y:Nat,∀Y:Nat,Nat:=sortPriv% PySem.Builtin.minRun
noncomputable def zO:∀Y:Nat,∀Y:Nat,∀Y:Nat,∀Y:Nat,Nat:=sortPriv% PySem.Builtin.power
noncomputable def IP:StateT SortSt Sem Unit:=sortPriv% PySem.Builtin.sortRuns
theorem Qo:IP=(do
 let size:=(arrOf (←get)).size
 let IQ:=Dc size size 0
 let mut lo:=0
 for _ in [0:size] do
  if lo≥size then break
  let some found ←countRun' lo (size-lo)|return
  let mut n:=found
  if n<IQ then
   rule "list.sort.binary-insertion"
   let IS:=min (size-lo) IQ
   if !(←binarySort' lo IS n)then return
   n:=IS
  if let some (s1,eB,_):=(pendingOf (←get)).back? then
   let mh:=zO size (2*s1+eB) (2*s1+eB+eB+n) size
   for _ in [0:size] do
    let p:=pendingOf (←get)
    let some (_,_,zP):=(if p.size>1 then p[p.size-2]? else none)|break
    if zP≤mh then break
    if !(←mergeAt' (p.size-2))then return
   modify fun s=>setPending s ((pendingOf s).modify ((pendingOf s).size-1) fun(st,len,_)=>(st,len,mh))
  modify fun s=>setPending s ((pendingOf s).push (lo,n,0))
  lo:=lo+n
 for _ in [0:size] do
  let p:=pendingOf (←get)
  if p.size≤1 then break
  let i:=p.size-2
  let before:=if i>0 then p[i-1]?.map (·.2.1)else none
  let i:=if before.any (·<(p[i+1]?.elim 0 (·.2.1)))then i-1 else i
  if !(←mergeAt' i)then return):=rfl
theorem Qp(l:List (Nat×Nat×Nat))(i:Nat)(f:∀Y:Nat×Nat×Nat,Nat×Nat×Nat) (bq:∀x,((f x).1,(f x).2.1)=(x.1,x.2.1)):(l.modify i f).map (fun x=>(x.1,x.2.1))=l.map fun x=>(x.1,x.2.1):=by
 apply List.ext_getElem?;intro j;simp only[List.getElem?_map,List.getElem?_modify];cases l[j]? with
 |none=>split<;>rfl
 |some x=>
  split
  ·exact congrArg some (bq x)
  ·rfl
theorem Runs.congr{xs:Array Keyed}:∀{l ia:List (Nat×Nat×Nat)}{lo hi:Nat},∀Y:Runs O xs l lo hi,∀Y:l.map (fun x=>(x.1,x.2.1))=ia.map (fun x=>(x.1,x.2.1)),Runs O xs ia lo hi
 |[],[],_,_,h,_=>h
 |[],_::_,_,_,_,e=>by simp at e
 |_::_,[],_,_,_,e=>by simp at e
 |(s,n,p)::r,(s',yR,fb)::c5,lo,hi,h,e=>by
  simp only[List.map_cons,List.cons.injEq,Prod.mk.injEq]at e;refine ar ?_ e;clear e;refine ar ?_;rintro rfl rfl;intro e;refine cH ?_ h;clear h;intro ae af aH bX;exact⟨ae,af,aH,Runs.congr bX e⟩
noncomputable def IT(size lo n:Nat):StateT SortSt Sem (ForInStep (Option Unit×Nat)):=do
 let st ←get
 match (pendingOf st).back? with
 |some (s1,eB,_)=>do
  let r ←forIn [:size] ((none,()):Option Unit×Unit) fun Y Y=>do
   let st ←get
   match (if(pendingOf st).size>1 then(pendingOf st)[(pendingOf st).size-2]? else none)with
   |some (_,_,zP)=>if zP≤zO size (2*s1+eB) (2*s1+eB+eB+n) size then pure (.done (none,()))else do
    let b ←mergeAt' ((pendingOf st).size-2)
    if(!b)=true then pure (.done (some (),()))else pure (.yield (none,()))
   |_=>pure (.done (none,()))
  match r.1 with
  |some r=>pure (.done (some r,lo))
  |none=>do
   modify fun s=>setPending s ((pendingOf s).modify ((pendingOf s).size-1) fun x=>(x.1,x.2.1,zO size (2*s1+eB) (2*s1+eB+eB+n) size))
   modify fun s=>setPending s ((pendingOf s).push (lo,n,0))
   pure (.yield (none,lo+n))
 |_=>do
  modify fun s=>setPending s ((pendingOf s).push (lo,n,0))
  pure (.yield (none,lo+n))
structure wL(O:Ord prog w A s)(a₀:Array Keyed)(lo m:Nat)(st:SortSt):Prop where
 b:gA O a₀ st
 r:Runs O (arrOf st) (pendingOf st).toList 0 lo
 s:eK O (arrOf st) lo (lo+m)
theorem IU{a₀:Array Keyed}{st:SortSt}{size lo m:Nat}{Q:∀Y:ForInStep (Option Unit×Nat),∀Y:SortSt,Prop} (aV:∀p∈a₀.toList,O.mem p) (dj:wL O a₀ lo m st) (hm:1≤m) (aD:lo≤a₀.size)
 (h:∀ao,∀Y:gA O a₀ ao,∀Y:Runs O (arrOf ao) (pendingOf ao).toList 0 (lo+m),Q (.yield (none,lo+m)) ao):b4 prog w A s (IT size lo m) Q st:=by
 have fin:∀wM,∀Y:wL O a₀ lo m wM,b4 prog w A s (do
  modify fun s=>setPending s ((pendingOf s).push (lo,m,0))
  pure (ForInStep.yield (none,lo+m))) Q wM:=fun wM x=>by
  refine bY (pM (cR (h _ ⟨x.b.perm,x.b.kind,x.b.failed⟩ ?_)));show Runs O (arrOf wM) ((pendingOf wM).push (lo,m,0)).toList 0 (lo+m);rw[Array.toList_push];exact Runs.append.mpr ⟨lo,x.r,rfl,hm,x.s,rfl⟩
 unfold IT;refine bY (ou ?_);cases(pendingOf st).back? with
 |none=>exact fin st dj
 |some y=>
  obtain⟨s1,eB,Xy⟩:=y;dsimp only;generalize zO size (2*s1+eB) (2*s1+eB+eB+m) size=mh;refine bY (gp (l3 (I:=fun Y c ao=>c=(none,())∧wL O a₀ lo m ao) (Q:=fun c ao=>c=(none,())∧wL O a₀ lo m ao) ?_ (fun Y Y q=>q) ⟨rfl,dj⟩) ?_)
  ·intro z c ao _ _;refine ar ?_;rintro rfl x;refine bY (ou ?_);by_cases b7:(pendingOf ao).size>1
   ·rw[if_pos b7,getElem?_pos (pendingOf ao) ((pendingOf ao).size-2) (by exact aq (.c (.a .p (.k 2)) .q (.t .p .q)) rfl (Nat.sub_add_cancel (aI (.b .o .p (.l (.k 2) .p)) rfl b7)))];generalize (pendingOf ao)[(pendingOf ao).size-2]=y;obtain⟨pU,kH,zP⟩:=y;dsimp only
    split
    ·exact cR ⟨rfl,x⟩
    ·refine bY (IL aV x.b x.r aD (by exact aq (.c (.a .p (.k 2)) .q (.t (.b .p) .q)) rfl (Nat.sub_add_cancel (aI (.b .o .p (.l (.k 2) .p)) rfl b7))) fun Qq mf vC Y nr=>cR ⟨rfl,mf,vC,fun i j ae af aH=>?_⟩);rw[nr i ae,nr j (Nat.le_trans ae af)];exact x.s i j ae af aH
   ·rw[if_neg b7];exact cR ⟨rfl,x⟩
  ·intro c ao;refine ar ?_;rintro rfl x;refine bY (pM (fin _ ⟨⟨x.b.perm,x.b.kind,x.b.failed⟩,x.r.congr ?_,x.s⟩));show(pendingOf ao).toList.map _=((pendingOf ao).modify _ _).toList.map _;rw[Array.toList_modify];exact Eq.symm (Qp _ _ _ fun Y=>rfl)
theorem gA.IV{a₀:Array Keyed}{st ao:SortSt}{lo hi m:Nat}(b:gA O a₀ st)(x:Rel st ao lo hi)(r:Runs O (arrOf st) (pendingOf st).toList 0 lo)(hs:eK O (arrOf ao) lo (lo+m)):wL O a₀ lo m ao:=by
 refine⟨b.rel x,?_,hs⟩;refine aj ?_ x;clear x;intro xs;refine aY ?_;rintro rfl _ q;exact r.same fun k Y aK=>q k (.inl aK)
noncomputable def Dd(O:Ord prog w A s)(a₀:Array Keyed)(x:Nat)(c:Option Unit×Nat)(ao:SortSt):Prop:=∃lo,c=(none,lo)∧gA O a₀ ao∧Runs O (arrOf ao) (pendingOf ao).toList 0 lo∧lo≤a₀.size∧x≤lo
noncomputable def De(O:Ord prog w A s)(a₀:Array Keyed)(c:Option Unit×Nat)(ao:SortSt):Prop:=c.1=none∧gA O a₀ ao∧Runs O (arrOf ao) (pendingOf ao).toList 0 a₀.size
theorem IW{a₀:Array Keyed}{kI:SortSt}{Q:∀Y:Unit,∀Y:SortSt,Prop} (aV:∀p∈a₀.toList,O.mem p) (g6:gA O a₀ kI) (aP:pendingOf kI=#[]) (h:∀ao,∀Y:gA O a₀ ao,∀Y:eK O (arrOf ao) 0 a₀.size,Q () ao):b4 prog w A s IP Q kI:=by
 rw[Qo];refine bY (ou ?_)
 try dsimp only
 have c8:=g6.size;refine bY (gp (l3 (I:=Dd O a₀) (Q:=De O a₀) ?step ?fin ⟨0,rfl,g6,by rw[aP];rfl,Nat.zero_le _,Nat.le_refl _⟩) ?post)
 case fin=>
  intro c ao;refine aj ?_;intro lo;refine eY ?_;rintro rfl b r ae af;have:lo=a₀.size:=by exact Nat.le_antisymm (aq (.a .p .q (.l .p .q)) rfl ae) (bA (.i (-1) (.e .r .p) (.a .s .q (.a .r .s (.l .p .q)))) rfl c8 af (Nat.le_max_right (0:Nat) _))
  subst this;exact⟨rfl,b,r⟩
 case step=>
  intro x c ao _ ai;refine aj ?_;intro lo;refine eY ?_;rintro rfl sH wN ae af
  try dsimp only
  by_cases d5:lo≥(arrOf kI).size
  ·rw[if_pos d5];have:lo=a₀.size:=by exact Nat.le_antisymm (aq (.a .p .q (.l .p .q)) rfl ae) (aA (.i (-1) (.e .r .p) (.a .r .q (.l .p .q))) rfl c8 d5)
   subst this;exact cR ⟨rfl,sH,wN⟩
  ·rw[if_neg d5];have zQ:=sH.size;refine bY (P8 O sH.kind (sH.all aV) (by exact cJ (.c .s .t (.i (-1) (.e .r .t) (.c (.a .q .p) .s (.l (.a .p .q) .r)))) rfl c8 zQ (Nat.sub_add_cancel (aq (.n (.l .q .p) (.l .p .q)) rfl d5))) (by exact aA (.n (.l .q .r) (.a .q (.a .p .r) (.l .o .p))) rfl d5 (cj _ _)) fun m iW e7 f3 f5 s2=>?_)
   try dsimp only
   have uo:=sH.IV e7 wN s2;by_cases bC:m<Dc (arrOf kI).size (arrOf kI).size 0
   ·rw[if_pos bC];generalize Dc (arrOf kI).size (arrOf kI).size 0=Xz at bC ⊢;refine bY (t8 (bY (Qc O uo.b.kind (uo.b.all aV) (by rw[uo.b.size];exact(Nat.le_total _ _).elim (fun ay=>cJ (.c .s .r (.c (.a .t .p) .s (.a .q .t (.l (.a .p .q) .r)))) rfl c8 (Nat.sub_add_cancel ay) (Nat.min_le_left (_-_) _)) (fun aE=>(aq (.a .o .p (.a .p .q (.c .q .z .f))) rfl f3 f5 (Nat.sub_eq_zero_of_le aE):False).elim)) s2 fun XA vB fF=>?_)));rw[if_neg (show¬(!true)=true from Bool.false_ne_true)];exact cast (by kernel_rfl) (IU (size:=(arrOf kI).size) (Q:=t9 (De O a₀) (Dd O a₀ (x+1))) aV (uo.b.IV vB uo.r fF) (by exact(Nat.le_total _ _).elim (fun ay=>(Nat.le_total (_-_) _).elim (fun aE=>aA (.a .o .q (.a .q .r (.i (-1) (.e .p .r) (.l .o .p)))) rfl f3 f5 (Nat.min_eq_left aE)) (fun bI=>aA (.b .q .r (.i (-1) (.e .p .r) (.l .o .p))) rfl bC (Nat.min_eq_right bI))) (fun cM=>aA (.a .o .q (.a .q .r (.c .r .z (.l .o .p)))) rfl f3 f5 (Nat.sub_eq_zero_of_le cM))) ae fun ao b r=>⟨_,rfl,b,r,by exact(Nat.le_total _ _).elim (fun ay=>cJ (.c .s .r (.c (.a .t .p) .s (.a .q .t (.l (.a .p .q) .r)))) rfl c8 (Nat.sub_add_cancel ay) (Nat.min_le_left (_-_) _)) (fun aE=>(aq (.a .o .p (.a .p .q (.c .q .z .f))) rfl f3 f5 (Nat.sub_eq_zero_of_le aE):False).elim),by exact(Nat.le_total _ _).elim (fun ay=>(Nat.le_total (_-_) _).elim (fun aE=>cJ (.a .p .q (.a .o .s (.a .s .t (.i (-1) (.e .r .t) (.l (.b .p) (.a .q .r)))))) rfl af f3 f5 (Nat.min_eq_left aE)) (fun bI=>cJ (.a .p .q (.b .s .t (.i (-1) (.e .r .t) (.l (.b .p) (.a .q .r))))) rfl af bC (Nat.min_eq_right bI))) (fun cM=>cJ (.a .p .q (.a .o .s (.a .s .t (.c .t .z (.l (.b .p) (.a .q .r)))))) rfl af f3 f5 (Nat.sub_eq_zero_of_le cM))⟩)
   ·rw[if_neg bC];exact cast (by kernel_rfl) (IU (size:=(arrOf kI).size) (Q:=t9 (De O a₀) (Dd O a₀ (x+1))) aV uo f3 ae fun ao b r=>⟨_,rfl,b,r,by exact(Nat.le_total _ _).elim (fun ay=>cJ (.c .s .r (.a .q .t (.c (.a .t .p) .s (.l (.a .p .q) .r)))) rfl c8 f5 (Nat.sub_add_cancel ay)) (fun aE=>(aq (.a .o .p (.a .p .q (.c .q .z .f))) rfl f3 f5 (Nat.sub_eq_zero_of_le aE):False).elim),by exact aA (.a .p .q (.a .o .r (.l (.b .p) (.a .q .r)))) rfl af f3⟩)
 case post=>
  intro c ao;refine aY ?_;intro aG sH wN
  try dsimp only
  rw[aG]
  try dsimp only
  have aD:=wN.le;rw[Array.length_toList]at aD
  refine bY (gp (l3 (I:=fun x c ao=>c=(none,())∧gA O a₀ ao∧Runs O (arrOf ao) (pendingOf ao).toList 0 a₀.size∧((pendingOf ao).size≤1∨x+(pendingOf ao).size≤a₀.size))
   (Q:=fun c ao=>c=(none,())∧gA O a₀ ao∧Runs O (arrOf ao) (pendingOf ao).toList 0 a₀.size∧(pendingOf ao).size≤1) ?s2 ?f2 ⟨rfl,sH,wN,.inr (by exact aq (.a (.a .z .p) .q (.l (.a .z .p) .q)) rfl aD)⟩) ?p2)
  case f2=>
   intro c ao;refine cH ?_;intro aG b r aT;exact⟨aG,b,r,by exact aT.elim (fun ay=>aI (.a .p .o (.l .p .o)) rfl ay) (fun aE=>bA (.i (-1) (.e .q .r) (.a (.a .s .p) .r (.a .q .s (.l .p .o)))) rfl c8 aE (Nat.le_max_right (0:Nat) _))⟩
  case s2=>
   intro x c ao _ ai;refine cH ?_;rintro rfl b r aT
   try dsimp only
   refine bY (ou ?_);by_cases hle:(pendingOf ao).size≤1
   ·rw[if_pos hle];exact cR ⟨rfl,b,r,hle⟩
   ·rw[if_neg hle];refine bY (IL aV b r (Nat.le_refl _) ?_ fun Qq mf vC fv Y=>cR ⟨rfl,mf,vC,.inr (by exact aT.elim (fun ay=>(aI (.n (.l .p .o) (.a .p .o .f)) rfl hle ay:False).elim) (fun aE=>bA (.c (.b .q) .s (.a (.a .p .s) .r (.l (.a (.b .p) .q) .r))) rfl fv aE))⟩);generalize Option.any _ _=Qs;cases Qs<;>simp<;>lia
  case p2=>
   intro c ao;refine cH ?_;rintro rfl b r aT;refine cR (h ao b ?_);cases bb:(pendingOf ao).toList with
   |nil=>
    rw[bb]at r;have c5:0=a₀.size:=r;intro i j _ _ aO;exact(aq (.i (-1) (.e .z .p) (.b .q .p .f)) rfl c5 aO:False).elim
   |cons y l=>
    cases l with
    |nil=>
     rw[bb]at r;obtain⟨s1,eB,gq⟩:=y;refine cH ?_ r;clear r;intro _ _ hs he;have pB:0+eB=a₀.size:=he;rw[←pB];exact hs
    |cons z l=>
     have:(pendingOf ao).toList.length≤1:=by rw[Array.length_toList];exact aT
     rw[bb]at this;simp at this
end
end Mine
end
section
namespace Mine
noncomputable def gr:∀Y:List Int,∀Y:List Int,Bool
 |[],[]=>false
 |[],_::_=>true
 |_::_,[]=>false
 |x::xs,y::ys=>if x=y then gr xs ys else decide (x<y)
theorem sI{x y:Int}{xs ys:List Int}:gr (x::xs) (y::ys)=if x=y then gr xs ys else decide (x<y):=rfl
theorem Df(a:List Int):gr a a=false:=by
 induction a with
 |nil=>rfl
 |cons x r ih=>rw[sI,if_pos rfl];exact ih
theorem Dg:∀a b c,∀Y:gr a b=true,∀Y:gr b c=true,gr a c=true
 |[],[],_,h,_=>by cases h
 |[],_::_,[],_,h=>by cases h
 |[],_::_,_::_,_,_=>rfl
 |_::_,[],_,h,_=>by cases h
 |_::_,_::_,[],_,h=>by cases h
 |x::xs,y::ys,z::zs,ae,af=>by
  have ih:=Dg xs ys zs;rw[sI]at ae af ⊢;by_cases aR:x=y
  ·subst aR;rw[if_pos rfl]at ae;by_cases aW:x=z
   ·subst aW;rw[if_pos rfl]at af ⊢;exact ih ae af
   ·rw[if_neg aW]at af ⊢;exact af
  ·rw[if_neg aR]at ae;by_cases aW:y=z
   ·subst aW;rw[if_neg aR];exact ae
   ·rw[if_neg aW]at af;have aH:=of_decide_eq_true ae;have bX:=of_decide_eq_true af;rw[if_neg (by lia)];exact decide_eq_true (by lia)
theorem Dh:∀a b c,∀Y:gr a c=true,gr a b=true∨gr b c=true
 |[],_,[],h=>by cases h
 |[],[],_::_,_=>.inr rfl
 |[],_::_,_::_,_=>.inl rfl
 |_::_,_,[],h=>by cases h
 |_::_,[],_::_,_=>.inr rfl
 |x::xs,y::ys,z::zs,h=>by
  have ih:=Dh xs ys zs;rw[sI]at h;rw[sI,sI];by_cases aR:x=z
  ·subst aR;rw[if_pos rfl]at h;by_cases aW:x=y
   ·subst aW;rw[if_pos rfl,if_pos rfl];exact ih h
   ·rw[if_neg aW,if_neg (Ne.symm aW)];rcases Int.lt_or_gt_of_ne aW with q|q
    ·exact .inl (decide_eq_true q)
    ·exact .inr (decide_eq_true q)
  ·rw[if_neg aR]at h;have aH:=of_decide_eq_true h;by_cases aW:x=y
   ·subst aW;right;rw[if_neg aR];exact h
   ·rw[if_neg aW];by_cases cz:y=z
    ·subst cz;left;exact h
    ·rw[if_neg cz];by_cases q:x<y
     ·exact .inl (decide_eq_true q)
     ·exact .inr (decide_eq_true (by lia))
theorem zR:∀a b,∀Y:gr a b=false,∀Y:gr b a=false,a=b
 |[],[],_,_=>rfl
 |[],_::_,h,_=>by cases h
 |_::_,[],_,h=>by cases h
 |x::xs,y::ys,ae,af=>by
  rw[sI]at ae af;by_cases e:x=y
  ·subst e;rw[if_pos rfl]at ae af;rw[zR xs ys ae af]
  ·rw[if_neg e]at ae;rw[if_neg (Ne.symm e)]at af;have aH:=of_decide_eq_false ae;have bX:=of_decide_eq_false af
   lia
noncomputable def uq:KeyOrd where
 α:=Int
 blt:=fun a b=>decide (a<b)
 irrefl:=fun a=>by simp
 trans:=fun a b c ae af=>by simp at*;exact yc (.B .p .r (.B .r .q (.T .p .q))) rfl ae af
 negTrans:=fun a b c h=>by simp at*;exact MN h
 total:=fun a b ae af=>by simp at*;exact Int.le_antisymm (nT (.A .p .q (.L .p .q)) rfl af) (nT (.A .p .q (.L .p .q)) rfl ae)
noncomputable def lexOrd:KeyOrd:=⟨List Int,gr,Df,Dg,Dh,zR⟩
noncomputable def oH:KeyOrd where
 α:=List Int
 blt:=fun a b=>if a.length=b.length then gr a b else decide (a.length<b.length)
 irrefl:=fun a=>by simp[Df]
 trans:=fun a b c ae af=>by
  by_cases aR:a.length=b.length
  ·rw[if_pos aR]at ae;by_cases aW:b.length=c.length
   ·rw[if_pos aW]at af;rw[if_pos (aR.trans aW)];exact Dg _ _ _ ae af
   ·rw[if_neg aW]at af;rw[if_neg (by lia)];simp at*;exact aA (.c .p .r (.b .r .q (.t .p .q))) rfl aR af
  ·rw[if_neg aR]at ae;by_cases aW:b.length=c.length
   ·rw[if_neg (by lia)];simp at*;exact aA (.c .r .q (.b .p .r (.t .p .q))) rfl aW ae
   ·rw[if_neg aW]at af;simp at ae af;rw[if_neg (by exact fun ay=>aA (.b .p .q (.b .q .r (.i (-1) (.e .p .r) (.F 1)))) rfl ae af ay)];simp;exact aA (.b .p .r (.b .r .q (.t .p .q))) rfl ae af
 negTrans:=fun a b c h=>by
  by_cases aR:a.length=c.length
  ·rw[if_pos aR]at h;by_cases aW:a.length=b.length
   ·rw[if_pos aW,if_pos (by exact Nat.le_antisymm (aA (.c .r .q (.i (-1) (.e .r .p) (.l .p .q))) rfl aR aW) (aA (.i (-1) (.e .r .p) (.c .r .q (.l .p .q))) rfl aR aW))];exact Dh _ _ _ h
   ·rw[if_neg aW,if_neg (by exact fun ay=>(Nat.lt_or_gt_of_ne aW).elim (fun aE=>aA (.i (-1) (.e .p .q) (.c .r .q (.b .p .r .f))) rfl aR ay aE) (fun bI=>aA (.c .p .q (.i (-1) (.e .r .q) (.b .r .p .f))) rfl aR ay bI))];simp;exact MO aR aW
  ·rw[if_neg aR]at h;simp at h;by_cases aW:a.length=b.length
   ·right;rw[if_neg (by exact fun ay=>aA (.b .p .q (.i (-1) (.e .p .r) (.i (-1) (.e .r .q) .f))) rfl h aW ay)];simp;exact aA (.b .r .q (.i (-1) (.e .r .p) (.t .p .q))) rfl h aW
   ·by_cases cz:b.length=c.length
    ·left;rw[if_neg aW];simp;exact aA (.b .p .r (.i (-1) (.e .q .r) (.t .p .q))) rfl h cz
    ·rw[if_neg aW,if_neg cz];simp;exact MP h
 total:=fun a b ae af=>by
  by_cases e:a.length=b.length
  ·rw[if_pos e]at ae;rw[if_pos e.symm]at af;exact zR _ _ ae af
  ·rw[if_neg e]at ae;rw[if_neg (Ne.symm e)]at af;simp at ae af;exact((Nat.lt_or_gt_of_ne e).elim (fun ay=>aq (.a .p .q (.b .q .p .f)) rfl ae ay) (fun aE=>aq (.a .p .q (.b .q .p .f)) rfl af aE):False).elim
noncomputable def qR:∀Y:List Int,∀Y:List Int,Option Bool
 |x::xs,y::ys=>if x=y then qR xs ys else some (decide (x<y))
 |_,_=>none
theorem wO{x y:Int}{xs ys:List Int}:qR (x::xs) (y::ys)=if x=y then qR xs ys else some (decide (x<y)):=rfl
theorem IX(a:List Int):∀b,gr a b=(qR a b).getD (decide (a.length<b.length)):=by
 induction a with
 |nil=>intro b;cases b with
  |nil=>rfl
  |cons y ys=>exact(decide_eq_true (Nat.succ_pos ys.length)).symm
 |cons x xs ih=>intro b;cases b with
  |nil=>exact(decide_eq_false (Nat.not_lt_zero (x::xs).length)).symm
  |cons y ys=>
   rw[sI,wO];by_cases e:x=y
   ·rw[if_pos e,if_pos e,ih ys,List.length_cons,List.length_cons];simp
   ·rw[if_neg e,if_neg e];rfl
section
variable{prog:Program}{w:World}{A:Around}{s:Shared}
theorem IY{a b:Int}{t u:Tok}{F:∀Y:Value,∀Y:Shared,Prop} (h:F (.bool (decide (a<b))) s):wpAny (model prog w) A (richCompare .Lt (.int a t) (.int b u)) F bo s:=
 (PySem.P.lt_int h:wpAny (model prog w) A (compareOp .Lt (.int a t) (.int b u)) F bo s)
theorem Qt{β:Type}{g:∀Y:Bool,β} {f:∀Y:Value×Value,∀Y:Option β×Unit,Sem (ForInStep (Option β×Unit))}
 (ae:∀n t u c(F:∀Y:ForInStep (Option β×Unit),∀Y:Shared,Prop),∀Y:F (.yield (none,())) s,wpAny (model prog w) A (f (.int n t,.int n u) c) F bo s)
 (af:∀n m t u c(F:∀Y:ForInStep (Option β×Unit),∀Y:Shared,Prop),∀Y:n≠m,∀Y:F (.done (some (g (decide (n<m))),())) s,wpAny (model prog w) A (f (.int n t,.int m u) c) F bo s):
 ∀{vs us:List Value}{ns ms:List Int},∀Y:IntsAre vs ns,∀Y:IntsAre us ms,
  wpAny (model prog w) A (forIn (vs.zip us) (none,()) f) (fun c s'=>s'=s∧c=((qR ns ms).map g,())) bo s:=by
 intro vs us ns ms aN dQ
 induction aN generalizing us ms with
 |nil=>
  show wpAny _ _ (forIn [] (none,()) f) _ _ _;rw[List.forIn_nil];exact wpAny_pure ⟨rfl,by cases ms<;>rfl⟩
 |@cons n t vs' jR aC ih=>
  cases dQ with
  |nil=>
   show wpAny _ _ (forIn [] (none,()) f) _ _ _;rw[List.forIn_nil];exact wpAny_pure ⟨rfl,rfl⟩
  |@cons m u sJ Qu j5=>
   rw[List.zip_cons_cons,List.forIn_cons];by_cases e:n=m
   ·subst e;refine wpAny_bind (ae _ _ _ _ _ ?_);exact wpAny_mono (ih j5) (fun c s' aG=>⟨aG.1,by rw[aG.2,wO,if_pos rfl]⟩) fun Y Y x=>x
   ·refine wpAny_bind (af _ _ _ _ _ _ e (wpAny_pure ⟨rfl,by rw[wO,if_neg e];rfl⟩))
noncomputable def gN(h:Heap)(v:Value)(ns:List Int):Prop:=∃a items n,v=.ref a∧IsT h a items n∧IntsAre items.toList ns
theorem gN.key{h:Heap}{a:Addr}{ns:List Int}(x:gN h (.ref a) ns):IsTupleKey (intKind prog w) h ns a:=by
 refine bG ?_ x;clear x;intro r5 items n;refine aY ?_;intro e bf aC;cases e
 refine⟨_,items,n,bf,rfl,rfl,?_⟩;generalize items.toList=l at aC;clear bf
 induction aC with
 |nil=>exact .nil
 |cons n t _ ih=>exact .cons (by simp[intKind,Value.isInt]) ih
theorem Qv{x y:List Int}{a b:Addr}{P:∀Y:Fin,∀Y:Shared,Prop} (ai:gN s.heap (.ref a) x) (au:gN s.heap (.ref b) y) (h:P (.done (.ret (.bool (gr x y)))) s):
 wpAny (model prog w) A (Builtin.«tuple.__lt__» ⟨[.ref a,.ref b],[]⟩) P bo s:=by
 refine bG ?_ ai;clear ai;intro _ xs na;refine aY ?_;intro e qS eN;cases e
 refine bG ?_ au;clear au;intro _ ys nb;refine aY ?_;intro e oJ mK;cases e
 show wpAny _ _ (isInstance (.ref b) (.type "tuple")>>=_) _ _ s;refine wpAny_bind (wpAny_isInstance (T:="tuple") ⟨_,oJ,rfl⟩ isSubtype_tuple_tuple ?_);rw[if_neg (by decide)];refine wpAny_bind (wpAny_tupleItemsOf qS rfl ?_);refine wpAny_bind (wpAny_tupleItemsOf oJ rfl ?_);refine wpAny_bind (wpAny_mono (Qt (g:=fun b=>(Fin.done (.ret (.bool b)):Fin)) (fun n t u c F bD=>?_) (fun n m t u c F cP bD=>?_) eN mK) (fun c s' aG=>?_) fun Y Y x=>x)
 ·refine wpAny_bind (wpAny_eqBool_int ?_);rw[if_neg (by rw[beq_self_eq_true];decide)];exact wpAny_pure bD
 ·refine wpAny_bind (wpAny_eqBool_int ?_);rw[if_pos (by rw[beq_eq_false_iff_ne.mpr cP];decide)];exact wpAny_bind (wpAny_rule (wpAny_bind (IY (wpAny_bind (wpAny_pure (wpAny_pure bD))))))
 ·refine ar ?_ aG;clear aG;rintro rfl rfl;rw[IX]at h;cases e:qR x y with
  |some b=>rw[e]at h;exact wpAny_pure h
  |none=>
   rw[e]at h;refine wpAny_pure ?_;have ae:=eN.length;have af:=mK.length;rw[Array.length_toList]at ae af;show P (.done (.ret (.bool (decide (xs.size<ys.size))))) s';rw[ae,af];exact h
theorem Qw{x y:List Int}{u v:Value}{F:∀Y:Value,∀Y:Shared,Prop} (dQ:A.units<cLine) (ai:gN s.heap u x) (au:gN s.heap v y) (h:F (.bool (gr x y)) s):wpAny (model prog w) A (richCompare .Lt u v) F bo s:=by
 refine bG ?_ (id ai);intro a xs na;refine aY ?_;rintro rfl qS eN;refine bG ?_ (id au);intro b ys nb;refine aY ?_;rintro rfl oJ mK;refine wpAny_richCompare_same_room (T:="tuple") ⟨_,qS,rfl⟩ ⟨_,oJ,rfl⟩ PySem.F.slot_tuple_lt (wpAny_call_entry PySem.F.slot_tuple_lt ⟨_,qS,rfl⟩ PySem.F.entry_tuple_lt (Qv ai au ⟨_,rfl,?_⟩) (PySem.F.args_tuple_lt_2 _ _)) dQ;exact⟨(fun q=>nomatch q),h⟩
noncomputable abbrev qT(b:Bool):SortKind:=tuples' b
theorem IZ(x y:Value):oneLt' false x y=(do truthOfDropped (←richCompare .Lt x y)):=rfl
theorem Di{b:Bool}{n m:Int}{t u:Tok}{F:∀Y:Bool,∀Y:Shared,Prop} (h:F (decide (n<m)) s):wpAny (model prog w) A (oneLt' b (.int n t) (.int m u)) F bo s:=by
 cases b with
 |true=>exact oneLt_int h
 |false=>
  rw[IZ];exact wpAny_bind (IY (wpAny_truthy_bool h))
theorem Qx{x y:List Int}{u v:Value}{F:∀Y:Bool,∀Y:Shared,Prop} (dQ:A.units<cLine) (ai:gN s.heap u x) (au:gN s.heap v y) (h:F (gr x y) s):wpAny (model prog w) A (oneLt' false u v) F bo s:=by
 rw[IZ];exact wpAny_bind (Qw dQ ai au (wpAny_truthy_bool h))
theorem Qy{x y:List Int}{u v:Value}{F:∀Y:Bool,∀Y:Shared,Prop} (dQ:A.units<cLine) (ai:gN s.heap u x) (au:gN s.heap v y) (h:F (decide (x=y)) s):wpAny (model prog w) A (eqBool u v) F bo s:=by
 refine bG ?_ (id ai);intro a _ _;refine ar ?_;rintro rfl _;refine bG ?_ (id au);intro b _ _;refine ar ?_;rintro rfl _;exact wpAny_eqBool_tuple (knd:=intKind prog w) dQ ai.key au.key h
theorem I0(f:Bool)(x y:Value):keyLt' (qT f) x y=(do
 let xs ←Builtin.List.listItems x;let ys ←Builtin.List.listItems y
 for ((p,q),i)in (xs.toList.zip ys.toList).zipIdx do
  if !(←eqBool p q)then return ←oneLt' (f&&i==0) p q
 return decide (xs.size<ys.size)):=rfl
theorem Qz{f:∀Y:(Value×Value)×Nat,∀Y:Option Bool×Unit,Sem (ForInStep (Option Bool×Unit))}
 (ae:∀n t u i c(F:∀Y:ForInStep (Option Bool×Unit),∀Y:Shared,Prop),∀Y:F (.yield (none,())) s,wpAny (model prog w) A (f ((.int n t,.int n u),i) c) F bo s)
 (af:∀n m t u i c(F:∀Y:ForInStep (Option Bool×Unit),∀Y:Shared,Prop),∀Y:n≠m,∀Y:F (.done (some (decide (n<m)),())) s,wpAny (model prog w) A (f ((.int n t,.int m u),i) c) F bo s):
 ∀{vs us:List Value}{ns ms:List Int}(k:Nat),∀Y:IntsAre vs ns,∀Y:IntsAre us ms,
  wpAny (model prog w) A (forIn ((vs.zip us).zipIdx k) (none,()) f) (fun c s'=>s'=s∧c=(qR ns ms,())) bo s:=by
 intro vs us ns ms k aN dQ
 induction aN generalizing us ms k with
 |nil=>
  show wpAny _ _ (forIn [] (none,()) f) _ _ _;rw[List.forIn_nil];exact wpAny_pure ⟨rfl,by cases ms<;>rfl⟩
 |@cons n t vs' jR aC ih=>
  cases dQ with
  |nil=>
   show wpAny _ _ (forIn [] (none,()) f) _ _ _;rw[List.forIn_nil];exact wpAny_pure ⟨rfl,rfl⟩
  |@cons m u sJ Qu j5=>
   rw[List.zip_cons_cons,List.zipIdx_cons,List.forIn_cons];by_cases e:n=m
   ·subst e;refine wpAny_bind (ae _ _ _ _ _ _ ?_);exact wpAny_mono (ih (k+1) j5) (fun c s' aG=>⟨aG.1,by rw[aG.2,wO,if_pos rfl]⟩) fun Y Y x=>x
   ·refine wpAny_bind (af _ _ _ _ _ _ _ e (wpAny_pure ⟨rfl,by rw[wO,if_neg e]⟩))
theorem QA{f:Bool}{x y:List Int}{u v:Value}{F:∀Y:Bool,∀Y:Shared,Prop} (ai:gN s.heap u x) (au:gN s.heap v y) (h:F (gr x y) s):wpAny (model prog w) A (keyLt' (qT f) u v) F bo s:=by
 refine bG ?_ ai;clear ai;intro a xs na;refine aY ?_;rintro rfl qS eN;refine bG ?_ au;clear au;intro b ys nb;refine aY ?_;rintro rfl oJ mK;rw[I0];refine wpAny_bind (listItems_at qS rfl (wpAny_bind (listItems_at oJ rfl ?_)));refine wpAny_bind (wpAny_mono (Qz (fun n t u i c F bD=>?_) (fun n m t u i c F cP bD=>?_) 0 eN mK) (fun c s' aG=>?_) fun Y Y x=>x)
 ·refine wpAny_bind (wpAny_eqBool_int ?_);rw[if_neg (by rw[beq_self_eq_true];decide)];exact wpAny_pure bD
 ·refine wpAny_bind (wpAny_eqBool_int ?_);rw[if_pos (by rw[beq_eq_false_iff_ne.mpr cP];decide)];exact wpAny_bind (Di (wpAny_pure bD))
 ·refine ar ?_ aG;clear aG;rintro rfl rfl;rw[IX]at h;have ae:=eN.length;have af:=mK.length;rw[Array.length_toList]at ae af;cases e:qR x y with
  |some b=>rw[e]at h;exact wpAny_pure h
  |none=>rw[e]at h;exact wpAny_pure (by rw[ae,af];exact h)
noncomputable def iX(h:Heap)(v:Value)(ns:List Int):Prop:=∃a u n t m,v=.ref a∧IsT h a #[.int n t,u] m∧n=(ns.length:Int)∧gN h u ns
theorem QB{f:Bool}{x y:List Int}{u v:Value}{F:∀Y:Bool,∀Y:Shared,Prop} (dQ:A.units<cLine) (ai:iX s.heap u x) (au:iX s.heap v y) (h:F (oH.blt x y) s):wpAny (model prog w) A (keyLt' (qT f) u v) F bo s:=by
 refine jr ?_ ai;clear ai;intro a p _ QC na;refine cH ?_;rintro rfl qS rfl eN;refine jr ?_ au;clear au;intro b q _ QD nb;refine cH ?_;rintro rfl oJ rfl mK;rw[I0];refine wpAny_bind (listItems_at qS rfl (wpAny_bind (listItems_at oJ rfl ?_)));show wpAny _ _ (forIn [((Value.int x.length QC,Value.int y.length QD),0),((p,q),1)] (none,()) _>>=_) _ _ _;refine wpAny_bind ?_;rw[List.forIn_cons];refine wpAny_bind (wpAny_bind (wpAny_eqBool_int ?_));by_cases e:x.length=y.length
 ·rw[if_neg (by rw[e,beq_self_eq_true];decide)];refine wpAny_pure ?_;show wpAny _ _ (forIn [((p,q),1)] (none,()) _) _ _ _;rw[List.forIn_cons];refine wpAny_bind (wpAny_bind (Qy dQ eN mK ?_));have av:oH.blt x y=gr x y:=if_pos e;rw[av]at h;by_cases aW:x=y
  ·subst aW;rw[Df]at h;rw[if_neg (by rw[decide_eq_true rfl];decide)];refine wpAny_pure ?_;show wpAny _ _ (forIn [] (none,()) _) _ _ _;rw[List.forIn_nil];exact wpAny_pure (wpAny_pure h)
  ·rw[if_pos (by rw[decide_eq_false aW];decide)];have cz:(f&&((1:Nat)==0))=false:=Bool.and_false _;rw[cz];exact wpAny_bind (Qx dQ eN mK (wpAny_pure (wpAny_pure (wpAny_pure h))))
 ·rw[if_pos (by rw[(beq_eq_false_iff_ne (a:=(x.length:Int)) (b:=(y.length:Int))).mpr fun q=>e (Int.ofNat.inj q)];decide)]
  have av:oH.blt x y=decide ((x.length:Int)<y.length):=by
   show(if x.length=y.length then gr x y else decide (x.length<y.length))=_;rw[if_neg e];simp
  rw[av]at h;exact wpAny_bind (Di (wpAny_pure (wpAny_pure (wpAny_pure h))))
end
end Mine
end
section
namespace Mine
noncomputable def jS(h:Heap)(a:Addr)(vs:List Value):Heap:=((h.update a (Obj.mapSeq fun Y=>#[])).push (seqObj "tuple" vs.toArray 0)).push (seqObj "list" #[] 0)
section
variable{prog:Program}{w:World}{A:Around}{s:Shared}
theorem QE{a:Addr}{vs:List Value}{n:Nat}{P:∀Y:Fin,∀Y:Shared,Prop} (bx:s.heap.get? a=some (seqObj "list" vs.toArray n)) (hlen:vs.length≤1000000)
 (O:Ord prog w A {s with heap:=jS s.heap a vs}) (ez:∀p∈(pairsOf vs).toList,O.mem p)
 (eG:∀Y:2≤vs.length,∀{G:∀Y:SortKind,∀Y:Shared,Prop},∀Y:G O.kd {s with heap:=jS s.heap a vs},wpAny (model prog w) A (keyKind' vs.toArray) G bo {s with heap:=jS s.heap a vs})
 (h:∀(xs:Array Keyed) tk,∀Y:xs.Perm (pairsOf vs),∀Y:eK O xs 0 (pairsOf vs).size,P (.done (.ret .none)) {s with heap:=sortedHeap s.heap a vs (xs.map (·.2)),toks:=tk}):
 wpAny (model prog w) A (Builtin.«list.sort» ⟨[.ref a],[]⟩) P bo s:=by
 rw[list_sort_plain];have aJ:a<s.heap.objs.size:=Heap.lt_size bx;have iA:1000000≤sizeLine:=by decide
 refine wpAny_bind (listItems_at bx rfl ?_);refine wpAny_bind (listUpdate_at bx rfl ?_ (by rw[List.size_toArray];exact aq (.a .p (.k 1000000) (.a (.k 1000000) .q (.l .p .q))) rfl hlen iA) (Nat.zero_le _));obtain⟨aR,wQ⟩:∃aR,(s.heap.update a (Obj.mapSeq fun Y=>#[])).get? a=some (seqObj "list" #[] aR):=⟨_,get?_update_seq bx (fun Y=>#[])⟩;refine wpAny_bind (seqEpoch_at wQ rfl ?_);refine wpAny_bind (wpAny_newTuple ?_ (by show vs.length≤_;exact aq (.a .p (.k 1000000) (.a (.k 1000000) .q (.l .p .q))) rfl hlen iA));refine wpAny_bind (wpAny_newList ?_ (Nat.zero_le _));refine wpAny_holding ?_
 have zS:(jS s.heap a vs).get? a=some (seqObj "list" #[] aR):=by
  unfold jS;rw[Heap.get?_push_ne _ _ _ (by rw[size_push',Heap.size_update];exact Nat.ne_of_lt (Nat.lt_succ_of_lt aJ)),Heap.get?_push_ne _ _ _ (by rw[Heap.size_update];exact Nat.ne_of_lt aJ)];exact wQ
 show wpAny (model prog w) A _ P bo {s with heap:=jS s.heap a vs};dsimp only;have c8:vs.toArray.size=vs.length:=by simp
 have fin:=h;by_cases af:vs.toArray.size<2
 ·rw[if_pos af,if_pos af];refine wpAny_bind (wpAny_pure ?_);rw[StateT.run_pure];refine wpAny_bind (wpAny_pure ?_);dsimp only;refine wpAny_bind (seqEpoch_at zS rfl ?_);refine wpAny_bind (listUpdate_at zS rfl ?_ (Nat.zero_le _) (by rw[Array.size_map];show(pairsOf vs).size≤_;rw[pairsOf_size];exact aA (.i (-1) (.e .r .p) (.b .r (.k 2) (.l .p (.b .q)))) rfl c8 af));simp only[bne_self_eq_false,Bool.false_eq_true,if_false];refine wpAny_pure (fin (pairsOf vs) _ (Array.Perm.refl _) ?_);intro i j _ iG aO;have:i=j:=by rw[pairsOf_size]at aO;exact Nat.le_antisymm (aq (.a .p .q (.l .p .q)) rfl iG) (bA (.i (-1) (.e .r .s) (.b .r (.k 2) (.b .p .s (.l .p .q)))) rfl c8 af aO)
  subst this;exact O.le_refl _
 ·rw[if_neg af,if_neg af]
  have Dj:wpAny (model prog w) A ((sortRuns').run (SortSt.mk' O.kd (vs.toArray.zip vs.toArray) #[] 7 none))
   (fun r s'=>(∃gm,s'={s with heap:=jS s.heap a vs,toks:=gm})∧gA O (pairsOf vs) r.2∧eK O (arrOf r.2) 0 (pairsOf vs).size) bo {s with heap:=jS s.heap a vs}:=by
   have:=IW (O:=O) (a₀:=pairsOf vs) (kI:=SortSt.mk' O.kd (vs.toArray.zip vs.toArray) #[] 7 none) (Q:=fun Y ao=>gA O (pairsOf vs) ao∧eK O (arrOf ao) 0 (pairsOf vs).size)
    ez ⟨Array.Perm.refl _,rfl,rfl⟩ rfl (fun ao b Dk=>⟨b,Dk⟩) s.toks
   exact this
  refine wpAny_bind (eG (by exact aq (.c .q .p (.n (.t .q (.k 2)) (.l (.k 2) .p))) rfl c8 af) ?_);refine wpAny_bind (wpAny_mono Dj ?_ fun Y Y e=>e);rintro⟨⟨⟩,ao⟩ s' ⟨⟨gm,rfl⟩,av,hs⟩;dsimp only at av hs ⊢;refine wpAny_bind (seqEpoch_at zS rfl ?_);refine wpAny_bind (listUpdate_at zS rfl ?_ (Nat.zero_le _) (by refine Nat.le_trans (Nat.le_of_eq ((Array.size_map ..).trans (av.size.trans (pairsOf_size _)))) ?_;exact aq (.i 1000001 (.l .p (.k 1000000)) (.i 1000000 (.l (.k 1000000) .q) (.G 999999 (.l .p (.b .q))))) rfl hlen iA));rw[av.failed];simp only[bne_self_eq_false,Bool.false_eq_true,if_false];exact wpAny_pure (fin (arrOf ao) _ av.perm hs)
noncomputable def jj{α:Type}(lt:∀Y:α,∀Y:α,Bool) (xs ys:List α):Prop:=ys.Perm xs∧ys.Pairwise fun x y=>lt y x=false
theorem I1{O:Ord prog w A s}{xs:Array Keyed}{m:Nat}(hm:xs.size=m)(h:eK O xs 0 m):xs.toList.Pairwise fun p q=>O.κ.blt (O.kf q) (O.kf p)=false:=by
 rw[List.pairwise_iff_getElem];intro i j hi aO iG;have fV:i<xs.size:=by simpa using hi
 have jK:j<xs.size:=by simpa using aO
 have:=h i j (Nat.zero_le _) (Nat.le_of_lt iG) (by exact aA (.c .r .q (.b .p .r (.t .p .q))) rfl hm jK);unfold aM at this;rw[Array.getD_eq_getD_getElem?,Array.getD_eq_getD_getElem?,Array.getElem?_eq_getElem fV,Array.getElem?_eq_getElem jK]at this;simp only[Option.getD_some]at this;exact O.le_iff.mp this
theorem QF{O:Ord prog w A s}{vs:List Value}{xs:Array Keyed}(aP:xs.Perm (pairsOf vs))(hs:eK O xs 0 (pairsOf vs).size):
 ∃out:List Value,(xs.map (·.2))=out.toArray∧out.Perm vs∧out.Pairwise fun p q=>O.κ.blt (O.kf (q,q)) (O.kf (p,p))=false:=by
 have aD:xs.toList.Perm (vs.zip vs):=by rw[←pairsOf_toList];exact Array.perm_iff_toList_perm.mp aP
 have ez:∀p,∀Y:p∈xs.toList,p.1=p.2∧p.1∈vs:=fun p iJ=>mem_zip_self (aD.mem_iff.mp iJ);have hw:=I1 aP.size_eq hs;refine⟨xs.toList.map (·.2),by simp[←Array.toList_map],?_,?_⟩
 ·have:=aD.map (·.2)
  rwa [show(vs.zip vs).map (·.2)=vs from List.map_snd_zip (Nat.le_refl _)]at this
 ·rw[List.pairwise_map];refine hw.imp_of_mem fun{p q} ae af h=>?_;have aR:(p.2,p.2)=p:=by obtain⟨a,b⟩:=p;have:=(ez _ ae).1;simp at this;rw[this]
  have aW:(q.2,q.2)=q:=by obtain⟨a,b⟩:=q;have:=(ez _ af).1;simp at this;rw[this]
  rw[aR,aW];exact h
structure sK(prog:Program)(w:World)(A:Around)(aP:Heap)(κ:KeyOrd)(kd:SortKind)(is:∀Y:Value,∀Y:κ.α,Prop):Prop where
 lt:∀{s:Shared} u v x y(Q:∀Y:Bool,∀Y:Shared,Prop),∀Y:s.heap=aP,∀Y:is u x,∀Y:is v y,∀Y:Q (κ.blt x y) s,wpAny (model prog w) A (keyLt' kd u v) Q (fun Y Y=>False) s
 uniq:∀u x y,∀Y:is u x,∀Y:is u y,x=y
noncomputable def qU{κ:KeyOrd}{kd:SortKind}{is:∀Y:Value,∀Y:κ.α,Prop} (az:Nonempty κ.α) (K:sK prog w A s.heap κ kd is):Ord prog w A s:=
 ⟨κ,kd,fun p=>@Classical.epsilon _ az (is p.1),fun p=>∃x,is p.1 x,fun p q aP bb tk Q a7=>by
   refine K.lt p.1 q.1 _ _ Q rfl (Classical.epsilon_spec aP) (Classical.epsilon_spec bb) (a7 tk)⟩
theorem Dl{κ:KeyOrd}{kd:SortKind}{is:∀Y:Value,∀Y:κ.α,Prop} (az:Nonempty κ.α) (K:sK prog w A s.heap κ kd is) {v u:Value} {x:κ.α} (ai:is v x):(qU az K).kf (v,u)=x:=
 K.uniq v _ _ (Classical.epsilon_spec ⟨x,ai⟩) ai
theorem QG{a:Addr}{vs:List Value}{n:Nat}{P:∀Y:Fin,∀Y:Shared,Prop} {κ:KeyOrd} {kd:SortKind} {is:∀Y:Value,∀Y:κ.α,Prop} (bx:s.heap.get? a=some (seqObj "list" vs.toArray n)) (hlen:vs.length≤1000000)
 (K:sK prog w A (jS s.heap a vs) κ kd is) (az:Nonempty κ.α) (ez:∀v∈vs,∃x,is v x)
 (eG:∀Y:2≤vs.length,∀{G:∀Y:SortKind,∀Y:Shared,Prop},∀Y:G kd {s with heap:=jS s.heap a vs},wpAny (model prog w) A (keyKind' vs.toArray) G bo {s with heap:=jS s.heap a vs})
 (h:∀(out:List Value) tk,∀Y:out.Perm vs,∀Y:out.Pairwise (fun u v=>∀x y,∀Y:is u x,∀Y:is v y,κ.blt y x=false),P (.done (.ret .none)) {s with heap:=sortedHeap s.heap a vs out.toArray,toks:=tk}):
 wpAny (model prog w) A (Builtin.«list.sort» ⟨[.ref a],[]⟩) P bo s:=by
 refine QE bx hlen (qU (s:={s with heap:=jS s.heap a vs}) az K) (fun p aP=>?_) eG fun xs tk aP hs=>?_
 ·rw[pairsOf_toList]at aP;obtain⟨gq,p2⟩:=p;have:=mem_zip_self aP;exact ez _ this.2
 ·refine aj ?_ (QF aP hs);intro out;refine aY ?_;intro e bb hw;rw[e];refine h out tk bb (hw.imp fun{u v} av x y ai au=>?_);have g4:κ.blt ((qU (s:={s with heap:=jS s.heap a vs}) az K).kf (v,v)) ((qU (s:={s with heap:=jS s.heap a vs}) az K).kf (u,u))=false:=av;rw[Dl az K ai,Dl az K au]at g4;exact g4
theorem QH(u v:Value):keyLt' oneType' u v=oneLt' true u v:=rfl
theorem I2{h:Heap}:sK prog w A h uq oneType' (fun v(n:Int)=>∃t,v=.int n t) where
 lt:=by
  rintro s _ _ x y Q rfl;refine aj ?_;rintro t rfl;refine aj ?_;rintro e8 rfl;intro bb;rw[QH];exact wpAny_mono (Di (F:=Q) bb) (fun Y Y z=>z) fun Y Y z=>z
 uniq:=by
  intro u x y;refine aj ?_;rintro t rfl;refine aj ?_;intro e8 e;cases e;rfl
theorem gN.uniq{h:Heap}{v:Value}{x y:List Int}(ai:gN h v x)(au:gN h v y):x=y:=by
 refine bG ?_ ai;clear ai;intro a xs n;refine aY ?_;rintro rfl bf hi;refine bG ?_ au;clear au;intro r5 ys yR;refine aY ?_;intro e pV fV;cases e
 unfold IsT at bf pV;rw[bf]at pV;cases pV;rw[←hi.nums,←fV.nums]
theorem QI{h:Heap}{f:Bool}:sK prog w A h lexOrd (qT f) (fun v(x:List Int)=>gN h v x) where
 lt:=by
  rintro s u v x y Q rfl ai au bb;exact wpAny_mono (QA (F:=Q) ai au bb) (fun Y Y z=>z) fun Y Y z=>z
 uniq:=fun Y Y Y ai au=>ai.uniq au
theorem iX.uniq{h:Heap}{v:Value}{x y:List Int}(ai:iX h v x)(au:iX h v y):x=y:=by
 refine jr ?_ ai;clear ai;intro a u n t m;refine cH ?_;rintro rfl bf rfl hi;refine jr ?_ au;clear au;intro r5 Hb yR e8 ng;refine cH ?_;rintro e pV rfl fV;cases e
 unfold IsT at bf pV;rw[bf]at pV;simp at pV;refine ar ?_ pV;clear pV;refine ar ?_;rintro _ rfl;intro _;exact hi.uniq fV
theorem QJ{h:Heap}{f:Bool}(dQ:A.units<cLine):sK prog w A h oH (qT f) (fun v(x:List Int)=>iX h v x) where
 lt:=by
  rintro s u v x y Q rfl ai au bb;exact wpAny_mono (QB (F:=Q) dQ ai au bb) (fun Y Y z=>z) fun Y Y z=>z
 uniq:=fun Y Y Y ai au=>ai.uniq au
theorem QK(v:Value):firstOfTuple' v=(do
 if(←typeOf v) != .type "tuple" then return none
 return (←Builtin.List.listItems v)[0]?):=rfl
noncomputable def wR(h:Heap)(v:Value):Prop:=∃a xs n m t r,v=.ref a∧IsT h a xs n∧xs.toList=.int m t::r
theorem QL{v:Value}{G:∀Y:Option Value,∀Y:Shared,Prop} (aN:wR s.heap v) (h:∀m t,G (some (.int m t)) s):wpAny (model prog w) A (firstOfTuple' v) G bo s:=by
 refine o0 ?_ aN;clear aN;intro a xs n m t r;refine aY ?_;rintro rfl bf e;rw[QK];refine wpAny_bind (wpAny_typeOf (T:="tuple") ⟨_,bf,rfl⟩ ?_);rw[show((Value.type "tuple" != Value.type "tuple")=false)from rfl];simp only[Bool.false_eq_true,if_false];refine wpAny_bind (listItems_at bf rfl ?_);have:xs[0]?=some (.int m t):=by rw[←Array.getElem?_toList,e];rfl
 rw[this];exact wpAny_pure (h m t)
theorem I3:∀{vs:List Value}{G:∀Y:List (Option Value),∀Y:Shared,Prop},∀Y:(∀v∈vs,wR s.heap v),∀Y:(∀us:List Value,∀Y:us.length=vs.length,∀Y:(∀u∈us,∃m t,u=.int m t),G (us.map some) s),wpAny (model prog w) A (vs.mapM firstOfTuple') G bo s
 |[],G,_,h=>by rw[List.mapM_nil];exact wpAny_pure (h [] rfl (by simp))
 |v::vs,G,aN,h=>by
  rw[List.mapM_cons];refine wpAny_bind (QL (aN v (List.mem_cons_self ..)) fun m t=>?_);refine wpAny_bind (I3 (fun u dQ=>aN u (List.mem_cons_of_mem _ dQ)) fun us aD Dm=>wpAny_pure ?_);refine h (.int m t::us) (by simp[aD]) fun u dQ=>?_;rcases List.mem_cons.mp dQ with rfl|dQ
  ·exact⟨_,_,rfl⟩
  ·exact Dm u dQ
theorem I4{vs:List Value}{G:∀Y:SortKind,∀Y:Shared,Prop} (af:2≤vs.length) (aN:∀v∈vs,wR s.heap v) (h:G (qT true) s):wpAny (model prog w) A (keyKind' vs.toArray) G bo s:=by
 rw[keyKind'_eq,List.mapM_toArray];simp only[map_eq_pure_bind,bind_assoc,pure_bind];refine wpAny_bind (I3 aN fun us aD Dm=>?_);have pT:((us.map some).toArray.all fun x=>x.isSome)=true:=by simp
 rw[if_pos pT];refine wpAny_bind (wpAny_rule ?_);have bq:((us.map some).toArray.filterMap id)=us.toArray:=by simp
 rw[bq,oneTypeOnly'_eq,List.mapM_toArray,mapM_typeOf_ints (intsAre_map us Dm)];simp only[map_pure,pure_bind]
 obtain⟨u,sJ,rfl⟩:∃u sJ,us=u::sJ:=by
  cases us with
  |nil=>simp at aD;exact(aI (.a (.k 2) .p (.i (-1) (.e .z .p) (.F 1))) rfl af aD:False).elim
  |cons u sJ=>exact⟨_,_,rfl⟩
 have QM:((List.map (fun Y=>Value.type "int") (u::sJ)).toArray.all fun x=>x==Value.type "int")=true:=by
  simp only[List.all_toArray,List.all_map,List.all_eq_true];intro _ _;rfl
 have aV:(List.map (fun Y=>Value.type "int") (u::sJ)).toArray[0]?=some (Value.type "int"):=by simp
 rw[aV];simp only[QM,if_true,pure_bind];exact wpAny_pure h
theorem gN.led{h:Heap}{v:Value}{x:List Int}(ai:gN h v x)(cP:x≠[]):wR h v:=by
 refine bG ?_ ai;clear ai;intro a xs n;refine aY ?_;rintro rfl bf hi;generalize e:xs.toList=l at hi;cases hi with
 |nil=>exact absurd rfl cP
 |cons m t r=>exact⟨a,xs,n,m,t,_,rfl,bf,e⟩
theorem iX.led{h:Heap}{v:Value}{x:List Int}(ai:iX h v x):wR h v:=by
 refine jr ?_ ai;clear ai;intro a u n t m;refine cH ?_;rintro rfl bf rfl hi;exact⟨a,_,m,_,t,_,rfl,bf,rfl⟩
end
end Mine
end
section
namespace Mine
theorem bT.all{am:List Addr}{h:Heap}{xs vs}(r:bT am h xs vs):∀v∈vs,∃x∈xs,bc am h x v:=M8 r.pr
theorem QN{out vs:List Value}(p:out.Perm vs):∀{xs:List ah},∀Y:xs.length=vs.length,∃ys,ys.Perm xs∧∀am h,∀Y:bT am h xs vs,bT am h ys out:=by
 induction p with
 |nil=>intro xs e;exact⟨xs,.refl _,fun Y Y r=>r⟩
 |cons x p ih=>
  intro xs e;cases xs with
  |nil=>cases e
  |cons a xs=>
   refine aj ?_ (ih (xs:=xs) (by simpa using e));intro ys;refine ar ?_;intro aP aC;exact⟨a::ys,aP.cons _,fun am h r=>by cases r with|cons a r=>exact .cons a (aC _ _ r)⟩
 |swap x y l=>
  intro xs e;cases xs with
  |nil=>cases e
  |cons a xs=>cases xs with
   |nil=>simp at e
   |cons b xs=>exact⟨b::a::xs,.swap ..,fun am h r=>by cases r with|cons a r=>cases r with|cons b r=>exact .cons b (.cons a r)⟩
 |trans p q pW qV=>
  intro xs e;refine aj ?_ (qV e);intro ys;refine ar ?_;intro aP aC;refine aj ?_ (pW (xs:=ys) (by rw[aP.length_eq,e,q.length_eq]));intro zs;refine ar ?_;intro iJ j5;exact⟨zs,iJ.trans aP,fun am h r=>j5 _ _ (aC _ _ r)⟩
theorem I5{α β:Type}{f:∀Y:α,β} {l ia:List β} (p:l.Perm ia):∀{zs:List α},∀Y:ia=zs.map f,∃ys:List α,l=ys.map f∧ys.Perm zs:=by
 induction p with
 |nil=>intro zs e;exact⟨[],rfl,by cases zs with|nil=>exact .refl _|cons=>cases e⟩
 |cons x p ih=>
  intro zs e;cases zs with
  |nil=>cases e
  |cons z zs=>
   refine ar ?_ (List.cons.inj e);rintro rfl aW;refine aj ?_ (ih aW);intro ys;refine ar ?_;rintro rfl aP;exact⟨z::ys,rfl,aP.cons _⟩
 |swap x y l=>
  intro zs e;cases zs with
  |nil=>cases e
  |cons z zs=>cases zs with
   |nil=>cases e
   |cons BL zs=>
    refine ar ?_ (List.cons.inj e);rintro rfl aW;refine ar ?_ (List.cons.inj aW);rintro rfl rfl;exact⟨BL::z::zs,rfl,.swap ..⟩
 |trans p q pW qV=>
  intro zs e;refine aj ?_ (qV e);intro ys;refine ar ?_;intro aW aP;refine aj ?_ (pW aW);intro QO;refine ar ?_;intro cz iJ;exact⟨QO,cz,iJ.trans aP⟩
theorem I6{am:List Addr}{h:Heap}{α:Type}{f:∀Y:α,ah} {is:∀Y:Value,∀Y:α,Prop} {R:∀Y:α,∀Y:α,Prop} (ur:∀v z,∀Y:bc am h (f z) v,is v z):
 ∀{ys:List α}{out:List Value},∀Y:bT am h (ys.map f) out,∀Y:out.Pairwise (fun u v=>∀x y,∀Y:is u x,∀Y:is v y,R x y),ys.Pairwise R
 |[],_,_,_=>.nil
 |y::ys,_,.cons a r,aP=>by
  rw[List.pairwise_cons]at aP ⊢;refine⟨fun z aT=>?_,I6 ur r aP.2⟩;obtain⟨i,hi,e⟩:=List.mem_iff_getElem.mp aT;refine aj ?_ (r.get (i:=i) (x:=f z) (by simp[hi,e]));intro v;refine ar ?_;intro aN aC;exact aP.1 v (List.mem_of_getElem? aN) _ _ (ur _ _ a) (ur _ _ aC)
variable{prog:Program}{w:World}{B:Heap}{ak:dB}{k:Nat}
noncomputable def zT(h:Heap)(vs out:List Value):Heap:=sortedHeap (h.push (seqObj "list" vs.toArray 0)) h.objs.size vs out.toArray
theorem I7{h:Heap}{vs:List Value}:∀b o,∀Y:h.get? b=some o,(jS (h.push (seqObj "list" vs.toArray 0)) h.objs.size vs).get? b=some o:=fun b o e=>by
 have bC:b<h.objs.size:=Heap.lt_size e;unfold jS;refine Heap.get?_push_of_some _ (Heap.get?_push_of_some _ ?_);rw[Heap.get?_update_ne _ _ _ _ (Nat.ne_of_lt bC)];exact Heap.get?_push_of_some _ e
theorem QP{h:Heap}{vs out:List Value}:∀b o,∀Y:h.get? b=some o,(zT h vs out).get? b=some o:=fun b o e=>by
 have bC:b<h.objs.size:=Heap.lt_size e;unfold zT sortedHeap;rw[Heap.get?_update_ne _ _ _ _ (Nat.ne_of_lt bC)];exact I7 b o e
theorem QQ{h:Heap}{vs out:List Value}:∃n,(zT h vs out).get? h.objs.size=some (seqObj "list" out.toArray n):=by
 have kr:(h.push (seqObj "list" vs.toArray 0)).get? h.objs.size=some (seqObj "list" vs.toArray 0):=Heap.get?_push_size _ rfl;have aR:=get?_update_seq kr (fun Y=>#[]);have aW:=Heap.get?_push_of_some (seqObj "list" #[] 0) (Heap.get?_push_of_some (seqObj "tuple" vs.toArray 0) aR);exact⟨_,get?_update_seq aW (fun Y=>out.toArray)⟩
theorem Dn{A:Around}{s:Shared}{am:List Addr}{st:St}{Q:∀Y:ah,∀Y:St,Prop} {x:Value} {κ:KeyOrd} {kd:SortKind} {f:∀Y:κ.α,ah} {zs₀:List κ.α} (is:∀Y:Heap,∀Y:Value,∀Y:κ.α,Prop) (az:Nonempty κ.α)
 (Dp:wpAny (model prog w) A.in1 (collect x) (fun vs ba=>∃zs:List κ.α,zs.Perm zs₀∧c9 am s am ba∧bh prog w B am ba.heap st∧bT am ba.heap (zs.map f) vs) bo s)
 (ur:∀h v z,∀Y:bc am h (f z) v,is h v z) (K:∀h,sK prog w A.in1.in1 h κ kd (is h))
 (eG:∀(s':Shared)(vs:List Value)(zs:List κ.α),∀Y:zs.Perm zs₀,∀Y:bT am s'.heap (zs.map f) vs,∀Y:2≤vs.length,∀{G:∀Y:SortKind,∀Y:Shared,Prop},∀Y:G kd s',wpAny (model prog w) A.in1.in1 (keyKind' vs.toArray) G bo s')
 (hlen:zs₀.length≤1000000) (h:∀ys,∀Y:jj κ.blt zs₀ ys,Q (.ref st.length) (st++[.list (ys.map f)])):
 wpAny (model prog w) A (call (.builtin "sorted") [x]) (dC prog w B am s Q) bo s:=by
 refine Calls.call_function_entry kind_sorted plain_sorted entry_sorted (args_sorted1 _) ?_;unfold Builtin.«sorted»;refine wpAny_bind (m:=checkCount "sorted" 1 1 _) (wpAny_pure ?_);refine wpAny_bind (wpAny_mono Dp (fun vs ba aG=>?_) fun Y Y z=>z);refine aj ?_ aG;clear aG;intro zs;refine cH ?_;intro aT bj bk r;have j7:vs.length=zs₀.length:=by rw[←r.length,List.length_map,aT.length_eq]
 have iA:1000000≤sizeLine:=by decide
 refine wpAny_bind (wpAny_newList ?_ (by exact aA (.a .r (.k 1000000) (.c .p .r (.a (.k 1000000) .q (.l .p .q)))) rfl hlen j7 iA));have wU:(ba.heap.push (seqObj "list" vs.toArray 0)).get? ba.heap.objs.size=some (seqObj "list" vs.toArray 0):=Heap.get?_push_size _ rfl;show wpAny _ _ _ _ _ {ba with heap:=ba.heap.push (seqObj "list" vs.toArray 0)};have QR:=lT (I7 (h:=ba.heap) (vs:=vs));have e7:=r.mono (List.prefix_refl am) QR;refine wpAny_bind (wpAny_holding (wpAny_call_entry slot_list_sort ⟨_,wU,rfl⟩ entry_list_sort (QG wU (by exact aq (.a .q (.k 1000000) (.c .p .q (.l .p (.k 1000000)))) rfl hlen j7) (K _) az (fun v aN=>?_) (fun af{G} iY=>eG {ba with heap:=jS (ba.heap.push (seqObj "list" vs.toArray 0)) ba.heap.objs.size vs} vs zs aT e7 af iY) (fun out tk aP hw=>⟨_,rfl,?_⟩)) (args_list_sort _)))
 ·refine aj ?_ (e7.all v aN);intro y;refine ar ?_;intro au aC;refine aj ?_ (List.mem_map.mp au);intro z;refine ar ?_;rintro _ rfl;exact⟨z,ur _ _ _ aC⟩
 ·refine wpAny_pure ⟨_,rfl,?_⟩;refine aj ?_ (QN aP r.length);intro dq;refine ar ?_;intro qW I8;refine aj ?_ (I5 qW rfl);intro ys;refine ar ?_;rintro rfl eu;have wV:ys.Pairwise (fun x y=>κ.blt y x=false):=I6 (ur _) (I8 _ _ e7) hw;refine aj ?_ (QQ (h:=ba.heap) (vs:=vs) (out:=out));intro n eQ;exact dC.over bj (BR (h':=zT ba.heap vs out) bk QP (lQ _) eQ (I8 _ _ r) (h ys ⟨eu.trans aT,wV⟩))
noncomputable def aS(ns:List Int):ah:=.tup (ns.map .int)
theorem Dq{am:List Addr}{h:Heap}{v:Value}{ns:List Int}(r:bc am h (aS ns) v):gN h v ns:=by
 cases r with
 |tup bf aC=>exact⟨_,_,_,rfl,bf,aC.ints⟩
theorem I9{A:Around}{s:Shared}{vs:List Value}{zs:List Int}{am:List Addr}(r:bT am s.heap (zs.map ah.int) vs)(af:2≤vs.length){G:∀Y:SortKind,∀Y:Shared,Prop} (iY:G oneType' s):wpAny (model prog w) A (keyKind' vs.toArray) G bo s:=by
 have hi:=r.ints
 match vs,af with
 |cN::fT::rest,_=>rw[keyKind_ints hi];exact wpAny_pure iY
theorem Dr{A:Around}{s:Shared}{am:List Addr}{st:St}{x:ah}{v:Value}{xs:List ah}{F:∀Y:List Value,∀Y:Shared,Prop} (S:bh prog w B am s.heap st) (aN:bc am s.heap x v) (e:listAt x st=some xs) (hlen:xs.length≤1000000)
 (h:∀vs ba,∀Y:c9 am s am ba,∀Y:bh prog w B am ba.heap st,∀Y:bT am ba.heap xs vs,F vs ba):wpAny (model prog w) A (collect v) F bo s:=by
 refine dF ?_ (S.listAt aN e);intro n a vs m;refine dH ?_;rintro rfl rfl hm eL aD aC;have iA:1000000≤sizeLine:=by decide
 have j7:vs.length≤1000000:=by rw[←aC.length];exact hlen
 have cv:∀b o,∀Y:s.heap.get? b=some o,((s.heap.push (seqObj "list" #[] 0)).update s.heap.objs.size (Obj.mapSeq (·++vs.toArray))).get? b=some o:=fun b o e=>by
  rw[Heap.get?_update_ne _ _ _ _ (Nat.ne_of_lt (Heap.lt_size e))];exact Heap.get?_push_of_some _ e
 exact collect_list aD.isList (h vs _ (.heap (tk:=s.toks) (.of_keeps cv)) (S.keeps cv) (aC.mono (List.prefix_refl _) (lT cv))) (by exact aq (.a (.k 1000000) .q (.a .p (.k 1000000) (.l .p .q))) rfl iA j7)
theorem QS{A:Around}{s:Shared}{am:List Addr}{st:St}{Q:∀Y:ah,∀Y:St,Prop} {x:ah} {v:Value} {ns:List Int} (S:bh prog w B am s.heap st) (aN:bc am s.heap x v) (e:listAt x st=some (ns.map .int)) (hlen:ns.length≤1000000)
 (h:∀ys,∀Y:jj uq.blt ns ys,Q (.ref st.length) (st++[.list (ys.map .int)])):wpAny (model prog w) A (call (.builtin "sorted") [v]) (dC prog w B am s Q) bo s:=
 Dn (κ:=uq) (kd:=oneType') (f:=ah.int) (zs₀:=ns) (fun Y v(n:Int)=>∃t,v=.int n t) ⟨(0:Int)⟩
  (Dr S aN e (by rw[List.length_map];exact hlen) fun vs ba bj bk r=>⟨ns,.refl _,bj,bk,r⟩)
  (fun h v z r=>by cases r;exact⟨_,rfl⟩) (fun h=>I2) (fun s' vs zs aT r af{G} iY=>I9 r af iY) hlen h
theorem QT{A:Around}{s:Shared}{am:List Addr}{st:St}{Q:∀Y:ah,∀Y:St,Prop} {x:ah} {v:Value} {ns:List (List Int)} (S:bh prog w B am s.heap st) (aN:bc am s.heap x v) (e:listAt x st=some (ns.map aS)) (hlen:ns.length≤1000000) (cP:∀r∈ns,r≠[])
 (h:∀ys,∀Y:jj gr ns ys,Q (.ref st.length) (st++[.list (ys.map aS)])):wpAny (model prog w) A (call (.builtin "sorted") [v]) (dC prog w B am s Q) bo s:=
 Dn (κ:=lexOrd) (kd:=qT true) (f:=aS) (zs₀:=ns) (fun h v(x:List Int)=>gN h v x) ⟨([]:List Int)⟩
  (Dr S aN e (by rw[List.length_map];exact hlen) fun vs ba bj bk r=>⟨ns,.refl _,bj,bk,r⟩)
  (fun h v z r=>Dq r) (fun h=>QI) (fun s' vs zs aT r af{G} iY=>I4 af (fun u dQ=>by
    refine aj ?_ (r.all u dQ);intro y;refine ar ?_;intro au aC;refine aj ?_ (List.mem_map.mp au);intro z;refine ar ?_;rintro iS rfl;exact(Dq aC).led (cP z (aT.mem_iff.mp iS))) iY) hlen h
end Mine
end
section
namespace Mine
theorem zU{xs:Array Nat}(h:il xs.toList){i j:Nat}(hi:i<xs.size)(aO:j<xs.size)(iG:i<j):xs[i]<xs[j]:=by
 have:=List.pairwise_iff_getElem.mp h i j (by simpa using hi) (by simpa using aO) iG;simpa using this
theorem go_succ{xs:Array Nat}{j fuel lo hi:Nat}:SetTable.below.go xs j (fuel+1) lo hi=if lo<hi then(if xs.getD ((lo+hi) / 2) j<j then SetTable.below.go xs j fuel ((lo+hi) / 2+1) hi else SetTable.below.go xs j fuel lo ((lo+hi) / 2))else lo:=rfl
theorem QU{xs:Array Nat}(h:il xs.toList){j fuel:Nat}:∀lo hi,∀Y:lo≤hi,∀Y:hi≤xs.size,∀Y:hi≤lo+fuel,
 ∀Y:(∀i(_:i<xs.size),∀Y:i<lo,xs[i]<j),∀Y:(∀i(_:i<xs.size),∀Y:hi≤i,j≤xs[i]),
 SetTable.below.go xs j fuel lo hi≤xs.size∧(∀i(_:i<xs.size),∀Y:i<SetTable.below.go xs j fuel lo hi,xs[i]<j)∧(∀i(_:i<xs.size),∀Y:SetTable.below.go xs j fuel lo hi≤i,j≤xs[i]):=by
 induction fuel with
 |zero=>
  intro lo hi ae af aH bX et;cases Nat.le_antisymm ae aH
  exact⟨af,bX,et⟩
 |succ fuel ih=>
  intro lo hi ae af aH bX et;rw[go_succ];by_cases aD:lo<hi
  ·rw[if_pos aD];have f3:lo≤(lo+hi) / 2:=by exact aA (.b .p .r (.b (.a .p .r) (.m 2 (.b .q)) (.G 1 (.l .p .q)))) rfl aD (Nat.lt_mul_div_succ (_+_) (by decide))
   have f5:(lo+hi) / 2<hi:=by exact aA (.b .r .q (.a (.m 2 .p) (.a .r .q) (.G 1 (.t .p .q)))) rfl aD (Nat.mul_div_le (_+_) 2)
   generalize (lo+hi) / 2=m at f3 f5 ⊢;have hm:m<xs.size:=Nat.lt_of_lt_of_le f5 af;rw[show xs.getD m j=xs[m] by simp[Array.getD,hm]];by_cases aG:xs[m]<j
   ·rw[if_pos aG];refine ih (m+1) hi f5 af (by exact bA (.a .p (.a .s (.b .r)) (.a .s .q (.l .p (.a (.b .q) .r)))) rfl aH f3) (fun i fV bC=>?_) et;rcases Nat.eq_or_lt_of_le (Nat.le_of_lt_succ bC)with e|e
    ·subst e;exact aG
    ·exact Nat.lt_trans (zU h fV hm e) aG
   ·rw[if_neg aG];refine ih lo m f3 (Nat.le_of_lt hm) (by exact bA (.a .s (.a .q (.b .r)) (.b .p .s (.l .p (.a .q .r)))) rfl aH f5) bX fun i fV d5=>?_;rcases Nat.eq_or_lt_of_le d5 with e|e
    ·subst e;exact Nat.le_of_not_lt aG
    ·exact Nat.le_trans (Nat.le_of_not_lt aG) (Nat.le_of_lt (zU h hm fV e))
  ·rw[if_neg aD];cases Nat.le_antisymm ae (Nat.le_of_not_lt aD)
   exact⟨af,bX,et⟩
theorem Ds{xs:Array Nat}(h:il xs.toList)(j:Nat):SetTable.below xs j≤xs.size∧(∀i(_:i<xs.size),∀Y:i<SetTable.below xs j,xs[i]<j)∧(∀i(_:i<xs.size),∀Y:SetTable.below xs j≤i,j≤xs[i]):=
 QU h 0 xs.size (Nat.zero_le _) (Nat.le_refl _) (Nat.le_add_left ..) (fun i Y h=>absurd h (Nat.not_lt_zero _)) fun i ae af=>absurd ae (Nat.not_lt.mpr af)
theorem QV{α:Type}(xs:Array α)(p:Nat)(x:α)(aP:p≤xs.size):(SetTable.insertAt xs p x).toList=xs.toList.take p++x::xs.toList.drop p:=by
 unfold SetTable.insertAt;simp only[Array.toList_append,Array.toList_push,Array.toList_extract,List.extract_eq_take_drop,List.drop_zero,Nat.sub_zero,List.append_assoc,List.singleton_append];have e:List.take (xs.size-p) (List.drop p xs.toList)=List.drop p xs.toList:=List.take_of_length_le (by simp);rw[e]
theorem QW{t:SetTable}{j:Nat}(h:il t.place.toList)(aO:t.place[SetTable.below t.place j]?≠some j):il (t.put j).1.place.toList:=by
 refine aY ?_ (Ds h j);intro ae af aH;have e:(t.put j).1.place=SetTable.insertAt t.place (SetTable.below t.place j) j:=rfl;rw[e,QV _ _ _ ae];unfold il;rw[List.pairwise_append,List.pairwise_cons];refine⟨List.Pairwise.sublist (List.take_sublist _ _) h,⟨fun y au=>?_,List.Pairwise.sublist (List.drop_sublist _ _) h⟩,fun x ai y au=>?_⟩
 ·obtain⟨i,hi,rfl⟩:=List.mem_iff_getElem.mp au;rw[List.getElem_drop];have c8:SetTable.below t.place j+i<t.place.size:=by simp at hi;exact yd hi
  have bX:=aH _ c8 (Nat.le_add_right _ _);simp only[Array.getElem_toList];rcases Nat.lt_or_ge j t.place[SetTable.below t.place j+i]with q|q
  ·exact q
  ·exfalso;have g8:t.place[SetTable.below t.place j+i]=j:=Nat.le_antisymm q bX;cases i with
   |zero=>
    apply aO;rw[Array.getElem?_eq_getElem (by simpa using c8)];simp only[Nat.add_zero]at g8;rw[g8]
   |succ i=>
    have fq:SetTable.below t.place j<t.place.size:=by exact aA (.b (.a .p (.b .r)) .q (.t .p .q)) rfl c8
    have kE:=zU h fq c8 (by exact aq (.t .p (.a .p (.b .q))) rfl);have qG:=aH _ fq (Nat.le_refl _);exact aA (.a .p .q (.b .r .p (.a .q .r .f))) rfl q kE qG
 ·obtain⟨i,hi,rfl⟩:=List.mem_iff_getElem.mp ai;rw[List.getElem_take];simp only[List.length_take,Array.length_toList]at hi;have zV:t.place[i]<j:=af i (by exact aA (.b .p .r (.a .r .q (.t .p .q))) rfl hi (Nat.min_le_right _ _)) (by exact aA (.b .p .r (.a .r .q (.t .p .q))) rfl hi (Nat.min_le_left _ _));simp only[Array.getElem_toList];rcases List.mem_cons.mp au with rfl|au
  ·exact zV
  ·obtain⟨k,aK,rfl⟩:=List.mem_iff_getElem.mp au;rw[List.getElem_drop];have c8:SetTable.below t.place j+k<t.place.size:=by simp at aK;exact yd aK
   have bX:=aH _ c8 (Nat.le_add_right _ _);simp only[Array.getElem_toList]
   lia
theorem QX{t:SetTable}{j:Nat}(h:t.place[SetTable.below t.place j]?=some j):∃i,t.slot j=.live i:=by
 unfold SetTable.slot;simp[h]
theorem Ja(t:SetTable)(q:SetTable.Probe):(t.advance q).dummy=q.dummy:=by
 unfold SetTable.advance;by_cases h:q.more>0
 ·rw[if_pos h]
 ·rw[if_neg h]
noncomputable def Jb(t:SetTable)(j:Nat)(d:Option Nat):Prop:=t.place[SetTable.below t.place (d.getD j)]?≠some (d.getD j)
theorem QY{t:SetTable}{hashAt:∀Y:Nat,Int} {h:Int} {fuel:Nat} {p:SetTable.Probe} (q:t.slot p.j=.empty):SetTable.probe.go t hashAt h (fuel+1) p=some (.empty p.j p.dummy):=by
 show(match t.slot p.j with|.empty=>_|.dummy=>_|.live i=>_)=_;rw[q]
theorem QZ{t:SetTable}{hashAt:∀Y:Nat,Int} {h:Int} {fuel:Nat} {p:SetTable.Probe} (q:t.slot p.j=.dummy):SetTable.probe.go t hashAt h (fuel+1) p=SetTable.probe.go t hashAt h fuel (t.advance {p with dummy:=some p.j}):=by
 show(match t.slot p.j with|.empty=>_|.dummy=>_|.live i=>_)=_;rw[q]
theorem Q0{t:SetTable}{hashAt:∀Y:Nat,Int} {h:Int} {fuel i:Nat} {p:SetTable.Probe} (q:t.slot p.j=.live i):SetTable.probe.go t hashAt h (fuel+1) p=if hashAt i==h then some (.candidate p.j i (t.advance p))else SetTable.probe.go t hashAt h fuel (t.advance p):=by
 show(match t.slot p.j with|.empty=>_|.dummy=>_|.live i=>_)=_;rw[q]
theorem Jc{t:SetTable}{j:Nat}(q:∀i,t.slot j≠.live i):t.place[SetTable.below t.place j]?≠some j:=fun aG=>(QX aG).elim q
theorem Q1(t:SetTable)(hashAt:∀Y:Nat,Int) (h:Int) {fuel:Nat} {j:Nat} {d:Option Nat}:∀{p:SetTable.Probe},∀Y:(∀k,∀Y:p.dummy=some k,t.place[SetTable.below t.place k]?≠some k),
 ∀Y:SetTable.probe.go t hashAt h fuel p=some (.empty j d),Jb t j d:=by
 induction fuel with
 |zero=>intro p _ e;exact gh e
 |succ fuel ih=>
  intro p hd e;cases q:t.slot p.j with
  |empty=>
   cases(QY q).symm.trans e
   unfold Jb;cases wd:p.dummy with
   |none=>exact Jc fun i hi=>by cases q.symm.trans hi
   |some k=>exact hd k wd
  |dummy=>
   refine ih (fun k aK=>?_) ((QZ q).symm.trans e);cases(Ja t _).symm.trans aK
   exact Jc fun i hi=>by cases q.symm.trans hi
  |live i=>
   have e:=(Q0 q).symm.trans e;by_cases bR:(hashAt i==h)=true
   ·cases(if_pos bR).symm.trans e
   ·exact ih (fun k aK=>hd k ((Ja t p).symm.trans aK)) ((if_neg bR).symm.trans e)
set_option tactic.hygienic true in
theorem Q2{t:SetTable}{h:Int}{j:Nat}{b:Bool}(e:t.freeSlot h=some (j,b)):t.place[SetTable.below t.place j]?≠some j:=by
 unfold SetTable.freeSlot at e;cases aP:t.probe (fun Y=>h+1) h (t.probeStart h)with
 |none=>rw[aP]at e;cases e
 |some r=>
  rw[aP]at e;cases r with
  |empty Jd d=>
   cases e
   exact Q1 t _ h (fun k aK=>by cases aK) aP
  |_=>cases e
theorem Q3(n:Nat):il (Array.range n).toList:=by
 unfold il;rw[Array.toList_range];exact List.pairwise_lt_range
theorem zW(t:SetTable)(n:Nat):il (t.standIn n).place.toList∧(t.standIn n).led=t.led:=⟨Q3 n,rfl⟩
theorem Q4{t:SetTable}{n:Nat}(h:il t.place.toList):il (t.orStandIn n).place.toList∧(t.orStandIn n).led=t.led:=by
 unfold SetTable.orStandIn;by_cases bq:t.fits n=true
 ·rw[if_pos bq];exact⟨h,rfl⟩
 ·rw[if_neg bq];exact zW t n
set_option tactic.hygienic true in
theorem Q5{t:SetTable}(h:il t.place.toList)(a9:Array (Int×Value))(bR:Int)(x:Value):il (layNew t a9 bR x).2.1.place.toList∧(layNew t a9 bR x).2.1.led=t.led:=by
 unfold layNew;cases e:t.freeSlot bR with
 |none=>exact zW t _
 |some q=>exact Q4 (t:=(t.put q.1).1) (QW h (Q2 (j:=q.1) (b:=q.2) e))
theorem Q6(f:∀Y:Nat,Option Nat) (l:List Nat):((l.filterMap fun j=>(f j).map (j,·)).map (·.1)).Sublist l:=by
 induction l with
 |nil=>exact .slnil
 |cons x l ih=>
  cases e:f x with
  |none=>rw[List.filterMap_cons_none (by rw[e];rfl)];exact ih.cons _
  |some y=>rw[List.filterMap_cons_some (b:=(x,y)) (by rw[e];rfl)];exact ih.cons_cons _
theorem Q7{mask finger moves:Nat}{led plain:Bool}{hs:Array Int}{t:SetTable}{o:Array Nat}(e:SetTable.laid mask finger moves led plain hs=some (t,o)):il t.place.toList∧t.led=led:=by
 unfold SetTable.laid at e;cases q:SetTable.layClean mask hs with
 |none=>rw[q]at e;cases e
 |some owner=>
  rw[q]at e;cases e
  refine⟨?_,rfl⟩;exact List.Pairwise.sublist (Q6 (fun j=>owner.getD j none) (List.range (mask+1))) List.pairwise_lt_range
set_option tactic.hygienic true in
theorem Q8{t:SetTable}(a9:Array (Int×Value))(n:Nat):il (relayAll t a9 n).2.1.place.toList∧(relayAll t a9 n).2.1.led=t.led:=by
 unfold relayAll;cases e:t.relaid (a9.map (·.1)) n with
 |none=>exact zW t _
 |some q=>
  by_cases aG:(coversAll q.2 a9.size&&q.1.fits (q.2.filterMap (a9[·]?)).size)=true
  ·have:=Q7 (t:=q.1) (o:=q.2) e;dsimp only;rw[if_pos aG];exact this
  ·dsimp only;rw[if_neg aG];exact zW t _
end Mine
end
section
namespace Mine
theorem Dt:Slot "set_iterator" "__next__" "set_iterator.__next__":=
 .of (owner:="set_iterator") (n:="__next__") (by rw[typeLookup_type,builtinLookup_eq_fast];kernel_rfl) (by decide+kernel) (by decide+kernel) (by decide+kernel)
   (by first|exact .inl (by decide+kernel)|exact .inr (by decide+kernel)) (by rw[isSubtype_type];kernel_rfl)
theorem Q9:entryFor table "set_iterator.__next__"=some Builtin.«set_iterator.__next__»:=entryFor_of_fast (by kernel_rfl)
theorem Ra(a:Value):argsOk "set_iterator.__next__" ⟨[a],[]⟩:=by unfold argsOk;kernel_rfl
theorem Rb:entryFor table "set.__iter__"=some Builtin.«frozenset.__iter__»:=
 entryFor_alias (id':="frozenset.__iter__") (by kernel_rfl) rfl (by decide+kernel) (by kernel_rfl)
theorem Je{α:Type}{l:List α}:∀{i:Nat}(h:i<l.length),(l[i]::l.eraseIdx i).Perm l:=by
 induction l with
 |nil=>exact fun h=>absurd h (Nat.not_lt_zero _)
 |cons x l ih=>
  intro i h;cases i with
  |zero=>exact .refl _
  |succ i=>
   rw[List.getElem_cons_succ,List.eraseIdx_cons_succ];exact(List.Perm.swap ..).trans ((ih (Nat.lt_of_succ_lt_succ h)).cons _)
section
variable{prog:Program}{w:World}{A:Around}{E:∀Y:Value,∀Y:Shared,Prop} {s:Shared}
theorem Rc{src:Source}{n:Nat}{Q:∀Y:Nat,∀Y:Shared,Prop} (az:n≠0) (h:∀i d,∀Y:i<n,Q i {s with drawn:=d}):wpAny (model prog w) A (choose src n) Q E s:=by
 intro XB p XC;unfold choose;rw[Sem.wp_choose];exact⟨az,h _ _ (Nat.mod_lt _ (Nat.pos_of_ne_zero az))⟩
theorem Rd{α:Type}(n:Nat):∀(xs:List α){s:Shared}{Q:∀Y:List α,∀Y:Shared,Prop},∀Y:xs.length≤n,∀Y:(∀ys d,∀Y:ys.Perm xs,Q ys {s with drawn:=d}),wpAny (model prog w) A (drawOrder n xs) Q E s:=by
 induction n with
 |zero=>
  intro xs s Q aD h;cases List.length_eq_zero_iff.mp (Nat.le_zero.mp aD)
  exact wpAny_pure (h [] s.drawn (.refl _))
 |succ n ih=>
  intro xs s Q aD h;cases xs with
  |nil=>exact wpAny_pure (h [] s.drawn (.refl _))
  |cons x xs=>
   show wpAny _ A (choose .order (x::xs).length>>=_) Q E s;refine wpAny_bind (Rc (Nat.succ_ne_zero _) fun i d hi=>?_);rw[List.getElem?_eq_getElem hi];refine wpAny_bind (ih ((x::xs).eraseIdx i) (by rw[List.length_eraseIdx_of_lt hi];exact Nat.le_of_succ_le_succ aD) fun ys o7 aP=>wpAny_pure ?_);exact h ((x::xs)[i]::ys) o7 ((aP.cons _).trans (Je hi))
theorem Rf{α:Type}{next:∀Y:Nat,Nat} {fuel k:Nat} {left:List α} {out:Array α} (e:left[next k % left.length]?=none):pickOrder.go next (fuel+1) k left out=out:=by
 rw[pickOrder.go.eq_2,e]
theorem Rg{α:Type}{next:∀Y:Nat,Nat} {fuel k:Nat} {left:List α} {out:Array α} {x:α} (e:left[next k % left.length]?=some x):pickOrder.go next (fuel+1) k left out=pickOrder.go next fuel (k+1) (left.eraseIdx (next k % left.length)) (out.push x):=by
 rw[pickOrder.go.eq_2,e]
set_option tactic.hygienic true in
theorem Rh{α:Type}(next:∀Y:Nat,Nat) (fuel:Nat):∀k(left:List α)(out:Array α),∀Y:left.length≤fuel,(pickOrder.go next fuel k left out).toList.Perm (out.toList++left):=by
 induction fuel with
 |zero=>
  intro k left out h;cases List.length_eq_zero_iff.mp (Nat.le_zero.mp h)
  rw[List.append_nil];exact .refl _
 |succ fuel ih=>
  intro k left out h;cases e:left[next k % left.length]? with
  |none=>
   rw[Rf e];cases left with
   |nil=>rw[List.append_nil]
   |cons x l=>exact absurd (Nat.mod_lt _ (Nat.succ_pos _)) (Nat.not_lt.mpr (List.getElem?_eq_none_iff.mp e))
  |some x=>
   rw[Rg e];have q:=List.getElem?_eq_some_iff.mp e;refine(ih (k+1) _ _ (by rw[List.length_eraseIdx_of_lt q.1];exact Nat.le_trans (Nat.sub_le_sub_right h 1) (Nat.le_refl _))).trans ?_;rw[Array.toList_push,List.append_assoc,←q.2];exact List.Perm.append_left _ (Je q.1)
theorem Ri{α:Type}(next:∀Y:Nat,Nat) (xs:Array α):(pickOrder next xs).toList.Perm xs.toList:=by
 have:=Rh next xs.size 0 xs.toList #[] (by simp)
 simpa [pickOrder]using this
theorem zX{Q:∀Y:Bool,∀Y:Shared,Prop} (h:Q (w.params.followText "set-order") s):wpAny (model prog w) A setsByText Q E s:=by
 unfold setsByText;exact wpAny_bind (wpAny_askSetting (wpAny_pure h))
structure wW(prog:Program)(w:World)(A:Around)(S I:Addr)(St:∀Y:List Int,∀Y:Heap,Prop):Prop where
 ne:I≠S
 frame:∀rest h h',∀Y:(∀b o,∀Y:b≠S,∀Y:h.get? b=some o,h'.get? b=some o),∀Y:St rest h,St rest h'
 item:∀rest(s:Shared),∀Y:St rest s.heap,wpAny (model prog w) A (pyNext (.ref I)) (fun lY s'=>(∃h' tk,s'={s with heap:=h',toks:=tk})∧(∀b o,∀Y:b≠I,∀Y:s.heap.get? b=some o,s'.heap.get? b=some o)∧
  match lY with|none=>rest=[]|some v=>∃n t uu,v=.int n t∧rest=n::uu∧St uu s'.heap) (fun Y Y=>False) s
theorem Rj{I S:Addr}{St:∀Y:List Int,∀Y:Heap,Prop} (W:wW prog w A.in1 S I St) (res:Value):∀(rest:List Int){s:Shared}{R:∀Y:Result,∀Y:Shared,Prop} (ns:List Int) (acc:Array Value) (c:Nat),∀Y:St rest s.heap,∀Y:s.heap.get? S=some (seqObj "list" acc c),∀Y:IntsAre acc.toList ns,∀Y:ns.length+rest.length≤1000000,
 ∀Y:(∀h' tk uv iw,∀Y:(∀b o,∀Y:b≠S,∀Y:b≠I,∀Y:s.heap.get? b=some o,h'.get? b=some o),∀Y:h'.get? S=some (seqObj "list" uv iw),∀Y:IntsAre uv.toList (ns++rest),R (.ok (.ret res)) {s with heap:=h',toks:=tk}),
 codeAny (model prog w) A (.builtin "list.extend.loop" ⟨[.ref S,.ref I,res],[]⟩) R s:=by
 intro rest
 induction rest with
 |nil=>
  intro s R ns acc c eL dc uw hlen fe;refine codeAny_builtin PySem.F.entry_extend_loop ?_;rw[Around.under_plainId PySem.F.plain_extend_loop _];show wpAny _ A.in1 (pyNext (.ref I)>>=_) _ _ s;refine wpAny_bind (wpAny_mono (W.item [] s eL) (fun lY s' bb=>?_) fun Y Y z=>z.elim);refine aY ?_ bb;clear bb;refine bZ ?_;rintro h' tk rfl;intro cv hm;cases lY with
  |some v=>refine bG ?_ hm;clear hm;intro _ _ _;refine aY ?_;intro _ e _;cases e
  |none=>exact wpAny_pure (fe h' tk acc c (fun b o Y av e=>cv b o av e) (cv _ _ (Ne.symm W.ne) dc) (by simpa using uw))
 |cons n rest ih=>
  intro s R ns acc c eL dc uw hlen fe;refine codeAny_builtin PySem.F.entry_extend_loop ?_;rw[Around.under_plainId PySem.F.plain_extend_loop _];show wpAny _ A.in1 (pyNext (.ref I)>>=_) _ _ s;refine wpAny_bind (wpAny_mono (W.item _ s eL) (fun lY s' bb=>?_) fun Y Y z=>z.elim);refine aY ?_ bb;clear bb;refine bZ ?_;rintro h' tk rfl;intro cv hm;cases lY with
  |none=>cases hm
  |some v=>
   refine bG ?_ hm;clear hm;intro m t uu;refine aY ?_;rintro rfl e Rk;cases e
   have wX:=cv _ _ (Ne.symm W.ne) dc;show wpAny _ A.in1 (updateSeq S (·.push (Value.int n t))>>=_) _ _ _;have c8:acc.size=ns.length:=by have:=uw.length;rw[Array.length_toList]at this;exact Bp this
   have iA:1000000≤sizeLine:=by decide
   simp only[List.length_cons]at hlen;refine wpAny_bind (wpAny_updateSeq wX rfl (wpAny_pure ⟨plainId_quiet PySem.F.plain_extend_loop _,?_⟩) (by exact bA (.i 1000000 (.l (.a .r (.b .s)) (.k 1000000)) (.i 1000000 (.e .p .r) (.i 999999 (.l (.k 1000000) .q) (.G 999999 (.l .p .q))))) rfl hlen c8 iA) (by show(acc.push _).size≤sizeLine+1;rw[Array.size_push];exact bA (.i 1000000 (.l (.a .r (.b .s)) (.k 1000000)) (.i 1000000 (.e .p .r) (.i 999999 (.l (.k 1000000) .q) (.G 999999 (.l (.b .p) (.b .q)))))) rfl hlen c8 iA));have zY:∀b o,∀Y:b≠S,∀Y:h'.get? b=some o,(h'.update S (Obj.mapSeq (·.push (Value.int n t)))).get? b=some o:=fun b o av e=>by rw[Heap.get?_update_ne _ _ _ _ av];exact e
   refine ih (ns++[n]) (acc.push (.int n t)) _ (W.frame _ _ _ zY Rk) (get?_update_seq wX _) ?_ (by simp;exact aq (.a (.a .p (.b .q)) (.k 1000000) (.l (.a (.b .p) .q) (.k 1000000))) rfl hlen) fun nW gm uv iw iU ux Rl=>?_
   ·rw[Array.toList_push];exact IntsAre.append uw (.cons _ _ .nil)
   ·exact fe nW gm uv iw (fun b o av Du e=>iU b o av Du (zY b o av (cv b o Du e))) ux (by simpa using Rl)
end
end Mine
end
section
namespace Mine
section
variable{prog:Program}{w:World}{A:Around}{E:∀Y:Value,∀Y:Shared,Prop} {s:Shared}
theorem Jf{a:Addr}{T id:String}{ns:List Int}{Q:∀Y:List Value,∀Y:Shared,Prop} (ck:s.TypeIs (.ref a) T) (ae:(Value.type T==Value.type "list")=false) (af:(Value.type T==Value.type "tuple")=false) (hlen:ns.length≤1000000)
 (Rm:∀{s':Shared}{F:∀Y:Bool,∀Y:Shared,Prop},∀Y:s'.TypeIs (.ref a) T,∀Y:F false s',wpAny (model prog w) A.in1 (Builtin.List.listLengthHint (.ref a)) F bo s')
 (cF:∀{S:Addr}{ba:Shared}{F:∀Y:Value,∀Y:Shared,Prop},∀Y:(∃h',ba={s with heap:=h'}),∀Y:(∀b o,∀Y:s.heap.get? b=some o,ba.heap.get? b=some o),∀Y:s.heap.get? S=none,∀Y:(∃o,ba.heap.get? S=some o),
   ∀Y:(∀I St rest h' tk d,∀Y:(∀b o,∀Y:ba.heap.get? b=some o,h'.get? b=some o),∀Y:s.heap.get? I=none,∀Y:wW prog w A.in1 S I St,∀Y:St rest h',∀Y:rest.Perm ns,F (.ref I) {ba with heap:=h',toks:=tk,drawn:=d}),wpAny (model prog w) A.in1 (pyIter (.ref a)) F bo ba)
 (h:∀vs h' tk d rest,∀Y:(∀b o,∀Y:s.heap.get? b=some o,h'.get? b=some o),∀Y:rest.Perm ns,∀Y:IntsAre vs rest,Q vs {s with heap:=h',toks:=tk,drawn:=d})
 (zZ:(["set","frozenset","dict","dict_keys","dict_values","dict_items"].any (Value.type T==.type ·))=true):
 wpAny (model prog w) A (collect (.ref a)) Q bo s:=by
 unfold collect;refine wpAny_bind (wpAny_runValue (codeAny_builtin PySem.F.entry_proto_collect ?_));rw[Around.under_plainId PySem.F.plain_proto_collect _];show wpAny _ A.in1 (newList []>>=fun l=>again (.builtin "list.__iadd__" ⟨[l,.ref a],[]⟩)) _ _ s;refine wpAny_bind (wpAny_newObj_type ?_ (Nat.zero_le _));refine wpAny_pure ⟨plainId_quiet PySem.F.plain_list_iadd _,codeAny_builtin PySem.F.entry_list_iadd ?_⟩;rw[Around.under_plainId PySem.F.plain_list_iadd _];show wpAny _ A.in1 (Builtin.List.listExtendWith (.ref s.heap.objs.size) (.ref a) (.ref s.heap.objs.size)) _ _ {s with heap:=s.heap.push (seqObj "list" #[] 0)};have cT:∀b o,∀Y:s.heap.get? b=some o,(s.heap.push (seqObj "list" #[] 0)).get? b=some o:=fun b o e=>Heap.get?_push_of_some _ e
 have Dv:Shared.TypeIs {s with heap:=s.heap.push (seqObj "list" #[] 0)} (.ref a) T:=by
  refine aj ?_ ck;clear ck;intro o;refine ar ?_;intro bx aG;exact⟨o,cT _ _ bx,aG⟩
 have cP:a≠s.heap.objs.size:=by
  refine aj ?_ ck;clear ck;intro o;refine ar ?_;intro bx aG;exact Nat.ne_of_lt (Heap.lt_size bx)
 have Jg:(s.heap.push (seqObj "list" #[] 0)).get? s.heap.objs.size=some (seqObj "list" #[] 0):=Heap.get?_push_size _ rfl;unfold Builtin.List.listExtendWith;refine wpAny_bind (wpAny_typeOf Dv ?_);have aV:Builtin.List.listSameRef (.ref s.heap.objs.size) (.ref a)=false:=decide_eq_false fun e=>cP e.symm;rw[aV,ae,af,if_neg (by decide)];refine wpAny_bind (never (cF (S:=s.heap.objs.size) ⟨_,rfl⟩ cT (lQ _) ⟨_,Jg⟩ fun I St rest h' tk d eU bE W eL aP=>?_))
 have Rn:Shared.TypeIs {s with heap:=h',toks:=tk,drawn:=d} (.ref a) T:=by
  refine aj ?_ Dv;clear Dv;intro o;refine ar ?_;intro bx aG;exact⟨o,eU _ _ bx,aG⟩
 refine wpAny_bind (wpAny_holding (never (Rm Rn ?_)));have uy:=eU _ _ Jg;have aK:∀{F:∀Y:Fin,∀Y:Shared,Prop} {dw:Shared} (b:Bool) {m:Sem Unit} {r:Sem Fin},∀Y:b=true,∀Y:wpAny (model prog w) A.in1 (m>>=fun Y=>r) F bo dw,wpAny (model prog w) A.in1 (if b=true then m>>=fun Y=>r else r) F bo dw:=by intro F dw b m r av hw;rw[if_pos av];exact hw
 refine aK _ (m:=rule "list.extend.makes-room">>=fun Y=>Builtin.List.listTouch (.ref s.heap.objs.size)) zZ ?_;refine wpAny_bind (wpAny_bind (wpAny_rule ?_));show wpAny _ A.in1 (updateSeq s.heap.objs.size (·.push .none)>>=fun Y=>updateSeq s.heap.objs.size (·.pop)) _ _ _;refine wpAny_bind (wpAny_updateSeq uy rfl ?_ (Nat.zero_le _) (by show(1:Nat)≤sizeLine+1;exact aI (.l .o (.b .p)) rfl));have ux:=get?_update_seq uy (·.push Value.none);refine wpAny_updateSeq ux rfl ?_ (by show(1:Nat)≤sizeLine;decide) (Nat.zero_le _);have Ro:=get?_update_seq ux (·.pop)
 have iU:∀b o,∀Y:b≠s.heap.objs.size,∀Y:h'.get? b=some o,((h'.update s.heap.objs.size (Obj.mapSeq (·.push Value.none))).update s.heap.objs.size (Obj.mapSeq (·.pop))).get? b=some o:=fun b o av e=>by
  rw[Heap.get?_update_ne _ _ _ _ av,Heap.get?_update_ne _ _ _ _ av];exact e
 refine wpAny_pure ⟨plainId_quiet PySem.F.plain_extend_loop _,Rj W _ rest [] #[] _ (W.frame _ _ _ iU eL) Ro .nil (by rw[aP.length_eq];simpa using hlen) fun nW gm uv iw mi Rp uw=>?_⟩;show wpAny _ A (load s.heap.objs.size>>=_) _ _ _;refine wpAny_bind (wpAny_load Rp ?_);refine wpAny_pure (h uv.toList nW gm d rest (fun b o e=>?_) aP (by simpa using uw));have av:b≠s.heap.objs.size:=Nat.ne_of_lt (Heap.lt_size e);have Rq:b≠I:=fun q=>by rw[q,bE]at e;cases e
 exact mi b o av Rq (iU b o av (eU b o (cT b o e)))
theorem Rr{a:Addr}{F:∀Y:Bool,∀Y:Shared,Prop} (ck:s.TypeIs (.ref a) "dict") (h:F false s):wpAny (model prog w) A (Builtin.List.listLengthHint (.ref a)) F bo s:=by
 unfold Builtin.List.listLengthHint;refine wpAny_bind (wpAny_specialOf (name:=Str.ofString "__len__") ck PySem.F.slot_dict_len.lookup ?_);have e:splitId "dict.__len__"=some ("dict","__len__"):=by kernel_rfl
 dsimp only;rw[e];dsimp only;refine wpAny_bind (wpAny_isInstance ck (b:=true) (by rw[isSubtype_type];kernel_rfl) ?_);rw[if_neg (by decide)];rw[if_pos (by decide+kernel)];exact wpAny_bind (wpAny_typeOf ck (wpAny_pure h))
theorem Rt{a:Addr}{F:∀Y:Bool,∀Y:Shared,Prop} (ck:s.TypeIs (.ref a) "set") (h:F false s):wpAny (model prog w) A (Builtin.List.listLengthHint (.ref a)) F bo s:=by
 unfold Builtin.List.listLengthHint;refine wpAny_bind (wpAny_specialOf (name:=Str.ofString "__len__") ck PySem.F.slot_set_len.lookup ?_);have e:splitId "set.__len__"=some ("set","__len__"):=by kernel_rfl
 dsimp only;rw[e];dsimp only;refine wpAny_bind (wpAny_isInstance ck (b:=true) (by rw[isSubtype_type];kernel_rfl) ?_);rw[if_neg (by decide)];rw[if_pos (by decide+kernel)];exact wpAny_bind (wpAny_typeOf ck (wpAny_pure h))
theorem Ru{S I d:Addr}{kvs:List (Int×Value)}{ep:Nat}(bR:A.handled=none)(bE:I≠S)(hd:d≠S)(cP:d≠I):
 wW prog w A S I (fun rest h=>∃i,rest=(kvs.map (·.1)).drop i∧i≤kvs.length∧h.IsKeyIter I d i kvs.length ep∧h.DictAt (intKind prog w) d kvs ep) where
 ne:=bE
 frame:=by
  intro rest h h' k;refine aj ?_;intro i;refine cH ?_;intro e hi ae af;exact⟨i,e,hi,ae.at fun o q=>k _ _ bE q,af.at' fun o q=>k _ _ hd q⟩
 item:=by
  intro rest s;refine aj ?_;intro i;refine cH ?_;rintro rfl hi ae af;by_cases bC:i<kvs.length
  ·obtain⟨⟨k,x⟩,ai⟩:∃p,kvs[i]?=some p:=⟨kvs[i],by simp[bC]⟩;refine wpAny_pyNext_dict_item ae af ai fun key h' uz jL eg=>?_;refine aj ?_ (Value.isInt_shape uz);rintro t rfl;refine⟨⟨h',s.toks,rfl⟩,fun b o av e=>eg.extBut b o av e,k,t,_,rfl,?_,i+1,rfl,bC,jL,af.extBut eg.extBut cP⟩;have kr:(kvs.map (·.1))[i]?=some k:=by simp[ai]
   refine aj ?_ (List.getElem?_eq_some_iff.mp kr);intro fV aR;rw[List.drop_eq_getElem_cons fV,aR]
  ·have:i=kvs.length:=by exact Nat.le_antisymm (aq (.a .p .q (.l .p .q)) rfl hi) (aq (.n (.t .q .p) (.l .p .q)) rfl bC)
   subst this;refine wpAny_pyNext_dict_end bR ae af (by simp) fun h' pB=>?_;exact⟨⟨h',s.toks,rfl⟩,fun b o av e=>pB b o av e,by simp⟩
end
end Mine
end
section
namespace Mine
section
variable{prog:Program}{w:World}{A:Around}{s:Shared}
theorem ite_tt{α:Type}{b:Bool}{x y:Sem α}{F:∀Y:α,∀Y:Shared,Prop} {E:∀Y:Value,∀Y:Shared,Prop} (av:b=true) (h:wpAny (model prog w) A x F E s):wpAny (model prog w) A (if b=true then x else y) F E s:=by rw[if_pos av];exact h
theorem ite_ff{α:Type}{b:Bool}{x y:Sem α}{F:∀Y:α,∀Y:Shared,Prop} {E:∀Y:Value,∀Y:Shared,Prop} (av:b=false) (h:wpAny (model prog w) A y F E s):wpAny (model prog w) A (if b=true then x else y) F E s:=by rw[if_neg (by rw[av];exact Bool.false_ne_true)];exact h
noncomputable abbrev kJ(a9:Array (Int×Value))(ep:Nat)(t:SetTable):Obj:=⟨.type "set",none,.set a9 ep t,#[]⟩
noncomputable abbrev lz(first:Value)(i:Nat)(a:Addr)(n ep:Nat):Obj:={cls:=.type "set_iterator",data:=.fields #[first,.int i 0,.ref a,.int n 0,.int ep 0]}
inductive Mode(w:World)(h:Heap)(S I a:Addr)(a9:Array (Int×Value))(ep:Nat)(t:SetTable)(ns:List Int):∀Y:Value,∀Y:List Int,∀Y:Nat,Prop
 |text {sl:Int} {u:Tok} {ms:List Int} {i:Nat}:∀Y:w.params.followText "set-order"=true,∀Y:IntsAre (((pickOrder (w.params.setOrder a ep) a9).toList).map (·.2)) ms,Mode w h S I a a9 ep t ns (.int sl u) ms i
 |draw {P m:Nat} {items:Array Value} {idx:List Nat} {i:Nat}:∀Y:w.params.followText "set-order"=false,∀Y:P≠S,∀Y:P≠I,∀Y:IsT h P items m,∀Y:items.toList=idx.map (fun(j:Nat)=>rawInt j),∀Y:idx.Perm (List.range ns.length),
   Mode w h S I a a9 ep t ns (.ref P) (idx.map fun j=>ns.getD j 0) i
 |plain {sl:Nat} {u:Tok} {i:Nat}:∀Y:w.params.followText "set-order"=false,∀Y:(!t.plain&&decide (a9.size>1))=false,∀Y:SetTable.below t.place sl=i,Mode w h S I a a9 ep t ns (.int sl u) ns i
structure Dw(w:World)(S I a:Addr)(a9:Array (Int×Value))(ep:Nat)(t:SetTable)(ns:List Int)(rest:List Int)(h:Heap):Prop where
 bO:h.get? a=some (kJ a9 ep t)
 go:∃first ms i,h.get? I=some (lz first i a a9.size ep)∧rest=ms.drop i∧i≤ms.length∧ms.Perm ns∧Mode w h S I a a9 ep t ns first ms i
theorem Mode.frame{h h':Heap}{S I a:Addr}{a9:Array (Int×Value)}{ep:Nat}{t:SetTable}{ns:List Int}{first:Value}{ms:List Int}{i:Nat}(k:∀b o,∀Y:b≠S,∀Y:b≠I,∀Y:h.get? b=some o,h'.get? b=some o):
 ∀Y:Mode w h S I a a9 ep t ns first ms i,Mode w h' S I a a9 ep t ns first ms i
 |.text e r=>.text e r
 |.draw e ae af bf r p=>.draw e ae af (k _ _ ae af bf) r p
 |.plain e b q=>.plain e b q
theorem z0{a9:Array (Int×Value)}{ns:List Int}(hi:IntsAre (a9.toList.map (·.2)) ns){i:Nat}(h:i<ns.length):∃k t,a9[i]?=some (k,.int ns[i] t):=by
 refine aj ?_ (hi.int_at i (((a9.toList.map (·.2))[i]?).getD .none) (by
  have:i<(a9.toList.map (·.2)).length:=by rw[hi.length];exact h
  rw[List.getElem?_eq_getElem this];rfl));intro t bf
 have aD:i<a9.size:=by have:=hi.length;simp at this;exact aA (.b .p .r (.i (-1) (.e .q .r) (.t .p .q))) rfl h this
 refine⟨a9[i].1,t,?_⟩;rw[Array.getElem?_eq_getElem aD];simp[aD,List.getD,h]at bf;rw[←bf]
theorem z3{h:Heap}{I a:Addr}{first:Value}{i n ep:Nat}(cF:h.get? I=some (lz first i a n ep))(j:Nat)(v:Value):
 (h.update I (Obj.mapFields (·.setIfInBounds j v))).get? I=some {cls:=.type "set_iterator",data:=.fields ((#[first,.int i 0,.ref a,.int n 0,.int ep 0]:Array Value).setIfInBounds j v)}:=
 Heap.get?_update_self _ cF rfl
theorem Rv{xs:Array Nat}(h:il xs.toList){i:Nat}(hi:i<xs.size):SetTable.below xs (xs[i]+1)=i+1:=by
 refine aY ?_ (Ds h (xs[i]+1));intro ae af aH;have g1:¬SetTable.below xs (xs[i]+1)≤i:=fun q=>by have:=aH i hi q;exact aI (.a (.b .p) .p .f) rfl this
 have g2:¬i+1<SetTable.below xs (xs[i]+1):=fun q=>by
  have hs:i+1<xs.size:=by exact aA (.a .r .q (.b (.b .p) .r (.t (.b .p) .q))) rfl ae q
  have:=af (i+1) hs q;have:=zU h hi hs (Nat.lt_succ_self i);exact aq (.b .p (.b .q) (.b .q .p .f)) rfl (by assumption) this
 exact Nat.le_antisymm (aq (.n (.t (.b .q) .p) (.l .p (.b .q))) rfl g2) (aq (.n (.l .q .p) (.l (.b .p) .q)) rfl g1)
theorem Jh{A:Around}{s:Shared}{F:∀Y:Fin,∀Y:Shared,Prop} {E:∀Y:Value,∀Y:Shared,Prop} (bR:A.handled=none) (h:∀e h',∀Y:(∀b o,∀Y:s.heap.get? b=some o,h'.get? b=some o),∀Y:Shared.TypeIs {s with heap:=h'} e "StopIteration",E e {s with heap:=h'}):
 wpAny (model prog w) A (newExc (.type "StopIteration") []>>=fun e=>raiseNew e) F E s:=by
 refine wpAny_bind ?_;simp only[newExc,newTuple];refine wpAny_bind (wpAny_newObj_type ?_ (Nat.zero_le _));refine wpAny_bind (m:=firstArgMember _ _) (wpAny_of_eq (a:=Value.none) (by first|rfl|(simp only[firstArgMember];rfl)) ?_);refine wpAny_newObj_type ?_ (by size_fits);refine wpAny_bind (m:=handled) (wpAny_handled ?_);rw[bR];refine wpAny_bind (wpAny_pure (wpAny_throw ?_));refine h _ _ (fun b o e=>Heap.get?_push_of_some _ (Heap.get?_push_of_some _ e)) ?_;exact⟨_,Heap.get?_push_size _ rfl,rfl⟩
noncomputable abbrev fld(h:Heap)(I:Addr)(j:Nat)(v:Value):Heap:=h.update I (Obj.mapFields (·.setIfInBounds j v))
section
variable{A:Around}{s:Shared}{I a:Addr}{a9:Array (Int×Value)}{ep i:Nat}{t:SetTable}
theorem Ji{slot:Nat}{G:∀Y:Option (Value×Nat),∀Y:Shared,Prop} {E:∀Y:Value,∀Y:Shared,Prop} (bO:s.heap.get? a=some (kJ a9 ep t)) (bq:t.fits a9.size=true) (jk:w.params.followText "set-order"=true)
 (h:G ((pickOrder (w.params.setOrder a ep) a9)[i]?.map fun e=>(e.2,slot)) s):wpAny (model prog w) A (setNext a slot i ep) G E s:=by
 unfold setNext;refine wpAny_bind (wpAny_setState_of bO rfl bq ?_);refine wpAny_bind (zX (ite_tt jk (ite_ff (by simp) ?_)));unfold setWalk;refine wpAny_bind (wpAny_bind (wpAny_setState_of bO rfl bq ?_));exact wpAny_bind (zX (ite_tt jk (wpAny_bind (wpAny_askSetting (wpAny_pure (wpAny_pure h))))))
theorem Jj{slot:Nat}{r:Option (Value×Nat)}{G:∀Y:Option (Value×Nat),∀Y:Shared,Prop} {E:∀Y:Value,∀Y:Shared,Prop} (bO:s.heap.get? a=some (kJ a9 ep t)) (bq:t.fits a9.size=true) (jk:w.params.followText "set-order"=false)
 (iZ:(!t.plain&&decide (a9.size>1))=false) (oK:t.led=!w.params.followText "set-order") (av:SetTable.below t.place slot=i)
 (aC:(match a9[i]?,t.place[i]? with|some (_,x),some j=>some (x,j+1)|_,_=>none)=r) (h:G r s):wpAny (model prog w) A (setNext a slot i ep) G E s:=by
 unfold setNext;refine wpAny_bind (wpAny_setState_of bO rfl bq ?_);refine wpAny_bind (zX (ite_ff jk (ite_ff (b:=_) iZ ?_)));refine wpAny_bind (m:=ite _ _ _) (ite_ff (by rw[oK,jk];rfl) (wpAny_pure ?_));subst av aC;exact wpAny_pure h
theorem Rw{j:Nat}{k:Int}{x:Value}{G:∀Y:Value,∀Y:Shared,Prop} {E:∀Y:Value,∀Y:Shared,Prop} (bO:s.heap.get? a=some (kJ a9 ep t)) (bq:t.fits a9.size=true) (he:a9[j]?=some (k,x)) (h:G x s):
 wpAny (model prog w) A (setNextDrawn a j ep) G E s:=by
 unfold setNextDrawn;refine wpAny_bind (wpAny_setState_of bO rfl bq ?_);refine ite_ff (by simp) ?_;rw[he];exact wpAny_pure h
theorem z4{first:Value}{F:∀Y:Option Value,∀Y:Shared,Prop} (bR:A.handled=none) (cF:s.heap.get? I=some (lz first i a a9.size ep)) (bO:s.heap.get? a=some (kJ a9 ep t)) (bq:t.fits a9.size=true)
 (h:(∃(sl:Int)(u:Tok)(r:Option (Value×Nat)),first=.int sl u∧(∀(A:Around)(E:∀Y:Value,∀Y:Shared,Prop) (G:∀Y:Option (Value×Nat),∀Y:Shared,Prop),∀Y:G r s,wpAny (model prog w) A (setNext a sl.toNat i ep) G E s)∧
     ((∃x qX,r=some (x,qX)∧F (some x) {s with heap:=fld (fld s.heap I 0 (rawInt (qX:Nat))) I 1 (rawInt ((i:Int)+1))})∨(r=none∧∀h',∀Y:(∀b o,∀Y:b≠I,∀Y:s.heap.get? b=some o,h'.get? b=some o),F none {s with heap:=h'})))∨
    (∃P items n,first=.ref P∧IsT s.heap P items n∧((∃(j:Nat)(k:Int)(x:Value),items[i]?=some (rawInt j)∧a9[j]?=some (k,x)∧F (some x) {s with heap:=fld s.heap I 1 (rawInt ((i:Int)+1))})∨
      (items[i]?=none∧∀h',∀Y:(∀b o,∀Y:b≠I,∀Y:s.heap.get? b=some o,h'.get? b=some o),F none {s with heap:=h'})))):
 wpAny (model prog w) A (pyNext (.ref I)) F bo s:=by
 have Jk:s.TypeIs (.ref I) "set_iterator":=⟨_,cF,rfl⟩;unfold pyNext
 refine wpAny_bind (wpAny_attempt (wpAny_callSpecial?_slot (name:=Str.ofString "__next__") Jk Dt
  (wpAny_call_entry Dt Jk Q9 ?_ (Ra _))))
 show wpAny _ _ (fieldsOf (.ref I)>>=_) _ _ s;refine wpAny_bind (wpAny_fieldsOf cF rfl ?_);dsimp only;refine wpAny_bind (wpAny_setEntries_of bO rfl bq ?_);refine ite_ff (by simp) ?_;rcases h with⟨sl,u,r,rfl,az,h⟩|⟨P,items,n,rfl,dj,h⟩
 ·refine wpAny_bind (az _ _ _ ?_);rcases h with⟨x,qX,rfl,h⟩|⟨rfl,h⟩
  ·refine wpAny_bind (wpAny_setField cF rfl (by simp) ?_);refine wpAny_bind (wpAny_setField (z3 cF 0 (rawInt (qX:Nat))) rfl (by simp) ?_);exact wpAny_pure ⟨_,rfl,wpAny_bind (wpAny_pure (wpAny_pure h))⟩
  ·refine wpAny_bind (wpAny_setField cF rfl (by simp) ?_);refine Jh (s:={s with heap:=_}) bR fun e h' eU ck=>?_;refine wpAny_bind (wpAny_isInstance (T:="StopIteration") (b:=true) ck isSubtype_stop ?_);exact wpAny_pure (h h' fun b o av q=>eU b o (by rw[Heap.get?_update_ne _ _ _ _ av];exact q))
 ·refine wpAny_bind (m:=seqItems? (.ref P)) ?_;unfold seqItems?;refine wpAny_bind (wpAny_load dj (wpAny_pure ?_));dsimp only;rw[Int.toNat_natCast];rcases h with⟨j,k,x,hi,he,h⟩|⟨hi,h⟩
  ·rw[hi];refine wpAny_bind (m:=setNextDrawn a ((j:Nat):Int).toNat (ep:Int).toNat) (Rw bO bq he ?_);refine wpAny_bind (wpAny_setField cF rfl (by simp) ?_);exact wpAny_pure ⟨_,rfl,wpAny_bind (wpAny_pure (wpAny_pure h))⟩
  ·rw[hi];refine wpAny_bind (wpAny_setField cF rfl (by simp) ?_);refine wpAny_bind (wpAny_setField (z3 cF 0 (rawInt 0)) rfl (by simp) ?_);refine Jh (s:={s with heap:=_}) bR fun e h' eU ck=>?_;refine wpAny_bind (wpAny_isInstance (T:="StopIteration") (b:=true) ck isSubtype_stop ?_);exact wpAny_pure (h h' fun b o av q=>eU b o (by rw[Heap.get?_update_ne _ _ _ _ av,Heap.get?_update_ne _ _ _ _ av];exact q))
end
section
variable{A:Around}{s:Shared}{I a:Addr}{a9:Array (Int×Value)}{ep i:Nat}{t:SetTable}{F:∀Y:Option Value,∀Y:Shared,Prop} (bR:A.handled=none) (bO:s.heap.get? a=some (kJ a9 ep t)) (bq:t.fits a9.size=true)
include bR bO bq
theorem Jl{sl:Int}{u:Tok}{x:Value}{qX:Nat}(cF:s.heap.get? I=some (lz (.int sl u) i a a9.size ep))(az:∀(A:Around)(E:∀Y:Value,∀Y:Shared,Prop) (G:∀Y:Option (Value×Nat),∀Y:Shared,Prop),∀Y:G (some (x,qX)) s,wpAny (model prog w) A (setNext a sl.toNat i ep) G E s)
 (h:F (some x) {s with heap:=fld (fld s.heap I 0 (rawInt qX)) I 1 (rawInt ((i:Int)+1))}):wpAny (model prog w) A (pyNext (.ref I)) F bo s:=z4 bR cF bO bq (.inl ⟨sl,u,_,rfl,az,.inl ⟨x,qX,rfl,h⟩⟩)
theorem Jm{sl:Int}{u:Tok}(cF:s.heap.get? I=some (lz (.int sl u) i a a9.size ep))(az:∀(A:Around)(E:∀Y:Value,∀Y:Shared,Prop) (G:∀Y:Option (Value×Nat),∀Y:Shared,Prop),∀Y:G none s,wpAny (model prog w) A (setNext a sl.toNat i ep) G E s)
 (h:∀h',∀Y:(∀b o,∀Y:b≠I,∀Y:s.heap.get? b=some o,h'.get? b=some o),F none {s with heap:=h'}):wpAny (model prog w) A (pyNext (.ref I)) F bo s:=z4 bR cF bO bq (.inl ⟨sl,u,none,rfl,az,.inr ⟨rfl,h⟩⟩)
theorem Rx{P n j:Nat}{k:Int}{x:Value}{items:Array Value}(cF:s.heap.get? I=some (lz (.ref P) i a a9.size ep))(dj:IsT s.heap P items n)(hi:items[i]?=some (rawInt j))(he:a9[j]?=some (k,x))
 (h:F (some x) {s with heap:=fld s.heap I 1 (rawInt ((i:Int)+1))}):wpAny (model prog w) A (pyNext (.ref I)) F bo s:=z4 bR cF bO bq (.inr ⟨P,items,n,rfl,dj,.inl ⟨j,k,x,hi,he,h⟩⟩)
theorem Ry{P n:Nat}{items:Array Value}(cF:s.heap.get? I=some (lz (.ref P) i a a9.size ep))(dj:IsT s.heap P items n)(hi:items[i]?=none)
 (h:∀h',∀Y:(∀b o,∀Y:b≠I,∀Y:s.heap.get? b=some o,h'.get? b=some o),F none {s with heap:=h'}):wpAny (model prog w) A (pyNext (.ref I)) F bo s:=z4 bR cF bO bq (.inr ⟨P,items,n,rfl,dj,.inr ⟨hi,h⟩⟩)
end
section
variable{S I a:Addr}{a9:Array (Int×Value)}{ep i:Nat}{t:SetTable}{ns ms:List Int}{first:Value}
noncomputable def Dx(w:World)(s:Shared)(S I a:Addr)(a9:Array (Int×Value))(ep:Nat)(t:SetTable)(ns rest:List Int)(lY:Option Value)(s':Shared):Prop:=
 (∃h' tk,s'={s with heap:=h',toks:=tk})∧(∀b o,b≠I→s.heap.get? b=some o→s'.heap.get? b=some o)∧match lY with|none=>rest=[]|some v=>∃n Rz uu,v=.int n Rz∧rest=n::uu∧Dw w S I a a9 ep t ns uu s'.heap
theorem Dy{h':Heap}{v:Int}{u:Tok}(bO:s.heap.get? a=some (kJ a9 ep t))(cP:a≠I)(cv:∀b o,∀Y:b≠I,∀Y:s.heap.get? b=some o,h'.get? b=some o) (cF:h'.get? I=some (lz first (i+1) a a9.size ep)) (hd:ms.drop i=v::ms.drop (i+1))
 (bC:i<ms.length) (aP:ms.Perm ns) (hm:Mode w h' S I a a9 ep t ns first ms (i+1)):Dx w s S I a a9 ep t ns (ms.drop i) (some (.int v u)) {s with heap:=h'}:=
 ⟨⟨h',s.toks,rfl⟩,cv,v,u,_,rfl,hd,⟨cv _ _ cP bO,first,ms,i+1,cF,rfl,bC,aP,hm⟩⟩
theorem Dz(d5:ms.length≤i)(h':Heap)(cv:∀b o,∀Y:b≠I,∀Y:s.heap.get? b=some o,h'.get? b=some o):Dx w s S I a a9 ep t ns (ms.drop i) none {s with heap:=h'}:=
 ⟨⟨h',s.toks,rfl⟩,cv,List.drop_eq_nil_of_le d5⟩
theorem uA{h:Heap}{j:Nat}{v:Value}:∀b o,∀Y:b≠I,∀Y:h.get? b=some o,(fld h I j v).get? b=some o:=fun b o av e=>by
 rw[Heap.get?_update_ne _ _ _ _ av];exact e
theorem Jo{h:Heap}{n:Nat}(cF:h.get? I=some (lz first i a n ep)):(fld h I 1 (rawInt ((i:Int)+1))).get? I=some (lz first (i+1) a n ep):=z3 cF 1 _
theorem Jp{h:Heap}{n:Nat}{v:Value}(cF:h.get? I=some (lz first i a n ep)):(fld (fld h I 0 v) I 1 (rawInt ((i:Int)+1))).get? I=some (lz v (i+1) a n ep):=Jo (z3 cF 0 v)
theorem RA{A:Around}(bR:A.handled=none)(cP:a≠I)(hi:IntsAre (a9.toList.map (·.2)) ns)(qY:il t.place.toList)(bq:t.fits a9.size=true)(oK:t.led=!w.params.followText "set-order")
 (bO:s.heap.get? a=some (kJ a9 ep t))(cF:s.heap.get? I=some (lz first i a a9.size ep))(hle:i≤ms.length)(aP:ms.Perm ns)(hm:Mode w s.heap S I a a9 ep t ns first ms i):
 wpAny (model prog w) A (pyNext (.ref I)) (Dx w s S I a a9 ep t ns (ms.drop i)) bo s:=by
 have c8:a9.size=ns.length:=by rw[←hi.length,List.length_map,Array.length_toList]
 have nC:=aP.length_eq;cases hm with
 |@text sl u _ _ jk hints=>
  rcases Nat.lt_or_ge i ms.length with bC|d5
  ·refine bZ ?_ (z0 hints bC);intro k e8 he;exact Jl bR bO bq cF (fun A E G g=>Ji bO bq jk (by rw[he];exact g)) (Dy bO cP (fun b o av e=>uA b o av (uA b o av e)) (Jp cF) (List.drop_eq_getElem_cons bC) bC aP (.text jk hints))
  ·have mQ:(pickOrder (w.params.setOrder a ep) a9)[i]?=none:=Array.getElem?_eq_none (by rw[←Array.length_toList,←List.length_map (f:=(·.2)),hints.length];exact d5);exact Jm bR bO bq cF (fun A E G g=>Ji bO bq jk (by rw[mQ];exact g)) (Dz d5)
 |@draw P m items idx _ jk RB z5 dj hits Jq=>
  rcases Nat.lt_or_ge i idx.length with qZ|d5
  ·have aO:idx[i]<ns.length:=List.mem_range.mp (Jq.mem_iff.mp (List.getElem_mem qZ));refine bZ ?_ (z0 hi aO);intro k e8 he;have bC:i<(idx.map fun j=>ns.getD j 0).length:=by rw[List.length_map];exact qZ
   refine Rx bR bO bq cF dj (j:=idx[i]) ?_ he (Dy bO cP uA (Jo cF) ((List.drop_eq_getElem_cons bC).trans ?_) bC aP (.draw jk RB z5 (uA _ _ z5 dj) hits Jq))
   ·rw[←Array.getElem?_toList,hits,List.getElem?_map,List.getElem?_eq_getElem qZ];rfl
   ·rw[List.getElem_map,List.getD_eq_getElem?_getD,List.getElem?_eq_getElem aO];rfl
  ·refine Ry bR bO bq cF dj ?_ (Dz (by rw[List.length_map];exact d5));rw[←Array.getElem?_toList,hits,List.getElem?_map,List.getElem?_eq_none d5];rfl
 |@plain sl u _ jk iZ av=>
  rcases Nat.lt_or_ge i ns.length with z6|d5
  ·refine bZ ?_ (z0 hi z6);intro k e8 he;have Jr:i<t.place.size:=by unfold SetTable.fits at bq;simp at bq;rw[bq.1,c8];exact z6
   exact Jl bR bO bq cF (fun A E G g=>Jj (r:=some (.int ns[i] e8,t.place[i]+1)) bO bq jk iZ oK av (by rw[he,Array.getElem?_eq_getElem Jr]) g)
    (Dy bO cP (fun b o av e=>uA b o av (uA b o av e)) (Jp cF) (List.drop_eq_getElem_cons z6) z6 aP (.plain jk iZ (Rv qY Jr)))
  ·have mQ:a9[i]?=none:=Array.getElem?_eq_none (by rw[c8];exact d5);exact Jm bR bO bq cF (fun A E G g=>Jj bO bq jk iZ oK av (by rw[mQ]) g) (Dz d5)
theorem RC{A:Around}(bR:A.handled=none)(bE:I≠S)(aJ:a≠S)(cP:a≠I)(hi:IntsAre (a9.toList.map (·.2)) ns)
 (qY:il t.place.toList)(bq:t.fits a9.size=true)(oK:t.led=!w.params.followText "set-order"):wW prog w A S I (Dw w S I a a9 ep t ns) where
 ne:=bE
 frame:=by
  rintro rest h h' k ⟨bO,first,ms,i,cF,e,hle,aP,hm⟩;exact⟨k _ _ aJ bO,first,ms,i,k _ _ bE cF,e,hle,aP,hm.frame fun b o ae Y q=>k b o ae q⟩
 item:=by
  rintro rest s ⟨bO,first,ms,i,cF,rfl,hle,aP,hm⟩;exact RA bR cP hi qY bq oK bO cF hle aP hm
end
end
end Mine
end
section
namespace Mine
theorem DA{l ia:List Value}{ns:List Int}(hi:IntsAre l ns)(p:ia.Perm l):∃ms,IntsAre ia ms∧ms.Perm ns:=by
 refine⟨ia.map numOf,intsAre_map ia fun v aN=>hi.all v (p.mem_iff.mp aN),?_⟩;have:=p.map numOf
 rwa [hi.nums]at this
theorem RD{xs:Array Nat}(h:il xs.toList):SetTable.below xs 0=0:=by
 refine aY ?_ (Ds h 0);intro ae af aH;rcases Nat.eq_zero_or_pos (SetTable.below xs 0)with q|q
 ·exact q
 ·exact absurd (af 0 (by exact aq (.a .q .p (.b .z .q (.t .z .p))) rfl ae q) q) (Nat.not_lt_zero _)
theorem RE{ns:List Int}{idx:List Nat}(p:idx.Perm (List.range ns.length)):(idx.map fun j=>ns.getD j 0).Perm ns:=by
 have e:(List.range ns.length).map (fun j=>ns.getD j 0)=ns:=by
  apply List.ext_getElem
  ·simp
  ·intro i ae af;simp[List.getD,af]
 have:=p.map fun j=>ns.getD j 0
 rwa [e]at this
section
variable{prog:Program}{w:World}{A:Around}{s:Shared}
theorem RG{a S:Addr}{ns:List Int}{F:∀Y:Value,∀Y:Shared,Prop} (aL:A.handled=none) (dc:gI w s.heap a ns) (cP:a≠S) (mR:∃o,s.heap.get? S=some o) (hlen:ns.length≤1000000)
 (h:∀I St rest h' tk d,∀Y:(∀b o,∀Y:s.heap.get? b=some o,h'.get? b=some o),∀Y:s.heap.get? I=none,∀Y:wW prog w A S I St,∀Y:St rest h',∀Y:rest.Perm ns,F (.ref I) {s with heap:=h',toks:=tk,drawn:=d}):
 wpAny (model prog w) A (pyIter (.ref a)) F bo s:=by
 refine bG ?_ dc;clear dc;intro a9 ep t;refine nS ?_;intro bO hi z7 kK qY bq oK;have ck:s.TypeIs (.ref a) "set":=⟨_,bO,rfl⟩;have c8:a9.size=ns.length:=by have:=hi.length;simpa using this
 have XD:a<s.heap.objs.size:=Heap.lt_size bO;refine aj ?_ mR;clear mR;intro z8 mR;have RH:S<s.heap.objs.size:=Heap.lt_size mR;have iA:1000000≤sizeLine:=by decide
 refine wpAny_pyIter_slot ck PySem.F.slot_set_iter (wpAny_call_entry PySem.F.slot_set_iter ck Rb ?_ (PySem.F.args_set_iter_1 _));show wpAny _ _ (Builtin.Frozenset.sizeOf a>>=_) _ _ s;unfold Builtin.Frozenset.sizeOf;refine wpAny_bind (wpAny_bind (wpAny_setEntries_of bO rfl bq (wpAny_pure ?_)));unfold setDrawn;refine wpAny_bind ?_;refine wpAny_bind (wpAny_setState_of bO rfl bq ?_);refine wpAny_bind (zX (wpAny_pure ?_))
 have fin:∀(first:Value)(bU:Heap)(d:Drawn)(ms:List Int),∀Y:(∀b o,∀Y:s.heap.get? b=some o,bU.get? b=some o),∀Y:ms.Perm ns,
  ∀Y:(∀o,Mode w (bU.push o) S bU.objs.size a a9 ep t ns first ms 0),
  wpAny (model prog w) A.in1 (do ret (←newFields "set_iterator" [first,rawInt 0,.ref a,rawInt a9.size,rawInt (←setEpoch a)])) (fun fin s'=>∃r,fin=.done (.ret r)∧∃Js RI,s'.TypeIs r Js∧typeLookup (.type Js) (Str.ofString "__next__")=pure (some RI)∧F r s') bo {s with heap:=bU,drawn:=d}:=by
  intro first bU d ms cT aP hm
  refine wpAny_bind (wpAny_setEpoch_of (s:={s with heap:=bU,drawn:=d}) (cT _ _ bO) rfl bq ?_);unfold newFields;refine wpAny_bind (wpAny_newObj_type ?_ (by size_fits));refine wpAny_pure ⟨_,rfl,"set_iterator",_,⟨_,Heap.get?_push_size _ rfl,rfl⟩,Dt.lookup,?_⟩;have eU:∀b o,∀Y:s.heap.get? b=some o,(bU.push (lz first 0 a a9.size ep)).get? b=some o:=fun b o e=>Heap.get?_push_of_some _ (cT b o e);have hIn:s.heap.get? bU.objs.size=none:=G7 cT;refine h bU.objs.size (Dw w S bU.objs.size a a9 ep t ns) ms _ s.toks d eU hIn (RC aL (fun e=>?_) cP (fun e=>?_) hi qY bq oK) ?_ aP
  ·rw[e,mR]at hIn;cases hIn
  ·rw[←e,bO]at hIn;cases hIn
  ·exact⟨eU _ _ bO,first,ms,0,Heap.get?_push_size _ rfl,rfl,Nat.zero_le _,aP,hm _⟩
 cases jk:w.params.followText "set-order" with
 |true=>
  refine aj ?_ (DA hi ((Ri (w.params.setOrder a ep) a9).map (·.2)));intro ms;refine ar ?_;intro sL aP;refine ite_ff rfl (wpAny_bind (wpAny_pure ?_));exact fin (rawInt 0) s.heap s.drawn ms (fun Y Y e=>e) aP fun o=>.text jk sL
 |false=>
  cases DB:(!t.plain&&decide (a9.size>1))with
  |false=>
   refine ite_ff (b:=_) DB (wpAny_bind (wpAny_pure ?_));exact fin (rawInt 0) s.heap s.drawn ns (fun Y Y e=>e) (.refl _) fun o=>.plain (sl:=0) jk DB (RD qY)
  |true=>
   refine ite_tt (b:=_) DB (wpAny_bind ?_);refine Rd _ _ (by simp) fun idx d aP=>?_;refine wpAny_bind (wpAny_newTuple ?_ (by rw[List.length_map,aP.length_eq,List.length_range];exact aA (.a .r (.k 1000000) (.c .p .r (.a (.k 1000000) .q (.l .p .q)))) rfl hlen c8 iA));rw[c8]at aP;have cT:∀b o,∀Y:s.heap.get? b=some o,(s.heap.push (seqObj "tuple" (idx.map fun(i:Nat)=>rawInt i).toArray 0)).get? b=some o:=fun b o e=>Heap.get?_push_of_some _ e;have b7:(s.heap.push (seqObj "tuple" (idx.map fun(i:Nat)=>rawInt i).toArray 0)).get? s.heap.objs.size=some (seqObj "tuple" (idx.map fun(i:Nat)=>rawInt i).toArray 0):=Heap.get?_push_size _ rfl;refine fin (.ref s.heap.objs.size) _ d _ cT (RE aP) fun o=>.draw (m:=0) (items:=(idx.map fun(i:Nat)=>rawInt i).toArray) jk (Nat.ne_of_gt RH) ?_ ?_ (by simp) aP
   ·rw[size_push'];exact Nat.ne_of_lt (Nat.lt_succ_self _)
   ·exact Heap.get?_push_of_some _ b7
end
end Mine
end
section
namespace Mine
section
variable{prog:Program}{w:World}{A:Around}{s:Shared}
theorem RJ{a9:Array (Int×Value)}(h:∀e∈a9.toList,∃k tk,e=(hashInt k,Value.int k tk)):ElemsOf (intKind prog w) a9.toList:=fun e he=>by
 refine bZ ?_ (h e he);rintro k tk rfl;exact⟨⟨k,by simp[intKind,Value.isInt],rfl⟩,rfl⟩
theorem Jt{a:Addr}{a9 fx:Array (Int×Value)}{ep:Nat}{t t1:SetTable}{F:∀Y:Unit,∀Y:Shared,Prop} (bO:s.heap.get? a=some (kJ a9 ep t)) (aT:fx.size≤100000)
 (h:∀h',∀Y:Heap.SameBut a s.heap h',∀Y:h'.get? a=some (kJ fx (ep+1) t1),F () {s with heap:=h'}):wpAny (model prog w) A (storeSet a fx t1) F bo s:=
 wpAny_storeSet_of bO rfl (h _ (Heap.SameBut.update ..) (by
  have:=Heap.get?_update_self (Obj.putSet fx t1) bO (by rw[putSet_of fx t1 rfl];rfl);rw[putSet_of fx t1 rfl]at this;exact this)) (Nat.le_trans aT (by decide))
structure sM(w:World)(a9:Array (Int×Value))(t:SetTable)(ns:List Int):Prop where
 vals:IntsAre (a9.toList.map (·.2)) ns
 Ju:∀e∈a9.toList,∃k tk,e=(hashInt k,Value.int k tk)
 nodup:ns.Nodup
 asc:il t.place.toList
 fits:t.fits a9.size=true
 led:t.led=!w.params.followText "set-order"
theorem sM.perm{a9 fx:Array (Int×Value)}{t t1:SetTable}{ns:List Int}(h:sM w a9 t ns)(p:fx.toList.Perm a9.toList)(aJ:il t1.place.toList)(bq:t1.fits fx.size=true)(aD:t1.led=t.led):∃ms,sM w fx t1 ms∧ms.Perm ns:=by
 refine aj ?_ (DA h.vals (p.map (·.2)));intro ms;refine ar ?_;intro hm aP;exact⟨ms,⟨hm,fun e he=>h.Ju e (p.mem_iff.mp he),aP.nodup_iff.mpr h.nodup,aJ,bq,aD.trans h.led⟩,aP⟩
theorem sM.at_{h:Heap}{a:Addr}{a9:Array (Int×Value)}{ep:Nat}{t:SetTable}{ns:List Int}(x:sM w a9 t ns)(bO:h.get? a=some (kJ a9 ep t)):gI w h a ns:=
 ⟨a9,ep,t,bO,x.vals,x.Ju,x.nodup,x.asc,x.fits,x.led⟩
theorem Jv{g:∀Y:Bool,Sem Unit} (b7:∀(b:Bool){ba:Shared}{iV:∀Y:Unit,∀Y:Shared,Prop},∀Y:iV () ba,wpAny (model prog w) A (g b) iV bo ba)
 {a:Addr} {a9 fx:Array (Int×Value)} {ep:Nat} {t t1:SetTable} {DC:List Int} (bO:s.heap.get? a=some (kJ a9 ep t)) (x:sM w fx t1 DC) (aT:fx.size≤100000) {DD:Bool} {R:∀Y:Option Bool,∀Y:Shared,Prop}
 (h:∀h' jR,∀Y:Heap.SameBut a s.heap h',∀Y:gI w h' a jR,∀Y:jR.Perm DC,R (some true) {s with heap:=h'}):
 wpAny (model prog w) A (do
  storeSet a fx t1
  if(!DD&&t1.tooFull)=true then do
     g (relayAll t1 fx (SetTable.grown fx.size)).2.2
     storeSet a (relayAll t1 fx (SetTable.grown fx.size)).1 (relayAll t1 fx (SetTable.grown fx.size)).2.1
     pure (some true)
   else pure (some true)) R bo s:=by
 refine wpAny_bind (Jt bO aT fun ae cT Jw=>?_);by_cases aG:(!DD&&t1.tooFull)=true
 ·rw[if_pos aG];have aP:=relayAll_perm t1 fx (SetTable.grown fx.size);have bq:=relayAll_fits t1 fx (SetTable.grown fx.size);have aJ:=Q8 (t:=t1) fx (SetTable.grown fx.size);generalize relayAll t1 fx (SetTable.grown fx.size)=L at aP bq aJ ⊢;obtain⟨XE,kF,gave⟩:=L;dsimp only at aP bq aJ ⊢;refine aj ?_ (x.perm aP aJ.1 bq aJ.2);intro ms;refine ar ?_;intro sL z9;refine wpAny_bind (b7 _ (wpAny_bind (Jt (s:={s with heap:=ae}) Jw (by rw[←Array.length_toList,aP.length_eq,Array.length_toList];exact aT) fun af eU RK=>wpAny_pure ?_)));exact h af ms (cT.trans eU) (sL.at_ RK) z9
 ·rw[if_neg aG];exact wpAny_pure (h ae DC cT (x.at_ Jw) (.refl _))
theorem RL{a:Addr}{ns:List Int}{n:Int}{u:Tok}{F:∀Y:Bool,∀Y:Shared,Prop} (dc:gI w s.heap a ns) (hlen:ns.length<1000)
 (h:∀b h' tk jR,∀Y:Heap.SameBut a s.heap h',∀Y:gI w h' a jR,∀Y:jR.Perm (if n∈ns then ns else ns++[n]),F b {s with heap:=h',toks:=tk}):wpAny (model prog w) A (setAdd a (.int n u)) F bo s:=by
 refine bG ?_ (id dc);intro a9 ep t;refine nS ?_;intro bO hi z7 kK qY bq oK;have c8:a9.size=ns.length:=by have:=hi.length;simpa using this
 have g9:=RJ (prog:=prog) (w:=w) z7;have uz:(intKind prog w).is n (.int n u)=true:=by simp[intKind,Value.isInt]
 have av:a9.size<scanBound:=by rw[c8];exact Nat.lt_of_lt_of_le hlen (by decide)
 unfold setAdd;refine wpAny_holding ?_;refine wpAny_bind ((intKind prog w).pyHash (k:=n) uz ?_);unfold setAddHashed setAddHashedIn;refine wpAny_holding (wpAny_bind (wpAny_setState_of (s:={s with toks:=s.toks+1}) bO rfl bq ?_));dsimp only;refine ite_tt (byScan_of rfl av g9) ?_;unfold setAddByScan;refine wpAny_bind ?_;refine wpAny_bind (wpAny_rule ?_);refine wpAny_bind (wpAny_setScan_of (knd:=intKind prog w) (s:={s with toks:=s.toks+1}) uz bO rfl bq g9 ?_)
 have g7:n∈ns↔∃e∈a9.toList,(intKind prog w).is n e.2=true:=by
  constructor
  ·intro az;obtain⟨i,fV,rfl⟩:=List.mem_iff_getElem.mp az;refine bZ ?_ (z0 hi fV);intro k tk he;exact⟨_,List.mem_of_getElem? (by rw[Array.getElem?_toList];exact he),by simp[intKind,Value.isInt]⟩
  ·refine aj ?_;intro e;refine ar ?_;intro he aK;refine bZ ?_ (z7 e he);rintro k tk rfl;have:k=n:=by simpa [intKind,Value.isInt]using aK
   subst this;have hm:Value.int k tk∈a9.toList.map (·.2):=List.mem_map.mpr ⟨_,he,rfl⟩;have:numOf (Value.int k tk)∈(a9.toList.map (·.2)).map numOf:=List.mem_map.mpr ⟨_,hm,rfl⟩;rw[hi.nums]at this;exact this
 cases aC:List.findIdx? (fun e=>(intKind prog w).is n e.2) a9.toList with
 |some j=>
  dsimp only;refine aj ?_ (List.findIdx?_eq_some_iff_getElem.mp aC);intro aO;refine ar ?_;intro RM _;have az:n∈ns:=g7.mpr ⟨a9.toList[j],List.getElem_mem aO,RM⟩;refine wpAny_pure (wpAny_pure ?_);exact h _ s.heap _ ns (Heap.SameBut.refl a s.heap) dc (by rw[if_pos az])
 |none=>
  dsimp only
  have az:n∉ns:=fun q=>by
   refine aj ?_ (g7.mp q);intro e;refine ar ?_;intro he aP;have:=List.findIdx?_eq_none_iff.mp aC e he;rw[aP]at this;exact Bool.noConfusion this
  have pX:=layNew_perm t a9 (hashInt n) (.int n u);have DE:=layNew_fits t a9 (hashInt n) (.int n u);have Aa:=Q5 qY a9 (hashInt n) (.int n u);rw[show(intKind prog w).hash n=hashInt n from rfl];generalize eQ:layNew t a9 (hashInt n) (.int n u)=L at pX DE Aa ⊢;obtain⟨fx,t1,DD,gave⟩:=L;dsimp only at pX DE Aa ⊢;rw[Array.toList_push]at pX
  have ai:∃ms,sM w fx t1 ms∧ms.Perm (ns++[n]):=by
   have RN:IntsAre ((a9.toList++[(hashInt n,Value.int n u)]).map (·.2)) (ns++[n]):=by
    rw[List.map_append];exact IntsAre.append hi (.cons n u .nil)
   refine aj ?_ (DA RN (pX.map (·.2)));intro ms;refine ar ?_;intro hm aP;refine⟨ms,⟨hm,fun e he=>?_,aP.nodup_iff.mpr ?_,Aa.1,DE,Aa.2.trans oK⟩,aP⟩
   ·rcases List.mem_append.mp (pX.mem_iff.mp he)with q|q
    ·exact z7 e q
    ·rw[List.mem_singleton.mp q];exact⟨n,u,rfl⟩
   ·rw[List.nodup_append];exact⟨kK,by simp,fun x ai y au e=>az (by rw[←List.mem_singleton.mp au,←e];exact ai)⟩
  refine aj ?_ ai;clear ai;intro ms;refine ar ?_;intro sL z9
  have zQ:fx.size≤100000:=by
   have:=sL.vals.length;have af:=z9.length_eq;simp at this af;exact aA (.i 100 (.t .q (.k 1000)) (.i 100 (.e .p .r) (.i 100 (.e .r (.b .q)) (.l .p (.k 100000))))) rfl hlen this af
  have DF:∀(b:Bool){ba:Shared}{iV:Unit→Shared→Prop},iV () ba→wpAny (model prog w) A (match b with|true=>rule "set.scan.the-table-gave-way"|false=>pure ()) iV bo ba:=
   fun b ba iV bb=>by cases b<;>first|exact wpAny_pure bb|exact wpAny_rule bb
  refine wpAny_bind (DF _ ?_)
  have nu:∀h' jR,∀Y:Heap.SameBut a s.heap h',∀Y:gI w h' a jR,∀Y:jR.Perm ms,F true {s with heap:=h',toks:=s.toks+1}:=fun h' jR cT r p=>
   h true h' _ jR cT r (by rw[if_neg az];exact p.trans z9)
  by_cases fO:t1.plain=true
  ·rw[if_pos fO,hashByValue_scannable 8 (x:=Value.int n u) rfl];refine wpAny_bind (wpAny_pure ?_);exact Jv (g:=fun b=>match b with|true=>rule "set.scan.the-table-gave-way"|false=>pure ()) (s:={s with toks:=s.toks+1}) DF bO sL zQ fun h' jR cT r p=>wpAny_pure (nu h' jR cT r p)
  ·rw[if_neg fO];refine wpAny_bind (wpAny_pure ?_);exact Jv (g:=fun b=>match b with|true=>rule "set.scan.the-table-gave-way"|false=>pure ()) (s:={s with toks:=s.toks+1}) DF bO sL zQ fun h' jR cT r p=>wpAny_pure (nu h' jR cT r p)
end
end Mine
end
section
namespace Mine
section
variable{prog:Program}{w:World}{B:Heap}{A:Around}{E:∀Y:Value,∀Y:Shared,Prop} {s:Shared}
theorem Jx(a:Value){Q₁:∀Y:Value,∀Y:Shared,Prop} (h:Q₁ (.ref s.heap.objs.size) {s with heap:=s.heap.push (kJ #[] 0 (.fresh 0 0 (!w.params.followText "set-order")))}):
 codeAny (model prog w) A (.call (.builtin "set.__new__") ⟨[.type "set",a],[]⟩) (wants Q₁ E) s:=by
 refine codeAny_of_tree ?_;show wpAny _ A.in1 (do checkBuiltinCall "set.__new__" ⟨[.type "set",a],[]⟩;again (.builtin "set.__new__" ⟨[.type "set",a],[]⟩)) _ _ s;refine wpAny_bind (wpAny_of_eq (PySem.F.newCall_set_1 a) (wpAny_pure ⟨plainId_quiet PySem.F.plain_set_new _,codeAny_builtin PySem.F.entry_set_new ?_⟩));rw[Around.under_plainId PySem.F.plain_set_new _];unfold Builtin.«set.__new__» Builtin.Frozenset.newClass;have Ab:=sub_set_self;obtain⟨aP,g,d,tk,os⟩:=s;dsimp only
 wp_walk
 refine wpAny_askSetting (wpAny_pure ?_);dsimp only;simp only[newObj];refine wpAny_bind (wpAny_alloc (wpAny_pure ?_));exact wpAny_pure h
theorem gI.fresh{h:Heap}:gI w (h.push (kJ #[] 0 (.fresh 0 0 (!w.params.followText "set-order")))) h.objs.size []:=
 ⟨#[],0,_,Heap.get?_push_size _ rfl,.nil,by simp,.nil,.nil,rfl,rfl⟩
theorem RO{am:List Addr}{st:St}{x:ah}{I S:Addr}{ns:List Int}(bR:A.in1.handled=none)(e:ju x st=some (ns.map .int))(Cr:I∉am)(RP:B.get? I=none)(RQ:S∉am)(RS:B.get? S=none)(cP:S≠I)(hlen:ns.length<900):
 ∀(n i:Nat){s:Shared}{R:∀Y:Result,∀Y:Shared,Prop} (cur:List Int),∀Y:ns.length-i=n,∀Y:bh prog w B am s.heap st,∀Y:iH am s.heap I x i,∀Y:(∃o,s.heap.get? I=some o∧¬Kept o),∀Y:gI w s.heap S cur,∀Y:cur.length≤i,∀Y:(∀z,z∈cur↔z∈ns.take i),
  ∀Y:(∀h' tk Jy,∀Y:(∀b o,∀Y:b≠S,∀Y:b≠I,∀Y:s.heap.get? b=some o,h'.get? b=some o),∀Y:gI w h' S Jy,∀Y:(∀z,z∈Jy↔z∈ns),R (.ok (.ret .none)) {s with heap:=h',toks:=tk}),
  codeAny (model prog w) A (.builtin "set.update.loop" ⟨[.ref S,.ref I],[]⟩) R s:=by
 intro n
 induction n with
 |zero=>
  intro i s R cur az Ac cF lj dc b9 jc fe;refine codeAny_builtin PyProof.Rows.F.entry_set_update_loop ?_;rw[Around.under_plainId PyProof.Rows.F.plain_set_update_loop _];show wpAny _ A.in1 (pyNext (.ref I)>>=_) _ _ s;refine wpAny_bind (never (yL bR Ac cF lj e ⟨fun y v h' tk au=>?_,fun h' tk hle hs=>?_⟩))
  ·have:=(List.getElem?_eq_some_iff.mp au).1;rw[List.length_map]at this;exact(aA (.c .p .z (.b .q .r (.a .r (.a .p .q) .f))) rfl az this (cj _ _):False).elim
  ·show wpAny _ A.in1 (ret Value.none) _ _ _;refine wpAny_pure (fe h' tk cur (fun b o ae af q=>hs b o af q) (dc.at_ w fun o q=>hs _ _ cP q) fun z=>?_);rw[jc z,List.take_of_length_le (by exact aA (.c .r .z (.a .p (.a .r .q) (.l .p .q))) rfl az (cj _ _))]
 |succ n ih=>
  intro i s R cur az Ac cF lj dc b9 jc fe;refine codeAny_builtin PyProof.Rows.F.entry_set_update_loop ?_;rw[Around.under_plainId PyProof.Rows.F.plain_set_update_loop _];show wpAny _ A.in1 (pyNext (.ref I)>>=_) _ _ s;have hi:i<ns.length:=by exact(Nat.le_total _ _).elim (fun ay=>bA (.i (-1) (.e .r (.b .s)) (.c (.a .r .p) .q (.t .p .q))) rfl az (Nat.sub_add_cancel ay)) (fun aE=>(aq (.i (-1) (.e .p (.b .q)) (.c .p .z .f)) rfl az (Nat.sub_eq_zero_of_le aE):False).elim)
  refine wpAny_bind (never (yL bR Ac cF lj e ⟨fun y v h' tk au hs Jz aN jL=>?_,fun h' tk hle hs=>?_⟩))
  ·have uB:y=.int ns[i]:=by
    rw[List.getElem?_map,List.getElem?_eq_getElem hi]at au;exact(Option.some.inj au).symm
   subst uB;cases aN with
   |@int _ t=>
    have wX:gI w h' S cur:=dc.at_ w fun o q=>hs _ _ cP q;show wpAny _ A.in1 (holding [Value.int ns[i] t] (setAdd S (.int ns[i] t))>>=_) _ _ _;refine wpAny_bind (wpAny_holding (never (RL (s:={s with heap:=h',toks:=tk}) wX (by exact aA (.i 999 (.t .q (.k 900)) (.i 999 (.l .p .r) (.i 999 (.t .r .q) (.G 897 (.t .p (.k 1000)))))) rfl hlen b9 hi) fun b af JA RT eU uy aP=>?_)));refine ar ?_ (Ac.gY hs ⟨lj,Cr,RP⟩);intro mG JB;refine aj ?_ wX.there;intro z8;refine ar ?_;intro RU nD;have Ad:∀b o,∀Y:b≠S,∀Y:h'.get? b=some o,af.get? b=some o:=fun b o av q=>by rw[eU.2 b av];exact q
    refine ar ?_ (mG.gY Ad ⟨⟨z8,RU,nD⟩,RQ,RS⟩);intro Ae Af;have f9:ns.take (i+1)=ns.take i++[ns[i]]:=by rw[List.take_add_one,List.getElem?_eq_getElem hi];rfl
    refine wpAny_pure ⟨plainId_quiet PyProof.Rows.F.plain_set_update_loop _,ih (i+1) RT (by exact Nat.le_antisymm ((Nat.le_total _ _).elim (fun ay=>cJ (.c .r (.b .q) (.i (-1) (.e (.a .r .s) .t) (.c (.a .p (.b .s)) .t (.l .p .q)))) rfl az (Nat.sub_add_cancel ay) (Nat.sub_add_cancel (bA (.i (-1) (.e .r (.b .s)) (.c (.a .r .p) .q (.l (.b .p) .q))) rfl az (Nat.sub_add_cancel ay)))) (fun aE=>(aq (.i (-1) (.e .p (.b .q)) (.c .p .z .f)) rfl az (Nat.sub_eq_zero_of_le aE):False).elim)) ((Nat.le_total _ _).elim (fun bI=>cJ (.i (-1) (.e .r (.b .p)) (.c (.a .r .s) .t (.a .t (.a .q (.b .s)) (.l .p .q)))) rfl az (Nat.sub_add_cancel bI) (cj _ (_+(1:Nat)))) (fun cM=>aA (.i (-1) (.e .r (.b .p)) (.c .r .z (.l .p .q))) rfl az (Nat.sub_eq_zero_of_le cM)))) Ae (jL.at_ (List.prefix_refl _) Af fun o q=>Ad _ _ cP.symm q) ?_ uy ?_ (fun z=>?_) fun aH lq RV iU ux RW=>?_⟩
    ·refine aj ?_ Jz;clear Jz;intro o;refine ar ?_;intro q aK;exact⟨o,Ad _ _ cP.symm q,aK⟩
    ·have:=aP.length_eq
     split at this
     ·exact aA (.a .r .q (.c .p .r (.l .p (.b .q)))) rfl b9 this
     ·simp at this;exact aA (.a .r .q (.c .p (.b .r) (.l .p (.b .q)))) rfl b9 this
    ·rw[aP.mem_iff,f9];have:=jc z
     split
     ·rename_i aG;rw[this,List.mem_append,List.mem_singleton];constructor
      ·exact .inl
      ·rintro(q|rfl)
       ·exact q
       ·exact(jc _).mp aG
     ·rw[List.mem_append,List.mem_append,this]
    ·exact fe aH lq RV (fun b o ae bX q=>iU b o ae bX (Ad b o ae (hs b o bX q))) ux RW
  ·rw[List.length_map]at hle;exact(aq (.b .p .q (.a .q .p .f)) rfl hi hle:False).elim
end
end Mine
end
section
set_option maxHeartbeats 3200000
namespace Mine
theorem RX(T:String)(h:T="list"∨T="tuple"):isSubtype (.type T) (.type "set")=pure false∧isSubtype (.type T) (.type "frozenset")=pure false∧(Value.type T==Value.type "dict")=false:=by
 rcases h with rfl|rfl
 ·exact⟨by rw[isSubtype_type];kernel_rfl,by rw[isSubtype_type];kernel_rfl,by decide⟩
 ·exact⟨by rw[isSubtype_type];kernel_rfl,by rw[isSubtype_type];kernel_rfl,by decide⟩
section
variable{prog:Program}{w:World}{B:Heap}{k:Nat}
noncomputable def DG(x:ah)(Q:∀Y:ah,∀Y:St,Prop) (st:St):Prop:=∃ns:List Int,ku x st=some (ns.map .int)∧ns.length<900∧∀ms:List Int,∀Y:ms.Nodup,∀Y:(∀z,z∈ms↔z∈ns),Q (.ref st.length) (st++[.set ms])
theorem gI.nodup{h:Heap}{a:Addr}{ns:List Int}:∀Y:gI w h a ns,ns.Nodup:=by
 refine bG ?_;intro _ _ _;refine eY ?_;intro _ _ _ h _;exact h
section
variable{A:Around}{s:Shared}{v:Value}{ns:List Int}
noncomputable abbrev newSet(w:World):Obj:=kJ #[] 0 (.fresh 0 0 (!w.params.followText "set-order"))
noncomputable def Filled(w:World)(s:Shared)(ns:List Int)(h':Heap):Prop:=∃ms,gI w h' s.heap.objs.size ms∧(∀z,z∈ms↔z∈ns)∧∀b o,∀Y:s.heap.get? b=some o,h'.get? b=some o
theorem JC{h':Heap}{T:String}(k:∀b o,∀Y:s.heap.get? b=some o,h'.get? b=some o) (ck:s.TypeIs v T):Shared.TypeIs {s with heap:=h'} v T:=by
 cases v with
 |ref l=>refine aj ?_ ck;clear ck;intro o;refine ar ?_;intro bx aG;exact⟨o,k _ _ bx,aG⟩
 |_=>exact ck
theorem RY{am:List Addr}{st:St}{x:ah}(bR:A.handled=none)(S:bh prog w B am s.heap st)(a:bc am s.heap x v)(fc:ju x st=some (ns.map .int))(hlen:ns.length<900){T:String}(DH:T="list"∨T="tuple")(ck:s.TypeIs v T)
 {R:∀Y:Result,∀Y:Shared,Prop} (h:∀h' tk,∀Y:Filled w s ns h',R (.ok (.ret .none)) {s with heap:=h',toks:=tk}):codeAny (model prog w) A (.call (.builtin "set.__init__") ⟨[.ref s.heap.objs.size,v],[]⟩) R {s with heap:=s.heap.push (newSet w)}:=by
 have RZ:s.heap.get? s.heap.objs.size=none:=lQ _;have cT:∀b o,∀Y:s.heap.get? b=some o,(s.heap.push (newSet w)).get? b=some o:=fun b o e=>Heap.get?_push_of_some _ e;have mG:=S.keeps cT;have DI:=gI.fresh (w:=w) (h:=s.heap);have JD:Shared.TypeIs {s with heap:=s.heap.push (newSet w)} (.ref s.heap.objs.size) "set":=⟨_,Heap.get?_push_size _ rfl,rfl⟩;have R0:=JC cT ck;refine aY ?_ (RX T DH);intro XF XG kK;refine codeAny_mono (codeAny_call_builtin (R:=wants (fun r dw=>r=.none∧∃h' tk,dw={s with heap:=h',toks:=tk}∧Filled w s ns h') bo) PySem.F.called_set.init.plain PySem.F.entry_set_init (check_set_init_1 JD ?_)) fun R1 dw DJ=>?_
 ·unfold Builtin.«set.__init__» noKeywords Builtin.Frozenset.updateFrom;generalize z5:pyIter=XH;clear h
  wp_walk
  subst z5;refine never (BZ mG (a.mono (List.prefix_refl _) (lT cT)) (by cases x<;>exact fc) fun I h' tk aK bE lj cF=>?_);refine wpAny_bind (wpAny_runValue ?_)
  have none_of:∀{h:Heap}{c:Addr},∀Y:(∀b o,∀Y:s.heap.get? b=some o,h.get? b=some o),∀Y:h.get? c=none,c∉am∧B.get? c=none:=fun{h c} k e=>by
   refine⟨fun hm=>?_,?_⟩
   ·refine aj ?_ (S.there hm);intro o;refine ar ?_;intro cA _;cases e.symm.trans (k _ _ cA)
   ·cases q:B.get? c with
    |none=>rfl
    |some o=>cases e.symm.trans (k _ _ (S.base _ o q))
  have JE:=none_of (fun Y Y e=>e) RZ;have tU:=none_of cT bE
  have R2:s.heap.objs.size≠I:=fun e=>by
   refine bG ?_ DI;clear DI;intro a9 ep t;refine ar ?_;intro g _;rw[e,bE]at g;cases g
  refine RO (B:=B) (x:=x) (by exact bR) fc tU.1 tU.2 JE.1 JE.2 R2 hlen (ns.length-0) 0 [] rfl (mG.keeps aK) cF lj (DI.at_ w fun o q=>aK _ _ q) (Nat.zero_le _) (by simp) fun af JA cur zY uy lh=>?_;show wpAny _ _ _ _ _ _;refine wpAny_pure ?_;show wpAny _ _ (ret Value.none) _ _ _;refine wpAny_pure ⟨rfl,af,JA,rfl,cur,uy,lh,fun b o e=>?_⟩;exact zY b o (Nat.ne_of_lt (Heap.lt_size e)) (fun q=>by cases bE.symm.trans (q▸cT _ _ e)) (aK _ _ (cT _ _ e))
 ·cases R1 with
  |error e=>exact DJ.elim
  |ok dD=>cases dD with
   |ret r=>
    obtain⟨rfl,h',tk,rfl,bD⟩:=DJ;exact h h' tk bD
   |_=>exact DJ.elim
end
set_option tactic.hygienic true in
theorem called_set:b8 prog w B k (.type "set") (one DG):=vN fun{A s am st Q x v} aL S a q=>by
 refine aj ?_ q;clear q;intro ns;refine aY ?_;intro DK hlen bb
 obtain⟨T,DH,ck,fc⟩:∃T,(T="list"∨T="tuple")∧s.TypeIs v T∧ju x st=some (ns.map .int):=by
  rcases G8 DK with rfl|e
  ·refine bG ?_ a.m6;intro b items n;refine aY ?_;rintro rfl bf _;exact⟨"tuple",.inr rfl,⟨_,bf,rfl⟩,DK⟩
  ·refine dF ?_ (S.listAt a e);intro _ b vs m;refine dH ?_;rintro rfl rfl _ _ aD _;exact⟨"list",.inl rfl,⟨_,aD,rfl⟩,e⟩
 have I {JF:Around} (bR:JF.handled=none):=@RY prog w B JF s v ns am st x bR S a fc hlen T DH ck;have fin:∀h' tk,∀Y:Filled w s ns h',dC prog w B am s Q (.ref s.heap.objs.size) {s with heap:=h',toks:=tk}:=fun h' tk⟨ms,ae,af,aH⟩=>BQ (po:=.set ms) S aH (lQ _) ae (bb ms ae.nodup af);generalize dC prog w B am s Q=F at fin ⊢;have az:=@Jx prog w;clear a S bb fc hlen DK;refine bZ ?_ PySem.F.called_set.mro;intro c XI XJ;have XK:=PySem.F.called_set.made;have Ab:=PySem.F.called_set.sub;refine wpAny_call (codeAny_of_tree ?_);show wpAny _ _ (callAny (.type "set") _) _ _ _;refine wpAny_pure ⟨Code.quiet_builtin _ (by decide+kernel),codeAny_builtin PySem.F.entry_type_call ?_⟩;rw[Around.under_plain (weight_type_call_type "set" [v] []) rfl];have ae:=PySem.F.called_set.notType;have af:=PySem.F.called_set.canCreate;have XM:=PySem.F.typeCall_set_1 v
 repeat (any_goals (first|assumption|wp_step))
 refine codeAny_mono (Jx v (E:=bo) (Q₁:=fun obj ba=>obj=.ref s.heap.objs.size∧ba={s with heap:=s.heap.push (newSet w)}) ⟨rfl,rfl⟩) fun r ba aC=>?_;cases r with
 |error e=>exact aC.elim
 |ok dD=>
  cases dD with
  |ret obj=>
   refine ar ?_ aC;clear aC;rintro rfl rfl;have cT:∀b o,∀Y:s.heap.get? b=some o,(s.heap.push (newSet w)).get? b=some o:=fun b o e=>Heap.get?_push_of_some _ e;have JD:Shared.TypeIs {s with heap:=s.heap.push (newSet w)} (.ref s.heap.objs.size) "set":=⟨_,Heap.get?_push_size _ rfl,rfl⟩;have R0:=JC cT ck;have qZ:=PySem.F.called_set.init.lookup;have Du:=PySem.F.called_set.init.bind (.ref s.heap.objs.size)
   repeat (any_goals (first|assumption|wp_step))
   refine I (by exact aL.1) fun h' tk bD=>?_
   repeat (any_goals (first|assumption|wp_step))
   exact fin h' tk bD
  |_=>exact aC.elim
end
end Mine
end
section
namespace Mine
variable{prog:Program}{w:World}{B:Heap}{k:Nat}
noncomputable def setAt:∀Y:ah,∀Y:St,Option (List Int)
 |.ref n,st=>match st[n]? with
  |some (.set ns)=>some ns
  |_=>none
 |_,_=>none
set_option tactic.hygienic true in
theorem bh.setAt{am:List Addr}{h:Heap}{st:St}{x:ah}{v:Value}{ns:List Int}(S:bh prog w B am h st)(ai:bc am h x v)(e:setAt x st=some ns):∃a,v=.ref a∧a∈am∧gI w h a ns:=by
 cases ai<;>simp only[Mine.setAt]at e<;>first|(cases e;done)|skip
 rename_i n a az
 split at e
 ·rename_i jR bb;cases e
  refine aj ?_ (S.at_ bb);intro r5;refine ar ?_;intro k8 bx;rw[az]at k8;cases k8;exact⟨a,rfl,List.mem_of_getElem? az,bx⟩
 ·cases e
theorem R3{R:∀Y:ah,∀Y:Value,Prop} {kvs:List (Int×ah)} {aB:List (Int×Value)} (p:Paired (fun(x:Int×ah)(y:Int×Value)=>x.1=y.1∧R x.2 y.2) kvs aB):aB.map (·.1)=kvs.map (·.1):=by
 induction p with
 |nil=>rfl
 |cons r _ ih=>rw[List.map_cons,List.map_cons,ih,r.1]
theorem R4{A:Around}{s:Shared}{am:List Addr}{st:St}{x:ah}{v:Value}{kvs:List (Int×ah)}{F:∀Y:List Value,∀Y:Shared,Prop} (aL:A.handled=none) (hs:∃o,B.get? sysModules=some o) (S:bh prog w B am s.heap st) (aN:bc am s.heap x v) (e:dictAt x st=some kvs) (hlen:kvs.length≤1000000)
 (h:∀(vs:List Value)(ba:Shared)(rest:List Int),∀Y:rest.Perm (kvs.map (·.1)),∀Y:c9 am s am ba,∀Y:bh prog w B am ba.heap st,∀Y:bT am ba.heap (rest.map .int) vs,F vs ba):wpAny (model prog w) A (collect v) F bo s:=by
 refine bG ?_ (S.dictAt aN e);intro n a aB;refine dH ?_;rintro rfl rfl hm eL hd aP;have XN:aB.length=kvs.length:=aP.length.symm;have R5:aB.map (·.1)=kvs.map (·.1):=R3 aP;have R6:=yw S hs (List.mem_of_getElem? hm);refine bG ?_ (id hd);intro o a9 ep;refine dH ?_;intro bx aG wd aK Ag kK;have ck:s.TypeIs (.ref a) "dict":=⟨o,bx,aG.1⟩;refine Jf (T:="dict") (id:="") (ns:=kvs.map (·.1)) ck (by decide) (by decide) (by rw[List.length_map];exact hlen) (fun pY bD=>Rr pY bD) ?_ (fun vs h' tk d rest cv iJ hi=>h vs _ rest iJ ⟨⟨h',tk,d,rfl⟩,.of_keeps cv⟩ (S.keeps cv) (bT.By hi)) rfl;intro DL ba ek wY cT wZ mR bD;refine aj ?_ wY;clear wY;rintro bU rfl;have tY:bU.DictAt (intKind prog w) a aB ep:=⟨o,a9,cT _ _ bx,aG,wd,aK,Ag,kK⟩;refine aj ?_ mR;clear mR;intro z8 mR;have hIn:bU.get? bU.objs.size=none:=lQ _;have cP:a≠bU.objs.size:=Nat.ne_of_lt (Heap.lt_size (cT _ _ bx));refine wpAny_pyIter_dict (s:={s with heap:=bU}) R6 tY ?_;refine bD bU.objs.size _ (aB.map (·.1)) _ s.toks s.drawn (fun b o q=>Heap.get?_push_of_some _ q) (G7 cT) (Ru (kvs:=aB) (ep:=ep) aL (fun q=>?_) (fun q=>?_) cP) ⟨0,rfl,Nat.zero_le _,⟨_,Heap.get?_push_size _ rfl,rfl,rfl⟩,tY.at' fun o q=>Heap.get?_push_of_some _ q⟩ (by rw[R5])
 ·have JG:bU.get? DL=some z8:=mR;rw[←q,hIn]at JG;cases JG
 ·rw[←q,bx]at wZ;cases wZ
theorem R7{A:Around}{s:Shared}{am:List Addr}{st:St}{x:ah}{v:Value}{ns:List Int}{F:∀Y:List Value,∀Y:Shared,Prop} (aL:A.handled=none) (S:bh prog w B am s.heap st) (aN:bc am s.heap x v) (e:setAt x st=some ns) (hlen:ns.length≤1000000)
 (h:∀(vs:List Value)(ba:Shared)(rest:List Int),∀Y:rest.Perm ns,∀Y:c9 am s am ba,∀Y:bh prog w B am ba.heap st,∀Y:bT am ba.heap (rest.map .int) vs,F vs ba):wpAny (model prog w) A (collect v) F bo s:=by
 refine aj ?_ (S.setAt aN e);intro a;refine aY ?_;rintro rfl hm dc
 have ck:s.TypeIs (.ref a) "set":=by
  refine bG ?_ dc;clear dc;intro a9 ep t;refine ar ?_;intro g _;exact⟨_,g,rfl⟩
 refine Jf (T:="set") (id:="") (ns:=ns) ck (by decide) (by decide) hlen (fun pY bD=>Rt pY bD) ?_ (fun vs h' tk d rest cv iJ hi=>h vs _ rest iJ ⟨⟨h',tk,d,rfl⟩,.of_keeps cv⟩ (S.keeps cv) (bT.By hi)) rfl;intro DL ba ek wY cT wZ mR bD;refine aj ?_ wY;clear wY;rintro bU rfl
 have cP:a≠DL:=fun q=>by
  refine aj ?_ ck;clear ck;intro o;refine ar ?_;intro bx _;rw[←q,bx]at wZ;cases wZ
 refine RG (s:={s with heap:=bU}) aL (dc.at_ w fun o q=>cT _ _ q) cP mR hlen fun I St rest h' tk d eU bE W eL aP=>?_;refine bD I St rest h' tk d eU ?_ W eL aP;cases q:s.heap.get? I with
 |none=>rfl
 |some o=>have:=cT _ _ q;rw[bE]at this;cases this
noncomputable def DM(x:ah)(Q:∀Y:ah,∀Y:St,Prop) (st:St):Prop:=
 (∃ns:List Int,(listAt x st=some (ns.map .int)∨(∃kvs,dictAt x st=some kvs∧ns=kvs.map (·.1))∨setAt x st=some ns)∧ns.length≤1000000∧∀ys,∀Y:jj uq.blt ns ys,Q (.ref st.length) (st++[.list (ys.map .int)]))∨
 (∃rows:List (List Int),listAt x st=some (rows.map aS)∧rows.length≤1000000∧(∀r∈rows,r≠[])∧∀ys,∀Y:jj gr rows ys,Q (.ref st.length) (st++[.list (ys.map aS)]))
set_option tactic.hygienic true in
theorem q1(hs:∃o,B.get? sysModules=some o):b8 prog w B k (.builtin "sorted") (one DM):=by
 intro A s am st Q xs vs aL S aN q;cases aN with
 |nil=>exact q.elim
 |cons a r=>
  rename_i x v yQ vs';cases r with
  |cons=>exact q.elim
  |nil=>
   rcases q with⟨ns,he,hlen,bb⟩|⟨rows,he,hlen,cP,bb⟩
   ·have core:=fun(Dp:wpAny (model prog w) A.in1 (collect v) (fun vs ba=>∃zs:List Int,zs.Perm ns∧c9 am s am ba∧bh prog w B am ba.heap st∧bT am ba.heap (zs.map .int) vs) bo s)=>
     Dn (Q:=Q) (κ:=uq) (kd:=oneType') (f:=ah.int) (zs₀:=ns) (fun Y v(n:Int)=>∃t,v=.int n t) ⟨(0:Int)⟩ Dp
      (fun h v z r=>by cases r;exact⟨_,rfl⟩) (fun h=>I2) (fun s' vs zs aT r af{G} iY=>I9 r af iY) hlen bb
    rcases he with he|⟨kvs,he,rfl⟩|he
    ·exact QS S a he hlen bb
    ·exact core (R4 (A:=A.in1) aL.1 hs S a he (by simpa using hlen) fun vs ba rest aP bj bk r=>⟨rest,aP,bj,bk,r⟩)
    ·exact core (R7 (A:=A.in1) aL.1 S a he hlen fun vs ba rest aP bj bk r=>⟨rest,aP,bj,bk,r⟩)
   ·exact QT S a he hlen cP bb
end Mine
end
section
namespace Mine
variable{prog:Program}{w:World}{B:Heap}{k:Nat}
structure JH(h:Heap)(f:Addr)(fd:FuncData)(x:Str)(body:Expr)(scope:Scope):Prop where
 at_:∃o,h.get? f=some o∧o.data=.func fd
 body:fd.body=.expr body
 scope:fd.scope=scope
 gl:fd.globals=mainGlobals
 bi:fd.builtins=builtinsNs
 nk:fd.closure=[]
 code:h.CodeRec fd.code fd.qualname
 bind:∀v:Value,bindArgs fd ⟨[v],[]⟩=pure [(x,v)]
theorem R8{A:Around}{s:Shared}{am:List Addr}{st:St}{Q:∀Y:ah,∀Y:St,Prop} {f:Addr} {fd:FuncData} {x:Str} {body:Expr} {scope:Scope} {P:b5} {pv:ah} {v:Value} {n:Nat} (F:JH s.heap f fd x body scope) (aL:gW A (k+1)) (er:B.NoLimit)
 (S:bh prog w B am s.heap st) (aN:bc am s.heap pv v) (av:b3 prog w B (g5 scope.names) k body P) (q:P Q (some pv::List.replicate n none) st)
 (aK:autoParam (scope.kind=.function) jX._auto_1) (R9:autoParam (scope.isCoroutine=false) jX._auto_1) (Sa:autoParam (scope.isGenerator=false) jX._auto_1) (kZ:autoParam (∀y∈scope.names,y.2≠.cell) jD._auto_1)
 (XO:autoParam (varNames scope.names=[x]) jX._auto_1) (zc:autoParam (scope.names.lookup x=some .local) jX._auto_1) (hone:∀y i,∀Y:(n9 0 (varNames scope.names)).lookup y=some i,y=x∧i=0):
 wpAny (model prog w) A (call (.ref f) [v]) (dC prog w B am s Q) bo s:=by
 refine aj ?_ F.at_;intro o;refine ar ?_;intro bx hd;have Cd:=F.scope;subst Cd;refine wpAny_call (codeAny_of_tree ?_);show wpAny _ A.in1 (callAny (.ref f) ⟨[v],[]⟩) _ _ s;refine wpAny_bind (m:=load f) (wpAny_load bx ?_);rw[hd];show wpAny _ A.in1 (callFunction f fd ⟨[v],[]⟩) _ _ s;refine dF ?_ F.code;intro c XQ vs XR;refine cH ?_;intro aG Sb Sd bb;unfold callFunction;rw[aG,F.body,Sa,R9];refine wpAny_bind (m:=field (.ref c) 1) (wpAny_field Sb Sd bb (wpAny_bind (wpAny_pure ?_)));rw[F.bind v,F.nk,F.gl,F.bi];refine wpAny_bind (wpAny_pure ?_);refine wpAny_bind (wpAny_newFunctionEnv kZ (fun y au=>by rw[List.mem_singleton.mp au];exact zc) (fun bU gk zL=>?_) aK);have uC:∀b o,∀Y:s.heap.get? b=some o,bU.get? b=some o:=fun b o e=>zL.extBut b o (Nat.ne_of_lt (Heap.lt_size e)) (Heap.get?_push_of_some _ e);refine wpAny_bind (wpAny_enterFrame ((er.keeps S.base).fresh _ zL) (by have:=aL.2.1;show A.depth<recursionLimit;exact aA (.b (.a (.a .p (.b .r)) (.k 100)) .q (.t .p .q)) rfl this) (wpAny_pure ⟨rfl,?_⟩));refine codeAny_of_tree ?_;show wpAny _ (A.deeper _) (do point;ret (←(eval body _).onRaise (leaving _))) _ _ _;refine wpAny_bind (wpAny_point (wpAny_bind (wpAny_onRaise ?_)));have bk:=S.keeps uC
 have off:s.heap.objs.size∉am∧B.get? s.heap.objs.size=none:=⟨fun hm=>absurd (S.lt hm) (Nat.lt_irrefl _),by
  cases e:B.get? s.heap.objs.size with
  |none=>rfl
  |some o=>exact absurd (Heap.lt_size (S.base _ o e)) (Nat.lt_irrefl _)⟩
 have R:d7 B (g5 fd.scope.names) (newEnv fd.scope s.heap.objs.size mainGlobals [] (fd.qualname++".<locals>.") (some f) (.ref c) none builtinsNs) am bU (some pv::List.replicate n none):=by
  refine⟨aK,rfl,rfl,rfl,(fun Y h=>nomatch h),fun x y i=>B6,⟨_,gk⟩,fun b av=>?_,.nil,fun c aG=>(nomatch aG),fun y i au=>?_⟩
  ·rw[List.mem_singleton.mp av];refine bG ?_ gk;clear gk;intro o a9 ep;refine aY ?_;intro e d _;exact⟨⟨o,e,by rintro(⟨_,_,_,q⟩|⟨_,_,q⟩|⟨_,_,q⟩)<;>rw[d]at q<;>cases q⟩,off⟩
  ·refine ar ?_ (hone y i au);rintro rfl rfl;refine⟨some v,.inl ⟨zc,_,gk,by simp⟩,fun yG e=>?_⟩;cases e
   exact⟨v,rfl,aN.mono (List.prefix_refl _) (lT uC)⟩
 have mD:gW (A.deeper (newEnv fd.scope s.heap.objs.size mainGlobals [] (fd.qualname++".<locals>.") (some f) (.ref c) none builtinsNs)) k:=⟨aL.1,by have:=aL.2.1;show A.depth+1+k+100<recursionLimit;exact aA (.b (.a (.a .p (.b .q)) (.k 100)) .r (.t (.a (.a (.b .p) .q) (.k 100)) .r)) rfl this,by have:=aL.2.2;show A.units+3+20*k+100<cLine;exact aA (.b (.a (.a .p (.m 20 (.b .q))) (.k 100)) .r (.t (.a (.a (.a .p (.k 3)) (.m 20 .q)) (.k 100)) .r)) rfl this⟩;refine wpAny_mono (av (s:={s with heap:=bU,toks:=s.toks+1}) mD R bk q) (fun r s' p=>wpAny_pure ?_) fun Y Y z=>z.elim;exact dC.over (s':={s with heap:=bU,toks:=s.toks+1}) (.heap (.of_keeps uC)) p
end Mine
end
section
namespace Mine
variable{prog:Program}{w:World}{B:Heap}{ak:dB}{k:Nat}
noncomputable def nE(h:Heap)(c P:Addr):Prop:=
 ∃o vs file q2 flags q3 q4 text tt,h.get? c=some o∧o.cls=.type "code"∧o.data=.fields vs∧vs[11]?=some (.ref P)∧vs.getD 18 .none=.str file q2∧vs.getD 7 .none=.int flags q3∧vs.getD 9 .none=.bool q4∧vs.getD 10 .none=.int text tt∧c≠P
theorem nE.keeps{h h':Heap}{c P:Addr}(x:nE h c P)(k:∀b o,∀Y:h.get? b=some o,h'.get? b=some o):nE h' c P:=
 by
 refine Gy ?_ x;clear x;intro o vs file q2 flags q3 q4 text tt;refine ar ?_;intro a r;exact Mt o vs file q2 flags q3 q4 text tt ⟨k _ _ a,r⟩
theorem nE.code{h:Heap}{c P:Addr}{dq:Array Value}(x:nE h c P)(dj:h.get? P=some ⟨.none,none,.fields dq,#[]⟩)(bf:TriplesOk dq.toList):h.IsCode c P dq:=by
 obtain⟨o,vs,file,q2,flags,q3,q4,text,tt,a,aG,hd,um,j1,e7,vB,BA,cP⟩:=x;have Se:vs.getD 11 .none=.ref P:=by rw[Array.getD_eq_getD_getElem?,um];rfl
 exact⟨o,vs,file,q2,flags,q3,q4,text,tt,_,a,hd,Se,j1,e7,vB,BA,dj,rfl,bf,cP⟩
theorem nE.tab{h:Heap}{c P:Addr}{dq:Array Value}(x:nE h c P)(dj:h.get? P=some ⟨.none,none,.fields dq,#[]⟩):h.TableAt c P dq:=by
 refine Gy ?_ x;clear x;intro o vs file q2 flags q3 q4 text tt;refine eY ?_;intro a aG hd um _;exact⟨⟨o,vs,a,aG,hd,um⟩,dj⟩
noncomputable def Ah(B:Heap):Prop:=∃fC bm bO,B.Ns mainGlobals fC∧fC "__builtins__"=some (.ref bm)∧bm≠builtinsNs∧B.get? bm=some bO∧bO.cls=.type "module"∧bO.dict=some builtinsNs∧bO.data=.plain
noncomputable def w0(name qual:Str)(params:Arguments)(body:Expr)(scope:Scope)(pm iQ:Value):FuncData:=
 {name,qualname:=qual,params,body:=.expr body,scope,globals:=mainGlobals,closure:=[],defaults:=.none,kwdefaults:=.none,doc:=.none,pyModule:=pm,annotations:=none,code:=iQ,closureTuple:=.none,builtins:=builtinsNs}
theorem Sf{p pos:Pos}{c v:Value}:∀{l:List Value},∀Y:TriplesOk l,∀Y:codeAmong p (l++[rawInt pos.line,rawInt pos.col,c])=some v,codeAmong p l=some v∨v=c:=by
 intro l
 fun_induction TriplesOk l with
 |case1=>
  intro _ e;simp only[List.nil_append,rawInt,codeAmong]at e
  split at e
  ·exact .inr (Option.some.inj e).symm
  ·cases e
 |case2 a t b u x rest ih=>
  intro h e;simp only[List.cons_append,codeAmong]at e ⊢
  split at e
  ·rename_i aG;rw[if_pos aG];exact .inl e
  ·rename_i aG;rw[if_neg aG];exact ih h e
 |case3 l ae af=>intro h;exact h.elim
theorem Sg{A:Around}{env:Env}{s:Shared}{am:List Addr}{loc:Loc}{st:St}{c P:Addr}{uD:Str}{j:Nat}{params:Arguments}{body:Expr}{scope:Scope}{pos:Pos}{F:∀Y:Value,∀Y:Shared,Prop}
 (R:d7 B ak env am s.heap loc) (S:bh prog w B am s.heap st) (Ai:ak.code=some (.ref c,uD)) (bb:uD++"<lambda>"=nV) (bR:nE B c P) (uE:Ah B) (eL:st[j]?=some (.tab P)) (b9:closureFor scope env=pure [])
 (Sh:defaultsOf params env=([],[]))
 (h:∀f pm iQ s',∀Y:c9 am s am s',∀Y:bh prog w B am s'.heap st,∀Y:f∉am,∀Y:s'.heap.get? f=some {cls:=.type "function",data:=.func (w0 "<lambda>" nV params body scope pm iQ)},∀Y:tu s'.heap iQ nV,F (.ref f) s'):
 wpAny (model prog w) A (eval (.Lambda params body scope pos) env) F bo s:=by
 rw[arm_eval_Lambda,Sh];refine ar ?_ (R.yl _ Ai);intro DN heq;dsimp only at DN heq;show wpAny _ A (do let w2 ←evalAll [];let Si ←holding w2 (evalAllOpt []);makeFunction "<lambda>" (env.qual++"<lambda>") params (.expr body) scope env w2 Si [] pos pos.line) F _ s;rw[heq,bb];refine wpAny_bind (wpAny_pure (wpAny_bind (wpAny_holding (wpAny_pure ?_))));rw[makeFunction_eq];simp only[List.zip_nil_right,List.filterMap_nil,List.isEmpty_nil,if_true,pure_bind];unfold makeTail;rw[b9,R.nZ];refine wpAny_bind (wpAny_pure ?_);simp only[List.isEmpty_nil,if_true];refine wpAny_bind (wpAny_pure ?_);obtain⟨a,aJ,rfl,dq,dj,bf,zZ⟩:=S.at_ eL;refine bG ?_ uE;clear uE;intro fC bm bO;refine nS ?_;intro g jM gz kG l9 mf Aj;have DO:=bR.keeps S.base;have JI:B.get? a=none:=S.off _ (List.mem_of_getElem? aJ)
 have Sj:mainGlobals≠a:=fun e=>by
  refine bG ?_ g;clear g;intro o a9 ep;refine ar ?_;intro aR _;rw[e,JI]at aR;cases aR
 have Sk:bm≠a:=fun e=>by rw[e,JI]at kG;cases kG
 have cL:=g.keeps S.base;cases bq:codeAmong pos dq.toList with
 |some iQ=>
  refine wpAny_bind (wpAny_functionCode_hit DN (DO.code dj bf) bq ?_);refine wpAny_bind (wpAny_builtinsFor cL jM gz (S.base _ _ kG) l9 mf Aj ?_);refine wpAny_bind (wpAny_nsGet cL ?_);refine wpAny_bind (wpAny_pure (wpAny_newObj_type ?_ (by size_fits)));have cv:∀b o,∀Y:s.heap.get? b=some o,(s.heap.push {cls:=.type "function",data:=.func (w0 "<lambda>" nV params body scope ((fC "__name__").getD .none) iQ)}).get? b=some o:=fun b o e=>Heap.get?_push_of_some _ e;refine h _ _ iQ _ (.heap (tk:=s.toks) (.of_keeps cv)) (S.keeps cv) (fun hm=>absurd (S.lt hm) (Nat.lt_irrefl _)) (Heap.get?_push_size _ rfl) ?_;exact(zZ _ _ bq).gH (lT cv)
 |none=>
  refine wpAny_bind (wpAny_functionCodeX DN (DO.code dj bf) (DO.tab dj) bq fun iw h' tk ai d5 bC Y JJ oJ mz=>?_);have g2:=cL.extBut ai Sj;refine wpAny_bind (wpAny_builtinsFor g2 jM gz (ai _ _ Sk (S.base _ _ kG)) l9 mf Aj ?_);refine wpAny_bind (wpAny_nsGet g2 ?_);refine wpAny_bind (wpAny_pure (wpAny_newObj_type ?_ (by size_fits)))
  have JK:tu h' (.ref iw) nV:=by
   refine dF ?_ JJ;clear JJ;intro c₂ Sl Sm cB;refine cH ?_;intro Sn JL So df;cases Sn
   refine aj ?_ mz;clear mz;intro uF;refine cH ?_;intro _ _;refine bZ ?_;intro XS XT;refine aY ?_;intro JM Sp _;intro _;rw[JL]at JM;cases JM;exact⟨iw,Sl,Sm,cB,rfl,JL,Sp,So,df⟩
  refine ar ?_ (S.set (h':=h') (o:=.tab a) aJ (fun b o av e=>ai b o av e) fun du=>by
   refine⟨rfl,_,oJ.2,?_,fun p iQ e=>?_⟩
   ·have:(dq++#[rawInt pos.line,rawInt pos.col,Value.ref iw]).toList=dq.toList++[rawInt pos.line,rawInt pos.col,.ref iw]:=by simp
    rw[this];exact TriplesOk_snoc _ _ _ _ bf
   ·have:(dq++#[rawInt pos.line,rawInt pos.col,Value.ref iw]).toList=dq.toList++[rawInt pos.line,rawInt pos.col,.ref iw]:=by simp
    rw[this]at e;rcases Sf bf e with e|rfl
    ·exact(zZ _ _ e).gH du
    ·exact JK);intro mG bW
  have Sq:st.set j (.tab a)=st:=by
   apply List.ext_getElem?;intro i;by_cases e:j=i
   ·subst e;rw[List.getElem?_set_self (List.getElem?_eq_some_iff.mp eL).1,eL]
   ·rw[List.getElem?_set_ne e]
  rw[Sq]at mG;have cv:∀b o,∀Y:h'.get? b=some o,(h'.push {cls:=.type "function",data:=.func (w0 "<lambda>" nV params body scope ((fC "__name__").getD .none) (.ref iw))}).get? b=some o:=fun b o e=>Heap.get?_push_of_some _ e;refine h _ _ (.ref iw) _ (.heap (tk:=tk) (bW.trans (.of_keeps cv))) (mG.keeps cv) (fun hm=>absurd (mG.lt hm) (Nat.lt_irrefl _)) (Heap.get?_push_size _ rfl) ?_;exact JK.gH (lT cv)
end Mine
end
section
namespace Mine
variable{prog:Program}{w:World}{B:Heap}{ak:dB}{k:Nat}
theorem gN.gH{h h':Heap}{v:Value}{ns:List Int}(du:fR h h'):∀Y:gN h v ns,gN h' v ns
 |⟨a,xs,n,e,bf,hi⟩=>⟨a,xs,n,e,du _ _ (.inl ⟨rfl,_,_,rfl⟩) bf,hi⟩
theorem iX.gH{h h':Heap}{v:Value}{ns:List Int}(du:fR h h'):∀Y:iX h v ns,iX h' v ns:=by
 refine jr ?_;intro a u n t m;refine cH ?_;intro e bf az hi;exact⟨a,u,n,t,m,e,du _ _ (.inl ⟨rfl,_,_,rfl⟩) bf,az,hi.gH du⟩
theorem Ss(q a:Addr):Builtin.«list.sort» ⟨[.ref a],[(Str.ofString "key",.ref q)]⟩=(do
 let items ←Builtin.List.listItems (.ref a)
 Builtin.List.listUpdate (.ref a) fun Y=>#[]
 let before ←seqEpoch a
 let held ←newTuple items.toList
 let uG ←newList []
 holding [held,uG] do
  rule "list.sort.key"
  for x in items do
   match ←(call (.ref q) [x]).attempt with
   |.ok k=>Builtin.List.listUpdate uG (·.push k)
   |.error e=>
    rule "list.sort.key-raised"
    let made ←Builtin.List.listItems uG
    Builtin.List.listUpdate uG fun Y=>#[]
    letGo made.toList.reverse [e]
    Builtin.List.listUpdate (.ref a) fun Y=>items;throw e
  let keys ←Builtin.List.listItems uG
  let kind ←if items.size<2 then pure general' else keyKind' keys
  let ((),s) ←(if items.size<2 then pure ()else sortRuns').run (SortSt.mk' kind (keys.zip items) #[] 7 none)
  let sorted:=(arrOf s).map (·.2)
  Builtin.List.listUpdate uG fun Y=>#[]
  letGo ((arrOf s).map (·.1)).toList (failedOf s).toList
  let touched:=(←seqEpoch a) != before
  Builtin.List.listUpdate (.ref a) fun Y=>sorted
  if let some e:=failedOf s then rule "list.sort.comparison-raised";throw e
  if touched then rule "list.sort.modified";raiseError "ValueError" "list modified during sort"
  ret .none):=rfl
noncomputable abbrev q6(h:Heap)(vs:List Value)(rs:List (List Int)):Prop:=Paired (iX h) vs rs
theorem q6.gH{h h':Heap}(du:fR h h'){vs:List Value}{rs:List (List Int)}(p:q6 h vs rs):q6 h' vs rs:=by
 induction p with
 |nil=>exact .nil
 |cons a _ ih=>exact .cons (a.gH du) ih
theorem q6.all{h:Heap}{vs:List Value}{rs:List (List Int)}(p:q6 h vs rs):∀v∈vs,∃r,iX h v r:=fun v aN=>(GF p v aN).elim fun r x=>⟨r,x.2⟩
theorem Su{A:Around}{am:List Addr}{st:St}{f eS:Addr}{body:∀Y:Value,∀Y:PUnit,Sem (ForInStep PUnit)} (nD:eS∉am) (Ak:B.get? eS=none)
 (Sv:∀(x:Value)(s':Shared)(F:∀Y:ForInStep PUnit,∀Y:Shared,Prop),∀Y:wpAny (model prog w) A (call (.ref f) [x]) (fun key fj=>wpAny (model prog w) A (Builtin.List.listUpdate (.ref eS) (·.push key)) (fun Y fF=>F (.yield ⟨⟩) fF) bo fj) bo s',wpAny (model prog w) A (body x ⟨⟩) F bo s')
 {lA:∀Y:Heap,Prop} (DP:∀h h',∀Y:lA h,∀Y:(∀b o,∀Y:b∉am,∀Y:b≠eS,∀Y:h.get? b=some o,h'.get? b=some o),lA h')
 (pJ:∀(s':Shared)(v:Value)(ns:List Int),∀Y:lA s'.heap,∀Y:bh prog w B am s'.heap st,∀Y:ns.length<1000000,∀Y:bc am s'.heap (aS ns) v,wpAny (model prog w) A (call (.ref f) [v]) (fun key fj=>c9 am s' am fj∧bh prog w B am fj.heap st∧iX fj.heap key ns) bo s'):
 ∀(vs:List Value)(rs:List (List Int)){s:Shared}{Q:∀Y:PUnit,∀Y:Shared,Prop} (aB:List Value) (done:List (List Int)) (c:Nat),∀Y:lA s.heap,∀Y:bh prog w B am s.heap st,∀Y:bT am s.heap (rs.map aS) vs,∀Y:(∀r∈rs,r.length<1000000),
  ∀Y:s.heap.get? eS=some (seqObj "list" aB.toArray c),∀Y:q6 s.heap aB done,∀Y:done.length+rs.length≤1000000,
  ∀Y:(∀h' tk d r6 iw,∀Y:(∀b o,∀Y:b∉am,∀Y:b≠eS,∀Y:s.heap.get? b=some o,h'.get? b=some o),∀Y:fR s.heap h',∀Y:bh prog w B am h' st,∀Y:h'.get? eS=some (seqObj "list" r6.toArray iw),∀Y:q6 h' r6 (done++rs),Q ⟨⟩ {s with heap:=h',toks:=tk,drawn:=d}),
  wpAny (model prog w) A (forIn vs PUnit.unit body) Q bo s:=by
 intro vs
 induction vs with
 |nil=>
  intro rs s Q aB done c aV S aN gO aK ji hlen a7;cases rs with
  |cons=>cases aN
  |nil=>
   rw[List.forIn_nil];exact wpAny_pure (a7 s.heap s.toks s.drawn aB c (fun Y Y Y Y e=>e) (fun Y Y Y e=>e) S aK (by simpa using ji))
 |cons v vs ih=>
  intro rs s Q aB done c aV S aN gO aK ji hlen a7;cases rs with
  |nil=>cases aN
  |cons r rs=>
   cases aN with
   |cons a aN=>
    rw[List.forIn_cons];refine wpAny_bind (Sv _ _ _ (wpAny_mono (pJ s v r aV S (gO r (List.mem_cons_self ..)) a) (fun key ba uC=>?_) fun Y Y z=>z));refine aY ?_ uC;clear uC;intro bj bk uz;have Sw:=S.gH bj.ext;have DQ:=bj.ext.keep _ _ nD aK;have c8:aB.length=done.length:=ji.length;have iA:1000000≤sizeLine:=by decide
    simp only[List.length_cons]at hlen;refine listUpdate_at DQ rfl ?_ (by rw[List.size_toArray];exact bA (.i 1000000 (.l (.a .r (.b .s)) (.k 1000000)) (.i 1000000 (.e .p .r) (.i 999999 (.l (.k 1000000) .q) (.G 999999 (.l .p .q))))) rfl hlen c8 iA) (by show(aB.toArray.push key).size≤_;rw[Array.size_push,List.size_toArray];exact bA (.i 1000000 (.l (.a .r (.b .s)) (.k 1000000)) (.i 1000000 (.e .p .r) (.i 999999 (.l (.k 1000000) .q) (.G 999999 (.l (.b .p) (.b .q)))))) rfl hlen c8 iA);have DR:¬Kept (seqObj "list" aB.toArray c):=tB rfl;have cP:∀b o,∀Y:b≠eS,∀Y:ba.heap.get? b=some o,(ba.heap.update eS (Obj.mapSeq (·.push key))).get? b=some o:=fun b o av e=>by rw[Heap.get?_update_ne _ _ _ _ av];exact e
    refine ar ?_ (bk.gY cP ⟨⟨_,DQ,DR⟩,nD,Ak⟩);intro cw lU;have Al:=get?_update_seq DQ (·.push key);have cz:aB.toArray.push key=(aB++[key]).toArray:=by simp
    rw[cz]at Al;have kD:∀b o,∀Y:b∉am,∀Y:b≠eS,∀Y:s.heap.get? b=some o,(ba.heap.update eS (Obj.mapSeq (·.push key))).get? b=some o:=fun b o ae af e=>cP b o af (bj.ext.keep b o ae e);have du:fR s.heap (ba.heap.update eS (Obj.mapSeq (·.push key))):=fun b o bx e=>lU b o bx (Sw b o bx e);refine ih rs (aB++[key]) (done++[r]) _ (DP _ _ aV kD) cw (aN.mono (List.prefix_refl _) du) (fun c5 j5=>gO c5 (List.mem_cons_of_mem _ j5)) Al ((ji.gH du).snoc (uz.gH lU)) (by simp;exact aq (.a (.a .p (.b .q)) (.k 1000000) (.l (.a (.b .p) .q) (.k 1000000))) rfl hlen) fun h' tk d r6 iw iU DS DT DU w3=>?_;obtain⟨⟨bU,XU,HB,rfl⟩,_⟩:=bj;exact a7 h' tk d r6 iw (fun b o ae af e=>iU b o ae af (kD b o ae af e)) (fun b o bx e=>DS b o bx (du b o bx e)) DT DU (by simpa using w3)
end Mine
end
section
namespace Mine
variable{prog:Program}{w:World}{B:Heap}{ak:dB}{k:Nat}
theorem Sx{α β:Type}{R:∀Y:α,∀Y:β,Prop} {xs ys:List β} (p:xs.Perm ys):∀{rs:List α},∀Y:Paired R rs ys,∃zs,zs.Perm rs∧Paired R zs xs:=by
 induction p with
 |nil=>intro rs h;exact⟨rs,.refl _,h⟩
 |cons x p ih=>
  intro rs h;cases h with
  |cons a h=>
   refine aj ?_ (ih h);intro zs;refine ar ?_;intro aP aT;exact⟨_::zs,aP.cons _,.cons a aT⟩
 |swap x y l=>
  intro rs h;cases h with
  |cons a h=>cases h with
   |cons b h=>exact⟨_,.swap ..,.cons b (.cons a h)⟩
 |trans p q pW qV=>
  intro rs h;refine aj ?_ (qV h);intro zs;refine ar ?_;intro aP aT;refine aj ?_ (pW aT);intro Sy;refine ar ?_;intro iJ iS;exact⟨Sy,iJ.trans aP,iS⟩
theorem Paired.Sz{α β:Type}{R:∀Y:α,∀Y:β,Prop} {zs:List α} {xs:List β} (h:Paired R zs xs):∀z∈zs,∃x,x∈xs∧R z x:=GF h
theorem SA{α β:Type}{R:∀Y:α,∀Y:β,Prop} {kf:∀Y:β,α} {T:∀Y:α,∀Y:α,Prop} (aK:∀z x,∀Y:R z x,kf x=z) {zs:List α} {xs:List β} (p:Paired R zs xs) (aP:xs.Pairwise (fun p q=>T (kf p) (kf q))):zs.Pairwise T:=by
 induction p with
 |nil=>exact .nil
 |cons a r ih=>
  rw[List.pairwise_cons]at aP ⊢;refine⟨fun y au=>?_,ih aP.2⟩;refine aj ?_ (Paired.Sz r y au);intro x;refine ar ?_;intro ai aC;have:=aP.1 x ai;rw[aK _ _ a,aK _ _ aC]at this;exact this
theorem SD{am:List Addr}{h:Heap}{aB vs:List Value}{rs:List (List Int)}(p:q6 h aB rs)(aN:bT am h (rs.map aS) vs):Paired (fun(r:List Int)(p:Keyed)=>iX h p.1 r∧bc am h (aS r) p.2) rs (aB.zip vs):=by
 induction p generalizing vs with
 |nil=>exact .nil
 |cons a _ ih=>
  refine bZ ?_ (bT.cons_inv aN);intro v us;refine aY ?_;rintro rfl c d;exact .cons ⟨a,c⟩ (ih d)
theorem SE{am:List Addr}{h:Heap}{R:∀Y:List Int,∀Y:Keyed,Prop} (fe:∀r p,∀Y:R r p,bc am h (aS r) p.2) {zs:List (List Int)} {xs:List Keyed} (p:Paired R zs xs):bT am h (zs.map aS) (xs.map (·.2)):=by
 induction p with
 |nil=>exact .nil
 |cons a _ ih=>exact .cons (fe _ _ a) ih
theorem SG{A:Around}{s:Shared}{am:List Addr}{st:St}{a f:Addr}{vs:List Value}{rs:List (List Int)}{n:Nat}{P:∀Y:Fin,∀Y:Shared,Prop} {lA:∀Y:Heap,Prop} (dQ:A.units<cLine) (bx:s.heap.get? a=some (seqObj "list" vs.toArray n)) (aJ:a∉am) (g6:B.get? a=none)
 (S:bh prog w B am s.heap st) (aN:bT am s.heap (rs.map aS) vs) (hlen:rs.length≤1000000) (gO:∀r∈rs,r.length<1000000)
 (DP:∀h h',∀Y:lA h,∀Y:(∀b o,∀Y:b∉am,∀Y:b≠a,∀Y:h.get? b=some o,h'.get? b=some o),lA h') (aV:lA s.heap)
 (SH:∀eS,∀Y:s.heap.get? eS=none,∀h h',∀Y:lA h,∀Y:(∀b o,∀Y:b∉am,∀Y:b≠eS,∀Y:h.get? b=some o,h'.get? b=some o),lA h')
 (pJ:∀(s':Shared)(v:Value)(ns:List Int),∀Y:lA s'.heap,∀Y:bh prog w B am s'.heap st,∀Y:ns.length<1000000,∀Y:bc am s'.heap (aS ns) v,wpAny (model prog w) A (call (.ref f) [v]) (fun key fj=>c9 am s' am fj∧bh prog w B am fj.heap st∧iX fj.heap key ns) bo s')
 (h:∀(out:List Value) zs h' tk d m,∀Y:(∀b o,∀Y:b∉am,∀Y:b≠a,∀Y:s.heap.get? b=some o,h'.get? b=some o),∀Y:bh prog w B am h' st,∀Y:h'.get? a=some (seqObj "list" out.toArray m),∀Y:bT am h' (zs.map aS) out,∀Y:jj oH.blt rs zs,P (.done (.ret .none)) {s with heap:=h',toks:=tk,drawn:=d}):
 wpAny (model prog w) A (Builtin.«list.sort» ⟨[.ref a],[(Str.ofString "key",.ref f)]⟩) P bo s:=by
 rw[Ss];have ib:a<s.heap.objs.size:=Heap.lt_size bx;have iA:1000000≤sizeLine:=by decide
 have j7:vs.length=rs.length:=by rw[←aN.length,List.length_map]
 refine wpAny_bind (listItems_at bx rfl ?_);refine wpAny_bind (listUpdate_at bx rfl ?_ (by rw[List.size_toArray];exact aA (.a .r (.k 1000000) (.a (.k 1000000) .q (.c .p .r (.l .p .q)))) rfl hlen iA j7) (Nat.zero_le _));obtain⟨aR,wQ⟩:∃aR,(s.heap.update a (Obj.mapSeq fun Y=>#[])).get? a=some (seqObj "list" #[] aR):=⟨_,get?_update_seq bx (fun Y=>#[])⟩;refine wpAny_bind (seqEpoch_at wQ rfl ?_);refine wpAny_bind (wpAny_newTuple ?_ (by show vs.length≤_;exact aA (.a .r (.k 1000000) (.a (.k 1000000) .q (.c .p .r (.l .p .q)))) rfl hlen iA j7));refine wpAny_bind (wpAny_newList ?_ (Nat.zero_le _));refine wpAny_holding ?_;have cT:∀b o,∀Y:b≠a,∀Y:s.heap.get? b=some o,(s.heap.update a (Obj.mapSeq fun Y=>#[])).get? b=some o:=fun b o av e=>by rw[Heap.get?_update_ne _ _ _ _ av];exact e
 have SI:¬Kept (seqObj "list" vs.toArray n):=tB rfl;refine ar ?_ (S.gY cT ⟨⟨_,bx,SI⟩,aJ,g6⟩);intro mG JB;have eU:∀b o,∀Y:(s.heap.update a (Obj.mapSeq fun Y=>#[])).get? b=some o,(((s.heap.update a (Obj.mapSeq fun Y=>#[])).push (seqObj "tuple" vs.toArray 0)).push (seqObj "list" #[] 0)).get? b=some o:=fun b o e=>Heap.get?_push_of_some _ (Heap.get?_push_of_some _ e);have Ae:=mG.keeps eU;have JN:=eU _ _ wQ;have nD:(((s.heap.update a (Obj.mapSeq fun Y=>#[])).push (seqObj "tuple" vs.toArray 0)).push (seqObj "list" #[] 0)).get? ((s.heap.update a (Obj.mapSeq fun Y=>#[])).push (seqObj "tuple" vs.toArray 0)).objs.size=some (seqObj "list" #[] 0):=Heap.get?_push_size _ rfl;generalize XV:((s.heap.update a (Obj.mapSeq fun Y=>#[])).push (seqObj "tuple" vs.toArray 0)).push (seqObj "list" #[] 0)=oE at eU Ae JN nD;generalize SJ:((s.heap.update a (Obj.mapSeq fun Y=>#[])).push (seqObj "tuple" vs.toArray 0)).objs.size=eS at nD
 have w4:s.heap.get? eS=none:=by
  cases e:s.heap.get? eS with
  |none=>rfl
  |some o=>
   have:=Heap.lt_size e;have af:s.heap.objs.size+1=eS:=by rw[←SJ,size_push',Heap.size_update]
   rw[←af]at this;exact absurd this (Nat.not_lt.mpr (Nat.le_succ _))
 have JO:eS∉am:=fun hm=>by refine aj ?_ (S.there hm);intro o;refine ar ?_;intro e _;rw[w4]at e;cases e
 have Ak:B.get? eS=none:=by
  cases e:B.get? eS with
  |none=>rfl
  |some o=>have:=S.base _ o e;rw[w4]at this;cases this
 have JP:a≠eS:=fun e=>by rw[e,w4]at bx;cases bx
 have Af:fR s.heap oE:=fun b o aK e=>eU b o (JB b o aK e);show wpAny (model prog w) A _ P bo {s with heap:=oE};refine wpAny_bind (wpAny_rule ?_);simp only[List.forIn_toArray];refine wpAny_bind (Su (lA:=lA) (s:={s with heap:=oE}) JO Ak (fun x s' F bD=>?_) (fun h h'=>SH eS w4 h h') pJ vs rs [] [] 0 (DP _ _ aV fun b o Y av e=>eU b o (cT b o av e)) Ae (aN.mono (List.prefix_refl _) Af) gO nD .nil (by simp;exact eZ hlen rfl) fun aH lq iL aB Am iU DS DT DU w3=>?_)
 ·refine wpAny_bind (wpAny_attempt (wpAny_mono bD (fun key fj bb=>?_) fun Y Y z=>z.elim));exact wpAny_bind (wpAny_mono bb (fun Y fF SK=>wpAny_pure SK) fun Y Y z=>z)
 ·have ji:aB.length=vs.length:=by rw[w3.length,j7];simp
  have DV:aH.get? eS=some (seqObj "list" aB.toArray Am):=DU;have SM:aH.get? a=some (seqObj "list" #[] aR):=iU _ _ aJ JP JN;have SN:bT am aH (rs.map aS) vs:=aN.mono (List.prefix_refl _) fun b o aK e=>DS b o aK (Af b o aK e);refine wpAny_bind (listItems_at (s:={s with heap:=aH,toks:=lq,drawn:=iL}) DV rfl ?_);have Ag:Paired (fun(r:List Int)(p:Keyed)=>iX aH p.1 r∧bc am aH (aS r) p.2) rs (aB.zip vs):=SD (by simpa using w3) SN
  have tail:∀(ao:SortSt)(zs:List (List Int)) gm,∀Y:failedOf ao=none,∀Y:(arrOf ao).size=vs.length,∀Y:Paired (fun(r:List Int)(p:Keyed)=>iX aH p.1 r∧bc am aH (aS r) p.2) zs (arrOf ao).toList,∀Y:jj oH.blt rs zs,
   wpAny (model prog w) A (do
    Builtin.List.listUpdate (.ref eS) fun Y=>#[]
    letGo ((arrOf ao).map (·.1)).toList (failedOf ao).toList
    let touched:=(←seqEpoch a) != aR
    Builtin.List.listUpdate (.ref a) fun Y=>(arrOf ao).map (·.2)
    if let some e:=failedOf ao then rule "list.sort.comparison-raised";throw e
    if touched then rule "list.sort.modified";raiseError "ValueError" "list modified during sort"
    ret .none) P bo {s with heap:=aH,toks:=gm,drawn:=iL}:=by
   intro ao zs gm bq c8 aT hs;refine wpAny_bind (listUpdate_at (s:={s with heap:=aH,toks:=gm,drawn:=iL}) DV rfl ?_ (by rw[List.size_toArray,ji];exact aA (.a .r (.k 1000000) (.a (.k 1000000) .q (.c .p .r (.l .p .q)))) rfl hlen iA j7) (Nat.zero_le _));refine wpAny_bind (wpAny_letGo ?_);have eB:∀b o,∀Y:b≠eS,∀Y:aH.get? b=some o,(aH.update eS (Obj.mapSeq fun Y=>#[])).get? b=some o:=fun b o av e=>by rw[Heap.get?_update_ne _ _ _ _ av];exact e
   have An:=eB _ _ JP SM;refine wpAny_bind (seqEpoch_at An rfl ?_);refine wpAny_bind (listUpdate_at An rfl ?_ (Nat.zero_le _) (by rw[Array.size_map,c8];exact aA (.i 1000001 (.l .r (.k 1000000)) (.i 1000000 (.l (.k 1000000) .q) (.i 1000001 (.e .p .r) (.G 999999 (.l .p (.b .q)))))) rfl hlen iA j7));rw[bq];simp only[bne_self_eq_false,Bool.false_eq_true,if_false];have iR:∀b o,∀Y:b≠a,∀Y:(aH.update eS (Obj.mapSeq fun Y=>#[])).get? b=some o,((aH.update eS (Obj.mapSeq fun Y=>#[])).update a (Obj.mapSeq fun Y=>(arrOf ao).map (·.2))).get? b=some o:=fun b o av e=>by rw[Heap.get?_update_ne _ _ _ _ av];exact e
   have SO:¬Kept (seqObj "list" aB.toArray Am):=tB rfl;have SP:¬Kept (seqObj "list" (#[]:Array Value) aR):=tB rfl;refine ar ?_ (DT.gY eB ⟨⟨_,DV,SO⟩,JO,Ak⟩);intro SQ SR;refine ar ?_ (SQ.gY iR ⟨⟨_,An,SP⟩,aJ,g6⟩);intro DW SS;have JQ:=get?_update_seq An (fun Y=>(arrOf ao).map (·.2));have Ao:(arrOf ao).map (·.2)=((arrOf ao).toList.map (·.2)).toArray:=by simp[←Array.toList_map]
   rw[Ao]at JQ ⊢;refine wpAny_pure (h _ zs _ gm iL _ (fun b o ae af e=>?_) ?_ JQ ?_ hs)
   ·have av:b≠eS:=fun q=>by rw[q,w4]at e;cases e
    rw[←Ao];exact iR b o af (eB b o av (iU b o ae av (eU b o (cT b o af e))))
   ·rw[←Ao];exact DW
   ·rw[←Ao];exact(SE (fun r p q=>q.2) aT).mono (List.prefix_refl _) fun b o aK e=>SS b o aK (SR b o aK e)
  have DX:(aB.toArray.zip vs.toArray).toList=aB.zip vs:=by simp
  by_cases af:vs.toArray.size<2
  ·rw[if_pos af];refine wpAny_bind (wpAny_pure ?_);rw[if_pos af,StateT.run_pure];refine wpAny_bind (wpAny_pure ?_);refine tail (SortSt.mk' general' (aB.toArray.zip vs.toArray) #[] 7 none) rs lq rfl (by show(aB.toArray.zip vs.toArray).size=_;simp[ji]) ?_ ⟨.refl _,?_⟩
   ·show Paired _ rs (aB.toArray.zip vs.toArray).toList;rw[DX];exact Ag
   ·have:rs.length<2:=by rw[←j7];simpa using af
    match rs,this with
    |[],_=>exact .nil
    |[_],_=>exact List.pairwise_singleton ..
  ·rw[if_neg af,if_neg af];have Al:2≤aB.length:=by rw[ji];simpa using af
   have pT:∀v∈aB,∃r,iX aH v r:=fun v wb=>w3.all v wb;refine wpAny_bind (I4 (s:={s with heap:=aH,toks:=lq,drawn:=iL}) Al (fun v wb=>(pT v wb).elim fun r aC=>aC.led) ?_);have az:Nonempty oH.α:=⟨([]:List Int)⟩;have K:=QJ (prog:=prog) (w:=w) (A:=A) (h:=aH) (f:=true) dQ
   have Dj:=IW (O:=qU (s:={s with heap:=aH,toks:=lq,drawn:=iL}) az K) (a₀:=aB.toArray.zip vs.toArray) (kI:=SortSt.mk' (qT true) (aB.toArray.zip vs.toArray) #[] 7 none)
    (Q:=fun Y ao=>gA (qU (s:={s with heap:=aH,toks:=lq,drawn:=iL}) az K) (aB.toArray.zip vs.toArray) ao∧eK (qU (s:={s with heap:=aH,toks:=lq,drawn:=iL}) az K) (arrOf ao) 0 (aB.toArray.zip vs.toArray).size)
    (fun p aP=>by
      rw[DX]at aP;obtain⟨x,y⟩:=p;exact pT _ (List.of_mem_zip aP).1) ⟨Array.Perm.refl _,rfl,rfl⟩ rfl (fun ao b Dk=>⟨b,Dk⟩) lq
   refine wpAny_bind (wpAny_mono Dj ?_ fun Y Y e=>e);rintro⟨⟨⟩,ao⟩ s' ⟨⟨gm,rfl⟩,av,hs⟩;dsimp only at av hs ⊢;have fO:(arrOf ao).toList.Perm (aB.zip vs):=by rw[←DX];exact Array.perm_iff_toList_perm.mp av.perm
   refine aj ?_ (Sx fO Ag);intro zs;refine ar ?_;intro SU aT;refine tail ao zs gm av.failed (by rw[av.size];simp[ji]) aT ⟨SU,?_⟩;exact SA (T:=fun x y=>oH.blt y x=false) (kf:=(qU (s:={s with heap:=aH,toks:=lq,drawn:=iL}) az K).kf) (fun z p q=>Dl (s:={s with heap:=aH,toks:=lq,drawn:=iL}) az K (v:=p.1) (u:=p.2) q.1) aT (I1 av.perm.size_eq hs)
end Mine
end
section
namespace Mine
variable{prog:Program}{w:World}{B:Heap}{ak:dB}{k:Nat}
theorem SV(a v:Value):argsOk "sorted" ⟨[a],[(Str.ofString "key",v)]⟩:=by unfold argsOk;kernel_rfl
theorem SW(a v:Value):argsOk "list.sort" ⟨[a],[(Str.ofString "key",v)]⟩:=by unfold argsOk;kernel_rfl
noncomputable def uH:Scope:={kind:=.function,names:=[(Str.ofString "row",.local),(Str.ofString "len",.globalImplicit)],isGenerator:=false,isCoroutine:=false,more:=[]}
noncomputable def DY(p:Pos):Arguments:={posonlyargs:=[],args:=[{arg:="row",annotation:=none,pos:=p}],vararg:=none,kwonlyargs:=[],kw_defaults:=[],kwarg:=none,defaults:=[]}
noncomputable def w5(gq p2 q7 nU q8:Pos):Expr:=.Tuple [.Call (.Name "len" gq) [.Name "row" p2] [] q7,.Name "row" nU] 0 q8
noncomputable def SX(Q:∀Y:ah,∀Y:St,Prop) (loc:Loc) (st:St):Prop:=∃ns:List Int,getV loc 0=some (aS ns)∧ns.length<1000000∧Q (.tup [.int ns.length,aS ns]) st
theorem b3.imp{e:Expr}{P uF:b5}(h:b3 prog w B ak k e P)(aP:∀Q loc st,∀Y:uF Q loc st,P Q loc st):b3 prog w B ak k e uF:=fun Y Y Y Y Y Y Y aL R S q=>h aL R S (aP _ _ _ q)
theorem SY{gq p2 q7 nU q8:Pos}(az:fN B "len" (.builtin "len")):b3 prog w B (g5 uH.names) k (w5 gq p2 q7 nU q8) SX:=by
 refine b3.imp (lR (aQ (bL az (.inl ⟨_,rfl⟩) fD (aQ (aw (i:=0) (by rfl)) bg) (by rfl)) (aQ (aw (i:=0) (by rfl)) bg))) ?_;intro Q loc st;refine aj ?_;intro ns;refine aY ?_;intro ae af aH;dsimp only[tupP,consEs,callP,nameP,nilEs];rw[ae];simp only[vD,one];refine fS (x:=some (ns.map ah.int)) rfl ?_;rw[List.length_map];exact⟨by exact lL af rfl,by simp,aH⟩
set_option tactic.hygienic true in
theorem SZ{am:List Addr}{h:Heap}{ns:List Int}{v:Value}(r:bc am h (.tup [.int ns.length,aS ns]) v):iX h v ns:=by
 cases r with
 |@tup _ a items n bf aC=>
  generalize e:items.toList=l at aC;cases aC with
  |cons x y=>cases x with
   |@int _ t=>cases y with
    |cons y z=>cases z with
     |nil=>
      rename_i u;have:items=#[.int ns.length t,u]:=Array.toList_inj.mp (by rw[e]);subst this;exact⟨a,u,_,t,n,rfl,bf,rfl,Dq y⟩
theorem bh.adopt{am:List Addr}{h:Heap}{st:St}{a:Addr}{o:bB}(S:bh prog w B am h st)(nY:a∉am)(g6:B.get? a=none)(bx:j0 prog w (am++[a]) h a o):bh prog w B (am++[a]) h (st++[o]):=by
 refine⟨by simp[S.len],?_,?_,S.base,fun m b cf ae af=>?_⟩
 ·rw[List.nodup_append];exact⟨S.nodup,by simp,fun x ai y au=>by rw[List.mem_singleton.mp au];exact fun q=>nY (q▸ai)⟩
 ·intro b av;rcases List.mem_append.mp av with av|av
  ·exact S.off b av
  ·rw[List.mem_singleton.mp av];exact g6
 ·by_cases bC:m<am.length
  ·rw[List.getElem?_append_left bC]at ae;rw[List.getElem?_append_left (S.len▸bC)]at af;exact(S.obj m b cf ae af).mono (List.prefix_append _ _) (fun b o Y e=>e) fun bO e=>e
  ·have:m=am.length:=by
    have:=(List.getElem?_eq_some_iff.mp ae).1;simp at this;exact Nat.le_antisymm (aq (.b .p (.b .q) (.l .p .q)) rfl this) (aq (.n (.t .q .p) (.l .p .q)) rfl bC)
   subst this;rw[List.getElem?_append_right (Nat.le_refl _)]at ae;rw[S.len,List.getElem?_append_right (Nat.le_refl _)]at af;simp at ae af;subst ae af;exact bx
theorem S0{A:Around}(h:gW A (k+2)):gW A.in1.in1 (k+1):=⟨h.1,by have:=h.2.1;show A.depth+(k+1)+100<_;exact aA (.b (.a (.a .p (.a .q (.k 2))) (.k 100)) .r (.t (.a (.a .p (.b .q)) (.k 100)) .r)) rfl this,by have:=h.2.2;show A.units+1+1+20*(k+1)+100<_;exact aA (.b (.a (.a .p (.m 20 (.a .q (.k 2)))) (.k 100)) .r (.t (.a (.a (.b (.b .p)) (.m 20 (.b .q))) (.k 100)) .r)) rfl this⟩
noncomputable def JR(P j:Nat)(x:ah)(Q:∀Y:ah,∀Y:St,Prop) (st:St):Prop:=∃rows:List (List Int),listAt x st=some (rows.map aS)∧st[j]?=some (.tab P)∧rows.length≤1000000∧(∀r∈rows,r.length<1000000)∧∀ys,∀Y:jj oH.blt rows ys,Q (.ref st.length) (st++[.list (ys.map aS)])
set_option tactic.hygienic true in
theorem S1{y:Str}{DZ np cv p S2 jY gq p2 q7 nU q8:Pos}{br:b5}{c P j:Nat}{uD:Str}(gk:fN B "sorted" (.builtin "sorted"))(w6:fN B "len" (.builtin "len"))(Ai:ak.code=some (.ref c,uD))(bb:uD++"<lambda>"=nV)(bR:nE B c P)(uE:Ah B)(er:B.NoLimit)
 (h:b3 prog w B ak (k+2) (.Name y DZ) br)(ai:autoParam (ak.kinds.lookup (Str.ofString "sorted")=some NameKind.globalImplicit) jX._auto_1):
 b3 prog w B ak (k+2) (.Call (.Name "sorted" np) [.Name y DZ] [⟨some "key",.Lambda (DY jY) (w5 gq p2 q7 nU q8) uH S2,cv⟩] p) fun Q loc st=>br (fun x aU=>JR P j x Q aU) loc st:=by
 intro A env s am loc st Q aL R fP q;refine wpAny_Call_ofName (BP R fP ai gk (by decide) ?_);refine callWith_kw ?_;have aJ:qt prog w B ak (k+2) [.Name y DZ] (fun Q loc st=>br (fun v aU=>Q [v] aU) loc st):=aQ h bg;refine tC (aJ (pos:=p) (Q:=fun vs aU=>one (fun x Q st=>JR P j x Q st) vs Q aU) aL R fP q) fun vs ba bV aU qs bj bk cN bF=>?_;cases cN with
 |nil=>exact bF.elim
 |cons a fT=>
  rename_i x v yQ vs';cases fT with
  |cons=>exact bF.elim
  |nil=>
   refine aj ?_ bF;clear bF;intro rows;refine eY ?_;intro aD eL hlen gO a7;refine kws_cons (Sg (R.ext fP bj.ext) bk Ai bb bR uE eL rfl rfl fun f pm iQ dw cB cw bq pI oi=>?_);refine kws_nil ?_;have S3:=a.mono cB.ext.pre (bk.gH cB.ext);show wpAny _ _ (call (.builtin "sorted") [v] [(Str.ofString "key",.ref f)]) _ _ _;refine call_function_entry_kw kind_sorted plain_sorted entry_sorted (SV _ _) ?_;unfold Builtin.«sorted»;refine wpAny_bind (m:=checkCount "sorted" 1 1 _) (wpAny_pure ?_);refine wpAny_bind (Dr cw S3 aD (by rw[List.length_map];exact hlen) fun vs eP eT fU r=>?_);have j7:vs.length=rows.length:=by rw[←r.length,List.length_map]
   have iA:1000000≤sizeLine:=by decide
   refine wpAny_bind (wpAny_newList ?_ (by exact aA (.a .r (.k 1000000) (.c .p .r (.a (.k 1000000) .q (.l .p .q)))) rfl hlen j7 iA));have wU:(eP.heap.push (seqObj "list" vs.toArray 0)).get? eP.heap.objs.size=some (seqObj "list" vs.toArray 0):=Heap.get?_push_size _ rfl;have mi:∀b o,∀Y:eP.heap.get? b=some o,(eP.heap.push (seqObj "list" vs.toArray 0)).get? b=some o:=fun b o e=>Heap.get?_push_of_some _ e;have JS:eP.heap.objs.size∉bV:=fun hm=>absurd (fU.lt hm) (Nat.lt_irrefl _)
   have zl:B.get? eP.heap.objs.size=none:=by
    cases e:B.get? eP.heap.objs.size with
    |none=>rfl
    |some o=>exact absurd (Heap.lt_size (fU.base _ o e)) (Nat.lt_irrefl _)
   have D0:=eT.ext.keep _ _ bq pI;have S4:f≠eP.heap.objs.size:=Nat.ne_of_lt (Heap.lt_size D0);refine dF ?_ oi;clear oi;intro uI co JT S5;refine eY ?_;rintro rfl JU tX JV S6
   have D3:uI∉bV:=fun hm=>by
    refine aj ?_ (cw.there hm);intro bO;refine ar ?_;intro e DR;rw[JU]at e;cases e;exact DR (.inr (.inr ⟨tX,JT,JV⟩))
   have D4:=eT.ext.keep _ _ D3 JU;have S7:uI≠eP.heap.objs.size:=Nat.ne_of_lt (Heap.lt_size D4);show wpAny _ _ _ _ _ {eP with heap:=eP.heap.push (seqObj "list" vs.toArray 0)};refine wpAny_bind (wpAny_holding (wpAny_call_entry_kw slot_list_sort ⟨_,wU,rfl⟩ entry_list_sort ?sort (SW _ _)))
   case sort=>
    refine SG (B:=B) (am:=bV) (st:=aU) (rs:=rows) (f:=f)
     (lA:=fun h=>h.get? f=some {cls:=.type "function",data:=.func (w0 "<lambda>" nV (DY jY) (w5 gq p2 q7 nU q8) uH pm (.ref uI))}∧h.get? uI=some co)
     (s:={eP with heap:=eP.heap.push (seqObj "list" vs.toArray 0)}) ?_ wU JS zl (fU.keeps mi) (r.mono (List.prefix_refl _) (lT mi)) hlen gO ?_ ⟨mi _ _ D0,mi _ _ D4⟩ ?_ ?_ ?_
    ·have:=aL.2.2;show A.units+1+1<cLine;exact aA (.b (.a (.a .p (.m 20 (.a .r (.k 2)))) (.k 100)) .q (.t (.b (.b .p)) .q)) rfl this
    ·exact fun h h' q9 k=>⟨k _ _ bq S4 q9.1,k _ _ D3 S7 q9.2⟩
    ·intro eS nD h h' q9 k;refine⟨k _ _ bq (fun e=>?_) q9.1,k _ _ D3 (fun e=>?_) q9.2⟩
     ·have:=mi _ _ D0;rw[e]at this;rw[show(_:Heap).get? eS=none from nD]at this;cases this
     ·have:=mi _ _ D4;rw[e]at this;rw[show(_:Heap).get? eS=none from nD]at this;cases this
    ·intro s' u ns q9 dJ S8 dQ
     have D5:JH s'.heap f (w0 "<lambda>" nV (DY jY) (w5 gq p2 q7 nU q8) uH pm (.ref uI)) (Str.ofString "row") (w5 gq p2 q7 nU q8) uH:=
      ⟨⟨_,q9.1,rfl⟩,rfl,rfl,rfl,rfl,rfl,⟨uI,co,JT,S5,rfl,q9.2,JV,S6⟩,fun Y=>rfl⟩
     refine wpAny_mono (R8 (n:=0) (Q:=fun pv ao=>pv=.tup [.int ns.length,aS ns]∧ao=aU) D5 (S0 aL) er dJ dQ (SY w6) ⟨ns,rfl,S8,rfl,rfl⟩ (hone:=fun y i au=>?_)) (fun key fj aP=>?_) fun Y Y z=>z
     ·have e:(n9 0 (varNames uH.names))=[(Str.ofString "row",0)]:=by rfl
      have uB:List.lookup y [(Str.ofString "row",0)]=some i:=e▸au;rw[List.lookup_cons]at uB
      split at uB
      ·rename_i aG;exact⟨eq_of_beq aG,(Option.some.inj uB).symm⟩
      ·cases uB
     ·refine bG ?_ aP;clear aP;intro aX ao pv;refine eY ?_;rintro e8 JW qH rfl rfl
      have S9:aX=bV:=by
       refine aj ?_ e8.ext.pre;intro c5 e;have ae:=JW.len;have af:=dJ.len;rw[←e]at ae ⊢;rw[List.length_append]at ae;have:c5=[]:=List.length_eq_zero_iff.mp (by exact Nat.le_antisymm (aA (.c (.a .q .p) .r (.i (-1) (.e .q .r) (.l .p .z))) rfl ae af) (aI (.l .z .p) rfl));rw[this];simp
      subst S9;exact⟨e8,JW,SZ qH⟩
    ·intro out zs h' tk d m aK dc bx aN hs;refine⟨_,rfl,wpAny_pure ⟨_,rfl,?_⟩⟩;have DW:=dc.adopt (o:=.list (zs.map aS)) JS zl ⟨out,⟨_,bx⟩,aN.mono (List.prefix_append _ _) fun Y Y Y e=>e⟩
     have dP:Ext bV eP.heap (bV++[eP.heap.objs.size]) h':=⟨List.prefix_append _ _,fun b o av e=>aK b o av (Nat.ne_of_lt (Heap.lt_size e)) (mi _ _ e),fun b av az=>by
      rcases List.mem_append.mp av with av|av
      ·exact absurd av az
      ·rw[List.mem_singleton.mp av];exact lQ _⟩
     have Tc:c9 bV eP (bV++[eP.heap.objs.size]) {eP with heap:=h',toks:=tk,drawn:=d}:=⟨⟨_,_,_,rfl⟩,dP⟩;refine dC.over (bj.trans (cB.trans eT)) ⟨_,_,.ref aU.length,Tc,DW,.ref (by rw[←bk.len];simp),a7 zs hs⟩
end Mine
end
section
namespace Mine
variable{prog:Program}{w:World}{B:Heap}{ak:dB}{k:Nat}
set_option tactic.hygienic true in
theorem Td{a b:Expr}{p:Pos}{br bK:b5}(bU:b3 prog w B ak k a br)(cZ:b3 prog w B ak k b bK):
 b3 prog w B ak k (.BoolOp .And [a,b] p) fun Q loc st=>br (wc fun c aU=>if c=true then bK Q loc aU else Q (.bool false) aU) loc st:=by
 intro A env s am loc st Q aL R S h;refine BoolOp_and (dZ (bU aL R S h) fun v ba bV aU pv bj bk cN bF=>?_);cases cN<;>first|exact bF.elim|skip
 rename_i c;refine wpAny_truthy_bool ?_;cases c with
 |false=>exact⟨bV,aU,.bool false,bj,bk,.bool,bF⟩
 |true=>
  have:=cZ aL (R.ext S bj.ext) bk bF;refine BoolOp_one ?_;exact wpAny_mono this (fun Y Y z=>dC.over bj z) fun Y Y z=>z
end Mine
end
section
namespace Mine
variable{prog:Program}{w:World}{B:Heap}{ak:dB}{k:Nat}
noncomputable def Te:DefRec:=⟨"",⟨[],[],none,[],[],none,[]⟩,[],{kind:=.function,names:=[],isGenerator:=false,isCoroutine:=false,more:=[]},⟨0,0,0,0⟩⟩
noncomputable def ofStmt:∀Y:List Stmt,DefRec
 |.FunctionDef name a b _ _ _ sc _ _ pos::_=>⟨name,a,b,sc,pos⟩
 |_=>Te
noncomputable def bP(i:Nat):DefRec:=ofStmt (PySem.Challenge.pw_nn0309_01.main.body.drop i)
noncomputable def mj(d:DefRec):List Str:=d.params.args.map (·.arg)
structure dU(B:Heap)(i:Nat)(a:Addr):Prop where
 i0:fN B (bP i).name (.ref a)
 fn:∃pm fm doc,v9 B a (PySem.Calls.docDef (bP i).name (bP i).params (bP i).body (bP i).scope pm fm doc) (mj (bP i)) (bP i).body (bP i).scope
theorem dU.plain{i:Nat}{a:Addr}(F:dU B i a):Plain B (.ref a):=by
 refine bG ?_ F.fn;intro pm fm doc X;refine aj ?_ X.at_;intro o;refine ar ?_;intro ae af;exact .inr (.inr ⟨a,o,_,rfl,ae,af⟩)
noncomputable def oM(a b:List Int):Bool:=oH.blt a b
theorem cg{names:List (Str×NameKind)}{fm:Option (Value×Str)}{x:Str}(h:names.lookup x≠some .free):(g5 names fm).kinds.lookup x≠some .free:=h
theorem b8.imp{v:Value}{S dJ:∀Y:List ah,∀Y:(∀Y:ah,∀Y:St,Prop),∀Y:St,Prop} (h:b8 prog w B k v S) (aP:∀xs Q st,∀Y:dJ xs Q st,S xs Q st):b8 prog w B k v dJ:=fun Y Y Y Y Y Y Y aL S aN q=>h aL S aN (aP _ _ _ q)
theorem dU.called{i:Nat}{a:Addr}{P:d8}(F:dU B i a)(dh:wa (mj (bP i)) (bP i).scope=true)(er:B.NoLimit)(av:ky prog w B (g5 (bP i).scope.names) k (bP i).body P):
 b8 prog w B (k+1) (.ref a) (yS (mj (bP i)).length (varNames (bP i).scope.names).length P):=by
 refine bG ?_ F.fn;intro pm fm doc X;exact B9 X dh er none (fun Y h=>nomatch h) av
theorem dU.iB{i:Nat}{a:Addr}{P:d8}{dJ:∀Y:List ah,∀Y:(∀Y:ah,∀Y:St,Prop),∀Y:St,Prop} (n r9:Nat) (F:dU B i a) (dh:wa (mj (bP i)) (bP i).scope=true) (er:B.NoLimit) (aR:(mj (bP i)).length=n) (aW:(varNames (bP i).scope.names).length=r9)
 (av:ky prog w B (g5 (bP i).scope.names) k (bP i).body P) (aP:∀xs Q st,∀Y:dJ xs Q st,yS n r9 P xs Q st):b8 prog w B (k+1) (.ref a) dJ:=by
 subst aR aW;exact b8.imp (dU.called F dh er av) aP
theorem varQ_some(v:ah)(Q:∀Y:ah,∀Y:St,Prop) (st:St):vD (some v) Q st=Q v st:=rfl
theorem intsQ_int(f:∀Y:Int,∀Y:Int,∀Y:(∀Y:ah,∀Y:St,Prop),∀Y:St,Prop) (a b:Int) (Q:∀Y:ah,∀Y:St,Prop) (st:St):m7 f (.int a) (.int b) Q st=f a b Q st:=rfl
theorem cmpI_int(f:∀Y:Int,∀Y:Int,Bool) (a b:Int) (Q:∀Y:Bool,∀Y:St,Prop) (st:St):pe f (.int a) (.int b) Q st=Q (f a b) st:=rfl
theorem eqQ_int(a b:Int)(Q:∀Y:Bool,∀Y:St,Prop) (st:St):m8 false (.int a) (.int b) Q st=Q (decide (a=b)) st:=by
 have:(xor false (a==b))=decide (a=b):=by simp;rfl
 show Q (xor false (a==b)) st=_;rw[this]
theorem addQ_int(a b:Int)(Q:∀Y:ah,∀Y:St,Prop) (st:St):addQ (.int a) (.int b) Q st=Q (.int (a+b)) st:=rfl
theorem iaddQ_int(a b:Int)(Q:∀Y:ah,∀Y:St,Prop) (st:St):v5 (.int a) (.int b) Q st=Q (.int (a+b)) st:=rfl
theorem seqF_next(P:d8)(Q:∀Y:gj,∀Y:Loc,∀Y:St,Prop) (l:Loc) (st:St):rW P Q .next l st=P Q l st:=rfl
theorem seqF_ret(P:d8)(Q:∀Y:gj,∀Y:Loc,∀Y:St,Prop) (v:ah) (l:Loc) (st:St):rW P Q (.ret v) l st=Q (.ret v) l st:=rfl
theorem seqF_cont(P:d8)(Q:∀Y:gj,∀Y:Loc,∀Y:St,Prop) (l:Loc) (st:St):rW P Q .cont l st=Q .cont l st:=rfl
theorem jy(st:St)(o:bB):(st++[o])[st.length]?=some o:=by simp
theorem iM(st:St)(xs:List ah):listAt (.ref st.length) (st++[.list xs])=some xs:=Option.bind_eq_some_iff.mpr ⟨_,jy st _,rfl⟩
theorem Tf(st:St)(o cf:bB):(st++[o]).set st.length cf=st++[cf]:=by simp
theorem dS{st:St}{i:Nat}{o:bB}(h:st[i]?=some o)(g:St):(st++g)[i]?=some o:=by
 rw[List.getElem?_append_left (List.getElem?_eq_some_iff.mp h).1];exact h
theorem cG{n:Nat}{st:St}{xs:List ah}(h:st[n]?=some (.list xs)):listAt (.ref n) st=some xs:=Option.bind_eq_some_iff.mpr ⟨_,h,rfl⟩
theorem uJ{n:Nat}{st:St}{kvs:List (Int×ah)}(h:st[n]?=some (.ed kvs)):dictAt (.ref n) st=some kvs:=Option.bind_eq_some_iff.mpr ⟨_,h,rfl⟩
theorem JX{n:Nat}{st:St}{xs:List ah}(h:st[n]?=some (.list xs)):dictAt (.ref n) st=none:=by
 show(st[n]?).bind GZ=none;rw[h];rfl
theorem Tg{n:Nat}{st:St}{kvs:List (Int×ah)}(h:st[n]?=some (.ed kvs)):listAt (.ref n) st=none:=by
 show(st[n]?).bind BH=none;rw[h];rfl
theorem jz{x:ah}{st:St}{xs:List ah}(h:listAt x st=some xs)(g:St):listAt x (st++g)=some xs:=by
 refine aj ?_ (qw h);intro n;refine ar ?_;rintro rfl e;exact cG (dS e g)
theorem sN{a b:Int}{st:St}(ae:-1000000≤a)(af:a≤1000000)(aH:-1000000≤b)(bX:b≤1000000):ju (.range a b) st=some ((List.range (b-a).toNat).map fun i=>.int (a+(i:Nat))):=if_pos ⟨ae,af,aH,bX⟩
theorem uK{x:ah}{st:St}{xs:List ah}(h:listAt x st=some xs):ju x st=some xs:=by
 refine aj ?_ (qw h);intro n;refine ar ?_;rintro rfl _;exact h
theorem kL(st l:St)(i:Nat):(st++l)[st.length+i]?=l[i]?:=by
 rw[List.getElem?_append_right (Nat.le_add_right _ _)];simp
theorem jl(st l:St):(st++l)[st.length]?=l[0]?:=kL st l 0
theorem nF(st l:St)(i:Nat)(o:bB):(st++l).set (st.length+i) o=st++l.set i o:=by
 rw[List.set_append_right _ _ (Nat.le_add_right _ _)];simp
theorem oN(st l:St)(o:bB):(st++l).set st.length o=st++l.set 0 o:=nF st l 0 o
theorem append_at{n:Nat}{st:St}{xs:List ah}{v:ah}{Q:∀Y:ah,∀Y:St,Prop} (h:st[n]?=some (.list xs)) (aD:xs.length≤1000000) (bb:Q .none (st.set n (.list (xs++[v])))):pF (.ref n) v Q st:=fS (cG h) ⟨aD,bb⟩
theorem pop_at{n:Nat}{st:St}{xs:List ah}{y:ah}{Q:∀Y:ah,∀Y:St,Prop} (h:st[n]?=some (.list (xs++[y]))) (aD:xs.length<1000000) (bb:Q y (st.set n (.list xs))):Hl (.ref n) Q st:=fS (cG h) ⟨by rw[List.length_append];exact aD,y,List.getLast?_concat ..,by rw[List.dropLast_concat];exact bb⟩
theorem Th{a:List Int}{i:Nat}(h:i<a.length):pick (a.map .int) (i:Int)=some (.int a[i]):=by
 unfold pick;rw[if_pos (by exact aI (.L (.k 0) (.n .p)) rfl)];simp[h]
theorem rd{a:List Int}{i:Nat}{Q:∀Y:ah,∀Y:St,Prop} {st:St} (h:i<a.length) (aD:a.length<1000000) (bb:Q (.int a[i]) st):nc (aS a) (.int i) Q st:=⟨by rw[List.length_map];exact aD,fS (Th h) bb⟩
theorem item_dict{v:ah}{kvs:List (Int×ah)}{i:Int}{x:ah}{Q:∀Y:ah,∀Y:St,Prop} {st:St} (hd:dictAt v st=some kvs) (bq:fa i kvs=some x) (bb:Q x st):nc v (.int i) Q st:=by
 refine aj ?_ (yt hd);intro n;refine ar ?_;rintro rfl e;rw[BK,hd];exact fS bq bb
theorem item_list{v:ah}{xs:List ah}{i:Int}{x:ah}{Q:∀Y:ah,∀Y:St,Prop} {st:St} (hd:listAt v st=some xs) (aD:xs.length<1000000000) (bq:pick xs i=some x) (bb:Q x st):nc v (.int i) Q st:=by
 refine aj ?_ (qw hd);intro n;refine ar ?_;rintro rfl e;rw[BK,JX e];exact fS hd ⟨aD,fS bq bb⟩
theorem jT{v:ah}{xs:List ah}{Q:∀Y:ah,∀Y:St,Prop} {st:St} (hd:listAt v st=some xs) (aD:xs.length<1000000000) (bb:Q (.int xs.length) st):one rU [v] Q st:=by
 refine aj ?_ (qw hd);intro n;refine ar ?_;rintro rfl e;exact fS hd ⟨aD,bb⟩
theorem sum_list{n:Nat}{ns:List Int}{Q:∀Y:ah,∀Y:St,Prop} {st:St} (h:listAt (.ref n) st=some (ns.map .int)) (bb:Q (.int ns.sum) st):one Hd [.ref n] Q st:=
 fS (a:=ns) (Option.bind_eq_some_iff.mpr ⟨_,h,NG ns⟩) bb
theorem Ti{v:ah}{a:List Int}{Q:∀Y:ah,∀Y:St,Prop} {st:St} (hd:listAt v st=some (a.map .int)) (aD:a.length<1000000) (bb:Q (.int a.length) st):one rU [v] Q st:=
 jT hd (by rw[List.length_map];exact Nat.lt_trans aD (by decide)) (by rw[List.length_map];exact bb)
theorem JY{v:ah}{a:List Int}{Q:∀Y:ah,∀Y:St,Prop} {st:St} (hd:listAt v st=some (a.map .int)) (aD:a.length≤1000000) (bb:Q (aS a) st):one yD [v] Q st:=by
 refine aj ?_ (qw hd);intro n;refine ar ?_;rintro rfl e;exact fS hd ⟨by rw[List.length_map];exact aD,bb⟩
theorem mS{a:List Int}{Q:∀Y:ah,∀Y:St,Prop} {st:St} (aD:a.length<1000000) (bb:Q (.int a.length) st):one rU [aS a] Q st:=by
 show fY (ku (aS a) st) (fun xs=>xs.length<1000000000∧Q (.int xs.length) st);refine fS (a:=a.map .int) rfl ?_;rw[List.length_map];exact⟨Nat.lt_trans aD (by decide),bb⟩
theorem D6(i:Int)(b:List Int):rS i (b.map .int)=some (decide (i∈b)):=by
 induction b with
 |nil=>rfl
 |cons j r ih=>
  show(rS i (r.map .int)).map ((j==i)||·)=_;rw[ih];refine congrArg some (Bool.eq_iff_iff.mpr ?_);rw[Bool.or_eq_true,beq_iff_eq,decide_eq_true_iff,decide_eq_true_iff,List.mem_cons,eq_comm]
theorem Aq{i:Int}{a:List Int}{Q:∀Y:Bool,∀Y:St,Prop} {st:St} (q:Q (decide (i∈a)) st):pj false (.int i) (aS a) Q st:=fS (D6 i a) (by rw[Bool.false_xor];exact q)
theorem JZ{i:Int}{a:List Int}{Q:∀Y:Bool,∀Y:St,Prop} {st:St} (q:Q (!decide (i∈a)) st):pj true (.int i) (aS a) Q st:=fS (D6 i a) (by rw[Bool.true_xor];exact q)
theorem in_dict{i:Int}{v:ah}{kvs:List (Int×ah)}{Q:∀Y:Bool,∀Y:St,Prop} {st:St} (h:dictAt v st=some kvs) (q:Q (fa i kvs).isSome st):pj false (.int i) v Q st:=by
 refine aj ?_ (yt h);intro n;refine ar ?_;rintro rfl _;rw[yu,h];show Q (xor false _) st;rw[Bool.false_xor];exact q
theorem Tj{i:Int}{v:ah}{a:List Int}{Q:∀Y:Bool,∀Y:St,Prop} {st:St} (h:listAt v st=some (a.map .int)) (q:Q (!decide (i∈a)) st):pj true (.int i) v Q st:=by
 refine aj ?_ (qw h);intro n;refine ar ?_;rintro rfl e;rw[yu,JX e,h];exact fS (D6 i a) (by rw[Bool.true_xor];exact q)
theorem Ar{c:Bool}{br bK:Prop}(bU:∀Y:c=true,br) (cZ:∀Y:c=false,bK):if c=true then br else bK:=by
 cases c with
 |true=>exact bU rfl
 |false=>exact cZ rfl
theorem kg{c:Bool}{Q:∀Y:Bool,∀Y:St,Prop} {st:St} (bU:∀Y:c=true,Q true st) (cZ:∀Y:c=false,Q false st):Q c st:=by
 cases c with
 |true=>exact bU rfl
 |false=>exact cZ rfl
theorem i6{c br bK:Prop}[Decidable c](bU:∀Y:c,br) (cZ:∀Y:¬c,bK):if decide c=true then br else bK:=
 Ar (fun h=>bU (of_decide_eq_true h)) fun h=>cZ (of_decide_eq_false h)
theorem oO{st:St}{xs:List ah}{v:ah}{Q:∀Y:ah,∀Y:St,Prop} (aD:xs.length≤1000000) (h:Q .none (st++[.list (xs++[v])])):pF (.ref st.length) v Q (st++[.list xs]):=fS (iM st xs) ⟨aD,by rw[Tf];exact h⟩
noncomputable def D7(br bK:d8):d8:=fun Q loc st=>br (rW bK Q) loc st
noncomputable def D8(P:e9)(br bK:d8):d8:=fun Q loc st=>P (fun c aU=>if c=true then br Q loc aU else bK Q loc aU) loc st
noncomputable def J0(P:e9)(br bK:b5):b5:=fun Q loc st=>P (fun c aU=>if c=true then br Q loc aU else bK Q loc aU) loc st
theorem aZ{b:Stmt}{r:List Stmt}{br bK:d8}(bU:gx prog w B ak k b br)(cZ:ky prog w B ak k r bK):ky prog w B ak k (b::r) (D7 br bK):=NM bU cZ
theorem fQ{t:Expr}{b o:List Stmt}{p:Pos}{P:e9}{br bK:d8}(h:jF prog w B ak k t P)(bU:ky prog w B ak k b br)(cZ:ky prog w B ak k o bK):gx prog w B ak k (.If t b o p) (D8 P br bK):=NP h bU cZ
theorem D9{t a b:Expr}{p:Pos}{P:e9}{br bK:b5}(h:jF prog w B ak k t P)(bU:b3 prog w B ak k a br)(cZ:b3 prog w B ak k b bK):b3 prog w B ak k (.IfExp t a b p) (J0 P br bK):=Nm h bU cZ
theorem lB{br bK:d8}{Q:∀Y:gj,∀Y:Loc,∀Y:St,Prop} {loc:Loc} {st:St} (M:∀Y:Loc,∀Y:St,Prop)
 (ae:∀a6:∀Y:gj,∀Y:Loc,∀Y:St,Prop,∀Y:(∀l s,∀Y:M l s,a6 .next l s),∀Y:(∀v l s,∀Y:Q (.ret v) l s,a6 (.ret v) l s),∀Y:(∀l s,∀Y:Q .cont l s,a6 .cont l s),br a6 loc st) (af:∀l s,∀Y:M l s,bK Q l s):D7 br bK Q loc st:=
 ae (rW bK Q) (fun l s h=>af l s h) (fun Y Y Y h=>h) fun Y Y h=>h
theorem a8{br bK:d8}{Q:∀Y:gj,∀Y:Loc,∀Y:St,Prop} {loc:Loc} {st:St} (h:br (rW bK Q) loc st):D7 br bK Q loc st:=h
theorem gB{P:e9}{br bK:d8}{Q:∀Y:gj,∀Y:Loc,∀Y:St,Prop} {loc:Loc} {st:St} (c:Prop) (bf:∀a6:∀Y:Bool,∀Y:St,Prop,∀Y:(∀Y:c,a6 true st),∀Y:(∀Y:¬c,a6 false st),P a6 loc st)
 (ae:∀Y:c,br Q loc st) (af:∀Y:¬c,bK Q loc st):D8 P br bK Q loc st:=
 bf _ (fun h=>by rw[if_pos rfl];exact ae h) fun h=>by rw[if_neg Bool.false_ne_true];exact af h
theorem Ea{P:e9}{br bK:b5}{Q:∀Y:ah,∀Y:St,Prop} {loc:Loc} {st:St} (c:Prop) (bf:∀a6:∀Y:Bool,∀Y:St,Prop,∀Y:(∀Y:c,a6 true st),∀Y:(∀Y:¬c,a6 false st),P a6 loc st)
 (ae:∀Y:c,br Q loc st) (af:∀Y:¬c,bK Q loc st):J0 P br bK Q loc st:=
 bf _ (fun h=>by rw[if_pos rfl];exact ae h) fun h=>by rw[if_neg Bool.false_ne_true];exact af h
noncomputable def J1(I:Nat→Loc→St→Prop)(n:Nat)(Q:gj→Loc→St→Prop):gj→Loc→St→Prop:=fun dD loc st=>match dD with
 |.next|.cont=>∃m,m<n∧I m loc st
 |.brk=>Q .next loc st
 |.ret v=>Q (.ret v) loc st
theorem J2{P:e9}{br:d8}{Q:∀Y:gj,∀Y:Loc,∀Y:St,Prop} {loc:Loc} {st:St} (I:∀Y:Nat,∀Y:Loc,∀Y:St,Prop) (n:Nat) (aV:I n loc st) (c:∀Y:Loc,∀Y:St,Prop)
 (bf:∀n l s,∀Y:I n l s,∀a6:∀Y:Bool,∀Y:St,Prop,∀Y:(∀Y:c l s,a6 true s),∀Y:(∀Y:¬c l s,a6 false s),P a6 l s)
 (av:∀n l s,∀Y:I n l s,∀Y:c l s,∀W:∀Y:gj,∀Y:Loc,∀Y:St,Prop,∀Y:(∀m l s,∀Y:m<n,∀Y:I m l s,W .next l s∧W .cont l s),∀Y:(∀v l s,∀Y:Q (.ret v) l s,W (.ret v) l s),br W l s) (he:∀n l s,∀Y:I n l s,∀Y:¬c l s,Q .next l s):BW P br Q loc st:=
 ⟨I,n,aV,fun n l s bE=>bf n l s bE _ (fun h=>by rw[if_pos rfl];exact av n l s bE h (J1 I n Q) (fun m Y Y ae af=>⟨⟨m,ae,af⟩,⟨m,ae,af⟩⟩) fun Y Y Y q=>q) fun h=>by rw[if_neg Bool.false_ne_true];exact he n l s bE h⟩
noncomputable def fBody(I:Nat→Loc→St→Prop)(n:Nat)(Q:gj→Loc→St→Prop):gj→Loc→St→Prop:=fun dD loc st=>match dD with
 |.next|.cont=>I (n+1) loc st
 |.brk=>Q .next loc st
 |.ret v=>Q (.ret v) loc st
theorem kh{P:b5}{i:Nat}{br:d8}{Q:∀Y:gj,∀Y:Loc,∀Y:St,Prop} {loc:Loc} {st:St} (V:∀Y:ah,∀Y:St,Prop) (dj:∀a6:∀Y:ah,∀Y:St,Prop,∀Y:(∀v s,∀Y:V v s,a6 v s),P a6 loc st)
 (h:∀v aU,∀Y:V v aU,∃(xs:List ah)(I:∀Y:Nat,∀Y:Loc,∀Y:St,Prop),I 0 loc aU∧(∀n l s,∀Y:I n l s,ju v s=some xs)∧(∀n l s y,∀Y:I n l s,∀Y:xs[n]?=some y,br (fBody I n Q) (setV l i y) s)∧(∀n l s,∀Y:I n l s,∀Y:xs.length≤n,Q .next l s)):Hh P i br Q loc st:=by
 refine dj _ fun v s aN=>?_;refine bZ ?_ (h v s aN);intro xs I;refine cH ?_;intro aV aD av he;refine⟨xs,I,aV,fun n l s' bE=>⟨aD n l s' bE,?_⟩⟩;cases e:xs[n]? with
 |some y=>exact av n l s' y bE e
 |none=>exact he n l s' bE (List.getElem?_eq_none_iff.mp e)
theorem pZ{xs:List ah}{i:Int}{x:ah}{Q:∀Y:ah,∀Y:St,Prop} {st:St} (aD:xs.length<1000000) (bq:pick xs i=some x) (bb:Q x st):nc (.tup xs) (.int i) Q st:=⟨aD,fS bq bb⟩
theorem gC{xs:List ah}{i:Nat}:pick xs (i:Int)=xs[i]?:=by
 unfold pick;rw[if_pos (by exact aI (.L (.k 0) (.n .p)) rfl)];simp
theorem As(l:Nat):(l:Int).fdiv (2^(1:Int).toNat)=((l / 2:Nat):Int):=by
 rw[Int.fdiv_eq_ediv_of_nonneg _ (by decide)];simp
theorem nG{P:b5}{xi:Nat}{mk:∀Y:Loc,Loc} {b4:e9} {fE:b5} {Q:∀Y:ah,∀Y:St,Prop} {loc:Loc} {st:St} (L:Loc) (heq:mk loc=L) (V:∀Y:ah,∀Y:St,Prop) (dj:∀a6:∀Y:ah,∀Y:St,Prop,∀Y:(∀v s,∀Y:V v s,a6 v s),P a6 loc st)
 (h:∀v aU,∀Y:V v aU,∃(xs:List ah)(I:∀Y:Nat,∀Y:St,Prop),I 0 (aU++[.list []])∧(∀n s,∀Y:I n s,ju v s=some xs)∧
   (∀n s y,∀Y:I n s,∀Y:xs[n]?=some y,∃T:∀Y:Bool,∀Y:St,Prop,(∀a6:∀Y:Bool,∀Y:St,Prop,∀Y:(∀b s',∀Y:T b s',a6 b s'),b4 a6 (setV L xi y) s)∧
     (∀s',∀Y:T true s',fE (fun u jH=>pF (.ref aU.length) u (fun Y kB=>I (n+1) kB) jH) (setV L xi y) s')∧(∀s',∀Y:T false s',I (n+1) s'))∧(∀n s,∀Y:I n s,∀Y:xs.length≤n,Q (.ref aU.length) s)):qJ P xi mk b4 fE Q loc st:=by
 refine dj _ fun v aU aN=>?_;refine bZ ?_ (h v aU aN);intro xs I;refine cH ?_;intro aV aD av he;refine⟨xs,I,aV,fun n s bE=>⟨aD n s bE,?_⟩⟩;rw[heq];cases e:xs[n]? with
 |none=>exact he n s bE (List.getElem?_eq_none_iff.mp e)
 |some y=>
  refine aj ?_ (av n s y bE e);intro T;refine aY ?_;intro ae af aH;refine ae _ fun b s' ck=>?_;cases b with
  |true=>rw[if_pos rfl];exact af s' ck
  |false=>rw[if_neg Bool.false_ne_true];exact aH s' ck
theorem uL{n:Nat}{st:St}{xs:List ah}{i:Nat}{v:ah}{Q:∀Y:St,Prop} (h:st[n]?=some (.list xs)) (hi:i<xs.length) (aD:xs.length≤1000000) (bb:Q (st.set n (.list (xs.set i v)))):tO (.ref n) (.int (i:Nat)) v Q st:=by
 rw[B4,cG h];exact⟨⟨Int.natCast_nonneg i,Int.ofNat_lt.mpr hi,aD⟩,bb⟩
theorem Eb{n:Nat}{st:St}{kvs:List (Int×ah)}{i:Int}{v:ah}{Q:∀Y:St,Prop} (h:st[n]?=some (.ed kvs)) (aD:kvs.length≤1000000) (bb:Q (st.set n (.ed (jd i v kvs)))):tO (.ref n) (.int i) v Q st:=by
 rw[B4,Tg h];exact fS (uJ h) ⟨aD,bb⟩
theorem Tl{m:Nat}{b:Int}{x:ah}{Q:∀Y:ah,∀Y:St,Prop} {st:St} (h:listAt (.ref m) st=some [x]) (aV:0≤b) (ae:b≤100000) (q:Q (.ref st.length) (st++[.list (List.replicate b.toNat x)])):yH (.ref m) (.int b) Q st:=
 fS (Option.bind_eq_some_iff.mpr ⟨_,h,rfl⟩) ⟨⟨aV,ae⟩,q⟩
theorem J3{a b:ah}{F:∀Y:ah,∀Y:ah,Prop} (h:F a b):yV (.tup [a,b]) F:=⟨a,b,rfl,h⟩
theorem neg_int{i:Int}{Q:∀Y:ah,∀Y:St,Prop} {st:St} (h:Q (.int (-i)) st):GU (.int i) Q st:=h
noncomputable abbrev Node:=Option (Nat×Nat)
noncomputable def fy:∀Y:Node,ah
 |none=>.none
 |some (l,r)=>.tup [.int l,.int r]
noncomputable def ki(aF:Addr)(v:ah)(st:St):Option (List ah):=(je aF v st).bind fun f=>(f.2.lookup (Str.ofString "nodes")).bind fun x=>listAt x st
set_option tactic.hygienic true in
theorem Tn{aF:Addr}{v:ah}{st:St}{d:Nat}{fs:List (Str×ah)}(h:je aF v st=some (d,fs))(g:St):je aF v (st++g)=some (d,fs):=by
 refine aj ?_ (tR h);intro i;refine aY ?_;rintro rfl q aE;exact sf (dS q g) (dS aE g)
theorem J4{aF:Addr}{v x:ah}{st:St}{d:Nat}{fs:List (Str×ah)}{xs:List ah}(ae:je aF v st=some (d,fs))(af:fs.lookup (Str.ofString "nodes")=some x)(aH:listAt x st=some xs):ki aF v st=some xs:=
 Option.bind_eq_some_iff.mpr ⟨_,ae,Option.bind_eq_some_iff.mpr ⟨_,af,aH⟩⟩
set_option tactic.hygienic true in
theorem J5{aF:Addr}{v:ah}{st:St}{xs:List ah}(h:ki aF v st=some xs):∃d fs x,je aF v st=some (d,fs)∧fs.lookup (Str.ofString "nodes")=some x∧listAt x st=some xs:=by
 obtain⟨⟨d,fs⟩,ae,h⟩:=Option.bind_eq_some_iff.mp h;refine aj ?_ (Option.bind_eq_some_iff.mp h);intro x;refine ar ?_;intro af aH;exact cE d fs x ⟨ae,af,aH⟩
theorem gP{aF:Addr}{v:ah}{st:St}{xs:List ah}(h:ki aF v st=some xs)(g:St):ki aF v (st++g)=some xs:=by
 refine bG ?_ (J5 h);intro d fs x;refine aY ?_;intro ae af aH;exact J4 (Tn ae g) af (jz aH g)
theorem Au{aF:Addr}{attr:Str}{v x:ah}{st:St}{d:Nat}{fs:List (Str×ah)}{Q:∀Y:ah,∀Y:St,Prop} (ae:je aF v st=some (d,fs)) (af:fs.lookup attr=some x) (q:Q x st):sj aF attr v Q st:=fS ae (fS af q)
theorem lC{aF:Addr}{v:ah}{st:St}{xs:List ah}{Q:∀Y:ah,∀Y:St,Prop} (h:ki aF v st=some xs) (bb:∀x,∀Y:listAt x st=some xs,Q x st):sj aF (Str.ofString "nodes") v Q st:=by
 refine bG ?_ (J5 h);intro d fs x;refine aY ?_;intro ae af aH;exact Au ae af (bb x aH)
structure gQ(g:List Node):Prop where
 zero:g[0]?=some none
 len:g.length≤100
 iN:∀i l r,∀Y:g[i]?=some (some (l,r)),l / 2<i∧r / 2<i∧2≤l∧2≤r∧l<1000∧r<1000
structure ic(B:Heap):Prop where
 hs:∃o,B.get? sysModules=some o
 er:B.NoLimit
 len:fN B "len" (.builtin "len")
 min:fN B "min" (.builtin "min")
 sum:fN B "sum" (.builtin "sum")
 sorted:fN B "sorted" (.builtin "sorted")
 range:fN B "range" (.type "range")
 tuple:fN B "tuple" (.type "tuple")
 list:fN B "list" (.type "list")
 set:fN B "set" (.type "set")
end Mine
end
open Lean in
local macro_rules |`(tactic| walk_at$s:str)=>do
 let k:=s.getString
 unless k=="V"||k=="W" do Macro.throwUnsupported
 let a:=("nameP intP boolP noneP negP biP cmpP tcmpP andT trueT orT falseT listP tupP nilEs consEs callP appP attrP methP asgS setS exprS retS iaddS setattrS nilS initLoc varQ_some getV setV intsQ_int cmpI_int eqQ_int seqF_next seqF_ret seqF_cont addQ_int iaddQ_int".splitOn " ").map fun x=>Name.str `Mine x
 let b:=("List.map_cons List.map_nil List.length_cons List.length_nil Nat.reduceAdd Nat.reduceSub List.replicate List.cons_append List.nil_append reduceIte Bool.false_eq_true".splitOn " ").map String.toName
 let c:=if k=="V" then[]else(["fg","fs","lo"].flatMap fun p=>(List.range 26).map fun i=>Name.str `Mine (p++toString i))++[`Mine.upd_eq,`Nat.reduceBEq,`cond_true,`cond_false]
 let ids:Array Term:=((a++b++c).map fun n=>(mkIdent n:Term)).toArray
 `(tactic| simp(config:={failIfUnchanged:=false}) only[$[$ids:term],*])
section
namespace Mine
variable{prog:Program}{w:World}{B:Heap}{k:Nat}
noncomputable def gb(n:Nat):Int:=2^2^n-1
theorem w7{a:Addr}(F:dU B 5 a)(G:ic B):b8 prog w B (k+1) (.ref a) (fun xs Q st=>∃n:Nat,xs=[.int n]∧n≤6∧Q (.int (gb n)) st):=by
 refine@dU.iB prog w B k _ _ _ _ 1 1 F (by decide+kernel) G.er (by decide+kernel) (by decide+kernel) (aZ (eF (cY rP (cY ym bz (cY ym bz (aw (i:=0) (by kernel_rfl)))) bz)) bM) ?_;intro xs Q st;refine aj ?_;intro n;refine aY ?_;rintro rfl az q;refine⟨rfl,?_⟩;have ae:(n:Int).toNat=n:=by exact tg
 have af:(1*2^n:Int).toNat=2^n:=by
  rw[Int.one_mul];exact Int.toNat_natCast (2^n)
 have aH:(2:Nat)^n≤64:=by
  calc (2:Nat)^n≤2^6:=Nat.pow_le_pow_right (by decide) az
   _=64:=by decide
 walk_at "V"
 refine a8 ?_
 walk_at "V"
 simp only[ae,af];have bX:(0:Int)≤2^n:=Int.pow_nonneg (by decide);have et:((2^n:Nat):Int)=2^n:=by simp
 refine⟨⟨by exact aI (.L (.k 0) (.n .p)) rfl,by exact aI (.i 500000 (.l .p (.k 6)) (.G 2 (.L (.n .p) (.k 1000000)))) rfl az,by decide⟩,⟨by lia,by lia,by decide⟩,?_⟩;rw[Int.one_mul];exact q
theorem Ec{a:Addr}(F:dU B 9 a)(G:ic B):b8 prog w B (k+1) (.ref a) (fun xs Q st=>∃a b:List Int,xs=[aS a,aS b]∧Q (.bool (a.all fun x=>decide (x∈b))) st):=by
 have hs:=G.hs;refine@dU.iB prog w B k _ _ _ _ 2 3 F (by decide+kernel) G.er (by decide+kernel) (by decide+kernel) (aZ (j4 (i:=2) (aw (i:=0) (by kernel_rfl)) (aZ (fQ (c6 (tH hs) (aw (i:=2) (by kernel_rfl)) (aw (i:=1) (by kernel_rfl))) (aZ (eF k4) bM) bM) bM) (by kernel_rfl) (cg (by decide+kernel))) (aZ (eF k4) bM)) ?_;intro xs Q st;refine bZ ?_;intro a b;refine ar ?_;rintro rfl q;refine⟨rfl,?_⟩
 walk_at "V"
 refine a8 (kh (fun v s=>v=aS a∧st=s) (fun a6 a7=>a7 _ _ ⟨rfl,rfl⟩) ?_);intro _ _;refine ar ?_;rintro rfl rfl;refine(cD (a.map .int) (fun n l s=>st=s∧(∃z,l=[some (aS a),some (aS b),z])∧(∀x∈a.take n,x∈b)) ⟨⟨rfl,⟨_,rfl⟩,by simp⟩,fun n l s Y=>rfl,?_,?_⟩)
 ·intro n l s y;refine aY ?_;rintro rfl;refine aj ?_;rintro z rfl;intro g7;intro au;have az:n<a.length:=by simpa using(List.getElem?_eq_some_iff.mp au).1
  rw[List.getElem?_map,List.getElem?_eq_getElem az]at au;cases au
  walk_at "V"
  refine a8 (gB (a[n]∉b) (fun a6 ae af=>?_) (fun h=>?_) fun h=>?_)
  ·walk_at "V"
   refine JZ (kg (fun h=>ae ?_) fun h=>af fun q=>?_)
   ·rw[Bool.not_eq_true',decide_eq_false_iff_not]at h;exact h
   ·rw[Bool.not_eq_false',decide_eq_true_iff]at h;exact q h
  ·have:(a.all fun x=>decide (x∈b))=false:=by
    rw[←Bool.not_eq_true,List.all_eq_true];exact fun h'=>h (of_decide_eq_true (h' _ (List.getElem_mem az)))
   rw[this]at q;exact q
  ·refine⟨rfl,⟨_,rfl⟩,fun x ai=>?_⟩;rw[List.take_add_one,List.getElem?_eq_getElem az]at ai;rcases List.mem_append.mp ai with ai|ai
   ·exact g7 x ai
   ·rw[List.mem_singleton.mp ai];exact Decidable.not_not.mp h
 ·intro n l s;refine aY ?_;rintro rfl;refine aj ?_;rintro z rfl;intro g7;intro az
  have:(a.all fun x=>decide (x∈b))=true:=by
   rw[List.all_eq_true];intro x ai;exact decide_eq_true (g7 x (by rw[List.take_of_length_le (by simpa using az)];exact ai))
  rw[this]at q;exact q
noncomputable def dK(a:List Int):Prop:=a.Pairwise (·<·)
structure mT(a b:List Int)(i j:Nat)(m:List Int):Prop where
 inc:dK m
 mem:∀x,x∈m↔x∈a.take i∨x∈b.take j
 eH:∀x∈m,∀y∈a.drop i,x<y
 gK:∀x∈m,∀y∈b.drop j,x<y
theorem w9{a:List Int}(aJ:dK a){i:Nat}(hi:i<a.length):∀y∈a.drop (i+1),a[i]<y:=by
 have:dK (a.drop i):=List.Pairwise.sublist (List.drop_sublist _ _) aJ;rw[List.drop_eq_getElem_cons hi]at this;exact(List.pairwise_cons.mp this).1
theorem J6{m:List Int}{x:Int}(h:dK m)(ai:∀y∈m,y<x):dK (m++[x]):=by
 unfold dK;rw[List.pairwise_append];exact⟨h,List.pairwise_singleton ..,fun y au z aT=>by rw[List.mem_singleton.mp aT];exact ai y au⟩
theorem Ed{a:List Int}{i:Nat}(hi:i<a.length)(x:Int):x∈a.take (i+1)↔x∈a.take i∨x=a[i]:=by
 rw[List.take_add_one,List.getElem?_eq_getElem hi];simp only[Option.toList,List.mem_append,List.mem_singleton]
theorem Ef{a:List Int}{i:Nat}{y:Int}(h:y∈a.drop (i+1)):y∈a.drop i:=by
 rw[←List.drop_drop]at h;exact List.mem_of_mem_drop h
theorem mT.left{a b:List Int}{i j:Nat}{m:List Int}(M:mT a b i j m)(aJ:dK a)(hi:i<a.length)(av:∀y∈b.drop j,a[i]<y):mT a b (i+1) j (m++[a[i]]):=by
 have hd:a[i]∈a.drop i:=by rw[List.drop_eq_getElem_cons hi];exact List.mem_cons_self ..
 refine⟨J6 M.inc fun y au=>M.eH y au _ hd,fun x=>?_,fun x ai y au=>?_,fun x ai y au=>?_⟩
 ·rw[List.mem_append,M.mem,Ed hi,List.mem_singleton];constructor
  ·rintro((h|h)|h)
   ·exact .inl (.inl h)
   ·exact .inr h
   ·exact .inl (.inr h)
  ·rintro((h|h)|h)
   ·exact .inl (.inl h)
   ·exact .inr h
   ·exact .inl (.inr h)
 ·rcases List.mem_append.mp ai with ai|ai
  ·exact M.eH x ai y (Ef au)
  ·rw[List.mem_singleton.mp ai];exact w9 aJ hi y au
 ·rcases List.mem_append.mp ai with ai|ai
  ·exact M.gK x ai y au
  ·rw[List.mem_singleton.mp ai];exact av y au
theorem mT.swap{a b:List Int}{i j:Nat}{m:List Int}(M:mT a b i j m):mT b a j i m:=
 ⟨M.inc,fun x=>by rw[M.mem];exact Or.comm,M.gK,M.eH⟩
theorem mT.both{a b:List Int}{i j:Nat}{m:List Int}(M:mT a b i j m)(aJ:dK a)(av:dK b)(hi:i<a.length)(aO:j<b.length)(e:a[i]=b[j]):mT a b (i+1) (j+1) (m++[a[i]]):=by
 have hd:a[i]∈a.drop i:=by rw[List.drop_eq_getElem_cons hi];exact List.mem_cons_self ..
 refine⟨J6 M.inc fun y au=>M.eH y au _ hd,fun x=>?_,fun x ai y au=>?_,fun x ai y au=>?_⟩
 ·rw[List.mem_append,M.mem,Ed hi,Ed aO,List.mem_singleton,←e];constructor
  ·rintro((h|h)|h)
   ·exact .inl (.inl h)
   ·exact .inr (.inl h)
   ·exact .inl (.inr h)
  ·rintro((h|h)|(h|h))
   ·exact .inl (.inl h)
   ·exact .inr h
   ·exact .inl (.inr h)
   ·exact .inr h
 ·rcases List.mem_append.mp ai with ai|ai
  ·exact M.eH x ai y (Ef au)
  ·rw[List.mem_singleton.mp ai];exact w9 aJ hi y au
 ·rcases List.mem_append.mp ai with ai|ai
  ·exact M.gK x ai y (Ef au)
  ·rw[List.mem_singleton.mp ai,e];exact w9 av aO y au
theorem xd{a:Addr}(F:dU B 8 a)(G:ic B):b8 prog w B (k+1) (.ref a) (fun xs Q st=>∃(a b:List Int)(n:Nat),xs=[aS a,aS b,.int n]∧a.length<1000∧b.length<1000∧dK a∧dK b∧
 ∀m g,∀Y:dK m,∀Y:(∀x,x∈m↔x∈a∨x∈b),Q (if m.length>n then .none else aS m) (st++g)):=by
 have dM:=G.len;have oP:=G.tuple;refine@dU.iB prog w B k _ _ _ _ 3 6 F (by decide+kernel) G.er (by decide+kernel) (by decide+kernel) (aZ (dg (i:=3) (jb bg) (by kernel_rfl) (cg (by decide+kernel))) (aZ (dg (i:=4) bz (by kernel_rfl) (cg (by decide+kernel))) (aZ (dg (i:=5) bz (by kernel_rfl) (cg (by decide+kernel))) (aZ (BX (gX (c6 qx (aw (i:=4) (by kernel_rfl)) (bL dM (.inl ⟨_,rfl⟩) fD (aQ (aw (i:=0) (by kernel_rfl)) bg) (by kernel_rfl) (by decide+kernel))) (gX (c6 qx (aw (i:=5) (by kernel_rfl)) (bL dM (.inl ⟨_,rfl⟩) fD (aQ (aw (i:=1) (by kernel_rfl)) bg) (by kernel_rfl) (by decide+kernel))) ph)) (aZ (fQ (gX (c6 jJ (aw (i:=5) (by kernel_rfl)) (bL dM (.inl ⟨_,rfl⟩) fD (aQ (aw (i:=1) (by kernel_rfl)) bg) (by kernel_rfl) (by decide+kernel))) (gX (my (c6 qx (aw (i:=4) (by kernel_rfl)) (bL dM (.inl ⟨_,rfl⟩) fD (aQ (aw (i:=0) (by kernel_rfl)) bg) (by kernel_rfl) (by decide+kernel))) (my (c6 qx (c4 (aw (i:=0) (by kernel_rfl)) (aw (i:=4) (by kernel_rfl))) (c4 (aw (i:=1) (by kernel_rfl)) (aw (i:=5) (by kernel_rfl)))) vK)) ph)) (aZ (jt (jv (aw (i:=3) (by kernel_rfl)) (c4 (aw (i:=0) (by kernel_rfl)) (aw (i:=4) (by kernel_rfl))))) (aZ (v7 (i:=4) bz (by kernel_rfl) (cg (by decide+kernel))) bM)) (aZ (fQ (gX (c6 jJ (aw (i:=4) (by kernel_rfl)) (bL dM (.inl ⟨_,rfl⟩) fD (aQ (aw (i:=0) (by kernel_rfl)) bg) (by kernel_rfl) (by decide+kernel))) (gX (c6 qx (c4 (aw (i:=1) (by kernel_rfl)) (aw (i:=5) (by kernel_rfl))) (c4 (aw (i:=0) (by kernel_rfl)) (aw (i:=4) (by kernel_rfl)))) ph)) (aZ (jt (jv (aw (i:=3) (by kernel_rfl)) (c4 (aw (i:=1) (by kernel_rfl)) (aw (i:=5) (by kernel_rfl))))) (aZ (v7 (i:=5) bz (by kernel_rfl) (cg (by decide+kernel))) bM)) (aZ (jt (jv (aw (i:=3) (by kernel_rfl)) (c4 (aw (i:=0) (by kernel_rfl)) (aw (i:=4) (by kernel_rfl))))) (aZ (v7 (i:=4) bz (by kernel_rfl) (cg (by decide+kernel))) (aZ (v7 (i:=5) bz (by kernel_rfl) (cg (by decide+kernel))) bM)))) bM)) bM)) (aZ (fQ (c6 cmp_gt (bL dM (.inl ⟨_,rfl⟩) fD (aQ (aw (i:=3) (by kernel_rfl)) bg) (by kernel_rfl) (by decide+kernel)) (aw (i:=2) (by kernel_rfl))) (aZ (eF lP) bM) bM) (aZ (eF (bL oP (.inr (.inl ⟨_,rfl⟩)) called_tuple (aQ (aw (i:=3) (by kernel_rfl)) bg) (by kernel_rfl) (by decide+kernel))) bM)))))) ?_;intro xs Q st;refine bG ?_;intro a b n;refine dH ?_;rintro rfl ib rf aJ av q;refine⟨rfl,?_⟩
 walk_at "V"
 refine a8 ?_
 walk_at "V"
 refine⟨by decide,?_⟩
 walk_at "V"
 refine a8 ?_
 walk_at "V"
 refine a8 ?_
 walk_at "V"
 refine a8 (J2 (fun r l s=>∃i j m,l=[some (aS a),some (aS b),some (.int n),some (.ref st.length),some (.int (i:Nat)),some (.int (j:Nat))]∧s=st++[.list (m.map .int)]∧i≤a.length∧j≤b.length∧m.length≤i+j∧r=a.length-i+(b.length-j)∧mT a b i j m)
  _ (cE 0 0 [] ⟨rfl,rfl,Nat.zero_le _,Nat.zero_le _,Nat.le_refl _,rfl,⟨.nil,by simp,by simp,by simp⟩⟩)
  (fun l s=>∃i j:Nat,getV l 4=some (.int i)∧getV l 5=some (.int j)∧(i<a.length∨j<b.length)) ?_ ?_ ?_)
 ·intro r _ _;refine bG ?_;intro i j m;refine nS ?_;rintro rfl rfl hi aO nC rfl M;intro a6 ae af
  walk_at "V"
  refine mS (by exact lL ib rfl) ?_
  walk_at "V"
  refine i6 (fun h=>ae (cD i j ⟨rfl,rfl,.inl (by exact aq (.B (.n .p) (.n .q) (.t .p .q)) rfl h)⟩)) fun h=>mS (by exact lL rf rfl) ?_
  walk_at "V"
  refine i6 (fun h'=>ae (cD i j ⟨rfl,rfl,.inr (by exact aq (.B (.n .p) (.n .q) (.t .p .q)) rfl h')⟩)) fun h'=>af ?_;refine bZ ?_;intro To Jd;refine aY ?_;intro aR aW cz;cases aR;cases aW
  exact cz.elim (fun ay=>aq (.n (.T (.n .p) (.n .q)) (.b .p .q .f)) rfl h ay) (fun aE=>aq (.n (.T (.n .p) (.n .q)) (.b .p .q .f)) rfl h' aE)
 ·intro r _ _;refine bG ?_;intro i j m;refine nS ?_;rintro rfl rfl hi aO nC rfl M;refine bZ ?_;intro To Jd;refine aY ?_;intro aR aW Tp;intro W rg _;cases aR;cases aW
  have mz:(listAt (.ref st.length) (st++[.list (m.map .int)])).isSome=true:=by rw[iM];rfl
  have Eg:(m.map ah.int).length≤1000000:=by rw[List.length_map];exact cJ (.i 500000 (.t .q (.k 1000)) (.i 500000 (.t .r (.k 1000)) (.i 500000 (.l .s .q) (.i 500000 (.l .t .r) (.i 500000 (.l .p (.a .s .t)) (.G 998 (.l .p (.k 1000000)))))))) rfl ib rf hi aO nC
  have Tq:∀eN:i<a.length,∀Y:(∀y∈b.drop j,a[i]<y),mT a b (i+1) j (m++[a[i]]):=fun eN h=>M.left aJ eN h;have Tr:∀gR:j<b.length,∀Y:(∀y∈a.drop i,b[j]<y),mT a b i (j+1) (m++[b[j]]):=fun gR h=>(M.swap.left av gR h).swap;refine a8 (gB (j=b.length∨∃(ae:i<a.length)(af:j<b.length),a[i]<b[j]) (fun a6 ae af=>?_) (fun h=>?_) fun h=>?_)
  ·walk_at "V"
   refine mS (by exact lL rf rfl) ?_
   walk_at "V"
   refine i6 (fun aG=>ae (.inl (by exact ql aG))) fun gR=>mS (by exact lL ib rfl) ?_
   walk_at "V"
   have J7:j<b.length:=by exact(Int.lt_or_gt_of_ne gR).elim (fun ay=>aq (.B (.n .p) (.n .q) (.t .p .q)) rfl ay) (fun aE=>aq (.i 2 (.l .p .q) (.B (.n .q) (.n .p) (.t .p .q))) rfl aO aE)
   refine i6 (fun aG=>?_) fun eN=>af ?_
   ·have eN:i<a.length:=by exact aq (.B (.n .p) (.n .q) (.t .p .q)) rfl aG
    refine rd eN (by exact lL ib rfl) ?_
    walk_at "V"
    refine rd J7 (by exact lL rf rfl) ?_
    walk_at "V"
    refine i6 (fun aG=>ae (.inr (cD eN J7 aG))) fun su=>af ?_;rintro(q|⟨_,_,q⟩)
    ·exact(Int.lt_or_gt_of_ne gR).elim (fun ay=>aq (.i (-1) (.e .p .q) (.B (.n .p) (.n .q) .f)) rfl q ay) (fun aE=>aq (.c .p .q (.B (.n .q) (.n .p) .f)) rfl q aE)
    ·exact su q
   ·rintro(q|⟨q,_⟩)<;>lia
  ·have eN:i<a.length:=by
    rcases h with q|⟨q,_⟩
    ·exact Tp.elim (fun ay=>aq (.b .p .q (.t .p .q)) rfl ay) (fun aE=>(aq (.i (-1) (.e .p .q) (.b .p .q .f)) rfl q aE:False).elim)
    ·exact q
   walk_at "V"
   refine a8 ?_
   walk_at "V"
   refine⟨mz,rd eN (by exact lL ib rfl) (oO Eg ⟨rfl,?_⟩)⟩
   walk_at "V"
   refine a8 ?_
   walk_at "V"
   refine(rg _ _ _ ?_ ⟨i+1,j,m++[a[i]],by simp,by simp,eN,aO,by simp;exact aA (.a .p (.a .q .r) (.l (.b .p) (.a (.b .q) .r))) rfl nC,rfl,Tq eN fun y au=>?_⟩).1
   ·exact cJ (.a .s (.a .r .t) (.c (.a .p (.b .t)) .s (.t (.a .p .q) (.a .r .q)))) rfl (cj _ _) (Nat.sub_add_cancel (aq (.b .p .q (.l (.b .p) .q)) rfl eN))
   ·rcases h with q|⟨_,af,q⟩
    ·rw[q,List.drop_length]at au;cases au
    ·rw[List.drop_eq_getElem_cons af]at au;rcases List.mem_cons.mp au with rfl|au
     ·exact q
     ·exact Int.lt_trans q (w9 av af y au)
  ·have gR:j<b.length:=by
    rcases Nat.lt_or_ge j b.length with q|q
    ·exact q
    ·exact absurd (.inl (by exact Nat.le_antisymm (aq (.a .p .q (.l .p .q)) rfl aO) (aq (.a .p .q (.l .p .q)) rfl q))) h
   have d5:∀eN:i<a.length,b[j]≤a[i]:=fun eN=>Int.not_lt.mp fun q=>h (.inr (cD eN gR q))
   walk_at "V"
   refine a8 (gB (i=a.length∨∃(ae:i<a.length),b[j]<a[i]) (fun a6 ae af=>?_) (fun h=>?_) fun h=>?_)
   ·walk_at "V"
    refine mS (by exact lL ib rfl) ?_
    walk_at "V"
    refine i6 (fun aG=>ae (.inl (by exact ql aG))) fun J8=>?_;have eN:i<a.length:=by exact(Int.lt_or_gt_of_ne J8).elim (fun ay=>aq (.B (.n .p) (.n .q) (.t .p .q)) rfl ay) (fun aE=>aq (.i 2 (.l .p .q) (.B (.n .q) (.n .p) (.t .p .q))) rfl hi aE)
    refine rd gR (by exact lL rf rfl) ?_
    walk_at "V"
    refine rd eN (by exact lL ib rfl) ?_
    walk_at "V"
    refine i6 (fun aG=>ae (.inr ⟨eN,aG⟩)) fun su=>af ?_;rintro(q|⟨_,q⟩)
    ·exact(Int.lt_or_gt_of_ne J8).elim (fun ay=>aq (.i (-1) (.e .p .q) (.B (.n .p) (.n .q) .f)) rfl q ay) (fun aE=>aq (.c .p .q (.B (.n .q) (.n .p) .f)) rfl q aE)
    ·exact su q
   ·walk_at "V"
    refine a8 ?_
    walk_at "V"
    refine⟨mz,rd gR (by exact lL rf rfl) (oO Eg ⟨rfl,?_⟩)⟩
    walk_at "V"
    refine a8 ?_
    walk_at "V"
    refine(rg _ _ _ ?_ ⟨i,j+1,m++[b[j]],by simp,by simp,hi,gR,by simp;exact aA (.a .p (.a .q .r) (.l (.b .p) (.a .q (.b .r)))) rfl nC,rfl,Tr gR fun y au=>?_⟩).1
    ·exact MQ aO (by assumption)
    ·rcases h with q|⟨af,q⟩
     ·rw[q,List.drop_length]at au;cases au
     ·rw[List.drop_eq_getElem_cons af]at au;rcases List.mem_cons.mp au with rfl|au
      ·exact q
      ·exact Int.lt_trans q (w9 aJ af y au)
   ·have eN:i<a.length:=by
     rcases Nat.lt_or_ge i a.length with q|q
     ·exact q
     ·exact absurd (.inl (by exact Nat.le_antisymm (aq (.a .p .q (.l .p .q)) rfl hi) (aq (.a .p .q (.l .p .q)) rfl q))) h
    have heq:a[i]=b[j]:=Int.le_antisymm (Int.not_lt.mp fun q=>h (.inr ⟨eN,q⟩)) (d5 eN)
    walk_at "V"
    refine a8 ?_
    walk_at "V"
    refine⟨mz,rd eN (by exact lL ib rfl) (oO Eg ⟨rfl,?_⟩)⟩
    walk_at "V"
    refine a8 ?_
    walk_at "V"
    refine a8 ?_
    walk_at "V"
    exact(rg _ _ _ (by exact(Nat.le_total (_+(1:Nat)) _).elim (fun ay=>(Nat.le_total _ _).elim (fun aE=>(Nat.le_total (_+(1:Nat)) _).elim (fun bI=>cu (.c (.a .q (.b .t)) (.v 5) (.i (-1) (.e (.a .s .t) (.v 5)) (.c (.a .p (.b (.v 6))) (.v 7) (.a (.v 7) (.a .r (.v 6)) (.t (.a .p .q) (.a .r .s)))))) rfl [(_-(_+(1:Nat))),(_-(_+(1:Nat))),(_-_),(_-_),_,_,_,_] [] (Nat.sub_add_cancel (aq (.b .p .q (.l (.b .p) .q)) rfl gR)) (Nat.sub_add_cancel (aq (.b .p .q (.l .p .q)) rfl gR)) (Nat.sub_add_cancel bI) (cj _ _)) (fun cM=>cu (.c (.a .q (.b .t)) (.v 5) (.i (-1) (.e (.a .s .t) (.v 5)) (.c .p .z (.t (.a .p .q) (.a .r .s))))) rfl [(_-(_+(1:Nat))),(_-(_+(1:Nat))),(_-_),(_-_),_,_] [] (Nat.sub_add_cancel (aq (.b .p .q (.l (.b .p) .q)) rfl gR)) (Nat.sub_add_cancel (aq (.b .p .q (.l .p .q)) rfl gR)) (Nat.sub_eq_zero_of_le cM))) (fun h7=>(aq (.b .p .q (.a .q .p .f)) rfl gR h7:False).elim)) (fun fL=>(Nat.le_total _ _).elim (fun fM=>(Nat.le_total (_+(1:Nat)) _).elim (fun lu=>cu (.c (.a .q (.b .t)) (.v 5) (.a (.v 5) (.b .t) (.c (.a .p (.b (.v 6))) (.v 7) (.a (.v 7) (.a .r (.v 6)) (.t (.a .p .q) (.a .r .s)))))) rfl [(_-(_+(1:Nat))),(_-(_+(1:Nat))),(_-_),(_-_),_,_,_,_] [] (Nat.sub_add_cancel (aq (.b .p .q (.l (.b .p) .q)) rfl gR)) fL (Nat.sub_add_cancel lu) (cj _ _)) (fun mO=>cu (.c (.a .q (.b .t)) (.v 5) (.i (-1) (.e (.a .s .t) (.v 5)) (.c .p .z (.t (.a .p .q) (.a .r .s))))) rfl [(_-(_+(1:Nat))),(_-(_+(1:Nat))),(_-_),(_-_),_,_] [] (Nat.sub_add_cancel (aq (.b .p .q (.l (.b .p) .q)) rfl gR)) (Nat.sub_add_cancel (aq (.b .p .q (.l .p .q)) rfl gR)) (Nat.sub_eq_zero_of_le mO))) (fun qQ=>(aq (.b .p .q (.a .q .p .f)) rfl gR qQ:False).elim))) ⟨i+1,j+1,m++[a[i]],by simp,by simp,eN,gR,by simp;exact aA (.a .p (.a .q .r) (.l (.b .p) (.a (.b .q) (.b .r)))) rfl nC,rfl,M.both aJ av eN gR heq⟩).1
 ·intro r _ _;refine bG ?_;intro i j m;refine nS ?_;rintro rfl rfl hi aO nC rfl M;intro mQ;have eN:¬i<a.length:=fun h=>mQ (cD i j ⟨rfl,rfl,.inl h⟩);have gR:¬j<b.length:=fun h=>mQ (cD i j ⟨rfl,rfl,.inr h⟩)
  have ez:∀x,x∈m↔x∈a∨x∈b:=fun x=>by
   rw[M.mem,List.take_of_length_le (by exact aq (.n (.t .q .p) (.l .p .q)) rfl eN),List.take_of_length_le (by exact aq (.n (.t .q .p) (.l .p .q)) rfl gR)]
  have bb:=q m [.list (m.map .int)] M.inc ez
  walk_at "V"
  have hlen:∀{Q:∀Y:ah,∀Y:St,Prop},∀Y:Q (.int m.length) (st++[.list (m.map .int)]),one rU [.ref st.length] Q (st++[.list (m.map .int)]):=Ti (iM ..) (by exact cJ (.i 1001 (.t .q (.k 1000)) (.i 1001 (.t .r (.k 1000)) (.i 1001 (.l .s .q) (.i 1001 (.l .t .r) (.i 1001 (.l .p (.a .s .t)) (.G 1 (.t .p (.k 1000000)))))))) rfl ib rf hi aO nC);refine a8 (gB (m.length>n) (fun a6 ae af=>?_) (fun h=>?_) fun h=>?_)
  ·walk_at "V"
   refine hlen ?_
   walk_at "V"
   exact kg (fun h=>ae (by have:=of_decide_eq_true h;lia)) fun h=>af (by have:=of_decide_eq_false h;lia)
  ·rw[if_pos h]at bb;exact bb
  ·rw[if_neg h]at bb
   walk_at "V"
   refine a8 ?_
   walk_at "V"
   exact JY (iM ..) (by exact cJ (.i 500000 (.t .q (.k 1000)) (.i 500000 (.t .r (.k 1000)) (.i 500000 (.l .s .q) (.i 500000 (.l .t .r) (.i 500000 (.l .p (.a .s .t)) (.G 998 (.l .p (.k 1000000)))))))) rfl ib rf hi aO nC) bb
end Mine
end
section
namespace Mine
variable{prog:Program}{w:World}{B:Heap}{k:Nat}
noncomputable def lD(i n:Nat):Int:=Builtin.bitXor (gb n) ((gb n).fdiv (2^2^i+1))
theorem Eh{a sO:Addr}(F:dU B 6 a)(G:ic B)(Ei:fN B (bP 5).name (.ref sO))(Ej:Plain B (.ref sO))
 (w7:∀k,b8 prog w B (k+1) (.ref sO) (fun xs Q st=>∃n:Nat,xs=[.int n]∧n≤6∧Q (.int (gb n)) st)):
 b8 prog w B (k+2) (.ref a) (fun xs Q st=>∃i n:Nat,xs=[.int i,.int n]∧i≤4∧n≤6∧Q (.int (lD i n)) st):=by
 refine@dU.iB prog w B (k+1) _ _ _ _ 2 3 F (by decide+kernel) G.er (by decide+kernel) (by decide+kernel) (aZ (dg (i:=2) (bL Ei Ej (w7 _) (aQ (aw (i:=1) (by kernel_rfl)) bg) (by kernel_rfl) (by decide+kernel)) (by kernel_rfl) (cg (by decide+kernel))) (aZ (eF (cY qv (aw (i:=2) (by kernel_rfl)) (cY rQ (aw (i:=2) (by kernel_rfl)) (cY o9 (cY ym bz (cY ym bz (aw (i:=0) (by kernel_rfl)))) bz)))) bM)) ?_;intro xs Q st;refine bZ ?_;intro i n;refine cH ?_;rintro rfl hi az q;refine⟨rfl,?_⟩
 walk_at "V"
 refine a8 ⟨n,rfl,az,?_⟩
 walk_at "V"
 refine a8 ?_
 walk_at "V"
 have ae:(i:Int).toNat=i:=by exact tg
 have af:(1*2^i:Int).toNat=2^i:=by
  rw[Int.one_mul];exact Int.toNat_natCast (2^i)
 have aH:(2:Nat)^i≤16:=by
  calc (2:Nat)^i≤2^4:=Nat.pow_le_pow_right (by decide) hi
   _=16:=by decide
 simp only[ae,af];have bX:(0:Int)≤2^i:=Int.pow_nonneg (by decide);have et:((2^i:Nat):Int)=2^i:=by simp
 have fq:(2:Nat)^2^i≤2^16:=Nat.pow_le_pow_right (by decide) aH;have kE:((2^2^i:Nat):Int)=2^2^i:=by simp
 have qG:(2:Nat)^16=65536:=by decide
 refine⟨⟨by exact aI (.L (.k 0) (.n .p)) rfl,by exact aI (.i 250000 (.l .p (.k 4)) (.L (.n .p) (.k 1000000))) rfl hi,by decide⟩,⟨by lia,by lia,by decide⟩,?_⟩
 walk_at "V"
 rw[Int.one_mul];have jg:(2:Int)^2^i+1=((2^2^i+1:Nat):Int):=by simp
 refine⟨⟨?_,?_⟩,q⟩
 ·rw[jg];exact Int.natCast_ne_zero.mpr (Nat.succ_ne_zero _)
 ·rw[jg,Int.natAbs_natCast];exact aI (.i 536870911 (.l .p (.k (2^16))) (.G 32767 (.t (.b .p) (.k 1073741824)))) rfl fq
noncomputable def jU(l:Nat)(t full:Int):Int:=if l % 2=1 then Builtin.bitXor t full else t
theorem J9(l:Nat):Builtin.bitAnd (l:Int) 1=((l % 2:Nat):Int):=by
 rw[PyProof.Rows.bitAnd_pp (by exact aI (.L (.k 0) (.n .p)) rfl) (by decide)];show(((l:Int).toNat &&& 1:Nat):Int)=_;rw[Int.toNat_natCast,Nat.and_one_is_mod]
theorem Av{a:Addr}(F:dU B 14 a)(G:ic B):b8 prog w B (k+1) (.ref a) (fun xs Q st=>∃(v:ah)(kvs:List (Int×ah))(l:Nat)(t full:Int),xs=[v,.int l,.int full]∧dictAt v st=some kvs∧fa ((l / 2:Nat):Int) kvs=some (.int t)∧Q (.int (jU l t full)) st):=by
 refine@dU.iB prog w B k _ _ _ _ 3 4 F (by decide+kernel) G.er (by decide+kernel) (by decide+kernel) (aZ (dg (i:=3) (c4 (aw (i:=0) (by kernel_rfl)) (cY vF (aw (i:=1) (by kernel_rfl)) bz)) (by kernel_rfl) (cg (by decide+kernel))) (aZ (fQ (c6 jJ (cY BD (aw (i:=1) (by kernel_rfl)) bz) bz) (aZ (eF (cY qv (aw (i:=3) (by kernel_rfl)) (aw (i:=2) (by kernel_rfl)))) bM) bM) (aZ (eF (aw (i:=3) (by kernel_rfl))) bM))) ?_;intro xs Q st;refine jr ?_;intro v kvs l t full;refine cH ?_;rintro rfl hd bq q;refine⟨rfl,?_⟩
 walk_at "V"
 refine a8 ?_
 walk_at "V"
 have ae:(l:Int).fdiv (2^(1:Int).toNat)=((l / 2:Nat):Int):=by
  rw[Int.fdiv_eq_ediv_of_nonneg _ (by decide)];simp
 refine⟨by decide,?_⟩;rw[ae];refine item_dict hd bq ?_
 walk_at "V"
 refine a8 (gB (l % 2=1) (fun a6 ae af=>?_) (fun h=>?_) fun h=>?_)
 ·walk_at "V"
  rw[J9];exact kg (fun h=>ae (by have:=of_decide_eq_true h;lia)) fun h=>af (by have:=of_decide_eq_false h;lia)
 ·unfold jU at q;rw[if_pos h]at q;exact q
 ·unfold jU at q;rw[if_neg h]at q;exact q
noncomputable def gc(aB:List (List Int))(c:List Int):List (List Int):=if aB.any (fun o=>o.all fun x=>decide (x∈c))then aB else aB++[c]
noncomputable def gD(ys:List (List Int)):List (List Int):=ys.foldl gc []
theorem Tt(ys:List (List Int))(c:List Int):gD (ys++[c])=gc (gD ys) c:=by simp[gD]
theorem Ek:∀ys:List (List Int),∀aB,(ys.foldl gc aB).length≤aB.length+ys.length
 |[],aB=>Nat.le_refl _
 |c::ys,aB=>by
  have ae:=Ek ys (gc aB c);have af:(gc aB c).length≤aB.length+1:=by unfold gc;split<;>simp
  simp only[List.foldl_cons,List.length_cons];exact bA (.a .p (.a .s .r) (.a .s (.b .q) (.l .p (.a .q (.b .r))))) rfl ae af
theorem El{a sP uM ew:Nat}(F:dU B 10 a)(G:ic B)(Tu:fN B (bP 9).name (.ref sP))(Tv:Plain B (.ref sP))
 (Ec:∀k,b8 prog w B (k+1) (.ref sP) (fun xs Q st=>∃a b:List Int,xs=[aS a,aS b]∧Q (.bool (a.all fun x=>decide (x∈b))) st))
 (tQ:∀pm fm doc,∀Y:v9 B a (PySem.Calls.docDef (bP 10).name (bP 10).params (bP 10).body (bP 10).scope pm fm doc) (mj (bP 10)) (bP 10).body (bP 10).scope,fm=.ref uM) (Tw:nE B uM ew) (uE:Ah B):
 b8 prog w B (k+3) (.ref a) (fun xs Q st=>∃(x:ah)(rows:List (List Int)),xs=[x]∧listAt x st=some (rows.map aS)∧st[0]?=some (.tab ew)∧rows.length≤100000∧(∀r∈rows,r.length<1000)∧
  ∀ys:List (List Int),∀Y:jj oM rows ys,Q (.ref st.length) (st++[.list ((gD ys).map aS),.list (ys.map aS)])):=by
 have lE:=G.sorted;have dM:=G.len;have er:=G.er;refine bG ?_ F.fn;intro pm fm doc X;have Tz:=tQ pm fm doc X;subst Tz;have Ai:∀names,(g5 names (some (.ref uM,(bP 10).name++".<locals>."))).code=some (.ref uM,(bP 10).name++".<locals>."):=fun Y=>rfl;refine@b8.imp prog w B (k+3) _ _ _ (@B9 prog w B (k+2) _ _ _ _ _ _ X (by decide+kernel) G.er (some (.ref uM,(bP 10).name++".<locals>.")) (fun c h=>by cases h;exact⟨rfl,rfl⟩) (aZ (dg (i:=1) (jb bg) (by kernel_rfl) (cg (by decide+kernel))) (aZ (j4 (i:=2) (S1 (c:=uM) (P:=ew) (j:=0) (uD:=(bP 10).name++".<locals>.") lE dM rfl (by kernel_rfl) Tw uE er (aw (i:=0) (by kernel_rfl)) (by kernel_rfl)) (aZ (dg (i:=3) k4 (by kernel_rfl) (cg (by decide+kernel))) (aZ (j4 (i:=4) (aw (i:=1) (by kernel_rfl)) (aZ (fQ (OF (bL Tu Tv (Ec _) (aQ (aw (i:=4) (by kernel_rfl)) (aQ (aw (i:=2) (by kernel_rfl)) bg)) (by kernel_rfl) (by decide+kernel))) (aZ (dg (i:=3) k4 (by kernel_rfl) (cg (by decide+kernel))) bM) bM) bM) (by kernel_rfl) (cg (by decide+kernel))) (aZ (fQ (Nl (aw (i:=3) (by kernel_rfl))) (aZ (jt (jv (aw (i:=1) (by kernel_rfl)) (aw (i:=2) (by kernel_rfl)))) bM) bM) bM))) (by kernel_rfl) (cg (by decide+kernel))) (aZ (eF (aw (i:=1) (by kernel_rfl))) bM)))) ?_;intro _ Q st;refine bZ ?_;intro x rows;refine dH ?_;rintro rfl aD eL hlen gO q;have aR:(mj (bP 10)).length=1:=by decide+kernel
 have aW:(varNames (bP 10).scope.names).length=5:=by decide+kernel
 rw[aR,aW];refine⟨rfl,?_⟩
 walk_at "V"
 refine a8 ?_
 walk_at "V"
 refine⟨by decide,?_⟩
 walk_at "V"
 have Ka:st≠[]:=fun e=>by rw[e]at eL;cases eL
 refine a8 (kh (fun v s=>v=.ref (st.length+1)∧∃ys:List (List Int),jj oM rows ys∧s=st++[.list [],.list (ys.map aS)]) (fun a6 a7=>?_) ?_)
 ·walk_at "V"
  refine⟨rows,jz aD _,dS eL _,by exact eZ hlen rfl,fun r aC=>Nat.lt_of_lt_of_le (gO r aC) (by decide),fun ys eu=>?_⟩;have:=a7 _ _ ⟨rfl,ys,eu,rfl⟩;simpa using this
 ·rintro _ _ ⟨rfl,ys,eu,rfl⟩;have kM:ys.length=rows.length:=eu.1.length_eq;refine(cD (ys.map aS) (fun n l s=>(∃kc lF nH,l=[some x,some (.ref st.length),kc,lF,nH])∧s=st++[.list ((gD (ys.take n)).map aS),.list (ys.map aS)]) ⟨⟨(cE _ _ _ rfl),rfl⟩,?_,?_,?_⟩)
  ·intro n l s;refine ar ?_;rintro _ rfl;exact cG (kL st _ 1)
  ·intro n l s y;refine ar ?_;refine bG ?_;rintro kc lF nH rfl;rintro rfl;intro au;have az:n<ys.length:=by simpa using(List.getElem?_eq_some_iff.mp au).1
   rw[List.getElem?_map,List.getElem?_eq_getElem az]at au;cases au
   have ji:gD (ys.take (n+1))=gc (gD (ys.take n)) ys[n]:=by
    rw[List.take_add_one,List.getElem?_eq_getElem az];exact Tt _ _
   have ff:(gD (ys.take n)).length≤100000:=by
    have:=Ek (ys.take n) [];have af:(ys.take n).length≤ys.length:=List.length_take_le' ..;unfold gD;simp only[List.length_nil]at this;exact bA (.a .q (.k 100000) (.c .r .q (.a .p (.a .z .s) (.a .s .r (.l .p (.k 100000)))))) rfl hlen kM this af
   generalize gD (ys.take n)=aB at ji ff ⊢;generalize ys[n]=c at ji ⊢
   walk_at "V"
   refine a8 ?_
   walk_at "V"
   refine lB (fun l s=>(∃z,l=[some x,some (.ref st.length),some (aS c),some (.bool (!aB.any fun o=>o.all fun x=>decide (x∈c))),z])∧s=st++[.list (aB.map aS),.list (ys.map aS)]) (fun a6 a7 Y Y=>?_) ?_
   ·refine kh (fun v s=>v=.ref st.length∧s=st++[.list (aB.map aS),.list (ys.map aS)]) (fun a6 a7=>a7 _ _ ⟨rfl,rfl⟩) ?_;intro _ _;refine ar ?_;rintro rfl rfl;refine(cD (aB.map aS) (fun m l s=>(∃z,l=[some x,some (.ref st.length),some (aS c),some (.bool (!(aB.take m).any fun o=>o.all fun x=>decide (x∈c))),z])∧s=st++[.list (aB.map aS),.list (ys.map aS)]) ⟨⟨⟨_,rfl⟩,rfl⟩,?_,?_,?_⟩)
    ·intro m l s;refine ar ?_;rintro _ rfl;exact cG (jl st _)
    ·intro m l s y;refine ar ?_;refine aj ?_;rintro z rfl;rintro rfl;intro au;have hm:m<aB.length:=by simpa using(List.getElem?_eq_some_iff.mp au).1
     rw[List.getElem?_map,List.getElem?_eq_getElem hm]at au;cases au
     have f9:((aB.take (m+1)).any fun o=>o.all fun x=>decide (x∈c))=(((aB.take m).any fun o=>o.all fun x=>decide (x∈c))||(aB[m].all fun x=>decide (x∈c))):=by
      rw[List.take_add_one,List.getElem?_eq_getElem hm,List.any_append];simp
     walk_at "V"
     refine a8 (gB ((aB[m].all fun x=>decide (x∈c))=true) (fun a6 ae af=>?_) (fun h=>?_) fun h=>?_)
     ·walk_at "V"
      refine(cD _ _ ⟨rfl,?_⟩);simp only[wc];exact kg (fun h=>ae h) fun h=>af (by rw[h];exact Bool.false_ne_true)
     ·refine a8 ?_
      walk_at "V"
      refine⟨⟨some (aS aB[m]),?_⟩,rfl⟩;rw[f9,h,Bool.or_true];rfl
     ·refine⟨⟨some (aS aB[m]),?_⟩,rfl⟩;rw[f9,Bool.not_eq_true _ |>.mp h,Bool.or_false]
    ·intro m l s;refine ar ?_;refine aj ?_;rintro z rfl;rintro rfl;intro hm;rw[List.take_of_length_le (by simpa using hm)];exact a7 _ _ ⟨⟨_,rfl⟩,rfl⟩
   ·intro l s;refine ar ?_;refine aj ?_;rintro z rfl;rintro rfl;refine a8 (gB ((aB.any fun o=>o.all fun x=>decide (x∈c))=false) (fun a6 ae af=>?_) (fun h=>?_) fun h=>?_)
    ·walk_at "V"
     refine kg (c:=!(aB.any fun o=>o.all fun x=>decide (x∈c))) (fun h=>ae (by simpa using h)) fun h=>af (by simpa using h)
    ·refine a8 ?_
     walk_at "V"
     refine⟨by rw[cG (jl st _)];rfl,append_at (jl st _) (by rw[List.length_map];exact eZ ff rfl) ⟨rfl,?_⟩⟩;refine⟨(cE _ _ _ rfl),?_⟩;rw[oN,ji];unfold gc;rw[h,if_neg Bool.false_ne_true];simp
    ·refine⟨(cE _ _ _ rfl),?_⟩;rw[ji];unfold gc;rw[if_pos (by simpa using h)]
  ·intro n l s;refine ar ?_;refine bG ?_;rintro kc lF nH rfl;rintro rfl;intro az;rw[List.take_of_length_le (by simpa using az)]
   walk_at "V"
   refine a8 ?_
   walk_at "V"
   exact q ys eu
end Mine
end
section
namespace Mine
variable{prog:Program}{w:World}{B:Heap}{k:Nat}
noncomputable def rh(x:Int):∀Y:List Int,List Int
 |[]=>[x]
 |y::r=>if x<y then x::y::r else if x=y then y::r else y::rh x r
theorem Kc{x y:Int}{r:List Int}:rh x (y::r)=if x<y then x::y::r else if x=y then y::r else y::rh x r:=rfl
theorem Kd{x z:Int}{l:List Int}:z∈rh x l↔z=x∨z∈l:=by
 induction l with
 |nil=>exact List.mem_singleton.trans ⟨.inl,fun h=>h.elim id fun q=>(List.not_mem_nil q).elim⟩
 |cons y r ih=>
  rw[Kc];by_cases ae:x<y
  ·rw[if_pos ae];exact List.mem_cons
  ·rw[if_neg ae];by_cases af:x=y
   ·subst af;rw[if_pos rfl];exact⟨.inr,fun h=>h.elim (fun q=>q▸List.mem_cons_self ..) id⟩
   ·rw[if_neg af,List.mem_cons,ih,List.mem_cons];exact⟨fun h=>h.elim (fun q=>.inr (.inl q)) fun h=>h.imp id .inr,fun h=>h.elim (fun q=>.inr (.inl q)) fun h=>h.imp id .inr⟩
theorem TA{x:Int}{l:List Int}(h:dK l):dK (rh x l):=by
 induction l with
 |nil=>exact List.pairwise_singleton ..
 |cons y r ih=>
  have h':=List.pairwise_cons.mp h;rw[Kc];by_cases ae:x<y
  ·rw[if_pos ae];refine List.pairwise_cons.mpr ⟨fun z aT=>?_,h⟩;rcases List.mem_cons.mp aT with rfl|aT
   ·exact ae
   ·exact Int.lt_trans ae (h'.1 z aT)
  ·rw[if_neg ae];by_cases af:x=y
   ·rw[if_pos af];exact h
   ·rw[if_neg af];refine List.pairwise_cons.mpr ⟨fun z aT=>?_,ih h'.2⟩;rcases Kd.mp aT with rfl|aT
    ·exact(Int.lt_or_gt_of_ne af).elim (fun ay=>nT (.i 2 (.o (.T .q .p)) (.B .q .p (.T .p .q))) rfl ae ay) (fun aE=>nT (.B .p .q (.T .p .q)) rfl aE)
    ·exact h'.1 z aT
noncomputable def i7(a b:List Int):List Int:=(a++b).foldr rh []
theorem TB{z:Int}{l:List Int}:z∈l.foldr rh []↔z∈l:=by
 induction l with
 |nil=>exact Iff.rfl
 |cons x l ih=>rw[List.foldr_cons,Kd,ih,List.mem_cons]
theorem TF(l:List Int):dK (l.foldr rh []):=by
 induction l with
 |nil=>exact .nil
 |cons x l ih=>exact TA ih
theorem uN{a b:List Int}{z:Int}:z∈i7 a b↔z∈a∨z∈b:=by unfold i7;rw[TB,List.mem_append]
theorem uO(a b:List Int):dK (i7 a b):=TF _
theorem sQ{a:List Int}:∀{b:List Int},∀Y:dK a,∀Y:dK b,∀Y:(∀z,z∈a↔z∈b),a=b:=by
 induction a with
 |nil=>
  intro b _ _ h;cases b with
  |nil=>rfl
  |cons y b=>cases(h y).mpr (List.mem_cons_self ..)
 |cons x a ih=>
  intro b aJ av h;cases b with
  |nil=>cases(h x).mp (List.mem_cons_self ..)
  |cons y b=>
   have k8:=List.pairwise_cons.mp aJ;have g4:=List.pairwise_cons.mp av
   have e:x=y:=by
    rcases List.mem_cons.mp ((h x).mp (List.mem_cons_self ..))with q|q
    ·exact q
    ·rcases List.mem_cons.mp ((h y).mpr (List.mem_cons_self ..))with aE|aE
     ·exact aE.symm
     ·exact absurd (k8.1 _ aE) (Int.lt_asymm (g4.1 _ q))
   subst e;refine congrArg _ (ih k8.2 g4.2 fun z=>⟨fun aT=>?_,fun aT=>?_⟩)
   ·exact(List.mem_cons.mp ((h z).mp (List.mem_cons_of_mem _ aT))).elim (fun q=>absurd (k8.1 z aT) (q▸Int.lt_irrefl _)) id
   ·exact(List.mem_cons.mp ((h z).mpr (List.mem_cons_of_mem _ aT))).elim (fun q=>absurd (g4.1 z aT) (q▸Int.lt_irrefl _)) id
noncomputable def lG(k:Nat)(a:List Int)(R:List (List Int)):List (List Int):=R.filterMap fun b=>if(i7 a b).length>k then none else some (i7 a b)
noncomputable def gE(L R:List (List Int))(k:Nat):List (List Int):=L.flatMap fun a=>lG k a R
noncomputable abbrev Em(xs:List ah)(Q:∀Y:ah,∀Y:St,Prop) (st:St):Prop:=∃(a b:List Int)(n:Nat),xs=[aS a,aS b,.int n]∧a.length<1000∧b.length<1000∧dK a∧dK b∧
 ∀m g,∀Y:dK m,∀Y:(∀x,x∈m↔x∈a∨x∈b),Q (if m.length>n then .none else aS m) (st++g)
noncomputable abbrev Ke(ew:Nat)(xs:List ah)(Q:∀Y:ah,∀Y:St,Prop) (st:St):Prop:=∃(x:ah)(rows:List (List Int)),xs=[x]∧listAt x st=some (rows.map aS)∧st[0]?=some (.tab ew)∧rows.length≤100000∧(∀r∈rows,r.length<1000)∧
 ∀ys:List (List Int),∀Y:jj oM rows ys,Q (.ref st.length) (st++[.list ((gD ys).map aS),.list (ys.map aS)])
noncomputable def Aw(R:List (List Int)):Prop:=∀r∈R,dK r∧r.length<100
noncomputable def nI(node:Nat)(ys:List (List Int))(most:Nat):List (List Int):=(gD ys).take most++[[(node:Int)]]
noncomputable abbrev En(ew:Nat)(xs:List ah)(Q:∀Y:ah,∀Y:St,Prop) (st:St):Prop:=∃(node:Nat)(x y:ah)(n most:Nat)(L R:List (List Int)),xs=[.int node,x,y,.int n,.int most]∧listAt x st=some (L.map aS)∧listAt y st=some (R.map aS)∧st[0]?=some (.tab ew)∧
 n<100∧L.length≤100∧R.length≤100∧Aw L∧Aw R∧
 ∀ys:List (List Int),∀Y:jj oM (gE L R n) ys,∀g,Q (.ref (st.length+g.length)) (st++g++[.list ((nI node ys most).map aS)])
theorem Kf(k:Nat)(a:List Int)(R:List (List Int)):(lG k a R).length≤R.length:=List.length_filterMap_le ..
theorem Kg(k:Nat)(R:List (List Int)):∀L:List (List Int),(gE L R k).length≤L.length*R.length
 |[]=>by simp[gE]
 |a::L=>by
  have ae:=Kf k a R;have af:=Kg k R L;show(lG k a R++gE L R k).length≤_;rw[List.length_append,List.length_cons,Nat.succ_mul];exact bA (.a .p .s (.a .q .r (.l (.a .p .q) (.a .r .s)))) rfl ae af
theorem TG(k:Nat)(L R:List (List Int))(a:List Int):gE (L++[a]) R k=gE L R k++lG k a R:=by
 simp[gE,List.flatMap_append]
theorem TH(k:Nat)(a b:List Int)(R:List (List Int)):lG k a (R++[b])=lG k a R++(if(i7 a b).length>k then[]else[i7 a b]):=by
 unfold lG;rw[List.filterMap_append];congr 1;by_cases h:(i7 a b).length>k
 ·rw[if_pos h];simp[h]
 ·rw[if_neg h];simp[h]
theorem TJ{k:Nat}{L R:List (List Int)}:∀m∈gE L R k,m.length≤k:=by
 intro m hm;refine aj ?_ (List.mem_flatMap.mp hm);intro a;refine ar ?_;intro _ hm;refine aj ?_ (List.mem_filterMap.mp hm);intro b;refine ar ?_;intro _ hm
 split at hm
 ·cases hm
 ·cases hm;exact aq (.n (.t .q .p) (.l .p .q)) rfl (by assumption)
theorem Eo{a ri sP ew:Nat}(F:dU B 11 a)(G:ic B)(Ep:fN B (bP 8).name (.ref ri))(Er:Plain B (.ref ri))(xd:∀k,b8 prog w B (k+1) (.ref ri) Em)
 (TL:fN B (bP 10).name (.ref sP)) (TM:Plain B (.ref sP)) (El:∀k,b8 prog w B (k+3) (.ref sP) (Ke ew)):
 b8 prog w B (k+4) (.ref a) (En ew):=by
 refine@dU.iB prog w B (k+3) _ _ _ _ 5 10 F (by decide+kernel) G.er (by decide+kernel) (by decide+kernel) (aZ (dg (i:=5) (jb bg) (by kernel_rfl) (cg (by decide+kernel))) (aZ (j4 (i:=6) (aw (i:=1) (by kernel_rfl)) (aZ (j4 (i:=7) (aw (i:=2) (by kernel_rfl)) (aZ (dg (i:=8) (bL Ep Er (xd _) (aQ (aw (i:=6) (by kernel_rfl)) (aQ (aw (i:=7) (by kernel_rfl)) (aQ (aw (i:=3) (by kernel_rfl)) bg))) (by kernel_rfl) (by decide+kernel)) (by kernel_rfl) (cg (by decide+kernel))) (aZ (fQ (c6 BI (aw (i:=8) (by kernel_rfl)) lP) (aZ (jt (jv (aw (i:=5) (by kernel_rfl)) (aw (i:=8) (by kernel_rfl)))) bM) bM) bM)) (by kernel_rfl) (cg (by decide+kernel))) bM) (by kernel_rfl) (cg (by decide+kernel))) (aZ (dg (i:=9) (BO (bL TL TM (El _) (aQ (aw (i:=5) (by kernel_rfl)) bg) (by kernel_rfl) (by decide+kernel)) (aw (i:=4) (by kernel_rfl))) (by kernel_rfl) (cg (by decide+kernel))) (aZ (jt (jv (aw (i:=9) (by kernel_rfl)) (lR (aQ (aw (i:=0) (by kernel_rfl)) bg)))) (aZ (eF (aw (i:=9) (by kernel_rfl))) bM))))) ?_;rintro xs Q st ⟨node,x,y,n,most,L,R,rfl,ai,au,eL,az,eQ,fe,vO,TN,q⟩;refine⟨rfl,?_⟩
 walk_at "V"
 refine a8 ?_
 walk_at "V"
 refine⟨by decide,?_⟩
 walk_at "V"
 have Kh:∀i j:Nat,∀Y:i≤L.length,(gE (L.take i) R n).length+(lG n (L.getD i []) (R.take j)).length≤100000:=fun i j Y=>by
  have ae:=Kg n R (L.take i);have af:=Kf n (L.getD i []) (R.take j);have aH:(L.take i).length≤100:=Nat.le_trans (List.length_take_le' ..) eQ;have bX:(R.take j).length≤100:=Nat.le_trans (List.length_take_le' ..) fe;have et:(L.take i).length*R.length≤100*100:=Nat.mul_le_mul aH fe;exact bA (.i 999 (.l .p .r) (.i 100 (.l .q .s) (.i 100 (.l .s (.k 100)) (.i 999 (.l .r (.m 100 (.k 100))) (.G 99 (.l (.a .p .q) (.k 100000))))))) rfl ae af bX et
 refine lB (fun l s=>∃g fG jm jA,l=[some (.int node),some x,some y,some (.int n),some (.int most),some (.ref st.length),fG,jm,jA,none]∧s=st++(.list ((gE L R n).map aS)::g)) (fun a6 a7 Y Y=>?_) ?_
 ·refine kh (fun v s=>x=v∧s=st++[.list []]) (fun a6 a7=>a7 _ _ ⟨rfl,rfl⟩) ?_;intro _ _;refine ar ?_;rintro rfl rfl;refine⟨L.map aS,fun i l s=>∃g fG jm jA,l=[some (.int node),some x,some y,some (.int n),some (.int most),some (.ref st.length),fG,jm,jA,none]∧s=st++(.list ((gE (L.take i) R n).map aS)::g),⟨[],_,_,_,rfl,rfl⟩,?_,?_,?_⟩
  ·intro i l s;refine dF ?_;intro g _ _ _;refine ar ?_;rintro _ rfl;exact uK (jz ai _)
  ·intro i l s u;refine dF ?_;intro g fG jm jA;refine ar ?_;rintro rfl rfl;intro dQ;have hi:i<L.length:=by simpa using(List.getElem?_eq_some_iff.mp dQ).1
   rw[List.getElem?_map,List.getElem?_eq_getElem hi]at dQ;cases dQ
   have Kl:L.getD i []=L[i]:=by simp[List.getD,hi]
   have dh:=vO L[i] (List.getElem_mem hi);have f9:L.take (i+1)=L.take i++[L[i]]:=by rw[List.take_add_one,List.getElem?_eq_getElem hi];rfl
   generalize L[i]=c at Kl dh f9 ⊢
   walk_at "V"
   refine a8 (kh (fun qH s=>y=qH∧s=st++(.list ((gE (L.take i) R n).map aS)::g)) (fun a6 a7=>a7 _ _ ⟨rfl,rfl⟩) ?_);intro _ _;refine ar ?_;rintro rfl rfl;refine⟨R.map aS,fun j l s=>∃g jm jA,l=[some (.int node),some x,some y,some (.int n),some (.int most),some (.ref st.length),some (aS c),jm,jA,none]∧s=st++(.list ((gE (L.take i) R n++lG n c (R.take j)).map aS)::g),⟨g,_,_,rfl,by rw[List.take_zero];simp[lG]⟩,?_,?_,?_⟩
   ·intro j l s;refine bG ?_;intro g _ _;refine ar ?_;rintro _ rfl;exact uK (jz au _)
   ·intro j l s u;refine bG ?_;intro g jm jA;refine ar ?_;rintro rfl rfl;intro dQ;have aO:j<R.length:=by simpa using(List.getElem?_eq_some_iff.mp dQ).1
    rw[List.getElem?_map,List.getElem?_eq_getElem aO]at dQ;cases dQ
    have Km:=TN R[j] (List.getElem_mem aO);have c8:=Kh i j (Nat.le_of_lt hi);rw[Kl]at c8
    have xe:lG n c (R.take (j+1))=lG n c (R.take j)++(if(i7 c R[j]).length>n then[]else[i7 c R[j]]):=by
     rw[List.take_add_one,List.getElem?_eq_getElem aO];exact TH _ _ _ _
    generalize lG n c (R.take j)=gi at xe c8 ⊢
    walk_at "V"
    refine a8 (cE _ _ n ⟨rfl,by exact aI (.i 111 (.t .p (.k 100)) (.G 10 (.t .p (.k 1000)))) rfl dh.2,by exact aI (.i 111 (.t .p (.k 100)) (.G 10 (.t .p (.k 1000)))) rfl Km.2,dh.1,Km.1,fun m cL hm ez=>?_⟩);have TP:m=i7 c R[j]:=sQ hm (uO _ _) fun z=>by rw[ez,uN]
    subst TP
    walk_at "V"
    refine a8 (gB (¬(i7 c R[j]).length>n) (fun a6 ae af=>?_) (fun h=>?_) fun h=>?_)
    ·walk_at "V"
     by_cases aG:(i7 c R[j]).length>n
     ·rw[if_pos aG];exact af (fun h=>h aG)
     ·rw[if_neg aG];exact ae aG
    ·rw[if_neg h]at xe ⊢;refine a8 ?_
     walk_at "V"
     rw[List.append_assoc,List.cons_append];refine⟨by rw[cG (jl st _)];rfl,append_at (jl st _) (by rw[List.length_map,List.length_append];exact aq (.i 10 (.l (.a .p .q) (.k 100000)) (.l (.a .p .q) (.k 1000000))) rfl c8) ⟨rfl,?_⟩⟩;refine(cE (g++cL) _ _ ⟨rfl,?_⟩);rw[oN,xe];simp
    ·have aG:(i7 c R[j]).length>n:=Decidable.not_not.mp h;rw[if_pos aG]at xe;refine(cE (g++cL) _ _ ⟨rfl,?_⟩);rw[xe];simp
   ·intro j l s;refine bG ?_;intro g jm jA;refine ar ?_;rintro rfl rfl;intro aO;refine(dX g _ _ _ ⟨rfl,?_⟩);have TQ:R.take j=R:=List.take_of_length_le (by simpa using aO);rw[f9,TG,TQ]
  ·intro i l s;refine dF ?_;intro g fG jm jA;refine ar ?_;rintro rfl rfl;intro hi;rw[List.take_of_length_le (by simpa using hi)];exact a7 _ _ (dX g _ _ _ ⟨rfl,rfl⟩)
 ·intro l s;refine dF ?_;intro g fG jm jA;refine ar ?_;rintro rfl rfl;have c8:=Kh L.length 0 (Nat.le_refl _);rw[List.take_length]at c8
  walk_at "V"
  refine a8 (cD _ (gE L R n) ⟨rfl,cG (jl st _),dS eL _,by exact aq (.a (.a .p .q) (.k 100000) (.l .p (.k 100000))) rfl c8,fun m hm=>?_,fun ys eu=>?_⟩)
  ·have:=TJ m hm;exact aq (.i 111 (.t .q (.k 100)) (.i 111 (.l .p .q) (.G 10 (.t .p (.k 1000))))) rfl az this
  ·walk_at "V"
   have kM:ys.length=(gE L R n).length:=eu.1.length_eq
   have ff:(gD ys).length≤ys.length:=by
    have:=Ek ys [];simpa [gD]using this
   simp only[BN];have ib:listAt (.ref (st++bB.list ((gE L R n).map aS)::g).length) ((st++bB.list ((gE L R n).map aS)::g)++[bB.list ((gD ys).map aS),bB.list (ys.map aS)])=some ((gD ys).map aS):=cG (jl _ _);rw[G5 ib];refine⟨⟨by rw[List.length_map];exact bA (.i 10 (.l (.a .q .r) (.k 100000)) (.i 10 (.e .s .q) (.i 10 (.l .p .s) (.l .p (.k 1000000))))) rfl c8 kM ff,.inl (by exact aI (.L (.k 0) (.n .p)) rfl)⟩,?_⟩
   walk_at "V"
   refine a8 ?_
   walk_at "V"
   rw[if_pos (by exact aI (.L (.k 0) (.n .p)) rfl)];have ae:(most:Int).toNat=most:=by exact tg
   rw[ae];refine⟨by rw[cG (jy _ _)];rfl,by decide,oO ?_ ⟨rfl,?_⟩⟩
   ·rw[List.length_take,List.length_map];exact cJ (.i 10 (.l (.a .q .r) (.k 100000)) (.i 10 (.e .s .q) (.i 10 (.l .t .s) (.i 10 (.l .p .t) (.l .p (.k 1000000)))))) rfl c8 kM ff (Nat.min_le_right _ _)
   ·refine a8 ?_
    walk_at "V"
    have bb:=q ys eu (bB.list ((gE L R n).map aS)::g++[bB.list ((gD ys).map aS),bB.list (ys.map aS)]);unfold nI at bb;simp only[List.map_append,List.map_take,List.map_cons,List.map_nil]at bb
    have aR:(st++bB.list ((gE L R n).map aS)::g++[bB.list ((gD ys).map aS),bB.list (ys.map aS)]).length=st.length+(bB.list ((gE L R n).map aS)::g++[bB.list ((gD ys).map aS),bB.list (ys.map aS)]).length:=by
     simp
    rw[aR];rw[List.append_assoc st];exact bb
end Mine
end
section
namespace Mine
variable{prog:Program}{w:World}{B:Heap}{k:Nat}
noncomputable def sR(g:List Node)(n most:Nat)(cs:List (List (List Int)))(i:Nat)(c:List (List Int)):Prop:=
 (i=0∧c=[[]])∨(1≤i∧g[i]?=some none∧c=[[(i:Int)]])∨
 (1≤i∧∃l r L R ys,g[i]?=some (some (l,r))∧cs[l / 2]?=some L∧cs[r / 2]?=some R∧jj oM (gE L R n) ys∧c=nI i ys most)
noncomputable def nJ(g:List Node)(n most:Nat)(cs:List (List (List Int))):Prop:=∀i c,∀Y:cs[i]?=some c,sR g n most cs i c
theorem sR.app{g:List Node}{n most:Nat}{cs:List (List (List Int))}{i:Nat}{c:List (List Int)}(h:sR g n most cs i c)(d:List (List Int)):sR g n most (cs++[d]) i c:=by
 rcases h with h|h|⟨aV,l,r,L,R,ys,ae,af,aH,bX⟩
 ·exact .inl h
 ·exact .inr (.inl h)
 ·exact .inr (.inr ⟨aV,l,r,L,R,ys,ae,by rw[List.getElem?_append_left (List.getElem?_eq_some_iff.mp af).1];exact af,by rw[List.getElem?_append_left (List.getElem?_eq_some_iff.mp aH).1];exact aH,bX⟩)
theorem nJ.snoc{g:List Node}{n most:Nat}{cs:List (List (List Int))}{c:List (List Int)}(h:nJ g n most cs)(aG:sR g n most cs cs.length c):nJ g n most (cs++[c]):=by
 intro i d hd;by_cases hi:i<cs.length
 ·rw[List.getElem?_append_left hi]at hd;exact(h i d hd).app c
 ·rw[List.getElem?_append_right (by exact aq (.n (.t .q .p) (.l .p .q)) rfl hi)]at hd
  have:i=cs.length:=by
   have:=(List.getElem?_eq_some_iff.mp hd).1;simp at this;exact Nat.le_antisymm (aA (.c .r .z (.a .p (.a .r .q) (.l .p .q))) rfl this (cj _ _)) (aq (.n (.t .q .p) (.l .p .q)) rfl hi)
  subst this;rw[Nat.sub_self]at hd;cases hd
  exact aG.app _
theorem Es{aB:List (List Int)}{c x:List Int}(h:x∈gc aB c):x∈aB∨x=c:=by
 unfold gc at h
 split at h
 ·exact .inl h
 ·rcases List.mem_append.mp h with h|h
  ·exact .inl h
  ·exact .inr (List.mem_singleton.mp h)
theorem Kn:∀(ys aB:List (List Int)){x:List Int},∀Y:x∈ys.foldl gc aB,x∈aB∨x∈ys
 |[],_,_,h=>.inl h
 |y::ys,aB,x,h=>by
  rcases Kn ys _ h with h|h
  ·rcases Es h with h|rfl
   ·exact .inl h
   ·exact .inr (List.mem_cons_self ..)
  ·exact .inr (List.mem_cons_of_mem _ h)
theorem Et{ys:List (List Int)}{x:List Int}(h:x∈gD ys):x∈ys:=by
 rcases Kn ys [] h with h|h
 ·cases h
 ·exact h
theorem xf{k:Nat}{L R:List (List Int)}{m:List Int}:m∈gE L R k↔∃a∈L,∃b∈R,m=i7 a b∧m.length≤k:=by
 unfold gE lG;rw[List.mem_flatMap];constructor
 ·refine aj ?_;intro a;refine ar ?_;intro aJ hm;refine aj ?_ (List.mem_filterMap.mp hm);intro b;refine ar ?_;intro av hm
  split at hm
  ·cases hm
  ·cases hm;exact⟨a,aJ,b,av,rfl,by exact aq (.n (.t .q .p) (.l .p .q)) rfl (by assumption)⟩
 ·rintro⟨a,aJ,b,av,rfl,aD⟩;exact⟨a,aJ,List.mem_filterMap.mpr ⟨b,av,by rw[if_neg (by exact aq (.a .q .p (.o (.t .p .q))) rfl aD)]⟩⟩
theorem TR{i most n:Nat}{L R ys:List (List Int)}(az:n<100)(hm:most≤99)(hs:jj oM (gE L R n) ys):(nI i ys most).length≤100∧Aw (nI i ys most):=by
 refine⟨?_,fun r aC=>?_⟩
 ·unfold nI;rw[List.length_append,List.length_take];simp only[List.length_cons,List.length_nil];exact aq (.a .q (.k 99) (.a .p .q (.l (.a .p (.b .z)) (.k 100)))) rfl hm (Nat.min_le_left _ _)
 ·rcases List.mem_append.mp aC with aC|aC
  ·have ae:=Et (List.mem_of_mem_take aC);obtain⟨a,_,b,_,rfl,aD⟩:=xf.mp (hs.1.mem_iff.mp ae);exact⟨uO _ _,by exact aq (.b .q (.k 100) (.a .p .q (.t .p (.k 100)))) rfl az aD⟩
  ·rw[List.mem_singleton.mp aC];exact⟨List.pairwise_singleton ..,by simp⟩
theorem sR.ok{g:List Node}{n most:Nat}{cs:List (List (List Int))}{i:Nat}{c:List (List Int)}(az:n<100)(hm:most≤99)(h:sR g n most cs i c):c.length≤100∧Aw c:=by
 rcases h with⟨_,rfl⟩|⟨_,_,rfl⟩|⟨_,l,r,L,R,ys,_,_,_,hs,rfl⟩
 ·refine⟨by simp,fun r aC=>?_⟩;rw[List.mem_singleton.mp aC];exact⟨.nil,by simp⟩
 ·refine⟨by simp,fun r aC=>?_⟩;rw[List.mem_singleton.mp aC];exact⟨List.pairwise_singleton ..,by simp⟩
 ·exact TR az hm hs
noncomputable def TableAt(s:St)(cS:Nat)(cs:List (List (List Int))):Prop:=∃rs:List Nat,s[cS]?=some (.list (rs.map .ref))∧rs.length=cs.length∧∀(i:Nat)(c:List (List Int)),∀Y:cs[i]?=some c,∃r,rs[i]?=some r∧r≠cS∧s[r]?=some (.list (c.map aS))
theorem TableAt.app{s:St}{cS:Nat}{cs:List (List (List Int))}(h:TableAt s cS cs)(g:St):TableAt (s++g) cS cs:=by
 refine aj ?_ h;clear h;intro rs;refine aY ?_;intro ae af aH;refine⟨rs,dS ae g,af,fun i c aG=>?_⟩;refine aj ?_ (aH i c aG);intro r;refine aY ?_;intro aR aW cz;exact⟨r,aR,aW,dS cz g⟩
theorem TableAt.push{s:St}{cS rj:Nat}{cs:List (List (List Int))}{c:List (List Int)}{Q:∀Y:ah,∀Y:St,Prop} (h:TableAt s cS cs) (aD:cs.length≤1000) (aC:s[rj]?=some (.list (c.map aS))) (cP:rj≠cS)
 (bb:∀o,∀Y:TableAt (s.set cS o) cS (cs++[c]),Q .none (s.set cS o)):pF (.ref cS) (.ref rj) Q s:=by
 refine aj ?_ h;clear h;intro rs;refine aY ?_;intro ae af aH;refine append_at ae (by rw[List.length_map];exact aq (.i 1000 (.l .q (.k 1000)) (.i 1000 (.e .p .q) (.l .p (.k 1000000)))) rfl aD af) (bb _ ⟨rs++[rj],?_,by simp[af],fun i d hd=>?_⟩)
 ·rw[List.getElem?_set_self (List.getElem?_eq_some_iff.mp ae).1];simp
 ·by_cases hi:i<cs.length
  ·rw[List.getElem?_append_left hi]at hd;refine aj ?_ (aH i d hd);intro r;refine aY ?_;intro aR aW cz;exact⟨r,by rw[List.getElem?_append_left (by exact aA (.i (-1) (.e .q .r) (.b .p .r (.t .p .q))) rfl af hi)];exact aR,aW,by rw[List.getElem?_set_ne (Ne.symm aW)];exact cz⟩
  ·rw[List.getElem?_append_right (by exact aq (.n (.t .q .p) (.l .p .q)) rfl hi)]at hd
   have:i=cs.length:=by
    have:=(List.getElem?_eq_some_iff.mp hd).1;simp at this;exact Nat.le_antisymm (aA (.c .r .z (.a .p (.a .r .q) (.l .p .q))) rfl this (cj _ _)) (aq (.n (.t .q .p) (.l .p .q)) rfl hi)
   subst this;rw[Nat.sub_self]at hd;cases hd
   exact⟨rj,by rw[←af,List.getElem?_append_right (Nat.le_refl _)];simp,cP,by rw[List.getElem?_set_ne (Ne.symm cP)];exact aC⟩
theorem Ko{st s':St}{cS:Nat}(h:st.length≤cS)(o:bB):(st++s').set cS o=st++s'.set (cS-st.length) o:=List.set_append_right _ _ h
theorem TableAt.item{s:St}{cS i:Nat}{cs:List (List (List Int))}{c:List (List Int)}{Q:∀Y:ah,∀Y:St,Prop} (h:TableAt s cS cs) (aD:cs.length≤1000) (aG:cs[i]?=some c) (bb:∀r,∀Y:listAt (.ref r) s=some (c.map aS),Q (.ref r) s):nc (.ref cS) (.int (i:Nat)) Q s:=by
 refine aj ?_ h;clear h;intro rs;refine aY ?_;intro ae af aH;refine aj ?_ (aH i c aG);intro r;refine aY ?_;intro aR aW cz;refine item_list (cG ae) (by rw[List.length_map];exact aq (.i 999999999 (.l .q (.k 1000)) (.i 999999999 (.e .p .q) (.G 999 (.t .p (.k 1000000000))))) rfl aD af) (x:=.ref r) ?_ (bb r (cG cz));rw[gC,List.getElem?_map,aR];rfl
noncomputable abbrev Eu(aF:Addr)(ew:Nat)(xs:List ah)(Q:∀Y:ah,∀Y:St,Prop) (st:St):Prop:=∃(aig:ah)(n most:Nat)(g:List Node),xs=[aig,.int n,.int most]∧ki aF aig st=some (g.map fy)∧gQ g∧st[0]?=some (.tab ew)∧n<100∧most≤99∧
 ∀cs cS s',∀Y:cs.length=g.length,∀Y:nJ g n most cs,∀Y:TableAt (st++s') cS cs,Q (.ref cS) (st++s')
theorem Ew{a Ex aF ew:Nat}{bS:∀Y:Str,Option Value} (F:dU B 12 a) (G:ic B) (X:jw B aF bS) (ee:bS "nodes"=none) (dN:typeLookup (.type "object") "nodes"=pure none) (TS:fN B (bP 11).name (.ref Ex)) (TT:Plain B (.ref Ex)) (Eo:∀k,b8 prog w B (k+4) (.ref Ex) (En ew)):
 b8 prog w B (k+5) (.ref a) (Eu aF ew):=by
 have dM:=G.len;have ie:=G.range;refine@dU.iB prog w B (k+4) _ _ _ _ 3 6 F (by decide+kernel) G.er (by decide+kernel) (by decide+kernel) (aZ (dg (i:=3) (jb (aQ (jb (aQ (lR bg) bg)) bg)) (by kernel_rfl) (cg (by decide+kernel))) (aZ (j4 (i:=4) (bL ie (.inr (.inl ⟨_,rfl⟩)) called_range (aQ bz (aQ (bL dM (.inl ⟨_,rfl⟩) fD (aQ (iK X ee dN (aw (i:=0) (by kernel_rfl))) bg) (by kernel_rfl) (by decide+kernel)) bg)) (by kernel_rfl) (by decide+kernel)) (aZ (dg (i:=5) (c4 (iK X ee dN (aw (i:=0) (by kernel_rfl))) (aw (i:=4) (by kernel_rfl))) (by kernel_rfl) (cg (by decide+kernel))) (aZ (fQ (c6 vJ (aw (i:=5) (by kernel_rfl)) lP) (aZ (jt (jv (aw (i:=3) (by kernel_rfl)) (jb (aQ (lR (aQ (aw (i:=4) (by kernel_rfl)) bg)) bg)))) bM) (aZ (jt (jv (aw (i:=3) (by kernel_rfl)) (bL TS TT (Eo _) (aQ (aw (i:=4) (by kernel_rfl)) (aQ (c4 (aw (i:=3) (by kernel_rfl)) (cY vF (c4 (aw (i:=5) (by kernel_rfl)) bz) bz)) (aQ (c4 (aw (i:=3) (by kernel_rfl)) (cY vF (c4 (aw (i:=5) (by kernel_rfl)) bz) bz)) (aQ (aw (i:=1) (by kernel_rfl)) (aQ (aw (i:=2) (by kernel_rfl)) bg))))) (by kernel_rfl) (by decide+kernel)))) bM)) bM)) (by kernel_rfl) (cg (by decide+kernel))) (aZ (eF (aw (i:=3) (by kernel_rfl))) bM))) ?_;intro xs Q st;refine dF ?_;intro aig n most g;refine nS ?_;rintro rfl b7 b6 eL az hm q;refine⟨rfl,?_⟩
 walk_at "V"
 have p0:1≤g.length:=by
  have:=(List.getElem?_eq_some_iff.mp b6.zero).1;lia
 refine a8 ?_
 walk_at "V"
 refine⟨by decide,by decide,by decide,?_⟩
 walk_at "V"
 refine lB (fun l s=>∃s' cs cS rk fv,l=[some aig,some (.int n),some (.int most),some (.ref cS),rk,fv]∧s=st++s'∧TableAt s cS cs∧cs.length=g.length∧nJ g n most cs) (fun a6 a7 Y Y=>?_) ?_
 ·refine kh (fun v s=>v=.range 1 g.length∧s=st++[bB.list [ah.tup []]]++[bB.list [ah.ref st.length]]) (fun a6 a7=>?_) ?_
  ·walk_at "V"
   refine lC (gP (gP b7 _) _) fun x ai=>jT ai (by rw[List.length_map];have:=b6.len;exact fz this rfl) ?_;simp only[Ha,List.length_map];exact a7 _ _ ⟨rfl,rfl⟩
  ·intro _ _;refine ar ?_;rintro rfl rfl;refine⟨(List.range ((g.length:Int)-1).toNat).map fun i=>.int (1+(i:Nat)),fun j l s=>∃s' cs cS rk fv,l=[some aig,some (.int n),some (.int most),some (.ref cS),rk,fv]∧s=st++s'∧st.length≤cS∧j+1≤g.length∧TableAt s cS cs∧cs.length=j+1∧nJ g n most cs,?_,?_,?_,?_⟩
   ·refine(kX [bB.list [ah.tup []],bB.list [ah.ref st.length]] [[[]]] (st.length+1) none none ⟨by simp,by simp,by exact aI (.l .p (.b .p)) rfl,by exact aI (.a .o .p (.l (.b .z) .p)) rfl p0,⟨[st.length],?_,rfl,fun i c aG=>?_⟩,rfl,fun i c aG=>?_⟩)
    ·rw[List.append_assoc];exact kL st _ 1
    ·have:i=0:=by
      have:=(List.getElem?_eq_some_iff.mp aG).1;simp at this;exact Nat.le_antisymm (aI (.c .p .z (.l .p .z)) rfl this) (aI (.l .z .p) rfl)
     subst this;cases aG
     refine⟨st.length,rfl,by exact fun ay=>aI (.i (-1) (.e .p (.b .p)) .f) rfl ay,?_⟩;rw[List.append_assoc];exact jl st _
    ·have:i=0:=by
      have:=(List.getElem?_eq_some_iff.mp aG).1;simp at this;exact Nat.le_antisymm (aI (.c .p .z (.l .p .z)) rfl this) (aI (.l .z .p) rfl)
     subst this;cases aG
     exact .inl ⟨rfl,rfl⟩
   ·intro j l s _;have:=b6.len;exact sN (by exact ik (.L (.k (-1000000)) (.k 1)) rfl) (by exact ik (.L (.k 1) (.k 1000000)) rfl) (by exact aI (.L (.k (-1000000)) (.n .p)) rfl) (by exact aI (.i 10000 (.l .p (.k 100)) (.L (.n .p) (.k 1000000))) rfl this)
   ·intro j l s y;refine jr ?_;intro s' cs cS rk fv;refine nS ?_;rintro rfl rfl ml Kp ck b9 dR;intro au
    have aO:j+1<g.length:=by
     have:=(List.getElem?_eq_some_iff.mp au).1;simp at this;exact aA (.b .p .r (.c (.b .r) .q (.t (.b .p) .q))) rfl this (Nat.sub_add_cancel (aA (.b .q .r (.a .r .p (.l .o .p))) rfl this (Nat.sub_le _ (1:Nat))))
    rw[List.getElem?_map,List.getElem?_range (by exact aA (.b (.b .p) .r (.A (.s (.n .r) (.k 1)) (.n .q) (.t .p .q))) rfl aO (Int.self_le_toNat (((_:Nat):Int)-(1:Int))))]at au;have aR:(1:Int)+(j:Nat)=((j+1:Nat):Int):=by exact Bq
    have nK:y=.int ((j+1:Nat):Int):=by
     have:=Option.some.inj au;rw[←this,←aR]
    subst nK;have TU:=gP b7 s';have xg:=b6.len
    walk_at "V"
    refine a8 (lC TU fun x ai=>item_list ai (by rw[List.length_map];exact fz xg rfl) (x:=fy g[j+1]) (by rw[gC,List.getElem?_map,List.getElem?_eq_getElem aO];rfl) ?_);have Ax:g[j+1]?=some g[j+1]:=List.getElem?_eq_getElem aO;generalize g[j+1]=d4 at Ax ⊢
    walk_at "V"
    have Kq:(listAt (.ref cS) (st++s')).isSome=true:=by
     refine aj ?_ ck;clear ck;intro rs;refine ar ?_;intro ae _;rw[cG ae];rfl
    have Kr:cS<(st++s').length:=by
     refine aj ?_ ck;clear ck;intro rs;refine ar ?_;intro ae _;exact(List.getElem?_eq_some_iff.mp ae).1
    cases d4 with
    |none=>
     refine a8 (gB True (fun a6 ae af=>?_) (fun h=>?_) fun h=>absurd trivial h)
     ·walk_at "V"
      exact ae trivial
     ·refine a8 ?_
      walk_at "V"
      refine⟨Kq,by decide,by decide,TableAt.push (ck.app _) (by exact aA (.i 1000 (.e .p (.b .q)) (.i 1000 (.t (.b .q) .r) (.i 1000 (.l .r (.k 100)) (.G 98 (.l .p (.k 1000)))))) rfl b9 aO xg) (c:=[[((j+1:Nat):Int)]]) (jy _ _) (by exact fun ay=>aq (.b .p .q (.c .q .p .f)) rfl Kr ay) fun o pY=>⟨rfl,?_⟩⟩;rw[List.append_assoc,Ko ml]at pY ⊢;exact(kX _ _ cS _ _ ⟨rfl,rfl,ml,aO,pY,by simp[b9],dR.snoc (.inr (.inl ⟨by exact aq (.i (-1) (.e .p (.b .q)) (.l .o .p)) rfl b9,by rw[b9];exact Ax,by rw[b9]⟩))⟩)
    |some sS=>
     obtain⟨pl,pr⟩:=sS;refine dH ?_ (b6.iN _ _ _ Ax);intro v1 v2 qm v4 TV v6;have eQ:cs[pl / 2]?=some cs[pl / 2]:=List.getElem?_eq_getElem (by exact aA (.i (-1) (.e .q (.b .r)) (.b .p (.b .r) (.t .p .q))) rfl b9 v1);have fe:cs[pr / 2]?=some cs[pr / 2]:=List.getElem?_eq_getElem (by exact aA (.i (-1) (.e .q (.b .r)) (.b .p (.b .r) (.t .p .q))) rfl b9 v2);generalize cs[pl / 2]=Ks at eQ;generalize cs[pr / 2]=Ku at fe;have Kv:=(dR _ _ eQ).ok az hm;have Kw:=(dR _ _ fe).ok az hm;refine a8 (gB False (fun a6 ae af=>?_) (fun h=>h.elim) fun h=>?_)
     ·walk_at "V"
      exact af id
     ·refine a8 ?_
      walk_at "V"
      refine⟨Kq,pZ (by simp) (x:=.int pl) rfl ?_⟩
      walk_at "V"
      refine⟨by decide,?_⟩;rw[As];refine ck.item (by exact aA (.i 1000 (.e .p (.b .q)) (.i 1000 (.t (.b .q) .r) (.i 1000 (.l .r (.k 100)) (.G 98 (.l .p (.k 1000)))))) rfl b9 aO xg) eQ fun TX uP=>?_
      walk_at "V"
      refine pZ (by simp) (x:=.int pr) rfl ?_
      walk_at "V"
      refine⟨by decide,?_⟩;rw[As];refine ck.item (by exact aA (.i 1000 (.e .p (.b .q)) (.i 1000 (.t (.b .q) .r) (.i 1000 (.l .r (.k 100)) (.G 98 (.l .p (.k 1000)))))) rfl b9 aO xg) fe fun TY TZ=>?_
      walk_at "V"
      refine(vn (j+1) (.ref TX) (.ref TY) n most Ks Ku ⟨rfl,uP,TZ,dS eL _,az,Kv.1,Kw.1,Kv.2,Kw.2,fun ys eu cL=>?_⟩);refine TableAt.push ((ck.app cL).app _) (by exact aA (.i 1000 (.e .p (.b .q)) (.i 1000 (.t (.b .q) .r) (.i 1000 (.l .r (.k 100)) (.G 98 (.l .p (.k 1000)))))) rfl b9 aO xg) (c:=nI (j+1) ys most) (by rw[←List.length_append];exact jy _ _) (by exact fun ay=>aA (.b .p .q (.c (.a .q .r) .p .f)) rfl Kr ay) fun o pY=>⟨rfl,?_⟩;rw[List.append_assoc,List.append_assoc,Ko ml]at pY ⊢;exact(kX _ _ cS _ _ ⟨rfl,rfl,ml,aO,pY,by simp[b9],dR.snoc (.inr (.inr ⟨by exact aq (.i (-1) (.e .p (.b .q)) (.l .o .p)) rfl b9,pl,pr,Ks,Ku,ys,by rw[b9];exact Ax,eQ,fe,eu,by rw[b9]⟩))⟩)
   ·intro j l s;refine jr ?_;intro s' cs cS rk fv;refine nS ?_;rintro rfl rfl ml Kp ck b9 dR;intro aO;simp only[List.length_map,List.length_range]at aO;exact a7 _ _ (kX s' cs cS _ _ ⟨rfl,rfl,ck,by exact Nat.le_antisymm (aA (.a (.b .r) .q (.c .p (.b .r) (.l .p .q))) rfl Kp b9) (bA (.i (-1) (.e .q (.b .r)) (.a .s .r (.A (.s (.n .p) (.k 1)) (.n .s) (.l .p .q)))) rfl b9 aO (Int.self_le_toNat (((_:Nat):Int)-(1:Int)))),dR⟩)
 ·intro l s;refine jr ?_;intro s' cs cS rk fv;refine eY ?_;rintro rfl rfl ck b9 dR;refine a8 ?_
  walk_at "V"
  exact q cs cS s' b9 dR ck
end Mine
end
section
namespace Mine
variable{prog:Program}{w:World}{B:Heap}{k:Nat}
inductive Cut(g:List Node)(c:List Int):∀Y:Nat,Prop
 |here {i:Nat}:∀Y:(i:Int)∈c,Cut g c i
 |zero:Cut g c 0
 |iN {i l r:Nat}:∀Y:g[i]?=some (some (l,r)),∀Y:Cut g c (l / 2),∀Y:Cut g c (r / 2),Cut g c i
inductive kN(g:List Node)(c:List Int)(i:Nat):∀Y:Nat,Prop
 |base:kN g c i i
 |left {j l r:Nat}:∀Y:kN g c i j,∀Y:(j:Int)∉c,∀Y:j≠0,∀Y:g[j]?=some (some (l,r)),kN g c i (l / 2)
 |right {j l r:Nat}:∀Y:kN g c i j,∀Y:(j:Int)∉c,∀Y:j≠0,∀Y:g[j]?=some (some (l,r)),kN g c i (r / 2)
noncomputable def Reach(g:List Node)(c:List Int)(i j:Nat):Prop:=kN g c i j∧(j:Int)∉c∧j≠0
theorem Cut.inv{g:List Node}{c:List Int}{j:Nat}(h:Cut g c j)(ae:(j:Int)∉c)(af:j≠0):∃l r,g[j]?=some (some (l,r))∧Cut g c (l / 2)∧Cut g c (r / 2):=by
 cases h with
 |here h=>exact absurd h ae
 |zero=>exact absurd rfl af
 |iN e a b=>exact(cD _ _ ⟨e,a,b⟩)
theorem kN.cut{g:List Node}{c:List Int}{i j:Nat}(aG:Cut g c i)(h:kN g c i j):Cut g c j:=by
 induction h with
 |base=>exact aG
 |left _ ae af e ih=>
  refine bZ ?_ (ih.inv ae af);intro ia c5;refine aY ?_;intro cA a _;rw[e]at cA;cases cA;exact a
 |right _ ae af e ih=>
  refine bZ ?_ (ih.inv ae af);intro ia c5;refine aY ?_;intro cA _ b;rw[e]at cA;cases cA;exact b
theorem kN.lt{g:List Node}{c:List Int}{i j:Nat}(b6:gQ g)(hi:i<g.length)(h:kN g c i j):j<g.length:=by
 induction h with
 |base=>exact hi
 |left _ _ _ e ih=>have:=b6.iN _ _ _ e;exact aA (.b .r .q (.b .p .r (.t .p .q))) rfl ih this.1
 |right _ _ _ e ih=>have:=b6.iN _ _ _ e;exact aA (.b .r .q (.b .p .r (.t .p .q))) rfl ih this.2.1
noncomputable def Seen(c:List Int)(ws ss:List Nat)(x:Nat):Prop:=x∈ws∨x∈ss∨(x:Int)∈c∨x=0
structure i8(g:List Node)(c:List Int)(i:Nat)(ws ss:List Nat):Prop where
 xh:∀x∈ws,kN g c i x
 vs:∀x∈ss,Reach g c i x
 nk:∀x∈ss,∀l r,∀Y:g[x]?=some (some (l,r)),Seen c ws ss (l / 2)∧Seen c ws ss (r / 2)
 start:Seen c ws ss i
 nodup:ss.Nodup
theorem i8.init(g:List Node)(c:List Int)(i:Nat):i8 g c i [i] []:=
 ⟨fun x ai=>by rw[List.mem_singleton.mp ai];exact .base,by simp,by simp,.inl (by simp),.nil⟩
theorem i8.skip{g:List Node}{c:List Int}{i x:Nat}{ws ss:List Nat}(D:i8 g c i (ws++[x]) ss)(h:(x:Int)∈c∨x∈ss∨x=0):i8 g c i ws ss:=by
 have go:∀y,∀Y:Seen c (ws++[x]) ss y,Seen c ws ss y:=fun y au=>by
  rcases au with au|au
  ·rcases List.mem_append.mp au with au|au
   ·exact .inl au
   ·rw[List.mem_singleton.mp au];rcases h with h|h|h
    ·exact .inr (.inr (.inl h))
    ·exact .inr (.inl h)
    ·exact .inr (.inr (.inr h))
  ·exact .inr au
 exact⟨fun y au=>D.xh y (List.mem_append_left _ au),D.vs,fun y au l r e=>⟨go _ (D.nk y au l r e).1,go _ (D.nk y au l r e).2⟩,go _ D.start,D.nodup⟩
theorem i8.Kx{g:List Node}{c:List Int}{i x l r:Nat}{ws ss:List Nat}(D:i8 g c i (ws++[x]) ss)(ae:(x:Int)∉c)(af:x∉ss)(aH:x≠0)(e:g[x]?=some (some (l,r))):i8 g c i (ws++[l / 2,r / 2]) (ss++[x]):=by
 have nL:kN g c i x:=D.xh x (by simp)
 have go:∀y,∀Y:Seen c (ws++[x]) ss y,Seen c (ws++[l / 2,r / 2]) (ss++[x]) y:=fun y au=>by
  rcases au with au|au|au
  ·rcases List.mem_append.mp au with au|au
   ·exact .inl (List.mem_append_left _ au)
   ·exact .inr (.inl (List.mem_append_right _ au))
  ·exact .inr (.inl (List.mem_append_left _ au))
  ·exact .inr (.inr au)
 refine⟨fun y au=>?_,fun y au=>?_,fun y au ia c5 cA=>?_,go _ D.start,?_⟩
 ·rcases List.mem_append.mp au with au|au
  ·exact D.xh y (List.mem_append_left _ au)
  ·simp only[List.mem_cons,List.not_mem_nil,or_false]at au;rcases au with rfl|rfl
   ·exact .left nL ae aH e
   ·exact .right nL ae aH e
 ·rcases List.mem_append.mp au with au|au
  ·exact D.vs y au
  ·rw[List.mem_singleton.mp au];exact⟨nL,ae,aH⟩
 ·rcases List.mem_append.mp au with au|au
  ·exact⟨go _ (D.nk y au ia c5 cA).1,go _ (D.nk y au ia c5 cA).2⟩
  ·rw[List.mem_singleton.mp au,e]at cA;cases cA
   exact⟨.inl (by simp),.inl (by simp)⟩
 ·rw[List.nodup_append];exact⟨D.nodup,by simp,fun a aJ b av=>by rw[List.mem_singleton.mp av];exact fun q=>af (q▸aJ)⟩
theorem i8.done{g:List Node}{c:List Int}{i:Nat}{ss:List Nat}(D:i8 g c i [] ss)(j:Nat):j∈ss↔Reach g c i j:=by
 constructor
 ·exact D.vs j
 ·have:∀j,∀Y:kN g c i j,Seen c [] ss j:=by
   intro j h
   induction h with
   |base=>exact D.start
   |left _ ae af e ih=>
    rcases ih with h|h|h|h
    ·cases h
    ·exact(D.nk _ h _ _ e).1
    ·exact absurd h ae
    ·exact absurd h af
   |right _ ae af e ih=>
    rcases ih with h|h|h|h
    ·cases h
    ·exact(D.nk _ h _ _ e).2
    ·exact absurd h ae
    ·exact absurd h af
  refine aY ?_;intro ae af aH;rcases this j ae with h|h|h|h
  ·cases h
  ·exact h
  ·exact absurd h af
  ·exact absurd h aH
theorem Ey:∀(n:Nat){ss:List Nat},∀Y:ss.Nodup,∀Y:(∀x∈ss,x<n),ss.length≤n
 |0,[],_,_=>Nat.le_refl _
 |0,x::_,_,h=>absurd (h x (List.mem_cons_self ..)) (Nat.not_lt_zero _)
 |n+1,ss,az,h=>by
  have ae:=Ey n (ss:=ss.erase n) (az.erase n) fun x ai=>by
   have af:=(az.mem_erase_iff.mp ai);have:=h x af.2;exact(Nat.lt_or_gt_of_ne af.1).elim (fun ay=>aq (.b .p .q (.t .p .q)) rfl ay) (fun aE=>aq (.i 2 (.t .p (.b .q)) (.b .q .p (.t .p .q))) rfl this aE)
  by_cases hm:n∈ss
  ·rw[List.length_erase_of_mem hm]at ae;exact aA (.a .r .q (.a .p (.b .r) (.l .p (.b .q)))) rfl ae (cj _ (1:Nat))
  ·rw[List.erase_of_not_mem hm]at ae;exact aq (.a .p .q (.l .p (.b .q))) rfl ae
theorem i8.bound{g:List Node}{c:List Int}{i:Nat}{ws ss:List Nat}(b6:gQ g)(hi:i<g.length)(D:i8 g c i ws ss):ss.length≤g.length:=
 Ey _ D.nodup fun x ai=>(D.vs x ai).1.lt b6 hi
noncomputable def gS(ss:List Nat):List (Int×ah):=ss.map fun j:Nat=>((j:Int),ah.bool true)
noncomputable def Ez(a b:Int):Bool:=decide (a<b)
theorem Ky(x:Nat):∀ss:List Nat,(fa (x:Int) (gS ss)).isSome=decide (x∈ss)
 |[]=>rfl
 |y::r=>by
  show(if(y:Int)=x then some (ah.bool true)else fa (x:Int) (gS r)).isSome=_;by_cases h:(y:Int)=x
  ·rw[if_pos h];have:y=x:=by exact ql h
   subst this;simp
  ·rw[if_neg h,Ky x r];have:¬x=y:=by exact fun ay=>(Int.lt_or_gt_of_ne h).elim (fun aE=>aq (.c .p .q (.B (.n .q) (.n .p) .f)) rfl ay aE) (fun bI=>aq (.i (-1) (.e .p .q) (.B (.n .p) (.n .q) .f)) rfl ay bI)
   by_cases ai:x∈r
   ·rw[decide_eq_true ai,decide_eq_true (List.mem_cons_of_mem _ ai)]
   ·rw[decide_eq_false ai,decide_eq_false (fun q=>by
     rcases List.mem_cons.mp q with q|q
     ·exact this q
     ·exact ai q)]
theorem Kz{x:Nat}:∀{ss:List Nat},∀Y:x∉ss,jd (x:Int) (.bool true) (gS ss)=gS (ss++[x])
 |[],_=>rfl
 |y::r,h=>by
  have ae:¬(y:Int)=x:=fun q=>h (by have:y=x:=by exact ql q
                                   subst this;simp)
  show jd (x:Int) (.bool true) (((y:Int),ah.bool true)::gS r)=_;unfold jd;rw[if_neg ae,Kz fun q=>h (List.mem_cons_of_mem _ q)];rfl
theorem KA{ss:List Nat}(az:ss.Nodup){ys:List Int}(hs:jj Ez ((gS ss).map (·.1)) ys):∃zs:List Nat,ys=zs.map (fun j:Nat=>(j:Int))∧zs.Pairwise (·<·)∧∀j,j∈zs↔j∈ss:=by
 have e:(gS ss).map (·.1)=ss.map fun j:Nat=>(j:Int):=by unfold gS;rw[List.map_map];rfl
 rw[e]at hs;refine aj ?_ (I5 hs.1 rfl);intro zs;refine ar ?_;rintro rfl aP;refine⟨zs,rfl,?_,fun j=>aP.mem_iff⟩;have T3:zs.Nodup:=aP.nodup_iff.mpr az;have hw:=hs.2;rw[List.pairwise_map]at hw;refine(hw.and T3).imp fun{x y} h=>?_;refine ar ?_ h;clear h;intro ae af;have aH:¬((y:Int)<x):=of_decide_eq_false ae;exact(Nat.lt_or_gt_of_ne af).elim (fun ay=>aq (.b .p .q (.t .p .q)) rfl ay) (fun aE=>aq (.i 2 (.o (.T (.n .q) (.n .p))) (.b .q .p (.t .p .q))) rfl aH aE)
noncomputable abbrev Ay(aF:Addr)(xs:List ah)(Q:∀Y:ah,∀Y:St,Prop) (st:St):Prop:=∃(aig:ah)(g:List Node)(i:Nat)(c:List Int),xs=[aig,.int i,aS c]∧ki aF aig st=some (g.map fy)∧gQ g∧i<g.length∧Cut g c i∧
 ∀(ys:List Nat) s',∀Y:ys.Pairwise (·<·),∀Y:(∀j,j∈ys↔Reach g c i j),Q (.ref (st.length+s'.length)) (st++s'++[.list (ys.map fun j:Nat=>.int j)])
theorem xj{a aF:Nat}{bS:∀Y:Str,Option Value} (F:dU B 13 a) (G:ic B) (X:jw B aF bS) (ee:bS "nodes"=none) (dN:typeLookup (.type "object") "nodes"=pure none):
 b8 prog w B (k+1) (.ref a) (Ay aF):=by
 have dM:=G.len;have lE:=G.sorted;have hs:=G.hs;refine@dU.iB prog w B k _ _ _ _ 3 7 F (by decide+kernel) G.er (by decide+kernel) (by decide+kernel) (aZ (dg (i:=3) Nn (by kernel_rfl) (cg (by decide+kernel))) (aZ (dg (i:=4) (jb (aQ (aw (i:=1) (by kernel_rfl)) bg)) (by kernel_rfl) (cg (by decide+kernel))) (aZ (BX (c6 cmp_gt (bL dM (.inl ⟨_,rfl⟩) fD (aQ (aw (i:=4) (by kernel_rfl)) bg) (by kernel_rfl) (by decide+kernel)) bz) (aZ (dg (i:=5) (Hm (aw (i:=4) (by kernel_rfl))) (by kernel_rfl) (cg (by decide+kernel))) (aZ (fQ (gX (c6 (vM hs) (aw (i:=5) (by kernel_rfl)) (aw (i:=2) (by kernel_rfl))) (gX (c6 (vM hs) (aw (i:=5) (by kernel_rfl)) (aw (i:=3) (by kernel_rfl))) (gX (c6 jJ (aw (i:=5) (by kernel_rfl)) bz) ph))) (aZ NO bM) bM) (aZ (dg (i:=6) (c4 (iK X ee dN (aw (i:=0) (by kernel_rfl))) (aw (i:=5) (by kernel_rfl))) (by kernel_rfl) (cg (by decide+kernel))) (aZ (fQ (c6 vJ (aw (i:=6) (by kernel_rfl)) lP) (aZ OE bM) bM) (aZ (n8 k4 (aw (i:=3) (by kernel_rfl)) (aw (i:=5) (by kernel_rfl))) (aZ (jt (jv (aw (i:=4) (by kernel_rfl)) (cY vF (c4 (aw (i:=6) (by kernel_rfl)) bz) bz))) (aZ (jt (jv (aw (i:=4) (by kernel_rfl)) (cY vF (c4 (aw (i:=6) (by kernel_rfl)) bz) bz))) bM)))))))) (aZ (eF (bL lE (.inl ⟨_,rfl⟩) (q1 hs) (aQ (aw (i:=3) (by kernel_rfl)) bg) (by kernel_rfl) (by decide+kernel))) bM)))) ?_;intro xs Q st;refine dF ?_;intro aig g i c;refine dH ?_;rintro rfl b7 b6 hi dR q;refine⟨rfl,?_⟩
 walk_at "V"
 refine a8 ?_
 walk_at "V"
 refine a8 ?_
 walk_at "V"
 refine⟨by decide,?_⟩
 walk_at "V"
 have hlen:=b6.len;refine lB (fun l s=>∃ss fv fG,l=[some aig,some (.int i),some (aS c),some (.ref st.length),some (.ref (st.length+1)),fv,fG]∧s=st++[.ed (gS ss),.list []]∧i8 g c i [] ss) (fun a6 a7 Y Y=>?_) ?_
 ·refine J2 (fun r l s=>∃ws ss fv fG,l=[some aig,some (.int i),some (aS c),some (.ref st.length),some (.ref (st.length+1)),fv,fG]∧s=st++[.ed (gS ss),.list (ws.map fun j:Nat=>.int j)]∧i8 g c i ws ss∧r=3*(g.length-ss.length)+ws.length∧ws.length+ss.length≤3*ss.length+1)
   _ (dX [i] [] none none ⟨by simp,by simp[gS],.init g c i,rfl,by simp⟩) (fun l s=>∃ws:List Nat,listAt (.ref (st.length+1)) s=some (ws.map fun j:Nat=>.int j)∧ws≠[]) ?_ ?_ ?_
  ·intro r _ _;refine dF ?_;intro ws ss fv fG;refine eY ?_;rintro rfl rfl D rfl aT;intro a6 ae af;have av:=D.bound b6 hi;have ib:listAt (.ref (st.length+1)) (st++[.ed (gS ss),.list (ws.map fun j:Nat=>.int j)])=some (ws.map fun j:Nat=>.int j):=cG (kL st _ 1)
   walk_at "V"
   refine jT ib (by rw[List.length_map];exact aA (.i 666666666 (.l .q (.k 100)) (.i 333333333 (.l (.a .p .r) (.b (.m 3 .r))) (.i 666666666 (.l .r .q) (.G 66 (.t .p (.k 1000000000)))))) rfl hlen aT av) ?_
   walk_at "V"
   rw[List.length_map];refine kg (fun h=>ae ⟨ws,ib,fun e=>?_⟩) fun h=>af ?_
   ·rw[e]at h;cases h
   ·refine aj ?_;intro Az;refine ar ?_;intro aH bX;rw[ib]at aH;have et:=of_decide_eq_false h;have fq:=congrArg List.length (Option.some.inj aH);rw[List.length_map,List.length_map]at fq;have:Az.length=0:=by lia
    exact bX (List.length_eq_zero_iff.mp this)
  ·intro r _ _;refine dF ?_;intro ws ss fv fG;refine eY ?_;rintro rfl rfl D rfl aT;refine aj ?_;intro Az;refine ar ?_;intro aH bX;intro W rg _;have ib:listAt (.ref (st.length+1)) (st++[.ed (gS ss),.list (ws.map fun j:Nat=>.int j)])=some (ws.map fun j:Nat=>.int j):=cG (kL st _ 1);have av:=D.bound b6 hi
   have cP:ws≠[]:=by
    rintro rfl;rw[ib]at aH;cases Az with
    |nil=>exact bX rfl
    |cons=>cases aH
   obtain⟨ws,x,rfl⟩:∃EA x,ws=EA++[x]:=(cD ws.dropLast (ws.getLast cP) ((List.dropLast_concat_getLast cP).symm));clear aH bX Az;have nL:=D.xh x (by simp);have AA:=nL.lt b6 hi
   walk_at "V"
   refine a8 ?_;refine pop_at (y:=.int x) (xs:=ws.map fun j:Nat=>.int j) (by rw[kL];simp) (by simp only[List.length_append,List.length_cons,List.length_nil,List.length_map]at aT ⊢;exact aA (.i 1999998 (.l .q (.k 100)) (.i 1999998 (.l .r .q) (.i 999999 (.l (.a (.a .p (.b .z)) .r) (.b (.m 3 .r))) (.G 199 (.t .p (.k 1000000)))))) rfl hlen av aT) ?_;rw[nF];simp only[List.set_cons_succ,List.set_cons_zero]
   walk_at "V"
   have EB:dictAt (.ref st.length) (st++[.ed (gS ss),.list (ws.map fun j:Nat=>.int j)])=some (gS ss):=uJ (jl ..);refine a8 (gB ((x:Int)∈c∨x∈ss∨x=0) (fun a6 ae af=>?_) (fun h=>?_) fun h=>?_)
   ·walk_at "V"
    refine Aq (i6 (fun h=>ae (.inl h)) fun h=>?_)
    walk_at "V"
    refine in_dict EB ?_;rw[Ky];refine i6 (fun h'=>ae (.inr (.inl h'))) fun h'=>?_
    walk_at "V"
    refine i6 (fun nW=>ae (.inr (.inr (by exact Nat.le_antisymm (aI (.ak (.n .p) (.k 0) (.l .p .z)) rfl nW) (aI (.l .z .p) rfl))))) fun nW=>af ?_;rintro(q|q|q)
    ·exact h q
    ·exact h' q
    ·exact nW (by exact Int.le_antisymm (aI (.c .p .z (.L (.n .p) (.k 0))) rfl q) (aI (.L (.k 0) (.n .p)) rfl))
   ·refine a8 ?_
    walk_at "V"
    refine(rg _ _ _ ?_ ⟨ws,ss,_,_,rfl,rfl,D.skip h,rfl,?_⟩).2
    ·simp only[List.length_append,List.length_cons,List.length_nil,List.length_map]at aT ⊢;exact aq (.t (.a (.m 3 .p) .q) (.a (.m 3 .p) (.a .q (.b .z)))) rfl
    ·simp only[List.length_append,List.length_cons,List.length_nil,List.length_map]at aT ⊢;exact aq (.a (.a (.a .p (.b .z)) .q) (.b (.m 3 .q)) (.l (.a .p .q) (.b (.m 3 .q)))) rfl aT
   ·have ae:(x:Int)∉c:=fun q=>h (.inl q);have af:x∉ss:=fun q=>h (.inr (.inl q));have aH:x≠0:=fun q=>h (.inr (.inr q));refine bZ ?_ ((nL.cut dR).inv ae aH);intro l r;refine aY ?_;intro e _ _
    walk_at "V"
    refine a8 (lC (gP b7 _) fun y au=>item_list au (by rw[List.length_map];exact fz hlen rfl) (x:=fy (some (l,r))) (by rw[gC,List.getElem?_map,e];rfl) ?_)
    walk_at "V"
    refine a8 (gB False (fun a6 ae af=>?_) (fun h=>h.elim) fun Y=>?_)
    ·walk_at "V"
     exact af id
    ·walk_at "V"
     refine a8 ?_
     walk_at "V"
     refine Eb (jl ..) (by unfold gS;rw[List.length_map];exact aq (.i 10000 (.l .q (.k 100)) (.i 10000 (.l .p .q) (.l .p (.k 1000000)))) rfl hlen av) ?_;rw[oN,Kz af];simp only[List.set_cons_zero]
     walk_at "V"
     refine a8 ?_
     walk_at "V"
     refine⟨by rw[cG (kL st _ 1)];rfl,pZ (by simp) (x:=.int l) rfl ?_⟩
     walk_at "V"
     refine⟨by decide,append_at (kL st _ 1) (by simp only[List.length_append,List.length_cons,List.length_nil,List.length_map]at aT ⊢;exact aA (.i 10000 (.l .q (.k 100)) (.i 10000 (.l .r .q) (.i 5000 (.l (.a (.a .p (.b .z)) .r) (.b (.m 3 .r))) (.l .p (.k 1000000))))) rfl hlen av aT) ⟨rfl,?_⟩⟩;rw[nF];simp only[List.set_cons_succ,List.set_cons_zero]
     walk_at "V"
     refine a8 ?_
     walk_at "V"
     refine⟨by rw[cG (kL st _ 1)];rfl,pZ (by simp) (x:=.int r) rfl ?_⟩
     walk_at "V"
     refine⟨by decide,append_at (kL st _ 1) (by simp only[List.length_append,List.length_cons,List.length_nil,List.length_map]at aT ⊢;exact aA (.i 1999998 (.l .q (.k 100)) (.i 1999998 (.l .r .q) (.i 999999 (.l (.a (.a .p (.b .z)) .r) (.b (.m 3 .r))) (.G 199 (.l (.a .p (.b .z)) (.k 1000000)))))) rfl hlen av aT) ⟨rfl,?_⟩⟩;rw[nF,As,As];simp only[List.set_cons_succ,List.set_cons_zero];have xm:=D.Kx ae af aH e;have g4:=xm.bound b6 hi;refine(rg _ _ _ ?_ ⟨ws++[l / 2,r / 2],ss++[x],_,_,rfl,by simp,xm,rfl,?_⟩).1
     ·simp only[List.length_append,List.length_cons,List.length_nil,List.length_map]at aT g4 ⊢;exact cJ (.i 3 (.l .s (.a .r .t)) (.i 3 (.e (.a .p (.a .t (.b .z))) .s) (.t (.a (.m 3 .p) (.a .q (.b (.b .z)))) (.a (.m 3 .r) (.a .q (.b .z)))))) rfl (cj _ _) (Nat.sub_add_cancel (aq (.a (.a .p (.b .z)) .q (.l (.a .p (.b .z)) .q)) rfl g4))
     ·simp only[List.length_append,List.length_cons,List.length_nil,List.length_map]at aT ⊢;exact aq (.a (.a (.a .p (.b .z)) .q) (.b (.m 3 .q)) (.l (.a (.a .p (.b (.b .z))) (.a .q (.b .z))) (.b (.m 3 (.a .q (.b .z)))))) rfl aT
  ·intro r _ _;refine dF ?_;intro ws ss fv fG;refine eY ?_;rintro rfl rfl D rfl aT;intro mQ;have ib:listAt (.ref (st.length+1)) (st++[.ed (gS ss),.list (ws.map fun j:Nat=>.int j)])=some (ws.map fun j:Nat=>.int j):=cG (kL st _ 1);cases ws with
   |nil=>exact a7 _ _ (cE ss _ _ ⟨rfl,rfl,D⟩)
   |cons x ws=>exact absurd ⟨_,ib,by simp⟩ mQ
 ·intro _ _;refine bG ?_;intro ss fv fG;refine aY ?_;rintro rfl rfl D;have av:=D.bound b6 hi;refine a8 ?_
  walk_at "V"
  have EB:dictAt (.ref st.length) (st++[.ed (gS ss),.list []])=some (gS ss):=uJ (jl ..);refine .inl ⟨_,.inr (.inl ⟨_,EB,rfl⟩),by unfold gS;rw[List.length_map,List.length_map];exact aq (.i 10000 (.l .q (.k 100)) (.i 10000 (.l .p .q) (.l .p (.k 1000000)))) rfl hlen av,fun ys eu=>?_⟩;refine aj ?_ (KA D.nodup eu);intro zs;refine aY ?_;rintro rfl ae af;have:=q zs [.ed (gS ss),.list []] ae fun j=>by rw[af,D.done]
  rw[List.map_map]
  walk_at "V"
  rw[List.length_append];exact this
end Mine
end
section
set_option maxHeartbeats 2000000
namespace Mine
variable{prog:Program}{w:World}{B:Heap}{k:Nat}
noncomputable def jV(g:List Node)(dW:∀Y:Nat,Int) (c:List Int) (full:Int):∀Y:Nat,∀Y:Nat,Int
 |0,_=>0
 |n+1,i=>match c.idxOf? (i:Int)with
  |some s=>dW s
  |none=>if i=0 then 0 else match g[i]? with
   |some (some (l,r))=>Builtin.bitAnd (jU l (jV g dW c full n (l / 2)) full) (jU r (jV g dW c full n (r / 2)) full)
   |_=>0
noncomputable def ev(g:List Node)(dW:∀Y:Nat,Int) (c:List Int) (full:Int) (i:Nat):Int:=jV g dW c full (i+1) i
set_option tactic.hygienic true in
theorem AB{g:List Node}(b6:gQ g)(dW:∀Y:Nat,Int) (c:List Int) (full:Int):∀(n m i:Nat),∀Y:i<n,∀Y:i<m,jV g dW c full n i=jV g dW c full m i
 |0,_,_,h,_=>absurd h (Nat.not_lt_zero _)
 |_+1,0,_,_,h=>absurd h (Nat.not_lt_zero _)
 |n+1,m+1,i,ae,af=>by
  unfold jV;cases c.idxOf? (i:Int)with
  |some s=>rfl
  |none=>
   dsimp only
   split
   ·rfl
   ·split
    ·rename_i l r e;have:=b6.iN _ _ _ e;rw[AB b6 dW c full n m (l / 2) (by exact aA (.b .r (.b .q) (.b .p .r (.t .p .q))) rfl ae this.1) (by exact aA (.b .r (.b .q) (.b .p .r (.t .p .q))) rfl af this.1),AB b6 dW c full n m (r / 2) (by exact aA (.b .r (.b .q) (.b .p .r (.t .p .q))) rfl ae this.2.1) (by exact aA (.b .r (.b .q) (.b .p .r (.t .p .q))) rfl af this.2.1)]
    ·rfl
theorem T4{c:List Int}(aG:dK c){s:Nat}(hs:s<c.length):c.idxOf? c[s]=some s:=by
 have az:c.Nodup:=aG.imp fun h=>by exact ye h
 rw[List.idxOf?_eq_some_iff];refine⟨hs,by simp,fun j aO=>?_⟩;have:=List.pairwise_iff_getElem.mp aG j s (by exact aA (.b .r .q (.b .p .r (.t .p .q))) rfl hs aO) hs aO;simp;lia
theorem KB{g:List Node}{dW:∀Y:Nat,Int} {c:List Int} {full:Int} (aG:dK c) {s i:Nat} (hs:s<c.length) (e:c[s]=(i:Int)):ev g dW c full i=dW s:=by
 unfold ev jV;rw[←e,T4 aG hs]
theorem KC{g:List Node}{dW:∀Y:Nat,Int} {c:List Int} {full:Int} (h:(0:Int)∉c):ev g dW c full 0=0:=by
 unfold ev jV;rw[show((0:Nat):Int)=0 from rfl,List.idxOf?_eq_none_iff.mpr h];simp
theorem KD{g:List Node}(b6:gQ g){dW:∀Y:Nat,Int} {c:List Int} {full:Int} {i l r:Nat} (h:(i:Int)∉c) (aV:i≠0) (e:g[i]?=some (some (l,r))):
 ev g dW c full i=Builtin.bitAnd (jU l (ev g dW c full (l / 2)) full) (jU r (ev g dW c full (r / 2)) full):=by
 have aN:=b6.iN _ _ _ e
 have aR:ev g dW c full i=Builtin.bitAnd (jU l (jV g dW c full i (l / 2)) full) (jU r (jV g dW c full i (r / 2)) full):=by
  show jV g dW c full (i+1) i=_;rw[jV];rw[List.idxOf?_eq_none_iff.mpr h];dsimp only;rw[if_neg aV,e]
 rw[aR];unfold ev;rw[AB b6 dW c full i (l / 2+1) (l / 2) (by exact aq (.b .p .q (.t .p .q)) rfl aN.1) (by exact aI (.t .p (.b .p)) rfl),AB b6 dW c full i (r / 2+1) (r / 2) (by exact aq (.b .p .q (.t .p .q)) rfl aN.2.1) (by exact aI (.t .p (.b .p)) rfl)]
theorem AD(i j:Int)(v:ah):∀kvs:List (Int×ah),fa i (jd j v kvs)=if j=i then some v else fa i kvs
 |[]=>by
  show(if j=i then some v else fa i [])=_;rfl
 |(y,u)::r=>by
  unfold jd;by_cases h:y=j
  ·rw[if_pos h];subst h;show(if y=i then some v else fa i r)=if y=i then some v else(if y=i then some u else fa i r)
   by_cases af:y=i
   ·rw[if_pos af,if_pos af]
   ·rw[if_neg af,if_neg af,if_neg af]
  ·rw[if_neg h];show(if y=i then some u else fa i (jd j v r))=if j=i then some v else(if y=i then some u else fa i r)
   rw[AD i j v r];by_cases af:y=i
   ·rw[if_pos af,if_pos af,if_neg (by exact fun ay=>(Int.lt_or_gt_of_ne h).elim (fun aE=>yc (.i (-1) (.E .p .q) (.ak .r .q (.B .p .r .f))) rfl af ay aE) (fun bI=>yc (.ak .p .q (.i (-1) (.E .r .q) (.B .r .p .f))) rfl af ay bI))]
   ·rw[if_neg af,if_neg af]
theorem EC(j:Int)(v:ah):∀kvs:List (Int×ah),(jd j v kvs).length≤kvs.length+1
 |[]=>by simp[jd]
 |(y,u)::r=>by
  unfold jd
  split
  ·simp
  ·have:=EC j v r;simp only[List.length_cons];exact aq (.a .p (.b .q) (.l (.b .p) (.b (.b .q)))) rfl this
theorem T5{ys:List Nat}(h:ys.Pairwise (·<·)){n x:Nat}(az:n<ys.length)(ai:x∈ys)(bC:x<ys[n]):x∈ys.take n:=by
 obtain⟨m,hm,rfl⟩:=List.mem_iff_getElem.mp ai
 have:m<n:=by
  rcases Nat.lt_or_ge m n with q|q
  ·exact q
  ·rcases Nat.eq_or_lt_of_le q with e|aE
   ·subst e;lia
   ·have:=List.pairwise_iff_getElem.mp h n m az hm aE;exact(aq (.b .p .q (.b .q .p (.F 1))) rfl bC this:False).elim
 rw[List.mem_take_iff_getElem];exact⟨m,by exact(Nat.le_total _ _).elim (fun ay=>aA (.b .p .r (.i (-1) (.e .q .r) (.t .p .q))) rfl this (Nat.min_eq_left ay)) (fun aE=>bA (.b .r .s (.b .p .r (.i (-1) (.e .q .s) (.t .p .q)))) rfl az this (Nat.min_eq_right aE)),rfl⟩
noncomputable abbrev KE(xs:List ah)(Q:∀Y:ah,∀Y:St,Prop) (st:St):Prop:=∃n:Nat,xs=[.int n]∧n≤6∧Q (.int (gb n)) st
noncomputable abbrev KG(xs:List ah)(Q:∀Y:ah,∀Y:St,Prop) (st:St):Prop:=∃i n:Nat,xs=[.int i,.int n]∧i≤4∧n≤6∧Q (.int (lD i n)) st
noncomputable abbrev KH(xs:List ah)(Q:∀Y:ah,∀Y:St,Prop) (st:St):Prop:=∃(v:ah)(kvs:List (Int×ah))(l:Nat)(t full:Int),xs=[v,.int l,.int full]∧dictAt v st=some kvs∧fa ((l / 2:Nat):Int) kvs=some (.int t)∧Q (.int (jU l t full)) st
noncomputable def rl(g:List Node)(c:List Int)(i:Nat):Int:=ev g (fun s=>lD s c.length) c (gb c.length) i
noncomputable abbrev ED(aF:Addr)(xs:List ah)(Q:∀Y:ah,∀Y:St,Prop) (st:St):Prop:=∃(aig:ah)(g:List Node)(i:Nat)(c:List Int),xs=[aig,.int i,aS c]∧ki aF aig st=some (g.map fy)∧gQ g∧i<g.length∧Cut g c i∧dK c∧c.length≤4∧(0:Int)∉c∧
 ∀s',Q (.int (rl g c i)) (st++s')
theorem EE{a sO EF AE kO aF:Nat}{bS:∀Y:Str,Option Value} (F:dU B 15 a) (G:ic B) (X:jw B aF bS) (ee:bS "nodes"=none) (dN:typeLookup (.type "object") "nodes"=pure none)
 (Ei:fN B (bP 5).name (.ref sO)) (Ej:Plain B (.ref sO)) (w7:∀k,b8 prog w B (k+1) (.ref sO) KE)
 (T6:fN B (bP 6).name (.ref EF)) (T7:Plain B (.ref EF)) (Eh:∀k,b8 prog w B (k+2) (.ref EF) KG)
 (EG:fN B (bP 13).name (.ref AE)) (EH:Plain B (.ref AE)) (xj:∀k,b8 prog w B (k+1) (.ref AE) (Ay aF))
 (KI:fN B (bP 14).name (.ref kO)) (KJ:Plain B (.ref kO)) (Av:∀k,b8 prog w B (k+1) (.ref kO) KH):
 b8 prog w B (k+3) (.ref a) (ED aF):=by
 have dM:=G.len;have ie:=G.range;refine@dU.iB prog w B (k+2) _ _ _ _ 3 9 F (by decide+kernel) G.er (by decide+kernel) (by decide+kernel) (aZ (dg (i:=3) (bL dM (.inl ⟨_,rfl⟩) fD (aQ (aw (i:=2) (by kernel_rfl)) bg) (by kernel_rfl) (by decide+kernel)) (by kernel_rfl) (cg (by decide+kernel))) (aZ (dg (i:=4) (bL Ei Ej (w7 _) (aQ (aw (i:=3) (by kernel_rfl)) bg) (by kernel_rfl) (by decide+kernel)) (by kernel_rfl) (cg (by decide+kernel))) (aZ (dg (i:=5) OG (by kernel_rfl) (cg (by decide+kernel))) (aZ (j4 (i:=6) (bL ie (.inr (.inl ⟨_,rfl⟩)) called_range (aQ (aw (i:=3) (by kernel_rfl)) bg) (by kernel_rfl) (by decide+kernel)) (aZ (n8 (bL T6 T7 (Eh _) (aQ (aw (i:=6) (by kernel_rfl)) (aQ (aw (i:=3) (by kernel_rfl)) bg)) (by kernel_rfl) (by decide+kernel)) (aw (i:=5) (by kernel_rfl)) (c4 (aw (i:=2) (by kernel_rfl)) (aw (i:=6) (by kernel_rfl)))) bM) (by kernel_rfl) (cg (by decide+kernel))) (aZ (j4 (i:=7) (bL EG EH (xj _) (aQ (aw (i:=0) (by kernel_rfl)) (aQ (aw (i:=1) (by kernel_rfl)) (aQ (aw (i:=2) (by kernel_rfl)) bg))) (by kernel_rfl) (by decide+kernel)) (aZ (dg (i:=8) (c4 (iK X ee dN (aw (i:=0) (by kernel_rfl))) (aw (i:=7) (by kernel_rfl))) (by kernel_rfl) (cg (by decide+kernel))) (aZ (n8 (cY BD (bL KI KJ (Av _) (aQ (aw (i:=5) (by kernel_rfl)) (aQ (c4 (aw (i:=8) (by kernel_rfl)) bz) (aQ (aw (i:=4) (by kernel_rfl)) bg))) (by kernel_rfl) (by decide+kernel)) (bL KI KJ (Av _) (aQ (aw (i:=5) (by kernel_rfl)) (aQ (c4 (aw (i:=8) (by kernel_rfl)) bz) (aQ (aw (i:=4) (by kernel_rfl)) bg))) (by kernel_rfl) (by decide+kernel))) (aw (i:=5) (by kernel_rfl)) (aw (i:=7) (by kernel_rfl))) bM)) (by kernel_rfl) (cg (by decide+kernel))) (aZ (eF (c4 (aw (i:=5) (by kernel_rfl)) (aw (i:=1) (by kernel_rfl)))) bM)))))) ?_;intro xs Q st;refine dF ?_;intro aig g i c;refine Mq ?_;rintro rfl b7 b6 hi dR aG b9 xn q;refine⟨rfl,?_⟩
 walk_at "V"
 have hlen:=b6.len;refine a8 ?_
 walk_at "V"
 refine mS (by exact fz b9 rfl) ?_
 walk_at "V"
 refine a8 ?_
 walk_at "V"
 refine⟨c.length,rfl,by exact eZ b9 rfl,?_⟩
 walk_at "V"
 refine a8 ?_
 walk_at "V"
 refine lB (fun l s=>∃kvs fG,l=[some aig,some (.int i),some (aS c),some (.int c.length),some (.int (gb c.length)),some (.ref st.length),fG,none,none]∧s=st++[.ed kvs]∧kvs.length≤5∧fa 0 kvs=some (.int 0)∧∀s(h:s<c.length),fa c[s] kvs=some (.int (lD s c.length))) (fun a6 a7 Y Y=>?_) ?_
 ·refine kh (fun v s=>v=.range 0 c.length∧s=st++[.ed [(0,.int 0)]]) (fun a6 a7=>?_) ?_
  ·walk_at "V"
   exact a7 _ _ ⟨rfl,rfl⟩
  ·intro _ _;refine ar ?_;rintro rfl rfl;refine⟨(List.range ((c.length:Int)-0).toNat).map fun i=>.int (0+(i:Nat)),fun n l s=>∃kvs fG,l=[some aig,some (.int i),some (aS c),some (.int c.length),some (.int (gb c.length)),some (.ref st.length),fG,none,none]∧s=st++[.ed kvs]∧kvs.length≤n+1∧n≤c.length∧fa 0 kvs=some (.int 0)∧∀s(h:s<c.length),∀Y:s<n,fa c[s] kvs=some (.int (lD s c.length)),?_,?_,?_,?_⟩
   ·exact(cD [(0,.int 0)] none ⟨rfl,rfl,by simp,by exact aI (.l .z .p) rfl,rfl,fun s h af=>absurd af (Nat.not_lt_zero _)⟩)
   ·intro n l s _;exact sN (by exact ik (.L (.k (-1000000)) (.k 0)) rfl) (by exact ik (.L (.k 0) (.k 1000000)) rfl) (by exact aI (.L (.k (-1000000)) (.n .p)) rfl) (by exact aI (.i 250000 (.l .p (.k 4)) (.L (.n .p) (.k 1000000))) rfl b9)
   ·intro n l s y;refine bZ ?_;intro kvs fG;refine dH ?_;rintro rfl rfl ff uQ aV aK;intro au
    have az:n<c.length:=by
     have:=(List.getElem?_eq_some_iff.mp au).1;simp at this;exact aq (.b .p .q (.t .p .q)) rfl this
    rw[List.getElem?_map,List.getElem?_range (by exact aA (.b .p .r (.A (.s (.n .r) (.k 0)) (.n .q) (.t .p .q))) rfl az (Int.self_le_toNat (((_:Nat):Int)-(0:Int))))]at au
    have nK:y=.int (n:Nat):=by
     have:=Option.some.inj au;rw[←this];show ah.int (0+(n:Int))=_;rw[Int.zero_add]
    subst nK
    walk_at "V"
    refine a8 ?_
    walk_at "V"
    refine(cD n c.length ⟨rfl,by exact aq (.i 4 (.l .q (.k 4)) (.i 4 (.t .p .q) (.G 2 (.l .p (.k 4))))) rfl b9 az,by exact eZ b9 rfl,?_⟩)
    walk_at "V"
    refine rd az (by exact fz b9 rfl) ?_;refine Eb (jl ..) (by exact aA (.i 250000 (.l .q (.k 4)) (.i 250000 (.l .p (.b .r)) (.i 250000 (.t .r .q) (.l .p (.k 1000000))))) rfl b9 ff az) ?_;rw[oN];refine(cD _ _ ⟨rfl,rfl,Nat.le_trans (EC _ _ _) (by exact aq (.a .p (.b .q) (.l (.b .p) (.b (.b .q)))) rfl ff),az,?_,fun s hs tF=>?_⟩)
    ·rw[AD,if_neg (fun e=>xn (by rw[←e];exact List.getElem_mem az))];exact aV
    ·rw[AD];by_cases e:s=n
     ·subst e;rw[if_pos rfl]
     ·have:c[s]<c[n]:=List.pairwise_iff_getElem.mp aG s n hs az (by exact yf tF e);rw[if_neg (by exact fun ay=>nT (.B .p .q (.ak .q .p .f)) rfl this ay)];exact aK s hs (by exact yf tF e)
   ·intro n l s;refine bZ ?_;intro kvs fG;refine dH ?_;rintro rfl rfl ff uQ aV aK;intro az;simp only[List.length_map,List.length_range]at az;exact a7 _ _ (cD kvs _ ⟨rfl,rfl,by exact aA (.a .q (.k 4) (.a .p (.b .r) (.a .r .q (.l .p (.k 5))))) rfl b9 ff uQ,aV,fun s hs=>aK s hs (by exact bA (.a .r .q (.b .p .s (.A (.s (.n .s) (.k 0)) (.n .r) (.t .p .q)))) rfl az hs (Int.self_le_toNat (((_:Nat):Int)-(0:Int))))⟩)
 ·intro l s;refine bZ ?_;intro xo fG;refine eY ?_;rintro rfl rfl ff aV aK;have T8:∀s(h:s<c.length)(j:Nat),∀Y:c[s]=(j:Int),rl g c j=lD s c.length:=fun s h j e=>KB aG h e;have T9:rl g c 0=0:=KC xn;refine lB (fun l s=>∃kvs s' fG jm jA,l=[some aig,some (.int i),some (aS c),some (.int c.length),some (.int (gb c.length)),some (.ref st.length),fG,jm,jA]∧s=st++.ed kvs::s'∧fa (i:Int) kvs=some (.int (rl g c i))) (fun a6 a7 Y Y=>?_) ?_
  ·refine kh (fun v s=>∃(ys:List Nat)(s':St),ys.Pairwise (·<·)∧(∀j,j∈ys↔Reach g c i j)∧v=.ref ((st++[bB.ed xo]).length+s'.length)∧s=st++[bB.ed xo]++s'++[.list (ys.map fun j:Nat=>.int j)]) (fun a6 a7=>?_) ?_
   ·walk_at "V"
    exact(dX aig g i c ⟨rfl,gP b7 _,b6,hi,dR,fun ys s' ae af=>a7 _ _ ⟨ys,s',ae,af,rfl,rfl⟩⟩)
   ·intro _ _;refine bZ ?_;intro ys s';refine cH ?_;rintro eu AF rfl rfl;have kM:∀j∈ys,j<g.length:=fun j aO=>((AF j).mp aO).1.lt b6 hi;have Ua:ys.length≤g.length:=Ey _ (eu.imp fun h=>by exact Br h) kM
    refine⟨ys.map fun j:Nat=>.int j,fun n l s=>∃kvs fG jm jA,l=[some aig,some (.int i),some (aS c),some (.int c.length),some (.int (gb c.length)),some (.ref st.length),fG,jm,jA]∧s=st++.ed kvs::(s'++[.list (ys.map fun j:Nat=>.int j)])∧kvs.length≤n+5∧n≤ys.length∧
     (∀j:Nat,∀Y:((j:Int)∈c∨j=0∨j∈ys.take n),fa (j:Int) kvs=some (.int (rl g c j))),?_,?_,?_,?_⟩
    ·refine(dX xo _ _ _ ⟨rfl,by simp,by exact aI (.a .p (.k 5) (.l .p (.a .z (.k 5)))) rfl ff,Nat.zero_le _,fun j aO=>?_⟩);rcases aO with aO|aO|aO
     ·obtain⟨s,hs,e⟩:=List.mem_iff_getElem.mp aO;rw[←e,aK s hs,T8 s hs j e]
     ·subst aO;rw[T9];exact aV
     ·cases aO
    ·intro n l s;refine dF ?_;intro kvs _ _ _;refine aY ?_;rintro _ rfl _;refine uK (cG ?_);have e:st++bB.ed kvs::(s'++[.list (ys.map fun j:Nat=>ah.int j)])=(st++[bB.ed kvs]++s')++[.list (ys.map fun j:Nat=>ah.int j)]:=by simp
     rw[e];have aW:(st++[bB.ed xo]).length+s'.length=(st++[bB.ed kvs]++s').length:=by simp;exact Nat.le_antisymm (aq (.l (.a (.b .p) .q) (.a .p (.b .q))) rfl) (aq (.l (.a .p (.b .q)) (.a (.b .p) .q)) rfl)
     rw[aW];exact jy _ _
    ·intro n l s y;refine dF ?_;intro kvs fG jm jA;refine eY ?_;rintro rfl rfl EI uQ gy;intro au;have az:n<ys.length:=by simpa using(List.getElem?_eq_some_iff.mp au).1
     rw[List.getElem?_map,List.getElem?_eq_getElem az]at au;have ez:=List.getElem_mem az;have aC:=(AF _).mp ez;refine bZ ?_ ((aC.1.cut dR).inv aC.2.1 aC.2.2);intro pl pr;refine aY ?_;intro e _ _;have aN:=b6.iN _ _ _ e;have KL:=kM _ ez
     have KM:∀x:Nat,∀Y:kN g c i x,∀Y:x<ys[n],fa (x:Int) kvs=some (.int (rl g c x)):=fun x nL bC=>by
      refine gy x ?_;by_cases ae:(x:Int)∈c
      ·exact .inl ae
      ·by_cases af:x=0
       ·exact .inr (.inl af)
       ·exact .inr (.inr (T5 eu az ((AF x).mpr ⟨nL,ae,af⟩) bC))
     have Ub:=KM (pl / 2) (.left aC.1 aC.2.1 aC.2.2 e) (by exact aq (.b .p .q (.t .p .q)) rfl aN.1);have EJ:=KM (pr / 2) (.right aC.1 aC.2.1 aC.2.2 e) (by exact aq (.b .p .q (.t .p .q)) rfl aN.2.1);have Uc:rl g c ys[n]=_:=KD (dW:=fun s=>lD s c.length) (full:=gb c.length) b6 aC.2.1 aC.2.2 e;have f9:ys.take (n+1)=ys.take n++[ys[n]]:=by rw[List.take_add_one,List.getElem?_eq_getElem az];rfl
     have nK:y=.int (ys[n]:Nat):=(Option.some.inj au).symm;subst nK;clear au ez;generalize ys[n]=o at*
     walk_at "V"
     refine a8 ?_
     walk_at "V"
     refine lC (gP b7 _) fun x ai=>item_list ai (by rw[List.length_map];exact fz hlen rfl) (x:=fy (some (pl,pr))) (by rw[gC,List.getElem?_map,e];rfl) ?_
     walk_at "V"
     refine a8 ?_
     walk_at "V"
     refine pZ (by simp) (x:=.int pl) rfl ?_
     walk_at "V"
     refine(kX _ kvs pl _ _ ⟨rfl,uJ (jl ..),Ub,?_⟩)
     walk_at "V"
     refine pZ (by simp) (x:=.int pr) rfl ?_
     walk_at "V"
     refine(kX _ kvs pr _ _ ⟨rfl,uJ (jl ..),EJ,?_⟩)
     walk_at "V"
     refine Eb (jl ..) (by exact bA (.i 125000 (.l .q (.k 100)) (.i 125000 (.l .r .q) (.i 125000 (.l .p (.a .s (.k 5))) (.i 125000 (.t .s .r) (.G 12 (.l .p (.k 1000000))))))) rfl hlen Ua EI az) ?_;rw[oN]
     walk_at "V"
     refine(dX _ _ _ _ ⟨rfl,rfl,Nat.le_trans (EC _ _ _) (by exact aq (.a .p (.a .q (.k 5)) (.l (.b .p) (.a (.b .q) (.k 5)))) rfl EI),az,fun j aO=>?_⟩);rw[AD];by_cases AG:(o:Int)=j
     ·rw[if_pos AG];have:o=j:=by exact ql AG
      subst this;rw[Uc];rfl
     ·rw[if_neg AG];refine gy j ?_;rcases aO with aO|aO|aO
      ·exact .inl aO
      ·exact .inr (.inl aO)
      ·rw[f9]at aO;rcases List.mem_append.mp aO with aO|aO
       ·exact .inr (.inr aO)
       ·exact absurd (by rw[List.mem_singleton.mp aO]) AG
    ·intro n l s;refine dF ?_;intro kvs fG jm jA;refine eY ?_;rintro rfl rfl EI uQ gy;intro az;rw[List.length_map]at az;refine a7 _ _ (kX kvs _ _ _ _ ⟨rfl,rfl,gy i ?_⟩);by_cases ae:(i:Int)∈c
     ·exact .inl ae
     ·by_cases af:i=0
      ·exact .inr (.inl af)
      ·exact .inr (.inr (by rw[List.take_of_length_le az];exact(AF i).mpr ⟨.base,ae,af⟩))
  ·intro l s;refine jr ?_;intro kvs s' fG jm jA;refine aY ?_;rintro rfl rfl bq;refine a8 ?_
   walk_at "V"
   exact item_dict (uJ (jl ..)) bq (q (.ed kvs::s'))
end Mine
end
section
set_option maxHeartbeats 2000000
namespace Mine
variable{prog:Program}{w:World}{B:Heap}{k:Nat}
noncomputable def mq(s:St)(h c:Nat):Prop:=∃(cells:List Int)(p b:Nat)(r:Int),s[h]?=some (.list [.ref c,.int p,.int r,.int b])∧c≠h∧s[c]?=some (.list (cells.map .int))∧p≤cells.length∧cells.length≤100∧b<2147483648∧0≤r
noncomputable abbrev uR(xs:List ah)(Q:∀Y:ah,∀Y:St,Prop) (st:St):Prop:=∃(h c:Nat)(m:Nat),xs=[.ref h,.int m]∧mq st h c∧1≤m∧m≤1000∧∀(d:Nat) o,∀Y:d<m,∀Y:mq (st.set h o) h c,Q (.int d) (st.set h o)
theorem xq(a b:Nat)(h:b≠0):(a:Int).fmod (b:Int)=((a % b:Nat):Int):=by
 rw[Int.fmod_eq_emod_of_nonneg _ (by exact aI (.L (.k 0) (.n .p)) rfl)];rfl
theorem xr(a b:Nat):(a:Int).fdiv (b:Int)=((a / b:Nat):Int):=by
 rw[Int.fdiv_eq_ediv_of_nonneg _ (by exact aI (.L (.k 0) (.n .p)) rfl)];rfl
theorem lH{a:Addr}(F:dU B 19 a)(G:ic B):b8 prog w B (k+1) (.ref a) uR:=by
 have dM:=G.len;refine@dU.iB prog w B k _ _ _ _ 2 4 F (by decide+kernel) G.er (by decide+kernel) (by decide+kernel) (aZ (fQ (c6 jJ (c4 (aw (i:=0) (by kernel_rfl)) bz) bz) (aZ (fQ (c6 jJ (c4 (aw (i:=0) (by kernel_rfl)) bz) (bL dM (.inl ⟨_,rfl⟩) fD (aQ (c4 (aw (i:=0) (by kernel_rfl)) bz) bg) (by kernel_rfl) (by decide+kernel))) (aZ (n8 (cY tD (cY vQ (c4 (aw (i:=0) (by kernel_rfl)) bz) bz) bz) (aw (i:=0) (by kernel_rfl)) bz) (aZ (eF (cY tD (cY rQ (c4 (aw (i:=0) (by kernel_rfl)) bz) bz) (aw (i:=1) (by kernel_rfl)))) bM)) bM) (aZ (dg (i:=2) (c4 (c4 (aw (i:=0) (by kernel_rfl)) bz) (c4 (aw (i:=0) (by kernel_rfl)) bz)) (by kernel_rfl) (cg (by decide+kernel))) (aZ (n8 (cY o9 (c4 (aw (i:=0) (by kernel_rfl)) bz) bz) (aw (i:=0) (by kernel_rfl)) bz) (aZ (n8 (D9 (c6 Nk (aw (i:=2) (by kernel_rfl)) bz) (aw (i:=2) (by kernel_rfl)) (vL (aw (i:=2) (by kernel_rfl)))) (aw (i:=0) (by kernel_rfl)) bz) bM)))) bM) (aZ (dg (i:=3) (cY tD (c4 (aw (i:=0) (by kernel_rfl)) bz) (aw (i:=1) (by kernel_rfl))) (by kernel_rfl) (cg (by decide+kernel))) (aZ (n8 (cY rQ (c4 (aw (i:=0) (by kernel_rfl)) bz) (aw (i:=1) (by kernel_rfl))) (aw (i:=0) (by kernel_rfl)) bz) (aZ (eF (aw (i:=3) (by kernel_rfl))) bM)))) ?_;intro xs Q st;refine bG ?_;intro h c m;refine eY ?_;rintro rfl;refine dF ?_;intro cells p b r;refine nS ?_;intro bR KN aG aP b9 av aC;intro ly lh q;refine⟨rfl,?_⟩
 walk_at "V"
 have it:∀{st:St}{xs:List ah}{i:Nat}{x:ah}{Q:∀Y:ah,∀Y:St,Prop},∀Y:st[h]?=some (.list xs),∀Y:xs.length=4,∀Y:xs[i]?=some x,∀Y:Q x st,nc (.ref h) (.int (i:Nat)) Q st:=fun{st xs i x Q} ae af aH bX=>
  item_list (cG ae) (by exact aI (.i 999999999 (.e .p (.k 4)) (.G 3 (.t .p (.k 1000000000)))) rfl af) (x:=x) (by rw[gC];exact aH) bX
 have bC:h<st.length:=(List.getElem?_eq_some_iff.mp bR).1;have oQ:∀o,(st.set h o)[c]?=some (.list (cells.map .int)):=fun o=>by rw[List.getElem?_set_ne (Ne.symm KN)];exact aG
 have xt:∀o,(st.set h o)[h]?=some o:=fun o=>List.getElem?_set_self bC
 have fin:∀(fb pn:Nat)(c5:Int),∀Y:fb≤cells.length,∀Y:pn<2147483648,∀Y:0≤c5,mq (st.set h (.list [.ref c,.int fb,.int c5,.int pn])) h c:=fun fb pn c5 ae af aH=>
  (dX cells fb pn c5 ⟨xt _,KN,oQ _,ae,b9,af,aH⟩)
 refine lB (fun l s=>∃fb:Nat,∃c5:Int,∃z,l=[some (.ref h),some (.int m),z,none]∧fb≤cells.length∧0≤c5∧s[h]?=some (.list [.ref c,.int fb,.int c5,.int b])∧∃o,s=st.set h o) (fun a6 a7 sT Y=>?_) ?_
 ·refine gB (r=0) (fun a6 ae af=>?_) (fun AH=>?_) fun AH=>?_
  ·walk_at "V"
   refine it (i:=2) bR rfl rfl ?_
   walk_at "V"
   exact kg (fun h=>ae (of_decide_eq_true h)) fun h=>af (of_decide_eq_false h)
  ·refine a8 (gB (p=cells.length) (fun a6 ae af=>?_) (fun kP=>?_) fun kP=>?_)
   ·walk_at "V"
    refine it (i:=1) bR rfl rfl ?_
    walk_at "V"
    refine it (i:=0) bR rfl rfl ?_
    walk_at "V"
    refine jT (cG aG) (by rw[List.length_map];exact fz b9 rfl) ?_
    walk_at "V"
    rw[List.length_map];exact kg (fun h=>ae (by have:=of_decide_eq_true h;lia)) fun h=>af (by have:=of_decide_eq_false h;lia)
   ·refine a8 ?_
    walk_at "V"
    refine it (i:=3) bR rfl rfl ?_
    walk_at "V"
    refine⟨⟨by lia,by decide⟩,?_⟩
    walk_at "V"
    refine⟨by decide,uL (i:=3) bR (by simp) (by simp) ?_⟩;have aR:((b:Int)*48271).fmod 2147483647=((b*48271 % 2147483647:Nat):Int):=xq (b*48271) 2147483647 (by decide);rw[aR];have j8:b*48271 % 2147483647<2147483648:=Nat.lt_of_lt_of_le (Nat.mod_lt _ (by decide)) (by decide);generalize b*48271 % 2147483647=gz at j8 ⊢
    walk_at "V"
    refine a8 ?_
    walk_at "V"
    refine it (i:=3) (xt _) (by simp) rfl ?_
    walk_at "V"
    refine⟨⟨by decide,by decide⟩,?_⟩;have aW:(gz:Int).fdiv 7=((gz / 7:Nat):Int):=xr gz 7;rw[aW]
    walk_at "V"
    refine⟨by exact Bs ly,?_⟩;rw[xq _ _ (by exact vy ly)];refine sT _ _ _ (q _ _ (Nat.mod_lt _ (by exact aI (.a .o .p (.t .z .p)) rfl ly)) (fin p gz r aP j8 aC))
   ·have fO:p<cells.length:=by exact(Nat.lt_or_gt_of_ne kP).elim (fun ay=>aq (.b .p .q (.t .p .q)) rfl ay) (fun aE=>aq (.i 2 (.l .p .q) (.b .q .p (.t .p .q))) rfl aP aE)
    walk_at "V"
    refine a8 ?_
    walk_at "V"
    refine it (i:=0) bR rfl rfl ?_
    walk_at "V"
    refine it (i:=1) bR rfl rfl ?_
    walk_at "V"
    refine item_list (cG aG) (by rw[List.length_map];exact fz b9 rfl) (x:=.int cells[p]) (by rw[gC,List.getElem?_map,List.getElem?_eq_getElem fO];rfl) ?_;generalize cells[p]=nb
    walk_at "V"
    refine a8 ?_
    walk_at "V"
    refine it (i:=1) bR rfl rfl ?_
    walk_at "V"
    refine uL (i:=1) bR (by simp) (by simp) ?_
    walk_at "V"
    refine a8 ?_
    walk_at "V"
    have tail:∀v:Int,∀Y:0≤v,tO (.ref h) (.int 2) (.int v) (fun s=>a6 .next [some (.ref h),some (.int m),some (.int nb),none] s) (st.set h (.list [.ref c,.int ((p:Int)+1),.int r,.int b])):=fun v aN=>by
     refine uL (i:=2) (xt _) (by simp) (by simp) ?_;rw[List.set_set];exact a7 _ _ (cE (p+1) v _ ⟨rfl,fO,aN,xt _,_,rfl⟩)
    refine Ea (0≤nb) (fun a6 ae af=>?_) (fun h=>?_) fun h=>?_
    ·walk_at "V"
     exact kg (fun h=>ae (of_decide_eq_true h)) fun h=>af (of_decide_eq_false h)
    ·walk_at "V"
     exact tail nb h
    ·walk_at "V"
     exact tail (-nb) (by exact MR h)
  ·refine a7 _ _ (cE p r _ ⟨rfl,aP,aC,bR,.list [.ref c,.int p,.int r,.int b],?_⟩);apply List.ext_getElem?;intro i;by_cases e:h=i
   ·subst e;rw[xt,bR]
   ·rw[List.getElem?_set_ne e]
 ·rintro l s ⟨fb,c5,z,rfl,iJ,j5,hs,o,rfl⟩;refine a8 ?_
  walk_at "V"
  refine it (i:=2) hs rfl rfl ?_
  walk_at "V"
  refine⟨by exact Bs ly,?_⟩;obtain⟨KO,rfl⟩:∃KO:Nat,c5=KO:=⟨c5.toNat,by exact Int.le_antisymm (cu (.A .p (.n .p) (.L .p (.n .p))) rfl [(Int.toNat _)] [_] (Int.self_le_toNat _)) (cu (.ak (.n .p) .p (.L (.n .p) .p)) rfl [(Int.toNat _)] [_] (Int.toNat_of_nonneg (gV (.A (.k 0) .p (.L (.k 0) .p)) rfl j5)))⟩;rw[xq _ _ (by exact vy ly)]
  walk_at "V"
  refine a8 ?_
  walk_at "V"
  refine it (i:=2) hs rfl rfl ?_
  walk_at "V"
  refine⟨⟨by exact Bs ly,by lia⟩,?_⟩;rw[xr];refine uL (i:=2) hs (by simp) (by simp) ?_;rw[List.set_set];refine a8 ?_
  walk_at "V"
  exact q _ _ (Nat.mod_lt _ (by exact aI (.a .o .p (.t .z .p)) rfl ly)) (fin fb b _ iJ av (Int.natCast_nonneg _))
end Mine
end
section
set_option maxHeartbeats 2000000
namespace Mine
variable{prog:Program}{w:World}{B:Heap}{k:Nat}
noncomputable def ofT(l:Nat)(t full:Int):Int:=if l % 2=1 then full-t else t
noncomputable abbrev KP(xs:List ah)(Q:∀Y:ah,∀Y:St,Prop) (st:St):Prop:=∃(v:ah)(vs:List ah)(l:Nat)(t full:Int),xs=[v,.int l,.int full]∧listAt v st=some vs∧vs.length≤1000∧vs[l / 2]?=some (.int t)∧Q (.int (ofT l t full)) st
theorem AI{a:Addr}(F:dU B 20 a)(G:ic B):b8 prog w B (k+1) (.ref a) KP:=by
 refine@dU.iB prog w B k _ _ _ _ 3 3 F (by decide+kernel) G.er (by decide+kernel) (by decide+kernel) (aZ (eF (D9 (c6 jJ (cY tD (aw (i:=1) (by kernel_rfl)) bz) bz) (cY rP (aw (i:=2) (by kernel_rfl)) (c4 (aw (i:=0) (by kernel_rfl)) (cY rQ (aw (i:=1) (by kernel_rfl)) bz))) (c4 (aw (i:=0) (by kernel_rfl)) (cY rQ (aw (i:=1) (by kernel_rfl)) bz)))) bM) ?_;intro xs Q st;refine jr ?_;intro v vs l t full;refine eY ?_;rintro rfl aN aD bf q;refine⟨rfl,?_⟩
 walk_at "V"
 refine a8 ?_;have aR:(l:Int).fdiv 2=((l / 2:Nat):Int):=xr l 2;have aW:(l:Int).fmod 2=((l % 2:Nat):Int):=xq l 2 (by decide);refine Ea (l % 2=1) (fun a6 ae af=>?_) (fun h=>?_) fun h=>?_
 ·walk_at "V"
  refine⟨by decide,?_⟩;rw[aW]
  walk_at "V"
  exact kg (fun h=>ae (by have:=of_decide_eq_true h;lia)) fun h=>af (by have:=of_decide_eq_false h;lia)
 ·walk_at "V"
  refine⟨⟨by decide,by decide⟩,?_⟩;rw[aR];refine item_list aN (by exact fz aD rfl) (x:=.int t) (by rw[gC];exact bf) ?_
  walk_at "V"
  unfold ofT at q;rw[if_pos h]at q;exact q
 ·walk_at "V"
  refine⟨⟨by decide,by decide⟩,?_⟩;rw[aR];refine item_list aN (by exact fz aD rfl) (x:=.int t) (by rw[gC];exact bf) ?_;unfold ofT at q;rw[if_neg h]at q;exact q
noncomputable def Ud(turn n:Nat):List Int:=((List.range (2^n)).filter fun row=>decide (row / 2^turn % 2=1)).map fun row=>(2:Int)^row
noncomputable def nM(turn n:Nat):Int:=(Ud turn n).sum
noncomputable abbrev KQ(xs:List ah)(Q:∀Y:ah,∀Y:St,Prop) (st:St):Prop:=∃n:Nat,xs=[.int n]∧n≤4∧∀s',Q (.ref st.length) (st++.list ((List.range n).map fun t=>.int (nM t n))::s')
theorem EK{a:Addr}(F:dU B 22 a)(G:ic B):b8 prog w B (k+1) (.ref a) KQ:=by
 have ie:=G.range;have EL:=G.sum;refine@dU.iB prog w B k _ _ _ _ 1 1 F (by decide+kernel) G.er (by decide+kernel) (by decide+kernel) (aZ (eF (mJ (xi:=1) (bL ie (.inr (.inl ⟨_,rfl⟩)) called_range (aQ (aw (i:=0) (by kernel_rfl)) bg) (by kernel_rfl) (by decide+kernel)) om (bL EL (.inl ⟨_,rfl⟩) He (aQ (mJ (xi:=1) (bL ie (.inr (.inl ⟨_,rfl⟩)) called_range (aQ (cY vG bz (aw (i:=2) (by kernel_rfl))) bg) (by kernel_rfl) (by decide+kernel)) (y9 (c6 jJ (cY tD (cY rQ (aw (i:=1) (by kernel_rfl)) (cY vG bz (aw (i:=2) (by kernel_rfl)))) bz) bz)) (cY vG bz (aw (i:=1) (by kernel_rfl))) (by decide+kernel) (by kernel_rfl)) bg) (by kernel_rfl) (by decide+kernel)) (by decide+kernel) (by kernel_rfl))) bM) ?_;intro xs Q st;refine aj ?_;intro n;refine aY ?_;rintro rfl az q;refine⟨rfl,?_⟩
 walk_at "V"
 refine a8 (nG [none,none,some (.int n)] (by kernel_rfl) (fun v s=>v=.range 0 n∧st=s) (fun a6 a7=>?_) ?_)
 ·walk_at "V"
  exact a7 _ _ ⟨rfl,rfl⟩
 ·intro _ _;refine ar ?_;rintro rfl rfl;refine⟨(List.range ((n:Int)-0).toNat).map fun i=>.int (0+(i:Nat)),fun j s=>∃s',j≤n∧s=st++.list ((List.range j).map fun t=>.int (nM t n))::s',⟨[],Nat.zero_le _,by simp⟩,?_,?_,?_⟩
  ·intro j s _;exact sN (by exact ik (.L (.k (-1000000)) (.k 0)) rfl) (by exact ik (.L (.k 0) (.k 1000000)) rfl) (by exact aI (.L (.k (-1000000)) (.n .p)) rfl) (by exact aI (.i 250000 (.l .p (.k 4)) (.L (.n .p) (.k 1000000))) rfl az)
  ·intro t s y;refine aj ?_;intro s';refine ar ?_;rintro aO rfl;intro au
   have bf:t<n:=by
    have:=(List.getElem?_eq_some_iff.mp au).1;simp at this;exact aq (.b .p .q (.t .p .q)) rfl this
   rw[List.getElem?_map,List.getElem?_range (by exact aA (.b .p .r (.A (.s (.n .r) (.k 0)) (.n .q) (.t .p .q))) rfl bf (Int.self_le_toNat (((_:Nat):Int)-(0:Int))))]at au
   have nK:y=.int (t:Nat):=by
    have:=Option.some.inj au;rw[←this];show ah.int (0+(t:Int))=_;rw[Int.zero_add]
   subst nK;refine⟨fun b s2=>b=true∧s2=st++.list ((List.range t).map fun t=>.int (nM t n))::s',fun a6 a7=>a7 _ _ ⟨rfl,rfl⟩,?_,fun Y h=>by cases h.1⟩;intro _;refine ar ?_;rintro _ rfl;have iZ:(2:Int)^n=((2^n:Nat):Int):=by simp
   have EM:(2:Int)^t=((2^t:Nat):Int):=by simp
   have EN:(2:Nat)^n≤16:=Nat.le_trans (Nat.pow_le_pow_right (n:=2) (by decide) az) (by decide);have Ue:(2:Nat)^t≤16:=Nat.le_trans (Nat.pow_le_pow_right (n:=2) (by decide) (show t≤4 by exact aq (.i 4 (.l .q (.k 4)) (.i 4 (.t .p .q) (.G 2 (.l .p (.k 4))))) rfl az bf)) (by decide);have kP:0<(2:Nat)^t:=Nat.pow_pos (by decide);have aR:(n:Int).toNat=n:=by exact tg
   have aW:(t:Int).toNat=t:=by exact tg
   generalize dc:st++bB.list ((List.range t).map fun t=>ah.int (nM t n))::s'=S;have EO:∀g,∃fj,S++g=st++bB.list ((List.range t).map fun t=>ah.int (nM t n))::fj:=fun g=>⟨s'++g,by rw[←dc];simp⟩
   walk_at "V"
   refine nG [none,none,some (.int t)] (by kernel_rfl) (fun v s=>v=.range 0 ((2^n:Nat):Int)∧S=s) (fun a6 a7=>?_) ?_
   ·walk_at "V"
    simp only[yo,aR];refine⟨⟨by exact aI (.L (.k 0) (.n .p)) rfl,by exact aI (.i 250 (.l .p (.k 4)) (.L (.n .p) (.k 1000))) rfl az,by decide⟩,?_⟩;rw[iZ];exact a7 _ _ ⟨rfl,rfl⟩
   ·intro _ _;refine ar ?_;rintro rfl rfl;refine(cD ((List.range ((((2^n:Nat):Int))-0).toNat).map fun i=>.int (0+(i:Nat))) (fun i s=>i≤2^n∧s=S++[.list ((((List.range i).filter fun row=>decide (row / 2^t % 2=1)).map fun row=>(2:Int)^row).map .int)]) ⟨⟨Nat.zero_le _,rfl⟩,?_,?_,?_⟩)
    ·intro j s _;exact sN (by exact ik (.L (.k (-1000000)) (.k 0)) rfl) (by exact ik (.L (.k 0) (.k 1000000)) rfl) (by exact aI (.L (.k (-1000000)) (.n .p)) rfl) (by exact aI (.i 62500 (.l .p (.k 16)) (.L (.n .p) (.k 1000000))) rfl EN)
    ·intro i s y;refine ar ?_;rintro hi rfl;intro au
     have fc:i<2^n:=by
      have:=(List.getElem?_eq_some_iff.mp au).1;simp at this;lia
     rw[List.getElem?_map,List.getElem?_range (by exact aA (.b .p .r (.A (.s (.n .r) (.k 0)) (.n .q) (.t .p .q))) rfl fc (Int.self_le_toNat (((_:Nat):Int)-(0:Int))))]at au
     have nK:y=.int (i:Nat):=by
      have:=Option.some.inj au;rw[←this];show ah.int (0+(i:Int))=_;rw[Int.zero_add]
     subst nK;have cz:(i:Int).toNat=i:=by exact tg
     have EP:((List.range (i+1)).filter fun row=>decide (row / 2^t % 2=1))=((List.range i).filter fun row=>decide (row / 2^t % 2=1))++(if decide (i / 2^t % 2=1)=true then[i]else[]):=by
      rw[List.range_succ,List.filter_append];congr 1;by_cases h:decide (i / 2^t % 2=1)=true
      ·rw[if_pos h,List.filter_cons,if_pos h];rfl
      ·rw[if_neg h,List.filter_cons,if_neg h];rfl
     have kj:((List.range i).filter fun row=>decide (row / 2^t % 2=1)).length≤16:=Nat.le_trans (List.length_filter_le ..) (by rw[List.length_range];exact aq (.i 16 (.l .q (.k 16)) (.i 16 (.t .p .q) (.G 14 (.l .p (.k 16))))) rfl EN fc);generalize ((List.range i).filter fun row=>decide (row / 2^t % 2=1))=dD at EP kj ⊢;refine⟨fun b s2=>b=decide (i / 2^t % 2=1)∧S++[.list ((dD.map fun row=>(2:Int)^row).map .int)]=s2,fun a6 a7=>?_,?_,?_⟩
     ·walk_at "V"
      simp only[yo,GL,aW];refine⟨⟨by exact aI (.L (.k 0) (.n .p)) rfl,by exact aq (.i 1000 (.l .q (.k 4)) (.i 1000 (.t .p .q) (.G 2 (.L (.n .p) (.k 1000))))) rfl az bf,by decide⟩,⟨by rw[EM];exact fun ay=>aI (.b .z .p (.ak (.n .p) (.k 0) .f)) rfl kP ay,by rw[EM,Int.natAbs_natCast];exact fz Ue rfl⟩,by decide,?_⟩;rw[EM,xr];have jf:((i / 2^t:Nat):Int).fmod 2=((i / 2^t % 2:Nat):Int):=xq _ 2 (by decide);rw[jf]
      walk_at "V"
      refine a7 _ _ ⟨?_,rfl⟩;by_cases h:i / 2^t % 2=1
      ·rw[decide_eq_true h,h];rfl
      ·rw[decide_eq_false h,decide_eq_false];exact fun ay=>(Nat.lt_or_gt_of_ne h).elim (fun aE=>aI (.i (-1) (.E (.n .p) (.k 1)) (.b .p .o .f)) rfl ay aE) (fun bI=>aI (.ak (.n .p) (.k 1) (.b .o .p .f)) rfl ay bI)
     ·intro _;refine ar ?_;rintro av rfl
      walk_at "V"
      simp only[yo,cz];refine⟨⟨by exact aI (.L (.k 0) (.n .p)) rfl,by exact aq (.i 200 (.l .q (.k 16)) (.i 200 (.t .p .q) (.G 2 (.L (.n .p) (.k 1000))))) rfl EN fc,by decide⟩,oO (by rw[List.length_map,List.length_map];exact eZ kj rfl) ⟨fc,?_⟩⟩;rw[EP,if_pos av.symm];simp
     ·intro _;refine ar ?_;rintro av rfl;refine⟨fc,?_⟩;rw[EP,if_neg (by rw[←av];exact Bool.false_ne_true)];simp
    ·intro i s;refine ar ?_;rintro hi rfl;intro hle
     have:i=2^n:=by
      simp at hle;lia
     subst this;refine sum_list (iM ..) ?_;refine aj ?_ (EO [.list ((((List.range (2^n)).filter fun row=>decide (row / 2^t % 2=1)).map fun row=>(2:Int)^row).map .int)]);intro fj e;rw[e];refine append_at (jl st _) (by rw[List.length_map,List.length_range];exact aq (.i 1000000 (.l .q (.k 4)) (.i 1000000 (.t .p .q) (.G 2 (.l .p (.k 1000000))))) rfl az bf) ⟨fj,by exact aq (.b .p .q (.l (.b .p) .q)) rfl bf,?_⟩;rw[oN,List.range_succ,List.map_append];rfl
  ·intro j s;refine aj ?_;intro s';refine ar ?_;rintro aO rfl;intro hle
   have:j=n:=by
    simp at hle;exact Bt aO hle
   subst this
   walk_at "V"
   exact q s'
end Mine
end
section
set_option maxHeartbeats 2000000
namespace Mine
variable{prog:Program}{w:World}{B:Heap}{k:Nat}
theorem Ug{P:e9}{br:d8}{Q:∀Y:gj,∀Y:Loc,∀Y:St,Prop} {loc:Loc} {st:St} (I:∀Y:Nat,∀Y:Loc,∀Y:St,Prop) (n:Nat) (aV:I n loc st) (bQ:∀Y:Nat,∀Y:Loc,∀Y:St,Prop) (E:∀Y:Loc,∀Y:St,Prop)
 (bf:∀n l s,∀Y:I n l s,∀a6:∀Y:Bool,∀Y:St,Prop,∀Y:(∀s',∀Y:bQ n l s',a6 true s'),∀Y:(∀s',∀Y:E l s',a6 false s'),P a6 l s)
 (av:∀n l s,∀Y:bQ n l s,br (J1 I n Q) l s) (he:∀l s,∀Y:E l s,Q .next l s):BW P br Q loc st:=
 (cD I n ⟨aV,fun n l s bE=>bf n l s bE _ (fun s' h=>by rw[if_pos rfl];exact av n l s' h) fun s' h=>by rw[if_neg Bool.false_ne_true];exact he l s' h⟩)
theorem KR{α β jN:Type}{f:∀Y:β,Option jN} {g:∀Y:α,β} {h:∀Y:α,jN} (e:∀x,f (g x)=some (h x)) (a:List α):n4 f (a.map g)=some (a.map h):=by
 induction a with
 |nil=>rfl
 |cons x r ih=>exact GN (e x) ih
theorem KS{α:Type}[DecidableEq α]{f:∀Y:α,PyData} (e:∀x y,PyData.eqv (f x) (f y)=decide (x=y)) (a:List α):∀b:List α,PyData.eqvAll (a.map f) (b.map f)=decide (a=b):=by
 induction a with
 |nil=>intro b;cases b<;>rfl
 |cons x a ih=>
  intro b;cases b with
  |nil=>rfl
  |cons y b=>
   rw[List.map_cons,List.map_cons];unfold PyData.eqvAll;rw[e,ih];exact Bool.eq_iff_iff.mpr (by rw[Bool.and_eq_true,decide_eq_true_iff,decide_eq_true_iff,decide_eq_true_iff,List.cons.injEq])
theorem KT(x y:Int):PyData.eqv (.int x) (.int y)=decide (x=y):=by
 unfold PyData.eqv;exact Bool.eq_iff_iff.mpr (by rw[decide_eq_true_iff,beq_iff_eq])
theorem KU{α:Type}[DecidableEq α]{neg:Bool}{m n:Nat}{st:St}{f:∀Y:α,ah} {d:∀Y:α,PyData} (hd:∀x,n5 2 (f x)=some (d x)) (e:∀x y,PyData.eqv (d x) (d y)=decide (x=y)) {a b:List α} {Q:∀Y:Bool,∀Y:St,Prop}
 (ae:listAt (.ref m) st=some (a.map f)) (af:listAt (.ref n) st=some (b.map f)) (bb:Q (xor neg (decide (a=b))) st):m8 neg (.ref m) (.ref n) Q st:=by
 have h {m:Nat} {a:List α} (h:listAt (.ref m) st=some (a.map f)):tG (.ref m) st=some (.list (a.map d)):=Option.bind_eq_some_iff.mpr ⟨_,h,Option.map_eq_some_iff.mpr ⟨_,KR hd a,rfl⟩⟩;have e:PyData.eqv (.list (a.map d)) (.list (b.map d))=decide (a=b):=(KS e a b).symm▸rfl;exact rL (h ae) (h af) (by rw[e];exact bb)
theorem ER{m n:Nat}{st:St}{a b:List Int}{Q:∀Y:Bool,∀Y:St,Prop} (ae:listAt (.ref m) st=some (a.map .int)) (af:listAt (.ref n) st=some (b.map .int)) (bb:Q (!decide (a=b)) st):m8 true (.ref m) (.ref n) Q st:=
 KU (d:=.int) (fun Y=>rfl) KT ae af (by rw[Bool.true_xor];exact bb)
theorem i8.cut{g:List Node}{c:List Int}{i:Nat}{ss:List Nat}(b6:gQ g)(D:i8 g c i [] ss)(aJ:∀s∈ss,∃l r,g[s]?=some (some (l,r))):Cut g c i:=by
 have:∀n j,∀Y:j<n,∀Y:Seen c [] ss j,Cut g c j:=by
  intro n
  induction n with
  |zero=>intro j aO;exact(aI (.b .p .z .f) rfl aO:False).elim
  |succ n ih=>
   intro j aO h;rcases h with h|h|h|h
   ·cases h
   ·refine bZ ?_ (aJ j h);intro l r e;have aN:=b6.iN _ _ _ e;have:=D.nk j h l r e;exact .iN e (ih _ (by exact aA (.b .r (.b .q) (.b .p .r (.t .p .q))) rfl aO aN.1) this.1) (ih _ (by exact aA (.b .r (.b .q) (.b .p .r (.t .p .q))) rfl aO aN.2.1) this.2)
   ·exact .here h
   ·subst h;exact .zero
 exact this (i+1) i (by exact aI (.t .p (.b .p)) rfl) D.start
noncomputable abbrev KV(aF:Addr)(xs:List ah)(Q:∀Y:ah,∀Y:St,Prop) (st:St):Prop:=∃(aig:ah)(g:List Node)(i:Nat)(c:List Int),xs=[aig,.int i,aS c]∧ki aF aig st=some (g.map fy)∧gQ g∧i<g.length∧
 (∀Y:Cut g c i,∀(ys:List Nat) s',∀Y:ys.Pairwise (·<·),∀Y:(∀j,j∈ys↔Reach g c i j),Q (.ref (st.length+s'.length)) (st++s'++[.list (ys.map fun j:Nat=>.int j)]))∧(∀Y:¬Cut g c i,∀s',Q .none (st++s'))
theorem xu{a aF:Nat}{bS:∀Y:Str,Option Value} (F:dU B 23 a) (G:ic B) (X:jw B aF bS) (ee:bS "nodes"=none) (dN:typeLookup (.type "object") "nodes"=pure none):
 b8 prog w B (k+1) (.ref a) (KV aF):=by
 have lE:=G.sorted;have hs:=G.hs;refine@dU.iB prog w B k _ _ _ _ 3 6 F (by decide+kernel) G.er (by decide+kernel) (by decide+kernel) (aZ (dg (i:=3) (jb bg) (by kernel_rfl) (cg (by decide+kernel))) (aZ (dg (i:=4) (jb (aQ (aw (i:=1) (by kernel_rfl)) bg)) (by kernel_rfl) (cg (by decide+kernel))) (aZ (BX (c6 m9 (aw (i:=4) (by kernel_rfl)) (jb bg)) (aZ (dg (i:=5) (Hm (aw (i:=4) (by kernel_rfl))) (by kernel_rfl) (cg (by decide+kernel))) (aZ (fQ (my (c6 m9 (aw (i:=5) (by kernel_rfl)) bz) (my (c6 (tH hs) (aw (i:=5) (by kernel_rfl)) (aw (i:=2) (by kernel_rfl))) (my (c6 (tH hs) (aw (i:=5) (by kernel_rfl)) (aw (i:=3) (by kernel_rfl))) vK))) (aZ (fQ (c6 vJ (c4 (iK X ee dN (aw (i:=0) (by kernel_rfl))) (aw (i:=5) (by kernel_rfl))) lP) (aZ (eF lP) bM) bM) (aZ (jt (jv (aw (i:=3) (by kernel_rfl)) (aw (i:=5) (by kernel_rfl)))) (aZ (v7 (i:=4) (mJ (xi:=1) (c4 (iK X ee dN (aw (i:=0) (by kernel_rfl))) (aw (i:=5) (by kernel_rfl))) om (cY rQ (aw (i:=1) (by kernel_rfl)) bz) (by decide+kernel) (by kernel_rfl)) (by kernel_rfl) (cg (by decide+kernel))) bM))) bM) bM))) (aZ (eF (bL lE (.inl ⟨_,rfl⟩) (q1 hs) (aQ (aw (i:=3) (by kernel_rfl)) bg) (by kernel_rfl) (by decide+kernel))) bM)))) ?_;intro xs Q st;refine dF ?_;intro aig g i c;refine dH ?_;rintro rfl b7 b6 hi ay aE;refine⟨rfl,?_⟩
 walk_at "V"
 refine a8 ?_
 walk_at "V"
 refine⟨by decide,?_⟩
 walk_at "V"
 refine a8 ?_
 walk_at "V"
 refine⟨by decide,?_⟩
 walk_at "V"
 have hlen:=b6.len
 have eL:∀(ss ws:List Nat)(s':St),listAt (.ref st.length) (st++.list (ss.map fun j:Nat=>.int j)::.list (ws.map fun j:Nat=>.int j)::s')=some ((ss.map fun j:Nat=>(j:Int)).map .int):=fun ss ws s'=>by
  rw[List.map_map];exact cG (jl st _)
 have Uh:∀(ss ws:List Nat)(s':St),listAt (.ref (st.length+1)) (st++.list (ss.map fun j:Nat=>.int j)::.list (ws.map fun j:Nat=>.int j)::s')=some ((ws.map fun j:Nat=>(j:Int)).map .int):=fun ss ws s'=>by
  rw[List.map_map];exact cG (kL st _ 1)
 refine lB (fun l s=>∃ss fv s',l=[some aig,some (.int i),some (aS c),some (.ref st.length),some (.ref (st.length+1)),fv]∧s=st++.list (ss.map fun j:Nat=>.int j)::.list []::s'∧i8 g c i [] ss∧∀s∈ss,∃l r,g[s]?=some (some (l,r))) (fun a6 a7 sT Y=>?_) ?_
 ·let Ui:∀Y:Nat,∀Y:Loc,∀Y:St,Prop:=fun r l s=>∃ws ss fv s',l=[some aig,some (.int i),some (aS c),some (.ref st.length),some (.ref (st.length+1)),fv]∧s=st++.list (ss.map fun j:Nat=>.int j)::.list (ws.map fun j:Nat=>.int j)::s'∧i8 g c i ws ss∧r=3*(g.length-ss.length)+ws.length∧ws.length+ss.length≤3*ss.length+1∧∀s∈ss,∃l r,g[s]?=some (some (l,r))
  refine Ug Ui _ (dX [i] [] none [] ⟨by simp,by simp,.init g c i,rfl,by simp,by simp⟩) (fun r l s=>∃ws x ss fv s',l=[some aig,some (.int i),some (aS c),some (.ref st.length),some (.ref (st.length+1)),fv]∧s=st++.list (ss.map fun j:Nat=>.int j)::.list ((ws++[x]).map fun j:Nat=>.int j)::s'∧i8 g c i (ws++[x]) ss∧r=3*(g.length-ss.length)+(ws++[x]).length∧(ws++[x]).length+ss.length≤3*ss.length+1∧∀s∈ss,∃l r,g[s]?=some (some (l,r)))
   (fun l s=>∃ss fv s',l=[some aig,some (.int i),some (aS c),some (.ref st.length),some (.ref (st.length+1)),fv]∧s=st++.list (ss.map fun j:Nat=>.int j)::.list []::s'∧i8 g c i [] ss∧∀s∈ss,∃l r,g[s]?=some (some (l,r))) ?_ ?_ ?_
  ·intro r _ _;refine dF ?_;intro ws ss fv s';refine dH ?_;rintro rfl rfl D rfl aT aJ;intro a6 ae af
   walk_at "V"
   refine⟨by decide,ER (a:=ws.map fun j:Nat=>(j:Int)) (b:=[]) (jz (Uh ss ws s') _) (iM _ _) ?_⟩;by_cases hw:ws=[]
   ·subst hw;exact af _ (cE ss fv (s'++[.list []]) ⟨rfl,by simp,D,aJ⟩)
   ·obtain⟨ws,x,rfl⟩:∃EA x,ws=EA++[x]:=(cD ws.dropLast (ws.getLast hw) ((List.dropLast_concat_getLast hw).symm));rw[decide_eq_false (by simp)];exact ae _ (kX ws x ss fv (s'++[.list []]) ⟨rfl,by simp,D,rfl,aT,aJ⟩)
  ·intro r _ _;refine jr ?_;intro ws x ss fv s';refine dH ?_;rintro rfl rfl D rfl aT aJ;have nL:=D.xh x (by simp);have AA:=nL.lt b6 hi;have av:=D.bound b6 hi
   walk_at "V"
   refine a8 ?_
   walk_at "V"
   refine pop_at (y:=.int x) (xs:=ws.map fun j:Nat=>.int j) (by rw[kL];simp) (by simp only[List.length_append,List.length_cons,List.length_nil,List.length_map]at aT ⊢;exact aA (.i 1999998 (.l .q (.k 100)) (.i 1999998 (.l .r .q) (.i 999999 (.l (.a (.a .p (.b .z)) .r) (.b (.m 3 .r))) (.G 199 (.t .p (.k 1000000)))))) rfl hlen av aT) ?_;rw[nF];simp only[List.set_cons_succ,List.set_cons_zero]
   walk_at "V"
   refine a8 (gB ((x:Int)∉c∧x∉ss∧x≠0) (fun a6 ae af=>?_) (fun h=>?_) fun h=>?_)
   ·walk_at "V"
    have kr:m8 true (.int (x:Nat)) (.int 0)=fun(Q:∀Y:Bool,∀Y:St,Prop) st=>Q (!decide (x=0)) st:=by
     funext Q st
     show Q (xor true ((x:Int)==0)) st=_
     have:(xor true ((x:Int)==0))=!decide (x=0):=by
      by_cases h:x=0
      ·subst h;rfl
      ·have:((x:Int)==0)=false:=beq_eq_false_iff_ne.mpr (by exact fun ay=>(Nat.lt_or_gt_of_ne h).elim (fun aE=>aI (.b .p .z .f) rfl aE) (fun bI=>aI (.ak (.n .p) (.k 0) (.b .z .p .f)) rfl ay bI));rw[this,decide_eq_false h];rfl
     rw[this]
    rw[kr];dsimp only;refine Ar (c:=!decide (x=0)) (fun h=>?_) (fun h=>af (fun q=>q.2.2 (by simpa using h)));have AJ:x≠0:=by simpa using h
    refine JZ ?_;refine Ar (c:=!decide ((x:Int)∈c)) (fun h=>?_) (fun h=>af (fun q=>q.1 (by simpa using h)));have rm:(x:Int)∉c:=by simpa using h
    walk_at "V"
    refine Tj (a:=ss.map fun j:Nat=>(j:Int)) (eL ss ws s') ?_
    have em:((x:Int)∈ss.map fun j:Nat=>(j:Int))↔x∈ss:=by
     rw[List.mem_map];constructor
     ·refine aj ?_;intro y;refine ar ?_;intro au e;have:y=x:=by exact ql e
      exact this▸au
     ·exact fun h=>⟨x,h,rfl⟩
    refine Ar (c:=!decide ((x:Int)∈ss.map fun j:Nat=>(j:Int))) (fun h=>ae ⟨rm,fun q=>?_,AJ⟩) (fun h=>af (fun q=>q.2.1 (em.mp (by simpa using h))));rw[decide_eq_true (em.mpr q)]at h;cases h
   ·refine aY ?_ h;clear h;intro rm Uj AJ;refine a8 (gB (g[x]?=some none) (fun a6 ae af=>?_) (fun az=>?_) fun az=>?_)
    ·walk_at "V"
     refine lC (gP b7 _) fun y au=>item_list au (by rw[List.length_map];exact fz hlen rfl) (x:=fy g[x]) (by rw[gC,List.getElem?_map,List.getElem?_eq_getElem AA];rfl) ?_;have e:=List.getElem?_eq_getElem AA;rw[e]at ae af;generalize g[x]=d4 at ae af ⊢;cases d4 with
     |none=>exact ae rfl
     |some sS=>exact af (fun q=>by cases q)
    ·refine a8 ?_
     walk_at "V"
     refine sT _ _ _ (aE (fun dR=>?_) _);refine bZ ?_ ((nL.cut dR).inv rm AJ);intro l r;refine ar ?_;intro e _;rw[az]at e;cases e
    ·obtain⟨l,r,e⟩:∃l r,g[x]?=some (some (l,r)):=by
      have e:=List.getElem?_eq_getElem AA;rw[e]at az ⊢;generalize g[x]=d4 at az ⊢;cases d4 with
      |none=>exact absurd rfl az
      |some sS=>exact(cD sS.1 sS.2 rfl)
     have aN:=b6.iN _ _ _ e
     walk_at "V"
     refine a8 ?_
     walk_at "V"
     refine⟨by rw[eL];rfl,append_at (jl st _) (by rw[List.length_map];exact aq (.i 10000 (.l .q (.k 100)) (.i 10000 (.l .p .q) (.l .p (.k 1000000)))) rfl hlen av) ⟨rfl,?_⟩⟩;rw[oN];simp only[List.set_cons_zero]
     walk_at "V"
     have xm:=D.Kx rm Uj AJ e;have g4:=xm.bound b6 hi;have Uk:(ss.map fun j:Nat=>ah.int j)++[ah.int (x:Nat)]=(ss++[x]).map fun j:Nat=>.int j:=by simp
     rw[Uk];generalize dc:st++bB.list ((ss++[x]).map fun j:Nat=>ah.int j)::bB.list (ws.map fun j:Nat=>ah.int j)::s'=S;refine a8 ?_
     walk_at "V"
     refine nG [none,none] (by kernel_rfl) (fun v s=>v=.tup [.int l,.int r]∧S=s) (fun a6 a7=>?_) ?_
     ·walk_at "V"
      rw[←dc];refine lC (gP b7 _) fun y au=>item_list au (by rw[List.length_map];exact fz hlen rfl) (x:=fy (some (l,r))) (by rw[gC,List.getElem?_map,e];rfl) ?_;exact a7 _ _ ⟨rfl,dc.symm⟩
     ·intro _ _;refine ar ?_;rintro rfl rfl;refine(cD [.int l,.int r] (fun n s=>n≤2∧s=S++[.list (([l / 2,r / 2].take n).map fun j:Nat=>.int j)]) ⟨⟨Nat.zero_le _,rfl⟩,fun n s Y=>rfl,?_,?_⟩)
      ·intro n s y;refine ar ?_;rintro tL rfl;intro au;refine⟨fun b s2=>b=true∧s2=S++[.list (([l / 2,r / 2].take n).map fun j:Nat=>.int j)],fun a6 a7=>a7 _ _ ⟨rfl,rfl⟩,?_,fun Y h=>by cases h.1⟩;intro _;refine ar ?_;rintro _ rfl;have w2:∀z:Nat,(z:Int).fdiv 2=((z / 2:Nat):Int):=fun z=>xr z 2
       match n,au with
       |0,au=>
        cases au
        walk_at "V"
        refine⟨⟨by decide,by decide⟩,oO (by simp) ⟨by decide,?_⟩⟩;rw[w2];rfl
       |1,au=>
        cases au
        walk_at "V"
        refine⟨⟨by decide,by decide⟩,oO (by simp) ⟨by decide,?_⟩⟩;rw[w2];rfl
       |n+2,au=>simp at au
      ·intro n s;refine ar ?_;rintro tL rfl;intro hle;have:n=2:=by simp at hle;exact Nat.le_antisymm (aI (.a .p (.k 2) (.l .p (.k 2))) rfl tL) (aI (.a (.k 2) .p (.l (.k 2) .p)) rfl hle)
       subst this
       have ae:listAt (.ref (st.length+1)) (S++[.list ([.int (l / 2:Nat),.int (r / 2:Nat)])])=some (ws.map fun j:Nat=>.int j):=by
        rw[←dc,List.append_assoc];exact cG (kL st _ 1)
       show v5 (.ref (st.length+1)) (.ref S.length) _ (S++[.list ([.int (l / 2:Nat),.int (r / 2:Nat)])]);have EO:S.length=st.length+(2+s'.length):=by rw[←dc];simp;exact Nat.le_antisymm (aI (.l (.b (.b .p)) (.a (.k 2) .p)) rfl) (aI (.l (.a (.k 2) .p) (.b (.b .p))) rfl)
       refine rL ae (iM ..) ⟨⟨by exact fun ay=>aA (.i (-1) (.e .p (.a .q (.a (.k 2) .r))) (.i (-1) (.e (.b .q) .p) .f)) rfl EO ay,?_,by simp⟩,?_⟩
       ·simp only[List.length_append,List.length_cons,List.length_nil,List.length_map]at aT ⊢;exact aA (.i 999998 (.l .q (.k 100)) (.i 999998 (.l .r .q) (.i 499999 (.l (.a (.a .p (.b .z)) .r) (.b (.m 3 .r))) (.G 99 (.l (.a .p (.b (.b .z))) (.k 1000000)))))) rfl hlen av aT
       ·walk_at "V"
        refine⟨_,?_,ws++[l / 2,r / 2],ss++[x],_,s'++[.list ([.int (l / 2:Nat),.int (r / 2:Nat)])],rfl,?_,xm,rfl,?_,?_⟩
        ·simp only[List.length_append,List.length_cons,List.length_nil,List.length_map]at aT g4 ⊢;exact cJ (.i 3 (.l .s (.a .r .t)) (.i 3 (.e (.a .p (.a .t (.b .z))) .s) (.t (.a (.m 3 .p) (.a .q (.b (.b .z)))) (.a (.m 3 .r) (.a .q (.b .z)))))) rfl (cj _ _) (Nat.sub_add_cancel (aq (.a (.a .p (.b .z)) .q (.l (.a .p (.b .z)) .q)) rfl g4))
        ·rw[←dc,List.append_assoc,nF];simp
        ·simp only[List.length_append,List.length_cons,List.length_nil,List.length_map]at aT g4 ⊢;exact aq (.a (.a (.a .p (.b .z)) .q) (.b (.m 3 .q)) (.l (.a (.a .p (.b (.b .z))) (.a .q (.b .z))) (.b (.m 3 (.a .q (.b .z)))))) rfl aT
        ·intro s hs;rcases List.mem_append.mp hs with hs|hs
         ·exact aJ s hs
         ·rw[List.mem_singleton.mp hs];exact⟨l,r,e⟩
   ·refine⟨_,?_,ws,ss,_,_,rfl,rfl,D.skip ?_,rfl,?_,aJ⟩
    ·simp only[List.length_append,List.length_cons,List.length_nil,List.length_map]at aT ⊢;exact aq (.t (.a (.m 3 .p) .q) (.a (.m 3 .p) (.a .q (.b .z)))) rfl
    ·by_cases ae:(x:Int)∈c
     ·exact .inl ae
     ·by_cases af:x∈ss
      ·exact .inr (.inl af)
      ·by_cases aH:x=0
       ·exact .inr (.inr aH)
       ·exact absurd ⟨ae,af,aH⟩ h
    ·simp only[List.length_append,List.length_cons,List.length_nil,List.length_map]at aT ⊢;exact aq (.a (.a (.a .p (.b .z)) .q) (.b (.m 3 .q)) (.l (.a .p .q) (.b (.m 3 .q)))) rfl aT
  ·exact fun l s h=>a7 _ _ h
 ·intro _ _;refine bG ?_;intro ss fv s';refine cH ?_;rintro rfl rfl D aJ;have av:=D.bound b6 hi;refine a8 ?_
  walk_at "V"
  refine .inl ⟨_,.inl (eL ss [] s'),by rw[List.length_map];exact aq (.i 10000 (.l .q (.k 100)) (.i 10000 (.l .p .q) (.l .p (.k 1000000)))) rfl hlen av,fun ys eu=>?_⟩;have iF:(gS ss).map (·.1)=ss.map fun j:Nat=>(j:Int):=by unfold gS;rw[List.map_map];rfl
  refine aj ?_ (KA D.nodup (show jj Ez ((gS ss).map (·.1)) ys by rw[iF];exact eu));intro zs;refine aY ?_;rintro rfl ae af;have:=ay (D.cut b6 aJ) zs (.list (ss.map fun j:Nat=>.int j)::.list []::s') ae fun j=>by rw[af,D.done]
  rw[List.map_map]
  walk_at "V"
  rw[List.length_append];exact this
end Mine
end
section
set_option maxHeartbeats 2000000
namespace Mine
variable{prog:Program}{w:World}{B:Heap}{k:Nat}
noncomputable def uS(n:Nat)(rows:List (List Int))(node:Nat):List (List Int):=rows++(rows.filter fun r=>decide (r.length<n)).map fun r=>r++[(node:Int)]
noncomputable def ig(m n:Nat):List (List Int):=(List.range m).foldl (fun rows i=>uS n rows (i+1)) [[]]
theorem xw(m n:Nat):ig (m+1) n=uS n (ig m n) (m+1):=by unfold ig;rw[List.range_succ,List.foldl_append];rfl
theorem KW(n:Nat):∀m,(ig m n).length≤2^m
 |0=>Nat.le_refl _
 |m+1=>by
  have ih:=KW n m;rw[xw];unfold uS;rw[List.length_append,List.length_map];have:=List.length_filter_le (fun r:List Int=>decide (r.length<n)) (ig m n);rw[Nat.pow_succ];exact MS ih this
theorem ES(n:Nat):∀m,∀r∈ig m n,r.length≤m
 |0,r,h=>by
  have:r=[]:=List.mem_singleton.mp h;subst this;simp
 |m+1,r,h=>by
  rw[xw]at h;rcases List.mem_append.mp h with h|h
  ·have:=ES n m r h;exact aq (.a .p .q (.l .p (.b .q))) rfl this
  ·refine aj ?_ (List.mem_map.mp h);intro c5;refine ar ?_;rintro j5 rfl;have:=ES n m c5 (List.mem_filter.mp j5).1;rw[List.length_append];simp;exact aq (.a .p .q (.l .p .q)) rfl this
noncomputable abbrev ET(xs:List ah)(Q:∀Y:ah,∀Y:St,Prop) (st:St):Prop:=∃(m n:Nat),xs=[.range 1 ((m:Int)+1),.int n]∧m≤10∧∀s',Q (.ref (st.length+s'.length)) (st++s'++[.list ((ig m n).map aS)])
theorem EU{a:Addr}(F:dU B 24 a)(G:ic B):b8 prog w B (k+1) (.ref a) ET:=by
 have dM:=G.len;refine@dU.iB prog w B k _ _ _ _ 2 4 F (by decide+kernel) G.er (by decide+kernel) (by decide+kernel) (aZ (dg (i:=2) (jb (aQ (lR bg) bg)) (by kernel_rfl) (cg (by decide+kernel))) (aZ (j4 (i:=3) (aw (i:=0) (by kernel_rfl)) (aZ (dg (i:=2) (cY o9 (aw (i:=2) (by kernel_rfl)) (mJ (xi:=1) (aw (i:=2) (by kernel_rfl)) (y9 (c6 qx (bL dM (.inl ⟨_,rfl⟩) fD (aQ (aw (i:=1) (by kernel_rfl)) bg) (by kernel_rfl) (by decide+kernel)) (aw (i:=2) (by kernel_rfl)))) (cY o9 (aw (i:=1) (by kernel_rfl)) (lR (aQ (aw (i:=3) (by kernel_rfl)) bg))) (by decide+kernel) (by kernel_rfl))) (by kernel_rfl) (cg (by decide+kernel))) bM) (by kernel_rfl) (cg (by decide+kernel))) (aZ (eF (aw (i:=2) (by kernel_rfl))) bM))) ?_;intro xs Q st;refine bZ ?_;intro m n;refine aY ?_;rintro rfl hm q;refine⟨rfl,?_⟩
 walk_at "V"
 refine a8 ?_
 walk_at "V"
 refine⟨by decide,by decide,?_⟩
 walk_at "V"
 refine lB (fun l s=>∃s' nH,l=[some (.range 1 ((m:Int)+1)),some (.int n),some (.ref (st.length+s'.length)),nH]∧s=st++s'++[.list ((ig m n).map aS)]) (fun a6 a7 Y Y=>?_) ?_
 ·refine kh (fun v s=>v=.range 1 ((m:Int)+1)∧s=st++[.list [aS []]]) (fun a6 a7=>a7 _ _ ⟨rfl,rfl⟩) ?_;intro _ _;refine ar ?_;rintro rfl rfl;refine⟨(List.range (((m:Int)+1)-1).toNat).map fun i=>.int (1+(i:Nat)),fun j l s=>∃s' nH,l=[some (.range 1 ((m:Int)+1)),some (.int n),some (.ref (st.length+s'.length)),nH]∧s=st++s'++[.list ((ig j n).map aS)]∧j≤m,⟨[],none,rfl,by simp[ig],Nat.zero_le _⟩,?_,?_,?_⟩
  ·intro j l s _;exact sN (by exact ik (.L (.k (-1000000)) (.k 1)) rfl) (by exact ik (.L (.k 1) (.k 1000000)) rfl) (by exact aI (.L (.k (-1000000)) (.a (.n .p) (.k 1))) rfl) (by exact aI (.i 999999 (.l .p (.k 10)) (.G 9 (.L (.a (.n .p) (.k 1)) (.k 1000000)))) rfl hm)
  ·intro j l s y;refine bZ ?_;intro s' nH;refine aY ?_;rintro rfl rfl aO;intro au
   have rn:j<m:=by
    have:=(List.getElem?_eq_some_iff.mp au).1;simp at this;exact aq (.b .p .q (.t .p .q)) rfl this
   rw[List.getElem?_map,List.getElem?_range (by exact aA (.b .p .r (.A (.s (.a (.n .r) (.k 1)) (.k 1)) (.n .q) (.t .p .q))) rfl rn (Int.self_le_toNat ((((_:Nat):Int)+(1:Int))-(1:Int))))]at au
   have nK:y=.int ((j+1:Nat):Int):=by
    have:=Option.some.inj au;rw[←this];show ah.int (1+(j:Int))=_;have e:(1:Int)+(j:Nat)=((j+1:Nat):Int):=by exact Bq
    rw[e]
   subst nK;have gO:=KW n j;have KX:=ES n j;have af:(2:Nat)^j≤1024:=Nat.le_trans (Nat.pow_le_pow_right (n:=2) (by decide) (show j≤10 by exact aq (.i 10 (.l .q (.k 10)) (.i 10 (.t .p .q) (.G 8 (.l .p (.k 10))))) rfl hm rn)) (by decide);have Ab:=xw j n;generalize ig j n=rows at gO KX Ab ⊢
   walk_at "V"
   refine a8 ?_
   walk_at "V"
   have KY:∀g,listAt (.ref (st.length+s'.length)) (st++s'++[.list (rows.map aS)]++g)=some (rows.map aS):=fun g=>by
    refine jz (cG ?_) g;rw[←List.length_append];exact jy _ _
   refine nG [none,none,some (.int n),some (.int ((j+1:Nat):Int))] (by kernel_rfl) (fun v s=>v=.ref (st.length+s'.length)∧s=st++s'++[.list (rows.map aS)]) (fun a6 a7=>?_) ?_
   ·walk_at "V"
    exact a7 _ _ ⟨rfl,rfl⟩
   ·intro _ _;refine ar ?_;rintro rfl rfl;refine(cD (rows.map aS) (fun i s=>s=st++s'++[.list (rows.map aS)]++[.list ((((rows.take i).filter fun r=>decide (r.length<n)).map fun r=>r++[((j+1:Nat):Int)]).map aS)]) ⟨rfl,?_,?_,?_⟩)
    ·rintro i s rfl;exact uK (KY _)
    ·rintro i s y rfl au;have hi:i<rows.length:=by simpa using(List.getElem?_eq_some_iff.mp au).1
     rw[List.getElem?_map,List.getElem?_eq_getElem hi]at au;cases au
     have mU:=KX _ (List.getElem_mem hi);have f9:rows.take (i+1)=rows.take i++[rows[i]]:=by rw[List.take_add_one,List.getElem?_eq_getElem hi];rfl
     have kj:((rows.take i).filter fun r=>decide (r.length<n)).length≤1024:=Nat.le_trans (List.length_filter_le ..) (Nat.le_trans (List.length_take_le' ..) (by exact aq (.a .q (.k 1024) (.a .p .q (.l .p (.k 1024)))) rfl af gO));have AK:((rows.take (i+1)).filter fun r=>decide (r.length<n))=((rows.take i).filter fun r=>decide (r.length<n))++[rows[i]].filter fun r=>decide (r.length<n):=by rw[f9,List.filter_append]
     generalize ((rows.take i).filter fun r=>decide (r.length<n))=dD at kj AK ⊢;clear f9;generalize rows[i]=r at mU AK ⊢;refine⟨fun b s2=>b=decide (r.length<n)∧s2=st++s'++[.list (rows.map aS)]++[.list ((dD.map fun r=>r++[((j+1:Nat):Int)]).map aS)],fun a6 a7=>?_,?_,?_⟩
     ·walk_at "V"
      refine mS (by exact aA (.i 111111 (.l .q (.k 10)) (.i 111111 (.t .r .q) (.i 111111 (.l .p .r) (.t .p (.k 1000000))))) rfl hm rn mU) ?_
      walk_at "V"
      refine a7 _ _ ⟨?_,rfl⟩;by_cases h:r.length<n
      ·rw[decide_eq_true h,decide_eq_true];exact aq (.b .p .q (.T (.n .p) (.n .q))) rfl h
      ·rw[decide_eq_false h,decide_eq_false];exact aq (.n (.t .p .q) (.o (.T (.n .p) (.n .q)))) rfl h
     ·intro _;refine ar ?_;rintro av rfl
      walk_at "V"
      refine⟨by decide,by show(r.map ah.int).length+1≤_;rw[List.length_map];exact aA (.i 111111 (.l .q (.k 10)) (.i 111111 (.t .r .q) (.i 111111 (.l .p .r) (.l (.b .p) (.k 1000000))))) rfl hm rn mU,oO (by rw[List.length_map,List.length_map];exact eZ kj rfl) ?_⟩;rw[AK,List.filter_cons,if_pos av.symm];simp[aS]
     ·intro _;refine ar ?_;rintro av rfl;rw[AK,List.filter_cons,if_neg (by rw[←av];exact Bool.false_ne_true)];simp
    ·rintro i s rfl hle;have ae:rows.take i=rows:=List.take_of_length_le (by simpa using hle);rw[ae];have kj:(rows.filter fun r=>decide (r.length<n)).length≤rows.length:=List.length_filter_le ..;refine rL (KY _) (iM ..) ⟨by simp only[List.length_map];exact aA (.i 15625 (.l .r (.k 1024)) (.i 15625 (.l .p .r) (.i 16 (.l .q .p) (.G 15 (.l (.a .p .q) (.k 1000000)))))) rfl af gO kj,?_⟩
     walk_at "V"
     refine(cD (s'++[.list (rows.map aS)]++[.list (((rows.filter fun r=>decide (r.length<n)).map fun r=>r++[((j+1:Nat):Int)]).map aS)]) (some (.int ((j+1:Nat):Int))) ⟨?_,?_,rn⟩)
     ·rw[show(st++s'++[bB.list (rows.map aS)]++[bB.list (((rows.filter fun r=>decide (r.length<n)).map fun r=>r++[((j+1:Nat):Int)]).map aS)]).length=st.length+(s'++[bB.list (rows.map aS)]++[bB.list (((rows.filter fun r=>decide (r.length<n)).map fun r=>r++[((j+1:Nat):Int)]).map aS)]).length by simp]
     ·rw[Ab];unfold uS;rw[List.map_append];simp
  ·intro j l s;refine bZ ?_;intro s' nH;refine aY ?_;rintro rfl rfl aO;intro hle
   have:j=m:=by
    simp at hle;exact Bt aO hle
   subst this;exact a7 _ _ (cD s' _ ⟨rfl,rfl⟩)
 ·intro l s;refine bZ ?_;intro s' nH;refine ar ?_;rintro rfl rfl;refine a8 ?_
  walk_at "V"
  exact q s'
end Mine
end
section
set_option maxHeartbeats 2000000
namespace Mine
variable{prog:Program}{w:World}{B:Heap}{ak:dB}{k:Nat}
theorem Ul{p:Pos}:b3 prog w B ak k (.Dict [] [] p) fun Q Y st=>Q (.ref st.length) (st++[.jZ []]):=by
 intro A env s am loc st Q aL R S q;exact wpAny_Dict_empty (BG (tk:=s.toks) (po:=.jZ []) S ⟨[],(cE _ (#[]) 0 ⟨Heap.get?_push_size _ rfl,⟨rfl,rfl,rfl⟩,rfl,rfl,by simp,.nil⟩),.nil⟩ q)
noncomputable def Um:∀Y:List Stmt,List Stmt
 |.ClassDef _ _ _ b ..::_=>b
 |_=>[]
noncomputable def iO(j:Nat):DefRec:=ofStmt ((Um (PySem.Challenge.pw_nn0309_01.main.body.drop 17)).drop j)
structure Meth(B:Heap)(bS:∀Y:Str,Option Value) (j:Nat) (a:Addr) (of:Obj) (fd:FuncData):Prop where
 xx:bS (iO j).name=some (.ref a)
 at_:B.get? a=some of
 cls:of.cls=.type "function"
 data:of.data=.func fd
 fn:v9 B a fd (mj (iO j)) (iO j).body (iO j).scope
theorem Meth.iB{bS:∀Y:Str,Option Value} {j:Nat} {a:Addr} {of:Obj} {fd:FuncData} {P:d8} {dJ:∀Y:List ah,∀Y:(∀Y:ah,∀Y:St,Prop),∀Y:St,Prop} (n r9:Nat) (F:Meth B bS j a of fd) (dh:wa (mj (iO j)) (iO j).scope=true) (er:B.NoLimit) (aR:(mj (iO j)).length=n) (aW:(varNames (iO j).scope.names).length=r9)
 (av:ky prog w B (g5 (iO j).scope.names) k (iO j).body P) (aP:∀xs Q st,∀Y:dJ xs Q st,yS n r9 P xs Q st):b8 prog w B (k+1) (.ref a) dJ:=by
 subst aR aW;exact b8.imp (B9 F.fn dh er none (fun Y h=>nomatch h) av) aP
noncomputable def uT(nn bH no bJ:Nat):List (Str×ah):=[("table",.ref bJ),("outputs",.ref no),("inputs",.ref bH),("nodes",.ref nn)]
structure gf(aF:Addr)(s:St)(v:ah)(g:List Node)(nn bH bJ:Nat):Prop where
 dD:∃d no,je aF v s=some (d,uT nn bH no bJ)
 nodes:s[nn]?=some (.list (g.map fy))
 inputs:∃xs,s[bH]?=some (.list xs)∧xs.length≤g.length
 table:∃kvs,s[bJ]?=some (.jZ kvs)∧kvs.length≤g.length∧∀key x,∀Y:j6 key kvs=some x,∃node:Nat,x=.int node∧node<g.length
 ne:nn≠bH
 valid:gQ g
noncomputable def Agree(ch:List Nat)(s s':St):Prop:=∀j o,∀Y:j∉ch,∀Y:s[j]?=some o,s'[j]?=some o
theorem Agree.refl(ch:List Nat)(s:St):Agree ch s s:=fun Y Y Y h=>h
theorem Agree.trans{ch:List Nat}{s s' fj:St}(x:Agree ch s s')(y:Agree ch s' fj):Agree ch s fj:=fun j o aO h=>y j o aO (x j o aO h)
theorem Agree.app(ch:List Nat)(s g:St):Agree ch s (s++g):=fun Y Y Y h=>dS h g
theorem Agree.set{ch:List Nat}{s:St}{n:Nat}(h:n∈ch)(o:bB):Agree ch s (s.set n o):=fun j p aO aP=>by
 have:n≠j:=fun e=>aO (by rw[←e];exact h);rw[List.getElem?_set_ne this];exact aP
theorem gf.agree{aF:Addr}{s s':St}{v:ah}{g:List Node}{nn bH bJ:Nat}{ch:List Nat}(x:gf aF s v g nn bH bJ)(a:Agree ch s s')(aD:∀j∈ch,∃xs,s[j]?=some (.list xs)) (ae:nn∉ch) (af:bH∉ch):gf aF s' v g nn bH bJ:=by
 refine bZ ?_ x.dD;intro d no bq;refine aj ?_ (tR bq);intro i;refine aY ?_;rintro rfl aR aW;refine aj ?_ x.inputs;intro xs;refine ar ?_;intro hi fc;refine aj ?_ x.table;intro kvs;refine ar ?_;intro bf aC
 have off:∀{j:Nat}{o:bB},∀Y:s[j]?=some o,∀Y:(∀xs,o≠.list xs),j∉ch:=fun{j o} e az hm=>by
  refine aj ?_ (aD j hm);intro xs cA;rw[e]at cA;exact az xs (Option.some.inj cA)
 exact⟨(cD d no (sf (a _ _ (off aR fun Y q=>nomatch q) aR) (a _ _ (off aW fun Y q=>nomatch q) aW))),a _ _ ae x.nodes,⟨xs,a _ _ af hi,fc⟩,⟨kvs,a _ _ (off bf fun Y q=>nomatch q) bf,aC⟩,x.ne,x.valid⟩
theorem gf.ki{aF:Addr}{s:St}{v:ah}{g:List Node}{nn bH bJ:Nat}(x:gf aF s v g nn bH bJ):ki aF v s=some (g.map fy):=by
 refine bZ ?_ x.dD;intro d no bq;have e:(uT nn bH no bJ).lookup (Str.ofString "nodes")=some (.ref nn):=by kernel_rfl
 exact J4 bq e (cG x.nodes)
theorem gf.AL{aF:Addr}{s:St}{v:ah}{g:List Node}{nn bH bJ:Nat}{Q:∀Y:ah,∀Y:St,Prop} (x:gf aF s v g nn bH bJ) (q:Q (.ref nn) s):sj aF (Str.ofString "nodes") v Q s:=by
 refine bZ ?_ x.dD;intro d no bq;have e:(uT nn bH no bJ).lookup (Str.ofString "nodes")=some (.ref nn):=by kernel_rfl
 exact Au bq e q
theorem gf.Un{aF:Addr}{s:St}{v:ah}{g:List Node}{nn bH bJ:Nat}{Q:∀Y:ah,∀Y:St,Prop} (x:gf aF s v g nn bH bJ) (q:Q (.ref bH) s):sj aF (Str.ofString "inputs") v Q s:=by
 refine bZ ?_ x.dD;intro d no bq;have e:(uT nn bH no bJ).lookup (Str.ofString "inputs")=some (.ref bH):=by kernel_rfl
 exact Au bq e q
theorem gf.KZ{aF:Addr}{s:St}{v:ah}{g:List Node}{nn bH bJ:Nat}{Q:∀Y:ah,∀Y:St,Prop} (x:gf aF s v g nn bH bJ) (q:Q (.ref bJ) s):sj aF (Str.ofString "table") v Q s:=by
 refine bZ ?_ x.dD;intro d no bq;have e:(uT nn bH no bJ).lookup (Str.ofString "table")=some (.ref bJ):=by kernel_rfl
 exact Au bq e q
theorem gf.ro{aF:Addr}{s:St}{v:ah}{g:List Node}{nn bH bJ:Nat}{name:Str}(x:gf aF s v g nn bH bJ)(h:∀no,(uT nn bH no bJ).lookup name=none):yZ aF name v s:=by
 refine bZ ?_ x.dD;intro d no bq;exact fS bq (h no)
noncomputable def Lit(g:List Node)(l:Nat):Prop:=l / 2<g.length
noncomputable abbrev km(aF:Addr)(cost EJ:Nat)(xs:List ah)(Q:∀Y:ah,∀Y:St,Prop) (st:St):Prop:=∃(v:ah)(g:List Node)(nn bH bJ:Nat)(ls:List Nat),xs=v::ls.map (fun l:Nat=>.int l)∧ls.length=EJ∧gf aF st v g nn bH bJ∧g.length+cost≤90∧(∀l∈ls,Lit g l)∧
 ∀s' cL(x:Nat),∀Y:gf aF s' v cL nn bH bJ,∀Y:g.length≤cL.length,∀Y:cL.length≤g.length+cost,∀Y:Agree [nn,bH,bJ] st s',∀Y:Lit cL x,Q (.int x) s'
noncomputable def flip(l:Nat):Nat:=if l % 2=1 then l-1 else l+1
theorem uU(l:Nat):Builtin.bitXor (l:Int) 1=(flip l:Int):=by
 have e:Builtin.bitXor (l:Int) 1=(l:Int)+1-2*Builtin.bitAnd (l:Int) 1:=by
  unfold Builtin.bitXor;rw[bitOr_and];exact Int.le_antisymm (cu (.L (.s (.s (.a (.n .p) (.k 1)) .p) .p) (.s (.a (.n .p) (.k 1)) (.m 2 .p))) rfl [_] [_]) (cu (.L (.s (.a (.n .p) (.k 1)) (.m 2 .p)) (.s (.s (.a (.n .p) (.k 1)) .p) .p)) rfl [_] [_])
 rw[e,J9];unfold flip
 split<;>lia
theorem xor_zero(l:Nat):Builtin.bitXor (l:Int) 0=(l:Int):=by
 have e:Builtin.bitXor (l:Int) 0=(l:Int)+0-2*Builtin.bitAnd (l:Int) 0:=by
  unfold Builtin.bitXor;rw[bitOr_and];exact Int.le_antisymm (cu (.L (.s (.s (.a (.n .p) (.k 0)) .p) .p) (.s (.a (.n .p) (.k 0)) (.m 2 .p))) rfl [_] [_]) (cu (.L (.s (.a (.n .p) (.k 0)) (.m 2 .p)) (.s (.s (.a (.n .p) (.k 0)) .p) .p)) rfl [_] [_])
 rw[e,PyProof.Rows.bitAnd_zero];exact Int.le_antisymm (aI (.L (.s (.a (.n .p) (.k 0)) (.m 2 (.k 0))) (.n .p)) rfl) (aI (.L (.n .p) (.s (.a (.n .p) (.k 0)) (.m 2 (.k 0)))) rfl)
theorem xy{g:List Node}{l:Nat}(h:Lit g l):Lit g (flip l):=by
 unfold Lit flip at*
 split<;>lia
theorem gf.K0{aF:Addr}{s:St}{v:ah}{g cL:List Node}{nn bH bJ:Nat}(x:gf aF s v g nn bH bJ)(b6:gQ cL)(aD:g.length≤cL.length):gf aF (s.set nn (.list (cL.map fy))) v cL nn bH bJ:=by
 refine bZ ?_ x.dD;intro d no bq;refine aj ?_ (tR bq);intro i;refine aY ?_;rintro rfl aR aW;refine aj ?_ x.inputs;intro xs;refine ar ?_;intro hi fc;refine aj ?_ x.table;intro kvs;refine aY ?_;intro bf aK aC
 have off:∀{j:Nat}{o:bB},∀Y:s[j]?=some o,∀Y:(∀xs,o≠.list xs),nn≠j:=fun{j o} e az hm=>by
  rw[←hm,x.nodes]at e;exact az _ (Option.some.inj e).symm
 refine⟨(cD d no (sf (by rw[List.getElem?_set_ne (off aR fun Y q=>nomatch q)];exact aR) (by rw[List.getElem?_set_ne (off aW fun Y q=>nomatch q)];exact aW))),List.getElem?_set_self (List.getElem?_eq_some_iff.mp x.nodes).1,⟨xs,by rw[List.getElem?_set_ne x.ne];exact hi,by exact aA (.a .r .q (.a .p .r (.l .p .q))) rfl aD fc⟩,
  ⟨kvs,by rw[List.getElem?_set_ne (off bf fun Y q=>nomatch q)];exact bf,by exact aA (.a .r .q (.a .p .r (.l .p .q))) rfl aD aK,fun key y e=>?_⟩,x.ne,b6⟩
 refine aj ?_ (aC key y e);intro node;refine ar ?_;intro cz jf;exact⟨node,cz,by exact aA (.a .r .q (.b .p .r (.t .p .q))) rfl aD jf⟩
theorem gf.Uo{aF:Addr}{s:St}{v:ah}{g:List Node}{nn bH bJ:Nat}(x:gf aF s v g nn bH bJ)(ys:List ah)(au:ys.length≤g.length):gf aF (s.set bH (.list ys)) v g nn bH bJ:=by
 refine bZ ?_ x.dD;intro d no bq;refine aj ?_ (tR bq);intro i;refine aY ?_;rintro rfl aR aW;refine aj ?_ x.inputs;intro xs;refine ar ?_;intro hi fc;refine aj ?_ x.table;intro kvs;refine ar ?_;intro bf aC
 have off:∀{j:Nat}{o:bB},∀Y:s[j]?=some o,∀Y:(∀xs,o≠.list xs),bH≠j:=fun{j o} e az hm=>by
  rw[←hm,hi]at e;exact az _ (Option.some.inj e).symm
 exact⟨(cD d no (sf (by rw[List.getElem?_set_ne (off aR fun Y q=>nomatch q)];exact aR) (by rw[List.getElem?_set_ne (off aW fun Y q=>nomatch q)];exact aW))),by rw[List.getElem?_set_ne (Ne.symm x.ne)];exact x.nodes,⟨ys,List.getElem?_set_self (List.getElem?_eq_some_iff.mp hi).1,au⟩,
  ⟨kvs,by rw[List.getElem?_set_ne (off bf fun Y q=>nomatch q)];exact bf,aC⟩,x.ne,x.valid⟩
theorem K1(i j:List Int)(v:ah):∀kvs:List (List Int×ah),j6 i (kC j v kvs)=if j=i then some v else j6 i kvs
 |[]=>rfl
 |(y,u)::r=>by
  unfold kC;by_cases h:y=j
  ·rw[if_pos h];subst h;show(if y=i then some v else j6 i r)=if y=i then some v else(if y=i then some u else j6 i r)
   by_cases af:y=i
   ·rw[if_pos af,if_pos af]
   ·rw[if_neg af,if_neg af,if_neg af]
  ·rw[if_neg h];show(if y=i then some u else j6 i (kC j v r))=if j=i then some v else(if y=i then some u else j6 i r)
   rw[K1 i j v r];by_cases af:y=i
   ·have aH:¬j=i:=fun q=>h (af.trans q.symm);rw[if_pos af,if_pos af,if_neg aH]
   ·rw[if_neg af,if_neg af]
theorem K2(j:List Int)(v:ah):∀kvs:List (List Int×ah),(kC j v kvs).length≤kvs.length+1
 |[]=>by simp[kC]
 |(y,u)::r=>by
  unfold kC
  split
  ·simp
  ·have:=K2 j v r;simp only[List.length_cons];exact aq (.a .p (.b .q) (.l (.b .p) (.b (.b .q)))) rfl this
theorem gf.Up{aF:Addr}{s:St}{v:ah}{g:List Node}{nn bH bJ:Nat}(x:gf aF s v g nn bH bJ)(kvs:List (List Int×ah))(ae:kvs.length≤g.length)(af:∀key y,∀Y:j6 key kvs=some y,∃node:Nat,y=.int node∧node<g.length):gf aF (s.set bJ (.jZ kvs)) v g nn bH bJ:=by
 refine bZ ?_ x.dD;intro d no bq;refine aj ?_ (tR bq);intro i;refine aY ?_;rintro rfl aR aW;refine aj ?_ x.inputs;intro xs;refine ar ?_;intro hi fc;refine aj ?_ x.table;intro xo;refine ar ?_;intro bf aC
 have off:∀{j:Nat}{o:bB},∀Y:s[j]?=some o,∀Y:(∀xs,o≠.jZ xs),bJ≠j:=fun{j o} e az hm=>by
  rw[←hm,bf]at e;exact az _ (Option.some.inj e).symm
 exact⟨(cD d no (sf (by rw[List.getElem?_set_ne (off aR fun Y q=>nomatch q)];exact aR) (by rw[List.getElem?_set_ne (off aW fun Y q=>nomatch q)];exact aW))),by rw[List.getElem?_set_ne (off x.nodes fun Y q=>nomatch q)];exact x.nodes,⟨xs,by rw[List.getElem?_set_ne (off hi fun Y q=>nomatch q)];exact hi,fc⟩,
  ⟨kvs,List.getElem?_set_self (List.getElem?_eq_some_iff.mp bf).1,ae,af⟩,x.ne,x.valid⟩
theorem gQ.snoc{g:List Node}(h:gQ g)(aD:g.length<100)(d4:Node)(az:∀l r,∀Y:d4=some (l,r),l / 2<g.length∧r / 2<g.length∧2≤l∧2≤r∧l<1000∧r<1000):gQ (g++[d4]):=by
 have aV:=(List.getElem?_eq_some_iff.mp h.zero).1;refine⟨by rw[List.getElem?_append_left aV];exact h.zero,by rw[List.length_append];simp;exact qk aD rfl,fun i l r e=>?_⟩;by_cases hi:i<g.length
 ·rw[List.getElem?_append_left hi]at e;exact h.iN i l r e
 ·rw[List.getElem?_append_right (by lia)]at e
  have aT:i-g.length=0:=by
   have:=(List.getElem?_eq_some_iff.mp e).1;simp at this;lia
  rw[aT]at e;refine aY ?_ (az l r (Option.some.inj e));intro a1 a2 cW;exact⟨by exact aA (.n (.t .q .r) (.b .p .r (.t .p .q))) rfl hi a1,by exact aA (.n (.t .q .r) (.b .p .r (.t .p .q))) rfl hi a2,cW⟩
theorem EV{a aF:Nat}{bS:∀Y:Str,Option Value} {of:Obj} {fd:FuncData} (F:Meth B bS 1 a of fd) (G:ic B) (X:jw B aF bS) (ee:bS "nodes"=none) (dN:typeLookup (.type "object") "nodes"=pure none) (uV:bS "inputs"=none) (uW:typeLookup (.type "object") "inputs"=pure none):
 b8 prog w B (k+1) (.ref a) (km aF 1 0):=by
 have dM:=G.len;refine@Meth.iB prog w B k _ _ _ _ _ _ _ 1 2 F (by decide+kernel) G.er (by decide+kernel) (by decide+kernel) (aZ (dg (i:=1) (bL dM (.inl ⟨_,rfl⟩) fD (aQ (iK X ee dN (aw (i:=0) (by kernel_rfl))) bg) (by kernel_rfl) (by decide+kernel)) (by kernel_rfl) (cg (by decide+kernel))) (aZ (jt (jv (iK X ee dN (aw (i:=0) (by kernel_rfl))) lP)) (aZ (jt (jv (iK X uV uW (aw (i:=0) (by kernel_rfl))) (aw (i:=1) (by kernel_rfl)))) (aZ (eF (cY vQ bz (aw (i:=1) (by kernel_rfl)))) bM)))) ?_;intro _ Q st;refine o0 ?_;intro v g nn bH bJ ls;refine dH ?_;rintro rfl kQ aL b7 aD q;cases ls with
 |cons=>cases kQ
 |nil=>
  refine⟨rfl,?_⟩
  walk_at "V"
  refine a8 ?_
  walk_at "V"
  refine aL.AL (jT (cG aL.nodes) (by rw[List.length_map];exact aI (.i 999999999 (.l (.b .p) (.k 90)) (.G 88 (.t .p (.k 1000000000)))) rfl b7) ?_);rw[List.length_map]
  walk_at "V"
  refine a8 ?_
  walk_at "V"
  refine aL.AL ⟨by rw[cG aL.nodes];rfl,append_at aL.nodes (by rw[List.length_map];exact aI (.i 1000000 (.l (.b .p) (.k 90)) (.G 88 (.l .p (.k 1000000)))) rfl b7) ⟨rfl,?_⟩⟩;have nZ:g.map fy++[ah.none]=(g++[none]).map fy:=by simp[fy]
  rw[nZ]
  walk_at "V"
  have EW:gQ (g++[none]):=aL.valid.snoc (by exact aI (.i 99 (.l (.b .p) (.k 90)) (.G 88 (.t .p (.k 100)))) rfl b7) none fun l r e=>nomatch e;have mr:=aL.K0 EW (by simp);refine a8 ?_
  walk_at "V"
  refine aj ?_ aL.inputs;intro xs;refine ar ?_;intro Uq fc;have hi:(st.set nn (.list ((g++[none]).map fy)))[bH]?=some (.list xs):=by rw[List.getElem?_set_ne aL.ne];exact Uq
  refine mr.Un ⟨by rw[cG hi];rfl,append_at hi (by exact aq (.i 1000000 (.l (.b .q) (.k 90)) (.i 1000000 (.l .p .q) (.G 88 (.l .p (.k 1000000))))) rfl b7 fc) ⟨rfl,?_⟩⟩
  walk_at "V"
  refine a8 ?_
  walk_at "V"
  refine⟨⟨by decide,by lia⟩,?_⟩;have ex:(2:Int)*(g.length:Int)=((2*g.length:Nat):Int):=by exact Int.le_antisymm (aI (.L (.m 2 (.n .p)) (.n (.m 2 .p))) rfl) (aI (.L (.n (.m 2 .p)) (.m 2 (.n .p))) rfl)
  rw[ex];refine q _ (g++[none]) (2*g.length) (mr.Uo _ (by simp;exact aq (.a .p .q (.l .p .q)) rfl fc)) (by simp) (by simp) (((Agree.refl _ st).trans (Agree.set (by simp) _)).trans (Agree.set (by simp) _)) ?_;unfold Lit;simp
theorem rq{a aF:Nat}{bS:∀Y:Str,Option Value} {of:Obj} {fd:FuncData} (F:Meth B bS 4 a of fd) (G:ic B) (X:jw B aF bS) (ee:bS "nodes"=none) (dN:typeLookup (.type "object") "nodes"=pure none) (sU:bS "table"=none) (sV:typeLookup (.type "object") "table"=pure none):
 b8 prog w B (k+1) (.ref a) (km aF 1 2):=by
 have dM:=G.len;have hs:=G.hs;refine@Meth.iB prog w B k _ _ _ _ _ _ _ 3 4 F (by decide+kernel) G.er (by decide+kernel) (by decide+kernel) (aZ (fQ (c6 cmp_gt (aw (i:=1) (by kernel_rfl)) (aw (i:=2) (by kernel_rfl))) (aZ (OI (i:=1) (j:=2) (lR (aQ (aw (i:=2) (by kernel_rfl)) (aQ (aw (i:=1) (by kernel_rfl)) bg))) (by kernel_rfl) (cg (by decide+kernel)) (by kernel_rfl) (cg (by decide+kernel)) (hw:=by intro env ae af;rcases env with⟨⟨kind,names⟩⟩;cases ae;cases af;kernel_rfl)) bM) bM) (aZ (fQ (gX (c6 jJ (aw (i:=1) (by kernel_rfl)) bz) (gX (c6 jJ (aw (i:=1) (by kernel_rfl)) (cY qv (aw (i:=2) (by kernel_rfl)) bz)) ph)) (aZ (eF bz) bM) bM) (aZ (fQ (gX (c6 jJ (aw (i:=1) (by kernel_rfl)) bz) (gX (c6 jJ (aw (i:=1) (by kernel_rfl)) (aw (i:=2) (by kernel_rfl))) ph)) (aZ (eF (aw (i:=2) (by kernel_rfl))) bM) bM) (aZ (dg (i:=3) (N8 hs (iK X sU sV (aw (i:=0) (by kernel_rfl))) (lR (aQ (aw (i:=1) (by kernel_rfl)) (aQ (aw (i:=2) (by kernel_rfl)) bg))) (vL bz)) (by kernel_rfl) (cg (by decide+kernel))) (aZ (fQ (c6 qx (aw (i:=3) (by kernel_rfl)) bz) (aZ (dg (i:=3) (bL dM (.inl ⟨_,rfl⟩) fD (aQ (iK X ee dN (aw (i:=0) (by kernel_rfl))) bg) (by kernel_rfl) (by decide+kernel)) (by kernel_rfl) (cg (by decide+kernel))) (aZ (jt (jv (iK X ee dN (aw (i:=0) (by kernel_rfl))) (lR (aQ (aw (i:=1) (by kernel_rfl)) (aQ (aw (i:=2) (by kernel_rfl)) bg))))) (aZ (n8 (aw (i:=3) (by kernel_rfl)) (iK X sU sV (aw (i:=0) (by kernel_rfl))) (lR (aQ (aw (i:=1) (by kernel_rfl)) (aQ (aw (i:=2) (by kernel_rfl)) bg)))) bM))) bM) (aZ (eF (cY vQ bz (aw (i:=3) (by kernel_rfl)))) bM)))))) ?_;intro _ Q st;refine o0 ?_;intro v g nn bH bJ ls;refine dH ?_;rintro rfl kQ aL b7 aD q
 match ls,kQ with
 |[l,r],_=>
  have jQ:Lit g l:=aD l (by simp);have jB:Lit g r:=aD r (by simp);clear aD;refine⟨rfl,?_⟩
  walk_at "V"
  refine lB (fun lo s=>∃l r:Nat,lo=[some v,some (.int l),some (.int r),none]∧st=s∧l≤r∧Lit g l∧Lit g r) (fun a6 a7 Y Y=>?_) ?_
  ·refine gB (l>r) (fun a6 ae af=>?_) (fun h=>?_) fun h=>?_
   ·walk_at "V"
    exact kg (fun h=>ae (by have:=of_decide_eq_true h;lia)) fun h=>af (by have:=of_decide_eq_false h;lia)
   ·refine a8 ⟨by simp,J3 ?_⟩;exact a7 _ _ (cD r l ⟨rfl,rfl,by exact aq (.b .p .q (.l .p .q)) rfl h,jB,jQ⟩)
   ·exact a7 _ _ (cD l r ⟨rfl,rfl,by exact aq (.n (.t .q .p) (.l .p .q)) rfl h,jQ,jB⟩)
  ·clear jQ jB;intro _ _;refine bZ ?_;intro l r;refine eY ?_;rintro rfl rfl uX jQ jB;have oA:∀x:Nat,∀Y:Lit g x,Q (.int x) st:=fun x ai=>q st g x aL (Nat.le_refl _) (by exact aI (.l .p (.b .p)) rfl) (Agree.refl _ _) ai;have Ur:0<g.length:=(List.getElem?_eq_some_iff.mp aL.valid.zero).1
   walk_at "V"
   refine lB (fun lo s'=>lo=[some v,some (.int l),some (.int r),none]∧st=s'∧l≠0∧l≠flip r) (fun a6 a7 sT Y=>?_) ?_
   ·refine gB (l=0∨l=flip r) (fun a6 ae af=>?_) (fun h=>?_) fun h=>?_
    ·walk_at "V"
     refine i6 (fun h=>ae (.inl (by exact Nat.le_antisymm (aI (.ak (.n .p) (.k 0) (.l .p .z)) rfl h) (aI (.l .z .p) rfl)))) fun h=>?_;rw[uU]
     walk_at "V"
     refine i6 (fun h'=>ae (.inr (by exact ql h'))) fun h'=>af ?_;rintro(q|q)<;>lia
    ·refine a8 ?_;exact sT _ _ _ (oA 0 (by unfold Lit;exact aq (.i 2 (.t .z .q) (.a (.m 2 .p) .z (.G 1 (.t .p .q)))) rfl Ur (Nat.mul_div_le (0:Nat) 2)))
    ·exact a7 _ _ ⟨rfl,rfl,fun q=>h (.inl q),fun q=>h (.inr q)⟩
   ·intro _ _;refine cH ?_;rintro rfl rfl eB iR
    walk_at "V"
    refine lB (fun lo s'=>lo=[some v,some (.int l),some (.int r),none]∧st=s'∧l≠1∧l≠r) (fun a6 a7 sT Y=>?_) ?_
    ·refine gB (l=1∨l=r) (fun a6 ae af=>?_) (fun h=>?_) fun h=>?_
     ·walk_at "V"
      refine i6 (fun h=>ae (.inl (by exact Nat.le_antisymm (aI (.ak (.n .p) (.k 1) (.l .p .o)) rfl h) (aI (.i (-1) (.E (.n .p) (.k 1)) (.l .o .p)) rfl h)))) fun h=>?_;refine i6 (fun h'=>ae (.inr (by exact ql h'))) fun h'=>af ?_;rintro(q|q)<;>lia
     ·refine a8 ?_
      walk_at "V"
      exact sT _ _ _ (oA r jB)
     ·exact a7 _ _ ⟨rfl,rfl,fun q=>h (.inl q),fun q=>h (.inr q)⟩
    ·intro _ _;refine cH ?_;rintro rfl rfl p5 EX;refine aj ?_ aL.table;intro kvs;refine aY ?_;intro bf aK aN;have p6:tabAt (.ref bJ) st=some kvs:=Option.bind_eq_some_iff.mpr ⟨_,bf,rfl⟩;refine a8 ?_
     walk_at "V"
     refine aL.KZ ⟨by rw[p6];rfl,?_⟩;have hints:intsOf [ah.int (l:Nat),ah.int (r:Nat)]=some [(l:Int),(r:Int)]:=rfl;refine⟨by simp,rL p6 hints ?_⟩
     have hmul:∀{n:Nat}{iV:∀Y:ah,∀Y:St,Prop} {s':St},∀Y:n≤100,∀Y:iV (.int ((2*n:Nat):Int)) s',yH (.int 2) (.int n) iV s':=fun{n iV s'} az h=>by
      have ex:(2:Int)*(n:Int)=((2*n:Nat):Int):=by exact Int.le_antisymm (aI (.L (.m 2 (.n .p)) (.n (.m 2 .p))) rfl) (aI (.L (.n (.m 2 .p)) (.m 2 (.n .p))) rfl)
      refine⟨⟨by decide,by lia⟩,?_⟩;rw[ex];exact h
     cases bq:j6 [(l:Int),(r:Int)] kvs with
     |some x=>
      refine aj ?_ (aN _ _ bq);intro node;refine ar ?_;rintro rfl az;simp only[Option.getD_some]
      walk_at "V"
      refine a8 (gB False (fun a6 ae af=>?_) (fun h=>h.elim) fun Y=>?_)
      ·walk_at "V"
       exact kg (fun h=>by have:=of_decide_eq_true h;lia) fun Y=>af id
      ·walk_at "V"
       refine a8 ?_
       walk_at "V"
       refine hmul (by exact aq (.i 25 (.l (.b .q) (.k 90)) (.i 25 (.t .p .q) (.G 21 (.l .p (.k 100))))) rfl b7 az) ?_;exact oA (2*node) (by unfold Lit;exact aA (.i 2 (.t .r .q) (.a (.m 2 .p) (.m 2 .r) (.G 1 (.t .p .q)))) rfl az (Nat.mul_div_le ((2:Nat)*_) 2))
     |none=>
      simp only[Option.getD_none]
      walk_at "V"
      refine a8 (gB True (fun a6 ae af=>?_) (fun Y=>?_) fun h=>absurd trivial h)
      ·walk_at "V"
       exact ae trivial
      ·refine a8 ?_
       walk_at "V"
       refine aL.AL (jT (cG aL.nodes) (by rw[List.length_map];exact aI (.i 999999999 (.l (.b .p) (.k 90)) (.G 88 (.t .p (.k 1000000000)))) rfl b7) ?_);rw[List.length_map]
       walk_at "V"
       refine a8 ?_
       walk_at "V"
       refine aL.AL ⟨by rw[cG aL.nodes];rfl,by decide,append_at aL.nodes (by rw[List.length_map];exact aI (.i 1000000 (.l (.b .p) (.k 90)) (.G 88 (.l .p (.k 1000000)))) rfl b7) ⟨rfl,?_⟩⟩;have nZ:g.map fy++[ah.tup [.int l,.int r]]=(g++[some (l,r)]).map fy:=by simp[fy]
       rw[nZ];have k6:2≤l:=by exact(Nat.lt_or_gt_of_ne eB).elim (fun ay=>aI (.i 2 (.t .p .z) (.l (.k 2) .p)) rfl ay) (fun aE=>(Nat.lt_or_gt_of_ne p5).elim (fun bI=>aI (.i 2 (.t .z .p) (.b .p .o (.l (.k 2) .p))) rfl aE bI) (fun cM=>aI (.b .o .p (.l (.k 2) .p)) rfl cM))
       have kj:¬(l % 2=0∧r=l+1):=fun⟨aR,aW⟩=>by
        apply iR;unfold flip;rw[if_pos (by lia)];lia
       have EW:gQ (g++[some (l,r)]):=aL.valid.snoc (by exact aI (.i 99 (.l (.b .p) (.k 90)) (.G 88 (.t .p (.k 100)))) rfl b7) _ fun ia c5 e=>by
        cases e
        unfold Lit at jQ jB;exact⟨jQ,jB,k6,by exact(Nat.lt_or_gt_of_ne eB).elim (fun ay=>aq (.i 2 (.t .q .z) (.l (.k 2) .p)) rfl ay) (fun aE=>(Nat.lt_or_gt_of_ne EX).elim (fun bI=>aq (.b .z .q (.b .q .p (.l (.k 2) .p))) rfl aE bI) (fun cM=>aq (.i 2 (.l .q .p) (.i 2 (.t .p .q) (.l (.k 2) .p))) rfl uX cM)),by exact aA (.i 666 (.l (.b .q) (.k 90)) (.i 666 (.t .r .q) (.i 333 (.t .p (.m 2 (.b .r))) (.G 58 (.t .p (.k 1000)))))) rfl b7 jQ (Nat.lt_mul_div_succ _ (by decide)),by exact aA (.i 666 (.l (.b .q) (.k 90)) (.i 666 (.t .r .q) (.i 333 (.t .p (.m 2 (.b .r))) (.G 58 (.t .p (.k 1000)))))) rfl b7 jB (Nat.lt_mul_div_succ _ (by decide))⟩
       have mr:=aL.K0 EW (by simp)
       walk_at "V"
       refine a8 ?_
       walk_at "V"
       have n3:(st.set nn (.list ((g++[some (l,r)]).map fy)))[bJ]?=some (.jZ kvs):=by
        rw[List.getElem?_set_ne (fun e=>by rw[←e,aL.nodes]at bf;cases bf)];exact bf
       have Us:tabAt (.ref bJ) (st.set nn (.list ((g++[some (l,r)]).map fy)))=some kvs:=Option.bind_eq_some_iff.mpr ⟨_,n3,rfl⟩;refine mr.KZ ⟨by decide,rL Us hints ⟨by exact aq (.i 1000000 (.l (.b .q) (.k 90)) (.i 1000000 (.l .p .q) (.G 88 (.l .p (.k 1000000))))) rfl b7 aK,?_⟩⟩
       have EY:=mr.Up (kC [(l:Int),(r:Int)] (.int (g.length:Int)) kvs) (by have:=K2 [(l:Int),(r:Int)] (.int (g.length:Int)) kvs;simp;exact aA (.a .r .q (.a .p (.b .r) (.l .p (.b .q)))) rfl aK this) (fun key y e=>by
        rw[K1]at e
        split at e
        ·cases e;exact⟨g.length,rfl,by simp⟩
        ·refine aj ?_ (aN key y e);intro node;refine ar ?_;intro aR aW;exact⟨node,aR,by simp;exact aq (.b .p .q (.t .p (.b .q))) rfl aW⟩)
       walk_at "V"
       refine a8 ?_
       walk_at "V"
       refine hmul (by exact aI (.i 100 (.l (.b .p) (.k 90)) (.G 88 (.l .p (.k 100)))) rfl b7) ?_;refine q _ (g++[some (l,r)]) (2*g.length) EY (by simp) (by simp) (((Agree.refl _ st).trans (Agree.set (by simp) _)).trans (Agree.set (by simp) _)) ?_;unfold Lit;simp
theorem xA{a kO aF:Nat}{bS:∀Y:Str,Option Value} {of nN:Obj} {fd xB:FuncData} {xC:Option Value} (F:Meth B bS 5 a of fd) (G:ic B) (X:jw B aF bS) (jC:bS "land"=some (.ref kO)∧B.get? kO=some nN∧nN.cls=.type "function"∧nN.data=.func xB) (oR:typeLookup (.type "object") "land"=pure xC) (rq:∀k,b8 prog w B (k+1) (.ref kO) (km aF 1 2)):
 b8 prog w B (k+2) (.ref a) (km aF 1 2):=by
 refine@Meth.iB prog w B (k+1) _ _ _ _ _ _ _ 3 3 F (by decide+kernel) G.er (by decide+kernel) (by decide+kernel) (aZ (eF (cY qv (sr (pl:=_) X jC.1 jC.2.1 jC.2.2.1 jC.2.2.2 oR (rq _) (aw (i:=0) (by kernel_rfl)) (aQ (cY qv (aw (i:=1) (by kernel_rfl)) bz) (aQ (cY qv (aw (i:=2) (by kernel_rfl)) bz) bg)) (by intro _;with_unfolding_all rfl)) bz)) bM) ?_;intro _ Q st;refine o0 ?_;intro v g nn bH bJ ls;refine dH ?_;rintro rfl kQ aL b7 aD q
 match ls,kQ with
 |[l,r],_=>
  refine⟨rfl,?_⟩
  walk_at "V"
  refine a8 ?_
  walk_at "V"
  refine⟨aL.ro fun no=>by kernel_rfl,?_⟩;rw[uU,uU];refine(qf v g nn bH bJ [flip l,flip r] ⟨rfl,rfl,aL,b7,fun x ai=>?_,fun s' cL x mD ae af aH bX=>?_⟩)
  ·simp only[List.mem_cons,List.not_mem_nil,or_false]at ai;rcases ai with rfl|rfl
   ·exact xy (aD l (by simp))
   ·exact xy (aD r (by simp))
  ·walk_at "V"
   rw[uU];exact q s' cL (flip x) mD ae af aH (xy bX)
theorem Lit.mono{g cL:List Node}{l:Nat}(h:Lit g l)(aD:g.length≤cL.length):Lit cL l:=by unfold Lit at*;exact aA (.b .p .r (.a .r .q (.t .p .q))) rfl h aD
theorem EZ{a kO rr aF:Nat}{bS:∀Y:Str,Option Value} {of nN sW:Obj} {fd xB E0:FuncData} {xC E1:Option Value} (F:Meth B bS 7 a of fd) (G:ic B) (X:jw B aF bS) (jC:bS "land"=some (.ref kO)∧B.get? kO=some nN∧nN.cls=.type "function"∧nN.data=.func xB) (oR:typeLookup (.type "object") "land"=pure xC) (rq:∀k,b8 prog w B (k+1) (.ref kO) (km aF 1 2))
 (p7:bS "lor"=some (.ref rr)∧B.get? rr=some sW∧sW.cls=.type "function"∧sW.data=.func E0) (uY:typeLookup (.type "object") "lor"=pure E1) (xA:∀k,b8 prog w B (k+2) (.ref rr) (km aF 1 2)):
 b8 prog w B (k+3) (.ref a) (km aF 3 3):=by
 refine@Meth.iB prog w B (k+2) _ _ _ _ _ _ _ 4 4 F (by decide+kernel) G.er (by decide+kernel) (by decide+kernel) (aZ (fQ (c6 jJ (aw (i:=2) (by kernel_rfl)) (aw (i:=3) (by kernel_rfl))) (aZ (eF (aw (i:=2) (by kernel_rfl))) bM) bM) (aZ (eF (sr (pl:=_) X p7.1 p7.2.1 p7.2.2.1 p7.2.2.2 uY (xA _) (aw (i:=0) (by kernel_rfl)) (aQ (sr (pl:=_) X jC.1 jC.2.1 jC.2.2.1 jC.2.2.2 oR (rq _) (aw (i:=0) (by kernel_rfl)) (aQ (aw (i:=1) (by kernel_rfl)) (aQ (aw (i:=3) (by kernel_rfl)) bg)) (by intro _;with_unfolding_all rfl)) (aQ (sr (pl:=_) X jC.1 jC.2.1 jC.2.2.1 jC.2.2.2 oR (rq _) (aw (i:=0) (by kernel_rfl)) (aQ (cY qv (aw (i:=1) (by kernel_rfl)) bz) (aQ (aw (i:=2) (by kernel_rfl)) bg)) (by intro _;with_unfolding_all rfl)) bg)) (by intro _;with_unfolding_all rfl))) bM)) ?_;intro _ Q st;refine o0 ?_;intro v g nn bH bJ ls;refine dH ?_;rintro rfl kQ aL b7 aD q
 match ls,kQ with
 |[t,x,y],_=>
  have bf:=aD t (by simp);have ai:=aD x (by simp);have au:=aD y (by simp);refine⟨rfl,?_⟩
  walk_at "V"
  refine a8 (gB (x=y) (fun a6 ae af=>?_) (fun h=>?_) fun h=>?_)
  ·walk_at "V"
   exact kg (fun h=>ae (by have:=of_decide_eq_true h;lia)) fun h=>af (by have:=of_decide_eq_false h;lia)
  ·refine a8 ?_
   walk_at "V"
   exact q st g x aL (Nat.le_refl _) (by exact aI (.l .p (.a .p (.k 3))) rfl) (Agree.refl _ _) ai
  ·walk_at "V"
   refine a8 ?_
   walk_at "V"
   refine⟨aL.ro fun no=>by kernel_rfl,aL.ro fun no=>by kernel_rfl,?_⟩;refine(qf v g nn bH bJ [t,y] ⟨rfl,rfl,aL,by exact aI (.i 89 (.l (.a .p (.k 3)) (.k 90)) (.G 86 (.l (.b .p) (.k 90)))) rfl b7,fun z aT=>?_,fun s1 g1 bW K3 a1 a2 cW dI=>?_⟩)
   ·simp only[List.mem_cons,List.not_mem_nil,or_false]at aT;rcases aT with rfl|rfl
    ·exact bf
    ·exact au
   ·walk_at "V"
    refine⟨K3.ro fun no=>by kernel_rfl,?_⟩;rw[uU];refine(qf v g1 nn bH bJ [flip t,x] ⟨rfl,rfl,K3,by exact aq (.i 89 (.l (.a .q (.k 3)) (.k 90)) (.i 89 (.l .p (.b .q)) (.G 87 (.l (.b .p) (.k 90))))) rfl b7 a2,fun z aT=>?_,fun s2 g2 cy mr jM gz kG l9=>?_⟩)
    ·simp only[List.mem_cons,List.not_mem_nil,or_false]at aT;rcases aT with rfl|rfl
     ·exact(xy bf).mono a1
     ·exact ai.mono a1
    ·walk_at "V"
     refine(qf v g2 nn bH bJ [bW,cy] ⟨rfl,rfl,mr,by exact aA (.a (.a .q (.k 3)) (.k 90) (.a .r (.b .q) (.a .p (.b .r) (.l (.b .p) (.k 90))))) rfl b7 a2 gz,fun z aT=>?_,fun fF g3 c7 EY E2 E3 Am Ut=>?_⟩)
     ·simp only[List.mem_cons,List.not_mem_nil,or_false]at aT;rcases aT with rfl|rfl
      ·exact dI.mono jM
      ·exact l9
     ·exact q fF g3 c7 EY (by exact bA (.a .p .r (.a .r .s (.a .s .q (.l .p .q)))) rfl a1 jM E2) (by exact bA (.a .r (.b .q) (.a .s (.b .r) (.a .p (.b .s) (.l .p (.a .q (.k 3)))))) rfl a2 gz E3) ((cW.trans kG).trans Am) Ut
end Mine
end
section
namespace Mine
noncomputable def Sub(a b:List Int):Prop:=∀x∈a,x∈b
theorem K4{a b:List Int}:(a.all fun x=>decide (x∈b))=true↔Sub a b:=by
 rw[List.all_eq_true];exact⟨fun h x ai=>of_decide_eq_true (h x ai),fun h x ai=>decide_eq_true (h x ai)⟩
theorem E4:∀{a b:List Int},∀Y:a.Nodup,∀Y:Sub a b,∀Y:b.length≤a.length,Sub b a
 |[],b,_,_,aD=>by
  have:b=[]:=List.length_eq_zero_iff.mp (by simpa using aD);subst this;exact fun x ai=>ai
 |x::a,b,az,hs,aD=>by
  have nX:=List.nodup_cons.mp az;have Uu:x∈b:=hs x (List.mem_cons_self ..)
  have ae:Sub a (b.erase x):=fun y au=>by
   have pw:y≠x:=fun e=>nX.1 (e▸au);exact(List.mem_erase_of_ne pw).mpr (hs y (List.mem_cons_of_mem _ au))
  have af:=E4 nX.2 ae (by rw[List.length_erase_of_mem Uu];simp at aD;exact(Nat.le_total (1:Nat) _).elim (fun ay=>aA (.a .r (.b .q) (.c (.b .p) .r (.l .p .q))) rfl aD (Nat.sub_add_cancel ay)) (fun aE=>aq (.c .p .z (.l .p .q)) rfl (Nat.sub_eq_zero_of_le aE)));intro y au;by_cases e:y=x
  ·rw[e];exact List.mem_cons_self ..
  ·exact List.mem_cons_of_mem _ (af y ((List.mem_erase_of_ne e).mpr au))
theorem dK.nodup{a:List Int}(h:dK a):a.Nodup:=h.imp fun q=>by exact ye q
theorem Uv{a b:List Int}(aJ:dK a)(av:dK b)(ae:Sub a b)(af:b.length≤a.length):a=b:=
 sQ aJ av fun z=>⟨ae z,E4 aJ.nodup ae af z⟩
theorem Uw(ys:List (List Int)):∀aB:List (List Int),(∀k∈aB,k∈ys.foldl gc aB)∧∀c∈ys,∃d∈ys.foldl gc aB,Sub d c:=by
 induction ys with
 |nil=>exact fun aB=>⟨fun Y h=>h,fun Y h=>nomatch h⟩
 |cons y ys ih=>
  intro aB;refine ar ?_ (ih (gc aB y));intro ae af
  have g7:∀k∈aB,k∈gc aB y:=fun k aK=>by
   unfold gc
   split
   ·exact aK
   ·exact List.mem_append_left _ aK
  refine⟨fun k aK=>ae k (g7 k aK),fun c aG=>?_⟩;rcases List.mem_cons.mp aG with rfl|aG
  ·unfold gc at ae;by_cases q:(aB.any fun o=>o.all fun x=>decide (x∈c))=true
   ·refine aj ?_ (List.any_eq_true.mp q);intro o;refine ar ?_;intro bx hs;rw[if_pos q]at ae;refine⟨o,?_,K4.mp hs⟩;show o∈ys.foldl gc (gc aB c);unfold gc;rw[if_pos q];exact ae o bx
   ·rw[if_neg q]at ae;refine⟨c,?_,fun x ai=>ai⟩;show c∈ys.foldl gc (gc aB c);unfold gc;rw[if_neg q];exact ae c (List.mem_append_right _ (List.mem_singleton.mpr rfl))
  ·exact af c aG
noncomputable def uZ(a b:List Int):Prop:=¬Sub a b∧¬Sub b a
theorem Ux(ys:List (List Int)):∀aB:List (List Int),∀Y:aB.Pairwise uZ,∀Y:(∀k∈aB,dK k),∀Y:(∀y∈ys,dK y),∀Y:ys.Pairwise (fun x y=>oM y x=false),∀Y:(∀k∈aB,∀y∈ys,oM y k=false),(ys.foldl gc aB).Pairwise uZ:=by
 induction ys with
 |nil=>exact fun aB h Y Y Y Y=>h
 |cons y ys ih=>
  intro aB h aK au hw aG;have K5:=List.pairwise_cons.mp hw;have K6:=au y (List.mem_cons_self ..);refine ih (gc aB y) ?_ (fun k gy=>?_) (fun z aT=>au z (List.mem_cons_of_mem _ aT)) K5.2 fun k gy z aT=>?_
  ·unfold gc
   split
   ·exact h
   ·rename_i mQ;rw[List.pairwise_append];refine⟨h,List.pairwise_singleton ..,fun o bx z aT=>?_⟩;rw[List.mem_singleton.mp aT];have ae:¬Sub o y:=fun hs=>mQ (List.any_eq_true.mpr ⟨o,bx,K4.mpr hs⟩);refine⟨ae,fun hs=>ae ?_⟩;have bC:=aG o bx y (List.mem_cons_self ..)
    have d5:o.length≤y.length:=by
     have af:(if y.length=o.length then gr y o else decide (y.length<o.length))=false:=bC;by_cases e:y.length=o.length
     ·exact aq (.i (-1) (.e .q .p) (.l .p .q)) rfl e
     ·rw[if_neg e]at af;have:=of_decide_eq_false af;lia
    have:=Uv K6 (aK o bx) hs d5;rw[this];exact fun x ai=>ai
  ·rcases Es gy with gy|rfl
   ·exact aK k gy
   ·exact K6
  ·rcases Es gy with gy|rfl
   ·exact aG k gy z (List.mem_cons_of_mem _ aT)
   ·exact K5.1 z aT
theorem Uy{rows ys:List (List Int)}(hs:jj oM rows ys)(hi:∀r∈rows,dK r):(gD ys).Pairwise uZ:=
 Ux ys [] .nil (fun Y h=>nomatch h) (fun y au=>hi y (hs.1.mem_iff.mp au)) hs.2 fun Y h=>nomatch h
theorem Uz{ys:List (List Int)}{c:List Int}(h:c∈ys):∃d∈gD ys,Sub d c:=(Uw ys []).2 c h
theorem K7{aB:List (List Int)}(h:aB.Pairwise uZ):aB.Nodup:=h.imp fun{a b} q e=>q.1 (by rw[e];exact fun x ai=>ai)
theorem K8{r:List Int}{x:Int}:dK (r++[x])↔dK r∧∀y∈r,y<x:=by
 unfold dK;rw[List.pairwise_append];constructor
 ·refine aY ?_;intro ae _ aH;exact⟨ae,fun y au=>aH y au x (List.mem_singleton.mpr rfl)⟩
 ·refine ar ?_;intro ae af;exact⟨ae,List.pairwise_singleton ..,fun y au z aT=>by rw[List.mem_singleton.mp aT];exact af y au⟩
theorem AM(n:Nat)(m:Nat):∀r:List Int,r∈ig m n↔dK r∧(∀x∈r,1≤x∧x≤m)∧r.length≤n:=by
 induction m with
 |zero=>
  intro r;show r∈[[]]↔_;rw[List.mem_singleton];constructor
  ·rintro rfl;exact⟨.nil,by simp,by simp⟩
  ·refine aY ?_;intro _ h _;cases r with
   |nil=>rfl
   |cons x r=>have:=h x (List.mem_cons_self ..);exact(gV (.A (.k 1) .p (.A .p (.n .z) .f)) rfl this.1 this.2:False).elim
 |succ m ih=>
  intro r;rw[xw];unfold uS;rw[List.mem_append,ih r,List.mem_map];constructor
  ·rintro(⟨ae,af,aH⟩|⟨c5,j5,rfl⟩)
   ·exact⟨ae,fun x ai=>by have:=af x ai;exact⟨gV (.A (.k 1) .p (.L (.k 1) .p)) rfl this.1,cu (.A .p (.n .p) (.L .p (.n (.b .p)))) rfl [_] [_] this.2⟩,aH⟩
   ·refine ar ?_ (List.mem_filter.mp j5);intro bX et;refine aY ?_ ((ih c5).mp bX);intro ae af aH;have fq:=of_decide_eq_true et;refine⟨K8.mpr ⟨ae,fun y au=>by have:=af y au;exact cu (.A .p (.n .p) (.T .p (.n (.b .p)))) rfl [_] [_] this.2⟩,fun x ai=>?_,by rw[List.length_append];simp;lia⟩;rcases List.mem_append.mp ai with ai|ai
    ·have:=af x ai;exact⟨gV (.A (.k 1) .p (.L (.k 1) .p)) rfl this.1,cu (.A .p (.n .p) (.L .p (.n (.b .p)))) rfl [_] [_] this.2⟩
    ·rw[List.mem_singleton.mp ai];exact⟨aI (.L (.k 1) (.n (.b .p))) rfl,aI (.L (.n (.b .p)) (.n (.b .p))) rfl⟩
  ·refine aY ?_;intro ae af aH;by_cases hm:((m+1:Nat):Int)∈r
   ·right
    have cP:r≠[]:=fun e=>by rw[e]at hm;cases hm
    obtain⟨c5,x,rfl⟩:∃c5 x,r=c5++[x]:=⟨r.dropLast,r.getLast cP,(List.dropLast_concat_getLast cP).symm⟩;refine ar ?_ (K8.mp ae);intro bX et
    have ai:x=((m+1:Nat):Int):=by
     rcases List.mem_append.mp hm with q|q
     ·have:=et _ q;have:=af x (by simp);exact Int.le_antisymm (cu (.A .p (.n (.b .p)) (.L .p (.n (.b .p)))) rfl [_] [_] this.2) (cu (.B (.n (.b .p)) .p (.L (.n (.b .p)) .p)) rfl [_] [_] (by assumption))
     ·exact(List.mem_singleton.mp q).symm
    refine⟨c5,List.mem_filter.mpr ⟨(ih c5).mpr ⟨bX,fun y au=>?_,?_⟩,decide_eq_true ?_⟩,by rw[ai]⟩
    ·have:=et y au;have:=af y (List.mem_append_left _ au);exact⟨gV (.A (.k 1) .p (.L (.k 1) .p)) rfl this.1,cu (.ak .q (.n (.b .p)) (.B .p .q (.L .p (.n .p)))) rfl [_] [_,_] ai (by assumption)⟩
    ·rw[List.length_append]at aH;simp at aH;exact aq (.a (.b .p) .q (.l .p .q)) rfl aH
    ·rw[List.length_append]at aH;simp at aH;exact aq (.a (.b .p) .q (.t .p .q)) rfl aH
   ·left
    refine⟨ae,fun x ai=>?_,aH⟩;have:=af x ai;have:x≠((m+1:Nat):Int):=fun e=>hm (e▸ai)
    lia
theorem E5(n:Nat):∀m,(ig m n).Nodup
 |0=>by show([[]]:List (List Int)).Nodup;simp
 |m+1=>by
  rw[xw];unfold uS;rw[List.nodup_append];refine⟨E5 n m,?_,fun a aJ b av e=>?_⟩
  ·rw[List.nodup_iff_pairwise_ne,List.pairwise_map];refine List.Pairwise.imp (fun{a b} h e=>h ?_) (List.Pairwise.sublist List.filter_sublist (E5 n m));exact List.append_cancel_right e
  ·refine aj ?_ (List.mem_map.mp av);intro c5;refine ar ?_;rintro j5 rfl;subst e;have:=((AM n m _).mp aJ).2.1 ((m+1:Nat):Int) (by simp);exact aI (.A (.n (.b .p)) (.n .p) .f) rfl this.2
theorem K9:∀{ys zs:List (List Int)},∀Y:ys.Perm zs,∀Y:ys.Pairwise (fun x y=>gr y x=false),∀Y:zs.Pairwise (fun x y=>gr y x=false),ys=zs
 |[],zs,p,_,_=>(List.nil_perm.mp p).symm
 |y::ys,[],p,_,_=>by have:=p.length_eq;simp at this
 |y::ys,z::zs,p,ae,af=>by
  have r8:=List.pairwise_cons.mp ae;have La:=List.pairwise_cons.mp af
  have e:y=z:=by
   rcases List.mem_cons.mp (p.mem_iff.mp (List.mem_cons_self ..))with q|q
   ·exact q
   ·rcases List.mem_cons.mp (p.mem_iff.mpr (List.mem_cons_self (a:=z) (l:=zs)))with aE|aE
    ·exact aE.symm
    ·exact zR _ _ (La.1 _ q) (r8.1 _ aE)
  subst e;rw[K9 (List.perm_cons _ |>.mp p) r8.2 La.2]
end Mine
end
section
namespace Mine
theorem Cut.mono{g:List Node}{a b:List Int}(h:Sub a b){i:Nat}(aG:Cut g a i):Cut g b i:=by
 induction aG with
 |here q=>exact .here (h _ q)
 |zero=>exact .zero
 |iN e _ _ pW qV=>exact .iN e pW qV
theorem UA{g:List Node}(b6:gQ g){i:Nat}(h:Cut g [] i):i=0:=by
 induction h with
 |here q=>cases q
 |zero=>rfl
 |iN e _ _ pW qV=>have:=b6.iN _ _ _ e;exact Nat.le_antisymm ((aq (.i 2 (.e .p .z) (.a (.k 2) .q (.b .q (.m 2 (.b .p)) .f))) rfl pW this.2.2.1 (Nat.lt_mul_div_succ _ (by decide)):False).elim) (aI (.l .z .p) rfl)
structure Lb(g:List Node)(i:Nat)(c:List Int):Prop where
 inc:dK c
 cut:Cut g c i
 ge:∀x∈c,1≤x∧x≤i
theorem E6{g:List Node}{n most:Nat}{cs:List (List (List Int))}(b6:gQ g)(dR:nJ g n most cs)(k:Nat):∀(i:Nat)(c:List (List Int)),∀Y:i<k,∀Y:cs[i]?=some c,∀r∈c,Lb g i r:=by
 induction k with
 |zero=>exact fun Y Y h=>absurd h (Nat.not_lt_zero _)
 |succ k ih=>
  intro i c aK aG r aC;rcases dR i c aG with⟨rfl,rfl⟩|⟨ae,af,rfl⟩|⟨ae,pl,pr,L,R,ys,e,eQ,fe,hs,rfl⟩
  ·rw[List.mem_singleton.mp aC];exact⟨.nil,.zero,fun Y h=>nomatch h⟩
  ·rw[List.mem_singleton.mp aC];exact⟨List.pairwise_singleton ..,.here (List.mem_singleton.mpr rfl),fun x ai=>by rw[List.mem_singleton.mp ai];exact⟨aI (.a .o .p (.L (.k 1) (.n .p))) rfl ae,aI (.L (.n .p) (.n .p)) rfl⟩⟩
  ·have aN:=b6.iN _ _ _ e;rcases List.mem_append.mp aC with aC|aC
   ·have aH:=Et (List.mem_of_mem_take aC);obtain⟨a,aJ,b,av,rfl,aD⟩:=xf.mp (hs.1.mem_iff.mp aH);have ga:=ih (pl / 2) L (by exact aA (.b .r (.b .q) (.b .p .r (.t .p .q))) rfl aK aN.1) eQ a aJ;have Lc:=ih (pr / 2) R (by exact aA (.b .r (.b .q) (.b .p .r (.t .p .q))) rfl aK aN.2.1) fe b av;refine⟨uO _ _,.iN e (ga.cut.mono fun x ai=>uN.mpr (.inl ai)) (Lc.cut.mono fun x ai=>uN.mpr (.inr ai)),fun x ai=>?_⟩;rcases uN.mp ai with ai|ai
    ·have:=ga.ge x ai;exact⟨gV (.A (.k 1) .p (.L (.k 1) .p)) rfl this.1,cu (.b .q .p (.A .p (.n .q) (.L .p (.n .p)))) rfl [_,(_ / (2:Nat))] [_] aN.1 this.2⟩
    ·have:=Lc.ge x ai;exact⟨gV (.A (.k 1) .p (.L (.k 1) .p)) rfl this.1,cu (.b .q .p (.A .p (.n .q) (.L .p (.n .p)))) rfl [_,(_ / (2:Nat))] [_] aN.2.1 this.2⟩
   ·rw[List.mem_singleton.mp aC];exact⟨List.pairwise_singleton ..,.here (List.mem_singleton.mpr rfl),fun x ai=>by rw[List.mem_singleton.mp ai];exact⟨aI (.a .o .p (.L (.k 1) (.n .p))) rfl ae,aI (.L (.n .p) (.n .p)) rfl⟩⟩
structure AN(g:List Node)(n i:Nat)(aB:List (List Int)):Prop where
 good:∀r∈aB,Lb g i r
 lt:∀r∈aB,∀x∈r,x<(i:Int)
 len:∀r∈aB,r.length≤n
 ne:∀r∈aB,r≠[]
 u0:aB.Pairwise uZ
theorem E7{g:List Node}{n most:Nat}{cs:List (List (List Int))}(b6:gQ g)(dR:nJ g n most cs){i:Nat}{c:List (List Int)}(ae:1≤i)(aG:cs[i]?=some c):
 ∃aB,c=aB++[[(i:Int)]]∧AN g n i aB∧aB.length≤most∧(∀Y:g[i]?=some none,aB=[]):=by
 rcases dR i c aG with⟨rfl,rfl⟩|⟨ae,af,rfl⟩|⟨ae,pl,pr,L,R,ys,e,eQ,fe,hs,rfl⟩
 ·exact Bu ae
 ·exact⟨[],rfl,⟨by simp,by simp,by simp,by simp,.nil⟩,Nat.zero_le _,fun Y=>rfl⟩
 ·have aN:=b6.iN _ _ _ e;have good:=E6 b6 dR (i+1) i _ (by exact aI (.t .p (.b .p)) rfl) aG;have mem:∀r∈(gD ys).take most,∃a∈L,∃b∈R,r=i7 a b∧r.length≤n:=fun r aC=>xf.mp (hs.1.mem_iff.mp (Et (List.mem_of_mem_take aC)));refine⟨(gD ys).take most,rfl,⟨fun r aC=>good r (List.mem_append_left _ aC),fun r aC x ai=>?_,fun r aC=>?_,fun r aC AO=>?_,?_⟩,List.length_take_le ..,fun q=>by rw[e]at q;cases q⟩
  ·obtain⟨a,aJ,b,av,rfl,_⟩:=mem r aC;rcases uN.mp ai with ai|ai
   ·have:=(E6 b6 dR (pl / 2+1) (pl / 2) L (by exact aI (.t .p (.b .p)) rfl) eQ a aJ).ge x ai;exact cu (.b .q .p (.A .p (.n .q) (.T .p (.n .p)))) rfl [_,(_ / (2:Nat))] [_] aN.1 this.2
   ·have:=(E6 b6 dR (pr / 2+1) (pr / 2) R (by exact aI (.t .p (.b .p)) rfl) fe b av).ge x ai;exact cu (.b .q .p (.A .p (.n .q) (.T .p (.n .p)))) rfl [_,(_ / (2:Nat))] [_] aN.2.1 this.2
  ·obtain⟨a,aJ,b,av,_,aD⟩:=mem r aC;exact aD
  ·have:=(good r (List.mem_append_left _ aC)).cut;rw[AO]at this;have:=UA b6 this;exact aI (.a .o .p (.c .p .z .f)) rfl (by assumption) this
  ·exact List.Pairwise.sublist (List.take_sublist _ _) (Uy hs fun r aC=>by
    obtain⟨a,_,b,_,rfl,_⟩:=xf.mp aC;exact uO _ _)
theorem UB{g:List Node}{n most:Nat}{cs:List (List (List Int))}(b6:gQ g)(dR:nJ g n most cs)(b9:cs.length=g.length)
 (hm:∀i c,∀Y:cs[i]?=some c,∀ys L R:List (List Int),∀Y:i<g.length,∀Y:jj oM (gE L R n) ys,∀Y:c=nI i ys most,(gD ys).length≤most)
 (k:Nat):∀(i:Nat)(c:List (List Int))(d:List Int),∀Y:i<k,∀Y:cs[i]?=some c,∀Y:Cut g d i,∀Y:d.length≤n,∀Y:dK d,∃r∈c,Sub r d:=by
 induction k with
 |zero=>exact fun Y Y Y h=>absurd h (Nat.not_lt_zero _)
 |succ k ih=>
  intro i c d aK aG hd aD hi;have fc:i<g.length:=b9▸(List.getElem?_eq_some_iff.mp aG).1;rcases dR i c aG with⟨rfl,rfl⟩|⟨ae,af,rfl⟩|⟨ae,pl,pr,L,R,ys,e,eQ,fe,hs,wt⟩
  ·exact⟨[],List.mem_singleton.mpr rfl,fun Y h=>nomatch h⟩
  ·by_cases ez:(i:Int)∈d
   ·exact⟨[(i:Int)],List.mem_singleton.mpr rfl,fun x ai=>by rw[List.mem_singleton.mp ai];exact ez⟩
   ·refine bZ ?_ (hd.inv ez (by exact vy ae));intro l r;refine ar ?_;intro e _;rw[af]at e;cases e
  ·have aN:=b6.iN _ _ _ e;by_cases ez:(i:Int)∈d
   ·exact⟨[(i:Int)],by rw[wt];exact List.mem_append_right _ (List.mem_singleton.mpr rfl),fun x ai=>by rw[List.mem_singleton.mp ai];exact ez⟩
   ·refine bZ ?_ (hd.inv ez (by exact vy ae));intro ia c5;refine aY ?_;intro cA E2 E3;rw[e]at cA;cases cA;refine aj ?_ (ih (pl / 2) L d (by exact aA (.b .r (.b .q) (.b .p .r (.t .p .q))) rfl aK aN.1) eQ E2 aD hi);intro a;refine ar ?_;intro aJ bu;refine aj ?_ (ih (pr / 2) R d (by exact aA (.b .r (.b .q) (.b .p .r (.t .p .q))) rfl aK aN.2.1) fe E3 aD hi);intro b;refine ar ?_;intro av de
    have E8:Sub (i7 a b) d:=fun x ai=>by
     rcases uN.mp ai with ai|ai
     ·exact bu x ai
     ·exact de x ai
    have UC:(i7 a b).length≤d.length:=by
     rcases Nat.lt_or_ge d.length (i7 a b).length with q|q
     ·have aH:=E4 (uO a b).nodup E8 (by exact aq (.b .p .q (.l .p .q)) rfl q);have bX:=sQ (uO a b) hi fun z=>⟨E8 z,aH z⟩;rw[bX];exact Nat.le_refl _
     ·exact q
    have E9:i7 a b∈ys:=hs.1.mem_iff.mpr (xf.mpr ⟨a,aJ,b,av,rfl,by exact aA (.a .r .q (.a .p .r (.l .p .q))) rfl aD UC⟩);refine aj ?_ (Uz E9);intro r;refine ar ?_;intro aC UD;refine⟨r,?_,fun x ai=>E8 x (UD x ai)⟩;rw[wt];unfold nI;rw[List.take_of_length_le (hm i c aG ys L R fc hs wt)];exact List.mem_append_left _ aC
theorem u1{α:Type}[DecidableEq α]:∀{xs ys:List α},∀Y:xs.Nodup,∀Y:(∀x∈xs,x∈ys),xs.length≤ys.length
 |[],_,_,_=>Nat.zero_le _
 |x::xs,ys,h,hs=>by
  have h':=List.nodup_cons.mp h;have ai:=hs x (List.mem_cons_self ..);have:=u1 (ys:=ys.erase x) h'.2 fun y au=>(List.mem_erase_of_ne (show y≠x from fun e=>h'.1 (by rw[←e];exact au))).mpr (hs y (List.mem_cons_of_mem _ au));rw[List.length_erase_of_mem ai]at this;have:0<ys.length:=List.length_pos_of_mem ai;simp;exact aA (.a .p .r (.c (.b .r) .q (.l (.b .p) .q))) rfl (by assumption) (Nat.sub_add_cancel (aI (.b .z .p (.l .o .p)) rfl this))
end Mine
end
section
set_option maxHeartbeats 1000000
namespace Mine
theorem Ld:∀m,∀Y:m<7,∀n,∀Y:n<4,(ig m n).length≤42:=by decide+kernel
theorem Sub.trans{a b c:List Int}(h:Sub a b)(af:Sub b c):Sub a c:=fun x ai=>af x (h x ai)
theorem UE{g:List Node}{n i:Nat}{aB:List (List Int)}(fW:AN g n i aB)(az:n≤3)(ae:1≤i)(kE:i≤7):aB.length≤42:=by
 refine Nat.le_trans (u1 (K7 fW.u0) (ys:=ig (i-1) n) fun r aC=>?_) (Ld (i-1) (by exact(Nat.le_total (1:Nat) _).elim (fun ay=>aq (.a .q (.k 7) (.c (.b .p) .q (.t .p (.k 7)))) rfl kE (Nat.sub_add_cancel ay)) (fun aE=>aq (.i 6 (.l .q .o) (.i 6 (.l .p .q) (.t .p (.k 7)))) rfl aE (Nat.sub_le _ (1:Nat)))) n (by exact fz az rfl));refine(AM n (i-1) r).mpr ⟨(fW.good r aC).inc,fun x ai=>⟨((fW.good r aC).ge x ai).1,?_⟩,fW.len r aC⟩;have:=fW.lt r aC x ai;exact cu (.B .p (.n .q) (.a .q (.b .p) (.L .p (.n .p)))) rfl [(_-(1:Nat)),_] [_] this (cj _ (1:Nat))
open Classical in
noncomputable def dz(g:List Node)(last n:Nat):List (List Int):=(ig (last-1) n).filter fun r=>decide (Cut g r last)
open Classical in
noncomputable def nO(good:List (List Int)):List (List Int):=good.filter fun r=>decide (¬∃o∈good,o≠r∧Sub o r)
open Classical in
theorem complete{g:List Node}{n:Nat}{cs:List (List (List Int))}(b6:gQ g)(dR:nJ g n 60 cs)(b9:cs.length=g.length)(az:n≤3){last:Nat}(aD:g.length=last+1)(kE:last≤7)(ae:1≤last){aB:List (List Int)}
 (aG:cs[last]?=some (aB++[[(last:Int)]]))(fW:AN g n last aB):aB.Perm (nO (dz g last n)):=by
 have cover:∀d,∀Y:Cut g d last,∀Y:d.length≤n,∀Y:dK d,∀Y:(last:Int)∉d,∃r∈aB,Sub r d:=fun d hd p8 AP w6=>by
  refine aj ?_ (UB (n:=n) b6 dR b9 (fun i c AQ ys L R hi hs e=>by
   by_cases aV:i=0
   ·subst aV;rcases dR 0 c AQ with⟨_,rfl⟩|⟨h,_⟩|⟨h,_⟩
    ·have:=congrArg List.length e;unfold nI at this;rw[List.length_append,List.length_take]at this;simp only[List.length_cons,List.length_nil]at this;exact(Nat.le_total (60:Nat) _).elim (fun ay=>(aI (.i (-1) (.e (.b .z) (.a .p (.b .z))) (.i (-1) (.e .p (.k 60)) (.F 59))) rfl this (Nat.min_eq_left ay):False).elim) (fun aE=>aI (.a .p (.k 60) (.l .p (.k 60))) rfl aE)
    ·exact(ik (.a .o .z .f) rfl h:False).elim
    ·exact(ik (.a .o .z .f) rfl h:False).elim
   ·refine aj ?_ (E7 b6 dR (by exact(Nat.lt_or_gt_of_ne aV).elim (fun ay=>aI (.b .p .z (.l .o .p)) rfl ay) (fun aE=>aI (.b .z .p (.l .o .p)) rfl aE)) AQ);intro r6;refine cH ?_;intro cA UG _ _;have bq:=UE UG az (by exact(Nat.lt_or_gt_of_ne aV).elim (fun ay=>aI (.b .p .z (.l .o .p)) rfl ay) (fun aE=>aI (.b .z .p (.l .o .p)) rfl aE)) (by exact aA (.c .q (.b .r) (.a .r (.k 7) (.b .p .q (.l .p (.k 7))))) rfl aD kE hi);have:=congrArg List.length (e.symm.trans cA);unfold nI at this;rw[List.length_append,List.length_append,List.length_take]at this;simp only[List.length_cons,List.length_nil]at this;exact(Nat.le_total (60:Nat) _).elim (fun ay=>(aq (.a .p (.k 42) (.c (.a .q (.b .z)) (.a .p (.b .z)) (.i (-1) (.e .q (.k 60)) (.F 17)))) rfl bq this (Nat.min_eq_left ay):False).elim) (fun aE=>aI (.a .p (.k 60) (.l .p (.k 60))) rfl aE)) (last+1) last _ d (by exact aI (.t .p (.b .p)) rfl) aG hd p8 AP);intro r;refine ar ?_;intro aC hs
  rcases List.mem_append.mp aC with h|h
  ·exact⟨r,h,hs⟩
  ·rw[List.mem_singleton.mp h]at hs;exact absurd (hs _ (by simp)) w6
 have p9:∀r,r∈dz g last n↔(dK r∧(∀x∈r,1≤x∧x≤((last-1:Nat):Int))∧r.length≤n)∧Cut g r last:=fun r=>by
  unfold dz;rw[List.mem_filter,AM,decide_eq_true_eq]
 have Le:∀r∈aB,r∈dz g last n:=fun r aC=>by
  refine(p9 r).mpr ⟨⟨(fW.good r aC).inc,fun x ai=>⟨((fW.good r aC).ge x ai).1,?_⟩,fW.len r aC⟩,(fW.good r aC).cut⟩;have:=fW.lt r aC x ai;exact cu (.B .p (.n .q) (.a .q (.b .p) (.L .p (.n .p)))) rfl [(_-(1:Nat)),_] [_] this (cj _ (1:Nat))
 have Lf:∀r∈dz g last n,∃d∈aB,Sub d r:=fun r aC=>by
  refine ar ?_ ((p9 r).mp aC);refine aY ?_;intro a1 a2 cW;intro dI;refine cover r dI cW a1 fun h=>?_;have:=(a2 _ h).2;exact aq (.A (.n .p) (.n .q) (.c (.b .q) .p .f)) rfl this (Nat.sub_add_cancel (aI (.a .o .p (.l .o .p)) rfl ae))
 have UH:∀a b:List Int,∀Y:dK a,∀Y:dK b,∀Y:Sub a b,∀Y:Sub b a,a=b:=fun a b aJ av ae af=>sQ aJ av fun z=>⟨ae z,af z⟩
 have u0:∀a∈aB,∀b∈aB,∀Y:Sub a b,a=b:=fun a aJ b av h=>by
  obtain⟨i,hi,rfl⟩:=List.getElem_of_mem aJ;obtain⟨j,aO,rfl⟩:=List.getElem_of_mem av;have aP:=List.pairwise_iff_getElem.mp fW.u0;rcases Nat.lt_trichotomy i j with q|q|q
  ·exact absurd h (aP i j hi aO q).1
  ·subst q;rfl
  ·exact absurd h (aP j i aO hi q).2
 have mem:∀r,r∈aB↔r∈nO (dz g last n):=fun r=>by
  unfold nO;rw[List.mem_filter,decide_eq_true_eq];constructor
  ·intro aC;refine⟨Le r aC,?_⟩;refine aj ?_;intro o;refine aY ?_;intro bx cP hs;refine aj ?_ (Lf o bx);intro d;refine ar ?_;intro hd u2;have:=u0 d hd r aC (u2.trans hs);subst this;exact cP (UH _ _ ((p9 o).mp bx).1.1 (fW.good _ aC).inc hs u2)
  ·refine ar ?_;intro aC mQ;refine aj ?_ (Lf r aC);intro d;refine ar ?_;intro hd u2;by_cases e:d=r
   ·rw[←e];exact hd
   ·exact absurd ⟨d,Le d hd,e,u2⟩ mQ
 have UI:(nO (dz g last n)).Nodup:=by
  unfold nO dz;exact((E5 n (last-1)).sublist List.filter_sublist).sublist List.filter_sublist
 exact(List.perm_ext_iff_of_nodup (K7 fW.u0) UI).mpr mem
end Mine
end
section
set_option maxHeartbeats 2000000
namespace Mine
variable{prog:Program}{w:World}{B:Heap}{ak:dB}{k:Nat}
theorem UJ{aF i d:Nat}{st:St}{fs:List (Str×ah)}{attr:Str}{v:ah}{Q:∀Y:St,Prop} (ae:st[i]?=some (.inst aF d)) (af:st[d]?=some (.fields fs)) (aD:fs.length≤1000) (bb:Q (st.set d (.fields ((attr,v)::fs)))):Co aF attr (.ref i) v Q st:=by
 exact fS (sf ae af) ⟨aD,bb⟩
noncomputable abbrev Fa(aF:Addr)(xs:List ah)(Q:∀Y:ah,∀Y:St,Prop) (st:St):Prop:=∃i d:Nat,xs=[.ref i]∧st[i]?=some (.inst aF d)∧st[d]?=some (.fields [])∧
 ∀ao nn bH bJ,∀Y:gf aF ao (.ref i) [none] nn bH bJ,∀Y:Agree [d] st ao,∀Y:st.length≤nn,∀Y:st.length≤bH,∀Y:st.length≤bJ,Q .none ao
theorem Fb{a aF:Nat}{bS:∀Y:Str,Option Value} {of:Obj} {fd:FuncData} (F:Meth B bS 0 a of fd) (G:ic B) (X:jw B aF bS) (ee:bS "nodes"=none) (dN:typeLookup (.type "object") "nodes"=pure none) (uV:bS "inputs"=none) (uW:typeLookup (.type "object") "inputs"=pure none)
 (Fc:bS "outputs"=none) (Fd:typeLookup (.type "object") "outputs"=pure none) (sU:bS "table"=none) (sV:typeLookup (.type "object") "table"=pure none):
 b8 prog w B (k+1) (.ref a) (Fa aF):=by
 refine@Meth.iB prog w B k _ _ _ _ _ _ _ 1 1 F (by decide+kernel) G.er (by decide+kernel) (by decide+kernel) (aZ (yY X ee dN (jb (aQ lP bg)) (aw (i:=0) (by kernel_rfl))) (aZ (yY X uV uW (jb bg) (aw (i:=0) (by kernel_rfl))) (aZ (yY X Fc Fd (jb bg) (aw (i:=0) (by kernel_rfl))) (aZ (yY X sU sV Ul (aw (i:=0) (by kernel_rfl))) bM)))) ?_;intro _ Q st;refine bZ ?_;intro i d;refine cH ?_;rintro rfl hi hd q;have xD:i≠d:=fun e=>by rw[e,hd]at hi;cases hi
 have p8:d<st.length:=(List.getElem?_eq_some_iff.mp hd).1;refine⟨rfl,?_⟩
 have step:∀{s:St}{fs:List (Str×ah)}{attr:Str}{o:bB}{Q:∀Y:St,Prop},∀Y:Agree [d] st s,∀Y:s[d]?=some (.fields fs),∀Y:fs.length≤10,∀Y:st.length≤s.length,
  ∀Y:(∀s',∀Y:Agree [d] s s',∀Y:s'[d]?=some (.fields ((attr,.ref s.length)::fs)),∀Y:s'[s.length]?=some o,∀Y:s.length<s'.length,Q s'),Co aF attr (.ref i) (.ref s.length) Q (s++[o]):=by
  intro s fs attr o Q aJ u2 kj oS a7;have fV:s[i]?=some (.inst aF d):=aJ i _ (by simp[xD]) hi;have UK:d<s.length:=by exact aA (.b .p .r (.a .r .q (.t .p .q))) rfl p8 oS
  refine UJ (dS fV _) (dS u2 _) (by exact eZ kj rfl) (a7 _ ((Agree.app _ s _).trans (Agree.set (by simp) _)) ?_ ?_ (by simp))
  ·exact List.getElem?_set_self (by rw[List.length_append];exact bA (.b .p .s (.a .s .q (.t .p (.a .q .r)))) rfl p8 oS)
  ·rw[List.getElem?_set_ne (by exact Br UK)];exact jy _ _
 walk_at "V"
 refine a8 ?_
 walk_at "V"
 refine⟨by decide,?_⟩
 walk_at "V"
 refine step (Agree.refl _ _) hd (by decide) (Nat.le_refl _) fun s1 a1 jI eB cO=>?_
 walk_at "V"
 refine a8 ?_
 walk_at "V"
 refine⟨by decide,?_⟩
 walk_at "V"
 refine step a1 jI (by simp) (by exact aq (.b .p .q (.l .p .q)) rfl cO) fun s2 a2 gJ iR cQ=>?_
 walk_at "V"
 refine a8 ?_
 walk_at "V"
 refine⟨by decide,?_⟩
 walk_at "V"
 refine step (a1.trans a2) gJ (by simp) (by exact aA (.b .p .r (.b .r .q (.l .p .q))) rfl cO cQ) fun fF cW iL p5 nB=>?_
 walk_at "V"
 refine a8 ?_
 walk_at "V"
 refine step ((a1.trans a2).trans cW) iL (by simp) (by exact bA (.b .p .r (.b .r .s (.b .s .q (.l .p .q)))) rfl cO cQ nB) fun kR dI UL EX AR=>?_
 walk_at "V"
 have off:∀{n:Nat},∀Y:st.length≤n,n∉[d]:=fun{n} h hm=>by
  have:=List.mem_singleton.mp hm;exact aA (.b .p .q (.a .q .r (.c .r .p .f))) rfl p8 h this
 have UM:=dI _ _ (off (by exact aI (.l .p .p) rfl)) (cW _ _ (off (by exact aI (.l .p .p) rfl)) (a2 _ _ (off (Nat.le_refl _)) eB));have at2:=dI _ _ (off (by exact aq (.b .p .q (.l .p .q)) rfl cO)) (cW _ _ (off (by exact aq (.b .p .q (.l .p .q)) rfl cO)) iR);have UN:=(((a1.trans a2).trans cW).trans dI) i _ (by simp[xD]) hi;refine q kR st.length s1.length fF.length ⟨(cD d s2.length (sf UN UL)),UM,⟨[],at2,by simp⟩,⟨[],EX,by simp,fun Y Y h=>by cases h⟩,by exact Br cO,⟨rfl,by simp,fun i l r e=>?_⟩⟩ (((a1.trans a2).trans cW).trans dI) (Nat.le_refl _) (by exact aq (.b .p .q (.l .p .q)) rfl cO) (by exact bA (.b .p .r (.b .r .s (.b .s .q (.l .p .q)))) rfl cO cQ nB)
 match i,e with
 |0,e=>cases e
 |i+1,e=>simp at e
structure ef(aF:Addr)(st s:St)(h c:Nat)(v:ah)(cV nn bH bJ:Nat)(aB:List Nat)(g:List Node):Prop where
 aig:gf aF s v g nn bH bJ
 hand:mq s h c
 known:s[cV]?=some (.list (aB.map fun j:Nat=>.int j))
 lits:∀x∈aB,Lit g x
 ne:aB≠[]
 agree:Agree [h] st s
 xE:aB.length≤30
 g1:st.length≤nn∧st.length≤bH∧st.length≤bJ∧st.length≤cV
 u3:cV≠nn∧cV≠bH
 aG:h<st.length∧c<st.length
theorem mq.agree{s s':St}{h c:Nat}{ch:List Nat}(x:mq s h c)(a:Agree ch s s')(ae:h∉ch)(af:c∉ch):mq s' h c:=by
 refine dF ?_ x;clear x;intro cells p b r;refine cH ?_;intro aR aW cz rest;exact(dX cells p b r ⟨a _ _ ae aR,aW,a _ _ af cz,rest⟩)
theorem mq.list{s:St}{h c:Nat}(x:mq s h c):∃xs,s[h]?=some (.list xs):=let ⟨_,_,_,_,e,_⟩:=x;⟨_,e⟩
theorem ef.le{aF:Addr}{st s:St}{h c:Nat}{v:ah}{cV nn bH bJ:Nat}{aB:List Nat}{g:List Node}(x:ef aF st s h c v cV nn bH bJ aB g):st.length≤s.length:=by
 have:=(List.getElem?_eq_some_iff.mp x.known).1;have:=x.g1;exact aA (.b .r .q (.a .p .r (.l .p .q))) rfl (by assumption) this.2.2.2
theorem ef.turn{aF:Addr}{st s s':St}{h c:Nat}{v:ah}{cV nn bH bJ:Nat}{aB:List Nat}{g:List Node}(x:ef aF st s h c v cV nn bH bJ aB g)(a:Agree [h] s s')(bR:mq s' h c):ef aF st s' h c v cV nn bH bJ aB g:=by
 have aD:=x.aG;have b7:=x.g1;refine⟨x.aig.agree a (fun j aO=>by rw[List.mem_singleton.mp aO];exact x.hand.list) (by simp;exact fun ay=>aA (.b .p .q (.a .q .r (.c .r .p .f))) rfl aD.1 b7.1 ay) (by simp;exact fun ay=>aA (.b .p .q (.a .q .r (.c .r .p .f))) rfl aD.1 b7.2.1 ay),bR,a _ _ (by simp;exact fun ay=>aA (.b .p .q (.a .q .r (.c .r .p .f))) rfl aD.1 b7.2.2.2 ay) x.known,x.lits,x.ne,x.agree.trans a,x.xE,x.g1,x.u3,x.aG⟩
theorem ef.app{aF:Addr}{st s:St}{h c:Nat}{v:ah}{cV nn bH bJ:Nat}{aB:List Nat}{g:List Node}(x:ef aF st s h c v cV nn bH bJ aB g)(l:St):ef aF st (s++l) h c v cV nn bH bJ aB g:=
 x.turn (Agree.app _ _ _) (x.hand.agree (Agree.app [] _ _) (by simp) (by simp))
theorem ef.grow{aF:Addr}{st s s':St}{h c:Nat}{v:ah}{cV nn bH bJ:Nat}{aB:List Nat}{g cL:List Node}(x:ef aF st s h c v cV nn bH bJ aB g)(aL:gf aF s' v cL nn bH bJ)(a:Agree [nn,bH,bJ] s s')(aD:g.length≤cL.length):ef aF st s' h c v cV nn bH bJ aB cL:=by
 have ae:=x.aG;have af:=x.g1;have aH:=x.u3
 have bX:cV≠bJ:=fun e=>by
  refine aj ?_ x.aig.table;intro kvs;refine ar ?_;intro bf _;rw[←e,x.known]at bf;cases bf
 refine⟨aL,x.hand.agree a (by simp;exact⟨fun ay=>aA (.b .p .q (.a .q .r (.i (-1) (.e .p .r) .f))) rfl ae.1 af.1 ay,⟨fun aE=>aA (.b .p .q (.a .q .r (.i (-1) (.e .p .r) .f))) rfl ae.1 af.2.1 aE,fun bI=>aA (.b .p .q (.a .q .r (.i (-1) (.e .p .r) .f))) rfl ae.1 af.2.2.1 bI⟩⟩) (by simp;exact⟨fun ay=>aA (.b .p .q (.a .q .r (.i (-1) (.e .p .r) .f))) rfl ae.2 af.1 ay,⟨fun aE=>aA (.b .p .q (.a .q .r (.i (-1) (.e .p .r) .f))) rfl ae.2 af.2.1 aE,fun bI=>aA (.b .p .q (.a .q .r (.i (-1) (.e .p .r) .f))) rfl ae.2 af.2.2.1 bI⟩⟩),a _ _ (by simp;exact⟨fun ay=>(Nat.lt_or_gt_of_ne aH.1).elim (fun aE=>aq (.i (-1) (.e .p .q) (.b .p .q .f)) rfl ay aE) (fun bI=>aq (.c .p .q (.b .q .p .f)) rfl ay bI),⟨fun cM=>(Nat.lt_or_gt_of_ne aH.1).elim (fun h7=>(Nat.lt_or_gt_of_ne aH.2).elim (fun fL=>aq (.i (-1) (.e .p .q) (.b .p .q .f)) rfl cM fL) (fun fM=>aq (.c .p .q (.b .q .p .f)) rfl cM fM)) (fun lu=>(Nat.lt_or_gt_of_ne aH.2).elim (fun mO=>aq (.i (-1) (.e .p .q) (.b .p .q .f)) rfl cM mO) (fun qQ=>aq (.c .p .q (.b .q .p .f)) rfl cM qQ)),fun mP=>(Nat.lt_or_gt_of_ne aH.1).elim (fun qn=>(Nat.lt_or_gt_of_ne aH.2).elim (fun vz=>(Nat.lt_or_gt_of_ne bX).elim (fun wI=>aq (.i (-1) (.e .p .q) (.b .p .q .f)) rfl mP wI) (fun wJ=>aq (.c .p .q (.b .q .p .f)) rfl mP wJ)) (fun wK=>(Nat.lt_or_gt_of_ne bX).elim (fun tm=>aq (.i (-1) (.e .p .q) (.b .p .q .f)) rfl mP tm) (fun vA=>aq (.c .p .q (.b .q .p .f)) rfl mP vA))) (fun yh=>(Nat.lt_or_gt_of_ne aH.2).elim (fun yi=>(Nat.lt_or_gt_of_ne bX).elim (fun C9=>aq (.i (-1) (.e .p .q) (.b .p .q .f)) rfl mP C9) (fun UO=>aq (.c .p .q (.b .q .p .f)) rfl mP UO)) (fun XW=>(Nat.lt_or_gt_of_ne bX).elim (fun UP=>aq (.i (-1) (.e .p .q) (.b .p .q .f)) rfl mP UP) (fun UQ=>aq (.c .p .q (.b .q .p .f)) rfl mP UQ)))⟩⟩) x.known,fun y au=>(x.lits y au).mono aD,x.ne,fun j o aO hs=>?_,x.xE,x.g1,x.u3,x.aG⟩;have jW:j<st.length:=(List.getElem?_eq_some_iff.mp hs).1;exact a j o (by simp;exact⟨fun ay=>aA (.a .p .q (.b .r .p (.i (-1) (.e .r .q) .f))) rfl af.1 jW ay,⟨fun aE=>aA (.a .p .q (.b .r .p (.i (-1) (.e .r .q) .f))) rfl af.2.1 jW aE,fun bI=>aA (.a .p .q (.b .r .p (.i (-1) (.e .r .q) .f))) rfl af.2.2.1 jW bI⟩⟩) (x.agree j o aO hs)
theorem ef.push{aF:Addr}{st s:St}{h c:Nat}{v:ah}{cV nn bH bJ:Nat}{aB:List Nat}{g:List Node}(x:ef aF st s h c v cV nn bH bJ aB g){y:Nat}(au:Lit g y)(aK:aB.length<30):
 ef aF st (s.set cV (.list ((aB++[y]).map fun j:Nat=>.int j))) h c v cV nn bH bJ (aB++[y]) g:=by
 have ae:=x.aG;have af:=x.g1;have aH:=x.u3;have a:Agree [cV] s (s.set cV (.list ((aB++[y]).map fun j:Nat=>.int j))):=Agree.set (by simp) _;refine⟨x.aig.agree a (fun j aO=>by rw[List.mem_singleton.mp aO];exact⟨_,x.known⟩) (by simp;exact fun ay=>(Nat.lt_or_gt_of_ne aH.1).elim (fun aE=>aq (.c .p .q (.b .q .p .f)) rfl ay aE) (fun bI=>aq (.i (-1) (.e .p .q) (.b .p .q .f)) rfl ay bI)) (by simp;exact fun ay=>(Nat.lt_or_gt_of_ne aH.1).elim (fun aE=>(Nat.lt_or_gt_of_ne aH.2).elim (fun bI=>aq (.c .p .q (.b .q .p .f)) rfl ay bI) (fun cM=>aq (.i (-1) (.e .p .q) (.b .p .q .f)) rfl ay cM)) (fun h7=>(Nat.lt_or_gt_of_ne aH.2).elim (fun fL=>aq (.c .p .q (.b .q .p .f)) rfl ay fL) (fun fM=>aq (.i (-1) (.e .p .q) (.b .p .q .f)) rfl ay fM))),x.hand.agree a (by simp;exact fun ay=>aA (.b .p .q (.a .q .r (.i (-1) (.e .p .r) .f))) rfl ae.1 af.2.2.2 ay) (by simp;exact fun ay=>aA (.b .p .q (.a .q .r (.i (-1) (.e .p .r) .f))) rfl ae.2 af.2.2.2 ay),List.getElem?_set_self (List.getElem?_eq_some_iff.mp x.known).1,fun z aT=>?_,by simp,fun j o aO hs=>?_,by simp;exact qk aK rfl,x.g1,x.u3,x.aG⟩
 ·rcases List.mem_append.mp aT with aT|aT
  ·exact x.lits z aT
  ·rw[List.mem_singleton.mp aT];exact au
 ·have jW:j<st.length:=(List.getElem?_eq_some_iff.mp hs).1;exact a j o (by simp;exact fun ay=>aA (.a .p .q (.b .r .p (.i (-1) (.e .r .q) .f))) rfl af.2.2.2 jW ay) (x.agree j o aO hs)
theorem ef.put{aF:Addr}{st s:St}{h c:Nat}{v:ah}{cV nn bH bJ:Nat}{aB:List Nat}{g:List Node}(x:ef aF st s h c v cV nn bH bJ aB g){y:Nat}(au:Lit g y)(aK:aB.length<30){Q:∀Y:ah,∀Y:St,Prop}
 (bb:∀s',∀Y:ef aF st s' h c v cV nn bH bJ (aB++[y]) g,Q .none s'):pF (.ref cV) (.int y) Q s:=by
 refine append_at x.known (by rw[List.length_map];have:=x.xE;exact qk aK rfl) ?_;have e:(aB.map fun j:Nat=>ah.int j)++[ah.int (y:Nat)]=(aB++[y]).map fun j:Nat=>.int j:=by simp
 rw[e];exact bb _ (x.push au aK)
theorem ef.pick{aF:Addr}{st s:St}{h c:Nat}{v:ah}{cV nn bH bJ:Nat}{aB:List Nat}{g:List Node}(x:ef aF st s h c v cV nn bH bJ aB g){m:Nat}(ae:1≤m)(af:m≤1000){Q:∀Y:ah,∀Y:St,Prop}
 (bb:∀(d:Nat) o,∀Y:d<m,∀Y:ef aF st (s.set h o) h c v cV nn bH bJ aB g,Q (.int d) (s.set h o)):uR [.ref h,.int m] Q s:=
 (cE h c m ⟨rfl,x.hand,ae,af,fun d o hd bR=>bb d o hd (x.turn (Agree.set (by simp) _) bR)⟩)
end Mine
end
section
set_option maxHeartbeats 2000000
namespace Mine
variable{prog:Program}{w:World}{B:Heap}{ak:dB}{k:Nat}
theorem Lg{xs:List ah}{d:Nat}(h:d<xs.length):pick xs (-1-(d:Int))=xs[xs.length-1-d]?:=by
 unfold pick;rw[if_neg (by exact aI (.o (.L (.k 0) (.s (.k (-1)) (.n .p)))) rfl),if_pos (by exact MT h)];congr 1;exact MU
theorem UR{a:Nat}{Q:∀Y:ah,∀Y:St,Prop} {st:St} (h:Q (.int ((min a 6:Nat):Int)) st):Hc [.int a,.int 6] Q st:=by
 have em:(if(6:Int)<(a:Int)then 6 else(a:Int))=((min a 6:Nat):Int):=by split<;>lia
 show Q (.int (if(6:Int)<(a:Int)then 6 else(a:Int))) st;rw[em];exact h
theorem sX{m:Nat}{s:St}(h:m≤1000):ju (.range 0 (m:Int)) s=some ((List.range m).map fun i:Nat=>.int (0+(i:Nat))):=
 (sN (by decide) (by decide) (by exact aI (.L (.k (-1000000)) (.n .p)) rfl) (by exact aI (.i 1000 (.l .p (.k 1000)) (.L (.n .p) (.k 1000000))) rfl h)).trans (by rw[Int.sub_zero,Int.toNat_natCast])
theorem ef.Lh{aF:Addr}{st s:St}{h c:Nat}{v:ah}{cV nn bH bJ:Nat}{aB:List Nat}{g:List Node}(x:ef aF st s h c v cV nn bH bJ aB g){p:Nat}{xs ys:List ah}(aP:s[p]?=some (.list xs))(ae:st.length≤p)(af:p≠nn∧p≠bH∧p≠cV):ef aF st (s.set p (.list ys)) h c v cV nn bH bJ aB g:=by
 have aR:=x.aG;have a:Agree [p] s (s.set p (.list ys)):=Agree.set (by simp) _;refine⟨x.aig.agree a (fun j aO=>by rw[List.mem_singleton.mp aO];exact⟨_,aP⟩) (by simp;exact fun ay=>(Nat.lt_or_gt_of_ne af.1).elim (fun aE=>aq (.c .p .q (.b .q .p .f)) rfl ay aE) (fun bI=>aq (.i (-1) (.e .p .q) (.b .p .q .f)) rfl ay bI)) (by simp;exact fun ay=>(Nat.lt_or_gt_of_ne af.1).elim (fun aE=>(Nat.lt_or_gt_of_ne af.2.1).elim (fun bI=>aq (.c .p .q (.b .q .p .f)) rfl ay bI) (fun cM=>aq (.i (-1) (.e .p .q) (.b .p .q .f)) rfl ay cM)) (fun h7=>(Nat.lt_or_gt_of_ne af.2.1).elim (fun fL=>aq (.c .p .q (.b .q .p .f)) rfl ay fL) (fun fM=>aq (.i (-1) (.e .p .q) (.b .p .q .f)) rfl ay fM))),x.hand.agree a (by simp;exact fun ay=>aA (.a .p .q (.b .r .p (.i (-1) (.e .r .q) .f))) rfl ae aR.1 ay) (by simp;exact fun ay=>aA (.a .p .q (.b .r .p (.i (-1) (.e .r .q) .f))) rfl ae aR.2 ay),a _ _ (by simp;exact fun ay=>(Nat.lt_or_gt_of_ne af.1).elim (fun aE=>(Nat.lt_or_gt_of_ne af.2.1).elim (fun bI=>(Nat.lt_or_gt_of_ne af.2.2).elim (fun cM=>aq (.c .p .q (.b .q .p .f)) rfl ay cM) (fun h7=>aq (.i (-1) (.e .p .q) (.b .p .q .f)) rfl ay h7)) (fun fL=>(Nat.lt_or_gt_of_ne af.2.2).elim (fun fM=>aq (.c .p .q (.b .q .p .f)) rfl ay fM) (fun lu=>aq (.i (-1) (.e .p .q) (.b .p .q .f)) rfl ay lu))) (fun mO=>(Nat.lt_or_gt_of_ne af.2.1).elim (fun qQ=>(Nat.lt_or_gt_of_ne af.2.2).elim (fun mP=>aq (.c .p .q (.b .q .p .f)) rfl ay mP) (fun qn=>aq (.i (-1) (.e .p .q) (.b .p .q .f)) rfl ay qn)) (fun vz=>(Nat.lt_or_gt_of_ne af.2.2).elim (fun wI=>aq (.c .p .q (.b .q .p .f)) rfl ay wI) (fun wJ=>aq (.i (-1) (.e .p .q) (.b .p .q .f)) rfl ay wJ)))) x.known,x.lits,x.ne,fun j o aO hs=>?_,x.xE,x.g1,x.u3,x.aG⟩;have jW:j<st.length:=(List.getElem?_eq_some_iff.mp hs).1;exact a j o (by simp;exact fun ay=>aA (.a .p .q (.b .r .p (.i (-1) (.e .r .q) .f))) rfl ae jW ay) (x.agree j o aO hs)
theorem ef.lt{aF:Addr}{st s:St}{h c:Nat}{v:ah}{cV nn bH bJ:Nat}{aB:List Nat}{g:List Node}(x:ef aF st s h c v cV nn bH bJ aB g):nn<s.length∧bH<s.length∧cV<s.length:=by
 refine aj ?_ x.aig.inputs;intro xs;refine ar ?_;intro e _;exact⟨(List.getElem?_eq_some_iff.mp x.aig.nodes).1,(List.getElem?_eq_some_iff.mp e).1,(List.getElem?_eq_some_iff.mp x.known).1⟩
noncomputable abbrev Fe(aF:Addr)(xs:List ah)(Q:∀Y:ah,∀Y:St,Prop) (st:St):Prop:=∃(h c many:Nat),xs=[.ref h,.int many,.int 5]∧mq st h c∧h<st.length∧c<st.length∧many≤3∧
 ∀s' v cV nn bH bJ aB g,∀Y:ef aF st s' h c v cV nn bH bJ aB g,∀Y:g.length≤19,Q (.tup [v,.ref cV]) s'
theorem Ff{a aF AS Fg kO rr ri:Nat}{bS:∀Y:Str,Option Value} {Li Fi nN sW ofM:Obj} {US xB E0 UT:FuncData} {UU xC E1 UW:Option Value} {AU:Nat} (F:dU B 21 a) (G:ic B) (X:jw B aF bS) (Fj:fN B "Aig" (.ref aF))
 (g7:bS "__init__"=some (.ref AS)) (UX:B.get? AS=some Li) (UY:Li.cls=.type "function") (Fb:∀k,b8 prog w B (k+1) (.ref AS) (Fa aF))
 (AV:bS "add_input"=some (.ref Fg)∧B.get? Fg=some Fi∧Fi.cls=.type "function"∧Fi.data=.func US) (Fl:typeLookup (.type "object") "add_input"=pure UU) (EV:∀k,b8 prog w B (k+1) (.ref Fg) (km aF 1 0))
 (jC:bS "land"=some (.ref kO)∧B.get? kO=some nN∧nN.cls=.type "function"∧nN.data=.func xB) (oR:typeLookup (.type "object") "land"=pure xC) (rq:∀k,b8 prog w B (k+1) (.ref kO) (km aF 1 2))
 (p7:bS "lor"=some (.ref rr)∧B.get? rr=some sW∧sW.cls=.type "function"∧sW.data=.func E0) (uY:typeLookup (.type "object") "lor"=pure E1) (xA:∀k,b8 prog w B (k+2) (.ref rr) (km aF 1 2))
 (AW:bS "lmux"=some (.ref ri)∧B.get? ri=some ofM∧ofM.cls=.type "function"∧ofM.data=.func UT) (Fo:typeLookup (.type "object") "lmux"=pure UW) (EZ:∀k,b8 prog w B (k+3) (.ref ri) (km aF 3 3))
 (mV:fN B (bP 19).name (.ref AU)) (mW:Plain B (.ref AU)) (lH:∀k,b8 prog w B (k+1) (.ref AU) uR):
 b8 prog w B (k+4) (.ref a) (Fe aF):=by
 have dM:=G.len;have UZ:=G.min;have ie:=G.range;refine@dU.iB prog w B (k+3) _ _ _ _ 3 8 F (by decide+kernel) G.er (by decide+kernel) (by decide+kernel) (aZ (dg (i:=3) (OX Fj X g7 UX UY (Fb _) (by kernel_rfl) (by decide+kernel)) (by kernel_rfl) (cg (by decide+kernel))) (aZ (dg (i:=4) (jb (aQ bz bg)) (by kernel_rfl) (cg (by decide+kernel))) (aZ (j4 (i:=5) (bL ie (.inr (.inl ⟨_,rfl⟩)) called_range (aQ (aw (i:=1) (by kernel_rfl)) bg) (by kernel_rfl) (by decide+kernel)) (aZ (jt (jv (aw (i:=4) (by kernel_rfl)) (OU (pl:=_) X AV.1 AV.2.1 AV.2.2.1 AV.2.2.2 Fl (EV _) (aw (i:=3) (by kernel_rfl)) (by intro _;with_unfolding_all rfl)))) bM) (by kernel_rfl) (cg (by decide+kernel))) (aZ (j4 (i:=5) (bL ie (.inr (.inl ⟨_,rfl⟩)) called_range (aQ (bL mV mW (lH _) (aQ (aw (i:=0) (by kernel_rfl)) (aQ (cY o9 (aw (i:=2) (by kernel_rfl)) bz) bg)) (by kernel_rfl) (by decide+kernel)) bg) (by kernel_rfl) (by decide+kernel)) (aZ (dg (i:=6) (bL mV mW (lH _) (aQ (aw (i:=0) (by kernel_rfl)) (aQ bz bg)) (by kernel_rfl) (by decide+kernel)) (by kernel_rfl) (cg (by decide+kernel))) (aZ (H5 (wu:=7) (xi:=1) (bL ie (.inr (.inl ⟨_,rfl⟩)) called_range (aQ bz bg) (by kernel_rfl) (by decide+kernel)) om (cY qv (c4 (aw (i:=3) (by kernel_rfl)) (cY rP (vL bz) (bL mV mW (lH _) (aQ (aw (i:=2) (by kernel_rfl)) (aQ (bL UZ (.inl ⟨_,rfl⟩) NH (aQ (bL dM (.inl ⟨_,rfl⟩) fD (aQ (aw (i:=3) (by kernel_rfl)) bg) (by kernel_rfl) (by decide+kernel)) (aQ bz bg)) (by kernel_rfl) (by decide+kernel)) bg)) (by kernel_rfl) (by decide+kernel)))) (bL mV mW (lH _) (aQ (aw (i:=2) (by kernel_rfl)) (aQ bz bg)) (by kernel_rfl) (by decide+kernel))) (by decide+kernel) (by kernel_rfl) (by kernel_rfl) (cg (by decide+kernel)) (by intro env ae af;rcases env with⟨⟨kind,names⟩⟩;cases ae;cases af;kernel_rfl)) (aZ (fQ (c6 jJ (aw (i:=6) (by kernel_rfl)) bz) (aZ (jt (jv (aw (i:=4) (by kernel_rfl)) (sr (pl:=_) X jC.1 jC.2.1 jC.2.2.1 jC.2.2.2 oR (rq _) (aw (i:=3) (by kernel_rfl)) (aQ (c4 (aw (i:=7) (by kernel_rfl)) bz) (aQ (c4 (aw (i:=7) (by kernel_rfl)) bz) bg)) (by intro _;with_unfolding_all rfl)))) bM) (aZ (fQ (c6 jJ (aw (i:=6) (by kernel_rfl)) bz) (aZ (jt (jv (aw (i:=4) (by kernel_rfl)) (sr (pl:=_) X p7.1 p7.2.1 p7.2.2.1 p7.2.2.2 uY (xA _) (aw (i:=3) (by kernel_rfl)) (aQ (c4 (aw (i:=7) (by kernel_rfl)) bz) (aQ (c4 (aw (i:=7) (by kernel_rfl)) bz) bg)) (by intro _;with_unfolding_all rfl)))) bM) (aZ (jt (jv (aw (i:=4) (by kernel_rfl)) (sr (pl:=_) X AW.1 AW.2.1 AW.2.2.1 AW.2.2.2 Fo (EZ _) (aw (i:=3) (by kernel_rfl)) (aQ (c4 (aw (i:=7) (by kernel_rfl)) bz) (aQ (c4 (aw (i:=7) (by kernel_rfl)) bz) (aQ (c4 (aw (i:=7) (by kernel_rfl)) bz) bg))) (by intro _;with_unfolding_all rfl)))) bM)) bM)) bM))) (by kernel_rfl) (cg (by decide+kernel))) (aZ (eF (lR (aQ (aw (i:=3) (by kernel_rfl)) (aQ (aw (i:=4) (by kernel_rfl)) bg)))) bM))))) ?_;intro _ Q st;refine bG ?_;intro h c many;refine dH ?_;rintro rfl u4 bR aG hm q;refine⟨rfl,?_⟩
 walk_at "V"
 refine a8 ?_
 walk_at "V"
 refine(cD (st.length+1) st.length ⟨rfl,by simp,by simp,fun s1 nn bH bJ aL a1 eB iR p5=>⟨rfl,?_⟩⟩)
 walk_at "V"
 have Lj:mq s1 h c:=u4.agree ((Agree.app [st.length] st _).trans a1) (by simp;exact Bv bR) (by simp;exact Bv aG);have Lk:Agree [h] st s1:=fun j o aO hs=>a1 j o (by have:=(List.getElem?_eq_some_iff.mp hs).1;simp;exact Bv this) (dS hs _);have Fp:=(List.getElem?_eq_some_iff.mp aL.nodes).1;have Ll:bH<s1.length:=by refine aj ?_ aL.inputs;intro xs;refine ar ?_;intro e _;exact(List.getElem?_eq_some_iff.mp e).1
 refine a8 ?_
 walk_at "V"
 have xF:ef aF st (s1++[.list [.int 0]]) h c (.ref (st.length+1)) s1.length nn bH bJ [0] [none]:=
  ⟨aL.agree (Agree.app [] _ _) (by simp) (by simp) (by simp),Lj.agree (Agree.app [] _ _) (by simp) (by simp),jy _ _,by simp[Lit],by simp,Lk.trans (Agree.app _ _ _),by simp,by simp at eB iR p5;exact⟨aq (.a (.a .p (.k 2)) .q (.l .p .q)) rfl eB,⟨aq (.a (.a .p (.k 2)) .q (.l .p .q)) rfl iR,⟨aq (.a (.a .p (.k 2)) .q (.l .p .q)) rfl p5,aA (.b .r .q (.a (.a .p (.k 2)) .r (.l .p .q))) rfl Fp eB⟩⟩⟩,by exact⟨fun ay=>aq (.b .p .q (.c .q .p .f)) rfl Fp ay,fun aE=>aq (.b .p .q (.c .q .p .f)) rfl Ll aE⟩,⟨bR,aG⟩⟩
 clear Lj Lk a1 Fp Ll eB iR p5 aL;have aR:s1.length=s1.length:=rfl;generalize aN:ah.ref (st.length+1)=v at xF ⊢;clear aN;generalize s1++[bB.list [.int 0]]=s2 at xF ⊢;generalize s1.length=cV at xF ⊢;clear aR;refine⟨by decide,?_⟩;refine lB (fun l s=>∃z,∃(aB:List Nat)(g:List Node),l=[some (.ref h),some (.int many),some (.int 5),some v,some (.ref cV),z,none,none]∧ef aF st s h c v cV nn bH bJ aB g∧g.length≤4∧aB.length≤4) (fun a6 a7 Y Y=>?_) ?_
 ·refine kh (fun y s=>y=.range 0 (many:Int)∧s2=s) (fun a6 a7=>?_) ?_
  ·walk_at "V"
   exact a7 _ _ ⟨rfl,rfl⟩
  ·intro _ _;refine ar ?_;rintro rfl rfl;refine⟨_,fun n l s=>∃z,∃(aB:List Nat)(g:List Node),l=[some (.ref h),some (.int many),some (.int 5),some v,some (.ref cV),z,none,none]∧ef aF st s h c v cV nn bH bJ aB g∧g.length≤1+n∧aB.length≤1+n∧n≤many,⟨none,[0],[none],rfl,xF,by simp,by simp,by exact aI (.l .z .p) rfl⟩,fun n l s Y=>sX (by exact eZ hm rfl),?_,?_⟩
   ·intro n l s y;refine bG ?_;intro z aB g;refine eY ?_;rintro rfl I b7 aK az;intro au
    have l7:n<many:=by
     have:=(List.getElem?_eq_some_iff.mp au).1;simpa using this
    walk_at "V"
    refine a8 ?_
    walk_at "V"
    refine⟨by rw[cG I.known];rfl,I.aig.ro fun no=>by kernel_rfl,?_⟩;refine(qf v g nn bH bJ [] ⟨rfl,rfl,I.aig,by exact aA (.i 89 (.l .q (.k 3)) (.i 89 (.l .p (.a .o .r)) (.i 89 (.t .r .q) (.G 2 (.l (.b .p) (.k 90)))))) rfl hm b7 l7,fun Y h=>(nomatch h),fun s' cL x mD jM gz kG l9=>?_⟩);have jn:=I.grow mD kG jM;refine jn.put l9 (by exact aA (.i 29 (.l .q (.k 3)) (.i 29 (.l .p (.a .o .r)) (.i 29 (.t .r .q) (.G 2 (.t .p (.k 30)))))) rfl hm aK l7) fun fF mX=>?_;exact⟨rfl,_,_,_,rfl,mX,by exact aA (.a .r (.a .o .q) (.a .p (.b .r) (.l .p (.a .o (.b .q))))) rfl b7 gz,by simp;exact aq (.a .p (.a .o .q) (.l (.b .p) (.a .o (.b .q)))) rfl aK,by exact aq (.b .p .q (.l (.b .p) .q)) rfl l7⟩
   ·intro n l s;refine bG ?_;intro z aB g;refine eY ?_;rintro rfl I b7 aK az;intro hle;exact a7 _ _ (cE _ _ _ ⟨rfl,I,by exact aA (.a .q (.k 3) (.a .p (.a .o .r) (.a .r .q (.l .p (.k 4))))) rfl hm b7 az,by exact aA (.a .q (.k 3) (.a .p (.a .o .r) (.a .r .q (.l .p (.k 4))))) rfl hm aK az⟩)
 ·intro _ fF;refine bG ?_;intro z aB g;refine cH ?_;rintro rfl I b7 aK;clear xF;refine lB (fun l s=>∃z kc lF,∃(aB:List Nat)(g:List Node),l=[some (.ref h),some (.int many),some (.int 5),some v,some (.ref cV),z,kc,lF]∧ef aF st s h c v cV nn bH bJ aB g∧g.length≤19) (fun a6 a7 Y Y=>?_) ?_
  ·refine kh (fun y s=>∃d:Nat,d≤5∧y=.range 0 (d:Int)∧ef aF st s h c v cV nn bH bJ aB g) (fun a6 a7=>?_) ?_
   ·walk_at "V"
    refine I.pick (m:=6) (by decide) (by decide) fun d o hd jn=>?_
    walk_at "V"
    exact a7 _ _ ⟨d,by exact qk hd rfl,rfl,jn⟩
   ·intro _ kR;refine aj ?_;intro d;refine aY ?_;rintro hd rfl Lm;refine⟨_,fun n l s=>∃z kc lF,∃(aB:List Nat)(g:List Node),l=[some (.ref h),some (.int many),some (.int 5),some v,some (.ref cV),z,kc,lF]∧ef aF st s h c v cV nn bH bJ aB g∧g.length≤4+3*n∧aB.length≤4+n∧n≤d,⟨z,none,none,aB,g,rfl,Lm,by exact aI (.a .p (.k 4) (.l .p (.a (.k 4) (.m 3 .z)))) rfl b7,by exact aI (.a .p (.k 4) (.l .p (.a (.k 4) .z))) rfl aK,by exact aI (.l .z .p) rfl⟩,fun n l s Y=>sX (by exact eZ hd rfl),?_,?_⟩
    ·clear I Lm b7 aK;intro n l s y;refine jr ?_;intro z kc lF aB g;refine eY ?_;rintro rfl I b7 aK az;intro au
     have l7:n<d:=by
      have:=(List.getElem?_eq_some_iff.mp au).1;simpa using this
     walk_at "V"
     refine a8 ?_
     walk_at "V"
     refine I.pick (m:=3) (by decide) (by decide) fun kind o eG jn=>?_
     walk_at "V"
     clear I;generalize s.set h o=iC at jn ⊢;refine a8 ?_;refine nG [none,none,some (.ref h),some (.ref cV)] (by kernel_rfl) (fun v s=>v=.range 0 3∧iC=s) (fun a6 a7=>?_) ?_
     ·walk_at "V"
      exact a7 _ _ ⟨rfl,rfl⟩
     ·intro _ _;refine ar ?_;rintro rfl rfl;have k6:=jn.lt;have rt:=jn.le;have fO:iC.length=iC.length:=rfl;refine⟨_,fun i s=>∃dq:List Nat,ef aF st s h c v cV nn bH bJ aB g∧s[iC.length]?=some (.list (dq.map fun j:Nat=>.int j))∧dq.length=i∧i≤3∧∀x∈dq,Lit g x,⟨[],jn.app _,jy _ _,rfl,by exact ik (.l .z (.k 3)) rfl,fun Y h=>(nomatch h)⟩,fun n s Y=>sX (m:=3) (by exact ik (.l (.k 3) (.k 1000)) rfl),?_,?_⟩
      ·intro i s y;refine aj ?_;intro dq;refine eY ?_;intro bQ aP iZ Fq qW;intro au
       have hi:i<3:=by
        have:=(List.getElem?_eq_some_iff.mp au).1;simpa using this
       refine⟨fun b s'=>b=true∧s=s',fun a6 a7=>a7 _ _ ⟨rfl,rfl⟩,?_,fun s' ck=>Bool.noConfusion ck.1⟩;intro _;refine ar ?_;rintro _ rfl;have ff:=bQ.xE;have mL:1≤aB.length:=List.length_pos_iff.mpr bQ.ne
       walk_at "V"
       refine neg_int (jT (cG bQ.known) (by rw[List.length_map];exact aA (.i 999999999 (.l .q (.k 5)) (.i 999999999 (.l .p (.a (.k 4) .r)) (.i 999999999 (.t .r .q) (.G 7 (.t .p (.k 1000000000)))))) rfl hd aK l7) ?_);rw[List.length_map]
       walk_at "V"
       refine UR ?_;refine bQ.pick (by exact(Nat.le_total _ (6:Nat)).elim (fun ay=>aq (.a .o .q (.i (-1) (.e .p .q) (.l .o .p))) rfl mL (Nat.min_eq_left ay)) (fun aE=>aI (.i (-1) (.e .p (.k 6)) (.G 5 (.l .o .p))) rfl (Nat.min_eq_right aE))) (by exact aI (.i 500 (.l .p (.k 6)) (.G 2 (.l .p (.k 1000)))) rfl (Nat.min_le_right _ (6:Nat))) fun jI sY xG ru=>?_;have kS:(s.set h sY)[iC.length]?=some (.list (dq.map fun j:Nat=>.int j)):=by rw[List.getElem?_set_ne (by exact fun ay=>aA (.b .p .q (.a .q .r (.i (-1) (.e .p .r) .f))) rfl bR rt ay)];exact aP
       generalize s.set h sY=oU at ru kS ⊢;clear bQ aP
       walk_at "V"
       have p8:jI<aB.length:=by exact aA (.b .p .r (.a .r .q (.t .p .q))) rfl xG (Nat.min_le_left _ (6:Nat))
       refine item_list (cG ru.known) (by rw[List.length_map];exact aA (.i 999999999 (.l .q (.k 5)) (.i 999999999 (.l .p (.a (.k 4) .r)) (.i 999999999 (.t .r .q) (.G 7 (.t .p (.k 1000000000)))))) rfl hd aK l7) (x:=.int (aB[aB.length-1-jI]'(by exact yg mL):Nat)) ?_ ?_
       ·rw[Lg (by rw[List.length_map];exact p8),List.length_map,List.getElem?_map,List.getElem?_eq_getElem (by exact yg mL)];rfl
       ·have ai:Lit g (aB[aB.length-1-jI]'(by exact yg mL)):=ru.lits _ (List.getElem_mem _)
        generalize aB[aB.length-1-jI]'(by exact yg mL)=x at ai ⊢
        walk_at "V"
        refine ru.pick (m:=2) (by decide) (by decide) fun gJ xH qa nP=>?_;have qb:(oU.set h xH)[iC.length]?=some (.list (dq.map fun j:Nat=>.int j)):=by rw[List.getElem?_set_ne (by exact fun ay=>aA (.b .p .q (.a .q .r (.i (-1) (.e .p .r) .f))) rfl bR rt ay)];exact kS
        generalize oU.set h xH=u5 at nP qb ⊢;clear ru kS
        walk_at "V"
        have Ln:∃lX:Nat,Builtin.bitXor (x:Int) (gJ:Int)=(lX:Int)∧Lit g lX:=by
         rcases(show gJ=0∨gJ=1 by exact MV qa)with rfl|rfl
         ·exact⟨x,xor_zero x,ai⟩
         ·exact⟨flip x,uU x,xy ai⟩
        refine aj ?_ Ln;clear Ln;intro lX;refine ar ?_;intro ex v3;rw[ex];refine append_at qb (by rw[List.length_map];exact aq (.i 500000 (.e .p .q) (.i 500000 (.t .q (.k 3)) (.l .p (.k 1000000)))) rfl iZ hi) ⟨dq++[lX],?_,?_,by simp;exact Bp iZ,by exact aI (.b .p (.k 3) (.l (.b .p) (.k 3))) rfl hi,fun z aT=>?_⟩
        ·exact nP.Lh qb (by exact aq (.a .p .q (.l .p .q)) rfl rt) (by exact⟨fun ay=>aq (.b .p .q (.c .q .p .f)) rfl k6.1 ay,⟨fun aE=>aq (.b .p .q (.c .q .p .f)) rfl k6.2.1 aE,fun bI=>aq (.b .p .q (.c .q .p .f)) rfl k6.2.2 bI⟩⟩)
        ·rw[List.getElem?_set_self (List.getElem?_eq_some_iff.mp qb).1];simp
        ·rcases List.mem_append.mp aT with aT|aT
         ·exact qW z aT
         ·rw[List.mem_singleton.mp aT];exact v3
      ·intro i s;refine aj ?_;intro dq;refine eY ?_;intro bQ aP iZ Fq qW;intro hle
       have hi:dq.length=3:=by
        simp at hle;exact Nat.le_antisymm (aq (.c .p .q (.a .q (.k 3) (.l .p (.k 3)))) rfl iZ Fq) (aq (.i (-1) (.e .p .q) (.a (.k 3) .q (.l (.k 3) .p))) rfl iZ hle)
       match dq,hi with
       |[jY,gq,p2],_=>
        have kP:=qW jY (by simp);have kS:=qW gq (by simp);have qb:=qW p2 (by simp);clear qW Fq iZ
        have it:∀{s:St}{i x:Nat}{Q:∀Y:ah,∀Y:St,Prop},∀Y:s[iC.length]?=some (.list ([jY,gq,p2].map fun j:Nat=>.int j)),∀Y:[jY,gq,p2][i]?=some x,∀Y:Q (.int x) s,nc (.ref iC.length) (.int (i:Nat)) Q s:=fun{s i x Q} ae af aH=>
         item_list (cG ae) (by simp) (x:=.int x) (by rw[gC,List.getElem?_map,af];rfl) aH
        walk_at "V"
        have kr:([jY,gq,p2]:List Nat)[0]?=some jY:=rfl;have aR:([jY,gq,p2]:List Nat)[1]?=some gq:=rfl;have aW:([jY,gq,p2]:List Nat)[2]?=some p2:=rfl
        have bx:∀{cost:Nat}{ls:List Nat}{Fs:∀Y:ah,∀Y:St,Prop},∀Y:cost≤3,∀Y:(∀x∈ls,Lit g x),∀Y:(∀fF aB g,∀Y:ef aF st fF h c v cV nn bH bJ aB g,∀Y:g.length≤4+3*(n+1),∀Y:aB.length≤4+(n+1),Fs .none fF),km aF cost ls.length (v::ls.map fun l:Nat=>.int l) (fun u cX=>pF (.ref cV) u Fs cX) s:=by
         intro cost ls Fs Lo kQ U0;refine(qf v g nn bH bJ ls ⟨rfl,rfl,bQ.aig,by exact bA (.i 261 (.l .r (.k 5)) (.i 87 (.l .p (.a (.k 4) (.m 3 .s))) (.i 261 (.t .s .r) (.i 16 (.l .q (.k 3)) (.G 15 (.l (.a .p .q) (.k 90))))))) rfl hd b7 l7 Lo,kQ,fun s' cL x mD jM gz kG l9=>?_⟩);have nP:=bQ.grow mD kG jM;exact nP.put l9 (by exact aA (.i 29 (.l .q (.k 5)) (.i 29 (.l .p (.a (.k 4) .r)) (.i 29 (.t .r .q) (.G 7 (.t .p (.k 30)))))) rfl hd aK l7) fun fF mY=>U0 fF _ _ mY (by exact bA (.a .r (.a (.k 4) (.m 3 .q)) (.a .s (.k 3) (.a .p (.a .r .s) (.l .p (.a (.k 4) (.m 3 (.b .q))))))) rfl b7 Lo gz) (by rw[List.length_append,List.length_singleton];exact aq (.a .p (.a (.k 4) .q) (.l (.b .p) (.a (.k 4) (.b .q)))) rfl aK)
        walk_at "V"
        refine a8 ?_;refine gB (kind=0) (fun a6 ae af=>?_) (fun aV=>?_) fun aV=>?_
        ·walk_at "V"
         exact kg (fun h=>ae (by have:=of_decide_eq_true h;lia)) fun h=>af (by have:=of_decide_eq_false h;lia)
        ·refine a8 ?_
         walk_at "V"
         refine⟨by rw[cG bQ.known];rfl,bQ.aig.ro fun no=>by kernel_rfl,?_⟩;refine it (i:=0) aP kr ?_
         walk_at "V"
         refine it (i:=1) aP aR ?_;refine bx (cost:=1) (ls:=[jY,gq]) (by exact ik (.l .o (.k 3)) rfl) (by simp[kP,kS]) fun fF aB g mY a1 a2=>⟨rfl,?_⟩;exact(kX _ _ _ _ _ ⟨rfl,mY,a1,a2,by exact aq (.b .p .q (.l (.b .p) .q)) rfl l7⟩)
        ·refine a8 ?_;refine gB (kind=1) (fun a6 ae af=>?_) (fun ae=>?_) fun ae=>?_
         ·walk_at "V"
          exact kg (fun h=>ae (by have:=of_decide_eq_true h;lia)) fun h=>af (by have:=of_decide_eq_false h;lia)
         ·refine a8 ?_
          walk_at "V"
          refine⟨by rw[cG bQ.known];rfl,bQ.aig.ro fun no=>by kernel_rfl,?_⟩;refine it (i:=0) aP kr ?_
          walk_at "V"
          refine it (i:=1) aP aR ?_;refine bx (cost:=1) (ls:=[jY,gq]) (by exact ik (.l .o (.k 3)) rfl) (by simp[kP,kS]) fun fF aB g mY a1 a2=>⟨rfl,?_⟩;exact(kX _ _ _ _ _ ⟨rfl,mY,a1,a2,by exact aq (.b .p .q (.l (.b .p) .q)) rfl l7⟩)
         ·refine a8 ?_
          walk_at "V"
          refine⟨by rw[cG bQ.known];rfl,bQ.aig.ro fun no=>by kernel_rfl,?_⟩;refine it (i:=0) aP kr ?_
          walk_at "V"
          refine it (i:=1) aP aR ?_
          walk_at "V"
          refine it (i:=2) aP aW ?_;refine bx (cost:=3) (ls:=[jY,gq,p2]) (by exact ik (.l (.k 3) (.k 3)) rfl) (by simp[kP,kS,qb]) fun fF aB g mY a1 a2=>⟨rfl,?_⟩;exact(kX _ _ _ _ _ ⟨rfl,mY,a1,a2,by exact aq (.b .p .q (.l (.b .p) .q)) rfl l7⟩)
    ·intro n l s;refine jr ?_;intro z kc lF aB g;refine eY ?_;rintro rfl I b7 aK az;intro hle;exact a7 _ _ (kX _ _ _ _ _ ⟨rfl,I,by exact aA (.i 3 (.l .q (.k 5)) (.a .p (.a (.k 4) (.m 3 .r)) (.i 3 (.l .r .q) (.l .p (.k 19))))) rfl hd b7 az⟩)
  ·intro _ iC;refine jr ?_;intro z kc lF aB g;refine aY ?_;rintro rfl I b7;refine a8 ?_
   walk_at "V"
   exact⟨by decide,q _ _ _ _ _ _ _ _ I b7⟩
end Mine
end
section
set_option maxHeartbeats 2000000
namespace Mine
variable{prog:Program}{w:World}{B:Heap}{ak:dB}{k:Nat}
noncomputable def Ft(a:List Int):PyData:=.tuple (a.map .int)
theorem Lp(a b:List Int):PyData.eqv (Ft a) (Ft b)=decide (a=b):=(KS KT a b).symm▸rfl
theorem Fv(n:Nat)(a:List Int):n5 (n+2) (aS a)=some (Ft a):=by
 show(n4 (n5 (n+1)) (a.map .int)).map PyData.tuple=_;rw[KR (f:=n5 (n+1)) (g:=ah.int) (h:=PyData.int) (fun Y=>rfl) a];rfl
theorem Fw{neg:Bool}{a b:List Int}{Q:∀Y:Bool,∀Y:St,Prop} {st:St} (bb:Q (xor neg (decide (a=b))) st):m8 neg (aS a) (aS b) Q st:=
 rL (Fv 1 a) (Fv 1 b) (by rw[Lp];exact bb)
theorem Lq{neg:Bool}{m n:Nat}{A B:List (List Int)}{Q:∀Y:Bool,∀Y:St,Prop} {st:St} (ae:listAt (.ref m) st=some (A.map aS)) (af:listAt (.ref n) st=some (B.map aS)) (bb:Q (xor neg (decide (A=B))) st):m8 neg (.ref m) (.ref n) Q st:=
 KU (Fv 0) Lp ae af bb
theorem U1(b:Bool)(bs:List Bool):hasB b (bs.map .bool)=some (decide (b∈bs)):=by
 induction bs with
 |nil=>rfl
 |cons j r ih=>
  show(hasB b (r.map .bool)).map ((j==b)||·)=_;rw[ih];refine congrArg some (Bool.eq_iff_iff.mpr ?_);show((j==b)||decide (b∈r))=true↔_;rw[Bool.or_eq_true,beq_iff_eq,decide_eq_true_iff,decide_eq_true_iff,List.mem_cons,eq_comm]
theorem Fx{b:Bool}{n:Nat}{bs:List Bool}{Q:∀Y:Bool,∀Y:St,Prop} {st:St} (h:listAt (.ref n) st=some (bs.map .bool)) (bb:Q (!decide (b∈bs)) st):pj true (.bool b) (.ref n) Q st:=
 fS (Option.bind_eq_some_iff.mpr ⟨_,h,U1 b bs⟩) (by rw[Bool.true_xor];exact bb)
theorem Fy(a b:Int)(Q:∀Y:Bool,∀Y:St,Prop) (st:St):m8 true (.int a) (.int b) Q st=Q (!decide (a=b)) st:=by
 show Q (xor true (a==b)) st=_;have:(a==b)=decide (a=b):=by by_cases h:a=b<;>simp[h]
 rw[this,Bool.true_xor]
theorem comp_map{P:b5}{xi:Nat}{mk:∀Y:Loc,Loc} {fE:b5} {Q:∀Y:ah,∀Y:St,Prop} {loc:Loc} {st:St} (L:Loc) (heq:mk loc=L) {v:ah} {xs:List ah} (f:∀Y:ah,ah) (dj:∀a6:∀Y:ah,∀Y:St,Prop,∀Y:a6 v st,P a6 loc st) (hi:∀g,ju v (st++g)=some xs) (ai:xs.length≤100000)
 (g9:∀y∈xs,∀(a6:∀Y:ah,∀Y:St,Prop) g,∀Y:a6 (f y) (st++g),fE a6 (setV L xi y) (st++g)) (bb:Q (.ref st.length) (st++[.list (xs.map f)])):qJ P xi mk (fun{Q}{_}{st}=>Q true st) fE Q loc st:=by
 refine nG L heq (fun u s=>u=v∧st=s) (fun a6 a7=>dj _ (a7 _ _ ⟨rfl,rfl⟩)) ?_;intro _ _;refine ar ?_;rintro rfl rfl;refine(cD xs (fun n s=>st++[.list ((xs.take n).map f)]=s) ⟨by simp,fun n s h=>by rw[←h];exact hi _,?_,?_⟩)
 ·rintro n s y rfl au;have az:n<xs.length:=(List.getElem?_eq_some_iff.mp au).1;refine⟨fun b s'=>b=true∧st++[.list ((xs.take n).map f)]=s',fun a6 a7=>a7 _ _ ⟨rfl,rfl⟩,?_,fun s' ck=>Bool.noConfusion ck.1⟩;intro _;refine ar ?_;rintro _ rfl;refine g9 y (List.mem_of_getElem? au) _ _ ?_;refine oO (by rw[List.length_map];have:=List.length_take_le n xs;exact aA (.i 1000000 (.l .q (.k 100000)) (.i 1000000 (.t .r .q) (.i 1000000 (.l .p .r) (.G 99998 (.l .p (.k 1000000)))))) rfl ai az this) ?_;show _=_;rw[List.take_add_one,au];simp
 ·rintro n s rfl hle;rw[List.take_of_length_le hle];exact bb
theorem u6{b:Stmt}{P uF:d8}(h:gx prog w B ak k b P)(aP:∀(Q:∀Y:gj,∀Y:Loc,∀Y:St,Prop) loc st,∀Y:uF Q loc st,P Q loc st):gx prog w B ak k b uF:=by
 intro A env s am loc st Q aL R S q;exact h aL R S (aP _ _ _ q)
noncomputable def bodyOf:∀Y:Stmt,List Stmt
 |.For _ _ b _ _=>b
 |.If _ b _ _=>b
 |_=>[]
noncomputable def gu(l:List Stmt)(i:Nat):Stmt:=(l.drop i).headD (.Pass default)
theorem u7{P:e9}{br bK:d8}{Q:∀Y:gj,∀Y:Loc,∀Y:St,Prop} {loc:Loc} {st:St} (bf:∀a6:∀Y:Bool,∀Y:St,Prop,∀Y:(∀g,a6 false (st++g)),P a6 loc st)
 (af:∀g,bK Q loc (st++g)):D8 P br bK Q loc st:=
 bf _ fun g=>by rw[if_neg Bool.false_ne_true];exact af g
structure oV(prog:Program)(w:World)(B:Heap)(i n:Nat)(S:∀Y:List ah,∀Y:(∀Y:ah,∀Y:St,Prop),∀Y:St,Prop):Prop where
 ex:∃a:Nat,fN B (bP i).name (.ref a)∧Plain B (.ref a)∧∀k,b8 prog w B (k+n) (.ref a) S
structure ry(prog:Program)(w:World)(B:Heap)(aF ew:Nat):Prop where
 base:ic B
 cls:∃bS,jw B aF bS∧bS "nodes"=none
 dN:typeLookup (.type "object") "nodes"=pure none
 pick:oV prog w B 19 1 uR
 graph:oV prog w B 21 4 (Fe aF)
 sets:oV prog w B 12 5 (Eu aF ew)
 Lr:oV prog w B 23 1 (KV aF)
 U2:oV prog w B 13 1 (Ay aF)
 inputs:oV prog w B 22 1 KQ
 of:oV prog w B 20 1 KP
 tab:oV prog w B 15 3 (ED aF)
 U3:oV prog w B 24 1 ET
 merge:oV prog w B 8 1 Em
noncomputable abbrev bN:=∀Y:Nat,Option ah
noncomputable def upd(Z:bN)(k:Nat)(x:Option ah):bN:=fun j=>bif j==k then x else Z j
noncomputable def lo(S Z:bN):bN:=fun j=>bif Nat.blt j 9 then S j else Z j
noncomputable def fr(Z:bN):Loc:=[Z 0,Z 1,Z 2,Z 3,Z 4,Z 5,Z 6,Z 7,Z 8,Z 9,Z 10,Z 11,Z 12,Z 13,Z 14,Z 15,Z 16,Z 17,Z 18,Z 19,Z 20,Z 21,Z 22,Z 23,Z 24,Z 25]
theorem upd_eq(Z:bN)(k:Nat)(x:Option ah)(j:Nat):upd Z k x j=bif j==k then x else Z j:=rfl
theorem fg0(Z:bN):getV (fr Z) 0=Z 0:=rfl
theorem fg1(Z:bN):getV (fr Z) 1=Z 1:=rfl
theorem fg2(Z:bN):getV (fr Z) 2=Z 2:=rfl
theorem fg3(Z:bN):getV (fr Z) 3=Z 3:=rfl
theorem fg4(Z:bN):getV (fr Z) 4=Z 4:=rfl
theorem fg5(Z:bN):getV (fr Z) 5=Z 5:=rfl
theorem fg6(Z:bN):getV (fr Z) 6=Z 6:=rfl
theorem fg7(Z:bN):getV (fr Z) 7=Z 7:=rfl
theorem fg8(Z:bN):getV (fr Z) 8=Z 8:=rfl
theorem fg9(Z:bN):getV (fr Z) 9=Z 9:=rfl
theorem fg10(Z:bN):getV (fr Z) 10=Z 10:=rfl
theorem fg11(Z:bN):getV (fr Z) 11=Z 11:=rfl
theorem fg12(Z:bN):getV (fr Z) 12=Z 12:=rfl
theorem fg13(Z:bN):getV (fr Z) 13=Z 13:=rfl
theorem fg14(Z:bN):getV (fr Z) 14=Z 14:=rfl
theorem fg15(Z:bN):getV (fr Z) 15=Z 15:=rfl
theorem fg16(Z:bN):getV (fr Z) 16=Z 16:=rfl
theorem fg17(Z:bN):getV (fr Z) 17=Z 17:=rfl
theorem fg18(Z:bN):getV (fr Z) 18=Z 18:=rfl
theorem fg19(Z:bN):getV (fr Z) 19=Z 19:=rfl
theorem fg20(Z:bN):getV (fr Z) 20=Z 20:=rfl
theorem fg21(Z:bN):getV (fr Z) 21=Z 21:=rfl
theorem fg22(Z:bN):getV (fr Z) 22=Z 22:=rfl
theorem fg23(Z:bN):getV (fr Z) 23=Z 23:=rfl
theorem fg24(Z:bN):getV (fr Z) 24=Z 24:=rfl
theorem fg25(Z:bN):getV (fr Z) 25=Z 25:=rfl
theorem fs0(Z:bN)(x:ah):setV (fr Z) 0 x=fr (upd Z 0 (some x)):=rfl
theorem fs1(Z:bN)(x:ah):setV (fr Z) 1 x=fr (upd Z 1 (some x)):=rfl
theorem fs2(Z:bN)(x:ah):setV (fr Z) 2 x=fr (upd Z 2 (some x)):=rfl
theorem fs3(Z:bN)(x:ah):setV (fr Z) 3 x=fr (upd Z 3 (some x)):=rfl
theorem fs4(Z:bN)(x:ah):setV (fr Z) 4 x=fr (upd Z 4 (some x)):=rfl
theorem fs5(Z:bN)(x:ah):setV (fr Z) 5 x=fr (upd Z 5 (some x)):=rfl
theorem fs6(Z:bN)(x:ah):setV (fr Z) 6 x=fr (upd Z 6 (some x)):=rfl
theorem fs7(Z:bN)(x:ah):setV (fr Z) 7 x=fr (upd Z 7 (some x)):=rfl
theorem fs8(Z:bN)(x:ah):setV (fr Z) 8 x=fr (upd Z 8 (some x)):=rfl
theorem fs9(Z:bN)(x:ah):setV (fr Z) 9 x=fr (upd Z 9 (some x)):=rfl
theorem fs10(Z:bN)(x:ah):setV (fr Z) 10 x=fr (upd Z 10 (some x)):=rfl
theorem fs11(Z:bN)(x:ah):setV (fr Z) 11 x=fr (upd Z 11 (some x)):=rfl
theorem fs12(Z:bN)(x:ah):setV (fr Z) 12 x=fr (upd Z 12 (some x)):=rfl
theorem fs13(Z:bN)(x:ah):setV (fr Z) 13 x=fr (upd Z 13 (some x)):=rfl
theorem fs14(Z:bN)(x:ah):setV (fr Z) 14 x=fr (upd Z 14 (some x)):=rfl
theorem fs15(Z:bN)(x:ah):setV (fr Z) 15 x=fr (upd Z 15 (some x)):=rfl
theorem fs16(Z:bN)(x:ah):setV (fr Z) 16 x=fr (upd Z 16 (some x)):=rfl
theorem fs17(Z:bN)(x:ah):setV (fr Z) 17 x=fr (upd Z 17 (some x)):=rfl
theorem fs18(Z:bN)(x:ah):setV (fr Z) 18 x=fr (upd Z 18 (some x)):=rfl
theorem fs19(Z:bN)(x:ah):setV (fr Z) 19 x=fr (upd Z 19 (some x)):=rfl
theorem fs20(Z:bN)(x:ah):setV (fr Z) 20 x=fr (upd Z 20 (some x)):=rfl
theorem fs21(Z:bN)(x:ah):setV (fr Z) 21 x=fr (upd Z 21 (some x)):=rfl
theorem fs22(Z:bN)(x:ah):setV (fr Z) 22 x=fr (upd Z 22 (some x)):=rfl
theorem fs23(Z:bN)(x:ah):setV (fr Z) 23 x=fr (upd Z 23 (some x)):=rfl
theorem fs24(Z:bN)(x:ah):setV (fr Z) 24 x=fr (upd Z 24 (some x)):=rfl
theorem fs25(Z:bN)(x:ah):setV (fr Z) 25 x=fr (upd Z 25 (some x)):=rfl
theorem lo0(S Z:bN):lo S Z 0=S 0:=rfl
theorem lo1(S Z:bN):lo S Z 1=S 1:=rfl
theorem lo2(S Z:bN):lo S Z 2=S 2:=rfl
theorem lo3(S Z:bN):lo S Z 3=S 3:=rfl
theorem lo4(S Z:bN):lo S Z 4=S 4:=rfl
theorem lo5(S Z:bN):lo S Z 5=S 5:=rfl
theorem lo6(S Z:bN):lo S Z 6=S 6:=rfl
theorem lo7(S Z:bN):lo S Z 7=S 7:=rfl
theorem lo8(S Z:bN):lo S Z 8=S 8:=rfl
theorem lo9(S Z:bN):lo S Z 9=Z 9:=rfl
theorem lo10(S Z:bN):lo S Z 10=Z 10:=rfl
theorem lo11(S Z:bN):lo S Z 11=Z 11:=rfl
theorem lo12(S Z:bN):lo S Z 12=Z 12:=rfl
theorem lo13(S Z:bN):lo S Z 13=Z 13:=rfl
theorem lo14(S Z:bN):lo S Z 14=Z 14:=rfl
theorem lo15(S Z:bN):lo S Z 15=Z 15:=rfl
theorem lo16(S Z:bN):lo S Z 16=Z 16:=rfl
theorem lo17(S Z:bN):lo S Z 17=Z 17:=rfl
theorem lo18(S Z:bN):lo S Z 18=Z 18:=rfl
theorem lo19(S Z:bN):lo S Z 19=Z 19:=rfl
theorem lo20(S Z:bN):lo S Z 20=Z 20:=rfl
theorem lo21(S Z:bN):lo S Z 21=Z 21:=rfl
theorem lo22(S Z:bN):lo S Z 22=Z 22:=rfl
theorem lo23(S Z:bN):lo S Z 23=Z 23:=rfl
theorem lo24(S Z:bN):lo S Z 24=Z 24:=rfl
theorem lo25(S Z:bN):lo S Z 25=Z 25:=rfl
theorem Ls(Z:bN):fr Z=(List.range 26).map Z:=rfl
theorem AX{A B:bN}:fr A=fr B↔∀k∈List.range 26,A k=B k:=by rw[Ls,Ls,List.map_inj_left]
theorem u9{A B:bN}{k:Nat}{x:Option ah}(h:fr A=fr B):fr (upd A k x)=fr (upd B k x):=AX.mpr fun j aO=>by
 have:=AX.mp h j aO;simp only[upd,this]
theorem Lu{A B Z:bN}(h:fr A=fr B):fr (lo A Z)=fr (lo B Z):=AX.mpr fun j aO=>by
 have:=AX.mp h j aO;simp only[lo,this]
theorem AY{A F:bN}{k:Nat}(h:fr A=fr (upd F k (A k))):fr A=fr (upd F k (A k)):=h
theorem Lv{A F:bN}{k j:Nat}(h:fr A=fr (upd (upd F k (A k)) j (A j))):fr A=fr (upd (upd F k (A k)) j (A j)):=h
theorem Lw{A F:bN}(h:fr A=fr (lo F A)):fr A=fr (lo F A):=h
structure xJ(aF:Nat)(st:St)(v:ah)(g:List Node)(n most:Nat)(cs:List (List (List Int)))(cS:Nat):Prop where
 nodes:ki aF v st=some (g.map fy)
 valid:gQ g
 Fz:nJ g n most cs
 len:cs.length=g.length
 tab:TableAt st cS cs
 eB:1≤n
 p5:n≤3
 m:most≤60
 gl:g.length≤19
theorem U4{aF ew:Nat}(L:ry prog w B aF ew):gx prog w B (g5 (bP 25).scope.names) (k+5) (gu (bodyOf (gu (bodyOf (gu (bP 25).body 8)) 2)) 3) fun Q loc st=>
 ∃(r t:Nat)(c last:List Int)(aB:List (List Int))(S:bN),loc=fr S∧fr S=fr (upd (upd (upd S 9 (some (aS c))) 11 (some (.ref r))) 12 (some (.int t)))∧
  st[r]?=some (.list ((aB++[last]).map aS))∧aB[t]?=some c∧aB.length≤60∧(∀r∈aB,r.length≤100)∧aB.Pairwise uZ∧
  ∀vc s',Q .next (fr (upd S 14 vc)) (st++s'):=by
 have hs:=L.base.hs;have dM:=L.base.len;have ie:=L.base.range;refine@u6 prog w B (g5 (bP 25).scope.names) (k+5) (gu (bodyOf (gu (bodyOf (gu (bP 25).body 8)) 2)) 3) _ _ (j4 (i:=14) (bL ie (.inr (.inl ⟨_,rfl⟩)) called_range (aQ (cY rP (bL dM (.inl ⟨_,rfl⟩) fD (aQ (aw (i:=11) (by kernel_rfl)) bg) (by kernel_rfl) (by decide+kernel)) bz) bg) (by kernel_rfl) (by decide+kernel)) (aZ (fQ (my (c6 m9 (aw (i:=14) (by kernel_rfl)) (aw (i:=12) (by kernel_rfl))) (my (c6 (tH hs) k4 (mJ (xi:=1) (c4 (aw (i:=11) (by kernel_rfl)) (aw (i:=14) (by kernel_rfl))) om (vI (vM hs) (aw (i:=1) (by kernel_rfl)) (aw (i:=2) (by kernel_rfl))) (by decide+kernel) (by kernel_rfl))) vK)) (aZ (eF k4) bM) bM) bM) (by kernel_rfl) (cg (by decide+kernel))) ?_;intro Q _ st;refine o0 ?_;intro r t c last aB S;refine Bh ?_;rintro rfl dc aC aG ff gO aL q;rw[dc];have uP:=cG aC;have ib:∀g,listAt (.ref r) (st++g)=some ((aB++[last]).map aS):=fun g=>jz uP g;refine kh (fun y s=>y=.range 0 (aB.length:Int)∧st=s) (fun a6 a7=>?_) ?_
 ·walk_at "W"
  refine jT uP (by simp;exact aI (.i 499999999 (.l .p (.k 60)) (.G 29 (.t (.b .p) (.k 1000000000)))) rfl ff) ?_;have e:((((aB++[last]).map aS).length:Nat):Int)-1=(aB.length:Int):=by simp
  walk_at "W"
  rw[e];exact a7 _ _ ⟨rfl,rfl⟩
 ·intro _ _;refine ar ?_;rintro rfl rfl;refine⟨_,fun i l s=>∃vc s',l=fr (upd (upd (upd (upd S 9 (some (aS c))) 11 (some (.ref r))) 12 (some (.int t))) 14 vc)∧st++s'=s∧i≤aB.length,⟨_,[],AY rfl,by simp,by exact aI (.l .z .p) rfl⟩,fun n l s Y=>sX (by exact eZ ff rfl),?_,?_⟩
  ·intro i l s y;refine bZ ?_;intro vc s';refine aY ?_;rintro rfl rfl hi;intro au
   have lI:i<aB.length:=by
    have:=(List.getElem?_eq_some_iff.mp au).1;simpa using this
   rw[List.getElem?_map,List.getElem?_range lI]at au;cases au
   walk_at "W"
   refine a8 (u7 (fun a6 a7=>?_) fun cL=>?_)
   ·walk_at "W"
    rw[Fy];by_cases cF:(0+(i:Int))=(t:Int)
    ·rw[decide_eq_true cF,Bool.not_true,if_neg Bool.false_ne_true];have:=a7 []
     rwa [List.append_nil]at this
    ·rw[decide_eq_false cF,Bool.not_false,if_pos rfl];have cP:i≠t:=by exact fun ay=>(Int.lt_or_gt_of_ne cF).elim (fun aE=>aq (.i (-1) (.e .p .q) (.B (.a (.k 0) (.n .p)) (.n .q) .f)) rfl ay aE) (fun bI=>aq (.c .p .q (.B (.n .q) (.a (.k 0) (.n .p)) .f)) rfl ay bI)
     have hd:aB[i]?=some aB[i]:=List.getElem?_eq_getElem lI;generalize aB[i]=d at hd;have p8:=gO d (List.mem_of_getElem? hd);refine comp_map [none,none,some (aS c)] (by kernel_rfl) (v:=aS d) (xs:=d.map .int) (fun y=>.bool (match y with|.int x=>decide (x∈c)|_=>false)) (fun a6 jo=>?_) (fun g=>rfl) (by rw[List.length_map];exact eZ p8 rfl) ?_ ?_
     ·walk_at "W"
      refine item_list (ib s') (by simp;exact aI (.i 499999999 (.l .p (.k 60)) (.G 29 (.t (.b .p) (.k 1000000000)))) rfl ff) (x:=aS d) ?_ jo;rw[Int.zero_add,gC,List.getElem?_map,List.getElem?_append_left lI,hd];rfl
     ·intro y au a6 g jo;refine aj ?_ (List.mem_map.mp au);intro x;refine ar ?_;rintro ai rfl
      walk_at "W"
      exact Aq jo
     ·have e:(d.map ah.int).map (fun y=>ah.bool (match y with|.int x=>decide (x∈c)|_=>false))=(d.map fun x=>decide (x∈c)).map .bool:=by simp[List.map_map,Function.comp_def]
      rw[e];refine Fx (iM ..) ?_
      have gk:¬Sub d c:=by
       have mD:=List.pairwise_iff_getElem.mp aL;have Lx:=(List.getElem?_eq_some_iff.mp aG);have AP:=(List.getElem?_eq_some_iff.mp hd);refine aj ?_ Lx;clear Lx;intro Ly n3;refine aj ?_ AP;clear AP;intro xG qa;rcases Nat.lt_or_gt_of_ne cP with h|h
       ·have:=(mD i t xG Ly h).1
        rwa [qa,n3]at this
       ·have:=(mD t i Ly xG h).2
        rwa [qa,n3]at this
      have:decide (false∈d.map fun x=>decide (x∈c))=true:=by
       rw[decide_eq_true_eq];rw[List.mem_map];apply Classical.byContradiction;intro h;exact gk fun x ai=>Classical.byContradiction fun rm=>h ⟨x,ai,decide_eq_false rm⟩
      rw[this]
      walk_at "W"
      have:=a7 [.list ((d.map fun x=>decide (x∈c)).map .bool)];simpa using this
   ·exact(cD _ (s'++cL) ⟨AY rfl,by simp,by exact aq (.b .p .q (.l (.b .p) .q)) rfl lI⟩)
  ·intro i l s;refine bZ ?_;intro vc s';refine aY ?_;rintro rfl rfl hi;intro hle;rw[←u9 dc];exact q _ _
end Mine
end
section
set_option maxHeartbeats 2000000
namespace Mine
variable{prog:Program}{w:World}{B:Heap}{ak:dB}{k:Nat}
noncomputable def vals(m:Nat)(F:∀Y:Nat,Int):List ah:=(List.range m).map fun i=>.int (F i)
theorem nQ(m:Nat)(F:∀Y:Nat,Int):(vals m F).length=m:=by simp[vals]
theorem sZ{m i:Nat}{F:∀Y:Nat,Int} (h:i<m):(vals m F)[i]?=some (.int (F i)):=by
 unfold vals;rw[List.getElem?_map,List.getElem?_range h];rfl
theorem Lz{m i:Nat}{F:∀Y:Nat,Int} (x:Int):(vals m F).set i (.int x)=vals m fun j=>if j=i then x else F j:=by
 apply List.ext_getElem?;intro j;by_cases aO:j<m
 ·by_cases e:i=j
  ·subst e;rw[List.getElem?_set_self (by rw[nQ];exact aO),sZ aO,if_pos rfl]
  ·rw[List.getElem?_set_ne e,sZ aO,sZ aO,if_neg (fun q=>e q.symm)]
 ·rw[List.getElem?_eq_none (by rw[List.length_set,nQ];exact aq (.n (.t .q .p) (.l .p .q)) rfl aO),List.getElem?_eq_none (by rw[nQ];exact aq (.n (.t .q .p) (.l .p .q)) rfl aO)]
theorem U5{aF ew:Nat}(L:ry prog w B aF ew):gx prog w B (g5 (bP 25).scope.names) (k+5) (gu (bodyOf (gu (bodyOf (gu (bP 25).body 8)) 2)) 7) fun Q loc st=>
 ∃(p q m:Nat)(c:List Int)(dW F:∀Y:Nat,Int) (S:bN),loc=fr S∧fr S=fr (upd (upd (upd S 9 (some (aS c))) 16 (some (.ref q))) 18 (some (.ref p)))∧
  st[p]?=some (.list (vals m F))∧st[q]?=some (.list (vals c.length dW))∧p≠q∧c.Nodup∧(∀x∈c,1≤x∧x<m)∧m≤100∧c.length≤100∧
  ∀vd ek,∀Y:ek 0=F 0,∀Y:(∀s x,∀Y:c[s]?=some x,ek x.toNat=dW s),Q .next (fr (upd S 19 vd)) (st.set p (.list (vals m ek))):=by
 have hs:=L.base.hs;have dM:=L.base.len;have ie:=L.base.range;refine@u6 prog w B (g5 (bP 25).scope.names) (k+5) (gu (bodyOf (gu (bodyOf (gu (bP 25).body 8)) 2)) 7) _ _ (j4 (i:=19) (bL ie (.inr (.inl ⟨_,rfl⟩)) called_range (aQ (bL dM (.inl ⟨_,rfl⟩) fD (aQ (aw (i:=9) (by kernel_rfl)) bg) (by kernel_rfl) (by decide+kernel)) bg) (by kernel_rfl) (by decide+kernel)) (aZ (n8 (c4 (aw (i:=16) (by kernel_rfl)) (aw (i:=19) (by kernel_rfl))) (aw (i:=18) (by kernel_rfl)) (c4 (aw (i:=9) (by kernel_rfl)) (aw (i:=19) (by kernel_rfl)))) bM) (by kernel_rfl) (cg (by decide+kernel))) ?_;rintro Q _ st ⟨p,q,m,c,dW,F,S,rfl,dc,aP,bb,U6,U7,jc,hm,b9,post⟩;rw[dc];have fO:=(List.getElem?_eq_some_iff.mp aP).1;refine kh (fun y s=>y=.range 0 (c.length:Int)∧st=s) (fun a6 a7=>?_) ?_
 ·walk_at "W"
  refine mS (by exact fz b9 rfl) ?_
  walk_at "W"
  exact a7 _ _ ⟨rfl,rfl⟩
 ·intro _ _;refine ar ?_;rintro rfl rfl;refine⟨_,fun i l s=>∃vd ek,l=fr (upd (upd (upd (upd S 9 (some (aS c))) 16 (some (.ref q))) 18 (some (.ref p))) 19 vd)∧s=st.set p (.list (vals m ek))∧ek 0=F 0∧(∀s x,∀Y:s<i,∀Y:c[s]?=some x,ek x.toNat=dW s)∧i≤c.length,⟨_,F,AY rfl,?_,rfl,fun s x h=>absurd h (Nat.not_lt_zero _),by exact aI (.l .z .p) rfl⟩,fun n l s Y=>sX (by exact eZ b9 rfl),?_,?_⟩
  ·apply List.ext_getElem?;intro j;by_cases e:p=j
   ·subst e;rw[List.getElem?_set_self fO,aP]
   ·rw[List.getElem?_set_ne e]
  ·intro i l s y;refine bZ ?_;intro vd ek;refine eY ?_;rintro rfl rfl aV bD hi;intro au
   have lI:i<c.length:=by
    have:=(List.getElem?_eq_some_iff.mp au).1;simpa using this
   rw[List.getElem?_map,List.getElem?_range lI]at au;cases au
   walk_at "W"
   have iJ:(st.set p (.list (vals m ek)))[p]?=some (.list (vals m ek)):=List.getElem?_set_self fO;have jo:(st.set p (.list (vals m ek)))[q]?=some (.list (vals c.length dW)):=by rw[List.getElem?_set_ne U6];exact bb
   have xK:c[i]?=some c[i]:=List.getElem?_eq_getElem lI;generalize c[i]=x at xK;have xM:=jc x (List.mem_of_getElem? xK);refine a8 ?_
   walk_at "W"
   refine item_list (cG jo) (by rw[nQ];exact fz b9 rfl) (x:=.int (dW i)) (by rw[Int.zero_add,gC,sZ lI]) ?_
   walk_at "W"
   have cF:∀{iV:∀Y:ah,∀Y:St,Prop} {s:St},∀Y:iV (.int x) s,nc (aS c) (.int (0+(i:Int))) iV s:=fun{iV s} h=>by
    refine pZ (by rw[List.length_map];exact fz b9 rfl) (x:=.int x) ?_ h;rw[Int.zero_add,gC,List.getElem?_map,xK];rfl
   refine cF ?_;have ex:x=((x.toNat:Nat):Int):=by exact Int.le_antisymm (cu (.A .p (.n .p) (.L .p (.n .p))) rfl [(Int.toNat _)] [_] (Int.self_le_toNat _)) (cu (.ak (.n .p) .p (.L (.n .p) .p)) rfl [(Int.toNat _)] [_] (Int.toNat_of_nonneg (gV (.A (.k 1) .p (.L (.k 0) .p)) rfl xM.1)))
   rw[ex];refine uL iJ (by rw[nQ];exact cu (.B .p (.n .q) (.ak (.n .p) .p (.t .p .q))) rfl [(Int.toNat _),_] [_] xM.2 (Int.toNat_of_nonneg (gV (.A (.k 1) .p (.L (.k 0) .p)) rfl xM.1))) (by rw[nQ];exact eZ hm rfl) ?_;rw[Lz,List.set_set];refine(cD _ _ ⟨AY rfl,rfl,?_,fun s y eg au=>?_,by exact aq (.b .p .q (.l (.b .p) .q)) rfl lI⟩)
   ·show(if 0=x.toNat then dW i else ek 0)=F 0;rw[if_neg (by exact fun ay=>cu (.A (.k 1) .p (.i (-1) (.e .z .p) (.A .p (.n .p) .f))) rfl [(Int.toNat _)] [_] xM.1 ay (Int.self_le_toNat _))];exact aV
   ·show(if y.toNat=x.toNat then dW i else ek y.toNat)=dW s;have XX:=jc y (List.mem_of_getElem? au);by_cases e:s=i
    ·subst e;have:y=x:=Option.some.inj (au.symm.trans xK);subst this;rw[if_pos rfl]
    ·rw[if_neg (fun cA=>?_)]
     ·exact bD s y (by exact yf eg e) au
     ·have U8:y=x:=by exact MW xM cA
      subst U8;refine aj ?_ (List.getElem?_eq_some_iff.mp au);intro ae af;refine aj ?_ (List.getElem?_eq_some_iff.mp xK);intro aH bX;exact List.pairwise_iff_getElem.mp U7 s i ae aH (by exact yf eg e) (af.trans bX.symm)
  ·intro i l s;refine bZ ?_;intro vd ek;refine eY ?_;rintro rfl rfl aV bD hi;intro hle;have:i=c.length:=by simp at hle;exact Bt hi hle
   subst this;rw[←u9 dc];exact post _ _ aV fun s x h=>bD s x (List.getElem?_eq_some_iff.mp h).1 h
theorem U9{aF ew:Nat}(L:ry prog w B aF ew):gx prog w B (g5 (bP 25).scope.names) (k+5) (gu (bodyOf (gu (bodyOf (gu (bP 25).body 8)) 2)) 8) fun Q loc st=>
 ∃(p b node:Nat)(v:ah)(g:List Node)(c:List Int)(full:Int)(ys:List Nat)(E F:∀Y:Nat,Int) (S:bN),loc=fr S∧fr S=fr (upd (upd (upd (upd S 4 (some v)) 13 (some (.ref b))) 17 (some (.int full))) 18 (some (.ref p)))∧
  (∀o,ki aF v (st.set p (.list o))=some (g.map fy))∧gQ g∧node<g.length∧Cut g c node∧b≠p∧st[b]?=some (.list (ys.map fun j:Nat=>.int j))∧st[p]?=some (.list (vals g.length F))∧ys.Pairwise (·<·)∧(∀j,j∈ys↔Reach g c node j)∧
  (∀i,0≤E i∧E i≤full)∧(∀t,∀Y:0≤t,∀Y:t≤full,Builtin.bitXor t full=full-t)∧
  (∀i l r:Nat,∀Y:(i:Int)∉c,∀Y:i≠0,∀Y:g[i]?=some (some (l,r)),E i=Builtin.bitAnd (jU l (E (l / 2)) full) (jU r (E (r / 2)) full))∧
  (∀i,∀Y:i<g.length,∀Y:(i=0∨(i:Int)∈c),F i=E i)∧
  ∀s4 s5 ek,∀Y:(∀i,∀Y:i<g.length,∀Y:(i=0∨(i:Int)∈c∨i∈ys),ek i=E i),Q .next (fr (upd (upd S 15 s4) 20 s5)) (st.set p (.list (vals g.length ek))):=by
 refine aj ?_ L.cls;intro bS;refine ar ?_;intro X ee;have dN:=L.dN;refine aj ?_ L.of.ex;intro rr;refine aY ?_;intro LA LB AI;refine@u6 prog w B (g5 (bP 25).scope.names) (k+5) (gu (bodyOf (gu (bodyOf (gu (bP 25).body 8)) 2)) 8) _ _ (j4 (i:=15) (aw (i:=13) (by kernel_rfl)) (aZ (dg (i:=20) (c4 (iK X ee dN (aw (i:=4) (by kernel_rfl))) (aw (i:=15) (by kernel_rfl))) (by kernel_rfl) (cg (by decide+kernel))) (aZ (n8 (cY BD (bL LA LB (AI _) (aQ (aw (i:=18) (by kernel_rfl)) (aQ (c4 (aw (i:=20) (by kernel_rfl)) bz) (aQ (aw (i:=17) (by kernel_rfl)) bg))) (by kernel_rfl) (by decide+kernel)) (bL LA LB (AI _) (aQ (aw (i:=18) (by kernel_rfl)) (aQ (c4 (aw (i:=20) (by kernel_rfl)) bz) (aQ (aw (i:=17) (by kernel_rfl)) bg))) (by kernel_rfl) (by decide+kernel))) (aw (i:=18) (by kernel_rfl)) (aw (i:=15) (by kernel_rfl))) bM)) (by kernel_rfl) (cg (by decide+kernel))) ?_;rintro Q _ st ⟨p,b,node,v,g,c,full,ys,E,F,S,rfl,dc,az,b6,mZ,dR,Va,av,aP,eu,ez,g9,Vb,hand,bD,post⟩;rw[dc];have fO:=(List.getElem?_eq_some_iff.mp aP).1;refine kh (fun y s=>y=.ref b∧st=s) (fun a6 a7=>?_) ?_
 ·walk_at "W"
  exact a7 _ _ ⟨rfl,rfl⟩
 ·intro _ _;refine ar ?_;rintro rfl rfl;refine⟨ys.map fun j:Nat=>.int j,fun i l s=>∃s4 s5 ek,l=fr (upd (upd (upd (upd (upd (upd S 4 (some v)) 13 (some (.ref b))) 17 (some (.int full))) 18 (some (.ref p))) 15 s4) 20 s5)∧s=st.set p (.list (vals g.length ek))∧(∀j,∀Y:j<g.length,∀Y:(j=0∨(j:Int)∈c∨j∈ys.take i),ek j=E j),⟨_,_,F,Lv rfl,?_,fun j aO h=>bD j aO (by simpa using h)⟩,?_,?_,?_⟩
  ·apply List.ext_getElem?;intro j;by_cases e:p=j
   ·subst e;rw[List.getElem?_set_self fO,aP]
   ·rw[List.getElem?_set_ne e]
  ·intro i l s;refine bG ?_;intro s4 s5 ek;refine aY ?_;rintro rfl rfl ve;exact cG (by rw[List.getElem?_set_ne (Ne.symm Va)];exact av)
  ·intro i l s y;refine bG ?_;intro s4 s5 ek;refine aY ?_;rintro rfl rfl ve;intro au
   have hi:i<ys.length:=by
    have:=(List.getElem?_eq_some_iff.mp au).1;simpa using this
   have FA:ys[i]?=some ys[i]:=List.getElem?_eq_getElem hi;rw[List.getElem?_map,FA]at au;cases au
   have f9:ys.take (i+1)=ys.take i++[ys[i]]:=by rw[List.take_add_one,FA];rfl
   have bC:∀j∈ys,∀Y:j<ys[i],j∈ys.take i:=fun j aO Vc=>by
    obtain⟨a,aJ,rfl⟩:=List.getElem_of_mem aO
    have:a<i:=by
     apply Classical.byContradiction;intro h;rcases Nat.lt_or_eq_of_le (Nat.le_of_not_lt h)with h|h
     ·have:=List.pairwise_iff_getElem.mp eu i a hi aJ h;exact aq (.b .p .q (.b .q .p (.F 1))) rfl Vc this
     ·subst h;lia
    exact List.mem_take_iff_getElem.mpr ⟨a,by exact(Nat.le_total _ _).elim (fun ay=>aA (.b .p .r (.i (-1) (.e .q .r) (.t .p .q))) rfl this (Nat.min_eq_left ay)) (fun aE=>bA (.b .r .s (.b .p .r (.i (-1) (.e .q .s) (.t .p .q)))) rfl hi this (Nat.min_eq_right aE)),rfl⟩
   have aC:=(ez ys[i]).mp (List.getElem_mem hi);generalize ys[i]=j at FA f9 bC aC;refine aY ?_ aC;clear aC;intro aN AZ A0;refine bZ ?_ ((aN.cut dR).inv AZ A0);intro l r;refine aY ?_;intro e aD aC;have uX:=b6.iN _ _ _ e;have jW:=aN.lt b6 mZ
   have known:∀x,∀Y:kN g c node x,∀Y:x<j,ek x=E x:=fun x ai zV=>by
    refine ve x (by exact aA (.b .r .q (.b .p .r (.t .p .q))) rfl jW zV) ?_;by_cases aV:x=0
    ·exact .inl aV
    ·by_cases aG:(x:Int)∈c
     ·exact .inr (.inl aG)
     ·exact .inr (.inr (bC x ((ez x).mpr ⟨ai,aG,aV⟩) zV))
   have Vd:=known _ (.left aN AZ A0 e) uX.1;have Ve:=known _ (.right aN AZ A0 e) uX.2.1;have iJ:(st.set p (.list (vals g.length ek)))[p]?=some (.list (vals g.length ek)):=List.getElem?_set_self fO;have oW:=b6.len
   walk_at "W"
   refine a8 (lC (az _) fun x ai=>?_)
   walk_at "W"
   refine item_list ai (by rw[List.length_map];exact fz oW rfl) (x:=.tup [.int l,.int r]) (by rw[gC,List.getElem?_map,e];rfl) ?_
   walk_at "W"
   refine a8 ?_
   walk_at "W"
   refine pZ (by simp) (i:=((0:Nat):Int)) (x:=.int l) (by rw[gC];rfl) ?_
   walk_at "W"
   refine(kX (.ref p) (vals g.length ek) l (E (l / 2)) full ⟨rfl,cG iJ,by rw[nQ];exact eZ oW rfl,by rw[sZ (by exact aA (.b .p .r (.b .r .q (.t .p .q))) rfl uX.1 jW),Vd],?_⟩)
   walk_at "W"
   refine pZ (by simp) (i:=((1:Nat):Int)) (x:=.int r) (by rw[gC];rfl) ?_
   walk_at "W"
   refine(kX (.ref p) (vals g.length ek) r (E (r / 2)) full ⟨rfl,cG iJ,by rw[nQ];exact eZ oW rfl,by rw[sZ (by exact aA (.b .p .r (.b .r .q (.t .p .q))) rfl uX.2.1 jW),Ve],?_⟩)
   walk_at "W"
   have lo:∀l x,ofT l (E x) full=jU l (E x) full:=fun l x=>by
    unfold ofT jU;rw[Vb _ (g9 x).1 (g9 x).2]
   rw[lo,lo,←hand j l r AZ A0 e];refine uL iJ (by rw[nQ];exact aq (.b .p .q (.t .p .q)) rfl jW) (by rw[nQ];exact eZ oW rfl) ?_;rw[Lz,List.set_set];refine(cE _ _ _ ⟨Lv rfl,rfl,fun x ai h=>?_⟩);show(if x=j then E j else ek x)=E x;by_cases FD:x=j
   ·subst FD;rw[if_pos rfl]
   ·rw[if_neg FD];refine ve x ai ?_;rw[f9]at h;simpa [FD]using h
  ·intro i l s;refine bG ?_;intro s4 s5 ek;refine aY ?_;rintro rfl rfl ve;intro hle;rw[List.take_of_length_le (by simpa using hle)]at ve;rw[←u9 (u9 dc)];exact post _ _ _ ve
end Mine
end
section
set_option maxHeartbeats 2000000
namespace Mine
variable{prog:Program}{w:World}{B:Heap}{ak:dB}{k:Nat}
theorem Vf:∀n,∀Y:n<4,∀t,∀Y:t<n,nM t n=lD t n:=by decide+kernel
theorem Vg:∀n,∀Y:n<4,∀t,∀Y:t<n,0≤lD t n∧lD t n≤gb n:=by decide+kernel
theorem Vh:∀n,∀Y:n<4,∀t:Nat,∀Y:t<256,∀Y:(t:Int)≤gb n,Builtin.bitXor (t:Int) (gb n)=gb n-t:=by decide+kernel
theorem LC:∀n,∀Y:n<4,0≤gb n∧gb n≤255:=by decide+kernel
theorem Vi{n:Nat}(h:n<4)(t:Int)(ae:0≤t)(af:t≤gb n):Builtin.bitXor t (gb n)=gb n-t:=by
 have:=LC n h;have e:=Vh n h t.toNat (by exact MX af this) (by exact MY af this)
 rwa [Int.toNat_of_nonneg ae]at e
theorem Vj{a b f:Int}(ae:0≤a)(af:0≤b)(aH:a≤f):0≤Builtin.bitAnd a b∧Builtin.bitAnd a b≤f:=by
 rw[PyProof.Rows.bitAnd_pp ae af];have:a.toNat &&& b.toNat≤a.toNat:=Nat.and_le_left;exact⟨aI (.L (.k 0) (.n .p)) rfl,cu (.A .q .p (.a .p .q (.ak (.n .q) .q (.L (.n .p) .p)))) rfl [_,(Int.toNat _)] [_,_] aH this (Int.toNat_of_nonneg (gV (.A (.k 0) .p (.L (.k 0) .p)) rfl ae))⟩
set_option tactic.hygienic true in
theorem LD{g:List Node}{dW:∀Y:Nat,Int} {c:List Int} {full:Int} (bq:0≤full) (ai:∀t,∀Y:0≤t,∀Y:t≤full,Builtin.bitXor t full=full-t) (hw:∀s,∀Y:s<c.length,0≤dW s∧dW s≤full):∀n i,0≤jV g dW c full n i∧jV g dW c full n i≤full
 |0,_=>⟨Int.le_refl _,bq⟩
 |n+1,i=>by
  have lit:∀l x,0≤jU l (jV g dW c full n x) full∧jU l (jV g dW c full n x) full≤full:=fun l x=>by
   have:=LD (g:=g) bq ai hw n x;unfold jU
   split
   ·rw[ai _ this.1 this.2];exact⟨nT (.A .q .p (.L (.k 0) (.s .p .q))) rfl this.2,nT (.A (.k 0) .q (.L (.s .p .q) .p)) rfl this.1⟩
   ·exact this
  unfold jV
  split
  ·rename_i s e;refine hw s ?_;have:=List.findIdx?_eq_some_iff_getElem.mp e;exact this.1
  ·split
   ·exact⟨Int.le_refl _,bq⟩
   ·split
    ·exact Vj (lit _ _).1 (lit _ _).1 (lit _ _).2
    ·exact⟨Int.le_refl _,bq⟩
theorem Vk(n:Nat):gb n=2^2^n-1:=rfl
theorem Vl:∀n,∀Y:n<4,(0:Int)≤2^n∧(2:Int)^n≤1000∧((2:Int)^n).toNat=2^n:=by decide+kernel
theorem Vm{ms ys:List Int}(az:ms.Nodup)(h:jj uq.blt ms ys):dK ys:=by
 have ae:ys.Nodup:=h.1.nodup_iff.mpr az;have hw:ys.Pairwise fun x y=>Ez y x=false:=h.2;refine(hw.and ae).imp fun{x y} h=>?_;refine ar ?_ h;clear h;intro ae af;have aH:¬(y<x):=of_decide_eq_false ae;exact(Int.lt_or_gt_of_ne af).elim (fun ay=>nT (.B .p .q (.T .p .q)) rfl ay) (fun aE=>nT (.i 2 (.o (.T .q .p)) (.B .q .p (.T .p .q))) rfl aH aE)
theorem FE{x:ah}{ns:List Int}{st:St}{Q:∀Y:ah,∀Y:St,Prop} (h:ku x st=some (ns.map .int)) (aD:ns.length<900) (bb:∀ys ms,∀Y:dK ys,∀Y:(∀z,z∈ys↔z∈ns),Q (.ref (st.length+1)) (st++[.set ms,.list (ys.map .int)])):one DG [x] (fun v aU=>one DM [v] Q aU) st:=by
 refine⟨ns,h,aD,fun ms kK ez=>?_⟩;have e:setAt (.ref st.length) (st++[.set ms])=some ms:=by simp[setAt]
 have nC:=u1 kK fun z aT=>(ez z).mp aT;refine .inl ⟨ms,.inr (.inr e),by exact aq (.i 1000000 (.t .q (.k 900)) (.i 1000000 (.l .p .q) (.G 898 (.l .p (.k 1000000))))) rfl aD nC,fun ys eu=>?_⟩;have:=bb ys ms (Vm kK eu) fun z=>(eu.1.mem_iff).trans (ez z);simpa using this
theorem Vn{a b:List Nat}(aJ:a.Pairwise (·<·))(av:b.Pairwise (·<·))(h:∀j,j∈a↔j∈b):a=b:=by
 have key:a.map (fun j:Nat=>(j:Int))=b.map (fun j:Nat=>(j:Int)):=by
  refine sQ ?_ ?_ fun z=>?_
  ·exact List.pairwise_map.mpr (aJ.imp fun q=>by exact aq (.b .p .q (.T (.n .p) (.n .q))) rfl q)
  ·exact List.pairwise_map.mpr (av.imp fun q=>by exact aq (.b .p .q (.T (.n .p) (.n .q))) rfl q)
  ·simp only[List.mem_map,h]
 have e:∀l:List Nat,(l.map fun j:Nat=>(j:Int)).map Int.toNat=l:=fun l=>by rw[List.map_map];exact List.map_id'' (fun x=>by simp) l
 rw[←e a,key,e]
theorem Vo{a:List Int}{Q:∀Y:ah,∀Y:St,Prop} {st:St} (aD:a.length<1000) (bb:Q (.ref st.length) (st++[.list (a.map .int)])):one BS [aS a] Q st:=by
 show fY (ku (aS a) st) (fun xs=>xs.length≤1000000∧Q (.ref st.length) (st++[.list xs]));exact fS (a:=a.map .int) rfl ⟨by rw[List.length_map];exact qk aD rfl,bb⟩
theorem list_list{n:Nat}{xs:List ah}{Q:∀Y:ah,∀Y:St,Prop} {st:St} (h:listAt (.ref n) st=some xs) (aD:xs.length<1000) (bb:Q (.ref st.length) (st++[.list xs])):one BS [.ref n] Q st:=by
 show fY (ku (.ref n) st) (fun xs=>xs.length≤1000000∧Q (.ref st.length) (st++[.list xs]));exact fS (a:=xs) h ⟨by exact qk aD rfl,bb⟩
theorem Vp{b:Nat}{Q:∀Y:Bool,∀Y:St,Prop} {st:St} (h:Q false st):pg false (.ref b) .none Q st:=h
theorem LF{A F:bN}{k j:Nat}{x y:Option ah}(h:fr A=fr (upd (upd (lo F A) k x) j y)):fr A=fr (upd (upd (lo F A) k x) j y):=h
theorem Vq{F Z:bN}{x y:Option ah}:fr (upd (upd (lo F Z) 10 x) 11 y)=fr (lo F (upd (upd Z 10 x) 11 y)):=rfl
theorem Vr{aF ew:Nat}(L:ry prog w B aF ew):gx prog w B (g5 (bP 25).scope.names) (k+5) (gu (bodyOf (gu (bP 25).body 8)) 2) fun Q loc st=>
 ∃(r node n:Nat)(v:ah)(g:List Node)(aB:List (List Int))(S:bN),loc=fr S∧fr S=fr (upd (upd (upd (upd S 4 (some v)) 6 (some (.int n))) 10 (some (.int node))) 11 (some (.ref r)))∧
  ki aF v st=some (g.map fy)∧gQ g∧1≤node∧node<g.length∧n≤3∧st[r]?=some (.list ((aB++[[(node:Int)]]).map aS))∧AN g n node aB∧aB.length≤60∧
  ∀Z s',Q .next (fr (lo S Z)) (st++s'):=by
 have hs:=L.base.hs;have dM:=L.base.len;have ie:=L.base.range;have FF:=L.base.list;have xN:=L.base.set;have lE:=L.base.sorted;refine aj ?_ L.cls;intro bS;refine ar ?_;intro X ee;have dN:=L.dN;refine aj ?_ L.Lr.ex;intro Vs;refine aY ?_;intro FG FH xu;refine aj ?_ L.U2.ex;intro AE;refine aY ?_;intro EG EH xj;refine aj ?_ L.inputs.ex;intro AS;refine aY ?_;intro Vt Vu EK;refine aj ?_ L.tab.ex;intro XY;refine aY ?_;intro Vv Vw EE;refine@u6 prog w B (g5 (bP 25).scope.names) (k+5) (gu (bodyOf (gu (bP 25).body 8)) 2) _ _ (j4 (i:=12) (bL ie (.inr (.inl ⟨_,rfl⟩)) called_range (aQ (cY rP (bL dM (.inl ⟨_,rfl⟩) fD (aQ (aw (i:=11) (by kernel_rfl)) bg) (by kernel_rfl) (by decide+kernel)) bz) bg) (by kernel_rfl) (by decide+kernel)) (aZ (dg (i:=9) (c4 (aw (i:=11) (by kernel_rfl)) (aw (i:=12) (by kernel_rfl))) (by kernel_rfl) (cg (by decide+kernel))) (aZ (dg (i:=13) (bL FG FH (xu _) (aQ (aw (i:=4) (by kernel_rfl)) (aQ (aw (i:=10) (by kernel_rfl)) (aQ (aw (i:=9) (by kernel_rfl)) bg))) (by kernel_rfl) (by decide+kernel)) (by kernel_rfl) (cg (by decide+kernel))) (aZ (fQ (gX (c6 m9 (bL FF (.inr (.inl ⟨_,rfl⟩)) called_list (aQ (aw (i:=9) (by kernel_rfl)) bg) (by kernel_rfl) (by decide+kernel)) (bL lE (.inl ⟨_,rfl⟩) (q1 hs) (aQ (bL xN (.inr (.inl ⟨_,rfl⟩)) called_set (aQ (aw (i:=9) (by kernel_rfl)) bg) (by kernel_rfl) (by decide+kernel)) bg) (by kernel_rfl) (by decide+kernel))) (gX (c6 cmp_gt (bL dM (.inl ⟨_,rfl⟩) fD (aQ (aw (i:=9) (by kernel_rfl)) bg) (by kernel_rfl) (by decide+kernel)) (aw (i:=6) (by kernel_rfl))) (gX (c6 vJ (aw (i:=13) (by kernel_rfl)) lP) (gX (c6 (vM hs) (aw (i:=10) (by kernel_rfl)) (aw (i:=9) (by kernel_rfl))) (gX (c6 m9 (bL FF (.inr (.inl ⟨_,rfl⟩)) called_list (aQ (bL EG EH (xj _) (aQ (aw (i:=4) (by kernel_rfl)) (aQ (aw (i:=10) (by kernel_rfl)) (aQ (aw (i:=9) (by kernel_rfl)) bg))) (by kernel_rfl) (by decide+kernel)) bg) (by kernel_rfl) (by decide+kernel)) (aw (i:=13) (by kernel_rfl))) ph))))) (aZ (eF k4) bM) bM) (aZ (U4 L) (aZ (dg (i:=16) (bL Vt Vu (EK _) (aQ (bL dM (.inl ⟨_,rfl⟩) fD (aQ (aw (i:=9) (by kernel_rfl)) bg) (by kernel_rfl) (by decide+kernel)) bg) (by kernel_rfl) (by decide+kernel)) (by kernel_rfl) (cg (by decide+kernel))) (aZ (dg (i:=17) (cY rP (cY vG bz (cY vG bz (bL dM (.inl ⟨_,rfl⟩) fD (aQ (aw (i:=9) (by kernel_rfl)) bg) (by kernel_rfl) (by decide+kernel)))) bz) (by kernel_rfl) (cg (by decide+kernel))) (aZ (dg (i:=18) (cY vQ (jb (aQ bz bg)) (bL dM (.inl ⟨_,rfl⟩) fD (aQ (iK X ee dN (aw (i:=4) (by kernel_rfl))) bg) (by kernel_rfl) (by decide+kernel))) (by kernel_rfl) (cg (by decide+kernel))) (aZ (U5 L) (aZ (U9 L) (aZ (fQ (c6 m9 (bL Vv Vw (EE _) (aQ (aw (i:=4) (by kernel_rfl)) (aQ (aw (i:=10) (by kernel_rfl)) (aQ (aw (i:=9) (by kernel_rfl)) bg))) (by kernel_rfl) (by decide+kernel)) (c4 (aw (i:=18) (by kernel_rfl)) (aw (i:=10) (by kernel_rfl)))) (aZ (eF k4) bM) bM) bM)))))))))) (by kernel_rfl) (cg (by decide+kernel))) ?_;rintro Q _ st ⟨r,node,n,v,g,aB,S,rfl,dc,b7,b6,uQ,mZ,kn,aC,fW,ff,post⟩;rw[dc];have uP:=cG aC;have oW:=b6.len;refine kh (fun y s=>y=.range 0 (aB.length:Int)∧st=s) (fun a6 a7=>?_) ?_
 ·walk_at "W"
  refine jT uP (by simp;exact aI (.i 499999999 (.l .p (.k 60)) (.G 29 (.t (.b .p) (.k 1000000000)))) rfl ff) ?_;have e:((((aB++[[(node:Int)]]).map aS).length:Nat):Int)-1=(aB.length:Int):=by simp
  walk_at "W"
  rw[e];exact a7 _ _ ⟨rfl,rfl⟩
 ·intro _ _;refine ar ?_;rintro rfl rfl;refine⟨_,fun i l s=>∃Z s',l=fr (upd (upd (lo (upd (upd (upd (upd S 4 (some v)) 6 (some (.int n))) 10 (some (.int node))) 11 (some (.ref r))) Z) 10 (some (.int node))) 11 (some (.ref r)))∧s=st++s'∧i≤aB.length,⟨_,[],LF rfl,by simp,by exact aI (.l .z .p) rfl⟩,fun n l s Y=>sX (by exact eZ ff rfl),?_,?_⟩
  ·intro i l s y;refine bZ ?_;intro Z s';refine aY ?_;rintro rfl rfl hi;intro au
   have lI:i<aB.length:=by
    have:=(List.getElem?_eq_some_iff.mp au).1;simpa using this
   rw[List.getElem?_map,List.getElem?_range lI]at au;have xO:y=.int (i:Nat):=by rw[←Option.some.inj au];show ah.int (0+(i:Int))=_;rw[Int.zero_add]
   subst xO;clear au;have aG:aB[i]?=some aB[i]:=List.getElem?_eq_getElem lI;generalize aB[i]=c at aG;have jc:=List.mem_of_getElem? aG;have iY:=fW.good c jc;have b9:=fW.len c jc;have bC:=fW.lt c jc;have LG:=gP b7 s';have jB:(st++s')[r]?=some (.list ((aB++[[(node:Int)]]).map aS)):=dS aC s';have hlen:st.length≤(st++s').length:=by rw[List.length_append];exact aq (.l .p (.a .p .q)) rfl
   walk_at "W"
   refine a8 ?_
   walk_at "W"
   refine item_list (cG jB) (by simp;exact aI (.i 499999999 (.l .p (.k 60)) (.G 29 (.t (.b .p) (.k 1000000000)))) rfl ff) (x:=aS c) (by rw[gC,List.getElem?_map,List.getElem?_append_left lI,aG];rfl) ?_
   walk_at "W"
   refine a8 ?_
   walk_at "W"
   refine(dX v g node c ⟨rfl,LG,b6,mZ,fun Y ys g1 eu ez=>?_,fun h=>absurd iY.cut h⟩);have xP:c.length<4:=by exact aq (.a .q (.k 3) (.a .p .q (.t .p (.k 4)))) rfl kn b9
   have LH:(0:Int)∉c:=fun h=>by have:=(iY.ge 0 h).1;exact ik (.A (.k 1) (.k 0) .f) rfl this
   have vf:(st++s'++g1++[bB.list (ys.map fun j:Nat=>.int j)])[(st++s').length+g1.length]?=some (.list (ys.map fun j:Nat=>.int j)):=by rw[←List.length_append];exact jy _ _
   generalize (st++s').length+g1.length=b at vf ⊢;rw[List.append_assoc,List.append_assoc]at vf ⊢;generalize s'++(g1++[bB.list (ys.map fun j:Nat=>.int j)])=s2 at vf ⊢;clear LG jB
   walk_at "W"
   refine a8 (u7 (fun a6 a7=>?_) fun g2=>?_)
   ·have Vx:∀g,a6 false (st++(s2++g)):=fun g=>by rw[←List.append_assoc];exact a7 g
    walk_at "W"
    refine Vo (by exact aq (.i 333 (.l .q (.k 3)) (.i 333 (.l .p .q) (.t .p (.k 1000)))) rfl kn b9) ?_
    walk_at "W"
    refine FE (x:=aS c) (ns:=c) rfl (by exact aq (.i 899 (.l .q (.k 3)) (.i 899 (.l .p .q) (.G 2 (.t .p (.k 900))))) rfl kn b9) fun zs ms aT Vy=>?_;rw[sQ aT iY.inc Vy]
    walk_at "W"
    refine ER (a:=c) (b:=c) (jz (iM ..) _) (cG (kL _ _ 1)) ?_;rw[decide_eq_true rfl,Bool.not_true,if_neg Bool.false_ne_true];refine mS (by exact aq (.i 333333 (.l .q (.k 3)) (.i 333333 (.l .p .q) (.t .p (.k 1000000)))) rfl kn b9) ?_
    walk_at "W"
    refine i6 (fun h=>by exact(aq (.a .p .q (.B (.n .q) (.n .p) .f)) rfl b9 h:False).elim) fun Y=>?_
    walk_at "W"
    refine Vp ?_;rw[if_neg Bool.false_ne_true];refine Aq (i6 (fun h=>by have:=bC _ h;exact(aI (.B (.n .p) (.n .p) .f) rfl this:False).elim) fun Y=>?_)
    walk_at "W"
    refine(dX v g node c ⟨rfl,gP (gP (gP b7 _) _) _,b6,mZ,iY.cut,fun XZ g3 xO lh=>?_⟩);rw[Vn xO eu fun j=>(lh j).trans (ez j).symm]
    have kM:ys.length≤g.length:=by
     have ae:(ys.map fun j:Nat=>(j:Int)).length≤((List.range g.length).map fun j:Nat=>(j:Int)).length:=
      u1 (List.pairwise_map.mpr (eu.imp fun q=>by exact fun ay=>aq (.b .p .q (.i (-1) (.E (.n .p) (.n .q)) .f)) rfl q ay)) fun x ai=>by
       refine aj ?_ (List.mem_map.mp ai);intro j;refine ar ?_;rintro aO rfl;have:=((ez j).mp aO).1.lt b6 mZ;exact List.mem_map.mpr ⟨j,List.mem_range.mpr this,rfl⟩
     simpa using ae
    refine list_list (cG (by rw[←List.length_append];exact jy _ _)) (by rw[List.length_map];exact aq (.i 999 (.l .q (.k 100)) (.i 999 (.l .p .q) (.G 99 (.t .p (.k 1000))))) rfl oW kM) ?_
    walk_at "W"
    have em:ys.map (fun j:Nat=>ah.int j)=(ys.map fun j:Nat=>(j:Int)).map .int:=by rw[List.map_map];rfl
    refine ER (a:=ys.map fun j:Nat=>(j:Int)) (b:=ys.map fun j:Nat=>(j:Int)) (by rw[em];exact iM ..) (by rw[←em];exact cG (dS (dS (dS (dS (dS vf _) _) _) _) _)) ?_;rw[decide_eq_true rfl,Bool.not_true,if_neg Bool.false_ne_true];simp only[List.append_assoc];exact Vx _
   ·have A1:=dS vf g2;rw[List.append_assoc]at A1 ⊢;generalize s2++g2=fF at A1 ⊢;clear vf
    walk_at "W"
    refine a8 (qf r i c [(node:Int)] aB _ ⟨rfl,rfl,dS aC _,aG,ff,fun r aC=>by have:=fW.len r aC;exact aq (.i 100 (.l .q (.k 3)) (.i 100 (.l .p .q) (.G 2 (.l .p (.k 100))))) rfl kn this,fW.u0,fun vc lM=>?_⟩);have j8:=dS A1 lM;rw[List.append_assoc]at j8 ⊢;generalize fF++lM=kR at j8 ⊢;clear A1
    walk_at "W"
    refine a8 ?_
    walk_at "W"
    refine mS (by exact aq (.i 333333 (.l .q (.k 3)) (.i 333333 (.l .p .q) (.t .p (.k 1000000)))) rfl kn b9) ?_
    walk_at "W"
    refine⟨c.length,rfl,by exact aq (.i 4 (.l .q (.k 3)) (.i 4 (.l .p .q) (.G 2 (.l .p (.k 4))))) rfl kn b9,fun FI=>?_⟩;have Vz:=(List.getElem?_eq_some_iff.mp j8).1;have jO:(st++kR++bB.list ((List.range c.length).map fun t=>.int (nM t c.length))::FI)[(st++kR).length]?=some (.list (vals c.length fun t=>nM t c.length)):=by simp[vals]
    have xQ:=dS j8 (bB.list ((List.range c.length).map fun t=>.int (nM t c.length))::FI);generalize VA:(st++kR).length=q at jO Vz ⊢;rw[List.append_assoc]at jO xQ ⊢;generalize kR++bB.list ((List.range c.length).map fun t=>.int (nM t c.length))::FI=iC at jO xQ ⊢;clear j8 VA
    walk_at "W"
    refine a8 ?_
    walk_at "W"
    refine mS (by exact aq (.i 333333 (.l .q (.k 3)) (.i 333333 (.l .p .q) (.t .p (.k 1000000)))) rfl kn b9) ?_
    walk_at "W"
    have bf:(c.length:Int).toNat=c.length:=Int.toNat_natCast _;have wV:=Vl c.length xP;refine⟨⟨by exact aI (.L (.k 0) (.n .p)) rfl,by exact aq (.i 1000 (.l .q (.k 3)) (.i 1000 (.l .p .q) (.G 2 (.L (.n .p) (.k 1000))))) rfl kn b9,by decide⟩,?_⟩;rw[bf]
    walk_at "W"
    refine⟨⟨wV.1,wV.2.1,by decide⟩,?_⟩;rw[wV.2.2]
    walk_at "W"
    rw[←Vk];refine a8 ?_
    walk_at "W"
    refine⟨by decide,?_⟩
    walk_at "W"
    refine lC (gP (gP b7 _) _) fun x ai=>jT ai (by rw[List.length_map];exact fz oW rfl) ?_;rw[List.length_map];refine Tl (iM ..) (by exact aI (.L (.k 0) (.n .p)) rfl) (by exact aI (.i 1000 (.l .p (.k 100)) (.L (.n .p) (.k 100000))) rfl oW) ?_
    have AO:List.replicate (g.length:Int).toNat (ah.int 0)=vals g.length fun Y=>0:=by
     rw[Int.toNat_natCast];unfold vals;rw[List.map_const',List.length_range]
    rw[AO];have FJ:=dS (dS jO [.list [.int 0]]) [.list (vals g.length fun Y=>0)];have FL:=dS (dS xQ [.list [.int 0]]) [.list (vals g.length fun Y=>0)];have kP:(st++iC++[bB.list [.int 0]]++[bB.list (vals g.length fun Y=>0)])[(st++iC++[bB.list [.int 0]]).length]?=some (.list (vals g.length fun Y=>0)):=jy _ _;have X0:=(List.getElem?_eq_some_iff.mp jO).1;have LI:(st++iC++[bB.list [.int 0]]).length=st.length+(iC.length+1):=by simp
    have cP:(st++iC).length<st.length+(iC.length+1):=by rw[List.length_append];exact aq (.t (.a .p .q) (.a .p (.b .q))) rfl
    rw[LI]at kP ⊢;generalize iC.length+1=p at kP cP ⊢;rw[List.append_assoc,List.append_assoc]at FJ FL kP ⊢;generalize iC++([bB.list [.int 0]]++[bB.list (vals g.length fun Y=>0)])=oU at FJ FL kP ⊢;have X3:=(List.getElem?_eq_some_iff.mp xQ).1;clear LI AO ai xQ jO
    walk_at "W"
    refine a8 (vn (st.length+p) q g.length c (fun t=>nM t c.length) (fun Y=>0) _ ⟨rfl,rfl,kP,FJ,by lia,iY.inc.nodup,fun x ai=>?_,oW,by exact aq (.i 100 (.l .q (.k 3)) (.i 100 (.l .p .q) (.G 2 (.l .p (.k 100))))) rfl kn b9,fun vd ek aV bD=>?_⟩)
    ·have ae:=iY.ge x ai;have af:=bC x ai;exact⟨gV (.A (.k 1) .p (.L (.k 1) .p)) rfl ae.1,cu (.b .q .p (.A .p (.n .q) (.T .p (.n .p)))) rfl [_,_] [_] mZ ae.2⟩
    ·have fO:=(List.getElem?_eq_some_iff.mp kP).1;rw[nF]
     have LJ:(st++oU.set p (.list (vals g.length ek)))[b]?=some (.list (ys.map fun j:Nat=>.int j)):=by
      rw[←nF,List.getElem?_set_ne (by lia)];exact FL
     have FN:(st++oU.set p (.list (vals g.length ek)))[st.length+p]?=some (.list (vals g.length ek)):=by
      rw[←nF];exact List.getElem?_set_self fO
     generalize oU.set p (.list (vals g.length ek))=u5 at LJ FN ⊢;have ai:=fun t ae af=>Vi xP t ae af
     have g9:∀i,0≤ev g (fun s=>lD s c.length) c (gb c.length) i∧ev g (fun s=>lD s c.length) c (gb c.length) i≤gb c.length:=fun i=>
      LD (LC _ xP).1 ai (fun s eg=>Vg _ xP s eg) _ _
     have VB:∀i,∀Y:i<g.length,∀Y:(i=0∨(i:Int)∈c),ek i=ev g (fun s=>lD s c.length) c (gb c.length) i:=by
      rintro i fV (rfl|AQ)
      ·rw[aV,KC LH]
      ·obtain⟨s,oS,LK⟩:=List.getElem_of_mem AQ;rw[KB iY.inc oS LK];have:=bD s (i:Int) (by rw[List.getElem?_eq_getElem oS,LK]);rw[Int.toNat_natCast]at this;rw[this];exact Vf _ xP s oS
     walk_at "W"
     refine a8 (Mu (st.length+p) b node v g c (gb c.length) ys (ev g (fun s=>lD s c.length) c (gb c.length)) ek _ ⟨rfl,rfl,fun o=>?_,b6,mZ,iY.cut,by lia,LJ,FN,eu,ez,g9,ai,fun i l r ae af aH=>KD b6 ae af aH,VB,fun s4 s5 xR VC=>?_⟩)
     ·rw[nF];exact gP b7 _
     ·have FO:((st++u5).set (st.length+p) (.list (vals g.length xR)))[st.length+p]?=some (.list (vals g.length xR)):=List.getElem?_set_self (List.getElem?_eq_some_iff.mp FN).1;rw[nF]at FO ⊢;generalize u5.set p (.list (vals g.length xR))=LL at FO ⊢
      walk_at "W"
      refine a8 (u7 (fun a6 a7=>?_) fun FP=>?_)
      ·walk_at "W"
       refine(dX v g node c ⟨rfl,gP b7 _,b6,mZ,iY.cut,iY.inc,by exact aq (.i 4 (.l .q (.k 3)) (.i 4 (.l .p .q) (.G 2 (.l .p (.k 4))))) rfl kn b9,LH,fun FP=>?_⟩)
       walk_at "W"
       refine item_list (jz (cG FO) FP) (by rw[nQ];exact fz oW rfl) (x:=.int (xR node)) (by rw[gC,sZ mZ]) ?_;rw[Fy];have se:node∈ys:=(ez node).mpr ⟨.base,fun h=>by have:=bC _ h;exact aI (.B (.n .p) (.n .p) .f) rfl this,by exact vy uQ⟩;have:rl g c node=xR node:=by rw[VC node mZ (.inr (.inr se))];rfl
       rw[decide_eq_true this];exact a7 FP
      ·rw[List.append_assoc];exact(cD _ _ ⟨LF rfl,rfl,by exact aq (.b .p .q (.l (.b .p) .q)) rfl lI⟩)
  ·intro i l s;refine bZ ?_;intro Z s';refine aY ?_;rintro rfl rfl hi;intro hle;rw[Vq,←Lu dc];exact post _ _
end Mine
end
section
set_option maxHeartbeats 2000000
namespace Mine
variable{prog:Program}{w:World}{B:Heap}{ak:dB}{k:Nat}
theorem VD{xs:List ah}{y:ah}:pick (xs++[y]) (-1)=some y:=by
 have:=Lg (xs:=xs++[y]) (d:=0) (by simp);simpa using this
theorem FQ{a:List Int}{Q:∀Y:ah,∀Y:St,Prop} {st:St} (aD:a.length<1000) (bb:Q (aS a) st):one yD [aS a] Q st:=by
 show fY (ku (aS a) st) (fun xs=>xs.length≤1000000∧Q (.tup xs) st);exact fS (a:=a.map .int) rfl ⟨by rw[List.length_map];exact qk aD rfl,bb⟩
theorem isNone_none{Q:∀Y:Bool,∀Y:St,Prop} {st:St} (h:Q true st):pg false (fy none) .none Q st:=h
theorem VE{l r:Nat}{Q:∀Y:Bool,∀Y:St,Prop} {st:St} (h:Q false st):pg false (fy (some (l,r))) .none Q st:=h
theorem VF{aF ew:Nat}(L:ry prog w B aF ew):gx prog w B (g5 (bP 25).scope.names) (k+5) (gu (bP 25).body 8) fun Q loc st=>
 ∃(cS n most:Nat)(v:ah)(g:List Node)(cs:List (List (List Int)))(S:bN),loc=fr S∧fr S=fr (upd (upd (upd (upd S 4 (some v)) 6 (some (.int n))) 7 (some (.int most))) 8 (some (.ref cS)))∧
  xJ aF st v g n most cs cS∧
  ∀Z s',Q .next (fr (lo S Z)) (st++s'):=by
 have hs:=L.base.hs;have dM:=L.base.len;have ie:=L.base.range;have oP:=L.base.tuple;refine aj ?_ L.cls;intro bS;refine ar ?_;intro X ee;have dN:=L.dN;refine@u6 prog w B (g5 (bP 25).scope.names) (k+5) (gu (bP 25).body 8) _ _ (j4 (i:=10) (bL ie (.inr (.inl ⟨_,rfl⟩)) called_range (aQ bz (aQ (bL dM (.inl ⟨_,rfl⟩) fD (aQ (iK X ee dN (aw (i:=4) (by kernel_rfl))) bg) (by kernel_rfl) (by decide+kernel)) bg)) (by kernel_rfl) (by decide+kernel)) (aZ (dg (i:=11) (c4 (aw (i:=8) (by kernel_rfl)) (aw (i:=10) (by kernel_rfl))) (by kernel_rfl) (cg (by decide+kernel))) (aZ (fQ (gX (c6 m9 (bL oP (.inr (.inl ⟨_,rfl⟩)) called_tuple (aQ (c4 (aw (i:=11) (by kernel_rfl)) (vL bz)) bg) (by kernel_rfl) (by decide+kernel)) (lR (aQ (aw (i:=10) (by kernel_rfl)) bg))) (gX (my (c6 vJ (c4 (iK X ee dN (aw (i:=4) (by kernel_rfl))) (aw (i:=10) (by kernel_rfl))) lP) (my (c6 cmp_gt (bL dM (.inl ⟨_,rfl⟩) fD (aQ (aw (i:=11) (by kernel_rfl)) bg) (by kernel_rfl) (by decide+kernel)) bz) vK)) (gX (c6 cmp_gt (bL dM (.inl ⟨_,rfl⟩) fD (aQ (aw (i:=11) (by kernel_rfl)) bg) (by kernel_rfl) (by decide+kernel)) (cY o9 (aw (i:=7) (by kernel_rfl)) bz)) ph))) (aZ (eF k4) bM) bM) (aZ (Vr L) bM))) (by kernel_rfl) (cg (by decide+kernel))) ?_;intro Q _ st;refine Ml ?_;intro cS n most v g cs S;refine cH ?_;rintro rfl dc I post;rw[dc];refine aj ?_ I.tab;intro rs;refine aY ?_;intro ml gO p6;have p0:=I.gl;have b9:=I.len;have hm:=I.m;refine kh (fun y s=>y=.range 1 (g.length:Int)∧st=s) (fun a6 a7=>?_) ?_
 ·walk_at "W"
  refine lC I.nodes fun x ai=>jT ai (by rw[List.length_map];exact fz p0 rfl) ?_;rw[List.length_map];exact a7 _ _ ⟨rfl,rfl⟩
 ·intro _ _;refine ar ?_;rintro rfl rfl;refine⟨(List.range ((g.length:Int)-1).toNat).map fun i:Nat=>.int (1+(i:Nat)),fun i l s=>∃Z s',l=fr (lo (upd (upd (upd (upd S 4 (some v)) 6 (some (.int n))) 7 (some (.int most))) 8 (some (.ref cS))) Z)∧s=st++s',⟨_,[],Lw rfl,by simp⟩,?_,?_,?_⟩
  ·rintro i l s _;exact sN (by exact ik (.L (.k (-1000000)) (.k 1)) rfl) (by exact ik (.L (.k 1) (.k 1000000)) rfl) (by exact aI (.L (.k (-1000000)) (.n .p)) rfl) (by exact aI (.i 1000000 (.l .p (.k 19)) (.G 18 (.L (.n .p) (.k 1000000)))) rfl p0)
  ·intro i l s y;refine bZ ?_;intro Z s';refine ar ?_;rintro rfl rfl;intro au
   have hi:i+1<g.length:=by
    have:=(List.getElem?_eq_some_iff.mp au).1;simp at this;exact aA (.b .p .r (.c (.b .r) .q (.t (.b .p) .q))) rfl this (Nat.sub_add_cancel (aA (.b .q .r (.a .r .p (.l .o .p))) rfl this (Nat.sub_le _ (1:Nat))))
   rw[List.getElem?_map,List.getElem?_range (by exact aA (.b (.b .p) .r (.A (.s (.n .r) (.k 1)) (.n .q) (.t .p .q))) rfl hi (Int.self_le_toNat (((_:Nat):Int)-(1:Int))))]at au
   have xO:y=.int ((i+1:Nat):Int):=by
    rw[←Option.some.inj au];show ah.int (1+(i:Int))=_;rw[show(1:Int)+(i:Int)=((i+1:Nat):Int) by exact Bq]
   subst xO;clear au;have aG:cs[i+1]?=some cs[i+1]:=List.getElem?_eq_getElem (by exact aA (.i (-1) (.e .q .r) (.b (.b .p) .r (.t (.b .p) .q))) rfl b9 hi);generalize cs[i+1]=c at aG;refine aj ?_ (p6 _ _ aG);intro r;refine aY ?_;intro jB A2 rz;refine aj ?_ (E7 I.valid I.Fz (by exact aI (.l .o (.b .p)) rfl) aG);intro aB;refine cH ?_;rintro rfl fW ff mL;have A3:=dS rz s';have LM:=(List.getElem?_eq_some_iff.mp jB).1;generalize mZ:i+1=node at hi aG jB fW mL rz A3 LM ⊢
   walk_at "W"
   refine a8 ?_
   walk_at "W"
   refine item_list (jz (cG ml) _) (by rw[List.length_map];exact aA (.i 999999999 (.e .p .q) (.i 999999999 (.l .r (.k 19)) (.i 999999999 (.e .q .r) (.G 18 (.t .p (.k 1000000000)))))) rfl gO p0 b9) (x:=.ref r) (by rw[gC,List.getElem?_map,jB];rfl) ?_
   walk_at "W"
   have hlen:((aB++[[(node:Int)]]).map aS).length=aB.length+1:=by simp
   refine a8 (u7 (fun a6 a7=>?_) fun g2=>?_)
   ·have VG:a6 false (st++s'):=by
     have:=a7 []
     rwa [List.append_nil]at this
    walk_at "W"
    refine neg_int (item_list (cG A3) (by rw[hlen];exact aq (.i 499999999 (.l .q (.k 60)) (.i 499999999 (.l .p .q) (.G 29 (.t (.b .p) (.k 1000000000))))) rfl hm ff) (x:=aS [(node:Int)]) (by rw[List.map_append];exact VD) ?_)
    walk_at "W"
    refine FQ (by simp) ?_
    walk_at "W"
    refine⟨by decide,?_⟩;refine Fw (a:=[(node:Int)]) (b:=[(node:Int)]) ?_;rw[decide_eq_true rfl,Bool.true_xor,Bool.not_true,if_neg Bool.false_ne_true]
    have fin:one rU [.ref r] (fun a aU=>pe (fun a b=>decide (a>b)) a (.int ((most:Int)+1)) (fun b aU=>if b=true then a6 true aU else a6 false aU) aU) (st++s'):=by
     refine jT (cG A3) (by rw[hlen];exact aq (.i 499999999 (.l .q (.k 60)) (.i 499999999 (.l .p .q) (.G 29 (.t (.b .p) (.k 1000000000))))) rfl hm ff) ?_;rw[hlen]
     walk_at "W"
     exact i6 (fun h=>by exact(aq (.a .p .q (.B (.a (.n .q) (.k 1)) (.n (.b .p)) .f)) rfl ff h:False).elim) fun Y=>VG
    refine lC (gP I.nodes _) fun x ai=>?_;have s6:g[node]?=some g[node]:=List.getElem?_eq_getElem hi;generalize g[node]=d4 at s6;refine item_list ai (by rw[List.length_map];exact fz p0 rfl) (x:=fy d4) (by rw[gC,List.getElem?_map,s6];rfl) ?_;cases d4 with
    |none=>
     refine isNone_none ?_;rw[if_pos rfl];refine jT (cG A3) (by rw[hlen];exact aq (.i 499999999 (.l .q (.k 60)) (.i 499999999 (.l .p .q) (.G 29 (.t (.b .p) (.k 1000000000))))) rfl hm ff) ?_;rw[hlen,mL s6]
     walk_at "W"
     exact i6 (fun h=>by simp at h) fun Y=>fin
    |some sS=>
     obtain⟨ia,c5⟩:=sS;refine VE ?_;rw[if_neg Bool.false_ne_true];exact fin
   ·rw[List.append_assoc]
    walk_at "W"
    refine a8 (vn r node n v g aB _ ⟨rfl,rfl,gP I.nodes _,I.valid,by exact aq (.c (.b .q) .p (.l .o .p)) rfl mZ,hi,I.p5,dS rz _,fW,by exact aq (.a .q (.k 60) (.a .p .q (.l .p (.k 60)))) rfl hm ff,fun X4 s2=>?_⟩);rw[List.append_assoc];exact(cD _ _ ⟨Lw rfl,rfl⟩)
  ·intro i l s;refine bZ ?_;intro Z s';refine ar ?_;rintro rfl rfl;intro hle;rw[←Lu dc];exact post _ _
end Mine
end
section
set_option maxHeartbeats 2000000
namespace Mine
variable{prog:Program}{w:World}{B:Heap}{ak:dB}{k:Nat}
theorem VH{Q:∀Y:Bool,∀Y:St,Prop} {st:St} (h:Q false st):pg true (fy none) .none Q st:=h
theorem VI{l r:Nat}{Q:∀Y:Bool,∀Y:St,Prop} {st:St} (h:Q true st):pg true (fy (some (l,r))) .none Q st:=h
theorem VJ{P:b5}{xi:Nat}{mk:∀Y:Loc,Loc} {fE:b5} {Q:∀Y:ah,∀Y:St,Prop} {loc:Loc} {kI st:St} (L:Loc) (heq:mk loc=L) {v:ah} {xs:List ah} (f:∀Y:ah,ah) (dj:∀a6:∀Y:ah,∀Y:St,Prop,∀Y:a6 v st,P a6 loc kI) (hi:∀g,ju v (st++g)=some xs) (ai:xs.length≤100000)
 (g9:∀y∈xs,∀(a6:∀Y:ah,∀Y:St,Prop) g,∀Y:a6 (f y) (st++g),fE a6 (setV L xi y) (st++g)) (bb:Q (.ref st.length) (st++[.list (xs.map f)])):qJ P xi mk (fun{Q}{_}{st}=>Q true st) fE Q loc kI:=by
 refine nG L heq (fun u s=>u=v∧st=s) (fun a6 a7=>dj _ (a7 _ _ ⟨rfl,rfl⟩)) ?_;intro _ _;refine ar ?_;rintro rfl rfl;refine(cD xs (fun n s=>st++[.list ((xs.take n).map f)]=s) ⟨by simp,fun n s h=>by rw[←h];exact hi _,?_,?_⟩)
 ·rintro n s y rfl au;have az:n<xs.length:=(List.getElem?_eq_some_iff.mp au).1;refine⟨fun b s'=>b=true∧st++[.list ((xs.take n).map f)]=s',fun a6 a7=>a7 _ _ ⟨rfl,rfl⟩,?_,fun s' ck=>Bool.noConfusion ck.1⟩;intro _;refine ar ?_;rintro _ rfl;refine g9 y (List.mem_of_getElem? au) _ _ ?_;refine oO (by rw[List.length_map];have:=List.length_take_le n xs;exact aA (.i 1000000 (.l .q (.k 100000)) (.i 1000000 (.t .r .q) (.i 1000000 (.l .p .r) (.G 99998 (.l .p (.k 1000000)))))) rfl ai az this) ?_;show _=_;rw[List.take_add_one,au];simp
 ·rintro n s rfl hle;rw[List.take_of_length_le hle];exact bb
theorem VK{α:Type}{P:b5}{xi:Nat}{mk:∀Y:Loc,Loc} {fE:b5} {Q:∀Y:ah,∀Y:St,Prop} {loc:Loc} {st:St} (L:Loc) (heq:mk loc=L) {v:ah} (zs:List α) (h f:∀Y:α,ah) (dj:∀a6:∀Y:ah,∀Y:St,Prop,∀Y:a6 v st,P a6 loc st) (hi:∀g,ju v (st++g)=some (zs.map h)) (ai:zs.length≤100000)
 (g9:∀z∈zs,∀(a6:∀Y:ah,∀Y:St,Prop) g,∀Y:(∀g2,a6 (f z) (st++g++g2)),fE a6 (setV L xi (h z)) (st++g)) (bb:∀g,Q (.ref st.length) (st++.list (zs.map f)::g)):qJ P xi mk (fun{Q}{_}{st}=>Q true st) fE Q loc st:=by
 refine nG L heq (fun u s=>u=v∧st=s) (fun a6 a7=>dj _ (a7 _ _ ⟨rfl,rfl⟩)) ?_;intro _ _;refine ar ?_;rintro rfl rfl;refine⟨zs.map h,fun n s=>∃g,st++.list ((zs.take n).map f)::g=s,⟨[],by simp⟩,fun n s⟨g,e⟩=>by rw[←e];exact hi _,?_,?_⟩
 ·intro n s y;refine aj ?_;rintro g rfl;intro au;have az:n<zs.length:=by simpa using(List.getElem?_eq_some_iff.mp au).1
  have aT:zs[n]?=some zs[n]:=List.getElem?_eq_getElem az;rw[List.getElem?_map,aT]at au;cases au
  refine⟨fun b s'=>b=true∧st++.list ((zs.take n).map f)::g=s',fun a6 a7=>a7 _ _ ⟨rfl,rfl⟩,?_,fun s' ck=>Bool.noConfusion ck.1⟩;intro _;refine ar ?_;rintro _ rfl;refine g9 zs[n] (List.getElem_mem az) _ _ fun g2=>?_;refine append_at (xs:=(zs.take n).map f) (by rw[List.append_assoc];simp) (by rw[List.length_map];have:=List.length_take_le n zs;exact aA (.i 1000000 (.l .q (.k 100000)) (.i 1000000 (.t .r .q) (.i 1000000 (.l .p .r) (.G 99998 (.l .p (.k 1000000)))))) rfl ai az this) ⟨g++g2,?_⟩;have f9:(zs.take (n+1)).map f=(zs.take n).map f++[f zs[n]]:=by rw[List.take_add_one,aT,List.map_append];rfl
  rw[List.append_assoc,oN,f9];simp only[List.cons_append,List.set_cons_zero]
 ·intro n s;refine aj ?_;rintro g rfl;intro hle;rw[List.take_of_length_le (by simpa using hle)];exact bb g
noncomputable def oX(row other:List Int):Bool:=!decide (other=row)&&decide (∀x∈other,x∈row)
open Classical in
theorem VL{aF ew:Nat}(L:ry prog w B aF ew):gx prog w B (g5 (bP 25).scope.names) (k+5) (gu (bP 25).body 10) fun Q loc st=>
 ∃(cS n most last:Nat)(v:ah)(g:List Node)(cs:List (List (List Int)))(S:bN),loc=fr S∧fr S=fr (upd (upd (upd (upd (upd S 4 (some v)) 6 (some (.int n))) 7 (some (.int most))) 8 (some (.ref cS))) 21 (some (.int last)))∧
  xJ aF st v g n most cs cS∧g.length=last+1∧
  ∀LN LO s',Q .next (fr (upd (upd S 22 LN) 23 LO)) (st++s'):=by
 have hs:=L.base.hs;have dM:=L.base.len;have ie:=L.base.range;have oP:=L.base.tuple;have lE:=L.base.sorted;refine aj ?_ L.cls;intro bS;refine ar ?_;intro X ee;have dN:=L.dN;refine aj ?_ L.Lr.ex;intro Vs;refine aY ?_;intro FG FH xu;refine aj ?_ L.U3.ex;intro VM;refine aY ?_;intro VN VO EU;refine@u6 prog w B (g5 (bP 25).scope.names) (k+5) (gu (bP 25).body 10) _ _ (fQ (my (c6 jJ (aw (i:=7) (by kernel_rfl)) bz) (my (c6 BI (c4 (iK X ee dN (aw (i:=4) (by kernel_rfl))) (aw (i:=21) (by kernel_rfl))) lP) (my (c6 qx (bL dM (.inl ⟨_,rfl⟩) fD (aQ (iK X ee dN (aw (i:=4) (by kernel_rfl))) bg) (by kernel_rfl) (by decide+kernel)) bz) vK))) (aZ (dg (i:=22) (mJ (xi:=1) (bL VN VO (EU _) (aQ (bL ie (.inr (.inl ⟨_,rfl⟩)) called_range (aQ bz (aQ (aw (i:=21) (by kernel_rfl)) bg)) (by kernel_rfl) (by decide+kernel)) (aQ (aw (i:=6) (by kernel_rfl)) bg)) (by kernel_rfl) (by decide+kernel)) (y9 (c6 BI (bL FG FH (xu _) (aQ (aw (i:=2) (by kernel_rfl)) (aQ (aw (i:=3) (by kernel_rfl)) (aQ (aw (i:=1) (by kernel_rfl)) bg))) (by kernel_rfl) (by decide+kernel)) lP)) (aw (i:=1) (by kernel_rfl)) (by decide+kernel) (by kernel_rfl)) (by kernel_rfl) (cg (by decide+kernel)) (hs:=by intro env af;rcases env with⟨⟨kind,names⟩⟩;cases af;cases kind<;>kernel_rfl)) (aZ (H5 (wu:=23) (xi:=1) (aw (i:=22) (by kernel_rfl)) (y9 (c6 (tH hs) k4 (mJ (xi:=1) (aw (i:=2) (by kernel_rfl)) om (Td (vI m9 (aw (i:=1) (by kernel_rfl)) (aw (i:=2) (by kernel_rfl))) (vI (tH hs) k4 (mJ (xi:=1) (aw (i:=1) (by kernel_rfl)) om (vI (vM hs) (aw (i:=1) (by kernel_rfl)) (aw (i:=2) (by kernel_rfl))) (by decide+kernel) (by kernel_rfl)))) (by decide+kernel) (by kernel_rfl)))) (aw (i:=1) (by kernel_rfl)) (by decide+kernel) (by kernel_rfl) (by kernel_rfl) (cg (by decide+kernel)) (by intro env ae af;rcases env with⟨⟨kind,names⟩⟩;cases ae;cases af;kernel_rfl)) (aZ (fQ (c6 m9 (bL lE (.inl ⟨_,rfl⟩) (q1 hs) (aQ (mJ (xi:=1) (BO (c4 (aw (i:=8) (by kernel_rfl)) (aw (i:=21) (by kernel_rfl))) (vL bz)) om (bL oP (.inr (.inl ⟨_,rfl⟩)) called_tuple (aQ (aw (i:=1) (by kernel_rfl)) bg) (by kernel_rfl) (by decide+kernel)) (by decide+kernel) (by kernel_rfl)) bg) (by kernel_rfl) (by decide+kernel)) (bL lE (.inl ⟨_,rfl⟩) (q1 hs) (aQ (aw (i:=23) (by kernel_rfl)) bg) (by kernel_rfl) (by decide+kernel))) (aZ (eF k4) bM) bM) bM))) bM) ?_;intro Q _ st;refine Mm ?_;intro cS n most last v g cs S;refine eY ?_;rintro rfl dc I aD post;rw[dc];have p0:=I.gl;have hm:=I.m;have b9:=I.len;have kn:=I.p5;have oA:=post (S 22) (S 23) [];have kr:fr (upd (upd S 22 (S 22)) 23 (S 23))=fr S:=rfl;rw[List.append_nil,kr,dc]at oA;have s6:g[last]?=some g[last]:=List.getElem?_eq_getElem (by exact aq (.i (-1) (.e .q (.b .p)) (.t .p .q)) rfl aD);generalize g[last]=d4 at s6;refine gB (most=60∧d4≠none∧g.length<9) (fun a6 ae af=>?_) (fun h=>?_) fun h=>oA
 ·walk_at "W"
  refine i6 (fun h=>?_) fun h=>af fun q=>h (by exact Int.le_antisymm (aI (.c .p (.k 60) (.L (.n .p) (.k 60))) rfl q.1) (aI (.i (-1) (.e .p (.k 60)) (.L (.k 60) (.n .p))) rfl q.1));refine lC I.nodes fun x ai=>?_;refine item_list ai (by rw[List.length_map];exact fz p0 rfl) (x:=fy d4) (by rw[gC,List.getElem?_map,s6];rfl) ?_
  have qc:∀c,∀Y:d4≠none,∀Y:(g.length<9↔c=true),pg true (fy d4) .none (fun b aU=>if b=true then sj aF (Str.ofString "nodes") v (fun v aU=>one rU [v] (fun a aU=>pe (fun a b=>decide (a<b)) a (.int 9) (fun b aU=>if b=true then a6 true aU else a6 false aU) aU) aU) aU else a6 false aU) st:=by
   intro c kK _;obtain⟨⟨l,r⟩,rfl⟩:=Option.ne_none_iff_exists'.mp kK;refine VI ?_;rw[if_pos rfl];refine lC I.nodes fun x ai=>jT ai (by rw[List.length_map];exact fz p0 rfl) ?_;rw[List.length_map]
   walk_at "W"
   exact i6 (fun jg=>ae ⟨by exact Nat.le_antisymm (aI (.ak (.n .p) (.k 60) (.l .p (.k 60))) rfl h) (aI (.i (-1) (.E (.n .p) (.k 60)) (.l (.k 60) .p)) rfl h),by simp,by exact aI (.B (.n .p) (.k 9) (.t .p (.k 9))) rfl jg⟩) fun jg=>af fun q=>jg (by exact aI (.b .p (.k 9) (.T (.n .p) (.k 9))) rfl q.2.2)
  by_cases kK:d4=none
  ·subst kK;refine VH ?_;rw[if_neg Bool.false_ne_true];exact af fun q=>q.2.1 rfl
  ·exact qc (decide (g.length<9)) kK (by simp)
 ·refine aY ?_ h;clear h;rintro rfl kK jg
  have jQ:1≤last:=by
   apply Classical.byContradiction;intro h;have aV:last=0:=by exact Nat.le_antisymm (aI (.n (.l .o .p) (.l .p .z)) rfl h) (aI (.l .z .p) rfl)
   subst aV;exact kK (Option.some.inj (s6.symm.trans I.valid.zero))
  have A4:=Ld (last-1) (by exact(Nat.le_total (1:Nat) _).elim (fun ay=>aA (.i (-1) (.e .q (.b .r)) (.b .q (.k 9) (.c (.b .p) .r (.t .p (.k 7))))) rfl aD jg (Nat.sub_add_cancel ay)) (fun aE=>aq (.i 6 (.l .q .o) (.i 6 (.l .p .q) (.t .p (.k 7)))) rfl aE (Nat.sub_le _ (1:Nat)))) n (by exact fz kn rfl)
  walk_at "W"
  refine a8 ?_;refine nG [none,none,some v,some (.int last)] (by kernel_rfl) (fun y s=>∃s',y=.ref (st++s').length∧s=st++s'++[.list ((ig (last-1) n).map aS)]) (fun a6 a7=>?_) ?_
  ·walk_at "W"
   show ET [.range 1 (last:Int),.int n] a6 st;refine(cD (last-1) n ⟨by rw[show((last-1:Nat):Int)+1=(last:Int) by exact Int.le_antisymm (aq (.c (.b .p) .q (.L (.a (.n .p) (.k 1)) (.n .q))) rfl (Nat.sub_add_cancel (aI (.a .o .p (.l .o .p)) rfl jQ))) (aq (.a .p (.b .q) (.L (.n .p) (.a (.n .q) (.k 1)))) rfl (cj _ (1:Nat)))],by exact aA (.i (-10) (.e .q (.b .r)) (.i 10 (.t .q (.k 9)) (.i 10 (.l .p .r) (.G 6 (.l .p (.k 10)))))) rfl aD jg (Nat.sub_le _ (1:Nat)),fun s'=>?_⟩);rw[←List.length_append];exact a7 _ _ ⟨s',rfl,rfl⟩
  ·intro _ _;refine aj ?_;intro s';refine ar ?_;rintro rfl rfl;have A5:∀g,listAt (.ref (st++s').length) (st++s'++[.list ((ig (last-1) n).map aS)]++g)=some ((ig (last-1) n).map aS):=fun g=>jz (iM ..) g;have A6:=fun g=>gP (gP (gP I.nodes s') [.list ((ig (last-1) n).map aS)]) g;have p9:dz g last n=(ig (last-1) n).filter fun r=>decide (Cut g r last):=rfl;have oS:∀r∈ig (last-1) n,r.length≤n:=fun r aC=>((AM n (last-1) r).mp aC).2.2;generalize ig (last-1) n=rows at A4 A5 A6 p9 oS ⊢;generalize LP:st++s'++[bB.list (rows.map aS)]=gM at A5 A6 ⊢;refine⟨rows.map aS,fun i s=>∃cL,s=gM++bB.list (((rows.take i).filter fun r=>decide (Cut g r last)).map aS)::cL,⟨[],by simp⟩,?_,?_,?_⟩
   ·intro i s;refine aj ?_;rintro cL rfl;exact A5 _
   ·intro i s y;refine aj ?_;rintro cL rfl;intro au;have hi:i<rows.length:=by simpa using(List.getElem?_eq_some_iff.mp au).1
    have mU:rows[i]?=some rows[i]:=List.getElem?_eq_getElem hi;rw[List.getElem?_map,mU]at au;cases au
    have f9:(rows.take (i+1)).filter (fun r=>decide (Cut g r last))=(rows.take i).filter (fun r=>decide (Cut g r last))++[rows[i]].filter fun r=>decide (Cut g r last):=by rw[List.take_add_one,mU,←List.filter_append];rfl
    have kj:((rows.take i).filter fun r=>decide (Cut g r last)).length≤42:=Nat.le_trans (List.length_filter_le ..) (by have:=List.length_take_le i rows;exact aA (.i 42 (.l .q (.k 42)) (.i 42 (.t .r .q) (.i 42 (.l .p .r) (.G 40 (.l .p (.k 42)))))) rfl A4 hi this);generalize (rows.take i).filter (fun r=>decide (Cut g r last))=dD at f9 kj ⊢;generalize rows[i]=row at f9 mU ⊢;refine⟨fun b s=>b=decide (Cut g row last)∧∃cL,s=gM++bB.list (dD.map aS)::cL,fun a6 a7=>?_,?_,?_⟩
    ·walk_at "W"
     refine(dX v g last row ⟨rfl,A6 _,I.valid,by exact aq (.i (-1) (.e .q (.b .p)) (.t .p .q)) rfl aD,fun aG ys g2 ae af=>?_,fun aG g2=>?_⟩)
     ·refine a7 true _ ⟨(decide_eq_true aG).symm,cL++g2++[bB.list (ys.map fun j:Nat=>.int j)],by simp⟩
     ·refine a7 false _ ⟨(decide_eq_false aG).symm,cL++g2,by simp⟩
    ·rintro _ ⟨av,cL,rfl⟩
     walk_at "W"
     refine append_at (xs:=dD.map aS) (by simp) (by rw[List.length_map];exact eZ kj rfl) ⟨cL,?_⟩;rw[oN,f9,List.filter_cons,if_pos av.symm];simp
    ·rintro _ ⟨av,cL,rfl⟩;refine⟨cL,?_⟩;rw[f9,List.filter_cons,if_neg (by rw[←av];exact Bool.false_ne_true)];simp
   ·intro i s;refine aj ?_;rintro cL rfl;intro hle;rw[List.take_of_length_le (by simpa using hle),←p9];have FT:(dz g last n).length≤42:=by rw[p9];exact Nat.le_trans (List.length_filter_le ..) A4
    have VP:=oS;clear A4 A5 A6 oS
    have VQ:∀r∈dz g last n,r.length≤3:=fun r aC=>by
     have:=VP r (by rw[p9]at aC;exact(List.mem_filter.mp aC).1);exact aq (.a .q (.k 3) (.a .p .q (.l .p (.k 3)))) rfl kn this
    have aP:∀g2,listAt (.ref gM.length) (gM++bB.list ((dz g last n).map aS)::cL++g2)=some ((dz g last n).map aS):=fun g2=>jz (cG (by simp)) g2;have e:gM++bB.list ((dz g last n).map aS)::cL=st++(s'++bB.list (rows.map aS)::bB.list ((dz g last n).map aS)::cL):=by rw[←LP];simp
    rw[e]at aP ⊢;generalize s'++bB.list (rows.map aS)::bB.list ((dz g last n).map aS)::cL=fF at aP ⊢;generalize gM.length=p at aP ⊢;have FU:nO (dz g last n)=(dz g last n).filter fun r=>decide (¬∃o∈dz g last n,o≠r∧Sub o r):=rfl;clear p9 LP e
    walk_at "W"
    refine a8 ?_;refine nG [none,none,some (.ref p)] (by kernel_rfl) (fun y s=>y=.ref p∧st++fF=s) (fun a6 a7=>?_) ?_
    ·walk_at "W"
     exact a7 _ _ ⟨rfl,rfl⟩
    ·intro _ _;refine ar ?_;rintro rfl rfl;refine⟨(dz g last n).map aS,fun i s=>∃cL,s=st++fF++bB.list ((((dz g last n).take i).filter fun r=>decide (¬∃o∈dz g last n,o≠r∧Sub o r)).map aS)::cL,⟨[],by simp⟩,?_,?_,?_⟩
     ·intro i s;refine aj ?_;rintro cL rfl;exact aP _
     ·intro i s y;refine aj ?_;rintro cL rfl;intro au;have hi:i<(dz g last n).length:=by simpa using(List.getElem?_eq_some_iff.mp au).1
      have mU:(dz g last n)[i]?=some (dz g last n)[i]:=List.getElem?_eq_getElem hi;have VR:=List.mem_of_getElem? mU;rw[List.getElem?_map,mU]at au;cases au
      have kj:(((dz g last n).take i).filter fun r=>decide (¬∃o∈dz g last n,o≠r∧Sub o r)).length≤42:=Nat.le_trans (List.length_filter_le ..) (by have:=List.length_take_le i (dz g last n);exact aA (.i 42 (.l .q (.k 42)) (.i 42 (.t .r .q) (.i 42 (.l .p .r) (.G 40 (.l .p (.k 42)))))) rfl FT hi this);have f9:((dz g last n).take (i+1)).filter (fun r=>decide (¬∃o∈dz g last n,o≠r∧Sub o r))=((dz g last n).take i).filter (fun r=>decide (¬∃o∈dz g last n,o≠r∧Sub o r))++[(dz g last n)[i]].filter fun r=>decide (¬∃o∈dz g last n,o≠r∧Sub o r):=by rw[List.take_add_one,mU,←List.filter_append];rfl
      generalize ((dz g last n).take i).filter (fun r=>decide (¬∃o∈dz g last n,o≠r∧Sub o r))=dD at f9 kj ⊢;generalize (dz g last n)[i]=row at f9 mU VR ⊢;refine⟨fun b s=>b=decide (¬∃o∈dz g last n,o≠row∧Sub o row)∧∃cL,s=st++fF++bB.list (dD.map aS)::cL,fun a6 a7=>?_,?_,?_⟩
      ·walk_at "W"
       refine VK [none,none,some (aS row)] (by kernel_rfl) (v:=.ref p) (dz g last n) aS (fun o=>.bool (oX row o)) (fun a6 jo=>?_) (fun g2=>?_) (by exact eZ FT rfl) (fun o bx X5 g2 jo=>?_) fun g2=>?_
       ·walk_at "W"
        exact jo
       ·rw[List.append_assoc];exact aP _
       ·have KL:=VQ o bx
        walk_at "W"
        refine Fw ?_;by_cases heq:o=row
        ·rw[decide_eq_true heq];simp only[wc,Bool.true_xor,Bool.not_true,Bool.false_eq_true,if_false];have aV:=jo [];rw[List.append_nil]at aV;have e:oX row o=false:=by unfold oX;rw[decide_eq_true heq];rfl
         rwa [e]at aV
        ·rw[decide_eq_false heq];simp only[wc,Bool.true_xor,Bool.not_false,if_true];refine comp_map [none,none,some (aS row)] (by kernel_rfl) (v:=aS o) (xs:=o.map .int) (fun y=>.bool (match y with|.int x=>decide (x∈row)|_=>false)) (fun a6 FW=>?_) (fun g=>rfl) (by rw[List.length_map];exact eZ KL rfl) ?_ ?_
         ·walk_at "W"
          exact FW
         ·intro y au a6 g FW;refine aj ?_ (List.mem_map.mp au);intro x;refine ar ?_;rintro ai rfl
          walk_at "W"
          exact Aq FW
         ·have e:(o.map ah.int).map (fun y=>ah.bool (match y with|.int x=>decide (x∈row)|_=>false))=(o.map fun x=>decide (x∈row)).map .bool:=by simp[List.map_map,Function.comp_def]
          rw[e];refine Fx (iM ..) ?_
          have aW:(!decide (false∈o.map fun x=>decide (x∈row)))=oX row o:=by
           unfold oX;rw[decide_eq_false heq,Bool.not_false,Bool.true_and];by_cases aJ:∀x∈o,x∈row
           ·rw[decide_eq_true aJ,decide_eq_false]
            ·rfl
            ·rw[List.mem_map];refine aj ?_;intro x;refine ar ?_;intro ai VS;exact of_decide_eq_false VS (aJ x ai)
           ·rw[decide_eq_false aJ,decide_eq_true]
            ·rfl
            ·rw[List.mem_map];apply Classical.byContradiction;intro h;exact aJ fun x ai=>Classical.byContradiction fun rm=>h ⟨x,ai,decide_eq_false rm⟩
          rw[aW];exact jo _
       ·have e:(dz g last n).map (fun o=>ah.bool (oX row o))=((dz g last n).map (oX row)).map .bool:=by simp[List.map_map,Function.comp_def]
        refine Fx (bs:=(dz g last n).map (oX row)) (by rw[←e];exact cG (by simp)) ?_;refine a7 _ _ ⟨?_,cL++bB.list ((dz g last n).map fun o=>ah.bool (oX row o))::g2,by simp⟩;rw[←decide_not,decide_eq_decide];refine not_congr ?_;rw[List.mem_map];refine exists_congr fun o=>and_congr Iff.rfl ?_;unfold oX;rw[Bool.and_eq_true,decide_eq_true_eq,Bool.not_eq_true',decide_eq_false_iff_not];exact Iff.rfl
      ·rintro _ ⟨av,cL,rfl⟩
       walk_at "W"
       refine append_at (xs:=dD.map aS) (by simp) (by rw[List.length_map];exact eZ kj rfl) ⟨cL,?_⟩;rw[oN,f9,List.filter_cons,if_pos av.symm];simp
      ·rintro _ ⟨av,cL,rfl⟩;refine⟨cL,?_⟩;rw[f9,List.filter_cons,if_neg (by rw[←av];exact Bool.false_ne_true)];simp
     ·intro i s;refine aj ?_;rintro cL rfl;intro hle;rw[List.take_of_length_le (by simpa using hle),←FU];have kQ:(st++fF++bB.list ((nO (dz g last n)).map aS)::cL)[(st++fF).length]?=some (.list ((nO (dz g last n)).map aS)):=by simp
      have LQ:(nO (dz g last n)).length≤42:=by rw[FU];exact Nat.le_trans (List.length_filter_le ..) FT
      generalize (st++fF).length=q at kQ ⊢;rw[List.append_assoc]at kQ ⊢;generalize fF++bB.list ((nO (dz g last n)).map aS)::cL=kR at kQ ⊢;refine aj ?_ I.tab;intro rs;refine aY ?_;intro ml gO p6;have aG:cs[last]?=some cs[last]:=List.getElem?_eq_getElem (by exact aA (.i (-1) (.e .r (.b .p)) (.i (-1) (.e .q .r) (.t .p .q))) rfl aD b9);generalize cs[last]=c at aG;refine aj ?_ (p6 _ _ aG);intro r;refine aY ?_;intro jB A2 rz;refine aj ?_ (E7 I.valid I.Fz jQ aG);intro aB;refine cH ?_;rintro rfl fW ff _;have pX:=complete I.valid I.Fz I.len kn aD (by exact aq (.i (-1) (.e .q (.b .p)) (.b .q (.k 9) (.l .p (.k 7)))) rfl aD jg) jQ aG fW;have LM:=(List.getElem?_eq_some_iff.mp jB).1;clear FU aP hle;generalize nO (dz g last n)=ls at kQ LQ pX ⊢;have hlen:((aB++[[(last:Int)]]).map aS).length=aB.length+1:=by simp
      walk_at "W"
      refine a8 (u7 (fun a6 a7=>?_) fun g2=>?_)
      ·walk_at "W"
       refine VJ [none,none] (by kernel_rfl) (st:=st++kR++[.list (aB.map aS)]) (v:=.ref (st++kR).length) (xs:=aB.map aS) (fun y=>y) (fun a6 jo=>?_) (fun g=>uK (jz (iM ..) g)) (by rw[List.length_map];exact eZ ff rfl) (fun y au a6 g jo=>?_) ?_
       ·walk_at "W"
        refine item_list (jz (cG ml) _) (by rw[List.length_map];exact aA (.i 999999999 (.e .q .r) (.i 999999999 (.t .r (.k 9)) (.i 999999999 (.e .p .q) (.G 7 (.t .p (.k 1000000000)))))) rfl b9 jg gO) (x:=.ref r) (by rw[gC,List.getElem?_map,jB];rfl) ?_;refine neg_int (fS (G5 (jz (cG rz) kR)) ⟨⟨by rw[hlen];exact aI (.i 333333 (.l .p (.k 60)) (.G 19 (.l (.b .p) (.k 1000000)))) rfl ff,.inr rfl⟩,?_⟩)
        have e:(if(0:Int)≤-1 then((aB++[[(last:Int)]]).map aS).take (-1:Int).toNat else((aB++[[(last:Int)]]).map aS).take (((aB++[[(last:Int)]]).map aS).length-1))=aB.map aS:=by
         rw[if_neg (by decide),hlen,List.map_append];simp
        rw[e];exact jo
       ·refine aj ?_ (List.mem_map.mp au);intro a;refine ar ?_;rintro aJ rfl;have:=fW.len a aJ
        walk_at "W"
        exact FQ (by exact aq (.i 333 (.l .q (.k 3)) (.i 333 (.l .p .q) (.t .p (.k 1000)))) rfl kn this) jo
       ·rw[List.map_id'];have cP:∀r∈ls,r≠[]:=fun r aC=>fW.ne r (pX.mem_iff.mpr aC);refine .inr ⟨aB,iM ..,by exact eZ ff rfl,fW.ne,fun ys eu=>?_⟩;refine .inr ⟨ls,cG (dS (dS (dS kQ _) _) _),by exact eZ LQ rfl,cP,fun zs A7=>?_⟩;refine Lq (A:=ys) (B:=zs) (jz (iM ..) _) (iM ..) ?_;rw[K9 ((eu.1.trans pX).trans A7.1.symm) eu.2 A7.2,decide_eq_true rfl,Bool.true_xor,Bool.not_true];simp only[List.append_assoc]at a7 ⊢;exact a7 _
      ·rw[List.append_assoc];rw[←u9 (u9 dc)];exact post _ _ _
end Mine
end
section
set_option maxHeartbeats 2000000
namespace Mine
variable{prog:Program}{w:World}{B:Heap}{ak:dB}{k:Nat}
theorem LR{aF:Addr}{st s:St}{h c:Nat}{v:ah}{cV nn bH bJ:Nat}{aB:List Nat}{g:List Node}(_I:ef aF st s h c v cV nn bH bJ aB g){P:b5}{xi:Nat}{mk:∀Y:Loc,Loc} {fE:b5} {Q:∀Y:ah,∀Y:St,Prop} {loc:Loc} (heq:mk loc=[none,none,some (.ref h)])
 (dj:∀a6:∀Y:ah,∀Y:St,Prop,∀Y:(∀(d:Nat) o,∀Y:d<4,∀Y:ef aF st (s.set h o) h c v cV nn bH bJ aB g,a6 (.range 0 (d:Int)) (s.set h o)),P a6 loc s)
 (g9:∀y s1(a6:∀Y:ah,∀Y:St,Prop),∀Y:uR [.ref h,.int 6] a6 s1,fE a6 (setV [none,none,some (.ref h)] xi y) s1)
 (bb:∀ys p s',∀Y:dK ys,∀Y:ys.length≤3,∀Y:s.length≤p,∀Y:ef aF st s' h c v cV nn bH bJ aB g,∀Y:Agree [h] s s',∀Y:s'[p]?=some (.list (ys.map .int)),Q (.ref p) s'):
 qJ P xi mk (fun{Q}{_}{st}=>Q true st) fE (fun v aU=>one DG [v] (fun v cX=>one DM [v] Q cX) aU) loc s:=by
 refine nG [none,none,some (.ref h)] heq (fun u s1=>∃d:Nat,d≤3∧u=.range 0 (d:Int)∧ef aF st s1 h c v cV nn bH bJ aB g∧Agree [h] s s1∧s.length≤s1.length) (fun a6 a7=>dj _ fun d o hd jn=>a7 _ _ ⟨d,by exact qk hd rfl,rfl,jn,Agree.set (by simp) _,by simp⟩) ?_;intro _ s1;refine aj ?_;intro d;refine eY ?_;rintro hd rfl A8 fi hle;have VT:=A8.aG;have jQ:=A8.le;have bC:=A8.lt;refine⟨_,fun i s2=>∃dq:List Int,ef aF st s2 h c v cV nn bH bJ aB g∧Agree [h] s s2∧s2[s1.length]?=some (.list (dq.map .int))∧dq.length=i∧i≤d∧s.length≤s1.length,⟨[],A8.app _,fi.trans (Agree.app _ _ _),jy _ _,rfl,by exact aI (.l .z .p) rfl,hle⟩,fun n s Y=>sX (m:=d) (by exact eZ hd rfl),?_,?_⟩
 ·intro i s2 y;refine aj ?_;intro dq;refine dH ?_;intro bQ A aP iZ hi hle;intro au
  have xD:i<d:=by
   have:=(List.getElem?_eq_some_iff.mp au).1;simpa using this
  refine⟨fun b s'=>b=true∧s2=s',fun a6 a7=>a7 _ _ ⟨rfl,rfl⟩,?_,fun s' ck=>Bool.noConfusion ck.1⟩;intro _;refine ar ?_;rintro _ rfl;refine g9 _ _ _ ?_;refine bQ.pick (m:=6) (by decide) (by decide) fun jI sY xG ru=>?_;have kS:(s2.set h sY)[s1.length]?=some (.list (dq.map .int)):=by rw[List.getElem?_set_ne (by exact fun ay=>aA (.b .p .q (.a .q .r (.i (-1) (.e .p .r) .f))) rfl VT.1 jQ ay)];exact aP
  have fi:Agree [h] s (s2.set h sY):=A.trans (Agree.set (by simp) _);generalize s2.set h sY=oU at ru kS fi ⊢;clear bQ aP A;refine append_at kS (by rw[List.length_map];exact aA (.i 500000 (.l .q (.k 3)) (.i 500000 (.e .p .r) (.i 500000 (.t .r .q) (.l .p (.k 1000000))))) rfl hd iZ xD) ⟨dq++[(jI:Int)],?_,?_,?_,by simp;exact Bp iZ,by exact aq (.b .p .q (.l (.b .p) .q)) rfl xD,hle⟩
  ·exact ru.Lh kS (by exact aq (.a .p .q (.l .p .q)) rfl jQ) (by exact⟨fun ay=>aq (.b .p .q (.c .q .p .f)) rfl bC.1 ay,⟨fun aE=>aq (.b .p .q (.c .q .p .f)) rfl bC.2.1 aE,fun bI=>aq (.b .p .q (.c .q .p .f)) rfl bC.2.2 bI⟩⟩)
  ·intro j o aO hs;have jW:j<s.length:=(List.getElem?_eq_some_iff.mp hs).1;rw[List.getElem?_set_ne (by exact fun ay=>aA (.a .p .q (.b .r .p (.c .q .r .f))) rfl (by assumption) jW ay)];exact fi j o aO hs
  ·rw[List.getElem?_set_self (List.getElem?_eq_some_iff.mp kS).1];simp
 ·intro i s2;refine aj ?_;intro dq;refine dH ?_;intro bQ A aP iZ hi hle;intro _;refine FE (ns:=dq) (cG aP) (by exact aA (.i 899 (.l .q (.k 3)) (.i 899 (.e .p .r) (.i 899 (.l .r .q) (.G 2 (.t .p (.k 900)))))) rfl hd iZ hi) fun ys ms eu ez=>?_;have VU:=(List.getElem?_eq_some_iff.mp aP).1;refine bb ys _ _ eu ?_ (by exact aA (.a .p .r (.b .r .q (.l .p (.b .q)))) rfl (by assumption) VU) (bQ.app _) (A.trans (Agree.app _ _ _)) ?_
  ·have:=u1 (eu.imp fun{a b}(h:a<b)=>(by exact ye h:a≠b)) fun z aT=>(ez z).mp aT;exact bA (.a .q (.k 3) (.c .r .s (.a .s .q (.a .p .r (.l .p (.k 3)))))) rfl hd iZ hi this
  ·rw[show s2++[bB.set ms,.list (ys.map .int)]=(s2++[.set ms])++[.list (ys.map .int)] by simp];rw[show s2.length+1=(s2++[bB.set ms]).length by simp];exact jy _ _
theorem list_tuple{n:Nat}{a:List Int}{Q:∀Y:ah,∀Y:St,Prop} {st:St} (h:st[n]?=some (.list (a.map .int))) (aD:a.length≤1000) (bb:Q (aS a) st):one yD [.ref n] Q st:=JY (cG h) (by exact eZ aD rfl) bb
theorem VV{Q:∀Y:Bool,∀Y:St,Prop} {st:St} (bb:Q true st):m8 false .none .none Q st:=bb
theorem add_lists{m n:Nat}{a b:List Int}{Q:∀Y:ah,∀Y:St,Prop} {st:St} (ae:st[m]?=some (.list (a.map .int))) (af:st[n]?=some (.list (b.map .int))) (aD:a.length+b.length≤1000) (bb:Q (.ref st.length) (st++[.list ((a++b).map .int)])):addQ (.ref m) (.ref n) Q st:=by
 refine rL (cG ae) (cG af) ⟨by rw[List.length_map,List.length_map];exact aq (.i 1000 (.l (.a .p .q) (.k 1000)) (.l (.a .p .q) (.k 1000000))) rfl aD,?_⟩;rw[←List.map_append];exact bb
theorem VW{n:Nat}{st:St}{o:Obj}{ns:List Int}(h:st[n]?=some (.raw o ns)):rT (.ref n) st=some (ns.map .int):=Option.bind_eq_some_iff.mpr ⟨_,h,rfl⟩
noncomputable abbrev VX(ew:Nat)(xs:List ah)(Q:∀Y:ah,∀Y:St,Prop) (st:St):Prop:=∃(i:Nat)(o:Obj)(ns:List Int),xs=[.ref i]∧st[i]?=some (.raw o ns)∧ns.length≤1000000∧st[0]?=some (.tab ew)∧∀s',∀Y:(∀(j:Nat) o,∀Y:st[j]?=some o,s'[j]?=some o),Q (.bool true) s'
theorem VY{a aF ew:Nat}(F:dU B 25 a)(L:ry prog w B aF ew):b8 prog w B (k+6) (.ref a) (VX ew):=by
 have G:=L.base;have hs:=L.base.hs;have dM:=L.base.len;have ie:=L.base.range;have oP:=L.base.tuple;have FF:=L.base.list;have xN:=L.base.set;have EL:=L.base.sum;have lE:=L.base.sorted;refine aj ?_ L.cls;intro bS;refine ar ?_;intro X ee;have dN:=L.dN;refine aj ?_ L.pick.ex;intro AU;refine aY ?_;intro mV mW lH;refine aj ?_ L.graph.ex;intro X6;refine aY ?_;intro VZ V0 Ff;refine aj ?_ L.sets.ex;intro VM;refine aY ?_;intro V1 V2 Ew;refine aj ?_ L.merge.ex;intro ri;refine aY ?_;intro Ep Er xd;refine@dU.iB prog w B (k+5) _ _ _ _ 1 26 F (by decide+kernel) G.er (by decide+kernel) (by decide+kernel) (aZ (dg (i:=1) (BO (aw (i:=0) (by kernel_rfl)) bz) (by kernel_rfl) (cg (by decide+kernel))) (aZ (dg (i:=2) (jb (aQ (aw (i:=1) (by kernel_rfl)) (aQ bz (aQ bz (aQ (cY vQ (cY tD (bL EL (.inl ⟨_,rfl⟩) He (aQ (aw (i:=1) (by kernel_rfl)) bg) (by kernel_rfl) (by decide+kernel)) bz) bz) bg))))) (by kernel_rfl) (cg (by decide+kernel))) (aZ (dg (i:=3) (cY o9 bz (bL mV mW (lH _) (aQ (aw (i:=2) (by kernel_rfl)) (aQ bz bg)) (by kernel_rfl) (by decide+kernel))) (by kernel_rfl) (cg (by decide+kernel))) (aZ (OH (i:=4) (j:=5) (bL VZ V0 (Ff _) (aQ (aw (i:=2) (by kernel_rfl)) (aQ (aw (i:=3) (by kernel_rfl)) (aQ bz bg))) (by kernel_rfl) (by decide+kernel)) (by kernel_rfl) (cg (by decide+kernel)) (by kernel_rfl) (cg (by decide+kernel))) (aZ (dg (i:=6) (cY o9 bz (bL mV mW (lH _) (aQ (aw (i:=2) (by kernel_rfl)) (aQ bz bg)) (by kernel_rfl) (by decide+kernel))) (by kernel_rfl) (cg (by decide+kernel))) (aZ (dg (i:=7) (c4 (jb (aQ bz (aQ bz (aQ bz (aQ bz bg))))) (bL mV mW (lH _) (aQ (aw (i:=2) (by kernel_rfl)) (aQ bz bg)) (by kernel_rfl) (by decide+kernel))) (by kernel_rfl) (cg (by decide+kernel))) (aZ (dg (i:=8) (bL V1 V2 (Ew _) (aQ (aw (i:=4) (by kernel_rfl)) (aQ (aw (i:=6) (by kernel_rfl)) (aQ (aw (i:=7) (by kernel_rfl)) bg))) (by kernel_rfl) (by decide+kernel)) (by kernel_rfl) (cg (by decide+kernel))) (aZ (fQ (gX (c6 m9 (bL dM (.inl ⟨_,rfl⟩) fD (aQ (aw (i:=8) (by kernel_rfl)) bg) (by kernel_rfl) (by decide+kernel)) (bL dM (.inl ⟨_,rfl⟩) fD (aQ (iK X ee dN (aw (i:=4) (by kernel_rfl))) bg) (by kernel_rfl) (by decide+kernel))) (gX (c6 m9 (mJ (xi:=1) (c4 (aw (i:=8) (by kernel_rfl)) bz) om (bL oP (.inr (.inl ⟨_,rfl⟩)) called_tuple (aQ (aw (i:=1) (by kernel_rfl)) bg) (by kernel_rfl) (by decide+kernel)) (by decide+kernel) (by kernel_rfl)) (jb (aQ (lR bg) bg))) ph)) (aZ (eF k4) bM) bM) (aZ (VF L) (aZ (dg (i:=21) (cY rP (bL dM (.inl ⟨_,rfl⟩) fD (aQ (iK X ee dN (aw (i:=4) (by kernel_rfl))) bg) (by kernel_rfl) (by decide+kernel)) bz) (by kernel_rfl) (cg (by decide+kernel))) (aZ (VL L) (aZ (dg (i:=15) (bL lE (.inl ⟨_,rfl⟩) (q1 hs) (aQ (bL xN (.inr (.inl ⟨_,rfl⟩)) called_set (aQ (mJ (xi:=1) (bL ie (.inr (.inl ⟨_,rfl⟩)) called_range (aQ (bL mV mW (lH _) (aQ (aw (i:=2) (by kernel_rfl)) (aQ bz bg)) (by kernel_rfl) (by decide+kernel)) bg) (by kernel_rfl) (by decide+kernel)) om (bL mV mW (lH _) (aQ (aw (i:=2) (by kernel_rfl)) (aQ bz bg)) (by kernel_rfl) (by decide+kernel)) (by decide+kernel) (by kernel_rfl)) bg) (by kernel_rfl) (by decide+kernel)) bg) (by kernel_rfl) (by decide+kernel)) (by kernel_rfl) (cg (by decide+kernel))) (aZ (dg (i:=24) (bL lE (.inl ⟨_,rfl⟩) (q1 hs) (aQ (bL xN (.inr (.inl ⟨_,rfl⟩)) called_set (aQ (mJ (xi:=1) (bL ie (.inr (.inl ⟨_,rfl⟩)) called_range (aQ (bL mV mW (lH _) (aQ (aw (i:=2) (by kernel_rfl)) (aQ bz bg)) (by kernel_rfl) (by decide+kernel)) bg) (by kernel_rfl) (by decide+kernel)) om (bL mV mW (lH _) (aQ (aw (i:=2) (by kernel_rfl)) (aQ bz bg)) (by kernel_rfl) (by decide+kernel)) (by decide+kernel) (by kernel_rfl)) bg) (by kernel_rfl) (by decide+kernel)) bg) (by kernel_rfl) (by decide+kernel)) (by kernel_rfl) (cg (by decide+kernel))) (aZ (dg (i:=25) (bL oP (.inr (.inl ⟨_,rfl⟩)) called_tuple (aQ (bL lE (.inl ⟨_,rfl⟩) (q1 hs) (aQ (bL xN (.inr (.inl ⟨_,rfl⟩)) called_set (aQ (cY o9 (aw (i:=15) (by kernel_rfl)) (aw (i:=24) (by kernel_rfl))) bg) (by kernel_rfl) (by decide+kernel)) bg) (by kernel_rfl) (by decide+kernel)) bg) (by kernel_rfl) (by decide+kernel)) (by kernel_rfl) (cg (by decide+kernel))) (aZ (eF (vI jJ (bL Ep Er (xd _) (aQ (bL oP (.inr (.inl ⟨_,rfl⟩)) called_tuple (aQ (aw (i:=15) (by kernel_rfl)) bg) (by kernel_rfl) (by decide+kernel)) (aQ (bL oP (.inr (.inl ⟨_,rfl⟩)) called_tuple (aQ (aw (i:=24) (by kernel_rfl)) bg) (by kernel_rfl) (by decide+kernel)) (aQ (aw (i:=6) (by kernel_rfl)) bg))) (by kernel_rfl) (by decide+kernel)) (D9 (c6 Nj (bL dM (.inl ⟨_,rfl⟩) fD (aQ (aw (i:=25) (by kernel_rfl)) bg) (by kernel_rfl) (by decide+kernel)) (aw (i:=6) (by kernel_rfl))) (aw (i:=25) (by kernel_rfl)) lP))) bM))))))))))))))) ?_;intro _ Q st;refine bG ?_;intro i bO ns;refine eY ?_;rintro rfl hi w6 aV q;refine⟨rfl,?_⟩;rw[show initLoc 26 [ah.ref i]=fr (upd (fun Y=>none) 0 (some (.ref i)))from rfl];refine a8 ?_
 walk_at "W"
 have b9:(ns.take 63).length≤63:=List.length_take_le ..;refine fS (VW hi) ⟨⟨by rw[List.length_map];exact w6,.inl (by decide)⟩,?_⟩
 have e:(if(0:Int)≤63 then(ns.map ah.int).take (63:Int).toNat else(ns.map ah.int).take ((ns.map ah.int).length-1))=(ns.take 63).map .int:=by
  rw[if_pos (by decide),List.map_take];rfl
 rw[e]
 walk_at "W"
 refine a8 ?_
 walk_at "W"
 refine sum_list (iM ..) ?_
 walk_at "W"
 refine⟨by decide,?_⟩;have FY:0≤(ns.take 63).sum.fmod 100003:=Int.fmod_nonneg_of_pos _ (by decide);have ly:(ns.take 63).sum.fmod 100003<100003:=Int.fmod_lt_of_pos _ (by decide);generalize (ns.take 63).sum.fmod 100003=rA at FY ly ⊢;refine⟨⟨by lia,by decide⟩,by decide,?_⟩
 have u4:mq (st++[.list ((ns.take 63).map .int)]++[.list [.ref st.length,.int 0,.int 0,.int (rA*7)]]) (st.length+1) st.length:=by
  refine(dX (ns.take 63) 0 ((rA*7).toNat) 0 ⟨?_,by exact fun ay=>aI (.i (-1) (.e .p (.b .p)) .f) rfl ay,dS (jy _ _) _,Nat.zero_le _,by exact eZ b9 rfl,by exact MZ ly,by decide⟩);rw[show((rA*7).toNat:Int)=rA*7 by exact M0 FY];simp
 have FZ:(st++[bB.list ((ns.take 63).map .int)]++[bB.list [.ref st.length,.int 0,.int 0,.int (rA*7)]])[0]?=some (.tab ew):=dS (dS aV _) _;have Ka:0<st.length:=(List.getElem?_eq_some_iff.mp aV).1;have A9:∀(j:Nat) o,∀Y:st[j]?=some o,j<st.length∧(st++[bB.list ((ns.take 63).map .int)]++[bB.list [.ref st.length,.int 0,.int 0,.int (rA*7)]])[j]?=some o:=fun j o e=>⟨(List.getElem?_eq_some_iff.mp e).1,dS (dS e _) _⟩;have k6:(st++[bB.list ((ns.take 63).map .int)]).length=st.length+1:=by simp
 have rt:(st++[bB.list ((ns.take 63).map .int)]++[bB.list [.ref st.length,.int 0,.int 0,.int (rA*7)]]).length=st.length+2:=by simp
 rw[k6];generalize st++[bB.list ((ns.take 63).map .int)]++[bB.list [.ref st.length,.int 0,.int 0,.int (rA*7)]]=s1 at u4 FZ rt A9 ⊢;generalize st.length=c at u4 Ka rt A9 ⊢;clear FY ly k6 e
 walk_at "W"
 refine a8 ?_
 walk_at "W"
 refine(cE (c+1) c 3 ⟨rfl,u4,by decide,by decide,fun d o hd F0=>?_⟩);have F1:(s1.set (c+1) o)[0]?=some (.tab ew):=by rw[List.getElem?_set_ne (by exact fun ay=>aI (.c (.b .p) .z .f) rfl ay)];exact FZ
 have xS:(s1.set (c+1) o).length=c+2:=by rw[List.length_set,rt]
 have mr:∀(j:Nat) cf,∀Y:st[j]?=some cf,j<c∧(s1.set (c+1) o)[j]?=some cf:=fun j cf e=>by
  have:=A9 j cf e;exact⟨this.1,by rw[List.getElem?_set_ne (by exact fun ay=>aq (.b .p .q (.c (.b .q) .p (.F 1))) rfl this.1 ay)];exact this.2⟩
 generalize s1.set (c+1) o=s2 at F0 F1 xS mr ⊢;clear u4 FZ rt A9
 walk_at "W"
 have Cm:(1:Int)+(d:Int)=((1+d:Nat):Int):=by exact Int.le_antisymm (aI (.L (.a (.k 1) (.n .p)) (.n (.a .o .p))) rfl) (aI (.L (.n (.a .o .p)) (.a (.k 1) (.n .p))) rfl)
 rw[Cm];refine a8 ?_
 walk_at "W"
 refine(cE (c+1) c (1+d) ⟨rfl,F0,by exact aq (.i (-1) (.e .q (.a .p (.k 2))) (.t (.b .p) .q)) rfl xS,by exact aq (.i (-1) (.e .q (.a .p (.k 2))) (.t .p .q)) rfl xS,by exact aI (.b .p (.k 3) (.l (.a .o .p) (.k 3))) rfl hd,fun fF v cV nn bH bJ aB g I b7=>?_⟩);refine J3 ?_
 walk_at "W"
 refine a8 ?_
 walk_at "W"
 refine I.pick (m:=3) (by decide) (by decide) fun gJ xH qa jn=>?_;generalize fF.set (c+1) xH=kR at jn ⊢
 walk_at "W"
 have V3:(1:Int)+(gJ:Int)=((1+gJ:Nat):Int):=by exact Int.le_antisymm (aI (.L (.a (.k 1) (.n .p)) (.n (.a .o .p))) rfl) (aI (.L (.n (.a .o .p)) (.a (.k 1) (.n .p))) rfl)
 rw[V3];refine a8 ?_
 walk_at "W"
 refine⟨by decide,?_⟩
 walk_at "W"
 refine(jn.app _).pick (m:=4) (by decide) (by decide) fun iL F2 V4 mX=>?_;have LS:=jn.le
 have LU:∃most:Nat,([ah.int 60,.int 1,.int 2,.int 60]:List ah)[iL]?=some (.int most)∧most≤60:=by
  rcases(show iL=0∨iL=1∨iL=2∨iL=3 by exact M1 V4)with rfl|rfl|rfl|rfl
  ·exact⟨60,rfl,by decide⟩
  ·exact⟨1,rfl,by decide⟩
  ·exact⟨2,rfl,by decide⟩
  ·exact⟨60,rfl,by decide⟩
 refine aj ?_ LU;clear LU;intro most;refine ar ?_;intro V5 Ba
 have qZ:((kR++[bB.list [.int 60,.int 1,.int 2,.int 60]]).set (c+1) F2)[kR.length]?=some (.list [.int 60,.int 1,.int 2,.int 60]):=by
  rw[List.getElem?_set_ne (by exact fun ay=>aA (.i (-1) (.e .p (.a .q (.k 2))) (.a .p .r (.i (-1) (.e (.b .q) .r) .f))) rfl xS LS ay)];exact jy _ _
 generalize (kR++[bB.list [.int 60,.int 1,.int 2,.int 60]]).set (c+1) F2=iC at mX qZ ⊢;refine item_list (cG qZ) (by simp) (x:=.int most) (by rw[gC];exact V5) ?_;clear jn qZ LS;have LV:iC[0]?=some (.tab ew):=mX.agree _ _ (by simp) F1;have V6:=mX.le;have V7:=mX.lt;clear F0
 walk_at "W"
 refine a8 ?_
 walk_at "W"
 refine(dX v (1+gJ) most g ⟨rfl,mX.aig.ki,mX.aig.valid,LV,by exact aI (.i 49 (.t .p (.k 3)) (.t (.a .o .p) (.k 100))) rfl qa,by exact eZ Ba rfl,fun cs cS g1 oQ dR ck=>?_⟩);have bQ:xJ aF (iC++g1) v g (1+gJ) most cs cS:=⟨gP mX.aig.ki _,mX.aig.valid,dR,oQ,ck,by exact aI (.l .o (.a .o .p)) rfl,by exact aI (.b .p (.k 3) (.l (.a .o .p) (.k 3))) rfl qa,Ba,b7⟩;have F3:=mX.app g1;generalize iC++g1=oU at bQ F3 ⊢;clear mX LV ck V6 V7
 walk_at "W"
 refine aj ?_ bQ.tab;intro rs;refine aY ?_;intro ml gO p6;have F4:0<g.length:=(List.getElem?_eq_some_iff.mp bQ.valid.zero).1
 have xn:cs[0]?=some [[]]:=by
  have h:cs[0]?=some (cs[0]'(by exact aq (.i (-1) (.e .p .q) (.b .z .q (.t .z .p))) rfl oQ F4)):=List.getElem?_eq_getElem (by exact aq (.i (-1) (.e .p .q) (.b .z .q (.t .z .p))) rfl oQ F4)
  rcases dR 0 _ h with⟨_,e⟩|⟨ae,_⟩|⟨ae,_⟩
  ·rw[h,e]
  ·exact Bu ae
  ·exact Bu ae
 refine aj ?_ (p6 0 _ xn);intro rj;refine aY ?_;intro AH _ LW;refine a8 (u7 (fun a6 a7=>?_) fun g2=>?_)
 ·walk_at "W"
  refine jT (cG ml) (by rw[List.length_map];exact aA (.i 999999999 (.l .q (.k 19)) (.i 999999999 (.e .r .q) (.i 999999999 (.e .p .r) (.G 18 (.t .p (.k 1000000000)))))) rfl b7 oQ gO) ?_;rw[List.length_map,gO,oQ]
  walk_at "W"
  refine lC bQ.nodes fun x ai=>jT ai (by rw[List.length_map];exact fz b7 rfl) ?_;rw[List.length_map,Fy,decide_eq_true rfl,Bool.not_true,if_neg Bool.false_ne_true];refine comp_map [none,none] (by kernel_rfl) (v:=.ref rj) (xs:=[[]].map aS) (fun y=>y) (fun a6 jo=>?_) (fun g=>uK (jz (cG LW) g)) (by simp) (fun y au a6 g jo=>?_) ?_
  ·walk_at "W"
   refine item_list (cG ml) (by rw[List.length_map];exact aA (.i 999999999 (.l .q (.k 19)) (.i 999999999 (.e .r .q) (.i 999999999 (.e .p .r) (.G 18 (.t .p (.k 1000000000)))))) rfl b7 oQ gO) (i:=((0:Nat):Int)) (x:=.ref rj) (by rw[gC,List.getElem?_map,AH];rfl) jo
  ·refine aj ?_ (List.mem_map.mp au);intro a;refine ar ?_;rintro aJ rfl;rw[List.mem_singleton.mp aJ]at jo ⊢
   walk_at "W"
   exact FQ (by simp) jo
  ·rw[List.map_id'];refine⟨by decide,by decide,?_⟩;refine Lq (A:=[[]]) (B:=[[]]) (jz (iM ..) _) (iM ..) ?_;rw[decide_eq_true rfl,Bool.true_xor,Bool.not_true,if_neg Bool.false_ne_true,List.append_assoc];exact a7 _
 ·have nP:xJ aF (oU++g2) v g (1+gJ) most cs cS:=⟨gP bQ.nodes _,bQ.valid,dR,oQ,bQ.tab.app _,by exact aI (.l .o (.a .o .p)) rfl,by exact aI (.b .p (.k 3) (.l (.a .o .p) (.k 3))) rfl qa,Ba,b7⟩;have F5:=F3.app g2;generalize oU++g2=u5 at nP F5 ⊢;clear F3 bQ ml LW p6 AH gO
  walk_at "W"
  refine a8 (vn cS (1+gJ) most v g cs _ ⟨rfl,rfl,nP,fun Z g3=>?_⟩);obtain⟨last,F6⟩:∃last,g.length=last+1:=⟨g.length-1,by exact vv F4⟩;have mY:xJ aF (u5++g3) v g (1+gJ) most cs cS:=⟨gP nP.nodes _,nP.valid,dR,oQ,nP.tab.app _,by exact aI (.l .o (.a .o .p)) rfl,by exact aI (.b .p (.k 3) (.l (.a .o .p) (.k 3))) rfl qa,Ba,b7⟩;have F7:=F5.app g3;generalize u5++g3=LL at mY F7 ⊢;clear F5 nP
  walk_at "W"
  refine a8 ?_
  walk_at "W"
  refine lC mY.nodes fun x ai=>jT ai (by rw[List.length_map];exact fz b7 rfl) ?_;rw[List.length_map]
  walk_at "W"
  have LX:(g.length:Int)-1=(last:Int):=by exact Int.le_antisymm (aq (.c .p (.b .q) (.L (.s (.n .p) (.k 1)) (.n .q))) rfl F6) (aq (.i (-1) (.e .q (.b .p)) (.L (.n .p) (.s (.n .q) (.k 1)))) rfl F6)
  rw[LX];refine a8 (Ms cS (1+gJ) most last v g cs _ ⟨rfl,rfl,mY,F6,fun LN LO lM=>?_⟩);have s7:=F7.app lM;generalize LL++lM=V8 at s7 ⊢;clear F7 mY ai
  walk_at "W"
  have V9:=s7.aG;have Bb:∀(j:Nat) o,∀Y:st[j]?=some o,j<c∧V8[j]?=some o:=fun j o e=>⟨(mr j o e).1,s7.agree j o (by have:=(mr j o e).1;simp;exact Bw this) (mr j o e).2⟩;clear mr;have Wa:=s7.le;clear xn F1 xS LX;refine a8 ?_
  walk_at "W"
  refine LR s7 (by kernel_rfl) (fun a6 a7=>?_) (fun y s1 a6 a7=>?_) fun ys p X7 eu kM fO F8 LY aP=>?_
  ·walk_at "W"
   refine s7.pick (m:=4) (by decide) (by decide) fun d o hd jn=>?_
   walk_at "W"
   exact a7 _ _ hd jn
  ·walk_at "W"
   exact a7
  ·clear s7
   walk_at "W"
   refine a8 ?_
   walk_at "W"
   refine LR F8 (by kernel_rfl) (fun a6 a7=>?_) (fun y s1 a6 a7=>?_) fun zs r xT A7 xU X8 Wb F9 aC=>?_
   ·walk_at "W"
    refine F8.pick (m:=4) (by decide) (by decide) fun d o hd jn=>?_
    walk_at "W"
    exact a7 _ _ hd jn
   ·walk_at "W"
    exact a7
   ·have kS:xT[p]?=some (.list (ys.map .int)):=F9 p _ (by simp;exact fun ay=>bA (.b (.b .p) .q (.a .q .r (.a .r .s (.c .s (.b .p) .f)))) rfl V9.1 Wa fO ay) aP;have Wc:∀(j:Nat) o,∀Y:st[j]?=some o,xT[j]?=some o:=fun j o e=>F9 j o (by have:=(Bb j o e).1;simp;exact Bw this) (LY j o (by have:=(Bb j o e).1;simp;exact Bw this) (Bb j o e).2);clear F8 Wb LY F9 aP Bb
    walk_at "W"
    refine a8 ?_
    walk_at "W"
    refine add_lists kS aC (by exact aq (.i 997 (.l .p (.k 3)) (.i 3 (.l .q (.k 3)) (.G 2 (.l (.a .p .q) (.k 1000))))) rfl kM xU) ?_;have qb:=dS kS [.list ((ys++zs).map .int)];have A2:=dS aC [.list ((ys++zs).map .int)];have LZ:=jy xT (.list ((ys++zs).map .int));have L0:∀(j:Nat) o,∀Y:st[j]?=some o,(xT++[bB.list ((ys++zs).map .int)])[j]?=some o:=fun j o e=>dS (Wc j o e) _;generalize xT++[bB.list ((ys++zs).map .int)]=rB at qb A2 LZ L0 ⊢;refine FE (ns:=ys++zs) (cG LZ) (by simp;exact aq (.i 896 (.l .p (.k 3)) (.i 3 (.l .q (.k 3)) (.G 2 (.t (.a .p .q) (.k 900))))) rfl kM xU) fun oY ms L1 rn=>?_;have L2:=dS qb [.set ms,.list (oY.map .int)];have rz:=dS A2 [.set ms,.list (oY.map .int)]
    have L3:(rB++[bB.set ms,.list (oY.map .int)])[rB.length+1]?=some (.list (oY.map .int)):=by
     rw[show rB++[bB.set ms,.list (oY.map .int)]=(rB++[.set ms])++[.list (oY.map .int)] by simp];rw[show rB.length+1=(rB++[bB.set ms]).length by simp];exact jy _ _
    have jW:oY.length≤6:=by
     have:=u1 (L1.imp fun{a b}(h:a<b)=>(by exact ye h:a≠b)) fun z aT=>(rn z).mp aT;rw[List.length_append]at this;exact aA (.a .q (.k 3) (.a .r (.k 3) (.a .p (.a .q .r) (.l .p (.k 6))))) rfl kM xU this
    have Ga:∀(j:Nat) o,∀Y:st[j]?=some o,(rB++[bB.set ms,.list (oY.map .int)])[j]?=some o:=fun j o e=>dS (L0 j o e) _;generalize rB++[bB.set ms,.list (oY.map .int)]=X9 at L2 rz L3 Ga ⊢;refine list_tuple L3 (by exact eZ jW rfl) ?_
    walk_at "W"
    refine a8 ?_
    walk_at "W"
    refine list_tuple L2 (by exact eZ kM rfl) ?_
    walk_at "W"
    refine list_tuple rz (by exact eZ xU rfl) ?_
    walk_at "W"
    refine(cE ys zs (1+gJ) ⟨rfl,by exact fz kM rfl,by exact fz xU rfl,eu,A7,fun m lM hm E9=>?_⟩);have Wd:m=oY:=sQ hm L1 fun z=>by rw[E9,rn,List.mem_append]
    subst Wd;refine Ea (m.length≤1+gJ) (fun a6 ae af=>?_) (fun h=>?_) fun h=>?_
    ·walk_at "W"
     refine mS (by exact fz jW rfl) ?_
     walk_at "W"
     exact kg (fun h=>ae (by have:=of_decide_eq_true h;lia)) fun h=>af (by have:=of_decide_eq_false h;lia)
    ·walk_at "W"
     rw[if_neg (by exact aq (.a .q (.a .o .p) (.o (.t (.a .o .p) .q))) rfl h)];refine Fw ?_;rw[decide_eq_true rfl];exact q _ fun j o e=>dS (Ga j o e) _
    ·walk_at "W"
     rw[if_pos (by exact aq (.n (.l .q (.a .o .p)) (.t (.a .o .p) .q)) rfl h)];exact VV (q _ fun j o e=>dS (Ga j o e) _)
end Mine
end
section
set_option maxHeartbeats 2000000
namespace Mine
variable{prog:Program}{w:World}{h B:Heap}{q:Program}{loose:List Str}{s8:∀Y:ExcName,Option Value} {fC gi:∀Y:Str,Option Value}
noncomputable def Bc:Obj:=⟨.none,none,.fields #[],#[]⟩
structure Hid(h B:Heap):Prop where
 keep:∀b o,∀Y:h.get? b=some o,∀Y:(∀vs n,o.data≠.seq vs n),∀Y:o≠Bc,B.get? b=some o
 of:∀b o,∀Y:B.get? b=some o,h.get? b=some o
theorem We{P L:Addr}{vs:Array Value}{n:Nat}{vO:Obj}(dj:h.get? P=some Bc)(eQ:h.get? L=some vO)(hd:vO.data=.seq vs n):Hid h ((h.hide P).hide L):=by
 refine⟨fun b o e ae af=>?_,fun b o e=>Heap.of_hide (Heap.of_hide e)⟩;have eB:b≠P:=by rintro rfl;rw[e]at dj;exact af (Option.some.inj dj)
 have iR:b≠L:=by rintro rfl;rw[e]at eQ;cases eQ;exact ae _ _ hd
 rw[Heap.hide_ne _ iR,Heap.hide_ne _ eB];exact e
theorem Hid.func(H:Hid h B){b:Addr}{o:Obj}{fd:FuncData}(e:h.get? b=some o)(d:o.data=.func fd):B.get? b=some o:=
 H.keep _ _ e (fun vs n q=>by rw[d]at q;cases q) (by rintro rfl;cases d)
theorem Hid.ns(H:Hid h B){a:Addr}{m:∀Y:Str,Option Value} (x:h.Ns a m):B.Ns a m:=
 let ⟨o,a9,ep,g,d,r⟩:=x
 ⟨o,a9,ep,H.keep _ _ g (fun vs n q=>by rw[d]at q;cases q) (by rintro rfl;cases d),d,r⟩
theorem Hid.code(H:Hid h B){fm:Value}{x:Str}(c:h.CodeRec fm x):B.CodeRec fm x:=by
 refine dF ?_ c;clear c;intro c o vs t;refine cH ?_;intro e g d v;refine⟨c,o,vs,t,e,H.keep _ _ g (fun vs n q=>by rw[d]at q;cases q) ?_,d,v⟩;rintro rfl;cases d
 cases v
theorem Hid.cls(H:Hid h B){ak N:Addr}{bS:∀Y:Str,Option Value} (X:ClsAt h ak N bS):ClsAt B ak N bS:=by
 obtain⟨⟨nm,q,bs,sn,sub,col,rR,nq,cT,eU,iU,nr,e⟩,gk⟩:=X;refine⟨⟨nm,q,bs,sn,sub,col,rR,nq,cT,eU,iU,nr,H.keep _ _ e (fun vs n q=>?_) ?_⟩,H.ns gk⟩
 ·cases q
 ·intro q;cases q
theorem Hid.limit(H:Hid h B)(x:h.NoLimit):B.NoLimit:=let ⟨Wf,a,b⟩:=x;⟨Wf,H.ns a,b⟩
noncomputable abbrev binds(fd:FuncData)(dq:List Str):Prop:=∀vs:List Value,∀Y:vs.length=dq.length,bindArgs fd ⟨vs,[]⟩=pure (dq.zip vs)
theorem xV{P:∀Y:List Value,Prop} (H:P []):∀vs:List Value,∀Y:vs.length=0,P vs:=fun Y h=>(List.length_eq_zero_iff.mp h)▸H
theorem kT{n:Nat}{P:∀Y:List Value,Prop} (H:∀a r,∀Y:r.length=n,P (a::r)):∀vs:List Value,∀Y:vs.length=n+1,P vs:=fun vs h=>by
 cases vs with
 |nil=>cases h
 |cons a r=>exact H a r (Nat.succ.inj h)
theorem vg{fd:FuncData}{x:Str}(h:∀a,bindArgs fd ⟨[a],[]⟩=pure [(x,a)]):binds fd [x]:=
 kT (P:=fun r=>bindArgs fd ⟨r,[]⟩=pure (List.zip [x] (r))) fun a=>xV (h a)
theorem Bd{fd:FuncData}{x y:Str}(h:∀a b,bindArgs fd ⟨[a,b],[]⟩=pure [(x,a),(y,b)]):binds fd [x,y]:=
 kT (P:=fun r=>bindArgs fd ⟨r,[]⟩=pure (List.zip [x,y] (r))) fun a=>kT (P:=fun r=>bindArgs fd ⟨a::r,[]⟩=pure (List.zip [x,y] (a::r))) fun b=>xV (h a b)
theorem oZ{fd:FuncData}{x y z:Str}(h:∀a b c,bindArgs fd ⟨[a,b,c],[]⟩=pure [(x,a),(y,b),(z,c)]):binds fd [x,y,z]:=
 kT (P:=fun r=>bindArgs fd ⟨r,[]⟩=pure (List.zip [x,y,z] (r))) fun a=>kT (P:=fun r=>bindArgs fd ⟨a::r,[]⟩=pure (List.zip [x,y,z] (a::r))) fun b=>kT (P:=fun r=>bindArgs fd ⟨a::b::r,[]⟩=pure (List.zip [x,y,z] (a::b::r))) fun c=>xV (h a b c)
theorem Wg{fd:FuncData}{x y z u:Str}(h:∀a b c d,bindArgs fd ⟨[a,b,c,d],[]⟩=pure [(x,a),(y,b),(z,c),(u,d)]):binds fd [x,y,z,u]:=
 kT (P:=fun r=>bindArgs fd ⟨r,[]⟩=pure (List.zip [x,y,z,u] (r))) fun a=>kT (P:=fun r=>bindArgs fd ⟨a::r,[]⟩=pure (List.zip [x,y,z,u] (a::r))) fun b=>kT (P:=fun r=>bindArgs fd ⟨a::b::r,[]⟩=pure (List.zip [x,y,z,u] (a::b::r))) fun c=>kT (P:=fun r=>bindArgs fd ⟨a::b::c::r,[]⟩=pure (List.zip [x,y,z,u] (a::b::c::r))) fun d=>xV (h a b c d)
theorem Wh{fd:FuncData}{x y z u v:Str}(h:∀a b c d e,bindArgs fd ⟨[a,b,c,d,e],[]⟩=pure [(x,a),(y,b),(z,c),(u,d),(v,e)]):binds fd [x,y,z,u,v]:=
 kT (P:=fun r=>bindArgs fd ⟨r,[]⟩=pure (List.zip [x,y,z,u,v] (r))) fun a=>kT (P:=fun r=>bindArgs fd ⟨a::r,[]⟩=pure (List.zip [x,y,z,u,v] (a::r))) fun b=>kT (P:=fun r=>bindArgs fd ⟨a::b::r,[]⟩=pure (List.zip [x,y,z,u,v] (a::b::r))) fun c=>kT (P:=fun r=>bindArgs fd ⟨a::b::c::r,[]⟩=pure (List.zip [x,y,z,u,v] (a::b::c::r))) fun d=>kT (P:=fun r=>bindArgs fd ⟨a::b::c::d::r,[]⟩=pure (List.zip [x,y,z,u,v] (a::b::c::d::r))) fun e=>xV (h a b c d e)
noncomputable abbrev jq(i:Nat):Prop:=∀pm fm doc,binds (PySem.Calls.docDef (bP i).name (bP i).params (bP i).body (bP i).scope pm fm doc) (mj (bP i))
theorem Wi(T:Top q loose s8 fC gi h)(H:Hid h B){i:Nat}(hm:bP i∈recsOf q)(av:jq i):
 ∃a,fC (bP i).name=some (.ref a)∧dU B i a:=by
 refine jr ?_ (T.fn _ hm);intro a o pm fm doc;refine cH ?_;intro aR aW cz jf;exact⟨a,aR,⟨⟨fC,gi,H.ns T.g,H.ns T.b,.inl aR⟩,pm,fm,doc,⟨⟨o,H.func aW cz,cz⟩,rfl,rfl,rfl,rfl,rfl,H.code jf,av pm fm doc⟩⟩⟩
theorem mf:jq 5:=fun Y Y Y=>vg fun Y=>by kernel_rfl
theorem Aj:jq 6:=fun Y Y Y=>Bd fun Y Y=>by kernel_rfl
theorem Wj:jq 8:=fun Y Y Y=>oZ fun Y Y Y=>by kernel_rfl
theorem Wk:jq 9:=fun Y Y Y=>Bd fun Y Y=>by kernel_rfl
theorem Wl:jq 10:=fun Y Y Y=>vg fun Y=>by kernel_rfl
theorem Wm:jq 11:=fun Y Y Y=>Wh fun Y Y Y Y Y=>by kernel_rfl
theorem Wn:jq 12:=fun Y Y Y=>oZ fun Y Y Y=>by kernel_rfl
theorem Wo:jq 13:=fun Y Y Y=>oZ fun Y Y Y=>by kernel_rfl
theorem Wq:jq 14:=fun Y Y Y=>oZ fun Y Y Y=>by kernel_rfl
theorem Wr:jq 15:=fun Y Y Y=>oZ fun Y Y Y=>by kernel_rfl
theorem Ws:jq 19:=fun Y Y Y=>Bd fun Y Y=>by kernel_rfl
theorem Wt:jq 20:=fun Y Y Y=>oZ fun Y Y Y=>by kernel_rfl
theorem Wu:jq 21:=fun Y Y Y=>oZ fun Y Y Y=>by kernel_rfl
theorem Wv:jq 22:=fun Y Y Y=>vg fun Y=>by kernel_rfl
theorem Ww:jq 23:=fun Y Y Y=>oZ fun Y Y Y=>by kernel_rfl
theorem Wx:jq 24:=fun Y Y Y=>Bd fun Y Y=>by kernel_rfl
theorem Wy:jq 25:=fun Y Y Y=>vg fun Y=>by kernel_rfl
noncomputable def Wz:ClsRec:=⟨"",none,[],[],0,[]⟩
noncomputable def s9:ClsRec:=(dclssOf PySem.Challenge.pw_nn0309_01 [("GateloomError":Str)]).headD Wz
noncomputable abbrev vh(j:Nat):Prop:=∀pm fm doc,binds (methDefD (iO j).name (s9.name++"."++(iO j).name) (iO j).params (iO j).body (iO j).scope pm fm doc .none) (mj (iO j))
theorem xW{ak N:Addr}{bS:∀Y:Str,Option Value} (P:PlainAtD h s9 ak N bS) (H:Hid h B) {j i:Nat} (hm:s9.meths[i]?=some ⟨(iO j).name,(iO j).params,(iO j).body,(iO j).scope⟩) (hd:(iO j).params.defaults=[]) (av:vh j):
 ∃a of fd,Meth B bS j a of fd:=by
 refine o0 ?_ (P.meths _ (List.mem_of_getElem? hm));intro f o pm fm doc WA;refine dH ?_;intro aR aW cz jf g8 jP;have:=jP.none_of hd;subst this;have L4:=H.func aW jf;exact⟨f,o,_,⟨aR,L4,cz,jf,⟨⟨o,L4,jf⟩,rfl,rfl,rfl,rfl,rfl,H.code g8,av pm fm doc⟩⟩⟩
theorem WB:vh 0:=fun Y Y Y=>vg fun Y=>by kernel_rfl
theorem f3:vh 1:=fun Y Y Y=>vg fun Y=>by kernel_rfl
theorem WC:vh 4:=fun Y Y Y=>oZ fun Y Y Y=>by kernel_rfl
theorem WD:vh 5:=fun Y Y Y=>oZ fun Y Y Y=>by kernel_rfl
theorem WE:vh 7:=fun Y Y Y=>Wg fun Y Y Y Y=>by kernel_rfl
end Mine
end
section
set_option maxHeartbeats 2000000
namespace Mine
variable{prog:Program}{w:World}{h B:Heap}{q:Program}{loose:List Str}{s8:∀Y:ExcName,Option Value} {fC gi:∀Y:Str,Option Value}
noncomputable def Be:List Nat:=[5,6,8,9,10,11,12,13,14,15,19,20,21,22,23,24,25]
noncomputable def usedNames:List Str:=["len","min","sum","sorted","range","tuple","list","set"]
noncomputable def isFree(q:Program)(loose:List Str)(x:Str):Bool:=!startupNames.contains x&&!loose.contains x&&!((recsOf q).map (·.name)).contains x&&!((litsOf q).map (·.1)).contains x&&!((clssOf q loose).map (·.name)).contains x&&x != "__name__"
structure Gb(q:Program)(loose:List Str):Prop where
 fns:∀i∈Be,bP i∈recsOf q
 cls:s9∈dclssOf q loose
 free:(usedNames.all (isFree q (looseW q loose)))=true
 imp:importsNone q=true
theorem L5(T:Top q loose s8 fC gi h){x:Str}(ai:isFree q loose x=true):fC x=none∧gi x=bootBuiltins x:=by
 simp only[isFree,Bool.and_eq_true,Bool.not_eq_true',List.contains_eq_mem,decide_eq_false_iff_not,bne_iff_ne]at ai;refine ar ?_ ai;clear ai;refine ar ?_;refine ar ?_;refine ar ?_;refine ar ?_;intro ae af;intro aH;intro bX;intro et;intro fq;exact⟨T.free x ae af aH bX et,T.builtins x fq⟩
theorem rC(T:Top q loose s8 fC gi h)(H:Hid h B){x:Str}{v:Value}(ai:isFree q loose x=true)(aN:bootBuiltins x=some v):fN B x v:=
 ⟨fC,gi,H.ns T.g,H.ns T.b,.inr ⟨(L5 T ai).1,(L5 T ai).2.trans aN⟩⟩
theorem WG(T:Top q loose s8 fC gi h)(H:Hid h B)(bq:(usedNames.all (isFree q loose))=true)(hi:importsNone q=true):ic B:=by
 have F:∀x∈usedNames,isFree q loose x=true:=List.all_eq_true.mp bq;refine aj ?_ ((T.seer hi).mods);intro Yb;refine ar ?_;refine bG ?_;intro o a9 ep hs;intro _
 exact⟨let ⟨o,a9,ep,a,_⟩:=H.ns (T.seer hi).mods.choose_spec.1;⟨o,a⟩,H.limit T.nolimit,rC T H (F "len" (by simp[usedNames])) rfl,rC T H (F "min" (by simp[usedNames])) rfl,rC T H (F "sum" (by simp[usedNames])) rfl,rC T H (F "sorted" (by simp[usedNames])) rfl,
  rC T H (F "range" (by simp[usedNames])) rfl,rC T H (F "tuple" (by simp[usedNames])) rfl,rC T H (F "list" (by simp[usedNames])) rfl,rC T H (F "set" (by simp[usedNames])) rfl⟩
theorem WH(T:Top q loose s8 fC gi h)(H:Hid h B):Ah B:=by
 refine bZ ?_ T.bmain;intro bm bO;refine dH ?_;intro aR aW cz jf g8 jP;exact⟨fC,bm,bO,H.ns T.g,aR,aW,H.keep _ _ cz (fun vs n q=>by rw[jP]at q;cases q) (by rintro rfl;cases jP),jf,g8,jP⟩
theorem WI(V:Gb q loose)(T:Top q (looseW q loose) s8 fC gi h)(TD:TopCD q loose fC h){P:Addr}(dj:h.get? P=some Bc)
 (ck:∃a o fd c,fC (bP 10).name=some (.ref a)∧h.get? a=some o∧o.data=.func fd∧fd.code=.ref c∧h.IsCode c P #[]∧h.TableAt c P #[]) (H:Hid h B):
 ∃aF a,ry prog w B aF P∧fC (bP 25).name=some (.ref a)∧dU B 25 a:=by
 have G:=WG T H V.free V.imp;have M:=WH T H;have fn:∀i,∀Y:i∈Be,∀Y:jq i,∃a,fC (bP i).name=some (.ref a)∧dU B i a:=fun i hi av=>Wi T H (V.fns i hi) av;refine aj ?_ (fn 5 (by decide) mf);intro gw;refine ar ?_;intro g8 xX;refine aj ?_ (fn 6 (by decide) Aj);intro lJ;refine ar ?_;intro jP Gd;refine aj ?_ (fn 8 (by decide) Wj);intro qh;refine ar ?_;intro wC xY;refine aj ?_ (fn 9 (by decide) Wk);intro Bj;refine ar ?_;intro Yc Ge;refine aj ?_ (fn 10 (by decide) Wl);intro vo;refine ar ?_;intro WJ Gf;refine aj ?_ (fn 11 (by decide) Wm);intro WK;refine ar ?_;intro Yd Gg;refine aj ?_ (fn 12 (by decide) Wn);intro L6;refine ar ?_;intro Ye Gh;refine aj ?_ (fn 13 (by decide) Wo);intro L7;refine ar ?_;intro Yg xZ;refine aj ?_ (fn 14 (by decide) Wq);intro WL;refine ar ?_;intro Yh Gi;refine aj ?_ (fn 15 (by decide) Wr);intro L8;refine ar ?_;intro Yi Gj;refine aj ?_ (fn 19 (by decide) Ws);intro L9;refine ar ?_;intro Yj x6;refine aj ?_ (fn 20 (by decide) Wt);intro WM;refine ar ?_;intro Yk Gk;refine aj ?_ (fn 21 (by decide) Wu);intro Ma;refine ar ?_;intro Yl Gl;refine aj ?_ (fn 22 (by decide) Wv);intro WN;refine ar ?_;intro Ym Gm;refine aj ?_ (fn 23 (by decide) Ww);intro WO;refine ar ?_;intro Yn Gn;refine aj ?_ (fn 24 (by decide) Wx);intro WQ;refine ar ?_;intro Yo Go;refine aj ?_ (fn 25 (by decide) Wy);intro WR;refine ar ?_;intro Gp Gq;refine bG ?_ (TD _ V.cls);intro aF N bS;refine ar ?_;intro Fj tc;have qc:∀x,∀Y:x∈s9.quiet,bS x=none:=tc.quiet;have X:jw B aF bS:=⟨⟨N,H.cls tc.cls⟩,qc _ (by decide+kernel),qc _ (by decide+kernel),qc _ (by decide+kernel)⟩;have ee:bS "nodes"=none:=qc _ (by decide+kernel);have uV:bS "inputs"=none:=qc _ (by decide+kernel);have Fc:bS "outputs"=none:=qc _ (by decide+kernel);have sU:bS "table"=none:=qc _ (by decide+kernel);have dN:typeLookup (.type "object") "nodes"=pure none:=by kernel_rfl
 have uW:typeLookup (.type "object") "inputs"=pure none:=by kernel_rfl
 have Fd:typeLookup (.type "object") "outputs"=pure none:=by kernel_rfl
 have sV:typeLookup (.type "object") "table"=pure none:=by kernel_rfl
 have Fl:typeLookup (.type "object") "add_input"=pure none:=by kernel_rfl
 have oR:typeLookup (.type "object") "land"=pure none:=by kernel_rfl
 have uY:typeLookup (.type "object") "lor"=pure none:=by kernel_rfl
 have Fo:typeLookup (.type "object") "lmux"=pure none:=by kernel_rfl
 refine bG ?_ (xW tc H (j:=0) (i:=0) (by kernel_rfl) (by kernel_rfl) WB);intro x0 Yp f0 qM;refine bG ?_ (xW tc H (j:=1) (i:=1) (by kernel_rfl) (by kernel_rfl) f3);intro bW sY f1 pP;refine bG ?_ (xW tc H (j:=4) (i:=4) (by kernel_rfl) (by kernel_rfl) WC);intro dp Yq f4 nR;refine bG ?_ (xW tc H (j:=5) (i:=5) (by kernel_rfl) (by kernel_rfl) WD);intro dP Yr Ys rD;refine bG ?_ (xW tc H (j:=7) (i:=7) (by kernel_rfl) (by kernel_rfl) WE);intro gv Yt Yu x7;have WS:fN B "Aig" (.ref aF):=⟨fC,gi,H.ns T.g,H.ns T.b,.inl Fj⟩;obtain⟨Mb,Mc,fd,c,pU,kH,Gr,Gs,⟨cf,vs,file,q2,flags,q3,q4,text,tt,op,kc,lF,nH,rk,fv,fG,jm,jA,Yv,Yw,WT⟩,⟨⟨xH,Yx,v1,v2,qm,v4⟩,TV⟩⟩:=ck
 have bR:nE B c P:=by
  rw[kc]at v1;cases v1;rw[lF]at qm;cases qm;exact⟨cf,vs,file,q2,flags,q3,q4,text,tt,H.keep _ _ kc (fun vs n q=>by rw[lF]at q;cases q) (by rintro rfl;cases v2),v2,lF,v4,rk,fv,fG,jm,WT⟩
 have tQ:∀pm fm doc,∀Y:v9 B vo (PySem.Calls.docDef (bP 10).name (bP 10).params (bP 10).body (bP 10).scope pm fm doc) (mj (bP 10)) (bP 10).body (bP 10).scope,fm=.ref c:=by
  intro pm fm doc X;refine aj ?_ X.at_;intro F2;refine ar ?_;intro g1 g2;have g3:=H.of _ _ g1;rw[WJ]at pU;cases pU;rw[kH]at g3;cases g3;rw[Gr]at g2;have:=Data.func.inj g2;subst this;exact Gs
 have Md:∀k,b8 prog w B (k+1) (.ref gw) KE:=fun k=>w7 xX G;have WU:∀k,b8 prog w B (k+2) (.ref lJ) KG:=fun k=>Eh Gd G xX.i0 xX.plain Md;have Me:∀k,b8 prog w B (k+1) (.ref qh) Em:=fun k=>xd xY G;have WV:∀k,b8 prog w B (k+3) (.ref vo) (Ke P):=fun k=>El Gf G Ge.i0 Ge.plain (fun k=>Ec Ge G) tQ bR M;have WW:∀k,b8 prog w B (k+4) (.ref WK) (En P):=fun k=>Eo Gg G xY.i0 xY.plain Me Gf.i0 Gf.plain WV;have WX:∀k,b8 prog w B (k+5) (.ref L6) (Eu aF P):=fun k=>Ew Gh G X ee dN Gg.i0 Gg.plain WW;have Mf:∀k,b8 prog w B (k+1) (.ref L7) (Ay aF):=fun k=>xj xZ G X ee dN;have WY:∀k,b8 prog w B (k+1) (.ref WL) KH:=fun k=>Av Gi G;have WZ:∀k,b8 prog w B (k+3) (.ref L8) (ED aF):=fun k=>EE Gj G X ee dN xX.i0 xX.plain Md Gd.i0 Gd.plain WU xZ.i0 xZ.plain Mf Gi.i0 Gi.plain WY;have nq:∀k,b8 prog w B (k+1) (.ref x0) (Fa aF):=fun k=>Fb qM G X ee dN uV uW Fc Fd sU sV;have cT:∀k,b8 prog w B (k+1) (.ref bW) (km aF 1 0):=fun k=>EV pP G X ee dN uV uW;have mi:∀k,b8 prog w B (k+1) (.ref dp) (km aF 1 2):=fun k=>rq nR G X ee dN sU sV;have AR:bS "land"=some (.ref dp):=nR.xx;have Mg:bS "lor"=some (.ref dP):=rD.xx;have nr:∀k,b8 prog w B (k+2) (.ref dP) (km aF 1 2):=fun k=>xA rD G X ⟨AR,nR.at_,nR.cls,nR.data⟩ oR mi;have W0:∀k,b8 prog w B (k+3) (.ref gv) (km aF 3 3):=fun k=>EZ x7 G X ⟨AR,nR.at_,nR.cls,nR.data⟩ oR mi ⟨Mg,rD.at_,rD.cls,rD.data⟩ uY nr;have Mh:∀k,b8 prog w B (k+1) (.ref L9) uR:=fun k=>lH x6 G;have W2:∀k,b8 prog w B (k+4) (.ref Ma) (Fe aF):=fun k=>Ff Gl G X WS qM.xx qM.at_ qM.cls nq ⟨pP.xx,pP.at_,pP.cls,pP.data⟩ Fl cT ⟨AR,nR.at_,nR.cls,nR.data⟩ oR mi ⟨Mg,rD.at_,rD.cls,rD.data⟩ uY nr ⟨x7.xx,x7.at_,x7.cls,x7.data⟩ Fo W0 x6.i0 x6.plain Mh
 exact⟨aF,WR,⟨G,⟨bS,X,ee⟩,dN,⟨L9,x6.i0,x6.plain,Mh⟩,⟨Ma,Gl.i0,Gl.plain,W2⟩,⟨L6,Gh.i0,Gh.plain,WX⟩,⟨WO,Gn.i0,Gn.plain,fun k=>xu Gn G X ee dN⟩,⟨L7,xZ.i0,xZ.plain,Mf⟩,
  ⟨WN,Gm.i0,Gm.plain,fun k=>EK Gm G⟩,⟨WM,Gk.i0,Gk.plain,fun k=>AI Gk G⟩,⟨L8,Gj.i0,Gj.plain,WZ⟩,⟨WQ,Go.i0,Go.plain,fun k=>EU Go G⟩,⟨qh,xY.i0,xY.plain,Me⟩⟩,Gp,Gq⟩
end Mine
end
section
set_option maxHeartbeats 2000000
namespace Mine
theorem W3:gW callerA 6:=by
 refine⟨rfl,?_,?_⟩<;>decide+kernel
theorem W4{P:Params}{h:Heap}{a:Addr}{xs:List Int}(x:Well P h (.ref a) (ofPy (PyData.list (xs.map PyData.int)))):∃vs:List Value,h.get? a=some {cls:=.type "list",data:=.seq vs.toArray}:=by
 obtain⟨ds,e⟩:∃ds,ofPy (PyData.list (xs.map PyData.int))=.list ds:=⟨_,rfl⟩;rw[e]at x;cases x with
 |list h _=>exact⟨_,h⟩
set_option tactic.hygienic true in
theorem W5{q:Program}{Gu:∀Y:(∀Y:Str,Option Value),∀Y:Heap,Prop} {Gv:∀Y:World,∀Y:Heap,Prop} (V:Gb q [Str.ofString "GateloomError"]):WalkO q [Str.ofString "GateloomError"] Gu Gv PySem.Challenge.rw_nn0309_01.row.toRowW (bP 25) [] fun f vs=>PySem.call f vs:=by
 intro w l0 ba fC gi G aa Yy o pm fm doc WA Yz bx hd tQ tY Mi b7 args vals as qF W6 W7 W8 qI
 wrow_args qF W6 W7 W8 qI
 rename_i xs _ _ _ _ _ _ _ L vs _ eQ _ rg _ bE _ hlen _;refine aj ?_ (W4 rg);intro vs' lg
 have W9:vs'=vs:=by
  obtain⟨cf,aR,_,n,aW⟩:=eQ;rw[lg]at aR;cases aR;cases aW
  rfl
 subst W9;have T:=G.T;refine jr ?_ (T.tab (bP 10) (V.fns 10 (by decide)));intro Mb Mc fd c P;refine dH ?_;intro pU kH Gr Gs Xa Gw;have dj:ba.heap.get? P=some Bc:=Gw.2;have H:Hid ba.heap ((ba.heap.hide P).hide L):=We dj lg rfl;refine bZ ?_ (WI (prog:=PySem.Challenge.rw_nn0309_01.row.prog) (w:=w) V T G.TD dj ⟨Mb,Mc,fd,c,pU,kH,Gr,Gs,Xa,Gw⟩ H);intro aF a;refine aY ?_;intro D5 Gp Gq;rw[Gp]at Mi;cases Mi;have cP:P≠L:=by rintro rfl;rw[lg]at dj;cases dj
 have S:bh PySem.Challenge.rw_nn0309_01.row.prog w ((ba.heap.hide P).hide L) [P,L] ba.heap [.tab P,.raw {cls:=.type "list",data:=.seq vs'.toArray} xs]:=by
  refine⟨rfl,by simp[cP],fun a aJ=>?_,H.of,fun n a o ae af=>?_⟩
  ·simp only[List.mem_cons,List.not_mem_nil,or_false]at aJ;rcases aJ with rfl|rfl
   ·rw[Heap.hide_ne _ cP];exact Heap.hide_self _ _
   ·exact Heap.hide_self _ _
  ·match n with
   |0=>cases ae;cases af;exact⟨rfl,#[],dj,trivial,fun pos iQ e=>by cases e⟩
   |1=>cases ae;cases af;exact⟨lg,vs',⟨_,lg⟩,.By bE⟩
   |n+2=>cases ae
 have az:xs.length≤63:=by exact aI (.n (.T (.n (.k 63)) (.n .p)) (.l .p (.k 63))) rfl hlen
 refine never (wpAny_mono (VY (k:=0) Gq D5 (Q:=fun v s'=>v=.bool true∧s'[0]?=some (.tab P)∧s'[1]?=some (.raw {cls:=.type "list",data:=.seq vs'.toArray} xs)) (am:=[P,L]) (xs:=[.ref 1]) (vs:=[.ref L]) W3 S (.cons (.ref rfl) .nil)
  ⟨1,_,xs,rfl,rfl,by exact aI (.i 1000000 (.o (.T (.n (.k 63)) (.n .p))) (.G 62 (.l .p (.k 1000000)))) rfl hlen,rfl,fun s' hs=>⟨rfl,hs 0 _ rfl,hs 1 _ rfl⟩⟩) (fun v s' aN=>?_) fun e s' he=>he)
 obtain⟨aX,ao,pv,⟨⟨h',tk,d,rfl⟩,ext⟩,dJ,aN,rfl,t0,t1⟩:=aN;cases aN
 obtain⟨fJ,YA,jM,dq,gz,_⟩:=dJ.at_ t0;refine aj ?_ (dJ.at_ t1);intro a1;refine aY ?_;intro Mj jI _;subst jM
 have Xb:a1=L:=by
  have:=o5 ext.pre (n:=1) (a:=L) rfl;rw[this]at Mj;exact(Option.some.inj Mj).symm
 subst Xb;refine⟨.inl ⟨.bool true,.bool true,[],rfl,fun Y=>rfl,.bool true,by first|rfl|wrow_post,fun Y=>⟨.nil,fun Y h=>(nomatch h)⟩⟩,⟨fun b o e=>?_,fun b o e=>?_⟩,rfl,.of_eq b7⟩
 ·by_cases av:b∈[fJ,a1]
  ·simp only[List.mem_cons,List.not_mem_nil,or_false]at av;rcases av with rfl|rfl
   ·rw[dj]at e;cases e;exact .inr (.inl ⟨Gw.isCodeTable,rfl,#[],dq,rfl,by rw[Array.empty_append];exact gz⟩)
   ·rw[lg]at e;cases e;exact .inl jI
  ·exact .inl (ext.keep b o av e)
 ·by_cases av:b∈[fJ,a1]
  ·simp only[List.mem_cons,List.not_mem_nil,or_false]at av;rcases av with rfl|rfl
   ·exact⟨_,gz⟩
   ·exact⟨_,jI⟩
  ·exact⟨o,ext.keep b o av e⟩
end Mine
end
namespace Mine
theorem Xc{q:Program}{loose:List Str}(ae:recsOf q=bP 0::Be.map bP)(af:dclssOf q loose=[s9])(aH:(usedNames.all (isFree q (looseW q loose)))=true)(bX:importsNone q=true):Gb q loose:=
 ⟨fun _ hi=>ae▸List.mem_cons_of_mem _ (List.mem_map_of_mem hi),af▸List.mem_singleton.mpr rfl,aH,bX⟩
theorem YB{q:Program}{Gu:(Str→Option Value)→Heap→Prop}{Gv:World→Heap→Prop}{d:DefRec}(aV:d=bP 25)(ae:recsOf q=bP 0::Be.map bP)(af:dclssOf q [Str.ofString "GateloomError"]=[s9])(aH:(usedNames.all (isFree q (looseW q [Str.ofString "GateloomError"])))=true)(bX:importsNone q=true):
 WalkO q [Str.ofString "GateloomError"] Gu Gv PySem.Challenge.rw_nn0309_01.row.toRowW d [] fun f vs=>PySem.call f vs:=by
 subst aV;exact W5 (Xc ae af aH bX)
end Mine
set_option maxHeartbeats 20000000
theorem PySem.Challenge.cw_nn0309_01_holds : PySem.Challenge.rw_nn0309_01.Holds := by
  w_on
  o_law
  o_head (Hook.none)
  (case hw => w_witness2)
  exact Mine.YB (by kernel_rfl) (by kernel_rfl) (by kernel_rfl) (by kernel_rfl) (by kernel_rfl)
