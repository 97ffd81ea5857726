/- A part of the executor of abstract values, its soundness over the model, and what functions of the program reckon. Conditions: those stated at each theorem. -/
import Derived.WalkKit
import Derived.WalkSpells
import Derived.WalkLawsBesides
import Derived.BigQuiet
import Derived.Deep.QuietTactic
import Derived.Lib.Hide
import Derived.IntWalk
import Derived.Test.YtohlgneeifkikaaGreatDoorProg
import Derived.KernelRfl
import Derived.Test.YtohlgneeifkikaaGreatDoorMAB
import Derived.Test.YtohlgneeifkikaaGreatDoorMAA
set_option maxRecDepth 1000000
set_option maxHeartbeats 0
set_option linter.unusedVariables false
noncomputable section
namespace Go.Ex
structure UpV where
 sel:C8 (T8 AVal)->T8 AVal
 set:C8 (T8 AVal)->(T8 AVal->(T8 AVal->R)->R)->(C8 (T8 AVal)->R)->R
def upV(d:D):UpV:=
 D.rec (motive:=λ_=>UpV)
  ⟨λc=>c.c0,λc f k=>C8.rec (motive:=λ_=>R) (λA B C D E F G H I J K L M N O P Q R S T U V W X Y Z a b c d e g=>f A λs=>k ⟨s,B,C,D,E,F,G,H,I,J,K,L,M,N,O,P,Q,R,S,T,U,V,W,X,Y,Z,a,b,c,d,e,g⟩) c⟩
  ⟨λc=>c.c1,λc f k=>C8.rec (motive:=λ_=>R) (λA B C D E F G H I J K L M N O P Q R S T U V W X Y Z a b c d e g=>f B λs=>k ⟨A,s,C,D,E,F,G,H,I,J,K,L,M,N,O,P,Q,R,S,T,U,V,W,X,Y,Z,a,b,c,d,e,g⟩) c⟩
  ⟨λc=>c.c2,λc f k=>C8.rec (motive:=λ_=>R) (λA B C D E F G H I J K L M N O P Q R S T U V W X Y Z a b c d e g=>f C λs=>k ⟨A,B,s,D,E,F,G,H,I,J,K,L,M,N,O,P,Q,R,S,T,U,V,W,X,Y,Z,a,b,c,d,e,g⟩) c⟩
  ⟨λc=>c.c3,λc f k=>C8.rec (motive:=λ_=>R) (λA B C D E F G H I J K L M N O P Q R S T U V W X Y Z a b c d e g=>f D λs=>k ⟨A,B,C,s,E,F,G,H,I,J,K,L,M,N,O,P,Q,R,S,T,U,V,W,X,Y,Z,a,b,c,d,e,g⟩) c⟩
  ⟨λc=>c.c4,λc f k=>C8.rec (motive:=λ_=>R) (λA B C D E F G H I J K L M N O P Q R S T U V W X Y Z a b c d e g=>f E λs=>k ⟨A,B,C,D,s,F,G,H,I,J,K,L,M,N,O,P,Q,R,S,T,U,V,W,X,Y,Z,a,b,c,d,e,g⟩) c⟩
  ⟨λc=>c.c5,λc f k=>C8.rec (motive:=λ_=>R) (λA B C D E F G H I J K L M N O P Q R S T U V W X Y Z a b c d e g=>f F λs=>k ⟨A,B,C,D,E,s,G,H,I,J,K,L,M,N,O,P,Q,R,S,T,U,V,W,X,Y,Z,a,b,c,d,e,g⟩) c⟩
  ⟨λc=>c.c6,λc f k=>C8.rec (motive:=λ_=>R) (λA B C D E F G H I J K L M N O P Q R S T U V W X Y Z a b c d e g=>f G λs=>k ⟨A,B,C,D,E,F,s,H,I,J,K,L,M,N,O,P,Q,R,S,T,U,V,W,X,Y,Z,a,b,c,d,e,g⟩) c⟩
  ⟨λc=>c.c7,λc f k=>C8.rec (motive:=λ_=>R) (λA B C D E F G H I J K L M N O P Q R S T U V W X Y Z a b c d e g=>f H λs=>k ⟨A,B,C,D,E,F,G,s,I,J,K,L,M,N,O,P,Q,R,S,T,U,V,W,X,Y,Z,a,b,c,d,e,g⟩) c⟩
  ⟨λc=>c.c8,λc f k=>C8.rec (motive:=λ_=>R) (λA B C D E F G H I J K L M N O P Q R S T U V W X Y Z a b c d e g=>f I λs=>k ⟨A,B,C,D,E,F,G,H,s,J,K,L,M,N,O,P,Q,R,S,T,U,V,W,X,Y,Z,a,b,c,d,e,g⟩) c⟩
  ⟨λc=>c.c9,λc f k=>C8.rec (motive:=λ_=>R) (λA B C D E F G H I J K L M N O P Q R S T U V W X Y Z a b c d e g=>f J λs=>k ⟨A,B,C,D,E,F,G,H,I,s,K,L,M,N,O,P,Q,R,S,T,U,V,W,X,Y,Z,a,b,c,d,e,g⟩) c⟩
  ⟨λc=>c.c10,λc f k=>C8.rec (motive:=λ_=>R) (λA B C D E F G H I J K L M N O P Q R S T U V W X Y Z a b c d e g=>f K λs=>k ⟨A,B,C,D,E,F,G,H,I,J,s,L,M,N,O,P,Q,R,S,T,U,V,W,X,Y,Z,a,b,c,d,e,g⟩) c⟩
  ⟨λc=>c.c11,λc f k=>C8.rec (motive:=λ_=>R) (λA B C D E F G H I J K L M N O P Q R S T U V W X Y Z a b c d e g=>f L λs=>k ⟨A,B,C,D,E,F,G,H,I,J,K,s,M,N,O,P,Q,R,S,T,U,V,W,X,Y,Z,a,b,c,d,e,g⟩) c⟩
  ⟨λc=>c.c12,λc f k=>C8.rec (motive:=λ_=>R) (λA B C D E F G H I J K L M N O P Q R S T U V W X Y Z a b c d e g=>f M λs=>k ⟨A,B,C,D,E,F,G,H,I,J,K,L,s,N,O,P,Q,R,S,T,U,V,W,X,Y,Z,a,b,c,d,e,g⟩) c⟩
  ⟨λc=>c.c13,λc f k=>C8.rec (motive:=λ_=>R) (λA B C D E F G H I J K L M N O P Q R S T U V W X Y Z a b c d e g=>f N λs=>k ⟨A,B,C,D,E,F,G,H,I,J,K,L,M,s,O,P,Q,R,S,T,U,V,W,X,Y,Z,a,b,c,d,e,g⟩) c⟩
  ⟨λc=>c.c14,λc f k=>C8.rec (motive:=λ_=>R) (λA B C D E F G H I J K L M N O P Q R S T U V W X Y Z a b c d e g=>f O λs=>k ⟨A,B,C,D,E,F,G,H,I,J,K,L,M,N,s,P,Q,R,S,T,U,V,W,X,Y,Z,a,b,c,d,e,g⟩) c⟩
  ⟨λc=>c.c15,λc f k=>C8.rec (motive:=λ_=>R) (λA B C D E F G H I J K L M N O P Q R S T U V W X Y Z a b c d e g=>f P λs=>k ⟨A,B,C,D,E,F,G,H,I,J,K,L,M,N,O,s,Q,R,S,T,U,V,W,X,Y,Z,a,b,c,d,e,g⟩) c⟩
  ⟨λc=>c.c16,λc f k=>C8.rec (motive:=λ_=>R) (λA B C D E F G H I J K L M N O P Q R S T U V W X Y Z a b c d e g=>f Q λs=>k ⟨A,B,C,D,E,F,G,H,I,J,K,L,M,N,O,P,s,R,S,T,U,V,W,X,Y,Z,a,b,c,d,e,g⟩) c⟩
  ⟨λc=>c.c17,λc f k=>C8.rec (motive:=λ_=>R) (λA B C D E F G H I J K L M N O P Q R S T U V W X Y Z a b c d e g=>f R λs=>k ⟨A,B,C,D,E,F,G,H,I,J,K,L,M,N,O,P,Q,s,S,T,U,V,W,X,Y,Z,a,b,c,d,e,g⟩) c⟩
  ⟨λc=>c.c18,λc f k=>C8.rec (motive:=λ_=>R) (λA B C D E F G H I J K L M N O P Q R S T U V W X Y Z a b c d e g=>f S λs=>k ⟨A,B,C,D,E,F,G,H,I,J,K,L,M,N,O,P,Q,R,s,T,U,V,W,X,Y,Z,a,b,c,d,e,g⟩) c⟩
  ⟨λc=>c.c19,λc f k=>C8.rec (motive:=λ_=>R) (λA B C D E F G H I J K L M N O P Q R S T U V W X Y Z a b c d e g=>f T λs=>k ⟨A,B,C,D,E,F,G,H,I,J,K,L,M,N,O,P,Q,R,S,s,U,V,W,X,Y,Z,a,b,c,d,e,g⟩) c⟩
  ⟨λc=>c.c20,λc f k=>C8.rec (motive:=λ_=>R) (λA B C D E F G H I J K L M N O P Q R S T U V W X Y Z a b c d e g=>f U λs=>k ⟨A,B,C,D,E,F,G,H,I,J,K,L,M,N,O,P,Q,R,S,T,s,V,W,X,Y,Z,a,b,c,d,e,g⟩) c⟩
  ⟨λc=>c.c21,λc f k=>C8.rec (motive:=λ_=>R) (λA B C D E F G H I J K L M N O P Q R S T U V W X Y Z a b c d e g=>f V λs=>k ⟨A,B,C,D,E,F,G,H,I,J,K,L,M,N,O,P,Q,R,S,T,U,s,W,X,Y,Z,a,b,c,d,e,g⟩) c⟩
  ⟨λc=>c.c22,λc f k=>C8.rec (motive:=λ_=>R) (λA B C D E F G H I J K L M N O P Q R S T U V W X Y Z a b c d e g=>f W λs=>k ⟨A,B,C,D,E,F,G,H,I,J,K,L,M,N,O,P,Q,R,S,T,U,V,s,X,Y,Z,a,b,c,d,e,g⟩) c⟩
  ⟨λc=>c.c23,λc f k=>C8.rec (motive:=λ_=>R) (λA B C D E F G H I J K L M N O P Q R S T U V W X Y Z a b c d e g=>f X λs=>k ⟨A,B,C,D,E,F,G,H,I,J,K,L,M,N,O,P,Q,R,S,T,U,V,W,s,Y,Z,a,b,c,d,e,g⟩) c⟩
  ⟨λc=>c.c24,λc f k=>C8.rec (motive:=λ_=>R) (λA B C D E F G H I J K L M N O P Q R S T U V W X Y Z a b c d e g=>f Y λs=>k ⟨A,B,C,D,E,F,G,H,I,J,K,L,M,N,O,P,Q,R,S,T,U,V,W,X,s,Z,a,b,c,d,e,g⟩) c⟩
  ⟨λc=>c.c25,λc f k=>C8.rec (motive:=λ_=>R) (λA B C D E F G H I J K L M N O P Q R S T U V W X Y Z a b c d e g=>f Z λs=>k ⟨A,B,C,D,E,F,G,H,I,J,K,L,M,N,O,P,Q,R,S,T,U,V,W,X,Y,s,a,b,c,d,e,g⟩) c⟩
  ⟨λc=>c.c26,λc f k=>C8.rec (motive:=λ_=>R) (λA B C D E F G H I J K L M N O P Q R S T U V W X Y Z a b c d e g=>f a λs=>k ⟨A,B,C,D,E,F,G,H,I,J,K,L,M,N,O,P,Q,R,S,T,U,V,W,X,Y,Z,s,b,c,d,e,g⟩) c⟩
  ⟨λc=>c.c27,λc f k=>C8.rec (motive:=λ_=>R) (λA B C D E F G H I J K L M N O P Q R S T U V W X Y Z a b c d e g=>f b λs=>k ⟨A,B,C,D,E,F,G,H,I,J,K,L,M,N,O,P,Q,R,S,T,U,V,W,X,Y,Z,a,s,c,d,e,g⟩) c⟩
  ⟨λc=>c.c28,λc f k=>C8.rec (motive:=λ_=>R) (λA B C D E F G H I J K L M N O P Q R S T U V W X Y Z a b c d e g=>f c λs=>k ⟨A,B,C,D,E,F,G,H,I,J,K,L,M,N,O,P,Q,R,S,T,U,V,W,X,Y,Z,a,b,s,d,e,g⟩) c⟩
  ⟨λc=>c.c29,λc f k=>C8.rec (motive:=λ_=>R) (λA B C D E F G H I J K L M N O P Q R S T U V W X Y Z a b c d e g=>f d λs=>k ⟨A,B,C,D,E,F,G,H,I,J,K,L,M,N,O,P,Q,R,S,T,U,V,W,X,Y,Z,a,b,c,s,e,g⟩) c⟩
  ⟨λc=>c.c30,λc f k=>C8.rec (motive:=λ_=>R) (λA B C D E F G H I J K L M N O P Q R S T U V W X Y Z a b c d e g=>f e λs=>k ⟨A,B,C,D,E,F,G,H,I,J,K,L,M,N,O,P,Q,R,S,T,U,V,W,X,Y,Z,a,b,c,d,s,g⟩) c⟩
  ⟨λc=>c.c31,λc f k=>C8.rec (motive:=λ_=>R) (λA B C D E F G H I J K L M N O P Q R S T U V W X Y Z a b c d e g=>f g λs=>k ⟨A,B,C,D,E,F,G,H,I,J,K,L,M,N,O,P,Q,R,S,T,U,V,W,X,Y,Z,a,b,c,d,e,s⟩) c⟩
  d
theorem wS(d:D)(c:C8 (T8 AVal)):(upV d).sel c=sel c d:=by cases d<;>rfl
theorem oS(d:D)(c:C8 (T8 AVal))(g:T8 AVal->T8 AVal)(f:T8 AVal->(T8 AVal->R)->R)(hf:∀t k,f t k=k (g t))(k:C8 (T8 AVal)->R):(upV d).set c f k=k (upd c (g (sel c d)) d):=by cases d<;>exact hf _ _
structure GbV where
 run:T8 AVal->AVal
def g1V(u:UpV)(ih:GbV):GbV:=⟨λt=>T8.rec (motive_1:=λ_=>AVal) (motive_2:=λ_=>Unit) .bad (λ_ c _=>ih.run (u.sel c)) e8 t⟩
def getVS(p:Pth):GbV:=Pth.rec (motive:=λ_=>GbV) ⟨λt=>T8.rec (motive_1:=λ_=>AVal) (motive_2:=λ_=>Unit) .bad (λv _ _=>v) e8 t⟩ (λd _ ih=>g1V (upV d) ih) p
theorem kM(p:Pth)(t:T8 AVal):(getVS p).run t=T8.get .bad p t:=by
 induction p generalizing t with
 |e=>cases t<;>rfl
 |s d p ih=>
  cases t with
  |nil=>rfl
  |node v c=>show(getVS p).run ((upV d).sel c)=_;rw[wS,ih];rfl
structure PbV where
 run:AVal->T8 AVal->(T8 AVal->R)->R
def p1V(u:UpV)(ih:PbV):PbV:=⟨λx t k=>T8.rec (motive_1:=λ_=>R) (motive_2:=λ_=>Unit) (u.set nil8 (λt k=>ih.run x t k) λc=>k (.node .bad c)) (λv c _=>u.set c (λt k=>ih.run x t k) λc=>k (.node v c)) e8 t⟩
def putVc(p:Pth):PbV:=Pth.rec (motive:=λ_=>PbV) ⟨λx t k=>T8.rec (motive_1:=λ_=>R) (motive_2:=λ_=>Unit) (k (.node x nil8)) (λ_ c _=>k (.node x c)) e8 t⟩ (λd _ ih=>p1V (upV d) ih) p
theorem wT(p:Pth)(x:AVal)(t:T8 AVal)(k:T8 AVal->R):(putVc p).run x t k=k (T8.put .bad x p t):=by
 induction p generalizing t k with
 |e=>cases t<;>rfl
 |s d p ih=>
  cases t with
  |nil=>show(upV d).set nil8 (λt k=>(putVc p).run x t k) (λc=>k (.node .bad c))=_;rw[oS d nil8 (T8.put .bad x p) _ (λt k=>ih t k),dv];rfl
  |node v c=>show(upV d).set c (λt k=>(putVc p).run x t k) (λc=>k (.node v c))=_;rw[oS d c (T8.put .bad x p) _ (λt k=>ih t k)];rfl
def envE:AObj->T8 AVal
 |.lp _ e _ _ _=>e
 |_=>.nil
def outV(r:R):T8 AVal:=R.rec (motive:=λ_=>T8 AVal) .nil (λ_ H=>T8.rec (motive_1:=λ_=>T8 AVal) (motive_2:=λ_=>Unit) .nil (λo _ _=>envE o) e8 H.m) r
def putV(e:T8 AVal)(p:Pth)(v:AVal):T8 AVal:=outV ((putVc p).run v e λt=>.ok .pnil ⟨.e,.node (.lp true t [] .skip .skip) nil8⟩)
theorem kN(e:T8 AVal)(p:Pth)(v:AVal):putV e p v=e.put .bad v p:=by unfold putV;rw[wT];rfl
abbrev treeI:EI:=⟨T8 AVal,λe p=>(getVS p).run e,putV,λe=>e,λe p=>kM p e,λe p v=>kN e p v⟩
abbrev KT:=T8 AVal->AH->R
def noK:KT:=λ_ _=>.no
def rgEnd(l:Pth)(k:AH->R)(H:AH):R:=match H.m.get .dead l with
 |.lp true _ _ _ _=>k (H.set l .dead)
 |_=>.no
def rgK(cal:Caller)(ps:List Pth)(a b:CC)(kn:KT)(E:T8 AVal)(H:AH):AVal->R
 |.fnv g caps=>match cal (.fnv g caps) [.yld H.next] (H.add (.lp true E ps a b))with
  |.ok _ H'=>rgEnd H.next (kn E) H'
  |.no=>.no
 |_=>.no
def kC(cal:Caller)(c:CC):KT->KT->(Nat->KT)->KT:=
 CC.rec (motive:=λ_=>KT->KT->(Nat->KT)->KT)
  (λ_ _ _=>noK)
  (λf ps a b _ _ kn _ _ E H=>rgK cal ps a b kn E H (opI treeI [] E f))
  (λops kn _ _ E H=>dgo treeI cal (segsD ops) [] E (reserve ops H) H.next 0 [] [reserve ops H] [] kn)
  (λx _ _ iha ihb kn kr kx E H=>cv (opI treeI [] E x) (iha kn kr kx E H) (ihb kn kr kx E H))
  (λ_ kr _=>kr)
  (λkn _ _=>kn)
  (λid _ ih kn kr kx=>ih kn kr (λi E H=>bif Nat.beq id i then kn E H else kx i E H))
  (λ_ ih _ kr kx=>loopK noK λk=>ih k kr kx)
  (λid _ _ kx=>kx id)
  (λops x _ _ iha ihb kn kr kx E H=>gops treeI cal (segs ops.toL) [] [] E H λL E H=>cv (opI treeI L E x) (iha kn kr kx E H) (ihb kn kr kx E H))
  (λops kn _ _ E H=>gops treeI cal (segs ops.toL) [] [] E H λ_ E H=>kn E H)
  (λ_ _ iha ihb kn kr kx=>iha (ihb kn kr kx) kr kx) c
variable{F:T8 CFn}{cal:Caller}
def FinT(kn kr:KT)(kx:Nat->KT)(v:AVal)(H':AH):Out->Prop
 |.none=>False
 |.norm e h=>kn e h=.ok v H'
 |.ret e h=>kr e h=.ok v H'
 |.exit i e h=>kx i e h=.ok v H'
def ApT(F:T8 CFn)(c:CC)(kn kr:KT)(kx:Nat->KT)(g:KT):Prop:=∀e H v H',g e H=.ok v H'->∃n o,(∀m,n<=m->exec F m c e H=o)/\FinT kn kr kx v H' o
theorem kO(L:List AVal)(e:T8 AVal)(x:COpd):opI treeI L e x=x.ev L e:=by have h:=bH (I:=treeI) L e;exact congrFun h x
theorem ApT.loop{kr:KT}{kx:Nat->KT}{b:CC}{B:KT->KT}(hb:∀k,ApT F b k kr kx (B k))(kn:KT)(N:Nat):ApT F (.loop b) kn kr kx (Nat.rec (motive:=λ_=>KT) noK (λ_ ih=>B ih) N):=by
 induction N with
 |zero=>intro e H v H' h;exact nomatch (show R.no=.ok v H' from h)
 |succ N ih=>
  intro e H v H' h;obtain⟨n,o,h1,hf⟩:=hb _ e H v H' h;cases o with
  |none=>exact hf.elim
  |norm e1 H1=>
   obtain⟨n2,o2,h2,hf2⟩:=ih e1 H1 v H' hf;refine⟨max n n2+1,o2,λm hm=>?_,hf2⟩
   match m,hm with
   |m+1,hm=>simp only[exec,execS,h1 m (by omega),h2 m (by omega)]
  |ret e1 H1=>
   refine⟨n+1,.ret e1 H1,λm hm=>?_,hf⟩
   match m,hm with
   |m+1,hm=>simp only[exec,execS,h1 m (by omega)]
  |exit i e1 H1=>
   refine⟨n+1,.exit i e1 H1,λm hm=>?_,hf⟩
   match m,hm with
   |m+1,hm=>simp only[exec,execS,h1 m (by omega)]
theorem ApT.loopK{kr:KT}{kx:Nat->KT}{b:CC}{B:KT->KT}(hb:∀k,ApT F b k kr kx (B k))(kn:KT):ApT F (.loop b) kn kr kx (loopK noK B):=ApT.loop hb kn 1000000
theorem wU{l:Pth}{k:AH->R}{H:AH}{v:AVal}{H':AH}(h:rgEnd l k H=.ok v H'):∃e ps a b,H.m.get .dead l=.lp true e ps a b/\k (H.set l .dead)=.ok v H':=by
 unfold rgEnd at h;split at h
 .exact⟨_,_,_,_,by assumption,h⟩
 .cases h
theorem il(hc:Cal F cal)(c:CC):∀kn kr kx,ApT F c kn kr kx (kC cal c kn kr kx):=by
 induction c with
 |bad=>intro kn kr kx e H v H' h;exact nomatch (show R.no=.ok v H' from h)
 |rangeF f ps a b iha ihb=>
  intro kn kr kx e H v H' h;have h:rgK cal ps a b kn e H (opI treeI [] e f)=.ok v H':=h;rw[kO]at h;unfold rgK at h;split at h
  .rename_i g caps hg;split at h
   .rename_i v1 H1 hcal;obtain⟨n,hn⟩:=hc _ _ _ _ _ hcal;obtain⟨e2,p2,a2,b2,hl,h⟩:=wU h;refine⟨n+1,.norm e (H1.set H.next .dead),λm hm=>?_,h⟩
    match m,hm with
    |m+1,hm=>simp only[exec,execS,hg,hn m (by omega),hl]
   .cases h
  .cases h
 |aC ops=>
  intro kn kr kx e H v H' h;obtain⟨n,e1,H1,h1,h⟩:=oK (I:=treeI) hc _ _ _ _ _ _ _ _ _ _ _ _ _ .nil h;rw[oI]at h1;refine⟨n+1,.norm e1 H1,λm hm=>?_,h⟩
  match m,hm with
  |m+1,hm=>simp only[exec,execS,h1 m (by omega)]
 |cond x a b iha ihb=>
  intro kn kr kx e H v H' h;have h:cv (opI treeI [] e x) (kC cal a kn kr kx e H) (kC cal b kn kr kx e H)=.ok v H':=h;obtain⟨t,ht,h⟩:=hO h;rw[kO]at ht;cases t with
  |true=>
   obtain⟨n,o,h1,hf⟩:=iha kn kr kx e H v H' h;refine⟨n+1,o,λm hm=>?_,hf⟩
   match m,hm with
   |m+1,hm=>simp only[exec,execS,ht,_root_.cond,h1 m (by omega)]
  |false=>
   obtain⟨n,o,h1,hf⟩:=ihb kn kr kx e H v H' h;refine⟨n+1,o,λm hm=>?_,hf⟩
   match m,hm with
   |m+1,hm=>simp only[exec,execS,ht,_root_.cond,h1 m (by omega)]
 |ret=>intro kn kr kx e H v H' h;exact⟨1,.ret e H,λm hm=>by match m,hm with|m+1,_=>rfl,h⟩
 |skip=>intro kn kr kx e H v H' h;exact⟨1,.norm e H,λm hm=>by match m,hm with|m+1,_=>rfl,h⟩
 |exit id=>intro kn kr kx e H v H' h;exact⟨1,.exit id e H,λm hm=>by match m,hm with|m+1,_=>rfl,h⟩
 |block id b ih=>
  intro kn kr kx e H v H' h;obtain⟨n,o,h1,hf⟩:=ih kn kr (λi E H=>bif Nat.beq id i then kn E H else kx i E H) e H v H' h;cases o with
  |none=>exact hf.elim
  |norm e1 H1=>
   refine⟨n+1,.norm e1 H1,λm hm=>?_,hf⟩
   match m,hm with
   |m+1,hm=>simp only[exec,execS,h1 m (by omega)]
  |ret e1 H1=>
   refine⟨n+1,.ret e1 H1,λm hm=>?_,hf⟩
   match m,hm with
   |m+1,hm=>simp only[exec,execS,h1 m (by omega)]
  |exit i e1 H1=>
   have hf:(bif Nat.beq id i then kn e1 H1 else kx i e1 H1)=.ok v H':=hf;cases hi:Nat.beq id i with
   |true=>
    rw[hi]at hf;refine⟨n+1,.norm e1 H1,λm hm=>?_,hf⟩
    match m,hm with
    |m+1,hm=>simp only[exec,execS,h1 m (by omega),hi,_root_.cond]
   |false=>
    rw[hi]at hf;refine⟨n+1,.exit i e1 H1,λm hm=>?_,hf⟩
    match m,hm with
    |m+1,hm=>simp only[exec,execS,h1 m (by omega),hi,_root_.cond]
 |loop b ih=>intro kn kr kx;have h:=ApT.loopK (F:=F) (B:=λk=>kC cal b k kr kx) (λk=>ih k kr kx) kn;intro e H v H' h1;exact h e H v H' h1
 |aq ops x a b iha ihb=>
  intro kn kr kx e H v H' h;obtain⟨n,L1,e1,H1,h1,h⟩:=h_ (I:=treeI) hc _ _ _ _ _ _ _ _ h;rw[hY]at h1;obtain⟨t,ht,h⟩:=hO h;rw[kO]at ht;cases t with
  |true=>
   obtain⟨n2,o,h2,hf⟩:=iha kn kr kx e1 H1 v H' h;refine⟨max n n2+1,o,λm hm=>?_,hf⟩
   match m,hm with
   |m+1,hm=>simp only[exec,execS,h1 m (by omega),ht,_root_.cond,h2 m (by omega)]
  |false=>
   obtain⟨n2,o,h2,hf⟩:=ihb kn kr kx e1 H1 v H' h;refine⟨max n n2+1,o,λm hm=>?_,hf⟩
   match m,hm with
   |m+1,hm=>simp only[exec,execS,h1 m (by omega),ht,_root_.cond,h2 m (by omega)]
 |aa ops=>
  intro kn kr kx e H v H' h;obtain⟨n,L1,e1,H1,h1,h⟩:=h_ (I:=treeI) hc _ _ _ _ _ _ _ _ h;rw[hY]at h1;refine⟨n+1,.norm e1 H1,λm hm=>?_,h⟩
  match m,hm with
  |m+1,hm=>simp only[exec,execS,h1 m (by omega)]
 |seq a b iha ihb=>
  intro kn kr kx e H v H' h;obtain⟨n,o,h1,hf⟩:=iha (kC cal b kn kr kx) kr kx e H v H' h;cases o with
  |none=>exact hf.elim
  |norm e1 H1=>
   obtain⟨n2,o2,h2,hf2⟩:=ihb kn kr kx e1 H1 v H' hf;refine⟨max n n2+1,o2,λm hm=>?_,hf2⟩
   match m,hm with
   |m+1,hm=>simp only[exec,execS,h1 m (by omega),h2 m (by omega)]
  |ret e1 H1=>
   refine⟨n+1,.ret e1 H1,λm hm=>?_,hf⟩
   match m,hm with
   |m+1,hm=>simp only[exec,execS,h1 m (by omega)]
  |exit i e1 H1=>
   refine⟨n+1,.exit i e1 H1,λm hm=>?_,hf⟩
   match m,hm with
   |m+1,hm=>simp only[exec,execS,h1 m (by omega)]
variable(F)
def fnK(cal:Caller)(fn:CFn)(args:List AVal)(H:AH):R:=
 match useOrc fn.aP args H with
 |.ok v H'=>.ok v H'
 |.no=>match mkEnv fn.params args .nil with
  |some e0=>kC cal fn.body (λe H=>finish fn (.norm e H)) (λe H=>finish fn (.ret e H)) (λ_=>noK) e0 H
  |none=>.no
def yEnd(l:Pth)(H:AH):R:=match H.m.get .dead l with
 |.lp false env ps a b=>.ok (.bool true) (H.set l (.lp true env ps a b))
 |_=>.no
def yBody(cal:Caller)(l:Pth)(b:CC)(e:T8 AVal)(H:AH):R:=match H.m.get .dead l with
 |.lp true env ps a b'=>kC cal b (λ_ H=>yEnd l H) noK (λ_=>noK) e (H.set l (.lp false env ps a b'))
 |_=>.no
def yldK(cal:Caller)(l:Pth)(args:List AVal)(H:AH):R:=match H.m.get .dead l with
 |.lp true env ps a b=>match mkEnv (ps.map some) args env with
  |some e=>kC cal a (yBody cal l b) noK (λ_=>noK) e H
  |none=>.no
 |_=>.no
abbrev Hot:=List (Pth×(List AVal->AH->R))
def hotK(f:Pth)(args:List AVal)(H:AH)(z:R):Hot->R:=λl=>List.rec (motive:=λ_=>R) z (λp _ ih=>bif pthEq p.1 f then p.2 args H else ih) l
def calK(hot:Hot):Nat->Caller:=λn=>Nat.rec (motive:=λ_=>Caller) (λ_ _ _=>.no) (λ_ ih g args H=>match g with
 |.fnv f caps=>hotK f (app args caps) H (fnK ih (F.get noFn f) (app args caps) H) hot
 |.yld l=>yldK ih l args H
 |_=>.no) n
def HotOk:Hot->Prop
 |[]=>True
 |p::l=>Adq F p.1 p.2/\HotOk l
variable{F}
theorem ek{e:T8 AVal}{H:AH}{v:AVal}{H':AH}(h:noK e H=.ok v H'):False:=nomatch (show R.no=.ok v H' from h)
theorem wV{hot:Hot}(hh:HotOk F hot){f:Pth}{args:List AVal}{H:AH}{z:R}{v:AVal}{H':AH}(h:hotK f args H z hot=.ok v H'):z=.ok v H'\/∃n,∀m,n<=m->callF F m f args H=.ok v H':=by
 induction hot with
 |nil=>exact .inl h
 |cons p l ih=>
  have h:(bif pthEq p.1 f then p.2 args H else hotK f args H z l)=.ok v H':=h;cases hp:pthEq p.1 f with
  |false=>rw[hp]at h;exact ih hh.2 h
  |true=>rw[hp]at h;have e:=aD.1 hp;exact .inr (e▸hh.1 args H v H' h)
theorem wW{hot:Hot}(hh:HotOk F hot)(n:Nat):Cal F (calK F hot n):=by
 induction n with
 |zero=>intro g args H v H' h;exact nomatch (show R.no=.ok v H' from h)
 |succ n ih=>
  intro g args H v H' h;cases g with
  |fnv f caps=>
   have h:hotK f (app args caps) H (fnK (calK F hot n) (F.get noFn f) (app args caps) H) hot=.ok v H':=h;rcases wV hh h with h|⟨k,h⟩
   case inr=>refine⟨k,λm hm=>?_⟩;have h:=h m hm;unfold callF at h;simp only[caller,ko]at h⊢;exact h
   unfold fnK at h;cases hu:useOrc (F.get noFn f).aP (app args caps) H with
   |ok v1 H1=>rw[hu]at h;exact⟨0,λm _=>by simp only[caller,hu];exact h⟩
   |no=>
    rw[hu]at h;cases he:mkEnv (F.get noFn f).params (app args caps) .nil with
    |none=>rw[he]at h;cases h
    |some e0=>
     rw[he]at h;obtain⟨k,o,h1,hf⟩:=il ih _ _ _ _ _ _ _ _ h;refine⟨k,λm hm=>?_⟩;simp only[caller,hu,he,h1 m hm];cases o with
     |none=>exact hf.elim
     |norm e1 H1=>exact hf
     |ret e1 H1=>exact hf
     |exit i e1 H1=>exact(ek hf).elim
  |yld l=>
   have h:yldK (calK F hot n) l args H=.ok v H':=h;unfold yldK at h;split at h
   .rename_i env ps a b hl;split at h
    .rename_i e he;obtain⟨k,o,h1,hf⟩:=il ih _ _ _ _ _ _ _ _ h;cases o with
     |none=>exact hf.elim
     |ret e1 H1=>exact(ek hf).elim
     |exit i e1 H1=>exact(ek hf).elim
     |norm e2 H2=>
      have hf:yBody (calK F hot n) l b e2 H2=.ok v H':=hf;unfold yBody at hf;split at hf
      .rename_i env2 ps2 a2 b2 hl2;obtain⟨k2,o2,h2,hf2⟩:=il ih _ _ _ _ _ _ _ _ hf;cases o2 with
       |none=>exact hf2.elim
       |ret e1 H1=>exact(ek hf2).elim
       |exit i e1 H1=>exact(ek hf2).elim
       |norm e3 H3=>
        have hf2:yEnd l H3=.ok v H':=hf2;unfold yEnd at hf2;split at hf2
        .rename_i env3 ps3 a3 b3 hl3;refine⟨max k k2,λm hm=>?_⟩;simp only[caller,hl,he,h1 m (by omega),hl2,h2 m (by omega),hl3];exact hf2
        .cases hf2
      .cases hf
    .cases h
   .cases h
  |_=>exact nomatch (show R.no=.ok v H' from h)
end Go.Ex
namespace Go.BI
open Go Go.RowKit
structure Digs(w:World)(A:Option Addr)(n c:Nat)(l:List Nat):Prop where
 len:l.length=n
 cap:n<=c
 max:n<=1000000
 lim:Lim l
 cells:0<n->∃b o,A=some ⟨b,o,none⟩/\b<w.heap.size/\∀i (h:i<l.length),w.cell? ⟨b,o+i,none⟩=some (.int .u32 (l[i]:Nat))
theorem Digs.below{w w':World}{A:Option Addr}{n c:Nat}{l:List Nat}(h:Digs w A n c l)(hb:RowKit.Below w.heap.size w w'):Digs w' A n c l:=
 ⟨h.len,h.cap,h.max,h.lim,λhn=>by
  obtain⟨b,o,e,hlt,hc⟩:=h.cells hn
  exact⟨b,o,e,Nat.lt_of_lt_of_le hlt hb.size,λi hi=>(hb.cell (p:=⟨b,o+i,none⟩) hlt).trans (hc i hi)⟩⟩
theorem Digs.take{w:World}{A:Option Addr}{n c:Nat}{l:List Nat}(h:Digs w A n c l){k:Nat}(hk:k<=n):Digs w A k c (l.take k):=
 ⟨by rw[List.length_take,h.len];omega,Nat.le_trans hk h.cap,Nat.le_trans hk h.max,h.lim.take k,λhn=>by
  obtain⟨b,o,e,hlt,hc⟩:=h.cells (by omega);refine⟨b,o,e,hlt,λi hi=>?_⟩;have hi':i<l.length:=by rw[List.length_take]at hi;omega
  rw[List.getElem_take]
  exact hc i hi'⟩
structure Own(B:Nat)(w:World)(A:Option Addr)(n c:Nat):Prop where
 blk:∃b o cs T,A=some ⟨b,o,none⟩/\B<=b/\w.heap[b]?=some (.cells cs T (0,0))/\o+c<=cs.size
theorem Own.below{B:Nat}{w w':World}{A:Option Addr}{n c:Nat}(h:Own B w A n c)(hb:RowKit.Below w.heap.size w w'):Own B w' A n c:=
 let ⟨b,o,cs,T,h1,h2,h3,h4⟩:=h.blk
 ⟨b,o,cs,T,h1,h2,(hb.block b (Array.getElem?_eq_some_iff.1 h3).1).trans h3,h4⟩
theorem Own.mono{B B':Nat}{w:World}{A:Option Addr}{n c:Nat}(h:Own B w A n c)(hB:B'<=B):Own B' w A n c:=
 let ⟨b,o,cs,T,h1,h2,h3,h4⟩:=h.blk
 ⟨b,o,cs,T,h1,Nat.le_trans hB h2,h3,h4⟩
theorem Own.len{B:Nat}{w:World}{A:Option Addr}{n c:Nat}(h:Own B w A n c)(k:Nat):Own B w A k c:=⟨h.blk⟩
structure Num(w:World)(v:Value)(n:Nat)(z:Bool):Prop where
 is:∃A m c,v=.slice A m c/\Digs w A m c (digs n)/\(z=true->A=none/\c=0)/\(z=false->∃a,A=some a)
theorem Num.below{w w':World}{v:Value}{n:Nat}{z:Bool}(h:Num w v n z)(hb:RowKit.Below w.heap.size w w'):Num w' v n z:=let ⟨A,m,c,e,hd,h1,h2⟩:=h.is;⟨A,m,c,e,hd.below hb,h1,h2⟩
structure NumN(B:Nat)(w:World)(v:Value)(n:Nat)(z:Bool):Prop where
 num:Num w v n z
 own:0<n->∃A m c,v=.slice A m c/\Own B w A m c
theorem NumN.below{B:Nat}{w w':World}{v:Value}{n:Nat}{z:Bool}(h:NumN B w v n z)(hb:RowKit.Below w.heap.size w w'):NumN B w' v n z:=⟨h.num.below hb,λhn=>let ⟨A,m,c,e,ho⟩:=h.own hn;⟨A,m,c,e,ho.below hb⟩⟩
theorem NumN.mono{B B':Nat}{w:World}{v:Value}{n:Nat}{z:Bool}(h:NumN B w v n z)(hB:B'<=B):NumN B' w v n z:=⟨h.num,λhn=>let ⟨A,m,c,e,ho⟩:=h.own hn;⟨A,m,c,e,ho.mono hB⟩⟩
end Go.BI
namespace Go.Ex
open Go Go.BI
variable{P:Program}{ρ ρ' ρ1:Rho}{ω:Nat->Value}{H H1:AH}{w w':World}
inductive NZ where
 |no
 |ok (n:Nat) (z:Bool)
def rowDig:List AVal->Option Nat
 |[.int .u32 (.ofNat d)]=>bif Nat.blt d 4294967296 then some d else none
 |_=>none
def numAt(H:AH)(id:Pth)(off len:Nat):NZ:=
 match H.m.get .dead id with
 |.arr esz n d els=>bif Nat.beq esz 1 then
  bif Nat.beq len 1 then bif Nat.blt off n then match rowDig (elem off d els)with
   |some a=>bif Nat.beq a 0 then .no else .ok a false
   |none=>.no
   else .no
  else bif Nat.beq len 2 then bif Nat.blt (Nat.add off 1) n then match rowDig (elem off d els),rowDig (elem (Nat.add off 1) d els)with
   |some a,some b=>bif Nat.beq b 0 then .no else .ok (Nat.add a (Nat.mul 4294967296 b)) false
   |_,_=>.no
   else .no
  else .no
  else .no
 |_=>.no
def numOf(H:AH):AVal->NZ
 |.snil=>.ok 0 true
 |.se=>.ok 0 false
 |.mag n=>.ok n false
 |.sl id off len cap=>bif Nat.ble len cap then bif Nat.beq len 0 then .ok 0 false else numAt H id off len else .no
 |.sg id off len esz=>bif Nat.beq esz 1 then bif Nat.beq len 0 then .ok 0 false else numAt H id off len else .no
 |_=>.no
theorem im{r:List AVal}{d:Nat}(h:rowDig r=some d):r=[.int .u32 d]/\d<4294967296:=by
 unfold rowDig at h;split at h
 .rename_i d';cases hb:Nat.blt d' 4294967296 with
  |true=>rw[hb]at h;simp only[cond,Option.some.injEq]at h;subst h;exact⟨rfl,Nat.le_of_ble_eq_true hb⟩
  |false=>rw[hb]at h;cases h
 .cases h
theorem kP{c:Array Value}{T:TypeId}{i:BI}{n:Nat}{d:List AVal}{els:T8 (List AVal)}(hb:w.heap[i.blk]?=some (.cells c T (0,0)))(ha:ArrOk ρ ω c i 1 n d els){j:Nat}(hj:j<n){a:Nat}(h:rowDig (elem j d els)=some a):w.cell? ⟨i.blk,i.base+j,none⟩=some (.int .u32 a):=by
 obtain⟨vs,h1,h2,_,h4⟩:=ha.els j hj;rw[(im h).1]at h1;cases h1 with
 |cons hx ht=>cases hx;cases ht;rw[cW hb];have:=h4 0 _ rfl;simpa using this
theorem wX{w:World}{b o c a:Nat}(hb:b<w.heap.size)(hc:1<=c)(h0:a≠0)(hl:a<4294967296)(h:w.cell? ⟨b,o,none⟩=some (.int .u32 a)):Digs w (some ⟨b,o,none⟩) 1 c (digs a):=
 {len:=by rw[aW (by omega) hl];rfl,cap:=hc,max:=by omega,lim:=dQ a,cells:=λ_=>⟨b,o,rfl,hb,λi hi=>by
  simp only[aW (show 0<a by omega) hl]at hi⊢;have:i=0:=by simpa using hi
  subst this
  exact h⟩}
theorem wY{w:World}{b o c x y:Nat}(hb:b<w.heap.size)(hc:2<=c)(h0:y≠0)(hx:x<4294967296)(hy:y<4294967296)(h:w.cell? ⟨b,o,none⟩=some (.int .u32 x))(h':w.cell? ⟨b,o+1,none⟩=some (.int .u32 y)):Digs w (some ⟨b,o,none⟩) 2 c (digs (x+4294967296*y)):=by
 have e:digs (x+4294967296*y)=[x,y]:=by rw[dR (by omega) (by omega),show(x+4294967296*y)%4294967296=x by omega,show(x+4294967296*y)/4294967296=y by omega]
 rw[e];refine {len:=rfl,cap:=hc,max:=by omega,lim:=λa ha=>?_,cells:=λ_=>⟨b,o,rfl,hb,λi hi=>?_⟩}
 .simp at ha;omega
 .have:i=0\/i=1:=by simp at hi;omega
  rcases this with rfl|rfl
  .exact h
  .exact h'
theorem oU(hr:HR P ρ ω H w){id:Pth}{off len n:Nat}{z:Bool}{i:BI}(hi:ρ id=some i)(h:numAt H id off len=.ok n z){c:Nat}(hc:len<=c):Digs w (some ⟨i.blk,i.base+off,none⟩) len c (digs n)/\z=false/\n<18446744073709551616/\0<n:=by
 unfold numAt at h;have hok:=hr.ok id;split at h
 .rename_i esz m d els hg;rw[hg]at hok;obtain⟨i',cs,T,h1,h2,h3⟩:=hok;rw[hi]at h1;simp only[Option.some.injEq]at h1;subst h1;have hlt:i.blk<w.heap.size:=(Array.getElem?_eq_some_iff.1 h2).1;cases he:Nat.beq esz 1 with
  |false=>rw[he]at h;cases h
  |true=>
   have e1:=an.1 he;subst e1;rw[he]at h;simp only[cond]at h;cases hl1:Nat.beq len 1 with
   |true=>
    have e2:=an.1 hl1;subst e2;rw[hl1]at h;simp only[]at h;cases hb:Nat.blt off m with
    |false=>rw[hb]at h;cases h
    |true=>
     rw[hb]at h;simp only[]at h;have hj:=au hb;split at h
     .rename_i a ha;cases hz:Nat.beq a 0 with
      |true=>rw[hz]at h;cases h
      |false=>
       rw[hz]at h;simp only[NZ.ok.injEq]at h;obtain⟨rfl,rfl⟩:=h;have hne:a≠0:=by intro e;subst e;cases hz
       have hla:=(im ha).2;exact⟨wX hlt hc hne hla (kP h2 h3 hj ha),rfl,by omega,by omega⟩
     .cases h
   |false=>
    rw[hl1]at h;simp only[]at h;cases hl2:Nat.beq len 2 with
    |false=>rw[hl2]at h;cases h
    |true=>
     have e2:=an.1 hl2;subst e2;rw[hl2]at h;simp only[]at h;cases hb:Nat.blt (Nat.add off 1) m with
     |false=>rw[hb]at h;cases h
     |true=>
      rw[hb]at h;simp only[]at h;have hj:=au hb;have hj':off+1<m:=hj;split at h
      .rename_i a b ha hb2;cases hz:Nat.beq b 0 with
       |true=>rw[hz]at h;cases h
       |false=>
        rw[hz]at h;simp only[NZ.ok.injEq]at h;obtain⟨rfl,rfl⟩:=h;have hne:b≠0:=by intro e;subst e;cases hz
        have hla:=(im ha).2;have hlb:=(im hb2).2;refine⟨wY hlt hc hne hla hlb (kP h2 h3 (by omega) ha) (kP h2 h3 hj' hb2),rfl,?_,?_⟩
        .show a+4294967296*b<_;omega
        .show 0<a+4294967296*b;omega
      .cases h
 .cases h
theorem _root_.Go.BI.Digs.empty(w:World)(A:Option Addr)(c:Nat):Digs w A 0 c (digs 0):={len:=rfl,cap:=Nat.zero_le _,max:=by omega,lim:=dQ 0,cells:=λh=>absurd h (by omega)}
theorem wZ(hr:HR P ρ ω H w){x:AVal}{v:Value}(hv:VR ρ ω x v){n:Nat}{z:Bool}(h:numOf H x=.ok n z):Num w v n z/\n<18446744073709551616:=by
 cases hv with
 |snil=>simp only[numOf,NZ.ok.injEq]at h;obtain⟨rfl,rfl⟩:=h;exact⟨⟨none,0,0,rfl,.empty _ _ _,λ_=>⟨rfl,rfl⟩,λh=>(by cases h)⟩,by omega⟩
 |se a c=>simp only[numOf,NZ.ok.injEq]at h;obtain⟨rfl,rfl⟩:=h;exact⟨⟨some a,0,c,rfl,.empty _ _ _,λh=>(by cases h),λ_=>⟨a,rfl⟩⟩,by omega⟩
 |mag m b o len cap c hc hm=>
  simp only[numOf,NZ.ok.injEq]at h;obtain⟨rfl,rfl⟩:=h;obtain⟨⟨T,hT⟩,_⟩:=hr.num b c hc;refine⟨⟨some ⟨b,o,none⟩,len,cap,rfl,⟨hm.len_eq,hm.cap_le,?_,dQ _,λ_=>⟨b,o,rfl,hr.dS hc,λi hi=>?_⟩⟩,λh=>(by cases h),λ_=>⟨_,rfl⟩⟩,hm.small⟩
  .rw[hm.lenN];unfold magN;cases Nat.blt m 4294967296<;>(simp only[cond];omega)
  .rw[cW hT];exact hm.cells i hi
 |sl id off len cap i hi=>
  simp only[numOf]at h;cases hb:Nat.ble len cap with
  |false=>rw[hb]at h;cases h
  |true=>
   have hc:len<=cap:=Nat.le_of_ble_eq_true hb;rw[hb]at h;simp only[cond]at h;cases hz:Nat.beq len 0 with
   |true=>have:=an.1 hz;subst this;rw[hz]at h;simp only[NZ.ok.injEq]at h;obtain⟨rfl,rfl⟩:=h;exact⟨⟨_,_,_,rfl,.empty _ _ _,λh=>(by cases h),λ_=>⟨_,rfl⟩⟩,by omega⟩
   |false=>rw[hz]at h;obtain⟨h1,rfl,h3,_⟩:=oU hr hi h hc;exact⟨⟨_,_,_,rfl,h1,λh=>(by cases h),λ_=>⟨_,rfl⟩⟩,h3⟩
 |sg id off len esz cap i hi hl hlim=>
  simp only[numOf]at h;cases hb:Nat.beq esz 1 with
  |false=>rw[hb]at h;cases h
  |true=>
   rw[hb]at h;simp only[cond]at h;cases hz:Nat.beq len 0 with
   |true=>have:=an.1 hz;subst this;rw[hz]at h;simp only[NZ.ok.injEq]at h;obtain⟨rfl,rfl⟩:=h;exact⟨⟨_,_,_,rfl,.empty _ _ _,λh=>(by cases h),λ_=>⟨_,rfl⟩⟩,by omega⟩
   |false=>rw[hz]at h;obtain⟨h1,rfl,h3,_⟩:=oU hr hi h hl;exact⟨⟨_,_,_,rfl,h1,λh=>(by cases h),λ_=>⟨_,rfl⟩⟩,h3⟩
 |_=>cases h
def putK(H:AH)(n:Nat)(z:Bool)(k:AVal->AH->R):R:=
 bif Nat.beq n 0 then k (bif z then .snil else .se) H else
 bif Nat.blt n 18446744073709551616 then k (.mag n) H else .no
theorem Step.grow(hr:HR P ρ ω H w)(hb:RowKit.Below w.heap.size w w'):Step P ρ ω H w ρ H w' where
 sub:=.refl _
 hr:=⟨λid=>by
  have h:=hr.ok id;by_cases hl:live (H.m.get .dead id)=true
  .obtain⟨i,hi,hlt⟩:=h.lt hl;exact ObjOk.mono (.refl _) (λj hj=>by rw[hi]at hj;cases hj;exact hb.block _ hlt) h
  .exact h.idle hl (.refl _),hr.inj,hr.fresh,λb c h=>⟨let ⟨T,hT⟩:=(hr.num b c h).1;⟨T,(hb.block b (hr.dS h)).trans hT⟩,(hr.num b c h).2⟩⟩
 idle:=λ_ _ h=>h
 nums:=λ_ _ h=>.inl h
 os:=hb.os
 tape:=hb.tape
 output:=hb.output
 size:=hb.size
 keep:=λb h _=>hb.block b h
 al:=λ_ _ h=>h
 imgo:=λ_ _ h=>h
 next:=Nat.le_refl _
 dom:=λ_ _ h _=>h
structure NoObj(ρ:Rho)(H:AH)(b:Nat):Prop where
 obj:∀id j,live (H.m.get .dead id)=true->ρ id=some j->j.blk≠b
 num:∀c,ρ.num b≠some c
theorem HR.iq(hr:HR P ρ ω H w){b:Nat}(hb:w.heap.size<=b):NoObj ρ H b:=⟨λid j hl hj e=>by
 obtain⟨i,hi,hlt⟩:=(hr.ok id).lt hl;rw[hj]at hi;cases hi
 omega,λc h=>by have:=hr.dS h;omega⟩
def Rho.add(ρ:Rho)(b:Nat)(cs:Array Value):Rho:=⟨ρ.o,λq=>if q=b then some cs else ρ.num q⟩
theorem Rho.add_same(ρ:Rho)(b:Nat)(cs:Array Value):(ρ.add b cs).num b=some cs:=if_pos rfl
theorem Step.num(hs:Step P ρ ω H w ρ1 H1 w'){b:Nat}{cs:Array Value}{T:TypeId}(hB:w.heap.size<=b)(hno:NoObj ρ1 H1 b)(hb:w'.heap[b]?=some (.cells cs T (0,0))):Step P ρ ω H w (ρ1.add b cs) H1 w'/\Sub ρ1 (ρ1.add b cs):=by
 have hr:=hs.hr
 have hsub:Sub ρ1 (ρ1.add b cs):=⟨λ_ _ h=>h,λq c h=>by
  by_cases e:q=b
  .subst e;obtain⟨⟨T',hT⟩,_⟩:=hr.num q c h;rw[hT]at hb;simp only[Option.some.injEq,Obj.cells.injEq]at hb;rw[hb.1];exact Rho.add_same _ _ _
  .show(if q=b then some cs else ρ1.num q)=some c
   rw[if_neg e];exact h⟩
 refine⟨⟨hs.sub.trans hsub,⟨λid=>ObjOk.mono hsub (λ_ _=>rfl) (hr.ok id),hr.inj,hr.fresh,λq c h=>?_⟩,hs.os,hs.tape,hs.output,hs.size,hs.keep,hs.al,hs.imgo,hs.next,hs.dom,hs.idle,λq c h=>?_⟩,hsub⟩
 .have h:(if q=b then some cs else ρ1.num q)=some c:=h;by_cases e:q=b
  .subst e;rw[if_pos rfl]at h;cases h;exact⟨⟨T,hb⟩,λid i hown hi e=>hno.obj id i (aj hown) hi e⟩
  .rw[if_neg e]at h;exact hr.num q c h
 .have h:(if q=b then some cs else ρ1.num q)=some c:=h;by_cases e:q=b
  .subst e;exact .inr (.inl hB)
  .rw[if_neg e]at h;exact hs.nums q c h
theorem Step.put(hs:Step P ρ ω H w ρ1 H1 w'){o:AObj}{i:BI}(hi:w.heap.size<=i.blk)(hno:NoObj ρ1 H1 i.blk)(hobj:ObjOk P (ext ρ1 H1.next i) ω w' H1.next o):Step P ρ ω H w (ext ρ1 H1.next i) (H1.add o) w':=by
 have hr:=hs.hr;have hn:(H1.add o).next.toNat=H1.next.toNat+1:=Pth.ab _
 exact {
 sub:=hs.sub.trans (bh hr i)
 idle:=λq hl h=>by rw[aB (λe=>by subst e;have:=hs.next;omega)];exact hs.idle q hl h
 nums:=hs.nums
 hr:={
  ok:=λid=>by
   by_cases he:H1.next=id
   .subst he;rw[bZ];exact hobj
   .rw[aB he];exact ObjOk.mono (bh hr i) (λ_ _=>rfl) (hr.ok id)
  num:=λb c h=>by
   have h:ρ1.num b=some c:=h;refine⟨(hr.num b c h).1,λa ia hoa ha e=>?_⟩;by_cases e1:H1.next=a
   .subst e1;rw[ad]at ha;cases ha;subst e;exact hno.num c h
   .rw[aB e1]at hoa;rw[ak _ _ (Ne.symm e1)]at ha;exact(hr.num b c h).2 a ia hoa ha e
  inj:=λa b ia ib hoa hlb hab ha hb'=>by
   by_cases e1:H1.next=a
   .subst e1;rw[aB hab]at hlb;rw[ad]at ha;cases ha;rw[ak _ _ (Ne.symm hab)]at hb';exactλe=>hno.obj b ib hlb hb' e.symm
   .rw[aB e1]at hoa;rw[ak _ _ (Ne.symm e1)]at ha;by_cases e2:H1.next=b
    .subst e2;rw[ad]at hb';cases hb';exact hno.obj a ia (aj hoa) ha
    .rw[aB e2]at hlb;rw[ak _ _ (Ne.symm e2)]at hb';exact hr.inj a b ia ib hoa hlb hab ha hb'
  fresh:=λid j hj=>by
   rw[hn];by_cases e:id=H1.next
   .subst e;omega
   .rw[ak _ _ e]at hj;have:=hr.fresh id j hj
    omega}
 os:=hs.os
 tape:=hs.tape
 output:=hs.output
 size:=hs.size
 keep:=hs.keep
 al:=λb hb' hi'=>by
  obtain⟨a,ia,ho,ha,rfl⟩:=hi';by_cases e:H1.next=a
  .subst e;rw[ad]at ha;cases ha;omega
  .rw[aB e]at ho;rw[ak _ _ (Ne.symm e)]at ha;exact hs.al _ hb' ⟨a,ia,ho,ha,rfl⟩
 imgo:=λb hb' hi'=>by
  obtain⟨a,ia,ho,ha,rfl⟩:=hi';by_cases e:H1.next=a
  .subst e;rw[ad]at ha;cases ha;omega
  .rw[aB e]at ho;rw[ak _ _ (Ne.symm e)]at ha;exact hs.imgo _ hb' ⟨a,ia,ho,ha,rfl⟩
 next:=by rw[hn];have:=hs.next;omega
 dom:=λid j hj hl=>by
  by_cases e:id=H1.next
  .subst e;have:=hs.next;omega
  .rw[ak _ _ e]at hj
   exact hs.dom id j hj hl}
def blkOf:Value->Option Nat
 |.slice (some a) (_+1) _=>some a.block
 |_=>none
theorem Num.oV{v:Value}{z:Bool}(h:Num w v 0 z):(z=true->v=.slice none 0 0)/\(z=false->∃a c,v=.slice (some a) 0 c):=by
 obtain⟨A,m,c,rfl,hd,h1,h2⟩:=h.is;have hm:m=0:=hd.len.symm;subst hm;refine⟨λhz=>?_,λhz=>?_⟩
 .obtain⟨rfl,rfl⟩:=h1 hz;rfl
 .obtain⟨a,rfl⟩:=h2 hz;exact⟨a,c,rfl⟩
theorem oW(hs:Step P ρ ω H w ρ1 H1 w'){v:Value}{n:Nat}{z:Bool}(hv:NumN w.heap.size w' v n z)(hno:∀b,blkOf v=some b->NoObj ρ1 H1 b){k:AVal->AH->R}{x:AVal}{Hr:AH}(h:putK H1 n z k=.ok x Hr):∃y H2 ρ2,k y H2=.ok x Hr/\VR ρ2 ω y v/\v.oneCell'=true/\Step P ρ ω H w ρ2 H2 w'/\Sub ρ1 ρ2/\∀b,NoObj ρ1 H1 b->blkOf v≠some b->NoObj ρ2 H2 b:=by
 unfold putK at h;cases h0:Nat.beq n 0 with
 |true=>
  have:=an.1 h0;subst this;rw[h0]at h;obtain⟨h1,h2⟩:=Num.oV hv.num;cases z with
  |true=>rw[h1 rfl];exact⟨_,_,_,h,.snil,rfl,hs,.refl _,λ_ h _=>h⟩
  |false=>obtain⟨a,c,e⟩:=h2 rfl;rw[e];exact⟨_,_,_,h,.se a c,rfl,hs,.refl _,λ_ h _=>h⟩
 |false=>
  have hne:n≠0:=by intro e;subst e;cases h0
  rw[h0]at h;simp only[cond]at h;obtain⟨A,m,c,rfl,b,o,cs,T,rfl,hB,hb,hsz⟩:∃A m c,v=.slice A m c/\∃b o cs T,A=some ⟨b,o,none⟩/\w.heap.size<=b/\w'.heap[b]?=some (.cells cs T (0,0))/\o+c<=cs.size:=by obtain⟨A,m,c,e,ho⟩:=hv.own (by omega);exact⟨A,m,c,e,ho.blk⟩
  obtain⟨A',m',c',e,hd,_,_⟩:=hv.num.is;cases e
  have hcells:∀i (hi:i<(digs n).length),cs[o+i]?=some (.int .u32 ((digs n)[i]:Nat)):=by
   have hm:0<m:=by rw[<-hd.len];exact List.length_pos_iff.2 (λe=>hne (eM.1 e))
   obtain⟨b',o',e,_,hc⟩:=hd.cells hm;cases e;intro i hi;have:=hc i hi
   rwa [cW hb]at this
  have hblk:blkOf (.slice (some ⟨b,o,none⟩) m c)=some b:=by
   have hm:0<m:=by rw[<-hd.len];exact List.length_pos_iff.2 (λe=>hne (eM.1 e))
   match m,hm with
   |m+1,_=>rfl
  cases h2:Nat.blt n 18446744073709551616 with
  |false=>rw[h2]at h;cases h
  |true=>
   rw[h2]at h;obtain⟨k1,k2⟩:=hs.num hB (hno b hblk) hb
   exact⟨_,_,_,h,.mag n b o m c cs (Rho.add_same _ _ _) ⟨by omega,au h2,hd.len,hd.cap,hsz,hcells⟩,rfl,k1,k2,λb' h' hne'=>⟨h'.obj,λc'=>by
    have hb':b'≠b:=λe=>hne' (by rw[hblk,e])
    show(if b'=b then some cs else ρ1.num b')≠some c';rw[if_neg hb']
    exact h'.num c'⟩⟩
end Go.Ex
namespace Go.Ex
open Go Go.BI
variable{P:Program}{ρ ρ' ρ1:Rho}{ω:Nat->Value}{H H1:AH}{w w':World}
inductive Atom where
 |n (n:Nat) (z:Bool)
 |i (k:IntKind) (n:Int)
 |b (v:Bool)
inductive Part where
 |one (a:Atom)
 |agg (l:List Atom)
inductive Res where
 |no
 |one (p:Part)
 |tup (l:List Part)
def readAtom(H:AH)(x:AVal)(k:Atom->R):R:=
 match x with
 |.bool v=>k (.b v)
 |.int c n=>k (.i c n)
 |x=>match numOf H x with
  |.ok n z=>k (.n n z)
  |.no=>.no
def readAtoms(H:AH):List AVal->(List Atom->R)->R
 |[],k=>k []
 |x::l,k=>readAtom H x λa=>readAtoms H l λr=>k (a::r)
def readPart(H:AH)(x:AVal)(k:Part->R):R:=
 match x with
 |.agg l=>readAtoms H l λr=>k (.agg r)
 |x=>readAtom H x λa=>k (.one a)
def readParts(H:AH):List AVal->(List Part->R)->R
 |[],k=>k []
 |x::l,k=>readPart H x λa=>readParts H l λr=>k (a::r)
def giveAtom(a:Atom)(H:AH)(k:AVal->AH->R):R:=
 match a with
 |.b v=>k (.bool v) H
 |.i c n=>k (.int c n) H
 |.n n z=>putK H n z k
def giveAtoms:List Atom->AH->(List AVal->AH->R)->R
 |[],H,k=>k [] H
 |a::l,H,k=>giveAtom a H λx H'=>giveAtoms l H' λr H''=>k (x::r) H''
def givePart(p:Part)(H:AH)(k:AVal->AH->R):R:=
 match p with
 |.one a=>giveAtom a H k
 |.agg l=>giveAtoms l H λr H'=>k (.agg r) H'
def giveParts:List Part->AH->(List AVal->AH->R)->R
 |[],H,k=>k [] H
 |p::l,H,k=>givePart p H λx H'=>giveParts l H' λr H''=>k (x::r) H''
def giveRes(r:Res)(H:AH):R:=
 match r with
 |.no=>.no
 |.one p=>givePart p H .ok
 |.tup l=>giveParts l H λr H'=>.ok (.tup r) H'
def natG(g:List Part->Res)(args:List AVal)(H:AH):R:=readParts H args λps=>giveRes (g ps) H
inductive AtomV(w:World):Atom->Value->Prop where
 |n {n:Nat} {z:Bool} {v:Value} (h:Num w v n z) (hl:n<18446744073709551616):AtomV w (.n n z) v
 |i (k:IntKind) (n:Int):AtomV w (.i k n) (.int k n)
 |b (v:Bool):AtomV w (.b v) (.bool v)
inductive PartV(w:World):Part->Value->Prop where
 |one {a:Atom} {v:Value} (h:AtomV w a v):PartV w (.one a) v
 |agg {l:List Atom} {vs:List Value} (h:All2 (AtomV w) l vs):PartV w (.agg l) (.agg vs.toArray)
inductive AtomN(B:Nat)(w:World):Atom->Value->Prop where
 |n {n:Nat} {z:Bool} {v:Value} (h:NumN B w v n z):AtomN B w (.n n z) v
 |i (k:IntKind) (n:Int):AtomN B w (.i k n) (.int k n)
 |b (v:Bool):AtomN B w (.b v) (.bool v)
def apart(u v:Value):Prop:=∀b,blkOf u=some b->blkOf v≠some b
inductive PartN(B:Nat)(w:World):Part->List Value->Value->Prop where
 |one {a:Atom} {v:Value} (h:AtomN B w a v):PartN B w (.one a) [v] v
 |agg {l:List Atom} {vs:List Value} (h:All2 (AtomN B w) l vs):PartN B w (.agg l) vs (.agg vs.toArray)
inductive PartsN(B:Nat)(w:World):List Part->List Value->List Value->Prop where
 |nil:PartsN B w [] [] []
 |cons {p:Part} {l:List Part} {cs ds vs:List Value} {v:Value} (h:PartN B w p cs v) (t:PartsN B w l ds vs):PartsN B w (p::l) (cs++ds) (v::vs)
inductive ResN(B:Nat)(w:World):Res->Value->Prop where
 |one {p:Part} {cs:List Value} {v:Value} (h:PartN B w p cs v) (hd:cs.Pairwise apart):ResN B w (.one p) v
 |tup {l:List Part} {cs vs:List Value} (h:PartsN B w l cs vs) (hd:cs.Pairwise apart):ResN B w (.tup l) (.tuple vs.toArray)
theorem oX(hr:HR P ρ ω H w){x:AVal}{v:Value}(hv:VR ρ ω x v){k:Atom->R}{y:AVal}{H':AH}(h:readAtom H x k=.ok y H'):∃a,AtomV w a v/\k a=.ok y H':=by
 have gen:(match numOf H x with|.ok n z=>k (.n n z)|.no=>.no)=R.ok y H'->∃a,AtomV w a v/\k a=.ok y H':=by
  intro h;cases hn:numOf H x with
  |no=>rw[hn]at h;cases h
  |ok n z=>rw[hn]at h;obtain⟨h1,h2⟩:=wZ hr hv hn;exact⟨_,.n h1 h2,h⟩
 cases hv with
 |bool b=>exact⟨_,.b b,h⟩
 |int c n=>exact⟨_,.i c n,h⟩
 |_=>exact gen h
theorem w_(hr:HR P ρ ω H w){l:List AVal}{vs:List Value}(hv:All2 (VR ρ ω) l vs):∀{k:List Atom->R} {y:AVal} {H':AH},readAtoms H l k=.ok y H'->∃az,All2 (AtomV w) az vs/\k az=.ok y H':=by
 induction hv with
 |nil=>intro k y H' h;exact⟨[],.nil,h⟩
 |cons hx _ ih=>intro k y H' h;obtain⟨a,h1,h2⟩:=oX hr hx h;obtain⟨az,h3,h4⟩:=ih h2;exact⟨_,.cons h1 h3,h4⟩
theorem xd(hr:HR P ρ ω H w){x:AVal}{v:Value}(hv:VR ρ ω x v){k:Part->R}{y:AVal}{H':AH}(h:readPart H x k=.ok y H'):∃p,PartV w p v/\k p=.ok y H':=by
 have gen:readAtom H x (λa=>k (.one a))=R.ok y H'->∃p,PartV w p v/\k p=.ok y H':=by intro h;obtain⟨a,h1,h2⟩:=oX hr hv h;exact⟨_,.one h1,h2⟩
 cases hv with
 |agg l vs hl hc=>obtain⟨az,h1,h2⟩:=w_ hr hl h;exact⟨_,.agg h1,h2⟩
 |_=>exact gen h
theorem xe(hr:HR P ρ ω H w){l:List AVal}{vs:List Value}(hv:All2 (VR ρ ω) l vs):∀{k:List Part->R} {y:AVal} {H':AH},readParts H l k=.ok y H'->∃ps,All2 (PartV w) ps vs/\k ps=.ok y H':=by
 induction hv with
 |nil=>intro k y H' h;exact⟨[],.nil,h⟩
 |cons hx _ ih=>intro k y H' h;obtain⟨a,h1,h2⟩:=xd hr hx h;obtain⟨az,h3,h4⟩:=ih h2;exact⟨_,.cons h1 h3,h4⟩
theorem oY(hs:Step P ρ ω H w ρ1 H1 w'){a:Atom}{v:Value}(hv:AtomN w.heap.size w' a v)(hno:∀b,blkOf v=some b->NoObj ρ1 H1 b){k:AVal->AH->R}{x:AVal}{Hr:AH}(h:giveAtom a H1 k=.ok x Hr):∃y H2 ρ2,k y H2=.ok x Hr/\VR ρ2 ω y v/\v.oneCell'=true/\Step P ρ ω H w ρ2 H2 w'/\Sub ρ1 ρ2/\∀b,NoObj ρ1 H1 b->blkOf v≠some b->NoObj ρ2 H2 b:=by
 cases hv with
 |n hn=>exact oW hs hn hno h
 |i c n=>exact⟨_,_,_,h,.int c n,rfl,hs,.refl _,λ_ h _=>h⟩
 |b v=>exact⟨_,_,_,h,.bool v,rfl,hs,.refl _,λ_ h _=>h⟩
theorem xf{az:List Atom}{vs:List Value}(hv:All2 (AtomN w.heap.size w') az vs):∀{ρ1:Rho} {H1:AH} {k:List AVal->AH->R} {x:AVal} {Hr:AH},vs.Pairwise apart->Step P ρ ω H w ρ1 H1 w'->(∀v∈vs,∀b,blkOf v=some b->NoObj ρ1 H1 b)->giveAtoms az H1 k=.ok x Hr->∃ys H2 ρ2,k ys H2=.ok x Hr/\All2 (VR ρ2 ω) ys vs/\(∀v∈vs,v.oneCell'=true)/\Step P ρ ω H w ρ2 H2 w'/\Sub ρ1 ρ2/\∀b,NoObj ρ1 H1 b->(∀v∈vs,blkOf v≠some b)->NoObj ρ2 H2 b:=by
 induction hv with
 |nil=>intro ρ1 H1 k x Hr _ hs _ h;exact⟨[],_,_,h,.nil,λ_ h=>(by cases h),hs,.refl _,λ_ h _=>h⟩
 |@cons a v az vs hx _ ih=>
  intro ρ1 H1 k x Hr hp hs hno h;rw[List.pairwise_cons]at hp;obtain⟨y,H2,ρ2,h1,h2,h3,h4,h5,h6⟩:=oY hs hx (hno v (List.mem_cons_self ..)) h;obtain⟨ys,H3,ρ3,g1,g2,g3,g4,g5,g6⟩:=ih hp.2 h4 (λu hu b hb=>h6 b (hno u (List.mem_cons_of_mem _ hu) b hb) λe=>hp.1 u hu b e hb) h1;refine⟨_,H3,ρ3,g1,.cons (h2.mono g5) g2,λu hu=>?_,g4,h5.trans g5,λb hb hall=>g6 b (h6 b hb (hall v (List.mem_cons_self ..))) λu hu=>hall u (List.mem_cons_of_mem _ hu)⟩;rcases List.mem_cons.1 hu with rfl|hu
  .exact h3
  .exact g3 u hu
theorem oZ{p:Part}{cs:List Value}{v:Value}(hv:PartN w.heap.size w' p cs v){k:AVal->AH->R}{x:AVal}{Hr:AH}(hp:cs.Pairwise apart)(hs:Step P ρ ω H w ρ1 H1 w')(hno:∀v∈cs,∀b,blkOf v=some b->NoObj ρ1 H1 b)(h:givePart p H1 k=.ok x Hr):∃y H2 ρ2,k y H2=.ok x Hr/\VR ρ2 ω y v/\Step P ρ ω H w ρ2 H2 w'/\Sub ρ1 ρ2/\∀b,NoObj ρ1 H1 b->(∀v∈cs,blkOf v≠some b)->NoObj ρ2 H2 b:=by
 cases hv with
 |one ha=>obtain⟨y,H2,ρ2,h1,h2,h3,h4,h5,h6⟩:=oY hs ha (hno v (List.mem_cons_self ..)) h;exact⟨y,H2,ρ2,h1,h2,h4,h5,λb hb hall=>h6 b hb (hall v (List.mem_cons_self ..))⟩
 |agg ha=>obtain⟨ys,H2,ρ2,h1,h2,h3,h4,h5,h6⟩:=xf ha hp hs hno h;exact⟨_,H2,ρ2,h1,.agg ys _ h2 h3,h4,h5,h6⟩
theorem xg{l:List Part}{cs vs:List Value}(hv:PartsN w.heap.size w' l cs vs):∀{ρ1:Rho} {H1:AH} {k:List AVal->AH->R} {x:AVal} {Hr:AH},cs.Pairwise apart->Step P ρ ω H w ρ1 H1 w'->(∀v∈cs,∀b,blkOf v=some b->NoObj ρ1 H1 b)->giveParts l H1 k=.ok x Hr->∃ys H2 ρ2,k ys H2=.ok x Hr/\All2 (VR ρ2 ω) ys vs/\Step P ρ ω H w ρ2 H2 w'/\Sub ρ1 ρ2:=by
 induction hv with
 |nil=>intro ρ1 H1 k x Hr _ hs _ h;exact⟨[],_,_,h,.nil,hs,.refl _⟩
 |@cons p l cs ds vs v hx _ ih=>intro ρ1 H1 k x Hr hp hs hno h;rw[List.pairwise_append]at hp;obtain⟨y,H2,ρ2,h1,h2,h4,h5,h6⟩:=oZ hx hp.1 hs (λu hu=>hno u (List.mem_append_left _ hu)) h;obtain⟨ys,H3,ρ3,g1,g2,g4,g5⟩:=ih hp.2.1 h4 (λu hu b hb=>h6 b (hno u (List.mem_append_right _ hu) b hb) λq hq e=>hp.2.2 q hq u hu b e hb) h1;exact⟨_,H3,ρ3,g1,.cons (h2.mono g5) g2,g4,h5.trans g5⟩
theorem PartN.fresh{B:Nat}{p:Part}{cs:List Value}{v:Value}(h:PartN B w' p cs v):∀u∈cs,∀b,blkOf u=some b->B<=b:=by
 have at1:∀{a:Atom} {u:Value},AtomN B w' a u->∀b,blkOf u=some b->B<=b:=by
  intro a u ha b hb;cases ha with
  |i k n=>cases hb
  |b v=>cases hb
  |@n n z _ hn=>
   obtain⟨A,m,c,rfl,hd,_,_⟩:=hn.num.is;cases A with
   |none=>cases hb
   |some a=>
    cases m with
    |zero=>cases hb
    |succ m=>
     have hpos:0<n:=by
      rcases Nat.eq_zero_or_pos n with rfl|h
      .exact absurd hd.len (by simp[fY])
      .exact h
     obtain⟨A',m',c',e,ho⟩:=hn.own hpos;cases e;obtain⟨b',o,cs,T,e,hB,_⟩:=ho.blk;cases e;simp only[blkOf,Option.some.injEq]at hb;omega
 cases h with
 |one ha=>
  intro u hu;have:u=v:=by simpa using hu
  subst this;exact at1 ha
 |agg ha=>intro u hu;obtain⟨i,hi⟩:=List.mem_iff_getElem?.1 hu;obtain⟨a,_,h1⟩:=ha.get' i u hi;exact at1 h1
theorem PartsN.fresh{B:Nat}{l:List Part}{cs vs:List Value}(h:PartsN B w' l cs vs):∀u∈cs,∀b,blkOf u=some b->B<=b:=by
 induction h with
 |nil=>intro u hu;cases hu
 |cons hp _ ih=>
  intro u hu;rcases List.mem_append.1 hu with h|h
  .exact hp.fresh u h
  .exact ih u h
def NatC(P:Program)(f:Nat)(g:List Part->Res):Prop:=∀(w:World) (ps:List Part) (vals:List Value),All2 (PartV w) ps vals->g ps≠.no->Calls P f vals.toArray w λe w'=>(∃v,e=.returned v/\ResN w.heap.size w' (g ps) v)/\RowKit.Below w.heap.size w w'
def natO(g:List Part->Res):Orc:=⟨[],[],[],.bad,none,some (natG g)⟩
theorem aR{f:Nat}{g:List Part->Res}(hf:∃fn,P.funcs[f]?=some fn/\(fn.name== "runtime.NumGoroutine")=false/\fn.body.isNone=false) (hc:NatC P f g):OrcOk P ω f (natO g):=by
 intro args H v H' ρ w vals hone hr hg hv;obtain⟨fn,h1,h2,h3⟩:=hf;refine⟨fn,h1,h2,h3,?_⟩;have hn:natG g args H=.ok v H':=hone;obtain⟨ps,hps,hres⟩:=xe hr hv hn;have hne:g ps≠.no:=by intro e;rw[e]at hres;cases hres
 refine(callsIn_wide.2 (hc w ps vals hps hne)).mono ?_;rintro e w' ⟨⟨u,rfl,hu⟩,hb⟩;have hs:=Step.grow hr hb;generalize hq:g ps=r at *;cases hu with
 |one hp hd=>obtain⟨y,H2,ρ2,k1,k2,k3,_,_⟩:=oZ hp hd hs (λu hu b hb=>hr.iq (hp.fresh u hu b hb)) hres;cases k1;exact⟨ρ2,k2,k3⟩
 |tup hp hd=>obtain⟨ys,H2,ρ2,k1,k2,k3,_⟩:=xg hp hd hs (λu hu b hb=>hr.iq (hp.fresh u hu b hb)) hres;cases k1;exact⟨ρ2,.tup ys _ k2,k3⟩
end Go.Ex
namespace Go.BI
structure J where
 s:Bool
 n:Nat
 z:Bool
def jSign(s:Bool)(n:Nat):Bool:=bif Nat.beq n 0 then false else s
def J.null:J:=⟨false,0,true⟩
def inW(n:Nat):Bool:=Nat.blt n 18446744073709551616
def jSigned(s:Bool)(n:Nat)(z:Bool):J:=⟨jSign s n,n,z⟩
def jOf:Int->J
 |.ofNat n=>⟨false,n,Nat.beq n 0⟩
 |.negSucc n=>⟨true,Nat.succ n,false⟩
def jOne:J:=⟨false,1,false⟩
def J.normal(a:J):J:=⟨jSign a.s a.n,a.n,a.z⟩
def J.neg(a:J):J:=⟨jSign (!a.s) a.n,a.n,a.z⟩
def J.sign(a:J):Int:=bif Nat.beq a.n 0 then 0 else bif a.s then -1 else 1
def beqB:Bool->Bool->Bool
 |true,b=>b
 |false,b=>!b
def jAddS(a:J)(t:Bool)(m:Nat):Option J:=
 bif beqB a.s t then bif inW (Nat.add a.n m)then some (jSigned t (Nat.add a.n m) false)else none
 else bif Nat.ble m a.n then some (jSigned a.s (Nat.sub a.n m) false)
 else some (jSigned t (Nat.sub m a.n) false)
def jAdd(a b:J):Option J:=jAddS a b.s b.n
def jSub(a b:J):Option J:=jAddS a (!b.s) b.n
def isZ(n:Nat):Bool:=Nat.beq n 0
def jMul(a b:J):Option J:=
 bif isZ a.n||isZ b.n then some ⟨false,0,true⟩else
 bif Nat.blt a.n 4294967296&&Nat.blt b.n 4294967296 then some (jSigned (!(beqB a.s b.s)) (Nat.mul a.n b.n) false)else none
def jGcd(a b:J):J:=⟨false,Nat.gcd a.n b.n,bif isZ b.n then a.z else false⟩
def jExact(a b:J):Option J:=bif isZ b.n then none else bif isZ (Nat.mod a.n b.n)then some (jSigned (!(beqB a.s b.s)) (Nat.div a.n b.n) (isZ (Nat.div a.n b.n)))else none
def isOne(a:J):Bool:=Nat.beq a.n 1&&!a.s
structure Q where
 num:J
 den:J
def qOver(n d:J):Option Q:=
 bif isZ n.n||isZ d.n then some ⟨J.null,jOne⟩else
 bif d.s then none else
 bif Nat.beq d.n 1 then some ⟨⟨n.s,n.n,false⟩,⟨false,d.n,false⟩⟩else
 bif Nat.beq (Nat.gcd n.n d.n) 1 then some ⟨⟨n.s,n.n,false⟩,⟨false,d.n,false⟩⟩else
 some ⟨⟨n.s,Nat.div n.n (Nat.gcd n.n d.n),false⟩,⟨false,Nat.div d.n (Nat.gcd n.n d.n),false⟩⟩
def qNormal(a:Q):Option Q:=qOver a.num a.den
def qOf(n:Int):Q:=⟨jOf n,jOne⟩
def qWhole(a:J):Q:=⟨a.normal,jOne⟩
def qNeg(a:Q):Option Q:=qOver a.num.neg a.den
def qAdd(a b:Q):Option Q:=
 bif isZ a.den.n then qNormal b else bif isZ b.den.n then qNormal a else
 bif isOne a.den&&isOne b.den then(jAdd a.num b.num).map λn=>⟨n,jOne⟩else none
def qSub(a b:Q):Option Q:=(qNeg b).bind λc=>qAdd a c
def qMul(a b:Q):Option Q:=(jMul a.num b.num).bind λn=>(jMul a.den b.den).bind λd=>qOver n d
def qSign(a:Q):Int:=bif isZ a.num.n||isZ a.den.n then 0 else bif beqB a.num.s a.den.s then 1 else -1
end Go.BI
namespace Go.Ex
open Go Go.BI
variable{P:Program}
def jP(j:J):Part:=.agg [.b j.s,.n j.n j.z]
def qP(q:Q):Part:=.agg [.b q.num.s,.n q.num.n q.num.z,.b q.den.s,.n q.den.n q.den.z]
def ofJ:Option J->Res
 |some r=>.one (jP r)
 |none=>.no
def ofQ:Option Q->Res
 |some r=>.one (qP r)
 |none=>.no
def smallI:Int->Bool
 |.ofNat m=>Nat.blt m 9223372036854775808
 |.negSucc m=>Nat.blt m 9223372036854775808
def gJJ(F:J->J->Option J)(ps:List Part):Res:=
 match ps with
 |[.agg [.b s,.n a z],.agg [.b t,.n b u]]=>ofJ (F ⟨s,a,z⟩ ⟨t,b,u⟩)
 |_=>.no
def gJ(F:J->Option J)(ps:List Part):Res:=
 match ps with
 |[.agg [.b s,.n a z]]=>ofJ (F ⟨s,a,z⟩)
 |_=>.no
def gJi(F:J->Int)(ps:List Part):Res:=
 match ps with
 |[.agg [.b s,.n a z]]=>.one (.one (.i .i64 (F ⟨s,a,z⟩)))
 |_=>.no
def giJ(F:Int->J)(ps:List Part):Res:=
 match ps with
 |[.one (.i .i64 n)]=>bif smallI n then .one (jP (F n))else .no
 |_=>.no
def gQQ(F:Q->Q->Option Q)(ps:List Part):Res:=
 match ps with
 |[.agg [.b s,.n a z,.b s',.n a' z'],.agg [.b t,.n b u,.b t',.n b' u']]=>ofQ (F ⟨⟨s,a,z⟩,⟨s',a',z'⟩⟩ ⟨⟨t,b,u⟩,⟨t',b',u'⟩⟩)
 |_=>.no
def gQ(F:Q->Option Q)(ps:List Part):Res:=
 match ps with
 |[.agg [.b s,.n a z,.b s',.n a' z']]=>ofQ (F ⟨⟨s,a,z⟩,⟨s',a',z'⟩⟩)
 |_=>.no
def gQi(F:Q->Int)(ps:List Part):Res:=
 match ps with
 |[.agg [.b s,.n a z,.b s',.n a' z']]=>.one (.one (.i .i64 (F ⟨⟨s,a,z⟩,⟨s',a',z'⟩⟩)))
 |_=>.no
def giQ(F:Int->Q)(ps:List Part):Res:=
 match ps with
 |[.one (.i .i64 n)]=>bif smallI n then .one (qP (F n))else .no
 |_=>.no
def gJQ(F:J->Q)(ps:List Part):Res:=
 match ps with
 |[.agg [.b s,.n a z]]=>.one (qP (F ⟨s,a,z⟩))
 |_=>.no
def gii(F:Int->Int->Option Int)(ps:List Part):Res:=
 match ps with
 |[.one (.i .i64 a),.one (.i .i64 b)]=>match F a b with
  |some r=>.one (.one (.i .i64 r))
  |none=>.no
 |_=>.no
end Go.Ex
namespace Go.Ex
open Go.BI
def gJJQ(F:J->J->Option Q)(ps:List Part):Res:=
 match ps with
 |[.agg [.b s,.n a z],.agg [.b t,.n b u]]=>ofQ (F ⟨s,a,z⟩ ⟨t,b,u⟩)
 |_=>.no
def gJJe(F:J->J->Option J)(ps:List Part):Res:=
 match ps with
 |[.agg [.b s,.n a z],.agg [.b t,.n b u]]=>match F ⟨s,a,z⟩ ⟨t,b,u⟩with
  |some r=>.tup [jP r,.one (.i .i64 0)]
  |none=>.no
 |_=>.no
def gnn(ps:List Part):Res:=
 match ps with
 |[.one (.n a z)]=>.one (.one (.n a z))
 |_=>.no
def gcdI(a b:Int):Option Int:=
 match a,b with
 |.ofNat m,.ofNat n=>bif Nat.ble m 9223372036854775807&&Nat.ble n 9223372036854775807 then some (.ofNat (Nat.gcd m n))else none
 |_,_=>none
end Go.Ex
namespace Go.Ex
open Go.BI
def u32A(x:AVal)(k:Nat->R):R:=AVal.rec (motive_1:=λ_=>(Nat->R)->R) (motive_2:=λ_=>Unit) (λ_=>.no) (λ_=>.no) (λ_=>.no) (λ_=>.no) (λ_=>.no) (λ_=>.no) (λ_ _=>.no) (λ_ _=>.no) (λ_ _ _=>.no) (λ_ _=>.no) (λ_ _=>.no) (λ_ _=>.no) (λ_ _ _ _=>.no) (λ_ _ _=>.no) (λ_ _ _=>.no) (λ_ _ _ _ _=>.no) (λ_ _ _ _ _=>.no) (λ_ _ _=>.no) (λ_ _=>.no) (λkd n k=>IntKind.rec (motive:=λ_=>Int->(Nat->R)->R) (λ_ _=>.no) (λ_ _=>.no) (λ_ _=>.no) (λ_ _=>.no) (λ_ _=>.no) (λ_ _=>.no) (λn k=>Int.rec (motive:=λ_=>(Nat->R)->R) (λd k=>Bool.rec (motive:=λ_=>R) .no (k d) (Nat.blt d 4294967296)) (λ_ _=>.no) n k) (λ_ _=>.no) kd n k) () (λ_ _ _ _=>()) x k
def dgF(row:List AVal)(k:Nat->R):R:=List.rec (motive:=λ_=>(Nat->R)->R) (λ_=>.no) (λx t _ k=>List.rec (motive:=λ_=>AVal->(Nat->R)->R) (λx k=>u32A x k) (λ_ _ _ _ _=>.no) t x k) row k
theorem xh(row:List AVal)(k:Nat->R):dgF row k=(match rowDig row with|some d=>k d|none=>.no):=by
 match row with
 |[]=>rfl
 |a::b::l=>cases a<;>first|rfl|(rename_i kd n;cases kd<;>first|rfl|(cases n<;>rfl))
 |[a]=>
  cases a with
  |int kd n=>
   cases kd<;>first|rfl|skip
   cases n with
   |negSucc n=>rfl
   |ofNat d=>show Bool.rec (motive:=λ_=>R) .no (k d) (Nat.blt d 4294967296)=(match (bif Nat.blt d 4294967296 then some d else none)with|some d=>k d|none=>.no);cases Nat.blt d 4294967296<;>rfl
  |_=>rfl
def na1(esz n:Nat)(d:List AVal)(els:T8 (List AVal))(off len:Nat)(k:Nat->Bool->R):R:=
 Bool.rec (motive:=λ_=>R) .no (Bool.rec (motive:=λ_=>R)
  (Bool.rec (motive:=λ_=>R) .no (Bool.rec (motive:=λ_=>R) .no (dgF (elemK off d els) λa=>dgF (elemK (Nat.add off 1) d els) λb=>Bool.rec (motive:=λ_=>R) (k (Nat.add a (Nat.mul 4294967296 b)) false) .no (Nat.beq b 0)) (Nat.blt (Nat.add off 1) n)) (Nat.beq len 2))
  (Bool.rec (motive:=λ_=>R) .no (dgF (elemK off d els) λa=>Bool.rec (motive:=λ_=>R) (k a false) .no (Nat.beq a 0)) (Nat.blt off n)) (Nat.beq len 1)) (Nat.beq esz 1)
def naF(o:AObj)(off len:Nat)(k:Nat->Bool->R):R:=
 AObj.rec (motive:=λ_=>Nat->Nat->(Nat->Bool->R)->R) (λ_ _ _=>.no) (λ_ _ _ _ _ _ _ _=>.no) (λ_ _ _ _=>.no) (λ_ _ _ _ _ _ _=>.no)
  (λesz n d els off len k=>na1 esz n d els off len k) (λ_ _ _ _ _ _ _ _=>.no) o off len k
def nzK(r:NZ)(k:Nat->Bool->R):R:=match r with|.ok n z=>k n z|.no=>.no
theorem o4(H:AH)(id:Pth)(off len:Nat)(k:Nat->Bool->R):naF ((getHS id).run H.m) off len k=nzK (numAt H id off len) k:=by
 unfold numAt;rw[cG];cases T8.get .dead id H.m with
 |arr esz n d els=>
  show na1 esz n d els off len k=_;unfold na1;simp only[df,xh];cases Nat.beq esz 1 with
  |false=>rfl
  |true=>
   simp only[cond];cases Nat.beq len 1 with
   |true=>
    simp only[];cases Nat.blt off n with
    |false=>rfl
    |true=>
     simp only[];cases rowDig (elem off d els)with
     |none=>rfl
     |some a=>simp only[];cases Nat.beq a 0<;>rfl
   |false=>
    simp only[];cases Nat.beq len 2 with
    |false=>rfl
    |true=>
     simp only[];cases Nat.blt (Nat.add off 1) n with
     |false=>rfl
     |true=>
      simp only[];cases rowDig (elem off d els)with
      |none=>rfl
      |some a=>
       simp only[];cases rowDig (elem (Nat.add off 1) d els)with
       |none=>rfl
       |some b=>simp only[];cases Nat.beq b 0<;>rfl
 |_=>rfl
def nmF(x:AVal)(H:AH)(k:Nat->Bool->R):R:=AVal.rec (motive_1:=λ_=>AH->(Nat->Bool->R)->R) (motive_2:=λ_=>Unit) (λ_ _=>.no) (λ_ _=>.no) (λ_ k=>k 0 false) (λ_ k=>k 0 true) (λ_ _=>.no) (λ_ _=>.no) (λ_ _ _=>.no) (λn _ k=>k n false) (λ_ _ _ _=>.no) (λ_ _ _=>.no) (λ_ _ _=>.no) (λ_ _ _=>.no) (λ_ _ _ _ _=>.no) (λ_ _ _ _=>.no) (λ_ _ _ _=>.no) (λid off len esz H k=>Bool.rec (motive:=λ_=>R) .no (Bool.rec (motive:=λ_=>R) (naF ((getHS id).run H.m) off len k) (k 0 false) (Nat.beq len 0)) (Nat.beq esz 1)) (λid off len cap H k=>Bool.rec (motive:=λ_=>R) .no (Bool.rec (motive:=λ_=>R) (naF ((getHS id).run H.m) off len k) (k 0 false) (Nat.beq len 0)) (Nat.ble len cap)) (λ_ _ _ _=>.no) (λ_ _ _=>.no) (λ_ _ _ _=>.no) () (λ_ _ _ _=>()) x H k
theorem bw(x:AVal)(H:AH)(k:Nat->Bool->R):nmF x H k=nzK (numOf H x) k:=by
 cases x with
 |sl id off len cap=>
  show Bool.rec (motive:=λ_=>R) .no (Bool.rec (motive:=λ_=>R) (naF ((getHS id).run H.m) off len k) (k 0 false) (Nat.beq len 0)) (Nat.ble len cap)=_;rw[o4];unfold numOf;simp only[];cases Nat.ble len cap with
  |false=>rfl
  |true=>simp only[cond];cases Nat.beq len 0<;>rfl
 |sg id off len esz=>
  show Bool.rec (motive:=λ_=>R) .no (Bool.rec (motive:=λ_=>R) (naF ((getHS id).run H.m) off len k) (k 0 false) (Nat.beq len 0)) (Nat.beq esz 1)=_;rw[o4];unfold numOf;simp only[];cases Nat.beq esz 1 with
  |false=>rfl
  |true=>simp only[cond];cases Nat.beq len 0<;>rfl
 |_=>rfl
def pkF(n:Nat)(z:Bool)(H:AH)(k:AVal->AH->R):R:=Bool.rec (motive:=λ_=>R) (Bool.rec (motive:=λ_=>R) .no (k (.mag n) H) (Nat.blt n 18446744073709551616)) (k (Bool.rec (motive:=λ_=>AVal) .se .snil z) H) (Nat.beq n 0)
theorem fk(n:Nat)(z:Bool)(H:AH)(k:AVal->AH->R):pkF n z H k=putK H n z k:=by
 unfold pkF putK;cases Nat.beq n 0 with
 |true=>cases z<;>rfl
 |false=>simp only[cond];cases Nat.blt n 18446744073709551616<;>rfl
def bA(x:AVal)(k:Bool->R):R:=asB x k
def l2F(l:List AVal)(k:AVal->AVal->R):R:=List.rec (motive:=λ_=>(AVal->AVal->R)->R) (λ_=>.no) (λa t _ k=>List.rec (motive:=λ_=>AVal->(AVal->AVal->R)->R) (λ_ _=>.no) (λb t _ a k=>List.rec (motive:=λ_=>AVal->AVal->(AVal->AVal->R)->R) (λa b k=>k a b) (λ_ _ _ _ _ _=>.no) t a b k) t a k) l k
def l4F(l:List AVal)(k:AVal->AVal->AVal->AVal->R):R:=List.rec (motive:=λ_=>(AVal->AVal->AVal->AVal->R)->R) (λ_=>.no) (λa t _ k=>List.rec (motive:=λ_=>AVal->(AVal->AVal->AVal->AVal->R)->R) (λ_ _=>.no) (λb t _ a k=>List.rec (motive:=λ_=>AVal->AVal->(AVal->AVal->AVal->AVal->R)->R) (λ_ _ _=>.no) (λc t _ a b k=>List.rec (motive:=λ_=>AVal->AVal->AVal->(AVal->AVal->AVal->AVal->R)->R) (λ_ _ _ _=>.no) (λd t _ a b c k=>List.rec (motive:=λ_=>AVal->AVal->AVal->AVal->(AVal->AVal->AVal->AVal->R)->R) (λa b c d k=>k a b c d) (λ_ _ _ _ _ _ _ _=>.no) t a b c d k) t a b c k) t a b k) t a k) l k
def aggF(x:AVal)(k:List AVal->R):R:=AVal.rec (motive_1:=λ_=>(List AVal->R)->R) (motive_2:=λ_=>Unit) (λ_=>.no) (λ_=>.no) (λ_=>.no) (λ_=>.no) (λ_=>.no) (λ_=>.no) (λ_ _=>.no) (λ_ _=>.no) (λ_ _ _=>.no) (λ_ _=>.no) (λ_ _=>.no) (λ_ _=>.no) (λ_ _ _ _=>.no) (λ_ _ _=>.no) (λl _ k=>k l) (λ_ _ _ _ _=>.no) (λ_ _ _ _ _=>.no) (λ_ _ _=>.no) (λ_ _=>.no) (λ_ _ _=>.no) () (λ_ _ _ _=>()) x k
def slcF(x:AVal)(k:Pth->Nat->Nat->R):R:=AVal.rec (motive_1:=λ_=>(Pth->Nat->Nat->R)->R) (motive_2:=λ_=>Unit) (λ_=>.no) (λ_=>.no) (λ_=>.no) (λ_=>.no) (λ_=>.no) (λ_=>.no) (λ_ _=>.no) (λ_ _=>.no) (λ_ _ _=>.no) (λ_ _=>.no) (λ_ _=>.no) (λ_ _=>.no) (λ_ _ _ _=>.no) (λ_ _ _=>.no) (λ_ _ _=>.no) (λid off len _ k=>k id off len) (λid off len cap k=>Bool.rec (motive:=λ_=>R) .no (k id off len) (Nat.ble len cap)) (λ_ _ _=>.no) (λ_ _=>.no) (λ_ _ _=>.no) () (λ_ _ _ _=>()) x k
def rJ(x:AVal)(H:AH)(k:Bool->Nat->Bool->R):R:=aggF x λl=>l2F l λb m=>asB b λs=>nmF m H λn z=>k s n z
def rQ(x:AVal)(H:AH)(k:Bool->Nat->Bool->Bool->Nat->Bool->R):R:=aggF x λl=>l4F l λb m b' m'=>asB b λs=>asB b' λs'=>nmF m H λn z=>nmF m' H λn' z'=>k s n z s' n' z'
theorem dh{r:NZ}{k:Nat->Bool->R}{v:AVal}{H:AH}(h:nzK r k=.ok v H):∃n z,r=.ok n z/\k n z=.ok v H:=by
 cases r with
 |no=>cases h
 |ok n z=>exact⟨n,z,rfl,h⟩
theorem di{x:AVal}{k:List AVal->R}{v:AVal}{H:AH}(h:aggF x k=.ok v H):∃l,x=.agg l/\k l=.ok v H:=by
 cases x with
 |agg l=>exact⟨l,rfl,h⟩
 |_=>cases h
theorem xi{l:List AVal}{k:AVal->AVal->R}{v:AVal}{H:AH}(h:l2F l k=.ok v H):∃a b,l=[a,b]/\k a b=.ok v H:=by
 match l,h with
 |[],h=>cases h
 |[a],h=>cases h
 |[a,b],h=>exact⟨a,b,rfl,h⟩
 |a::b::c::l,h=>cases h
theorem fl{l:List AVal}{k:AVal->AVal->AVal->AVal->R}{v:AVal}{H:AH}(h:l4F l k=.ok v H):∃a b c d,l=[a,b,c,d]/\k a b c d=.ok v H:=by
 match l,h with
 |[],h=>cases h
 |[a],h=>cases h
 |[a,b],h=>cases h
 |[a,b,c],h=>cases h
 |[a,b,c,d],h=>exact⟨a,b,c,d,rfl,h⟩
 |a::b::c::d::e::l,h=>cases h
theorem iu{x:AVal}{H:AH}{n:Nat}{z:Bool}(h:numOf H x=.ok n z)(k:Atom->R):readAtom H x k=k (.n n z):=by
 cases x with
 |bool b=>cases h
 |int c n=>cases h
 |_=>unfold readAtom;simp only[h]
theorem cH{x:AVal}{H H1:AH}{k:Bool->Nat->Bool->R}{v:AVal}(h:rJ x H k=.ok v H1):∃s n z,(∀g,readPart H x g=g (.agg [.b s,.n n z]))/\k s n z=.ok v H1:=by obtain⟨l,rfl,h1⟩:=di h;obtain⟨a,b,rfl,h2⟩:=xi h1;obtain⟨s,rfl,h3⟩:=bR h2;rw[bw]at h3;obtain⟨n,z,e,h4⟩:=dh h3;refine⟨s,n,z,λg=>?_,h4⟩;show readAtom H b (λa=>g (.agg [.b s,a]))=_;rw[iu e]
theorem iw{x:AVal}{H H1:AH}{k:Bool->Nat->Bool->Bool->Nat->Bool->R}{v:AVal}(h:rQ x H k=.ok v H1):∃s n z s' n' z',(∀g,readPart H x g=g (.agg [.b s,.n n z,.b s',.n n' z']))/\k s n z s' n' z'=.ok v H1:=by obtain⟨l,rfl,h1⟩:=di h;obtain⟨a,b,c,d,rfl,h2⟩:=fl h1;obtain⟨s,rfl,h3⟩:=bR h2;obtain⟨s',rfl,h4⟩:=bR h3;rw[bw]at h4;obtain⟨n,z,e,h5⟩:=dh h4;rw[bw]at h5;obtain⟨n',z',e',h6⟩:=dh h5;refine⟨s,n,z,s',n',z',λg=>?_,h6⟩;show readAtom H b (λa=>readAtom H d λa'=>g (.agg [.b s,a,.b s',a']))=_;rw[iu e,iu e']
def gvJ(H:AH)(s:Bool)(n:Nat)(z:Bool):R:=pkF n z H λx H=>.ok (.agg [.bool s,x]) H
def gvQ(H:AH)(s:Bool)(n:Nat)(z s':Bool)(n':Nat)(z':Bool):R:=pkF n z H λx H=>pkF n' z' H λy H=>.ok (.agg [.bool s,x,.bool s',y]) H
theorem kQ(H:AH)(r:J):gvJ H r.s r.n r.z=giveRes (.one (jP r)) H:=by unfold gvJ;rw[fk];rfl
theorem fm(H:AH)(r:Q):gvQ H r.num.s r.num.n r.num.z r.den.s r.den.n r.den.z=giveRes (.one (qP r)) H:=by unfold gvQ;rw[fk];simp only[fk];rfl
end Go.Ex
namespace Go.Ex
open Go.BI
def eqK(s t:Bool):Bool:=Bool.rec (motive:=λ_=>Bool->Bool) (λt=>Bool.rec true false t) (λt=>t) s t
theorem ix(s t:Bool):eqK s t=beqB s t:=by cases s<;>cases t<;>rfl
def sgK(s:Bool)(n:Nat):Bool:=Bool.rec s false (Nat.beq n 0)
theorem dI(s:Bool)(n:Nat):sgK s n=jSign s n:=by unfold sgK jSign;cases Nat.beq n 0<;>rfl
abbrev KJ:Type:=Bool->Nat->Bool->R
abbrev KQ:Type:=Bool->Nat->Bool->Bool->Nat->Bool->R
abbrev F1:Type:=Bool->Nat->Bool->KJ->R
abbrev F2:Type:=Bool->Nat->Bool->Bool->Nat->Bool->KJ->R
abbrev F2Q:Type:=Bool->Nat->Bool->Bool->Nat->Bool->KQ->R
abbrev F4Q:Type:=Bool->Nat->Bool->Bool->Nat->Bool->Bool->Nat->Bool->Bool->Nat->Bool->KQ->R
def Is1(F:J->Option J)(FK:F1):Prop:=∀s a z k v H,FK s a z k=.ok v H->∃r,F ⟨s,a,z⟩=some r/\k r.s r.n r.z=.ok v H
def Is2(F:J->J->Option J)(FK:F2):Prop:=∀s a z t b u k v H,FK s a z t b u k=.ok v H->∃r,F ⟨s,a,z⟩ ⟨t,b,u⟩=some r/\k r.s r.n r.z=.ok v H
def Is2Q(F:J->J->Option Q)(FK:F2Q):Prop:=∀s a z t b u k v H,FK s a z t b u k=.ok v H->∃r,F ⟨s,a,z⟩ ⟨t,b,u⟩=some r/\k r.num.s r.num.n r.num.z r.den.s r.den.n r.den.z=.ok v H
def Is1Q(F:Q->Option Q)(FK:F2Q):Prop:=∀s a z t b u k v H,FK s a z t b u k=.ok v H->∃r,F ⟨⟨s,a,z⟩,⟨t,b,u⟩⟩=some r/\k r.num.s r.num.n r.num.z r.den.s r.den.n r.den.z=.ok v H
def IsQQ(F:Q->Q->Option Q)(FK:F4Q):Prop:=∀s a z s' a' z' t b u t' b' u' k v H,FK s a z s' a' z' t b u t' b' u' k=.ok v H->∃r,F ⟨⟨s,a,z⟩,⟨s',a',z'⟩⟩ ⟨⟨t,b,u⟩,⟨t',b',u'⟩⟩=some r/\k r.num.s r.num.n r.num.z r.den.s r.den.n r.den.z=.ok v H
def sum1K(s:Bool)(n:Nat)(k:KJ):R:=Bool.rec (motive:=λ_=>R) .no (k (sgK s n) n false) (Nat.blt n 18446744073709551616)
def dif1K(s:Bool)(a:Nat)(t:Bool)(b:Nat)(k:KJ):R:=Bool.rec (motive:=λ_=>R) (k (sgK t (Nat.sub b a)) (Nat.sub b a) false) (k (sgK s (Nat.sub a b)) (Nat.sub a b) false) (Nat.ble b a)
def addSK(s:Bool)(a:Nat)(t:Bool)(b:Nat)(k:KJ):R:=Bool.rec (motive:=λ_=>R) (dif1K s a t b k) (sum1K t (Nat.add a b) k) (eqK s t)
theorem kR{s t:Bool}{a b:Nat}{z:Bool}{k:KJ}{v:AVal}{H:AH}(h:addSK s a t b k=.ok v H):∃r,jAddS ⟨s,a,z⟩ t b=some r/\k r.s r.n r.z=.ok v H:=by
 unfold addSK sum1K dif1K at h;rw[ix]at h;unfold jAddS;simp only[dI]at h;simp only;cases he:beqB s t with
 |true=>
  rw[he]at h;simp only at h;show∃r,(bif inW (Nat.add a b)then some (jSigned t (Nat.add a b) false)else none)=some r/\k r.s r.n r.z=_;unfold inW;cases hb:Nat.blt (Nat.add a b) 18446744073709551616 with
  |false=>rw[hb]at h;cases h
  |true=>rw[hb]at h;exact⟨_,rfl,h⟩
 |false=>
  rw[he]at h;simp only at h;simp only[cond];cases hb:Nat.ble b a with
  |true=>rw[hb]at h;exact⟨_,rfl,h⟩
  |false=>rw[hb]at h;exact⟨_,rfl,h⟩
def addK:F2:=λs a _ t b _ k=>addSK s a t b k
theorem o5:Is2 jAdd addK:=λs a z t b u k v H h=>kR h
def ntK(b:Bool):Bool:=Bool.rec true false b
theorem fo(b:Bool):ntK b = !b:=by cases b<;>rfl
def subK:F2:=λs a _ t b _ k=>addSK s a (ntK t) b k
theorem xj:Is2 jSub subK:=λs a z t b u k v H h=>by have h:=kR (z:=z) h;rw[fo]at h;exact h
def mul1K(s t:Bool)(a b:Nat)(k:KJ):R:=k (sgK (ntK (eqK s t)) (Nat.mul a b)) (Nat.mul a b) false
def mulK:F2:=λs a _ t b _ k=>Bool.rec (motive:=λ_=>R) (Bool.rec (motive:=λ_=>R) (Bool.rec (motive:=λ_=>R) .no (Bool.rec (motive:=λ_=>R) .no (mul1K s t a b k) (Nat.blt b 4294967296)) (Nat.blt a 4294967296)) (k false 0 true) (Nat.beq b 0)) (k false 0 true) (Nat.beq a 0)
theorem fp:Is2 jMul mulK:=λs a z t b u k v H h=>by
 unfold mulK mul1K at h;rw[fo,ix,dI]at h;unfold jMul isZ;simp only;cases h1:Nat.beq a 0 with
 |true=>rw[h1]at h;exact⟨_,rfl,h⟩
 |false=>
  rw[h1]at h;cases h2:Nat.beq b 0 with
  |true=>rw[h2]at h;exact⟨_,rfl,h⟩
  |false=>
   rw[h2]at h;simp only at h;simp only[Bool.or_false,cond];cases h3:Nat.blt a 4294967296 with
   |false=>rw[h3]at h;cases h
   |true=>
    rw[h3]at h;cases h4:Nat.blt b 4294967296 with
    |false=>rw[h4]at h;cases h
    |true=>rw[h4]at h;exact⟨_,rfl,h⟩
def normK:F1:=λs a z k=>k (sgK s a) a z
theorem xk:Is1 (λa=>some a.normal) normK:=λs a z k v H h=>⟨_,rfl,by unfold normK at h;rw[dI]at h;exact h⟩
def negK:F1:=λs a z k=>k (sgK (ntK s) a) a z
theorem xm:Is1 (λa=>some a.neg) negK:=λs a z k v H h=>⟨_,rfl,by unfold negK at h;rw[dI,fo]at h;exact h⟩
def gcdK:F2:=λs a z t b u k=>k false (Nat.gcd a b) (Bool.rec false z (Nat.beq b 0))
theorem xn:Is2 (λa b=>some (jGcd a b)) gcdK:=λs a z t b u k v H h=>⟨_,rfl,by
 unfold gcdK at h;show k false (Nat.gcd a b) (bif Nat.beq b 0 then z else false)=_
 cases hb:Nat.beq b 0<;>(rw[hb]at h;exact h)⟩
def exK:F2:=λs a z t b u k=>Bool.rec (motive:=λ_=>R) (Bool.rec (motive:=λ_=>R) .no (k (sgK (ntK (eqK s t)) (Nat.div a b)) (Nat.div a b) (Nat.beq (Nat.div a b) 0)) (Nat.beq (Nat.mod a b) 0)) .no (Nat.beq b 0)
theorem xp:Is2 jExact exK:=λs a z t b u k v H h=>by
 unfold exK at h;rw[fo,ix,dI]at h;unfold jExact isZ;simp only;cases h1:Nat.beq b 0 with
 |true=>rw[h1]at h;cases h
 |false=>
  rw[h1]at h;simp only[cond];simp only at h;cases h2:Nat.beq (Nat.mod a b) 0 with
  |false=>rw[h2]at h;cases h
  |true=>rw[h2]at h;exact⟨_,rfl,h⟩
def ovr1K(s:Bool)(a b g:Nat)(k:KQ):R:=Bool.rec (motive:=λ_=>R) (k s (Nat.div a g) false false (Nat.div b g) false) (k s a false false b false) (Nat.beq g 1)
def ovrK:F2Q:=λs a z t b u k=>Bool.rec (motive:=λ_=>R) (Bool.rec (motive:=λ_=>R) (Bool.rec (motive:=λ_=>R) (Bool.rec (motive:=λ_=>R) (ovr1K s a b (Nat.gcd a b) k) (k s a false false b false) (Nat.beq b 1)) .no t) (k false 0 true false 1 false) (Nat.beq b 0)) (k false 0 true false 1 false) (Nat.beq a 0)
theorem eo:Is2Q qOver ovrK:=λs a z t b u k v H h=>by
 unfold ovrK ovr1K at h;unfold qOver isZ;simp only;cases h1:Nat.beq a 0 with
 |true=>rw[h1]at h;exact⟨_,rfl,h⟩
 |false=>
  rw[h1]at h;simp only at h;cases h2:Nat.beq b 0 with
  |true=>rw[h2]at h;exact⟨_,rfl,h⟩
  |false=>
   rw[h2]at h;simp only at h;simp only[Bool.or_false,cond];cases t with
   |true=>cases h
   |false=>
    simp only at h;simp only;cases h3:Nat.beq b 1 with
    |true=>rw[h3]at h;exact⟨_,rfl,h⟩
    |false=>
     rw[h3]at h;simp only at h;simp only;cases h4:Nat.beq (Nat.gcd a b) 1 with
     |true=>rw[h4]at h;exact⟨_,rfl,h⟩
     |false=>rw[h4]at h;exact⟨_,rfl,h⟩
theorem xt:Is1Q qNormal ovrK:=λs a z t b u k v H h=>eo s a z t b u k v H h
def qnegK:F2Q:=λs a z t b u k=>ovrK (sgK (ntK s) a) a z t b u k
theorem o8:Is1Q qNeg qnegK:=λs a z t b u k v H h=>by have h:=eo _ a z t b u k v H h;rw[dI,fo]at h;exact h
def qmulK:F4Q:=λs a z s' a' z' t b u t' b' u' k=>mulK s a z t b u λr n v=>mulK s' a' z' t' b' u' λr' n' v'=>ovrK r n v r' n' v' k
theorem xu:IsQQ qMul qmulK:=λs a z s' a' z' t b u t' b' u' k v H h=>by obtain⟨n,e1,h⟩:=fp _ _ _ _ _ _ _ _ _ h;obtain⟨d,e2,h⟩:=fp _ _ _ _ _ _ _ _ _ h;obtain⟨q,e3,h⟩:=eo _ _ _ _ _ _ _ _ _ h;exact⟨q,by unfold qMul;rw[e1];simp only[Option.bind];rw[e2];exact e3,h⟩
def oneK(s:Bool)(n:Nat)(a b:R):R:=Bool.rec (motive:=λ_=>R) b (Bool.rec (motive:=λ_=>R) a b s) (Nat.beq n 1)
def qaddK:F4Q:=λs a z s' a' z' t b u t' b' u' k=>Bool.rec (motive:=λ_=>R) (Bool.rec (motive:=λ_=>R) (oneK s' a' (oneK t' b' (addSK s a t b λr n v=>k r n v false 1 false) .no) .no) (ovrK s a z s' a' z' k) (Nat.beq b' 0)) (ovrK t b u t' b' u' k) (Nat.beq a' 0)
theorem o9{s z:Bool}{n:Nat}{a:R}{v:AVal}{H:AH}(h:oneK s n a .no=.ok v H):isOne ⟨s,n,z⟩=true/\a=.ok v H:=by
 unfold oneK at h;unfold isOne;simp only;cases h1:Nat.beq n 1 with
 |false=>rw[h1]at h;cases h
 |true=>
  rw[h1]at h;cases s with
  |true=>cases h
  |false=>exact⟨rfl,h⟩
theorem o_:IsQQ qAdd qaddK:=λs a z s' a' z' t b u t' b' u' k v H h=>by
 unfold qaddK at h;unfold qAdd isZ;simp only;cases h1:Nat.beq a' 0 with
 |true=>rw[h1]at h;exact eo _ _ _ _ _ _ _ _ _ h
 |false=>
  rw[h1]at h;simp only at h;simp only[cond];cases h2:Nat.beq b' 0 with
  |true=>rw[h2]at h;exact eo _ _ _ _ _ _ _ _ _ h
  |false=>rw[h2]at h;simp only at h;simp only;obtain⟨e1,h⟩:=o9 (z:=z') h;obtain⟨e2,h⟩:=o9 (z:=u') h;obtain⟨r,e3,h⟩:=kR (z:=z) h;refine⟨⟨r,jOne⟩,?_,h⟩;rw[e1,e2];show((jAdd ⟨s,a,z⟩ ⟨t,b,u⟩).map λn=>(⟨n,jOne⟩:Q))=_;rw[show jAdd ⟨s,a,z⟩ ⟨t,b,u⟩=some r from e3];rfl
def qsubK:F4Q:=λs a z s' a' z' t b u t' b' u' k=>qnegK t b u t' b' u' λr n v r' n' v'=>qaddK s a z s' a' z' r n v r' n' v' k
theorem xw:IsQQ qSub qsubK:=λs a z s' a' z' t b u t' b' u' k v H h=>by obtain⟨n,e1,h⟩:=o8 _ _ _ _ _ _ _ _ _ h;obtain⟨q,e3,h⟩:=o_ _ _ _ _ _ _ _ _ _ _ _ _ _ _ _ h;exact⟨q,by unfold qSub;rw[e1];exact e3,h⟩
def nJ(FK:F1)(x:AVal)(H:AH):R:=rJ x H λs a z=>FK s a z λr n v=>gvJ H r n v
def nJJ(FK:F2)(x y:AVal)(H:AH):R:=rJ x H λs a z=>rJ y H λt b u=>FK s a z t b u λr n v=>gvJ H r n v
def nJJe(FK:F2)(x y:AVal)(H:AH):R:=rJ x H λs a z=>rJ y H λt b u=>FK s a z t b u λr n v=>pkF n v H λy H=>.ok (.tup [.agg [.bool r,y],.int .i64 0]) H
def nJJQ(FK:F2Q)(x y:AVal)(H:AH):R:=rJ x H λs a z=>rJ y H λt b u=>FK s a z t b u λr n v r' n' v'=>gvQ H r n v r' n' v'
def nQ(FK:F2Q)(x:AVal)(H:AH):R:=rQ x H λs a z t b u=>FK s a z t b u λr n v r' n' v'=>gvQ H r n v r' n' v'
def nQQ(FK:F4Q)(x y:AVal)(H:AH):R:=rQ x H λs a z s' a' z'=>rQ y H λt b u t' b' u'=>FK s a z s' a' z' t b u t' b' u' λr n v r' n' v'=>gvQ H r n v r' n' v'
theorem pa{F:J->Option J}{FK:F1}(hF:Is1 F FK)(x:AVal)(H:AH):R.le (nJ FK x H) (natG (gJ F) [x] H):=λv H1 h=>by obtain⟨s,a,z,e1,h1⟩:=cH h;obtain⟨r,e3,h3⟩:=hF _ _ _ _ _ _ h1;show readPart H x (λp=>giveRes (gJ F [p]) H)=_;rw[e1];show giveRes (ofJ (F ⟨s,a,z⟩)) H=_;rw[e3,<-h3,kQ];rfl
theorem iy{F:J->J->Option J}{FK:F2}(hF:Is2 F FK)(x y:AVal)(H:AH):R.le (nJJ FK x y H) (natG (gJJ F) [x,y] H):=λv H1 h=>by obtain⟨s,a,z,e1,h1⟩:=cH h;obtain⟨t,b,u,e2,h2⟩:=cH h1;obtain⟨r,e3,h3⟩:=hF _ _ _ _ _ _ _ _ _ h2;show readPart H x (λp=>readPart H y (λq=>giveRes (gJJ F [p,q]) H))=_;rw[e1,e2];show giveRes (ofJ (F ⟨s,a,z⟩ ⟨t,b,u⟩)) H=_;rw[e3,<-h3,kQ];rfl
theorem xx{F:J->J->Option J}{FK:F2}(hF:Is2 F FK)(x y:AVal)(H:AH):R.le (nJJe FK x y H) (natG (gJJe F) [x,y] H):=λv H1 h=>by obtain⟨s,a,z,e1,h1⟩:=cH h;obtain⟨t,b,u,e2,h2⟩:=cH h1;obtain⟨r,e3,h3⟩:=hF _ _ _ _ _ _ _ _ _ h2;show readPart H x (λp=>readPart H y (λq=>giveRes (gJJe F [p,q]) H))=_;rw[e1,e2];show giveRes (match F ⟨s,a,z⟩ ⟨t,b,u⟩with|some r=>.tup [jP r,.one (.i .i64 0)]|none=>.no) H=_;rw[e3,<-h3,fk];rfl
theorem xy{F:J->J->Option Q}{FK:F2Q}(hF:Is2Q F FK)(x y:AVal)(H:AH):R.le (nJJQ FK x y H) (natG (gJJQ F) [x,y] H):=λv H1 h=>by obtain⟨s,a,z,e1,h1⟩:=cH h;obtain⟨t,b,u,e2,h2⟩:=cH h1;obtain⟨r,e3,h3⟩:=hF _ _ _ _ _ _ _ _ _ h2;show readPart H x (λp=>readPart H y (λq=>giveRes (gJJQ F [p,q]) H))=_;rw[e1,e2];show giveRes (ofQ (F ⟨s,a,z⟩ ⟨t,b,u⟩)) H=_;rw[e3,<-h3,fm];rfl
theorem pc{F:Q->Option Q}{FK:F2Q}(hF:Is1Q F FK)(x:AVal)(H:AH):R.le (nQ FK x H) (natG (gQ F) [x] H):=λv H1 h=>by obtain⟨s,a,z,t,b,u,e1,h1⟩:=iw h;obtain⟨r,e3,h3⟩:=hF _ _ _ _ _ _ _ _ _ h1;show readPart H x (λp=>giveRes (gQ F [p]) H)=_;rw[e1];show giveRes (ofQ (F ⟨⟨s,a,z⟩,⟨t,b,u⟩⟩)) H=_;rw[e3,<-h3,fm];rfl
theorem kS{F:Q->Q->Option Q}{FK:F4Q}(hF:IsQQ F FK)(x y:AVal)(H:AH):R.le (nQQ FK x y H) (natG (gQQ F) [x,y] H):=λv H1 h=>by obtain⟨s,a,z,s',a',z',e1,h1⟩:=iw h;obtain⟨t,b,u,t',b',u',e2,h2⟩:=iw h1;obtain⟨r,e3,h3⟩:=hF _ _ _ _ _ _ _ _ _ _ _ _ _ _ _ h2;show readPart H x (λp=>readPart H y (λq=>giveRes (gQQ F [p,q]) H))=_;rw[e1,e2];show giveRes (ofQ (F ⟨⟨s,a,z⟩,⟨s',a',z'⟩⟩ ⟨⟨t,b,u⟩,⟨t',b',u'⟩⟩)) H=_;rw[e3,<-h3,fm];rfl
def nSg(x:AVal)(H:AH):R:=rJ x H λs a z=>Bool.rec (motive:=λ_=>R) (Bool.rec (motive:=λ_=>R) (.ok (.int .i64 (.ofNat 1)) H) (.ok (.int .i64 (.negSucc 0)) H) s) (.ok (.int .i64 (.ofNat 0)) H) (Nat.beq a 0)
theorem xz(x:AVal)(H:AH):R.le (nSg x H) (natG (gJi J.sign) [x] H):=λv H1 h=>by
 obtain⟨s,a,z,e1,h1⟩:=cH h;show readPart H x (λp=>giveRes (gJi J.sign [p]) H)=_;rw[e1];show R.ok (.int .i64 (J.sign ⟨s,a,z⟩)) H=_;unfold J.sign;simp only;cases ha:Nat.beq a 0 with
 |true=>rw[ha]at h1;exact h1
 |false=>rw[ha]at h1;cases s<;>exact h1
def nqSg(x:AVal)(H:AH):R:=rQ x H λs a z t b u=>Bool.rec (motive:=λ_=>R) (Bool.rec (motive:=λ_=>R) (Bool.rec (motive:=λ_=>R) (.ok (.int .i64 (.negSucc 0)) H) (.ok (.int .i64 (.ofNat 1)) H) (eqK s t)) (.ok (.int .i64 (.ofNat 0)) H) (Nat.beq b 0)) (.ok (.int .i64 (.ofNat 0)) H) (Nat.beq a 0)
theorem xA(x:AVal)(H:AH):R.le (nqSg x H) (natG (gQi qSign) [x] H):=λv H1 h=>by
 obtain⟨s,a,z,t,b,u,e1,h1⟩:=iw h;show readPart H x (λp=>giveRes (gQi qSign [p]) H)=_;rw[e1];show R.ok (.int .i64 (qSign ⟨⟨s,a,z⟩,⟨t,b,u⟩⟩)) H=_;unfold qSign isZ;simp only;rw[ix]at h1;cases ha:Nat.beq a 0 with
 |true=>rw[ha]at h1;exact h1
 |false=>
  rw[ha]at h1;cases hb:Nat.beq b 0 with
  |true=>rw[hb]at h1;exact h1
  |false=>rw[hb]at h1;cases hc:beqB s t<;>(rw[hc]at h1;exact h1)
def ofK(n:Int)(k:KJ):R:=Int.rec (motive:=λ_=>R) (λm=>Bool.rec (motive:=λ_=>R) .no (k false m (Nat.beq m 0)) (Nat.blt m 9223372036854775808)) (λm=>Bool.rec (motive:=λ_=>R) .no (k true (Nat.succ m) false) (Nat.blt m 9223372036854775808)) n
theorem pd{n:Int}{k:KJ}{v:AVal}{H:AH}(h:ofK n k=.ok v H):smallI n=true/\k (jOf n).s (jOf n).n (jOf n).z=.ok v H:=by
 cases n with
 |ofNat m=>
  have h:Bool.rec (motive:=λ_=>R) .no (k false m (Nat.beq m 0)) (Nat.blt m 9223372036854775808)=.ok v H:=h;show Nat.blt m 9223372036854775808=true/\_;cases hb:Nat.blt m 9223372036854775808 with
  |false=>rw[hb]at h;cases h
  |true=>rw[hb]at h;exact⟨rfl,h⟩
 |negSucc m=>
  have h:Bool.rec (motive:=λ_=>R) .no (k true (Nat.succ m) false) (Nat.blt m 9223372036854775808)=.ok v H:=h;show Nat.blt m 9223372036854775808=true/\_;cases hb:Nat.blt m 9223372036854775808 with
  |false=>rw[hb]at h;cases h
  |true=>rw[hb]at h;exact⟨rfl,h⟩
def nOf(x:AVal)(H:AH):R:=aM x λn=>ofK n λs a z=>gvJ H s a z
def nqOf(x:AVal)(H:AH):R:=aM x λn=>ofK n λs a z=>gvQ H s a z false 1 false
theorem xB(x:AVal)(H:AH):R.le (nOf x H) (natG (giJ jOf) [x] H):=λv H1 h=>by obtain⟨n,rfl,h1⟩:=a9 h;obtain⟨e,h2⟩:=pd h1;show giveRes (bif smallI n then .one (jP (jOf n))else .no) H=_;rw[e,<-h2,kQ];rfl
theorem xC(x:AVal)(H:AH):R.le (nqOf x H) (natG (giQ qOf) [x] H):=λv H1 h=>by obtain⟨n,rfl,h1⟩:=a9 h;obtain⟨e,h2⟩:=pd h1;show giveRes (bif smallI n then .one (qP (qOf n))else .no) H=_;rw[e,<-h2];exact(fm H (qOf n)).symm
def nWh(x:AVal)(H:AH):R:=rJ x H λs a z=>gvQ H (sgK s a) a z false 1 false
theorem xD(x:AVal)(H:AH):R.le (nWh x H) (natG (gJQ qWhole) [x] H):=λv H1 h=>by obtain⟨s,a,z,e1,h1⟩:=cH h;show readPart H x (λp=>giveRes (gJQ qWhole [p]) H)=_;rw[e1];show giveRes (.one (qP (qWhole ⟨s,a,z⟩))) H=_;rw[<-h1,dI];exact(fm H (qWhole ⟨s,a,z⟩)).symm
def ngcd1(a b:Nat)(H:AH):R:=Bool.rec (motive:=λ_=>R) .no (Bool.rec (motive:=λ_=>R) .no (.ok (.int .i64 (.ofNat (Nat.gcd a b))) H) (Nat.ble b 9223372036854775807)) (Nat.ble a 9223372036854775807)
def ngcd(x y:AVal)(H:AH):R:=aM x λa=>aM y λb=>Int.rec (motive:=λ_=>Int->R) (λa b=>Int.rec (motive:=λ_=>R) (λb=>ngcd1 a b H) (λ_=>.no) b) (λ_ _=>.no) a b
theorem xE(x y:AVal)(H:AH):R.le (ngcd x y H) (natG (gii gcdI) [x,y] H):=λv H1 h=>by
 obtain⟨a,rfl,h1⟩:=a9 h;obtain⟨b,rfl,h2⟩:=a9 h1;cases a with
 |ofNat a=>
  cases b with
  |ofNat b=>
   have h2:ngcd1 a b H=.ok v H1:=h2;unfold ngcd1 at h2;cases ha:Nat.ble a 9223372036854775807 with
   |false=>rw[ha]at h2;cases h2
   |true=>
    rw[ha]at h2;cases hb:Nat.ble b 9223372036854775807 with
    |false=>rw[hb]at h2;cases h2
    |true=>rw[hb]at h2;show giveRes (match gcdI (.ofNat a) (.ofNat b)with|some r=>.one (.one (.i .i64 r))|none=>.no) H=_;unfold gcdI;simp only[ha,hb,Bool.and_self,cond];exact h2
  |negSucc b=>cases h2
 |negSucc a=>cases h2
def nClo(x:AVal)(H:AH):R:=nmF x H λn z=>pkF n z H .ok
theorem xF(x:AVal)(H:AH):R.le (nClo x H) (natG gnn [x] H):=λv H1 h=>by
 unfold nClo at h;rw[bw]at h;obtain⟨n,z,e,h1⟩:=dh h;rw[fk]at h1;show readParts H [x] (λps=>giveRes (gnn ps) H)=_
 have hr:∀k:Part->R,readPart H x k=k (.one (.n n z)):=λk=>by
  have:=iu e λa=>k (.one a)
  cases x<;>first|exact this|(cases e;done)
 show readPart H x (λp=>readParts H [] λr=>giveRes (gnn (p::r)) H)=_;rw[hr];exact h1
def natK(n:List AVal->AH->R):Orc:=⟨[],[],[],.bad,none,some n⟩
theorem iz(n:List AVal->AH->R)(args:List AVal)(H:AH):useOrc [natK n] args H=n args H:=by show(match n args H with|.ok v H'=>R.ok v H'|.no=>useOrc [] args H)=_;cases n args H<;>rfl
theorem aS{P:Program}{ω:Nat->Value}{f:Nat}{g:List Part->Res}{n:List AVal->AH->R}(h:OrcOk P ω f (natO g))(hn:∀args H,R.le (n args H) (natG g args H)):OrcOk P ω f (natK n):=by intro args H v H' ρ w vals hone hr hg hv;exact h (hn args H v H' hone) hr hg hv
section
variable{F:T8 CFn}
theorem Adq.nat{q:Pth}{fn:CFn}{n:List AVal->AH->R}(hf:F.get noFn q=fn)(ho:fn.aP=[natK n]):Adq F q n:=λargs H v H' h=>Adq.wQ hf ho args H v H' ((iz n args H).trans h)
end
def ar1(f:AVal->AH->R)(args:List AVal)(H:AH):R:=consA args λa l=>nilA l (f a H)
def ar2(f:AVal->AVal->AH->R)(args:List AVal)(H:AH):R:=consA args λa l=>consA l λb r=>nilA r (f a b H)
theorem b9{f:AVal->AH->R}{G:List AVal->AH->R}(h:∀x H,R.le (f x H) (G [x] H))(args:List AVal)(H:AH):R.le (ar1 f args H) (G args H):=oQ (G:=λa=>G a H) (λx=>h x H) args
theorem b_{f:AVal->AVal->AH->R}{G:List AVal->AH->R}(h:∀x y H,R.le (f x y H) (G [x,y] H))(args:List AVal)(H:AH):R.le (ar2 f args H) (G args H):=ij (G:=λa=>G a H) (λx y=>h x y H) args
def orK(n b:List AVal->AH->R)(args:List AVal)(H:AH):R:=R.rec (motive:=λ_=>R) (b args H) (λv H'=>.ok v H') (n args H)
end Go.Ex
namespace Go.Ex
theorem Adq.pe{F:T8 CFn}{q:Pth}{fn:CFn}{n k:List AVal->AH->R}(hf:F.get noFn q=fn)(ho:fn.aP=[natK n]){G:Env->AH->R}(ha:Ap F fn.body (resK fn.res) (resK fn.res) (λ_ _ _=>.no) G)(hk:∀args H,R.le (k args H) (entK fn.params args E0 λE=>G E H)):Adq F q (orK n k):=by intro args H v H' h;refine Adq.aP hf ho ha hk args H v H' ?_;unfold orK at h;unfold orcK;rw[iz];exact h
end Go.Ex
namespace Go.Ex
abbrev KC:=KT->KT->(Nat->KT)->KT
def seqT(a b:KC):KC:=λkn kr kx=>a (b kn kr kx) kr kx
def skipT:KC:=λkn _ _=>kn
def retT:KC:=λ_ kr _=>kr
def exitT(id:Nat):KC:=λ_ _ kx=>kx id
def blockT(id:Nat)(a:KC):KC:=λkn kr kx=>a kn kr (λi E H=>bif Nat.beq id i then kn E H else kx i E H)
def loopT(a:KC):KC:=λ_ kr kx=>loopK noK λk=>a k kr kx
def condT(f:T8 AVal->AVal)(a b:KC):KC:=λkn kr kx E H=>cv (f E) (a kn kr kx E H) (b kn kr kx E H)
def regT(f:KT->KT):KC:=λkn _ _=>f kn
def regcT(f:KT->KT->KT)(a b:KC):KC:=λkn kr kx=>f (a kn kr kx) (b kn kr kx)
def rngT(cal:Caller)(f:T8 AVal->AVal)(ps:List Pth)(a b:CC):KC:=λkn _ _ E H=>rgK cal ps a b kn E H (f E)
def badT:KC:=λ_ _ _=>noK
def gV(E:T8 AVal)(p:Pth):AVal:=(getVS p).run E
def treeJ:EI:=⟨T8 AVal,gV,putV,λe=>e,λe p=>kM p e,λe p v=>kN e p v⟩
def tC(cal:Caller)(c:CC):KC:=
 CC.rec (motive:=λ_=>KC)
  badT
  (λf ps a b _ _=>rngT cal (λE=>opI treeJ [] E f) ps a b)
  (λops=>regT λkn E H=>dgo treeJ cal (segsD ops) [] E (reserve ops H) H.next 0 [] [reserve ops H] [] kn)
  (λx _ _ a b=>condT (λE=>opI treeJ [] E x) a b)
  retT
  skipT
  (λid _ a=>blockT id a)
  (λ_ a=>loopT a)
  exitT
  (λops x _ _ a b=>regcT (λka kb E H=>gops treeJ cal (segs ops.toL) [] [] E H λL E H=>cv (opI treeJ L E x) (ka E H) (kb E H)) a b)
  (λops=>regT λkn E H=>gops treeJ cal (segs ops.toL) [] [] E H λ_ E H=>kn E H)
  (λ_ _ a b=>seqT a b) c
def entT:List (Option Pth)->List AVal->T8 AVal->(T8 AVal->R)->R
 |[],args,E,k=>nilA args (k E)
 |none::ps,args,E,k=>consA args λ_ l=>entT ps l E k
 |some p::ps,args,E,k=>consA args λa l=>entT ps l (putV E p a) k
def resvT(E:T8 AVal)(H:AH):List (Pth×Option (Bool×Nat))->List AVal
 |[]=>[]
 |(p,none)::r=>gV E p::resvT E H r
 |(p,some (a,s))::r=>loadK a s (gV E p) H::resvT E H r
def entF(ps:List (Option Pth))(b:KC)(rs:KT)(args:List AVal)(H:AH):R:=entT ps args .nil λE=>b rs rs (λ_=>noK) E H
def tK(cal:Caller)(fn:CFn):List AVal->AH->R:=entF fn.params (tC cal fn.body) λE H=>resE (resvT E H fn.res) H
theorem xG(cal:Caller)(c:CC):tC cal c=kC cal c:=by
 induction c with
 |bad=>rfl
 |rangeF f ps a b iha ihb=>rfl
 |aC ops=>rfl
 |cond x a b iha ihb=>show condT _ (tC cal a) (tC cal b)=_;rw[iha,ihb];rfl
 |ret=>rfl
 |skip=>rfl
 |block id a iha=>show blockT id (tC cal a)=_;rw[iha];rfl
 |loop a iha=>show loopT (tC cal a)=_;rw[iha];rfl
 |exit id=>rfl
 |aq ops x a b iha ihb=>show regcT (λka kb E H=>gops treeJ cal (segs ops.toL) [] [] E H λL E H=>cv (opI treeJ L E x) (ka E H) (kb E H)) (tC cal a) (tC cal b)=_;rw[iha,ihb];rfl
 |aa ops=>rfl
 |seq a b iha ihb=>show seqT (tC cal a) (tC cal b)=_;rw[iha,ihb];rfl
theorem aQ{args:List AVal}{g:AVal->List AVal->R}{r:AVal}{H:AH}(h:consA args g=.ok r H):∃a l,args=a::l/\g a l=.ok r H:=by
 cases args with
 |nil=>cases h
 |cons a l=>exact⟨a,l,rfl,h⟩
theorem cg{args:List AVal}{g:R}{r:AVal}{H:AH}(h:nilA args g=.ok r H):args=[]/\g=.ok r H:=by
 cases args with
 |nil=>exact⟨rfl,h⟩
 |cons a l=>cases h
theorem xH(ps:List (Option Pth)):∀(args:List AVal) (e:T8 AVal) {k:T8 AVal->R} {r:AVal} {H:AH},entT ps args e k=.ok r H->∃e',mkEnv ps args e=some e'/\k e'=.ok r H:=by
 induction ps with
 |nil=>intro args e k r H h;obtain⟨rfl,h2⟩:=cg (show nilA args (k e)=.ok r H from h);exact⟨e,rfl,h2⟩
 |cons p ps ih=>
  intro args e k r H h;cases p with
  |none=>obtain⟨a,l,rfl,h2⟩:=aQ (show consA args (λ_ l=>entT ps l e k)=.ok r H from h);exact ih l e h2
  |some p=>obtain⟨a,l,rfl,h2⟩:=aQ (show consA args (λa l=>entT ps l (putV e p a) k)=.ok r H from h);rw[kN]at h2;exact ih l _ h2
theorem xI(e:T8 AVal)(H:AH)(res:List (Pth×Option (Bool×Nat))):resvT e H res=resultsV H e res:=by
 induction res with
 |nil=>rfl
 |cons x res ih=>
  obtain⟨p,o⟩:=x;have hg:gV e p=e.get .bad p:=kM p e;cases o with
  |none=>simp only[resvT,resultsV,ih,hg]
  |some q=>obtain⟨agg,sz⟩:=q;simp only[resvT,resultsV,ih,bj,hg]
variable{F:T8 CFn}{cal:Caller}
theorem pf(hc:Cal F cal){fn:CFn}{args:List AVal}{H:AH}{v:AVal}{H':AH}(h:tK cal fn args H=.ok v H'):∃n,∀m,n<=m->(match mkEnv fn.params args .nil with|some e0=>finish fn (exec F m fn.body e0 H)|none=>.no)=.ok v H':=by
 obtain⟨e',he,h⟩:=xH _ _ _ (show entT fn.params args .nil (λE=>tC cal fn.body (λE H=>resE (resvT E H fn.res) H) (λE H=>resE (resvT E H fn.res) H) (λ_=>noK) E H)=.ok v H' from h);rw[xG]at h;obtain⟨n,o,h1,hf⟩:=il hc _ _ _ _ _ _ _ _ h;refine⟨n,λm hm=>?_⟩;rw[he];show finish fn (exec F m fn.body e' H)=_;rw[h1 m hm];have hr:∀e1 H1,resE (resvT e1 H1 fn.res) H1=result H1 e1 fn.res:=λe1 H1=>by rw[oM,xI];rfl
 cases o with
 |none=>exact hf.elim
 |norm e1 H1=>exact(hr e1 H1).symm.trans hf
 |ret e1 H1=>exact(hr e1 H1).symm.trans hf
 |exit i e1 H1=>exact(ek hf).elim
theorem Adq.tree{q:Pth}{fn:CFn}(hf:F.get noFn q=fn)(ho:fn.aP=[])(hc:Cal F cal):Adq F q (tK cal fn):=by intro args H v H' h;obtain⟨n,h⟩:=pf hc h;refine⟨n,λm hm=>?_⟩;show caller F (exec F m) (.fnv q []) args H=_;rw[dH hf,ho];exact h m hm
theorem Adq.bm{q:Pth}{fn:CFn}{n:List AVal->AH->R}(hf:F.get noFn q=fn)(ho:fn.aP=[natK n])(hc:Cal F cal):Adq F q (orK n (tK cal fn)):=by
 intro args H v H' h;unfold orK at h;cases hu:n args H with
 |ok v1 H1=>rw[hu]at h;refine⟨0,λm _=>?_⟩;show caller F (exec F m) (.fnv q []) args H=_;rw[dH hf,ho,iz,hu];exact h
 |no=>rw[hu]at h;obtain⟨k,h⟩:=pf hc h;refine⟨k,λm hm=>?_⟩;show caller F (exec F m) (.fnv q []) args H=_;rw[dH hf,ho,iz,hu];exact h m hm
def recK(B:(List AVal->AH->R)->List AVal->AH->R):List AVal->AH->R:=Nat.rec (motive:=λ_=>List AVal->AH->R) (λ_ _=>.no) (λ_ ih=>B ih) 10000
theorem Adq.rec{q:Pth}{B:(List AVal->AH->R)->List AVal->AH->R}(hB:∀k,Adq F q k->Adq F q (B k)):Adq F q (recK B):=by
 unfold recK;generalize 10000=n
 induction n with
 |zero=>intro _ _ _ _ h;cases h
 |succ n ih=>exact hB _ ih
end Go.Ex
namespace Go.Ex
open Go Go.Proofs
instance(n:Nat):OfNat Pth n:=⟨key n⟩
def slF:Nat->List Nat->List (Nat×Pth)
 |_,[]=>[]
 |i,a::l=>(a,key i)::slF (i+1) l
abbrev Fd(f:Nat):={c:CFn // Good Tryz.prog (f,c)}
def cd{f:Nat}{fn:Func}(h:Tryz.prog.funcs[f]?=some fn)(S A:List Nat){c:CFn}(e:cFn Tryz.prog (slF 0 S) A fn=some c:=by conv=>lhs;reduce):Fd f:=⟨c,fn,_,_,h,e⟩
abbrev Fe2:Type:=Sigma Fd
def pr{f:Nat}(d:Fd f):Fe2:=⟨f,d⟩
def putF:List Fe2->T8 CFn->T8 CFn
 |[],T=>T
 |x::l,T=>putF l (T.put noFn x.2.1 (key x.1))
theorem pg{ω:Nat->Value}:∀(l:List Fe2) {T:T8 CFn},TabOk Tryz.prog ω T->TabOk Tryz.prog ω (putF l T)
 |[],_,hT=>hT
 |x::l,T,hT=>pg l (TabOk.putL (L:=[(x.1,x.2.1)]) (λy hy=>by rw[List.mem_singleton.1 hy];exact x.2.2) hT)
end Go.Ex
