/- A part of the executor of abstract values, its soundness over the model, and what functions of the program reckon. Conditions: those stated at each theorem. -/
import Derived.KernelRfl
import Derived.Test.YtohlgneeifkikaaGreatDoorProg
import Derived.WalkKit
import Derived.WalkSpells
import Derived.WalkLawsBesides
import Derived.BigQuiet
import Derived.Deep.QuietTactic
import Derived.Lib.Hide
import Derived.IntWalk
import Derived.OwnWalk
import Derived.Deep.RegionLaw
import Derived.Lib.SliceRun
import Derived.Lib.SlicesDelete
import Derived.Lib.Walk
import Derived.Sort.WalkB12
import Derived.Shelf.RegionOpenPlain
import Derived.Laws.BitsLemmas
import Derived.Laws.Entries
import Derived.Handy
import Derived.Deep.RegionHeld3
import Derived.Deep.RegionWith
import Derived.Test.YtohlgneeifkikaaGreatDoorMAA
import Derived.Test.YtohlgneeifkikaaGreatDoorMAC
set_option maxRecDepth 1000000
set_option maxHeartbeats 0
set_option linter.unusedVariables false
noncomputable section
namespace Go.Ex.KD
open Go
def q0:Pth:=.e
def q1:Pth:=.s .d1 .e
def q2:Pth:=.s .d2 .e
def q3:Pth:=.s .d3 .e
def q4:Pth:=.s .d4 .e
def q5:Pth:=.s .d5 .e
def q6:Pth:=.s .d6 .e
def q7:Pth:=.s .d7 .e
def q8:Pth:=.s .d8 .e
def q18:Pth:=.s .d18 .e
def q19:Pth:=.s .d19 .e
def q20:Pth:=.s .d20 .e
def q21:Pth:=.s .d21 .e
def q22:Pth:=.s .d22 .e
def q23:Pth:=.s .d23 .e
def q24:Pth:=.s .d24 .e
def q25:Pth:=.s .d25 .e
def q26:Pth:=.s .d26 .e
def q27:Pth:=.s .d27 .e
def q28:Pth:=.s .d28 .e
def q29:Pth:=.s .d29 .e
def q30:Pth:=.s .d30 .e
def q32:Pth:=.s .d0 (.s .d1 .e)
def q33:Pth:=.s .d1 (.s .d1 .e)
def q52:Pth:=.s .d20 (.s .d1 .e)
def q60:Pth:=.s .d28 (.s .d1 .e)
def q63:Pth:=.s .d31 (.s .d1 .e)
def q69:Pth:=.s .d5 (.s .d2 .e)
def q72:Pth:=.s .d8 (.s .d2 .e)
def q80:Pth:=.s .d16 (.s .d2 .e)
def q83:Pth:=.s .d19 (.s .d2 .e)
def q85:Pth:=.s .d21 (.s .d2 .e)
def q88:Pth:=.s .d24 (.s .d2 .e)
def q119:Pth:=.s .d23 (.s .d3 .e)
def q120:Pth:=.s .d24 (.s .d3 .e)
def q121:Pth:=.s .d25 (.s .d3 .e)
def q122:Pth:=.s .d26 (.s .d3 .e)
def q123:Pth:=.s .d27 (.s .d3 .e)
def q124:Pth:=.s .d28 (.s .d3 .e)
def q125:Pth:=.s .d29 (.s .d3 .e)
def q140:Pth:=.s .d12 (.s .d4 .e)
def q141:Pth:=.s .d13 (.s .d4 .e)
def q144:Pth:=.s .d16 (.s .d4 .e)
def q145:Pth:=.s .d17 (.s .d4 .e)
def q153:Pth:=.s .d25 (.s .d4 .e)
def q154:Pth:=.s .d26 (.s .d4 .e)
def q179:Pth:=.s .d19 (.s .d5 .e)
def q208:Pth:=.s .d16 (.s .d6 .e)
def q209:Pth:=.s .d17 (.s .d6 .e)
def q224:Pth:=.s .d0 (.s .d7 .e)
def q225:Pth:=.s .d1 (.s .d7 .e)
def q261:Pth:=.s .d5 (.s .d8 .e)
def q264:Pth:=.s .d8 (.s .d8 .e)
def q265:Pth:=.s .d9 (.s .d8 .e)
def q266:Pth:=.s .d10 (.s .d8 .e)
def q276:Pth:=.s .d20 (.s .d8 .e)
def q287:Pth:=.s .d31 (.s .d8 .e)
def q288:Pth:=.s .d0 (.s .d9 .e)
def q294:Pth:=.s .d6 (.s .d9 .e)
def q315:Pth:=.s .d27 (.s .d9 .e)
def q316:Pth:=.s .d28 (.s .d9 .e)
def q329:Pth:=.s .d9 (.s .d10 .e)
def q342:Pth:=.s .d22 (.s .d10 .e)
def q343:Pth:=.s .d23 (.s .d10 .e)
def q344:Pth:=.s .d24 (.s .d10 .e)
def q345:Pth:=.s .d25 (.s .d10 .e)
def q346:Pth:=.s .d26 (.s .d10 .e)
def q366:Pth:=.s .d14 (.s .d11 .e)
end Go.Ex.KD
namespace Go.Ex
open Go
variable{P:Program}{ω:Nat->Value}{ρ ρ1:Rho}{w w1:World}
def Wf(H:AH):Prop:=∀id,H.m.get .dead id≠.dead->id.toNat<H.next.toNat
theorem HR.wf{H:AH}(hr:HR P ρ ω H w):Wf H:=by
 intro id hne;have hok:=hr.ok id;cases ho:H.m.get .dead id with
 |dead=>exact absurd ho hne
 |arr _ _ _ _=>rw[ho]at hok;obtain⟨i,_,_,h,_⟩:=hok;exact hr.fresh id i h
 |ro _ _ _ _=>rw[ho]at hok;obtain⟨i,_,_,_,h,_⟩:=hok;exact hr.fresh id i h
 |mp _=>rw[ho]at hok;obtain⟨i,_,_,h,_⟩:=hok;exact hr.fresh id i h
 |lp _ _ _ _ _=>rw[ho]at hok;obtain⟨i,_,h,_⟩:=hok;exact hr.fresh id i h
 |fwd _ _ _ _ _=>rw[ho]at hok;obtain⟨i,h,_⟩:=hok;exact hr.fresh id i h
structure Ext(c:Nat)(H H1:AH):Prop where
 same:∀id,id.toNat<H.next.toNat->H1.m.get .dead id=H.m.get .dead id
 le:H.next.toNat<=H1.next.toNat
 next:H1.next.toNat<=H.next.toNat+c
theorem Ext.refl(H:AH):Ext 0 H H:=⟨λ_ _=>rfl,Nat.le_refl _,Nat.le_refl _⟩
theorem Ext.trans{a b:Nat}{H H1 H2:AH}(h:Ext a H H1)(h':Ext b H1 H2):Ext (a+b) H H2:=⟨λid hi=>(h'.same id (Nat.lt_of_lt_of_le hi h.le)).trans (h.same id hi),Nat.le_trans h.le h'.le,by have:=h.next;have:=h'.next;omega⟩
theorem Ext.mono{a b:Nat}{H H1:AH}(h:Ext a H H1)(hab:a<=b):Ext b H H1:=⟨h.same,h.le,Nat.le_trans h.next (by omega)⟩
theorem Ext.add{c:Nat}{H H1:AH}(h:Ext c H H1)(o:AObj):Ext (c+1) H (H1.add o):=by
 refine⟨λid hi=>?_,?_,?_⟩
 .rw[aB (λe=>by rw[<-e]at hi;have:=h.le;omega)];exact h.same id hi
 .show _<=H1.next.succ.toNat;rw[Pth.ab];have:=h.le;omega
 .show H1.next.succ.toNat<=_;rw[Pth.ab];have:=h.next;omega
theorem Ext.set{c:Nat}{H H1:AH}(h:Ext c H H1){id:Pth}(hid:H.next.toNat<=id.toNat)(o:AObj):Ext c H (H1.set id o):=by refine⟨λq hi=>?_,h.le,h.next⟩;rw[af (λe=>by rw[<-e]at hi;omega)];exact h.same q hi
theorem Step.weaken{H H1 H2:AH}(hs:Step P ρ ω H w ρ1 H1 w1)(hn:H1.next.toNat<=H2.next.toNat)(hg:∀id,Sim P ω (H1.m.get .dead id) (H2.m.get .dead id)\/H2.m.get .dead id=.dead):Step P ρ ω H w ρ1 H2 w1:=by
 have ow:∀id,owned (H2.m.get .dead id)=true->owned (H1.m.get .dead id)=true:=λid h=>by
  rcases hg id with h1|h1
  .rw[<-h1.owned];exact h
  .rw[h1]at h;cases h
 have lv:∀id,live (H2.m.get .dead id)=true->live (H1.m.get .dead id)=true:=λid h=>by
  rcases hg id with h1|h1
  .rw[<-h1.live];exact h
  .rw[h1]at h;cases h
 refine⟨hs.sub,⟨λid=>?_,λa b ia ib h1 h2=>hs.hr.inj a b ia ib (ow a h1) (lv b h2),λid i h=>Nat.lt_of_lt_of_le (hs.hr.fresh id i h) hn,λb c h=>⟨(hs.hr.num b c h).1,λid i h1=>(hs.hr.num b c h).2 id i (ow id h1)⟩⟩,
  hs.os,hs.tape,hs.output,hs.size,hs.keep,λb hb hi=>hs.al b hb ?_,λb hb hi=>hs.imgo b hb ?_,Nat.le_trans hs.next hn,hs.dom,λid hi hd=>?_,hs.nums⟩
 .rcases hg id with h1|h1
  .exact h1.ok (hs.hr.ok id)
  .rw[h1];trivial
 .obtain⟨id,i,h1,h2,h3⟩:=hi;exact⟨id,i,lv id h1,h2,h3⟩
 .obtain⟨id,i,h1,h2,h3⟩:=hi;exact⟨id,i,ow id h1,h2,h3⟩
 .rcases hg id with h1|h1
  .exact h1.dead.1 (hs.idle id hi hd)
  .exact h1
theorem Step.alias{H H1:AH}(hs:Step P ρ ω H w ρ1 H1 w1){k k':Pth}{esz n:Nat}{d:List AVal}{els:T8 (List AVal)}(ho:H1.m.get .dead k=.arr esz n d els)(hk:H.next.toNat<=k.toNat)(hk':H1.next.toNat<=k'.toNat):∃ρ2,Sub ρ1 ρ2/\ρ2.o k'=ρ1.o k/\Step P ρ ω H w ρ2 ⟨k'.succ,((H1.m.put .dead .dead k).put .dead (.arr esz n d els) k')⟩ w1:=by
 have hkl:k.toNat<H1.next.toNat:=hs.hr.wf k (by rw[ho];exactλe=>by cases e)
 have hkk:k≠k':=λe=>by subst e;omega
 obtain⟨ρ2,hρ2⟩:∃ρ2:Rho,ρ2=⟨λid=>if id=k' then ρ1.o k else ρ1.o id,ρ1.num⟩:=⟨_,rfl⟩;have r1:ρ2.o k'=ρ1.o k:=by rw[hρ2];exact if_pos rfl
 have r2:∀id,id≠k'->ρ2.o id=ρ1.o id:=λid h=>by rw[hρ2];exact if_neg h
 have r3:ρ2.num=ρ1.num:=by rw[hρ2]
 have hsub:Sub ρ1 ρ2:=⟨λid i h=>by
  have:=hs.hr.fresh id i h
  rw[r2 id (λe=>by subst e;omega)];exact h,λ_ _ h=>by rw[r3];exact h⟩
 obtain⟨m,hm⟩:∃m,m=((H1.m.put .dead .dead k).put .dead (.arr esz n d els) k'):=⟨_,rfl⟩;rw[<-hm];have g1:m.get .dead k'=.arr esz n d els:=by rw[hm];exact aL _ _ _ _
 have g2:m.get .dead k=.dead:=by rw[hm,aG _ _ (Ne.symm hkk),aL]
 have g3:∀id,id≠k->id≠k'->m.get .dead id=H1.m.get .dead id:=λid h h'=>by rw[hm,aG _ _ (Ne.symm h'),aG _ _ (Ne.symm h)]
 clear hm hρ2
 have back:∀id,m.get .dead id≠.dead->∃q,H1.m.get .dead q=m.get .dead id/\ρ2.o id=ρ1.o q/\(id=k'/\q=k\/id≠k'/\q=id/\q≠k):=λid h=>by
  by_cases e:id=k'
  .subst e;exact⟨k,ho.trans g1.symm,r1,.inl ⟨rfl,rfl⟩⟩
  .by_cases e2:id=k
   .subst e2;exact absurd g2 h
   .exact⟨id,(g3 id e2 e).symm,r2 id e,.inr ⟨e,rfl,e2⟩⟩
 have nd:∀{o:AObj},live o=true->o≠.dead:=λh e=>by subst e;cases h
 refine⟨ρ2,hsub,r1,⟨hs.sub.trans hsub,⟨λid=>?_,λa b ia ib h1 h2 hab ha hb=>?_,λid i h=>?_,λb c h=>⟨(hs.hr.num b c (by rw[<-r3];exact h)).1,λid i h1 h2=>?_⟩⟩,hs.os,hs.tape,hs.output,hs.size,hs.keep,λb hb hi=>hs.al b hb ?_,λb hb hi=>hs.imgo b hb ?_,?_,λid i h hi=>?_,λid hi hd=>?_,λb c h=>hs.nums b c (by rw[<-r3];exact h)⟩⟩
 .show ObjOk P ρ2 ω w1 id (m.get .dead id);by_cases e:id=k'
  .subst e;rw[g1];have hok:=hs.hr.ok k;rw[ho]at hok;obtain⟨i,c,T,h1,h2,h3⟩:=hok;exact⟨i,c,T,r1.trans h1,h2,h3.mono hsub⟩
  .by_cases e2:id=k
   .subst e2;rw[g2];trivial
   .rw[g3 id e2 e];exact ObjOk.mono hsub (λi hi=>rfl) (hs.hr.ok id)
 .obtain⟨q,q1,q2,q3⟩:=back a (nd (aj h1));obtain⟨t,t1,t2,t3⟩:=back b (nd h2);have h1:owned (m.get .dead a)=true:=h1;have h2:live (m.get .dead b)=true:=h2;rw[<-q1]at h1;rw[<-t1]at h2;have ha:ρ2.o a=some ia:=ha;have hb:ρ2.o b=some ib:=hb;rw[q2]at ha;rw[t2]at hb;refine hs.hr.inj q t ia ib h1 h2 (λe=>?_) ha hb;rcases q3 with⟨e1,e2⟩|⟨e1,e2,e3⟩<;>rcases t3 with⟨f1,f2⟩|⟨f1,f2,f3⟩
  .exact hab (e1.trans f1.symm)
  .exact f3 (e.symm.trans e2)
  .exact e3 (e.trans f2)
  .exact hab (e2.symm.trans (e.trans f2))
 .show id.toNat<k'.succ.toNat;rw[Pth.ab];by_cases e:id=k'
  .subst e;omega
  .have h:ρ2.o id=some i:=h;rw[r2 id e]at h;have:=hs.hr.fresh id i h;omega
 .obtain⟨q,q1,q2,_⟩:=back id (nd (aj h1));have h1:owned (m.get .dead id)=true:=h1;have h2:ρ2.o id=some i:=h2;rw[<-q1]at h1;rw[q2]at h2;exact(hs.hr.num b c (by rw[<-r3];exact h)).2 q i h1 h2
 .obtain⟨id,i,h1,h2,h3⟩:=hi;obtain⟨q,q1,q2,_⟩:=back id (nd h1);have h1:live (m.get .dead id)=true:=h1;have h2:ρ2.o id=some i:=h2;exact⟨q,i,by rw[q1];exact h1,by rw[q2]at h2;exact h2,h3⟩
 .obtain⟨id,i,h1,h2,h3⟩:=hi;obtain⟨q,q1,q2,_⟩:=back id (nd (aj h1));have h1:owned (m.get .dead id)=true:=h1;have h2:ρ2.o id=some i:=h2;exact⟨q,i,by rw[q1];exact h1,by rw[q2]at h2;exact h2,h3⟩
 .show H.next.toNat<=k'.succ.toNat
  rw[Pth.ab];have:=hs.next
  omega
 .have hne:id≠k':=λe=>by subst e;have:=hs.next;omega
  have h:ρ2.o id=some i:=h;rw[r2 id hne]at h;exact hs.dom id i h hi
 .show m.get .dead id=.dead;have hne:id≠k':=λe=>by subst e;have:=hs.next;omega
  by_cases e2:id=k
  .subst e2;exact g2
  .rw[g3 id e2 hne];exact hs.idle id hi hd
def keyC(H:AH)(c:Nat):Pth:=keyF (Nat.add H.next.toNat c)
theorem kT(H:AH)(c:Nat):(keyC H c).toNat=H.next.toNat+c:=by unfold keyC;rw[cF];exact bN _
theorem pj{H H1:AH}(hr:HR P ρ ω H w)(hs:Step P ρ ω H w ρ1 H1 w1){c:Nat}(hx:Ext c H H1){k:Pth}{esz n:Nat}{d d1:List AVal}{els els1:T8 (List AVal)}(ho:H1.m.get .dead k=.arr esz n d1 els1)(hk:H.next.toNat<=k.toNat)(hel:∀j,j<n->elem j d els=elem j d1 els1):∃ρ2,Sub ρ1 ρ2/\ρ2.o (keyC H c)=ρ1.o k/\Step P ρ ω H w ρ2 ⟨(keyC H c).succ,H.m.put .dead (.arr esz n d els) (keyC H c)⟩ w1:=by
 have hkc:H1.next.toNat<=(keyC H c).toNat:=by rw[kT];exact hx.next
 obtain⟨ρ2,h1,h2,h3⟩:=hs.alias ho hk hkc;refine⟨ρ2,h1,h2,h3.weaken (Nat.le_refl _) λid=>?_⟩;have hle:=hx.le;have kc:=kT H c;by_cases e:id=keyC H c
 .subst e;left;show Sim P ω (T8.get AObj.dead (keyC H c) (T8.put AObj.dead _ (keyC H c) _)) (T8.get AObj.dead (keyC H c) (T8.put AObj.dead _ (keyC H c) _));rw[aL,aL];exact⟨λ⟨i,cc,T,q1,q2,q3⟩=>⟨i,cc,T,q1,q2,⟨q3.lim,q3.size,λj hj=>by rw[hel j hj];exact q3.els j hj⟩⟩,rfl,rfl,⟨(λh=>by cases h),(λh=>by cases h)⟩⟩
 .show Sim P ω (T8.get AObj.dead id (T8.put AObj.dead _ (keyC H c) _)) (T8.get AObj.dead id (T8.put AObj.dead _ (keyC H c) _))\/T8.get AObj.dead id (T8.put AObj.dead _ (keyC H c) _)=AObj.dead;rw[aG _ _ (Ne.symm e),aG _ _ (Ne.symm e)];by_cases hlt:id.toNat<H.next.toNat
  .left;rw[aG _ _ (λe2=>by subst e2;omega),hx.same id hlt];exact Sim.refl _
  .right;by_cases hd:H.m.get .dead id=.dead
   .exact hd
   .exact absurd (hr.wf id hd) hlt
theorem xJ{H H1:AH}(hr:HR P ρ ω H w)(hs:Step P ρ ω H w ρ1 H1 w1){c:Nat}(hx:Ext c H H1):Step P ρ ω H w ρ1 ⟨keyC H c,H.m⟩ w1:=by
 refine hs.weaken (by show _<=(keyC H c).toNat;rw[kT];exact hx.next) λid=>?_
 by_cases hlt:id.toNat<H.next.toNat
 .left;show Sim P ω _ (H.m.get .dead id);rw[hx.same id hlt];exact Sim.refl _
 .right;by_cases hd:H.m.get .dead id=.dead
  .exact hd
  .exact absurd (hr.wf id hd) hlt
inductive Told(H H1:AH)(c:Nat):AVal->AVal->AH->Prop where
 |none (v:AVal):Told H H1 c v v ⟨keyC H c,H.m⟩
 |sl (k:Pth) (len cap esz n:Nat) (d d1:List AVal) (els els1:T8 (List AVal)) (ho:H1.m.get .dead k=.arr esz n d1 els1) (hk:H.next.toNat<=k.toNat) (hel:∀j,j<n->elem j d els=elem j d1 els1) :
  Told H H1 c (.sl k 0 len cap) (.sl (keyC H c) 0 len cap) ⟨(keyC H c).succ,H.m.put .dead (.arr esz n d els) (keyC H c)⟩
 |sg (k:Pth) (len ez esz n:Nat) (d d1:List AVal) (els els1:T8 (List AVal)) (ho:H1.m.get .dead k=.arr esz n d1 els1) (hk:H.next.toNat<=k.toNat) (hel:∀j,j<n->elem j d els=elem j d1 els1) :
  Told H H1 c (.sg k 0 len ez) (.sg (keyC H c) 0 len ez) ⟨(keyC H c).succ,H.m.put .dead (.arr esz n d els) (keyC H c)⟩
theorem xK{H H1 H':AH}{c:Nat}{v1 v:AVal}{u:Value}(ht:Told H H1 c v1 v H')(hr:HR P ρ ω H w)(hs:Step P ρ ω H w ρ1 H1 w1)(hx:Ext c H H1)(hv:VR ρ1 ω v1 u):∃ρ2,VR ρ2 ω v u/\Step P ρ ω H w ρ2 H' w1:=by
 cases ht with
 |none=>exact⟨ρ1,hv,xJ hr hs hx⟩
 |sl k len cap esz n d d1 els els1 ho hk hel=>
  obtain⟨ρ2,h1,h2,h3⟩:=pj hr hs hx ho hk hel;cases hv with
  |sl _ _ _ _ i hi=>exact⟨ρ2,.sl _ _ _ _ i (h2.trans hi),h3⟩
 |sg k len ez esz n d d1 els els1 ho hk hel=>
  obtain⟨ρ2,h1,h2,h3⟩:=pj hr hs hx ho hk hel;cases hv with
  |sg _ _ _ _ cap i hi hl hr'=>exact⟨ρ2,.sg _ _ _ _ cap i (h2.trans hi) hl hr',h3⟩
theorem iA{T:T8 CFn}(hω:∀i,(ω i).oneCell'=true)(hm:P.follows .mixedOrders=true)(hT:TabOk P ω T){f:Nat}{CK g:List AVal->AH->R}(hA:Adq T (key f) CK)(h:∀args H v H',Wf H->g args H=.ok v H'->∃v1 H1 c,CK args H=.ok v1 H1/\Ext c H H1/\Told H H1 c v1 v H'):OrcOk P ω f (natK g):=by
 intro args H v H' ρ w vals hone hr hg hv;obtain⟨v1,H1,c,h1,h2,h3⟩:=h args H v H' hr.wf (show g args H=.ok v H' from hone);obtain⟨n,hn⟩:=hA _ _ _ _ h1;have hc:CallerOk P ω (caller T (exec T n)):=ed hT (gK hω hT (gS hω hm) n) (ee n);have hco:=hc (hn n (Nat.le_refl _)) hr hg (.fnv f [] [] .nil) hv;cases hco with
 |fn f caps fn hf hnm hbd hcl=>
  rw[List.append_nil]at hcl;refine⟨fn,hf,hnm,hbd,hcl.mono λe w' he=>?_⟩;cases e with
  |panicked c=>exact he.elim
  |outgrown=>exact he.elim
  |returned u=>obtain⟨ρ1,hu,hs⟩:=he;exact xK h3 hr hs h2 hu
end Go.Ex
namespace Go.Ex
open Go Go.Proofs
abbrev KF:Type:=List AVal->AH->R
structure Fm(F:T8 CFn)(q:Pth) where
 k:KF
 a:Adq F q k
structure Cl(F:T8 CFn) where
 d:Caller
 a:Cal F d
abbrev KL:List Nat->Type
 |[]=>Unit
 |_::qs=>KF×KL qs
def zipK:(qs:List Nat)->KL qs->List (Pth×KF)
 |[],_=>[]
 |q::qs,x=>(key q,x.1)::zipK qs x.2
abbrev FL(F:T8 CFn):List Nat->Type
 |[]=>Unit
 |q::qs=>Fm F (key q)×FL F qs
def kOf{F:T8 CFn}:(qs:List Nat)->FL F qs->KL qs
 |[],_=>()
 |_::qs,x=>(x.1.k,kOf qs x.2)
theorem iB{F:T8 CFn}:(qs:List Nat)->(x:FL F qs)->AdqL F (zipK qs (kOf qs x))
 |[],_=>.nil
 |_::qs,x=>.cons x.1.a (iB qs x.2)
def CFn.withN(c:CFn)(n:KF):CFn:=⟨c.params,c.body,c.res,[natK n]⟩
section
variable{F:T8 CFn}{f:Nat}
@[reducible] def mkF (C:Cl F) (d:Fd f) (qs:List Nat) (x:FL F qs) {B:KL qs->Caller->KF} (e:B=λx g=>tK (selC (zipK qs x) g) d.1:=by conv=>rhs;reduce) (h:F.get noFn (key f)=d.1:=by kernel_rfl) (ho:d.1.aP=[]:=by rfl):Fm F (key f):=⟨B (kOf qs x) C.d,by rw[e];exact Adq.tree h ho (ae (iB qs x) C.a)⟩
@[reducible] def mkN (n:KF) (C:Cl F) (d:Fd f) (qs:List Nat) (x:FL F qs) {B:KL qs->Caller->KF} (e:B=λx g=>tK (selC (zipK qs x) g) d.1:=by conv=>rhs;reduce) (h:F.get noFn (key f)=d.1.withN n:=by kernel_rfl):Fm F (key f):=⟨orK n (B (kOf qs x) C.d),by rw[e];exact Adq.bm (fn:=d.1.withN n) h rfl (ae (iB qs x) C.a)⟩
@[reducible] def mkRec (C:Cl F) (d:Fd f) (qs:List Nat) (x:FL F qs) {B:KL qs->Caller->KF->KF} (e:B=λx g k=>tK (selC ((key f,k)::zipK qs x) g) d.1:=by conv=>rhs;reduce) (h:F.get noFn (key f)=d.1:=by kernel_rfl) (ho:d.1.aP=[]:=by rfl):Fm F (key f):=⟨recK (B (kOf qs x) C.d),by rw[e];exact Adq.rec λk hk=>Adq.tree h ho (ae (.cons hk (iB qs x)) C.a)⟩
@[reducible] def mkO (n:KF) (d:Fd f) (h:F.get noFn (key f)=d.1.withN n:=by kernel_rfl):Fm F (key f):=⟨n,Adq.nat h rfl⟩
end
variable{ω:Nat->Value}
abbrev Nf:=Nat×CFn×KF
def nv{f:Nat}(d:Fd f)(k:KF):Nf:=(f,d.1,k)
def putN:List Nf->T8 CFn->T8 CFn
 |[],T=>T
 |(f,c,n)::l,T=>putN l (T.put noFn (c.withN n) (key f))
def NOk(ω:Nat->Value)(l:List Nf):Prop:=∀{T:T8 CFn},TabOk Tryz.prog ω T->TabOk Tryz.prog ω (putN l T)
theorem NOk.nil:NOk ω []:=λh=>h
theorem NOk.cons{f:Nat}{d:Fd f}{k:KF}{l:List Nf}(h2:OrcOk Tryz.prog ω f (natK k))(h:NOk ω l):NOk ω (nv d k::l):=λhT=>h (TabOk.put hT d.2.some λo ho=>by rw[List.mem_singleton.1 ho];exact h2)
def noN:KF:=λ_ _=>.no
theorem cj{f:Nat}:OrcOk Tryz.prog ω f (natK noN):=λh=>(by cases h)
end Go.Ex
namespace Go.BI
open Go Go.RowKit Go.Proofs
def TrimRel(A:Option Addr)(c:Nat)(l:List Nat)(v:Value):Prop:=∃k:Nat,k<=l.length/\v=.slice A k c/\val (l.take k)=val l
def lenV:Value->Nat
 |.slice _ n _=>n
 |_=>0
theorem pn(A:Option Addr)(n c:Nat)(l:List Nat)(w:World)(h:Digs w A n c l):Calls Tryz.prog 145 #[.slice A n c] w λe w'=>(∃k,e=.returned (.slice A k c)/\k<=n/\l.take k=digs (val l))/\w=w':=by
 have hmax:=h.max;have hlen:=Lib.hid h.len;go_enter Tryz.func145,Tryz.ntmps145;go_wp2
 go_loop [0] (λv=>TrimRel A c l v) (λv=>lenV v)
 case atStart=>exact⟨n,by rw[hlen.out];exact Nat.le_refl _,rfl,by rw[<-hlen.out,List.take_length]⟩
 case round=>
  obtain⟨k,hk,rfl,hv⟩:=hrel;have HV:=Lib.hid hv;clear hv;have hk':k<=n:=by rw[<-hlen.out];exact hk
  clear hk;rcases k with _|j
  .go_wp2;go_ret;exact⟨⟨0,rfl,Nat.zero_le _,ml h.lim (Nat.zero_le _) HV.out (.inl rfl)⟩,rfl⟩
  .obtain⟨b,o,rfl,hlt,hc⟩:=h.cells (by omega);have hj:j<l.length:=by rw[hlen.out];omega
   have hcell:=hc j hj;clear hc;have hcap:j<=c:=by have:=h.cap;omega
   by_cases h0:l[j]=0
   .rw[h0]at hcell;have HD:=Lib.hid h0;clear h0;have HT:Hid (val (l.take j)=val l):=Lib.hid (by rw[<-HV.out,cU hj,HD.out];omega);go_wp2;exact⟨⟨j,Nat.le_of_lt hj,rfl,HT.out⟩,Nat.lt_succ_self j⟩
   .generalize hd:l[j]=d at *;have HD:=Lib.hid hd;clear hd;have hn:(((d:Nat):Int)==0)=false:=beq_false_of_ne (by omega);go_wp2;go_ret;exact⟨⟨j+1,rfl,hk',ml h.lim (by omega) HV.out (.inr ⟨hj,by rw[show l[j+1-1]=d from HD.out];exact h0⟩)⟩,rfl⟩
end Go.BI
namespace Go.BI
open Go Go.RowKit Go.Proofs Go.Lib Go.Sort
def idV(v:Value):Value:=v
theorem po:(Tryz.prog.info? 32).map (λi=>(i.zero,i.size,i.bytes))=some (some (.slice none 0 0),1,24):=by kernel_rfl
theorem pq:Tryz.prog.underlying 229=some (.slice 32):=by kernel_rfl
theorem xL(w:World):(zeroValue 32).run Tryz.prog w=.ok (.slice none 0 0) w:=by obtain⟨i,hi,hz,_,_⟩:=info_parts po;simp[zeroValue,typeInfo,hi,hz]
theorem xM(blk off cap i j:Nat)(d:Array Value)(w:World)(hone:∀u∈d,u.oneCell'=true)(hH:Holds idV w blk off d)(hcap:d.size<=cap)(hm:d.size<=9223372036854775807)(hij:i<=j)(hj:j<=d.size):Calls Tryz.prog 238 #[.slice (some ⟨blk,off,none⟩) d.size cap,.int .i64 i,.int .i64 j] w λe w'=>e=.returned (.slice (some ⟨blk,off,none⟩) (d.size-(j-i)) cap)/\∃q,w'=putRow idV (Sort.ahead w q) blk off (d.toList.take i++d.toList.drop j++List.replicate (j-i) (Value.slice none 0 0)).toArray:=by
 obtain⟨i0,hi0,hz0,hz1,hz2⟩:=info_parts po;have mixed:Tryz.prog.follows .mixedOrders=true:=rfl;by_cases heq:i=j
 .subst heq
  have h0:Calls Tryz.prog 238 #[.slice (some ⟨blk,off,none⟩) d.size cap,.int .i64 i,.int .i64 i] w λe w'=>e=.returned (.slice (some ⟨blk,off,none⟩) d.size cap)/\w'=w:=by
   clear hH hone;go_enter Tryz.func238,Tryz.ntmps238;go_wp2
   all_goals (go_ret;exact⟨rfl,rfl⟩)
  refine h0.mono ?_;rintro e w' ⟨rfl,rfl⟩;have e:(d.toList.take i++d.toList.drop i++List.replicate (i-i) (Value.slice none 0 0)).toArray=d:=by simp
  refine⟨by rw[Nat.sub_self,Nat.sub_zero],0,?_⟩;rw[e];exact(putRow_self idV (Sort.ahead w' 0) blk off d hH).symm
 .have hlt:i<j:=by omega
  obtain⟨news,hnews⟩:∃news,news=(d.toList.drop j).map idV:=⟨_,rfl⟩;have hlen:news.length=d.size-j:=by rw[hnews];simp
  have hget:∀t,t<d.size-j->news[t]?=some (idV d[j+t]!):=by intro t ht;rw[hnews,List.getElem?_map,List.getElem?_drop,Array.getElem?_toList,getElem!_pos d (j+t) (by omega),Array.getElem?_eq_getElem (by omega)];rfl
  obtain⟨A,hA,hsrc⟩:∃A:Addr,(if cap=j then some (⟨blk,off,none⟩:Addr)else some ⟨blk,off+j,none⟩)=some A/\Hid (∀t u,news[t]?=some u->w.drew.cell? (A.add t)=some u):=by
   by_cases h:cap=j
   .refine⟨⟨blk,off,none⟩,by simp[h],λt u hu=>?_⟩;have h0:news.length=0:=by rw[hlen];omega
    rw[List.length_eq_zero_iff.1 h0]at hu;simp at hu
   .refine⟨⟨blk,off+j,none⟩,by simp[h],λt u hu=>?_⟩
    have ht:t<d.size-j:=by
     have:=(List.getElem?_eq_some_iff.1 hu).1
     rwa [hlen]at this
    rw[hget t ht]at hu;rw[Addr.add_lit,show off+j+t=off+(j+t) by omega];exact(hH (j+t) (by omega)).1.trans hu
  have s1:Hid (news.length=(d.size-j)*1):=by rw[Nat.mul_one];exact hlen
  have s2:Hid (∀u∈news,u.oneCell'=true):=by intro u hu;rw[hnews]at hu;obtain⟨x,hx,rfl⟩:=List.mem_map.1 hu;exact hone x (by simpa using List.mem_of_mem_drop hx)
  have s3:Hid (∀t,t<news.length->(w.drew.cell? ⟨blk,off+i*1+t,none⟩).isSome=true/\w.drew.frozen? ⟨blk,off+i*1+t,none⟩=false):=by intro t ht;rw[hlen]at ht;rw[Nat.mul_one,Nat.add_assoc];exact⟨by show(w.cell? _).isSome=true;rw[(hH (i+t) (by omega)).1];rfl,(hH (i+t) (by omega)).2⟩
  obtain⟨W1,hW1⟩:∃W1,W1=w.drew.setCells blk (off+i*1) news:=⟨_,rfl⟩;have hW1':W1=putRow idV (Sort.ahead w 1) blk off (lay d i (d.toList.drop j)):=by rw[hW1,hnews,Nat.mul_one,<-putRow_setCells idV (Sort.ahead w 1) blk off _ d i (by simp;omega),putRow_self idV (Sort.ahead w 1) blk off d (holds_ahead idV w 1 blk off d hH)];rfl
  have hH1:Holds idV W1 blk off (lay d i (d.toList.drop j)):=by rw[hW1'];exact holds_putRow idV _ blk off d _ (holds_ahead idV w 1 blk off d hH) (lay_size _ _ _)
  have hcl:∀ty,(Builtin.clear_ #[229] ty #[.slice (some ⟨blk,off+(i+(d.size-j)),none⟩) (d.size-(i+(d.size-j))) (cap-(i+(d.size-j)))]).run Tryz.prog W1=.ok (.tuple #[]) (W1.setCells blk (off+(i+(d.size-j))) (List.replicate (d.size-(i+(d.size-j))) (.slice none 0 0))):=λty=>Lib.run_clear_slice W1 _ _ ty _ pq xL rfl rfl blk (off+(i+(d.size-j))) _ _ (by omega) (λt ht=>by rw[show off+(i+(d.size-j))+t=off+(i+(d.size-j)+t) by omega,(hH1 _ (by rw[lay_size];omega)).1];rfl) (λt ht=>by rw[show off+(i+(d.size-j))+t=off+(i+(d.size-j)+t) by omega];exact(hH1 _ (by rw[lay_size];omega)).2)
  have X:Aside (W1=putRow idV (Sort.ahead w 1) blk off (lay d i (d.toList.drop j))):=hW1';have hW:Hid (W1=w.drew.setCells blk (off+i*1) news):=hW1;have hic:i<=cap:=by omega
  have hjc:j<=cap:=by omega
  clear hW1 hW1' hH1 hH hget hnews hlen hone;go_enter Tryz.func238,Tryz.ntmps238;go_wp2_with fail
  go_region_law_o (refine step_append_room rfl (.tmp 22) (.tmp 25) 229 rfl 32 i0 1 pq hi0 hz1 blk off i cap (by simp[Act.eval,Act.put]) A (d.size-j) (cap-j) news (by simp[Act.eval,Act.put]) s1.out hsrc.out s2.out (by omega) s3.out ?_;rw[<-hW.out])
  go_wp2;go_ret;refine⟨by rw[show d.size-(j-i)=i+(d.size-j) by omega];rfl,1,?_⟩;have e9:List.map idV (List.replicate (d.size-(i+(d.size-j))) (Value.slice none 0 0))=List.replicate (d.size-(i+(d.size-j))) (Value.slice none 0 0):=by simp[idV]
  rw[<-delete_arr d i j (Value.slice none 0 0) hij hj,<-putRow_setCells idV _ blk off _ _ (i+(d.size-j)) (by rw[lay_size];simp;omega),<-X.out,show j-i=d.size-(i+(d.size-j)) by omega,e9]
end Go.BI
namespace Go.Ex
open Go
variable{ω:Nat->Value}
def delNew(d:List AVal)(els:T8 (List AVal))(off len i j:Nat):List (List AVal):=(elemsFrom d els off len).take i++(elemsFrom d els off len).drop j++List.replicate (j-i) [.snil]
def delW(H:AH)(id:Pth)(off len i j:Nat)(v:AVal):R:=
 match H.m.get .dead id with
 |.arr esz m d els=>bif Nat.beq esz 1&&(Nat.ble i j&&(Nat.ble j len&&(Nat.ble (off+len) m&&Nat.ble len 1000000)))then putElsC off (delNew d els off len i j) els λe=>setHKc H id (.arr 1 m d e) λH=>.ok v H else .no
 |_=>.no
def nDel(x i j:AVal)(H:AH):R:=
 match i,j with
 |.int .i64 (.ofNat i),.int .i64 (.ofNat j)=>match x with
  |.sg id off len ez=>bif Nat.beq ez 1 then delW H id off len i j (.sg id off (len-(j-i)) 1)else .no
  |.sl id off len cap=>bif Nat.ble len cap then delW H id off len i j (.sl id off (len-(j-i)) cap)else .no
  |_=>.no
 |_,_=>.no
def ar3(g:AVal->AVal->AVal->AH->R)(args:List AVal)(H:AH):R:=consA args λa l=>consA l λb l=>consA l λc l=>nilA l (g a b c H)
theorem ElsOk.del{ρ:Rho}{els:List (List AVal)}{vals:List Value}(h:ElsOk ρ ω 1 els vals)(i j:Nat):ElsOk ρ ω 1 (els.take i++els.drop j++List.replicate (j-i) [.snil]) (vals.take i++vals.drop j++List.replicate (j-i) (.slice none 0 0)):=by
 have hl:vals.length=els.length:=by have:=h.len;omega
 refine⟨by simp[hl],λv hv=>?_,λk cs hk=>?_⟩
 .simp only[List.mem_append]at hv;rcases hv with(hv|hv)|hv
  .exact h.one v (List.mem_of_mem_take hv)
  .exact h.one v (List.mem_of_mem_drop hv)
  .rw[(List.mem_replicate.1 hv).2];rfl
 .have key:∀m,els[m]?=some cs->∃us,All2 (VR ρ ω) cs us/\us.length=1/\(∀u∈us,u.oneCell'=true)/\∀q u,us[q]?=some u->vals[m+q]?=some u:=λm hm=>by
   obtain⟨us,h1,h2,h3,h4⟩:=h.els m cs hm;exact⟨us,h1,h2,h3,λq u hq=>by have:=h4 q u hq;rwa [Nat.mul_one]at this⟩
  rw[Nat.mul_one];by_cases c1:k<(els.take i).length
  .rw[List.append_assoc,List.getElem?_append_left c1,List.getElem?_take]at hk;have hki:k<i:=by rw[List.length_take]at c1;omega
   rw[if_pos hki]at hk;obtain⟨us,h1,h2,h3,h4⟩:=key k hk;refine⟨us,h1,h2,h3,λq u hq=>?_⟩;have hq0:q=0:=by have:=(List.getElem?_eq_some_iff.1 hq).1;omega
   subst hq0;rw[Nat.add_zero,List.append_assoc,List.getElem?_append_left (by rw[List.length_take];rw[List.length_take]at c1;omega),List.getElem?_take,if_pos hki];exact h4 0 u hq
  .by_cases c2:k<(els.take i++els.drop j).length
   .rw[List.getElem?_append_left c2,List.getElem?_append_right (by omega),List.getElem?_drop]at hk;obtain⟨us,h1,h2,h3,h4⟩:=key _ hk;refine⟨us,h1,h2,h3,λq u hq=>?_⟩;have hq0:q=0:=by have:=(List.getElem?_eq_some_iff.1 hq).1;omega
    subst hq0;have e1:(vals.take i).length=(els.take i).length:=by simp[hl]
    rw[Nat.add_zero,List.getElem?_append_left (by simp only[List.length_append,List.length_take,List.length_drop]at c2⊢;omega),List.getElem?_append_right (by omega),List.getElem?_drop,e1];exact h4 0 u hq
   .rw[List.getElem?_append_right (by omega),List.getElem?_replicate]at hk
    have hlt:k-(els.take i++els.drop j).length<j-i:=by
     rcases Nat.lt_or_ge (k-(els.take i++els.drop j).length) (j-i)with h1|h1
     .exact h1
     .rw[if_neg (by omega)]at hk;cases hk
    rw[if_pos hlt]at hk;obtain rfl:=Option.some.inj hk;refine⟨[.slice none 0 0],.cons .snil .nil,rfl,λu hu=>by rw[List.mem_singleton.1 hu];rfl,λq u hq=>?_⟩;have hq0:q=0:=by have:=(List.getElem?_eq_some_iff.1 hq).1;simpa using this
    subst hq0;obtain rfl:Value.slice none 0 0=u:=by simpa using hq
    have e2:(vals.take i++vals.drop j).length=(els.take i++els.drop j).length:=by simp[hl]
    rw[Nat.add_zero,List.getElem?_append_right (by omega),List.getElem?_replicate,e2,if_pos hlt]
theorem xN{H H':AH}{id:Pth}{off len i j:Nat}{v v':AVal}(h:delW H id off len i j v=.ok v' H'):v'=v/\∃m d els,H.m.get .dead id=.arr 1 m d els/\i<=j/\j<=len/\off+len<=m/\len<=1000000/\H'=H.set id (.arr 1 m d (putEls off (delNew d els off len i j) els)):=by
 unfold delW at h;split at h
 case h_2=>cases h
 case h_1 esz m d els heq=>
 cases hc:(Nat.beq esz 1&&(Nat.ble i j&&(Nat.ble j len&&(Nat.ble (off+len) m&&Nat.ble len 1000000))))with
 |false=>rw[hc]at h;cases h
 |true=>rw[hc]at h;simp only[cond,dg,dD,R.ok.injEq]at h;simp only[Bool.and_eq_true]at hc;obtain⟨c1,c2,c3,c4,c5⟩:=hc;have:=Nat.eq_of_beq_eq_true c1;subst this;exact⟨h.1.symm,m,d,els,heq,Nat.le_of_ble_eq_true c2,Nat.le_of_ble_eq_true c3,Nat.le_of_ble_eq_true c4,Nat.le_of_ble_eq_true c5,h.2.symm⟩
theorem xO:∃fn,Proofs.Tryz.prog.funcs[238]?=some fn/\(fn.name== "runtime.NumGoroutine")=false/\fn.body.isNone=false:=⟨_,rfl,by decide,rfl⟩
theorem pt{H H':AH}{ρ:Rho}{w:World}(hr:HR Proofs.Tryz.prog ρ ω H w){id:Pth}{off len i j cap:Nat}{v v':AVal}{bi:BI}(hi:ρ id=some bi)(hcap:len<=cap)(h:delW H id off len i j v=.ok v' H')(hv:VR ρ ω v (.slice (some ⟨bi.blk,bi.base+off,none⟩) (len-(j-i)) cap)):CallsIn Fence.wide 0 Proofs.Tryz.prog 238 #[.slice (some ⟨bi.blk,bi.base+off,none⟩) len cap,.int .i64 i,.int .i64 j] w λ|.returned u,w'=>(∃ρ',VR ρ' ω v' u/\Step Proofs.Tryz.prog ρ ω H w ρ' H' w')|_,_=>False:=by
 obtain⟨rfl,m,d,els,ho,hij,hj,hm,hbig,rfl⟩:=xN h;have hobj:=hr.ok id;rw[ho]at hobj;obtain⟨bi',c,T,hi',hcc,ha⟩:=hobj;rw[hi]at hi';cases hi';obtain⟨vals,hE,hc⟩:=ha.elems (Nat.zero_lt_one) (off:=off) (len:=len) (Nat.mod_one _) (by rw[Nat.div_one];exact hm);rw[Nat.div_one]at hE;have hvl:vals.length=len:=by have:=hE.len;rw[bu]at this;omega
 have hl':=ha.lim;have hsz':=ha.size;have hsz:(vals.toArray).size=len:=by simpa using hvl
 have hH:Sort.Holds BI.idV w bi.blk (bi.base+off) vals.toArray:=by
  intro k hk;rw[hsz]at hk;have e:vals.toArray[k]! = vals[k]'(by omega):=by rw[getElem!_pos vals.toArray k (by simpa using(by omega:k<vals.length))];simp
  refine⟨?_,?_⟩
  .rw[cW hcc,hc k _ (List.getElem?_eq_getElem (by omega))];rw[e];rfl
  .simp[World.frozen?,hcc]
 have hD:=BI.xM bi.blk (bi.base+off) cap i j vals.toArray w (λu hu=>hE.one u (by simpa using hu)) hH (by omega) (by omega) hij (by omega);rw[hsz]at hD;refine(callsIn_wide.2 hD).mono ?_;rintro e w' ⟨rfl,q,rfl⟩;refine⟨ρ,hv,?_⟩;have hn:(vals.take i++vals.drop j++List.replicate (j-i) (Value.slice none 0 0)).length=len:=by simp[hvl];omega
 have hput:=ha.putEls Nat.zero_lt_one (hE.del i j) (j0:=off) (by simp[bu];omega);rw[Nat.mul_one]at hput
 have hcells:Sort.putCells BI.idV (bi.base+off) (vals.take i++vals.drop j++List.replicate (j-i) (Value.slice none 0 0)).toArray c=splice c (bi.base+off) (vals.take i++vals.drop j++List.replicate (j-i) (Value.slice none 0 0)):=by
  apply Array.ext_getElem?;intro k;rw[bF (by rw[hn];omega),hn];unfold Sort.putCells;rw[Array.getElem?_mapIdx];simp only[List.size_toArray,hn];by_cases c1:k<bi.base+off
  .rw[if_pos c1];cases hk:c[k]? with
   |none=>rfl
   |some x=>rw[Option.map_some,if_neg (by omega)]
  .rw[if_neg c1];by_cases c2:k<bi.base+off+len
   .rw[if_pos c2,Array.getElem?_eq_getElem (by omega),Option.map_some,if_pos (by omega),List.getElem?_eq_getElem (by omega),getElem!_pos _ _ (by simp only[List.size_toArray];omega)];simp[BI.idV]
   .rw[if_neg c2];cases hk:c[k]? with
    |none=>rfl
    |some x=>rw[Option.map_some,if_neg (by omega)]
 have hheap:∀b,(Sort.putRow BI.idV (Sort.ahead w q) bi.blk (bi.base+off) (vals.take i++vals.drop j++List.replicate (j-i) (Value.slice none 0 0)).toArray).heap[b]?=if bi.blk=b then(w.heap[b]?).map (Sort.onCells (Sort.putCells BI.idV (bi.base+off) (vals.take i++vals.drop j++List.replicate (j-i) (Value.slice none 0 0)).toArray))else w.heap[b]?:=by intro b;unfold Sort.putRow Sort.mapBlock;rw[Array.getElem?_modify];rfl
 exact hr.set hi (by rw[ho];rfl) rfl rfl rfl (Sort.size_putRow ..) (λb hb=>by rw[hheap,if_neg (Ne.symm hb)]) ⟨bi,_,T,hi,by rw[hheap,if_pos rfl,hcc];simp only[Option.map_some,Sort.onCells,hcells],hput⟩
theorem xP:OrcOk Proofs.Tryz.prog ω 238 (natK (ar3 nDel)):=by
 intro args H v H' ρ w vals hone hr hg hv;obtain⟨fn,h1,h2,h3⟩:=xO;refine⟨fn,h1,h2,h3,?_⟩;obtain⟨x,l,rfl,h4⟩:=aQ (show consA args (λa l=>consA l λb l=>consA l λc l=>nilA l (nDel a b c H))=.ok v H' from hone);obtain⟨y,l,rfl,h5⟩:=aQ h4;obtain⟨z,l,rfl,h6⟩:=aQ h5;obtain⟨rfl,h7⟩:=cg h6;clear hone h4 h5 h6;cases hv with
 |cons hx hv=>cases hv with
  |cons hy hv=>cases hv with
   |cons hz hv=>
    cases hv;unfold nDel at h7;split at h7
    case h_2=>cases h7
    case h_1 i j=>
    cases hy;cases hz;split at h7
    case h_3=>cases h7
    case h_1 id off len ez=>
     cases he:Nat.beq ez 1 with
     |false=>rw[he]at h7;cases h7
     |true=>
      rw[he]at h7;have:=Nat.eq_of_beq_eq_true he;subst this;cases hx with
      |sg _ _ _ _ cap bi hi hl hr'=>exact pt hr hi hl h7 (.sg _ _ _ _ cap bi hi (by omega) hr')
    case h_2 id off len cap=>
     cases he:Nat.ble len cap with
     |false=>rw[he]at h7;cases h7
     |true=>
      rw[he]at h7;cases hx with
      |sl _ _ _ _ bi hi=>exact pt hr hi (Nat.le_of_ble_eq_true he) h7 (.sl _ _ _ _ bi hi)
end Go.Ex
namespace Go.Ex.NK
open Go Go.RowKit Go.Proofs
theorem iC(a b:Nat):Nat.gcd b (a%b)=Nat.gcd a b:=by rw[Nat.gcd_comm,<-Nat.gcd_rec,Nat.gcd_comm]
def GcdRel(g:Nat)(w:World)(x y:Value)(wr:World):Prop:=∃p q n:Nat,x=.int .i64 p/\y=.int .i64 q/\Nat.gcd p q=g/\p<=1000000000000/\q<=1000000000000/\wr=w.drewN n
theorem pw(a b:Nat)(w:World)(ha:a<=1000000000000)(hb:b<=1000000000000):Calls Tryz.prog 201 #[.int .i64 a,.int .i64 b] w λe w'=>e=.returned (.int .i64 (Nat.gcd a b:Nat))/\∃n,w'=w.drewN n:=by
 go_enter Tryz.func201,Tryz.ntmps201;go_wp2
 go_loopw [0,1] (λx y wr=>GcdRel (Nat.gcd a b) w x y wr) (λ_ y _=>(intOf y).toNat)
 case atStart=>exact⟨a,b,0,rfl,rfl,rfl,ha,hb,rfl⟩
 case round=>
  obtain⟨p,q,n,rfl,rfl,hg,hp,hq,rfl⟩:=hrel;have G:=Lib.hid hg;clear hg;by_cases h0:q=0
  .subst h0;have hmx:max (p:Int) (-(p:Int))=p:=by omega
   have hwp:IntKind.i64.wrap (-(p:Int)) = -(p:Int):=IntWalk.i64_in _ (by omega);go_wp2;go_ret;exact⟨by rw[<-G.out,Nat.gcd_zero_right];first|rfl|simp[hmx],n,rfl⟩
  .have hpos:0<q:=Nat.pos_of_ne_zero h0;have hne:((q:Int)==0)=false:=beq_false_of_ne (by omega);have hne':((q:Int) !=0)=true:=by rw[bne,hne];rfl
   go_wp2
   go_quiet (fail)
   go_roundw
   case rel=>refine⟨_,_,_,_,_,_,_,_,?_,rfl⟩;exact⟨q,p%q,n+nq,rfl,rfl,by rw[iC];exact G.out,hq,Nat.le_trans (Nat.le_of_lt (Nat.mod_lt p hpos)) hq,World.drewN_drewN ..⟩
   case measure=>simp[intOf];have:=Nat.mod_lt p hpos;omega
def leastC(n c d s:Nat):Bool:=Nat.beq (Nat.gcd s n) 1&&(Nat.blt (Nat.mod (Nat.mul s c) n) c||(Nat.beq (Nat.mod (Nat.mul s c) n) c&&Nat.blt (Nat.mod (Nat.mul s d) n) d))
def fzB(s:Nat)(k:Nat->Bool):Bool:=Nat.rec (motive:=λ_=>Bool) (k 0) (λm _=>k (Nat.succ m)) s
theorem xQ(s:Nat)(k:Nat->Bool):fzB s k=k s:=by cases s<;>rfl
def leastGo(n c d k:Nat):Nat->Bool:=Nat.rec (motive:=λ_=>Nat->Bool) (λ_=>true) (λ_ ih s=>Bool.rec (motive:=λ_=>Bool) (fzB (Nat.succ s) ih) false (leastC n c d s)) k
theorem xR(n c d k s:Nat):leastGo n c d (k+1) s=bif leastC n c d s then false else leastGo n c d k (s+1):=by show Bool.rec (motive:=λ_=>Bool) (fzB (Nat.succ s) (leastGo n c d k)) false (leastC n c d s)=_;rw[xQ];cases leastC n c d s<;>rfl
def leastB(n c d:Nat):Bool:=leastGo n c d (n-2) 2
def LeastRel(n c d:Nat)(w:World)(x:Value)(wr:World):Prop:=∃s q:Nat,x=.int .i64 s/\2<=s/\s<=n+2/\leastGo n c d (n-s) s=leastB n c d/\wr=w.drewN q
theorem xS{n c d s:Nat}(h:s<n):leastGo n c d (n-s) s=bif leastC n c d s then false else leastGo n c d (n-(s+1)) (s+1):=by obtain⟨k,hk⟩:∃k,n-s=k+1:=⟨n-s-1,by omega⟩;rw[hk,show n-(s+1)=k by omega,xR]
theorem kU{m:Nat}(h:m<=1000000000000):IntKind.i64.wrap (m:Int)=m:=IntWalk.i64_in _ (by omega)
theorem xT(n c d:Nat)(w:World)(hn:n<=1000)(hc:c<=1000)(hd:d<=1000):Calls Tryz.prog 202 #[.int .i64 n,.int .i64 c,.int .i64 d] w λe w'=>e=.returned (.bool (leastB n c d))/\∃n,w'=w.drewN n:=by
 go_enter Tryz.func202,Tryz.ntmps202;go_wp2
 go_loopw [7] (λx wr=>LeastRel n c d w x wr) (λx _=>n+2-(intOf x).toNat)
 case atStart=>exact⟨2,0,rfl,by omega,by omega,rfl,rfl⟩
 case round=>
  obtain⟨s,q,rfl,h2,h3,hl,rfl⟩:=hrel;have L:=Lib.hid hl;clear hl;by_cases hs:s<n
  .have hsi:(s:Int)<n:=by omega
   have hpos:0<n:=by omega
   have m1:s*c<=1000000:=Nat.mul_le_mul (show s<=1000 by omega) hc;have m2:s*d<=1000000:=Nat.mul_le_mul (show s<=1000 by omega) hd;have w1:IntKind.i64.wrap ((s:Int)*(c:Int))=((s*c:Nat):Int):=by rw[<-Int.natCast_mul];exact kU (by omega)
   have w2:IntKind.i64.wrap ((s:Int)*(d:Int))=((s*d:Nat):Int):=by rw[<-Int.natCast_mul];exact kU (by omega)
   have hn0:((n:Int)==0)=false:=beq_false_of_ne (by omega)
   have hu:(decide (((s*c%n:Nat):Int)<(c:Int)))=Nat.blt (s*c%n) c:=by
    cases h:Nat.blt (s*c%n) c with
    |true=>have:=Nat.le_of_ble_eq_true h;exact decide_eq_true (by omega)
    |false=>exact decide_eq_false λh2=>by rw[show Nat.blt (s*c%n) c=true from Nat.ble_eq_true_of_le (by omega)]at h;cases h
   have he:(((s*c%n:Nat):Int)==(c:Int))=Nat.beq (s*c%n) c:=by
    cases h:Nat.beq (s*c%n) c with
    |true=>rw[Nat.eq_of_beq_eq_true h];exact beq_self_eq_true _
    |false=>exact beq_false_of_ne λh2=>by rw[show Nat.beq (s*c%n) c=true from by rw[show s*c%n=c by omega];exact Nat.beq_refl c]at h;cases h
   have hv:(decide (((s*d%n:Nat):Int)<(d:Int)))=Nat.blt (s*d%n) d:=by
    cases h:Nat.blt (s*d%n) d with
    |true=>have:=Nat.le_of_ble_eq_true h;exact decide_eq_true (by omega)
    |false=>exact decide_eq_false λh2=>by rw[show Nat.blt (s*d%n) d=true from Nat.ble_eq_true_of_le (by omega)]at h;cases h
   have hg:(((Nat.gcd s n:Nat):Int)==(1:Int))=Nat.beq (Nat.gcd s n) 1:=by
    cases h:Nat.beq (Nat.gcd s n) 1 with
    |true=>rw[Nat.eq_of_beq_eq_true h];rfl
    |false=>exact beq_false_of_ne λh2=>by rw[show Nat.gcd s n=1 by omega]at h;cases h
   have hst:=xS (c:=c) (d:=d) hs;rw[L.out]at hst;have hlc:leastC n c d s=(Nat.beq (Nat.gcd s n) 1&&(Nat.blt (s*c%n) c||(Nat.beq (s*c%n) c&&Nat.blt (s*d%n) d))):=rfl;rw[hlc]at hst;clear hlc;have E:=Lib.hid hst;clear hst L;have w3:IntKind.i64.wrap ((s:Int)+1)=((s+1:Nat):Int):=by rw[show(s:Int)+1=((s+1:Nat):Int) by omega];exact kU (by omega)
   have hgl:Nat.gcd s n<=1000:=Nat.le_trans (Nat.gcd_le_left n (by omega)) (by omega);have HG:=Lib.hid (λw=>pw s n w (by omega) (by omega));have t1:Int.tmod ((s*c:Nat):Int) (n:Int)=((s*c%n:Nat):Int):=rfl;have t2:Int.tmod ((s*d:Nat):Int) (n:Int)=((s*d%n:Nat):Int):=rfl;have u1:s*c%n<n:=Nat.mod_lt _ hpos;have u2:s*d%n<n:=Nat.mod_lt _ hpos;generalize s*c%n=U at *;generalize s*d%n=V at *;generalize s*c=M1 at *;generalize s*d=M2 at *;generalize Nat.gcd s n=G at *;generalize Nat.beq G 1=B1 at *;generalize Nat.blt U c=B2 at *;generalize Nat.beq U c=B3 at *;generalize Nat.blt V d=B4 at *;cases B1<;>cases B2<;>cases B3<;>cases B4
   all_goals
    first|have hu2:=of_decide_eq_true hu|have hu2:=of_decide_eq_false hu
    first|have hv2:=of_decide_eq_true hv|have hv2:=of_decide_eq_false hv
    go_wp2_with (go_at_call 201;refine(HG.out _).mono ?_;rintro e w5 ⟨rfl,q5,rfl⟩)
    first
     |(go_ret;exact⟨by rw[E.out];rfl,q+q5,rfl⟩)
     |exact⟨⟨s+1,q+q5,rfl,by omega,by omega,E.out.symm,rfl⟩,by simp[intOf];omega⟩
  .have hsi:¬(s:Int)<n:=by omega
   go_wp2;go_ret;refine⟨?_,q,rfl⟩;have e:=L.out;rw[show n-s=0 by omega]at e;rw[<-e];rfl
end Go.Ex.NK
namespace Go.Ex
open Go Go.RowKit
variable{P:Program}{ω:Nat->Value}
def sInts:List AVal->Option (List Int)
 |[]=>some []
 |.int .i64 n::l=>match sInts l with
  |some r=>some (n::r)
  |none=>none
 |_::_=>none
def scV:AVal->Value
 |.int k n=>.int k n
 |.bool b=>.bool b
 |_=>.bool false
def isSc:AVal->Bool
 |.int _ _=>true
 |.bool _=>true
 |_=>false
def natS(g:List Int->Option AVal)(args:List AVal)(H:AH):R:=
 match sInts args with
 |some l=>match g l with
  |some v=>.ok v H
  |none=>.no
 |none=>.no
theorem xU{ρ:Rho}:∀{args:List AVal} {l:List Int} {vals:List Value},sInts args=some l->All2 (VR ρ ω) args vals->vals=l.map (.int .i64):=by
 intro args
 induction args with
 |nil=>intro l vals h hv;cases h;cases hv;rfl
 |cons a r ih=>
  intro l vals h hv;cases hv with
  |cons ha hr=>
   unfold sInts at h;split at h
   case h_1=>rename_i e;cases e
   case h_3=>cases h
   case h_2 n l' heq=>
    cases heq;split at h
    case h_2=>cases h
    case h_1 r' hr'=>cases h;cases ha;rw[ih hr' hr];rfl
theorem VR.xV{ρ:Rho}{v:AVal}(h:isSc v=true):VR ρ ω v (scV v):=by cases v<;>first|exact .int _ _|exact .bool _|cases h
theorem px{f:Nat}{g:List Int->Option AVal}(hf:∃fn,P.funcs[f]?=some fn/\(fn.name== "runtime.NumGoroutine")=false/\fn.body.isNone=false)
 (hc:∀(l:List Int) (v:AVal) (w:World),g l=some v->isSc v=true/\Calls P f (l.map (.int .i64)).toArray w λe w'=>e=.returned (scV v)/\RowKit.Below w.heap.size w w'):OrcOk P ω f (natK (natS g)):=by
 intro args H v H' ρ w vals hone hr hg hv;obtain⟨fn,h1,h2,h3⟩:=hf;refine⟨fn,h1,h2,h3,?_⟩;have h:natS g args H=.ok v H':=hone;unfold natS at h;split at h
 case h_2=>cases h
 case h_1 l hl=>
 split at h
 case h_2=>cases h
 case h_1 u hu=>
 cases h;rw[xU hl hv];obtain⟨hs,hC⟩:=hc l v w hu;refine(callsIn_wide.2 hC).mono ?_;rintro e w' ⟨rfl,hb⟩;exact⟨ρ,.xV hs,Step.grow hr hb⟩
end Go.Ex
namespace Go.Ex.NK
open Go Go.RowKit Go.Proofs
variable{ω:Nat->Value}
def gGcd(l:List Int):Option AVal:=
 match l with
 |[.ofNat a,.ofNat b]=>bif Nat.ble a 1000000000000&&Nat.ble b 1000000000000 then some (.int .i64 (.ofNat (Nat.gcd a b)))else none
 |_=>none
def gLeast(l:List Int):Option AVal:=
 match l with
 |[.ofNat n,.ofNat c,.ofNat d]=>bif Nat.ble n 1000&&(Nat.ble c 1000&&Nat.ble d 1000)then some (.bool (leastB n c d))else none
 |_=>none
theorem py{w:World}(n:Nat):RowKit.Below w.heap.size w (w.drewN n):=⟨rfl,rfl,rfl,Nat.le_refl _,λ_ _=>rfl⟩
theorem xW:∃fn,Tryz.prog.funcs[201]?=some fn/\(fn.name== "runtime.NumGoroutine")=false/\fn.body.isNone=false:=⟨_,rfl,by decide,rfl⟩
theorem xX:∃fn,Tryz.prog.funcs[202]?=some fn/\(fn.name== "runtime.NumGoroutine")=false/\fn.body.isNone=false:=⟨_,rfl,by decide,rfl⟩
theorem xY:OrcOk Tryz.prog ω 201 (natK (natS gGcd)):=by
 refine px xW λl v w h=>?_
 unfold gGcd at h;split at h
 case h_2=>cases h
 case h_1 a b=>
 cases hc:(Nat.ble a 1000000000000&&Nat.ble b 1000000000000)with
 |false=>rw[hc]at h;cases h
 |true=>rw[hc]at h;cases h;simp only[Bool.and_eq_true]at hc;refine⟨rfl,(pw a b w (Nat.le_of_ble_eq_true hc.1) (Nat.le_of_ble_eq_true hc.2)).mono ?_⟩;rintro e w' ⟨rfl,n,rfl⟩;exact⟨rfl,py n⟩
theorem xZ:OrcOk Tryz.prog ω 202 (natK (natS gLeast)):=by
 refine px xX λl v w h=>?_
 unfold gLeast at h;split at h
 case h_2=>cases h
 case h_1 n c d=>
 cases hc:(Nat.ble n 1000&&(Nat.ble c 1000&&Nat.ble d 1000))with
 |false=>rw[hc]at h;cases h
 |true=>rw[hc]at h;cases h;simp only[Bool.and_eq_true]at hc;refine⟨rfl,(xT n c d w (Nat.le_of_ble_eq_true hc.1) (Nat.le_of_ble_eq_true hc.2.1) (Nat.le_of_ble_eq_true hc.2.2)).mono ?_⟩;rintro e w' ⟨rfl,n,rfl⟩;exact⟨rfl,py n⟩
end Go.Ex.NK
namespace Go.BI
open Go
theorem kV(a b:Nat)(ha:a<4294967296)(hb:b<4294967296):bits .xor .u32 (a:Int) (b:Int)=((a ^^^ b:Nat):Int):=by
 have hx:a ^^^ b<2 ^ 32:=Nat.xor_lt_two_pow (by omega) (by omega);have h1:(BitVec.ofInt 32 (a:Int)).toNat=a:=by rw[BitVec.ofInt_natCast,BitVec.toNat_ofNat];exact Nat.mod_eq_of_lt (by omega)
 have h2:(BitVec.ofInt 32 (b:Int)).toNat=b:=by rw[BitVec.ofInt_natCast,BitVec.toNat_ofNat];exact Nat.mod_eq_of_lt (by omega)
 show IntKind.u32.wrap ((BitVec.ofInt 32 (a:Int) ^^^ BitVec.ofInt 32 (b:Int)).toNat:Int)=_;rw[BitVec.toNat_xor,h1,h2,IntKind.wrap_u32];omega
theorem pz(a b:Nat)(ha:a<4294967296)(hb:b<4294967296):bits .and .u32 (a:Int) (b:Int)=((a&&& b:Nat):Int):=(bits_nat .u32 32 (by decide) (λn h0 h1=>by rw[IntKind.wrap_u32];omega) a b ha hb).1
theorem x5(a b:Nat)(ha:a<4294967296)(hb:b<4294967296):bits .or .u32 (a:Int) (b:Int)=((a||| b:Nat):Int):=(bits_nat .u32 32 (by decide) (λn h0 h1=>by rw[IntKind.wrap_u32];omega) a b ha hb).2
theorem pA{n:Nat}(h:n<4294967296):n/2147483648=(n.testBit 31).toNat:=by
 rw[Nat.testBit_eq_decide_div_mod_eq];have:n/2147483648<2:=by omega
 show n/2147483648=(decide (n/2147483648%2=1)).toNat;rcases(show n/2147483648=0\/n/2147483648=1 by omega)with h|h<;>rw[h]<;>rfl
theorem kW{n:Nat}(h:n<4294967296):n.testBit 31=decide (2147483648<=n):=by have:=pA h;cases hb:n.testBit 31<;>rw[hb]at this<;>simp at this<;>simp<;>omega
theorem x6(x y c:Nat)(hx:x<4294967296)(hy:y<4294967296)(hc:c<=1) :
 bits .or .u32 (bits .and .u32 (bits .xor .u32 4294967295 (x:Int)) (y:Int)) (bits .and .u32 (bits .xor .u32 4294967295 (bits .xor .u32 (x:Int) (y:Int))) (((x:Int)-y-c)%4294967296))/2147483648
  = ((if y+c<=x then 0 else 1:Nat):Int):=by
 obtain⟨d,hd⟩:=Int.eq_ofNat_of_zero_le (show 0<=((x:Int)-y-c)%4294967296 from Int.emod_nonneg _ (by decide));have hdl:d<4294967296:=by have:=Int.emod_lt_of_pos ((x:Int)-y-c) (show(0:Int)<4294967296 by decide);omega
 rw[hd];have hM:(4294967295:Int)=((4294967295:Nat):Int):=rfl;have b1:4294967295 ^^^ x<4294967296:=Nat.xor_lt_two_pow (n:=32) (by decide) hx;have b2:x ^^^ y<4294967296:=Nat.xor_lt_two_pow (n:=32) hx hy;have b3:4294967295 ^^^ (x ^^^ y)<4294967296:=Nat.xor_lt_two_pow (n:=32) (by decide) b2;have b4:(4294967295 ^^^ x)&&& y<4294967296:=Nat.and_lt_two_pow (n:=32) _ hy;have b5:(4294967295 ^^^ (x ^^^ y))&&& d<4294967296:=Nat.and_lt_two_pow (n:=32) _ hdl;have b6:((4294967295 ^^^ x)&&& y)||| ((4294967295 ^^^ (x ^^^ y))&&& d)<4294967296:=Nat.or_lt_two_pow (n:=32) b4 b5;rw[hM,kV x y hx hy,kV _ x (by decide) hx,kV _ _ (by decide) b2,pz _ y b1 hy,pz _ d b3 hdl,x5 _ _ b4 b5]
 have key:(((4294967295 ^^^ x)&&& y)||| ((4294967295 ^^^ (x ^^^ y))&&& d))/2147483648=if y+c<=x then 0 else 1:=by
  rw[pA b6];have hm:Nat.testBit 4294967295 31=true:=by decide
  rw[Nat.testBit_or,Nat.testBit_and,Nat.testBit_and,Nat.testBit_xor,Nat.testBit_xor,Nat.testBit_xor,hm,kW hx,kW hy,kW hdl];by_cases h1:2147483648<=x<;>by_cases h2:2147483648<=y<;>by_cases h3:2147483648<=d<;>by_cases h4:y+c<=x<;>simp[h1,h2,h3,h4]<;>omega
 rw[<-key];rfl
end Go.BI
namespace Go.BI
open Go Go.RowKit Go.Proofs
def Two32(R:Nat->Nat->Prop)(e:Ending):Prop:=∃a b:Nat,e=.returned (.tuple #[.int .u32 a,.int .u32 b])/\R a b
theorem iD(x y c:Nat)(w:World)(hx:x<4294967296)(hy:y<4294967296)(hc:c<=1):Calls Tryz.prog 315 #[.int .u32 x,.int .u32 y,.int .u32 c] w λe w'=>Two32 (λs d=>s+4294967296*d=x+y+c/\s<4294967296/\d<=1) e/\w=w':=by
 go_enter Tryz.func315,Tryz.ntmps315;go_wp2
 go_ret2
 refine⟨⟨(x+y+c)%4294967296,(x+y+c)/4294967296,?_,by omega,by omega,by omega⟩,rfl⟩;rw[Int.natCast_emod,Int.natCast_ediv,Int.natCast_add,Int.natCast_add];rfl
theorem pB(x y c:Nat)(w:World)(hx:x<4294967296)(hy:y<4294967296)(hc:c<=1):Calls Tryz.prog 316 #[.int .u32 x,.int .u32 y,.int .u32 c] w λe w'=>Two32 (λs d=>s+y+c=x+4294967296*d/\s<4294967296/\d<=1) e/\w=w':=by
 have hs:IntKind.u32.signed=false:=rfl;have hmx:IntKind.u32.max=4294967295:=by decide
 go_enter Tryz.func316,Tryz.ntmps316;go_wp2
 go_ret2
 have hb:=x6 x y c hx hy hc;refine⟨⟨(((x:Int)-y-c)%4294967296).toNat,if y+c<=x then 0 else 1,?_,?_,?_,?_⟩,rfl⟩
 .rw[<-hb,Int.toNat_of_nonneg (Int.emod_nonneg _ (by decide)),<-show(((x:Int)-y)%4294967296-c)%4294967296=((x:Int)-y-c)%4294967296 by omega];rfl
 .split<;>omega
 .omega
 .split<;>omega
def sgnV(n:Int):Int:=if n<0 then -1 else if 0<n then 1 else 0
theorem x7(n:Int)(w:World):Calls Tryz.prog 294 #[.int .i64 n] w λe w'=>e=.returned (.int .i64 (sgnV n))/\w=w':=by
 unfold sgnV;by_cases h:n<0
 .rw[if_pos h];go_enter Tryz.func294,Tryz.ntmps294;go_wp2;go_ret;exact⟨rfl,rfl⟩
 .rw[if_neg h];by_cases h':0<n
  .rw[if_pos h'];go_enter Tryz.func294,Tryz.ntmps294;go_wp2;go_ret;exact⟨rfl,rfl⟩
  .rw[if_neg h'];go_enter Tryz.func294,Tryz.ntmps294;go_wp2;go_ret;exact⟨rfl,rfl⟩
theorem bz{n:Nat}(h:n≠0):Nat.beq n 0=false:=by
 cases n with
 |zero=>exact absurd rfl h
 |succ n=>rfl
theorem pC(w:World)(o:Obj):(w.alloc o).heap[w.heap.size]?=some o:=by unfold World.alloc;simp
def MakesN(n:Nat)(z:Bool)(w:World)(e:Ending)(w':World):Prop:=(∃A m c,e=.returned (.slice A m c)/\NumN w.heap.size w' (.slice A m c) n z)/\RowKit.Below w.heap.size w w'
theorem NumN.nil(B:Nat)(w:World):NumN B w (.slice none 0 0) 0 true:=⟨⟨none,0,0,rfl,{len:=rfl,cap:=Nat.le_refl _,max:=by omega,lim:=λa ha=>(by cases ha),cells:=λh=>absurd h (by omega)},λ_=>⟨rfl,rfl⟩,λh=>(by cases h)⟩,λh=>absurd h (by omega)⟩
theorem NumN.one{B:Nat}{w:World}{b n:Nat}{cs:Array Value}{T:TypeId}(hB:B<=b)(hblk:w.heap[b]?=some (.cells cs T (0,0)))(hs:1<=cs.size)(h0:0<n)(h1:n<4294967296)(h:w.cell? ⟨b,0,none⟩=some (.int .u32 n)):NumN B w (.slice (some ⟨b,0,none⟩) 1 1) n false:=
 ⟨⟨some ⟨b,0,none⟩,1,1,rfl,{len:=by rw[aW h0 h1];rfl,cap:=Nat.le_refl _,max:=by omega,lim:=dQ n,cells:=λ_=>⟨b,0,rfl,(Array.getElem?_eq_some_iff.1 hblk).1,λi hi=>by
  simp only[aW h0 h1]at hi⊢;have:i=0:=by simpa using hi
  subst this
  exact h⟩},λh=>(by cases h),λ_=>⟨_,rfl⟩⟩,λ_=>⟨_,_,_,rfl,⟨b,0,cs,T,rfl,hB,hblk,by omega⟩⟩⟩
theorem NumN.two{B:Nat}{w:World}{b n:Nat}{cs:Array Value}{T:TypeId}(hB:B<=b)(hblk:w.heap[b]?=some (.cells cs T (0,0)))(hs:2<=cs.size)(h0:4294967296<=n)(h1:n<18446744073709551616)(h:w.cell? ⟨b,0,none⟩=some (.int .u32 (n%4294967296:Nat)))(h':w.cell? ⟨b,1,none⟩=some (.int .u32 (n/4294967296:Nat))):NumN B w (.slice (some ⟨b,0,none⟩) 2 2) n false:=
 ⟨⟨some ⟨b,0,none⟩,2,2,rfl,{len:=by rw[dR h0 h1];rfl,cap:=Nat.le_refl _,max:=by omega,lim:=dQ n,cells:=λ_=>⟨b,0,rfl,(Array.getElem?_eq_some_iff.1 hblk).1,λi hi=>by
  simp only[dR h0 h1]at hi⊢;have:i=0\/i=1:=by simp at hi;omega
  rcases this with rfl|rfl
  .exact h
  .exact h'⟩},λh=>(by cases h),λ_=>⟨_,rfl⟩⟩,λ_=>⟨_,_,_,rfl,⟨b,0,cs,T,rfl,hB,hblk,by omega⟩⟩⟩
theorem pD:(Tryz.prog.info? 164).map (λi=>(i.zero,i.size,i.bytes))=some (some (.int .u32 0),1,4):=by kernel_rfl
theorem ep(n:Nat)(w:World)(hn:n<18446744073709551616):Calls Tryz.prog 141 #[.int .u64 n] w (MakesN n (Nat.beq n 0) w):=by
 have HN:=Lib.hid hn;clear hn;by_cases h0:n=0
 .subst h0;go_enter Tryz.func141,Tryz.ntmps141;go_wp2;go_ret;exact⟨⟨_,_,_,rfl,.nil _ w⟩,.refl _ _⟩
 .have hz:((n:Int)==0)=false:=beq_false_of_ne (by omega);by_cases h1:n<4294967296
  .have h2:decide ((n:Int)<4294967296)=true:=decide_eq_true (by omega);have h3:IntKind.u32.wrap (n:Int)=n:=by rw[IntKind.wrap_u32];omega
   have H1:=Lib.hid h1;clear h1;go_enter Tryz.func141,Tryz.ntmps141;go_wp2;go_ret;rw[show Nat.beq n 0=false from bz h0];exact⟨⟨_,_,_,rfl,.one (Nat.le_refl _) (pC _ _) (Nat.le_refl _) (by omega) H1.out ((World.cell?_alloc_at _ _ _ _ rfl).trans rfl)⟩,(RowKit.Below.refl _ _).alloc (Nat.le_refl _) _⟩
  .have h2:decide ((n:Int)<4294967296)=false:=decide_eq_false (by omega);have H1:=Lib.hid h1;clear h1;go_enter Tryz.func141,Tryz.ntmps141;go_wp2;go_ret;have hn:=HN.out;have e1:((n:Int)%4294967296)=((n%4294967296:Nat):Int):=(Int.natCast_emod n 4294967296).symm;have e2:((n:Int)/4294967296%4294967296)=((n/4294967296:Nat):Int):=by rw[Int.natCast_ediv];omega
   rw[show Nat.beq n 0=false from bz h0];refine⟨⟨_,_,_,rfl,.two (Nat.le_refl _) (pC _ _) (Nat.le_refl _) (by have:=H1.out;omega) hn ((World.cell?_alloc_at _ _ _ _ rfl).trans ?_) ((World.cell?_alloc_at _ _ _ _ rfl).trans ?_)⟩,(RowKit.Below.refl _ _).alloc (Nat.le_refl _) _⟩
   .rw[<-e1];rfl
   .rw[<-e2];rfl
end Go.BI
namespace Go.BI
open Go Go.RowKit
def cellsOf(l:List Nat):Array Value:=(l.map λ(d:Nat)=>Value.int .u32 (d:Int)).toArray
def Blk(w:World)(T g:Nat)(l:List Nat):Prop:=w.heap[g]?=some (.cells (cellsOf l) T (0,0))
theorem Blk.lt{w:World}{T g:Nat}{l:List Nat}(h:Blk w T g l):g<w.heap.size:=(Array.getElem?_eq_some_iff.1 h).1
theorem Blk.cell{w:World}{T g:Nat}{l:List Nat}(h:Blk w T g l){i:Nat}(hi:i<l.length):w.cell? ⟨g,i,none⟩=some (.int .u32 (l[i]:Nat)):=by unfold Blk at h;simp only[World.cell?,h];unfold cellsOf;simp[hi]
theorem Blk.cell0{w:World}{T g:Nat}{l:List Nat}(h:Blk w T g l){i:Nat}(hi:i<l.length):w.cell? ⟨g,0+i,none⟩=some (.int .u32 (l[i]:Nat)):=by rw[Nat.zero_add];exact h.cell hi
theorem Blk.free{w:World}{T g:Nat}{l:List Nat}(h:Blk w T g l)(i:Nat):w.frozen? ⟨g,i,none⟩=false:=by unfold Blk at h;simp[World.frozen?,h]
theorem Blk.set{w:World}{T g:Nat}{l:List Nat}(h:Blk w T g l)(i d:Nat):Blk (w.setCell ⟨g,i,none⟩ (.int .u32 (d:Int))) T g (l.set i d):=by unfold Blk at h⊢;simp only[World.setCell,Array.getElem?_modify,h];simp[cellsOf]
theorem Blk.new(w:World)(T:Nat)(l:List Nat):Blk (w.alloc (.cells (cellsOf l) T)) T w.heap.size l:=by unfold Blk World.alloc;simp
theorem Blk.drewN{w:World}{T g:Nat}{l:List Nat}(h:Blk w T g l)(n:Nat):Blk (w.drewN n) T g l:=h
theorem Blk.below{w w':World}{T g B:Nat}{l:List Nat}(h:Blk w T g l)(hb:Below B w w')(hg:g<B):Blk w' T g l:=(hb.block g hg).trans h
theorem fq{w w':World}{B g i:Nat}{u:Value}(h:Below B w w')(hg:B<=g):Below B w (w'.setCell ⟨g,i,none⟩ u):=
 ⟨h.os,h.tape,h.output,by show w.heap.size<=(w'.heap.modify _ _).size;rw[Array.size_modify];exact h.size,λk hk=>by
  show(w'.heap.modify g _)[k]?=_;rw[Array.getElem?_modify,if_neg (by omega)]
  exact h.block k hk⟩
theorem x8(n:Nat):madeCells (Value.int .u32 0).cells (n*1)=cellsOf (List.replicate n 0):=by
 unfold cellsOf madeCells;apply Array.ext
 .simp[Value.cells]
 .intro i h1 h2;simp[Value.cells,Nat.mod_one]
end Go.BI
namespace Go.BI
theorem pE{l r:List Nat}(hl:Lim l)(hr:Lim r)(ht:Top r)(h:l.length<r.length):val l<val r:=by
 have h1:val l<4294967296 ^ l.length:=eK hl;rcases Nat.lt_or_ge (val l) (val r)with h2|h2
 .exact h2
 .exfalso;have h3:(digs (val r)).length<=l.length:=f_.2 (by omega);rw[jC hr ht]at h3;omega
theorem pF(l:List Nat)(k:Nat)(h:k<=l.length):val l=val (l.take k)+4294967296 ^ k*val (l.drop k):=by
 have:=mj (l.take k) (l.drop k)
 rwa [List.take_append_drop,List.length_take_of_le h]at this
theorem pG{l r:List Nat}(hl:Lim l){k:Nat}(h1:k<l.length)(h2:k<r.length)(hd:l.drop (k+1)=r.drop (k+1))(hlt:l[k]<r[k]):val l<val r:=by
 rw[pF l (k+1) h1,pF r (k+1) h2,hd,cU h1,cU h2]
 have h3:val (l.take k)<4294967296 ^ k:=by
  have:=eK (hl.take k)
  rwa [List.length_take_of_le (Nat.le_of_lt h1)]at this
 have h4:4294967296 ^ k*(l[k]+1)<=4294967296 ^ k*r[k]:=Nat.mul_le_mul_left _ hlt;rw[Nat.mul_add,Nat.mul_one]at h4;omega
theorem x9{l r:List Nat}{k:Nat}(h1:k<l.length)(h2:k<r.length)(hd:l.drop (k+1)=r.drop (k+1))(h:l[k]=r[k]):l.drop k=r.drop k:=by rw[List.drop_eq_getElem_cons h1,List.drop_eq_getElem_cons h2,hd,h]
def dig(l:List Nat)(k:Nat):Nat:=l.getD k 0
theorem et{l:List Nat}(h:Lim l)(k:Nat):dig l k<4294967296:=by
 unfold dig;rw[List.getD_eq_getElem?_getD];cases hq:l[k]? with
 |none=>decide
 |some a=>exact h a (List.mem_of_getElem? hq)
theorem bI{l:List Nat}{k:Nat}(h:k<l.length):dig l k=l[k]:=by unfold dig;rw[List.getD_eq_getElem?_getD,List.getElem?_eq_getElem h];rfl
theorem iE{l:List Nat}{k:Nat}(h:l.length<=k):dig l k=0:=by unfold dig;rw[List.getD_eq_getElem?_getD,List.getElem?_eq_none h];rfl
theorem iF(l:List Nat)(k:Nat):val (l.take (k+1))=val (l.take k)+4294967296 ^ k*dig l k:=by
 by_cases h:k<l.length
 .rw[cU h,bI h]
 .rw[List.take_of_length_le (by omega),List.take_of_length_le (by omega),iE (by omega)];simp
theorem kX(n:Nat):Lim (List.replicate n 0):=λa ha=>by rw[List.eq_of_mem_replicate ha];decide
theorem ft{l:List Nat}(h:Lim l){i d:Nat}(hd:d<4294967296):Lim (l.set i d):=λa ha=>by
 rcases List.mem_or_eq_of_mem_set ha with h1|rfl
 .exact h a h1
 .exact hd
theorem take_set_of_le{l:List Nat}{k i d:Nat}(h:k<=i):(l.set i d).take k=l.take k:=by rw[List.take_set,List.set_eq_of_length_le];rw[List.length_take];omega
theorem pH{l r o:List Nat}{k c s d:Nat}(hk:k<o.length)(h:val (o.take k)+4294967296 ^ k*c=val (l.take k)+val (r.take k))(hs:s+4294967296*d=dig l k+dig r k+c):val ((o.set k s).take (k+1))+4294967296 ^ (k+1)*d=val (l.take (k+1))+val (r.take (k+1)):=by
 rw[iF l,iF r,cU (by rw[List.length_set];exact hk),take_set_of_le (Nat.le_refl _),List.getElem_set_self,Nat.pow_succ];have e:4294967296 ^ k*(s+4294967296*d)=4294967296 ^ k*(dig l k+dig r k+c):=by rw[hs]
 rw[Nat.mul_add,Nat.mul_add,Nat.mul_add,<-Nat.mul_assoc]at e;omega
theorem x_{l r o:List Nat}{k c s d:Nat}(hk:k<o.length)(h:val (o.take k)+val (r.take k)=val (l.take k)+4294967296 ^ k*c)(hs:s+dig r k+c=dig l k+4294967296*d):val ((o.set k s).take (k+1))+val (r.take (k+1))=val (l.take (k+1))+4294967296 ^ (k+1)*d:=by
 rw[iF l,iF r,cU (by rw[List.length_set];exact hk),take_set_of_le (Nat.le_refl _),List.getElem_set_self,Nat.pow_succ];have e:4294967296 ^ k*(s+dig r k+c)=4294967296 ^ k*(dig l k+4294967296*d):=by rw[hs]
 rw[Nat.mul_add,Nat.mul_add,Nat.mul_add,<-Nat.mul_assoc]at e;omega
end Go.BI
namespace Go.BI
open Go Go.RowKit Go.Proofs
theorem kY{w:World}{g n:Nat}{l:List Nat}(h:Blk w 164 g l)(hn:l.length=n)(hm:n<=1000000)(hl:Lim l):Digs w (some ⟨g,0,none⟩) n n l:={len:=hn,cap:=Nat.le_refl _,max:=hm,lim:=hl,cells:=λ_=>⟨g,0,rfl,h.lt,λ_ hi=>h.cell0 hi⟩}
theorem kZ{w:World}{B g n:Nat}{l:List Nat}(h:Blk w 164 g l)(hB:B<=g)(hn:n<=l.length):Own B w (some ⟨g,0,none⟩) n n:=⟨g,0,_,_,rfl,hB,h,by unfold cellsOf;simpa using hn⟩
theorem k_(w:World)(n:Nat)(h:n<=1000001):(Instr.makeSlice 48 (.int .i64 (n:Int)) (.int .i64 (n:Int))).run Tryz.prog w=.ok (.slice (some ⟨w.heap.size,0,none⟩) n n) (w.alloc (.cells (cellsOf (List.replicate n 0)) 164)):=by obtain⟨i,hi,hz,hs,hb⟩:=info_parts pD;have hr:=run_makeSlice (P:=Tryz.prog) w 48 164 i (.int .u32 0) Tryz.underlying48 hi hz .i64 .i64 n n (by omega) (Int.le_refl _) (by rw[hs,Int.toNat_natCast];omega) (by rw[hb];omega) (by omega);rw[hs,Int.toNat_natCast,x8]at hr;exact hr
def PlusRel(w:World)(l r:List Nat)(n:Nat)(cy i:Value)(wr:World):Prop:=∃k c:Nat,∃o:List Nat,k<=n/\i=.int .i64 k/\cy=.int .u32 c/\c<=1/\o.length=n+1/\Lim o/\val (o.take k)+4294967296 ^ k*c=val (l.take k)+val (r.take k)/\Blk wr 164 w.heap.size o/\RowKit.Below w.heap.size w wr
def MakesDigs(n:Nat)(w:World)(e:Ending)(w':World):Prop:=(∃A m c o,e=.returned (.slice A m c)/\Digs w' A m c o/\val o=n/\Own w.heap.size w' A m c)/\RowKit.Below w.heap.size w w'
theorem ya(A B:Option Addr)(n m c d:Nat)(l r:List Nat)(w:World)(ha:Digs w A n c l)(hb:Digs w B m d r)(hnm:m<=n)(hn:n<1000000):Calls Tryz.prog 264 #[.slice A n c,.slice B m d] w (MakesDigs (val l+val r) w):=by
 have hmk:∀w:World,(Instr.makeSlice 48 (.int .i64 ((n:Int)+1)) (.int .i64 ((n:Int)+1))).run Tryz.prog w=.ok (.slice (some ⟨w.heap.size,0,none⟩) (n+1) (n+1)) (w.alloc (.cells (cellsOf (List.replicate (n+1) 0)) 164)):=λw=>k_ w (n+1) (by omega)
 have hlt:decide (n<m)=false:=decide_eq_false (by omega);go_enter Tryz.func264,Tryz.ntmps264;go_wp2;clear hmk hlt
 go_loopw [6,23] (λcy i wr=>PlusRel w l r n cy i wr) (λ_ i _=>n-(intOf i).toNat)
 case atStart=>exact⟨0,0,List.replicate (n+1) 0,Nat.zero_le _,rfl,rfl,by omega,List.length_replicate,kX _,by simp[val],.new _ _ _,(RowKit.Below.refl _ _).alloc (Nat.le_refl _) _⟩
 case round=>
  obtain⟨k,cc,o,hk,rfl,rfl,hcc,ho,hlo,hv,hblk,hbel⟩:=hrel;have HV:=Lib.hid hv;clear hv;have HO:=Lib.hid ho;clear ho;have HB:=Lib.hid hblk;have hfr:=hblk.free k;have hfn:=hblk.free n;have hck:wr.cell? ⟨w.heap.size,k,none⟩=some (.int .u32 (dig o k:Nat)):=by rw[bI (by rw[HO.out];omega)];exact hblk.cell (by rw[HO.out];omega)
  have hcn:wr.cell? ⟨w.heap.size,n,none⟩=some (.int .u32 (dig o n:Nat)):=by rw[bI (by rw[HO.out];omega)];exact hblk.cell (by rw[HO.out];omega)
  clear hblk;have hdl:=et ha.lim k;have hdr:=et hb.lim k;have HBL:=Lib.hid hbel;by_cases hkn:k<n
  .obtain⟨bA,oA,rfl,hltA,hcA⟩:=ha.cells (by omega);have hcl:wr.cell? ⟨bA,oA+k,none⟩=some (.int .u32 (dig l k:Nat)):=by rw[bI (by rw[ha.len];exact hkn)];exact(hbel.cell (p:=⟨bA,oA+k,none⟩) hltA).trans (hcA k (by rw[ha.len];exact hkn))
   have HA:=Lib.hid ha;clear ha hcA;have fin:∀(s d:Nat),s+4294967296*d=dig l k+dig r k+cc->s<4294967296->d<=1->PlusRel w l r n (.int .u32 d) (.int .i64 ((k:Int)+1)) (wr.setCell ⟨w.heap.size,k,none⟩ (.int .u32 s)):=λs d h1 h2 h3=>⟨k+1,d,o.set k s,hkn,by rfl,rfl,h3,by rw[List.length_set];exact HO.out,ft hlo h2,pH (by rw[HO.out];omega) HV.out h1,HB.out.set k s,fq HBL.out (Nat.le_refl _)⟩
   have FIN:=Lib.hid fin;clear fin;by_cases hkm:k<m
   .obtain⟨bB,oB,rfl,hltB,hcB⟩:=hb.cells (by omega);have hcr:wr.cell? ⟨bB,oB+k,none⟩=some (.int .u32 (dig r k:Nat)):=by rw[bI (by rw[hb.len];exact hkm)];exact(hbel.cell (p:=⟨bB,oB+k,none⟩) hltB).trans (hcB k (by rw[hb.len];exact hkm))
    have HB2:=Lib.hid hb;clear hb hcB hbel;go_wp2_with fail;refine(iD _ _ _ _ hdl hdr hcc).mono ?_;rintro e w' ⟨⟨s,d,rfl,h1,h2,h3⟩,rfl⟩;go_wp2
    go_roundw
    case rel=>exact FIN.out s d h1 h2 h3
    case measure=>simp[intOf];omega
   .have h0:dig r k=0:=iE (by rw[hb.len];omega);have HB2:=Lib.hid hb;clear hb hbel;go_wp2_with fail;refine(iD _ 0 _ _ hdl (by decide) hcc).mono ?_;rintro e w' ⟨⟨s,d,rfl,h1,h2,h3⟩,rfl⟩;go_wp2
    go_roundw
    case rel=>exact FIN.out s d (by rw[h0];exact h1) h2 h3
    case measure=>simp[intOf];omega
  .have hkn':k=n:=by omega
   subst hkn';have HA:=Lib.hid ha;clear ha;have HB2:=Lib.hid hb;clear hb hbel;go_wp2;go_ret;refine⟨⟨_,_,_,o.set k cc,rfl,kY (HB.out.set k cc) (by rw[List.length_set];exact HO.out) (by omega) (ft hlo (by omega)),?_,?_⟩,fq HBL.out (Nat.le_refl _)⟩
   .have h:=HV.out;rw[List.take_of_length_le (l:=l) (by rw[HA.out.len];exact Nat.le_refl _),List.take_of_length_le (l:=r) (by rw[HB2.out.len];exact hnm)]at h;rw[<-h,<-List.take_of_length_le (l:=o.set k cc) (i:=k+1) (by rw[List.length_set,HO.out];exact Nat.le_refl _),cU (by rw[List.length_set,HO.out];omega),take_set_of_le (Nat.le_refl _),List.getElem_set_self]
   .exact kZ (HB.out.set k cc) (Nat.le_refl _) (by rw[List.length_set,HO.out];exact Nat.le_refl _)
theorem yb(A B:Option Addr)(n m c d:Nat)(l r:List Nat)(w:World)(ha:Digs w A n c l)(hb:Digs w B m d r)(hlt0:m<n)(hn:n<1000000):Calls Tryz.prog 264 #[.slice B m d,.slice A n c] w (MakesDigs (val l+val r) w):=by
 have hnm:m<=n:=Nat.le_of_lt hlt0;have hmk:∀w:World,(Instr.makeSlice 48 (.int .i64 ((n:Int)+1)) (.int .i64 ((n:Int)+1))).run Tryz.prog w=.ok (.slice (some ⟨w.heap.size,0,none⟩) (n+1) (n+1)) (w.alloc (.cells (cellsOf (List.replicate (n+1) 0)) 164)):=λw=>k_ w (n+1) (by omega)
 have hlt:decide (m<n)=true:=decide_eq_true (by omega);go_enter Tryz.func264,Tryz.ntmps264;go_wp2;clear hmk hlt hlt0
 go_loopw [6,23] (λcy i wr=>PlusRel w l r n cy i wr) (λ_ i _=>n-(intOf i).toNat)
 case atStart=>exact⟨0,0,List.replicate (n+1) 0,Nat.zero_le _,rfl,rfl,by omega,List.length_replicate,kX _,by simp[val],.new _ _ _,(RowKit.Below.refl _ _).alloc (Nat.le_refl _) _⟩
 case round=>
  obtain⟨k,cc,o,hk,rfl,rfl,hcc,ho,hlo,hv,hblk,hbel⟩:=hrel;have HV:=Lib.hid hv;clear hv;have HO:=Lib.hid ho;clear ho;have HB:=Lib.hid hblk;have hfr:=hblk.free k;have hfn:=hblk.free n;have hck:wr.cell? ⟨w.heap.size,k,none⟩=some (.int .u32 (dig o k:Nat)):=by rw[bI (by rw[HO.out];omega)];exact hblk.cell (by rw[HO.out];omega)
  have hcn:wr.cell? ⟨w.heap.size,n,none⟩=some (.int .u32 (dig o n:Nat)):=by rw[bI (by rw[HO.out];omega)];exact hblk.cell (by rw[HO.out];omega)
  clear hblk;have hdl:=et ha.lim k;have hdr:=et hb.lim k;have HBL:=Lib.hid hbel;by_cases hkn:k<n
  .obtain⟨bA,oA,rfl,hltA,hcA⟩:=ha.cells (by omega);have hcl:wr.cell? ⟨bA,oA+k,none⟩=some (.int .u32 (dig l k:Nat)):=by rw[bI (by rw[ha.len];exact hkn)];exact(hbel.cell (p:=⟨bA,oA+k,none⟩) hltA).trans (hcA k (by rw[ha.len];exact hkn))
   have HA:=Lib.hid ha;clear ha hcA;have fin:∀(s d:Nat),s+4294967296*d=dig l k+dig r k+cc->s<4294967296->d<=1->PlusRel w l r n (.int .u32 d) (.int .i64 ((k:Int)+1)) (wr.setCell ⟨w.heap.size,k,none⟩ (.int .u32 s)):=λs d h1 h2 h3=>⟨k+1,d,o.set k s,hkn,by rfl,rfl,h3,by rw[List.length_set];exact HO.out,ft hlo h2,pH (by rw[HO.out];omega) HV.out h1,HB.out.set k s,fq HBL.out (Nat.le_refl _)⟩
   have FIN:=Lib.hid fin;clear fin;by_cases hkm:k<m
   .obtain⟨bB,oB,rfl,hltB,hcB⟩:=hb.cells (by omega);have hcr:wr.cell? ⟨bB,oB+k,none⟩=some (.int .u32 (dig r k:Nat)):=by rw[bI (by rw[hb.len];exact hkm)];exact(hbel.cell (p:=⟨bB,oB+k,none⟩) hltB).trans (hcB k (by rw[hb.len];exact hkm))
    have HB2:=Lib.hid hb;clear hb hcB hbel;go_wp2_with fail;refine(iD _ _ _ _ hdl hdr hcc).mono ?_;rintro e w' ⟨⟨s,d,rfl,h1,h2,h3⟩,rfl⟩;go_wp2
    go_roundw
    case rel=>exact FIN.out s d h1 h2 h3
    case measure=>simp[intOf];omega
   .have h0:dig r k=0:=iE (by rw[hb.len];omega);have HB2:=Lib.hid hb;clear hb hbel;go_wp2_with fail;refine(iD _ 0 _ _ hdl (by decide) hcc).mono ?_;rintro e w' ⟨⟨s,d,rfl,h1,h2,h3⟩,rfl⟩;go_wp2
    go_roundw
    case rel=>exact FIN.out s d (by rw[h0];exact h1) h2 h3
    case measure=>simp[intOf];omega
  .have hkn':k=n:=by omega
   subst hkn';have HA:=Lib.hid ha;clear ha;have HB2:=Lib.hid hb;clear hb hbel;go_wp2;go_ret;refine⟨⟨_,_,_,o.set k cc,rfl,kY (HB.out.set k cc) (by rw[List.length_set];exact HO.out) (by omega) (ft hlo (by omega)),?_,?_⟩,fq HBL.out (Nat.le_refl _)⟩
   .have h:=HV.out;rw[List.take_of_length_le (l:=l) (by rw[HA.out.len];exact Nat.le_refl _),List.take_of_length_le (l:=r) (by rw[HB2.out.len];exact hnm)]at h;rw[<-h,<-List.take_of_length_le (l:=o.set k cc) (i:=k+1) (by rw[List.length_set,HO.out];exact Nat.le_refl _),cU (by rw[List.length_set,HO.out];omega),take_set_of_le (Nat.le_refl _),List.getElem_set_self]
   .exact kZ (HB.out.set k cc) (Nat.le_refl _) (by rw[List.length_set,HO.out];exact Nat.le_refl _)
def LessRel(w:World)(l r:List Nat)(n:Nat)(cy i:Value)(wr:World):Prop:=∃k c:Nat,∃o:List Nat,k<=n/\i=.int .i64 k/\cy=.int .u32 c/\c<=1/\o.length=n/\Lim o/\val (o.take k)+val (r.take k)=val (l.take k)+4294967296 ^ k*c/\Blk wr 164 w.heap.size o/\RowKit.Below w.heap.size w wr
theorem pI(A B:Option Addr)(n m c d:Nat)(l r:List Nat)(w:World)(ha:Digs w A n c l)(hb:Digs w B m d r)(hnm:m<=n)(hv0:val r<=val l)(hn:n<1000000):Calls Tryz.prog 266 #[.slice A n c,.slice B m d] w (MakesDigs (val l-val r) w):=by
 have hmk:∀w:World,(Instr.makeSlice 48 (.int .i64 (n:Int)) (.int .i64 (n:Int))).run Tryz.prog w=.ok (.slice (some ⟨w.heap.size,0,none⟩) n n) (w.alloc (.cells (cellsOf (List.replicate n 0)) 164)):=λw=>k_ w n (by omega)
 have HV0:=Lib.hid hv0;clear hv0;go_enter Tryz.func266,Tryz.ntmps266;go_wp2;clear hmk
 go_loopw [6,15] (λcy i wr=>LessRel w l r n cy i wr) (λ_ i _=>n-(intOf i).toNat)
 case atStart=>exact⟨0,0,List.replicate n 0,Nat.zero_le _,rfl,rfl,by omega,List.length_replicate,kX _,by simp[val],.new _ _ _,(RowKit.Below.refl _ _).alloc (Nat.le_refl _) _⟩
 case round=>
  obtain⟨k,cc,o,hk,rfl,rfl,hcc,ho,hlo,hv,hblk,hbel⟩:=hrel;have HV:=Lib.hid hv;clear hv;have HO:=Lib.hid ho;clear ho;have HB:=Lib.hid hblk;have hfr:=hblk.free k;have hck0:k<n->wr.cell? ⟨w.heap.size,k,none⟩=some (.int .u32 (dig o k:Nat)):=λhkn=>by rw[bI (by rw[HO.out];omega)];exact hblk.cell (by rw[HO.out];omega)
  clear hblk;have hdl:=et ha.lim k;have hdr:=et hb.lim k;have HBL:=Lib.hid hbel;by_cases hkn:k<n
  .have hck:=hck0 hkn;clear hck0;obtain⟨bA,oA,rfl,hltA,hcA⟩:=ha.cells (by omega);have hcl:wr.cell? ⟨bA,oA+k,none⟩=some (.int .u32 (dig l k:Nat)):=by rw[bI (by rw[ha.len];exact hkn)];exact(hbel.cell (p:=⟨bA,oA+k,none⟩) hltA).trans (hcA k (by rw[ha.len];exact hkn))
   have HA:=Lib.hid ha;clear ha hcA;have fin:∀(s d:Nat),s+dig r k+cc=dig l k+4294967296*d->s<4294967296->d<=1->LessRel w l r n (.int .u32 d) (.int .i64 ((k:Int)+1)) (wr.setCell ⟨w.heap.size,k,none⟩ (.int .u32 s)):=λs d h1 h2 h3=>⟨k+1,d,o.set k s,hkn,by rfl,rfl,h3,by rw[List.length_set];exact HO.out,ft hlo h2,x_ (by rw[HO.out];omega) HV.out h1,HB.out.set k s,fq HBL.out (Nat.le_refl _)⟩
   have FIN:=Lib.hid fin;clear fin;by_cases hkm:k<m
   .obtain⟨bB,oB,rfl,hltB,hcB⟩:=hb.cells (by omega);have hcr:wr.cell? ⟨bB,oB+k,none⟩=some (.int .u32 (dig r k:Nat)):=by rw[bI (by rw[hb.len];exact hkm)];exact(hbel.cell (p:=⟨bB,oB+k,none⟩) hltB).trans (hcB k (by rw[hb.len];exact hkm))
    have HB2:=Lib.hid hb;clear hb hcB hbel;go_wp2_with fail;refine(pB _ _ _ _ hdl hdr hcc).mono ?_;rintro e w' ⟨⟨s,d,rfl,h1,h2,h3⟩,rfl⟩;go_wp2
    go_roundw
    case rel=>exact FIN.out s d h1 h2 h3
    case measure=>simp[intOf];omega
   .have h0:dig r k=0:=iE (by rw[hb.len];omega);have HB2:=Lib.hid hb;clear hb hbel;go_wp2_with fail;refine(pB _ 0 _ _ hdl (by decide) hcc).mono ?_;rintro e w' ⟨⟨s,d,rfl,h1,h2,h3⟩,rfl⟩;go_wp2
    go_roundw
    case rel=>exact FIN.out s d (by rw[h0];exact h1) h2 h3
    case measure=>simp[intOf];omega
  .have hkn':k=n:=by omega
   subst hkn';have HA:=Lib.hid ha;clear ha hck0;have HB2:=Lib.hid hb;clear hb hbel;go_wp2;go_ret
   have hval:val o=val l-val r:=by
    have h:=HV.out;have hlim:=eK hlo;have h0:=HV0.out;rw[List.take_of_length_le (l:=l) (by rw[HA.out.len];exact Nat.le_refl _),List.take_of_length_le (l:=r) (by rw[HB2.out.len];exact hnm),List.take_of_length_le (l:=o) (by rw[HO.out];exact Nat.le_refl _)]at h;rw[HO.out]at hlim;have:cc=0\/cc=1:=by omega
    rcases this with rfl|rfl
    .rw[Nat.mul_zero]at h;omega
    .rw[Nat.mul_one]at h;omega
   exact⟨⟨_,_,_,o,rfl,kY HB.out HO.out (by omega) hlo,hval,kZ HB.out (Nat.le_refl _) (by rw[HO.out];exact Nat.le_refl _)⟩,HBL.out⟩
end Go.BI
namespace Go.BI
open Go Go.RowKit Go.Proofs
def CmpRel(l r:List Nat)(n:Nat)(w:World)(i:Value)(wr:World):Prop:=∃k q:Nat,k<=n/\i=.int .i64 ((k:Int)-1)/\l.drop k=r.drop k/\wr=w.drewN q
theorem pJ(w:World)(q a b:Nat):∃m,((w.drewN q).drewN a).drewN b=w.drewN m:=⟨q+(a+b),by rw[World.drewN_drewN,World.drewN_drewN]⟩
def cmpV(a b:Nat):Int:=if a<b then -1 else if b<a then 1 else 0
theorem iG(A B:Option Addr)(n m c d:Nat)(l r:List Nat)(w:World)(ha:Digs w A n c l)(hb:Digs w B m d r)(htl:Top l)(htr:Top r):Calls Tryz.prog 265 #[.slice A n c,.slice B m d] w λe w'=>e=.returned (.int .i64 (cmpV (val l) (val r)))/\∃q,w'=w.drewN q:=by
 have hmax:=ha.max;have hmax':=hb.max;by_cases hnm:n=m
 .subst hnm;have H1:=Lib.hid ha.len;have H2:=Lib.hid hb.len;go_enter Tryz.func265,Tryz.ntmps265;go_wp2
  go_loopw [5] (λi wr=>CmpRel l r n w i wr) (λi _=>(intOf i+1).toNat)
  case atStart=>exact⟨n,0,Nat.le_refl _,rfl,by rw[List.drop_of_length_le (by rw[H1.out];exact Nat.le_refl _),List.drop_of_length_le (by rw[H2.out];exact Nat.le_refl _)],rfl⟩
  case round=>
   obtain⟨k,q,hk,rfl,hd,rfl⟩:=hrel;have HD:=Lib.hid hd;clear hd;cases k with
   |zero=>
    have hlt:decide ((((0:Nat):Int)-1)>=0)=false:=by decide
    go_wp2;go_ret;have:=HD.out;rw[List.drop_zero,List.drop_zero]at this;subst this;have hc:cmpV (val l) (val l)=0:=by unfold cmpV;rw[if_neg (Nat.lt_irrefl _),if_neg (Nat.lt_irrefl _)]
    exact⟨by rw[hc];rfl,q,rfl⟩
   |succ k=>
    have hi:(((k+1:Nat):Int)-1)=(k:Int):=by omega
    rw[hi];obtain⟨bA,oA,rfl,hltA,hcA⟩:=ha.cells (by omega);obtain⟨bB,oB,rfl,hltB,hcB⟩:=hb.cells (by omega);have hkl:k<l.length:=by rw[H1.out];omega
    have hkr:k<r.length:=by rw[H2.out];omega
    have hcl:=hcA k hkl;have hcr:=hcB k hkr;have HL:=Lib.hid ha.lim;have HR:=Lib.hid hb.lim;clear hcA hcB ha hb;generalize hx:l[k]=x at *;generalize hy:r[k]=y at *;have HX:=Lib.hid hx;clear hx;have HY:=Lib.hid hy;clear hy;by_cases he:x=y
    .subst he;have hne:(((x:Nat):Int) !=(x:Nat))=false:=by simp
     go_wp2
     go_quiet (fail)
     go_wp2
     go_roundw
     case rel=>refine⟨k,q+nq,by omega,rfl,x9 hkl hkr HD.out (HX.out.trans HY.out.symm),rfl⟩
     case measure=>simp[intOf]
    .have hne:(((x:Nat):Int) !=(y:Nat))=true:=by simp;omega
     go_wp2
     go_quiet (fail)
     go_wp2
     go_quiet (fail)
     by_cases hlt:x<y
     .have hlt':decide (((x:Nat):Int)<(y:Nat))=true:=decide_eq_true (by omega);go_wp2;go_ret;have hc:cmpV (val l) (val r) = -1:=by unfold cmpV;rw[if_pos (pG HL.out hkl hkr HD.out (by rw[HX.out,HY.out];exact hlt))]
      exact⟨by rw[hc];rfl,pJ ..⟩
     .have hlt':decide (((x:Nat):Int)<(y:Nat))=false:=decide_eq_false (by omega);go_wp2;go_ret;have hgt:val r<val l:=pG HR.out hkr hkl HD.out.symm (by rw[HX.out,HY.out];omega);have hc:cmpV (val l) (val r)=1:=by unfold cmpV;rw[if_neg (by omega),if_pos hgt]
      exact⟨by rw[hc];rfl,pJ ..⟩
 .have hne:((n:Int) !=(m:Int))=true:=by simp;omega
  go_enter Tryz.func265,Tryz.ntmps265;go_wp2_with fail;refine(x7 _ _).mono ?_;rintro e w' ⟨rfl,rfl⟩
  have hc:sgnV ((n:Int)-m)=cmpV (val l) (val r):=by
   unfold cmpV sgnV;by_cases hlt:n<m
   .rw[if_pos (pE ha.lim hb.lim htr (by rw[ha.len,hb.len];exact hlt)),if_pos (by omega)]
   .have:=pE hb.lim ha.lim htl (by rw[ha.len,hb.len];omega);rw[if_neg (show¬(n:Int)-m<0 by omega),if_pos (show(0:Int)<(n:Int)-m by omega),if_neg (show¬val l<val r by omega),if_pos this]
  go_wp2;go_ret;exact⟨by rw[<-hc];rfl,0,rfl⟩
end Go.BI
namespace Go.BI
open Go Go.RowKit Go.Proofs
theorem yc(s:Bool):jSign s 0=false:=rfl
theorem fu{s:Bool}{n:Nat}(h:n≠0):jSign s n=s:=by unfold jSign;rw[bz h];rfl
theorem iH(s:Bool)(A:Option Addr)(n c:Nat)(l:List Nat)(w:World)(h:Digs w A n c l):Calls Tryz.prog 140 #[.bool s,.slice A n c] w λe w'=>(∃k,e=.returned (.agg #[.bool (jSign s (val l)),.slice A k c])/\k<=n/\l.take k=digs (val l))/\RowKit.Below w.heap.size w w':=by
 have hmax:=h.max;go_enter Tryz.func140,Tryz.ntmps140;go_wp2_with fail;refine(pn _ _ _ _ _ (h.below ((RowKit.Below.refl _ _).alloc (Nat.le_refl _) _))).mono ?_;rintro e w' ⟨⟨k,rfl,hk,hd⟩,rfl⟩;have HD:=Lib.hid hd;clear hd;by_cases h0:k=0
 .subst h0;have hv:jSign s (val l)=false:=by rw[eM.1 HD.out.symm];exact yc s
  cases s with
  |false=>
   go_wp2
   go_returns
   exact⟨⟨0,by rw[hv],Nat.zero_le _,HD.out⟩,by go_grown⟩
  |true=>
   go_wp2
   go_returns
   exact⟨⟨0,by rw[hv],Nat.zero_le _,HD.out⟩,by go_grown⟩
 .have hv:jSign s (val l)=s:=fu λe=>h0 (by
   have:=HD.out;rw[e,fY]at this;have:=congrArg List.length this;rw[List.length_take,h.len]at this;simp at this
   omega)
  have hpos:decide (0<k)=true:=decide_eq_true (by omega);cases s with
  |false=>
   go_wp2
   go_returns
   exact⟨⟨k,by rw[hv],hk,HD.out⟩,by go_grown⟩
  |true=>
   go_wp2
   go_returns
   exact⟨⟨k,by rw[hv],hk,HD.out⟩,by go_grown⟩
end Go.BI
namespace Go.BI
open Go Go.RowKit
theorem ax(w:World)(o:Obj):RowKit.Below w.heap.size w (w.alloc o):=(RowKit.Below.refl _ _).alloc (Nat.le_refl _) _
theorem aK(w:World)(o:Obj):(w.alloc o).heap.size=w.heap.size+1:=by unfold World.alloc;simp
theorem lf{w w2:World}{o:Obj}(hb:RowKit.Below (w.alloc o).heap.size (w.alloc o) w2):w2.heap[w.heap.size]?=some o:=by rw[hb.block _ (by rw[aK];omega)];unfold World.alloc;simp
theorem eu{w w2:World}{b:Nat}{o:Obj}(h:w.heap[b]?=some o)(hb:RowKit.Below w.heap.size w w2):w2.heap[b]?=some o:=(hb.block b (Array.getElem?_eq_some_iff.1 h).1).trans h
theorem aw{w:World}{b:Nat}{cs:Array Value}{T:TypeId}(h:w.heap[b]?=some (.cells cs T (0,0)))(o:Nat){v:Value}(hv:cs[o]?=some v):w.cell? ⟨b,o,none⟩=some v:=by simp[World.cell?,h,hv]
theorem cI{w:World}{b:Nat}{cs:Array Value}{T:TypeId}(h:w.heap[b]?=some (.cells cs T (0,0)))(o:Nat):w.frozen? ⟨b,o,none⟩=false:=by simp[World.frozen?,h]
structure Only(b:Nat)(w w':World):Prop where
 size:w'.heap.size=w.heap.size
 block:∀k,k≠b->w'.heap[k]?=w.heap[k]?
theorem Only.refl(b:Nat)(w:World):Only b w w:=⟨rfl,λ_ _=>rfl⟩
theorem Only.set{b:Nat}{w w':World}(h:Only b w w')(o:Nat)(u:Value):Only b w (w'.setCell ⟨b,o,none⟩ u):=
 ⟨by rw[<-h.size];show(w'.heap.modify _ _).size=_;rw[Array.size_modify],λk hk=>by
  show(w'.heap.modify b _)[k]?=_;rw[Array.getElem?_modify,if_neg (λe=>hk e.symm)]
  exact h.block k hk⟩
theorem Only.drew{b:Nat}{w w':World}(h:Only b w w')(n:Nat):Only b w (w'.drewN n):=⟨h.size,h.block⟩
theorem Digs.only{B b:Nat}{w w':World}{A:Option Addr}{n c:Nat}{l:List Nat}(h:Digs w A n c l)(hb:∀g o,A=some ⟨g,o,none⟩->0<n->B<=g)(hB:b<B)(ho:Only b w w'):Digs w' A n c l:=
 ⟨h.len,h.cap,h.max,h.lim,λhn=>by
  obtain⟨g,o,e,hlt,hc⟩:=h.cells hn;have hg:=hb g o e hn;refine⟨g,o,e,by rw[ho.size];exact hlt,λi hi=>?_⟩;rw[<-hc i hi]
  exact World.cell?_of_block (ho.block g (by omega))⟩
theorem NumN.fresh{B:Nat}{w:World}{A:Option Addr}{m c n:Nat}{z:Bool}(h:NumN B w (.slice A m c) n z):∀g o,A=some ⟨g,o,none⟩->0<m->B<=g:=by
 intro g o e hm;subst e;obtain⟨A',m',c',e',hd,_⟩:=h.num.is;cases e'
 have hn:0<n:=by
  rcases Nat.eq_zero_or_pos n with rfl|h'
  .exact absurd hd.len (by rw[fY];simp;omega)
  .exact h'
 obtain⟨A',m',c',e',ho⟩:=h.own hn;cases e';obtain⟨g',o',cs,T,e',hB,_⟩:=ho.blk;cases e';exact hB
theorem NumN.only{B b:Nat}{w w':World}{A:Option Addr}{m c n:Nat}{z:Bool}(h:NumN B w (.slice A m c) n z)(hB:b<B)(ho:Only b w w'):NumN B w' (.slice A m c) n z:=by have hf:=h.fresh;obtain⟨A',m',c',e,hd,h1,h2⟩:=h.num.is;cases e;refine⟨⟨_,_,_,rfl,hd.only hf hB ho,h1,h2⟩,λhn=>?_⟩;obtain⟨A',m',c',e,hw⟩:=h.own hn;cases e;obtain⟨g,o,cs,T,e,hg,hb,hs⟩:=hw.blk;exact⟨_,_,_,rfl,⟨g,o,cs,T,e,hg,(ho.block g (by omega)).trans hb,hs⟩⟩
theorem cq{w:World}{b:Nat}{x y:Value}{T:TypeId}(h:w.heap[b]?=some (.cells #[x,y] T (0,0)))(X Y:Value):((w.setCell ⟨b,0,none⟩ X).setCell ⟨b,1,none⟩ Y).heap[b]?=some (.cells #[X,Y] T (0,0)):=by simp only[World.setCell,Array.getElem?_modify,h];simp
theorem iI{w:World}{b:Nat}{x y z u:Value}{T:TypeId}(h:w.heap[b]?=some (.cells #[x,y,z,u] T (0,0)))(X Y Z U:Value):((((w.setCell ⟨b,0,none⟩ X).setCell ⟨b,1,none⟩ Y).setCell ⟨b,2,none⟩ Z).setCell ⟨b,3,none⟩ U).heap[b]?=some (.cells #[X,Y,Z,U] T (0,0)):=by simp only[World.setCell,Array.getElem?_modify,h];simp
structure Env(w:World)(bx:List (Array Value×TypeId))(W:World):Prop where
 below:RowKit.Below w.heap.size w W
 size:w.heap.size+bx.length<=W.heap.size
 box:∀i cs T,bx[i]?=some (cs,T)->W.heap[w.heap.size+i]?=some (.cells cs T (0,0))
theorem Env.nil(w:World):Env w [] w:=⟨.refl _ _,Nat.le_refl _,λi _ _ h=>(by cases h)⟩
theorem Env.one{w:World}{cs:Array Value}{T:TypeId}:Env w [(cs,T)] (w.alloc (.cells cs T)):=
 ⟨ax _ _,by rw[aK];exact Nat.le_refl _,λi cs' T' h=>by
  match i,h with
  |0,h=>cases h;unfold World.alloc;simp⟩
theorem Env.push{w W:World}{bx:List (Array Value×TypeId)}(h:Env w bx W)(hs:W.heap.size=w.heap.size+bx.length)(cs:Array Value)(T:TypeId):Env w (bx++[(cs,T)]) (W.alloc (.cells cs T)):=
 ⟨h.below.alloc (by omega) _,by rw[aK,List.length_append,hs];exact Nat.le_refl _,λi cs' T' h'=>by
  rcases Nat.lt_or_ge i bx.length with hl|hg
  .rw[List.getElem?_append_left hl]at h';rw[<-h.box i cs' T' h'];unfold World.alloc;simp only[Array.getElem?_push];rw[if_neg (by omega)]
  .rw[List.getElem?_append_right hg]at h'
   have hi:i-bx.length=0:=by
    rcases Nat.eq_zero_or_pos (i-bx.length)with h0|h0
    .exact h0
    .rw[List.getElem?_eq_none (by simp;omega)]at h';cases h'
   rw[hi]at h';cases h';have:w.heap.size+i=W.heap.size:=by omega
   rw[this]
   unfold World.alloc;simp⟩
theorem Env.two{w:World}{cs cs':Array Value}{T T':TypeId}:Env w [(cs,T),(cs',T')] ((w.alloc (.cells cs T)).alloc (.cells cs' T')):=Env.push .one (by rw[aK];rfl) _ _
theorem Env.three{w:World}{cs cs' cs2:Array Value}{T T' T2:TypeId}:Env w [(cs,T),(cs',T'),(cs2,T2)] (((w.alloc (.cells cs T)).alloc (.cells cs' T')).alloc (.cells cs2 T2)):=Env.push .two (by rw[aK,aK];rfl) _ _
theorem Env.four{w:World}{cs cs' cs2 cs3:Array Value}{T T' T2 T3:TypeId}:Env w [(cs,T),(cs',T'),(cs2,T2),(cs3,T3)] ((((w.alloc (.cells cs T)).alloc (.cells cs' T')).alloc (.cells cs2 T2)).alloc (.cells cs3 T3)):=Env.push .three (by rw[aK,aK,aK];rfl) _ _
theorem Env.drewN{w W:World}{bx:List (Array Value×TypeId)}(h:Env w bx W)(n:Nat):Env w bx (W.drewN n):=⟨⟨h.below.os,h.below.tape,h.below.output,h.below.size,h.below.block⟩,h.size,h.box⟩
theorem Env.drew{w W:World}{bx:List (Array Value×TypeId)}(h:Env w bx W):Env w bx W.drew:=⟨h.below.drew,h.size,h.box⟩
theorem Env.step{w W W':World}{bx:List (Array Value×TypeId)}(h:Env w bx W)(hb:RowKit.Below W.heap.size W W'):Env w bx W':=⟨h.below.trans (hb.mono (by have:=h.size;omega)),by have:=h.size;have:=hb.size;omega,λi cs T hi=>eu (h.box i cs T hi) hb⟩
theorem Env.cell{w W:World}{bx:List (Array Value×TypeId)}(h:Env w bx W)(i o:Nat){cs:Array Value}{T:TypeId}{v:Value}(hi:bx[i]?=some (cs,T))(hv:cs[o]?=some v):W.cell? ⟨w.heap.size+i,o,none⟩=some v:=aw (h.box i cs T hi) o hv
theorem Env.free{w W:World}{bx:List (Array Value×TypeId)}(h:Env w bx W)(i o:Nat){cs:Array Value}{T:TypeId}(hi:bx[i]?=some (cs,T)):W.frozen? ⟨w.heap.size+i,o,none⟩=false:=cI (h.box i cs T hi) o
theorem Env.init{w W:World}{l r:List (Array Value×TypeId)}(h:Env w (l++r) W):Env w l W:=⟨h.below,by have:=h.size;rw[List.length_append]at this;omega,λi cs T hi=>h.box i cs T (by rw[List.getElem?_append_left (List.getElem?_eq_some_iff.1 hi).1];exact hi)⟩
theorem Env.set{w W:World}{bx:List (Array Value×TypeId)}(h:Env w bx W){b:Nat}(hb:w.heap.size+bx.length<=b)(o:Nat)(u:Value):Env w bx (W.setCell ⟨b,o,none⟩ u):=by
 have ho:Only b W (W.setCell ⟨b,o,none⟩ u):=(Only.refl b W).set o u
 exact⟨⟨h.below.os,h.below.tape,h.below.output,by rw[ho.size];exact h.below.size,λk hk=>(ho.block k (by omega)).trans (h.below.block k hk)⟩,by rw[ho.size];exact h.size,λi cs T hi=>by
  have hl:=(List.getElem?_eq_some_iff.1 hi).1
  exact(ho.block _ (by omega)).trans (h.box i cs T hi)⟩
def S1(w:World)(x y:Value)(T:TypeId)(W:World):Prop:=Env w [(#[x,y],T)] W/\W.cell? ⟨w.heap.size,0,none⟩=some x/\W.cell? ⟨w.heap.size,1,none⟩=some y
theorem Env.k1{w W:World}{x y:Value}{T:TypeId}{q:Array Value×TypeId}(h:Env w [(#[x,y],T),q] W):Env w [(#[x,y],T)] W/\W.cell? ⟨w.heap.size,0,none⟩=some x/\W.cell? ⟨w.heap.size,1,none⟩=some y:=⟨Env.init (l:=[(#[x,y],T)]) (r:=[q]) h,h.cell 0 0 rfl rfl,h.cell 0 1 rfl rfl⟩
theorem Env.lg{w W:World}{x y X Y:Value}{T:TypeId}{q:Array Value×TypeId}(h:Env w [(#[x,y],T),q] W):Env w [(#[x,y],T)] ((W.setCell ⟨w.heap.size+1,0,none⟩ X).setCell ⟨w.heap.size+1,1,none⟩ Y)/\((W.setCell ⟨w.heap.size+1,0,none⟩ X).setCell ⟨w.heap.size+1,1,none⟩ Y).cell? ⟨w.heap.size,0,none⟩=some x/\((W.setCell ⟨w.heap.size+1,0,none⟩ X).setCell ⟨w.heap.size+1,1,none⟩ Y).cell? ⟨w.heap.size,1,none⟩=some y:=by have h2:=((Env.init (l:=[(#[x,y],T)]) (r:=[q]) h).set (Nat.le_refl _) 0 X).set (Nat.le_refl _) 1 Y;exact⟨h2,h2.cell 0 0 rfl rfl,h2.cell 0 1 rfl rfl⟩
theorem Env.k2{w W:World}{x y x' y':Value}{T T':TypeId}{q:Array Value×TypeId}(h:Env w [(#[x,y],T),(#[x',y'],T'),q] W):Env w [(#[x,y],T),(#[x',y'],T')] W/\W.cell? ⟨w.heap.size,0,none⟩=some x/\W.cell? ⟨w.heap.size,1,none⟩=some y/\W.cell? ⟨w.heap.size+1,0,none⟩=some x'/\W.cell? ⟨w.heap.size+1,1,none⟩=some y':=⟨Env.init (l:=[(#[x,y],T),(#[x',y'],T')]) (r:=[q]) h,h.cell 0 0 rfl rfl,h.cell 0 1 rfl rfl,h.cell 1 0 rfl rfl,h.cell 1 1 rfl rfl⟩
theorem Env.iJ{w W:World}{x y x' y' X Y:Value}{T T':TypeId}{q:Array Value×TypeId}(h:Env w [(#[x,y],T),(#[x',y'],T'),q] W) :
 Env w [(#[x,y],T),(#[x',y'],T')] ((W.setCell ⟨w.heap.size+1+1,0,none⟩ X).setCell ⟨w.heap.size+1+1,1,none⟩ Y)/\((W.setCell ⟨w.heap.size+1+1,0,none⟩ X).setCell ⟨w.heap.size+1+1,1,none⟩ Y).cell? ⟨w.heap.size,0,none⟩=some x/\((W.setCell ⟨w.heap.size+1+1,0,none⟩ X).setCell ⟨w.heap.size+1+1,1,none⟩ Y).cell? ⟨w.heap.size,1,none⟩=some y/\
  ((W.setCell ⟨w.heap.size+1+1,0,none⟩ X).setCell ⟨w.heap.size+1+1,1,none⟩ Y).cell? ⟨w.heap.size+1,0,none⟩=some x'/\((W.setCell ⟨w.heap.size+1+1,0,none⟩ X).setCell ⟨w.heap.size+1+1,1,none⟩ Y).cell? ⟨w.heap.size+1,1,none⟩=some y':=by
 have h2:=((Env.init (l:=[(#[x,y],T),(#[x',y'],T')]) (r:=[q]) h).set (b:=w.heap.size+1+1) (Nat.le_refl _) 0 X).set (b:=w.heap.size+1+1) (Nat.le_refl _) 1 Y;exact⟨h2,h2.cell 0 0 rfl rfl,h2.cell 0 1 rfl rfl,h2.cell 1 0 rfl rfl,h2.cell 1 1 rfl rfl⟩
theorem Env.w1{w W:World}{p:Array Value×TypeId}{x y:Value}{T:TypeId}(h:Env w [p,(#[x,y],T)] W):W.cell? ⟨w.heap.size+1,0,none⟩=some x/\W.cell? ⟨w.heap.size+1,1,none⟩=some y/\W.frozen? ⟨w.heap.size+1,0,none⟩=false/\W.frozen? ⟨w.heap.size+1,1,none⟩=false:=⟨h.cell 1 0 rfl rfl,h.cell 1 1 rfl rfl,h.free 1 0 rfl,h.free 1 1 rfl⟩
theorem Env.w2{w W:World}{p p':Array Value×TypeId}{x y:Value}{T:TypeId}(h:Env w [p,p',(#[x,y],T)] W):W.cell? ⟨w.heap.size+1+1,0,none⟩=some x/\W.cell? ⟨w.heap.size+1+1,1,none⟩=some y/\W.frozen? ⟨w.heap.size+1+1,0,none⟩=false/\W.frozen? ⟨w.heap.size+1+1,1,none⟩=false:=⟨h.cell 2 0 rfl rfl,h.cell 2 1 rfl rfl,h.free 2 0 rfl,h.free 2 1 rfl⟩
structure Res2(w W W':World)(b:Nat)(X Y:Value):Prop where
 c0:W'.cell? ⟨b,0,none⟩=some X
 c1:W'.cell? ⟨b,1,none⟩=some Y
 only:Only b W W'
 below:RowKit.Below w.heap.size w W'
theorem Env.res{w W:World}{bx:List (Array Value×TypeId)}{x y:Value}{T:TypeId}(h:Env w (bx++[(#[x,y],T)]) W)(b:Nat)(hb:b=w.heap.size+bx.length)(X Y:Value):Res2 w W ((W.setCell ⟨b,0,none⟩ X).setCell ⟨b,1,none⟩ Y) b X Y:=by subst hb;have hd:=cq (h.box bx.length #[x,y] T (by rw[List.getElem?_append_right (Nat.le_refl _),Nat.sub_self];rfl)) X Y;have h2:=((Env.init h).set (Nat.le_refl _) 0 X).set (Nat.le_refl _) 1 Y;exact⟨aw hd 0 rfl,aw hd 1 rfl,((Only.refl _ _).set _ _).set _ _,h2.below⟩
structure Res4(w W W':World)(b b':Nat)(X Y X' Y':Value):Prop where
 c0:W'.cell? ⟨b,0,none⟩=some X
 c1:W'.cell? ⟨b,1,none⟩=some Y
 d0:W'.cell? ⟨b',0,none⟩=some X'
 d1:W'.cell? ⟨b',1,none⟩=some Y'
 below:RowKit.Below w.heap.size w W'
 keep:∀{B:Nat} {A:Option Addr} {m c n:Nat} {z:Bool},b<B->b'<B->NumN B W (.slice A m c) n z->NumN B W' (.slice A m c) n z
theorem Env.pK{w W:World}{p p':Array Value×TypeId}{x y x' y':Value}{T T':TypeId}(h:Env w [p,p',(#[x,y],T),(#[x',y'],T')] W)(X Y X' Y':Value):Res4 w W ((((W.setCell ⟨w.heap.size+1+1,0,none⟩ X).setCell ⟨w.heap.size+1+1,1,none⟩ Y).setCell ⟨w.heap.size+1+1+1,0,none⟩ X').setCell ⟨w.heap.size+1+1+1,1,none⟩ Y') (w.heap.size+1+1) (w.heap.size+1+1+1) X Y X' Y':=by have h2:=cq (h.box 2 _ _ rfl) X Y;have o2:Only (w.heap.size+1+1) W ((W.setCell ⟨w.heap.size+1+1,0,none⟩ X).setCell ⟨w.heap.size+1+1,1,none⟩ Y):=((Only.refl _ _).set _ _).set _ _;have h3:=cq ((o2.block (w.heap.size+1+1+1) (by omega)).trans (h.box 3 _ _ rfl)) X' Y';have o3:=((Only.refl (w.heap.size+1+1+1) ((W.setCell ⟨w.heap.size+1+1,0,none⟩ X).setCell ⟨w.heap.size+1+1,1,none⟩ Y)).set 0 X').set 1 Y';have h2':=(o3.block (w.heap.size+1+1) (by omega)).trans h2;have hb:=((((Env.init (l:=[p,p']) (r:=[_,_]) h).set (b:=w.heap.size+1+1) (Nat.le_refl _) 0 X).set (b:=w.heap.size+1+1) (Nat.le_refl _) 1 Y).set (b:=w.heap.size+1+1+1) (Nat.le_succ _) 0 X').set (b:=w.heap.size+1+1+1) (Nat.le_succ _) 1 Y';exact⟨aw h2' 0 rfl,aw h2' 1 rfl,aw h3 0 rfl,aw h3 1 rfl,hb.below,λh1 h2 hN=>(hN.only h1 o2).only h2 o3⟩
theorem Env.iK{w W:World}{x y x' y':Value}{T T':TypeId}{r:List (Array Value×TypeId)}(h:Env w ((#[x,y],T)::(#[x',y'],T')::r) W)(X Y X' Y':Value):Env w ((#[X,Y],T)::(#[X',Y'],T')::r) ((((W.setCell ⟨w.heap.size,0,none⟩ X).setCell ⟨w.heap.size,1,none⟩ Y).setCell ⟨w.heap.size+1,0,none⟩ X').setCell ⟨w.heap.size+1,1,none⟩ Y'):=by
 have h2:=cq (h.box 0 _ _ rfl) X Y;have o2:Only w.heap.size W ((W.setCell ⟨w.heap.size,0,none⟩ X).setCell ⟨w.heap.size,1,none⟩ Y):=((Only.refl _ _).set _ _).set _ _;have h3:=cq ((o2.block (w.heap.size+1) (by omega)).trans (h.box 1 _ _ rfl)) X' Y';have o3:=((Only.refl (w.heap.size+1) ((W.setCell ⟨w.heap.size,0,none⟩ X).setCell ⟨w.heap.size,1,none⟩ Y)).set 0 X').set 1 Y';have h2':=(o3.block w.heap.size (by omega)).trans h2;refine⟨((((h.below.setCell (p:=⟨w.heap.size,0,none⟩) (Nat.le_refl _) X).setCell (p:=⟨w.heap.size,1,none⟩) (Nat.le_refl _) Y).setCell (p:=⟨w.heap.size+1,0,none⟩) (Nat.le_succ _) X').setCell (p:=⟨w.heap.size+1,1,none⟩) (Nat.le_succ _) Y'),by rw[o3.size,o2.size];exact h.size,λi cs T'' hi=>?_⟩
 match i,hi with
 |0,hi=>cases hi;exact h2'
 |1,hi=>cases hi;exact h3
 |i+2,hi=>exact((o3.block (w.heap.size+(i+2)) (by omega)).trans (o2.block (w.heap.size+(i+2)) (by omega))).trans (h.box (i+2) cs T'' hi)
theorem Env.dj{w W:World}{X Y X' Y':Value}{B:Nat}{A:Option Addr}{m c n:Nat}{z:Bool}(hB:w.heap.size+1<B)(h:NumN B W (.slice A m c) n z):NumN B ((((W.setCell ⟨w.heap.size,0,none⟩ X).setCell ⟨w.heap.size,1,none⟩ Y).setCell ⟨w.heap.size+1,0,none⟩ X').setCell ⟨w.heap.size+1,1,none⟩ Y') (.slice A m c) n z:=(h.only (b:=w.heap.size) (by omega) (((Only.refl _ _).set _ _).set _ _)).only (b:=w.heap.size+1) hB (((Only.refl _ _).set _ _).set _ _)
structure ResQ(w W W':World)(b:Nat)(X Y Z U:Value):Prop where
 c0:W'.cell? ⟨b,0,none⟩=some X
 c1:W'.cell? ⟨b,1,none⟩=some Y
 c2:W'.cell? ⟨b,2,none⟩=some Z
 c3:W'.cell? ⟨b,3,none⟩=some U
 only:Only b W W'
 below:RowKit.Below w.heap.size w W'
theorem Env.aT{w W:World}{bx:List (Array Value×TypeId)}{x y z u:Value}{T:TypeId}(h:Env w (bx++[(#[x,y,z,u],T)]) W)(b:Nat)(hb:b=w.heap.size+bx.length)(X Y Z U:Value):ResQ w W ((((W.setCell ⟨b,0,none⟩ X).setCell ⟨b,1,none⟩ Y).setCell ⟨b,2,none⟩ Z).setCell ⟨b,3,none⟩ U) b X Y Z U:=by subst hb;have hd:=iI (h.box bx.length #[x,y,z,u] T (by rw[List.getElem?_append_right (Nat.le_refl _),Nat.sub_self];rfl)) X Y Z U;have h2:=((((Env.init h).set (Nat.le_refl _) 0 X).set (Nat.le_refl _) 1 Y).set (Nat.le_refl _) 2 Z).set (Nat.le_refl _) 3 U;exact⟨aw hd 0 rfl,aw hd 1 rfl,aw hd 2 rfl,aw hd 3 rfl,((((Only.refl _ _).set _ _).set _ _).set _ _).set _ _,h2.below⟩
def Apart(A:Option Addr)(m:Nat)(A':Option Addr)(m':Nat):Prop:=∀g o g' o',A=some ⟨g,o,none⟩->A'=some ⟨g',o',none⟩->0<m->0<m'->g≠g'
theorem Apart.zero{A:Option Addr}{A':Option Addr}{m':Nat}:Apart A 0 A' m':=λ_ _ _ _ _ _ h _=>absurd h (by omega)
theorem Apart.later{B B':Nat}{w w':World}{A A':Option Addr}{m c n m' c' n':Nat}{z z':Bool}(h:NumN B w (.slice A m c) n z)(h':NumN B' w' (.slice A' m' c') n' z')(hB:w.heap.size<=B'):Apart A m A' m':=by intro g o g' o' e e' hm hm' he;have h1:=h'.fresh g' o' e' hm';subst e;obtain⟨A1,m1,c1,e1,hd,_⟩:=h.num.is;cases e1;obtain⟨b,q,e2,hlt,_⟩:=hd.cells hm;cases e2;omega
theorem Env.yd{w W:World}{x y:Value}{T:TypeId}{r:List (Array Value×TypeId)}(h:Env w ((#[x,y],T)::r) W)(X Y:Value):Env w ((#[X,Y],T)::r) ((W.setCell ⟨w.heap.size,0,none⟩ X).setCell ⟨w.heap.size,1,none⟩ Y):=by
 have h2:=cq (h.box 0 _ _ rfl) X Y;have o2:Only w.heap.size W ((W.setCell ⟨w.heap.size,0,none⟩ X).setCell ⟨w.heap.size,1,none⟩ Y):=((Only.refl _ _).set _ _).set _ _;refine⟨(h.below.setCell (p:=⟨w.heap.size,0,none⟩) (Nat.le_refl _) X).setCell (p:=⟨w.heap.size,1,none⟩) (Nat.le_refl _) Y,by rw[o2.size];exact h.size,λi cs T'' hi=>?_⟩
 match i,hi with
 |0,hi=>cases hi;exact h2
 |i+1,hi=>exact(o2.block (w.heap.size+(i+1)) (by omega)).trans (h.box (i+1) cs T'' hi)
theorem Env.ye{w W:World}{p:Array Value×TypeId}{x y:Value}{T:TypeId}{r:List (Array Value×TypeId)}(h:Env w (p::(#[x,y],T)::r) W)(X Y:Value):Env w (p::(#[X,Y],T)::r) ((W.setCell ⟨w.heap.size+1,0,none⟩ X).setCell ⟨w.heap.size+1,1,none⟩ Y):=by
 have h2:=cq (h.box 1 _ _ rfl) X Y;have o2:Only (w.heap.size+1) W ((W.setCell ⟨w.heap.size+1,0,none⟩ X).setCell ⟨w.heap.size+1,1,none⟩ Y):=((Only.refl _ _).set _ _).set _ _;refine⟨(h.below.setCell (p:=⟨w.heap.size+1,0,none⟩) (Nat.le_succ _) X).setCell (p:=⟨w.heap.size+1,1,none⟩) (Nat.le_succ _) Y,by rw[o2.size];exact h.size,λi cs T'' hi=>?_⟩
 match i,hi with
 |0,hi=>exact(o2.block w.heap.size (by omega)).trans (h.box 0 cs T'' hi)
 |1,hi=>cases hi;exact h2
 |i+2,hi=>exact(o2.block (w.heap.size+(i+2)) (by omega)).trans (h.box (i+2) cs T'' hi)
end Go.BI
namespace Go.BI
open Go Go.RowKit Go.Proofs
def MakesJ(j:J)(w:World)(e:Ending)(w':World):Prop:=(∃A m c,e=.returned (.agg #[.bool j.s,.slice A m c])/\NumN w.heap.size w' (.slice A m c) j.n j.z)/\RowKit.Below w.heap.size w w'
theorem Num.digs{w:World}{A:Option Addr}{m c n:Nat}{z:Bool}(h:Num w (.slice A m c) n z):Digs w A m c (digs n):=by obtain⟨A',m',c',e,hd,_⟩:=h.is;cases e;exact hd
theorem yf(b o n:Nat):(⟨b,o,none⟩:Addr).add n=⟨b,o+n,none⟩:=by
 unfold Addr.add;split
 .rename_i h;have:n=0:=by simpa using h
  subst this;rfl
 .rfl
theorem yg(a:Addr)(n c:Nat)(w:World):(binOp .eql 48 (.slice (some a) n c) (.slice none 0 0)).run Tryz.prog w=.ok (.bool false) w:=by
 rw[show binOp .eql 48 (.slice (some a) n c) (.slice none 0 0)=(do pure (.bool (<-Op.equal 48 (.slice (some a) n c) (.slice none 0 0))))from rfl,Sem.run_bind];have he:(Op.equal 48 (.slice (some a) n c) (.slice none 0 0)).run Tryz.prog w=.ok false w:=by unfold Op.equal Op.maxDepth Op.equalIn;rw[Sem.run_bind,run_underlying Tryz.underlying48,Result.andThen_ok];rfl
 rw[he];rfl
theorem yi(w:World):(binOp .eql 48 (.slice none 0 0) (.slice none 0 0)).run Tryz.prog w=.ok (.bool true) w:=by
 rw[show binOp .eql 48 (.slice none 0 0) (.slice none 0 0)=(do pure (.bool (<-Op.equal 48 (.slice none 0 0) (.slice none 0 0))))from rfl,Sem.run_bind];have he:(Op.equal 48 (.slice none 0 0) (.slice none 0 0)).run Tryz.prog w=.ok true w:=by unfold Op.equal Op.maxDepth Op.equalIn;rw[Sem.run_bind,run_underlying Tryz.underlying48,Result.andThen_ok];rfl
 rw[he];rfl
def MakesC(n:Nat)(z:Bool)(w:World)(e:Ending)(w':World):Prop:=(∃A m c,e=.returned (.slice A m c)/\NumN w.heap.size w' (.slice A m c) n z)/\RowKit.Below w.heap.size w w'
theorem yj{w:World}{g cap n:Nat}{cur:Array Value}{T:TypeId}{l:List Nat}(hg:w.heap[g]?=some (.cells cur T (0,0)))(hc:n<=cap)(hn:l.length=n)(hm:n<=1000000)(hl:Lim l)(ht:cur.toList.take n=l.map λ(d:Nat)=>Value.int .u32 (d:Int)):Digs w (some ⟨g,0,none⟩) n cap l:=
 {len:=hn,cap:=hc,max:=hm,lim:=hl,cells:=λ_=>⟨g,0,rfl,(Array.getElem?_eq_some_iff.1 hg).1,λi hi=>by
  simp only[World.cell?,hg,Nat.zero_add];have h1:(cur.toList.take n)[i]?=some (.int .u32 (l[i]:Nat)):=by rw[ht,List.getElem?_map,List.getElem?_eq_getElem hi];rfl
  rw[List.getElem?_take,if_pos (by omega)]at h1
  simpa using h1⟩}
theorem yk(a:Addr)(n c x:Nat)(w:World)(h:Digs w (some a) n c (digs x)):Calls Tryz.prog 179 #[.slice (some a) n c] w (MakesC x false w):=by
 have hmax:=h.max;have hcap:=h.cap;have hnil:=λw=>yg a n c w
 have HH:=Lib.hid h;clear h;obtain⟨i0,hi,hz,hs,hb⟩:=info_parts pD;have HI:=Lib.hid (And.intro hi (And.intro hz (And.intro hs hb)));clear hi hz hs hb;go_enter Tryz.func179,Tryz.ntmps179
 go_wp2_with (first
  |(at_builtin;refine wpList_append_own _ rfl _ _ 48 rfl w.heap.size 164 i0 (.int .u32 0) 1 4 Tryz.underlying48 HI.out.1 HI.out.2.1 HI.out.2.2.1 HI.out.2.2.2 rfl (by decide) _ _ _ rfl (World.ownsRow_made w #[] 0 (Nat.le_refl _) (by decide) rfl) a n c ((digs x).map λ(d:Nat)=>Value.int .u32 (d:Int)) rfl ?c1 ?c2 ?c3 ?c4 ?c5 ?c6 ?_)
  |fail)
 case c1=>rw[List.length_map,HH.out.len,Nat.mul_one]
 case c2=>
  intro j u hj;have hj':j<(digs x).length:=by have:=(List.getElem?_eq_some_iff.1 hj).1;rwa [List.length_map]at this
  obtain⟨b,o,e,hlt,hcell⟩:=HH.out.cells (by have:=HH.out.len;omega);cases e;rw[List.getElem?_map,List.getElem?_eq_getElem hj']at hj;simp only[Option.map_some,Option.some.injEq]at hj;subst hj;have:=(((RowKit.Below.refl _ _).alloc (Nat.le_refl _) (.cells #[] 164)).cell (p:=⟨b,o+j,none⟩) hlt).trans (hcell j hj');rw[yf];exact this
 case c3=>intro u hu;obtain⟨d,_,rfl⟩:=List.mem_map.1 hu;rfl
 case c4=>simp only[maxLen];omega
 case c5=>omega
 case c6=>simp
 .intro v' w1 hown hgrow hnn;have HO:=Lib.hid hown;clear hown;have HG:=Lib.hid hgrow;clear hgrow;have HN:=Lib.hid hnn;clear hnn;go_wp2;go_ret;obtain⟨hl,hor⟩:=HO.out;have hbel:RowKit.Below w.heap.size w w1:=((RowKit.Below.refl w.heap.size w).alloc (Nat.le_refl _) (.cells #[] 164)).grown HG.out (by simp) (λk hk=>by simp[Value.ownBlock]at hk;omega);rcases hor with⟨hv,_⟩|⟨g,cap,cur,rfl,hbg,hg,hnc,hcm,hcs,htake⟩
  .exact absurd hv HN.out
  .rw[Nat.mul_one]at htake;have hd:=yj hg hnc HH.out.len hmax HH.out.lim htake;exact⟨⟨_,_,_,rfl,⟨⟨_,_,_,rfl,hd,λh=>(by cases h),λ_=>⟨_,rfl⟩⟩,λ_=>⟨_,_,_,rfl,⟨g,0,cur,_,rfl,hbg,hg,by omega⟩⟩⟩⟩,hbel⟩
theorem ym(w:World):Calls Tryz.prog 179 #[.slice none 0 0] w (MakesC 0 true w):=by
 have hnil:=λw=>yi w
 go_enter Tryz.func179,Tryz.ntmps179;go_wp2;go_ret;exact⟨⟨_,_,_,rfl,.nil _ w⟩,.refl _ _⟩
theorem fw(A:Option Addr)(m c n:Nat)(z:Bool)(w:World)(h:Num w (.slice A m c) n z):Calls Tryz.prog 179 #[.slice A m c] w (MakesC n z w):=by
 obtain⟨A',m',c',e,hd,h1,h2⟩:=h.is;cases e;cases z with
 |true=>
  obtain⟨rfl,rfl⟩:=h1 rfl
  have hm:m=0:=by
   rcases Nat.eq_zero_or_pos m with h|h
   .exact h
   .obtain⟨b,o,e,_⟩:=hd.cells h;cases e
  subst hm;have hn:n=0:=eM.1 (List.eq_nil_of_length_eq_zero hd.len);subst hn;exact ym w
 |false=>obtain⟨a,rfl⟩:=h2 rfl;exact yk a m c n w hd
theorem pL{n k m:Nat}(hm:(digs n).length=m)(hk:k<=m)(h:(digs n).take k=digs (val (digs n))):k=m:=by rw[aF]at h;have:=congrArg List.length h;rw[List.length_take,hm]at this;omega
theorem bn{A:Option Addr}{m c n:Nat}{w:World}(h:Digs w A m c (digs n)):Calls Tryz.prog 145 #[.slice A m c] w λe w'=>e=.returned (.slice A m c)/\w=w':=by refine(pn _ _ _ _ _ h).mono ?_;rintro e w' ⟨⟨k,rfl,hk,hd⟩,rfl⟩;rw[pL h.len hk hd];exact⟨rfl,rfl⟩
theorem ct(s:Bool){A:Option Addr}{m c n:Nat}{w:World}(h:Digs w A m c (digs n)):Calls Tryz.prog 140 #[.bool s,.slice A m c] w λe w'=>e=.returned (.agg #[.bool (jSign s n),.slice A m c])/\RowKit.Below w.heap.size w w':=by refine(iH s _ _ _ _ _ h).mono ?_;rintro e w' ⟨⟨k,rfl,hk,hd⟩,hb⟩;rw[pL h.len hk hd,aF];exact⟨rfl,hb⟩
theorem Digs.pos{w:World}{A:Option Addr}{m c n:Nat}(h:Digs w A m c (digs n)):0<m↔0<n:=by
 have:=h.len;constructor
 .intro hm;rcases Nat.eq_zero_or_pos n with rfl|h'
  .rw[fY]at this;simp at this;omega
  .exact h'
 .intro hn;rcases Nat.eq_zero_or_pos m with rfl|h'
  .have:=eM.1 (List.eq_nil_of_length_eq_zero this);omega
  .exact h'
theorem dk(s:Bool)(A:Option Addr)(m c n:Nat)(z:Bool)(w:World)(h:Digs w A m c (digs n)):Calls Tryz.prog 119 #[.agg #[.bool s,.slice A m c]] w λe w'=>e=.returned (.int .i64 (J.sign ⟨s,n,z⟩))/\RowKit.Below w.heap.size w w':=by
 have hmax:=h.max;have hpos:=h.pos;go_enter Tryz.func119,Tryz.ntmps119;go_wp2_with fail;refine(bn (h.below (ax _ _))).mono ?_;rintro e w' ⟨rfl,rfl⟩;by_cases h0:m=0
 .have hn:n=0:=by omega
  subst h0 hn;clear hpos;go_wp2;go_ret;exact⟨rfl,ax _ _⟩
 .have hn:J.sign ⟨s,n,z⟩=if s=true then -1 else 1:=by
   show(bif Nat.beq n 0 then(0:Int)else bif s then -1 else 1)=_;rw[bz (by omega)];cases s<;>rfl
  have hm:((m:Int)==0)=false:=beq_false_of_ne (by omega);clear hpos;cases s with
  |true=>go_wp2;go_ret;exact⟨by rw[hn];rfl,ax _ _⟩
  |false=>go_wp2;go_ret;exact⟨by rw[hn];rfl,ax _ _⟩
theorem bS{w w2 w':World}{j:J}{A:Option Addr}{m c B b:Nat}{e:Ending}(he:e=.returned (.agg #[.bool j.s,.slice A m c]))(hN:NumN B w2 (.slice A m c) j.n j.z)(hB:b<B)(hle:w.heap.size<=B)(ho:Only b w2 w')(hb:RowKit.Below w.heap.size w w'):MakesJ j w e w':=⟨⟨A,m,c,he,(hN.only hB ho).mono hle⟩,hb⟩
theorem a_(n:Int)(w:World)(h1:-9223372036854775808<=n)(h2:n<9223372036854775808):Calls Tryz.prog 69 #[.int .i64 n] w (MakesJ (jOf n) w):=by
 by_cases h:n<0
 .have hw:IntKind.u64.wrap (-IntKind.u64.wrap n)=((n.natAbs:Nat):Int):=by rw[IntKind.wrap_u64,IntKind.wrap_u64];omega
  have hj:jOf n=⟨true,n.natAbs,Nat.beq n.natAbs 0⟩:=by
   cases n with
   |ofNat k=>simp at h;omega
   |negSucc k=>rfl
  have hs:jSign true n.natAbs=true:=by unfold jSign;rw[bz (by omega)];rfl
  rw[hj];have h3:n.natAbs<18446744073709551616:=by omega
  generalize n.natAbs=k at *;go_enter Tryz.func69,Tryz.ntmps69;go_wp2_with fail;refine(ep k _ h3).mono ?_;rintro e w1 ⟨⟨A,m,c,rfl,hN⟩,hB⟩;have HB:=Lib.hid hB;clear hB;have HN:=Lib.hid hN;clear hN;go_wp2_with fail;refine(ct true HN.out.num.digs).mono ?_;rintro e w2 ⟨rfl,hB2⟩;rw[hs];have hbx:=eu (lf HB.out) hB2;have c0:w2.cell? ⟨w.heap.size,0,none⟩=some (.bool false):=aw hbx 0 rfl;have c1:w2.cell? ⟨w.heap.size,1,none⟩=some (.slice none 0 0):=aw hbx 1 rfl;have f0:=cI hbx 0;have f1:=cI hbx 1;have hbel:RowKit.Below w.heap.size w w2:=((ax w _).trans (HB.out.mono (by rw[aK];omega))).trans (hB2.mono (by have:=HB.out.size;rw[aK]at this;omega));have HN2:=Lib.hid (HN.out.below hB2);have HX:=Lib.hid hbx;clear hbx hB2;go_wp2;have hd:=cq HX.out (.bool true) (.slice A m c);have d0:=aw hd 0 rfl;have d1:=aw hd 1 rfl;refine bodyPost_ret (by simp[results,Tryz.results69,go_sem,d0,d1];try rfl) rfl ?_;exact bS rfl HN2.out (b:=w.heap.size) (by rw[aK];omega) (by rw[aK];omega) (((Only.refl _ _).set _ _).set _ _) (by go_grown)
 .have hw:∃k:Nat,n=(k:Int):=⟨n.toNat,by omega⟩;obtain⟨k,rfl⟩:=hw;have hj:jOf (k:Int)=⟨false,k,Nat.beq k 0⟩:=rfl;have hs:jSign false k=false:=by unfold jSign;cases Nat.beq k 0<;>rfl
  rw[hj];have h3:k<18446744073709551616:=by omega
  go_enter Tryz.func69,Tryz.ntmps69;go_wp2_with fail;refine(ep k _ h3).mono ?_;rintro e w1 ⟨⟨A,m,c,rfl,hN⟩,hB⟩;have HB:=Lib.hid hB;clear hB;have HN:=Lib.hid hN;clear hN;go_wp2_with fail;refine(ct false HN.out.num.digs).mono ?_;rintro e w2 ⟨rfl,hB2⟩;rw[hs];have hbx:=eu (lf HB.out) hB2;have c0:w2.cell? ⟨w.heap.size,0,none⟩=some (.bool false):=aw hbx 0 rfl;have c1:w2.cell? ⟨w.heap.size,1,none⟩=some (.slice none 0 0):=aw hbx 1 rfl;have f0:=cI hbx 0;have f1:=cI hbx 1;have hbel:RowKit.Below w.heap.size w w2:=((ax w _).trans (HB.out.mono (by rw[aK];omega))).trans (hB2.mono (by have:=HB.out.size;rw[aK]at this;omega));have HN2:=Lib.hid (HN.out.below hB2);have HX:=Lib.hid hbx;clear hbx hB2;go_wp2;have hd:=cq HX.out (.bool false) (.slice A m c);have d0:=aw hd 0 rfl;have d1:=aw hd 1 rfl;refine bodyPost_ret (by simp[results,Tryz.results69,go_sem,d0,d1];try rfl) rfl ?_;exact bS rfl HN2.out (b:=w.heap.size) (by rw[aK];omega) (by rw[aK];omega) (((Only.refl _ _).set _ _).set _ _) (by go_grown)
end Go.BI
namespace Go.BI
open Go Go.RowKit Go.Proofs
theorem cw(s:Bool)(A:Option Addr)(m c n:Nat)(z:Bool)(w:World)(h:Num w (.slice A m c) n z):Calls Tryz.prog 83 #[.agg #[.bool s,.slice A m c]] w (MakesJ (J.normal ⟨s,n,z⟩) w):=by
 have hmax:=h.digs.max;have hpE:Env w [(#[.bool s,.slice A m c],50),(#[.bool false,.slice none 0 0],50)] ((w.alloc (.cells #[.bool s,.slice A m c] 50)).alloc (.cells #[.bool false,.slice none 0 0] 50)):=.two;have HE:=Lib.hid hpE;clear hpE;go_enter Tryz.func83,Tryz.ntmps83;go_wp2_with fail;have hE:=HE.out.drew
 go_region_held3 (λw'=>Env w [(#[.bool s,.slice A m c],50)] w'/\w'.cell? ⟨w.heap.size,0,none⟩=some (.bool s)/\w'.cell? ⟨w.heap.size,1,none⟩=some (.slice A m c))
  (first|exact Env.k1 (by assumption)|exact Env.lg (by assumption))
  (first
   |(go_at_call 145;refine(bn (h.below (Env.below (And.left (by assumption)))).digs).mono ?_;rintro e w1 ⟨rfl,rfl⟩)
   |(go_at_call 179;refine(fw _ _ _ _ _ _ (h.below (Env.below (And.left (by assumption))))).mono ?_;rintro e w1 ⟨⟨A1,m1,c1,rfl,hN1⟩,hB1⟩;have hE1:=Env.step hE hB1)
   |(go_at_call 140;refine(ct s hN1.num.digs).mono ?_;rintro e w2 ⟨rfl,hB2⟩;have hE2:=Env.step hE1 hB2;obtain⟨c0,c1',f0,f1⟩:=Env.w1 hE2))
 have HE2:=Lib.hid hE2;have HN2:=Lib.hid (hN1.below hB2);clear hE hE1 hE2 hB1 hB2 hN1 c0 c1' f0 f1;go_wp2;have R:=HE2.out.res (bx:=[_]) (w.heap.size+1) rfl (.bool (jSign s n)) (.slice A1 m1 c1);have d0:=R.c0;have d1:=R.c1;refine bodyPost_ret (by simp[results,Tryz.results83,go_sem,d0,d1];try rfl) rfl ?_;exact bS rfl HN2.out (b:=w.heap.size+1) (by simp) (by simp;omega) R.only R.below
end Go.BI
namespace Go.BI
open Go Go.RowKit Go.Proofs
theorem bU{w:World}{A:Option Addr}{m c n:Nat}(h:Digs w A m c (digs n)){k:Nat}:m<=k↔n<4294967296 ^ k:=by rw[<-h.len];exact f_
theorem yn(A B:Option Addr)(m c m' c':Nat)(w:World)(hz:m=0\/m'=0):Calls Tryz.prog 144 #[.slice A m c,.slice B m' c'] w (MakesC 0 true w):=by
 by_cases h0:m=0
 .subst h0;clear hz;go_enter Tryz.func144,Tryz.ntmps144;go_wp2;go_ret;exact⟨⟨_,_,_,rfl,.nil _ w⟩,.refl _ _⟩
 .have h1:m'=0:=by omega
  subst h1;clear hz;have hm:((m:Int)==0)=false:=beq_false_of_ne (by omega);go_enter Tryz.func144,Tryz.ntmps144;go_wp2;go_ret;exact⟨⟨_,_,_,rfl,.nil _ w⟩,.refl _ _⟩
theorem yp{w W:World}{p q:Addr}{x y:Value}(hb:RowKit.Below w.heap.size w W)(hp:p.block<w.heap.size)(hq:q.block<w.heap.size)(h1:w.cell? p=some x)(h2:w.cell? q=some y):RowKit.Below w.heap.size w W/\W.cell? p=some x/\W.cell? q=some y:=⟨hb,(hb.cell hp).trans h1,(hb.cell hq).trans h2⟩
theorem yq(A B:Option Addr)(c c' a b:Nat)(w:World)(h:Digs w A 1 c (digs a))(h':Digs w B 1 c' (digs b))(ha:a<4294967296)(hb:b<4294967296):Calls Tryz.prog 144 #[.slice A 1 c,.slice B 1 c'] w (MakesC (a*b) false w):=by
 have hp:0<a:=h.pos.1 (by omega);have hp':0<b:=h'.pos.1 (by omega);obtain⟨bA,oA,rfl,hltA,hcA⟩:=h.cells (by omega);obtain⟨bB,oB,rfl,hltB,hcB⟩:=h'.cells (by omega);have hca:=hcA 0 (by rw[aW hp ha];simp);have hcb:=hcB 0 (by rw[aW hp' hb];simp);simp only[aW hp ha,aW hp' hb,List.getElem_cons_zero,Nat.add_zero]at hca hcb;have hcap:=h.cap;have hcap':=h'.cap;have hlt:a*b<18446744073709551616:=Nat.lt_of_lt_of_le (Nat.mul_lt_mul'' ha hb) (by decide);have hne:a*b≠0:=Nat.pos_iff_ne_zero.1 (Nat.mul_pos hp hp');have hw:IntKind.u64.wrap ((a:Int)*b)=((a*b:Nat):Int):=by rw[IntKind.wrap_u64,<-Int.natCast_mul];omega
 have hw1:IntKind.u64.wrap (a:Int)=a:=by rw[IntKind.wrap_u64];omega
 have hw2:IntKind.u64.wrap (b:Int)=b:=by rw[IntKind.wrap_u64];omega
 have HL:=Lib.hid hlt;have HN:=Lib.hid hne;clear h h' hcA hcB hlt hne;go_enter Tryz.func144,Tryz.ntmps144;go_wp2_with fail;have hB0:RowKit.Below w.heap.size w w.drew:=(RowKit.Below.refl _ _).drew
 go_region_held3 (λw'=>RowKit.Below w.heap.size w w'/\w'.cell? ⟨bA,oA,none⟩=some (.int .u32 (a:Int))/\w'.cell? ⟨bB,oB,none⟩=some (.int .u32 (b:Int)))
  (exact yp (by assumption) hltA hltB hca hcb)
  (first|(go_at_call 141;refine(ep (a*b) _ HL.out).mono ?_;rintro e w1 ⟨⟨A1,m1,c1,rfl,hN1⟩,hB1⟩;have hB2:RowKit.Below w.heap.size w w1:=hB0.trans hB1))
 have HN1:=Lib.hid hN1;have HB2:=Lib.hid hB2;clear hN1 hB1 hB2 hB0;go_wp2;go_ret;have hn:=HN1.out;rw[bz HN.out]at hn;exact⟨⟨_,_,_,rfl,hn⟩,HB2.out⟩
theorem yr(A B:Option Addr)(m c m' c' a b:Nat)(w:World)(h:Digs w A m c (digs a))(h':Digs w B m' c' (digs b))(hs:a=0\/b=0\/(a<4294967296/\b<4294967296)):Calls Tryz.prog 144 #[.slice A m c,.slice B m' c'] w (MakesC (a*b) (isZ a||isZ b) w):=by
 by_cases hz:a=0\/b=0
 .have e1:a*b=0:=by rcases hz with rfl|rfl<;>simp
  have e2:(isZ a||isZ b)=true:=by rcases hz with rfl|rfl<;>simp[isZ]
  rw[e1,e2];refine yn _ _ _ _ _ _ _ ?_;rcases hz with rfl|rfl
  .left;have:=h.pos;omega
  .right;have:=h'.pos;omega
 .have ha:a≠0:=λe=>hz (.inl e)
  have hb:b≠0:=λe=>hz (.inr e)
  obtain⟨h1,h2⟩:a<4294967296/\b<4294967296:=by
   rcases hs with e|e|e
   .exact absurd e ha
   .exact absurd e hb
   .exact e
  have em:m=1:=by have:=h.pos;have:=(bU h (k:=1)).2 (by omega);omega
  have em':m'=1:=by have:=h'.pos;have:=(bU h' (k:=1)).2 (by omega);omega
  subst em em';have e2:(isZ a||isZ b)=false:=by unfold isZ;rw[bz ha,bz hb];rfl
  rw[e2];exact yq _ _ _ _ _ _ _ h h' h1 h2
end Go.BI
namespace Go.BI
open Go Go.RowKit Go.Proofs
theorem pM(s t:Bool):(s !=t) = !(beqB s t):=by cases s<;>cases t<;>rfl
theorem yt(s t:Bool)(A B:Option Addr)(m c m' c' a b:Nat)(z u:Bool)(w:World)(h:Num w (.slice A m c) a z)(h':Num w (.slice B m' c') b u)(hs:a=0\/b=0\/(a<4294967296/\b<4294967296)):Calls Tryz.prog 72 #[.agg #[.bool s,.slice A m c],.agg #[.bool t,.slice B m' c']] w (MakesJ ⟨jSign (s !=t) (a*b),a*b,isZ a||isZ b⟩ w):=by
 have hmax:=h.digs.max;have hmax':=h'.digs.max;have HS:=Lib.hid hs;clear hs;have hpE:Env w [(#[.bool s,.slice A m c],50),(#[.bool t,.slice B m' c'],50),(#[.bool false,.slice none 0 0],50)] (((w.alloc (.cells #[.bool s,.slice A m c] 50)).alloc (.cells #[.bool t,.slice B m' c'] 50)).alloc (.cells #[.bool false,.slice none 0 0] 50)):=.three;have HE:=Lib.hid hpE;clear hpE;go_enter Tryz.func72,Tryz.ntmps72;go_wp2_with fail;have hE:=HE.out.drew
 go_region_held3 (λw'=>Env w [(#[.bool s,.slice A m c],50),(#[.bool t,.slice B m' c'],50)] w'/\w'.cell? ⟨w.heap.size,0,none⟩=some (.bool s)/\w'.cell? ⟨w.heap.size,1,none⟩=some (.slice A m c)/\w'.cell? ⟨w.heap.size+1,0,none⟩=some (.bool t)/\w'.cell? ⟨w.heap.size+1,1,none⟩=some (.slice B m' c'))
  (first|exact Env.k2 (by assumption)|exact Env.iJ (by assumption))
  (first
   |(go_at_call_of 145 (Value.slice A m c);refine(bn (h.below (Env.below (And.left (by assumption)))).digs).mono ?_;rintro e w1 ⟨rfl,rfl⟩)
   |(go_at_call_of 145 (Value.slice B m' c');refine(bn (h'.below (Env.below (And.left (by assumption)))).digs).mono ?_;rintro e w1 ⟨rfl,rfl⟩)
   |(go_at_call 144;refine(yr _ _ _ _ _ _ a b _ (h.below (Env.below (And.left (by assumption)))).digs (h'.below (Env.below (And.left (by assumption)))).digs HS.out).mono ?_;rintro e w1 ⟨⟨A1,m1,c1,rfl,hN1⟩,hB1⟩;have hE1:=Env.step hE hB1)
   |(go_at_call 140;refine(ct (s !=t) hN1.num.digs).mono ?_;rintro e w2 ⟨rfl,hB2⟩;have hE2:=Env.step hE1 hB2;obtain⟨c0,c1',f0,f1⟩:=Env.w2 hE2))
 have HE2:=Lib.hid hE2;have HN2:=Lib.hid (hN1.below hB2);clear hE hE1 hE2 hB1 hB2 hN1 c0 c1' f0 f1;go_wp2;have R:=HE2.out.res (bx:=[_,_]) (w.heap.size+1+1) rfl (.bool (jSign (s !=t) (a*b))) (.slice A1 m1 c1);have d0:=R.c0;have d1:=R.c1;refine bodyPost_ret (by simp[results,Tryz.results72,go_sem,d0,d1];try rfl) rfl ?_;exact bS (j:=⟨jSign (s !=t) (a*b),a*b,isZ a||isZ b⟩) rfl HN2.out (b:=w.heap.size+1+1) (by simp) (by simp;omega) R.only R.below
end Go.BI
namespace Go.BI
open Go Go.RowKit Go.Proofs
theorem yu(A B:Option Addr)(n m c d:Nat)(l r:List Nat)(w:World)(ha:Digs w A n c l)(hb:Digs w B m d r)(hn:n<1000000)(hm:m<1000000):Calls Tryz.prog 264 #[.slice A n c,.slice B m d] w (MakesDigs (val l+val r) w):=by
 rcases Nat.lt_or_ge n m with h|h
 .rw[Nat.add_comm];exact yb B A m n d c r l w hb ha h hm
 .exact ya A B n m c d l r w ha hb h hn
theorem lh{B:Nat}{w:World}{A:Option Addr}{m c k:Nat}{o:List Nat}(hd:Digs w A m c o)(ho:Own B w A m c)(hk:k<=m)(ht:o.take k=digs (val o)):NumN B w (.slice A k c) (val o) false:=by obtain⟨b,q,cs,T,e,h1,h2,h3⟩:=ho.blk;exact⟨⟨A,k,c,rfl,by rw[<-ht];exact hd.take hk,λh=>(by cases h),λ_=>⟨_,e⟩⟩,λ_=>⟨A,k,c,rfl,⟨b,q,cs,T,e,h1,h2,h3⟩⟩⟩
theorem Env.w0{w W:World}{x y:Value}{T:TypeId}{r:List (Array Value×TypeId)}(h:Env w ((#[x,y],T)::r) W):W.cell? ⟨w.heap.size,0,none⟩=some x/\W.cell? ⟨w.heap.size,1,none⟩=some y/\W.frozen? ⟨w.heap.size,0,none⟩=false/\W.frozen? ⟨w.heap.size,1,none⟩=false:=⟨h.cell 0 0 rfl rfl,h.cell 0 1 rfl rfl,h.free 0 0 rfl,h.free 0 1 rfl⟩
theorem add_same(s:Bool)(A B:Option Addr)(m c m' c' a b:Nat)(w:World)(h:Digs w A m c (digs a))(h':Digs w B m' c' (digs b))(hm:m<1000000)(hm':m'<1000000):Calls Tryz.prog 208 #[.agg #[.bool s,.slice A m c],.bool s,.slice B m' c'] w (MakesJ ⟨jSign s (a+b),a+b,false⟩ w):=by
 have hpE:Env w [(#[.bool s,.slice A m c],50),(#[.bool false,.slice none 0 0],50)] ((w.alloc (.cells #[.bool s,.slice A m c] 50)).alloc (.cells #[.bool false,.slice none 0 0] 50)):=.two;have HE:=Lib.hid hpE;clear hpE;have hss:(s==s)=true:=by cases s<;>rfl
 go_enter Tryz.func208,Tryz.ntmps208;go_wp2_with fail;refine(bn (h.below HE.out.below)).mono ?_;rintro e w0 ⟨rfl,rfl⟩;go_wp2_with fail;refine(yu _ _ _ _ _ _ _ _ _ (h.below HE.out.below) (h'.below HE.out.below) hm hm').mono ?_;rw[aF,aF];rintro e w1 ⟨⟨A1,m1,c1,o,rfl,hd1,hv1,ho1⟩,hB1⟩;have HE1:=Lib.hid (HE.out.step hB1);have HD1:=Lib.hid hd1;have HO1:=Lib.hid ho1;have HV1:=Lib.hid hv1;have HB1:=Lib.hid hB1;obtain⟨e0,e1,_,_⟩:=HE1.out.w0;clear hd1 ho1 hv1 hB1;go_wp2_with fail;refine(iH s _ _ _ _ _ HD1.out).mono ?_;rintro e w2 ⟨⟨k,rfl,hk,ht⟩,hB2⟩;have HE2:=Lib.hid (HE1.out.step hB2);have HN2:=Lib.hid ((lh HD1.out HO1.out hk ht).below hB2);obtain⟨c0,c1',f0,f1⟩:=Env.w1 HE2.out;rw[HV1.out]at HN2⊢;clear hB2 hk ht e0 e1;go_wp2;have R:=HE2.out.res (bx:=[_]) (w.heap.size+1) rfl (.bool (jSign s (a+b))) (.slice A1 k c1);have d0:=R.c0;have d1:=R.c1;refine bodyPost_ret (by simp[results,Tryz.results208,go_sem,d0,d1];try rfl) rfl ?_;exact bS (j:=⟨jSign s (a+b),a+b,false⟩) rfl HN2.out (b:=w.heap.size+1) (by simp) (by simp;omega) R.only R.below
theorem pN{a b:Nat}(h:a<=b):(digs a).length<=(digs b).length:=f_.2 (Nat.lt_of_le_of_lt h (f_.1 (Nat.le_refl _)))
theorem yv(s t:Bool)(A B:Option Addr)(m c m' c' a b:Nat)(w:World)(h:Digs w A m c (digs a))(h':Digs w B m' c' (digs b))(hm:m<1000000)(hst:(s==t)=false)(hab:b<=a):Calls Tryz.prog 208 #[.agg #[.bool s,.slice A m c],.bool t,.slice B m' c'] w (MakesJ ⟨jSign s (a-b),a-b,false⟩ w):=by
 have hpE:Env w [(#[.bool s,.slice A m c],50),(#[.bool false,.slice none 0 0],50)] ((w.alloc (.cells #[.bool s,.slice A m c] 50)).alloc (.cells #[.bool false,.slice none 0 0] 50)):=.two;have HE:=Lib.hid hpE;clear hpE;have hst':s≠t:=by intro e;subst e;cases s<;>cases hst
 have hcv:cmpV a b=(if b<a then 1 else 0):=by unfold cmpV;rw[if_neg (by omega)]
 go_enter Tryz.func208,Tryz.ntmps208;go_wp2_with fail;refine(bn (h.below HE.out.below)).mono ?_;rintro e w0 ⟨rfl,rfl⟩;go_wp2_with fail;refine(iG _ _ _ _ _ _ _ _ _ (h.below HE.out.below) (h'.below HE.out.below) (cT a) (cT b)).mono ?_;rw[aF,aF,hcv];have hge:decide ((if b<a then(1:Int)else 0)>=0)=true:=by split<;>rfl
 generalize (if b<a then(1:Int)else 0)=cv at *;rintro e w1 ⟨rfl,q,rfl⟩;have hge':0<=cv:=by simpa using hge
 go_wp2_with fail;have hE:=(HE.out.drewN q).drew;have HAB:=Lib.hid hab;have HM:=Lib.hid hm;clear hab hm hge hge' hcv hst hst'
 go_region_held3 (λw'=>Env w [(#[.bool s,.slice A m c],50)] w'/\w'.cell? ⟨w.heap.size,0,none⟩=some (.bool s)/\w'.cell? ⟨w.heap.size,1,none⟩=some (.slice A m c))
  (first|exact Env.k1 (by assumption)|exact Env.lg (by assumption))
  (first
   |(go_at_call 266;refine(pI _ _ _ _ _ _ (digs a) (digs b) _ (h.below (Env.below (And.left (by assumption)))) (h'.below (Env.below (And.left (by assumption)))) (by rw[<-h.len,<-h'.len];exact pN HAB.out) (by rw[aF,aF];exact HAB.out) HM.out).mono ?_;rintro e w1 ⟨⟨A1,m1,c1,o,rfl,hd1,hv1,ho1⟩,hB1⟩;have hE1:=Env.step hE hB1)
   |(go_at_call 140;refine(iH s _ _ _ _ _ hd1).mono ?_;rintro e w2 ⟨⟨k,rfl,hk,ht⟩,hB2⟩;have hE2:=Env.step hE1 hB2;obtain⟨c0,c1',f0,f1⟩:=Env.w1 hE2))
 have HE2:=Lib.hid hE2;have HN2:=Lib.hid ((lh hd1 ho1 hk ht).below hB2);have hv2:val o=a-b:=by rw[hv1,aF,aF]
 rw[hv2]at HN2;rw[aF,aF];clear hE hE1 hE2 hB1 hB2 hd1 ho1 hv1 hv2 c0 c1' f0 f1 hk ht;go_wp2;have R:=HE2.out.res (bx:=[_]) (w.heap.size+1) rfl (.bool (jSign s (a-b))) (.slice A1 k c1);have d0:=R.c0;have d1:=R.c1;refine bodyPost_ret (by simp[results,Tryz.results208,go_sem,d0,d1];try rfl) rfl ?_;exact bS (j:=⟨jSign s (a-b),a-b,false⟩) rfl HN2.out (b:=w.heap.size+1) (by simp) (by simp;omega) R.only R.below
theorem add_lt(s t:Bool)(A B:Option Addr)(m c m' c' a b:Nat)(w:World)(h:Digs w A m c (digs a))(h':Digs w B m' c' (digs b))(_hm:m<1000000)(hm':m'<1000000)(hst:(s==t)=false)(hab:a<b):Calls Tryz.prog 208 #[.agg #[.bool s,.slice A m c],.bool t,.slice B m' c'] w (MakesJ ⟨jSign t (b-a),b-a,false⟩ w):=by
 have hpE:Env w [(#[.bool s,.slice A m c],50),(#[.bool false,.slice none 0 0],50)] ((w.alloc (.cells #[.bool s,.slice A m c] 50)).alloc (.cells #[.bool false,.slice none 0 0] 50)):=.two;have HE:=Lib.hid hpE;clear hpE;have hst':s≠t:=by intro e;subst e;cases s<;>cases hst
 have hcv:cmpV a b = -1:=by unfold cmpV;rw[if_pos hab]
 go_enter Tryz.func208,Tryz.ntmps208;go_wp2_with fail;refine(bn (h.below HE.out.below)).mono ?_;rintro e w0 ⟨rfl,rfl⟩;go_wp2_with fail;refine(iG _ _ _ _ _ _ _ _ _ (h.below HE.out.below) (h'.below HE.out.below) (cT a) (cT b)).mono ?_;rw[aF,aF,hcv];rintro e w1 ⟨rfl,q,rfl⟩;have HEq:=Lib.hid (HE.out.drewN q);go_wp2_with fail;refine(pI _ _ _ _ _ _ _ _ _ (h'.below HEq.out.below) (h.below HEq.out.below) (by rw[<-h.len,<-h'.len];exact pN (Nat.le_of_lt hab)) (by rw[aF,aF];exact Nat.le_of_lt hab) hm').mono ?_;rw[aF,aF];rintro e w1 ⟨⟨A1,m1,c1,o,rfl,hd1,hv1,ho1⟩,hB1⟩;have HE1:=Lib.hid (HEq.out.step hB1);have HD1:=Lib.hid hd1;have HO1:=Lib.hid ho1;have HV1:=Lib.hid hv1;have HB1:=Lib.hid hB1;obtain⟨e0,e1,_,_⟩:=HE1.out.w0;clear hd1 ho1 hv1 hB1;go_wp2_with fail;refine(iH t _ _ _ _ _ HD1.out).mono ?_;rintro e w2 ⟨⟨k,rfl,hk,ht⟩,hB2⟩;have HE2:=Lib.hid (HE1.out.step hB2);have HN2:=Lib.hid ((lh HD1.out HO1.out hk ht).below hB2);obtain⟨c0,c1',f0,f1⟩:=Env.w1 HE2.out;rw[HV1.out]at HN2⊢;clear hB2 hk ht e0 e1;go_wp2;have R:=HE2.out.res (bx:=[_]) (w.heap.size+1) rfl (.bool (jSign t (b-a))) (.slice A1 k c1);have d0:=R.c0;have d1:=R.c1;refine bodyPost_ret (by simp[results,Tryz.results208,go_sem,d0,d1];try rfl) rfl ?_;exact bS (j:=⟨jSign t (b-a),b-a,false⟩) rfl HN2.out (b:=w.heap.size+1) (by simp) (by simp;omega) R.only R.below
theorem pO(s t:Bool)(A B:Option Addr)(m c m' c' a b:Nat)(w:World)(h:Digs w A m c (digs a))(h':Digs w B m' c' (digs b))(hm:m<1000000)(hm':m'<1000000){z:Bool}{r:J}(hr:jAddS ⟨s,a,z⟩ t b=some r):Calls Tryz.prog 208 #[.agg #[.bool s,.slice A m c],.bool t,.slice B m' c'] w (MakesJ r w):=by
 unfold jAddS at hr;have hb:∀s t:Bool,beqB s t=(s==t):=by intro s t;cases s<;>cases t<;>rfl
 simp only[hb]at hr;cases hst:s==t with
 |true=>
  have e:s=t:=by simpa using hst
  subst e;rw[hst]at hr;simp only[cond]at hr;cases hw:inW (Nat.add a b)with
  |false=>rw[hw]at hr;cases hr
  |true=>rw[hw]at hr;simp only[Option.some.injEq]at hr;rw[<-hr];exact add_same s A B m c m' c' a b w h h' hm hm'
 |false=>
  rw[hst]at hr;simp only[cond]at hr;cases hle:Nat.ble b a with
  |true=>rw[hle]at hr;simp only[Option.some.injEq]at hr;rw[<-hr];exact yv s t A B m c m' c' a b w h h' hm hst (Nat.le_of_ble_eq_true hle)
  |false=>
   rw[hle]at hr;simp only[Option.some.injEq]at hr;rw[<-hr]
   have hlt:a<b:=by
    rcases Nat.lt_or_ge a b with h1|h1
    .exact h1
    .rw[Nat.ble_eq_true_of_le h1]at hle;cases hle
   exact add_lt s t A B m c m' c' a b w h h' hm hm' hst hlt
end Go.BI
namespace Go.BI
open Go Go.RowKit Go.Proofs
theorem iL{w:World}{A:Option Addr}{m c n:Nat}(h:Digs w A m c (digs n))(hl:n<18446744073709551616):m<1000000:=by have:=(bU h (k:=2)).2 (by omega);omega
theorem iM(s t:Bool)(A B:Option Addr)(m c m' c' a b:Nat)(z u:Bool)(w:World)(h:Num w (.slice A m c) a z)(h':Num w (.slice B m' c') b u)(hla:a<18446744073709551616)(hlb:b<18446744073709551616){r:J}(hr:jAdd ⟨s,a,z⟩ ⟨t,b,u⟩=some r):Calls Tryz.prog 120 #[.agg #[.bool s,.slice A m c],.agg #[.bool t,.slice B m' c']] w (MakesJ r w):=by
 have hmax:=h.digs.max;have hmax':=h'.digs.max;have HM:=Lib.hid (p:=m<1000000) (iL h.digs hla);have HM':=Lib.hid (p:=m'<1000000) (iL h'.digs hlb);have HR:=Lib.hid hr;clear hr hla hlb;have hpE:Env w [(#[.bool s,.slice A m c],50),(#[.bool t,.slice B m' c'],50),(#[.bool false,.slice none 0 0],50)] (((w.alloc (.cells #[.bool s,.slice A m c] 50)).alloc (.cells #[.bool t,.slice B m' c'] 50)).alloc (.cells #[.bool false,.slice none 0 0] 50)):=.three;have HE:=Lib.hid hpE;clear hpE;go_enter Tryz.func120,Tryz.ntmps120;go_wp2_with fail;have hE:=HE.out.drew
 go_region_held3 (λw'=>Env w [(#[.bool s,.slice A m c],50),(#[.bool t,.slice B m' c'],50)] w'/\w'.cell? ⟨w.heap.size,0,none⟩=some (.bool s)/\w'.cell? ⟨w.heap.size,1,none⟩=some (.slice A m c)/\w'.cell? ⟨w.heap.size+1,0,none⟩=some (.bool t)/\w'.cell? ⟨w.heap.size+1,1,none⟩=some (.slice B m' c'))
  (first|exact Env.k2 (by assumption)|exact Env.iJ (by assumption))
  (first
   |(go_at_call_of 145 (Value.slice B m' c');refine(bn (h'.below (Env.below (And.left (by assumption)))).digs).mono ?_;rintro e w1 ⟨rfl,rfl⟩)
   |(go_at_call_of 208 (Value.slice B m' c');refine(pO s t _ _ _ _ _ _ a b _ (h.below (Env.below (And.left (by assumption)))).digs (h'.below (Env.below (And.left (by assumption)))).digs HM.out HM'.out HR.out).mono ?_;rintro e w2 ⟨⟨A1,m1,c1,rfl,hN1⟩,hB2⟩;have hE2:=Env.step hE hB2;obtain⟨c0,c1',f0,f1⟩:=Env.w2 hE2))
 have HE2:=Lib.hid hE2;have HN2:=Lib.hid hN1;clear hE hE2 hB2 hN1 c0 c1' f0 f1;go_wp2;have R:=HE2.out.res (bx:=[_,_]) (w.heap.size+1+1) rfl (.bool r.s) (.slice A1 m1 c1);have d0:=R.c0;have d1:=R.c1;refine bodyPost_ret (by simp[results,Tryz.results120,go_sem,d0,d1];try rfl) rfl ?_;exact bS (j:=r) rfl HN2.out (b:=w.heap.size+1+1) (by simp) (by simp;omega) R.only R.below
theorem yw(s t:Bool)(A B:Option Addr)(m c m' c' a b:Nat)(z u:Bool)(w:World)(h:Num w (.slice A m c) a z)(h':Num w (.slice B m' c') b u)(hla:a<18446744073709551616)(hlb:b<18446744073709551616){r:J}(hr:jSub ⟨s,a,z⟩ ⟨t,b,u⟩=some r):Calls Tryz.prog 229 #[.agg #[.bool s,.slice A m c],.agg #[.bool t,.slice B m' c']] w (MakesJ r w):=by
 have hmax:=h.digs.max;have hmax':=h'.digs.max;have HM:=Lib.hid (p:=m<1000000) (iL h.digs hla);have HM':=Lib.hid (p:=m'<1000000) (iL h'.digs hlb);have HR:=Lib.hid hr;clear hr hla hlb;have hpE:Env w [(#[.bool s,.slice A m c],50),(#[.bool t,.slice B m' c'],50),(#[.bool false,.slice none 0 0],50)] (((w.alloc (.cells #[.bool s,.slice A m c] 50)).alloc (.cells #[.bool t,.slice B m' c'] 50)).alloc (.cells #[.bool false,.slice none 0 0] 50)):=.three;have HE:=Lib.hid hpE;clear hpE;go_enter Tryz.func229,Tryz.ntmps229;go_wp2_with fail;have hE:=HE.out.drew
 go_region_held3 (λw'=>Env w [(#[.bool s,.slice A m c],50),(#[.bool t,.slice B m' c'],50)] w'/\w'.cell? ⟨w.heap.size,0,none⟩=some (.bool s)/\w'.cell? ⟨w.heap.size,1,none⟩=some (.slice A m c)/\w'.cell? ⟨w.heap.size+1,0,none⟩=some (.bool t)/\w'.cell? ⟨w.heap.size+1,1,none⟩=some (.slice B m' c'))
  (first|exact Env.k2 (by assumption)|exact Env.iJ (by assumption))
  (first
   |(go_at_call_of 145 (Value.slice B m' c');refine(bn (h'.below (Env.below (And.left (by assumption)))).digs).mono ?_;rintro e w1 ⟨rfl,rfl⟩)
   |(go_at_call_of 208 (Value.slice B m' c');refine(pO s (!t) _ _ _ _ _ _ a b _ (h.below (Env.below (And.left (by assumption)))).digs (h'.below (Env.below (And.left (by assumption)))).digs HM.out HM'.out HR.out).mono ?_;rintro e w2 ⟨⟨A1,m1,c1,rfl,hN1⟩,hB2⟩;have hE2:=Env.step hE hB2;obtain⟨c0,c1',f0,f1⟩:=Env.w2 hE2))
 have HE2:=Lib.hid hE2;have HN2:=Lib.hid hN1;clear hE hE2 hB2 hN1 c0 c1' f0 f1;go_wp2;have R:=HE2.out.res (bx:=[_,_]) (w.heap.size+1+1) rfl (.bool r.s) (.slice A1 m1 c1);have d0:=R.c0;have d1:=R.c1;refine bodyPost_ret (by simp[results,Tryz.results229,go_sem,d0,d1];try rfl) rfl ?_;exact bS (j:=r) rfl HN2.out (b:=w.heap.size+1+1) (by simp) (by simp;omega) R.only R.below
theorem pP(s:Bool)(A:Option Addr)(m c n:Nat)(z:Bool)(w:World)(h:Num w (.slice A m c) n z):Calls Tryz.prog 125 #[.agg #[.bool s,.slice A m c]] w (MakesJ (J.neg ⟨s,n,z⟩) w):=by
 have hmax:=h.digs.max;have hpE:Env w [(#[.bool s,.slice A m c],50),(#[.bool false,.slice none 0 0],50)] ((w.alloc (.cells #[.bool s,.slice A m c] 50)).alloc (.cells #[.bool false,.slice none 0 0] 50)):=.two;have HE:=Lib.hid hpE;clear hpE;go_enter Tryz.func125,Tryz.ntmps125;go_wp2_with fail;have hE:=HE.out.drew
 go_region_held3 (λw'=>Env w [(#[.bool s,.slice A m c],50)] w'/\w'.cell? ⟨w.heap.size,0,none⟩=some (.bool s)/\w'.cell? ⟨w.heap.size,1,none⟩=some (.slice A m c))
  (first|exact Env.k1 (by assumption)|exact Env.lg (by assumption))
  (first
   |(go_at_call 145;refine(bn (h.below (Env.below (And.left (by assumption)))).digs).mono ?_;rintro e w1 ⟨rfl,rfl⟩)
   |(go_at_call 179;refine(fw _ _ _ _ _ _ (h.below (Env.below (And.left (by assumption))))).mono ?_;rintro e w1 ⟨⟨A1,m1,c1,rfl,hN1⟩,hB1⟩;have hE1:=Env.step hE hB1)
   |(go_at_call 140;refine(ct (!s) hN1.num.digs).mono ?_;rintro e w2 ⟨rfl,hB2⟩;have hE2:=Env.step hE1 hB2;obtain⟨c0,c1',f0,f1⟩:=Env.w1 hE2))
 have HE2:=Lib.hid hE2;have HN2:=Lib.hid (hN1.below hB2);clear hE hE1 hE2 hB1 hB2 hN1 c0 c1' f0 f1;go_wp2;have R:=HE2.out.res (bx:=[_]) (w.heap.size+1) rfl (.bool (jSign (!s) n)) (.slice A1 m1 c1);have d0:=R.c0;have d1:=R.c1;refine bodyPost_ret (by simp[results,Tryz.results125,go_sem,d0,d1];try rfl) rfl ?_;exact bS rfl HN2.out (b:=w.heap.size+1) (by simp) (by simp;omega) R.only R.below
end Go.BI
namespace Go.BI
open Go Go.RowKit Go.Proofs
theorem iO(A:Option Addr)(m c n:Nat)(w:World)(h:Digs w A m c (digs n))(hn:n<18446744073709551616):Calls Tryz.prog 288 #[.slice A m c] w λe w'=>e=.returned (.int .u64 (n:Int))/\∃q,w'=w.drewN q:=by
 have hcap:=h.cap;by_cases h0:n=0
 .subst h0;have hm:m=0:=by have:=h.pos;omega
  subst hm;go_enter Tryz.func288,Tryz.ntmps288;go_wp2;go_ret;exact⟨rfl,0,rfl⟩
 .by_cases h1:n<4294967296
  .have hm:m=1:=by have:=h.pos;have:=(bU h (k:=1)).2 (by omega);omega
   subst hm;obtain⟨bA,oA,rfl,hltA,hcA⟩:=h.cells (by omega);have hca:=hcA 0 (by rw[aW (by omega) h1];simp);simp only[aW (show 0<n by omega) h1,List.getElem_cons_zero,Nat.add_zero]at hca;have hw1:IntKind.u64.wrap (n:Int)=n:=by rw[IntKind.wrap_u64];omega
   clear h hcA;go_enter Tryz.func288,Tryz.ntmps288;go_wp2;go_ret;exact⟨rfl,0,rfl⟩
  .have hm:m=2:=by
    have h2:=(bU h (k:=2)).2 (by omega);have h3:=bU h (k:=1);omega
   subst hm;obtain⟨bA,oA,rfl,hltA,hcA⟩:=h.cells (by omega);have hd:=dR (n:=n) (by omega) hn;have hca:=hcA 0 (by rw[hd];simp);have hcb:=hcA 1 (by rw[hd];simp);simp only[hd,List.getElem_cons_zero,Nat.add_zero,List.getElem_cons_succ]at hca hcb;have HD:=Lib.hid hd;generalize hx:n%4294967296=x at *;generalize hy:n/4294967296=y at *;have hx1:x<4294967296:=by omega
   have hy1:y<4294967296:=by omega
   have hw1:IntKind.u64.wrap (x:Int)=x:=by rw[IntKind.wrap_u64];omega
   have hw2:IntKind.u64.wrap (y:Int)=y:=by rw[IntKind.wrap_u64];omega
   have HX:=Lib.hid hx;have HY:=Lib.hid hy;clear h hcA hd hx hy;go_enter Tryz.func288,Tryz.ntmps288;go_wp2_with fail
   go_quiet (fail)
   go_wp2;go_ret;have hb:bits .or .u64 ((y:Int)*4294967296) (x:Int)=(n:Int):=by rw[bits_join .u64 64 (by decide) (λn h0 h1=>by rw[IntKind.wrap_u64];omega) 32 _ _ (by omega) (by omega) (by omega) (by omega) (by omega) (by omega)];have:=HX.out;have:=HY.out;omega
   exact⟨by rw[<-hb];rfl,_,rfl⟩
def MakesQR(x y:Nat)(yz:Bool)(w:World)(e:Ending)(w':World):Prop:=(∃A m c A' m' c',e=.returned (.tuple #[.slice A m c,.slice A' m' c'])/\NumN w.heap.size w' (.slice A m c) x (isZ x)/\NumN w.heap.size w' (.slice A' m' c') y yz)/\RowKit.Below w.heap.size w w'
theorem below_drewN(w:World)(q:Nat):RowKit.Below w.heap.size w (w.drewN q):=⟨rfl,rfl,rfl,Nat.le_refl _,λ_ _=>rfl⟩
theorem yx(A B:Option Addr)(m c m' c' a b:Nat)(z:Bool)(w:World)(h:Num w (.slice A m c) a z)(h':Digs w B m' c' (digs b))(hab:a<b):Calls Tryz.prog 287 #[.slice A m c,.slice B m' c'] w (MakesQR 0 a z w):=by
 go_enter Tryz.func287,Tryz.ntmps287;go_wp2_with fail;refine(iG _ _ _ _ _ _ _ _ _ h.digs h' (cT a) (cT b)).mono ?_;rw[aF,aF,show cmpV a b = -1 by unfold cmpV;rw[if_pos hab]];rintro e w1 ⟨rfl,q,rfl⟩;go_wp2_with fail;refine(fw _ _ _ a z _ (h.below (below_drewN w q))).mono ?_;rintro e w1 ⟨⟨A1,m1,c1,rfl,hN1⟩,hB1⟩;have HN1:=Lib.hid hN1;have HB1:=Lib.hid hB1;clear hN1 hB1;go_wp2
 go_ret2
 exact⟨⟨_,_,_,_,_,_,rfl,.nil _ _,HN1.out⟩,(below_drewN w q).trans HB1.out⟩
theorem yy(A B:Option Addr)(m c m' c' a b:Nat)(w:World)(h:Digs w A m c (digs a))(h':Digs w B m' c' (digs b))(hab:b<=a)(hla:a<18446744073709551616)(hb:0<b):Calls Tryz.prog 287 #[.slice A m c,.slice B m' c'] w (MakesQR (a/b) (a%b) (isZ (a%b)) w):=by
 have hcv:cmpV a b=(if b<a then 1 else 0):=by unfold cmpV;rw[if_neg (by omega)]
 have hm:m<=2:=(bU h (k:=2)).2 (by omega);have hm':m'<=2:=(bU h' (k:=2)).2 (by omega);have HAB:=Lib.hid hab;have HLA:=Lib.hid hla;clear hab hla;have hq1:a/b<18446744073709551616:=Nat.lt_of_le_of_lt (Nat.div_le_self a b) HLA.out;have hq2:a%b<18446744073709551616:=Nat.lt_of_le_of_lt (Nat.mod_le a b) HLA.out;have HQ1:=Lib.hid hq1;have HQ2:=Lib.hid hq2;clear hq1 hq2;have hbz:((b:Int)==0)=false:=beq_false_of_ne (by omega);have hqe:Int.tdiv (a:Int) (b:Int)=((a/b:Nat):Int):=rfl;have hre:Int.tmod (a:Int) (b:Int)=((a%b:Nat):Int):=rfl;have hqe':(a:Int)/(b:Int)=((a/b:Nat):Int):=rfl;have hre':(a:Int)%(b:Int)=((a%b:Nat):Int):=rfl;have hb0:¬(b:Int)=0:=by omega
 generalize a/b=x at *;generalize a%b=y at *;have hwx:IntKind.u64.wrap (x:Int)=x:=by rw[IntKind.wrap_u64];have:=HQ1.out;omega
 go_enter Tryz.func287,Tryz.ntmps287;go_wp2_with fail;refine(iG _ _ _ _ _ _ _ _ _ h h' (cT a) (cT b)).mono ?_;rw[aF,aF,hcv];have hge:decide ((if b<a then(1:Int)else 0)<0)=false:=by split<;>rfl
 generalize (if b<a then(1:Int)else 0)=cv at *;rintro e w1 ⟨rfl,q,rfl⟩;go_wp2_with fail;refine(iO _ _ _ a _ (h.below (below_drewN w q)) HLA.out).mono ?_;rintro e w1 ⟨rfl,q1,rfl⟩;go_wp2_with fail;refine(iO _ _ _ b _ (h'.below (below_drewN w (q+q1))) (Nat.lt_of_le_of_lt HAB.out HLA.out)).mono ?_;rintro e w1 ⟨rfl,q2,rfl⟩;go_wp2_with fail;have hB0:RowKit.Below w.heap.size w (w.drewN (q+q1+q2)).drew:=(below_drewN w (q+q1+q2)).drew
 go_region_with
  (first
   |(go_at_call_of 141 x;refine(ep x _ HQ1.out).mono ?_;rintro e w1 ⟨⟨A1,m1,c1,rfl,hN1⟩,hB1⟩;have hB2:RowKit.Below w.heap.size w w1:=hB0.trans hB1)
   |(go_at_call_of 141 y;refine(ep y _ HQ2.out).mono ?_;rintro e w2 ⟨⟨A2,m2,c2,rfl,hN2⟩,hB3⟩;have hB4:RowKit.Below w.heap.size w w2:=hB2.trans (hB3.mono hB2.size)))
 all_goals
  have HN1:=Lib.hid (hN1.below hB3);have HN2:=Lib.hid (hN2.mono hB2.size);have HB4:=Lib.hid hB4;clear hN1 hN2 hB1 hB2 hB3 hB4 hB0;go_wp2
  go_ret2
  exact⟨⟨_,_,_,_,_,_,rfl,HN1.out,HN2.out⟩,HB4.out⟩
theorem yA(A B:Option Addr)(m c m' c' a b:Nat)(z:Bool)(w:World)(h:Num w (.slice A m c) a z)(h':Digs w B m' c' (digs b))(hla:a<18446744073709551616)(hb:0<b):Calls Tryz.prog 287 #[.slice A m c,.slice B m' c'] w (MakesQR (a/b) (a%b) (bif Nat.blt a b then z else isZ (a%b)) w):=by
 rcases Nat.lt_or_ge a b with hab|hab
 .rw[Nat.div_eq_of_lt hab,Nat.mod_eq_of_lt hab,show Nat.blt a b=true from Nat.ble_eq_true_of_le hab];exact yx A B m c m' c' a b z w h h' hab
 .have:Nat.blt a b=false:=by
   cases hq:Nat.blt a b with
   |false=>rfl
   |true=>have:a<b:=Nat.le_of_ble_eq_true hq;omega
  rw[this];exact yy A B m c m' c' a b w h.digs h' hab hla hb
end Go.BI
namespace Go.BI
open Go Go.RowKit Go.Proofs
def MakesDM(q:J)(w:World)(e:Ending)(w':World):Prop:=(∃A m c A' c' sr,e=.returned (.tuple #[.agg #[.bool q.s,.slice A m c],.agg #[.bool sr,.slice A' 0 c'],.int .i64 0])/\NumN w.heap.size w' (.slice A m c) q.n q.z)/\RowKit.Below w.heap.size w w'
theorem yB(s t:Bool)(A B:Option Addr)(m c m' c' a b:Nat)(z u:Bool)(w:World)(h:Num w (.slice A m c) a z)(h':Num w (.slice B m' c') b u)(hla:a<18446744073709551616)(hb:0<b)(hr:a%b=0):Calls Tryz.prog 224 #[.agg #[.bool s,.slice A m c],.agg #[.bool t,.slice B m' c']] w (MakesDM ⟨jSign (s !=t) (a/b),a/b,isZ (a/b)⟩ w):=by
 have hmax:=h.digs.max;have hmax':=h'.digs.max;have hpE:Env w [(#[.bool s,.slice A m c],50),(#[.bool t,.slice B m' c'],50),(#[.bool false,.slice none 0 0],50),(#[.bool false,.slice none 0 0],50)] ((((w.alloc (.cells #[.bool s,.slice A m c] 50)).alloc (.cells #[.bool t,.slice B m' c'] 50)).alloc (.cells #[.bool false,.slice none 0 0] 50)).alloc (.cells #[.bool false,.slice none 0 0] 50)):=.four;have HE:=Lib.hid hpE;clear hpE;have hm0:((m':Int)==0)=false:=beq_false_of_ne (by have:=h'.digs.pos;omega);go_enter Tryz.func224,Tryz.ntmps224;go_wp2_with fail;refine(bn (h'.below HE.out.below).digs).mono ?_;rintro e w1 ⟨rfl,rfl⟩;go_wp2_with fail;refine(bn (h.below HE.out.below).digs).mono ?_;rintro e w1 ⟨rfl,rfl⟩;go_wp2_with fail;refine(yA _ _ _ _ _ _ a b z _ (h.below HE.out.below) (h'.below HE.out.below).digs hla hb).mono ?_;rintro e w1 ⟨⟨A1,m1,c1,A2,m2,c2,rfl,hN1,hN2⟩,hB1⟩;have hm2:m2=0:=by rw[hr]at hN2;have:=hN2.num.digs.pos;omega
 subst hm2;have HE1:=Lib.hid (HE.out.step hB1);have a0:w1.cell? ⟨w.heap.size,0,none⟩=some (.bool s):=HE1.out.cell 0 0 rfl rfl;have a1:w1.cell? ⟨w.heap.size,1,none⟩=some (.slice A m c):=HE1.out.cell 0 1 rfl rfl;have b0:w1.cell? ⟨w.heap.size+1,0,none⟩=some (.bool t):=HE1.out.cell 1 0 rfl rfl;have b1:w1.cell? ⟨w.heap.size+1,1,none⟩=some (.slice B m' c'):=HE1.out.cell 1 1 rfl rfl;have HN1:=Lib.hid hN1;have HN2:=Lib.hid hN2;have HB1:=Lib.hid hB1;clear hN1 hN2 hB1;cases s
 .clear hla hr;go_wp2_with fail;refine(ct t HN1.out.num.digs).mono ?_;rintro e w2 ⟨rfl,hB2⟩;have HE2:=Lib.hid (HE1.out.step hB2);have HN12:=Lib.hid (HN1.out.below hB2);have HN22:=Lib.hid (HN2.out.below hB2);clear hB2 a0 a1 b0 b1;go_wp2_with fail;refine(ct false HN22.out.num.digs).mono ?_;rintro e w3 ⟨rfl,hB3⟩;have HE3:=Lib.hid (HE2.out.step hB3);have HN13:=Lib.hid (HN12.out.below hB3);have HN23:=Lib.hid (HN22.out.below hB3);have q0:w3.cell? ⟨w.heap.size+1+1,0,none⟩=some (.bool false):=HE3.out.cell 2 0 rfl rfl;have q1:w3.cell? ⟨w.heap.size+1+1,1,none⟩=some (.slice none 0 0):=HE3.out.cell 2 1 rfl rfl;have r0:w3.cell? ⟨w.heap.size+1+1+1,0,none⟩=some (.bool false):=HE3.out.cell 3 0 rfl rfl;have r1:w3.cell? ⟨w.heap.size+1+1+1,1,none⟩=some (.slice none 0 0):=HE3.out.cell 3 1 rfl rfl;have fq0:w3.frozen? ⟨w.heap.size+1+1,0,none⟩=false:=HE3.out.free 2 0 rfl;have fq1:w3.frozen? ⟨w.heap.size+1+1,1,none⟩=false:=HE3.out.free 2 1 rfl;have fr0:w3.frozen? ⟨w.heap.size+1+1+1,0,none⟩=false:=HE3.out.free 3 0 rfl;have fr1:w3.frozen? ⟨w.heap.size+1+1+1,1,none⟩=false:=HE3.out.free 3 1 rfl;clear hB3;go_wp2;have R:=HE3.out.pK (.bool (jSign t (a/b))) (.slice A1 m1 c1) (.bool (jSign false (a%b))) (.slice A2 0 c2);have z0:=R.c0;have z1:=R.c1;have z2:=R.d0;have z3:=R.d1;refine bodyPost_ret (by simp[results,Tryz.results224,go_sem,z0,z1,z2,z3];try rfl) rfl ?_;rw[show(false !=t)=t by cases t<;>rfl];exact⟨⟨_,_,_,_,_,_,rfl,(R.keep (by simp) (by simp) HN13.out).mono (by simp;omega)⟩,R.below⟩
 .clear hla hr;go_wp2_with fail;refine(ct (!t) HN1.out.num.digs).mono ?_;rintro e w2 ⟨rfl,hB2⟩;have HE2:=Lib.hid (HE1.out.step hB2);have HN12:=Lib.hid (HN1.out.below hB2);have HN22:=Lib.hid (HN2.out.below hB2);clear hB2 a0 a1 b0 b1;go_wp2_with fail;refine(ct false HN22.out.num.digs).mono ?_;rintro e w3 ⟨rfl,hB3⟩;have HE3:=Lib.hid (HE2.out.step hB3);have HN13:=Lib.hid (HN12.out.below hB3);have HN23:=Lib.hid (HN22.out.below hB3);have q0:w3.cell? ⟨w.heap.size+1+1,0,none⟩=some (.bool false):=HE3.out.cell 2 0 rfl rfl;have q1:w3.cell? ⟨w.heap.size+1+1,1,none⟩=some (.slice none 0 0):=HE3.out.cell 2 1 rfl rfl;have r0:w3.cell? ⟨w.heap.size+1+1+1,0,none⟩=some (.bool false):=HE3.out.cell 3 0 rfl rfl;have r1:w3.cell? ⟨w.heap.size+1+1+1,1,none⟩=some (.slice none 0 0):=HE3.out.cell 3 1 rfl rfl;have fq0:w3.frozen? ⟨w.heap.size+1+1,0,none⟩=false:=HE3.out.free 2 0 rfl;have fq1:w3.frozen? ⟨w.heap.size+1+1,1,none⟩=false:=HE3.out.free 2 1 rfl;have fr0:w3.frozen? ⟨w.heap.size+1+1+1,0,none⟩=false:=HE3.out.free 3 0 rfl;have fr1:w3.frozen? ⟨w.heap.size+1+1+1,1,none⟩=false:=HE3.out.free 3 1 rfl;clear hB3;go_wp2;have R:=HE3.out.pK (.bool (jSign (!t) (a/b))) (.slice A1 m1 c1) (.bool (jSign false (a%b))) (.slice A2 0 c2);have z0:=R.c0;have z1:=R.c1;have z2:=R.d0;have z3:=R.d1;refine bodyPost_ret (by simp[results,Tryz.results224,go_sem,z0,z1,z2,z3];try rfl) rfl ?_;rw[show(true !=t) = !t by cases t<;>rfl];exact⟨⟨_,_,_,_,_,_,rfl,(R.keep (by simp) (by simp) HN13.out).mono (by simp;omega)⟩,R.below⟩
def MakesE(q:J)(w:World)(e:Ending)(w':World):Prop:=(∃A m c v,e=.returned (.tuple #[.agg #[.bool q.s,.slice A m c],v])/\v=.int .i64 0/\NumN w.heap.size w' (.slice A m c) q.n q.z)/\RowKit.Below w.heap.size w w'
theorem lj(s t:Bool)(A B:Option Addr)(m c m' c' a b:Nat)(z u:Bool)(w:World)(h:Num w (.slice A m c) a z)(h':Num w (.slice B m' c') b u)(hla:a<18446744073709551616)(hb:0<b)(hr:a%b=0):Calls Tryz.prog 153 #[.agg #[.bool s,.slice A m c],.agg #[.bool t,.slice B m' c']] w (MakesE ⟨jSign (s !=t) (a/b),a/b,isZ (a/b)⟩ w):=by have hpE:Env w [(#[.bool s,.slice A m c],50),(#[.bool t,.slice B m' c'],50),(#[.bool false,.slice none 0 0],50)] (((w.alloc (.cells #[.bool s,.slice A m c] 50)).alloc (.cells #[.bool t,.slice B m' c'] 50)).alloc (.cells #[.bool false,.slice none 0 0] 50)):=.three;have HE:=Lib.hid hpE;clear hpE;go_enter Tryz.func153,Tryz.ntmps153;go_wp2_with fail;refine(yB s t _ _ _ _ _ _ a b z u _ (h.below HE.out.below) (h'.below HE.out.below) hla hb hr).mono ?_;rintro e w1 ⟨⟨A1,m1,c1,A2,c2,sr,rfl,hN1⟩,hB1⟩;have HE1:=Lib.hid (HE.out.step hB1);have HN1:=Lib.hid hN1;clear hN1 hB1;generalize hq:jSign (s !=t) (a/b)=sg at *;have hB2:RowKit.Below w1.heap.size w1 ((w1.alloc (.cells #[.bool sg,.slice A1 m1 c1] 50)).alloc (.cells #[.bool sr,.slice A2 0 c2] 50)):=(ax _ _).alloc (by rw[aK];omega) _;have HEW:=Lib.hid (HE1.out.step hB2);have HNW:=Lib.hid (HN1.out.below hB2);have q0:((w1.alloc (.cells #[.bool sg,.slice A1 m1 c1] 50)).alloc (.cells #[.bool sr,.slice A2 0 c2] 50)).cell? ⟨w.heap.size+1+1,0,none⟩=some (.bool false):=HEW.out.cell 2 0 rfl rfl;have q1:((w1.alloc (.cells #[.bool sg,.slice A1 m1 c1] 50)).alloc (.cells #[.bool sr,.slice A2 0 c2] 50)).cell? ⟨w.heap.size+1+1,1,none⟩=some (.slice none 0 0):=HEW.out.cell 2 1 rfl rfl;have fq0:((w1.alloc (.cells #[.bool sg,.slice A1 m1 c1] 50)).alloc (.cells #[.bool sr,.slice A2 0 c2] 50)).frozen? ⟨w.heap.size+1+1,0,none⟩=false:=HEW.out.free 2 0 rfl;have fq1:((w1.alloc (.cells #[.bool sg,.slice A1 m1 c1] 50)).alloc (.cells #[.bool sr,.slice A2 0 c2] 50)).frozen? ⟨w.heap.size+1+1,1,none⟩=false:=HEW.out.free 2 1 rfl;clear hB2;go_wp2;have R:=HEW.out.res (bx:=[_,_]) (w.heap.size+1+1) rfl (.bool sg) (.slice A1 m1 c1);have d0:=R.c0;have d1:=R.c1;refine bodyPost_ret (by simp[results,Tryz.results153,go_sem,d0,d1];try rfl) rfl ?_;exact⟨⟨_,_,_,_,by rw[<-hq],rfl,(HNW.out.only (b:=w.heap.size+1+1) (by simp) R.only).mono (by simp;omega)⟩,R.below⟩
end Go.BI
namespace Go.BI
open Go Go.RowKit Go.Proofs
theorem iC(a b:Nat):Nat.gcd b (a%b)=Nat.gcd a b:=by rw[Nat.gcd_comm,<-Nat.gcd_rec,Nat.gcd_comm]
def EucRel(g:Nat)(w:World)(x y:Value)(wr:World):Prop:=∃p q n:Nat,x=.int .u64 p/\y=.int .u64 q/\Nat.gcd p q=g/\p<18446744073709551616/\q<18446744073709551616/\(0<p\/0<q)/\wr=w.drewN n
theorem yC(A B:Option Addr)(m c c' a:Nat)(z:Bool)(w:World)(h:Num w (.slice A m c) a z):Calls Tryz.prog 225 #[.slice A m c,.slice B 0 c'] w (MakesC a z w):=by
 go_enter Tryz.func225,Tryz.ntmps225;go_wp2
 go_loopw [0,1] (λx y wr=>x=.slice A m c/\y=.slice B 0 c'/\wr=w) (λ_ _ _=>0)
 case atStart=>exact⟨rfl,rfl,rfl⟩
 case round=>obtain⟨rfl,rfl,rfl⟩:=hrel;go_wp2_with fail;refine(fw _ _ _ a z _ h).mono ?_;rintro e w1 ⟨⟨A1,m1,c1,rfl,hN1⟩,hB1⟩;have HN1:=Lib.hid hN1;have HB1:=Lib.hid hB1;clear hN1 hB1;go_wp2;go_ret;exact⟨⟨_,_,_,rfl,HN1.out⟩,HB1.out⟩
theorem yD(A B:Option Addr)(m c m' c' a b:Nat)(w:World)(h:Digs w A m c (digs a))(h':Digs w B m' c' (digs b))(hla:a<18446744073709551616)(hlb:b<18446744073709551616)(hb:0<b):Calls Tryz.prog 225 #[.slice A m c,.slice B m' c'] w (MakesC (Nat.gcd a b) false w):=by
 have hm:m<=2:=(bU h (k:=2)).2 (by omega);have hm':m'<=2:=(bU h' (k:=2)).2 (by omega);have hp:0<m':=h'.pos.2 hb;go_enter Tryz.func225,Tryz.ntmps225;go_wp2
 go_loopw [0,1] (λx y wr=>x=.slice A m c/\y=.slice B m' c'/\wr=w) (λ_ _ _=>0)
 case atStart=>exact⟨rfl,rfl,rfl⟩
 case round=>
  obtain⟨rfl,rfl,rfl⟩:=hrel;go_wp2_with fail;refine(iO _ _ _ a _ h hla).mono ?_;rintro e w1 ⟨rfl,q1,rfl⟩;go_wp2_with fail;refine(iO _ _ _ b _ (h'.below (below_drewN _ q1)) hlb).mono ?_;rintro e w1 ⟨rfl,q2,rfl⟩;have HWR:∃w0:World,w0=wr:=⟨_,rfl⟩;obtain⟨w0,hw0⟩:=HWR;have HP:=Lib.hid hb;have HH:=Lib.hid h;have HH':=Lib.hid h';subst hw0;clear h h';go_wp2_with fail
  go_loopw [5,6] (λx y wr=>EucRel (Nat.gcd a b) w0 x y wr) (λ_ y _=>(intOf y).toNat)
  case atStart=>exact⟨a,b,_,rfl,rfl,rfl,hla,hlb,.inr hb,rfl⟩
  case round=>
   obtain⟨p,q,n,rfl,rfl,hg,hp1,hq1,hpos,rfl⟩:=hrel;have G:=Lib.hid hg;have HP1:=Lib.hid hp1;have HQ1:=Lib.hid hq1;have HPOS:=Lib.hid hpos;clear hg hp1 hq1 hpos;by_cases h0:q=0
   .subst h0;have hgp:Nat.gcd a b=p:=by rw[<-G.out,Nat.gcd_zero_right]
    have hp0:p≠0:=by have:=HPOS.out;omega
    go_wp2_with fail;refine(ep p _ HP1.out).mono ?_;rintro e w1 ⟨⟨A1,m1,c1,rfl,hN1⟩,hB1⟩;have HN1:=Lib.hid hN1;have HB1:=Lib.hid hB1;clear hN1 hB1;go_wp2;go_ret;have hn:=HN1.out;rw[bz hp0]at hn;rw[hgp];exact⟨⟨_,_,_,rfl,hn⟩,(below_drewN _ _).trans HB1.out⟩
   .have hne:((q:Int)==0)=false:=beq_false_of_ne (by omega);have hne':((q:Int) !=0)=true:=by rw[bne,hne];rfl
    have hq0:¬(q:Int)=0:=by omega
    go_wp2
    go_quiet (fail)
    go_roundw
    case rel=>refine⟨_,_,_,_,_,_,_,_,?_,rfl⟩;exact⟨q,p%q,n+nq,rfl,rfl,by rw[iC];exact G.out,HQ1.out,Nat.lt_of_le_of_lt (Nat.mod_le p q) HP1.out,.inl (by omega),World.drewN_drewN ..⟩
    case measure=>simp[intOf];have:=Nat.mod_lt p (Nat.pos_of_ne_zero h0);omega
theorem yE(A B:Option Addr)(m c m' c' a b:Nat)(z u:Bool)(w:World)(h:Num w (.slice A m c) a z)(h':Num w (.slice B m' c') b u)(hla:a<18446744073709551616)(hlb:b<18446744073709551616):Calls Tryz.prog 225 #[.slice A m c,.slice B m' c'] w (MakesC (Nat.gcd a b) (bif isZ b then z else false) w):=by
 by_cases hb:b=0
 .subst hb;have hm:m'=0:=by have:=h'.digs.pos;omega
  subst hm;rw[Nat.gcd_zero_right];exact yC A B m c c' a z w h
 .rw[show isZ b=false from bz hb];exact yD A B m c m' c' a b w h.digs h'.digs hla hlb (by omega)
end Go.BI
namespace Go.BI
open Go Go.RowKit Go.Proofs
theorem fx(n:Nat):jSign false n=false:=by unfold jSign;cases Nat.beq n 0<;>rfl
theorem ll(s t:Bool)(A B:Option Addr)(m c m' c' a b:Nat)(z u:Bool)(w:World)(h:Num w (.slice A m c) a z)(h':Num w (.slice B m' c') b u)(hla:a<18446744073709551616)(hlb:b<18446744073709551616):Calls Tryz.prog 154 #[.agg #[.bool s,.slice A m c],.agg #[.bool t,.slice B m' c']] w (MakesJ (jGcd ⟨s,a,z⟩ ⟨t,b,u⟩) w):=by
 have hmax:=h.digs.max;have hmax':=h'.digs.max;have HLA:=Lib.hid hla;have HLB:=Lib.hid hlb;clear hla hlb;have hpE:Env w [(#[.bool s,.slice A m c],50),(#[.bool t,.slice B m' c'],50),(#[.bool false,.slice none 0 0],50)] (((w.alloc (.cells #[.bool s,.slice A m c] 50)).alloc (.cells #[.bool t,.slice B m' c'] 50)).alloc (.cells #[.bool false,.slice none 0 0] 50)):=.three;have HE:=Lib.hid hpE;clear hpE;go_enter Tryz.func154,Tryz.ntmps154;go_wp2_with fail;have hE:=HE.out.drew
 go_region_held3 (λw'=>Env w [(#[.bool s,.slice A m c],50),(#[.bool t,.slice B m' c'],50)] w'/\w'.cell? ⟨w.heap.size,0,none⟩=some (.bool s)/\w'.cell? ⟨w.heap.size,1,none⟩=some (.slice A m c)/\w'.cell? ⟨w.heap.size+1,0,none⟩=some (.bool t)/\w'.cell? ⟨w.heap.size+1,1,none⟩=some (.slice B m' c'))
  (first|exact Env.k2 (by assumption)|exact Env.iJ (by assumption))
  (first
   |(go_at_call_of 145 (Value.slice A m c);refine(bn (h.below (Env.below (And.left (by assumption)))).digs).mono ?_;rintro e w1 ⟨rfl,rfl⟩)
   |(go_at_call_of 145 (Value.slice B m' c');refine(bn (h'.below (Env.below (And.left (by assumption)))).digs).mono ?_;rintro e w1 ⟨rfl,rfl⟩)
   |(go_at_call 225;refine(yE _ _ _ _ _ _ a b z u _ (h.below (Env.below (And.left (by assumption)))) (h'.below (Env.below (And.left (by assumption)))) HLA.out HLB.out).mono ?_;rintro e w1 ⟨⟨A1,m1,c1,rfl,hN1⟩,hB1⟩;have hE1:=Env.step hE hB1)
   |(go_at_call 140;refine(ct false hN1.num.digs).mono ?_;rintro e w2 ⟨rfl,hB2⟩;have hE2:=Env.step hE1 hB2;obtain⟨c0,c1',f0,f1⟩:=Env.w2 hE2))
 have HE2:=Lib.hid hE2;have HN2:=Lib.hid (hN1.below hB2);clear hE hE1 hE2 hB1 hB2 hN1 c0 c1' f0 f1;go_wp2;have R:=HE2.out.res (bx:=[_,_]) (w.heap.size+1+1) rfl (.bool (jSign false (Nat.gcd a b))) (.slice A1 m1 c1);have d0:=R.c0;have d1:=R.c1;refine bodyPost_ret (by simp[results,Tryz.results154,go_sem,d0,d1];try rfl) rfl ?_;exact bS (j:=jGcd ⟨s,a,z⟩ ⟨t,b,u⟩) (by rw[fx];rfl) HN2.out (b:=w.heap.size+1+1) (by simp) (by simp;omega) R.only R.below
theorem dJ(s:Bool)(A:Option Addr)(m c a:Nat)(w:World)(h:Digs w A m c (digs a)):Calls Tryz.prog 209 #[.agg #[.bool s,.slice A m c]] w λe w'=>e=.returned (.bool (Nat.beq a 1&&!s))/\RowKit.Below w.heap.size w w':=by
 have hcap:=h.cap;by_cases hm:m=1
 .subst hm;have hp:=h.pos;have h1:=bU h (k:=1);have ha1:a<4294967296:=by omega
  have ha0:0<a:=by omega
  obtain⟨bA,oA,rfl,hltA,hcA⟩:=h.cells (by omega);have hca:=hcA 0 (by rw[aW ha0 ha1];simp);simp only[aW ha0 ha1,List.getElem_cons_zero,Nat.add_zero]at hca;clear h hcA hp h1;by_cases he:a=1
  .subst he;have hc1:∀s:Bool,(w.alloc (.cells #[.bool s,.slice (some ⟨bA,oA,none⟩) 1 c] 50)).cell? ⟨bA,oA,none⟩=some (.int .u32 1):=λs=>((ax w _).cell (p:=⟨bA,oA,none⟩) hltA).trans hca
   cases s with
   |true=>go_enter Tryz.func209,Tryz.ntmps209;go_wp2;go_ret;exact⟨rfl,ax _ _⟩
   |false=>go_enter Tryz.func209,Tryz.ntmps209;go_wp2;go_ret;exact⟨rfl,ax _ _⟩
  .have hne:((a:Int)==1)=false:=beq_false_of_ne (by omega)
   have hr:∀s:Bool,(Nat.beq a 1&&!s)=false:=by
    intro s
    have:Nat.beq a 1=false:=by
     cases hq:Nat.beq a 1 with
     |false=>rfl
     |true=>exact absurd (Nat.eq_of_beq_eq_true hq) he
    rw[this];rfl
   have hc1:∀s:Bool,(w.alloc (.cells #[.bool s,.slice (some ⟨bA,oA,none⟩) 1 c] 50)).cell? ⟨bA,oA,none⟩=some (.int .u32 (a:Int)):=λs=>((ax w _).cell (p:=⟨bA,oA,none⟩) hltA).trans hca
   rw[hr];go_enter Tryz.func209,Tryz.ntmps209;go_wp2;go_ret;exact⟨rfl,ax _ _⟩
 .have hne:((m:Int)==1)=false:=beq_false_of_ne (by omega)
  have hr:(Nat.beq a 1&&!s)=false:=by
   have:Nat.beq a 1=false:=by
    cases hq:Nat.beq a 1 with
    |false=>rfl
    |true=>have e:=Nat.eq_of_beq_eq_true hq;subst e;have:=h.len;rw[aW (by omega) (by omega)]at this;exact absurd this.symm hm
   rw[this];rfl
  rw[hr];go_enter Tryz.func209,Tryz.ntmps209;go_wp2;go_ret;exact⟨rfl,ax _ _⟩
end Go.BI
namespace Go.BI
open Go Go.RowKit Go.Proofs
theorem Env.rw2{w W:World}{x y x' y':Value}{T T':TypeId}{r:List (Array Value×TypeId)}(h:Env w ((#[x,y],T)::(#[x',y'],T')::r) W):(W.cell? ⟨w.heap.size,0,none⟩=some x/\W.cell? ⟨w.heap.size,1,none⟩=some y/\W.cell? ⟨w.heap.size+1,0,none⟩=some x'/\W.cell? ⟨w.heap.size+1,1,none⟩=some y')/\W.frozen? ⟨w.heap.size,0,none⟩=false/\W.frozen? ⟨w.heap.size,1,none⟩=false/\W.frozen? ⟨w.heap.size+1,0,none⟩=false/\W.frozen? ⟨w.heap.size+1,1,none⟩=false:=⟨⟨h.cell 0 0 rfl rfl,h.cell 0 1 rfl rfl,h.cell 1 0 rfl rfl,h.cell 1 1 rfl rfl⟩,h.free 0 0 rfl,h.free 0 1 rfl,h.free 1 0 rfl,h.free 1 1 rfl⟩
def MakesQ(q:Q)(w:World)(e:Ending)(w':World):Prop:=(∃A m c A' m' c',e=.returned (.agg #[.bool q.num.s,.slice A m c,.bool q.den.s,.slice A' m' c'])/\NumN w.heap.size w' (.slice A m c) q.num.n q.num.z/\NumN w.heap.size w' (.slice A' m' c') q.den.n q.den.z/\Apart A m A' m')/\RowKit.Below w.heap.size w w'
theorem yF(s t:Bool)(A B:Option Addr)(m c m' c' a b:Nat)(z u:Bool)(w:World)(h:Num w (.slice A m c) a z)(h':Num w (.slice B m' c') b u)(hz:b=0\/(b≠0/\a=0)):Calls Tryz.prog 124 #[.agg #[.bool s,.slice A m c],.agg #[.bool t,.slice B m' c']] w (MakesQ ⟨J.null,jOne⟩ w):=by
 have HZ:=Lib.hid hz;clear hz;have hpE:Env w [(#[.bool s,.slice A m c],50),(#[.bool t,.slice B m' c'],50),(#[.bool false,.slice none 0 0,.bool false,.slice none 0 0],52)] (((w.alloc (.cells #[.bool s,.slice A m c] 50)).alloc (.cells #[.bool t,.slice B m' c'] 50)).alloc (.cells #[.bool false,.slice none 0 0,.bool false,.slice none 0 0] 52)):=.three;have HE:=Lib.hid hpE;clear hpE;go_enter Tryz.func124,Tryz.ntmps124;go_wp2_with fail;have hE:=HE.out.drew;have hb0:=hE.below
 go_region_with
  (first
   |(go_at_call_of 83 (Value.slice A m c);refine(cw s A m c a z _ (h.below (Env.below hE))).mono ?_;rintro e w1 ⟨⟨A1,m1,c1,rfl,hN1⟩,hB1⟩;have hE1:=Env.step hE hB1;have hb1:=hE1.below;obtain⟨⟨p0,p1,p2,p3⟩,p4,p5,p6,p7⟩:=Env.rw2 hE1)
   |(go_at_call_of 83 (Value.slice B m' c');refine(cw t B m' c' b u _ (h'.below (Env.below hE1))).mono ?_;rintro e w2 ⟨⟨A2,m2,c2,rfl,hN2⟩,hB2⟩;have hE2:=Env.step hE1 hB2;have hb2:=hE2.below;obtain⟨⟨q0,q1,q2,q3⟩,q4,q5,q6,q7⟩:=Env.rw2 hE2))
 all_goals
  have HE3:=Lib.hid (Env.iK hE2 (.bool (J.normal ⟨s,a,z⟩).s) (.slice A1 m1 c1) (.bool (J.normal ⟨t,b,u⟩).s) (.slice A2 m2 c2));have HN1:=Lib.hid (Env.dj (w:=w) (X:=.bool (J.normal ⟨s,a,z⟩).s) (Y:=.slice A1 m1 c1) (X':=.bool (J.normal ⟨t,b,u⟩).s) (Y':=.slice A2 m2 c2) (by simp) (hN1.below hB2));have HN2:=Lib.hid (Env.dj (w:=w) (X:=.bool (J.normal ⟨s,a,z⟩).s) (Y:=.slice A1 m1 c1) (X':=.bool (J.normal ⟨t,b,u⟩).s) (Y':=.slice A2 m2 c2) (by have h3:w.heap.size+3<=w1.heap.size:=hE1.size;omega) hN2);have HAP:=Lib.hid (Apart.later hN1 hN2 (Nat.le_refl _));clear hN1 hN2 hB1 hB2 hE hE1 hE2 hb0 hb1 hb2 p0 p1 p2 p3 p4 p5 p6 p7 q0 q1 q2 q3 q4 q5 q6 q7
  revert HE3 HN1 HN2
  generalize ((((w2.setCell ⟨w.heap.size,0,none⟩ (.bool (J.normal ⟨s,a,z⟩).s)).setCell ⟨w.heap.size,1,none⟩ (.slice A1 m1 c1)).setCell ⟨w.heap.size+1,0,none⟩ (.bool (J.normal ⟨t,b,u⟩).s)).setCell ⟨w.heap.size+1,1,none⟩ (.slice A2 m2 c2))=w3;intro HE3 HN1 HN2;have q0:w3.cell? ⟨w.heap.size,0,none⟩=some (.bool (J.normal ⟨s,a,z⟩).s):=HE3.out.cell 0 0 rfl rfl;have q1:w3.cell? ⟨w.heap.size,1,none⟩=some (.slice A1 m1 c1):=HE3.out.cell 0 1 rfl rfl;have q2:w3.cell? ⟨w.heap.size+1,0,none⟩=some (.bool (J.normal ⟨t,b,u⟩).s):=HE3.out.cell 1 0 rfl rfl;have q3:w3.cell? ⟨w.heap.size+1,1,none⟩=some (.slice A2 m2 c2):=HE3.out.cell 1 1 rfl rfl;have HP1:=Lib.hid (p:=0<m1↔0<a) HN1.out.num.digs.pos;have HP2:=Lib.hid (p:=0<m2↔0<b) HN2.out.num.digs.pos;rcases HZ.out with h0|⟨h0,h1⟩
  .have hm2:m2=0:=by have:=HP2.out;omega
   subst hm2;go_wp2_with fail;refine(a_ 1 _ (by decide) (by decide)).mono ?_;rintro e w4 ⟨⟨A4,m4,c4,rfl,hN4⟩,hB4⟩;have HE4:=Lib.hid (HE3.out.step hB4);have HN4:=Lib.hid hN4;have HS3:=Lib.hid HE3.out.size;have r0:w4.cell? ⟨w.heap.size+1+1,0,none⟩=some (.bool false):=HE4.out.cell 2 0 rfl rfl;have f0:w4.frozen? ⟨w.heap.size+1+1,0,none⟩=false:=HE4.out.free 2 0 rfl;have r1:w4.cell? ⟨w.heap.size+1+1,1,none⟩=some (.slice none 0 0):=HE4.out.cell 2 1 rfl rfl;have f1:w4.frozen? ⟨w.heap.size+1+1,1,none⟩=false:=HE4.out.free 2 1 rfl;have r2:w4.cell? ⟨w.heap.size+1+1,2,none⟩=some (.bool false):=HE4.out.cell 2 2 rfl rfl;have f2:w4.frozen? ⟨w.heap.size+1+1,2,none⟩=false:=HE4.out.free 2 2 rfl;have r3:w4.cell? ⟨w.heap.size+1+1,3,none⟩=some (.slice none 0 0):=HE4.out.cell 2 3 rfl rfl;have f3:w4.frozen? ⟨w.heap.size+1+1,3,none⟩=false:=HE4.out.free 2 3 rfl;clear hN4 hB4 q0 q1 q2 q3;go_wp2;have R:=HE4.out.aT (bx:=[_,_]) (w.heap.size+1+1) rfl (.bool false) (.slice none 0 0) (.bool (jOf 1).s) (.slice A4 m4 c4);have d0:=R.c0;have d1:=R.c1;have d2:=R.c2;have d3:=R.c3;refine bodyPost_ret (by simp[results,Tryz.results124,go_sem,d0,d1,d2,d3];try rfl) rfl ?_;exact⟨⟨_,_,_,_,_,_,rfl,.nil _ _,(HN4.out.only (b:=w.heap.size+1+1) (by have h3:w.heap.size+3<=w3.heap.size:=HS3.out;omega) R.only).mono (by have h3:w.heap.size+3<=w3.heap.size:=HS3.out;omega),Apart.zero⟩,R.below⟩
  .have hm1:m1=0:=by have:=HP1.out;omega
   have hm2:((m2:Int)==0)=false:=beq_false_of_ne (by have:=HP2.out;omega);subst hm1;go_wp2_with fail;refine(a_ 1 _ (by decide) (by decide)).mono ?_;rintro e w4 ⟨⟨A4,m4,c4,rfl,hN4⟩,hB4⟩;have HE4:=Lib.hid (HE3.out.step hB4);have HN4:=Lib.hid hN4;have HS3:=Lib.hid HE3.out.size;have r0:w4.cell? ⟨w.heap.size+1+1,0,none⟩=some (.bool false):=HE4.out.cell 2 0 rfl rfl;have f0:w4.frozen? ⟨w.heap.size+1+1,0,none⟩=false:=HE4.out.free 2 0 rfl;have r1:w4.cell? ⟨w.heap.size+1+1,1,none⟩=some (.slice none 0 0):=HE4.out.cell 2 1 rfl rfl;have f1:w4.frozen? ⟨w.heap.size+1+1,1,none⟩=false:=HE4.out.free 2 1 rfl;have r2:w4.cell? ⟨w.heap.size+1+1,2,none⟩=some (.bool false):=HE4.out.cell 2 2 rfl rfl;have f2:w4.frozen? ⟨w.heap.size+1+1,2,none⟩=false:=HE4.out.free 2 2 rfl;have r3:w4.cell? ⟨w.heap.size+1+1,3,none⟩=some (.slice none 0 0):=HE4.out.cell 2 3 rfl rfl;have f3:w4.frozen? ⟨w.heap.size+1+1,3,none⟩=false:=HE4.out.free 2 3 rfl;clear hN4 hB4 q0 q1 q2 q3;go_wp2;have R:=HE4.out.aT (bx:=[_,_]) (w.heap.size+1+1) rfl (.bool false) (.slice none 0 0) (.bool (jOf 1).s) (.slice A4 m4 c4);have d0:=R.c0;have d1:=R.c1;have d2:=R.c2;have d3:=R.c3;refine bodyPost_ret (by simp[results,Tryz.results124,go_sem,d0,d1,d2,d3];try rfl) rfl ?_;exact⟨⟨_,_,_,_,_,_,rfl,.nil _ _,(HN4.out.only (b:=w.heap.size+1+1) (by have h3:w.heap.size+3<=w3.heap.size:=HS3.out;omega) R.only).mono (by have h3:w.heap.size+3<=w3.heap.size:=HS3.out;omega),Apart.zero⟩,R.below⟩
end Go.BI
namespace Go.BI
open Go Go.RowKit
theorem Env.q0{w W:World}{x y z u:Value}{T:TypeId}(h:Env w [(#[x,y,z,u],T)] W):Env w [(#[x,y,z,u],T)] W/\W.cell? ⟨w.heap.size,0,none⟩=some x/\W.cell? ⟨w.heap.size,1,none⟩=some y/\W.cell? ⟨w.heap.size,2,none⟩=some z/\W.cell? ⟨w.heap.size,3,none⟩=some u:=⟨h,h.cell 0 0 rfl rfl,h.cell 0 1 rfl rfl,h.cell 0 2 rfl rfl,h.cell 0 3 rfl rfl⟩
theorem Env.q1{w W:World}{x y z u:Value}{T:TypeId}{q:Array Value×TypeId}(h:Env w [(#[x,y,z,u],T),q] W):Env w [(#[x,y,z,u],T)] W/\W.cell? ⟨w.heap.size,0,none⟩=some x/\W.cell? ⟨w.heap.size,1,none⟩=some y/\W.cell? ⟨w.heap.size,2,none⟩=some z/\W.cell? ⟨w.heap.size,3,none⟩=some u:=Env.q0 (Env.init (l:=[(#[x,y,z,u],T)]) (r:=[q]) h)
theorem Env.iI{w W:World}{bx:List (Array Value×TypeId)}(h:Env w bx W){b:Nat}(hb:w.heap.size+bx.length<=b)(X Y Z U:Value):Env w bx ((((W.setCell ⟨b,0,none⟩ X).setCell ⟨b,1,none⟩ Y).setCell ⟨b,2,none⟩ Z).setCell ⟨b,3,none⟩ U):=(((h.set hb 0 X).set hb 1 Y).set hb 2 Z).set hb 3 U
theorem Env.yJ{w W:World}{x y z u X Y Z U:Value}{T:TypeId}{q:Array Value×TypeId}(h:Env w [(#[x,y,z,u],T),q] W):Env w [(#[x,y,z,u],T)] ((((W.setCell ⟨w.heap.size+1,0,none⟩ X).setCell ⟨w.heap.size+1,1,none⟩ Y).setCell ⟨w.heap.size+1,2,none⟩ Z).setCell ⟨w.heap.size+1,3,none⟩ U)/\((((W.setCell ⟨w.heap.size+1,0,none⟩ X).setCell ⟨w.heap.size+1,1,none⟩ Y).setCell ⟨w.heap.size+1,2,none⟩ Z).setCell ⟨w.heap.size+1,3,none⟩ U).cell? ⟨w.heap.size,0,none⟩=some x/\((((W.setCell ⟨w.heap.size+1,0,none⟩ X).setCell ⟨w.heap.size+1,1,none⟩ Y).setCell ⟨w.heap.size+1,2,none⟩ Z).setCell ⟨w.heap.size+1,3,none⟩ U).cell? ⟨w.heap.size,1,none⟩=some y/\((((W.setCell ⟨w.heap.size+1,0,none⟩ X).setCell ⟨w.heap.size+1,1,none⟩ Y).setCell ⟨w.heap.size+1,2,none⟩ Z).setCell ⟨w.heap.size+1,3,none⟩ U).cell? ⟨w.heap.size,2,none⟩=some z/\((((W.setCell ⟨w.heap.size+1,0,none⟩ X).setCell ⟨w.heap.size+1,1,none⟩ Y).setCell ⟨w.heap.size+1,2,none⟩ Z).setCell ⟨w.heap.size+1,3,none⟩ U).cell? ⟨w.heap.size,3,none⟩=some u:=Env.q0 (Env.iI (Env.init (l:=[(#[x,y,z,u],T)]) (r:=[q]) h) (Nat.le_refl _) X Y Z U)
theorem Env.qq0{w W:World}{x y z u x' y' z' u':Value}{T T':TypeId}(h:Env w [(#[x,y,z,u],T),(#[x',y',z',u'],T')] W) :
 Env w [(#[x,y,z,u],T),(#[x',y',z',u'],T')] W/\(W.cell? ⟨w.heap.size,0,none⟩=some x/\W.cell? ⟨w.heap.size,1,none⟩=some y/\W.cell? ⟨w.heap.size,2,none⟩=some z/\W.cell? ⟨w.heap.size,3,none⟩=some u)/\
  W.cell? ⟨w.heap.size+1,0,none⟩=some x'/\W.cell? ⟨w.heap.size+1,1,none⟩=some y'/\W.cell? ⟨w.heap.size+1,2,none⟩=some z'/\W.cell? ⟨w.heap.size+1,3,none⟩=some u':=
 ⟨h,⟨h.cell 0 0 rfl rfl,h.cell 0 1 rfl rfl,h.cell 0 2 rfl rfl,h.cell 0 3 rfl rfl⟩,h.cell 1 0 rfl rfl,h.cell 1 1 rfl rfl,h.cell 1 2 rfl rfl,h.cell 1 3 rfl rfl⟩
theorem Env.qq1{w W:World}{x y z u x' y' z' u':Value}{T T':TypeId}{q:Array Value×TypeId}(h:Env w [(#[x,y,z,u],T),(#[x',y',z',u'],T'),q] W) :
 Env w [(#[x,y,z,u],T),(#[x',y',z',u'],T')] W/\(W.cell? ⟨w.heap.size,0,none⟩=some x/\W.cell? ⟨w.heap.size,1,none⟩=some y/\W.cell? ⟨w.heap.size,2,none⟩=some z/\W.cell? ⟨w.heap.size,3,none⟩=some u)/\
  W.cell? ⟨w.heap.size+1,0,none⟩=some x'/\W.cell? ⟨w.heap.size+1,1,none⟩=some y'/\W.cell? ⟨w.heap.size+1,2,none⟩=some z'/\W.cell? ⟨w.heap.size+1,3,none⟩=some u':=
 Env.qq0 (Env.init (l:=[(#[x,y,z,u],T),(#[x',y',z',u'],T')]) (r:=[q]) h)
def sets4(W:World)(b:Nat)(X Y Z U:Value):World:=(((W.setCell ⟨b,0,none⟩ X).setCell ⟨b,1,none⟩ Y).setCell ⟨b,2,none⟩ Z).setCell ⟨b,3,none⟩ U
theorem Env.pQ{w W:World}{x y z u x' y' z' u' X Y Z U:Value}{T T':TypeId}{q:Array Value×TypeId}(h:Env w [(#[x,y,z,u],T),(#[x',y',z',u'],T'),q] W) :
 Env w [(#[x,y,z,u],T),(#[x',y',z',u'],T')] (sets4 W (w.heap.size+1+1) X Y Z U)/\((sets4 W (w.heap.size+1+1) X Y Z U).cell? ⟨w.heap.size,0,none⟩=some x/\(sets4 W (w.heap.size+1+1) X Y Z U).cell? ⟨w.heap.size,1,none⟩=some y/\(sets4 W (w.heap.size+1+1) X Y Z U).cell? ⟨w.heap.size,2,none⟩=some z/\(sets4 W (w.heap.size+1+1) X Y Z U).cell? ⟨w.heap.size,3,none⟩=some u)/\
  (sets4 W (w.heap.size+1+1) X Y Z U).cell? ⟨w.heap.size+1,0,none⟩=some x'/\(sets4 W (w.heap.size+1+1) X Y Z U).cell? ⟨w.heap.size+1,1,none⟩=some y'/\(sets4 W (w.heap.size+1+1) X Y Z U).cell? ⟨w.heap.size+1,2,none⟩=some z'/\(sets4 W (w.heap.size+1+1) X Y Z U).cell? ⟨w.heap.size+1,3,none⟩=some u':=
 Env.qq0 (Env.iI (Env.init (l:=[(#[x,y,z,u],T),(#[x',y',z',u'],T')]) (r:=[q]) h) (b:=w.heap.size+1+1) (Nat.le_refl _) X Y Z U)
theorem Env.wq1{w W:World}{p:Array Value×TypeId}{x y z u:Value}{T:TypeId}(h:Env w [p,(#[x,y,z,u],T)] W):(W.cell? ⟨w.heap.size+1,0,none⟩=some x/\W.cell? ⟨w.heap.size+1,1,none⟩=some y/\W.cell? ⟨w.heap.size+1,2,none⟩=some z/\W.cell? ⟨w.heap.size+1,3,none⟩=some u)/\W.frozen? ⟨w.heap.size+1,0,none⟩=false/\W.frozen? ⟨w.heap.size+1,1,none⟩=false/\W.frozen? ⟨w.heap.size+1,2,none⟩=false/\W.frozen? ⟨w.heap.size+1,3,none⟩=false:=⟨⟨h.cell 1 0 rfl rfl,h.cell 1 1 rfl rfl,h.cell 1 2 rfl rfl,h.cell 1 3 rfl rfl⟩,h.free 1 0 rfl,h.free 1 1 rfl,h.free 1 2 rfl,h.free 1 3 rfl⟩
theorem Env.wq2{w W:World}{p p':Array Value×TypeId}{x y z u:Value}{T:TypeId}(h:Env w [p,p',(#[x,y,z,u],T)] W):(W.cell? ⟨w.heap.size+1+1,0,none⟩=some x/\W.cell? ⟨w.heap.size+1+1,1,none⟩=some y/\W.cell? ⟨w.heap.size+1+1,2,none⟩=some z/\W.cell? ⟨w.heap.size+1+1,3,none⟩=some u)/\W.frozen? ⟨w.heap.size+1+1,0,none⟩=false/\W.frozen? ⟨w.heap.size+1+1,1,none⟩=false/\W.frozen? ⟨w.heap.size+1+1,2,none⟩=false/\W.frozen? ⟨w.heap.size+1+1,3,none⟩=false:=⟨⟨h.cell 2 0 rfl rfl,h.cell 2 1 rfl rfl,h.cell 2 2 rfl rfl,h.cell 2 3 rfl rfl⟩,h.free 2 0 rfl,h.free 2 1 rfl,h.free 2 2 rfl,h.free 2 3 rfl⟩
end Go.BI
namespace Go.Ex
open Go
theorem aO(l:List AVal)(k:AVal->R):pv (.agg l) k=k (.agg l):=rfl
theorem cK(i:Pth)(a b c:Nat)(k:AVal->R):mv (.sl i a b c) k=k (.sl i a b c):=rfl
theorem aH(v:AVal)(H:AH)(k:AVal->AH->R):rv (.ok v H) k=k v H:=rfl
theorem ba(i:Pth)(o:Nat)(k:Pth->Nat->R):asQ (.ptr i o) k=k i o:=by show fz o (λo=>k i o)=k i o;exact aN o _
theorem aU(n:Int)(k:Int->R):aI (.int .i64 n) k=k n:=by rw[ov];rfl
theorem bV(a b:R):br true a b=a:=rfl
theorem bf(a b:R):br false a b=b:=rfl
theorem bo(id:Pth)(agg:Bool)(sz off:Nat)(H:AH):lA id agg sz off H=loadAt H agg sz id off:=kq H id agg sz off
theorem bJ(a:AVal)(l:List AVal)(H:AH)(k:Pth->AH->R):bxP (.agg (a::l)) H k=k H.next (H.add (.arr (lenN (a::l)) 1 (a::l) .nil)):=by show newHK H (.arr (lenN (a::l)) 1 (a::l) .nil) k=_;rw[aX]
theorem lO{sz:Nat}{id:Pth}{off:Nat}{u:AVal}{H:AH}{k:AH->R}{esz n:Nat}{d:List AVal}{els:T8 (List AVal)}{c:List AVal}(ho:H.m.get .dead id=.arr esz n d els)(hsz:Nat.blt 0 sz=true)(hl:lenIs u.cells sz=true)(hn:Nat.blt (Nat.div off esz) n=true)(hc:overAt (Nat.mod off esz) u.cells (elem (Nat.div off esz) d els)=some c):stK sz (.ptr id off) u H k=k (H.set id (.arr esz n d (els.put [] c (key (Nat.div off esz))))):=by show stP sz id off u H k=_;unfold stP;rw[eg,fe,hsz,hl];show stO ((getHS id).run H.m) sz id off u.cells H k=_;rw[cG,ho];show Bool.rec (motive:=λ_=>R) .no (Option.rec (motive:=λ_=>R) .no (λc=>(putEc (keyF (Nat.div off esz))).run c els λe=>setHKc H id (.arr esz n d e) k) (overK sz esz (Nat.mod off esz) u.cells (elemK (Nat.div off esz) d els))) (Nat.blt (Nat.div off esz) n)=_;rw[hn,og _ _ _ hl,df,hc];show(putEc (keyF (Nat.div off esz))).run c els (λe=>setHKc H id (.arr esz n d e) k)=_;rw[gZ,dD,cF]
structure B4(H:AH)(id:Pth)(l:List AVal):Prop where
 is:∃d els,H.m.get .dead id=.arr 4 1 d els/\elem 0 d els=l
 len:l.length=4
theorem B4.lA{H:AH}{id:Pth}{l:List AVal}(h:B4 H id l):lA id true 4 0 H=.agg l:=by
 obtain⟨d,els,h1,h2⟩:=h.is
 obtain⟨a,b,c,e,rfl⟩:∃a b c e,l=[a,b,c,e]:=by
  match l,h.len with
  |[a,b,c,e],_=>exact⟨a,b,c,e,rfl⟩
 rw[bo];unfold loadAt;rw[h1];show cellsAt true 4 4 1 d els 0=_;unfold cellsAt;show(bif Nat.blt 0 1 then single true (takeN 4 (dropN 0 (elem 0 d els)))else .bad)=_;rw[h2];rfl
theorem B4.st{H:AH}{id:Pth}{l l':List AVal}(h:B4 H id l)(hl:l'.length=4)(k:AH->R):∃H',stK 4 (.ptr id 0) (.agg l') H k=k H'/\B4 H' id l'/\H'.next=H.next/\∀q,q≠id->H'.m.get .dead q=H.m.get .dead q:=by
 obtain⟨d,els,h1,h2⟩:=h.is
 obtain⟨a,b,c,e,rfl⟩:∃a b c e,l=[a,b,c,e]:=by
  match l,h.len with
  |[a,b,c,e],_=>exact⟨a,b,c,e,rfl⟩
 obtain⟨a',b',c',e',rfl⟩:∃a b c e,l'=[a,b,c,e]:=by
  match l',hl with
  |[a,b,c,e],_=>exact⟨a,b,c,e,rfl⟩
 have hc:overAt (Nat.mod 0 4) (AVal.agg [a',b',c',e']).cells (elem (Nat.div 0 4) d els)=some [a',b',c',e']:=by show overAt 0 [a',b',c',e'] (elem 0 d els)=_;rw[h2];rfl
 refine⟨_,lO h1 rfl rfl rfl hc,⟨⟨d,_,aJ _ _,?_⟩,rfl⟩,rfl,λq hq=>af (Ne.symm hq) _⟩;show orElse d (T8.get [] (key 0) (T8.put [] _ (key 0) els))=_;rw[aL];rfl
structure Sl(H:AH)(esz:Nat)(v:AVal)(rows:List (List AVal)):Prop where
 els:elemsOf H esz v=some rows
 pos:0<esz
 each:∀r∈rows,r.length=esz
 old:∀id off l c,l≠0->(v=.sl id off l c\/v=.sg id off l c)->id.toNat<H.next.toNat
theorem lP:∀(l:List AVal),takeN l.length l=some l
 |[]=>rfl
 |a::l=>by simp only[List.length_cons,takeN,lP l]
theorem eE{H:AH}{esz off len:Nat}{id:Pth}{rows:List (List AVal)}(h:sliceElems H esz id off len=some rows)(hp:0<esz):∃m d els,H.m.get .dead id=.arr esz m d els/\off%esz=0/\off/esz+len<=m/\rows=elemsFrom d els (off/esz) len:=by
 unfold sliceElems at h;cases ho:H.m.get .dead id with
 |arr e m d els=>
  rw[ho]at h;simp only at h;cases hc:(Nat.beq esz e&&(Nat.beq (Nat.mod off esz) 0&&Nat.ble (Nat.add (Nat.div off esz) len) m))with
  |false=>rw[hc]at h;cases h
  |true=>rw[hc]at h;simp only[Bool.and_eq_true]at hc;have:=Nat.eq_of_beq_eq_true hc.1;subst this;exact⟨m,d,els,rfl,Nat.eq_of_beq_eq_true hc.2.1,Nat.le_of_ble_eq_true hc.2.2,(Option.some.inj h).symm⟩
 |_=>rw[ho]at h;cases h
theorem Sl.at_{H:AH}{esz:Nat}{v:AVal}{rows:List (List AVal)}(h:Sl H esz v rows){j:Nat}(hj:j<rows.length):∃id off,iaI esz v (.ofNat j)=.ptr id off/\lA id true esz off H=.agg rows[j]/\H.m.get .dead id≠.dead:=by
 have gen:∀(id:Pth) (off len:Nat),(bif Nat.beq len 0 then some []else sliceElems H esz id off len)=some rows->len=rows.length/\lA id true esz (Nat.add off (Nat.mul j esz)) H=.agg rows[j]/\H.m.get .dead id≠.dead:=λid off len he=>by
  cases hz:Nat.beq len 0 with
  |true=>rw[hz]at he;cases he;cases hj
  |false=>
   rw[hz]at he;obtain⟨m,d,els,ho,hmod,hfit,hr⟩:=eE (show sliceElems H esz id off len=some rows from he) h.pos;have hlen:len=rows.length:=by rw[hr,bu]
   refine⟨hlen,?_,by rw[ho];exactλe=>by cases e⟩;have hoff:off/esz*esz=off:=by have:=Nat.div_add_mod off esz;rw[hmod,Nat.mul_comm]at this;omega
   have hq:off+j*esz=(off/esz+j)*esz:=by rw[Nat.add_mul,hoff]
   have hdiv:Nat.div (Nat.add off (Nat.mul j esz)) esz=off/esz+j:=by show(off+j*esz)/esz=_;rw[hq];exact Nat.mul_div_cancel _ h.pos
   have hmd:Nat.mod (Nat.add off (Nat.mul j esz)) esz=0:=by show(off+j*esz)%esz=0;rw[hq];exact Nat.mul_mod_left _ _
   rw[bo];unfold loadAt;rw[ho];show cellsAt true esz esz m d els _=_;unfold cellsAt;rw[hdiv,hmd,show Nat.blt (off/esz+j) m=true from Nat.ble_eq_true_of_le (by omega)];have hrow:rows[j]=elem (off/esz+j) d els:=by have h1:rows[j]?=some rows[j]:=List.getElem?_eq_getElem hj;have h2:=dY d els (off/esz) len j (by omega);rw[<-hr,h1]at h2;exact Option.some.inj h2
   show single true (takeN esz (dropN 0 (elem (off/esz+j) d els)))=_;rw[<-hrow];have hl:rows[j].length=esz:=h.each _ (List.getElem_mem hj);have:dropN 0 rows[j]=rows[j]:=by cases rows[j]<;>rfl
   rw[this,<-hl,lP];rfl
 have he:=h.els;cases v with
 |sl id off len cap=>obtain⟨h1,h2,h3⟩:=gen id off len he;refine⟨id,Nat.add off (Nat.mul j esz),?_,h2,h3⟩;show Bool.rec (motive:=λ_=>AVal) .bad (.ptr id (Nat.add off (Nat.mul j esz))) (Nat.blt j len)=_;rw[show Nat.blt j len=true from Nat.ble_eq_true_of_le (by omega)]
 |sg id off len ez=>obtain⟨h1,h2,h3⟩:=gen id off len he;refine⟨id,Nat.add off (Nat.mul j esz),?_,h2,h3⟩;show Bool.rec (motive:=λ_=>AVal) .bad (.ptr id (Nat.add off (Nat.mul j esz))) (Nat.blt j len)=_;rw[show Nat.blt j len=true from Nat.ble_eq_true_of_le (by omega)]
 |snil=>cases he;cases hj
 |se=>cases he;cases hj
 |_=>cases he
theorem Sl.len{H:AH}{esz:Nat}{v:AVal}{rows:List (List AVal)}(h:Sl H esz v rows):lenF v=.int .i64 (.ofNat rows.length):=by
 have he:=h.els
 have gen:∀(id:Pth) (off len:Nat),(bif Nat.beq len 0 then some []else sliceElems H esz id off len)=some rows->len=rows.length:=λid off len he=>by
  cases hz:Nat.beq len 0 with
  |true=>rw[hz]at he;cases he;exact Nat.eq_of_beq_eq_true hz
  |false=>rw[hz]at he;obtain⟨m,d,els,ho,hmod,hfit,hr⟩:=eE (show sliceElems H esz id off len=some rows from he) h.pos;rw[hr,bu]
 cases v with
 |sl id off len cap=>rw[<-gen id off len he];rfl
 |sg id off len ez=>rw[<-gen id off len he];rfl
 |snil=>cases he;rfl
 |se=>cases he;rfl
 |_=>cases he
structure Nw(H:AH)(id:Pth)(esz:Nat)(rows:List (List AVal)):Prop where
 is:∃d els,H.m.get .dead id=.arr esz rows.length d els/\∀j (h:j<rows.length),elem j d els=rows[j]
 pos:0<esz
 each:∀r∈rows,r.length=esz
theorem qj{esz j:Nat}(hp:0<esz):Nat.div (Nat.add 0 (Nat.mul j esz)) esz=j/\Nat.mod (Nat.add 0 (Nat.mul j esz)) esz=0:=by have e:Nat.add 0 (Nat.mul j esz)=j*esz:=Nat.zero_add _;rw[e];exact⟨Nat.mul_div_cancel _ hp,Nat.mul_mod_left _ _⟩
theorem Nw.lA{H:AH}{id:Pth}{esz:Nat}{rows:List (List AVal)}(h:Nw H id esz rows){j:Nat}(hj:j<rows.length):lA id true esz (Nat.add 0 (Nat.mul j esz)) H=.agg rows[j]:=by
 obtain⟨d,els,h1,h2⟩:=h.is;obtain⟨e1,e2⟩:=qj (j:=j) h.pos;rw[bo];unfold loadAt;rw[h1];show cellsAt true esz esz rows.length d els _=_;unfold cellsAt;rw[e1,e2,show Nat.blt j rows.length=true from Nat.ble_eq_true_of_le hj,h2 j hj];show single true (takeN esz (dropN 0 rows[j]))=_;have hl:rows[j].length=esz:=h.each _ (List.getElem_mem hj);have:dropN 0 rows[j]=rows[j]:=by cases rows[j]<;>rfl
 rw[this,<-hl,lP];rfl
theorem zR:∀{l r:List AVal},l.length=r.length->overAt 0 l r=some l:=by
 intro l
 induction l with
 |nil=>intro r h;cases r with
  |nil=>rfl
  |cons _ _=>cases h
 |cons a l ih=>intro r h;cases r with
  |nil=>cases h
  |cons b r=>
   have h1:l.length=r.length:=by simpa using h
   have:=ih h1;have h2:over l r=some l:=by cases l<;>cases r<;>exact this
   show over (a::l) (b::r)=_;simp only[over,h2]
theorem iU:∀(l:List AVal),lenIs l l.length=true
 |[]=>rfl
 |a::l=>iU l
theorem Nw.st{H:AH}{id:Pth}{esz:Nat}{rows:List (List AVal)}(h:Nw H id esz rows){j:Nat}(hj:j<rows.length){row:List AVal}(hr:row.length=esz)(k:AH->R):∃H',stK esz (.ptr id (Nat.add 0 (Nat.mul j esz))) (.agg row) H k=k H'/\Nw H' id esz (rows.set j row)/\H'.next=H.next/\∀q,q≠id->H'.m.get .dead q=H.m.get .dead q:=by
 obtain⟨d,els,h1,h2⟩:=h.is;obtain⟨e1,e2⟩:=qj (j:=j) h.pos;have hne:row≠[]:=by intro e;subst e;have:=h.pos;simp at hr;omega
 have hc:overAt (Nat.mod (Nat.add 0 (Nat.mul j esz)) esz) (AVal.agg row).cells (elem (Nat.div (Nat.add 0 (Nat.mul j esz)) esz) d els)=some row:=by rw[e1,e2,h2 j hj];exact zR (hr.trans (h.each _ (List.getElem_mem hj)).symm)
 refine⟨_,lO h1 (Nat.ble_eq_true_of_le h.pos) (by rw[<-hr];exact iU row) (by rw[e1];exact Nat.ble_eq_true_of_le hj) hc,⟨⟨d,els.put [] row (key (Nat.div (Nat.add 0 (Nat.mul j esz)) esz)),?_,λm hm=>?_⟩,h.pos,λr hr2=>?_⟩,rfl,λq hq=>af (Ne.symm hq) _⟩
 .rw[aJ,List.length_set]
 .rw[List.length_set]at hm;rw[e1,List.getElem_set];by_cases e:j=m
  .subst e;rw[if_pos rfl];unfold elem;rw[aL,bE hne]
  .rw[if_neg e,<-h2 m hm];exact dT (Ne.symm e)
 .rcases List.mem_or_eq_of_mem_set hr2 with h3|rfl
  .exact h.each r h3
  .exact hr
theorem Nw.keep{H H1:AH}{id:Pth}{esz:Nat}{rows:List (List AVal)}(h:Nw H id esz rows)(hs:H1.m.get .dead id=H.m.get .dead id):Nw H1 id esz rows:=by obtain⟨d,els,h1,h2⟩:=h.is;exact⟨⟨d,els,hs.trans h1,h2⟩,h.pos,h.each⟩
theorem B4.keep{H H1:AH}{id:Pth}{l:List AVal}(h:B4 H id l)(hs:H1.m.get .dead id=H.m.get .dead id):B4 H1 id l:=by obtain⟨d,els,h1,h2⟩:=h.is;exact⟨⟨d,els,hs.trans h1,h2⟩,h.len⟩
theorem fM{id:Pth}{esz len cap j:Nat}(hj:j<len):iaI esz (.sl id 0 len cap) (.ofNat j)=.ptr id (Nat.add 0 (Nat.mul j esz)):=by show Bool.rec (motive:=λ_=>AVal) .bad (.ptr id (Nat.add 0 (Nat.mul j esz))) (Nat.blt j len)=_;rw[show Nat.blt j len=true from Nat.ble_eq_true_of_le hj]
def okRow(v:AVal)(esz:Nat):Prop:=∃l,v=.agg l/\l.length=esz/\eqL l l=true
theorem iV{H H1 H2 H3:AH}{f:AH->AVal}{v:AVal}(h0:f H=v)(h1:f H1=v)(hv:v.eqv v=true)(r:R):chkK [H3,H2,H1,H] 3 [⟨0,1,f,v⟩] r=r:=by
 unfold chkK
 have:chkA [H3,H2,H1,H] 3 [⟨0,1,f,v⟩]=true:=by
  show Bool.rec (motive:=λ_=>Bool) false true (chk1 ⟨0,1,f,v⟩ [H3,H2,H1,H] 3)=true;have e:chk1 ⟨0,1,f,v⟩ [H3,H2,H1,H] 3=true:=by show Bool.rec (motive:=λ_=>Bool) false (Bool.rec (motive:=λ_=>Bool) false true (eqvF (f H) v)) (eqvF (f H1) v)=true;rw[h0,h1,gY,hv]
  rw[e]
 rw[this]
theorem wrap_small{n:Nat}(h:n<1000000):wrapF .i64 (.ofNat n)=.ofNat n:=by rw[kj];show(bif Nat.blt n two63 then Int.ofNat n else _)=_;rw[show Nat.blt n two63=true from Nat.ble_eq_true_of_le (by unfold two63;omega)];rfl
theorem add_one(n:Nat):addF (.ofNat n) (.ofNat 1)=.ofNat (n+1):=by rw[nT];rfl
theorem sub_one(n:Nat):subF (.ofNat (n+1)) (.ofNat 1)=.ofNat n:=by rw[nU];show((n+1:Nat):Int)-(1:Int)=(n:Nat);omega
theorem dm{a b:Nat}(h:a<b):intLtF (.ofNat a) (.ofNat b)=true:=Nat.ble_eq_true_of_le h
theorem dn{a b:Nat}(h:b<=a):intLtF (.ofNat a) (.ofNat b)=false:=by
 show Nat.blt a b=false;cases hb:Nat.blt a b with
 |false=>rfl
 |true=>have:=Nat.le_of_ble_eq_true hb;omega
def Away(a3:AVal)(o:Pth):Prop:=∀id off l c,l≠0->(a3=.sl id off l c\/a3=.sg id off l c)->id≠o
theorem Sl.other{a3:AVal}{H H1:AH}{o:Pth}{esz:Nat}{rows:List (List AVal)}(h:Sl H esz a3 rows)(ha:Away a3 o)(hn:H.next.toNat<=H1.next.toNat)(hs:∀q,q≠o->H1.m.get .dead q=H.m.get .dead q):Sl H1 esz a3 rows:=by
 refine⟨?_,h.pos,h.each,λid off l c h1 h2=>Nat.lt_of_lt_of_le (h.old id off l c h1 h2) hn⟩;have he:=h.els
 have gen:∀(id:Pth) (off len:Nat),(len≠0->id≠o)->(bif Nat.beq len 0 then some []else sliceElems H esz id off len)=some rows->(bif Nat.beq len 0 then some []else sliceElems H1 esz id off len)=some rows:=λid off len hne he=>by
  cases hz:Nat.beq len 0 with
  |true=>rw[hz]at he;exact he
  |false=>
   rw[hz]at he;have hl:len≠0:=λe=>by subst e;cases hz
   have:sliceElems H1 esz id off len=sliceElems H esz id off len:=by unfold sliceElems;rw[hs id (hne hl)]
   show sliceElems H1 esz id off len=some rows;rw[this];exact he
 cases a3 with
 |sl id off len cap=>exact gen id off len (λh=>ha id off len cap h (.inl rfl)) he
 |sg id off len ez=>exact gen id off len (λh=>ha id off len ez h (.inr rfl)) he
 |snil=>exact he
 |se=>exact he
 |_=>cases he
theorem Sl.ext{H H1:AH}{c esz:Nat}{v:AVal}{rows:List (List AVal)}(h:Sl H esz v rows)(hx:Ext c H H1):Sl H1 esz v rows:=by
 refine⟨?_,h.pos,h.each,λid off l c h1 h2=>Nat.lt_of_lt_of_le (h.old id off l c h1 h2) hx.le⟩;have he:=h.els
 have gen:∀(id:Pth) (off len:Nat),(len≠0->id.toNat<H.next.toNat)->(bif Nat.beq len 0 then some []else sliceElems H esz id off len)=some rows->(bif Nat.beq len 0 then some []else sliceElems H1 esz id off len)=some rows:=λid off len hne he=>by
  cases hz:Nat.beq len 0 with
  |true=>rw[hz]at he;exact he
  |false=>
   rw[hz]at he;have hl:len≠0:=λe=>by subst e;cases hz
   have:sliceElems H1 esz id off len=sliceElems H esz id off len:=by unfold sliceElems;rw[hx.same id (hne hl)]
   show sliceElems H1 esz id off len=some rows;rw[this];exact he
 cases v with
 |sl id off len cap=>exact gen id off len (λh1=>h.old id off len cap h1 (.inl rfl)) he
 |sg id off len ez=>exact gen id off len (λh1=>h.old id off len ez h1 (.inr rfl)) he
 |snil=>exact he
 |se=>exact he
 |_=>cases he
theorem Sl.qk{v:AVal}{H:AH}{esz:Nat}{rows:List (List AVal)}(h:Sl H esz v rows){o:Pth}(ho:H.next.toNat<=o.toNat):Away v o:=by intro id off l c hl hv e;have:=h.old id off l c hl hv;rw[e]at this;omega
theorem Sl.lQ{v:AVal}{H:AH}{esz:Nat}{rows:List (List AVal)}(hw:Wf H)(he:elemsOf H esz v=some rows)(hp:0<esz)(hr:∀r∈rows,r.length=esz):Sl H esz v rows:=by
 refine⟨he,hp,hr,λid off l c hl hv=>?_⟩
 have gen:sliceElems H esz id off l=some rows:=by
  have hb:Nat.beq l 0=false:=by
   cases hz:Nat.beq l 0 with
   |false=>rfl
   |true=>exact absurd (Nat.eq_of_beq_eq_true hz) hl
  rcases hv with rfl|rfl
  .have he:(bif Nat.beq l 0 then some []else sliceElems H esz id off l)=some rows:=he;rw[hb]at he;exact he
  .have he:(bif Nat.beq l 0 then some []else sliceElems H esz id off l)=some rows:=he;rw[hb]at he;exact he
 obtain⟨m,d,els,hd,_⟩:=eE gen hp;exact hw id (by rw[hd];exactλe=>by cases e)
theorem Nw.sl{H:AH}{id:Pth}{esz cap:Nat}{rows:List (List AVal)}(h:Nw H id esz rows)(hid:id.toNat<H.next.toNat):Sl H esz (.sl id 0 rows.length cap) rows:=by
 refine⟨?_,h.pos,h.each,λid2 off l c _ hv=>?_⟩
 .show(bif Nat.beq rows.length 0 then some []else sliceElems H esz id 0 rows.length)=some rows;cases hz:Nat.beq rows.length 0 with
  |true=>have:=Nat.eq_of_beq_eq_true hz;rw[List.length_eq_zero_iff]at this;subst this;rfl
  |false=>
   obtain⟨d,els,h1,h2⟩:=h.is;show sliceElems H esz id 0 rows.length=some rows;unfold sliceElems;rw[h1];have hd:Nat.div 0 esz=0:=Nat.zero_div esz;have hm:Nat.mod 0 esz=0:=Nat.zero_mod esz;show(bif Nat.beq esz esz&&(Nat.beq (Nat.mod 0 esz) 0&&Nat.ble (Nat.add (Nat.div 0 esz) rows.length) rows.length)then some (elemsFrom d els (Nat.div 0 esz) rows.length)else none)=some rows;rw[hd,hm,Nat.beq_refl,show Nat.ble (Nat.add 0 rows.length) rows.length=true from Nat.ble_eq_true_of_le (by show 0+rows.length<=_;omega)];show some _=some _;congr 1;apply List.ext_getElem?;intro j;by_cases hj:j<rows.length
   .rw[dY _ _ _ _ _ hj,List.getElem?_eq_getElem hj,Nat.zero_add,h2 j hj]
   .rw[List.getElem?_eq_none (by rw[bu];omega),List.getElem?_eq_none (by omega)]
 .rcases hv with hv|hv
  .cases hv;exact hid
  .cases hv
theorem B4.new(l:List AVal)(hl:l.length=4)(H:AH):B4 (H.add (.arr (lenN l) 1 l .nil)) H.next l:=by
 obtain⟨a,b,c,e,rfl⟩:∃a b c e,l=[a,b,c,e]:=by
  match l,hl with
  |[a,b,c,e],_=>exact⟨a,b,c,e,rfl⟩
 exact⟨⟨_,_,bZ _,by unfold elem;rw[get_nil];rfl⟩,rfl⟩
theorem Nw.new(esz n:Nat)(z:List AVal)(hp:0<esz)(hz:z.length=esz)(H:AH):Nw (H.add (.arr esz n z .nil)) H.next esz (List.replicate n z):=by
 refine⟨⟨z,.nil,?_,λj hj=>?_⟩,hp,λr hr=>?_⟩
 .rw[List.length_replicate];exact bZ _
 .rw[List.getElem_replicate];unfold elem;rw[get_nil];rfl
 .rw[(List.mem_replicate.1 hr).2];exact hz
theorem ql{esz bytes n:Nat}{z:List AVal}{H:AH}{k:AVal->AH->R}(hs:small n bytes=true):mkQ (mkslP esz bytes z (.int .i64 (.ofNat n)) (.int .i64 (.ofNat n)) H.next) H k=k (.sl H.next 0 n n) (H.add (.arr esz n z .nil)):=by
 have:mkslP esz bytes z (.int .i64 (.ofNat n)) (.int .i64 (.ofNat n)) H.next=some (.arr esz n z .nil,.sl H.next 0 n n):=by show(bif Nat.ble n n&&small n bytes then some (AObj.arr esz n z .nil,AVal.sl H.next 0 n n)else none)=_;rw[hs,Nat.ble_eq_true_of_le (Nat.le_refl n)];rfl
 rw[this];show k (.sl H.next 0 n n) (addHK H (.arr esz n z .nil))=_;rw[n_]
theorem ne_of_lt{a b:Pth}(h:a.toNat<b.toNat):a≠b:=λe=>by subst e;omega
theorem dO(H:AH)(o:AObj):(H.add o).next=H.next.succ:=rfl
theorem Sl.mv{a3:AVal}{H:AH}{esz:Nat}{rows:List (List AVal)}(h:Sl H esz a3 rows)(k:AVal->R):mv a3 k=k a3:=by have:=h.els;cases a3<;>first|rfl|(cases this;done)
def loopN{I:Type}(z:I)(B:I->I)(N:Nat):I:=Nat.rec (motive:=λ_=>I) z (λ_ ih=>B ih) N
theorem eF{I:Type}(z:I)(B:I->I):loopK z B=loopN z B 1000000:=rfl
theorem bW{I:Type}(z:I)(B:I->I)(N:Nat):loopN z B (N+1)=B (loopN z B N):=rfl
end Go.Ex
namespace Go.Ex
open Go
def H0e:AH:=⟨.e,.nil⟩
theorem fO{m:AVal}{n:Nat}{z:Bool}(h:numOf H0e m=.ok n z):∀H,numOf H m=.ok n z:=by
 intro H;cases m with
 |sl id off len cap=>
  unfold numOf at h⊢;simp only at h⊢;cases hc:Nat.ble len cap with
  |false=>rw[hc]at h;cases h
  |true=>
   rw[hc]at h;cases hz:Nat.beq len 0 with
   |true=>rw[hz]at h;exact h
   |false=>rw[hz]at h;have h:numAt H0e id off len=.ok n z:=h;unfold numAt at h;rw[show T8.get AObj.dead id H0e.m=.dead from get_nil _ _]at h;cases h
 |sg id off len ez=>
  unfold numOf at h⊢;simp only at h⊢;cases hc:Nat.beq ez 1 with
  |false=>rw[hc]at h;cases h
  |true=>
   rw[hc]at h;cases hz:Nat.beq len 0 with
   |true=>rw[hz]at h;exact h
   |false=>rw[hz]at h;have h:numAt H0e id off len=.ok n z:=h;unfold numAt at h;rw[show T8.get AObj.dead id H0e.m=.dead from get_nil _ _]at h;cases h
 |_=>exact h
theorem ja{x:AVal}{k:Bool->Nat->Bool->Bool->Nat->Bool->R}{v:AVal}{H1:AH}(h:rQ x H0e k=.ok v H1):∃s n z s' n' z',(∀H k',rQ x H k'=k' s n z s' n' z')/\k s n z s' n' z'=.ok v H1:=by obtain⟨l,rfl,h1⟩:=di h;obtain⟨a,b,c,d,rfl,h2⟩:=fl h1;obtain⟨s,rfl,h3⟩:=bR h2;obtain⟨s',rfl,h4⟩:=bR h3;rw[bw]at h4;obtain⟨n,z,e,h5⟩:=dh h4;rw[bw]at h5;obtain⟨n',z',e',h6⟩:=dh h5;refine⟨s,n,z,s',n',z',λH k'=>?_,h6⟩;show nmF b H (λn z=>nmF d H λn' z'=>k' s n z s' n' z')=_;rw[bw,fO e H];show nmF d H (λn' z'=>k' s n z s' n' z')=_;rw[bw,fO e' H];rfl
def Cps1(F:KJ->R):Prop:=(∀k,F k=.no)\/∃r n v,∀k,F k=k r n v
def CpsQ(F:KQ->R):Prop:=(∀k,F k=.no)\/∃r n v r' n' v',∀k,F k=k r n v r' n' v'
theorem fP(s:Bool)(a:Nat)(z t:Bool)(b:Nat)(u:Bool):Cps1 (mulK s a z t b u):=by unfold Cps1 mulK mul1K;cases Nat.beq a 0<;>cases Nat.beq b 0<;>cases Nat.blt a 4294967296<;>cases Nat.blt b 4294967296<;>first|exact .inl λ_=>rfl|exact .inr ⟨_,_,_,λ_=>rfl⟩
theorem qQ(s:Bool)(a:Nat)(t:Bool)(b:Nat):Cps1 (addSK s a t b):=by unfold Cps1 addSK dif1K sum1K;cases eqK s t<;>cases Nat.blt (Nat.add a b) 18446744073709551616<;>cases Nat.ble b a<;>first|exact .inl λ_=>rfl|exact .inr ⟨_,_,_,λ_=>rfl⟩
theorem eI(s:Bool)(a:Nat)(z t:Bool)(b:Nat)(u:Bool):CpsQ (ovrK s a z t b u):=by unfold CpsQ ovrK ovr1K;cases Nat.beq a 0<;>cases Nat.beq b 0<;>cases t<;>cases Nat.beq b 1<;>cases Nat.beq (Nat.gcd a b) 1<;>first|exact .inl λ_=>rfl|exact .inr ⟨_,_,_,_,_,_,λ_=>rfl⟩
theorem CpsQ.qR{F:KJ->R}(hF:Cps1 F){G:Bool->Nat->Bool->KQ->R}(hG:∀r n v,CpsQ (G r n v)):CpsQ λk=>F λr n v=>G r n v k:=by
 rcases hF with h|⟨r,n,v,h⟩
 .exact .inl λk=>h _
 .rcases hG r n v with g|⟨r1,n1,v1,r2,n2,v2,g⟩
  .exact .inl λk=>(h _).trans (g k)
  .exact .inr ⟨r1,n1,v1,r2,n2,v2,λk=>(h _).trans (g k)⟩
theorem Ar(s:Bool)(a:Nat)(z s':Bool)(a':Nat)(z' t:Bool)(b:Nat)(u t':Bool)(b':Nat)(u':Bool):CpsQ (qmulK s a z s' a' z' t b u t' b' u'):=CpsQ.qR (fP s a z t b u) λr n v=>CpsQ.qR (fP s' a' z' t' b' u') λr' n' v'=>eI r n v r' n' v'
theorem lU(s:Bool)(a:Nat)(z t:Bool)(b:Nat)(u:Bool):CpsQ (qnegK s a z t b u):=eI (sgK (ntK s) a) a z t b u
theorem jc(s:Bool)(a:Nat)(z s':Bool)(a':Nat)(z' t:Bool)(b:Nat)(u t':Bool)(b':Nat)(u':Bool):CpsQ (qaddK s a z s' a' z' t b u t' b' u'):=by
 unfold CpsQ qaddK;cases Nat.beq a' 0 with
 |true=>exact eI t b u t' b' u'
 |false=>
  cases Nat.beq b' 0 with
  |true=>exact eI s a z s' a' z'
  |false=>
   unfold oneK
   cases Nat.beq a' 1<;>cases s'<;>cases Nat.beq b' 1<;>cases t'<;>first
    |exact .inl λ_=>rfl
    |(
     rcases qQ s a t b with h|⟨r,n,v,h⟩
     .exact .inl λk=>h _
     .exact .inr ⟨r,n,v,false,1,false,λk=>h _⟩)
theorem jd{H H1:AH}{r:Bool}{n:Nat}{v r':Bool}{n':Nat}{v':Bool}{x:AVal}(h:gvQ H r n v r' n' v'=.ok x H1):okRow x 4/\∀H',gvQ H' r n v r' n' v'=.ok x H':=by
 unfold gvQ pkF at h;have be:∀b:Bool,boolEq b b=true:=λb=>by cases b<;>rfl
 have ok:∀{c c':AVal},c.eq1 c=true->c'.eq1 c'=true->okRow (.agg [.bool r,c,.bool r',c']) 4:=λ{c c'} h1 h2=>⟨_,rfl,rfl,by
  show(boolEq r r&&(c.eq1 c&&(boolEq r' r'&&(c'.eq1 c'&&true))))=true
  rw[be,be,h1,h2];rfl⟩
 have key:∀(n:Nat) (v:Bool) (H:AH) (k:AVal->AH->R),(∃c,c.eq1 c=true/\∀H k,pkF n v H k=k c H)\/∀H k,pkF n v H k=.no:=λn v H k=>by
  unfold pkF;cases Nat.beq n 0 with
  |true=>cases v<;>exact .inl ⟨_,rfl,λ_ _=>rfl⟩
  |false=>
   cases Nat.blt n 18446744073709551616 with
   |true=>exact .inl ⟨.mag n,Nat.beq_refl n,λ_ _=>rfl⟩
   |false=>exact .inr λ_ _=>rfl
 have h:gvQ H r n v r' n' v'=.ok x H1:=h;unfold gvQ at h⊢;rcases key n v H (λ_ _=>.no)with⟨c,hc,e⟩|e
 .rw[e]at h;rcases key n' v' H (λ_ _=>.no)with⟨c',hc',e'⟩|e'
  .rw[e']at h;cases h;exact⟨ok hc hc',λH'=>by rw[e,e']⟩
  .rw[e']at h;cases h
 .rw[e]at h;cases h
theorem fQ{F:F4Q}(hF:∀s a z s' a' z' t b u t' b' u',CpsQ (F s a z s' a' z' t b u t' b' u')){x y v:AVal}{H1:AH}(h:nQQ F x y H0e=.ok v H1):okRow v 4/\∀H,nQQ F x y H=.ok v H:=by
 unfold nQQ at h;obtain⟨s,a,z,s',a',z',e1,h⟩:=ja h;obtain⟨t,b,u,t',b',u',e2,h⟩:=ja h;rcases hF s a z s' a' z' t b u t' b' u' with hc|⟨r,n,w,r',n',w',hc⟩
 .rw[hc]at h;cases h
 .rw[hc]at h;obtain⟨h1,h2⟩:=jd h;refine⟨h1,λH=>?_⟩;unfold nQQ;rw[e1,e2,hc,h2]
theorem lV{F:F2Q}(hF:∀s a z t b u,CpsQ (F s a z t b u)){x v:AVal}{H1:AH}(h:nQ F x H0e=.ok v H1):okRow v 4/\∀H,nQ F x H=.ok v H:=by
 unfold nQ at h;obtain⟨s,a,z,s',a',z',e1,h⟩:=ja h;rcases hF s a z s' a' z' with hc|⟨r,n,w,r',n',w',hc⟩
 .rw[hc]at h;cases h
 .rw[hc]at h;obtain⟨h1,h2⟩:=jd h;refine⟨h1,λH=>?_⟩;unfold nQ;rw[e1,hc,h2]
theorem As{x v:AVal}{H1:AH}(h:nqSg x H0e=.ok v H1):∀H,nqSg x H=.ok v H:=by unfold nqSg at h;obtain⟨s,a,z,s',a',z',e1,h⟩:=ja h;intro H;unfold nqSg;rw[e1];cases hb:Nat.beq a 0<;>cases hb':Nat.beq a' 0<;>cases he:eqK s s'<;>(rw[hb,hb',he]at h;cases h;rfl)
theorem At{n:Int}{v:AVal}{H1:AH}(h:nqOf (.int .i64 n) H0e=.ok v H1):okRow v 4/\∀H,nqOf (.int .i64 n) H=.ok v H:=by
 have key:∀H,nqOf (.int .i64 n) H=ofK n λs a z=>gvQ H s a z false 1 false:=λH=>rfl
 rw[key]at h
 have hc:Cps1 (ofK n):=by
  unfold Cps1 ofK;cases n with
  |ofNat m=>show(∀k:KJ,Bool.rec (motive:=λ_=>R) .no (k false m (Nat.beq m 0)) (Nat.blt m 9223372036854775808)=.no)\/∃r n v,∀k:KJ,Bool.rec (motive:=λ_=>R) .no (k false m (Nat.beq m 0)) (Nat.blt m 9223372036854775808)=k r n v;cases Nat.blt m 9223372036854775808<;>first|exact .inl λ_=>rfl|exact .inr ⟨_,_,_,λ_=>rfl⟩
  |negSucc m=>show(∀k:KJ,Bool.rec (motive:=λ_=>R) .no (k true (Nat.succ m) false) (Nat.blt m 9223372036854775808)=.no)\/∃r n v,∀k:KJ,Bool.rec (motive:=λ_=>R) .no (k true (Nat.succ m) false) (Nat.blt m 9223372036854775808)=k r n v;cases Nat.blt m 9223372036854775808<;>first|exact .inl λ_=>rfl|exact .inr ⟨_,_,_,λ_=>rfl⟩
 rcases hc with hc|⟨r,m,w,hc⟩
 .rw[hc]at h;cases h
 .rw[hc]at h;obtain⟨h1,h2⟩:=jd h;exact⟨h1,λH=>by rw[key,hc,h2]⟩
def valR:R->Option AVal
 |.ok v _=>some v
 |.no=>none
theorem bK{r:R}{v:AVal}(h:valR r=some v):∃H,r=.ok v H:=by
 cases r with
 |no=>cases h
 |ok u H=>cases h;exact⟨H,rfl⟩
def mulv(x y:AVal):Option AVal:=valR (nQQ qmulK x y H0e)
def addv(x y:AVal):Option AVal:=valR (nQQ qaddK x y H0e)
def negv(x:AVal):Option AVal:=valR (nQ qnegK x H0e)
def nrmv(x:AVal):Option AVal:=valR (nQ ovrK x H0e)
def ofv(n:Int):Option AVal:=valR (nqOf (.int .i64 n) H0e)
def intR:R->Option Int
 |.ok (.int .i64 n) _=>some n
 |_=>none
def sgnv(x:AVal):Option Int:=intR (nqSg x H0e)
theorem Au{x:AVal}{n:Int}(h:sgnv x=some n):∀H,nqSg x H=.ok (.int .i64 n) H:=by
 unfold sgnv at h;cases hr:nqSg x H0e with
 |no=>rw[hr]at h;cases h
 |ok v H1=>
  rw[hr]at h
  have:v=.int .i64 n:=by
   cases v with
   |int d m=>cases d<;>first|(cases h;rfl)|(cases h;done)
   |_=>cases h
  subst this;exact As hr
theorem bM{n b:List AVal->AH->R}{args:List AVal}{H H':AH}{v:AVal}(h:n args H=.ok v H'):orK n b args H=.ok v H':=by unfold orK;rw[h]
end Go.Ex
namespace Go.Ex
open Go
variable{P:Program}{ω:Nat->Value}{ρ ρ1 ρ' ρc:Rho}{w w':World}
theorem Cw(y:AVal):y.eq1 .bad=false:=by cases y<;>rfl
theorem r9{θ:List (Pth×Pth)}(hθ:∀c a,lk θ c=some a->ρc c=ρ a)(hn:∀b c,ρ.num b=some c->ρc.num b=some c){x y:AVal}{v:Value}(he:y.eq1 (ren1 θ x)=true)(h:VR ρ ω y v):VR ρc ω x v:=by
 have e:=eP he;have nb:ren1 θ x≠.bad:=λh=>by rw[h,Cw]at he;cases he
 clear he;cases x with
 |ptr c off=>
  cases hl:lk θ c with
  |none=>exact absurd (show ren1 θ (.ptr c off)=.bad by simp only[ren1,hl]) nb
  |some a=>
   have e2:ren1 θ (.ptr c off)=.ptr a off:=by simp only[ren1,hl]
   rw[e2]at e;subst e;cases h with|ptr _ _ i hi=>exact .ptr c off i ((hθ c a hl).trans hi)
 |sl c off len cap=>
  cases hl:lk θ c with
  |none=>exact absurd (show ren1 θ (.sl c off len cap)=.bad by simp only[ren1,hl]) nb
  |some a=>
   have e2:ren1 θ (.sl c off len cap)=.sl a off len cap:=by simp only[ren1,hl]
   rw[e2]at e;subst e;cases h with|sl _ _ _ _ i hi=>exact .sl c off len cap i ((hθ c a hl).trans hi)
 |sg c off len esz=>
  cases hl:lk θ c with
  |none=>exact absurd (show ren1 θ (.sg c off len esz)=.bad by simp only[ren1,hl]) nb
  |some a=>
   have e2:ren1 θ (.sg c off len esz)=.sg a off len esz:=by simp only[ren1,hl]
   rw[e2]at e;subst e;cases h with|sg _ _ _ _ cap i hi h1 h2=>exact .sg c off len esz cap i ((hθ c a hl).trans hi) h1 h2
 |map c=>
  cases hl:lk θ c with
  |none=>exact absurd (show ren1 θ (.map c)=.bad by simp only[ren1,hl]) nb
  |some a=>
   have e2:ren1 θ (.map c)=.map a:=by simp only[ren1,hl]
   rw[e2]at e;subst e;cases h with|map _ i hi=>exact .map c i ((hθ c a hl).trans hi)
 |fnv f caps=>
  cases caps with
  |nil=>have e2:ren1 θ (.fnv f [])=.fnv f []:=rfl;rw[e2]at e;subst e;cases h with|fnv f caps cs hcs=>cases hcs;exact .fnv f [] [] .nil
  |cons a l=>exact absurd rfl nb
 |bad=>exact absurd rfl nb
 |yld _=>exact absurd rfl nb
 |tup _=>exact absurd rfl nb
 |agg _=>exact absurd rfl nb
 |opq _=>exact absurd rfl nb
 |pnil=>have e:y=.pnil:=e;subst e;cases h;exact .pnil
 |se=>have e:y=.se:=e;subst e;cases h;exact .se _ _
 |snil=>have e:y=.snil:=e;subst e;cases h;exact .snil
 |fnil=>have e:y=.fnil:=e;subst e;cases h;exact .fnil
 |mnil=>have e:y=.mnil:=e;subst e;cases h;exact .mnil
 |mag n=>have e:y=.mag n:=e;subst e;cases h with|mag _ b o len cap c h hm=>exact .mag n b o len cap c (hn _ _ h) hm
 |mptr n k=>have e:y=.mptr n k:=e;subst e;cases h with|mptr _ _ b o len cap c h hm hk=>exact .mptr n k b o len cap c (hn _ _ h) hm hk
 |str s=>have e:y=.str s:=e;subst e;cases h;exact .str _
 |bool b=>have e:y=.bool b:=e;subst e;cases h;exact .bool _
 |int k n=>have e:y=.int k n:=e;subst e;cases h;exact .int _ _
theorem r_{θ:List (Pth×Pth)}(hθ:∀c a,lk θ c=some a->ρc c=ρ a)(hn:∀b c,ρ.num b=some c->ρc.num b=some c){x:List AVal}:∀{y:List AVal} {vs:List Value},eqL y (ren1s θ x)=true->All2 (VR ρ ω) y vs->All2 (VR ρc ω) x vs:=by
 induction x with
 |nil=>
  intro y vs he h;cases y with
  |nil=>cases h;exact .nil
  |cons _ _=>cases he
 |cons a x ih=>
  intro y vs he h;cases y with
  |nil=>cases he
  |cons b y=>have he:(b.eq1 (ren1 θ a)&&eqL y (ren1s θ x))=true:=he;rw[Bool.and_eq_true]at he;cases h with|cons h t=>exact .cons (r9 hθ hn he.1 h) (ih he.2 t)
def argFit(θ:List (Pth×Pth))(x y:AVal):Bool:=match x with
 |.agg l=>match y with
  |.agg l'=>eqL l' (ren1s θ l)
  |_=>false
 |x=>y.eq1 (ren1 θ x)
def argsFit(θ:List (Pth×Pth)):List AVal->List AVal->Bool
 |[],[]=>true
 |x::l,y::r=>argFit θ x y&&argsFit θ l r
 |_,_=>false
theorem sc{θ:List (Pth×Pth)}(hθ:∀c a,lk θ c=some a->ρc c=ρ a)(hn:∀b c,ρ.num b=some c->ρc.num b=some c){x y:AVal}{v:Value}(he:argFit θ x y=true)(h:VR ρ ω y v):VR ρc ω x v:=by
 cases x with
 |agg l=>
  cases y with
  |agg l'=>cases h with|agg _ vs h hc=>exact .agg l vs (r_ hθ hn he h) hc
  |_=>cases he
 |_=>exact r9 hθ hn he h
theorem sd{θ:List (Pth×Pth)}(hθ:∀c a,lk θ c=some a->ρc c=ρ a)(hn:∀b c,ρ.num b=some c->ρc.num b=some c){x:List AVal}:∀{y:List AVal} {vs:List Value},argsFit θ x y=true->All2 (VR ρ ω) y vs->All2 (VR ρc ω) x vs:=by
 induction x with
 |nil=>
  intro y vs he h;cases y with
  |nil=>cases h;exact .nil
  |cons _ _=>cases he
 |cons a x ih=>
  intro y vs he h;cases y with
  |nil=>cases he
  |cons b y=>have he:(argFit θ a b&&argsFit θ x y)=true:=he;rw[Bool.and_eq_true]at he;cases h with|cons h t=>exact .cons (sc hθ hn he.1 h) (ih he.2 t)
def rowsFit(θ:List (Pth×Pth))(d:List AVal)(els:T8 (List AVal)):Nat->List (List AVal)->Bool
 |_,[]=>true
 |j,r::l=>eqL (elem j d els) (ren1s θ r)&&rowsFit θ d els (Nat.succ j) l
def objFit(θ:List (Pth×Pth)):AObj->TObj->Bool
 |.arr esz n d els,.arr esz' rows=>Nat.beq esz esz'&&(Nat.beq n (lenR rows)&&rowsFit θ d els 0 rows)
 |_,_=>false
theorem sf{θ:List (Pth×Pth)}{d:List AVal}{els:T8 (List AVal)}{l:List (List AVal)}:∀{j:Nat},rowsFit θ d els j l=true->∀k r,l[k]?=some r->eqL (elem (j+k) d els) (ren1s θ r)=true:=by
 induction l with
 |nil=>intro j _ k r h;cases h
 |cons a l ih=>
  intro j h k r hk;unfold rowsFit at h;rw[Bool.and_eq_true]at h;cases k with
  |zero=>simp only[List.getElem?_cons_zero,Option.some.injEq]at hk;rw[<-hk];exact h.1
  |succ k=>have:=ih h.2 k r (by simpa using hk);rw[<-this];congr 2;omega
theorem sh{θ:List (Pth×Pth)}(hθ:∀c a,lk θ c=some a->ρc c=ρ a)(hn:∀b c,ρ.num b=some c->ρc.num b=some c){o:AObj}{t:TObj}{a c:Pth}(hf:objFit θ o t=true)(h:ObjOk P ρ ω w a o)(hc:ρc c=ρ a):ObjOk P ρc ω w c (obj0 t):=by
 cases o with
 |arr esz n d els=>
  cases t with
  |mp _=>cases hf
  |arr esz' rows=>
   simp only[objFit,Bool.and_eq_true]at hf;obtain⟨h1,h2,h3⟩:=hf;have e1:=an.1 h1;have e2:=an.1 h2;subst e1;obtain⟨i,cc,T,g1,g2,g3⟩:=h;refine⟨i,cc,T,hc.trans g1,g2,?_,g3.size,?_⟩
   .have:=g3.lim;rw[e2]at this;exact this
   .intro j hj;obtain⟨vs,k1,k2⟩:=g3.els j (by omega);refine⟨vs,?_,k2⟩;have hjl:j<rows.length:=by rw[<-gT];exact hj
    have hr:rows[j]?=some rows[j]:=List.getElem?_eq_getElem hjl;have he:=sf h3 j _ hr;rw[Nat.zero_add]at he;have h0:elem j [] (tree0 0 rows .nil)=rows[j]:=by unfold elem;rw[fa,nN,if_pos (by omega),Nat.sub_zero,hr];rfl
    rw[h0];exact r_ hθ hn he k1
 |_=>cases t<;>cases hf
theorem mb{θ:List (Pth×Pth)}{o:AObj}{t:TObj}(hf:objFit θ o t=true):owned o=true:=by cases o<;>cases t<;>first|rfl|cases hf
theorem Cx{θ:List (Pth×Pth)}{o:AObj}{t:TObj}{a:Pth}(hf:objFit θ o t=true)(h:ObjOk P ρ ω w a (instO θ t)):ObjOk P ρ ω w a o:=by
 cases o with
 |arr esz n d els=>
  cases t with
  |mp _=>cases hf
  |arr esz' rows=>
   simp only[objFit,Bool.and_eq_true]at hf;obtain⟨h1,h2,h3⟩:=hf;have e1:=an.1 h1;have e2:=an.1 h2;subst e1;obtain⟨i,cc,T,g1,g2,g3⟩:=h;refine⟨i,cc,T,g1,g2,?_,g3.size,?_⟩
   .have:=g3.lim;rw[e2];exact this
   .intro j hj;obtain⟨vs,k1,k2⟩:=g3.els j (by omega);refine⟨vs,?_,k2⟩;have hjl:j<rows.length:=by rw[<-gT];omega
    have hr:rows[j]?=some rows[j]:=List.getElem?_eq_getElem hjl;have he:=sf h3 j _ hr;rw[Nat.zero_add]at he;have h0:elem j [] (treeRows θ 0 rows .nil)=ren1s θ rows[j]:=by unfold elem;rw[fa,kh,if_pos (by omega),Nat.sub_zero,hr];rfl
    rw[h0]at k1;rw[eQ he];exact k1
 |_=>cases t<;>cases hf
def mkTh:List (Pth×TObj)->List Pth->List (Pth×Pth)
 |(c,_)::l,a::az=>(c,a)::mkTh l az
 |_,_=>[]
def objsFit(θ:List (Pth×Pth))(H:AH):List (Pth×TObj)->List Pth->Bool
 |(_,t)::l,a::az=>objFit θ (H.m.get .dead a) t&&objsFit θ H l az
 |[],[]=>true
 |_,_=>false
def pthIn(p:Pth):List Pth->Bool
 |[]=>false
 |a::l=>pthEq p a||pthIn p l
def pthDiff:List Pth->Bool
 |[]=>true
 |a::l=>!pthIn a l&&pthDiff l
theorem Cy{p:Pth}{l:List Pth}:pthIn p l=true↔p∈l:=by
 induction l with
 |nil=>exact⟨λh=>(by cases h),λh=>(by cases h)⟩
 |cons a l ih=>unfold pthIn;rw[Bool.or_eq_true,ih,List.mem_cons,aD]
theorem jB{pre:List (Pth×TObj)}:∀{az:List Pth} {x:Pth×Pth},x∈mkTh pre az->x.2∈az/\∃t,(x.1,t)∈pre:=by
 induction pre with
 |nil=>intro az x h;cases az<;>cases h
 |cons y pre ih=>
  intro az x h;cases az with
  |nil=>cases h
  |cons a az=>
   obtain⟨c,t⟩:=y;rcases List.mem_cons.1 (show x∈(c,a)::mkTh pre az from h)with h|h
   .subst h;exact⟨List.mem_cons_self ..,t,List.mem_cons_self ..⟩
   .obtain⟨h1,t',h2⟩:=ih h;exact⟨List.mem_cons_of_mem _ h1,t',List.mem_cons_of_mem _ h2⟩
theorem si{pre:List (Pth×TObj)}:∀{az:List Pth} {c c' a:Pth},pthDiff az=true->(c,a)∈mkTh pre az->(c',a)∈mkTh pre az->c=c':=by
 induction pre with
 |nil=>intro az c c' a _ h;cases az<;>cases h
 |cons y pre ih=>
  intro az c c' a hd h h';cases az with
  |nil=>cases h
  |cons b az=>
   obtain⟨c0,t⟩:=y;have hd:(!pthIn b az&&pthDiff az)=true:=hd;rw[Bool.and_eq_true,Bool.not_eq_true']at hd;have nb:b∉az:=λh=>by rw[Cy.2 h]at hd;cases hd.1
   rcases List.mem_cons.1 (show(c,a)∈(c0,b)::mkTh pre az from h)with h|h<;>rcases List.mem_cons.1 (show(c',a)∈(c0,b)::mkTh pre az from h')with h'|h'
   .simp only[Prod.mk.injEq]at h h';rw[h.1,h'.1]
   .simp only[Prod.mk.injEq]at h;rw[h.2]at h';exact absurd (jB h').1 nb
   .simp only[Prod.mk.injEq]at h';rw[h'.2]at h;exact absurd (jB h).1 nb
   .exact ih hd.2 h h'
theorem sj{θ:List (Pth×Pth)}{H:AH}{pre:List (Pth×TObj)}:∀{az:List Pth},keysDiff pre=true->objsFit θ H pre az=true->∀{c:Pth} {t:TObj},(c,t)∈pre->∃a,lk (mkTh pre az) c=some a/\objFit θ (H.m.get .dead a) t=true:=by
 induction pre with
 |nil=>intro az _ _ c t h;cases h
 |cons y pre ih=>
  intro az hd hf c t h;obtain⟨c0,t0⟩:=y;cases az with
  |nil=>cases hf
  |cons a az=>
   have hf':(objFit θ (H.m.get .dead a) t0&&objsFit θ H pre az)=true:=hf;rw[Bool.and_eq_true]at hf';simp only[keysDiff,Bool.and_eq_true,List.all_eq_true]at hd;rcases List.mem_cons.1 h with h|h
   .simp only[Prod.mk.injEq]at h;obtain⟨rfl,rfl⟩:=h;refine⟨a,?_,hf'.1⟩;show(bif pthEq c c then some a else _)=_;rw[aD.2 rfl];rfl
   .obtain⟨a',h1,h2⟩:=ih hd.2 hf'.2 h;refine⟨a',?_,h2⟩;have:=hd.1 _ h;rw[Bool.not_eq_true']at this;show(bif pthEq c0 c then some a else lk (mkTh pre az) c)=_;rw[this];exact h1
def preFits(o:Orc)(pre:List (Pth×TObj))(az:List Pth)(args:List AVal)(H:AH):Bool:=argsFit (mkTh pre az) o.args args&&(hasRo H o.ro&&(objsFit (mkTh pre az) H pre az&&pthDiff az))
def preH(q q':Pth)(o:Orc)(pre:List (Pth×TObj)):AH:=⟨q',putObjs pre (roHeap q o.ro).m⟩
def resFit(θ:List (Pth×Pth)):AVal->AVal->Bool
 |.tup l,.tup r=>argsFit θ l r
 |x,y=>argFit θ x y
theorem Cz{θ:List (Pth×Pth)}(hθ:∀c a,lk θ c=some a->ρc c=ρ a)(hn:∀b c,ρ.num b=some c->ρc.num b=some c){x y:AVal}{v:Value}(he:resFit θ x y=true)(h:VR ρ ω y v):VR ρc ω x v:=by
 unfold resFit at he;split at he
 .cases h with|tup _ vs h=>exact .tup _ vs (sd hθ hn he h)
 .exact sc hθ hn he h
def pthOut(az:List Pth)(pre:List (Pth×TObj)):Bool:=az.all λa=>pre.all λx=>!pthEq a x.1
def preRes(o:Orc)(pre:List (Pth×TObj))(az:AVal->AH->List Pth):R->Bool
 |.ok v H=>resFit (mkTh o.objs (az v H)) o.v v&&(hasObjs H pre&&(objsFit (mkTh o.objs (az v H)) H o.objs (az v H)&&(pthDiff (az v H)&&pthOut (az v H) pre)))
 |.no=>false
def preIn(q q':Pth)(pre:List (Pth×TObj)):Bool:=pre.all λx=>Nat.ble q.toNat x.1.toNat&&Nat.blt x.1.toNat q'.toNat
def preOk(q q':Pth)(o:Orc)(pre:List (Pth×TObj)):Bool:=Nat.ble q.toNat q'.toNat&&(preIn q q' pre&&(roFlat q o.ro&&(keysDiff pre&&keysDiff o.objs)))
theorem CG{θ:List (Pth×Pth)}(hθ:Nam θ ρ1 ρ'){c a:Pth}(hc:ρ' a=ρ1 c){t:TObj}(h:ObjOk P ρ1 ω w c (obj0 t)):ObjOk P ρ' ω w a (instO θ t):=by
 cases t with
 |arr esz rows=>
  obtain⟨i,cc,T,g1,g2,g3⟩:=h;refine⟨i,cc,T,hc.trans g1,g2,g3.lim,g3.size,?_⟩;intro j hj;obtain⟨vs,k1,k2⟩:=g3.els j hj;refine⟨vs,?_,k2⟩;have hjl:j<rows.length:=by rw[<-gT];exact hj
  have hr:rows[j]?=some rows[j]:=List.getElem?_eq_getElem hjl;have h0:elem j [] (treeRows θ 0 rows .nil)=ren1s θ rows[j]:=by unfold elem;rw[fa,kh,if_pos (by omega),Nat.sub_zero,hr];rfl
  have h1:elem j [] (tree0 0 rows .nil)=rows[j]:=by unfold elem;rw[fa,nN,if_pos (by omega),Nat.sub_zero,hr];rfl
  rw[h1]at k1;rw[h0];exact VRs.ren1 hθ k1
 |mp es=>
  obtain⟨i,en,ck,g1,g2,g3⟩:=h;refine⟨i,en,ck,hc.trans g1,g2,?_⟩;generalize en.toList=l at g3
  induction g3 with
  |nil=>exact .nil
  |cons h t ih=>exact .cons ⟨h.1.ren1 hθ,h.2.ren1 hθ⟩ ih
theorem CH{T:T8 CFn}(hω:∀i,(ω i).oneCell'=true)(hm:P.follows .mixedOrders=true)(hT:TabOk P ω T){f:Nat}{k:List AVal->AH->R}(hA:Adq T (key f) k){q q':Pth}(hq:q=key P.globals.size){o:Orc}(hex:o.ex=none){pre:List (Pth×TObj)}(hk:preOk q q' o pre=true){asr:AVal->AH->List Pth}(hres:preRes o pre asr (k o.args (preH q q' o pre))=true){args:List AVal}{H:AH}{v:AVal}{H':AH}{az:List Pth}(hfit:preFits o pre az args H=true)(hgive:give o H=.ok v H'){ρ:Rho}{w:World}{vals:List Value}(hr:HR P ρ ω H w)(hg:GlobOk P ρ)(hv:All2 (VR ρ ω) args vals) :
 ∃fn,P.funcs[f]?=some fn/\(fn.name== "runtime.NumGoroutine")=false/\fn.body.isNone=false/\
  CallsIn Fence.wide 0 P f vals.toArray w λ|.returned v',w'=>(∃ρ',VR ρ' ω v v'/\Step P ρ ω H w ρ' H' w')|_,_=>False:=by
 simp only[give,hex,R.ok.injEq]at hgive;obtain⟨rfl,rfl⟩:=hgive;simp only[preOk,Bool.and_eq_true]at hk;obtain⟨hqq,hin,hro,hdp,hdiff⟩:=hk;have hqq:q.toNat<=q'.toNat:=Nat.le_of_ble_eq_true hqq;have hin:∀{c t},(c,t)∈pre->q.toNat<=c.toNat/\c.toNat<q'.toNat:=λ{c t} h=>by simp only[preIn,List.all_eq_true,Bool.and_eq_true]at hin;have:=hin _ h;exact⟨Nat.le_of_ble_eq_true this.1,Nat.le_of_ble_eq_true this.2⟩
 simp only[preFits,Bool.and_eq_true]at hfit;obtain⟨hfa,h2,hfo,has⟩:=hfit
 obtain⟨v1,H1,hrun,hev,hpobj,hobjs,had,hao⟩:∃v1 H1,k o.args (preH q q' o pre)=.ok v1 H1/\resFit (mkTh o.objs (asr v1 H1)) o.v v1=true/\hasObjs H1 pre=true/\objsFit (mkTh o.objs (asr v1 H1)) H1 o.objs (asr v1 H1)=true/\pthDiff (asr v1 H1)=true/\pthOut (asr v1 H1) pre=true:=by
  cases hr:k o.args (preH q q' o pre)with
  |no=>rw[hr]at hres;cases hres
  |ok v1 H1=>rw[hr]at hres;simp only[preRes,Bool.and_eq_true]at hres;exact⟨v1,H1,rfl,hres.1,hres.2.1,hres.2.2.1,hres.2.2.2.1,hres.2.2.2.2⟩
 generalize asr v1 H1=ar at hev hobjs had hao;generalize hσ:mkTh o.objs ar=σ at hev hobjs;obtain⟨n,hn⟩:=hA _ _ _ _ hrun;have hcall:=hn n (Nat.le_refl _);clear hn hrun hres;generalize hτ:mkTh pre az=τ at hfa hfo;have pat:∀{c t},(c,t)∈pre->∃a i,lk τ c=some a/\objFit τ (H.m.get .dead a) t=true/\ρ a=some i/\owned (H.m.get .dead a)=true/\i.blk<w.heap.size:=λ{c t} h=>by obtain⟨a,h1,h2⟩:=sj hdp hfo h;rw[hτ]at h1;obtain⟨i,h3,h4⟩:=(hr.ok a).lt (aj (mb h2));exact⟨a,i,h1,h2,h3,mb h2,h4⟩
 have tau_pre:∀{c a},lk τ c=some a->∃t,(c,t)∈pre:=λ{c a} h=>by have:=de h;rw[<-hτ]at this;exact(jB this).2
 have tau_inj:∀{c c' a},lk τ c=some a->lk τ c'=some a->c=c':=λ{c c' a} h h'=>by have h:=de h;have h':=de h';rw[<-hτ]at h h';exact si has h h'
 obtain⟨ρc,hρd⟩:∃ρc:Rho,ρc=⟨λid=>if id.toNat<q.toNat then ρ id else(lk τ id).bind ρ.o,ρ.num⟩:=⟨_,rfl⟩;have rc_lo:∀{id},id.toNat<q.toNat->ρc id=ρ id:=λ{id} h=>by rw[hρd];exact if_pos h
 have rc_hi:∀{id},¬id.toNat<q.toNat->ρc id=(lk τ id).bind ρ.o:=λ{id} h=>by rw[hρd];exact if_neg h
 have rc_num:ρc.num=ρ.num:=by rw[hρd]
 have rc_tau:∀c a,lk τ c=some a->ρc c=ρ a:=λc a h=>by obtain⟨t,ht⟩:=tau_pre h;rw[rc_hi (by have:=hin ht;omega),h];rfl
 clear hρd;have hpg:∀id,(∃t,(id,t)∈pre/\(preH q q' o pre).m.get .dead id=obj0 t)\/((∀t,(id,t)∉pre)/\(preH q q' o pre).m.get .dead id=(roHeap q o.ro).m.get .dead id):=λid=>vu pre _ id
 have roNo:∀id,owned ((roHeap q o.ro).m.get .dead id)=false:=λid=>by
  rcases fb q o.ro id with⟨e,n,d,k1,k2⟩|k1
  .rw[k2];rfl
  .rw[k1];rfl
 have own_pre:∀{id},owned ((preH q q' o pre).m.get .dead id)=true->∃t,(id,t)∈pre:=λ{id} h=>by
  rcases hpg id with⟨t,h1,h2⟩|⟨_,h2⟩
  .exact⟨t,h1⟩
  .rw[h2,roNo id]at h;cases h
 have ro_lo:∀{id e n d},(id,e,n,d)∈o.ro->id.toNat<q.toNat/\∀y∈d,flat1 y=true:=λ{id e n d} h=>by simp only[roFlat,List.all_eq_true,Bool.and_eq_true]at hro;have hx:=hro _ h;exact⟨Nat.le_of_ble_eq_true hx.1,λy hy=>hx.2 y hy⟩
 have hrc:HR P ρc ω (preH q q' o pre) w:=by
  refine⟨λid=>?_,λa b ia ib hoa hlb hab ha hb=>?_,λid i h=>?_,λb c h=>⟨(hr.num b c (by rw[<-rc_num];exact h)).1,λid i ho hi=>?_⟩⟩
  .rcases hpg id with⟨t,k0,k1⟩|⟨_,k1⟩
   .rw[k1];obtain⟨a,i,p1,p2,p3,p4,p5⟩:=pat k0;exact sh rc_tau (λ_ _ h=>by rw[rc_num];exact h) p2 (hr.ok a) (rc_tau _ _ p1)
   .rw[k1];rcases fb q o.ro id with⟨e,n,d,k1,k2⟩|k1
    .rw[k2];have h3:=hr.ok id;rw[ki h2 _ _ _ _ k1]at h3;obtain⟨i,c,T',fz,g1,g2,g3⟩:=h3;obtain⟨hlt,hx⟩:=ro_lo k1;refine⟨i,c,T',fz,(rc_lo hlt).trans g1,g2,g3.lim,g3.size,λj hj=>?_⟩;obtain⟨vs,m1,m2⟩:=g3.els j hj;refine⟨vs,VRs.flat1 m1 ?_,m2⟩;rw[elem_nil,List.all_eq_true];exact hx
    .rw[k1];trivial
  .obtain⟨t,ht⟩:=own_pre hoa;obtain⟨a1,i,p1,p2,p3,p4,p5⟩:=pat ht;rw[rc_tau _ _ p1,p3]at ha;cases ha;rcases hpg b with⟨t',k0,k1⟩|⟨_,k1⟩
   .obtain⟨b1,j,q1,q2,q3,q4,q5⟩:=pat k0;rw[rc_tau _ _ q1,q3]at hb;cases hb;exact hr.inj a1 b1 _ _ p4 (aj q4) (λe=>by subst e;exact hab (tau_inj p1 q1)) p3 q3
   .rw[k1]at hlb;rcases fb q o.ro b with⟨e,n,d,k1,k2⟩|k1
    .obtain⟨hlt,_⟩:=ro_lo k1;rw[rc_lo hlt]at hb;have hbr:=ki h2 _ _ _ _ k1;refine hr.inj a1 b _ ib p4 (by rw[hbr];rfl) (λe=>?_) p3 hb;subst e;rw[hbr]at p4;cases p4
    .rw[k1]at hlb;cases hlb
  .show id.toNat<q'.toNat;by_cases hl:id.toNat<q.toNat
   .omega
   .rw[rc_hi hl]at h;cases ht:lk τ id with
    |none=>rw[ht]at h;cases h
    |some a=>obtain⟨t,h1⟩:=tau_pre ht;exact(hin h1).2
  .obtain⟨t,ht⟩:=own_pre ho;obtain⟨a1,j,p1,p2,p3,p4,p5⟩:=pat ht;rw[rc_tau _ _ p1,p3]at hi;cases hi;exact(hr.num b c (by rw[<-rc_num];exact h)).2 a1 _ p4 p3
 have hgc:GlobOk P ρc:=λg hgl=>by obtain⟨i,x,y⟩:=hg g hgl;exact⟨i,(rc_lo (by rw[hq,bN,bN];exact hgl)).trans x,y⟩
 have hc:CallerOk P ω (caller T (exec T n)):=ed hT (gK hω hT (gS hω hm) n) (ee n);have hco:=hc hcall hrc hgc (.fnv f [] [] .nil) (sd rc_tau (λ_ _ h=>by rw[rc_num];exact h) hfa hv);cases hco with
 |fn f caps fn hf hn hbd h=>
  rw[List.append_nil]at h;refine⟨fn,hf,hn,hbd,h.mono λe w' he=>?_⟩;cases e with
  |panicked c=>exact he.elim
  |outgrown=>exact he.elim
  |returned v'=>
   obtain⟨ρ1,hv',hs⟩:=he;have img_pat:∀{b},ImgO ρc (preH q q' o pre) b->∃c t a i,(c,t)∈pre/\lk τ c=some a/\objFit τ (H.m.get .dead a) t=true/\ρ a=some i/\owned (H.m.get .dead a)=true/\i.blk=b/\ρ1 c=some i/\owned (H1.m.get .dead c)=true:=by rintro b ⟨id,i,h1,h2,h3⟩;obtain⟨t,ht⟩:=own_pre h1;obtain⟨a,j,p1,p2,p3,p4,p5⟩:=pat ht;have h2':=h2;rw[rc_tau _ _ p1,p3]at h2;cases h2;have ho:=gU hpobj _ ht;simp only at ho;refine⟨id,t,a,_,ht,p1,p2,p3,p4,h3,hs.sub _ _ h2',?_⟩;cases hoo:H1.m.get .dead id<;>rw[hoo]at ho<;>first|rfl|(cases ho;done)
   have img_H:∀{b},ImgO ρc (preH q q' o pre) b->ImgO ρ H b:=λ{b} h=>by obtain⟨c,t,a,i,_,_,_,h1,h2,h3,_⟩:=img_pat h;exact⟨a,i,h2,h1,h3⟩
   obtain⟨ρr,hρr⟩:∃ρr:Rho,ρr=⟨λid=>(lk σ id).bind ρ1.o,ρ1.num⟩:=⟨_,rfl⟩;have rr_num:ρr.num=ρ1.num:=by rw[hρr]
   have rr_get:∀c a,lk σ c=some a->ρr c=ρ1 a:=λc a h=>by rw[hρr];show(lk σ c).bind ρ1.o=_;rw[h];rfl
   clear hρr;have sig_inj:∀{c c' a},lk σ c=some a->lk σ c'=some a->c=c':=λ{c c' a} h h'=>by have h:=de h;have h':=de h';rw[<-hσ]at h h';exact si had h h'
   have same:∀b,b<w.heap.size->¬ImgO ρc (preH q q' o pre) b->w'.heap[b]?=w.heap[b]?:=λb hb h=>hs.keep b hb h
   generalize hθ:mkIds o.objs H.next=θ
   obtain⟨ρ',hρ'⟩:∃ρ':Rho,ρ'=⟨λid=>match rev θ id with
    |some c=>ρr c
    |none=>ρ id,ρ1.num⟩:=⟨_,rfl⟩
   have r_new:∀{id c},rev θ id=some c->ρ' id=ρr c:=λ{id c} h=>by rw[hρ'];show(match rev θ id with|some c=>ρr c|none=>ρ id)=_;rw[h]
   have r_old:∀{id},rev θ id=none->ρ' id=ρ id:=λ{id} h=>by rw[hρ'];show(match rev θ id with|some c=>ρr c|none=>ρ id)=_;rw[h]
   have r_num:ρ'.num=ρ1.num:=by rw[hρ']
   clear hρ';have rev_ge:∀{id c},rev θ id=some c->H.next.toNat<=id.toNat/\id.toNat<H.next.toNat+o.objs.length:=λ{id c} h=>by have:=gW h;rw[<-hθ]at this;exact fc _ this
   have r_lt:∀{id i},ρ id=some i->rev θ id=none:=λ{id i} h=>by
    have hlt:=hr.fresh id i h;cases hrv:rev θ id with
    |none=>rfl
    |some c=>have:=(rev_ge hrv).1;omega
   have hnam:Nam θ ρr ρ':=⟨by
    intro c a hl;have hmem:=de hl;rw[<-hθ]at hmem
    exact r_new (by rw[<-hθ];exact ef hmem),λ_ _ h=>by rw[r_num,<-rr_num];exact h⟩
   have hnamτ:Nam τ ρ1 ρ':=⟨by
    intro c a hl;obtain⟨t,ht⟩:=tau_pre hl;obtain⟨a',i,p1,p2,p3,p4,p5⟩:=pat ht;rw[hl]at p1;cases p1;rw[r_old (r_lt p3),p3]
    exact(hs.sub _ _ ((rc_tau _ _ hl).trans p3)).symm,λ_ _ h=>by rw[r_num];exact h⟩
   have hsub:Sub ρ ρ':=⟨λid i h=>(r_old (r_lt h)).trans h,λb c h=>by rw[r_num];exact hs.sub.num b c (by rw[rc_num];exact h)⟩
   have newb:∀{c t},(c,t)∈o.objs->∃a i,lk σ c=some a/\ρ1 a=some i/\w.heap.size<=i.blk/\owned (H1.m.get .dead a)=true/\objFit σ (H1.m.get .dead a) t=true:=by
    intro c t hct;obtain⟨a,g0,ht⟩:=sj hdiff hobjs hct;rw[hσ]at g0;have hown:=mb ht;obtain⟨i,hi,hlt⟩:=(hs.hr.ok a).lt (aj hown);refine⟨a,i,g0,hi,?_,hown,ht⟩;rcases Nat.lt_or_ge i.blk w.heap.size with hl|hge
    .obtain⟨c0,t0,a0,j,g1,g2,g3,g4,g5,g6,g7,g8⟩:=img_pat (hs.imgo _ hl ⟨a,i,hown,hi,rfl⟩);refine absurd g6.symm (hs.hr.inj a c0 i j hown (aj g8) (λe=>?_) hi g7);subst e;have hm:=de g0;rw[<-hσ]at hm;simp only[pthOut,List.all_eq_true]at hao;have:=hao _ (jB hm).1 _ g1;rw[aD.2 rfl]at this;cases this
    .exact hge
   obtain⟨nx,gt⟩:=nR θ o.objs H;rw[hθ]at gt
   have old:∀{id},(∀c,(c,id)∉θ)->rev θ id=none:=λ{id} h=>by
    cases hrv:rev θ id with
    |none=>rfl
    |some c=>exact absurd (gW hrv) (h c)
   have blk_old:∀{id i},live (H.m.get .dead id)=true->(∀c,(c,id)∉θ)->ρ' id=some i->ρ id=some i/\i.blk<w.heap.size:=by intro id i hl hno hi;rw[r_old (old hno)]at hi;obtain⟨j,hj,hlt⟩:=(hr.ok id).lt hl;rw[hi]at hj;cases hj;exact⟨hi,hlt⟩
   have new_of:∀{c id t i},(c,id)∈θ->(c,t)∈o.objs->ρ' id=some i->∃a,lk σ c=some a/\ρ1 a=some i/\w.heap.size<=i.blk/\owned (H1.m.get .dead a)=true:=by
    intro c id t i hm ht hi;have:rev θ id=some c:=by rw[<-hθ]at hm⊢;exact ef hm
    rw[r_new this]at hi;obtain⟨a,j,g0,g1,g2,g3,_⟩:=newb ht;rw[rr_get _ _ g0,g1]at hi;cases hi;exact⟨a,g0,g1,g2,g3⟩
   refine⟨ρ',VR.ren3 hnam (Cz rr_get (λ_ _ h=>by rw[rr_num];exact h) hev hv'),?_⟩
   exact {
    sub:=hsub
    hr:={
     ok:=λid=>by
      rcases gt id with⟨c,t,g1,g2,g3⟩|⟨g1,g2⟩
      .rw[g3];have hrv:rev θ id=some c:=by rw[<-hθ]at g1⊢;exact ef g1
       obtain⟨a,j,k0,k1,k2,k3,k4⟩:=newb g2;exact CG hnam (r_new hrv) (sh rr_get (λ_ _ h=>by rw[rr_num];exact h) k4 (hs.hr.ok a) (rr_get _ _ k0))
      .rw[g2];by_cases hl:live (H.m.get .dead id)=true
       .obtain⟨j,hj,hlt⟩:=(hr.ok id).lt hl;by_cases him:ImgO ρc (preH q q' o pre) j.blk
        .obtain⟨c0,t0,a,i,p1,p2,p3,p4,p5,p6,p7,p8⟩:=img_pat him;have e:a=id:=Classical.byContradiction λhne=>hr.inj a id i j p5 hl hne p4 hj p6
         subst e;exact Cx p3 (nO (P:=P) (w:=w') hnamτ (c:=c0) (a:=a) (hnamτ.get _ _ p2) (gU hpobj _ p1) (hs.hr.ok c0)).1
        .refine ObjOk.mono hsub (λi hi=>?_) (hr.ok id);rw[hj]at hi;cases hi;exact same _ hlt him
       .exact(hr.ok id).idle hl hsub
     inj:=λa b ia ib hoa hlb hab h1 h2 e=>by
      rcases gt a with⟨c,t,g1,g2,g3⟩|⟨g1,g2⟩
      .obtain⟨ac,m0,m1,m2,m3⟩:=new_of g1 g2 h1;rcases gt b with⟨c',t',k1,k2,k3⟩|⟨k1,k2⟩
       .obtain⟨bc,n0,n1,n2,n3⟩:=new_of k1 k2 h2;have hne:ac≠bc:=λe=>by subst e;have e:=sig_inj m0 n0;subst e;rw[<-hθ]at g1 k1;exact hab (nS hdiff g1 k1)
        exact hs.hr.inj ac bc ia ib m3 (aj n3) hne m1 n1 e
       .rw[k2]at hlb;have:=(blk_old hlb k1 h2).2;omega
      .rw[g2]at hoa;have ho:=blk_old (aj hoa) g1 h1;rcases gt b with⟨c',t',k1,k2,k3⟩|⟨k1,k2⟩
       .obtain⟨_,_,n1,n2,n3⟩:=new_of k1 k2 h2;omega
       .rw[k2]at hlb;exact hr.inj a b ia ib hoa hlb hab ho.1 (blk_old hlb k1 h2).1 e
     fresh:=λid i h=>by
      rw[nx];cases hrv:rev θ id with
      |some c=>exact(rev_ge hrv).2
      |none=>rw[r_old hrv]at h;have:=hr.fresh id i h;omega
     num:=λb c h=>by
      rw[r_num]at h;refine⟨(hs.hr.num b c h).1,λa ia hoa ha e=>?_⟩;rcases gt a with⟨c',t,g1,g2,g3⟩|⟨g1,g2⟩
      .obtain⟨ac,m0,m1,m2,m3⟩:=new_of g1 g2 ha;exact(hs.hr.num b c h).2 ac ia m3 m1 e
      .rw[g2]at hoa;have ho:=blk_old (aj hoa) g1 ha;rcases hs.nums b c h with h2|h2|h2
       .exact(hr.num b c (by rw[<-rc_num];exact h2)).2 a ia hoa ho.1 e
       .omega
       .obtain⟨c0,t0,a0,i,p1,p2,p3,p4,p5,p6,p7,p8⟩:=img_pat h2;have e2:a=a0:=Classical.byContradiction λhne=>hr.inj a a0 ia i hoa (aj p5) hne ho.1 p4 (e.trans p6.symm)
        subst e2
        exact(hs.hr.num b c h).2 c0 i p8 p7 p6}
    idle:=λid hl h=>by
     rcases gt id with⟨c,t,g1,g2,g3⟩|⟨g1,g2⟩
     .have:=(fc _ (hθ▸g1)).1;simp only at this;omega
     .rw[g2];exact h
    nums:=λb c h=>(hs.nums b c (by rw[<-r_num];exact h)).imp (λh=>by rw[<-rc_num];exact h) λh=>h.imp_right img_H
    os:=hs.os
    tape:=hs.tape
    output:=hs.output
    size:=hs.size
    keep:=λb hb hni=>same b hb λh=>hni (img_H h)
    al:=λb hb ⟨id,i,h1,h2,h3⟩=>by
     rcases gt id with⟨c,t,g1,g2,g3⟩|⟨g1,g2⟩
     .obtain⟨_,_,_,this,_⟩:=new_of g1 g2 h2;omega
     .rw[g2]at h1;exact⟨id,i,h1,(blk_old h1 g1 h2).1,h3⟩
    imgo:=λb hb ⟨id,i,h1,h2,h3⟩=>by
     rcases gt id with⟨c,t,g1,g2,g3⟩|⟨g1,g2⟩
     .obtain⟨_,_,_,this,_⟩:=new_of g1 g2 h2;omega
     .rw[g2]at h1;exact⟨id,i,h1,(blk_old (aj h1) g1 h2).1,h3⟩
    next:=by rw[nx];omega
    dom:=λid i h hl=>by
     cases hrv:rev θ id with
     |some c=>have:=(rev_ge hrv).1;omega
     |none=>rw[r_old hrv]at h;exact h}
structure Kn where
 o:Orc
 pre:List (Pth×TObj)
 hints:List (Nat×Nat×Nat)
 rhints:List (Nat×Nat×Nat)
def keyOf:AVal->Pth
 |.ptr k _=>k
 |.sl k _ _ _=>k
 |.sg k _ _ _=>k
 |_=>.e
def cellsOf0:AVal->List AVal
 |.agg l=>l
 |v=>[v]
def valsOf:AVal->List AVal
 |.tup l=>l
 |v=>[v]
def nthV:List AVal->Nat->AVal
 |[],_=>.bad
 |a::_,0=>a
 |_::l,n+1=>nthV l n
def nthK:List Pth->Nat->Pth
 |[],_=>.e
 |a::_,0=>a
 |_::l,n+1=>nthK l n
def rowAt(j:Nat):AObj->List AVal
 |.arr _ _ d els=>elem j d els
 |_=>[]
def revK:List Pth->List Pth->List Pth
 |[],r=>r
 |a::l,r=>revK l (a::r)
def findKs(args:List AVal)(H:AH):List (Nat×Nat×Nat)->List Pth->List Pth
 |[],az=>revK az []
 |(0,i,c)::l,az=>findKs args H l (keyOf (nthV (cellsOf0 (nthV args i)) c)::az)
 |(b+1,r,c)::l,az=>findKs args H l (keyOf (nthV (rowAt r (H.m.get .dead (nthK az b))) c)::az)
def tryKn(kn:Kn)(args:List AVal)(H:AH):R:=Bool.rec (motive:=λ_=>R) .no (give kn.o H) (preFits kn.o kn.pre (findKs args H kn.hints []) args H)
def natKn(L:List (Nat×Kn))(code:List AVal->AH->Nat)(args:List AVal)(H:AH):R:=fz (code args H) λc=>List.rec (motive:=λ_=>R) .no (λp _ ih=>Bool.rec (motive:=λ_=>R) ih (R.rec (motive:=λ_=>R) ih (λv H'=>.ok v H') (tryKn p.2 args H)) (Nat.beq p.1 c)) L
def resKn(kn:Kn)(v:AVal)(H:AH):List Pth:=findKs (valsOf v) H kn.rhints []
def knOk(q q':Pth)(k:List AVal->AH->R)(kn:Kn):Bool:=Option.rec (motive:=λ_=>Bool) (preOk q q' kn.o kn.pre&&preRes kn.o kn.pre (resKn kn) (k kn.o.args (preH q q' kn.o kn.pre))) (λ_=>false) kn.o.ex
theorem CI{T:T8 CFn}(hω:∀i,(ω i).oneCell'=true)(hm:P.follows .mixedOrders=true)(hT:TabOk P ω T){f:Nat}{k:List AVal->AH->R}(hA:Adq T (key f) k){q:Pth}(hq:q=key P.globals.size){L:List (Nat×Kn)}{code:List AVal->AH->Nat}(hL:∀p∈L,∃q',knOk q q' k p.2=true):OrcOk P ω f (natK (natKn L code)):=by
 intro args H v H' ρ w vals hone hr hg hv;have h:natKn L code args H=.ok v H':=hone;clear hone;unfold natKn at h;rw[aN]at h;generalize code args H=c at h
 induction L with
 |nil=>cases h
 |cons p L ih=>
  have ih:=ih (λx hx=>hL x (List.mem_cons_of_mem _ hx));have h:Bool.rec (motive:=λ_=>R) (List.rec (motive:=λ_=>R) .no (λp _ ih=>Bool.rec (motive:=λ_=>R) ih (R.rec (motive:=λ_=>R) ih (λv H'=>.ok v H') (tryKn p.2 args H)) (Nat.beq p.1 c)) L) (R.rec (motive:=λ_=>R) (List.rec (motive:=λ_=>R) .no (λp _ ih=>Bool.rec (motive:=λ_=>R) ih (R.rec (motive:=λ_=>R) ih (λv H'=>.ok v H') (tryKn p.2 args H)) (Nat.beq p.1 c)) L) (λv H'=>.ok v H') (tryKn p.2 args H)) (Nat.beq p.1 c)=.ok v H':=h;cases hb:Nat.beq p.1 c with
  |false=>rw[hb]at h;exact ih h
  |true=>
   rw[hb]at h;cases ht:tryKn p.2 args H with
   |no=>rw[ht]at h;exact ih h
   |ok v1 H1=>
    rw[ht]at h;have h:R.ok v1 H1=.ok v H':=h;rw[h]at ht;unfold tryKn at ht;cases hf:preFits p.2.o p.2.pre (findKs args H p.2.hints []) args H with
    |false=>rw[hf]at ht;cases ht
    |true=>
     rw[hf]at ht;obtain⟨q',hk⟩:=hL p (List.mem_cons_self ..);unfold knOk at hk;cases hex:p.2.o.ex with
     |some _=>rw[hex]at hk;cases hk
     |none=>rw[hex]at hk;have hk:(preOk q q' p.2.o p.2.pre&&preRes p.2.o p.2.pre (resKn p.2) (k p.2.o.args (preH q q' p.2.o p.2.pre)))=true:=hk;rw[Bool.and_eq_true]at hk;exact CH hω hm hT hA hq hex hk.1 hk.2 hf ht hr hg hv
end Go.Ex
