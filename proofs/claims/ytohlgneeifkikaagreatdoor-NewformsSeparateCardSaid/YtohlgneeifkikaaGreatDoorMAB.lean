/- A part of the executor of abstract values, its soundness over the model, and what functions of the program reckon. Conditions: those stated at each theorem. -/
import Derived.Test.YtohlgneeifkikaaGreatDoorMAA
set_option maxRecDepth 1000000
set_option maxHeartbeats 0
set_option linter.unusedVariables false
noncomputable section
namespace Go.Ex
open Go
variable{P:Program}{ρ:Rho}{ω:Nat->Value}{H:AH}{w:World}
variable{a:Act}{N:Nat}{S:List (Nat×Pth)}{A:List Nat}{G G':Ctx}{L:List AVal}{e:T8 AVal}
def DrawnOk(P:Program)(ω:Nat->Value):Prop:=
 ∀{call:Caller} (_:CallerOk P ω call) {N:Nat} {S:List (Nat×Pth)} {id:Nat} {ops:Array Oper} {l:List (CO×Dw)} {ro:Option Nat} {base:Nat} {ρ:Rho} {H:AH} {e:T8 AVal} {a:Act} {w:World} (_:slotsOk S=true)
  (_:cRegD P N S ops=some (.aC l)) (_:St P ω N S base ρ H e a w) (_:runD call l e (reserve l H) H.next 0 [] [reserve l H] []≠.none),
  (Code.region id ops true).wpIn (FF ro) 0 P (Post P ω N S base ρ H w (runD call l e (reserve l H) H.next 0 [] [reserve l H] [])) a w
theorem Post.norm{base:Nat}{e':T8 AVal}{H':AH}{a':Act}{w':World}{ρ':Rho}(hs:Step P ρ ω H w ρ' H' w')(h:St P ω N S base ρ' H' e' a' w'):Post P ω N S base ρ H w (.norm e' H') .normal a' w':=⟨rfl,e',H',rfl,ρ',hs,h⟩
theorem Post.gG{base:Nat}{e':T8 AVal}{H':AH}{ex:Exit}{a':Act}{w':World}(h:Post P ω N S base ρ H w (.norm e' H') ex a' w'):ex=.normal/\∃ρ',Step P ρ ω H w ρ' H' w'/\St P ω N S base ρ' H' e' a' w':=by obtain⟨h1,e1,H1,h2,ρ',h3,h4⟩:=h;simp only[Out.way,Option.some.injEq]at h1;simp only[Out.state,Option.some.injEq,Prod.mk.injEq]at h2;obtain⟨rfl,rfl⟩:=h2;exact⟨h1.symm,ρ',h3,h4⟩
theorem Post.gH{base:Nat}{e':T8 AVal}{H':AH}{ex:Exit}{a':Act}{w':World}(h:Post P ω N S base ρ H w (.ret e' H') ex a' w'):ex=.ret:=by have h1:=h.1;simp only[Out.way,Option.some.injEq]at h1;exact h1.symm
theorem Post.gI{base:Nat}{id:Nat}{e':T8 AVal}{H':AH}{ex:Exit}{a':Act}{w':World}(h:Post P ω N S base ρ H w (.exit id e' H') ex a' w'):ex=.exit id:=by have h1:=h.1;simp only[Out.way,Option.some.injEq]at h1;exact h1.symm
section
variable{T:T8 CFn}{x:CC->T8 AVal->AH->Out}
theorem uC(hcall:CallerOk P ω (caller T x))(hS:slotsOk S=true){base:Nat}{f:Operand}{ps:Array Tmp}{as bd:Code}{cf:COpd}{q:List Pth}{xa xb:CC}(hf:cOpd P N S ⟨[],0⟩ f=some cf)(hq:ps.toList.mapM (look S)=some q)(hps:(ps.all λt=>Nat.blt t N)=true)(ha:cCode P N S A as=some xa)(hb:cCode P N S A bd=some xb)(hnr:noRange xa=true/\noRange xb=true)(hst:St P ω N S base ρ H e a w)(hne:execS T x (.rangeF cf q xa xb) e H≠.none):(Code.rangeFunc f ps as bd).wpIn (FF none) 0 P (Post P ω N S base ρ H w (execS T x (.rangeF cf q xa xb) e H)) a w:=by
 refine wpIn_rangeFunc λfn _=>?_
 simp only[execS]at hne⊢;have hv:=bG hst.glob hst.env hst.aa.ctx hf;generalize hfe:cf.ev [] e=fv at hv hne⊢;generalize hge:a.eval f=gv at hv;cases hv with
 |fnv fi caps cs hcs=>
  simp only at hne⊢;have s1:=hst.hr.alloc (.deferred (some []))
  have s2:=s1.hr.add (o:=.lp true e q xa xb) (ob:=.loop {state:=.ready,pending:=none,fn,tmps:=a.tmps,params:=ps,assign:=as,body:=bd,defers:=w.heap.size}) (i:=⟨w.heap.size+1,0,0⟩) (by simp)
   ⟨_,{state:=.ready,pending:=none,fn,tmps:=a.tmps,params:=ps,assign:=as,body:=bd,defers:=w.heap.size},ad _ _ _,by
    have:=World.alloc_heap_new (w.alloc (.deferred (some []))) (.loop {state:=.ready,pending:=none,fn,tmps:=a.tmps,params:=ps,assign:=as,body:=bd,defers:=w.heap.size})
    rwa [World.size_alloc]at this,⟨S,A,hS,hst.env.mono (bh s1.hr _),hq,by rw[hst.size];exact hps,by rw[hst.size];exact ha,by rw[hst.size];exact hb⟩,hnr,rfl,rfl⟩
  cases hc:caller T x (.fnv (key fi) caps) [.yld H.next] (H.add (.lp true e q xa xb))with
  |no=>rw[hc]at hne;exact absurd rfl hne
  |ok v H'=>
   rw[hc]at hne;simp only at hne⊢;have s12:=s1.trans s2;have hco:=hcall hc s2.hr (hst.glob.mono s12.sub) (.fnv fi caps cs (VRs.mono s12.sub hcs)) (.cons (.yld H.next _ (ad _ _ _)) .nil);cases hco with
   |fn _ caps' fn' hf' hn' hb' hci=>
    refine⟨w.heap.size+1,_,_,{target:=.fn (.func fi) cs.toArray,args:=#[.func (.yield (w.heap.size+1)) #[] #[]]},(w.alloc (.deferred (some []))).alloc (.loop {state:=.ready,pending:=none,fn,tmps:=a.tmps,params:=ps,assign:=as,body:=bd,defers:=w.heap.size}),fi,_,_,run_enterLoop_outer fn a.tmps ps as bd,?_,λ_ _=>trivial,?_,λh=>(by cases h),hci.mono λen w' hen=>?_⟩
    .simp only[resolve,hge,Deferred.ofValue,Sem.run_pure];simp[Act.eval]
    .simp only[invoke,callFunc,Sem.run_bind,run_program,Result.andThen_ok,hf',hn',hb',Bool.false_eq_true,if_false,Sem.run_pure,List.append_toArray]
    cases en with
    |panicked c=>exact hen.elim
    |outgrown=>exact hen.elim
    |returned v'=>
     obtain⟨ρ',_,s3⟩:=hen;have hobj:=s3.hr.ok H.next
     cases ho:H'.m.get .dead H.next with
     |dead=>rw[ho]at hne;exact absurd rfl hne
     |mp _=>rw[ho]at hne;exact absurd rfl hne
     |fwd _ _ _ _ _=>rw[ho]at hne;exact absurd rfl hne
     |ro _ _ _ _=>rw[ho]at hne;exact absurd rfl hne
     |arr _ _ _ _=>rw[ho]at hne;exact absurd rfl hne
     |lp rd env ps2 as2 bd2=>
      rw[ho]at hne hobj;cases rd with
      |false=>exact absurd rfl hne
      |true=>
       obtain⟨i,r,hi,hheap,hok,hnr2,hstate,hpend⟩:=hobj;obtain⟨st0,pend0,fn0,tm0,ps0,as0,bd0,df0⟩:=r;simp only at hpend hstate;subst hpend;have hii:=s3.sub _ _ (ad ρ H.next ⟨w.heap.size+1,0,0⟩);rw[hi]at hii;cases hii;have hown:owned (H'.m.get .dead H.next)=true:=by rw[ho];rfl
       have s4:Step P ρ' ω H' w' ρ' (H'.set H.next .dead) (w'.putObj (w.heap.size+1) (.loop ⟨.exhausted,none,fn0,tm0,ps0,as0,bd0,df0⟩)):=s3.hr.set hi hown rfl rfl rfl (by simp) (λb hb=>World.putObj_heap_other hb) trivial;refine⟨none,_,run_endLoop hheap (by simp[hstate]),?_⟩;have s34:=s3.trans s4;have s24:=s2.trans s34;have s14:=s1.trans s24;refine Post.norm s14 ⟨hst.env.mono s14.sub,hst.size,s4.hr,hst.glob.mono s14.sub,?_,Nat.le_trans hst.base s14.size⟩
       have hd1:DefOk base ρ H (w.alloc (.deferred (some []))) ({target:=.collected w.heap.size,args:=#[]}::a.defers):=by
        have h0:=hst.defs.step s1;refine⟨λd hd=>?_,List.nodup_cons.2 ⟨λhd=>?_,h0.nodup⟩⟩
        .rcases List.mem_cons.1 hd with rfl|hd
         .exact⟨w.heap.size,rfl,hst.base,by simp,World.alloc_heap_new _ _,hst.hr.ux⟩
         .exact h0.ok d hd
        .obtain⟨r',q1,_,q3,_⟩:=hst.defs.ok _ hd;simp only[Deferred.mk.injEq,Target.collected.injEq]at q1;omega
       exact hd1.step s24
 |_=>exact absurd rfl hne
theorem ee(n:Nat)(e:T8 AVal)(H:AH):exec T n .bad e H=.none:=by cases n<;>rfl
theorem jY{ro:Option Nat}{p q:Bool}(h:ro=none\/(p&&q)=true):(ro=none\/p=true)/\(ro=none\/q=true):=by
 rcases h with h|h
 .exact⟨.inl h,.inl h⟩
 .rw[Bool.and_eq_true]at h;exact⟨.inr h.1,.inr h.2⟩
theorem gK(hω:∀i,(ω i).oneCell'=true)(hT:TabOk P ω T)(hD:DrawnOk P ω)(n:Nat):XOk P ω (exec T n):=by
 induction n using Nat.strongRecOn with
 |_ n ih=>
 intro N S A base ro c cc e H ρ a w hS hc hnr hst hne;cases n with
 |zero=>exact absurd rfl hne
 |succ n=>
 have hx:XOk P ω (exec T n):=ih n (Nat.lt_succ_self n);have hcall:CallerOk P ω (caller T (exec T n)):=ed hT hx (ee n);have hexec:exec T (n+1)=execS T (exec T n):=rfl;rw[hexec]at hne⊢;unfold cCode at hc;split at hc
 .
  simp only[Option.some.injEq]at hc;subst hc;exact wpIn_skip (Post.norm (.refl hst.hr) hst)
 .
  simp only[Option.some.injEq]at hc;subst hc;exact wpIn_label (Post.norm (.refl hst.hr) hst)
 .
  simp only[Option.some.injEq]at hc;subst hc;exact wpIn_ret ⟨rfl,e,H,rfl,ρ,.refl hst.hr,hst⟩
 .
  simp only[Option.some.injEq]at hc;subst hc;exact wpIn_exit ⟨rfl,e,H,rfl,ρ,.refl hst.hr,hst⟩
 .
  simp only[Option.bind_eq_some_iff]at hc;obtain⟨xa,ha,xb,hb,hc⟩:=hc;refine wpIn_seq ?_;exact nm hω hcall hx hS ha hb hc hnr hst hne λ_ _ _ h=>h
 .
  rename_i rid ops rc ca cb cr;simp only[Option.bind_eq_some_iff,Option.some.injEq]at hc;obtain⟨xa,ha,xb,hb,xr,hr,xc,hc,rfl⟩:=hc;simp only[noRange]at hnr;obtain⟨hn1,hn2⟩:=jY hnr;simp only[execS]at hne⊢;cases n with
  |zero=>exact absurd rfl hne
  |succ m=>
  have hx':XOk P ω (exec T m):=ih m (by omega);have hcall':CallerOk P ω (caller T (exec T m)):=ed hT hx' (ee m);have hexec':exec T (m+1)=execS T (exec T m):=rfl;have hne1:execS T (exec T m) xc e H≠.none:=by intro h0;rw[hexec',h0]at hne;exact hne rfl
  refine wpIn_seq ?_;generalize hQf:Post P ω N S base ρ H w _=Qf;have hQf':∀ex a' w',Post P ω N S base ρ H w (execS T (exec T m) xc e H) ex a' w'->Exit.then (cr.wpIn (FF ro) 0 P Qf) Qf ex a' w':=?_
  .refine wpIn_mono (nm (Q0:=λ_ _ _=>False) hω hcall' hx' hS ha hb hc hn1 hst hne1 hQf') ?_;intro ex a' w' h;cases ex with
   |normal=>exact wpIn_seq h
   |exit id=>exact h.elim
   |goto l=>exact h.elim
   |ret=>exact h.elim
   |panic ch=>exact h.elim
   |outgrown=>exact h.elim
  .intro ex a' w' h;subst hQf;rw[hexec']at hne⊢;generalize hgo:execS T (exec T m) xc e H=out at hne h⊢;cases out with
   |none=>exact absurd rfl hne
   |norm e1 H1=>
    obtain⟨rfl,ρ',h3,h4⟩:=h.gG;refine wpIn_mono (hx hS hr hn2 h4 hne) λex a'' w'' hp=>?_
    exact hp.trans h3
   |ret e1 H1=>obtain rfl:=h.gH;exact h
   |exit id e1 H1=>obtain rfl:=h.gI;exact h
 .
  simp only[Option.bind_eq_some_iff,Option.some.injEq]at hc;obtain⟨xa,ha,xb,hb,rfl⟩:=hc;simp only[noRange]at hnr;obtain⟨hn1,hn2⟩:=jY hnr;simp only[execS]at hne⊢;have hne1:exec T n xa e H≠.none:=by intro h0;rw[h0]at hne;exact hne rfl
  refine wpIn_seq (wpIn_mono (hx hS ha hn1 hst hne1) λex a' w' h=>?_);generalize hgo:exec T n xa e H=out at hne h⊢;cases out with
  |none=>exact absurd rfl hne
  |norm e1 H1=>obtain⟨rfl,ρ',h3,h4⟩:=h.gG;exact wpIn_mono (hx hS hb hn2 h4 hne) λex a'' w'' hp=>hp.trans h3
  |ret e1 H1=>obtain rfl:=h.gH;exact h
  |exit id e1 H1=>obtain rfl:=h.gI;exact h
 .
  simp only[Option.bind_eq_some_iff,Option.some.injEq]at hc;obtain⟨k,hk,xa,ha,xb,hb,rfl⟩:=hc;simp only[noRange]at hnr;obtain⟨hn1,hn2⟩:=jY hnr;simp only[execS]at hne⊢;have hv:=bG hst.glob hst.env hst.aa.ctx hk;generalize hkv:k.ev [] e=kv at hv hne⊢;generalize hcv:a.eval _=cv at hv;cases hv with
  |bool t=>
   cases t with
   |true=>exact wpIn_cond_true hcv (hx hS ha hn1 hst hne)
   |false=>exact wpIn_cond_false hcv (hx hS hb hn2 hst hne)
  |_=>exact absurd rfl hne
 .
  simp only[Option.bind_eq_some_iff,Option.some.injEq]at hc;obtain⟨xa,ha,rfl⟩:=hc;simp only[noRange]at hnr;simp only[execS]at hne⊢;have hne1:exec T n xa e H≠.none:=by intro h0;rw[h0]at hne;exact hne rfl
  refine wpIn_block (wpIn_mono (hx hS ha hnr hst hne1) λex a' w' h=>?_);generalize hgo:exec T n xa e H=out at hne h⊢;cases out with
  |none=>exact absurd rfl hne
  |norm e1 H1=>obtain⟨rfl,_⟩:=h.gG;exact h
  |ret e1 H1=>obtain rfl:=h.gH;exact h
  |exit id e1 H1=>
   obtain rfl:=h.gI;simp only[Exit.inBlock];obtain⟨_,e2,H2,h2,ρ',h3,h4⟩:=h;simp only[Out.state,Option.some.injEq,Prod.mk.injEq]at h2;obtain⟨rfl,rfl⟩:=h2;rename_i bid _ _;cases hb:Nat.beq bid id with
   |true=>rw[if_pos (Nat.eq_of_beq_eq_true hb).symm];exact Post.norm h3 h4
   |false=>rw[if_neg (λh=>by subst h;rw[Nat.beq_eq.mpr rfl]at hb;cases hb)];exact⟨rfl,_,_,rfl,ρ',h3,h4⟩
 .
  rename_i lc;simp only[Option.bind_eq_some_iff,Option.some.injEq]at hc;obtain⟨xa,ha,rfl⟩:=hc;simp only[noRange]at hnr
  have hI:∀out,execS T (exec T n) (.loop xa) e H=out->out≠.none->
   (Code.loop lc).wpIn (FF ro) 0 P (Post P ω N S base ρ H w out) a w:=by
   intro out hout hno;refine uB (λj a1 w1=>j<=n+1/\∃ρ1 e1 H1,Step P ρ ω H w ρ1 H1 w1/\St P ω N S base ρ1 H1 e1 a1 w1/\exec T j (.loop xa) e1 H1=out) (j:=n+1) ?_ ⟨Nat.le_refl _,ρ,e,H,.refl hst.hr,hst,hout⟩;rintro j a1 w1 ⟨hj,ρ1,e1,H1,hs1,hst1,hex⟩;cases j with
   |zero=>exact absurd hex.symm hno
   |succ j=>
   have hxj:XOk P ω (exec T j):=ih j (by omega)
   have hej:exec T (j+1) (.loop xa) e1 H1=match exec T j xa e1 H1 with
    |.norm e' H'=>exec T j (.loop xa) e' H'
    |.ret e' H'=>.ret e' H'
    |.exit id e' H'=>.exit id e' H'
    |.none=>.none:=rfl
   rw[hej]at hex;have hne1:exec T j xa e1 H1≠.none:=by intro h0;rw[h0]at hex;exact hno hex.symm
   refine wpIn_mono (hxj hS ha hnr hst1 hne1) λex a' w' h=>?_
   generalize hgo:exec T j xa e1 H1=o1 at hex h;cases o1 with
   |none=>exact absurd hex.symm hno
   |norm e2 H2=>obtain⟨rfl,ρ',h3,h4⟩:=h.gG;exact⟨j,Nat.lt_succ_self j,by omega,ρ',e2,H2,hs1.trans h3,h4,hex⟩
   |ret e2 H2=>obtain rfl:=h.gH;rw[<-hex];exact h.trans hs1
   |exit id e2 H2=>obtain rfl:=h.gI;rw[<-hex];exact h.trans hs1
  exact hI _ rfl hne
 .
  rename_i id ops d;cases d with
  |true=>
   simp only[cond]at hc;have hc':=hc;unfold cRegD at hc';simp only[Option.bind_eq_some_iff]at hc';obtain⟨l,h1,h2⟩:=hc';cases hd:dwOk ops (Region.before ops)&&dwOk2 ops (Region.before ops)with
   |false=>rw[hd]at h2;cases h2
   |true=>rw[hd]at h2;simp only[cond,Option.some.injEq]at h2;subst h2;exact hD hcall hS hc hst hne
  |false=>
   simp only[cond,Option.bind_eq_some_iff,Option.some.injEq]at hc;obtain⟨⟨r,G'⟩,h1,rfl⟩:=hc;simp only[execS,nc]at hne⊢;cases hrun:runOps (caller T (exec T n)) r [] e H with
   |none=>rw[hrun]at hne;exact absurd rfl hne
   |ok L' e' H'=>
    refine wpIn_mono (nk hω hcall hS h1 hst hrun) λex a' w' hp=>?_
    obtain⟨rfl,ρ',hs,_,hst'⟩:=hp;exact Post.norm hs hst'
 .
  rename_i f ps as bd;simp only[Option.bind_eq_some_iff]at hc;obtain⟨cf,hf,q,hq,hc⟩:=hc;cases hps:(ps.all λt=>Nat.blt t N)with
  |false=>rw[hps]at hc;cases hc
  |true=>
   rw[hps]at hc;simp only[cond,Option.bind_eq_some_iff]at hc;obtain⟨xa,ha,xb,hb,hc⟩:=hc;cases hn:noRange xa&&noRange xb with
   |false=>rw[hn]at hc;cases hc
   |true=>
    rw[hn]at hc;simp only[Option.some.injEq]at hc;subst hc;rw[Bool.and_eq_true]at hn;rcases hnr with rfl|h
    .exact uC hcall hS hf hq hps ha hb hn hst hne
    .cases h
 .simp only[Option.some.injEq]at hc;subst hc;exact absurd rfl hne
end
end Go.Ex
namespace Go.Ex
open Go
variable{P:Program}{ρ:Rho}{ω:Nat->Value}{H:AH}{w:World}
theorem eZ{id:Pth}(h:ρ id=none)(i:BI):Sub ρ (ext ρ id i):=⟨λq j hq=>by rw[ak _ _ (λe=>by subst e;rw[h]at hq;cases hq)];exact hq,λ_ _ h=>h⟩
theorem Step.uD{ρ0:Rho}{H0:AH}{w0:World}(hs:Step P ρ0 ω H0 w0 ρ H w){id:Pth}(hid:ρ id=none)(hlt:id.toNat<H.next.toNat)(hge:H0.next.toNat<=id.toNat){o:AObj}{ob:Obj}{i:BI}(hb:i.blk=w.heap.size)(hobj:ObjOk P (ext ρ id i) ω (w.alloc ob) id o):Step P ρ0 ω H0 w0 (ext ρ id i) (H.set id o) (w.alloc ob) where
 sub:=hs.sub.trans (eZ hid i)
 hr:={
  ok:=λq=>by
   by_cases he:id=q
   .subst he;rw[aJ];exact hobj
   .rw[af he];by_cases hlv:live (H.m.get .dead q)=true
    .obtain⟨j,hj,hl⟩:=(hs.hr.ok q).lt hlv;refine ObjOk.mono (eZ hid i) (λi' hi'=>?_) (hs.hr.ok q);rw[hj]at hi';cases hi';show(w.heap.push ob)[j.blk]?=_;rw[Array.getElem?_push,if_neg (by omega)]
    .exact(hs.hr.ok _).idle hlv (eZ hid i)
  inj:=λa b ia ib hoa hlb hab ha hb'=>by
   by_cases e1:id=a
   .subst e1;rw[af hab]at hlb;rw[ad]at ha;cases ha;rw[ak _ _ (Ne.symm hab)]at hb';obtain⟨j,hj,hl⟩:=(hs.hr.ok b).lt hlb;rw[hj]at hb';cases hb';omega
   .rw[af e1]at hoa;rw[ak _ _ (Ne.symm e1)]at ha;by_cases e2:id=b
    .subst e2;rw[ad]at hb';cases hb';obtain⟨j,hj,hl⟩:=(hs.hr.ok a).lt (aj hoa);rw[hj]at ha;cases ha;omega
    .rw[af e2]at hlb;rw[ak _ _ (Ne.symm e2)]at hb';exact hs.hr.inj a b ia ib hoa hlb hab ha hb'
  fresh:=λq j hj=>by
   show q.toNat<H.next.toNat
   by_cases e:q=id
   .subst e;exact hlt
   .rw[ak _ _ e]at hj;exact hs.hr.fresh q j hj
  num:=λb c h=>by
   have h:ρ.num b=some c:=h;obtain⟨⟨T,hT⟩,h2⟩:=hs.hr.num b c h;have hlt:=hs.hr.dS h;refine⟨⟨T,?_⟩,λa ia hoa ha=>?_⟩
   .show(w.heap.push ob)[b]?=_;rw[Array.getElem?_push,if_neg (by omega)];exact hT
   .by_cases e1:id=a
    .subst e1;rw[ad]at ha;cases ha;omega
    .rw[af e1]at hoa;rw[ak _ _ (Ne.symm e1)]at ha
     exact h2 a ia hoa ha}
 idle:=λq hl h=>by rw[af (λe=>by subst e;omega)];exact hs.idle q hl h
 nums:=λb c h=>hs.nums b c h
 os:=hs.os
 tape:=hs.tape
 output:=hs.output
 size:=Nat.le_trans hs.size (by simp)
 keep:=λb hb' hn=>by rw[<-hs.keep b hb' hn];show(w.heap.push ob)[b]?=_;have:=hs.size;rw[Array.getElem?_push,if_neg (by omega)]
 al:=λb hb' hi'=>by
  obtain⟨a,ia,ho,ha,rfl⟩:=hi';have:=hs.size;by_cases e:id=a
  .subst e;rw[ad]at ha;cases ha;omega
  .rw[af e]at ho;rw[ak _ _ (Ne.symm e)]at ha;exact hs.al _ hb' ⟨a,ia,ho,ha,rfl⟩
 imgo:=λb hb' hi'=>by
  obtain⟨a,ia,ho,ha,rfl⟩:=hi';have:=hs.size;by_cases e:id=a
  .subst e;rw[ad]at ha;cases ha;omega
  .rw[af e]at ho;rw[ak _ _ (Ne.symm e)]at ha;exact hs.imgo _ hb' ⟨a,ia,ho,ha,rfl⟩
 next:=hs.next
 dom:=λq j hj hl=>by
  by_cases e:q=id
  .subst e;omega
  .rw[ak _ _ e]at hj;exact hs.dom q j hj hl
def MkOk(P:Program)(ρ:Rho)(ω:Nat->Value)(w:World)(mk:Pth->Option (AObj×AVal))(s:Sem Value):Prop:=∃ob lim v',s.run P w=.ok v' (w.alloc ob)/\∀id,ρ id=none->∀o v,mk id=some (o,v)->owned o=true/\VR (ext ρ id ⟨w.heap.size,0,lim⟩) ω v v'/\ObjOk P (ext ρ id ⟨w.heap.size,0,lim⟩) ω (w.alloc ob) id o
theorem jZ{cells:Array Value}{T:TypeId}{esz n lim:Nat}{d:List AVal}{els:T8 (List AVal)}(ha:ArrOk ρ ω cells ⟨w.heap.size,0,lim⟩ esz n d els){id:Pth}(hid:ρ id=none):ObjOk P (ext ρ id ⟨w.heap.size,0,lim⟩) ω (w.alloc (.cells cells T)) id (.arr esz n d els):=by refine⟨_,cells,T,ad _ _ _,?_,ha.mono (eZ hid _)⟩;show(w.heap.push _)[w.heap.size]?=_;simp
theorem np(hω:∀i,(ω i).oneCell'=true){x:AVal}{x':Value}(hx:VR ρ ω x x')(h:x.cells≠[]){T:TypeId}:MkOk P ρ ω w (boxV x) (do pure (.pointer (some (<-newVar T x'))):Sem Value):=by
 obtain⟨hcs,hone⟩:=eN hω hx h;have hlen:=hcs.length
 have ha:ArrOk ρ ω x'.cells ⟨w.heap.size,0,1*lenN x.cells⟩ (lenN x.cells) 1 x.cells .nil:={
  lim:=Nat.le_refl _
  size:=by show 0+1*lenN x.cells<=x'.cells.size;rw[gh];simp only[Array.length_toList]at hlen;omega
  els:=λj hj=>by
   have:j=0:=by omega
   subst this;rw[elem_nil];refine⟨x'.cells.toList,hcs,by rw[gh];exact hlen.symm,hone,λk u hk=>?_⟩
   simpa using hk}
 refine⟨.cells x'.cells T,1*lenN x.cells,.pointer (some ⟨w.heap.size,0,none⟩),by simp[newVar,newRow],λid hid o v hov=>?_⟩;unfold boxV at hov;cases hc:x.cells with
 |nil=>exact absurd hc h
 |cons c0 cs0=>rw[hc]at hov ha;simp only[Option.some.injEq,Prod.mk.injEq]at hov;obtain⟨rfl,rfl⟩:=hov;exact⟨rfl,.ptr id 0 ⟨w.heap.size,0,_⟩ (ad _ _ _),jZ ha hid⟩
variable{N:Nat}{S:List (Nat×Pth)}{G:Ctx}{L:List AVal}{e:T8 AVal}{a:Act}
theorem uE(hω:∀i,(ω i).oneCell'=true)(hg:GlobOk P ρ)(he:EnvOk ρ ω S e a.tmps)(hc:CtxOk ρ ω G L e a.tmps){t el:TypeId}{n s:Nat}{z:AVal}(ht:tElem P t=some el)(hs:tSize P el=some s)(hz:tZero P el=some z)(hsmall:Nat.blt (n*s) 65536=true)(hpos:Nat.blt 0 s=true)(hzl:lenIs z.cells s=true){ps:Array (Nat×Operand)}{parts:List (Nat×COpd)}(hp:cPartsS P N S G n ps.toList=some parts){els:T8 (List AVal)}(hb:bslV L e s .nil parts=some els):MkOk P ρ ω w (λid=>mkBlock L e (.bsl s n z.cells parts) id) (Instr.buildSlice t n (ps.map λ(i,x)=>(i,a.eval x))):=by
 obtain⟨it,zv,hi,hzv,hof⟩:=b7 hz;obtain⟨ie,hie,hsz⟩:=dX hs;rw[hi]at hie;cases hie;obtain⟨hzc,hzo⟩:=dy (ρ:=ρ) (ω:=ω) hof;have hpos:=au hpos;have hsmall:=au hsmall;obtain⟨cells',hf,ha⟩:=jM (b:=w.heap.size) hω hg he hc ps.toList parts .nil els _ hp (gw (n:=n) (b:=w.heap.size) hzc hzo (cV hzl)) (by simp) hb;have hf':Instr.fill (λi=>some (i*s,s)) ((Array.range (n*s)).map (zv.cells[· % zv.cells.size]!)) (ps.map λ(i,x)=>(i,a.eval x)).toList=some cells':=by rw[<-hf];congr 1;simp
 refine⟨.cells cells' el,n*s,.slice (some ⟨w.heap.size,0,none⟩) n n,?_,λid hid o v hov=>?_⟩
 .by_cases hn:n=0
  .subst hn
   have hcells:cells'=#[]:=by
    have hps:parts=[]/\ps.toList=[]:=by
     cases hq:ps.toList with
     |nil=>rw[hq]at hp;simp only[cPartsS,Option.some.injEq]at hp;exact⟨hp.symm,rfl⟩
     |cons q r=>
      rw[hq]at hp;obtain⟨i,x⟩:=q;simp only[cPartsS]at hp;cases hi0:Nat.blt i 0 with
      |false=>rw[hi0]at hp;cases hp
      |true=>have:=au hi0;omega
    rw[hps.2]at hf;simp only[List.map_nil,Instr.fill,Option.some.injEq]at hf;rw[<-hf];simp
   have hps0:ps=#[]:=by
    apply Array.ext';cases hq:ps.toList with
    |nil=>rfl
    |cons q r=>
     rw[hq]at hp;obtain⟨i,x⟩:=q;simp only[cPartsS]at hp;cases hi0:Nat.blt i 0 with
     |false=>rw[hi0]at hp;cases hp
     |true=>have:=au hi0;omega
   subst hps0;subst hcells;simp[Instr.buildSlice,run_underlying (bQ ht),sizeOf,typeInfo,hi,newRow,Instr.fill,gu]
  .subst hsz
   exact run_buildSlice w t el n _ cells' it zv (bQ ht) hi hzv (by omega) (by
    intro h0;rcases Nat.mul_eq_zero.1 h0 with h1|h1
    .exact hn h1
    .omega) hf'
 .simp only[mkBlock,hb,Option.some.injEq,Prod.mk.injEq]at hov;obtain⟨rfl,rfl⟩:=hov;exact⟨rfl,.sl id 0 n n ⟨w.heap.size,0,n*s⟩ (ad _ _ _),jZ ha hid⟩
theorem uF{t el:TypeId}{s b:Nat}{z l c:AVal}{l' c':Value}(ht:tElem P t=some el)(hs:tSize P el=some s)(hby:tBytes P el=some b)(hz:tZero P el=some z)(hpos:Nat.blt 0 s=true)(hzl:lenIs z.cells s=true)(hl:VR ρ ω l l')(hc:VR ρ ω c c'){n m:Nat}(hln:natOf l=some n)(hcm:natOf c=some m)(hnm:n<=m)(hsm:small m b=true):MkOk P ρ ω w (λid=>some (.arr s m z.cells .nil,.sl id 0 n m)) (Instr.makeSlice t l' c'):=by
 obtain⟨it,zv,hi,hzv,hof⟩:=b7 hz;obtain⟨ie,hie,hsz⟩:=dX hs;rw[hi]at hie;cases hie;obtain⟨hzc,hzo⟩:=dy (ρ:=ρ) (ω:=ω) hof;have hpos:=au hpos;obtain⟨h1,h2,h3⟩:=jN hsm;obtain⟨k1,rfl⟩:=cY hl hln;obtain⟨k2,rfl⟩:=cY hc hcm;have hbytes:it.bytes=b:=by unfold tBytes at hby;rw[hi]at hby;simpa using hby
 have wl:IntKind.i64.wrap (n:Int)=n:=IntWalk.i64_in _ (by omega);have wc:IntKind.i64.wrap (m:Int)=m:=IntWalk.i64_in _ (by omega)
 have hmb:(b:Int)*(m:Int)<2 ^ 40:=by
  have:((m*b:Nat):Int)<((2 ^ 40:Nat):Int):=by exact_mod_cast h1
  rw[Int.natCast_mul,Int.mul_comm]at this;simpa using this
 refine⟨.cells ((Array.range (m*s)).map (zv.cells[· % zv.cells.size]!)) el,m*s,.slice (some ⟨w.heap.size,0,none⟩) n m,?_,λid hid o v hov=>?_⟩
 .unfold Instr.makeSlice;simp only[asInt,asIntOf,Sem.run_bind,Sem.run_pure,Result.andThen_ok,run_underlying (bQ ht),typeInfo,run_program,hi,wl,wc,hbytes];rw[if_neg (by simp;omega)];simp only[Sem.run_bind,run_askRoom,Result.andThen_ok,sizeOf,typeInfo,run_program,hi,Sem.run_pure,hsz,Int.toNat_natCast];by_cases h0:m*s=0
  .have hm0:m=0:=by
    rcases Nat.mul_eq_zero.1 h0 with h|h
    .exact h
    .omega
   subst hm0;simp[newRow,gu]
  .rw[if_neg h0];simp[zeroValue,typeInfo,hi,hzv,newRow]
 .simp only[Option.some.injEq,Prod.mk.injEq]at hov;obtain⟨rfl,rfl⟩:=hov;exact⟨rfl,.sl id 0 n m ⟨w.heap.size,0,m*s⟩ (ad _ _ _),jZ (gw (n:=m) (b:=w.heap.size) hzc hzo (cV hzl)) hid⟩
theorem uG{t:TypeId}:MkOk P ρ ω w (λid=>some (.mp [],.map id)) (Instr.makeMap t none):=by refine⟨.map #[] 0,0,.map (some w.heap.size),rfl,λid hid o v hov=>?_⟩;simp only[Option.some.injEq,Prod.mk.injEq]at hov;obtain⟨rfl,rfl⟩:=hov;refine⟨rfl,.map id ⟨w.heap.size,0,0⟩ (ad _ _ _),⟨w.heap.size,0,0⟩,#[],0,ad _ _ _,?_,.nil⟩;show(w.heap.push _)[w.heap.size]?=_;simp
theorem uH(hω:∀i,(ω i).oneCell'=true)(hg:GlobOk P ρ)(he:EnvOk ρ ω S e a.tmps)(hc:CtxOk ρ ω G L e a.tmps){o:Oper}{cop:COp}(hcop:cOp P N S G o.op=some cop)(hk:kindOf o.op=2){id0:Pth}{o0:AObj}{v0:AVal}(h0:mkBlock L e cop id0=some (o0,v0)):∃s:Sem Value,execOp a.eval o=(do pure (.value (<-s)))/\MkOk P ρ ω w (λid=>mkBlock L e cop id) s:=by
 have opd:∀{x:Operand} {c:COpd},cOpd P N S G x=some c->VR ρ ω (c.ev L e) (a.eval x):=λh=>bG hg he hc h
 obtain⟨dst,op,type,pos,after,guard⟩:=o;simp only at hcop hk;have hbox:∀{x:AVal},(boxV x id0).isSome=true->x.cells≠[]:=by intro x hx hn;unfold boxV at hx;rw[hn]at hx;cases hx
 cases op with
 |alloc t=>
  simp only[cOp,Option.map_eq_some_iff]at hcop;obtain⟨z,hz,rfl⟩:=hcop;obtain⟨it,zv,hi,hzv,hof⟩:=b7 hz;refine⟨_,rfl,?_⟩;have hb:=np (P:=P) (w:=w) (T:=t) hω (dV (ρ:=ρ) (ω:=ω) hof) (hbox (by simp only[mkBlock]at h0;rw[show(COpd.k z).ev L e=z from rfl]at h0;rw[h0];rfl));obtain⟨ob,lim,v',h1,h2⟩:=hb;refine⟨ob,lim,v',?_,h2⟩;rw[<-h1];unfold Instr.alloc;have hzr:(zeroValue t).run P w=.ok zv w:=by simp[zeroValue,typeInfo,hi,hzv]
  rw[Sem.run_bind,hzr,Result.andThen_ok]
 |box t x=>simp only[cOp,Option.map_eq_some_iff]at hcop;obtain⟨c,h3,rfl⟩:=hcop;exact⟨_,rfl,np hω (opd h3) (hbox (by simp only[mkBlock]at h0;rw[h0];rfl))⟩
 |buildSlice t n ps=>
  simp only[cOp,Option.bind_eq_some_iff]at hcop;obtain⟨el,h1,s,h2,z,h3,hcop⟩:=hcop;cases hb:Nat.blt (n*s) 65536&&(Nat.blt 0 s&&lenIs z.cells s)with
  |false=>rw[hb]at hcop;cases hcop
  |true=>
   rw[hb]at hcop;simp only[Bool.and_eq_true]at hb;simp only[cond,Option.map_eq_some_iff]at hcop;obtain⟨l,hl,rfl⟩:=hcop;simp only[mkBlock]at h0;cases hq:bslV L e s .nil l with
   |none=>rw[hq]at h0;cases h0
   |some els=>exact⟨_,rfl,uE hω hg he hc h1 h2 h3 hb.1 hb.2.1 hb.2.2 hl hq⟩
 |makeMap t r=>
  cases r with
  |some x=>simp only[cOp]at hcop;cases hcop
  |none=>simp only[cOp,Option.some.injEq]at hcop;subst hcop;exact⟨_,rfl,uG⟩
 |makeSlice t l c=>
  simp only[cOp,Option.bind_eq_some_iff]at hcop;obtain⟨el,h1,s,h2,b,h3,z,h4,hcop⟩:=hcop;cases hb:Nat.blt 0 s&&lenIs z.cells s with
  |false=>rw[hb]at hcop;cases hcop
  |true=>
   rw[hb]at hcop;simp only[Bool.and_eq_true]at hb;simp only[Bool.not_true,cond,Option.bind_eq_some_iff,Option.map_eq_some_iff]at hcop;obtain⟨cl,h5,cc,h6,rfl⟩:=hcop;simp only[mkBlock]at h0;cases hl:natOf (cl.ev L e)with
   |none=>rw[hl]at h0;cases h0
   |some n=>
    cases hm:natOf (cc.ev L e)with
    |none=>rw[hl,hm]at h0;cases h0
    |some m=>
     rw[hl,hm]at h0;simp only at h0;cases hq:Nat.ble n m&&small m b with
     |false=>rw[hq]at h0;cases h0
     |true=>
      rw[Bool.and_eq_true]at hq;refine⟨_,rfl,?_⟩;have:=uF (P:=P) (w:=w) h1 h2 h3 h4 hb.1 hb.2 (opd h5) (opd h6) hl hm (Nat.le_of_ble_eq_true hq.1) hq.2;have he2:(λid=>mkBlock L e (.mksl s b z.cells cl cc) id)=λid=>some (.arr s m z.cells .nil,.sl id 0 n m):=by funext id;simp only[mkBlock,hl,hm,hq,Bool.and_self,cond]
      rw[he2];exact this
 |call c=>exfalso;simp only[kindOf]at hk;split at hk<;>first|(cases hk;done)|(split at hk<;>cases hk)
 |_=>simp only[kindOf]at hk;cases hk
end Go.Ex
namespace Go.Ex
open Go
variable{P:Program}{ρ ρ':Rho}{ω:Nat->Value}{H:AH}{w w':World}
structure Over(K:Nat->Prop)(ID:Nat->Pth)(OB:Nat->AObj)(H Ĥ:AH):Prop where
 next:Ĥ.next=H.next
 at_:∀k,K k->Ĥ.m.get .dead (ID k)=OB k
 off:∀id,(∀k,K k->ID k≠id)->Ĥ.m.get .dead id=H.m.get .dead id
theorem Over.uI{ID:Nat->Pth}{OB:Nat->AObj}(ks:List Nat)(hinj:∀k∈ks,∀k'∈ks,ID k=ID k'->k=k')(H:AH):∃Ĥ,Over (λk=>k∈ks) ID OB H Ĥ:=by
 induction ks with
 |nil=>exact⟨H,rfl,λ_ h=>(by cases h),λ_ _=>rfl⟩
 |cons k ks ih=>
  obtain⟨Ĥ,h1,h2,h3⟩:=ih λa ha b hb=>hinj a (by simp[ha]) b (by simp[hb])
  refine⟨Ĥ.set (ID k) (OB k),h1,λj hj=>?_,λid hid=>?_⟩
  .by_cases e:ID k=ID j
   .have:=hinj k (by simp) j hj e;subst this;exact aJ _ _
   .rw[af e];rcases List.mem_cons.1 hj with rfl|hj
    .exact absurd rfl e
    .exact h2 j hj
  .rw[af (hid k (by simp))];exact h3 id λj hj=>hid j (by simp[hj])
theorem Over.uJ{ID:Nat->Pth}{OB:Nat->AObj}{n:Nat}{K:Nat->Prop}(hK:∀k,K k->k<n)(hinj:∀k,K k->∀k',K k'->ID k=ID k'->k=k')(H:AH):∃Ĥ,Over K ID OB H Ĥ:=by
 classical
 obtain⟨Ĥ,h1,h2,h3⟩:=Over.uI (ID:=ID) (OB:=OB) ((List.range n).filter λk=>decide (K k)) (by
  intro k hk k' hk';simp only[List.mem_filter,decide_eq_true_eq]at hk hk'
  exact hinj k hk.2 k' hk'.2) H
 have hm:∀k,k∈(List.range n).filter (λk=>decide (K k))↔K k:=λk=>by simp only[List.mem_filter,List.mem_range,decide_eq_true_eq];exact⟨λh=>h.2,λh=>⟨hK k h,h⟩⟩
 exact⟨Ĥ,h1,λk hk=>h2 k ((hm k).2 hk),λid hid=>h3 id λk hk=>hid k ((hm k).1 hk)⟩
theorem HR.shrink{H':AH}(hr:HR P ρ ω H w)(hn:H'.next=H.next)(hg:∀id,H'.m.get .dead id=H.m.get .dead id\/H'.m.get .dead id=.dead):HR P ρ ω H' w where
 ok:=λid=>by
  rcases hg id with h|h
  .rw[h];exact hr.ok id
  .rw[h];trivial
 inj:=λa b ia ib ha hb hab h1 h2=>by
  have ha':owned (H.m.get .dead a)=true:=by
   rcases hg a with h|h
   .rwa [h]at ha
   .rw[h]at ha;cases ha
  have hb':live (H.m.get .dead b)=true:=by
   rcases hg b with h|h
   .rwa [h]at hb
   .rw[h]at hb;cases hb
  exact hr.inj a b ia ib ha' hb' hab h1 h2
 fresh:=λid i h=>by rw[hn];exact hr.fresh id i h
 num:=λb c h=>⟨(hr.num b c h).1,λa ia hoa ha=>(hr.num b c h).2 a ia (by
  rcases hg a with h|h
  .rwa [h]at hoa
  .rw[h]at hoa;cases hoa) ha⟩
theorem Over.hr{K:Nat->Prop}{ID:Nat->Pth}{OB:Nat->AObj}{Ĥ:AH}(ho:Over K ID OB H Ĥ)(hd:∀k,K k->H.m.get .dead (ID k)=.dead)(hr:HR P ρ ω Ĥ w):HR P ρ ω H w:=by
 refine hr.shrink ho.next.symm λid=>?_
 by_cases h:∃k,K k/\ID k=id
 .obtain⟨k,hk,rfl⟩:=h;exact .inr (hd k hk)
 .exact .inl (ho.off id λk hk e=>h ⟨k,hk,e⟩).symm
theorem Step.under{K:Nat->Prop}{ID:Nat->Pth}{OB:Nat->AObj}{HS HS' Ĥ:AH}(ho:Over K ID OB HS Ĥ)(hown:∀k,K k->owned (OB k)=true)(hd:∀k,K k->HS.m.get .dead (ID k)=.dead)(hr:HR P ρ ω Ĥ w)(hs:Step P ρ ω HS w ρ' HS' w'):(∀k,K k->HS'.m.get .dead (ID k)=.dead)/\∀Ĥ',Over K ID OB HS' Ĥ'->Step P ρ ω Ĥ w ρ' Ĥ' w':=by
 have up:∀id,live (HS.m.get .dead id)=true->Ĥ.m.get .dead id=HS.m.get .dead id:=λid hl=>by
  refine ho.off id λk hk e=>?_
  subst e;rw[hd k hk]at hl;cases hl
 have kblk:∀k,K k->∃i,ρ (ID k)=some i/\i.blk<w.heap.size:=λk hk=>(hr.ok (ID k)).lt (by rw[ho.at_ k hk];exact aj (hown k hk))
 have nimg:∀k,K k->∀i,ρ (ID k)=some i->¬Img ρ HS i.blk:=by
  rintro k hk i hi ⟨q,j,hl,hj,hb⟩;have hne:ID k≠q:=λe=>by subst e;rw[hd k hk]at hl;cases hl
  exact hr.inj (ID k) q i j (by rw[ho.at_ k hk];exact hown k hk) (by rw[up q hl];exact hl) hne hi hj hb.symm
 have nimg':∀k,K k->∀i,ρ (ID k)=some i->¬Img ρ' HS' i.blk:=λk hk i hi h=>by obtain⟨j,hj,hlt⟩:=kblk k hk;rw[hi]at hj;cases hj;exact nimg k hk i hi (hs.al _ hlt h)
 have dead':∀k,K k->HS'.m.get .dead (ID k)=.dead:=λk hk=>by obtain⟨i,hi,_⟩:=kblk k hk;exact hs.idle (ID k) (by have:=hr.fresh _ _ hi;rw[ho.next]at this;exact this) (hd k hk)
 refine⟨dead',λĤ' ho'=>?_⟩;have rho_k:∀k,K k->ρ' (ID k)=ρ (ID k):=λk hk=>by obtain⟨i,hi,_⟩:=kblk k hk;rw[hi];exact hs.sub _ _ hi
 have cases_id:∀id,(∃k,K k/\ID k=id)\/(Ĥ'.m.get .dead id=HS'.m.get .dead id):=λid=>by
  by_cases h:∃k,K k/\ID k=id
  .exact .inl h
  .exact .inr (ho'.off id λk hk e=>h ⟨k,hk,e⟩)
 have img_of:∀id i,live (HS'.m.get .dead id)=true->ρ' id=some i->Img ρ' HS' i.blk:=λid i h1 h2=>⟨id,i,h1,h2,rfl⟩
 exact {
  sub:=hs.sub
  hr:={
   ok:=λid=>by
    rcases cases_id id with⟨k,hk,rfl⟩|h
    .rw[ho'.at_ k hk];have h1:=hr.ok (ID k);rw[ho.at_ k hk]at h1;refine ObjOk.mono hs.sub (λi hi=>?_) h1;obtain⟨j,hj,hlt⟩:=kblk k hk;rw[hi]at hj;cases hj;exact hs.keep _ hlt λh=>nimg k hk i hi h.al
    .rw[h];exact hs.hr.ok id
   inj:=λa b ia ib hoa hlb hab ha hb=>by
    rcases cases_id a with⟨k,hk,rfl⟩|h1
    .rcases cases_id b with⟨k2,hk2,rfl⟩|h2
     .rw[rho_k k hk]at ha;rw[rho_k k2 hk2]at hb;exact hr.inj (ID k) (ID k2) ia ib (by rw[ho.at_ k hk];exact hown k hk) (by rw[ho.at_ k2 hk2];exact aj (hown k2 hk2)) hab ha hb
     .rw[h2]at hlb;rw[rho_k k hk]at ha;intro e;exact nimg' k hk ia ha (e▸img_of b ib hlb hb)
    .rcases cases_id b with⟨k2,hk2,rfl⟩|h2
     .rw[h1]at hoa;rw[rho_k k2 hk2]at hb;intro e;exact nimg' k2 hk2 ib hb (e▸img_of a ia (aj hoa) ha)
     .rw[h1]at hoa;rw[h2]at hlb;exact hs.hr.inj a b ia ib hoa hlb hab ha hb
   fresh:=λid i h=>by rw[ho'.next];exact hs.hr.fresh id i h
   num:=λb c h=>⟨(hs.hr.num b c h).1,λa ia hoa ha e=>by
    rcases cases_id a with⟨k,hk,rfl⟩|h1
    .rw[rho_k k hk]at ha;rcases hs.nums b c h with h2|h2
     .exact(hr.num b c h2).2 (ID k) ia (by rw[ho.at_ k hk];exact hown k hk) ha e
     .rcases h2 with h2|h2
      .obtain⟨j,hj,hlt⟩:=kblk k hk;rw[ha]at hj;cases hj;omega
      .exact nimg k hk ia ha (e▸h2.al)
    .rw[h1]at hoa
     exact(hs.hr.num b c h).2 a ia hoa ha e⟩}
  idle:=λid hl h=>by
   rcases cases_id id with⟨k,hk,rfl⟩|h1
   .rw[ho.at_ k hk]at h;have:=hown k hk;rw[h]at this;cases this
   .rw[h1];by_cases hx:∃k,K k/\ID k=id
    .obtain⟨k,hk,rfl⟩:=hx;exact dead' k hk
    .rw[ho.off id λk hk e=>hx ⟨k,hk,e⟩]at h;rw[ho.next]at hl;exact hs.idle id hl h
  nums:=λb c h=>(hs.nums b c h).imp_right λh=>h.imp_right λ⟨q,i,h1,h2,h3⟩=>⟨q,i,by rw[up q (aj h1)];exact h1,h2,h3⟩
  os:=hs.os
  tape:=hs.tape
  output:=hs.output
  size:=hs.size
  keep:=λb hb hn=>hs.keep b hb λ⟨id,i,h1,h2,h3⟩=>hn ⟨id,i,by rw[up id (aj h1)];exact h1,h2,h3⟩
  al:=λb hb ⟨id,i,h1,h2,h3⟩=>by
   rcases cases_id id with⟨k,hk,rfl⟩|h
   .exact⟨ID k,i,by rw[ho.at_ k hk];exact aj (hown k hk),by rw[<-rho_k k hk];exact h2,h3⟩
   .rw[h]at h1;obtain⟨q,j,g1,g2,g3⟩:=hs.al b hb ⟨id,i,h1,h2,h3⟩;exact⟨q,j,by rw[up q g1];exact g1,g2,g3⟩
  imgo:=λb hb ⟨id,i,h1,h2,h3⟩=>by
   rcases cases_id id with⟨k,hk,rfl⟩|h
   .exact⟨ID k,i,by rw[ho.at_ k hk];exact hown k hk,by rw[<-rho_k k hk];exact h2,h3⟩
   .rw[h]at h1;obtain⟨q,j,g1,g2,g3⟩:=hs.imgo b hb ⟨id,i,h1,h2,h3⟩;exact⟨q,j,by rw[up q (aj g1)];exact g1,g2,g3⟩
  next:=by rw[ho.next,ho'.next];exact hs.next
  dom:=λid i h hl=>by rw[ho.next]at hl;exact hs.dom id i h hl}
theorem Step.congr{H0 H1:AH}{ρ0:Rho}{w0:World}(hs:Step P ρ0 ω H0 w0 ρ H w)(hn:H1.next=H.next)(hg:∀id,H1.m.get .dead id=H.m.get .dead id):Step P ρ0 ω H0 w0 ρ H1 w:=⟨hs.sub,hs.hr.shrink hn λid=>.inl (hg id),hs.os,hs.tape,hs.output,hs.size,hs.keep,λb hb ⟨id,i,h1,h2,h3⟩=>hs.al b hb ⟨id,i,by rw[<-hg id];exact h1,h2,h3⟩,λb hb ⟨id,i,h1,h2,h3⟩=>hs.imgo b hb ⟨id,i,by rw[<-hg id];exact h1,h2,h3⟩,by rw[hn];exact hs.next,hs.dom,λid hl h=>by rw[hg id];exact hs.idle id hl h,hs.nums⟩
end Go.Ex
namespace Go.Ex
open Go
structure DS where
 e:T8 AVal
 H:AH
 ids:Pth
 s:Nat
 pend:List Pend
 hs:List AH
 rds:List Rd
def DS.run(call:Caller)(l:List (CO×Dw))(σ:DS):Out:=runD call l σ.e σ.H σ.ids σ.s σ.pend σ.hs σ.rds
inductive Fact(call:Caller)(o:CO)(d:Dw)(σ:DS)(v:AVal)(ob:AObj):DS->Prop where
 |skip3 (hw:wants [] σ.e o.guard=.skip) (hk:d.kind=3) (hv:v=undefV) :
  Fact call o d σ v ob ⟨setE σ.e o.dst v,absorb σ.s σ.pend σ.H,σ.ids,σ.s+1,keepP σ.s σ.pend,absorb σ.s σ.pend σ.H::σ.hs,σ.rds⟩
 |skip (hw:wants [] σ.e o.guard=.skip) (hk:d.kind≠3) (hv:v=undefV):Fact call o d σ v ob ⟨setE σ.e o.dst v,σ.H,σ.ids,σ.s,σ.pend,σ.hs,σ.rds⟩
 |pure (hw:wants [] σ.e o.guard=.go) (hk:d.kind=0) (hv:pureV o.op [] σ.e ⟨.e,.nil⟩=v) (hb:v≠.bad):Fact call o d σ v ob ⟨setE σ.e o.dst v,σ.H,σ.ids,σ.s,σ.pend,σ.hs,σ.rds⟩
 |read (hw:wants [] σ.e o.guard=.go) (hk:d.kind=1) (hv:pureV o.op [] σ.e σ.H=v) (hb:v≠.bad) :
  Fact call o d σ v ob ⟨setE σ.e o.dst v,σ.H,σ.ids,σ.s,σ.pend,σ.hs,bif Nat.beq d.lo d.hi then σ.rds else⟨d.lo,d.hi,fixRd σ.e o.op,v⟩::σ.rds⟩
 |make (hw:wants [] σ.e o.guard=.go) (hk:d.kind=2) (hv:mkBlock [] σ.e o.op σ.ids=some (ob,v)) :
  Fact call o d σ v ob ⟨setE σ.e o.dst v,σ.H,σ.ids.succ,σ.s,⟨d.hi,σ.ids,ob⟩::σ.pend,σ.hs,σ.rds⟩
 |act (hw:wants [] σ.e o.guard=.go) (hk:d.kind=3) {H':AH} (hv:doOp call o.op [] σ.e (absorb σ.s σ.pend σ.H)=.ok v H') :
  Fact call o d σ v ob ⟨setE σ.e o.dst v,H',σ.ids,σ.s+1,keepP σ.s σ.pend,H'::σ.hs,σ.rds⟩
theorem uK{call:Caller}{o:CO}{d:Dw}{l:List (CO×Dw)}{σ:DS}(hk:d.kind<=3)(h:DS.run call ((o,d)::l) σ≠.none):∃v ob σ',Fact call o d σ v ob σ'/\DS.run call ((o,d)::l) σ=DS.run call l σ':=by
 obtain⟨e,H,ids,s,pend,hs,rds⟩:=σ;simp only[DS.run,runD]at h⊢;cases hw:wants [] e o.guard with
 |no=>rw[hw]at h;exact absurd rfl h
 |skip=>
  rw[hw]at h;simp only;cases h3:Nat.beq d.kind 3 with
  |true=>exact⟨undefV,.dead,_,.skip3 hw (Nat.eq_of_beq_eq_true h3) rfl,rfl⟩
  |false=>exact⟨undefV,.dead,_,.skip hw (λe=>by rw[e]at h3;cases h3) rfl,rfl⟩
 |go=>
  rw[hw]at h;simp only at h⊢;obtain⟨kind,lo,hi⟩:=d;simp only at h hk⊢
  match kind,hk with
  |0,_=>
   simp only at h⊢;cases hv:notBad (pureV o.op [] e ⟨.e,.nil⟩) H with
   |no=>rw[hv]at h;exact absurd rfl h
   |ok v H1=>obtain⟨h1,h2,h3⟩:=av hv;exact⟨v,.dead,_,.pure hw rfl h1 h2,rfl⟩
  |1,_=>
   simp only at h⊢;cases hv:notBad (pureV o.op [] e H) H with
   |no=>rw[hv]at h;exact absurd rfl h
   |ok v H1=>obtain⟨h1,h2,h3⟩:=av hv;exact⟨v,.dead,_,.read hw rfl h1 h2,rfl⟩
  |2,_=>
   simp only at h⊢;cases hv:mkBlock [] e o.op ids with
   |none=>rw[hv]at h;exact absurd rfl h
   |some p=>obtain⟨ob,v⟩:=p;exact⟨v,ob,_,.make hw rfl hv,rfl⟩
  |3,_=>
   simp only at h⊢;cases hv:doOp call o.op [] e (absorb s pend H)with
   |no=>rw[hv]at h;exact absurd rfl h
   |ok v H1=>exact⟨v,.dead,_,.act hw rfl hv,rfl⟩
theorem uL{call:Caller}:∀(l:List (CO×Dw)) (σ0:DS),(∀x∈l,x.2.kind<=3)->DS.run call l σ0≠.none->
 ∃(σ:Nat->DS) (V:Nat->AVal) (OB:Nat->AObj),σ 0=σ0/\(∀i o d,l[i]?=some (o,d)->Fact call o d (σ i) (V i) (OB i) (σ (i+1)))/\
  checkRds (σ l.length).hs (σ l.length).s (σ l.length).rds=true/\DS.run call l σ0=.norm (σ l.length).e (absorbAll (σ l.length).pend (σ l.length).H):=by
 intro l
 induction l with
 |nil=>
  intro σ0 _ h;refine⟨λ_=>σ0,λ_=>.bad,λ_=>.dead,rfl,λi o d h=>(by cases h),?_⟩;unfold DS.run runD at h⊢;simp only;cases hc:checkRds σ0.hs σ0.s σ0.rds with
  |false=>rw[hc]at h;exact absurd rfl h
  |true=>exact⟨rfl,rfl⟩
 |cons x l ih=>
  intro σ0 hk h;obtain⟨o,d⟩:=x;obtain⟨v,ob,σ1,hf,hr⟩:=uK (hk (o,d) (by simp)) h;rw[hr]at h;obtain⟨σ,V,OB,h1,h2,h3,h4⟩:=ih σ1 (λx hx=>hk x (by simp[hx])) h;refine⟨λi=>match i with|0=>σ0|i+1=>σ i,λi=>match i with|0=>v|i+1=>V i,λi=>match i with|0=>ob|i+1=>OB i,rfl,λi o' d' hi=>?_,h3,hr.trans h4⟩;cases i with
  |zero=>simp only[List.getElem?_cons_zero,Option.some.injEq,Prod.mk.injEq]at hi;obtain⟨rfl,rfl⟩:=hi;simp only;rw[h1];exact hf
  |succ i=>exact h2 i o' d' (by simpa using hi)
theorem uM(s:Nat)(pend:List Pend)(H:AH):(absorb s pend H).next=H.next/\∀id,(∃p∈pend,p.hi=s/\p.id=id/\(absorb s pend H).m.get .dead id=p.obj)\/((∀p∈pend,p.hi=s->p.id≠id)/\(absorb s pend H).m.get .dead id=H.m.get .dead id):=by
 induction pend generalizing H with
 |nil=>exact⟨rfl,λid=>.inr ⟨λ_ h=>(by cases h),rfl⟩⟩
 |cons p pend ih=>
  unfold absorb;cases hb:Nat.beq p.hi s with
  |false=>
   obtain⟨h1,h2⟩:=ih H;refine⟨h1,λid=>?_⟩;have hne:p.hi≠s:=λe=>by rw[e,Nat.beq_eq.mpr rfl]at hb;cases hb
   rcases h2 id with⟨q,g1,g2⟩|⟨g1,g2⟩
   .exact .inl ⟨q,by simp[g1],g2⟩
   .refine .inr ⟨λq hq hs=>?_,g2⟩;rcases List.mem_cons.1 hq with rfl|hq
    .exact absurd hs hne
    .exact g1 q hq hs
  |true=>
   have heq:=Nat.eq_of_beq_eq_true hb;obtain⟨h1,h2⟩:=ih (H.set p.id p.obj);refine⟨h1,λid=>?_⟩;rcases h2 id with⟨q,g1,g2⟩|⟨g1,g2⟩
   .exact .inl ⟨q,by simp[g1],g2⟩
   .by_cases e:p.id=id
    .subst e;exact .inl ⟨p,by simp,heq,rfl,g2.trans (aJ _ _)⟩
    .refine .inr ⟨λq hq hs=>?_,g2.trans (af e _)⟩;rcases List.mem_cons.1 hq with rfl|hq
     .exact e
     .exact g1 q hq hs
theorem uN(pend:List Pend)(H:AH):(absorbAll pend H).next=H.next/\∀id,(∃p∈pend,p.id=id/\(absorbAll pend H).m.get .dead id=p.obj)\/((∀p∈pend,p.id≠id)/\(absorbAll pend H).m.get .dead id=H.m.get .dead id):=by
 induction pend generalizing H with
 |nil=>exact⟨rfl,λid=>.inr ⟨λ_ h=>(by cases h),rfl⟩⟩
 |cons p pend ih=>
  unfold absorbAll;obtain⟨h1,h2⟩:=ih (H.set p.id p.obj);refine⟨h1,λid=>?_⟩;rcases h2 id with⟨q,g1,g2⟩|⟨g1,g2⟩
  .exact .inl ⟨q,by simp[g1],g2⟩
  .by_cases e:p.id=id
   .subst e;exact .inl ⟨p,by simp,rfl,g2.trans (aJ _ _)⟩
   .refine .inr ⟨λq hq=>?_,g2.trans (af e _)⟩;rcases List.mem_cons.1 hq with rfl|hq
    .exact e
    .exact g1 q hq
theorem uO{s:Nat}{pend:List Pend}{p:Pend}:p∈keepP s pend↔p∈pend/\p.hi≠s:=by
 induction pend with
 |nil=>simp[keepP]
 |cons q pend ih=>
  unfold keepP;cases hb:Nat.beq q.hi s with
  |true=>
   have:=Nat.eq_of_beq_eq_true hb;simp only[cond,ih,List.mem_cons];constructor
   .rintro⟨h1,h2⟩;exact⟨.inr h1,h2⟩
   .rintro⟨rfl|h1,h2⟩
    .exact absurd this h2
    .exact⟨h1,h2⟩
  |false=>
   have hne:q.hi≠s:=λe=>by rw[e,Nat.beq_eq.mpr rfl]at hb;cases hb
   simp only[cond,List.mem_cons,ih];constructor
   .rintro(rfl|⟨h1,h2⟩)
    .exact⟨.inl rfl,hne⟩
    .exact⟨.inr h1,h2⟩
   .rintro⟨rfl|h1,h2⟩
    .exact .inl rfl
    .exact .inr ⟨h1,h2⟩
theorem uP{r:Rd}:∀{hs:List AH} {s:Nat},checkRd r hs s=true->∀k H,hs[k]?=some H->k<=s->r.lo<=s-k->s-k<=r.hi->(pureV r.op [] .nil H).eqv r.val=true:=by
 intro hs
 induction hs with
 |nil=>intro s _ k H h;cases h
 |cons H0 hs ih=>
  intro s h k H hk hks h1 h2;unfold checkRd at h;rw[Bool.and_eq_true]at h;cases k with
  |zero=>
   simp only[List.getElem?_cons_zero,Option.some.injEq]at hk;subst hk;have:(Nat.ble r.lo s&&Nat.ble s r.hi)=true:=by rw[Bool.and_eq_true,Nat.ble_eq,Nat.ble_eq];exact⟨by omega,by omega⟩
   rw[this]at h;exact h.1
  |succ k=>simp only[List.getElem?_cons_succ]at hk;have hp:Nat.pred s=s-1:=rfl;rw[hp]at h;exact ih h.2 k H hk (by omega) (by omega) (by omega)
theorem uQ{hs:List AH}{s:Nat}{rds:List Rd}(h:checkRds hs s rds=true):∀r∈rds,checkRd r hs s=true:=by
 induction rds with
 |nil=>intro r hr;cases hr
 |cons q rds ih=>
  intro r hr;unfold checkRds at h;rw[Bool.and_eq_true]at h;rcases List.mem_cons.1 hr with rfl|hr
  .exact h.1
  .exact ih h.2 r hr
theorem uR{call:Caller}{cop:COp}{L:List AVal}{e:T8 AVal}{v:AVal}(h:pureV cop L e ⟨.e,.nil⟩=v)(hv:v≠.bad)(H:AH):doOp call cop L e H=.ok v H:=by
 have nb:∀{x:AVal},x=v->notBad x H=.ok v H:=λ{x} hx=>by subst hx;unfold notBad;cases x<;>first|rfl|exact absurd rfl hv
 have em:∀p,(T8.nil:T8 AObj).get .dead p=.dead:=λp=>get_nil _ p
 cases cop with
 |load agg sz x=>
  simp only[pureV,loadV]at h;cases hx:x.ev L e with
  |mptr n k=>rw[hx]at h;refine nb (x:=pureV (.load agg sz x) L e H) ?_;simp only[pureV,hx];exact h
  |ptr id off=>rw[hx]at h;simp only[loadAt,em]at h;exact absurd h.symm hv
  |_=>rw[hx]at h;exact absurd h.symm hv
 |lookup z ok m k=>exfalso;simp only[pureV,lookupV]at h;cases hx:m.ev L e<;>rw[hx]at h<;>simp only[em]at h<;>exact hv h.symm
 |_=>first
  |exact absurd h.symm hv
  |exact nb h
theorem uS{call:Caller}{cop:COp}{e:T8 AVal}{H:AH}{v:AVal}(hc:(∃a s x,cop=.load a s x)\/∃z ok m k,cop=.lookup z ok m k)(h:pureV (fixRd e cop) [] .nil H=v\/pureV cop [] e H=v)(hv:v≠.bad):doOp call cop [] e H=.ok v H:=by
 have nb:∀{x:AVal},x=v->notBad x H=.ok v H:=λ{x} hx=>by subst hx;unfold notBad;cases x<;>first|rfl|exact absurd rfl hv
 rcases hc with⟨a,s,x,rfl⟩|⟨z,ok,m,k,rfl⟩
 .rcases h with h|h<;>exact nb h
 .rcases h with h|h<;>exact nb h
end Go.Ex
namespace Go.Ex
open Go
structure WOk(ops:Array Oper):Prop where
 chain:∀i j,i<j->j<ops.size->kdOf ops i=3->kdOf ops j=3->bitAt (Region.before ops) j i=true
 back:∀(i:Nat) (o:Oper),ops[i]?=some o->∀e∈o.after,Region.binds .any e=true->e.on<i
 looks:∀(i:Nat) (o:Oper),ops[i]?=some o->∀t∈opTmps ops o,∀(j:Nat) (oj:Oper),ops[j]?=some oj->j≠i->oj.dst=some t->bitAt (Region.before ops) i j=true\/bitAt (Region.before ops) j i=true
 one:∀(i:Nat) (o:Oper),ops[i]?=some o->∀t,o.dst=some t->∀(j:Nat) (oj:Oper),ops[j]?=some oj->j≠i->oj.dst≠some t
 ahead:∀i j,i<ops.size->j<ops.size->bitAt (Region.before ops) i j=true->j<i/\∃o,ops[i]?=some o/\∃e∈o.after,Region.binds .any e=true/\(e.on=j\/bitAt (Region.before ops) e.on j=true)
 takes:∀i k,i<ops.size->k<ops.size->kdOf ops i=3->kdOf ops k=2->hiOf ops (Region.before ops) k=chN (kdOf ops) i->bitAt (Region.before ops) i k=true
 place:∀i j,i<ops.size->j<ops.size->(kdOf ops i=1\/kdOf ops i=2)->kdOf ops j=3->
  (chN (kdOf ops) j<loOf ops (Region.before ops) i->bitAt (Region.before ops) i j=true)/\(hiOf ops (Region.before ops) i<=chN (kdOf ops) j->bitAt (Region.before ops) j i=true)
 top:∀i,i<ops.size->(kdOf ops i=1\/kdOf ops i=2)->loOf ops (Region.before ops) i<=chN (kdOf ops) ops.size/\hiOf ops (Region.before ops) i<=chN (kdOf ops) ops.size
theorem an{a b:Nat}:Nat.beq a b=true↔a=b:=by rw[Nat.beq_eq]
theorem uT{ops:Array Oper}(h1:dwOk ops (Region.before ops)=true)(h2:dwOk2 ops (Region.before ops)=true):WOk ops:=by
 unfold dwOk at h1;unfold dwOk2 at h2;simp only[Bool.and_eq_true,List.all_eq_true,List.mem_range]at h1 h2;obtain⟨a1,a2⟩:=h1;obtain⟨⟨b1,b2⟩,b3⟩:=h2;have sz:∀{i:Nat} {o:Oper},ops[i]?=some o->i<ops.size:=λh=>(Array.getElem?_eq_some_iff.1 h).1
 refine⟨?_,?_,?_,?_,?_,?_,?_,?_⟩
 .intro i j hij hj hi3 hj3;have:=a1 i (by omega) j hj;simp only[Bool.or_eq_true,Bool.not_eq_true',Bool.and_eq_false_iff]at this;rcases this with(h|h)|h
  .have:=Nat.le_of_ble_eq_true h;omega
  .rcases h with h|h
   .exact absurd (an.2 hi3) (by unfold kdOf;rw[h];simp)
   .exact absurd (an.2 hj3) (by unfold kdOf;rw[h];simp)
  .exact h
 .intro i o ho e he hb;have:=a2 i (sz ho);rw[ho]at this;simp only[Bool.and_eq_true,List.all_eq_true]at this;have:=this.1.1 e (by simpa using he);simp only[Bool.or_eq_true,Bool.not_eq_true']at this;rcases this with h|h
  .rw[hb]at h;cases h
  .exact Nat.le_of_ble_eq_true h
 .intro i o ho t ht j oj hoj hne hd;have:=a2 i (sz ho);rw[ho]at this;simp only[Bool.and_eq_true,List.all_eq_true,List.mem_range]at this;have:=this.1.2 t ht j (sz hoj);simp only[Bool.or_eq_true,Bool.not_eq_true']at this;rcases this with(h|h)|h
  .exact absurd (an.1 h).symm hne
  .rw[hoj,Option.bind_some,hd]at h;simp at h
  .exact h
 .intro i o ho t ht j oj hoj hne hd;have:=a2 i (sz ho);rw[ho]at this;simp only[Bool.and_eq_true]at this;have:=this.2;rw[ht]at this;simp only[List.all_eq_true,List.mem_range]at this;have:=this j (sz hoj);simp only[Bool.or_eq_true,Bool.not_eq_true']at this;rcases this with h|h
  .exact absurd (an.1 h).symm hne
  .rw[hoj,Option.bind_some,hd]at h;simp at h
 .intro i j hi hj hb;have:=b1 i hi j hj;simp only[Bool.or_eq_true,Bool.not_eq_true',Bool.and_eq_true]at this;rcases this with h|⟨h1,h2⟩
  .rw[hb]at h;cases h
  .refine⟨Nat.le_of_ble_eq_true h1,?_⟩;cases ho:ops[i]? with
   |none=>rw[ho]at h2;cases h2
   |some o=>rw[ho]at h2;simp only[List.any_eq_true,Bool.and_eq_true,Bool.or_eq_true]at h2;obtain⟨e,he,hbi,hor⟩:=h2;exact⟨o,rfl,e,by simpa using he,hbi,hor.imp (λh=>an.1 h) (λh=>h)⟩
 .intro i k hi hk hi3 hk2 hh;have:=b2 i hi;rw[an.2 hi3]at this;simp only[cond,List.all_eq_true,List.mem_range,Bool.or_eq_true,Bool.not_eq_true']at this;rcases this k hk with(h|h)|h
  .rw[an.2 hk2]at h;cases h
  .rw[an.2 hh]at h;cases h
  .exact h
 .intro i j hi hj hk hj3;have:=b3 i hi;have hc:(Nat.beq (kdOf ops i) 1||Nat.beq (kdOf ops i) 2)=true:=by rw[Bool.or_eq_true];exact hk.imp an.2 an.2
  rw[hc]at this;simp only[cond,Bool.and_eq_true,List.all_eq_true,List.mem_range,Bool.or_eq_true,Bool.not_eq_true']at this;have:=this.1 j hj;rcases this with h|⟨h1,h2⟩
  .rw[an.2 hj3]at h;cases h
  .refine⟨λhlt=>?_,λhle=>?_⟩
   .rcases h1 with h|h
    .have:Nat.blt (chN (kdOf ops) j) (loOf ops (Region.before ops) i)=true:=Nat.ble_eq_true_of_le hlt;rw[this]at h;cases h
    .exact h
   .rcases h2 with h|h
    .have:Nat.ble (hiOf ops (Region.before ops) i) (chN (kdOf ops) j)=true:=Nat.ble_eq_true_of_le hle;rw[this]at h;cases h
    .exact h
 .intro i hi hk;have:=b3 i hi;have hc:(Nat.beq (kdOf ops i) 1||Nat.beq (kdOf ops i) 2)=true:=by rw[Bool.or_eq_true];exact hk.imp an.2 an.2
  rw[hc]at this;simp only[cond,Bool.and_eq_true]at this;exact⟨Nat.le_of_ble_eq_true this.2.1,Nat.le_of_ble_eq_true this.2.2⟩
theorem da{kd:Nat->Nat}{i:Nat}(h:kd i=3):chN kd (i+1)=chN kd i+1:=by simp only[chN,an.2 h,cond]
theorem db{kd:Nat->Nat}{i:Nat}(h:kd i≠3):chN kd (i+1)=chN kd i:=by
 have:Nat.beq (kd i) 3=false:=by
  cases hb:Nat.beq (kd i) 3 with
  |false=>rfl
  |true=>exact absurd (an.1 hb) h
 simp only[chN,this,cond]
theorem uU{kd:Nat->Nat}{i j:Nat}(h:i<=j):chN kd i<=chN kd j:=by
 induction j with
 |zero=>rw[Nat.le_zero.1 h];exact Nat.le_refl _
 |succ j ih=>
  rcases Nat.lt_or_ge i (j+1)with hlt|hge
  .have:=ih (by omega);by_cases h3:kd j=3
   .rw[da h3];omega
   .rw[db h3];exact this
  .rw[show i=j+1 by omega];exact Nat.le_refl _
theorem gM{kd:Nat->Nat}{i j:Nat}(h:i<j)(h3:kd i=3):chN kd i<chN kd j:=by have:=uU (kd:=kd) (show i+1<=j from h);rw[da h3]at this;omega
theorem dB{kd:Nat->Nat}{i s:Nat}(h:s<chN kd i):∃j,j<i/\kd j=3/\chN kd j=s:=by
 induction i with
 |zero=>exact absurd h (Nat.not_lt_zero _)
 |succ i ih=>
  by_cases h3:kd i=3
  .rw[da h3]at h;rcases Nat.lt_or_ge s (chN kd i)with hlt|hge
   .obtain⟨j,h1,h2⟩:=ih hlt;exact⟨j,by omega,h2⟩
   .exact⟨i,by omega,h3,by omega⟩
  .rw[db h3]at h;obtain⟨j,h1,h2⟩:=ih h;exact⟨j,by omega,h2⟩
def n2(kd:Nat->Nat)(i:Nat):Nat:=((List.range i).filter λj=>Nat.beq (kd j) 2).length
theorem nr{kd:Nat->Nat}{i:Nat}:n2 kd (i+1)=n2 kd i+if kd i=2 then 1 else 0:=by
 unfold n2;rw[List.range_succ,List.filter_append,List.length_append];by_cases h:kd i=2
 .rw[if_pos h,List.filter_cons_of_pos (by rw[an.2 h])];rfl
 .rw[if_neg h,List.filter_cons_of_neg (by intro hb;exact h (an.1 hb))];rfl
theorem ns{kd:Nat->Nat}{i j:Nat}(h:i<=j):n2 kd i<=n2 kd j:=by
 induction j with
 |zero=>rw[Nat.le_zero.1 h];exact Nat.le_refl _
 |succ j ih=>
  rcases Nat.lt_or_ge i (j+1)with hlt|hge
  .rw[nr];have:=ih (by omega);omega
  .rw[show i=j+1 by omega];exact Nat.le_refl _
theorem uV(l:List (CO×Dw))(H:AH):(reserve l H).m=H.m:=by
 induction l generalizing H with
 |nil=>rfl
 |cons x l ih=>
  obtain⟨o,d⟩:=x;unfold reserve;cases Nat.beq d.kind 2 with
  |true=>exact ih _
  |false=>exact ih _
theorem uW(l:List (CO×Dw))(H:AH):(reserve l H).next.toNat=H.next.toNat+(l.filter λx=>Nat.beq x.2.kind 2).length:=by
 induction l generalizing H with
 |nil=>rfl
 |cons x l ih=>
  obtain⟨o,d⟩:=x;unfold reserve;cases hb:Nat.beq d.kind 2 with
  |true=>rw[List.filter_cons_of_pos (by show Nat.beq d.kind 2=true;exact hb)];simp only[cond,ih,Pth.ab,List.length_cons];omega
  |false=>rw[List.filter_cons_of_neg (by show¬Nat.beq d.kind 2=true;rw[hb];simp)];exact ih H
structure Tr(ops:Array Oper)(call:Caller)(C:Nat->CO)(σ:Nat->DS)(V:Nat->AVal)(OB:Nat->AObj)(H:AH):Prop where
 w:WOk ops
 fact:∀i,i<ops.size->Fact call (C i) (dwOf ops (Region.before ops) i) (σ i) (V i) (OB i) (σ (i+1))
 s0:(σ 0).s=0
 pend0:(σ 0).pend=[]
 hs0:(σ 0).hs=[(σ 0).H]
 ids0:(σ 0).ids=H.next
 next0:(σ 0).H.next.toNat=H.next.toNat+n2 (kdOf ops) ops.size
 m0:(σ 0).H.m=H.m
 chk:checkRds (σ ops.size).hs (σ ops.size).s (σ ops.size).rds=true
section
variable{ops:Array Oper}{call:Caller}{C:Nat->CO}{σ:Nat->DS}{V:Nat->AVal}{OB:Nat->AObj}{H:AH}
theorem Tr.gN(t:Tr ops call C σ V OB H){i:Nat}(hi:i<=ops.size):(σ i).s=chN (kdOf ops) i:=by
 induction i with
 |zero=>exact t.s0
 |succ i ih=>
  have h0:=ih (by omega);have hf:=t.fact i (by omega);have hkd:(dwOf ops (Region.before ops) i).kind=kdOf ops i:=rfl;generalize σ (i+1)=σ' at hf⊢;cases hf with
  |skip3 hw hk hv=>rw[hkd]at hk;rw[da hk,<-h0]
  |act hw hk hv=>rw[hkd]at hk;rw[da hk,<-h0]
  |skip hw hk hv=>rw[hkd]at hk;rw[db hk];exact h0
  |pure hw hk hv hb=>rw[hkd]at hk;rw[db (by omega)];exact h0
  |read hw hk hv hb=>rw[hkd]at hk;rw[db (by omega)];exact h0
  |make hw hk hv=>rw[hkd]at hk;rw[db (by omega)];exact h0
def Made(ops:Array Oper)(C:Nat->CO)(σ:Nat->DS)(k:Nat):Prop:=k<ops.size/\kdOf ops k=2/\wants [] (σ k).e (C k).guard=.go
theorem Tr.j9(t:Tr ops call C σ V OB H){k:Nat}(h:Made ops C σ k):(σ (k+1)).ids=(σ k).ids.succ/\mkBlock [] (σ k).e (C k).op (σ k).ids=some (OB k,V k):=by
 have hf:=t.fact k h.1;have hkd:(dwOf ops (Region.before ops) k).kind=kdOf ops k:=rfl;have hw:=h.2.2;have hk:=h.2.1;generalize σ (k+1)=σ' at hf⊢;cases hf with
 |make hw hk' hv=>exact⟨rfl,hv⟩
 |skip3 hw' _ _=>rw[hw]at hw';cases hw'
 |skip hw' _ _=>rw[hw]at hw';cases hw'
 |pure _ hk' _ _=>rw[hkd]at hk';omega
 |read _ hk' _ _=>rw[hkd]at hk';omega
 |act _ hk' _=>rw[hkd]at hk';omega
theorem Tr.nt(t:Tr ops call C σ V OB H){i:Nat}(hi:i<=ops.size):H.next.toNat<=(σ i).ids.toNat/\(σ i).ids.toNat<=H.next.toNat+n2 (kdOf ops) i:=by
 induction i with
 |zero=>rw[t.ids0];exact⟨Nat.le_refl _,Nat.le_add_right _ _⟩
 |succ i ih=>
  obtain⟨h1,h2⟩:=ih (by omega);have hf:=t.fact i (by omega);have hkd:(dwOf ops (Region.before ops) i).kind=kdOf ops i:=rfl;have hm:=ns (kd:=kdOf ops) (Nat.le_succ i);have hs:=nr (kd:=kdOf ops) (i:=i);generalize σ (i+1)=σ' at hf⊢;cases hf with
  |make hw hk hv=>
   rw[hkd]at hk;rw[if_pos hk]at hs;show H.next.toNat<=(Pth.succ _).toNat/\(Pth.succ _).toNat<=_
   rw[Pth.ab,hs];omega
  |skip3 hw hk hv=>exact⟨h1,Nat.le_trans h2 (by omega)⟩
  |skip hw hk hv=>exact⟨h1,Nat.le_trans h2 (by omega)⟩
  |pure hw hk hv hb=>exact⟨h1,Nat.le_trans h2 (by omega)⟩
  |read hw hk hv hb=>exact⟨h1,Nat.le_trans h2 (by omega)⟩
  |act hw hk hv=>exact⟨h1,Nat.le_trans h2 (by omega)⟩
theorem Tr.uX(t:Tr ops call C σ V OB H){i j:Nat}(h:i<=j)(hj:j<=ops.size):(σ i).ids.toNat<=(σ j).ids.toNat:=by
 induction j with
 |zero=>rw[Nat.le_zero.1 h];exact Nat.le_refl _
 |succ j ih=>
  rcases Nat.lt_or_ge i (j+1)with hlt|hge
  .refine Nat.le_trans (ih (by omega) (by omega)) ?_;have hf:=t.fact j (by omega);generalize σ (j+1)=σ' at hf⊢;cases hf with
   |make hw hk hv=>show _<=(Pth.succ _).toNat;rw[Pth.ab];omega
   |_=>exact Nat.le_refl _
  .rw[show i=j+1 by omega];exact Nat.le_refl _
theorem Tr.j_(t:Tr ops call C σ V OB H){k k':Nat}(h:Made ops C σ k)(h':Made ops C σ k')(e:(σ k).ids=(σ k').ids):k=k':=by
 have key:∀{a b:Nat},Made ops C σ a->Made ops C σ b->a<b->(σ a).ids≠(σ b).ids:=by intro a b ha hb hab e;have h1:=(t.j9 ha).1;have h2:=t.uX (show a+1<=b from hab) (Nat.le_of_lt hb.1);rw[h1,Pth.ab,e]at h2;omega
 rcases Nat.lt_trichotomy k k' with hlt|heq|hgt
 .exact absurd e (key h h' hlt)
 .exact heq
 .exact absurd e.symm (key h' h hgt)
theorem Tr.gO(t:Tr ops call C σ V OB H){k:Nat}(h:Made ops C σ k):H.next.toNat<=(σ k).ids.toNat/\(σ k).ids.toNat<(σ 0).H.next.toNat:=by refine⟨(t.nt (Nat.le_of_lt h.1)).1,?_⟩;have h1:=(t.j9 h).1;have h2:=(t.nt (show k+1<=ops.size from h.1)).2;rw[h1,Pth.ab]at h2;have h3:=ns (kd:=kdOf ops) (show k+1<=ops.size from h.1);rw[t.next0];omega
theorem Tr.gP(t:Tr ops call C σ V OB H){i:Nat}(hi:i<=ops.size)(p:Pend):p∈(σ i).pend↔∃k,k<i/\Made ops C σ k/\p=⟨hiOf ops (Region.before ops) k,(σ k).ids,OB k⟩/\chN (kdOf ops) i<=hiOf ops (Region.before ops) k:=by
 induction i with
 |zero=>
  rw[t.pend0];constructor
  .intro h;cases h
  .rintro⟨k,h,_⟩;exact absurd h (Nat.not_lt_zero _)
 |succ i ih=>
  have ih:=ih (by omega);have hf:=t.fact i (by omega);have hs:=t.gN (i:=i) (by omega);have hkd:(dwOf ops (Region.before ops) i).kind=kdOf ops i:=rfl
  have keep:kdOf ops i=3->(p∈keepP (σ i).s (σ i).pend↔∃k,k<i+1/\Made ops C σ k/\p=⟨hiOf ops (Region.before ops) k,(σ k).ids,OB k⟩/\chN (kdOf ops) (i+1)<=hiOf ops (Region.before ops) k):=by
   intro h3;rw[uO,ih,da h3,hs];constructor
   .rintro⟨⟨k,h1,h2,h4,h5⟩,h6⟩;refine⟨k,by omega,h2,h4,?_⟩;rw[h4]at h6;simp only at h6;omega
   .rintro⟨k,h1,h2,h4,h5⟩;have:k≠i:=λe=>by subst e;have:=h2.2.1;omega
    refine⟨⟨k,by omega,h2,h4,by omega⟩,?_⟩;rw[h4];simp only;omega
  have same:(¬Made ops C σ i)->kdOf ops i≠3->(p∈(σ i).pend↔∃k,k<i+1/\Made ops C σ k/\p=⟨hiOf ops (Region.before ops) k,(σ k).ids,OB k⟩/\chN (kdOf ops) (i+1)<=hiOf ops (Region.before ops) k):=by
   intro hm h3;rw[ih,db h3];constructor
   .rintro⟨k,h1,h2⟩;exact⟨k,by omega,h2⟩
   .rintro⟨k,h1,h2⟩;have:k≠i:=λe=>by subst e;exact hm h2.1
    exact⟨k,by omega,h2⟩
  generalize hσ:σ (i+1)=σ' at hf⊢;cases hf with
  |skip3 hw hk hv=>exact keep hk
  |act hw hk hv=>exact keep hk
  |skip hw hk hv=>exact same (λhm=>by have:=hm.2.2;rw[hw]at this;cases this) hk
  |pure hw hk hv hb=>rw[hkd]at hk;exact same (λhm=>by have:=hm.2.1;omega) (by omega)
  |read hw hk hv hb=>rw[hkd]at hk;exact same (λhm=>by have:=hm.2.1;omega) (by omega)
  |make hw hk hv=>
   rw[hkd]at hk;have hm:Made ops C σ i:=⟨by omega,hk,hw⟩;rw[List.mem_cons,ih,db (by omega)];constructor
   .rintro(rfl|⟨k,h1,h2⟩)
    .refine⟨i,by omega,hm,rfl,?_⟩;rcases Nat.lt_or_ge (hiOf ops (Region.before ops) i) (chN (kdOf ops) i)with hlt|hge
     .obtain⟨j,hj,hj3,hjc⟩:=dB hlt;have:=(t.w.place i j (by omega) (by omega) (.inr hk) hj3).2 (by omega);have:=(t.w.ahead j i (by omega) (by omega) this).1;omega
     .exact hge
    .exact⟨k,by omega,h2⟩
   .rintro⟨k,h1,h2,h3,h4⟩;by_cases e:k=i
    .subst e;exact .inl h3
    .exact .inr ⟨k,by omega,h2,h3,h4⟩
theorem Tr.nu(t:Tr ops call C σ V OB H){i:Nat}(hi:i<=ops.size):(σ i).hs.length=(σ i).s+1/\(σ i).hs[0]?=some (σ i).H:=by
 induction i with
 |zero=>rw[t.hs0,t.s0];exact⟨rfl,rfl⟩
 |succ i ih=>
  obtain⟨h1,h2⟩:=ih (by omega);have hf:=t.fact i (by omega);generalize σ (i+1)=σ' at hf⊢;cases hf with
  |skip3 hw hk hv=>exact⟨by simp[h1],rfl⟩
  |act hw hk hv=>exact⟨by simp[h1],rfl⟩
  |skip hw hk hv=>exact⟨h1,h2⟩
  |pure hw hk hv hb=>exact⟨h1,h2⟩
  |read hw hk hv hb=>exact⟨h1,h2⟩
  |make hw hk hv=>exact⟨h1,h2⟩
theorem Tr.uY(t:Tr ops call C σ V OB H){i j:Nat}(hij:i<=j)(hj:j<=ops.size){s:Nat}(hs:s<=(σ i).s):(σ i).s<=(σ j).s/\(σ j).hs[(σ j).s-s]?=(σ i).hs[(σ i).s-s]?:=by
 induction j with
 |zero=>rw[Nat.le_zero.1 hij];exact⟨Nat.le_refl _,rfl⟩
 |succ j ih=>
  rcases Nat.lt_or_ge i (j+1)with hlt|hge
  .obtain⟨h1,h2⟩:=ih (by omega) (by omega);have hf:=t.fact j (by omega);generalize σ (j+1)=σ' at hf⊢;cases hf with
   |skip3 hw hk hv=>refine⟨Nat.le_succ_of_le h1,?_⟩;rw[<-h2];simp only;rw[show(σ j).s+1-s=((σ j).s-s)+1 by omega,List.getElem?_cons_succ]
   |act hw hk hv=>refine⟨Nat.le_succ_of_le h1,?_⟩;rw[<-h2];simp only;rw[show(σ j).s+1-s=((σ j).s-s)+1 by omega,List.getElem?_cons_succ]
   |skip hw hk hv=>exact⟨h1,h2⟩
   |pure hw hk hv hb=>exact⟨h1,h2⟩
   |read hw hk hv hb=>exact⟨h1,h2⟩
   |make hw hk hv=>exact⟨h1,h2⟩
  .rw[show i=j+1 by omega];exact⟨Nat.le_refl _,rfl⟩
def HHof(σ:Nat->DS)(n s:Nat):AH:=((σ n).hs[(σ n).s-s]?).getD default
theorem Tr.e_(t:Tr ops call C σ V OB H){i:Nat}(hi:i<=ops.size):(σ i).H=HHof σ ops.size (chN (kdOf ops) i):=by unfold HHof;rw[<-t.gN hi,(t.uY hi (Nat.le_refl _) (Nat.le_refl _)).2,Nat.sub_self,(t.nu hi).2];rfl
theorem Tr.uZ(t:Tr ops call C σ V OB H){i j:Nat}(hij:i<=j)(hj:j<=ops.size){r:Rd}(hr:r∈(σ i).rds):r∈(σ j).rds:=by
 induction j with
 |zero=>rw[Nat.le_zero.1 hij]at hr;exact hr
 |succ j ih=>
  rcases Nat.lt_or_ge i (j+1)with hlt|hge
  .have h1:=ih (by omega) (by omega);have hf:=t.fact j (by omega);generalize σ (j+1)=σ' at hf⊢;cases hf with
   |read hw hk hv hb=>
    simp only;cases Nat.beq (dwOf ops (Region.before ops) j).lo (dwOf ops (Region.before ops) j).hi with
    |true=>exact h1
    |false=>exact List.mem_cons_of_mem _ h1
   |_=>exact h1
  .rw[show i=j+1 by omega]at hr;exact hr
theorem Tr.u_(t:Tr ops call C σ V OB H){i:Nat}(hi:i<ops.size)(hk:kdOf ops i=1)(hw:wants [] (σ i).e (C i).guard=.go){s:Nat}(h1:loOf ops (Region.before ops) i<=s)(h2:s<=hiOf ops (Region.before ops) i):V i≠.bad/\(pureV (fixRd (σ i).e (C i).op) [] .nil (HHof σ ops.size s)=V i\/pureV (C i).op [] (σ i).e (HHof σ ops.size s)=V i):=by
 have hf:=t.fact i hi;have hkd:(dwOf ops (Region.before ops) i).kind=kdOf ops i:=rfl;have htop:=(t.w.top i hi (.inl hk));generalize hσ:σ (i+1)=σ' at hf;cases hf with
 |read _ hk' hv hb=>
  refine⟨hb,?_⟩;have hH:=t.e_ (Nat.le_of_lt hi)
  have p1:loOf ops (Region.before ops) i<=chN (kdOf ops) i:=by
   rcases Nat.lt_or_ge (chN (kdOf ops) i) (loOf ops (Region.before ops) i)with hlt|hge
   .obtain⟨j,hj,hj3,hjc⟩:=dB (Nat.lt_of_lt_of_le hlt htop.1);have hb:=(t.w.place i j hi hj (.inl hk) hj3).1 (by omega);have hlt2:=(t.w.ahead i j hi hj hb).1;have:=gM hlt2 hj3;omega
   .exact hge
  have p2:chN (kdOf ops) i<=hiOf ops (Region.before ops) i:=by
   rcases Nat.lt_or_ge (hiOf ops (Region.before ops) i) (chN (kdOf ops) i)with hlt|hge
   .obtain⟨j,hj,hj3,hjc⟩:=dB hlt;have hb:=(t.w.place i j hi (by omega) (.inl hk) hj3).2 (by omega);have:=(t.w.ahead j i (by omega) hi hb).1;omega
   .exact hge
  cases hq:Nat.beq (dwOf ops (Region.before ops) i).lo (dwOf ops (Region.before ops) i).hi with
  |true=>have:loOf ops (Region.before ops) i=hiOf ops (Region.before ops) i:=an.1 hq;rw[show s=chN (kdOf ops) i by omega,<-hH];exact .inr hv
  |false=>
   have hm:(⟨loOf ops (Region.before ops) i,hiOf ops (Region.before ops) i,fixRd (σ i).e (C i).op,V i⟩:Rd)∈(σ (i+1)).rds:=by rw[hσ];simp only[hq,cond];exact List.mem_cons_self ..
   have hm2:=t.uZ (show i+1<=ops.size from hi) (Nat.le_refl _) hm;have hc:=uQ t.chk _ hm2;have hsn:=t.gN (Nat.le_refl ops.size);have hsle:s<=(σ ops.size).s:=by rw[hsn];exact Nat.le_trans h2 htop.2
   obtain⟨HX,hHX⟩:∃HX,(σ ops.size).hs[(σ ops.size).s-s]?=some HX:=by have hl:=(t.nu (Nat.le_refl ops.size)).1;exact⟨_,List.getElem?_eq_getElem (by omega)⟩
   have:=uP hc _ HX hHX (by omega) (by simp only;omega) (by simp only;omega);refine .inl ?_;unfold HHof;rw[hHX];exact eR this
 |skip3 hw' _ _=>rw[hw]at hw';cases hw'
 |skip hw' _ _=>rw[hw]at hw';cases hw'
 |pure _ hk' _ _=>rw[hkd]at hk';omega
 |make _ hk' _=>rw[hkd]at hk';omega
 |act _ hk' _=>rw[hkd]at hk';omega
end
end Go.Ex
namespace Go.Ex
open Go
variable{P:Program}{ω:Nat->Value}{N:Nat}{S:List (Nat×Pth)}{ops:Array Oper}{call:Caller}{C:Nat->CO}{σ:Nat->DS}{V:Nat->AVal}{OB:Nat->AObj}
structure Reg(P:Program)(ω:Nat->Value)(N:Nat)(S:List (Nat×Pth))(ops:Array Oper)(call:Caller)(C:Nat->CO)(σ:Nat->DS)(V:Nat->AVal)(OB:Nat->AObj)(ρ0:Rho)(H0:AH)(a0:Act)(w0:World):Prop where
 hω:∀i,(ω i).oneCell'=true
 hcall:CallerOk P ω call
 hS:slotsOk S=true
 t:Tr ops call C σ V OB H0
 comp:∀i o,ops[i]?=some o->cOperD P N S ops o=some (C i)
 env0:EnvOk ρ0 ω S (σ 0).e a0.tmps
 glob0:GlobOk P ρ0
 size0:a0.tmps.size=N
 hr0:HR P ρ0 ω H0 w0
variable{ρ0:Rho}{H0:AH}{a0:Act}{w0:World}
abbrev HHs(σ:Nat->DS)(ops:Array Oper)(s:Nat):AH:=HHof σ ops.size s
def Din(listed:Array Bool)(i:Nat):Prop:=listed.getD i false=true
def Kp(ops:Array Oper)(C:Nat->CO)(σ:Nat->DS)(D:Nat->Prop)(s k:Nat):Prop:=Made ops C σ k/\D k/\s<=hiOf ops (Region.before ops) k
structure Inv(P:Program)(ω:Nat->Value)(N:Nat)(ops:Array Oper)(C:Nat->CO)(σ:Nat->DS)(V:Nat->AVal)(OB:Nat->AObj)(ρ0:Rho)(H0:AH)(a0:Act)(w0:World)
 (D:Nat->Prop) (ρ:Rho) (s:Nat) (Ĥ:AH) (a:Act) (w:World):Prop where
 top:s<=chN (kdOf ops) ops.size
 chain:∀j,j<ops.size->kdOf ops j=3->(D j↔chN (kdOf ops) j<s)
 closed:∀i j,i<ops.size->j<ops.size->D i->bitAt (Region.before ops) i j=true->D j
 over:Over (Kp ops C σ D s) (λk=>(σ k).ids) OB (HHs σ ops s) Ĥ
 dead:∀k,Made ops C σ k->s<=hiOf ops (Region.before ops) k->(HHs σ ops s).m.get .dead (σ k).ids=.dead
 step:Step P ρ0 ω H0 w0 ρ Ĥ w
 nx:(σ 0).H.next.toNat<=Ĥ.next.toNat
 free:∀k,Made ops C σ k->¬D k->ρ (σ k).ids=none
 size:a.tmps.size=N
 defers:a.defers=a0.defers
 old:∀t,(∀(j:Nat) (oj:Oper),ops[j]?=some oj->oj.dst=some t->¬D j)->a.tmps.getD t undef=a0.tmps.getD t undef
 new:∀(j:Nat) (oj:Oper) (t:Nat),ops[j]?=some oj->oj.dst=some t->D j->VR ρ ω (V j) (a.tmps.getD t undef)
theorem dc{α:Type}{xs:Array α}{i:Nat}{o:α}(h:xs[i]?=some o):i<xs.size:=(Array.getElem?_eq_some_iff.1 h).1
theorem Made.owned(t:Tr ops call C σ V OB H0){k:Nat}(h:Made ops C σ k):owned (OB k)=true:=by
 have:=(t.j9 h).2;generalize (C k).op=cop at this;cases cop with
 |box x=>
  simp only[mkBlock,boxV]at this;split at this
  .cases this
  .simp only[Option.some.injEq,Prod.mk.injEq]at this;rw[<-this.1];rfl
 |bsl esz len z parts=>
  simp only[mkBlock]at this;split at this
  .simp only[Option.some.injEq,Prod.mk.injEq]at this;rw[<-this.1];rfl
  .cases this
 |mksl esz bytes z l c=>
  simp only[mkBlock]at this;split at this
  .rename_i len cap _ _;cases hq:(Nat.ble len cap&&small cap bytes)with
   |false=>rw[hq]at this;cases this
   |true=>rw[hq]at this;simp only[cond,Option.some.injEq,Prod.mk.injEq]at this;rw[<-this.1];rfl
  .cases this
 |mkmap=>simp only[mkBlock,Option.some.injEq,Prod.mk.injEq]at this;rw[<-this.1];rfl
 |_=>simp only[mkBlock]at this;cases this
theorem ke(R:Reg P ω N S ops call C σ V OB ρ0 H0 a0 w0){i:Nat}{o:Oper}(ho:ops[i]?=some o):cGuard P N (ownS S ops o) ⟨[],0⟩ ops o.guard=some (C i).guard/\cDstD N S o.dst=some (C i).dst/\(C i).op=(cOp P N (ownS S ops o) ⟨[],0⟩ o.op).getD .bad:=by have:=R.comp i o ho;unfold cOperD at this;simp only[Option.bind_eq_some_iff,Option.some.injEq]at this;obtain⟨g,h1,d,h2,h3⟩:=this;rw[<-h3];exact⟨h1,h2,rfl⟩
theorem vb(R:Reg P ω N S ops call C σ V OB ρ0 H0 a0 w0){i:Nat}(hi:i<ops.size):(σ (i+1)).e=setE (σ i).e (C i).dst (V i):=by have hf:=R.t.fact i hi;generalize σ (i+1)=σ' at hf⊢;cases hf<;>rfl
theorem nw(R:Reg P ω N S ops call C σ V OB ρ0 H0 a0 w0){t:Nat}{p:Pth}(hp:look S t=some p){i:Nat}(hi:i<=ops.size):(∀(j:Nat) (oj:Oper),j<i->ops[j]?=some oj->oj.dst=some t->(σ i).e.get .bad p=V j)/\((∀(j:Nat) (oj:Oper),j<i->ops[j]?=some oj->oj.dst≠some t)->(σ i).e.get .bad p=(σ 0).e.get .bad p):=by
 induction i with
 |zero=>exact⟨λj oj h=>absurd h (Nat.not_lt_zero _),λ_=>rfl⟩
 |succ i ih=>
  obtain⟨h1,h2⟩:=ih (by omega);have he:=vb R (show i<ops.size by omega);obtain⟨o,ho⟩:∃o,ops[i]?=some o:=⟨_,Array.getElem?_eq_getElem (show i<ops.size by omega)⟩;have hd:=(ke R ho).2.1
  have other:o.dst≠some t->(σ (i+1)).e.get .bad p=(σ i).e.get .bad p:=by
   intro hne;rw[he];cases hdo:o.dst with
   |none=>rw[hdo]at hd;simp only[cDstD,Option.some.injEq]at hd;rw[<-hd];rfl
   |some t'=>
    rw[hdo]at hd;simp only[cDstD]at hd;cases hb:Nat.blt t' N with
    |false=>rw[hb]at hd;cases hd
    |true=>
     rw[hb]at hd;simp only[cond]at hd;cases hl:look S t' with
     |none=>rw[hl]at hd;simp only[Option.some.injEq]at hd;rw[<-hd];rfl
     |some p'=>rw[hl]at hd;simp only[Option.some.injEq]at hd;rw[<-hd];show((σ i).e.put .bad (V i) p').get .bad p=_;exact aG _ _ (λe=>by subst e;exact hne (by rw[hdo,jV R.hS hl hp])) _
  have this_:o.dst=some t->(σ (i+1)).e.get .bad p=V i:=by
   intro hdo;rw[he];rw[hdo]at hd;simp only[cDstD]at hd;cases hb:Nat.blt t N with
   |false=>rw[hb]at hd;cases hd
   |true=>rw[hb,hp]at hd;simp only[cond,Option.some.injEq]at hd;rw[<-hd];exact aL _ _ _ _
  refine⟨λj oj hj hoj hdj=>?_,λhall=>?_⟩
  .by_cases e:j=i
   .subst e;rw[ho]at hoj;cases hoj;exact this_ hdj
   .rw[other (R.t.w.one j oj hoj t hdj i o ho (Ne.symm e))];exact h1 j oj (by omega) hoj hdj
  .rw[other (hall i o (by omega) ho)];exact h2 λj oj hj hoj=>hall j oj (by omega) hoj
theorem vd{o:Oper}(hS:slotsOk S=true){t:Nat}{p:Pth}(h:look (ownS S ops o) t=some p):t∈opTmps ops o/\look S t=some p:=by
 have hm:=mZ h;unfold ownS at hm;rw[List.mem_filter]at hm;refine⟨?_,?_⟩
 .have:=hm.2;simp only at this;generalize opTmps ops o=l at this
  induction l with
  |nil=>cases this
  |cons u l ih=>
   unfold isIn at this;cases hb:Nat.beq t u with
   |true=>rw[an.1 hb];exact List.mem_cons_self ..
   |false=>rw[hb]at this;exact List.mem_cons_of_mem _ (ih this)
 .have hm1:=hm.1;clear h hm
  induction S with
  |nil=>cases hm1
  |cons x S ih=>
   obtain⟨u,q⟩:=x;simp only[slotsOk,Bool.and_eq_true,List.all_eq_true]at hS;unfold look;rcases List.mem_cons.1 hm1 with hm1|hm1
   .simp only[Prod.mk.injEq]at hm1;obtain⟨rfl,rfl⟩:=hm1;rw[an.2 rfl];rfl
   .have hne:Nat.beq u t=false:=by
     have:=hS.1 _ hm1;simp only[Bool.not_eq_true']at this;exact this.1
    rw[hne];exact ih hS.2 hm1
section
variable{D:Nat->Prop}{ρ:Rho}{s:Nat}{Ĥ:AH}{a:Act}{w:World}
theorem ve(R:Reg P ω N S ops call C σ V OB ρ0 H0 a0 w0)(I:Inv P ω N ops C σ V OB ρ0 H0 a0 w0 D ρ s Ĥ a w){i:Nat}{o:Oper}(ho:ops[i]?=some o)(hn:¬D i)(hpre:∀j,j<ops.size->bitAt (Region.before ops) i j=true->D j):EnvOk ρ ω (ownS S ops o) (σ i).e a.tmps:=by
 have hi:=dc ho;intro t p hp;obtain⟨ht,hp⟩:=vd R.hS hp;obtain⟨e1,e2⟩:=nw R hp (Nat.le_of_lt hi);by_cases hw:∃(j:Nat) (oj:Oper),ops[j]?=some oj/\oj.dst=some t
 .obtain⟨j,oj,hoj,hd⟩:=hw;have hj:=dc hoj;by_cases hlt:j<i
  .have hb:bitAt (Region.before ops) i j=true:=by
    rcases R.t.w.looks i o ho t ht j oj hoj (by omega) hd with h|h
    .exact h
    .have:=(R.t.w.ahead j i hj hi h).1;omega
   rw[e1 j oj hlt hoj hd];exact I.new j oj t hoj hd (hpre j hj hb)
  .have hnd:¬D j:=by
    by_cases e:j=i
    .subst e;exact hn
    .intro hD;rcases R.t.w.looks i o ho t ht j oj hoj e hd with h|h
     .have:=(R.t.w.ahead i j hi hj h).1;omega
     .exact hn (I.closed j i hj hi hD h)
   have un:∀(j':Nat) (oj':Oper),ops[j']?=some oj'->oj'.dst=some t->j'=j:=by
    intro j' oj' h1 h2;by_cases e:j'=j
    .exact e
    .exact absurd h2 (R.t.w.one j oj hoj t hd j' oj' h1 e)
   rw[e2 λj' oj' h0 h1 h2=>by have:=un j' oj' h1 h2;omega];rw[I.old t λj' oj' h1 h2=>by rw[un j' oj' h1 h2];exact hnd];exact(R.env0 t p hp).mono I.step.sub
 .rw[e2 λj oj _ h1 h2=>hw ⟨j,oj,h1,h2⟩,I.old t λj oj h1 h2=>absurd ⟨j,oj,h1,h2⟩ hw];exact(R.env0 t p hp).mono I.step.sub
theorem gR(R:Reg P ω N S ops call C σ V OB ρ0 H0 a0 w0)(I:Inv P ω N ops C σ V OB ρ0 H0 a0 w0 D ρ s Ĥ a w){i:Nat}(hi:i<ops.size)(hn:¬D i)(hpre:∀j,j<ops.size->bitAt (Region.before ops) i j=true->D j)(h3:kdOf ops i=3):s=chN (kdOf ops) i:=by
 have h1:¬chN (kdOf ops) i<s:=λh=>hn ((I.chain i hi h3).2 h)
 rcases Nat.lt_or_ge s (chN (kdOf ops) i)with hlt|hge
 .obtain⟨j,hj,hj3,hjc⟩:=dB hlt;have hD:=hpre j (by omega) (R.t.w.chain j i hj hi hj3 h3);have:=(I.chain j (by omega) hj3).1 hD;omega
 .omega
theorem nz(R:Reg P ω N S ops call C σ V OB ρ0 H0 a0 w0)(I:Inv P ω N ops C σ V OB ρ0 H0 a0 w0 D ρ s Ĥ a w){i:Nat}(hi:i<ops.size)(hn:¬D i)(hpre:∀j,j<ops.size->bitAt (Region.before ops) i j=true->D j)(hk:kdOf ops i=1\/kdOf ops i=2):loOf ops (Region.before ops) i<=s/\s<=hiOf ops (Region.before ops) i:=by
 have htop:=R.t.w.top i hi hk;have ht:=I.top;constructor
 .rcases Nat.lt_or_ge s (loOf ops (Region.before ops) i)with hlt|hge
  .obtain⟨j,hj,hj3,hjc⟩:=dB (Nat.lt_of_lt_of_le hlt htop.1);have hb:=(R.t.w.place i j hi hj hk hj3).1 (by omega);have:=(I.chain j hj hj3).1 (hpre j hj hb);omega
  .exact hge
 .rcases Nat.lt_or_ge (hiOf ops (Region.before ops) i) s with hlt|hge
  .obtain⟨j,hj,hj3,hjc⟩:=dB (Nat.lt_of_lt_of_le hlt ht);have hb:=(R.t.w.place i j hi hj hk hj3).2 (by omega);have hD:=(I.chain j hj hj3).2 (by omega);exact absurd (I.closed j i hj hi hD hb) hn
  .exact hge
theorem vf{k:Nat}(h:Kp ops C σ D s k):k<ops.size:=h.1.1
theorem vg{a:Act}{o:Oper}{t:Nat}{v:Value}(h:o.dst=some t)(ht:t<a.tmps.size):(a.put o.dst v).tmps.getD t undef=v:=by rw[h];exact gy ht
theorem nG{a:Act}{o:Oper}{t:Nat}{v:Value}(h:o.dst≠some t):(a.put o.dst v).tmps.getD t undef=a.tmps.getD t undef:=by
 cases hd:o.dst with
 |none=>rfl
 |some u=>show(a.tmps.setIfInBounds u v).getD t undef=_;exact d_ (λe=>h (by rw[hd,e]))
theorem Inv.next(R:Reg P ω N S ops call C σ V OB ρ0 H0 a0 w0)(I:Inv P ω N ops C σ V OB ρ0 H0 a0 w0 D ρ s Ĥ a w){i:Nat}{o:Oper}(ho:ops[i]?=some o)(hn:¬D i)(hpre:∀j,j<ops.size->bitAt (Region.before ops) i j=true->D j){ρ':Rho}{s':Nat}{Ĥ':AH}{v':Value}{w':World}(hs':s'=if kdOf ops i=3 then s+1 else s)(hs0:kdOf ops i=3->s=chN (kdOf ops) i)(hover:Over (Kp ops C σ (λj=>j=i\/D j) s') (λk=>(σ k).ids) OB (HHs σ ops s') Ĥ')(hdead:∀k,Made ops C σ k->s'<=hiOf ops (Region.before ops) k->(HHs σ ops s').m.get .dead (σ k).ids=.dead)(hstep:Step P ρ0 ω H0 w0 ρ' Ĥ' w')(hsub:Sub ρ ρ')(hnx:Ĥ.next.toNat<=Ĥ'.next.toNat)(hfree:∀k,Made ops C σ k->k≠i->¬D k->ρ' (σ k).ids=none)(hv:VR ρ' ω (V i) v'):Inv P ω N ops C σ V OB ρ0 H0 a0 w0 (λj=>j=i\/D j) ρ' s' Ĥ' (a.put o.dst v') w':=by
 have hi:=dc ho;refine⟨?_,?_,?_,hover,hdead,hstep,Nat.le_trans I.nx hnx,?_,by rw[gz];exact I.size,by rw[put_defers];exact I.defers,?_,?_⟩
 .rw[hs'];by_cases h3:kdOf ops i=3
  .rw[if_pos h3,hs0 h3];exact gM hi h3
  .rw[if_neg h3];exact I.top
 .intro j hj hj3;have hc:=I.chain j hj hj3;rw[hs'];by_cases h3:kdOf ops i=3
  .rw[if_pos h3];have hs:=hs0 h3;constructor
   .rintro(rfl|h)
    .omega
    .have:=hc.1 h;omega
   .intro h;rcases Nat.lt_trichotomy j i with hlt|heq|hgt
    .exact .inr (hc.2 (by rw[hs];exact gM hlt hj3))
    .exact .inl heq
    .have:=gM hgt h3;omega
  .rw[if_neg h3,<-hc];constructor
   .rintro(rfl|h)
    .exact absurd hj3 h3
    .exact h
   .exact .inr
 .intro x y hx hy hD hb;rcases hD with rfl|hD
  .exact .inr (hpre y hy hb)
  .exact .inr (I.closed x y hx hy hD hb)
 .intro k hk hnk;exact hfree k hk (λe=>hnk (.inl e)) (λh=>hnk (.inr h))
 .intro t ht;rw[nG (λh=>ht i o ho h (.inl rfl))];exact I.old t λj oj h1 h2 h3=>ht j oj h1 h2 (.inr h3)
 .intro j oj t hoj hd hD;by_cases e:j=i
  .subst e;rw[ho]at hoj;cases hoj
   have ht:t<a.tmps.size:=by
    have:=(ke R ho).2.1;rw[hd]at this;simp only[cDstD]at this;cases hb:Nat.blt t N with
    |false=>rw[hb]at this;cases this
    |true=>rw[I.size];exact Nat.le_of_ble_eq_true hb
   rw[vg hd ht];exact hv
  .rcases hD with h|hD
   .exact absurd h e
   .rw[nG (R.t.w.one j oj hoj t hd i o ho (Ne.symm e))];exact(I.new j oj t hoj hd hD).mono hsub
end
end Go.Ex
namespace Go.Ex
open Go
variable{P:Program}{ω:Nat->Value}{N:Nat}{S:List (Nat×Pth)}{ops:Array Oper}{call:Caller}{C:Nat->CO}{σ:Nat->DS}{V:Nat->AVal}{OB:Nat->AObj}
variable{ρ0:Rho}{H0:AH}{a0:Act}{w0:World}
variable{D:Nat->Prop}{ρ:Rho}{s:Nat}{Ĥ:AH}{a:Act}{w:World}
theorem Over.vh{K K':Nat->Prop}{ID:Nat->Pth}{H:AH}(h:∀k,K k↔K' k)(ho:Over K ID OB H Ĥ):Over K' ID OB H Ĥ:=⟨ho.next,λk hk=>ho.at_ k ((h k).2 hk),λid hid=>ho.off id λk hk=>hid k ((h k).1 hk)⟩
theorem nH(R:Reg P ω N S ops call C σ V OB ρ0 H0 a0 w0)(I:Inv P ω N ops C σ V OB ρ0 H0 a0 w0 D ρ s Ĥ a w){i:Nat}{o:Oper}(ho:ops[i]?=some o)(hn:¬D i)(hpre:∀j,j<ops.size->bitAt (Region.before ops) i j=true->D j)(hnm:¬Made ops C σ i){s':Nat}(hs':s'=if kdOf ops i=3 then s+1 else s){HS:AH}(hover:Over (Kp ops C σ D s') (λk=>(σ k).ids) OB HS Ĥ)(hdead:∀k,Kp ops C σ D s' k->HS.m.get .dead (σ k).ids=.dead){ρ':Rho}{v':Value}{w':World}(hst:Step P ρ ω HS w ρ' (HHs σ ops s') w')(hv:VR ρ' ω (V i) v'):∃Ĥ',Inv P ω N ops C σ V OB ρ0 H0 a0 w0 (λj=>j=i\/D j) ρ' s' Ĥ' (a.put o.dst v') w':=by
 have hi:=dc ho;have hown:∀k,Kp ops C σ D s' k->owned (OB k)=true:=λk hk=>Made.owned R.t hk.1
 obtain⟨u1,u2⟩:=Step.under hover hown hdead I.step.hr hst
 have hiff:∀k,Kp ops C σ (λj=>j=i\/D j) s' k↔Kp ops C σ D s' k:=λk=>by
  constructor
  .rintro⟨h1,rfl|h2,h3⟩
   .exact absurd h1 hnm
   .exact⟨h1,h2,h3⟩
  .rintro⟨h1,h2,h3⟩;exact⟨h1,.inr h2,h3⟩
 obtain⟨Ĥ',hĤ'⟩:=Over.uJ (ID:=λk=>(σ k).ids) (OB:=OB) (n:=ops.size) (K:=Kp ops C σ (λj=>j=i\/D j) s') (λk hk=>vf hk) (λk hk k' hk' e=>R.t.j_ hk.1 hk'.1 e) (HHs σ ops s');have hstep:=u2 Ĥ' (hĤ'.vh hiff)
 have hfree:∀k,Made ops C σ k->¬D k->ρ' (σ k).ids=none:=by
  intro k hk hnd;cases hq:ρ' (σ k).ids with
  |none=>rfl
  |some x=>
   have h1:=hst.dom _ _ hq (by
    rw[<-hover.next]
    exact Nat.lt_of_lt_of_le (R.t.gO hk).2 I.nx)
   rw[I.free k hk hnd]at h1;cases h1
 refine⟨Ĥ',I.next R ho hn hpre hs' (λh3=>gR R I hi hn hpre h3) hĤ' ?_ (I.step.trans hstep) hst.sub hstep.next (λk hk _ hnd=>hfree k hk hnd) hv⟩;intro k hk hle;by_cases hD:D k
 .exact u1 k ⟨hk,hD,hle⟩
 .exact mC (hst.hr.ok _) (hfree k hk hD)
theorem nK(R:Reg P ω N S ops call C σ V OB ρ0 H0 a0 w0)(I:Inv P ω N ops C σ V OB ρ0 H0 a0 w0 D ρ s Ĥ a w){i:Nat}(hi:i<ops.size)(hn:¬D i)(hpre:∀j,j<ops.size->bitAt (Region.before ops) i j=true->D j)(h3:kdOf ops i=3):Over (Kp ops C σ D (s+1)) (λk=>(σ k).ids) OB (absorb (σ i).s (σ i).pend (σ i).H) Ĥ/\∀k,Kp ops C σ D (s+1) k->(absorb (σ i).s (σ i).pend (σ i).H).m.get .dead (σ k).ids=.dead:=by
 have hs:=gR R I hi hn hpre h3;have hsi:=R.t.gN (Nat.le_of_lt hi);have hH:=R.t.e_ (Nat.le_of_lt hi);rw[<-hs]at hsi hH;obtain⟨g1,g2⟩:=uM (σ i).s (σ i).pend (σ i).H;have tk:∀k,Made ops C σ k->hiOf ops (Region.before ops) k=s->k<i/\D k:=λk hk he=>by have hb:=R.t.w.takes i k hi hk.1 h3 hk.2.1 (by rw[he,hs]);exact⟨(R.t.w.ahead i k hi hk.1 hb).1,hpre k hk.1 hb⟩
 have inpend:∀p∈(σ i).pend,p.hi=(σ i).s->∃k,Made ops C σ k/\D k/\hiOf ops (Region.before ops) k=s/\p.id=(σ k).ids/\p.obj=OB k:=by intro p hp hhi;obtain⟨k,h1,h2,h4,h5⟩:=(R.t.gP (Nat.le_of_lt hi) p).1 hp;subst h4;simp only at hhi;rw[hsi]at hhi;exact⟨k,h2,(tk k h2 hhi).2,hhi,rfl,rfl⟩
 refine⟨⟨?_,λk hk=>I.over.at_ k ⟨hk.1,hk.2.1,by have:=hk.2.2;omega⟩,λid hid=>?_⟩,λk hk=>?_⟩
 .rw[g1,hH];exact I.over.next
 .rcases g2 id with⟨p,hp,hhi,hpid,hget⟩|⟨hall,hget⟩
  .obtain⟨k,h1,h2,h4,h5,h6⟩:=inpend p hp hhi;rw[hget,h6,<-hpid,h5];exact I.over.at_ k ⟨h1,h2,by omega⟩
  .rw[hget,hH];refine I.over.off id λk hk e=>?_
   rcases Nat.lt_or_ge s (hiOf ops (Region.before ops) k)with hlt|hge
   .exact hid k ⟨hk.1,hk.2.1,hlt⟩ e
   .have he:hiOf ops (Region.before ops) k=s:=Nat.le_antisymm hge hk.2.2;have hlt:=(tk k hk.1 he).1;refine hall ⟨hiOf ops (Region.before ops) k,(σ k).ids,OB k⟩ ((R.t.gP (Nat.le_of_lt hi) _).2 ⟨k,hlt,hk.1,rfl,by rw[he,hs];exact Nat.le_refl _⟩) (by rw[hsi];exact he) e
 .rcases g2 (σ k).ids with⟨p,hp,hhi,hpid,hget⟩|⟨hall,hget⟩
  .obtain⟨k',h1,h2,h4,h5,h6⟩:=inpend p hp hhi;have:k'=k:=R.t.j_ h1 hk.1 (h5.symm.trans hpid);subst this;have:=hk.2.2;omega
  .rw[hget,hH];exact I.dead k hk.1 (by have:=hk.2.2;omega)
theorem vi{op:Op}(h:kindOf op=1):(∃t x,op=.load t x)\/∃t m k ok,op=.lookup t m k ok:=by
 cases op<;>simp only[kindOf]at h<;>first
  |(cases h;done)
  |exact .inl ⟨_,_,rfl⟩
  |exact .inr ⟨_,_,_,_,rfl⟩
  |(split at h<;>first|(cases h;done)|(split at h<;>cases h))
theorem vj(R:Reg P ω N S ops call C σ V OB ρ0 H0 a0 w0)(I:Inv P ω N ops C σ V OB ρ0 H0 a0 w0 D ρ s Ĥ a w){i:Nat}{o:Oper}(ho:ops[i]?=some o)(hn:¬D i)(hpre:∀j,j<ops.size->bitAt (Region.before ops) i j=true->D j){ro:Option Nat}{Q:Exit->Act->World->Prop}{K:Act->World->Prop}(hK:∀ρ' s' Ĥ' a' w',Inv P ω N ops C σ V OB ρ0 H0 a0 w0 (λj=>j=i\/D j) ρ' s' Ĥ' a' w'->K a' w'):wpOpIn (FF ro) 0 P ops Q i K a w:=by
 have hi:=dc ho;unfold wpOpIn;rw[ho];simp only;have henv:=ve R I ho hn hpre;have hg:GlobOk P ρ:=R.glob0.mono I.step.sub;obtain⟨hcg,hcd,hcop⟩:=ke R ho;obtain⟨hgo,hskip⟩:=ng hg henv CtxOk.start hcg;have hkd:(dwOf ops (Region.before ops) i).kind=kdOf ops i:=rfl;have hko:kdOf ops i=kindOf o.op:=by unfold kdOf;rw[ho];rfl
 have hHn:=R.t.e_ (i:=i+1) (by omega);have hund:VR ρ ω undefV undef:=.tup [] [] .nil
 have some_op:∀{x:COp},(C i).op=x->x≠.bad->cOp P N (ownS S ops o) ⟨[],0⟩ o.op=some x:=by
  intro x hx hb;cases hq:cOp P N (ownS S ops o) ⟨[],0⟩ o.op with
  |none=>rw[hq]at hcop;rw[hcop]at hx;exact absurd hx.symm hb
  |some y=>rw[hq]at hcop;rw[hcop]at hx;rw[<-hx];rfl
 have nbad:∀{H v H'},doOp call (C i).op [] (σ i).e H=.ok v H'->(C i).op≠.bad:=by intro H v H' h e;rw[e]at h;cases h
 have below:∀{HS HS':AH} {s':Nat},wants [] (σ i).e (C i).guard=.go->kdOf ops i≠2->(s'=if kdOf ops i=3 then s+1 else s)->Over (Kp ops C σ D s') (λk=>(σ k).ids) OB HS Ĥ->(∀k,Kp ops C σ D s' k->HS.m.get .dead (σ k).ids=.dead)->
  HS'=HHs σ ops s'->doOp call (C i).op [] (σ i).e HS=.ok (V i) HS'->
  if Region.wanted o (yielded ops a.tmps)=true then o.wpIn (FF ro) 0 P a w K Q else(∀f,o.about P w a.eval=some f->(FF ro).fn f)/\K (a.put o.dst undef) w:=by
  intro HS HS' s' hw hk2 hs' hov hde hHS' hdo;rw[if_pos (hgo hw)];refine nf R.hω R.hcall (hov.hr hde I.step.hr) hg henv CtxOk.start (some_op rfl (nbad hdo)) hdo λρ' v' w' hv hst=>?_
  subst hHS';obtain⟨Ĥ',hI⟩:=nH R I ho hn hpre (λhm=>hk2 hm.2.1) hs' hov hde hst hv;exact hK _ _ _ _ _ hI
 have skipped:∀{HS:AH} {s':Nat},wants [] (σ i).e (C i).guard=.skip->(s'=if kdOf ops i=3 then s+1 else s)->Over (Kp ops C σ D s') (λk=>(σ k).ids) OB HS Ĥ->(∀k,Kp ops C σ D s' k->HS.m.get .dead (σ k).ids=.dead)->
  HS=HHs σ ops s'->V i=undefV->
  if Region.wanted o (yielded ops a.tmps)=true then o.wpIn (FF ro) 0 P a w K Q else(∀f,o.about P w a.eval=some f->(FF ro).fn f)/\K (a.put o.dst undef) w:=by
  intro HS s' hw hs' hov hde hHS hV;rw[if_neg (by rw[hskip hw];simp)];refine⟨λ_ _=>trivial,?_⟩;subst hHS;obtain⟨Ĥ',hI⟩:=nH R I ho hn hpre (λhm=>by have:=hm.2.2;rw[hw]at this;cases this) hs' hov hde (.refl (hov.hr hde I.step.hr)) (by rw[hV];exact hund);exact hK _ _ _ _ _ hI
 have plain:∀k,Kp ops C σ D s k->(HHs σ ops s).m.get .dead (σ k).ids=.dead:=λk hk=>I.dead k hk.1 hk.2.2
 have hf:=R.t.fact i hi;generalize hσ:σ (i+1)=σ' at hf;cases hf with
 |skip3 hw hk hv=>rw[hkd]at hk;obtain⟨o1,o2⟩:=nK R I hi hn hpre hk;refine skipped hw (by rw[if_pos hk]) o1 o2 ?_ hv;rw[hσ,da hk,<-gR R I hi hn hpre hk]at hHn;exact hHn
 |skip hw hk hv=>rw[hkd]at hk;exact skipped hw (by rw[if_neg hk]) I.over plain rfl hv
 |pure hw hk hv hb=>rw[hkd]at hk;exact below hw (by omega) (by rw[if_neg (by omega)]) I.over plain rfl (uR hv hb _)
 |read hw hk hv hb=>
  rw[hkd]at hk;obtain⟨p1,p2⟩:=nz R I hi hn hpre (.inl hk);obtain⟨r1,r2⟩:=R.t.u_ hi hk hw p1 p2;refine below hw (by omega) (by rw[if_neg (by omega)]) I.over plain rfl (uS ?_ r2 r1);rw[hko]at hk;have hnb:(C i).op≠.bad:=λe=>by rw[e]at hv;exact hb hv.symm
  have hcs:=some_op rfl hnb;rcases vi hk with⟨t,x,hop⟩|⟨t,m,k,ok,hop⟩
  .rw[hop]at hcs;simp only[cOp,Option.bind_eq_some_iff,Option.map_eq_some_iff]at hcs;obtain⟨ag,_,sz,_,c,_,he⟩:=hcs;exact .inl ⟨ag,sz,c,he.symm⟩
  .rw[hop]at hcs;simp only[cOp]at hcs;split at hcs
   .split at hcs
    .simp only[Option.bind_eq_some_iff,Option.map_eq_some_iff]at hcs;obtain⟨z,_,cm,_,ck,_,he⟩:=hcs;exact .inr ⟨z,ok,cm,ck,he.symm⟩
    .cases hcs
   .cases hcs
 |act hw hk hv=>rw[hkd]at hk;obtain⟨o1,o2⟩:=nK R I hi hn hpre hk;rw[hσ,da hk,<-gR R I hi hn hpre hk]at hHn;exact below hw (by omega) (by rw[if_pos hk]) o1 o2 hHn hv
 |make hw hk hv=>
  rw[hkd]at hk;rw[if_pos (hgo hw)];have hm:Made ops C σ i:=⟨hi,hk,hw⟩;obtain⟨p1,p2⟩:=nz R I hi hn hpre (.inr hk);have hnb:(C i).op≠.bad:=λe=>by rw[e]at hv;cases hv
  have hcs:=some_op rfl hnb;obtain⟨sm,hrun,ob,lim,v',h1,h2⟩:=uH (w:=w) R.hω hg henv CtxOk.start hcs (by rw[<-hko];exact hk) hv;have hfr:=I.free i hm hn;obtain⟨q1,q2,q3⟩:=h2 _ hfr _ _ hv;refine⟨λ_ _=>trivial,?_⟩;have hnd:∀c,o.op≠.defer c:=by intro c h;rw[h]at hcs;simp only[cOp]at hcs;cases hcs
  rw[Oper.semAt_eq _ _ _ hnd,hrun,Sem.run_bind,h1,Result.andThen_ok,Sem.run_pure,Oper.uponIn_value];have idr:=R.t.gO hm;have hst:=I.step.uD hfr (Nat.lt_of_lt_of_le idr.2 I.nx) idr.1 rfl q3;have hne:∀k,Made ops C σ k->k≠i->(σ k).ids≠(σ i).ids:=λk hkm hki e=>hki (R.t.j_ hkm hm e)
  refine hK _ _ _ _ _ (I.next R ho hn hpre (s':=s) (by rw[if_neg (by omega)]) (λh3=>by omega) ?_ I.dead hst (eZ hfr _) (Nat.le_refl _) (λk hkm hki hnk=>?_) q2)
  .refine⟨I.over.next,λk hkk=>?_,λid hid=>?_⟩
   .by_cases e:k=i
    .subst e;exact aJ _ _
    .rw[af (Ne.symm (hne k hkk.1 e))];exact I.over.at_ k ⟨hkk.1,hkk.2.1.resolve_left e,hkk.2.2⟩
   .have:(σ i).ids≠id:=hid i ⟨hm,.inl rfl,p2⟩;rw[af this];exact I.over.off id λk hkk=>hid k ⟨hkk.1,.inr hkk.2.1,hkk.2.2⟩
  .rw[ak _ _ (hne k hkm hki)];exact I.free k hkm hnk
theorem filter_lt{α:Type}{l:List α}{p q:α->Bool}(h:∀x,q x=true->p x=true)(hx:∃x∈l,p x=true/\q x=false):(l.filter q).length<(l.filter p).length:=by
 have le:∀(l:List α),(l.filter q).length<=(l.filter p).length:=by
  intro l
  induction l with
  |nil=>exact Nat.le_refl _
  |cons x l ih=>
   cases hq:q x with
   |true=>rw[List.filter_cons_of_pos hq,List.filter_cons_of_pos (h x hq)];simp only[List.length_cons];omega
   |false=>
    rw[List.filter_cons_of_neg (by rw[hq];simp)];cases hp:p x with
    |true=>rw[List.filter_cons_of_pos hp];simp only[List.length_cons];omega
    |false=>rw[List.filter_cons_of_neg (by rw[hp];simp)];exact ih
 induction l with
 |nil=>obtain⟨x,hx,_⟩:=hx;cases hx
 |cons y l ih=>
  obtain⟨x,hx,h1,h2⟩:=hx;rcases List.mem_cons.1 hx with rfl|hx
  .rw[List.filter_cons_of_neg (by rw[h2];simp),List.filter_cons_of_pos h1];have:=le l;simp only[List.length_cons];omega
  .have:=ih ⟨x,hx,h1,h2⟩;cases hq:q y with
   |true=>rw[List.filter_cons_of_pos hq,List.filter_cons_of_pos (h y hq)];simp only[List.length_cons];omega
   |false=>
    rw[List.filter_cons_of_neg (by rw[hq];simp)];cases hp:p y with
    |true=>rw[List.filter_cons_of_pos hp];simp only[List.length_cons];omega
    |false=>rw[List.filter_cons_of_neg (by rw[hp];simp)];exact this
theorem vk{listed:Array Bool}{i:Nat}(hi:i<listed.size):Din (listed.setIfInBounds i true)=λj=>j=i\/Din listed j:=by
 funext j;refine propext ?_;unfold Din;by_cases h:i=j
 .subst h;simp[Array.getD_eq_getD_getElem?,hi]
 .rw[getD_set_ne false h];constructor
  .exact .inr
  .rintro(rfl|h2)
   .exact absurd rfl h
   .exact h2
theorem kf{listed:Array Bool}{i:Nat}(hi:i<listed.size):listed.getD i true=listed.getD i false:=by simp[Array.getD_eq_getD_getElem?,hi]
theorem vl(R:Reg P ω N S ops call C σ V OB ρ0 H0 a0 w0){ro:Option Nat}{Q:Exit->Act->World->Prop}(hQ:∀{D ρ s Ĥ a w},Inv P ω N ops C σ V OB ρ0 H0 a0 w0 D ρ s Ĥ a w->(∀j,j<ops.size->D j)->Q .normal a w) :
 ∀(fuel:Nat) (listed:Array Bool) {ρ:Rho} {s:Nat} {Ĥ:AH} {a:Act} {w:World},listed.size=ops.size->((List.range ops.size).filter λj=>!(listed.getD j false)).length<=fuel->
  Inv P ω N ops C σ V OB ρ0 H0 a0 w0 (Din listed) ρ s Ĥ a w->wpAnyIn (FF ro) 0 P .any ops Q fuel listed a w:=by
 have all_of:∀{listed:Array Bool},listed.size=ops.size->Region.ready .any ops listed=[]->∀j,j<ops.size->Din listed j:=by
  intro listed hsz hr j
  induction j using Nat.strongRecOn with
  |_ j ih=>
   intro hj;cases hd:listed.getD j false with
   |true=>exact hd
   |false=>
    have:j∈Region.ready .any ops listed:=by rw[mem_ready];obtain⟨o,ho⟩:∃o,ops[j]?=some o:=⟨_,Array.getElem?_eq_getElem hj⟩;refine⟨by rw[kf (by omega)];exact hd,o,ho,λe he hb=>?_⟩;have hlt:=R.t.w.back j o ho e he hb;exact ih e.on hlt (by omega)
    rw[hr]at this;cases this
 have ready_none:∀{listed:Array Bool},listed.size=ops.size->((List.range ops.size).filter λj=>!(listed.getD j false)).length=0->Region.ready .any ops listed=[]:=by
  intro listed hsz h0;cases hr:Region.ready .any ops listed with
  |nil=>rfl
  |cons j r=>
   have hj:j∈Region.ready .any ops listed:=by rw[hr];exact List.mem_cons_self ..
   rw[mem_ready]at hj;obtain⟨h1,o,ho,_⟩:=hj;have hlt:=dc ho;rw[kf (by omega)]at h1;have hm:j∈(List.range ops.size).filter λj=>!(listed.getD j false):=by rw[List.mem_filter];exact⟨List.mem_range.2 hlt,by rw[h1];rfl⟩
   rw[List.length_eq_zero_iff.1 h0]at hm;cases hm
 intro fuel
 induction fuel with
 |zero=>intro listed ρ s Ĥ a w hsz hle hI;have hr:=ready_none hsz (Nat.le_zero.1 hle);exact⟨hr,hQ hI (all_of hsz hr)⟩
 |succ fuel ih=>
  intro listed ρ s Ĥ a w hsz hle hI;refine⟨λhr=>hQ hI (all_of hsz hr),λi hir=>?_⟩;obtain⟨h1,o,ho,h2⟩:=mem_ready.1 hir;have hi:=dc ho;rw[kf (by omega)]at h1;have hn:¬Din listed i:=by unfold Din;rw[h1];simp
  have hpre:∀j,j<ops.size->bitAt (Region.before ops) i j=true->Din listed j:=by
   intro j hj hb;obtain⟨_,o',ho',e,he,hbi,hor⟩:=R.t.w.ahead i j hi hj hb;rw[ho]at ho';cases ho';rcases hor with rfl|hor
   .exact h2 e he hbi
   .have hlt:=R.t.w.back i o ho e he hbi;exact hI.closed e.on j (by omega) hj (h2 e he hbi) hor
  refine vj R hI ho hn hpre λρ' s' Ĥ' a' w' hI'=>?_
  refine ih (listed.setIfInBounds i true) (by simp[hsz]) ?_ (by rw[vk (by omega)];exact hI')
  have:=filter_lt (l:=List.range ops.size) (p:=λj=>!(listed.getD j false)) (q:=λj=>!((listed.setIfInBounds i true).getD j false)) (λx hx=>by
   by_cases e:i=x
   .subst e;simpa using h1
   .rw[getD_set_ne false e]at hx;exact hx) ⟨i,List.mem_range.2 hi,by rw[h1];rfl,by
    have:(listed.setIfInBounds i true).getD i false=true:=by simp[Array.getD_eq_getD_getElem?,show i<listed.size by omega]
    rw[this];rfl⟩
  omega
theorem vm{b:Array Nat}{l:List CO}{k i:Nat}:(zipDw ops b k l)[i]?=(l[i]?).map λc=>(c,dwOf ops b (k+i)):=by
 induction l generalizing k i with
 |nil=>simp[zipDw]
 |cons c l ih=>
  unfold zipDw;cases i with
  |zero=>simp
  |succ i=>simp only[List.getElem?_cons_succ,ih];rw[show k+1+i=k+(i+1) by omega]
theorem vn{os:List Oper}{l:List CO}(h:cOpersD P N S ops os=some l):l.length=os.length/\∀(i:Nat) (o:Oper),os[i]?=some o->∃c:CO,l[i]?=some c/\cOperD P N S ops o=some c:=by
 induction os generalizing l with
 |nil=>simp only[cOpersD,Option.some.injEq]at h;subst h;exact⟨rfl,λi o h=>by cases h⟩
 |cons o os ih=>
  simp only[cOpersD,Option.bind_eq_some_iff,Option.some.injEq]at h;obtain⟨c,h1,r,h2,rfl⟩:=h;obtain⟨h3,h4⟩:=ih h2;refine⟨by simp[h3],λi o' ho'=>?_⟩;cases i with
  |zero=>simp only[List.getElem?_cons_zero,Option.some.injEq]at ho';subst ho';exact⟨c,rfl,h1⟩
  |succ i=>exact h4 i o' (by simpa using ho')
theorem vp(i:Nat):kdOf ops i<=3:=by
 unfold kdOf;cases ops[i]? with
 |none=>exact Nat.zero_le _
 |some o=>
  show kindOf o.op<=3;unfold kindOf
  split<;>first
   |decide
   |(split<;>decide)
theorem gS(hω:∀i,(ω i).oneCell'=true)(hm:P.follows .mixedOrders=true):DrawnOk P ω:=by
 intro call hcall N S id ops l ro base ρ H e a w hS hcomp hst hne;unfold cRegD at hcomp;simp only[Option.bind_eq_some_iff]at hcomp;obtain⟨l0,hl0,h2⟩:=hcomp;cases hd:dwOk ops (Region.before ops)&&dwOk2 ops (Region.before ops)with
 |false=>rw[hd]at h2;cases h2
 |true=>
  rw[hd]at h2;rw[Bool.and_eq_true]at hd;simp only[cond,Option.some.injEq,CC.aC.injEq]at h2;obtain⟨g1,g2⟩:=vn hl0
  have hlen:l.length=ops.size:=by
   have:∀(k:Nat) (l0:List CO),(zipDw ops (Region.before ops) k l0).length=l0.length:=by
    intro k l0
    induction l0 generalizing k with
    |nil=>rfl
    |cons c l0 ih=>simp[zipDw,ih]
   rw[<-h2,this,g1];simp
  have hget:∀i o,ops[i]?=some o->∃c,l[i]?=some (c,dwOf ops (Region.before ops) i)/\cOperD P N S ops o=some c:=by intro i o ho;obtain⟨c,c1,c2⟩:=g2 i o (by simpa using ho);refine⟨c,?_,c2⟩;rw[<-h2,vm,c1];simp
  have hkinds:∀x∈l,x.2.kind<=3:=by
   intro x hx;obtain⟨i,hi⟩:=List.mem_iff_getElem?.1 hx;have hlt:i<ops.size:=by rw[<-hlen];exact(List.getElem?_eq_some_iff.1 hi).1
   obtain⟨o,ho⟩:∃o,ops[i]?=some o:=⟨_,Array.getElem?_eq_getElem hlt⟩;obtain⟨c,hc,_⟩:=hget i o ho;rw[hi]at hc;simp only[Option.some.injEq]at hc;rw[hc];exact vp i
  obtain⟨σ,V,OB,s1,s2,s3,s4⟩:=uL l ⟨e,reserve l H,H.next,0,[],[reserve l H],[]⟩ hkinds hne;have hout:runD call l e (reserve l H) H.next 0 [] [reserve l H] []=.norm (σ l.length).e (absorbAll (σ l.length).pend (σ l.length).H):=s4
  rw[hout];rw[hlen]at s3⊢
  let C:Nat->CO:=λi=>((l[i]?).map Prod.fst).getD default
  have hC:∀i o,ops[i]?=some o->l[i]?=some (C i,dwOf ops (Region.before ops) i)/\cOperD P N S ops o=some (C i):=by
   intro i o ho;obtain⟨c,c1,c2⟩:=hget i o ho;have:C i=c:=by show((l[i]?).map Prod.fst).getD default=c;rw[c1];rfl
   rw[this];exact⟨c1,c2⟩
  have hfilt:(l.filter λx=>Nat.beq x.2.kind 2).length=n2 (kdOf ops) ops.size:=by
   have hmap:l.map (λx=>x.2.kind)=(List.range ops.size).map (kdOf ops):=by
    apply List.ext_getElem?;intro i;by_cases hi:i<ops.size
    .obtain⟨o,ho⟩:∃o,ops[i]?=some o:=⟨_,Array.getElem?_eq_getElem hi⟩;rw[List.getElem?_map,(hC i o ho).1,List.getElem?_map,List.getElem?_range hi];rfl
    .rw[List.getElem?_eq_none (by simp;omega),List.getElem?_eq_none (by simp;omega)]
   have h3:=congrArg (λq=>(q.filter λk=>Nat.beq k 2).length) hmap;simp only[List.filter_map,List.length_map]at h3;exact h3
  have t:Tr ops call C σ V OB H:={
   w:=uT hd.1 hd.2
   fact:=λi hi=>by obtain⟨o,ho⟩:∃o,ops[i]?=some o:=⟨_,Array.getElem?_eq_getElem hi⟩;exact s2 i _ _ (hC i o ho).1
   s0:=by rw[s1]
   pend0:=by rw[s1]
   hs0:=by rw[s1]
   ids0:=by rw[s1]
   next0:=by rw[s1];simp only;rw[uW,hfilt]
   m0:=by rw[s1];exact uV l H
   chk:=s3}
  have R:Reg P ω N S ops call C σ V OB ρ H a w:=⟨hω,hcall,hS,t,λi o ho=>(hC i o ho).2,by rw[s1];exact hst.env,hst.glob,hst.size,hst.hr⟩;refine wpIn_region_any hm ?_;have hH0:(σ 0).H=HHs σ ops 0:=t.e_ (Nat.zero_le _);have hgm:∀q,(σ 0).H.m.get .dead q=H.m.get .dead q:=λq=>by rw[t.m0]
  have hnle:H.next.toNat<=(σ 0).H.next.toNat:=by rw[t.next0];omega
  have hnoD:∀j,¬Din (Array.replicate ops.size false) j:=by
   intro j h;unfold Din at h;rw[Array.getD_eq_getD_getElem?]at h;cases hq:(Array.replicate ops.size false)[j]? with
   |none=>rw[hq]at h;cases h
   |some x=>
    rw[hq]at h;have:=Array.getElem?_replicate (n:=ops.size) (v:=false) (i:=j);rw[this]at hq;split at hq
    .cases hq;cases h
    .cases hq
  have hbig:∀k,H.next.toNat<=(σ k).ids.toNat->H.m.get .dead (σ k).ids=.dead/\ρ (σ k).ids=none:=by
   intro k hk
   have hnone:ρ (σ k).ids=none:=by
    cases hq:ρ (σ k).ids with
    |none=>rfl
    |some x=>have:=hst.hr.fresh _ _ hq;omega
   exact⟨mC (hst.hr.ok _) hnone,hnone⟩
  have hI:Inv P ω N ops C σ V OB ρ H a w (Din (Array.replicate ops.size false)) ρ 0 (σ 0).H a {w with drawn:=w.drawn+1}:={
   top:=Nat.zero_le _
   chain:=λj _ _=>⟨λh=>absurd h (hnoD j),λh=>absurd h (Nat.not_lt_zero _)⟩
   closed:=λi j _ _ h=>absurd h (hnoD i)
   over:=⟨by rw[hH0],λk hk=>absurd hk.2.1 (hnoD k),λid _=>by rw[hH0]⟩
   dead:=λk hk _=>by rw[<-hH0,hgm];exact(hbig k (t.gO hk).1).1
   step:={
    sub:=.refl _
    hr:=⟨λq=>by rw[hgm];exact hst.hr.drew.ok q,λa b ia ib h1 h2=>by rw[hgm]at h1 h2;exact hst.hr.inj a b ia ib h1 h2,λq i h=>Nat.lt_of_lt_of_le (hst.hr.fresh q i h) hnle,λb c h=>⟨(hst.hr.num b c h).1,λq i h1 h2=>by rw[hgm]at h1;exact(hst.hr.num b c h).2 q i h1 h2⟩⟩
    idle:=λq _ h=>by rw[hgm];exact h
    nums:=λ_ _ h=>.inl h
    os:=rfl
    tape:=rfl
    output:=rfl
    size:=Nat.le_refl _
    keep:=λ_ _ _=>rfl
    al:=λb _ ⟨q,i,h1,h2,h3⟩=>⟨q,i,by rw[<-hgm];exact h1,h2,h3⟩
    imgo:=λb _ ⟨q,i,h1,h2,h3⟩=>⟨q,i,by rw[<-hgm];exact h1,h2,h3⟩
    next:=hnle
    dom:=λ_ _ h _=>h}
   nx:=Nat.le_refl _
   free:=λk hk _=>(hbig k (t.gO hk).1).2
   size:=hst.size
   defers:=rfl
   old:=λ_ _=>rfl
   new:=λj _ _ _ _ h=>absurd h (hnoD j)}
  refine vl R ?_ ops.size (Array.replicate ops.size false) (by simp) (by
   refine Nat.le_trans (List.length_filter_le ..) ?_
   simp) hI
  intro D ρ' s Ĥ a' w' I hall
  have hs:s=chN (kdOf ops) ops.size:=by
   rcases Nat.lt_or_ge s (chN (kdOf ops) ops.size)with hlt|hge
   .obtain⟨j,hj,hj3,hjc⟩:=dB hlt;have:=(I.chain j hj hj3).1 (hall j hj);omega
   .exact Nat.le_antisymm I.top hge
  have hHn:=t.e_ (Nat.le_refl ops.size);rw[<-hs]at hHn;obtain⟨n1,n2'⟩:=uN (σ ops.size).pend (σ ops.size).H
  have hstep:Step P ρ ω H w ρ' (absorbAll (σ ops.size).pend (σ ops.size).H) w':=by
   refine I.step.congr ?_ λq=>?_
   .rw[n1,hHn];exact I.over.next.symm
   .rcases n2' q with⟨p,hp,hpid,hget⟩|⟨hno,hget⟩
    .obtain⟨k,k1,k2,rfl,k4⟩:=(t.gP (Nat.le_refl _) p).1 hp;rw[hget,<-hpid];exact(I.over.at_ k ⟨k2,hall k k1,by rw[hs];exact k4⟩).symm
    .rw[hget,hHn];refine(I.over.off q λk hk e=>?_).symm;exact hno ⟨hiOf ops (Region.before ops) k,(σ k).ids,OB k⟩ ((t.gP (Nat.le_refl _) _).2 ⟨k,hk.1.1,hk.1,rfl,by rw[<-hs];exact hk.2.2⟩) e
  refine Post.norm hstep ⟨?_,I.size,hstep.hr,hst.glob.mono hstep.sub,by rw[I.defers];exact hst.defs.step hstep,Nat.le_trans hst.base hstep.size⟩;intro tt p hp;obtain⟨e1,e2⟩:=nw R hp (Nat.le_refl _);by_cases hw:∃(j:Nat) (oj:Oper),ops[j]?=some oj/\oj.dst=some tt
  .obtain⟨j,oj,hoj,hdj⟩:=hw;have hj:=dc hoj;rw[e1 j oj hj hoj hdj];exact I.new j oj tt hoj hdj (hall j hj)
  .rw[e2 λj oj _ h1 h2=>hw ⟨j,oj,h1,h2⟩,I.old tt λj oj h1 h2=>absurd ⟨j,oj,h1,h2⟩ hw,s1];exact(hst.env tt p hp).mono hstep.sub
theorem kg{T:T8 CFn}(hω:∀i,(ω i).oneCell'=true)(hm:P.follows .mixedOrders=true)(hT:TabOk P ω T){n f:Nat}{args:List AVal}{vals:List Value}{H:AH}{v:AVal}{H':AH}{ρ:Rho}{w:World}(h:callF T n (key f) args H=.ok v H')(hr:HR P ρ ω H w)(hg:GlobOk P ρ)(hv:All2 (VR ρ ω) args vals):CallsIn Fence.wide 0 P f vals.toArray w λ|.returned v',w'=>(∃ρ',VR ρ' ω v v'/\Step P ρ ω H w ρ' H' w')|_,_=>False:=by
 have hc:CallerOk P ω (caller T (exec T n)):=ed hT (gK hω hT (gS hω hm) n) (ee n);have:=hc h hr hg (.fnv f [] [] .nil) hv;cases this with
 |fn f caps fn hf hn hb h=>rw[List.append_nil]at h;exact h.mono λe w' he=>by cases e<;>exact he
#print axioms kg
end Go.Ex
namespace Go.Ex
open Go
variable{P:Program}{ρ ρ':Rho}{ω:Nat->Value}{H:AH}{w w':World}
theorem nM{l r:List AVal}(h:eqVs l r=true):l=r:=by
 induction l generalizing r with
 |nil=>cases r with
  |nil=>rfl
  |cons _ _=>cases h
 |cons a l ih=>cases r with
  |nil=>cases h
  |cons b r=>unfold eqVs at h;rw[Bool.and_eq_true]at h;rw[eR h.1,ih h.2]
theorem vq{x y:AVal}(h:eqR x y=true):x=y:=by
 unfold eqR at h;split at h
 .rw[nM h]
 .exact eR h
theorem gT(l:List (List AVal)):lenR l=l.length:=by
 induction l with
 |nil=>rfl
 |cons a l ih=>simp only[lenR,ih,List.length_cons]
theorem vr{d:List AVal}{els:T8 (List AVal)}{l:List (List AVal)}:∀{j:Nat},rowsEq d els j l=true->∀k r,l[k]?=some r->elem (j+k) d els=r:=by
 induction l with
 |nil=>intro j _ k r h;cases h
 |cons a l ih=>
  intro j h k r hk;unfold rowsEq at h;rw[Bool.and_eq_true]at h;cases k with
  |zero=>simp only[List.getElem?_cons_zero,Option.some.injEq]at hk;rw[<-hk];exact eQ h.1
  |succ k=>have:=ih h.2 k r (by simpa using hk);rw[<-this];congr 1;omega
theorem nN{l:List (List AVal)}:∀{j:Nat} {t:T8 (List AVal)} (m:Nat),(tree0 j l t).get [] (key m)=if j<=m/\m<j+l.length then(l[m-j]?).getD []else t.get [] (key m):=by
 induction l with
 |nil=>intro j t m;simp only[tree0,List.length_nil];rw[if_neg (by omega)]
 |cons r l ih=>
  intro j t m;simp only[tree0];rw[ih];by_cases h:Nat.succ j<=m/\m<Nat.succ j+l.length
  .rw[if_pos h,if_pos (by simp only[List.length_cons];omega),show m-j=(m-Nat.succ j)+1 by omega,List.getElem?_cons_succ]
  .rw[if_neg h];by_cases hm:m=j
   .subst hm;rw[aL,if_pos (by simp),Nat.sub_self];rfl
   .rw[aG _ _ (λe=>hm (key_inj e).symm),if_neg (by simp only[List.length_cons];omega)]
theorem kh{θ:List (Pth×Pth)}{l:List (List AVal)}:∀{j:Nat} {t:T8 (List AVal)} (m:Nat),(treeRows θ j l t).get [] (key m)=if j<=m/\m<j+l.length then ren1s θ ((l[m-j]?).getD [])else t.get [] (key m):=by
 induction l with
 |nil=>intro j t m;simp only[treeRows,List.length_nil];rw[if_neg (by omega)]
 |cons r l ih=>
  intro j t m;simp only[treeRows];rw[ih];by_cases h:Nat.succ j<=m/\m<Nat.succ j+l.length
  .rw[if_pos h,if_pos (by simp only[List.length_cons];omega),show m-j=(m-Nat.succ j)+1 by omega,List.getElem?_cons_succ]
  .rw[if_neg h];by_cases hm:m=j
   .subst hm;rw[aL,if_pos (by simp),Nat.sub_self];rfl
   .rw[aG _ _ (λe=>hm (key_inj e).symm),if_neg (by simp only[List.length_cons];omega)]
theorem fa(c:List AVal):orElse [] c=c:=by cases c<;>rfl
structure Sim(P:Program)(ω:Nat->Value)(o o':AObj):Prop where
 ok:∀{ρ:Rho} {w:World} {id:Pth},ObjOk P ρ ω w id o->ObjOk P ρ ω w id o'
 owned:owned o'=owned o
 live:live o'=live o
 dead:o=.dead↔o'=.dead
theorem Sim.refl(o:AObj):Sim P ω o o:=⟨λh=>h,rfl,rfl,Iff.rfl⟩
theorem vt{l r:List (AVal×AVal)}(h:pairsEq l r=true):l=r:=by
 induction l generalizing r with
 |nil=>cases r with
  |nil=>rfl
  |cons _ _=>cases h
 |cons a l ih=>cases r with
  |nil=>cases h
  |cons b r=>obtain⟨a1,a2⟩:=a;obtain⟨b1,b2⟩:=b;unfold pairsEq at h;simp only[Bool.and_eq_true]at h;rw[eP h.1.1,eP h.1.2,ih h.2]
theorem gU{H:AH}{l:List (Pth×TObj)}(h:hasObjs H l=true):∀x∈l,tobjEq (H.m.get .dead x.1) x.2=true:=by
 induction l with
 |nil=>intro x hx;cases hx
 |cons y l ih=>
  obtain⟨c,t⟩:=y;unfold hasObjs at h;rw[Bool.and_eq_true]at h;intro x hx;rcases List.mem_cons.1 hx with rfl|hx
  .exact h.1
  .exact ih h.2 x hx
theorem vu(l:List (Pth×TObj))(m:T8 AObj)(id:Pth):(∃t,(id,t)∈l/\(putObjs l m).get .dead id=obj0 t)\/((∀t,(id,t)∉l)/\(putObjs l m).get .dead id=m.get .dead id):=by
 induction l generalizing m with
 |nil=>exact .inr ⟨λ_ h=>(by cases h),rfl⟩
 |cons y l ih=>
  obtain⟨c,t⟩:=y;simp only[putObjs];rcases ih (m.put .dead (obj0 t) c)with⟨t',h1,h2⟩|⟨h1,h2⟩
  .exact .inl ⟨t',List.mem_cons_of_mem _ h1,h2⟩
  .by_cases e:c=id
   .subst e;exact .inl ⟨t,List.mem_cons_self ..,h2.trans (aL _ _ _ _)⟩
   .refine .inr ⟨λt' h=>?_,h2.trans (aG _ _ e _)⟩;rcases List.mem_cons.1 h with h|h
    .simp only[Prod.mk.injEq]at h;exact e h.1.symm
    .exact h1 t' h
theorem vv(p:Pth)(l:List (Pth×Nat×Nat×List AVal)):(roHeap p l).next=p:=by
 induction l with
 |nil=>rfl
 |cons x l ih=>obtain⟨k,e,n,d⟩:=x;exact ih
theorem fb(p:Pth)(l:List (Pth×Nat×Nat×List AVal))(id:Pth):(∃e n d,(id,e,n,d)∈l/\(roHeap p l).m.get .dead id=.ro e n d .nil)\/(roHeap p l).m.get .dead id=.dead:=by
 induction l with
 |nil=>exact .inr (get_nil _ _)
 |cons x l ih=>
  obtain⟨k,e,n,d⟩:=x;simp only[roHeap];by_cases h:k=id
  .subst h;rw[aJ];exact .inl ⟨e,n,d,List.mem_cons_self ..,rfl⟩
  .rw[af h];rcases ih with⟨e',n',d',h1,h2⟩|h1
   .exact .inl ⟨e',n',d',List.mem_cons_of_mem _ h1,h2⟩
   .exact .inr h1
theorem ki{H:AH}{l:List (Pth×Nat×Nat×List AVal)}(h:hasRo H l=true):∀k e n d,(k,e,n,d)∈l->H.m.get .dead k=.ro e n d .nil:=by
 induction l with
 |nil=>intro k e n d hx;cases hx
 |cons y l ih=>
  obtain⟨k0,e0,n0,d0⟩:=y;unfold hasRo at h;rw[Bool.and_eq_true]at h;intro k e n d hx;rcases List.mem_cons.1 hx with hx|hx
  .simp only[Prod.mk.injEq]at hx;obtain⟨rfl,rfl,rfl,rfl⟩:=hx;have h1:=h.1;split at h1
   .rename_i e' n' d' hq;simp only[Bool.and_eq_true]at h1;rw[hq,an.1 h1.1,an.1 h1.2.1,eQ h1.2.2]
   .cases h1
  .exact ih h.2 k e n d hx
structure Below(P:Program)(ω:Nat->Value)(H Hp:AH):Prop where
 next:Hp.next=H.next
 sim:∀id,Hp.m.get .dead id=.dead\/Sim P ω (H.m.get .dead id) (Hp.m.get .dead id)
theorem HR.below{Hp:AH}(hr:HR P ρ ω H w)(hb:Below P ω H Hp):HR P ρ ω Hp w where
 ok:=λid=>by
  rcases hb.sim id with h|h
  .rw[h];trivial
  .exact h.ok (hr.ok id)
 inj:=λa b ia ib ha hb' hab h1 h2=>by
  have ha':owned (H.m.get .dead a)=true:=by
   rcases hb.sim a with h|h
   .rw[h]at ha;cases ha
   .rw[<-h.owned];exact ha
  have hb'':live (H.m.get .dead b)=true:=by
   rcases hb.sim b with h|h
   .rw[h]at hb';cases hb'
   .rw[<-h.live];exact hb'
  exact hr.inj a b ia ib ha' hb'' hab h1 h2
 fresh:=λid i h=>by rw[hb.next];exact hr.fresh id i h
 num:=λb c h=>⟨(hr.num b c h).1,λa ia hoa ha=>(hr.num b c h).2 a ia (by
  rcases hb.sim a with h|h
  .rw[h]at hoa;cases hoa
  .rw[<-h.owned];exact hoa) ha⟩
theorem Step.frame{Hp H1 H':AH}(hr:HR P ρ ω H w)(hb:Below P ω H Hp)(hs:Step P ρ ω Hp w ρ' H1 w')(hn:H'.next=H1.next)(hg:∀id,Sim P ω (H1.m.get .dead id) (H'.m.get .dead id)\/(H'.m.get .dead id=H.m.get .dead id/\owned (Hp.m.get .dead id)=false)):Step P ρ ω H w ρ' H' w':=by
 have upO:∀id,owned (Hp.m.get .dead id)=true->owned (H.m.get .dead id)=true:=λid h=>by
  rcases hb.sim id with h1|h1
  .rw[h1]at h;cases h
  .rw[<-h1.owned];exact h
 have upL:∀id,live (Hp.m.get .dead id)=true->live (H.m.get .dead id)=true:=λid h=>by
  rcases hb.sim id with h1|h1
  .rw[h1]at h;cases h
  .rw[<-h1.live];exact h
 have rest:∀id,live (H.m.get .dead id)=true->owned (Hp.m.get .dead id)=false->∀i,ρ id=some i->¬ImgO ρ Hp i.blk:=by
  rintro id hl ho i hi ⟨q,j,h1,h2,h3⟩;have hne:q≠id:=λe=>by subst e;rw[ho]at h1;cases h1
  exact hr.inj q id j i (upO q h1) hl hne h2 hi h3
 have at_:∀id,live (H.m.get .dead id)=true->∃i,ρ id=some i/\ρ' id=some i/\i.blk<w.heap.size:=λid hl=>by obtain⟨i,h1,h2⟩:=(hr.ok id).lt hl;exact⟨i,h1,hs.sub _ _ h1,h2⟩
 exact {
  sub:=hs.sub
  hr:={
   ok:=λid=>by
    rcases hg id with h|⟨h,ho⟩
    .exact h.ok (hs.hr.ok id)
    .rw[h];by_cases hl:live (H.m.get .dead id)=true
     .obtain⟨i,h1,h2,h3⟩:=at_ id hl;refine ObjOk.mono hs.sub (λj hj=>?_) (hr.ok id);rw[h1]at hj;cases hj;exact hs.keep _ h3 (rest id hl ho i h1)
     .exact(hr.ok id).idle hl hs.sub
   inj:=λa b ia ib hoa hlb hab ha hb' e=>by
    rcases hg a with h1|⟨h1,o1⟩
    .rw[h1.owned]at hoa;rcases hg b with h2|⟨h2,o2⟩
     .rw[h2.live]at hlb;exact hs.hr.inj a b ia ib hoa hlb hab ha hb' e
     .rw[h2]at hlb;obtain⟨i,g1,g2,g3⟩:=at_ b hlb;rw[g2]at hb';cases hb';exact rest b hlb o2 ib g1 (hs.imgo _ g3 ⟨a,ia,hoa,ha,e⟩)
    .rw[h1]at hoa;obtain⟨i,g1,g2,g3⟩:=at_ a (aj hoa);rw[g2]at ha;cases ha;rcases hg b with h2|⟨h2,o2⟩
     .rw[h2.live]at hlb;obtain⟨q,j,q1,q2,q3⟩:=hs.al _ g3 ⟨b,ib,hlb,hb',e.symm⟩
      have hne:a≠q:=λe=>by
       subst e;rcases hb.sim a with h|h
       .rw[h]at q1;cases q1
       .rw[h.owned,hoa]at o1;cases o1
      exact hr.inj a q ia j hoa (upL q q1) hne g1 q2 q3.symm
     .rw[h2]at hlb;obtain⟨j,k1,k2,k3⟩:=at_ b hlb;rw[k2]at hb';cases hb';exact hr.inj a b ia ib hoa hlb hab g1 k1 e
   fresh:=λid i h=>by rw[hn];exact hs.hr.fresh id i h
   num:=λb c h=>⟨(hs.hr.num b c h).1,λa ia hoa ha e=>by
    rcases hg a with h1|⟨h1,o1⟩
    .rw[h1.owned]at hoa;exact(hs.hr.num b c h).2 a ia hoa ha e
    .rw[h1]at hoa;obtain⟨i,g1,g2,g3⟩:=at_ a (aj hoa);rw[g2]at ha;cases ha;rcases hs.nums b c h with h2|h2|h2
     .exact(hr.num b c h2).2 a ia hoa g1 e
     .omega
     .exact rest a (aj hoa) o1 ia g1 (e▸h2)⟩}
  idle:=λq hl h=>by
   have hp:Hp.m.get .dead q=.dead:=by
    rcases hb.sim q with h1|h1
    .exact h1
    .exact h1.dead.1 h
   have h1:=hs.idle q (by rw[hb.next];exact hl) hp;rcases hg q with h2|⟨h2,_⟩
   .exact h2.dead.1 h1
   .rw[h2];exact h
  nums:=λb c h=>(hs.nums b c h).imp_right λh=>h.imp_right λ⟨q,i,h1,h2,h3⟩=>⟨q,i,upO q h1,h2,h3⟩
  os:=hs.os
  tape:=hs.tape
  output:=hs.output
  size:=hs.size
  keep:=λb hb' hni=>hs.keep b hb' λ⟨id,i,h1,h2,h3⟩=>hni ⟨id,i,upO id h1,h2,h3⟩
  al:=λb hb' ⟨id,i,h1,h2,h3⟩=>by
   rcases hg id with h|⟨h,_⟩
   .rw[h.live]at h1;obtain⟨q,j,q1,q2,q3⟩:=hs.al b hb' ⟨id,i,h1,h2,h3⟩;exact⟨q,j,upL q q1,q2,q3⟩
   .rw[h]at h1;obtain⟨j,k1,k2,k3⟩:=at_ id h1;rw[k2]at h2;cases h2;exact⟨id,i,h1,k1,h3⟩
  imgo:=λb hb' ⟨id,i,h1,h2,h3⟩=>by
   rcases hg id with h|⟨h,_⟩
   .rw[h.owned]at h1;obtain⟨q,j,q1,q2,q3⟩:=hs.imgo b hb' ⟨id,i,h1,h2,h3⟩;exact⟨q,j,upO q q1,q2,q3⟩
   .rw[h]at h1;obtain⟨j,k1,k2,k3⟩:=at_ id (aj h1);rw[k2]at h2;cases h2;exact⟨id,i,h1,k1,h3⟩
  next:=by rw[hn,<-hb.next];exact hs.next
  dom:=λid i h hl=>hs.dom id i h (by rw[hb.next];exact hl)}
theorem vw{o:Orc}{r:R}(h:isRes o r=true):∃H1,r=.ok o.v H1/\hasObjs H1 o.objs=true/\∀p pre p',o.ex=some (p,pre,p')->H1.next=p':=by
 cases r with
 |no=>cases h
 |ok v H1=>simp only[isRes,Bool.and_eq_true]at h;obtain⟨h1,h2,h3⟩:=h;rw[vq h1];refine⟨H1,rfl,h2,λp pre p' he=>?_⟩;rw[he]at h3;exact aD.1 h3
theorem vx{o:Orc}(hnat:o.nat=none){args:List AVal}{H:AH}{v:AVal}{H':AH}(h:orc1 o args H=.ok v H'):fits o args H=true/\give o H=.ok v H':=by
 unfold orc1 at h;rw[hnat]at h;cases hf:fits o args H with
 |true=>simp only[hf,cond]at h;exact⟨rfl,h⟩
 |false=>simp only[hf,cond]at h;cases h
end Go.Ex
namespace Go.Ex
open Go
variable{P:Program}{ρ ρ' ρ1:Rho}{ω:Nat->Value}{H:AH}{w w':World}
def flat1:AVal->Bool
 |.int _ _=>true
 |.bool _=>true
 |_=>false
def flat2:AVal->Bool
 |.agg l=>l.all flat1
 |v=>flat1 v
theorem VR.flat1{x:AVal}{v:Value}(h:VR ρ ω x v)(hf:flat1 x=true):VR ρ' ω x v:=by cases h<;>first|(cases hf;done)|exact .int _ _|exact .bool _
theorem VRs.flat1{l:List AVal}{vs:List Value}(h:All2 (VR ρ ω) l vs)(hf:l.all Ex.flat1=true):All2 (VR ρ' ω) l vs:=by
 induction h with
 |nil=>exact .nil
 |cons h t ih=>simp only[List.all_cons,Bool.and_eq_true]at hf;exact .cons (h.flat1 hf.1) (ih hf.2)
theorem VR.flat2{x:AVal}{v:Value}(h:VR ρ ω x v)(hf:flat2 x=true):VR ρ' ω x v:=by
 cases h with
 |agg l vs h hc=>exact .agg l vs (VRs.flat1 h hf) hc
 |int k n=>exact .int k n
 |bool b=>exact .bool b
 |_=>cases hf
theorem VRs.flat2{l:List AVal}{vs:List Value}(h:All2 (VR ρ ω) l vs)(hf:l.all Ex.flat2=true):All2 (VR ρ' ω) l vs:=by
 induction h with
 |nil=>exact .nil
 |cons h t ih=>simp only[List.all_cons,Bool.and_eq_true]at hf;exact .cons (h.flat2 hf.1) (ih hf.2)
structure Nam(θ:List (Pth×Pth))(ρ1 ρ':Rho):Prop where
 get:∀c a,lk θ c=some a->ρ' a=ρ1 c
 num:∀b c,ρ1.num b=some c->ρ'.num b=some c
instance{θ:List (Pth×Pth)}{ρ1 ρ':Rho}:CoeFun (Nam θ ρ1 ρ') (λ_=>∀c a,lk θ c=some a->ρ' a=ρ1 c):=⟨Nam.get⟩
theorem VR.ren1{θ:List (Pth×Pth)}(hθ:Nam θ ρ1 ρ'){x:AVal}{v:Value}(h:VR ρ1 ω x v):VR ρ' ω (ren1 θ x) v:=by
 cases h with
 |bad v=>exact .bad v
 |pnil=>exact .pnil
 |se a c=>exact .se a c
 |snil=>exact .snil
 |fnil=>exact .fnil
 |mnil=>exact .mnil
 |opq i=>exact .bad _
 |mag n b o len cap c h hm=>exact .mag n b o len cap c (hθ.num _ _ h) hm
 |mptr n k b o len cap c h hm hk=>exact .mptr n k b o len cap c (hθ.num _ _ h) hm hk
 |yld l i hi=>exact .bad _
 |str s=>exact .str s
 |map id i hi=>
  simp only[Ex.ren1];cases hl:lk θ id with
  |none=>exact .bad _
  |some a=>exact .map a i (by rw[hθ id a hl];exact hi)
 |fnv f caps cs hcs=>
  cases hcs with
  |nil=>exact .fnv f [] [] .nil
  |cons _ _=>exact .bad _
 |tup l vs h=>exact .bad _
 |agg l vs h hc=>exact .bad _
 |sg id off len esz cap i hi hl hr=>
  simp only[Ex.ren1];cases hk:lk θ id with
  |none=>exact .bad _
  |some a=>exact .sg a off len esz cap i (by rw[hθ id a hk];exact hi) hl hr
 |sl id off len cap i hi=>
  simp only[Ex.ren1];cases hk:lk θ id with
  |none=>exact .bad _
  |some a=>exact .sl a off len cap i (by rw[hθ id a hk];exact hi)
 |ptr id off i hi=>
  simp only[Ex.ren1];cases hk:lk θ id with
  |none=>exact .bad _
  |some a=>exact .ptr a off i (by rw[hθ id a hk];exact hi)
 |bool b=>exact .bool b
 |int k n=>exact .int k n
theorem VRs.ren1{θ:List (Pth×Pth)}(hθ:Nam θ ρ1 ρ'){l:List AVal}{vs:List Value}(h:All2 (VR ρ1 ω) l vs):All2 (VR ρ' ω) (ren1s θ l) vs:=by
 induction h with
 |nil=>exact .nil
 |cons h t ih=>exact .cons (h.ren1 hθ) ih
theorem VR.ren2{θ:List (Pth×Pth)}(hθ:Nam θ ρ1 ρ'){x:AVal}{v:Value}(h:VR ρ1 ω x v):VR ρ' ω (ren2 θ x) v:=by
 cases h with
 |agg l vs h hc=>exact .agg _ vs (VRs.ren1 hθ h) hc
 |bad v=>exact VR.ren1 hθ (.bad v)
 |pnil=>exact VR.ren1 hθ .pnil
 |se a c=>exact VR.ren1 hθ (.se a c)
 |snil=>exact VR.ren1 hθ .snil
 |fnil=>exact VR.ren1 hθ .fnil
 |mnil=>exact VR.ren1 hθ .mnil
 |opq i=>exact VR.ren1 hθ (.opq i)
 |mag n b o len cap c h hm=>exact VR.ren1 hθ (.mag n b o len cap c h hm)
 |mptr n k b o len cap c h hm hk=>exact VR.ren1 hθ (.mptr n k b o len cap c h hm hk)
 |yld l i hi=>exact VR.ren1 hθ (.yld l i hi)
 |str s=>exact VR.ren1 hθ (.str s)
 |map id i hi=>exact VR.ren1 hθ (.map id i hi)
 |fnv f caps cs hcs=>exact VR.ren1 hθ (.fnv f caps cs hcs)
 |tup l vs h=>exact VR.ren1 hθ (.tup l vs h)
 |sg id off len esz cap i hi hl hr=>exact VR.ren1 hθ (.sg id off len esz cap i hi hl hr)
 |sl id off len cap i hi=>exact VR.ren1 hθ (.sl id off len cap i hi)
 |ptr id off i hi=>exact VR.ren1 hθ (.ptr id off i hi)
 |bool b=>exact VR.ren1 hθ (.bool b)
 |int k n=>exact VR.ren1 hθ (.int k n)
theorem VRs.ren2{θ:List (Pth×Pth)}(hθ:Nam θ ρ1 ρ'){l:List AVal}{vs:List Value}(h:All2 (VR ρ1 ω) l vs):All2 (VR ρ' ω) (ren2s θ l) vs:=by
 induction h with
 |nil=>exact .nil
 |cons h t ih=>exact .cons (h.ren2 hθ) ih
theorem VR.ren3{θ:List (Pth×Pth)}(hθ:Nam θ ρ1 ρ'){x:AVal}{v:Value}(h:VR ρ1 ω x v):VR ρ' ω (ren3 θ x) v:=by
 cases h with
 |tup l vs h=>exact .tup _ vs (VRs.ren2 hθ h)
 |agg l vs h hc=>exact VR.ren2 hθ (.agg l vs h hc)
 |bad v=>exact VR.ren2 hθ (.bad v)
 |pnil=>exact VR.ren2 hθ .pnil
 |se a c=>exact VR.ren2 hθ (.se a c)
 |snil=>exact VR.ren2 hθ .snil
 |fnil=>exact VR.ren2 hθ .fnil
 |mnil=>exact VR.ren2 hθ .mnil
 |opq i=>exact VR.ren2 hθ (.opq i)
 |mag n b o len cap c h hm=>exact VR.ren2 hθ (.mag n b o len cap c h hm)
 |mptr n k b o len cap c h hm hk=>exact VR.ren2 hθ (.mptr n k b o len cap c h hm hk)
 |yld l i hi=>exact VR.ren2 hθ (.yld l i hi)
 |str s=>exact VR.ren2 hθ (.str s)
 |map id i hi=>exact VR.ren2 hθ (.map id i hi)
 |fnv f caps cs hcs=>exact VR.ren2 hθ (.fnv f caps cs hcs)
 |sg id off len esz cap i hi hl hr=>exact VR.ren2 hθ (.sg id off len esz cap i hi hl hr)
 |sl id off len cap i hi=>exact VR.ren2 hθ (.sl id off len cap i hi)
 |ptr id off i hi=>exact VR.ren2 hθ (.ptr id off i hi)
 |bool b=>exact VR.ren2 hθ (.bool b)
 |int k n=>exact VR.ren2 hθ (.int k n)
theorem nO{θ:List (Pth×Pth)}(hθ:Nam θ ρ1 ρ'){c a:Pth}(hc:ρ' a=ρ1 c){o:AObj}{t:TObj}(ht:tobjEq o t=true)(h:ObjOk P ρ1 ω w c o):ObjOk P ρ' ω w a (instO θ t)/\owned (instO θ t)=true:=by
 cases o with
 |arr esz n d els=>
  cases t with
  |mp es=>cases ht
  |arr esz' rows=>
   simp only[tobjEq,Bool.and_eq_true]at ht;obtain⟨h1,h2,h3⟩:=ht;have e1:=an.1 h1;have e2:=an.1 h2;subst e1;obtain⟨i,cc,T,g1,g2,g3⟩:=h;refine⟨⟨i,cc,T,by rw[hc];exact g1,g2,?_,g3.size,?_⟩,rfl⟩
   .have:=g3.lim;rw[e2]at this;exact this
   .intro j hj;obtain⟨vs,k1,k2⟩:=g3.els j (by omega);refine⟨vs,?_,k2⟩;have hjl:j<rows.length:=by rw[<-gT];exact hj
    have hr:rows[j]?=some rows[j]:=List.getElem?_eq_getElem hjl;have he:=vr h3 j _ hr;rw[Nat.zero_add]at he;have h0:elem j [] (treeRows θ 0 rows .nil)=ren1s θ rows[j]:=by unfold elem;rw[fa,kh,if_pos (by omega),Nat.sub_zero,hr];rfl
    rw[h0,<-he];exact VRs.ren1 hθ k1
 |mp es=>
  cases t with
  |arr _ _=>cases ht
  |mp es'=>
   have:=vt ht;subst this;obtain⟨i,en,ck,g1,g2,g3⟩:=h;refine⟨⟨i,en,ck,by rw[hc];exact g1,g2,?_⟩,rfl⟩;clear ht;generalize en.toList=l at g3
   induction g3 with
   |nil=>exact .nil
   |cons h t ih=>exact .cons ⟨h.1.ren1 hθ,h.2.ren1 hθ⟩ ih
 |dead=>cases ht
 |lp _ _ _ _ _=>cases ht
 |ro _ _ _ _=>cases ht
 |fwd _ _ _ _ _=>cases ht
def rev:List (Pth×Pth)->Pth->Option Pth
 |[],_=>none
 |(c,a)::l,q=>bif pthEq a q then some c else rev l q
theorem fc{L:List (Pth×TObj)}:∀{p:Pth},∀x∈mkIds L p,p.toNat<=x.2.toNat/\x.2.toNat<p.toNat+L.length:=by
 induction L with
 |nil=>intro p x hx;cases hx
 |cons y L ih=>
  obtain⟨c,t⟩:=y;intro p x hx;rcases List.mem_cons.1 hx with rfl|hx
  .simp only[List.length_cons];omega
  .have:=ih x hx;rw[Pth.ab]at this;simp only[List.length_cons];omega
theorem gW{θ:List (Pth×Pth)}{q c:Pth}(h:rev θ q=some c):(c,q)∈θ:=by
 induction θ with
 |nil=>cases h
 |cons x θ ih=>
  obtain⟨c0,a0⟩:=x;unfold rev at h;cases hb:pthEq a0 q with
  |true=>rw[hb]at h;simp only[cond,Option.some.injEq]at h;rw[<-aD.1 hb,h];exact List.mem_cons_self ..
  |false=>rw[hb]at h;exact List.mem_cons_of_mem _ (ih h)
theorem de{θ:List (Pth×Pth)}{q a:Pth}(h:lk θ q=some a):(q,a)∈θ:=by
 induction θ with
 |nil=>cases h
 |cons x θ ih=>
  obtain⟨c0,a0⟩:=x;unfold lk at h;cases hb:pthEq c0 q with
  |true=>rw[hb]at h;simp only[cond,Option.some.injEq]at h;rw[<-aD.1 hb,h];exact List.mem_cons_self ..
  |false=>rw[hb]at h;exact List.mem_cons_of_mem _ (ih h)
theorem ef{L:List (Pth×TObj)}:∀{p:Pth} {c a:Pth},(c,a)∈mkIds L p->rev (mkIds L p) a=some c:=by
 induction L with
 |nil=>intro p c a h;cases h
 |cons y L ih=>
  obtain⟨c0,t⟩:=y;intro p c a h;simp only[mkIds]at h⊢;unfold rev;rcases List.mem_cons.1 h with h|h
  .simp only[Prod.mk.injEq]at h;obtain⟨rfl,rfl⟩:=h;rw[aD.2 rfl];rfl
  .have hne:pthEq p a=false:=by
    cases hb:pthEq p a with
    |false=>rfl
    |true=>have:=(fc _ h).1;rw[Pth.ab,aD.1 hb]at this;simp only at this;omega
   rw[hne];exact ih h
theorem vy{L:List (Pth×TObj)}:∀{p:Pth} {c a:Pth},(c,a)∈mkIds L p->∃t,(c,t)∈L:=by
 induction L with
 |nil=>intro p c a h;cases h
 |cons y L ih=>
  obtain⟨c0,t⟩:=y;intro p c a h;rcases List.mem_cons.1 h with h|h
  .simp only[Prod.mk.injEq]at h;rw[h.1];exact⟨t,List.mem_cons_self ..⟩
  .obtain⟨t',h'⟩:=ih h;exact⟨t',List.mem_cons_of_mem _ h'⟩
theorem nR(θ:List (Pth×Pth)):∀(L:List (Pth×TObj)) (H:AH),(addAll θ L H).next.toNat=H.next.toNat+L.length/\∀id,(∃c t,(c,id)∈mkIds L H.next/\(c,t)∈L/\(addAll θ L H).m.get .dead id=instO θ t)\/((∀c,(c,id)∉mkIds L H.next)/\(addAll θ L H).m.get .dead id=H.m.get .dead id):=by
 intro L
 induction L with
 |nil=>intro H;exact⟨rfl,λid=>.inr ⟨λ_ h=>(by cases h),rfl⟩⟩
 |cons y L ih=>
  obtain⟨c0,t0⟩:=y;intro H;simp only[addAll];obtain⟨h1,h2⟩:=ih (H.add (instO θ t0));have hn:(H.add (instO θ t0)).next=H.next.succ:=rfl
  rw[hn]at h1 h2;refine⟨by rw[h1,Pth.ab,List.length_cons];omega,λid=>?_⟩;rcases h2 id with⟨c,t,g1,g2,g3⟩|⟨g1,g2⟩
  .exact .inl ⟨c,t,List.mem_cons_of_mem _ g1,List.mem_cons_of_mem _ g2,g3⟩
  .by_cases e:H.next=id
   .subst e;exact .inl ⟨c0,t0,List.mem_cons_self ..,List.mem_cons_self ..,g2.trans (bZ _)⟩
   .refine .inr ⟨λc h=>?_,g2.trans (aB e _)⟩;rcases List.mem_cons.1 h with h|h
    .simp only[Prod.mk.injEq]at h;exact e h.2.symm
    .exact g1 c h
def keysDiff:List (Pth×TObj)->Bool
 |[]=>true
 |(c,_)::l=>(l.all λx=>!pthEq c x.1)&&keysDiff l
theorem nS{L:List (Pth×TObj)}(hd:keysDiff L=true):∀{p:Pth} {c a b:Pth},(c,a)∈mkIds L p->(c,b)∈mkIds L p->a=b:=by
 induction L with
 |nil=>intro p c a b h;cases h
 |cons y L ih=>
  obtain⟨c0,t⟩:=y;simp only[keysDiff,Bool.and_eq_true,List.all_eq_true]at hd;have no:∀{p:Pth} {a:Pth},(c0,a)∉mkIds L p:=λ{p a} h=>by obtain⟨t',h'⟩:=vy h;have:=hd.1 _ h';rw[aD.2 rfl]at this;cases this
  intro p c a b h1 h2;rcases List.mem_cons.1 h1 with k1|k1
  .simp only[Prod.mk.injEq]at k1;rcases List.mem_cons.1 h2 with k2|k2
   .simp only[Prod.mk.injEq]at k2;rw[k1.2,k2.2]
   .rw[k1.1]at k2;exact absurd k2 no
  .rcases List.mem_cons.1 h2 with k2|k2
   .simp only[Prod.mk.injEq]at k2;rw[k2.1]at k1;exact absurd k1 no
   .exact ih hd.2 k1 k2
def roFlat(q:Pth)(l:List (Pth×Nat×Nat×List AVal)):Bool:=l.all λx=>Nat.blt x.1.toNat q.toNat&&x.2.2.2.all flat1
theorem vz{T:T8 CFn}(hω:∀i,(ω i).oneCell'=true)(hm:P.follows .mixedOrders=true)(hT:TabOk P ω T){n f:Nat}{o:Orc}{q:Pth}(hq:q=key P.globals.size)(hnat:o.nat=none)(hex:o.ex=none)(hk:(o.args.all flat2&&(roFlat q o.ro&&keysDiff o.objs))=true)(hres:isRes o (callF T n (key f) o.args (preHeap q o))=true):OrcOk P ω f o:=by
 intro args H v H' ρ w vals hone hr hg hv;obtain⟨hfit,hgive⟩:=vx hnat hone;simp only[fits,hex,Bool.and_eq_true,and_true]at hfit;obtain⟨h1,h2⟩:=hfit;simp only[give,hex,R.ok.injEq]at hgive;obtain⟨rfl,rfl⟩:=hgive;have ha:=nM h1;subst ha;simp only[Bool.and_eq_true]at hk;obtain⟨hflat,hro,hdiff⟩:=hk;obtain⟨H1,hcall,hobjs,_⟩:=vw hres;have hpre:preHeap q o=roHeap q o.ro:=by unfold preHeap;rw[hex]
 rw[hpre]at hcall
 let ρc:Rho:=⟨λid=>if id.toNat<q.toNat then ρ id else none,ρ.num⟩
 have hρc:∀id i,ρc id=some i->ρ id=some i/\id.toNat<q.toNat:=λid i h=>by
  simp only[ρc]at h;by_cases hl:id.toNat<q.toNat
  .rw[if_pos hl]at h;exact⟨h,hl⟩
  .rw[if_neg hl]at h;cases h
 have notO:∀id,owned ((roHeap q o.ro).m.get .dead id)=false:=λid=>by
  rcases fb q o.ro id with⟨e,n,d,k1,k2⟩|k1
  .rw[k2];rfl
  .rw[k1];rfl
 have hrc:HR P ρc ω (roHeap q o.ro) w:=by
  refine⟨λid=>?_,λa b ia ib hoa=>?_,λid i h=>?_,λb c h=>⟨(hr.num b c h).1,λid i ho=>by rw[notO id]at ho;cases ho⟩⟩
  .rcases fb q o.ro id with⟨e,n,d,k1,k2⟩|k1
   .rw[k2];have h3:=hr.ok id;rw[ki h2 _ _ _ _ k1]at h3;obtain⟨i,c,T',fz,g1,g2,g3⟩:=h3;simp only[roFlat,List.all_eq_true,Bool.and_eq_true]at hro;have hx:=hro _ k1;simp only at hx;have hlt:id.toNat<q.toNat:=Nat.le_of_ble_eq_true hx.1;refine⟨i,c,T',fz,by simp only[ρc];rw[if_pos hlt];exact g1,g2,g3.lim,g3.size,λj hj=>?_⟩;obtain⟨vs,m1,m2⟩:=g3.els j hj;refine⟨vs,VRs.flat1 m1 ?_,m2⟩;rw[elem_nil,List.all_eq_true];exactλy hy=>hx.2 y hy
   .rw[k1];trivial
  .rw[notO a]at hoa;cases hoa
  .rw[vv];exact(hρc id i h).2
 have hgc:GlobOk P ρc:=λg hgl=>by obtain⟨i,x,y⟩:=hg g hgl;refine⟨i,?_,y⟩;simp only[ρc];rw[if_pos (by rw[hq,bN,bN];exact hgl)];exact x
 have hc:CallerOk P ω (caller T (exec T n)):=ed hT (gK hω hT (gS hω hm) n) (ee n);have hco:=hc hcall hrc hgc (.fnv f [] [] .nil) (VRs.flat2 hv hflat);cases hco with
 |fn f caps fn hf hn hbd h=>
  rw[List.append_nil]at h;refine⟨fn,hf,hn,hbd,h.mono λe w' he=>?_⟩;cases e with
  |panicked c=>exact he.elim
  |outgrown=>exact he.elim
  |returned v'=>
   obtain⟨ρ1,hv',hs⟩:=he;have hno:∀b,¬ImgO ρc (roHeap q o.ro) b:=by rintro b ⟨id,i,h1,_⟩;rw[notO id]at h1;cases h1
   have same:∀b,b<w.heap.size->w'.heap[b]?=w.heap[b]?:=λb hb=>hs.keep b hb (hno b)
   generalize hθ:mkIds o.objs H.next=θ
   let ρ':Rho:=⟨λid=>match rev θ id with
    |some c=>ρ1 c
    |none=>ρ id,ρ1.num⟩
   have rev_ge:∀{id c},rev θ id=some c->H.next.toNat<=id.toNat/\id.toNat<H.next.toNat+o.objs.length:=λ{id c} h=>by have:=gW h;rw[<-hθ]at this;exact fc _ this
   have hnam:Nam θ ρ1 ρ':=⟨by
    intro c a hl;have hmem:=de hl;rw[<-hθ]at hmem;have:rev θ a=some c:=by rw[<-hθ];exact ef hmem
    simp only[ρ',this],λ_ _ h=>h⟩
   have hsub:Sub ρ ρ':=⟨λid i h=>by
    have hlt:=hr.fresh id i h;simp only[ρ'];cases hrv:rev θ id with
    |none=>exact h
    |some c=>have:=(rev_ge hrv).1;omega,λb c h=>hs.sub.num b c h⟩
   have newb:∀{c t},(c,t)∈o.objs->∃i,ρ1 c=some i/\w.heap.size<=i.blk/\owned (H1.m.get .dead c)=true/\i.blk<w'.heap.size:=by
    intro c t hct;have ht:=gU hobjs _ hct;simp only at ht;have hown:owned (H1.m.get .dead c)=true:=by cases ho:H1.m.get .dead c<;>rw[ho]at ht<;>first|rfl|(cases ht;done)
    obtain⟨i,hi,hlt⟩:=(hs.hr.ok c).lt (aj hown);refine⟨i,hi,?_,hown,hlt⟩;rcases Nat.lt_or_ge i.blk w.heap.size with hl|hge
    .exact absurd (hs.imgo _ hl ⟨c,i,hown,hi,rfl⟩) (hno _)
    .exact hge
   obtain⟨nx,gt⟩:=nR θ o.objs H;rw[hθ]at gt
   have old:∀{id},(∀c,(c,id)∉θ)->rev θ id=none:=λ{id} h=>by
    cases hrv:rev θ id with
    |none=>rfl
    |some c=>exact absurd (gW hrv) (h c)
   have blk_old:∀{id i},live (H.m.get .dead id)=true->(∀c,(c,id)∉θ)->ρ' id=some i->ρ id=some i/\i.blk<w.heap.size:=by intro id i hl hno hi;have:rev θ id=none:=old hno;simp only[ρ',this]at hi;obtain⟨j,hj,hlt⟩:=(hr.ok id).lt hl;rw[hi]at hj;cases hj;exact⟨hi,hlt⟩
   have new_of:∀{c id t i},(c,id)∈θ->(c,t)∈o.objs->ρ' id=some i->ρ1 c=some i/\w.heap.size<=i.blk/\owned (H1.m.get .dead c)=true:=by
    intro c id t i hm ht hi;have:rev θ id=some c:=by rw[<-hθ]at hm⊢;exact ef hm
    simp only[ρ',this]at hi;obtain⟨j,g1,g2,g3,_⟩:=newb ht;rw[hi]at g1;cases g1;exact⟨hi,g2,g3⟩
   refine⟨ρ',VR.ren3 hnam hv',?_⟩
   exact {
    sub:=hsub
    hr:={
     ok:=λid=>by
      rcases gt id with⟨c,t,g1,g2,g3⟩|⟨g1,g2⟩
      .rw[g3];have hrv:rev θ id=some c:=by rw[<-hθ]at g1⊢;exact ef g1
       exact(nO (P:=P) (w:=w') hnam (c:=c) (a:=id) (by simp only[ρ',hrv]) (gU hobjs _ g2) (hs.hr.ok c)).1
      .rw[g2];by_cases hl:live (H.m.get .dead id)=true
       .obtain⟨j,hj,hlt⟩:=(hr.ok id).lt hl;refine ObjOk.mono hsub (λi hi=>?_) (hr.ok id);rw[hj]at hi;cases hi;exact same _ hlt
       .exact(hr.ok id).idle hl hsub
     inj:=λa b ia ib hoa hlb hab h1 h2 e=>by
      rcases gt a with⟨c,t,g1,g2,g3⟩|⟨g1,g2⟩
      .obtain⟨m1,m2,m3⟩:=new_of g1 g2 h1;rcases gt b with⟨c',t',k1,k2,k3⟩|⟨k1,k2⟩
       .obtain⟨n1,n2,n3⟩:=new_of k1 k2 h2;have hne:c≠c':=λe=>by subst e;rw[<-hθ]at g1 k1;exact hab (nS hdiff g1 k1)
        exact hs.hr.inj c c' ia ib m3 (aj n3) hne m1 n1 e
       .rw[k2]at hlb;have:=(blk_old hlb k1 h2).2;omega
      .rw[g2]at hoa;have ho:=blk_old (aj hoa) g1 h1;rcases gt b with⟨c',t',k1,k2,k3⟩|⟨k1,k2⟩
       .obtain⟨n1,n2,n3⟩:=new_of k1 k2 h2;omega
       .rw[k2]at hlb;exact hr.inj a b ia ib hoa hlb hab ho.1 (blk_old hlb k1 h2).1 e
     fresh:=λid i h=>by
      rw[nx];simp only[ρ']at h;cases hrv:rev θ id with
      |some c=>exact(rev_ge hrv).2
      |none=>rw[hrv]at h;have:=hr.fresh id i h;omega
     num:=λb c h=>by
      have h:ρ1.num b=some c:=h;refine⟨(hs.hr.num b c h).1,λa ia hoa ha e=>?_⟩;rcases gt a with⟨c',t,g1,g2,g3⟩|⟨g1,g2⟩
      .obtain⟨m1,m2,m3⟩:=new_of g1 g2 ha;exact(hs.hr.num b c h).2 c' ia m3 m1 e
      .rw[g2]at hoa;have ho:=blk_old (aj hoa) g1 ha;rcases hs.nums b c h with h2|h2|h2
       .exact(hr.num b c h2).2 a ia hoa ho.1 e
       .omega
       .exact hno b h2}
    idle:=λid hl h=>by
     rcases gt id with⟨c,t,g1,g2,g3⟩|⟨g1,g2⟩
     .have:=(fc _ (hθ▸g1)).1;simp only at this;omega
     .rw[g2];exact h
    nums:=λb c h=>(hs.nums b c h).imp_right λh=>h.elim .inl λh=>absurd h (hno b)
    os:=hs.os
    tape:=hs.tape
    output:=hs.output
    size:=hs.size
    keep:=λb hb _=>same b hb
    al:=λb hb ⟨id,i,h1,h2,h3⟩=>by
     rcases gt id with⟨c,t,g1,g2,g3⟩|⟨g1,g2⟩
     .have:=(new_of g1 g2 h2).2.1;omega
     .rw[g2]at h1;exact⟨id,i,h1,(blk_old h1 g1 h2).1,h3⟩
    imgo:=λb hb ⟨id,i,h1,h2,h3⟩=>by
     rcases gt id with⟨c,t,g1,g2,g3⟩|⟨g1,g2⟩
     .have:=(new_of g1 g2 h2).2.1;omega
     .rw[g2]at h1;exact⟨id,i,h1,(blk_old (aj h1) g1 h2).1,h3⟩
    next:=by rw[nx];omega
    dom:=λid i h hl=>by
     simp only[ρ']at h;cases hrv:rev θ id with
     |some c=>have:=(rev_ge hrv).1;omega
     |none=>rw[hrv]at h;exact h}
theorem TabOk.put{T:T8 CFn}(hT:TabOk P ω T){f:Nat}{c:CFn}{os:List Orc}(hne:∃fn S A,P.funcs[f]?=some fn/\cFn P S A fn=some ⟨c.params,c.body,c.res,[]⟩)(hos:∀o∈os,OrcOk P ω f o):TabOk P ω (T.put noFn ⟨c.params,c.body,c.res,os⟩ (key f)):=by
 intro g;by_cases h:f=g
 .subst h;right;obtain⟨fn,S,A,h1,h2⟩:=hne;rw[aL];exact⟨fn,S,A,h1,h2,hos⟩
 .rw[aG _ _ (λe=>h (key_inj e))];exact hT g
end Go.Ex
namespace Go.Ex
open Go
variable{P:Program}{ω:Nat->Value}
def Good(P:Program)(x:Nat×CFn):Prop:=∃fn S A,P.funcs[x.1]?=some fn/\cFn P S A fn=some x.2
def putL:List (Nat×CFn)->T8 CFn->T8 CFn
 |[],T=>T
 |(f,c)::l,T=>putL l (T.put noFn c (key f))
theorem TabOk.nil:TabOk P ω .nil:=λ_=>.inl (get_nil _ _)
theorem TabOk.putL{L:List (Nat×CFn)}(hL:∀x∈L,Good P x):∀{T:T8 CFn},TabOk P ω T->TabOk P ω (Ex.putL L T):=by
 induction L with
 |nil=>intro T hT;exact hT
 |cons x L ih=>
  obtain⟨f,c⟩:=x;intro T hT;refine ih (λx hx=>hL x (List.mem_cons_of_mem _ hx)) ?_;obtain⟨fn,S,A,h1,h2⟩:=hL (f,c) (List.mem_cons_self ..);simp only at h1 h2;obtain⟨_,_,_,_,_,_,_,_,_,hcf⟩:=jX h2;have horc:c.aP=[]:=by rw[hcf]
  have hcc:{c with aP:=[]}=c:=by rw[hcf]
  intro g;by_cases h:f=g
  .subst h;right;rw[aL];refine⟨fn,S,A,h1,?_,λo ho=>?_⟩
   .rw[h2,hcc]
   .rw[horc]at ho;cases ho
  .rw[aG _ _ (λe=>h (key_inj e))];exact hT g
theorem Good.some{f:Nat}{c:CFn}(h:Good P (f,c)):∃fn S A,P.funcs[f]?=some fn/\cFn P S A fn=some ⟨c.params,c.body,c.res,[]⟩:=by
 obtain⟨fn,S,A,h1,h2⟩:=h;simp only at h1 h2;obtain⟨_,_,_,_,_,_,_,_,_,hcf⟩:=jX h2;refine⟨fn,S,A,h1,?_⟩;have hcc:(⟨c.params,c.body,c.res,[]⟩:CFn)=c:=by rw[hcf]
 rw[h2,hcc]
theorem vC{cells:List AVal}{q:Pth}{w:World}{c:Array Value}{T:TypeId}{fz:Nat×Nat}{ms:List Nat}(hc:w.heap[0]?=some (.cells c T fz))(hlen:c.size=cells.length)(hcells:∀(i:Nat) (x:AVal),cells[i]?=some x->∃k z,x=AVal.int k z/\c[i]?=some (Value.int k z))(hq:q=key ms.length)(hms:ms≠[]):∃ρ,HR P ρ ω ⟨q,.node (.ro cells.length 1 cells .nil) nil8⟩ w/\∀g,g<ms.length->∃i,ρ (key g)=some i/\i.blk=g/\i.base=0:=by
 let ρ:Rho:=⟨λid=>if id=key id.toNat/\id.toNat<ms.length then some ⟨id.toNat,0,if id.toNat=0 then cells.length else 0⟩else none,λ_=>none⟩
 have hget:∀id,(T8.node (AObj.ro cells.length 1 cells .nil) nil8).get .dead id=if id=key 0 then .ro cells.length 1 cells .nil else .dead:=by
  intro id;cases id with
  |e=>rfl
  |s d p=>rw[if_neg (by intro h;cases h)];simp only[T8.get,dv,get_nil]
 have hpos:0<ms.length:=by cases ms with
  |nil=>exact absurd rfl hms
  |cons _ _=>simp
 have h0:ρ (key 0)=some ⟨0,0,cells.length⟩:=by simp only[ρ,bN];rw[if_pos ⟨trivial,hpos⟩];simp
 have lens:(c.toList).length=cells.length:=by simpa using hlen
 refine⟨ρ,⟨λid=>?_,λa b ia ib ho=>?_,λid i h=>?_,λb c h=>by cases h⟩,λg hg=>?_⟩
 .show ObjOk P ρ ω w id ((T8.node (AObj.ro cells.length 1 cells .nil) nil8).get .dead id);rw[hget];by_cases h:id=key 0
  .rw[if_pos h];subst h;refine⟨⟨0,0,cells.length⟩,c,T,fz,h0,hc,by show 1*cells.length<=cells.length;omega,by show 0+cells.length<=c.size;omega,λj hj=>?_⟩;have:j=0:=by omega
   subst this;rw[elem_nil];refine⟨c.toList,?_,lens,?_,λk v hk=>?_⟩
   .have key2:∀(l:List AVal) (r:List Value),l.length=r.length->(∀(i:Nat) (x:AVal),l[i]?=some x->∃k z,x=AVal.int k z/\r[i]?=some (Value.int k z))->All2 (VR ρ ω) l r:=by
     intro l
     induction l with
     |nil=>intro r hr _;cases r with
      |nil=>exact .nil
      |cons _ _=>cases hr
     |cons a l ih=>
      intro r hr hall;cases r with
      |nil=>cases hr
      |cons b r=>
       obtain⟨k,z,rfl,hb⟩:=hall 0 a rfl;simp only[List.getElem?_cons_zero,Option.some.injEq]at hb;subst hb
       exact .cons (.int k z) (ih r (by simpa using hr) λi x hx=>by
        have:=hall (i+1) x (by simpa using hx)
        simpa using this)
    exact key2 cells c.toList lens.symm λi x hx=>by obtain⟨k,z,h1,h2⟩:=hcells i x hx;exact⟨k,z,h1,by simpa using h2⟩
   .intro v hv;obtain⟨i,hi⟩:=List.mem_iff_getElem?.1 hv;have hlt:i<cells.length:=by rw[<-lens];exact(List.getElem?_eq_some_iff.1 hi).1
    obtain⟨k,z,_,h2⟩:=hcells i _ (List.getElem?_eq_getElem hlt);have:c.toList[i]?=some (.int k z):=by simpa using h2
    rw[hi]at this;simp only[Option.some.injEq]at this;rw[this];rfl
   .show c[0+0*cells.length+k]?=some v;rw[show 0+0*cells.length+k=k by omega];simpa using hk
  .rw[if_neg h];trivial
 .have ho':owned ((T8.node (AObj.ro cells.length 1 cells .nil) nil8).get .dead a)=true:=ho;rw[hget]at ho';by_cases h:a=key 0
  .rw[if_pos h]at ho';cases ho'
  .rw[if_neg h]at ho';cases ho'
 .show id.toNat<q.toNat;rw[hq,bN];simp only[ρ]at h;by_cases hx:id=key id.toNat/\id.toNat<ms.length
  .exact hx.2
  .rw[if_neg hx]at h;cases h
 .refine⟨⟨g,0,if g=0 then cells.length else 0⟩,?_,rfl,rfl⟩;simp only[ρ,bN];rw[if_pos ⟨trivial,hg⟩]
theorem Step.kept{ρ ρ':Rho}{H H':AH}{w w':World}(hs:Step P ρ ω H w ρ' H' w')(hno:∀id,owned (H.m.get .dead id)=false):∀b,b<w.heap.size->w'.heap[b]?=w.heap[b]?:=λb hb=>hs.keep b hb λ⟨id,i,h1,_⟩=>by rw[hno id]at h1;cases h1
end Go.Ex
namespace Go.Ex
def dList:List D:=[.d0,.d1,.d2,.d3,.d4,.d5,.d6,.d7,.d8,.d9,.d10,.d11,.d12,.d13,.d14,.d15,.d16,.d17,.d18,.d19,.d20,.d21,.d22,.d23,.d24,.d25,.d26,.d27,.d28,.d29,.d30]
def dNth(r:Nat)(l:List D):D:=Nat.rec (motive:=λ_=>List D->D) (λl=>List.rec (motive:=λ_=>D) .d31 (λa _ _=>a) l) (λ_ ih l=>List.rec (motive:=λ_=>D) .d31 (λ_ t _=>ih t) l) r l
theorem vD(r:Nat)(l:List D):dNth r l=l.getD r .d31:=by
 induction r generalizing l with
 |zero=>cases l<;>rfl
 |succ r ih=>cases l with
  |nil=>rfl
  |cons a l=>show dNth r l=_;rw[ih];rfl
def dF(r:Nat):D:=dNth r dList
theorem vE(r:Nat):dF r=D.of r:=by
 unfold dF;rw[vD];rcases Nat.lt_or_ge r 31 with h|h
 .have key:∀r:Fin 31,(dList.getD r.val .d31).toNat=(D.of r.val).toNat:=by decide
  have:=key ⟨r,h⟩;rw[<-D.gf (dList.getD r .d31),this,D.gf]
 .obtain⟨n,rfl⟩:∃n,r=n+31:=⟨r-31,by omega⟩;rfl
def pathF(f:Nat):Nat->Pth:=Nat.rec (motive:=λ_=>Nat->Pth) (λ_=>.e) (λ_ ih n=>Bool.rec (motive:=λ_=>Pth) (.s (dF (Nat.mod n 32)) (ih (Nat.div n 32))) .e (Nat.beq n 0)) f
theorem vF(f n:Nat):pathF f n=pathOf f n:=by
 induction f generalizing n with
 |zero=>rfl
 |succ f ih=>
  show Bool.rec (motive:=λ_=>Pth) (.s (dF (Nat.mod n 32)) (pathF f (Nat.div n 32))) .e (Nat.beq n 0)=bif Nat.beq n 0 then Pth.e else .s (D.of (Nat.mod n 32)) (pathOf f (Nat.div n 32))
  rw[ih,vE];cases Nat.beq n 0<;>rfl
def keyF(n:Nat):Pth:=pathF n n
theorem cF(n:Nat):keyF n=key n:=vF n n
def i64F(m:Nat):Int:=Bool.rec (IntKind.i64.wrap (.ofNat m)) (.ofNat m) (Nat.blt m two63)
def w64F(n:Int):Int:=Int.rec i64F (λm=>wrapN .i64 (.negSucc m)) n
def wu64F(n:Int):Int:=Int.rec (λm=>.ofNat (Nat.mod m two64)) (λm=>IntKind.u64.wrap (.negSucc m)) n
def wu32F(n:Int):Int:=Int.rec (λm=>.ofNat (Nat.mod m two32)) (λm=>IntKind.u32.wrap (.negSucc m)) n
def wrapF(k:IntKind):Int->Int:=IntKind.rec (motive:=λ_=>Int->Int) (λn=>IntKind.i8.wrap n) (λn=>IntKind.i16.wrap n) (λn=>IntKind.i32.wrap n) w64F (λn=>IntKind.u8.wrap n) (λn=>IntKind.u16.wrap n) wu32F wu64F k
theorem vG(m:Nat):i64F m=wrapN .i64 (.ofNat m):=by unfold i64F wrapN;dsimp only;generalize Nat.blt m two63=c;cases c<;>rfl
theorem kj(k:IntKind)(n:Int):wrapF k n=wrapN k n:=by
 cases k with
 |i64=>cases n with
  |ofNat m=>exact vG m
  |negSucc m=>rfl
 |_=>cases n<;>(unfold wrapN;rfl)
def addF(a:Int):Int->Int:=Int.rec (motive:=λ_=>Int->Int) (λm b=>Int.rec (motive:=λ_=>Int) (λn=>.ofNat (Nat.add m n)) (λn=>Int.add (.ofNat m) (.negSucc n)) b) (λm b=>Int.add (.negSucc m) b) a
theorem nT(a b:Int):addF a b=Int.add a b:=by cases a<;>cases b<;>rfl
def subNN(m n:Nat):Int:=Bool.rec (Int.sub (.ofNat m) (.ofNat n)) (.ofNat (Nat.sub m n)) (Nat.ble n m)
theorem vH(m n:Nat):subNN m n=Int.sub (.ofNat m) (.ofNat n):=by
 unfold subNN;cases h:Nat.ble n m with
 |false=>rfl
 |true=>have h':n<=m:=Nat.le_of_ble_eq_true h;show((m-n:Nat):Int)=(m:Int)-(n:Int);omega
def subF(a:Int):Int->Int:=Int.rec (motive:=λ_=>Int->Int) (λm b=>Int.rec (motive:=λ_=>Int) (λn=>subNN m n) (λn=>Int.sub (.ofNat m) (.negSucc n)) b) (λm b=>Int.sub (.negSucc m) b) a
theorem nU(a b:Int):subF a b=Int.sub a b:=by cases a<;>cases b<;>first|rfl|exact vH _ _
def mulF(a:Int):Int->Int:=Int.rec (motive:=λ_=>Int->Int) (λm b=>Int.rec (motive:=λ_=>Int) (λn=>.ofNat (Nat.mul m n)) (λn=>Int.mul (.ofNat m) (.negSucc n)) b) (λm b=>Int.mul (.negSucc m) b) a
theorem vJ(a b:Int):mulF a b=Int.mul a b:=by cases a<;>cases b<;>rfl
def intEqF(a:Int):Int->Bool:=Int.rec (motive:=λ_=>Int->Bool) (λm b=>Int.rec (motive:=λ_=>Bool) (λn=>Nat.beq m n) (λ_=>false) b) (λm b=>Int.rec (motive:=λ_=>Bool) (λ_=>false) (λn=>Nat.beq m n) b) a
theorem gX(a b:Int):intEqF a b=intEq a b:=by cases a<;>cases b<;>rfl
def intLtF(a:Int):Int->Bool:=Int.rec (motive:=λ_=>Int->Bool) (λm b=>Int.rec (motive:=λ_=>Bool) (λn=>Nat.blt m n) (λ_=>false) b) (λm b=>Int.rec (motive:=λ_=>Bool) (λ_=>true) (λn=>Nat.blt n m) b) a
theorem km(a b:Int):intLtF a b=intLt a b:=by cases a<;>cases b<;>rfl
def notF(b:Bool):Bool:=Bool.rec true false b
theorem vK(b:Bool):notF b = !b:=by cases b<;>rfl
def kindEqF(k:IntKind):IntKind->Bool:=
 IntKind.rec (motive:=λ_=>IntKind->Bool)
  (λl=>IntKind.rec (motive:=λ_=>Bool) true false false false false false false false l)
  (λl=>IntKind.rec (motive:=λ_=>Bool) false true false false false false false false l)
  (λl=>IntKind.rec (motive:=λ_=>Bool) false false true false false false false false l)
  (λl=>IntKind.rec (motive:=λ_=>Bool) false false false true false false false false l)
  (λl=>IntKind.rec (motive:=λ_=>Bool) false false false false true false false false l)
  (λl=>IntKind.rec (motive:=λ_=>Bool) false false false false false true false false l)
  (λl=>IntKind.rec (motive:=λ_=>Bool) false false false false false false true false l)
  (λl=>IntKind.rec (motive:=λ_=>Bool) false false false false false false false true l) k
theorem nV(k l:IntKind):kindEqF k l=kindEq k l:=by cases k<;>cases l<;>rfl
def binOpF(op:BinOp):IntKind->IntKind->Int->Int->AVal:=
 BinOp.rec (motive:=λ_=>IntKind->IntKind->Int->Int->AVal)
  (λk l a b=>Bool.rec .bad (.int k (wrapF k (addF a b))) (kindEqF k l))
  (λk l a b=>Bool.rec .bad (.int k (wrapF k (subF a b))) (kindEqF k l))
  (λk l a b=>Bool.rec .bad (.int k (wrapF k (mulF a b))) (kindEqF k l))
  (λk l a b=>binV .quo (.int k a) (.int l b))
  (λk l a b=>binV .rem (.int k a) (.int l b))
  (λk l a b=>binV .and (.int k a) (.int l b))
  (λk l a b=>binV .or (.int k a) (.int l b))
  (λk l a b=>binV .xor (.int k a) (.int l b))
  (λk l a b=>binV .shl (.int k a) (.int l b))
  (λk l a b=>binV .shr (.int k a) (.int l b))
  (λk l a b=>binV .andNot (.int k a) (.int l b))
  (λk l a b=>Bool.rec .bad (.bool (intEqF a b)) (kindEqF k l))
  (λk l a b=>Bool.rec .bad (.bool (notF (intEqF a b))) (kindEqF k l))
  (λk l a b=>Bool.rec .bad (.bool (intLtF a b)) (kindEqF k l))
  (λk l a b=>Bool.rec .bad (.bool (notF (intLtF b a))) (kindEqF k l))
  (λk l a b=>Bool.rec .bad (.bool (intLtF b a)) (kindEqF k l))
  (λk l a b=>Bool.rec .bad (.bool (notF (intLtF a b))) (kindEqF k l)) op
theorem vL(op:BinOp)(k l:IntKind)(a b:Int):binOpF op k l a b=binV op (.int k a) (.int l b):=by cases op<;>simp only[binOpF,binV,isShift,cond,nV,kj,nT,nU,vJ,gX,km,vK,intBin]<;>(try (cases kindEq k l<;>rfl))<;>rfl
def binI(k:IntKind)(a:Int)(op:BinOp)(y:AVal):AVal:=AVal.rec (motive_1:=λ_=>IntKind->Int->BinOp->AVal->AVal) (motive_2:=λ_=>Unit) (λk a op y=>binV op (.int k a) y) (λk a op y=>binV op (.int k a) y) (λk a op y=>binV op (.int k a) y) (λk a op y=>binV op (.int k a) y) (λk a op y=>binV op (.int k a) y) (λk a op y=>binV op (.int k a) y) (λ_ k a op y=>binV op (.int k a) y) (λ_ k a op y=>binV op (.int k a) y) (λ_ _ k a op y=>binV op (.int k a) y) (λ_ k a op y=>binV op (.int k a) y) (λ_ k a op y=>binV op (.int k a) y) (λ_ k a op y=>binV op (.int k a) y) (λ_ _ _ k a op y=>binV op (.int k a) y) (λ_ _ k a op y=>binV op (.int k a) y) (λ_ _ k a op y=>binV op (.int k a) y) (λ_ _ _ _ k a op y=>binV op (.int k a) y) (λ_ _ _ _ k a op y=>binV op (.int k a) y) (λ_ _ k a op y=>binV op (.int k a) y) (λ_ k a op y=>binV op (.int k a) y) (λl b k a op _=>binOpF op k l a b) () (λ_ _ _ _=>()) y k a op y
theorem vM(k:IntKind)(a:Int)(op:BinOp)(y:AVal):binI k a op y=binV op (.int k a) y:=by cases y<;>first|rfl|exact vL _ _ _ _ _
def binF(op:BinOp)(x y:AVal):AVal:=AVal.rec (motive_1:=λ_=>BinOp->AVal->AVal->AVal) (motive_2:=λ_=>Unit) (λop x y=>binV op x y) (λop x y=>binV op x y) (λop x y=>binV op x y) (λop x y=>binV op x y) (λop x y=>binV op x y) (λop x y=>binV op x y) (λ_ op x y=>binV op x y) (λ_ op x y=>binV op x y) (λ_ _ op x y=>binV op x y) (λ_ op x y=>binV op x y) (λ_ op x y=>binV op x y) (λ_ op x y=>binV op x y) (λ_ _ _ op x y=>binV op x y) (λ_ _ op x y=>binV op x y) (λ_ _ op x y=>binV op x y) (λ_ _ _ _ op x y=>binV op x y) (λ_ _ _ _ op x y=>binV op x y) (λ_ _ op x y=>binV op x y) (λ_ op x y=>binV op x y) (λk a op _ y=>binI k a op y) () (λ_ _ _ _=>()) x op x y
theorem vN(op:BinOp)(x y:AVal):binF op x y=binV op x y:=by cases x<;>first|rfl|exact vM _ _ _ _
def cellsOfF(v:AVal):List AVal:=
 AVal.rec (motive_1:=λ_=>AVal->List AVal) (motive_2:=λ_=>Unit) (λ_=>[]) (λv=>[v]) (λv=>[v]) (λv=>[v]) (λv=>[v]) (λv=>[v]) (λ_ v=>[v]) (λ_ v=>[v]) (λ_ _ v=>[v]) (λ_ v=>[v]) (λ_ v=>[v]) (λ_ v=>[v]) (λ_ _ _ v=>[v]) (λ_ _ _=>[]) (λl _ _=>l) (λ_ _ _ _ v=>[v]) (λ_ _ _ _ v=>[v]) (λ_ _ v=>[v]) (λ_ v=>[v]) (λ_ _ v=>[v])
  () (λ_ _ _ _=>()) v v
theorem fe(v:AVal):cellsOfF v=v.cells:=by cases v<;>rfl
def notBadF(v:AVal)(H:AH):R:=AVal.rec (motive_1:=λ_=>AVal->AH->R) (motive_2:=λ_=>Unit) (λ_ _=>.no) (λv H=>.ok v H) (λv H=>.ok v H) (λv H=>.ok v H) (λv H=>.ok v H) (λv H=>.ok v H) (λ_ v H=>.ok v H) (λ_ v H=>.ok v H) (λ_ _ v H=>.ok v H) (λ_ v H=>.ok v H) (λ_ v H=>.ok v H) (λ_ v H=>.ok v H) (λ_ _ _ v H=>.ok v H) (λ_ _ v H=>.ok v H) (λ_ _ v H=>.ok v H) (λ_ _ _ _ v H=>.ok v H) (λ_ _ _ _ v H=>.ok v H) (λ_ _ v H=>.ok v H) (λ_ v H=>.ok v H) (λk n _ H=>.ok (.int k n) H) () (λ_ _ _ _=>()) v v H
def faddrF(off:Nat)(x:AVal):AVal:=AVal.rec (motive_1:=λ_=>Nat->AVal) (motive_2:=λ_=>Unit) (λ_=>.bad) (λ_=>.bad) (λ_=>.bad) (λ_=>.bad) (λ_=>.bad) (λ_=>.bad) (λ_ _=>.bad) (λ_ _=>.bad) (λ_ _ _=>.bad) (λ_ _=>.bad) (λ_ _=>.bad) (λ_ _=>.bad) (λ_ _ _ _=>.bad) (λ_ _ _=>.bad) (λ_ _ _=>.bad) (λ_ _ _ _ _=>.bad) (λ_ _ _ _ _=>.bad) (λid o off=>.ptr id (Nat.add o off)) (λ_ _=>.bad) (λ_ _ _=>.bad) () (λ_ _ _ _=>()) x off
theorem vO(off:Nat)(x:AVal):faddrF off x=faddrV off x:=by cases x<;>rfl
def iaddrJ(x:AVal)(esz j:Nat):AVal:=AVal.rec (motive_1:=λ_=>Nat->Nat->AVal) (motive_2:=λ_=>Unit) (λ_ _=>.bad) (λ_ _=>.bad) (λ_ _=>.bad) (λ_ _=>.bad) (λ_ _=>.bad) (λ_ _=>.bad) (λ_ _ _=>.bad) (λn esz j=>Bool.rec (motive:=λ_=>AVal) .bad (Bool.rec (motive:=λ_=>AVal) .bad (.mptr n j) (Nat.blt j (magN n))) (Nat.beq esz 1)) (λ_ _ _ _=>.bad) (λ_ _ _=>.bad) (λ_ _ _=>.bad) (λ_ _ _=>.bad) (λ_ _ _ _ _=>.bad) (λ_ _ _ _=>.bad) (λ_ _ _ _=>.bad) (λid off len _ esz j=>Bool.rec .bad (.ptr id (Nat.add off (Nat.mul j esz))) (Nat.blt j len)) (λid off len _ esz j=>Bool.rec .bad (.ptr id (Nat.add off (Nat.mul j esz))) (Nat.blt j len)) (λ_ _ _ _=>.bad) (λ_ _ _=>.bad) (λ_ _ _ _=>.bad) () (λ_ _ _ _=>()) x esz j
def iaddrF(esz:Nat)(x i:AVal):AVal:=AVal.rec (motive_1:=λ_=>AVal->Nat->AVal) (motive_2:=λ_=>Unit) (λ_ _=>.bad) (λ_ _=>.bad) (λ_ _=>.bad) (λ_ _=>.bad) (λ_ _=>.bad) (λ_ _=>.bad) (λ_ _ _=>.bad) (λ_ _ _=>.bad) (λ_ _ _ _=>.bad) (λ_ _ _=>.bad) (λ_ _ _=>.bad) (λ_ _ _=>.bad) (λ_ _ _ _ _=>.bad) (λ_ _ _ _=>.bad) (λ_ _ _ _=>.bad) (λ_ _ _ _ _ _=>.bad) (λ_ _ _ _ _ _=>.bad) (λ_ _ _ _=>.bad) (λ_ _ _=>.bad) (λ_ n x esz=>Int.rec (motive:=λ_=>AVal->Nat->AVal) (λj x esz=>iaddrJ x esz j) (λ_ _ _=>.bad) n x esz) () (λ_ _ _ _=>()) i x esz
theorem vQ(esz:Nat)(x i:AVal):iaddrF esz x i=iaddrV esz x i:=by
 cases i with
 |int k n=>
  cases n with
  |negSucc n=>rfl
  |ofNat j=>
   cases x with
   |sl id off len cap=>simp only[iaddrF,iaddrJ,iaddrV];cases Nat.blt j len<;>rfl
   |sg id off len ez=>simp only[iaddrF,iaddrJ,iaddrV];cases Nat.blt j len<;>rfl
   |mag n=>simp only[iaddrF,iaddrJ,iaddrV];cases Nat.beq esz 1<;>cases Nat.blt j (magN n)<;>rfl
   |_=>rfl
 |_=>rfl
theorem ko(l:List AVal):app l []=l:=by induction l with
 |nil=>rfl
 |cons a l ih=>show a::app l []=_;rw[ih]
def lenG(l:List AVal):Nat->Bool:=List.rec (motive:=λ_=>Nat->Bool) (λn=>Nat.beq n 0) (λ_ _ ih n=>Bool.rec (motive:=λ_=>Bool) (ih (Nat.pred n)) false (Nat.beq n 0)) l
theorem eg(l:List AVal)(n:Nat):lenG l n=lenIs l n:=by
 induction l generalizing n with
 |nil=>rfl
 |cons a l ih=>show Bool.rec (motive:=λ_=>Bool) (lenG l (Nat.pred n)) false (Nat.beq n 0)=_;rw[ih];simp only[lenIs];cases Nat.beq n 0<;>rfl
def takeG(n:Nat):List AVal->Option (List AVal):=Nat.rec (motive:=λ_=>List AVal->Option (List AVal)) (λ_=>some []) (λ_ ih l=>List.rec (motive:=λ_=>_) none (λa l _=>Option.rec (motive:=λ_=>_) none (λr=>some (a::r)) (ih l)) l) n
theorem nX(n:Nat)(l:List AVal):takeG n l=takeN n l:=by
 induction n generalizing l with
 |zero=>cases l<;>rfl
 |succ n ih=>cases l with
  |nil=>rfl
  |cons a l=>show Option.rec (motive:=λ_=>Option (List AVal)) none (λr=>some (a::r)) (takeG n l)=_;rw[ih];simp only[takeN];cases takeN n l<;>rfl
def dropG(n:Nat):List AVal->List AVal:=Nat.rec (motive:=λ_=>List AVal->List AVal) (λl=>l) (λ_ ih l=>List.rec (motive:=λ_=>_) [] (λ_ l _=>ih l) l) n
theorem nY(n:Nat)(l:List AVal):dropG n l=dropN n l:=by
 induction n generalizing l with
 |zero=>cases l<;>rfl
 |succ n ih=>cases l with
  |nil=>rfl
  |cons a l=>exact ih l
def fldG(agg:Bool)(off sz:Nat)(x:AVal):AVal:=match x with
 |.agg l=>single agg (takeG sz (dropG off l))
 |_=>.bad
theorem vR(agg:Bool)(off sz:Nat)(x:AVal):fldG agg off sz x=fldV agg off sz x:=by cases x<;>simp only[fldG,fldV,nX,nY]
def badG(l:List AVal):Bool:=List.rec (motive:=λ_=>Bool) false (λa _ ih=>AVal.rec (motive_1:=λ_=>Bool) (motive_2:=λ_=>Unit) true ih ih ih ih ih (λ_=>ih) (λ_=>ih) (λ_ _=>ih) (λ_=>ih) (λ_=>ih) (λ_=>ih) (λ_ _ _=>ih) (λ_ _=>ih) (λ_ _=>ih) (λ_ _ _ _=>ih) (λ_ _ _ _=>ih) (λ_ _=>ih) (λ_=>ih) (λ_ _=>ih) () (λ_ _ _ _=>()) a) l
theorem vS(l:List AVal):badG l=anyBad l:=by
 induction l with
 |nil=>rfl
 |cons a l ih=>cases a<;>first|rfl|exact ih
structure Bo where
 run:IntKind->IntKind->Int->Int->AVal
def boS(op:BinOp):Bo:=
 BinOp.rec (motive:=λ_=>Bo)
  ⟨λk l a b=>Bool.rec .bad (.int k (wrapF k (addF a b))) (kindEqF k l)⟩
  ⟨λk l a b=>Bool.rec .bad (.int k (wrapF k (subF a b))) (kindEqF k l)⟩
  ⟨λk l a b=>Bool.rec .bad (.int k (wrapF k (mulF a b))) (kindEqF k l)⟩
  ⟨λk l a b=>binV .quo (.int k a) (.int l b)⟩
  ⟨λk l a b=>binV .rem (.int k a) (.int l b)⟩
  ⟨λk l a b=>binV .and (.int k a) (.int l b)⟩
  ⟨λk l a b=>binV .or (.int k a) (.int l b)⟩
  ⟨λk l a b=>binV .xor (.int k a) (.int l b)⟩
  ⟨λk l a b=>binV .shl (.int k a) (.int l b)⟩
  ⟨λk l a b=>binV .shr (.int k a) (.int l b)⟩
  ⟨λk l a b=>binV .andNot (.int k a) (.int l b)⟩
  ⟨λk l a b=>Bool.rec .bad (.bool (intEqF a b)) (kindEqF k l)⟩
  ⟨λk l a b=>Bool.rec .bad (.bool (notF (intEqF a b))) (kindEqF k l)⟩
  ⟨λk l a b=>Bool.rec .bad (.bool (intLtF a b)) (kindEqF k l)⟩
  ⟨λk l a b=>Bool.rec .bad (.bool (notF (intLtF b a))) (kindEqF k l)⟩
  ⟨λk l a b=>Bool.rec .bad (.bool (intLtF b a)) (kindEqF k l)⟩
  ⟨λk l a b=>Bool.rec .bad (.bool (notF (intLtF a b))) (kindEqF k l)⟩ op
theorem vT(op:BinOp)(k l:IntKind)(a b:Int):(boS op).run k l a b=binOpF op k l a b:=by cases op<;>rfl
def binI3(k:IntKind)(a:Int)(op:BinOp)(y:AVal):AVal:=AVal.rec (motive_1:=λ_=>IntKind->Int->BinOp->AVal->AVal) (motive_2:=λ_=>Unit) (λk a op y=>binV op (.int k a) y) (λk a op y=>binV op (.int k a) y) (λk a op y=>binV op (.int k a) y) (λk a op y=>binV op (.int k a) y) (λk a op y=>binV op (.int k a) y) (λk a op y=>binV op (.int k a) y) (λ_ k a op y=>binV op (.int k a) y) (λ_ k a op y=>binV op (.int k a) y) (λ_ _ k a op y=>binV op (.int k a) y) (λ_ k a op y=>binV op (.int k a) y) (λ_ k a op y=>binV op (.int k a) y) (λ_ k a op y=>binV op (.int k a) y) (λ_ _ _ k a op y=>binV op (.int k a) y) (λ_ _ k a op y=>binV op (.int k a) y) (λ_ _ k a op y=>binV op (.int k a) y) (λ_ _ _ _ k a op y=>binV op (.int k a) y) (λ_ _ _ _ k a op y=>binV op (.int k a) y) (λ_ _ k a op y=>binV op (.int k a) y) (λ_ k a op y=>binV op (.int k a) y) (λl b k a op _=>(boS op).run k l a b) () (λ_ _ _ _=>()) y k a op y
theorem vU(k:IntKind)(a:Int)(op:BinOp)(y:AVal):binI3 k a op y=binI k a op y:=by cases y<;>first|rfl|exact vT _ _ _ _ _
def bin3(op:BinOp)(x y:AVal):AVal:=AVal.rec (motive_1:=λ_=>BinOp->AVal->AVal->AVal) (motive_2:=λ_=>Unit) (λop x y=>binV op x y) (λop x y=>binV op x y) (λop x y=>binV op x y) (λop x y=>binV op x y) (λop x y=>binV op x y) (λop x y=>binV op x y) (λ_ op x y=>binV op x y) (λ_ op x y=>binV op x y) (λ_ _ op x y=>binV op x y) (λ_ op x y=>binV op x y) (λ_ op x y=>binV op x y) (λ_ op x y=>binV op x y) (λ_ _ _ op x y=>binV op x y) (λ_ _ op x y=>binV op x y) (λ_ _ op x y=>binV op x y) (λ_ _ _ _ op x y=>binV op x y) (λ_ _ _ _ op x y=>binV op x y) (λ_ _ op x y=>binV op x y) (λ_ op x y=>binV op x y) (λk a op _ y=>binI3 k a op y) () (λ_ _ _ _=>()) x op x y
theorem kp(op:BinOp)(x y:AVal):bin3 op x y=binF op x y:=by cases x<;>first|rfl|exact vU _ _ _ _
structure Rq where
 lo:Nat
 hi:Nat
 f:AH->AVal
 val:AVal
def eqvF(a:AVal):AVal->Bool:=
 AVal.rec (motive_1:=λ_=>AVal->AVal->Bool) (motive_2:=λ_=>Unit) (λa b=>a.eqv b) (λa b=>a.eqv b) (λa b=>a.eqv b) (λa b=>a.eqv b) (λa b=>a.eqv b) (λa b=>a.eqv b) (λ_ a b=>a.eqv b) (λ_ a b=>a.eqv b) (λ_ _ a b=>a.eqv b) (λ_ a b=>a.eqv b) (λ_ a b=>a.eqv b) (λ_ a b=>a.eqv b) (λ_ _ _ a b=>a.eqv b) (λ_ _ a b=>a.eqv b) (λ_ _ a b=>a.eqv b) (λ_ _ _ _ a b=>a.eqv b) (λ_ _ _ _ a b=>a.eqv b) (λ_ _ a b=>a.eqv b) (λ_ a b=>a.eqv b)
  (λk n a b=>AVal.rec (motive_1:=λ_=>AVal->AVal->Bool) (motive_2:=λ_=>Unit) (λa b=>a.eqv b) (λa b=>a.eqv b) (λa b=>a.eqv b) (λa b=>a.eqv b) (λa b=>a.eqv b) (λa b=>a.eqv b) (λ_ a b=>a.eqv b) (λ_ a b=>a.eqv b) (λ_ _ a b=>a.eqv b) (λ_ a b=>a.eqv b) (λ_ a b=>a.eqv b) (λ_ a b=>a.eqv b) (λ_ _ _ a b=>a.eqv b) (λ_ _ a b=>a.eqv b) (λ_ _ a b=>a.eqv b) (λ_ _ _ _ a b=>a.eqv b) (λ_ _ _ _ a b=>a.eqv b) (λ_ _ a b=>a.eqv b) (λ_ a b=>a.eqv b) (λl m _ _=>Bool.rec (motive:=λ_=>Bool) false (intEqF n m) (kindEqF k l)) () (λ_ _ _ _=>()) b a b) () (λ_ _ _ _=>()) a a
theorem gY(a b:AVal):eqvF a b=a.eqv b:=by
 cases a with
 |int k n=>cases b with
  |int l m=>show Bool.rec (motive:=λ_=>Bool) false (intEqF n m) (kindEqF k l)=(kindEq k l&&intEq n m);rw[gX,nV];cases kindEq k l<;>rfl
  |_=>rfl
 |_=>rfl
def chk1(r:Rq)(hs:List AH):Nat->Bool:=List.rec (motive:=λ_=>Nat->Bool) (λ_=>true) (λH _ ih s=>Bool.rec (motive:=λ_=>Bool) (ih (Nat.pred s)) (Bool.rec (motive:=λ_=>Bool) (ih (Nat.pred s)) (Bool.rec (motive:=λ_=>Bool) false (ih (Nat.pred s)) (eqvF (r.f H) r.val)) (Nat.ble s r.hi)) (Nat.ble r.lo s)) hs
def chkA(hs:List AH)(s:Nat)(rs:List Rq):Bool:=List.rec (motive:=λ_=>Bool) true (λr _ ih=>Bool.rec (motive:=λ_=>Bool) false ih (chk1 r hs s)) rs
def RQ(q:Rq)(r:Rd):Prop:=q.lo=r.lo/\q.hi=r.hi/\q.val=r.val/\∀H,q.f H=pureV r.op [] .nil H
theorem vV{q:Rq}{r:Rd}(h:RQ q r)(hs:List AH)(s:Nat):chk1 q hs s=checkRd r hs s:=by
 obtain⟨h1,h2,h3,h4⟩:=h
 induction hs generalizing s with
 |nil=>rfl
 |cons H hs ih=>show Bool.rec (motive:=λ_=>Bool) (chk1 q hs (Nat.pred s)) (Bool.rec (motive:=λ_=>Bool) (chk1 q hs (Nat.pred s)) (Bool.rec (motive:=λ_=>Bool) false (chk1 q hs (Nat.pred s)) (eqvF (q.f H) q.val)) (Nat.ble s q.hi)) (Nat.ble q.lo s)=_;simp only[checkRd];rw[ih,h1,h2,h3,h4,gY];cases Nat.ble r.lo s<;>cases Nat.ble s r.hi<;>simp;cases (pureV r.op [] .nil H).eqv r.val<;>simp
inductive RQs:List Rq->List Rd->Prop where
 |nil:RQs [] []
 |cons {q:Rq} {r:Rd} {qs:List Rq} {rs:List Rd} (h:RQ q r) (t:RQs qs rs):RQs (q::qs) (r::rs)
theorem vW{qs:List Rq}{rs:List Rd}(h:RQs qs rs)(hs:List AH)(s:Nat):chkA hs s qs=checkRds hs s rs:=by
 induction h with
 |nil=>rfl
 |@cons q r qs rs h _ ih=>show Bool.rec (motive:=λ_=>Bool) false (chkA hs s qs) (chk1 q hs s)=(checkRd r hs s&&checkRds hs s rs);rw[ih,vV h];cases checkRd r hs s<;>simp
end Go.Ex
namespace Go.Ex
def e8{α β:Type}:T8 α->T8 α->T8 α->T8 α->T8 α->T8 α->T8 α->T8 α->T8 α->T8 α->T8 α->T8 α->T8 α->T8 α->T8 α->T8 α->T8 α->T8 α->T8 α->T8 α->T8 α->T8 α->T8 α->T8 α->T8 α->T8 α->T8 α->T8 α->T8 α->T8 α->T8 α->T8 α->β->β->β->β->β->β->β->β->β->β->β->β->β->β->β->β->β->β->β->β->β->β->β->β->β->β->β->β->β->β->β->β->Unit:=λ_ _ _ _ _ _ _ _ _ _ _ _ _ _ _ _ _ _ _ _ _ _ _ _ _ _ _ _ _ _ _ _ _ _ _ _ _ _ _ _ _ _ _ _ _ _ _ _ _ _ _ _ _ _ _ _ _ _ _ _ _ _ _ _=>()
structure UpH where
 sel:C8 (T8 AObj)->T8 AObj
 set:C8 (T8 AObj)->(T8 AObj->(T8 AObj->R)->R)->(C8 (T8 AObj)->R)->R
def upH(d:D):UpH:=
 D.rec (motive:=λ_=>UpH)
  ⟨λc=>c.c0,λc f k=>C8.rec (motive:=λ_=>R) (λA B C D E F G H I J K L M N O P Q R S T U V W X Y Z a b c d e g=>f A λs=>k ⟨s,B,C,D,E,F,G,H,I,J,K,L,M,N,O,P,Q,R,S,T,U,V,W,X,Y,Z,a,b,c,d,e,g⟩) c⟩
  ⟨λc=>c.c1,λc f k=>C8.rec (motive:=λ_=>R) (λA B C D E F G H I J K L M N O P Q R S T U V W X Y Z a b c d e g=>f B λs=>k ⟨A,s,C,D,E,F,G,H,I,J,K,L,M,N,O,P,Q,R,S,T,U,V,W,X,Y,Z,a,b,c,d,e,g⟩) c⟩
  ⟨λc=>c.c2,λc f k=>C8.rec (motive:=λ_=>R) (λA B C D E F G H I J K L M N O P Q R S T U V W X Y Z a b c d e g=>f C λs=>k ⟨A,B,s,D,E,F,G,H,I,J,K,L,M,N,O,P,Q,R,S,T,U,V,W,X,Y,Z,a,b,c,d,e,g⟩) c⟩
  ⟨λc=>c.c3,λc f k=>C8.rec (motive:=λ_=>R) (λA B C D E F G H I J K L M N O P Q R S T U V W X Y Z a b c d e g=>f D λs=>k ⟨A,B,C,s,E,F,G,H,I,J,K,L,M,N,O,P,Q,R,S,T,U,V,W,X,Y,Z,a,b,c,d,e,g⟩) c⟩
  ⟨λc=>c.c4,λc f k=>C8.rec (motive:=λ_=>R) (λA B C D E F G H I J K L M N O P Q R S T U V W X Y Z a b c d e g=>f E λs=>k ⟨A,B,C,D,s,F,G,H,I,J,K,L,M,N,O,P,Q,R,S,T,U,V,W,X,Y,Z,a,b,c,d,e,g⟩) c⟩
  ⟨λc=>c.c5,λc f k=>C8.rec (motive:=λ_=>R) (λA B C D E F G H I J K L M N O P Q R S T U V W X Y Z a b c d e g=>f F λs=>k ⟨A,B,C,D,E,s,G,H,I,J,K,L,M,N,O,P,Q,R,S,T,U,V,W,X,Y,Z,a,b,c,d,e,g⟩) c⟩
  ⟨λc=>c.c6,λc f k=>C8.rec (motive:=λ_=>R) (λA B C D E F G H I J K L M N O P Q R S T U V W X Y Z a b c d e g=>f G λs=>k ⟨A,B,C,D,E,F,s,H,I,J,K,L,M,N,O,P,Q,R,S,T,U,V,W,X,Y,Z,a,b,c,d,e,g⟩) c⟩
  ⟨λc=>c.c7,λc f k=>C8.rec (motive:=λ_=>R) (λA B C D E F G H I J K L M N O P Q R S T U V W X Y Z a b c d e g=>f H λs=>k ⟨A,B,C,D,E,F,G,s,I,J,K,L,M,N,O,P,Q,R,S,T,U,V,W,X,Y,Z,a,b,c,d,e,g⟩) c⟩
  ⟨λc=>c.c8,λc f k=>C8.rec (motive:=λ_=>R) (λA B C D E F G H I J K L M N O P Q R S T U V W X Y Z a b c d e g=>f I λs=>k ⟨A,B,C,D,E,F,G,H,s,J,K,L,M,N,O,P,Q,R,S,T,U,V,W,X,Y,Z,a,b,c,d,e,g⟩) c⟩
  ⟨λc=>c.c9,λc f k=>C8.rec (motive:=λ_=>R) (λA B C D E F G H I J K L M N O P Q R S T U V W X Y Z a b c d e g=>f J λs=>k ⟨A,B,C,D,E,F,G,H,I,s,K,L,M,N,O,P,Q,R,S,T,U,V,W,X,Y,Z,a,b,c,d,e,g⟩) c⟩
  ⟨λc=>c.c10,λc f k=>C8.rec (motive:=λ_=>R) (λA B C D E F G H I J K L M N O P Q R S T U V W X Y Z a b c d e g=>f K λs=>k ⟨A,B,C,D,E,F,G,H,I,J,s,L,M,N,O,P,Q,R,S,T,U,V,W,X,Y,Z,a,b,c,d,e,g⟩) c⟩
  ⟨λc=>c.c11,λc f k=>C8.rec (motive:=λ_=>R) (λA B C D E F G H I J K L M N O P Q R S T U V W X Y Z a b c d e g=>f L λs=>k ⟨A,B,C,D,E,F,G,H,I,J,K,s,M,N,O,P,Q,R,S,T,U,V,W,X,Y,Z,a,b,c,d,e,g⟩) c⟩
  ⟨λc=>c.c12,λc f k=>C8.rec (motive:=λ_=>R) (λA B C D E F G H I J K L M N O P Q R S T U V W X Y Z a b c d e g=>f M λs=>k ⟨A,B,C,D,E,F,G,H,I,J,K,L,s,N,O,P,Q,R,S,T,U,V,W,X,Y,Z,a,b,c,d,e,g⟩) c⟩
  ⟨λc=>c.c13,λc f k=>C8.rec (motive:=λ_=>R) (λA B C D E F G H I J K L M N O P Q R S T U V W X Y Z a b c d e g=>f N λs=>k ⟨A,B,C,D,E,F,G,H,I,J,K,L,M,s,O,P,Q,R,S,T,U,V,W,X,Y,Z,a,b,c,d,e,g⟩) c⟩
  ⟨λc=>c.c14,λc f k=>C8.rec (motive:=λ_=>R) (λA B C D E F G H I J K L M N O P Q R S T U V W X Y Z a b c d e g=>f O λs=>k ⟨A,B,C,D,E,F,G,H,I,J,K,L,M,N,s,P,Q,R,S,T,U,V,W,X,Y,Z,a,b,c,d,e,g⟩) c⟩
  ⟨λc=>c.c15,λc f k=>C8.rec (motive:=λ_=>R) (λA B C D E F G H I J K L M N O P Q R S T U V W X Y Z a b c d e g=>f P λs=>k ⟨A,B,C,D,E,F,G,H,I,J,K,L,M,N,O,s,Q,R,S,T,U,V,W,X,Y,Z,a,b,c,d,e,g⟩) c⟩
  ⟨λc=>c.c16,λc f k=>C8.rec (motive:=λ_=>R) (λA B C D E F G H I J K L M N O P Q R S T U V W X Y Z a b c d e g=>f Q λs=>k ⟨A,B,C,D,E,F,G,H,I,J,K,L,M,N,O,P,s,R,S,T,U,V,W,X,Y,Z,a,b,c,d,e,g⟩) c⟩
  ⟨λc=>c.c17,λc f k=>C8.rec (motive:=λ_=>R) (λA B C D E F G H I J K L M N O P Q R S T U V W X Y Z a b c d e g=>f R λs=>k ⟨A,B,C,D,E,F,G,H,I,J,K,L,M,N,O,P,Q,s,S,T,U,V,W,X,Y,Z,a,b,c,d,e,g⟩) c⟩
  ⟨λc=>c.c18,λc f k=>C8.rec (motive:=λ_=>R) (λA B C D E F G H I J K L M N O P Q R S T U V W X Y Z a b c d e g=>f S λs=>k ⟨A,B,C,D,E,F,G,H,I,J,K,L,M,N,O,P,Q,R,s,T,U,V,W,X,Y,Z,a,b,c,d,e,g⟩) c⟩
  ⟨λc=>c.c19,λc f k=>C8.rec (motive:=λ_=>R) (λA B C D E F G H I J K L M N O P Q R S T U V W X Y Z a b c d e g=>f T λs=>k ⟨A,B,C,D,E,F,G,H,I,J,K,L,M,N,O,P,Q,R,S,s,U,V,W,X,Y,Z,a,b,c,d,e,g⟩) c⟩
  ⟨λc=>c.c20,λc f k=>C8.rec (motive:=λ_=>R) (λA B C D E F G H I J K L M N O P Q R S T U V W X Y Z a b c d e g=>f U λs=>k ⟨A,B,C,D,E,F,G,H,I,J,K,L,M,N,O,P,Q,R,S,T,s,V,W,X,Y,Z,a,b,c,d,e,g⟩) c⟩
  ⟨λc=>c.c21,λc f k=>C8.rec (motive:=λ_=>R) (λA B C D E F G H I J K L M N O P Q R S T U V W X Y Z a b c d e g=>f V λs=>k ⟨A,B,C,D,E,F,G,H,I,J,K,L,M,N,O,P,Q,R,S,T,U,s,W,X,Y,Z,a,b,c,d,e,g⟩) c⟩
  ⟨λc=>c.c22,λc f k=>C8.rec (motive:=λ_=>R) (λA B C D E F G H I J K L M N O P Q R S T U V W X Y Z a b c d e g=>f W λs=>k ⟨A,B,C,D,E,F,G,H,I,J,K,L,M,N,O,P,Q,R,S,T,U,V,s,X,Y,Z,a,b,c,d,e,g⟩) c⟩
  ⟨λc=>c.c23,λc f k=>C8.rec (motive:=λ_=>R) (λA B C D E F G H I J K L M N O P Q R S T U V W X Y Z a b c d e g=>f X λs=>k ⟨A,B,C,D,E,F,G,H,I,J,K,L,M,N,O,P,Q,R,S,T,U,V,W,s,Y,Z,a,b,c,d,e,g⟩) c⟩
  ⟨λc=>c.c24,λc f k=>C8.rec (motive:=λ_=>R) (λA B C D E F G H I J K L M N O P Q R S T U V W X Y Z a b c d e g=>f Y λs=>k ⟨A,B,C,D,E,F,G,H,I,J,K,L,M,N,O,P,Q,R,S,T,U,V,W,X,s,Z,a,b,c,d,e,g⟩) c⟩
  ⟨λc=>c.c25,λc f k=>C8.rec (motive:=λ_=>R) (λA B C D E F G H I J K L M N O P Q R S T U V W X Y Z a b c d e g=>f Z λs=>k ⟨A,B,C,D,E,F,G,H,I,J,K,L,M,N,O,P,Q,R,S,T,U,V,W,X,Y,s,a,b,c,d,e,g⟩) c⟩
  ⟨λc=>c.c26,λc f k=>C8.rec (motive:=λ_=>R) (λA B C D E F G H I J K L M N O P Q R S T U V W X Y Z a b c d e g=>f a λs=>k ⟨A,B,C,D,E,F,G,H,I,J,K,L,M,N,O,P,Q,R,S,T,U,V,W,X,Y,Z,s,b,c,d,e,g⟩) c⟩
  ⟨λc=>c.c27,λc f k=>C8.rec (motive:=λ_=>R) (λA B C D E F G H I J K L M N O P Q R S T U V W X Y Z a b c d e g=>f b λs=>k ⟨A,B,C,D,E,F,G,H,I,J,K,L,M,N,O,P,Q,R,S,T,U,V,W,X,Y,Z,a,s,c,d,e,g⟩) c⟩
  ⟨λc=>c.c28,λc f k=>C8.rec (motive:=λ_=>R) (λA B C D E F G H I J K L M N O P Q R S T U V W X Y Z a b c d e g=>f c λs=>k ⟨A,B,C,D,E,F,G,H,I,J,K,L,M,N,O,P,Q,R,S,T,U,V,W,X,Y,Z,a,b,s,d,e,g⟩) c⟩
  ⟨λc=>c.c29,λc f k=>C8.rec (motive:=λ_=>R) (λA B C D E F G H I J K L M N O P Q R S T U V W X Y Z a b c d e g=>f d λs=>k ⟨A,B,C,D,E,F,G,H,I,J,K,L,M,N,O,P,Q,R,S,T,U,V,W,X,Y,Z,a,b,c,s,e,g⟩) c⟩
  ⟨λc=>c.c30,λc f k=>C8.rec (motive:=λ_=>R) (λA B C D E F G H I J K L M N O P Q R S T U V W X Y Z a b c d e g=>f e λs=>k ⟨A,B,C,D,E,F,G,H,I,J,K,L,M,N,O,P,Q,R,S,T,U,V,W,X,Y,Z,a,b,c,d,s,g⟩) c⟩
  ⟨λc=>c.c31,λc f k=>C8.rec (motive:=λ_=>R) (λA B C D E F G H I J K L M N O P Q R S T U V W X Y Z a b c d e g=>f g λs=>k ⟨A,B,C,D,E,F,G,H,I,J,K,L,M,N,O,P,Q,R,S,T,U,V,W,X,Y,Z,a,b,c,d,e,s⟩) c⟩
  d
theorem vX(d:D)(c:C8 (T8 AObj)):(upH d).sel c=sel c d:=by cases d<;>rfl
theorem nZ(d:D)(c:C8 (T8 AObj))(g:T8 AObj->T8 AObj)(f:T8 AObj->(T8 AObj->R)->R)(hf:∀t k,f t k=k (g t))(k:C8 (T8 AObj)->R):(upH d).set c f k=k (upd c (g (sel c d)) d):=by cases d<;>exact hf _ _
structure GbH where
 run:T8 AObj->AObj
def g1H(u:UpH)(ih:GbH):GbH:=⟨λt=>T8.rec (motive_1:=λ_=>AObj) (motive_2:=λ_=>Unit) .dead (λ_ c _=>ih.run (u.sel c)) e8 t⟩
def getHS(p:Pth):GbH:=Pth.rec (motive:=λ_=>GbH) ⟨λt=>T8.rec (motive_1:=λ_=>AObj) (motive_2:=λ_=>Unit) .dead (λv _ _=>v) e8 t⟩ (λd _ ih=>g1H (upH d) ih) p
theorem cG(p:Pth)(t:T8 AObj):(getHS p).run t=T8.get .dead p t:=by
 induction p generalizing t with
 |e=>cases t<;>rfl
 |s d p ih=>
  cases t with
  |nil=>rfl
  |node v c=>show(getHS p).run ((upH d).sel c)=_;rw[vX,ih];rfl
structure PbH where
 run:AObj->T8 AObj->(T8 AObj->R)->R
def p1H(u:UpH)(ih:PbH):PbH:=⟨λx t k=>T8.rec (motive_1:=λ_=>R) (motive_2:=λ_=>Unit) (u.set nil8 (λt k=>ih.run x t k) λc=>k (.node .dead c)) (λv c _=>u.set c (λt k=>ih.run x t k) λc=>k (.node v c)) e8 t⟩
def putHc(p:Pth):PbH:=Pth.rec (motive:=λ_=>PbH) ⟨λx t k=>T8.rec (motive_1:=λ_=>R) (motive_2:=λ_=>Unit) (k (.node x nil8)) (λ_ c _=>k (.node x c)) e8 t⟩ (λd _ ih=>p1H (upH d) ih) p
theorem eh(p:Pth)(x:AObj)(t:T8 AObj)(k:T8 AObj->R):(putHc p).run x t k=k (T8.put .dead x p t):=by
 induction p generalizing t k with
 |e=>cases t<;>rfl
 |s d p ih=>
  cases t with
  |nil=>show(upH d).set nil8 (λt k=>(putHc p).run x t k) (λc=>k (.node .dead c))=_;rw[nZ d nil8 (T8.put .dead x p) _ (λt k=>ih t k),dv];rfl
  |node v c=>show(upH d).set c (λt k=>(putHc p).run x t k) (λc=>k (.node v c))=_;rw[nZ d c (T8.put .dead x p) _ (λt k=>ih t k)];rfl
structure UpE where
 sel:C8 (T8 (List AVal))->T8 (List AVal)
 set:C8 (T8 (List AVal))->(T8 (List AVal)->(T8 (List AVal)->R)->R)->(C8 (T8 (List AVal))->R)->R
def upE(d:D):UpE:=
 D.rec (motive:=λ_=>UpE)
  ⟨λc=>c.c0,λc f k=>C8.rec (motive:=λ_=>R) (λA B C D E F G H I J K L M N O P Q R S T U V W X Y Z a b c d e g=>f A λs=>k ⟨s,B,C,D,E,F,G,H,I,J,K,L,M,N,O,P,Q,R,S,T,U,V,W,X,Y,Z,a,b,c,d,e,g⟩) c⟩
  ⟨λc=>c.c1,λc f k=>C8.rec (motive:=λ_=>R) (λA B C D E F G H I J K L M N O P Q R S T U V W X Y Z a b c d e g=>f B λs=>k ⟨A,s,C,D,E,F,G,H,I,J,K,L,M,N,O,P,Q,R,S,T,U,V,W,X,Y,Z,a,b,c,d,e,g⟩) c⟩
  ⟨λc=>c.c2,λc f k=>C8.rec (motive:=λ_=>R) (λA B C D E F G H I J K L M N O P Q R S T U V W X Y Z a b c d e g=>f C λs=>k ⟨A,B,s,D,E,F,G,H,I,J,K,L,M,N,O,P,Q,R,S,T,U,V,W,X,Y,Z,a,b,c,d,e,g⟩) c⟩
  ⟨λc=>c.c3,λc f k=>C8.rec (motive:=λ_=>R) (λA B C D E F G H I J K L M N O P Q R S T U V W X Y Z a b c d e g=>f D λs=>k ⟨A,B,C,s,E,F,G,H,I,J,K,L,M,N,O,P,Q,R,S,T,U,V,W,X,Y,Z,a,b,c,d,e,g⟩) c⟩
  ⟨λc=>c.c4,λc f k=>C8.rec (motive:=λ_=>R) (λA B C D E F G H I J K L M N O P Q R S T U V W X Y Z a b c d e g=>f E λs=>k ⟨A,B,C,D,s,F,G,H,I,J,K,L,M,N,O,P,Q,R,S,T,U,V,W,X,Y,Z,a,b,c,d,e,g⟩) c⟩
  ⟨λc=>c.c5,λc f k=>C8.rec (motive:=λ_=>R) (λA B C D E F G H I J K L M N O P Q R S T U V W X Y Z a b c d e g=>f F λs=>k ⟨A,B,C,D,E,s,G,H,I,J,K,L,M,N,O,P,Q,R,S,T,U,V,W,X,Y,Z,a,b,c,d,e,g⟩) c⟩
  ⟨λc=>c.c6,λc f k=>C8.rec (motive:=λ_=>R) (λA B C D E F G H I J K L M N O P Q R S T U V W X Y Z a b c d e g=>f G λs=>k ⟨A,B,C,D,E,F,s,H,I,J,K,L,M,N,O,P,Q,R,S,T,U,V,W,X,Y,Z,a,b,c,d,e,g⟩) c⟩
  ⟨λc=>c.c7,λc f k=>C8.rec (motive:=λ_=>R) (λA B C D E F G H I J K L M N O P Q R S T U V W X Y Z a b c d e g=>f H λs=>k ⟨A,B,C,D,E,F,G,s,I,J,K,L,M,N,O,P,Q,R,S,T,U,V,W,X,Y,Z,a,b,c,d,e,g⟩) c⟩
  ⟨λc=>c.c8,λc f k=>C8.rec (motive:=λ_=>R) (λA B C D E F G H I J K L M N O P Q R S T U V W X Y Z a b c d e g=>f I λs=>k ⟨A,B,C,D,E,F,G,H,s,J,K,L,M,N,O,P,Q,R,S,T,U,V,W,X,Y,Z,a,b,c,d,e,g⟩) c⟩
  ⟨λc=>c.c9,λc f k=>C8.rec (motive:=λ_=>R) (λA B C D E F G H I J K L M N O P Q R S T U V W X Y Z a b c d e g=>f J λs=>k ⟨A,B,C,D,E,F,G,H,I,s,K,L,M,N,O,P,Q,R,S,T,U,V,W,X,Y,Z,a,b,c,d,e,g⟩) c⟩
  ⟨λc=>c.c10,λc f k=>C8.rec (motive:=λ_=>R) (λA B C D E F G H I J K L M N O P Q R S T U V W X Y Z a b c d e g=>f K λs=>k ⟨A,B,C,D,E,F,G,H,I,J,s,L,M,N,O,P,Q,R,S,T,U,V,W,X,Y,Z,a,b,c,d,e,g⟩) c⟩
  ⟨λc=>c.c11,λc f k=>C8.rec (motive:=λ_=>R) (λA B C D E F G H I J K L M N O P Q R S T U V W X Y Z a b c d e g=>f L λs=>k ⟨A,B,C,D,E,F,G,H,I,J,K,s,M,N,O,P,Q,R,S,T,U,V,W,X,Y,Z,a,b,c,d,e,g⟩) c⟩
  ⟨λc=>c.c12,λc f k=>C8.rec (motive:=λ_=>R) (λA B C D E F G H I J K L M N O P Q R S T U V W X Y Z a b c d e g=>f M λs=>k ⟨A,B,C,D,E,F,G,H,I,J,K,L,s,N,O,P,Q,R,S,T,U,V,W,X,Y,Z,a,b,c,d,e,g⟩) c⟩
  ⟨λc=>c.c13,λc f k=>C8.rec (motive:=λ_=>R) (λA B C D E F G H I J K L M N O P Q R S T U V W X Y Z a b c d e g=>f N λs=>k ⟨A,B,C,D,E,F,G,H,I,J,K,L,M,s,O,P,Q,R,S,T,U,V,W,X,Y,Z,a,b,c,d,e,g⟩) c⟩
  ⟨λc=>c.c14,λc f k=>C8.rec (motive:=λ_=>R) (λA B C D E F G H I J K L M N O P Q R S T U V W X Y Z a b c d e g=>f O λs=>k ⟨A,B,C,D,E,F,G,H,I,J,K,L,M,N,s,P,Q,R,S,T,U,V,W,X,Y,Z,a,b,c,d,e,g⟩) c⟩
  ⟨λc=>c.c15,λc f k=>C8.rec (motive:=λ_=>R) (λA B C D E F G H I J K L M N O P Q R S T U V W X Y Z a b c d e g=>f P λs=>k ⟨A,B,C,D,E,F,G,H,I,J,K,L,M,N,O,s,Q,R,S,T,U,V,W,X,Y,Z,a,b,c,d,e,g⟩) c⟩
  ⟨λc=>c.c16,λc f k=>C8.rec (motive:=λ_=>R) (λA B C D E F G H I J K L M N O P Q R S T U V W X Y Z a b c d e g=>f Q λs=>k ⟨A,B,C,D,E,F,G,H,I,J,K,L,M,N,O,P,s,R,S,T,U,V,W,X,Y,Z,a,b,c,d,e,g⟩) c⟩
  ⟨λc=>c.c17,λc f k=>C8.rec (motive:=λ_=>R) (λA B C D E F G H I J K L M N O P Q R S T U V W X Y Z a b c d e g=>f R λs=>k ⟨A,B,C,D,E,F,G,H,I,J,K,L,M,N,O,P,Q,s,S,T,U,V,W,X,Y,Z,a,b,c,d,e,g⟩) c⟩
  ⟨λc=>c.c18,λc f k=>C8.rec (motive:=λ_=>R) (λA B C D E F G H I J K L M N O P Q R S T U V W X Y Z a b c d e g=>f S λs=>k ⟨A,B,C,D,E,F,G,H,I,J,K,L,M,N,O,P,Q,R,s,T,U,V,W,X,Y,Z,a,b,c,d,e,g⟩) c⟩
  ⟨λc=>c.c19,λc f k=>C8.rec (motive:=λ_=>R) (λA B C D E F G H I J K L M N O P Q R S T U V W X Y Z a b c d e g=>f T λs=>k ⟨A,B,C,D,E,F,G,H,I,J,K,L,M,N,O,P,Q,R,S,s,U,V,W,X,Y,Z,a,b,c,d,e,g⟩) c⟩
  ⟨λc=>c.c20,λc f k=>C8.rec (motive:=λ_=>R) (λA B C D E F G H I J K L M N O P Q R S T U V W X Y Z a b c d e g=>f U λs=>k ⟨A,B,C,D,E,F,G,H,I,J,K,L,M,N,O,P,Q,R,S,T,s,V,W,X,Y,Z,a,b,c,d,e,g⟩) c⟩
  ⟨λc=>c.c21,λc f k=>C8.rec (motive:=λ_=>R) (λA B C D E F G H I J K L M N O P Q R S T U V W X Y Z a b c d e g=>f V λs=>k ⟨A,B,C,D,E,F,G,H,I,J,K,L,M,N,O,P,Q,R,S,T,U,s,W,X,Y,Z,a,b,c,d,e,g⟩) c⟩
  ⟨λc=>c.c22,λc f k=>C8.rec (motive:=λ_=>R) (λA B C D E F G H I J K L M N O P Q R S T U V W X Y Z a b c d e g=>f W λs=>k ⟨A,B,C,D,E,F,G,H,I,J,K,L,M,N,O,P,Q,R,S,T,U,V,s,X,Y,Z,a,b,c,d,e,g⟩) c⟩
  ⟨λc=>c.c23,λc f k=>C8.rec (motive:=λ_=>R) (λA B C D E F G H I J K L M N O P Q R S T U V W X Y Z a b c d e g=>f X λs=>k ⟨A,B,C,D,E,F,G,H,I,J,K,L,M,N,O,P,Q,R,S,T,U,V,W,s,Y,Z,a,b,c,d,e,g⟩) c⟩
  ⟨λc=>c.c24,λc f k=>C8.rec (motive:=λ_=>R) (λA B C D E F G H I J K L M N O P Q R S T U V W X Y Z a b c d e g=>f Y λs=>k ⟨A,B,C,D,E,F,G,H,I,J,K,L,M,N,O,P,Q,R,S,T,U,V,W,X,s,Z,a,b,c,d,e,g⟩) c⟩
  ⟨λc=>c.c25,λc f k=>C8.rec (motive:=λ_=>R) (λA B C D E F G H I J K L M N O P Q R S T U V W X Y Z a b c d e g=>f Z λs=>k ⟨A,B,C,D,E,F,G,H,I,J,K,L,M,N,O,P,Q,R,S,T,U,V,W,X,Y,s,a,b,c,d,e,g⟩) c⟩
  ⟨λc=>c.c26,λc f k=>C8.rec (motive:=λ_=>R) (λA B C D E F G H I J K L M N O P Q R S T U V W X Y Z a b c d e g=>f a λs=>k ⟨A,B,C,D,E,F,G,H,I,J,K,L,M,N,O,P,Q,R,S,T,U,V,W,X,Y,Z,s,b,c,d,e,g⟩) c⟩
  ⟨λc=>c.c27,λc f k=>C8.rec (motive:=λ_=>R) (λA B C D E F G H I J K L M N O P Q R S T U V W X Y Z a b c d e g=>f b λs=>k ⟨A,B,C,D,E,F,G,H,I,J,K,L,M,N,O,P,Q,R,S,T,U,V,W,X,Y,Z,a,s,c,d,e,g⟩) c⟩
  ⟨λc=>c.c28,λc f k=>C8.rec (motive:=λ_=>R) (λA B C D E F G H I J K L M N O P Q R S T U V W X Y Z a b c d e g=>f c λs=>k ⟨A,B,C,D,E,F,G,H,I,J,K,L,M,N,O,P,Q,R,S,T,U,V,W,X,Y,Z,a,b,s,d,e,g⟩) c⟩
  ⟨λc=>c.c29,λc f k=>C8.rec (motive:=λ_=>R) (λA B C D E F G H I J K L M N O P Q R S T U V W X Y Z a b c d e g=>f d λs=>k ⟨A,B,C,D,E,F,G,H,I,J,K,L,M,N,O,P,Q,R,S,T,U,V,W,X,Y,Z,a,b,c,s,e,g⟩) c⟩
  ⟨λc=>c.c30,λc f k=>C8.rec (motive:=λ_=>R) (λA B C D E F G H I J K L M N O P Q R S T U V W X Y Z a b c d e g=>f e λs=>k ⟨A,B,C,D,E,F,G,H,I,J,K,L,M,N,O,P,Q,R,S,T,U,V,W,X,Y,Z,a,b,c,d,s,g⟩) c⟩
  ⟨λc=>c.c31,λc f k=>C8.rec (motive:=λ_=>R) (λA B C D E F G H I J K L M N O P Q R S T U V W X Y Z a b c d e g=>f g λs=>k ⟨A,B,C,D,E,F,G,H,I,J,K,L,M,N,O,P,Q,R,S,T,U,V,W,X,Y,Z,a,b,c,d,e,s⟩) c⟩
  d
theorem vY(d:D)(c:C8 (T8 (List AVal))):(upE d).sel c=sel c d:=by cases d<;>rfl
theorem n8(d:D)(c:C8 (T8 (List AVal)))(g:T8 (List AVal)->T8 (List AVal))(f:T8 (List AVal)->(T8 (List AVal)->R)->R)(hf:∀t k,f t k=k (g t))(k:C8 (T8 (List AVal))->R):(upE d).set c f k=k (upd c (g (sel c d)) d):=by cases d<;>exact hf _ _
structure GbE where
 run:T8 (List AVal)->(List AVal)
def g1E(u:UpE)(ih:GbE):GbE:=⟨λt=>T8.rec (motive_1:=λ_=>(List AVal)) (motive_2:=λ_=>Unit) [] (λ_ c _=>ih.run (u.sel c)) e8 t⟩
def getES(p:Pth):GbE:=Pth.rec (motive:=λ_=>GbE) ⟨λt=>T8.rec (motive_1:=λ_=>(List AVal)) (motive_2:=λ_=>Unit) [] (λv _ _=>v) e8 t⟩ (λd _ ih=>g1E (upE d) ih) p
theorem vZ(p:Pth)(t:T8 (List AVal)):(getES p).run t=T8.get [] p t:=by
 induction p generalizing t with
 |e=>cases t<;>rfl
 |s d p ih=>
  cases t with
  |nil=>rfl
  |node v c=>show(getES p).run ((upE d).sel c)=_;rw[vY,ih];rfl
structure PbE where
 run:(List AVal)->T8 (List AVal)->(T8 (List AVal)->R)->R
def p1E(u:UpE)(ih:PbE):PbE:=⟨λx t k=>T8.rec (motive_1:=λ_=>R) (motive_2:=λ_=>Unit) (u.set nil8 (λt k=>ih.run x t k) λc=>k (.node [] c)) (λv c _=>u.set c (λt k=>ih.run x t k) λc=>k (.node v c)) e8 t⟩
def putEc(p:Pth):PbE:=Pth.rec (motive:=λ_=>PbE) ⟨λx t k=>T8.rec (motive_1:=λ_=>R) (motive_2:=λ_=>Unit) (k (.node x nil8)) (λ_ c _=>k (.node x c)) e8 t⟩ (λd _ ih=>p1E (upE d) ih) p
theorem gZ(p:Pth)(x:(List AVal))(t:T8 (List AVal))(k:T8 (List AVal)->R):(putEc p).run x t k=k (T8.put [] x p t):=by
 induction p generalizing t k with
 |e=>cases t<;>rfl
 |s d p ih=>
  cases t with
  |nil=>show(upE d).set nil8 (λt k=>(putEc p).run x t k) (λc=>k (.node [] c))=_;rw[n8 d nil8 (T8.put [] x p) _ (λt k=>ih t k),dv];rfl
  |node v c=>show(upE d).set c (λt k=>(putEc p).run x t k) (λc=>k (.node v c))=_;rw[n8 d c (T8.put [] x p) _ (λt k=>ih t k)];rfl
def succF(p:Pth):Pth:=Pth.rec (motive:=λ_=>Pth) (.s .d1 .e) (λd p ih=>D.rec (motive:=λ_=>Pth->Pth->Pth) (λp _=>.s .d1 p) (λp _=>.s .d2 p) (λp _=>.s .d3 p) (λp _=>.s .d4 p) (λp _=>.s .d5 p) (λp _=>.s .d6 p) (λp _=>.s .d7 p) (λp _=>.s .d8 p) (λp _=>.s .d9 p) (λp _=>.s .d10 p) (λp _=>.s .d11 p) (λp _=>.s .d12 p) (λp _=>.s .d13 p) (λp _=>.s .d14 p) (λp _=>.s .d15 p) (λp _=>.s .d16 p) (λp _=>.s .d17 p) (λp _=>.s .d18 p) (λp _=>.s .d19 p) (λp _=>.s .d20 p) (λp _=>.s .d21 p) (λp _=>.s .d22 p) (λp _=>.s .d23 p) (λp _=>.s .d24 p) (λp _=>.s .d25 p) (λp _=>.s .d26 p) (λp _=>.s .d27 p) (λp _=>.s .d28 p) (λp _=>.s .d29 p) (λp _=>.s .d30 p) (λp _=>.s .d31 p) (λ_ ih=>.s .d0 ih) d p ih) p
theorem ff(p:Pth):succF p=p.succ:=by
 induction p with
 |e=>rfl
 |s d p ih=>cases d<;>first|rfl|(show Pth.s .d0 (succF p)=Pth.s .d0 p.succ;rw[ih])
def outT(r:R):T8 AObj:=R.rec (motive:=λ_=>T8 AObj) .nil (λ_ H=>H.m) r
def setHK(H:AH)(id:Pth)(o:AObj):AH:=AH.rec (motive:=λ_=>AH) (λn m=>⟨n,outT ((putHc id).run o m λm=>.ok .pnil ⟨.e,m⟩)⟩) H
theorem ei(H:AH)(id:Pth)(o:AObj):setHK H id o=H.set id o:=by cases H;simp only[setHK,AH.set,eh];rfl
def addHK(H:AH)(o:AObj):AH:=AH.rec (motive:=λ_=>AH) (λn m=>⟨succF n,outT ((putHc n).run o m λm=>.ok .pnil ⟨.e,m⟩)⟩) H
theorem n_(H:AH)(o:AObj):addHK H o=H.add o:=by cases H;simp only[addHK,AH.add,eh,ff];rfl
def newHK(H:AH)(o:AObj)(k:Pth->AH->R):R:=AH.rec (motive:=λ_=>R) (λn m=>(putHc n).run o m λm=>k n ⟨succF n,m⟩) H
theorem aX(H:AH)(o:AObj)(k:Pth->AH->R):newHK H o k=k H.next (H.add o):=by cases H;simp only[newHK,AH.add,eh,ff]
def setHKc(H:AH)(id:Pth)(o:AObj)(k:AH->R):R:=AH.rec (motive:=λ_=>(AH->R)->R) (λn m k=>(putHc id).run o m λm=>k ⟨n,m⟩) H k
theorem dD(H:AH)(id:Pth)(o:AObj)(k:AH->R):setHKc H id o k=k (H.set id o):=by cases H;simp only[setHKc,AH.set,eh]
def nthF(i:Nat)(l:List AVal):AVal:=Nat.rec (motive:=λ_=>List AVal->AVal) (λl=>List.rec (motive:=λ_=>AVal) .bad (λa _ _=>a) l) (λ_ ih l=>List.rec (motive:=λ_=>AVal) .bad (λ_ t _=>ih t) l) i l
theorem v_(i:Nat)(l:List AVal):nthF i l=(match l[i]? with|some v=>v|none=>.bad):=by
 induction i generalizing l with
 |zero=>cases l<;>rfl
 |succ i ih=>cases l with
  |nil=>rfl
  |cons a l=>exact ih l
theorem oa(i:Nat)(l:List AVal):nthF i l=single false (takeN 1 (dropN i l)):=by
 induction i generalizing l with
 |zero=>cases l<;>rfl
 |succ i ih=>cases l with
  |nil=>rfl
  |cons a l=>exact ih l
def elemK(j:Nat)(dflt:List AVal)(els:T8 (List AVal)):List AVal:=List.rec (motive:=λ_=>List AVal->List AVal) (λd=>d) (λa l _ _=>a::l) ((getES (keyF j)).run els) dflt
theorem df(j:Nat)(dflt:List AVal)(els:T8 (List AVal)):elemK j dflt els=elem j dflt els:=by unfold elemK elem;rw[cF,vZ];cases T8.get [] (key j) els<;>rfl
theorem take_len{l:List AVal}{n:Nat}(h:lenIs l n=true):takeN n l=some l:=by
 induction l generalizing n with
 |nil=>cases n with
  |zero=>rfl
  |succ n=>cases h
 |cons a l ih=>cases n with
  |zero=>cases h
  |succ n=>simp only[takeN,ih (show lenIs l n=true from h)]
def takeK(n:Nat)(l:List AVal):Option (List AVal):=Bool.rec (motive:=λ_=>Option (List AVal)) (takeG n l) (some l) (lenG l n)
theorem oc(n:Nat)(l:List AVal):takeK n l=takeN n l:=by
 unfold takeK;rw[eg,nX];cases h:lenIs l n with
 |false=>rfl
 |true=>exact(take_len h).symm
def dropK(n:Nat)(l:List AVal):List AVal:=Bool.rec (motive:=λ_=>List AVal) (dropG n l) l (Nat.beq n 0)
theorem od(n:Nat)(l:List AVal):dropK n l=dropN n l:=by
 unfold dropK;rw[nY];cases h:Nat.beq n 0 with
 |false=>rfl
 |true=>rw[Nat.eq_of_beq_eq_true h];cases l<;>rfl
def singleK(agg:Bool)(l:Option (List AVal)):AVal:=Option.rec (motive:=λ_=>Bool->AVal) (λ_=>.bad) (λl agg=>Bool.rec (motive:=λ_=>AVal) (List.rec (motive:=λ_=>AVal) .bad (λa r _=>List.rec (motive:=λ_=>AVal) a (λ_ _ _=>.bad) r) l) (.agg l) agg) l agg
theorem oe(agg:Bool)(l:Option (List AVal)):singleK agg l=single agg l:=by
 cases l with
 |none=>rfl
 |some l=>cases agg with
  |true=>rfl
  |false=>match l with
   |[]=>rfl
   |[a]=>rfl
   |_::_::_=>rfl
def fwdV(H:AH)(agg:Bool)(sz:Nat)(to:Pth)(esz n:Nat)(d:List AVal)(els:T8 (List AVal))(off:Nat):AVal:=bif (loadF H agg sz 99 to off).eqv (cellsAt agg sz esz n d els off)then cellsAt agg sz esz n d els off else .bad
def ld1(o:AObj)(off:Nat)(H:AH):AVal:=
 AObj.rec (motive:=λ_=>Nat->AH->AVal) (λ_ _=>.bad) (λ_ _ _ _ _ _ _=>.bad) (λ_ _ _=>.bad)
  (λesz n d els off _=>Bool.rec (motive:=λ_=>AVal) .bad (nthF (Nat.mod off esz) (elemK (Nat.div off esz) d els)) (Nat.blt (Nat.div off esz) n))
  (λesz n d els off _=>Bool.rec (motive:=λ_=>AVal) .bad (nthF (Nat.mod off esz) (elemK (Nat.div off esz) d els)) (Nat.blt (Nat.div off esz) n))
  (λto esz n d els off H=>fwdV H false 1 to esz n d els off) o off H
def ldA(o:AObj)(agg:Bool)(sz off:Nat)(H:AH):AVal:=
 AObj.rec (motive:=λ_=>Bool->Nat->Nat->AH->AVal) (λ_ _ _ _=>.bad) (λ_ _ _ _ _ _ _ _ _=>.bad) (λ_ _ _ _ _=>.bad)
  (λesz n d els agg sz off _=>Bool.rec (motive:=λ_=>AVal) .bad (singleK agg (takeK sz (dropK (Nat.mod off esz) (elemK (Nat.div off esz) d els)))) (Nat.blt (Nat.div off esz) n))
  (λesz n d els agg sz off _=>Bool.rec (motive:=λ_=>AVal) .bad (singleK agg (takeK sz (dropK (Nat.mod off esz) (elemK (Nat.div off esz) d els)))) (Nat.blt (Nat.div off esz) n))
  (λto esz n d els agg sz off H=>fwdV H agg sz to esz n d els off) o agg sz off H
def ldK(agg:Bool)(sz:Nat)(id:Pth)(off:Nat)(H:AH):AVal:=Bool.rec (motive:=λ_=>AVal) (Bool.rec (motive:=λ_=>AVal) (ldA ((getHS id).run H.m) agg sz off H) (ld1 ((getHS id).run H.m) off H) (Nat.beq sz 1)) (ldA ((getHS id).run H.m) agg sz off H) agg
theorem dE(H:AH)(id:Pth)(off:Nat):ld1 ((getHS id).run H.m) off H=loadAt H false 1 id off:=by
 unfold loadAt;rw[cG];cases T8.get .dead id H.m with
 |arr esz n d els=>show Bool.rec (motive:=λ_=>AVal) .bad (nthF (Nat.mod off esz) (elemK (Nat.div off esz) d els)) (Nat.blt (Nat.div off esz) n)=cellsAt false 1 esz n d els off;rw[df,oa];unfold cellsAt;cases Nat.blt (Nat.div off esz) n<;>rfl
 |ro esz n d els=>show Bool.rec (motive:=λ_=>AVal) .bad (nthF (Nat.mod off esz) (elemK (Nat.div off esz) d els)) (Nat.blt (Nat.div off esz) n)=cellsAt false 1 esz n d els off;rw[df,oa];unfold cellsAt;cases Nat.blt (Nat.div off esz) n<;>rfl
 |_=>rfl
theorem kq(H:AH)(id:Pth)(agg:Bool)(sz off:Nat):ldA ((getHS id).run H.m) agg sz off H=loadAt H agg sz id off:=by
 unfold loadAt;rw[cG];cases T8.get .dead id H.m with
 |arr esz n d els=>show Bool.rec (motive:=λ_=>AVal) .bad (singleK agg (takeK sz (dropK (Nat.mod off esz) (elemK (Nat.div off esz) d els)))) (Nat.blt (Nat.div off esz) n)=cellsAt agg sz esz n d els off;rw[df,od,oc,oe];unfold cellsAt;cases Nat.blt (Nat.div off esz) n<;>rfl
 |ro esz n d els=>show Bool.rec (motive:=λ_=>AVal) .bad (singleK agg (takeK sz (dropK (Nat.mod off esz) (elemK (Nat.div off esz) d els)))) (Nat.blt (Nat.div off esz) n)=cellsAt agg sz esz n d els off;rw[df,od,oc,oe];unfold cellsAt;cases Nat.blt (Nat.div off esz) n<;>rfl
 |_=>rfl
theorem we(agg:Bool)(sz:Nat)(id:Pth)(off:Nat)(H:AH):ldK agg sz id off H=loadAt H agg sz id off:=by
 unfold ldK;cases agg with
 |true=>exact kq H id true sz off
 |false=>
  cases h:Nat.beq sz 1 with
  |false=>exact kq H id false sz off
  |true=>rw[Nat.eq_of_beq_eq_true h];exact dE H id off
def loadK(agg:Bool)(sz:Nat)(x:AVal)(H:AH):AVal:=AVal.rec (motive_1:=λ_=>Bool->Nat->AH->AVal) (motive_2:=λ_=>Unit) (λ_ _ _=>.bad) (λ_ _ _=>.bad) (λ_ _ _=>.bad) (λ_ _ _=>.bad) (λ_ _ _=>.bad) (λ_ _ _=>.bad) (λ_ _ _ _=>.bad) (λ_ _ _ _=>.bad) (λn k agg sz _=>Bool.rec (motive:=λ_=>AVal) (Bool.rec (motive:=λ_=>AVal) .bad (.int .u32 (.ofNat (magD n k))) (Nat.beq sz 1)) .bad agg) (λ_ _ _ _=>.bad) (λ_ _ _ _=>.bad) (λ_ _ _ _=>.bad) (λ_ _ _ _ _ _=>.bad) (λ_ _ _ _ _=>.bad) (λ_ _ _ _ _=>.bad) (λ_ _ _ _ _ _ _=>.bad) (λ_ _ _ _ _ _ _=>.bad) (λid off agg sz H=>ldK agg sz id off H) (λ_ _ _ _=>.bad) (λ_ _ _ _ _=>.bad) () (λ_ _ _ _=>()) x agg sz H
theorem bj(agg:Bool)(sz:Nat)(x:AVal)(H:AH):loadK agg sz x H=loadV H agg sz x:=by
 cases x with
 |ptr id off=>exact we _ _ _ _ _
 |mptr n k=>
  show Bool.rec (motive:=λ_=>AVal) (Bool.rec (motive:=λ_=>AVal) .bad (.int .u32 (.ofNat (magD n k))) (Nat.beq sz 1)) .bad agg=_;unfold loadV;cases agg with
  |true=>rfl
  |false=>cases Nat.beq sz 1<;>rfl
 |_=>rfl
def overK0(new l:List AVal):Option (List AVal):=List.rec (motive:=λ_=>List AVal->Option (List AVal)) (λl=>some l) (λa _ ih l=>List.rec (motive:=λ_=>Option (List AVal)) none (λ_ l _=>Option.rec (motive:=λ_=>Option (List AVal)) none (λq=>some (a::q)) (ih l)) l) new l
theorem wg(new l:List AVal):overK0 new l=over new l:=by
 induction new generalizing l with
 |nil=>cases l<;>rfl
 |cons a r ih=>cases l with
  |nil=>rfl
  |cons b l=>show Option.rec (motive:=λ_=>Option (List AVal)) none (λq=>some (a::q)) (overK0 r l)=_;rw[ih];simp only[over];cases over r l<;>rfl
def overK1(i:Nat)(new l:List AVal):Option (List AVal):=Nat.rec (motive:=λ_=>List AVal->Option (List AVal)) (λl=>overK0 new l) (λ_ ih l=>List.rec (motive:=λ_=>Option (List AVal)) none (λa l _=>Option.rec (motive:=λ_=>Option (List AVal)) none (λq=>some (a::q)) (ih l)) l) i l
theorem wh(i:Nat)(new l:List AVal):overK1 i new l=overAt i new l:=by
 induction i generalizing l with
 |zero=>show overK0 new l=_;rw[wg];cases l<;>rfl
 |succ i ih=>cases l with
  |nil=>rfl
  |cons a l=>show Option.rec (motive:=λ_=>Option (List AVal)) none (λq=>some (a::q)) (overK1 i new l)=_;rw[ih];simp only[overAt];cases overAt i new l<;>rfl
theorem wi{new l:List AVal}{n:Nat}(h:lenIs new n=true)(h':lenIs l n=true):over new l=some new:=by
 induction new generalizing l n with
 |nil=>cases n with
  |zero=>cases l with
   |nil=>rfl
   |cons a l=>cases h'
  |succ n=>cases h
 |cons a r ih=>cases n with
  |zero=>cases h
  |succ n=>cases l with
   |nil=>cases h'
   |cons b l=>simp only[over,ih (show lenIs r n=true from h) (show lenIs l n=true from h')]
def overK(sz esz i:Nat)(new l:List AVal):Option (List AVal):=Bool.rec (motive:=λ_=>Option (List AVal)) (overK1 i new l) (Bool.rec (motive:=λ_=>Option (List AVal)) (overK1 i new l) (Bool.rec (motive:=λ_=>Option (List AVal)) (overK1 i new l) (some new) (lenG l sz)) (Nat.beq i 0)) (Nat.beq sz esz)
theorem og{sz:Nat}(esz i:Nat){new:List AVal}(l:List AVal)(h:lenIs new sz=true):overK sz esz i new l=overAt i new l:=by
 unfold overK;rw[wh];cases Nat.beq sz esz with
 |false=>rfl
 |true=>cases hi:Nat.beq i 0 with
  |false=>rfl
  |true=>
   cases hl:lenG l sz with
   |false=>rfl
   |true=>cases Nat.eq_of_beq_eq_true hi;rw[eg]at hl;show some new=overAt 0 new l;have:=wi h hl;cases l<;>exact this.symm
def stO(o:AObj)(sz:Nat)(id:Pth)(off:Nat)(cs:List AVal)(H:AH)(k:AH->R):R:=
 AObj.rec (motive:=λ_=>Nat->Pth->Nat->List AVal->AH->(AH->R)->R) (λ_ _ _ _ _ _=>.no) (λ_ _ _ _ _ _ _ _ _ _ _=>.no) (λ_ _ _ _ _ _ _=>.no) (λ_ _ _ _ _ _ _ _ _ _=>.no)
  (λesz n d els sz id off cs H k=>Bool.rec (motive:=λ_=>R) .no
   (Option.rec (motive:=λ_=>R) .no (λc=>(putEc (keyF (Nat.div off esz))).run c els λe=>setHKc H id (.arr esz n d e) k) (overK sz esz (Nat.mod off esz) cs (elemK (Nat.div off esz) d els))) (Nat.blt (Nat.div off esz) n)) (λ_ _ _ _ _ _ _ _ _ _ _=>.no) o sz id off cs H k
def stP(sz:Nat)(id:Pth)(off:Nat)(u:AVal)(H:AH)(k:AH->R):R:=Bool.rec (motive:=λ_=>R) .no (Bool.rec (motive:=λ_=>R) .no (stO ((getHS id).run H.m) sz id off (cellsOfF u) H k) (lenG (cellsOfF u) sz)) (Nat.blt 0 sz)
def stK(sz:Nat)(x u:AVal)(H:AH)(k:AH->R):R:=AVal.rec (motive_1:=λ_=>Nat->AVal->AH->(AH->R)->R) (motive_2:=λ_=>Unit) (λ_ _ _ _=>.no) (λ_ _ _ _=>.no) (λ_ _ _ _=>.no) (λ_ _ _ _=>.no) (λ_ _ _ _=>.no) (λ_ _ _ _=>.no) (λ_ _ _ _ _=>.no) (λ_ _ _ _ _=>.no) (λ_ _ _ _ _ _=>.no) (λ_ _ _ _ _=>.no) (λ_ _ _ _ _=>.no) (λ_ _ _ _ _=>.no) (λ_ _ _ _ _ _ _=>.no) (λ_ _ _ _ _ _=>.no) (λ_ _ _ _ _ _=>.no) (λ_ _ _ _ _ _ _ _=>.no) (λ_ _ _ _ _ _ _ _=>.no) (λid off sz u H k=>stP sz id off u H k) (λ_ _ _ _ _=>.no) (λ_ _ _ _ _ _=>.no) () (λ_ _ _ _=>()) x sz u H k
theorem wj{sz:Nat}{x u:AVal}{H:AH}{k:AH->R}{r:AVal}{Hr:AH}(h:stK sz x u H k=.ok r Hr):∃v H',storeV H sz x u=.ok v H'/\v=undefV/\k H'=.ok r Hr:=by
 cases x with
 |ptr id off=>
  have h1:stP sz id off u H k=.ok r Hr:=h;unfold stP at h1;rw[eg,fe]at h1;simp only[storeV];cases hb:Nat.blt 0 sz with
  |false=>rw[hb]at h1;cases h1
  |true=>
   rw[hb]at h1;cases hl:lenIs u.cells sz with
   |false=>rw[hl]at h1;cases h1
   |true=>
    rw[hl]at h1;have h2:stO ((getHS id).run H.m) sz id off u.cells H k=.ok r Hr:=h1;simp only[Bool.and_self,cond];unfold storeAt;rw[cG]at h2;cases ho:T8.get .dead id H.m with
    |arr esz n d els=>
     rw[ho]at h2
     have h3:Bool.rec (motive:=λ_=>R) .no
      (Option.rec (motive:=λ_=>R) .no (λc=>(putEc (keyF (Nat.div off esz))).run c els λe=>setHKc H id (.arr esz n d e) k) (overK sz esz (Nat.mod off esz) u.cells (elemK (Nat.div off esz) d els))) (Nat.blt (Nat.div off esz) n)=.ok r Hr:=h2
     rw[og _ _ _ hl,df]at h3;simp only[];cases hn:Nat.blt (Nat.div off esz) n with
     |false=>rw[hn]at h3;cases h3
     |true=>
      rw[hn]at h3;cases hc:overAt (Nat.mod off esz) u.cells (elem (Nat.div off esz) d els)with
      |none=>rw[hc]at h3;cases h3
      |some c=>rw[hc]at h3;have h4:((putEc (keyF (Nat.div off esz))).run c els λe=>setHKc H id (.arr esz n d e) k)=.ok r Hr:=h3;rw[gZ,dD,cF]at h4;exact⟨_,_,rfl,rfl,h4⟩
    |_=>rw[ho]at h2;cases h2
 |_=>cases h
def bxP(v:AVal)(H:AH)(k:Pth->AH->R):R:=AVal.rec (motive_1:=λ_=>AVal->AH->(Pth->AH->R)->R) (motive_2:=λ_=>Unit) (λ_ _ _=>.no) (λv H k=>newHK H (.arr 1 1 [v] .nil) k) (λv H k=>newHK H (.arr 1 1 [v] .nil) k) (λv H k=>newHK H (.arr 1 1 [v] .nil) k) (λv H k=>newHK H (.arr 1 1 [v] .nil) k) (λv H k=>newHK H (.arr 1 1 [v] .nil) k) (λ_ v H k=>newHK H (.arr 1 1 [v] .nil) k) (λ_ v H k=>newHK H (.arr 1 1 [v] .nil) k) (λ_ _ v H k=>newHK H (.arr 1 1 [v] .nil) k) (λ_ v H k=>newHK H (.arr 1 1 [v] .nil) k) (λ_ v H k=>newHK H (.arr 1 1 [v] .nil) k) (λ_ v H k=>newHK H (.arr 1 1 [v] .nil) k) (λ_ _ _ v H k=>newHK H (.arr 1 1 [v] .nil) k) (λ_ _ _ _ _=>.no) (λl _ _ H k=>List.rec (motive:=λ_=>AH->(Pth->AH->R)->R) (λ_ _=>.no) (λa l _ H k=>newHK H (.arr (lenN (a::l)) 1 (a::l) .nil) k) l H k) (λ_ _ _ _ v H k=>newHK H (.arr 1 1 [v] .nil) k) (λ_ _ _ _ v H k=>newHK H (.arr 1 1 [v] .nil) k) (λ_ _ v H k=>newHK H (.arr 1 1 [v] .nil) k) (λ_ v H k=>newHK H (.arr 1 1 [v] .nil) k) (λ_ _ v H k=>newHK H (.arr 1 1 [v] .nil) k) () (λ_ _ _ _=>()) v v H k
theorem wk{v:AVal}{H:AH}{k:Pth->AH->R}{r:AVal}{Hr:AH}(h:bxP v H k=.ok r Hr):∃H',mkR H (boxV v H.next)=.ok (.ptr H.next 0) H'/\k H.next H'=.ok r Hr:=by
 cases v with
 |bad=>cases h
 |tup l=>cases h
 |agg l=>
  cases l with
  |nil=>cases h
  |cons a l=>have h1:newHK H (.arr (lenN (a::l)) 1 (a::l) .nil) k=.ok r Hr:=h;rw[aX]at h1;exact⟨_,rfl,h1⟩
 |_=>
  all_goals
   have h1:newHK H _ k=.ok r Hr:=h;rw[aX]at h1;exact⟨_,rfl,h1⟩
def elemsK(dflt:List AVal)(els:T8 (List AVal))(j n:Nat):List (List AVal):=Nat.rec (motive:=λ_=>Nat->List (List AVal)) (λ_=>[]) (λ_ ih j=>elemK j dflt els::ih (Nat.succ j)) n j
theorem oh(dflt:List AVal)(els:T8 (List AVal))(j n:Nat):elemsK dflt els j n=elemsFrom dflt els j n:=by
 induction n generalizing j with
 |zero=>rfl
 |succ n ih=>show elemK j dflt els::elemsK dflt els (Nat.succ j) n=_;rw[ih,df];rfl
def slcE(o:AObj)(esz off len:Nat):Option (List (List AVal)):=
 AObj.rec (motive:=λ_=>Nat->Nat->Nat->Option (List (List AVal))) (λ_ _ _=>none) (λ_ _ _ _ _ _ _ _=>none) (λ_ _ _ _=>none) (λ_ _ _ _ _ _ _=>none)
  (λe n d els esz off len=>Bool.rec (motive:=λ_=>Option (List (List AVal))) none (Bool.rec (motive:=λ_=>Option (List (List AVal))) none (Bool.rec (motive:=λ_=>Option (List (List AVal))) none
   (some (elemsK d els (Nat.div off esz) len)) (Nat.ble (Nat.add (Nat.div off esz) len) n)) (Nat.beq (Nat.mod off esz) 0)) (Nat.beq esz e)) (λ_ _ _ _ _ _ _ _=>none) o esz off len
theorem oi(H:AH)(esz:Nat)(id:Pth)(off len:Nat):slcE ((getHS id).run H.m) esz off len=sliceElems H esz id off len:=by
 unfold sliceElems;rw[cG];cases T8.get .dead id H.m with
 |arr e n d els=>
  show Bool.rec (motive:=λ_=>Option (List (List AVal))) none (Bool.rec (motive:=λ_=>Option (List (List AVal))) none (Bool.rec (motive:=λ_=>Option (List (List AVal))) none
   (some (elemsK d els (Nat.div off esz) len)) (Nat.ble (Nat.add (Nat.div off esz) len) n)) (Nat.beq (Nat.mod off esz) 0)) (Nat.beq esz e)=_
  rw[oh];simp only[];cases Nat.beq esz e<;>cases Nat.beq (Nat.mod off esz) 0<;>cases Nat.ble (Nat.add (Nat.div off esz) len) n<;>rfl
 |_=>rfl
def elsOf(H:AH)(esz:Nat)(x:AVal):Option (List (List AVal)):=AVal.rec (motive_1:=λ_=>AH->Nat->Option (List (List AVal))) (motive_2:=λ_=>Unit) (λ_ _=>none) (λ_ _=>none) (λ_ _=>some []) (λ_ _=>some []) (λ_ _=>none) (λ_ _=>none) (λ_ _ _=>none) (λ_ _ _=>none) (λ_ _ _ _=>none) (λ_ _ _=>none) (λ_ _ _=>none) (λ_ _ _=>none) (λ_ _ _ _ _=>none) (λ_ _ _ _=>none) (λ_ _ _ _=>none) (λid off len _ H esz=>Bool.rec (motive:=λ_=>Option (List (List AVal))) (slcE ((getHS id).run H.m) esz off len) (some []) (Nat.beq len 0)) (λid off len _ H esz=>Bool.rec (motive:=λ_=>Option (List (List AVal))) (slcE ((getHS id).run H.m) esz off len) (some []) (Nat.beq len 0)) (λ_ _ _ _=>none) (λ_ _ _=>none) (λ_ _ _ _=>none) () (λ_ _ _ _=>()) x H esz
theorem g_(H:AH)(esz:Nat)(x:AVal):elsOf H esz x=elemsOf H esz x:=by
 cases x with
 |sl id off len cap=>show Bool.rec (motive:=λ_=>Option (List (List AVal))) (slcE ((getHS id).run H.m) esz off len) (some []) (Nat.beq len 0)=_;rw[oi];simp only[elemsOf];cases Nat.beq len 0<;>rfl
 |sg id off len cap=>show Bool.rec (motive:=λ_=>Option (List (List AVal))) (slcE ((getHS id).run H.m) esz off len) (some []) (Nat.beq len 0)=_;rw[oi];simp only[elemsOf];cases Nat.beq len 0<;>rfl
 |_=>rfl
def putElsC(j:Nat)(new:List (List AVal))(t:T8 (List AVal))(k:T8 (List AVal)->R):R:=List.rec (motive:=λ_=>Nat->T8 (List AVal)->(T8 (List AVal)->R)->R) (λ_ t k=>k t) (λc _ ih j t k=>(putEc (keyF j)).run c t λt=>ih (Nat.succ j) t k) new j t k
theorem dg(j:Nat)(new:List (List AVal))(t:T8 (List AVal))(k:T8 (List AVal)->R):putElsC j new t k=k (putEls j new t):=by
 induction new generalizing j t k with
 |nil=>rfl
 |cons c l ih=>show(putEc (keyF j)).run c t (λt=>putElsC (Nat.succ j) l t k)=_;rw[gZ,ih,cF];rfl
def lenK(l:List (List AVal)):Nat:=List.rec (motive:=λ_=>Nat) 0 (λ_ _ ih=>Nat.succ ih) l
theorem hJ(l:List (List AVal)):lenK l=lenL l:=by
 induction l with
 |nil=>rfl
 |cons a l ih=>show Nat.succ (lenK l)=_;rw[ih];rfl
def smallK(need bytes:Nat)(a b:R):R:=Bool.rec (motive:=λ_=>R) b (Bool.rec (motive:=λ_=>R) b (Bool.rec (motive:=λ_=>R) b a (Nat.blt need 1099511627776)) (Nat.blt bytes 1048576)) (Nat.blt (Nat.mul need bytes) 1099511627776)
theorem fg(need bytes:Nat)(a b:R):smallK need bytes a b=(bif small need bytes then a else b):=by unfold smallK small;cases Nat.blt (Nat.mul need bytes) 1099511627776<;>cases Nat.blt bytes 1048576<;>cases Nat.blt need 1099511627776<;>rfl
def grownC(esz:Nat)(dflt:List AVal)(els:T8 (List AVal))(off len n:Nat)(new:List (List AVal))(k:AObj->R):R:=
 Bool.rec (motive:=λ_=>R) (putElsC 0 (elemsK dflt els (Nat.div off esz) len) .nil λe=>putElsC len new e λe=>k (.arr esz (Nat.add len n) dflt e))
  (putElsC len new els λe=>k (.arr esz (Nat.add len n) dflt e)) (Nat.beq off 0)
theorem ku(esz:Nat)(dflt:List AVal)(els:T8 (List AVal))(off len:Nat)(new:List (List AVal))(k:AObj->R):grownC esz dflt els off len (lenL new) new k=k (grown esz dflt els off len new):=by unfold grownC grown;simp only[dg,oh];cases Nat.beq off 0<;>rfl
def apSl(o:AObj)(esz bytes:Nat)(id:Pth)(off len cap n:Nat)(new:List (List AVal))(H:AH)(k:AVal->AH->R):R:=
 AObj.rec (motive:=λ_=>R) .no (λ_ _ _ _ _=>.no) (λ_=>.no) (λ_ _ _ _=>.no)
  (λe m d els=>Bool.rec (motive:=λ_=>R) .no (Bool.rec (motive:=λ_=>R) .no (Bool.rec (motive:=λ_=>R) .no
   (Bool.rec (motive:=λ_=>R) (smallK (Nat.add len n) bytes (grownC esz d els off len n new λo=>newHK H o λi H=>k (.sg i 0 (Nat.add len n) esz) H) .no)
    (Bool.rec (motive:=λ_=>R) .no (putElsC (Nat.add (Nat.div off esz) len) new els λe=>setHKc H id (.arr esz m d e) λH=>k (.sl id off (Nat.add len n) cap) H) (Nat.ble (Nat.add (Nat.add (Nat.div off esz) len) n) m))
    (Nat.ble (Nat.add len n) cap))
   (Nat.ble (Nat.add (Nat.div off esz) len) m)) (Nat.beq (Nat.mod off esz) 0)) (Nat.beq esz e)) (λ_ _ _ _ _=>.no) o
def apSg(o:AObj)(esz bytes:Nat)(id:Pth)(off len ez n:Nat)(new:List (List AVal))(H:AH)(k:AVal->AH->R):R:=
 AObj.rec (motive:=λ_=>R) .no (λ_ _ _ _ _=>.no) (λ_=>.no) (λ_ _ _ _=>.no)
  (λe m d els=>Bool.rec (motive:=λ_=>R) .no (Bool.rec (motive:=λ_=>R) .no (Bool.rec (motive:=λ_=>R) .no (Bool.rec (motive:=λ_=>R) .no
   (smallK (Nat.add len n) bytes (setHKc H id (bif Nat.beq off 0 then .fwd H.next esz m d els else .dead) λH=>grownC esz d els off len n new λo=>newHK H o λi H=>k (.sg i 0 (Nat.add len n) esz) H) .no)
   (Nat.ble (Nat.add (Nat.div off esz) len) m)) (Nat.beq (Nat.mod off esz) 0)) (Nat.beq esz ez)) (Nat.beq esz e)) (λ_ _ _ _ _=>.no) o
def apN(esz bytes:Nat)(s:AVal)(n:Nat)(new:List (List AVal))(H:AH)(k:AVal->AH->R):R:=AVal.rec (motive_1:=λ_=>Nat->Nat->Nat->List (List AVal)->AH->(AVal->AH->R)->R) (motive_2:=λ_=>Unit) (λ_ _ _ _ _ _=>.no) (λ_ _ _ _ _ _=>.no) (λ_ _ _ _ _ _=>.no) (λesz bytes n new H k=>smallK n bytes (putElsC 0 new .nil λe=>newHK H (.arr esz n [] e) λi H=>k (.sg i 0 n esz) H) .no) (λ_ _ _ _ _ _=>.no) (λ_ _ _ _ _ _=>.no) (λ_ _ _ _ _ _ _=>.no) (λ_ _ _ _ _ _ _=>.no) (λ_ _ _ _ _ _ _ _=>.no) (λ_ _ _ _ _ _ _=>.no) (λ_ _ _ _ _ _ _=>.no) (λ_ _ _ _ _ _ _=>.no) (λ_ _ _ _ _ _ _ _ _=>.no) (λ_ _ _ _ _ _ _ _=>.no) (λ_ _ _ _ _ _ _ _=>.no) (λid off len ez esz bytes n new H k=>apSg ((getHS id).run H.m) esz bytes id off len ez n new H k) (λid off len cap esz bytes n new H k=>apSl ((getHS id).run H.m) esz bytes id off len cap n new H k) (λ_ _ _ _ _ _ _ _=>.no) (λ_ _ _ _ _ _ _=>.no) (λ_ _ _ _ _ _ _ _=>.no) () (λ_ _ _ _=>()) s esz bytes n new H k
def apK(esz bytes:Nat)(s x:AVal)(H:AH)(k:AVal->AH->R):R:=
 Option.rec (motive:=λ_=>R) .no (λnew=>Bool.rec (motive:=λ_=>R) (Bool.rec (motive:=λ_=>R) (apN esz bytes s (lenK new) new H k) .no (Nat.beq esz 0))
  (R.rec (motive:=λ_=>R) .no (λv H=>k v H) (appendV H esz bytes s [])) (Nat.beq (lenK new) 0)) (elsOf H esz x)
theorem wm{esz bytes:Nat}{s x:AVal}{H:AH}{k:AVal->AH->R}{r:AVal}{Hr:AH}(h:apK esz bytes s x H k=.ok r Hr):∃new v H',elemsOf H esz x=some new/\appendV H esz bytes s new=.ok v H'/\k v H'=.ok r Hr:=by
 unfold apK at h;rw[g_]at h;cases he:elemsOf H esz x with
 |none=>rw[he]at h;cases h
 |some new=>
  rw[he]at h
  have h1:Bool.rec (motive:=λ_=>R) (Bool.rec (motive:=λ_=>R) (apN esz bytes s (lenK new) new H k) .no (Nat.beq esz 0))
   (R.rec (motive:=λ_=>R) .no (λv H=>k v H) (appendV H esz bytes s [])) (Nat.beq (lenK new) 0)=.ok r Hr:=h
  clear h;rw[hJ]at h1;cases hn:Nat.beq (lenL new) 0 with
  |true=>
   rw[hn]at h1
   have hnil:new=[]:=by
    cases new with
    |nil=>rfl
    |cons a l=>cases hn
   subst hnil;cases ha:appendV H esz bytes s []with
   |no=>rw[ha]at h1;cases h1
   |ok v H'=>rw[ha]at h1;exact⟨[],v,H',rfl,ha,h1⟩
  |false=>
   rw[hn]at h1;cases hz:Nat.beq esz 0 with
   |true=>rw[hz]at h1;cases h1
   |false=>
    rw[hz]at h1;have h2:apN esz bytes s (lenL new) new H k=.ok r Hr:=h1;clear h1;cases s with
    |snil=>
     have h3:smallK (lenL new) bytes (putElsC 0 new .nil λe=>newHK H (.arr esz (lenL new) [] e) λi H=>k (.sg i 0 (lenL new) esz) H) .no=.ok r Hr:=h2;rw[fg,dg,aX]at h3;cases hs:small (lenL new) bytes with
     |false=>rw[hs]at h3;cases h3
     |true=>rw[hs]at h3;exact⟨new,_,_,rfl,by unfold appendV;simp only[hn,hz,hs,cond],h3⟩
    |sl id off len cap=>
     have h3:apSl ((getHS id).run H.m) esz bytes id off len cap (lenL new) new H k=.ok r Hr:=h2;rw[cG]at h3;cases ho:T8.get .dead id H.m with
     |arr e m d els=>
      rw[ho]at h3
      have h4:Bool.rec (motive:=λ_=>R) .no (Bool.rec (motive:=λ_=>R) .no (Bool.rec (motive:=λ_=>R) .no
       (Bool.rec (motive:=λ_=>R) (smallK (Nat.add len (lenL new)) bytes (grownC esz d els off len (lenL new) new λo=>newHK H o λi H=>k (.sg i 0 (Nat.add len (lenL new)) esz) H) .no)
        (Bool.rec (motive:=λ_=>R) .no (putElsC (Nat.add (Nat.div off esz) len) new els λe=>setHKc H id (.arr esz m d e) λH=>k (.sl id off (Nat.add len (lenL new)) cap) H) (Nat.ble (Nat.add (Nat.add (Nat.div off esz) len) (lenL new)) m))
        (Nat.ble (Nat.add len (lenL new)) cap))
       (Nat.ble (Nat.add (Nat.div off esz) len) m)) (Nat.beq (Nat.mod off esz) 0)) (Nat.beq esz e)=.ok r Hr:=h3
      clear h3 h2;rw[fg,ku,aX,dg,dD]at h4;cases q1:Nat.beq esz e with
      |false=>rw[q1]at h4;cases h4
      |true=>
      rw[q1]at h4;cases q2:Nat.beq (Nat.mod off esz) 0 with
      |false=>rw[q2]at h4;cases h4
      |true=>
      rw[q2]at h4;cases q3:Nat.ble (Nat.add (Nat.div off esz) len) m with
      |false=>rw[q3]at h4;cases h4
      |true=>
      rw[q3]at h4;cases q4:Nat.ble (Nat.add len (lenL new)) cap with
      |true=>
       rw[q4]at h4;cases q5:Nat.ble (Nat.add (Nat.add (Nat.div off esz) len) (lenL new)) m with
       |false=>rw[q5]at h4;cases h4
       |true=>rw[q5]at h4;exact⟨new,_,_,rfl,by unfold appendV;simp only[hn,hz,ho,q1,q2,q3,q4,q5,cond,Bool.and_self],h4⟩
      |false=>
       rw[q4]at h4;cases q5:small (Nat.add len (lenL new)) bytes with
       |false=>rw[q5]at h4;cases h4
       |true=>rw[q5]at h4;exact⟨new,_,_,rfl,by unfold appendV;simp only[hn,hz,ho,q1,q2,q3,q4,q5,cond,Bool.and_self],h4⟩
     |_=>rw[ho]at h3;cases h3
    |sg id off len ez=>
     have h3:apSg ((getHS id).run H.m) esz bytes id off len ez (lenL new) new H k=.ok r Hr:=h2;rw[cG]at h3;cases ho:T8.get .dead id H.m with
     |arr e m d els=>
      rw[ho]at h3
      have h4:Bool.rec (motive:=λ_=>R) .no (Bool.rec (motive:=λ_=>R) .no (Bool.rec (motive:=λ_=>R) .no (Bool.rec (motive:=λ_=>R) .no
       (smallK (Nat.add len (lenL new)) bytes (setHKc H id (bif Nat.beq off 0 then .fwd H.next esz m d els else .dead) λH=>grownC esz d els off len (lenL new) new λo=>newHK H o λi H=>k (.sg i 0 (Nat.add len (lenL new)) esz) H) .no)
       (Nat.ble (Nat.add (Nat.div off esz) len) m)) (Nat.beq (Nat.mod off esz) 0)) (Nat.beq esz ez)) (Nat.beq esz e)=.ok r Hr:=h3
      clear h3 h2;rw[fg,dD,ku,aX]at h4;cases q1:Nat.beq esz e with
      |false=>rw[q1]at h4;cases h4
      |true=>
      rw[q1]at h4;cases q4:Nat.beq esz ez with
      |false=>rw[q4]at h4;cases h4
      |true=>
      rw[q4]at h4;cases q2:Nat.beq (Nat.mod off esz) 0 with
      |false=>rw[q2]at h4;cases h4
      |true=>
      rw[q2]at h4;cases q3:Nat.ble (Nat.add (Nat.div off esz) len) m with
      |false=>rw[q3]at h4;cases h4
      |true=>
      rw[q3]at h4;cases q5:small (Nat.add len (lenL new)) bytes with
      |false=>rw[q5]at h4;cases h4
      |true=>rw[q5]at h4;exact⟨new,_,_,rfl,by unfold appendV;simp only[hn,hz,ho,q1,q2,q3,q4,q5,cond,Bool.and_self];rfl,h4⟩
     |_=>rw[ho]at h3;cases h3
    |_=>cases h2
end Go.Ex
namespace Go.Ex
def R.le(r s:R):Prop:=∀v H,r=.ok v H->s=.ok v H
theorem R.le_of_eq{r s:R}(h:r=s):R.le r s:=λ_ _ e=>h▸e
theorem R.az{s:R}:R.le .no s:=λ_ _ e=>(by cases e)
def fz(n:Nat)(k:Nat->R):R:=Nat.rec (motive:=λ_=>(Nat->R)->R) (λk=>k 0) (λm _ k=>k (Nat.succ m)) n k
theorem aN(n:Nat)(k:Nat->R):fz n k=k n:=by cases n<;>rfl
def iv(n:Int)(k:Int->R):R:=Int.rec (motive:=λ_=>(Int->R)->R) (λm k=>fz m λm=>k (.ofNat m)) (λm k=>k (.negSucc m)) n k
theorem aY(n:Int)(k:Int->R):iv n k=k n:=by cases n<;>first|rfl|exact aN _ _
def pv(v:AVal)(k:AVal->R):R:=AVal.rec (motive_1:=λ_=>AVal->(AVal->R)->R) (motive_2:=λ_=>Unit) (λ_ _=>.no) (λv k=>k v) (λv k=>k v) (λv k=>k v) (λv k=>k v) (λv k=>k v) (λ_ v k=>k v) (λ_ v k=>k v) (λ_ _ v k=>k v) (λ_ v k=>k v) (λ_ v k=>k v) (λ_ v k=>k v) (λ_ _ _ v k=>k v) (λ_ _ v k=>k v) (λ_ _ v k=>k v) (λ_ _ _ _ v k=>k v) (λ_ _ _ _ v k=>k v) (λ_ _ v k=>k v) (λ_ v k=>k v) (λd n _ k=>iv n λn=>k (.int d n)) () (λ_ _ _ _=>()) v v k
theorem om(v:AVal)(k:AVal->R):pv v k=(match v with|.bad=>.no|v=>k v):=by cases v<;>first|rfl|exact aY _ _
def mv(v:AVal)(k:AVal->R):R:=AVal.rec (motive_1:=λ_=>AVal->(AVal->R)->R) (motive_2:=λ_=>Unit) (λ_ _=>.no) (λv k=>k v) (λv k=>k v) (λv k=>k v) (λv k=>k v) (λv k=>k v) (λ_ v k=>k v) (λ_ v k=>k v) (λ_ _ v k=>k v) (λ_ v k=>k v) (λ_ v k=>k v) (λ_ v k=>k v) (λ_ _ _ v k=>k v) (λ_ _ v k=>k v) (λ_ _ v k=>k v) (λ_ _ _ _ v k=>k v) (λ_ _ _ _ v k=>k v) (λ_ _ v k=>k v) (λ_ v k=>k v) (λ_ _ v k=>k v) () (λ_ _ _ _=>()) v v k
theorem oq(v:AVal)(k:AVal->R):mv v k=(match v with|.bad=>.no|v=>k v):=by cases v<;>rfl
def asI(d:IntKind)(v:AVal)(k:Int->R):R:=AVal.rec (motive_1:=λ_=>IntKind->(Int->R)->R) (motive_2:=λ_=>Unit) (λ_ _=>.no) (λ_ _=>.no) (λ_ _=>.no) (λ_ _=>.no) (λ_ _=>.no) (λ_ _=>.no) (λ_ _ _=>.no) (λ_ _ _=>.no) (λ_ _ _ _=>.no) (λ_ _ _=>.no) (λ_ _ _=>.no) (λ_ _ _=>.no) (λ_ _ _ _ _=>.no) (λ_ _ _ _=>.no) (λ_ _ _ _=>.no) (λ_ _ _ _ _ _=>.no) (λ_ _ _ _ _ _=>.no) (λ_ _ _ _=>.no) (λ_ _ _=>.no) (λl n d k=>Bool.rec (motive:=λ_=>R) .no (iv n k) (kindEqF l d)) () (λ_ _ _ _=>()) v d k
def aI(v:AVal)(k:Int->R):R:=AVal.rec (motive_1:=λ_=>(Int->R)->R) (motive_2:=λ_=>Unit) (λ_=>.no) (λ_=>.no) (λ_=>.no) (λ_=>.no) (λ_=>.no) (λ_=>.no) (λ_ _=>.no) (λ_ _=>.no) (λ_ _ _=>.no) (λ_ _=>.no) (λ_ _=>.no) (λ_ _=>.no) (λ_ _ _ _=>.no) (λ_ _ _=>.no) (λ_ _ _=>.no) (λ_ _ _ _ _=>.no) (λ_ _ _ _ _=>.no) (λ_ _ _=>.no) (λ_ _=>.no) (λl n k=>IntKind.rec (motive:=λ_=>Int->(Int->R)->R) (λ_ _=>.no) (λ_ _=>.no) (λ_ _=>.no) (λn k=>iv n k) (λ_ _=>.no) (λ_ _=>.no) (λ_ _=>.no) (λ_ _=>.no) l n k) () (λ_ _ _ _=>()) v k
def aM(v:AVal)(k:Int->R):R:=AVal.rec (motive_1:=λ_=>(Int->R)->R) (motive_2:=λ_=>Unit) (λ_=>.no) (λ_=>.no) (λ_=>.no) (λ_=>.no) (λ_=>.no) (λ_=>.no) (λ_ _=>.no) (λ_ _=>.no) (λ_ _ _=>.no) (λ_ _=>.no) (λ_ _=>.no) (λ_ _=>.no) (λ_ _ _ _=>.no) (λ_ _ _=>.no) (λ_ _ _=>.no) (λ_ _ _ _ _=>.no) (λ_ _ _ _ _=>.no) (λ_ _ _=>.no) (λ_ _=>.no) (λl n k=>IntKind.rec (motive:=λ_=>Int->(Int->R)->R) (λ_ _=>.no) (λ_ _=>.no) (λ_ _=>.no) (λn k=>k n) (λ_ _=>.no) (λ_ _=>.no) (λ_ _=>.no) (λ_ _=>.no) l n k) () (λ_ _ _ _=>()) v k
def asM(d:IntKind)(v:AVal)(k:Int->R):R:=AVal.rec (motive_1:=λ_=>IntKind->(Int->R)->R) (motive_2:=λ_=>Unit) (λ_ _=>.no) (λ_ _=>.no) (λ_ _=>.no) (λ_ _=>.no) (λ_ _=>.no) (λ_ _=>.no) (λ_ _ _=>.no) (λ_ _ _=>.no) (λ_ _ _ _=>.no) (λ_ _ _=>.no) (λ_ _ _=>.no) (λ_ _ _=>.no) (λ_ _ _ _ _=>.no) (λ_ _ _ _=>.no) (λ_ _ _ _=>.no) (λ_ _ _ _ _ _=>.no) (λ_ _ _ _ _ _=>.no) (λ_ _ _ _=>.no) (λ_ _ _=>.no) (λl n d k=>Bool.rec (motive:=λ_=>R) .no (k n) (kindEqF l d)) () (λ_ _ _ _=>()) v d k
def asB(v:AVal)(k:Bool->R):R:=AVal.rec (motive_1:=λ_=>(Bool->R)->R) (motive_2:=λ_=>Unit) (λ_=>.no) (λ_=>.no) (λ_=>.no) (λ_=>.no) (λ_=>.no) (λ_=>.no) (λ_ _=>.no) (λ_ _=>.no) (λ_ _ _=>.no) (λ_ _=>.no) (λ_ _=>.no) (λ_ _=>.no) (λ_ _ _ _=>.no) (λ_ _ _=>.no) (λ_ _ _=>.no) (λ_ _ _ _ _=>.no) (λ_ _ _ _ _=>.no) (λ_ _ _=>.no) (λb k=>k b) (λ_ _ _=>.no) () (λ_ _ _ _=>()) v k
def asP(v:AVal)(k:Pth->Nat->R):R:=AVal.rec (motive_1:=λ_=>(Pth->Nat->R)->R) (motive_2:=λ_=>Unit) (λ_=>.no) (λ_=>.no) (λ_=>.no) (λ_=>.no) (λ_=>.no) (λ_=>.no) (λ_ _=>.no) (λ_ _=>.no) (λ_ _ _=>.no) (λ_ _=>.no) (λ_ _=>.no) (λ_ _=>.no) (λ_ _ _ _=>.no) (λ_ _ _=>.no) (λ_ _ _=>.no) (λ_ _ _ _ _=>.no) (λ_ _ _ _ _=>.no) (λid off k=>k id off) (λ_ _=>.no) (λ_ _ _=>.no) () (λ_ _ _ _=>()) v k
def asQ(v:AVal)(k:Pth->Nat->R):R:=AVal.rec (motive_1:=λ_=>(Pth->Nat->R)->R) (motive_2:=λ_=>Unit) (λ_=>.no) (λ_=>.no) (λ_=>.no) (λ_=>.no) (λ_=>.no) (λ_=>.no) (λ_ _=>.no) (λ_ _=>.no) (λ_ _ _=>.no) (λ_ _=>.no) (λ_ _=>.no) (λ_ _=>.no) (λ_ _ _ _=>.no) (λ_ _ _=>.no) (λ_ _ _=>.no) (λ_ _ _ _ _=>.no) (λ_ _ _ _ _=>.no) (λid off k=>fz off λoff=>k id off) (λ_ _=>.no) (λ_ _ _=>.no) () (λ_ _ _ _=>()) v k
def cv(v:AVal)(a b:R):R:=AVal.rec (motive_1:=λ_=>R->R->R) (motive_2:=λ_=>Unit) (λ_ _=>.no) (λ_ _=>.no) (λ_ _=>.no) (λ_ _=>.no) (λ_ _=>.no) (λ_ _=>.no) (λ_ _ _=>.no) (λ_ _ _=>.no) (λ_ _ _ _=>.no) (λ_ _ _=>.no) (λ_ _ _=>.no) (λ_ _ _=>.no) (λ_ _ _ _ _=>.no) (λ_ _ _ _=>.no) (λ_ _ _ _=>.no) (λ_ _ _ _ _ _=>.no) (λ_ _ _ _ _ _=>.no) (λ_ _ _ _=>.no) (λt a b=>Bool.rec (motive:=λ_=>R) b a t) (λ_ _ _ _=>.no) () (λ_ _ _ _=>()) v a b
def gd(c:Bool)(v:AVal)(a b:R):R:=AVal.rec (motive_1:=λ_=>Bool->R->R->R) (motive_2:=λ_=>Unit) (λ_ _ _=>.no) (λ_ _ _=>.no) (λ_ _ _=>.no) (λ_ _ _=>.no) (λ_ _ _=>.no) (λ_ _ _=>.no) (λ_ _ _ _=>.no) (λ_ _ _ _=>.no) (λ_ _ _ _ _=>.no) (λ_ _ _ _=>.no) (λ_ _ _ _=>.no) (λ_ _ _ _=>.no) (λ_ _ _ _ _ _=>.no) (λl _ _ _ b=>List.rec (motive:=λ_=>R->R) (λb=>b) (λ_ _ _ _=>.no) l b) (λ_ _ _ _ _=>.no) (λ_ _ _ _ _ _ _=>.no) (λ_ _ _ _ _ _ _=>.no) (λ_ _ _ _ _=>.no) (λt c a b=>Bool.rec (motive:=λ_=>R) b a (boolEq t c)) (λ_ _ _ _ _=>.no) () (λ_ _ _ _=>()) v c a b
theorem wo{a b:IntKind}:kindEqF a b=true↔a=b:=by cases a<;>cases b<;>simp[kindEqF]
theorem ot{d:IntKind}{v:AVal}{k:Int->R}{r:AVal}{H:AH}(h:asM d v k=.ok r H):∃n,v=.int d n/\k n=.ok r H:=by
 cases v with
 |int l n=>
  have h2:Bool.rec (motive:=λ_=>R) .no (k n) (kindEqF l d)=.ok r H:=h;clear h;cases hk:kindEqF l d with
  |false=>rw[hk]at h2;cases h2
  |true=>rw[hk]at h2;cases wo.1 hk;exact⟨n,rfl,h2⟩
 |_=>cases h
theorem ou(d:IntKind)(v:AVal)(k:Int->R):asI d v k=asM d v k:=by
 cases v with
 |int l n=>show Bool.rec (motive:=λ_=>R) .no (iv n k) (kindEqF l d)=Bool.rec (motive:=λ_=>R) .no (k n) (kindEqF l d);rw[aY]
 |_=>rfl
theorem a9{v:AVal}{k:Int->R}{r:AVal}{H:AH}(h:aM v k=.ok r H):∃n,v=.int .i64 n/\k n=.ok r H:=by
 cases v with
 |int l n=>cases l<;>first|(cases h;done)|exact⟨n,rfl,h⟩
 |_=>cases h
theorem ov(v:AVal)(k:Int->R):aI v k=aM v k:=by
 cases v with
 |int l n=>cases l<;>first|rfl|exact aY _ _
 |_=>rfl
theorem bR{v:AVal}{k:Bool->R}{r:AVal}{H:AH}(h:asB v k=.ok r H):∃b,v=.bool b/\k b=.ok r H:=by
 cases v with
 |bool b=>exact⟨b,rfl,h⟩
 |_=>cases h
theorem fh{v:AVal}{k:Pth->Nat->R}{r:AVal}{H:AH}(h:asP v k=.ok r H):∃id off,v=.ptr id off/\k id off=.ok r H:=by
 cases v with
 |ptr id off=>exact⟨id,off,rfl,h⟩
 |_=>cases h
theorem hO{v:AVal}{a b:R}{r:AVal}{H:AH}(h:cv v a b=.ok r H):∃t,v=.bool t/\(bif t then a else b)=.ok r H:=by
 cases v with
 |bool t=>cases t<;>exact⟨_,rfl,h⟩
 |_=>cases h
theorem dG{c:Bool}{v:AVal}{a b:R}{r:AVal}{H:AH}(h:gd c v a b=.ok r H):((∃t,v=.bool t/\boolEq t c=true)/\a=.ok r H)\/(((∃t,v=.bool t/\boolEq t c=false)\/v=.tup [])/\b=.ok r H):=by
 cases v with
 |bool t=>
  have h:Bool.rec (motive:=λ_=>R) b a (boolEq t c)=.ok r H:=h;cases hb:boolEq t c with
  |true=>rw[hb]at h;exact .inl ⟨⟨t,rfl,hb⟩,h⟩
  |false=>rw[hb]at h;exact .inr ⟨.inl ⟨t,rfl,hb⟩,h⟩
 |tup l=>
  cases l with
  |nil=>exact .inr ⟨.inr rfl,h⟩
  |cons a l=>cases h
 |_=>cases h
def rv(r:R)(k:AVal->AH->R):R:=R.rec (motive:=λ_=>(AVal->AH->R)->R) (λ_=>.no) (λv H k=>k v H) r k
theorem ox{x:R}{k:AVal->AH->R}{r:AVal}{H:AH}(h:rv x k=.ok r H):∃v H',x=.ok v H'/\k v H'=.ok r H:=by
 cases x with
 |no=>cases h
 |ok v H'=>exact⟨v,H',rfl,h⟩
def l1(id:Pth)(off:Nat)(H:AH):AVal:=ld1 ((getHS id).run H.m) off H
def lA(id:Pth)(agg:Bool)(sz off:Nat)(H:AH):AVal:=ldA ((getHS id).run H.m) agg sz off H
inductive An where
 |any
 |i64
 |int (d:IntKind)
 |bool
 |ptr
abbrev vA:An:=.any
abbrev vI:An:=.i64
abbrev vB:An:=.bool
abbrev vP:An:=.ptr
def anA(a:An)(v:AVal)(k:AVal->R):R:=An.rec (motive:=λ_=>R) (k v) (aM v λn=>k (.int .i64 n)) (λd=>asM d v λn=>k (.int d n)) (asB v λb=>k (.bool b)) (asP v λid off=>k (.ptr id off)) a
theorem ej{a:An}{v:AVal}{k:AVal->R}{r:AVal}{H:AH}(h:anA a v k=.ok r H):k v=.ok r H:=by
 cases a with
 |any=>exact h
 |i64=>obtain⟨n,rfl,h2⟩:=a9 h;exact h2
 |int d=>obtain⟨n,rfl,h2⟩:=ot h;exact h2
 |bool=>obtain⟨n,rfl,h2⟩:=bR h;exact h2
 |ptr=>obtain⟨n,o,rfl,h2⟩:=fh h;exact h2
def pvA(a:An)(v:AVal)(k:AVal->R):R:=An.rec (motive:=λ_=>R) (pv v k) (aI v λn=>k (.int .i64 n)) (λd=>asI d v λn=>k (.int d n)) (asB v λb=>k (.bool b)) (asQ v λid off=>k (.ptr id off)) a
def mvA(a:An)(v:AVal)(k:AVal->R):R:=An.rec (motive:=λ_=>R) (mv v k) (aM v λn=>k (.int .i64 n)) (λd=>asM d v λn=>k (.int d n)) (asB v λb=>k (.bool b)) (asP v λid off=>k (.ptr id off)) a
theorem ky{a:An}{v:AVal}{k:AVal->R}{r:AVal}{H:AH}(h:mvA a v k=.ok r H):(∀h,notBad v h=.ok v h)/\k v=.ok r H:=by
 cases a with
 |any=>have h2:mv v k=.ok r H:=h;rw[oq]at h2;cases v<;>first|(cases h2;done)|exact⟨λ_=>rfl,h2⟩
 |i64=>obtain⟨n,rfl,h2⟩:=a9 h;exact⟨λ_=>rfl,h2⟩
 |int d=>obtain⟨n,rfl,h2⟩:=ot h;exact⟨λ_=>rfl,h2⟩
 |bool=>obtain⟨n,rfl,h2⟩:=bR h;exact⟨λ_=>rfl,h2⟩
 |ptr=>obtain⟨n,o,rfl,h2⟩:=fh h;exact⟨λ_=>rfl,h2⟩
theorem wq(a:An)(v:AVal)(k:AVal->R):pvA a v k=mvA a v k:=by
 cases a with
 |any=>show pv v k=mv v k;rw[om,oq]
 |i64=>show aI v _=aM v _;rw[ov]
 |int d=>show asI d v _=asM d v _;rw[ou]
 |bool=>rfl
 |ptr=>show asQ v _=asP v _;cases v<;>first|rfl|exact aN _ _
theorem oy{a:An}{v:AVal}{k:AVal->R}{r:AVal}{H:AH}(h:pvA a v k=.ok r H):(∀h,notBad v h=.ok v h)/\k v=.ok r H:=ky (wq a v k▸h)
def rvA(a:An)(x:R)(k:AVal->AH->R):R:=rv x λv H=>anA a v λv=>k v H
theorem kz{a:An}{x:R}{k:AVal->AH->R}{r:AVal}{H:AH}(h:rvA a x k=.ok r H):∃v H',x=.ok v H'/\k v H'=.ok r H:=by obtain⟨v,H',e,h⟩:=ox h;exact⟨v,H',e,ej h⟩
abbrev Env:Type:=Pth->AVal
def up(E:Env)(p:Pth)(v:AVal):Env:=λq=>bif pthEq q p then v else E q
def view(e:T8 AVal):Env:=λp=>e.get .bad p
theorem oz(e:T8 AVal)(p:Pth)(v:AVal):view (e.put .bad v p)=up (view e) p v:=by
 funext q;show T8.get .bad q (T8.put .bad v p e)=(bif pthEq q p then v else T8.get .bad q e);cases hq:pthEq q p with
 |true=>cases aD.1 hq;exact aL _ _ _ _
 |false=>
  have hn:p≠q:=λh=>by rw[aD.2 h.symm]at hq;cases hq
  exact aG _ _ hn _
theorem kG(E:Env)(p:Pth)(v:AVal)(h:E p=v):up E p v=E:=by
 funext q;show(bif pthEq q p then v else E q)=E q;cases hq:pthEq q p with
 |true=>cases aD.1 hq;exact h.symm
 |false=>rfl
structure EI where
 ε:Type
 get:ε->Pth->AVal
 put:ε->Pth->AVal->ε
 view:T8 AVal->ε
 get_view:∀e p,get (view e) p=e.get .bad p
 put_view:∀e p v,put (view e) p v=view (e.put .bad v p)
abbrev fnI:EI:=⟨Env,λE p=>E p,up,view,λ_ _=>rfl,λe p v=>(oz e p v).symm⟩
def setI(I:EI)(E:I.ε)(d:Dst)(v:AVal):I.ε:=match d with
 |.slot p=>I.put E p v
 |_=>E
theorem b8{I:EI}(e:T8 AVal)(d:Dst)(v:AVal):setI I (I.view e) d v=I.view (setE e d v):=by
 cases d with
 |slot p=>exact I.put_view e p v
 |_=>rfl
end Go.Ex
namespace Go.Ex
def opv(L:List AVal)(E:Env)(x:COpd):AVal:=match x with
 |.l i=>getL i L
 |.t p=>E p
 |.k v=>v
def opI(I:EI)(L:List AVal)(E:I.ε)(x:COpd):AVal:=match x with
 |.l i=>getL i L
 |.t p=>I.get E p
 |.k v=>v
theorem bH{I:EI}(L:List AVal)(e:T8 AVal):opI I L (I.view e)=λx=>COpd.ev L e x:=by funext x;cases x<;>first|rfl|exact I.get_view e _
theorem oC(L:List AVal)(e:T8 AVal):opv L (view e)=λx=>COpd.ev L e x:=by funext x;cases x<;>rfl
def evl(ev:COpd->AVal):List COpd->List AVal
 |[]=>[]
 |x::l=>ev x::evl ev l
theorem kH(L:List AVal)(e:T8 AVal)(xs:List COpd):evl (λx=>x.ev L e) xs=evs L e xs:=by
 induction xs with
 |nil=>rfl
 |cons x xs ih=>simp only[evl,evs,ih]
def evp(ev:COpd->AVal):List (Nat×COpd)->List (Nat×AVal)
 |[]=>[]
 |(j,x)::l=>(j,ev x)::evp ev l
def evq(ev:COpd->AVal):List (Nat×Nat×COpd)->List (Nat×Nat×AVal)
 |[]=>[]
 |(j,s,x)::l=>(j,s,ev x)::evq ev l
def buildE(ps:List (Nat×Nat×AVal))(z:List AVal):AVal:=List.rec (motive:=λ_=>List AVal->AVal) (λz=>.agg z) (λp _ ih z=>Prod.rec (motive:=λ_=>AVal) (λoff q=>Prod.rec (motive:=λ_=>AVal) (λsz x=>Bool.rec (motive:=λ_=>AVal) .bad (Bool.rec (motive:=λ_=>AVal) .bad (Option.rec (motive:=λ_=>AVal) .bad (λz'=>ih z') (overAt off (cellsOfF x) z)) (lenG (cellsOfF x) sz)) (Nat.blt 0 sz)) q) p) ps z
theorem wu(L:List AVal)(e:T8 AVal)(z:List AVal)(ps:List (Nat×Nat×COpd)):buildE (evq (λx=>x.ev L e) ps) z=buildV L e z ps:=by
 induction ps generalizing z with
 |nil=>rfl
 |cons p ps ih=>
  obtain⟨off,sz,x⟩:=p
  show Bool.rec (motive:=λ_=>AVal) .bad (Bool.rec (motive:=λ_=>AVal) .bad (Option.rec (motive:=λ_=>AVal) .bad (λz'=>buildE (evq (λx=>x.ev L e) ps) z') (overAt off (cellsOfF (x.ev L e)) z)) (lenG (cellsOfF (x.ev L e)) sz)) (Nat.blt 0 sz)
   = buildV L e z ((off,sz,x)::ps)
  simp only[ih,fe,eg];have hb:buildV L e z ((off,sz,x)::ps)=(bif Nat.blt 0 sz&&lenIs (x.ev L e).cells sz then match overAt off (x.ev L e).cells z with|some z'=>buildV L e z' ps|none=>.bad else .bad):=by rw[buildV];rfl
  rw[hb];cases Nat.blt 0 sz<;>cases lenIs (x.ev L e).cells sz<;>cases overAt off (x.ev L e).cells z<;>rfl
def iaI(esz:Nat)(x:AVal)(n:Int):AVal:=Int.rec (motive:=λ_=>AVal->Nat->AVal) (λj x esz=>iaddrJ x esz j) (λ_ _ _=>.bad) n x esz
def letH(H:AH)(k:AH->R):R:=k H
def exF(i:Nat)(x:AVal):AVal:=AVal.rec (motive_1:=λ_=>Nat->AVal) (motive_2:=λ_=>Unit) (λ_=>.bad) (λ_=>.bad) (λ_=>.bad) (λ_=>.bad) (λ_=>.bad) (λ_=>.bad) (λ_ _=>.bad) (λ_ _=>.bad) (λ_ _ _=>.bad) (λ_ _=>.bad) (λ_ _=>.bad) (λ_ _=>.bad) (λ_ _ _ _=>.bad) (λl _ i=>nthF i l) (λ_ _ _=>.bad) (λ_ _ _ _ _=>.bad) (λ_ _ _ _ _=>.bad) (λ_ _ _=>.bad) (λ_ _=>.bad) (λ_ _ _=>.bad) () (λ_ _ _ _=>()) x i
theorem wv(i:Nat)(x:AVal):exF i x=extractV x i:=by cases x<;>first|rfl|exact v_ _ _
def lenF(x:AVal):AVal:=AVal.rec (motive_1:=λ_=>AVal) (motive_2:=λ_=>Unit) (.bad) (.bad) (.int .i64 (.ofNat 0)) (.int .i64 (.ofNat 0)) (.bad) (.bad) (λ_=>.bad) (λn=>.int .i64 (.ofNat (magN n))) (λ_ _=>.bad) (λ_=>.bad) (λ_=>.bad) (λ_=>.bad) (λ_ _ _=>.bad) (λ_ _=>.bad) (λ_ _=>.bad) (λ_ _ n _=>.int .i64 (.ofNat n)) (λ_ _ n _=>.int .i64 (.ofNat n)) (λ_ _=>.bad) (λ_=>.bad) (λ_ _=>.bad) () (λ_ _ _ _=>()) x
theorem wx(x:AVal):lenF x=lenOf x:=by cases x<;>rfl
def convF(k:IntKind)(x:AVal):AVal:=AVal.rec (motive_1:=λ_=>IntKind->AVal) (motive_2:=λ_=>Unit) (λ_=>.bad) (λ_=>.bad) (λ_=>.bad) (λ_=>.bad) (λ_=>.bad) (λ_=>.bad) (λ_ _=>.bad) (λ_ _=>.bad) (λ_ _ _=>.bad) (λ_ _=>.bad) (λ_ _=>.bad) (λ_ _=>.bad) (λ_ _ _ _=>.bad) (λ_ _ _=>.bad) (λ_ _ _=>.bad) (λ_ _ _ _ _=>.bad) (λ_ _ _ _ _=>.bad) (λ_ _ _=>.bad) (λ_ _=>.bad) (λ_ n k=>.int k (wrapF k n)) () (λ_ _ _ _=>()) x k
theorem wy(k:IntKind)(x:AVal):convF k x=convV k x:=by cases x<;>first|rfl|(show AVal.int k (wrapF k _)=AVal.int k (wrapN k _);rw[kj])
def nilF(x:AVal):AVal:=AVal.rec (motive_1:=λ_=>AVal) (motive_2:=λ_=>Unit) (.bad) (.bad) (.bad) (.bad) (.bad) (.bad) (λ_=>.bad) (λ_=>.bad) (λ_ _=>.bad) (λ_=>.bad) (λ_=>.bad) (λ_=>.bad) (λf c _=>.fnv f c) (λ_ _=>.bad) (λ_ _=>.bad) (λ_ _ _ _=>.bad) (λ_ _ _ _=>.bad) (λid off=>.ptr id off) (λ_=>.bad) (λ_ _=>.bad) () (λ_ _ _ _=>()) x
theorem wz(x:AVal):nilF x=nilcV x:=by cases x<;>rfl
def pickF(c a b:AVal):AVal:=AVal.rec (motive_1:=λ_=>AVal->AVal->AVal) (motive_2:=λ_=>Unit) (λ_ _=>.bad) (λ_ _=>.bad) (λ_ _=>.bad) (λ_ _=>.bad) (λ_ _=>.bad) (λ_ _=>.bad) (λ_ _ _=>.bad) (λ_ _ _=>.bad) (λ_ _ _ _=>.bad) (λ_ _ _=>.bad) (λ_ _ _=>.bad) (λ_ _ _=>.bad) (λ_ _ _ _ _=>.bad) (λ_ _ _ _=>.bad) (λ_ _ _ _=>.bad) (λ_ _ _ _ _ _=>.bad) (λ_ _ _ _ _ _=>.bad) (λ_ _ _ _=>.bad) (λt a b=>Bool.rec (motive:=λ_=>AVal) b a t) (λ_ _ _ _=>.bad) () (λ_ _ _ _=>()) c a b
theorem wA(c a b:AVal):pickF c a b=pickV c a b:=by cases c<;>first|rfl|(rename_i t;cases t<;>rfl)
def nilB(op:BinOp)(x:AVal):AVal:=AVal.rec (motive_1:=λ_=>BinOp->AVal) (motive_2:=λ_=>Unit) (λ_=>.bad) (λop=>ofEq op (some true)) (λ_=>.bad) (λ_=>.bad) (λ_=>.bad) (λ_=>.bad) (λ_ _=>.bad) (λ_ _=>.bad) (λ_ _ _=>.bad) (λ_ _=>.bad) (λ_ _=>.bad) (λ_ _=>.bad) (λ_ _ _ _=>.bad) (λ_ _ _=>.bad) (λ_ _ _=>.bad) (λ_ _ _ _ _=>.bad) (λ_ _ _ _ _=>.bad) (λ_ _ op=>ofEq op (some false)) (λ_ _=>.bad) (λ_ _ _=>.bad) () (λ_ _ _ _=>()) x op
def snB(op:BinOp)(x:AVal):AVal:=AVal.rec (motive_1:=λ_=>BinOp->AVal) (motive_2:=λ_=>Unit) (λ_=>.bad) (λ_=>.bad) (λop=>ofEq op (some false)) (λop=>ofEq op (some true)) (λ_=>.bad) (λ_=>.bad) (λ_ _=>.bad) (λ_ _=>.bad) (λ_ _ _=>.bad) (λ_ _=>.bad) (λ_ _=>.bad) (λ_ _=>.bad) (λ_ _ _ _=>.bad) (λ_ _ _=>.bad) (λ_ _ _=>.bad) (λ_ _ _ _ op=>ofEq op (some false)) (λ_ _ _ _ op=>ofEq op (some false)) (λ_ _ _=>.bad) (λ_ _=>.bad) (λ_ _ _=>.bad) () (λ_ _ _ _=>()) x op
def cmpF(cls:Nat)(op:BinOp)(x y:AVal):AVal:=AVal.rec (motive_1:=λ_=>Nat->BinOp->AVal->AVal->AVal) (motive_2:=λ_=>Unit) (λcls op x y=>cmpV cls op x y) (λcls op x y=>Bool.rec (motive:=λ_=>AVal) (cmpV cls op x y) (nilB op x) (Nat.beq cls 1)) (λcls op x y=>cmpV cls op x y) (λcls op x y=>Bool.rec (motive:=λ_=>AVal) (cmpV cls op x y) (snB op x) (Nat.beq cls 2)) (λcls op x y=>cmpV cls op x y) (λcls op x y=>cmpV cls op x y) (λ_ cls op x y=>cmpV cls op x y) (λ_ cls op x y=>cmpV cls op x y) (λ_ _ cls op x y=>cmpV cls op x y) (λ_ cls op x y=>cmpV cls op x y) (λ_ cls op x y=>cmpV cls op x y) (λ_ cls op x y=>cmpV cls op x y) (λ_ _ _ cls op x y=>cmpV cls op x y) (λ_ _ cls op x y=>cmpV cls op x y) (λ_ _ cls op x y=>cmpV cls op x y) (λ_ _ _ _ cls op x y=>cmpV cls op x y) (λ_ _ _ _ cls op x y=>cmpV cls op x y) (λ_ _ cls op x y=>cmpV cls op x y) (λ_ cls op x y=>cmpV cls op x y) (λ_ _ cls op x y=>cmpV cls op x y) () (λ_ _ _ _=>()) y cls op x y
theorem wB(cls:Nat)(op:BinOp)(x y:AVal):cmpF cls op x y=cmpV cls op x y:=by
 cases y with
 |pnil=>
  show Bool.rec (motive:=λ_=>AVal) (cmpV cls op x .pnil) (nilB op x) (Nat.beq cls 1)=cmpV cls op x .pnil;cases hb:Nat.beq cls 1 with
  |false=>rfl
  |true=>cases Nat.eq_of_beq_eq_true hb;cases x<;>rfl
 |snil=>
  show Bool.rec (motive:=λ_=>AVal) (cmpV cls op x .snil) (snB op x) (Nat.beq cls 2)=cmpV cls op x .snil;cases hb:Nat.beq cls 2 with
  |false=>rfl
  |true=>cases Nat.eq_of_beq_eq_true hb;cases x<;>rfl
 |_=>rfl
def iaddrAJ(len esz:Nat)(x:AVal)(j:Nat):AVal:=AVal.rec (motive_1:=λ_=>Nat->Nat->Nat->AVal) (motive_2:=λ_=>Unit) (λ_ _ _=>.bad) (λ_ _ _=>.bad) (λ_ _ _=>.bad) (λ_ _ _=>.bad) (λ_ _ _=>.bad) (λ_ _ _=>.bad) (λ_ _ _ _=>.bad) (λ_ _ _ _=>.bad) (λ_ _ _ _ _=>.bad) (λ_ _ _ _=>.bad) (λ_ _ _ _=>.bad) (λ_ _ _ _=>.bad) (λ_ _ _ _ _ _=>.bad) (λ_ _ _ _ _=>.bad) (λ_ _ _ _ _=>.bad) (λ_ _ _ _ _ _ _=>.bad) (λ_ _ _ _ _ _ _=>.bad) (λid off j len esz=>Bool.rec (motive:=λ_=>AVal) .bad (.ptr id (Nat.add off (Nat.mul j esz))) (Nat.blt j len)) (λ_ _ _ _=>.bad) (λ_ _ _ _ _=>.bad) () (λ_ _ _ _=>()) x j len esz
def iaddrAF(len esz:Nat)(x i:AVal):AVal:=AVal.rec (motive_1:=λ_=>Nat->Nat->AVal->AVal) (motive_2:=λ_=>Unit) (λ_ _ _=>.bad) (λ_ _ _=>.bad) (λ_ _ _=>.bad) (λ_ _ _=>.bad) (λ_ _ _=>.bad) (λ_ _ _=>.bad) (λ_ _ _ _=>.bad) (λ_ _ _ _=>.bad) (λ_ _ _ _ _=>.bad) (λ_ _ _ _=>.bad) (λ_ _ _ _=>.bad) (λ_ _ _ _=>.bad) (λ_ _ _ _ _ _=>.bad) (λ_ _ _ _ _=>.bad) (λ_ _ _ _ _=>.bad) (λ_ _ _ _ _ _ _=>.bad) (λ_ _ _ _ _ _ _=>.bad) (λ_ _ _ _ _=>.bad) (λ_ _ _ _=>.bad) (λ_ n len esz x=>Int.rec (motive:=λ_=>Nat->Nat->AVal->AVal) (λj len esz x=>iaddrAJ len esz x j) (λ_ _ _ _=>.bad) n len esz x) () (λ_ _ _ _=>()) i len esz x
theorem wC(len esz:Nat)(x i:AVal):iaddrAF len esz x i=iaddrAV len esz x i:=by
 cases i with
 |int k n=>
  cases n with
  |negSucc n=>rfl
  |ofNat j=>
   cases x with
   |ptr id off=>show Bool.rec (motive:=λ_=>AVal) .bad (.ptr id (Nat.add off (Nat.mul j esz))) (Nat.blt j len)=_;simp only[iaddrAV];cases Nat.blt j len<;>rfl
   |_=>rfl
 |_=>rfl
def pureE(op:COp)(ev:COpd->AVal)(H:AH):AVal:=
 match op with
 |.move x=>ev x
 |.bin op x y=>bin3 op (ev x) (ev y)
 |.load agg sz x=>loadK agg sz (ev x) H
 |.faddr off x=>faddrF off (ev x)
 |.iaddr esz x i=>iaddrF esz (ev x) (ev i)
 |.extract x i=>exF i (ev x)
 |.len x=>lenF (ev x)
 |.conv k x=>convF k (ev x)
 |.pick c a b=>pickF (ev c) (ev a) (ev b)
 |.build z parts=>buildE (evq ev parts) z
 |.nilc x=>nilF (ev x)
 |.un op x=>unV op (ev x)
 |.mkfn f caps=>.fnv f (evl ev caps)
 |.slc esz x lo hi=>slcO esz (ev x) (lo.map ev) (hi.map ev)
 |.fld agg off sz x=>fldG agg off sz (ev x)
 |.iaddrA len esz x i=>iaddrAF len esz (ev x) (ev i)
 |.idxA agg len esz x i=>idxAV agg len esz (ev x) (ev i)
 |.idxS x i=>idxSV (ev x) (ev i)
 |.eqs neg offs x y=>eqsV neg offs (ev x) (ev y)
 |.cmp cls op x y=>cmpF cls op (ev x) (ev y)
 |.lens x=>lensOf (ev x)
 |.max xs=>maxV (evl ev xs)
 |.min xs=>minV (evl ev xs)
 |.lookup zero ok m k=>lookupV H zero ok (ev m) (ev k)
 |_=>.bad
theorem fj(op:COp)(L:List AVal)(e:T8 AVal)(H:AH):pureE op (λx=>x.ev L e) H=pureV op L e H:=by cases op<;>simp only[pureE,pureV,kp,vN,bj,vO,vQ,wv,wx,wy,wA,wu,wz,vR,wC,wB,kH]
def bslE(esz:Nat)(t:T8 (List AVal))(ps:List (Nat×AVal)):Option (T8 (List AVal)):=List.rec (motive:=λ_=>T8 (List AVal)->Option (T8 (List AVal))) (λt=>some t) (λp _ ih t=>Prod.rec (motive:=λ_=>Option (T8 (List AVal))) (λj x=>Bool.rec (motive:=λ_=>Option (T8 (List AVal))) none (ih (t.put [] (cellsOfF x) (keyF j))) (Nat.blt 0 esz&&lenIs (cellsOfF x) esz)) p) ps t
theorem oD(L:List AVal)(e:T8 AVal)(esz:Nat)(t:T8 (List AVal))(ps:List (Nat×COpd)):bslE esz t (evp (λx=>x.ev L e) ps)=bslV L e esz t ps:=by
 induction ps generalizing t with
 |nil=>rfl
 |cons p ps ih=>obtain⟨j,x⟩:=p;show Bool.rec (motive:=λ_=>Option (T8 (List AVal))) none (bslE esz (t.put [] (cellsOfF (x.ev L e)) (keyF j)) (evp (λx=>x.ev L e) ps)) (Nat.blt 0 esz&&lenIs (cellsOfF (x.ev L e)) esz)=bslV L e esz t ((j,x)::ps);rw[ih,fe,cF];simp only[bslV];cases (Nat.blt 0 esz&&lenIs (x.ev L e).cells esz)<;>rfl
def bslP(esz len:Nat)(z:List AVal)(ps:List (Nat×AVal))(id:Pth):Option (AObj×AVal):=Option.rec (motive:=λ_=>Option (AObj×AVal)) none (λels=>some (.arr esz len z els,.sl id 0 len len)) (bslE esz .nil ps)
def mkslP(esz bytes:Nat)(z:List AVal)(l c:AVal)(id:Pth):Option (AObj×AVal):=
 match natOf l,natOf c with
 |some len,some cap=>bif Nat.ble len cap&&small cap bytes then some (.arr esz cap z .nil,.sl id 0 len cap)else none
 |_,_=>none
def mkP(op:COp)(ev:COpd->AVal)(id:Pth):Option (AObj×AVal):=
 match op with
 |.box x=>boxV (ev x) id
 |.bsl esz len z parts=>bslP esz len z (evp ev parts) id
 |.mksl esz bytes z l c=>mkslP esz bytes z (ev l) (ev c) id
 |.mkmap=>some (.mp [],.map id)
 |_=>none
theorem kI(op:COp)(L:List AVal)(e:T8 AVal)(id:Pth):mkP op (λx=>x.ev L e) id=mkBlock L e op id:=by
 cases op with
 |bsl esz len z parts=>show Option.rec (motive:=λ_=>Option (AObj×AVal)) none (λels=>some (.arr esz len z els,.sl id 0 len len)) (bslE esz .nil (evp (λx=>x.ev L e) parts))=mkBlock L e (.bsl esz len z parts) id;rw[oD];simp only[mkBlock];cases bslV L e esz .nil parts<;>rfl
 |_=>rfl
def mkQ(r:Option (AObj×AVal))(H:AH)(k:AVal->AH->R):R:=Option.rec (motive:=λ_=>R) .no (λp=>Prod.rec (motive:=λ_=>R) (λo v=>k v (addHK H o)) p) r
theorem oE{r:Option (AObj×AVal)}{H:AH}{k:AVal->AH->R}{x:AVal}{Hr:AH}(h:mkQ r H k=.ok x Hr):∃v H',mkR H r=.ok v H'/\k v H'=.ok x Hr:=by
 cases r with
 |none=>cases h
 |some p=>obtain⟨o,v⟩:=p;have h:k v (addHK H o)=.ok x Hr:=h;rw[n_]at h;exact⟨v,_,rfl,h⟩
def bsQ(esz len:Nat)(z:List AVal)(ps:List (Nat×AVal))(H:AH)(k:Pth->AH->R):R:=Option.rec (motive:=λ_=>R) .no (λels=>newHK H (.arr esz len z els) k) (bslE esz .nil ps)
def copyE(esz:Nat)(d s:AVal)(H:AH):R:=Option.rec (motive:=λ_=>R) .no (λnew=>copyV H esz d new) (elemsOf H esz s)
def opR(cal:Caller)(a:An)(op:COp)(ev:COpd->AVal)(H:AH)(k:AVal->AH->R):R:=
 match op with
 |.store sz x v=>stK sz (ev x) (ev v) H λH'=>k undefV H'
 |.call f xs=>rvA a (cal (.fnv f []) (evl ev xs) H) k
 |.callv f xs=>rvA a (cal (ev f) (evl ev xs) H) k
 |.box x=>bxP (ev x) H λi H'=>anA a (.ptr i 0) λv=>k v H'
 |.bsl esz len z ps=>bsQ esz len z (evp ev ps) H λi H'=>anA a (.sl i 0 len len) λv=>k v H'
 |.mksl esz bytes z l c=>mkQ (mkslP esz bytes z (ev l) (ev c) H.next) H λv H'=>anA a v λv=>k v H'
 |.mkmap=>mkQ (some (.mp [],.map H.next)) H λv H'=>anA a v λv=>k v H'
 |.append esz bytes s x=>apK esz bytes (ev s) (ev x) H λv H'=>anA a v λv=>k v H'
 |.copy esz d s=>rvA a (copyE esz (ev d) (ev s) H) k
 |.mapup m x v=>rv (mapupV H (ev m) (ev x) (ev v)) k
 |.move x=>mvA a (ev x) λv=>k v H
 |op=>pvA a (pureE op ev H) λv=>k v H
section
variable(F:T8 CFn)
def Cal(cal:Caller):Prop:=∀g args H v H',cal g args H=.ok v H'->∃n,∀m,n<=m->caller F (exec F m) g args H=.ok v H'
end
variable{F:T8 CFn}{cal:Caller}{I:EI}
theorem kJ(hc:Cal F cal){a:An}{op:COp}{L:List AVal}{e:T8 AVal}{H:AH}{k:AVal->AH->R}{r:AVal}{Hr:AH}(h:opR cal a op (λx=>x.ev L e) H k=.ok r Hr):∃n v H',(∀m,n<=m->doOp (caller F (exec F m)) op L e H=.ok v H')/\k v H'=.ok r Hr:=by
 have pure (op:COp) (h:pvA a (pureE op (λx=>x.ev L e) H) (λv=>k v H)=.ok r Hr) (hd:∀c,doOp c op L e H=notBad (pureV op L e H) H):∃n v H',(∀m,n<=m->doOp (caller F (exec F m)) op L e H=.ok v H')/\k v H'=.ok r Hr:=by obtain⟨hb,h⟩:=oy h;rw[fj]at hb h;exact⟨0,_,H,λm _=>by rw[hd];exact hb H,h⟩
 cases op with
 |store sz x v=>obtain⟨w,H',e1,e2,h⟩:=wj h;exact⟨0,w,H',λm _=>e1,e2▸h⟩
 |call f xs=>obtain⟨w,H',e1,h⟩:=kz h;obtain⟨n,hn⟩:=hc _ _ _ _ _ e1;exact⟨n,w,H',λm hm=>by have:=hn m hm;rw[kH]at this;exact this,h⟩
 |callv f xs=>obtain⟨w,H',e1,h⟩:=kz h;obtain⟨n,hn⟩:=hc _ _ _ _ _ e1;exact⟨n,w,H',λm hm=>by have:=hn m hm;rw[kH]at this;exact this,h⟩
 |box x=>obtain⟨H',e1,h⟩:=wk h;exact⟨0,_,H',λm _=>e1,ej h⟩
 |bsl esz len z ps=>
  have h:bsQ esz len z (evp (λx=>x.ev L e) ps) H (λi H'=>anA a (.sl i 0 len len) λv=>k v H')=.ok r Hr:=h;unfold bsQ at h;rw[oD]at h;cases hb:bslV L e esz .nil ps with
  |none=>rw[hb]at h;cases h
  |some els=>rw[hb]at h;have h:newHK H (.arr esz len z els) (λi H'=>anA a (.sl i 0 len len) λv=>k v H')=.ok r Hr:=h;rw[aX]at h;exact⟨0,.sl H.next 0 len len,_,λm _=>by simp only[doOp,mkBlock,hb];rfl,ej h⟩
 |mksl esz bytes z l c=>obtain⟨w,H',e1,h⟩:=oE (k:=λv H'=>anA a v λv=>k v H') h;have e2:mkR H (mkP (.mksl esz bytes z l c) (λx=>x.ev L e) H.next)=.ok w H':=e1;rw[kI]at e2;exact⟨0,w,H',λm _=>e2,ej h⟩
 |mkmap=>obtain⟨w,H',e1,h⟩:=oE (r:=some (.mp [],.map H.next)) (H:=H) (k:=λv H'=>anA a v λv=>k v H') h;have e2:mkR H (mkP .mkmap (λx=>x.ev L e) H.next)=.ok w H':=e1;rw[kI]at e2;exact⟨0,w,H',λm _=>e2,ej h⟩
 |append esz bytes s x=>obtain⟨new,w,H',e1,e2,h⟩:=wm h;exact⟨0,w,H',λm _=>by simp only[doOp,e1,e2],ej h⟩
 |copy esz d s=>obtain⟨w,H',e1,h⟩:=kz h;refine⟨0,w,H',λm _=>?_,h⟩;show(match elemsOf H esz (s.ev L e)with|some new=>copyV H esz (d.ev L e) new|none=>.no)=_;rw[<-e1];unfold copyE;cases elemsOf H esz (s.ev L e)<;>rfl
 |mapup m x v=>obtain⟨w,H',e1,h⟩:=ox h;exact⟨0,w,H',λ_ _=>e1,h⟩
 |move x=>obtain⟨hb,h⟩:=ky h;exact⟨0,_,H,λm _=>hb H,h⟩
 |_=>exact pure _ h (λ_=>rfl)
def hdA:List An->An
 |[]=>.any
 |a::_=>a
def tlA:List An->List An
 |[]=>[]
 |_::l=>l
def gdJ(c:Bool)(v:AVal)(op:(AVal->AH->R)->R)(J:AVal->AH->R)(H:AH):R:=gd c v (op J) (J undefV H)
inductive Seg where
 |one (o:CO)
 |run (x:COpd) (b:Bool) (ops:List COp)
def ixEq:Ix->Ix->Bool
 |.z,.z=>true
 |.s a,.s b=>ixEq a b
 |_,_=>false
def bEq:Bool->Bool->Bool
 |true,true=>true
 |false,false=>true
 |_,_=>false
def shEq:COpd->COpd->Bool
 |.l i,.l (.s j)=>ixEq i j
 |.t p,.t q=>pthEq p q
 |_,_=>false
def shift:COpd->COpd
 |.l i=>.l (.s i)
 |x=>x
def seg1(op:COp)(x:COpd)(b:Bool):List Seg->List Seg
 |.run y c ops::r=>bif shEq x y&&bEq b c then .run x b (op::ops)::r else .run x b [op]::.run y c ops::r
 |r=>.run x b [op]::r
def segs:List CO->List Seg
 |[]=>[]
 |⟨.push,op,some (x,b)⟩::l=>seg1 op x b (segs l)
 |o::l=>.one o::segs l
def flatR(b:Bool):COpd->List COp->List CO
 |_,[]=>[]
 |x,op::r=>⟨.push,op,some (x,b)⟩::flatR b (shift x) r
def flat:List Seg->List CO
 |[]=>[]
 |.one o::r=>o::flat r
 |.run x b ops::r=>flatR b x ops++flat r
theorem wD{a b:Ix}(h:ixEq a b=true):a=b:=by
 induction a generalizing b with
 |z=>cases b with
  |z=>rfl
  |s b=>cases h
 |s a ih=>cases b with
  |z=>cases h
  |s b=>rw[ih (show ixEq a b=true from h)]
theorem wE{x y:COpd}(h:shEq x y=true):y=shift x:=by
 cases x with
 |l i=>cases y with
  |l j=>cases j with
   |z=>cases h
   |s j=>rw[wD (show ixEq i j=true from h)];rfl
  |_=>cases h
 |t p=>cases y with
  |t q=>rw[aD.1 (show pthEq p q=true from h)];rfl
  |_=>cases h
 |k v=>cases h
theorem wF(op:COp)(x:COpd)(b:Bool)(l:List Seg):flat (seg1 op x b l)=⟨.push,op,some (x,b)⟩::flat l:=by
 cases l with
 |nil=>rfl
 |cons s r=>cases s with
  |one o=>rfl
  |run y c ops=>
   simp only[seg1];cases hs:shEq x y with
   |false=>rfl
   |true=>cases hb:bEq b c with
    |false=>rfl
    |true=>
     have:b=c:=by cases b<;>cases c<;>first|rfl|cases hb
     subst this;rw[wE hs];rfl
theorem hY(l:List CO):flat (segs l)=l:=by
 induction l with
 |nil=>rfl
 |cons o l ih=>
  obtain⟨d,op,g⟩:=o;cases d with
  |push=>cases g with
   |none=>show _::flat (segs l)=_;rw[ih]
   |some g=>obtain⟨x,b⟩:=g;show flat (seg1 op x b (segs l))=_;rw[wF,ih]
  |_=>show _::flat (segs l)=_;rw[ih]
def Jt:Nat->Type
 |0=>AH->R
 |n+1=>AVal->Jt n
def undefs(n:Nat):Jt n->AH->R:=Nat.rec (motive:=λn=>Jt n->AH->R) (λJ H=>J H) (λ_ ih J H=>ih (J undefV) H) n
def cur:(n:Nat)->List AVal->(List AVal->AH->R)->Jt n
 |0,L,f=>f L
 |n+1,L,f=>λv=>cur n (v::L) f
def runK(I:EI)(cal:Caller):(ops:List COp)->List An->List AVal->I.ε->AH->Jt ops.length->R
 |[],_,_,_,H,J=>J H
 |op::r,as,L,E,H,J=>opR cal (hdA as) op (opI I L E) H λv H'=>runK I cal r (tlA as) (v::L) E H' (J v)
def dropA:Nat->List An->List An
 |0,l=>l
 |n+1,l=>dropA n (tlA l)
def gdR(n:Nat)(c:Bool)(v:AVal)(op:Jt n->R)(J:Jt n)(H:AH):R:=gd c v (op J) (undefs n J H)
def gops(I:EI)(cal:Caller):List Seg->List An->List AVal->I.ε->AH->(List AVal->I.ε->AH->R)->R
 |[],_,L,E,H,k=>k L E H
 |.one o::l,as,L,E,H,k=>match o.guard with
  |none=>opR cal (hdA as) o.op (opI I L E) H λv H'=>gops I cal l (tlA as) (setL L o.dst v) (setI I E o.dst v) H' k
  |some (x,b)=>gdJ b (opI I L E x) (λJ=>opR cal .any o.op (opI I L E) H J) (λv H'=>gops I cal l (tlA as) (setL L o.dst v) (setI I E o.dst v) H' k) H
 |.run x b ops::l,as,L,E,H,k=>gdR ops.length b (opI I L E x) (λJ=>runK I cal ops as L E H J) (cur ops.length L λL' H'=>gops I cal l (dropA ops.length as) L' E H' k) H
def pushN:Nat->List AVal->List AVal
 |0,L=>L
 |n+1,L=>pushN n (undefV::L)
theorem wG(n:Nat):∀(L:List AVal) (f:List AVal->AH->R) (H:AH),undefs n (cur n L f) H=f (pushN n L) H:=by
 induction n with
 |zero=>intro L f H;rfl
 |succ n ih=>intro L f H;exact ih (undefV::L) f H
def goV(b:Bool)(v:AVal):Prop:=∃t,v=.bool t/\boolEq t b=true
def skipV(b:Bool)(v:AVal):Prop:=(∃t,v=.bool t/\boolEq t b=false)\/v=.tup []
theorem kK{b:Bool}{L:List AVal}{e:T8 AVal}{x:COpd}(h:goV b (x.ev L e)):wants L e (some (x,b))=.go:=by obtain⟨t,hv,ht⟩:=h;simp only[wants,hv,ht,cond]
theorem kL{b:Bool}{L:List AVal}{e:T8 AVal}{x:COpd}(h:skipV b (x.ev L e)):wants L e (some (x,b))=.skip:=by
 rcases h with⟨t,hv,ht⟩|hv
 .simp only[wants,hv,ht,cond]
 .simp only[wants,hv]
theorem oF(x:COpd)(v:AVal)(L:List AVal)(e:T8 AVal):(shift x).ev (v::L) e=x.ev L e:=by cases x<;>rfl
theorem wH(call:Caller)(b:Bool)(ops:List COp):∀(x:COpd) (L:List AVal) (e:T8 AVal) (H:AH) (l:List CO),skipV b (x.ev L e)->runOps call (flatR b x ops++l) L e H=runOps call l (pushN ops.length L) e H:=by
 induction ops with
 |nil=>intro x L e H l _;rfl
 |cons op r ih=>intro x L e H l hs;show runOps call (⟨.push,op,some (x,b)⟩::(flatR b (shift x) r++l)) L e H=_;simp only[runOps,kL hs,setL,setE];exact ih (shift x) (undefV::L) e H l (by rw[oF];exact hs)
theorem wI(hc:Cal F cal)(b:Bool)(ops:List COp):∀(as:List An) (x:COpd) (L:List AVal) (e:T8 AVal) (H:AH) (f:List AVal->AH->R) (r:AVal) (Hr:AH),goV b (x.ev L e)->runK I cal ops as L (I.view e) H (cur ops.length L f)=.ok r Hr->∃n L' H',(∀m,n<=m->∀l,runOps (caller F (exec F m)) (flatR b x ops++l) L e H=runOps (caller F (exec F m)) l L' e H')/\f L' H'=.ok r Hr:=by
 induction ops with
 |nil=>intro as x L e H f r Hr _ h;exact⟨0,L,H,λ_ _ _=>rfl,h⟩
 |cons op ops ih=>intro as x L e H f r Hr hg h;have h:opR cal (hdA as) op (opI I L (I.view e)) H (λv H'=>runK I cal ops (tlA as) (v::L) (I.view e) H' (cur ops.length (v::L) f))=.ok r Hr:=h;rw[bH]at h;obtain⟨n1,v,H1,h1,h⟩:=kJ hc h;obtain⟨n2,L',H',h2,h⟩:=ih (tlA as) (shift x) (v::L) e H1 f r Hr (by rw[oF];exact hg) h;refine⟨max n1 n2,L',H',λm hm l=>?_,h⟩;show runOps (caller F (exec F m)) (⟨.push,op,some (x,b)⟩::(flatR b (shift x) ops++l)) L e H=_;simp only[runOps,kK hg,h1 m (by omega),setL,setE];exact h2 m (by omega) l
theorem h_(hc:Cal F cal)(l:List Seg):∀(as:List An) (L:List AVal) (e:T8 AVal) (H:AH) (k:List AVal->I.ε->AH->R) (r:AVal) (Hr:AH),gops I cal l as L (I.view e) H k=.ok r Hr->∃n L' e' H',(∀m,n<=m->runOps (caller F (exec F m)) (flat l) L e H=.ok L' e' H')/\k L' (I.view e') H'=.ok r Hr:=by
 induction l with
 |nil=>intro as L e H k r Hr h;exact⟨0,L,e,H,λ_ _=>rfl,h⟩
 |cons sg l ih=>
  intro as L e H k r Hr h;cases sg with
  |run x b ops=>
   have h:gd b (opI I L (I.view e) x) (runK I cal ops as L (I.view e) H (cur ops.length L λL' H'=>gops I cal l (dropA ops.length as) L' (I.view e) H' k)) (undefs ops.length (cur ops.length L λL' H'=>gops I cal l (dropA ops.length as) L' (I.view e) H' k) H)=.ok r Hr:=h;rcases dG h with⟨hv,h⟩|⟨hv,h⟩
   .rw[bH]at hv;obtain⟨n1,L1,H1,h1,h⟩:=wI hc b ops _ x L e H _ r Hr hv h;obtain⟨n2,L',e',H',h2,h⟩:=ih _ _ _ _ _ _ _ h;exact⟨max n1 n2,L',e',H',λm hm=>(h1 m (by omega) (flat l)).trans (h2 m (by omega)),h⟩
   .rw[bH]at hv;rw[wG]at h;obtain⟨n2,L',e',H',h2,h⟩:=ih _ _ _ _ _ _ _ h;exact⟨n2,L',e',H',λm hm=>(wH _ b ops x L e H (flat l) hv).trans (h2 m hm),h⟩
  |one o=>
   obtain⟨d,op,g⟩:=o
   have go (a:An) (h:opR cal a op (opI I L (I.view e)) H (λv H'=>gops I cal l (tlA as) (setL L d v) (setI I (I.view e) d v) H' k)=.ok r Hr) (hw:wants L e g=.go) :
    ∃n L' e' H',(∀m,n<=m->runOps (caller F (exec F m)) (⟨d,op,g⟩::flat l) L e H=.ok L' e' H')/\k L' (I.view e') H'=.ok r Hr:=by
    rw[bH]at h;obtain⟨n1,v,H1,h1,h⟩:=kJ hc h;rw[b8]at h;obtain⟨n2,L',e',H',h2,h⟩:=ih _ _ _ _ _ _ _ h;refine⟨max n1 n2,L',e',H',λm hm=>?_,h⟩;have e1:=h1 m (by omega);have e2:=h2 m (by omega);simp only[runOps,hw,e1,e2]
   cases g with
   |none=>exact go _ h rfl
   |some g=>
    obtain⟨x,b⟩:=g;have h:gd b (opI I L (I.view e) x) (opR cal .any op (opI I L (I.view e)) H (λv H'=>gops I cal l (tlA as) (setL L d v) (setI I (I.view e) d v) H' k)) (gops I cal l (tlA as) (setL L d undefV) (setI I (I.view e) d undefV) H k)=.ok r Hr:=h;rcases dG h with⟨hv,h⟩|⟨hv,h⟩
    .rw[bH]at hv;exact go _ h (kK hv)
    .rw[b8]at h;obtain⟨n2,L',e',H',h2,h⟩:=ih _ _ _ _ _ _ _ h;refine⟨n2,L',e',H',λm hm=>?_,h⟩;have e2:=h2 m hm;rw[bH]at hv;show runOps (caller F (exec F m)) (⟨d,op,some (x,b)⟩::flat l) L e H=_;simp only[runOps,kL hv,e2]
def absorbK(s:Nat)(pend:List Pend):AH->AH:=List.rec (motive:=λ_=>AH->AH) (λH=>H) (λp _ ih H=>Pend.rec (motive:=λ_=>AH) (λhi id obj=>Bool.rec (motive:=λ_=>AH) (ih H) (ih (setHK H id obj)) (Nat.beq hi s)) p) pend
theorem oG(s:Nat)(pend:List Pend)(H:AH):absorbK s pend H=absorb s pend H:=by
 induction pend generalizing H with
 |nil=>rfl
 |cons p pend ih=>obtain⟨hi,id,obj⟩:=p;show Bool.rec (motive:=λ_=>AH) (absorbK s pend H) (absorbK s pend (setHK H id obj)) (Nat.beq hi s)=_;rw[ih,ih,ei];simp only[absorb];cases Nat.beq hi s<;>rfl
def absorbAllK(pend:List Pend):AH->AH:=List.rec (motive:=λ_=>AH->AH) (λH=>H) (λp _ ih H=>Pend.rec (motive:=λ_=>AH) (λ_ id obj=>ih (setHK H id obj)) p) pend
theorem wJ(pend:List Pend)(H:AH):absorbAllK pend H=absorbAll pend H:=by
 induction pend generalizing H with
 |nil=>rfl
 |cons p pend ih=>obtain⟨hi,id,obj⟩:=p;show absorbAllK pend (setHK H id obj)=_;rw[ih,ei];rfl
def chkK(hs:List AH)(s:Nat)(qs:List Rq)(r:R):R:=Bool.rec (motive:=λ_=>R) .no r (chkA hs s qs)
def fixE(ev:COpd->AVal)(op:COp):AH->AVal:=match op with
 |.load agg sz x=>λH=>loadK agg sz (ev x) H
 |.lookup z ok m k=>λH=>lookupV H z ok (ev m) (ev k)
 |_=>λ_=>.bad
theorem oH(e:T8 AVal)(op:COp)(H:AH):fixE (λx=>x.ev [] e) op H=pureV (fixRd e op) [] .nil H:=by cases op<;>first|rfl|(simp only[fixE,fixRd,pureV,bj];rfl)
def mkK(r:Option (AObj×AVal))(k:AObj->AVal->R):R:=Option.rec (motive:=λ_=>R) .no (λp=>Prod.rec (motive:=λ_=>R) (λo v=>k o v) p) r
def pvO(op:COp)(a:An)(v:AVal)(k:AVal->R):R:=match op with
 |.move _=>mvA a v k
 |_=>pvA a v k
theorem ic{op:COp}{a:An}{v:AVal}{k:AVal->R}{r:AVal}{H:AH}(h:pvO op a v k=.ok r H):(∀h,notBad v h=.ok v h)/\k v=.ok r H:=by cases op<;>first|exact oy h|exact ky h
def gdL(c:Bool)(v:AVal)(op:(AVal->List Rq->R)->R)(J:AVal->List Rq->R)(rds:List Rq):R:=gd c v (op J) (J undefV rds)
inductive DSeg where
 |one (o:CO×Dw)
 |run (p:Pth) (b:Bool) (l:List (CO×Dw))
def okD1(p:Pth)(b:Bool)(o:CO×Dw):Bool:=match o.1.guard with
 |some (.t q,c)=>pthEq q p&&(bEq c b&&(Nat.blt o.2.kind 2&&match o.1.dst with
  |.slot r=>!pthEq r p
  |_=>false))
 |_=>false
def okD(p:Pth)(b:Bool):List (CO×Dw)->Bool
 |[]=>true
 |o::l=>okD1 p b o&&okD p b l
def segD1(o:CO×Dw)(r:List DSeg):List DSeg:=match o.1.guard with
 |some (.t p,b)=>bif okD1 p b o then match r with
  |.run q c l::r'=>bif pthEq q p&&bEq c b then .run p b (o::l)::r' else .run p b [o]::r
  |r=>.run p b [o]::r
  else .one o::r
 |_=>.one o::r
def segsD:List (CO×Dw)->List DSeg
 |[]=>[]
 |o::l=>segD1 o (segsD l)
def flatD:List DSeg->List (CO×Dw)
 |[]=>[]
 |.one o::r=>o::flatD r
 |.run _ _ l::r=>l++flatD r
theorem wK(o:CO×Dw)(r:List DSeg):flatD (segD1 o r)=o::flatD r:=by
 unfold segD1;split
 .rename_i p b _;cases okD1 p b o with
  |false=>rfl
  |true=>
   simp only[cond];split
   .rename_i q c l r';cases (pthEq q p&&bEq c b)<;>rfl
   .rfl
 .rfl
theorem oI(l:List (CO×Dw)):flatD (segsD l)=l:=by
 induction l with
 |nil=>rfl
 |cons o l ih=>show flatD (segD1 o (segsD l))=_;rw[wK,ih]
def Jd:Nat->Type
 |0=>List Rq->R
 |n+1=>AVal->Jd n
def undefsD(n:Nat):Jd n->List Rq->R:=Nat.rec (motive:=λn=>Jd n->List Rq->R) (λJ q=>J q) (λ_ ih J q=>ih (J undefV) q) n
def gdM(n:Nat)(c:Bool)(v:AVal)(op:Jd n->R)(J:Jd n)(q:List Rq):R:=gd c v (op J) (undefsD n J q)
def curE(I:EI):(l:List (CO×Dw))->I.ε->(I.ε->List Rq->R)->Jd l.length
 |[],E,f=>λq=>f E q
 |o::l,E,f=>λv=>curE I l (setI I E o.1.dst v) f
def skipE(e:T8 AVal):List (CO×Dw)->T8 AVal
 |[]=>e
 |o::l=>skipE (setE e o.1.dst undefV) l
theorem wL(I:EI)(l:List (CO×Dw)):∀(e:T8 AVal) (f:I.ε->List Rq->R) (q:List Rq),undefsD l.length (curE I l (I.view e) f) q=f (I.view (skipE e l)) q:=by
 induction l with
 |nil=>intro e f q;rfl
 |cons o l ih=>intro e f q;show undefsD l.length (curE I l (setI I (I.view e) o.1.dst undefV) f) q=_;rw[b8];exact ih _ _ _
def runDK(I:EI):(l:List (CO×Dw))->I.ε->AH->List Rq->Jd l.length->R
 |[],_,_,q,J=>J q
 |(o,d)::l,E,H,q,J=>match d.kind with
  |0=>pvO o.op .any (pureE o.op (opI I [] E) ⟨.e,.nil⟩) λv=>runDK I l (setI I E o.dst v) H q (J v)
  |1=>pvO o.op .any (pureE o.op (opI I [] E) H) λv=>runDK I l (setI I E o.dst v) H (bif Nat.beq d.lo d.hi then q else⟨d.lo,d.hi,fixE (opI I [] E) o.op,v⟩::q) (J v)
  |_=>.no
theorem wM{a b:Bool}(h:bEq a b=true):a=b:=by cases a<;>cases b<;>first|rfl|cases h
theorem oJ{p:Pth}{b:Bool}{o:CO×Dw}(h:okD1 p b o=true):∃op r d,o=(⟨.slot r,op,some (.t p,b)⟩,d)/\r≠p/\(d.kind=0\/d.kind=1):=by
 obtain⟨⟨dst,op,g⟩,d⟩:=o;unfold okD1 at h;split at h
 .rename_i q c hg;simp only[Bool.and_eq_true]at h;obtain⟨h1,h2,h3,h4⟩:=h;cases hg;cases dst with
  |slot r=>
   refine⟨op,r,d,?_,λe=>?_,?_⟩
   .rw[aD.1 h1,wM h2]
   .simp only[aD.2 e]at h4;cases h4
   .have:=Nat.le_of_ble_eq_true h3;omega
  |drop=>cases h4
  |push=>cases h4
 .cases h
theorem wN(call:Caller)(p:Pth)(b:Bool)(l:List (CO×Dw)):∀(e:T8 AVal) (rest:List (CO×Dw)) (H:AH) (ids:Pth) (s:Nat) (pend:List Pend) (hs:List AH) (rds:List Rd),okD p b l=true->skipV b (e.get .bad p)->runD call (l++rest) e H ids s pend hs rds=runD call rest (skipE e l) H ids s pend hs rds:=by
 induction l with
 |nil=>intro e rest H ids s pend hs rds _ _;rfl
 |cons o l ih=>
  intro e rest H ids s pend hs rds hok hv;rw[okD,Bool.and_eq_true]at hok;obtain⟨op,r,d,rfl,hr,hk⟩:=oJ hok.1;have hw:wants [] e (some (.t p,b))=.skip:=kL (x:=.t p) hv;have h3:Nat.beq d.kind 3=false:=by rcases hk with h|h<;>rw[h]<;>rfl
  show runD call ((⟨.slot r,op,some (.t p,b)⟩,d)::(l++rest)) e H ids s pend hs rds=_;simp only[runD,hw,h3,cond];exact ih _ _ _ _ _ _ _ _ hok.2 (by rw[show(setE e (.slot r) undefV).get .bad p=e.get .bad p from aG _ _ hr _];exact hv)
theorem wO(p:Pth)(b:Bool)(l:List (CO×Dw)):∀(e:T8 AVal) (H:AH) (qs:List Rq) (rds:List Rd) (f:I.ε->List Rq->R) (r:AVal) (Hr:AH),RQs qs rds->okD p b l=true->goV b (e.get .bad p)->runDK I l (I.view e) H qs (curE I l (I.view e) f)=.ok r Hr->∃e' qs' rds',RQs qs' rds'/\(∀(call:Caller) rest ids s pend hs,runD call (l++rest) e H ids s pend hs rds=runD call rest e' H ids s pend hs rds')/\f (I.view e') qs'=.ok r Hr:=by
 induction l with
 |nil=>intro e H qs rds f r Hr hq _ _ h;exact⟨e,qs,rds,hq,λ_ _ _ _ _ _=>rfl,h⟩
 |cons o l ih=>
  intro e H qs rds f r Hr hq hok hv h;rw[okD,Bool.and_eq_true]at hok;obtain⟨op,q,⟨kind,lo,hi⟩,rfl,hr,hk⟩:=oJ hok.1;have hw:wants [] e (some (.t p,b))=.go:=kK (x:=.t p) hv;have hg:∀v,goV b ((setE e (.slot q) v).get .bad p):=λv=>by rw[show(setE e (.slot q) v).get .bad p=e.get .bad p from aG _ _ hr _];exact hv
  rcases hk with hk|hk
  .simp only at hk;subst hk;have h:pvO op .any (pureE op (opI I [] (I.view e)) ⟨.e,.nil⟩) (λv=>runDK I l (setI I (I.view e) (.slot q) v) H qs (curE I l (setI I (I.view e) (.slot q) v) f))=.ok r Hr:=h;rw[bH]at h;obtain⟨hb,h⟩:=ic h;rw[fj]at hb h;rw[b8]at h;obtain⟨e',qs',rds',h1,h2,h3⟩:=ih _ _ _ _ _ _ _ hq hok.2 (hg _) h;refine⟨e',qs',rds',h1,λcall rest ids s pend hs=>?_,h3⟩;show runD call ((⟨.slot q,op,some (.t p,b)⟩,⟨0,lo,hi⟩)::(l++rest)) e H ids s pend hs rds=_;simp only[runD,hw,hb];exact h2 _ _ _ _ _ _
  .simp only at hk;subst hk;have h:pvO op .any (pureE op (opI I [] (I.view e)) H) (λv=>runDK I l (setI I (I.view e) (.slot q) v) H (bif Nat.beq lo hi then qs else⟨lo,hi,fixE (opI I [] (I.view e)) op,v⟩::qs) (curE I l (setI I (I.view e) (.slot q) v) f))=.ok r Hr:=h;rw[bH]at h;obtain⟨hb,h⟩:=ic h;rw[fj]at hb h;rw[b8]at h
   have hq':RQs (bif Nat.beq lo hi then qs else⟨lo,hi,fixE (λx=>x.ev [] e) op,pureV op [] e H⟩::qs) (bif Nat.beq lo hi then rds else⟨lo,hi,fixRd e op,pureV op [] e H⟩::rds):=by
    cases Nat.beq lo hi with
    |true=>exact hq
    |false=>exact .cons ⟨rfl,rfl,rfl,λH=>oH e op H⟩ hq
   obtain⟨e',qs',rds',h1,h2,h3⟩:=ih _ _ _ _ _ _ _ hq' hok.2 (hg _) h;refine⟨e',qs',rds',h1,λcall rest ids s pend hs=>?_,h3⟩;show runD call ((⟨.slot q,op,some (.t p,b)⟩,⟨1,lo,hi⟩)::(l++rest)) e H ids s pend hs rds=_;simp only[runD,hw,hb];exact h2 _ _ _ _ _ _
def dgo(I:EI)(cal:Caller):List DSeg->List An->I.ε->AH->Pth->Nat->List Pend->List AH->List Rq->(I.ε->AH->R)->R
 |[],_,E,H,_,s,pend,hs,rds,k=>chkK hs s rds (k E (absorbAllK pend H))
 |.run p b ops::l,as,E,H,ids,s,pend,hs,rds,k=>bif okD p b ops then gdM ops.length b (opI I [] E (.t p)) (λJ=>runDK I ops E H rds J) (curE I ops E λE q=>dgo I cal l (dropA ops.length as) E H ids s pend hs q k) rds else .no
 |.one (o,d)::l,as,E,H,ids,s,pend,hs,rds,k=>
  match o.guard with
  |none=>match d.kind with
   |0=>pvO o.op (hdA as) (pureE o.op (opI I [] E) ⟨.e,.nil⟩) λv=>dgo I cal l (tlA as) (setI I E o.dst v) H ids s pend hs rds k
   |1=>pvO o.op (hdA as) (pureE o.op (opI I [] E) H) λv=>dgo I cal l (tlA as) (setI I E o.dst v) H ids s pend hs (bif Nat.beq d.lo d.hi then rds else⟨d.lo,d.hi,fixE (opI I [] E) o.op,v⟩::rds) k
   |2=>mkK (mkP o.op (opI I [] E) ids) λob v=>dgo I cal l (tlA as) (setI I E o.dst v) H ids.succ s (⟨d.hi,ids,ob⟩::pend) hs rds k
   |_=>opR cal (hdA as) o.op (opI I [] E) (absorbK s pend H) λv H'=>dgo I cal l (tlA as) (setI I E o.dst v) H' ids (Nat.succ s) (keepP s pend) (H'::hs) rds k
  |some (x,b)=>match d.kind with
   |0=>gdL b (opI I [] E x) (λJ=>pvO o.op .any (pureE o.op (opI I [] E) ⟨.e,.nil⟩) λv=>J v rds) (λv rds=>dgo I cal l (tlA as) (setI I E o.dst v) H ids s pend hs rds k) rds
   |1=>gdL b (opI I [] E x) (λJ=>pvO o.op .any (pureE o.op (opI I [] E) H) λv=>J v (bif Nat.beq d.lo d.hi then rds else⟨d.lo,d.hi,fixE (opI I [] E) o.op,v⟩::rds))
    (λv rds=>dgo I cal l (tlA as) (setI I E o.dst v) H ids s pend hs rds k) rds
   |2=>gd b (opI I [] E x) (mkK (mkP o.op (opI I [] E) ids) λob v=>dgo I cal l (tlA as) (setI I E o.dst v) H ids.succ s (⟨d.hi,ids,ob⟩::pend) hs rds k)
    (dgo I cal l (tlA as) (setI I E o.dst undefV) H ids s pend hs rds k)
   |3=>gdJ b (opI I [] E x) (λJ=>opR cal .any o.op (opI I [] E) (absorbK s pend H) J) (λv H'=>dgo I cal l (tlA as) (setI I E o.dst v) H' ids (Nat.succ s) (keepP s pend) (H'::hs) rds k) (absorbK s pend H)
   |_=>.no
theorem oK(hc:Cal F cal)(l:List DSeg):∀(as:List An) (e:T8 AVal) (H:AH) (ids:Pth) (s:Nat) (pend:List Pend) (hs:List AH) (qs:List Rq) (rds:List Rd) (k:I.ε->AH->R) (r:AVal) (Hr:AH),RQs qs rds->dgo I cal l as (I.view e) H ids s pend hs qs k=.ok r Hr->∃n e' H',(∀m,n<=m->runD (caller F (exec F m)) (flatD l) e H ids s pend hs rds=.norm e' H')/\k (I.view e') H'=.ok r Hr:=by
 induction l with
 |nil=>
  intro as e H ids s pend hs qs rds k r Hr hq h;have h:chkK hs s qs (k (I.view e) (absorbAllK pend H))=.ok r Hr:=h;unfold chkK at h;rw[vW hq]at h;cases hk:checkRds hs s rds with
  |false=>rw[hk]at h;cases h
  |true=>rw[hk]at h;exact⟨0,e,_,λm _=>by simp only[flatD,runD,hk,cond,<-wJ],h⟩
 |cons x l ih=>
  intro as e H ids s pend hs qs rds k r Hr hq h;cases x with
  |run p b ops=>
   have h:(bif okD p b ops then gdM ops.length b (opI I [] (I.view e) (.t p)) (λJ=>runDK I ops (I.view e) H qs J) (curE I ops (I.view e) λE q=>dgo I cal l (dropA ops.length as) E H ids s pend hs q k) qs else .no)=.ok r Hr:=h;cases hok:okD p b ops with
   |false=>rw[hok]at h;cases h
   |true=>
    rw[hok]at h;have h:gd b (opI I [] (I.view e) (.t p)) (runDK I ops (I.view e) H qs (curE I ops (I.view e) λE q=>dgo I cal l (dropA ops.length as) E H ids s pend hs q k)) (undefsD ops.length (curE I ops (I.view e) λE q=>dgo I cal l (dropA ops.length as) E H ids s pend hs q k) qs)=.ok r Hr:=h;rw[show opI I [] (I.view e) (.t p)=e.get .bad p from I.get_view e p]at h;rcases dG h with⟨hv,h⟩|⟨hv,h⟩
    .obtain⟨e1,qs1,rds1,g1,g2,g3⟩:=wO p b ops e H qs rds _ r Hr hq hok hv h;obtain⟨n,e',H',h2,h⟩:=ih _ _ _ _ _ _ _ _ _ _ _ _ g1 g3;exact⟨n,e',H',λm hm=>(g2 _ _ _ _ _ _).trans (h2 m hm),h⟩
    .rw[wL]at h;obtain⟨n,e',H',h2,h⟩:=ih _ _ _ _ _ _ _ _ _ _ _ _ hq h;exact⟨n,e',H',λm hm=>(wN _ p b ops e (flatD l) H ids s pend hs rds hok hv).trans (h2 m hm),h⟩
  |one x=>
  obtain⟨⟨dst,op,g⟩,⟨kind,lo,hi⟩⟩:=x
  have go (a:An) (h:(match kind with
   |0=>pvO op a (pureE op (opI I [] (I.view e)) ⟨.e,.nil⟩) λv=>dgo I cal l (tlA as) (setI I (I.view e) dst v) H ids s pend hs qs k
   |1=>pvO op a (pureE op (opI I [] (I.view e)) H) λv=>dgo I cal l (tlA as) (setI I (I.view e) dst v) H ids s pend hs (bif Nat.beq lo hi then qs else⟨lo,hi,fixE (opI I [] (I.view e)) op,v⟩::qs) k
   |2=>mkK (mkP op (opI I [] (I.view e)) ids) λob v=>dgo I cal l (tlA as) (setI I (I.view e) dst v) H ids.succ s (⟨hi,ids,ob⟩::pend) hs qs k
   |_=>opR cal a op (opI I [] (I.view e)) (absorbK s pend H) λv H'=>dgo I cal l (tlA as) (setI I (I.view e) dst v) H' ids (Nat.succ s) (keepP s pend) (H'::hs) qs k)=.ok r Hr) (hw:wants [] e g=.go) :
    ∃n e' H',(∀m,n<=m->runD (caller F (exec F m)) ((⟨dst,op,g⟩,⟨kind,lo,hi⟩)::flatD l) e H ids s pend hs rds=.norm e' H')/\k (I.view e') H'=.ok r Hr:=by
   rw[bH]at h
   match kind,h with
   |0,h=>obtain⟨hb,h⟩:=ic h;rw[fj]at hb h;rw[b8]at h;obtain⟨n,e',H',h2,h⟩:=ih _ _ _ _ _ _ _ _ _ _ _ _ hq h;exact⟨n,e',H',λm hm=>by simp only[runD,hw,hb,h2 m hm],h⟩
   |1,h=>
    obtain⟨hb,h⟩:=ic h;rw[fj]at hb h;rw[b8]at h
    have hq':RQs (bif Nat.beq lo hi then qs else⟨lo,hi,fixE (λx=>x.ev [] e) op,pureV op [] e H⟩::qs) (bif Nat.beq lo hi then rds else⟨lo,hi,fixRd e op,pureV op [] e H⟩::rds):=by
     cases Nat.beq lo hi with
     |true=>exact hq
     |false=>exact .cons ⟨rfl,rfl,rfl,λH=>oH e op H⟩ hq
    obtain⟨n,e',H',h2,h⟩:=ih _ _ _ _ _ _ _ _ _ _ _ _ hq' h;exact⟨n,e',H',λm hm=>by simp only[runD,hw,hb,h2 m hm],h⟩
   |2,h=>
    rw[kI]at h;cases hm:mkBlock [] e op ids with
    |none=>rw[hm]at h;cases h
    |some p=>obtain⟨ob,v⟩:=p;rw[hm]at h;have h:dgo I cal l (tlA as) (setI I (I.view e) dst v) H ids.succ s (⟨hi,ids,ob⟩::pend) hs qs k=.ok r Hr:=h;rw[b8]at h;obtain⟨n,e',H',h2,h⟩:=ih _ _ _ _ _ _ _ _ _ _ _ _ hq h;exact⟨n,e',H',λm hm'=>by simp only[runD,hw,hm,h2 m hm'],h⟩
   |kk+3,h=>obtain⟨n1,v,H1,h1,h⟩:=kJ hc h;rw[b8]at h;obtain⟨n2,e',H',h2,h⟩:=ih _ _ _ _ _ _ _ _ _ _ _ _ hq h;exact⟨max n1 n2,e',H',λm hm=>by simp only[runD,hw,<-oG,h1 m (by omega),h2 m (by omega)],h⟩
  cases g with
  |none=>
   refine go (hdA as) ?_ rfl
   match kind,h with
   |0,h=>exact h
   |1,h=>exact h
   |2,h=>exact h
   |kk+3,h=>exact h
  |some g=>
   obtain⟨x,b⟩:=g
   have skip (hv:(∃t,opI I [] (I.view e) x=.bool t/\boolEq t b=false)\/opI I [] (I.view e) x=.tup []) (h:(bif Nat.beq kind 3 then dgo I cal l (tlA as) (setI I (I.view e) dst undefV) (absorbK s pend H) ids (Nat.succ s) (keepP s pend) (absorbK s pend H::hs) qs k
    else dgo I cal l (tlA as) (setI I (I.view e) dst undefV) H ids s pend hs qs k)=.ok r Hr) :
    ∃n e' H',(∀m,n<=m->runD (caller F (exec F m)) ((⟨dst,op,some (x,b)⟩,⟨kind,lo,hi⟩)::flatD l) e H ids s pend hs rds=.norm e' H')/\k (I.view e') H'=.ok r Hr:=by
    rw[bH]at hv
    have hw:wants [] e (some (x,b))=.skip:=by
     rcases hv with⟨t,hv,ht⟩|hv
     .simp only[wants,hv,ht,cond]
     .simp only[wants,hv]
    rw[b8]at h;cases hk:Nat.beq kind 3 with
    |true=>rw[hk]at h;obtain⟨n,e',H',h2,h⟩:=ih _ _ _ _ _ _ _ _ _ _ _ _ hq h;exact⟨n,e',H',λm hm=>by simp only[runD,hw,hk,cond,<-oG,h2 m hm],h⟩
    |false=>rw[hk]at h;obtain⟨n,e',H',h2,h⟩:=ih _ _ _ _ _ _ _ _ _ _ _ _ hq h;exact⟨n,e',H',λm hm=>by simp only[runD,hw,hk,cond,h2 m hm],h⟩
   have want (hv:∃t,opI I [] (I.view e) x=.bool t/\boolEq t b=true):wants [] e (some (x,b))=.go:=by obtain⟨t,hv,ht⟩:=hv;rw[bH]at hv;simp only[wants,hv,ht,cond]
   match kind,h,go,skip with
   |0,h,go,skip=>
    rcases dG (show gd b (opI I [] (I.view e) x) _ _=.ok r Hr from h)with⟨hv,h⟩|⟨hv,h⟩
    .exact go .any h (want hv)
    .exact skip hv h
   |1,h,go,skip=>
    rcases dG (show gd b (opI I [] (I.view e) x) _ _=.ok r Hr from h)with⟨hv,h⟩|⟨hv,h⟩
    .exact go .any h (want hv)
    .exact skip hv h
   |2,h,go,skip=>
    rcases dG (show gd b (opI I [] (I.view e) x) _ _=.ok r Hr from h)with⟨hv,h⟩|⟨hv,h⟩
    .exact go .any h (want hv)
    .exact skip hv h
   |3,h,go,skip=>
    rcases dG (show gd b (opI I [] (I.view e) x) _ _=.ok r Hr from h)with⟨hv,h⟩|⟨hv,h⟩
    .exact go .any h (want hv)
    .exact skip hv h
   |kk+4,h,go,skip=>exact(nomatch (show(R.no:R)=.ok r Hr from h))
def Fin(kn kr:Env->AH->R)(kx:Nat->Env->AH->R)(v:AVal)(H':AH):Out->Prop
 |.none=>False
 |.norm e h=>kn (view e) h=.ok v H'
 |.ret e h=>kr (view e) h=.ok v H'
 |.exit i e h=>kx i (view e) h=.ok v H'
section
variable(F:T8 CFn)
def Ap(c:CC)(kn kr:Env->AH->R)(kx:Nat->Env->AH->R)(g:Env->AH->R):Prop:=∀e H v H',g (view e) H=.ok v H'->∃n o,(∀m,n<=m->exec F m c e H=o)/\Fin kn kr kx v H' o
end
variable{kn kr:Env->AH->R}{kx:Nat->Env->AH->R}
theorem Ap.le{c:CC}{g G:Env->AH->R}(h:Ap F c kn kr kx G)(hl:∀E H,R.le (g E H) (G E H)):Ap F c kn kr kx g:=λe H v H' hg=>h e H v H' (hl _ _ _ _ hg)
theorem Ap.no{c:CC}:Ap F c kn kr kx (λ_ _=>.no):=λ_ _ _ _ h=>(by cases h)
namespace Ap
end Ap
theorem Ap.skip:Ap F .skip kn kr kx kn:=λe H v H' h=>⟨1,.norm e H,λm hm=>by match m,hm with|m+1,_=>rfl,h⟩
theorem Ap.ret:Ap F .ret kn kr kx kr:=λe H v H' h=>⟨1,.ret e H,λm hm=>by match m,hm with|m+1,_=>rfl,h⟩
theorem Ap.exit{id:Nat}:Ap F (.exit id) kn kr kx (kx id):=λe H v H' h=>⟨1,.exit id e H,λm hm=>by match m,hm with|m+1,_=>rfl,h⟩
theorem Ap.seq{a b:CC}{ga gb:Env->AH->R}(hb:Ap F b kn kr kx gb)(ha:Ap F a gb kr kx ga):Ap F (.seq a b) kn kr kx ga:=by
 intro e H v H' h;obtain⟨n,o,h1,hf⟩:=ha e H v H' h;cases o with
 |none=>exact hf.elim
 |norm e1 H1=>
  obtain⟨n2,o2,h2,hf2⟩:=hb e1 H1 v H' hf;refine⟨max n n2+1,o2,λm hm=>?_,hf2⟩
  match m,hm with
  |m+1,hm=>simp only[exec,execS,h1 m (by omega),h2 m (by omega)]
 |ret e1 H1=>
  refine⟨n+1,.ret e1 H1,λm hm=>?_,hf⟩
  match m,hm with
  |m+1,hm=>simp only[exec,execS,h1 m (by omega)]
 |exit i e1 H1=>
  refine⟨n+1,.exit i e1 H1,λm hm=>?_,hf⟩
  match m,hm with
  |m+1,hm=>simp only[exec,execS,h1 m (by omega)]
theorem Ap.block{id:Nat}{b:CC}{g:Env->AH->R}(hb:Ap F b kn kr (λi E H=>bif Nat.beq id i then kn E H else kx i E H) g):Ap F (.block id b) kn kr kx g:=by
 intro e H v H' h;obtain⟨n,o,h1,hf⟩:=hb e H v H' h;cases o with
 |none=>exact hf.elim
 |norm e1 H1=>
  refine⟨n+1,.norm e1 H1,λm hm=>?_,hf⟩
  match m,hm with
  |m+1,hm=>simp only[exec,execS,h1 m (by omega)]
 |ret e1 H1=>
  refine⟨n+1,.ret e1 H1,λm hm=>?_,hf⟩
  match m,hm with
  |m+1,hm=>simp only[exec,execS,h1 m (by omega)]
 |exit i e1 H1=>
  have hf:(bif Nat.beq id i then kn (view e1) H1 else kx i (view e1) H1)=.ok v H':=hf;cases hi:Nat.beq id i with
  |true=>
   rw[hi]at hf;refine⟨n+1,.norm e1 H1,λm hm=>?_,hf⟩
   match m,hm with
   |m+1,hm=>simp only[exec,execS,h1 m (by omega),hi,cond]
  |false=>
   rw[hi]at hf;refine⟨n+1,.exit i e1 H1,λm hm=>?_,hf⟩
   match m,hm with
   |m+1,hm=>simp only[exec,execS,h1 m (by omega),hi,cond]
theorem Ap.cond{x:COpd}{a b:CC}{ga gb:Env->AH->R}(ha:Ap F a kn kr kx ga)(hb:Ap F b kn kr kx gb):Ap F (.cond x a b) kn kr kx (λE H=>cv (opv [] E x) (ga E H) (gb E H)):=by
 intro e H v H' h;obtain⟨t,ht,h⟩:=hO h;rw[oC]at ht;cases t with
 |true=>
  obtain⟨n,o,h1,hf⟩:=ha e H v H' h;refine⟨n+1,o,λm hm=>?_,hf⟩
  match m,hm with
  |m+1,hm=>simp only[exec,execS,ht,_root_.cond,h1 m (by omega)]
 |false=>
  obtain⟨n,o,h1,hf⟩:=hb e H v H' h;refine⟨n+1,o,λm hm=>?_,hf⟩
  match m,hm with
  |m+1,hm=>simp only[exec,execS,ht,_root_.cond,h1 m (by omega)]
theorem Ap.aa(hc:Cal F cal)(as:List An){ops:Ops}:Ap F (.aa ops) kn kr kx (λE H=>gops fnI cal (segs ops.toL) as [] E H λ_ E H=>kn E H):=by
 intro e H v H' h;obtain⟨n,L1,e1,H1,h1,h⟩:=h_ hc _ _ _ _ _ _ _ _ h;rw[hY]at h1;refine⟨n+1,.norm e1 H1,λm hm=>?_,h⟩
 match m,hm with
 |m+1,hm=>simp only[exec,execS,h1 m (by omega)]
theorem Ap.aq(hc:Cal F cal)(as:List An){ops:Ops}{x:COpd}{a b:CC}{ga gb:Env->AH->R}(ha:Ap F a kn kr kx ga)(hb:Ap F b kn kr kx gb):Ap F (.aq ops x a b) kn kr kx (λE H=>gops fnI cal (segs ops.toL) as [] E H λL E H=>cv (opv L E x) (ga E H) (gb E H)):=by
 intro e H v H' h;obtain⟨n,L1,e1,H1,h1,h⟩:=h_ hc _ _ _ _ _ _ _ _ h;rw[hY]at h1;obtain⟨t,ht,h⟩:=hO h;rw[oC]at ht;cases t with
 |true=>
  obtain⟨n2,o,h2,hf⟩:=ha e1 H1 v H' h;refine⟨max n n2+1,o,λm hm=>?_,hf⟩
  match m,hm with
  |m+1,hm=>simp only[exec,execS,h1 m (by omega),ht,_root_.cond,h2 m (by omega)]
 |false=>
  obtain⟨n2,o,h2,hf⟩:=hb e1 H1 v H' h;refine⟨max n n2+1,o,λm hm=>?_,hf⟩
  match m,hm with
  |m+1,hm=>simp only[exec,execS,h1 m (by omega),ht,_root_.cond,h2 m (by omega)]
theorem Ap.aC(hc:Cal F cal)(as:List An){ops:List (CO×Dw)}:Ap F (.aC ops) kn kr kx (λE H=>dgo fnI cal (segsD ops) as E (reserve ops H) H.next 0 [] [reserve ops H] [] kn):=by
 intro e H v H' h;obtain⟨n,e1,H1,h1,h⟩:=oK hc _ _ _ _ _ _ _ _ _ _ _ _ _ .nil h;rw[oI]at h1;refine⟨n+1,.norm e1 H1,λm hm=>?_,h⟩
 match m,hm with
 |m+1,hm=>simp only[exec,execS,h1 m (by omega)]
def loopK{I:Type}(z:I)(B:I->I):I:=Nat.rec (motive:=λ_=>I) z (λ_ ih=>B ih) 1000000
theorem Ap.loopN{I:Type}(ap:I->Env->AH->R){z:I}(hz:∀E H,R.le (ap z E H) .no){B:I->I}{b:CC}(hb:∀ih:I,Ap F b (ap ih) kr kx (ap (B ih)))(N:Nat):Ap F (.loop b) kn kr kx (ap (Nat.rec (motive:=λ_=>I) z (λ_ ih=>B ih) N)):=by
 induction N with
 |zero=>intro e H v H' h;rw[show ap (Nat.rec (motive:=λ_=>I) z (λ_ ih=>B ih) 0) (view e) H=ap z (view e) H from rfl]at h;cases hz _ _ _ _ h
 |succ N ih=>
  intro e H v H' h;obtain⟨n,o,h1,hf⟩:=hb (Nat.rec (motive:=λ_=>I) z (λ_ ih=>B ih) N) e H v H' h;cases o with
  |none=>exact hf.elim
  |norm e1 H1=>
   obtain⟨n2,o2,h2,hf2⟩:=ih e1 H1 v H' hf;refine⟨max n n2+1,o2,λm hm=>?_,hf2⟩
   match m,hm with
   |m+1,hm=>simp only[exec,execS,h1 m (by omega),h2 m (by omega)]
  |ret e1 H1=>
   refine⟨n+1,.ret e1 H1,λm hm=>?_,hf⟩
   match m,hm with
   |m+1,hm=>simp only[exec,execS,h1 m (by omega)]
  |exit i e1 H1=>
   refine⟨n+1,.exit i e1 H1,λm hm=>?_,hf⟩
   match m,hm with
   |m+1,hm=>simp only[exec,execS,h1 m (by omega)]
theorem Ap.loop{I:Type}(ap:I->Env->AH->R){z:I}(hz:∀E H,R.le (ap z E H) .no){B:I->I}{b:CC}(hb:∀ih:I,Ap F b (ap ih) kr kx (ap (B ih))):Ap F (.loop b) kn kr kx (ap (loopK z B)):=Ap.loopN ap hz hb 1000000
class Kt (T:Type) where
 app:List Pth->T->Env->AH->R
 hyp:List Pth->T->(Env->AH->R)->Env->Prop
 no:T
 le:∀(ps:List Pth) (k:T) (G:Env->AH->R) (E:Env),hyp ps k G E->∀H,R.le (app ps k E H) (G E H)
 az:∀(ps:List Pth) (E:Env) (H:AH),R.le (app ps no E H) .no
instance:Kt (AH->R) where
 app _ k _ H:=k H
 hyp _ k G E:=∀H,k H=G E H
 no:=λ_=>.no
 le _ _ _ _ h H:=R.le_of_eq (h H)
 az _ _ _:=R.az
def appV{T:Type}(f:List Pth->T->Env->AH->R):List Pth->(AVal->T)->Env->AH->R
 |[],_,_,_=>.no
 |p::r,k,E,H=>f r (k (E p)) E H
def hypV{T:Type}(f:List Pth->T->(Env->AH->R)->Env->Prop):List Pth->(AVal->T)->(Env->AH->R)->Env->Prop
 |[],_,_,_=>True
 |p::r,k,G,E=>f r (k (E p)) G E
instance{T:Type}[Kt T]:Kt (AVal->T) where
 app:=appV Kt.app
 hyp:=hypV Kt.hyp
 no:=λ_=>Kt.no
 le ps k G E h H:=by
  cases ps with
  |nil=>exact R.az
  |cons p r=>exact Kt.le r (k (E p)) G E h H
 az ps E H:=by
  cases ps with
  |nil=>exact R.az
  |cons p r=>exact Kt.az r E H
def appI{T:Type}(f:List Pth->T->Env->AH->R):List Pth->(Int->T)->Env->AH->R
 |[],_,_,_=>.no
 |p::r,k,E,H=>aM (E p) λn=>f r (k n) E H
def hypI{T:Type}(f:List Pth->T->(Env->AH->R)->Env->Prop):List Pth->(Int->T)->(Env->AH->R)->Env->Prop
 |[],_,_,_=>True
 |p::r,k,G,E=>∀n,f r (k n) (λE=>G (up E p (.int .i64 n))) E
instance {T:Type} [Kt T]:Kt (Int->T) where
 app:=appI Kt.app
 hyp:=hypI Kt.hyp
 no:=λ_=>Kt.no
 le ps k G E h H:=by
  cases ps with
  |nil=>exact R.az
  |cons p r=>
   intro v H' e;obtain⟨n,hn,e⟩:=a9 (show aM (E p) (λn=>Kt.app r (k n) E H)=.ok v H' from e);have:=Kt.le r (k n) _ E (h n) H v H' e
   rwa [kG E p _ hn]at this
 az ps E H:=by
  cases ps with
  |nil=>exact R.az
  |cons p r=>intro v H' e;obtain⟨n,hn,e⟩:=a9 (show aM (E p) (λn=>Kt.app r Kt.no E H)=.ok v H' from e);exact Kt.az r E H v H' e
def appB{T:Type}(f:List Pth->T->Env->AH->R):List Pth->(Bool->T)->Env->AH->R
 |[],_,_,_=>.no
 |p::r,k,E,H=>asB (E p) λn=>f r (k n) E H
def hypB{T:Type}(f:List Pth->T->(Env->AH->R)->Env->Prop):List Pth->(Bool->T)->(Env->AH->R)->Env->Prop
 |[],_,_,_=>True
 |p::r,k,G,E=>∀n,f r (k n) (λE=>G (up E p (.bool n))) E
instance {T:Type} [Kt T]:Kt (Bool->T) where
 app:=appB Kt.app
 hyp:=hypB Kt.hyp
 no:=λ_=>Kt.no
 le ps k G E h H:=by
  cases ps with
  |nil=>exact R.az
  |cons p r=>
   intro v H' e;obtain⟨n,hn,e⟩:=bR (show asB (E p) (λn=>Kt.app r (k n) E H)=.ok v H' from e);have:=Kt.le r (k n) _ E (h n) H v H' e
   rwa [kG E p _ hn]at this
 az ps E H:=by
  cases ps with
  |nil=>exact R.az
  |cons p r=>intro v H' e;obtain⟨n,hn,e⟩:=bR (show asB (E p) (λn=>Kt.app r Kt.no E H)=.ok v H' from e);exact Kt.az r E H v H' e
def appP{T:Type}(f:List Pth->T->Env->AH->R):List Pth->(Pth->Nat->T)->Env->AH->R
 |[],_,_,_=>.no
 |p::r,k,E,H=>asP (E p) λi o=>f r (k i o) E H
def hypP{T:Type}(f:List Pth->T->(Env->AH->R)->Env->Prop):List Pth->(Pth->Nat->T)->(Env->AH->R)->Env->Prop
 |[],_,_,_=>True
 |p::r,k,G,E=>∀i o,f r (k i o) (λE=>G (up E p (.ptr i o))) E
instance {T:Type} [Kt T]:Kt (Pth->Nat->T) where
 app:=appP Kt.app
 hyp:=hypP Kt.hyp
 no:=λ_ _=>Kt.no
 le ps k G E h H:=by
  cases ps with
  |nil=>exact R.az
  |cons p r=>
   intro v H' e;obtain⟨i,o,hn,e⟩:=fh (show asP (E p) (λi o=>Kt.app r (k i o) E H)=.ok v H' from e);have:=Kt.le r (k i o) _ E (h i o) H v H' e
   rwa [kG E p _ hn]at this
 az ps E H:=by
  cases ps with
  |nil=>exact R.az
  |cons p r=>intro v H' e;obtain⟨i,o,hn,e⟩:=fh (show asP (E p) (λi o=>Kt.app r Kt.no E H)=.ok v H' from e);exact Kt.az r E H v H' e
theorem Ap.lb{T:Type}[Kt T](ps:List Pth)(k:T){c:CC}{G:Env->AH->R}(h:Ap F c kn kr kx G)(hl:∀E,Kt.hyp ps k G E):Ap F c kn kr kx (Kt.app ps k):=Ap.le h λE H=>Kt.le ps k G E (hl E) H
theorem Ap.lp{T:Type}[Kt T](ps:List Pth)(B:T->T){b:CC}(hb:∀ih:T,Ap F b (Kt.app ps ih) kr kx (Kt.app ps (B ih))):Ap F (.loop b) kn kr kx (Kt.app ps (loopK Kt.no B)):=Ap.loop (Kt.app ps) (Kt.az ps) hb
def br(t:Bool)(a b:R):R:=Bool.rec (motive:=λ_=>R) b a t
def resE(vs:List AVal)(H:AH):R:=List.rec (motive:=λ_=>R) (.ok (.tup []) H) (λv l _=>List.rec (motive:=λ_=>R) (notBadF v H) (λ_ _ _=>Bool.rec (motive:=λ_=>R) (.ok (.tup vs) H) .no (badG vs)) l) vs
theorem oM(vs:List AVal)(H:AH):resE vs H=(bif anyBad vs then .no else .ok (tupOf vs) H):=by
 match vs with
 |[]=>rfl
 |[v]=>show notBadF v H=_;cases v<;>rfl
 |v::u::l=>show Bool.rec (motive:=λ_=>R) (.ok (.tup (v::u::l)) H) .no (badG (v::u::l))=_;rw[vS];cases anyBad (v::u::l)<;>rfl
def resvK(E:Env)(H:AH):List (Pth×Option (Bool×Nat))->List AVal
 |[]=>[]
 |(p,none)::r=>E p::resvK E H r
 |(p,some (agg,sz))::r=>loadK agg sz (E p) H::resvK E H r
def resK(res:List (Pth×Option (Bool×Nat)))(E:Env)(H:AH):R:=resE (resvK E H res) H
theorem wP(e:T8 AVal)(H:AH)(res:List (Pth×Option (Bool×Nat))):resvK (view e) H res=resultsV H e res:=by
 induction res with
 |nil=>rfl
 |cons x res ih=>
  obtain⟨p,o⟩:=x;cases o with
  |none=>simp only[resvK,resultsV,ih];rfl
  |some q=>obtain⟨agg,sz⟩:=q;simp only[resvK,resultsV,ih,bj];rfl
theorem ig(res:List (Pth×Option (Bool×Nat)))(e:T8 AVal)(H:AH):resK res (view e) H=result H e res:=by unfold resK;rw[oM,wP];rfl
def entK:List (Option Pth)->List AVal->Env->(Env->R)->R
 |[],[],E,c=>c E
 |some p::ps,v::vs,E,c=>entK ps vs (up E p v) c
 |none::ps,_::vs,E,c=>entK ps vs E c
 |[],_::_,_,_=>.no
 |some _::_,[],_,_=>.no
 |none::_,[],_,_=>.no
theorem oN(ps:List (Option Pth))(args:List AVal)(e:T8 AVal){c:Env->R}{r:AVal}{H:AH}(h:entK ps args (view e) c=.ok r H):∃e',mkEnv ps args e=some e'/\c (view e')=.ok r H:=by
 induction ps generalizing args e with
 |nil=>cases args with
  |nil=>exact⟨e,rfl,h⟩
  |cons v vs=>cases h
 |cons p ps ih=>cases p with
  |none=>cases args with
   |nil=>cases h
   |cons v vs=>exact ih vs e h
  |some p=>cases args with
   |nil=>cases h
   |cons v vs=>have h:entK ps vs (up (view e) p v) c=.ok r H:=h;rw[<-oz]at h;exact ih vs _ h
def E0:Env:=λ_=>.bad
theorem oO:view .nil=E0:=by funext p;exact get_nil _ p
section
variable(F:T8 CFn)
def Adq(q:Pth)(k:List AVal->AH->R):Prop:=∀args H v H',k args H=.ok v H'->∃n,∀m,n<=m->callF F m q args H=.ok v H'
end
theorem dH{q:Pth}{fn:CFn}(hf:F.get noFn q=fn){x:CC->T8 AVal->AH->Out}{args:List AVal}{H:AH}:caller F x (.fnv q []) args H =(match useOrc fn.aP args H with|.ok v H'=>.ok v H'|.no=>match mkEnv fn.params args .nil with|some e0=>finish fn (x fn.body e0 H)|none=>.no):=by subst hf;show(match useOrc (F.get noFn q).aP (app args []) H with|.ok v H'=>R.ok v H'|.no=>match mkEnv (F.get noFn q).params (app args []) .nil with|some e0=>finish (F.get noFn q) (x (F.get noFn q).body e0 H)|none=>.no)=_;rw[ko]
theorem Adq.fn{q:Pth}{fn:CFn}{k:List AVal->AH->R}(hf:F.get noFn q=fn)(ho:fn.aP=[]){g:Env->AH->R}(ha:Ap F fn.body (resK fn.res) (resK fn.res) (λ_ _ _=>.no) g)(hk:∀args H,R.le (k args H) (entK fn.params args E0 λE=>g E H)):Adq F q k:=by
 obtain⟨ps,body,res,oo⟩:=fn;cases ho;intro args H v H' h;have h:=hk _ _ _ _ h;rw[<-oO]at h;obtain⟨e',he,h⟩:=oN _ _ _ h;obtain⟨n,o,h1,hr⟩:=ha e' H v H' h;refine⟨n,λm hm=>?_⟩;show caller F (exec F m) (.fnv q []) args H=_;rw[dH hf];show(match mkEnv ps args .nil with|some e0=>finish ⟨ps,body,res,[]⟩ (exec F m body e0 H)|none=>.no)=_;rw[he];show finish ⟨ps,body,res,[]⟩ (exec F m body e' H)=_;rw[h1 m hm];cases o with
 |none=>exact hr.elim
 |norm e1 H1=>exact(ig res e1 H1).symm.trans hr
 |ret e1 H1=>exact(ig res e1 H1).symm.trans hr
 |exit i e1 H1=>cases hr
def orcK(os:List Orc)(k:List AVal->AH->R)(args:List AVal)(H:AH):R:=R.rec (motive:=λ_=>R) (k args H) (λv H'=>.ok v H') (useOrc os args H)
theorem Adq.aP{q:Pth}{fn:CFn}{os:List Orc}{k:List AVal->AH->R}(hf:F.get noFn q=fn)(ho:fn.aP=os){g:Env->AH->R}(ha:Ap F fn.body (resK fn.res) (resK fn.res) (λ_ _ _=>.no) g)(hk:∀args H,R.le (k args H) (entK fn.params args E0 λE=>g E H)):Adq F q (orcK os k):=by
 obtain⟨ps,body,res,os⟩:=fn;cases ho;intro args H v H' h;unfold orcK at h;cases hu:useOrc os args H with
 |ok v1 H1=>rw[hu]at h;refine⟨0,λm _=>?_⟩;show caller F (exec F m) (.fnv q []) args H=_;rw[dH hf,hu];exact h
 |no=>
  rw[hu]at h;have h:=hk _ _ _ _ h;rw[<-oO]at h;obtain⟨e',he,h⟩:=oN _ _ _ h;obtain⟨n,o,h1,hr⟩:=ha e' H v H' h;refine⟨n,λm hm=>?_⟩;show caller F (exec F m) (.fnv q []) args H=_;rw[dH hf,hu];show(match mkEnv ps args .nil with|some e0=>finish ⟨ps,body,res,os⟩ (exec F m body e0 H)|none=>.no)=_;rw[he];show finish ⟨ps,body,res,os⟩ (exec F m body e' H)=_;rw[h1 m hm];cases o with
  |none=>exact hr.elim
  |norm e1 H1=>exact(ig res e1 H1).symm.trans hr
  |ret e1 H1=>exact(ig res e1 H1).symm.trans hr
  |exit i e1 H1=>cases hr
theorem Adq.wQ{q:Pth}{fn:CFn}{os:List Orc}(hf:F.get noFn q=fn)(ho:fn.aP=os):Adq F q (useOrc os):=by cases ho;intro args H v H' hu;refine⟨0,λm _=>?_⟩;show caller F (exec F m) (.fnv q []) args H=_;rw[dH hf,hu]
def consA(args:List AVal)(k:AVal->List AVal->R):R:=List.rec (motive:=λ_=>(AVal->List AVal->R)->R) (λ_=>.no) (λa l _ k=>k a l) args k
def nilA(args:List AVal)(r:R):R:=List.rec (motive:=λ_=>R->R) (λr=>r) (λ_ _ _ _=>.no) args r
theorem oQ{g:AVal->R}{G:List AVal->R}(h:∀a0,R.le (g a0) (G [a0])):∀args,R.le (consA args λa0 l0=>nilA l0 (g a0)) (G args)
 |[]=>R.az
 |[a0]=>h a0
 |a0::_::_=>R.az
theorem ij{g:AVal->AVal->R}{G:List AVal->R}(h:∀a0 a1,R.le (g a0 a1) (G [a0,a1])):∀args,R.le (consA args λa0 l0=>consA l0 λa1 l1=>nilA l1 (g a0 a1)) (G args)
 |[]=>R.az
 |[a0]=>R.az
 |[a0,a1]=>h a0 a1
 |a0::a1::_::_=>R.az
theorem oR{g:AVal->AVal->AVal->R}{G:List AVal->R}(h:∀a0 a1 a2,R.le (g a0 a1 a2) (G [a0,a1,a2])):∀args,R.le (consA args λa0 l0=>consA l0 λa1 l1=>consA l1 λa2 l2=>nilA l2 (g a0 a1 a2)) (G args)
 |[]=>R.az
 |[a0]=>R.az
 |[a0,a1]=>R.az
 |[a0,a1,a2]=>h a0 a1 a2
 |a0::a1::a2::_::_=>R.az
def lookC(f:Pth)(d:R)(args:List AVal)(H:AH):List (Pth×(List AVal->AH->R))->R
 |[]=>d
 |(q,k)::l=>bif pthEq f q then k args H else lookC f d args H l
abbrev selC(l:List (Pth×(List AVal->AH->R)))(d:Caller):Caller:=λg args H=>match g with
 |.fnv f caps=>lookC f (d (.fnv f caps) args H) (app args caps) H l
 |g=>d g args H
inductive AdqL(F:T8 CFn):List (Pth×(List AVal->AH->R))->Prop where
 |nil:AdqL F []
 |cons {q:Pth} {k:List AVal->AH->R} {l:List (Pth×(List AVal->AH->R))}:Adq F q k->AdqL F l->AdqL F ((q,k)::l)
def noC:Caller:=λ_ _ _=>.no
theorem ah:Cal F noC:=λ_ _ _ _ _ h=>(by cases h)
theorem wR(x:CC->T8 AVal->AH->Out)(f:Pth)(caps args:List AVal)(H:AH):caller F x (.fnv f []) (app args caps) H=caller F x (.fnv f caps) args H:=by simp only[caller,ko]
theorem ae{l:List (Pth×(List AVal->AH->R))}{d:Caller}(hl:AdqL F l)(hd:Cal F d):Cal F (selC l d):=by
 intro g args H v H' h;have other (h:d g args H=.ok v H'):∃n,∀m,n<=m->caller F (exec F m) g args H=.ok v H':=hd g args H v H' h;cases g with
 |fnv f caps=>
  have h3:lookC f (d (.fnv f caps) args H) (app args caps) H l=.ok v H':=h;clear h
  induction hl with
  |nil=>exact other h3
  |@cons q k l ha hl ih=>
   have h4:(bif pthEq f q then k (app args caps) H else lookC f (d (.fnv f caps) args H) (app args caps) H l)=.ok v H':=h3;clear h3;cases hq:pthEq f q with
   |true=>rw[hq]at h4;cases aD.1 hq;obtain⟨n,hn⟩:=ha _ H v H' h4;exact⟨n,λm hm=>(wR _ f caps args H).symm.trans (hn m hm)⟩
   |false=>rw[hq]at h4;exact ih h4
 |_=>exact other h
end Go.Ex
