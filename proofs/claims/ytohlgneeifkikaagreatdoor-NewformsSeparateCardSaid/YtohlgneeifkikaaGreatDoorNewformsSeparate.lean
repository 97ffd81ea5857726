/- The statement NewformsSeparate: its row and its tied card. Conditions: none. -/
import Derived.Test.YtohlgneeifkikaaGreatDoorRows
import Derived.Test.YtohlgneeifkikaaGreatDoorTie
import Derived.Test.YtohlgneeifkikaaGreatDoorCards
import Derived.Lib.SmallJoins
import Derived.Lib.LaidTab
import Derived.ChangeSame
import Derived.ChangeVars
import Derived.JoinedOf
import Derived.RowKit
import Derived.RowKitTokens
import Derived.LaidLaws
import Derived.LaidHandle
import Derived.SevenTiedAt
import Derived.Test.YtohlgneeifkikaaGreatDoorMCJ
import Derived.Test.YtohlgneeifkikaaGreatDoorMCL
import Derived.Test.YtohlgneeifkikaaGreatDoorMCN
set_option maxRecDepth 1000000
set_option maxHeartbeats 0
set_option linter.unusedVariables false
noncomputable section
namespace Go.Proofs.YtohlgneeifkikaaGreatDoor
open Go Go.ChangeShapes Go.WideShapes Go.RowKit Go.Lib Go.Joins
theorem own:ownKnob Tryz.prog.godebug=none:=by kernel_rfl
theorem typed:(Tryz.prog.globals[0]?).map (·.type)=some 337:=by kernel_rfl
theorem Ez:Tryz.prog.underlying 337=some (.array 64 5):=by kernel_rfl
theorem EA:Tryz.prog.underlying 5=some (.int .u8):=by kernel_rfl
theorem EB:Tryz.prog.cellsOf 5=1:=by kernel_rfl
theorem EC:Tryz.prog.cellsOf 337=64:=by kernel_rfl
theorem sI:Tryz.prog.cellsOf 23=3:=by kernel_rfl
def G6(os:Os):World:=
 let w0:=World.holding Tryz.prog os ⟨#[],#[],[]⟩
 {w0 with heap:=w0.heap.modify 0 λ
  |.cells _ t frozen=>.cells (Ex.KV.zs.map λz=>Value.int .u8 z).toArray t frozen
  |o=>o}
theorem EG:Rows.newformsSeparateRow.laid=[("math/bits.deBruijn64tab",tabData .u8 Ex.KV.zs)]:=rfl
theorem ED(os:Os)(args:Array Value):laidMetH Tryz.prog Rows.newformsSeparateRow.laid ((G6 os).forCall (λ_ _=>0) ⟨#[],args,[]⟩).memory:=laidMetH_of_parts (laidMet_of_run' 8 (by kernel_rfl) (by kernel_rfl)) (by kernel_rfl)
theorem EE{W:World}(h:laidMetH Tryz.prog Rows.newformsSeparateRow.laid W):TabIs Tryz.prog W "math/bits.deBruijn64tab" .u8 Ex.KV.zs:=by have h':laidMet Tryz.prog [("math/bits.deBruijn64tab",tabData .u8 Ex.KV.zs)] W:=h;exact tabIs_of_head Ex.KV.sE typed Ez EA EB EC h'
theorem kept{w w':World}{may:MemPlace->Prop}(h1:w'.os=w.os)(h2:w'.output=w.output)(h3:∀i,i<w.heap.size->w'.heap[i]?=w.heap[i]?):w.keptBut w' may:=by
 refine⟨h1,h2,λi hi=>?_⟩;rw[h3 i hi];cases w.heap[i]? with
 |none=>exact rfl
 |some o=>cases o<;>first|exact⟨rfl,rfl,rfl,λ_ _=>rfl⟩|exact .inr ⟨rfl,rfl⟩|exact rfl
theorem mi{H:Type}{enc:TypeId×Value->H}{w:World}{base:Nat}{sp:Nat->Bool}{held:Bool}{n:Int}(hw:(Lit.int .i64 n).wf=true):∃m,DataW.trod enc Tryz.prog w base sp held m 3 [.int .i64 n]=some (.lit (.int .i64 n),[]):=⟨1,by simp[DataW.trod,Tryz.underlying3,hw]⟩
theorem lifted(os:Os)(started:os.Started)(H:Type)(enc:TypeId×Value->H) :
 ReturnsInHanded {} Tryz.checked os 4 .any (λw args=>(Rows.newformsSeparateSpec.pre enc Tryz.prog Tryz.f4 Rows.newformsSeparateRow.domain false w args/\laidMetH Tryz.prog Rows.newformsSeparateRow.laid w)/\sizedMet enc Tryz.prog Tryz.f4 (OpenSpec.ofChange Rows.newformsSeparateSpec) false w args)
  (Rows.newformsSeparateSpec.post enc Tryz.prog Tryz.f4 false true false false):=by
 refine returnsInHanded_of_change_and (C:=Tryz.checked) (X:=λw _=>laidMetH Tryz.prog Rows.newformsSeparateRow.laid w) (λ_ _ _ hh h=>h.of_heap hh) own started (by kernel_rfl) Tryz.func4
  (ChangeSpec.witness_at (enc:=enc) (C:=Tryz.checked) (os:=os) (X:=λw _=>laidMetH Tryz.prog Rows.newformsSeparateRow.laid w) false (G6 os) #[.agg #[.int .i64 0,.int .i64 0,.int .i64 0]] 8 rfl (by kernel_rfl) (by kernel_rfl) (by kernel_rfl) (by kernel_rfl) (by kernel_rfl) (ED os _)) ?_
 intro W base args ds gs before hval0 hW _ _ hL _;have hval:∀(j:Nat) t v,Tryz.f4.params[j]?=some t->args[j]?=some v->Value.okWide Tryz.prog W .any base t v:=hval0;have hW':=hW;obtain⟨p,q,hA0,hV0,rfl,hfz,hnd⟩:=hW;have hA:DataW.TrodAll enc Tryz.prog W 0 (λ_=>true) true Tryz.f4.params.toList args.toList ds p:=hA0;have hV:DataW.TrodVars enc Tryz.prog W (λ_=>true) [] gs q:=hV0;rw[Tryz.params4]at hA hval;obtain⟨v0,d0,rfl,rfl,h0⟩:=trodAll_one hA;obtain⟨x0,x1,x2,y0,y1,y2,n,rfl,rfl,rfl,t0,t1,t2⟩:=open_agg3 Tryz.underlying23 (by kernel_rfl) sI (hval 0 23 v0 rfl rfl) h0;obtain⟨a,ea,rfl,wa⟩:=DataW.trod_int Tryz.underlying3 t0;obtain⟨b,eb,rfl,wb⟩:=DataW.trod_int Tryz.underlying3 t1;obtain⟨c,ec,rfl,wc⟩:=DataW.trod_int Tryz.underlying3 t2;simp only[List.cons.injEq,and_true]at ea eb ec;subst ea eb ec
 obtain⟨rfl,rfl⟩:gs=[]/\q=[]:=by
  cases gs with
  |nil=>exact⟨rfl,hV⟩
  |cons g r=>exact absurd hV (by intro h;cases h)
 refine(Ex.KV.E_ Ex.KP.EK a b c W (EE hL)).mono λe W' ⟨he,hb⟩=>?_
 subst he;refine⟨_,rfl,_,_,_,[],[],[],hW',?_,?_,?_,hb.frame _,λh=>by cases h⟩
 .exact trodAll_mk1 (shut_bool Tryz.underlying4 true)
 .exact trodAll_mk1 (shut_agg3 Tryz.underlying23 (by kernel_rfl) sI (mi wa) (mi wb) (mi wc))
 .rfl
theorem EF:Rows.NewformsSeparateSaid:=
 OpenClaim.holds_of_wide 4 Tryz.f4 rfl rfl rfl rfl rfl rfl rfl ⟨rfl,rfl,rfl,rfl,rfl⟩ rfl rfl rfl rfl rfl sH Tryz.func4 En Eo Ep
  (λos started H enc _=>lifted os started H enc)
theorem newformsSeparate_holds:Rows.NewformsSeparateCardSaid:=
 Claim7.holds_tied_plain_at .later [] [.data] true (true, "0efd8b91bd47a0f5445cd73b1db0b59e75ca4acdd0e44165b06281f5d538a474") false
  EF (λ_ h=>by cases h) Er (λ_ h=>by cases h) newformsSeparate_row_tie rfl ⟨rfl,rfl⟩ Es rfl
  (λf fn hf hfn=>by
   obtain rfl:4=f:=Option.some.inj (sH.symm.trans hf);obtain rfl:Tryz.f4=fn:=Option.some.inj (Tryz.func4.symm.trans hfn)
   exact⟨Et,λj t ht=>by
    rw[Tryz.params4]at ht
    have h3:t=23:=by
     rcases j with _|j
     .simpa using ht.symm
     .simp at ht
    subst h3
    exact Eu⟩)
  Ey
#print axioms newformsSeparate_holds
end Go.Proofs.YtohlgneeifkikaaGreatDoor
